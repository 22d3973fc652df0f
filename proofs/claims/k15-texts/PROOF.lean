import PyProof.Rows.All
import Wide.All
import OpenK.AllK
import Wide.FinOn
import KE.KStateDown
import Lean
import HandS.ForMost
import HandS.Exc
import HandS.Ends
import HandS.More
import HandS.Words
import HandS.WordsExc
import HandS.Defaults
import HandS.TupAny
import HandS.TupLe
import HandS.Zip
import HandS.IsInst
import HandS.Head0
import HandS.Head1
import HandS.Head2
import HandS.HeadEnd
import HandS.HeadHook1
import HandS.HeadHook2
import HandS.Lambda
import HandS.Nested
import HandS.EndTab
import HandS.ExcCtx
import HandS.HotCalls
import HandS.Set
import HandS.SetFor
import HandS.Strs
import PyProof.Rows.SetFrom
import PyProof.Rows.SortShellAny
import PyProof.Rows.SortStr
import HandS.RaiseMore
import PyProof.ListStr
import KE.GoesMore
import HandS.Style
import HandS.Replace
import HandS.WordsDict
import KE.KDictPairs
import HandS.HeadHook4
import HandS.HeadWalk
import PySem.Challenge.RW_keptlooks_k15_texts
set_option Elab.async false
set_option linter.all false
set_option maxRecDepth 100000
set_option maxHeartbeats 0
namespace KU
open PySem PySem.Spec PyProof.Rows L2

/-! ### sets of texts -/
def keyS (e : Int × Value) : Str := match e.2 with
  | .str k _ => k
  | _ => Str.empty
def GoodS (w : World) (e : Int × Value) : Prop := ∃ k tk, e.2 = Value.str k tk ∧ e.1 = hashStr w k
/-- the set of texts at a: ks its members -/
structure SetD (w : World) (es : Array (Int × Value)) (t : SetTable) (ks : List Str) : Prop where
  good : ∀ e ∈ es.toList, GoodS w e
  per : (es.toList.map keyS).Perm ks
  nd : ks.Nodup
  few : es.size < scanBound
  fits : t.fits es.size = true
  ris : Ris t.place.toList
  led : w.params.followText "set-order" = true ∨ t.led = true
def SetS (w : World) (h : Heap) (a : Addr) (ks : List Str) : Prop := ∃ o es ep t, h.get? a = some o ∧ o.ExactSet ∧ o.data = .set es ep t ∧ SetD w es t ks
def insS (ks : List Str) (k : Str) : List Str := if k ∈ ks then ks else k :: ks
abbrev freshO (w : World) : Obj := { cls := .type "set", dict := none, data := .set #[] 0 (.fresh 0 0 (!w.params.followText "set-order")) }
section
variable {P : Program} {w : World} {h h' : Heap} {a : Addr} {ks : List Str}
theorem SetS.at (R : SetS w h a ks) (k : ∀ o, h.get? a = some o → h'.get? a = some o) : SetS w h' a ks := by
  obtain ⟨o, es, ep, t, ho, r⟩ := R
  exact ⟨o, es, ep, t, k o ho, r⟩
theorem SetD.elems {es : Array (Int × Value)} {t : SetTable} (F : SetD w es t ks) : ElemsOf (strKind P w) es.toList := fun e he => by
  obtain ⟨k, tk, h1, h2⟩ := F.good e he
  exact ⟨⟨k, by rw [h1]; exact strKind_is P w k tk, h2⟩, by rw [h1]; rfl⟩
theorem good_key {e : Int × Value} (g : GoodS w e) (k : Str) : (strKind P w).is k e.2 = true ↔ keyS e = k := by
  obtain ⟨k0, tk, h1, _⟩ := g
  unfold keyS
  rw [h1]
  constructor
  · intro q
    have q : Value.isStrOf k (Value.str k0 tk) = true := q
    obtain ⟨u, hu⟩ := Value.isStrOf_shape q
    cases hu
    rfl
  · rintro rfl
    exact strKind_is P w k0 tk
theorem SetD.mem {es : Array (Int × Value)} {t : SetTable} (F : SetD w es t ks) (k : Str) : k ∈ ks ↔ ∃ e ∈ es.toList, (strKind P w).is k e.2 = true := by
  rw [← F.per.mem_iff, List.mem_map]
  exact ⟨fun ⟨e, he, q⟩ => ⟨e, he, (good_key (F.good e he) k).2 q⟩, fun ⟨e, he, q⟩ => ⟨e, he, (good_key (F.good e he) k).1 q⟩⟩
theorem setS_fresh (ho : h.get? a = some (freshO w)) : SetS w h a [] := by
  refine ⟨_, #[], 0, _, ho, ⟨rfl, rfl, rfl⟩, rfl, ⟨fun e he => by simp at he, .nil, .nil, by decide, rfl, List.Pairwise.nil, ?_⟩⟩
  show _ ∨ (!w.params.followText "set-order") = true
  cases w.params.followText "set-order" <;> simp
end
section
variable {P : Program} {w : World} {A : Around} {E : Value → Shared → Prop} {s : Shared} {a : Addr} {ks : List Str}
/-- what is behind a new member: it is stored, and the table laid anew if it is too full -/
theorem tailS {g : Bool → Sem Unit} (hg : ∀ (b : Bool) (s₁ : Shared) (Q' : Unit → Shared → Prop), Q' () s₁ → wpAny (model P w) A (g b) Q' E s₁) {o : Obj} {es : Array (Int × Value)} {ep : Nat} {t : SetTable} (ho : s.heap.get? a = some o) (hex : o.ExactSet) (hd : o.data = .set es ep t)
    {es1 : Array (Int × Value)} {t2 : SetTable} (F : SetD w es1 t2 ks) {was : Bool} {R : Option Bool → Shared → Prop} (hR : ∀ h', Heap.SameBut a s.heap h' → SetS w h' a ks → R (some true) { s with heap := h' }) :
    wpAny (model P w) A (do
      storeSet a es1 t2
      if (!was && t2.tooFull) = true then do
        g (relayAll t2 es1 (SetTable.grown es1.size)).2.2
        storeSet a (relayAll t2 es1 (SetTable.grown es1.size)).1 (relayAll t2 es1 (SetTable.grown es1.size)).2.1
        pure (some true)
      else pure (some true)) R E s := by
  have ho1 := store_at (es' := es1) (t' := t2) ho hd
  have b1 := Heap.SameBut.update s.heap a (Obj.putSet es1 t2)
  refine wpAny_bind (wpAny_storeSet_of ho hd ?_ (fits_of_scanBound F.few))
  split
  · generalize hZ : relayAll t2 es1 (SetTable.grown es1.size) = Z
    have q1 : Z.1.toList.Perm es1.toList := by rw [← hZ]; exact relayAll_perm t2 es1 (SetTable.grown es1.size)
    have q2 : Z.2.1.fits Z.1.size = true := by rw [← hZ]; exact relayAll_fits t2 es1 (SetTable.grown es1.size)
    have q3 : Ris Z.2.1.place.toList := by rw [← hZ]; exact relayAll_ris t2 es1 (SetTable.grown es1.size)
    have q4 : Z.2.1.led = t2.led := by rw [← hZ]; exact relayAll_led t2 es1 (SetTable.grown es1.size)
    have hsz : Z.1.size = es1.size := by rw [← Array.length_toList, q1.length_eq, Array.length_toList]
    have hb2 : Z.1.size < scanBound := by rw [hsz]; exact F.few
    refine wpAny_bind (hg _ _ _ (wpAny_bind (wpAny_storeSet_of ho1 rfl (wpAny_pure (hR _ (b1.trans (Heap.SameBut.update _ a _)) ⟨_, Z.1, _, Z.2.1, store_at ho1 rfl, hex, rfl, ?_⟩)) (fits_of_scanBound hb2))))
    exact ⟨fun e he => F.good e (q1.mem_iff.mp he), (q1.map keyS).trans F.per, F.nd, hb2, q2, q3, F.led.imp id fun z => q4.trans z⟩
  · exact wpAny_pure (hR _ b1 ⟨_, es1, _, t2, ho1, hex, rfl, F⟩)
theorem addS {k : Str} {tk : Tok} {Q : Bool → Shared → Prop} (R : SetS w s.heap a ks) (room : ks.length + 1 < scanBound) (hQ : ∀ b h', Heap.SameBut a s.heap h' → SetS w h' a (insS ks k) → Q b { s with heap := h' }) :
    wpAny (model P w) A (setAddHashed a (.str k tk) ((strKind P w).hash k)) Q E s := by
  obtain ⟨o, es, ep, t, ho, hex, hd, F⟩ := R
  have hkey : (strKind P w).is k (.str k tk) = true := strKind_is P w k tk
  have hsc : (Value.str k tk).scannable = true := rfl
  have hel : ElemsOf (strKind P w) es.toList := F.elems
  have hn : es.size = ks.length := by rw [← Array.length_toList, ← List.length_map (f := keyS), F.per.length_eq]
  unfold setAddHashed setAddHashedIn
  refine wpAny_holding (wpAny_bind (wpAny_setState_of ho hd F.fits ?_))
  dsimp only
  rw [byScan_of hsc F.few hel]
  simp only [↓reduceIte]
  unfold setAddByScan
  refine wpAny_bind (wpAny_bind (wpAny_rule (wpAny_bind (wpAny_setScan_of hkey ho hd F.fits hel ?_))))
  cases hfi : List.findIdx? (fun e => (strKind P w).is k e.2) es.toList with
  | some j =>
    dsimp only
    obtain ⟨hj, pj, _⟩ := List.findIdx?_eq_some_iff_getElem.mp hfi
    have hin : k ∈ ks := (F.mem (P := P) k).2 ⟨es.toList[j], List.getElem_mem hj, pj⟩
    refine wpAny_pure (wpAny_pure (hQ _ s.heap (Heap.SameBut.refl a s.heap) ?_))
    unfold insS
    rw [if_pos hin]
    exact ⟨o, es, ep, t, ho, hex, hd, F⟩
  | none =>
    dsimp only
    have hnk : k ∉ ks := fun z => by
      obtain ⟨e, he, q⟩ := (F.mem (P := P) k).1 z
      have c := List.findIdx?_eq_none_iff.mp hfi e he
      rw [q] at c
      cases c
    have hins : insS ks k = k :: ks := by unfold insS; rw [if_neg hnk]
    have gv : ∀ (b : Bool) {s₁ : Shared} {Q' : Unit → Shared → Prop}, Q' () s₁ → wpAny (model P w) A (match b with
      | true => rule "set.scan.the-table-gave-way"
      | false => pure ()) Q' E s₁ := fun b s₁ Q' q => by cases b <;> first | exact wpAny_pure q | exact wpAny_rule q
    generalize hZ : layNew t es ((strKind P w).hash k) (.str k tk) = Z
    have q1 : Z.1.toList.Perm (es.push ((strKind P w).hash k, .str k tk)).toList := by rw [← hZ]; exact layNew_perm t es ((strKind P w).hash k) (.str k tk)
    have q2 : Z.2.1.fits Z.1.size = true := by rw [← hZ]; exact layNew_fits t es ((strKind P w).hash k) (.str k tk)
    have q3 : Ris Z.2.1.place.toList := by rw [← hZ]; exact layNew_ris t es ((strKind P w).hash k) (.str k tk) F.ris
    have q4 : Z.2.1.led = t.led := by rw [← hZ]; exact layNew_led t es ((strKind P w).hash k) (.str k tk)
    obtain ⟨es1, t1, wasDummy, gave⟩ := Z
    dsimp only at q1 q2 q3 q4 ⊢
    rw [Array.toList_push] at q1
    have pc : es1.toList.Perm (((strKind P w).hash k, Value.str k tk) :: es.toList) := q1.trans (List.perm_append_singleton _ _)
    have hsz : es1.size = ks.length + 1 := by rw [← Array.length_toList, pc.length_eq, List.length_cons, Array.length_toList, hn]
    have G : SetD w es1 t1 (insS ks k) := by
      rw [hins]
      refine ⟨fun e he => ?_, (pc.map keyS).trans (F.per.cons k), List.nodup_cons.mpr ⟨hnk, F.nd⟩, by rw [hsz]; exact room, q2, q3, F.led.imp id fun z => q4.trans z⟩
      rcases List.mem_cons.mp (pc.mem_iff.mp he) with z | z
      · rw [z]; exact ⟨k, tk, rfl, rfl⟩
      · exact F.good e z
    refine wpAny_bind (gv _ ?_)
    split
    · refine wpAny_bind ?_
      rw [hashByValue_scannable 8 hsc]
      refine wpAny_pure (tailS (ks := insS ks k) ?_ ho hex hd ⟨G.good, G.per, G.nd, G.few, ?_, ?_, ?_⟩ ?_)
      · intro b s₁ Q' q; cases b <;> first | exact wpAny_pure q | exact wpAny_rule q
      · first | (split <;> first | exact q2 | exact SetTable.fits_plain_off q2) | exact q2
      · first | (split <;> exact q3) | exact q3
      · first | (split <;> exact G.led) | exact G.led
      · intro h' sb r; dsimp only; exact wpAny_pure (hQ _ h' sb r)
    · refine wpAny_bind (wpAny_pure ?_)
      simp only [↓reduceIte]
      refine tailS (ks := insS ks k) ?_ ho hex hd G ?_
      · intro b s₁ Q' q; cases b <;> first | exact wpAny_pure q | exact wpAny_rule q
      · intro h' sb r; dsimp only; exact wpAny_pure (hQ _ h' sb r)
theorem insS_len (ks : List Str) (k : Str) : (insS ks k).length ≤ ks.length + 1 := by
  unfold insS
  split <;> simp
/-- the members, one by one -/
theorem loopS {I : Addr} {fp wr : List Addr} {G : Array GenState → Array GenState → Prop} {n : Nat} {Pv : Nat → Value → Prop} {St : Nat → Shared → Prop} {R : Result → Shared → Prop}
    (W : WalksS P w A.in1 I fp wr G n Pv St) (S : Addr) (hSf : S ∉ fp) (xs : List Str) (hn : n = xs.length) (hb : xs.length + 1 < scanBound) (hval : ∀ i v, Pv i v → ∃ k t, xs[i]? = some k ∧ v = .str k t) :
    ∀ (m i : Nat) (s : Shared), n - i = m → i ≤ n → St i s → (∀ ks, ks = (xs.take i).foldl insS [] → SetS w s.heap S ks ∧ ks.length ≤ i) →
      (∀ s', Moved (S :: wr) G s s' → SetS w s'.heap S (xs.foldl insS []) → R (.ok (.ret .none)) s') → codeAny (model P w) A (.builtin "set.update.loop" ⟨[.ref S, .ref I], []⟩) R s
  | m, i, s, hm0, hi, hst, hS, hR => by
    have hSw : S ∉ wr := fun h => hSf (W.sub _ h)
    have hsub : ∀ b ∈ wr, b ∈ S :: wr := fun b hb => List.mem_cons_of_mem _ hb
    obtain ⟨hS, hc⟩ := hS _ rfl
    refine codeAny_builtin F.entry_set_update_loop ?_
    rw [Around.under_plainId F.plain_set_update_loop _]
    show wpAny _ A.in1 (pyNext (.ref I) >>= _) _ _ s
    match m, hm0 with
    | 0, hm0 =>
      have hin : i = n := by omega
      subst hin
      refine wpAny_bind (W.done s _ _ hst fun s' hm => ?_)
      show wpAny _ A.in1 (ret Value.none) _ _ s'
      rw [List.take_of_length_le (by omega)] at hS
      exact wpAny_pure (hR s' (hm.mono hsub) (hS.at fun o e => hm.heap S o hSw e))
    | m + 1, hm0 =>
      have hlt : i < n := by omega
      refine wpAny_bind (W.item i s _ _ hlt hst fun v s' hP hst' hm => ?_)
      obtain ⟨z, t, hz, rfl⟩ := hval i v hP
      have hS' := hS.at fun o e => hm.heap S o hSw e
      show wpAny _ A.in1 (holding [Value.str z t] (setAdd S (.str z t)) >>= _) _ _ s'
      refine wpAny_bind (wpAny_holding ?_)
      unfold setAdd
      refine wpAny_holding (wpAny_bind ((strKind P w).pyHash (k := z) (strKind_is _ _ _ _) ?_))
      refine addS (s := { s' with toks := s'.toks + 1 }) hS' (by omega) fun b h' hsb hS2 => ?_
      have e3 : (xs.take (i + 1)).foldl insS [] = insS ((xs.take i).foldl insS []) z := by
        rw [List.take_add_one, hz]
        simp [List.foldl_append]
      refine wpAny_pure ⟨plainId_quiet F.plain_set_update_loop _, loopS W S hSf xs hn hb hval m (i + 1) _ (by omega) hlt (W.frame _ s' _ _ hst' (Nat.le_succ _) fun b hb o e => ?_) (fun ks eks => ?_) fun s'' hm'' hS'' => ?_⟩
      · rw [hsb.2 b (fun h : b = S => hSf (h ▸ hb))]; exact e
      · rw [eks, e3]
        exact ⟨hS2, Nat.le_trans (insS_len _ _) (by omega)⟩
      · refine hR s'' (Moved.trans W.gtrans ((hm.mono hsub).then_heap (Nat.le_succ _) fun b o hb e => ?_) hm'') hS''
        rw [hsb.2 b (fun h : b = S => hb (by rw [h]; exact List.mem_cons_self))]; exact e
end
end KU

namespace KU
open PySem PySem.Spec PyProof.Rows L2
section
variable {P : Program} {w : World} {A : Around} {E : Value → Shared → Prop} {s : Shared} {ks : List Str}
/-- what a source of texts does for a new set -/
def Fills (P : Program) (w : World) (s : Shared) (x : Value) (ks : List Str) : Prop :=
  ∀ (A' : Around) (E' : Value → Shared → Prop) (Q' : Unit → Shared → Prop), A'.handled = none → (∀ (h' : Heap) (tk : Nat), SetS w h' s.heap.objs.size ks → (∀ b o, s.heap.get? b = some o → h'.get? b = some o) → Q' () { s with heap := h', toks := tk }) →
    wpAny (model P w) A' (Builtin.Frozenset.updateFrom "set.__init__" s.heap.objs.size x) Q' E' { s with heap := s.heap.push (freshO w) }
theorem call_setS {x : Value} {Q : Value → Shared → Prop} (hh : A.handled = none) (hf : Fills P w s x ks) (hq : ∀ (h' : Heap) (tk : Nat), SetS w h' s.heap.objs.size ks → (∀ b o, s.heap.get? b = some o → h'.get? b = some o) → Q (.ref s.heap.objs.size) { s with heap := h', toks := tk }) :
    wpAny (model P w) A (call (.type "set") [x]) Q E s := by
  obtain ⟨c, tl, hmro⟩ := F.called_set.mro
  have hmade := F.called_set.made
  have hsub := F.called_set.sub
  have h1 := F.called_set.notType
  have h2 := F.called_set.canCreate
  have hct := F.typeCall_set_1 x
  refine wpAny_call (codeAny_of_tree ?_)
  show wpAny _ _ (callAny (.type "set") _) _ _ _
  refine wpAny_pure ⟨Code.quiet_builtin _ (by decide +kernel), codeAny_builtin F.entry_type_call ?_⟩
  rw [Around.under_plain (weight_type_call_type "set" [x] []) rfl]
  repeat (any_goals (first | assumption | wp_step))
  refine codeAny_mono (code_set_led1 x (E := E) (Q₁ := fun obj s₁ => obj = .ref s.heap.objs.size ∧ s₁ = { s with heap := s.heap.push (freshO w) }) ⟨rfl, rfl⟩) fun r s₁ hr => ?_
  match r, hr with
  | .error e, hr => exact hr
  | .ok (.ret obj), hr =>
    obtain ⟨rfl, rfl⟩ := hr
    have hS : (s.heap.push (freshO w)).get? s.heap.objs.size = some (freshO w) := Heap.get?_push_size _ rfl
    have hT : Shared.TypeIs { s with heap := s.heap.push (freshO w) } (.ref s.heap.objs.size) "set" := ⟨_, hS, rfl⟩
    have hli := F.called_set.init.lookup
    have hbi := F.called_set.init.bind (.ref s.heap.objs.size)
    repeat (any_goals (first | assumption | wp_step))
    refine codeAny_mono (codeAny_call_builtin (R := wants (fun r s₂ => r = .none ∧ ∃ h' tk, s₂ = { s with heap := h', toks := tk } ∧ SetS w h' s.heap.objs.size ks ∧ (∀ b o, s.heap.get? b = some o → h'.get? b = some o)) E) F.called_set.init.plain F.entry_set_init (check_set_init_1 hT ?_)) fun r₂ s₂ hr₂ => ?_
    · unfold Builtin.«set.__init__» noKeywords
      generalize hU : Builtin.Frozenset.updateFrom = U
      wp_walk
      subst hU
      refine hf _ _ _ (by simp [hh]) fun h' tk r1 r2 => ?_
      show wpAny _ _ (ret Value.none) _ _ _
      exact wpAny_pure ⟨rfl, h', tk, rfl, r1, r2⟩
    · match r₂, hr₂ with
      | .error e, hr₂ => exact hr₂
      | .ok (.ret r), hr₂ =>
        obtain ⟨rfl, h', tk, rfl, r1, r2⟩ := hr₂
        repeat (any_goals (first | assumption | wp_step))
        exact hq _ _ r1 r2
      | .ok .next, hr₂ => exact hr₂.elim
      | .ok .brk, hr₂ => exact hr₂.elim
      | .ok .cont, hr₂ => exact hr₂.elim
  | .ok .next, hr => exact hr.elim
  | .ok .brk, hr => exact hr.elim
  | .ok .cont, hr => exact hr.elim
end
end KU

namespace KU
open PySem PySem.Spec PyProof.Rows L2
section
variable {P : Program} {w : World} {A : Around} {E : Value → Shared → Prop} {s : Shared} {ks : List Str}
theorem strs_get : ∀ {us : List Value} {xs : List Str}, StrsAre us xs → ∀ (i : Nat) (v : Value), us[i]? = some v → ∃ k t, xs[i]? = some k ∧ v = .str k t
  | _, _, .nil, i, v, h => by simp at h
  | _, _, .cons n t hr, 0, v, h => by simp at h; exact ⟨n, t, rfl, h.symm⟩
  | _, _, .cons n t hr, i + 1, v, h => by
    obtain ⟨k, u, e1, e2⟩ := strs_get hr i v (by simpa using h)
    exact ⟨k, u, by simpa using e1, e2⟩
theorem fills_list {l : Addr} {items : Array Value} {xs : List Str} (hl : s.heap.IsList l items) (hi : StrsAre items.toList xs) (hb : xs.length + 1 < scanBound) : Fills P w s (.ref l) (xs.foldl insS []) := by
  intro A' E' Q' hh hq
  have hsz : items.size = xs.length := by have := StrsAre.len_eq hi; rwa [Array.length_toList] at this
  obtain ⟨ol, hol, hcl, nl, hdl⟩ := id hl
  have hlS : l < s.heap.objs.size := Heap.lt_size hol
  have hT : Shared.TypeIs { s with heap := s.heap.push (freshO w) } (.ref l) "list" := ⟨ol, Heap.get?_push_of_some _ hol, hcl⟩
  have hl1 : (s.heap.push (freshO w)).IsList l items := hl.push _
  have hS : (s.heap.push (freshO w)).get? s.heap.objs.size = some (freshO w) := Heap.get?_push_size _ rfl
  have hz : (s.heap.push (freshO w)).objs.size = s.heap.objs.size + 1 := Heap.size_push ..
  unfold Builtin.Frozenset.updateFrom Builtin.Frozenset.isAnySet
  have g1 := PySem.F.sub_list_set
  have g2 := PySem.F.sub_list_frozenset
  have hne : (Value.type "list" == Value.type "dict") = false := by decide
  generalize hPI : pyIter = PI
  wp_walk
  subst hPI
  refine wpAny_pyIter_list hl1 (wpAny_bind (wpAny_runValue ?_))
  have hneI : l ≠ (s.heap.push (freshO w)).objs.size := by rw [hz]; exact Nat.ne_of_lt (Nat.lt_succ_of_lt hlS)
  have hSf : s.heap.objs.size ∉ [(s.heap.push (freshO w)).objs.size, l] := by
    rw [hz]
    simp only [List.mem_cons, List.not_mem_nil, or_false, not_or]
    exact ⟨Nat.ne_of_lt (Nat.lt_succ_self _), Nat.ne_of_gt hlS⟩
  refine loopS ((Walks.list (A := A'.in1) hh _ l hneI items).toS) s.heap.objs.size hSf xs hsz hb (fun i v hv => strs_get hi i v (by rw [Array.getElem?_toList]; exact hv)) (items.size - 0) 0 _ (by omega) (Nat.zero_le _) ⟨⟨_, Heap.get?_push_size _ rfl, rfl, rfl⟩, hl1.push _⟩ (fun ks e => ?_) ?_
  · subst e
    exact ⟨setS_fresh (Heap.get?_push_of_some _ hS), Nat.le_refl _⟩
  · intro s' hm hS'
    obtain ⟨h', g', d', tk', os'⟩ := s'
    have eg : g' = s.gens := hm.gens
    have ed : d' = s.drawn := hm.drawn
    have eo : os' = s.os := hm.os
    subst eg; subst ed; subst eo
    refine wpAny_pure (hq h' tk' hS' fun b o e => ?_)
    have hlt : b < s.heap.objs.size := Heap.lt_size e
    refine hm.heap b o ?_ (Heap.get?_push_of_some _ (Heap.get?_push_of_some _ e))
    simp only [List.mem_cons, List.not_mem_nil, or_false, not_or, hz]
    exact ⟨Nat.ne_of_lt hlt, Nat.ne_of_lt (Nat.lt_succ_of_lt hlt)⟩
theorem fills_text {x : Str} {t : Tok} (hb : x.cps.size + 1 < scanBound) : Fills P w s (.str x t) ((x.cps.toList.map fun k => (⟨#[k]⟩ : Str)).foldl insS []) := by
  intro A' E' Q' hh hq
  have hS : (s.heap.push (freshO w)).get? s.heap.objs.size = some (freshO w) := Heap.get?_push_size _ rfl
  have hz : (s.heap.push (freshO w)).objs.size = s.heap.objs.size + 1 := Heap.size_push ..
  unfold Builtin.Frozenset.updateFrom Builtin.Frozenset.isAnySet
  have g1 := PySem.F.sub_str_set
  have g2 := PySem.F.sub_str_frozenset
  have hne : (Value.type "str" == Value.type "dict") = false := by decide
  generalize hPI : pyIter = PI
  wp_walk
  subst hPI
  refine wpAny_pyIter_str fun o St W hst => wpAny_bind (wpAny_runValue ?_)
  have hSf : s.heap.objs.size ∉ [(s.heap.push (freshO w)).objs.size] := by
    rw [hz]
    simp
  refine loopS ((W A'.in1 hh).toS) s.heap.objs.size hSf (x.cps.toList.map fun k => (⟨#[k]⟩ : Str)) (by simp) (by simpa using hb) (fun i v hv => ?_) (x.cps.size - 0) 0 _ (by omega) (Nat.zero_le _) hst (fun ks e => ?_) ?_
  · obtain ⟨k, u, hk, rfl⟩ := hv
    exact ⟨⟨#[k]⟩, u, by rw [List.getElem?_map, Array.getElem?_toList, hk]; rfl, rfl⟩
  · subst e
    exact ⟨setS_fresh (Heap.get?_push_of_some _ hS), Nat.le_refl _⟩
  · intro s' hm hS'
    obtain ⟨h', g', d', tk', os'⟩ := s'
    have eg : g' = s.gens := hm.gens
    have ed : d' = s.drawn := hm.drawn
    have eo : os' = s.os := hm.os
    subst eg; subst ed; subst eo
    refine wpAny_pure (hq h' tk' hS' fun b u e => ?_)
    have hlt : b < s.heap.objs.size := Heap.lt_size e
    refine hm.heap b u ?_ (Heap.get?_push_of_some _ (Heap.get?_push_of_some _ e))
    simp only [List.mem_cons, List.not_mem_nil, or_false, not_or, hz]
    exact ⟨Nat.ne_of_lt hlt, Nat.ne_of_lt (Nat.lt_succ_of_lt hlt)⟩
/-! ### sorted -/
theorem strs_all : ∀ (l : List (Int × Value)), (∀ e ∈ l, GoodS w e) → StrsAre (l.map (·.2)) (l.map keyS)
  | [], _ => .nil
  | e :: l, h => by
    obtain ⟨k, tk, h1, _⟩ := h e List.mem_cons_self
    have q := strs_all l fun u hu => h u (List.mem_cons_of_mem _ hu)
    rw [List.map_cons, List.map_cons, h1, show keyS e = k by unfold keyS; rw [h1]]
    exact .cons k tk q
theorem strs_perm {vs us : List Value} {xs : List Str} (p : vs.Perm us) (h : StrsAre us xs) : ∃ ys, StrsAre vs ys ∧ ys.Perm xs := by
  induction p generalizing xs with
  | nil => exact ⟨xs, h, .refl _⟩
  | cons x p ih =>
    cases h with
    | cons y t r =>
      obtain ⟨ys, r1, r2⟩ := ih r
      exact ⟨y :: ys, .cons y t r1, r2.cons y⟩
  | swap x y l =>
    cases h with
    | cons a t r =>
      cases r with
      | cons b u r => exact ⟨b :: a :: _, .cons b u (.cons a t r), .swap ..⟩
  | trans p q ih1 ih2 =>
    obtain ⟨ys, r1, r2⟩ := ih2 h
    obtain ⟨zs, r3, r4⟩ := ih1 r1
    exact ⟨zs, r3, r4.trans r2⟩
theorem sorted_setS {a : Addr} {Q : Value → Shared → Prop} (R : SetS w s.heap a ks) (hh : A.handled = none)
    (hQ : ∀ s' p (out : Array Value) (c : Nat) (ns : List Str), (∀ b o, s.heap.get? b = some o → s'.heap.get? b = some o) → s'.gens = s.gens → s'.os = s.os → s.heap.objs.size ≤ p → s'.heap.get? p = some (seqObj "list" out c) → StrsAre out.toList ns → sortedS ns = true → ns.Perm ks → Q (.ref p) s') :
    wpAny (model P w) A (call (.builtin "sorted") [.ref a]) Q E s := by
  obtain ⟨o, es, ep, t, ho, hex, hd, F⟩ := R
  have hn : es.size = ks.length := by rw [← Array.length_toList, ← List.length_map (f := keyS), F.per.length_eq]
  refine Calls.call_function_entry kind_sorted plain_sorted entry_sorted (args_sorted1 _) ?_
  unfold Builtin.«sorted»
  refine wpAny_bind (m := checkCount "sorted" 1 1 _) (wpAny_pure (wpAny_bind (collect_set (A := A.in1) hh ⟨o, ho, hex.1, hd⟩ F.fits F.few F.ris F.led fun s1 vs k1 hz g1 o1 pm => ?_)))
  have hvl : vs.length = ks.length := by rw [pm.length_eq, List.length_map, Array.length_toList]; exact hn
  obtain ⟨ys, hy, py⟩ := strs_perm pm (strs_all es.toList F.good)
  have hL : vs.length ≤ sizeLine := by rw [hvl, ← hn]; exact fits_of_scanBound F.few
  refine wpAny_bind (wpAny_newList ?_ hL)
  have hoL : (s1.heap.push (seqObj "list" vs.toArray 0)).get? s1.heap.objs.size = some (seqObj "list" vs.toArray 0) := Heap.get?_push_size _ rfl
  refine wpAny_bind (wpAny_holding (wpAny_call_entry slot_list_sort ⟨_, hoL, rfl⟩ entry_list_sort (list_sort_treeKAny strKind_oneLt hoL hy.keysOf (fun v₁ v₂ rest e => keyKind_strs (by rw [← e]; exact hy)) hL fun st' hp hs => ⟨_, rfl, ?_⟩) (args_list_sort _)))
  obtain ⟨ss, r1, r2, r3⟩ := sorted_out_str hy hp hs
  obtain ⟨c, hc⟩ := sortedHeap_at (vs := vs) (out := (arrOf st').map (·.2)) hoL
  refine wpAny_pure ⟨_, rfl, hQ _ s1.heap.objs.size _ c ss (fun b u e => ?_) g1 o1 hz hc r1 r3 ((r2.trans py).trans F.per)⟩
  have q := k1 b u e
  have hlt := Heap.lt_size q
  show (sortedHeap (s1.heap.push (seqObj "list" vs.toArray 0)) s1.heap.objs.size vs _).get? b = some u
  rw [sortedHeap_old (Nat.ne_of_lt hlt) (by rw [size_push']; exact Nat.lt_succ_of_lt hlt)]
  exact Heap.get?_push_of_some _ q
end
end KU

namespace KL
open PySem L2

/-! ### data, store, results -/
inductive D where
  | non | bl (b : Bool) | int (i : Int) | str (x : Str) | tup (ds : List D) | lst (ds : List D) | loc (n : Nat) | scr (ns : List Int) | clo (t : Nat) (ds : List D) | raw (ds : List D)
inductive O where
  | lst (ds : List D) | dct (lk : Bool) (kvs : List (Str × D)) | dcT (lk : Bool) (kvs : List (List Int × D)) | ins (C : Str) (fs : List (Str × D))
abbrev Sto := List O
inductive R (α : Type) where
  | ok (a : α) (st : Sto) | ex (c : Str) (st : Sto) | no
def R.bind {α β : Type} (r : R α) (k : α → Sto → R β) : R β := match r with
  | .ok a st => k a st
  | .ex c st => .ex c st
  | .no => .no
/-- a name's content: a value, or a list that the frame alone holds -/
inductive Cell where
  | val (d : D) | own (ds : List D) | clo (t : Nat) (ds : List D)
abbrev Rho := List (Option Cell)
/-- what an expression gives: a value, a look at an own list, a new list that nobody holds yet -/
inductive TV where
  | d (d : D) | o (i : Nat) | fr (ds : List D)
abbrev Sm := Rho → Sto → R TV

/-! ### relations -/
/-- a lambda of the program: its words, its parameters, what it captures -/
structure LamD where
  qual : Str
  params : Arguments
  body : Expr
  scope : Scope
  ps : List Str
  fr : List Str
structure Ct where
  K : PySem.W.Frag
  ca : Str → Addr
  xc : Str → Value
  T : List (Addr × Str)
  L : List LamD
/-- an object that stands as it is -/
def PinO (a : Addr) (o : Obj) : HO := .ext fun h => h.get? a = some o
def KTup (K : PySem.W.Frag) (a : Addr) (xs : List V) : Prop := ∃ (o : Obj) (its : Array Value) (n : Nat), K.lookup a = some o ∧ o.cls = .type "tuple" ∧ o.dict = none ∧ o.data = .seq its n ∧ its.size ≤ sizeLine ∧ Vals xs its.toList
def KLst (K : PySem.W.Frag) (a : Addr) (xs : List V) : Prop := ∃ (o : Obj) (its : Array Value) (n : Nat), K.lookup a = some o ∧ o.cls = .type "list" ∧ o.dict = none ∧ o.data = .seq its n ∧ its.size ≤ sizeLine ∧ Vals xs its.toList
mutual
inductive Rv (c : Ct) (F : Hp) (io : List Addr) : V → D → Prop
  | non : Rv c F io .non .non
  | bl (b : Bool) : Rv c F io (.bl b) (.bl b)
  | int (i : Int) : Rv c F io (.int i) (.int i)
  | str (x : Str) : Rv c F io (.str x) (.str x)
  | tup {a : Addr} {vs : List V} {ds : List D} : ((∃ o, F a = some (.frz o (.tup vs)) ∧ a ∉ io ∧ o.dict = none) ∨ KTup c.K a vs) → RvAll c F io vs ds → Rv c F io (.ref a) (.tup ds)
  | raw {a : Addr} {vs : List V} {ds : List D} : F a = some (.tup vs) → a ∉ io → RvAll c F io vs ds → Rv c F io (.ref a) (.raw ds)
  | lst {a : Addr} {vs : List V} {ds : List D} : F a = some (.lst vs) → a ∉ io → RvAll c F io vs ds → Rv c F io (.ref a) (.lst ds)
  | loc {a : Addr} {n : Nat} : io[n]? = some a → Rv c F io (.ref a) (.loc n)
  | scr {a : Addr} {ns : List Int} : ((Rd F a (.lst (ns.map V.int)) ∧ a ∉ io) ∨ KLst c.K a (ns.map V.int)) → Rv c F io (.ref a) (.scr ns)
inductive RvAll (c : Ct) (F : Hp) (io : List Addr) : List V → List D → Prop
  | nil : RvAll c F io [] []
  | cons {v : V} {vs : List V} {d : D} {ds : List D} : Rv c F io v d → RvAll c F io vs ds → RvAll c F io (v :: vs) (d :: ds)
end
/-- the named values, in order -/
inductive RvF {κ : Type} (c : Ct) (F : Hp) (io : List Addr) : List (κ × V) → List (κ × D) → Prop
  | nil : RvF c F io [] []
  | cons {x : κ} {v : V} {vs : List (κ × V)} {d : D} {ds : List (κ × D)} : Rv c F io v d → RvF c F io vs ds → RvF c F io ((x, v) :: vs) ((x, d) :: ds)
/-- what of the text the class of an instance has -/
def ClsOk (c : Ct) (C : Str) (fs : List (Str × D)) : Prop := Cls c.K (c.ca C) ∧ ∀ p ∈ fs, NoAttr c.K (c.ca C) p.1
def Ob (c : Ct) (F : Hp) (io : List Addr) (a : Addr) : O → Prop
  | .lst ds => ∃ vs, F a = some (.lst vs) ∧ RvAll c F io vs ds
  | .dct false kvs => ∃ vs, F a = some (.dK (vs.map fun p => (Sum.inr p.1, p.2))) ∧ RvF c F io vs kvs
  | .dct true kvs => ∃ ob vs, F a = some (.frz ob (.dK (vs.map fun p => (Sum.inr p.1, p.2)))) ∧ RvF c F io vs kvs
  | .dcT false kvs => ∃ vs, F a = some (.dT (vs.map fun p => (p.1.map Sum.inl, p.2))) ∧ RvF c F io vs kvs
  | .dcT true kvs => ∃ ob vs, F a = some (.frz ob (.dT (vs.map fun p => (p.1.map Sum.inl, p.2)))) ∧ RvF c F io vs kvs
  | .ins C fs => ∃ dx vs, F a = some (.ins (c.ca C) dx vs) ∧ F dx = some (.own a) ∧ dx ∉ io ∧ ClsOk c C fs ∧ RvF c F io vs fs
structure Sim (c : Ct) (F : Hp) (io : List Addr) (st : Sto) : Prop where
  len : io.length = st.length
  nd : io.Nodup
  ob : ∀ (n : Nat) (a : Addr) (o : O), io[n]? = some a → st[n]? = some o → Ob c F io a o
/-- no table of code objects is leant on -/
def NT (F : Hp) : Prop := ∀ a ps, F a ≠ some (HO.tbl ps)
theorem NT.upd {F : Hp} {p : Addr} {o : HO} (h : NT F) (ho : ∀ ps, o ≠ .tbl ps) : NT (upd F p o) := fun a ps e => by
  by_cases z : a = p
  · subst z; rw [upd_same] at e; exact ho ps (Option.some.inj e)
  · rw [upd_ne z] at e; exact h a ps e
/-- from one state to a later one: F what is leant on, io the store's places, H the heap -/
structure Stp (c : Ct) (F : Hp) (io : List Addr) (H F' : Hp) (io' : List Addr) (H' : Hp) : Prop where
  sub : ∀ a o, F' a = some o → H' a = some o
  ext : ∃ more, io' = io ++ more
  per : ∀ a o, F a = some o → a ∉ io → F' a = some o
  new : ∀ a, F' a ≠ none → F a ≠ none ∨ H a = none
  fr : ∀ a o, H a = some o → a ∉ io → (∀ ps, o ≠ .tbl ps) → H' a = some o
  gro : ∀ a, H' a = none → H a = none
  nio : ∀ a, a ∈ io' → a ∈ io ∨ H a = none
  tab : LamX.Tabs c.T H → LamX.Tabs c.T H'
  ntb : NT F → NT F'

section
variable {c : Ct} {F F' F1 F2 H H' H1 H2 : Hp} {io io' io1 io2 : List Addr} {st st' : Sto}
theorem Ob.dom {a : Addr} {o : O} (h : Ob c F io a o) : F a ≠ none := by
  cases o with
  | lst ds => obtain ⟨vs, e, _⟩ := h; rw [e]; simp
  | dct lk kvs => cases lk with
    | false => obtain ⟨vs, e, _⟩ := h; rw [e]; simp
    | true => obtain ⟨ob, vs, e, _⟩ := h; rw [e]; simp
  | dcT lk kvs => cases lk with
    | false => obtain ⟨vs, e, _⟩ := h; rw [e]; simp
    | true => obtain ⟨ob, vs, e, _⟩ := h; rw [e]; simp
  | ins C fs => obtain ⟨dx, vs, e, _⟩ := h; rw [e]; simp
theorem Sim.dom (h : Sim c F io st) {a : Addr} (ha : a ∈ io) : F a ≠ none := by
  obtain ⟨n, hn⟩ := List.getElem?_of_mem ha
  have hl : n < st.length := by rw [← h.len]; exact (List.getElem?_eq_some_iff.mp hn).1
  exact (h.ob n a _ hn (List.getElem?_eq_getElem hl)).dom
theorem Stp.refl (hs : ∀ a o, F a = some o → H a = some o) : Stp c F io H F io H :=
  ⟨hs, ⟨[], by simp⟩, fun _ _ h _ => h, fun _ h => .inl h, fun _ _ h _ _ => h, fun _ h => h, fun _ h => .inl h, fun h => h, fun h => h⟩
theorem Stp.trans (hs : ∀ a o, F a = some o → H a = some o) (a : Stp c F io H F1 io1 H1) (b : Stp c F1 io1 H1 F2 io2 H2) : Stp c F io H F2 io2 H2 := by
  have nin : ∀ x o, H x = some o → x ∉ io → x ∉ io1 := fun x o h hn hx => by
    rcases a.nio x hx with z | z
    · exact hn z
    · rw [h] at z; cases z
  refine ⟨b.sub, ?_, fun x o h hn => b.per x o (a.per x o h hn) (nin x o (hs x o h) hn), fun x h => ?_, fun x o h hn ht => b.fr x o (a.fr x o h hn ht) (nin x o h hn) ht, fun x h => a.gro x (b.gro x h), fun x h => ?_, fun h => b.tab (a.tab h), fun h => b.ntb (a.ntb h)⟩
  · obtain ⟨m1, e1⟩ := a.ext
    obtain ⟨m2, e2⟩ := b.ext
    exact ⟨m1 ++ m2, by rw [e2, e1, List.append_assoc]⟩
  · rcases b.new x h with z | z
    · exact a.new x z
    · exact .inr (a.gro x z)
  · rcases b.nio x h with z | z
    · exact a.nio x z
    · exact .inr (a.gro x z)
theorem Stp.frL (S : Stp c F io H F' io' H') (a : Addr) (vs : List V) (h : H a = some (.lst vs)) (n : a ∉ io) : H' a = some (.lst vs) := S.fr a _ h n fun ps z => by cases z
theorem Stp.stays (S : Stp c F io H F' io' H') (hs : ∀ a o, F a = some o → H a = some o) {a : Addr} {o : HO} (h : F a = some o) (hn : a ∉ io) : a ∉ io' := fun hx => by
  rcases S.nio a hx with z | z
  · exact hn z
  · rw [hs a o h] at z; cases z
theorem Stp.ix (S : Stp c F io H F' io' H') {n : Nat} {a : Addr} (h : io[n]? = some a) : io'[n]? = some a := by
  obtain ⟨m, e⟩ := S.ext
  rw [e, List.getElem?_append_left (List.getElem?_eq_some_iff.mp h).1]
  exact h
mutual
theorem Rv.step {v : V} {d : D} (S : Stp c F io H F' io' H') (hs : ∀ a o, F a = some o → H a = some o) : Rv c F io v d → Rv c F' io' v d
  | .non => .non
  | .bl b => .bl b
  | .int i => .int i
  | .str x => .str x
  | .tup h r => .tup (h.imp (fun ⟨o, h1, h2, h3⟩ => ⟨o, S.per _ _ h1 h2, S.stays hs h1 h2, h3⟩) id) (RvAll.step S hs r)
  | .raw h n r => .raw (S.per _ _ h n) (S.stays hs h n) (RvAll.step S hs r)
  | .lst h n r => .lst (S.per _ _ h n) (S.stays hs h n) (RvAll.step S hs r)
  | .loc h => .loc (S.ix h)
  | .scr h => .scr (h.imp (fun ⟨h, n⟩ => by
      rcases h with h | ⟨o, h⟩
      · exact ⟨.inl (S.per _ _ h n), S.stays hs h n⟩
      · exact ⟨.inr ⟨o, S.per _ _ h n⟩, S.stays hs h n⟩) id)
theorem RvAll.step {vs : List V} {ds : List D} (S : Stp c F io H F' io' H') (hs : ∀ a o, F a = some o → H a = some o) : RvAll c F io vs ds → RvAll c F' io' vs ds
  | .nil => .nil
  | .cons h r => .cons (Rv.step S hs h) (RvAll.step S hs r)
end
theorem RvF.step {κ : Type} (S : Stp c F io H F' io' H') (hs : ∀ a o, F a = some o → H a = some o) : ∀ {vs : List (κ × V)} {ds : List (κ × D)}, RvF c F io vs ds → RvF c F' io' vs ds
  | _, _, .nil => .nil
  | _, _, .cons h r => .cons (h.step S hs) (RvF.step S hs r)
/-- the store's objects left as they are -/
theorem Sim.step (h : Sim c F io st) (S : Stp c F io H F' io' H') (hs : ∀ a o, F a = some o → H a = some o) (he : io' = io) (hk : ∀ a ∈ io, F' a = F a) : Sim c F' io' st := by
  subst he
  refine ⟨h.len, h.nd, fun n a o e1 e2 => ?_⟩
  have q := h.ob n a o e1 e2
  have ka := hk a (List.mem_of_getElem? e1)
  cases o with
  | lst ds => obtain ⟨vs, e, r⟩ := q; exact ⟨vs, by rw [ka]; exact e, r.step S hs⟩
  | dct lk kvs => cases lk with
    | false => obtain ⟨vs, e, r⟩ := q; exact ⟨vs, by rw [ka]; exact e, r.step S hs⟩
    | true => obtain ⟨ob, vs, e, r⟩ := q; exact ⟨ob, vs, by rw [ka]; exact e, r.step S hs⟩
  | dcT lk kvs => cases lk with
    | false => obtain ⟨vs, e, r⟩ := q; exact ⟨vs, by rw [ka]; exact e, r.step S hs⟩
    | true => obtain ⟨ob, vs, e, r⟩ := q; exact ⟨ob, vs, by rw [ka]; exact e, r.step S hs⟩
  | ins C fs => obtain ⟨dx, vs, e, e2, e3, k, r⟩ := q; exact ⟨dx, vs, by rw [ka]; exact e, S.per _ _ e2 e3, e3, k, r.step S hs⟩
theorem RvAll.length : ∀ {vs : List V} {ds : List D}, RvAll c F io vs ds → vs.length = ds.length
  | _, _, .nil => rfl
  | _, _, .cons _ r => by rw [List.length_cons, List.length_cons, r.length]
theorem RvAll.append : ∀ {vs ws : List V} {ds es : List D}, RvAll c F io vs ds → RvAll c F io ws es → RvAll c F io (vs ++ ws) (ds ++ es)
  | _, _, _, _, .nil, s => s
  | _, _, _, _, .cons h r, s => .cons h (r.append s)
theorem RvAll.get : ∀ {vs : List V} {ds : List D} {i : Nat} {d : D}, RvAll c F io vs ds → ds[i]? = some d → ∃ v, vs[i]? = some v ∧ Rv c F io v d
  | _, _, 0, _, .cons h _, e => by simp at e; subst e; exact ⟨_, rfl, h⟩
  | _, _, i + 1, d, .cons _ r, e => by
    obtain ⟨v, e1, e2⟩ := RvAll.get (i := i) (d := d) r (by simpa using e)
    exact ⟨v, by simpa using e1, e2⟩
  | _, _, _, _, .nil, e => by simp at e
theorem RvAll.getV : ∀ {vs : List V} {ds : List D} {i : Nat} {v : V}, RvAll c F io vs ds → vs[i]? = some v → ∃ d, ds[i]? = some d ∧ Rv c F io v d
  | _, _, 0, _, .cons h _, e => by simp at e; subst e; exact ⟨_, rfl, h⟩
  | _, _, i + 1, d, .cons _ r, e => by
    obtain ⟨v, e1, e2⟩ := RvAll.getV (i := i) (v := d) r (by simpa using e)
    exact ⟨v, by simpa using e1, e2⟩
  | _, _, _, _, .nil, e => by simp at e
theorem RvAll.take (n : Nat) : ∀ {vs : List V} {ds : List D}, RvAll c F io vs ds → RvAll c F io (vs.take n) (ds.take n) := by
  induction n with
  | zero => intro vs ds h; simp; exact .nil
  | succ n ih =>
    intro vs ds h
    cases h with
    | nil => simp; exact .nil
    | cons h r => simp; exact .cons h (ih r)
theorem RvAll.drop (n : Nat) : ∀ {vs : List V} {ds : List D}, RvAll c F io vs ds → RvAll c F io (vs.drop n) (ds.drop n) := by
  induction n with
  | zero => intro vs ds h; simpa using h
  | succ n ih =>
    intro vs ds h
    cases h with
    | nil => simp; exact .nil
    | cons h r => simpa using ih r
end

/-! ### closures -/
abbrev lamObj (ld : LamD) (cl : List (Str × Addr)) (pm : Value) (c' : Addr) (ctv : Value) : Obj := PySem.W.kla_obj "<lambda>" ld.qual ld.params ld.body ld.scope cl pm c' ctv
/-- the captured cells hold the values -/
inductive CapR (c : Ct) (F : Hp) (io : List Addr) (cl : List (Str × Addr)) : List Str → List D → Prop
  | nil : CapR c F io cl [] []
  | cons {y : Str} {a : Addr} {co : Obj} {u : Value} {v : V} {d : D} {ys : List Str} {ds : List D} : cl.lookup y = some a → F a = some (PinO a co) → a ∉ io → co.data = .cell (some u) → RelV v u → Rv c F io v d → CapR c F io cl ys ds → CapR c F io cl (y :: ys) (d :: ds)
/-- a closure: the lambda t, with what it captured -/
def Rc (c : Ct) (F : Hp) (io : List Addr) (v : V) (t : Nat) (cs : List D) : Prop := ∃ (ld : LamD) (f c' : Addr) (cl : List (Str × Addr)) (pm ctv : Value), v = .ref f ∧ c.L[t]? = some ld ∧ F f = some (PinO f (lamObj ld cl pm c' ctv)) ∧ f ∉ io ∧ F c' = some (LamX.CodeO c' ld.qual) ∧ c' ∉ io ∧
  (∀ x y a, cl.lookup x = some a → cl.lookup y = some a → x = y) ∧ (∀ y a, cl.lookup y = some a → y ∈ ld.fr) ∧ CapR c F io cl ld.fr cs
section
variable {c : Ct} {F F' F1 F2 H H' H1 H2 : Hp} {io io' io1 io2 : List Addr} {st st' : Sto} {cl : List (Str × Addr)}
theorem CapR.imp (hf : ∀ a o, F a = some o → a ∉ io → F' a = some o ∧ a ∉ io') (hr : ∀ v d, Rv c F io v d → Rv c F' io' v d) : ∀ {ys : List Str} {ds : List D}, CapR c F io cl ys ds → CapR c F' io' cl ys ds
  | _, _, .nil => .nil
  | _, _, .cons h1 h2 h3 h4 h5 h6 r => .cons h1 (hf _ _ h2 h3).1 (hf _ _ h2 h3).2 h4 h5 (hr _ _ h6) (CapR.imp hf hr r)
theorem Rc.imp {v : V} {t : Nat} {cs : List D} (hf : ∀ a o, F a = some o → a ∉ io → F' a = some o ∧ a ∉ io') (hr : ∀ v d, Rv c F io v d → Rv c F' io' v d) (h : Rc c F io v t cs) : Rc c F' io' v t cs := by
  obtain ⟨ld, f, c', cl, pm, ctv, h1, h2, h3, h4, h5, h6, h7, h8, h9⟩ := h
  exact ⟨ld, f, c', cl, pm, ctv, h1, h2, (hf _ _ h3 h4).1, (hf _ _ h3 h4).2, (hf _ _ h5 h6).1, (hf _ _ h5 h6).2, h7, h8, h9.imp hf hr⟩
theorem Rc.step {v : V} {t : Nat} {cs : List D} (h : Rc c F io v t cs) (S : Stp c F io H F' io' H') (hs : ∀ a o, F a = some o → H a = some o) : Rc c F' io' v t cs :=
  h.imp (fun a o e n => ⟨S.per a o e n, S.stays hs e n⟩) fun v d r => r.step S hs
end
/-- an argument: a value or a closure -/
def RvA (c : Ct) (F : Hp) (io : List Addr) (v : V) : D → Prop
  | .clo t cs => Rc c F io v t cs
  | d => Rv c F io v d
inductive RvAs (c : Ct) (F : Hp) (io : List Addr) : List V → List D → Prop
  | nil : RvAs c F io [] []
  | cons {v : V} {vs : List V} {d : D} {ds : List D} : RvA c F io v d → RvAs c F io vs ds → RvAs c F io (v :: vs) (d :: ds)
section
variable {c : Ct} {F F' H H' : Hp} {io io' : List Addr}
theorem RvA.of {v : V} {d : D} (h : Rv c F io v d) : RvA c F io v d := by
  cases d with
  | clo t cs => cases h
  | _ => exact h
theorem RvA.step {v : V} {d : D} (h : RvA c F io v d) (S : Stp c F io H F' io' H') (hs : ∀ a o, F a = some o → H a = some o) : RvA c F' io' v d := by
  cases d with
  | clo t cs => exact Rc.step h S hs
  | _ => exact Rv.step S hs h
theorem RvAs.of : ∀ {vs : List V} {ds : List D}, RvAll c F io vs ds → RvAs c F io vs ds
  | _, _, .nil => .nil
  | _, _, .cons h r => .cons (RvA.of h) (RvAs.of r)
theorem RvAs.step (S : Stp c F io H F' io' H') (hs : ∀ a o, F a = some o → H a = some o) : ∀ {vs : List V} {ds : List D}, RvAs c F io vs ds → RvAs c F' io' vs ds
  | _, _, .nil => .nil
  | _, _, .cons h r => .cons (RvA.step h S hs) (RvAs.step S hs r)
theorem RvAs.length : ∀ {vs : List V} {ds : List D}, RvAs c F io vs ds → vs.length = ds.length
  | _, _, .nil => rfl
  | _, _, .cons _ r => by rw [List.length_cons, List.length_cons, r.length]
theorem RvAs.get : ∀ {vs : List V} {ds : List D} {i : Nat} {d : D}, RvAs c F io vs ds → ds[i]? = some d → ∃ v, vs[i]? = some v ∧ RvA c F io v d
  | _, _, 0, _, .cons h _, e => by simp at e; subst e; exact ⟨_, rfl, h⟩
  | _, _, i + 1, d, .cons _ r, e => by
    obtain ⟨v, e1, e2⟩ := RvAs.get (i := i) (d := d) r (by simpa using e)
    exact ⟨v, by simpa using e1, e2⟩
  | _, _, _, _, .nil, e => by simp at e
end

/-! ### the frame -/
structure Bs where
  F : Hp
  io : List Addr
  H : Hp
structure Good (c : Ct) (B : Bs) (F : Hp) (io : List Addr) (st : Sto) (rh : Rho) (σ : St) (H : Hp) : Prop where
  bsub : ∀ a o, B.F a = some o → B.H a = some o
  btab : LamX.Tabs c.T B.H
  bnt : NT B.F
  len : rh.length = σ.length
  stp : Stp c B.F B.io B.H F io H
  sim : Sim c F io st
  val : ∀ (i : Nat) (d : D), rh[i]? = some (some (.val d)) → ∃ v, σ[i]? = some (some v) ∧ Rv c F io v d
  own : ∀ (i : Nat) (ds : List D), rh[i]? = some (some (.own ds)) → ∃ a vs, σ[i]? = some (some (.ref a)) ∧ H a = some (.lst vs) ∧ F a = none ∧ B.H a = none ∧ RvAll c F io vs ds
  dis : ∀ (i j : Nat) (ds es : List D) (v : V), rh[i]? = some (some (.own ds)) → rh[j]? = some (some (.own es)) → σ[i]? = some (some v) → σ[j]? = some (some v) → i = j
  clo : ∀ (i t : Nat) (ds : List D), rh[i]? = some (some (.clo t ds)) → ∃ v, σ[i]? = some (some v) ∧ Rc c F io v t ds
section
variable {c : Ct} {B : Bs} {F F' H H' : Hp} {io io' : List Addr} {st st' : Sto} {rh : Rho} {σ : St}
theorem Good.sub (g : Good c B F io st rh σ H) : ∀ a o, F a = some o → H a = some o := g.stp.sub
theorem Good.step (g : Good c B F io st rh σ H) (S : Stp c F io H F' io' H') (s' : Sim c F' io' st') : Good c B F' io' st' rh σ H' := by
  refine ⟨g.bsub, g.btab, g.bnt, g.len, g.stp.trans g.bsub S, s', fun i d e => ?_, fun i ds e => ?_, g.dis, fun i t ds e => let ⟨v, e1, r⟩ := g.clo i t ds e; ⟨v, e1, r.step S g.sub⟩⟩
  · obtain ⟨v, e1, r⟩ := g.val i d e
    exact ⟨v, e1, r.step S g.sub⟩
  · obtain ⟨a, vs, e1, e2, e3, e4, r⟩ := g.own i ds e
    have nio : a ∉ io := fun h => g.sim.dom h e3
    refine ⟨a, vs, e1, S.fr a _ e2 nio (fun ps z => by cases z), ?_, e4, r.step S g.sub⟩
    cases q : F' a with
    | none => rfl
    | some o =>
      rcases S.new a (by rw [q]; simp) with z | z
      · exact absurd e3 z
      · rw [e2] at z; cases z
theorem Good.fresh (g : Good c B F io st rh σ H) {p : Addr} (h : H p = none) : F p = none ∧ p ∉ io ∧ B.H p = none := by
  have h1 : F p = none := by
    cases q : F p with
    | none => rfl
    | some o => rw [g.sub p o q] at h; cases h
  exact ⟨h1, fun z => g.sim.dom z h1, g.stp.gro p h⟩
/-- a new object that is leant on from now on -/
theorem Stp.add {p : Addr} {o : HO} (hs : ∀ a o, F a = some o → H a = some o) (h : H p = none) (ht : ∀ ps, o ≠ .tbl ps := by intro _ z; cases z) : Stp c F io H (upd F p o) io (upd H p o) := by
  have ne : ∀ a u, H a = some u → a ≠ p := fun a u e z => by subst z; rw [h] at e; cases e
  refine ⟨fun a u e => ?_, ⟨[], by simp⟩, fun a u e _ => ?_, fun a e => ?_, fun a u e _ _ => ?_, fun a e => ?_, fun _ h => .inl h, fun h0 => h0.ext fun a u e => by rw [upd_ne (ne a u e)]; exact e, fun h => h.upd ht⟩
  · by_cases z : a = p
    · subst z; rw [upd_same] at e ⊢; exact e
    · rw [upd_ne z] at e ⊢; exact hs a u e
  · rw [upd_ne (ne a u (hs a u e))]; exact e
  · by_cases z : a = p
    · subst z; exact .inr h
    · rw [upd_ne z] at e; exact .inl e
  · rw [upd_ne (ne a u e)]; exact e
  · by_cases z : a = p
    · subst z; exact h
    · rw [upd_ne z] at e; exact e
/-- a new object that is not leant on yet -/
theorem Stp.lay {p : Addr} {o : HO} (hs : ∀ a o, F a = some o → H a = some o) (h : H p = none) : Stp c F io H F io (upd H p o) := by
  have ne : ∀ a u, H a = some u → a ≠ p := fun a u e z => by subst z; rw [h] at e; cases e
  refine ⟨fun a u e => ?_, ⟨[], by simp⟩, fun a u e _ => e, fun a e => .inl e, fun a u e _ _ => ?_, fun a e => ?_, fun _ h => .inl h, fun h0 => h0.ext fun a u e => by rw [upd_ne (ne a u e)]; exact e, fun h => h⟩
  · rw [upd_ne (ne a u (hs a u e))]; exact hs a u e
  · rw [upd_ne (ne a u e)]; exact e
  · by_cases z : a = p
    · subst z; exact h
    · rw [upd_ne z] at e; exact e
/-- what was new at the start of a step is leant on behind it -/
theorem Stp.lean {p : Addr} {o : HO} (S : Stp c F io H F' io' H') (h : H p = none) (h' : H' p = some o) (hn : F' p = none) (ht : ∀ ps, o ≠ .tbl ps := by intro _ z; cases z) : Stp c F io H (upd F' p o) io' H' := by
  refine ⟨fun a u e => ?_, S.ext, fun a u e n => ?_, fun a e => ?_, S.fr, S.gro, S.nio, S.tab, fun h => (S.ntb h).upd ht⟩
  · by_cases z : a = p
    · subst z; rw [upd_same] at e; rw [h']; exact e
    · rw [upd_ne z] at e; exact S.sub a u e
  · have q := S.per a u e n
    rw [upd_ne (fun z => by subst z; rw [hn] at q; cases q)]; exact q
  · by_cases z : a = p
    · subst z; exact .inr h
    · rw [upd_ne z] at e; exact S.new a e
mutual
theorem Rv.more {v : V} {d : D} (hm : ∀ a o, F a = some o → F' a = some o) : Rv c F io v d → Rv c F' io v d
  | .non => .non
  | .bl b => .bl b
  | .int i => .int i
  | .str x => .str x
  | .tup h r => .tup (h.imp (fun ⟨o, h1, h2, h3⟩ => ⟨o, hm _ _ h1, h2, h3⟩) id) (RvAll.more hm r)
  | .raw h n r => .raw (hm _ _ h) n (RvAll.more hm r)
  | .lst h n r => .lst (hm _ _ h) n (RvAll.more hm r)
  | .loc h => .loc h
  | .scr h => .scr (h.imp (fun ⟨h, n⟩ => by
      rcases h with h | ⟨o, h⟩
      · exact ⟨.inl (hm _ _ h), n⟩
      · exact ⟨.inr ⟨o, hm _ _ h⟩, n⟩) id)
theorem RvAll.more {vs : List V} {ds : List D} (hm : ∀ a o, F a = some o → F' a = some o) : RvAll c F io vs ds → RvAll c F' io vs ds
  | .nil => .nil
  | .cons h r => .cons (Rv.more hm h) (RvAll.more hm r)
end
theorem RvF.more {κ : Type} (hm : ∀ a o, F a = some o → F' a = some o) : ∀ {vs : List (κ × V)} {ds : List (κ × D)}, RvF c F io vs ds → RvF c F' io vs ds
  | _, _, .nil => .nil
  | _, _, .cons h r => .cons (h.more hm) (RvF.more hm r)
theorem Sim.more (h : Sim c F io st) (hm : ∀ a o, F a = some o → F' a = some o) : Sim c F' io st := by
  refine ⟨h.len, h.nd, fun n a o e1 e2 => ?_⟩
  have q := h.ob n a o e1 e2
  cases o with
  | lst ds => obtain ⟨vs, e, r⟩ := q; exact ⟨vs, hm _ _ e, r.more hm⟩
  | dct lk kvs => cases lk with
    | false => obtain ⟨vs, e, r⟩ := q; exact ⟨vs, hm _ _ e, r.more hm⟩
    | true => obtain ⟨ob, vs, e, r⟩ := q; exact ⟨ob, vs, hm _ _ e, r.more hm⟩
  | dcT lk kvs => cases lk with
    | false => obtain ⟨vs, e, r⟩ := q; exact ⟨vs, hm _ _ e, r.more hm⟩
    | true => obtain ⟨ob, vs, e, r⟩ := q; exact ⟨ob, vs, hm _ _ e, r.more hm⟩
  | ins C fs => obtain ⟨dx, vs, e, e2, e3, k, r⟩ := q; exact ⟨dx, vs, hm _ _ e, hm _ _ e2, e3, k, r.more hm⟩
theorem upd_more {p : Addr} {o : HO} (h : F p = none) : ∀ a u, F a = some u → upd F p o a = some u := fun a u e => by
  rw [upd_ne (fun z => by subst z; rw [h] at e; cases e)]; exact e
end

/-- the tables stay where another object is written -/
theorem tabs_upd {T : List (Addr × Str)} {H : Hp} {p : Addr} {u o : HO} (h : LamX.Tabs T H) (hp : H p = some u) (h1 : ∀ ps, u ≠ .tbl ps) (h2 : ∀ φ, u ≠ .ext φ) : LamX.Tabs T (upd H p o) := by
  intro q hq
  obtain ⟨ps, a1, a2, a3⟩ := h q hq
  refine ⟨ps, ?_, a2, fun pos cv hc => ?_⟩
  · rw [upd_ne (fun z => h1 ps (by rw [z, hp] at a1; exact Option.some.inj a1))]
    exact a1
  · obtain ⟨c, e1, e2⟩ := a3 pos cv hc
    refine ⟨c, e1, ?_⟩
    rw [upd_ne (fun z => h2 _ (by rw [z, hp] at e2; exact Option.some.inj e2))]
    exact e2

/-! ### what an expression gives, seen in the heap -/
/-- right behind its making: H0 the heap ahead -/
def Tvs (c : Ct) (H0 F : Hp) (io : List Addr) (rh : Rho) (σ : St) (H : Hp) (v : V) : TV → Prop
  | .d d => Rv c F io v d
  | .o i => (∃ ds, rh[i]? = some (some (.own ds))) ∧ σ[i]? = some (some v)
  | .fr ds => ∃ p vs, v = .ref p ∧ H0 p = none ∧ H p = some (.lst vs) ∧ F p = none ∧ RvAll c F io vs ds
/-- later on -/
def Tvr (c : Ct) (F : Hp) (io : List Addr) (rh : Rho) (σ : St) (H : Hp) (v : V) : TV → Prop
  | .d d => Rv c F io v d
  | .o i => (∃ ds, rh[i]? = some (some (.own ds))) ∧ σ[i]? = some (some v)
  | .fr ds => ∃ p vs, v = .ref p ∧ H p = some (.lst vs) ∧ p ∉ io ∧ RvAll c F io vs ds
section
variable {c : Ct} {B : Bs} {F F' H H' H0 : Hp} {io io' : List Addr} {st st' : Sto} {rh : Rho} {σ : St} {v : V} {t : TV}
theorem Tvs.r (h : Tvs c H0 F io rh σ H v t) (hs : Sim c F io st) : Tvr c F io rh σ H v t := by
  cases t with
  | d d => exact h
  | o i => exact h
  | fr ds => obtain ⟨p, vs, e, _, h1, h2, r⟩ := h; exact ⟨p, vs, e, h1, fun z => hs.dom z h2, r⟩
theorem Tvr.step (h : Tvr c F io rh σ H v t) (S : Stp c F io H F' io' H') (hs : ∀ a o, F a = some o → H a = some o) : Tvr c F' io' rh σ H' v t := by
  cases t with
  | d d => exact Rv.step S hs h
  | o i => exact h
  | fr ds =>
    obtain ⟨p, vs, e, h1, h2, r⟩ := h
    refine ⟨p, vs, e, S.fr p _ h1 h2 (fun ps z => by cases z), fun z => ?_, r.step S hs⟩
    rcases S.nio p z with q | q
    · exact h2 q
    · rw [h1] at q; cases q
end

/-! ### an expression's reading -/
def Pst (c : Ct) (W : WX) (F : Hp) (io : List Addr) (rh : Rho) (σ : St) (H : Hp) (Q : VK) : R TV → Prop
  | .ok t st' => ∀ v H' F' io', Stp c F io H F' io' H' → Sim c F' io' st' → Tvs c H F' io' rh σ H' v t → Q v H'
  | .ex e st' => ∀ H' F' io', Stp c F io H F' io' H' → Sim c F' io' st' → W (c.xc e) none σ H'
  | .no => False
def den (c : Ct) (W : WX) (f : Sm) : TE := fun σ H Q => ∃ B F io st rh, Good c B F io st rh σ H ∧ Pst c W F io rh σ H Q (f rh st)
section
variable {c : Ct} {W : WX} {B : Bs} {F F1 H H1 : Hp} {io io1 : List Addr} {st st1 : Sto} {rh : Rho} {σ : St} {Q Q1 : VK}
theorem Tvs.back {H0 H1 F : Hp} {io : List Addr} {H : Hp} {v : V} {t : TV} (h : Tvs c H1 F io rh σ H v t) (hg : ∀ a, H1 a = none → H0 a = none) : Tvs c H0 F io rh σ H v t := by
  cases t with
  | d d => exact h
  | o i => exact h
  | fr ds => obtain ⟨p, vs, e, h0, r⟩ := h; exact ⟨p, vs, e, hg p h0, r⟩
theorem Pst.step {r : R TV} (g : Good c B F io st rh σ H) (S : Stp c F io H F1 io1 H1) (h : Pst c W F io rh σ H Q r) : Pst c W F1 io1 rh σ H1 Q r := by
  cases r with
  | ok t st' => exact fun v H' F' io' S' s' T' => h v H' F' io' (S.trans g.sub S') s' (T'.back S.gro)
  | ex e st' => exact fun H' F' io' S' s' => h H' F' io' (S.trans g.sub S') s'
  | no => exact h
/-- first one part, then what is done with it -/
theorem Pst.bind {r : R TV} {k : TV → Sto → R TV} (g : Good c B F io st rh σ H) (h : Pst c W F io rh σ H Q (r.bind k))
    (hk : ∀ (t : TV) (st1 : Sto) (v : V) (H1 F1 : Hp) (io1 : List Addr), r = .ok t st1 → Stp c F io H F1 io1 H1 → Good c B F1 io1 st1 rh σ H1 → Tvs c H F1 io1 rh σ H1 v t → Pst c W F1 io1 rh σ H1 Q (k t st1) → Q1 v H1) : Pst c W F io rh σ H Q1 r := by
  cases r with
  | ok t st' => exact fun v H' F' io' S s' T => hk t st' v H' F' io' rfl S (g.step S s') T (Pst.step (r := k t st') g S h)
  | ex e st' => exact h
  | no => exact h
end
theorem PE.weak {X : Cx} {e : Expr} {t t' : TE} (h : PE X e t) (hw : ∀ σ H Q, t' σ H Q → t σ H Q) : PE X e t' := ⟨fun pins s σ H Q I q => h.run pins s σ H Q I (hw σ H Q q)⟩
theorem PT.weak {X : Cx} {e : Expr} {t t' : TT} (h : PT X e t) (hw : ∀ σ H Q, t' σ H Q → t σ H Q) : PT X e t' := ⟨fun pins s σ H Q I q => h.run pins s σ H Q I (hw σ H Q q)⟩
theorem PE.or {X : Cx} {e : Expr} {t t' : TE} (h : PE X e t) (h' : PE X e t') : PE X e (fun σ H Q => t σ H Q ∨ t' σ H Q) := ⟨fun pins s σ H Q I q => q.elim (h.run pins s σ H Q I) (h'.run pins s σ H Q I)⟩
end KL

namespace KL
open PySem PySem.Spec PyProof.Rows L2
/-! ### new tuples, known to have no dict of their own -/
section
variable {X : Cx} {pins : List (Addr × Obj)} {σ : L2.St} {H : Hp} {s : Shared}
theorem laidF {h' : Heap} {a : Addr} {its : List Value} {xs : List V} {t' : Nat} (I : Inv X pins σ H s) (k : ∀ b u, s.heap.get? b = some u → h'.get? b = some u) (hp : s.heap.objs.size ≤ a) (e : h'.get? a = some { cls := .type "tuple", data := .seq its.toArray }) (r : Vals xs its) (hz : xs.length ≤ sizeLine) :
    Inv X pins σ (upd H a (.frz { cls := .type "tuple", data := .seq its.toArray } (.tup xs))) { s with heap := h', toks := t' } :=
  I.laid k hp ⟨e, hz, its, r, ⟨_, e, rfl, _, rfl⟩⟩
/-- what follows a new tuple -/
def NewF (H : Hp) (xs : List V) (Q : VK) : Prop := ∀ p o, H p = none → o.dict = none → Q (.ref p) (upd H p (.frz o (.tup xs)))
def tTupF (t : TA) : TE := fun σ H Q => t σ H fun xs H1 => xs.length ≤ sizeLine ∧ NewF H1 xs Q
theorem pe_tupF {es : List Expr} {t : TA} {pos : Pos} {x1 : Nat} (h : PA X es t) : PE X (.Tuple es x1 pos) (tTupF t) := by
  refine ⟨fun pins s σ H Q I hq => ?_⟩
  refine wpAny_Tuple_spliced (thn (h.run pos pins s σ H _ I hq) fun us s1 ⟨xs, H1, I1, r, z, q⟩ => ⟨by rw [← r.length]; exact z, ?_⟩)
  have hf : H1 s1.heap.objs.size = none := I1.hok.fresh (Nat.le_refl _)
  exact ⟨.ref s1.heap.objs.size, _, laidF (t' := s1.toks) I1 (fun b u e => Heap.get?_push_of_some _ e) (Nat.le_refl _) (Heap.get?_push_size _ rfl) r z, rfl, q _ _ hf rfl⟩
theorem call_tupleF : CallR X (.type "tuple") (fun xs H Q => ∃ p ys, xs = [.ref p] ∧ ((SqL X.K H p ys ∧ NewF H ys Q) ∨ (SqT X.K H p ys ∧ Q (.ref p) H))) := by
  intro pins s σ H xs us Q I r h
  obtain ⟨p, ys, rfl, h⟩ := h
  obtain ⟨u, rfl, rx⟩ := vals1 r
  cases rx
  rcases h with ⟨hq, q⟩ | ⟨hq, q⟩
  · obtain ⟨its, r', pl, hz⟩ := I.list hq
    have hlen := r'.length
    refine call_tuple_list pl.isList (fun h' kp => ?_) (by simp only [List.size_toArray] <;> omega)
    have I1 : Inv X pins σ H { s with heap := h' } := I.kept (t' := s.toks) kp
    have I2 := laidF (t' := s.toks) (h' := h'.push { cls := .type "tuple", data := .seq its.toArray }) (a := h'.objs.size) I1 (fun b o e => Heap.get?_push_of_some _ e) (Nat.le_refl _) (Heap.get?_push_size _ rfl) r' hz
    exact ⟨.ref h'.objs.size, _, I2, rfl, q h'.objs.size _ (I1.hok.fresh (Nat.le_refl _)) rfl⟩
  · obtain ⟨its, r', pl, hz⟩ := I.tuple hq
    exact call_tuple_same pl ⟨.ref p, H, I, rfl, q⟩
/-- t + u -/
def rCatF (K : PySem.W.Frag) : R2 := fun x y H Q => ∃ a b xs ys, x = .ref a ∧ y = .ref b ∧ SqT K H a xs ∧ SqT K H b ys ∧ xs.length + ys.length ≤ sizeLine ∧
  (xs = [] → Q (.ref b) H) ∧ (xs ≠ [] → ys = [] → Q (.ref a) H) ∧ (xs ≠ [] → ys ≠ [] → NewF H (xs ++ ys) Q)
theorem op_catF : OpR X (binaryOp .Add) (rCatF X.K) := by
  intro pins s σ H x y v u Q I rx ry h
  obtain ⟨a, b, xs, ys, rfl, rfl, ha, hb, hz, q0, q1, q2⟩ := h
  cases rx
  cases ry
  obtain ⟨its, r1, p1, _⟩ := I.tuple ha
  obtain ⟨its2, r2, p2, _⟩ := I.tuple hb
  by_cases hx : xs = []
  · subst hx
    cases r1
    exact cat_tup0 p1 p2 ⟨.ref b, H, I, rfl, q0 rfl⟩
  · refine HT.cat_tup p1 p2 (fun z => hx (r1.nil_iff.mp z)) (fun z => ⟨.ref a, H, I, rfl, q1 hx (r2.nil_iff.mp z)⟩) (fun z => ?_) (by rw [← r1.length, ← r2.length]; exact hz)
    exact ⟨.ref s.heap.objs.size, _, laidF (t' := s.toks) I (fun b ob q => Heap.get?_push_of_some _ q) (Nat.le_refl _) (Heap.get?_push_size _ rfl) (r1.append r2) (by rw [List.length_append]; exact hz), rfl, q2 hx (fun w => z (r2.nil_iff.mpr w)) _ _ (I.hok.fresh (Nat.le_refl _)) rfl⟩
/-- t[lo:hi]: the whole of it is t itself -/
def rSlF (K : PySem.W.Frag) : V → Option Int → Option Int → Hp → VK → Prop := fun x lo hi H Q => ∃ a xs, x = .ref a ∧ SqT K H a xs ∧
  (HT.sIx xs.length 0 lo = 0 ∧ HT.sIx xs.length xs.length hi = xs.length → Q (.ref a) H) ∧ (¬ (HT.sIx xs.length 0 lo = 0 ∧ HT.sIx xs.length xs.length hi = xs.length) → NewF H (cutV xs lo hi) Q)
theorem sl_tupF : SlR X (rSlF X.K) := by
  intro pins s σ H x v vl vu lo hi sl Q I rx hs pl pu h
  obtain ⟨a, xs, rfl, hx, q1, q2⟩ := h
  cases rx
  obtain ⟨its, r, ht, hz⟩ := I.tuple hx
  have hlen : its.toArray.size = xs.length := by rw [List.size_toArray]; exact r.length.symm
  refine ⟨"tuple", _, PyProof.Rows.slot_tuple_getitem.lookup, ht.typeIs, ?_⟩
  by_cases hw : HT.sIx xs.length 0 lo = 0 ∧ HT.sIx xs.length xs.length hi = xs.length
  · exact getItem_tuple_whole ht hs pl pu (by rw [hlen]; exact hw) ⟨.ref a, H, I, rfl, q1 hw⟩
  · refine HT.getItem_tuple_cut ht hs pl pu (by rw [hlen]; exact hw) ?_ (by rw [hlen]; exact hz)
    rw [hlen]
    exact ⟨.ref s.heap.objs.size, _, laidF (t' := s.toks) I (fun b ob q => Heap.get?_push_of_some _ q) (Nat.le_refl _) (Heap.get?_push_size _ rfl) ((r.drop (HT.sIx xs.length 0 lo)).take (HT.sIx xs.length xs.length hi - HT.sIx xs.length 0 lo)) (Nat.le_trans (cutV_length xs lo hi) hz), rfl, q2 hw _ _ (I.hok.fresh (Nat.le_refl _)) rfl⟩
end
end KL

namespace KL
open PySem L2

/-! ### looking at what an expression gave -/
def view (rh : Rho) (st : Sto) : TV → Option D
  | .d (.loc n) => (match st[n]? with
    | some (.lst ds) => some (.lst ds)
    | some _ => some (.loc n)
    | none => none)
  | .d d => some d
  | .o i => (match rh[i]? with
    | some (some (.own ds)) => some (.lst ds)
    | _ => none)
  | .fr ds => some (.lst ds)
def Vw (c : Ct) (F : Hp) (io : List Addr) (H : Hp) (v : V) : D → Prop
  | .lst ds => ∃ a vs, v = .ref a ∧ H a = some (.lst vs) ∧ RvAll c F io vs ds
  | d => Rv c F io v d
section
variable {c : Ct} {B : Bs} {F F' H H' : Hp} {io io' : List Addr} {st st' : Sto} {rh : Rho} {σ : St} {v : V} {t : TV} {d : D}
theorem Vw.of (hs : ∀ a o, F a = some o → H a = some o) (h : Rv c F io v d) : Vw c F io H v d := by
  cases d with
  | lst ds => cases h with | lst e n r => exact ⟨_, _, rfl, hs _ _ e, r⟩
  | _ => exact h
theorem view_ok (g : Good c B F io st rh σ H) (h : Tvr c F io rh σ H v t) (e : view rh st t = some d) : Vw c F io H v d := by
  cases t with
  | d d' =>
    cases d' with
    | loc n =>
      simp only [view] at e
      cases h with
      | loc hn =>
        have hl : n < st.length := by rw [← g.sim.len]; exact (List.getElem?_eq_some_iff.mp hn).1
        cases q : st[n]? with
        | none => rw [q] at e; cases e
        | some o =>
          rw [q] at e
          cases o with
          | lst ds =>
            simp only [Option.some.injEq] at e
            subst e
            obtain ⟨vs, e1, r⟩ := g.sim.ob n _ _ hn q
            exact ⟨_, vs, rfl, g.sub _ _ e1, r⟩
          | dct lk kvs => simp only [Option.some.injEq] at e; subst e; exact Rv.loc hn
          | dcT lk kvs => simp only [Option.some.injEq] at e; subst e; exact Rv.loc hn
          | ins C fs => simp only [Option.some.injEq] at e; subst e; exact Rv.loc hn
    | _ => simp only [view, Option.some.injEq] at e; subst e; exact Vw.of g.sub h
  | o i =>
    obtain ⟨⟨ds, e1⟩, e2⟩ := h
    simp only [view, e1, Option.some.injEq] at e
    subst e
    obtain ⟨a, vs, e3, e4, e5, e6, r⟩ := g.own i ds e1
    rw [e2] at e3
    cases e3
    exact ⟨a, vs, rfl, e4, r⟩
  | fr ds =>
    simp only [view, Option.some.injEq] at e
    subst e
    obtain ⟨p, vs, e1, e2, e3, r⟩ := h
    exact ⟨p, vs, e1, e2, r⟩
/-- a tuple, as the layer reads it -/
theorem Rv.sqT {a : Addr} {ds : List D} (hs : ∀ a o, F a = some o → H a = some o) (h : Rv c F io v (.tup ds)) : ∃ a vs, v = .ref a ∧ SqT c.K H a vs ∧ RvAll c F io vs ds := by
  cases h with
  | tup h r =>
    refine ⟨_, _, rfl, ?_, r⟩
    rcases h with ⟨o, h, _⟩ | ⟨o, its, n, h1, h2, _, h3⟩
    · exact .inl (.inr ⟨o, hs _ _ h⟩)
    · exact .inr ⟨o, its, n, h1, h2, h3⟩
/-- what follows an operation that leaves the store -/
def Out (c : Ct) (F : Hp) (io : List Addr) (rh : Rho) (σ : St) (H : Hp) (Q : VK) (t : TV) : Prop :=
  ∀ v H' F', Stp c F io H F' io H' → (∀ a ∈ io, F' a = F a) → Tvs c H F' io rh σ H' v t → Q v H'
theorem Pst.out {W : WX} {Q : VK} (g : Good c B F io st rh σ H) (h : Pst c W F io rh σ H Q (.ok t st)) : Out c F io rh σ H Q t :=
  fun v H' F' S k T => h v H' F' io S (g.sim.step S g.sub rfl k) T
theorem Out.same {Q : VK} (hs : ∀ a o, F a = some o → H a = some o) (h : Out c F io rh σ H Q (.d d)) (r : Rv c F io v d) : Q v H := h v H F (Stp.refl hs) (fun _ _ => rfl) r
theorem Out.tup {Q : VK} {ds : List D} {vs : List V} (g : Good c B F io st rh σ H) (h : Out c F io rh σ H Q (.d (.tup ds))) (r : RvAll c F io vs ds) : NewF H vs Q := by
  intro p o hp hd
  obtain ⟨f1, f2, f3⟩ := g.fresh hp
  refine h _ _ (upd F p (.frz o (.tup vs))) (Stp.add g.sub hp) (fun a ha => ?_) (Rv.tup (.inl ⟨o, upd_same, f2, hd⟩) (r.more (upd_more f1)))
  rw [upd_ne (fun z => by subst z; exact f2 ha)]
theorem Out.raw {Q : VK} {ds : List D} {vs : List V} (g : Good c B F io st rh σ H) (h : Out c F io rh σ H Q (.d (.raw ds))) (r : RvAll c F io vs ds) (p : Addr) (hp : H p = none) : Q (.ref p) (upd H p (.tup vs)) := by
  obtain ⟨f1, f2, f3⟩ := g.fresh hp
  refine h _ _ (upd F p (.tup vs)) (Stp.add g.sub hp) (fun a ha => ?_) (Rv.raw upd_same f2 (r.more (upd_more f1)))
  rw [upd_ne (fun z => by subst z; exact f2 ha)]
theorem Out.lst {Q : VK} {ds : List D} {vs : List V} (g : Good c B F io st rh σ H) (h : Out c F io rh σ H Q (.fr ds)) (r : RvAll c F io vs ds) (p : Addr) (hp : H p = none) : Q (.ref p) (upd H p (.lst vs)) := by
  obtain ⟨f1, f2, f3⟩ := g.fresh hp
  exact h _ _ F (Stp.lay g.sub hp) (fun a ha => rfl) ⟨p, vs, rfl, hp, upd_same, f1, r⟩
end

/-! ### operators on data -/
instance decCMul (i j : Int) : Decidable (CMul i j) := by unfold CMul; infer_instance
instance decCDiv (i j : Int) : Decidable (CDiv i j) := by unfold CDiv; infer_instance
def binD : Operator → D → D → Option TV
  | .Add, .int i, .int j => some (.d (.int (i + j)))
  | .Add, .str i, .str j => if i.length + j.length ≤ sizeLine then some (.d (.str (i ++ j))) else none
  | .Add, .tup ds, .tup es => if ds.length + es.length ≤ sizeLine then some (.d (.tup (ds ++ es))) else none
  | .Add, .lst ds, .lst es => if ds.length + es.length ≤ sizeLine then some (.fr (ds ++ es)) else none
  | .Sub, .int i, .int j => some (.d (.int (i - j)))
  | .Mult, .int i, .int j => if CMul i j then some (.d (.int (i * j))) else none
  | .Mult, .lst ds, .int k => if -(2 ^ 63) ≤ k ∧ k < 2 ^ 63 ∧ ds.length * k.toNat ≤ sizeLine then some (.fr (List.replicate k.toNat ds).flatten) else none
  | .Mult, .str x, .int k => if x.length ≤ 1000 ∧ 0 ≤ k ∧ k ≤ 1000 then some (.d (.str (Txt.mul x k))) else none
  | .Mod, .int i, .int j => if 0 < j then some (.d (.int (i % j))) else none
  | .FloorDiv, .int i, .int j => if CDiv i j then some (.d (.int (i / j))) else none
  | _, _, _ => none
def rRepS : R2 := fun x y H Q => ∃ a k, x = .str a ∧ y = .int k ∧ (a.length ≤ 1000 ∧ 0 ≤ k ∧ k ≤ 1000) ∧ Q (.str (Txt.mul a k)) H
theorem op_repS {X : Cx} : OpR X (binaryOp .Mult) rRepS := by
  intro pins s σ H x y v u Q I rx ry h
  obtain ⟨a, k, rfl, rfl, hb, q⟩ := h
  obtain ⟨t, rfl⟩ := rx
  obtain ⟨t2, rfl⟩ := ry
  refine SB.mul (PyProof.Rows.mulOk_of 1000 1000 hb.1 (by omega) (by omega) (by decide) (by decide)) fun t' n => ?_
  exact ⟨.str (Txt.mul a k), H, I.tok _, ⟨_, rfl⟩, q⟩
theorem opR_false {X : Cx} {f : Value → Value → PySem.Sem Value} : OpR X f (fun _ _ _ _ => False) := fun _ _ _ _ _ _ _ _ _ _ _ _ h => h.elim
section
variable {X : Cx} {c : Ct} {B : Bs} {F H : Hp} {io : List Addr} {st : Sto} {rh : Rho} {σ : St}
theorem RvAll.flat : ∀ (k : Nat) {vs : List V} {ds : List D}, RvAll c F io vs ds → RvAll c F io (List.replicate k vs).flatten (List.replicate k ds).flatten
  | 0, _, _, _ => by simp; exact .nil
  | k + 1, vs, ds, h => by
    rw [List.replicate_succ, List.replicate_succ, List.flatten_cons, List.flatten_cons]
    exact h.append (RvAll.flat k h)
/-- an operator keeps to its data -/
def OpOk (c : Ct) (r : R2) (f : Sto → D → D → Option TV) : Prop := ∀ {B : Bs} {F H : Hp} {io : List Addr} {st : Sto} {rh : Rho} {σ : St} {x y : V} {d e : D} {t : TV} {Q : VK}, Good c B F io st rh σ H → Vw c F io H x d → Vw c F io H y e → f st d e = some t → Out c F io rh σ H Q t → r x y H Q
theorem bin_ok (hK : X.K = c.K) (op : Operator) : ∃ r, OpR X (binaryOp op) r ∧ OpOk c r (fun _ => binD op) := by
  cases op with
  | Add =>
    refine ⟨_, (op_add.or op_add_str).or (op_catF.or op_cat), ?_⟩
    intro B F H io st rh σ x y d e t Q g hx hy hf ho
    cases d <;> cases e <;> simp only [binD] at hf <;> try (cases hf; done)
    · rename_i i j
      cases hf
      cases hx; cases hy
      exact .inl (.inl ⟨i, j, rfl, rfl, ho.same g.sub (.int _)⟩)
    · rename_i i j
      split at hf
      · rename_i hl
        cases hf
        cases hx; cases hy
        exact .inl (.inr ⟨i, j, rfl, rfl, hl, ho.same g.sub (.str _)⟩)
      · cases hf
    · rename_i ds es
      split at hf
      · rename_i hl
        cases hf
        have hx' : Rv c F io x (.tup ds) := hx
        have hy' : Rv c F io y (.tup es) := hy
        obtain ⟨a, vs, rfl, q1, r1⟩ := Rv.sqT (a := 0) g.sub hx'
        obtain ⟨b, ws, rfl, q2, r2⟩ := Rv.sqT (a := 0) g.sub hy'
        refine .inr (.inl ⟨a, b, vs, ws, rfl, rfl, by rw [hK]; exact q1, by rw [hK]; exact q2, by rw [r1.length, r2.length]; exact hl, fun z => ?_, fun _ z => ?_, fun _ _ => ?_⟩)
        · subst z
          cases r1
          exact ho.same g.sub hy'
        · subst z
          cases r2
          rw [List.append_nil] at ho
          exact ho.same g.sub hx'
        · exact ho.tup g (r1.append r2)
      · cases hf
    · rename_i ds es
      split at hf
      · rename_i hl
        cases hf
        obtain ⟨a, vs, rfl, q1, r1⟩ := hx
        obtain ⟨b, ws, rfl, q2, r2⟩ := hy
        exact .inr (.inr ⟨a, b, vs, ws, rfl, rfl, q1, q2, by rw [r1.length, r2.length]; exact hl, fun p hp => ho.lst g (r1.append r2) p hp⟩)
      · cases hf
  | Sub =>
    refine ⟨_, op_sub, ?_⟩
    intro B F H io st rh σ x y d e t Q g hx hy hf ho
    cases d <;> cases e <;> simp only [binD] at hf <;> try (cases hf; done)
    cases hf; cases hx; cases hy
    exact ⟨_, _, rfl, rfl, ho.same g.sub (.int _)⟩
  | Mult =>
    refine ⟨_, (op_mul.or op_rep).or op_repS, ?_⟩
    intro B F H io st rh σ x y d e t Q g hx hy hf ho
    cases d <;> cases e <;> simp only [binD] at hf <;> try (cases hf; done)
    · split at hf
      · rename_i hl
        cases hf; cases hx; cases hy
        exact .inl (.inl ⟨_, _, rfl, rfl, hl, ho.same g.sub (.int _)⟩)
      · cases hf
    · split at hf
      · rename_i hl
        cases hf; cases hx; cases hy
        exact .inr ⟨_, _, rfl, rfl, hl, ho.same g.sub (.str _)⟩
      · cases hf
    · split at hf
      · rename_i hl
        cases hf; cases hy
        obtain ⟨a, vs, rfl, q1, r1⟩ := hx
        exact .inl (.inr ⟨a, _, vs, rfl, rfl, q1, hl.1, hl.2.1, by rw [r1.length]; exact hl.2.2, fun p hp => ho.lst g (r1.flat _) p hp⟩)
      · cases hf
  | Mod =>
    refine ⟨_, op_mod, ?_⟩
    intro B F H io st rh σ x y d e t Q g hx hy hf ho
    cases d <;> cases e <;> simp only [binD] at hf <;> try (cases hf; done)
    split at hf
    · rename_i hl
      cases hf; cases hx; cases hy
      exact ⟨_, _, rfl, rfl, hl, ho.same g.sub (.int _)⟩
    · cases hf
  | FloorDiv =>
    refine ⟨_, op_fdiv, ?_⟩
    intro B F H io st rh σ x y d e t Q g hx hy hf ho
    cases d <;> cases e <;> simp only [binD] at hf <;> try (cases hf; done)
    split at hf
    · rename_i hl
      cases hf; cases hx; cases hy
      exact ⟨_, _, rfl, rfl, hl, ho.same g.sub (.int _)⟩
    · cases hf
  | _ => exact ⟨_, opR_false, fun _ _ _ hf _ => by simp [binD] at hf⟩
end
end KL

namespace KL
open PySem L2

mutual
def toPy : D → Option PyData
  | .non => some .none
  | .bl b => some (.bool b)
  | .int i => some (.int i)
  | .str x => some (.str x)
  | .tup ds => (toPys ds).map .tuple
  | .lst ds => (toPys ds).map .list
  | .loc _ => none
  | .scr _ => none
  | .clo _ _ => none
  | .raw _ => none
def toPys : List D → Option (List PyData)
  | [] => some []
  | d :: ds => (toPy d).bind fun p => (toPys ds).map fun ps => p :: ps
end
def eqG (d e : D) : Option Bool := (toPy d).bind fun p => (toPy e).bind fun q => if SeqAt.shaped p && SeqAt.shaped q then some (PyData.eqv p q) else none
def eqD : D → D → Option Bool
  | .int i, .int j => some (decide (i = j))
  | .str a, .str b => some (decide (a = b))
  | d, e => eqG d e
def flatD : D → Bool
  | .non => true
  | .bl _ => true
  | .int _ => true
  | .str _ => true
  | _ => false
def eqF : D → D → Bool
  | .non, .non => true
  | .bl a, .bl b => a == b
  | .bl a, .int b => (if a then 1 else 0) == b
  | .int a, .bl b => a == (if b then 1 else 0)
  | .int a, .int b => a == b
  | .str a, .str b => a == b
  | _, _ => false
def vget {κ : Type} [DecidableEq κ] (kvs : List (κ × D)) (k : κ) : Option D := (kvs.find? fun kv => decide (kv.1 = k)).map (·.2)
def keyI : List D → Option (List Int)
  | [] => some []
  | .int i :: ds => (keyI ds).map (i :: ·)
  | _ :: _ => none
/-- what a dict of the store has for a key; none: no such dict or key -/
def dget (st : Sto) (n : Nat) (k : D) : Option (Option D) := match st[n]?, k with
  | some (.dct _ kvs), .str x => some (vget kvs x)
  | some (.dcT _ kvs), .tup ds => (keyI ds).map (vget kvs)
  | _, _ => none
def inD (st : Sto) : D → D → Option Bool
  | d, .loc n => (dget st n d).map (·.isSome)
  | .str x, .str z => (match x.cps.toList with
    | [c] => some (decide (c ∈ z.cps.toList))
    | _ => none)
  | d, .tup ds => if flatD d && ds.all flatD then some (ds.any fun y => eqF y d) else none
  | d, .lst ds => if flatD d && ds.all flatD then some (ds.any fun y => eqF y d) else none
  | _, _ => none
def isD : D → D → Option Bool
  | .non, .non => some true
  | _, .non => some false
  | .bl a, .bl b => some (decide (a = b))
  | _, _ => none
def cmpD (st : Sto) : CmpOp → D → D → Option Bool
  | .Eq, d, e => eqD d e
  | .NotEq, d, e => (eqD d e).map (!·)
  | .Lt, .int i, .int j => some (decide (i < j))
  | .Lt, .str i, .str j => some (decide (i.cps.toList < j.cps.toList))
  | .LtE, .int i, .int j => some (decide (i ≤ j))
  | .Gt, .int i, .int j => some (decide (j < i))
  | .Gt, .str i, .str j => some (decide (j.cps.toList < i.cps.toList))
  | .GtE, .int i, .int j => some (decide (j ≤ i))
  | .In, d, e => inD st d e
  | .NotIn, d, e => (inD st d e).map (!·)
  | .Is, d, e => isD d e
  | .IsNot, d, e => (isD d e).map (!·)
  | _, _, _ => none

section
variable {X : Cx} {c : Ct} {B : Bs} {F H : Hp} {io : List Addr} {st : Sto} {rh : Rho} {σ : St}
mutual
theorem Rv.dp (hs : ∀ a o, F a = some o → H a = some o) : ∀ {v : V} {d : D} {p : PyData}, Rv c F io v d → toPy d = some p → Dp c.K H v p
  | _, _, _, .non, e => by cases e; exact .non
  | _, _, _, .bl b, e => by cases e; exact .bl b
  | _, _, _, .int b, e => by cases e; exact .int b
  | _, _, _, .str b, e => by cases e; exact .str b
  | _, _, _, .tup (vs := vs) (ds := ds) h r, e => by
    simp only [toPy, Option.map_eq_some_iff] at e
    obtain ⟨ps, e1, rfl⟩ := e
    refine .tup (xs := vs) ?_ (RvAll.dp hs r e1)
    rcases h with ⟨o, h, _⟩ | ⟨o, its, n, h1, h2, _, h3⟩
    · exact .inl (.inr ⟨o, hs _ _ h⟩)
    · exact .inr ⟨o, its, n, h1, h2, h3⟩
  | _, _, _, .raw _ _ _, e => by cases e
  | _, _, _, .lst (vs := vs) h n r, e => by
    simp only [toPy, Option.map_eq_some_iff] at e
    obtain ⟨ps, e1, rfl⟩ := e
    exact .lst (xs := vs) (.inl (.inl (hs _ _ h))) (RvAll.dp hs r e1)
  | _, _, _, .loc h, e => by cases e
  | _, _, _, .scr h, e => by cases e
theorem RvAll.dp (hs : ∀ a o, F a = some o → H a = some o) : ∀ {vs : List V} {ds : List D} {ps : List PyData}, RvAll c F io vs ds → toPys ds = some ps → DpAll c.K H vs ps
  | _, _, _, .nil, e => by cases e; exact .nil
  | _, _, _, .cons h r, e => by
    simp only [toPys, Option.bind_eq_some_iff, Option.map_eq_some_iff] at e
    obtain ⟨p, e1, ps, e2, rfl⟩ := e
    exact .cons (Rv.dp hs h e1) (RvAll.dp hs r e2)
end
theorem Vw.dp (hs : ∀ a o, F a = some o → H a = some o) {v : V} {d : D} {p : PyData} (h : Vw c F io H v d) (e : toPy d = some p) : Dp c.K H v p := by
  cases d with
  | lst ds =>
    obtain ⟨a, vs, rfl, h1, r⟩ := h
    simp only [toPy, Option.map_eq_some_iff] at e
    obtain ⟨ps, e1, rfl⟩ := e
    exact .lst (.inl (.inl h1)) (RvAll.dp hs r e1)
  | _ => exact Rv.dp hs h e
theorem Vw.non_iff {v : V} {d : D} (h : Vw c F io H v d) : (v = .non) ↔ (d = .non) := by
  cases d with
  | lst ds => obtain ⟨a, vs, rfl, _⟩ := h; simp
  | _ => cases h <;> simp
theorem Rv.flat {v : V} {d : D} (h : Rv c F io v d) (e : flatD d = true) : flatV v = true := by
  cases h <;> simp_all [flatD, flatV]
theorem Rv.eqf {v w : V} {d e : D} (h : Rv c F io v d) (h' : Rv c F io w e) (q : flatD d = true) (q' : flatD e = true) : eqV v w = eqF d e := by
  cases h <;> simp [flatD] at q <;> cases h' <;> simp [flatD] at q' <;> simp [eqV, eqF]
theorem RvAll.flats : ∀ {vs : List V} {ds : List D}, RvAll c F io vs ds → ds.all flatD = true → vs.all flatV = true
  | _, _, .nil, _ => rfl
  | _, _, .cons h r, e => by
    simp only [List.all_cons, Bool.and_eq_true] at e ⊢
    exact ⟨h.flat e.1, r.flats e.2⟩
theorem RvAll.inv {x : V} {d : D} (hx : Rv c F io x d) (fx : flatD d = true) : ∀ {vs : List V} {ds : List D}, RvAll c F io vs ds → ds.all flatD = true → inV x vs = ds.any fun y => eqF y d
  | _, _, .nil, _ => rfl
  | _, _, .cons h r, e => by
    simp only [List.all_cons, Bool.and_eq_true] at e
    have q := RvAll.inv hx fx r e.2
    unfold inV at q ⊢
    rw [List.any_cons, List.any_cons, q, h.eqf hx e.1 fx]
theorem Vw.flat {v : V} {d : D} (h : Vw c F io H v d) (e : flatD d = true) : Rv c F io v d := by
  cases d <;> first | exact h | (simp [flatD] at e)
def CmpOk (c : Ct) (r : R2) (f : Sto → D → D → Option Bool) : Prop := ∀ {B : Bs} {F H : Hp} {io : List Addr} {st : Sto} {rh : Rho} {σ : St} {x y : V} {d e : D} {b : Bool} {Q : VK}, Good c B F io st rh σ H → Vw c F io H x d → Vw c F io H y e → f st d e = some b → Q (.bl b) H → r x y H Q
theorem eq_ok (hK : X.K = c.K) (g : Good c B F io st rh σ H) {x y : V} {d e : D} {b : Bool} (hx : Vw c F io H x d) (hy : Vw c F io H y e) (hf : eqG d e = some b) :
    ∃ p q, Dp X.K H x p ∧ Dp X.K H y q ∧ SeqAt.shaped p = true ∧ SeqAt.shaped q = true ∧ b = PyData.eqv p q := by
  simp only [eqG, Option.bind_eq_some_iff] at hf
  obtain ⟨p, e1, q, e2, hf⟩ := hf
  split at hf
  · rename_i hs
    rw [Bool.and_eq_true] at hs
    cases hf
    exact ⟨p, q, by rw [hK]; exact hx.dp g.sub e1, by rw [hK]; exact hy.dp g.sub e2, hs.1, hs.2, rfl⟩
  · cases hf
theorem eqd_ok (g : Good c B F io st rh σ H) {x y : V} {d e : D} {b : Bool} (hx : Vw c F io H x d) (hy : Vw c F io H y e) (hf : eqD d e = some b) :
    (scal x y = true ∧ b = decide (x = y)) ∨ eqG d e = some b := by
  unfold eqD at hf
  split at hf
  · cases hf; cases hx; cases hy
    exact .inl ⟨rfl, by simp⟩
  · cases hf; cases hx; cases hy
    exact .inl ⟨rfl, by simp⟩
  · exact .inr hf
/-! ### dicts of the store, read -/
/-- what the dict at a has for the key y -/
def DG (K : PySem.W.Frag) (H : Hp) (a : Addr) (y : V) (p : Option V) : Prop := (∃ kvs k, Rd H a (.dK kvs) ∧ y = kV k ∧ p = valV kvs k) ∨ ∃ kvs k b, Rd H a (.dT kvs) ∧ y = .ref b ∧ SqT K H b (k.map kV) ∧ p = valV kvs k
def OptR (c : Ct) (F : Hp) (io : List Addr) : Option V → Option D → Prop
  | some v, some d => Rv c F io v d
  | none, none => True
  | _, _ => False
theorem key_sq {pins : List (Addr × Obj)} {s : Shared} {b : Addr} {ks : List Key} (I : Inv X pins σ H s) (e : SqT X.K H b (ks.map kV)) : (tupleKind (mixKind X.prog X.w)).is s.heap ks b := by
  obtain ⟨its, r, ⟨o, h1, h2, n, h3⟩, _⟩ := I.tuple e
  exact ⟨o, its.toArray, n, h1, h2, h3, by simpa using items_are r⟩
def rDIn (K : PySem.W.Frag) (neg : Bool) : R2 := fun y x H Q => ∃ a p, x = .ref a ∧ DG K H a y p ∧ Q (.bl (if neg then !p.isSome else p.isSome)) H
theorem op_din (hu : X.A.units + 1 < cLine) : OpR X (compareOp .In) (rDIn X.K false) := by
  intro pins s σ H y x u v Q I ry rx h
  obtain ⟨a, p, rfl, g, q⟩ := h
  obtain rfl : v = Value.ref a := rx
  rcases g with ⟨kvs, k, e, ey, l⟩ | ⟨kvs, k, b, e, ey, eb, l⟩
  · exact d_in hu I (.inl ⟨kvs, k, e, ey, l⟩) ry fun s' I' => ⟨.bl p.isSome, H, I', rfl, q⟩
  · subst ey
    cases (show u = Value.ref b from ry)
    obtain ⟨z, hd, xs, rel, dd⟩ := dt_rd I.hok e
    refine wpAny_in_heap (tupleKind_room_in1 hu) (key_sq I eb) hd dd ?_
    have z := (rel.val k).isSome_eq
    rw [Option.isSome_map] at z
    rw [← z, ← l]
    exact ⟨.bl p.isSome, H, I.tok _, rfl, q⟩
theorem op_dnin (hu : X.A.units + 1 < cLine) : OpR X (compareOp .NotIn) (rDIn X.K true) := by
  intro pins s σ H y x u v Q I ry rx h
  obtain ⟨a, p, rfl, g, q⟩ := h
  obtain rfl : v = Value.ref a := rx
  rcases g with ⟨kvs, k, e, ey, l⟩ | ⟨kvs, k, b, e, ey, eb, l⟩
  · exact d_notIn hu I (.inl ⟨kvs, k, e, ey, l⟩) ry fun s' I' => ⟨.bl (!p.isSome), H, I', rfl, q⟩
  · subst ey
    cases (show u = Value.ref b from ry)
    obtain ⟨z, hd, xs, rel, dd⟩ := dt_rd I.hok e
    refine PyProof.Rows.wpAny_notIn_heap (tupleKind_room_in1 hu) (key_sq I eb) hd dd ?_
    have z := (rel.val k).isSome_eq
    rw [Option.isSome_map] at z
    rw [← z, ← l]
    exact ⟨.bl (!p.isSome), H, I.tok _, rfl, q⟩
theorem RvF.val {κ κ' : Type} [DecidableEq κ] [DecidableEq κ'] {f : κ → κ'} (hf : ∀ a b, f a = f b → a = b) (k : κ) : ∀ {vs : List (κ × V)} {kvs : List (κ × D)}, RvF c F io vs kvs → OptR c F io (valV (vs.map fun p => (f p.1, p.2)) (f k)) (vget kvs k)
  | _, _, .nil => True.intro
  | _, _, .cons (x := x) (v := v) (vs := vs) (d := d) (ds := ds) h r => by
    rw [List.map_cons]
    by_cases e : x = k
    · subst e
      rw [valV_pos rfl]
      unfold vget
      rw [List.find?_cons, decide_eq_true rfl]
      exact h
    · rw [valV_neg (fun z => e (hf _ _ z))]
      have q := RvF.val hf k r
      unfold vget at q ⊢
      rw [List.find?_cons, decide_eq_false e]
      exact q
theorem inr_inj : ∀ a b : Str, (Sum.inr a : Key) = Sum.inr b → a = b := fun _ _ h => Sum.inr.inj h
theorem inls_inj : ∀ a b : List Int, a.map (Sum.inl : Int → Key) = b.map Sum.inl → a = b
  | [], [], _ => rfl
  | [], _ :: _, h => by simp at h
  | _ :: _, [], h => by simp at h
  | x :: xs, y :: ys, h => by
    rw [List.map_cons, List.map_cons] at h
    injection h with h1 h2
    rw [Sum.inl.inj h1, inls_inj xs ys h2]
theorem keyI_ok : ∀ {vs : List V} {ds : List D} {ks : List Int}, RvAll c F io vs ds → keyI ds = some ks → vs = (ks.map (Sum.inl : Int → Key)).map kV
  | _, _, _, .nil, h => by cases h; rfl
  | _, _, _, .cons (d := d) h r, e => by
    cases d <;> simp only [keyI, Option.map_eq_some_iff, reduceCtorEq] at e
    obtain ⟨ks, e1, rfl⟩ := e
    cases h
    rw [List.map_cons, List.map_cons, keyI_ok r e1]
    rfl
theorem dget_ok (hK : X.K = c.K) (g : Good c B F io st rh σ H) {n : Nat} {x y : V} {k : D} {o : Option D} (hx : Rv c F io x (.loc n)) (hy : Vw c F io H y k) (h : dget st n k = some o) : ∃ a p, x = .ref a ∧ DG X.K H a y p ∧ OptR c F io p o := by
  cases hx with
  | loc hn =>
    rename_i a
    unfold dget at h
    split at h
    · rename_i lk kvs x hs
      cases h
      cases hy
      have q := g.sim.ob n a _ hn hs
      cases lk with
      | false => obtain ⟨vs, e, r⟩ := q; exact ⟨a, _, rfl, .inl ⟨_, Sum.inr x, .inl (g.sub _ _ e), rfl, rfl⟩, r.val inr_inj x⟩
      | true => obtain ⟨ob, vs, e, r⟩ := q; exact ⟨a, _, rfl, .inl ⟨_, Sum.inr x, .inr ⟨ob, g.sub _ _ e⟩, rfl, rfl⟩, r.val inr_inj x⟩
    · rename_i lk kvs ds hs
      rw [Option.map_eq_some_iff] at h
      obtain ⟨ks, e1, rfl⟩ := h
      have hy' : Rv c F io y (.tup ds) := hy
      obtain ⟨b, ws, rfl, q1, r1⟩ := Rv.sqT (a := 0) g.sub hy'
      have ew := keyI_ok r1 e1
      subst ew
      have q := g.sim.ob n a _ hn hs
      cases lk with
      | false => obtain ⟨vs, e, r⟩ := q; exact ⟨a, _, rfl, .inr ⟨_, ks.map Sum.inl, b, .inl (g.sub _ _ e), rfl, by rw [hK]; exact q1, rfl⟩, r.val inls_inj ks⟩
      | true => obtain ⟨ob, vs, e, r⟩ := q; exact ⟨a, _, rfl, .inr ⟨_, ks.map Sum.inl, b, .inr ⟨ob, g.sub _ _ e⟩, rfl, by rw [hK]; exact q1, rfl⟩, r.val inls_inj ks⟩
    · cases h
theorem OptR.some_eq {p : Option V} {o : Option D} (h : OptR c F io p o) : p.isSome = o.isSome := by
  cases p <;> cases o <;> first | rfl | exact h.elim
theorem in_ok (hK : X.K = c.K) (g : Good c B F io st rh σ H) {x y : V} {d e : D} {b : Bool} (hx : Vw c F io H x d) (hy : Vw c F io H y e) (hf : inD st d e = some b) :
    (∃ a p, y = .ref a ∧ DG X.K H a x p ∧ b = p.isSome) ∨ (∃ (k : Nat) (z : Str), x = .str ⟨#[k]⟩ ∧ y = .str z ∧ b = decide (k ∈ z.cps.toList)) ∨
    (∃ p xs, y = .ref p ∧ (SqL X.K H p xs ∨ SqT X.K H p xs) ∧ flatV x = true ∧ xs.all flatV = true ∧ b = inV x xs) := by
  have seq : ∀ ds : List D, (∃ p xs, y = .ref p ∧ (SqL X.K H p xs ∨ SqT X.K H p xs) ∧ RvAll c F io xs ds) → (if flatD d && ds.all flatD then some (ds.any fun y => eqF y d) else none) = some b →
      ∃ p xs, y = .ref p ∧ (SqL X.K H p xs ∨ SqT X.K H p xs) ∧ flatV x = true ∧ xs.all flatV = true ∧ b = inV x xs := by
    intro ds ⟨p, xs, e1, e2, r⟩ hf
    split at hf
    · rename_i hc
      rw [Bool.and_eq_true] at hc
      cases hf
      have hx' := hx.flat hc.1
      exact ⟨p, xs, e1, e2, hx'.flat hc.1, r.flats hc.2, (RvAll.inv hx' hc.1 r hc.2).symm⟩
    · cases hf
  cases e with
  | loc n =>
    have hf : (dget st n d).map (·.isSome) = some b := by cases d <;> exact hf
    rw [Option.map_eq_some_iff] at hf
    obtain ⟨o, h1, rfl⟩ := hf
    obtain ⟨a, p, e1, e2, e3⟩ := dget_ok hK g hy hx h1
    exact .inl ⟨a, p, e1, e2, e3.some_eq.symm⟩
  | str z =>
    cases d with
    | str s =>
      simp only [inD] at hf
      cases hx; cases hy
      split at hf
      · rename_i k hk
        cases hf
        refine .inr (.inl ⟨k, z, ?_, rfl, rfl⟩)
        congr 1
        cases s
        rename_i a
        congr 1
        exact Array.toList_inj.mp (by simpa using hk)
      · cases hf
    | _ => simp [inD] at hf
  | tup ds =>
    refine .inr (.inr (seq ds ?_ (by cases d <;> exact hf)))
    have hy' : Rv c F io y (.tup ds) := hy
    obtain ⟨a, vs, e1, q1, r1⟩ := Rv.sqT (a := 0) g.sub hy'
    exact ⟨a, vs, e1, .inr (by rw [hK]; exact q1), r1⟩
  | lst ds =>
    refine .inr (.inr (seq ds ?_ (by cases d <;> exact hf)))
    obtain ⟨a, vs, e1, q1, r1⟩ := hy
    exact ⟨a, vs, e1, .inl (.inl (.inl q1)), r1⟩
  | _ => cases d <;> simp [inD] at hf
theorem is_ok (g : Good c B F io st rh σ H) {x y : V} {d e : D} {b : Bool} (hx : Vw c F io H x d) (hy : Vw c F io H y e) (hf : isD d e = some b) :
    (y = .non ∧ b = decide (x = .non)) ∨ ∃ a k : Bool, x = .bl a ∧ y = .bl k ∧ b = decide (a = k) := by
  cases e with
  | non =>
    refine .inl ⟨hy.non_iff.mpr rfl, ?_⟩
    have q := hx.non_iff
    cases d with
    | non => simp [isD] at hf; subst hf; symm; simp [q]
    | _ => simp [isD] at hf; subst hf; symm; simp [q]
  | bl k =>
    cases d with
    | bl a =>
      simp only [isD, Option.some.injEq] at hf
      cases hx; cases hy
      exact .inr ⟨a, k, rfl, rfl, hf.symm⟩
    | _ => simp [isD] at hf
  | _ => cases d <;> simp [isD] at hf
theorem cmp_ok (hK : X.K = c.K) (hu : X.A.units + 64 < cLine) (op : CmpOp) : ∃ r, OpR X (compareOp op) r ∧ CmpOk c r (fun st => cmpD st op) := by
  cases op with
  | Eq =>
    refine ⟨_, op_eq.or (op_eqD hu), ?_⟩
    intro B F H io st rh σ x y d e b Q g hx hy hf q
    rcases eqd_ok g hx hy hf with ⟨h1, rfl⟩ | hf
    · exact .inl ⟨h1, q⟩
    · obtain ⟨p, z, h1, h2, h3, h4, rfl⟩ := eq_ok hK g hx hy hf
      exact .inr ⟨p, z, h1, h2, h3, h4, q⟩
  | NotEq =>
    refine ⟨_, op_ne.or (op_neD hu), ?_⟩
    intro B F H io st rh σ x y d e b Q g hx hy hf q
    simp only [cmpD, Option.map_eq_some_iff] at hf
    obtain ⟨b', hf, rfl⟩ := hf
    rcases eqd_ok g hx hy hf with ⟨h1, rfl⟩ | hf
    · exact .inl ⟨h1, q⟩
    · obtain ⟨p, z, h1, h2, h3, h4, rfl⟩ := eq_ok hK g hx hy hf
      exact .inr ⟨p, z, h1, h2, h3, h4, q⟩
  | Lt =>
    refine ⟨_, op_lt.or op_lt_str, ?_⟩
    intro B F H io st rh σ x y d e b Q g hx hy hf q
    cases d <;> cases e <;> simp only [cmpD] at hf <;> try (cases hf; done)
    · cases hf; cases hx; cases hy
      exact .inl ⟨_, _, rfl, rfl, q⟩
    · cases hf; cases hx; cases hy
      exact .inr ⟨_, _, rfl, rfl, q⟩
  | LtE =>
    refine ⟨_, op_le, ?_⟩
    intro B F H io st rh σ x y d e b Q g hx hy hf q
    cases d <;> cases e <;> simp only [cmpD] at hf <;> try (cases hf; done)
    cases hf; cases hx; cases hy
    exact ⟨_, _, rfl, rfl, q⟩
  | Gt =>
    refine ⟨_, op_gt.or op_gt_str, ?_⟩
    intro B F H io st rh σ x y d e b Q g hx hy hf q
    cases d <;> cases e <;> simp only [cmpD] at hf <;> try (cases hf; done)
    · cases hf; cases hx; cases hy
      exact .inl ⟨_, _, rfl, rfl, q⟩
    · cases hf; cases hx; cases hy
      exact .inr ⟨_, _, rfl, rfl, q⟩
  | GtE =>
    refine ⟨_, op_ge, ?_⟩
    intro B F H io st rh σ x y d e b Q g hx hy hf q
    cases d <;> cases e <;> simp only [cmpD] at hf <;> try (cases hf; done)
    cases hf; cases hx; cases hy
    exact ⟨_, _, rfl, rfl, q⟩
  | In =>
    refine ⟨_, (op_din (by omega)).or (op_in_sign.or op_in_seq), ?_⟩
    intro B F H io st rh σ x y d e b Q g hx hy hf q
    rcases in_ok hK g hx hy hf with ⟨a, p, e1, e2, rfl⟩ | ⟨k, z, rfl, rfl, rfl⟩ | ⟨p, xs, rfl, h1, h2, h3, rfl⟩
    · exact .inl ⟨a, p, e1, e2, q⟩
    · exact .inr (.inl ⟨k, z, rfl, rfl, q⟩)
    · exact .inr (.inr ⟨p, xs, rfl, h1, h2, h3, q⟩)
  | NotIn =>
    refine ⟨_, (op_dnin (by omega)).or (op_notIn_sign.or op_notIn_seq), ?_⟩
    intro B F H io st rh σ x y d e b Q g hx hy hf q
    simp only [cmpD, Option.map_eq_some_iff] at hf
    obtain ⟨b', hf, rfl⟩ := hf
    rcases in_ok hK g hx hy hf with ⟨a, p, e1, e2, rfl⟩ | ⟨k, z, rfl, rfl, rfl⟩ | ⟨p, xs, rfl, h1, h2, h3, rfl⟩
    · exact .inl ⟨a, p, e1, e2, q⟩
    · exact .inr (.inl ⟨k, z, rfl, rfl, q⟩)
    · exact .inr (.inr ⟨p, xs, rfl, h1, h2, h3, q⟩)
  | Is =>
    refine ⟨_, op_isN.or op_is_bl, ?_⟩
    intro B F H io st rh σ x y d e b Q g hx hy hf q
    rcases is_ok g hx hy hf with ⟨rfl, rfl⟩ | ⟨a, k, rfl, rfl, rfl⟩
    · exact .inl ⟨rfl, q⟩
    · exact .inr ⟨a, k, rfl, rfl, q⟩
  | IsNot =>
    refine ⟨_, op_notN.or op_isnot_bl, ?_⟩
    intro B F H io st rh σ x y d e b Q g hx hy hf q
    simp only [cmpD, Option.map_eq_some_iff] at hf
    obtain ⟨b', hf, rfl⟩ := hf
    rcases is_ok g hx hy hf with ⟨rfl, rfl⟩ | ⟨a, k, rfl, rfl, rfl⟩
    · exact .inl ⟨rfl, q⟩
    · exact .inr ⟨a, k, rfl, rfl, q⟩
end
end KL

namespace KL
open PySem L2

/-! ### what a context has -/
structure Cok (X : Cx) (c : Ct) (W : WX) : Prop where
  hK : X.K = c.K
  nd : X.N.Nodup
  calm : X.calm = true
  hu : X.A.units + 64 < cLine
  tk : L2N.Takes X W

/-! ### names, constants, arguments -/
def eVar (i : Nat) : Sm := fun rh st => match rh[i]? with
  | some (some (.val d)) => .ok (.d d) st
  | some (some (.own _)) => .ok (.o i) st
  | _ => .no
def eC (d : D) : Sm := fun _ st => .ok (.d d) st
def toDv : TV → Option D
  | .d d => some d
  | .fr ds => some (.lst ds)
  | .o _ => none
def eArgs : List Sm → Rho → Sto → R (List D)
  | [], _, st => .ok [] st
  | f :: fs, rh, st => (f rh st).bind fun t st1 => match toDv t with
    | none => .no
    | some d => (eArgs fs rh st1).bind fun ds st2 => .ok (d :: ds) st2
def eTup (fs : List Sm) : Sm := fun rh st => (eArgs fs rh st).bind fun ds st1 => .ok (.d (.tup ds)) st1
def eLst (fs : List Sm) : Sm := fun rh st => (eArgs fs rh st).bind fun ds st1 => .ok (.fr ds) st1
def PstA (c : Ct) (W : WX) (F : Hp) (io : List Addr) (σ : St) (H : Hp) (Q : List V → Hp → Prop) : R (List D) → Prop
  | .ok ds st' => ∀ vs H' F' io', Stp c F io H F' io' H' → Sim c F' io' st' → RvAll c F' io' vs ds → Q vs H'
  | .ex e st' => ∀ H' F' io', Stp c F io H F' io' H' → Sim c F' io' st' → W (c.xc e) none σ H'
  | .no => False
def denA (c : Ct) (W : WX) (fs : List Sm) : TA := fun σ H Q => ∃ B F io st rh, Good c B F io st rh σ H ∧ PstA c W F io σ H Q (eArgs fs rh st)
section
variable {X : Cx} {c : Ct} {W : WX} {B : Bs} {F F1 H H1 : Hp} {io io1 : List Addr} {st st1 : Sto} {rh : Rho} {σ : St} {Q : VK} {v : V} {t : TV} {d : D}
theorem pe_den_var {i : Nat} {x : Str} {pos : Pos} (hN : X.N[i]? = some x) (hv : Vis X.env.scope x) (hd : (x == ("__debug__" : Str)) = false) (hcd : (x == ("__classdict__" : Str)) = false) : PE X (.Name x pos) (den c W (eVar i)) := by
  refine PE.weak (pe_var (i := i) hN hv hd hcd) fun σ H Q ⟨B, F, io, st, rh, g, p⟩ => ?_
  unfold eVar at p
  cases q : rh[i]? with
  | none => rw [q] at p; exact p.elim
  | some o =>
    cases o with
    | none => rw [q] at p; exact p.elim
    | some k =>
      cases k with
      | val d =>
        rw [q] at p
        obtain ⟨v, e1, r⟩ := g.val i d q
        exact ⟨v, e1, p v H F io (Stp.refl g.sub) g.sim r⟩
      | own ds =>
        rw [q] at p
        obtain ⟨a, vs, e1, _⟩ := g.own i ds q
        exact ⟨.ref a, e1, p _ H F io (Stp.refl g.sub) g.sim ⟨⟨ds, q⟩, e1⟩⟩
      | clo t ds => rw [q] at p; exact p.elim
theorem pe_den_c {e : Expr} (h : PE X e (tC v)) (r : ∀ F io, Rv c F io v d) : PE X e (den c W (eC d)) :=
  PE.weak h fun σ H Q ⟨B, F, io, st, rh, g, p⟩ => p v H F io (Stp.refl g.sub) g.sim (r F io)
/-- what was just made is given away: it is leant on -/
theorem Tvs.give (S : Stp c F io H F1 io1 H1) (s1 : Sim c F1 io1 st1) (T : Tvs c H F1 io1 rh σ H1 v t) (e : toDv t = some d) : ∃ F2, Stp c F io H F2 io1 H1 ∧ Sim c F2 io1 st1 ∧ Rv c F2 io1 v d := by
  cases t with
  | d d' => cases e; exact ⟨F1, S, s1, T⟩
  | o i => cases e
  | fr ds =>
    cases e
    obtain ⟨p, vs, rfl, h0, h1, h2, r⟩ := T
    exact ⟨upd F1 p (.lst vs), S.lean h0 h1 h2, s1.more (upd_more h2), .lst upd_same (fun z => s1.dom z h2) (r.more (upd_more h2))⟩
theorem PstA.step {r : R (List D)} {Q : List V → Hp → Prop} (g : Good c B F io st rh σ H) (S : Stp c F io H F1 io1 H1) (h : PstA c W F io σ H Q r) : PstA c W F1 io1 σ H1 Q r := by
  cases r with
  | ok t st' => exact fun v H' F' io' S' s' T' => h v H' F' io' (S.trans g.sub S') s' T'
  | ex e st' => exact fun H' F' io' S' s' => h H' F' io' (S.trans g.sub S') s'
  | no => exact h
def notStar : Expr → Bool
  | .Starred _ _ => false
  | _ => true
theorem star_cons {e : Expr} {es : List Expr} {env : Env} (h : notStar e = true) : starEach (e :: es) env = (false, eval e env) :: starEach es env := by
  cases e <;> first | rfl | cases h
theorem star_any {pos : Pos} {env : Env} : ∀ {es : List Expr}, es.all notStar = true → (backTo pos (starEach es env)).any (·.1) = false
  | [], _ => rfl
  | e :: es, h => by
    rw [List.all_cons, Bool.and_eq_true] at h
    rw [star_cons h.1]
    show (false || (backTo pos (starEach es env)).any (·.1)) = false
    rw [star_any h.2]
    rfl
theorem pa_den_nil : PA X [] (denA c W []) := ⟨fun pos pins s σ H Q I ⟨B, F, io, st, rh, g, p⟩ => pa_nil.run pos pins s σ H Q I (p [] H F io (Stp.refl g.sub) g.sim .nil)⟩
theorem pa_den_cons {e : Expr} {es : List Expr} {f : Sm} {fs : List Sm} (he : PE X e (den c W f)) (hs : PA X es (denA c W fs)) (hn : notStar e = true) : PA X (e :: es) (denA c W (f :: fs)) := by
  refine ⟨fun pos pins s σ H Q I ⟨B, F, io, st, rh, g, p⟩ => (pa_cons he hs (star_cons hn)).run pos pins s σ H Q I ?_⟩
  refine ⟨B, F, io, st, rh, g, ?_⟩
  unfold eArgs at p
  cases hr : f rh st with
  | no => rw [hr] at p; exact p.elim
  | ex x st' => rw [hr] at p; exact p
  | ok t st1 =>
    rw [hr] at p
    intro v H1 F1 io1 S s1 T
    have p : PstA c W F io σ H Q (match toDv t with
      | none => .no
      | some d => (eArgs fs rh st1).bind fun ds st2 => .ok (d :: ds) st2) := p
    cases ht : toDv t with
    | none => rw [ht] at p; exact p.elim
    | some d =>
      rw [ht] at p
      obtain ⟨F2, S2, s2, r2⟩ := Tvs.give S s1 T ht
      have g2 := g.step S2 s2
      refine ⟨B, F2, io1, st1, rh, g2, ?_⟩
      have p : PstA c W F io σ H Q ((eArgs fs rh st1).bind fun ds st2 => .ok (d :: ds) st2) := p
      have p := PstA.step g S2 p
      cases hq : eArgs fs rh st1 with
      | no => rw [hq] at p; exact p.elim
      | ex x st' => rw [hq] at p; exact p
      | ok ds st2 =>
        rw [hq] at p
        intro vs H3 F3 io3 S3 s3 T3
        exact p (v :: vs) H3 F3 io3 S3 s3 (.cons (r2.step S3 g2.sub) T3)
/-- from arguments on -/
theorem PstA.bind {r : R (List D)} {k : List D → Sto → R TV} {Q1 : List V → Hp → Prop} (g : Good c B F io st rh σ H) (h : Pst c W F io rh σ H Q (r.bind k))
    (hk : ∀ (ds : List D) (st1 : Sto) (vs : List V) (H1 F1 : Hp) (io1 : List Addr), r = .ok ds st1 → Stp c F io H F1 io1 H1 → Good c B F1 io1 st1 rh σ H1 → RvAll c F1 io1 vs ds → Pst c W F1 io1 rh σ H1 Q (k ds st1) → Q1 vs H1) : PstA c W F io σ H Q1 r := by
  cases r with
  | ok ds st' => exact fun vs H' F' io' S s' T => hk ds st' vs H' F' io' rfl S (g.step S s') T (Pst.step (r := k ds st') g S h)
  | ex e st' => exact h
  | no => exact h
theorem eArgs_length : ∀ {fs : List Sm} {rh : Rho} {st st1 : Sto} {ds : List D}, eArgs fs rh st = .ok ds st1 → ds.length = fs.length
  | [], _, _, _, _, h => by cases h; rfl
  | f :: fs, rh, st, st1, ds, h => by
    unfold eArgs at h
    cases hr : f rh st with
    | no => rw [hr] at h; cases h
    | ex x st' => rw [hr] at h; cases h
    | ok t st2 =>
      rw [hr] at h
      simp only [R.bind] at h
      cases ht : toDv t with
      | none => rw [ht] at h; cases h
      | some d =>
        rw [ht] at h
        simp only at h
        cases hq : eArgs fs rh st2 with
        | no => rw [hq] at h; cases h
        | ex x st' => rw [hq] at h; cases h
        | ok ds' st3 =>
          rw [hq] at h
          simp only [R.ok.injEq] at h
          obtain ⟨rfl, rfl⟩ := h
          rw [List.length_cons, List.length_cons, eArgs_length hq]
theorem pe_den_tup {es : List Expr} {fs : List Sm} {k : Nat} {pos : Pos} (h : PA X es (denA c W fs)) (hl : fs.length ≤ sizeLine) : PE X (.Tuple es k pos) (den c W (eTup fs)) := by
  refine PE.weak (pe_tupF h) fun σ H Q ⟨B, F, io, st, rh, g, p⟩ => ?_
  refine ⟨B, F, io, st, rh, g, PstA.bind g p fun ds st1 vs H1 F1 io1 e S g1 r p1 => ⟨by rw [r.length, eArgs_length e]; exact hl, (p1.out g1).tup g1 r⟩⟩
theorem pe_den_lst {es : List Expr} {fs : List Sm} {pos : Pos} (h : PA X es (denA c W fs)) (hl : fs.length ≤ sizeLine) : PE X (.List es pos) (den c W (eLst fs)) := by
  refine PE.weak (pe_lst h) fun σ H Q ⟨B, F, io, st, rh, g, p⟩ => ?_
  refine ⟨B, F, io, st, rh, g, PstA.bind g p fun ds st1 vs H1 F1 io1 e S g1 r p1 => ⟨by rw [r.length, eArgs_length e]; exact hl, fun q hq => (p1.out g1).lst g1 r q hq⟩⟩
end

/-! ### operators -/
def eOp2 (f : Sto → D → D → Option TV) (fa fb : Sm) : Sm := fun rh st => (fa rh st).bind fun t1 st1 => (fb rh st1).bind fun t2 st2 =>
  match view rh st2 t1, view rh st2 t2 with
  | some d, some e => (match f st2 d e with
    | some t => .ok t st2
    | none => .no)
  | _, _ => .no
def bV (o : Option Bool) : Option TV := o.map fun b => .d (.bl b)
def eBin (op : Operator) : Sm → Sm → Sm := eOp2 fun _ => binD op
def eCmp (op : CmpOp) : Sm → Sm → Sm := eOp2 fun st d e => bV (cmpD st op d e)
section
variable {X : Cx} {c : Ct} {W : WX} {B : Bs} {F F1 H H1 : Hp} {io io1 : List Addr} {st st1 : Sto} {rh : Rho} {σ : St} {Q : VK} {v : V} {t : TV} {d : D} {a b : Expr} {fa fb : Sm} {pos : Pos}
theorem op2_of {f : Sto → D → D → Option TV} {r : R2} (ok : OpOk c r f) {σ : St} {H : Hp} {Q : VK} (h : den c W (eOp2 f fa fb) σ H Q) : tOp r (den c W fa) (den c W fb) σ H Q := by
  obtain ⟨B, F, io, st, rh, g, p⟩ := h
  refine ⟨B, F, io, st, rh, g, Pst.bind g p fun t1 st1 x H1 F1 io1 e1 S1 g1 T1 p1 => ⟨B, F1, io1, st1, rh, g1, Pst.bind g1 p1 fun t2 st2 y H2 F2 io2 e2 S2 g2 T2 p2 => ?_⟩⟩
  cases h1 : view rh st2 t1 with
  | none => rw [h1] at p2; exact p2.elim
  | some d =>
    cases h2 : view rh st2 t2 with
    | none => rw [h1, h2] at p2; exact p2.elim
    | some e =>
      rw [h1, h2] at p2
      have p2 : Pst c W F2 io2 rh σ H2 Q (match f st2 d e with
        | some t => .ok t st2
        | none => .no) := p2
      cases h3 : f st2 d e with
      | none => rw [h3] at p2; exact p2.elim
      | some t =>
        rw [h3] at p2
        exact ok g2 (view_ok g2 ((T1.r g1.sim).step S2 g1.sub) h1) (view_ok g2 (T2.r g2.sim) h2) h3 (p2.out g2)
theorem pe_den_bin (C : Cok X c W) {op : Operator} (ha : PE X a (den c W fa)) (hb : PE X b (den c W fb)) : PE X (.BinOp a op b pos) (den c W (eBin op fa fb)) := by
  obtain ⟨r, ho, ok⟩ := bin_ok (X := X) C.hK op
  exact PE.weak (pe_op ho ha hb) fun σ H Q h => op2_of ok h
theorem cmpOk_op {r : R2} {f : Sto → D → D → Option Bool} (ok : CmpOk c r f) : OpOk c r (fun st d e => bV (f st d e)) := by
  intro B F H io st rh σ x y d e t Q g hx hy hf ho
  unfold bV at hf
  rw [Option.map_eq_some_iff] at hf
  obtain ⟨b, hb, rfl⟩ := hf
  exact ok g hx hy hb (ho.same g.sub (.bl b))
theorem pe_den_cmp (C : Cok X c W) {op : CmpOp} (ha : PE X a (den c W fa)) (hb : PE X b (den c W fb)) (hm : behindInMarks op b = false) : PE X (.Compare a [op] [b] pos) (den c W (eCmp op fa fb)) := by
  obtain ⟨r, ho, ok⟩ := cmp_ok (X := X) C.hK C.hu op
  exact PE.weak (pe_cmpR ho ha hb hm) fun σ H Q h => op2_of (cmpOk_op ok) h
end
/-! ### tests -/
def denT (c : Ct) (W : WX) (f : Sm) : TT := fun σ H Q => den c W f σ H fun v H' => ∃ b, v = .bl b ∧ Q b H'
/-- it gives a truth or nothing -/
def tyB (r : R TV) : R TV := r.bind fun t st => match t with
  | .d (.bl b) => .ok (.d (.bl b)) st
  | _ => .no
section
variable {X : Cx} {c : Ct} {W : WX} {a b e : Expr} {fa fb : Sm} {pos : Pos}
theorem pt_den_cmp (C : Cok X c W) {op : CmpOp} (ha : PE X a (den c W fa)) (hb : PE X b (den c W fb)) (hm : behindInMarks op b = false) : PT X (.Compare a [op] [b] pos) (denT c W (eCmp op fa fb)) := by
  obtain ⟨r, ho, ok⟩ := cmp_ok (X := X) C.hK C.hu op
  exact PT.weak (pt_cmpR ho ha hb hm) fun σ H Q h => op2_of (cmpOk_op ok) h
end
def eCmp2 (op op' : CmpOp) (fa fb fc : Sm) : Sm := fun rh st => (fa rh st).bind fun t1 st1 => (fb rh st1).bind fun t2 st2 =>
  match view rh st2 t1, view rh st2 t2 with
  | some d, some e => (match cmpD st2 op d e with
    | some true => (fc rh st2).bind fun t3 st3 => (match view rh st3 t2, view rh st3 t3 with
      | some e', some f' => (match cmpD st3 op' e' f' with
        | some b => .ok (.d (.bl b)) st3
        | none => .no)
      | _, _ => .no)
    | some false => .ok (.d (.bl false)) st2
    | none => .no)
  | _, _ => .no
section
variable {X : Cx} {c : Ct} {W : WX} {a b e : Expr} {fa fb fc : Sm} {pos : Pos}
theorem chain_of {op op' : CmpOp} {r r' : R2} (ok : CmpOk c r (fun st => cmpD st op)) (ok' : CmpOk c r' (fun st => cmpD st op')) {σ : St} {H : Hp} {Q : VK} (h : den c W (eCmp2 op op' fa fb fc) σ H Q) : tChain r r' (den c W fa) (den c W fb) (den c W fc) σ H Q := by
  obtain ⟨B, F, io, st, rh, g, p⟩ := h
  refine ⟨B, F, io, st, rh, g, Pst.bind g p fun t1 st1 x H1 F1 io1 e1 S1 g1 T1 p1 => ⟨B, F1, io1, st1, rh, g1, Pst.bind g1 p1 fun t2 st2 y H2 F2 io2 e2 S2 g2 T2 p2 => ?_⟩⟩
  cases h1 : view rh st2 t1 with
  | none => rw [h1] at p2; exact p2.elim
  | some d =>
    cases h2 : view rh st2 t2 with
    | none => rw [h1, h2] at p2; exact p2.elim
    | some e =>
      rw [h1, h2] at p2
      have p2 : Pst c W F2 io2 rh σ H2 Q (match cmpD st2 op d e with
        | some true => (fc rh st2).bind fun t3 st3 => (match view rh st3 t2, view rh st3 t3 with
          | some e', some f' => (match cmpD st3 op' e' f' with
            | some b => .ok (.d (.bl b)) st3
            | none => .no)
          | _, _ => .no)
        | some false => .ok (.d (.bl false)) st2
        | none => .no) := p2
      cases h3 : cmpD st2 op d e with
      | none => rw [h3] at p2; exact p2.elim
      | some k =>
        rw [h3] at p2
        refine ok g2 (view_ok g2 ((T1.r g1.sim).step S2 g1.sub) h1) (view_ok g2 (T2.r g2.sim) h2) h3 ⟨k, rfl, ?_⟩
        cases k with
        | false => exact iteF ((p2.out g2).same g2.sub (.bl false))
        | true =>
          refine iteT ⟨B, F2, io2, st2, rh, g2, Pst.bind g2 p2 fun t3 st3 z H3 F3 io3 e3 S3 g3 T3 p3 => ?_⟩
          cases h4 : view rh st3 t2 with
          | none => rw [h4] at p3; exact p3.elim
          | some e' =>
            cases h5 : view rh st3 t3 with
            | none => rw [h4, h5] at p3; exact p3.elim
            | some f' =>
              rw [h4, h5] at p3
              have p3 : Pst c W F3 io3 rh σ H3 Q (match cmpD st3 op' e' f' with
                | some b => .ok (.d (.bl b)) st3
                | none => .no) := p3
              cases h6 : cmpD st3 op' e' f' with
              | none => rw [h6] at p3; exact p3.elim
              | some b =>
                rw [h6] at p3
                exact ok' g3 (view_ok g3 ((T2.r g2.sim).step S3 g2.sub) h4) (view_ok g3 (T3.r g3.sim) h5) h6 ((p3.out g3).same g3.sub (.bl b))
theorem pe_den_cmp2 (C : Cok X c W) {op op' : CmpOp} {c' : Expr} (ha : PE X a (den c W fa)) (hb : PE X b (den c W fb)) (hc : PE X c' (den c W fc)) (hm : lastMarks [op, op'] [b, c'] = false) : PE X (.Compare a [op, op'] [b, c'] pos) (den c W (eCmp2 op op' fa fb fc)) := by
  obtain ⟨r, ho, ok⟩ := cmp_ok (X := X) C.hK C.hu op
  obtain ⟨r', ho', ok'⟩ := cmp_ok (X := X) C.hK C.hu op'
  exact PE.weak (pe_chain ho ho' ha hb hc hm) fun σ H Q h => chain_of ok ok' h
theorem pt_den_cmp2 (C : Cok X c W) {op op' : CmpOp} {c' : Expr} (ha : PE X a (den c W fa)) (hb : PE X b (den c W fb)) (hc : PE X c' (den c W fc)) (hm : lastMarks [op, op'] [b, c'] = false) : PT X (.Compare a [op, op'] [b, c'] pos) (denT c W (eCmp2 op op' fa fb fc)) := by
  obtain ⟨r, ho, ok⟩ := cmp_ok (X := X) C.hK C.hu op
  obtain ⟨r', ho', ok'⟩ := cmp_ok (X := X) C.hK C.hu op'
  exact PT.weak (pt_chain ho ho' ha hb hc hm) fun σ H Q h => chain_of ok ok' h
end
end KL

namespace KL
open PySem L2

/-! ### one operand -/
def eOp1 (f : Sto → D → Option TV) (fa : Sm) : Sm := fun rh st => (fa rh st).bind fun t1 st1 =>
  match view rh st1 t1 with
  | some d => (match f st1 d with
    | some t => .ok t st1
    | none => .no)
  | none => .no
/-- an operation on one value keeps to its data -/
def Op1Ok (c : Ct) (r : V → Hp → VK → Prop) (f : Sto → D → Option TV) : Prop := ∀ {B : Bs} {F H : Hp} {io : List Addr} {st : Sto} {rh : Rho} {σ : St} {x : V} {d : D} {t : TV} {Q : VK}, Good c B F io st rh σ H → Vw c F io H x d → f st d = some t → Out c F io rh σ H Q t → r x H Q
section
variable {X : Cx} {c : Ct} {W : WX} {a b e : Expr} {fa fb fc : Sm} {pos : Pos}
theorem op1_of {f : Sto → D → Option TV} {r : V → Hp → VK → Prop} (ok : Op1Ok c r f) {σ : St} {H : Hp} {Q : VK} (h : den c W (eOp1 f fa) σ H Q) : den c W fa σ H fun x H1 => r x H1 Q := by
  obtain ⟨B, F, io, st, rh, g, p⟩ := h
  refine ⟨B, F, io, st, rh, g, Pst.bind g p fun t1 st1 x H1 F1 io1 e1 S1 g1 T1 p1 => ?_⟩
  cases h1 : view rh st1 t1 with
  | none => rw [h1] at p1; exact p1.elim
  | some d =>
    rw [h1] at p1
    have p1 : Pst c W F1 io1 rh σ H1 Q (match f st1 d with
      | some t => .ok t st1
      | none => .no) := p1
    cases h3 : f st1 d with
    | none => rw [h3] at p1; exact p1.elim
    | some t =>
      rw [h3] at p1
      exact ok g1 (view_ok g1 (T1.r g1.sim) h1) h3 (p1.out g1)
end

/-! ### truth, not, and, or, if-else -/
def truD (st : Sto) : D → Option Bool
  | .non => some false
  | .bl b => some b
  | .int i => some (i != 0)
  | .str x => if x.length ≤ sizeLine then some ((x.length : Int) != 0) else none
  | .tup ds => some (!ds.isEmpty)
  | .lst ds => some (!ds.isEmpty)
  | .loc n => (match st[n]? with
    | some (.dct false kvs) => some (!kvs.isEmpty)
    | _ => none)
  | _ => none
def eTru : Sm → Sm := eOp1 fun st d => bV (truD st d)
def notD : D → Option Bool
  | .bl b => some (!b)
  | _ => none
def eNot : Sm → Sm := eOp1 fun _ d => bV (notD d)
def eAnd (fa fb : Sm) : Sm := fun rh st => (fa rh st).bind fun t st1 => match t with
  | .d (.bl true) => fb rh st1
  | .d (.bl false) => .ok (.d (.bl false)) st1
  | _ => .no
def eOr (fa fb : Sm) : Sm := fun rh st => (fa rh st).bind fun t st1 => match t with
  | .d (.bl false) => fb rh st1
  | .d (.bl true) => .ok (.d (.bl true)) st1
  | _ => .no
def eIf (fc fa fb : Sm) : Sm := fun rh st => (fc rh st).bind fun t st1 => match t with
  | .d (.bl true) => fa rh st1
  | .d (.bl false) => fb rh st1
  | _ => .no
section
variable {X : Cx} {c : Ct} {W : WX} {a b e : Expr} {rest : List Expr} {fa fb fc : Sm} {pos : Pos} {B : Bs} {F F1 H H1 : Hp} {io io1 : List Addr} {st st1 : Sto} {rh : Rho} {σ : St} {Q : VK}
theorem RvAll.emp {c : Ct} {F : Hp} {io : List Addr} {vs : List V} {ds : List D} (r : RvAll c F io vs ds) : vs.isEmpty = ds.isEmpty := by cases r <;> rfl
theorem tru_of (hK : X.K = c.K) {x : V} {d : D} {k : Bool} (g : Good c B F io st rh σ H) (h : Vw c F io H x d) (e : truD st d = some k) : TruV X.K x H k := by
  cases d with
  | non => cases h; cases e; rfl
  | bl b => cases h; cases e; rfl
  | int i => cases h; cases e; rfl
  | str s =>
    cases h
    simp only [truD] at e
    split at e
    · rename_i hl
      cases e
      exact ⟨hl, rfl⟩
    · cases e
  | tup ds =>
    cases e
    have h' : Rv c F io x (.tup ds) := h
    obtain ⟨a, vs, rfl, q1, r1⟩ := Rv.sqT (a := 0) g.sub h'
    exact .inr (.inl ⟨vs, by rw [hK]; exact q1, by rw [r1.emp]⟩)
  | lst ds =>
    cases e
    obtain ⟨a, vs, rfl, q1, r1⟩ := h
    exact .inl ⟨vs, .inl (.inl q1), by rw [r1.emp]⟩
  | loc n =>
    cases h with
    | loc hn =>
      rename_i a
      simp only [truD] at e
      split at e
      · rename_i kvs hs
        cases e
        obtain ⟨vs, e, r⟩ := g.sim.ob n a _ hn hs
        exact .inr (.inr ⟨_, g.sub _ _ e, by cases r <;> rfl⟩)
      · cases e
  | scr n => cases e
  | clo t ds => cases e
  | raw ds => cases e
/-- a test whose own rule is its value's truth -/
def plainT : Expr → Bool
  | .UnaryOp .Not _ _ => false
  | .BoolOp _ _ _ => false
  | .IfExp _ _ _ _ => false
  | .Compare _ _ _ _ => false
  | _ => true
theorem plainT_eq {e : Expr} {env : Env} (h : plainT e = true) (whole : PySem.Sem Value) : isTrue e env whole = (do let v ← whole; standAt e.pos; holding [v] (truthy v)) := by
  cases e with
  | UnaryOp op x p => cases op <;> first | rfl | cases h
  | BoolOp => cases h
  | IfExp => cases h
  | Compare => cases h
  | _ => rfl
theorem den_mono {f : Sm} {σ : St} {H : Hp} {Q Q' : VK} (h : den c W f σ H Q) (hq : ∀ v H', Q v H' → Q' v H') : den c W f σ H Q' := by
  obtain ⟨B, F, io, st, rh, g, p⟩ := h
  refine ⟨B, F, io, st, rh, g, ?_⟩
  cases hr : f rh st with
  | no => rw [hr] at p; exact p
  | ex x s => rw [hr] at p; exact p
  | ok t s => rw [hr] at p; exact fun v H' F' io' S s' T => hq v H' (p v H' F' io' S s' T)
theorem tru_ok1 (hK : X.K = c.K) : Op1Ok c (fun x H1 Q' => ∃ k, TruV X.K x H1 k ∧ Q' (.bl k) H1) (fun st d => bV (truD st d)) := by
  intro B F H io st rh σ x d t Q g hx hf ho
  unfold bV at hf
  rw [Option.map_eq_some_iff] at hf
  obtain ⟨k, hk, rfl⟩ := hf
  exact ⟨k, tru_of hK g hx hk, ho.same g.sub (.bl k)⟩
theorem pt_den_tru (C : Cok X c W) (ha : PE X a (den c W fa)) (hp : plainT a = true) : PT X a (denT c W (eTru fa)) := by
  refine PT.weak (pt_truth ha (plainT_eq hp)) fun σ H Q h => ?_
  refine den_mono (op1_of (tru_ok1 C.hK) h) fun v H' ⟨k, h1, b, h2, h3⟩ => ?_
  cases h2
  exact ⟨k, h1, h3⟩
theorem not_of {σ : St} {H : Hp} {Q : VK} (h : den c W (eNot fa) σ H Q) : den c W fa σ H fun x H1 => ∃ k, x = .bl k ∧ Q (.bl (!k)) H1 := by
  refine op1_of (r := fun x H1 Q' => ∃ k, x = .bl k ∧ Q' (.bl (!k)) H1) ?_ h
  intro B F H io st rh σ x d t Q g hx hf ho
  unfold bV at hf
  rw [Option.map_eq_some_iff] at hf
  obtain ⟨k, hk, rfl⟩ := hf
  cases d <;> simp only [notD] at hk <;> try (cases hk; done)
  cases hk
  cases hx
  exact ⟨_, rfl, ho.same g.sub (.bl _)⟩
theorem pe_den_not (ha : PE X a (den c W fa)) : PE X (.UnaryOp .Not a pos) (den c W (eNot fa)) := PE.weak (pe_not ha) fun σ H Q h => not_of h
theorem pt_den_not (ha : PT X a (denT c W fa)) : PT X (.UnaryOp .Not a pos) (denT c W (eNot fa)) := by
  refine PT.weak (pt_not ha) fun σ H Q h => den_mono (not_of h) fun v H' ⟨k, e, b, e2, q⟩ => ⟨k, e, ?_⟩
  cases e2
  exact q
/-- a truth, then what is done by it -/
theorem bl_then {r : R TV} {kt kf : Sto → R TV} {Q1 : VK} (g : Good c B F io st rh σ H) (h : Pst c W F io rh σ H Q (r.bind fun t st1 => match t with
    | .d (.bl true) => kt st1
    | .d (.bl false) => kf st1
    | _ => .no))
    (hk : ∀ (b : Bool) (st1 : Sto) (H1 F1 : Hp) (io1 : List Addr), Good c B F1 io1 st1 rh σ H1 → Pst c W F1 io1 rh σ H1 Q (if b then kt st1 else kf st1) → Q1 (.bl b) H1) : Pst c W F io rh σ H Q1 r := by
  refine Pst.bind g h fun t st1 v H1 F1 io1 e S g1 T p => ?_
  cases t with
  | d d =>
    cases d with
    | bl b =>
      cases T
      cases b with
      | true => exact hk true st1 H1 F1 io1 g1 p
      | false => exact hk false st1 H1 F1 io1 g1 p
    | _ => exact p.elim
  | _ => exact p.elim
theorem and_flip {fa fb : Sm} : eAnd fa fb rh st = (fa rh st).bind fun t st1 => match t with
    | .d (.bl true) => fb rh st1
    | .d (.bl false) => .ok (.d (.bl false)) st1
    | _ => .no := rfl
theorem or_flip {fa fb : Sm} : eOr fa fb rh st = (fa rh st).bind fun t st1 => match t with
    | .d (.bl true) => .ok (.d (.bl true)) st1
    | .d (.bl false) => fb rh st1
    | _ => .no := by
  unfold eOr
  congr 1
  funext t s
  cases t with
  | d d => cases d with
    | bl b => cases b <;> rfl
    | _ => rfl
  | _ => rfl
theorem pe_den_and (ha : PE X a (den c W fa)) (hb : PE X (.BoolOp .And (b :: rest) pos) (den c W fb)) : PE X (.BoolOp .And (a :: b :: rest) pos) (den c W (eAnd fa fb)) := by
  refine PE.weak (pe_and ha hb) fun σ H Q ⟨B, F, io, st, rh, g, p⟩ => ⟨B, F, io, st, rh, g, bl_then g p fun k st1 H1 F1 io1 g1 p1 => ⟨k, rfl, ?_⟩⟩
  cases k with
  | true => exact iteT ⟨B, F1, io1, st1, rh, g1, p1⟩
  | false => exact iteF ((Pst.out (t := .d (.bl false)) g1 p1).same g1.sub (.bl false))
theorem pe_den_or (ha : PE X a (den c W fa)) (hb : PE X (.BoolOp .Or (b :: rest) pos) (den c W fb)) : PE X (.BoolOp .Or (a :: b :: rest) pos) (den c W (eOr fa fb)) := by
  refine PE.weak (pe_or ha hb) fun σ H Q ⟨B, F, io, st, rh, g, p⟩ => ⟨B, F, io, st, rh, g, ?_⟩
  rw [or_flip] at p
  refine bl_then g p fun k st1 H1 F1 io1 g1 p1 => ⟨k, rfl, ?_⟩
  cases k with
  | false => exact iteF ⟨B, F1, io1, st1, rh, g1, p1⟩
  | true => exact iteT ((Pst.out (t := .d (.bl true)) g1 p1).same g1.sub (.bl true))
theorem PW.weak {t t' : TT} (h : PW X e t) (hw : ∀ σ H Q, t' σ H Q → t σ H Q) : PW X e t' := ⟨fun wh pins s σ H Q I q => h.run wh pins s σ H Q I (hw σ H Q q)⟩
theorem pw_den_and (ha : PT X a (denT c W fa)) (hb : PW X (.BoolOp .And (b :: rest) pos) (denT c W fb)) : PW X (.BoolOp .And (a :: b :: rest) pos) (denT c W (eAnd fa fb)) := by
  refine PW.weak (pw_and ha hb) fun σ H Q ⟨B, F, io, st, rh, g, p⟩ => ⟨B, F, io, st, rh, g, bl_then g p fun k st1 H1 F1 io1 g1 p1 => ⟨k, rfl, ?_⟩⟩
  cases k with
  | true => exact iteT ⟨B, F1, io1, st1, rh, g1, p1⟩
  | false =>
    obtain ⟨b, e, q⟩ := (Pst.out (t := .d (.bl false)) g1 p1).same g1.sub (.bl false)
    cases e
    exact iteF q
theorem pw_den_or (ha : PT X a (denT c W fa)) (hb : PW X (.BoolOp .Or (b :: rest) pos) (denT c W fb)) : PW X (.BoolOp .Or (a :: b :: rest) pos) (denT c W (eOr fa fb)) := by
  refine PW.weak (pw_or ha hb) fun σ H Q ⟨B, F, io, st, rh, g, p⟩ => ⟨B, F, io, st, rh, g, ?_⟩
  rw [or_flip] at p
  refine bl_then g p fun k st1 H1 F1 io1 g1 p1 => ⟨k, rfl, ?_⟩
  cases k with
  | false => exact iteF ⟨B, F1, io1, st1, rh, g1, p1⟩
  | true =>
    obtain ⟨b, e, q⟩ := (Pst.out (t := .d (.bl true)) g1 p1).same g1.sub (.bl true)
    cases e
    exact iteT q
theorem pe_den_if {t : Expr} (hc : PT X t (denT c W fc)) (ha : PE X a (den c W fa)) (hb : PE X b (den c W fb)) : PE X (.IfExp t a b pos) (den c W (eIf fc fa fb)) := by
  refine PE.weak (pe_ifExp hc ha hb) fun σ H Q ⟨B, F, io, st, rh, g, p⟩ => ⟨B, F, io, st, rh, g, bl_then g p fun k st1 H1 F1 io1 g1 p1 => ⟨k, rfl, ?_⟩⟩
  cases k with
  | true => exact iteT ⟨B, F1, io1, st1, rh, g1, p1⟩
  | false => exact iteF ⟨B, F1, io1, st1, rh, g1, p1⟩
end

/-! ### items, slices, minus -/
def dV (o : Option D) : Option TV := o.map .d
def idxD (st : Sto) : D → D → Option D
  | .tup ds, .int i => atI ds i
  | .lst ds, .int i => atI ds i
  | .scr ns, .int i => (atI ns i).map .int
  | .str z, .int i => if z.length ≤ sizeLine then (atI z.cps.toList i).map fun k => .str ⟨#[k]⟩ else none
  | .loc n, k => (dget st n k).bind id
  | _, _ => none
def eIdx : Sm → Sm → Sm := eOp2 fun st d e => dV (idxD st d e)
def cutD (xs : List D) (lo hi : Option Int) : List D := (xs.drop (HT.sIx xs.length 0 lo)).take (HT.sIx xs.length xs.length hi - HT.sIx xs.length 0 lo)
def slcD (lo hi : Option Int) : D → Option TV
  | .tup ds => some (.d (.tup (cutD ds lo hi)))
  | .lst ds => some (.fr (cutD ds lo hi))
  | .str z => if z.length ≤ sizeLine then some (.d (.str (cutS z lo hi))) else none
  | _ => none
/-- a part of a slice: left out, or an int -/
def ePart (o : Option Sm) (rh : Rho) (st : Sto) : R (Option Int) := match o with
  | none => .ok none st
  | some f => (f rh st).bind fun t st1 => match t with
    | .d (.int i) => .ok (some i) st1
    | _ => .no
def eSlc (fa : Sm) (lo hi : Option Sm) : Sm := fun rh st => (fa rh st).bind fun t st1 => (ePart lo rh st1).bind fun l st2 => (ePart hi rh st2).bind fun u st3 =>
  match view rh st3 t with
  | some d => (match slcD l u d with
    | some t => .ok t st3
    | none => .no)
  | none => .no
def negD : D → Option D
  | .int i => some (.int (-i))
  | _ => none
def eNeg : Sm → Sm := eOp1 fun _ d => dV (negD d)
section
variable {X : Cx} {c : Ct} {W : WX} {a b e : Expr} {rest : List Expr} {fa fb fc : Sm} {pos : Pos} {B : Bs} {F F1 H H1 : Hp} {io io1 : List Addr} {st st1 : Sto} {rh : Rho} {σ : St} {Q : VK}
theorem RvAll.atI {c : Ct} {F : Hp} {io : List Addr} {vs : List V} {ds : List D} {i : Int} {d : D} (r : RvAll c F io vs ds) (h : L2.atI ds i = some d) : ∃ v, L2.atI vs i = some v ∧ Rv c F io v d := by
  unfold L2.atI at h ⊢
  rw [Option.bind_eq_some_iff] at h
  obtain ⟨j, e1, e2⟩ := h
  obtain ⟨v, e3, q⟩ := r.get e2
  exact ⟨v, by rw [r.length, e1]; exact e3, q⟩
theorem atI_ints {ns : List Int} {i k : Int} (h : L2.atI ns i = some k) : L2.atI (ns.map V.int) i = some (.int k) := by
  unfold L2.atI at h ⊢
  rw [Option.bind_eq_some_iff] at h
  obtain ⟨j, e1, e2⟩ := h
  rw [List.length_map, e1]
  show (ns.map V.int)[j]? = _
  rw [List.getElem?_map, e2]
  rfl
def rDGet (K : PySem.W.Frag) : R2 := fun x y H Q => ∃ a v, x = .ref a ∧ DG K H a y (some v) ∧ Q v H
theorem ix_dict (hu : X.A.units + 1 < cLine) : IxR X (rDGet X.K) := by
  intro value slice pins s σ H x y o i Q I rx ry h hs
  obtain ⟨a, v, rfl, g, q⟩ := h
  obtain rfl : o = Value.ref a := rx
  have hT : s.TypeIs (.ref a) "dict" := by
    rcases g with ⟨kvs, k, e, _, _⟩ | ⟨kvs, k, b, e, _, _, _⟩
    · obtain ⟨_, _, vs, _, dd⟩ := dk_rd I.hok e
      exact dd.typeIs
    · obtain ⟨_, _, xs, _, dd⟩ := dt_rd I.hok e
      exact dd.typeIs
  have h₂ : wpAny (model X.prog X.w) X.A (getItem (.ref a) i) (EP X pins σ Q) X.xe s := by
    rcases g with ⟨kvs, k, e, ey, l⟩ | ⟨kvs, k, b, e, ey, eb, l⟩
    · exact d_getItem hu I (.inl ⟨kvs, k, e, ey, l⟩) ry fun w' s' I' rw' => ⟨v, H, I', rw', q⟩
    · subst ey
      cases (show i = Value.ref b from ry)
      obtain ⟨z, hd, xs, rel, dd⟩ := dt_rd I.hok e
      obtain ⟨w', hw, rw'⟩ := RelO.some_of (v := v) (o := (atKey xs k).map (·.2)) (by rw [l]; exact rel.val k)
      obtain ⟨p, hp, hp2⟩ := Option.map_eq_some_iff.mp hw
      refine wpAny_getItem_heap (tupleKind_room_in1 hu) (key_sq I eb) dd hp ?_
      rw [hp2]
      exact ⟨v, H, I.tok _, rw', q⟩
  unfold PyProof.Rows.subscriptTail
  refine wpAny_bind ?_
  rw [getitemInPython_of_ne hT.not_modules]
  refine wpAny_bind (wpAny_specialOf hT PySem.F.slot_dict_getitem.lookup ?_)
  have fin : wpAny (model X.prog X.w) X.A (subscripted slice false (.ref a) i) (fun r s₃ => wpAny (model X.prog X.w) X.A (letTemporaryGo value (.ref a) r >>= fun _ => pure r) (EP X pins σ Q) X.xe s₃) X.xe s := by
    rw [hs]
    exact wpAny_operating (wpAny_mono h₂ (fun r s₃ h₃ => wpAny_bind (wpAny_letTemporaryGo (wpAny_pure h₃))) fun _ _ x => x)
  first
    | exact wpAny_pure (wpAny_bind fin)
    | exact wpAny_bind (wpAny_pure (wpAny_bind fin))
    | exact wpAny_bind fin
theorem idx_ok (hK : X.K = c.K) : OpOk c (fun x y H Q => rIx X.K x y H Q ∨ rDGet X.K x y H Q) (fun st d e => dV (idxD st d e)) := by
  intro B F H io st rh σ x y d e t Q g hx hy hf ho
  unfold dV at hf
  rw [Option.map_eq_some_iff] at hf
  obtain ⟨r, hr, rfl⟩ := hf
  cases d with
  | tup ds =>
    cases e <;> simp only [idxD] at hr <;> try (cases hr; done)
    cases hy
    have hx' : Rv c F io x (.tup ds) := hx
    obtain ⟨a, vs, rfl, q1, r1⟩ := Rv.sqT (a := 0) g.sub hx'
    obtain ⟨v, e1, rv⟩ := r1.atI hr
    exact .inl (.inr (.inl ⟨a, vs, _, v, rfl, rfl, by rw [hK]; exact q1, e1, ho.same g.sub rv⟩))
  | lst ds =>
    cases e <;> simp only [idxD] at hr <;> try (cases hr; done)
    cases hy
    obtain ⟨a, vs, rfl, q1, r1⟩ := hx
    obtain ⟨v, e1, rv⟩ := r1.atI hr
    exact .inl (.inl ⟨a, vs, _, v, rfl, rfl, .inl (.inl q1), e1, ho.same g.sub rv⟩)
  | scr ns =>
    cases e <;> simp only [idxD] at hr <;> try (cases hr; done)
    rw [Option.map_eq_some_iff] at hr
    obtain ⟨k, hk, rfl⟩ := hr
    cases hy
    cases hx with
    | scr h =>
      refine .inl (.inl ⟨_, ns.map V.int, _, .int k, rfl, rfl, ?_, atI_ints hk, ho.same g.sub (.int k)⟩)
      rcases h with ⟨h, _⟩ | h
      · rcases h with h | ⟨o, h⟩
        · exact .inl (.inl (g.sub _ _ h))
        · exact .inl (.inr ⟨o, g.sub _ _ h⟩)
      · rw [hK]; exact .inr h
  | str z =>
    cases e <;> simp only [idxD] at hr <;> try (cases hr; done)
    cases hy; cases hx
    split at hr
    · rename_i hl
      rw [Option.map_eq_some_iff] at hr
      obtain ⟨k, hk, rfl⟩ := hr
      exact .inl (.inr (.inr ⟨z, _, k, rfl, rfl, hl, hk, ho.same g.sub (.str _)⟩))
    · cases hr
  | loc n =>
    have hr : (dget st n e).bind id = some r := by cases e <;> exact hr
    rw [Option.bind_eq_some_iff] at hr
    obtain ⟨o, h1, h2⟩ := hr
    have h2 : o = some r := h2
    subst h2
    obtain ⟨a, p, e1, e2, e3⟩ := dget_ok hK g hx hy h1
    cases p with
    | none => exact e3.elim
    | some v => exact .inr ⟨a, v, e1, e2, ho.same g.sub e3⟩
  | _ => cases e <;> simp [idxD] at hr
def plainIx : Expr → Bool
  | .Slice _ _ _ _ => false
  | _ => true
theorem plainIx_ok {b : Expr} (h : plainIx b = true) : PlainIx b := fun o i => by
  cases b <;> first | rfl | cases h
theorem pe_den_idx (C : Cok X c W) (ha : PE X a (den c W fa)) (hb : PE X b (den c W fb)) (hp : plainIx b = true) : PE X (.Subscript a b pos) (den c W (eIdx fa fb)) :=
  PE.weak (pe_ix (ix_seq.or (ix_dict (Nat.lt_of_le_of_lt (Nat.add_le_add_left (by decide) _) C.hu))) ha hb (plainIx_ok hp)) fun σ H Q h => op2_of (idx_ok C.hK) h
def PstO (c : Ct) (W : WX) (F : Hp) (io : List Addr) (σ : St) (H : Hp) (Q : Option Int → Hp → Prop) : R (Option Int) → Prop
  | .ok o st' => ∀ H' F' io', Stp c F io H F' io' H' → Sim c F' io' st' → Q o H'
  | .ex e st' => ∀ H' F' io', Stp c F io H F' io' H' → Sim c F' io' st' → W (c.xc e) none σ H'
  | .no => False
def denO (c : Ct) (W : WX) (o : Option Sm) : TO := fun σ H Q => ∃ B F io st rh, Good c B F io st rh σ H ∧ PstO c W F io σ H Q (ePart o rh st)
theorem po_den_none : PO X none (denO c W none) := ⟨fun pins s σ H Q I ⟨B, F, io, st, rh, g, p⟩ => po_none.run pins s σ H Q I (p H F io (Stp.refl g.sub) g.sim)⟩
theorem po_den_some (h : PE X e (den c W fa)) : PO X (some e) (denO c W (some fa)) := by
  refine ⟨fun pins s σ H Q I ⟨B, F, io, st, rh, g, p⟩ => (po_some h).run pins s σ H Q I ⟨B, F, io, st, rh, g, ?_⟩⟩
  unfold ePart at p
  simp only at p
  cases hr : fa rh st with
  | no => rw [hr] at p; exact p.elim
  | ex x s => rw [hr] at p; exact p
  | ok t s =>
    rw [hr] at p
    intro v H' F' io' S s' T
    cases t with
    | d d =>
      cases d with
      | int i => cases T; exact ⟨i, rfl, p H' F' io' S s'⟩
      | _ => exact p.elim
    | _ => exact p.elim
theorem PstO.bind {r : R (Option Int)} {k : Option Int → Sto → R TV} {Q1 : Option Int → Hp → Prop} (g : Good c B F io st rh σ H) (h : Pst c W F io rh σ H Q (r.bind k))
    (hk : ∀ (o : Option Int) (st1 : Sto) (H1 F1 : Hp) (io1 : List Addr), r = .ok o st1 → Stp c F io H F1 io1 H1 → Good c B F1 io1 st1 rh σ H1 → Pst c W F1 io1 rh σ H1 Q (k o st1) → Q1 o H1) : PstO c W F io σ H Q1 r := by
  cases r with
  | ok o st' => exact fun H' F' io' S s' => hk o st' H' F' io' rfl S (g.step S s') (Pst.step (r := k o st') g S h)
  | ex e st' => exact h
  | no => exact h
theorem RvAll.cut {c : Ct} {F : Hp} {io : List Addr} {vs : List V} {ds : List D} (r : RvAll c F io vs ds) (lo hi : Option Int) : RvAll c F io (cutV vs lo hi) (cutD ds lo hi) := by
  unfold cutV cutD
  rw [r.length]
  exact (r.drop _).take _
theorem slc_ok (hK : X.K = c.K) {lo hi : Option Int} : Op1Ok c (fun x H Q => (rSlF X.K x lo hi H Q ∨ rSlL X.K x lo hi H Q) ∨ rSlS x lo hi H Q) (fun _ => slcD lo hi) := by
  intro B F H io st rh σ x d t Q g hx hf ho
  cases d with
  | tup ds =>
    simp only [slcD, Option.some.injEq] at hf
    subst hf
    have hx' : Rv c F io x (.tup ds) := hx
    obtain ⟨a, vs, rfl, q1, r1⟩ := Rv.sqT (a := 0) g.sub hx'
    refine .inl (.inl ⟨a, vs, rfl, by rw [hK]; exact q1, fun z => ?_, fun _ => ho.tup g (r1.cut lo hi)⟩)
    rw [r1.length] at z
    have e : cutD ds lo hi = ds := by
      unfold cutD
      rw [z.1, z.2]
      simp
    rw [e] at ho
    exact ho.same g.sub hx'
  | lst ds =>
    simp only [slcD, Option.some.injEq] at hf
    subst hf
    obtain ⟨a, vs, rfl, q1, r1⟩ := hx
    exact .inl (.inr ⟨a, vs, rfl, .inl (.inl q1), fun p hp => ho.lst g (r1.cut lo hi) p hp⟩)
  | str z =>
    simp only [slcD] at hf
    split at hf
    · rename_i hl
      cases hf
      cases hx
      exact .inr ⟨z, rfl, hl, ho.same g.sub (.str _)⟩
    · cases hf
  | _ => simp [slcD] at hf
theorem pe_den_slc (C : Cok X c W) {lo hi : Option Expr} {fl fh : Option Sm} {p2 : Pos} (ha : PE X a (den c W fa)) (hl : PO X lo (denO c W fl)) (hh : PO X hi (denO c W fh)) : PE X (.Subscript a (.Slice lo hi none p2) pos) (den c W (eSlc fa fl fh)) := by
  refine PE.weak (pe_slice ((sl_tupF.or sl_list).or sl_str) ha hl hh) fun σ H Q ⟨B, F, io, st, rh, g, p⟩ => ?_
  refine ⟨B, F, io, st, rh, g, Pst.bind g p fun t st1 x H1 F1 io1 e1 S1 g1 T1 p1 => ⟨B, F1, io1, st1, rh, g1, PstO.bind g1 p1 fun l st2 H2 F2 io2 e2 S2 g2 p2 => ⟨B, F2, io2, st2, rh, g2, PstO.bind g2 p2 fun u st3 H3 F3 io3 e3 S3 g3 p3 => ?_⟩⟩⟩
  cases h1 : view rh st3 t with
  | none => rw [h1] at p3; exact p3.elim
  | some d =>
    rw [h1] at p3
    have p3 : Pst c W F3 io3 rh σ H3 Q (match slcD l u d with
      | some t => .ok t st3
      | none => .no) := p3
    cases h3 : slcD l u d with
    | none => rw [h3] at p3; exact p3.elim
    | some t' =>
      rw [h3] at p3
      exact slc_ok C.hK g3 (view_ok g3 (((T1.r g1.sim).step S2 g1.sub).step S3 g2.sub) h1) h3 (p3.out g3)
theorem pe_den_neg (ha : PE X a (den c W fa)) : PE X (.UnaryOp .USub a pos) (den c W (eNeg fa)) := by
  refine PE.weak (pe_un un_neg ha) fun σ H Q h => op1_of (r := rU fun i => .int (-i)) ?_ h
  intro B F H io st rh σ x d t Q g hx hf ho
  unfold dV at hf
  rw [Option.map_eq_some_iff] at hf
  obtain ⟨r, hr, rfl⟩ := hf
  cases d <;> simp only [negD] at hr <;> try (cases hr; done)
  cases hr
  cases hx
  exact ⟨_, rfl, ho.same g.sub (.int _)⟩
end
end KL

namespace KL
open PySem L2

/-! ### calls of the program's own defs -/
abbrev Tbl := Str → List D → Sto → R D
/-- an argument: an expression, or a name that holds a closure -/
inductive Ag where
  | e (f : Sm) | k (i : Nat)
def cloAt (rh : Rho) (i : Nat) : Option D := match rh[i]? with
  | some (some (.clo t cs)) => some (.clo t cs)
  | _ => none
def eArgsC : List Ag → Rho → Sto → R (List D)
  | [], _, st => .ok [] st
  | .e f :: fs, rh, st => (f rh st).bind fun t st1 => match toDv t with
    | none => .no
    | some d => (eArgsC fs rh st1).bind fun ds st2 => .ok (d :: ds) st2
  | .k i :: fs, rh, st => match cloAt rh i with
    | none => .no
    | some d => (eArgsC fs rh st).bind fun ds st2 => .ok (d :: ds) st2
def PstAC (c : Ct) (W : WX) (F : Hp) (io : List Addr) (σ : St) (H : Hp) (Q : List V → Hp → Prop) : R (List D) → Prop
  | .ok ds st' => ∀ vs H' F' io', Stp c F io H F' io' H' → Sim c F' io' st' → RvAs c F' io' vs ds → Q vs H'
  | .ex e st' => ∀ H' F' io', Stp c F io H F' io' H' → Sim c F' io' st' → W (c.xc e) none σ H'
  | .no => False
def denAC (c : Ct) (W : WX) (fs : List Ag) : TA := fun σ H Q => ∃ B F io st rh, Good c B F io st rh σ H ∧ PstAC c W F io σ H Q (eArgsC fs rh st)
section
variable {X : Cx} {c : Ct} {W : WX} {B : Bs} {F F1 H H1 : Hp} {io io1 : List Addr} {st st1 : Sto} {rh : Rho} {σ : St} {Q : VK} {v : V} {t : TV} {d : D}
theorem PstAC.step {r : R (List D)} {Q : List V → Hp → Prop} (g : Good c B F io st rh σ H) (S : Stp c F io H F1 io1 H1) (h : PstAC c W F io σ H Q r) : PstAC c W F1 io1 σ H1 Q r := by
  cases r with
  | ok t st' => exact fun v H' F' io' S' s' T' => h v H' F' io' (S.trans g.sub S') s' T'
  | ex e st' => exact fun H' F' io' S' s' => h H' F' io' (S.trans g.sub S') s'
  | no => exact h
theorem PstAC.bind {r : R (List D)} {k : List D → Sto → R TV} {Q1 : List V → Hp → Prop} (g : Good c B F io st rh σ H) (h : Pst c W F io rh σ H Q (r.bind k))
    (hk : ∀ (ds : List D) (st1 : Sto) (vs : List V) (H1 F1 : Hp) (io1 : List Addr), r = .ok ds st1 → Stp c F io H F1 io1 H1 → Good c B F1 io1 st1 rh σ H1 → RvAs c F1 io1 vs ds → Pst c W F1 io1 rh σ H1 Q (k ds st1) → Q1 vs H1) : PstAC c W F io σ H Q1 r := by
  cases r with
  | ok ds st' => exact fun vs H' F' io' S s' T => hk ds st' vs H' F' io' rfl S (g.step S s') T (Pst.step (r := k ds st') g S h)
  | ex e st' => exact h
  | no => exact h
theorem pa_c_nil : PA X [] (denAC c W []) := ⟨fun pos pins s σ H Q I ⟨B, F, io, st, rh, g, p⟩ => pa_nil.run pos pins s σ H Q I (p [] H F io (Stp.refl g.sub) g.sim .nil)⟩
theorem pa_c_e {e : Expr} {es : List Expr} {f : Sm} {fs : List Ag} (he : PE X e (den c W f)) (hs : PA X es (denAC c W fs)) (hn : notStar e = true) : PA X (e :: es) (denAC c W (.e f :: fs)) := by
  refine ⟨fun pos pins s σ H Q I ⟨B, F, io, st, rh, g, p⟩ => (pa_cons he hs (star_cons hn)).run pos pins s σ H Q I ?_⟩
  refine ⟨B, F, io, st, rh, g, ?_⟩
  unfold eArgsC at p
  cases hr : f rh st with
  | no => rw [hr] at p; exact p.elim
  | ex x st' => rw [hr] at p; exact p
  | ok t st1 =>
    rw [hr] at p
    intro v H1 F1 io1 S s1 T
    have p : PstAC c W F io σ H Q (match toDv t with
      | none => .no
      | some d => (eArgsC fs rh st1).bind fun ds st2 => .ok (d :: ds) st2) := p
    cases ht : toDv t with
    | none => rw [ht] at p; exact p.elim
    | some d =>
      rw [ht] at p
      obtain ⟨F2, S2, s2, r2⟩ := Tvs.give S s1 T ht
      have g2 := g.step S2 s2
      refine ⟨B, F2, io1, st1, rh, g2, ?_⟩
      have p : PstAC c W F io σ H Q ((eArgsC fs rh st1).bind fun ds st2 => .ok (d :: ds) st2) := p
      have p := PstAC.step g S2 p
      cases hq : eArgsC fs rh st1 with
      | no => rw [hq] at p; exact p.elim
      | ex x st' => rw [hq] at p; exact p
      | ok ds st2 =>
        rw [hq] at p
        intro vs H3 F3 io3 S3 s3 T3
        exact p (v :: vs) H3 F3 io3 S3 s3 (.cons (RvA.of (r2.step S3 g2.sub)) T3)
theorem pa_c_k {x : Str} {p : Pos} {i : Nat} {es : List Expr} {fs : List Ag} (hN : X.N[i]? = some x) (hv : Vis X.env.scope x) (hd : (x == ("__debug__" : Str)) = false) (hcd : (x == ("__classdict__" : Str)) = false) (hs : PA X es (denAC c W fs)) : PA X (.Name x p :: es) (denAC c W (.k i :: fs)) := by
  refine ⟨fun pos pins s σ H Q I ⟨B, F, io, st, rh, g, q⟩ => (pa_cons (pe_var (i := i) (pos := p) hN hv hd hcd) hs (star_cons rfl)).run pos pins s σ H Q I ?_⟩
  unfold eArgsC at q
  cases hc : cloAt rh i with
  | none => rw [hc] at q; exact q.elim
  | some d =>
    rw [hc] at q
    unfold cloAt at hc
    split at hc
    · rename_i t cs hr
      cases hc
      obtain ⟨v, e1, r⟩ := g.clo i t cs hr
      refine ⟨v, e1, B, F, io, st, rh, g, ?_⟩
      have q : PstAC c W F io σ H Q ((eArgsC fs rh st).bind fun ds st2 => .ok (.clo t cs :: ds) st2) := q
      cases hq : eArgsC fs rh st with
      | no => rw [hq] at q; exact q.elim
      | ex x st' => rw [hq] at q; exact q
      | ok ds st2 =>
        rw [hq] at q
        intro vs H3 F3 io3 S3 s3 T3
        exact q (v :: vs) H3 F3 io3 S3 s3 (.cons (show RvA c F3 io3 v (.clo t cs) from r.step S3 g.sub) T3)
    · cases hc
theorem eArgsC_length : ∀ {fs : List Ag} {rh : Rho} {st st1 : Sto} {ds : List D}, eArgsC fs rh st = .ok ds st1 → ds.length = fs.length
  | [], _, _, _, _, h => by cases h; rfl
  | .e f :: fs, rh, st, st1, ds, h => by
    unfold eArgsC at h
    cases hr : f rh st with
    | no => rw [hr] at h; cases h
    | ex x st' => rw [hr] at h; cases h
    | ok t st2 =>
      rw [hr] at h
      simp only [R.bind] at h
      cases ht : toDv t with
      | none => rw [ht] at h; cases h
      | some d =>
        rw [ht] at h
        simp only at h
        cases hq : eArgsC fs rh st2 with
        | no => rw [hq] at h; cases h
        | ex x st' => rw [hq] at h; cases h
        | ok ds' st3 =>
          rw [hq] at h
          simp only [R.ok.injEq] at h
          obtain ⟨rfl, rfl⟩ := h
          rw [List.length_cons, List.length_cons, eArgsC_length hq]
  | .k i :: fs, rh, st, st1, ds, h => by
    unfold eArgsC at h
    cases hc : cloAt rh i with
    | none => rw [hc] at h; cases h
    | some d =>
      rw [hc] at h
      simp only at h
      cases hq : eArgsC fs rh st with
      | no => rw [hq] at h; cases h
      | ex x st' => rw [hq] at h; cases h
      | ok ds' st3 =>
        rw [hq] at h
        simp only [R.bind, R.ok.injEq] at h
        obtain ⟨rfl, rfl⟩ := h
        rw [List.length_cons, List.length_cons, eArgsC_length hq]
end
def eCall (G : Tbl) (g : Str) (fs : List Ag) : Sm := fun rh st => (eArgsC fs rh st).bind fun ds st1 => (G g ds st1).bind fun d st2 => .ok (.d d) st2
def PstC (c : Ct) (F : Hp) (io : List Addr) (H : Hp) (Q : VK) (E : XK) : R D → Prop
  | .ok d st' => ∀ v H' F' io', Stp c F io H F' io' H' → Sim c F' io' st' → Rv c F' io' v d → Q v H'
  | .ex e st' => ∀ H' F' io', Stp c F io H F' io' H' → Sim c F' io' st' → E (c.xc e) none H'
  | .no => False
/-- a def's promise, by its function on data -/
def spM (c : Ct) (n : Nat) (G : List D → Sto → R D) : Sp := fun vs H Q E => vs.length = n ∧ ∃ F io st ds, (∀ a o, F a = some o → H a = some o) ∧ LamX.Tabs c.T H ∧ NT F ∧ Sim c F io st ∧ RvAs c F io vs ds ∧ PstC c F io H Q E (G ds st)
structure FnAt (X : Cx) (c : Ct) (G : Tbl) (g : Str) (n : Nat) (k : Nat) (f : Addr) (fd : FuncData) (ps : List Str) : Prop where
  ok : FnOk X.prog X.w X.K X.mg X.base (L2N.CX X.prog X.w) k f fd ps (spM c n (G g))
  room : Room k X.A
  glo : X.mg g = some (.ref f)
  keep : PySem.W.keepIn X.K (.ref f) = true
  bnd : Binds X.K fd ps []
section
variable {X : Cx} {c : Ct} {W : WX} {a b e : Expr} {es : List Expr} {fa fb fc : Sm} {fs : List Ag} {pos p : Pos} {G : Tbl} {g : Str} {n k : Nat} {f : Addr} {fd : FuncData} {ps : List Str}
theorem call_den {σ : St} {H : Hp} {Q : VK} (hl : fs.length = n) (h : den c W (eCall G g fs) σ H Q) : tCallS (spM c n (G g)) (WE W) (denAC c W fs) σ H Q := by
  obtain ⟨B, F, io, st, rh, g0, p0⟩ := h
  refine ⟨B, F, io, st, rh, g0, PstAC.bind g0 p0 fun ds st1 vs H1 F1 io1 e1 S1 g1 r1 p1 => ?_⟩
  refine ⟨by rw [r1.length, eArgsC_length e1, hl], F1, io1, st1, ds, g1.sub, g1.stp.tab g1.btab, g1.stp.ntb g1.bnt, g1.sim, r1, ?_⟩
  cases hr : G g ds st1 with
  | no => rw [hr] at p1; exact p1.elim
  | ex x s => rw [hr] at p1; exact p1
  | ok d s => rw [hr] at p1; exact fun v H' F' io' S s' T => p1 v H' F' io' S s' T
theorem pe_den_call (C : Cok X c W) (A : FnAt X c G g n k f fd ps) (hg : Gl X g) (ha : PA X (e :: es) (denAC c W fs)) (hl : fs.length = n) (hdb : (g == ("__debug__" : Str)) = false) (hs : (e :: es).all notStar = true) :
    PE X (.Call (.Name g p) (e :: es) [] pos) (den c W (eCall G g fs)) := by
  rw [List.all_cons, Bool.and_eq_true] at hs
  exact PE.weak (pe_callS A.ok A.room hg A.glo A.keep A.bnd (L2N.passAt C.tk) ha hdb (star_cons hs.1) (star_any hs.2)) fun σ H Q h => call_den hl h
theorem pe_den_call0 (C : Cok X c W) (A : FnAt X c G g 0 k f fd ps) (hg : Gl X g) (hdb : (g == ("__debug__" : Str)) = false) :
    PE X (.Call (.Name g p) [] [] pos) (den c W (eCall G g [])) := by
  refine ⟨fun pins s σ H Q I h => ?_⟩
  have h2 : tCallS (spM c 0 (G g)) (WE W) (denAC c W []) σ H Q := call_den rfl h
  obtain ⟨B, F, io, st, rh, g0, p0⟩ := h2
  refine wpAny_Call_Name_kw (ld_glob I hg A.glo ?_ hdb)
  exact PySem.W.callWith_K0 I.kIn A.keep (run_fnS (us := []) A.ok A.room A.bnd (L2N.passAt C.tk σ) I .nil (p0 [] H F io (Stp.refl g0.sub) g0.sim .nil))
end

/-! ### built-in functions of one value -/
structure Glo (X : Cx) (bn : List Str) : Prop where
  free : ∀ x ∈ bn, X.mg x = none
def lenD (st : Sto) : D → Option D
  | .loc n => (match st[n]? with
    | some (.dct _ kvs) => some (.int kvs.length)
    | _ => none)
  | .tup ds => some (.int ds.length)
  | .lst ds => some (.int ds.length)
  | .scr ns => some (.int ns.length)
  | .str z => if z.length ≤ sizeLine then some (.int z.length) else none
  | _ => none
def blOf : D → Option Bool
  | .bl b => some b
  | _ => none
def blsOf : List D → Option (List Bool)
  | [] => some []
  | d :: ds => (blOf d).bind fun b => (blsOf ds).map (b :: ·)
def allD : D → Option D
  | .lst ds => (blsOf ds).map fun bs => .bl (bs.all id)
  | _ => none
def anyD : D → Option D
  | .lst ds => (blsOf ds).map fun bs => .bl (bs.any id)
  | _ => none
def tupD : D → Option D
  | .tup ds => some (.tup ds)
  | .lst ds => some (.tup ds)
  | _ => none
def lisD : D → Option TV
  | .tup ds => some (.fr ds)
  | .lst ds => some (.fr ds)
  | .str z => if z.length ≤ sizeLine then some (.fr (z.cps.toList.map fun k => .str ⟨#[k]⟩)) else none
  | _ => none
def intD : D → Option D
  | .int i => some (.int i)
  | .bl b => some (.int (if b then 1 else 0))
  | .str a => if a.length ≤ 640 then (PySem.intText? a).map .int else none
  | _ => none
def strD : D → Option D
  | .int i => if i.natAbs.log2 < 1920 then some (.str (toString i)) else none
  | .str a => some (.str a)
  | _ => none
inductive Bi where
  | len | all | any | tuple | list | int | str
def Bi.f : Bi → Sto → D → Option TV
  | .len, st, d => dV (lenD st d)
  | .all, _, d => dV (allD d)
  | .any, _, d => dV (anyD d)
  | .tuple, _, d => dV (tupD d)
  | .list, _, d => lisD d
  | .int, _, d => dV (intD d)
  | .str, _, d => dV (strD d)
def Bi.name : Bi → Str
  | .len => "len"
  | .all => "all"
  | .any => "any"
  | .tuple => "tuple"
  | .list => "list"
  | .int => "int"
  | .str => "str"
def eB1 (b : Bi) : Sm → Sm := eOp1 b.f
section
variable {X : Cx} {c : Ct} {W : WX} {a b e : Expr} {es : List Expr} {fa fb fc : Sm} {pos p : Pos} {B : Bs} {F H : Hp} {io : List Addr} {st : Sto} {rh : Rho} {σ : St}
theorem RvAll.bls {c : Ct} {F : Hp} {io : List Addr} : ∀ {vs : List V} {ds : List D} {bs : List Bool}, RvAll c F io vs ds → blsOf ds = some bs → vs = bs.map V.bl
  | _, _, _, .nil, e => by cases e; rfl
  | _, _, _, .cons h r, e => by
    simp only [blsOf, Option.bind_eq_some_iff, Option.map_eq_some_iff] at e
    obtain ⟨b, e1, bs, e2, rfl⟩ := e
    rename_i d _
    cases d <;> simp only [blOf] at e1 <;> try (cases e1; done)
    cases e1
    cases h
    rw [List.map_cons, RvAll.bls r e2]
theorem scr_sq {x : V} {ns : List Int} (hK : X.K = c.K) (g : Good c B F io st rh σ H) (h : Rv c F io x (.scr ns)) : ∃ a, x = .ref a ∧ SqL X.K H a (ns.map V.int) := by
  cases h with
  | scr h =>
    refine ⟨_, rfl, ?_⟩
    rcases h with ⟨h, _⟩ | h
    · rcases h with h | ⟨o, h⟩
      · exact .inl (.inl (g.sub _ _ h))
      · exact .inl (.inr ⟨o, g.sub _ _ h⟩)
    · rw [hK]; exact .inr h
theorem signs_vals {x : Str} {acc : Array Value} (h : ItemsOf (SignAt x) acc x.cps.size) : Vals (x.cps.toList.map fun k => V.str ⟨#[k]⟩) acc.toList := by
  have key : ∀ (l : List Nat) (us : List Value), us.length = l.length → (∀ (j : Nat) (v : Value), us[j]? = some v → ∃ k u, l[j]? = some k ∧ v = Value.str ⟨#[k]⟩ u) → Vals (l.map fun k => V.str ⟨#[k]⟩) us := by
    intro l
    induction l with
    | nil => intro us hl _; cases us with
      | nil => exact .nil
      | cons _ _ => simp at hl
    | cons k l ih =>
      intro us hl hj
      cases us with
      | nil => simp at hl
      | cons u us =>
        refine .cons ?_ (ih us (by simpa using hl) fun j v e => ?_)
        · obtain ⟨k', t, e1, e2⟩ := hj 0 u rfl
          simp at e1
          subst e1
          exact ⟨t, e2⟩
        · obtain ⟨k', t, e1, e2⟩ := hj (j + 1) v (by simpa using e)
          exact ⟨k', t, by simpa using e1, e2⟩
  refine key _ _ (by simp [h.1]) fun j v e => ?_
  obtain ⟨k, u, e1, e2⟩ := h.2 j v (by simpa using e)
  exact ⟨k, u, by simpa using e1, e2⟩
theorem call_list_text (hc : X.calm = true) : CallR X (.type "list") (fun xs H Q => ∃ z : Str, xs = [.str z] ∧ z.length ≤ sizeLine ∧ ∀ l, H l = none → Q (.ref l) (upd H l (.lst (z.cps.toList.map fun k => V.str ⟨#[k]⟩)))) := by
  intro pins s σ H xs us Q I r h
  obtain ⟨z, rfl, hl, q⟩ := h
  obtain ⟨u, rfl, rx⟩ := vals1 r
  obtain ⟨t, rfl⟩ := rx
  refine PySem.call_list_str (I.ok.hd hc) z t (fun h' tk acc' c' kp e it => ?_) hl
  have rv := signs_vals it
  refine ⟨.ref s.heap.objs.size, _, I.laid (t' := tk) kp (Nat.le_refl _) (show ObjOk X.prog X.w _ h' _ (.lst (z.cps.toList.map fun k => V.str ⟨#[k]⟩)) from ⟨by rw [List.length_map]; exact hl, acc'.toList, c', rv, by simpa using e⟩), rfl, q _ (I.hok.fresh (Nat.le_refl _))⟩
theorem dV_some {o : Option D} {t : TV} (h : dV o = some t) : ∃ d, o = some d ∧ t = .d d := by
  unfold dV at h
  rw [Option.map_eq_some_iff] at h
  obtain ⟨d, e1, e2⟩ := h
  exact ⟨d, e1, e2.symm⟩
theorem call_lenR : CallR X (.builtin "len") (fun xs H Q => ∃ a kvs, xs = [.ref a] ∧ Rd H a (.dK kvs) ∧ Q (.int kvs.length) H) := by
  intro pins s σ H xs us Q I r h
  obtain ⟨a, kvs, rfl, e, q⟩ := h
  obtain ⟨u, rfl, rx⟩ := vals1 r
  obtain rfl : u = Value.ref a := rx
  exact d_len I e fun t s' I' => ⟨.int kvs.length, H, I', ⟨t, rfl⟩, q⟩
/-- by the built-in's rule -/
theorem pe_b1 (b : Bi) (hK : X.K = c.K) (hc : X.calm = true) (hg : Gl X b.name) (hm : X.mg b.name = none) (ha : PE X a (den c W fa)) (hn : notStar a = true) : PE X (.Call (.Name b.name p) [a] [] pos) (den c W (eB1 b fa)) := by
  have A1 : PA X [a] (tCons (den c W fa) tNil) := pa_cons ha pa_nil (star_cons hn)
  have fin : ∀ {r : List V → Hp → VK → Prop}, PE X (.Call (.Name b.name p) [a] [] pos) (tCB r (tCons (den c W fa) tNil)) → Op1Ok c (fun x H Q => r [x] H Q) b.f → PE X (.Call (.Name b.name p) [a] [] pos) (den c W (eB1 b fa)) :=
    fun hp ok => PE.weak hp fun σ H Q h => op1_of ok h
  cases b with
  | len =>
    refine fin (pe_callB ((call_len_seq.or call_len_str).or call_lenR) hg hm PySem.boot_len A1 (he := star_cons hn)) ?_
    intro B F H io st rh σ x d t Q g hx hf ho
    obtain ⟨e, hf', rfl⟩ := dV_some hf
    cases d with
    | tup ds =>
      cases hf
      have hx' : Rv c F io x (.tup ds) := hx
      obtain ⟨a, vs, rfl, q1, r1⟩ := Rv.sqT (a := 0) g.sub hx'
      refine .inl (.inl ⟨a, vs, rfl, .inr (by rw [hK]; exact q1), ?_⟩)
      rw [r1.length]
      exact ho.same g.sub (.int _)
    | lst ds =>
      cases hf
      obtain ⟨a, vs, rfl, q1, r1⟩ := hx
      refine .inl (.inl ⟨a, vs, rfl, .inl (.inl (.inl q1)), ?_⟩)
      rw [r1.length]
      exact ho.same g.sub (.int _)
    | scr ns =>
      cases hf
      obtain ⟨a, rfl, q1⟩ := scr_sq hK g hx
      refine .inl (.inl ⟨a, _, rfl, .inl q1, ?_⟩)
      rw [List.length_map]
      exact ho.same g.sub (.int _)
    | str z =>
      have hf : (if z.length ≤ sizeLine then some (D.int z.length) else none) = some e := hf'
      split at hf
      · rename_i hl
        cases hf
        cases hx
        exact .inl (.inr ⟨z, rfl, hl, ho.same g.sub (.int _)⟩)
      · cases hf
    | loc n =>
      have hf : (match st[n]? with
        | some (.dct _ kvs) => some (D.int kvs.length)
        | _ => none) = some e := hf'
      split at hf
      · rename_i lk kvs hs
        cases hf
        cases hx with
        | loc hn =>
          rename_i a
          have q := g.sim.ob n a _ hn hs
          have hl : ∀ {κ : Type} {vs : List (κ × V)} {ds : List (κ × D)}, RvF c F io vs ds → vs.length = ds.length := by
            intro κ vs ds r
            induction r with
            | nil => rfl
            | cons _ _ ih => rw [List.length_cons, List.length_cons, ih]
          cases lk with
          | false => obtain ⟨vs, e, r⟩ := q; exact .inr ⟨a, _, rfl, .inl (g.sub _ _ e), by rw [List.length_map, hl r]; exact ho.same g.sub (.int _)⟩
          | true => obtain ⟨ob, vs, e, r⟩ := q; exact .inr ⟨a, _, rfl, .inr ⟨ob, g.sub _ _ e⟩, by rw [List.length_map, hl r]; exact ho.same g.sub (.int _)⟩
      · cases hf
    | _ => cases hf
  | all =>
    refine fin (pe_callB (cr_all hc) hg hm PyProof.Rows.boot_all A1 (he := star_cons hn)) ?_
    intro B F H io st rh σ x d t Q g hx hf ho
    obtain ⟨e, hf', rfl⟩ := dV_some hf
    cases d with
    | lst ds =>
      have hf : ((blsOf ds).map fun bs => D.bl (bs.all id)) = some e := hf'
      rw [Option.map_eq_some_iff] at hf
      obtain ⟨bs, e1, rfl⟩ := hf
      obtain ⟨a, vs, rfl, q1, r1⟩ := hx
      exact ⟨a, bs, rfl, by rw [← r1.bls e1]; exact .inl (.inl q1), ho.same g.sub (.bl _)⟩
    | _ => cases hf
  | any =>
    refine fin (pe_callB (cr_any hc) hg hm PyProof.Rows.boot_any A1 (he := star_cons hn)) ?_
    intro B F H io st rh σ x d t Q g hx hf ho
    obtain ⟨e, hf', rfl⟩ := dV_some hf
    cases d with
    | lst ds =>
      have hf : ((blsOf ds).map fun bs => D.bl (bs.any id)) = some e := hf'
      rw [Option.map_eq_some_iff] at hf
      obtain ⟨bs, e1, rfl⟩ := hf
      obtain ⟨a, vs, rfl, q1, r1⟩ := hx
      exact ⟨a, bs, rfl, by rw [← r1.bls e1]; exact .inl (.inl q1), ho.same g.sub (.bl _)⟩
    | _ => cases hf
  | tuple =>
    refine fin (pe_callTy call_tupleF hg hm PyProof.Rows.boot_tuple A1 (he := star_cons hn)) ?_
    intro B F H io st rh σ x d t Q g hx hf ho
    obtain ⟨e, hf', rfl⟩ := dV_some hf
    cases d with
    | tup ds =>
      cases hf
      have hx' : Rv c F io x (.tup ds) := hx
      obtain ⟨a, vs, rfl, q1, r1⟩ := Rv.sqT (a := 0) g.sub hx'
      exact ⟨a, vs, rfl, .inr ⟨by rw [hK]; exact q1, ho.same g.sub hx'⟩⟩
    | lst ds =>
      cases hf
      obtain ⟨a, vs, rfl, q1, r1⟩ := hx
      exact ⟨a, vs, rfl, .inl ⟨.inl (.inl q1), ho.tup g r1⟩⟩
    | _ => cases hf
  | list =>
    refine fin (pe_callTy (call_list_of.or (call_list_text hc)) hg hm PyProof.Rows.boot_list A1 (he := star_cons hn)) ?_
    intro B F H io st rh σ x d t Q g hx hf ho
    cases d with
    | tup ds =>
      cases hf
      have hx' : Rv c F io x (.tup ds) := hx
      obtain ⟨a, vs, rfl, q1, r1⟩ := Rv.sqT (a := 0) g.sub hx'
      exact .inl ⟨a, vs, rfl, .inr (by rw [hK]; exact q1), fun p hp => ho.lst g r1 p hp⟩
    | lst ds =>
      cases hf
      obtain ⟨a, vs, rfl, q1, r1⟩ := hx
      exact .inl ⟨a, vs, rfl, .inl (.inl (.inl q1)), fun p hp => ho.lst g r1 p hp⟩
    | str z =>
      simp only [Bi.f, lisD] at hf
      split at hf
      · rename_i hl
        cases hf
        cases hx
        refine .inr ⟨z, rfl, hl, fun p hp => ho.lst g ?_ p hp⟩
        have key : ∀ l : List Nat, RvAll c F io (l.map fun k => V.str ⟨#[k]⟩) (l.map fun k => D.str ⟨#[k]⟩) := by
          intro l
          induction l with
          | nil => exact .nil
          | cons k l ih => exact .cons (.str _) ih
        exact key _
      · cases hf
    | _ => cases hf
  | int =>
    refine fin (pe_callTy (call_int1.or call_int_str) hg hm PyProof.Rows.boot_int A1 (he := star_cons hn)) ?_
    intro B F H io st rh σ x d t Q g hx hf ho
    obtain ⟨e, hf', rfl⟩ := dV_some hf
    cases d with
    | int i => cases hf; cases hx; exact .inl (.inl ⟨i, rfl, ho.same g.sub (.int _)⟩)
    | bl b => cases hf; cases hx; exact .inl (.inr ⟨b, rfl, ho.same g.sub (.int _)⟩)
    | str z =>
      have hf : (if z.length ≤ 640 then (PySem.intText? z).map D.int else none) = some e := hf'
      split at hf
      · rename_i hl
        rw [Option.map_eq_some_iff] at hf
        obtain ⟨n, e1, rfl⟩ := hf
        cases hx
        exact .inr ⟨z, n, rfl, e1, hl, ho.same g.sub (.int _)⟩
      · cases hf
    | _ => cases hf
  | str =>
    refine fin (pe_callTy (call_str_int.or SkE.call_str_str) hg hm PyProof.Rows.boot_str A1 (he := star_cons hn)) ?_
    intro B F H io st rh σ x d t Q g hx hf ho
    obtain ⟨e, hf', rfl⟩ := dV_some hf
    cases d with
    | int i =>
      have hf : (if i.natAbs.log2 < 1920 then some (D.str (toString i)) else none) = some e := hf'
      split at hf
      · rename_i hl
        cases hf; cases hx
        exact .inl ⟨i, rfl, hl, ho.same g.sub (.str _)⟩
      · cases hf
    | str z => cases hf; cases hx; exact .inr ⟨z, rfl, ho.same g.sub (.str _)⟩
    | _ => cases hf
end

/-! ### isinstance of built-in classes -/
inductive Ty where
  | int | str | bool | tuple | list
def Ty.name : Ty → String
  | .int => "int"
  | .str => "str"
  | .bool => "bool"
  | .tuple => "tuple"
  | .list => "list"
def Ty.nm (t : Ty) : Str := PySem.Str.ofString t.name
def isi : Ty → D → Option Bool
  | _, .loc _ => none
  | _, .clo _ _ => none
  | _, .raw _ => none
  | _, .scr _ => none
  | .int, .int _ => some true
  | .int, .bl _ => some true
  | .str, .str _ => some true
  | .bool, .bl _ => some true
  | .tuple, .tup _ => some true
  | .list, .lst _ => some true
  | _, _ => some false
def tyD : D → Option String
  | .non => some "NoneType"
  | .bl _ => some "bool"
  | .int _ => some "int"
  | .str _ => some "str"
  | .tup _ => some "tuple"
  | .lst _ => some "list"
  | _ => none
def eIsi (t : Ty) : Sm → Sm := eOp1 fun _ d => bV (isi t d)
def eIsi2 (t u : Ty) : Sm → Sm := eOp1 fun _ d => bV ((isi t d).bind fun a => (isi u d).map fun b => a || b)
section
variable {X : Cx} {c : Ct} {W : WX} {a b e : Expr} {es : List Expr} {fa fb fc : Sm} {pos p p2 p3 p4 : Pos} {B : Bs} {F H : Hp} {io : List Addr} {st : Sto} {rh : Rho} {σ : St}
theorem Vw.ty (hK : X.K = c.K) (g : Good c B F io st rh σ H) {x : V} {d : D} {t : String} (h : Vw c F io H x d) (e : tyD d = some t) : TyX X.K H x (.type t) := by
  cases d with
  | non => cases e; cases h; exact .base .non
  | bl b => cases e; cases h; exact .base (.bl b)
  | int b => cases e; cases h; exact .base (.int b)
  | str b => cases e; cases h; exact .base (.str b)
  | tup ds =>
    cases e
    cases h with
    | tup h r =>
      rcases h with ⟨o, h, _⟩ | ⟨o, its, n, h1, h2, _⟩
      · exact .fTuple (g.sub _ _ h)
      · exact .kTuple (by rw [hK]; exact h1) h2
  | lst ds =>
    cases e
    obtain ⟨a, vs, rfl, q1, r1⟩ := h
    exact .base (.lst q1)
  | loc n => cases e
  | scr n => cases e
  | clo t ds => cases e
  | raw ds => cases e
theorem isi_kit (t : Ty) {d : D} {b : Bool} (h : isi t d = some b) : ∃ s, tyD d = some s ∧ kitB s t.name = some b := by
  cases t <;> cases d <;> simp only [isi] at h <;> first | (cases h; done) | (cases h; exact ⟨_, rfl, by decide +kernel⟩)
theorem boot_ty (t : Ty) : bootBuiltins t.nm = some (.type t.name) := by
  cases t <;> decide +kernel
theorem nm_ne (t : Ty) : t.nm ≠ "__name__" := by cases t <;> decide +kernel
theorem nm_db (t : Ty) : (t.nm == ("__debug__" : Str)) = false := by cases t <;> decide +kernel
theorem pe_ty (t : Ty) (hg : Gl X t.nm) (hm : X.mg t.nm = none) : PE X (.Name t.nm p) (tC (.ty t.name)) := pe_bltn hg hm (boot_ty t) (by cases t <;> rfl) (nm_ne t) (nm_db t)
theorem pe_isi (t : Ty) (hK : X.K = c.K) (hgi : Gl X "isinstance") (hmi : X.mg "isinstance" = none) (hg : Gl X t.nm) (hm : X.mg t.nm = none) (ha : PE X a (den c W fa)) (hn : notStar a = true) :
    PE X (.Call (.Name "isinstance" p) [a, .Name t.nm p2] [] pos) (den c W (eIsi t fa)) := by
  have A1 : PA X [a, .Name t.nm p2] (tCons (den c W fa) (tCons (tC (.ty t.name)) tNil)) := pa_cons ha (pa_cons (pe_ty t hg hm) pa_nil) (star_cons hn)
  refine PE.weak (pe_callB call_isi hgi hmi PyProof.Rows.boot_isinstance A1 (he := star_cons hn)) fun σ H Q h => op1_of (r := fun x H Q => rIsi X.K [x, .ty t.name] H Q) ?_ h
  intro B F H io st rh σ x d t' Q g hx hf ho
  unfold bV at hf
  rw [Option.map_eq_some_iff] at hf
  obtain ⟨k, hk, rfl⟩ := hf
  obtain ⟨s, e1, e2⟩ := isi_kit t hk
  exact ⟨x, .ty t.name, .type s, .type t.name, k, rfl, .ty t.name, hx.ty hK g e1, kit_ty e2, ho.same g.sub (.bl k)⟩
theorem pe_isi2 (t u : Ty) (hK : X.K = c.K) (hgi : Gl X "isinstance") (hmi : X.mg "isinstance" = none) (hg : Gl X t.nm) (hm : X.mg t.nm = none) (hg2 : Gl X u.nm) (hm2 : X.mg u.nm = none) (ha : PE X a (den c W fa)) (hn : notStar a = true) {k : Nat} :
    PE X (.Call (.Name "isinstance" p) [a, .Tuple [.Name t.nm p2, .Name u.nm p3] k p4] [] pos) (den c W (eIsi2 t u fa)) := by
  have A1 : PA X [a, .Tuple [.Name t.nm p2, .Name u.nm p3] k p4] (tCons (den c W fa) (tCons (tTup (tCons (tC (.ty t.name)) (tCons (tC (.ty u.name)) tNil))) tNil)) :=
    pa_cons ha (pa_cons (pe_tup (pa_cons (pe_ty t hg hm) (pa_cons (pe_ty u hg2 hm2) pa_nil))) pa_nil) (star_cons hn)
  refine PE.weak (pe_callB call_isiT hgi hmi PyProof.Rows.boot_isinstance A1 (he := star_cons hn)) fun σ H Q h => op1_of (r := fun x H Q => 2 ≤ sizeLine ∧ ∀ p, H p = none → rIsiT X.K [x, .ref p] (upd H p (.tup [.ty t.name, .ty u.name])) Q) ?_ h
  intro B F H io st rh σ x d t' Q g hx hf ho
  unfold bV at hf
  rw [Option.map_eq_some_iff] at hf
  obtain ⟨k, hk, rfl⟩ := hf
  rw [Option.bind_eq_some_iff] at hk
  obtain ⟨k1, e1, hk⟩ := hk
  rw [Option.map_eq_some_iff] at hk
  obtain ⟨k2, e2, rfl⟩ := hk
  obtain ⟨s, z1, z2⟩ := isi_kit t e1
  obtain ⟨s', z3, z4⟩ := isi_kit u e2
  have es : s' = s := by rw [z1] at z3; cases z3; rfl
  subst es
  refine ⟨by rw [sizeLine_eq]; decide, fun q hq => ?_⟩
  have S : Stp c F io H F io (upd H q (.tup [.ty t.name, .ty u.name])) := Stp.lay g.sub hq
  have g2 := g.step S g.sim
  have hx2 : Vw c F io (upd H q (.tup [.ty t.name, .ty u.name])) x d := by
    cases d with
    | lst ds =>
      obtain ⟨a, vs, rfl, q1, r1⟩ := hx
      exact ⟨a, vs, rfl, by rw [upd_ne (fun z => by subst z; rw [hq] at q1; cases q1)]; exact q1, r1⟩
    | _ => exact hx
  refine ⟨x, q, _, .type s', [.type t.name, .type u.name], k1 || k2, rfl, upd_same, .cons (.ty _) (.cons (.ty _) .nil), hx2.ty hK g2 z1, ?_, ?_⟩
  · refine kitAny_cons (kit_ty z2) (fun e => ?_) (fun e => by rw [e]; rfl)
    subst e
    refine kitAny_cons (kit_ty z4) (fun e => ?_) (fun e => by rw [e]; rfl)
    subst e
    rfl
  · exact ho _ _ F S (fun _ _ => rfl) (.bl _)
end
end KL

namespace KL
open PySem L2

/-! ### enumerate of a text -/
def IteS (x : Str) : It := ⟨fun i _ => i < x.cps.size, fun i H v H' => ∃ (T : Addr) (k : Nat), v = .ref T ∧ H T = none ∧ H' = upd H T (.tup [.int (i : Nat), .str ⟨#[k]⟩]) ∧ x.cps[i]? = some k, fun i _ => i = x.cps.size⟩
theorem turn_enumS {P : Program} {w : World} {K : PySem.W.Frag} {elts : List Expr} {kk : Nat} {tpos : Pos} (x : Str) (t : Tok) (e it : Addr) :
    Turn P w K (.Tuple elts kk tpos) (IteS x) [e, it] e (fun i h => (∃ old, IsEnum h e it ((i : Nat) : Int) old) ∧ h.IsStrIter it (strIterType x) x t i ∧ e ≠ it) where
  mem := by simp
  obj := fun i h st b hb => by
    obtain ⟨⟨old, he⟩, ⟨o, ho, hc, hd⟩, _⟩ := st
    have e' : b = e ∨ b = it := by simpa using hb
    rcases e' with z | z
    · rw [z]; exact ⟨_, he, fun v q => nomatch q⟩
    · rw [z]; exact ⟨o, ho, fun v q => by rw [hd] at q; cases q⟩
  keep := fun i h h' st k => let ⟨⟨old, he⟩, ⟨o, ho, r⟩, hne⟩ := st; ⟨⟨old, k e (by simp) _ he⟩, ⟨o, k it (by simp) o ho, r⟩, hne⟩
  item := by
    intro X hP hw hK hc i pins s σ H E I hf st hg
    subst hP hw hK
    obtain ⟨⟨old, he⟩, hit, hne⟩ := st
    have hel : e < s.heap.objs.size := Heap.lt_size he
    have hil : it < s.heap.objs.size := by obtain ⟨_, q, _⟩ := hit; exact Heap.lt_size q
    have hh : X.A.in1.handled = none := I.ok.hd hc
    refine wpAny_pyNext_enum_itemD (Draws.text hh it x t) he hit hg hne (by simpa using hne) fun u h' tk hu ho hit' hT hsz hk => ?_
    obtain ⟨k, t', hk1, rfl⟩ := hu
    refine ⟨_, rfl, wpAny_letOwnedTupleGo_enum (s := { s with heap := h', toks := tk + 1 }) ho fun h'' he' sb => ?_⟩
    have hT2 : h''.get? s.heap.objs.size = some { cls := .type "tuple", data := .seq #[.int i tk, .str ⟨#[k]⟩ t'] } := (sb.2 _ (Nat.ne_of_gt hel)).trans hT
    have new : ObjOk X.prog X.w (upd H s.heap.objs.size (.tup [.int (i : Nat), .str ⟨#[k]⟩])) h'' s.heap.objs.size (.tup [.int (i : Nat), .str ⟨#[k]⟩]) :=
      ⟨by show 2 ≤ sizeLine; decide, [.int i tk, .str ⟨#[k]⟩ t'], .cons ⟨_, rfl⟩ (.cons ⟨_, rfl⟩ .nil), ⟨_, hT2, rfl, _, rfl⟩⟩
    have I1 : L2.Inv X pins σ (upd H s.heap.objs.size (.tup [.int (i : Nat), .str ⟨#[k]⟩])) { s with heap := h'', toks := tk + 1 } :=
      I.turnedNew (ch := [e, it]) (fun b ob hb q => (sb.2 b (fun z => hb (by simp [z]))).trans (hk b ob (fun z => hb (by simp [z])) (fun z => hb (by simp [z])) q)) hf (Nat.le_refl _) new
    refine ⟨.ref s.heap.objs.size, _, I1, rfl, ⟨_, k, rfl, I.hok.fresh (Nat.le_refl _), rfl, hk1⟩, ⟨⟨.str ⟨#[k]⟩ t', ?_⟩, ?_, hne⟩, fun b hb => ?_⟩
    · have e1 : ((i + 1 : Nat) : Int) = (i : Int) + 1 := by omega
      rw [e1]; exact he'
    · obtain ⟨o, ho', r⟩ := hit'
      exact ⟨o, (sb.2 it (Ne.symm hne)).trans ho', r⟩
    · have hb' : b < s.heap.objs.size := by
        have e' : b = e ∨ b = it := by simpa using hb
        rcases e' with z | z
        · rw [z]; exact hel
        · rw [z]; exact hil
      rw [upd_ne (Nat.ne_of_lt hb')]
      exact (hf b hb).1
  done := by
    intro X hP hw hK hc i pins s σ H E I hf st hg
    subst hP hw hK
    obtain ⟨⟨old, he⟩, hit, hne⟩ := st
    obtain ⟨f0, f1, f2, f3, f4, f5⟩ := hf it (by simp)
    have hh : X.A.in1.handled = none := I.ok.hd hc
    have hi : i = x.cps.size := hg
    subst hi
    exact wpAny_pyNext_enum_endD (Draws.text hh it x t) he hit fun h' eb => ⟨rfl, I.turned (t' := s.toks) (fun b o hb q => eb b o hb q) f0 f1 f3 f4 f5⟩
  self := fun A i s Q E st h => let ⟨⟨_, he⟩, _⟩ := st; wpAny_pyIter_enum he h
def iEnumS (ta : TA) : TI := fun σ H R => ta σ H fun vs H1 => ∃ x, vs = [.str x] ∧ R (IteS x) H1
theorem pi_enumS {X : Cx} {e : Expr} {ta : TA} {p pos tpos : Pos} {elts : List Expr} {kk : Nat} (hg : Gl X "enumerate") (hm : X.mg "enumerate" = none) (ha : PA X [e] ta) (hs : starEach [e] X.env = [(false, eval e X.env)]) :
    PI X (.Tuple elts kk tpos) (.Call (.Name "enumerate" p) [e] [] pos) (iEnumS ta) := by
  refine ⟨fun pins s σ H R I h => ?_⟩
  refine PyProof.Rows.Call_ (ld_blt I hg hm PyProof.Rows.boot_enumerate (PyProof.Rows.callWith_type1 (thn (ha.run pos pins s σ H _ I h) fun us s1 ⟨vs, H1, I1, r1, q1⟩ => ?_) hs rfl))
  obtain ⟨x, ex, q⟩ := q1
  subst ex
  cases r1 with
  | cons r rr =>
    cases rr
    obtain ⟨t, rfl⟩ := r
    refine call_enumerate_str fun h' he hit hsz hk => wpAny_pyIter_enum he ?_
    have I2 : L2.Inv X pins σ H1 { s1 with heap := h' } := I1.kept (t' := s1.toks) hk
    refine ⟨s1.heap.objs.size + 1, [s1.heap.objs.size + 1, s1.heap.objs.size], _, _, H1, rfl, I2, turn_enumS x t (s1.heap.objs.size + 1) s1.heap.objs.size, ⟨⟨.none, he⟩, hit, Nat.succ_ne_self _⟩, fun b hb => ?_, q⟩
    have e' : b = s1.heap.objs.size + 1 ∨ b = s1.heap.objs.size := by simpa using hb
    have hle : s1.heap.objs.size ≤ b := by
      rcases e' with z | z
      · rw [z]; exact Nat.le_add_right _ _
      · rw [z]; exact Nat.le_refl _
    exact I1.fpOk hle (I1.hok.fresh hle)
end KL

namespace KL
open PySem L2

/-! ### targets -/
inductive Tg where
  | name (i : Nat) | tup (is : List Nat)
def setAll : List Nat → List D → Rho → Option Rho
  | [], [], rh => some rh
  | i :: is, d :: ds, rh => setAll is ds (rh.set i (some (.val d)))
  | _, _, _ => none
def tgSet : Tg → D → Rho → Option Rho
  | .name i, d, rh => some (rh.set i (some (.val d)))
  | .tup is, .tup ds, rh => setAll is ds rh
  | .tup is, .raw ds, rh => setAll is ds rh
  | _, _, _ => none
def Tg.slots : Tg → List Nat
  | .name i => [i]
  | .tup is => is
section
variable {c : Ct} {B : Bs} {F F' H H' : Hp} {io io' : List Addr} {st st' : Sto} {rh rh' : Rho} {σ : St} {v : V} {t : TV} {d : D}
theorem Good.set (g : Good c B F io st rh σ H) (r : Rv c F io v d) (i : Nat) : Good c B F io st (rh.set i (some (.val d))) (σ.set i (some v)) H := by
  refine ⟨g.bsub, g.btab, g.bnt, by rw [List.length_set, List.length_set]; exact g.len, g.stp, g.sim, fun j e hj => ?_, fun j ds hj => ?_, fun j k ds es w hj hk h1 h2 => ?_, fun j t ds hj => by
    by_cases z : i = j
    · subst z
      rw [List.getElem?_set, if_pos rfl] at hj
      split at hj <;> cases hj
    · rw [List.getElem?_set_ne z] at hj ⊢
      exact g.clo j t ds hj⟩
  · by_cases z : i = j
    · subst z
      rw [List.getElem?_set] at hj ⊢
      rw [if_pos rfl] at hj ⊢
      by_cases hl : i < rh.length
      · rw [if_pos hl] at hj
        cases hj
        exact ⟨v, by rw [if_pos (by rw [← g.len]; exact hl)], r⟩
      · rw [if_neg hl] at hj; cases hj
    · rw [List.getElem?_set_ne z] at hj ⊢
      exact g.val j e hj
  · by_cases z : i = j
    · subst z
      rw [List.getElem?_set, if_pos rfl] at hj
      split at hj <;> cases hj
    · rw [List.getElem?_set_ne z] at hj ⊢
      exact g.own j ds hj
  · have own_ne : ∀ {m : Nat} {us : List D}, (rh.set i (some (.val d)))[m]? = some (some (.own us)) → i ≠ m ∧ rh[m]? = some (some (.own us)) := by
      intro m us hm
      by_cases z : i = m
      · subst z
        rw [List.getElem?_set, if_pos rfl] at hm
        split at hm <;> cases hm
      · rw [List.getElem?_set_ne z] at hm
        exact ⟨z, hm⟩
    obtain ⟨z1, hj'⟩ := own_ne hj
    obtain ⟨z2, hk'⟩ := own_ne hk
    rw [List.getElem?_set_ne z1] at h1
    rw [List.getElem?_set_ne z2] at h2
    exact g.dis j k ds es w hj' hk' h1 h2
/-- what a target's reading has -/
def TgOk (c : Ct) (tg : Tg) (g : TG) : Prop := ∀ {B : Bs} {F H : Hp} {io : List Addr} {st : Sto} {rh rh' : Rho} {σ : St} {v : V} {d : D} {Q : St → Hp → Prop}, Good c B F io st rh σ H → Rv c F io v d → tgSet tg d rh = some rh' →
  (∀ σ', Good c B F io st rh' σ' H → (∀ i, i ∉ tg.slots → σ'[i]? = σ[i]?) → σ'.length = σ.length → Q σ' H) → g v σ H Q
theorem tg_name (i : Nat) : TgOk c (.name i) (gName i) := by
  intro B F H io st rh rh' σ v d Q g r e k
  cases e
  refine k _ (g.set r i) (fun j hj => List.getElem?_set_ne (fun z => hj (by simp [Tg.slots, z]))) (List.length_set ..)
/-- the names of a written tuple -/
def gNames : List Nat → TGs
  | [] => gNil
  | i :: is => gCons (gName i) (gNames is)
theorem gNames_ok : ∀ (is : List Nat) {B : Bs} {F H : Hp} {io : List Addr} {st : Sto} {rh rh' : Rho} {σ : St} {vs : List V} {ds : List D} {Q : St → Hp → Prop}, Good c B F io st rh σ H → RvAll c F io vs ds → setAll is ds rh = some rh' →
    (∀ σ', Good c B F io st rh' σ' H → (∀ i, i ∉ is → σ'[i]? = σ[i]?) → σ'.length = σ.length → Q σ' H) → gNames is vs σ H Q
  | [], _, _, _, _, _, _, _, _, _, ds, _, g, r, e, k => by
    cases ds with
    | nil => cases r; cases e; exact ⟨rfl, k _ g (fun _ _ => rfl) rfl⟩
    | cons _ _ => cases e
  | i :: is, _, _, _, _, _, rh, _, σ, _, ds, _, g, r, e, k => by
    cases ds with
    | nil => cases e
    | cons d ds =>
      cases r with
      | cons h r =>
        refine ⟨_, _, rfl, ?_⟩
        refine gNames_ok is (g.set h i) r e fun σ' g' k1 k2 => k σ' g' (fun j hj => ?_) (k2.trans (List.length_set ..))
        rw [k1 j (fun z => hj (List.mem_cons_of_mem _ z)), List.getElem?_set_ne (fun z => hj (by simp [z]))]
theorem setAll_len : ∀ {is : List Nat} {ds : List D} {rh rh' : Rho}, setAll is ds rh = some rh' → ds.length = is.length
  | [], [], _, _, _ => rfl
  | [], _ :: _, _, _, e => by cases e
  | _ :: _, [], _, _, e => by cases e
  | i :: is, d :: ds, rh, rh', e => by
    rw [List.length_cons, List.length_cons, setAll_len (is := is) (ds := ds) (rh := rh.set i (some (.val d))) (rh' := rh') e]
theorem tg_tup {K : PySem.W.Frag} (hK : K = c.K) (is : List Nat) : TgOk c (.tup is) (gTup K is.length (gNames is)) := by
  intro B F H io st rh rh' σ v d Q g r e k
  cases d with
  | tup ds =>
    obtain ⟨a, vs, rfl, q1, r1⟩ := Rv.sqT (a := 0) g.sub r
    exact ⟨a, vs, rfl, by rw [hK]; exact q1, by rw [r1.length]; exact setAll_len e, gNames_ok is g r1 e k⟩
  | raw ds =>
    cases r with
    | raw h n r1 => exact ⟨_, _, rfl, .inl (.inl (g.sub _ _ h)), by rw [r1.length]; exact setAll_len e, gNames_ok is g r1 e k⟩
  | _ => cases e
end

/-! ### what is walked -/
def signs (z : Str) : List D := z.cps.toList.map fun k => .str ⟨#[k]⟩
def itemsD : D → Option (List D)
  | .tup ds => some ds
  | .lst ds => some ds
  | .str z => some (signs z)
  | _ => none
def numFrom : Nat → List D → List D
  | _, [] => []
  | n, d :: ds => .raw [.int n, d] :: numFrom (n + 1) ds
def enmD : D → Option (List D)
  | .lst ds => some (numFrom 0 ds)
  | .str z => some (numFrom 0 (signs z))
  | _ => none
def zipTup : List D → List D → List D
  | d :: ds, e :: es => .raw [d, e] :: zipTup ds es
  | _, _ => []
def zipD : D → D → Option (List D)
  | .tup ds, .tup es => some (zipTup ds es)
  | .lst ds, .lst es => some (zipTup ds es)
  | _, _ => none
def rngD (lo hi : Int) : Option (List D) := if -(2 ^ 62) ≤ lo ∧ lo < 2 ^ 62 ∧ -(2 ^ 62) ≤ hi ∧ hi < 2 ^ 62 then some ((List.range (hi - lo).toNat).map fun i => .int (lo + (i : Nat))) else none
def notLoc : TV → Bool
  | .d (.loc _) => false
  | _ => true
abbrev Im := Rho → Sto → R (List D)
def oR {α : Type} (o : Option α) (st : Sto) : R α := match o with
  | some a => .ok a st
  | none => .no
/-- by the items of one value -/
def iOne (f : D → Option (List D)) (fa : Sm) : Im := fun rh st => (fa rh st).bind fun t st1 => if notLoc t then oR ((view rh st1 t).bind f) st1 else .no
def iTwo (f : D → D → Option (List D)) (fa fb : Sm) : Im := fun rh st => (fa rh st).bind fun t st1 => (fb rh st1).bind fun u st2 => if notLoc t && notLoc u then oR ((view rh st2 t).bind fun d => (view rh st2 u).bind fun e => f d e) st2 else .no
def rng1 : D → Option (List D)
  | .int j => rngD 0 j
  | _ => none
def rng2 : D → D → Option (List D)
  | .int i, .int j => rngD i j
  | _, _ => none
/-- at (F, io, H) the walk J yields these -/
def YC (c : Ct) (J : It) (F : Hp) (io : List Addr) (H : Hp) (ds : List D) : Prop :=
  (∀ (i : Nat) (d : D), ds[i]? = some d → J.go i H ∧ ∀ x H', J.yld i H x H' → ∃ F', Stp c F io H F' io H' ∧ (∀ a ∈ io, F' a = F a) ∧ Rv c F' io x d) ∧ J.stop ds.length H
structure Per (F : Hp) (io : List Addr) (F' : Hp) (io' : List Addr) : Prop where
  ext : ∃ more, io' = io ++ more
  per : ∀ a o, F a = some o → a ∉ io → F' a = some o
  nin : ∀ a o, F a = some o → a ∉ io → a ∉ io'
section
variable {c : Ct} {B : Bs} {F F' H H' : Hp} {io io' : List Addr} {st st' : Sto} {rh rh' : Rho} {σ : St} {v : V} {t : TV} {d : D} {ds es : List D} {vs ws : List V} {a b : Addr}
theorem Per.ix (S : Per F io F' io') {n : Nat} {a : Addr} (h : io[n]? = some a) : io'[n]? = some a := by
  obtain ⟨m, e⟩ := S.ext
  rw [e, List.getElem?_append_left (List.getElem?_eq_some_iff.mp h).1]
  exact h
mutual
theorem Rv.perm {v : V} {d : D} (S : Per F io F' io') : Rv c F io v d → Rv c F' io' v d
  | .non => .non
  | .bl b => .bl b
  | .int i => .int i
  | .str x => .str x
  | .tup h r => .tup (h.imp (fun ⟨o, h1, h2, h3⟩ => ⟨o, S.per _ _ h1 h2, S.nin _ _ h1 h2, h3⟩) id) (RvAll.perm S r)
  | .raw h n r => .raw (S.per _ _ h n) (S.nin _ _ h n) (RvAll.perm S r)
  | .lst h n r => .lst (S.per _ _ h n) (S.nin _ _ h n) (RvAll.perm S r)
  | .loc h => .loc (S.ix h)
  | .scr h => .scr (h.imp (fun ⟨h, n⟩ => by
      rcases h with h | ⟨o, h⟩
      · exact ⟨.inl (S.per _ _ h n), S.nin _ _ h n⟩
      · exact ⟨.inr ⟨o, S.per _ _ h n⟩, S.nin _ _ h n⟩) id)
theorem RvAll.perm {vs : List V} {ds : List D} (S : Per F io F' io') : RvAll c F io vs ds → RvAll c F' io' vs ds
  | .nil => .nil
  | .cons h r => .cons (Rv.perm S h) (RvAll.perm S r)
end
theorem Rc.perm {v : V} {t : Nat} {cs : List D} (S : Per F io F' io') (h : Rc c F io v t cs) : Rc c F' io' v t cs := h.imp (fun a o e n => ⟨S.per a o e n, S.nin a o e n⟩) fun v d r => r.perm S
theorem yc_tup (hs : ∀ a o, F a = some o → H a = some o) (h : SqT c.K H a vs) (r : RvAll c F io vs ds) : YC c (Itt c.K a) F io H ds := by
  refine ⟨fun i d e => ?_, vs, h, by rw [r.length]; exact Nat.le_refl _⟩
  obtain ⟨v, e1, rv⟩ := r.get e
  refine ⟨⟨vs, v, h, e1⟩, fun x H' ⟨eH, y⟩ => ?_⟩
  subst eH
  have e2 := y vs h
  rw [e1] at e2
  cases e2
  exact ⟨F, Stp.refl hs, fun _ _ => rfl, rv⟩
theorem yc_lst (hs : ∀ a o, F a = some o → H a = some o) (h : SqL c.K H a vs) (r : RvAll c F io vs ds) : YC c (Itl c.K a) F io H ds := by
  refine ⟨fun i d e => ?_, vs, h, by rw [r.length]; exact Nat.le_refl _⟩
  obtain ⟨v, e1, rv⟩ := r.get e
  refine ⟨⟨vs, v, h, e1⟩, fun x H' ⟨eH, y⟩ => ?_⟩
  subst eH
  have e2 := y vs h
  rw [e1] at e2
  cases e2
  exact ⟨F, Stp.refl hs, fun _ _ => rfl, rv⟩
theorem signs_get {z : Str} {i : Nat} {d : D} (e : (signs z)[i]? = some d) : ∃ k, z.cps[i]? = some k ∧ d = .str ⟨#[k]⟩ := by
  unfold signs at e
  rw [List.getElem?_map, Option.map_eq_some_iff] at e
  obtain ⟨k, e1, e2⟩ := e
  exact ⟨k, by simpa using e1, e2.symm⟩
theorem signs_len (z : Str) : (signs z).length = z.cps.size := by simp [signs]
theorem lt_of_get {α : Type} {xs : List α} {i : Nat} {x : α} (h : xs[i]? = some x) : i < xs.length := (List.getElem?_eq_some_iff.mp h).1
theorem yc_str (hs : ∀ a o, F a = some o → H a = some o) (z : Str) : YC c (Its z) F io H (signs z) := by
  refine ⟨fun i d e => ?_, by show z.cps.size ≤ _; rw [signs_len]; exact Nat.le_refl _⟩
  obtain ⟨k, e1, rfl⟩ := signs_get e
  refine ⟨by show i < z.cps.size; rw [← signs_len]; exact lt_of_get e, fun x H' ⟨eH, k', e2, ex⟩ => ?_⟩
  subst eH ex
  rw [e1] at e2
  cases e2
  exact ⟨F, Stp.refl hs, fun _ _ => rfl, .str _⟩
theorem yc_rng (hs : ∀ a o, F a = some o → H a = some o) (lo : Int) (n : Nat) : YC c (Itr lo n) F io H ((List.range n).map fun i => .int (lo + (i : Nat))) := by
  refine ⟨fun i d e => ?_, by show n ≤ _; simp⟩
  rw [List.getElem?_map, Option.map_eq_some_iff] at e
  obtain ⟨k, e1, rfl⟩ := e
  have hlt : i < n := by have := lt_of_get e1; simpa using this
  rw [List.getElem?_range hlt] at e1
  cases e1
  refine ⟨hlt, fun x H' ⟨eH, ex⟩ => ?_⟩
  subst eH ex
  exact ⟨F, Stp.refl hs, fun _ _ => rfl, .int _⟩
theorem numFrom_get : ∀ {ds : List D} {n i : Nat} {d : D}, (numFrom n ds)[i]? = some d → ∃ e, ds[i]? = some e ∧ d = .raw [.int ((n + i : Nat) : Int), e]
  | [], _, _, _, h => by simp [numFrom] at h
  | e :: ds, n, 0, d, h => by
    simp only [numFrom, List.getElem?_cons_zero, Option.some.injEq] at h
    exact ⟨e, rfl, h.symm⟩
  | e :: ds, n, i + 1, d, h => by
    simp only [numFrom, List.getElem?_cons_succ] at h
    obtain ⟨e', h1, h2⟩ := numFrom_get h
    exact ⟨e', by simpa using h1, by rw [h2, Nat.add_right_comm, Nat.add_assoc]⟩
theorem numFrom_len : ∀ (ds : List D) (n : Nat), (numFrom n ds).length = ds.length
  | [], _ => rfl
  | _ :: ds, n => by rw [numFrom, List.length_cons, List.length_cons, numFrom_len ds]
/-- a new tuple of a turn -/
theorem new_tup (hs : ∀ a o, F a = some o → H a = some o) (s : Sim c F io st) {T : Addr} (hT : H T = none) (r : RvAll c F io vs ds) : ∃ F', Stp c F io H F' io (upd H T (.tup vs)) ∧ (∀ a ∈ io, F' a = F a) ∧ Rv c F' io (.ref T) (.raw ds) := by
  have f1 : F T = none := by
    cases q : F T with
    | none => rfl
    | some o => rw [hs T o q] at hT; cases hT
  have f2 : T ∉ io := fun z => s.dom z f1
  exact ⟨upd F T (.tup vs), Stp.add hs hT, fun a ha => upd_ne (fun z => by subst z; exact f2 ha), .raw upd_same f2 (r.more (upd_more f1))⟩
theorem yc_enm (hs : ∀ a o, F a = some o → H a = some o) (s : Sim c F io st) (h : SqL c.K H a vs) (r : RvAll c F io vs ds) : YC c (Ite c.K a) F io H (numFrom 0 ds) := by
  refine ⟨fun i d e => ?_, vs, h, by rw [numFrom_len, r.length]; exact Nat.le_refl _⟩
  obtain ⟨e', h1, rfl⟩ := numFrom_get e
  obtain ⟨v, e1, rv⟩ := r.get h1
  refine ⟨⟨vs, v, h, e1⟩, fun x H' ⟨T, y, ex, hT, eH, hy⟩ => ?_⟩
  subst eH ex
  have e2 := hy vs h
  rw [e1] at e2
  cases e2
  rw [Nat.zero_add]
  exact new_tup hs s hT (.cons (.int _) (.cons rv .nil))
theorem yc_enmS (hs : ∀ a o, F a = some o → H a = some o) (s : Sim c F io st) (z : Str) : YC c (IteS z) F io H (numFrom 0 (signs z)) := by
  refine ⟨fun i d e => ?_, by show _ = z.cps.size; rw [numFrom_len, signs_len]⟩
  have hlt : i < z.cps.size := by
    have := lt_of_get e
    rw [numFrom_len, signs_len] at this
    exact this
  obtain ⟨e', h1, rfl⟩ := numFrom_get e
  obtain ⟨k, e1, rfl⟩ := signs_get h1
  refine ⟨hlt, fun x H' ⟨T, y, ex, hT, eH, hy⟩ => ?_⟩
  subst eH ex
  rw [e1] at hy
  cases hy
  rw [Nat.zero_add]
  exact new_tup hs s hT (.cons (.int _) (.cons (.str _) .nil))
theorem zipTup_get : ∀ {ds es : List D} {i : Nat} {d : D}, (zipTup ds es)[i]? = some d → ∃ e f, ds[i]? = some e ∧ es[i]? = some f ∧ d = .raw [e, f]
  | [], _, _, _, h => by simp [zipTup] at h
  | _ :: _, [], _, _, h => by simp [zipTup] at h
  | e :: ds, f :: es, 0, d, h => by
    simp only [zipTup, List.getElem?_cons_zero, Option.some.injEq] at h
    exact ⟨e, f, rfl, rfl, h.symm⟩
  | e :: ds, f :: es, i + 1, d, h => by
    simp only [zipTup, List.getElem?_cons_succ] at h
    obtain ⟨e', f', h1, h2, h3⟩ := zipTup_get h
    exact ⟨e', f', by simpa using h1, by simpa using h2, h3⟩
theorem zipTup_len : ∀ (ds es : List D), ds.length ≤ (zipTup ds es).length ∨ es.length ≤ (zipTup ds es).length
  | [], _ => .inl (Nat.zero_le _)
  | _ :: _, [] => .inr (Nat.zero_le _)
  | _ :: ds, _ :: es => by
    rw [zipTup, List.length_cons, List.length_cons, List.length_cons]
    exact (zipTup_len ds es).imp (fun h => Nat.succ_le_succ h) (fun h => Nat.succ_le_succ h)
theorem yc_zipT (hs : ∀ a o, F a = some o → H a = some o) (s : Sim c F io st) (h : SqT c.K H a vs) (r : RvAll c F io vs ds) (h' : SqT c.K H b ws) (r' : RvAll c F io ws es) : YC c (RZ.ItzT c.K a b) F io H (zipTup ds es) := by
  refine ⟨fun i d e => ?_, vs, ws, h, h', by rw [r.length, r'.length]; exact zipTup_len ds es⟩
  obtain ⟨e', f', h1, h2, rfl⟩ := zipTup_get e
  obtain ⟨v, e1, rv⟩ := r.get h1
  obtain ⟨w, e2, rw'⟩ := r'.get h2
  refine ⟨⟨vs, ws, v, w, h, h', e1, e2⟩, fun x H' ⟨T, y, y', ex, hT, eH, hy, hy'⟩ => ?_⟩
  subst eH ex
  have q := hy vs h
  have q' := hy' ws h'
  rw [e1] at q
  rw [e2] at q'
  cases q
  cases q'
  exact new_tup hs s hT (.cons rv (.cons rw' .nil))
theorem yc_zip (hs : ∀ a o, F a = some o → H a = some o) (s : Sim c F io st) (h : SqL c.K H a vs) (r : RvAll c F io vs ds) (h' : SqL c.K H b ws) (r' : RvAll c F io ws es) : YC c (Itz c.K a b) F io H (zipTup ds es) := by
  refine ⟨fun i d e => ?_, vs, ws, h, h', by rw [r.length, r'.length]; exact zipTup_len ds es⟩
  obtain ⟨e', f', h1, h2, rfl⟩ := zipTup_get e
  obtain ⟨v, e1, rv⟩ := r.get h1
  obtain ⟨w, e2, rw'⟩ := r'.get h2
  refine ⟨⟨vs, ws, v, w, h, h', e1, e2⟩, fun x H' ⟨T, y, y', ex, hT, eH, hy, hy'⟩ => ?_⟩
  subst eH ex
  have q := hy vs h
  have q' := hy' ws h'
  rw [e1] at q
  rw [e2] at q'
  cases q
  cases q'
  exact new_tup hs s hT (.cons rv (.cons rw' .nil))
end
end KL

namespace KL
open PySem L2

/-! ### what a comprehension, a loop walks: its reading -/
def YldS (c : Ct) (J : It) (F : Hp) (io : List Addr) (H : Hp) (ds : List D) : Prop := ∀ F2 io2 H2 st2, Stp c F io H F2 io2 H2 → Sim c F2 io2 st2 → YC c J F2 io2 H2 ds
def YldP (c : Ct) (J : It) (F : Hp) (io : List Addr) (H : Hp) (ds : List D) : Prop := ∀ F2 io2 H2 st2, Per F io F2 io2 → (∀ a o, F2 a = some o → H2 a = some o) → Sim c F2 io2 st2 → YC c J F2 io2 H2 ds
theorem Stp.perm {F H F' H' : Hp} {io io' : List Addr} (S : Stp c F io H F' io' H') (hs : ∀ a o, F a = some o → H a = some o) : Per F io F' io' := ⟨S.ext, S.per, fun a o h n => S.stays hs h n⟩
abbrev Yl := It → Hp → List Addr → Hp → List D → Prop
def PstI (c : Ct) (W : WX) (F : Hp) (io : List Addr) (σ : St) (H : Hp) (Y : Yl) (Q : It → Hp → Prop) : R (List D) → Prop
  | .ok ds st' => ∀ J H' F' io', Stp c F io H F' io' H' → Sim c F' io' st' → Y J F' io' H' ds → Q J H'
  | .ex e st' => ∀ H' F' io', Stp c F io H F' io' H' → Sim c F' io' st' → W (c.xc e) none σ H'
  | .no => False
/-- Y := YldS c: for a comprehension; YldP c: for a loop -/
def denI (c : Ct) (W : WX) (Y : Yl) (f : Im) : TI := fun σ H Q => ∃ B F io st rh, Good c B F io st rh σ H ∧ PstI c W F io σ H Y Q (f rh st)
theorem PI.weak {X : Cx} {tg e : Expr} {t t' : TI} (h : PI X tg e t) (hw : ∀ σ H Q, t' σ H Q → t σ H Q) : PI X tg e t' := ⟨fun pins s σ H Q I q => h.run pins s σ H Q I (hw σ H Q q)⟩
theorem PI.or {X : Cx} {tg e : Expr} {t t' : TI} (h : PI X tg e t) (h' : PI X tg e t') : PI X tg e (fun σ H Q => t σ H Q ∨ t' σ H Q) := ⟨fun pins s σ H Q I q => q.elim (h.run pins s σ H Q I) (h'.run pins s σ H Q I)⟩
/-- a source of items -/
inductive Src where
  | tup (a : Addr) (vs : List V) | lst (a : Addr) (vs : List V) | str (z : Str)
def Src.val : Src → V
  | .tup a _ => .ref a
  | .lst a _ => .ref a
  | .str z => .str z
def Src.at (K : PySem.W.Frag) (H : Hp) : Src → Prop
  | .tup a vs => SqT K H a vs
  | .lst a vs => SqL K H a vs
  | .str _ => True
def Src.rel (c : Ct) (F : Hp) (io : List Addr) : Src → List D → Prop
  | .tup _ vs, ds => RvAll c F io vs ds
  | .lst _ vs, ds => RvAll c F io vs ds
  | .str z, ds => ds = signs z
def Src.of : Src → List D → D → Prop
  | .tup _ _, ds, d => d = .tup ds
  | .lst _ _, ds, d => d = .lst ds
  | .str z, _, d => d = .str z
/-- it stands through what comes -/
def Src.stay (c : Ct) (Rel : Hp → List Addr → Hp → Prop) (s : Src) (ds : List D) : Prop := ∀ F2 io2 H2, Rel F2 io2 H2 → s.at c.K H2 ∧ s.rel c F2 io2 ds
abbrev RelS (c : Ct) (F : Hp) (io : List Addr) (H : Hp) : Hp → List Addr → Hp → Prop := fun F2 io2 H2 => Stp c F io H F2 io2 H2
abbrev RelP (F : Hp) (io : List Addr) : Hp → List Addr → Hp → Prop := fun F2 io2 H2 => Per F io F2 io2 ∧ ∀ a o, F2 a = some o → H2 a = some o
section
variable {X : Cx} {c : Ct} {W : WX} {tg a b e : Expr} {fa fb : Sm} {pos p : Pos} {B : Bs} {F F1 H H1 : Hp} {io io1 : List Addr} {st st1 : Sto} {rh : Rho} {σ : St} {w : V} {t u : TV} {d d' : D} {ds es : List D}
theorem src_rv (h : Rv c F io w d) (hi : itemsD d = some ds) : ∃ s : Src, w = s.val ∧ s.stay c (RelP F io) ds ∧ s.of ds d := by
  cases d with
  | tup es =>
    cases hi
    cases h with
    | tup h r =>
      refine ⟨.tup _ _, rfl, fun F2 io2 H2 ⟨S, hs⟩ => ⟨?_, r.perm S⟩, rfl⟩
      rcases h with ⟨o, h1, h2, _⟩ | ⟨o, its, n, h1, h2, _, h3⟩
      · exact .inl (.inr ⟨o, hs _ _ (S.per _ _ h1 h2)⟩)
      · exact .inr ⟨o, its, n, h1, h2, h3⟩
  | lst es =>
    cases hi
    cases h with
    | lst h n r => exact ⟨.lst _ _, rfl, fun F2 io2 H2 ⟨S, hs⟩ => ⟨.inl (.inl (hs _ _ (S.per _ _ h n))), r.perm S⟩, rfl⟩
  | str z =>
    cases hi
    cases h
    exact ⟨.str z, rfl, fun F2 io2 H2 _ => ⟨trivial, rfl⟩, rfl⟩
  | _ => cases hi
theorem Src.stay_s {s : Src} (h : s.stay c (RelP F io) ds) (hs : ∀ a o, F a = some o → H a = some o) : s.stay c (RelS c F io H) ds := fun F2 io2 H2 S => h F2 io2 H2 ⟨S.perm hs, S.sub⟩
/-- the source of a value that an expression gave, through a comprehension -/
theorem src_s (g : Good c B F io st rh σ H) (T : Tvr c F io rh σ H w t) (hn : notLoc t = true) (hv : view rh st t = some d) (hi : itemsD d = some ds) : ∃ s : Src, w = s.val ∧ s.stay c (RelS c F io H) ds ∧ s.of ds d := by
  have lsts : ∀ {a : Addr} {vs : List V} {es : List D}, w = .ref a → H a = some (.lst vs) → a ∉ io → RvAll c F io vs es → d = .lst es → ∃ s : Src, w = s.val ∧ s.stay c (RelS c F io H) ds ∧ s.of ds d := by
    intro a vs es e1 h1 h2 r e2
    subst e2
    cases hi
    exact ⟨.lst a vs, e1, fun F2 io2 H2 S => ⟨.inl (.inl (S.frL _ _ h1 h2)), r.step S g.sub⟩, rfl⟩
  cases t with
  | d d0 =>
    have e : d0 = d := by
      cases d0 with
      | loc n => cases hn
      | _ => exact Option.some.inj hv
    subst e
    obtain ⟨s, h1, h2, h3⟩ := src_rv T hi
    exact ⟨s, h1, Src.stay_s h2 g.sub, h3⟩
  | o i =>
    obtain ⟨⟨es, e1⟩, e2⟩ := T
    simp only [view, e1, Option.some.injEq] at hv
    obtain ⟨a, vs, e3, e4, e5, e6, r⟩ := g.own i es e1
    rw [e2] at e3
    cases e3
    exact lsts rfl e4 (fun z => g.sim.dom z e5) r hv.symm
  | fr es =>
    obtain ⟨q, vs, e1, h1, h2, r⟩ := T
    exact lsts e1 h1 h2 r (Option.some.inj hv).symm
/-- which walk, by the source -/
def Src.J (K : PySem.W.Frag) : Src → It
  | .tup a _ => Itt K a
  | .lst a _ => Itl K a
  | .str z => Its z
theorem Src.yc {s : Src} (hs : ∀ a o, F a = some o → H a = some o) (h : s.at c.K H ∧ s.rel c F io ds) : YC c (s.J c.K) F io H ds := by
  obtain ⟨h1, h2⟩ := h
  cases s with
  | tup a vs => exact yc_tup hs h1 h2
  | lst a vs => exact yc_lst hs h1 h2
  | str z => cases h2; exact yc_str hs z
theorem iOne_cases {f : D → Option (List D)} {Y : Yl} {Q : It → Hp → Prop} (h : PstI c W F io σ H Y Q (iOne f fa rh st)) :
    (∃ e s, fa rh st = .ex e s ∧ PstI c W F io σ H Y Q (.ex e s)) ∨ ∃ t st1 d ds, fa rh st = .ok t st1 ∧ notLoc t = true ∧ view rh st1 t = some d ∧ f d = some ds ∧ PstI c W F io σ H Y Q (.ok ds st1) := by
  unfold iOne at h
  cases hr : fa rh st with
  | no => rw [hr] at h; exact h.elim
  | ex x s => rw [hr] at h; exact .inl ⟨x, s, rfl, h⟩
  | ok t st1 =>
    rw [hr] at h
    have h : PstI c W F io σ H Y Q (if notLoc t = true then oR ((view rh st1 t).bind f) st1 else .no) := h
    cases hn : notLoc t with
    | false => rw [hn] at h; exact h.elim
    | true =>
      rw [hn, if_pos rfl] at h
      cases hv : view rh st1 t with
      | none => rw [hv] at h; exact h.elim
      | some d =>
        rw [hv] at h
        have h : PstI c W F io σ H Y Q (oR (f d) st1) := h
        cases hf : f d with
        | none => rw [hf] at h; exact h.elim
        | some ds => rw [hf] at h; exact .inr ⟨t, st1, d, ds, rfl, hn, hv, hf, h⟩
theorem den_ex {e : Str} {s : Sto} {Y : Yl} {Q : It → Hp → Prop} {Q' : VK} (g : Good c B F io st rh σ H) (hr : fa rh st = .ex e s) (h : PstI c W F io σ H Y Q (.ex e s)) : den c W fa σ H Q' := ⟨B, F, io, st, rh, g, by rw [hr]; exact h⟩
/-- a list, a tuple, a text; comprehension -/
theorem pi_seq (hK : X.K = c.K) (ha : PE X a (den c W fa)) : PI X tg a (denI c W (YldS c) (iOne itemsD fa)) := by
  refine PI.weak (PI.or (PI.or (pi_tup ha) (pi_list ha)) (pi_str ha)) fun σ H Q ⟨B, F, io, st, rh, g, h⟩ => ?_
  rcases iOne_cases h with ⟨x, s, hr, h⟩ | ⟨t, st1, d, ds, hr, hn, hv, hf, h⟩
  · exact .inr (den_ex g hr h)
  · have key : ∀ w H' F' io', Stp c F io H F' io' H' → Sim c F' io' st1 → Tvs c H F' io' rh σ H' w t → ∃ s : Src, w = s.val ∧ s.at c.K H' ∧ s.of ds d ∧ Q (s.J c.K) H' := by
      intro w H' F' io' S s' T
      obtain ⟨s, e1, e2, e3⟩ := src_s (g.step S s') (T.r s') hn hv hf
      refine ⟨s, e1, (e2 F' io' H' (Stp.refl S.sub)).1, e3, h _ H' F' io' S s' fun F2 io2 H2 st2 S2 s2 => Src.yc S2.sub (e2 F2 io2 H2 S2)⟩
    cases d with
    | tup es =>
      refine .inl (.inl ⟨B, F, io, st, rh, g, by rw [hr]; intro w H' F' io' S s' T; obtain ⟨s, e1, e2, e3, q⟩ := key w H' F' io' S s' T; cases s with | tup a vs => exact ⟨a, e1, ⟨vs, by rw [hK]; exact e2⟩, by rw [hK]; exact q⟩ | lst a vs => cases e3 | str z => cases e3⟩)
    | lst es =>
      refine .inl (.inr ⟨B, F, io, st, rh, g, by rw [hr]; intro w H' F' io' S s' T; obtain ⟨s, e1, e2, e3, q⟩ := key w H' F' io' S s' T; cases s with | lst a vs => exact ⟨a, e1, ⟨vs, by rw [hK]; exact e2⟩, by rw [hK]; exact q⟩ | tup a vs => cases e3 | str z => cases e3⟩)
    | str z =>
      refine .inr ⟨B, F, io, st, rh, g, by rw [hr]; intro w H' F' io' S s' T; obtain ⟨s, e1, e2, e3, q⟩ := key w H' F' io' S s' T; cases s with | str z' => exact ⟨z', e1, q⟩ | tup a vs => cases e3 | lst a vs => cases e3⟩
    | _ => cases hf
/-- enumerate -/
theorem enm_of {s : Src} {hs : ∀ a o, F a = some o → H a = some o} (sm : Sim c F io st) (h : s.at c.K H ∧ s.rel c F io ds) : (∀ a vs, s = .lst a vs → YC c (Ite c.K a) F io H (numFrom 0 ds)) ∧ (∀ z, s = .str z → YC c (IteS z) F io H (numFrom 0 ds)) := by
  obtain ⟨h1, h2⟩ := h
  refine ⟨fun a vs e => ?_, fun z e => ?_⟩
  · subst e; exact yc_enm hs sm h1 h2
  · subst e; cases h2; exact yc_enmS hs sm z
theorem enm_items {d : D} {es : List D} (h : enmD d = some es) : ∃ ds, itemsD d = some ds ∧ es = numFrom 0 ds ∧ ((∃ z, d = .str z) ∨ ∃ us, d = .lst us) := by
  cases d <;> simp only [enmD] at h <;> first | (cases h; done) | (cases h; exact ⟨_, rfl, rfl, by first | exact .inl ⟨_, rfl⟩ | exact .inr ⟨_, rfl⟩⟩)
theorem pi_enm (hK : X.K = c.K) {elts : List Expr} {k : Nat} {tpos : Pos} (hg : Gl X "enumerate") (hm : X.mg "enumerate" = none) (ha : PE X a (den c W fa)) (hn : notStar a = true) :
    PI X (.Tuple elts k tpos) (.Call (.Name "enumerate" p) [a] [] pos) (denI c W (YldS c) (iOne enmD fa)) := by
  have A1 : PA X [a] (tCons (den c W fa) tNil) := pa_cons ha pa_nil (star_cons hn)
  refine PI.weak (PI.or (pi_enum hg hm A1 (star_cons hn)) (pi_enumS hg hm A1 (star_cons hn))) fun σ H Q ⟨B, F, io, st, rh, g, h⟩ => ?_
  rcases iOne_cases h with ⟨x, s, hr, h⟩ | ⟨t, st1, d, ds, hr, hn, hv, hf, h⟩
  · exact .inr (den_ex g hr h)
  · obtain ⟨us, hi, rfl, hd⟩ := enm_items hf
    rcases hd with ⟨z, rfl⟩ | ⟨vs, rfl⟩
    · refine .inr ⟨B, F, io, st, rh, g, ?_⟩
      rw [hr]
      intro w H' F' io' S s' T
      obtain ⟨s, e1, e2, e3⟩ := src_s (g.step S s') (T.r s') hn hv hi
      cases s with
      | str z' => exact ⟨z', congrArg (fun q => [q]) e1, h _ H' F' io' S s' fun F2 io2 H2 st2 S2 s2 => (enm_of (hs := S2.sub) s2 (e2 F2 io2 H2 S2)).2 _ rfl⟩
      | tup a vs => cases e3
      | lst a vs => cases e3
    · refine .inl ⟨B, F, io, st, rh, g, ?_⟩
      rw [hr]
      intro w H' F' io' S s' T
      obtain ⟨s, e1, e2, e3⟩ := src_s (g.step S s') (T.r s') hn hv hi
      cases s with
      | lst a ws => exact ⟨a, ws, congrArg (fun q => [q]) e1, by rw [hK]; exact (e2 F' io' H' (Stp.refl S.sub)).1, by rw [hK]; exact h _ H' F' io' S s' fun F2 io2 H2 st2 S2 s2 => (enm_of (hs := S2.sub) s2 (e2 F2 io2 H2 S2)).1 _ _ rfl⟩
      | tup a vs => cases e3
      | str z => cases e3
/-- range: comprehension and loop -/
theorem pi_rng1 {Y : Yl} (hY : ∀ J F io H ds, (∀ F2 io2 H2 st2, (∀ a o, F2 a = some o → H2 a = some o) → Sim c F2 io2 st2 → YC c J F2 io2 H2 ds) → Y J F io H ds) (hg : Gl X "range") (hm : X.mg "range" = none) (ha : PE X a (den c W fa)) (hn : notStar a = true) :
    PI X tg (.Call (.Name "range" p) [a] [] pos) (denI c W Y (iOne rng1 fa)) := by
  have A1 : PA X [a] (tCons (den c W fa) tNil) := pa_cons ha pa_nil (star_cons hn)
  refine PI.weak (pi_range1 hg hm A1 (star_cons hn)) fun σ H Q ⟨B, F, io, st, rh, g, h⟩ => ?_
  rcases iOne_cases h with ⟨x, s, hr, h⟩ | ⟨t, st1, d, ds, hr, hn, hv, hf, h⟩
  · exact den_ex g hr h
  · refine ⟨B, F, io, st, rh, g, ?_⟩
    rw [hr]
    intro w H' F' io' S s' T
    have g1 := g.step S s'
    have vw := view_ok g1 (T.r s') hv
    cases d with
    | int j =>
      cases vw
      simp only [rng1, rngD] at hf
      split at hf
      · rename_i hl
        cases hf
        refine ⟨j, rfl, hl.2.2.1, hl.2.2.2, h _ H' F' io' S s' (hY _ _ _ _ _ fun F2 io2 H2 st2 hs2 s2 => ?_)⟩
        rw [Int.sub_zero]
        exact yc_rng hs2 0 _
      · cases hf
    | _ => cases hf
theorem iTwo_cases {f : D → D → Option (List D)} {Y : Yl} {Q : It → Hp → Prop} (g : Good c B F io st rh σ H) (h : PstI c W F io σ H Y Q (iTwo f fa fb rh st)) {Q' : V → V → Hp → Prop}
    (hk : ∀ t u st2 d e ds v w H1 F1 io1, notLoc t = true → notLoc u = true → view rh st2 t = some d → view rh st2 u = some e → f d e = some ds → Stp c F io H F1 io1 H1 → Good c B F1 io1 st2 rh σ H1 → Tvr c F1 io1 rh σ H1 v t → Tvr c F1 io1 rh σ H1 w u → PstI c W F1 io1 σ H1 Y Q (.ok ds st2) → Q' v w H1) :
    den c W fa σ H fun v H1 => den c W fb σ H1 fun w H2 => Q' v w H2 := by
  refine ⟨B, F, io, st, rh, g, ?_⟩
  unfold iTwo at h
  cases hr : fa rh st with
  | no => rw [hr] at h; exact h.elim
  | ex x s => rw [hr] at h; exact h
  | ok t st1 =>
    rw [hr] at h
    intro v H1 F1 io1 S1 s1 T1
    have g1 := g.step S1 s1
    refine ⟨B, F1, io1, st1, rh, g1, ?_⟩
    have h : PstI c W F io σ H Y Q ((fb rh st1).bind fun u st2 => if (notLoc t && notLoc u) = true then oR ((view rh st2 t).bind fun d => (view rh st2 u).bind fun e => f d e) st2 else .no) := h
    cases hr2 : fb rh st1 with
    | no => rw [hr2] at h; exact h.elim
    | ex x s => rw [hr2] at h; exact fun H' F' io' S s' => h H' F' io' (S1.trans g.sub S) s'
    | ok u st2 =>
      rw [hr2] at h
      intro w H2 F2 io2 S2 s2 T2
      have g2 := g1.step S2 s2
      have h : PstI c W F io σ H Y Q (if (notLoc t && notLoc u) = true then oR ((view rh st2 t).bind fun d => (view rh st2 u).bind fun e => f d e) st2 else .no) := h
      split at h
      · rename_i hn
        rw [Bool.and_eq_true] at hn
        cases hv : view rh st2 t with
        | none => rw [hv] at h; exact h.elim
        | some d =>
          cases hv2 : view rh st2 u with
          | none => rw [hv, hv2] at h; exact h.elim
          | some e =>
            rw [hv, hv2] at h
            have h : PstI c W F io σ H Y Q (oR (f d e) st2) := h
            cases hf : f d e with
            | none => rw [hf] at h; exact h.elim
            | some ds =>
              rw [hf] at h
              refine hk t u st2 d e ds v w H2 F2 io2 hn.1 hn.2 hv hv2 hf (S1.trans g.sub S2) g2 ((T1.r s1).step S2 g1.sub) (T2.r s2) ?_
              exact fun J H' F' io' S s' y => h J H' F' io' ((S1.trans g.sub S2).trans g.sub S) s' y
      · exact h.elim
theorem pi_rng2 {Y : Yl} (hY : ∀ J F io H ds, (∀ F2 io2 H2 st2, (∀ a o, F2 a = some o → H2 a = some o) → Sim c F2 io2 st2 → YC c J F2 io2 H2 ds) → Y J F io H ds) (hg : Gl X "range") (hm : X.mg "range" = none) (ha : PE X a (den c W fa)) (hb : PE X b (den c W fb)) (hn : notStar a = true) (hn2 : notStar b = true) :
    PI X tg (.Call (.Name "range" p) [a, b] [] pos) (denI c W Y (iTwo rng2 fa fb)) := by
  have A1 : PA X [a, b] (tCons (den c W fa) (tCons (den c W fb) tNil)) := pa_cons ha (pa_cons hb pa_nil (star_cons hn2)) (star_cons hn)
  have e2 : starEach [b] X.env = [(false, eval b X.env)] := star_cons hn2
  refine PI.weak (pi_range2 hg hm A1 (by rw [star_cons hn, e2]) e2) fun σ H Q ⟨B, F, io, st, rh, g, h⟩ => ?_
  refine iTwo_cases g h (Q' := fun v w H2 => ∃ i j : Int, [v, w] = [.int i, .int j] ∧ (-(2 ^ 62) ≤ i ∧ i < 2 ^ 62 ∧ -(2 ^ 62) ≤ j ∧ j < 2 ^ 62) ∧ Q (Itr i (j - i).toNat) H2) fun t u st2 d e ds v w H1 F1 io1 n1 n2 v1 v2 hf S g1 T1 T2 h => ?_
  have w1 := view_ok g1 T1 v1
  have w2 := view_ok g1 T2 v2
  cases d <;> cases e <;> simp only [rng2] at hf <;> try (cases hf; done)
  cases w1; cases w2
  simp only [rngD] at hf
  split at hf
  · rename_i hl
    cases hf
    exact ⟨_, _, rfl, hl, h _ H1 F1 io1 (Stp.refl S.sub) g1.sim (hY _ _ _ _ _ fun F2 io2 H2 st2 hs2 s2 => yc_rng hs2 _ _)⟩
  · cases hf
theorem pi_zp (hK : X.K = c.K) {elts : List Expr} {k : Nat} {tpos : Pos} (hg : Gl X "zip") (hm : X.mg "zip" = none) (ha : PE X a (den c W fa)) (hb : PE X b (den c W fb)) (hn : notStar a = true) (hn2 : notStar b = true) :
    PI X (.Tuple elts k tpos) (.Call (.Name "zip" p) [a, b] [] pos) (denI c W (YldS c) (iTwo zipD fa fb)) := by
  have A1 : PA X [a, b] (tCons (den c W fa) (tCons (den c W fb) tNil)) := pa_cons ha (pa_cons hb pa_nil (star_cons hn2)) (star_cons hn)
  refine PI.weak (RZ.pi_zipA hg hm A1 (star_cons hn) (star_any (by simp [hn2]))) fun σ H Q ⟨B, F, io, st, rh, g, h⟩ => ?_
  refine iTwo_cases g h (Q' := fun v w H1 => ∃ a b xs ys, [v, w] = [.ref a, .ref b] ∧ ((SqL X.K H1 a xs ∧ SqL X.K H1 b ys ∧ Q (Itz X.K a b) H1) ∨ (SqT X.K H1 a xs ∧ SqT X.K H1 b ys ∧ Q (RZ.ItzT X.K a b) H1))) fun t u st2 d e ds v w H1 F1 io1 n1 n2 v1 v2 hf S g1 T1 T2 h => ?_
  cases d with
  | tup us =>
    cases e <;> simp only [zipD] at hf <;> try (cases hf; done)
    cases hf
    obtain ⟨s1, e1, e2, e3⟩ := src_s g1 T1 n1 v1 rfl
    obtain ⟨s2, f1, f2, f3⟩ := src_s g1 T2 n2 v2 rfl
    cases s1 with
    | tup a vs =>
      cases s2 with
      | tup b ws =>
        refine ⟨a, b, vs, ws, by rw [e1, f1]; rfl, .inr ⟨by rw [hK]; exact (e2 F1 io1 H1 (Stp.refl S.sub)).1, by rw [hK]; exact (f2 F1 io1 H1 (Stp.refl S.sub)).1, ?_⟩⟩
        rw [hK]
        exact h _ H1 F1 io1 (Stp.refl S.sub) g1.sim fun F2 io2 H2 st2 S2 s2 => yc_zipT S2.sub s2 (e2 F2 io2 H2 S2).1 (e2 F2 io2 H2 S2).2 (f2 F2 io2 H2 S2).1 (f2 F2 io2 H2 S2).2
      | lst _ _ => cases f3
      | str _ => cases f3
    | lst _ _ => cases e3
    | str _ => cases e3
  | lst us =>
    cases e <;> simp only [zipD] at hf <;> try (cases hf; done)
    cases hf
    obtain ⟨s1, e1, e2, e3⟩ := src_s g1 T1 n1 v1 rfl
    obtain ⟨s2, f1, f2, f3⟩ := src_s g1 T2 n2 v2 rfl
    cases s1 with
    | lst a vs =>
      cases s2 with
      | lst b ws =>
        refine ⟨a, b, vs, ws, by rw [e1, f1]; rfl, .inl ⟨by rw [hK]; exact (e2 F1 io1 H1 (Stp.refl S.sub)).1, by rw [hK]; exact (f2 F1 io1 H1 (Stp.refl S.sub)).1, ?_⟩⟩
        rw [hK]
        exact h _ H1 F1 io1 (Stp.refl S.sub) g1.sim fun F2 io2 H2 st2 S2 s2 => yc_zip S2.sub s2 (e2 F2 io2 H2 S2).1 (e2 F2 io2 H2 S2).2 (f2 F2 io2 H2 S2).1 (f2 F2 io2 H2 S2).2
      | tup _ _ => cases f3
      | str _ => cases f3
    | tup _ _ => cases e3
    | str _ => cases e3
  | _ => cases e <;> cases hf
end
end KL

namespace KL
open PySem L2

/-! ### list comprehensions -/
def wipeR (rh : Rho) : List Nat → Rho
  | [] => rh
  | v :: vs => (wipeR rh vs).set v none
def cTest (fc : Option Sm) (rh : Rho) (st : Sto) : R Bool := match fc with
  | none => .ok true st
  | some f => (match f rh st with
    | .ok (.d (.bl b)) st1 => .ok b st1
    | _ => .no)
def cElt (fe : Sm) (rh : Rho) (st : Sto) : R D := match fe rh st with
  | .ok t st1 => oR (toDv t) st1
  | _ => .no
def cLoop (tg : Tg) (fc : Option Sm) (fe : Sm) (rhw : Rho) : List D → Sto → R (List D)
  | [], st => .ok [] st
  | d :: ds, st => (oR (tgSet tg d rhw) st).bind fun rh' st0 => (cTest fc rh' st0).bind fun b st1 => match b with
    | true => (cElt fe rh' st1).bind fun y st2 => (cLoop tg fc fe rhw ds st2).bind fun ys st3 => .ok (y :: ys) st3
    | false => cLoop tg fc fe rhw ds st1
def eComp (vs : List Nat) (tg : Tg) (fi : Im) (fc : Option Sm) (fe : Sm) : Sm := fun rh st => (fi rh st).bind fun ds st1 => if ds.length ≤ sizeLine then (cLoop tg fc fe (wipeR rh vs) ds st1).bind fun ys st2 => .ok (.fr ys) st2 else .no
theorem R.assoc {α β γ : Type} (r : R α) (f : α → Sto → R β) (k : β → Sto → R γ) : (r.bind f).bind k = r.bind fun a st => (f a st).bind k := by cases r <;> rfl
section
variable {X : Cx} {c : Ct} {W : WX} {B : Bs} {F F' F1 H H' H1 : Hp} {io io' io1 : List Addr} {st st' st1 : Sto} {rh : Rho} {σ : St}
theorem wipeR_len (rh : Rho) : ∀ vs : List Nat, (wipeR rh vs).length = rh.length
  | [] => rfl
  | v :: vs => by unfold wipeR; rw [List.length_set, wipeR_len rh vs]
theorem wipeR_some {rh : Rho} {i : Nat} {x : Cell} : ∀ {vs : List Nat}, (wipeR rh vs)[i]? = some (some x) → rh[i]? = some (some x) ∧ i ∉ vs
  | [], h => ⟨h, by simp⟩
  | v :: vs, h => by
    unfold wipeR at h
    by_cases hi : v = i
    · subst hi
      by_cases hv : v < (wipeR rh vs).length
      · rw [List.getElem?_set_self hv] at h; cases h
      · rw [List.getElem?_eq_none (by simpa using hv)] at h; cases h
    · rw [List.getElem?_set_ne hi] at h
      obtain ⟨h1, h2⟩ := wipeR_some h
      exact ⟨h1, by simp only [List.mem_cons, not_or]; exact ⟨fun e => hi e.symm, h2⟩⟩
theorem Good.wipe (g : Good c B F io st rh σ H) (vs : List Nat) : Good c B F io st (wipeR rh vs) (L2.wipe σ vs) H := by
  refine ⟨g.bsub, g.btab, g.bnt, by rw [wipeR_len, wipe_length]; exact g.len, g.stp, g.sim, fun i d e => ?_, fun i ds e => ?_, fun i j ds es w h1 h2 h3 h4 => ?_, fun i t ds e => by
    obtain ⟨e1, e2⟩ := wipeR_some e
    rw [wipe_out e2]
    exact g.clo i t ds e1⟩
  · obtain ⟨e1, e2⟩ := wipeR_some e
    rw [wipe_out e2]
    exact g.val i d e1
  · obtain ⟨e1, e2⟩ := wipeR_some e
    rw [wipe_out e2]
    exact g.own i ds e1
  · obtain ⟨e1, z1⟩ := wipeR_some h1
    obtain ⟨e2, z2⟩ := wipeR_some h2
    rw [wipe_out z1] at h3
    rw [wipe_out z2] at h4
    exact g.dis i j ds es w e1 e2 h3 h4
/-- an object that came up on the way and is not leant on is changed -/
theorem Stp.chg (S : Stp c F io H F' io' H') {p : Addr} (o : HO) (h : H p = none) (hn : F' p = none) (hl : ∃ vs, H' p = some (.lst vs)) : Stp c F io H F' io' (upd H' p o) := by
  refine ⟨fun a u e => ?_, S.ext, S.per, S.new, fun a u e n ht => ?_, fun a e => ?_, S.nio, fun h0 => let ⟨vs, hv⟩ := hl; tabs_upd (S.tab h0) hv (fun _ z => by cases z) (fun _ z => by cases z), S.ntb⟩
  · rw [upd_ne (fun z => by subst z; rw [hn] at e; cases e)]; exact S.sub a u e
  · rw [upd_ne (fun z => by subst z; rw [h] at e; cases e)]; exact S.fr a u e n ht
  · by_cases z : a = p
    · subst z; exact h
    · rw [upd_ne z] at e; exact S.gro a e
theorem Stp.out (S : Stp c F io H F' io' H') {p : Addr} {o : HO} (h : H p = some o) (hn : F p = none) : F' p = none := by
  cases q : F' p with
  | none => rfl
  | some u =>
    rcases S.new p (by rw [q]; simp) with z | z
    · exact absurd hn z
    · rw [h] at z; cases z
theorem wipe_eq {σ σ2 : St} {vs sl : List Nat} (hsub : ∀ i ∈ sl, i ∈ vs) (h : ∀ i, i ∉ sl → σ2[i]? = (L2.wipe σ vs)[i]?) (hl : σ2.length = (L2.wipe σ vs).length) : L2.wipe σ2 vs = L2.wipe σ vs := by
  have inn : ∀ (τ : St) (us : List Nat) (i : Nat), i ∈ us → i < τ.length → (L2.wipe τ us)[i]? = some none := by
    intro τ us
    induction us with
    | nil => intro i hi; simp at hi
    | cons u us ih =>
      intro i hi hl
      unfold L2.wipe
      by_cases z : u = i
      · subst z
        rw [List.getElem?_set_self (by rw [wipe_length]; exact hl)]
      · rw [List.getElem?_set_ne z]
        exact ih i (by simpa [Ne.symm z] using hi) hl
  rw [wipe_length] at hl
  apply List.ext_getElem?
  intro i
  by_cases hv : i ∈ vs
  · by_cases hlt : i < σ.length
    · rw [inn σ2 vs i hv (by rw [hl]; exact hlt), inn σ vs i hv hlt]
    · rw [List.getElem?_eq_none (by rw [wipe_length, hl]; omega), List.getElem?_eq_none (by rw [wipe_length]; omega)]
  · rw [wipe_out hv, h i (fun z => hv (hsub i z))]
/-- nothing is let out -/
abbrev W0 : WX := fun _ _ _ _ => False
/-- the readings of a comprehension's tests -/
def CtOk (c : Ct) (fc : Option Sm) (tt : TT) : Prop := (fc = none ∧ tt = tYes) ∨ ∃ f, fc = some f ∧ tt = denT c W0 f
theorem test_of {fc : Option Sm} {tt : TT} (h : CtOk c fc tt) (g : Good c B F io st rh σ H) {b : Bool} {st1 : Sto} (e : cTest fc rh st = .ok b st1) {Q : Bool → Hp → Prop}
    (k : ∀ H' F' io', Stp c F io H F' io' H' → Good c B F' io' st1 rh σ H' → Q b H') : tt σ H Q := by
  rcases h with ⟨rfl, rfl⟩ | ⟨f, rfl, rfl⟩
  · cases e
    exact k H F io (Stp.refl g.sub) g
  · refine ⟨B, F, io, st, rh, g, ?_⟩
    unfold cTest at e
    simp only at e
    cases hr : f rh st with
    | no => rw [hr] at e; cases e
    | ex x s => rw [hr] at e; cases e
    | ok t s =>
      rw [hr] at e
      cases t with
      | d d =>
        cases d with
        | bl b' =>
          cases e
          intro v H' F' io' S s' T
          cases T
          exact ⟨_, rfl, k H' F' io' S (g.step S s')⟩
        | _ => cases e
      | _ => cases e
theorem elt_of {fe : Sm} (g : Good c B F io st rh σ H) {d : D} {st1 : Sto} (e : cElt fe rh st = .ok d st1) {Q : VK}
    (k : ∀ v H' F' io', Stp c F io H F' io' H' → Sim c F' io' st1 → Rv c F' io' v d → Q v H') : den c W0 fe σ H Q := by
  refine ⟨B, F, io, st, rh, g, ?_⟩
  unfold cElt at e
  cases hr : fe rh st with
  | no => rw [hr] at e; cases e
  | ex x s => rw [hr] at e; cases e
  | ok t s =>
    rw [hr] at e
    simp only at e
    intro v H' F' io' S s' T
    cases ht : toDv t with
    | none => rw [ht] at e; cases e
    | some d' =>
      rw [ht] at e
      cases e
      obtain ⟨F2, S2, s2, r2⟩ := Tvs.give S s' T ht
      exact k v H' F2 io' S2 s2 r2
theorem comp_of {vs : List Nat} {tg : Tg} {fi : Im} {fc : Option Sm} {fe : Sm} {g : TG} {tt : TT} (hg : TgOk c tg g) (ht : CtOk c fc tt) (hsl : ∀ i ∈ tg.slots, i ∈ vs) {σ : St} {H : Hp} {Q : VK} (h : den c W (eComp vs tg fi fc fe) σ H Q) :
    tLc (denI c W (YldS c) fi) g tt (den c W0 fe) vs σ H Q := by
  obtain ⟨B, F, io, st, rh, g0, p⟩ := h
  refine ⟨B, F, io, st, rh, g0, ?_⟩
  unfold eComp at p
  cases hr : fi rh st with
  | no => rw [hr] at p; exact p.elim
  | ex x s => rw [hr] at p; exact p
  | ok ds st1 =>
    rw [hr] at p
    have p : Pst c W F io rh σ H Q (if ds.length ≤ sizeLine then (cLoop tg fc fe (wipeR rh vs) ds st1).bind fun ys st2 => .ok (.fr ys) st2 else .no) := p
    split at p
    case isFalse => exact p.elim
    rename_i hsz
    intro J H1 F1 io1 S1 s1 Y D hD
    have g1 := g0.step S1 s1
    obtain ⟨fD, nD, bD⟩ := g1.fresh hD
    have hD0 : H D = none := S1.gro D hD
    refine ⟨fun i m H' => m = ds.length - i ∧ i ≤ ds.length ∧ ∃ (F' : Hp) (io' : List Addr) (st' : Sto) (accD : List KL.D) (accV : List V), Stp c F1 io1 H1 F' io' H' ∧ Sim c F' io' st' ∧ H' D = some (.lst accV) ∧ F' D = none ∧ RvAll c F' io' accV accD ∧ accD.length ≤ i ∧
      Pst c W F io rh σ H Q ((cLoop tg fc fe (wipeR rh vs) (ds.drop i) st').bind fun ys st2 => .ok (.fr (accD ++ ys)) st2), ⟨ds.length, by simp, Nat.zero_le _, F1, io1, st1, [], [], Stp.lay g1.sub hD, s1, upd_same, fD, .nil, Nat.le_refl _, by simpa using p⟩, ?_⟩
    rintro i m H' ⟨rfl, hi, F', io', st', accD, accV, S', s', hD', fD', rA, hlen, p'⟩
    have S0 : Stp c F io H F' io' H' := S1.trans g0.sub S'
    have g' := g0.step S0 s'
    have yc := Y F' io' H' st' S' s'
    by_cases hlt : i < ds.length
    · have hdrop : ds.drop i = ds[i] :: ds.drop (i + 1) := List.drop_eq_getElem_cons hlt
      obtain ⟨go, yl⟩ := yc.1 i ds[i] (by simp [hlt])
      refine .inr ⟨go, fun H2 => ∃ (F' : Hp) (io' : List Addr) (st' : Sto) (accD : List KL.D) (accV : List V), Stp c F1 io1 H1 F' io' H2 ∧ Sim c F' io' st' ∧ H2 D = some (.lst accV) ∧ F' D = none ∧ RvAll c F' io' accV accD ∧ accD.length ≤ i + 1 ∧
        Pst c W F io rh σ H Q ((cLoop tg fc fe (wipeR rh vs) (ds.drop (i + 1)) st').bind fun ys st2 => .ok (.fr (accD ++ ys)) st2), fun H2 q => ⟨ds.length - (i + 1), by omega, rfl, hlt, q⟩, fun x H2 hy => ?_⟩
      obtain ⟨F2, S2, k2, rx⟩ := yl x H2 hy
      have s2 : Sim c F2 io' st' := s'.step S2 g'.sub rfl k2
      have g2 := g'.step S2 s2
      have hD2 : H2 D = some (.lst accV) := S2.frL D _ hD' (fun z => s'.dom z fD')
      have fD2 : F2 D = none := S2.out hD' fD'
      have rA2 := rA.step S2 g'.sub
      rw [hdrop] at p'
      unfold cLoop at p'
      rw [R.assoc] at p'
      cases hts : tgSet tg ds[i] (wipeR rh vs) with
      | none => rw [hts] at p'; exact p'.elim
      | some rh2 =>
        rw [hts] at p'
        have p' : Pst c W F io rh σ H Q (((cTest fc rh2 st').bind fun b st1 => match b with
          | true => (cElt fe rh2 st1).bind fun y st2 => (cLoop tg fc fe (wipeR rh vs) (ds.drop (i + 1)) st2).bind fun ys st3 => .ok (y :: ys) st3
          | false => cLoop tg fc fe (wipeR rh vs) (ds.drop (i + 1)) st1).bind fun ys st2 => .ok (.fr (accD ++ ys)) st2) := p'
        refine hg (g2.wipe vs) rx hts fun σ2 g3 e1 e2 => ⟨wipe_eq hsl e1 e2, ?_⟩
        rw [R.assoc] at p'
        cases htt : cTest fc rh2 st' with
        | no => rw [htt] at p'; exact p'.elim
        | ex x s =>
          exfalso
          unfold cTest at htt
          cases fc with
          | none => cases htt
          | some f =>
            simp only at htt
            cases hq : f rh2 st' with
            | no => rw [hq] at htt; cases htt
            | ex x s => rw [hq] at htt; cases htt
            | ok t s =>
              rw [hq] at htt
              cases t with
              | d d => cases d <;> cases htt
              | _ => cases htt
        | ok b st3 =>
          rw [htt] at p'
          refine test_of ht g3 htt fun H3 F3 io3 S3 g4 => ?_
          have hD3 : H3 D = some (.lst accV) := S3.frL D _ hD2 (fun z => s2.dom z fD2)
          have fD3 : F3 D = none := S3.out hD2 fD2
          have S13 : Stp c F1 io1 H1 F3 io3 H3 := (S'.trans g1.sub S2).trans g1.sub S3
          cases b with
          | false => exact iteF ⟨F3, io3, st3, accD, accV, S13, g4.sim, hD3, fD3, rA2.step S3 g3.sub, Nat.le_succ_of_le hlen, p'⟩
          | true =>
            refine iteT ?_
            have p' : Pst c W F io rh σ H Q (((cElt fe rh2 st3).bind fun y st2 => (cLoop tg fc fe (wipeR rh vs) (ds.drop (i + 1)) st2).bind fun ys st3 => .ok (y :: ys) st3).bind fun ys st2 => .ok (.fr (accD ++ ys)) st2) := p'
            rw [R.assoc] at p'
            cases hel : cElt fe rh2 st3 with
            | no => rw [hel] at p'; exact p'.elim
            | ex x s =>
              exfalso
              unfold cElt at hel
              cases hq : fe rh2 st3 with
              | no => rw [hq] at hel; cases hel
              | ex x s => rw [hq] at hel; cases hel
              | ok t s =>
                rw [hq] at hel
                simp only at hel
                cases ht : toDv t with
                | none => rw [ht] at hel; cases hel
                | some d' => rw [ht] at hel; cases hel
            | ok y st4 =>
              rw [hel] at p'
              refine elt_of g4 hel fun v H4 F4 io4 S4 s4 rv => ?_
              have hD4 : H4 D = some (.lst accV) := S4.frL D _ hD3 (fun z => g4.sim.dom z fD3)
              have fD4 : F4 D = none := S4.out hD3 fD3
              have S14 : Stp c F1 io1 H1 F4 io4 H4 := S13.trans g1.sub S4
              refine ⟨accV, hD4, ?_, F4, io4, st4, accD ++ [y], accV ++ [v], S14.chg _ hD fD4 ⟨_, hD4⟩, s4, upd_same, fD4, ((rA2.step S3 g3.sub).step S4 g4.sub).append (.cons rv .nil), by rw [List.length_append]; simpa using hlen, ?_⟩
              · rw [rA.length]
                exact Nat.lt_of_le_of_lt hlen (Nat.lt_of_lt_of_le hlt hsz)
              · have p' : Pst c W F io rh σ H Q (((cLoop tg fc fe (wipeR rh vs) (ds.drop (i + 1)) st4).bind fun ys st3 => .ok (y :: ys) st3).bind fun ys st2 => .ok (.fr (accD ++ ys)) st2) := p'
                rw [R.assoc] at p'
                have e : (fun (ys : List KL.D) (st2 : Sto) => (R.ok (TV.fr ((accD ++ [y]) ++ ys)) st2 : R TV)) = fun ys st2 => (R.ok (y :: ys) st2 : R (List KL.D)).bind fun ys st2 => .ok (.fr (accD ++ ys)) st2 := by
                  funext ys st2
                  show R.ok _ _ = R.ok _ _
                  rw [List.append_assoc]
                  rfl
                rw [e]
                exact p'
    · have e : i = ds.length := by omega
      subst e
      refine .inl ⟨yc.2, ?_⟩
      rw [List.drop_length] at p'
      have p' : Pst c W F io rh σ H Q (.ok (.fr (accD ++ [])) st') := p'
      rw [List.append_nil] at p'
      exact p' (.ref D) H' F' io' S0 s' ⟨D, accV, rfl, hD0, hD', fD', rA⟩
theorem pe_den_comp (C : Cok X c W) {elt tgE iter : Expr} {ifs : List Expr} {scope : Scope} {own : List (Str × Nat)} {pos : Pos} {tg : Tg} {fi : Im} {fc : Option Sm} {fe : Sm} {g : TG} {tt : TT} (hi : PI X tgE iter (denI c W (YldS c) fi)) (ok : BlkOk X.N X.env.scope scope own)
    (hg : ∀ (s : Shared) (H : Hp) (C : Addr) (cl : List (Str × Addr)) (fp : List Addr), PG (X.blk s H scope (compEnvC scope cl C X.env) fp) tgE g) (hgo : TgOk c tg g)
    (ht : ∀ (s : Shared) (H : Hp) (C : Addr) (cl : List (Str × Addr)) (fp : List Addr), PTs (X.blk s H scope (compEnvC scope cl C X.env) fp) ifs tt) (hto : CtOk c fc tt)
    (he : ∀ (s : Shared) (H : Hp) (C : Addr) (cl : List (Str × Addr)) (fp : List Addr), PE (X.blk s H scope (compEnvC scope cl C X.env) fp) elt (den c W0 fe)) (hs : ∀ x, foldedSetIterable iter X.env x = pure x) (hsl : ∀ i ∈ tg.slots, i ∈ own.map (·.2)) :
    PE X (.ListComp elt [⟨tgE, iter, ifs, 0⟩] scope pos) (den c W (eComp (own.map (·.2)) tg fi fc fe)) :=
  PE.weak (pe_lc C.calm C.nd hi ok hg ht he hs) fun σ H Q h => comp_of hgo hto hsl h
end
end KL

namespace KL
open PySem L2

/-! ### statements -/
inductive RS where
  | nx (rh : Rho) (st : Sto) | rt (d : D) (st : Sto) | bk (rh : Rho) (st : Sto) | ct (rh : Rho) (st : Sto) | ex (c : Str) (rh : Rho) (st : Sto) | no
abbrev Ss := Rho → Sto → RS
def Pss (c : Ct) (W : WX) (B : Bs) (F : Hp) (io : List Addr) (D : Ends) : RS → Prop
  | .nx rh st => ∀ σ' H' F' io', Per F io F' io' → Good c B F' io' st rh σ' H' → D.nx σ' H'
  | .rt d st => ∀ v H' F' io', Stp c B.F B.io B.H F' io' H' → Sim c F' io' st → Rv c F' io' v d → D.rt v H'
  | .bk rh st => ∀ σ' H' F' io', Per F io F' io' → Good c B F' io' st rh σ' H' → D.bk σ' H'
  | .ct rh st => ∀ σ' H' F' io', Per F io F' io' → Good c B F' io' st rh σ' H' → D.ct σ' H'
  | .ex e rh st => ∀ σ' H' F' io', Per F io F' io' → Good c B F' io' st rh σ' H' → W (c.xc e) none σ' H'
  | .no => False
def denS (c : Ct) (W : WX) (f : Ss) : TS := fun D σ H => ∃ B F io st rh, Good c B F io st rh σ H ∧ Pss c W B F io D (f rh st)
theorem PS.weak {X : Cx} {st : Stmt} {t t' : TS} (h : PS X st t) (hw : ∀ D σ H, t' D σ H → t D σ H) : PS X st t' := ⟨fun pins s σ H D I q => h.run pins s σ H D I (hw D σ H q)⟩
theorem PSs.weak {X : Cx} {st : List Stmt} {t t' : TS} (h : PSs X st t) (hw : ∀ D σ H, t' D σ H → t D σ H) : PSs X st t' := ⟨fun pins s σ H D I q => h.run pins s σ H D I (hw D σ H q)⟩
section
variable {X : Cx} {c : Ct} {W : WX} {B : Bs} {F F' F1 F2 H H' H1 : Hp} {io io' io1 io2 : List Addr} {st st' st1 : Sto} {rh : Rho} {σ : St} {v : V} {t : TV} {d : D}
theorem Per.refl : Per F io F io := ⟨⟨[], by simp⟩, fun _ _ h _ => h, fun _ _ _ h => h⟩
theorem Per.trans (a : Per F io F1 io1) (b : Per F1 io1 F2 io2) : Per F io F2 io2 := by
  refine ⟨?_, fun x o h n => b.per x o (a.per x o h n) (a.nin x o h n), fun x o h n => b.nin x o (a.per x o h n) (a.nin x o h n)⟩
  obtain ⟨m1, e1⟩ := a.ext
  obtain ⟨m2, e2⟩ := b.ext
  exact ⟨m1 ++ m2, by rw [e2, e1, List.append_assoc]⟩
theorem Pss.per {D : Ends} {r : RS} (S : Per F io F1 io1) (h : Pss c W B F io D r) : Pss c W B F1 io1 D r := by
  cases r with
  | nx rh st => exact fun σ' H' F' io' S' g => h σ' H' F' io' (S.trans S') g
  | rt d st => exact h
  | bk rh st => exact fun σ' H' F' io' S' g => h σ' H' F' io' (S.trans S') g
  | ct rh st => exact fun σ' H' F' io' S' g => h σ' H' F' io' (S.trans S') g
  | ex e rh st => exact fun σ' H' F' io' S' g => h σ' H' F' io' (S.trans S') g
  | no => exact h
/-- an expression, then a statement's rest -/
def sThen (fe : Sm) (k : TV → Sto → Rho → RS) : Ss := fun rh st => match fe rh st with
  | .ok t st1 => k t st1 rh
  | .ex e st1 => .ex e rh st1
  | .no => .no
theorem then_of {fe : Sm} {k : TV → Sto → Rho → RS} {D : Ends} {Q : VK} (g : Good c B F io st rh σ H) (h : Pss c W B F io D (sThen fe k rh st))
    (hk : ∀ t st1 v H1 F1 io1, Stp c F io H F1 io1 H1 → Good c B F1 io1 st1 rh σ H1 → Sim c F1 io1 st1 → Tvs c H F1 io1 rh σ H1 v t → Pss c W B F io D (k t st1 rh) → Q v H1) : den c W fe σ H Q := by
  refine ⟨B, F, io, st, rh, g, ?_⟩
  unfold sThen at h
  cases hr : fe rh st with
  | no => rw [hr] at h; exact h.elim
  | ex x s => rw [hr] at h; exact fun H' F' io' S s' => h σ H' F' io' (S.perm g.sub) (g.step S s')
  | ok t s => rw [hr] at h; exact fun v H' F' io' S s' T => hk t s v H' F' io' S (g.step S s') s' T h
/-- name = e -/
def asg (own : Bool) (i : Nat) (t : TV) (st : Sto) (rh : Rho) : RS := match t with
  | .d d => .nx (rh.set i (some (.val d))) st
  | .fr ds => (match own with
    | true => .nx (rh.set i (some (.own ds))) st
    | false => .nx (rh.set i (some (.val (.lst ds)))) st)
  | .o _ => .no
def sAsg (own : Bool) (i : Nat) (fe : Sm) : Ss := sThen fe (asg own i)
theorem Good.setOwn (g : Good c B F io st rh σ H) (S : Stp c F io H F' io' H') (s' : Sim c F' io' st') {p : Addr} {vs : List V} {ds : List D} (h0 : H p = none) (h1 : H' p = some (.lst vs)) (h2 : F' p = none) (r : RvAll c F' io' vs ds) (i : Nat) :
    Good c B F' io' st' (rh.set i (some (.own ds))) (σ.set i (some (.ref p))) H' := by
  have g' := g.step S s'
  have old : ∀ {m : Nat} {us : List D}, (rh.set i (some (.own ds)))[m]? = some (some (.own us)) → i ≠ m → rh[m]? = some (some (.own us)) := by
    intro m us hm z
    rw [List.getElem?_set_ne z] at hm
    exact hm
  have far : ∀ {m : Nat} {us : List D}, rh[m]? = some (some (.own us)) → σ[m]? ≠ some (some (.ref p)) := by
    intro m us hm e
    obtain ⟨a, ws, e1, e2, _⟩ := g.own m us hm
    rw [e] at e1
    cases e1
    rw [h0] at e2; cases e2
  refine ⟨g'.bsub, g'.btab, g'.bnt, by rw [List.length_set, List.length_set]; exact g.len, g'.stp, s', fun j e hj => ?_, fun j us hj => ?_, fun j k us ws w hj hk e1 e2 => ?_, fun j t us hj => by
    by_cases z : i = j
    · subst z
      rw [List.getElem?_set, if_pos rfl] at hj
      split at hj <;> cases hj
    · rw [List.getElem?_set_ne z] at hj ⊢
      exact g'.clo j t us hj⟩
  · by_cases z : i = j
    · subst z
      rw [List.getElem?_set, if_pos rfl] at hj
      split at hj <;> cases hj
    · rw [List.getElem?_set_ne z] at hj ⊢
      exact g'.val j e hj
  · by_cases z : i = j
    · subst z
      rw [List.getElem?_set, if_pos rfl] at hj
      split at hj
      · rename_i hl
        cases hj
        refine ⟨p, vs, ?_, h1, h2, g.stp.gro p h0, r⟩
        rw [List.getElem?_set, if_pos rfl, if_pos (by rw [← g.len]; exact hl)]
      · cases hj
    · rw [List.getElem?_set_ne z] at hj ⊢
      exact g'.own j us hj
  · by_cases z1 : i = j
    · by_cases z2 : i = k
      · exact z1.symm.trans z2
      · exfalso
        subst z1
        rw [List.getElem?_set_ne z2] at e2
        have hk' := old hk z2
        have : w = .ref p := by
          rw [List.getElem?_set, if_pos rfl] at e1
          split at e1
          · exact (Option.some.inj (Option.some.inj e1)).symm
          · cases e1
        rw [this] at e2
        exact far hk' e2
    · by_cases z2 : i = k
      · exfalso
        subst z2
        rw [List.getElem?_set_ne z1] at e1
        have hj' := old hj z1
        have : w = .ref p := by
          rw [List.getElem?_set, if_pos rfl] at e2
          split at e2
          · exact (Option.some.inj (Option.some.inj e2)).symm
          · cases e2
        rw [this] at e1
        exact far hj' e1
      · rw [List.getElem?_set_ne z1] at e1
        rw [List.getElem?_set_ne z2] at e2
        exact g.dis j k us ws w (old hj z1) (old hk z2) e1 e2
theorem asg_of {own : Bool} {i : Nat} {fe : Sm} {D : Ends} {σ : St} {H : Hp} (h : denS c W (sAsg own i fe) D σ H) : tAsg (den c W fe) (gName i) D σ H := by
  obtain ⟨B, F, io, st, rh, g, p⟩ := h
  refine then_of g p fun t st1 v H1 F1 io1 S g1 s1 T q => ?_
  cases t with
  | d d => exact q _ H1 F1 io1 (S.perm g.sub) (g1.set T i)
  | o j => exact q.elim
  | fr ds =>
    cases own with
    | true =>
      obtain ⟨a, vs, rfl, h0, h1, h2, r⟩ := T
      exact q _ H1 F1 io1 (S.perm g.sub) (g.setOwn S s1 h0 h1 h2 r i)
    | false =>
      obtain ⟨F2, S2, s2, r2⟩ := Tvs.give S s1 T rfl
      exact q _ H1 F2 io1 (S2.perm g.sub) ((g.step S2 s2).set r2 i)
/-- return e -/
def ret (t : TV) (st : Sto) (rh : Rho) : RS := match t with
  | .d d => .rt d st
  | .fr ds => .rt (.lst ds) st
  | .o i => (match rh[i]? with
    | some (some (.own ds)) => .rt (.lst ds) st
    | _ => .no)
def sRet (fe : Sm) : Ss := sThen fe ret
theorem ret_of {fe : Sm} {D : Ends} {σ : St} {H : Hp} (h : denS c W (sRet fe) D σ H) : tRet (den c W fe) D σ H := by
  obtain ⟨B, F, io, st, rh, g, p⟩ := h
  refine then_of g p fun t st1 v H1 F1 io1 S g1 s1 T q => ?_
  cases t with
  | d d => exact q v H1 F1 io1 g1.stp s1 T
  | fr ds =>
    obtain ⟨F2, S2, s2, r2⟩ := Tvs.give S s1 T rfl
    exact q v H1 F2 io1 (g.step S2 s2).stp s2 r2
  | o i =>
    obtain ⟨⟨ds, e1⟩, e2⟩ := T
    simp only [ret, e1] at q
    obtain ⟨a, vs, e3, e4, e5, e6, r⟩ := g1.own i ds e1
    rw [e2] at e3
    cases e3
    refine q (.ref a) H1 (upd F1 a (.lst vs)) io1 (g1.stp.lean e6 e4 e5) (s1.more (upd_more e5)) (.lst upd_same (fun z => s1.dom z e5) (r.more (upd_more e5)))
def sRetN : Ss := fun _ st => .rt .non st
theorem retN_of {D : Ends} {σ : St} {H : Hp} (h : denS c W sRetN D σ H) : tRetN D σ H := by
  obtain ⟨B, F, io, st, rh, g, p⟩ := h
  exact p .non H F io g.stp g.sim .non
def sNil : Ss := fun rh st => .nx rh st
theorem nil_of {D : Ends} {σ : St} {H : Hp} (h : denS c W sNil D σ H) : tNext D σ H := by
  obtain ⟨B, F, io, st, rh, g, p⟩ := h
  exact p σ H F io Per.refl g
def sSeq (f k : Ss) : Ss := fun rh st => match f rh st with
  | .nx rh' st' => k rh' st'
  | r => r
theorem seq_of {f k : Ss} {D : Ends} {σ : St} {H : Hp} (h : denS c W (sSeq f k) D σ H) : tSeq (denS c W f) (denS c W k) D σ H := by
  obtain ⟨B, F, io, st, rh, g, p⟩ := h
  refine ⟨B, F, io, st, rh, g, ?_⟩
  unfold sSeq at p
  cases hr : f rh st with
  | nx rh' st' =>
    rw [hr] at p
    exact fun σ' H' F' io' S g' => ⟨B, F', io', st', rh', g', Pss.per (r := k rh' st') S p⟩
  | rt d s => rw [hr] at p; exact p
  | bk rh' s => rw [hr] at p; exact p
  | ct rh' s => rw [hr] at p; exact p
  | ex e rh' s => rw [hr] at p; exact p
  | no => rw [hr] at p; exact p
def sExpr (fe : Sm) : Ss := sThen fe fun _ st rh => .nx rh st
theorem expr_of {fe : Sm} {D : Ends} {σ : St} {H : Hp} (h : denS c W (sExpr fe) D σ H) : tDrop (den c W fe) D σ H := by
  obtain ⟨B, F, io, st, rh, g, p⟩ := h
  exact then_of g p fun t st1 v H1 F1 io1 S g1 s1 T q => q σ H1 F1 io1 (S.perm g.sub) g1
def sIf (fc : Sm) (f k : Ss) : Ss := sThen fc fun t st rh => match t with
  | .d (.bl true) => f rh st
  | .d (.bl false) => k rh st
  | _ => .no
theorem if_of {fc : Sm} {f k : Ss} {D : Ends} {σ : St} {H : Hp} (h : denS c W (sIf fc f k) D σ H) : tIfS (denT c W fc) (denS c W f) (denS c W k) D σ H := by
  obtain ⟨B, F, io, st, rh, g, p⟩ := h
  refine then_of g p fun t st1 v H1 F1 io1 S g1 s1 T q => ?_
  cases t with
  | d d =>
    cases d with
    | bl b =>
      cases T
      refine ⟨b, rfl, ?_⟩
      cases b with
      | true => exact iteT ⟨B, F1, io1, st1, rh, g1, Pss.per (r := f rh st1) (S.perm g.sub) q⟩
      | false => exact iteF ⟨B, F1, io1, st1, rh, g1, Pss.per (r := k rh st1) (S.perm g.sub) q⟩
    | _ => exact q.elim
  | _ => exact q.elim
def sBrk : Ss := fun rh st => .bk rh st
theorem brk_of {D : Ends} {σ : St} {H : Hp} (h : denS c W sBrk D σ H) : tBreak D σ H := by
  obtain ⟨B, F, io, st, rh, g, p⟩ := h
  exact p σ H F io Per.refl g
/-- a, b = e1, e2 of two local names -/
def sPar (i j : Nat) (fs : List Sm) : Ss := fun rh st => match eArgs fs rh st with
  | .ok [d, e] st1 => .nx ((rh.set i (some (.val d))).set j (some (.val e))) st1
  | .ok _ _ => .no
  | .ex x st1 => .ex x rh st1
  | .no => .no
theorem par_of {i j : Nat} {fs : List Sm} {D : Ends} {σ : St} {H : Hp} (h : denS c W (sPar i j fs) D σ H) : tPar i j (denA c W fs) D σ H := by
  obtain ⟨B, F, io, st, rh, g, p⟩ := h
  refine ⟨B, F, io, st, rh, g, ?_⟩
  unfold sPar at p
  cases hr : eArgs fs rh st with
  | no => rw [hr] at p; exact p.elim
  | ex x s => rw [hr] at p; exact fun H' F' io' S s' => p σ H' F' io' (S.perm g.sub) (g.step S s')
  | ok ds s =>
    rw [hr] at p
    intro vs H' F' io' S s' T
    cases T with
    | nil => exact p.elim
    | cons h1 T =>
      cases T with
      | nil => exact p.elim
      | cons h2 T =>
        cases T with
        | nil => exact ⟨_, _, rfl, p _ H' F' io' (S.perm g.sub) (((g.step S s').set h1 i).set h2 j)⟩
        | cons _ _ => exact p.elim
/-- (a, b, ..) = e -/
def sUnp (is : List Nat) (fe : Sm) : Ss := sThen fe fun t st rh => match toDv t with
  | some d => (match tgSet (.tup is) d rh with
    | some rh' => .nx rh' st
    | none => .no)
  | none => .no
theorem unp_of {K : PySem.W.Frag} (hK : K = c.K) {is : List Nat} {fe : Sm} {D : Ends} {σ : St} {H : Hp} (h : denS c W (sUnp is fe) D σ H) : tAsg (den c W fe) (gTup K is.length (gNames is)) D σ H := by
  obtain ⟨B, F, io, st, rh, g, p⟩ := h
  refine then_of g p fun t st1 v H1 F1 io1 S g1 s1 T q => ?_
  cases ht : toDv t with
  | none => simp only [ht] at q; exact q.elim
  | some d =>
    simp only [ht] at q
    cases hs : tgSet (.tup is) d rh with
    | none => rw [hs] at q; exact q.elim
    | some rh' =>
      rw [hs] at q
      obtain ⟨F2, S2, s2, r2⟩ := Tvs.give S s1 T ht
      exact tg_tup hK is (g.step S2 s2) r2 hs fun σ' g' _ _ => q σ' H1 F2 io1 (S2.perm g.sub) g'
/-- for tg in ..: body -/
def sLoop (tg : Tg) (body : Ss) : List D → Ss
  | [], rh, st => .nx rh st
  | d :: ds, rh, st => match tgSet tg d rh with
    | none => .no
    | some rh1 => (match body rh1 st with
      | .nx rh2 st2 => sLoop tg body ds rh2 st2
      | .ct rh2 st2 => sLoop tg body ds rh2 st2
      | .bk rh2 st2 => .nx rh2 st2
      | r => r)
def sFor (tg : Tg) (fi : Im) (body : Ss) : Ss := fun rh st => match fi rh st with
  | .ok ds st1 => sLoop tg body ds rh st1
  | .ex x st1 => .ex x rh st1
  | .no => .no
theorem for_of {tg : Tg} {fi : Im} {body : Ss} {g : TG} (hg : TgOk c tg g) {D : Ends} {σ : St} {H : Hp} (h : denS c W (sFor tg fi body) D σ H) : tFor (denI c W (YldP c) fi) g (denS c W body) D σ H := by
  obtain ⟨B, F, io, st, rh, g0, p⟩ := h
  refine ⟨B, F, io, st, rh, g0, ?_⟩
  unfold sFor at p
  cases hr : fi rh st with
  | no => rw [hr] at p; exact p.elim
  | ex x s => rw [hr] at p; exact fun H' F' io' S s' => p σ H' F' io' (S.perm g0.sub) (g0.step S s')
  | ok ds st1 =>
    rw [hr] at p
    intro J H1 F1 io1 S1 s1 Y
    have g1 := g0.step S1 s1
    refine ⟨fun i m σ' H' => m = ds.length - i ∧ i ≤ ds.length ∧ ∃ (F' : Hp) (io' : List Addr) (st' : Sto) (rh' : Rho), Good c B F' io' st' rh' σ' H' ∧ Per F1 io1 F' io' ∧ Pss c W B F' io' D (sLoop tg body (ds.drop i) rh' st'),
      ⟨ds.length, by simp, Nat.zero_le _, F1, io1, st1, rh, g1, Per.refl, Pss.per (r := sLoop tg body (ds.drop 0) rh st1) (S1.perm g0.sub) p⟩, ?_⟩
    rintro i m σ' H' ⟨rfl, hi, F', io', st', rh', g', P', p'⟩
    have yc := Y F' io' H' st' P' g'.sub g'.sim
    by_cases hlt : i < ds.length
    · have hdrop : ds.drop i = ds[i] :: ds.drop (i + 1) := List.drop_eq_getElem_cons hlt
      obtain ⟨go, yl⟩ := yc.1 i ds[i] (by simp [hlt])
      refine .inr ⟨go, fun σ2 H2 => ∃ (F' : Hp) (io' : List Addr) (st' : Sto) (rh' : Rho), Good c B F' io' st' rh' σ2 H2 ∧ Per F1 io1 F' io' ∧ Pss c W B F' io' D (sLoop tg body (ds.drop (i + 1)) rh' st'), fun σ2 H2 q => ⟨ds.length - (i + 1), by omega, rfl, hlt, q⟩, fun x H2 hy => ?_⟩
      obtain ⟨F2, S2, k2, rx⟩ := yl x H2 hy
      have s2 : Sim c F2 io' st' := g'.sim.step S2 g'.sub rfl k2
      have g2 := g'.step S2 s2
      rw [hdrop] at p'
      unfold sLoop at p'
      cases hts : tgSet tg ds[i] rh' with
      | none => rw [hts] at p'; exact p'.elim
      | some rh2 =>
        rw [hts] at p'
        refine hg g2 rx hts fun σ2 g3 e1 e2 => ⟨B, F2, io', st', rh2, g3, ?_⟩
        have P2 : Per F1 io1 F2 io' := P'.trans (S2.perm g'.sub)
        have p' : Pss c W B F' io' D (match body rh2 st' with
          | .nx rh2 st2 => sLoop tg body (ds.drop (i + 1)) rh2 st2
          | .ct rh2 st2 => sLoop tg body (ds.drop (i + 1)) rh2 st2
          | .bk rh2 st2 => .nx rh2 st2
          | r => r) := p'
        cases hb : body rh2 st' with
        | nx rh3 st3 =>
          rw [hb] at p'
          exact fun σ3 H3 F3 io3 P3 g4 => ⟨F3, io3, st3, rh3, g4, P2.trans P3, Pss.per (r := sLoop tg body (ds.drop (i + 1)) rh3 st3) ((S2.perm g'.sub).trans P3) p'⟩
        | ct rh3 st3 =>
          rw [hb] at p'
          exact fun σ3 H3 F3 io3 P3 g4 => ⟨F3, io3, st3, rh3, g4, P2.trans P3, Pss.per (r := sLoop tg body (ds.drop (i + 1)) rh3 st3) ((S2.perm g'.sub).trans P3) p'⟩
        | bk rh3 st3 =>
          rw [hb] at p'
          exact fun σ3 H3 F3 io3 P3 g4 => p' σ3 H3 F3 io3 ((S2.perm g'.sub).trans P3) g4
        | rt d s => rw [hb] at p'; exact p'
        | ex e rh3 s => rw [hb] at p'; exact Pss.per (r := .ex e rh3 s) (S2.perm g'.sub) p'
        | no => rw [hb] at p'; exact p'
    · have e : i = ds.length := by omega
      subst e
      rw [List.drop_length] at p'
      exact .inl ⟨yc.2, p' σ' H' F' io' Per.refl g'⟩
end
end KL

namespace KL
open PySem L2

/-! ### what a loop walks -/
def iOneP (f : D → Option (List D)) (fa : Sm) : Im := fun rh st => (fa rh st).bind fun t st1 => if notLoc t then oR ((toDv t).bind f) st1 else .no
section
variable {X : Cx} {c : Ct} {W : WX} {tg a b e : Expr} {fa fb : Sm} {pos p : Pos} {B : Bs} {F F1 H H1 : Hp} {io io1 : List Addr} {st st1 : Sto} {rh : Rho} {σ : St} {w : V} {t u : TV} {d d' : D} {ds es : List D}
theorem iOneP_cases {f : D → Option (List D)} {Y : Yl} {Q : It → Hp → Prop} (h : PstI c W F io σ H Y Q (iOneP f fa rh st)) :
    (∃ e s, fa rh st = .ex e s ∧ PstI c W F io σ H Y Q (.ex e s)) ∨ ∃ t st1 d ds, fa rh st = .ok t st1 ∧ toDv t = some d ∧ f d = some ds ∧ PstI c W F io σ H Y Q (.ok ds st1) := by
  unfold iOneP at h
  cases hr : fa rh st with
  | no => rw [hr] at h; exact h.elim
  | ex x s => rw [hr] at h; exact .inl ⟨x, s, rfl, h⟩
  | ok t st1 =>
    rw [hr] at h
    have h : PstI c W F io σ H Y Q (if notLoc t = true then oR ((toDv t).bind f) st1 else .no) := h
    cases hn : notLoc t with
    | false => rw [hn] at h; exact h.elim
    | true =>
      rw [hn, if_pos rfl] at h
      cases hv : toDv t with
      | none => rw [hv] at h; exact h.elim
      | some d =>
        rw [hv] at h
        have h : PstI c W F io σ H Y Q (oR (f d) st1) := h
        cases hf : f d with
        | none => rw [hf] at h; exact h.elim
        | some ds => rw [hf] at h; exact .inr ⟨t, st1, d, ds, rfl, hv, hf, h⟩
theorem pi_seqP (hK : X.K = c.K) (ha : PE X a (den c W fa)) : PI X tg a (denI c W (YldP c) (iOneP itemsD fa)) := by
  refine PI.weak (PI.or (PI.or (pi_tup ha) (pi_list ha)) (pi_str ha)) fun σ H Q ⟨B, F, io, st, rh, g, h⟩ => ?_
  rcases iOneP_cases h with ⟨x, s, hr, h⟩ | ⟨t, st1, d, ds, hr, hv, hf, h⟩
  · exact .inr (den_ex g hr h)
  · have key : ∀ w H' F' io', Stp c F io H F' io' H' → Sim c F' io' st1 → Tvs c H F' io' rh σ H' w t → ∃ s : Src, w = s.val ∧ s.at c.K H' ∧ s.of ds d ∧ Q (s.J c.K) H' := by
      intro w H' F' io' S s' T
      obtain ⟨F2, S2, s2, r2⟩ := Tvs.give S s' T hv
      obtain ⟨s, e1, e2, e3⟩ := src_rv r2 hf
      exact ⟨s, e1, (e2 F2 io' H' ⟨Per.refl, S2.sub⟩).1, e3, h _ H' F2 io' S2 s2 fun F3 io3 H3 st3 P hs s3 => Src.yc hs (e2 F3 io3 H3 ⟨P, hs⟩)⟩
    cases d with
    | tup es =>
      refine .inl (.inl ⟨B, F, io, st, rh, g, by rw [hr]; intro w H' F' io' S s' T; obtain ⟨s, e1, e2, e3, q⟩ := key w H' F' io' S s' T; cases s with | tup a vs => exact ⟨a, e1, ⟨vs, by rw [hK]; exact e2⟩, by rw [hK]; exact q⟩ | lst a vs => cases e3 | str z => cases e3⟩)
    | lst es =>
      refine .inl (.inr ⟨B, F, io, st, rh, g, by rw [hr]; intro w H' F' io' S s' T; obtain ⟨s, e1, e2, e3, q⟩ := key w H' F' io' S s' T; cases s with | lst a vs => exact ⟨a, e1, ⟨vs, by rw [hK]; exact e2⟩, by rw [hK]; exact q⟩ | tup a vs => cases e3 | str z => cases e3⟩)
    | str z =>
      refine .inr ⟨B, F, io, st, rh, g, by rw [hr]; intro w H' F' io' S s' T; obtain ⟨s, e1, e2, e3, q⟩ := key w H' F' io' S s' T; cases s with | str z' => exact ⟨z', e1, q⟩ | tup a vs => cases e3 | lst a vs => cases e3⟩
    | _ => cases hf
theorem pi_enmP (hK : X.K = c.K) {elts : List Expr} {k : Nat} {tpos : Pos} (hg : Gl X "enumerate") (hm : X.mg "enumerate" = none) (ha : PE X a (den c W fa)) (hn : notStar a = true) :
    PI X (.Tuple elts k tpos) (.Call (.Name "enumerate" p) [a] [] pos) (denI c W (YldP c) (iOneP enmD fa)) := by
  have A1 : PA X [a] (tCons (den c W fa) tNil) := pa_cons ha pa_nil (star_cons hn)
  refine PI.weak (PI.or (pi_enum hg hm A1 (star_cons hn)) (pi_enumS hg hm A1 (star_cons hn))) fun σ H Q ⟨B, F, io, st, rh, g, h⟩ => ?_
  rcases iOneP_cases h with ⟨x, s, hr, h⟩ | ⟨t, st1, d, ds, hr, hv, hf, h⟩
  · exact .inr (den_ex g hr h)
  · obtain ⟨us, hi, rfl, hd⟩ := enm_items hf
    rcases hd with ⟨z, rfl⟩ | ⟨vs, rfl⟩
    · refine .inr ⟨B, F, io, st, rh, g, ?_⟩
      rw [hr]
      intro w H' F' io' S s' T
      obtain ⟨F2, S2, s2, r2⟩ := Tvs.give S s' T hv
      obtain ⟨s, e1, e2, e3⟩ := src_rv r2 hi
      cases s with
      | str z' => exact ⟨z', congrArg (fun q => [q]) e1, h _ H' F2 io' S2 s2 fun F3 io3 H3 st3 P hs s3 => (enm_of (hs := hs) s3 (e2 F3 io3 H3 ⟨P, hs⟩)).2 _ rfl⟩
      | tup a vs => cases e3
      | lst a vs => cases e3
    · refine .inl ⟨B, F, io, st, rh, g, ?_⟩
      rw [hr]
      intro w H' F' io' S s' T
      obtain ⟨F2, S2, s2, r2⟩ := Tvs.give S s' T hv
      obtain ⟨s, e1, e2, e3⟩ := src_rv r2 hi
      cases s with
      | lst a ws => exact ⟨a, ws, congrArg (fun q => [q]) e1, by rw [hK]; exact (e2 F2 io' H' ⟨Per.refl, S2.sub⟩).1, by rw [hK]; exact h _ H' F2 io' S2 s2 fun F3 io3 H3 st3 P hs s3 => (enm_of (hs := hs) s3 (e2 F3 io3 H3 ⟨P, hs⟩)).1 _ _ rfl⟩
      | tup a vs => cases e3
      | str z => cases e3
end

/-! ### lists that grow -/
section
variable {X : Cx} {c : Ct} {W : WX} {B : Bs} {F F' F1 F2 H H' H1 : Hp} {io io' io1 io2 : List Addr} {st st' st1 : Sto} {rh : Rho} {σ : St} {v : V} {t : TV} {d : D}
/-- the own list of a name has other items -/
theorem Good.chgOwn (g : Good c B F io st rh σ H) {i : Nat} {ds ds' : List D} {a : Addr} {vs' : List V} (hr : rh[i]? = some (some (.own ds))) (hs : σ[i]? = some (some (.ref a))) (r : RvAll c F io vs' ds') :
    Good c B F io st (rh.set i (some (.own ds'))) σ (upd H a (.lst vs')) := by
  obtain ⟨a', vs, e1, e2, e3, e4, _⟩ := g.own i ds hr
  rw [hs] at e1
  cases e1
  have hil : i < rh.length := (List.getElem?_eq_some_iff.mp hr).1
  refine ⟨g.bsub, g.btab, g.bnt, by rw [List.length_set]; exact g.len, g.stp.chg _ e4 e3 ⟨vs, e2⟩, g.sim, fun j e hj => ?_, fun j us hj => ?_, fun j k us ws w hj hk h1 h2 => ?_, fun j t us hj => by
    by_cases z : i = j
    · subst z
      rw [List.getElem?_set, if_pos rfl] at hj
      split at hj <;> cases hj
    · rw [List.getElem?_set_ne z] at hj
      exact g.clo j t us hj⟩
  · by_cases z : i = j
    · subst z
      rw [List.getElem?_set_self hil] at hj; cases hj
    · rw [List.getElem?_set_ne z] at hj
      exact g.val j e hj
  · by_cases z : i = j
    · subst z
      rw [List.getElem?_set_self hil] at hj
      cases hj
      exact ⟨a, vs', hs, upd_same, e3, e4, r⟩
    · rw [List.getElem?_set_ne z] at hj
      obtain ⟨b, ws, f1, f2, f3, f4, r'⟩ := g.own j us hj
      have hne : b ≠ a := fun q => by
        subst q
        exact z (g.dis i j ds us _ hr hj hs f1)
      exact ⟨b, ws, f1, by rw [upd_ne hne]; exact f2, f3, f4, r'⟩
  · have back : ∀ {m : Nat} {us : List D}, (rh.set i (some (.own ds')))[m]? = some (some (.own us)) → ∃ us', rh[m]? = some (some (.own us')) := by
      intro m us hm
      by_cases z : i = m
      · subst z; exact ⟨ds, hr⟩
      · rw [List.getElem?_set_ne z] at hm; exact ⟨us, hm⟩
    obtain ⟨us', hj'⟩ := back hj
    obtain ⟨ws', hk'⟩ := back hk
    exact g.dis j k us' ws' w hj' hk' h1 h2
/-- an object of the store is another one -/
theorem Per.upd {a : Addr} {o : HO} (h : a ∈ io) : Per F io (upd F a o) io := ⟨⟨[], by simp⟩, fun b u e n => by rw [upd_ne (fun z => by subst z; exact n h)]; exact e, fun _ _ _ n => n⟩
theorem RvF.perm {κ : Type} (S : Per F io F' io') : ∀ {vs : List (κ × V)} {ds : List (κ × D)}, RvF c F io vs ds → RvF c F' io' vs ds
  | _, _, .nil => .nil
  | _, _, .cons h r => .cons (h.perm S) (RvF.perm S r)
theorem Ob.kind {a : Addr} {o : O} (h : Ob c F io a o) : ∃ u, F a = some u ∧ (∀ ps, u ≠ .tbl ps) ∧ ∀ φ, u ≠ .ext φ := by
  cases o with
  | lst ds => obtain ⟨vs, e, _⟩ := h; exact ⟨_, e, (fun _ z => by cases z), (fun _ z => by cases z)⟩
  | dct lk kvs => cases lk with
    | false => obtain ⟨vs, e, _⟩ := h; exact ⟨_, e, (fun _ z => by cases z), (fun _ z => by cases z)⟩
    | true => obtain ⟨ob, vs, e, _⟩ := h; exact ⟨_, e, (fun _ z => by cases z), (fun _ z => by cases z)⟩
  | dcT lk kvs => cases lk with
    | false => obtain ⟨vs, e, _⟩ := h; exact ⟨_, e, (fun _ z => by cases z), (fun _ z => by cases z)⟩
    | true => obtain ⟨ob, vs, e, _⟩ := h; exact ⟨_, e, (fun _ z => by cases z), (fun _ z => by cases z)⟩
  | ins C fs => obtain ⟨dx, vs, e, _⟩ := h; exact ⟨_, e, (fun _ z => by cases z), (fun _ z => by cases z)⟩
theorem Sim.kind (h : Sim c F io st) {a : Addr} (ha : a ∈ io) : ∃ u, F a = some u ∧ (∀ ps, u ≠ .tbl ps) ∧ ∀ φ, u ≠ .ext φ := by
  obtain ⟨n, hn⟩ := List.getElem?_of_mem ha
  have hl : n < st.length := by rw [← h.len]; exact (List.getElem?_eq_some_iff.mp hn).1
  exact (h.ob n a _ hn (List.getElem?_eq_getElem hl)).kind
theorem ob_nt {a : Addr} {ho : HO} {o : O} (h : Ob c (upd F a ho) io a o) : ∀ ps, ho ≠ .tbl ps := fun ps z => by
  obtain ⟨u, e, k, _⟩ := h.kind
  rw [upd_same] at e
  exact k ps (by rw [← z]; exact (Option.some.inj e).symm)
theorem Good.setObj (g : Good c B F io st rh σ H) {n : Nat} {a : Addr} {ho : HO} {o' : O} (hn : io[n]? = some a) (ho' : Ob c (upd F a ho) io a o') : Good c B (upd F a ho) io (st.set n o') rh σ (upd H a ho) := by
  have ha : a ∈ io := List.mem_of_getElem? hn
  have fa : F a ≠ none := g.sim.dom ha
  have P : Per F io (upd F a ho) io := Per.upd ha
  have hnl : n < io.length := (List.getElem?_eq_some_iff.mp hn).1
  have far : ∀ b o, B.H b = some o → b ∉ B.io → b ≠ a := fun b o e n z => by
    subst z
    rcases g.stp.nio b ha with q | q
    · exact n q
    · rw [e] at q; cases q
  refine ⟨g.bsub, g.btab, g.bnt, g.len, ⟨fun b u e => ?_, g.stp.ext, fun b u e nb => ?_, fun b e => ?_, fun b u e nb ht => ?_, fun b e => ?_, g.stp.nio, fun h0 => let ⟨u, e, k1, k2⟩ := g.sim.kind ha; tabs_upd (g.stp.tab h0) (g.sub _ _ e) k1 k2, fun h0 => (g.stp.ntb h0).upd (ob_nt ho')⟩, ⟨by rw [List.length_set]; exact g.sim.len, g.sim.nd, fun m b o e1 e2 => ?_⟩, fun i d e => ?_, fun i ds e => ?_, g.dis, fun i t ds e => let ⟨v, e1, r⟩ := g.clo i t ds e; ⟨v, e1, r.perm P⟩⟩
  · by_cases z : b = a
    · subst z; rw [upd_same] at e ⊢; exact e
    · rw [upd_ne z] at e ⊢; exact g.sub b u e
  · rw [upd_ne (far b u (g.bsub b u e) nb)]; exact g.stp.per b u e nb
  · by_cases z : b = a
    · subst z; exact g.stp.new b fa
    · rw [upd_ne z] at e; exact g.stp.new b e
  · rw [upd_ne (far b u e nb)]; exact g.stp.fr b u e nb ht
  · by_cases z : b = a
    · subst z; rw [upd_same] at e; cases e
    · rw [upd_ne z] at e; exact g.stp.gro b e
  · by_cases z : n = m
    · subst z
      rw [hn] at e1
      cases e1
      rw [List.getElem?_set_self (by rw [← g.sim.len]; exact hnl)] at e2
      cases e2
      exact ho'
    · rw [List.getElem?_set_ne z] at e2
      have q := g.sim.ob m b o e1 e2
      have hb : b ≠ a := fun y => by
        subst y
        have i1 := List.getElem?_eq_some_iff.mp hn
        have i2 := List.getElem?_eq_some_iff.mp e1
        exact z ((List.getElem_inj g.sim.nd).mp (i1.2.trans i2.2.symm))
      cases o with
      | lst ds => obtain ⟨vs, e, r⟩ := q; exact ⟨vs, by rw [upd_ne hb]; exact e, r.perm P⟩
      | dct lk kvs => cases lk with
        | false => obtain ⟨vs, e, r⟩ := q; exact ⟨vs, by rw [upd_ne hb]; exact e, r.perm P⟩
        | true => obtain ⟨ob, vs, e, r⟩ := q; exact ⟨ob, vs, by rw [upd_ne hb]; exact e, r.perm P⟩
      | dcT lk kvs => cases lk with
        | false => obtain ⟨vs, e, r⟩ := q; exact ⟨vs, by rw [upd_ne hb]; exact e, r.perm P⟩
        | true => obtain ⟨ob, vs, e, r⟩ := q; exact ⟨ob, vs, by rw [upd_ne hb]; exact e, r.perm P⟩
      | ins C fs => obtain ⟨dx, vs, e, e3, e4, k, r⟩ := q; exact ⟨dx, vs, by rw [upd_ne hb]; exact e, P.per _ _ e3 e4, e4, k, r.perm P⟩
  · obtain ⟨v, e1, r⟩ := g.val i d e
    exact ⟨v, e1, r.perm P⟩
  · obtain ⟨b, vs, e1, e2, e3, e4, r⟩ := g.own i ds e
    have hb : b ≠ a := fun z => by subst z; exact fa e3
    exact ⟨b, vs, e1, by rw [upd_ne hb]; exact e2, by rw [upd_ne hb]; exact e3, e4, r.perm P⟩
end
/-- the list that a name alone holds, or a list of the store, gets other items -/
def updL (t : TV) (f : List D → Option (List D)) (st : Sto) (rh : Rho) : RS := match t with
  | .o i => (match rh[i]? with
    | some (some (.own ds)) => (match f ds with
      | some ds' => .nx (rh.set i (some (.own ds'))) st
      | none => .no)
    | _ => .no)
  | .d (.loc n) => (match st[n]? with
    | some (.lst ds) => (match f ds with
      | some ds' => .nx rh (st.set n (.lst ds'))
      | none => .no)
    | _ => .no)
  | _ => .no
section
variable {X : Cx} {c : Ct} {W : WX} {B : Bs} {F F' F1 F2 H H' H1 : Hp} {io io' io1 io2 : List Addr} {st st' st1 : Sto} {rh : Rho} {σ : St} {v : V} {t : TV} {d : D}
theorem updL_of {f : List D → Option (List D)} {D : Ends} (g : Good c B F io st rh σ H) (T : Tvr c F io rh σ H v t) (h : Pss c W B F io D (updL t f st rh)) :
    ∃ a vs ds ds', v = .ref a ∧ H a = some (.lst vs) ∧ RvAll c F io vs ds ∧ f ds = some ds' ∧ ∀ vs', RvAll c F io vs' ds' → D.nx σ (upd H a (.lst vs')) := by
  cases t with
  | o i =>
    obtain ⟨⟨ds, e1⟩, e2⟩ := T
    simp only [updL, e1] at h
    obtain ⟨a, vs, e3, e4, e5, e6, r⟩ := g.own i ds e1
    rw [e2] at e3
    cases e3
    cases hf : f ds with
    | none => rw [hf] at h; exact h.elim
    | some ds' =>
      rw [hf] at h
      exact ⟨a, vs, ds, ds', rfl, e4, r, hf, fun vs' r' => h σ _ F io Per.refl (g.chgOwn e1 e2 r')⟩
  | d d =>
    cases d with
    | loc n =>
      cases T with
      | loc hn =>
        rename_i a
        simp only [updL] at h
        cases q : st[n]? with
        | none => rw [q] at h; exact h.elim
        | some o =>
          rw [q] at h
          cases o with
          | lst ds =>
            simp only at h
            cases hf : f ds with
            | none => rw [hf] at h; exact h.elim
            | some ds' =>
              rw [hf] at h
              obtain ⟨vs, e1, r⟩ := g.sim.ob n a _ hn q
              have ha : a ∈ io := List.mem_of_getElem? hn
              exact ⟨a, vs, ds, ds', rfl, g.sub _ _ e1, r, hf, fun vs' r' => h σ _ (upd F a (.lst vs')) io (Per.upd ha) (g.setObj hn ⟨vs', upd_same, r'.perm (Per.upd ha)⟩)⟩
          | dct lk kvs => exact h.elim
          | dcT lk kvs => exact h.elim
          | ins C fs => exact h.elim
    | _ => exact h.elim
  | fr ds => exact h.elim
/-- o.append(e); o.extend(e) -/
def isL (rh : Rho) (st : Sto) (t : TV) : Bool := match view rh st t with
  | some (.lst _) => true
  | _ => false
theorem isL_some {t : TV} (h : isL rh st t = true) : ∃ ds, view rh st t = some (.lst ds) := by
  unfold isL at h
  cases q : view rh st t with
  | none => rw [q] at h; cases h
  | some d =>
    rw [q] at h
    cases d with
    | lst ds => exact ⟨ds, rfl⟩
    | _ => cases h
def appD (d : D) (ds : List D) : Option (List D) := if ds.length < sizeLine then some (ds ++ [d]) else none
def extD (es ds : List D) : Option (List D) := if ds.length + es.length ≤ sizeLine then some (ds ++ es) else none
def sApp (fo fe : Sm) : Ss := sThen fo fun t st1 rh => if isL rh st1 t then sThen fe (fun u st2 rh => match toDv u with
  | some d => updL t (appD d) st2 rh
  | none => .no) rh st1 else .no
def sExt (fo fe : Sm) : Ss := sThen fo fun t st1 rh => if isL rh st1 t then sThen fe (fun u st2 rh => match view rh st2 u with
  | some (.lst es) => updL t (extD es) st2 rh
  | _ => .no) rh st1 else .no
theorem tyV_list {K : PySem.W.Frag} {a : Addr} {vs : List V} (h : H a = some (.lst vs)) : tyV K "list" (.ref a) H := .inl ⟨rfl, _, SqL.of h⟩
theorem app_of {K : PySem.W.Frag} {fo fe : Sm} {D : Ends} {σ : St} {H : Hp} (h : denS c W (sApp fo fe) D σ H) : tDrop (tBM K "list" rAppend (den c W fo) (tCons (den c W fe) tNil)) D σ H := by
  obtain ⟨B, F, io, st, rh, g, p⟩ := h
  refine then_of g p fun t st1 v H1 F1 io1 S1 g1 s1 T1 q1 => ?_
  split at q1
  case isFalse => exact q1.elim
  rename_i hl
  obtain ⟨us, hv⟩ := isL_some hl
  obtain ⟨a0, vs0, e0, h0, _⟩ := view_ok g1 (T1.r s1) hv
  refine ⟨by rw [e0]; exact tyV_list h0, ?_⟩
  have q1 := Pss.per (S1.perm g.sub) q1
  refine then_of g1 q1 fun u st2 w H2 F2 io2 S2 g2 s2 T2 q2 => ?_
  cases hu : toDv u with
  | none => simp only [hu] at q2; exact q2.elim
  | some d =>
    simp only [hu] at q2
    obtain ⟨F3, S3, s3, r3⟩ := Tvs.give S2 s2 T2 hu
    have g3 := g1.step S3 s3
    obtain ⟨a, vs, ds, ds', e1, e2, r, hf, k⟩ := updL_of g3 ((T1.r s1).step S3 g1.sub) (Pss.per (S3.perm g1.sub) q2)
    unfold appD at hf
    split at hf
    · rename_i hz
      cases hf
      exact ⟨a, vs, w, e1, rfl, e2, by rw [r.length]; exact hz, k _ (r.append (.cons r3 .nil))⟩
    · cases hf
theorem ext_of {K : PySem.W.Frag} {fo fe : Sm} {D : Ends} {σ : St} {H : Hp} (h : denS c W (sExt fo fe) D σ H) : tDrop (tBM K "list" rExtend (den c W fo) (tCons (den c W fe) tNil)) D σ H := by
  obtain ⟨B, F, io, st, rh, g, p⟩ := h
  refine then_of g p fun t st1 v H1 F1 io1 S1 g1 s1 T1 q1 => ?_
  split at q1
  case isFalse => exact q1.elim
  rename_i hl
  obtain ⟨us, hv⟩ := isL_some hl
  obtain ⟨a0, vs0, e0, h0, _⟩ := view_ok g1 (T1.r s1) hv
  refine ⟨by rw [e0]; exact tyV_list h0, ?_⟩
  have q1 := Pss.per (S1.perm g.sub) q1
  refine then_of g1 q1 fun u st2 w H2 F2 io2 S2 g2 s2 T2 q2 => ?_
  cases hu : view rh st2 u with
  | none => simp only [hu] at q2; exact q2.elim
  | some d =>
    simp only [hu] at q2
    cases d with
    | lst es =>
      simp only at q2
      obtain ⟨b, zs, rfl, hb, rb⟩ := view_ok g2 (T2.r s2) hu
      obtain ⟨a, vs, ds, ds', e1, e2, r, hf, k⟩ := updL_of g2 ((T1.r s1).step S2 g1.sub) (Pss.per (S2.perm g1.sub) q2)
      unfold extD at hf
      split at hf
      · rename_i hz
        cases hf
        exact ⟨a, b, vs, zs, e1, rfl, e2, hb, by rw [r.length, rb.length]; exact hz, k _ (r.append rb)⟩
      · cases hf
    | _ => exact q2.elim
def plainBase : Expr → Bool
  | .Call (.Name _ _) [] [] _ => false
  | _ => true
theorem plainBase_ok {o : Expr} {m : Str} {env : Env} (h : plainBase o = true) : attributeBase o m env (eval o env) = eval o env := by
  unfold attributeBase
  split
  · cases h
  · rfl
theorem few1 {e : Expr} {env : Env} {cpos : Pos} (h : notStar e = true) : ((backTo cpos (starEach [e] env)).all (fun x => !x.1) && (backToKw cpos (keywordEach [] env)).all (fun x => x.1.isSome)
      && decide ([e].length + ([] : List Keyword).length + (if ([] : List Keyword).isEmpty then 0 else 1) < 30)) = true := by
  rw [star_cons h]
  rfl
theorem ps_den_app {o e : Expr} {fo fe : Sm} {apos cpos pos : Pos} (ho : PE X o (den c W fo)) (he : PE X e (den c W fe)) (hb : plainBase o = true) (hn : notStar e = true) (hl : (apos.endLine == cpos.line) = true) :
    PS X (.Expr (.Call (.Attribute o "append" apos) [e] [] cpos) pos) (denS c W (sApp fo fe)) :=
  PS.weak (ps_expr (pe_bm PySem.F.plainAttrs_list PySem.F.slot_list_append PySem.F.type_list_append mt_append ho (pa_cons he pa_nil (star_cons hn)) (plainBase_ok hb) (few1 hn) hl (star_cons hn) rfl)) fun D σ H h => app_of h
theorem ps_den_ext {o e : Expr} {fo fe : Sm} {apos cpos pos : Pos} (ho : PE X o (den c W fo)) (he : PE X e (den c W fe)) (hb : plainBase o = true) (hn : notStar e = true) (hl : (apos.endLine == cpos.line) = true) :
    PS X (.Expr (.Call (.Attribute o "extend" apos) [e] [] cpos) pos) (denS c W (sExt fo fe)) :=
  PS.weak (ps_expr (pe_bm PySem.F.plainAttrs_list PySem.F.slot_list_extend PySem.F.type_list_extend mt_extend ho (pa_cons he pa_nil (star_cons hn)) (plainBase_ok hb) (few1 hn) hl (star_cons hn) rfl)) fun D σ H h => ext_of h
end
end KL

namespace KL
open PySem L2

/-! ### a def's end: what it made and nobody holds is let go -/
mutual
def below (n : Nat) : D → Bool
  | .tup ds => belows n ds
  | .lst ds => belows n ds
  | .loc k => decide (k < n)
  | .clo _ _ => false
  | .raw ds => belows n ds
  | _ => true
def belows (n : Nat) : List D → Bool
  | [] => true
  | d :: ds => below n d && belows n ds
end
def belowF {κ : Type} (n : Nat) : List (κ × D) → Bool
  | [] => true
  | p :: ps => below n p.2 && belowF n ps
def belowO (n : Nat) : O → Bool
  | .lst ds => belows n ds
  | .dct _ kvs => belowF n kvs
  | .dcT _ kvs => belowF n kvs
  | .ins _ fs => belowF n fs
def cut (n : Nat) (d : D) (st : Sto) : Sto := if st.length ≤ n then st else if below n d && (st.take n).all (belowO n) then st.take n else st
def fin (n : Nat) : RS → R D
  | .nx _ st => .ok .non (cut n .non st)
  | .rt d st => .ok d (cut n d st)
  | .ex e _ st => .ex e (cut n .non st)
  | _ => .no
def cellD : D → Cell
  | .clo t cs => .clo t cs
  | d => .val d
def rho0 (m : Nat) (ds : List D) : Rho := ds.map (fun d => some (cellD d)) ++ List.replicate (m - ds.length) none
/-- a def's function on data: m places, its body f -/
def fnR (m : Nat) (f : Ss) (ds : List D) (st : Sto) : R D := fin st.length (f (rho0 m ds) st)
section
variable {c : Ct} {F F' H H' : Hp} {io io' : List Addr} {st st' : Sto}
mutual
theorem Rv.cut {n : Nat} : ∀ {v : V} {d : D}, Rv c F io v d → below n d = true → Rv c F (io.take n) v d
  | _, _, .non, _ => .non
  | _, _, .bl b, _ => .bl b
  | _, _, .int b, _ => .int b
  | _, _, .str b, _ => .str b
  | _, _, .raw h n r, e => .raw h (fun z => n (List.mem_of_mem_take z)) (RvAll.cutB r (by simpa [below] using e))
  | _, _, .tup h r, e => .tup (h.imp (fun ⟨o, h1, h2, h3⟩ => ⟨o, h1, fun z => h2 (List.mem_of_mem_take z), h3⟩) id) (RvAll.cutB r (by simpa [below] using e))
  | _, _, .lst h n r, e => .lst h (fun z => n (List.mem_of_mem_take z)) (RvAll.cutB r (by simpa [below] using e))
  | _, _, .loc (n := k) h, e => .loc (by
    have this : k < n := by simpa [below] using e
    rw [List.getElem?_take, if_pos this]; exact h)
  | _, _, .scr h, _ => .scr (h.imp (fun h => ⟨h.1, fun z => h.2 (List.mem_of_mem_take z)⟩) id)
theorem RvAll.cutB {n : Nat} : ∀ {vs : List V} {ds : List D}, RvAll c F io vs ds → belows n ds = true → RvAll c F (io.take n) vs ds
  | _, _, .nil, _ => .nil
  | _, _, .cons h r, e => by
    simp only [belows, Bool.and_eq_true] at e
    exact .cons (Rv.cut h e.1) (RvAll.cutB r e.2)
end
theorem RvF.cut {κ : Type} {n : Nat} : ∀ {vs : List (κ × V)} {ds : List (κ × D)}, RvF c F io vs ds → belowF n ds = true → RvF c F (io.take n) vs ds
  | _, _, .nil, _ => .nil
  | _, _, .cons h r, e => by
    simp only [belowF, Bool.and_eq_true] at e
    exact .cons (Rv.cut h e.1) (RvF.cut r e.2)
theorem Sim.cut {n : Nat} (s : Sim c F io st) (h : (st.take n).all (belowO n) = true) : Sim c F (io.take n) (st.take n) := by
  refine ⟨by rw [List.length_take, List.length_take, s.len], s.nd.sublist (List.take_sublist ..), fun m a o e1 e2 => ?_⟩
  rw [List.getElem?_take] at e1
  have hm : m < n := by
    by_cases z : m < n
    · exact z
    · rw [if_neg z] at e1; cases e1
  rw [if_pos hm] at e1
  have hb : belowO n o = true := List.all_eq_true.mp h o (List.mem_of_getElem? e2)
  rw [List.getElem?_take, if_pos hm] at e2
  have q := s.ob m a o e1 e2
  cases o with
  | lst ds => obtain ⟨vs, e, r⟩ := q; exact ⟨vs, e, r.cutB hb⟩
  | dct lk kvs => cases lk with
    | false => obtain ⟨vs, e, r⟩ := q; exact ⟨vs, e, r.cut hb⟩
    | true => obtain ⟨ob, vs, e, r⟩ := q; exact ⟨ob, vs, e, r.cut hb⟩
  | dcT lk kvs => cases lk with
    | false => obtain ⟨vs, e, r⟩ := q; exact ⟨vs, e, r.cut hb⟩
    | true => obtain ⟨ob, vs, e, r⟩ := q; exact ⟨ob, vs, e, r.cut hb⟩
  | ins C fs => obtain ⟨dx, vs, e, e3, e4, k, r⟩ := q; exact ⟨dx, vs, e, e3, fun z => e4 (List.mem_of_mem_take z), k, r.cut hb⟩
/-- what a def's end leaves is a state of the caller -/
theorem cut_ok {v : V} {d : D} (S : Stp c F io H F' io' H') (s : Sim c F' io' st') (hl : io.length = n) (r : Rv c F' io' v d) : ∃ io'', Stp c F io H F' io'' H' ∧ Sim c F' io'' (cut n d st') ∧ Rv c F' io'' v d := by
  unfold cut
  split
  · exact ⟨io', S, s, r⟩
  · split
    · rename_i h1 h2
      rw [Bool.and_eq_true] at h2
      have e : io'.take n = io := by
        obtain ⟨m, e⟩ := S.ext
        rw [e, ← hl, List.take_left']
        rfl
      refine ⟨io'.take n, ⟨S.sub, ⟨[], by rw [e]; simp⟩, S.per, S.new, S.fr, S.gro, fun a ha => S.nio a (List.mem_of_mem_take ha), S.tab, S.ntb⟩, s.cut h2.2, r.cut h2.1⟩
    · exact ⟨io', S, s, r⟩
end

/-! ### a def keeps its promise -/
section
variable {P : Program} {w : World} {mg : Str → Option Value} {base : Heap} {x qual : Str} {params : Arguments} {body : List Stmt} {scope : Scope} {f : Addr} {fd : FuncData} {c : Ct}
theorem rho0_at {m i : Nat} {ds : List D} {k : Cell} (e : (rho0 m ds)[i]? = some (some k)) : ∃ d, ds[i]? = some d ∧ k = cellD d := by
  unfold rho0 at e
  by_cases hi : i < ds.length
  · rw [List.getElem?_append_left (by simpa using hi), List.getElem?_map, Option.map_eq_some_iff] at e
    obtain ⟨d, e1, e2⟩ := e
    exact ⟨d, e1, (Option.some.inj e2).symm⟩
  · rw [List.getElem?_append_right (by simpa using hi), List.getElem?_replicate] at e
    split at e <;> cases e
theorem cellD_val {d e : D} (h : Cell.val e = cellD d) : e = d ∧ ∀ v (c : Ct) (F : Hp) (io : List Addr), RvA c F io v d → Rv c F io v d := by
  cases d <;> cases h <;> exact ⟨rfl, fun _ _ _ _ h => h⟩
theorem cellD_own {d : D} {ds : List D} (h : Cell.own ds = cellD d) : False := by cases d <;> cases h
theorem cellD_clo {d : D} {t : Nat} {ds : List D} (h : Cell.clo t ds = cellD d) : d = .clo t ds := by cases d <;> cases h; rfl
theorem good_of {F H : Hp} {io : List Addr} {st : Sto} {σ : St} {m : Nat} {ds : List D} (hs : ∀ a o, F a = some o → H a = some o) (ht : LamX.Tabs c.T H) (hnt : NT F) (s : Sim c F io st) (hl : σ.length = m) (hm : ds.length ≤ m)
    (r : ∀ (i : Nat) (d : D), ds[i]? = some d → ∃ v, σ[i]? = some (some v) ∧ RvA c F io v d) : Good c ⟨F, io, H⟩ F io st (rho0 m ds) σ H := by
  refine ⟨hs, ht, hnt, ?_, Stp.refl hs, s, fun i d e => ?_, fun i us e => ?_, fun i j us ws v e => ?_, fun i t us e => ?_⟩
  · unfold rho0
    rw [List.length_append, List.length_map, List.length_replicate, hl]
    omega
  · obtain ⟨d', e1, e2⟩ := rho0_at e
    obtain ⟨rfl, k⟩ := cellD_val e2
    obtain ⟨v, e3, q⟩ := r i _ e1
    exact ⟨v, e3, k _ _ _ _ q⟩
  · obtain ⟨d', e1, e2⟩ := rho0_at e
    exact (cellD_own e2).elim
  · obtain ⟨d', e1, e2⟩ := rho0_at e
    exact (cellD_own e2).elim
  · obtain ⟨d', e1, e2⟩ := rho0_at e
    have e3 := cellD_clo e2
    subst e3
    exact r i _ e1
theorem good0 {F H : Hp} {io : List Addr} {st : Sto} {vs : List V} {ds : List D} (hs : ∀ a o, F a = some o → H a = some o) (ht : LamX.Tabs c.T H) (hnt : NT F) (s : Sim c F io st) (r : RvAs c F io vs ds) (N : List Str) (hn : vs.length ≤ N.length) : Good c ⟨F, io, H⟩ F io st (rho0 N.length ds) (L2.start N vs) H := by
  refine good_of hs ht hnt s ?_ (by rw [← r.length]; exact hn) fun i d e => ?_
  · unfold L2.start
    rw [List.length_append, List.length_map, List.length_replicate]
    omega
  · obtain ⟨v, e3, q⟩ := r.get e
    refine ⟨v, ?_, q⟩
    have hi : i < vs.length := (List.getElem?_eq_some_iff.mp e3).1
    unfold L2.start
    rw [List.getElem?_append_left (by rw [List.length_map]; exact hi), List.getElem?_map, e3]
    rfl
/-- the context of a def's body -/
structure Bdy (X : Cx) (P : Program) (w : World) (c : Ct) (mg : Str → Option Value) (base : Heap) (N : List Str) (scope : Scope) (k : Nat) (W : WX) : Prop where
  prog : X.prog = P
  w : X.w = w
  mg : X.mg = mg
  base : X.base = base
  N : X.N = N
  sc : X.env.scope = scope
  ok : Cok X c W
  room : Room k X.A
  po : PassesOwn (model X.prog X.w) X.A X.env X.xe
  fn : ∀ x, X.fn x = true
  stk : X.stack = X.env :: X.outer
  frm : X.env.frame = some X.env.locals
theorem fn_den {N ps : List Str} {k : Nat} {fs : Ss} (Fn : FunD c.K x qual params body scope [] [] f fd) (S : FnScope N ps scope) (hB : ∀ (X : Cx) (W : WX), Bdy X P w c mg base N scope k W → PSs X body (denS c W fs)) :
    FnOk P w c.K mg base (L2N.CX P w) (k + 1) f fd ps (spM c ps.length (fnR N.length fs)) := by
  refine Fn.ok S (fun vs H Q E h => h.1) fun cdv A outer s H vs Q E hr h => ?_
  obtain ⟨hl, F, io, st, ds, hs, htab, hnt, sm, r, p⟩ := h
  refine ⟨denS c (fun cls d _ H => E cls d H) fs, hB _ _ ⟨rfl, rfl, rfl, rfl, rfl, rfl, ⟨rfl, S.nd, rfl, hr.units, L2N.takes_of rfl rfl rfl rfl⟩, hr, passes_of rfl, fun _ => rfl, rfl, rfl⟩, ?_⟩
  refine ⟨⟨F, io, H⟩, F, io, st, rho0 N.length ds, good0 hs htab hnt sm r N (by have q := congrArg List.length S.pre; rw [List.length_take] at q; omega), ?_⟩
  unfold fnR at p
  cases hb : fs (rho0 N.length ds) st with
  | nx rh st' =>
    rw [hb] at p
    intro σ' H' F' io' P' g'
    obtain ⟨io2, S2, s2, r2⟩ := cut_ok (v := .non) (d := .non) g'.stp g'.sim sm.len .non
    exact p .non H' F' io2 S2 s2 r2
  | rt d st' =>
    rw [hb] at p
    intro v H' F' io' S' s' r'
    obtain ⟨io2, S2, s2, r2⟩ := cut_ok S' s' sm.len r'
    exact p v H' F' io2 S2 s2 r2
  | bk rh st' => rw [hb] at p; exact p.elim
  | ct rh st' => rw [hb] at p; exact p.elim
  | ex e rh st' =>
    rw [hb] at p
    intro σ' H' F' io' P' g'
    obtain ⟨io2, S2, s2, r2⟩ := cut_ok (v := .non) (d := .non) g'.stp g'.sim sm.len .non
    exact p H' F' io2 S2 s2
  | no => rw [hb] at p; exact p.elim
end
end KL

namespace KLow
open PySem PySem.Spec PyProof.Rows HT

/-! ### t[::-1] of a tuple -/
theorem fm_congr {α β : Type} {f g : α → Option β} : ∀ {l : List α}, (∀ x ∈ l, f x = g x) → l.filterMap f = l.filterMap g
  | [], _ => rfl
  | a :: l, h => by rw [List.filterMap_cons, List.filterMap_cons, h a (by simp), fm_congr fun x hx => h x (by simp [hx])]
theorem pick_rev (xs : Array Value) : ((List.range xs.size).filterMap fun (k : Nat) => xs[(((xs.size : Int) - 1) + (k : Int) * (-1)).toNat]?) = xs.toList.reverse := by
  have e : (fun (k : Nat) => xs[(((xs.size : Int) - 1) + (k : Int) * (-1)).toNat]?) = fun k => xs[xs.size - 1 - k]? := by
    funext k
    have : (((xs.size : Int) - 1) + (k : Int) * (-1)).toNat = xs.size - 1 - k := by omega
    rw [this]
  rw [e]
  have h2 : (List.range xs.size).filterMap (fun k => xs[xs.size - 1 - k]?) = ((List.range xs.size).reverse).filterMap (fun k => xs[k]?) := by
    rw [List.range_eq_range', List.reverse_range', List.filterMap_map, ← List.range_eq_range']
    apply fm_congr
    intro k hk
    simp only [Function.comp]
    congr 1
    omega
  rw [h2, List.filterMap_reverse, PySem.W.krv_all]
section
variable {prog : Program} {w : World} {A : Around} {E : Value → Shared → Prop} {s : Shared}
theorem rev_applied {sl : Addr} {n : Nat} {vl vu vs : Value} {Q : Int × Int × Nat → Shared → Prop} (hs : s.heap.IsSliceOf sl vl vu vs) (pl : IsPart vl none) (pu : IsPart vu none) (ps : IsPart vs (some (-1)))
    (h : Q (((n : Int) - 1), -1, n) s) : wpAny (model prog w) A (Builtin.Slice.sliceApplied (.ref sl) (pure (n : Int))) Q E s := by
  obtain ⟨os, hos, hcs, hds⟩ := id hs
  unfold Builtin.Slice.sliceApplied Builtin.Slice.sliceFields
  refine wpAny_bind (wpAny_bind (wpAny_field hos hds (x := vl) rfl (wpAny_bind (wpAny_field hos hds (x := vu) rfl (wpAny_bind (wpAny_field hos hds (x := vs) rfl (wpAny_pure ?_)))))))
  refine wpAny_bind (slicePart_ ps ?_)
  show wpAny _ _ (if ((-1 : Int) == 0) = true then _ else _) _ _ s
  rw [if_neg (by decide)]
  refine wpAny_bind (slicePart_ pl (wpAny_bind (slicePart_ pu (wpAny_bind (wpAny_pure ?_)))))
  show wpAny _ _ (pure ((n : Int) - 1, (-1 : Int), Builtin.Slice.slicePlaces ((n : Int) - 1) (-1) (-1))) _ _ s
  have e : Builtin.Slice.slicePlaces ((n : Int) - 1) (-1) (-1) = n := by
    unfold Builtin.Slice.slicePlaces
    rw [if_neg (by decide)]
    split
    · simp
    · omega
  rw [e]
  exact wpAny_pure h
theorem getItem_tuple_rev {t sl : Addr} {items : Array Value} {vl vu vs : Value} {Q : Value → Shared → Prop} (ht : IsTup s.heap t items) (hs : s.heap.IsSliceOf sl vl vu vs) (pl : IsPart vl none) (pu : IsPart vu none) (ps : IsPart vs (some (-1)))
    (h : Q (.ref s.heap.objs.size) { s with heap := s.heap.push { cls := .type "tuple", data := .seq items.toList.reverse.toArray } })
    (hsz : items.size ≤ sizeLine) : wpAny (model prog w) A (getItem (.ref t) (.ref sl)) Q E s := by
  have htake : sizeOk (.seq items.toList.reverse.toArray) := by
    show items.toList.reverse.toArray.size ≤ sizeLine
    simpa using hsz
  obtain ⟨os, hos, hcs, hds⟩ := id hs
  have hTs : s.TypeIs (.ref sl) "slice" := ⟨os, hos, hcs⟩
  unfold getItem
  try with_reducible refine wpAny_holding ?_
  first | refine wpAny_bind (wpAny_pure ?_) | skip
  refine wpAny_bind (wpAny_sequenceKey ht.typeIs (by decide) ?_)
  refine wpAny_bind (wpAny_callSpecial?_slot (name := Str.ofString "__getitem__") ht.typeIs PyProof.Rows.slot_tuple_getitem
    (wpAny_call_entry PyProof.Rows.slot_tuple_getitem ht.typeIs entry_tuple_getitem ?_ (args_tuple_getitem _ _)))
  show wpAny _ _ (Builtin.Tuple.tupleItemsOf (.ref t) >>= _) _ _ s
  refine wpAny_bind (tupleItemsOf_ ht ?_)
  refine wpAny_bind (wpAny_typeOf hTs ?_)
  rw [if_pos (by decide)]
  refine wpAny_bind (rev_applied hs pl pu ps ?_)
  have hno : ¬ ((((items.size : Int) - 1 == 0) && (-1 : Int) == 1 && items.size == items.size) = true) := by
    intro q
    rw [Bool.and_eq_true, Bool.and_eq_true] at q
    exact absurd q.1.2 (by decide)
  show wpAny _ _ (if (((items.size : Int) - 1 == 0) && (-1 : Int) == 1 && items.size == items.size) = true then _ else _) _ _ s
  rw [if_neg hno, pick_rev]
  first
    | exact wpAny_bind (m := Builtin.Tuple.tupleExact _) (wpAny_newObj_type (wpAny_pure ⟨_, rfl, wpAny_pure h⟩) htake)
    | exact wpAny_bind (m := Builtin.Tuple.tupleExact _) (wpAny_newObj_type (wpAny_bind (wpAny_pure (wpAny_pure ⟨_, rfl, wpAny_pure h⟩))) htake)
    | exact wpAny_bind (wpAny_bind (m := Builtin.Tuple.tupleExact _) (wpAny_newObj_type (wpAny_pure (wpAny_pure ⟨_, rfl, wpAny_pure h⟩)) htake))
    | exact wpAny_bind (wpAny_bind (m := Builtin.Tuple.tupleExact _) (wpAny_newObj_type (wpAny_pure ⟨_, rfl, wpAny_pure h⟩) htake))
end
end KLow
namespace L2
open PySem PySem.Spec PyProof.Rows
variable {X : Cx}
def tRevT (K : PySem.W.Frag) (te : TE) : TE := fun σ H Q => te σ H fun x H1 => ∃ a xs, x = .ref a ∧ SqT K H1 a xs ∧ KL.NewF H1 xs.reverse Q
theorem pe_revT {e : Expr} {te : TE} {k : Nat} {p1 p2 p3 pos : Pos} (he : PE X e te) : PE X (.Subscript e (.Slice none none (some (.UnaryOp .USub (.Constant (.int 1) k p1) p2)) p3) pos) (tRevT X.K te) := by
  refine ⟨fun pins s σ H Q I h => ?_⟩
  refine Subscript_ (thn (he.run pins s σ H _ I h) fun v s1 ⟨x, H1, I1, r1, q1⟩ => ?_)
  obtain ⟨a, xs, ex, hx, q⟩ := q1
  subst ex
  cases r1
  have hst : PO X (some (.UnaryOp .USub (.Constant (.int 1) k p1) p2)) (tPart (tUn (rU fun i => .int (-i)) (tC (.int 1)))) := po_some (pe_un un_neg pe_int)
  refine wpAny_Slice (thn (po_none.run pins s1 σ H1 (fun o H2 => o = none ∧ H2 = H1) I1 ⟨rfl, rfl⟩) fun vl s2 ⟨l, H2, I2, pl, el, e2⟩ => ?_)
  subst el e2
  refine thn (po_none.run pins s2 σ H2 (fun o H3 => o = none ∧ H3 = H2) I2 ⟨rfl, rfl⟩) fun vu s3 ⟨u, H3, I3, pu, eu, e3⟩ => ?_
  subst eu e3
  refine thn (hst.run pins s3 σ H3 (fun o H4 => o = some (-1) ∧ H4 = H3) I3 ⟨1, rfl, -1, rfl, rfl, rfl⟩) fun vs s4 ⟨o, H4, I4, ps, eo, e4⟩ => ?_
  subst eo e4
  have I5 : Inv X pins σ H4 { s4 with heap := s4.heap.push { cls := .type "slice", data := .fields #[vl, vu, vs] } } := I4.kept (t' := s4.toks) fun b ob q => Heap.get?_push_of_some _ q
  obtain ⟨its, r, ht, hz⟩ := I5.tuple hx
  have hlen := r.length
  show wpAny (model X.prog X.w) X.A (subscriptTail e (.Slice none none (some (.UnaryOp .USub (.Constant (.int 1) k p1) p2)) p3) (.ref a) (.ref s4.heap.objs.size)) (EP X pins σ Q) X.xe { s4 with heap := s4.heap.push { cls := .type "slice", data := .fields #[vl, vu, vs] } }
  refine tail_any (ops := [.ref a, .ref s4.heap.objs.size]) ht.typeIs (PyProof.Rows.slot_tuple_getitem.lookup) ?_ (by with_unfolding_all rfl)
  refine KLow.getItem_tuple_rev ht (Heap.IsSliceOf.new _ vl vu vs) pl pu ps ?_ (by rw [List.size_toArray]; omega)
  exact ⟨.ref _, _, KL.laidF (t' := s4.toks) I5 (fun b ob q => Heap.get?_push_of_some _ q) (Nat.le_refl _) (Heap.get?_push_size _ rfl) r.reverse (by rw [List.length_reverse]; exact hz), rfl, q _ _ (I5.hok.fresh (Nat.le_refl _)) rfl⟩
end L2

namespace KU
open PySem PySem.Spec PyProof.Rows L2

/-! ### the sorted members of a list of texts -/
def ltS (a b : Str) : Prop := a.cps.toList < b.cps.toList
instance (a b : Str) : Decidable (ltS a b) := by unfold ltS; infer_instance
def insK (k : Str) : List Str → List Str
  | [] => [k]
  | y :: ys => if ltS k y then k :: y :: ys else if k = y then y :: ys else y :: insK k ys
def srt (xs : List Str) : List Str := xs.foldl (fun acc k => insK k acc) []
theorem str_ext {a b : Str} (h : a.cps.toList = b.cps.toList) : a = b := by
  cases a; cases b
  simp only [Str.mk.injEq]
  exact Array.toList_inj.mp h
theorem ltS_irrefl (a : Str) : ¬ ltS a a := List.lt_irrefl _
theorem ltS_trans {a b c : Str} (h : ltS a b) (k : ltS b c) : ltS a c := List.lt_trans h k
theorem ltS_asymm {a b : Str} (h : ltS a b) : ¬ ltS b a := List.lt_asymm h
theorem ltS_total {a b : Str} (h : ¬ ltS a b) (hne : a ≠ b) : ltS b a := by
  by_cases z : ltS b a
  · exact z
  · exact absurd (str_ext (List.le_antisymm (List.not_lt.mp z) (List.not_lt.mp h))) hne
theorem mem_insK {k x : Str} : ∀ {l : List Str}, x ∈ insK k l ↔ x = k ∨ x ∈ l
  | [] => by simp [insK]
  | y :: ys => by
    unfold insK
    split
    · simp
    · split
      · rename_i h e
        subst e
        simp
      · rw [List.mem_cons, mem_insK, List.mem_cons]
        constructor
        · rintro (h | h | h)
          · exact .inr (.inl h)
          · exact .inl h
          · exact .inr (.inr h)
        · rintro (h | h | h)
          · exact .inr (.inl h)
          · exact .inl h
          · exact .inr (.inr h)
theorem insK_lt {k : Str} : ∀ {l : List Str}, l.Pairwise ltS → (insK k l).Pairwise ltS
  | [], _ => by simp [insK]
  | y :: ys, h => by
    obtain ⟨h1, h2⟩ := List.pairwise_cons.mp h
    unfold insK
    split
    · rename_i hk
      refine List.pairwise_cons.mpr ⟨fun z hz => ?_, h⟩
      rcases List.mem_cons.mp hz with e | e
      · rw [e]; exact hk
      · exact ltS_trans hk (h1 z e)
    · split
      · exact h
      · rename_i hk hne
        refine List.pairwise_cons.mpr ⟨fun z hz => ?_, insK_lt h2⟩
        rcases mem_insK.mp hz with e | e
        · rw [e]; exact ltS_total hk hne
        · exact h1 z e
theorem mem_fold {x : Str} : ∀ {xs acc : List Str}, x ∈ xs.foldl (fun acc k => insK k acc) acc ↔ x ∈ xs ∨ x ∈ acc
  | [], acc => by simp
  | y :: ys, acc => by
    rw [List.foldl_cons, mem_fold, mem_insK, List.mem_cons]
    constructor
    · rintro (h | h | h)
      · exact .inl (.inr h)
      · exact .inl (.inl h)
      · exact .inr h
    · rintro ((h | h) | h)
      · exact .inr (.inl h)
      · exact .inl h
      · exact .inr (.inr h)
theorem fold_lt : ∀ {xs acc : List Str}, acc.Pairwise ltS → (xs.foldl (fun acc k => insK k acc) acc).Pairwise ltS
  | [], _, h => h
  | y :: ys, acc, h => fold_lt (xs := ys) (acc := insK y acc) (insK_lt h)
theorem mem_srt {x : Str} {xs : List Str} : x ∈ srt xs ↔ x ∈ xs := by
  unfold srt
  rw [mem_fold]
  simp
theorem srt_lt (xs : List Str) : (srt xs).Pairwise ltS := fold_lt List.Pairwise.nil
theorem uniq : ∀ {l m : List Str}, l.Pairwise ltS → m.Pairwise ltS → (∀ x, x ∈ l ↔ x ∈ m) → l = m
  | [], [], _, _, _ => rfl
  | [], b :: m, _, _, h => by have := (h b).mpr (by simp); simp at this
  | a :: l, [], _, _, h => by have := (h a).mp (by simp); simp at this
  | a :: l, b :: m, h1, h2, h => by
    obtain ⟨a1, a2⟩ := List.pairwise_cons.mp h1
    obtain ⟨b1, b2⟩ := List.pairwise_cons.mp h2
    have e : a = b := by
      rcases List.mem_cons.mp ((h a).mp (by simp)) with z | z
      · exact z
      · rcases List.mem_cons.mp ((h b).mpr (by simp)) with y | y
        · exact y.symm
        · exact absurd (a1 b y) (ltS_asymm (b1 a z))
    subst e
    rw [uniq a2 b2 fun x => ?_]
    constructor
    · intro hx
      rcases List.mem_cons.mp ((h x).mp (List.mem_cons_of_mem _ hx)) with z | z
      · subst z; exact absurd (a1 x hx) (ltS_irrefl x)
      · exact z
    · intro hx
      rcases List.mem_cons.mp ((h x).mpr (List.mem_cons_of_mem _ hx)) with z | z
      · subst z; exact absurd (b1 x hx) (ltS_irrefl x)
      · exact z
theorem insS_nd {ks : List Str} {k : Str} (h : ks.Nodup) : (insS ks k).Nodup := by
  unfold insS
  split
  · exact h
  · rename_i hk; exact List.nodup_cons.mpr ⟨hk, h⟩
theorem foldS_nd : ∀ {xs ks : List Str}, ks.Nodup → (xs.foldl insS ks).Nodup
  | [], _, h => h
  | x :: xs, ks, h => foldS_nd (xs := xs) (ks := insS ks x) (insS_nd h)
theorem mem_insS {ks : List Str} {k x : Str} : x ∈ insS ks k ↔ x = k ∨ x ∈ ks := by
  unfold insS
  split
  · rename_i h
    constructor
    · exact .inr
    · rintro (e | e)
      · rw [e]; exact h
      · exact e
  · simp
theorem mem_foldS {x : Str} : ∀ {xs ks : List Str}, x ∈ xs.foldl insS ks ↔ x ∈ xs ∨ x ∈ ks
  | [], ks => by simp
  | y :: ys, ks => by
    rw [List.foldl_cons, mem_foldS, mem_insS, List.mem_cons]
    constructor
    · rintro (h | h | h)
      · exact .inl (.inr h)
      · exact .inl (.inl h)
      · exact .inr h
    · rintro ((h | h) | h)
      · exact .inr (.inl h)
      · exact .inl h
      · exact .inr (.inr h)
theorem rising_le : ∀ {l : List Str} {p : Str}, risingS p l = true → ∀ x ∈ l, ¬ ltS x p
  | [], _, _, x, hx => by simp at hx
  | y :: ys, p, h, x, hx => by
    simp only [risingS, Bool.and_eq_true, Bool.not_eq_true', ltCps_eq, decide_eq_false_iff_not] at h
    rcases List.mem_cons.mp hx with e | e
    · rw [e]; exact h.1
    · have q := rising_le h.2 x e
      exact fun z => by
        by_cases w : ltS p y
        · exact q (ltS_trans z w)
        · by_cases e2 : p = y
          · subst e2; exact q z
          · exact h.1 (ltS_total w e2)
theorem sorted_le : ∀ {l : List Str}, sortedS l = true → l.Pairwise fun a b => ¬ ltS b a
  | [], _ => .nil
  | [a], _ => by simp
  | a :: b :: l, h => by
    have h : risingS a (b :: l) = true := h
    refine List.pairwise_cons.mpr ⟨fun x hx => rising_le h x hx, sorted_le (l := b :: l) ?_⟩
    simp only [risingS, Bool.and_eq_true] at h
    exact h.2
theorem sorted_nd : ∀ {l : List Str}, l.Pairwise (fun a b => ¬ ltS b a) → l.Nodup → l.Pairwise ltS
  | [], _, _ => .nil
  | a :: l, h, d => by
    obtain ⟨h1, h2⟩ := List.pairwise_cons.mp h
    obtain ⟨d1, d2⟩ := List.nodup_cons.mp d
    exact List.pairwise_cons.mpr ⟨fun x hx => ltS_total (h1 x hx) fun e => d1 (e ▸ hx), sorted_nd h2 d2⟩
theorem sorted_is {ns xs : List Str} (h : sortedS ns = true) (p : ns.Perm (xs.foldl insS [])) : ns = srt xs := by
  have nd : ns.Nodup := p.nodup_iff.mpr (foldS_nd .nil)
  refine uniq (sorted_nd (sorted_le h) nd) (srt_lt xs) fun x => ?_
  rw [p.mem_iff, mem_foldS, mem_srt]
  simp

/-! ### the rules of set(..) and sorted(..) -/
def SetH (w : World) (a : Addr) (ks : List Str) : HO := .ext fun h => SetS w h a ks
section
variable {X : Cx}
theorem setH_new {w : World} {P : Program} {H : Hp} {h : Heap} {a : Addr} {ks : List Str} (R : SetS w h a ks) : ObjOk P w H h a (SetH w a ks) := by
  have ⟨o, _, _, _, ho, _⟩ := R
  exact ⟨R, ⟨o, ho⟩, fun h1 h2 p k => SetS.at p k⟩
def rSetS (K : PySem.W.Frag) (w : World) : List V → Hp → VK → Prop := fun vs H Q => ∃ xs : List Str, xs.length ≤ 1000 ∧ ((∃ l, vs = [.ref l] ∧ SqL K H l (xs.map V.str)) ∨ (∃ z : Str, vs = [.str z] ∧ xs = z.cps.toList.map fun k => (⟨#[k]⟩ : Str))) ∧
  ∀ p, H p = none → Q (.ref p) (upd H p (SetH w p (xs.foldl insS [])))
theorem cr_setS (hc : X.calm = true) : CallR X (.type "set") (rSetS X.K X.w) := by
  intro pins s σ H vs us Q I r h
  obtain ⟨xs, hl, hs, q⟩ := h
  have hb : xs.length + 1 < scanBound := Nat.lt_of_le_of_lt (Nat.succ_le_succ hl) (by decide)
  have fin : ∀ (h' : Heap) (tk : Nat), SetS X.w h' s.heap.objs.size (xs.foldl insS []) → (∀ b o, s.heap.get? b = some o → h'.get? b = some o) → EP X pins σ Q (.ref s.heap.objs.size) { s with heap := h', toks := tk } := fun h' tk r1 r2 =>
    ⟨.ref _, upd H s.heap.objs.size (SetH X.w s.heap.objs.size (xs.foldl insS [])), I.laid (t' := tk) r2 (Nat.le_refl _) (setH_new r1), rfl, q _ (I.hok.fresh (Nat.le_refl _))⟩
  rcases hs with ⟨l, rfl, hq⟩ | ⟨z, rfl, rfl⟩
  · rw [Vals.ref1 r]
    obtain ⟨its, rv, pl, hz⟩ := I.list hq
    exact call_setS (I.ok.hd hc) (fills_list pl.isList (by simpa using rv.strs) hb) fin
  · obtain ⟨u, rfl, rx⟩ := vals1 r
    obtain ⟨t, rfl⟩ := rx
    exact call_setS (I.ok.hd hc) (fills_text (by simpa using hb)) fin
def rSrtS (w : World) : List V → Hp → VK → Prop := fun vs H Q => ∃ (a : Addr) (xs : List Str), vs = [.ref a] ∧ H a = some (SetH w a (xs.foldl insS [])) ∧ xs.length ≤ 1000 ∧ ∀ p, H p = none → Q (.ref p) (upd H p (.lst ((srt xs).map V.str)))
theorem foldS_len : ∀ (xs ks : List Str), (xs.foldl insS ks).length ≤ xs.length + ks.length
  | [], ks => by simp
  | x :: xs, ks => by
    have h1 := foldS_len xs (insS ks x)
    have h2 := insS_len ks x
    simp only [List.foldl_cons, List.length_cons]
    omega
theorem cr_srtS (hc : X.calm = true) : CallR X (.builtin "sorted") (rSrtS X.w) := by
  intro pins s σ H vs us Q I r h
  obtain ⟨a, xs, rfl, ha, hz, q⟩ := h
  have R : SetS X.w s.heap a (xs.foldl insS []) := (I.hok a _ ha).1
  rw [Vals.ref1 r]
  refine sorted_setS R (I.ok.hd hc) fun s' p out c ns k g o hp hg hi hs hm => ?_
  have e := sorted_is hs hm
  subst e
  have hlen : ((srt xs).map V.str).length ≤ sizeLine := by
    have h1 := foldS_len xs []
    rw [List.length_map, hm.length_eq, sizeLine_eq]
    simp only [List.length_nil] at h1
    omega
  have hn : H p = none := I.hok.fresh hp
  exact ⟨.ref p, upd H p (.lst ((srt xs).map V.str)), I.call' (ch := []) o (Un.laid k hp hn) (I.hok.laid k hp ⟨hlen, out.toList, c, vals_of_strs hi, hg⟩) (by rw [g]; exact I.bare) (fun _ z => nomatch z), rfl, q p hn⟩
end
end KU
namespace KL
open PySem L2 KU

/-! ### sorted(set(e)), e[::-1], e.upper(), e.index(f) -/
def strsD : List D → Option (List Str)
  | [] => some []
  | .str x :: ds => (strsD ds).map (x :: ·)
  | _ :: _ => none
def srtD : D → Option TV
  | .lst ds => (strsD ds).bind fun xs => if xs.length ≤ 1000 then some (.fr ((srt xs).map .str)) else none
  | .str z => if z.cps.toList.length ≤ 1000 then some (.fr ((srt (z.cps.toList.map fun k => (⟨#[k]⟩ : Str))).map .str)) else none
  | _ => none
def eSortSet : Sm → Sm := eOp1 fun _ => srtD
def revD : D → Option D
  | .tup ds => some (.tup ds.reverse)
  | _ => none
def eRev : Sm → Sm := eOp1 fun _ d => dV (revD d)
def uppD : D → Option D
  | .str x => if x.length ≤ 1000 then some (.str (Txt.upper x)) else none
  | _ => none
def eM_upper : Sm → Sm := eOp1 fun _ d => dV (uppD d)
section
variable {X : Cx} {c : Ct} {W : WX} {a b e : Expr} {fa fb : Sm} {pos p p2 q : Pos} {B : Bs} {F H : Hp} {io : List Addr} {st : Sto} {rh : Rho} {σ : St}
theorem strsD_ok : ∀ {vs : List V} {ds : List D} {xs : List Str}, RvAll c F io vs ds → strsD ds = some xs → vs = xs.map V.str
  | _, _, _, .nil, h => by cases h; rfl
  | _, _, _, .cons (d := d) r1 r2, h => by
    cases d <;> simp only [strsD] at h <;> try (cases h; done)
    rw [Option.map_eq_some_iff] at h
    obtain ⟨ys, h1, rfl⟩ := h
    cases r1
    rw [List.map_cons, strsD_ok r2 h1]
theorem rv_strs : ∀ xs : List Str, RvAll c F io (xs.map V.str) (xs.map D.str)
  | [] => .nil
  | x :: xs => .cons (.str x) (rv_strs xs)
theorem pe_srtset (hK : X.K = c.K) (hc : X.calm = true) (hg : Gl X "sorted") (hm : X.mg "sorted" = none) (hg2 : Gl X "set") (hm2 : X.mg "set" = none) (ha : PE X a (den c W fa)) (hn : notStar a = true) :
    PE X (.Call (.Name "sorted" p) [.Call (.Name "set" p2) [a] [] q] [] pos) (den c W (eSortSet fa)) := by
  have A1 : PA X [a] (tCons (den c W fa) tNil) := pa_cons ha pa_nil (star_cons hn)
  have S1 := pe_callTy (p := p2) (pos := q) (cr_setS hc) hg2 hm2 PyProof.Rows.boot_set A1 (he := star_cons hn)
  have A2 : PA X [.Call (.Name "set" p2) [a] [] q] (tCons (tCB (rSetS X.K X.w) (tCons (den c W fa) tNil)) tNil) := pa_cons S1 pa_nil rfl
  refine PE.weak (pe_callB (p := p) (pos := pos) (cr_srtS hc) hg hm PyProof.Rows.boot_sorted A2 (he := rfl)) fun σ H Q h => ?_
  refine op1_of (r := fun x H1 Q => rSetS X.K X.w [x] H1 fun y H2 => rSrtS X.w [y] H2 Q) ?_ h
  intro B F H io st rh σ x d t Q g hx hf ho
  have go : ∀ xs : List Str, xs.length ≤ 1000 → t = .fr ((srt xs).map .str) → ∀ p1, H p1 = none → rSrtS X.w [.ref p1] (upd H p1 (SetH X.w p1 (xs.foldl insS []))) Q := by
    intro xs hl et p1 h1
    subst et
    refine ⟨p1, xs, rfl, upd_same, hl, fun p2 h2 => ?_⟩
    have hne : p2 ≠ p1 := fun e => by subst e; rw [upd_same] at h2; cases h2
    have S1 : Stp c F io H F io (upd H p1 (SetH X.w p1 (xs.foldl insS []))) := Stp.lay g.sub h1
    have S2 := S1.trans g.sub (Stp.lay (o := .lst ((srt xs).map V.str)) S1.sub h2)
    rw [upd_ne hne] at h2
    obtain ⟨f1, f2, f3⟩ := g.fresh h2
    exact ho _ _ F S2 (fun _ _ => rfl) ⟨p2, _, rfl, h2, upd_same, f1, rv_strs _⟩
  cases d with
  | lst ds =>
    simp only [srtD, Option.bind_eq_some_iff] at hf
    obtain ⟨xs, e1, hf⟩ := hf
    split at hf
    · rename_i hl
      cases hf
      obtain ⟨l, vs, rfl, q1, r1⟩ := hx
      exact ⟨xs, hl, .inl ⟨l, rfl, by rw [← strsD_ok r1 e1]; exact .inl (.inl q1)⟩, go xs hl rfl⟩
    · cases hf
  | str z =>
    simp only [srtD] at hf
    split at hf
    · rename_i hl
      cases hf
      cases hx
      exact ⟨_, by simpa using hl, .inr ⟨z, rfl, rfl⟩, go _ (by simpa using hl) rfl⟩
    · cases hf
  | _ => cases hf
theorem RvAll.rev : ∀ {vs : List V} {ds : List D}, RvAll c F io vs ds → RvAll c F io vs.reverse ds.reverse
  | _, _, .nil => .nil
  | _, _, .cons h r => by
    rw [List.reverse_cons, List.reverse_cons]
    exact (RvAll.rev r).append (.cons h .nil)
theorem pe_den_rev (hK : X.K = c.K) {k : Nat} {p1 p2 p3 : Pos} (ha : PE X a (den c W fa)) : PE X (.Subscript a (.Slice none none (some (.UnaryOp .USub (.Constant (.int 1) k p1) p2)) p3) pos) (den c W (eRev fa)) := by
  refine PE.weak (pe_revT ha) fun σ H Q h => op1_of (r := fun x H1 Q => ∃ a xs, x = .ref a ∧ SqT X.K H1 a xs ∧ NewF H1 xs.reverse Q) ?_ h
  intro B F H io st rh σ x d t Q g hx hf ho
  obtain ⟨e, hf, rfl⟩ := dV_some hf
  cases d with
  | tup ds =>
    cases hf
    have hx' : Rv c F io x (.tup ds) := hx
    obtain ⟨a, vs, rfl, q1, r1⟩ := Rv.sqT (a := 0) g.sub hx'
    exact ⟨a, vs, rfl, by rw [hK]; exact q1, ho.tup g r1.rev⟩
  | _ => cases hf
theorem pe_den_upper {apos : Pos} (ha : PE X a (den c W fa)) (hb : plainBase a = true) (hl : (apos.endLine == pos.line) = true) : PE X (.Call (.Attribute a "upper" apos) [] [] pos) (den c W (eM_upper fa)) := by
  refine PE.weak (pe_upper ha (plainBase_ok hb) hl) fun σ H Q h => op1_of (r := fun x H1 Q => (∃ a, x = .str a) ∧ ∃ a, x = .str a ∧ ([] : List V) = [] ∧ a.length ≤ 5592405 ∧ Q (.str (Txt.upper a)) H1) ?_ h
  intro B F H io st rh σ x d t Q g hx hf ho
  obtain ⟨e, hf, rfl⟩ := dV_some hf
  cases d <;> simp only [uppD] at hf <;> try (cases hf; done)
  split at hf
  · rename_i hz
    cases hf
    cases hx
    exact ⟨⟨_, rfl⟩, _, rfl, rfl, by omega, ho.same g.sub (.str _)⟩
  · cases hf
end
/-- a method of a text with one argument -/
def eSM1 (f : Str → D → Option TV) (fa fb : Sm) : Sm := fun rh st => (fa rh st).bind fun t1 st1 => match t1 with
  | .d (.str x) => eOp1 (fun _ => f x) fb rh st1
  | _ => .no
def sixS (a : Str) (d : D) : Option TV := dV (match d with
  | .str b => (match Builtin.Str.occurrences a b 0 a.length 1 with
    | i :: _ => some (.int (i : Nat))
    | [] => none)
  | _ => none)
def eM_index : Sm → Sm → Sm := eSM1 sixS
section
variable {X : Cx} {c : Ct} {W : WX} {a b e : Expr} {fa fb : Sm} {pos p p2 q : Pos} {B : Bs} {F H : Hp} {io : List Addr} {st : Sto} {rh : Rho} {σ : St}
theorem sm1_of {f : Str → D → Option TV} {r : V → List V → Hp → VK → Prop} (ok : ∀ x, Op1Ok c (fun y H Q => r (.str x) [y] H Q) (fun _ => f x)) {σ : St} {H : Hp} {Q : VK} (h : den c W (eSM1 f fa fb) σ H Q) : tM1 r (den c W fa) (den c W fb) σ H Q := by
  obtain ⟨B, F, io, st, rh, g, p⟩ := h
  refine ⟨B, F, io, st, rh, g, Pst.bind g p fun t1 st1 x H1 F1 io1 e1 S1 g1 T1 p1 => ?_⟩
  cases t1 with
  | d d =>
    cases d with
    | str s =>
      cases T1
      exact ⟨⟨s, rfl⟩, op1_of (ok s) ⟨B, F1, io1, st1, rh, g1, p1⟩⟩
    | _ => exact p1.elim
  | _ => exact p1.elim
theorem pe_den_index {apos : Pos} (ha : PE X a (den c W fa)) (hb : PE X b (den c W fb)) (hn : notStar b = true) (hp : plainBase a = true) (hl : (apos.endLine == pos.line) = true) : PE X (.Call (.Attribute a "index" apos) [b] [] pos) (den c W (eM_index fa fb)) := by
  refine PE.weak (pe_m1 F.slot_str_index F.type_str_index mt_sindex ha hb (star_cons hn) (plainBase_ok hp) hl) fun σ H Q h => sm1_of (fun x => ?_) h
  intro B F H io st rh σ y d t Q g hx hf ho
  obtain ⟨e, hf2, rfl⟩ := dV_some hf
  clear hf
  cases d with
  | str z =>
    replace hf2 : (match Builtin.Str.occurrences x z 0 x.length 1 with
      | i :: _ => some (D.int (i : Nat))
      | [] => none) = some e := hf2
    split at hf2
    · rename_i i rest hi
      cases hf2
      cases hx
      exact ⟨x, z, i, rest, rfl, rfl, hi, ho.same g.sub (.int _)⟩
    · cases hf2
  | _ => cases hf2
end
end KL

namespace KL
open PySem L2

/-! ### steps that change the store -/
section
variable {X : Cx} {c : Ct} {W : WX} {B : Bs} {F F' F1 F2 H H' H1 : Hp} {io io' io1 io2 : List Addr} {st st' st1 : Sto} {rh : Rho} {σ : St} {v : V} {t : TV} {d : D}
/-- an object of the store is another one -/
theorem Good.put (g : Good c B F io st rh σ H) {n : Nat} {a : Addr} (ho : HO) (hn : io[n]? = some a) (ht : ∀ ps, ho ≠ .tbl ps) : Stp c F io H (upd F a ho) io (upd H a ho) := by
  have ha : a ∈ io := List.mem_of_getElem? hn
  have fa : F a ≠ none := g.sim.dom ha
  obtain ⟨u, e, k1, k2⟩ := g.sim.kind ha
  have e' := g.sub _ _ e
  refine ⟨fun b u e => ?_, ⟨[], by simp⟩, fun b u e nb => ?_, fun b e => ?_, fun b u e nb ht => ?_, fun b e => ?_, fun _ h => .inl h, fun h0 => tabs_upd h0 e' k1 k2, fun h => h.upd ht⟩
  · by_cases z : b = a
    · subst z; rw [upd_same] at e ⊢; exact e
    · rw [upd_ne z] at e ⊢; exact g.sub b u e
  · rw [upd_ne (fun z => by subst z; exact nb ha)]; exact e
  · by_cases z : b = a
    · subst z; exact .inl fa
    · rw [upd_ne z] at e; exact .inl e
  · rw [upd_ne (fun z => by subst z; exact nb ha)]; exact e
  · by_cases z : b = a
    · subst z; rw [upd_same] at e; cases e
    · rw [upd_ne z] at e; exact e
theorem Good.putSim (g : Good c B F io st rh σ H) {n : Nat} {a : Addr} {ho : HO} {o' : O} (hn : io[n]? = some a) (ho' : Ob c (upd F a ho) io a o') : Sim c (upd F a ho) io (st.set n o') := (g.setObj hn ho').sim
/-- the store grows -/
theorem Rv.grow {p : Addr} (hF : ∀ a o, F a = some o → a ∉ io → F' a = some o ∧ a ∉ io ++ [p]) : ∀ {v : V} {d : D}, Rv c F io v d → Rv c F' (io ++ [p]) v d := fun {v d} h => by
  have P : Per F io F' (io ++ [p]) := ⟨⟨[p], rfl⟩, fun a o e n => (hF a o e n).1, fun a o e n => (hF a o e n).2⟩
  exact h.perm P
theorem Ob.per {a : Addr} {o : O} (P : Per F io F' io') (h : Ob c F io a o) (e : F' a = F a) : Ob c F' io' a o := by
  cases o with
  | lst ds => obtain ⟨vs, e1, r⟩ := h; exact ⟨vs, by rw [e]; exact e1, r.perm P⟩
  | dct lk kvs => cases lk with
    | false => obtain ⟨vs, e1, r⟩ := h; exact ⟨vs, by rw [e]; exact e1, r.perm P⟩
    | true => obtain ⟨ob, vs, e1, r⟩ := h; exact ⟨ob, vs, by rw [e]; exact e1, r.perm P⟩
  | dcT lk kvs => cases lk with
    | false => obtain ⟨vs, e1, r⟩ := h; exact ⟨vs, by rw [e]; exact e1, r.perm P⟩
    | true => obtain ⟨ob, vs, e1, r⟩ := h; exact ⟨ob, vs, by rw [e]; exact e1, r.perm P⟩
  | ins C fs => obtain ⟨dx, vs, e1, e2, e3, k, r⟩ := h; exact ⟨dx, vs, by rw [e]; exact e1, P.per _ _ e2 e3, P.nin _ _ e2 e3, k, r.perm P⟩
/-- a new object p of the store, with what stands beside it (more) -/
theorem Sim.alloc {p : Addr} {o : O} (s : Sim c F io st) (P : Per F io F' (io ++ [p])) (hk : ∀ a ∈ io, F' a = F a) (hp : p ∉ io) (ho : Ob c F' (io ++ [p]) p o) : Sim c F' (io ++ [p]) (st ++ [o]) := by
  refine ⟨by simp [s.len], ?_, fun n a u e1 e2 => ?_⟩
  · rw [List.nodup_append]
    exact ⟨s.nd, by simp, fun a ha b hb => by simp at hb; subst hb; intro z; subst z; exact hp ha⟩
  · by_cases hn : n < io.length
    · rw [List.getElem?_append_left hn] at e1
      rw [List.getElem?_append_left (by rw [← s.len]; exact hn)] at e2
      exact (s.ob n a u e1 e2).per P (hk a (List.mem_of_getElem? e1))
    · have hlt : n < (io ++ [p]).length := (List.getElem?_eq_some_iff.mp e1).1
      have en : n = io.length := by simp at hlt; omega
      subst en
      rw [List.getElem?_append_right (Nat.le_refl _)] at e1
      rw [s.len, List.getElem?_append_right (Nat.le_refl _)] at e2
      simp at e1 e2
      subst e1 e2
      exact ho
theorem Good.alloc (g : Good c B F io st rh σ H) {p : Addr} {ho : HO} {o : O} (hp : H p = none) (hob : Ob c (upd F p ho) (io ++ [p]) p o) :
    Stp c F io H (upd F p ho) (io ++ [p]) (upd H p ho) ∧ Sim c (upd F p ho) (io ++ [p]) (st ++ [o]) := by
  obtain ⟨f1, f2, f3⟩ := g.fresh hp
  have ne : ∀ a u, H a = some u → a ≠ p := fun a u e z => by subst z; rw [hp] at e; cases e
  have neF : ∀ a u, F a = some u → a ≠ p := fun a u e => ne a u (g.sub a u e)
  have P : Per F io (upd F p ho) (io ++ [p]) := ⟨⟨[p], rfl⟩, fun a u e _ => by rw [upd_ne (neF a u e)]; exact e, fun a u e n => by simp only [List.mem_append, List.mem_singleton, not_or]; exact ⟨n, neF a u e⟩⟩
  refine ⟨⟨fun a u e => ?_, P.ext, P.per, fun a e => ?_, fun a u e _ _ => by rw [upd_ne (ne a u e)]; exact e, fun a e => ?_, fun a h => ?_, fun h0 => h0.ext fun a u e => by rw [upd_ne (ne a u e)]; exact e, fun h => h.upd (ob_nt hob)⟩, g.sim.alloc P (fun a ha => by rw [upd_ne (fun z => by subst z; exact f2 ha)]) f2 hob⟩
  · by_cases z : a = p
    · subst z; rw [upd_same] at e ⊢; exact e
    · rw [upd_ne z] at e ⊢; exact g.sub a u e
  · by_cases z : a = p
    · subst z; exact .inr hp
    · rw [upd_ne z] at e; exact .inl e
  · by_cases z : a = p
    · subst z; exact hp
    · rw [upd_ne z] at e; exact e
  · simp only [List.mem_append, List.mem_singleton] at h
    rcases h with h | h
    · exact .inl h
    · subst h; exact .inr hp
theorem rv_new {p : Addr} (s : Sim c F io st) : Rv c F' (io ++ [p]) (.ref p) (.loc st.length) := .loc (by rw [← s.len]; simp)
end

/-! ### fields -/
def fldD (f : Str) (st : Sto) : D → Option D
  | .loc n => (match st[n]? with
    | some (.ins _ fs) => fs.lookup f
    | _ => none)
  | _ => none
def eFld (f : Str) : Sm → Sm := eOp1 fun st d => dV (fldD f st d)
/-- the field f is v from now on -/
def putD (f : Str) (v : D) : List (Str × D) → List (Str × D)
  | [] => [(f, v)]
  | (g, w) :: r => if g = f then (g, v) :: r else (g, w) :: putD f v r
section
variable {X : Cx} {c : Ct} {W : WX} {B : Bs} {F F' F1 F2 H H' H1 : Hp} {io io' io1 io2 : List Addr} {st st' st1 : Sto} {rh : Rho} {σ : St} {v : V} {t : TV} {d : D} {a e : Expr} {fa fo : Sm} {pos p : Pos}
theorem RvF.look : ∀ {vs : List (Str × V)} {fs : List (Str × D)} {f : Str} {d : D}, RvF c F io vs fs → fs.lookup f = some d → ∃ v, vs.lookup f = some v ∧ Rv c F io v d
  | _, _, _, _, .nil, h => by cases h
  | _, _, f, d, .cons (x := x) h r, e => by
    rw [List.lookup_cons] at e ⊢
    by_cases q : f = x
    · have e' : (f == x) = true := by simpa using q
      rw [e'] at e ⊢
      cases e
      exact ⟨_, rfl, h⟩
    · have e' : (f == x) = false := by simpa using q
      rw [e'] at e ⊢
      exact RvF.look r e
theorem RvF.keys {κ : Type} : ∀ {vs : List (κ × V)} {fs : List (κ × D)}, RvF c F io vs fs → vs.map (·.1) = fs.map (·.1)
  | _, _, .nil => rfl
  | _, _, .cons _ r => by rw [List.map_cons, List.map_cons, RvF.keys r]
theorem RvF.len {κ : Type} : ∀ {vs : List (κ × V)} {fs : List (κ × D)}, RvF c F io vs fs → vs.length = fs.length
  | _, _, .nil => rfl
  | _, _, .cons _ r => by rw [List.length_cons, List.length_cons, RvF.len r]
theorem RvF.putF {f : Str} (hv : Rv c F io v d) : ∀ {vs : List (Str × V)} {fs : List (Str × D)}, RvF c F io vs fs → RvF c F io (L2.putF f v vs) (putD f d fs)
  | _, _, .nil => .cons hv .nil
  | _, _, .cons (x := x) h r => by
    unfold L2.putF putD
    by_cases q : x = f
    · rw [if_pos q, if_pos q]; exact .cons hv r
    · rw [if_neg q, if_neg q]; exact .cons h (RvF.putF hv r)
theorem lookup_mem {α : Type} {fs : List (Str × α)} {f : Str} {d : α} (h : fs.lookup f = some d) : (f, d) ∈ fs := PySem.mem_of_lookup h
theorem ins_at (g : Good c B F io st rh σ H) {n : Nat} {x : V} {C : Str} {fs : List (Str × D)} (h : Rv c F io x (.loc n)) (hs : st[n]? = some (.ins C fs)) :
    ∃ a dx vs, x = .ref a ∧ io[n]? = some a ∧ F a = some (.ins (c.ca C) dx vs) ∧ F dx = some (.own a) ∧ dx ∉ io ∧ ClsOk c C fs ∧ RvF c F io vs fs := by
  cases h with
  | loc hn =>
    rename_i a
    obtain ⟨dx, vs, e1, e2, e3, k, r⟩ := g.sim.ob n a _ hn hs
    exact ⟨a, dx, vs, rfl, hn, e1, e2, e3, k, r⟩
def rFld (K : PySem.W.Frag) (f : Str) (x : V) (H1 : Hp) (Q : VK) : Prop := ∃ a C dx fs v, x = .ref a ∧ H1 a = some (.ins C dx fs) ∧ Cls K C ∧ NoAttr K C f ∧ fs.lookup f = some v ∧ Q v H1
theorem fld_ok (hK : X.K = c.K) (f : Str) : Op1Ok c (rFld X.K f) (fun st d => dV (fldD f st d)) := by
  intro B F H io st rh σ x d t Q g hx hf ho
  unfold dV at hf
  rw [Option.map_eq_some_iff] at hf
  obtain ⟨r, hr, rfl⟩ := hf
  cases d with
  | loc n =>
    simp only [fldD] at hr
    split at hr
    · rename_i C fs hs
      obtain ⟨a, dx, vs, e0, _, e1, e2, e3, k, r⟩ := ins_at g hx hs
      obtain ⟨v, e4, rv⟩ := r.look hr
      exact ⟨a, c.ca C, dx, vs, v, e0, g.sub _ _ e1, by rw [hK]; exact k.1, by rw [hK]; exact k.2 _ (lookup_mem hr), e4, ho.same g.sub rv⟩
    · cases hr
  | _ => cases hr
theorem pe_den_fld (hK : X.K = c.K) {f : Str} (ha : PE X a (den c W fa)) (hb : plainBase a = true) : PE X (.Attribute a f pos) (den c W (eFld f fa)) :=
  PE.weak (pe_fld ha (plainBase_ok hb)) fun σ H Q h => op1_of (fld_ok hK f) h
end

/-! ### an expression's fresh list is laid into the store -/
/-- a value to be held by an object: a fresh list is laid into the store -/
def held (t : TV) (st : Sto) : Option (D × Sto) := match t with
  | .d d => some (d, st)
  | .fr ds => some (.loc st.length, st ++ [.lst ds])
  | .o _ => none
theorem held_ok {c : Ct} {F H F1 H1 : Hp} {io io1 : List Addr} {st1 st2 : Sto} {rh : Rho} {σ : St} {v : V} {t : TV} {d : D} (S : Stp c F io H F1 io1 H1) (s1 : Sim c F1 io1 st1) (T : Tvs c H F1 io1 rh σ H1 v t) (e : held t st1 = some (d, st2)) :
    ∃ F2 io2, Stp c F io H F2 io2 H1 ∧ Sim c F2 io2 st2 ∧ Rv c F2 io2 v d := by
  cases t with
  | d d' => simp only [held, Option.some.injEq, Prod.mk.injEq] at e; obtain ⟨rfl, rfl⟩ := e; exact ⟨F1, io1, S, s1, T⟩
  | o i => cases e
  | fr ds =>
    simp only [held, Option.some.injEq, Prod.mk.injEq] at e
    obtain ⟨rfl, rfl⟩ := e
    obtain ⟨p, vs, rfl, h0, h1, h2, r⟩ := T
    have hp : p ∉ io1 := fun z => s1.dom z h2
    have P : Per F1 io1 (upd F1 p (.lst vs)) (io1 ++ [p]) := ⟨⟨[p], rfl⟩, fun a u e _ => upd_more h2 a u e, fun a u e n => by
      simp only [List.mem_append, List.mem_singleton, not_or]
      exact ⟨n, fun z => by subst z; rw [h2] at e; cases e⟩⟩
    have S2 := S.lean h0 h1 h2
    refine ⟨upd F1 p (.lst vs), io1 ++ [p], ⟨S2.sub, ?_, S2.per, S2.new, S2.fr, S2.gro, fun a ha => ?_, S2.tab, S2.ntb⟩, s1.alloc P (fun a ha => by rw [upd_ne (fun z => by subst z; exact hp ha)]) hp ⟨vs, upd_same, r.perm P⟩, rv_new s1⟩
    · obtain ⟨m, e⟩ := S.ext
      exact ⟨m ++ [p], by rw [e, List.append_assoc]⟩
    · simp only [List.mem_append, List.mem_singleton] at ha
      rcases ha with ha | ha
      · exact S.nio a ha
      · subst ha; exact .inr h0

/-! ### o.f = e -/
/-- fl: the fields that a class may get -/
def setFld (fl : List (Str × Str)) (f : Str) (n : Nat) (d : D) (st : Sto) : Option Sto := match st[n]? with
  | some (.ins C fs) => if ((fs.lookup f).isSome || fl.contains (C, f)) && decide (fs.length < 1000) then some (st.set n (.ins C (putD f d fs))) else none
  | _ => none
def sFldS (fl : List (Str × Str)) (f : Str) (fo fe : Sm) : Ss := sThen fe fun t st1 rh => match held t st1 with
  | some (d, st2) => sThen fo (fun u st3 rh => match u with
    | .d (.loc n) => (match setFld fl f n d st3 with
      | some st4 => .nx rh st4
      | none => .no)
    | _ => .no) rh st2
  | none => .no
section
variable {X : Cx} {c : Ct} {W : WX} {B : Bs} {F F' F1 F2 H H' H1 : Hp} {io io' io1 io2 : List Addr} {st st' st1 : Sto} {rh : Rho} {σ : St} {v : V} {t : TV} {d : D} {o e : Expr} {fe fo : Sm} {pos p pos' : Pos}
theorem putD_keys {f : Str} {d : D} : ∀ {fs : List (Str × D)} {p : Str × D}, p ∈ putD f d fs → p.1 = f ∨ ∃ q ∈ fs, q.1 = p.1
  | [], p, h => by simp [putD] at h; subst h; exact .inl rfl
  | (g, w) :: r, p, h => by
    unfold putD at h
    split at h
    · rename_i q
      rcases List.mem_cons.mp h with h | h
      · subst h; exact .inl q
      · exact .inr ⟨p, List.mem_cons_of_mem _ h, rfl⟩
    · rcases List.mem_cons.mp h with h | h
      · subst h; exact .inr ⟨_, List.mem_cons_self, rfl⟩
      · rcases putD_keys h with z | ⟨q, hq, e⟩
        · exact .inl z
        · exact .inr ⟨q, List.mem_cons_of_mem _ hq, e⟩
theorem fldS_of {K : PySem.W.Frag} (hK : K = c.K) {fl : List (Str × Str)} {f : Str} (hfl : ∀ C f, (C, f) ∈ fl → NoAttr c.K (c.ca C) f) {D : Ends} {σ : St} {H : Hp} (h : denS c W (sFldS fl f fo fe) D σ H) : sFld K (den c W fo) (den c W fe) f D σ H := by
  obtain ⟨B, F, io, st, rh, g, p⟩ := h
  refine then_of g p fun t st1 v H1 F1 io1 S1 g1 s1 T1 q1 => ?_
  cases hh : held t st1 with
  | none => simp only [hh] at q1; exact q1.elim
  | some ds =>
    obtain ⟨d, st2⟩ := ds
    simp only [hh] at q1
    obtain ⟨F2, io2, S2, s2, r2⟩ := held_ok S1 s1 T1 hh
    have g2 := g.step S2 s2
    have q1 := Pss.per (S2.perm g.sub) q1
    refine then_of g2 q1 fun u st3 x H3 F3 io3 S3 g3 s3 T3 q3 => ?_
    cases u with
    | d e =>
      cases e with
      | loc n =>
        simp only at q3
        cases hs : setFld fl f n d st3 with
        | none => rw [hs] at q3; exact q3.elim
        | some st4 =>
          rw [hs] at q3
          unfold setFld at hs
          split at hs
          · rename_i C fs hst
            split at hs
            · rename_i hc
              cases hs
              rw [Bool.and_eq_true, Bool.or_eq_true, decide_eq_true_eq] at hc
              obtain ⟨a, dx, vs, e0, hn, e1, e2, e3, k, r⟩ := ins_at g3 T3 hst
              have na : NoAttr c.K (c.ca C) f := by
                rcases hc.1 with z | z
                · obtain ⟨y, hy⟩ := Option.isSome_iff_exists.mp z
                  exact k.2 _ (lookup_mem hy)
                · exact hfl C f (by simpa using z)
              have ha : a ∈ io3 := List.mem_of_getElem? hn
              have rv := r2.step S3 g2.sub
              have P : Per F3 io3 (upd F3 a (.ins (c.ca C) dx (L2.putF f v vs))) io3 := Per.upd ha
              refine ⟨a, c.ca C, dx, vs, e0, g3.sub _ _ e1, by rw [hK]; exact k.1, by rw [hK]; exact na, by rw [r.len]; exact hc.2, ?_⟩
              refine q3 σ _ (upd F3 a (.ins (c.ca C) dx (L2.putF f v vs))) io3 ((S3.perm g2.sub).trans P) (g3.setObj hn ⟨dx, _, upd_same, P.per _ _ e2 e3, e3, ⟨k.1, fun p hp => ?_⟩, (r.putF rv).perm P⟩)
              rcases putD_keys hp with z | ⟨q, hq, e⟩
              · rw [z]; exact na
              · rw [← e]; exact k.2 q hq
            · cases hs
          · cases hs
      | _ => exact q3.elim
    | _ => exact q3.elim
end
end KL

namespace KL
open PySem L2

/-! ### methods of own classes -/
theorem star_all {pos : Pos} {env : Env} : ∀ {es : List Expr}, es.all notStar = true → (backTo pos (starEach es env)).all (fun x => !x.1) = true
  | [], _ => rfl
  | e :: es, h => by
    rw [List.all_cons, Bool.and_eq_true] at h
    rw [star_cons h.1]
    show (true && (backTo pos (starEach es env)).all (fun x => !x.1)) = true
    rw [star_all h.2]
    rfl
theorem form_few {pos : Pos} {env : Env} {es : List Expr} (h : es.all notStar = true) (hl : es.length < 29) : methodCallForm (es.length + ([] : List Keyword).length) (backTo pos (starEach es env)) (backToKw pos (keywordEach [] env)) = true := by
  unfold methodCallForm
  rw [star_all h]
  have e : (backToKw pos (keywordEach [] env)) = [] := rfl
  rw [e]
  simp only [List.all_nil, Bool.and_self, Bool.true_and, List.isEmpty_nil, if_true, List.length_nil, Nat.add_zero, decide_eq_true_eq]
  omega
theorem meth_of {prog : Program} {w : World} {A : Around} {E : Value → Shared → Prop} {s : Shared} {env : Env} {o : Expr} {name : Str} {apos pos : Pos} {args : List Expr} {Q : Value → Shared → Prop}
    (hbase : attributeBase o name env (eval o env) = eval o env) (hform : methodCallForm (args.length + ([] : List Keyword).length) (backTo pos (starEach args env)) (backToKw pos (keywordEach [] env)) = true) (hline : (apos.endLine == pos.line) = true)
    (h : wpAny (model prog w) A (eval o env) (fun ov s₁ => wpAny (model prog w) A (getMethod ov name (do return (← importBound o env).getD true)) (fun fx s₂ => wpAny (model prog w) A (callWith pos fx.1 fx.2 (backTo pos (starEach args env)) (backToKw pos (keywordEach [] env))) Q E s₂) E s₁) E s) :
    wpAny (model prog w) A (eval (.Call (.Attribute o name apos) args [] pos) env) Q E s := by
  rw [PySem.arm_eval_Call, hbase]
  refine wpAny_bind (wpAny_mono h (fun ov s₁ h₁ => ?_) fun _ _ e => e)
  refine wpAny_bind (wpAny_standAt ?_)
  have hpos : methodCallPos true o env apos pos = pure pos := by unfold methodCallPos; simp [hline]
  unfold methodCall calleeOf
  rw [hform]
  simp only [if_true]
  refine wpAny_bind (wpAny_holding (wpAny_mono h₁ (fun fx s₂ h₂ => ?_) fun _ _ e => e))
  exact wpAny_bind (wpAny_of_eq hpos h₂)
/-- ml: the methods of own classes, by class and name: their names in the table -/
abbrev Ml := List ((Str × Str) × Str)
def eMeth (ml : Ml) (G : Tbl) (m : Str) (fo : Sm) (fs : List Ag) : Sm := fun rh st => (fo rh st).bind fun t st1 => match t with
  | .d (.loc n) => (match st1[n]? with
    | some (.ins C _) => (match ml.lookup (C, m) with
      | some g => (eArgsC fs rh st1).bind fun ds st2 => (G g (.loc n :: ds) st2).bind fun d st3 => .ok (.d d) st3
      | none => .no)
    | _ => .no)
  | _ => .no
structure MtAt (X : Cx) (c : Ct) (G : Tbl) (C m g : Str) (n : Nat) (k : Nat) (f : Addr) (fd : FuncData) (ps : List Str) : Prop where
  ok : FnOk X.prog X.w X.K X.mg X.base (L2N.CX X.prog X.w) k f fd ps (spM c n (G g))
  room : Room k X.A
  me : Meth X.K (c.ca C) m f
  bnd : Binds X.K fd ps []
section
variable {X : Cx} {c : Ct} {W : WX} {B : Bs} {F F' F1 F2 H H' H1 : Hp} {io io' io1 io2 : List Addr} {st st' st1 : Sto} {rh : Rho} {σ : St} {v : V} {t : TV} {d : D} {o e : Expr} {es : List Expr} {fa fo : Sm} {fs : List Ag} {pos p apos : Pos} {G : Tbl} {m : Str} {ml : Ml}
theorem nolook {K : PySem.W.Frag} {C f : Addr} {m : Str} (h : Meth K C m f) {fs : List (Str × V)} (hn : ∀ x ∈ fs.map (·.1), NoAttr K C x) : fs.lookup m = none := by
  cases q : fs.lookup m with
  | none => rfl
  | some v =>
    have z : PySem.W.findIn K (.ref C) m = some none := hn m (List.mem_map.mpr ⟨(m, v), lookup_mem q, rfl⟩)
    rw [h.at_] at z
    cases z
theorem pe_den_meth (C0 : Cok X c W) (hm : ∀ C g, ml.lookup (C, m) = some g → ∃ k f fd ps, MtAt X c G C m g (fs.length + 1) k f fd ps) (he : PE X o (den c W fo)) (hb : plainBase o = true) (ha : PA X es (denAC c W fs)) (hs : es.all notStar = true) (hl : es.length < 29) (hlen : fs.length = es.length) (hline : (apos.endLine == pos.line) = true) :
    PE X (.Call (.Attribute o m apos) es [] pos) (den c W (eMeth ml G m fo fs)) := by
  refine ⟨fun pins s σ H Q I ⟨B, F, io, st, rh, g, p⟩ => ?_⟩
  refine meth_of (plainBase_ok hb) (form_few hs hl) hline ?_
  refine thn (he.run pins s σ H (fun x H1 => ∃ C a dx vs g0 F1 io1 st1, x = .ref a ∧ H1 a = some (.ins (c.ca C) dx vs) ∧ Cls c.K (c.ca C) ∧ (∀ y ∈ vs.map (·.1), NoAttr c.K (c.ca C) y) ∧ ml.lookup (C, m) = some g0 ∧ Good c B F1 io1 st1 rh σ H1 ∧ ∃ n, io1[n]? = some a ∧
      Pst c W F1 io1 rh σ H1 Q ((eArgsC fs rh st1).bind fun ds st2 => (G g0 (.loc n :: ds) st2).bind fun d st3 => .ok (.d d) st3)) I ⟨B, F, io, st, rh, g, Pst.bind g p fun t st1 x H1 F1 io1 e1 S1 g1 T1 p1 => ?_⟩) fun u s1 ⟨x, H1, I1, rx, C, a, dx, vs, g0, F1, io1, st1, ex, ea, hc, hno, hg, g1, n, hn, p1⟩ => ?_
  · cases t with
    | d d =>
      cases d with
      | loc n =>
        have p1 : Pst c W F1 io1 rh σ H1 Q (match st1[n]? with
          | some (.ins C _) => (match ml.lookup (C, m) with
            | some g => (eArgsC fs rh st1).bind fun ds st2 => (G g (.loc n :: ds) st2).bind fun d st3 => .ok (.d d) st3
            | none => .no)
          | _ => .no) := p1
        split at p1
        · rename_i C fs' hst
          obtain ⟨a, dx, vs, e0, hn, e1, e2, e3, k, r⟩ := ins_at g1 T1 hst
          cases hg : ml.lookup (C, m) with
          | none => rw [hg] at p1; exact p1.elim
          | some g0 =>
            rw [hg] at p1
            refine ⟨C, a, dx, vs, g0, F1, io1, st1, e0, g1.sub _ _ e1, k.1, fun y hy => ?_, hg, g1, n, hn, p1⟩
            rw [r.keys] at hy
            obtain ⟨q, hq, rfl⟩ := List.mem_map.mp hy
            exact k.2 q hq
        · exact p1.elim
      | _ => exact p1.elim
    | _ => exact p1.elim
  · subst ex
    obtain rfl : u = Value.ref a := rx
    obtain ⟨k, f, fd, ps, A⟩ := hm C g0 hg
    have me := A.me
    refine getmeth_ok I1 ea (by rw [C0.hK]; exact hc) me (nolook me (by rw [C0.hK]; exact hno)) ?_
    have hA : denAC c W fs σ H1 fun vs H2 => spM c (fs.length + 1) (G g0) (.ref a :: vs) H2 Q (WE W σ) := by
      refine ⟨B, F1, io1, st1, rh, g1, PstAC.bind g1 p1 fun ds st2 vs H2 F2 io2 e2 S2 g2 r2 p2 => ?_⟩
      refine ⟨by rw [List.length_cons, r2.length, eArgsC_length e2], F2, io2, st2, .loc n :: ds, g2.sub, g2.stp.tab g2.btab, g2.stp.ntb g2.bnt, g2.sim, .cons (RvA.of (.loc (S2.ix hn))) r2, ?_⟩
      cases hr : G g0 (.loc n :: ds) st2 with
      | no => rw [hr] at p2; exact p2.elim
      | ex x s => rw [hr] at p2; exact p2
      | ok d s => rw [hr] at p2; exact fun v H' F' io' S s' T => p2 v H' F' io' S s' T
    cases es with
    | nil =>
      refine PySem.W.callWith_K0 (first := [.ref a]) I1.kIn me.kp ?_
      obtain ⟨B', F', io', st', rh', g', p'⟩ := hA
      cases fs with
      | nil => exact run_fnS (us := [.ref a]) (vs := [.ref a]) A.ok A.room A.bnd (L2N.passAt C0.tk σ) I1 (.cons rfl .nil) (p' [] H1 F' io' (Stp.refl g'.sub) g'.sim .nil)
      | cons f0 fs => cases hlen
    | cons e es =>
      rw [List.all_cons, Bool.and_eq_true] at hs
      refine PySem.W.callWith_K (first := [.ref a]) (h₀ := X.base) I.ok.mod.kin me.kp (thn (ha.run pos pins s1 σ H1 _ I1 hA) fun us s2 ⟨vs, H2, I2, r, q2⟩ => ⟨I2.kIn, ?_⟩) (star_cons hs.1) (star_any hs.2)
      exact run_fnS (us := .ref a :: us) (vs := .ref a :: vs) A.ok A.room A.bnd (L2N.passAt C0.tk σ) I2 (.cons rfl r) q2
end

/-! ### instances made -/
/-- C(..): a new instance without fields, then __init__ (g in the table) -/
def eMake (G : Tbl) (C g : Str) (fs : List Ag) : Sm := fun rh st => (eArgsC fs rh st).bind fun ds st1 => (G g (.loc st1.length :: ds) (st1 ++ [.ins C []])).bind fun d st2 => match d with
  | .non => .ok (.d (.loc st1.length)) st2
  | _ => .no
structure MkAt (X : Cx) (c : Ct) (G : Tbl) (C g : Str) (n : Nat) (k : Nat) (f : Addr) (fd : FuncData) (ps : List Str) : Prop where
  ok : FnOk X.prog X.w X.K X.mg X.base (L2N.CX X.prog X.w) k f fd ps (spM c n (G g))
  room : Room (k + 1) X.A
  mkr : Mk X.K (c.ca C) f
  bnd : Binds X.K fd ps []
  cls : Cls c.K (c.ca C)
  glo : X.mg C = some (.ref (c.ca C))
section
variable {X : Cx} {c : Ct} {W : WX} {B : Bs} {F F' F1 F2 H H' H1 : Hp} {io io' io1 io2 : List Addr} {st st' st1 : Sto} {rh : Rho} {σ : St} {v : V} {t : TV} {d : D} {o e : Expr} {es : List Expr} {fa fo : Sm} {fs : List Ag} {pos p apos : Pos} {G : Tbl} {m : Str} {ml : Ml}
theorem run_makeS {CX : CXT} {k : Nat} {f C : Addr} {fd : FuncData} {ps : List Str} {sp : Sp} {E : XK} {pins : List (Addr × Obj)} {s : Shared} {Q : VK} {us : List Value} {vs : List V} (M : Mk X.K C f) (F : FnOk X.prog X.w X.K X.mg X.base CX k f fd ps sp) (hr : Room (k + 1) X.A) (hb : Binds X.K fd ps [])
    (hx : PassesAt CX X σ E) (I : Inv X pins σ H s) (r : Vals vs us)
    (h : ∀ x dx, H x = none → H dx = none → dx ≠ x → sp (.ref x :: vs) (upd (upd H dx (.own x)) x (.ins C dx [])) (fun v H2 => v = .non ∧ Q (.ref x) H2) E) :
    wpAny (model X.prog X.w) X.A (call (.ref C) us) (EP X pins σ Q) X.xe s := by
  have hq := h (s.heap.objs.size + 1) s.heap.objs.size (I.hok.fresh (Nat.le_succ _)) (I.hok.fresh (Nat.le_refl _)) (Nat.ne_of_lt (Nat.lt_succ_self _))
  have I2 := Inv.made (C := C) I
  have r2 : Vals (V.ref (s.heap.objs.size + 1) :: vs) (Value.ref (s.heap.objs.size + 1) :: us) := .cons rfl r
  have hl : (Value.ref (s.heap.objs.size + 1) :: us ++ []).length = ps.length := by
    have e := r2.length
    rw [F.len _ _ _ _ hq] at e
    rw [List.append_nil]
    exact e.symm
  have b := hb _ (Value.ref (s.heap.objs.size + 1) :: us) I2.kIn hl
  rw [List.append_nil] at b
  refine wpAny_call (make_map (f := f) I.kIn M.makes M.init (beq_iff_eq.mp M.fn) (codeAny_mono (F.run _ X.stack _ _ ⟨Value.ref (s.heap.objs.size + 1) :: us, []⟩ (Value.ref (s.heap.objs.size + 1) :: us) _ _ E (hr.make C us [])
    (I2.env0.make C us []) b r2 hq) fun r s' hq' => ?_))
  cases r with
  | error e => exact hx pins _ _ e s' I2 hq'
  | ok fl =>
    cases fl with
    | ret u =>
      obtain ⟨v, H', I3, rv, ev, q3⟩ := I2.after hq'
      subst ev
      exact ⟨rv, ⟨V.ref (s.heap.objs.size + 1), H', I3, rfl, q3⟩⟩
    | next => exact False.elim hq'
    | brk => exact False.elim hq'
    | cont => exact False.elim hq'
/-- the new instance is a part of the store -/
theorem Good.made (g : Good c B F io st rh σ H) {C : Str} (hc : Cls c.K (c.ca C)) {x dx : Addr} (hx : H x = none) (hdx : H dx = none) (ne : dx ≠ x) :
    Stp c F io H (upd (upd F dx (.own x)) x (.ins (c.ca C) dx [])) (io ++ [x]) (upd (upd H dx (.own x)) x (.ins (c.ca C) dx [])) ∧ Sim c (upd (upd F dx (.own x)) x (.ins (c.ca C) dx [])) (io ++ [x]) (st ++ [.ins C []]) := by
  have S1 : Stp c F io H (upd F dx (.own x)) io (upd H dx (.own x)) := Stp.add g.sub hdx
  obtain ⟨f1, f2, f3⟩ := g.fresh hdx
  have g1 := g.step S1 (g.sim.more (upd_more f1))
  have hx1 : upd H dx (.own x) x = none := by rw [upd_ne (Ne.symm ne)]; exact hx
  have dn : dx ∉ io ++ [x] := by simp only [List.mem_append, List.mem_singleton, not_or]; exact ⟨f2, ne⟩
  have z := g1.alloc (p := x) (ho := .ins (c.ca C) dx []) (o := .ins C []) hx1 ⟨dx, [], upd_same, by rw [upd_ne ne, upd_same], dn, ⟨hc, fun p hp => by simp at hp⟩, .nil⟩
  exact ⟨S1.trans g.sub z.1, z.2⟩
theorem make_den {C : Str} {g0 : Str} (hc : Cls c.K (c.ca C)) {Q : VK} {vs : List V} {ds : List D} (g : Good c B F io st rh σ H) (r : RvAs c F io vs ds) {n : Nat} (hn : ds.length + 1 = n) (p : Pst c W F io rh σ H Q ((G g0 (.loc st.length :: ds) (st ++ [.ins C []])).bind fun d st2 => match d with
    | .non => .ok (.d (.loc st.length)) st2
    | _ => .no)) : ∀ x dx, H x = none → H dx = none → dx ≠ x → spM c n (G g0) (.ref x :: vs) (upd (upd H dx (.own x)) x (.ins (c.ca C) dx [])) (fun v H2 => v = .non ∧ Q (.ref x) H2) (WE W σ) := by
  intro x dx hx hdx ne
  obtain ⟨S, s1⟩ := g.made hc hx hdx ne
  have g1 := g.step S s1
  have rx : Rv c (upd (upd F dx (.own x)) x (.ins (c.ca C) dx [])) (io ++ [x]) (.ref x) (.loc st.length) := rv_new g.sim
  refine ⟨by rw [List.length_cons, r.length]; exact hn, _, _, _, .loc st.length :: ds, g1.sub, g1.stp.tab g1.btab, g1.stp.ntb g1.bnt, s1, .cons (RvA.of rx) (r.step S g.sub), ?_⟩
  cases hr : G g0 (.loc st.length :: ds) (st ++ [.ins C []]) with
  | no => rw [hr] at p; exact p.elim
  | ex e s => rw [hr] at p; exact fun H' F' io' S2 s' => p H' F' io' (S.trans g.sub S2) s'
  | ok d s =>
    rw [hr] at p
    intro v H' F' io' S2 s' T
    cases d with
    | non => cases T; exact ⟨rfl, p (.ref x) H' F' io' (S.trans g.sub S2) s' (rx.step S2 g1.sub)⟩
    | _ => exact p.elim
theorem pe_den_make {C g0 : Str} {n k : Nat} {f : Addr} {fd : FuncData} {ps : List Str} (C0 : Cok X c W) (A : MkAt X c G C g0 n k f fd ps) (hg : Gl X C) (ha : PA X es (denAC c W fs)) (hlen : fs.length = es.length) (hn : fs.length + 1 = n) (hdb : (C == ("__debug__" : Str)) = false) (hs : es.all notStar = true) :
    PE X (.Call (.Name C p) es [] pos) (den c W (eMake G C g0 fs)) := by
  refine ⟨fun pins s σ H Q I ⟨B, F, io, st, rh, g, p⟩ => ?_⟩
  refine wpAny_Call_Name_kw (ld_glob I hg A.glo ?_ hdb)
  have hA : denAC c W fs σ H fun vs H1 => ∀ x dx, H1 x = none → H1 dx = none → dx ≠ x → spM c n (G g0) (.ref x :: vs) (upd (upd H1 dx (.own x)) x (.ins (c.ca C) dx [])) (fun v H2 => v = .non ∧ Q (.ref x) H2) (WE W σ) :=
    ⟨B, F, io, st, rh, g, PstAC.bind g p fun ds st1 vs H1 F1 io1 e1 S1 g1 r1 p1 => make_den A.cls g1 r1 (by rw [eArgsC_length e1]; exact hn) p1⟩
  cases es with
  | nil =>
    cases fs with
    | nil =>
      obtain ⟨B', F', io', st', rh', g', p'⟩ := hA
      exact PySem.W.callWith_K0 I.kIn A.mkr.kp (run_makeS (us := []) A.mkr A.ok A.room A.bnd (L2N.passAt C0.tk σ) I .nil (p' [] H F' io' (Stp.refl g'.sub) g'.sim .nil))
    | cons f0 fs => cases hlen
  | cons e es =>
    rw [List.all_cons, Bool.and_eq_true] at hs
    refine PySem.W.callWith_K (h₀ := X.base) I.ok.mod.kin A.mkr.kp (thn (ha.run pos pins s σ H _ I hA) fun us s1 ⟨vs, H1, I1, r, q⟩ => ⟨I1.kIn, ?_⟩) (star_cons hs.1) (star_any hs.2)
    exact run_makeS A.mkr A.ok A.room A.bnd (L2N.passAt C0.tk σ) I1 r q
end
end KL

namespace KL
open PySem L2

/-! ### while -/
def wLoop (fc : Sm) (body : Ss) : Nat → Ss
  | 0 => fun _ _ => .no
  | n + 1 => sThen fc fun t st rh => match t with
    | .d (.bl true) => (match body rh st with
      | .nx rh2 st2 => wLoop fc body n rh2 st2
      | .ct rh2 st2 => wLoop fc body n rh2 st2
      | .bk rh2 st2 => .nx rh2 st2
      | r => r)
    | .d (.bl false) => .nx rh st
    | _ => .no
def sWhile (fc : Sm) (body : Ss) : Ss := wLoop fc body 400
section
variable {X : Cx} {c : Ct} {W : WX} {B : Bs} {F F' F1 F2 H H' H1 : Hp} {io io' io1 io2 : List Addr} {st st' st1 : Sto} {rh : Rho} {σ : St} {v : V} {t : TV} {d : D}
theorem while_of {fc : Sm} {body : Ss} {D : Ends} {σ : St} {H : Hp} (n : Nat) (h : denS c W (wLoop fc body n) D σ H) : tWhile (denT c W fc) (denS c W body) D σ H := by
  refine ⟨fun m σ H => denS c W (wLoop fc body m) D σ H, ⟨n, h⟩, ?_⟩
  intro m σ H h
  obtain ⟨B, F, io, st, rh, g, p⟩ := h
  cases m with
  | zero => exact p.elim
  | succ k =>
    refine then_of g p fun t st1 v H1 F1 io1 S g1 s1 T q => ?_
    have P := S.perm g.sub
    cases t with
    | d d =>
      cases d with
      | bl b =>
        cases T
        refine ⟨b, rfl, ?_⟩
        cases b with
        | false => exact iteF (q σ H1 F1 io1 P g1)
        | true =>
          refine iteT ⟨fun σ' H' => denS c W (wLoop fc body k) D σ' H', fun σ' H' z => ⟨k, Nat.lt_succ_self k, z⟩, B, F1, io1, st1, rh, g1, ?_⟩
          have q : Pss c W B F io D (match body rh st1 with
            | .nx rh2 st2 => wLoop fc body k rh2 st2
            | .ct rh2 st2 => wLoop fc body k rh2 st2
            | .bk rh2 st2 => .nx rh2 st2
            | r => r) := q
          cases hb : body rh st1 with
          | nx rh2 st2 =>
            rw [hb] at q
            exact fun σ2 H2 F2 io2 P2 g2 => ⟨B, F2, io2, st2, rh2, g2, Pss.per (r := wLoop fc body k rh2 st2) (P.trans P2) q⟩
          | ct rh2 st2 =>
            rw [hb] at q
            exact fun σ2 H2 F2 io2 P2 g2 => ⟨B, F2, io2, st2, rh2, g2, Pss.per (r := wLoop fc body k rh2 st2) (P.trans P2) q⟩
          | bk rh2 st2 =>
            rw [hb] at q
            exact fun σ2 H2 F2 io2 P2 g2 => q σ2 H2 F2 io2 (P.trans P2) g2
          | rt d s => rw [hb] at q; exact q
          | ex e rh3 s => rw [hb] at q; exact Pss.per (r := .ex e rh3 s) P q
          | no => rw [hb] at q; exact q
      | _ => exact q.elim
    | _ => exact q.elim
end

/-! ### raise -/
structure XcAt (X : Cx) (c : Ct) (e : Str) (C : Addr) : Prop where
  at_ : c.xc e = .ref C
  exc : PySem.W.excIn X.K C He.veBase "ValueError.__new__" = true
  glo : X.mg e = some (.ref C)
  keep : PySem.W.keepIn X.K (.ref C) = true
  sub : PySem.W.subIn X.K (.ref C) (.type "BaseException") = some true
  ty : PySem.W.typeIn X.K (.ref C) = some (.type "type")
def sRaise (e : Str) : Ss := fun rh st => .ex e rh st
section
variable {X : Cx} {c : Ct} {W : WX}
theorem ps_den_raise (C0 : Cok X c W) {e m : Str} {C : Addr} {j : Nat} {p p2 p3 pos : Pos} (A : XcAt X c e C) (hg : Gl X e) (hdb : (e == ("__debug__" : Str)) = false) : PS X (.Raise (some (.Call (.Name e p) [.Constant (.str m) j p2] [] p3)) none pos) (denS c W (sRaise e)) := by
  refine PS.weak (L2N.ps_raise C0.calm C0.tk (L2N.pmk_own PySem.F.excBase_ValueError A.exc A.glo A.keep (raises_own A.sub A.ty) hg hdb)) fun D σ H h => ?_
  obtain ⟨B, F, io, st, rh, g, p⟩ := h
  have q := p σ H F io Per.refl g
  rw [A.at_] at q
  exact q
end

/-! ### try: .. except L: suite -/
def noEx : RS → RS
  | .ex _ _ _ => .no
  | r => r
/-- xs: the exceptions that the clause catches -/
def sTry (xs : List Str) (fb fs : Ss) : Ss := fun rh st => match fb rh st with
  | .ex e rh' st' => if xs.contains e then noEx (fs rh' st') else .no
  | r => r
/-- .. as e: return the exception's word -/
def sTryW (ws : List (Str × Str)) (i : Nat) (fb : Ss) : Ss := fun rh st => match fb rh st with
  | .ex e _ st' => (match ws.lookup e with
    | some w => .rt (.str w) st'
    | none => .no)
  | r => r
section
variable {X : Cx} {c : Ct} {W : WX}
theorem noEx_pss {B : Bs} {F : Hp} {io : List Addr} {D : Ends} {r : RS} (h : Pss c W B F io D (noEx r)) : Pss c W0 B F io D r := by
  cases r with
  | ex e rh st => exact h.elim
  | _ => exact h
theorem try_of {cl : Value} {xs : List Str} (hx : ∀ e ∈ xs, PySem.W.exmOne X.K (c.xc e) cl = some true) {fb fs : Ss} {D : Ends} {σ : St} {H : Hp} (h : denS c W (sTry xs fb fs) D σ H) :
    denS c (wMany X.K W D [(cl, fun _ _ _ => denS c W0 fs)]) fb D σ H := by
  obtain ⟨B, F, io, st, rh, g, p⟩ := h
  refine ⟨B, F, io, st, rh, g, ?_⟩
  unfold sTry at p
  cases hb : fb rh st with
  | nx rh2 st2 => rw [hb] at p; exact p
  | ct rh2 st2 => rw [hb] at p; exact p
  | bk rh2 st2 => rw [hb] at p; exact p
  | rt d s => rw [hb] at p; exact p
  | no => rw [hb] at p; exact p
  | ex e rh2 st2 =>
    rw [hb] at p
    have p : Pss c W B F io D (if xs.contains e = true then noEx (fs rh2 st2) else .no) := p
    split at p
    · rename_i hc
      intro σ' H' F' io' P' g'
      refine ⟨true, hx e (by simpa using hc), fun _ a _ => ⟨B, F', io', st2, rh2, g', noEx_pss (Pss.per P' p)⟩, fun z => by cases z⟩
    · exact p.elim
end
end KL

namespace KL
open PySem L2

/-! ### join, split, partition -/
def joinD (sep : Str) : D → Option TV
  | .lst ds => (strsD ds).bind fun ys => if (ys.map (·.length)).sum + ys.length * sep.length ≤ 16777216 then some (.d (.str (Txt.join sep ys))) else none
  | .tup ds => (strsD ds).bind fun ys => if (ys.map (·.length)).sum + ys.length * sep.length ≤ 16777216 then some (.d (.str (Txt.join sep ys))) else none
  | _ => none
def splitD (a : Str) : D → Option TV
  | .str b => if (b.length == 0) = false ∧ a.length + 2 ≤ sizeLine then some (.fr ((Txt.split a b).map .str)) else none
  | _ => none
def partD (a : Str) : D → Option TV
  | .str b => if (b.length == 0) = false ∧ a.length ≤ sizeLine then some (.d (.raw [.str (Txt.partition a b).1, .str (Txt.partition a b).2.1, .str (Txt.partition a b).2.2])) else none
  | _ => none
def eM_join : Sm → Sm → Sm := eSM1 joinD
def eM_split : Sm → Sm → Sm := eSM1 splitD
def eM_part : Sm → Sm → Sm := eSM1 partD
section
variable {X : Cx} {c : Ct} {W : WX} {a b e : Expr} {fa fb : Sm} {pos p p2 q apos : Pos} {B : Bs} {F H : Hp} {io : List Addr} {st : Sto} {rh : Rho} {σ : St}
theorem pe_den_join (hK : X.K = c.K) (ha : PE X a (den c W fa)) (hb : PE X b (den c W fb)) (hn : notStar b = true) (hp : plainBase a = true) (hl : (apos.endLine == pos.line) = true) : PE X (.Call (.Attribute a "join" apos) [b] [] pos) (den c W (eM_join fa fb)) := by
  refine PE.weak (pe_join ha hb (star_cons hn) (plainBase_ok hp) hl) fun σ H Q h => sm1_of (fun x => ?_) h
  intro B F H io st rh σ y d t Q g hx hf ho
  cases d with
  | lst ds =>
    simp only [joinD, Option.bind_eq_some_iff] at hf
    obtain ⟨ys, h1, hf⟩ := hf
    split at hf
    · rename_i hz
      cases hf
      obtain ⟨p, vs, rfl, q1, r1⟩ := hx
      exact ⟨x, p, ys, rfl, rfl, .inl (.inl (.inl (by rw [← strsD_ok r1 h1]; exact q1))), hz, ho.same g.sub (.str _)⟩
    · cases hf
  | tup ds =>
    simp only [joinD, Option.bind_eq_some_iff] at hf
    obtain ⟨ys, h1, hf⟩ := hf
    split at hf
    · rename_i hz
      cases hf
      have hx' : Rv c F io y (.tup ds) := hx
      obtain ⟨p, vs, rfl, q1, r1⟩ := Rv.sqT (a := 0) g.sub hx'
      exact ⟨x, p, ys, rfl, rfl, .inr (by rw [← strsD_ok r1 h1, hK]; exact q1), hz, ho.same g.sub (.str _)⟩
    · cases hf
  | _ => cases hf
theorem pe_den_split (ha : PE X a (den c W fa)) (hb : PE X b (den c W fb)) (hn : notStar b = true) (hp : plainBase a = true) (hl : (apos.endLine == pos.line) = true) : PE X (.Call (.Attribute a "split" apos) [b] [] pos) (den c W (eM_split fa fb)) := by
  refine PE.weak (pe_split ha hb (star_cons hn) (plainBase_ok hp) hl) fun σ H Q h => sm1_of (fun x => ?_) h
  intro B F H io st rh σ y d t Q g hx hf ho
  cases d with
  | str z =>
    simp only [splitD] at hf
    split at hf
    · rename_i hz
      cases hf
      cases hx
      refine ⟨x, z, rfl, rfl, hz.1, hz.2, fun p hp => ho.lst g (rv_strs _) p hp⟩
    · cases hf
  | _ => cases hf
theorem pe_den_part (ha : PE X a (den c W fa)) (hb : PE X b (den c W fb)) (hn : notStar b = true) (hp : plainBase a = true) (hl : (apos.endLine == pos.line) = true) : PE X (.Call (.Attribute a "partition" apos) [b] [] pos) (den c W (eM_part fa fb)) := by
  refine PE.weak (pe_partition ha hb (star_cons hn) (plainBase_ok hp) hl) fun σ H Q h => sm1_of (fun x => ?_) h
  intro B F H io st rh σ y d t Q g hx hf ho
  cases d with
  | str z =>
    simp only [partD] at hf
    split at hf
    · rename_i hz
      cases hf
      cases hx
      exact ⟨x, z, rfl, rfl, hz.1, hz.2, fun p hp => ho.raw g (.cons (.str _) (.cons (.str _) (.cons (.str _) .nil))) p hp⟩
    · cases hf
  | _ => cases hf
end

/-! ### min, max of two -/
def mnD : D → D → Option TV
  | .int i, .int j => some (.d (.int (if j < i then j else i)))
  | _, _ => none
def mxD : D → D → Option TV
  | .int i, .int j => some (.d (.int (if j > i then j else i)))
  | _, _ => none
def eMin2 : Sm → Sm → Sm := eOp2 fun _ => mnD
def eMax2 : Sm → Sm → Sm := eOp2 fun _ => mxD
section
variable {X : Cx} {c : Ct} {W : WX} {a b e : Expr} {fa fb : Sm} {pos p : Pos}
theorem pe_den_min2 (hc : X.calm = true) (hg : Gl X "min") (hm : X.mg "min" = none) (ha : PE X a (den c W fa)) (hb : PE X b (den c W fb)) (hn : notStar a = true) (hn2 : notStar b = true) : PE X (.Call (.Name "min" p) [a, b] [] pos) (den c W (eMin2 fa fb)) := by
  have A1 : PA X [a, b] (tCons (den c W fa) (tCons (den c W fb) tNil)) := pa_cons ha (pa_cons hb pa_nil (star_cons hn2)) (star_cons hn)
  refine PE.weak (pe_callB (call_min2 hc) hg hm (by decide +kernel) A1 (he := star_cons hn) (hpl := star_any (by simp [hn2]))) fun σ H Q h => op2_of (r := fun x y H Q => ∃ i j, [x, y] = [V.int i, V.int j] ∧ Q (.int (if j < i then j else i)) H) ?_ h
  intro B F H io st rh σ x y d e t Q g hx hy hf ho
  cases d <;> cases e <;> simp only [mnD, reduceCtorEq] at hf
  cases hf; cases hx; cases hy
  exact ⟨_, _, rfl, ho.same g.sub (.int _)⟩
theorem pe_den_max2 (hc : X.calm = true) (hg : Gl X "max") (hm : X.mg "max" = none) (ha : PE X a (den c W fa)) (hb : PE X b (den c W fb)) (hn : notStar a = true) (hn2 : notStar b = true) : PE X (.Call (.Name "max" p) [a, b] [] pos) (den c W (eMax2 fa fb)) := by
  have A1 : PA X [a, b] (tCons (den c W fa) (tCons (den c W fb) tNil)) := pa_cons ha (pa_cons hb pa_nil (star_cons hn2)) (star_cons hn)
  refine PE.weak (pe_callB (call_max2 hc) hg hm (by decide +kernel) A1 (he := star_cons hn) (hpl := star_any (by simp [hn2]))) fun σ H Q h => op2_of (r := fun x y H Q => ∃ i j, [x, y] = [V.int i, V.int j] ∧ Q (.int (if j > i then j else i)) H) ?_ h
  intro B F H io st rh σ x y d e t Q g hx hy hf ho
  cases d <;> cases e <;> simp only [mxD, reduceCtorEq] at hf
  cases hf; cases hx; cases hy
  exact ⟨_, _, rfl, ho.same g.sub (.int _)⟩
end
end KL

namespace KL
open PySem L2

/-! ### dict(t) of a tuple of pairs -/
/-- a tuple that has no dict of its own -/
def SqF (K : PySem.W.Frag) (H : Hp) (a : Addr) (xs : List V) : Prop := (∃ o, H a = some (.frz o (.tup xs)) ∧ o.dict = none) ∨ KTup K a xs
section
variable {X : Cx} {pins : List (Addr × Obj)} {σ : St} {H : Hp} {s : Shared}
theorem SqF.seq {a : Addr} {xs : List V} (I : Inv X pins σ H s) (h : SqF X.K H a xs) : ∃ its : List Value, Vals xs its ∧ PySem.PlainSeq "tuple" s.heap a its.toArray ∧ xs.length ≤ sizeLine := by
  rcases h with ⟨o, h, hd⟩ | ⟨o, its, n, hk, hc, hd, hs, hz, r⟩
  · obtain ⟨e, z, its, r, o', e', hc, n, hdat⟩ := I.hok a _ h
    rw [e] at e'
    cases e'
    exact ⟨its, r, ⟨o, n, e, hc, hd, hdat⟩, z⟩
  · refine ⟨its.toList, r, ⟨o, n, I.kIn a o hk, hc, hd, by simpa using hs⟩, ?_⟩
    have e := r.length
    simp only [Array.length_toList] at e
    omega
theorem prs_of (I : Inv X pins σ H s) : ∀ {ps : List Addr} {kvs : List (Key × V)}, Paired (fun p kv => SqT X.K H p [kV kv.1, kv.2]) ps kvs →
    ∃ (vps : List (Value × Value)) (prs : List (Key × Value)), KV kvs prs ∧ vps.length = ps.length ∧ prs.length = ps.length ∧ ∀ (j : Nat) (k v : Value), vps[j]? = some (k, v) → ∃ b q, ps[j]? = some b ∧ PyProof.Rows.IsTup s.heap b #[k, v] ∧ prs[j]? = some (q, v) ∧ keyIs q k = true
  | _, _, .nil => ⟨[], [], .nil, rfl, rfl, fun j k v e => by simp at e⟩
  | _, _, .cons (a := p) (b := kv) h t => by
    obtain ⟨vps, prs, r, hl, hl2, hp⟩ := prs_of I t
    obtain ⟨its, rv, ht, _⟩ := I.tuple h
    obtain ⟨u, y, ei, ru, ry⟩ := vals2 rv
    subst ei
    refine ⟨(u, y) :: vps, (kv.1, y) :: prs, .cons ⟨rfl, ry⟩ r, by simp [hl], by simp [hl2], fun j k v e => ?_⟩
    cases j with
    | zero =>
      simp at e
      obtain ⟨rfl, rfl⟩ := e
      exact ⟨p, kv.1, rfl, ht, rfl, kV_is (P := X.prog) (w := X.w) ru⟩
    | succ j =>
      obtain ⟨b, q, e1, e2, e3, e4⟩ := hp j k v (by simpa using e)
      exact ⟨b, q, by simpa using e1, e2, by simpa using e3, e4⟩
theorem call_dictF (hcalm : X.calm = true) : CallR X (.type "dict") (fun xs H Q => ∃ (a : Addr) (ps : List Addr) (kvs : List (Key × V)), xs = [.ref a] ∧ SqF X.K H a (ps.map V.ref) ∧ Paired (fun p kv => SqT X.K H p [kV kv.1, kv.2]) ps kvs ∧
    ∀ p, H p = none → Q (.ref p) (upd H p (.dK (mergeK [] kvs)))) := by
  intro pins s σ H xs us Q I r q
  obtain ⟨a, ps, kvs, ex, hq, hp, q⟩ := q
  subst ex
  obtain ⟨u, eu, rx⟩ := vals1 r
  subst eu
  cases rx
  obtain ⟨its, rv, pl, hz⟩ := hq.seq I
  have ei := refs_at rv
  subst ei
  rw [List.length_map] at hz
  obtain ⟨vps, prs, rel, hl, hl2, hpr⟩ := prs_of I hp
  have PI : PySem.PairItems s.heap (ps.map Value.ref).toArray (fun j => ps.getD j 0) vps := by
    refine ⟨by simp [hl], fun j k v e => ?_⟩
    obtain ⟨b, q', e1, e2, e3, e4⟩ := hpr j k v e
    exact ⟨by simp [e1], .inl (by simp only [List.getD_eq_getElem?_getD, e1, Option.getD_some]; exact e2)⟩
  refine PySem.call_dict_pairs (knd := mixKind X.prog X.w) (kvs := prs) (PySem.PairArg.tuple a _ _ vps) (I.ok.hd hcalm) ⟨pl, PI⟩ ⟨by rw [hl2, hl], fun i k v hr => ?_⟩ (by rw [hl]; exact hz) fun h' tk hd' k => ?_
  · obtain ⟨b, q', e1, e2, e3, e4⟩ := hpr i k v hr
    exact ⟨q', e3, e4⟩
  · have hm : (s.heap.objs.size == sysModules) = false := beq_eq_false_iff_ne.mpr (Nat.ne_of_gt I.big)
    have hlen : (mergeK [] kvs).length ≤ sizeLine := by
      refine Nat.le_trans (length_mergeK kvs []) ?_
      rw [List.length_nil, Nat.zero_add, rel.length, hl2]
      exact hz
    exact ⟨.ref s.heap.objs.size, upd H s.heap.objs.size (.dK (mergeK [] kvs)), I.laid (t' := tk) (fun b o e => k b o (by simp) e) (Nat.le_refl _) (show ObjOk X.prog X.w _ _ _ (.dK (mergeK [] kvs)) from ⟨hlen, hm, merged [] prs, KV.merge rel .nil, hd'⟩), rfl, q _ (I.hok.fresh (Nat.le_refl _))⟩
theorem call_dictC : CallR X (.type "dict") (fun xs H Q => ∃ (a : Addr) (kvs : List (Key × V)), xs = [.ref a] ∧ Rd H a (.dK kvs) ∧ ∀ p, H p = none → Q (.ref p) (upd H p (.dK kvs))) := by
  intro pins s σ H xs us Q I r q
  obtain ⟨a, kvs, ex, e, q⟩ := q
  subst ex
  obtain ⟨u, eu, rx⟩ := vals1 r
  subst eu
  cases rx
  exact d_copyOf I e fun p s' hp I' => ⟨.ref p, _, I', rfl, q p hp⟩
end

/-! ### dicts by data -/
/-- in its place, or at the end -/
def putS (kvs : List (Str × D)) (k : Str) (d : D) : List (Str × D) :=
  if (kvs.any fun kv => decide (kv.1 = k)) = true then kvs.map (fun kv => if kv.1 = k then (kv.1, d) else kv) else kvs ++ [(k, d)]
def dropS (kvs : List (Str × D)) (k : Str) : List (Str × D) := kvs.filter fun kv => decide (kv.1 ≠ k)
def mergeS (kvs more : List (Str × D)) : List (Str × D) := more.foldl (fun acc kv => putS acc kv.1 kv.2) kvs
abbrev kS (vs : List (Str × V)) : List (Key × V) := vs.map fun p => (Sum.inr p.1, p.2)
section
variable {c : Ct} {F : Hp} {io : List Addr}
theorem any_kS (k : Str) : ∀ vs : List (Str × V), ((kS vs).any fun kv => decide (kv.1 = Sum.inr k)) = vs.any fun kv => decide (kv.1 = k)
  | [] => rfl
  | p :: vs => by
    rw [kS, List.map_cons, List.any_cons, List.any_cons]
    have e : decide ((Sum.inr p.1 : Key) = Sum.inr k) = decide (p.1 = k) := key_rr _ _
    rw [e]
    exact congrArg _ (any_kS k vs)
theorem any_rvF {κ : Type} (q : κ → Bool) : ∀ {vs : List (κ × V)} {kvs : List (κ × D)}, RvF c F io vs kvs → (vs.any fun kv => q kv.1) = kvs.any fun kv => q kv.1
  | _, _, .nil => rfl
  | _, _, .cons _ r => by rw [List.any_cons, List.any_cons, any_rvF q r]
theorem RvF.append {κ : Type} : ∀ {vs ws : List (κ × V)} {ds es : List (κ × D)}, RvF c F io vs ds → RvF c F io ws es → RvF c F io (vs ++ ws) (ds ++ es)
  | _, _, _, _, .nil, s => s
  | _, _, _, _, .cons h r, s => .cons h (r.append s)
theorem RvF.repl {k : Str} {v : V} {d : D} (h : Rv c F io v d) : ∀ {vs : List (Str × V)} {kvs : List (Str × D)}, RvF c F io vs kvs → RvF c F io (vs.map (fun kv => if kv.1 = k then (kv.1, v) else kv)) (kvs.map (fun kv => if kv.1 = k then (kv.1, d) else kv))
  | _, _, .nil => .nil
  | _, _, .cons (x := x) hd r => by
    rw [List.map_cons, List.map_cons]
    by_cases q : x = k
    · rw [if_pos q, if_pos q]; exact .cons h (RvF.repl h r)
    · rw [if_neg q, if_neg q]; exact .cons hd (RvF.repl h r)
theorem RvF.put {vs : List (Str × V)} {kvs : List (Str × D)} {k : Str} {v : V} {d : D} (r : RvF c F io vs kvs) (h : Rv c F io v d) : ∃ ws, putK (kS vs) (Sum.inr k) v = kS ws ∧ RvF c F io ws (putS kvs k d) := by
  unfold putK putS
  rw [any_kS, any_rvF (fun x => decide (x = k)) r]
  split
  · refine ⟨vs.map (fun kv => if kv.1 = k then (kv.1, v) else kv), ?_, ?_⟩
    · rw [kS, kS, List.map_map, List.map_map]
      apply List.map_congr_left
      intro p _
      show (if (Sum.inr p.1 : Key) = Sum.inr k then _ else _) = _
      by_cases e : p.1 = k
      · rw [if_pos (by rw [e]), Function.comp_apply, if_pos e]
      · rw [if_neg (fun z => e (Sum.inr.inj z)), Function.comp_apply, if_neg e]
    · exact RvF.repl h r
  · exact ⟨vs ++ [(k, v)], by simp [kS], r.append (.cons h .nil)⟩
theorem RvF.dropS {vs : List (Str × V)} {kvs : List (Str × D)} {k : Str} (r : RvF c F io vs kvs) : ∃ ws, dropK (kS vs) (Sum.inr k) = kS ws ∧ RvF c F io ws (KL.dropS kvs k) := by
  unfold dropK KL.dropS
  refine ⟨vs.filter fun kv => decide (kv.1 ≠ k), ?_, ?_⟩
  · rw [kS, kS, List.filter_map]
    congr 1
    apply List.filter_congr
    intro p _
    simp
  · induction r with
    | nil => exact .nil
    | @cons x w vs e ds hd r ih =>
      rw [List.filter_cons, List.filter_cons]
      by_cases q : x = k
      · rw [if_neg (by simp [q]), if_neg (by simp [q])]; exact ih
      · rw [if_pos (by simp [q]), if_pos (by simp [q])]; exact .cons hd ih
theorem RvF.merge : ∀ {ws : List (Str × V)} {more : List (Str × D)} {vs : List (Str × V)} {kvs : List (Str × D)}, RvF c F io ws more → RvF c F io vs kvs → ∃ us, mergeK (kS vs) (kS ws) = kS us ∧ RvF c F io us (mergeS kvs more)
  | _, _, vs, kvs, .nil, r => ⟨vs, rfl, r⟩
  | _, _, vs, kvs, .cons (x := x) (v := v) (vs := ws) (d := d) (ds := ds) h t, r => by
    obtain ⟨us, e, r2⟩ := r.put (k := x) h
    obtain ⟨zs, e2, r3⟩ := RvF.merge t r2
    refine ⟨zs, ?_, r3⟩
    rw [← e2, ← e]
    rfl
end
/-- pairs of a text and a value -/
def prsD : List D → Option (List (Str × D))
  | [] => some []
  | .tup [.str k, d] :: ds => (prsD ds).map ((k, d) :: ·)
  | _ :: _ => none
def dictD (st : Sto) : D → Option (List (Str × D))
  | .loc n => (match st[n]? with
    | some (.dct _ kvs) => some kvs
    | _ => none)
  | .tup ds => (prsD ds).map (mergeS [])
  | .lst ds => (prsD ds).map (mergeS [])
  | _ => none
def eDict (fa : Sm) : Sm := fun rh st => (fa rh st).bind fun t st1 => match (view rh st1 t).bind (dictD st1) with
  | some kvs => .ok (.d (.loc st1.length)) (st1 ++ [.dct false kvs])
  | none => .no
def eDictNew : Sm := fun _ st => .ok (.d (.loc st.length)) (st ++ [.dct false []])
section
variable {X : Cx} {c : Ct} {W : WX} {B : Bs} {F F' F1 F2 H H' H1 : Hp} {io io' io1 io2 : List Addr} {st st' st1 : Sto} {rh : Rho} {σ : St} {v : V} {t : TV} {d : D} {a b e o : Expr} {fa fb fo fe : Sm} {pos p : Pos}
theorem newDct (g : Good c B F io st rh σ H) {vs : List (Str × V)} {kvs : List (Str × D)} (r : RvF c F io vs kvs) {Q : VK} (h : Pst c W F io rh σ H Q (.ok (.d (.loc st.length)) (st ++ [.dct false kvs]))) (q : Addr) (hq : H q = none) : Q (.ref q) (upd H q (.dK (kS vs))) := by
  obtain ⟨f1, f2, f3⟩ := g.fresh hq
  have P : Per F io (upd F q (.dK (kS vs))) (io ++ [q]) := ⟨⟨[q], rfl⟩, fun a u e _ => upd_more f1 a u e, fun a u e n => by
    simp only [List.mem_append, List.mem_singleton, not_or]
    exact ⟨n, fun z => by subst z; rw [f1] at e; cases e⟩⟩
  obtain ⟨S, s1⟩ := g.alloc (p := q) (ho := .dK (kS vs)) (o := .dct false kvs) hq ⟨vs, upd_same, r.perm P⟩
  exact h _ _ _ _ S s1 (rv_new g.sim)
theorem pe_den_dnew : PE X (.Dict [] [] pos) (den c W eDictNew) :=
  PE.weak pe_dnewK fun σ H Q ⟨B, F, io, st, rh, g, p⟩ q hq => newDct (vs := []) g .nil p q hq
theorem prs_rv (hK : X.K = c.K) (hs : ∀ a o, F a = some o → H a = some o) : ∀ {vs : List V} {ds : List D} {kvs : List (Str × D)}, RvAll c F io vs ds → prsD ds = some kvs →
    ∃ (ps : List Addr) (ws : List (Str × V)), vs = ps.map V.ref ∧ Paired (fun p (kv : Key × V) => SqT X.K H p [kV kv.1, kv.2]) ps (kS ws) ∧ RvF c F io ws kvs
  | _, _, _, .nil, e => by cases e; exact ⟨[], [], rfl, .nil, .nil⟩
  | _, _, kvs, .cons (d := d) h r, e => by
    unfold prsD at e
    split at e
    · rename_i z1 z2
      cases z2
    · rename_i k d' ds z
      cases z
      rw [Option.map_eq_some_iff] at e
      obtain ⟨kvs', e1, rfl⟩ := e
      obtain ⟨ps, ws, rfl, h2, h3⟩ := prs_rv hK hs r e1
      obtain ⟨a, us, rfl, q1, r1⟩ := Rv.sqT (a := 0) hs h
      cases r1 with
      | cons hk r1 =>
        cases hk
        cases r1 with
        | cons hv r1 =>
          cases r1
          rename_i v
          exact ⟨a :: ps, (k, v) :: ws, rfl, .cons (by rw [hK]; exact q1) h2, .cons hv h3⟩
    · cases e
theorem pe_den_dict (hK : X.K = c.K) (hc : X.calm = true) (hg : Gl X "dict") (hm : X.mg "dict" = none) (ha : PE X a (den c W fa)) (hn : notStar a = true) : PE X (.Call (.Name "dict" p) [a] [] pos) (den c W (eDict fa)) := by
  have A1 : PA X [a] (tCons (den c W fa) tNil) := pa_cons ha pa_nil (star_cons hn)
  refine PE.weak (pe_callTy ((call_dictC.or (call_dictF hc)).or (call_dictP hc)) hg hm (by decide +kernel) A1 (he := star_cons hn)) fun σ H Q ⟨B, F, io, st, rh, g, p⟩ => ?_
  refine ⟨B, F, io, st, rh, g, Pst.bind g p fun t1 st1 x H1 F1 io1 e1 S1 g1 T1 p1 => ?_⟩
  cases h1 : view rh st1 t1 with
  | none => rw [h1] at p1; exact p1.elim
  | some d =>
    rw [h1] at p1
    replace p1 : Pst c W F1 io1 rh σ H1 Q (match dictD st1 d with
      | some kvs => .ok (.d (.loc st1.length)) (st1 ++ [.dct false kvs])
      | none => .no) := p1
    cases h2 : dictD st1 d with
    | none => rw [h2] at p1; exact p1.elim
    | some kvs =>
      rw [h2] at p1
      have hv := view_ok g1 (T1.r g1.sim) h1
      cases d with
      | loc n =>
        simp only [dictD] at h2
        split at h2
        · rename_i lk kvs' hs
          cases h2
          cases hv with
          | loc hn =>
            rename_i a'
            have ob := g1.sim.ob n a' _ hn hs
            cases lk with
            | false => obtain ⟨vs, e, r⟩ := ob; exact .inl (.inl ⟨a', kS vs, rfl, .inl (g1.sub _ _ e), fun q hq => newDct g1 r p1 q hq⟩)
            | true => obtain ⟨ob', vs, e, r⟩ := ob; exact .inl (.inl ⟨a', kS vs, rfl, .inr ⟨ob', g1.sub _ _ e⟩, fun q hq => newDct g1 r p1 q hq⟩)
        · cases h2
      | tup ds =>
        simp only [dictD, Option.map_eq_some_iff] at h2
        obtain ⟨kvs', e1, rfl⟩ := h2
        have hv' : Rv c F1 io1 x (.tup ds) := hv
        cases hv' with
        | tup ht r =>
          obtain ⟨ps, ws, rfl, h3, h4⟩ := prs_rv hK g1.sub r e1
          obtain ⟨us, e5, r5⟩ := RvF.merge h4 (RvF.nil (c := c) (F := F1) (io := io1))
          refine .inl (.inr ⟨_, ps, kS ws, rfl, ?_, h3, fun q hq => ?_⟩)
          · rcases ht with ⟨o, z1, z2, z3⟩ | z
            · exact .inl ⟨o, g1.sub _ _ z1, z3⟩
            · rw [hK]; exact .inr z
          · have e6 : mergeK [] (kS ws) = kS us := e5
            rw [e6]
            exact newDct g1 r5 p1 q hq
      | lst ds =>
        simp only [dictD, Option.map_eq_some_iff] at h2
        obtain ⟨kvs', e1, rfl⟩ := h2
        obtain ⟨a', vs, rfl, q1, r⟩ := hv
        obtain ⟨ps, ws, rfl, h3, h4⟩ := prs_rv hK g1.sub r e1
        obtain ⟨us, e5, r5⟩ := RvF.merge h4 (RvF.nil (c := c) (F := F1) (io := io1))
        refine .inr ⟨_, ps, kS ws, rfl, .inl (.inl q1), h3, fun q hq => ?_⟩
        have e6 : mergeK [] (kS ws) = kS us := e5
        rw [e6]
        exact newDct g1 r5 p1 q hq
      | _ => cases h2
end
end KL

namespace KL
open PySem L2

/-! ### o[k] = e, of a dict -/
def putAt (n : Nat) (k d : D) (st : Sto) : Option Sto := match st[n]?, k with
  | some (.dct false kvs), .str x => if kvs.length < sizeLine then some (st.set n (.dct false (putS kvs x d))) else none
  | _, _ => none
def sPut (fo fk fe : Sm) : Ss := sThen fe fun t st1 rh => match held t st1 with
  | some (d, st2) => sThen fo (fun u st3 rh => sThen fk (fun w st4 rh => match u, w with
    | .d (.loc n), .d k => (match putAt n k d st4 with
      | some st5 => .nx rh st5
      | none => .no)
    | _, _ => .no) rh st3) rh st2
  | none => .no
section
variable {X : Cx} {c : Ct} {W : WX} {B : Bs} {F F' F1 F2 H H' H1 : Hp} {io io' io1 io2 : List Addr} {st st' st1 : Sto} {rh : Rho} {σ : St} {v : V} {t : TV} {d : D} {a b e o : Expr} {fa fb fo fe fk : Sm} {pos p : Pos}
theorem put_of {D : Ends} {σ : St} {H : Hp} (h : denS c W (sPut fo fk fe) D σ H) : sDPut (den c W fo) (den c W fk) (den c W fe) D σ H := by
  obtain ⟨B, F, io, st, rh, g, p⟩ := h
  refine then_of g p fun t st1 v H1 F1 io1 S1 g1 s1 T1 q1 => ?_
  cases hh : held t st1 with
  | none => simp only [hh] at q1; exact q1.elim
  | some ds =>
    obtain ⟨d, st2⟩ := ds
    simp only [hh] at q1
    obtain ⟨F2, io2, S2, s2, r2⟩ := held_ok S1 s1 T1 hh
    have g2 := g.step S2 s2
    have q1 := Pss.per (S2.perm g.sub) q1
    refine then_of g2 q1 fun u st3 x H3 F3 io3 S3 g3 s3 T3 q3 => ?_
    have q3 := Pss.per (S3.perm g2.sub) q3
    refine then_of g3 q3 fun w st4 y H4 F4 io4 S4 g4 s4 T4 q4 => ?_
    cases u with
    | d e =>
      cases e with
      | loc n =>
        cases w with
        | d k =>
          simp only at q4
          cases hp : putAt n k d st4 with
          | none => rw [hp] at q4; exact q4.elim
          | some st5 =>
            rw [hp] at q4
            unfold putAt at hp
            split at hp
            · rename_i kvs xk hst
              split at hp
              · rename_i hl
                cases hp
                cases T4
                have T3' : Rv c F4 io4 x (.loc n) := Rv.step S4 g3.sub T3
                cases T3' with
                | loc hn =>
                  rename_i a
                  obtain ⟨vs, e1, r⟩ := g4.sim.ob n a _ hn hst
                  have rv := (r2.step S3 g2.sub).step S4 g3.sub
                  obtain ⟨ws, e2, r3⟩ := r.put (k := xk) rv
                  have ha : a ∈ io4 := List.mem_of_getElem? hn
                  have P : Per F4 io4 (upd F4 a (.dK (kS ws))) io4 := Per.upd ha
                  refine ⟨a, _, rfl, DPut.k (k := Sum.inr xk) (g4.sub _ _ e1) (by rw [List.length_map, r.len]; exact hl), ?_⟩
                  have e3 : putK (vs.map fun p => ((Sum.inr p.1 : Key), p.2)) (Sum.inr xk) v = kS ws := e2
                  rw [e3]
                  exact q4 σ _ (upd F4 a (.dK (kS ws))) io4 ((S4.perm g3.sub).trans P) (g4.setObj hn ⟨ws, upd_same, r3.perm P⟩)
              · cases hp
            · cases hp
        | _ => exact q4.elim
      | _ => exact q4.elim
    | _ => exact q4.elim
theorem ps_den_put (hu : X.A.units + 64 < cLine) {spos : Pos} (ho : PE X o (den c W fo)) (hk : PE X b (den c W fk)) (he : PE X e (den c W fe)) (hs : swapsWith e (some (.Subscript o b spos)) pos.line X.env = pure false) : PS X (.Assign [.Subscript o b spos] e pos) (denS c W (sPut fo fk fe)) :=
  PS.weak (ps_dput (by omega) ho hk he hs) fun D σ H h => put_of h
end

/-! ### a written dict with texts as keys -/
def eHelds : List Sm → Rho → Sto → R (List D)
  | [], _, st => .ok [] st
  | f :: fs, rh, st => (f rh st).bind fun t st1 => match held t st1 with
    | none => .no
    | some (d, st2) => (eHelds fs rh st2).bind fun ds st3 => .ok (d :: ds) st3
def eDisp (ks : List Str) (fs : List Sm) : Sm := fun rh st => (eHelds fs rh st).bind fun ds st1 => .ok (.d (.loc st1.length)) (st1 ++ [.dct false (mergeS [] (ks.zip ds))])
section
variable {X : Cx} {c : Ct} {W : WX} {B : Bs} {F F' F1 F2 H H' H1 : Hp} {io io' io1 io2 : List Addr} {st st' st1 : Sto} {rh : Rho} {σ : St} {v : V} {t : TV} {d : D} {a b e o : Expr} {fa fb fo fe fk : Sm} {pos p : Pos}
theorem pairs_den : ∀ (ks : List Str) (fs : List Sm), ks.length = fs.length → ∀ {F H : Hp} {io : List Addr} {st : Sto} {Q : List (V × V) → Hp → Prop}, Good c B F io st rh σ H →
    PstA c W F io σ H (fun vs H' => Q ((ks.zip vs).map fun p => (.str p.1, p.2)) H') (eHelds fs rh st) → tPairs ((ks.zip fs).map fun p => (tC (.str p.1), den c W p.2)) σ H Q
  | [], [], _, F, H, io, st, Q, g, p => p [] H F io (Stp.refl g.sub) g.sim .nil
  | [], _ :: _, h, _, _, _, _, _, _, _ => by cases h
  | _ :: _, [], h, _, _, _, _, _, _, _ => by cases h
  | k :: ks, f :: fs, hl, F, H, io, st, Q, g, p => by
    show den c W f σ H fun y H2 => tPairs ((ks.zip fs).map fun p => (tC (.str p.1), den c W p.2)) σ H2 fun ps H3 => Q ((.str k, y) :: ps) H3
    refine ⟨B, F, io, st, rh, g, ?_⟩
    unfold eHelds at p
    cases hr : f rh st with
    | no => rw [hr] at p; exact p.elim
    | ex x st' => rw [hr] at p; exact p
    | ok t st1 =>
      rw [hr] at p
      intro v H1 F1 io1 S s1 T
      replace p : PstA c W F io σ H (fun vs H' => Q (((k :: ks).zip vs).map fun p => (.str p.1, p.2)) H') (match held t st1 with
        | none => .no
        | some (d, st2) => (eHelds fs rh st2).bind fun ds st3 => .ok (d :: ds) st3) := p
      cases ht : held t st1 with
      | none => rw [ht] at p; exact p.elim
      | some ds =>
        obtain ⟨d, st2⟩ := ds
        rw [ht] at p
        obtain ⟨F2, io2, S2, s2, r2⟩ := held_ok S s1 T ht
        have g2 := g.step S2 s2
        refine pairs_den ks fs (by simpa using hl) g2 ?_
        replace p : PstA c W F io σ H (fun vs H' => Q (((k :: ks).zip vs).map fun p => (.str p.1, p.2)) H') ((eHelds fs rh st2).bind fun ds st3 => .ok (d :: ds) st3) := p
        replace p := PstA.step g S2 p
        cases hq : eHelds fs rh st2 with
        | no => rw [hq] at p; exact p.elim
        | ex x st' => rw [hq] at p; exact p
        | ok ds st3 =>
          rw [hq] at p
          intro vs H3 F3 io3 S3 s3 T3
          exact p (v :: vs) H3 F3 io3 S3 s3 (.cons (r2.step S3 g2.sub) T3)
theorem eHelds_length : ∀ {fs : List Sm} {rh : Rho} {st st1 : Sto} {ds : List D}, eHelds fs rh st = .ok ds st1 → ds.length = fs.length
  | [], _, _, _, _, h => by cases h; rfl
  | f :: fs, rh, st, st1, ds, h => by
    unfold eHelds at h
    cases hr : f rh st with
    | no => rw [hr] at h; cases h
    | ex x st' => rw [hr] at h; cases h
    | ok t st2 =>
      rw [hr] at h
      simp only [R.bind] at h
      cases ht : held t st2 with
      | none => rw [ht] at h; cases h
      | some d =>
        rw [ht] at h
        simp only at h
        cases hq : eHelds fs rh d.2 with
        | no => rw [hq] at h; cases h
        | ex x st' => rw [hq] at h; cases h
        | ok ds' st3 =>
          rw [hq] at h
          simp only [R.ok.injEq] at h
          obtain ⟨rfl, rfl⟩ := h
          rw [List.length_cons, List.length_cons, eHelds_length hq]
theorem zip_rvF : ∀ (ks : List Str) {vs : List V} {ds : List D}, RvAll c F io vs ds → RvF c F io (ks.zip vs) (ks.zip ds)
  | [], _, _, _ => .nil
  | _ :: _, _, _, .nil => .nil
  | k :: ks, _, _, .cons h r => .cons h (zip_rvF ks r)
/-- an object that came up on the way becomes a part of the store -/
theorem Stp.turn (S : Stp c F io H F1 io1 H1) {q : Addr} {o : HO} (hq : H q = none) (hq1 : H1 q = some (.dK [])) (fq : F1 q = none) (ht : ∀ ps, o ≠ .tbl ps := by intro _ z; cases z) : Stp c F io H (upd F1 q o) (io1 ++ [q]) (upd H1 q o) := by
  have ne : ∀ a u, H a = some u → a ≠ q := fun a u e z => by subst z; rw [hq] at e; cases e
  refine ⟨fun a u e => ?_, ?_, fun a u e n => ?_, fun a e => ?_, fun a u e n ht => ?_, fun a e => ?_, fun a ha => ?_, fun h0 => tabs_upd (S.tab h0) hq1 (fun _ z => by cases z) (fun _ z => by cases z), fun h => (S.ntb h).upd ht⟩
  · by_cases z : a = q
    · subst z; rw [upd_same] at e ⊢; exact e
    · rw [upd_ne z] at e ⊢; exact S.sub a u e
  · obtain ⟨m, e⟩ := S.ext
    exact ⟨m ++ [q], by rw [e, List.append_assoc]⟩
  · exact upd_more fq a u (S.per a u e n)
  · by_cases z : a = q
    · subst z; exact .inr hq
    · rw [upd_ne z] at e; exact S.new a e
  · rw [upd_ne (ne a u e)]; exact S.fr a u e n ht
  · by_cases z : a = q
    · subst z; exact hq
    · rw [upd_ne z] at e; exact S.gro a e
  · simp only [List.mem_append, List.mem_singleton] at ha
    rcases ha with ha | ha
    · exact S.nio a ha
    · subst ha; exact .inr hq
theorem disp_of {ks : List Str} {fs : List Sm} (hl : ks.length = fs.length) (h15 : ks.length ≤ 15) {σ : St} {H : Hp} {Q : VK} (h : den c W (eDisp ks fs) σ H Q) : tDisp ((ks.zip fs).map fun p => (tC (.str p.1), den c W p.2)) σ H Q := by
  obtain ⟨B, F, io, st, rh, g, p⟩ := h
  intro q hq
  obtain ⟨f1, f2, f3⟩ := g.fresh hq
  have S0 : Stp c F io H F io (upd H q (.dK [])) := Stp.lay g.sub hq
  have g0 := g.step S0 g.sim
  refine pairs_den ks fs hl g0 ?_
  unfold eDisp at p
  cases hr : eHelds fs rh st with
  | no => rw [hr] at p; exact p.elim
  | ex x s => rw [hr] at p; exact fun H' F' io' S s' => p H' F' io' (S0.trans g.sub S) s'
  | ok ds st1 =>
    rw [hr] at p
    intro vs H1 F1 io1 S1 s1 r1
    have hq1 : H1 q = some (.dK []) := S1.fr q _ upd_same f2 (fun ps z => by cases z)
    have fq : F1 q = none := S1.out upd_same f1
    have hn : q ∉ io1 := fun z => s1.dom z fq
    obtain ⟨us, e2, r2⟩ := RvF.merge (zip_rvF ks r1) (RvF.nil (c := c) (F := F1) (io := io1))
    refine ⟨hq1, kS (ks.zip vs), ?_, ?_, ?_⟩
    · rw [kS, List.map_map]
      rfl
    · rw [kS, List.length_map, List.length_zip]
      omega
    · have e3 : mergeK [] (kS (ks.zip vs)) = kS us := e2
      rw [e3]
      have P : Per F1 io1 (upd F1 q (.dK (kS us))) (io1 ++ [q]) := ⟨⟨[q], rfl⟩, fun a u e _ => upd_more fq a u e, fun a u e n => by
        simp only [List.mem_append, List.mem_singleton, not_or]
        exact ⟨n, fun z => by subst z; rw [fq] at e; cases e⟩⟩
      have S01 : Stp c F io H F1 io1 H1 := S0.trans g.sub S1
      refine p (.ref q) _ (upd F1 q (.dK (kS us))) (io1 ++ [q]) (S01.turn hq hq1 fq) (s1.alloc P (fun a ha => by rw [upd_ne (fun z => by subst z; exact hn ha)]) hn ⟨us, upd_same, r2.perm P⟩) (rv_new s1)
theorem pe_den_disp {ks : List Str} {fs : List Sm} {es : List Expr} {keys : List (Option Expr)} (h : PPs X pos keys es ((ks.zip fs).map fun p => (tC (.str p.1), den c W p.2))) (hall : keys.all (·.isSome) = true) (hl : keys.length = es.length) (h0 : keys ≠ []) (h15 : keys.length ≤ 15) (hk : ks.length = fs.length) (hk2 : ks.length = keys.length) : PE X (.Dict keys es pos) (den c W (eDisp ks fs)) :=
  PE.weak (pe_disp h hall hl h0 h15) fun σ H Q q => disp_of hk (by omega) q
end
end KL

namespace KL
open PySem L2

/-! ### o.pop() -/
def ePop0 (fo : Sm) : Sm := fun rh st => (fo rh st).bind fun t st1 => match t with
  | .d (.loc n) => (match st1[n]? with
    | some (.lst ds) => (match ds[ds.length - 1]? with
      | some d => .ok (.d d) (st1.set n (.lst ds.dropLast))
      | none => .no)
    | _ => .no)
  | _ => .no
section
variable {X : Cx} {c : Ct} {W : WX} {B : Bs} {F F' F1 F2 H H' H1 : Hp} {io io' io1 io2 : List Addr} {st st' st1 : Sto} {rh : Rho} {σ : St} {v : V} {t : TV} {d : D} {a b e o : Expr} {fa fb fo fe fk : Sm} {pos p apos : Pos}
theorem RvAll.dropLast : ∀ {vs : List V} {ds : List D}, RvAll c F io vs ds → RvAll c F io vs.dropLast ds.dropLast
  | _, _, .nil => .nil
  | _, _, .cons h .nil => .nil
  | _, _, .cons h (.cons h2 r) => .cons h (RvAll.dropLast (.cons h2 r))
theorem RvAll.eraseIdx : ∀ (k : Nat) {vs : List V} {ds : List D}, RvAll c F io vs ds → RvAll c F io (vs.eraseIdx k) (ds.eraseIdx k)
  | _, _, _, .nil => .nil
  | 0, _, _, .cons _ r => r
  | k + 1, _, _, .cons h r => .cons h (RvAll.eraseIdx k r)
/-- an object of the store is changed; what comes of it -/
theorem Pst.put (g : Good c B F io st rh σ H) {n : Nat} {a' : Addr} {ho : HO} {o' : O} {Q : VK} (hn : io[n]? = some a') (h : Pst c W F io rh σ H Q (.ok (.d d) (st.set n o'))) (r : Rv c F io v d) (ho' : ∀ P : Per F io (upd F a' ho) io, Ob c (upd F a' ho) io a' o') : Q v (upd H a' ho) := by
  have P : Per F io (upd F a' ho) io := Per.upd (List.mem_of_getElem? hn)
  exact h v _ _ io (g.put ho hn (ob_nt (ho' P))) (g.putSim hn (ho' P)) (r.perm P)
theorem pe_den_pop0 (ho : PE X o (den c W fo)) (hb : plainBase o = true) (hl : (apos.endLine == pos.line) = true) : PE X (.Call (.Attribute o "pop" apos) [] [] pos) (den c W (ePop0 fo)) := by
  refine PE.weak (pe_bm0 PySem.F.plainAttrs_list PySem.F.slot_list_pop PySem.F.type_list_pop mt_pop ho (plainBase_ok hb) hl) fun σ H Q ⟨B, F, io, st, rh, g, p⟩ => ?_
  refine ⟨B, F, io, st, rh, g, Pst.bind g p fun t1 st1 x H1 F1 io1 e1 S1 g1 T1 p1 => ?_⟩
  cases t1 with
  | d e =>
    cases e with
    | loc n =>
      replace p1 : Pst c W F1 io1 rh σ H1 Q (match st1[n]? with
        | some (.lst ds) => (match ds[ds.length - 1]? with
          | some d => .ok (.d d) (st1.set n (.lst ds.dropLast))
          | none => .no)
        | _ => .no) := p1
      split at p1
      · rename_i ds hst
        split at p1
        · rename_i d hd
          cases T1 with
          | loc hn =>
            rename_i a'
            obtain ⟨vs, e1, r⟩ := g1.sim.ob n a' _ hn hst
            obtain ⟨v, hv, rv⟩ := r.get hd
            exact ⟨tyV_list (g1.sub _ _ e1), a', vs, v, rfl, rfl, g1.sub _ _ e1, by rw [r.length]; exact hv, Pst.put g1 hn p1 rv (fun P => ⟨_, upd_same, r.dropLast.perm P⟩)⟩
        · exact p1.elim
      · exact p1.elim
    | _ => exact p1.elim
  | _ => exact p1.elim
end

/-! ### o.pop(e), of a dict or a list -/
def popD (n : Nat) (st : Sto) (k : D) : Option (D × Sto) := match st[n]?, k with
  | some (.dct false kvs), .str x => (vget kvs x).map fun d => (d, st.set n (.dct false (dropS kvs x)))
  | some (.lst ds), .int i => if -(2 ^ 63) ≤ i ∧ i < 2 ^ 63 then (seqIndex? i ds.length).bind fun j => (ds[j]?).map fun d => (d, st.set n (.lst (ds.eraseIdx j))) else none
  | _, _ => none
def isCont (n : Nat) (st : Sto) : Option Bool := match st[n]? with
  | some (.dct false _) => some true
  | some (.lst _) => some false
  | _ => none
def ePop1 (fo fe : Sm) : Sm := fun rh st => (fo rh st).bind fun t st1 => match t with
  | .d (.loc n) => (match isCont n st1 with
    | some b => (fe rh st1).bind fun u st2 => (match u with
      | .d k => if isCont n st2 = some b then (match popD n st2 k with
        | some (d, st3) => .ok (.d d) st3
        | none => .no) else .no
      | _ => .no)
    | none => .no)
  | _ => .no
section
variable {X : Cx} {c : Ct} {W : WX} {B : Bs} {F F' F1 F2 H H' H1 : Hp} {io io' io1 io2 : List Addr} {st st' st1 : Sto} {rh : Rho} {σ : St} {v : V} {t : TV} {d : D} {a b e o : Expr} {fa fb fo fe fk : Sm} {pos p apos : Pos}
theorem m1_of {m : Str} (hb : plainBase o = true) (hn : notStar e = true) (hl : (apos.endLine == pos.line) = true) : M1 X o m apos e pos := ⟨plainBase_ok hb, few1 hn, hl, by rw [star_cons hn]; rfl⟩
theorem pop_cases {Q : VK} (g : Good c B F io st rh σ H) (p : Pst c W F io rh σ H Q (ePop1 fo fe rh st)) :
    (∃ x s, fo rh st = .ex x s ∧ Pst c W F io rh σ H Q (.ex x s)) ∨ ∃ n st1 b, fo rh st = .ok (.d (.loc n)) st1 ∧ isCont n st1 = some b ∧ Pst c W F io rh σ H Q ((fe rh st1).bind fun u st2 => (match u with
      | .d k => if isCont n st2 = some b then (match popD n st2 k with
        | some (d, st3) => .ok (.d d) st3
        | none => .no) else .no
      | _ => .no)) := by
  unfold ePop1 at p
  cases hr : fo rh st with
  | no => rw [hr] at p; exact p.elim
  | ex x s => rw [hr] at p; exact .inl ⟨x, s, rfl, p⟩
  | ok t st1 =>
    rw [hr] at p
    cases t with
    | d e =>
      cases e with
      | loc n =>
        replace p : Pst c W F io rh σ H Q (match isCont n st1 with
          | some b => (fe rh st1).bind fun u st2 => (match u with
            | .d k => if isCont n st2 = some b then (match popD n st2 k with
              | some (d, st3) => .ok (.d d) st3
              | none => .no) else .no
            | _ => .no)
          | none => .no) := p
        cases hc : isCont n st1 with
        | none => rw [hc] at p; exact p.elim
        | some b => rw [hc] at p; exact .inr ⟨n, st1, b, rfl, hc, p⟩
      | _ => exact p.elim
    | _ => exact p.elim
theorem isCont_true {n : Nat} {st : Sto} (h : isCont n st = some true) : ∃ kvs, st[n]? = some (.dct false kvs) := by
  unfold isCont at h
  split at h
  · rename_i kvs e; exact ⟨kvs, e⟩
  · cases h
  · cases h
theorem isCont_false {n : Nat} {st : Sto} (h : isCont n st = some false) : ∃ ds, st[n]? = some (.lst ds) := by
  unfold isCont at h
  split at h
  · cases h
  · rename_i ds e; exact ⟨ds, e⟩
  · cases h
theorem pe_den_pop1 (ho : PE X o (den c W fo)) (he : PE X e (den c W fe)) (hb : plainBase o = true) (hn : notStar e = true) (hl : (apos.endLine == pos.line) = true) : PE X (.Call (.Attribute o "pop" apos) [e] [] pos) (den c W (ePop1 fo fe)) := by
  refine PE.weak (PE.or (pe_dpop1 ho he (m1_of hb hn hl)) (pe_bm PySem.F.plainAttrs_list PySem.F.slot_list_pop PySem.F.type_list_pop mt_popAt ho (pa_cons he pa_nil (star_cons hn)) (plainBase_ok hb) (few1 hn) hl (star_cons hn) rfl)) fun σ H Q ⟨B, F, io, st, rh, g, p⟩ => ?_
  rcases pop_cases g p with ⟨x, s, hr, p⟩ | ⟨n, st1, b, hr, hc, p⟩
  · exact .inl ⟨B, F, io, st, rh, g, by rw [hr]; exact p⟩
  · have go : ∀ {x : V} {H1 F1 : Hp} {io1 : List Addr} {K : V → Hp → Prop} (S1 : Stp c F io H F1 io1 H1) (s1 : Sim c F1 io1 st1) (T1 : Rv c F1 io1 x (.loc n)),
        (∀ (y : V) (H2 F2 : Hp) (io2 : List Addr) (st2 st3 : Sto) (k d : D) (a' : Addr), Good c B F2 io2 st2 rh σ H2 → isCont n st2 = some b → popD n st2 k = some (d, st3) → Rv c F2 io2 y k → io2[n]? = some a' → x = .ref a' → Pst c W F2 io2 rh σ H2 Q (.ok (.d d) st3) → K y H2) → den c W fe σ H1 K := by
      intro x H1 F1 io1 K S1 s1 T1 hk
      have g1 := g.step S1 s1
      refine ⟨B, F1, io1, st1, rh, g1, Pst.bind g1 (Pst.step g S1 p) fun u st2 y H2 F2 io2 e2 S2 g2 T2 p2 => ?_⟩
      cases u with
      | d k =>
        replace p2 : Pst c W F2 io2 rh σ H2 Q (if isCont n st2 = some b then (match popD n st2 k with
          | some (d, st3) => .ok (.d d) st3
          | none => .no) else .no) := p2
        split at p2
        · rename_i hc2
          cases hp : popD n st2 k with
          | none => rw [hp] at p2; exact p2.elim
          | some ds =>
            obtain ⟨d, st3⟩ := ds
            rw [hp] at p2
            cases T1 with
            | loc hn1 => exact hk y H2 F2 io2 st2 st3 k d _ g2 hc2 hp T2 (S2.ix hn1) rfl p2
        · exact p2.elim
      | _ => exact p2.elim
    cases b with
    | true =>
      refine .inl ⟨B, F, io, st, rh, g, ?_⟩
      rw [hr]
      intro x H1 F1 io1 S1 s1 T1
      obtain ⟨kvs, hst⟩ := isCont_true hc
      have T1' : Rv c F1 io1 x (.loc n) := T1
      cases T1' with
      | loc hn1 =>
        rename_i a'
        obtain ⟨vs, e1, r⟩ := s1.ob n a' _ hn1 hst
        refine ⟨a', rfl, .inl ⟨_, .inl (S1.sub _ _ e1)⟩, go S1 s1 T1 fun y H2 F2 io2 st2 st3 k d a2 g2 hc2 hp T2 hn2 ex p2 => ?_⟩
        cases ex
        obtain ⟨kvs2, hst2⟩ := isCont_true hc2
        unfold popD at hp
        rw [hst2] at hp
        cases k <;> simp only [reduceCtorEq, Option.map_eq_some_iff, Prod.mk.injEq] at hp
        rename_i xk
        obtain ⟨d', hv, rfl, rfl⟩ := hp
        cases T2
        obtain ⟨vs2, e2, r2⟩ := g2.sim.ob n a' _ hn2 hst2
        obtain ⟨ws, e3, r3⟩ := r2.dropS (k := xk)
        have ov := r2.val inr_inj xk
        rw [hv] at ov
        cases hz : valV (vs2.map fun p => ((Sum.inr p.1 : Key), p.2)) (Sum.inr xk) with
        | none => rw [hz] at ov; exact ov.elim
        | some v =>
          rw [hz] at ov
          refine ⟨_, Sum.inr xk, v, g2.sub _ _ e2, rfl, hz, ?_⟩
          have e4 : dropK (vs2.map fun p => ((Sum.inr p.1 : Key), p.2)) (Sum.inr xk) = kS ws := e3
          rw [e4]
          exact Pst.put g2 hn2 p2 ov (fun P => ⟨ws, upd_same, r3.perm P⟩)
    | false =>
      refine .inr ⟨B, F, io, st, rh, g, ?_⟩
      rw [hr]
      intro x H1 F1 io1 S1 s1 T1
      obtain ⟨ds, hst⟩ := isCont_false hc
      have T1' : Rv c F1 io1 x (.loc n) := T1
      cases T1' with
      | loc hn1 =>
        rename_i a'
        obtain ⟨vs, e1, r⟩ := s1.ob n a' _ hn1 hst
        refine ⟨tyV_list (S1.sub _ _ e1), go S1 s1 T1 fun y H2 F2 io2 st2 st3 k d a2 g2 hc2 hp T2 hn2 ex p2 => ?_⟩
        cases ex
        obtain ⟨ds2, hst2⟩ := isCont_false hc2
        unfold popD at hp
        rw [hst2] at hp
        cases k <;> simp only [reduceCtorEq] at hp
        rename_i i
        split at hp
        · rename_i hi
          simp only [Option.bind_eq_some_iff, Option.map_eq_some_iff, Prod.mk.injEq] at hp
          obtain ⟨j, hj, d', hd, rfl, rfl⟩ := hp
          cases T2
          obtain ⟨vs2, e2, r2⟩ := g2.sim.ob n a' _ hn2 hst2
          obtain ⟨v, hv, rv⟩ := r2.get hd
          exact ⟨a', vs2, i, j, v, rfl, rfl, g2.sub _ _ e2, hi.1, hi.2, by rw [r2.length]; exact hj, hv, Pst.put g2 hn2 p2 rv (fun P => ⟨_, upd_same, (r2.eraseIdx j).perm P⟩)⟩
        · cases hp
end

/-! ### o.get(k, x) -/
def get2R (n : Nat) (st : Sto) (u w : TV) : R TV := match st[n]?, u, w with
  | some (.dct false kvs), .d (.str k), .d x => .ok (.d ((vget kvs k).getD x)) st
  | _, _, _ => .no
def eGet2 (fo fk fx : Sm) : Sm := fun rh st => (fo rh st).bind fun t st1 => match t with
  | .d (.loc n) => (match isCont n st1 with
    | some true => (fk rh st1).bind fun u st2 => (fx rh st2).bind fun w st3 => get2R n st3 u w
    | _ => .no)
  | _ => .no
section
variable {X : Cx} {c : Ct} {W : WX} {B : Bs} {F F' F1 F2 H H' H1 : Hp} {io io' io1 io2 : List Addr} {st st' st1 : Sto} {rh : Rho} {σ : St} {v : V} {t : TV} {d : D} {a b e f o : Expr} {fa fb fo fe fk fx : Sm} {pos p apos : Pos}
theorem m2_of {m : Str} (hb : plainBase o = true) (hn : notStar e = true) (hn2 : notStar f = true) (hl : (apos.endLine == pos.line) = true) : M2 X o m apos e f pos :=
  ⟨plainBase_ok hb, by rw [star_cons hn, star_cons hn2]; rfl, hl, by rw [star_cons hn, star_cons hn2]; rfl⟩
theorem pe_den_get2 (hu : X.A.units + 64 < cLine) (ho : PE X o (den c W fo)) (he : PE X e (den c W fk)) (hf : PE X f (den c W fx)) (hb : plainBase o = true) (hn : notStar e = true) (hn2 : notStar f = true) (hl : (apos.endLine == pos.line) = true) :
    PE X (.Call (.Attribute o "get" apos) [e, f] [] pos) (den c W (eGet2 fo fk fx)) := by
  refine PE.weak (pe_dget2 (by omega) ho he hf (m2_of hb hn hn2 hl)) fun σ H Q ⟨B, F, io, st, rh, g, p⟩ => ?_
  refine ⟨B, F, io, st, rh, g, Pst.bind g p fun t1 st1 x H1 F1 io1 e1 S1 g1 T1 p1 => ?_⟩
  cases t1 with
  | d e =>
    cases e with
    | loc n =>
      replace p1 : Pst c W F1 io1 rh σ H1 Q (match isCont n st1 with
        | some true => (fk rh st1).bind fun u st2 => (fx rh st2).bind fun w st3 => get2R n st3 u w
        | _ => .no) := p1
      split at p1
      · rename_i hc
        obtain ⟨kvs, hst⟩ := isCont_true hc
        have T1' : Rv c F1 io1 x (.loc n) := T1
        cases T1' with
        | loc hn1 =>
          rename_i a'
          obtain ⟨vs, e1, r⟩ := g1.sim.ob n a' _ hn1 hst
          refine ⟨a', rfl, .inl ⟨_, .inl (g1.sub _ _ e1)⟩, B, F1, io1, st1, rh, g1, Pst.bind g1 p1 fun u st2 y H2 F2 io2 e2 S2 g2 T2 p2 => ?_⟩
          refine ⟨B, F2, io2, st2, rh, g2, Pst.bind g2 p2 fun w st3 z H3 F3 io3 e3 S3 g3 T3 p3 => ?_⟩
          unfold get2R at p3
          split at p3
          · rename_i kvs3 xk xd hst3
            have hk : Rv c F3 io3 y (.str xk) := Rv.step S3 g2.sub T2
            have hx' : Rv c F3 io3 z xd := T3
            cases hk
            have hn3 : io3[n]? = some a' := S3.ix (S2.ix hn1)
            obtain ⟨vs3, e4, r3⟩ := g3.sim.ob n a' _ hn3 hst3
            refine ⟨_, .inl ⟨_, Sum.inr xk, .inl (g3.sub _ _ e4), rfl, rfl⟩, ?_⟩
            have ov := r3.val inr_inj xk
            cases hz : valV (vs3.map fun p => ((Sum.inr p.1 : Key), p.2)) (Sum.inr xk) with
            | none =>
              rw [hz] at ov
              cases hv : vget kvs3 xk with
              | none => rw [hv] at p3; exact p3 z H3 F3 io3 (Stp.refl g3.sub) g3.sim hx'
              | some q => rw [hv] at ov; exact ov.elim
            | some v =>
              rw [hz] at ov
              cases hv : vget kvs3 xk with
              | none => rw [hv] at ov; exact ov.elim
              | some q => rw [hv] at p3 ov; exact p3 v H3 F3 io3 (Stp.refl g3.sub) g3.sim ov
          · exact p3.elim
      · exact p1.elim
    | _ => exact p1.elim
  | _ => exact p1.elim
end
end KL

namespace KL
open PySem L2

/-! ### some pinned objects left out, and brought back -/
open Classical in
noncomputable def del (H : Hp) (S : Addr → Prop) : Hp := fun a => if S a then none else H a
open Classical in
noncomputable def mrg (H0 H : Hp) (S : Addr → Prop) : Hp := fun a => if S a then H a else H0 a
section
variable {H H0 H' F F' F0 : Hp} {S : Addr → Prop} {a b : Addr} {o : HO}
theorem del_in (h : S a) : del H S a = none := by unfold del; rw [if_pos h]
theorem del_out (h : ¬ S a) : del H S a = H a := by unfold del; rw [if_neg h]
theorem del_some (e : del H S a = some o) : H a = some o ∧ ¬ S a := by
  by_cases h : S a
  · rw [del_in h] at e; cases e
  · rw [del_out h] at e; exact ⟨e, h⟩
theorem mrg_in (h : S a) : mrg H0 H S a = H a := by unfold mrg; rw [if_pos h]
theorem mrg_out (h : ¬ S a) : mrg H0 H S a = H0 a := by unfold mrg; rw [if_neg h]
/-- all of S are pinned -/
def Pnd (S : Addr → Prop) (H : Hp) : Prop := ∀ a, S a → ∃ co, H a = some (PinO a co)
theorem Pnd.ne (h : Pnd S H) (e : H a = some o) (hx : ∀ φ, o ≠ .ext φ) : ¬ S a := fun z => by
  obtain ⟨co, q⟩ := h a z
  rw [e] at q
  exact hx _ (Option.some.inj q)
theorem Pnd.at {P : Program} {w : World} {h : Heap} (x : HOk P w H h) {co : Obj} (e : H a = some (PinO a co)) : h.get? a = some co := (x a _ e).1
variable {P : Program} {w : World} {h h' : Heap}
theorem hok_del (x : HOk P w H h) (hp : Pnd S H) : HOk P w (del H S) h := fun a o e => by
  obtain ⟨e, na⟩ := del_some e
  exact (x a o e).stay (fun _ _ _ q => q) (fun b q => by rw [del_out (hp.ne q (fun φ z => by cases z))]; exact q) fun b xs q => by rw [del_out (hp.ne q (fun φ z => by cases z))]; exact q
theorem pin_ok {co : Obj} (e : h.get? a = some co) : ObjOk P w H h a (PinO a co) := ⟨e, ⟨co, e⟩, fun _ _ q st => st _ q⟩
theorem hok_mrg (x : HOk P w H' h') (hS : ∀ a, S a → H' a = none) (hp : ∀ a, S a → ∃ co, H a = some (PinO a co) ∧ h'.get? a = some co) : HOk P w (mrg H' H S) h' := fun a o e => by
  by_cases z : S a
  · rw [mrg_in z] at e
    obtain ⟨co, q1, q2⟩ := hp a z
    rw [q1] at e
    cases e
    exact pin_ok q2
  · rw [mrg_out z] at e
    have ns : ∀ b u, H' b = some u → ¬ S b := fun b u q r => by rw [hS b r] at q; cases q
    exact (x a o e).stay (fun _ _ _ q => q) (fun b q => by rw [mrg_out (ns b _ q)]; exact q) fun b xs q => by rw [mrg_out (ns b _ q)]; exact q
theorem env0_del {K : PySem.W.Frag} {mg : Str → Option Value} {base : Heap} {A : Around} {outer : List Env} {s : Shared} (e : Env0 P w K mg base A outer s H) (hp : Pnd S H) : Env0 P w K mg base A outer s (del H S) :=
  ⟨e.frames, e.mod, fun b o q => ⟨(e.bs b o q).1, by
    by_cases z : S b
    · exact del_in z
    · rw [del_out z]; exact (e.bs b o q).2⟩, e.bsz, e.funs, fun b hb => by
    by_cases z : S b
    · exact del_in z
    · rw [del_out z]; exact e.frf b hb, hok_del e.hok hp, e.bare⟩
/-- a call's end, told with the pinned objects again -/
theorem ce_mrg {outer : List Env} {s s' : Shared} {Q : VK} {u : Value} (hok0 : HOk P w H s.heap) (frf : ∀ b ∈ frs outer, H b = none) (hp : Pnd S H) (h : CE outer P w (del H S) s (fun v H' => (∀ a, S a → H' a = none) → Q v (mrg H' H S)) u s') : CE outer P w H s Q u s' := by
  obtain ⟨v, H', os, bare, un, hok, rv, q⟩ := h
  have hS : ∀ a, S a → H' a = none := fun a z => by
    obtain ⟨co, e⟩ := hp a z
    exact un.free a co (Pnd.at hok0 e) (del_in z) (by simp)
  have hn : ∀ b, H b = none → ¬ S b := fun b e z => by
    obtain ⟨co, q⟩ := hp b z
    rw [e] at q; cases q
  have d0 : ∀ b, H b = none → del H S b = none := fun b e => by rw [del_out (hn b e)]; exact e
  have ns : ∀ b u, H' b = some u → ¬ S b := fun b u q r => by rw [hS b r] at q; cases q
  refine ⟨v, mrg H' H S, os, bare, ⟨fun b o e n hb hx => un.keep b o e (d0 b n) hb hx, fun b o e n hb hx => un.slot b o e (d0 b n) hb hx, fun b o e n hx => by rw [mrg_out (hn b n)]; exact un.free b o e (d0 b n) hx, fun b o e hx => un.there b o e hx,
    fun b xs e => ?_, fun b o xs e => ?_, fun b ps e => ?_⟩, hok_mrg hok hS (fun a z => ?_), rv, q hS⟩
  · have nb := hp.ne e (fun φ z => by cases z)
    rw [mrg_out nb]
    exact un.tups b xs (by rw [del_out nb]; exact e)
  · have nb := hp.ne e (fun φ z => by cases z)
    rw [mrg_out nb]
    exact un.frzs b o xs (by rw [del_out nb]; exact e)
  · have nb := hp.ne e (fun φ z => by cases z)
    rw [mrg_out nb]
    exact un.tbls b ps (by rw [del_out nb]; exact e)
  · obtain ⟨co, e⟩ := hp a z
    exact ⟨co, e, un.keep a co (Pnd.at hok0 e) (del_in z) (fun hb => by rw [frf a hb] at e; cases e) (by simp)⟩
theorem cx_mrg {outer : List Env} {s s' : Shared} {E : XK} {u : Value} (hok0 : HOk P w H s.heap) (frf : ∀ b ∈ frs outer, H b = none) (hp : Pnd S H) (h : L2N.CX P w outer (del H S) s (fun cls d H' => (∀ a, S a → H' a = none) → E cls d (mrg H' H S)) u s') : L2N.CX P w outer H s E u s' := by
  obtain ⟨a, B, H', cls, d, rfl, fl, hok, ub, na, os, ag, hE⟩ := h
  have hS : ∀ a, S a → H' a = none := fun a z => by
    obtain ⟨co, e⟩ := hp a z
    exact ub.free a co (Pnd.at hok0 e) (del_in z)
  have hn : ∀ b, H b = none → ¬ S b := fun b e z => by
    obtain ⟨co, q⟩ := hp b z
    rw [e] at q; cases q
  have d0 : ∀ b, H b = none → del H S b = none := fun b e => by rw [del_out (hn b e)]; exact e
  have kp : ∀ a, S a → ∃ co, H a = some (PinO a co) ∧ B.get? a = some co := fun a z => by
    obtain ⟨co, e⟩ := hp a z
    exact ⟨co, e, ub.keep a co (Pnd.at hok0 e) (del_in z) (fun hb => by rw [frf a hb] at e; cases e)⟩
  refine ⟨a, B, mrg H' H S, cls, d, rfl, fl, hok_mrg hok hS kp, ⟨fun b o e n hb => ub.keep b o e (d0 b n) hb, ub.slot, fun b o e n => by rw [mrg_out (hn b n)]; exact ub.free b o e (d0 b n), ub.there, fun b xs e => ?_, fun b o xs e => ?_, fun b ps e => ?_⟩, ?_, os, ag, hE hS⟩
  · have nb := hp.ne e (fun φ z => by cases z)
    rw [mrg_out nb]
    exact ub.tups b xs (by rw [del_out nb]; exact e)
  · have nb := hp.ne e (fun φ z => by cases z)
    rw [mrg_out nb]
    exact ub.frzs b o xs (by rw [del_out nb]; exact e)
  · have nb := hp.ne e (fun φ z => by cases z)
    rw [mrg_out nb]
    exact ub.tbls b ps (by rw [del_out nb]; exact e)
  · rw [mrg_out (fun z => ?_)]
    · exact na
    · obtain ⟨co, _, e⟩ := kp a z
      have n := fl.2.1
      rw [e] at n
      cases n
end

/-! ### data do not lean on pinned objects -/
section
variable {c : Ct} {F F0 H : Hp} {io : List Addr} {st : Sto}
mutual
theorem Rv.nx (hf : ∀ a o, F a = some o → (∀ φ, o ≠ .ext φ) → F0 a = some o) : ∀ {v : V} {d : D}, Rv c F io v d → Rv c F0 io v d
  | _, _, .non => .non
  | _, _, .bl b => .bl b
  | _, _, .int i => .int i
  | _, _, .str x => .str x
  | _, _, .tup h r => .tup (h.imp (fun ⟨o, h1, h2, h3⟩ => ⟨o, hf _ _ h1 (fun φ z => by cases z), h2, h3⟩) id) (RvAll.nx hf r)
  | _, _, .raw h n r => .raw (hf _ _ h (fun φ z => by cases z)) n (RvAll.nx hf r)
  | _, _, .lst h n r => .lst (hf _ _ h (fun φ z => by cases z)) n (RvAll.nx hf r)
  | _, _, .loc h => .loc h
  | _, _, .scr h => .scr (h.imp (fun ⟨h, n⟩ => by
      rcases h with h | ⟨o, h⟩
      · exact ⟨.inl (hf _ _ h (fun φ z => by cases z)), n⟩
      · exact ⟨.inr ⟨o, hf _ _ h (fun φ z => by cases z)⟩, n⟩) id)
theorem RvAll.nx (hf : ∀ a o, F a = some o → (∀ φ, o ≠ .ext φ) → F0 a = some o) : ∀ {vs : List V} {ds : List D}, RvAll c F io vs ds → RvAll c F0 io vs ds
  | _, _, .nil => .nil
  | _, _, .cons h r => .cons (Rv.nx hf h) (RvAll.nx hf r)
end
theorem RvF.nx {κ : Type} (hf : ∀ a o, F a = some o → (∀ φ, o ≠ .ext φ) → F0 a = some o) : ∀ {vs : List (κ × V)} {ds : List (κ × D)}, RvF c F io vs ds → RvF c F0 io vs ds
  | _, _, .nil => .nil
  | _, _, .cons h r => .cons (h.nx hf) (RvF.nx hf r)
theorem Ob.nx (hf : ∀ a o, F a = some o → (∀ φ, o ≠ .ext φ) → F0 a = some o) {a : Addr} {o : O} (h : Ob c F io a o) : Ob c F0 io a o := by
  cases o with
  | lst ds => obtain ⟨vs, e, r⟩ := h; exact ⟨vs, hf _ _ e (fun φ z => by cases z), r.nx hf⟩
  | dct lk kvs => cases lk with
    | false => obtain ⟨vs, e, r⟩ := h; exact ⟨vs, hf _ _ e (fun φ z => by cases z), r.nx hf⟩
    | true => obtain ⟨ob, vs, e, r⟩ := h; exact ⟨ob, vs, hf _ _ e (fun φ z => by cases z), r.nx hf⟩
  | dcT lk kvs => cases lk with
    | false => obtain ⟨vs, e, r⟩ := h; exact ⟨vs, hf _ _ e (fun φ z => by cases z), r.nx hf⟩
    | true => obtain ⟨ob, vs, e, r⟩ := h; exact ⟨ob, vs, hf _ _ e (fun φ z => by cases z), r.nx hf⟩
  | ins C fs => obtain ⟨dx, vs, e, e2, e3, k, r⟩ := h; exact ⟨dx, vs, hf _ _ e (fun φ z => by cases z), hf _ _ e2 (fun φ z => by cases z), e3, k, r.nx hf⟩
theorem Sim.nx (hf : ∀ a o, F a = some o → (∀ φ, o ≠ .ext φ) → F0 a = some o) (h : Sim c F io st) : Sim c F0 io st := ⟨h.len, h.nd, fun n a o e1 e2 => (h.ob n a o e1 e2).nx hf⟩
end
/-- what follows with the pinned objects left out gives what follows with them -/
theorem stp_mrg {c : Ct} {F H F' H' : Hp} {io io' : List Addr} {st' : Sto} {S : Addr → Prop} (hs : ∀ a o, F a = some o → H a = some o) (hp : Pnd S H) (hF : ∀ a, S a → F a ≠ none) (t0 : LamX.Tabs c.T (del H S)) (T : Stp c (del F S) io (del H S) F' io' H') (s' : Sim c F' io' st') (hS : ∀ a, S a → H' a = none) :
    Stp c F io H (mrg F' F S) io' (mrg H' H S) ∧ Sim c (mrg F' F S) io' st' ∧ ∀ v d, Rv c F' io' v d → Rv c (mrg F' F S) io' v d := by
  have hF' : ∀ a, S a → F' a = none := fun a z => by
    cases q : F' a with
    | none => rfl
    | some o => have := T.sub a o q; rw [hS a z] at this; cases this
  have nio : ∀ a, a ∈ io' → ¬ S a := fun a h z => s'.dom h (hF' a z)
  have mF : ∀ a o, F' a = some o → mrg F' F S a = some o := fun a o e => by rw [mrg_out (fun z => by rw [hF' a z] at e; cases e)]; exact e
  have mH : ∀ a o, H' a = some o → mrg H' H S a = some o := fun a o e => by rw [mrg_out (fun z => by rw [hS a z] at e; cases e)]; exact e
  refine ⟨⟨fun a o e => ?_, T.ext, fun a o e n => ?_, fun a e => ?_, fun a o e n ht => ?_, fun a e => ?_, fun a h => ?_, fun _ => (T.tab t0).ext mH, fun h0 a ps e => ?_⟩, s'.more mF, fun v d r => r.more mF⟩
  · by_cases z : S a
    · rw [mrg_in z] at e ⊢; exact hs a o e
    · rw [mrg_out z] at e ⊢; exact T.sub a o e
  · by_cases z : S a
    · rw [mrg_in z]; exact e
    · rw [mrg_out z]; exact T.per a o (by rw [del_out z]; exact e) n
  · by_cases z : S a
    · exact .inl (hF a z)
    · rw [mrg_out z] at e
      rcases T.new a e with q | q
      · rw [del_out z] at q; exact .inl q
      · rw [del_out z] at q; exact .inr q
  · by_cases z : S a
    · rw [mrg_in z]; exact e
    · rw [mrg_out z]; exact T.fr a o (by rw [del_out z]; exact e) n ht
  · by_cases z : S a
    · rw [mrg_in z] at e; exact e
    · rw [mrg_out z] at e
      have q := T.gro a e
      rw [del_out z] at q
      exact q
  · rcases T.nio a h with q | q
    · exact .inl q
    · rw [del_out (nio a h)] at q; exact .inr q
  · by_cases z : S a
    · rw [mrg_in z] at e; exact h0 a ps e
    · rw [mrg_out z] at e
      exact T.ntb (fun b qs q => h0 b qs (del_some q).1) a ps e
end KL

namespace KL
open PySem L2

/-! ### a lambda's body -/
/-- the lambda's promise: its function on data (parameters, then what it captured) -/
structure LamOk (P : Program) (w : World) (c : Ct) (mg : Str → Option Value) (base : Heap) (k : Nat) (ld : LamD) (G : List D → Sto → R D) : Prop where
  run : ∀ (A : Around) (outer : List Env) (s : Shared) (H : Hp) (f c' : Addr) (cl : List (Str × Addr)) (pm ctv : Value) (us : List Value) (vs ws : List V) (Q : VK) (E : XK), Room k A → Env0 P w c.K mg base A outer s H → s.heap.get? f = some (lamObj ld cl pm c' ctv) → s.heap.CodeRec (.ref c') ld.qual →
    NdefX.CellsAt cl ld.fr (ws.map some) s.heap H → Vals vs us → vs.length = ld.ps.length → spM c (ld.ps.length + ld.fr.length) G (vs ++ ws) H Q E → codeAny (model P w) A (.call (.ref f) ⟨us, []⟩) (CR (L2N.CX P w) outer P w H s Q E) s
/-- the context of a lambda's body -/
structure BdyL (X : Cx) (P : Program) (w : World) (c : Ct) (mg : Str → Option Value) (base : Heap) (N : List Str) (scope : Scope) (k : Nat) (W : WX) : Prop where
  prog : X.prog = P
  w : X.w = w
  mg : X.mg = mg
  base : X.base = base
  N : X.N = N
  sc : X.env.scope = scope
  ok : Cok X c W
  room : Room k X.A
section
variable {P : Program} {w : World} {c : Ct} {mg : Str → Option Value} {base : Heap} {ld : LamD}
theorem startF_at {N : List Str} {vs ws : List V} {i : Nat} {v : V} (h : (vs ++ ws)[i]? = some v) : (NdefX.startF N vs (ws.map some))[i]? = some (some v) := by
  unfold NdefX.startF
  rw [← List.append_assoc, ← List.map_append]
  have hi : i < (vs ++ ws).length := (List.getElem?_eq_some_iff.mp h).1
  rw [List.getElem?_append_left (by rw [List.length_map]; exact hi), List.getElem?_map, h]
  rfl
theorem lam_den {k : Nat} {fe : Sm} (S : NdefX.NScope (ld.ps ++ ld.fr) ld.ps ld.fr ld.scope) (hbind : ∀ (cl : List (Str × Addr)) (pm cv ctv : Value) (us : List Value), us.length = ld.ps.length → bindArgs (PySem.W.kla_fn "<lambda>" ld.qual ld.params ld.body ld.scope cl pm cv ctv) ⟨us, []⟩ = pure (ld.ps.zip us))
    (hB : ∀ (X : Cx) (W : WX), BdyL X P w c mg base (ld.ps ++ ld.fr) ld.scope k W → PE X ld.body (den c W fe)) : LamOk P w c mg base (k + 1) ld (fnR (ld.ps ++ ld.fr).length (sRet fe)) := by
  refine ⟨fun A outer s H f c' cl pm ctv us vs ws Q E hr e0 hf hcd C r hlv hsp => ?_⟩
  obtain ⟨hl, F, io, st, ds, hs, htab, hnt, sm, rr, p⟩ := hsp
  have lim : s.heap.NoLimit := e0.mod.nolimit.keeps fun b o e => (e0.bs b o e).1
  refine PySem.W.kla_callFunE hr.depth hf rfl S.co S.gen rfl hcd ?_
  rw [hbind cl pm (.ref c') ctv us (by rw [← r.length]; exact hlv)]
  refine wpAny_pure (wpAny_newFunctionEnv S.nocell (fun ⟨n, _⟩ hy => S.par n (List.of_mem_zip hy).1) (fun h₁ hns hsb => ⟨lim.fresh _ hsb, ?_⟩) S.kind)
  have kp : ∀ b o, s.heap.get? b = some o → h₁.get? b = some o := fun b o e => hsb.extBut b o (Nat.ne_of_lt (Heap.lt_size e)) (Heap.get?_push_of_some _ e)
  have J : Inv (NdefX.ncx (L2N.CX P w) P w c.K mg base (ld.ps ++ ld.fr) ⟨"<lambda>", ld.qual, ld.params, [], ld.scope, cl, c'⟩ f A outer s H E) [] (NdefX.startF (ld.ps ++ ld.fr) vs (ws.map some)) H { s with heap := h₁, toks := s.toks + (ld.ps.zip us).length } :=
    NdefX.inv_startN S hr.hd e0 hlv r C hns kp
  have B := hB (NdefX.ncx (L2N.CX P w) P w c.K mg base (ld.ps ++ ld.fr) ⟨"<lambda>", ld.qual, ld.params, [], ld.scope, cl, c'⟩ f A outer s H E) (fun cls d _ H => E cls d H)
    ⟨rfl, rfl, rfl, rfl, rfl, rfl, ⟨rfl, S.nd, rfl, (hr.deeper _).units, L2N.takes_of rfl rfl rfl rfl⟩, hr.deeper _⟩
  have hlen : (NdefX.startF (ld.ps ++ ld.fr) vs (ws.map some)).length = (ld.ps ++ ld.fr).length := J.len
  have g0 : Good c ⟨F, io, H⟩ F io st (rho0 (ld.ps ++ ld.fr).length ds) (NdefX.startF (ld.ps ++ ld.fr) vs (ws.map some)) H := by
    refine good_of hs htab hnt sm hlen (by rw [← rr.length, hl, List.length_append]; exact Nat.le_refl _) fun i d e => ?_
    obtain ⟨v, e1, q⟩ := rr.get e
    exact ⟨v, startF_at e1, q⟩
  have hd : den c (fun cls d _ H => E cls d H) fe (NdefX.startF (ld.ps ++ ld.fr) vs (ws.map some)) H Q := by
    refine ⟨⟨F, io, H⟩, F, io, st, _, g0, ?_⟩
    unfold fnR sRet sThen at p
    cases hb : fe (rho0 (ld.ps ++ ld.fr).length ds) st with
    | no => rw [hb] at p; exact p.elim
    | ex e st' =>
      rw [hb] at p
      intro H' F' io' S' s'
      obtain ⟨io2, S2, s2, r2⟩ := cut_ok (v := .non) (d := .non) S' s' sm.len .non
      exact p H' F' io2 S2 s2
    | ok t st' =>
      rw [hb] at p
      intro v H' F' io' S' s' T
      cases t with
      | d d =>
        obtain ⟨io2, S2, s2, r2⟩ := cut_ok S' s' sm.len (show Rv c F' io' v d from T)
        exact p v H' F' io2 S2 s2 r2
      | fr us =>
        obtain ⟨F2, S2, s2, r2⟩ := Tvs.give S' s' T rfl
        obtain ⟨io3, S3, s3, r3⟩ := cut_ok S2 s2 sm.len r2
        exact p v H' F2 io3 S3 s3 r3
      | o i =>
        exfalso
        obtain ⟨⟨us, e1⟩, _⟩ := T
        obtain ⟨d', _, e2⟩ := rho0_at e1
        exact cellD_own e2
  refine PySem.W.kla_codeExpr (wpAny_mono (B.run [] _ _ H Q J hd) (fun v s' hq => ?_) fun e s' hq => hq)
  obtain ⟨w', H', J', rv, q⟩ := hq
  exact ⟨w', H', J'.os, J'.bare, J'.base, J'.hok, rv, q⟩
end

/-! ### a closure called -/
def capAt (rh : Rho) (i : Nat) : Option (Nat × List D) := match rh[i]? with
  | some (some (.clo t cs)) => some (t, cs)
  | _ => none
/-- ls: the lambdas' names in the table -/
def eCallV (ls : List Str) (G : Tbl) (i : Nat) (fs : List Sm) : Sm := fun rh st => match capAt rh i with
  | some (t, cs) => (match ls[t]? with
    | some g => (eArgs fs rh st).bind fun ds st1 => (G g (ds ++ cs) st1).bind fun d st2 => .ok (.d d) st2
    | none => .no)
  | none => .no
/-- the cells that a closure holds -/
def Cls1 (cl : List (Str × Addr)) : Addr → Prop := fun a => ∃ y, cl.lookup y = some a
section
variable {X : Cx} {c : Ct} {W : WX} {B : Bs} {F F' F1 F2 H H' H1 : Hp} {io io' io1 io2 : List Addr} {st st' st1 : Sto} {rh : Rho} {σ : St} {v : V} {t : TV} {d : D} {a b e o : Expr} {es : List Expr} {fa fb fo fe fk : Sm} {fs : List Sm} {pos p apos : Pos} {cl : List (Str × Addr)}
theorem CapR.pnd : ∀ {ys : List Str} {ds : List D}, CapR c F io cl ys ds → ∀ y ∈ ys, ∃ a co u, cl.lookup y = some a ∧ F a = some (PinO a co) ∧ co.data = .cell (some u)
  | _, _, .nil, y, h => by simp at h
  | _, _, .cons h1 h2 _ h4 _ _ r, y, h => by
    rcases List.mem_cons.mp h with e | h
    · subst e; exact ⟨_, _, _, h1, h2, h4⟩
    · exact CapR.pnd r y h
theorem CapR.vals : ∀ {ys : List Str} {ds : List D}, CapR c F io cl ys ds → ∃ ws : List V, ws.length = ys.length ∧ RvAll c F io ws ds ∧ ∀ (i : Nat) (y : Str), ys[i]? = some y → ∃ a co u v, cl.lookup y = some a ∧ F a = some (PinO a co) ∧ co.data = .cell (some u) ∧ ws[i]? = some v ∧ RelV v u
  | _, _, .nil => ⟨[], rfl, .nil, fun i y e => by simp at e⟩
  | _, _, .cons h1 h2 _ h4 h5 h6 r => by
    obtain ⟨ws, hl, hr, hk⟩ := CapR.vals r
    refine ⟨_ :: ws, by simp [hl], .cons h6 hr, fun i y e => ?_⟩
    cases i with
    | zero => simp at e; subst e; exact ⟨_, _, _, _, h1, h2, h4, rfl, h5⟩
    | succ i =>
      obtain ⟨a, co, u, v, q1, q2, q3, q4, q5⟩ := hk i y (by simpa using e)
      exact ⟨a, co, u, v, q1, q2, q3, by simpa using q4, q5⟩
theorem tabs_del {T : List (Addr × Str)} {S : Addr → Prop} {P : Program} {w : World} {h : Heap} (t : LamX.Tabs T H) (x : HOk P w H h) (hp : ∀ a, S a → ∃ co u, H a = some (PinO a co) ∧ co.data = .cell u) : LamX.Tabs T (del H S) := by
  intro q hq
  obtain ⟨ps, a1, a2, a3⟩ := t q hq
  refine ⟨ps, ?_, a2, fun pos cv hc => ?_⟩
  · rw [del_out (fun z => ?_)]
    · exact a1
    · obtain ⟨co, u, e, _⟩ := hp _ z
      rw [a1] at e
      unfold PinO at e
      cases e
  · obtain ⟨c0, e1, e2⟩ := a3 pos cv hc
    refine ⟨c0, e1, ?_⟩
    rw [del_out (fun z => ?_)]
    · exact e2
    · obtain ⟨co, u, e, hd⟩ := hp _ z
      obtain ⟨⟨oc, vs, t, q1, q2, _⟩, _⟩ := x _ _ e2
      have q3 := Pnd.at x e
      rw [q1] at q3
      cases q3
      rw [hd] at q2
      cases q2
/-- the closure runs: its cells are left out meanwhile -/
theorem run_clo {k t : Nat} {cs ds : List D} {vs : List V} {us : List Value} {ld : LamD} {G : List D → Sto → R D} {pins : List (Addr × Obj)} {s : Shared} {Q : VK} (C0 : Cok X c W) (I : Inv X pins σ H s) (g : Good c B F io st rh σ H) (ok : LamOk X.prog X.w c X.mg X.base k ld G) (hr : Room k X.A) (hK : X.K = c.K) (hld : c.L[t]? = some ld)
    (hc : Rc c F io v t cs) (r : Vals vs us) (rv : RvAll c F io vs ds) (hlv : vs.length = ld.ps.length) (p : Pst c W F io rh σ H Q ((G (ds ++ cs) st).bind fun d st2 => .ok (.d d) st2)) :
    ∃ f, v = .ref f ∧ wpAny (model X.prog X.w) X.A (call (.ref f) us) (EP X pins σ Q) X.xe s := by
  obtain ⟨ld', f, c', cl, pm, ctv, rfl, q2, q3, q4, q5, q6, inj, sub, cap⟩ := hc
  rw [hld] at q2
  cases q2
  refine ⟨f, rfl, ?_⟩
  obtain ⟨ws, hlw, rws, hat⟩ := cap.vals
  have hcell : ∀ a, Cls1 cl a → ∃ co u, H a = some (PinO a co) ∧ co.data = .cell (some u) := fun a ⟨y, e⟩ => by
    obtain ⟨a', co, u, e1, e2, e3⟩ := cap.pnd y (sub y a e)
    rw [e] at e1
    cases e1
    exact ⟨co, u, g.sub _ _ e2, e3⟩
  have hp : Pnd (Cls1 cl) H := fun a z => let ⟨co, u, e, _⟩ := hcell a z; ⟨co, e⟩
  have hF : ∀ a, Cls1 cl a → F a ≠ none := fun a ⟨y, e⟩ => by
    obtain ⟨a', co, u, e1, e2, e3⟩ := cap.pnd y (sub y a e)
    rw [e] at e1
    cases e1
    rw [e2]
    simp
  have t1 : LamX.Tabs c.T H := g.stp.tab g.btab
  have t0 : LamX.Tabs c.T (del H (Cls1 cl)) := tabs_del t1 I.hok fun a z => let ⟨co, u, e, h⟩ := hcell a z; ⟨co, _, e, h⟩
  have hf : ∀ a o, F a = some o → (∀ φ, o ≠ .ext φ) → del F (Cls1 cl) a = some o := fun a o e hx => by rw [del_out (hp.ne (g.sub _ _ e) hx)]; exact e
  have fo : s.heap.get? f = some (lamObj ld cl pm c' ctv) := Pnd.at I.hok (g.sub _ _ q3)
  have co : s.heap.CodeRec (.ref c') ld.qual := NdefX.codeO_at I.hok (g.sub _ _ q5)
  have CA : NdefX.CellsAt cl ld.fr (ws.map some) s.heap (del H (Cls1 cl)) := by
    refine ⟨by rw [List.length_map, hlw], fun y a e => ?_, inj, fun i y e => ?_⟩
    · obtain ⟨co, u, e1, e2⟩ := hcell a ⟨y, e⟩
      exact ⟨del_in ⟨y, e⟩, some u, co, Pnd.at I.hok e1, e2⟩
    · obtain ⟨a, co, u, v, e1, e2, e3, e4, e5⟩ := hat i y e
      refine ⟨a, e1, fun v' e6 => ?_⟩
      rw [List.getElem?_map, e4] at e6
      cases e6
      exact ⟨u, e5, co, Pnd.at I.hok (g.sub _ _ e2), e3⟩
  have sp : spM c (ld.ps.length + ld.fr.length) G (vs ++ ws) (del H (Cls1 cl)) (fun v H' => (∀ a, Cls1 cl a → H' a = none) → Q v (mrg H' H (Cls1 cl))) (fun cls d H' => (∀ a, Cls1 cl a → H' a = none) → W cls d σ (mrg H' H (Cls1 cl))) := by
    refine ⟨by rw [List.length_append, hlv, hlw], del F (Cls1 cl), io, st, ds ++ cs, fun a o e => ?_, t0, fun a ps e => g.stp.ntb g.bnt a ps (del_some e).1, g.sim.nx hf, RvAs.of ((rv.nx hf).append (rws.nx hf)), ?_⟩
    · obtain ⟨e, n⟩ := del_some e
      rw [del_out n]
      exact g.sub a o e
    · cases hG : G (ds ++ cs) st with
      | no => rw [hG] at p; exact p.elim
      | ex x st' =>
        rw [hG] at p
        intro H' F' io' T s' hS
        obtain ⟨T2, s2, _⟩ := stp_mrg g.sub hp hF t0 T s' hS
        exact p _ _ _ T2 s2
      | ok d st' =>
        rw [hG] at p
        intro v H' F' io' T s' rv' hS
        obtain ⟨T2, s2, k2⟩ := stp_mrg g.sub hp hF t0 T s' hS
        exact p v _ _ _ T2 s2 (k2 v d rv')
  have e0 : Env0 X.prog X.w c.K X.mg X.base X.A X.stack s H := by rw [← hK]; exact I.env0
  refine wpAny_call (codeAny_mono (ok.run X.A X.stack s (del H (Cls1 cl)) f c' cl pm ctv us vs ws _ _ hr (env0_del e0 hp) fo co CA r hlv sp) fun r s' hq => ?_)
  cases r with
  | error e => exact L2N.passAt C0.tk σ pins H s e s' I (cx_mrg I.hok e0.frf hp hq)
  | ok fl =>
    cases fl with
    | ret u => exact I.after (ce_mrg I.hok e0.frf hp hq)
    | next => exact False.elim hq
    | brk => exact False.elim hq
    | cont => exact False.elim hq
end
end KL

namespace KL
open PySem L2

/-! ### from the text to functions on data -/
structure MI where
  cs : List (Str × D)
  fs : List (Str × Nat)
  clo : List Str := []
  ml : Ml := []
  ar : List (Str × Nat) := []
  ma : List (Str × (Str × Nat)) := []
  fl : List (Str × Str) := []
  xs : List Str := []
  cat : List (Str × List Str) := []
def bnames : List Str := ["len", "all", "any", "tuple", "list", "int", "str", "bool", "isinstance", "range", "enumerate", "zip", "sorted", "set", "min", "max", "dict"]
def ixOf (x : Str) : List Str → Option Nat
  | [] => none
  | y :: ys => if y = x then some 0 else (ixOf x ys).map (· + 1)
theorem ixOf_some {x : Str} : ∀ {N : List Str} {i : Nat}, ixOf x N = some i → N[i]? = some x
  | [], _, h => by cases h
  | y :: ys, i, h => by
    unfold ixOf at h
    split at h
    · rename_i e
      cases h
      rw [e]
      rfl
    · rw [Option.map_eq_some_iff] at h
      obtain ⟨j, e1, rfl⟩ := h
      simpa using ixOf_some e1
def optAll {α β : Type} (f : α → Option β) : List α → Option (List β)
  | [] => some []
  | a :: as => (f a).bind fun b => (optAll f as).map (b :: ·)
def grd {α : Type} (b : Bool) (o : Option α) : Option α := if b then o else none
theorem grd_some {α : Type} {b : Bool} {o : Option α} {a : α} (h : grd b o = some a) : b = true ∧ o = some a := by
  unfold grd at h
  split at h
  · rename_i e; exact ⟨e, h⟩
  · cases h
def vis (sc : Scope) (x : Str) : Bool := match sc.names.lookup x with
  | some .local => true
  | some .cell => true
  | some .free => true
  | _ => false
def glb (sc : Scope) (x : Str) : Bool := decide (sc.names.lookup x = some .globalImplicit)
def okN (x : Str) : Bool := !(x == ("__debug__" : Str)) && !(x == ("__classdict__" : Str))
def biOf (g : Str) : Option Bi := [Bi.len, .all, .any, .tuple, .list, .int, .str].find? fun b => decide (b.name = g)
def tyOf (g : Str) : Option Ty := [Ty.int, .str, .bool, .tuple, .list].find? fun t => decide (t.nm = g)
theorem biOf_some {g : Str} {b : Bi} (h : biOf g = some b) : b.name = g := by
  have := List.find?_some h
  simpa using this
theorem tyOf_some {g : Str} {b : Ty} (h : tyOf g = some b) : b.nm = g := by
  have := List.find?_some h
  simpa using this
def cBool (f : Expr → Option Sm) (op : BoolOp) : List Expr → Option Sm
  | [] => none
  | [a] => f a
  | a :: b :: rest => (f a).bind fun fa => (cBool f op (b :: rest)).map fun fr => match op with
    | .And => eAnd fa fr
    | .Or => eOr fa fr
def locN (sc : Scope) (cl : Bool) (x : Str) : Bool := decide (sc.names.lookup x = some .local) || (cl && decide (sc.names.lookup x = some .cell))
def cNm (N : List Str) (sc : Scope) (cl : Bool) : Expr → Option Nat
  | .Name x _ => grd (locN sc cl x) (ixOf x N)
  | _ => none
def cTg (N : List Str) (sc : Scope) (cl : Bool) : Expr → Option Tg
  | .Tuple es _ _ => (optAll (cNm N sc cl) es).map .tup
  | e => (cNm N sc cl e).map .name
def isTup : Expr → Bool
  | .Tuple _ _ _ => true
  | _ => false
def notSet : Expr → Bool
  | .Set _ _ _ => false
  | _ => true
/-- of a comprehension (one := iOne), of a loop (one := iOneP) -/
def cI (f : Expr → Option Sm) (sc : Scope) (one : (D → Option (List D)) → Sm → Im) (zp : Bool) (tg iter : Expr) : Option Im := match iter with
  | .Call (.Name g _) [a] [] _ =>
    if g = "range" then grd (glb sc g && notStar a) ((f a).map (iOne rng1))
    else if g = "enumerate" then grd (glb sc g && notStar a && isTup tg) ((f a).map (one enmD))
    else (f iter).map (one itemsD)
  | .Call (.Name g _) [a, b] [] _ =>
    if g = "range" then grd (glb sc g && notStar a && notStar b) ((f a).bind fun fa => (f b).map (iTwo rng2 fa))
    else if g = "zip" then grd (zp && glb sc g && notStar a && notStar b && isTup tg) ((f a).bind fun fa => (f b).map (iTwo zipD fa))
    else (f iter).map (one itemsD)
  | e => grd (notSet e) ((f e).map (one itemsD))
def ownOf (N : List Str) : List (Str × NameKind) → List (Str × Nat)
  | [] => []
  | (x, k) :: r => match k, ixOf x N with
    | .local, some i => (x, i) :: ownOf N r
    | .cell, some i => (x, i) :: ownOf N r
    | _, _ => ownOf N r
def cPart (f : Expr → Option Sm) : Option Expr → Option (Option Sm)
  | none => some none
  | some e => (f e).map some
def cIfs (f : Expr → Option Sm) : List Expr → Option (Option Sm)
  | [] => some none
  | [t] => (f t).map some
  | _ => none
/-- sorted(set(e)) -/
def cSort (f : Expr → Option Sm) (sc : Scope) (g : Str) : Expr → Option Sm
  | .Call (.Name h _) [x] [] _ => grd (decide (g = "sorted") && decide (h = "set") && glb sc h && notStar x) ((f x).map eSortSet)
  | _ => none
/-- an argument of an own function -/
def cArg (M : MI) (N : List Str) (sc : Scope) (f : Expr → Option Sm) : Expr → Option Ag
  | .Name x p => if M.clo.contains x then grd (okN x && vis sc x) ((ixOf x N).map .k) else (f (.Name x p)).map .e
  | e => (f e).map .e
/-- own methods -/
def cOwn (M : MI) (G : Tbl) (N : List Str) (sc : Scope) (f : Expr → Option Sm) (m : Str) (a : Expr) (args : List Expr) (apos pos : Pos) : Option Sm :=
  grd (plainBase a && args.all notStar && decide (args.length < 29) && (apos.endLine == pos.line) && M.ml.all fun p => !decide (p.1.2 = m) || decide (M.ar.lookup p.2 = some (args.length + 1)))
    ((f a).bind fun fa => (optAll (cArg M N sc f) args).map (eMeth M.ml G m fa))
/-- methods of texts, lists, dicts -/
def cMt0 (f : Expr → Option Sm) (m : Str) (a : Expr) (apos pos : Pos) : Option Sm := grd (plainBase a && (apos.endLine == pos.line)) (if m = "upper" then (f a).map eM_upper else if m = "pop" then (f a).map ePop0 else none)
def cMt1 (f : Expr → Option Sm) (m : Str) (a b : Expr) (apos pos : Pos) : Option Sm := grd (plainBase a && notStar b && (apos.endLine == pos.line))
  (if m = "index" then (f a).bind fun fa => (f b).map (eM_index fa)
  else if m = "join" then (f a).bind fun fa => (f b).map (eM_join fa)
  else if m = "split" then (f a).bind fun fa => (f b).map (eM_split fa)
  else if m = "partition" then (f a).bind fun fa => (f b).map (eM_part fa)
  else if m = "pop" then (f a).bind fun fa => (f b).map (ePop1 fa)
  else none)
def cMt2 (f : Expr → Option Sm) (m : Str) (a b b2 : Expr) (apos pos : Pos) : Option Sm := grd (plainBase a && notStar b && notStar b2 && (apos.endLine == pos.line))
  (if m = "get" then (f a).bind fun fa => (f b).bind fun fb => (f b2).map (eGet2 fa fb) else none)
def mNames : List Str := ["upper", "pop", "index", "join", "split", "partition", "get"]
def cMt (M : MI) (G : Tbl) (N : List Str) (sc : Scope) (f : Expr → Option Sm) (m : Str) (a : Expr) (args : List Expr) (apos pos : Pos) : Option Sm :=
  if mNames.contains m then (match args with
    | [] => cMt0 f m a apos pos
    | [b] => cMt1 f m a b apos pos
    | [b, b2] => cMt2 f m a b b2 apos pos
    | _ => none)
  else cOwn M G N sc f m a args apos pos
def cMm (f : Expr → Option Sm) (g : Str) (a b : Expr) : Option Sm := grd (notStar a && notStar b)
  (if g = "min" then (f a).bind fun fa => (f b).map (eMin2 fa) else if g = "max" then (f a).bind fun fa => (f b).map (eMax2 fa) else none)
def cB1 (f : Expr → Option Sm) (sc : Scope) (g : Str) (a : Expr) : Option Sm := match biOf g with
  | some b => grd (notStar a) ((f a).map (eB1 b))
  | none => if g = "dict" then grd (notStar a) ((f a).map eDict) else cSort f sc g a
def cIs (f : Expr → Option Sm) (sc : Scope) (a : Expr) : Expr → Option Sm
  | .Name t _ => grd (notStar a && glb sc t) ((tyOf t).bind fun ty => (f a).map (eIsi ty))
  | .Tuple [.Name t _, .Name u _] _ _ => grd (notStar a && glb sc t && glb sc u) ((tyOf t).bind fun ty => (tyOf u).bind fun uy => (f a).map (eIsi2 ty uy))
  | _ => none
def cCall (M : MI) (G : Tbl) (N : List Str) (f : Expr → Option Sm) (sc : Scope) (g : Str) (args : List Expr) : Option Sm :=
  grd (glb sc g && okN g) (match M.fs.lookup g with
    | some n => grd (args.all notStar) ((optAll (cArg M N sc f) args).bind fun fs => if fs.length = n then some (eCall G g fs) else none)
    | none => (match M.ma.lookup g with
      | some (ini, n) => grd (args.all notStar) ((optAll (cArg M N sc f) args).bind fun fs => if fs.length + 1 = n then some (eMake G g ini fs) else none)
      | none => (match args with
        | [a] => cB1 f sc g a
        | [a, b] => if g = "isinstance" then cIs f sc a b else cMm f g a b
        | _ => none)))
/-- keys of a display -/
def cKeys : List (Option Expr) → Option (List Str)
  | [] => some []
  | some (.Constant (.str x) _ _) :: r => (cKeys r).map (x :: ·)
  | _ => none
def cX (M : MI) (G : Tbl) (N : List Str) : Nat → Bool → Scope → Expr → Option Sm
  | 0, _, _, _ => none
  | n + 1, true, sc, e => (match e with
    | .UnaryOp .Not x _ => (cX M G N n true sc x).map eNot
    | .BoolOp op es _ => cBool (cX M G N n true sc) op es
    | .Compare a [op] [b] _ => grd (!behindInMarks op b) ((cX M G N n false sc a).bind fun fa => (cX M G N n false sc b).map (eCmp op fa))
    | .Compare a [op, op'] [b, c] _ => grd (!lastMarks [op, op'] [b, c]) ((cX M G N n false sc a).bind fun fa => (cX M G N n false sc b).bind fun fb => (cX M G N n false sc c).map (eCmp2 op op' fa fb))
    | e => grd (plainT e) ((cX M G N n false sc e).map eTru))
  | n + 1, false, sc, e => (match e with
    | .Constant (.int i) _ _ => some (eC (.int i))
    | .Constant (.bool b) _ _ => some (eC (.bl b))
    | .Constant .none _ _ => some (eC .non)
    | .Constant (.str x) _ _ => some (eC (.str x))
    | .Name x _ => grd (okN x) (if vis sc x then (ixOf x N).map eVar else grd (glb sc x) ((M.cs.lookup x).map eC))
    | .Tuple es _ _ => grd (es.all notStar && decide (es.length ≤ 1000)) ((optAll (cX M G N n false sc) es).map eTup)
    | .List es _ => grd (es.all notStar && decide (es.length ≤ 1000)) ((optAll (cX M G N n false sc) es).map eLst)
    | .BinOp a op b _ => (cX M G N n false sc a).bind fun fa => (cX M G N n false sc b).map (eBin op fa)
    | .UnaryOp .Not a _ => (cX M G N n false sc a).map eNot
    | .UnaryOp .USub a _ => (cX M G N n false sc a).map eNeg
    | .BoolOp op es _ => cBool (cX M G N n false sc) op es
    | .Compare a [op] [b] _ => grd (!behindInMarks op b) ((cX M G N n false sc a).bind fun fa => (cX M G N n false sc b).map (eCmp op fa))
    | .Compare a [op, op'] [b, c] _ => grd (!lastMarks [op, op'] [b, c]) ((cX M G N n false sc a).bind fun fa => (cX M G N n false sc b).bind fun fb => (cX M G N n false sc c).map (eCmp2 op op' fa fb))
    | .IfExp t a b _ => (cX M G N n true sc t).bind fun ft => (cX M G N n false sc a).bind fun fa => (cX M G N n false sc b).map (eIf ft fa)
    | .Subscript a (.Slice lo hi none _) _ => (cX M G N n false sc a).bind fun fa => (cPart (cX M G N n false sc) lo).bind fun fl => (cPart (cX M G N n false sc) hi).map (eSlc fa fl)
    | .Subscript a (.Slice none none (some (.UnaryOp .USub (.Constant (.int 1) _ _) _)) _) _ => (cX M G N n false sc a).map eRev
    | .Subscript a b _ => grd (plainIx b) ((cX M G N n false sc a).bind fun fa => (cX M G N n false sc b).map (eIdx fa))
    | .Attribute a m _ => grd (plainBase a) ((cX M G N n false sc a).map (eFld m))
    | .Dict [] [] _ => some eDictNew
    | .Dict keys es _ => grd (decide (keys.length = es.length) && decide (keys.length ≤ 15) && !keys.isEmpty) ((cKeys keys).bind fun ks => (optAll (cX M G N n false sc) es).map (eDisp ks))
    | .Call (.Name g _) args [] _ => cCall M G N (cX M G N n false sc) sc g args
    | .Call (.Attribute a m apos) args [] pos => cMt M G N sc (cX M G N n false sc) m a args apos pos
    | .ListComp elt [gen] scope _ => grd (blkC N sc scope (ownOf N scope.names) && decide (gen.is_async = 0)) ((cTg N (relS scope sc) false gen.target).bind fun tg => grd (tg.slots.all fun i => decide (i ∈ (ownOf N scope.names).map (·.2)))
        ((cI (cX M G N n false sc) sc iOne true gen.target gen.iter).bind fun fi => (cIfs (cX M G N n true (relS scope sc)) gen.ifs).bind fun fc => (cX M G N n false (relS scope sc) elt).map (eComp ((ownOf N scope.names).map (·.2)) tg fi fc)))
    | _ => none)

/-! ### it is right -/
structure Env1 (X : Cx) (c : Ct) (M : MI) (G : Tbl) : Prop where
  free : ∀ x ∈ bnames, X.mg x = none
  cst : ∀ x d, M.cs.lookup x = some d → ∃ v u, X.mg x = some u ∧ RelV v u ∧ ∀ F io, Rv c F io v d
  fn : ∀ g n, M.fs.lookup g = some n → ∃ k f fd ps, FnAt X c G g n k f fd ps
  mt : ∀ C m g n, M.ml.lookup (C, m) = some g → M.ar.lookup g = some n → ∃ k f fd ps, MtAt X c G C m g n k f fd ps
  ma : ∀ C g n, M.ma.lookup C = some (g, n) → ∃ k f fd ps, MkAt X c G C g n k f fd ps
  fl : ∀ C f, (C, f) ∈ M.fl → NoAttr c.K (c.ca C) f
  xc : ∀ e ∈ M.xs, ∃ C, XcAt X c e C
  cat : ∀ L xs, M.cat.lookup L = some xs → ∃ cl, X.mg L = some cl ∧ ∀ e ∈ xs, PySem.W.exmOne X.K (c.xc e) cl = some true
structure Cx1 (X : Cx) (c : Ct) (M : MI) (G : Tbl) (N : List Str) (W : WX) (sc : Scope) : Prop where
  ok : Cok X c W
  N : X.N = N
  sc : X.env.scope = sc
  env : Env1 X c M G
def Snd (b : Bool) (X : Cx) (c : Ct) (W : WX) (e : Expr) (f : Sm) : Prop := match b with
  | true => PT X e (denT c W f)
  | false => PE X e (den c W f)
section
variable {X : Cx} {c : Ct} {M : MI} {G : Tbl} {N : List Str} {W : WX} {sc : Scope}
theorem glb_ok (C : Cx1 X c M G N W sc) {x : Str} (h : glb sc x = true) : Gl X x := by
  show X.env.scope.names.lookup x = _
  rw [C.sc]
  exact of_decide_eq_true h
theorem vis_ok (C : Cx1 X c M G N W sc) {x : Str} (h : vis sc x = true) : Vis X.env.scope x := by
  rw [C.sc]
  unfold vis at h
  unfold Vis
  split at h <;> simp_all
theorem okN_ok {x : Str} (h : okN x = true) : (x == ("__debug__" : Str)) = false ∧ (x == ("__classdict__" : Str)) = false := by
  unfold okN at h
  simpa using h
theorem fewer {fs : List Sm} (h : fs.length ≤ 1000) : fs.length ≤ sizeLine := Nat.le_of_lt (small1000 h)
theorem optAll_len {α β : Type} {f : α → Option β} : ∀ {as : List α} {bs : List β}, optAll f as = some bs → bs.length = as.length
  | [], _, h => by cases h; rfl
  | a :: as, bs, h => by
    simp only [optAll, Option.bind_eq_some_iff, Option.map_eq_some_iff] at h
    obtain ⟨b, _, bs', h2, rfl⟩ := h
    rw [List.length_cons, List.length_cons, optAll_len h2]
theorem pa_all {f : Expr → Option Sm} (hf : ∀ e g, f e = some g → PE X e (den c W g)) : ∀ {es : List Expr} {fs : List Sm}, optAll f es = some fs → es.all notStar = true → PA X es (denA c W fs)
  | [], _, h, _ => by cases h; exact pa_den_nil
  | e :: es, fs, h, hs => by
    simp only [optAll, Option.bind_eq_some_iff, Option.map_eq_some_iff] at h
    obtain ⟨b, h1, bs', h2, rfl⟩ := h
    rw [List.all_cons, Bool.and_eq_true] at hs
    exact pa_den_cons (hf e b h1) (pa_all hf h2 hs.2) hs.1
theorem cBool_pe {f : Expr → Option Sm} {op : BoolOp} {pos : Pos} (hf : ∀ e g, f e = some g → PE X e (den c W g)) : ∀ {es : List Expr} {g : Sm}, cBool f op es = some g → PE X (.BoolOp op es pos) (den c W g)
  | [], _, h => by cases h
  | [a], g, h => pe_one (hf a g h)
  | a :: b :: rest, g, h => by
    simp only [cBool, Option.bind_eq_some_iff, Option.map_eq_some_iff] at h
    obtain ⟨fa, h1, fr, h2, rfl⟩ := h
    have q := cBool_pe (pos := pos) hf h2
    cases op with
    | And => exact pe_den_and (hf a fa h1) q
    | Or => exact pe_den_or (hf a fa h1) q
theorem cBool_pw {f : Expr → Option Sm} {op : BoolOp} {pos : Pos} (hf : ∀ e g, f e = some g → PT X e (denT c W g)) : ∀ {es : List Expr} {g : Sm}, cBool f op es = some g → PW X (.BoolOp op es pos) (denT c W g)
  | [], _, h => by cases h
  | [a], g, h => by
    cases op with
    | And => exact pw_and1 (hf a g h)
    | Or => exact pw_or1 (hf a g h)
  | a :: b :: rest, g, h => by
    simp only [cBool, Option.bind_eq_some_iff, Option.map_eq_some_iff] at h
    obtain ⟨fa, h1, fr, h2, rfl⟩ := h
    have q := cBool_pw (pos := pos) hf h2
    cases op with
    | And => exact pw_den_and (hf a fa h1) q
    | Or => exact pw_den_or (hf a fa h1) q
theorem mem_bn {x : Str} (C : Cx1 X c M G N W sc) (h : bnames.contains x = true) : X.mg x = none := C.env.free x (by simpa using h)
theorem bi_free (C : Cx1 X c M G N W sc) (b : Bi) : X.mg b.name = none := by cases b <;> exact mem_bn C (by decide +kernel)
theorem ty_free (C : Cx1 X c M G N W sc) (b : Ty) : X.mg b.nm = none := by cases b <;> exact mem_bn C (by decide +kernel)
theorem pa_args (C : Cx1 X c M G N W sc) {f : Expr → Option Sm} (hf : ∀ e g, f e = some g → PE X e (den c W g)) : ∀ {es : List Expr} {fs : List Ag}, optAll (cArg M N sc f) es = some fs → es.all notStar = true → PA X es (denAC c W fs)
  | [], _, h, _ => by cases h; exact pa_c_nil
  | e :: es, fs, h, hs => by
    simp only [optAll, Option.bind_eq_some_iff, Option.map_eq_some_iff] at h
    obtain ⟨b, h1, bs', h2, rfl⟩ := h
    rw [List.all_cons, Bool.and_eq_true] at hs
    have r := pa_args C hf h2 hs.2
    have fin : ∀ {b : Ag}, (f e).map Ag.e = some b → PA X (e :: es) (denAC c W (b :: bs')) := fun {b} h => by
      rw [Option.map_eq_some_iff] at h
      obtain ⟨g, h, rfl⟩ := h
      exact pa_c_e (hf e g h) r hs.1
    unfold cArg at h1
    split at h1
    · split at h1
      · have h0 := (grd_some h1).1
        replace h1 := (grd_some h1).2
        rw [Bool.and_eq_true] at h0
        rw [Option.map_eq_some_iff] at h1
        obtain ⟨i, h1, rfl⟩ := h1
        exact pa_c_k (by rw [C.N]; exact ixOf_some h1) (vis_ok C h0.2) (okN_ok h0.1).1 (okN_ok h0.1).2 r
      · exact fin h1
    · exact fin h1
theorem mem_of_look {α β : Type} [BEq α] [LawfulBEq α] {a : α} {b : β} : ∀ {l : List (α × β)}, l.lookup a = some b → (a, b) ∈ l
  | [], h => by cases h
  | (x, y) :: l, h => by
    rw [List.lookup_cons] at h
    by_cases q : a = x
    · have e' : (a == x) = true := by simpa using q
      rw [e'] at h
      cases h
      rw [q]
      exact List.mem_cons_self
    · have e' : (a == x) = false := by simpa using q
      rw [e'] at h
      exact List.mem_cons_of_mem _ (mem_of_look h)
theorem cOwn_ok (C : Cx1 X c M G N W sc) {f : Expr → Option Sm} (hf : ∀ e g, f e = some g → PE X e (den c W g)) {m : Str} {a : Expr} {args : List Expr} {apos pos : Pos} {h : Sm} (e : cOwn M G N sc f m a args apos pos = some h) : PE X (.Call (.Attribute a m apos) args [] pos) (den c W h) := by
  unfold cOwn at e
  have h0 := (grd_some e).1
  replace e := (grd_some e).2
  simp only [Bool.and_eq_true, decide_eq_true_eq] at h0
  obtain ⟨⟨⟨⟨q1, q2⟩, q3⟩, q4⟩, q5⟩ := h0
  rw [Option.bind_eq_some_iff] at e
  obtain ⟨fa, h1, e⟩ := e
  rw [Option.map_eq_some_iff] at e
  obtain ⟨fs, h2, rfl⟩ := e
  have hl := optAll_len h2
  refine pe_den_meth C.ok (fun D g hg => ?_) (hf a fa h1) q1 (pa_args C hf h2 q2) q2 q3 hl q4
  have z := List.all_eq_true.mp q5 _ (mem_of_look hg)
  simp only [decide_true, Bool.not_true, Bool.false_or, decide_eq_true_eq] at z
  rw [hl]
  exact C.env.mt D m g _ hg z
theorem cMm_ok (C : Cx1 X c M G N W sc) {f : Expr → Option Sm} (hf : ∀ e g, f e = some g → PE X e (den c W g)) {g : Str} {a b : Expr} {h : Sm} {p pos : Pos} (gl : Gl X g) (e : cMm f g a b = some h) : PE X (.Call (.Name g p) [a, b] [] pos) (den c W h) := by
  unfold cMm at e
  have h0 := (grd_some e).1
  replace e := (grd_some e).2
  rw [Bool.and_eq_true] at h0
  split at e
  · rename_i hm
    subst hm
    rw [Option.bind_eq_some_iff] at e
    obtain ⟨fa, h1, e⟩ := e
    rw [Option.map_eq_some_iff] at e
    obtain ⟨fb, h2, rfl⟩ := e
    exact pe_den_min2 C.ok.calm gl (mem_bn C (by decide +kernel)) (hf a fa h1) (hf b fb h2) h0.1 h0.2
  · split at e
    · rename_i hm
      subst hm
      rw [Option.bind_eq_some_iff] at e
      obtain ⟨fa, h1, e⟩ := e
      rw [Option.map_eq_some_iff] at e
      obtain ⟨fb, h2, rfl⟩ := e
      exact pe_den_max2 C.ok.calm gl (mem_bn C (by decide +kernel)) (hf a fa h1) (hf b fb h2) h0.1 h0.2
    · cases e
theorem cB1_ok (C : Cx1 X c M G N W sc) {f : Expr → Option Sm} (hf : ∀ e g, f e = some g → PE X e (den c W g)) {g : Str} {a : Expr} {h : Sm} {p pos : Pos} (gl : Gl X g) (e : cB1 f sc g a = some h) : PE X (.Call (.Name g p) [a] [] pos) (den c W h) := by
  unfold cB1 at e
  split at e
  · rename_i b hb
    have hs := (grd_some e).1
    replace e := (grd_some e).2
    rw [Option.map_eq_some_iff] at e
    obtain ⟨fa, h1, rfl⟩ := e
    cases biOf_some hb
    exact pe_b1 b C.ok.hK C.ok.calm gl (bi_free C b) (hf a fa h1) hs
  · split at e
    · rename_i hd
      subst hd
      have hs := (grd_some e).1
      replace e := (grd_some e).2
      rw [Option.map_eq_some_iff] at e
      obtain ⟨fa, h1, rfl⟩ := e
      exact pe_den_dict C.ok.hK C.ok.calm gl (mem_bn C (by decide +kernel)) (hf a fa h1) hs
    · unfold cSort at e
      split at e
      · rename_i h1 p2 x q
        have hs := (grd_some e).1
        replace e := (grd_some e).2
        simp only [Bool.and_eq_true, decide_eq_true_eq] at hs
        obtain ⟨⟨⟨rfl, rfl⟩, hs2⟩, hs3⟩ := hs
        rw [Option.map_eq_some_iff] at e
        obtain ⟨fa, h2, rfl⟩ := e
        exact pe_srtset C.ok.hK C.ok.calm gl (mem_bn C (by decide +kernel)) (glb_ok C hs2) (mem_bn C (by decide +kernel)) (hf x fa h2) hs3
      · cases e
theorem cIs_ok (C : Cx1 X c M G N W sc) {f : Expr → Option Sm} (hf : ∀ e g, f e = some g → PE X e (den c W g)) {a b : Expr} {h : Sm} {p pos : Pos} (gl : Gl X "isinstance") (e : cIs f sc a b = some h) : PE X (.Call (.Name "isinstance" p) [a, b] [] pos) (den c W h) := by
  unfold cIs at e
  split at e
  · rename_i t p2
    have hs := (grd_some e).1
    replace e := (grd_some e).2
    rw [Bool.and_eq_true] at hs
    rw [Option.bind_eq_some_iff] at e
    obtain ⟨ty, h0, e⟩ := e
    rw [Option.map_eq_some_iff] at e
    obtain ⟨fa, h1, rfl⟩ := e
    cases tyOf_some h0
    exact pe_isi ty C.ok.hK gl (mem_bn C (by decide +kernel)) (glb_ok C hs.2) (ty_free C ty) (hf a fa h1) hs.1
  · rename_i t p2 u p3 k p4
    have hs := (grd_some e).1
    replace e := (grd_some e).2
    simp only [Bool.and_eq_true] at hs
    obtain ⟨⟨hs1, hs2⟩, hs3⟩ := hs
    rw [Option.bind_eq_some_iff] at e
    obtain ⟨ty, h0, e⟩ := e
    rw [Option.bind_eq_some_iff] at e
    obtain ⟨uy, h00, e⟩ := e
    rw [Option.map_eq_some_iff] at e
    obtain ⟨fa, h1, rfl⟩ := e
    cases tyOf_some h0
    cases tyOf_some h00
    exact pe_isi2 ty uy C.ok.hK gl (mem_bn C (by decide +kernel)) (glb_ok C hs2) (ty_free C ty) (glb_ok C hs3) (ty_free C uy) (hf a fa h1) hs1
  · cases e
theorem cCall_ok (C : Cx1 X c M G N W sc) {f : Expr → Option Sm} (hf : ∀ e g, f e = some g → PE X e (den c W g)) {g : Str} {args : List Expr} {h : Sm} {p pos : Pos} (e : cCall M G N f sc g args = some h) : PE X (.Call (.Name g p) args [] pos) (den c W h) := by
  unfold cCall at e
  have hg := (grd_some e).1
  replace e := (grd_some e).2
  rw [Bool.and_eq_true] at hg
  have gl := glb_ok C hg.1
  have od := okN_ok hg.2
  split at e
  · rename_i n hn
    have hs := (grd_some e).1
    replace e := (grd_some e).2
    rw [Option.bind_eq_some_iff] at e
    obtain ⟨fs, h1, e⟩ := e
    split at e
    · rename_i hl
      cases e
      obtain ⟨k, fa, fd, ps, A⟩ := C.env.fn g n hn
      cases args with
      | nil =>
        cases h1
        cases hl
        exact pe_den_call0 C.ok A gl od.1
      | cons a as => exact pe_den_call C.ok A gl (pa_args C hf h1 hs) hl od.1 hs
    · cases e
  · split at e
    · rename_i ini n hn
      have hs := (grd_some e).1
      replace e := (grd_some e).2
      rw [Option.bind_eq_some_iff] at e
      obtain ⟨fs, h1, e⟩ := e
      split at e
      · rename_i hl
        cases e
        obtain ⟨k, fa, fd, ps, A⟩ := C.env.ma g ini n hn
        exact pe_den_make C.ok A gl (pa_args C hf h1 hs) (optAll_len h1) hl od.1 hs
      · cases e
    · split at e
      · exact cB1_ok C hf gl e
      · split at e
        · rename_i hi
          subst hi
          exact cIs_ok C hf gl e
        · exact cMm_ok C hf gl e
      · cases e
theorem cMt0_ok {f : Expr → Option Sm} (hf : ∀ e g, f e = some g → PE X e (den c W g)) {m : Str} {a : Expr} {apos pos : Pos} {h : Sm} (e : cMt0 f m a apos pos = some h) : PE X (.Call (.Attribute a m apos) [] [] pos) (den c W h) := by
  unfold cMt0 at e
  have h0 := (grd_some e).1
  replace e := (grd_some e).2
  rw [Bool.and_eq_true] at h0
  split at e
  · rename_i hm
    subst hm
    rw [Option.map_eq_some_iff] at e
    obtain ⟨fa, h1, rfl⟩ := e
    exact pe_den_upper (hf a fa h1) h0.1 h0.2
  · split at e
    · rename_i hm
      subst hm
      rw [Option.map_eq_some_iff] at e
      obtain ⟨fa, h1, rfl⟩ := e
      exact pe_den_pop0 (hf a fa h1) h0.1 h0.2
    · cases e
theorem cMt1_ok (C : Cok X c W) {f : Expr → Option Sm} (hf : ∀ e g, f e = some g → PE X e (den c W g)) {m : Str} {a b : Expr} {apos pos : Pos} {h : Sm} (e : cMt1 f m a b apos pos = some h) : PE X (.Call (.Attribute a m apos) [b] [] pos) (den c W h) := by
  unfold cMt1 at e
  have h0 := (grd_some e).1
  replace e := (grd_some e).2
  simp only [Bool.and_eq_true] at h0
  have two : ∀ {k : Sm → Sm → Sm}, ((f a).bind fun fa => (f b).map (k fa)) = some h → ∃ fa fb, PE X a (den c W fa) ∧ PE X b (den c W fb) ∧ h = k fa fb := fun {k} e => by
    rw [Option.bind_eq_some_iff] at e
    obtain ⟨fa, h1, e⟩ := e
    rw [Option.map_eq_some_iff] at e
    obtain ⟨fb, h2, rfl⟩ := e
    exact ⟨fa, fb, hf a fa h1, hf b fb h2, rfl⟩
  split at e
  · rename_i hm
    subst hm
    obtain ⟨fa, fb, k1, k2, rfl⟩ := two e
    exact pe_den_index k1 k2 h0.1.2 h0.1.1 h0.2
  split at e
  · rename_i hm
    subst hm
    obtain ⟨fa, fb, k1, k2, rfl⟩ := two e
    exact pe_den_join C.hK k1 k2 h0.1.2 h0.1.1 h0.2
  split at e
  · rename_i hm
    subst hm
    obtain ⟨fa, fb, k1, k2, rfl⟩ := two e
    exact pe_den_split k1 k2 h0.1.2 h0.1.1 h0.2
  split at e
  · rename_i hm
    subst hm
    obtain ⟨fa, fb, k1, k2, rfl⟩ := two e
    exact pe_den_part k1 k2 h0.1.2 h0.1.1 h0.2
  split at e
  · rename_i hm
    subst hm
    obtain ⟨fa, fb, k1, k2, rfl⟩ := two e
    exact pe_den_pop1 k1 k2 h0.1.1 h0.1.2 h0.2
  · cases e
theorem cMt2_ok (C : Cok X c W) {f : Expr → Option Sm} (hf : ∀ e g, f e = some g → PE X e (den c W g)) {m : Str} {a b b2 : Expr} {apos pos : Pos} {h : Sm} (e : cMt2 f m a b b2 apos pos = some h) : PE X (.Call (.Attribute a m apos) [b, b2] [] pos) (den c W h) := by
  unfold cMt2 at e
  have h0 := (grd_some e).1
  replace e := (grd_some e).2
  simp only [Bool.and_eq_true] at h0
  split at e
  · rename_i hm
    subst hm
    rw [Option.bind_eq_some_iff] at e
    obtain ⟨fa, h1, e⟩ := e
    rw [Option.bind_eq_some_iff] at e
    obtain ⟨fb, h2, e⟩ := e
    rw [Option.map_eq_some_iff] at e
    obtain ⟨fc, h3, rfl⟩ := e
    exact pe_den_get2 C.hu (hf a fa h1) (hf b fb h2) (hf b2 fc h3) h0.1.1.1 h0.1.1.2 h0.1.2 h0.2
  · cases e
theorem cMt_ok (C : Cx1 X c M G N W sc) {f : Expr → Option Sm} (hf : ∀ e g, f e = some g → PE X e (den c W g)) {m : Str} {a : Expr} {args : List Expr} {apos pos : Pos} {h : Sm} (e : cMt M G N sc f m a args apos pos = some h) : PE X (.Call (.Attribute a m apos) args [] pos) (den c W h) := by
  unfold cMt at e
  split at e
  · split at e
    · exact cMt0_ok hf e
    · exact cMt1_ok C.ok hf e
    · exact cMt2_ok C.ok hf e
    · cases e
  · exact cOwn_ok C hf e
end
end KL

namespace KL
open PySem L2

section
variable {X : Cx} {c : Ct} {M : MI} {G : Tbl} {N : List Str} {W : WX} {sc : Scope}
theorem fold_ok {e : Expr} {env : Env} (h : notSet e = true) (x : Value) : foldedSetIterable e env x = pure x := by
  cases e <;> first | rfl | cases h
theorem cI_set {f : Expr → Option Sm} {one : (D → Option (List D)) → Sm → Im} {zp : Bool} {tg iter : Expr} {fi : Im} (e : cI f sc one zp tg iter = some fi) : notSet iter = true := by
  unfold cI at e
  split at e
  · rfl
  · rfl
  · exact (grd_some e).1
theorem cI_s (C : Cx1 X c M G N W sc) {f : Expr → Option Sm} (hf : ∀ e g, f e = some g → PE X e (den c W g)) {zp : Bool} {tg iter : Expr} {fi : Im} (e : cI f sc iOne zp tg iter = some fi) : PI X tg iter (denI c W (YldS c) fi) := by
  unfold cI at e
  split at e
  · rename_i g p a pos
    split at e
    · rename_i hg
      subst hg
      have h0 := (grd_some e).1
      replace e := (grd_some e).2
      rw [Bool.and_eq_true] at h0
      rw [Option.map_eq_some_iff] at e
      obtain ⟨fa, h1, rfl⟩ := e
      exact pi_rng1 (fun J F io H ds h => fun F2 io2 H2 st2 S s2 => h F2 io2 H2 st2 S.sub s2) (glb_ok C h0.1) (mem_bn C (by decide +kernel)) (hf a fa h1) h0.2
    · split at e
      · rename_i hg
        subst hg
        have h0 := (grd_some e).1
        replace e := (grd_some e).2
        simp only [Bool.and_eq_true] at h0
        rw [Option.map_eq_some_iff] at e
        obtain ⟨fa, h1, rfl⟩ := e
        cases tg with
        | Tuple elts k tp => exact pi_enm C.ok.hK (glb_ok C h0.1.1) (mem_bn C (by decide +kernel)) (hf a fa h1) h0.1.2
        | _ => cases h0.2
      · rw [Option.map_eq_some_iff] at e
        obtain ⟨fa, h1, rfl⟩ := e
        exact pi_seq C.ok.hK (hf _ fa h1)
  · rename_i g p a b pos
    split at e
    · rename_i hg
      subst hg
      have h0 := (grd_some e).1
      replace e := (grd_some e).2
      simp only [Bool.and_eq_true] at h0
      rw [Option.bind_eq_some_iff] at e
      obtain ⟨fa, h1, e⟩ := e
      rw [Option.map_eq_some_iff] at e
      obtain ⟨fb, h2, rfl⟩ := e
      exact pi_rng2 (fun J F io H ds h => fun F2 io2 H2 st2 S s2 => h F2 io2 H2 st2 S.sub s2) (glb_ok C h0.1.1) (mem_bn C (by decide +kernel)) (hf a fa h1) (hf b fb h2) h0.1.2 h0.2
    · split at e
      · rename_i hg
        subst hg
        have h0 := (grd_some e).1
        replace e := (grd_some e).2
        simp only [Bool.and_eq_true] at h0
        rw [Option.bind_eq_some_iff] at e
        obtain ⟨fa, h1, e⟩ := e
        rw [Option.map_eq_some_iff] at e
        obtain ⟨fb, h2, rfl⟩ := e
        cases tg with
        | Tuple elts k tp => exact pi_zp C.ok.hK (glb_ok C h0.1.1.1.2) (mem_bn C (by decide +kernel)) (hf a fa h1) (hf b fb h2) h0.1.1.2 h0.1.2
        | _ => cases h0.2
      · rw [Option.map_eq_some_iff] at e
        obtain ⟨fa, h1, rfl⟩ := e
        exact pi_seq C.ok.hK (hf _ fa h1)
  · replace e := (grd_some e).2
    rw [Option.map_eq_some_iff] at e
    obtain ⟨fa, h1, rfl⟩ := e
    exact pi_seq C.ok.hK (hf _ fa h1)
theorem cI_p (C : Cx1 X c M G N W sc) {f : Expr → Option Sm} (hf : ∀ e g, f e = some g → PE X e (den c W g)) {tg iter : Expr} {fi : Im} (e : cI f sc iOneP false tg iter = some fi) : PI X tg iter (denI c W (YldP c) fi) := by
  unfold cI at e
  split at e
  · rename_i g p a pos
    split at e
    · rename_i hg
      subst hg
      have h0 := (grd_some e).1
      replace e := (grd_some e).2
      rw [Bool.and_eq_true] at h0
      rw [Option.map_eq_some_iff] at e
      obtain ⟨fa, h1, rfl⟩ := e
      exact pi_rng1 (fun J F io H ds h => fun F2 io2 H2 st2 _ hs s2 => h F2 io2 H2 st2 hs s2) (glb_ok C h0.1) (mem_bn C (by decide +kernel)) (hf a fa h1) h0.2
    · split at e
      · rename_i hg
        subst hg
        have h0 := (grd_some e).1
        replace e := (grd_some e).2
        simp only [Bool.and_eq_true] at h0
        rw [Option.map_eq_some_iff] at e
        obtain ⟨fa, h1, rfl⟩ := e
        cases tg with
        | Tuple elts k tp => exact pi_enmP C.ok.hK (glb_ok C h0.1.1) (mem_bn C (by decide +kernel)) (hf a fa h1) h0.1.2
        | _ => cases h0.2
      · rw [Option.map_eq_some_iff] at e
        obtain ⟨fa, h1, rfl⟩ := e
        exact pi_seqP C.ok.hK (hf _ fa h1)
  · rename_i g p a b pos
    split at e
    · rename_i hg
      subst hg
      have h0 := (grd_some e).1
      replace e := (grd_some e).2
      simp only [Bool.and_eq_true] at h0
      rw [Option.bind_eq_some_iff] at e
      obtain ⟨fa, h1, e⟩ := e
      rw [Option.map_eq_some_iff] at e
      obtain ⟨fb, h2, rfl⟩ := e
      exact pi_rng2 (fun J F io H ds h => fun F2 io2 H2 st2 _ hs s2 => h F2 io2 H2 st2 hs s2) (glb_ok C h0.1.1) (mem_bn C (by decide +kernel)) (hf a fa h1) (hf b fb h2) h0.1.2 h0.2
    · split at e
      · have h0 := (grd_some e).1
        simp only [Bool.and_eq_true] at h0
        cases h0.1.1.1.1
      · rw [Option.map_eq_some_iff] at e
        obtain ⟨fa, h1, rfl⟩ := e
        exact pi_seqP C.ok.hK (hf _ fa h1)
  · replace e := (grd_some e).2
    rw [Option.map_eq_some_iff] at e
    obtain ⟨fa, h1, rfl⟩ := e
    exact pi_seqP C.ok.hK (hf _ fa h1)
/-- a target's reading -/
def gOf (K : PySem.W.Frag) : Tg → TG
  | .name i => gName i
  | .tup is => gTup K is.length (gNames is)
theorem gOf_ok {K : PySem.W.Frag} (hK : K = c.K) (t : Tg) : TgOk c t (gOf K t) := by
  cases t with
  | name i => exact tg_name i
  | tup is => exact tg_tup hK is
theorem cNm_ok (hnd : X.N.Nodup) (hN : X.N = N) (hsc : X.env.scope = sc) {cl : Bool} (hfn : cl = true → ∀ x, X.fn x = true) {e : Expr} {i : Nat} (h : cNm N sc cl e = some i) : ∃ x p, e = .Name x p ∧ PG X e (gName i) := by
  cases e with
  | Name x p =>
    have h0 := (grd_some h).1
    replace h := (grd_some h).2
    refine ⟨x, p, rfl, ?_⟩
    unfold locN at h0
    simp only [Bool.or_eq_true, Bool.and_eq_true, decide_eq_true_eq] at h0
    rcases h0 with h0 | ⟨h0, h1⟩
    · exact pg_name hnd (by rw [hN]; exact ixOf_some h) (.inl (by rw [hsc]; exact h0)) (.inr (by rw [hsc]; exact h0))
    · exact pg_name hnd (by rw [hN]; exact ixOf_some h) (.inr (by rw [hsc]; exact h1)) (.inl (hfn h0 x))
  | _ => cases h
theorem cNms_ok (hnd : X.N.Nodup) (hN : X.N = N) (hsc : X.env.scope = sc) {cl : Bool} (hfn : cl = true → ∀ x, X.fn x = true) : ∀ {es : List Expr} {is : List Nat}, optAll (cNm N sc cl) es = some is → PGs X es (gNames is) ∧ (assignEach es X.env).length = is.length ∧ (assignEach es X.env).findIdx? (·.1) = none
  | [], _, h => by cases h; exact ⟨pgs_nil, rfl, rfl⟩
  | e :: es, is, h => by
    simp only [optAll, Option.bind_eq_some_iff, Option.map_eq_some_iff] at h
    obtain ⟨i, h1, is', h2, rfl⟩ := h
    obtain ⟨x, p, rfl, q⟩ := cNm_ok hnd hN hsc hfn h1
    obtain ⟨q1, q2, q3⟩ := cNms_ok hnd hN hsc hfn h2
    refine ⟨pgs_cons q q1, ?_, ?_⟩
    · show (assignEach es X.env).length + 1 = is'.length + 1
      rw [q2]
    · show List.findIdx? (·.1) ((false, _) :: assignEach es X.env) = none
      rw [List.findIdx?_cons]
      simp [q3]
theorem cTg_ok (hnd : X.N.Nodup) (hN : X.N = N) (hsc : X.env.scope = sc) (hcalm : X.calm = true) {cl : Bool} (hfn : cl = true → ∀ x, X.fn x = true) {tg : Expr} {t : Tg} (h : cTg N sc cl tg = some t) : PG X tg (gOf X.K t) := by
  unfold cTg at h
  split at h
  · rename_i es k p
    rw [Option.map_eq_some_iff] at h
    obtain ⟨is, h1, rfl⟩ := h
    obtain ⟨q1, q2, q3⟩ := cNms_ok hnd hN hsc hfn h1
    exact pg_tup hcalm q1 q2 q3
  · rw [Option.map_eq_some_iff] at h
    obtain ⟨i, h1, rfl⟩ := h
    obtain ⟨x, p, e, q⟩ := cNm_ok hnd hN hsc hfn h1
    exact q
theorem Env1.to {Y : Cx} (E : Env1 X c M G) (h1 : Y.prog = X.prog) (h2 : Y.w = X.w) (h3 : Y.K = X.K) (h4 : Y.mg = X.mg) (h5 : Y.base = X.base) (h6 : Y.A = X.A) : Env1 Y c M G := by
  refine ⟨by rw [h4]; exact E.free, by rw [h4]; exact E.cst, fun g n h => ?_, fun C m g n h1' h2' => ?_, fun C g n h => ?_, E.fl, fun e he => ?_, fun L xs h => ?_⟩
  · obtain ⟨k, f, fd, ps, A⟩ := E.fn g n h
    exact ⟨k, f, fd, ps, ⟨by rw [h1, h2, h3, h4, h5]; exact A.ok, by rw [h6]; exact A.room, by rw [h4]; exact A.glo, by rw [h3]; exact A.keep, by rw [h3]; exact A.bnd⟩⟩
  · obtain ⟨k, f, fd, ps, A⟩ := E.mt C m g n h1' h2'
    exact ⟨k, f, fd, ps, ⟨by rw [h1, h2, h3, h4, h5]; exact A.ok, by rw [h6]; exact A.room, by rw [h3]; exact A.me, by rw [h3]; exact A.bnd⟩⟩
  · obtain ⟨k, f, fd, ps, A⟩ := E.ma C g n h
    exact ⟨k, f, fd, ps, ⟨by rw [h1, h2, h3, h4, h5]; exact A.ok, by rw [h6]; exact A.room, by rw [h3]; exact A.mkr, by rw [h3]; exact A.bnd, A.cls, by rw [h4]; exact A.glo⟩⟩
  · obtain ⟨C, A⟩ := E.xc e he
    exact ⟨C, ⟨A.at_, by rw [h3]; exact A.exc, by rw [h4]; exact A.glo, by rw [h3]; exact A.keep, by rw [h3]; exact A.sub, by rw [h3]; exact A.ty⟩⟩
  · rw [h3, h4]
    exact E.cat L xs h
theorem keys_ok {f : Expr → Option Sm} (hf : ∀ e g, f e = some g → PE X e (den c W g)) {pos : Pos} : ∀ {keys : List (Option Expr)} {es : List Expr} {ks : List Str} {fs : List Sm}, cKeys keys = some ks → optAll f es = some fs → keys.length = es.length → PPs X pos keys es ((ks.zip fs).map fun p => (tC (.str p.1), den c W p.2)) ∧ keys.all (·.isSome) = true ∧ ks.length = keys.length
  | [], [], _, _, h1, h2, _ => by cases h1; cases h2; exact ⟨pps_nil, rfl, rfl⟩
  | [], _ :: _, _, _, _, _, h => by cases h
  | k :: keys, es, ks, fs, h1, h2, hl => by
    unfold cKeys at h1
    split at h1
    · cases ‹_ :: _ = []›
    · rename_i x j p r e
      cases e
      rw [Option.map_eq_some_iff] at h1
      obtain ⟨ks', h1, rfl⟩ := h1
      cases es with
      | nil => cases hl
      | cons e es =>
        simp only [optAll, Option.bind_eq_some_iff, Option.map_eq_some_iff] at h2
        obtain ⟨b, q1, bs', q2, rfl⟩ := h2
        obtain ⟨r1, r2, r3⟩ := keys_ok hf (pos := pos) h1 q2 (by simpa using hl)
        exact ⟨pps_cons pe_str (hf e b q1) r1, by simpa using r2, by simp [r3]⟩
    · cases h1
theorem Cx1.blk (C : Cx1 X c M G N W sc) (s : Shared) (H : Hp) (scope : Scope) (cl : List (Str × Addr)) (a : Addr) (fp : List Addr) : Cx1 (X.blk s H scope (compEnvC scope cl a X.env) fp) c M G N W0 (relS scope sc) := by
  refine ⟨⟨C.ok.hK, C.ok.nd, C.ok.calm, C.ok.hu, fun u s' x => ?_⟩, C.N, ?_, C.env.to rfl rfl rfl rfl rfl rfl⟩
  · obtain ⟨_, _, _, _, _, _, _, _, _, _, _, _, _, _, _, _, w⟩ := x
    exact w.elim
  · rw [← C.sc]; rfl
/-- all that a comprehension's rule asks -/
structure CompP (X : Cx) (c : Ct) (W : WX) (elt tgE iter : Expr) (ifs : List Expr) (scope : Scope) (own : List (Str × Nat)) (tg : Tg) (fi : Im) (fc : Option Sm) (fe : Sm) (tt : TT) : Prop where
  hi : PI X tgE iter (denI c W (YldS c) fi)
  ok : BlkOk X.N X.env.scope scope own
  hg : ∀ (s : Shared) (H : Hp) (C : Addr) (cl : List (Str × Addr)) (fp : List Addr), PG (X.blk s H scope (compEnvC scope cl C X.env) fp) tgE (gOf X.K tg)
  ht : ∀ (s : Shared) (H : Hp) (C : Addr) (cl : List (Str × Addr)) (fp : List Addr), PTs (X.blk s H scope (compEnvC scope cl C X.env) fp) ifs tt
  hto : CtOk c fc tt
  he : ∀ (s : Shared) (H : Hp) (C : Addr) (cl : List (Str × Addr)) (fp : List Addr), PE (X.blk s H scope (compEnvC scope cl C X.env) fp) elt (den c W0 fe)
  hs : notSet iter = true
  hsl : ∀ i ∈ tg.slots, i ∈ own.map (·.2)
def cComp (M : MI) (G : Tbl) (N : List Str) (n : Nat) (sc : Scope) (elt : Expr) (gen : Comprehension) (scope : Scope) : Option Sm :=
  grd (blkC N sc scope (ownOf N scope.names) && decide (gen.is_async = 0)) ((cTg N (relS scope sc) false gen.target).bind fun tg => grd (tg.slots.all fun i => decide (i ∈ (ownOf N scope.names).map (·.2)))
        ((cI (cX M G N n false sc) sc iOne true gen.target gen.iter).bind fun fi => (cIfs (cX M G N n true (relS scope sc)) gen.ifs).bind fun fc => (cX M G N n false (relS scope sc) elt).map (eComp ((ownOf N scope.names).map (·.2)) tg fi fc)))
theorem comp_inv {n : Nat} (IH : ∀ b sc e f, cX M G N n b sc e = some f → ∀ (X : Cx) (W : WX), Cx1 X c M G N W sc → Snd b X c W e f) (C : Cx1 X c M G N W sc) {elt : Expr} {gen : Comprehension} {scope : Scope} {f : Sm} (h : cComp M G N n sc elt gen scope = some f) :
    ∃ tg fi fc fe tt, f = eComp ((ownOf N scope.names).map (·.2)) tg fi fc fe ∧ gen = ⟨gen.target, gen.iter, gen.ifs, 0⟩ ∧ CompP X c W elt gen.target gen.iter gen.ifs scope (ownOf N scope.names) tg fi fc fe tt := by
  unfold cComp at h
  have h0 := (grd_some h).1
  replace h := (grd_some h).2
  rw [Bool.and_eq_true] at h0
  rw [Option.bind_eq_some_iff] at h
  obtain ⟨tg, h1, h⟩ := h
  have h2 := (grd_some h).1
  replace h := (grd_some h).2
  rw [Option.bind_eq_some_iff] at h
  obtain ⟨fi, h3, h⟩ := h
  rw [Option.bind_eq_some_iff] at h
  obtain ⟨fc, h4, h⟩ := h
  rw [Option.map_eq_some_iff] at h
  obtain ⟨fe, h5, rfl⟩ := h
  have ha : gen.is_async = 0 := of_decide_eq_true h0.2
  have hblk : BlkOk X.N X.env.scope scope (ownOf N scope.names) := by
    rw [C.N, C.sc]
    exact blkOk_by h0.1
  have tts : ∃ tt, CtOk c fc tt ∧ ∀ (s : Shared) (H : Hp) (C : Addr) (cl : List (Str × Addr)) (fp : List Addr), PTs (X.blk s H scope (compEnvC scope cl C X.env) fp) gen.ifs tt := by
    unfold cIfs at h4
    split at h4
    · rename_i e
      cases h4
      rw [e]
      exact ⟨tYes, .inl ⟨rfl, rfl⟩, fun _ _ _ _ _ => pts_nil⟩
    · rename_i t e
      rw [Option.map_eq_some_iff] at h4
      obtain ⟨g, h4, rfl⟩ := h4
      rw [e]
      exact ⟨denT c W0 g, .inr ⟨g, rfl, rfl⟩, fun s H a cl fp => pts_one (IH true _ t g h4 _ W0 (C.blk s H scope cl a fp))⟩
    · cases h4
  obtain ⟨tt, k1, k2⟩ := tts
  refine ⟨tg, fi, fc, fe, tt, rfl, ?_, ⟨cI_s C (fun e g q => IH false sc e g q X W C) h3, hblk, fun s H a cl fp => ?_, k2, k1, fun s H a cl fp => IH false _ elt fe h5 _ W0 (C.blk s H scope cl a fp), cI_set h3, fun i hi => of_decide_eq_true (List.all_eq_true.mp h2 i hi)⟩⟩
  · cases gen
    simp only at ha
    subst ha
    rfl
  · have B := C.blk s H scope cl a fp
    exact cTg_ok (cl := false) B.ok.nd B.N B.sc B.ok.calm (fun z => nomatch z) h1
theorem CompP.pe (C : Cok X c W) {elt tgE iter : Expr} {ifs : List Expr} {scope : Scope} {own : List (Str × Nat)} {tg : Tg} {fi : Im} {fc : Option Sm} {fe : Sm} {tt : TT} {pos : Pos} (h : CompP X c W elt tgE iter ifs scope own tg fi fc fe tt) :
    PE X (.ListComp elt [⟨tgE, iter, ifs, 0⟩] scope pos) (den c W (eComp (own.map (·.2)) tg fi fc fe)) :=
  pe_den_comp C h.hi h.ok h.hg (gOf_ok C.hK tg) h.ht h.hto h.he (fold_ok h.hs) h.hsl
theorem CompP.ps (C : Cok X c W) {elt tgE iter : Expr} {ifs : List Expr} {scope : Scope} {own : List (Str × Nat)} {tg : Tg} {fi : Im} {fc : Option Sm} {fe : Sm} {tt : TT} {pos py spos : Pos} {i : Nat} {y : Str} {ow : Bool} (h : CompP X c W elt tgE iter ifs scope own tg fi fc fe tt) (hy : X.N[i]? = some y) (hyl : X.env.scope.names.lookup y = some .local)
    (hsw : swapsWith (.ListComp elt [⟨tgE, iter, ifs, 0⟩] scope pos) (some (.Name y py)) spos.line X.env = pure true) :
    PS X (.Assign [.Name y py] (.ListComp elt [⟨tgE, iter, ifs, 0⟩] scope pos) spos) (denS c W (sAsg ow i (eComp (own.map (·.2)) tg fi fc fe))) :=
  PS.weak (ps_setLc C.calm C.nd hy hyl hsw h.hi h.ok h.hg h.ht h.he (fold_ok h.hs)) fun D σ H q => comp_of (gOf_ok C.hK tg) h.hto h.hsl (asg_of q)
theorem po_part {f : Expr → Option Sm} (hf : ∀ e g, f e = some g → PE X e (den c W g)) {o : Option Expr} {fo : Option Sm} (h : cPart f o = some fo) : PO X o (denO c W fo) := by
  cases o with
  | none => cases h; exact po_den_none
  | some e =>
    simp only [cPart, Option.map_eq_some_iff] at h
    obtain ⟨g, h1, rfl⟩ := h
    exact po_den_some (hf e g h1)
/-- THE expression's theorem -/
theorem cX_ok : ∀ (n : Nat) (b : Bool) (sc : Scope) (e : Expr) (f : Sm), cX M G N n b sc e = some f → ∀ (X : Cx) (W : WX), Cx1 X c M G N W sc → Snd b X c W e f
  | 0, _, _, _, _, h, _, _, _ => by cases h
  | n + 1, true, sc, e, f, h, X, W, C => by
    have IH := cX_ok n
    have E : ∀ e g, cX M G N n false sc e = some g → PE X e (den c W g) := fun e g q => IH false sc e g q X W C
    have T : ∀ e g, cX M G N n true sc e = some g → PT X e (denT c W g) := fun e g q => IH true sc e g q X W C
    show PT X e (denT c W f)
    unfold cX at h
    split at h
    · rename_i x p
      rw [Option.map_eq_some_iff] at h
      obtain ⟨g, h1, rfl⟩ := h
      exact pt_den_not (T x g h1)
    · exact (cBool_pw T h).pt
    · have h0 := (grd_some h).1
      replace h := (grd_some h).2
      rw [Option.bind_eq_some_iff] at h
      obtain ⟨fa, h1, h⟩ := h
      rw [Option.map_eq_some_iff] at h
      obtain ⟨fb, h2, rfl⟩ := h
      exact pt_den_cmp C.ok (E _ fa h1) (E _ fb h2) (by simpa using h0)
    · have h0 := (grd_some h).1
      replace h := (grd_some h).2
      rw [Option.bind_eq_some_iff] at h
      obtain ⟨fa, h1, h⟩ := h
      rw [Option.bind_eq_some_iff] at h
      obtain ⟨fb, h2, h⟩ := h
      rw [Option.map_eq_some_iff] at h
      obtain ⟨fc, h3, rfl⟩ := h
      exact pt_den_cmp2 C.ok (E _ fa h1) (E _ fb h2) (E _ fc h3) (by simpa using h0)
    · have h0 := (grd_some h).1
      replace h := (grd_some h).2
      rw [Option.map_eq_some_iff] at h
      obtain ⟨fa, h1, rfl⟩ := h
      exact pt_den_tru C.ok (E _ fa h1) h0
  | n + 1, false, sc, e, f, h, X, W, C => by
    have IH := cX_ok n
    have E : ∀ e g, cX M G N n false sc e = some g → PE X e (den c W g) := fun e g q => IH false sc e g q X W C
    have T : ∀ e g, cX M G N n true sc e = some g → PT X e (denT c W g) := fun e g q => IH true sc e g q X W C
    show PE X e (den c W f)
    unfold cX at h
    split at h
    · cases h; exact pe_den_c pe_int fun _ _ => .int _
    · cases h; exact pe_den_c pe_bl fun _ _ => .bl _
    · cases h; exact pe_den_c pe_non fun _ _ => .non
    · cases h; exact pe_den_c pe_str fun _ _ => .str _
    · rename_i x p
      have h0 := okN_ok (grd_some h).1
      replace h := (grd_some h).2
      split at h
      · rename_i hv
        rw [Option.map_eq_some_iff] at h
        obtain ⟨i, h1, rfl⟩ := h
        exact pe_den_var (by rw [C.N]; exact ixOf_some h1) (vis_ok C hv) h0.1 h0.2
      · have h2 := (grd_some h).1
        replace h := (grd_some h).2
        rw [Option.map_eq_some_iff] at h
        obtain ⟨d, h1, rfl⟩ := h
        obtain ⟨v, u, e1, e2, e3⟩ := C.env.cst x d h1
        exact pe_den_c (pe_glob (glb_ok C h2) e1 e2 h0.1) e3
    · have h0 := (grd_some h).1
      replace h := (grd_some h).2
      simp only [Bool.and_eq_true, decide_eq_true_eq] at h0
      rw [Option.map_eq_some_iff] at h
      obtain ⟨fs, h1, rfl⟩ := h
      exact pe_den_tup (pa_all E h1 h0.1) (fewer (by rw [optAll_len h1]; exact h0.2))
    · have h0 := (grd_some h).1
      replace h := (grd_some h).2
      simp only [Bool.and_eq_true, decide_eq_true_eq] at h0
      rw [Option.map_eq_some_iff] at h
      obtain ⟨fs, h1, rfl⟩ := h
      exact pe_den_lst (pa_all E h1 h0.1) (fewer (by rw [optAll_len h1]; exact h0.2))
    · rw [Option.bind_eq_some_iff] at h
      obtain ⟨fa, h1, h⟩ := h
      rw [Option.map_eq_some_iff] at h
      obtain ⟨fb, h2, rfl⟩ := h
      exact pe_den_bin C.ok (E _ fa h1) (E _ fb h2)
    · rw [Option.map_eq_some_iff] at h
      obtain ⟨fa, h1, rfl⟩ := h
      exact pe_den_not (E _ fa h1)
    · rw [Option.map_eq_some_iff] at h
      obtain ⟨fa, h1, rfl⟩ := h
      exact pe_den_neg (E _ fa h1)
    · exact cBool_pe E h
    · have h0 := (grd_some h).1
      replace h := (grd_some h).2
      rw [Option.bind_eq_some_iff] at h
      obtain ⟨fa, h1, h⟩ := h
      rw [Option.map_eq_some_iff] at h
      obtain ⟨fb, h2, rfl⟩ := h
      exact pe_den_cmp C.ok (E _ fa h1) (E _ fb h2) (by simpa using h0)
    · have h0 := (grd_some h).1
      replace h := (grd_some h).2
      rw [Option.bind_eq_some_iff] at h
      obtain ⟨fa, h1, h⟩ := h
      rw [Option.bind_eq_some_iff] at h
      obtain ⟨fb, h2, h⟩ := h
      rw [Option.map_eq_some_iff] at h
      obtain ⟨fc, h3, rfl⟩ := h
      exact pe_den_cmp2 C.ok (E _ fa h1) (E _ fb h2) (E _ fc h3) (by simpa using h0)
    · rw [Option.bind_eq_some_iff] at h
      obtain ⟨ft, h0, h⟩ := h
      rw [Option.bind_eq_some_iff] at h
      obtain ⟨fa, h1, h⟩ := h
      rw [Option.map_eq_some_iff] at h
      obtain ⟨fb, h2, rfl⟩ := h
      exact pe_den_if (T _ ft h0) (E _ fa h1) (E _ fb h2)
    · rw [Option.bind_eq_some_iff] at h
      obtain ⟨fa, h1, h⟩ := h
      rw [Option.bind_eq_some_iff] at h
      obtain ⟨fl, h2, h⟩ := h
      rw [Option.map_eq_some_iff] at h
      obtain ⟨fh, h3, rfl⟩ := h
      exact pe_den_slc C.ok (E _ fa h1) (po_part E h2) (po_part E h3)
    · rw [Option.map_eq_some_iff] at h
      obtain ⟨fa, h1, rfl⟩ := h
      exact pe_den_rev C.ok.hK (E _ fa h1)
    · have h0 := (grd_some h).1
      replace h := (grd_some h).2
      rw [Option.bind_eq_some_iff] at h
      obtain ⟨fa, h1, h⟩ := h
      rw [Option.map_eq_some_iff] at h
      obtain ⟨fb, h2, rfl⟩ := h
      exact pe_den_idx C.ok (E _ fa h1) (E _ fb h2) h0
    · have h0 := (grd_some h).1
      replace h := (grd_some h).2
      rw [Option.map_eq_some_iff] at h
      obtain ⟨fa, h1, rfl⟩ := h
      exact pe_den_fld C.ok.hK (E _ fa h1) h0
    · cases h; exact pe_den_dnew
    · have h0 := (grd_some h).1
      replace h := (grd_some h).2
      simp only [Bool.and_eq_true, decide_eq_true_eq, Bool.not_eq_true'] at h0
      obtain ⟨⟨q1, q2⟩, q3⟩ := h0
      rw [Option.bind_eq_some_iff] at h
      obtain ⟨ks, h1, h⟩ := h
      rw [Option.map_eq_some_iff] at h
      obtain ⟨fs, h2, rfl⟩ := h
      obtain ⟨r1, r2, r3⟩ := keys_ok E (pos := _) h1 h2 q1
      exact pe_den_disp r1 r2 q1 (fun z => by rw [z] at q3; cases q3) q2 (by rw [r3, q1, optAll_len h2]) r3
    · exact cCall_ok C E h
    · exact cMt_ok C E h
    · rename_i elt gen scope pos
      obtain ⟨tg, fi, fc, fe, tt, rfl, eg, P⟩ := comp_inv IH C h
      rw [eg]
      exact P.pe C.ok
    · cases h
end
end KL

namespace KL
open PySem L2

/-! ### statements -/
def notComp : Expr → Bool
  | .ListComp _ _ _ _ => false
  | .SetComp _ _ _ _ => false
  | .DictComp _ _ _ _ _ => false
  | _ => true
theorem swaps_no {e : Expr} {t : Option Expr} {l : Nat} {env : Env} (h : notComp e = true) : swapsWith e t l env = pure false := by
  cases e <;> first | rfl | cases h
theorem sole_no {t : Expr} {e : Expr} {l : Nat} {env : Env} (h : notComp e = true) : swapsWithSole [t] e l env = pure false := swaps_no h
theorem stores_no {ts : List Expr} {k : Nat} {p : Pos} {e : Expr} {env : Env} (h : isTup e = false) : swappedStores [.Tuple ts k p] e env = pure none := by
  cases e <;> first | rfl | cases h
def par2 (sc : Scope) (x y : Str) (px py : Pos) (a b : Expr) : Bool :=
  decide (sc.kind = .function) && decide (sc.names.lookup x = some .local) && decide (sc.names.lookup y = some .local) && decide (py.line = px.line) && decide (x ≠ y) && notStar a && notStar b && !([a, b].all (foldedForSure 8)) && !([a, b].all (constantsAlone 8))
theorem par2_ok {sc : Scope} {env : Env} (hsc : env.scope = sc) {x y : Str} {px py pt p2 : Pos} {a b : Expr} {kt k2 : Nat} (h : par2 sc x y px py a b = true) : swappedStores [.Tuple [.Name x px, .Name y py] kt pt] (.Tuple [a, b] k2 p2) env = pure (some [x, y]) := by
  unfold par2 at h
  simp only [Bool.and_eq_true, decide_eq_true_eq, Bool.not_eq_true'] at h
  obtain ⟨⟨⟨⟨⟨⟨⟨⟨h1, h2⟩, h3⟩, h4⟩, h5⟩, h6⟩, h7⟩, h8⟩, h9⟩ := h
  have hb : env.blockKind = .function := by
    unfold Env.blockKind
    rw [hsc, h1]
    rfl
  have kx : env.kindOf x = some .local := by show env.scope.names.lookup x = _; rw [hsc]; exact h2
  have ky : env.kindOf y = some .local := by show env.scope.names.lookup y = _; rw [hsc]; exact h3
  have hd : ([x, y] : List Str).eraseDups.length = 2 := by
    have e : (x == y) = false := by simpa using h5
    have e' : (y == x) = false := by simpa using Ne.symm h5
    simp [List.eraseDups_cons, List.filter_cons, e, e']
  unfold swappedStores
  simp only [hb, kx, ky, Expr.pos, h4, List.head?_cons, Option.map_some, Option.getD_some, List.filterMap_cons, List.filterMap_nil, beq_self_eq_true, Bool.and_self, if_true, h8, h9, hd, List.length_cons, List.length_nil]
  clear h8 h9
  have go : ∀ {α : Type} (a b : Expr) (t u : α), notStar a = true → notStar b = true → (if ([a, b].any fun | .Starred .. => true | _ => false) = true then t else u) = u := by
    intro α a b t u ha hb
    cases a <;> first | (cases ha; done) | (cases b <;> first | (cases hb; done) | rfl)
  exact go a b _ _ h6 h7
def ownN (own : List Str) (x : Str) : Bool := own.contains x
def cBlk (f : Stmt → Option Ss) : List Stmt → Option Ss
  | [] => some sNil
  | [s] => f s
  | s :: t :: r => (f s).bind fun fs => (cBlk f (t :: r)).map (sSeq fs)
/-! suites of except: little is asked there -/
def cHE (N : List Str) (sc : Scope) : Nat → Expr → Option Sm
  | 0, _ => none
  | n + 1, e => (match e with
    | .Constant (.int i) _ _ => some (eC (.int i))
    | .Constant (.bool b) _ _ => some (eC (.bl b))
    | .Constant .none _ _ => some (eC .non)
    | .Constant (.str x) _ _ => some (eC (.str x))
    | .Name x _ => grd (okN x && vis sc x) ((ixOf x N).map eVar)
    | .Attribute a m _ => grd (plainBase a) ((cHE N sc n a).map (eFld m))
    | _ => none)
def cHT (N : List Str) (sc : Scope) : Expr → Option Sm
  | .Compare a [op] [b] _ => grd (!behindInMarks op b) ((cHE N sc 5 a).bind fun fa => (cHE N sc 5 b).map (eCmp op fa))
  | _ => none
def cHS (N own : List Str) (sc : Scope) : Nat → Stmt → Option Ss
  | 0, _ => none
  | n + 1, st => (match st with
    | .Return (some e) _ => (cHE N sc 5 e).map sRet
    | .Assign [.Name x p] e _ => grd (locN sc true x && notComp e) ((ixOf x N).bind fun i => (cHE N sc 5 e).map (sAsg (ownN own x) i))
    | .If t a b _ => (cHT N sc t).bind fun ft => (cBlk (cHS N own sc n) a).bind fun fa => (cBlk (cHS N own sc n) b).map (sIf ft fa)
    | .Pass _ => some sNil
    | _ => none)
/-- a clause 'except L:' -/
def cHd (M : MI) (N own : List Str) (sc : Scope) : List ExceptHandler → Option (List Str × Ss)
  | [.ExceptHandler (some (.Name L _)) none (b :: suite) _] => grd (glb sc L && okN L) ((M.cat.lookup L).bind fun xs => (cBlk (cHS N own sc 5) (b :: suite)).map fun fs => (xs, fs))
  | _ => none
def cS (M : MI) (G : Tbl) (N own : List Str) : Nat → Scope → Stmt → Option Ss
  | 0, _, _ => none
  | n + 1, sc, st => (match st with
    | .Assign [.Name x p] (.ListComp elt [gen] scope lp) _ => grd (locN sc true x) ((ixOf x N).bind fun i => (cX M G N n false sc (.ListComp elt [gen] scope lp)).bind fun fe =>
        if sc.names.lookup x = some .local then grd (decide (sc.kind = .function) && (p.line == lp.line) && !(scope.names.any fun (n, k) => n == x && (k == .local || k == .cell))) (some (sAsg (ownN own x) i fe)) else some (sAsg (ownN own x) i fe))
    | .Assign [.Name x p] e _ => grd (locN sc true x && notComp e) ((ixOf x N).bind fun i => (cX M G N n false sc e).map (sAsg (ownN own x) i))
    | .Assign [.Tuple [.Name x px, .Name y py] kt pt] (.Tuple [a, b] k2 p2) _ => grd (par2 sc x y px py a b) ((ixOf x N).bind fun i => (ixOf y N).bind fun j => (optAll (cX M G N n false sc) [a, b]).map (sPar i j))
    | .Assign [.Tuple es k p] e _ => grd (notComp e && !isTup e) ((optAll (cNm N sc true) es).bind fun is => (cX M G N n false sc e).map (sUnp is))
    | .Return (some e) _ => (cX M G N n false sc e).map sRet
    | .Return none _ => some sRetN
    | .If t a b _ => (cX M G N n true sc t).bind fun ft => (cBlk (cS M G N own n sc) a).bind fun fa => (cBlk (cS M G N own n sc) b).map (sIf ft fa)
    | .For tg iter body [] _ => (cTg N sc true tg).bind fun t => (cI (cX M G N n false sc) sc iOneP false tg iter).bind fun fi => (cBlk (cS M G N own n sc) body).map (sFor t fi)
    | .While t body [] _ => (cX M G N n true sc t).bind fun ft => (cBlk (cS M G N own n sc) body).map (sWhile ft)
    | .Assign [.Attribute o f _] e _ => grd (notComp e) ((cX M G N n false sc o).bind fun fo => (cX M G N n false sc e).map (sFldS M.fl f fo))
    | .Assign [.Subscript o b _] e _ => grd (notComp e) ((cX M G N n false sc o).bind fun fo => (cX M G N n false sc b).bind fun fb => (cX M G N n false sc e).map (sPut fo fb))
    | .Raise (some (.Call (.Name e _) [.Constant (.str _) _ _] [] _)) none _ => grd (glb sc e && okN e && M.xs.contains e) (some (sRaise e))
    | .Try body hds [] [] _ => (cHd M N own sc hds).bind fun h => (cBlk (cS M G N own n sc) body).map fun fb => sTry h.1 fb h.2
    | .Pass _ => some sNil
    | .Break _ => some sBrk
    | .Expr (.Call (.Attribute o m apos) [e] [] cpos) _ => if m = "append" ∨ m = "extend" then grd (plainBase o && notStar e && (apos.endLine == cpos.line)) ((cX M G N n false sc o).bind fun fo => (cX M G N n false sc e).bind fun fe =>
        if m = "append" then some (sApp fo fe) else if m = "extend" then some (sExt fo fe) else none) else (cX M G N n false sc (.Call (.Attribute o m apos) [e] [] cpos)).map sExpr
    | .Expr e _ => grd (notComp e) ((cX M G N n false sc e).map sExpr)
    | _ => none)
section
variable {X : Cx} {c : Ct} {M : MI} {G : Tbl} {N own : List Str} {W : WX} {sc : Scope} {P : Program} {w : World} {mg : Str → Option Value} {base : Heap} {k : Nat}
theorem cBlk_ok {f : Stmt → Option Ss} (hf : ∀ s g, f s = some g → PS X s (denS c W g)) : ∀ {ss : List Stmt} {g : Ss}, cBlk f ss = some g → PSs X ss (denS c W g)
  | [], _, h => by cases h; exact PSs.weak pss_nil fun D σ H h => nil_of h
  | [s], g, h => pss_one (hf s g h)
  | s :: t :: r, g, h => by
    simp only [cBlk, Option.bind_eq_some_iff, Option.map_eq_some_iff] at h
    obtain ⟨fs, h1, fr, h2, rfl⟩ := h
    exact PSs.weak (pss_cons (hf s fs h1) (cBlk_ok hf h2)) fun D σ H h => seq_of h
theorem loc_ok (C : Cx1 X c M G N W sc) (hfn : ∀ x, X.fn x = true) {x : Str} (h : locN sc true x = true) : Loc X.env.scope x ∧ (X.fn x = true ∨ X.env.scope.names.lookup x = some .local) := by
  unfold locN at h
  simp only [Bool.or_eq_true, Bool.and_eq_true, decide_eq_true_eq] at h
  rw [C.sc]
  rcases h with h | ⟨_, h⟩
  · exact ⟨.inl h, .inr h⟩
  · exact ⟨.inr h, .inl (hfn x)⟩
/-- what a suite's expressions want -/
structure Hx (X : Cx) (c : Ct) (N : List Str) (sc : Scope) : Prop where
  hK : X.K = c.K
  nd : X.N.Nodup
  hu : X.A.units + 64 < cLine
  N : X.N = N
  sc : X.env.scope = sc
  fn : ∀ x, X.fn x = true
theorem hvis {X : Cx} {c : Ct} {N : List Str} {sc : Scope} (C : Hx X c N sc) {x : Str} (h : vis sc x = true) : Vis X.env.scope x := by
  rw [C.sc]
  unfold vis at h
  unfold Vis
  split at h <;> simp_all
theorem cHE_ok {W : WX} (C : Hx X c N sc) : ∀ (n : Nat) (e : Expr) (f : Sm), cHE N sc n e = some f → PE X e (den c W f)
  | 0, _, _, h => by cases h
  | n + 1, e, f, h => by
    unfold cHE at h
    split at h
    · cases h; exact pe_den_c pe_int fun _ _ => .int _
    · cases h; exact pe_den_c pe_bl fun _ _ => .bl _
    · cases h; exact pe_den_c pe_non fun _ _ => .non
    · cases h; exact pe_den_c pe_str fun _ _ => .str _
    · have h0 := (grd_some h).1
      replace h := (grd_some h).2
      rw [Bool.and_eq_true] at h0
      rw [Option.map_eq_some_iff] at h
      obtain ⟨i, h1, rfl⟩ := h
      exact pe_den_var (by rw [C.N]; exact ixOf_some h1) (hvis C h0.2) (okN_ok h0.1).1 (okN_ok h0.1).2
    · have h0 := (grd_some h).1
      replace h := (grd_some h).2
      rw [Option.map_eq_some_iff] at h
      obtain ⟨fa, h1, rfl⟩ := h
      exact pe_den_fld C.hK (cHE_ok C n _ fa h1) h0
    · cases h
theorem cHT_ok {W : WX} (C : Hx X c N sc) {e : Expr} {f : Sm} (h : cHT N sc e = some f) : PT X e (denT c W f) := by
  unfold cHT at h
  split at h
  · have h0 := (grd_some h).1
    replace h := (grd_some h).2
    rw [Option.bind_eq_some_iff] at h
    obtain ⟨fa, h1, h⟩ := h
    rw [Option.map_eq_some_iff] at h
    obtain ⟨fb, h2, rfl⟩ := h
    rename_i op _ _
    obtain ⟨r, ho, ok⟩ := cmp_ok (X := X) C.hK C.hu op
    exact PT.weak (pt_cmpR ho (cHE_ok (W := W) C 5 _ fa h1) (cHE_ok C 5 _ fb h2) (by simpa using h0)) fun σ H Q h => op2_of (cmpOk_op ok) h
  · cases h
theorem cHS_ok {W : WX} (C : Hx X c N sc) : ∀ (n : Nat) (s : Stmt) (f : Ss), cHS N own sc n s = some f → PS X s (denS c W f)
  | 0, _, _, h => by cases h
  | n + 1, s, f, h => by
    have IH := cHS_ok (W := W) C n
    unfold cHS at h
    split at h
    · rw [Option.map_eq_some_iff] at h
      obtain ⟨fe, h2, rfl⟩ := h
      exact PS.weak (ps_ret (cHE_ok C 5 _ fe h2)) fun D σ H h => ret_of h
    · have h0 := (grd_some h).1
      replace h := (grd_some h).2
      rw [Bool.and_eq_true] at h0
      rw [Option.bind_eq_some_iff] at h
      obtain ⟨i, h1, h⟩ := h
      rw [Option.map_eq_some_iff] at h
      obtain ⟨fe, h2, rfl⟩ := h
      have l : ∀ {x : Str}, locN sc true x = true → Loc X.env.scope x ∧ (X.fn x = true ∨ X.env.scope.names.lookup x = some .local) := fun {x} h => by
        unfold locN at h
        simp only [Bool.or_eq_true, Bool.and_eq_true, decide_eq_true_eq] at h
        rw [C.sc]
        rcases h with h | ⟨_, h⟩
        · exact ⟨.inl h, .inr h⟩
        · exact ⟨.inr h, .inl (C.fn x)⟩
      exact PS.weak (ps_set C.nd (by rw [C.N]; exact ixOf_some h1) (l h0.1).1 (cHE_ok C 5 _ fe h2) (swaps_no h0.2) (l h0.1).2) fun D σ H h => asg_of h
    · rw [Option.bind_eq_some_iff] at h
      obtain ⟨ft, h0, h⟩ := h
      rw [Option.bind_eq_some_iff] at h
      obtain ⟨fa, h1, h⟩ := h
      rw [Option.map_eq_some_iff] at h
      obtain ⟨fb, h2, rfl⟩ := h
      exact PS.weak (ps_if (cHT_ok C h0) (cBlk_ok IH h1) (cBlk_ok IH h2)) fun D σ H h => if_of h
    · cases h
      exact PS.weak ps_pass fun D σ H h => nil_of h
    · cases h
structure Fr1 (X : Cx) : Prop where
  fn : ∀ x, X.fn x = true
  po : PassesOwn (model X.prog X.w) X.A X.env X.xe
  stk : X.stack = X.env :: X.outer
  frm : X.env.frame = some X.env.locals
theorem cHd_ok (C : Cx1 X c M G N W sc) (hF : Fr1 X) {hds : List ExceptHandler} {xs : List Str} {fs : Ss} (h : cHd M N own sc hds = some (xs, fs)) :
    ∃ h0 cl, hds = [h0] ∧ (∀ e ∈ xs, PySem.W.exmOne X.K (c.xc e) cl = some true) ∧ L2N.HdsOk X [h0] [(cl, fun _ _ _ => denS c W0 fs)] := by
  unfold cHd at h
  split at h
  · have h0 := (grd_some h).1
    replace h := (grd_some h).2
    rw [Bool.and_eq_true] at h0
    rw [Option.bind_eq_some_iff] at h
    obtain ⟨xs', h1, h⟩ := h
    rw [Option.map_eq_some_iff] at h
    obtain ⟨fs', h2, e⟩ := h
    cases e
    obtain ⟨cl, e1, e2⟩ := C.env.cat _ _ h1
    refine ⟨_, cl, rfl, e2, .cons ⟨glb_ok C h0.1, (okN_ok h0.2).1, .inl e1⟩ (fun a oe cls d pn _ _ => ?_) .nil⟩
    have H : Hx (X.suite a ((a, oe) :: pn)) c N sc := ⟨C.ok.hK, C.ok.nd, C.ok.hu, C.N, C.sc, hF.fn⟩
    exact cBlk_ok (cHS_ok H 5) h2
  · cases h
theorem cS_ok : ∀ (n : Nat) {X : Cx} {W : WX}, Cx1 X c M G N W sc → Fr1 X → ∀ (s : Stmt) (f : Ss), cS M G N own n sc s = some f → PS X s (denS c W f)
  | 0, _, _, _, _, _, _, h => by cases h
  | n + 1, X, W, C, hF, s, f, h => by
    have hfn := hF.fn
    have hpo := hF.po
    have IH := cS_ok n C hF
    have E : ∀ e g, cX M G N n false sc e = some g → PE X e (den c W g) := fun e g q => cX_ok n false sc e g q X W C
    have T : ∀ e g, cX M G N n true sc e = some g → PT X e (denT c W g) := fun e g q => cX_ok n true sc e g q X W C
    unfold cS at h
    split at h
    · rename_i x p elt gen scope lp sp
      have h0 := (grd_some h).1
      replace h := (grd_some h).2
      obtain ⟨l1, l2⟩ := loc_ok C hfn h0
      rw [Option.bind_eq_some_iff] at h
      obtain ⟨i, h1, h⟩ := h
      rw [Option.bind_eq_some_iff] at h
      obtain ⟨fe, h2, h⟩ := h
      have hix : X.N[i]? = some x := by rw [C.N]; exact ixOf_some h1
      split at h
      · rename_i hloc
        have h3 := (grd_some h).1
        replace h := (grd_some h).2
        cases h
        simp only [Bool.and_eq_true, Bool.not_eq_true'] at h3
        obtain ⟨⟨k1, k2⟩, k3⟩ := h3
        cases n with
        | zero => cases h2
        | succ m =>
          obtain ⟨tg, fi, fc, fe', tt, rfl, eg, Pc⟩ := comp_inv (cX_ok m) C h2
          rw [eg]
          exact Pc.ps C.ok hix (by rw [C.sc]; exact hloc) (sw_true (by rw [C.sc]; exact of_decide_eq_true k1) (by rw [C.sc]; exact hloc) k2 k3)
      · rename_i hloc
        cases h
        refine PS.weak (ps_set C.ok.nd hix l1 (E _ fe h2) ?_ l2) fun D σ H h => asg_of h
        have e : X.env.kindOf x ≠ some .local := by show X.env.scope.names.lookup x ≠ _; rw [C.sc]; exact hloc
        have e' : (X.env.kindOf x == some NameKind.local) = false := by simpa using e
        unfold swapsWith
        simp only [e', Bool.and_false, Bool.false_and]
    · rename_i x p e sp _
      have h0 := (grd_some h).1
      replace h := (grd_some h).2
      rw [Bool.and_eq_true] at h0
      obtain ⟨l1, l2⟩ := loc_ok C hfn h0.1
      rw [Option.bind_eq_some_iff] at h
      obtain ⟨i, h1, h⟩ := h
      rw [Option.map_eq_some_iff] at h
      obtain ⟨fe, h2, rfl⟩ := h
      exact PS.weak (ps_set C.ok.nd (by rw [C.N]; exact ixOf_some h1) l1 (E _ fe h2) (swaps_no h0.2) l2) fun D σ H h => asg_of h
    · rename_i x px y py kt pt a b k2 p2 sp
      have h0 := (grd_some h).1
      replace h := (grd_some h).2
      rw [Option.bind_eq_some_iff] at h
      obtain ⟨i, h1, h⟩ := h
      rw [Option.bind_eq_some_iff] at h
      obtain ⟨j, h2, h⟩ := h
      rw [Option.map_eq_some_iff] at h
      obtain ⟨fs, h3, rfl⟩ := h
      have hw := par2_ok (env := X.env) (pt := pt) (p2 := p2) (kt := kt) (k2 := k2) C.sc h0
      unfold par2 at h0
      simp only [Bool.and_eq_true, decide_eq_true_eq, Bool.not_eq_true'] at h0
      obtain ⟨⟨⟨⟨⟨⟨⟨⟨q1, q2⟩, q3⟩, q4⟩, q5⟩, q6⟩, q7⟩, q8⟩, q9⟩ := h0
      have hi : X.N[i]? = some x := by rw [C.N]; exact ixOf_some h1
      have hj : X.N[j]? = some y := by rw [C.N]; exact ixOf_some h2
      refine PS.weak (ps_par C.ok.calm C.ok.nd hi hj (fun z => ?_) (by rw [C.sc]; exact q2) (by rw [C.sc]; exact q3) (pa_all E h3 (by simp [q6, q7])) hw (sole_no rfl)) fun D σ H h => par_of h
      subst z
      rw [hi] at hj
      exact q5 (Option.some.inj hj)
    · rename_i es kk p e sp _
      have h0 := (grd_some h).1
      replace h := (grd_some h).2
      simp only [Bool.and_eq_true, Bool.not_eq_true'] at h0
      rw [Option.bind_eq_some_iff] at h
      obtain ⟨is, h1, h⟩ := h
      rw [Option.map_eq_some_iff] at h
      obtain ⟨fe, h2, rfl⟩ := h
      obtain ⟨g1, g2, g3⟩ := cNms_ok C.ok.nd C.N C.sc (fun _ => hfn) h1
      exact PS.weak (ps_asg (E _ fe h2) (pg_tup C.ok.calm g1 g2 g3) (sole_no h0.1) (stores_no h0.2)) fun D σ H h => unp_of C.ok.hK h
    · rw [Option.map_eq_some_iff] at h
      obtain ⟨fe, h2, rfl⟩ := h
      exact PS.weak (ps_ret (E _ fe h2)) fun D σ H h => ret_of h
    · cases h
      exact PS.weak ps_retN fun D σ H h => retN_of h
    · rw [Option.bind_eq_some_iff] at h
      obtain ⟨ft, h0, h⟩ := h
      rw [Option.bind_eq_some_iff] at h
      obtain ⟨fa, h1, h⟩ := h
      rw [Option.map_eq_some_iff] at h
      obtain ⟨fb, h2, rfl⟩ := h
      exact PS.weak (ps_if (T _ ft h0) (cBlk_ok IH h1) (cBlk_ok IH h2)) fun D σ H h => if_of h
    · rw [Option.bind_eq_some_iff] at h
      obtain ⟨t, h0, h⟩ := h
      rw [Option.bind_eq_some_iff] at h
      obtain ⟨fi, h1, h⟩ := h
      rw [Option.map_eq_some_iff] at h
      obtain ⟨fb, h2, rfl⟩ := h
      exact PS.weak (ps_for hpo C.ok.calm (cI_p C E h1) (cTg_ok C.ok.nd C.N C.sc C.ok.calm (fun _ => hfn) h0) (cBlk_ok IH h2) (fold_ok (cI_set h1))) fun D σ H h => for_of (gOf_ok C.ok.hK t) h
    · rw [Option.bind_eq_some_iff] at h
      obtain ⟨ft, h0, h⟩ := h
      rw [Option.map_eq_some_iff] at h
      obtain ⟨fb, h1, rfl⟩ := h
      exact PS.weak (ps_while hpo (T _ ft h0) (cBlk_ok IH h1)) fun D σ H h => while_of 400 h
    · have h0 := (grd_some h).1
      replace h := (grd_some h).2
      rw [Option.bind_eq_some_iff] at h
      obtain ⟨fo, h1, h⟩ := h
      rw [Option.map_eq_some_iff] at h
      obtain ⟨fe, h2, rfl⟩ := h
      exact PS.weak (ps_fld (E _ fo h1) (E _ fe h2) (swaps_no h0)) fun D σ H h => fldS_of C.ok.hK C.env.fl h
    · have h0 := (grd_some h).1
      replace h := (grd_some h).2
      rw [Option.bind_eq_some_iff] at h
      obtain ⟨fo, h1, h⟩ := h
      rw [Option.bind_eq_some_iff] at h
      obtain ⟨fb, h2, h⟩ := h
      rw [Option.map_eq_some_iff] at h
      obtain ⟨fe, h3, rfl⟩ := h
      exact ps_den_put C.ok.hu (E _ fo h1) (E _ fb h2) (E _ fe h3) (swaps_no h0)
    · have h0 := (grd_some h).1
      replace h := (grd_some h).2
      simp only [Bool.and_eq_true] at h0
      cases h
      obtain ⟨xa, A⟩ := C.env.xc _ (by simpa using h0.2)
      exact ps_den_raise C.ok A (glb_ok C h0.1.1) (okN_ok h0.1.2).1
    · rw [Option.bind_eq_some_iff] at h
      obtain ⟨⟨xs, fs⟩, h0, h⟩ := h
      rw [Option.map_eq_some_iff] at h
      obtain ⟨fb, h1, rfl⟩ := h
      obtain ⟨hd0, cl, rfl, e2, hh⟩ := cHd_ok C hF h0
      refine PS.weak (L2N.ps_try_many (tb := fun W => denS c W fb) hF.stk hF.frm C.ok.tk (fun W' pn xe tk po => ?_) hh) fun D σ H h => try_of e2 h
      exact cBlk_ok (cS_ok n (X := X.tr pn xe) (W := W') ⟨⟨C.ok.hK, C.ok.nd, C.ok.calm, C.ok.hu, tk⟩, C.N, C.sc, C.env.to rfl rfl rfl rfl rfl rfl⟩ ⟨hF.fn, po, hF.stk, hF.frm⟩) h1
    · cases h
      exact PS.weak ps_pass fun D σ H h => nil_of h
    · cases h
      exact PS.weak ps_break fun D σ H h => brk_of h
    · split at h
      · have h0 := (grd_some h).1
        replace h := (grd_some h).2
        simp only [Bool.and_eq_true] at h0
        rw [Option.bind_eq_some_iff] at h
        obtain ⟨fo, h1, h⟩ := h
        rw [Option.bind_eq_some_iff] at h
        obtain ⟨fe, h2, h⟩ := h
        split at h
        · rename_i hm
          cases h
          subst hm
          exact ps_den_app (E _ fo h1) (E _ fe h2) h0.1.1 h0.1.2 h0.2
        · split at h
          · rename_i hm
            cases h
            subst hm
            exact ps_den_ext (E _ fo h1) (E _ fe h2) h0.1.1 h0.1.2 h0.2
          · cases h
      · rw [Option.map_eq_some_iff] at h
        obtain ⟨fe, h2, rfl⟩ := h
        exact PS.weak (ps_expr (E _ fe h2) (swaps_no rfl)) fun D σ H h => expr_of h
    · have h0 := (grd_some h).1
      replace h := (grd_some h).2
      rw [Option.map_eq_some_iff] at h
      obtain ⟨fe, h2, rfl⟩ := h
      exact PS.weak (ps_expr (E _ fe h2) (swaps_no h0)) fun D σ H h => expr_of h
    · cases h
end
end KL

namespace KL
open PySem L2

/-! ### the module's constants -/
inductive Kc where
  | str (z : Str) | int (i : Int) | tS (zs : List Str) | tI (is : List Int)
def Kc.d : Kc → D
  | .str z => .str z
  | .int i => .int i
  | .tS zs => .tup (zs.map .str)
  | .tI is => .tup (is.map .int)
def dlB (K : PySem.W.Frag) (a : Addr) : Bool := match K.lookup a with
  | some o => decide (o.dict = none)
  | none => false
def Kc.ok (K : PySem.W.Frag) (x : Str) : Kc → Bool
  | .str z => (He.Fa.str x z).ok K
  | .int i => (He.Fa.int x i).ok K
  | .tS zs => (He.Fa.glo x).ok K && He.tupB K x (zs.map .str) && dlB K (He.ga K x)
  | .tI is => (He.Fa.glo x).ok K && He.tupB K x (is.map .int) && dlB K (He.ga K x)
theorem KTup.of_sq {K : PySem.W.Frag} {a : Addr} {vs : List V} (h : ∀ H : Hp, SqT K H a vs) (hd : dlB K a = true) : KTup K a vs := by
  rcases h (fun _ => none) with h | h
  · rcases h with h | ⟨o, h⟩ <;> cases h
  · obtain ⟨o, its, n, e1, e2, e3⟩ := h
    unfold dlB at hd
    rw [e1] at hd
    exact ⟨o, its, n, e1, e2, of_decide_eq_true hd, e3⟩
theorem kc_ok {c : Ct} {h : Heap} {mg : Str → Option Value} (X : c.K.In h) (Gm : h.Ns mainGlobals mg) {x : Str} {k : Kc} (hk : k.ok c.K x = true) : ∃ v u, mg x = some u ∧ RelV v u ∧ ∀ F io, Rv c F io v k.d := by
  cases k with
  | str z =>
    obtain ⟨t, e⟩ := He.str_ok X Gm hk
    exact ⟨.str z, _, e, ⟨t, rfl⟩, fun _ _ => .str z⟩
  | int i =>
    obtain ⟨t, e⟩ := He.int_ok X Gm hk
    exact ⟨.int i, _, e, ⟨t, rfl⟩, fun _ _ => .int i⟩
  | tS zs =>
    have hk3 := Bool.and_eq_true_iff.mp hk
    have hk2 := hk
    have hk' := Bool.and_eq_true_iff.mp hk3.1
    refine ⟨.ref (He.ga c.K x), _, He.glo_ok X Gm hk'.1, rfl, fun F io => .tup (vs := zs.map .str) (.inr (KTup.of_sq (fun H => ?_) (Bool.and_eq_true_iff.mp hk2).2)) ?_⟩
    · have := He.tupB_ok hk'.2 H
      rw [List.map_map] at this
      exact this
    · clear hk hk' hk2 hk3
      induction zs with
      | nil => exact .nil
      | cons z zs ih => exact .cons (.str z) ih
  | tI is =>
    have hk3 := Bool.and_eq_true_iff.mp hk
    have hk2 := hk
    have hk' := Bool.and_eq_true_iff.mp hk3.1
    refine ⟨.ref (He.ga c.K x), _, He.glo_ok X Gm hk'.1, rfl, fun F io => .tup (vs := is.map .int) (.inr (KTup.of_sq (fun H => ?_) (Bool.and_eq_true_iff.mp hk2).2)) ?_⟩
    · have := He.tupB_ok hk'.2 H
      rw [List.map_map] at this
      exact this
    · clear hk hk' hk2 hk3
      induction is with
      | nil => exact .nil
      | cons z zs ih => exact .cons (.int z) ih
theorem cs_ok {c : Ct} {h : Heap} {mg : Str → Option Value} (X : c.K.In h) (Gm : h.Ns mainGlobals mg) {ks : List (Str × Kc)} (hk : (ks.all fun p => p.2.ok c.K p.1) = true) : ∀ x d, (ks.map fun p => (p.1, p.2.d)).lookup x = some d → ∃ v u, mg x = some u ∧ RelV v u ∧ ∀ F io, Rv c F io v d := by
  intro x d hx
  induction ks with
  | nil => cases hx
  | cons p ks ih =>
    rw [List.all_cons, Bool.and_eq_true] at hk
    rw [List.map_cons, List.lookup_cons] at hx
    by_cases e : x = p.1
    · have e' : (x == p.1) = true := by simpa using e
      rw [e'] at hx
      cases hx
      rw [e]
      exact kc_ok X Gm hk.1
    · have e' : (x == p.1) = false := by simpa using e
      rw [e'] at hx
      exact ih hk.2 hx

/-! ### the program's defs, by levels -/
/-- g: the name in the table (a method's: its qualified name) -/
structure Df where
  g : Str
  d : He.DefD
  ps : List Str
  N : List Str
  own : List Str
  clo : List Str
  sem : Tbl → Ss
def fnd (dfs : List Df) (g : Str) : Option Df := dfs.find? fun d => decide (d.g = g)
def tbl (dfs : List Df) : Nat → Tbl
  | 0 => fun _ _ _ => .no
  | k + 1 => fun g ds st => match fnd dfs g with
    | some df => fnR df.N.length (df.sem (tbl dfs k)) ds st
    | none => .no
structure DfOk (M : MI) (df : Df) : Prop where
  sc : FnScope df.N df.ps df.d.scope
  cmp : ∀ G, cBlk (cS { M with clo := df.clo } G df.N df.own 60 df.d.scope) df.d.body = some (df.sem G)
  bnd : ∀ (kV doc pm : Value) (an : Option Addr) (cdv ct : Value) (us : List Value), us.length = df.ps.length → bindArgs (PySem.W.fnOf df.d.name df.d.qual df.d.params df.d.body df.d.scope .none kV doc pm an cdv ct) ⟨us, []⟩ = pure (df.ps.zip us)
  dfl : df.d.dfl = []
  kwd : df.d.kwd = []
/-- the program: its constants, defs, classes (that are made), fields, exceptions, clauses -/
structure Pg where
  ks : List (Str × Kc)
  dfs : List Df
  cls : List Str
  mks : List (Str × (Str × Nat))
  fl : List (Str × Str)
  xs : List Str
  cat : List (Str × List Str)
def Df.fn (d : Df) : Option (Str × Nat) := match d.d.at_.2 with
  | none => some (d.d.at_.1, d.ps.length)
  | some _ => none
def Df.mt (d : Df) : Option ((Str × Str) × Str) := match d.d.at_.2 with
  | none => none
  | some m => some ((d.d.at_.1, m), d.g)
def Pg.M (p : Pg) : MI where
  cs := p.ks.map fun q => (q.1, q.2.d)
  fs := p.dfs.filterMap Df.fn
  ml := p.dfs.filterMap Df.mt
  ar := p.dfs.map fun d => (d.g, d.ps.length)
  ma := p.mks
  fl := p.fl
  xs := p.xs
  cat := p.cat
def Pg.ok (p : Pg) : Bool := decide ((p.dfs.map (·.g)).Nodup) && (p.dfs.all fun d => match d.d.at_.2 with
    | none => decide (d.g = d.d.at_.1)
    | some _ => p.cls.contains d.d.at_.1) && (p.mks.all fun q => p.cls.contains q.1 && p.dfs.any fun d => decide (d.d.at_.1 = q.1) && decide (d.d.at_.2 = some ("__init__" : Str)) && decide (d.g = q.2.1) && decide (d.ps.length = q.2.2)) && p.cat.all fun q => q.2.all fun e => p.xs.contains e
theorem fnd_mem {dfs : List Df} {g : Str} {df : Df} (h : fnd dfs g = some df) : df ∈ dfs ∧ df.g = g := ⟨List.mem_of_find?_eq_some h, by have := List.find?_some h; simpa using this⟩
theorem fnd_of {dfs : List Df} (hn : (dfs.map (·.g)).Nodup) {df : Df} (h : df ∈ dfs) : fnd dfs df.g = some df := by
  induction dfs with
  | nil => cases h
  | cons d ds ih =>
    rw [List.map_cons, List.nodup_cons] at hn
    unfold fnd
    rw [List.find?_cons]
    rcases List.mem_cons.mp h with h | h
    · subst h; simp
    · have ne : d.g ≠ df.g := fun z => hn.1 (by rw [z]; exact List.mem_map.mpr ⟨df, h, rfl⟩)
      simp only [ne, decide_false]
      exact ih hn.2 h
theorem Pg.nd {p : Pg} (h : p.ok = true) : (p.dfs.map (·.g)).Nodup := by
  unfold Pg.ok at h
  simp only [Bool.and_eq_true, decide_eq_true_eq] at h
  exact h.1.1.1
theorem Pg.at' {p : Pg} (h : p.ok = true) {d : Df} (hd : d ∈ p.dfs) : (d.d.at_.2 = none → d.g = d.d.at_.1) ∧ (∀ m, d.d.at_.2 = some m → d.d.at_.1 ∈ p.cls) := by
  unfold Pg.ok at h
  simp only [Bool.and_eq_true] at h
  have q := List.all_eq_true.mp h.1.1.2 d hd
  constructor
  · intro e
    rw [e] at q
    exact of_decide_eq_true q
  · intro m e
    rw [e] at q
    simpa using q
theorem Pg.mk' {p : Pg} (h : p.ok = true) {C g : Str} {n : Nat} (hm : (C, g, n) ∈ p.mks) : C ∈ p.cls ∧ ∃ d ∈ p.dfs, d.d.at_.1 = C ∧ d.d.at_.2 = some ("__init__" : Str) ∧ d.g = g ∧ d.ps.length = n := by
  unfold Pg.ok at h
  simp only [Bool.and_eq_true] at h
  have q := List.all_eq_true.mp h.1.2 _ hm
  simp only [Bool.and_eq_true, List.any_eq_true, decide_eq_true_eq] at q
  obtain ⟨q1, d, hd, ⟨⟨⟨q2, q2'⟩, q3⟩, q4⟩⟩ := q
  exact ⟨by simpa using q1, d, hd, q2, q2', q3, q4⟩
theorem Pg.cat' {p : Pg} (h : p.ok = true) {L : Str} {xs : List Str} (hm : (L, xs) ∈ p.cat) : ∀ e ∈ xs, e ∈ p.xs := by
  unfold Pg.ok at h
  simp only [Bool.and_eq_true] at h
  intro e he
  have q := List.all_eq_true.mp (List.all_eq_true.mp h.2 _ hm) e he
  simpa using q
/-- what the program's top has left -/
structure Top (c : Ct) (mg : Str → Option Value) (p : Pg) : Prop where
  fn : ∀ df ∈ p.dfs, ∃ fd, FunD c.K df.d.name df.d.qual df.d.params df.d.body df.d.scope [] [] (He.fAd c.K df.d.at_) fd
  glo : ∀ df ∈ p.dfs, df.d.at_.2 = none → mg df.d.at_.1 = some (.ref (He.ga c.K df.d.at_.1))
  me : ∀ df ∈ p.dfs, ∀ m, df.d.at_.2 = some m → Meth c.K (He.ga c.K df.d.at_.1) m (He.ma c.K (He.ga c.K df.d.at_.1) m)
  ca : ∀ C ∈ p.cls, c.ca C = He.ga c.K C
  cl : ∀ C ∈ p.cls, Cls c.K (He.ga c.K C)
  mkr : ∀ q ∈ p.mks, Mk c.K (He.ga c.K q.1) (He.ma c.K (He.ga c.K q.1) "__init__") ∧ mg q.1 = some (.ref (He.ga c.K q.1))
  fl : ∀ C f, (C, f) ∈ p.fl → NoAttr c.K (c.ca C) f
  xc : ∀ e ∈ p.xs, ∃ C, c.xc e = .ref C ∧ PySem.W.excIn c.K C He.veBase "ValueError.__new__" = true ∧ mg e = some (.ref C) ∧ PySem.W.keepIn c.K (.ref C) = true ∧ PySem.W.subIn c.K (.ref C) (.type "BaseException") = some true ∧ PySem.W.typeIn c.K (.ref C) = some (.type "type")
  cat : ∀ q ∈ p.cat, ∃ cl, mg q.1 = some cl ∧ ∀ e ∈ q.2, PySem.W.exmOne c.K (c.xc e) cl = some true
  free : ∀ x ∈ bnames, mg x = none
  cst : ∀ x d, p.M.cs.lookup x = some d → ∃ v u, mg x = some u ∧ RelV v u ∧ ∀ F io, Rv c F io v d
theorem FnOk.up {P : Program} {w : World} {K : PySem.W.Frag} {mg : Str → Option Value} {base : Heap} {CX : CXT} {j k : Nat} {f : Addr} {fd : FuncData} {ps : List Str} {sp : Sp} (h : FnOk P w K mg base CX j f fd ps sp) (hj : j ≤ k) : FnOk P w K mg base CX k f fd ps sp :=
  ⟨h.len, fun A outer s H args us vs Q E hr => h.run A outer s H args us vs Q E (hr.mono hj)⟩
theorem levels {P : Program} {w : World} {c : Ct} {mg : Str → Option Value} {base : Heap} {p : Pg} (hp : p.ok = true) (ok : ∀ df ∈ p.dfs, DfOk p.M df) (T : Top c mg p) :
    ∀ (k : Nat) (df : Df), df ∈ p.dfs → ∀ fd, FunD c.K df.d.name df.d.qual df.d.params df.d.body df.d.scope [] [] (He.fAd c.K df.d.at_) fd → FnOk P w c.K mg base (L2N.CX P w) (2 * k) (He.fAd c.K df.d.at_) fd df.ps (spM c df.ps.length (tbl p.dfs k df.g))
  | 0, df, h, fd, F => by
    refine ⟨fun vs H Q E q => q.1, fun A outer s H args us vs Q E _ _ _ _ q => ?_⟩
    obtain ⟨_, _, _, _, _, _, _, _, _, _, z⟩ := q
    exact z.elim
  | k + 1, df, m, fd, F => by
    have O := ok df m
    have e : tbl p.dfs (k + 1) df.g = fnR df.N.length (df.sem (tbl p.dfs k)) := by
      funext ds st
      show (match fnd p.dfs df.g with
        | some df => fnR df.N.length (df.sem (tbl p.dfs k)) ds st
        | none => .no) = _
      rw [fnd_of (Pg.nd hp) m]
    rw [e]
    refine fn_den (k := 2 * k + 1) F O.sc fun X W B => ?_
    have IH := levels (P := P) (w := w) (base := base) hp ok T k
    have room : Room (2 * k) X.A := B.room.mono (Nat.le_succ _)
    have C : Cx1 X c { p.M with clo := df.clo } (tbl p.dfs k) df.N W df.d.scope := by
      refine ⟨B.ok, B.N, B.sc, ⟨fun x hx => ?_, fun x d hx => ?_, fun g n hg => ?_, fun C m g n h1 h2 => ?_, fun C g n h => ?_, T.fl, fun e he => ?_, fun L xs h => ?_⟩⟩
      · rw [B.mg]; exact T.free x hx
      · rw [B.mg]; exact T.cst x d hx
      · obtain ⟨df2, m2, hz⟩ := List.mem_filterMap.mp (mem_of_look hg)
        unfold Df.fn at hz
        split at hz
        · rename_i h2
          cases hz
          obtain ⟨fd2, F2⟩ := T.fn df2 m2
          have ok2 := IH df2 m2 fd2 F2
          have e3 : He.fAd c.K df2.d.at_ = He.ga c.K df2.d.at_.1 := by unfold He.fAd; rw [h2]
          rw [e3] at F2 ok2
          rw [(Pg.at' hp m2).1 h2] at ok2
          refine ⟨2 * k, _, fd2, df2.ps, ⟨?_, room, by rw [B.mg]; exact T.glo df2 m2 h2, by rw [B.ok.hK]; exact F2.kp, by rw [B.ok.hK]; exact F2.bindsN (ok df2 m2).bnd⟩⟩
          rw [B.prog, B.w, B.ok.hK, B.mg, B.base]
          exact ok2
        · cases hz
      · obtain ⟨df2, m2, hz⟩ := List.mem_filterMap.mp (mem_of_look h1)
        unfold Df.mt at hz
        split at hz
        · cases hz
        · rename_i mm h3
          cases hz
          obtain ⟨fd2, F2⟩ := T.fn df2 m2
          have ok2 := IH df2 m2 fd2 F2
          have e3 : He.fAd c.K df2.d.at_ = He.ma c.K (He.ga c.K df2.d.at_.1) m := by unfold He.fAd; rw [h3]
          rw [e3] at F2 ok2
          obtain ⟨df3, m3, e4⟩ := List.mem_map.mp (mem_of_look h2)
          have e5 : df3 = df2 := by
            have z := fnd_of (Pg.nd hp) m3
            have z2 := fnd_of (Pg.nd hp) m2
            rw [(Prod.mk.inj e4).1, z2] at z
            exact (Option.some.inj z).symm
          subst e5
          have e6 : df3.ps.length = n := (Prod.mk.inj e4).2
          subst e6
          have hc : df3.d.at_.1 ∈ p.cls := (Pg.at' hp m2).2 _ h3
          refine ⟨2 * k, _, fd2, df3.ps, ⟨?_, room, by rw [B.ok.hK, T.ca _ hc]; exact T.me df3 m2 _ h3, by rw [B.ok.hK]; exact F2.bindsN (ok df3 m2).bnd⟩⟩
          rw [B.prog, B.w, B.ok.hK, B.mg, B.base]
          exact ok2
      · have hq := mem_of_look h
        obtain ⟨hc, df2, m2, e1, e1', rfl, rfl⟩ := Pg.mk' hp hq
        obtain ⟨fd2, F2⟩ := T.fn df2 m2
        have ok2 := IH df2 m2 fd2 F2
        have e3 : He.fAd c.K df2.d.at_ = He.ma c.K (He.ga c.K C) "__init__" := by unfold He.fAd; rw [e1', e1]
        rw [e3] at F2 ok2
        have mk := T.mkr _ hq
        refine ⟨2 * k, _, fd2, df2.ps, ⟨?_, B.room, by rw [B.ok.hK, T.ca _ hc]; exact mk.1, by rw [B.ok.hK]; exact F2.bindsN (ok df2 m2).bnd, by rw [T.ca _ hc]; exact T.cl _ hc, by rw [B.mg, T.ca _ hc]; exact mk.2⟩⟩
        rw [B.prog, B.w, B.ok.hK, B.mg, B.base]
        exact ok2
      · obtain ⟨C, q1, q2, q3, q4, q5, q6⟩ := T.xc e he
        refine ⟨C, ⟨q1, ?_, ?_, ?_, ?_, ?_⟩⟩ <;> first | rw [B.ok.hK] | rw [B.mg]
        · exact q2
        · exact q3
        · exact q4
        · exact q5
        · exact q6
      · obtain ⟨cl, q1, q2⟩ := T.cat _ (mem_of_look h)
        rw [B.ok.hK, B.mg]
        exact ⟨cl, q1, q2⟩
    exact cBlk_ok (cS_ok 60 C ⟨B.fn, B.po, B.stk, B.frm⟩) (O.cmp _)

/-! ### a law's row -/
def faOf (p : Pg) : List He.Fa := (p.dfs.filterMap fun d => match d.d.at_.2 with
    | none => some (.glo d.d.at_.1)
    | some m => some (.meth d.d.at_.1 m)) ++ bnames.map .free ++ p.cls.map .cls ++ p.mks.map (fun q => .mkr q.1) ++ p.mks.map (fun q => .glo q.1) ++ p.fl.map (fun q => .noat q.1 q.2) ++ p.xs.map .exc ++ p.xs.map .glo ++ p.cat.map (fun q => .glo q.1) ++ p.cat.flatMap fun q => q.2.map fun e => .exm e q.1 true
def exOf (ks : List (Str × Kc)) (K : PySem.W.Frag) : Bool := ks.all fun p => p.2.ok K p.1
abbrev hkOf (p : Pg) : PySem.W.Hook := He.hookX 4 (faOf p) (p.dfs.map (·.d)) [] [] (exOf p.ks)
abbrev ctOf (K : PySem.W.Frag) : Ct := ⟨K, He.ga K, fun e => .ref (He.ga K e), [], []⟩
theorem top_of {K : PySem.W.Frag} {w : World} {h : Heap} {mg : Str → Option Value} {p : Pg} (X : K.In h) (Gm : h.Ns mainGlobals mg) (s : He.SaysX (faOf p) (p.dfs.map (·.d)) [] [] (exOf p.ks) w h K) (ok : ∀ df ∈ p.dfs, DfOk p.M df) :
    Top (ctOf K) mg p := by
  have fa : ∀ {f : He.Fa}, f ∈ faOf p → f.ok K = true := fun hf => s.t.d.facts hf
  unfold faOf at fa
  simp only [List.mem_append] at fa
  refine ⟨fun df hd => ?_, fun df hd e => ?_, fun df hd m e => ?_, fun _ _ => rfl, fun C hC => ?_, fun q hq => ?_, fun C f hq => ?_, fun e he => ?_, fun q hq => ?_, fun x hx => ?_, cs_ok (c := ctOf K) X Gm s.more⟩
  · have O := ok df hd
    obtain ⟨fd, F⟩ := s.t.d.defs (d := df.d) (List.mem_map.mpr ⟨df, hd, rfl⟩)
    have e1 : df.d.dvs K = [] := by unfold He.DefD.dvs; rw [O.dfl]; rfl
    have e2 : df.d.kws K = [] := by unfold He.DefD.kws; rw [O.kwd]; rfl
    rw [e1, e2] at F
    exact ⟨fd, F⟩
  · exact He.glo_ok X Gm (fa (f := .glo df.d.at_.1) (.inl (.inl (.inl (.inl (.inl (.inl (.inl (.inl (.inl (List.mem_filterMap.mpr ⟨df, hd, by rw [e]⟩)))))))))))
  · exact He.meth_ok (fa (f := .meth df.d.at_.1 m) (.inl (.inl (.inl (.inl (.inl (.inl (.inl (.inl (.inl (List.mem_filterMap.mpr ⟨df, hd, by rw [e]⟩)))))))))))
  · exact He.cls_ok (fa (f := .cls C) (.inl (.inl (.inl (.inl (.inl (.inl (.inl (.inr (List.mem_map.mpr ⟨C, hC, rfl⟩))))))))))
  · exact ⟨He.mkr_ok (fa (f := .mkr q.1) (.inl (.inl (.inl (.inl (.inl (.inl (.inr (List.mem_map.mpr ⟨q, hq, rfl⟩))))))))), He.glo_ok X Gm (fa (f := .glo q.1) (.inl (.inl (.inl (.inl (.inl (.inr (List.mem_map.mpr ⟨q, hq, rfl⟩))))))))⟩
  · exact He.noat_ok (fa (f := .noat C f) (.inl (.inl (.inl (.inl (.inr (List.mem_map.mpr ⟨(C, f), hq, rfl⟩)))))))
  · obtain ⟨q1, q2, q3, q4⟩ := He.exc_ok (fa (f := .exc e) (.inl (.inl (.inl (.inr (List.mem_map.mpr ⟨e, he, rfl⟩))))))
    exact ⟨He.ga K e, rfl, q1, He.glo_ok X Gm (fa (f := .glo e) (.inl (.inl (.inr (List.mem_map.mpr ⟨e, he, rfl⟩))))), q2, q3, q4⟩
  · exact ⟨_, He.glo_ok X Gm (fa (f := .glo q.1) (.inl (.inr (List.mem_map.mpr ⟨q, hq, rfl⟩)))), fun e he => He.exm_ok (fa (f := .exm e q.1 true) (.inr (List.mem_flatMap.mpr ⟨q, hq, List.mem_map.mpr ⟨e, he, rfl⟩⟩)))⟩
  · exact He.free_ok X Gm (fa (f := .free x) (.inl (.inl (.inl (.inl (.inl (.inl (.inl (.inl (.inr (List.mem_map.mpr ⟨x, hx, rfl⟩)))))))))))
/-- the walk of a row: all by the functions on data -/
theorem walk_row {l : PySem.W.OpenLaw} {q : Program} {loose : List Str} {XP : (Str → Option Value) → Heap → Prop} {d : DefRec} {p : Pg} {k : Nat} {dl : Df} {x : Str}
    (hn : l.most = some 63) (hdf : d.params.defaults = []) (hr : Room (2 * k) callerA) (hname : d.name = "law") (hp : p.ok = true) (ok : ∀ df ∈ p.dfs, DfOk p.M df) (hl : fnd p.dfs "law" = some dl) (hla : dl.d.at_.1 = "law") (hla2 : dl.d.at_.2 = none) (hps : dl.ps = [x])
    (law : ∀ ns : List Int, ns.length ≤ 63 → ∃ st, tbl p.dfs k "law" [.scr ns] [] = .ok (.bl true) st) :
    PySem.W.WalkO q loose XP (hkOf p).says l.row.toRowW d [] (fun f vs => PySem.call f vs) := by
  refine Att.attach_call hn hdf fun w s0 s1 mg mb fa o pm cd doc a vs ns G Y ho hd hcd hmg hobj hints hlen hg => ?_
  obtain ⟨K, KX, Sx⟩ := Y
  have T : Top (ctOf K) mg p := top_of KX G.T.g Sx ok
  obtain ⟨st, e⟩ := law ns hlen
  obtain ⟨m, en⟩ := fnd_mem hl
  obtain ⟨fd, F⟩ := T.fn dl m
  have hm0 := T.glo dl m hla2
  have e3 : He.fAd (ctOf K).K dl.d.at_ = He.ga K dl.d.at_.1 := by unfold He.fAd; rw [hla2]
  rw [e3] at F
  have ef : He.ga K dl.d.at_.1 = fa := by
    rw [hla] at hm0 ⊢
    rw [← hname, hmg] at hm0
    rw [← hname]
    exact (Value.ref.inj (Option.some.inj hm0)).symm
  rw [ef] at F e3
  have hps1 : dl.ps.length = 1 := by rw [hps]; rfl
  refine L2.law_call (fd := fd) (x := x) (CX := L2N.CX l.prog w) (sp := spM (ctOf K) 1 (tbl p.dfs k "law")) KX G.T.g G.T.b G.T.builtins G.T.nolimit hg hobj hints (Nat.le_trans hlen (by decide)) hr (fun base _ _ => ?_) (fun s v => ?_) (fun H hO hS => ?_) fun H e s' z => ?_
  · have q := levels (P := l.prog) (w := w) (base := base) hp ok T k dl m fd (by rw [e3]; exact F)
    rw [hps1, hps, e3, en] at q
    exact q
  · have q := F.bindsA (ok dl m).bnd s [v] (by rw [hps]; rfl)
    rw [hps] at q
    exact q
  · refine ⟨rfl, H, [], [], [.scr ns], fun _ _ q => q, (fun _ h => nomatch h), (fun a ps e => ?_), ⟨rfl, List.nodup_nil, fun n a o q => by cases q⟩, .cons (RvA.of (.scr ?_)) .nil, ?_⟩
    · rcases hO a with h | ⟨o, xs, h⟩
      · rw [h] at e; cases e
      · rw [h] at e; cases e
    · rcases hS with h | h
      · exact .inl ⟨h, by simp⟩
      · exact .inr h
    · rw [e]
      intro v H' F' io' S s' r
      cases r
      rfl
  · obtain ⟨_, _, _, _, _, _, _, _, _, _, _, _, q⟩ := z
    exact q
end KL

namespace KL
open PySem L2

/-! ### running the functions on data: rules for simp -/
section
variable {α β : Type} {st st' : Sto} {rh : Rho} {d e : D}
@[simp] theorem R.bind_ok (a : α) (st : Sto) (k : α → Sto → R β) : (R.ok a st).bind k = k a st := rfl
@[simp] theorem R.bind_ex (c : Str) (st : Sto) (k : α → Sto → R β) : (R.ex c st : R α).bind k = .ex c st := rfl
@[simp] theorem R.bind_no (k : α → Sto → R β) : (R.no : R α).bind k = .no := rfl
theorem R.bind_ite (c : Prop) [Decidable c] (r1 r2 : R α) (k : α → Sto → R β) : (if c then r1 else r2).bind k = if c then r1.bind k else r2.bind k := by split <;> rfl
def onB (t : TV) (k : Bool → R TV) : R TV := match t with
  | .d (.bl b) => k b
  | _ => .no
@[simp] theorem onB_bl (b : Bool) (k : Bool → R TV) : onB (.d (.bl b)) k = k b := rfl
theorem onB_ite (c : Prop) [Decidable c] (t u : TV) (k : Bool → R TV) : onB (if c then t else u) k = if c then onB t k else onB u k := by split <;> rfl
def onR (r : R TV) (rh : Rho) (k : TV → Sto → RS) : RS := match r with
  | .ok t st1 => k t st1
  | .ex e st1 => .ex e rh st1
  | .no => .no
@[simp] theorem onR_ok (t : TV) (st : Sto) (rh : Rho) (k : TV → Sto → RS) : onR (.ok t st) rh k = k t st := rfl
@[simp] theorem onR_ex (c : Str) (st : Sto) (rh : Rho) (k : TV → Sto → RS) : onR (.ex c st) rh k = .ex c rh st := rfl
theorem onR_ite (c : Prop) [Decidable c] (r1 r2 : R TV) (rh : Rho) (k : TV → Sto → RS) : onR (if c then r1 else r2) rh k = if c then onR r1 rh k else onR r2 rh k := by split <;> rfl
def onT (t : TV) (k : Bool → RS) : RS := match t with
  | .d (.bl b) => k b
  | _ => .no
@[simp] theorem onT_bl (b : Bool) (k : Bool → RS) : onT (.d (.bl b)) k = k b := rfl
def onN (r : RS) (k : Ss) : RS := match r with
  | .nx rh' st' => k rh' st'
  | r => r
@[simp] theorem onN_nx (rh : Rho) (st : Sto) (k : Ss) : onN (.nx rh st) k = k rh st := rfl
@[simp] theorem onN_rt (d : D) (st : Sto) (k : Ss) : onN (.rt d st) k = .rt d st := rfl
@[simp] theorem onN_bk (rh : Rho) (st : Sto) (k : Ss) : onN (.bk rh st) k = .bk rh st := rfl
@[simp] theorem onN_ex (c : Str) (rh : Rho) (st : Sto) (k : Ss) : onN (.ex c rh st) k = .ex c rh st := rfl
theorem onN_ite (c : Prop) [Decidable c] (r1 r2 : RS) (k : Ss) : onN (if c then r1 else r2) k = if c then onN r1 k else onN r2 k := by split <;> rfl
theorem fin_ite (c : Prop) [Decidable c] (r1 r2 : RS) (n : Nat) : fin n (if c then r1 else r2) = if c then fin n r1 else fin n r2 := by split <;> rfl
@[simp] theorem oR_some (a : α) : oR (some a) st = .ok a st := rfl
@[simp] theorem oR_none : (oR none st : R α) = .no := rfl
@[simp] theorem eC_ev : eC d rh st = .ok (.d d) st := rfl
@[simp] theorem eArgs_nil : eArgs [] rh st = .ok [] st := rfl
@[simp] theorem eArgs_cons (f : Sm) (fs : List Sm) : eArgs (f :: fs) rh st = (f rh st).bind fun t st1 => match toDv t with
    | none => .no
    | some d => (eArgs fs rh st1).bind fun ds st2 => .ok (d :: ds) st2 := rfl
@[simp] theorem eArgsC_nil : eArgsC [] rh st = .ok [] st := rfl
@[simp] theorem eArgsC_e (f : Sm) (fs : List Ag) : eArgsC (.e f :: fs) rh st = (f rh st).bind fun t st1 => match toDv t with
    | none => .no
    | some d => (eArgsC fs rh st1).bind fun ds st2 => .ok (d :: ds) st2 := rfl
@[simp] theorem eArgsC_k (i : Nat) (fs : List Ag) : eArgsC (.k i :: fs) rh st = match cloAt rh i with
    | none => .no
    | some d => (eArgsC fs rh st).bind fun ds st2 => .ok (d :: ds) st2 := rfl
@[simp] theorem toDv_d : toDv (.d d) = some d := rfl
@[simp] theorem toDv_fr (ds : List D) : toDv (.fr ds) = some (.lst ds) := rfl
@[simp] theorem toDv_o (i : Nat) : toDv (.o i) = none := rfl
@[simp] theorem eTup_ev (fs : List Sm) : eTup fs rh st = (eArgs fs rh st).bind fun ds st1 => .ok (.d (.tup ds)) st1 := rfl
@[simp] theorem eLst_ev (fs : List Sm) : eLst fs rh st = (eArgs fs rh st).bind fun ds st1 => .ok (.fr ds) st1 := rfl
@[simp] theorem eVar_ev (i : Nat) : eVar i rh st = (match rh[i]? with
  | some (some (.val d)) => .ok (.d d) st
  | some (some (.own _)) => .ok (.o i) st
  | _ => .no) := rfl
@[simp] theorem eOp2_ev (f : Sto → D → D → Option TV) (fa fb : Sm) : eOp2 f fa fb rh st = (fa rh st).bind fun t1 st1 => (fb rh st1).bind fun t2 st2 =>
  match view rh st2 t1, view rh st2 t2 with
  | some d, some e => (match f st2 d e with
    | some t => .ok t st2
    | none => .no)
  | _, _ => .no := rfl
@[simp] theorem eBin_ev (op : Operator) (fa fb : Sm) : eBin op fa fb rh st = eOp2 (fun _ => binD op) fa fb rh st := rfl
@[simp] theorem eCmp_ev (op : CmpOp) (fa fb : Sm) : eCmp op fa fb rh st = eOp2 (fun st d e => bV (cmpD st op d e)) fa fb rh st := rfl
@[simp] theorem eIdx_ev (fa fb : Sm) : eIdx fa fb rh st = eOp2 (fun st d e => dV (idxD st d e)) fa fb rh st := rfl
@[simp] theorem eCmp2_ev (op op' : CmpOp) (fa fb fc : Sm) : eCmp2 op op' fa fb fc rh st = (fa rh st).bind fun t1 st1 => (fb rh st1).bind fun t2 st2 =>
  match view rh st2 t1, view rh st2 t2 with
  | some d, some e => (match cmpD st2 op d e with
    | some b => if b then (fc rh st2).bind fun t3 st3 => (match view rh st3 t2, view rh st3 t3 with
      | some e', some f' => (match cmpD st3 op' e' f' with
        | some b => .ok (.d (.bl b)) st3
        | none => .no)
      | _, _ => .no) else .ok (.d (.bl false)) st2
    | none => .no)
  | _, _ => .no := by
  unfold eCmp2
  congr 1
  funext t1 st1
  congr 1
  funext t2 st2
  cases view rh st2 t1 with
  | none => rfl
  | some d =>
    cases view rh st2 t2 with
    | none => rfl
    | some e =>
      simp only
      cases cmpD st2 op d e with
      | none => rfl
      | some b => cases b <;> rfl
@[simp] theorem eOp1_ev (f : Sto → D → Option TV) (fa : Sm) : eOp1 f fa rh st = (fa rh st).bind fun t1 st1 =>
  match view rh st1 t1 with
  | some d => (match f st1 d with
    | some t => .ok t st1
    | none => .no)
  | none => .no := rfl
@[simp] theorem eTru_ev (fa : Sm) : eTru fa rh st = eOp1 (fun st d => bV (truD st d)) fa rh st := rfl
@[simp] theorem eNot_ev (fa : Sm) : eNot fa rh st = eOp1 (fun _ d => bV (notD d)) fa rh st := rfl
@[simp] theorem eNeg_ev (fa : Sm) : eNeg fa rh st = eOp1 (fun _ d => dV (negD d)) fa rh st := rfl
@[simp] theorem eB1_ev (b : Bi) (fa : Sm) : eB1 b fa rh st = eOp1 b.f fa rh st := rfl
@[simp] theorem eIsi_ev (t : Ty) (fa : Sm) : eIsi t fa rh st = eOp1 (fun _ d => bV (isi t d)) fa rh st := rfl
@[simp] theorem eIsi2_ev (t u : Ty) (fa : Sm) : eIsi2 t u fa rh st = eOp1 (fun _ d => bV ((isi t d).bind fun a => (isi u d).map fun b => a || b)) fa rh st := rfl
@[simp] theorem eSortSet_ev (fa : Sm) : eSortSet fa rh st = eOp1 (fun _ => srtD) fa rh st := rfl
@[simp] theorem eRev_ev (fa : Sm) : eRev fa rh st = eOp1 (fun _ d => dV (revD d)) fa rh st := rfl
@[simp] theorem eUpper_ev (fa : Sm) : eM_upper fa rh st = eOp1 (fun _ d => dV (uppD d)) fa rh st := rfl
@[simp] theorem eIndex_ev (fa fb : Sm) : eM_index fa fb rh st = (fa rh st).bind fun t1 st1 => match t1 with
  | .d (.str x) => eOp1 (fun _ => sixS x) fb rh st1
  | _ => .no := rfl
@[simp] theorem eAnd_ev (fa fb : Sm) : eAnd fa fb rh st = (fa rh st).bind fun t st1 => onB t fun b => if b then fb rh st1 else .ok (.d (.bl false)) st1 := by
  unfold eAnd
  congr 1
  funext t s
  cases t with
  | d d => cases d with
    | bl b => cases b <;> rfl
    | _ => rfl
  | _ => rfl
@[simp] theorem eOr_ev (fa fb : Sm) : eOr fa fb rh st = (fa rh st).bind fun t st1 => onB t fun b => if b then .ok (.d (.bl true)) st1 else fb rh st1 := by
  unfold eOr
  congr 1
  funext t s
  cases t with
  | d d => cases d with
    | bl b => cases b <;> rfl
    | _ => rfl
  | _ => rfl
@[simp] theorem eIf_ev (fc fa fb : Sm) : eIf fc fa fb rh st = (fc rh st).bind fun t st1 => onB t fun b => if b then fa rh st1 else fb rh st1 := by
  unfold eIf
  congr 1
  funext t s
  cases t with
  | d d => cases d with
    | bl b => cases b <;> rfl
    | _ => rfl
  | _ => rfl
@[simp] theorem ePart_none : ePart none rh st = .ok none st := rfl
@[simp] theorem ePart_some (f : Sm) : ePart (some f) rh st = (f rh st).bind fun t st1 => match t with
    | .d (.int i) => .ok (some i) st1
    | _ => .no := rfl
@[simp] theorem eSlc_ev (fa : Sm) (lo hi : Option Sm) : eSlc fa lo hi rh st = (fa rh st).bind fun t st1 => (ePart lo rh st1).bind fun l st2 => (ePart hi rh st2).bind fun u st3 =>
  match view rh st3 t with
  | some d => (match slcD l u d with
    | some t => .ok t st3
    | none => .no)
  | none => .no := rfl
@[simp] theorem eCall_ev (G : Tbl) (g : Str) (fs : List Ag) : eCall G g fs rh st = (eArgsC fs rh st).bind fun ds st1 => (G g ds st1).bind fun d st2 => .ok (.d d) st2 := rfl
@[simp] theorem view_non : view rh st (.d .non) = some .non := rfl
@[simp] theorem view_bl (b : Bool) : view rh st (.d (.bl b)) = some (.bl b) := rfl
@[simp] theorem view_int (i : Int) : view rh st (.d (.int i)) = some (.int i) := rfl
@[simp] theorem view_str (x : Str) : view rh st (.d (.str x)) = some (.str x) := rfl
@[simp] theorem view_tup (ds : List D) : view rh st (.d (.tup ds)) = some (.tup ds) := rfl
@[simp] theorem view_lst (ds : List D) : view rh st (.d (.lst ds)) = some (.lst ds) := rfl
@[simp] theorem view_scr (ns : List Int) : view rh st (.d (.scr ns)) = some (.scr ns) := rfl
@[simp] theorem view_fr (ds : List D) : view rh st (.fr ds) = some (.lst ds) := rfl
@[simp] theorem view_o (i : Nat) : view rh st (.o i) = (match rh[i]? with
    | some (some (.own ds)) => some (.lst ds)
    | _ => none) := rfl
@[simp] theorem bV_some (b : Bool) : bV (some b) = some (.d (.bl b)) := rfl
@[simp] theorem bV_none : bV none = none := rfl
@[simp] theorem dV_some' (d : D) : dV (some d) = some (.d d) := rfl
@[simp] theorem dV_none : dV none = none := rfl
end
section
variable {st : Sto} {i j : Int} {x y : Str} {ds es : List D} {b c : Bool} {d e : D}
@[simp] theorem bin_add_int : binD .Add (.int i) (.int j) = some (.d (.int (i + j))) := rfl
@[simp] theorem bin_sub_int : binD .Sub (.int i) (.int j) = some (.d (.int (i - j))) := rfl
theorem bin_add_str (h : x.length + y.length ≤ sizeLine) : binD .Add (.str x) (.str y) = some (.d (.str (x ++ y))) := by simp only [binD, if_pos h]
theorem bin_add_tup (h : ds.length + es.length ≤ sizeLine) : binD .Add (.tup ds) (.tup es) = some (.d (.tup (ds ++ es))) := by simp only [binD, if_pos h]
theorem bin_add_lst (h : ds.length + es.length ≤ sizeLine) : binD .Add (.lst ds) (.lst es) = some (.fr (ds ++ es)) := by simp only [binD, if_pos h]
theorem bin_mul_r (h : -(2 ^ 64) < j ∧ j < 2 ^ 64) : binD .Mult (.int i) (.int j) = some (.d (.int (i * j))) := by
  have h' : CMul i j := Or.inr h
  simp only [binD, if_pos h']
theorem bin_mul_l (h : -(2 ^ 64) < i ∧ i < 2 ^ 64) : binD .Mult (.int i) (.int j) = some (.d (.int (i * j))) := by
  have h' : CMul i j := Or.inl h
  simp only [binD, if_pos h']
theorem bin_mod (h : 0 < j) : binD .Mod (.int i) (.int j) = some (.d (.int (i % j))) := by simp only [binD, if_pos h]
theorem bin_div (h : 0 < j ∧ j < 1073741824) : binD .FloorDiv (.int i) (.int j) = some (.d (.int (i / j))) := by
  have h' : CDiv i j := h
  simp only [binD, if_pos h']
theorem bin_rep {k : Int} (h : 0 ≤ k ∧ k ≤ 1000 ∧ ds.length ≤ 10000) : binD .Mult (.lst ds) (.int k) = some (.fr (List.replicate k.toNat ds).flatten) := by
  have h2 : -(2 ^ 63) ≤ k ∧ k < 2 ^ 63 ∧ ds.length * k.toNat ≤ sizeLine := by
    refine ⟨by omega, by omega, ?_⟩
    have : ds.length * k.toNat ≤ 10000 * 1000 := Nat.mul_le_mul h.2.2 (by omega)
    rw [sizeLine_eq]
    omega
  simp only [binD, if_pos h2]
theorem bin_repS {k : Int} (h : x.length ≤ 1000 ∧ 0 ≤ k ∧ k ≤ 1000) : binD .Mult (.str x) (.int k) = some (.d (.str (Txt.mul x k))) := by simp only [binD, if_pos h]
@[simp] theorem eq_int : cmpD st .Eq (.int i) (.int j) = some (decide (i = j)) := rfl
@[simp] theorem eq_str : cmpD st .Eq (.str x) (.str y) = some (decide (x = y)) := rfl
@[simp] theorem ne_int : cmpD st .NotEq (.int i) (.int j) = some (!decide (i = j)) := rfl
@[simp] theorem ne_str : cmpD st .NotEq (.str x) (.str y) = some (!decide (x = y)) := rfl
@[simp] theorem lt_int : cmpD st .Lt (.int i) (.int j) = some (decide (i < j)) := rfl
@[simp] theorem le_int : cmpD st .LtE (.int i) (.int j) = some (decide (i ≤ j)) := rfl
@[simp] theorem gt_int : cmpD st .Gt (.int i) (.int j) = some (decide (j < i)) := rfl
@[simp] theorem ge_int : cmpD st .GtE (.int i) (.int j) = some (decide (j ≤ i)) := rfl
@[simp] theorem lt_str : cmpD st .Lt (.str x) (.str y) = some (decide (x.cps.toList < y.cps.toList)) := rfl
@[simp] theorem gt_str : cmpD st .Gt (.str x) (.str y) = some (decide (y.cps.toList < x.cps.toList)) := rfl
@[simp] theorem in_ev : cmpD st .In d e = inD st d e := rfl
@[simp] theorem nin_ev : cmpD st .NotIn d e = (inD st d e).map (!·) := rfl
@[simp] theorem is_ev : cmpD st .Is d e = isD d e := rfl
@[simp] theorem isn_ev : cmpD st .IsNot d e = (isD d e).map (!·) := rfl
@[simp] theorem tru_bl : truD st (.bl b) = some b := rfl
@[simp] theorem tru_int : truD st (.int i) = some (i != 0) := rfl
@[simp] theorem tru_non : truD st .non = some false := rfl
@[simp] theorem tru_tup : truD st (.tup ds) = some (!ds.isEmpty) := rfl
@[simp] theorem tru_lst : truD st (.lst ds) = some (!ds.isEmpty) := rfl
theorem tru_str (h : x.length ≤ sizeLine) : truD st (.str x) = some ((x.length : Int) != 0) := by simp only [truD, if_pos h]
@[simp] theorem not_bl : notD (.bl b) = some (!b) := rfl
@[simp] theorem neg_int : negD (.int i) = some (.int (-i)) := rfl
@[simp] theorem isi_int_int : isi .int (.int i) = some true := rfl
@[simp] theorem isi_int_bl : isi .int (.bl b) = some true := rfl
@[simp] theorem isi_int_non : isi .int .non = some false := rfl
@[simp] theorem isi_int_str : isi .int (.str x) = some false := rfl
@[simp] theorem isi_int_tup : isi .int (.tup ds) = some false := rfl
@[simp] theorem isi_int_lst : isi .int (.lst ds) = some false := rfl
@[simp] theorem isi_str_int : isi .str (.int i) = some false := rfl
@[simp] theorem isi_str_bl : isi .str (.bl b) = some false := rfl
@[simp] theorem isi_str_non : isi .str .non = some false := rfl
@[simp] theorem isi_str_str : isi .str (.str x) = some true := rfl
@[simp] theorem isi_str_tup : isi .str (.tup ds) = some false := rfl
@[simp] theorem isi_str_lst : isi .str (.lst ds) = some false := rfl
@[simp] theorem isi_bool_int : isi .bool (.int i) = some false := rfl
@[simp] theorem isi_bool_bl : isi .bool (.bl b) = some true := rfl
@[simp] theorem isi_bool_non : isi .bool .non = some false := rfl
@[simp] theorem isi_bool_str : isi .bool (.str x) = some false := rfl
@[simp] theorem isi_bool_tup : isi .bool (.tup ds) = some false := rfl
@[simp] theorem isi_bool_lst : isi .bool (.lst ds) = some false := rfl
@[simp] theorem isi_tuple_int : isi .tuple (.int i) = some false := rfl
@[simp] theorem isi_tuple_bl : isi .tuple (.bl b) = some false := rfl
@[simp] theorem isi_tuple_non : isi .tuple .non = some false := rfl
@[simp] theorem isi_tuple_str : isi .tuple (.str x) = some false := rfl
@[simp] theorem isi_tuple_tup : isi .tuple (.tup ds) = some true := rfl
@[simp] theorem isi_tuple_lst : isi .tuple (.lst ds) = some false := rfl
@[simp] theorem isi_list_int : isi .list (.int i) = some false := rfl
@[simp] theorem isi_list_bl : isi .list (.bl b) = some false := rfl
@[simp] theorem isi_list_non : isi .list .non = some false := rfl
@[simp] theorem isi_list_str : isi .list (.str x) = some false := rfl
@[simp] theorem isi_list_tup : isi .list (.tup ds) = some false := rfl
@[simp] theorem isi_list_lst : isi .list (.lst ds) = some true := rfl
@[simp] theorem len_ev : Bi.f .len st d = dV (lenD st d) := rfl
@[simp] theorem all_ev : Bi.f .all st d = dV (allD d) := rfl
@[simp] theorem any_ev : Bi.f .any st d = dV (anyD d) := rfl
@[simp] theorem tuple_ev : Bi.f .tuple st d = dV (tupD d) := rfl
@[simp] theorem list_ev : Bi.f .list st d = lisD d := rfl
@[simp] theorem int_ev : Bi.f .int st d = dV (intD d) := rfl
@[simp] theorem str_ev : Bi.f .str st d = dV (strD d) := rfl
@[simp] theorem len_tup : lenD st (.tup ds) = some (.int ds.length) := rfl
@[simp] theorem len_lst : lenD st (.lst ds) = some (.int ds.length) := rfl
@[simp] theorem len_scr (ns : List Int) : lenD st (.scr ns) = some (.int ns.length) := rfl
theorem len_str (h : x.length ≤ sizeLine) : lenD st (.str x) = some (.int x.length) := by simp only [lenD, if_pos h]
theorem blsOf_map (bs : List Bool) : blsOf (bs.map .bl) = some bs := by
  induction bs with
  | nil => rfl
  | cons b bs ih => simp [blsOf, blOf, ih]
theorem all_bls (bs : List Bool) : allD (.lst (bs.map .bl)) = some (.bl (bs.all id)) := by simp only [allD, blsOf_map]; rfl
theorem all_map {α : Type} (f : α → Bool) (xs : List α) : allD (.lst (xs.map fun x => .bl (f x))) = some (.bl (xs.all f)) := by
  have := all_bls (xs.map f)
  rw [List.map_map, List.all_map] at this
  exact this
theorem any_bls (bs : List Bool) : anyD (.lst (bs.map .bl)) = some (.bl (bs.any id)) := by simp only [anyD, blsOf_map]; rfl
@[simp] theorem tup_tup : tupD (.tup ds) = some (.tup ds) := rfl
@[simp] theorem tup_lst : tupD (.lst ds) = some (.tup ds) := rfl
@[simp] theorem lis_tup : lisD (.tup ds) = some (.fr ds) := rfl
@[simp] theorem lis_lst : lisD (.lst ds) = some (.fr ds) := rfl
theorem lis_str (h : x.length ≤ sizeLine) : lisD (.str x) = some (.fr (signs x)) := by simp only [lisD, if_pos h]; rfl
@[simp] theorem int_int : intD (.int i) = some (.int i) := rfl
@[simp] theorem int_bl : intD (.bl b) = some (.int (if b then 1 else 0)) := rfl
@[simp] theorem rev_tup : revD (.tup ds) = some (.tup ds.reverse) := rfl
@[simp] theorem slc_tup (lo hi : Option Int) : slcD lo hi (.tup ds) = some (.d (.tup (cutD ds lo hi))) := rfl
@[simp] theorem slc_lst (lo hi : Option Int) : slcD lo hi (.lst ds) = some (.fr (cutD ds lo hi)) := rfl
theorem slc_str (lo hi : Option Int) (h : x.length ≤ sizeLine) : slcD lo hi (.str x) = some (.d (.str (cutS x lo hi))) := by simp only [slcD, if_pos h]
@[simp] theorem is_non_non : isD .non .non = some true := rfl
@[simp] theorem is_bl_bl : isD (.bl b) (.bl c) = some (decide (b = c)) := rfl
theorem is_x_non (h : d ≠ .non) : isD d .non = some false := by cases d <;> first | rfl | exact absurd rfl h
@[simp] theorem is_bl_non : isD (.bl b) .non = some false := rfl
@[simp] theorem is_int_non : isD (.int i) .non = some false := rfl
@[simp] theorem is_str_non : isD (.str x) .non = some false := rfl
@[simp] theorem is_tup_non : isD (.tup ds) .non = some false := rfl
@[simp] theorem is_lst_non : isD (.lst ds) .non = some false := rfl
@[simp] theorem idx_tup : idxD st (.tup ds) (.int i) = atI ds i := rfl
@[simp] theorem idx_lst : idxD st (.lst ds) (.int i) = atI ds i := rfl
@[simp] theorem idx_scr (ns : List Int) : idxD st (.scr ns) (.int i) = (atI ns i).map .int := rfl
theorem idx_str (h : x.length ≤ sizeLine) : idxD st (.str x) (.int i) = (atI x.cps.toList i).map fun k => .str ⟨#[k]⟩ := by simp only [idxD, if_pos h]
theorem at_nat {α : Type} (xs : List α) (k : Nat) : atI xs (k : Int) = xs[k]? := by
  unfold L2.atI L2.ixN
  rw [if_pos (by omega)]
  by_cases h : k < xs.length
  · rw [if_pos (by omega)]
    simp
  · rw [if_neg (by omega), List.getElem?_eq_none (by omega)]
    rfl
@[simp] theorem atI_0 {α : Type} (xs : List α) : atI xs 0 = xs[0]? := at_nat xs 0
@[simp] theorem atI_1 {α : Type} (xs : List α) : atI xs 1 = xs[1]? := at_nat xs 1
@[simp] theorem atI_2 {α : Type} (xs : List α) : atI xs 2 = xs[2]? := at_nat xs 2
@[simp] theorem atI_3 {α : Type} (xs : List α) : atI xs 3 = xs[3]? := at_nat xs 3
theorem atI_of {α : Type} (xs : List α) {i : Int} (h : 0 ≤ i) : atI xs i = xs[i.toNat]? := by
  have e : i = (i.toNat : Int) := by omega
  rw [e, at_nat, Int.toNat_natCast]
theorem atI_last {α : Type} (xs : List α) : atI xs (-1) = xs[xs.length - 1]? := by
  unfold L2.atI L2.ixN
  rw [if_neg (by omega)]
  by_cases h : xs.length = 0
  · have : xs = [] := List.length_eq_zero_iff.mp h
    subst this
    rfl
  · rw [if_pos (by omega)]
    simp only [Option.bind_some]
    congr 1
    omega
@[simp] theorem cut_from1 (ds : List D) : cutD ds (some 1) none = ds.drop 1 := by
  unfold cutD
  have e : HT.sIx ds.length 0 (some 1) = min 1 ds.length := HT.sIx_nat _ _ 1
  rw [e, HT.sIx_none]
  rcases ds with _ | ⟨d, ds⟩
  · rfl
  · simp
theorem cut_from (ds : List D) (k : Nat) : cutD ds (some (k : Int)) none = ds.drop k := by
  unfold cutD
  rw [HT.sIx_nat, HT.sIx_none]
  by_cases h : k ≤ ds.length
  · rw [Nat.min_eq_left h]
    apply List.take_of_length_le
    simp
  · rw [Nat.min_eq_right (by omega), List.drop_of_length_le (by omega : ds.length ≤ k), List.drop_of_length_le (Nat.le_refl _)]
    simp
theorem cut_to (ds : List D) (k : Nat) : cutD ds none (some (k : Int)) = ds.take k := by
  unfold cutD
  rw [HT.sIx_nat, HT.sIx_none]
  simp only [List.drop_zero, Nat.sub_zero]
  by_cases h : k ≤ ds.length
  · rw [Nat.min_eq_left h]
  · rw [Nat.min_eq_right (by omega), List.take_of_length_le (Nat.le_refl _), List.take_of_length_le (by omega)]
@[simp] theorem cut_to1 (ds : List D) : cutD ds none (some 1) = ds.take 1 := cut_to ds 1
theorem sIx_neg (n d : Nat) (k : Nat) : HT.sIx n d (some (-((k : Int) + 1))) = n - (k + 1) := by
  show (if -((k : Int) + 1) < 0 then (-((k : Int) + 1) + (n : Int)).toNat else min (-((k : Int) + 1)).toNat n) = _
  rw [if_pos (by omega)]
  omega
@[simp] theorem cut_last (ds : List D) : cutD ds (some (-1)) none = ds.drop (ds.length - 1) := by
  unfold cutD
  have e : HT.sIx ds.length 0 (some (-1)) = ds.length - 1 := sIx_neg _ _ 0
  rw [e, HT.sIx_none]
  apply List.take_of_length_le
  simp
@[simp] theorem cut_init (ds : List D) : cutD ds none (some (-1)) = ds.take (ds.length - 1) := by
  unfold cutD
  have e : HT.sIx ds.length ds.length (some (-1)) = ds.length - 1 := sIx_neg _ _ 0
  rw [e, HT.sIx_none]
  rfl
end

/-! ### statements -/
section
variable {st st' : Sto} {rh rh' : Rho} {d e : D}
@[simp] theorem sThen_ev (fe : Sm) (k : TV → Sto → Rho → RS) : sThen fe k rh st = onR (fe rh st) rh fun t st1 => k t st1 rh := rfl
@[simp] theorem sAsg_ev (own : Bool) (i : Nat) (fe : Sm) : sAsg own i fe rh st = onR (fe rh st) rh fun t st1 => asg own i t st1 rh := rfl
@[simp] theorem asg_d (own : Bool) (i : Nat) : asg own i (.d d) st rh = .nx (rh.set i (some (.val d))) st := rfl
@[simp] theorem asg_fr_t (i : Nat) (ds : List D) : asg true i (.fr ds) st rh = .nx (rh.set i (some (.own ds))) st := rfl
@[simp] theorem asg_fr_f (i : Nat) (ds : List D) : asg false i (.fr ds) st rh = .nx (rh.set i (some (.val (.lst ds)))) st := rfl
@[simp] theorem sRet_ev (fe : Sm) : sRet fe rh st = onR (fe rh st) rh fun t st1 => ret t st1 rh := rfl
@[simp] theorem ret_d : ret (.d d) st rh = .rt d st := rfl
@[simp] theorem ret_fr (ds : List D) : ret (.fr ds) st rh = .rt (.lst ds) st := rfl
@[simp] theorem ret_o (i : Nat) : ret (.o i) st rh = (match rh[i]? with
    | some (some (.own ds)) => .rt (.lst ds) st
    | _ => .no) := rfl
@[simp] theorem sRetN_ev : sRetN rh st = .rt .non st := rfl
@[simp] theorem sNil_ev : sNil rh st = .nx rh st := rfl
@[simp] theorem sBrk_ev : sBrk rh st = .bk rh st := rfl
@[simp] theorem sSeq_ev (f k : Ss) : sSeq f k rh st = onN (f rh st) k := rfl
@[simp] theorem sExpr_ev (fe : Sm) : sExpr fe rh st = onR (fe rh st) rh fun t st1 => .nx rh st1 := rfl
@[simp] theorem sIf_ev (fc : Sm) (f k : Ss) : sIf fc f k rh st = onR (fc rh st) rh fun t st1 => onT t fun b => if b then f rh st1 else k rh st1 := by
  unfold sIf sThen onR
  cases fc rh st with
  | ok t s =>
    cases t with
    | d d => cases d with
      | bl b => cases b <;> rfl
      | _ => rfl
    | _ => rfl
  | _ => rfl
@[simp] theorem sPar_ev (i j : Nat) (fs : List Sm) : sPar i j fs rh st = (match eArgs fs rh st with
  | .ok [d, e] st1 => .nx ((rh.set i (some (.val d))).set j (some (.val e))) st1
  | .ok _ _ => .no
  | .ex x st1 => .ex x rh st1
  | .no => .no) := rfl
@[simp] theorem sFor_ev (tg : Tg) (fi : Im) (body : Ss) : sFor tg fi body rh st = (match fi rh st with
  | .ok ds st1 => sLoop tg body ds rh st1
  | .ex x st1 => .ex x rh st1
  | .no => .no) := rfl
@[simp] theorem sLoop_nil (tg : Tg) (body : Ss) : sLoop tg body [] rh st = .nx rh st := rfl
theorem sLoop_cons (tg : Tg) (body : Ss) (d : D) (ds : List D) : sLoop tg body (d :: ds) rh st = (match tgSet tg d rh with
    | none => .no
    | some rh1 => (match body rh1 st with
      | .nx rh2 st2 => sLoop tg body ds rh2 st2
      | .ct rh2 st2 => sLoop tg body ds rh2 st2
      | .bk rh2 st2 => .nx rh2 st2
      | r => r)) := rfl
@[simp] theorem iOne_ev (f : D → Option (List D)) (fa : Sm) : iOne f fa rh st = (fa rh st).bind fun t st1 => if notLoc t then oR ((view rh st1 t).bind f) st1 else .no := rfl
@[simp] theorem iOneP_ev (f : D → Option (List D)) (fa : Sm) : iOneP f fa rh st = (fa rh st).bind fun t st1 => if notLoc t then oR ((toDv t).bind f) st1 else .no := rfl
@[simp] theorem iTwo_ev (f : D → D → Option (List D)) (fa fb : Sm) : iTwo f fa fb rh st = (fa rh st).bind fun t st1 => (fb rh st1).bind fun u st2 => if notLoc t && notLoc u then oR ((view rh st2 t).bind fun d => (view rh st2 u).bind fun e => f d e) st2 else .no := rfl
theorem iTwo_ok {f : D → D → Option (List D)} {fa fb : Sm} {t u : TV} {st1 st2 : Sto} {ds : List D} (h1 : fa rh st = .ok t st1) (h2 : fb rh st1 = .ok u st2) (hn : notLoc t = true) (hu : notLoc u = true) (v1 : view rh st2 t = some d) (v2 : view rh st2 u = some e) (hf : f d e = some ds) : iTwo f fa fb rh st = .ok ds st2 := by
  show (fa rh st).bind _ = _
  rw [h1, R.bind_ok, h2, R.bind_ok, hn, hu, v1, v2]
  show oR (f d e) st2 = _
  rw [hf]
  rfl
theorem iOne_ok {f : D → Option (List D)} {fa : Sm} {t : TV} {st1 : Sto} {ds : List D} (h1 : fa rh st = .ok t st1) (hn : notLoc t = true) (v1 : view rh st1 t = some d) (hf : f d = some ds) : iOne f fa rh st = .ok ds st1 := by
  show (fa rh st).bind _ = _
  rw [h1, R.bind_ok, hn, v1]
  show oR (f d) st1 = _
  rw [hf]
  rfl
theorem iOneP_ok {f : D → Option (List D)} {fa : Sm} {t : TV} {st1 : Sto} {ds : List D} (h1 : fa rh st = .ok t st1) (hn : notLoc t = true) (v1 : toDv t = some d) (hf : f d = some ds) : iOneP f fa rh st = .ok ds st1 := by
  show (fa rh st).bind _ = _
  rw [h1, R.bind_ok, hn, v1]
  show oR (f d) st1 = _
  rw [hf]
  rfl
@[simp] theorem notLoc_fr (ds : List D) : notLoc (.fr ds) = true := rfl
@[simp] theorem notLoc_o (i : Nat) : notLoc (.o i) = true := rfl
@[simp] theorem notLoc_tup (ds : List D) : notLoc (.d (.tup ds)) = true := rfl
@[simp] theorem notLoc_lst (ds : List D) : notLoc (.d (.lst ds)) = true := rfl
@[simp] theorem notLoc_str (x : Str) : notLoc (.d (.str x)) = true := rfl
@[simp] theorem notLoc_int (x : Int) : notLoc (.d (.int x)) = true := rfl
@[simp] theorem items_tup (ds : List D) : itemsD (.tup ds) = some ds := rfl
@[simp] theorem items_lst (ds : List D) : itemsD (.lst ds) = some ds := rfl
@[simp] theorem items_str (x : Str) : itemsD (.str x) = some (signs x) := rfl
@[simp] theorem enm_lst (ds : List D) : enmD (.lst ds) = some (numFrom 0 ds) := rfl
@[simp] theorem enm_str (x : Str) : enmD (.str x) = some (numFrom 0 (signs x)) := rfl
@[simp] theorem zip_tup (ds es : List D) : zipD (.tup ds) (.tup es) = some (zipTup ds es) := rfl
@[simp] theorem zip_lst (ds es : List D) : zipD (.lst ds) (.lst es) = some (zipTup ds es) := rfl
theorem rng1_ev {n : Nat} (h : n < 4611686018427387904) : rng1 (.int n) = some ((List.range n).map fun i => .int (i : Nat)) := by
  show rngD 0 (n : Int) = _
  unfold rngD
  rw [if_pos (by omega)]
  simp
theorem rng2_ev {i j : Int} (h : -4611686018427387904 ≤ i ∧ i < 4611686018427387904 ∧ -4611686018427387904 ≤ j ∧ j < 4611686018427387904) : rng2 (.int i) (.int j) = some ((List.range (j - i).toNat).map fun k => .int (i + (k : Nat))) := by
  show rngD i j = _
  unfold rngD
  rw [if_pos (by omega)]
@[simp] theorem eComp_ev (vs : List Nat) (tg : Tg) (fi : Im) (fc : Option Sm) (fe : Sm) : eComp vs tg fi fc fe rh st = (fi rh st).bind fun ds st1 => if ds.length ≤ sizeLine then (cLoop tg fc fe (wipeR rh vs) ds st1).bind fun ys st2 => .ok (.fr ys) st2 else .no := rfl
theorem comp_ok {vs : List Nat} {tg : Tg} {fi : Im} {fc : Option Sm} {fe : Sm} {ds ys : List D} {st1 st2 : Sto} (hi : fi rh st = .ok ds st1) (hl : ds.length ≤ sizeLine) (hc : cLoop tg fc fe (wipeR rh vs) ds st1 = .ok ys st2) : eComp vs tg fi fc fe rh st = .ok (.fr ys) st2 := by
  show (fi rh st).bind _ = _
  rw [hi, R.bind_ok, if_pos hl, hc]
  rfl
@[simp] theorem wipe_nil : wipeR rh [] = rh := rfl
@[simp] theorem wipe_cons (v : Nat) (vs : List Nat) : wipeR rh (v :: vs) = (wipeR rh vs).set v none := rfl
@[simp] theorem tg_name_ev (i : Nat) : tgSet (.name i) d rh = some (rh.set i (some (.val d))) := rfl
@[simp] theorem tg_tup_ev (is : List Nat) (ds : List D) : tgSet (.tup is) (.tup ds) rh = setAll is ds rh := rfl
@[simp] theorem tg_raw_ev (is : List Nat) (ds : List D) : tgSet (.tup is) (.raw ds) rh = setAll is ds rh := rfl
@[simp] theorem setAll_nil : setAll [] [] rh = some rh := rfl
@[simp] theorem setAll_cons (i : Nat) (is : List Nat) (d : D) (ds : List D) : setAll (i :: is) (d :: ds) rh = setAll is ds (rh.set i (some (.val d))) := rfl
/-- each item is led to one value, the store is left -/
theorem cLoop_map {tg : Tg} {fe : Sm} {rhw : Rho} (f : D → D) : ∀ (ds : List D), (∀ d ∈ ds, ∃ rh', tgSet tg d rhw = some rh' ∧ cElt fe rh' st = .ok (f d) st) → cLoop tg none fe rhw ds st = .ok (ds.map f) st
  | [], _ => rfl
  | d :: ds, h => by
    obtain ⟨rh', h1, h2⟩ := h d List.mem_cons_self
    unfold cLoop
    rw [h1]
    simp only [oR_some, R.bind_ok, cTest, h2, cLoop_map f ds fun d hd => h d (List.mem_cons_of_mem _ hd), List.map_cons]
theorem cLoop_filter {tg : Tg} {fc fe : Sm} {rhw : Rho} (p : D → Bool) (f : D → D) : ∀ (ds : List D), (∀ d ∈ ds, ∃ rh', tgSet tg d rhw = some rh' ∧ fc rh' st = .ok (.d (.bl (p d))) st ∧ (p d = true → cElt fe rh' st = .ok (f d) st)) → cLoop tg (some fc) fe rhw ds st = .ok ((ds.filter p).map f) st
  | [], _ => rfl
  | d :: ds, h => by
    obtain ⟨rh', h1, h2, h3⟩ := h d List.mem_cons_self
    unfold cLoop
    rw [h1]
    have ih := cLoop_filter p f ds fun d hd => h d (List.mem_cons_of_mem _ hd)
    simp only [oR_some, R.bind_ok, cTest, h2, ih]
    cases hp : p d with
    | false => simp [List.filter_cons, hp]
    | true => simp [List.filter_cons, hp, h3 hp, ih]
@[simp] theorem fin_rt (n : Nat) : fin n (.rt d st) = .ok d (cut n d st) := rfl
@[simp] theorem fin_nx (n : Nat) : fin n (.nx rh st) = .ok .non (cut n .non st) := rfl
@[simp] theorem fin_ex (n : Nat) (c : Str) : fin n (.ex c rh st) = .ex c (cut n .non st) := rfl
@[simp] theorem cut_same (d : D) : cut st.length d st = st := by unfold cut; rw [if_pos (Nat.le_refl _)]
@[simp] theorem sApp_ev (fo fe : Sm) : sApp fo fe rh st = onR (fo rh st) rh fun t st1 => if isL rh st1 t then onR (fe rh st1) rh fun u st2 => (match toDv u with
      | some d => updL t (appD d) st2 rh
      | none => .no) else .no := rfl
@[simp] theorem sExt_ev (fo fe : Sm) : sExt fo fe rh st = onR (fo rh st) rh fun t st1 => if isL rh st1 t then onR (fe rh st1) rh fun u st2 => (match view rh st2 u with
      | some (.lst es) => updL t (extD es) st2 rh
      | _ => .no) else .no := rfl
@[simp] theorem isL_o (i : Nat) : isL rh st (.o i) = (match rh[i]? with
  | some (some (.own _)) => true
  | _ => false) := by
  unfold isL
  simp only [view_o]
  cases h : rh[i]? with
  | none => rfl
  | some o =>
    cases o with
    | none => rfl
    | some c => cases c <;> rfl
@[simp] theorem updL_o (i : Nat) (f : List D → Option (List D)) : updL (.o i) f st rh = (match rh[i]? with
    | some (some (.own ds)) => (match f ds with
      | some ds' => .nx (rh.set i (some (.own ds'))) st
      | none => .no)
    | _ => .no) := rfl
theorem app_ev {ds : List D} (h : ds.length < sizeLine) : appD d ds = some (ds ++ [d]) := by unfold appD; rw [if_pos h]
theorem ext_ev {ds es : List D} (h : ds.length + es.length ≤ sizeLine) : extD es ds = some (ds ++ es) := by unfold extD; rw [if_pos h]
@[simp] theorem cellD_non : cellD .non = .val .non := rfl
@[simp] theorem cellD_bl (b : Bool) : cellD (.bl b) = .val (.bl b) := rfl
@[simp] theorem cellD_int (i : Int) : cellD (.int i) = .val (.int i) := rfl
@[simp] theorem cellD_str (x : Str) : cellD (.str x) = .val (.str x) := rfl
@[simp] theorem cellD_tup (ds : List D) : cellD (.tup ds) = .val (.tup ds) := rfl
@[simp] theorem cellD_lst (ds : List D) : cellD (.lst ds) = .val (.lst ds) := rfl
@[simp] theorem cellD_raw (ds : List D) : cellD (.raw ds) = .val (.raw ds) := rfl
@[simp] theorem cellD_loc (n : Nat) : cellD (.loc n) = .val (.loc n) := rfl
@[simp] theorem cellD_scr (ns : List Int) : cellD (.scr ns) = .val (.scr ns) := rfl
/-! objects, exceptions, texts -/
theorem view_loc (n : Nat) : view rh st (.d (.loc n)) = (match st[n]? with
    | some (.lst ds) => some (.lst ds)
    | some _ => some (.loc n)
    | none => none) := rfl
@[simp] theorem eFld_ev (f : Str) (fa : Sm) : eFld f fa rh st = eOp1 (fun st d => dV (fldD f st d)) fa rh st := rfl
@[simp] theorem fldD_loc (f : Str) (n : Nat) : fldD f st (.loc n) = (match st[n]? with
    | some (.ins _ fs) => fs.lookup f
    | _ => none) := rfl
@[simp] theorem eMeth_ev (ml : Ml) (G : Tbl) (m : Str) (fo : Sm) (fs : List Ag) : eMeth ml G m fo fs rh st = (fo rh st).bind fun t st1 => match t with
  | .d (.loc n) => (match st1[n]? with
    | some (.ins C _) => (match ml.lookup (C, m) with
      | some g => (eArgsC fs rh st1).bind fun ds st2 => (G g (.loc n :: ds) st2).bind fun d st3 => .ok (.d d) st3
      | none => .no)
    | _ => .no)
  | _ => .no := rfl
@[simp] theorem eMake_ev (G : Tbl) (C g : Str) (fs : List Ag) : eMake G C g fs rh st = (eArgsC fs rh st).bind fun ds st1 => (G g (.loc st1.length :: ds) (st1 ++ [.ins C []])).bind fun d st2 => match d with
  | .non => .ok (.d (.loc st1.length)) st2
  | _ => .no := rfl
@[simp] theorem sFldS_ev (fl : List (Str × Str)) (f : Str) (fo fe : Sm) : sFldS fl f fo fe rh st = onR (fe rh st) rh fun t st1 => (match held t st1 with
  | some (d, st2) => onR (fo rh st2) rh fun u st3 => (match u with
    | .d (.loc n) => (match setFld fl f n d st3 with
      | some st4 => .nx rh st4
      | none => .no)
    | _ => .no)
  | none => .no) := rfl
@[simp] theorem held_d : held (.d d) st = some (d, st) := rfl
@[simp] theorem held_fr (ds : List D) : held (.fr ds) st = some (.loc st.length, st ++ [.lst ds]) := rfl
@[simp] theorem sRaise_ev (e : Str) : sRaise e rh st = .ex e rh st := rfl
@[simp] theorem sTry_ev (xs : List Str) (fb fs : Ss) : sTry xs fb fs rh st = (match fb rh st with
  | .ex e rh' st' => if xs.contains e then noEx (fs rh' st') else .no
  | r => r) := rfl
theorem sTry_rt {xs : List Str} {fb fs : Ss} (h : fb rh st = .rt d st') : sTry xs fb fs rh st = .rt d st' := by
  show (match fb rh st with
    | .ex e rh' st' => if xs.contains e then noEx (fs rh' st') else .no
    | r => r) = _
  rw [h]
@[simp] theorem eJoin_ev (fa fb : Sm) : eM_join fa fb rh st = (fa rh st).bind fun t1 st1 => match t1 with
  | .d (.str x) => eOp1 (fun _ => joinD x) fb rh st1
  | _ => .no := rfl
@[simp] theorem eSplit_ev (fa fb : Sm) : eM_split fa fb rh st = (fa rh st).bind fun t1 st1 => match t1 with
  | .d (.str x) => eOp1 (fun _ => splitD x) fb rh st1
  | _ => .no := rfl
@[simp] theorem ePart_ev (fa fb : Sm) : eM_part fa fb rh st = (fa rh st).bind fun t1 st1 => match t1 with
  | .d (.str x) => eOp1 (fun _ => partD x) fb rh st1
  | _ => .no := rfl
theorem wLoop_succ (fc : Sm) (body : Ss) (n : Nat) : wLoop fc body (n + 1) rh st = onR (fc rh st) rh fun t st1 => onT t fun b => if b then (match body rh st1 with
      | .nx rh2 st2 => wLoop fc body n rh2 st2
      | .ct rh2 st2 => wLoop fc body n rh2 st2
      | .bk rh2 st2 => .nx rh2 st2
      | r => r) else .nx rh st1 := by
  show sThen fc _ rh st = _
  unfold sThen onR
  cases fc rh st with
  | ok t s =>
    cases t with
    | d d => cases d with
      | bl b => cases b <;> rfl
      | _ => rfl
    | _ => rfl
  | _ => rfl
end
end KL

namespace KW
open PySem L2 KL
def top (i : Nat) : Stmt := PySem.Challenge.pw_keptlooks_k15_texts.main.body.getD i (.Pass ⟨0, 0, 0, 0⟩)
def inCls (s : Stmt) (j : Nat) : Stmt := match s with
  | .ClassDef _ _ _ b _ _ _ _ _ _ _ => b.getD j (.Pass ⟨0, 0, 0, 0⟩)
  | _ => .Pass ⟨0, 0, 0, 0⟩
def mlD : Ml := [(("Reader", "__init__"), "Reader.__init__"), (("Reader", "is_at_end"), "Reader.is_at_end"), (("Reader", "has"), "Reader.has"), (("Reader", "must"), "Reader.must"), (("Reader", "one_of"), "Reader.one_of"), (("Reader", "rule"), "Reader.rule")]
def flD : List (Str × Str) := [("Reader", "signs"), ("Reader", "place")]
abbrev s_rule_text : Stmt := top 1
def d_rule_text : He.DefD := ⟨("rule_text", none), "rule_text", "rule_text", defArgs s_rule_text, defBody s_rule_text, defScope s_rule_text, [], []⟩
def m_rule_text (G : Tbl) : Ss :=
  (sSeq (sAsg false 1 (eIdx (eVar 0) (eC (.int 0))))
  (sSeq (sIf (eCmp .In (eVar 1) (eTup [(eC (.str "worth")), (eC (.str "look"))]))
  (sRet (eB1 .str (eIdx (eVar 0) (eC (.int 1)))))
  sNil)
  (sSeq (sAsg false 2 (eComp [3] (.name 3) (iOne itemsD (eSlc (eVar 0) (some (eC (.int 1))) none)) none (eCall G "rule_text" [.e (eVar 3)])))
  (sSeq (sIf (eCmp .Eq (eVar 1) (eC (.str "if")))
  (sRet (eBin .Add (eBin .Add (eBin .Add (eBin .Add (eBin .Add (eBin .Add (eC (.str "[")) (eIdx (eVar 2) (eC (.int 0)))) (eC (.str " ? "))) (eIdx (eVar 2) (eC (.int 1)))) (eC (.str " : "))) (eIdx (eVar 2) (eC (.int 2)))) (eC (.str "]"))))
  sNil)
  (sRet (eBin .Add (eBin .Add (eBin .Add (eBin .Add (eBin .Add (eBin .Add (eC (.str "(")) (eIdx (eVar 2) (eC (.int 0)))) (eC (.str " "))) (eVar 1)) (eC (.str " "))) (eIdx (eVar 2) (eC (.int 1)))) (eC (.str ")"))))))))
def f_rule_text : Df := ⟨"rule_text", d_rule_text, ["rule"], ["rule", "word", "parts", "part"], [], [], m_rule_text⟩
abbrev s_written : Stmt := top 2
def d_written : He.DefD := ⟨("written", none), "written", "written", defArgs s_written, defBody s_written, defScope s_written, [], []⟩
def m_written (G : Tbl) : Ss :=
  (sRet (eM_join (eC (.str "")) (eComp [1, 2] (.tup [1, 2]) (iOne itemsD (eVar 0)) none (eBin .Add (eBin .Add (eBin .Add (eVar 1) (eC (.str " = "))) (eCall G "rule_text" [.e (eVar 2)])) (eC (.str "\n"))))))
def f_written : Df := ⟨"written", d_written, ["book"], ["book", "name", "rule"], [], [], m_written⟩
abbrev s_is_name : Stmt := top 11
def d_is_name : He.DefD := ⟨("is_name", none), "is_name", "is_name", defArgs s_is_name, defBody s_is_name, defScope s_is_name, [], []⟩
def m_is_name (G : Tbl) : Ss :=
  (sRet (eAnd (eIsi .str (eVar 0)) (eAnd (eCmp .Eq (eB1 .len (eVar 0)) (eC (.int 1))) (eCmp .In (eVar 0) (eVar 1)))))
def f_is_name : Df := ⟨"is_name", d_is_name, ["thing", "names"], ["thing", "names"], [], [], m_is_name⟩
abbrev s_is_worth : Stmt := top 12
def d_is_worth : He.DefD := ⟨("is_worth", none), "is_worth", "is_worth", defArgs s_is_worth, defBody s_is_worth, defScope s_is_worth, [], []⟩
def m_is_worth (G : Tbl) : Ss :=
  (sRet (eAnd (eIsi .int (eVar 0)) (eAnd (eNot (eIsi .bool (eVar 0))) (eCmp2 .LtE .LtE (eC (.int 0)) (eVar 0) (eC (.int 2))))))
def f_is_worth : Df := ⟨"is_worth", d_is_worth, ["thing"], ["thing"], [], [], m_is_worth⟩
abbrev s_is_rule_in : Stmt := top 13
def d_is_rule_in : He.DefD := ⟨("is_rule_in", none), "is_rule_in", "is_rule_in", defArgs s_is_rule_in, defBody s_is_rule_in, defScope s_is_rule_in, [], []⟩
def m_is_rule_in (G : Tbl) : Ss :=
  (sSeq (sIf (eOr (eNot (eTru (eIsi .tuple (eVar 0)))) (eOr (eCmp .Lt (eB1 .len (eVar 0)) (eC (.int 2))) (eOr (eNot (eTru (eIsi .str (eIdx (eVar 0) (eC (.int 0)))))) (eCmp .Eq (eVar 1) (eC (.int 0))))))
  (sRet (eC (.bl false)))
  sNil)
  (sSeq (sPar 2 3 [(eIdx (eVar 0) (eC (.int 0))), (eSlc (eVar 0) (some (eC (.int 1))) none)])
  (sSeq (sIf (eCmp .Eq (eVar 2) (eC (.str "worth")))
  (sRet (eAnd (eCmp .Eq (eB1 .len (eVar 3)) (eC (.int 1))) (eCall G "is_worth" [.e (eIdx (eVar 3) (eC (.int 0)))])))
  sNil)
  (sSeq (sIf (eCmp .Eq (eVar 2) (eC (.str "look")))
  (sRet (eAnd (eCmp .Eq (eB1 .len (eVar 3)) (eC (.int 1))) (eCall G "is_name" [.e (eIdx (eVar 3) (eC (.int 0))), .e (eBin .Add (eC (Kc.d (.str "abc"))) (eC (Kc.d (.str "ABCDE"))))])))
  sNil)
  (sSeq (sIf (eOr (eAnd (eCmp .NotEq (eVar 2) (eC (.str "if"))) (eCmp .NotIn (eVar 2) (eC (Kc.d (.tS ["plus", "times", "same", "least", "most"]))))) (eCmp .NotEq (eB1 .len (eVar 3)) (eBin .Add (eC (.int 2)) (eB1 .int (eCmp .Eq (eVar 2) (eC (.str "if")))))))
  (sRet (eC (.bl false)))
  sNil)
  (sRet (eB1 .all (eComp [4] (.name 4) (iOne itemsD (eVar 3)) none (eCall G "is_rule_in" [.e (eVar 4), .e (eBin .Sub (eVar 1) (eC (.int 1)))])))))))))
def f_is_rule_in : Df := ⟨"is_rule_in", d_is_rule_in, ["thing", "deep"], ["thing", "deep", "word", "rest", "part"], [], [], m_is_rule_in⟩
abbrev s_is_rule : Stmt := top 14
def d_is_rule : He.DefD := ⟨("is_rule", none), "is_rule", "is_rule", defArgs s_is_rule, defBody s_is_rule, defScope s_is_rule, [], []⟩
def m_is_rule (G : Tbl) : Ss :=
  (sRet (eCall G "is_rule_in" [.e (eVar 0), .e (eC (Kc.d (.int 4)))]))
def f_is_rule : Df := ⟨"is_rule", d_is_rule, ["thing"], ["thing"], [], [], m_is_rule⟩
abbrev s_is_entry : Stmt := top 15
def d_is_entry : He.DefD := ⟨("is_entry", none), "is_entry", "is_entry", defArgs s_is_entry, defBody s_is_entry, defScope s_is_entry, [], []⟩
def m_is_entry (G : Tbl) : Ss :=
  (sRet (eAnd (eIsi .tuple (eVar 0)) (eAnd (eCmp .Eq (eB1 .len (eVar 0)) (eC (.int 2))) (eAnd (eCall G "is_name" [.e (eIdx (eVar 0) (eC (.int 0))), .e (eC (Kc.d (.str "ABCDE")))]) (eCall G "is_rule" [.e (eIdx (eVar 0) (eC (.int 1)))])))))
def f_is_entry : Df := ⟨"is_entry", d_is_entry, ["thing"], ["thing"], [], [], m_is_entry⟩
abbrev s_is_book : Stmt := top 16
def d_is_book : He.DefD := ⟨("is_book", none), "is_book", "is_book", defArgs s_is_book, defBody s_is_book, defScope s_is_book, [], []⟩
def m_is_book (G : Tbl) : Ss :=
  (sSeq (sIf (eOr (eNot (eTru (eIsi .tuple (eVar 0)))) (eNot (eTru (eB1 .all (eComp [1] (.name 1) (iOne itemsD (eVar 0)) none (eCall G "is_entry" [.e (eVar 1)]))))))
  (sRet (eC (.bl false)))
  sNil)
  (sRet (eB1 .all (eComp [2] (.name 2) (iTwo rng2 (eC (.int 1)) (eB1 .len (eVar 0))) none (eCmp .Lt (eIdx (eIdx (eVar 0) (eBin .Sub (eVar 2) (eC (.int 1)))) (eC (.int 0))) (eIdx (eIdx (eVar 0) (eVar 2)) (eC (.int 0))))))))
def f_is_book : Df := ⟨"is_book", d_is_book, ["thing"], ["thing", "one", "k"], [], [], m_is_book⟩
abbrev s_Reader___init : Stmt := inCls (top 19) 0
def d_Reader___init : He.DefD := ⟨("Reader", some "__init__"), "__init__", "Reader.__init__", defArgs s_Reader___init, defBody s_Reader___init, defScope s_Reader___init, [], []⟩
def m_Reader___init (G : Tbl) : Ss :=
  (sSeq (sFldS flD "signs" (eVar 0) (eVar 1))
  (sFldS flD "place" (eVar 0) (eC (.int 0))))
def f_Reader___init : Df := ⟨"Reader.__init__", d_Reader___init, ["self", "text"], ["self", "text"], [], [], m_Reader___init⟩
abbrev s_Reader_is_at_end : Stmt := inCls (top 19) 1
def d_Reader_is_at_end : He.DefD := ⟨("Reader", some "is_at_end"), "is_at_end", "Reader.is_at_end", defArgs s_Reader_is_at_end, defBody s_Reader_is_at_end, defScope s_Reader_is_at_end, [], []⟩
def m_Reader_is_at_end (G : Tbl) : Ss :=
  (sRet (eCmp .Eq (eFld "place" (eVar 0)) (eB1 .len (eFld "signs" (eVar 0)))))
def f_Reader_is_at_end : Df := ⟨"Reader.is_at_end", d_Reader_is_at_end, ["self"], ["self"], [], [], m_Reader_is_at_end⟩
abbrev s_Reader_has : Stmt := inCls (top 19) 2
def d_Reader_has : He.DefD := ⟨("Reader", some "has"), "has", "Reader.has", defArgs s_Reader_has, defBody s_Reader_has, defScope s_Reader_has, [], []⟩
def m_Reader_has (G : Tbl) : Ss :=
  (sSeq (sIf (eCmp .NotEq (eSlc (eFld "signs" (eVar 0)) (some (eFld "place" (eVar 0))) (some (eBin .Add (eFld "place" (eVar 0)) (eB1 .len (eVar 1))))) (eVar 1))
  (sRet (eC (.bl false)))
  sNil)
  (sSeq (sFldS flD "place" (eVar 0) (eBin .Add (eFld "place" (eVar 0)) (eB1 .len (eVar 1))))
  (sRet (eC (.bl true)))))
def f_Reader_has : Df := ⟨"Reader.has", d_Reader_has, ["self", "some"], ["self", "some"], [], [], m_Reader_has⟩
abbrev s_Reader_must : Stmt := inCls (top 19) 3
def d_Reader_must : He.DefD := ⟨("Reader", some "must"), "must", "Reader.must", defArgs s_Reader_must, defBody s_Reader_must, defScope s_Reader_must, [], []⟩
def m_Reader_must (G : Tbl) : Ss :=
  (sIf (eNot (eTru (eMeth mlD G "has" (eVar 0) [.e (eVar 1)])))
  (sRaise "NoText")
  sNil)
def f_Reader_must : Df := ⟨"Reader.must", d_Reader_must, ["self", "some"], ["self", "some"], [], [], m_Reader_must⟩
abbrev s_Reader_one_of : Stmt := inCls (top 19) 4
def d_Reader_one_of : He.DefD := ⟨("Reader", some "one_of"), "one_of", "Reader.one_of", defArgs s_Reader_one_of, defBody s_Reader_one_of, defScope s_Reader_one_of, [], []⟩
def m_Reader_one_of (G : Tbl) : Ss :=
  (sSeq (sFor (.name 2) (iOneP itemsD (eVar 1))
  (sIf (eTru (eMeth mlD G "has" (eVar 0) [.e (eVar 2)]))
  (sRet (eVar 2))
  sNil))
  (sRaise "NoText"))
def f_Reader_one_of : Df := ⟨"Reader.one_of", d_Reader_one_of, ["self", "words"], ["self", "words", "word"], [], [], m_Reader_one_of⟩
abbrev s_Reader_rule : Stmt := inCls (top 19) 5
def d_Reader_rule : He.DefD := ⟨("Reader", some "rule"), "rule", "Reader.rule", defArgs s_Reader_rule, defBody s_Reader_rule, defScope s_Reader_rule, [], []⟩
def m_Reader_rule (G : Tbl) : Ss :=
  (sSeq (sIf (eCmp .Eq (eVar 1) (eC (.int 0)))
  (sRaise "NoText")
  sNil)
  (sSeq (sIf (eTru (eMeth mlD G "has" (eVar 0) [.e (eC (.str "["))]))
  (sSeq (sAsg false 2 (eMeth mlD G "rule" (eVar 0) [.e (eBin .Sub (eVar 1) (eC (.int 1)))]))
  (sSeq (sExpr (eMeth mlD G "must" (eVar 0) [.e (eC (.str " ? "))]))
  (sSeq (sAsg false 3 (eMeth mlD G "rule" (eVar 0) [.e (eBin .Sub (eVar 1) (eC (.int 1)))]))
  (sSeq (sExpr (eMeth mlD G "must" (eVar 0) [.e (eC (.str " : "))]))
  (sSeq (sAsg false 4 (eMeth mlD G "rule" (eVar 0) [.e (eBin .Sub (eVar 1) (eC (.int 1)))]))
  (sSeq (sExpr (eMeth mlD G "must" (eVar 0) [.e (eC (.str "]"))]))
  (sRet (eTup [(eC (.str "if")), (eVar 2), (eVar 3), (eVar 4)]))))))))
  sNil)
  (sSeq (sIf (eTru (eMeth mlD G "has" (eVar 0) [.e (eC (.str "("))]))
  (sSeq (sAsg false 3 (eMeth mlD G "rule" (eVar 0) [.e (eBin .Sub (eVar 1) (eC (.int 1)))]))
  (sSeq (sExpr (eMeth mlD G "must" (eVar 0) [.e (eC (.str " "))]))
  (sSeq (sAsg false 5 (eMeth mlD G "one_of" (eVar 0) [.e (eC (Kc.d (.tS ["plus", "times", "same", "least", "most"])))]))
  (sSeq (sExpr (eMeth mlD G "must" (eVar 0) [.e (eC (.str " "))]))
  (sSeq (sAsg false 4 (eMeth mlD G "rule" (eVar 0) [.e (eBin .Sub (eVar 1) (eC (.int 1)))]))
  (sSeq (sExpr (eMeth mlD G "must" (eVar 0) [.e (eC (.str ")"))]))
  (sRet (eTup [(eVar 5), (eVar 3), (eVar 4)]))))))))
  sNil)
  (sSeq (sAsg false 6 (eMeth mlD G "one_of" (eVar 0) [.e (eBin .Add (eBin .Add (eC (Kc.d (.str "abc"))) (eC (Kc.d (.str "ABCDE")))) (eC (.str "012")))]))
  (sSeq (sIf (eCmp .In (eVar 6) (eC (.str "012")))
  (sRet (eTup [(eC (.str "worth")), (eB1 .int (eVar 6))]))
  sNil)
  (sRet (eTup [(eC (.str "look")), (eVar 6)])))))))
def f_Reader_rule : Df := ⟨"Reader.rule", d_Reader_rule, ["self", "deep"], ["self", "deep", "test", "one", "other", "word", "sign"], [], [], m_Reader_rule⟩
abbrev s_read : Stmt := top 20
def d_read : He.DefD := ⟨("read", none), "read", "read", defArgs s_read, defBody s_read, defScope s_read, [], []⟩
def m_read (G : Tbl) : Ss :=
  (sSeq (sAsg false 1 (eMake G "Reader" "Reader.__init__" [.e (eVar 0)]))
  (sSeq (sAsg true 2 (eLst []))
  (sSeq (sWhile (eNot (eTru (eMeth mlD G "is_at_end" (eVar 1) [])))
  (sSeq (sAsg false 3 (eMeth mlD G "one_of" (eVar 1) [.e (eC (Kc.d (.str "ABCDE")))]))
  (sSeq (sExpr (eMeth mlD G "must" (eVar 1) [.e (eC (.str " = "))]))
  (sSeq (sApp (eVar 2) (eTup [(eVar 3), (eMeth mlD G "rule" (eVar 1) [.e (eC (Kc.d (.int 5)))])]))
  (sExpr (eMeth mlD G "must" (eVar 1) [.e (eC (.str "\n"))]))))))
  (sSeq (sAsg false 4 (eB1 .tuple (eVar 2)))
  (sSeq (sIf (eOr (eNot (eTru (eCall G "is_book" [.e (eVar 4)]))) (eCmp .NotEq (eCall G "written" [.e (eVar 4)]) (eVar 0)))
  (sRaise "NoText")
  sNil)
  (sRet (eVar 4)))))))
def f_read : Df := ⟨"read", d_read, ["text"], ["text", "reader", "found", "name", "book"], ["found"], [], m_read⟩
abbrev s_law_cell : Stmt := top 22
def d_law_cell : He.DefD := ⟨("_law_cell", none), "_law_cell", "_law_cell", defArgs s_law_cell, defBody s_law_cell, defScope s_law_cell, [], []⟩
def m_law_cell (G : Tbl) : Ss :=
  (sSeq (sIf (eCmp .Lt (eVar 1) (eB1 .len (eVar 0)))
  (sRet (eIdx (eVar 0) (eVar 1)))
  sNil)
  (sRet (eC (.int 0))))
def f_law_cell : Df := ⟨"_law_cell", d_law_cell, ["script", "k"], ["script", "k"], [], [], m_law_cell⟩
abbrev s_law_mix : Stmt := top 23
def d_law_mix : He.DefD := ⟨("_law_mix", none), "_law_mix", "_law_mix", defArgs s_law_mix, defBody s_law_mix, defScope s_law_mix, [], []⟩
def m_law_mix (G : Tbl) : Ss :=
  (sSeq (sAsg false 3 (eBin .Mod (eBin .Mult (eVar 0) (eC (.int 48271))) (eVar 1)))
  (sRet (eBin .Mod (eBin .Mod (eBin .Mult (eVar 3) (eBin .Add (eVar 3) (eC (.int 7)))) (eVar 1)) (eVar 2))))
def f_law_mix : Df := ⟨"_law_mix", d_law_mix, ["cell", "prime", "many"], ["cell", "prime", "many", "blend"], [], [], m_law_mix⟩
abbrev s_law_same : Stmt := top 24
def d_law_same : He.DefD := ⟨("_law_same", none), "_law_same", "_law_same", defArgs s_law_same, defBody s_law_same, defScope s_law_same, [], []⟩
def m_law_same (G : Tbl) : Ss :=
  (sSeq (sIf (eTru (eIsi .tuple (eVar 1)))
  (sSeq (sIf (eOr (eNot (eTru (eIsi .tuple (eVar 0)))) (eCmp .NotEq (eB1 .len (eVar 0)) (eB1 .len (eVar 1))))
  (sRet (eC (.bl false)))
  sNil)
  (sRet (eB1 .all (eComp [2, 3] (.tup [2, 3]) (iTwo zipD (eVar 0) (eVar 1)) none (eCall G "_law_same" [.e (eVar 2), .e (eVar 3)])))))
  sNil)
  (sSeq (sIf (eCmp .Is (eVar 1) (eC .non))
  (sRet (eCmp .Is (eVar 0) (eC .non)))
  sNil)
  (sSeq (sIf (eOr (eTru (eIsi .bool (eVar 1))) (eTru (eIsi .bool (eVar 0))))
  (sRet (eAnd (eIsi .bool (eVar 1)) (eAnd (eIsi .bool (eVar 0)) (eCmp .Eq (eVar 0) (eVar 1)))))
  sNil)
  (sRet (eAnd (eIsi2 .int .str (eVar 0)) (eCmp .Eq (eVar 0) (eVar 1)))))))
def f_law_same : Df := ⟨"_law_same", d_law_same, ["found", "due"], ["found", "due", "one", "other"], [], [], m_law_same⟩
abbrev s_law_rule : Stmt := top 25
def d_law_rule : He.DefD := ⟨("_law_rule", none), "_law_rule", "_law_rule", defArgs s_law_rule, defBody s_law_rule, defScope s_law_rule, [], []⟩
def m_law_rule (G : Tbl) : Ss :=
  (sSeq (sAsg false 2 (eCall G "_law_mix" [.e (eVar 0), .e (eC (.int 9973)), .e (eC (.int 10))]))
  (sSeq (sIf (eOr (eCmp .Lt (eVar 2) (eC (.int 4))) (eCmp .Eq (eVar 1) (eC (.int 1))))
  (sSeq (sIf (eCmp .Eq (eCall G "_law_mix" [.e (eVar 0), .e (eC (.int 9967)), .e (eC (.int 7))]) (eC (.int 0)))
  (sRet (eTup [(eC (.str "worth")), (eCall G "_law_mix" [.e (eVar 0), .e (eC (.int 9949)), .e (eC (.int 3))])]))
  sNil)
  (sRet (eTup [(eC (.str "look")), (eIdx (eC (.str "abcABCDEabc")) (eCall G "_law_mix" [.e (eVar 0), .e (eC (.int 9941)), .e (eC (.int 11))]))])))
  sNil)
  (sSeq (sIf (eCmp .Lt (eVar 2) (eC (.int 7)))
  (sSeq (sAsg false 3 (eIdx (eTup [(eC (.str "plus")), (eC (.str "times")), (eC (.str "same")), (eC (.str "least")), (eC (.str "most"))]) (eCall G "_law_mix" [.e (eVar 0), .e (eC (.int 9931)), .e (eC (.int 5))])))
  (sRet (eTup [(eVar 3), (eCall G "_law_rule" [.e (eBin .Add (eVar 0) (eC (.int 3))), .e (eBin .Sub (eVar 1) (eC (.int 1)))]), (eCall G "_law_rule" [.e (eBin .Add (eVar 0) (eC (.int 5))), .e (eBin .Sub (eVar 1) (eC (.int 1)))])])))
  sNil)
  (sRet (eTup [(eC (.str "if")), (eCall G "_law_rule" [.e (eBin .Add (eVar 0) (eC (.int 7))), .e (eBin .Sub (eVar 1) (eC (.int 1)))]), (eCall G "_law_rule" [.e (eBin .Add (eVar 0) (eC (.int 11))), .e (eBin .Sub (eVar 1) (eC (.int 1)))]), (eCall G "_law_rule" [.e (eBin .Add (eVar 0) (eC (.int 13))), .e (eBin .Sub (eVar 1) (eC (.int 1)))])])))))
def f_law_rule : Df := ⟨"_law_rule", d_law_rule, ["cell", "deep"], ["cell", "deep", "way", "word"], [], [], m_law_rule⟩
abbrev s_law_book : Stmt := top 26
def d_law_book : He.DefD := ⟨("_law_book", none), "_law_book", "_law_book", defArgs s_law_book, defBody s_law_book, defScope s_law_book, [], []⟩
def m_law_book (G : Tbl) : Ss :=
  (sSeq (sAsg true 1 (eLst []))
  (sSeq (sFor (.tup [2, 3]) (iOneP enmD (eC (.str "ABCDE")))
  (sIf (eCmp .Gt (eCall G "_law_mix" [.e (eBin .Add (eVar 0) (eBin .Mult (eC (.int 17)) (eVar 2))), .e (eC (.int 9929)), .e (eC (.int 6))]) (eC (.int 0)))
  (sSeq (sAsg false 4 (eCall G "_law_rule" [.e (eBin .Add (eBin .Add (eVar 0) (eBin .Mult (eC (.int 31)) (eVar 2))) (eC (.int 1))), .e (eC (.int 4))]))
  (sSeq (sIf (eCmp .Gt (eCall G "_law_mix" [.e (eVar 0), .e (eC (.int 9923)), .e (eC (.int 3))]) (eC (.int 0)))
  (sAsg false 4 (eCall G "_law_later" [.e (eVar 4), .e (eVar 2)]))
  sNil)
  (sApp (eVar 1) (eTup [(eVar 3), (eVar 4)]))))
  sNil))
  (sRet (eB1 .tuple (eVar 1)))))
def f_law_book : Df := ⟨"_law_book", d_law_book, ["cell"], ["cell", "found", "k", "name", "rule"], ["found"], [], m_law_book⟩
abbrev s_law_later : Stmt := top 27
def d_law_later : He.DefD := ⟨("_law_later", none), "_law_later", "_law_later", defArgs s_law_later, defBody s_law_later, defScope s_law_later, [], []⟩
def m_law_later (G : Tbl) : Ss :=
  (sSeq (sIf (eAnd (eCmp .Eq (eIdx (eVar 0) (eC (.int 0))) (eC (.str "look"))) (eCmp .In (eIdx (eVar 0) (eC (.int 1))) (eC (.str "ABCDE"))))
  (sRet (eTup [(eC (.str "look")), (eIdx (eIdx (eTup [(eC (.str "BCDEa")), (eC (.str "CDEab")), (eC (.str "DEabc")), (eC (.str "Eabca")), (eC (.str "abcab"))]) (eVar 1)) (eM_index (eC (.str "ABCDE")) (eIdx (eVar 0) (eC (.int 1)))))]))
  sNil)
  (sRet (eBin .Add (eSlc (eVar 0) none (some (eC (.int 1)))) (eB1 .tuple (eComp [2] (.name 2) (iOne itemsD (eSlc (eVar 0) (some (eC (.int 1))) none)) none (eIf (eTru (eIsi .tuple (eVar 2))) (eCall G "_law_later" [.e (eVar 2), .e (eVar 1)]) (eVar 2)))))))
def f_law_later : Df := ⟨"_law_later", d_law_later, ["rule", "k"], ["rule", "k", "part"], [], [], m_law_later⟩
abbrev s_law_text : Stmt := top 28
def d_law_text : He.DefD := ⟨("_law_text", none), "_law_text", "_law_text", defArgs s_law_text, defBody s_law_text, defScope s_law_text, [], []⟩
def m_law_text (G : Tbl) : Ss :=
  (sSeq (sIf (eCmp .In (eIdx (eVar 0) (eC (.int 0))) (eTup [(eC (.str "worth")), (eC (.str "look"))]))
  (sRet (eB1 .str (eIdx (eVar 0) (eC (.int 1)))))
  sNil)
  (sSeq (sAsg false 1 (eComp [2] (.name 2) (iOne itemsD (eSlc (eVar 0) (some (eC (.int 1))) none)) none (eCall G "_law_text" [.e (eVar 2)])))
  (sSeq (sIf (eCmp .Eq (eIdx (eVar 0) (eC (.int 0))) (eC (.str "if")))
  (sRet (eBin .Add (eBin .Add (eBin .Add (eBin .Add (eBin .Add (eBin .Add (eC (.str "[")) (eIdx (eVar 1) (eC (.int 0)))) (eC (.str " ? "))) (eIdx (eVar 1) (eC (.int 1)))) (eC (.str " : "))) (eIdx (eVar 1) (eC (.int 2)))) (eC (.str "]"))))
  sNil)
  (sRet (eBin .Add (eBin .Add (eBin .Add (eBin .Add (eBin .Add (eBin .Add (eC (.str "(")) (eIdx (eVar 1) (eC (.int 0)))) (eC (.str " "))) (eIdx (eVar 0) (eC (.int 0)))) (eC (.str " "))) (eIdx (eVar 1) (eC (.int 1)))) (eC (.str ")")))))))
def f_law_text : Df := ⟨"_law_text", d_law_text, ["rule"], ["rule", "parts", "part"], [], [], m_law_text⟩
abbrev s_law_written : Stmt := top 29
def d_law_written : He.DefD := ⟨("_law_written", none), "_law_written", "_law_written", defArgs s_law_written, defBody s_law_written, defScope s_law_written, [], []⟩
def m_law_written (G : Tbl) : Ss :=
  (sSeq (sAsg false 1 (eC (.str "")))
  (sSeq (sFor (.tup [2, 3]) (iOneP itemsD (eVar 0))
  (sAsg false 1 (eBin .Add (eBin .Add (eBin .Add (eBin .Add (eVar 1) (eVar 2)) (eC (.str " = "))) (eCall G "_law_text" [.e (eVar 3)])) (eC (.str "\n")))))
  (sRet (eVar 1))))
def f_law_written : Df := ⟨"_law_written", d_law_written, ["book"], ["book", "found", "name", "rule"], [], [], m_law_written⟩
abbrev s_law_read : Stmt := top 30
def d_law_read : He.DefD := ⟨("_law_read", none), "_law_read", "_law_read", defArgs s_law_read, defBody s_law_read, defScope s_law_read, [], []⟩
def m_law_read (G : Tbl) : Ss :=
  (sTry ["LookError", "NoText"]
  (sRet (eCall G "read" [.e (eVar 0)]))
  (sRet (eC .non)))
def f_law_read : Df := ⟨"_law_read", d_law_read, ["text"], ["text"], [], [], m_law_read⟩
abbrev s_law : Stmt := top 31
def d_law : He.DefD := ⟨("law", none), "law", "law", defArgs s_law, defBody s_law, defScope s_law, [], []⟩
def m_law (G : Tbl) : Ss :=
  (sSeq (sFor (.name 1) (iOne rng1 (eC (.int 12)))
  (sSeq (sAsg false 2 (eCall G "_law_book" [.e (eBin .Add (eCall G "_law_cell" [.e (eVar 0), .e (eBin .Mod (eVar 1) (eC (.int 9)))]) (eBin .Mult (eC (.int 31)) (eVar 1)))]))
  (sSeq (sAsg false 3 (eCall G "_law_written" [.e (eVar 2)]))
  (sSeq (sIf (eNot (eTru (eCall G "_law_same" [.e (eCall G "written" [.e (eVar 2)]), .e (eVar 3)])))
  (sRet (eC (.bl false)))
  sNil)
  (sSeq (sFor (.name 4) (iOneP itemsD (eVar 2))
  (sIf (eAnd (eCmp .LtE (eB1 .len (eCall G "_law_written" [.e (eTup [(eVar 4)])])) (eC (.int 90))) (eNot (eTru (eCall G "_law_same" [.e (eCall G "_law_read" [.e (eCall G "_law_written" [.e (eTup [(eVar 4)])])]), .e (eTup [(eVar 4)])]))))
  (sRet (eC (.bl false)))
  sNil))
  (sIf (eAnd (eCmp .LtE (eB1 .len (eVar 3)) (eC (.int 90))) (eNot (eTru (eCall G "_law_same" [.e (eCall G "_law_read" [.e (eVar 3)]), .e (eVar 2)]))))
  (sRet (eC (.bl false)))
  sNil))))))
  (sSeq (sIf (eCmp .NotEq (eCall G "_law_read" [.e (eC (.str ""))]) (eTup []))
  (sRet (eC (.bl false)))
  sNil)
  (sSeq (sAsg false 2 (eTup [(eTup [(eC (.str "A")), (eTup [(eC (.str "if")), (eTup [(eC (.str "look")), (eC (.str "a"))]), (eTup [(eC (.str "worth")), (eC (.int 0))]), (eTup [(eC (.str "plus")), (eTup [(eC (.str "look")), (eC (.str "E"))]), (eTup [(eC (.str "worth")), (eC (.int 2))])])])])]))
  (sRet (eAnd (eCmp .Eq (eCall G "written" [.e (eVar 2)]) (eC (.str "A = [a ? 0 : (E plus 2)]\n"))) (eCmp .Eq (eCall G "_law_read" [.e (eC (.str "A = [a ? 0 : (E plus 2)]\n"))]) (eVar 2)))))))
def f_law : Df := ⟨"law", d_law, ["script"], ["script", "k", "book", "text", "entry"], [], [], m_law⟩
def ks : List (Str × Kc) := [("CELLS", (.str "abc")), ("ASKS", (.str "ABCDE")), ("TWO", (.tS ["plus", "times", "same", "least", "most"])), ("DEEPEST", (.int 4)), ("MOST_DEEP", (.int 5))]
def dfs : List Df := [f_rule_text, f_written, f_is_name, f_is_worth, f_is_rule_in, f_is_rule, f_is_entry, f_is_book, f_Reader___init, f_Reader_is_at_end, f_Reader_has, f_Reader_must, f_Reader_one_of, f_Reader_rule, f_read, f_law_cell, f_law_mix, f_law_same, f_law_rule, f_law_book, f_law_later, f_law_text, f_law_written, f_law_read, f_law]
def pg : Pg := ⟨ks, dfs, ["Reader"], [("Reader", "Reader.__init__", 2)], flD, ["LookError", "NoText"], [("LookError", ["LookError", "NoText"])]⟩
theorem pg_ok : pg.ok = true := by kernel_rfl
theorem ok_rule_text : DfOk pg.M f_rule_text := ⟨⟨rfl, rfl, rfl, by decide +kernel, rfl, by decide +kernel, by decide +kernel⟩, fun G => by kernel_rfl, fun _ _ _ _ _ _ us hl => match us, hl with | [_], _ => rfl, rfl, rfl⟩
theorem ok_written : DfOk pg.M f_written := ⟨⟨rfl, rfl, rfl, by decide +kernel, rfl, by decide +kernel, by decide +kernel⟩, fun G => by kernel_rfl, fun _ _ _ _ _ _ us hl => match us, hl with | [_], _ => rfl, rfl, rfl⟩
theorem ok_is_name : DfOk pg.M f_is_name := ⟨⟨rfl, rfl, rfl, by decide +kernel, rfl, by decide +kernel, by decide +kernel⟩, fun G => by kernel_rfl, fun _ _ _ _ _ _ us hl => match us, hl with | [_, _], _ => rfl, rfl, rfl⟩
theorem ok_is_worth : DfOk pg.M f_is_worth := ⟨⟨rfl, rfl, rfl, by decide +kernel, rfl, by decide +kernel, by decide +kernel⟩, fun G => by kernel_rfl, fun _ _ _ _ _ _ us hl => match us, hl with | [_], _ => rfl, rfl, rfl⟩
theorem ok_is_rule_in : DfOk pg.M f_is_rule_in := ⟨⟨rfl, rfl, rfl, by decide +kernel, rfl, by decide +kernel, by decide +kernel⟩, fun G => by kernel_rfl, fun _ _ _ _ _ _ us hl => match us, hl with | [_, _], _ => rfl, rfl, rfl⟩
theorem ok_is_rule : DfOk pg.M f_is_rule := ⟨⟨rfl, rfl, rfl, by decide +kernel, rfl, by decide +kernel, by decide +kernel⟩, fun G => by kernel_rfl, fun _ _ _ _ _ _ us hl => match us, hl with | [_], _ => rfl, rfl, rfl⟩
theorem ok_is_entry : DfOk pg.M f_is_entry := ⟨⟨rfl, rfl, rfl, by decide +kernel, rfl, by decide +kernel, by decide +kernel⟩, fun G => by kernel_rfl, fun _ _ _ _ _ _ us hl => match us, hl with | [_], _ => rfl, rfl, rfl⟩
theorem ok_is_book : DfOk pg.M f_is_book := ⟨⟨rfl, rfl, rfl, by decide +kernel, rfl, by decide +kernel, by decide +kernel⟩, fun G => by kernel_rfl, fun _ _ _ _ _ _ us hl => match us, hl with | [_], _ => rfl, rfl, rfl⟩
theorem ok_Reader___init : DfOk pg.M f_Reader___init := ⟨⟨rfl, rfl, rfl, by decide +kernel, rfl, by decide +kernel, by decide +kernel⟩, fun G => by kernel_rfl, fun _ _ _ _ _ _ us hl => match us, hl with | [_, _], _ => rfl, rfl, rfl⟩
theorem ok_Reader_is_at_end : DfOk pg.M f_Reader_is_at_end := ⟨⟨rfl, rfl, rfl, by decide +kernel, rfl, by decide +kernel, by decide +kernel⟩, fun G => by kernel_rfl, fun _ _ _ _ _ _ us hl => match us, hl with | [_], _ => rfl, rfl, rfl⟩
theorem ok_Reader_has : DfOk pg.M f_Reader_has := ⟨⟨rfl, rfl, rfl, by decide +kernel, rfl, by decide +kernel, by decide +kernel⟩, fun G => by kernel_rfl, fun _ _ _ _ _ _ us hl => match us, hl with | [_, _], _ => rfl, rfl, rfl⟩
theorem ok_Reader_must : DfOk pg.M f_Reader_must := ⟨⟨rfl, rfl, rfl, by decide +kernel, rfl, by decide +kernel, by decide +kernel⟩, fun G => by kernel_rfl, fun _ _ _ _ _ _ us hl => match us, hl with | [_, _], _ => rfl, rfl, rfl⟩
theorem ok_Reader_one_of : DfOk pg.M f_Reader_one_of := ⟨⟨rfl, rfl, rfl, by decide +kernel, rfl, by decide +kernel, by decide +kernel⟩, fun G => by kernel_rfl, fun _ _ _ _ _ _ us hl => match us, hl with | [_, _], _ => rfl, rfl, rfl⟩
theorem ok_Reader_rule : DfOk pg.M f_Reader_rule := ⟨⟨rfl, rfl, rfl, by decide +kernel, rfl, by decide +kernel, by decide +kernel⟩, fun G => by kernel_rfl, fun _ _ _ _ _ _ us hl => match us, hl with | [_, _], _ => rfl, rfl, rfl⟩
theorem ok_read : DfOk pg.M f_read := ⟨⟨rfl, rfl, rfl, by decide +kernel, rfl, by decide +kernel, by decide +kernel⟩, fun G => by kernel_rfl, fun _ _ _ _ _ _ us hl => match us, hl with | [_], _ => rfl, rfl, rfl⟩
theorem ok_law_cell : DfOk pg.M f_law_cell := ⟨⟨rfl, rfl, rfl, by decide +kernel, rfl, by decide +kernel, by decide +kernel⟩, fun G => by kernel_rfl, fun _ _ _ _ _ _ us hl => match us, hl with | [_, _], _ => rfl, rfl, rfl⟩
theorem ok_law_mix : DfOk pg.M f_law_mix := ⟨⟨rfl, rfl, rfl, by decide +kernel, rfl, by decide +kernel, by decide +kernel⟩, fun G => by kernel_rfl, fun _ _ _ _ _ _ us hl => match us, hl with | [_, _, _], _ => rfl, rfl, rfl⟩
theorem ok_law_same : DfOk pg.M f_law_same := ⟨⟨rfl, rfl, rfl, by decide +kernel, rfl, by decide +kernel, by decide +kernel⟩, fun G => by kernel_rfl, fun _ _ _ _ _ _ us hl => match us, hl with | [_, _], _ => rfl, rfl, rfl⟩
theorem ok_law_rule : DfOk pg.M f_law_rule := ⟨⟨rfl, rfl, rfl, by decide +kernel, rfl, by decide +kernel, by decide +kernel⟩, fun G => by kernel_rfl, fun _ _ _ _ _ _ us hl => match us, hl with | [_, _], _ => rfl, rfl, rfl⟩
theorem ok_law_book : DfOk pg.M f_law_book := ⟨⟨rfl, rfl, rfl, by decide +kernel, rfl, by decide +kernel, by decide +kernel⟩, fun G => by kernel_rfl, fun _ _ _ _ _ _ us hl => match us, hl with | [_], _ => rfl, rfl, rfl⟩
theorem ok_law_later : DfOk pg.M f_law_later := ⟨⟨rfl, rfl, rfl, by decide +kernel, rfl, by decide +kernel, by decide +kernel⟩, fun G => by kernel_rfl, fun _ _ _ _ _ _ us hl => match us, hl with | [_, _], _ => rfl, rfl, rfl⟩
theorem ok_law_text : DfOk pg.M f_law_text := ⟨⟨rfl, rfl, rfl, by decide +kernel, rfl, by decide +kernel, by decide +kernel⟩, fun G => by kernel_rfl, fun _ _ _ _ _ _ us hl => match us, hl with | [_], _ => rfl, rfl, rfl⟩
theorem ok_law_written : DfOk pg.M f_law_written := ⟨⟨rfl, rfl, rfl, by decide +kernel, rfl, by decide +kernel, by decide +kernel⟩, fun G => by kernel_rfl, fun _ _ _ _ _ _ us hl => match us, hl with | [_], _ => rfl, rfl, rfl⟩
theorem ok_law_read : DfOk pg.M f_law_read := ⟨⟨rfl, rfl, rfl, by decide +kernel, rfl, by decide +kernel, by decide +kernel⟩, fun G => by kernel_rfl, fun _ _ _ _ _ _ us hl => match us, hl with | [_], _ => rfl, rfl, rfl⟩
theorem ok_law : DfOk pg.M f_law := ⟨⟨rfl, rfl, rfl, by decide +kernel, rfl, by decide +kernel, by decide +kernel⟩, fun G => by kernel_rfl, fun _ _ _ _ _ _ us hl => match us, hl with | [_], _ => rfl, rfl, rfl⟩
theorem t_rule_text (k : Nat) (ds : List D) (st : Sto) : tbl dfs (k + 1) "rule_text" ds st = fnR 4 (m_rule_text (tbl dfs k)) ds st := by kernel_rfl
theorem t_written (k : Nat) (ds : List D) (st : Sto) : tbl dfs (k + 1) "written" ds st = fnR 3 (m_written (tbl dfs k)) ds st := by kernel_rfl
theorem t_is_name (k : Nat) (ds : List D) (st : Sto) : tbl dfs (k + 1) "is_name" ds st = fnR 2 (m_is_name (tbl dfs k)) ds st := by kernel_rfl
theorem t_is_worth (k : Nat) (ds : List D) (st : Sto) : tbl dfs (k + 1) "is_worth" ds st = fnR 1 (m_is_worth (tbl dfs k)) ds st := by kernel_rfl
theorem t_is_rule_in (k : Nat) (ds : List D) (st : Sto) : tbl dfs (k + 1) "is_rule_in" ds st = fnR 5 (m_is_rule_in (tbl dfs k)) ds st := by kernel_rfl
theorem t_is_rule (k : Nat) (ds : List D) (st : Sto) : tbl dfs (k + 1) "is_rule" ds st = fnR 1 (m_is_rule (tbl dfs k)) ds st := by kernel_rfl
theorem t_is_entry (k : Nat) (ds : List D) (st : Sto) : tbl dfs (k + 1) "is_entry" ds st = fnR 1 (m_is_entry (tbl dfs k)) ds st := by kernel_rfl
theorem t_is_book (k : Nat) (ds : List D) (st : Sto) : tbl dfs (k + 1) "is_book" ds st = fnR 3 (m_is_book (tbl dfs k)) ds st := by kernel_rfl
theorem t_Reader___init (k : Nat) (ds : List D) (st : Sto) : tbl dfs (k + 1) "Reader.__init__" ds st = fnR 2 (m_Reader___init (tbl dfs k)) ds st := by kernel_rfl
theorem t_Reader_is_at_end (k : Nat) (ds : List D) (st : Sto) : tbl dfs (k + 1) "Reader.is_at_end" ds st = fnR 1 (m_Reader_is_at_end (tbl dfs k)) ds st := by kernel_rfl
theorem t_Reader_has (k : Nat) (ds : List D) (st : Sto) : tbl dfs (k + 1) "Reader.has" ds st = fnR 2 (m_Reader_has (tbl dfs k)) ds st := by kernel_rfl
theorem t_Reader_must (k : Nat) (ds : List D) (st : Sto) : tbl dfs (k + 1) "Reader.must" ds st = fnR 2 (m_Reader_must (tbl dfs k)) ds st := by kernel_rfl
theorem t_Reader_one_of (k : Nat) (ds : List D) (st : Sto) : tbl dfs (k + 1) "Reader.one_of" ds st = fnR 3 (m_Reader_one_of (tbl dfs k)) ds st := by kernel_rfl
theorem t_Reader_rule (k : Nat) (ds : List D) (st : Sto) : tbl dfs (k + 1) "Reader.rule" ds st = fnR 7 (m_Reader_rule (tbl dfs k)) ds st := by kernel_rfl
theorem t_read (k : Nat) (ds : List D) (st : Sto) : tbl dfs (k + 1) "read" ds st = fnR 5 (m_read (tbl dfs k)) ds st := by kernel_rfl
theorem t_law_cell (k : Nat) (ds : List D) (st : Sto) : tbl dfs (k + 1) "_law_cell" ds st = fnR 2 (m_law_cell (tbl dfs k)) ds st := by kernel_rfl
theorem t_law_mix (k : Nat) (ds : List D) (st : Sto) : tbl dfs (k + 1) "_law_mix" ds st = fnR 4 (m_law_mix (tbl dfs k)) ds st := by kernel_rfl
theorem t_law_same (k : Nat) (ds : List D) (st : Sto) : tbl dfs (k + 1) "_law_same" ds st = fnR 4 (m_law_same (tbl dfs k)) ds st := by kernel_rfl
theorem t_law_rule (k : Nat) (ds : List D) (st : Sto) : tbl dfs (k + 1) "_law_rule" ds st = fnR 4 (m_law_rule (tbl dfs k)) ds st := by kernel_rfl
theorem t_law_book (k : Nat) (ds : List D) (st : Sto) : tbl dfs (k + 1) "_law_book" ds st = fnR 5 (m_law_book (tbl dfs k)) ds st := by kernel_rfl
theorem t_law_later (k : Nat) (ds : List D) (st : Sto) : tbl dfs (k + 1) "_law_later" ds st = fnR 3 (m_law_later (tbl dfs k)) ds st := by kernel_rfl
theorem t_law_text (k : Nat) (ds : List D) (st : Sto) : tbl dfs (k + 1) "_law_text" ds st = fnR 3 (m_law_text (tbl dfs k)) ds st := by kernel_rfl
theorem t_law_written (k : Nat) (ds : List D) (st : Sto) : tbl dfs (k + 1) "_law_written" ds st = fnR 4 (m_law_written (tbl dfs k)) ds st := by kernel_rfl
theorem t_law_read (k : Nat) (ds : List D) (st : Sto) : tbl dfs (k + 1) "_law_read" ds st = fnR 1 (m_law_read (tbl dfs k)) ds st := by kernel_rfl
theorem t_law (k : Nat) (ds : List D) (st : Sto) : tbl dfs (k + 1) "law" ds st = fnR 5 (m_law (tbl dfs k)) ds st := by kernel_rfl
theorem ok_all : ∀ df ∈ pg.dfs, DfOk pg.M df := by
  intro df h
  change df ∈ dfs at h
  simp only [dfs, List.mem_cons, List.not_mem_nil, or_false] at h
  rcases h with rfl | rfl | rfl | rfl | rfl | rfl | rfl | rfl | rfl | rfl | rfl | rfl | rfl | rfl | rfl | rfl | rfl | rfl | rfl | rfl | rfl | rfl | rfl | rfl | rfl
  · exact ok_rule_text
  · exact ok_written
  · exact ok_is_name
  · exact ok_is_worth
  · exact ok_is_rule_in
  · exact ok_is_rule
  · exact ok_is_entry
  · exact ok_is_book
  · exact ok_Reader___init
  · exact ok_Reader_is_at_end
  · exact ok_Reader_has
  · exact ok_Reader_must
  · exact ok_Reader_one_of
  · exact ok_Reader_rule
  · exact ok_read
  · exact ok_law_cell
  · exact ok_law_mix
  · exact ok_law_same
  · exact ok_law_rule
  · exact ok_law_book
  · exact ok_law_later
  · exact ok_law_text
  · exact ok_law_written
  · exact ok_law_read
  · exact ok_law
end KW
namespace KW
open PySem L2 KL

/-! ### fine data -/
def fineD (L : Nat) : Nat → D → Bool
  | _, .non => true
  | _, .bl _ => true
  | _, .int _ => true
  | _, .str x => decide (x.length ≤ L) && PyData.strOk x
  | n + 1, .tup ds => decide (ds.length ≤ L) && ds.all (fineD L n)
  | n + 1, .lst ds => decide (ds.length ≤ L) && ds.all (fineD L n)
  | _, _ => false
theorem fine_tup {L n : Nat} {ds : List D} (h : fineD L n (.tup ds) = true) : ∃ m, n = m + 1 ∧ ds.length ≤ L ∧ ∀ d ∈ ds, fineD L m d = true := by
  cases n with
  | zero => cases h
  | succ m =>
    simp only [fineD, Bool.and_eq_true, decide_eq_true_eq, List.all_eq_true] at h
    exact ⟨m, rfl, h.1, h.2⟩
theorem fine_lst {L n : Nat} {ds : List D} (h : fineD L n (.lst ds) = true) : ∃ m, n = m + 1 ∧ ds.length ≤ L ∧ ∀ d ∈ ds, fineD L m d = true := by
  cases n with
  | zero => cases h
  | succ m =>
    simp only [fineD, Bool.and_eq_true, decide_eq_true_eq, List.all_eq_true] at h
    exact ⟨m, rfl, h.1, h.2⟩
theorem fine_str {L n : Nat} {x : Str} (h : fineD L n (.str x) = true) : x.length ≤ L ∧ PyData.strOk x = true := by
  cases n <;> simpa [fineD] using h
theorem fine_loc {L n k : Nat} : fineD L n (.loc k) = false := by cases n <;> rfl
theorem fine_scr {L n : Nat} {ns : List Int} : fineD L n (.scr ns) = false := by cases n <;> rfl
theorem fine_clo {L n t : Nat} {cs : List D} : fineD L n (.clo t cs) = false := by cases n <;> rfl
theorem fine_raw {L n : Nat} {cs : List D} : fineD L n (.raw cs) = false := by cases n <;> rfl
theorem fine_cell {L n : Nat} {d : D} (h : fineD L n d = true) : cellD d = .val d := by
  cases d with
  | clo t cs => rw [fine_clo] at h; cases h
  | _ => rfl
theorem fine_view {L n : Nat} {d : D} (h : fineD L n d = true) (rh : Rho) (st : Sto) : view rh st (.d d) = some d := by
  cases d with
  | loc k => rw [fine_loc] at h; cases h
  | _ => rfl
theorem fine_py {L : Nat} : ∀ {n : Nat} {d : D}, fineD L n d = true → ∃ p, toPy d = some p ∧ p.canLay0 = true ∧ p.depth ≤ n + 1
  | n, .non, _ => ⟨_, rfl, rfl, by simp [PyData.depth]⟩
  | n, .bl b, _ => ⟨_, rfl, rfl, by simp [PyData.depth]⟩
  | n, .int i, _ => ⟨_, rfl, rfl, by simp [PyData.depth]⟩
  | n, .str x, h => ⟨_, rfl, by have := (fine_str h).2; simpa [PyData.canLay0] using this, by simp [PyData.depth]⟩
  | 0, .tup ds, h => by cases h
  | 0, .lst ds, h => by cases h
  | n, .loc k, h => by rw [fine_loc] at h; cases h
  | n, .scr k, h => by rw [fine_scr] at h; cases h
  | n, .clo k _, h => by rw [fine_clo] at h; cases h
  | n, .raw k, h => by rw [fine_raw] at h; cases h
  | n + 1, .tup ds, h => by
    obtain ⟨m, e, h1, h2⟩ := fine_tup h
    cases e
    have key : ∀ es : List D, (∀ d ∈ es, fineD L n d = true) → ∃ ps, toPys es = some ps ∧ PyData.canLayAll0 ps = true ∧ PyData.depthAll ps ≤ n + 1 := by
      intro es
      induction es with
      | nil => intro _; exact ⟨[], rfl, rfl, by simp [PyData.depthAll]⟩
      | cons d es ih =>
        intro hd
        obtain ⟨p, q1, q2, q3⟩ := fine_py (hd d List.mem_cons_self)
        obtain ⟨ps, r1, r2, r3⟩ := ih fun d' hd' => hd d' (List.mem_cons_of_mem _ hd')
        refine ⟨p :: ps, by simp [toPys, q1, r1], by simp [PyData.canLayAll0, q2, r2], by simp [PyData.depthAll]; omega⟩
    obtain ⟨ps, r1, r2, r3⟩ := key ds h2
    exact ⟨.tuple ps, by simp [toPy, r1], by simpa [PyData.canLay0] using r2, by simp [PyData.depth]; omega⟩
  | n + 1, .lst ds, h => by
    obtain ⟨m, e, h1, h2⟩ := fine_lst h
    cases e
    have key : ∀ es : List D, (∀ d ∈ es, fineD L n d = true) → ∃ ps, toPys es = some ps ∧ PyData.canLayAll0 ps = true ∧ PyData.depthAll ps ≤ n + 1 := by
      intro es
      induction es with
      | nil => intro _; exact ⟨[], rfl, rfl, by simp [PyData.depthAll]⟩
      | cons d es ih =>
        intro hd
        obtain ⟨p, q1, q2, q3⟩ := fine_py (hd d List.mem_cons_self)
        obtain ⟨ps, r1, r2, r3⟩ := ih fun d' hd' => hd d' (List.mem_cons_of_mem _ hd')
        refine ⟨p :: ps, by simp [toPys, q1, r1], by simp [PyData.canLayAll0, q2, r2], by simp [PyData.depthAll]; omega⟩
    obtain ⟨ps, r1, r2, r3⟩ := key ds h2
    exact ⟨.list ps, by simp [toPy, r1], by simpa [PyData.canLay0] using r2, by simp [PyData.depth]; omega⟩
theorem eq_nil_lst {st : Sto} {L n : Nat} {ds : List D} (h : fineD L n (.lst ds) = true) (hn : n ≤ 40) : cmpD st .Eq (.lst ds) (.lst []) = some ds.isEmpty := by
  obtain ⟨p, h1, h2, h3⟩ := fine_py h
  have e : cmpD st .Eq (.lst ds) (.lst []) = eqG (.lst ds) (.lst []) := rfl
  rw [e]
  unfold eqG
  rw [h1]
  have s1 : SeqAt.shaped p = true := by simp [SeqAt.shaped, h2]; omega
  have s2 : SeqAt.shaped (.list []) = true := by decide +kernel
  have e2 : toPy (.lst []) = some (.list []) := rfl
  rw [e2]
  simp only [Option.bind_some, s1, s2, Bool.and_self, if_true]
  have : ∃ ps, toPys ds = some ps ∧ p = .list ps := by
    simp only [toPy, Option.map_eq_some_iff] at h1
    obtain ⟨ps, q1, q2⟩ := h1
    exact ⟨ps, q1, q2.symm⟩
  obtain ⟨ps, q1, rfl⟩ := this
  cases ds with
  | nil => cases q1; rfl
  | cons d ds =>
    simp only [toPys, Option.bind_eq_some_iff, Option.map_eq_some_iff] at q1
    obtain ⟨a, _, b, _, rfl⟩ := q1
    simp [PyData.eqv, PyData.eqvAll]
theorem ne_nil_tup {st : Sto} {L n : Nat} {ds : List D} (h : fineD L n (.tup ds) = true) (hn : n ≤ 40) : cmpD st .NotEq (.tup ds) (.tup []) = some (!ds.isEmpty) := by
  obtain ⟨p, h1, h2, h3⟩ := fine_py h
  have e : cmpD st .NotEq (.tup ds) (.tup []) = (eqG (.tup ds) (.tup [])).map (!·) := rfl
  rw [e]
  unfold eqG
  rw [h1]
  have s1 : SeqAt.shaped p = true := by simp [SeqAt.shaped, h2]; omega
  have s2 : SeqAt.shaped (.tuple []) = true := by decide +kernel
  have e2 : toPy (.tup []) = some (.tuple []) := rfl
  rw [e2]
  simp only [Option.bind_some, s1, s2, Bool.and_self, if_true]
  have : ∃ ps, toPys ds = some ps ∧ p = .tuple ps := by
    simp only [toPy, Option.map_eq_some_iff] at h1
    obtain ⟨ps, q1, q2⟩ := h1
    exact ⟨ps, q1, q2.symm⟩
  obtain ⟨ps, q1, rfl⟩ := this
  cases ds with
  | nil => cases q1; rfl
  | cons d ds =>
    simp only [toPys, Option.bind_eq_some_iff, Option.map_eq_some_iff] at q1
    obtain ⟨a, _, b, _, rfl⟩ := q1
    simp [PyData.eqv, PyData.eqvAll]

/-! ### names and worths -/
def isW : D → Bool
  | .int i => decide (0 ≤ i) && decide (i ≤ 2)
  | _ => false
def isN (ns : Str) : D → Bool
  | .str x => (match x.cps.toList with
    | [c] => decide (c ∈ ns.cps.toList)
    | _ => false)
  | _ => false
theorem len_cps (x : Str) : x.length = x.cps.toList.length := by simp [Str.length]
theorem short {x : Str} {L : Nat} (h : x.length ≤ L) (hL : L ≤ 1000000 := by decide) : x.length ≤ sizeLine := by rw [sizeLine_eq]; omega
theorem in_one {st : Sto} {x ns : Str} {c : Nat} (h : x.cps.toList = [c]) : inD st (.str x) (.str ns) = some (decide (c ∈ ns.cps.toList)) := by
  simp only [inD, h]
theorem r_worth (k : Nat) (d : D) (st : Sto) {L n : Nat} (h : fineD L n d = true) : tbl dfs (k + 1) "is_worth" [d] st = .ok (.bl (isW d)) st := by
  rw [t_is_worth]
  cases d with
  | loc k => rw [fine_loc] at h; cases h
  | scr k => rw [fine_scr] at h; cases h
  | clo t cs => rw [fine_clo] at h; cases h
  | raw ds => rw [fine_raw] at h; cases h
  | int i =>
    simp only [fnR, rho0, m_is_worth, isW]
    simp [onR_ite, fin_ite]
    by_cases h1 : 0 ≤ i <;> simp [h1]
  | _ => simp [fnR, rho0, m_is_worth, isW]
theorem r_name (k : Nat) (d : D) (ns : Str) (st : Sto) {L n : Nat} (h : fineD L n d = true) (hL : L ≤ 1000000 := by decide) : tbl dfs (k + 1) "is_name" [d, .str ns] st = .ok (.bl (isN ns d)) st := by
  rw [t_is_name]
  cases d with
  | loc k => rw [fine_loc] at h; cases h
  | scr k => rw [fine_scr] at h; cases h
  | clo t cs => rw [fine_clo] at h; cases h
  | raw ds => rw [fine_raw] at h; cases h
  | str x =>
    have e := short (fine_str h).1 hL
    simp [fnR, rho0, m_is_name, len_str e, onR_ite, fin_ite, isN]
    rcases hx : x.cps.toList with _ | ⟨c, _ | ⟨c2, r⟩⟩
    · have : x.length = 0 := by rw [len_cps, hx]; rfl
      simp [this]
    · have : x.length = 1 := by rw [len_cps, hx]; rfl
      simp [this, in_one hx]
    · have : x.length = r.length + 2 := by rw [len_cps, hx]; simp
      rw [this, if_neg (by omega)]
  | _ => simp [fnR, rho0, m_is_name, isN]
end KW

namespace KW
open PySem L2 KL

/-! ### rules -/
def isTwo (w : Str) : Bool := decide (w = "plus") || decide (w = "times") || decide (w = "same") || decide (w = "least") || decide (w = "most")
def okR : Nat → D → Bool
  | 0, _ => false
  | n + 1, .tup (.str w :: r :: rs) =>
    if w = "worth" then rs.isEmpty && isW r
    else if w = "look" then rs.isEmpty && isN "abcABCDE" r
    else if w = "if" then decide (rs.length = 2) && (r :: rs).all (okR n)
    else isTwo w && (decide (rs.length = 1) && (r :: rs).all (okR n))
  | _ + 1, _ => false
theorem okR_nstr {n : Nat} {a : D} {ds : List D} (h : ∀ w, a ≠ .str w) : okR n (.tup (a :: ds)) = false := by
  cases n with
  | zero => rfl
  | succ n =>
    cases a with
    | str w => exact absurd rfl (h w)
    | _ => cases ds <;> rfl
theorem sz {n : Nat} (h : n ≤ 1000) : n ≤ sizeLine := by rw [sizeLine_eq]; omega
theorem all_cons_map (f : D → Bool) (b : D) (rs : List D) : allD (.lst (.bl (f b) :: rs.map fun d => .bl (f d))) = some (.bl (f b && rs.all f)) := all_map f (b :: rs)
theorem bq (a w : Str) : (a == w) = decide (w = a) := by
  rw [Bool.eq_iff_iff, beq_iff_eq, decide_eq_true_eq]
  exact eq_comm
theorem in_two {st : Sto} (w : Str) : inD st (.str w) (.tup [.str "plus", .str "times", .str "same", .str "least", .str "most"]) = some (isTwo w) := by
  simp only [inD, flatD, eqF, isTwo, List.all_cons, List.all_nil, List.any_cons, List.any_nil, Bool.and_self, if_true, bq, Bool.or_false, Bool.or_assoc]
theorem in_six {st : Sto} (w : Str) : inD st (.str w) (.tup [.str "if", .str "plus", .str "times", .str "same", .str "least", .str "most"]) = some (decide (w = "if") || isTwo w) := by
  simp only [inD, flatD, eqF, isTwo, List.all_cons, List.all_nil, List.any_cons, List.any_nil, Bool.and_self, if_true, bq, Bool.or_false, Bool.or_assoc]
theorem in_012 {st : Sto} (i : Int) : inD st (.int i) (.tup [.int 0, .int 1, .int 2]) = some (decide (0 ≤ i) && decide (i ≤ 2)) := by
  simp only [inD, flatD, eqF, List.all_cons, List.all_nil, List.any_cons, List.any_nil, Bool.and_self, if_true]
  congr 1
  rw [Bool.eq_iff_iff]
  simp
  omega
theorem wl : ("look" : Str) ≠ "worth" := by decide
theorem fw : ("if" : Str) ≠ "worth" := by decide
theorem fl : ("if" : Str) ≠ "look" := by decide
theorem cells : ("abc" : Str) ++ ("ABCDE" : Str) = "abcABCDE" := by decide
theorem r_rule_in (st : Sto) : ∀ (n k : Nat) (d : D) {L m : Nat}, fineD L m d = true → L ≤ 1000 → ∀ i : Int, i = n → tbl dfs (k + n + 2) "is_rule_in" [d, .int i] st = .ok (.bl (okR n d)) st
  | n, k, d, L, m, hd, hL, i, hi => by
    rw [show k + n + 2 = (k + n + 1) + 1 from rfl, t_is_rule_in]
    cases d with
    | loc k => rw [fine_loc] at hd; cases hd
    | scr k => rw [fine_scr] at hd; cases hd
    | clo t cs => rw [fine_clo] at hd; cases hd
    | raw ds => rw [fine_raw] at hd; cases hd
    | tup ds =>
      obtain ⟨m', rfl, hl, hs⟩ := fine_tup hd
      rcases ds with _ | ⟨a, _ | ⟨b, rs⟩⟩
      · simp [fnR, rho0, m_is_rule_in]
        cases n <;> rfl
      · simp [fnR, rho0, m_is_rule_in]
        cases n <;> cases a <;> rfl
      · have ha := hs a (by simp)
        have hb := hs b (by simp)
        have hlt : ¬ ((rs.length : Int) + 1 + 1 < 2) := by omega
        by_cases hw : ∃ w, a = .str w
        · obtain ⟨w, rfl⟩ := hw
          cases n with
          | zero =>
            have : i = 0 := by omega
            subst this
            simp [fnR, rho0, m_is_rule_in, hlt, onR_ite, onN_ite, fin_ite]
            rfl
          | succ n =>
            have hi0 : i ≠ 0 := by omega
            have hi1 : i - 1 = n := by omega
            have hlen : ((b :: rs).length : Int) = rs.length + 1 := by simp
            have comp : cLoop (.name 4) none (eCall (tbl dfs (k + (n + 1) + 1)) "is_rule_in" [.e (eVar 4), .e (eBin .Sub (eVar 1) (eC (.int 1)))]) [some (.val (.tup (.str w :: b :: rs))), some (.val (.int i)), some (.val (.str w)), some (.val (.tup (b :: rs))), none] (b :: rs) st = .ok ((b :: rs).map fun d => .bl (okR n d)) st := by
              refine cLoop_map _ _ fun d hdm => ⟨_, rfl, ?_⟩
              have q := r_rule_in st n (k) d (hs d (List.mem_cons_of_mem _ hdm)) hL (i - 1) hi1
              simp [cElt, show k + (n + 1) + 1 = k + n + 2 by omega, q]
            have hsz : (b :: rs).length ≤ sizeLine := sz (by simp at hl ⊢; omega)
            have hsz2 : rs.length + 1 ≤ sizeLine := by simpa using hsz
            by_cases h1 : w = "worth"
            · subst h1
              have q := r_worth (k + n + 1) b st hb
              simp [fnR, rho0, m_is_rule_in, hlt, hi0, onR_ite, onN_ite, fin_ite, okR]
              cases rs with
              | nil => simp [show k + (n + 1) + 1 = k + n + 1 + 1 by omega, q]
              | cons r rs => simp; omega
            · by_cases h2 : w = "look"
              · subst h2
                have q := r_name (k + n + 1) b "abcABCDE" st hb (by omega)
                simp [fnR, rho0, m_is_rule_in, hlt, hi0, onR_ite, onN_ite, fin_ite, okR, wl, Kc.d, bin_add_str, cells]
                cases rs with
                | nil =>
                  have e : binD .Add (.str "abc") (.str "ABCDE") = some (.d (.str "abcABCDE")) := by rw [bin_add_str (by decide), cells]
                  simp [show k + (n + 1) + 1 = k + n + 1 + 1 by omega, q, e]
                | cons r rs => simp; omega
              · have two := in_two (st := st) w
                by_cases h3 : w = "if"
                · subst h3
                  simp [fnR, rho0, m_is_rule_in, hlt, hi0, onR_ite, onN_ite, fin_ite, okR, fw, fl, Kc.d, comp, hsz2, all_cons_map]
                  by_cases h4 : rs.length = 2
                  · rw [if_pos (by omega)]; simp [h4]
                  · rw [if_neg (by omega)]; simp [h4]
                · simp [fnR, rho0, m_is_rule_in, hlt, hi0, onR_ite, onN_ite, fin_ite, okR, h1, h2, h3, Kc.d, two, comp, hsz2, all_cons_map]
                  cases h5 : isTwo w
                  · simp
                  · by_cases h4 : rs.length = 1
                    · simp [h4]
                    · have h6 : ¬ ((rs.length : Int) + 1 = 2) := by omega
                      simp [h4, h6]
        · have ns : ∀ w, a ≠ .str w := fun w e => hw ⟨w, e⟩
          rw [okR_nstr ns]
          have e : isi .str a = some false := by
            cases a with
            | str w => exact absurd rfl (ns w)
            | loc k => rw [fine_loc] at ha; cases ha
            | scr k => rw [fine_scr] at ha; cases ha
            | clo t cs => rw [fine_clo] at ha; cases ha
            | raw ds => rw [fine_raw] at ha; cases ha
            | _ => rfl
          have v := fine_view ha
          simp [fnR, rho0, m_is_rule_in, hlt, e, v]
    | _ =>
      simp [fnR, rho0, m_is_rule_in]
      cases n <;> rfl
theorem r_rule (k : Nat) (d : D) (st : Sto) {L m : Nat} (hd : fineD L m d = true) (hL : L ≤ 1000) : tbl dfs (k + 7) "is_rule" [d] st = .ok (.bl (okR 4 d)) st := by
  rw [show k + 7 = (k + 6) + 1 from rfl, t_is_rule]
  have q := r_rule_in st 4 k d hd hL 4 rfl
  simp [fnR, rho0, m_is_rule, fine_cell hd, Kc.d, show k + 6 = k + 4 + 2 from rfl, q]
end KW

namespace KW
open PySem L2 KL KU

/-! ### books -/
def okE : D → Bool
  | .tup [a, r] => isN "ABCDE" a && okR 4 r
  | _ => false
def nm : D → Str
  | .tup (.str x :: _) => x
  | _ => Str.empty
def chn : List Str → Bool
  | a :: b :: r => decide (ltS a b) && chn (b :: r)
  | _ => true
def okB : D → Bool
  | .tup ds => ds.all okE && chn (ds.map nm)
  | _ => false
def stAt (xs : List Str) (i : Nat) : Str := xs.getD i Str.empty
theorem chn_pw : ∀ {l : List Str}, chn l = true ↔ l.Pairwise ltS
  | [] => by simp [chn]
  | [a] => by simp [chn]
  | a :: b :: r => by
    unfold chn
    rw [Bool.and_eq_true, decide_eq_true_eq, chn_pw, List.pairwise_cons (a := a)]
    constructor
    · rintro ⟨h1, h2⟩
      refine ⟨fun x hx => ?_, h2⟩
      rcases List.mem_cons.mp hx with e | e
      · rw [e]; exact h1
      · exact ltS_trans h1 ((List.pairwise_cons.mp h2).1 x e)
    · rintro ⟨h1, h2⟩
      exact ⟨h1 b List.mem_cons_self, h2⟩
theorem chn_rng (xs : List Str) : ((List.range (xs.length - 1)).all fun i => decide (ltS (stAt xs i) (stAt xs (i + 1)))) = chn xs := by
  induction xs with
  | nil => rfl
  | cons a r ih =>
    cases r with
    | nil => rfl
    | cons b r =>
      unfold chn
      rw [← ih]
      have e : (a :: b :: r).length - 1 = (b :: r).length - 1 + 1 := by simp
      rw [e, List.range_succ_eq_map, List.all_cons, List.all_map]
      rfl
theorem okE_shape {d : D} (h : okE d = true) : ∃ c x r, d = .tup [.str x, r] ∧ x.cps.toList = [c] ∧ nm d = x ∧ c ∈ ("ABCDE" : Str).cps.toList ∧ okR 4 r = true := by
  unfold okE at h
  split at h
  · rename_i a r
    rw [Bool.and_eq_true] at h
    obtain ⟨h1, h2⟩ := h
    unfold isN at h1
    split at h1
    · rename_i x
      split at h1
      · rename_i c hx
        exact ⟨c, x, r, rfl, hx, rfl, of_decide_eq_true h1, h2⟩
      · cases h1
    · cases h1
  · cases h
theorem r_entry (k : Nat) (d : D) (st : Sto) {L m : Nat} (hd : fineD L m d = true) (hL : L ≤ 1000) : tbl dfs (k + 8) "is_entry" [d] st = .ok (.bl (okE d)) st := by
  rw [show k + 8 = (k + 7) + 1 from rfl, t_is_entry]
  cases d with
  | loc k => rw [fine_loc] at hd; cases hd
  | scr k => rw [fine_scr] at hd; cases hd
  | clo t cs => rw [fine_clo] at hd; cases hd
  | raw ds => rw [fine_raw] at hd; cases hd
  | tup ds =>
    obtain ⟨m', rfl, hl, hs⟩ := fine_tup hd
    rcases ds with _ | ⟨a, _ | ⟨b, _ | ⟨e, rs⟩⟩⟩
    · simp [fnR, rho0, m_is_entry, okE]
    · simp [fnR, rho0, m_is_entry, okE]
    · have q1 := r_name (k + 6) a "ABCDE" st (hs a (by simp)) (by omega)
      have q2 := r_rule k b st (hs b (by simp)) hL
      simp [fnR, rho0, m_is_entry, okE, Kc.d, show k + 7 = k + 6 + 1 from rfl, q1, onR_ite, fin_ite]
      cases isN "ABCDE" a
      · simp
      · simp [show k + 6 + 1 = k + 7 from rfl, q2]
    · have : ¬ ((rs.length : Int) + 1 + 1 + 1 = 2) := by omega
      simp [fnR, rho0, m_is_entry, okE, this]
  | _ => simp [fnR, rho0, m_is_entry, okE]
theorem nm_at {d : D} (h : okE d = true) (rh : Rho) (st : Sto) : ∃ x r, d = .tup [.str x, r] ∧ nm d = x := by
  obtain ⟨c, x, r, e, _, h2, _⟩ := okE_shape h
  exact ⟨x, r, e, h2⟩
theorem asc_comp (ds : List D) (st : Sto) (hok : ∀ d ∈ ds, okE d = true) : cLoop (.name 2) none (eCmp .Lt (eIdx (eIdx (eVar 0) (eBin .Sub (eVar 2) (eC (.int 1)))) (eC (.int 0))) (eIdx (eIdx (eVar 0) (eVar 2)) (eC (.int 0)))) [some (.val (.tup ds)), none, none] ((List.range (ds.length - 1)).map fun k => .int (1 + (k : Nat))) st = .ok ((List.range (ds.length - 1)).map fun i => .bl (decide (ltS (stAt (ds.map nm) i) (stAt (ds.map nm) (i + 1))))) st := by
  have := cLoop_map (st := st) (tg := .name 2) (fe := eCmp .Lt (eIdx (eIdx (eVar 0) (eBin .Sub (eVar 2) (eC (.int 1)))) (eC (.int 0))) (eIdx (eIdx (eVar 0) (eVar 2)) (eC (.int 0)))) (rhw := [some (.val (.tup ds)), none, none]) (fun d => match d with
    | .int i => .bl (decide (ltS (stAt (ds.map nm) (i - 1).toNat) (stAt (ds.map nm) ((i - 1).toNat + 1))))
    | _ => .non) ((List.range (ds.length - 1)).map fun k => .int (1 + (k : Nat))) (fun d hd => ?_)
  · rw [this, List.map_map]
    refine congrArg (fun l => R.ok l st) (List.map_congr_left fun i _ => ?_)
    simp only [Function.comp]
    rw [show (1 + (i : Int) - 1).toNat = i by omega]
  · obtain ⟨i, hi, rfl⟩ := List.mem_map.mp hd
    rw [List.mem_range] at hi
    refine ⟨_, rfl, ?_⟩
    have h1 : i < ds.length := by omega
    have h2 : i + 1 < ds.length := by omega
    obtain ⟨x1, r1, e1, n1⟩ := nm_at (hok ds[i] (List.getElem_mem h1)) [] st
    obtain ⟨x2, r2, e2, n2⟩ := nm_at (hok ds[i + 1] (List.getElem_mem h2)) [] st
    have a1 : atI ds (1 + (i : Int) - 1) = some (.tup [.str x1, r1]) := by
      rw [show 1 + (i : Int) - 1 = (i : Int) by omega, at_nat, List.getElem?_eq_getElem h1, e1]
    have a2 : atI ds (1 + (i : Int)) = some (.tup [.str x2, r2]) := by
      rw [show 1 + (i : Int) = ((i + 1 : Nat) : Int) by omega, at_nat, List.getElem?_eq_getElem h2, e2]
    have g1 : stAt (ds.map nm) i = x1 := by unfold stAt; rw [List.getD_eq_getElem?_getD, List.getElem?_map, List.getElem?_eq_getElem h1]; exact n1
    have g2 : stAt (ds.map nm) (i + 1) = x2 := by unfold stAt; rw [List.getD_eq_getElem?_getD, List.getElem?_map, List.getElem?_eq_getElem h2]; exact n2
    have t : (1 + (i : Int) - 1).toNat = i := by omega
    simp only [t, g1, g2]
    simp [cElt, a1, a2, ltS]
theorem asc_all (ds : List D) : allD (.lst ((List.range (ds.length - 1)).map fun i => .bl (decide (ltS (stAt (ds.map nm) i) (stAt (ds.map nm) (i + 1)))))) = some (.bl (chn (ds.map nm))) := by
  have am2 := all_map (fun i : Nat => decide (ltS (stAt (ds.map nm) i) (stAt (ds.map nm) (i + 1)))) (List.range (ds.length - 1))
  have cr := chn_rng (ds.map nm)
  rw [List.length_map] at cr
  rw [am2, ← cr]
theorem e2a (ds : List D) (st : Sto) (rng : rng2 (.int 1) (.int ds.length) = some ((List.range (ds.length - 1)).map fun k => .int (1 + (k : Nat)))) : iTwo rng2 (eC (.int 1)) (eB1 .len (eVar 0)) [some (.val (.tup ds)), none, none] st = .ok ((List.range (ds.length - 1)).map fun k => .int (1 + (k : Nat))) st :=
  iTwo_ok (t := .d (.int 1)) (u := .d (.int ds.length)) (st1 := st) rfl (by simp) rfl rfl rfl rfl rng
theorem e2b (ds : List D) (st : Sto) (hok : ∀ d ∈ ds, okE d = true) (hi : iTwo rng2 (eC (.int 1)) (eB1 .len (eVar 0)) [some (.val (.tup ds)), none, none] st = .ok ((List.range (ds.length - 1)).map fun k => .int (1 + (k : Nat))) st) (hsz3 : ((List.range (ds.length - 1)).map fun k => D.int (1 + (k : Nat))).length ≤ sizeLine) :
  eComp [2] (.name 2) (iTwo rng2 (eC (.int 1)) (eB1 .len (eVar 0))) none (eCmp .Lt (eIdx (eIdx (eVar 0) (eBin .Sub (eVar 2) (eC (.int 1)))) (eC (.int 0))) (eIdx (eIdx (eVar 0) (eVar 2)) (eC (.int 0)))) [some (.val (.tup ds)), none, none] st = .ok (.fr ((List.range (ds.length - 1)).map fun i => .bl (decide (ltS (stAt (ds.map nm) i) (stAt (ds.map nm) (i + 1)))))) st := by
  refine comp_ok hi hsz3 ?_
  show cLoop _ _ _ [some (.val (.tup ds)), none, none] _ _ = _
  exact asc_comp ds st hok
theorem rngA (ds : List D) (h : ds.length ≤ 1000) : rng2 (.int 1) (.int ds.length) = some ((List.range (ds.length - 1)).map fun k => .int (1 + (k : Nat))) := by
  rw [rng2_ev (by omega), show ((ds.length : Int) - 1).toNat = ds.length - 1 by omega]
theorem hszA (ds : List D) (h : ds.length ≤ 1000) : ((List.range (ds.length - 1)).map fun k => D.int (1 + (k : Nat))).length ≤ sizeLine := by
  rw [List.length_map, List.length_range]
  exact sz (by omega)
theorem r_book (k : Nat) (d : D) (st : Sto) {L m : Nat} (hd : fineD L m d = true) (hL : L ≤ 1000) : tbl dfs (k + 9) "is_book" [d] st = .ok (.bl (okB d)) st := by
  rw [show k + 9 = (k + 8) + 1 from rfl, t_is_book]
  cases d with
  | loc k => rw [fine_loc] at hd; cases hd
  | scr k => rw [fine_scr] at hd; cases hd
  | clo t cs => rw [fine_clo] at hd; cases hd
  | raw ds => rw [fine_raw] at hd; cases hd
  | tup ds =>
    obtain ⟨m', rfl, hl, hs⟩ := fine_tup hd
    have comp : cLoop (.name 1) none (eCall (tbl dfs (k + 8)) "is_entry" [.e (eVar 1)]) [some (.val (.tup ds)), none, none] ds st = .ok (ds.map fun d => .bl (okE d)) st := by
      refine cLoop_map _ _ fun d hdm => ⟨_, rfl, ?_⟩
      have q := r_entry k d st (hs d hdm) hL
      simp [cElt, q]
    have hsz : ds.length ≤ sizeLine := sz (by omega)
    have am := all_map okE ds
    cases ha : ds.all okE with
    | false =>
      simp [fnR, rho0, m_is_book, comp, hsz, am, ha, okB]
    | true =>
      have hok : ∀ d ∈ ds, okE d = true := List.all_eq_true.mp ha
      have am2 := asc_all ds
      have E1 := comp_ok (st := st) (st1 := st) (rh := [some (.val (.tup ds)), none, none]) (vs := [1]) (fi := iOne itemsD (eVar 0)) (by simp) hsz comp
      have E2 := e2b ds st hok (e2a ds st (rngA ds (by omega))) (hszA ds (by omega))
      have c1 : eB1 .all (eComp [1] (.name 1) (iOne itemsD (eVar 0)) none (eCall (tbl dfs (k + 8)) "is_entry" [.e (eVar 1)])) [some (.val (.tup ds)), none, none] st = .ok (.d (.bl true)) st := by
        simp only [eB1_ev, eOp1_ev, E1, R.bind_ok, view_fr, all_ev, am, ha, dV_some']
      have c2 : eB1 .all (eComp [2] (.name 2) (iTwo rng2 (eC (.int 1)) (eB1 .len (eVar 0))) none (eCmp .Lt (eIdx (eIdx (eVar 0) (eBin .Sub (eVar 2) (eC (.int 1)))) (eC (.int 0))) (eIdx (eIdx (eVar 0) (eVar 2)) (eC (.int 0))))) [some (.val (.tup ds)), none, none] st = .ok (.d (.bl (chn (ds.map nm)))) st := by
        simp only [eB1_ev, eOp1_ev, E2, R.bind_ok, view_fr, all_ev, am2, dV_some']
      have e0 : fnR 3 (m_is_book (tbl dfs (k + 8))) [.tup ds] st = fin st.length (m_is_book (tbl dfs (k + 8)) [some (.val (.tup ds)), none, none] st) := rfl
      have e1 : okB (.tup ds) = chn (ds.map nm) := by simp only [okB, ha, Bool.true_and]
      rw [e0, e1]
      unfold m_is_book
      have c3 : eOr (eNot (eTru (eIsi .tuple (eVar 0)))) (eNot (eTru (eB1 .all (eComp [1] (.name 1) (iOne itemsD (eVar 0)) none (eCall (tbl dfs (k + 8)) "is_entry" [.e (eVar 1)]))))) [some (.val (.tup ds)), none, none] st = .ok (.d (.bl false)) st := by
        have z : eNot (eTru (eIsi .tuple (eVar 0))) [some (.val (.tup ds)), none, none] st = .ok (.d (.bl false)) st := rfl
        rw [eOr_ev, z, R.bind_ok, onB_bl, if_neg (by decide), eNot_ev, eOp1_ev, eTru_ev, eOp1_ev, c1]
        rfl
      rw [sSeq_ev, sIf_ev, c3, onR_ok, onT_bl, if_neg (by decide), sNil_ev, onN_nx, sRet_ev, c2, onR_ok, ret_d, fin_rt, cut_same]
  | _ => simp [fnR, rho0, m_is_book, okB]
end KW

namespace KW
open PySem L2 KL KU

/-! ### drawing -/
def mixZ (c p m : Int) : Int := (c * 48271 % p) * (c * 48271 % p + 7) % p % m
theorem mixZ_lt (c p m : Int) (h : 0 < m) : 0 ≤ mixZ c p m ∧ mixZ c p m < m := ⟨Int.emod_nonneg _ (by omega), Int.emod_lt_of_pos _ h⟩
theorem r_mix (k : Nat) (c p m : Int) (st : Sto) (hp : 0 < p ∧ p < 100000) (hm : 0 < m) : tbl dfs (k + 1) "_law_mix" [.int c, .int p, .int m] st = .ok (.int (mixZ c p m)) st := by
  rw [t_law_mix]
  have h1 := bin_mul_r (i := c) (j := 48271) (by decide)
  have h2 := bin_mod (i := c * 48271) (j := p) hp.1
  have hb : 0 ≤ c * 48271 % p ∧ c * 48271 % p < p := ⟨Int.emod_nonneg _ (by omega), Int.emod_lt_of_pos _ hp.1⟩
  have h3 := bin_mul_l (i := c * 48271 % p) (j := c * 48271 % p + 7) (by omega)
  have h4 := bin_mod (i := c * 48271 % p * (c * 48271 % p + 7)) (j := p) hp.1
  have h5 := bin_mod (i := c * 48271 % p * (c * 48271 % p + 7) % p) (j := m) hm
  simp [fnR, rho0, m_law_mix, h1, h2, h3, h4, h5, mixZ]
theorem r_cell (k : Nat) (ns : List Int) (j : Int) (st : Sto) (hj : 0 ≤ j) : ∃ c, tbl dfs (k + 1) "_law_cell" [.scr ns, .int j] st = .ok (.int c) st := by
  rw [t_law_cell]
  by_cases h : j < ns.length
  · refine ⟨ns[j.toNat]'(by omega), ?_⟩
    have e := atI_of ns hj
    rw [List.getElem?_eq_getElem (by omega)] at e
    simp [fnR, rho0, m_law_cell, h, e]
  · refine ⟨0, ?_⟩
    simp [fnR, rho0, m_law_cell, h]
/-! ### what is drawn: texts of a few kinds, tuples of at most five -/
def W0 : List Str := ["worth", "look", "plus", "times", "same", "least", "most", "if", "a", "b", "c", "A", "B", "C", "D", "E"]
def orig : Nat → D → Bool
  | _, .int i => true
  | _, .str x => W0.contains x
  | n + 1, .tup ds => decide (ds.length ≤ 5) && ds.all (orig n)
  | _, _ => false
theorem orig_mono : ∀ {n m : Nat} {d : D}, n ≤ m → orig n d = true → orig m d = true
  | n, m, .int i, _, _ => by cases m <;> rfl
  | n, m, .str x, _, h => by cases n <;> cases m <;> exact h
  | 0, _, .tup ds, _, h => by cases h
  | n + 1, 0, _, h, _ => by omega
  | n + 1, m + 1, .tup ds, hl, h => by
    simp only [orig, Bool.and_eq_true, decide_eq_true_eq, List.all_eq_true] at h ⊢
    exact ⟨h.1, fun d hd => orig_mono (by omega) (h.2 d hd)⟩
  | n, _, .non, _, h => by cases n <;> cases h
  | n, _, .bl _, _, h => by cases n <;> cases h
  | n, _, .lst _, _, h => by cases n <;> cases h
  | n, _, .loc _, _, h => by cases n <;> cases h
  | n, _, .scr _, _, h => by cases n <;> cases h
theorem W0_ok : ∀ x ∈ W0, x.length ≤ 5 ∧ PyData.strOk x = true ∧ (Txt.upper x).length ≤ 24 ∧ PyData.strOk (Txt.upper x) = true ∧ (Txt.mul x 2).length ≤ 24 ∧ PyData.strOk (Txt.mul x 2) = true := by decide +kernel
theorem orig_fine {L : Nat} (hL : 5 ≤ L) : ∀ {n : Nat} {d : D}, orig n d = true → fineD L n d = true
  | n, .int i, _ => by cases n <;> rfl
  | n, .str x, h => by
    have h' : x ∈ W0 := by cases n <;> simpa [orig] using h
    obtain ⟨h1, h2, _⟩ := W0_ok x h'
    cases n <;> simp [fineD, h2] <;> omega
  | 0, .tup ds, h => by cases h
  | n + 1, .tup ds, h => by
    simp only [orig, Bool.and_eq_true, decide_eq_true_eq, List.all_eq_true] at h
    simp only [fineD, Bool.and_eq_true, decide_eq_true_eq, List.all_eq_true]
    exact ⟨by omega, fun d hd => orig_fine hL (h.2 d hd)⟩
  | n, .non, h => by cases n <;> cases h
  | n, .bl _, h => by cases n <;> cases h
  | n, .lst _, h => by cases n <;> cases h
  | n, .loc _, h => by cases n <;> cases h
  | n, .scr _, h => by cases n <;> cases h
  | n, .clo _ _, h => by cases n <;> cases h
  | n, .raw _, h => by cases n <;> cases h
theorem orig_w {n : Nat} {x : Str} (h : W0.contains x = true) : orig n (.str x) = true := by cases n <;> exact h
theorem at_mem {α : Type} {xs : List α} {i : Int} (h0 : 0 ≤ i) (h1 : i < xs.length) : ∃ x, atI xs i = some x ∧ x ∈ xs := by
  rw [atI_of xs h0]
  have : i.toNat < xs.length := by omega
  exact ⟨xs[i.toNat], List.getElem?_eq_getElem this, List.getElem_mem this⟩
/-- a rule that is drawn -/
def GoodR (n : Nat) (d : D) : Prop := okR n d = true ∧ orig n d = true
theorem good_pair {n : Nat} {w : Str} {x y : D} (hw : isTwo w = true) (hx : GoodR n x) (hy : GoodR n y) : GoodR (n + 1) (.tup [.str w, x, y]) := by
  have nw : w ≠ "worth" ∧ w ≠ "look" ∧ w ≠ "if" ∧ w ∈ W0 := by
    simp only [isTwo, Bool.or_eq_true, decide_eq_true_eq] at hw
    rcases hw with (((h | h) | h) | h) | h <;> subst h <;> decide +kernel
  refine ⟨by simp [okR, nw.1, nw.2.1, nw.2.2.1, hw, hx.1, hy.1], ?_⟩
  have : orig n (.str w) = true := by cases n <;> simpa [orig] using nw.2.2.2
  simp [orig, this, hx.2, hy.2]
theorem good_three {n : Nat} {x y z : D} (hx : GoodR n x) (hy : GoodR n y) (hz : GoodR n z) : GoodR (n + 1) (.tup [.str "if", x, y, z]) := by
  refine ⟨by simp [okR, fw, fl, hx.1, hy.1, hz.1], ?_⟩
  have : orig n (.str "if") = true := orig_w (by decide +kernel)
  simp [orig, this, hx.2, hy.2, hz.2]
theorem good_worth {n : Nat} {i : Int} (h : 0 ≤ i ∧ i < 3) : GoodR (n + 1) (.tup [.str "worth", .int i]) := by
  refine ⟨by simp [okR, isW]; omega, ?_⟩
  have : orig n (.str "worth") = true := orig_w (by decide +kernel)
  have h2 : orig n (.int i) = true := by cases n <;> rfl
  simp [orig, this, h2]
theorem good_look {n : Nat} {c : Nat} (h : c ∈ ("abcABCDE" : Str).cps.toList) : GoodR (n + 1) (.tup [.str "look", .str ⟨#[c]⟩]) := by
  have all : ∀ c ∈ ("abcABCDE" : Str).cps.toList, W0.contains (⟨#[c]⟩ : Str) = true := by decide +kernel
  have h' : c ∈ ("abcABCDE" : Str).cps := by simpa using h
  refine ⟨by simp [okR, wl, isN, h'], ?_⟩
  have : orig n (.str "look") = true := orig_w (by decide +kernel)
  have h2 : orig n (.str ⟨#[c]⟩) = true := orig_w (all c h)
  simp [orig, this, h2]
theorem r_lawrule (st : Sto) : ∀ (n k : Nat) (c : Int) (i : Int), i = n + 1 → ∃ d, tbl dfs (k + n + 2) "_law_rule" [.int c, .int i] st = .ok d st ∧ GoodR (n + 1) d
  | n, k, c, i, hi => by
    rw [show k + n + 2 = (k + n + 1) + 1 from rfl, t_law_rule]
    have m1 := r_mix (k + n) c 9973 10 st (by decide) (by decide)
    have m2 := r_mix (k + n) c 9967 7 st (by decide) (by decide)
    have m3 := r_mix (k + n) c 9949 3 st (by decide) (by decide)
    have m4 := r_mix (k + n) c 9941 11 st (by decide) (by decide)
    have m5 := r_mix (k + n) c 9931 5 st (by decide) (by decide)
    have b3 := mixZ_lt c 9949 3 (by decide)
    have b4 := mixZ_lt c 9941 11 (by decide)
    have b5 := mixZ_lt c 9931 5 (by decide)
    have hs : ("abcABCDEabc" : Str).length ≤ sizeLine := by decide
    have l11 : ("abcABCDEabc" : Str).cps.toList.length = 11 := by decide +kernel
    obtain ⟨x4, e4, mem4⟩ := at_mem (xs := ("abcABCDEabc" : Str).cps.toList) b4.1 (by omega)
    have mem4' : x4 ∈ ("abcABCDE" : Str).cps.toList := by
      have all : ∀ c ∈ ("abcABCDEabc" : Str).cps.toList, c ∈ ("abcABCDE" : Str).cps.toList := by decide +kernel
      exact all x4 mem4
    obtain ⟨x5, e5, mem5⟩ := at_mem (xs := [D.str "plus", .str "times", .str "same", .str "least", .str "most"]) b5.1 b5.2
    have hix := idx_str (st := st) (i := mixZ c 9941 11) hs
    rw [e4] at hix
    by_cases h1 : mixZ c 9973 10 < 4 ∨ i = 1
    · by_cases h2 : mixZ c 9967 7 = 0
      · refine ⟨.tup [.str "worth", .int (mixZ c 9949 3)], ?_, good_worth b3⟩
        rcases h1 with h1 | h1 <;> simp [fnR, rho0, m_law_rule, m1, m2, m3, h1, h2, onR_ite, onN_ite, fin_ite]
      · refine ⟨.tup [.str "look", .str ⟨#[x4]⟩], ?_, good_look mem4'⟩
        rcases h1 with h1 | h1 <;> simp [fnR, rho0, m_law_rule, m1, m2, m4, h1, h2, hix, onR_ite, onN_ite, fin_ite]
    · rw [not_or] at h1
      obtain ⟨h1, h3⟩ := h1
      cases n with
      | zero => omega
      | succ n =>
        obtain ⟨y1, q1, g1⟩ := r_lawrule st n k (c + 3) (i - 1) (by omega)
        obtain ⟨y2, q2, g2⟩ := r_lawrule st n k (c + 5) (i - 1) (by omega)
        obtain ⟨z1, p1, f1⟩ := r_lawrule st n k (c + 7) (i - 1) (by omega)
        obtain ⟨z2, p2, f2⟩ := r_lawrule st n k (c + 11) (i - 1) (by omega)
        obtain ⟨z3, p3, f3⟩ := r_lawrule st n k (c + 13) (i - 1) (by omega)
        rw [show k + n + 2 = k + (n + 1) + 1 by omega] at q1 q2 p1 p2 p3
        by_cases h4 : mixZ c 9973 10 < 7
        · have hw : ∃ w, x5 = .str w ∧ isTwo w = true := by
            simp only [List.mem_cons, List.not_mem_nil, or_false] at mem5
            rcases mem5 with h | h | h | h | h <;> exact ⟨_, h, by decide +kernel⟩
          obtain ⟨w, rfl, hw⟩ := hw
          refine ⟨.tup [.str w, y1, y2], ?_, good_pair hw g1 g2⟩
          simp [fnR, rho0, m_law_rule, m1, m5, h1, h3, h4, e5, q1, q2, onR_ite, onN_ite, fin_ite]
        · refine ⟨.tup [.str "if", z1, z2, z3], ?_, good_three f1 f2 f3⟩
          simp [fnR, rho0, m_law_rule, m1, h1, h3, h4, p1, p2, p3, onR_ite, onN_ite, fin_ite]
end KW

namespace KW
open PySem L2 KL KU

theorem good_inv {n : Nat} {d : D} (h : GoodR (n + 1) d) : (∃ i : Int, (0 ≤ i ∧ i < 3) ∧ d = .tup [.str "worth", .int i]) ∨ (∃ c, c ∈ ("abcABCDE" : Str).cps.toList ∧ d = .tup [.str "look", .str ⟨#[c]⟩]) ∨
    (∃ w x y, isTwo w = true ∧ GoodR n x ∧ GoodR n y ∧ d = .tup [.str w, x, y]) ∨ (∃ x y z, GoodR n x ∧ GoodR n y ∧ GoodR n z ∧ d = .tup [.str "if", x, y, z]) := by
  obtain ⟨h1, h2⟩ := h
  unfold okR at h1
  split at h1
  · cases h1
  · rename_i w r rs en
    cases en
    simp only [orig, Bool.and_eq_true, decide_eq_true_eq, List.all_eq_true] at h2
    obtain ⟨_, h2⟩ := h2
    split at h1
    · rename_i e
      subst e
      rw [Bool.and_eq_true, List.isEmpty_iff] at h1
      obtain ⟨rfl, h1⟩ := h1
      cases r with
      | int i =>
        simp only [isW, Bool.and_eq_true, decide_eq_true_eq] at h1
        exact .inl ⟨i, by omega, rfl⟩
      | _ => cases h1
    · split at h1
      · rename_i e
        subst e
        rw [Bool.and_eq_true, List.isEmpty_iff] at h1
        obtain ⟨rfl, h1⟩ := h1
        cases r with
        | str x =>
          simp only [isN] at h1
          split at h1
          · rename_i c hx
            refine .inr (.inl ⟨c, of_decide_eq_true h1, ?_⟩)
            have : x = ⟨#[c]⟩ := str_ext (by rw [hx])
            rw [this]
          · cases h1
        | _ => cases h1
      · split at h1
        · rename_i e
          subst e
          simp only [Bool.and_eq_true, decide_eq_true_eq] at h1
          obtain ⟨hl, h1⟩ := h1
          rcases rs with _ | ⟨y, _ | ⟨z, _ | ⟨u, rs⟩⟩⟩ <;> simp at hl
          simp at h1
          exact .inr (.inr (.inr ⟨r, y, z, ⟨h1.1, h2 r (by simp)⟩, ⟨h1.2.1, h2 y (by simp)⟩, ⟨h1.2.2, h2 z (by simp)⟩, rfl⟩))
        · simp only [Bool.and_eq_true, decide_eq_true_eq] at h1
          obtain ⟨hw, hl, h1⟩ := h1
          rcases rs with _ | ⟨y, _ | ⟨z, rs⟩⟩ <;> simp at hl
          simp at h1
          exact .inr (.inr (.inl ⟨w, r, y, hw, ⟨h1.1, h2 r (by simp)⟩, ⟨h1.2, h2 y (by simp)⟩, rfl⟩))
  · cases h1
theorem good_tup {n : Nat} {d : D} (h : GoodR n d) : ∃ ds, d = .tup ds := by
  cases n with
  | zero => cases h.1
  | succ n => rcases good_inv h with ⟨i, _, rfl⟩ | ⟨c, _, rfl⟩ | ⟨w, x, y, _, _, _, rfl⟩ | ⟨x, y, z, _, _, _, rfl⟩ <;> exact ⟨_, rfl⟩
theorem two_ne {w : Str} (hw : isTwo w = true) : w ≠ "worth" ∧ w ≠ "look" ∧ w ≠ "if" ∧ w ∈ W0 := by
  simp only [isTwo, Bool.or_eq_true, decide_eq_true_eq] at hw
  rcases hw with (((h | h) | h) | h) | h <;> subst h <;> decide +kernel
theorem small_add {m n : Nat} (h : m + n ≤ 1000000) : m + n ≤ sizeLine := by rw [sizeLine_eq]; omega
/-! ### names -/
def rowS : List Str := ["BCDEa", "CDEab", "DEabc", "Eabca", "abcab"]
theorem six_ok : ∀ c ∈ ("ABCDE" : Str).cps.toList, ∃ i : Nat, i < 5 ∧ sixS "ABCDE" (.str ⟨#[c]⟩) = some (.d (.int i)) := by
  have key : ∀ c ∈ ("ABCDE" : Str).cps.toList, (match Builtin.Str.occurrences "ABCDE" ⟨#[c]⟩ 0 ("ABCDE" : Str).length 1 with
    | i :: _ => decide (i < 5)
    | [] => false) = true := by decide +kernel
  intro c hc
  have := key c hc
  generalize ho : Builtin.Str.occurrences "ABCDE" ⟨#[c]⟩ 0 ("ABCDE" : Str).length 1 = l at this
  cases l with
  | nil => cases this
  | cons i r =>
    refine ⟨i, of_decide_eq_true this, ?_⟩
    show dV (match Builtin.Str.occurrences "ABCDE" ⟨#[c]⟩ 0 ("ABCDE" : Str).length 1 with
      | i :: _ => some (.int (i : Nat))
      | [] => none) = _
    rw [ho]
    rfl
theorem row_ok : ∀ x ∈ rowS, x.cps.toList.length = 5 ∧ x.length ≤ 1000 ∧ ∀ c ∈ x.cps.toList, c ∈ ("abcABCDE" : Str).cps.toList := by decide +kernel
theorem r_later (st : Sto) : ∀ (n k : Nat) (j : Int) (d : D), (0 ≤ j ∧ j < 5) → GoodR (n + 1) d → ∃ d', tbl dfs (k + n + 1) "_law_later" [d, .int j] st = .ok d' st ∧ GoodR (n + 1) d'
  | n, k, j, d, hj, h => by
    rw [t_law_later]
    have add : ∀ (a : D) (bs : List D), bs.length ≤ 100 → binD .Add (.tup [a]) (.tup bs) = some (.d (.tup (a :: bs))) := fun a bs hb => bin_add_tup (small_add (by simp; omega))
    have hsz : ∀ n : Nat, n ≤ 100 → n ≤ sizeLine := fun n hn => by rw [sizeLine_eq]; omega
    rcases good_inv h with ⟨i, hi, rfl⟩ | ⟨c, hc, rfl⟩ | ⟨w, x, y, hw, hx, hy, rfl⟩ | ⟨x, y, z, hx, hy, hz, rfl⟩
    · refine ⟨_, ?_, h⟩
      simp [fnR, rho0, m_law_later, wl.symm, cLoop, cTest, cElt, add, hsz]
    · by_cases h5 : c ∈ ("ABCDE" : Str).cps.toList
      · obtain ⟨i, hi, e6⟩ := six_ok c h5
        obtain ⟨x, e1, hx⟩ := at_mem (xs := rowS.map D.str) (i := j) hj.1 (by simpa [rowS] using hj.2)
        obtain ⟨r, hr, rfl⟩ := List.mem_map.mp hx
        obtain ⟨r1, r2, r3⟩ := row_ok r hr
        obtain ⟨c2, e2, hc2⟩ := at_mem (xs := r.cps.toList) (i := (i : Int)) (by omega) (by omega)
        have ix := idx_str (st := st) (i := (i : Int)) (short r2)
        rw [e2] at ix
        have io := in_one (st := st) (x := ⟨#[c]⟩) (ns := "ABCDE") (c := c) rfl
        have h5' : c ∈ ("ABCDE" : Str).cps := by simpa using h5
        refine ⟨.tup [.str "look", .str ⟨#[c2]⟩], ?_, good_look (r3 c2 hc2)⟩
        simp only [rowS, List.map_cons, List.map_nil] at e1
        simp [fnR, rho0, m_law_later, io, h5', e1, e6, ix]
      · refine ⟨_, ?_, h⟩
        have io := in_one (st := st) (x := ⟨#[c]⟩) (ns := "ABCDE") (c := c) rfl
        have h5' : c ∉ ("ABCDE" : Str).cps := by simpa using h5
        simp [fnR, rho0, m_law_later, io, h5', cLoop, cTest, cElt, add, hsz]
    · obtain ⟨n1, n2, n3, _⟩ := two_ne hw
      cases n with
      | zero => cases hx.1
      | succ n =>
        obtain ⟨x', q1, g1⟩ := r_later st n k j x hj hx
        obtain ⟨y', q2, g2⟩ := r_later st n k j y hj hy
        obtain ⟨ux, rfl⟩ := good_tup hx
        obtain ⟨uy, rfl⟩ := good_tup hy
        refine ⟨.tup [.str w, x', y'], ?_, good_pair hw g1 g2⟩
        simp [fnR, rho0, m_law_later, n2, cLoop, cTest, cElt, add, hsz, show k + (n + 1) = k + n + 1 by omega, q1, q2]
    · cases n with
      | zero => cases hx.1
      | succ n =>
        obtain ⟨x', q1, g1⟩ := r_later st n k j x hj hx
        obtain ⟨y', q2, g2⟩ := r_later st n k j y hj hy
        obtain ⟨z', q3, g3⟩ := r_later st n k j z hj hz
        obtain ⟨ux, rfl⟩ := good_tup hx
        obtain ⟨uy, rfl⟩ := good_tup hy
        obtain ⟨uz, rfl⟩ := good_tup hz
        refine ⟨.tup [.str "if", x', y', z'], ?_, good_three g1 g2 g3⟩
        simp [fnR, rho0, m_law_later, fl, cLoop, cTest, cElt, add, hsz, show k + (n + 1) = k + n + 1 by omega, q1, q2, q3]
end KW

namespace KW
open PySem L2 KL KU

/-! ### texts by their signs -/
def S (l : List Nat) : Str := ⟨l.toArray⟩
@[simp] theorem S_len (l : List Nat) : (S l).length = l.length := by simp [S, Str.length]
@[simp] theorem S_cps (l : List Nat) : (S l).cps.toList = l := by simp [S]
theorem S_app (a b : List Nat) : S a ++ S b = S (a ++ b) := str_ext (by rw [app_cps']; simp)
  where app_cps' {x y : Str} : (x ++ y).cps.toList = x.cps.toList ++ y.cps.toList := by
          show (x.cps ++ y.cps).toList = _
          simp
theorem S_inj {a b : List Nat} : S a = S b ↔ a = b := ⟨fun h => by have := congrArg (fun x => x.cps.toList) h; simpa using this, fun h => by rw [h]⟩
theorem S_of (x : Str) : S x.cps.toList = x := str_ext (by simp)
/-! ### rules -/
inductive Ru where
  | w (i : Int) | l (c : Nat) | two (o : Str) (a b : Ru) | iff (t a b : Ru)
def Ru.d : Ru → D
  | .w i => .tup [.str "worth", .int i]
  | .l c => .tup [.str "look", .str (S [c])]
  | .two o a b => .tup [.str o, a.d, b.d]
  | .iff t a b => .tup [.str "if", t.d, a.d, b.d]
def ab8 : List Nat := [97, 98, 99, 65, 66, 67, 68, 69]
theorem ab8_eq : ("abcABCDE" : Str).cps.toList = ab8 := by kernel_rfl
def Ru.ok : Nat → Ru → Prop
  | 0, _ => False
  | _ + 1, .w i => i = 0 ∨ i = 1 ∨ i = 2
  | _ + 1, .l c => c ∈ ab8
  | n + 1, .two o a b => isTwo o = true ∧ a.ok n ∧ b.ok n
  | n + 1, .iff t a b => t.ok n ∧ a.ok n ∧ b.ok n
theorem good_ru : ∀ (n : Nat) (d : D), GoodR n d → ∃ r : Ru, r.ok n ∧ d = r.d
  | 0, d, h => by cases h.1
  | n + 1, d, h => by
    rcases good_inv h with ⟨i, hi, rfl⟩ | ⟨c, hc, rfl⟩ | ⟨w, x, y, hw, hx, hy, rfl⟩ | ⟨x, y, z, hx, hy, hz, rfl⟩
    · exact ⟨.w i, by show i = 0 ∨ i = 1 ∨ i = 2; omega, rfl⟩
    · exact ⟨.l c, by rw [ab8_eq] at hc; exact hc, rfl⟩
    · obtain ⟨a, ha, rfl⟩ := good_ru n x hx
      obtain ⟨b, hb, rfl⟩ := good_ru n y hy
      exact ⟨.two w a b, ⟨hw, ha, hb⟩, rfl⟩
    · obtain ⟨a, ha, rfl⟩ := good_ru n x hx
      obtain ⟨b, hb, rfl⟩ := good_ru n y hy
      obtain ⟨e, he, rfl⟩ := good_ru n z hz
      exact ⟨.iff a b e, ⟨ha, hb, he⟩, rfl⟩
theorem ok_up : ∀ {n m : Nat} {r : Ru}, n ≤ m → r.ok n → r.ok m
  | 0, _, _, _, h => h.elim
  | n + 1, 0, _, h, _ => by omega
  | n + 1, m + 1, .w _, _, h => h
  | n + 1, m + 1, .l _, _, h => h
  | n + 1, m + 1, .two _ _ _, hm, h => ⟨h.1, ok_up (by omega) h.2.1, ok_up (by omega) h.2.2⟩
  | n + 1, m + 1, .iff _ _ _, hm, h => ⟨ok_up (by omega) h.1, ok_up (by omega) h.2.1, ok_up (by omega) h.2.2⟩
theorem two_cases {w : Str} (h : isTwo w = true) : w = "plus" ∨ w = "times" ∨ w = "same" ∨ w = "least" ∨ w = "most" := by
  unfold isTwo at h
  simpa [or_assoc] using h
theorem ru_okR : ∀ {n : Nat} {r : Ru}, r.ok n → okR n r.d = true
  | 0, _, h => h.elim
  | n + 1, .w i, h => by
    have h : i = 0 ∨ i = 1 ∨ i = 2 := h
    have e : isW (.int i) = true := by rcases h with h | h | h <;> subst h <;> rfl
    simp [Ru.d, okR, e]
  | n + 1, .l c, h => by
    have h : c ∈ ab8 := h
    have e : isN "abcABCDE" (.str (S [c])) = true := by
      simp only [isN, S_cps, ab8_eq, decide_eq_true_eq]
      exact h
    simp [Ru.d, okR, wl, e]
  | n + 1, .two o a b, h => by
    obtain ⟨n1, n2, n3, _⟩ := two_ne h.1
    simp [Ru.d, okR, n1, n2, n3, h.1, ru_okR h.2.1, ru_okR h.2.2]
  | n + 1, .iff t a b, h => by simp [Ru.d, okR, fw, fl, ru_okR h.1, ru_okR h.2.1, ru_okR h.2.2]
theorem ok8 : ∀ c ∈ ab8, PyData.strOk (S [c]) = true := by decide +kernel
theorem two_fine {w : Str} (h : isTwo w = true) : w.length ≤ 5 ∧ PyData.strOk w = true := by
  rcases two_cases h with h | h | h | h | h <;> subst h <;> decide +kernel
theorem ru_fine : ∀ {n : Nat} {r : Ru}, r.ok n → fineD 100 n r.d = true
  | 0, _, h => h.elim
  | n + 1, .w i, h => by
    have e : ∀ n, fineD 100 n (.str "worth") = true := fun n => by cases n <;> (simp only [fineD]; decide +kernel)
    have e2 : ∀ n, fineD 100 n (.int i) = true := fun n => by cases n <;> rfl
    simp [Ru.d, fineD, e, e2]
  | n + 1, .l c, h => by
    have e : ∀ n, fineD 100 n (.str "look") = true := fun n => by cases n <;> (simp only [fineD]; decide +kernel)
    have e2 : ∀ n, fineD 100 n (.str (S [c])) = true := fun n => by cases n <;> simp [fineD, ok8 c h]
    simp [Ru.d, fineD, e, e2]
  | n + 1, .two o a b, h => by
    obtain ⟨h1, h2⟩ := two_fine h.1
    have e : ∀ n, fineD 100 n (.str o) = true := fun n => by cases n <;> simp [fineD, h2] <;> omega
    simp [Ru.d, fineD, e, ru_fine h.2.1, ru_fine h.2.2]
  | n + 1, .iff t a b, h => by
    have e : ∀ n, fineD 100 n (.str "if") = true := fun n => by cases n <;> (simp only [fineD]; decide +kernel)
    simp [Ru.d, fineD, e, ru_fine h.1, ru_fine h.2.1, ru_fine h.2.2]
/-! ### books -/
abbrev Bk := List (Nat × Ru)
def entD (p : Nat × Ru) : D := .tup [.str (S [p.1]), p.2.d]
def bkD (es : Bk) : D := .tup (es.map entD)
structure BkOk (es : Bk) : Prop where
  nm : (es.map (·.1)).Sublist [65, 66, 67, 68, 69]
  ru : ∀ p ∈ es, p.2.ok 4
theorem BkOk.len {es : Bk} (h : BkOk es) : es.length ≤ 5 := by have := h.nm.length_le; simpa using this
theorem BkOk.name {es : Bk} (h : BkOk es) {p : Nat × Ru} (hp : p ∈ es) : p.1 ∈ [65, 66, 67, 68, 69] := h.nm.subset (List.mem_map.mpr ⟨p, hp, rfl⟩)
theorem BkOk.one {es : Bk} (h : BkOk es) {p : Nat × Ru} (hp : p ∈ es) : BkOk [p] := ⟨List.singleton_sublist.mpr (h.name hp), fun q hq => by rw [List.mem_singleton.mp hq]; exact h.ru p hp⟩
theorem BkOk.nil : BkOk [] := ⟨List.nil_sublist _, fun p hp => by cases hp⟩
def bkB (G : Tbl) : Ss := (sIf (eCmp .Gt (eCall G "_law_mix" [.e (eBin .Add (eVar 0) (eBin .Mult (eC (.int 17)) (eVar 2))), .e (eC (.int 9929)), .e (eC (.int 6))]) (eC (.int 0)))
  (sSeq (sAsg false 4 (eCall G "_law_rule" [.e (eBin .Add (eBin .Add (eVar 0) (eBin .Mult (eC (.int 31)) (eVar 2))) (eC (.int 1))), .e (eC (.int 4))]))
  (sSeq (sIf (eCmp .Gt (eCall G "_law_mix" [.e (eVar 0), .e (eC (.int 9923)), .e (eC (.int 3))]) (eC (.int 0)))
  (sAsg false 4 (eCall G "_law_later" [.e (eVar 4), .e (eVar 2)]))
  sNil)
  (sApp (eVar 1) (eTup [(eVar 3), (eVar 4)]))))
  sNil)
theorem bk_step (k : Nat) (c : Int) (i : Int) (x : Nat) (fs : List D) (e4 : Option Cell) (st : Sto) (hi : 0 ≤ i ∧ i < 5) (hl : fs.length ≤ 1000) :
    ∃ e4', bkB (tbl dfs (k + 5)) [some (.val (.int c)), some (.own fs), some (.val (.int i)), some (.val (.str (S [x]))), e4] st = .nx [some (.val (.int c)), some (.own fs), some (.val (.int i)), some (.val (.str (S [x]))), e4'] st ∨
      ∃ r : Ru, r.ok 4 ∧ bkB (tbl dfs (k + 5)) [some (.val (.int c)), some (.own fs), some (.val (.int i)), some (.val (.str (S [x]))), e4] st = .nx [some (.val (.int c)), some (.own (fs ++ [entD (x, r)])), some (.val (.int i)), some (.val (.str (S [x]))), e4'] st := by
  have m1 := r_mix (k + 4) (c + 17 * i) 9929 6 st (by decide) (by decide)
  have m2 := r_mix (k + 4) c 9923 3 st (by decide) (by decide)
  have mu1 := bin_mul_l (i := 17) (j := i) (by decide)
  have mu2 := bin_mul_l (i := 31) (j := i) (by decide)
  rw [show k + 4 + 1 = k + 5 from rfl] at m1 m2
  by_cases h1 : 0 < mixZ (c + 17 * i) 9929 6
  · obtain ⟨r, q1, g1⟩ := r_lawrule st 3 k (c + 31 * i + 1) 4 (by decide)
    obtain ⟨r', q2, g2⟩ := r_later st 3 (k + 1) i r hi g1
    rw [show k + 3 + 2 = k + 5 from rfl] at q1
    rw [show k + 1 + 3 + 1 = k + 5 from rfl] at q2
    have ap : ∀ d, appD d fs = some (fs ++ [d]) := fun d => app_ev (by rw [sizeLine_eq]; omega)
    by_cases h2 : 0 < mixZ c 9923 3
    · obtain ⟨u, hu, rfl⟩ := good_ru _ _ g2
      refine ⟨some (.val u.d), .inr ⟨u, hu, ?_⟩⟩
      simp [bkB, mu1, m1, h1, mu2, q1, m2, h2, q2, ap, entD]
    · obtain ⟨u, hu, rfl⟩ := good_ru _ _ g1
      refine ⟨some (.val u.d), .inr ⟨u, hu, ?_⟩⟩
      simp [bkB, mu1, m1, h1, mu2, q1, m2, h2, ap, entD]
  · refine ⟨e4, .inl ?_⟩
    simp [bkB, mu1, m1, h1]
theorem bk_loop (k : Nat) (c : Int) (st : Sto) : ∀ (ps : List (Int × Nat)) (fs : Bk) (e2 e3 e4 : Option Cell), (∀ p ∈ ps, 0 ≤ p.1 ∧ p.1 < 5) → (∀ p ∈ fs, p.2.ok 4) → fs.length + ps.length ≤ 5 →
    ∃ (gs : Bk) (e2' e3' e4' : Option Cell), (gs.map (·.1)).Sublist (ps.map (·.2)) ∧ (∀ p ∈ fs ++ gs, p.2.ok 4) ∧ sLoop (.tup [2, 3]) (bkB (tbl dfs (k + 5))) (ps.map fun p => .raw [.int p.1, .str (S [p.2])]) [some (.val (.int c)), some (.own (fs.map entD)), e2, e3, e4] st = .nx [some (.val (.int c)), some (.own ((fs ++ gs).map entD)), e2', e3', e4'] st
  | [], fs, e2, e3, e4, _, hf, hl => ⟨[], e2, e3, e4, List.Sublist.refl _, by simpa using hf, by simp⟩
  | p :: ps, fs, e2, e3, e4, hp, hf, hl => by
    simp only [List.length_cons] at hl
    obtain ⟨e4', s⟩ := bk_step k c p.1 p.2 (fs.map entD) e4 st (hp p List.mem_cons_self) (by simp; omega)
    have e0 : sLoop (.tup [2, 3]) (bkB (tbl dfs (k + 5))) ((p :: ps).map fun p => .raw [.int p.1, .str (S [p.2])]) [some (.val (.int c)), some (.own (fs.map entD)), e2, e3, e4] st = (match bkB (tbl dfs (k + 5)) [some (.val (.int c)), some (.own (fs.map entD)), some (.val (.int p.1)), some (.val (.str (S [p.2]))), e4] st with
      | .nx rh2 st2 => sLoop (.tup [2, 3]) (bkB (tbl dfs (k + 5))) (ps.map fun p => .raw [.int p.1, .str (S [p.2])]) rh2 st2
      | .ct rh2 st2 => sLoop (.tup [2, 3]) (bkB (tbl dfs (k + 5))) (ps.map fun p => .raw [.int p.1, .str (S [p.2])]) rh2 st2
      | .bk rh2 st2 => .nx rh2 st2
      | r => r) := rfl
    rw [e0]
    rcases s with s | ⟨r, hr, s⟩
    · rw [s]
      obtain ⟨gs, e2', e3', e4', q1, q2, q3⟩ := bk_loop k c st ps fs (some (.val (.int p.1))) (some (.val (.str (S [p.2])))) e4' (fun q hq => hp q (List.mem_cons_of_mem _ hq)) hf (by omega)
      exact ⟨gs, e2', e3', e4', List.Sublist.cons _ q1, q2, q3⟩
    · rw [s]
      obtain ⟨gs, e2', e3', e4', q1, q2, q3⟩ := bk_loop k c st ps (fs ++ [(p.2, r)]) (some (.val (.int p.1))) (some (.val (.str (S [p.2])))) e4' (fun q hq => hp q (List.mem_cons_of_mem _ hq)) (fun q hq => by
        rcases List.mem_append.mp hq with h | h
        · exact hf q h
        · rw [List.mem_singleton.mp h]; exact hr) (by simp; omega)
      refine ⟨(p.2, r) :: gs, e2', e3', e4', List.Sublist.cons₂ _ q1, by simpa using q2, ?_⟩
      rw [List.map_append] at q3
      simp only [List.map_cons, List.map_nil] at q3
      refine q3.trans ?_
      simp
def ps5 : List (Int × Nat) := [(0, 65), (1, 66), (2, 67), (3, 68), (4, 69)]
theorem enm5 : numFrom 0 (signs "ABCDE") = ps5.map fun p => .raw [.int p.1, .str (S [p.2])] := by kernel_rfl
theorem r_lawbook (k : Nat) (c : Int) (st : Sto) : ∃ es, BkOk es ∧ tbl dfs (k + 6) "_law_book" [.int c] st = .ok (bkD es) st := by
  rw [show k + 6 = k + 5 + 1 from rfl, t_law_book]
  obtain ⟨fs, e2, e3, e4, h1, h2, q⟩ := bk_loop k c st ps5 [] none none none (by decide +kernel) (by simp) (by decide)
  refine ⟨fs, ⟨h1, by simpa using h2⟩, ?_⟩
  have e0 : fnR 5 (m_law_book (tbl dfs (k + 5))) [.int c] st = fin st.length (onN (sLoop (.tup [2, 3]) (bkB (tbl dfs (k + 5))) (numFrom 0 (signs "ABCDE")) [some (.val (.int c)), some (.own []), none, none, none] st) (sRet (eB1 .tuple (eVar 1)))) := rfl
  rw [e0, enm5]
  have q : sLoop (.tup [2, 3]) (bkB (tbl dfs (k + 5))) (ps5.map fun p => .raw [.int p.1, .str (S [p.2])]) [some (.val (.int c)), some (.own []), none, none, none] st = _ := q
  rw [q]
  simp [bkD]
end KW

namespace KW
open PySem L2 KL KU

/-! ### the text of a rule -/
def tx : Ru → List Nat
  | .w i => [48 + i.toNat]
  | .l c => [c]
  | .two o a b => [40] ++ tx a ++ [32] ++ o.cps.toList ++ [32] ++ tx b ++ [41]
  | .iff t a b => [91] ++ tx t ++ [32, 63, 32] ++ tx a ++ [32, 58, 32] ++ tx b ++ [93]
theorem two_len {w : Str} (h : isTwo w = true) : w.cps.toList.length ≤ 5 := by
  rw [← len_cps]
  exact (two_fine h).1
theorem tx_len : ∀ {n : Nat} {r : Ru}, r.ok n → (tx r).length + 5 ≤ 10 * 3 ^ n
  | 0, _, h => h.elim
  | n + 1, .w i, h => by
    have : 1 ≤ 3 ^ n := Nat.one_le_pow _ _ (by decide)
    simp [tx, Nat.pow_succ]; omega
  | n + 1, .l c, h => by
    have : 1 ≤ 3 ^ n := Nat.one_le_pow _ _ (by decide)
    simp [tx, Nat.pow_succ]; omega
  | n + 1, .two o a b, h => by
    have h1 := tx_len h.2.1
    have h2 := tx_len h.2.2
    have h3 := two_len h.1
    simp only [tx, Nat.pow_succ, List.length_append, List.length_cons, List.length_nil]
    omega
  | n + 1, .iff t a b, h => by
    have h1 := tx_len h.1
    have h2 := tx_len h.2.1
    have h3 := tx_len h.2.2
    simp only [tx, Nat.pow_succ, List.length_append, List.length_cons, List.length_nil]
    omega
theorem tx_short {n : Nat} {r : Ru} (hn : n ≤ 6) (h : r.ok n) : (tx r).length ≤ 7290 := by
  have h1 := tx_len h
  have h2 : 3 ^ n ≤ 3 ^ 6 := Nat.pow_le_pow_right (by decide) hn
  have h3 : 3 ^ 6 = 729 := by decide
  omega
theorem binS {a b : List Nat} (h : a.length + b.length ≤ 100000) : binD .Add (.str (S a)) (.str (S b)) = some (.d (.str (S (a ++ b)))) := by
  rw [bin_add_str (by rw [S_len, S_len, sizeLine_eq]; omega), S_app]
theorem l1 : ("(" : Str) = S [40] := by kernel_rfl
theorem l2 : (")" : Str) = S [41] := by kernel_rfl
theorem l3 : (" " : Str) = S [32] := by kernel_rfl
theorem l4 : ("[" : Str) = S [91] := by kernel_rfl
theorem l5 : ("]" : Str) = S [93] := by kernel_rfl
theorem l6 : (" ? " : Str) = S [32, 63, 32] := by kernel_rfl
theorem l7 : (" : " : Str) = S [32, 58, 32] := by kernel_rfl
theorem l8 : (" = " : Str) = S [32, 61, 32] := by kernel_rfl
theorem l9 : ("\n" : Str) = S [10] := by kernel_rfl
theorem l0 : ("" : Str) = S [] := by kernel_rfl
theorem in_wl {st : Sto} (w : Str) : inD st (.str w) (.tup [.str "worth", .str "look"]) = some (decide (w = "worth") || decide (w = "look")) := by
  simp only [inD, flatD, eqF, List.all_cons, List.all_nil, List.any_cons, List.any_nil, Bool.and_self, if_true, bq, Bool.or_false]
theorem str_i {i : Int} (h : i = 0 ∨ i = 1 ∨ i = 2) : strD (.int i) = some (.str (S [48 + i.toNat])) := by
  rcases h with h | h | h <;> subst h <;> kernel_rfl
theorem str_s (x : Str) : strD (.str x) = some (.str x) := rfl
theorem rule_cell (r : Ru) : cellD r.d = .val r.d := by cases r <;> rfl
theorem rule_view (r : Ru) (rh : Rho) (st : Sto) : view rh st (.d r.d) = some r.d := by cases r <;> rfl
theorem sz4 (n : Nat) (h : n ≤ 100) : n ≤ sizeLine := by rw [sizeLine_eq]; omega
theorem r_rule_text (st : Sto) : ∀ (n k : Nat) (r : Ru), n ≤ 6 → r.ok n → tbl dfs (k + n) "rule_text" [r.d] st = .ok (.str (S (tx r))) st
  | 0, _, _, _, h => h.elim
  | n + 1, k, r, hn, h => by
    rw [show k + (n + 1) = (k + n) + 1 from rfl, t_rule_text]
    cases r with
    | w i => simp [fnR, rho0, m_rule_text, Ru.d, in_wl, str_i h, tx]
    | l c => simp [fnR, rho0, m_rule_text, Ru.d, in_wl, str_s, tx, wl]
    | two o a b =>
      obtain ⟨n1, n2, n3, _⟩ := two_ne h.1
      have qa := r_rule_text st n k a (by omega) h.2.1
      have qb := r_rule_text st n k b (by omega) h.2.2
      have la := tx_short (by omega) h.2.1
      have lb := tx_short (by omega) h.2.2
      have lo := two_len h.1
      have eo : D.str o = D.str (S o.cps.toList) := by rw [S_of]
      simp [fnR, rho0, m_rule_text, Ru.d, in_wl, n1, n2, n3, cLoop, cTest, cElt, qa, qb, rule_view, sz4]
      simp (disch := (simp only [List.length_append, List.length_cons, List.length_nil]; omega)) [l1, l2, l3, eo, binS, tx]
    | iff t a b =>
      have qt := r_rule_text st n k t (by omega) h.1
      have qa := r_rule_text st n k a (by omega) h.2.1
      have qb := r_rule_text st n k b (by omega) h.2.2
      have lt := tx_short (by omega) h.1
      have la := tx_short (by omega) h.2.1
      have lb := tx_short (by omega) h.2.2
      simp [fnR, rho0, m_rule_text, Ru.d, in_wl, fw, fl, cLoop, cTest, cElt, qt, qa, qb, rule_view, sz4]
      simp (disch := (simp only [List.length_append, List.length_cons, List.length_nil]; omega)) [l4, l5, l6, l7, binS, tx]
theorem r_law_text (st : Sto) : ∀ (n k : Nat) (r : Ru), n ≤ 6 → r.ok n → tbl dfs (k + n) "_law_text" [r.d] st = .ok (.str (S (tx r))) st
  | 0, _, _, _, h => h.elim
  | n + 1, k, r, hn, h => by
    rw [show k + (n + 1) = (k + n) + 1 from rfl, t_law_text]
    cases r with
    | w i => simp [fnR, rho0, m_law_text, Ru.d, in_wl, str_i h, tx]
    | l c => simp [fnR, rho0, m_law_text, Ru.d, in_wl, str_s, tx, wl]
    | two o a b =>
      obtain ⟨n1, n2, n3, _⟩ := two_ne h.1
      have qa := r_law_text st n k a (by omega) h.2.1
      have qb := r_law_text st n k b (by omega) h.2.2
      have la := tx_short (by omega) h.2.1
      have lb := tx_short (by omega) h.2.2
      have lo := two_len h.1
      have eo : D.str o = D.str (S o.cps.toList) := by rw [S_of]
      simp [fnR, rho0, m_law_text, Ru.d, in_wl, n1, n2, n3, cLoop, cTest, cElt, qa, qb, rule_view, sz4]
      simp (disch := (simp only [List.length_append, List.length_cons, List.length_nil]; omega)) [l1, l2, l3, eo, binS, tx]
    | iff t a b =>
      have qt := r_law_text st n k t (by omega) h.1
      have qa := r_law_text st n k a (by omega) h.2.1
      have qb := r_law_text st n k b (by omega) h.2.2
      have lt := tx_short (by omega) h.1
      have la := tx_short (by omega) h.2.1
      have lb := tx_short (by omega) h.2.2
      simp [fnR, rho0, m_law_text, Ru.d, in_wl, fw, fl, cLoop, cTest, cElt, qt, qa, qb, rule_view, sz4]
      simp (disch := (simp only [List.length_append, List.length_cons, List.length_nil]; omega)) [l4, l5, l6, l7, binS, tx]
end KW

namespace KW
open PySem L2 KL KU

/-! ### a book's text -/
def rowT (p : Nat × Ru) : List Nat := [p.1] ++ [32, 61, 32] ++ tx p.2 ++ [10]
def bkT (es : Bk) : List Nat := es.flatMap rowT
theorem strs_map : ∀ xs : List Str, strsD (xs.map .str) = some xs
  | [] => rfl
  | x :: xs => by simp [strsD, strs_map xs]
theorem join_S : ∀ ls : List (List Nat), Str.join (S []) (ls.map S) = S ls.flatten
  | [] => rfl
  | [x] => by simp [Str.join]
  | x :: y :: r => by
    have ih := join_S (y :: r)
    simp only [List.map_cons] at ih
    simp only [List.map_cons, Str.join, ih, S_app, List.flatten_cons, List.append_nil]
theorem Txt_join_eq (y : Str) (parts : List Str) : Txt.join y parts = Str.join y parts := TL.join_eq y parts
theorem row_len {p : Nat × Ru} (h : p.2.ok 4) : (rowT p).length ≤ 7300 := by
  have := tx_short (by decide) h
  simp only [rowT, List.length_append, List.length_cons, List.length_nil]
  omega
theorem bk_len : ∀ {es : Bk}, (∀ p ∈ es, p.2.ok 4) → (bkT es).length ≤ 7300 * es.length
  | [], _ => by simp [bkT]
  | p :: es, h => by
    have h1 := row_len (h p List.mem_cons_self)
    have h2 := bk_len fun q hq => h q (List.mem_cons_of_mem _ hq)
    simp only [bkT, List.flatMap_cons, List.length_append, List.length_cons] at h2 ⊢
    omega
theorem r_written (k : Nat) (es : Bk) (st : Sto) (h : BkOk es) : tbl dfs (k + 5) "written" [bkD es] st = .ok (.str (S (bkT es))) st := by
  rw [show k + 5 = (k + 4) + 1 from rfl, t_written]
  have comp : cLoop (.tup [1, 2]) none (eBin .Add (eBin .Add (eBin .Add (eVar 1) (eC (.str " = "))) (eCall (tbl dfs (k + 4)) "rule_text" [.e (eVar 2)])) (eC (.str "\n"))) [some (.val (bkD es)), none, none] (es.map entD) st = .ok ((es.map rowT).map fun l => .str (S l)) st := by
    have hl := fun p hp => h.ru p hp
    clear h
    generalize bkD es = b
    induction es with
    | nil => rfl
    | cons p es ih =>
      have q := r_rule_text st 4 k p.2 (by decide) (hl p List.mem_cons_self)
      have lp := tx_short (by decide) (hl p List.mem_cons_self)
      have ih := ih fun q hq => hl q (List.mem_cons_of_mem _ hq)
      simp only [l8, l9] at ih
      simp only [List.map_cons, cLoop, entD, tg_tup_ev, setAll_cons, setAll_nil, oR_some, R.bind_ok, cTest]
      simp (disch := (simp only [List.length_append, List.length_cons, List.length_nil]; omega)) [cElt, l8, l9, binS, q, rule_view, ih, rowT]
  have hz : es.length ≤ sizeLine := sz4 _ (by have := h.len; omega)
  have hb := bk_len h.ru
  have hb5 := h.len
  have jn : joinD (S []) (.lst ((es.map rowT).map fun l => .str (S l))) = some (.d (.str (S (bkT es)))) := by
    have e1 : ((es.map rowT).map fun l => D.str (S l)) = ((es.map rowT).map S).map .str := by simp
    have e2 : (((es.map rowT).map S).map (·.length)).sum = (bkT es).length := by
      simp [bkT, List.length_flatMap, Function.comp_def]
    have e3 : Txt.join (S []) ((es.map rowT).map S) = S (bkT es) := by rw [Txt_join_eq, join_S]; rfl
    unfold joinD
    rw [e1]
    simp only [strs_map, Option.bind_some, e2, S_len, List.length_nil, Nat.mul_zero, Nat.add_zero, e3]
    rw [if_pos (by omega)]
  have e0 : cellD (bkD es) = .val (bkD es) := rfl
  simp only [fnR, rho0, m_written, List.map_cons, List.map_nil, e0]
  simp [l0, jn]
  have v : view [some (.val (bkD es)), none, none] st (.d (bkD es)) = some (.tup (es.map entD)) := rfl
  have nl : notLoc (.d (bkD es)) = true := rfl
  rw [List.map_map] at jn comp
  simp [v, comp, hz, jn, nl]
theorem goodLoop (k : Nat) (b : D) (st : Sto) : ∀ (es : Bk) (acc : List Nat) (e2 e3 : Option Cell), (∀ p ∈ es, p.2.ok 4) → acc.length + 7300 * es.length ≤ 50000 →
    ∃ e2' e3', sLoop (.tup [2, 3]) (sAsg false 1 (eBin .Add (eBin .Add (eBin .Add (eBin .Add (eVar 1) (eVar 2)) (eC (.str " = "))) (eCall (tbl dfs (k + 4)) "_law_text" [.e (eVar 3)])) (eC (.str "\n")))) (es.map entD) [some (.val b), some (.val (.str (S acc))), e2, e3] st = .nx [some (.val b), some (.val (.str (S (acc ++ bkT es)))), e2', e3'] st
  | [], acc, e2, e3, _, _ => ⟨e2, e3, by simp [bkT]⟩
  | p :: es, acc, e2, e3, h, hl => by
    have q := r_law_text st 4 k p.2 (by decide) (h p List.mem_cons_self)
    have lp := tx_short (by decide) (h p List.mem_cons_self)
    have lr := row_len (h p List.mem_cons_self)
    simp only [List.length_cons] at hl
    obtain ⟨e2', e3', ih⟩ := goodLoop k b st es (acc ++ rowT p) (some (.val (.str (S [p.1])))) (some (.val p.2.d)) (fun q hq => h q (List.mem_cons_of_mem _ hq)) (by simp only [List.length_append]; omega)
    refine ⟨e2', e3', ?_⟩
    have e : bkT (p :: es) = rowT p ++ bkT es := rfl
    rw [e, ← List.append_assoc, ← ih, List.map_cons, sLoop_cons]
    simp only [entD, tg_tup_ev, setAll_cons, setAll_nil]
    simp (disch := (simp only [List.length_append, List.length_cons, List.length_nil]; omega)) [l8, l9, binS, q, rule_view, rowT]
theorem r_law_written (k : Nat) (es : Bk) (st : Sto) (h : BkOk es) : tbl dfs (k + 5) "_law_written" [bkD es] st = .ok (.str (S (bkT es))) st := by
  rw [show k + 5 = (k + 4) + 1 from rfl, t_law_written]
  have h5 := h.len
  obtain ⟨e2, e3, q⟩ := goodLoop k (bkD es) st es [] none none h.ru (by simp; omega)
  have e0 : fnR 4 (m_law_written (tbl dfs (k + 4))) [bkD es] st = fin st.length (onN (sLoop (.tup [2, 3]) (sAsg false 1 (eBin .Add (eBin .Add (eBin .Add (eBin .Add (eVar 1) (eVar 2)) (eC (.str " = "))) (eCall (tbl dfs (k + 4)) "_law_text" [.e (eVar 3)])) (eC (.str "\n")))) (es.map entD) [some (.val (bkD es)), some (.val (.str "")), none, none] st) (sRet (eVar 1))) := rfl
  rw [e0, l0, q]
  simp
end KW

namespace KW
open PySem L2 KL KU

/-! ### the reader -/
def rdF (t : List Nat) (p : Nat) : List (Str × D) := [("signs", .str (S t)), ("place", .int p)]
def rd (t : List Nat) (p : Nat) : O := .ins "Reader" (rdF t p)
/-- a stands at p -/
abbrev pre (t : List Nat) (p : Nat) (a : List Nat) : Prop := (t.drop p).take a.length = a
theorem rd_signs (t : List Nat) (p : Nat) : (rdF t p).lookup ("signs" : Str) = some (.str (S t)) := by kernel_rfl
theorem rd_place (t : List Nat) (p : Nat) : (rdF t p).lookup ("place" : Str) = some (.int p) := by kernel_rfl
theorem ml_has : mlD.lookup (("Reader" : Str), ("has" : Str)) = some "Reader.has" := by kernel_rfl
theorem ml_must : mlD.lookup (("Reader" : Str), ("must" : Str)) = some "Reader.must" := by kernel_rfl
theorem ml_one : mlD.lookup (("Reader" : Str), ("one_of" : Str)) = some "Reader.one_of" := by kernel_rfl
theorem ml_rule : mlD.lookup (("Reader" : Str), ("rule" : Str)) = some "Reader.rule" := by kernel_rfl
theorem ml_end : mlD.lookup (("Reader" : Str), ("is_at_end" : Str)) = some "Reader.is_at_end" := by kernel_rfl
theorem put_place (t : List Nat) (p q : Nat) : putD "place" (.int q) (rdF t p) = rdF t q := by kernel_rfl
theorem set_place {st : Sto} {n : Nat} {t : List Nat} {p : Nat} (hs : st[n]? = some (rd t p)) (q : Nat) : setFld flD "place" n (.int q) st = some (st.set n (rd t q)) := by
  unfold setFld
  rw [hs]
  simp only [rd, put_place, rd_place]
  rw [if_pos (by simp [rdF])]
@[simp] theorem cut_set (st : Sto) (n : Nat) (o : O) (d : D) : cut st.length d (st.set n o) = st.set n o := by
  unfold cut
  rw [if_pos (by simp)]
theorem cut_S (t : List Nat) (p q : Nat) : cutS (S t) (some (p : Int)) (some ((p + q : Nat) : Int)) = S ((t.drop p).take q) := by
  unfold cutS
  simp only [HT.sIx_nat, S_cps, S_len]
  show S _ = S _
  congr 1
  by_cases h : p ≤ t.length
  · rw [Nat.min_eq_left h]
    by_cases h2 : p + q ≤ t.length
    · rw [Nat.min_eq_left h2, show p + q - p = q by omega]
    · rw [Nat.min_eq_right (by omega), List.take_of_length_le (by simp), List.take_of_length_le (by simp; omega)]
  · rw [Nat.min_eq_right (by omega), Nat.min_eq_right (by omega), List.drop_of_length_le (Nat.le_refl _), List.drop_of_length_le (by omega)]
    simp
theorem view_rd {st : Sto} {n : Nat} {t : List Nat} {p : Nat} (hs : st[n]? = some (rd t p)) (rh : Rho) : view rh st (.d (.loc n)) = some (.loc n) := by
  rw [view_loc, hs]
  rfl
theorem fld_signs {st : Sto} {n : Nat} {t : List Nat} {p : Nat} (hs : st[n]? = some (rd t p)) : fldD "signs" st (.loc n) = some (.str (S t)) := by
  rw [fldD_loc, hs]
  exact rd_signs t p
theorem fld_place {st : Sto} {n : Nat} {t : List Nat} {p : Nat} (hs : st[n]? = some (rd t p)) : fldD "place" st (.loc n) = some (.int p) := by
  rw [fldD_loc, hs]
  exact rd_place t p
theorem szB {n : Nat} (h : n ≤ 100000) : n ≤ sizeLine := by rw [sizeLine_eq]; omega
theorem r_end (k : Nat) (st : Sto) {n : Nat} {t : List Nat} {p : Nat} (hs : st[n]? = some (rd t p)) (ht : t.length ≤ 50000) : tbl dfs (k + 1) "Reader.is_at_end" [.loc n] st = .ok (.bl (decide (p = t.length))) st := by
  rw [t_Reader_is_at_end]
  have hl := len_str (st := st) (x := S t) (by rw [S_len]; exact szB (by omega))
  rw [S_len] at hl
  simp [fnR, rho0, m_Reader_is_at_end, view_rd hs, fld_signs hs, fld_place hs, hl, -fldD_loc]
  omega
theorem r_has (k : Nat) (st : Sto) {n : Nat} {t : List Nat} {p : Nat} (a : List Nat) (hs : st[n]? = some (rd t p)) (ht : t.length ≤ 50000) (ha : a.length ≤ 1000) :
    tbl dfs (k + 1) "Reader.has" [.loc n, .str (S a)] st = if pre t p a then .ok (.bl true) (st.set n (rd t (p + a.length))) else .ok (.bl false) st := by
  rw [t_Reader_has]
  have hl := len_str (st := st) (x := S a) (by rw [S_len]; exact szB (by omega))
  rw [S_len] at hl
  have hc := slc_str (x := S t) (some (p : Int)) (some ((p + a.length : Nat) : Int)) (by rw [S_len]; exact szB (by omega))
  rw [cut_S] at hc
  have sp := set_place hs (p + a.length)
  rw [Int.natCast_add] at hc sp
  simp [fnR, rho0, m_Reader_has, view_rd hs, fld_signs hs, fld_place hs, hl, hc, sp, S_inj, onR_ite, onN_ite, fin_ite, -fldD_loc]
end KW

namespace KW
open PySem L2 KL KU

/-- the store in which the reader n stands at q -/
def wr (st : Sto) (n : Nat) (t : List Nat) (q : Nat) : Sto := st.set n (rd t q)
section
variable {st : Sto} {n : Nat} {t : List Nat} {p q : Nat}
theorem wr_at (hn : n < st.length) (p : Nat) : (wr st n t p)[n]? = some (rd t p) := by simp [wr, hn]
theorem wr_ins (hn : n < st.length) (p : Nat) : (wr st n t p)[n]? = some (.ins "Reader" (rdF t p)) := wr_at hn p
theorem wr_set : (wr st n t p).set n (rd t q) = wr st n t q := by simp [wr]
@[simp] theorem cut_wr (d : D) : cut (wr st n t p).length d (wr st n t q) = wr st n t q := by
  unfold cut
  rw [if_pos (by simp [wr])]
theorem w_end (hn : n < st.length) (ht : t.length ≤ 50000) (k p : Nat) : tbl dfs (k + 1) "Reader.is_at_end" [.loc n] (wr st n t p) = .ok (.bl (decide (p = t.length))) (wr st n t p) := r_end k _ (wr_at hn p) ht
theorem w_has (hn : n < st.length) (ht : t.length ≤ 50000) (k p : Nat) (a : List Nat) (ha : a.length ≤ 1000) : tbl dfs (k + 1) "Reader.has" [.loc n, .str (S a)] (wr st n t p) = if pre t p a then .ok (.bl true) (wr st n t (p + a.length)) else .ok (.bl false) (wr st n t p) := by
  rw [r_has k _ a (wr_at hn p) ht ha, wr_set]
theorem w_must (hn : n < st.length) (ht : t.length ≤ 50000) (k p : Nat) (a : List Nat) (ha : a.length ≤ 1000) : tbl dfs (k + 2) "Reader.must" [.loc n, .str (S a)] (wr st n t p) = if pre t p a then .ok .non (wr st n t (p + a.length)) else .ex "NoText" (wr st n t p) := by
  rw [show k + 2 = (k + 1) + 1 from rfl, t_Reader_must]
  have q := w_has hn ht k p a ha
  by_cases h : pre t p a
  · rw [if_pos h] at q ⊢
    simp [fnR, rho0, m_Reader_must, wr_ins hn, ml_has, q]
  · rw [if_neg h] at q ⊢
    simp [fnR, rho0, m_Reader_must, wr_ins hn, ml_has, q]
theorem one_loop (hn : n < st.length) (ht : t.length ≤ 50000) (k p : Nat) (w : D) : ∀ (ws : List (List Nat)) (e2 : Option Cell), (∀ a ∈ ws, a.length ≤ 1000) →
    ∃ e2', sLoop (.name 2) (sIf (eTru (eMeth mlD (tbl dfs (k + 1)) "has" (eVar 0) [.e (eVar 2)])) (sRet (eVar 2)) sNil) (ws.map fun a => .str (S a)) [some (.val (.loc n)), some (.val w), e2] (wr st n t p) = match ws.find? fun a => decide (pre t p a) with
      | some a => .rt (.str (S a)) (wr st n t (p + a.length))
      | none => .nx [some (.val (.loc n)), some (.val w), e2'] (wr st n t p)
  | [], e2, _ => ⟨e2, rfl⟩
  | a :: ws, e2, h => by
    have q := w_has hn ht k p a (h a List.mem_cons_self)
    obtain ⟨e2', ih⟩ := one_loop hn ht k p w ws (some (.val (.str (S a)))) fun b hb => h b (List.mem_cons_of_mem _ hb)
    refine ⟨e2', ?_⟩
    rw [List.map_cons, sLoop_cons, List.find?_cons]
    by_cases hp : pre t p a
    · rw [if_pos hp] at q
      have hd : decide (pre t p a) = true := decide_eq_true hp
      simp only [hd]
      simp [wr_ins hn, ml_has, q]
    · rw [if_neg hp] at q
      have hd : decide (pre t p a) = false := decide_eq_false hp
      simp only [hd]
      rw [← ih]
      simp [wr_ins hn, ml_has, q]
theorem w_one (hn : n < st.length) (ht : t.length ≤ 50000) (k p : Nat) {w : D} {ws : List (List Nat)} (hw : cellD w = .val w) (hl : notLoc (.d w) = true) (hi : itemsD w = some (ws.map fun a => .str (S a))) (ha : ∀ a ∈ ws, a.length ≤ 1000) :
    tbl dfs (k + 2) "Reader.one_of" [.loc n, w] (wr st n t p) = match ws.find? fun a => decide (pre t p a) with
      | some a => .ok (.str (S a)) (wr st n t (p + a.length))
      | none => .ex "NoText" (wr st n t p) := by
  rw [show k + 2 = (k + 1) + 1 from rfl, t_Reader_one_of]
  obtain ⟨e2', q⟩ := one_loop hn ht k p w ws none ha
  have e0 : fnR 3 (m_Reader_one_of (tbl dfs (k + 1))) [.loc n, w] (wr st n t p) = fin (wr st n t p).length (onN (sLoop (.name 2) (sIf (eTru (eMeth mlD (tbl dfs (k + 1)) "has" (eVar 0) [.e (eVar 2)])) (sRet (eVar 2)) sNil) (ws.map fun a => .str (S a)) [some (.val (.loc n)), some (.val w), none] (wr st n t p)) (sRaise "NoText")) := by
    simp only [fnR, rho0, m_Reader_one_of, List.map_cons, List.map_nil, cellD_loc, hw, sSeq_ev, sFor_ev]
    simp [hl, hi]
  rw [e0, q]
  cases ws.find? fun a => decide (pre t p a) with
  | none => simp
  | some a => simp
end
theorem drop_next {t x y : List Nat} {p : Nat} (h : t.drop p = x ++ y) : t.drop (p + x.length) = y := by rw [← List.drop_drop, h, List.drop_left]
theorem pre_of {t a y : List Nat} {p : Nat} (h : t.drop p = a ++ y) : pre t p a := by unfold pre; rw [h]; simp
theorem pre_not {t y : List Nat} {p c d : Nat} (h : t.drop p = c :: y) (hn : d ≠ c) : ¬ pre t p [d] := by
  unfold pre
  rw [h]
  simp [Ne.symm hn]
def twoL : List (List Nat) := [[112, 108, 117, 115], [116, 105, 109, 101, 115], [115, 97, 109, 101], [108, 101, 97, 115, 116], [109, 111, 115, 116]]
theorem twoL_items : itemsD (Kc.d (.tS ["plus", "times", "same", "least", "most"])) = some (twoL.map fun a => .str (S a)) := by kernel_rfl
theorem two_find {o : Str} (h : isTwo o = true) {t y : List Nat} {p : Nat} (e : t.drop p = o.cps.toList ++ y) : (twoL.find? fun a => decide (pre t p a)) = some o.cps.toList := by
  have w1 : ("plus" : Str).cps.toList = [112, 108, 117, 115] := by kernel_rfl
  have w2 : ("times" : Str).cps.toList = [116, 105, 109, 101, 115] := by kernel_rfl
  have w3 : ("same" : Str).cps.toList = [115, 97, 109, 101] := by kernel_rfl
  have w4 : ("least" : Str).cps.toList = [108, 101, 97, 115, 116] := by kernel_rfl
  have w5 : ("most" : Str).cps.toList = [109, 111, 115, 116] := by kernel_rfl
  rcases two_cases h with h | h | h | h | h <;> subst h <;> simp only [w1, w2, w3, w4, w5] at e ⊢ <;> simp [twoL, List.find?_cons, pre, e]
def sg11 : List Nat := [97, 98, 99, 65, 66, 67, 68, 69, 48, 49, 50]
theorem sg_items : itemsD (.str "abcABCDE012") = some ((sg11.map fun c => [c]).map fun a => .str (S a)) := by kernel_rfl
theorem sg_find {l : List Nat} {c : Nat} (hc : c ∈ l) {t y : List Nat} {p : Nat} (e : t.drop p = c :: y) : ((l.map fun c => [c]).find? fun a => decide (pre t p a)) = some [c] := by
  have h : ∀ d, decide (pre t p [d]) = decide (c = d) := fun d => by simp [pre, e]
  rw [List.find?_map]
  have : (l.find? ((fun a => decide (pre t p a)) ∘ fun c => [c])) = some c := by
    induction l with
    | nil => cases hc
    | cons d l ih =>
      rw [List.find?_cons]
      simp only [Function.comp, h]
      by_cases z : c = d
      · subst z; simp
      · simp only [z, decide_false]
        rcases List.mem_cons.mp hc with hc | hc
        · exact absurd hc z
        · simpa [Function.comp, h] using ih hc
  rw [this]
  rfl
theorem cat11 : ("abc" : Str) ++ ("ABCDE" : Str) ++ ("012" : Str) = "abcABCDE012" := by kernel_rfl
end KW

namespace KW
open PySem L2 KL KU

theorem in_012s {st : Sto} {c : Nat} : inD st (.str (S [c])) (.str "012") = some (decide (c ∈ [48, 49, 50])) := by
  rw [in_one (c := c) (by simp)]
  have : ("012" : Str).cps.toList = [48, 49, 50] := by kernel_rfl
  rw [this]
theorem int_S {i : Int} (h : i = 0 ∨ i = 1 ∨ i = 2) : intD (.str (S [48 + i.toNat])) = some (.int i) := by
  rcases h with h | h | h <;> subst h <;> kernel_rfl
theorem bin11 : binD .Add (.str "abc") (.str "ABCDE") = some (.d (.str "abcABCDE")) := by kernel_rfl
theorem bin12 : binD .Add (.str "abcABCDE") (.str "012") = some (.d (.str "abcABCDE012")) := by kernel_rfl
theorem tx_head : ∀ {m : Nat} {r : Ru}, r.ok m → ∃ c y, tx r = c :: y
  | 0, _, h => h.elim
  | _ + 1, .w i, _ => ⟨_, _, rfl⟩
  | _ + 1, .l c, _ => ⟨_, _, rfl⟩
  | _ + 1, .two _ _ _, _ => ⟨_, _, rfl⟩
  | _ + 1, .iff _ _ _, _ => ⟨_, _, rfl⟩
theorem w_sign {st : Sto} {n : Nat} {t : List Nat} (hn : n < st.length) (ht : t.length ≤ 50000) (k p : Nat) {c : Nat} {y : List Nat} (e : t.drop p = c :: y) (hc : c ∈ sg11) : tbl dfs (k + 2) "Reader.one_of" [.loc n, .str "abcABCDE012"] (wr st n t p) = .ok (.str (S [c])) (wr st n t (p + 1)) := by
  rw [w_one hn ht k p (w := .str "abcABCDE012") rfl rfl sg_items (fun a ha => by obtain ⟨c, _, rfl⟩ := List.mem_map.mp ha; simp), sg_find hc e]
  rfl
theorem w_must_ok {st : Sto} {n : Nat} {t : List Nat} (hn : n < st.length) (ht : t.length ≤ 50000) (k : Nat) {p : Nat} {a y : List Nat} (e : t.drop p = a ++ y) (ha : a.length ≤ 1000) : tbl dfs (k + 2) "Reader.must" [.loc n, .str (S a)] (wr st n t p) = .ok .non (wr st n t (p + a.length)) := by
  rw [w_must hn ht k p a ha, if_pos (pre_of e)]
theorem w_rule {st : Sto} {n : Nat} {t : List Nat} (hn : n < st.length) (ht : t.length ≤ 50000) : ∀ (m k : Nat) (r : Ru) (i : Int) (p : Nat) (y : List Nat), r.ok m → (m : Int) ≤ i → t.drop p = tx r ++ y → tbl dfs (k + m + 2) "Reader.rule" [.loc n, .int i] (wr st n t p) = .ok r.d (wr st n t (p + (tx r).length))
  | 0, _, _, _, _, _, h, _, _ => h.elim
  | m + 1, k, r, i, p, y, h, hi, e => by
    rw [show k + (m + 1) + 2 = (k + m + 2) + 1 by omega, t_Reader_rule]
    have i0 : i ≠ 0 := by omega
    have h1 := w_has hn ht (k + m + 1) p [91] (by decide)
    have h2 := w_has hn ht (k + m + 1) p [40] (by decide)
    rw [show k + m + 1 + 1 = k + m + 2 from rfl] at h1 h2
    cases r with
    | w j =>
      have hj : j = 0 ∨ j = 1 ∨ j = 2 := h
      have e' : t.drop p = (48 + j.toNat) :: y := e
      rw [if_neg (pre_not e' (by omega))] at h1 h2
      have hc : 48 + j.toNat ∈ [48, 49, 50] := by rcases hj with z | z | z <;> subst z <;> decide
      have q := w_sign hn ht (k + m) p e' (by rcases hj with z | z | z <;> subst z <;> decide)
      simp [fnR, rho0, m_Reader_rule, i0, wr_ins hn, ml_has, ml_one, l1, l4, h1, h2, Kc.d, bin11, bin12, q, in_012s, int_S hj, Ru.d, tx, onR_ite, onN_ite, fin_ite]
      omega
    | l c =>
      have hc : c ∈ ab8 := h
      have e' : t.drop p = c :: y := e
      have n1 : 91 ≠ c := fun z => by subst z; revert hc; decide
      have n2 : 40 ≠ c := fun z => by subst z; revert hc; decide
      have n3 : ¬ c ∈ [48, 49, 50] := fun z => by
        have : ∀ c ∈ ab8, c ∉ [48, 49, 50] := by decide
        exact this c hc z
      rw [if_neg (pre_not e' n1)] at h1
      rw [if_neg (pre_not e' n2)] at h2
      have q := w_sign hn ht (k + m) p e' (by
        have : ∀ c ∈ ab8, c ∈ sg11 := by decide
        exact this c hc)
      have n3' : ¬ (c = 48 ∨ c = 49 ∨ c = 50) := by simpa using n3
      simp [fnR, rho0, m_Reader_rule, i0, wr_ins hn, ml_has, ml_one, l1, l4, h1, h2, Kc.d, bin11, bin12, q, in_012s, Ru.d, tx, onR_ite, onN_ite, fin_ite, n3']
    | two o a b =>
      have e0 : t.drop p = [40] ++ (tx a ++ ([32] ++ (o.cps.toList ++ ([32] ++ (tx b ++ ([41] ++ y)))))) := by rw [e]; simp [tx]
      have e1 := drop_next e0
      have e2 := drop_next e1
      have e3 := drop_next e2
      have e4 := drop_next e3
      have e5 := drop_next e4
      have e6 := drop_next e5
      rw [if_neg (pre_not (c := 40) e0 (by decide))] at h1
      rw [if_pos (pre_of e0)] at h2
      have q1 := w_rule hn ht m k a (i - 1) _ _ h.2.1 (by omega) e1
      have q2 := w_must_ok hn ht (k + m) e2 (by decide)
      have q3 := w_one hn ht (k + m) (p + [40].length + (tx a).length + [32].length) (w := Kc.d (.tS ["plus", "times", "same", "least", "most"])) rfl rfl twoL_items (by decide)
      rw [two_find h.1 e3] at q3
      have q4 := w_must_ok hn ht (k + m) e4 (by decide)
      have q5 := w_rule hn ht m k b (i - 1) _ _ h.2.2 (by omega) e5
      have q6 := w_must_ok hn ht (k + m) e6 (by decide)
      have hz : p + (tx (.two o a b)).length = p + [40].length + (tx a).length + [32].length + o.cps.toList.length + [32].length + (tx b).length + [41].length := by
        simp only [tx, List.length_append, List.length_cons, List.length_nil]; omega
      rw [hz]
      simp only [S_of] at q3
      simp only [List.length_cons, List.length_nil, Nat.zero_add, Array.length_toList] at h2 q1 q2 q3 q4 q5 q6
      simp only [fnR, rho0, m_Reader_rule, l1, l2, l3, l4]
      simp [i0, wr_ins hn, ml_has, ml_one, ml_must, ml_rule, h1, h2, q1, q2, q3, q4, q5, q6, Ru.d]
    | iff x a b =>
      have e0 : t.drop p = [91] ++ (tx x ++ ([32, 63, 32] ++ (tx a ++ ([32, 58, 32] ++ (tx b ++ ([93] ++ y)))))) := by rw [e]; simp [tx]
      have e1 := drop_next e0
      have e2 := drop_next e1
      have e3 := drop_next e2
      have e4 := drop_next e3
      have e5 := drop_next e4
      have e6 := drop_next e5
      rw [if_pos (pre_of e0)] at h1
      have q1 := w_rule hn ht m k x (i - 1) _ _ h.1 (by omega) e1
      have q2 := w_must_ok hn ht (k + m) e2 (by decide)
      have q3 := w_rule hn ht m k a (i - 1) _ _ h.2.1 (by omega) e3
      have q4 := w_must_ok hn ht (k + m) e4 (by decide)
      have q5 := w_rule hn ht m k b (i - 1) _ _ h.2.2 (by omega) e5
      have q6 := w_must_ok hn ht (k + m) e6 (by decide)
      have hz : p + (tx (.iff x a b)).length = p + [91].length + (tx x).length + [32, 63, 32].length + (tx a).length + [32, 58, 32].length + (tx b).length + [93].length := by
        simp only [tx, List.length_append, List.length_cons, List.length_nil]; omega
      rw [hz]
      simp only [List.length_cons, List.length_nil, Nat.zero_add] at h1 q1 q2 q3 q4 q5 q6
      simp only [fnR, rho0, m_Reader_rule, l1, l2, l3, l4, l5, l6, l7]
      simp [i0, wr_ins hn, ml_has, ml_one, ml_must, ml_rule, h1, q1, q2, q3, q4, q5, q6, Ru.d]
end KW

namespace KW
open PySem L2 KL KU

/-! ### the same -/
def smD : Nat → D → Bool
  | _, .int _ => true
  | _, .str _ => true
  | n + 1, .tup ds => decide (ds.length ≤ 1000) && ds.all (smD n)
  | _, _ => false
theorem zip_self : ∀ xs : List D, zipTup xs xs = xs.map fun x => .raw [x, x]
  | [] => rfl
  | x :: xs => by simp [zipTup, zip_self xs]
theorem sm_cell : ∀ {n : Nat} {d : D}, smD n d = true → cellD d = .val d := fun {n d} h => by
  cases d with
  | clo t cs => cases n <;> cases h
  | _ => rfl
theorem sm_view : ∀ {n : Nat} {d : D}, smD n d = true → ∀ rh st, view rh st (.d d) = some d := fun {n d} h rh st => by
  cases d with
  | loc k => cases n <;> cases h
  | _ => rfl
theorem r_same (st : Sto) : ∀ (n k : Nat) (d : D), smD n d = true → tbl dfs (k + n + 1) "_law_same" [d, d] st = .ok (.bl true) st
  | n, k, d, h => by
    rw [t_law_same]
    cases d with
    | int i => simp [fnR, rho0, m_law_same]
    | str x => simp [fnR, rho0, m_law_same]
    | tup xs =>
      cases n with
      | zero => cases h
      | succ n =>
        simp only [smD, Bool.and_eq_true, decide_eq_true_eq, List.all_eq_true] at h
        have comp : cLoop (.tup [2, 3]) none (eCall (tbl dfs (k + (n + 1))) "_law_same" [.e (eVar 2), .e (eVar 3)]) [some (.val (.tup xs)), some (.val (.tup xs)), none, none] (zipTup xs xs) st = .ok ((zipTup xs xs).map fun _ => .bl true) st := by
          refine cLoop_map _ _ fun d hd => ?_
          rw [zip_self] at hd
          obtain ⟨x, hx, rfl⟩ := List.mem_map.mp hd
          refine ⟨_, rfl, ?_⟩
          have q := r_same st n k x (h.2 x hx)
          rw [show k + n + 1 = k + (n + 1) from rfl] at q
          simp [cElt, q]
        have am := all_map (fun _ => true) (zipTup xs xs)
        have hz : (zipTup xs xs).length ≤ sizeLine := by rw [zip_self]; simp; exact sz h.1
        have at_ : (zipTup xs xs).all (fun _ => true) = true := by simp
        rw [at_] at am
        have E := comp_ok (st := st) (st1 := st) (rh := [some (.val (.tup xs)), some (.val (.tup xs)), none, none]) (vs := [2, 3]) (fi := iTwo zipD (eVar 0) (eVar 1)) (by simp) hz comp
        simp [-eComp_ev, fnR, rho0, m_law_same, E, am]
    | _ => cases n <;> cases h
theorem sm_ru : ∀ {n : Nat} {r : Ru}, r.ok n → smD n r.d = true
  | 0, _, h => h.elim
  | n + 1, .w i, h => by cases n <;> rfl
  | n + 1, .l c, h => by cases n <;> rfl
  | n + 1, .two o a b, h => by
    have e : smD n (.str o) = true := by cases n <;> rfl
    simp [Ru.d, smD, e, sm_ru h.2.1, sm_ru h.2.2]
  | n + 1, .iff t a b, h => by
    have e : smD n (.str "if") = true := by cases n <;> rfl
    simp [Ru.d, smD, e, sm_ru h.1, sm_ru h.2.1, sm_ru h.2.2]
theorem sm_bk {es : Bk} (h : BkOk es) : smD 6 (bkD es) = true := by
  have h5 := h.len
  simp only [bkD, smD, Bool.and_eq_true, decide_eq_true_eq, List.all_eq_true, List.length_map]
  refine ⟨by omega, fun d hd => ?_⟩
  obtain ⟨p, hp, rfl⟩ := List.mem_map.mp hd
  have := sm_ru (h.ru p hp)
  simp [entD, smD, this]
/-! ### the book is one -/
theorem nm_ok : ∀ c ∈ [65, 66, 67, 68, 69], isN "ABCDE" (.str (S [c])) = true ∧ PyData.strOk (S [c]) = true := by decide +kernel
theorem nm_asc : ([65, 66, 67, 68, 69].map fun c => S [c]).Pairwise ltS := by
  rw [← chn_pw]
  decide +kernel
theorem fine_ent {p : Nat × Ru} (hc : p.1 ∈ [65, 66, 67, 68, 69]) (hr : p.2.ok 4) : fineD 100 5 (entD p) = true := by
  have h1 := ru_fine hr
  have h2 : fineD 100 4 (.str (S [p.1])) = true := by simp [fineD, (nm_ok _ hc).2]
  simp [entD, fineD, h1, (nm_ok _ hc).2]
theorem fine_bk {es : Bk} (h : BkOk es) : fineD 100 6 (bkD es) = true := by
  have h5 := h.len
  simp only [bkD, fineD, Bool.and_eq_true, decide_eq_true_eq, List.all_eq_true, List.length_map]
  refine ⟨by omega, fun d hd => ?_⟩
  obtain ⟨p, hp, rfl⟩ := List.mem_map.mp hd
  exact fine_ent (h.name hp) (h.ru p hp)
theorem bk_okB {es : Bk} (h : BkOk es) : okB (bkD es) = true := by
  simp only [bkD, okB, Bool.and_eq_true, List.all_eq_true]
  constructor
  · intro d hd
    obtain ⟨p, hp, rfl⟩ := List.mem_map.mp hd
    simp [entD, okE, (nm_ok _ (h.name hp)).1, ru_okR (h.ru p hp)]
  · rw [chn_pw]
    have e : (es.map entD).map nm = (es.map (·.1)).map fun c => S [c] := by simp [entD, nm, Function.comp_def]
    rw [e]
    exact nm_asc.sublist (h.nm.map _)
mutual
theorem fine_below {L m : Nat} : ∀ {n : Nat} {d : D}, fineD L n d = true → below m d = true
  | _, .non, _ => rfl
  | _, .bl _, _ => rfl
  | _, .int _, _ => rfl
  | _, .str _, _ => rfl
  | _, .scr _, _ => rfl
  | n, .loc k, h => by rw [fine_loc] at h; cases h
  | n, .clo t cs, h => by rw [fine_clo] at h; cases h
  | n, .raw cs, h => by rw [fine_raw] at h; cases h
  | 0, .tup ds, h => by cases h
  | 0, .lst ds, h => by cases h
  | n + 1, .tup ds, h => by
    obtain ⟨_, e, _, h2⟩ := fine_tup h
    cases e
    exact fine_belows h2
  | n + 1, .lst ds, h => by
    obtain ⟨_, e, _, h2⟩ := fine_lst h
    cases e
    exact fine_belows h2
theorem fine_belows {L m : Nat} : ∀ {n : Nat} {ds : List D}, (∀ d ∈ ds, fineD L n d = true) → belows m ds = true
  | _, [], _ => rfl
  | n, d :: ds, h => by
    show (below m d && belows m ds) = true
    rw [fine_below (h d List.mem_cons_self), fine_belows fun e he => h e (List.mem_cons_of_mem _ he)]
    rfl
end
/-! ### read -/
theorem init1 (t : List Nat) : setFld flD "signs" 0 (.str (S t)) [.ins "Reader" []] = some [.ins "Reader" [("signs", .str (S t))]] := by kernel_rfl
theorem init2 (t : List Nat) : setFld flD "place" 0 (.int 0) [.ins "Reader" [("signs", .str (S t))]] = some [rd t 0] := by kernel_rfl
theorem r_init (k : Nat) (t : List Nat) : tbl dfs (k + 1) "Reader.__init__" [.loc 0, .str (S t)] [.ins "Reader" []] = .ok .non [rd t 0] := by
  rw [t_Reader___init]
  simp [fnR, rho0, m_Reader___init, init1, init2, cut]
def nm5 : List Nat := [65, 66, 67, 68, 69]
theorem nm_items : itemsD (.str "ABCDE") = some ((nm5.map fun c => [c]).map fun a => .str (S a)) := by kernel_rfl
def rdB (G : Tbl) : Ss := (sSeq (sAsg false 3 (eMeth mlD G "one_of" (eVar 1) [.e (eC (Kc.d (.str "ABCDE")))]))
  (sSeq (sExpr (eMeth mlD G "must" (eVar 1) [.e (eC (.str " = "))]))
  (sSeq (sApp (eVar 2) (eTup [(eVar 3), (eMeth mlD G "rule" (eVar 1) [.e (eC (Kc.d (.int 5)))])]))
  (sExpr (eMeth mlD G "must" (eVar 1) [.e (eC (.str "\n"))])))))
def rdC (G : Tbl) : Sm := eNot (eTru (eMeth mlD G "is_at_end" (eVar 1) []))
section
variable {st : Sto} {n : Nat} {t : List Nat}
theorem rd_step (hn : n < st.length) (ht : t.length ≤ 50000) (k p : Nat) (q : Nat × Ru) (y : List Nat) (hc : q.1 ∈ nm5) (hr : q.2.ok 4) (e : t.drop p = rowT q ++ y) (x : D) (fs : List D) (hl : fs.length ≤ 1000) (e3 e4 : Option Cell) :
    rdB (tbl dfs (k + 6)) [some (.val x), some (.val (.loc n)), some (.own fs), e3, e4] (wr st n t p) = .nx [some (.val x), some (.val (.loc n)), some (.own (fs ++ [entD q])), some (.val (.str (S [q.1]))), e4] (wr st n t (p + (rowT q).length)) := by
  have e0 : t.drop p = [q.1] ++ ([32, 61, 32] ++ (tx q.2 ++ ([10] ++ y))) := by rw [e]; simp [rowT]
  have e1 := drop_next e0
  have e2 := drop_next e1
  have e3' := drop_next e2
  have q1 := w_one hn ht (k + 4) p (w := .str "ABCDE") rfl rfl nm_items (fun a ha => by obtain ⟨c, _, rfl⟩ := List.mem_map.mp ha; simp)
  rw [sg_find hc (c := q.1) e0] at q1
  have q2 := w_must_ok hn ht (k + 4) e1 (by decide)
  have q3 := w_rule hn ht 4 k q.2 5 _ _ hr (by decide) e2
  have q4 := w_must_ok hn ht (k + 4) e3' (by decide)
  have ap : ∀ d, appD d fs = some (fs ++ [d]) := fun d => app_ev (by rw [sizeLine_eq]; omega)
  have hz : p + (rowT q).length = p + [q.1].length + [32, 61, 32].length + (tx q.2).length + [10].length := by
    simp only [rowT, List.length_append, List.length_cons, List.length_nil]; omega
  rw [hz]
  rw [show k + 4 + 2 = k + 6 from rfl] at q1 q2 q3 q4
  simp only [List.length_cons, List.length_nil, Nat.zero_add] at q1 q2 q3 q4
  simp only [rdB, l8, l9]
  simp [wr_ins hn, ml_one, ml_must, ml_rule, Kc.d, q1, q2, q3, q4, ap, entD]
theorem rd_loop (hn : n < st.length) (ht : t.length ≤ 50000) (k : Nat) (x : D) (e4 : Option Cell) : ∀ (es : Bk) (fu : Nat) (fs : Bk) (p : Nat) (e3 : Option Cell), es.length < fu → fs.length + es.length ≤ 5 → (∀ q ∈ es, q.1 ∈ nm5 ∧ q.2.ok 4) → t.drop p = bkT es → p ≤ t.length →
    ∃ e3', wLoop (rdC (tbl dfs (k + 6))) (rdB (tbl dfs (k + 6))) fu [some (.val x), some (.val (.loc n)), some (.own (fs.map entD)), e3, e4] (wr st n t p) = .nx [some (.val x), some (.val (.loc n)), some (.own ((fs ++ es).map entD)), e3', e4] (wr st n t t.length)
  | _, 0, _, _, _, hf, _, _, _, _ => by omega
  | [], fu + 1, fs, p, e3, _, _, _, e, hp => by
    have hp' : p = t.length := by
      have := congrArg List.length e
      simp [bkT] at this
      omega
    subst hp'
    refine ⟨e3, ?_⟩
    have q := w_end hn ht (k + 5) t.length
    rw [wLoop_succ]
    simp [rdC, wr_ins hn, ml_end, q]
  | r :: es, fu + 1, fs, p, e3, hf, hl, h, e, hp => by
    have e' : t.drop p = rowT r ++ bkT es := e
    have hlen := congrArg List.length e'
    rw [List.length_drop, List.length_append] at hlen
    have hr1 : 5 ≤ (rowT r).length := by simp [rowT]
    have hne : p ≠ t.length := by omega
    have q := w_end hn ht (k + 5) p
    simp only [List.length_cons] at hf hl
    obtain ⟨hc, hr⟩ := h r List.mem_cons_self
    have s := rd_step hn ht k p r (bkT es) hc hr e' x (fs.map entD) (by simp; omega) e3 e4
    obtain ⟨e3', ih⟩ := rd_loop hn ht k x e4 es fu (fs ++ [r]) (p + (rowT r).length) (some (.val (.str (S [r.1])))) (by omega) (by simp; omega) (fun q hq => h q (List.mem_cons_of_mem _ hq)) (drop_next e') (by omega)
    refine ⟨e3', ?_⟩
    rw [wLoop_succ]
    have hcnd : rdC (tbl dfs (k + 6)) [some (.val x), some (.val (.loc n)), some (.own (fs.map entD)), e3, e4] (wr st n t p) = .ok (.d (.bl true)) (wr st n t p) := by
      simp [rdC, wr_ins hn, ml_end, q, hne]
    rw [hcnd]
    simp only [onR_ok, onT_bl, if_true, s]
    rw [List.map_append] at ih
    refine ih.trans ?_
    simp
end
theorem r_read (k : Nat) (es : Bk) (h : BkOk es) : tbl dfs (k + 10) "read" [.str (S (bkT es))] [] = .ok (bkD es) [] := by
  have h5 := h.len
  have hb := bk_len h.ru
  rw [show k + 10 = (k + 9) + 1 from rfl, t_read]
  have e0 : ([rd (bkT es) 0] : Sto) = wr [rd (bkT es) 0] 0 (bkT es) 0 := rfl
  have q0 := r_init (k + 8) (bkT es)
  rw [e0] at q0
  obtain ⟨e3', q1⟩ := rd_loop (st := [rd (bkT es) 0]) (n := 0) (t := bkT es) (by simp) (by omega) (k + 3) (.str (S (bkT es))) none es 400 [] 0 none (by omega) (by simpa using h5) (fun q hq => ⟨h.name hq, h.ru q hq⟩) rfl (Nat.zero_le _)
  have q2 := r_book k (bkD es) (wr [rd (bkT es) 0] 0 (bkT es) (bkT es).length) (fine_bk h) (by decide)
  rw [bk_okB h] at q2
  have q3 := r_written (k + 4) es (wr [rd (bkT es) 0] 0 (bkT es) (bkT es).length) h
  rw [show k + 3 + 6 = k + 9 from rfl] at q1
  rw [show k + 4 + 5 = k + 9 from rfl] at q3
  have cw : cut 0 (bkD es) (wr [rd (bkT es) 0] 0 (bkT es) (bkT es).length) = [] := by
    unfold cut
    rw [if_neg (by simp [wr]), fine_below (fine_bk h)]
    simp
  have vb : ∀ rh st, view rh st (.d (bkD es)) = some (bkD es) := fun _ _ => rfl
  have e1 : ∀ rh, sWhile (eNot (eTru (eMeth mlD (tbl dfs (k + 9)) "is_at_end" (eVar 1) []))) (rdB (tbl dfs (k + 9))) rh = wLoop (rdC (tbl dfs (k + 9))) (rdB (tbl dfs (k + 9))) 400 rh := fun _ => rfl
  have e2 : m_read (tbl dfs (k + 9)) = (sSeq (sAsg false 1 (eMake (tbl dfs (k + 9)) "Reader" "Reader.__init__" [.e (eVar 0)]))
    (sSeq (sAsg true 2 (eLst []))
    (sSeq (sWhile (eNot (eTru (eMeth mlD (tbl dfs (k + 9)) "is_at_end" (eVar 1) []))) (rdB (tbl dfs (k + 9))))
    (sSeq (sAsg false 4 (eB1 .tuple (eVar 2)))
    (sSeq (sIf (eOr (eNot (eTru (eCall (tbl dfs (k + 9)) "is_book" [.e (eVar 4)]))) (eCmp .NotEq (eCall (tbl dfs (k + 9)) "written" [.e (eVar 4)]) (eVar 0)))
    (sRaise "NoText")
    sNil)
    (sRet (eVar 4))))))) := rfl
  rw [e2]
  have q1' : wLoop (rdC (tbl dfs (k + 9))) (rdB (tbl dfs (k + 9))) 400 [some (.val (.str (S (bkT es)))), some (.val (.loc 0)), some (.own []), none, none] (wr [rd (bkT es) 0] 0 (bkT es) 0) = _ := q1
  have bd : D.tup (es.map entD) = bkD es := rfl
  simp [fnR, rho0, q0, e1, q1', bd, q2, q3, cw]
end KW

namespace KW
open PySem L2 KL KU

theorem r_lread (k : Nat) (es : Bk) (h : BkOk es) : tbl dfs (k + 11) "_law_read" [.str (S (bkT es))] [] = .ok (bkD es) [] := by
  rw [show k + 11 = (k + 10) + 1 from rfl, t_law_read]
  have q := r_read k es h
  have e : sRet (eCall (tbl dfs (k + 10)) "read" [.e (eVar 0)]) [some (.val (.str (S (bkT es))))] [] = .rt (bkD es) [] := by simp [q]
  have e0 : fnR 1 (m_law_read (tbl dfs (k + 10))) [.str (S (bkT es))] [] = fin 0 (sTry ["LookError", "NoText"] (sRet (eCall (tbl dfs (k + 10)) "read" [.e (eVar 0)])) (sRet (eC .non)) [some (.val (.str (S (bkT es))))] []) := rfl
  rw [e0, sTry_rt e]
  rfl
abbrev G : Tbl := tbl dfs 29
def b4 : Ss := (sIf (eAnd (eCmp .LtE (eB1 .len (eCall G "_law_written" [.e (eTup [(eVar 4)])])) (eC (.int 90))) (eNot (eTru (eCall G "_law_same" [.e (eCall G "_law_read" [.e (eCall G "_law_written" [.e (eTup [(eVar 4)])])]), .e (eTup [(eVar 4)])]))))
  (sRet (eC (.bl false)))
  sNil)
theorem ent_view (p : Nat × Ru) (rh : Rho) (st : Sto) : view rh st (.d (entD p)) = some (entD p) := rfl
theorem lenS (l : List Nat) (h : l.length ≤ 50000) (st : Sto) : lenD st (.str (S l)) = some (.int l.length) := by
  rw [len_str (by rw [S_len]; exact szB (by omega)), S_len]
theorem step4 (p : Nat × Ru) (h : BkOk [p]) (v0 v1 v2 v3 : Option Cell) : b4 [v0, v1, v2, v3, some (.val (entD p))] [] = .nx [v0, v1, v2, v3, some (.val (entD p))] [] := by
  have q1 := r_law_written 24 [p] [] h
  have q2 := r_lread 18 [p] h
  have q3 := r_same [] 6 22 (bkD [p]) (sm_bk h)
  have hb := bk_len h.ru
  have bd : D.tup [entD p] = bkD [p] := rfl
  have ll := lenS (bkT [p]) (by simp only [List.length_cons, List.length_nil] at hb; omega) []
  simp only [b4]
  by_cases h9 : ((bkT [p]).length : Int) ≤ 90
  · simp [bd, q1, q2, q3, ll, h9]
  · simp [bd, q1, q2, q3, ll, h9]
theorem loop4 (v0 v1 v2 v3 : Option Cell) : ∀ (es : Bk) (e4 : Option Cell), (∀ p ∈ es, BkOk [p]) → ∃ e4', sLoop (.name 4) b4 (es.map entD) [v0, v1, v2, v3, e4] [] = .nx [v0, v1, v2, v3, e4'] []
  | [], e4, _ => ⟨e4, rfl⟩
  | p :: es, e4, h => by
    obtain ⟨e4', ih⟩ := loop4 v0 v1 v2 v3 es (some (.val (entD p))) fun q hq => h q (List.mem_cons_of_mem _ hq)
    refine ⟨e4', ?_⟩
    have s := step4 p (h p List.mem_cons_self) v0 v1 v2 v3
    rw [List.map_cons, sLoop_cons]
    simp only [tg_name_ev, List.set_cons_succ, List.set_cons_zero, s, ih]
def lawB : Ss := (sSeq (sAsg false 2 (eCall G "_law_book" [.e (eBin .Add (eCall G "_law_cell" [.e (eVar 0), .e (eBin .Mod (eVar 1) (eC (.int 9)))]) (eBin .Mult (eC (.int 31)) (eVar 1)))]))
  (sSeq (sAsg false 3 (eCall G "_law_written" [.e (eVar 2)]))
  (sSeq (sIf (eNot (eTru (eCall G "_law_same" [.e (eCall G "written" [.e (eVar 2)]), .e (eVar 3)])))
  (sRet (eC (.bl false)))
  sNil)
  (sSeq (sFor (.name 4) (iOneP itemsD (eVar 2)) b4)
  (sIf (eAnd (eCmp .LtE (eB1 .len (eVar 3)) (eC (.int 90))) (eNot (eTru (eCall G "_law_same" [.e (eCall G "_law_read" [.e (eVar 3)]), .e (eVar 2)]))))
  (sRet (eC (.bl false)))
  sNil)))))
theorem stepL (ns : List Int) (j : Int) (hj : 0 ≤ j) (v2 v3 v4 : Option Cell) : ∃ v2' v3' v4', lawB [some (.val (.scr ns)), some (.val (.int j)), v2, v3, v4] [] = .nx [some (.val (.scr ns)), some (.val (.int j)), v2', v3', v4'] [] := by
  obtain ⟨c, qc⟩ := r_cell 28 ns (j % 9) [] (Int.emod_nonneg _ (by decide))
  obtain ⟨es, h, qb⟩ := r_lawbook 23 (c + 31 * j) []
  have q1 := r_law_written 24 es [] h
  have q2 := r_written 24 es [] h
  have q3 := r_same [] 0 28 (.str (S (bkT es))) rfl
  have q4 := r_lread 18 es h
  have q5 := r_same [] 6 22 (bkD es) (sm_bk h)
  have h5 := h.len
  have hb := bk_len h.ru
  have ll := lenS (bkT es) (by omega) []
  obtain ⟨e4', q6⟩ := loop4 (some (.val (.scr ns))) (some (.val (.int j))) (some (.val (bkD es))) (some (.val (.str (S (bkT es))))) es v4 fun p hp => h.one hp
  have mu := bin_mul_l (i := 31) (j := j) (by decide)
  have md := bin_mod (i := j) (j := 9) (by decide)
  refine ⟨some (.val (bkD es)), some (.val (.str (S (bkT es)))), e4', ?_⟩
  have it : itemsD (bkD es) = some (es.map entD) := rfl
  have nl : notLoc (.d (bkD es)) = true := rfl
  simp only [lawB]
  by_cases h9 : ((bkT es).length : Int) ≤ 90
  · simp [qc, qb, q1, q2, q3, q4, q5, q6, mu, md, ll, h9, it, nl]
  · simp [qc, qb, q1, q2, q3, q4, q5, q6, mu, md, ll, h9, it, nl]
theorem loopL (ns : List Int) : ∀ (js : List Int) (v1 v2 v3 v4 : Option Cell), (∀ j ∈ js, 0 ≤ j) → ∃ v1' v2' v3' v4', sLoop (.name 1) lawB (js.map .int) [some (.val (.scr ns)), v1, v2, v3, v4] [] = .nx [some (.val (.scr ns)), v1', v2', v3', v4'] []
  | [], v1, v2, v3, v4, _ => ⟨v1, v2, v3, v4, rfl⟩
  | j :: js, v1, v2, v3, v4, h => by
    obtain ⟨v2', v3', v4', s⟩ := stepL ns j (h j List.mem_cons_self) v2 v3 v4
    obtain ⟨w1, w2, w3, w4, ih⟩ := loopL ns js (some (.val (.int j))) v2' v3' v4' fun i hi => h i (List.mem_cons_of_mem _ hi)
    refine ⟨w1, w2, w3, w4, ?_⟩
    rw [List.map_cons, sLoop_cons]
    simp only [tg_name_ev, List.set_cons_succ, List.set_cons_zero, s, ih]
def intsTo (n : Nat) : List Int := (List.range n).map fun (i : Nat) => (i : Int)
theorem rngI (n : Nat) (h : n < 1000) : rng1 (.int n) = some ((intsTo n).map .int) := by
  rw [rng1_ev (by omega)]
  simp [intsTo]
def bkF : Bk := [(65, .iff (.l 97) (.w 0) (.two "plus" (.l 69) (.w 2)))]
theorem bkF_ok : BkOk bkF := ⟨List.singleton_sublist.mpr (by decide), fun p hp => by
  rw [List.mem_singleton.mp hp]
  refine ⟨?_, ?_, ?_, ?_, ?_⟩
  · show (97 : Nat) ∈ ab8; decide
  · exact .inl rfl
  · kernel_rfl
  · show (69 : Nat) ∈ ab8; decide
  · exact .inr (.inr rfl)⟩
theorem bkF_T : ("A = [a ? 0 : (E plus 2)]\n" : Str) = S (bkT bkF) := by kernel_rfl
theorem bkF_D : D.tup [D.tup [D.str "A", D.tup [D.str "if", D.tup [D.str "look", D.str "a"], D.tup [D.str "worth", D.int 0], D.tup [D.str "plus", D.tup [D.str "look", D.str "E"], D.tup [D.str "worth", D.int 2]]]]] = bkD bkF := by kernel_rfl
theorem bkF_eq {st : Sto} : cmpD st .Eq (bkD bkF) (bkD bkF) = some true := by kernel_rfl
theorem nil_ne {st : Sto} : cmpD st .NotEq (bkD []) (.tup []) = some false := by kernel_rfl
theorem plain (ns : List Int) (hn : ns.length ≤ 63) : ∃ st, tbl dfs 30 "law" [.scr ns] [] = .ok (.bl true) st := by
  refine ⟨[], ?_⟩
  rw [show (30 : Nat) = 29 + 1 from rfl, t_law]
  obtain ⟨v1, v2, v3, v4, q⟩ := loopL ns (intsTo 12) none none none none (by decide)
  have rg := rngI 12 (by decide)
  have e0 : m_law G = sSeq (sFor (.name 1) (iOne rng1 (eC (.int 12))) lawB) (sSeq (sIf (eCmp .NotEq (eCall G "_law_read" [.e (eC (.str ""))]) (eTup []))
    (sRet (eC (.bl false)))
    sNil)
    (sSeq (sAsg false 2 (eTup [(eTup [(eC (.str "A")), (eTup [(eC (.str "if")), (eTup [(eC (.str "look")), (eC (.str "a"))]), (eTup [(eC (.str "worth")), (eC (.int 0))]), (eTup [(eC (.str "plus")), (eTup [(eC (.str "look")), (eC (.str "E"))]), (eTup [(eC (.str "worth")), (eC (.int 2))])])])])]))
    (sRet (eAnd (eCmp .Eq (eCall G "written" [.e (eVar 2)]) (eC (.str "A = [a ? 0 : (E plus 2)]\n"))) (eCmp .Eq (eCall G "_law_read" [.e (eC (.str "A = [a ? 0 : (E plus 2)]\n"))]) (eVar 2)))))) := rfl
  rw [e0]
  have q1 := r_lread 18 [] BkOk.nil
  have q2 := r_written 24 bkF [] bkF_ok
  have q3 := r_lread 18 bkF bkF_ok
  have s0 : ("" : Str) = S (bkT []) := l0
  have nn : cmpD [] .NotEq (bkD []) (.tup []) = some false := nil_ne
  have vb : ∀ (es : Bk) (rh : Rho) (st : Sto), view rh st (.d (bkD es)) = some (bkD es) := fun _ _ _ => rfl
  have ee : cmpD [] .Eq (bkD bkF) (bkD bkF) = some true := bkF_eq
  have rg' : rng1 (.int 12) = some ((intsTo 12).map .int) := rg
  simp only [fnR, rho0, List.map_cons, List.map_nil, sSeq_ev, sFor_ev, s0, bkF_T]
  simp [rg', q, q1, q2, q3, nn, vb, ee, bkF_D]
  rfl
end KW

namespace KW
open PySem PySem.W PySem.Calls PyProof.Rows KL
abbrev R : PySem.W.OpenRow := PySem.W.OpenLaw.row PySem.Challenge.rw_keptlooks_k15_texts
abbrev hk : PySem.W.Hook := hkOf pg
def ob (s : PySem.W.SharedT) : He.AlX := He.obsX 4 (faOf pg) (pg.dfs.map (·.d)) [] [] (exOf pg.ks) (HandSHeadRun.getT s)
theorem ob_eq (s : PySem.W.SharedT) : ob s = hk.obs s.abs := He.obsX_eq (HandSHeadRun.getT_eq s)
theorem run (w : World) : HandSHeadRun.RunEq R (PySem.W.view R.prog [31]) hk ob 2000 ["__name__", "rule_text", "written", "LookError", "NoText", "CELLS", "ASKS", "TWO", "DEEPEST", "is_name", "is_worth", "is_rule_in", "is_rule", "is_entry", "is_book", "MOST_DEEP", "Reader", "read", "_law_cell", "_law_mix", "_law_same", "_law_rule", "_law_book", "_law_later", "_law_text", "_law_written", "_law_read"] w := by
  intro os
  kernel_rfl
theorem holds_of (plain : ∀ ns : List Int, ns.length ≤ 63 → ∃ st, tbl dfs 30 "law" [.scr ns] [] = .ok (.bl true) st) : PySem.Challenge.rw_keptlooks_k15_texts.Holds := by
  w_on; o_law
  refine HandSHeadRun.head_any (r := R) (q := view R.prog [31]) (H := hk) (ob := ob) (M := 2000) (loose := ["__name__", "rule_text", "written", "LookError", "NoText", "CELLS", "ASKS", "TWO", "DEEPEST", "is_name", "is_worth", "is_rule_in", "is_rule", "is_entry", "is_book", "MOST_DEEP", "Reader", "read", "_law_cell", "_law_mix", "_law_same", "_law_rule", "_law_book", "_law_later", "_law_text", "_law_written", "_law_read"]) (d := HandSHeadRun.topDef R.prog 31) (kwd := []) ob_eq
    (by kernel_rfl) (fun s => by kernel_rfl) run (by kernel_rfl) (by kernel_rfl) (by kernel_rfl) (by rfl) (by first | assumption | decide +kernel) (by decide +kernel) ⟨rfl, rfl, rfl, rfl, rfl, by decide +kernel⟩ ?hw ?hc
  case hw => w_witness2
  case hc =>
    exact walk_row (l := PySem.Challenge.rw_keptlooks_k15_texts) (dl := f_law) (x := "script") rfl (by kernel_rfl) ⟨rfl, by decide, by decide⟩ (by kernel_rfl) pg_ok ok_all (by kernel_rfl) rfl rfl rfl plain
end KW
theorem PySem.Challenge.cw_keptlooks_k15_texts_holds : PySem.Challenge.rw_keptlooks_k15_texts.Holds :=
  KW.holds_of KW.plain
