import PyProof.Rows.All
import Wide.All
import OpenK.AllK
import Wide.FinOn
import KE.KStateDown
import Lean
import HandS.ForMost
import HandS.Exc
import HandS.Ends
import HandS.More
import HandS.Words
import HandS.WordsExc
import HandS.Defaults
import HandS.TupAny
import HandS.TupLe
import HandS.Zip
import HandS.IsInst
import HandS.Head0
import HandS.Head1
import HandS.Head2
import HandS.HeadEnd
import HandS.HeadHook1
import HandS.HeadHook2
import HandS.RaiseMore
import PyProof.ListStr
import KE.GoesMore
import HandS.Style
import HandS.Set
import HandS.SetFor
import HandS.Strs
import PyProof.Rows.SetFrom
import PyProof.Rows.SortShellAny
import PyProof.Rows.SortStr
import HandS.Replace
import HandS.HeadHook4
import HandS.HeadWalk
import PySem.Challenge.RW_keptlooks_k01_books
set_option Elab.async false
set_option linter.all false
set_option maxRecDepth 100000
set_option maxHeartbeats 0
namespace KL
open PySem L2

/-! ### data, store, results -/
inductive D where
  | non | bl (b : Bool) | int (i : Int) | str (x : Str) | tup (ds : List D) | lst (ds : List D) | loc (n : Nat) | scr (ns : List Int)
inductive O where
  | lst (ds : List D) | dct (kvs : List (Str × D)) | ins (C : Str) (fs : List (Str × D))
abbrev Sto := List O
inductive R (α : Type) where
  | ok (a : α) (st : Sto) | ex (c : Str) (st : Sto) | no
def R.bind {α β : Type} (r : R α) (k : α → Sto → R β) : R β := match r with
  | .ok a st => k a st
  | .ex c st => .ex c st
  | .no => .no
/-- a name's content: a value, or a list that the frame alone holds -/
inductive Cell where
  | val (d : D) | own (ds : List D)
abbrev Rho := List (Option Cell)
/-- what an expression gives: a value, a look at an own list, a new list that nobody holds yet -/
inductive TV where
  | d (d : D) | o (i : Nat) | fr (ds : List D)
abbrev Sm := Rho → Sto → R TV

/-! ### relations -/
structure Ct where
  K : PySem.W.Frag
  ca : Str → Addr
  xc : Str → Value
def KTup (K : PySem.W.Frag) (a : Addr) (xs : List V) : Prop := ∃ (o : Obj) (its : Array Value) (n : Nat), K.lookup a = some o ∧ o.cls = .type "tuple" ∧ o.data = .seq its n ∧ its.size ≤ sizeLine ∧ Vals xs its.toList
def KLst (K : PySem.W.Frag) (a : Addr) (xs : List V) : Prop := ∃ (o : Obj) (its : Array Value) (n : Nat), K.lookup a = some o ∧ o.cls = .type "list" ∧ o.dict = none ∧ o.data = .seq its n ∧ its.size ≤ sizeLine ∧ Vals xs its.toList
mutual
inductive Rv (c : Ct) (F : Hp) (io : List Addr) : V → D → Prop
  | non : Rv c F io .non .non
  | bl (b : Bool) : Rv c F io (.bl b) (.bl b)
  | int (i : Int) : Rv c F io (.int i) (.int i)
  | str (x : Str) : Rv c F io (.str x) (.str x)
  | tup {a : Addr} {vs : List V} {ds : List D} : ((F a = some (.tup vs) ∧ a ∉ io) ∨ KTup c.K a vs) → RvAll c F io vs ds → Rv c F io (.ref a) (.tup ds)
  | lst {a : Addr} {vs : List V} {ds : List D} : F a = some (.lst vs) → a ∉ io → RvAll c F io vs ds → Rv c F io (.ref a) (.lst ds)
  | loc {a : Addr} {n : Nat} : io[n]? = some a → Rv c F io (.ref a) (.loc n)
  | scr {a : Addr} {ns : List Int} : ((Rd F a (.lst (ns.map V.int)) ∧ a ∉ io) ∨ KLst c.K a (ns.map V.int)) → Rv c F io (.ref a) (.scr ns)
inductive RvAll (c : Ct) (F : Hp) (io : List Addr) : List V → List D → Prop
  | nil : RvAll c F io [] []
  | cons {v : V} {vs : List V} {d : D} {ds : List D} : Rv c F io v d → RvAll c F io vs ds → RvAll c F io (v :: vs) (d :: ds)
end
/-- the named values, in order -/
inductive RvF (c : Ct) (F : Hp) (io : List Addr) : List (Str × V) → List (Str × D) → Prop
  | nil : RvF c F io [] []
  | cons {x : Str} {v : V} {vs : List (Str × V)} {d : D} {ds : List (Str × D)} : Rv c F io v d → RvF c F io vs ds → RvF c F io ((x, v) :: vs) ((x, d) :: ds)
def Ob (c : Ct) (F : Hp) (io : List Addr) (a : Addr) : O → Prop
  | .lst ds => ∃ vs, F a = some (.lst vs) ∧ RvAll c F io vs ds
  | .dct kvs => ∃ vs, F a = some (.dK (vs.map fun p => (Sum.inr p.1, p.2))) ∧ RvF c F io vs kvs
  | .ins C fs => ∃ dx vs, F a = some (.ins (c.ca C) dx vs) ∧ F dx = some (.own a) ∧ dx ∉ io ∧ RvF c F io vs fs
structure Sim (c : Ct) (F : Hp) (io : List Addr) (st : Sto) : Prop where
  len : io.length = st.length
  nd : io.Nodup
  ob : ∀ (n : Nat) (a : Addr) (o : O), io[n]? = some a → st[n]? = some o → Ob c F io a o
/-- from one state to a later one: F what is leant on, io the store's places, H the heap -/
structure Stp (F : Hp) (io : List Addr) (H F' : Hp) (io' : List Addr) (H' : Hp) : Prop where
  sub : ∀ a o, F' a = some o → H' a = some o
  ext : ∃ more, io' = io ++ more
  per : ∀ a o, F a = some o → a ∉ io → F' a = some o
  new : ∀ a, F' a ≠ none → F a ≠ none ∨ H a = none
  fr : ∀ a o, H a = some o → a ∉ io → H' a = some o
  gro : ∀ a, H' a = none → H a = none
  nio : ∀ a, a ∈ io' → a ∈ io ∨ H a = none

section
variable {c : Ct} {F F' F1 F2 H H' H1 H2 : Hp} {io io' io1 io2 : List Addr} {st st' : Sto}
theorem Ob.dom {a : Addr} {o : O} (h : Ob c F io a o) : F a ≠ none := by
  cases o with
  | lst ds => obtain ⟨vs, e, _⟩ := h; rw [e]; simp
  | dct kvs => obtain ⟨vs, e, _⟩ := h; rw [e]; simp
  | ins C fs => obtain ⟨dx, vs, e, _⟩ := h; rw [e]; simp
theorem Sim.dom (h : Sim c F io st) {a : Addr} (ha : a ∈ io) : F a ≠ none := by
  obtain ⟨n, hn⟩ := List.getElem?_of_mem ha
  have hl : n < st.length := by rw [← h.len]; exact (List.getElem?_eq_some_iff.mp hn).1
  exact (h.ob n a _ hn (List.getElem?_eq_getElem hl)).dom
theorem Stp.refl (hs : ∀ a o, F a = some o → H a = some o) : Stp F io H F io H :=
  ⟨hs, ⟨[], by simp⟩, fun _ _ h _ => h, fun _ h => .inl h, fun _ _ h _ => h, fun _ h => h, fun _ h => .inl h⟩
theorem Stp.trans (hs : ∀ a o, F a = some o → H a = some o) (a : Stp F io H F1 io1 H1) (b : Stp F1 io1 H1 F2 io2 H2) : Stp F io H F2 io2 H2 := by
  have nin : ∀ x o, H x = some o → x ∉ io → x ∉ io1 := fun x o h hn hx => by
    rcases a.nio x hx with z | z
    · exact hn z
    · rw [h] at z; cases z
  refine ⟨b.sub, ?_, fun x o h hn => b.per x o (a.per x o h hn) (nin x o (hs x o h) hn), fun x h => ?_, fun x o h hn => b.fr x o (a.fr x o h hn) (nin x o h hn), fun x h => a.gro x (b.gro x h), fun x h => ?_⟩
  · obtain ⟨m1, e1⟩ := a.ext
    obtain ⟨m2, e2⟩ := b.ext
    exact ⟨m1 ++ m2, by rw [e2, e1, List.append_assoc]⟩
  · rcases b.new x h with z | z
    · exact a.new x z
    · exact .inr (a.gro x z)
  · rcases b.nio x h with z | z
    · exact a.nio x z
    · exact .inr (a.gro x z)
theorem Stp.stays (S : Stp F io H F' io' H') (hs : ∀ a o, F a = some o → H a = some o) {a : Addr} {o : HO} (h : F a = some o) (hn : a ∉ io) : a ∉ io' := fun hx => by
  rcases S.nio a hx with z | z
  · exact hn z
  · rw [hs a o h] at z; cases z
theorem Stp.ix (S : Stp F io H F' io' H') {n : Nat} {a : Addr} (h : io[n]? = some a) : io'[n]? = some a := by
  obtain ⟨m, e⟩ := S.ext
  rw [e, List.getElem?_append_left (List.getElem?_eq_some_iff.mp h).1]
  exact h
mutual
theorem Rv.step {v : V} {d : D} (S : Stp F io H F' io' H') (hs : ∀ a o, F a = some o → H a = some o) : Rv c F io v d → Rv c F' io' v d
  | .non => .non
  | .bl b => .bl b
  | .int i => .int i
  | .str x => .str x
  | .tup h r => .tup (h.imp (fun h => ⟨S.per _ _ h.1 h.2, S.stays hs h.1 h.2⟩) id) (RvAll.step S hs r)
  | .lst h n r => .lst (S.per _ _ h n) (S.stays hs h n) (RvAll.step S hs r)
  | .loc h => .loc (S.ix h)
  | .scr h => .scr (h.imp (fun ⟨h, n⟩ => by
      rcases h with h | ⟨o, h⟩
      · exact ⟨.inl (S.per _ _ h n), S.stays hs h n⟩
      · exact ⟨.inr ⟨o, S.per _ _ h n⟩, S.stays hs h n⟩) id)
theorem RvAll.step {vs : List V} {ds : List D} (S : Stp F io H F' io' H') (hs : ∀ a o, F a = some o → H a = some o) : RvAll c F io vs ds → RvAll c F' io' vs ds
  | .nil => .nil
  | .cons h r => .cons (Rv.step S hs h) (RvAll.step S hs r)
end
theorem RvF.step (S : Stp F io H F' io' H') (hs : ∀ a o, F a = some o → H a = some o) : ∀ {vs : List (Str × V)} {ds : List (Str × D)}, RvF c F io vs ds → RvF c F' io' vs ds
  | _, _, .nil => .nil
  | _, _, .cons h r => .cons (h.step S hs) (RvF.step S hs r)
/-- the store's objects left as they are -/
theorem Sim.step (h : Sim c F io st) (S : Stp F io H F' io' H') (hs : ∀ a o, F a = some o → H a = some o) (he : io' = io) (hk : ∀ a ∈ io, F' a = F a) : Sim c F' io' st := by
  subst he
  refine ⟨h.len, h.nd, fun n a o e1 e2 => ?_⟩
  have q := h.ob n a o e1 e2
  have ka := hk a (List.mem_of_getElem? e1)
  cases o with
  | lst ds => obtain ⟨vs, e, r⟩ := q; exact ⟨vs, by rw [ka]; exact e, r.step S hs⟩
  | dct kvs => obtain ⟨vs, e, r⟩ := q; exact ⟨vs, by rw [ka]; exact e, r.step S hs⟩
  | ins C fs => obtain ⟨dx, vs, e, e2, e3, r⟩ := q; exact ⟨dx, vs, by rw [ka]; exact e, S.per _ _ e2 e3, e3, r.step S hs⟩
theorem RvAll.length : ∀ {vs : List V} {ds : List D}, RvAll c F io vs ds → vs.length = ds.length
  | _, _, .nil => rfl
  | _, _, .cons _ r => by rw [List.length_cons, List.length_cons, r.length]
theorem RvAll.append : ∀ {vs ws : List V} {ds es : List D}, RvAll c F io vs ds → RvAll c F io ws es → RvAll c F io (vs ++ ws) (ds ++ es)
  | _, _, _, _, .nil, s => s
  | _, _, _, _, .cons h r, s => .cons h (r.append s)
theorem RvAll.get : ∀ {vs : List V} {ds : List D} {i : Nat} {d : D}, RvAll c F io vs ds → ds[i]? = some d → ∃ v, vs[i]? = some v ∧ Rv c F io v d
  | _, _, 0, _, .cons h _, e => by simp at e; subst e; exact ⟨_, rfl, h⟩
  | _, _, i + 1, d, .cons _ r, e => by
    obtain ⟨v, e1, e2⟩ := RvAll.get (i := i) (d := d) r (by simpa using e)
    exact ⟨v, by simpa using e1, e2⟩
  | _, _, _, _, .nil, e => by simp at e
theorem RvAll.getV : ∀ {vs : List V} {ds : List D} {i : Nat} {v : V}, RvAll c F io vs ds → vs[i]? = some v → ∃ d, ds[i]? = some d ∧ Rv c F io v d
  | _, _, 0, _, .cons h _, e => by simp at e; subst e; exact ⟨_, rfl, h⟩
  | _, _, i + 1, d, .cons _ r, e => by
    obtain ⟨v, e1, e2⟩ := RvAll.getV (i := i) (v := d) r (by simpa using e)
    exact ⟨v, by simpa using e1, e2⟩
  | _, _, _, _, .nil, e => by simp at e
theorem RvAll.take (n : Nat) : ∀ {vs : List V} {ds : List D}, RvAll c F io vs ds → RvAll c F io (vs.take n) (ds.take n) := by
  induction n with
  | zero => intro vs ds h; simp; exact .nil
  | succ n ih =>
    intro vs ds h
    cases h with
    | nil => simp; exact .nil
    | cons h r => simp; exact .cons h (ih r)
theorem RvAll.drop (n : Nat) : ∀ {vs : List V} {ds : List D}, RvAll c F io vs ds → RvAll c F io (vs.drop n) (ds.drop n) := by
  induction n with
  | zero => intro vs ds h; simpa using h
  | succ n ih =>
    intro vs ds h
    cases h with
    | nil => simp; exact .nil
    | cons h r => simpa using ih r
end

/-! ### the frame -/
structure Bs where
  F : Hp
  io : List Addr
  H : Hp
structure Good (c : Ct) (B : Bs) (F : Hp) (io : List Addr) (st : Sto) (rh : Rho) (σ : St) (H : Hp) : Prop where
  bsub : ∀ a o, B.F a = some o → B.H a = some o
  len : rh.length = σ.length
  stp : Stp B.F B.io B.H F io H
  sim : Sim c F io st
  val : ∀ (i : Nat) (d : D), rh[i]? = some (some (.val d)) → ∃ v, σ[i]? = some (some v) ∧ Rv c F io v d
  own : ∀ (i : Nat) (ds : List D), rh[i]? = some (some (.own ds)) → ∃ a vs, σ[i]? = some (some (.ref a)) ∧ H a = some (.lst vs) ∧ F a = none ∧ B.H a = none ∧ RvAll c F io vs ds
  dis : ∀ (i j : Nat) (ds es : List D) (v : V), rh[i]? = some (some (.own ds)) → rh[j]? = some (some (.own es)) → σ[i]? = some (some v) → σ[j]? = some (some v) → i = j
section
variable {c : Ct} {B : Bs} {F F' H H' : Hp} {io io' : List Addr} {st st' : Sto} {rh : Rho} {σ : St}
theorem Good.sub (g : Good c B F io st rh σ H) : ∀ a o, F a = some o → H a = some o := g.stp.sub
theorem Good.step (g : Good c B F io st rh σ H) (S : Stp F io H F' io' H') (s' : Sim c F' io' st') : Good c B F' io' st' rh σ H' := by
  refine ⟨g.bsub, g.len, g.stp.trans g.bsub S, s', fun i d e => ?_, fun i ds e => ?_, g.dis⟩
  · obtain ⟨v, e1, r⟩ := g.val i d e
    exact ⟨v, e1, r.step S g.sub⟩
  · obtain ⟨a, vs, e1, e2, e3, e4, r⟩ := g.own i ds e
    have nio : a ∉ io := fun h => g.sim.dom h e3
    refine ⟨a, vs, e1, S.fr a _ e2 nio, ?_, e4, r.step S g.sub⟩
    cases q : F' a with
    | none => rfl
    | some o =>
      rcases S.new a (by rw [q]; simp) with z | z
      · exact absurd e3 z
      · rw [e2] at z; cases z
theorem Good.fresh (g : Good c B F io st rh σ H) {p : Addr} (h : H p = none) : F p = none ∧ p ∉ io ∧ B.H p = none := by
  have h1 : F p = none := by
    cases q : F p with
    | none => rfl
    | some o => rw [g.sub p o q] at h; cases h
  exact ⟨h1, fun z => g.sim.dom z h1, g.stp.gro p h⟩
/-- a new object that is leant on from now on -/
theorem Stp.add {p : Addr} {o : HO} (hs : ∀ a o, F a = some o → H a = some o) (h : H p = none) : Stp F io H (upd F p o) io (upd H p o) := by
  have ne : ∀ a u, H a = some u → a ≠ p := fun a u e z => by subst z; rw [h] at e; cases e
  refine ⟨fun a u e => ?_, ⟨[], by simp⟩, fun a u e _ => ?_, fun a e => ?_, fun a u e _ => ?_, fun a e => ?_, fun _ h => .inl h⟩
  · by_cases z : a = p
    · subst z; rw [upd_same] at e ⊢; exact e
    · rw [upd_ne z] at e ⊢; exact hs a u e
  · rw [upd_ne (ne a u (hs a u e))]; exact e
  · by_cases z : a = p
    · subst z; exact .inr h
    · rw [upd_ne z] at e; exact .inl e
  · rw [upd_ne (ne a u e)]; exact e
  · by_cases z : a = p
    · subst z; exact h
    · rw [upd_ne z] at e; exact e
/-- a new object that is not leant on yet -/
theorem Stp.lay {p : Addr} {o : HO} (hs : ∀ a o, F a = some o → H a = some o) (h : H p = none) : Stp F io H F io (upd H p o) := by
  have ne : ∀ a u, H a = some u → a ≠ p := fun a u e z => by subst z; rw [h] at e; cases e
  refine ⟨fun a u e => ?_, ⟨[], by simp⟩, fun a u e _ => e, fun a e => .inl e, fun a u e _ => ?_, fun a e => ?_, fun _ h => .inl h⟩
  · rw [upd_ne (ne a u (hs a u e))]; exact hs a u e
  · rw [upd_ne (ne a u e)]; exact e
  · by_cases z : a = p
    · subst z; exact h
    · rw [upd_ne z] at e; exact e
/-- what was new at the start of a step is leant on behind it -/
theorem Stp.lean {p : Addr} {o : HO} (S : Stp F io H F' io' H') (h : H p = none) (h' : H' p = some o) (hn : F' p = none) : Stp F io H (upd F' p o) io' H' := by
  refine ⟨fun a u e => ?_, S.ext, fun a u e n => ?_, fun a e => ?_, S.fr, S.gro, S.nio⟩
  · by_cases z : a = p
    · subst z; rw [upd_same] at e; rw [h']; exact e
    · rw [upd_ne z] at e; exact S.sub a u e
  · have q := S.per a u e n
    rw [upd_ne (fun z => by subst z; rw [hn] at q; cases q)]; exact q
  · by_cases z : a = p
    · subst z; exact .inr h
    · rw [upd_ne z] at e; exact S.new a e
mutual
theorem Rv.more {v : V} {d : D} (hm : ∀ a o, F a = some o → F' a = some o) : Rv c F io v d → Rv c F' io v d
  | .non => .non
  | .bl b => .bl b
  | .int i => .int i
  | .str x => .str x
  | .tup h r => .tup (h.imp (fun h => ⟨hm _ _ h.1, h.2⟩) id) (RvAll.more hm r)
  | .lst h n r => .lst (hm _ _ h) n (RvAll.more hm r)
  | .loc h => .loc h
  | .scr h => .scr (h.imp (fun ⟨h, n⟩ => by
      rcases h with h | ⟨o, h⟩
      · exact ⟨.inl (hm _ _ h), n⟩
      · exact ⟨.inr ⟨o, hm _ _ h⟩, n⟩) id)
theorem RvAll.more {vs : List V} {ds : List D} (hm : ∀ a o, F a = some o → F' a = some o) : RvAll c F io vs ds → RvAll c F' io vs ds
  | .nil => .nil
  | .cons h r => .cons (Rv.more hm h) (RvAll.more hm r)
end
theorem RvF.more (hm : ∀ a o, F a = some o → F' a = some o) : ∀ {vs : List (Str × V)} {ds : List (Str × D)}, RvF c F io vs ds → RvF c F' io vs ds
  | _, _, .nil => .nil
  | _, _, .cons h r => .cons (h.more hm) (RvF.more hm r)
theorem Sim.more (h : Sim c F io st) (hm : ∀ a o, F a = some o → F' a = some o) : Sim c F' io st := by
  refine ⟨h.len, h.nd, fun n a o e1 e2 => ?_⟩
  have q := h.ob n a o e1 e2
  cases o with
  | lst ds => obtain ⟨vs, e, r⟩ := q; exact ⟨vs, hm _ _ e, r.more hm⟩
  | dct kvs => obtain ⟨vs, e, r⟩ := q; exact ⟨vs, hm _ _ e, r.more hm⟩
  | ins C fs => obtain ⟨dx, vs, e, e2, e3, r⟩ := q; exact ⟨dx, vs, hm _ _ e, hm _ _ e2, e3, r.more hm⟩
theorem upd_more {p : Addr} {o : HO} (h : F p = none) : ∀ a u, F a = some u → upd F p o a = some u := fun a u e => by
  rw [upd_ne (fun z => by subst z; rw [h] at e; cases e)]; exact e
end

/-! ### what an expression gives, seen in the heap -/
/-- right behind its making: H0 the heap ahead -/
def Tvs (c : Ct) (H0 F : Hp) (io : List Addr) (rh : Rho) (σ : St) (H : Hp) (v : V) : TV → Prop
  | .d d => Rv c F io v d
  | .o i => (∃ ds, rh[i]? = some (some (.own ds))) ∧ σ[i]? = some (some v)
  | .fr ds => ∃ p vs, v = .ref p ∧ H0 p = none ∧ H p = some (.lst vs) ∧ F p = none ∧ RvAll c F io vs ds
/-- later on -/
def Tvr (c : Ct) (F : Hp) (io : List Addr) (rh : Rho) (σ : St) (H : Hp) (v : V) : TV → Prop
  | .d d => Rv c F io v d
  | .o i => (∃ ds, rh[i]? = some (some (.own ds))) ∧ σ[i]? = some (some v)
  | .fr ds => ∃ p vs, v = .ref p ∧ H p = some (.lst vs) ∧ p ∉ io ∧ RvAll c F io vs ds
section
variable {c : Ct} {B : Bs} {F F' H H' H0 : Hp} {io io' : List Addr} {st st' : Sto} {rh : Rho} {σ : St} {v : V} {t : TV}
theorem Tvs.r (h : Tvs c H0 F io rh σ H v t) (hs : Sim c F io st) : Tvr c F io rh σ H v t := by
  cases t with
  | d d => exact h
  | o i => exact h
  | fr ds => obtain ⟨p, vs, e, _, h1, h2, r⟩ := h; exact ⟨p, vs, e, h1, fun z => hs.dom z h2, r⟩
theorem Tvr.step (h : Tvr c F io rh σ H v t) (S : Stp F io H F' io' H') (hs : ∀ a o, F a = some o → H a = some o) : Tvr c F' io' rh σ H' v t := by
  cases t with
  | d d => exact Rv.step S hs h
  | o i => exact h
  | fr ds =>
    obtain ⟨p, vs, e, h1, h2, r⟩ := h
    refine ⟨p, vs, e, S.fr p _ h1 h2, fun z => ?_, r.step S hs⟩
    rcases S.nio p z with q | q
    · exact h2 q
    · rw [h1] at q; cases q
end

/-! ### an expression's reading -/
def Pst (c : Ct) (W : WX) (F : Hp) (io : List Addr) (rh : Rho) (σ : St) (H : Hp) (Q : VK) : R TV → Prop
  | .ok t st' => ∀ v H' F' io', Stp F io H F' io' H' → Sim c F' io' st' → Tvs c H F' io' rh σ H' v t → Q v H'
  | .ex e st' => ∀ H' F' io', Stp F io H F' io' H' → Sim c F' io' st' → W (c.xc e) none σ H'
  | .no => False
def den (c : Ct) (W : WX) (f : Sm) : TE := fun σ H Q => ∃ B F io st rh, Good c B F io st rh σ H ∧ Pst c W F io rh σ H Q (f rh st)
section
variable {c : Ct} {W : WX} {B : Bs} {F F1 H H1 : Hp} {io io1 : List Addr} {st st1 : Sto} {rh : Rho} {σ : St} {Q Q1 : VK}
theorem Tvs.back {H0 H1 F : Hp} {io : List Addr} {H : Hp} {v : V} {t : TV} (h : Tvs c H1 F io rh σ H v t) (hg : ∀ a, H1 a = none → H0 a = none) : Tvs c H0 F io rh σ H v t := by
  cases t with
  | d d => exact h
  | o i => exact h
  | fr ds => obtain ⟨p, vs, e, h0, r⟩ := h; exact ⟨p, vs, e, hg p h0, r⟩
theorem Pst.step {r : R TV} (g : Good c B F io st rh σ H) (S : Stp F io H F1 io1 H1) (h : Pst c W F io rh σ H Q r) : Pst c W F1 io1 rh σ H1 Q r := by
  cases r with
  | ok t st' => exact fun v H' F' io' S' s' T' => h v H' F' io' (S.trans g.sub S') s' (T'.back S.gro)
  | ex e st' => exact fun H' F' io' S' s' => h H' F' io' (S.trans g.sub S') s'
  | no => exact h
/-- first one part, then what is done with it -/
theorem Pst.bind {r : R TV} {k : TV → Sto → R TV} (g : Good c B F io st rh σ H) (h : Pst c W F io rh σ H Q (r.bind k))
    (hk : ∀ (t : TV) (st1 : Sto) (v : V) (H1 F1 : Hp) (io1 : List Addr), r = .ok t st1 → Stp F io H F1 io1 H1 → Good c B F1 io1 st1 rh σ H1 → Tvs c H F1 io1 rh σ H1 v t → Pst c W F1 io1 rh σ H1 Q (k t st1) → Q1 v H1) : Pst c W F io rh σ H Q1 r := by
  cases r with
  | ok t st' => exact fun v H' F' io' S s' T => hk t st' v H' F' io' rfl S (g.step S s') T (Pst.step (r := k t st') g S h)
  | ex e st' => exact h
  | no => exact h
end
theorem PE.weak {X : Cx} {e : Expr} {t t' : TE} (h : PE X e t) (hw : ∀ σ H Q, t' σ H Q → t σ H Q) : PE X e t' := ⟨fun pins s σ H Q I q => h.run pins s σ H Q I (hw σ H Q q)⟩
theorem PT.weak {X : Cx} {e : Expr} {t t' : TT} (h : PT X e t) (hw : ∀ σ H Q, t' σ H Q → t σ H Q) : PT X e t' := ⟨fun pins s σ H Q I q => h.run pins s σ H Q I (hw σ H Q q)⟩
theorem PE.or {X : Cx} {e : Expr} {t t' : TE} (h : PE X e t) (h' : PE X e t') : PE X e (fun σ H Q => t σ H Q ∨ t' σ H Q) := ⟨fun pins s σ H Q I q => q.elim (h.run pins s σ H Q I) (h'.run pins s σ H Q I)⟩
end KL

namespace KL
open PySem L2

/-! ### looking at what an expression gave -/
def view (rh : Rho) (st : Sto) : TV → Option D
  | .d (.loc n) => (match st[n]? with
    | some (.lst ds) => some (.lst ds)
    | some _ => some (.loc n)
    | none => none)
  | .d d => some d
  | .o i => (match rh[i]? with
    | some (some (.own ds)) => some (.lst ds)
    | _ => none)
  | .fr ds => some (.lst ds)
def Vw (c : Ct) (F : Hp) (io : List Addr) (H : Hp) (v : V) : D → Prop
  | .lst ds => ∃ a vs, v = .ref a ∧ H a = some (.lst vs) ∧ RvAll c F io vs ds
  | d => Rv c F io v d
section
variable {c : Ct} {B : Bs} {F F' H H' : Hp} {io io' : List Addr} {st st' : Sto} {rh : Rho} {σ : St} {v : V} {t : TV} {d : D}
theorem Vw.of (hs : ∀ a o, F a = some o → H a = some o) (h : Rv c F io v d) : Vw c F io H v d := by
  cases d with
  | lst ds => cases h with | lst e n r => exact ⟨_, _, rfl, hs _ _ e, r⟩
  | _ => exact h
theorem view_ok (g : Good c B F io st rh σ H) (h : Tvr c F io rh σ H v t) (e : view rh st t = some d) : Vw c F io H v d := by
  cases t with
  | d d' =>
    cases d' with
    | loc n =>
      simp only [view] at e
      cases h with
      | loc hn =>
        have hl : n < st.length := by rw [← g.sim.len]; exact (List.getElem?_eq_some_iff.mp hn).1
        cases q : st[n]? with
        | none => rw [q] at e; cases e
        | some o =>
          rw [q] at e
          cases o with
          | lst ds =>
            simp only [Option.some.injEq] at e
            subst e
            obtain ⟨vs, e1, r⟩ := g.sim.ob n _ _ hn q
            exact ⟨_, vs, rfl, g.sub _ _ e1, r⟩
          | dct kvs => simp only [Option.some.injEq] at e; subst e; exact Rv.loc hn
          | ins C fs => simp only [Option.some.injEq] at e; subst e; exact Rv.loc hn
    | _ => simp only [view, Option.some.injEq] at e; subst e; exact Vw.of g.sub h
  | o i =>
    obtain ⟨⟨ds, e1⟩, e2⟩ := h
    simp only [view, e1, Option.some.injEq] at e
    subst e
    obtain ⟨a, vs, e3, e4, e5, e6, r⟩ := g.own i ds e1
    rw [e2] at e3
    cases e3
    exact ⟨a, vs, rfl, e4, r⟩
  | fr ds =>
    simp only [view, Option.some.injEq] at e
    subst e
    obtain ⟨p, vs, e1, e2, e3, r⟩ := h
    exact ⟨p, vs, e1, e2, r⟩
/-- a tuple, as the layer reads it -/
theorem Rv.sqT {a : Addr} {ds : List D} (hs : ∀ a o, F a = some o → H a = some o) (h : Rv c F io v (.tup ds)) : ∃ a vs, v = .ref a ∧ SqT c.K H a vs ∧ RvAll c F io vs ds := by
  cases h with
  | tup h r =>
    refine ⟨_, _, rfl, ?_, r⟩
    rcases h with h | h
    · exact .inl (.inl (hs _ _ h.1))
    · exact .inr h
/-- what follows an operation that leaves the store -/
def Out (c : Ct) (F : Hp) (io : List Addr) (rh : Rho) (σ : St) (H : Hp) (Q : VK) (t : TV) : Prop :=
  ∀ v H' F', Stp F io H F' io H' → (∀ a ∈ io, F' a = F a) → Tvs c H F' io rh σ H' v t → Q v H'
theorem Pst.out {W : WX} {Q : VK} (g : Good c B F io st rh σ H) (h : Pst c W F io rh σ H Q (.ok t st)) : Out c F io rh σ H Q t :=
  fun v H' F' S k T => h v H' F' io S (g.sim.step S g.sub rfl k) T
theorem Out.same {Q : VK} (hs : ∀ a o, F a = some o → H a = some o) (h : Out c F io rh σ H Q (.d d)) (r : Rv c F io v d) : Q v H := h v H F (Stp.refl hs) (fun _ _ => rfl) r
theorem Out.tup {Q : VK} {ds : List D} {vs : List V} (g : Good c B F io st rh σ H) (h : Out c F io rh σ H Q (.d (.tup ds))) (r : RvAll c F io vs ds) (p : Addr) (hp : H p = none) : Q (.ref p) (upd H p (.tup vs)) := by
  obtain ⟨f1, f2, f3⟩ := g.fresh hp
  refine h _ _ (upd F p (.tup vs)) (Stp.add g.sub hp) (fun a ha => ?_) (Rv.tup (.inl ⟨upd_same, f2⟩) (r.more (upd_more f1)))
  rw [upd_ne (fun z => by subst z; exact f2 ha)]
theorem Out.lst {Q : VK} {ds : List D} {vs : List V} (g : Good c B F io st rh σ H) (h : Out c F io rh σ H Q (.fr ds)) (r : RvAll c F io vs ds) (p : Addr) (hp : H p = none) : Q (.ref p) (upd H p (.lst vs)) := by
  obtain ⟨f1, f2, f3⟩ := g.fresh hp
  exact h _ _ F (Stp.lay g.sub hp) (fun a ha => rfl) ⟨p, vs, rfl, hp, upd_same, f1, r⟩
end

/-! ### operators on data -/
instance decCMul (i j : Int) : Decidable (CMul i j) := by unfold CMul; infer_instance
instance decCDiv (i j : Int) : Decidable (CDiv i j) := by unfold CDiv; infer_instance
def binD : Operator → D → D → Option TV
  | .Add, .int i, .int j => some (.d (.int (i + j)))
  | .Add, .str i, .str j => if i.length + j.length ≤ sizeLine then some (.d (.str (i ++ j))) else none
  | .Add, .tup ds, .tup es => if ds.length + es.length ≤ sizeLine then some (.d (.tup (ds ++ es))) else none
  | .Add, .lst ds, .lst es => if ds.length + es.length ≤ sizeLine then some (.fr (ds ++ es)) else none
  | .Sub, .int i, .int j => some (.d (.int (i - j)))
  | .Mult, .int i, .int j => if CMul i j then some (.d (.int (i * j))) else none
  | .Mult, .lst ds, .int k => if -(2 ^ 63) ≤ k ∧ k < 2 ^ 63 ∧ ds.length * k.toNat ≤ sizeLine then some (.fr (List.replicate k.toNat ds).flatten) else none
  | .Mult, .str x, .int k => if x.length ≤ 1000 ∧ 0 ≤ k ∧ k ≤ 1000 then some (.d (.str (Txt.mul x k))) else none
  | .Mod, .int i, .int j => if 0 < j then some (.d (.int (i % j))) else none
  | .FloorDiv, .int i, .int j => if CDiv i j then some (.d (.int (i / j))) else none
  | _, _, _ => none
def rRepS : R2 := fun x y H Q => ∃ a k, x = .str a ∧ y = .int k ∧ (a.length ≤ 1000 ∧ 0 ≤ k ∧ k ≤ 1000) ∧ Q (.str (Txt.mul a k)) H
theorem op_repS {X : Cx} : OpR X (binaryOp .Mult) rRepS := by
  intro pins s σ H x y v u Q I rx ry h
  obtain ⟨a, k, rfl, rfl, hb, q⟩ := h
  obtain ⟨t, rfl⟩ := rx
  obtain ⟨t2, rfl⟩ := ry
  refine SB.mul (PyProof.Rows.mulOk_of 1000 1000 hb.1 (by omega) (by omega) (by decide) (by decide)) fun t' n => ?_
  exact ⟨.str (Txt.mul a k), H, I.tok _, ⟨_, rfl⟩, q⟩
theorem opR_false {X : Cx} {f : Value → Value → PySem.Sem Value} : OpR X f (fun _ _ _ _ => False) := fun _ _ _ _ _ _ _ _ _ _ _ _ h => h.elim
section
variable {X : Cx} {c : Ct} {B : Bs} {F H : Hp} {io : List Addr} {st : Sto} {rh : Rho} {σ : St}
theorem RvAll.flat : ∀ (k : Nat) {vs : List V} {ds : List D}, RvAll c F io vs ds → RvAll c F io (List.replicate k vs).flatten (List.replicate k ds).flatten
  | 0, _, _, _ => by simp; exact .nil
  | k + 1, vs, ds, h => by
    rw [List.replicate_succ, List.replicate_succ, List.flatten_cons, List.flatten_cons]
    exact h.append (RvAll.flat k h)
/-- an operator keeps to its data -/
def OpOk (c : Ct) (r : R2) (f : D → D → Option TV) : Prop := ∀ {B : Bs} {F H : Hp} {io : List Addr} {st : Sto} {rh : Rho} {σ : St} {x y : V} {d e : D} {t : TV} {Q : VK}, Good c B F io st rh σ H → Vw c F io H x d → Vw c F io H y e → f d e = some t → Out c F io rh σ H Q t → r x y H Q
theorem bin_ok (hK : X.K = c.K) (op : Operator) : ∃ r, OpR X (binaryOp op) r ∧ OpOk c r (binD op) := by
  cases op with
  | Add =>
    refine ⟨_, (op_add.or op_add_str).or (op_catA.or op_cat), ?_⟩
    intro B F H io st rh σ x y d e t Q g hx hy hf ho
    cases d <;> cases e <;> simp only [binD] at hf <;> try (cases hf; done)
    · rename_i i j
      cases hf
      cases hx; cases hy
      exact .inl (.inl ⟨i, j, rfl, rfl, ho.same g.sub (.int _)⟩)
    · rename_i i j
      split at hf
      · rename_i hl
        cases hf
        cases hx; cases hy
        exact .inl (.inr ⟨i, j, rfl, rfl, hl, ho.same g.sub (.str _)⟩)
      · cases hf
    · rename_i ds es
      split at hf
      · rename_i hl
        cases hf
        have hx' : Rv c F io x (.tup ds) := hx
        have hy' : Rv c F io y (.tup es) := hy
        obtain ⟨a, vs, rfl, q1, r1⟩ := Rv.sqT (a := 0) g.sub hx'
        obtain ⟨b, ws, rfl, q2, r2⟩ := Rv.sqT (a := 0) g.sub hy'
        refine .inr (.inl ⟨a, b, vs, ws, rfl, rfl, by rw [hK]; exact q1, by rw [hK]; exact q2, by rw [r1.length, r2.length]; exact hl, fun z => ?_, fun _ z => ?_, fun _ _ p hp => ?_⟩)
        · subst z
          cases r1
          exact ho.same g.sub hy'
        · subst z
          cases r2
          rw [List.append_nil] at ho
          exact ho.same g.sub hx'
        · exact ho.tup g (r1.append r2) p hp
      · cases hf
    · rename_i ds es
      split at hf
      · rename_i hl
        cases hf
        obtain ⟨a, vs, rfl, q1, r1⟩ := hx
        obtain ⟨b, ws, rfl, q2, r2⟩ := hy
        exact .inr (.inr ⟨a, b, vs, ws, rfl, rfl, q1, q2, by rw [r1.length, r2.length]; exact hl, fun p hp => ho.lst g (r1.append r2) p hp⟩)
      · cases hf
  | Sub =>
    refine ⟨_, op_sub, ?_⟩
    intro B F H io st rh σ x y d e t Q g hx hy hf ho
    cases d <;> cases e <;> simp only [binD] at hf <;> try (cases hf; done)
    cases hf; cases hx; cases hy
    exact ⟨_, _, rfl, rfl, ho.same g.sub (.int _)⟩
  | Mult =>
    refine ⟨_, (op_mul.or op_rep).or op_repS, ?_⟩
    intro B F H io st rh σ x y d e t Q g hx hy hf ho
    cases d <;> cases e <;> simp only [binD] at hf <;> try (cases hf; done)
    · split at hf
      · rename_i hl
        cases hf; cases hx; cases hy
        exact .inl (.inl ⟨_, _, rfl, rfl, hl, ho.same g.sub (.int _)⟩)
      · cases hf
    · split at hf
      · rename_i hl
        cases hf; cases hx; cases hy
        exact .inr ⟨_, _, rfl, rfl, hl, ho.same g.sub (.str _)⟩
      · cases hf
    · split at hf
      · rename_i hl
        cases hf; cases hy
        obtain ⟨a, vs, rfl, q1, r1⟩ := hx
        exact .inl (.inr ⟨a, _, vs, rfl, rfl, q1, hl.1, hl.2.1, by rw [r1.length]; exact hl.2.2, fun p hp => ho.lst g (r1.flat _) p hp⟩)
      · cases hf
  | Mod =>
    refine ⟨_, op_mod, ?_⟩
    intro B F H io st rh σ x y d e t Q g hx hy hf ho
    cases d <;> cases e <;> simp only [binD] at hf <;> try (cases hf; done)
    split at hf
    · rename_i hl
      cases hf; cases hx; cases hy
      exact ⟨_, _, rfl, rfl, hl, ho.same g.sub (.int _)⟩
    · cases hf
  | FloorDiv =>
    refine ⟨_, op_fdiv, ?_⟩
    intro B F H io st rh σ x y d e t Q g hx hy hf ho
    cases d <;> cases e <;> simp only [binD] at hf <;> try (cases hf; done)
    split at hf
    · rename_i hl
      cases hf; cases hx; cases hy
      exact ⟨_, _, rfl, rfl, hl, ho.same g.sub (.int _)⟩
    · cases hf
  | _ => exact ⟨_, opR_false, fun _ _ _ hf _ => by simp [binD] at hf⟩
end
end KL

namespace KL
open PySem L2

mutual
def toPy : D → Option PyData
  | .non => some .none
  | .bl b => some (.bool b)
  | .int i => some (.int i)
  | .str x => some (.str x)
  | .tup ds => (toPys ds).map .tuple
  | .lst ds => (toPys ds).map .list
  | .loc _ => none
  | .scr _ => none
def toPys : List D → Option (List PyData)
  | [] => some []
  | d :: ds => (toPy d).bind fun p => (toPys ds).map fun ps => p :: ps
end
def eqG (d e : D) : Option Bool := (toPy d).bind fun p => (toPy e).bind fun q => if SeqAt.shaped p && SeqAt.shaped q then some (PyData.eqv p q) else none
def eqD : D → D → Option Bool
  | .int i, .int j => some (decide (i = j))
  | .str a, .str b => some (decide (a = b))
  | d, e => eqG d e
def flatD : D → Bool
  | .non => true
  | .bl _ => true
  | .int _ => true
  | .str _ => true
  | _ => false
def eqF : D → D → Bool
  | .non, .non => true
  | .bl a, .bl b => a == b
  | .bl a, .int b => (if a then 1 else 0) == b
  | .int a, .bl b => a == (if b then 1 else 0)
  | .int a, .int b => a == b
  | .str a, .str b => a == b
  | _, _ => false
def inD : D → D → Option Bool
  | .str x, .str z => (match x.cps.toList with
    | [c] => some (decide (c ∈ z.cps.toList))
    | _ => none)
  | d, .tup ds => if flatD d && ds.all flatD then some (ds.any fun y => eqF y d) else none
  | d, .lst ds => if flatD d && ds.all flatD then some (ds.any fun y => eqF y d) else none
  | _, _ => none
def isD : D → D → Option Bool
  | .non, .non => some true
  | _, .non => some false
  | .bl a, .bl b => some (decide (a = b))
  | _, _ => none
def cmpD : CmpOp → D → D → Option Bool
  | .Eq, d, e => eqD d e
  | .NotEq, d, e => (eqD d e).map (!·)
  | .Lt, .int i, .int j => some (decide (i < j))
  | .Lt, .str i, .str j => some (decide (i.cps.toList < j.cps.toList))
  | .LtE, .int i, .int j => some (decide (i ≤ j))
  | .Gt, .int i, .int j => some (decide (j < i))
  | .Gt, .str i, .str j => some (decide (j.cps.toList < i.cps.toList))
  | .GtE, .int i, .int j => some (decide (j ≤ i))
  | .In, d, e => inD d e
  | .NotIn, d, e => (inD d e).map (!·)
  | .Is, d, e => isD d e
  | .IsNot, d, e => (isD d e).map (!·)
  | _, _, _ => none

section
variable {X : Cx} {c : Ct} {B : Bs} {F H : Hp} {io : List Addr} {st : Sto} {rh : Rho} {σ : St}
mutual
theorem Rv.dp (hs : ∀ a o, F a = some o → H a = some o) : ∀ {v : V} {d : D} {p : PyData}, Rv c F io v d → toPy d = some p → Dp c.K H v p
  | _, _, _, .non, e => by cases e; exact .non
  | _, _, _, .bl b, e => by cases e; exact .bl b
  | _, _, _, .int b, e => by cases e; exact .int b
  | _, _, _, .str b, e => by cases e; exact .str b
  | _, _, _, .tup (vs := vs) (ds := ds) h r, e => by
    simp only [toPy, Option.map_eq_some_iff] at e
    obtain ⟨ps, e1, rfl⟩ := e
    refine .tup (xs := vs) ?_ (RvAll.dp hs r e1)
    rcases h with h | h
    · exact .inl (.inl (hs _ _ h.1))
    · exact .inr h
  | _, _, _, .lst (vs := vs) h n r, e => by
    simp only [toPy, Option.map_eq_some_iff] at e
    obtain ⟨ps, e1, rfl⟩ := e
    exact .lst (xs := vs) (.inl (.inl (hs _ _ h))) (RvAll.dp hs r e1)
  | _, _, _, .loc h, e => by cases e
  | _, _, _, .scr h, e => by cases e
theorem RvAll.dp (hs : ∀ a o, F a = some o → H a = some o) : ∀ {vs : List V} {ds : List D} {ps : List PyData}, RvAll c F io vs ds → toPys ds = some ps → DpAll c.K H vs ps
  | _, _, _, .nil, e => by cases e; exact .nil
  | _, _, _, .cons h r, e => by
    simp only [toPys, Option.bind_eq_some_iff, Option.map_eq_some_iff] at e
    obtain ⟨p, e1, ps, e2, rfl⟩ := e
    exact .cons (Rv.dp hs h e1) (RvAll.dp hs r e2)
end
theorem Vw.dp (hs : ∀ a o, F a = some o → H a = some o) {v : V} {d : D} {p : PyData} (h : Vw c F io H v d) (e : toPy d = some p) : Dp c.K H v p := by
  cases d with
  | lst ds =>
    obtain ⟨a, vs, rfl, h1, r⟩ := h
    simp only [toPy, Option.map_eq_some_iff] at e
    obtain ⟨ps, e1, rfl⟩ := e
    exact .lst (.inl (.inl h1)) (RvAll.dp hs r e1)
  | _ => exact Rv.dp hs h e
theorem Vw.non_iff {v : V} {d : D} (h : Vw c F io H v d) : (v = .non) ↔ (d = .non) := by
  cases d with
  | lst ds => obtain ⟨a, vs, rfl, _⟩ := h; simp
  | _ => cases h <;> simp
theorem Rv.flat {v : V} {d : D} (h : Rv c F io v d) (e : flatD d = true) : flatV v = true := by
  cases h <;> simp_all [flatD, flatV]
theorem Rv.eqf {v w : V} {d e : D} (h : Rv c F io v d) (h' : Rv c F io w e) (q : flatD d = true) (q' : flatD e = true) : eqV v w = eqF d e := by
  cases h <;> simp [flatD] at q <;> cases h' <;> simp [flatD] at q' <;> simp [eqV, eqF]
theorem RvAll.flats : ∀ {vs : List V} {ds : List D}, RvAll c F io vs ds → ds.all flatD = true → vs.all flatV = true
  | _, _, .nil, _ => rfl
  | _, _, .cons h r, e => by
    simp only [List.all_cons, Bool.and_eq_true] at e ⊢
    exact ⟨h.flat e.1, r.flats e.2⟩
theorem RvAll.inv {x : V} {d : D} (hx : Rv c F io x d) (fx : flatD d = true) : ∀ {vs : List V} {ds : List D}, RvAll c F io vs ds → ds.all flatD = true → inV x vs = ds.any fun y => eqF y d
  | _, _, .nil, _ => rfl
  | _, _, .cons h r, e => by
    simp only [List.all_cons, Bool.and_eq_true] at e
    have q := RvAll.inv hx fx r e.2
    unfold inV at q ⊢
    rw [List.any_cons, List.any_cons, q, h.eqf hx e.1 fx]
theorem Vw.flat {v : V} {d : D} (h : Vw c F io H v d) (e : flatD d = true) : Rv c F io v d := by
  cases d <;> first | exact h | (simp [flatD] at e)
def CmpOk (c : Ct) (r : R2) (f : D → D → Option Bool) : Prop := ∀ {B : Bs} {F H : Hp} {io : List Addr} {st : Sto} {rh : Rho} {σ : St} {x y : V} {d e : D} {b : Bool} {Q : VK}, Good c B F io st rh σ H → Vw c F io H x d → Vw c F io H y e → f d e = some b → Q (.bl b) H → r x y H Q
theorem eq_ok (hK : X.K = c.K) (g : Good c B F io st rh σ H) {x y : V} {d e : D} {b : Bool} (hx : Vw c F io H x d) (hy : Vw c F io H y e) (hf : eqG d e = some b) :
    ∃ p q, Dp X.K H x p ∧ Dp X.K H y q ∧ SeqAt.shaped p = true ∧ SeqAt.shaped q = true ∧ b = PyData.eqv p q := by
  simp only [eqG, Option.bind_eq_some_iff] at hf
  obtain ⟨p, e1, q, e2, hf⟩ := hf
  split at hf
  · rename_i hs
    rw [Bool.and_eq_true] at hs
    cases hf
    exact ⟨p, q, by rw [hK]; exact hx.dp g.sub e1, by rw [hK]; exact hy.dp g.sub e2, hs.1, hs.2, rfl⟩
  · cases hf
theorem eqd_ok (g : Good c B F io st rh σ H) {x y : V} {d e : D} {b : Bool} (hx : Vw c F io H x d) (hy : Vw c F io H y e) (hf : eqD d e = some b) :
    (scal x y = true ∧ b = decide (x = y)) ∨ eqG d e = some b := by
  unfold eqD at hf
  split at hf
  · cases hf; cases hx; cases hy
    exact .inl ⟨rfl, by simp⟩
  · cases hf; cases hx; cases hy
    exact .inl ⟨rfl, by simp⟩
  · exact .inr hf
theorem in_ok (hK : X.K = c.K) (g : Good c B F io st rh σ H) {x y : V} {d e : D} {b : Bool} (hx : Vw c F io H x d) (hy : Vw c F io H y e) (hf : inD d e = some b) :
    (∃ (k : Nat) (z : Str), x = .str ⟨#[k]⟩ ∧ y = .str z ∧ b = decide (k ∈ z.cps.toList)) ∨
    (∃ p xs, y = .ref p ∧ (SqL X.K H p xs ∨ SqT X.K H p xs) ∧ flatV x = true ∧ xs.all flatV = true ∧ b = inV x xs) := by
  have seq : ∀ ds : List D, (∃ p xs, y = .ref p ∧ (SqL X.K H p xs ∨ SqT X.K H p xs) ∧ RvAll c F io xs ds) → (if flatD d && ds.all flatD then some (ds.any fun y => eqF y d) else none) = some b →
      ∃ p xs, y = .ref p ∧ (SqL X.K H p xs ∨ SqT X.K H p xs) ∧ flatV x = true ∧ xs.all flatV = true ∧ b = inV x xs := by
    intro ds ⟨p, xs, e1, e2, r⟩ hf
    split at hf
    · rename_i hc
      rw [Bool.and_eq_true] at hc
      cases hf
      have hx' := hx.flat hc.1
      exact ⟨p, xs, e1, e2, hx'.flat hc.1, r.flats hc.2, (RvAll.inv hx' hc.1 r hc.2).symm⟩
    · cases hf
  cases e with
  | str z =>
    cases d with
    | str s =>
      simp only [inD] at hf
      cases hx; cases hy
      split at hf
      · rename_i k hk
        cases hf
        refine .inl ⟨k, z, ?_, rfl, rfl⟩
        congr 1
        cases s
        rename_i a
        congr 1
        exact Array.toList_inj.mp (by simpa using hk)
      · cases hf
    | _ => simp [inD] at hf
  | tup ds =>
    refine .inr (seq ds ?_ (by cases d <;> exact hf))
    have hy' : Rv c F io y (.tup ds) := hy
    obtain ⟨a, vs, e1, q1, r1⟩ := Rv.sqT (a := 0) g.sub hy'
    exact ⟨a, vs, e1, .inr (by rw [hK]; exact q1), r1⟩
  | lst ds =>
    refine .inr (seq ds ?_ (by cases d <;> exact hf))
    obtain ⟨a, vs, e1, q1, r1⟩ := hy
    exact ⟨a, vs, e1, .inl (.inl (.inl q1)), r1⟩
  | _ => cases d <;> simp [inD] at hf
theorem is_ok (g : Good c B F io st rh σ H) {x y : V} {d e : D} {b : Bool} (hx : Vw c F io H x d) (hy : Vw c F io H y e) (hf : isD d e = some b) :
    (y = .non ∧ b = decide (x = .non)) ∨ ∃ a k : Bool, x = .bl a ∧ y = .bl k ∧ b = decide (a = k) := by
  cases e with
  | non =>
    refine .inl ⟨hy.non_iff.mpr rfl, ?_⟩
    have q := hx.non_iff
    cases d with
    | non => simp [isD] at hf; subst hf; symm; simp [q]
    | _ => simp [isD] at hf; subst hf; symm; simp [q]
  | bl k =>
    cases d with
    | bl a =>
      simp only [isD, Option.some.injEq] at hf
      cases hx; cases hy
      exact .inr ⟨a, k, rfl, rfl, hf.symm⟩
    | _ => simp [isD] at hf
  | _ => cases d <;> simp [isD] at hf
theorem cmp_ok (hK : X.K = c.K) (hu : X.A.units + 64 < cLine) (op : CmpOp) : ∃ r, OpR X (compareOp op) r ∧ CmpOk c r (cmpD op) := by
  cases op with
  | Eq =>
    refine ⟨_, op_eq.or (op_eqD hu), ?_⟩
    intro B F H io st rh σ x y d e b Q g hx hy hf q
    rcases eqd_ok g hx hy hf with ⟨h1, rfl⟩ | hf
    · exact .inl ⟨h1, q⟩
    · obtain ⟨p, z, h1, h2, h3, h4, rfl⟩ := eq_ok hK g hx hy hf
      exact .inr ⟨p, z, h1, h2, h3, h4, q⟩
  | NotEq =>
    refine ⟨_, op_ne.or (op_neD hu), ?_⟩
    intro B F H io st rh σ x y d e b Q g hx hy hf q
    simp only [cmpD, Option.map_eq_some_iff] at hf
    obtain ⟨b', hf, rfl⟩ := hf
    rcases eqd_ok g hx hy hf with ⟨h1, rfl⟩ | hf
    · exact .inl ⟨h1, q⟩
    · obtain ⟨p, z, h1, h2, h3, h4, rfl⟩ := eq_ok hK g hx hy hf
      exact .inr ⟨p, z, h1, h2, h3, h4, q⟩
  | Lt =>
    refine ⟨_, op_lt.or op_lt_str, ?_⟩
    intro B F H io st rh σ x y d e b Q g hx hy hf q
    cases d <;> cases e <;> simp only [cmpD] at hf <;> try (cases hf; done)
    · cases hf; cases hx; cases hy
      exact .inl ⟨_, _, rfl, rfl, q⟩
    · cases hf; cases hx; cases hy
      exact .inr ⟨_, _, rfl, rfl, q⟩
  | LtE =>
    refine ⟨_, op_le, ?_⟩
    intro B F H io st rh σ x y d e b Q g hx hy hf q
    cases d <;> cases e <;> simp only [cmpD] at hf <;> try (cases hf; done)
    cases hf; cases hx; cases hy
    exact ⟨_, _, rfl, rfl, q⟩
  | Gt =>
    refine ⟨_, op_gt.or op_gt_str, ?_⟩
    intro B F H io st rh σ x y d e b Q g hx hy hf q
    cases d <;> cases e <;> simp only [cmpD] at hf <;> try (cases hf; done)
    · cases hf; cases hx; cases hy
      exact .inl ⟨_, _, rfl, rfl, q⟩
    · cases hf; cases hx; cases hy
      exact .inr ⟨_, _, rfl, rfl, q⟩
  | GtE =>
    refine ⟨_, op_ge, ?_⟩
    intro B F H io st rh σ x y d e b Q g hx hy hf q
    cases d <;> cases e <;> simp only [cmpD] at hf <;> try (cases hf; done)
    cases hf; cases hx; cases hy
    exact ⟨_, _, rfl, rfl, q⟩
  | In =>
    refine ⟨_, op_in_sign.or op_in_seq, ?_⟩
    intro B F H io st rh σ x y d e b Q g hx hy hf q
    rcases in_ok hK g hx hy hf with ⟨k, z, rfl, rfl, rfl⟩ | ⟨p, xs, rfl, h1, h2, h3, rfl⟩
    · exact .inl ⟨k, z, rfl, rfl, q⟩
    · exact .inr ⟨p, xs, rfl, h1, h2, h3, q⟩
  | NotIn =>
    refine ⟨_, op_notIn_sign.or op_notIn_seq, ?_⟩
    intro B F H io st rh σ x y d e b Q g hx hy hf q
    simp only [cmpD, Option.map_eq_some_iff] at hf
    obtain ⟨b', hf, rfl⟩ := hf
    rcases in_ok hK g hx hy hf with ⟨k, z, rfl, rfl, rfl⟩ | ⟨p, xs, rfl, h1, h2, h3, rfl⟩
    · exact .inl ⟨k, z, rfl, rfl, q⟩
    · exact .inr ⟨p, xs, rfl, h1, h2, h3, q⟩
  | Is =>
    refine ⟨_, op_isN.or op_is_bl, ?_⟩
    intro B F H io st rh σ x y d e b Q g hx hy hf q
    rcases is_ok g hx hy hf with ⟨rfl, rfl⟩ | ⟨a, k, rfl, rfl, rfl⟩
    · exact .inl ⟨rfl, q⟩
    · exact .inr ⟨a, k, rfl, rfl, q⟩
  | IsNot =>
    refine ⟨_, op_notN.or op_isnot_bl, ?_⟩
    intro B F H io st rh σ x y d e b Q g hx hy hf q
    simp only [cmpD, Option.map_eq_some_iff] at hf
    obtain ⟨b', hf, rfl⟩ := hf
    rcases is_ok g hx hy hf with ⟨rfl, rfl⟩ | ⟨a, k, rfl, rfl, rfl⟩
    · exact .inl ⟨rfl, q⟩
    · exact .inr ⟨a, k, rfl, rfl, q⟩
end
end KL

namespace KL
open PySem L2

/-! ### what a context has -/
structure Cok (X : Cx) (c : Ct) (W : WX) : Prop where
  hK : X.K = c.K
  nd : X.N.Nodup
  calm : X.calm = true
  hu : X.A.units + 64 < cLine
  tk : Takes X W

/-! ### names, constants, arguments -/
def eVar (i : Nat) : Sm := fun rh st => match rh[i]? with
  | some (some (.val d)) => .ok (.d d) st
  | some (some (.own _)) => .ok (.o i) st
  | _ => .no
def eC (d : D) : Sm := fun _ st => .ok (.d d) st
def toDv : TV → Option D
  | .d d => some d
  | .fr ds => some (.lst ds)
  | .o _ => none
def eArgs : List Sm → Rho → Sto → R (List D)
  | [], _, st => .ok [] st
  | f :: fs, rh, st => (f rh st).bind fun t st1 => match toDv t with
    | none => .no
    | some d => (eArgs fs rh st1).bind fun ds st2 => .ok (d :: ds) st2
def eTup (fs : List Sm) : Sm := fun rh st => (eArgs fs rh st).bind fun ds st1 => .ok (.d (.tup ds)) st1
def eLst (fs : List Sm) : Sm := fun rh st => (eArgs fs rh st).bind fun ds st1 => .ok (.fr ds) st1
def PstA (c : Ct) (W : WX) (F : Hp) (io : List Addr) (σ : St) (H : Hp) (Q : List V → Hp → Prop) : R (List D) → Prop
  | .ok ds st' => ∀ vs H' F' io', Stp F io H F' io' H' → Sim c F' io' st' → RvAll c F' io' vs ds → Q vs H'
  | .ex e st' => ∀ H' F' io', Stp F io H F' io' H' → Sim c F' io' st' → W (c.xc e) none σ H'
  | .no => False
def denA (c : Ct) (W : WX) (fs : List Sm) : TA := fun σ H Q => ∃ B F io st rh, Good c B F io st rh σ H ∧ PstA c W F io σ H Q (eArgs fs rh st)
section
variable {X : Cx} {c : Ct} {W : WX} {B : Bs} {F F1 H H1 : Hp} {io io1 : List Addr} {st st1 : Sto} {rh : Rho} {σ : St} {Q : VK} {v : V} {t : TV} {d : D}
theorem pe_den_var {i : Nat} {x : Str} {pos : Pos} (hN : X.N[i]? = some x) (hv : Vis X.env.scope x) (hd : (x == ("__debug__" : Str)) = false) (hcd : (x == ("__classdict__" : Str)) = false) : PE X (.Name x pos) (den c W (eVar i)) := by
  refine PE.weak (pe_var (i := i) hN hv hd hcd) fun σ H Q ⟨B, F, io, st, rh, g, p⟩ => ?_
  unfold eVar at p
  cases q : rh[i]? with
  | none => rw [q] at p; exact p.elim
  | some o =>
    cases o with
    | none => rw [q] at p; exact p.elim
    | some k =>
      cases k with
      | val d =>
        rw [q] at p
        obtain ⟨v, e1, r⟩ := g.val i d q
        exact ⟨v, e1, p v H F io (Stp.refl g.sub) g.sim r⟩
      | own ds =>
        rw [q] at p
        obtain ⟨a, vs, e1, _⟩ := g.own i ds q
        exact ⟨.ref a, e1, p _ H F io (Stp.refl g.sub) g.sim ⟨⟨ds, q⟩, e1⟩⟩
theorem pe_den_c {e : Expr} (h : PE X e (tC v)) (r : ∀ F io, Rv c F io v d) : PE X e (den c W (eC d)) :=
  PE.weak h fun σ H Q ⟨B, F, io, st, rh, g, p⟩ => p v H F io (Stp.refl g.sub) g.sim (r F io)
/-- what was just made is given away: it is leant on -/
theorem Tvs.give (S : Stp F io H F1 io1 H1) (s1 : Sim c F1 io1 st1) (T : Tvs c H F1 io1 rh σ H1 v t) (e : toDv t = some d) : ∃ F2, Stp F io H F2 io1 H1 ∧ Sim c F2 io1 st1 ∧ Rv c F2 io1 v d := by
  cases t with
  | d d' => cases e; exact ⟨F1, S, s1, T⟩
  | o i => cases e
  | fr ds =>
    cases e
    obtain ⟨p, vs, rfl, h0, h1, h2, r⟩ := T
    exact ⟨upd F1 p (.lst vs), S.lean h0 h1 h2, s1.more (upd_more h2), .lst upd_same (fun z => s1.dom z h2) (r.more (upd_more h2))⟩
theorem PstA.step {r : R (List D)} {Q : List V → Hp → Prop} (g : Good c B F io st rh σ H) (S : Stp F io H F1 io1 H1) (h : PstA c W F io σ H Q r) : PstA c W F1 io1 σ H1 Q r := by
  cases r with
  | ok t st' => exact fun v H' F' io' S' s' T' => h v H' F' io' (S.trans g.sub S') s' T'
  | ex e st' => exact fun H' F' io' S' s' => h H' F' io' (S.trans g.sub S') s'
  | no => exact h
def notStar : Expr → Bool
  | .Starred _ _ => false
  | _ => true
theorem star_cons {e : Expr} {es : List Expr} {env : Env} (h : notStar e = true) : starEach (e :: es) env = (false, eval e env) :: starEach es env := by
  cases e <;> first | rfl | cases h
theorem star_any {pos : Pos} {env : Env} : ∀ {es : List Expr}, es.all notStar = true → (backTo pos (starEach es env)).any (·.1) = false
  | [], _ => rfl
  | e :: es, h => by
    rw [List.all_cons, Bool.and_eq_true] at h
    rw [star_cons h.1]
    show (false || (backTo pos (starEach es env)).any (·.1)) = false
    rw [star_any h.2]
    rfl
theorem pa_den_nil : PA X [] (denA c W []) := ⟨fun pos pins s σ H Q I ⟨B, F, io, st, rh, g, p⟩ => pa_nil.run pos pins s σ H Q I (p [] H F io (Stp.refl g.sub) g.sim .nil)⟩
theorem pa_den_cons {e : Expr} {es : List Expr} {f : Sm} {fs : List Sm} (he : PE X e (den c W f)) (hs : PA X es (denA c W fs)) (hn : notStar e = true) : PA X (e :: es) (denA c W (f :: fs)) := by
  refine ⟨fun pos pins s σ H Q I ⟨B, F, io, st, rh, g, p⟩ => (pa_cons he hs (star_cons hn)).run pos pins s σ H Q I ?_⟩
  refine ⟨B, F, io, st, rh, g, ?_⟩
  unfold eArgs at p
  cases hr : f rh st with
  | no => rw [hr] at p; exact p.elim
  | ex x st' => rw [hr] at p; exact p
  | ok t st1 =>
    rw [hr] at p
    intro v H1 F1 io1 S s1 T
    have p : PstA c W F io σ H Q (match toDv t with
      | none => .no
      | some d => (eArgs fs rh st1).bind fun ds st2 => .ok (d :: ds) st2) := p
    cases ht : toDv t with
    | none => rw [ht] at p; exact p.elim
    | some d =>
      rw [ht] at p
      obtain ⟨F2, S2, s2, r2⟩ := Tvs.give S s1 T ht
      have g2 := g.step S2 s2
      refine ⟨B, F2, io1, st1, rh, g2, ?_⟩
      have p : PstA c W F io σ H Q ((eArgs fs rh st1).bind fun ds st2 => .ok (d :: ds) st2) := p
      have p := PstA.step g S2 p
      cases hq : eArgs fs rh st1 with
      | no => rw [hq] at p; exact p.elim
      | ex x st' => rw [hq] at p; exact p
      | ok ds st2 =>
        rw [hq] at p
        intro vs H3 F3 io3 S3 s3 T3
        exact p (v :: vs) H3 F3 io3 S3 s3 (.cons (r2.step S3 g2.sub) T3)
/-- from arguments on -/
theorem PstA.bind {r : R (List D)} {k : List D → Sto → R TV} {Q1 : List V → Hp → Prop} (g : Good c B F io st rh σ H) (h : Pst c W F io rh σ H Q (r.bind k))
    (hk : ∀ (ds : List D) (st1 : Sto) (vs : List V) (H1 F1 : Hp) (io1 : List Addr), r = .ok ds st1 → Stp F io H F1 io1 H1 → Good c B F1 io1 st1 rh σ H1 → RvAll c F1 io1 vs ds → Pst c W F1 io1 rh σ H1 Q (k ds st1) → Q1 vs H1) : PstA c W F io σ H Q1 r := by
  cases r with
  | ok ds st' => exact fun vs H' F' io' S s' T => hk ds st' vs H' F' io' rfl S (g.step S s') T (Pst.step (r := k ds st') g S h)
  | ex e st' => exact h
  | no => exact h
theorem eArgs_length : ∀ {fs : List Sm} {rh : Rho} {st st1 : Sto} {ds : List D}, eArgs fs rh st = .ok ds st1 → ds.length = fs.length
  | [], _, _, _, _, h => by cases h; rfl
  | f :: fs, rh, st, st1, ds, h => by
    unfold eArgs at h
    cases hr : f rh st with
    | no => rw [hr] at h; cases h
    | ex x st' => rw [hr] at h; cases h
    | ok t st2 =>
      rw [hr] at h
      simp only [R.bind] at h
      cases ht : toDv t with
      | none => rw [ht] at h; cases h
      | some d =>
        rw [ht] at h
        simp only at h
        cases hq : eArgs fs rh st2 with
        | no => rw [hq] at h; cases h
        | ex x st' => rw [hq] at h; cases h
        | ok ds' st3 =>
          rw [hq] at h
          simp only [R.ok.injEq] at h
          obtain ⟨rfl, rfl⟩ := h
          rw [List.length_cons, List.length_cons, eArgs_length hq]
theorem pe_den_tup {es : List Expr} {fs : List Sm} {k : Nat} {pos : Pos} (h : PA X es (denA c W fs)) (hl : fs.length ≤ sizeLine) : PE X (.Tuple es k pos) (den c W (eTup fs)) := by
  refine PE.weak (pe_tup h) fun σ H Q ⟨B, F, io, st, rh, g, p⟩ => ?_
  refine ⟨B, F, io, st, rh, g, PstA.bind g p fun ds st1 vs H1 F1 io1 e S g1 r p1 => ⟨by rw [r.length, eArgs_length e]; exact hl, fun q hq => (p1.out g1).tup g1 r q hq⟩⟩
theorem pe_den_lst {es : List Expr} {fs : List Sm} {pos : Pos} (h : PA X es (denA c W fs)) (hl : fs.length ≤ sizeLine) : PE X (.List es pos) (den c W (eLst fs)) := by
  refine PE.weak (pe_lst h) fun σ H Q ⟨B, F, io, st, rh, g, p⟩ => ?_
  refine ⟨B, F, io, st, rh, g, PstA.bind g p fun ds st1 vs H1 F1 io1 e S g1 r p1 => ⟨by rw [r.length, eArgs_length e]; exact hl, fun q hq => (p1.out g1).lst g1 r q hq⟩⟩
end

/-! ### operators -/
def eOp2 (f : D → D → Option TV) (fa fb : Sm) : Sm := fun rh st => (fa rh st).bind fun t1 st1 => (fb rh st1).bind fun t2 st2 =>
  match view rh st2 t1, view rh st2 t2 with
  | some d, some e => (match f d e with
    | some t => .ok t st2
    | none => .no)
  | _, _ => .no
def bV (o : Option Bool) : Option TV := o.map fun b => .d (.bl b)
def eBin (op : Operator) : Sm → Sm → Sm := eOp2 (binD op)
def eCmp (op : CmpOp) : Sm → Sm → Sm := eOp2 fun d e => bV (cmpD op d e)
section
variable {X : Cx} {c : Ct} {W : WX} {B : Bs} {F F1 H H1 : Hp} {io io1 : List Addr} {st st1 : Sto} {rh : Rho} {σ : St} {Q : VK} {v : V} {t : TV} {d : D} {a b : Expr} {fa fb : Sm} {pos : Pos}
theorem op2_of {f : D → D → Option TV} {r : R2} (ok : OpOk c r f) {σ : St} {H : Hp} {Q : VK} (h : den c W (eOp2 f fa fb) σ H Q) : tOp r (den c W fa) (den c W fb) σ H Q := by
  obtain ⟨B, F, io, st, rh, g, p⟩ := h
  refine ⟨B, F, io, st, rh, g, Pst.bind g p fun t1 st1 x H1 F1 io1 e1 S1 g1 T1 p1 => ⟨B, F1, io1, st1, rh, g1, Pst.bind g1 p1 fun t2 st2 y H2 F2 io2 e2 S2 g2 T2 p2 => ?_⟩⟩
  cases h1 : view rh st2 t1 with
  | none => rw [h1] at p2; exact p2.elim
  | some d =>
    cases h2 : view rh st2 t2 with
    | none => rw [h1, h2] at p2; exact p2.elim
    | some e =>
      rw [h1, h2] at p2
      have p2 : Pst c W F2 io2 rh σ H2 Q (match f d e with
        | some t => .ok t st2
        | none => .no) := p2
      cases h3 : f d e with
      | none => rw [h3] at p2; exact p2.elim
      | some t =>
        rw [h3] at p2
        exact ok g2 (view_ok g2 ((T1.r g1.sim).step S2 g1.sub) h1) (view_ok g2 (T2.r g2.sim) h2) h3 (p2.out g2)
theorem pe_den_bin (C : Cok X c W) {op : Operator} (ha : PE X a (den c W fa)) (hb : PE X b (den c W fb)) : PE X (.BinOp a op b pos) (den c W (eBin op fa fb)) := by
  obtain ⟨r, ho, ok⟩ := bin_ok (X := X) C.hK op
  exact PE.weak (pe_op ho ha hb) fun σ H Q h => op2_of ok h
theorem cmpOk_op {r : R2} {f : D → D → Option Bool} (ok : CmpOk c r f) : OpOk c r (fun d e => bV (f d e)) := by
  intro B F H io st rh σ x y d e t Q g hx hy hf ho
  unfold bV at hf
  rw [Option.map_eq_some_iff] at hf
  obtain ⟨b, hb, rfl⟩ := hf
  exact ok g hx hy hb (ho.same g.sub (.bl b))
theorem pe_den_cmp (C : Cok X c W) {op : CmpOp} (ha : PE X a (den c W fa)) (hb : PE X b (den c W fb)) (hm : behindInMarks op b = false) : PE X (.Compare a [op] [b] pos) (den c W (eCmp op fa fb)) := by
  obtain ⟨r, ho, ok⟩ := cmp_ok (X := X) C.hK C.hu op
  exact PE.weak (pe_cmpR ho ha hb hm) fun σ H Q h => op2_of (cmpOk_op ok) h
end
/-! ### tests -/
def denT (c : Ct) (W : WX) (f : Sm) : TT := fun σ H Q => den c W f σ H fun v H' => ∃ b, v = .bl b ∧ Q b H'
/-- it gives a truth or nothing -/
def tyB (r : R TV) : R TV := r.bind fun t st => match t with
  | .d (.bl b) => .ok (.d (.bl b)) st
  | _ => .no
section
variable {X : Cx} {c : Ct} {W : WX} {a b e : Expr} {fa fb : Sm} {pos : Pos}
theorem pt_den_cmp (C : Cok X c W) {op : CmpOp} (ha : PE X a (den c W fa)) (hb : PE X b (den c W fb)) (hm : behindInMarks op b = false) : PT X (.Compare a [op] [b] pos) (denT c W (eCmp op fa fb)) := by
  obtain ⟨r, ho, ok⟩ := cmp_ok (X := X) C.hK C.hu op
  exact PT.weak (pt_cmpR ho ha hb hm) fun σ H Q h => op2_of (cmpOk_op ok) h
end
def eCmp2 (op op' : CmpOp) (fa fb fc : Sm) : Sm := fun rh st => (fa rh st).bind fun t1 st1 => (fb rh st1).bind fun t2 st2 =>
  match view rh st2 t1, view rh st2 t2 with
  | some d, some e => (match cmpD op d e with
    | some true => (fc rh st2).bind fun t3 st3 => (match view rh st3 t2, view rh st3 t3 with
      | some e', some f' => (match cmpD op' e' f' with
        | some b => .ok (.d (.bl b)) st3
        | none => .no)
      | _, _ => .no)
    | some false => .ok (.d (.bl false)) st2
    | none => .no)
  | _, _ => .no
section
variable {X : Cx} {c : Ct} {W : WX} {a b e : Expr} {fa fb fc : Sm} {pos : Pos}
theorem chain_of {op op' : CmpOp} {r r' : R2} (ok : CmpOk c r (cmpD op)) (ok' : CmpOk c r' (cmpD op')) {σ : St} {H : Hp} {Q : VK} (h : den c W (eCmp2 op op' fa fb fc) σ H Q) : tChain r r' (den c W fa) (den c W fb) (den c W fc) σ H Q := by
  obtain ⟨B, F, io, st, rh, g, p⟩ := h
  refine ⟨B, F, io, st, rh, g, Pst.bind g p fun t1 st1 x H1 F1 io1 e1 S1 g1 T1 p1 => ⟨B, F1, io1, st1, rh, g1, Pst.bind g1 p1 fun t2 st2 y H2 F2 io2 e2 S2 g2 T2 p2 => ?_⟩⟩
  cases h1 : view rh st2 t1 with
  | none => rw [h1] at p2; exact p2.elim
  | some d =>
    cases h2 : view rh st2 t2 with
    | none => rw [h1, h2] at p2; exact p2.elim
    | some e =>
      rw [h1, h2] at p2
      have p2 : Pst c W F2 io2 rh σ H2 Q (match cmpD op d e with
        | some true => (fc rh st2).bind fun t3 st3 => (match view rh st3 t2, view rh st3 t3 with
          | some e', some f' => (match cmpD op' e' f' with
            | some b => .ok (.d (.bl b)) st3
            | none => .no)
          | _, _ => .no)
        | some false => .ok (.d (.bl false)) st2
        | none => .no) := p2
      cases h3 : cmpD op d e with
      | none => rw [h3] at p2; exact p2.elim
      | some k =>
        rw [h3] at p2
        refine ok g2 (view_ok g2 ((T1.r g1.sim).step S2 g1.sub) h1) (view_ok g2 (T2.r g2.sim) h2) h3 ⟨k, rfl, ?_⟩
        cases k with
        | false => exact iteF ((p2.out g2).same g2.sub (.bl false))
        | true =>
          refine iteT ⟨B, F2, io2, st2, rh, g2, Pst.bind g2 p2 fun t3 st3 z H3 F3 io3 e3 S3 g3 T3 p3 => ?_⟩
          cases h4 : view rh st3 t2 with
          | none => rw [h4] at p3; exact p3.elim
          | some e' =>
            cases h5 : view rh st3 t3 with
            | none => rw [h4, h5] at p3; exact p3.elim
            | some f' =>
              rw [h4, h5] at p3
              have p3 : Pst c W F3 io3 rh σ H3 Q (match cmpD op' e' f' with
                | some b => .ok (.d (.bl b)) st3
                | none => .no) := p3
              cases h6 : cmpD op' e' f' with
              | none => rw [h6] at p3; exact p3.elim
              | some b =>
                rw [h6] at p3
                exact ok' g3 (view_ok g3 ((T2.r g2.sim).step S3 g2.sub) h4) (view_ok g3 (T3.r g3.sim) h5) h6 ((p3.out g3).same g3.sub (.bl b))
theorem pe_den_cmp2 (C : Cok X c W) {op op' : CmpOp} {c' : Expr} (ha : PE X a (den c W fa)) (hb : PE X b (den c W fb)) (hc : PE X c' (den c W fc)) (hm : lastMarks [op, op'] [b, c'] = false) : PE X (.Compare a [op, op'] [b, c'] pos) (den c W (eCmp2 op op' fa fb fc)) := by
  obtain ⟨r, ho, ok⟩ := cmp_ok (X := X) C.hK C.hu op
  obtain ⟨r', ho', ok'⟩ := cmp_ok (X := X) C.hK C.hu op'
  exact PE.weak (pe_chain ho ho' ha hb hc hm) fun σ H Q h => chain_of ok ok' h
theorem pt_den_cmp2 (C : Cok X c W) {op op' : CmpOp} {c' : Expr} (ha : PE X a (den c W fa)) (hb : PE X b (den c W fb)) (hc : PE X c' (den c W fc)) (hm : lastMarks [op, op'] [b, c'] = false) : PT X (.Compare a [op, op'] [b, c'] pos) (denT c W (eCmp2 op op' fa fb fc)) := by
  obtain ⟨r, ho, ok⟩ := cmp_ok (X := X) C.hK C.hu op
  obtain ⟨r', ho', ok'⟩ := cmp_ok (X := X) C.hK C.hu op'
  exact PT.weak (pt_chain ho ho' ha hb hc hm) fun σ H Q h => chain_of ok ok' h
end
end KL

namespace KL
open PySem L2

/-! ### one operand -/
def eOp1 (f : D → Option TV) (fa : Sm) : Sm := fun rh st => (fa rh st).bind fun t1 st1 =>
  match view rh st1 t1 with
  | some d => (match f d with
    | some t => .ok t st1
    | none => .no)
  | none => .no
/-- an operation on one value keeps to its data -/
def Op1Ok (c : Ct) (r : V → Hp → VK → Prop) (f : D → Option TV) : Prop := ∀ {B : Bs} {F H : Hp} {io : List Addr} {st : Sto} {rh : Rho} {σ : St} {x : V} {d : D} {t : TV} {Q : VK}, Good c B F io st rh σ H → Vw c F io H x d → f d = some t → Out c F io rh σ H Q t → r x H Q
section
variable {X : Cx} {c : Ct} {W : WX} {a b e : Expr} {fa fb fc : Sm} {pos : Pos}
theorem op1_of {f : D → Option TV} {r : V → Hp → VK → Prop} (ok : Op1Ok c r f) {σ : St} {H : Hp} {Q : VK} (h : den c W (eOp1 f fa) σ H Q) : den c W fa σ H fun x H1 => r x H1 Q := by
  obtain ⟨B, F, io, st, rh, g, p⟩ := h
  refine ⟨B, F, io, st, rh, g, Pst.bind g p fun t1 st1 x H1 F1 io1 e1 S1 g1 T1 p1 => ?_⟩
  cases h1 : view rh st1 t1 with
  | none => rw [h1] at p1; exact p1.elim
  | some d =>
    rw [h1] at p1
    have p1 : Pst c W F1 io1 rh σ H1 Q (match f d with
      | some t => .ok t st1
      | none => .no) := p1
    cases h3 : f d with
    | none => rw [h3] at p1; exact p1.elim
    | some t =>
      rw [h3] at p1
      exact ok g1 (view_ok g1 (T1.r g1.sim) h1) h3 (p1.out g1)
end

/-! ### truth, not, and, or, if-else -/
def truD : D → Option Bool
  | .non => some false
  | .bl b => some b
  | .int i => some (i != 0)
  | .str x => if x.length ≤ sizeLine then some ((x.length : Int) != 0) else none
  | .tup ds => some (!ds.isEmpty)
  | .lst ds => some (!ds.isEmpty)
  | _ => none
def eTru : Sm → Sm := eOp1 fun d => bV (truD d)
def notD : D → Option Bool
  | .bl b => some (!b)
  | _ => none
def eNot : Sm → Sm := eOp1 fun d => bV (notD d)
def eAnd (fa fb : Sm) : Sm := fun rh st => (fa rh st).bind fun t st1 => match t with
  | .d (.bl true) => fb rh st1
  | .d (.bl false) => .ok (.d (.bl false)) st1
  | _ => .no
def eOr (fa fb : Sm) : Sm := fun rh st => (fa rh st).bind fun t st1 => match t with
  | .d (.bl false) => fb rh st1
  | .d (.bl true) => .ok (.d (.bl true)) st1
  | _ => .no
def eIf (fc fa fb : Sm) : Sm := fun rh st => (fc rh st).bind fun t st1 => match t with
  | .d (.bl true) => fa rh st1
  | .d (.bl false) => fb rh st1
  | _ => .no
section
variable {X : Cx} {c : Ct} {W : WX} {a b e : Expr} {rest : List Expr} {fa fb fc : Sm} {pos : Pos} {B : Bs} {F F1 H H1 : Hp} {io io1 : List Addr} {st st1 : Sto} {rh : Rho} {σ : St} {Q : VK}
theorem RvAll.emp {c : Ct} {F : Hp} {io : List Addr} {vs : List V} {ds : List D} (r : RvAll c F io vs ds) : vs.isEmpty = ds.isEmpty := by cases r <;> rfl
theorem tru_of (hK : X.K = c.K) {x : V} {d : D} {k : Bool} (g : Good c B F io st rh σ H) (h : Vw c F io H x d) (e : truD d = some k) : TruV X.K x H k := by
  cases d with
  | non => cases h; cases e; rfl
  | bl b => cases h; cases e; rfl
  | int i => cases h; cases e; rfl
  | str s =>
    cases h
    simp only [truD] at e
    split at e
    · rename_i hl
      cases e
      exact ⟨hl, rfl⟩
    · cases e
  | tup ds =>
    cases e
    have h' : Rv c F io x (.tup ds) := h
    obtain ⟨a, vs, rfl, q1, r1⟩ := Rv.sqT (a := 0) g.sub h'
    exact .inr (.inl ⟨vs, by rw [hK]; exact q1, by rw [r1.emp]⟩)
  | lst ds =>
    cases e
    obtain ⟨a, vs, rfl, q1, r1⟩ := h
    exact .inl ⟨vs, .inl (.inl q1), by rw [r1.emp]⟩
  | loc n => cases e
  | scr n => cases e
/-- a test whose own rule is its value's truth -/
def plainT : Expr → Bool
  | .UnaryOp .Not _ _ => false
  | .BoolOp _ _ _ => false
  | .IfExp _ _ _ _ => false
  | .Compare _ _ _ _ => false
  | _ => true
theorem plainT_eq {e : Expr} {env : Env} (h : plainT e = true) (whole : PySem.Sem Value) : isTrue e env whole = (do let v ← whole; standAt e.pos; holding [v] (truthy v)) := by
  cases e with
  | UnaryOp op x p => cases op <;> first | rfl | cases h
  | BoolOp => cases h
  | IfExp => cases h
  | Compare => cases h
  | _ => rfl
theorem den_mono {f : Sm} {σ : St} {H : Hp} {Q Q' : VK} (h : den c W f σ H Q) (hq : ∀ v H', Q v H' → Q' v H') : den c W f σ H Q' := by
  obtain ⟨B, F, io, st, rh, g, p⟩ := h
  refine ⟨B, F, io, st, rh, g, ?_⟩
  cases hr : f rh st with
  | no => rw [hr] at p; exact p
  | ex x s => rw [hr] at p; exact p
  | ok t s => rw [hr] at p; exact fun v H' F' io' S s' T => hq v H' (p v H' F' io' S s' T)
theorem tru_ok1 (hK : X.K = c.K) : Op1Ok c (fun x H1 Q' => ∃ k, TruV X.K x H1 k ∧ Q' (.bl k) H1) (fun d => bV (truD d)) := by
  intro B F H io st rh σ x d t Q g hx hf ho
  unfold bV at hf
  rw [Option.map_eq_some_iff] at hf
  obtain ⟨k, hk, rfl⟩ := hf
  exact ⟨k, tru_of hK g hx hk, ho.same g.sub (.bl k)⟩
theorem pt_den_tru (C : Cok X c W) (ha : PE X a (den c W fa)) (hp : plainT a = true) : PT X a (denT c W (eTru fa)) := by
  refine PT.weak (pt_truth ha (plainT_eq hp)) fun σ H Q h => ?_
  refine den_mono (op1_of (tru_ok1 C.hK) h) fun v H' ⟨k, h1, b, h2, h3⟩ => ?_
  cases h2
  exact ⟨k, h1, h3⟩
theorem not_of {σ : St} {H : Hp} {Q : VK} (h : den c W (eNot fa) σ H Q) : den c W fa σ H fun x H1 => ∃ k, x = .bl k ∧ Q (.bl (!k)) H1 := by
  refine op1_of (r := fun x H1 Q' => ∃ k, x = .bl k ∧ Q' (.bl (!k)) H1) ?_ h
  intro B F H io st rh σ x d t Q g hx hf ho
  unfold bV at hf
  rw [Option.map_eq_some_iff] at hf
  obtain ⟨k, hk, rfl⟩ := hf
  cases d <;> simp only [notD] at hk <;> try (cases hk; done)
  cases hk
  cases hx
  exact ⟨_, rfl, ho.same g.sub (.bl _)⟩
theorem pe_den_not (ha : PE X a (den c W fa)) : PE X (.UnaryOp .Not a pos) (den c W (eNot fa)) := PE.weak (pe_not ha) fun σ H Q h => not_of h
theorem pt_den_not (ha : PT X a (denT c W fa)) : PT X (.UnaryOp .Not a pos) (denT c W (eNot fa)) := by
  refine PT.weak (pt_not ha) fun σ H Q h => den_mono (not_of h) fun v H' ⟨k, e, b, e2, q⟩ => ⟨k, e, ?_⟩
  cases e2
  exact q
/-- a truth, then what is done by it -/
theorem bl_then {r : R TV} {kt kf : Sto → R TV} {Q1 : VK} (g : Good c B F io st rh σ H) (h : Pst c W F io rh σ H Q (r.bind fun t st1 => match t with
    | .d (.bl true) => kt st1
    | .d (.bl false) => kf st1
    | _ => .no))
    (hk : ∀ (b : Bool) (st1 : Sto) (H1 F1 : Hp) (io1 : List Addr), Good c B F1 io1 st1 rh σ H1 → Pst c W F1 io1 rh σ H1 Q (if b then kt st1 else kf st1) → Q1 (.bl b) H1) : Pst c W F io rh σ H Q1 r := by
  refine Pst.bind g h fun t st1 v H1 F1 io1 e S g1 T p => ?_
  cases t with
  | d d =>
    cases d with
    | bl b =>
      cases T
      cases b with
      | true => exact hk true st1 H1 F1 io1 g1 p
      | false => exact hk false st1 H1 F1 io1 g1 p
    | _ => exact p.elim
  | _ => exact p.elim
theorem and_flip {fa fb : Sm} : eAnd fa fb rh st = (fa rh st).bind fun t st1 => match t with
    | .d (.bl true) => fb rh st1
    | .d (.bl false) => .ok (.d (.bl false)) st1
    | _ => .no := rfl
theorem or_flip {fa fb : Sm} : eOr fa fb rh st = (fa rh st).bind fun t st1 => match t with
    | .d (.bl true) => .ok (.d (.bl true)) st1
    | .d (.bl false) => fb rh st1
    | _ => .no := by
  unfold eOr
  congr 1
  funext t s
  cases t with
  | d d => cases d with
    | bl b => cases b <;> rfl
    | _ => rfl
  | _ => rfl
theorem pe_den_and (ha : PE X a (den c W fa)) (hb : PE X (.BoolOp .And (b :: rest) pos) (den c W fb)) : PE X (.BoolOp .And (a :: b :: rest) pos) (den c W (eAnd fa fb)) := by
  refine PE.weak (pe_and ha hb) fun σ H Q ⟨B, F, io, st, rh, g, p⟩ => ⟨B, F, io, st, rh, g, bl_then g p fun k st1 H1 F1 io1 g1 p1 => ⟨k, rfl, ?_⟩⟩
  cases k with
  | true => exact iteT ⟨B, F1, io1, st1, rh, g1, p1⟩
  | false => exact iteF ((Pst.out (t := .d (.bl false)) g1 p1).same g1.sub (.bl false))
theorem pe_den_or (ha : PE X a (den c W fa)) (hb : PE X (.BoolOp .Or (b :: rest) pos) (den c W fb)) : PE X (.BoolOp .Or (a :: b :: rest) pos) (den c W (eOr fa fb)) := by
  refine PE.weak (pe_or ha hb) fun σ H Q ⟨B, F, io, st, rh, g, p⟩ => ⟨B, F, io, st, rh, g, ?_⟩
  rw [or_flip] at p
  refine bl_then g p fun k st1 H1 F1 io1 g1 p1 => ⟨k, rfl, ?_⟩
  cases k with
  | false => exact iteF ⟨B, F1, io1, st1, rh, g1, p1⟩
  | true => exact iteT ((Pst.out (t := .d (.bl true)) g1 p1).same g1.sub (.bl true))
theorem PW.weak {t t' : TT} (h : PW X e t) (hw : ∀ σ H Q, t' σ H Q → t σ H Q) : PW X e t' := ⟨fun wh pins s σ H Q I q => h.run wh pins s σ H Q I (hw σ H Q q)⟩
theorem pw_den_and (ha : PT X a (denT c W fa)) (hb : PW X (.BoolOp .And (b :: rest) pos) (denT c W fb)) : PW X (.BoolOp .And (a :: b :: rest) pos) (denT c W (eAnd fa fb)) := by
  refine PW.weak (pw_and ha hb) fun σ H Q ⟨B, F, io, st, rh, g, p⟩ => ⟨B, F, io, st, rh, g, bl_then g p fun k st1 H1 F1 io1 g1 p1 => ⟨k, rfl, ?_⟩⟩
  cases k with
  | true => exact iteT ⟨B, F1, io1, st1, rh, g1, p1⟩
  | false =>
    obtain ⟨b, e, q⟩ := (Pst.out (t := .d (.bl false)) g1 p1).same g1.sub (.bl false)
    cases e
    exact iteF q
theorem pw_den_or (ha : PT X a (denT c W fa)) (hb : PW X (.BoolOp .Or (b :: rest) pos) (denT c W fb)) : PW X (.BoolOp .Or (a :: b :: rest) pos) (denT c W (eOr fa fb)) := by
  refine PW.weak (pw_or ha hb) fun σ H Q ⟨B, F, io, st, rh, g, p⟩ => ⟨B, F, io, st, rh, g, ?_⟩
  rw [or_flip] at p
  refine bl_then g p fun k st1 H1 F1 io1 g1 p1 => ⟨k, rfl, ?_⟩
  cases k with
  | false => exact iteF ⟨B, F1, io1, st1, rh, g1, p1⟩
  | true =>
    obtain ⟨b, e, q⟩ := (Pst.out (t := .d (.bl true)) g1 p1).same g1.sub (.bl true)
    cases e
    exact iteT q
theorem pe_den_if {t : Expr} (hc : PT X t (denT c W fc)) (ha : PE X a (den c W fa)) (hb : PE X b (den c W fb)) : PE X (.IfExp t a b pos) (den c W (eIf fc fa fb)) := by
  refine PE.weak (pe_ifExp hc ha hb) fun σ H Q ⟨B, F, io, st, rh, g, p⟩ => ⟨B, F, io, st, rh, g, bl_then g p fun k st1 H1 F1 io1 g1 p1 => ⟨k, rfl, ?_⟩⟩
  cases k with
  | true => exact iteT ⟨B, F1, io1, st1, rh, g1, p1⟩
  | false => exact iteF ⟨B, F1, io1, st1, rh, g1, p1⟩
end

/-! ### items, slices, minus -/
def dV (o : Option D) : Option TV := o.map .d
def idxD : D → D → Option D
  | .tup ds, .int i => atI ds i
  | .lst ds, .int i => atI ds i
  | .scr ns, .int i => (atI ns i).map .int
  | .str z, .int i => if z.length ≤ sizeLine then (atI z.cps.toList i).map fun k => .str ⟨#[k]⟩ else none
  | _, _ => none
def eIdx : Sm → Sm → Sm := eOp2 fun d e => dV (idxD d e)
def cutD (xs : List D) (lo hi : Option Int) : List D := (xs.drop (HT.sIx xs.length 0 lo)).take (HT.sIx xs.length xs.length hi - HT.sIx xs.length 0 lo)
def slcD (lo hi : Option Int) : D → Option TV
  | .tup ds => some (.d (.tup (cutD ds lo hi)))
  | .lst ds => some (.fr (cutD ds lo hi))
  | .str z => if z.length ≤ sizeLine then some (.d (.str (cutS z lo hi))) else none
  | _ => none
/-- a part of a slice: left out, or an int -/
def ePart (o : Option Sm) (rh : Rho) (st : Sto) : R (Option Int) := match o with
  | none => .ok none st
  | some f => (f rh st).bind fun t st1 => match t with
    | .d (.int i) => .ok (some i) st1
    | _ => .no
def eSlc (fa : Sm) (lo hi : Option Sm) : Sm := fun rh st => (fa rh st).bind fun t st1 => (ePart lo rh st1).bind fun l st2 => (ePart hi rh st2).bind fun u st3 =>
  match view rh st3 t with
  | some d => (match slcD l u d with
    | some t => .ok t st3
    | none => .no)
  | none => .no
def negD : D → Option D
  | .int i => some (.int (-i))
  | _ => none
def eNeg : Sm → Sm := eOp1 fun d => dV (negD d)
section
variable {X : Cx} {c : Ct} {W : WX} {a b e : Expr} {rest : List Expr} {fa fb fc : Sm} {pos : Pos} {B : Bs} {F F1 H H1 : Hp} {io io1 : List Addr} {st st1 : Sto} {rh : Rho} {σ : St} {Q : VK}
theorem RvAll.atI {c : Ct} {F : Hp} {io : List Addr} {vs : List V} {ds : List D} {i : Int} {d : D} (r : RvAll c F io vs ds) (h : L2.atI ds i = some d) : ∃ v, L2.atI vs i = some v ∧ Rv c F io v d := by
  unfold L2.atI at h ⊢
  rw [Option.bind_eq_some_iff] at h
  obtain ⟨j, e1, e2⟩ := h
  obtain ⟨v, e3, q⟩ := r.get e2
  exact ⟨v, by rw [r.length, e1]; exact e3, q⟩
theorem atI_ints {ns : List Int} {i k : Int} (h : L2.atI ns i = some k) : L2.atI (ns.map V.int) i = some (.int k) := by
  unfold L2.atI at h ⊢
  rw [Option.bind_eq_some_iff] at h
  obtain ⟨j, e1, e2⟩ := h
  rw [List.length_map, e1]
  show (ns.map V.int)[j]? = _
  rw [List.getElem?_map, e2]
  rfl
theorem idx_ok (hK : X.K = c.K) : OpOk c (rIx X.K) (fun d e => dV (idxD d e)) := by
  intro B F H io st rh σ x y d e t Q g hx hy hf ho
  unfold dV at hf
  rw [Option.map_eq_some_iff] at hf
  obtain ⟨r, hr, rfl⟩ := hf
  cases d with
  | tup ds =>
    cases e <;> simp only [idxD] at hr <;> try (cases hr; done)
    cases hy
    have hx' : Rv c F io x (.tup ds) := hx
    obtain ⟨a, vs, rfl, q1, r1⟩ := Rv.sqT (a := 0) g.sub hx'
    obtain ⟨v, e1, rv⟩ := r1.atI hr
    exact .inr (.inl ⟨a, vs, _, v, rfl, rfl, by rw [hK]; exact q1, e1, ho.same g.sub rv⟩)
  | lst ds =>
    cases e <;> simp only [idxD] at hr <;> try (cases hr; done)
    cases hy
    obtain ⟨a, vs, rfl, q1, r1⟩ := hx
    obtain ⟨v, e1, rv⟩ := r1.atI hr
    exact .inl ⟨a, vs, _, v, rfl, rfl, .inl (.inl q1), e1, ho.same g.sub rv⟩
  | scr ns =>
    cases e <;> simp only [idxD] at hr <;> try (cases hr; done)
    rw [Option.map_eq_some_iff] at hr
    obtain ⟨k, hk, rfl⟩ := hr
    cases hy
    cases hx with
    | scr h =>
      refine .inl ⟨_, ns.map V.int, _, .int k, rfl, rfl, ?_, atI_ints hk, ho.same g.sub (.int k)⟩
      rcases h with ⟨h, _⟩ | h
      · rcases h with h | ⟨o, h⟩
        · exact .inl (.inl (g.sub _ _ h))
        · exact .inl (.inr ⟨o, g.sub _ _ h⟩)
      · rw [hK]; exact .inr h
  | str z =>
    cases e <;> simp only [idxD] at hr <;> try (cases hr; done)
    cases hy; cases hx
    split at hr
    · rename_i hl
      rw [Option.map_eq_some_iff] at hr
      obtain ⟨k, hk, rfl⟩ := hr
      exact .inr (.inr ⟨z, _, k, rfl, rfl, hl, hk, ho.same g.sub (.str _)⟩)
    · cases hr
  | _ => simp [idxD] at hr
def plainIx : Expr → Bool
  | .Slice _ _ _ _ => false
  | _ => true
theorem plainIx_ok {b : Expr} (h : plainIx b = true) : PlainIx b := fun o i => by
  cases b <;> first | rfl | cases h
theorem pe_den_idx (C : Cok X c W) (ha : PE X a (den c W fa)) (hb : PE X b (den c W fb)) (hp : plainIx b = true) : PE X (.Subscript a b pos) (den c W (eIdx fa fb)) :=
  PE.weak (pe_ix ix_seq ha hb (plainIx_ok hp)) fun σ H Q h => op2_of (idx_ok C.hK) h
def PstO (c : Ct) (W : WX) (F : Hp) (io : List Addr) (σ : St) (H : Hp) (Q : Option Int → Hp → Prop) : R (Option Int) → Prop
  | .ok o st' => ∀ H' F' io', Stp F io H F' io' H' → Sim c F' io' st' → Q o H'
  | .ex e st' => ∀ H' F' io', Stp F io H F' io' H' → Sim c F' io' st' → W (c.xc e) none σ H'
  | .no => False
def denO (c : Ct) (W : WX) (o : Option Sm) : TO := fun σ H Q => ∃ B F io st rh, Good c B F io st rh σ H ∧ PstO c W F io σ H Q (ePart o rh st)
theorem po_den_none : PO X none (denO c W none) := ⟨fun pins s σ H Q I ⟨B, F, io, st, rh, g, p⟩ => po_none.run pins s σ H Q I (p H F io (Stp.refl g.sub) g.sim)⟩
theorem po_den_some (h : PE X e (den c W fa)) : PO X (some e) (denO c W (some fa)) := by
  refine ⟨fun pins s σ H Q I ⟨B, F, io, st, rh, g, p⟩ => (po_some h).run pins s σ H Q I ⟨B, F, io, st, rh, g, ?_⟩⟩
  unfold ePart at p
  simp only at p
  cases hr : fa rh st with
  | no => rw [hr] at p; exact p.elim
  | ex x s => rw [hr] at p; exact p
  | ok t s =>
    rw [hr] at p
    intro v H' F' io' S s' T
    cases t with
    | d d =>
      cases d with
      | int i => cases T; exact ⟨i, rfl, p H' F' io' S s'⟩
      | _ => exact p.elim
    | _ => exact p.elim
theorem PstO.bind {r : R (Option Int)} {k : Option Int → Sto → R TV} {Q1 : Option Int → Hp → Prop} (g : Good c B F io st rh σ H) (h : Pst c W F io rh σ H Q (r.bind k))
    (hk : ∀ (o : Option Int) (st1 : Sto) (H1 F1 : Hp) (io1 : List Addr), r = .ok o st1 → Stp F io H F1 io1 H1 → Good c B F1 io1 st1 rh σ H1 → Pst c W F1 io1 rh σ H1 Q (k o st1) → Q1 o H1) : PstO c W F io σ H Q1 r := by
  cases r with
  | ok o st' => exact fun H' F' io' S s' => hk o st' H' F' io' rfl S (g.step S s') (Pst.step (r := k o st') g S h)
  | ex e st' => exact h
  | no => exact h
theorem RvAll.cut {c : Ct} {F : Hp} {io : List Addr} {vs : List V} {ds : List D} (r : RvAll c F io vs ds) (lo hi : Option Int) : RvAll c F io (cutV vs lo hi) (cutD ds lo hi) := by
  unfold cutV cutD
  rw [r.length]
  exact (r.drop _).take _
theorem slc_ok (hK : X.K = c.K) {lo hi : Option Int} : Op1Ok c (fun x H Q => (rSlA X.K x lo hi H Q ∨ rSlL X.K x lo hi H Q) ∨ rSlS x lo hi H Q) (slcD lo hi) := by
  intro B F H io st rh σ x d t Q g hx hf ho
  cases d with
  | tup ds =>
    simp only [slcD, Option.some.injEq] at hf
    subst hf
    have hx' : Rv c F io x (.tup ds) := hx
    obtain ⟨a, vs, rfl, q1, r1⟩ := Rv.sqT (a := 0) g.sub hx'
    refine .inl (.inl ⟨a, vs, rfl, by rw [hK]; exact q1, fun z => ?_, fun _ p hp => ho.tup g (r1.cut lo hi) p hp⟩)
    rw [r1.length] at z
    have e : cutD ds lo hi = ds := by
      unfold cutD
      rw [z.1, z.2]
      simp
    rw [e] at ho
    exact ho.same g.sub hx'
  | lst ds =>
    simp only [slcD, Option.some.injEq] at hf
    subst hf
    obtain ⟨a, vs, rfl, q1, r1⟩ := hx
    exact .inl (.inr ⟨a, vs, rfl, .inl (.inl q1), fun p hp => ho.lst g (r1.cut lo hi) p hp⟩)
  | str z =>
    simp only [slcD] at hf
    split at hf
    · rename_i hl
      cases hf
      cases hx
      exact .inr ⟨z, rfl, hl, ho.same g.sub (.str _)⟩
    · cases hf
  | _ => simp [slcD] at hf
theorem pe_den_slc (C : Cok X c W) {lo hi : Option Expr} {fl fh : Option Sm} {p2 : Pos} (ha : PE X a (den c W fa)) (hl : PO X lo (denO c W fl)) (hh : PO X hi (denO c W fh)) : PE X (.Subscript a (.Slice lo hi none p2) pos) (den c W (eSlc fa fl fh)) := by
  refine PE.weak (pe_slice ((sl_tupA.or sl_list).or sl_str) ha hl hh) fun σ H Q ⟨B, F, io, st, rh, g, p⟩ => ?_
  refine ⟨B, F, io, st, rh, g, Pst.bind g p fun t st1 x H1 F1 io1 e1 S1 g1 T1 p1 => ⟨B, F1, io1, st1, rh, g1, PstO.bind g1 p1 fun l st2 H2 F2 io2 e2 S2 g2 p2 => ⟨B, F2, io2, st2, rh, g2, PstO.bind g2 p2 fun u st3 H3 F3 io3 e3 S3 g3 p3 => ?_⟩⟩⟩
  cases h1 : view rh st3 t with
  | none => rw [h1] at p3; exact p3.elim
  | some d =>
    rw [h1] at p3
    have p3 : Pst c W F3 io3 rh σ H3 Q (match slcD l u d with
      | some t => .ok t st3
      | none => .no) := p3
    cases h3 : slcD l u d with
    | none => rw [h3] at p3; exact p3.elim
    | some t' =>
      rw [h3] at p3
      exact slc_ok C.hK g3 (view_ok g3 (((T1.r g1.sim).step S2 g1.sub).step S3 g2.sub) h1) h3 (p3.out g3)
theorem pe_den_neg (ha : PE X a (den c W fa)) : PE X (.UnaryOp .USub a pos) (den c W (eNeg fa)) := by
  refine PE.weak (pe_un un_neg ha) fun σ H Q h => op1_of (r := rU fun i => .int (-i)) ?_ h
  intro B F H io st rh σ x d t Q g hx hf ho
  unfold dV at hf
  rw [Option.map_eq_some_iff] at hf
  obtain ⟨r, hr, rfl⟩ := hf
  cases d <;> simp only [negD] at hr <;> try (cases hr; done)
  cases hr
  cases hx
  exact ⟨_, rfl, ho.same g.sub (.int _)⟩
end
end KL

namespace KL
open PySem L2

/-! ### calls of the program's own defs -/
abbrev Tbl := Str → List D → Sto → R D
def eCall (G : Tbl) (g : Str) (fs : List Sm) : Sm := fun rh st => (eArgs fs rh st).bind fun ds st1 => (G g ds st1).bind fun d st2 => .ok (.d d) st2
def PstC (c : Ct) (F : Hp) (io : List Addr) (H : Hp) (Q : VK) (E : XK) : R D → Prop
  | .ok d st' => ∀ v H' F' io', Stp F io H F' io' H' → Sim c F' io' st' → Rv c F' io' v d → Q v H'
  | .ex e st' => ∀ H' F' io', Stp F io H F' io' H' → Sim c F' io' st' → E (c.xc e) none H'
  | .no => False
/-- a def's promise, by its function on data -/
def spM (c : Ct) (n : Nat) (G : List D → Sto → R D) : Sp := fun vs H Q E => vs.length = n ∧ ∃ F io st ds, (∀ a o, F a = some o → H a = some o) ∧ Sim c F io st ∧ RvAll c F io vs ds ∧ PstC c F io H Q E (G ds st)
structure FnAt (X : Cx) (c : Ct) (G : Tbl) (g : Str) (n : Nat) (k : Nat) (f : Addr) (fd : FuncData) (ps : List Str) : Prop where
  ok : FnOk X.prog X.w X.K X.mg X.base (L2.CX X.prog X.w) k f fd ps (spM c n (G g))
  room : Room k X.A
  glo : X.mg g = some (.ref f)
  keep : PySem.W.keepIn X.K (.ref f) = true
  bnd : Binds X.K fd ps []
section
variable {X : Cx} {c : Ct} {W : WX} {a b e : Expr} {es : List Expr} {fa fb fc : Sm} {fs : List Sm} {pos p : Pos} {G : Tbl} {g : Str} {n k : Nat} {f : Addr} {fd : FuncData} {ps : List Str}
theorem call_den {σ : St} {H : Hp} {Q : VK} (hl : fs.length = n) (h : den c W (eCall G g fs) σ H Q) : tCallS (spM c n (G g)) (WE W) (denA c W fs) σ H Q := by
  obtain ⟨B, F, io, st, rh, g0, p0⟩ := h
  refine ⟨B, F, io, st, rh, g0, PstA.bind g0 p0 fun ds st1 vs H1 F1 io1 e1 S1 g1 r1 p1 => ?_⟩
  refine ⟨by rw [r1.length, eArgs_length e1, hl], F1, io1, st1, ds, g1.sub, g1.sim, r1, ?_⟩
  cases hr : G g ds st1 with
  | no => rw [hr] at p1; exact p1.elim
  | ex x s => rw [hr] at p1; exact p1
  | ok d s => rw [hr] at p1; exact fun v H' F' io' S s' T => p1 v H' F' io' S s' T
theorem pe_den_call (C : Cok X c W) (A : FnAt X c G g n k f fd ps) (hg : Gl X g) (ha : PA X (e :: es) (denA c W fs)) (hl : fs.length = n) (hdb : (g == ("__debug__" : Str)) = false) (hs : (e :: es).all notStar = true) :
    PE X (.Call (.Name g p) (e :: es) [] pos) (den c W (eCall G g fs)) := by
  rw [List.all_cons, Bool.and_eq_true] at hs
  exact PE.weak (pe_callS A.ok A.room hg A.glo A.keep A.bnd (passAt C.tk) ha hdb (star_cons hs.1) (star_any hs.2)) fun σ H Q h => call_den hl h
theorem pe_den_call0 (C : Cok X c W) (A : FnAt X c G g 0 k f fd ps) (hg : Gl X g) (hdb : (g == ("__debug__" : Str)) = false) :
    PE X (.Call (.Name g p) [] [] pos) (den c W (eCall G g [])) := by
  refine ⟨fun pins s σ H Q I h => ?_⟩
  have h2 : tCallS (spM c 0 (G g)) (WE W) (denA c W []) σ H Q := call_den rfl h
  obtain ⟨B, F, io, st, rh, g0, p0⟩ := h2
  refine wpAny_Call_Name_kw (ld_glob I hg A.glo ?_ hdb)
  exact PySem.W.callWith_K0 I.kIn A.keep (run_fnS (us := []) A.ok A.room A.bnd (passAt C.tk σ) I .nil (p0 [] H F io (Stp.refl g0.sub) g0.sim .nil))
end

/-! ### built-in functions of one value -/
structure Glo (X : Cx) (bn : List Str) : Prop where
  free : ∀ x ∈ bn, X.mg x = none
def lenD : D → Option D
  | .tup ds => some (.int ds.length)
  | .lst ds => some (.int ds.length)
  | .scr ns => some (.int ns.length)
  | .str z => if z.length ≤ sizeLine then some (.int z.length) else none
  | _ => none
def blOf : D → Option Bool
  | .bl b => some b
  | _ => none
def blsOf : List D → Option (List Bool)
  | [] => some []
  | d :: ds => (blOf d).bind fun b => (blsOf ds).map (b :: ·)
def allD : D → Option D
  | .lst ds => (blsOf ds).map fun bs => .bl (bs.all id)
  | _ => none
def anyD : D → Option D
  | .lst ds => (blsOf ds).map fun bs => .bl (bs.any id)
  | _ => none
def tupD : D → Option D
  | .tup ds => some (.tup ds)
  | .lst ds => some (.tup ds)
  | _ => none
def lisD : D → Option TV
  | .tup ds => some (.fr ds)
  | .lst ds => some (.fr ds)
  | .str z => if z.length ≤ sizeLine then some (.fr (z.cps.toList.map fun k => .str ⟨#[k]⟩)) else none
  | _ => none
def intD : D → Option D
  | .int i => some (.int i)
  | .bl b => some (.int (if b then 1 else 0))
  | .str a => if a.length ≤ 640 then (PySem.intText? a).map .int else none
  | _ => none
def strD : D → Option D
  | .int i => if i.natAbs.log2 < 1920 then some (.str (toString i)) else none
  | .str a => some (.str a)
  | _ => none
inductive Bi where
  | len | all | any | tuple | list | int | str
def Bi.f : Bi → D → Option TV
  | .len, d => dV (lenD d)
  | .all, d => dV (allD d)
  | .any, d => dV (anyD d)
  | .tuple, d => dV (tupD d)
  | .list, d => lisD d
  | .int, d => dV (intD d)
  | .str, d => dV (strD d)
def Bi.name : Bi → Str
  | .len => "len"
  | .all => "all"
  | .any => "any"
  | .tuple => "tuple"
  | .list => "list"
  | .int => "int"
  | .str => "str"
def eB1 (b : Bi) : Sm → Sm := eOp1 b.f
section
variable {X : Cx} {c : Ct} {W : WX} {a b e : Expr} {es : List Expr} {fa fb fc : Sm} {pos p : Pos} {B : Bs} {F H : Hp} {io : List Addr} {st : Sto} {rh : Rho} {σ : St}
theorem RvAll.bls {c : Ct} {F : Hp} {io : List Addr} : ∀ {vs : List V} {ds : List D} {bs : List Bool}, RvAll c F io vs ds → blsOf ds = some bs → vs = bs.map V.bl
  | _, _, _, .nil, e => by cases e; rfl
  | _, _, _, .cons h r, e => by
    simp only [blsOf, Option.bind_eq_some_iff, Option.map_eq_some_iff] at e
    obtain ⟨b, e1, bs, e2, rfl⟩ := e
    rename_i d _
    cases d <;> simp only [blOf] at e1 <;> try (cases e1; done)
    cases e1
    cases h
    rw [List.map_cons, RvAll.bls r e2]
theorem scr_sq {x : V} {ns : List Int} (hK : X.K = c.K) (g : Good c B F io st rh σ H) (h : Rv c F io x (.scr ns)) : ∃ a, x = .ref a ∧ SqL X.K H a (ns.map V.int) := by
  cases h with
  | scr h =>
    refine ⟨_, rfl, ?_⟩
    rcases h with ⟨h, _⟩ | h
    · rcases h with h | ⟨o, h⟩
      · exact .inl (.inl (g.sub _ _ h))
      · exact .inl (.inr ⟨o, g.sub _ _ h⟩)
    · rw [hK]; exact .inr h
theorem signs_vals {x : Str} {acc : Array Value} (h : ItemsOf (SignAt x) acc x.cps.size) : Vals (x.cps.toList.map fun k => V.str ⟨#[k]⟩) acc.toList := by
  have key : ∀ (l : List Nat) (us : List Value), us.length = l.length → (∀ (j : Nat) (v : Value), us[j]? = some v → ∃ k u, l[j]? = some k ∧ v = Value.str ⟨#[k]⟩ u) → Vals (l.map fun k => V.str ⟨#[k]⟩) us := by
    intro l
    induction l with
    | nil => intro us hl _; cases us with
      | nil => exact .nil
      | cons _ _ => simp at hl
    | cons k l ih =>
      intro us hl hj
      cases us with
      | nil => simp at hl
      | cons u us =>
        refine .cons ?_ (ih us (by simpa using hl) fun j v e => ?_)
        · obtain ⟨k', t, e1, e2⟩ := hj 0 u rfl
          simp at e1
          subst e1
          exact ⟨t, e2⟩
        · obtain ⟨k', t, e1, e2⟩ := hj (j + 1) v (by simpa using e)
          exact ⟨k', t, by simpa using e1, e2⟩
  refine key _ _ (by simp [h.1]) fun j v e => ?_
  obtain ⟨k, u, e1, e2⟩ := h.2 j v (by simpa using e)
  exact ⟨k, u, by simpa using e1, e2⟩
theorem call_list_text (hc : X.calm = true) : CallR X (.type "list") (fun xs H Q => ∃ z : Str, xs = [.str z] ∧ z.length ≤ sizeLine ∧ ∀ l, H l = none → Q (.ref l) (upd H l (.lst (z.cps.toList.map fun k => V.str ⟨#[k]⟩)))) := by
  intro pins s σ H xs us Q I r h
  obtain ⟨z, rfl, hl, q⟩ := h
  obtain ⟨u, rfl, rx⟩ := vals1 r
  obtain ⟨t, rfl⟩ := rx
  refine PySem.call_list_str (I.ok.hd hc) z t (fun h' tk acc' c' kp e it => ?_) hl
  have rv := signs_vals it
  refine ⟨.ref s.heap.objs.size, _, I.laid (t' := tk) kp (Nat.le_refl _) (show ObjOk X.prog X.w _ h' _ (.lst (z.cps.toList.map fun k => V.str ⟨#[k]⟩)) from ⟨by rw [List.length_map]; exact hl, acc'.toList, c', rv, by simpa using e⟩), rfl, q _ (I.hok.fresh (Nat.le_refl _))⟩
theorem dV_some {o : Option D} {t : TV} (h : dV o = some t) : ∃ d, o = some d ∧ t = .d d := by
  unfold dV at h
  rw [Option.map_eq_some_iff] at h
  obtain ⟨d, e1, e2⟩ := h
  exact ⟨d, e1, e2.symm⟩
/-- by the built-in's rule -/
theorem pe_b1 (b : Bi) (hK : X.K = c.K) (hc : X.calm = true) (hg : Gl X b.name) (hm : X.mg b.name = none) (ha : PE X a (den c W fa)) (hn : notStar a = true) : PE X (.Call (.Name b.name p) [a] [] pos) (den c W (eB1 b fa)) := by
  have A1 : PA X [a] (tCons (den c W fa) tNil) := pa_cons ha pa_nil (star_cons hn)
  have fin : ∀ {r : List V → Hp → VK → Prop}, PE X (.Call (.Name b.name p) [a] [] pos) (tCB r (tCons (den c W fa) tNil)) → Op1Ok c (fun x H Q => r [x] H Q) b.f → PE X (.Call (.Name b.name p) [a] [] pos) (den c W (eB1 b fa)) :=
    fun hp ok => PE.weak hp fun σ H Q h => op1_of ok h
  cases b with
  | len =>
    refine fin (pe_callB (call_len_seq.or call_len_str) hg hm PySem.boot_len A1 (he := star_cons hn)) ?_
    intro B F H io st rh σ x d t Q g hx hf ho
    obtain ⟨e, hf', rfl⟩ := dV_some hf
    cases d with
    | tup ds =>
      cases hf
      have hx' : Rv c F io x (.tup ds) := hx
      obtain ⟨a, vs, rfl, q1, r1⟩ := Rv.sqT (a := 0) g.sub hx'
      refine .inl ⟨a, vs, rfl, .inr (by rw [hK]; exact q1), ?_⟩
      rw [r1.length]
      exact ho.same g.sub (.int _)
    | lst ds =>
      cases hf
      obtain ⟨a, vs, rfl, q1, r1⟩ := hx
      refine .inl ⟨a, vs, rfl, .inl (.inl (.inl q1)), ?_⟩
      rw [r1.length]
      exact ho.same g.sub (.int _)
    | scr ns =>
      cases hf
      obtain ⟨a, rfl, q1⟩ := scr_sq hK g hx
      refine .inl ⟨a, _, rfl, .inl q1, ?_⟩
      rw [List.length_map]
      exact ho.same g.sub (.int _)
    | str z =>
      have hf : (if z.length ≤ sizeLine then some (D.int z.length) else none) = some e := hf'
      split at hf
      · rename_i hl
        cases hf
        cases hx
        exact .inr ⟨z, rfl, hl, ho.same g.sub (.int _)⟩
      · cases hf
    | _ => cases hf
  | all =>
    refine fin (pe_callB (cr_all hc) hg hm PyProof.Rows.boot_all A1 (he := star_cons hn)) ?_
    intro B F H io st rh σ x d t Q g hx hf ho
    obtain ⟨e, hf', rfl⟩ := dV_some hf
    cases d with
    | lst ds =>
      have hf : ((blsOf ds).map fun bs => D.bl (bs.all id)) = some e := hf'
      rw [Option.map_eq_some_iff] at hf
      obtain ⟨bs, e1, rfl⟩ := hf
      obtain ⟨a, vs, rfl, q1, r1⟩ := hx
      exact ⟨a, bs, rfl, by rw [← r1.bls e1]; exact .inl (.inl q1), ho.same g.sub (.bl _)⟩
    | _ => cases hf
  | any =>
    refine fin (pe_callB (cr_any hc) hg hm PyProof.Rows.boot_any A1 (he := star_cons hn)) ?_
    intro B F H io st rh σ x d t Q g hx hf ho
    obtain ⟨e, hf', rfl⟩ := dV_some hf
    cases d with
    | lst ds =>
      have hf : ((blsOf ds).map fun bs => D.bl (bs.any id)) = some e := hf'
      rw [Option.map_eq_some_iff] at hf
      obtain ⟨bs, e1, rfl⟩ := hf
      obtain ⟨a, vs, rfl, q1, r1⟩ := hx
      exact ⟨a, bs, rfl, by rw [← r1.bls e1]; exact .inl (.inl q1), ho.same g.sub (.bl _)⟩
    | _ => cases hf
  | tuple =>
    refine fin (pe_callTy call_tuple_of hg hm PyProof.Rows.boot_tuple A1 (he := star_cons hn)) ?_
    intro B F H io st rh σ x d t Q g hx hf ho
    obtain ⟨e, hf', rfl⟩ := dV_some hf
    cases d with
    | tup ds =>
      cases hf
      have hx' : Rv c F io x (.tup ds) := hx
      obtain ⟨a, vs, rfl, q1, r1⟩ := Rv.sqT (a := 0) g.sub hx'
      exact ⟨a, vs, rfl, .inr ⟨by rw [hK]; exact q1, ho.same g.sub hx'⟩⟩
    | lst ds =>
      cases hf
      obtain ⟨a, vs, rfl, q1, r1⟩ := hx
      exact ⟨a, vs, rfl, .inl ⟨.inl (.inl q1), fun p hp => ho.tup g r1 p hp⟩⟩
    | _ => cases hf
  | list =>
    refine fin (pe_callTy (call_list_of.or (call_list_text hc)) hg hm PyProof.Rows.boot_list A1 (he := star_cons hn)) ?_
    intro B F H io st rh σ x d t Q g hx hf ho
    cases d with
    | tup ds =>
      cases hf
      have hx' : Rv c F io x (.tup ds) := hx
      obtain ⟨a, vs, rfl, q1, r1⟩ := Rv.sqT (a := 0) g.sub hx'
      exact .inl ⟨a, vs, rfl, .inr (by rw [hK]; exact q1), fun p hp => ho.lst g r1 p hp⟩
    | lst ds =>
      cases hf
      obtain ⟨a, vs, rfl, q1, r1⟩ := hx
      exact .inl ⟨a, vs, rfl, .inl (.inl (.inl q1)), fun p hp => ho.lst g r1 p hp⟩
    | str z =>
      simp only [Bi.f, lisD] at hf
      split at hf
      · rename_i hl
        cases hf
        cases hx
        refine .inr ⟨z, rfl, hl, fun p hp => ho.lst g ?_ p hp⟩
        have key : ∀ l : List Nat, RvAll c F io (l.map fun k => V.str ⟨#[k]⟩) (l.map fun k => D.str ⟨#[k]⟩) := by
          intro l
          induction l with
          | nil => exact .nil
          | cons k l ih => exact .cons (.str _) ih
        exact key _
      · cases hf
    | _ => cases hf
  | int =>
    refine fin (pe_callTy (call_int1.or call_int_str) hg hm PyProof.Rows.boot_int A1 (he := star_cons hn)) ?_
    intro B F H io st rh σ x d t Q g hx hf ho
    obtain ⟨e, hf', rfl⟩ := dV_some hf
    cases d with
    | int i => cases hf; cases hx; exact .inl (.inl ⟨i, rfl, ho.same g.sub (.int _)⟩)
    | bl b => cases hf; cases hx; exact .inl (.inr ⟨b, rfl, ho.same g.sub (.int _)⟩)
    | str z =>
      have hf : (if z.length ≤ 640 then (PySem.intText? z).map D.int else none) = some e := hf'
      split at hf
      · rename_i hl
        rw [Option.map_eq_some_iff] at hf
        obtain ⟨n, e1, rfl⟩ := hf
        cases hx
        exact .inr ⟨z, n, rfl, e1, hl, ho.same g.sub (.int _)⟩
      · cases hf
    | _ => cases hf
  | str =>
    refine fin (pe_callTy (call_str_int.or SkE.call_str_str) hg hm PyProof.Rows.boot_str A1 (he := star_cons hn)) ?_
    intro B F H io st rh σ x d t Q g hx hf ho
    obtain ⟨e, hf', rfl⟩ := dV_some hf
    cases d with
    | int i =>
      have hf : (if i.natAbs.log2 < 1920 then some (D.str (toString i)) else none) = some e := hf'
      split at hf
      · rename_i hl
        cases hf; cases hx
        exact .inl ⟨i, rfl, hl, ho.same g.sub (.str _)⟩
      · cases hf
    | str z => cases hf; cases hx; exact .inr ⟨z, rfl, ho.same g.sub (.str _)⟩
    | _ => cases hf
end

/-! ### isinstance of built-in classes -/
inductive Ty where
  | int | str | bool | tuple | list
def Ty.name : Ty → String
  | .int => "int"
  | .str => "str"
  | .bool => "bool"
  | .tuple => "tuple"
  | .list => "list"
def Ty.nm (t : Ty) : Str := PySem.Str.ofString t.name
def isi : Ty → D → Option Bool
  | _, .loc _ => none
  | _, .scr _ => none
  | .int, .int _ => some true
  | .int, .bl _ => some true
  | .str, .str _ => some true
  | .bool, .bl _ => some true
  | .tuple, .tup _ => some true
  | .list, .lst _ => some true
  | _, _ => some false
def tyD : D → Option String
  | .non => some "NoneType"
  | .bl _ => some "bool"
  | .int _ => some "int"
  | .str _ => some "str"
  | .tup _ => some "tuple"
  | .lst _ => some "list"
  | _ => none
def eIsi (t : Ty) : Sm → Sm := eOp1 fun d => bV (isi t d)
def eIsi2 (t u : Ty) : Sm → Sm := eOp1 fun d => bV ((isi t d).bind fun a => (isi u d).map fun b => a || b)
section
variable {X : Cx} {c : Ct} {W : WX} {a b e : Expr} {es : List Expr} {fa fb fc : Sm} {pos p p2 p3 p4 : Pos} {B : Bs} {F H : Hp} {io : List Addr} {st : Sto} {rh : Rho} {σ : St}
theorem Vw.ty (hK : X.K = c.K) (g : Good c B F io st rh σ H) {x : V} {d : D} {t : String} (h : Vw c F io H x d) (e : tyD d = some t) : TyX X.K H x (.type t) := by
  cases d with
  | non => cases e; cases h; exact .base .non
  | bl b => cases e; cases h; exact .base (.bl b)
  | int b => cases e; cases h; exact .base (.int b)
  | str b => cases e; cases h; exact .base (.str b)
  | tup ds =>
    cases e
    cases h with
    | tup h r =>
      rcases h with h | ⟨o, its, n, h1, h2, _⟩
      · exact .base (.tup (g.sub _ _ h.1))
      · exact .kTuple (by rw [hK]; exact h1) h2
  | lst ds =>
    cases e
    obtain ⟨a, vs, rfl, q1, r1⟩ := h
    exact .base (.lst q1)
  | loc n => cases e
  | scr n => cases e
theorem isi_kit (t : Ty) {d : D} {b : Bool} (h : isi t d = some b) : ∃ s, tyD d = some s ∧ kitB s t.name = some b := by
  cases t <;> cases d <;> simp only [isi] at h <;> first | (cases h; done) | (cases h; exact ⟨_, rfl, by decide +kernel⟩)
theorem boot_ty (t : Ty) : bootBuiltins t.nm = some (.type t.name) := by
  cases t <;> decide +kernel
theorem nm_ne (t : Ty) : t.nm ≠ "__name__" := by cases t <;> decide +kernel
theorem nm_db (t : Ty) : (t.nm == ("__debug__" : Str)) = false := by cases t <;> decide +kernel
theorem pe_ty (t : Ty) (hg : Gl X t.nm) (hm : X.mg t.nm = none) : PE X (.Name t.nm p) (tC (.ty t.name)) := pe_bltn hg hm (boot_ty t) (by cases t <;> rfl) (nm_ne t) (nm_db t)
theorem pe_isi (t : Ty) (hK : X.K = c.K) (hgi : Gl X "isinstance") (hmi : X.mg "isinstance" = none) (hg : Gl X t.nm) (hm : X.mg t.nm = none) (ha : PE X a (den c W fa)) (hn : notStar a = true) :
    PE X (.Call (.Name "isinstance" p) [a, .Name t.nm p2] [] pos) (den c W (eIsi t fa)) := by
  have A1 : PA X [a, .Name t.nm p2] (tCons (den c W fa) (tCons (tC (.ty t.name)) tNil)) := pa_cons ha (pa_cons (pe_ty t hg hm) pa_nil) (star_cons hn)
  refine PE.weak (pe_callB call_isi hgi hmi PyProof.Rows.boot_isinstance A1 (he := star_cons hn)) fun σ H Q h => op1_of (r := fun x H Q => rIsi X.K [x, .ty t.name] H Q) ?_ h
  intro B F H io st rh σ x d t' Q g hx hf ho
  unfold bV at hf
  rw [Option.map_eq_some_iff] at hf
  obtain ⟨k, hk, rfl⟩ := hf
  obtain ⟨s, e1, e2⟩ := isi_kit t hk
  exact ⟨x, .ty t.name, .type s, .type t.name, k, rfl, .ty t.name, hx.ty hK g e1, kit_ty e2, ho.same g.sub (.bl k)⟩
theorem pe_isi2 (t u : Ty) (hK : X.K = c.K) (hgi : Gl X "isinstance") (hmi : X.mg "isinstance" = none) (hg : Gl X t.nm) (hm : X.mg t.nm = none) (hg2 : Gl X u.nm) (hm2 : X.mg u.nm = none) (ha : PE X a (den c W fa)) (hn : notStar a = true) {k : Nat} :
    PE X (.Call (.Name "isinstance" p) [a, .Tuple [.Name t.nm p2, .Name u.nm p3] k p4] [] pos) (den c W (eIsi2 t u fa)) := by
  have A1 : PA X [a, .Tuple [.Name t.nm p2, .Name u.nm p3] k p4] (tCons (den c W fa) (tCons (tTup (tCons (tC (.ty t.name)) (tCons (tC (.ty u.name)) tNil))) tNil)) :=
    pa_cons ha (pa_cons (pe_tup (pa_cons (pe_ty t hg hm) (pa_cons (pe_ty u hg2 hm2) pa_nil))) pa_nil) (star_cons hn)
  refine PE.weak (pe_callB call_isiT hgi hmi PyProof.Rows.boot_isinstance A1 (he := star_cons hn)) fun σ H Q h => op1_of (r := fun x H Q => 2 ≤ sizeLine ∧ ∀ p, H p = none → rIsiT X.K [x, .ref p] (upd H p (.tup [.ty t.name, .ty u.name])) Q) ?_ h
  intro B F H io st rh σ x d t' Q g hx hf ho
  unfold bV at hf
  rw [Option.map_eq_some_iff] at hf
  obtain ⟨k, hk, rfl⟩ := hf
  rw [Option.bind_eq_some_iff] at hk
  obtain ⟨k1, e1, hk⟩ := hk
  rw [Option.map_eq_some_iff] at hk
  obtain ⟨k2, e2, rfl⟩ := hk
  obtain ⟨s, z1, z2⟩ := isi_kit t e1
  obtain ⟨s', z3, z4⟩ := isi_kit u e2
  have es : s' = s := by rw [z1] at z3; cases z3; rfl
  subst es
  refine ⟨by rw [sizeLine_eq]; decide, fun q hq => ?_⟩
  have S : Stp F io H F io (upd H q (.tup [.ty t.name, .ty u.name])) := Stp.lay g.sub hq
  have g2 := g.step S g.sim
  have hx2 : Vw c F io (upd H q (.tup [.ty t.name, .ty u.name])) x d := by
    cases d with
    | lst ds =>
      obtain ⟨a, vs, rfl, q1, r1⟩ := hx
      exact ⟨a, vs, rfl, by rw [upd_ne (fun z => by subst z; rw [hq] at q1; cases q1)]; exact q1, r1⟩
    | _ => exact hx
  refine ⟨x, q, _, .type s', [.type t.name, .type u.name], k1 || k2, rfl, upd_same, .cons (.ty _) (.cons (.ty _) .nil), hx2.ty hK g2 z1, ?_, ?_⟩
  · refine kitAny_cons (kit_ty z2) (fun e => ?_) (fun e => by rw [e]; rfl)
    subst e
    refine kitAny_cons (kit_ty z4) (fun e => ?_) (fun e => by rw [e]; rfl)
    subst e
    rfl
  · exact ho _ _ F S (fun _ _ => rfl) (.bl _)
end
end KL

namespace KL
open PySem L2

/-! ### enumerate of a text -/
def IteS (x : Str) : It := ⟨fun i _ => i < x.cps.size, fun i H v H' => ∃ (T : Addr) (k : Nat), v = .ref T ∧ H T = none ∧ H' = upd H T (.tup [.int (i : Nat), .str ⟨#[k]⟩]) ∧ x.cps[i]? = some k, fun i _ => i = x.cps.size⟩
theorem turn_enumS {P : Program} {w : World} {K : PySem.W.Frag} {elts : List Expr} {kk : Nat} {tpos : Pos} (x : Str) (t : Tok) (e it : Addr) :
    Turn P w K (.Tuple elts kk tpos) (IteS x) [e, it] e (fun i h => (∃ old, IsEnum h e it ((i : Nat) : Int) old) ∧ h.IsStrIter it (strIterType x) x t i ∧ e ≠ it) where
  mem := by simp
  obj := fun i h st b hb => by
    obtain ⟨⟨old, he⟩, ⟨o, ho, hc, hd⟩, _⟩ := st
    have e' : b = e ∨ b = it := by simpa using hb
    rcases e' with z | z
    · rw [z]; exact ⟨_, he, fun v q => nomatch q⟩
    · rw [z]; exact ⟨o, ho, fun v q => by rw [hd] at q; cases q⟩
  keep := fun i h h' st k => let ⟨⟨old, he⟩, ⟨o, ho, r⟩, hne⟩ := st; ⟨⟨old, k e (by simp) _ he⟩, ⟨o, k it (by simp) o ho, r⟩, hne⟩
  item := by
    intro X hP hw hK hc i pins s σ H E I hf st hg
    subst hP hw hK
    obtain ⟨⟨old, he⟩, hit, hne⟩ := st
    have hel : e < s.heap.objs.size := Heap.lt_size he
    have hil : it < s.heap.objs.size := by obtain ⟨_, q, _⟩ := hit; exact Heap.lt_size q
    have hh : X.A.in1.handled = none := I.ok.hd hc
    refine wpAny_pyNext_enum_itemD (Draws.text hh it x t) he hit hg hne (by simpa using hne) fun u h' tk hu ho hit' hT hsz hk => ?_
    obtain ⟨k, t', hk1, rfl⟩ := hu
    refine ⟨_, rfl, wpAny_letOwnedTupleGo_enum (s := { s with heap := h', toks := tk + 1 }) ho fun h'' he' sb => ?_⟩
    have hT2 : h''.get? s.heap.objs.size = some { cls := .type "tuple", data := .seq #[.int i tk, .str ⟨#[k]⟩ t'] } := (sb.2 _ (Nat.ne_of_gt hel)).trans hT
    have new : ObjOk X.prog X.w (upd H s.heap.objs.size (.tup [.int (i : Nat), .str ⟨#[k]⟩])) h'' s.heap.objs.size (.tup [.int (i : Nat), .str ⟨#[k]⟩]) :=
      ⟨by show 2 ≤ sizeLine; decide, [.int i tk, .str ⟨#[k]⟩ t'], .cons ⟨_, rfl⟩ (.cons ⟨_, rfl⟩ .nil), ⟨_, hT2, rfl, _, rfl⟩⟩
    have I1 : L2.Inv X pins σ (upd H s.heap.objs.size (.tup [.int (i : Nat), .str ⟨#[k]⟩])) { s with heap := h'', toks := tk + 1 } :=
      I.turnedNew (ch := [e, it]) (fun b ob hb q => (sb.2 b (fun z => hb (by simp [z]))).trans (hk b ob (fun z => hb (by simp [z])) (fun z => hb (by simp [z])) q)) hf (Nat.le_refl _) new
    refine ⟨.ref s.heap.objs.size, _, I1, rfl, ⟨_, k, rfl, I.hok.fresh (Nat.le_refl _), rfl, hk1⟩, ⟨⟨.str ⟨#[k]⟩ t', ?_⟩, ?_, hne⟩, fun b hb => ?_⟩
    · have e1 : ((i + 1 : Nat) : Int) = (i : Int) + 1 := by omega
      rw [e1]; exact he'
    · obtain ⟨o, ho', r⟩ := hit'
      exact ⟨o, (sb.2 it (Ne.symm hne)).trans ho', r⟩
    · have hb' : b < s.heap.objs.size := by
        have e' : b = e ∨ b = it := by simpa using hb
        rcases e' with z | z
        · rw [z]; exact hel
        · rw [z]; exact hil
      rw [upd_ne (Nat.ne_of_lt hb')]
      exact (hf b hb).1
  done := by
    intro X hP hw hK hc i pins s σ H E I hf st hg
    subst hP hw hK
    obtain ⟨⟨old, he⟩, hit, hne⟩ := st
    obtain ⟨f0, f1, f2, f3, f4, f5⟩ := hf it (by simp)
    have hh : X.A.in1.handled = none := I.ok.hd hc
    have hi : i = x.cps.size := hg
    subst hi
    exact wpAny_pyNext_enum_endD (Draws.text hh it x t) he hit fun h' eb => ⟨rfl, I.turned (t' := s.toks) (fun b o hb q => eb b o hb q) f0 f1 f3 f4 f5⟩
  self := fun A i s Q E st h => let ⟨⟨_, he⟩, _⟩ := st; wpAny_pyIter_enum he h
def iEnumS (ta : TA) : TI := fun σ H R => ta σ H fun vs H1 => ∃ x, vs = [.str x] ∧ R (IteS x) H1
theorem pi_enumS {X : Cx} {e : Expr} {ta : TA} {p pos tpos : Pos} {elts : List Expr} {kk : Nat} (hg : Gl X "enumerate") (hm : X.mg "enumerate" = none) (ha : PA X [e] ta) (hs : starEach [e] X.env = [(false, eval e X.env)]) :
    PI X (.Tuple elts kk tpos) (.Call (.Name "enumerate" p) [e] [] pos) (iEnumS ta) := by
  refine ⟨fun pins s σ H R I h => ?_⟩
  refine PyProof.Rows.Call_ (ld_blt I hg hm PyProof.Rows.boot_enumerate (PyProof.Rows.callWith_type1 (thn (ha.run pos pins s σ H _ I h) fun us s1 ⟨vs, H1, I1, r1, q1⟩ => ?_) hs rfl))
  obtain ⟨x, ex, q⟩ := q1
  subst ex
  cases r1 with
  | cons r rr =>
    cases rr
    obtain ⟨t, rfl⟩ := r
    refine call_enumerate_str fun h' he hit hsz hk => wpAny_pyIter_enum he ?_
    have I2 : L2.Inv X pins σ H1 { s1 with heap := h' } := I1.kept (t' := s1.toks) hk
    refine ⟨s1.heap.objs.size + 1, [s1.heap.objs.size + 1, s1.heap.objs.size], _, _, H1, rfl, I2, turn_enumS x t (s1.heap.objs.size + 1) s1.heap.objs.size, ⟨⟨.none, he⟩, hit, Nat.succ_ne_self _⟩, fun b hb => ?_, q⟩
    have e' : b = s1.heap.objs.size + 1 ∨ b = s1.heap.objs.size := by simpa using hb
    have hle : s1.heap.objs.size ≤ b := by
      rcases e' with z | z
      · rw [z]; exact Nat.le_add_right _ _
      · rw [z]; exact Nat.le_refl _
    exact I1.fpOk hle (I1.hok.fresh hle)
end KL

namespace KL
open PySem L2

/-! ### targets -/
inductive Tg where
  | name (i : Nat) | tup (is : List Nat)
def setAll : List Nat → List D → Rho → Option Rho
  | [], [], rh => some rh
  | i :: is, d :: ds, rh => setAll is ds (rh.set i (some (.val d)))
  | _, _, _ => none
def tgSet : Tg → D → Rho → Option Rho
  | .name i, d, rh => some (rh.set i (some (.val d)))
  | .tup is, .tup ds, rh => setAll is ds rh
  | _, _, _ => none
def Tg.slots : Tg → List Nat
  | .name i => [i]
  | .tup is => is
section
variable {c : Ct} {B : Bs} {F F' H H' : Hp} {io io' : List Addr} {st st' : Sto} {rh rh' : Rho} {σ : St} {v : V} {t : TV} {d : D}
theorem Good.set (g : Good c B F io st rh σ H) (r : Rv c F io v d) (i : Nat) : Good c B F io st (rh.set i (some (.val d))) (σ.set i (some v)) H := by
  refine ⟨g.bsub, by rw [List.length_set, List.length_set]; exact g.len, g.stp, g.sim, fun j e hj => ?_, fun j ds hj => ?_, fun j k ds es w hj hk h1 h2 => ?_⟩
  · by_cases z : i = j
    · subst z
      rw [List.getElem?_set] at hj ⊢
      rw [if_pos rfl] at hj ⊢
      by_cases hl : i < rh.length
      · rw [if_pos hl] at hj
        cases hj
        exact ⟨v, by rw [if_pos (by rw [← g.len]; exact hl)], r⟩
      · rw [if_neg hl] at hj; cases hj
    · rw [List.getElem?_set_ne z] at hj ⊢
      exact g.val j e hj
  · by_cases z : i = j
    · subst z
      rw [List.getElem?_set, if_pos rfl] at hj
      split at hj <;> cases hj
    · rw [List.getElem?_set_ne z] at hj ⊢
      exact g.own j ds hj
  · have own_ne : ∀ {m : Nat} {us : List D}, (rh.set i (some (.val d)))[m]? = some (some (.own us)) → i ≠ m ∧ rh[m]? = some (some (.own us)) := by
      intro m us hm
      by_cases z : i = m
      · subst z
        rw [List.getElem?_set, if_pos rfl] at hm
        split at hm <;> cases hm
      · rw [List.getElem?_set_ne z] at hm
        exact ⟨z, hm⟩
    obtain ⟨z1, hj'⟩ := own_ne hj
    obtain ⟨z2, hk'⟩ := own_ne hk
    rw [List.getElem?_set_ne z1] at h1
    rw [List.getElem?_set_ne z2] at h2
    exact g.dis j k ds es w hj' hk' h1 h2
/-- what a target's reading has -/
def TgOk (c : Ct) (tg : Tg) (g : TG) : Prop := ∀ {B : Bs} {F H : Hp} {io : List Addr} {st : Sto} {rh rh' : Rho} {σ : St} {v : V} {d : D} {Q : St → Hp → Prop}, Good c B F io st rh σ H → Rv c F io v d → tgSet tg d rh = some rh' →
  (∀ σ', Good c B F io st rh' σ' H → (∀ i, i ∉ tg.slots → σ'[i]? = σ[i]?) → σ'.length = σ.length → Q σ' H) → g v σ H Q
theorem tg_name (i : Nat) : TgOk c (.name i) (gName i) := by
  intro B F H io st rh rh' σ v d Q g r e k
  cases e
  refine k _ (g.set r i) (fun j hj => List.getElem?_set_ne (fun z => hj (by simp [Tg.slots, z]))) (List.length_set ..)
/-- the names of a written tuple -/
def gNames : List Nat → TGs
  | [] => gNil
  | i :: is => gCons (gName i) (gNames is)
theorem gNames_ok : ∀ (is : List Nat) {B : Bs} {F H : Hp} {io : List Addr} {st : Sto} {rh rh' : Rho} {σ : St} {vs : List V} {ds : List D} {Q : St → Hp → Prop}, Good c B F io st rh σ H → RvAll c F io vs ds → setAll is ds rh = some rh' →
    (∀ σ', Good c B F io st rh' σ' H → (∀ i, i ∉ is → σ'[i]? = σ[i]?) → σ'.length = σ.length → Q σ' H) → gNames is vs σ H Q
  | [], _, _, _, _, _, _, _, _, _, ds, _, g, r, e, k => by
    cases ds with
    | nil => cases r; cases e; exact ⟨rfl, k _ g (fun _ _ => rfl) rfl⟩
    | cons _ _ => cases e
  | i :: is, _, _, _, _, _, rh, _, σ, _, ds, _, g, r, e, k => by
    cases ds with
    | nil => cases e
    | cons d ds =>
      cases r with
      | cons h r =>
        refine ⟨_, _, rfl, ?_⟩
        refine gNames_ok is (g.set h i) r e fun σ' g' k1 k2 => k σ' g' (fun j hj => ?_) (k2.trans (List.length_set ..))
        rw [k1 j (fun z => hj (List.mem_cons_of_mem _ z)), List.getElem?_set_ne (fun z => hj (by simp [z]))]
theorem setAll_len : ∀ {is : List Nat} {ds : List D} {rh rh' : Rho}, setAll is ds rh = some rh' → ds.length = is.length
  | [], [], _, _, _ => rfl
  | [], _ :: _, _, _, e => by cases e
  | _ :: _, [], _, _, e => by cases e
  | i :: is, d :: ds, rh, rh', e => by
    rw [List.length_cons, List.length_cons, setAll_len (is := is) (ds := ds) (rh := rh.set i (some (.val d))) (rh' := rh') e]
theorem tg_tup {K : PySem.W.Frag} (hK : K = c.K) (is : List Nat) : TgOk c (.tup is) (gTup K is.length (gNames is)) := by
  intro B F H io st rh rh' σ v d Q g r e k
  cases d with
  | tup ds =>
    obtain ⟨a, vs, rfl, q1, r1⟩ := Rv.sqT (a := 0) g.sub r
    exact ⟨a, vs, rfl, by rw [hK]; exact q1, by rw [r1.length]; exact setAll_len e, gNames_ok is g r1 e k⟩
  | _ => cases e
end

/-! ### what is walked -/
def signs (z : Str) : List D := z.cps.toList.map fun k => .str ⟨#[k]⟩
def itemsD : D → Option (List D)
  | .tup ds => some ds
  | .lst ds => some ds
  | .str z => some (signs z)
  | _ => none
def numFrom : Nat → List D → List D
  | _, [] => []
  | n, d :: ds => .tup [.int n, d] :: numFrom (n + 1) ds
def enmD : D → Option (List D)
  | .lst ds => some (numFrom 0 ds)
  | .str z => some (numFrom 0 (signs z))
  | _ => none
def zipTup : List D → List D → List D
  | d :: ds, e :: es => .tup [d, e] :: zipTup ds es
  | _, _ => []
def zipD : D → D → Option (List D)
  | .tup ds, .tup es => some (zipTup ds es)
  | .lst ds, .lst es => some (zipTup ds es)
  | _, _ => none
def rngD (lo hi : Int) : Option (List D) := if -(2 ^ 62) ≤ lo ∧ lo < 2 ^ 62 ∧ -(2 ^ 62) ≤ hi ∧ hi < 2 ^ 62 then some ((List.range (hi - lo).toNat).map fun i => .int (lo + (i : Nat))) else none
def notLoc : TV → Bool
  | .d (.loc _) => false
  | _ => true
abbrev Im := Rho → Sto → R (List D)
def oR {α : Type} (o : Option α) (st : Sto) : R α := match o with
  | some a => .ok a st
  | none => .no
/-- by the items of one value -/
def iOne (f : D → Option (List D)) (fa : Sm) : Im := fun rh st => (fa rh st).bind fun t st1 => if notLoc t then oR ((view rh st1 t).bind f) st1 else .no
def iTwo (f : D → D → Option (List D)) (fa fb : Sm) : Im := fun rh st => (fa rh st).bind fun t st1 => (fb rh st1).bind fun u st2 => if notLoc t && notLoc u then oR ((view rh st2 t).bind fun d => (view rh st2 u).bind fun e => f d e) st2 else .no
def rng1 : D → Option (List D)
  | .int j => rngD 0 j
  | _ => none
def rng2 : D → D → Option (List D)
  | .int i, .int j => rngD i j
  | _, _ => none
/-- at (F, io, H) the walk J yields these -/
def YC (c : Ct) (J : It) (F : Hp) (io : List Addr) (H : Hp) (ds : List D) : Prop :=
  (∀ (i : Nat) (d : D), ds[i]? = some d → J.go i H ∧ ∀ x H', J.yld i H x H' → ∃ F', Stp F io H F' io H' ∧ (∀ a ∈ io, F' a = F a) ∧ Rv c F' io x d) ∧ J.stop ds.length H
structure Per (F : Hp) (io : List Addr) (F' : Hp) (io' : List Addr) : Prop where
  ext : ∃ more, io' = io ++ more
  per : ∀ a o, F a = some o → a ∉ io → F' a = some o
  nin : ∀ a o, F a = some o → a ∉ io → a ∉ io'
section
variable {c : Ct} {B : Bs} {F F' H H' : Hp} {io io' : List Addr} {st st' : Sto} {rh rh' : Rho} {σ : St} {v : V} {t : TV} {d : D} {ds es : List D} {vs ws : List V} {a b : Addr}
theorem Per.ix (S : Per F io F' io') {n : Nat} {a : Addr} (h : io[n]? = some a) : io'[n]? = some a := by
  obtain ⟨m, e⟩ := S.ext
  rw [e, List.getElem?_append_left (List.getElem?_eq_some_iff.mp h).1]
  exact h
mutual
theorem Rv.perm {v : V} {d : D} (S : Per F io F' io') : Rv c F io v d → Rv c F' io' v d
  | .non => .non
  | .bl b => .bl b
  | .int i => .int i
  | .str x => .str x
  | .tup h r => .tup (h.imp (fun h => ⟨S.per _ _ h.1 h.2, S.nin _ _ h.1 h.2⟩) id) (RvAll.perm S r)
  | .lst h n r => .lst (S.per _ _ h n) (S.nin _ _ h n) (RvAll.perm S r)
  | .loc h => .loc (S.ix h)
  | .scr h => .scr (h.imp (fun ⟨h, n⟩ => by
      rcases h with h | ⟨o, h⟩
      · exact ⟨.inl (S.per _ _ h n), S.nin _ _ h n⟩
      · exact ⟨.inr ⟨o, S.per _ _ h n⟩, S.nin _ _ h n⟩) id)
theorem RvAll.perm {vs : List V} {ds : List D} (S : Per F io F' io') : RvAll c F io vs ds → RvAll c F' io' vs ds
  | .nil => .nil
  | .cons h r => .cons (Rv.perm S h) (RvAll.perm S r)
end
theorem yc_tup (hs : ∀ a o, F a = some o → H a = some o) (h : SqT c.K H a vs) (r : RvAll c F io vs ds) : YC c (Itt c.K a) F io H ds := by
  refine ⟨fun i d e => ?_, vs, h, by rw [r.length]; exact Nat.le_refl _⟩
  obtain ⟨v, e1, rv⟩ := r.get e
  refine ⟨⟨vs, v, h, e1⟩, fun x H' ⟨eH, y⟩ => ?_⟩
  subst eH
  have e2 := y vs h
  rw [e1] at e2
  cases e2
  exact ⟨F, Stp.refl hs, fun _ _ => rfl, rv⟩
theorem yc_lst (hs : ∀ a o, F a = some o → H a = some o) (h : SqL c.K H a vs) (r : RvAll c F io vs ds) : YC c (Itl c.K a) F io H ds := by
  refine ⟨fun i d e => ?_, vs, h, by rw [r.length]; exact Nat.le_refl _⟩
  obtain ⟨v, e1, rv⟩ := r.get e
  refine ⟨⟨vs, v, h, e1⟩, fun x H' ⟨eH, y⟩ => ?_⟩
  subst eH
  have e2 := y vs h
  rw [e1] at e2
  cases e2
  exact ⟨F, Stp.refl hs, fun _ _ => rfl, rv⟩
theorem signs_get {z : Str} {i : Nat} {d : D} (e : (signs z)[i]? = some d) : ∃ k, z.cps[i]? = some k ∧ d = .str ⟨#[k]⟩ := by
  unfold signs at e
  rw [List.getElem?_map, Option.map_eq_some_iff] at e
  obtain ⟨k, e1, e2⟩ := e
  exact ⟨k, by simpa using e1, e2.symm⟩
theorem signs_len (z : Str) : (signs z).length = z.cps.size := by simp [signs]
theorem lt_of_get {α : Type} {xs : List α} {i : Nat} {x : α} (h : xs[i]? = some x) : i < xs.length := (List.getElem?_eq_some_iff.mp h).1
theorem yc_str (hs : ∀ a o, F a = some o → H a = some o) (z : Str) : YC c (Its z) F io H (signs z) := by
  refine ⟨fun i d e => ?_, by show z.cps.size ≤ _; rw [signs_len]; exact Nat.le_refl _⟩
  obtain ⟨k, e1, rfl⟩ := signs_get e
  refine ⟨by show i < z.cps.size; rw [← signs_len]; exact lt_of_get e, fun x H' ⟨eH, k', e2, ex⟩ => ?_⟩
  subst eH ex
  rw [e1] at e2
  cases e2
  exact ⟨F, Stp.refl hs, fun _ _ => rfl, .str _⟩
theorem yc_rng (hs : ∀ a o, F a = some o → H a = some o) (lo : Int) (n : Nat) : YC c (Itr lo n) F io H ((List.range n).map fun i => .int (lo + (i : Nat))) := by
  refine ⟨fun i d e => ?_, by show n ≤ _; simp⟩
  rw [List.getElem?_map, Option.map_eq_some_iff] at e
  obtain ⟨k, e1, rfl⟩ := e
  have hlt : i < n := by have := lt_of_get e1; simpa using this
  rw [List.getElem?_range hlt] at e1
  cases e1
  refine ⟨hlt, fun x H' ⟨eH, ex⟩ => ?_⟩
  subst eH ex
  exact ⟨F, Stp.refl hs, fun _ _ => rfl, .int _⟩
theorem numFrom_get : ∀ {ds : List D} {n i : Nat} {d : D}, (numFrom n ds)[i]? = some d → ∃ e, ds[i]? = some e ∧ d = .tup [.int ((n + i : Nat) : Int), e]
  | [], _, _, _, h => by simp [numFrom] at h
  | e :: ds, n, 0, d, h => by
    simp only [numFrom, List.getElem?_cons_zero, Option.some.injEq] at h
    exact ⟨e, rfl, h.symm⟩
  | e :: ds, n, i + 1, d, h => by
    simp only [numFrom, List.getElem?_cons_succ] at h
    obtain ⟨e', h1, h2⟩ := numFrom_get h
    exact ⟨e', by simpa using h1, by rw [h2, Nat.add_right_comm, Nat.add_assoc]⟩
theorem numFrom_len : ∀ (ds : List D) (n : Nat), (numFrom n ds).length = ds.length
  | [], _ => rfl
  | _ :: ds, n => by rw [numFrom, List.length_cons, List.length_cons, numFrom_len ds]
/-- a new tuple of a turn -/
theorem new_tup (hs : ∀ a o, F a = some o → H a = some o) (s : Sim c F io st) {T : Addr} (hT : H T = none) (r : RvAll c F io vs ds) : ∃ F', Stp F io H F' io (upd H T (.tup vs)) ∧ (∀ a ∈ io, F' a = F a) ∧ Rv c F' io (.ref T) (.tup ds) := by
  have f1 : F T = none := by
    cases q : F T with
    | none => rfl
    | some o => rw [hs T o q] at hT; cases hT
  have f2 : T ∉ io := fun z => s.dom z f1
  exact ⟨upd F T (.tup vs), Stp.add hs hT, fun a ha => upd_ne (fun z => by subst z; exact f2 ha), .tup (.inl ⟨upd_same, f2⟩) (r.more (upd_more f1))⟩
theorem yc_enm (hs : ∀ a o, F a = some o → H a = some o) (s : Sim c F io st) (h : SqL c.K H a vs) (r : RvAll c F io vs ds) : YC c (Ite c.K a) F io H (numFrom 0 ds) := by
  refine ⟨fun i d e => ?_, vs, h, by rw [numFrom_len, r.length]; exact Nat.le_refl _⟩
  obtain ⟨e', h1, rfl⟩ := numFrom_get e
  obtain ⟨v, e1, rv⟩ := r.get h1
  refine ⟨⟨vs, v, h, e1⟩, fun x H' ⟨T, y, ex, hT, eH, hy⟩ => ?_⟩
  subst eH ex
  have e2 := hy vs h
  rw [e1] at e2
  cases e2
  rw [Nat.zero_add]
  exact new_tup hs s hT (.cons (.int _) (.cons rv .nil))
theorem yc_enmS (hs : ∀ a o, F a = some o → H a = some o) (s : Sim c F io st) (z : Str) : YC c (IteS z) F io H (numFrom 0 (signs z)) := by
  refine ⟨fun i d e => ?_, by show _ = z.cps.size; rw [numFrom_len, signs_len]⟩
  have hlt : i < z.cps.size := by
    have := lt_of_get e
    rw [numFrom_len, signs_len] at this
    exact this
  obtain ⟨e', h1, rfl⟩ := numFrom_get e
  obtain ⟨k, e1, rfl⟩ := signs_get h1
  refine ⟨hlt, fun x H' ⟨T, y, ex, hT, eH, hy⟩ => ?_⟩
  subst eH ex
  rw [e1] at hy
  cases hy
  rw [Nat.zero_add]
  exact new_tup hs s hT (.cons (.int _) (.cons (.str _) .nil))
theorem zipTup_get : ∀ {ds es : List D} {i : Nat} {d : D}, (zipTup ds es)[i]? = some d → ∃ e f, ds[i]? = some e ∧ es[i]? = some f ∧ d = .tup [e, f]
  | [], _, _, _, h => by simp [zipTup] at h
  | _ :: _, [], _, _, h => by simp [zipTup] at h
  | e :: ds, f :: es, 0, d, h => by
    simp only [zipTup, List.getElem?_cons_zero, Option.some.injEq] at h
    exact ⟨e, f, rfl, rfl, h.symm⟩
  | e :: ds, f :: es, i + 1, d, h => by
    simp only [zipTup, List.getElem?_cons_succ] at h
    obtain ⟨e', f', h1, h2, h3⟩ := zipTup_get h
    exact ⟨e', f', by simpa using h1, by simpa using h2, h3⟩
theorem zipTup_len : ∀ (ds es : List D), ds.length ≤ (zipTup ds es).length ∨ es.length ≤ (zipTup ds es).length
  | [], _ => .inl (Nat.zero_le _)
  | _ :: _, [] => .inr (Nat.zero_le _)
  | _ :: ds, _ :: es => by
    rw [zipTup, List.length_cons, List.length_cons, List.length_cons]
    exact (zipTup_len ds es).imp (fun h => Nat.succ_le_succ h) (fun h => Nat.succ_le_succ h)
theorem yc_zipT (hs : ∀ a o, F a = some o → H a = some o) (s : Sim c F io st) (h : SqT c.K H a vs) (r : RvAll c F io vs ds) (h' : SqT c.K H b ws) (r' : RvAll c F io ws es) : YC c (RZ.ItzT c.K a b) F io H (zipTup ds es) := by
  refine ⟨fun i d e => ?_, vs, ws, h, h', by rw [r.length, r'.length]; exact zipTup_len ds es⟩
  obtain ⟨e', f', h1, h2, rfl⟩ := zipTup_get e
  obtain ⟨v, e1, rv⟩ := r.get h1
  obtain ⟨w, e2, rw'⟩ := r'.get h2
  refine ⟨⟨vs, ws, v, w, h, h', e1, e2⟩, fun x H' ⟨T, y, y', ex, hT, eH, hy, hy'⟩ => ?_⟩
  subst eH ex
  have q := hy vs h
  have q' := hy' ws h'
  rw [e1] at q
  rw [e2] at q'
  cases q
  cases q'
  exact new_tup hs s hT (.cons rv (.cons rw' .nil))
theorem yc_zip (hs : ∀ a o, F a = some o → H a = some o) (s : Sim c F io st) (h : SqL c.K H a vs) (r : RvAll c F io vs ds) (h' : SqL c.K H b ws) (r' : RvAll c F io ws es) : YC c (Itz c.K a b) F io H (zipTup ds es) := by
  refine ⟨fun i d e => ?_, vs, ws, h, h', by rw [r.length, r'.length]; exact zipTup_len ds es⟩
  obtain ⟨e', f', h1, h2, rfl⟩ := zipTup_get e
  obtain ⟨v, e1, rv⟩ := r.get h1
  obtain ⟨w, e2, rw'⟩ := r'.get h2
  refine ⟨⟨vs, ws, v, w, h, h', e1, e2⟩, fun x H' ⟨T, y, y', ex, hT, eH, hy, hy'⟩ => ?_⟩
  subst eH ex
  have q := hy vs h
  have q' := hy' ws h'
  rw [e1] at q
  rw [e2] at q'
  cases q
  cases q'
  exact new_tup hs s hT (.cons rv (.cons rw' .nil))
end
end KL

namespace KL
open PySem L2

/-! ### what a comprehension, a loop walks: its reading -/
def YldS (c : Ct) (J : It) (F : Hp) (io : List Addr) (H : Hp) (ds : List D) : Prop := ∀ F2 io2 H2 st2, Stp F io H F2 io2 H2 → Sim c F2 io2 st2 → YC c J F2 io2 H2 ds
def YldP (c : Ct) (J : It) (F : Hp) (io : List Addr) (H : Hp) (ds : List D) : Prop := ∀ F2 io2 H2 st2, Per F io F2 io2 → (∀ a o, F2 a = some o → H2 a = some o) → Sim c F2 io2 st2 → YC c J F2 io2 H2 ds
theorem Stp.perm {F H F' H' : Hp} {io io' : List Addr} (S : Stp F io H F' io' H') (hs : ∀ a o, F a = some o → H a = some o) : Per F io F' io' := ⟨S.ext, S.per, fun a o h n => S.stays hs h n⟩
abbrev Yl := It → Hp → List Addr → Hp → List D → Prop
def PstI (c : Ct) (W : WX) (F : Hp) (io : List Addr) (σ : St) (H : Hp) (Y : Yl) (Q : It → Hp → Prop) : R (List D) → Prop
  | .ok ds st' => ∀ J H' F' io', Stp F io H F' io' H' → Sim c F' io' st' → Y J F' io' H' ds → Q J H'
  | .ex e st' => ∀ H' F' io', Stp F io H F' io' H' → Sim c F' io' st' → W (c.xc e) none σ H'
  | .no => False
/-- Y := YldS c: for a comprehension; YldP c: for a loop -/
def denI (c : Ct) (W : WX) (Y : Yl) (f : Im) : TI := fun σ H Q => ∃ B F io st rh, Good c B F io st rh σ H ∧ PstI c W F io σ H Y Q (f rh st)
theorem PI.weak {X : Cx} {tg e : Expr} {t t' : TI} (h : PI X tg e t) (hw : ∀ σ H Q, t' σ H Q → t σ H Q) : PI X tg e t' := ⟨fun pins s σ H Q I q => h.run pins s σ H Q I (hw σ H Q q)⟩
theorem PI.or {X : Cx} {tg e : Expr} {t t' : TI} (h : PI X tg e t) (h' : PI X tg e t') : PI X tg e (fun σ H Q => t σ H Q ∨ t' σ H Q) := ⟨fun pins s σ H Q I q => q.elim (h.run pins s σ H Q I) (h'.run pins s σ H Q I)⟩
/-- a source of items -/
inductive Src where
  | tup (a : Addr) (vs : List V) | lst (a : Addr) (vs : List V) | str (z : Str)
def Src.val : Src → V
  | .tup a _ => .ref a
  | .lst a _ => .ref a
  | .str z => .str z
def Src.at (K : PySem.W.Frag) (H : Hp) : Src → Prop
  | .tup a vs => SqT K H a vs
  | .lst a vs => SqL K H a vs
  | .str _ => True
def Src.rel (c : Ct) (F : Hp) (io : List Addr) : Src → List D → Prop
  | .tup _ vs, ds => RvAll c F io vs ds
  | .lst _ vs, ds => RvAll c F io vs ds
  | .str z, ds => ds = signs z
def Src.of : Src → List D → D → Prop
  | .tup _ _, ds, d => d = .tup ds
  | .lst _ _, ds, d => d = .lst ds
  | .str z, _, d => d = .str z
/-- it stands through what comes -/
def Src.stay (c : Ct) (Rel : Hp → List Addr → Hp → Prop) (s : Src) (ds : List D) : Prop := ∀ F2 io2 H2, Rel F2 io2 H2 → s.at c.K H2 ∧ s.rel c F2 io2 ds
abbrev RelS (F : Hp) (io : List Addr) (H : Hp) : Hp → List Addr → Hp → Prop := fun F2 io2 H2 => Stp F io H F2 io2 H2
abbrev RelP (F : Hp) (io : List Addr) : Hp → List Addr → Hp → Prop := fun F2 io2 H2 => Per F io F2 io2 ∧ ∀ a o, F2 a = some o → H2 a = some o
section
variable {X : Cx} {c : Ct} {W : WX} {tg a b e : Expr} {fa fb : Sm} {pos p : Pos} {B : Bs} {F F1 H H1 : Hp} {io io1 : List Addr} {st st1 : Sto} {rh : Rho} {σ : St} {w : V} {t u : TV} {d d' : D} {ds es : List D}
theorem src_rv (h : Rv c F io w d) (hi : itemsD d = some ds) : ∃ s : Src, w = s.val ∧ s.stay c (RelP F io) ds ∧ s.of ds d := by
  cases d with
  | tup es =>
    cases hi
    cases h with
    | tup h r =>
      refine ⟨.tup _ _, rfl, fun F2 io2 H2 ⟨S, hs⟩ => ⟨?_, r.perm S⟩, rfl⟩
      rcases h with h | h
      · exact .inl (.inl (hs _ _ (S.per _ _ h.1 h.2)))
      · exact .inr h
  | lst es =>
    cases hi
    cases h with
    | lst h n r => exact ⟨.lst _ _, rfl, fun F2 io2 H2 ⟨S, hs⟩ => ⟨.inl (.inl (hs _ _ (S.per _ _ h n))), r.perm S⟩, rfl⟩
  | str z =>
    cases hi
    cases h
    exact ⟨.str z, rfl, fun F2 io2 H2 _ => ⟨trivial, rfl⟩, rfl⟩
  | _ => cases hi
theorem Src.stay_s {s : Src} (h : s.stay c (RelP F io) ds) (hs : ∀ a o, F a = some o → H a = some o) : s.stay c (RelS F io H) ds := fun F2 io2 H2 S => h F2 io2 H2 ⟨S.perm hs, S.sub⟩
/-- the source of a value that an expression gave, through a comprehension -/
theorem src_s (g : Good c B F io st rh σ H) (T : Tvr c F io rh σ H w t) (hn : notLoc t = true) (hv : view rh st t = some d) (hi : itemsD d = some ds) : ∃ s : Src, w = s.val ∧ s.stay c (RelS F io H) ds ∧ s.of ds d := by
  have lsts : ∀ {a : Addr} {vs : List V} {es : List D}, w = .ref a → H a = some (.lst vs) → a ∉ io → RvAll c F io vs es → d = .lst es → ∃ s : Src, w = s.val ∧ s.stay c (RelS F io H) ds ∧ s.of ds d := by
    intro a vs es e1 h1 h2 r e2
    subst e2
    cases hi
    exact ⟨.lst a vs, e1, fun F2 io2 H2 S => ⟨.inl (.inl (S.fr _ _ h1 h2)), r.step S g.sub⟩, rfl⟩
  cases t with
  | d d0 =>
    have e : d0 = d := by
      cases d0 with
      | loc n => cases hn
      | _ => exact Option.some.inj hv
    subst e
    obtain ⟨s, h1, h2, h3⟩ := src_rv T hi
    exact ⟨s, h1, Src.stay_s h2 g.sub, h3⟩
  | o i =>
    obtain ⟨⟨es, e1⟩, e2⟩ := T
    simp only [view, e1, Option.some.injEq] at hv
    obtain ⟨a, vs, e3, e4, e5, e6, r⟩ := g.own i es e1
    rw [e2] at e3
    cases e3
    exact lsts rfl e4 (fun z => g.sim.dom z e5) r hv.symm
  | fr es =>
    obtain ⟨q, vs, e1, h1, h2, r⟩ := T
    exact lsts e1 h1 h2 r (Option.some.inj hv).symm
/-- which walk, by the source -/
def Src.J (K : PySem.W.Frag) : Src → It
  | .tup a _ => Itt K a
  | .lst a _ => Itl K a
  | .str z => Its z
theorem Src.yc {s : Src} (hs : ∀ a o, F a = some o → H a = some o) (h : s.at c.K H ∧ s.rel c F io ds) : YC c (s.J c.K) F io H ds := by
  obtain ⟨h1, h2⟩ := h
  cases s with
  | tup a vs => exact yc_tup hs h1 h2
  | lst a vs => exact yc_lst hs h1 h2
  | str z => cases h2; exact yc_str hs z
theorem iOne_cases {f : D → Option (List D)} {Y : Yl} {Q : It → Hp → Prop} (h : PstI c W F io σ H Y Q (iOne f fa rh st)) :
    (∃ e s, fa rh st = .ex e s ∧ PstI c W F io σ H Y Q (.ex e s)) ∨ ∃ t st1 d ds, fa rh st = .ok t st1 ∧ notLoc t = true ∧ view rh st1 t = some d ∧ f d = some ds ∧ PstI c W F io σ H Y Q (.ok ds st1) := by
  unfold iOne at h
  cases hr : fa rh st with
  | no => rw [hr] at h; exact h.elim
  | ex x s => rw [hr] at h; exact .inl ⟨x, s, rfl, h⟩
  | ok t st1 =>
    rw [hr] at h
    have h : PstI c W F io σ H Y Q (if notLoc t = true then oR ((view rh st1 t).bind f) st1 else .no) := h
    cases hn : notLoc t with
    | false => rw [hn] at h; exact h.elim
    | true =>
      rw [hn, if_pos rfl] at h
      cases hv : view rh st1 t with
      | none => rw [hv] at h; exact h.elim
      | some d =>
        rw [hv] at h
        have h : PstI c W F io σ H Y Q (oR (f d) st1) := h
        cases hf : f d with
        | none => rw [hf] at h; exact h.elim
        | some ds => rw [hf] at h; exact .inr ⟨t, st1, d, ds, rfl, hn, hv, hf, h⟩
theorem den_ex {e : Str} {s : Sto} {Y : Yl} {Q : It → Hp → Prop} {Q' : VK} (g : Good c B F io st rh σ H) (hr : fa rh st = .ex e s) (h : PstI c W F io σ H Y Q (.ex e s)) : den c W fa σ H Q' := ⟨B, F, io, st, rh, g, by rw [hr]; exact h⟩
/-- a list, a tuple, a text; comprehension -/
theorem pi_seq (hK : X.K = c.K) (ha : PE X a (den c W fa)) : PI X tg a (denI c W (YldS c) (iOne itemsD fa)) := by
  refine PI.weak (PI.or (PI.or (pi_tup ha) (pi_list ha)) (pi_str ha)) fun σ H Q ⟨B, F, io, st, rh, g, h⟩ => ?_
  rcases iOne_cases h with ⟨x, s, hr, h⟩ | ⟨t, st1, d, ds, hr, hn, hv, hf, h⟩
  · exact .inr (den_ex g hr h)
  · have key : ∀ w H' F' io', Stp F io H F' io' H' → Sim c F' io' st1 → Tvs c H F' io' rh σ H' w t → ∃ s : Src, w = s.val ∧ s.at c.K H' ∧ s.of ds d ∧ Q (s.J c.K) H' := by
      intro w H' F' io' S s' T
      obtain ⟨s, e1, e2, e3⟩ := src_s (g.step S s') (T.r s') hn hv hf
      refine ⟨s, e1, (e2 F' io' H' (Stp.refl S.sub)).1, e3, h _ H' F' io' S s' fun F2 io2 H2 st2 S2 s2 => Src.yc S2.sub (e2 F2 io2 H2 S2)⟩
    cases d with
    | tup es =>
      refine .inl (.inl ⟨B, F, io, st, rh, g, by rw [hr]; intro w H' F' io' S s' T; obtain ⟨s, e1, e2, e3, q⟩ := key w H' F' io' S s' T; cases s with | tup a vs => exact ⟨a, e1, ⟨vs, by rw [hK]; exact e2⟩, by rw [hK]; exact q⟩ | lst a vs => cases e3 | str z => cases e3⟩)
    | lst es =>
      refine .inl (.inr ⟨B, F, io, st, rh, g, by rw [hr]; intro w H' F' io' S s' T; obtain ⟨s, e1, e2, e3, q⟩ := key w H' F' io' S s' T; cases s with | lst a vs => exact ⟨a, e1, ⟨vs, by rw [hK]; exact e2⟩, by rw [hK]; exact q⟩ | tup a vs => cases e3 | str z => cases e3⟩)
    | str z =>
      refine .inr ⟨B, F, io, st, rh, g, by rw [hr]; intro w H' F' io' S s' T; obtain ⟨s, e1, e2, e3, q⟩ := key w H' F' io' S s' T; cases s with | str z' => exact ⟨z', e1, q⟩ | tup a vs => cases e3 | lst a vs => cases e3⟩
    | _ => cases hf
/-- enumerate -/
theorem enm_of {s : Src} {hs : ∀ a o, F a = some o → H a = some o} (sm : Sim c F io st) (h : s.at c.K H ∧ s.rel c F io ds) : (∀ a vs, s = .lst a vs → YC c (Ite c.K a) F io H (numFrom 0 ds)) ∧ (∀ z, s = .str z → YC c (IteS z) F io H (numFrom 0 ds)) := by
  obtain ⟨h1, h2⟩ := h
  refine ⟨fun a vs e => ?_, fun z e => ?_⟩
  · subst e; exact yc_enm hs sm h1 h2
  · subst e; cases h2; exact yc_enmS hs sm z
theorem enm_items {d : D} {es : List D} (h : enmD d = some es) : ∃ ds, itemsD d = some ds ∧ es = numFrom 0 ds ∧ ((∃ z, d = .str z) ∨ ∃ us, d = .lst us) := by
  cases d <;> simp only [enmD] at h <;> first | (cases h; done) | (cases h; exact ⟨_, rfl, rfl, by first | exact .inl ⟨_, rfl⟩ | exact .inr ⟨_, rfl⟩⟩)
theorem pi_enm (hK : X.K = c.K) {elts : List Expr} {k : Nat} {tpos : Pos} (hg : Gl X "enumerate") (hm : X.mg "enumerate" = none) (ha : PE X a (den c W fa)) (hn : notStar a = true) :
    PI X (.Tuple elts k tpos) (.Call (.Name "enumerate" p) [a] [] pos) (denI c W (YldS c) (iOne enmD fa)) := by
  have A1 : PA X [a] (tCons (den c W fa) tNil) := pa_cons ha pa_nil (star_cons hn)
  refine PI.weak (PI.or (pi_enum hg hm A1 (star_cons hn)) (pi_enumS hg hm A1 (star_cons hn))) fun σ H Q ⟨B, F, io, st, rh, g, h⟩ => ?_
  rcases iOne_cases h with ⟨x, s, hr, h⟩ | ⟨t, st1, d, ds, hr, hn, hv, hf, h⟩
  · exact .inr (den_ex g hr h)
  · obtain ⟨us, hi, rfl, hd⟩ := enm_items hf
    rcases hd with ⟨z, rfl⟩ | ⟨vs, rfl⟩
    · refine .inr ⟨B, F, io, st, rh, g, ?_⟩
      rw [hr]
      intro w H' F' io' S s' T
      obtain ⟨s, e1, e2, e3⟩ := src_s (g.step S s') (T.r s') hn hv hi
      cases s with
      | str z' => exact ⟨z', congrArg (fun q => [q]) e1, h _ H' F' io' S s' fun F2 io2 H2 st2 S2 s2 => (enm_of (hs := S2.sub) s2 (e2 F2 io2 H2 S2)).2 _ rfl⟩
      | tup a vs => cases e3
      | lst a vs => cases e3
    · refine .inl ⟨B, F, io, st, rh, g, ?_⟩
      rw [hr]
      intro w H' F' io' S s' T
      obtain ⟨s, e1, e2, e3⟩ := src_s (g.step S s') (T.r s') hn hv hi
      cases s with
      | lst a ws => exact ⟨a, ws, congrArg (fun q => [q]) e1, by rw [hK]; exact (e2 F' io' H' (Stp.refl S.sub)).1, by rw [hK]; exact h _ H' F' io' S s' fun F2 io2 H2 st2 S2 s2 => (enm_of (hs := S2.sub) s2 (e2 F2 io2 H2 S2)).1 _ _ rfl⟩
      | tup a vs => cases e3
      | str z => cases e3
/-- range: comprehension and loop -/
theorem pi_rng1 {Y : Yl} (hY : ∀ J F io H ds, (∀ F2 io2 H2 st2, (∀ a o, F2 a = some o → H2 a = some o) → Sim c F2 io2 st2 → YC c J F2 io2 H2 ds) → Y J F io H ds) (hg : Gl X "range") (hm : X.mg "range" = none) (ha : PE X a (den c W fa)) (hn : notStar a = true) :
    PI X tg (.Call (.Name "range" p) [a] [] pos) (denI c W Y (iOne rng1 fa)) := by
  have A1 : PA X [a] (tCons (den c W fa) tNil) := pa_cons ha pa_nil (star_cons hn)
  refine PI.weak (pi_range1 hg hm A1 (star_cons hn)) fun σ H Q ⟨B, F, io, st, rh, g, h⟩ => ?_
  rcases iOne_cases h with ⟨x, s, hr, h⟩ | ⟨t, st1, d, ds, hr, hn, hv, hf, h⟩
  · exact den_ex g hr h
  · refine ⟨B, F, io, st, rh, g, ?_⟩
    rw [hr]
    intro w H' F' io' S s' T
    have g1 := g.step S s'
    have vw := view_ok g1 (T.r s') hv
    cases d with
    | int j =>
      cases vw
      simp only [rng1, rngD] at hf
      split at hf
      · rename_i hl
        cases hf
        refine ⟨j, rfl, hl.2.2.1, hl.2.2.2, h _ H' F' io' S s' (hY _ _ _ _ _ fun F2 io2 H2 st2 hs2 s2 => ?_)⟩
        rw [Int.sub_zero]
        exact yc_rng hs2 0 _
      · cases hf
    | _ => cases hf
theorem iTwo_cases {f : D → D → Option (List D)} {Y : Yl} {Q : It → Hp → Prop} (g : Good c B F io st rh σ H) (h : PstI c W F io σ H Y Q (iTwo f fa fb rh st)) {Q' : V → V → Hp → Prop}
    (hk : ∀ t u st2 d e ds v w H1 F1 io1, notLoc t = true → notLoc u = true → view rh st2 t = some d → view rh st2 u = some e → f d e = some ds → Stp F io H F1 io1 H1 → Good c B F1 io1 st2 rh σ H1 → Tvr c F1 io1 rh σ H1 v t → Tvr c F1 io1 rh σ H1 w u → PstI c W F1 io1 σ H1 Y Q (.ok ds st2) → Q' v w H1) :
    den c W fa σ H fun v H1 => den c W fb σ H1 fun w H2 => Q' v w H2 := by
  refine ⟨B, F, io, st, rh, g, ?_⟩
  unfold iTwo at h
  cases hr : fa rh st with
  | no => rw [hr] at h; exact h.elim
  | ex x s => rw [hr] at h; exact h
  | ok t st1 =>
    rw [hr] at h
    intro v H1 F1 io1 S1 s1 T1
    have g1 := g.step S1 s1
    refine ⟨B, F1, io1, st1, rh, g1, ?_⟩
    have h : PstI c W F io σ H Y Q ((fb rh st1).bind fun u st2 => if (notLoc t && notLoc u) = true then oR ((view rh st2 t).bind fun d => (view rh st2 u).bind fun e => f d e) st2 else .no) := h
    cases hr2 : fb rh st1 with
    | no => rw [hr2] at h; exact h.elim
    | ex x s => rw [hr2] at h; exact fun H' F' io' S s' => h H' F' io' (S1.trans g.sub S) s'
    | ok u st2 =>
      rw [hr2] at h
      intro w H2 F2 io2 S2 s2 T2
      have g2 := g1.step S2 s2
      have h : PstI c W F io σ H Y Q (if (notLoc t && notLoc u) = true then oR ((view rh st2 t).bind fun d => (view rh st2 u).bind fun e => f d e) st2 else .no) := h
      split at h
      · rename_i hn
        rw [Bool.and_eq_true] at hn
        cases hv : view rh st2 t with
        | none => rw [hv] at h; exact h.elim
        | some d =>
          cases hv2 : view rh st2 u with
          | none => rw [hv, hv2] at h; exact h.elim
          | some e =>
            rw [hv, hv2] at h
            have h : PstI c W F io σ H Y Q (oR (f d e) st2) := h
            cases hf : f d e with
            | none => rw [hf] at h; exact h.elim
            | some ds =>
              rw [hf] at h
              refine hk t u st2 d e ds v w H2 F2 io2 hn.1 hn.2 hv hv2 hf (S1.trans g.sub S2) g2 ((T1.r s1).step S2 g1.sub) (T2.r s2) ?_
              exact fun J H' F' io' S s' y => h J H' F' io' ((S1.trans g.sub S2).trans g.sub S) s' y
      · exact h.elim
theorem pi_rng2 {Y : Yl} (hY : ∀ J F io H ds, (∀ F2 io2 H2 st2, (∀ a o, F2 a = some o → H2 a = some o) → Sim c F2 io2 st2 → YC c J F2 io2 H2 ds) → Y J F io H ds) (hg : Gl X "range") (hm : X.mg "range" = none) (ha : PE X a (den c W fa)) (hb : PE X b (den c W fb)) (hn : notStar a = true) (hn2 : notStar b = true) :
    PI X tg (.Call (.Name "range" p) [a, b] [] pos) (denI c W Y (iTwo rng2 fa fb)) := by
  have A1 : PA X [a, b] (tCons (den c W fa) (tCons (den c W fb) tNil)) := pa_cons ha (pa_cons hb pa_nil (star_cons hn2)) (star_cons hn)
  have e2 : starEach [b] X.env = [(false, eval b X.env)] := star_cons hn2
  refine PI.weak (pi_range2 hg hm A1 (by rw [star_cons hn, e2]) e2) fun σ H Q ⟨B, F, io, st, rh, g, h⟩ => ?_
  refine iTwo_cases g h (Q' := fun v w H2 => ∃ i j : Int, [v, w] = [.int i, .int j] ∧ (-(2 ^ 62) ≤ i ∧ i < 2 ^ 62 ∧ -(2 ^ 62) ≤ j ∧ j < 2 ^ 62) ∧ Q (Itr i (j - i).toNat) H2) fun t u st2 d e ds v w H1 F1 io1 n1 n2 v1 v2 hf S g1 T1 T2 h => ?_
  have w1 := view_ok g1 T1 v1
  have w2 := view_ok g1 T2 v2
  cases d <;> cases e <;> simp only [rng2] at hf <;> try (cases hf; done)
  cases w1; cases w2
  simp only [rngD] at hf
  split at hf
  · rename_i hl
    cases hf
    exact ⟨_, _, rfl, hl, h _ H1 F1 io1 (Stp.refl S.sub) g1.sim (hY _ _ _ _ _ fun F2 io2 H2 st2 hs2 s2 => yc_rng hs2 _ _)⟩
  · cases hf
theorem pi_zp (hK : X.K = c.K) {elts : List Expr} {k : Nat} {tpos : Pos} (hg : Gl X "zip") (hm : X.mg "zip" = none) (ha : PE X a (den c W fa)) (hb : PE X b (den c W fb)) (hn : notStar a = true) (hn2 : notStar b = true) :
    PI X (.Tuple elts k tpos) (.Call (.Name "zip" p) [a, b] [] pos) (denI c W (YldS c) (iTwo zipD fa fb)) := by
  have A1 : PA X [a, b] (tCons (den c W fa) (tCons (den c W fb) tNil)) := pa_cons ha (pa_cons hb pa_nil (star_cons hn2)) (star_cons hn)
  refine PI.weak (RZ.pi_zipA hg hm A1 (star_cons hn) (star_any (by simp [hn2]))) fun σ H Q ⟨B, F, io, st, rh, g, h⟩ => ?_
  refine iTwo_cases g h (Q' := fun v w H1 => ∃ a b xs ys, [v, w] = [.ref a, .ref b] ∧ ((SqL X.K H1 a xs ∧ SqL X.K H1 b ys ∧ Q (Itz X.K a b) H1) ∨ (SqT X.K H1 a xs ∧ SqT X.K H1 b ys ∧ Q (RZ.ItzT X.K a b) H1))) fun t u st2 d e ds v w H1 F1 io1 n1 n2 v1 v2 hf S g1 T1 T2 h => ?_
  cases d with
  | tup us =>
    cases e <;> simp only [zipD] at hf <;> try (cases hf; done)
    cases hf
    obtain ⟨s1, e1, e2, e3⟩ := src_s g1 T1 n1 v1 rfl
    obtain ⟨s2, f1, f2, f3⟩ := src_s g1 T2 n2 v2 rfl
    cases s1 with
    | tup a vs =>
      cases s2 with
      | tup b ws =>
        refine ⟨a, b, vs, ws, by rw [e1, f1]; rfl, .inr ⟨by rw [hK]; exact (e2 F1 io1 H1 (Stp.refl S.sub)).1, by rw [hK]; exact (f2 F1 io1 H1 (Stp.refl S.sub)).1, ?_⟩⟩
        rw [hK]
        exact h _ H1 F1 io1 (Stp.refl S.sub) g1.sim fun F2 io2 H2 st2 S2 s2 => yc_zipT S2.sub s2 (e2 F2 io2 H2 S2).1 (e2 F2 io2 H2 S2).2 (f2 F2 io2 H2 S2).1 (f2 F2 io2 H2 S2).2
      | lst _ _ => cases f3
      | str _ => cases f3
    | lst _ _ => cases e3
    | str _ => cases e3
  | lst us =>
    cases e <;> simp only [zipD] at hf <;> try (cases hf; done)
    cases hf
    obtain ⟨s1, e1, e2, e3⟩ := src_s g1 T1 n1 v1 rfl
    obtain ⟨s2, f1, f2, f3⟩ := src_s g1 T2 n2 v2 rfl
    cases s1 with
    | lst a vs =>
      cases s2 with
      | lst b ws =>
        refine ⟨a, b, vs, ws, by rw [e1, f1]; rfl, .inl ⟨by rw [hK]; exact (e2 F1 io1 H1 (Stp.refl S.sub)).1, by rw [hK]; exact (f2 F1 io1 H1 (Stp.refl S.sub)).1, ?_⟩⟩
        rw [hK]
        exact h _ H1 F1 io1 (Stp.refl S.sub) g1.sim fun F2 io2 H2 st2 S2 s2 => yc_zip S2.sub s2 (e2 F2 io2 H2 S2).1 (e2 F2 io2 H2 S2).2 (f2 F2 io2 H2 S2).1 (f2 F2 io2 H2 S2).2
      | tup _ _ => cases f3
      | str _ => cases f3
    | tup _ _ => cases e3
    | str _ => cases e3
  | _ => cases e <;> cases hf
end
end KL

namespace KL
open PySem L2

/-! ### list comprehensions -/
def wipeR (rh : Rho) : List Nat → Rho
  | [] => rh
  | v :: vs => (wipeR rh vs).set v none
def cTest (fc : Option Sm) (rh : Rho) (st : Sto) : R Bool := match fc with
  | none => .ok true st
  | some f => (match f rh st with
    | .ok (.d (.bl b)) st1 => .ok b st1
    | _ => .no)
def cElt (fe : Sm) (rh : Rho) (st : Sto) : R D := match fe rh st with
  | .ok t st1 => oR (toDv t) st1
  | _ => .no
def cLoop (tg : Tg) (fc : Option Sm) (fe : Sm) (rhw : Rho) : List D → Sto → R (List D)
  | [], st => .ok [] st
  | d :: ds, st => (oR (tgSet tg d rhw) st).bind fun rh' st0 => (cTest fc rh' st0).bind fun b st1 => match b with
    | true => (cElt fe rh' st1).bind fun y st2 => (cLoop tg fc fe rhw ds st2).bind fun ys st3 => .ok (y :: ys) st3
    | false => cLoop tg fc fe rhw ds st1
def eComp (vs : List Nat) (tg : Tg) (fi : Im) (fc : Option Sm) (fe : Sm) : Sm := fun rh st => (fi rh st).bind fun ds st1 => if ds.length ≤ sizeLine then (cLoop tg fc fe (wipeR rh vs) ds st1).bind fun ys st2 => .ok (.fr ys) st2 else .no
theorem R.assoc {α β γ : Type} (r : R α) (f : α → Sto → R β) (k : β → Sto → R γ) : (r.bind f).bind k = r.bind fun a st => (f a st).bind k := by cases r <;> rfl
section
variable {X : Cx} {c : Ct} {W : WX} {B : Bs} {F F' F1 H H' H1 : Hp} {io io' io1 : List Addr} {st st' st1 : Sto} {rh : Rho} {σ : St}
theorem wipeR_len (rh : Rho) : ∀ vs : List Nat, (wipeR rh vs).length = rh.length
  | [] => rfl
  | v :: vs => by unfold wipeR; rw [List.length_set, wipeR_len rh vs]
theorem wipeR_some {rh : Rho} {i : Nat} {x : Cell} : ∀ {vs : List Nat}, (wipeR rh vs)[i]? = some (some x) → rh[i]? = some (some x) ∧ i ∉ vs
  | [], h => ⟨h, by simp⟩
  | v :: vs, h => by
    unfold wipeR at h
    by_cases hi : v = i
    · subst hi
      by_cases hv : v < (wipeR rh vs).length
      · rw [List.getElem?_set_self hv] at h; cases h
      · rw [List.getElem?_eq_none (by simpa using hv)] at h; cases h
    · rw [List.getElem?_set_ne hi] at h
      obtain ⟨h1, h2⟩ := wipeR_some h
      exact ⟨h1, by simp only [List.mem_cons, not_or]; exact ⟨fun e => hi e.symm, h2⟩⟩
theorem Good.wipe (g : Good c B F io st rh σ H) (vs : List Nat) : Good c B F io st (wipeR rh vs) (L2.wipe σ vs) H := by
  refine ⟨g.bsub, by rw [wipeR_len, wipe_length]; exact g.len, g.stp, g.sim, fun i d e => ?_, fun i ds e => ?_, fun i j ds es w h1 h2 h3 h4 => ?_⟩
  · obtain ⟨e1, e2⟩ := wipeR_some e
    rw [wipe_out e2]
    exact g.val i d e1
  · obtain ⟨e1, e2⟩ := wipeR_some e
    rw [wipe_out e2]
    exact g.own i ds e1
  · obtain ⟨e1, z1⟩ := wipeR_some h1
    obtain ⟨e2, z2⟩ := wipeR_some h2
    rw [wipe_out z1] at h3
    rw [wipe_out z2] at h4
    exact g.dis i j ds es w e1 e2 h3 h4
/-- an object that came up on the way and is not leant on is changed -/
theorem Stp.chg (S : Stp F io H F' io' H') {p : Addr} (o : HO) (h : H p = none) (hn : F' p = none) : Stp F io H F' io' (upd H' p o) := by
  refine ⟨fun a u e => ?_, S.ext, S.per, S.new, fun a u e n => ?_, fun a e => ?_, S.nio⟩
  · rw [upd_ne (fun z => by subst z; rw [hn] at e; cases e)]; exact S.sub a u e
  · rw [upd_ne (fun z => by subst z; rw [h] at e; cases e)]; exact S.fr a u e n
  · by_cases z : a = p
    · subst z; exact h
    · rw [upd_ne z] at e; exact S.gro a e
theorem Stp.out (S : Stp F io H F' io' H') {p : Addr} {o : HO} (h : H p = some o) (hn : F p = none) : F' p = none := by
  cases q : F' p with
  | none => rfl
  | some u =>
    rcases S.new p (by rw [q]; simp) with z | z
    · exact absurd hn z
    · rw [h] at z; cases z
theorem wipe_eq {σ σ2 : St} {vs sl : List Nat} (hsub : ∀ i ∈ sl, i ∈ vs) (h : ∀ i, i ∉ sl → σ2[i]? = (L2.wipe σ vs)[i]?) (hl : σ2.length = (L2.wipe σ vs).length) : L2.wipe σ2 vs = L2.wipe σ vs := by
  have inn : ∀ (τ : St) (us : List Nat) (i : Nat), i ∈ us → i < τ.length → (L2.wipe τ us)[i]? = some none := by
    intro τ us
    induction us with
    | nil => intro i hi; simp at hi
    | cons u us ih =>
      intro i hi hl
      unfold L2.wipe
      by_cases z : u = i
      · subst z
        rw [List.getElem?_set_self (by rw [wipe_length]; exact hl)]
      · rw [List.getElem?_set_ne z]
        exact ih i (by simpa [Ne.symm z] using hi) hl
  rw [wipe_length] at hl
  apply List.ext_getElem?
  intro i
  by_cases hv : i ∈ vs
  · by_cases hlt : i < σ.length
    · rw [inn σ2 vs i hv (by rw [hl]; exact hlt), inn σ vs i hv hlt]
    · rw [List.getElem?_eq_none (by rw [wipe_length, hl]; omega), List.getElem?_eq_none (by rw [wipe_length]; omega)]
  · rw [wipe_out hv, h i (fun z => hv (hsub i z))]
/-- nothing is let out -/
abbrev W0 : WX := fun _ _ _ _ => False
/-- the readings of a comprehension's tests -/
def CtOk (c : Ct) (fc : Option Sm) (tt : TT) : Prop := (fc = none ∧ tt = tYes) ∨ ∃ f, fc = some f ∧ tt = denT c W0 f
theorem test_of {fc : Option Sm} {tt : TT} (h : CtOk c fc tt) (g : Good c B F io st rh σ H) {b : Bool} {st1 : Sto} (e : cTest fc rh st = .ok b st1) {Q : Bool → Hp → Prop}
    (k : ∀ H' F' io', Stp F io H F' io' H' → Good c B F' io' st1 rh σ H' → Q b H') : tt σ H Q := by
  rcases h with ⟨rfl, rfl⟩ | ⟨f, rfl, rfl⟩
  · cases e
    exact k H F io (Stp.refl g.sub) g
  · refine ⟨B, F, io, st, rh, g, ?_⟩
    unfold cTest at e
    simp only at e
    cases hr : f rh st with
    | no => rw [hr] at e; cases e
    | ex x s => rw [hr] at e; cases e
    | ok t s =>
      rw [hr] at e
      cases t with
      | d d =>
        cases d with
        | bl b' =>
          cases e
          intro v H' F' io' S s' T
          cases T
          exact ⟨_, rfl, k H' F' io' S (g.step S s')⟩
        | _ => cases e
      | _ => cases e
theorem elt_of {fe : Sm} (g : Good c B F io st rh σ H) {d : D} {st1 : Sto} (e : cElt fe rh st = .ok d st1) {Q : VK}
    (k : ∀ v H' F' io', Stp F io H F' io' H' → Sim c F' io' st1 → Rv c F' io' v d → Q v H') : den c W0 fe σ H Q := by
  refine ⟨B, F, io, st, rh, g, ?_⟩
  unfold cElt at e
  cases hr : fe rh st with
  | no => rw [hr] at e; cases e
  | ex x s => rw [hr] at e; cases e
  | ok t s =>
    rw [hr] at e
    simp only at e
    intro v H' F' io' S s' T
    cases ht : toDv t with
    | none => rw [ht] at e; cases e
    | some d' =>
      rw [ht] at e
      cases e
      obtain ⟨F2, S2, s2, r2⟩ := Tvs.give S s' T ht
      exact k v H' F2 io' S2 s2 r2
theorem comp_of {vs : List Nat} {tg : Tg} {fi : Im} {fc : Option Sm} {fe : Sm} {g : TG} {tt : TT} (hg : TgOk c tg g) (ht : CtOk c fc tt) (hsl : ∀ i ∈ tg.slots, i ∈ vs) {σ : St} {H : Hp} {Q : VK} (h : den c W (eComp vs tg fi fc fe) σ H Q) :
    tLc (denI c W (YldS c) fi) g tt (den c W0 fe) vs σ H Q := by
  obtain ⟨B, F, io, st, rh, g0, p⟩ := h
  refine ⟨B, F, io, st, rh, g0, ?_⟩
  unfold eComp at p
  cases hr : fi rh st with
  | no => rw [hr] at p; exact p.elim
  | ex x s => rw [hr] at p; exact p
  | ok ds st1 =>
    rw [hr] at p
    have p : Pst c W F io rh σ H Q (if ds.length ≤ sizeLine then (cLoop tg fc fe (wipeR rh vs) ds st1).bind fun ys st2 => .ok (.fr ys) st2 else .no) := p
    split at p
    case isFalse => exact p.elim
    rename_i hsz
    intro J H1 F1 io1 S1 s1 Y D hD
    have g1 := g0.step S1 s1
    obtain ⟨fD, nD, bD⟩ := g1.fresh hD
    have hD0 : H D = none := S1.gro D hD
    refine ⟨fun i m H' => m = ds.length - i ∧ i ≤ ds.length ∧ ∃ (F' : Hp) (io' : List Addr) (st' : Sto) (accD : List KL.D) (accV : List V), Stp F1 io1 H1 F' io' H' ∧ Sim c F' io' st' ∧ H' D = some (.lst accV) ∧ F' D = none ∧ RvAll c F' io' accV accD ∧ accD.length ≤ i ∧
      Pst c W F io rh σ H Q ((cLoop tg fc fe (wipeR rh vs) (ds.drop i) st').bind fun ys st2 => .ok (.fr (accD ++ ys)) st2), ⟨ds.length, by simp, Nat.zero_le _, F1, io1, st1, [], [], Stp.lay g1.sub hD, s1, upd_same, fD, .nil, Nat.le_refl _, by simpa using p⟩, ?_⟩
    rintro i m H' ⟨rfl, hi, F', io', st', accD, accV, S', s', hD', fD', rA, hlen, p'⟩
    have S0 : Stp F io H F' io' H' := S1.trans g0.sub S'
    have g' := g0.step S0 s'
    have yc := Y F' io' H' st' S' s'
    by_cases hlt : i < ds.length
    · have hdrop : ds.drop i = ds[i] :: ds.drop (i + 1) := List.drop_eq_getElem_cons hlt
      obtain ⟨go, yl⟩ := yc.1 i ds[i] (by simp [hlt])
      refine .inr ⟨go, fun H2 => ∃ (F' : Hp) (io' : List Addr) (st' : Sto) (accD : List KL.D) (accV : List V), Stp F1 io1 H1 F' io' H2 ∧ Sim c F' io' st' ∧ H2 D = some (.lst accV) ∧ F' D = none ∧ RvAll c F' io' accV accD ∧ accD.length ≤ i + 1 ∧
        Pst c W F io rh σ H Q ((cLoop tg fc fe (wipeR rh vs) (ds.drop (i + 1)) st').bind fun ys st2 => .ok (.fr (accD ++ ys)) st2), fun H2 q => ⟨ds.length - (i + 1), by omega, rfl, hlt, q⟩, fun x H2 hy => ?_⟩
      obtain ⟨F2, S2, k2, rx⟩ := yl x H2 hy
      have s2 : Sim c F2 io' st' := s'.step S2 g'.sub rfl k2
      have g2 := g'.step S2 s2
      have hD2 : H2 D = some (.lst accV) := S2.fr D _ hD' (fun z => s'.dom z fD')
      have fD2 : F2 D = none := S2.out hD' fD'
      have rA2 := rA.step S2 g'.sub
      rw [hdrop] at p'
      unfold cLoop at p'
      rw [R.assoc] at p'
      cases hts : tgSet tg ds[i] (wipeR rh vs) with
      | none => rw [hts] at p'; exact p'.elim
      | some rh2 =>
        rw [hts] at p'
        have p' : Pst c W F io rh σ H Q (((cTest fc rh2 st').bind fun b st1 => match b with
          | true => (cElt fe rh2 st1).bind fun y st2 => (cLoop tg fc fe (wipeR rh vs) (ds.drop (i + 1)) st2).bind fun ys st3 => .ok (y :: ys) st3
          | false => cLoop tg fc fe (wipeR rh vs) (ds.drop (i + 1)) st1).bind fun ys st2 => .ok (.fr (accD ++ ys)) st2) := p'
        refine hg (g2.wipe vs) rx hts fun σ2 g3 e1 e2 => ⟨wipe_eq hsl e1 e2, ?_⟩
        rw [R.assoc] at p'
        cases htt : cTest fc rh2 st' with
        | no => rw [htt] at p'; exact p'.elim
        | ex x s =>
          exfalso
          unfold cTest at htt
          cases fc with
          | none => cases htt
          | some f =>
            simp only at htt
            cases hq : f rh2 st' with
            | no => rw [hq] at htt; cases htt
            | ex x s => rw [hq] at htt; cases htt
            | ok t s =>
              rw [hq] at htt
              cases t with
              | d d => cases d <;> cases htt
              | _ => cases htt
        | ok b st3 =>
          rw [htt] at p'
          refine test_of ht g3 htt fun H3 F3 io3 S3 g4 => ?_
          have hD3 : H3 D = some (.lst accV) := S3.fr D _ hD2 (fun z => s2.dom z fD2)
          have fD3 : F3 D = none := S3.out hD2 fD2
          have S13 : Stp F1 io1 H1 F3 io3 H3 := (S'.trans g1.sub S2).trans g1.sub S3
          cases b with
          | false => exact iteF ⟨F3, io3, st3, accD, accV, S13, g4.sim, hD3, fD3, rA2.step S3 g3.sub, Nat.le_succ_of_le hlen, p'⟩
          | true =>
            refine iteT ?_
            have p' : Pst c W F io rh σ H Q (((cElt fe rh2 st3).bind fun y st2 => (cLoop tg fc fe (wipeR rh vs) (ds.drop (i + 1)) st2).bind fun ys st3 => .ok (y :: ys) st3).bind fun ys st2 => .ok (.fr (accD ++ ys)) st2) := p'
            rw [R.assoc] at p'
            cases hel : cElt fe rh2 st3 with
            | no => rw [hel] at p'; exact p'.elim
            | ex x s =>
              exfalso
              unfold cElt at hel
              cases hq : fe rh2 st3 with
              | no => rw [hq] at hel; cases hel
              | ex x s => rw [hq] at hel; cases hel
              | ok t s =>
                rw [hq] at hel
                simp only at hel
                cases ht : toDv t with
                | none => rw [ht] at hel; cases hel
                | some d' => rw [ht] at hel; cases hel
            | ok y st4 =>
              rw [hel] at p'
              refine elt_of g4 hel fun v H4 F4 io4 S4 s4 rv => ?_
              have hD4 : H4 D = some (.lst accV) := S4.fr D _ hD3 (fun z => g4.sim.dom z fD3)
              have fD4 : F4 D = none := S4.out hD3 fD3
              have S14 : Stp F1 io1 H1 F4 io4 H4 := S13.trans g1.sub S4
              refine ⟨accV, hD4, ?_, F4, io4, st4, accD ++ [y], accV ++ [v], S14.chg _ hD fD4, s4, upd_same, fD4, ((rA2.step S3 g3.sub).step S4 g4.sub).append (.cons rv .nil), by rw [List.length_append]; simpa using hlen, ?_⟩
              · rw [rA.length]
                exact Nat.lt_of_le_of_lt hlen (Nat.lt_of_lt_of_le hlt hsz)
              · have p' : Pst c W F io rh σ H Q (((cLoop tg fc fe (wipeR rh vs) (ds.drop (i + 1)) st4).bind fun ys st3 => .ok (y :: ys) st3).bind fun ys st2 => .ok (.fr (accD ++ ys)) st2) := p'
                rw [R.assoc] at p'
                have e : (fun (ys : List KL.D) (st2 : Sto) => (R.ok (TV.fr ((accD ++ [y]) ++ ys)) st2 : R TV)) = fun ys st2 => (R.ok (y :: ys) st2 : R (List KL.D)).bind fun ys st2 => .ok (.fr (accD ++ ys)) st2 := by
                  funext ys st2
                  show R.ok _ _ = R.ok _ _
                  rw [List.append_assoc]
                  rfl
                rw [e]
                exact p'
    · have e : i = ds.length := by omega
      subst e
      refine .inl ⟨yc.2, ?_⟩
      rw [List.drop_length] at p'
      have p' : Pst c W F io rh σ H Q (.ok (.fr (accD ++ [])) st') := p'
      rw [List.append_nil] at p'
      exact p' (.ref D) H' F' io' S0 s' ⟨D, accV, rfl, hD0, hD', fD', rA⟩
theorem pe_den_comp (C : Cok X c W) {elt tgE iter : Expr} {ifs : List Expr} {scope : Scope} {own : List (Str × Nat)} {pos : Pos} {tg : Tg} {fi : Im} {fc : Option Sm} {fe : Sm} {g : TG} {tt : TT} (hi : PI X tgE iter (denI c W (YldS c) fi)) (ok : BlkOk X.N X.env.scope scope own)
    (hg : ∀ (s : Shared) (H : Hp) (C : Addr) (cl : List (Str × Addr)) (fp : List Addr), PG (X.blk s H scope (compEnvC scope cl C X.env) fp) tgE g) (hgo : TgOk c tg g)
    (ht : ∀ (s : Shared) (H : Hp) (C : Addr) (cl : List (Str × Addr)) (fp : List Addr), PTs (X.blk s H scope (compEnvC scope cl C X.env) fp) ifs tt) (hto : CtOk c fc tt)
    (he : ∀ (s : Shared) (H : Hp) (C : Addr) (cl : List (Str × Addr)) (fp : List Addr), PE (X.blk s H scope (compEnvC scope cl C X.env) fp) elt (den c W0 fe)) (hs : ∀ x, foldedSetIterable iter X.env x = pure x) (hsl : ∀ i ∈ tg.slots, i ∈ own.map (·.2)) :
    PE X (.ListComp elt [⟨tgE, iter, ifs, 0⟩] scope pos) (den c W (eComp (own.map (·.2)) tg fi fc fe)) :=
  PE.weak (pe_lc C.calm C.nd hi ok hg ht he hs) fun σ H Q h => comp_of hgo hto hsl h
end
end KL

namespace KL
open PySem L2

/-! ### statements -/
inductive RS where
  | nx (rh : Rho) (st : Sto) | rt (d : D) (st : Sto) | bk (rh : Rho) (st : Sto) | ct (rh : Rho) (st : Sto) | ex (c : Str) (rh : Rho) (st : Sto) | no
abbrev Ss := Rho → Sto → RS
def Pss (c : Ct) (W : WX) (B : Bs) (F : Hp) (io : List Addr) (D : Ends) : RS → Prop
  | .nx rh st => ∀ σ' H' F' io', Per F io F' io' → Good c B F' io' st rh σ' H' → D.nx σ' H'
  | .rt d st => ∀ v H' F' io', Stp B.F B.io B.H F' io' H' → Sim c F' io' st → Rv c F' io' v d → D.rt v H'
  | .bk rh st => ∀ σ' H' F' io', Per F io F' io' → Good c B F' io' st rh σ' H' → D.bk σ' H'
  | .ct rh st => ∀ σ' H' F' io', Per F io F' io' → Good c B F' io' st rh σ' H' → D.ct σ' H'
  | .ex e rh st => ∀ σ' H' F' io', Good c B F' io' st rh σ' H' → W (c.xc e) none σ' H'
  | .no => False
def denS (c : Ct) (W : WX) (f : Ss) : TS := fun D σ H => ∃ B F io st rh, Good c B F io st rh σ H ∧ Pss c W B F io D (f rh st)
theorem PS.weak {X : Cx} {st : Stmt} {t t' : TS} (h : PS X st t) (hw : ∀ D σ H, t' D σ H → t D σ H) : PS X st t' := ⟨fun pins s σ H D I q => h.run pins s σ H D I (hw D σ H q)⟩
theorem PSs.weak {X : Cx} {st : List Stmt} {t t' : TS} (h : PSs X st t) (hw : ∀ D σ H, t' D σ H → t D σ H) : PSs X st t' := ⟨fun pins s σ H D I q => h.run pins s σ H D I (hw D σ H q)⟩
section
variable {X : Cx} {c : Ct} {W : WX} {B : Bs} {F F' F1 F2 H H' H1 : Hp} {io io' io1 io2 : List Addr} {st st' st1 : Sto} {rh : Rho} {σ : St} {v : V} {t : TV} {d : D}
theorem Per.refl : Per F io F io := ⟨⟨[], by simp⟩, fun _ _ h _ => h, fun _ _ _ h => h⟩
theorem Per.trans (a : Per F io F1 io1) (b : Per F1 io1 F2 io2) : Per F io F2 io2 := by
  refine ⟨?_, fun x o h n => b.per x o (a.per x o h n) (a.nin x o h n), fun x o h n => b.nin x o (a.per x o h n) (a.nin x o h n)⟩
  obtain ⟨m1, e1⟩ := a.ext
  obtain ⟨m2, e2⟩ := b.ext
  exact ⟨m1 ++ m2, by rw [e2, e1, List.append_assoc]⟩
theorem Pss.per {D : Ends} {r : RS} (S : Per F io F1 io1) (h : Pss c W B F io D r) : Pss c W B F1 io1 D r := by
  cases r with
  | nx rh st => exact fun σ' H' F' io' S' g => h σ' H' F' io' (S.trans S') g
  | rt d st => exact h
  | bk rh st => exact fun σ' H' F' io' S' g => h σ' H' F' io' (S.trans S') g
  | ct rh st => exact fun σ' H' F' io' S' g => h σ' H' F' io' (S.trans S') g
  | ex e rh st => exact h
  | no => exact h
/-- an expression, then a statement's rest -/
def sThen (fe : Sm) (k : TV → Sto → Rho → RS) : Ss := fun rh st => match fe rh st with
  | .ok t st1 => k t st1 rh
  | .ex e st1 => .ex e rh st1
  | .no => .no
theorem then_of {fe : Sm} {k : TV → Sto → Rho → RS} {D : Ends} {Q : VK} (g : Good c B F io st rh σ H) (h : Pss c W B F io D (sThen fe k rh st))
    (hk : ∀ t st1 v H1 F1 io1, Stp F io H F1 io1 H1 → Good c B F1 io1 st1 rh σ H1 → Sim c F1 io1 st1 → Tvs c H F1 io1 rh σ H1 v t → Pss c W B F io D (k t st1 rh) → Q v H1) : den c W fe σ H Q := by
  refine ⟨B, F, io, st, rh, g, ?_⟩
  unfold sThen at h
  cases hr : fe rh st with
  | no => rw [hr] at h; exact h.elim
  | ex x s => rw [hr] at h; exact fun H' F' io' S s' => h σ H' F' io' (g.step S s')
  | ok t s => rw [hr] at h; exact fun v H' F' io' S s' T => hk t s v H' F' io' S (g.step S s') s' T h
/-- name = e -/
def asg (own : Bool) (i : Nat) (t : TV) (st : Sto) (rh : Rho) : RS := match t with
  | .d d => .nx (rh.set i (some (.val d))) st
  | .fr ds => (match own with
    | true => .nx (rh.set i (some (.own ds))) st
    | false => .nx (rh.set i (some (.val (.lst ds)))) st)
  | .o _ => .no
def sAsg (own : Bool) (i : Nat) (fe : Sm) : Ss := sThen fe (asg own i)
theorem Good.setOwn (g : Good c B F io st rh σ H) (S : Stp F io H F' io' H') (s' : Sim c F' io' st') {p : Addr} {vs : List V} {ds : List D} (h0 : H p = none) (h1 : H' p = some (.lst vs)) (h2 : F' p = none) (r : RvAll c F' io' vs ds) (i : Nat) :
    Good c B F' io' st' (rh.set i (some (.own ds))) (σ.set i (some (.ref p))) H' := by
  have g' := g.step S s'
  have old : ∀ {m : Nat} {us : List D}, (rh.set i (some (.own ds)))[m]? = some (some (.own us)) → i ≠ m → rh[m]? = some (some (.own us)) := by
    intro m us hm z
    rw [List.getElem?_set_ne z] at hm
    exact hm
  have far : ∀ {m : Nat} {us : List D}, rh[m]? = some (some (.own us)) → σ[m]? ≠ some (some (.ref p)) := by
    intro m us hm e
    obtain ⟨a, ws, e1, e2, _⟩ := g.own m us hm
    rw [e] at e1
    cases e1
    rw [h0] at e2; cases e2
  refine ⟨g'.bsub, by rw [List.length_set, List.length_set]; exact g.len, g'.stp, s', fun j e hj => ?_, fun j us hj => ?_, fun j k us ws w hj hk e1 e2 => ?_⟩
  · by_cases z : i = j
    · subst z
      rw [List.getElem?_set, if_pos rfl] at hj
      split at hj <;> cases hj
    · rw [List.getElem?_set_ne z] at hj ⊢
      exact g'.val j e hj
  · by_cases z : i = j
    · subst z
      rw [List.getElem?_set, if_pos rfl] at hj
      split at hj
      · rename_i hl
        cases hj
        refine ⟨p, vs, ?_, h1, h2, g.stp.gro p h0, r⟩
        rw [List.getElem?_set, if_pos rfl, if_pos (by rw [← g.len]; exact hl)]
      · cases hj
    · rw [List.getElem?_set_ne z] at hj ⊢
      exact g'.own j us hj
  · by_cases z1 : i = j
    · by_cases z2 : i = k
      · exact z1.symm.trans z2
      · exfalso
        subst z1
        rw [List.getElem?_set_ne z2] at e2
        have hk' := old hk z2
        have : w = .ref p := by
          rw [List.getElem?_set, if_pos rfl] at e1
          split at e1
          · exact (Option.some.inj (Option.some.inj e1)).symm
          · cases e1
        rw [this] at e2
        exact far hk' e2
    · by_cases z2 : i = k
      · exfalso
        subst z2
        rw [List.getElem?_set_ne z1] at e1
        have hj' := old hj z1
        have : w = .ref p := by
          rw [List.getElem?_set, if_pos rfl] at e2
          split at e2
          · exact (Option.some.inj (Option.some.inj e2)).symm
          · cases e2
        rw [this] at e1
        exact far hj' e1
      · rw [List.getElem?_set_ne z1] at e1
        rw [List.getElem?_set_ne z2] at e2
        exact g.dis j k us ws w (old hj z1) (old hk z2) e1 e2
theorem asg_of {own : Bool} {i : Nat} {fe : Sm} {D : Ends} {σ : St} {H : Hp} (h : denS c W (sAsg own i fe) D σ H) : tAsg (den c W fe) (gName i) D σ H := by
  obtain ⟨B, F, io, st, rh, g, p⟩ := h
  refine then_of g p fun t st1 v H1 F1 io1 S g1 s1 T q => ?_
  cases t with
  | d d => exact q _ H1 F1 io1 (S.perm g.sub) (g1.set T i)
  | o j => exact q.elim
  | fr ds =>
    cases own with
    | true =>
      obtain ⟨a, vs, rfl, h0, h1, h2, r⟩ := T
      exact q _ H1 F1 io1 (S.perm g.sub) (g.setOwn S s1 h0 h1 h2 r i)
    | false =>
      obtain ⟨F2, S2, s2, r2⟩ := Tvs.give S s1 T rfl
      exact q _ H1 F2 io1 (S2.perm g.sub) ((g.step S2 s2).set r2 i)
/-- return e -/
def ret (t : TV) (st : Sto) (rh : Rho) : RS := match t with
  | .d d => .rt d st
  | .fr ds => .rt (.lst ds) st
  | .o i => (match rh[i]? with
    | some (some (.own ds)) => .rt (.lst ds) st
    | _ => .no)
def sRet (fe : Sm) : Ss := sThen fe ret
theorem ret_of {fe : Sm} {D : Ends} {σ : St} {H : Hp} (h : denS c W (sRet fe) D σ H) : tRet (den c W fe) D σ H := by
  obtain ⟨B, F, io, st, rh, g, p⟩ := h
  refine then_of g p fun t st1 v H1 F1 io1 S g1 s1 T q => ?_
  cases t with
  | d d => exact q v H1 F1 io1 g1.stp s1 T
  | fr ds =>
    obtain ⟨F2, S2, s2, r2⟩ := Tvs.give S s1 T rfl
    exact q v H1 F2 io1 (g.step S2 s2).stp s2 r2
  | o i =>
    obtain ⟨⟨ds, e1⟩, e2⟩ := T
    simp only [ret, e1] at q
    obtain ⟨a, vs, e3, e4, e5, e6, r⟩ := g1.own i ds e1
    rw [e2] at e3
    cases e3
    refine q (.ref a) H1 (upd F1 a (.lst vs)) io1 (g1.stp.lean e6 e4 e5) (s1.more (upd_more e5)) (.lst upd_same (fun z => s1.dom z e5) (r.more (upd_more e5)))
def sRetN : Ss := fun _ st => .rt .non st
theorem retN_of {D : Ends} {σ : St} {H : Hp} (h : denS c W sRetN D σ H) : tRetN D σ H := by
  obtain ⟨B, F, io, st, rh, g, p⟩ := h
  exact p .non H F io g.stp g.sim .non
def sNil : Ss := fun rh st => .nx rh st
theorem nil_of {D : Ends} {σ : St} {H : Hp} (h : denS c W sNil D σ H) : tNext D σ H := by
  obtain ⟨B, F, io, st, rh, g, p⟩ := h
  exact p σ H F io Per.refl g
def sSeq (f k : Ss) : Ss := fun rh st => match f rh st with
  | .nx rh' st' => k rh' st'
  | r => r
theorem seq_of {f k : Ss} {D : Ends} {σ : St} {H : Hp} (h : denS c W (sSeq f k) D σ H) : tSeq (denS c W f) (denS c W k) D σ H := by
  obtain ⟨B, F, io, st, rh, g, p⟩ := h
  refine ⟨B, F, io, st, rh, g, ?_⟩
  unfold sSeq at p
  cases hr : f rh st with
  | nx rh' st' =>
    rw [hr] at p
    exact fun σ' H' F' io' S g' => ⟨B, F', io', st', rh', g', Pss.per (r := k rh' st') S p⟩
  | rt d s => rw [hr] at p; exact p
  | bk rh' s => rw [hr] at p; exact p
  | ct rh' s => rw [hr] at p; exact p
  | ex e rh' s => rw [hr] at p; exact p
  | no => rw [hr] at p; exact p
def sExpr (fe : Sm) : Ss := sThen fe fun _ st rh => .nx rh st
theorem expr_of {fe : Sm} {D : Ends} {σ : St} {H : Hp} (h : denS c W (sExpr fe) D σ H) : tDrop (den c W fe) D σ H := by
  obtain ⟨B, F, io, st, rh, g, p⟩ := h
  exact then_of g p fun t st1 v H1 F1 io1 S g1 s1 T q => q σ H1 F1 io1 (S.perm g.sub) g1
def sIf (fc : Sm) (f k : Ss) : Ss := sThen fc fun t st rh => match t with
  | .d (.bl true) => f rh st
  | .d (.bl false) => k rh st
  | _ => .no
theorem if_of {fc : Sm} {f k : Ss} {D : Ends} {σ : St} {H : Hp} (h : denS c W (sIf fc f k) D σ H) : tIfS (denT c W fc) (denS c W f) (denS c W k) D σ H := by
  obtain ⟨B, F, io, st, rh, g, p⟩ := h
  refine then_of g p fun t st1 v H1 F1 io1 S g1 s1 T q => ?_
  cases t with
  | d d =>
    cases d with
    | bl b =>
      cases T
      refine ⟨b, rfl, ?_⟩
      cases b with
      | true => exact iteT ⟨B, F1, io1, st1, rh, g1, Pss.per (r := f rh st1) (S.perm g.sub) q⟩
      | false => exact iteF ⟨B, F1, io1, st1, rh, g1, Pss.per (r := k rh st1) (S.perm g.sub) q⟩
    | _ => exact q.elim
  | _ => exact q.elim
def sBrk : Ss := fun rh st => .bk rh st
theorem brk_of {D : Ends} {σ : St} {H : Hp} (h : denS c W sBrk D σ H) : tBreak D σ H := by
  obtain ⟨B, F, io, st, rh, g, p⟩ := h
  exact p σ H F io Per.refl g
/-- a, b = e1, e2 of two local names -/
def sPar (i j : Nat) (fs : List Sm) : Ss := fun rh st => match eArgs fs rh st with
  | .ok [d, e] st1 => .nx ((rh.set i (some (.val d))).set j (some (.val e))) st1
  | .ok _ _ => .no
  | .ex x st1 => .ex x rh st1
  | .no => .no
theorem par_of {i j : Nat} {fs : List Sm} {D : Ends} {σ : St} {H : Hp} (h : denS c W (sPar i j fs) D σ H) : tPar i j (denA c W fs) D σ H := by
  obtain ⟨B, F, io, st, rh, g, p⟩ := h
  refine ⟨B, F, io, st, rh, g, ?_⟩
  unfold sPar at p
  cases hr : eArgs fs rh st with
  | no => rw [hr] at p; exact p.elim
  | ex x s => rw [hr] at p; exact fun H' F' io' S s' => p σ H' F' io' (g.step S s')
  | ok ds s =>
    rw [hr] at p
    intro vs H' F' io' S s' T
    cases T with
    | nil => exact p.elim
    | cons h1 T =>
      cases T with
      | nil => exact p.elim
      | cons h2 T =>
        cases T with
        | nil => exact ⟨_, _, rfl, p _ H' F' io' (S.perm g.sub) (((g.step S s').set h1 i).set h2 j)⟩
        | cons _ _ => exact p.elim
/-- (a, b, ..) = e -/
def sUnp (is : List Nat) (fe : Sm) : Ss := sThen fe fun t st rh => match toDv t with
  | some (.tup ds) => (match setAll is ds rh with
    | some rh' => .nx rh' st
    | none => .no)
  | _ => .no
theorem unp_of {K : PySem.W.Frag} (hK : K = c.K) {is : List Nat} {fe : Sm} {D : Ends} {σ : St} {H : Hp} (h : denS c W (sUnp is fe) D σ H) : tAsg (den c W fe) (gTup K is.length (gNames is)) D σ H := by
  obtain ⟨B, F, io, st, rh, g, p⟩ := h
  refine then_of g p fun t st1 v H1 F1 io1 S g1 s1 T q => ?_
  cases ht : toDv t with
  | none => simp only [ht] at q; exact q.elim
  | some d =>
    simp only [ht] at q
    cases d with
    | tup ds =>
      simp only at q
      cases hs : setAll is ds rh with
      | none => rw [hs] at q; exact q.elim
      | some rh' =>
        rw [hs] at q
        obtain ⟨F2, S2, s2, r2⟩ := Tvs.give S s1 T ht
        exact tg_tup hK is (g.step S2 s2) r2 hs fun σ' g' _ _ => q σ' H1 F2 io1 (S2.perm g.sub) g'
    | _ => exact q.elim
/-- for tg in ..: body -/
def sLoop (tg : Tg) (body : Ss) : List D → Ss
  | [], rh, st => .nx rh st
  | d :: ds, rh, st => match tgSet tg d rh with
    | none => .no
    | some rh1 => (match body rh1 st with
      | .nx rh2 st2 => sLoop tg body ds rh2 st2
      | .ct rh2 st2 => sLoop tg body ds rh2 st2
      | .bk rh2 st2 => .nx rh2 st2
      | r => r)
def sFor (tg : Tg) (fi : Im) (body : Ss) : Ss := fun rh st => match fi rh st with
  | .ok ds st1 => sLoop tg body ds rh st1
  | .ex x st1 => .ex x rh st1
  | .no => .no
theorem for_of {tg : Tg} {fi : Im} {body : Ss} {g : TG} (hg : TgOk c tg g) {D : Ends} {σ : St} {H : Hp} (h : denS c W (sFor tg fi body) D σ H) : tFor (denI c W (YldP c) fi) g (denS c W body) D σ H := by
  obtain ⟨B, F, io, st, rh, g0, p⟩ := h
  refine ⟨B, F, io, st, rh, g0, ?_⟩
  unfold sFor at p
  cases hr : fi rh st with
  | no => rw [hr] at p; exact p.elim
  | ex x s => rw [hr] at p; exact fun H' F' io' S s' => p σ H' F' io' (g0.step S s')
  | ok ds st1 =>
    rw [hr] at p
    intro J H1 F1 io1 S1 s1 Y
    have g1 := g0.step S1 s1
    refine ⟨fun i m σ' H' => m = ds.length - i ∧ i ≤ ds.length ∧ ∃ (F' : Hp) (io' : List Addr) (st' : Sto) (rh' : Rho), Good c B F' io' st' rh' σ' H' ∧ Per F1 io1 F' io' ∧ Pss c W B F' io' D (sLoop tg body (ds.drop i) rh' st'),
      ⟨ds.length, by simp, Nat.zero_le _, F1, io1, st1, rh, g1, Per.refl, Pss.per (r := sLoop tg body (ds.drop 0) rh st1) (S1.perm g0.sub) p⟩, ?_⟩
    rintro i m σ' H' ⟨rfl, hi, F', io', st', rh', g', P', p'⟩
    have yc := Y F' io' H' st' P' g'.sub g'.sim
    by_cases hlt : i < ds.length
    · have hdrop : ds.drop i = ds[i] :: ds.drop (i + 1) := List.drop_eq_getElem_cons hlt
      obtain ⟨go, yl⟩ := yc.1 i ds[i] (by simp [hlt])
      refine .inr ⟨go, fun σ2 H2 => ∃ (F' : Hp) (io' : List Addr) (st' : Sto) (rh' : Rho), Good c B F' io' st' rh' σ2 H2 ∧ Per F1 io1 F' io' ∧ Pss c W B F' io' D (sLoop tg body (ds.drop (i + 1)) rh' st'), fun σ2 H2 q => ⟨ds.length - (i + 1), by omega, rfl, hlt, q⟩, fun x H2 hy => ?_⟩
      obtain ⟨F2, S2, k2, rx⟩ := yl x H2 hy
      have s2 : Sim c F2 io' st' := g'.sim.step S2 g'.sub rfl k2
      have g2 := g'.step S2 s2
      rw [hdrop] at p'
      unfold sLoop at p'
      cases hts : tgSet tg ds[i] rh' with
      | none => rw [hts] at p'; exact p'.elim
      | some rh2 =>
        rw [hts] at p'
        refine hg g2 rx hts fun σ2 g3 e1 e2 => ⟨B, F2, io', st', rh2, g3, ?_⟩
        have P2 : Per F1 io1 F2 io' := P'.trans (S2.perm g'.sub)
        have p' : Pss c W B F' io' D (match body rh2 st' with
          | .nx rh2 st2 => sLoop tg body (ds.drop (i + 1)) rh2 st2
          | .ct rh2 st2 => sLoop tg body (ds.drop (i + 1)) rh2 st2
          | .bk rh2 st2 => .nx rh2 st2
          | r => r) := p'
        cases hb : body rh2 st' with
        | nx rh3 st3 =>
          rw [hb] at p'
          exact fun σ3 H3 F3 io3 P3 g4 => ⟨F3, io3, st3, rh3, g4, P2.trans P3, Pss.per (r := sLoop tg body (ds.drop (i + 1)) rh3 st3) ((S2.perm g'.sub).trans P3) p'⟩
        | ct rh3 st3 =>
          rw [hb] at p'
          exact fun σ3 H3 F3 io3 P3 g4 => ⟨F3, io3, st3, rh3, g4, P2.trans P3, Pss.per (r := sLoop tg body (ds.drop (i + 1)) rh3 st3) ((S2.perm g'.sub).trans P3) p'⟩
        | bk rh3 st3 =>
          rw [hb] at p'
          exact fun σ3 H3 F3 io3 P3 g4 => p' σ3 H3 F3 io3 ((S2.perm g'.sub).trans P3) g4
        | rt d s => rw [hb] at p'; exact p'
        | ex e rh3 s => rw [hb] at p'; exact p'
        | no => rw [hb] at p'; exact p'
    · have e : i = ds.length := by omega
      subst e
      rw [List.drop_length] at p'
      exact .inl ⟨yc.2, p' σ' H' F' io' Per.refl g'⟩
end
end KL

namespace KL
open PySem L2

/-! ### what a loop walks -/
def iOneP (f : D → Option (List D)) (fa : Sm) : Im := fun rh st => (fa rh st).bind fun t st1 => if notLoc t then oR ((toDv t).bind f) st1 else .no
section
variable {X : Cx} {c : Ct} {W : WX} {tg a b e : Expr} {fa fb : Sm} {pos p : Pos} {B : Bs} {F F1 H H1 : Hp} {io io1 : List Addr} {st st1 : Sto} {rh : Rho} {σ : St} {w : V} {t u : TV} {d d' : D} {ds es : List D}
theorem iOneP_cases {f : D → Option (List D)} {Y : Yl} {Q : It → Hp → Prop} (h : PstI c W F io σ H Y Q (iOneP f fa rh st)) :
    (∃ e s, fa rh st = .ex e s ∧ PstI c W F io σ H Y Q (.ex e s)) ∨ ∃ t st1 d ds, fa rh st = .ok t st1 ∧ toDv t = some d ∧ f d = some ds ∧ PstI c W F io σ H Y Q (.ok ds st1) := by
  unfold iOneP at h
  cases hr : fa rh st with
  | no => rw [hr] at h; exact h.elim
  | ex x s => rw [hr] at h; exact .inl ⟨x, s, rfl, h⟩
  | ok t st1 =>
    rw [hr] at h
    have h : PstI c W F io σ H Y Q (if notLoc t = true then oR ((toDv t).bind f) st1 else .no) := h
    cases hn : notLoc t with
    | false => rw [hn] at h; exact h.elim
    | true =>
      rw [hn, if_pos rfl] at h
      cases hv : toDv t with
      | none => rw [hv] at h; exact h.elim
      | some d =>
        rw [hv] at h
        have h : PstI c W F io σ H Y Q (oR (f d) st1) := h
        cases hf : f d with
        | none => rw [hf] at h; exact h.elim
        | some ds => rw [hf] at h; exact .inr ⟨t, st1, d, ds, rfl, hv, hf, h⟩
theorem pi_seqP (hK : X.K = c.K) (ha : PE X a (den c W fa)) : PI X tg a (denI c W (YldP c) (iOneP itemsD fa)) := by
  refine PI.weak (PI.or (PI.or (pi_tup ha) (pi_list ha)) (pi_str ha)) fun σ H Q ⟨B, F, io, st, rh, g, h⟩ => ?_
  rcases iOneP_cases h with ⟨x, s, hr, h⟩ | ⟨t, st1, d, ds, hr, hv, hf, h⟩
  · exact .inr (den_ex g hr h)
  · have key : ∀ w H' F' io', Stp F io H F' io' H' → Sim c F' io' st1 → Tvs c H F' io' rh σ H' w t → ∃ s : Src, w = s.val ∧ s.at c.K H' ∧ s.of ds d ∧ Q (s.J c.K) H' := by
      intro w H' F' io' S s' T
      obtain ⟨F2, S2, s2, r2⟩ := Tvs.give S s' T hv
      obtain ⟨s, e1, e2, e3⟩ := src_rv r2 hf
      exact ⟨s, e1, (e2 F2 io' H' ⟨Per.refl, S2.sub⟩).1, e3, h _ H' F2 io' S2 s2 fun F3 io3 H3 st3 P hs s3 => Src.yc hs (e2 F3 io3 H3 ⟨P, hs⟩)⟩
    cases d with
    | tup es =>
      refine .inl (.inl ⟨B, F, io, st, rh, g, by rw [hr]; intro w H' F' io' S s' T; obtain ⟨s, e1, e2, e3, q⟩ := key w H' F' io' S s' T; cases s with | tup a vs => exact ⟨a, e1, ⟨vs, by rw [hK]; exact e2⟩, by rw [hK]; exact q⟩ | lst a vs => cases e3 | str z => cases e3⟩)
    | lst es =>
      refine .inl (.inr ⟨B, F, io, st, rh, g, by rw [hr]; intro w H' F' io' S s' T; obtain ⟨s, e1, e2, e3, q⟩ := key w H' F' io' S s' T; cases s with | lst a vs => exact ⟨a, e1, ⟨vs, by rw [hK]; exact e2⟩, by rw [hK]; exact q⟩ | tup a vs => cases e3 | str z => cases e3⟩)
    | str z =>
      refine .inr ⟨B, F, io, st, rh, g, by rw [hr]; intro w H' F' io' S s' T; obtain ⟨s, e1, e2, e3, q⟩ := key w H' F' io' S s' T; cases s with | str z' => exact ⟨z', e1, q⟩ | tup a vs => cases e3 | lst a vs => cases e3⟩
    | _ => cases hf
theorem pi_enmP (hK : X.K = c.K) {elts : List Expr} {k : Nat} {tpos : Pos} (hg : Gl X "enumerate") (hm : X.mg "enumerate" = none) (ha : PE X a (den c W fa)) (hn : notStar a = true) :
    PI X (.Tuple elts k tpos) (.Call (.Name "enumerate" p) [a] [] pos) (denI c W (YldP c) (iOneP enmD fa)) := by
  have A1 : PA X [a] (tCons (den c W fa) tNil) := pa_cons ha pa_nil (star_cons hn)
  refine PI.weak (PI.or (pi_enum hg hm A1 (star_cons hn)) (pi_enumS hg hm A1 (star_cons hn))) fun σ H Q ⟨B, F, io, st, rh, g, h⟩ => ?_
  rcases iOneP_cases h with ⟨x, s, hr, h⟩ | ⟨t, st1, d, ds, hr, hv, hf, h⟩
  · exact .inr (den_ex g hr h)
  · obtain ⟨us, hi, rfl, hd⟩ := enm_items hf
    rcases hd with ⟨z, rfl⟩ | ⟨vs, rfl⟩
    · refine .inr ⟨B, F, io, st, rh, g, ?_⟩
      rw [hr]
      intro w H' F' io' S s' T
      obtain ⟨F2, S2, s2, r2⟩ := Tvs.give S s' T hv
      obtain ⟨s, e1, e2, e3⟩ := src_rv r2 hi
      cases s with
      | str z' => exact ⟨z', congrArg (fun q => [q]) e1, h _ H' F2 io' S2 s2 fun F3 io3 H3 st3 P hs s3 => (enm_of (hs := hs) s3 (e2 F3 io3 H3 ⟨P, hs⟩)).2 _ rfl⟩
      | tup a vs => cases e3
      | lst a vs => cases e3
    · refine .inl ⟨B, F, io, st, rh, g, ?_⟩
      rw [hr]
      intro w H' F' io' S s' T
      obtain ⟨F2, S2, s2, r2⟩ := Tvs.give S s' T hv
      obtain ⟨s, e1, e2, e3⟩ := src_rv r2 hi
      cases s with
      | lst a ws => exact ⟨a, ws, congrArg (fun q => [q]) e1, by rw [hK]; exact (e2 F2 io' H' ⟨Per.refl, S2.sub⟩).1, by rw [hK]; exact h _ H' F2 io' S2 s2 fun F3 io3 H3 st3 P hs s3 => (enm_of (hs := hs) s3 (e2 F3 io3 H3 ⟨P, hs⟩)).1 _ _ rfl⟩
      | tup a vs => cases e3
      | str z => cases e3
end

/-! ### lists that grow -/
section
variable {X : Cx} {c : Ct} {W : WX} {B : Bs} {F F' F1 F2 H H' H1 : Hp} {io io' io1 io2 : List Addr} {st st' st1 : Sto} {rh : Rho} {σ : St} {v : V} {t : TV} {d : D}
/-- the own list of a name has other items -/
theorem Good.chgOwn (g : Good c B F io st rh σ H) {i : Nat} {ds ds' : List D} {a : Addr} {vs' : List V} (hr : rh[i]? = some (some (.own ds))) (hs : σ[i]? = some (some (.ref a))) (r : RvAll c F io vs' ds') :
    Good c B F io st (rh.set i (some (.own ds'))) σ (upd H a (.lst vs')) := by
  obtain ⟨a', vs, e1, e2, e3, e4, _⟩ := g.own i ds hr
  rw [hs] at e1
  cases e1
  have hil : i < rh.length := (List.getElem?_eq_some_iff.mp hr).1
  refine ⟨g.bsub, by rw [List.length_set]; exact g.len, g.stp.chg _ e4 e3, g.sim, fun j e hj => ?_, fun j us hj => ?_, fun j k us ws w hj hk h1 h2 => ?_⟩
  · by_cases z : i = j
    · subst z
      rw [List.getElem?_set_self hil] at hj; cases hj
    · rw [List.getElem?_set_ne z] at hj
      exact g.val j e hj
  · by_cases z : i = j
    · subst z
      rw [List.getElem?_set_self hil] at hj
      cases hj
      exact ⟨a, vs', hs, upd_same, e3, e4, r⟩
    · rw [List.getElem?_set_ne z] at hj
      obtain ⟨b, ws, f1, f2, f3, f4, r'⟩ := g.own j us hj
      have hne : b ≠ a := fun q => by
        subst q
        exact z (g.dis i j ds us _ hr hj hs f1)
      exact ⟨b, ws, f1, by rw [upd_ne hne]; exact f2, f3, f4, r'⟩
  · have back : ∀ {m : Nat} {us : List D}, (rh.set i (some (.own ds')))[m]? = some (some (.own us)) → ∃ us', rh[m]? = some (some (.own us')) := by
      intro m us hm
      by_cases z : i = m
      · subst z; exact ⟨ds, hr⟩
      · rw [List.getElem?_set_ne z] at hm; exact ⟨us, hm⟩
    obtain ⟨us', hj'⟩ := back hj
    obtain ⟨ws', hk'⟩ := back hk
    exact g.dis j k us' ws' w hj' hk' h1 h2
/-- an object of the store is another one -/
theorem Per.upd {a : Addr} {o : HO} (h : a ∈ io) : Per F io (upd F a o) io := ⟨⟨[], by simp⟩, fun b u e n => by rw [upd_ne (fun z => by subst z; exact n h)]; exact e, fun _ _ _ n => n⟩
theorem RvF.perm (S : Per F io F' io') : ∀ {vs : List (Str × V)} {ds : List (Str × D)}, RvF c F io vs ds → RvF c F' io' vs ds
  | _, _, .nil => .nil
  | _, _, .cons h r => .cons (h.perm S) (RvF.perm S r)
theorem Good.setObj (g : Good c B F io st rh σ H) {n : Nat} {a : Addr} {ho : HO} {o' : O} (hn : io[n]? = some a) (ho' : Ob c (upd F a ho) io a o') : Good c B (upd F a ho) io (st.set n o') rh σ (upd H a ho) := by
  have ha : a ∈ io := List.mem_of_getElem? hn
  have fa : F a ≠ none := g.sim.dom ha
  have P : Per F io (upd F a ho) io := Per.upd ha
  have hnl : n < io.length := (List.getElem?_eq_some_iff.mp hn).1
  have far : ∀ b o, B.H b = some o → b ∉ B.io → b ≠ a := fun b o e n z => by
    subst z
    rcases g.stp.nio b ha with q | q
    · exact n q
    · rw [e] at q; cases q
  refine ⟨g.bsub, g.len, ⟨fun b u e => ?_, g.stp.ext, fun b u e nb => ?_, fun b e => ?_, fun b u e nb => ?_, fun b e => ?_, g.stp.nio⟩, ⟨by rw [List.length_set]; exact g.sim.len, g.sim.nd, fun m b o e1 e2 => ?_⟩, fun i d e => ?_, fun i ds e => ?_, g.dis⟩
  · by_cases z : b = a
    · subst z; rw [upd_same] at e ⊢; exact e
    · rw [upd_ne z] at e ⊢; exact g.sub b u e
  · rw [upd_ne (far b u (g.bsub b u e) nb)]; exact g.stp.per b u e nb
  · by_cases z : b = a
    · subst z; exact g.stp.new b fa
    · rw [upd_ne z] at e; exact g.stp.new b e
  · rw [upd_ne (far b u e nb)]; exact g.stp.fr b u e nb
  · by_cases z : b = a
    · subst z; rw [upd_same] at e; cases e
    · rw [upd_ne z] at e; exact g.stp.gro b e
  · by_cases z : n = m
    · subst z
      rw [hn] at e1
      cases e1
      rw [List.getElem?_set_self (by rw [← g.sim.len]; exact hnl)] at e2
      cases e2
      exact ho'
    · rw [List.getElem?_set_ne z] at e2
      have q := g.sim.ob m b o e1 e2
      have hb : b ≠ a := fun y => by
        subst y
        have i1 := List.getElem?_eq_some_iff.mp hn
        have i2 := List.getElem?_eq_some_iff.mp e1
        exact z ((List.getElem_inj g.sim.nd).mp (i1.2.trans i2.2.symm))
      cases o with
      | lst ds => obtain ⟨vs, e, r⟩ := q; exact ⟨vs, by rw [upd_ne hb]; exact e, r.perm P⟩
      | dct kvs => obtain ⟨vs, e, r⟩ := q; exact ⟨vs, by rw [upd_ne hb]; exact e, r.perm P⟩
      | ins C fs => obtain ⟨dx, vs, e, e3, e4, r⟩ := q; exact ⟨dx, vs, by rw [upd_ne hb]; exact e, P.per _ _ e3 e4, e4, r.perm P⟩
  · obtain ⟨v, e1, r⟩ := g.val i d e
    exact ⟨v, e1, r.perm P⟩
  · obtain ⟨b, vs, e1, e2, e3, e4, r⟩ := g.own i ds e
    have hb : b ≠ a := fun z => by subst z; exact fa e3
    exact ⟨b, vs, e1, by rw [upd_ne hb]; exact e2, by rw [upd_ne hb]; exact e3, e4, r.perm P⟩
end
/-- the list that a name alone holds, or a list of the store, gets other items -/
def updL (t : TV) (f : List D → Option (List D)) (st : Sto) (rh : Rho) : RS := match t with
  | .o i => (match rh[i]? with
    | some (some (.own ds)) => (match f ds with
      | some ds' => .nx (rh.set i (some (.own ds'))) st
      | none => .no)
    | _ => .no)
  | .d (.loc n) => (match st[n]? with
    | some (.lst ds) => (match f ds with
      | some ds' => .nx rh (st.set n (.lst ds'))
      | none => .no)
    | _ => .no)
  | _ => .no
section
variable {X : Cx} {c : Ct} {W : WX} {B : Bs} {F F' F1 F2 H H' H1 : Hp} {io io' io1 io2 : List Addr} {st st' st1 : Sto} {rh : Rho} {σ : St} {v : V} {t : TV} {d : D}
theorem updL_of {f : List D → Option (List D)} {D : Ends} (g : Good c B F io st rh σ H) (T : Tvr c F io rh σ H v t) (h : Pss c W B F io D (updL t f st rh)) :
    ∃ a vs ds ds', v = .ref a ∧ H a = some (.lst vs) ∧ RvAll c F io vs ds ∧ f ds = some ds' ∧ ∀ vs', RvAll c F io vs' ds' → D.nx σ (upd H a (.lst vs')) := by
  cases t with
  | o i =>
    obtain ⟨⟨ds, e1⟩, e2⟩ := T
    simp only [updL, e1] at h
    obtain ⟨a, vs, e3, e4, e5, e6, r⟩ := g.own i ds e1
    rw [e2] at e3
    cases e3
    cases hf : f ds with
    | none => rw [hf] at h; exact h.elim
    | some ds' =>
      rw [hf] at h
      exact ⟨a, vs, ds, ds', rfl, e4, r, hf, fun vs' r' => h σ _ F io Per.refl (g.chgOwn e1 e2 r')⟩
  | d d =>
    cases d with
    | loc n =>
      cases T with
      | loc hn =>
        rename_i a
        simp only [updL] at h
        cases q : st[n]? with
        | none => rw [q] at h; exact h.elim
        | some o =>
          rw [q] at h
          cases o with
          | lst ds =>
            simp only at h
            cases hf : f ds with
            | none => rw [hf] at h; exact h.elim
            | some ds' =>
              rw [hf] at h
              obtain ⟨vs, e1, r⟩ := g.sim.ob n a _ hn q
              have ha : a ∈ io := List.mem_of_getElem? hn
              exact ⟨a, vs, ds, ds', rfl, g.sub _ _ e1, r, hf, fun vs' r' => h σ _ (upd F a (.lst vs')) io (Per.upd ha) (g.setObj hn ⟨vs', upd_same, r'.perm (Per.upd ha)⟩)⟩
          | dct kvs => exact h.elim
          | ins C fs => exact h.elim
    | _ => exact h.elim
  | fr ds => exact h.elim
/-- o.append(e); o.extend(e) -/
def isL (rh : Rho) (st : Sto) (t : TV) : Bool := match view rh st t with
  | some (.lst _) => true
  | _ => false
theorem isL_some {t : TV} (h : isL rh st t = true) : ∃ ds, view rh st t = some (.lst ds) := by
  unfold isL at h
  cases q : view rh st t with
  | none => rw [q] at h; cases h
  | some d =>
    rw [q] at h
    cases d with
    | lst ds => exact ⟨ds, rfl⟩
    | _ => cases h
def appD (d : D) (ds : List D) : Option (List D) := if ds.length < sizeLine then some (ds ++ [d]) else none
def extD (es ds : List D) : Option (List D) := if ds.length + es.length ≤ sizeLine then some (ds ++ es) else none
def sApp (fo fe : Sm) : Ss := sThen fo fun t st1 rh => if isL rh st1 t then sThen fe (fun u st2 rh => match toDv u with
  | some d => updL t (appD d) st2 rh
  | none => .no) rh st1 else .no
def sExt (fo fe : Sm) : Ss := sThen fo fun t st1 rh => if isL rh st1 t then sThen fe (fun u st2 rh => match view rh st2 u with
  | some (.lst es) => updL t (extD es) st2 rh
  | _ => .no) rh st1 else .no
theorem tyV_list {K : PySem.W.Frag} {a : Addr} {vs : List V} (h : H a = some (.lst vs)) : tyV K "list" (.ref a) H := .inl ⟨rfl, _, SqL.of h⟩
theorem app_of {K : PySem.W.Frag} {fo fe : Sm} {D : Ends} {σ : St} {H : Hp} (h : denS c W (sApp fo fe) D σ H) : tDrop (tBM K "list" rAppend (den c W fo) (tCons (den c W fe) tNil)) D σ H := by
  obtain ⟨B, F, io, st, rh, g, p⟩ := h
  refine then_of g p fun t st1 v H1 F1 io1 S1 g1 s1 T1 q1 => ?_
  split at q1
  case isFalse => exact q1.elim
  rename_i hl
  obtain ⟨us, hv⟩ := isL_some hl
  obtain ⟨a0, vs0, e0, h0, _⟩ := view_ok g1 (T1.r s1) hv
  refine ⟨by rw [e0]; exact tyV_list h0, ?_⟩
  have q1 := Pss.per (S1.perm g.sub) q1
  refine then_of g1 q1 fun u st2 w H2 F2 io2 S2 g2 s2 T2 q2 => ?_
  cases hu : toDv u with
  | none => simp only [hu] at q2; exact q2.elim
  | some d =>
    simp only [hu] at q2
    obtain ⟨F3, S3, s3, r3⟩ := Tvs.give S2 s2 T2 hu
    have g3 := g1.step S3 s3
    obtain ⟨a, vs, ds, ds', e1, e2, r, hf, k⟩ := updL_of g3 ((T1.r s1).step S3 g1.sub) (Pss.per (S3.perm g1.sub) q2)
    unfold appD at hf
    split at hf
    · rename_i hz
      cases hf
      exact ⟨a, vs, w, e1, rfl, e2, by rw [r.length]; exact hz, k _ (r.append (.cons r3 .nil))⟩
    · cases hf
theorem ext_of {K : PySem.W.Frag} {fo fe : Sm} {D : Ends} {σ : St} {H : Hp} (h : denS c W (sExt fo fe) D σ H) : tDrop (tBM K "list" rExtend (den c W fo) (tCons (den c W fe) tNil)) D σ H := by
  obtain ⟨B, F, io, st, rh, g, p⟩ := h
  refine then_of g p fun t st1 v H1 F1 io1 S1 g1 s1 T1 q1 => ?_
  split at q1
  case isFalse => exact q1.elim
  rename_i hl
  obtain ⟨us, hv⟩ := isL_some hl
  obtain ⟨a0, vs0, e0, h0, _⟩ := view_ok g1 (T1.r s1) hv
  refine ⟨by rw [e0]; exact tyV_list h0, ?_⟩
  have q1 := Pss.per (S1.perm g.sub) q1
  refine then_of g1 q1 fun u st2 w H2 F2 io2 S2 g2 s2 T2 q2 => ?_
  cases hu : view rh st2 u with
  | none => simp only [hu] at q2; exact q2.elim
  | some d =>
    simp only [hu] at q2
    cases d with
    | lst es =>
      simp only at q2
      obtain ⟨b, zs, rfl, hb, rb⟩ := view_ok g2 (T2.r s2) hu
      obtain ⟨a, vs, ds, ds', e1, e2, r, hf, k⟩ := updL_of g2 ((T1.r s1).step S2 g1.sub) (Pss.per (S2.perm g1.sub) q2)
      unfold extD at hf
      split at hf
      · rename_i hz
        cases hf
        exact ⟨a, b, vs, zs, e1, rfl, e2, hb, by rw [r.length, rb.length]; exact hz, k _ (r.append rb)⟩
      · cases hf
    | _ => exact q2.elim
def plainBase : Expr → Bool
  | .Call (.Name _ _) [] [] _ => false
  | _ => true
theorem plainBase_ok {o : Expr} {m : Str} {env : Env} (h : plainBase o = true) : attributeBase o m env (eval o env) = eval o env := by
  unfold attributeBase
  split
  · cases h
  · rfl
theorem few1 {e : Expr} {env : Env} {cpos : Pos} (h : notStar e = true) : ((backTo cpos (starEach [e] env)).all (fun x => !x.1) && (backToKw cpos (keywordEach [] env)).all (fun x => x.1.isSome)
      && decide ([e].length + ([] : List Keyword).length + (if ([] : List Keyword).isEmpty then 0 else 1) < 30)) = true := by
  rw [star_cons h]
  rfl
theorem ps_den_app {o e : Expr} {fo fe : Sm} {apos cpos pos : Pos} (ho : PE X o (den c W fo)) (he : PE X e (den c W fe)) (hb : plainBase o = true) (hn : notStar e = true) (hl : (apos.endLine == cpos.line) = true) :
    PS X (.Expr (.Call (.Attribute o "append" apos) [e] [] cpos) pos) (denS c W (sApp fo fe)) :=
  PS.weak (ps_expr (pe_bm PySem.F.plainAttrs_list PySem.F.slot_list_append PySem.F.type_list_append mt_append ho (pa_cons he pa_nil (star_cons hn)) (plainBase_ok hb) (few1 hn) hl (star_cons hn) rfl)) fun D σ H h => app_of h
theorem ps_den_ext {o e : Expr} {fo fe : Sm} {apos cpos pos : Pos} (ho : PE X o (den c W fo)) (he : PE X e (den c W fe)) (hb : plainBase o = true) (hn : notStar e = true) (hl : (apos.endLine == cpos.line) = true) :
    PS X (.Expr (.Call (.Attribute o "extend" apos) [e] [] cpos) pos) (denS c W (sExt fo fe)) :=
  PS.weak (ps_expr (pe_bm PySem.F.plainAttrs_list PySem.F.slot_list_extend PySem.F.type_list_extend mt_extend ho (pa_cons he pa_nil (star_cons hn)) (plainBase_ok hb) (few1 hn) hl (star_cons hn) rfl)) fun D σ H h => ext_of h
end
end KL

namespace KL
open PySem L2

/-! ### a def's end: what it made and nobody holds is let go -/
mutual
def below (n : Nat) : D → Bool
  | .tup ds => belows n ds
  | .lst ds => belows n ds
  | .loc k => decide (k < n)
  | _ => true
def belows (n : Nat) : List D → Bool
  | [] => true
  | d :: ds => below n d && belows n ds
end
def belowF (n : Nat) : List (Str × D) → Bool
  | [] => true
  | p :: ps => below n p.2 && belowF n ps
def belowO (n : Nat) : O → Bool
  | .lst ds => belows n ds
  | .dct kvs => belowF n kvs
  | .ins _ fs => belowF n fs
def cut (n : Nat) (d : D) (st : Sto) : Sto := if st.length ≤ n then st else if below n d && (st.take n).all (belowO n) then st.take n else st
def fin (n : Nat) : RS → R D
  | .nx _ st => .ok .non (cut n .non st)
  | .rt d st => .ok d (cut n d st)
  | .ex e _ st => .ex e (cut n .non st)
  | _ => .no
def rho0 (m : Nat) (ds : List D) : Rho := ds.map (fun d => some (.val d)) ++ List.replicate (m - ds.length) none
/-- a def's function on data: m places, its body f -/
def fnR (m : Nat) (f : Ss) (ds : List D) (st : Sto) : R D := fin st.length (f (rho0 m ds) st)
section
variable {c : Ct} {F F' H H' : Hp} {io io' : List Addr} {st st' : Sto}
mutual
theorem Rv.cut {n : Nat} : ∀ {v : V} {d : D}, Rv c F io v d → below n d = true → Rv c F (io.take n) v d
  | _, _, .non, _ => .non
  | _, _, .bl b, _ => .bl b
  | _, _, .int b, _ => .int b
  | _, _, .str b, _ => .str b
  | _, _, .tup h r, e => .tup (h.imp (fun h => ⟨h.1, fun z => h.2 (List.mem_of_mem_take z)⟩) id) (RvAll.cutB r (by simpa [below] using e))
  | _, _, .lst h n r, e => .lst h (fun z => n (List.mem_of_mem_take z)) (RvAll.cutB r (by simpa [below] using e))
  | _, _, .loc (n := k) h, e => .loc (by
    have this : k < n := by simpa [below] using e
    rw [List.getElem?_take, if_pos this]; exact h)
  | _, _, .scr h, _ => .scr (h.imp (fun h => ⟨h.1, fun z => h.2 (List.mem_of_mem_take z)⟩) id)
theorem RvAll.cutB {n : Nat} : ∀ {vs : List V} {ds : List D}, RvAll c F io vs ds → belows n ds = true → RvAll c F (io.take n) vs ds
  | _, _, .nil, _ => .nil
  | _, _, .cons h r, e => by
    simp only [belows, Bool.and_eq_true] at e
    exact .cons (Rv.cut h e.1) (RvAll.cutB r e.2)
end
theorem RvF.cut {n : Nat} : ∀ {vs : List (Str × V)} {ds : List (Str × D)}, RvF c F io vs ds → belowF n ds = true → RvF c F (io.take n) vs ds
  | _, _, .nil, _ => .nil
  | _, _, .cons h r, e => by
    simp only [belowF, Bool.and_eq_true] at e
    exact .cons (Rv.cut h e.1) (RvF.cut r e.2)
theorem Sim.cut {n : Nat} (s : Sim c F io st) (h : (st.take n).all (belowO n) = true) : Sim c F (io.take n) (st.take n) := by
  refine ⟨by rw [List.length_take, List.length_take, s.len], s.nd.sublist (List.take_sublist ..), fun m a o e1 e2 => ?_⟩
  rw [List.getElem?_take] at e1
  have hm : m < n := by
    by_cases z : m < n
    · exact z
    · rw [if_neg z] at e1; cases e1
  rw [if_pos hm] at e1
  have hb : belowO n o = true := List.all_eq_true.mp h o (List.mem_of_getElem? e2)
  rw [List.getElem?_take, if_pos hm] at e2
  have q := s.ob m a o e1 e2
  cases o with
  | lst ds => obtain ⟨vs, e, r⟩ := q; exact ⟨vs, e, r.cutB hb⟩
  | dct kvs => obtain ⟨vs, e, r⟩ := q; exact ⟨vs, e, r.cut hb⟩
  | ins C fs => obtain ⟨dx, vs, e, e3, e4, r⟩ := q; exact ⟨dx, vs, e, e3, fun z => e4 (List.mem_of_mem_take z), r.cut hb⟩
/-- what a def's end leaves is a state of the caller -/
theorem cut_ok {v : V} {d : D} (S : Stp F io H F' io' H') (s : Sim c F' io' st') (hl : io.length = n) (r : Rv c F' io' v d) : ∃ io'', Stp F io H F' io'' H' ∧ Sim c F' io'' (cut n d st') ∧ Rv c F' io'' v d := by
  unfold cut
  split
  · exact ⟨io', S, s, r⟩
  · split
    · rename_i h1 h2
      rw [Bool.and_eq_true] at h2
      have e : io'.take n = io := by
        obtain ⟨m, e⟩ := S.ext
        rw [e, ← hl, List.take_left']
        rfl
      refine ⟨io'.take n, ⟨S.sub, ⟨[], by rw [e]; simp⟩, S.per, S.new, S.fr, S.gro, fun a ha => S.nio a (List.mem_of_mem_take ha)⟩, s.cut h2.2, r.cut h2.1⟩
    · exact ⟨io', S, s, r⟩
end

/-! ### a def keeps its promise -/
section
variable {P : Program} {w : World} {mg : Str → Option Value} {base : Heap} {x qual : Str} {params : Arguments} {body : List Stmt} {scope : Scope} {f : Addr} {fd : FuncData} {c : Ct}
theorem good0 {F H : Hp} {io : List Addr} {st : Sto} {vs : List V} {ds : List D} (hs : ∀ a o, F a = some o → H a = some o) (s : Sim c F io st) (r : RvAll c F io vs ds) (N : List Str) : Good c ⟨F, io, H⟩ F io st (rho0 N.length ds) (L2.start N vs) H := by
  refine ⟨hs, ?_, Stp.refl hs, s, fun i d e => ?_, fun i us e => ?_, fun i j us ws v e => ?_⟩
  · unfold rho0 L2.start
    rw [List.length_append, List.length_append, List.length_map, List.length_map, List.length_replicate, List.length_replicate, r.length]
  · unfold rho0 at e
    by_cases hi : i < ds.length
    · rw [List.getElem?_append_left (by simpa using hi), List.getElem?_map, Option.map_eq_some_iff] at e
      obtain ⟨d', e1, e2⟩ := e
      cases e2
      obtain ⟨v, e3, q⟩ := r.get e1
      refine ⟨v, ?_, q⟩
      unfold L2.start
      rw [List.getElem?_append_left (by rw [List.length_map, r.length]; exact hi), List.getElem?_map, e3]
      rfl
    · rw [List.getElem?_append_right (by simpa using hi)] at e
      rw [List.getElem?_replicate] at e
      split at e <;> cases e
  · exfalso
    unfold rho0 at e
    by_cases hi : i < ds.length
    · rw [List.getElem?_append_left (by simpa using hi), List.getElem?_map, Option.map_eq_some_iff] at e
      obtain ⟨d', e1, e2⟩ := e
      cases e2
    · rw [List.getElem?_append_right (by simpa using hi)] at e
      rw [List.getElem?_replicate] at e
      split at e <;> cases e
  · exfalso
    unfold rho0 at e
    by_cases hi : i < ds.length
    · rw [List.getElem?_append_left (by simpa using hi), List.getElem?_map, Option.map_eq_some_iff] at e
      obtain ⟨d', e1, e2⟩ := e
      cases e2
    · rw [List.getElem?_append_right (by simpa using hi)] at e
      rw [List.getElem?_replicate] at e
      split at e <;> cases e
/-- the context of a def's body -/
structure Bdy (X : Cx) (P : Program) (w : World) (c : Ct) (mg : Str → Option Value) (base : Heap) (N : List Str) (scope : Scope) (k : Nat) (W : WX) : Prop where
  prog : X.prog = P
  w : X.w = w
  mg : X.mg = mg
  base : X.base = base
  N : X.N = N
  sc : X.env.scope = scope
  ok : Cok X c W
  room : Room k X.A
  po : PassesOwn (model X.prog X.w) X.A X.env X.xe
  fn : ∀ x, X.fn x = true
  stk : X.stack = X.env :: X.outer
  frm : X.env.frame = some X.env.locals
theorem fn_den {N ps : List Str} {k : Nat} {fs : Ss} (Fn : FunD c.K x qual params body scope [] [] f fd) (S : FnScope N ps scope) (hB : ∀ (X : Cx) (W : WX), Bdy X P w c mg base N scope k W → PSs X body (denS c W fs)) :
    FnOk P w c.K mg base (L2.CX P w) (k + 1) f fd ps (spM c ps.length (fnR N.length fs)) := by
  refine Fn.ok S (fun vs H Q E h => h.1) fun cdv A outer s H vs Q E hr h => ?_
  obtain ⟨hl, F, io, st, ds, hs, sm, r, p⟩ := h
  refine ⟨denS c (fun cls d _ H => E cls d H) fs, hB _ _ ⟨rfl, rfl, rfl, rfl, rfl, rfl, ⟨rfl, S.nd, rfl, hr.units, takes_of rfl rfl rfl rfl⟩, hr, passes_of rfl, fun _ => rfl, rfl, rfl⟩, ?_⟩
  refine ⟨⟨F, io, H⟩, F, io, st, rho0 N.length ds, good0 hs sm r N, ?_⟩
  unfold fnR at p
  cases hb : fs (rho0 N.length ds) st with
  | nx rh st' =>
    rw [hb] at p
    intro σ' H' F' io' P' g'
    obtain ⟨io2, S2, s2, r2⟩ := cut_ok (v := .non) (d := .non) g'.stp g'.sim sm.len .non
    exact p .non H' F' io2 S2 s2 r2
  | rt d st' =>
    rw [hb] at p
    intro v H' F' io' S' s' r'
    obtain ⟨io2, S2, s2, r2⟩ := cut_ok S' s' sm.len r'
    exact p v H' F' io2 S2 s2 r2
  | bk rh st' => rw [hb] at p; exact p.elim
  | ct rh st' => rw [hb] at p; exact p.elim
  | ex e rh st' =>
    rw [hb] at p
    intro σ' H' F' io' g'
    obtain ⟨io2, S2, s2, r2⟩ := cut_ok (v := .non) (d := .non) g'.stp g'.sim sm.len .non
    exact p H' F' io2 S2 s2
  | no => rw [hb] at p; exact p.elim
end
end KL

namespace KLow
open PySem PySem.Spec PyProof.Rows HT

/-! ### t[::-1] of a tuple -/
theorem fm_congr {α β : Type} {f g : α → Option β} : ∀ {l : List α}, (∀ x ∈ l, f x = g x) → l.filterMap f = l.filterMap g
  | [], _ => rfl
  | a :: l, h => by rw [List.filterMap_cons, List.filterMap_cons, h a (by simp), fm_congr fun x hx => h x (by simp [hx])]
theorem pick_rev (xs : Array Value) : ((List.range xs.size).filterMap fun (k : Nat) => xs[(((xs.size : Int) - 1) + (k : Int) * (-1)).toNat]?) = xs.toList.reverse := by
  have e : (fun (k : Nat) => xs[(((xs.size : Int) - 1) + (k : Int) * (-1)).toNat]?) = fun k => xs[xs.size - 1 - k]? := by
    funext k
    have : (((xs.size : Int) - 1) + (k : Int) * (-1)).toNat = xs.size - 1 - k := by omega
    rw [this]
  rw [e]
  have h2 : (List.range xs.size).filterMap (fun k => xs[xs.size - 1 - k]?) = ((List.range xs.size).reverse).filterMap (fun k => xs[k]?) := by
    rw [List.range_eq_range', List.reverse_range', List.filterMap_map, ← List.range_eq_range']
    apply fm_congr
    intro k hk
    simp only [Function.comp]
    congr 1
    omega
  rw [h2, List.filterMap_reverse, PySem.W.krv_all]
section
variable {prog : Program} {w : World} {A : Around} {E : Value → Shared → Prop} {s : Shared}
theorem rev_applied {sl : Addr} {n : Nat} {vl vu vs : Value} {Q : Int × Int × Nat → Shared → Prop} (hs : s.heap.IsSliceOf sl vl vu vs) (pl : IsPart vl none) (pu : IsPart vu none) (ps : IsPart vs (some (-1)))
    (h : Q (((n : Int) - 1), -1, n) s) : wpAny (model prog w) A (Builtin.Slice.sliceApplied (.ref sl) (pure (n : Int))) Q E s := by
  obtain ⟨os, hos, hcs, hds⟩ := id hs
  unfold Builtin.Slice.sliceApplied Builtin.Slice.sliceFields
  refine wpAny_bind (wpAny_bind (wpAny_field hos hds (x := vl) rfl (wpAny_bind (wpAny_field hos hds (x := vu) rfl (wpAny_bind (wpAny_field hos hds (x := vs) rfl (wpAny_pure ?_)))))))
  refine wpAny_bind (slicePart_ ps ?_)
  show wpAny _ _ (if ((-1 : Int) == 0) = true then _ else _) _ _ s
  rw [if_neg (by decide)]
  refine wpAny_bind (slicePart_ pl (wpAny_bind (slicePart_ pu (wpAny_bind (wpAny_pure ?_)))))
  show wpAny _ _ (pure ((n : Int) - 1, (-1 : Int), Builtin.Slice.slicePlaces ((n : Int) - 1) (-1) (-1))) _ _ s
  have e : Builtin.Slice.slicePlaces ((n : Int) - 1) (-1) (-1) = n := by
    unfold Builtin.Slice.slicePlaces
    rw [if_neg (by decide)]
    split
    · simp
    · omega
  rw [e]
  exact wpAny_pure h
theorem getItem_tuple_rev {t sl : Addr} {items : Array Value} {vl vu vs : Value} {Q : Value → Shared → Prop} (ht : IsTup s.heap t items) (hs : s.heap.IsSliceOf sl vl vu vs) (pl : IsPart vl none) (pu : IsPart vu none) (ps : IsPart vs (some (-1)))
    (h : Q (.ref s.heap.objs.size) { s with heap := s.heap.push { cls := .type "tuple", data := .seq items.toList.reverse.toArray } })
    (hsz : items.size ≤ sizeLine) : wpAny (model prog w) A (getItem (.ref t) (.ref sl)) Q E s := by
  have htake : sizeOk (.seq items.toList.reverse.toArray) := by
    show items.toList.reverse.toArray.size ≤ sizeLine
    simpa using hsz
  obtain ⟨os, hos, hcs, hds⟩ := id hs
  have hTs : s.TypeIs (.ref sl) "slice" := ⟨os, hos, hcs⟩
  unfold getItem
  try with_reducible refine wpAny_holding ?_
  first | refine wpAny_bind (wpAny_pure ?_) | skip
  refine wpAny_bind (wpAny_sequenceKey ht.typeIs (by decide) ?_)
  refine wpAny_bind (wpAny_callSpecial?_slot (name := Str.ofString "__getitem__") ht.typeIs PyProof.Rows.slot_tuple_getitem
    (wpAny_call_entry PyProof.Rows.slot_tuple_getitem ht.typeIs entry_tuple_getitem ?_ (args_tuple_getitem _ _)))
  show wpAny _ _ (Builtin.Tuple.tupleItemsOf (.ref t) >>= _) _ _ s
  refine wpAny_bind (tupleItemsOf_ ht ?_)
  refine wpAny_bind (wpAny_typeOf hTs ?_)
  rw [if_pos (by decide)]
  refine wpAny_bind (rev_applied hs pl pu ps ?_)
  have hno : ¬ ((((items.size : Int) - 1 == 0) && (-1 : Int) == 1 && items.size == items.size) = true) := by
    intro q
    rw [Bool.and_eq_true, Bool.and_eq_true] at q
    exact absurd q.1.2 (by decide)
  show wpAny _ _ (if (((items.size : Int) - 1 == 0) && (-1 : Int) == 1 && items.size == items.size) = true then _ else _) _ _ s
  rw [if_neg hno, pick_rev]
  first
    | exact wpAny_bind (m := Builtin.Tuple.tupleExact _) (wpAny_newObj_type (wpAny_pure ⟨_, rfl, wpAny_pure h⟩) htake)
    | exact wpAny_bind (m := Builtin.Tuple.tupleExact _) (wpAny_newObj_type (wpAny_bind (wpAny_pure (wpAny_pure ⟨_, rfl, wpAny_pure h⟩))) htake)
    | exact wpAny_bind (wpAny_bind (m := Builtin.Tuple.tupleExact _) (wpAny_newObj_type (wpAny_pure (wpAny_pure ⟨_, rfl, wpAny_pure h⟩)) htake))
    | exact wpAny_bind (wpAny_bind (m := Builtin.Tuple.tupleExact _) (wpAny_newObj_type (wpAny_pure ⟨_, rfl, wpAny_pure h⟩) htake))
end
end KLow
namespace L2
open PySem PySem.Spec PyProof.Rows
variable {X : Cx}
def tRevT (K : PySem.W.Frag) (te : TE) : TE := fun σ H Q => te σ H fun x H1 => ∃ a xs, x = .ref a ∧ SqT K H1 a xs ∧ ∀ p, H1 p = none → Q (.ref p) (upd H1 p (.tup xs.reverse))
theorem pe_revT {e : Expr} {te : TE} {k : Nat} {p1 p2 p3 pos : Pos} (he : PE X e te) : PE X (.Subscript e (.Slice none none (some (.UnaryOp .USub (.Constant (.int 1) k p1) p2)) p3) pos) (tRevT X.K te) := by
  refine ⟨fun pins s σ H Q I h => ?_⟩
  refine Subscript_ (thn (he.run pins s σ H _ I h) fun v s1 ⟨x, H1, I1, r1, q1⟩ => ?_)
  obtain ⟨a, xs, ex, hx, q⟩ := q1
  subst ex
  cases r1
  have hst : PO X (some (.UnaryOp .USub (.Constant (.int 1) k p1) p2)) (tPart (tUn (rU fun i => .int (-i)) (tC (.int 1)))) := po_some (pe_un un_neg pe_int)
  refine wpAny_Slice (thn (po_none.run pins s1 σ H1 (fun o H2 => o = none ∧ H2 = H1) I1 ⟨rfl, rfl⟩) fun vl s2 ⟨l, H2, I2, pl, el, e2⟩ => ?_)
  subst el e2
  refine thn (po_none.run pins s2 σ H2 (fun o H3 => o = none ∧ H3 = H2) I2 ⟨rfl, rfl⟩) fun vu s3 ⟨u, H3, I3, pu, eu, e3⟩ => ?_
  subst eu e3
  refine thn (hst.run pins s3 σ H3 (fun o H4 => o = some (-1) ∧ H4 = H3) I3 ⟨1, rfl, -1, rfl, rfl, rfl⟩) fun vs s4 ⟨o, H4, I4, ps, eo, e4⟩ => ?_
  subst eo e4
  have I5 : Inv X pins σ H4 { s4 with heap := s4.heap.push { cls := .type "slice", data := .fields #[vl, vu, vs] } } := I4.kept (t' := s4.toks) fun b ob q => Heap.get?_push_of_some _ q
  obtain ⟨its, r, ht, hz⟩ := I5.tuple hx
  have hlen := r.length
  show wpAny (model X.prog X.w) X.A (subscriptTail e (.Slice none none (some (.UnaryOp .USub (.Constant (.int 1) k p1) p2)) p3) (.ref a) (.ref s4.heap.objs.size)) (EP X pins σ Q) X.xe { s4 with heap := s4.heap.push { cls := .type "slice", data := .fields #[vl, vu, vs] } }
  refine tail_any (ops := [.ref a, .ref s4.heap.objs.size]) ht.typeIs (PyProof.Rows.slot_tuple_getitem.lookup) ?_ (by with_unfolding_all rfl)
  refine KLow.getItem_tuple_rev ht (Heap.IsSliceOf.new _ vl vu vs) pl pu ps ?_ (by rw [List.size_toArray]; omega)
  refine ⟨.ref _, _, I5.laid (t' := s4.toks) (o := .tup xs.reverse) (fun b ob q => Heap.get?_push_of_some _ q) (Nat.le_refl _) ?_, rfl, q _ (I5.hok.fresh (Nat.le_refl _))⟩
  exact ⟨by rw [List.length_reverse]; exact hz, _, r.reverse, IsTup.new _ _⟩
end L2

namespace KU
open PySem PySem.Spec PyProof.Rows L2

/-! ### sets of texts -/
def keyS (e : Int × Value) : Str := match e.2 with
  | .str k _ => k
  | _ => Str.empty
def GoodS (w : World) (e : Int × Value) : Prop := ∃ k tk, e.2 = Value.str k tk ∧ e.1 = hashStr w k
/-- the set of texts at a: ks its members -/
structure SetD (w : World) (es : Array (Int × Value)) (t : SetTable) (ks : List Str) : Prop where
  good : ∀ e ∈ es.toList, GoodS w e
  per : (es.toList.map keyS).Perm ks
  nd : ks.Nodup
  few : es.size < scanBound
  fits : t.fits es.size = true
  ris : Ris t.place.toList
  led : w.params.followText "set-order" = true ∨ t.led = true
def SetS (w : World) (h : Heap) (a : Addr) (ks : List Str) : Prop := ∃ o es ep t, h.get? a = some o ∧ o.ExactSet ∧ o.data = .set es ep t ∧ SetD w es t ks
def insS (ks : List Str) (k : Str) : List Str := if k ∈ ks then ks else k :: ks
abbrev freshO (w : World) : Obj := { cls := .type "set", dict := none, data := .set #[] 0 (.fresh 0 0 (!w.params.followText "set-order")) }
section
variable {P : Program} {w : World} {h h' : Heap} {a : Addr} {ks : List Str}
theorem SetS.at (R : SetS w h a ks) (k : ∀ o, h.get? a = some o → h'.get? a = some o) : SetS w h' a ks := by
  obtain ⟨o, es, ep, t, ho, r⟩ := R
  exact ⟨o, es, ep, t, k o ho, r⟩
theorem SetD.elems {es : Array (Int × Value)} {t : SetTable} (F : SetD w es t ks) : ElemsOf (strKind P w) es.toList := fun e he => by
  obtain ⟨k, tk, h1, h2⟩ := F.good e he
  exact ⟨⟨k, by rw [h1]; exact strKind_is P w k tk, h2⟩, by rw [h1]; rfl⟩
theorem good_key {e : Int × Value} (g : GoodS w e) (k : Str) : (strKind P w).is k e.2 = true ↔ keyS e = k := by
  obtain ⟨k0, tk, h1, _⟩ := g
  unfold keyS
  rw [h1]
  constructor
  · intro q
    have q : Value.isStrOf k (Value.str k0 tk) = true := q
    obtain ⟨u, hu⟩ := Value.isStrOf_shape q
    cases hu
    rfl
  · rintro rfl
    exact strKind_is P w k0 tk
theorem SetD.mem {es : Array (Int × Value)} {t : SetTable} (F : SetD w es t ks) (k : Str) : k ∈ ks ↔ ∃ e ∈ es.toList, (strKind P w).is k e.2 = true := by
  rw [← F.per.mem_iff, List.mem_map]
  exact ⟨fun ⟨e, he, q⟩ => ⟨e, he, (good_key (F.good e he) k).2 q⟩, fun ⟨e, he, q⟩ => ⟨e, he, (good_key (F.good e he) k).1 q⟩⟩
theorem setS_fresh (ho : h.get? a = some (freshO w)) : SetS w h a [] := by
  refine ⟨_, #[], 0, _, ho, ⟨rfl, rfl, rfl⟩, rfl, ⟨fun e he => by simp at he, .nil, .nil, by decide, rfl, List.Pairwise.nil, ?_⟩⟩
  show _ ∨ (!w.params.followText "set-order") = true
  cases w.params.followText "set-order" <;> simp
end
section
variable {P : Program} {w : World} {A : Around} {E : Value → Shared → Prop} {s : Shared} {a : Addr} {ks : List Str}
/-- what is behind a new member: it is stored, and the table laid anew if it is too full -/
theorem tailS {g : Bool → Sem Unit} (hg : ∀ (b : Bool) (s₁ : Shared) (Q' : Unit → Shared → Prop), Q' () s₁ → wpAny (model P w) A (g b) Q' E s₁) {o : Obj} {es : Array (Int × Value)} {ep : Nat} {t : SetTable} (ho : s.heap.get? a = some o) (hex : o.ExactSet) (hd : o.data = .set es ep t)
    {es1 : Array (Int × Value)} {t2 : SetTable} (F : SetD w es1 t2 ks) {was : Bool} {R : Option Bool → Shared → Prop} (hR : ∀ h', Heap.SameBut a s.heap h' → SetS w h' a ks → R (some true) { s with heap := h' }) :
    wpAny (model P w) A (do
      storeSet a es1 t2
      if (!was && t2.tooFull) = true then do
        g (relayAll t2 es1 (SetTable.grown es1.size)).2.2
        storeSet a (relayAll t2 es1 (SetTable.grown es1.size)).1 (relayAll t2 es1 (SetTable.grown es1.size)).2.1
        pure (some true)
      else pure (some true)) R E s := by
  have ho1 := store_at (es' := es1) (t' := t2) ho hd
  have b1 := Heap.SameBut.update s.heap a (Obj.putSet es1 t2)
  refine wpAny_bind (wpAny_storeSet_of ho hd ?_ (fits_of_scanBound F.few))
  split
  · generalize hZ : relayAll t2 es1 (SetTable.grown es1.size) = Z
    have q1 : Z.1.toList.Perm es1.toList := by rw [← hZ]; exact relayAll_perm t2 es1 (SetTable.grown es1.size)
    have q2 : Z.2.1.fits Z.1.size = true := by rw [← hZ]; exact relayAll_fits t2 es1 (SetTable.grown es1.size)
    have q3 : Ris Z.2.1.place.toList := by rw [← hZ]; exact relayAll_ris t2 es1 (SetTable.grown es1.size)
    have q4 : Z.2.1.led = t2.led := by rw [← hZ]; exact relayAll_led t2 es1 (SetTable.grown es1.size)
    have hsz : Z.1.size = es1.size := by rw [← Array.length_toList, q1.length_eq, Array.length_toList]
    have hb2 : Z.1.size < scanBound := by rw [hsz]; exact F.few
    refine wpAny_bind (hg _ _ _ (wpAny_bind (wpAny_storeSet_of ho1 rfl (wpAny_pure (hR _ (b1.trans (Heap.SameBut.update _ a _)) ⟨_, Z.1, _, Z.2.1, store_at ho1 rfl, hex, rfl, ?_⟩)) (fits_of_scanBound hb2))))
    exact ⟨fun e he => F.good e (q1.mem_iff.mp he), (q1.map keyS).trans F.per, F.nd, hb2, q2, q3, F.led.imp id fun z => q4.trans z⟩
  · exact wpAny_pure (hR _ b1 ⟨_, es1, _, t2, ho1, hex, rfl, F⟩)
theorem addS {k : Str} {tk : Tok} {Q : Bool → Shared → Prop} (R : SetS w s.heap a ks) (room : ks.length + 1 < scanBound) (hQ : ∀ b h', Heap.SameBut a s.heap h' → SetS w h' a (insS ks k) → Q b { s with heap := h' }) :
    wpAny (model P w) A (setAddHashed a (.str k tk) ((strKind P w).hash k)) Q E s := by
  obtain ⟨o, es, ep, t, ho, hex, hd, F⟩ := R
  have hkey : (strKind P w).is k (.str k tk) = true := strKind_is P w k tk
  have hsc : (Value.str k tk).scannable = true := rfl
  have hel : ElemsOf (strKind P w) es.toList := F.elems
  have hn : es.size = ks.length := by rw [← Array.length_toList, ← List.length_map (f := keyS), F.per.length_eq]
  unfold setAddHashed setAddHashedIn
  refine wpAny_holding (wpAny_bind (wpAny_setState_of ho hd F.fits ?_))
  dsimp only
  rw [byScan_of hsc F.few hel]
  simp only [↓reduceIte]
  unfold setAddByScan
  refine wpAny_bind (wpAny_bind (wpAny_rule (wpAny_bind (wpAny_setScan_of hkey ho hd F.fits hel ?_))))
  cases hfi : List.findIdx? (fun e => (strKind P w).is k e.2) es.toList with
  | some j =>
    dsimp only
    obtain ⟨hj, pj, _⟩ := List.findIdx?_eq_some_iff_getElem.mp hfi
    have hin : k ∈ ks := (F.mem (P := P) k).2 ⟨es.toList[j], List.getElem_mem hj, pj⟩
    refine wpAny_pure (wpAny_pure (hQ _ s.heap (Heap.SameBut.refl a s.heap) ?_))
    unfold insS
    rw [if_pos hin]
    exact ⟨o, es, ep, t, ho, hex, hd, F⟩
  | none =>
    dsimp only
    have hnk : k ∉ ks := fun z => by
      obtain ⟨e, he, q⟩ := (F.mem (P := P) k).1 z
      have c := List.findIdx?_eq_none_iff.mp hfi e he
      rw [q] at c
      cases c
    have hins : insS ks k = k :: ks := by unfold insS; rw [if_neg hnk]
    have gv : ∀ (b : Bool) {s₁ : Shared} {Q' : Unit → Shared → Prop}, Q' () s₁ → wpAny (model P w) A (match b with
      | true => rule "set.scan.the-table-gave-way"
      | false => pure ()) Q' E s₁ := fun b s₁ Q' q => by cases b <;> first | exact wpAny_pure q | exact wpAny_rule q
    generalize hZ : layNew t es ((strKind P w).hash k) (.str k tk) = Z
    have q1 : Z.1.toList.Perm (es.push ((strKind P w).hash k, .str k tk)).toList := by rw [← hZ]; exact layNew_perm t es ((strKind P w).hash k) (.str k tk)
    have q2 : Z.2.1.fits Z.1.size = true := by rw [← hZ]; exact layNew_fits t es ((strKind P w).hash k) (.str k tk)
    have q3 : Ris Z.2.1.place.toList := by rw [← hZ]; exact layNew_ris t es ((strKind P w).hash k) (.str k tk) F.ris
    have q4 : Z.2.1.led = t.led := by rw [← hZ]; exact layNew_led t es ((strKind P w).hash k) (.str k tk)
    obtain ⟨es1, t1, wasDummy, gave⟩ := Z
    dsimp only at q1 q2 q3 q4 ⊢
    rw [Array.toList_push] at q1
    have pc : es1.toList.Perm (((strKind P w).hash k, Value.str k tk) :: es.toList) := q1.trans (List.perm_append_singleton _ _)
    have hsz : es1.size = ks.length + 1 := by rw [← Array.length_toList, pc.length_eq, List.length_cons, Array.length_toList, hn]
    have G : SetD w es1 t1 (insS ks k) := by
      rw [hins]
      refine ⟨fun e he => ?_, (pc.map keyS).trans (F.per.cons k), List.nodup_cons.mpr ⟨hnk, F.nd⟩, by rw [hsz]; exact room, q2, q3, F.led.imp id fun z => q4.trans z⟩
      rcases List.mem_cons.mp (pc.mem_iff.mp he) with z | z
      · rw [z]; exact ⟨k, tk, rfl, rfl⟩
      · exact F.good e z
    refine wpAny_bind (gv _ ?_)
    split
    · refine wpAny_bind ?_
      rw [hashByValue_scannable 8 hsc]
      refine wpAny_pure (tailS (ks := insS ks k) ?_ ho hex hd ⟨G.good, G.per, G.nd, G.few, ?_, ?_, ?_⟩ ?_)
      · intro b s₁ Q' q; cases b <;> first | exact wpAny_pure q | exact wpAny_rule q
      · first | (split <;> first | exact q2 | exact SetTable.fits_plain_off q2) | exact q2
      · first | (split <;> exact q3) | exact q3
      · first | (split <;> exact G.led) | exact G.led
      · intro h' sb r; dsimp only; exact wpAny_pure (hQ _ h' sb r)
    · refine wpAny_bind (wpAny_pure ?_)
      simp only [↓reduceIte]
      refine tailS (ks := insS ks k) ?_ ho hex hd G ?_
      · intro b s₁ Q' q; cases b <;> first | exact wpAny_pure q | exact wpAny_rule q
      · intro h' sb r; dsimp only; exact wpAny_pure (hQ _ h' sb r)
theorem insS_len (ks : List Str) (k : Str) : (insS ks k).length ≤ ks.length + 1 := by
  unfold insS
  split <;> simp
/-- the members, one by one -/
theorem loopS {I : Addr} {fp wr : List Addr} {G : Array GenState → Array GenState → Prop} {n : Nat} {Pv : Nat → Value → Prop} {St : Nat → Shared → Prop} {R : Result → Shared → Prop}
    (W : WalksS P w A.in1 I fp wr G n Pv St) (S : Addr) (hSf : S ∉ fp) (xs : List Str) (hn : n = xs.length) (hb : xs.length + 1 < scanBound) (hval : ∀ i v, Pv i v → ∃ k t, xs[i]? = some k ∧ v = .str k t) :
    ∀ (m i : Nat) (s : Shared), n - i = m → i ≤ n → St i s → (∀ ks, ks = (xs.take i).foldl insS [] → SetS w s.heap S ks ∧ ks.length ≤ i) →
      (∀ s', Moved (S :: wr) G s s' → SetS w s'.heap S (xs.foldl insS []) → R (.ok (.ret .none)) s') → codeAny (model P w) A (.builtin "set.update.loop" ⟨[.ref S, .ref I], []⟩) R s
  | m, i, s, hm0, hi, hst, hS, hR => by
    have hSw : S ∉ wr := fun h => hSf (W.sub _ h)
    have hsub : ∀ b ∈ wr, b ∈ S :: wr := fun b hb => List.mem_cons_of_mem _ hb
    obtain ⟨hS, hc⟩ := hS _ rfl
    refine codeAny_builtin F.entry_set_update_loop ?_
    rw [Around.under_plainId F.plain_set_update_loop _]
    show wpAny _ A.in1 (pyNext (.ref I) >>= _) _ _ s
    match m, hm0 with
    | 0, hm0 =>
      have hin : i = n := by omega
      subst hin
      refine wpAny_bind (W.done s _ _ hst fun s' hm => ?_)
      show wpAny _ A.in1 (ret Value.none) _ _ s'
      rw [List.take_of_length_le (by omega)] at hS
      exact wpAny_pure (hR s' (hm.mono hsub) (hS.at fun o e => hm.heap S o hSw e))
    | m + 1, hm0 =>
      have hlt : i < n := by omega
      refine wpAny_bind (W.item i s _ _ hlt hst fun v s' hP hst' hm => ?_)
      obtain ⟨z, t, hz, rfl⟩ := hval i v hP
      have hS' := hS.at fun o e => hm.heap S o hSw e
      show wpAny _ A.in1 (holding [Value.str z t] (setAdd S (.str z t)) >>= _) _ _ s'
      refine wpAny_bind (wpAny_holding ?_)
      unfold setAdd
      refine wpAny_holding (wpAny_bind ((strKind P w).pyHash (k := z) (strKind_is _ _ _ _) ?_))
      refine addS (s := { s' with toks := s'.toks + 1 }) hS' (by omega) fun b h' hsb hS2 => ?_
      have e3 : (xs.take (i + 1)).foldl insS [] = insS ((xs.take i).foldl insS []) z := by
        rw [List.take_add_one, hz]
        simp [List.foldl_append]
      refine wpAny_pure ⟨plainId_quiet F.plain_set_update_loop _, loopS W S hSf xs hn hb hval m (i + 1) _ (by omega) hlt (W.frame _ s' _ _ hst' (Nat.le_succ _) fun b hb o e => ?_) (fun ks eks => ?_) fun s'' hm'' hS'' => ?_⟩
      · rw [hsb.2 b (fun h : b = S => hSf (h ▸ hb))]; exact e
      · rw [eks, e3]
        exact ⟨hS2, Nat.le_trans (insS_len _ _) (by omega)⟩
      · refine hR s'' (Moved.trans W.gtrans ((hm.mono hsub).then_heap (Nat.le_succ _) fun b o hb e => ?_) hm'') hS''
        rw [hsb.2 b (fun h : b = S => hb (by rw [h]; exact List.mem_cons_self))]; exact e
end
end KU

namespace KU
open PySem PySem.Spec PyProof.Rows L2
section
variable {P : Program} {w : World} {A : Around} {E : Value → Shared → Prop} {s : Shared} {ks : List Str}
/-- what a source of texts does for a new set -/
def Fills (P : Program) (w : World) (s : Shared) (x : Value) (ks : List Str) : Prop :=
  ∀ (A' : Around) (E' : Value → Shared → Prop) (Q' : Unit → Shared → Prop), A'.handled = none → (∀ (h' : Heap) (tk : Nat), SetS w h' s.heap.objs.size ks → (∀ b o, s.heap.get? b = some o → h'.get? b = some o) → Q' () { s with heap := h', toks := tk }) →
    wpAny (model P w) A' (Builtin.Frozenset.updateFrom "set.__init__" s.heap.objs.size x) Q' E' { s with heap := s.heap.push (freshO w) }
theorem call_setS {x : Value} {Q : Value → Shared → Prop} (hh : A.handled = none) (hf : Fills P w s x ks) (hq : ∀ (h' : Heap) (tk : Nat), SetS w h' s.heap.objs.size ks → (∀ b o, s.heap.get? b = some o → h'.get? b = some o) → Q (.ref s.heap.objs.size) { s with heap := h', toks := tk }) :
    wpAny (model P w) A (call (.type "set") [x]) Q E s := by
  obtain ⟨c, tl, hmro⟩ := F.called_set.mro
  have hmade := F.called_set.made
  have hsub := F.called_set.sub
  have h1 := F.called_set.notType
  have h2 := F.called_set.canCreate
  have hct := F.typeCall_set_1 x
  refine wpAny_call (codeAny_of_tree ?_)
  show wpAny _ _ (callAny (.type "set") _) _ _ _
  refine wpAny_pure ⟨Code.quiet_builtin _ (by decide +kernel), codeAny_builtin F.entry_type_call ?_⟩
  rw [Around.under_plain (weight_type_call_type "set" [x] []) rfl]
  repeat (any_goals (first | assumption | wp_step))
  refine codeAny_mono (code_set_led1 x (E := E) (Q₁ := fun obj s₁ => obj = .ref s.heap.objs.size ∧ s₁ = { s with heap := s.heap.push (freshO w) }) ⟨rfl, rfl⟩) fun r s₁ hr => ?_
  match r, hr with
  | .error e, hr => exact hr
  | .ok (.ret obj), hr =>
    obtain ⟨rfl, rfl⟩ := hr
    have hS : (s.heap.push (freshO w)).get? s.heap.objs.size = some (freshO w) := Heap.get?_push_size _ rfl
    have hT : Shared.TypeIs { s with heap := s.heap.push (freshO w) } (.ref s.heap.objs.size) "set" := ⟨_, hS, rfl⟩
    have hli := F.called_set.init.lookup
    have hbi := F.called_set.init.bind (.ref s.heap.objs.size)
    repeat (any_goals (first | assumption | wp_step))
    refine codeAny_mono (codeAny_call_builtin (R := wants (fun r s₂ => r = .none ∧ ∃ h' tk, s₂ = { s with heap := h', toks := tk } ∧ SetS w h' s.heap.objs.size ks ∧ (∀ b o, s.heap.get? b = some o → h'.get? b = some o)) E) F.called_set.init.plain F.entry_set_init (check_set_init_1 hT ?_)) fun r₂ s₂ hr₂ => ?_
    · unfold Builtin.«set.__init__» noKeywords
      generalize hU : Builtin.Frozenset.updateFrom = U
      wp_walk
      subst hU
      refine hf _ _ _ (by simp [hh]) fun h' tk r1 r2 => ?_
      show wpAny _ _ (ret Value.none) _ _ _
      exact wpAny_pure ⟨rfl, h', tk, rfl, r1, r2⟩
    · match r₂, hr₂ with
      | .error e, hr₂ => exact hr₂
      | .ok (.ret r), hr₂ =>
        obtain ⟨rfl, h', tk, rfl, r1, r2⟩ := hr₂
        repeat (any_goals (first | assumption | wp_step))
        exact hq _ _ r1 r2
      | .ok .next, hr₂ => exact hr₂.elim
      | .ok .brk, hr₂ => exact hr₂.elim
      | .ok .cont, hr₂ => exact hr₂.elim
  | .ok .next, hr => exact hr.elim
  | .ok .brk, hr => exact hr.elim
  | .ok .cont, hr => exact hr.elim
end
end KU

namespace KU
open PySem PySem.Spec PyProof.Rows L2
section
variable {P : Program} {w : World} {A : Around} {E : Value → Shared → Prop} {s : Shared} {ks : List Str}
theorem strs_get : ∀ {us : List Value} {xs : List Str}, StrsAre us xs → ∀ (i : Nat) (v : Value), us[i]? = some v → ∃ k t, xs[i]? = some k ∧ v = .str k t
  | _, _, .nil, i, v, h => by simp at h
  | _, _, .cons n t hr, 0, v, h => by simp at h; exact ⟨n, t, rfl, h.symm⟩
  | _, _, .cons n t hr, i + 1, v, h => by
    obtain ⟨k, u, e1, e2⟩ := strs_get hr i v (by simpa using h)
    exact ⟨k, u, by simpa using e1, e2⟩
theorem fills_list {l : Addr} {items : Array Value} {xs : List Str} (hl : s.heap.IsList l items) (hi : StrsAre items.toList xs) (hb : xs.length + 1 < scanBound) : Fills P w s (.ref l) (xs.foldl insS []) := by
  intro A' E' Q' hh hq
  have hsz : items.size = xs.length := by have := StrsAre.len_eq hi; rwa [Array.length_toList] at this
  obtain ⟨ol, hol, hcl, nl, hdl⟩ := id hl
  have hlS : l < s.heap.objs.size := Heap.lt_size hol
  have hT : Shared.TypeIs { s with heap := s.heap.push (freshO w) } (.ref l) "list" := ⟨ol, Heap.get?_push_of_some _ hol, hcl⟩
  have hl1 : (s.heap.push (freshO w)).IsList l items := hl.push _
  have hS : (s.heap.push (freshO w)).get? s.heap.objs.size = some (freshO w) := Heap.get?_push_size _ rfl
  have hz : (s.heap.push (freshO w)).objs.size = s.heap.objs.size + 1 := Heap.size_push ..
  unfold Builtin.Frozenset.updateFrom Builtin.Frozenset.isAnySet
  have g1 := PySem.F.sub_list_set
  have g2 := PySem.F.sub_list_frozenset
  have hne : (Value.type "list" == Value.type "dict") = false := by decide
  generalize hPI : pyIter = PI
  wp_walk
  subst hPI
  refine wpAny_pyIter_list hl1 (wpAny_bind (wpAny_runValue ?_))
  have hneI : l ≠ (s.heap.push (freshO w)).objs.size := by rw [hz]; exact Nat.ne_of_lt (Nat.lt_succ_of_lt hlS)
  have hSf : s.heap.objs.size ∉ [(s.heap.push (freshO w)).objs.size, l] := by
    rw [hz]
    simp only [List.mem_cons, List.not_mem_nil, or_false, not_or]
    exact ⟨Nat.ne_of_lt (Nat.lt_succ_self _), Nat.ne_of_gt hlS⟩
  refine loopS ((Walks.list (A := A'.in1) hh _ l hneI items).toS) s.heap.objs.size hSf xs hsz hb (fun i v hv => strs_get hi i v (by rw [Array.getElem?_toList]; exact hv)) (items.size - 0) 0 _ (by omega) (Nat.zero_le _) ⟨⟨_, Heap.get?_push_size _ rfl, rfl, rfl⟩, hl1.push _⟩ (fun ks e => ?_) ?_
  · subst e
    exact ⟨setS_fresh (Heap.get?_push_of_some _ hS), Nat.le_refl _⟩
  · intro s' hm hS'
    obtain ⟨h', g', d', tk', os'⟩ := s'
    have eg : g' = s.gens := hm.gens
    have ed : d' = s.drawn := hm.drawn
    have eo : os' = s.os := hm.os
    subst eg; subst ed; subst eo
    refine wpAny_pure (hq h' tk' hS' fun b o e => ?_)
    have hlt : b < s.heap.objs.size := Heap.lt_size e
    refine hm.heap b o ?_ (Heap.get?_push_of_some _ (Heap.get?_push_of_some _ e))
    simp only [List.mem_cons, List.not_mem_nil, or_false, not_or, hz]
    exact ⟨Nat.ne_of_lt hlt, Nat.ne_of_lt (Nat.lt_succ_of_lt hlt)⟩
theorem fills_text {x : Str} {t : Tok} (hb : x.cps.size + 1 < scanBound) : Fills P w s (.str x t) ((x.cps.toList.map fun k => (⟨#[k]⟩ : Str)).foldl insS []) := by
  intro A' E' Q' hh hq
  have hS : (s.heap.push (freshO w)).get? s.heap.objs.size = some (freshO w) := Heap.get?_push_size _ rfl
  have hz : (s.heap.push (freshO w)).objs.size = s.heap.objs.size + 1 := Heap.size_push ..
  unfold Builtin.Frozenset.updateFrom Builtin.Frozenset.isAnySet
  have g1 := PySem.F.sub_str_set
  have g2 := PySem.F.sub_str_frozenset
  have hne : (Value.type "str" == Value.type "dict") = false := by decide
  generalize hPI : pyIter = PI
  wp_walk
  subst hPI
  refine wpAny_pyIter_str fun o St W hst => wpAny_bind (wpAny_runValue ?_)
  have hSf : s.heap.objs.size ∉ [(s.heap.push (freshO w)).objs.size] := by
    rw [hz]
    simp
  refine loopS ((W A'.in1 hh).toS) s.heap.objs.size hSf (x.cps.toList.map fun k => (⟨#[k]⟩ : Str)) (by simp) (by simpa using hb) (fun i v hv => ?_) (x.cps.size - 0) 0 _ (by omega) (Nat.zero_le _) hst (fun ks e => ?_) ?_
  · obtain ⟨k, u, hk, rfl⟩ := hv
    exact ⟨⟨#[k]⟩, u, by rw [List.getElem?_map, Array.getElem?_toList, hk]; rfl, rfl⟩
  · subst e
    exact ⟨setS_fresh (Heap.get?_push_of_some _ hS), Nat.le_refl _⟩
  · intro s' hm hS'
    obtain ⟨h', g', d', tk', os'⟩ := s'
    have eg : g' = s.gens := hm.gens
    have ed : d' = s.drawn := hm.drawn
    have eo : os' = s.os := hm.os
    subst eg; subst ed; subst eo
    refine wpAny_pure (hq h' tk' hS' fun b u e => ?_)
    have hlt : b < s.heap.objs.size := Heap.lt_size e
    refine hm.heap b u ?_ (Heap.get?_push_of_some _ (Heap.get?_push_of_some _ e))
    simp only [List.mem_cons, List.not_mem_nil, or_false, not_or, hz]
    exact ⟨Nat.ne_of_lt hlt, Nat.ne_of_lt (Nat.lt_succ_of_lt hlt)⟩
/-! ### sorted -/
theorem strs_all : ∀ (l : List (Int × Value)), (∀ e ∈ l, GoodS w e) → StrsAre (l.map (·.2)) (l.map keyS)
  | [], _ => .nil
  | e :: l, h => by
    obtain ⟨k, tk, h1, _⟩ := h e List.mem_cons_self
    have q := strs_all l fun u hu => h u (List.mem_cons_of_mem _ hu)
    rw [List.map_cons, List.map_cons, h1, show keyS e = k by unfold keyS; rw [h1]]
    exact .cons k tk q
theorem strs_perm {vs us : List Value} {xs : List Str} (p : vs.Perm us) (h : StrsAre us xs) : ∃ ys, StrsAre vs ys ∧ ys.Perm xs := by
  induction p generalizing xs with
  | nil => exact ⟨xs, h, .refl _⟩
  | cons x p ih =>
    cases h with
    | cons y t r =>
      obtain ⟨ys, r1, r2⟩ := ih r
      exact ⟨y :: ys, .cons y t r1, r2.cons y⟩
  | swap x y l =>
    cases h with
    | cons a t r =>
      cases r with
      | cons b u r => exact ⟨b :: a :: _, .cons b u (.cons a t r), .swap ..⟩
  | trans p q ih1 ih2 =>
    obtain ⟨ys, r1, r2⟩ := ih2 h
    obtain ⟨zs, r3, r4⟩ := ih1 r1
    exact ⟨zs, r3, r4.trans r2⟩
theorem sorted_setS {a : Addr} {Q : Value → Shared → Prop} (R : SetS w s.heap a ks) (hh : A.handled = none)
    (hQ : ∀ s' p (out : Array Value) (c : Nat) (ns : List Str), (∀ b o, s.heap.get? b = some o → s'.heap.get? b = some o) → s'.gens = s.gens → s'.os = s.os → s.heap.objs.size ≤ p → s'.heap.get? p = some (seqObj "list" out c) → StrsAre out.toList ns → sortedS ns = true → ns.Perm ks → Q (.ref p) s') :
    wpAny (model P w) A (call (.builtin "sorted") [.ref a]) Q E s := by
  obtain ⟨o, es, ep, t, ho, hex, hd, F⟩ := R
  have hn : es.size = ks.length := by rw [← Array.length_toList, ← List.length_map (f := keyS), F.per.length_eq]
  refine Calls.call_function_entry kind_sorted plain_sorted entry_sorted (args_sorted1 _) ?_
  unfold Builtin.«sorted»
  refine wpAny_bind (m := checkCount "sorted" 1 1 _) (wpAny_pure (wpAny_bind (collect_set (A := A.in1) hh ⟨o, ho, hex.1, hd⟩ F.fits F.few F.ris F.led fun s1 vs k1 hz g1 o1 pm => ?_)))
  have hvl : vs.length = ks.length := by rw [pm.length_eq, List.length_map, Array.length_toList]; exact hn
  obtain ⟨ys, hy, py⟩ := strs_perm pm (strs_all es.toList F.good)
  have hL : vs.length ≤ sizeLine := by rw [hvl, ← hn]; exact fits_of_scanBound F.few
  refine wpAny_bind (wpAny_newList ?_ hL)
  have hoL : (s1.heap.push (seqObj "list" vs.toArray 0)).get? s1.heap.objs.size = some (seqObj "list" vs.toArray 0) := Heap.get?_push_size _ rfl
  refine wpAny_bind (wpAny_holding (wpAny_call_entry slot_list_sort ⟨_, hoL, rfl⟩ entry_list_sort (list_sort_treeKAny strKind_oneLt hoL hy.keysOf (fun v₁ v₂ rest e => keyKind_strs (by rw [← e]; exact hy)) hL fun st' hp hs => ⟨_, rfl, ?_⟩) (args_list_sort _)))
  obtain ⟨ss, r1, r2, r3⟩ := sorted_out_str hy hp hs
  obtain ⟨c, hc⟩ := sortedHeap_at (vs := vs) (out := (arrOf st').map (·.2)) hoL
  refine wpAny_pure ⟨_, rfl, hQ _ s1.heap.objs.size _ c ss (fun b u e => ?_) g1 o1 hz hc r1 r3 ((r2.trans py).trans F.per)⟩
  have q := k1 b u e
  have hlt := Heap.lt_size q
  show (sortedHeap (s1.heap.push (seqObj "list" vs.toArray 0)) s1.heap.objs.size vs _).get? b = some u
  rw [sortedHeap_old (Nat.ne_of_lt hlt) (by rw [size_push']; exact Nat.lt_succ_of_lt hlt)]
  exact Heap.get?_push_of_some _ q
end
end KU

namespace KU
open PySem PySem.Spec PyProof.Rows L2

/-! ### the sorted members of a list of texts -/
def ltS (a b : Str) : Prop := a.cps.toList < b.cps.toList
instance (a b : Str) : Decidable (ltS a b) := by unfold ltS; infer_instance
def insK (k : Str) : List Str → List Str
  | [] => [k]
  | y :: ys => if ltS k y then k :: y :: ys else if k = y then y :: ys else y :: insK k ys
def srt (xs : List Str) : List Str := xs.foldl (fun acc k => insK k acc) []
theorem str_ext {a b : Str} (h : a.cps.toList = b.cps.toList) : a = b := by
  cases a; cases b
  simp only [Str.mk.injEq]
  exact Array.toList_inj.mp h
theorem ltS_irrefl (a : Str) : ¬ ltS a a := List.lt_irrefl _
theorem ltS_trans {a b c : Str} (h : ltS a b) (k : ltS b c) : ltS a c := List.lt_trans h k
theorem ltS_asymm {a b : Str} (h : ltS a b) : ¬ ltS b a := List.lt_asymm h
theorem ltS_total {a b : Str} (h : ¬ ltS a b) (hne : a ≠ b) : ltS b a := by
  by_cases z : ltS b a
  · exact z
  · exact absurd (str_ext (List.le_antisymm (List.not_lt.mp z) (List.not_lt.mp h))) hne
theorem mem_insK {k x : Str} : ∀ {l : List Str}, x ∈ insK k l ↔ x = k ∨ x ∈ l
  | [] => by simp [insK]
  | y :: ys => by
    unfold insK
    split
    · simp
    · split
      · rename_i h e
        subst e
        simp
      · rw [List.mem_cons, mem_insK, List.mem_cons]
        constructor
        · rintro (h | h | h)
          · exact .inr (.inl h)
          · exact .inl h
          · exact .inr (.inr h)
        · rintro (h | h | h)
          · exact .inr (.inl h)
          · exact .inl h
          · exact .inr (.inr h)
theorem insK_lt {k : Str} : ∀ {l : List Str}, l.Pairwise ltS → (insK k l).Pairwise ltS
  | [], _ => by simp [insK]
  | y :: ys, h => by
    obtain ⟨h1, h2⟩ := List.pairwise_cons.mp h
    unfold insK
    split
    · rename_i hk
      refine List.pairwise_cons.mpr ⟨fun z hz => ?_, h⟩
      rcases List.mem_cons.mp hz with e | e
      · rw [e]; exact hk
      · exact ltS_trans hk (h1 z e)
    · split
      · exact h
      · rename_i hk hne
        refine List.pairwise_cons.mpr ⟨fun z hz => ?_, insK_lt h2⟩
        rcases mem_insK.mp hz with e | e
        · rw [e]; exact ltS_total hk hne
        · exact h1 z e
theorem mem_fold {x : Str} : ∀ {xs acc : List Str}, x ∈ xs.foldl (fun acc k => insK k acc) acc ↔ x ∈ xs ∨ x ∈ acc
  | [], acc => by simp
  | y :: ys, acc => by
    rw [List.foldl_cons, mem_fold, mem_insK, List.mem_cons]
    constructor
    · rintro (h | h | h)
      · exact .inl (.inr h)
      · exact .inl (.inl h)
      · exact .inr h
    · rintro ((h | h) | h)
      · exact .inr (.inl h)
      · exact .inl h
      · exact .inr (.inr h)
theorem fold_lt : ∀ {xs acc : List Str}, acc.Pairwise ltS → (xs.foldl (fun acc k => insK k acc) acc).Pairwise ltS
  | [], _, h => h
  | y :: ys, acc, h => fold_lt (xs := ys) (acc := insK y acc) (insK_lt h)
theorem mem_srt {x : Str} {xs : List Str} : x ∈ srt xs ↔ x ∈ xs := by
  unfold srt
  rw [mem_fold]
  simp
theorem srt_lt (xs : List Str) : (srt xs).Pairwise ltS := fold_lt List.Pairwise.nil
theorem uniq : ∀ {l m : List Str}, l.Pairwise ltS → m.Pairwise ltS → (∀ x, x ∈ l ↔ x ∈ m) → l = m
  | [], [], _, _, _ => rfl
  | [], b :: m, _, _, h => by have := (h b).mpr (by simp); simp at this
  | a :: l, [], _, _, h => by have := (h a).mp (by simp); simp at this
  | a :: l, b :: m, h1, h2, h => by
    obtain ⟨a1, a2⟩ := List.pairwise_cons.mp h1
    obtain ⟨b1, b2⟩ := List.pairwise_cons.mp h2
    have e : a = b := by
      rcases List.mem_cons.mp ((h a).mp (by simp)) with z | z
      · exact z
      · rcases List.mem_cons.mp ((h b).mpr (by simp)) with y | y
        · exact y.symm
        · exact absurd (a1 b y) (ltS_asymm (b1 a z))
    subst e
    rw [uniq a2 b2 fun x => ?_]
    constructor
    · intro hx
      rcases List.mem_cons.mp ((h x).mp (List.mem_cons_of_mem _ hx)) with z | z
      · subst z; exact absurd (a1 x hx) (ltS_irrefl x)
      · exact z
    · intro hx
      rcases List.mem_cons.mp ((h x).mpr (List.mem_cons_of_mem _ hx)) with z | z
      · subst z; exact absurd (b1 x hx) (ltS_irrefl x)
      · exact z
theorem insS_nd {ks : List Str} {k : Str} (h : ks.Nodup) : (insS ks k).Nodup := by
  unfold insS
  split
  · exact h
  · rename_i hk; exact List.nodup_cons.mpr ⟨hk, h⟩
theorem foldS_nd : ∀ {xs ks : List Str}, ks.Nodup → (xs.foldl insS ks).Nodup
  | [], _, h => h
  | x :: xs, ks, h => foldS_nd (xs := xs) (ks := insS ks x) (insS_nd h)
theorem mem_insS {ks : List Str} {k x : Str} : x ∈ insS ks k ↔ x = k ∨ x ∈ ks := by
  unfold insS
  split
  · rename_i h
    constructor
    · exact .inr
    · rintro (e | e)
      · rw [e]; exact h
      · exact e
  · simp
theorem mem_foldS {x : Str} : ∀ {xs ks : List Str}, x ∈ xs.foldl insS ks ↔ x ∈ xs ∨ x ∈ ks
  | [], ks => by simp
  | y :: ys, ks => by
    rw [List.foldl_cons, mem_foldS, mem_insS, List.mem_cons]
    constructor
    · rintro (h | h | h)
      · exact .inl (.inr h)
      · exact .inl (.inl h)
      · exact .inr h
    · rintro ((h | h) | h)
      · exact .inr (.inl h)
      · exact .inl h
      · exact .inr (.inr h)
theorem rising_le : ∀ {l : List Str} {p : Str}, risingS p l = true → ∀ x ∈ l, ¬ ltS x p
  | [], _, _, x, hx => by simp at hx
  | y :: ys, p, h, x, hx => by
    simp only [risingS, Bool.and_eq_true, Bool.not_eq_true', ltCps_eq, decide_eq_false_iff_not] at h
    rcases List.mem_cons.mp hx with e | e
    · rw [e]; exact h.1
    · have q := rising_le h.2 x e
      exact fun z => by
        by_cases w : ltS p y
        · exact q (ltS_trans z w)
        · by_cases e2 : p = y
          · subst e2; exact q z
          · exact h.1 (ltS_total w e2)
theorem sorted_le : ∀ {l : List Str}, sortedS l = true → l.Pairwise fun a b => ¬ ltS b a
  | [], _ => .nil
  | [a], _ => by simp
  | a :: b :: l, h => by
    have h : risingS a (b :: l) = true := h
    refine List.pairwise_cons.mpr ⟨fun x hx => rising_le h x hx, sorted_le (l := b :: l) ?_⟩
    simp only [risingS, Bool.and_eq_true] at h
    exact h.2
theorem sorted_nd : ∀ {l : List Str}, l.Pairwise (fun a b => ¬ ltS b a) → l.Nodup → l.Pairwise ltS
  | [], _, _ => .nil
  | a :: l, h, d => by
    obtain ⟨h1, h2⟩ := List.pairwise_cons.mp h
    obtain ⟨d1, d2⟩ := List.nodup_cons.mp d
    exact List.pairwise_cons.mpr ⟨fun x hx => ltS_total (h1 x hx) fun e => d1 (e ▸ hx), sorted_nd h2 d2⟩
theorem sorted_is {ns xs : List Str} (h : sortedS ns = true) (p : ns.Perm (xs.foldl insS [])) : ns = srt xs := by
  have nd : ns.Nodup := p.nodup_iff.mpr (foldS_nd .nil)
  refine uniq (sorted_nd (sorted_le h) nd) (srt_lt xs) fun x => ?_
  rw [p.mem_iff, mem_foldS, mem_srt]
  simp

/-! ### the rules of set(..) and sorted(..) -/
def SetH (w : World) (a : Addr) (ks : List Str) : HO := .ext fun h => SetS w h a ks
section
variable {X : Cx}
theorem setH_new {w : World} {P : Program} {H : Hp} {h : Heap} {a : Addr} {ks : List Str} (R : SetS w h a ks) : ObjOk P w H h a (SetH w a ks) := by
  have ⟨o, _, _, _, ho, _⟩ := R
  exact ⟨R, ⟨o, ho⟩, fun h1 h2 p k => SetS.at p k⟩
def rSetS (K : PySem.W.Frag) (w : World) : List V → Hp → VK → Prop := fun vs H Q => ∃ xs : List Str, xs.length ≤ 1000 ∧ ((∃ l, vs = [.ref l] ∧ SqL K H l (xs.map V.str)) ∨ (∃ z : Str, vs = [.str z] ∧ xs = z.cps.toList.map fun k => (⟨#[k]⟩ : Str))) ∧
  ∀ p, H p = none → Q (.ref p) (upd H p (SetH w p (xs.foldl insS [])))
theorem cr_setS (hc : X.calm = true) : CallR X (.type "set") (rSetS X.K X.w) := by
  intro pins s σ H vs us Q I r h
  obtain ⟨xs, hl, hs, q⟩ := h
  have hb : xs.length + 1 < scanBound := Nat.lt_of_le_of_lt (Nat.succ_le_succ hl) (by decide)
  have fin : ∀ (h' : Heap) (tk : Nat), SetS X.w h' s.heap.objs.size (xs.foldl insS []) → (∀ b o, s.heap.get? b = some o → h'.get? b = some o) → EP X pins σ Q (.ref s.heap.objs.size) { s with heap := h', toks := tk } := fun h' tk r1 r2 =>
    ⟨.ref _, upd H s.heap.objs.size (SetH X.w s.heap.objs.size (xs.foldl insS [])), I.laid (t' := tk) r2 (Nat.le_refl _) (setH_new r1), rfl, q _ (I.hok.fresh (Nat.le_refl _))⟩
  rcases hs with ⟨l, rfl, hq⟩ | ⟨z, rfl, rfl⟩
  · rw [Vals.ref1 r]
    obtain ⟨its, rv, pl, hz⟩ := I.list hq
    exact call_setS (I.ok.hd hc) (fills_list pl.isList (by simpa using rv.strs) hb) fin
  · obtain ⟨u, rfl, rx⟩ := vals1 r
    obtain ⟨t, rfl⟩ := rx
    exact call_setS (I.ok.hd hc) (fills_text (by simpa using hb)) fin
def rSrtS (w : World) : List V → Hp → VK → Prop := fun vs H Q => ∃ (a : Addr) (xs : List Str), vs = [.ref a] ∧ H a = some (SetH w a (xs.foldl insS [])) ∧ xs.length ≤ 1000 ∧ ∀ p, H p = none → Q (.ref p) (upd H p (.lst ((srt xs).map V.str)))
theorem foldS_len : ∀ (xs ks : List Str), (xs.foldl insS ks).length ≤ xs.length + ks.length
  | [], ks => by simp
  | x :: xs, ks => by
    have h1 := foldS_len xs (insS ks x)
    have h2 := insS_len ks x
    simp only [List.foldl_cons, List.length_cons]
    omega
theorem cr_srtS (hc : X.calm = true) : CallR X (.builtin "sorted") (rSrtS X.w) := by
  intro pins s σ H vs us Q I r h
  obtain ⟨a, xs, rfl, ha, hz, q⟩ := h
  have R : SetS X.w s.heap a (xs.foldl insS []) := (I.hok a _ ha).1
  rw [Vals.ref1 r]
  refine sorted_setS R (I.ok.hd hc) fun s' p out c ns k g o hp hg hi hs hm => ?_
  have e := sorted_is hs hm
  subst e
  have hlen : ((srt xs).map V.str).length ≤ sizeLine := by
    have h1 := foldS_len xs []
    rw [List.length_map, hm.length_eq, sizeLine_eq]
    simp only [List.length_nil] at h1
    omega
  have hn : H p = none := I.hok.fresh hp
  exact ⟨.ref p, upd H p (.lst ((srt xs).map V.str)), I.call' (ch := []) o (Un.laid k hp hn) (I.hok.laid k hp ⟨hlen, out.toList, c, vals_of_strs hi, hg⟩) (by rw [g]; exact I.bare) (fun _ z => nomatch z), rfl, q p hn⟩
end
end KU
namespace KL
open PySem L2 KU

/-! ### sorted(set(e)), e[::-1], e.upper(), e.index(f) -/
def strsD : List D → Option (List Str)
  | [] => some []
  | .str x :: ds => (strsD ds).map (x :: ·)
  | _ :: _ => none
def srtD : D → Option TV
  | .lst ds => (strsD ds).bind fun xs => if xs.length ≤ 1000 then some (.fr ((srt xs).map .str)) else none
  | .str z => if z.cps.toList.length ≤ 1000 then some (.fr ((srt (z.cps.toList.map fun k => (⟨#[k]⟩ : Str))).map .str)) else none
  | _ => none
def eSortSet : Sm → Sm := eOp1 srtD
def revD : D → Option D
  | .tup ds => some (.tup ds.reverse)
  | _ => none
def eRev : Sm → Sm := eOp1 fun d => dV (revD d)
def uppD : D → Option D
  | .str x => if x.length ≤ 1000 then some (.str (Txt.upper x)) else none
  | _ => none
def eM_upper : Sm → Sm := eOp1 fun d => dV (uppD d)
section
variable {X : Cx} {c : Ct} {W : WX} {a b e : Expr} {fa fb : Sm} {pos p p2 q : Pos} {B : Bs} {F H : Hp} {io : List Addr} {st : Sto} {rh : Rho} {σ : St}
theorem strsD_ok : ∀ {vs : List V} {ds : List D} {xs : List Str}, RvAll c F io vs ds → strsD ds = some xs → vs = xs.map V.str
  | _, _, _, .nil, h => by cases h; rfl
  | _, _, _, .cons (d := d) r1 r2, h => by
    cases d <;> simp only [strsD] at h <;> try (cases h; done)
    rw [Option.map_eq_some_iff] at h
    obtain ⟨ys, h1, rfl⟩ := h
    cases r1
    rw [List.map_cons, strsD_ok r2 h1]
theorem rv_strs : ∀ xs : List Str, RvAll c F io (xs.map V.str) (xs.map D.str)
  | [] => .nil
  | x :: xs => .cons (.str x) (rv_strs xs)
theorem pe_srtset (hK : X.K = c.K) (hc : X.calm = true) (hg : Gl X "sorted") (hm : X.mg "sorted" = none) (hg2 : Gl X "set") (hm2 : X.mg "set" = none) (ha : PE X a (den c W fa)) (hn : notStar a = true) :
    PE X (.Call (.Name "sorted" p) [.Call (.Name "set" p2) [a] [] q] [] pos) (den c W (eSortSet fa)) := by
  have A1 : PA X [a] (tCons (den c W fa) tNil) := pa_cons ha pa_nil (star_cons hn)
  have S1 := pe_callTy (p := p2) (pos := q) (cr_setS hc) hg2 hm2 PyProof.Rows.boot_set A1 (he := star_cons hn)
  have A2 : PA X [.Call (.Name "set" p2) [a] [] q] (tCons (tCB (rSetS X.K X.w) (tCons (den c W fa) tNil)) tNil) := pa_cons S1 pa_nil rfl
  refine PE.weak (pe_callB (p := p) (pos := pos) (cr_srtS hc) hg hm PyProof.Rows.boot_sorted A2 (he := rfl)) fun σ H Q h => ?_
  refine op1_of (r := fun x H1 Q => rSetS X.K X.w [x] H1 fun y H2 => rSrtS X.w [y] H2 Q) ?_ h
  intro B F H io st rh σ x d t Q g hx hf ho
  have go : ∀ xs : List Str, xs.length ≤ 1000 → t = .fr ((srt xs).map .str) → ∀ p1, H p1 = none → rSrtS X.w [.ref p1] (upd H p1 (SetH X.w p1 (xs.foldl insS []))) Q := by
    intro xs hl et p1 h1
    subst et
    refine ⟨p1, xs, rfl, upd_same, hl, fun p2 h2 => ?_⟩
    have hne : p2 ≠ p1 := fun e => by subst e; rw [upd_same] at h2; cases h2
    have S1 : Stp F io H F io (upd H p1 (SetH X.w p1 (xs.foldl insS []))) := Stp.lay g.sub h1
    have S2 := S1.trans g.sub (Stp.lay (o := .lst ((srt xs).map V.str)) S1.sub h2)
    rw [upd_ne hne] at h2
    obtain ⟨f1, f2, f3⟩ := g.fresh h2
    exact ho _ _ F S2 (fun _ _ => rfl) ⟨p2, _, rfl, h2, upd_same, f1, rv_strs _⟩
  cases d with
  | lst ds =>
    simp only [srtD, Option.bind_eq_some_iff] at hf
    obtain ⟨xs, e1, hf⟩ := hf
    split at hf
    · rename_i hl
      cases hf
      obtain ⟨l, vs, rfl, q1, r1⟩ := hx
      exact ⟨xs, hl, .inl ⟨l, rfl, by rw [← strsD_ok r1 e1]; exact .inl (.inl q1)⟩, go xs hl rfl⟩
    · cases hf
  | str z =>
    simp only [srtD] at hf
    split at hf
    · rename_i hl
      cases hf
      cases hx
      exact ⟨_, by simpa using hl, .inr ⟨z, rfl, rfl⟩, go _ (by simpa using hl) rfl⟩
    · cases hf
  | _ => cases hf
theorem RvAll.rev : ∀ {vs : List V} {ds : List D}, RvAll c F io vs ds → RvAll c F io vs.reverse ds.reverse
  | _, _, .nil => .nil
  | _, _, .cons h r => by
    rw [List.reverse_cons, List.reverse_cons]
    exact (RvAll.rev r).append (.cons h .nil)
theorem pe_den_rev (hK : X.K = c.K) {k : Nat} {p1 p2 p3 : Pos} (ha : PE X a (den c W fa)) : PE X (.Subscript a (.Slice none none (some (.UnaryOp .USub (.Constant (.int 1) k p1) p2)) p3) pos) (den c W (eRev fa)) := by
  refine PE.weak (pe_revT ha) fun σ H Q h => op1_of (r := fun x H1 Q => ∃ a xs, x = .ref a ∧ SqT X.K H1 a xs ∧ ∀ p, H1 p = none → Q (.ref p) (upd H1 p (.tup xs.reverse))) ?_ h
  intro B F H io st rh σ x d t Q g hx hf ho
  obtain ⟨e, hf, rfl⟩ := dV_some hf
  cases d with
  | tup ds =>
    cases hf
    have hx' : Rv c F io x (.tup ds) := hx
    obtain ⟨a, vs, rfl, q1, r1⟩ := Rv.sqT (a := 0) g.sub hx'
    exact ⟨a, vs, rfl, by rw [hK]; exact q1, fun p hp => ho.tup g r1.rev p hp⟩
  | _ => cases hf
theorem pe_den_upper {apos : Pos} (ha : PE X a (den c W fa)) (hb : plainBase a = true) (hl : (apos.endLine == pos.line) = true) : PE X (.Call (.Attribute a "upper" apos) [] [] pos) (den c W (eM_upper fa)) := by
  refine PE.weak (pe_upper ha (plainBase_ok hb) hl) fun σ H Q h => op1_of (r := fun x H1 Q => (∃ a, x = .str a) ∧ ∃ a, x = .str a ∧ ([] : List V) = [] ∧ a.length ≤ 5592405 ∧ Q (.str (Txt.upper a)) H1) ?_ h
  intro B F H io st rh σ x d t Q g hx hf ho
  obtain ⟨e, hf, rfl⟩ := dV_some hf
  cases d <;> simp only [uppD] at hf <;> try (cases hf; done)
  split at hf
  · rename_i hz
    cases hf
    cases hx
    exact ⟨⟨_, rfl⟩, _, rfl, rfl, by omega, ho.same g.sub (.str _)⟩
  · cases hf
end
/-- a method of a text with one argument -/
def eSM1 (f : Str → D → Option TV) (fa fb : Sm) : Sm := fun rh st => (fa rh st).bind fun t1 st1 => match t1 with
  | .d (.str x) => eOp1 (f x) fb rh st1
  | _ => .no
def sixS (a : Str) (d : D) : Option TV := dV (match d with
  | .str b => (match Builtin.Str.occurrences a b 0 a.length 1 with
    | i :: _ => some (.int (i : Nat))
    | [] => none)
  | _ => none)
def eM_index : Sm → Sm → Sm := eSM1 sixS
section
variable {X : Cx} {c : Ct} {W : WX} {a b e : Expr} {fa fb : Sm} {pos p p2 q : Pos} {B : Bs} {F H : Hp} {io : List Addr} {st : Sto} {rh : Rho} {σ : St}
theorem sm1_of {f : Str → D → Option TV} {r : V → List V → Hp → VK → Prop} (ok : ∀ x, Op1Ok c (fun y H Q => r (.str x) [y] H Q) (f x)) {σ : St} {H : Hp} {Q : VK} (h : den c W (eSM1 f fa fb) σ H Q) : tM1 r (den c W fa) (den c W fb) σ H Q := by
  obtain ⟨B, F, io, st, rh, g, p⟩ := h
  refine ⟨B, F, io, st, rh, g, Pst.bind g p fun t1 st1 x H1 F1 io1 e1 S1 g1 T1 p1 => ?_⟩
  cases t1 with
  | d d =>
    cases d with
    | str s =>
      cases T1
      exact ⟨⟨s, rfl⟩, op1_of (ok s) ⟨B, F1, io1, st1, rh, g1, p1⟩⟩
    | _ => exact p1.elim
  | _ => exact p1.elim
theorem pe_den_index {apos : Pos} (ha : PE X a (den c W fa)) (hb : PE X b (den c W fb)) (hn : notStar b = true) (hp : plainBase a = true) (hl : (apos.endLine == pos.line) = true) : PE X (.Call (.Attribute a "index" apos) [b] [] pos) (den c W (eM_index fa fb)) := by
  refine PE.weak (pe_m1 F.slot_str_index F.type_str_index mt_sindex ha hb (star_cons hn) (plainBase_ok hp) hl) fun σ H Q h => sm1_of (fun x => ?_) h
  intro B F H io st rh σ y d t Q g hx hf ho
  obtain ⟨e, hf2, rfl⟩ := dV_some hf
  clear hf
  cases d with
  | str z =>
    replace hf2 : (match Builtin.Str.occurrences x z 0 x.length 1 with
      | i :: _ => some (D.int (i : Nat))
      | [] => none) = some e := hf2
    split at hf2
    · rename_i i rest hi
      cases hf2
      cases hx
      exact ⟨x, z, i, rest, rfl, rfl, hi, ho.same g.sub (.int _)⟩
    · cases hf2
  | _ => cases hf2
end
end KL

namespace KL
open PySem L2

/-! ### from the text to functions on data -/
structure MI where
  cs : List (Str × D)
  fs : List (Str × Nat)
def bnames : List Str := ["len", "all", "any", "tuple", "list", "int", "str", "bool", "isinstance", "range", "enumerate", "zip", "sorted", "set"]
def ixOf (x : Str) : List Str → Option Nat
  | [] => none
  | y :: ys => if y = x then some 0 else (ixOf x ys).map (· + 1)
theorem ixOf_some {x : Str} : ∀ {N : List Str} {i : Nat}, ixOf x N = some i → N[i]? = some x
  | [], _, h => by cases h
  | y :: ys, i, h => by
    unfold ixOf at h
    split at h
    · rename_i e
      cases h
      rw [e]
      rfl
    · rw [Option.map_eq_some_iff] at h
      obtain ⟨j, e1, rfl⟩ := h
      simpa using ixOf_some e1
def optAll {α β : Type} (f : α → Option β) : List α → Option (List β)
  | [] => some []
  | a :: as => (f a).bind fun b => (optAll f as).map (b :: ·)
def grd {α : Type} (b : Bool) (o : Option α) : Option α := if b then o else none
theorem grd_some {α : Type} {b : Bool} {o : Option α} {a : α} (h : grd b o = some a) : b = true ∧ o = some a := by
  unfold grd at h
  split at h
  · rename_i e; exact ⟨e, h⟩
  · cases h
def vis (sc : Scope) (x : Str) : Bool := match sc.names.lookup x with
  | some .local => true
  | some .cell => true
  | some .free => true
  | _ => false
def glb (sc : Scope) (x : Str) : Bool := decide (sc.names.lookup x = some .globalImplicit)
def okN (x : Str) : Bool := !(x == ("__debug__" : Str)) && !(x == ("__classdict__" : Str))
def biOf (g : Str) : Option Bi := [Bi.len, .all, .any, .tuple, .list, .int, .str].find? fun b => decide (b.name = g)
def tyOf (g : Str) : Option Ty := [Ty.int, .str, .bool, .tuple, .list].find? fun t => decide (t.nm = g)
theorem biOf_some {g : Str} {b : Bi} (h : biOf g = some b) : b.name = g := by
  have := List.find?_some h
  simpa using this
theorem tyOf_some {g : Str} {b : Ty} (h : tyOf g = some b) : b.nm = g := by
  have := List.find?_some h
  simpa using this
def cBool (f : Expr → Option Sm) (op : BoolOp) : List Expr → Option Sm
  | [] => none
  | [a] => f a
  | a :: b :: rest => (f a).bind fun fa => (cBool f op (b :: rest)).map fun fr => match op with
    | .And => eAnd fa fr
    | .Or => eOr fa fr
def locN (sc : Scope) (cl : Bool) (x : Str) : Bool := decide (sc.names.lookup x = some .local) || (cl && decide (sc.names.lookup x = some .cell))
def cNm (N : List Str) (sc : Scope) (cl : Bool) : Expr → Option Nat
  | .Name x _ => grd (locN sc cl x) (ixOf x N)
  | _ => none
def cTg (N : List Str) (sc : Scope) (cl : Bool) : Expr → Option Tg
  | .Tuple es _ _ => (optAll (cNm N sc cl) es).map .tup
  | e => (cNm N sc cl e).map .name
def isTup : Expr → Bool
  | .Tuple _ _ _ => true
  | _ => false
def notSet : Expr → Bool
  | .Set _ _ _ => false
  | _ => true
/-- of a comprehension (one := iOne), of a loop (one := iOneP) -/
def cI (f : Expr → Option Sm) (sc : Scope) (one : (D → Option (List D)) → Sm → Im) (zp : Bool) (tg iter : Expr) : Option Im := match iter with
  | .Call (.Name g _) [a] [] _ =>
    if g = "range" then grd (glb sc g && notStar a) ((f a).map (iOne rng1))
    else if g = "enumerate" then grd (glb sc g && notStar a && isTup tg) ((f a).map (one enmD))
    else (f iter).map (one itemsD)
  | .Call (.Name g _) [a, b] [] _ =>
    if g = "range" then grd (glb sc g && notStar a && notStar b) ((f a).bind fun fa => (f b).map (iTwo rng2 fa))
    else if g = "zip" then grd (zp && glb sc g && notStar a && notStar b && isTup tg) ((f a).bind fun fa => (f b).map (iTwo zipD fa))
    else (f iter).map (one itemsD)
  | e => grd (notSet e) ((f e).map (one itemsD))
def ownOf (N : List Str) : List (Str × NameKind) → List (Str × Nat)
  | [] => []
  | (x, k) :: r => match k, ixOf x N with
    | .local, some i => (x, i) :: ownOf N r
    | .cell, some i => (x, i) :: ownOf N r
    | _, _ => ownOf N r
def cPart (f : Expr → Option Sm) : Option Expr → Option (Option Sm)
  | none => some none
  | some e => (f e).map some
def cIfs (f : Expr → Option Sm) : List Expr → Option (Option Sm)
  | [] => some none
  | [t] => (f t).map some
  | _ => none
/-- sorted(set(e)) -/
def cSort (f : Expr → Option Sm) (sc : Scope) (g : Str) : Expr → Option Sm
  | .Call (.Name h _) [x] [] _ => grd (decide (g = "sorted") && decide (h = "set") && glb sc h && notStar x) ((f x).map eSortSet)
  | _ => none
/-- methods of a text -/
def cMt0 (f : Expr → Option Sm) (m : Str) (a : Expr) (apos pos : Pos) : Option Sm := grd (plainBase a && (apos.endLine == pos.line)) (if m = "upper" then (f a).map eM_upper else none)
def cMt1 (f : Expr → Option Sm) (m : Str) (a b : Expr) (apos pos : Pos) : Option Sm := grd (plainBase a && notStar b && (apos.endLine == pos.line)) (if m = "index" then (f a).bind fun fa => (f b).map (eM_index fa) else none)
def cCall (M : MI) (G : Tbl) (f : Expr → Option Sm) (sc : Scope) (g : Str) (args : List Expr) : Option Sm :=
  grd (glb sc g && okN g) (match M.fs.lookup g with
    | some n => grd (args.all notStar) ((optAll f args).bind fun fs => if fs.length = n then some (eCall G g fs) else none)
    | none => (match args with
      | [a] => (match biOf g with
        | some b => grd (notStar a) ((f a).map (eB1 b))
        | none => cSort f sc g a)
      | [a, .Name t _] => grd (decide (g = "isinstance") && notStar a && glb sc t) ((tyOf t).bind fun ty => (f a).map (eIsi ty))
      | [a, .Tuple [.Name t _, .Name u _] _ _] => grd (decide (g = "isinstance") && notStar a && glb sc t && glb sc u) ((tyOf t).bind fun ty => (tyOf u).bind fun uy => (f a).map (eIsi2 ty uy))
      | _ => none))
def cX (M : MI) (G : Tbl) (N : List Str) : Nat → Bool → Scope → Expr → Option Sm
  | 0, _, _, _ => none
  | n + 1, true, sc, e => (match e with
    | .UnaryOp .Not x _ => (cX M G N n true sc x).map eNot
    | .BoolOp op es _ => cBool (cX M G N n true sc) op es
    | .Compare a [op] [b] _ => grd (!behindInMarks op b) ((cX M G N n false sc a).bind fun fa => (cX M G N n false sc b).map (eCmp op fa))
    | .Compare a [op, op'] [b, c] _ => grd (!lastMarks [op, op'] [b, c]) ((cX M G N n false sc a).bind fun fa => (cX M G N n false sc b).bind fun fb => (cX M G N n false sc c).map (eCmp2 op op' fa fb))
    | e => grd (plainT e) ((cX M G N n false sc e).map eTru))
  | n + 1, false, sc, e => (match e with
    | .Constant (.int i) _ _ => some (eC (.int i))
    | .Constant (.bool b) _ _ => some (eC (.bl b))
    | .Constant .none _ _ => some (eC .non)
    | .Constant (.str x) _ _ => some (eC (.str x))
    | .Name x _ => grd (okN x) (if vis sc x then (ixOf x N).map eVar else grd (glb sc x) ((M.cs.lookup x).map eC))
    | .Tuple es _ _ => grd (es.all notStar && decide (es.length ≤ 1000)) ((optAll (cX M G N n false sc) es).map eTup)
    | .List es _ => grd (es.all notStar && decide (es.length ≤ 1000)) ((optAll (cX M G N n false sc) es).map eLst)
    | .BinOp a op b _ => (cX M G N n false sc a).bind fun fa => (cX M G N n false sc b).map (eBin op fa)
    | .UnaryOp .Not a _ => (cX M G N n false sc a).map eNot
    | .UnaryOp .USub a _ => (cX M G N n false sc a).map eNeg
    | .BoolOp op es _ => cBool (cX M G N n false sc) op es
    | .Compare a [op] [b] _ => grd (!behindInMarks op b) ((cX M G N n false sc a).bind fun fa => (cX M G N n false sc b).map (eCmp op fa))
    | .Compare a [op, op'] [b, c] _ => grd (!lastMarks [op, op'] [b, c]) ((cX M G N n false sc a).bind fun fa => (cX M G N n false sc b).bind fun fb => (cX M G N n false sc c).map (eCmp2 op op' fa fb))
    | .IfExp t a b _ => (cX M G N n true sc t).bind fun ft => (cX M G N n false sc a).bind fun fa => (cX M G N n false sc b).map (eIf ft fa)
    | .Subscript a (.Slice lo hi none _) _ => (cX M G N n false sc a).bind fun fa => (cPart (cX M G N n false sc) lo).bind fun fl => (cPart (cX M G N n false sc) hi).map (eSlc fa fl)
    | .Subscript a (.Slice none none (some (.UnaryOp .USub (.Constant (.int 1) _ _) _)) _) _ => (cX M G N n false sc a).map eRev
    | .Subscript a b _ => grd (plainIx b) ((cX M G N n false sc a).bind fun fa => (cX M G N n false sc b).map (eIdx fa))
    | .Call (.Name g _) args [] _ => cCall M G (cX M G N n false sc) sc g args
    | .Call (.Attribute a m apos) [] [] pos => cMt0 (cX M G N n false sc) m a apos pos
    | .Call (.Attribute a m apos) [b] [] pos => cMt1 (cX M G N n false sc) m a b apos pos
    | .ListComp elt [gen] scope _ => grd (blkC N sc scope (ownOf N scope.names) && decide (gen.is_async = 0)) ((cTg N (relS scope sc) false gen.target).bind fun tg => grd (tg.slots.all fun i => decide (i ∈ (ownOf N scope.names).map (·.2)))
        ((cI (cX M G N n false sc) sc iOne true gen.target gen.iter).bind fun fi => (cIfs (cX M G N n true (relS scope sc)) gen.ifs).bind fun fc => (cX M G N n false (relS scope sc) elt).map (eComp ((ownOf N scope.names).map (·.2)) tg fi fc)))
    | _ => none)

/-! ### it is right -/
structure Env1 (X : Cx) (c : Ct) (M : MI) (G : Tbl) : Prop where
  free : ∀ x ∈ bnames, X.mg x = none
  cst : ∀ x d, M.cs.lookup x = some d → ∃ v u, X.mg x = some u ∧ RelV v u ∧ ∀ F io, Rv c F io v d
  fn : ∀ g n, M.fs.lookup g = some n → ∃ k f fd ps, FnAt X c G g n k f fd ps
structure Cx1 (X : Cx) (c : Ct) (M : MI) (G : Tbl) (N : List Str) (W : WX) (sc : Scope) : Prop where
  ok : Cok X c W
  N : X.N = N
  sc : X.env.scope = sc
  env : Env1 X c M G
def Snd (b : Bool) (X : Cx) (c : Ct) (W : WX) (e : Expr) (f : Sm) : Prop := match b with
  | true => PT X e (denT c W f)
  | false => PE X e (den c W f)
section
variable {X : Cx} {c : Ct} {M : MI} {G : Tbl} {N : List Str} {W : WX} {sc : Scope}
theorem glb_ok (C : Cx1 X c M G N W sc) {x : Str} (h : glb sc x = true) : Gl X x := by
  show X.env.scope.names.lookup x = _
  rw [C.sc]
  exact of_decide_eq_true h
theorem vis_ok (C : Cx1 X c M G N W sc) {x : Str} (h : vis sc x = true) : Vis X.env.scope x := by
  rw [C.sc]
  unfold vis at h
  unfold Vis
  split at h <;> simp_all
theorem okN_ok {x : Str} (h : okN x = true) : (x == ("__debug__" : Str)) = false ∧ (x == ("__classdict__" : Str)) = false := by
  unfold okN at h
  simpa using h
theorem fewer {fs : List Sm} (h : fs.length ≤ 1000) : fs.length ≤ sizeLine := Nat.le_of_lt (small1000 h)
theorem optAll_len {α β : Type} {f : α → Option β} : ∀ {as : List α} {bs : List β}, optAll f as = some bs → bs.length = as.length
  | [], _, h => by cases h; rfl
  | a :: as, bs, h => by
    simp only [optAll, Option.bind_eq_some_iff, Option.map_eq_some_iff] at h
    obtain ⟨b, _, bs', h2, rfl⟩ := h
    rw [List.length_cons, List.length_cons, optAll_len h2]
theorem pa_all {f : Expr → Option Sm} (hf : ∀ e g, f e = some g → PE X e (den c W g)) : ∀ {es : List Expr} {fs : List Sm}, optAll f es = some fs → es.all notStar = true → PA X es (denA c W fs)
  | [], _, h, _ => by cases h; exact pa_den_nil
  | e :: es, fs, h, hs => by
    simp only [optAll, Option.bind_eq_some_iff, Option.map_eq_some_iff] at h
    obtain ⟨b, h1, bs', h2, rfl⟩ := h
    rw [List.all_cons, Bool.and_eq_true] at hs
    exact pa_den_cons (hf e b h1) (pa_all hf h2 hs.2) hs.1
theorem cBool_pe {f : Expr → Option Sm} {op : BoolOp} {pos : Pos} (hf : ∀ e g, f e = some g → PE X e (den c W g)) : ∀ {es : List Expr} {g : Sm}, cBool f op es = some g → PE X (.BoolOp op es pos) (den c W g)
  | [], _, h => by cases h
  | [a], g, h => pe_one (hf a g h)
  | a :: b :: rest, g, h => by
    simp only [cBool, Option.bind_eq_some_iff, Option.map_eq_some_iff] at h
    obtain ⟨fa, h1, fr, h2, rfl⟩ := h
    have q := cBool_pe (pos := pos) hf h2
    cases op with
    | And => exact pe_den_and (hf a fa h1) q
    | Or => exact pe_den_or (hf a fa h1) q
theorem cBool_pw {f : Expr → Option Sm} {op : BoolOp} {pos : Pos} (hf : ∀ e g, f e = some g → PT X e (denT c W g)) : ∀ {es : List Expr} {g : Sm}, cBool f op es = some g → PW X (.BoolOp op es pos) (denT c W g)
  | [], _, h => by cases h
  | [a], g, h => by
    cases op with
    | And => exact pw_and1 (hf a g h)
    | Or => exact pw_or1 (hf a g h)
  | a :: b :: rest, g, h => by
    simp only [cBool, Option.bind_eq_some_iff, Option.map_eq_some_iff] at h
    obtain ⟨fa, h1, fr, h2, rfl⟩ := h
    have q := cBool_pw (pos := pos) hf h2
    cases op with
    | And => exact pw_den_and (hf a fa h1) q
    | Or => exact pw_den_or (hf a fa h1) q
theorem mem_bn {x : Str} (C : Cx1 X c M G N W sc) (h : bnames.contains x = true) : X.mg x = none := C.env.free x (by simpa using h)
theorem bi_free (C : Cx1 X c M G N W sc) (b : Bi) : X.mg b.name = none := by cases b <;> exact mem_bn C (by decide +kernel)
theorem ty_free (C : Cx1 X c M G N W sc) (b : Ty) : X.mg b.nm = none := by cases b <;> exact mem_bn C (by decide +kernel)
theorem cCall_ok (C : Cx1 X c M G N W sc) {f : Expr → Option Sm} (hf : ∀ e g, f e = some g → PE X e (den c W g)) {g : Str} {args : List Expr} {h : Sm} {p pos : Pos} (e : cCall M G f sc g args = some h) : PE X (.Call (.Name g p) args [] pos) (den c W h) := by
  unfold cCall at e
  have hg := (grd_some e).1
  replace e := (grd_some e).2
  rw [Bool.and_eq_true] at hg
  have gl := glb_ok C hg.1
  have od := okN_ok hg.2
  split at e
  · rename_i n hn
    have hs := (grd_some e).1
    replace e := (grd_some e).2
    rw [Option.bind_eq_some_iff] at e
    obtain ⟨fs, h1, e⟩ := e
    split at e
    · rename_i hl
      cases e
      obtain ⟨k, fa, fd, ps, A⟩ := C.env.fn g n hn
      cases args with
      | nil =>
        cases h1
        cases hl
        exact pe_den_call0 C.ok A gl od.1
      | cons a as => exact pe_den_call C.ok A gl (pa_all hf h1 hs) hl od.1 hs
    · cases e
  · split at e
    · rename_i a
      split at e
      · rename_i b hb
        have hs := (grd_some e).1
        replace e := (grd_some e).2
        rw [Option.map_eq_some_iff] at e
        obtain ⟨fa, h1, rfl⟩ := e
        cases biOf_some hb
        exact pe_b1 b C.ok.hK C.ok.calm gl (bi_free C b) (hf a fa h1) hs
      · unfold cSort at e
        split at e
        · rename_i h1 p2 x q
          have hs := (grd_some e).1
          replace e := (grd_some e).2
          simp only [Bool.and_eq_true, decide_eq_true_eq] at hs
          obtain ⟨⟨⟨rfl, rfl⟩, hs2⟩, hs3⟩ := hs
          rw [Option.map_eq_some_iff] at e
          obtain ⟨fa, h2, rfl⟩ := e
          exact pe_srtset C.ok.hK C.ok.calm gl (mem_bn C (by decide +kernel)) (glb_ok C hs2) (mem_bn C (by decide +kernel)) (hf x fa h2) hs3
        · cases e
    · rename_i a t p2
      have hs := (grd_some e).1
      replace e := (grd_some e).2
      simp only [Bool.and_eq_true, decide_eq_true_eq] at hs
      obtain ⟨⟨rfl, hs1⟩, hs2⟩ := hs
      rw [Option.bind_eq_some_iff] at e
      obtain ⟨ty, h0, e⟩ := e
      rw [Option.map_eq_some_iff] at e
      obtain ⟨fa, h1, rfl⟩ := e
      cases tyOf_some h0
      exact pe_isi ty C.ok.hK gl (mem_bn C (by decide +kernel)) (glb_ok C hs2) (ty_free C ty) (hf a fa h1) hs1
    · rename_i a t p2 u p3 k p4
      have hs := (grd_some e).1
      replace e := (grd_some e).2
      simp only [Bool.and_eq_true, decide_eq_true_eq] at hs
      obtain ⟨⟨⟨rfl, hs1⟩, hs2⟩, hs3⟩ := hs
      rw [Option.bind_eq_some_iff] at e
      obtain ⟨ty, h0, e⟩ := e
      rw [Option.bind_eq_some_iff] at e
      obtain ⟨uy, h00, e⟩ := e
      rw [Option.map_eq_some_iff] at e
      obtain ⟨fa, h1, rfl⟩ := e
      cases tyOf_some h0
      cases tyOf_some h00
      exact pe_isi2 ty uy C.ok.hK gl (mem_bn C (by decide +kernel)) (glb_ok C hs2) (ty_free C ty) (glb_ok C hs3) (ty_free C uy) (hf a fa h1) hs1
    · cases e
theorem cMt0_ok {f : Expr → Option Sm} (hf : ∀ e g, f e = some g → PE X e (den c W g)) {m : Str} {a : Expr} {apos pos : Pos} {h : Sm} (e : cMt0 f m a apos pos = some h) : PE X (.Call (.Attribute a m apos) [] [] pos) (den c W h) := by
  unfold cMt0 at e
  have h0 := (grd_some e).1
  replace e := (grd_some e).2
  rw [Bool.and_eq_true] at h0
  split at e
  · rename_i hm
    subst hm
    rw [Option.map_eq_some_iff] at e
    obtain ⟨fa, h1, rfl⟩ := e
    exact pe_den_upper (hf a fa h1) h0.1 h0.2
  · cases e
theorem cMt1_ok {f : Expr → Option Sm} (hf : ∀ e g, f e = some g → PE X e (den c W g)) {m : Str} {a b : Expr} {apos pos : Pos} {h : Sm} (e : cMt1 f m a b apos pos = some h) : PE X (.Call (.Attribute a m apos) [b] [] pos) (den c W h) := by
  unfold cMt1 at e
  have h0 := (grd_some e).1
  replace e := (grd_some e).2
  simp only [Bool.and_eq_true] at h0
  split at e
  · rename_i hm
    subst hm
    rw [Option.bind_eq_some_iff] at e
    obtain ⟨fa, h1, e⟩ := e
    rw [Option.map_eq_some_iff] at e
    obtain ⟨fb, h2, rfl⟩ := e
    exact pe_den_index (hf a fa h1) (hf b fb h2) h0.1.2 h0.1.1 h0.2
  · cases e
end
end KL

namespace KL
open PySem L2

section
variable {X : Cx} {c : Ct} {M : MI} {G : Tbl} {N : List Str} {W : WX} {sc : Scope}
theorem fold_ok {e : Expr} {env : Env} (h : notSet e = true) (x : Value) : foldedSetIterable e env x = pure x := by
  cases e <;> first | rfl | cases h
theorem cI_set {f : Expr → Option Sm} {one : (D → Option (List D)) → Sm → Im} {zp : Bool} {tg iter : Expr} {fi : Im} (e : cI f sc one zp tg iter = some fi) : notSet iter = true := by
  unfold cI at e
  split at e
  · rfl
  · rfl
  · exact (grd_some e).1
theorem cI_s (C : Cx1 X c M G N W sc) {f : Expr → Option Sm} (hf : ∀ e g, f e = some g → PE X e (den c W g)) {zp : Bool} {tg iter : Expr} {fi : Im} (e : cI f sc iOne zp tg iter = some fi) : PI X tg iter (denI c W (YldS c) fi) := by
  unfold cI at e
  split at e
  · rename_i g p a pos
    split at e
    · rename_i hg
      subst hg
      have h0 := (grd_some e).1
      replace e := (grd_some e).2
      rw [Bool.and_eq_true] at h0
      rw [Option.map_eq_some_iff] at e
      obtain ⟨fa, h1, rfl⟩ := e
      exact pi_rng1 (fun J F io H ds h => fun F2 io2 H2 st2 S s2 => h F2 io2 H2 st2 S.sub s2) (glb_ok C h0.1) (mem_bn C (by decide +kernel)) (hf a fa h1) h0.2
    · split at e
      · rename_i hg
        subst hg
        have h0 := (grd_some e).1
        replace e := (grd_some e).2
        simp only [Bool.and_eq_true] at h0
        rw [Option.map_eq_some_iff] at e
        obtain ⟨fa, h1, rfl⟩ := e
        cases tg with
        | Tuple elts k tp => exact pi_enm C.ok.hK (glb_ok C h0.1.1) (mem_bn C (by decide +kernel)) (hf a fa h1) h0.1.2
        | _ => cases h0.2
      · rw [Option.map_eq_some_iff] at e
        obtain ⟨fa, h1, rfl⟩ := e
        exact pi_seq C.ok.hK (hf _ fa h1)
  · rename_i g p a b pos
    split at e
    · rename_i hg
      subst hg
      have h0 := (grd_some e).1
      replace e := (grd_some e).2
      simp only [Bool.and_eq_true] at h0
      rw [Option.bind_eq_some_iff] at e
      obtain ⟨fa, h1, e⟩ := e
      rw [Option.map_eq_some_iff] at e
      obtain ⟨fb, h2, rfl⟩ := e
      exact pi_rng2 (fun J F io H ds h => fun F2 io2 H2 st2 S s2 => h F2 io2 H2 st2 S.sub s2) (glb_ok C h0.1.1) (mem_bn C (by decide +kernel)) (hf a fa h1) (hf b fb h2) h0.1.2 h0.2
    · split at e
      · rename_i hg
        subst hg
        have h0 := (grd_some e).1
        replace e := (grd_some e).2
        simp only [Bool.and_eq_true] at h0
        rw [Option.bind_eq_some_iff] at e
        obtain ⟨fa, h1, e⟩ := e
        rw [Option.map_eq_some_iff] at e
        obtain ⟨fb, h2, rfl⟩ := e
        cases tg with
        | Tuple elts k tp => exact pi_zp C.ok.hK (glb_ok C h0.1.1.1.2) (mem_bn C (by decide +kernel)) (hf a fa h1) (hf b fb h2) h0.1.1.2 h0.1.2
        | _ => cases h0.2
      · rw [Option.map_eq_some_iff] at e
        obtain ⟨fa, h1, rfl⟩ := e
        exact pi_seq C.ok.hK (hf _ fa h1)
  · replace e := (grd_some e).2
    rw [Option.map_eq_some_iff] at e
    obtain ⟨fa, h1, rfl⟩ := e
    exact pi_seq C.ok.hK (hf _ fa h1)
theorem cI_p (C : Cx1 X c M G N W sc) {f : Expr → Option Sm} (hf : ∀ e g, f e = some g → PE X e (den c W g)) {tg iter : Expr} {fi : Im} (e : cI f sc iOneP false tg iter = some fi) : PI X tg iter (denI c W (YldP c) fi) := by
  unfold cI at e
  split at e
  · rename_i g p a pos
    split at e
    · rename_i hg
      subst hg
      have h0 := (grd_some e).1
      replace e := (grd_some e).2
      rw [Bool.and_eq_true] at h0
      rw [Option.map_eq_some_iff] at e
      obtain ⟨fa, h1, rfl⟩ := e
      exact pi_rng1 (fun J F io H ds h => fun F2 io2 H2 st2 _ hs s2 => h F2 io2 H2 st2 hs s2) (glb_ok C h0.1) (mem_bn C (by decide +kernel)) (hf a fa h1) h0.2
    · split at e
      · rename_i hg
        subst hg
        have h0 := (grd_some e).1
        replace e := (grd_some e).2
        simp only [Bool.and_eq_true] at h0
        rw [Option.map_eq_some_iff] at e
        obtain ⟨fa, h1, rfl⟩ := e
        cases tg with
        | Tuple elts k tp => exact pi_enmP C.ok.hK (glb_ok C h0.1.1) (mem_bn C (by decide +kernel)) (hf a fa h1) h0.1.2
        | _ => cases h0.2
      · rw [Option.map_eq_some_iff] at e
        obtain ⟨fa, h1, rfl⟩ := e
        exact pi_seqP C.ok.hK (hf _ fa h1)
  · rename_i g p a b pos
    split at e
    · rename_i hg
      subst hg
      have h0 := (grd_some e).1
      replace e := (grd_some e).2
      simp only [Bool.and_eq_true] at h0
      rw [Option.bind_eq_some_iff] at e
      obtain ⟨fa, h1, e⟩ := e
      rw [Option.map_eq_some_iff] at e
      obtain ⟨fb, h2, rfl⟩ := e
      exact pi_rng2 (fun J F io H ds h => fun F2 io2 H2 st2 _ hs s2 => h F2 io2 H2 st2 hs s2) (glb_ok C h0.1.1) (mem_bn C (by decide +kernel)) (hf a fa h1) (hf b fb h2) h0.1.2 h0.2
    · split at e
      · have h0 := (grd_some e).1
        simp only [Bool.and_eq_true] at h0
        cases h0.1.1.1.1
      · rw [Option.map_eq_some_iff] at e
        obtain ⟨fa, h1, rfl⟩ := e
        exact pi_seqP C.ok.hK (hf _ fa h1)
  · replace e := (grd_some e).2
    rw [Option.map_eq_some_iff] at e
    obtain ⟨fa, h1, rfl⟩ := e
    exact pi_seqP C.ok.hK (hf _ fa h1)
/-- a target's reading -/
def gOf (K : PySem.W.Frag) : Tg → TG
  | .name i => gName i
  | .tup is => gTup K is.length (gNames is)
theorem gOf_ok {K : PySem.W.Frag} (hK : K = c.K) (t : Tg) : TgOk c t (gOf K t) := by
  cases t with
  | name i => exact tg_name i
  | tup is => exact tg_tup hK is
theorem cNm_ok (hnd : X.N.Nodup) (hN : X.N = N) (hsc : X.env.scope = sc) {cl : Bool} (hfn : cl = true → ∀ x, X.fn x = true) {e : Expr} {i : Nat} (h : cNm N sc cl e = some i) : ∃ x p, e = .Name x p ∧ PG X e (gName i) := by
  cases e with
  | Name x p =>
    have h0 := (grd_some h).1
    replace h := (grd_some h).2
    refine ⟨x, p, rfl, ?_⟩
    unfold locN at h0
    simp only [Bool.or_eq_true, Bool.and_eq_true, decide_eq_true_eq] at h0
    rcases h0 with h0 | ⟨h0, h1⟩
    · exact pg_name hnd (by rw [hN]; exact ixOf_some h) (.inl (by rw [hsc]; exact h0)) (.inr (by rw [hsc]; exact h0))
    · exact pg_name hnd (by rw [hN]; exact ixOf_some h) (.inr (by rw [hsc]; exact h1)) (.inl (hfn h0 x))
  | _ => cases h
theorem cNms_ok (hnd : X.N.Nodup) (hN : X.N = N) (hsc : X.env.scope = sc) {cl : Bool} (hfn : cl = true → ∀ x, X.fn x = true) : ∀ {es : List Expr} {is : List Nat}, optAll (cNm N sc cl) es = some is → PGs X es (gNames is) ∧ (assignEach es X.env).length = is.length ∧ (assignEach es X.env).findIdx? (·.1) = none
  | [], _, h => by cases h; exact ⟨pgs_nil, rfl, rfl⟩
  | e :: es, is, h => by
    simp only [optAll, Option.bind_eq_some_iff, Option.map_eq_some_iff] at h
    obtain ⟨i, h1, is', h2, rfl⟩ := h
    obtain ⟨x, p, rfl, q⟩ := cNm_ok hnd hN hsc hfn h1
    obtain ⟨q1, q2, q3⟩ := cNms_ok hnd hN hsc hfn h2
    refine ⟨pgs_cons q q1, ?_, ?_⟩
    · show (assignEach es X.env).length + 1 = is'.length + 1
      rw [q2]
    · show List.findIdx? (·.1) ((false, _) :: assignEach es X.env) = none
      rw [List.findIdx?_cons]
      simp [q3]
theorem cTg_ok (hnd : X.N.Nodup) (hN : X.N = N) (hsc : X.env.scope = sc) (hcalm : X.calm = true) {cl : Bool} (hfn : cl = true → ∀ x, X.fn x = true) {tg : Expr} {t : Tg} (h : cTg N sc cl tg = some t) : PG X tg (gOf X.K t) := by
  unfold cTg at h
  split at h
  · rename_i es k p
    rw [Option.map_eq_some_iff] at h
    obtain ⟨is, h1, rfl⟩ := h
    obtain ⟨q1, q2, q3⟩ := cNms_ok hnd hN hsc hfn h1
    exact pg_tup hcalm q1 q2 q3
  · rw [Option.map_eq_some_iff] at h
    obtain ⟨i, h1, rfl⟩ := h
    obtain ⟨x, p, e, q⟩ := cNm_ok hnd hN hsc hfn h1
    exact q
theorem Cx1.blk (C : Cx1 X c M G N W sc) (s : Shared) (H : Hp) (scope : Scope) (cl : List (Str × Addr)) (a : Addr) (fp : List Addr) : Cx1 (X.blk s H scope (compEnvC scope cl a X.env) fp) c M G N W0 (relS scope sc) := by
  refine ⟨⟨C.ok.hK, C.ok.nd, C.ok.calm, C.ok.hu, fun u s' x => ?_⟩, C.N, ?_, ⟨C.env.free, C.env.cst, fun g n h => ?_⟩⟩
  · obtain ⟨_, _, _, _, _, _, _, _, _, _, _, _, _, _, _, _, w⟩ := x
    exact w.elim
  · rw [← C.sc]; rfl
  · obtain ⟨k, f, fd, ps, A⟩ := C.env.fn g n h
    exact ⟨k, f, fd, ps, ⟨A.ok, A.room, A.glo, A.keep, A.bnd⟩⟩
/-- all that a comprehension's rule asks -/
structure CompP (X : Cx) (c : Ct) (W : WX) (elt tgE iter : Expr) (ifs : List Expr) (scope : Scope) (own : List (Str × Nat)) (tg : Tg) (fi : Im) (fc : Option Sm) (fe : Sm) (tt : TT) : Prop where
  hi : PI X tgE iter (denI c W (YldS c) fi)
  ok : BlkOk X.N X.env.scope scope own
  hg : ∀ (s : Shared) (H : Hp) (C : Addr) (cl : List (Str × Addr)) (fp : List Addr), PG (X.blk s H scope (compEnvC scope cl C X.env) fp) tgE (gOf X.K tg)
  ht : ∀ (s : Shared) (H : Hp) (C : Addr) (cl : List (Str × Addr)) (fp : List Addr), PTs (X.blk s H scope (compEnvC scope cl C X.env) fp) ifs tt
  hto : CtOk c fc tt
  he : ∀ (s : Shared) (H : Hp) (C : Addr) (cl : List (Str × Addr)) (fp : List Addr), PE (X.blk s H scope (compEnvC scope cl C X.env) fp) elt (den c W0 fe)
  hs : notSet iter = true
  hsl : ∀ i ∈ tg.slots, i ∈ own.map (·.2)
def cComp (M : MI) (G : Tbl) (N : List Str) (n : Nat) (sc : Scope) (elt : Expr) (gen : Comprehension) (scope : Scope) : Option Sm :=
  grd (blkC N sc scope (ownOf N scope.names) && decide (gen.is_async = 0)) ((cTg N (relS scope sc) false gen.target).bind fun tg => grd (tg.slots.all fun i => decide (i ∈ (ownOf N scope.names).map (·.2)))
        ((cI (cX M G N n false sc) sc iOne true gen.target gen.iter).bind fun fi => (cIfs (cX M G N n true (relS scope sc)) gen.ifs).bind fun fc => (cX M G N n false (relS scope sc) elt).map (eComp ((ownOf N scope.names).map (·.2)) tg fi fc)))
theorem comp_inv {n : Nat} (IH : ∀ b sc e f, cX M G N n b sc e = some f → ∀ (X : Cx) (W : WX), Cx1 X c M G N W sc → Snd b X c W e f) (C : Cx1 X c M G N W sc) {elt : Expr} {gen : Comprehension} {scope : Scope} {f : Sm} (h : cComp M G N n sc elt gen scope = some f) :
    ∃ tg fi fc fe tt, f = eComp ((ownOf N scope.names).map (·.2)) tg fi fc fe ∧ gen = ⟨gen.target, gen.iter, gen.ifs, 0⟩ ∧ CompP X c W elt gen.target gen.iter gen.ifs scope (ownOf N scope.names) tg fi fc fe tt := by
  unfold cComp at h
  have h0 := (grd_some h).1
  replace h := (grd_some h).2
  rw [Bool.and_eq_true] at h0
  rw [Option.bind_eq_some_iff] at h
  obtain ⟨tg, h1, h⟩ := h
  have h2 := (grd_some h).1
  replace h := (grd_some h).2
  rw [Option.bind_eq_some_iff] at h
  obtain ⟨fi, h3, h⟩ := h
  rw [Option.bind_eq_some_iff] at h
  obtain ⟨fc, h4, h⟩ := h
  rw [Option.map_eq_some_iff] at h
  obtain ⟨fe, h5, rfl⟩ := h
  have ha : gen.is_async = 0 := of_decide_eq_true h0.2
  have hblk : BlkOk X.N X.env.scope scope (ownOf N scope.names) := by
    rw [C.N, C.sc]
    exact blkOk_by h0.1
  have tts : ∃ tt, CtOk c fc tt ∧ ∀ (s : Shared) (H : Hp) (C : Addr) (cl : List (Str × Addr)) (fp : List Addr), PTs (X.blk s H scope (compEnvC scope cl C X.env) fp) gen.ifs tt := by
    unfold cIfs at h4
    split at h4
    · rename_i e
      cases h4
      rw [e]
      exact ⟨tYes, .inl ⟨rfl, rfl⟩, fun _ _ _ _ _ => pts_nil⟩
    · rename_i t e
      rw [Option.map_eq_some_iff] at h4
      obtain ⟨g, h4, rfl⟩ := h4
      rw [e]
      exact ⟨denT c W0 g, .inr ⟨g, rfl, rfl⟩, fun s H a cl fp => pts_one (IH true _ t g h4 _ W0 (C.blk s H scope cl a fp))⟩
    · cases h4
  obtain ⟨tt, k1, k2⟩ := tts
  refine ⟨tg, fi, fc, fe, tt, rfl, ?_, ⟨cI_s C (fun e g q => IH false sc e g q X W C) h3, hblk, fun s H a cl fp => ?_, k2, k1, fun s H a cl fp => IH false _ elt fe h5 _ W0 (C.blk s H scope cl a fp), cI_set h3, fun i hi => of_decide_eq_true (List.all_eq_true.mp h2 i hi)⟩⟩
  · cases gen
    simp only at ha
    subst ha
    rfl
  · have B := C.blk s H scope cl a fp
    exact cTg_ok (cl := false) B.ok.nd B.N B.sc B.ok.calm (fun z => nomatch z) h1
theorem CompP.pe (C : Cok X c W) {elt tgE iter : Expr} {ifs : List Expr} {scope : Scope} {own : List (Str × Nat)} {tg : Tg} {fi : Im} {fc : Option Sm} {fe : Sm} {tt : TT} {pos : Pos} (h : CompP X c W elt tgE iter ifs scope own tg fi fc fe tt) :
    PE X (.ListComp elt [⟨tgE, iter, ifs, 0⟩] scope pos) (den c W (eComp (own.map (·.2)) tg fi fc fe)) :=
  pe_den_comp C h.hi h.ok h.hg (gOf_ok C.hK tg) h.ht h.hto h.he (fold_ok h.hs) h.hsl
theorem CompP.ps (C : Cok X c W) {elt tgE iter : Expr} {ifs : List Expr} {scope : Scope} {own : List (Str × Nat)} {tg : Tg} {fi : Im} {fc : Option Sm} {fe : Sm} {tt : TT} {pos py spos : Pos} {i : Nat} {y : Str} {ow : Bool} (h : CompP X c W elt tgE iter ifs scope own tg fi fc fe tt) (hy : X.N[i]? = some y) (hyl : X.env.scope.names.lookup y = some .local)
    (hsw : swapsWith (.ListComp elt [⟨tgE, iter, ifs, 0⟩] scope pos) (some (.Name y py)) spos.line X.env = pure true) :
    PS X (.Assign [.Name y py] (.ListComp elt [⟨tgE, iter, ifs, 0⟩] scope pos) spos) (denS c W (sAsg ow i (eComp (own.map (·.2)) tg fi fc fe))) :=
  PS.weak (ps_setLc C.calm C.nd hy hyl hsw h.hi h.ok h.hg h.ht h.he (fold_ok h.hs)) fun D σ H q => comp_of (gOf_ok C.hK tg) h.hto h.hsl (asg_of q)
theorem po_part {f : Expr → Option Sm} (hf : ∀ e g, f e = some g → PE X e (den c W g)) {o : Option Expr} {fo : Option Sm} (h : cPart f o = some fo) : PO X o (denO c W fo) := by
  cases o with
  | none => cases h; exact po_den_none
  | some e =>
    simp only [cPart, Option.map_eq_some_iff] at h
    obtain ⟨g, h1, rfl⟩ := h
    exact po_den_some (hf e g h1)
/-- THE expression's theorem -/
theorem cX_ok : ∀ (n : Nat) (b : Bool) (sc : Scope) (e : Expr) (f : Sm), cX M G N n b sc e = some f → ∀ (X : Cx) (W : WX), Cx1 X c M G N W sc → Snd b X c W e f
  | 0, _, _, _, _, h, _, _, _ => by cases h
  | n + 1, true, sc, e, f, h, X, W, C => by
    have IH := cX_ok n
    have E : ∀ e g, cX M G N n false sc e = some g → PE X e (den c W g) := fun e g q => IH false sc e g q X W C
    have T : ∀ e g, cX M G N n true sc e = some g → PT X e (denT c W g) := fun e g q => IH true sc e g q X W C
    show PT X e (denT c W f)
    unfold cX at h
    split at h
    · rename_i x p
      rw [Option.map_eq_some_iff] at h
      obtain ⟨g, h1, rfl⟩ := h
      exact pt_den_not (T x g h1)
    · exact (cBool_pw T h).pt
    · have h0 := (grd_some h).1
      replace h := (grd_some h).2
      rw [Option.bind_eq_some_iff] at h
      obtain ⟨fa, h1, h⟩ := h
      rw [Option.map_eq_some_iff] at h
      obtain ⟨fb, h2, rfl⟩ := h
      exact pt_den_cmp C.ok (E _ fa h1) (E _ fb h2) (by simpa using h0)
    · have h0 := (grd_some h).1
      replace h := (grd_some h).2
      rw [Option.bind_eq_some_iff] at h
      obtain ⟨fa, h1, h⟩ := h
      rw [Option.bind_eq_some_iff] at h
      obtain ⟨fb, h2, h⟩ := h
      rw [Option.map_eq_some_iff] at h
      obtain ⟨fc, h3, rfl⟩ := h
      exact pt_den_cmp2 C.ok (E _ fa h1) (E _ fb h2) (E _ fc h3) (by simpa using h0)
    · have h0 := (grd_some h).1
      replace h := (grd_some h).2
      rw [Option.map_eq_some_iff] at h
      obtain ⟨fa, h1, rfl⟩ := h
      exact pt_den_tru C.ok (E _ fa h1) h0
  | n + 1, false, sc, e, f, h, X, W, C => by
    have IH := cX_ok n
    have E : ∀ e g, cX M G N n false sc e = some g → PE X e (den c W g) := fun e g q => IH false sc e g q X W C
    have T : ∀ e g, cX M G N n true sc e = some g → PT X e (denT c W g) := fun e g q => IH true sc e g q X W C
    show PE X e (den c W f)
    unfold cX at h
    split at h
    · cases h; exact pe_den_c pe_int fun _ _ => .int _
    · cases h; exact pe_den_c pe_bl fun _ _ => .bl _
    · cases h; exact pe_den_c pe_non fun _ _ => .non
    · cases h; exact pe_den_c pe_str fun _ _ => .str _
    · rename_i x p
      have h0 := okN_ok (grd_some h).1
      replace h := (grd_some h).2
      split at h
      · rename_i hv
        rw [Option.map_eq_some_iff] at h
        obtain ⟨i, h1, rfl⟩ := h
        exact pe_den_var (by rw [C.N]; exact ixOf_some h1) (vis_ok C hv) h0.1 h0.2
      · have h2 := (grd_some h).1
        replace h := (grd_some h).2
        rw [Option.map_eq_some_iff] at h
        obtain ⟨d, h1, rfl⟩ := h
        obtain ⟨v, u, e1, e2, e3⟩ := C.env.cst x d h1
        exact pe_den_c (pe_glob (glb_ok C h2) e1 e2 h0.1) e3
    · have h0 := (grd_some h).1
      replace h := (grd_some h).2
      simp only [Bool.and_eq_true, decide_eq_true_eq] at h0
      rw [Option.map_eq_some_iff] at h
      obtain ⟨fs, h1, rfl⟩ := h
      exact pe_den_tup (pa_all E h1 h0.1) (fewer (by rw [optAll_len h1]; exact h0.2))
    · have h0 := (grd_some h).1
      replace h := (grd_some h).2
      simp only [Bool.and_eq_true, decide_eq_true_eq] at h0
      rw [Option.map_eq_some_iff] at h
      obtain ⟨fs, h1, rfl⟩ := h
      exact pe_den_lst (pa_all E h1 h0.1) (fewer (by rw [optAll_len h1]; exact h0.2))
    · rw [Option.bind_eq_some_iff] at h
      obtain ⟨fa, h1, h⟩ := h
      rw [Option.map_eq_some_iff] at h
      obtain ⟨fb, h2, rfl⟩ := h
      exact pe_den_bin C.ok (E _ fa h1) (E _ fb h2)
    · rw [Option.map_eq_some_iff] at h
      obtain ⟨fa, h1, rfl⟩ := h
      exact pe_den_not (E _ fa h1)
    · rw [Option.map_eq_some_iff] at h
      obtain ⟨fa, h1, rfl⟩ := h
      exact pe_den_neg (E _ fa h1)
    · exact cBool_pe E h
    · have h0 := (grd_some h).1
      replace h := (grd_some h).2
      rw [Option.bind_eq_some_iff] at h
      obtain ⟨fa, h1, h⟩ := h
      rw [Option.map_eq_some_iff] at h
      obtain ⟨fb, h2, rfl⟩ := h
      exact pe_den_cmp C.ok (E _ fa h1) (E _ fb h2) (by simpa using h0)
    · have h0 := (grd_some h).1
      replace h := (grd_some h).2
      rw [Option.bind_eq_some_iff] at h
      obtain ⟨fa, h1, h⟩ := h
      rw [Option.bind_eq_some_iff] at h
      obtain ⟨fb, h2, h⟩ := h
      rw [Option.map_eq_some_iff] at h
      obtain ⟨fc, h3, rfl⟩ := h
      exact pe_den_cmp2 C.ok (E _ fa h1) (E _ fb h2) (E _ fc h3) (by simpa using h0)
    · rw [Option.bind_eq_some_iff] at h
      obtain ⟨ft, h0, h⟩ := h
      rw [Option.bind_eq_some_iff] at h
      obtain ⟨fa, h1, h⟩ := h
      rw [Option.map_eq_some_iff] at h
      obtain ⟨fb, h2, rfl⟩ := h
      exact pe_den_if (T _ ft h0) (E _ fa h1) (E _ fb h2)
    · rw [Option.bind_eq_some_iff] at h
      obtain ⟨fa, h1, h⟩ := h
      rw [Option.bind_eq_some_iff] at h
      obtain ⟨fl, h2, h⟩ := h
      rw [Option.map_eq_some_iff] at h
      obtain ⟨fh, h3, rfl⟩ := h
      exact pe_den_slc C.ok (E _ fa h1) (po_part E h2) (po_part E h3)
    · rw [Option.map_eq_some_iff] at h
      obtain ⟨fa, h1, rfl⟩ := h
      exact pe_den_rev C.ok.hK (E _ fa h1)
    · have h0 := (grd_some h).1
      replace h := (grd_some h).2
      rw [Option.bind_eq_some_iff] at h
      obtain ⟨fa, h1, h⟩ := h
      rw [Option.map_eq_some_iff] at h
      obtain ⟨fb, h2, rfl⟩ := h
      exact pe_den_idx C.ok (E _ fa h1) (E _ fb h2) h0
    · exact cCall_ok C E h
    · exact cMt0_ok E h
    · exact cMt1_ok E h
    · rename_i elt gen scope pos
      obtain ⟨tg, fi, fc, fe, tt, rfl, eg, P⟩ := comp_inv IH C h
      rw [eg]
      exact P.pe C.ok
    · cases h
end
end KL

namespace KL
open PySem L2

/-! ### statements -/
def notComp : Expr → Bool
  | .ListComp _ _ _ _ => false
  | .SetComp _ _ _ _ => false
  | .DictComp _ _ _ _ _ => false
  | _ => true
theorem swaps_no {e : Expr} {t : Option Expr} {l : Nat} {env : Env} (h : notComp e = true) : swapsWith e t l env = pure false := by
  cases e <;> first | rfl | cases h
theorem sole_no {t : Expr} {e : Expr} {l : Nat} {env : Env} (h : notComp e = true) : swapsWithSole [t] e l env = pure false := swaps_no h
theorem stores_no {ts : List Expr} {k : Nat} {p : Pos} {e : Expr} {env : Env} (h : isTup e = false) : swappedStores [.Tuple ts k p] e env = pure none := by
  cases e <;> first | rfl | cases h
def par2 (sc : Scope) (x y : Str) (px py : Pos) (a b : Expr) : Bool :=
  decide (sc.kind = .function) && decide (sc.names.lookup x = some .local) && decide (sc.names.lookup y = some .local) && decide (py.line = px.line) && decide (x ≠ y) && notStar a && notStar b && !([a, b].all (foldedForSure 8)) && !([a, b].all (constantsAlone 8))
theorem par2_ok {sc : Scope} {env : Env} (hsc : env.scope = sc) {x y : Str} {px py pt p2 : Pos} {a b : Expr} {kt k2 : Nat} (h : par2 sc x y px py a b = true) : swappedStores [.Tuple [.Name x px, .Name y py] kt pt] (.Tuple [a, b] k2 p2) env = pure (some [x, y]) := by
  unfold par2 at h
  simp only [Bool.and_eq_true, decide_eq_true_eq, Bool.not_eq_true'] at h
  obtain ⟨⟨⟨⟨⟨⟨⟨⟨h1, h2⟩, h3⟩, h4⟩, h5⟩, h6⟩, h7⟩, h8⟩, h9⟩ := h
  have hb : env.blockKind = .function := by
    unfold Env.blockKind
    rw [hsc, h1]
    rfl
  have kx : env.kindOf x = some .local := by show env.scope.names.lookup x = _; rw [hsc]; exact h2
  have ky : env.kindOf y = some .local := by show env.scope.names.lookup y = _; rw [hsc]; exact h3
  have hd : ([x, y] : List Str).eraseDups.length = 2 := by
    have e : (x == y) = false := by simpa using h5
    have e' : (y == x) = false := by simpa using Ne.symm h5
    simp [List.eraseDups_cons, List.filter_cons, e, e']
  unfold swappedStores
  simp only [hb, kx, ky, Expr.pos, h4, List.head?_cons, Option.map_some, Option.getD_some, List.filterMap_cons, List.filterMap_nil, beq_self_eq_true, Bool.and_self, if_true, h8, h9, hd, List.length_cons, List.length_nil]
  clear h8 h9
  have go : ∀ {α : Type} (a b : Expr) (t u : α), notStar a = true → notStar b = true → (if ([a, b].any fun | .Starred .. => true | _ => false) = true then t else u) = u := by
    intro α a b t u ha hb
    cases a <;> first | (cases ha; done) | (cases b <;> first | (cases hb; done) | rfl)
  exact go a b _ _ h6 h7
def ownN (own : List Str) (x : Str) : Bool := own.contains x
def cBlk (f : Stmt → Option Ss) : List Stmt → Option Ss
  | [] => some sNil
  | [s] => f s
  | s :: t :: r => (f s).bind fun fs => (cBlk f (t :: r)).map (sSeq fs)
def cS (M : MI) (G : Tbl) (N own : List Str) : Nat → Scope → Stmt → Option Ss
  | 0, _, _ => none
  | n + 1, sc, st => (match st with
    | .Assign [.Name x p] (.ListComp elt [gen] scope lp) _ => grd (locN sc true x) ((ixOf x N).bind fun i => (cX M G N n false sc (.ListComp elt [gen] scope lp)).bind fun fe =>
        if sc.names.lookup x = some .local then grd (decide (sc.kind = .function) && (p.line == lp.line) && !(scope.names.any fun (n, k) => n == x && (k == .local || k == .cell))) (some (sAsg (ownN own x) i fe)) else some (sAsg (ownN own x) i fe))
    | .Assign [.Name x p] e _ => grd (locN sc true x && notComp e) ((ixOf x N).bind fun i => (cX M G N n false sc e).map (sAsg (ownN own x) i))
    | .Assign [.Tuple [.Name x px, .Name y py] kt pt] (.Tuple [a, b] k2 p2) _ => grd (par2 sc x y px py a b) ((ixOf x N).bind fun i => (ixOf y N).bind fun j => (optAll (cX M G N n false sc) [a, b]).map (sPar i j))
    | .Assign [.Tuple es k p] e _ => grd (notComp e && !isTup e) ((optAll (cNm N sc true) es).bind fun is => (cX M G N n false sc e).map (sUnp is))
    | .Return (some e) _ => (cX M G N n false sc e).map sRet
    | .Return none _ => some sRetN
    | .If t a b _ => (cX M G N n true sc t).bind fun ft => (cBlk (cS M G N own n sc) a).bind fun fa => (cBlk (cS M G N own n sc) b).map (sIf ft fa)
    | .For tg iter body [] _ => (cTg N sc true tg).bind fun t => (cI (cX M G N n false sc) sc iOneP false tg iter).bind fun fi => (cBlk (cS M G N own n sc) body).map (sFor t fi)
    | .Pass _ => some sNil
    | .Break _ => some sBrk
    | .Expr (.Call (.Attribute o m apos) [e] [] cpos) _ => grd (plainBase o && notStar e && (apos.endLine == cpos.line)) ((cX M G N n false sc o).bind fun fo => (cX M G N n false sc e).bind fun fe =>
        if m = "append" then some (sApp fo fe) else if m = "extend" then some (sExt fo fe) else none)
    | .Expr e _ => grd (notComp e) ((cX M G N n false sc e).map sExpr)
    | _ => none)
section
variable {X : Cx} {c : Ct} {M : MI} {G : Tbl} {N own : List Str} {W : WX} {sc : Scope} {P : Program} {w : World} {mg : Str → Option Value} {base : Heap} {k : Nat}
theorem cBlk_ok {f : Stmt → Option Ss} (hf : ∀ s g, f s = some g → PS X s (denS c W g)) : ∀ {ss : List Stmt} {g : Ss}, cBlk f ss = some g → PSs X ss (denS c W g)
  | [], _, h => by cases h; exact PSs.weak pss_nil fun D σ H h => nil_of h
  | [s], g, h => pss_one (hf s g h)
  | s :: t :: r, g, h => by
    simp only [cBlk, Option.bind_eq_some_iff, Option.map_eq_some_iff] at h
    obtain ⟨fs, h1, fr, h2, rfl⟩ := h
    exact PSs.weak (pss_cons (hf s fs h1) (cBlk_ok hf h2)) fun D σ H h => seq_of h
theorem loc_ok (C : Cx1 X c M G N W sc) (hfn : ∀ x, X.fn x = true) {x : Str} (h : locN sc true x = true) : Loc X.env.scope x ∧ (X.fn x = true ∨ X.env.scope.names.lookup x = some .local) := by
  unfold locN at h
  simp only [Bool.or_eq_true, Bool.and_eq_true, decide_eq_true_eq] at h
  rw [C.sc]
  rcases h with h | ⟨_, h⟩
  · exact ⟨.inl h, .inr h⟩
  · exact ⟨.inr h, .inl (hfn x)⟩
theorem cS_ok (C : Cx1 X c M G N W sc) (hfn : ∀ x, X.fn x = true) (hpo : PassesOwn (model X.prog X.w) X.A X.env X.xe) : ∀ (n : Nat) (s : Stmt) (f : Ss), cS M G N own n sc s = some f → PS X s (denS c W f)
  | 0, _, _, h => by cases h
  | n + 1, s, f, h => by
    have IH := cS_ok C hfn hpo n
    have E : ∀ e g, cX M G N n false sc e = some g → PE X e (den c W g) := fun e g q => cX_ok n false sc e g q X W C
    have T : ∀ e g, cX M G N n true sc e = some g → PT X e (denT c W g) := fun e g q => cX_ok n true sc e g q X W C
    unfold cS at h
    split at h
    · rename_i x p elt gen scope lp sp
      have h0 := (grd_some h).1
      replace h := (grd_some h).2
      obtain ⟨l1, l2⟩ := loc_ok C hfn h0
      rw [Option.bind_eq_some_iff] at h
      obtain ⟨i, h1, h⟩ := h
      rw [Option.bind_eq_some_iff] at h
      obtain ⟨fe, h2, h⟩ := h
      have hix : X.N[i]? = some x := by rw [C.N]; exact ixOf_some h1
      split at h
      · rename_i hloc
        have h3 := (grd_some h).1
        replace h := (grd_some h).2
        cases h
        simp only [Bool.and_eq_true, Bool.not_eq_true'] at h3
        obtain ⟨⟨k1, k2⟩, k3⟩ := h3
        cases n with
        | zero => cases h2
        | succ m =>
          obtain ⟨tg, fi, fc, fe', tt, rfl, eg, Pc⟩ := comp_inv (cX_ok m) C h2
          rw [eg]
          exact Pc.ps C.ok hix (by rw [C.sc]; exact hloc) (sw_true (by rw [C.sc]; exact of_decide_eq_true k1) (by rw [C.sc]; exact hloc) k2 k3)
      · rename_i hloc
        cases h
        refine PS.weak (ps_set C.ok.nd hix l1 (E _ fe h2) ?_ l2) fun D σ H h => asg_of h
        have e : X.env.kindOf x ≠ some .local := by show X.env.scope.names.lookup x ≠ _; rw [C.sc]; exact hloc
        have e' : (X.env.kindOf x == some NameKind.local) = false := by simpa using e
        unfold swapsWith
        simp only [e', Bool.and_false, Bool.false_and]
    · rename_i x p e sp _
      have h0 := (grd_some h).1
      replace h := (grd_some h).2
      rw [Bool.and_eq_true] at h0
      obtain ⟨l1, l2⟩ := loc_ok C hfn h0.1
      rw [Option.bind_eq_some_iff] at h
      obtain ⟨i, h1, h⟩ := h
      rw [Option.map_eq_some_iff] at h
      obtain ⟨fe, h2, rfl⟩ := h
      exact PS.weak (ps_set C.ok.nd (by rw [C.N]; exact ixOf_some h1) l1 (E _ fe h2) (swaps_no h0.2) l2) fun D σ H h => asg_of h
    · rename_i x px y py kt pt a b k2 p2 sp
      have h0 := (grd_some h).1
      replace h := (grd_some h).2
      rw [Option.bind_eq_some_iff] at h
      obtain ⟨i, h1, h⟩ := h
      rw [Option.bind_eq_some_iff] at h
      obtain ⟨j, h2, h⟩ := h
      rw [Option.map_eq_some_iff] at h
      obtain ⟨fs, h3, rfl⟩ := h
      have hw := par2_ok (env := X.env) (pt := pt) (p2 := p2) (kt := kt) (k2 := k2) C.sc h0
      unfold par2 at h0
      simp only [Bool.and_eq_true, decide_eq_true_eq, Bool.not_eq_true'] at h0
      obtain ⟨⟨⟨⟨⟨⟨⟨⟨q1, q2⟩, q3⟩, q4⟩, q5⟩, q6⟩, q7⟩, q8⟩, q9⟩ := h0
      have hi : X.N[i]? = some x := by rw [C.N]; exact ixOf_some h1
      have hj : X.N[j]? = some y := by rw [C.N]; exact ixOf_some h2
      refine PS.weak (ps_par C.ok.calm C.ok.nd hi hj (fun z => ?_) (by rw [C.sc]; exact q2) (by rw [C.sc]; exact q3) (pa_all E h3 (by simp [q6, q7])) hw (sole_no rfl)) fun D σ H h => par_of h
      subst z
      rw [hi] at hj
      exact q5 (Option.some.inj hj)
    · rename_i es kk p e sp _
      have h0 := (grd_some h).1
      replace h := (grd_some h).2
      simp only [Bool.and_eq_true, Bool.not_eq_true'] at h0
      rw [Option.bind_eq_some_iff] at h
      obtain ⟨is, h1, h⟩ := h
      rw [Option.map_eq_some_iff] at h
      obtain ⟨fe, h2, rfl⟩ := h
      obtain ⟨g1, g2, g3⟩ := cNms_ok C.ok.nd C.N C.sc (fun _ => hfn) h1
      exact PS.weak (ps_asg (E _ fe h2) (pg_tup C.ok.calm g1 g2 g3) (sole_no h0.1) (stores_no h0.2)) fun D σ H h => unp_of C.ok.hK h
    · rw [Option.map_eq_some_iff] at h
      obtain ⟨fe, h2, rfl⟩ := h
      exact PS.weak (ps_ret (E _ fe h2)) fun D σ H h => ret_of h
    · cases h
      exact PS.weak ps_retN fun D σ H h => retN_of h
    · rw [Option.bind_eq_some_iff] at h
      obtain ⟨ft, h0, h⟩ := h
      rw [Option.bind_eq_some_iff] at h
      obtain ⟨fa, h1, h⟩ := h
      rw [Option.map_eq_some_iff] at h
      obtain ⟨fb, h2, rfl⟩ := h
      exact PS.weak (ps_if (T _ ft h0) (cBlk_ok IH h1) (cBlk_ok IH h2)) fun D σ H h => if_of h
    · rw [Option.bind_eq_some_iff] at h
      obtain ⟨t, h0, h⟩ := h
      rw [Option.bind_eq_some_iff] at h
      obtain ⟨fi, h1, h⟩ := h
      rw [Option.map_eq_some_iff] at h
      obtain ⟨fb, h2, rfl⟩ := h
      exact PS.weak (ps_for hpo C.ok.calm (cI_p C E h1) (cTg_ok C.ok.nd C.N C.sc C.ok.calm (fun _ => hfn) h0) (cBlk_ok IH h2) (fold_ok (cI_set h1))) fun D σ H h => for_of (gOf_ok C.ok.hK t) h
    · cases h
      exact PS.weak ps_pass fun D σ H h => nil_of h
    · cases h
      exact PS.weak ps_break fun D σ H h => brk_of h
    · have h0 := (grd_some h).1
      replace h := (grd_some h).2
      simp only [Bool.and_eq_true] at h0
      rw [Option.bind_eq_some_iff] at h
      obtain ⟨fo, h1, h⟩ := h
      rw [Option.bind_eq_some_iff] at h
      obtain ⟨fe, h2, h⟩ := h
      split at h
      · rename_i hm
        cases h
        subst hm
        exact ps_den_app (E _ fo h1) (E _ fe h2) h0.1.1 h0.1.2 h0.2
      · split at h
        · rename_i hm
          cases h
          subst hm
          exact ps_den_ext (E _ fo h1) (E _ fe h2) h0.1.1 h0.1.2 h0.2
        · cases h
    · have h0 := (grd_some h).1
      replace h := (grd_some h).2
      rw [Option.map_eq_some_iff] at h
      obtain ⟨fe, h2, rfl⟩ := h
      exact PS.weak (ps_expr (E _ fe h2) (swaps_no h0)) fun D σ H h => expr_of h
    · cases h
end
end KL

namespace KL
open PySem L2

/-! ### the program's defs, by levels -/
structure Df where
  d : He.DefD
  ps : List Str
  N : List Str
  own : List Str
  sem : Tbl → Ss
def fnd (dfs : List Df) (g : Str) : Option Df := dfs.find? fun d => decide (d.d.name = g)
def tbl (dfs : List Df) : Nat → Tbl
  | 0 => fun _ _ _ => .no
  | k + 1 => fun g ds st => match fnd dfs g with
    | some df => fnR df.N.length (df.sem (tbl dfs k)) ds st
    | none => .no
structure DfOk (M : MI) (df : Df) : Prop where
  sc : FnScope df.N df.ps df.d.scope
  cmp : ∀ G, cBlk (cS M G df.N df.own 60 df.d.scope) df.d.body = some (df.sem G)
  bnd : ∀ (kV doc pm : Value) (an : Option Addr) (cdv ct : Value) (us : List Value), us.length = df.ps.length → bindArgs (PySem.W.fnOf df.d.name df.d.qual df.d.params df.d.body df.d.scope .none kV doc pm an cdv ct) ⟨us, []⟩ = pure (df.ps.zip us)
  dfl : df.d.dfl = []
  kwd : df.d.kwd = []
  at_ : df.d.at_ = (df.d.name, none)
theorem lookup_fnd {dfs : List Df} {g : Str} {n : Nat} (h : (dfs.map fun d => (d.d.name, d.ps.length)).lookup g = some n) : ∃ df, fnd dfs g = some df ∧ df.ps.length = n := by
  induction dfs with
  | nil => cases h
  | cons d ds ih =>
    rw [List.map_cons, List.lookup_cons] at h
    unfold fnd
    rw [List.find?_cons]
    by_cases e : d.d.name = g
    · have e' : (g == d.d.name) = true := by simpa using e.symm
      rw [e'] at h
      cases h
      exact ⟨d, by simp [e], rfl⟩
    · have e' : (g == d.d.name) = false := by simpa using Ne.symm e
      rw [e'] at h
      obtain ⟨df, h1, h2⟩ := ih h
      exact ⟨df, by simp only [e, decide_false]; exact h1, h2⟩
theorem fnd_mem {dfs : List Df} {g : Str} {df : Df} (h : fnd dfs g = some df) : df ∈ dfs ∧ df.d.name = g := ⟨List.mem_of_find?_eq_some h, by have := List.find?_some h; simpa using this⟩
/-- what the program's top has left, for the defs and constants -/
structure Top (c : Ct) (mg : Str → Option Value) (M : MI) (dfs : List Df) : Prop where
  fn : ∀ df ∈ dfs, ∃ f fd, FunD c.K df.d.name df.d.qual df.d.params df.d.body df.d.scope [] [] f fd ∧ mg df.d.name = some (.ref f)
  free : ∀ x ∈ bnames, mg x = none
  cst : ∀ x d, M.cs.lookup x = some d → ∃ v u, mg x = some u ∧ RelV v u ∧ ∀ F io, Rv c F io v d
theorem levels {P : Program} {w : World} {c : Ct} {mg : Str → Option Value} {base : Heap} {M : MI} {dfs : List Df} (hM : M.fs = dfs.map fun d => (d.d.name, d.ps.length)) (ok : ∀ df ∈ dfs, DfOk M df) (T : Top c mg M dfs) :
    ∀ (k : Nat) (g : Str) (df : Df), fnd dfs g = some df → ∀ f fd, FunD c.K df.d.name df.d.qual df.d.params df.d.body df.d.scope [] [] f fd → FnOk P w c.K mg base (L2.CX P w) k f fd df.ps (spM c df.ps.length (tbl dfs k g))
  | 0, g, df, h, f, fd, F => by
    refine ⟨fun vs H Q E q => q.1, fun A outer s H args us vs Q E _ _ _ _ q => ?_⟩
    obtain ⟨_, _, _, _, _, _, _, _, z⟩ := q
    exact z.elim
  | k + 1, g, df, h, f, fd, F => by
    obtain ⟨m, rfl⟩ := fnd_mem h
    have O := ok df m
    have e : tbl dfs (k + 1) df.d.name = fnR df.N.length (df.sem (tbl dfs k)) := by
      funext ds st
      show (match fnd dfs df.d.name with
        | some df => fnR df.N.length (df.sem (tbl dfs k)) ds st
        | none => .no) = _
      rw [h]
    rw [e]
    refine fn_den F O.sc fun X W B => ?_
    have C : Cx1 X c M (tbl dfs k) df.N W df.d.scope := by
      refine ⟨B.ok, B.N, B.sc, ⟨fun x hx => ?_, fun x d hx => ?_, fun g n hg => ?_⟩⟩
      · rw [B.mg]; exact T.free x hx
      · rw [B.mg]; exact T.cst x d hx
      · rw [hM] at hg
        obtain ⟨df2, h2, hl⟩ := lookup_fnd hg
        obtain ⟨m2, e2⟩ := fnd_mem h2
        obtain ⟨f2, fd2, F2, q2⟩ := T.fn df2 m2
        have ok2 := levels (P := P) (w := w) (base := base) hM ok T k g df2 h2 f2 fd2 F2
        subst hl
        refine ⟨k, f2, fd2, df2.ps, ⟨?_, B.room, by rw [B.mg, ← e2]; exact q2, by rw [B.ok.hK]; exact F2.kp, by rw [B.ok.hK]; exact F2.bindsN (ok df2 m2).bnd⟩⟩
        rw [B.prog, B.w, B.ok.hK, B.mg, B.base]
        exact ok2
    exact cBlk_ok (cS_ok C B.fn B.po 60) (O.cmp _)

/-! ### the module's constants -/
inductive Kc where
  | str (z : Str) | int (i : Int) | tS (zs : List Str) | tI (is : List Int)
def Kc.d : Kc → D
  | .str z => .str z
  | .int i => .int i
  | .tS zs => .tup (zs.map .str)
  | .tI is => .tup (is.map .int)
def Kc.ok (K : PySem.W.Frag) (x : Str) : Kc → Bool
  | .str z => (He.Fa.str x z).ok K
  | .int i => (He.Fa.int x i).ok K
  | .tS zs => (He.Fa.glo x).ok K && He.tupB K x (zs.map .str)
  | .tI is => (He.Fa.glo x).ok K && He.tupB K x (is.map .int)
theorem KTup.of_sq {K : PySem.W.Frag} {a : Addr} {vs : List V} (h : ∀ H : Hp, SqT K H a vs) : KTup K a vs := by
  rcases h (fun _ => none) with h | h
  · rcases h with h | ⟨o, h⟩ <;> cases h
  · exact h
theorem kc_ok {c : Ct} {h : Heap} {mg : Str → Option Value} (X : c.K.In h) (Gm : h.Ns mainGlobals mg) {x : Str} {k : Kc} (hk : k.ok c.K x = true) : ∃ v u, mg x = some u ∧ RelV v u ∧ ∀ F io, Rv c F io v k.d := by
  cases k with
  | str z =>
    obtain ⟨t, e⟩ := He.str_ok X Gm hk
    exact ⟨.str z, _, e, ⟨t, rfl⟩, fun _ _ => .str z⟩
  | int i =>
    obtain ⟨t, e⟩ := He.int_ok X Gm hk
    exact ⟨.int i, _, e, ⟨t, rfl⟩, fun _ _ => .int i⟩
  | tS zs =>
    have hk' := Bool.and_eq_true_iff.mp hk
    refine ⟨.ref (He.ga c.K x), _, He.glo_ok X Gm hk'.1, rfl, fun F io => .tup (vs := zs.map .str) (.inr (KTup.of_sq fun H => ?_)) ?_⟩
    · have := He.tupB_ok hk'.2 H
      rw [List.map_map] at this
      exact this
    · clear hk hk'
      induction zs with
      | nil => exact .nil
      | cons z zs ih => exact .cons (.str z) ih
  | tI is =>
    have hk' := Bool.and_eq_true_iff.mp hk
    refine ⟨.ref (He.ga c.K x), _, He.glo_ok X Gm hk'.1, rfl, fun F io => .tup (vs := is.map .int) (.inr (KTup.of_sq fun H => ?_)) ?_⟩
    · have := He.tupB_ok hk'.2 H
      rw [List.map_map] at this
      exact this
    · clear hk hk'
      induction is with
      | nil => exact .nil
      | cons z zs ih => exact .cons (.int z) ih
theorem cs_ok {c : Ct} {h : Heap} {mg : Str → Option Value} (X : c.K.In h) (Gm : h.Ns mainGlobals mg) {ks : List (Str × Kc)} (hk : (ks.all fun p => p.2.ok c.K p.1) = true) : ∀ x d, (ks.map fun p => (p.1, p.2.d)).lookup x = some d → ∃ v u, mg x = some u ∧ RelV v u ∧ ∀ F io, Rv c F io v d := by
  intro x d hx
  induction ks with
  | nil => cases hx
  | cons p ks ih =>
    rw [List.all_cons, Bool.and_eq_true] at hk
    rw [List.map_cons, List.lookup_cons] at hx
    by_cases e : x = p.1
    · have e' : (x == p.1) = true := by simpa using e
      rw [e'] at hx
      cases hx
      rw [e]
      exact kc_ok X Gm hk.1
    · have e' : (x == p.1) = false := by simpa using e
      rw [e'] at hx
      exact ih hk.2 hx

/-! ### a law's row -/
def faOf (dfs : List Df) : List He.Fa := dfs.map (fun d => .glo d.d.name) ++ bnames.map .free
def exOf (ks : List (Str × Kc)) (K : PySem.W.Frag) : Bool := ks.all fun p => p.2.ok K p.1
abbrev hkOf (ks : List (Str × Kc)) (dfs : List Df) : PySem.W.Hook := He.hookX 4 (faOf dfs) (dfs.map (·.d)) [] [] (exOf ks)
theorem top_of {K : PySem.W.Frag} {w : World} {h : Heap} {mg : Str → Option Value} {ks : List (Str × Kc)} {dfs : List Df} {fs : List (Str × Nat)} {xc : Str → Value} {ca : Str → Addr} (X : K.In h) (Gm : h.Ns mainGlobals mg) (s : He.SaysX (faOf dfs) (dfs.map (·.d)) [] [] (exOf ks) w h K) (ok : ∀ df ∈ dfs, DfOk ⟨ks.map fun p => (p.1, p.2.d), fs⟩ df) :
    Top ⟨K, ca, xc⟩ mg ⟨ks.map fun p => (p.1, p.2.d), fs⟩ dfs := by
  refine ⟨fun df hd => ?_, fun x hx => ?_, cs_ok (c := ⟨K, ca, xc⟩) X Gm s.more⟩
  · have O := ok df hd
    obtain ⟨fd, F⟩ := s.t.d.defs (d := df.d) (List.mem_map.mpr ⟨df, hd, rfl⟩)
    have e1 : df.d.dvs K = [] := by unfold He.DefD.dvs; rw [O.dfl]; rfl
    have e2 : df.d.kws K = [] := by unfold He.DefD.kws; rw [O.kwd]; rfl
    rw [e1, e2, O.at_] at F
    exact ⟨_, fd, F, He.glo_ok X Gm (s.t.d.facts (f := .glo df.d.name) (List.mem_append_left _ (List.mem_map.mpr ⟨df, hd, rfl⟩)))⟩
  · exact He.free_ok X Gm (s.t.d.facts (f := .free x) (List.mem_append_right _ (List.mem_map.mpr ⟨x, hx, rfl⟩)))
/-- the walk of a row: all by the functions on data -/
theorem walk_row {l : PySem.W.OpenLaw} {q : Program} {loose : List Str} {XP : (Str → Option Value) → Heap → Prop} {d : DefRec} {ks : List (Str × Kc)} {dfs : List Df} {k : Nat} {dl : Df} {x : Str}
    (hn : l.most = some 63) (hdf : d.params.defaults = []) (hr : Room k callerA) (hname : d.name = "law") (ok : ∀ df ∈ dfs, DfOk ⟨ks.map fun p => (p.1, p.2.d), dfs.map fun d => (d.d.name, d.ps.length)⟩ df) (hl : fnd dfs "law" = some dl) (hps : dl.ps = [x])
    (law : ∀ ns : List Int, ns.length ≤ 63 → ∃ st, tbl dfs k "law" [.scr ns] [] = .ok (.bl true) st) :
    PySem.W.WalkO q loose XP (hkOf ks dfs).says l.row.toRowW d [] (fun f vs => PySem.call f vs) := by
  refine Att.attach_call hn hdf fun w s0 s1 mg mb fa o pm cd doc a vs ns G Y ho hd hcd hmg hobj hints hlen hg => ?_
  obtain ⟨K, KX, Sx⟩ := Y
  have T : Top ⟨K, fun _ => 0, fun _ => .none⟩ mg ⟨ks.map fun p => (p.1, p.2.d), dfs.map fun d => (d.d.name, d.ps.length)⟩ dfs := top_of KX G.T.g Sx ok
  obtain ⟨st, e⟩ := law ns hlen
  obtain ⟨m, en⟩ := fnd_mem hl
  obtain ⟨f0, fd, F, hm0⟩ := T.fn dl m
  have ef : f0 = fa := by
    rw [en, ← hname, hmg] at hm0
    cases hm0
    rfl
  subst ef
  have hps1 : dl.ps.length = 1 := by rw [hps]; rfl
  refine L2.law_call (fd := fd) (x := x) (CX := L2.CX l.prog w) (sp := spM ⟨K, fun _ => 0, fun _ => .none⟩ 1 (tbl dfs k "law")) KX G.T.g G.T.b G.T.builtins G.T.nolimit hg hobj hints (Nat.le_trans hlen (by decide)) hr (fun base _ _ => ?_) (fun s v => ?_) (fun H hO hS => ?_) fun H e s' z => ?_
  · have q := levels (P := l.prog) (w := w) (base := base) rfl ok T k "law" dl hl f0 fd F
    rw [hps1, hps] at q
    exact q
  · have q := F.bindsA (ok dl m).bnd s [v] (by rw [hps]; rfl)
    rw [hps] at q
    exact q
  · refine ⟨rfl, H, [], [], [.scr ns], fun _ _ q => q, ⟨rfl, List.nodup_nil, fun n a o q => by cases q⟩, .cons (.scr ?_) .nil, ?_⟩
    · rcases hS with h | h
      · exact .inl ⟨h, by simp⟩
      · exact .inr h
    · rw [e]
      intro v H' F' io' S s' r
      cases r
      rfl
  · obtain ⟨_, _, _, _, _, _, _, _, _, _, _, _, q⟩ := z
    exact q
end KL

namespace KL
open PySem L2

/-! ### running the functions on data: rules for simp -/
section
variable {α β : Type} {st st' : Sto} {rh : Rho} {d e : D}
@[simp] theorem R.bind_ok (a : α) (st : Sto) (k : α → Sto → R β) : (R.ok a st).bind k = k a st := rfl
@[simp] theorem R.bind_ex (c : Str) (st : Sto) (k : α → Sto → R β) : (R.ex c st : R α).bind k = .ex c st := rfl
@[simp] theorem R.bind_no (k : α → Sto → R β) : (R.no : R α).bind k = .no := rfl
theorem R.bind_ite (c : Prop) [Decidable c] (r1 r2 : R α) (k : α → Sto → R β) : (if c then r1 else r2).bind k = if c then r1.bind k else r2.bind k := by split <;> rfl
def onB (t : TV) (k : Bool → R TV) : R TV := match t with
  | .d (.bl b) => k b
  | _ => .no
@[simp] theorem onB_bl (b : Bool) (k : Bool → R TV) : onB (.d (.bl b)) k = k b := rfl
theorem onB_ite (c : Prop) [Decidable c] (t u : TV) (k : Bool → R TV) : onB (if c then t else u) k = if c then onB t k else onB u k := by split <;> rfl
def onR (r : R TV) (rh : Rho) (k : TV → Sto → RS) : RS := match r with
  | .ok t st1 => k t st1
  | .ex e st1 => .ex e rh st1
  | .no => .no
@[simp] theorem onR_ok (t : TV) (st : Sto) (rh : Rho) (k : TV → Sto → RS) : onR (.ok t st) rh k = k t st := rfl
@[simp] theorem onR_ex (c : Str) (st : Sto) (rh : Rho) (k : TV → Sto → RS) : onR (.ex c st) rh k = .ex c rh st := rfl
theorem onR_ite (c : Prop) [Decidable c] (r1 r2 : R TV) (rh : Rho) (k : TV → Sto → RS) : onR (if c then r1 else r2) rh k = if c then onR r1 rh k else onR r2 rh k := by split <;> rfl
def onT (t : TV) (k : Bool → RS) : RS := match t with
  | .d (.bl b) => k b
  | _ => .no
@[simp] theorem onT_bl (b : Bool) (k : Bool → RS) : onT (.d (.bl b)) k = k b := rfl
def onN (r : RS) (k : Ss) : RS := match r with
  | .nx rh' st' => k rh' st'
  | r => r
@[simp] theorem onN_nx (rh : Rho) (st : Sto) (k : Ss) : onN (.nx rh st) k = k rh st := rfl
@[simp] theorem onN_rt (d : D) (st : Sto) (k : Ss) : onN (.rt d st) k = .rt d st := rfl
@[simp] theorem onN_bk (rh : Rho) (st : Sto) (k : Ss) : onN (.bk rh st) k = .bk rh st := rfl
@[simp] theorem onN_ex (c : Str) (rh : Rho) (st : Sto) (k : Ss) : onN (.ex c rh st) k = .ex c rh st := rfl
theorem onN_ite (c : Prop) [Decidable c] (r1 r2 : RS) (k : Ss) : onN (if c then r1 else r2) k = if c then onN r1 k else onN r2 k := by split <;> rfl
theorem fin_ite (c : Prop) [Decidable c] (r1 r2 : RS) (n : Nat) : fin n (if c then r1 else r2) = if c then fin n r1 else fin n r2 := by split <;> rfl
@[simp] theorem oR_some (a : α) : oR (some a) st = .ok a st := rfl
@[simp] theorem oR_none : (oR none st : R α) = .no := rfl
@[simp] theorem eC_ev : eC d rh st = .ok (.d d) st := rfl
@[simp] theorem eArgs_nil : eArgs [] rh st = .ok [] st := rfl
@[simp] theorem eArgs_cons (f : Sm) (fs : List Sm) : eArgs (f :: fs) rh st = (f rh st).bind fun t st1 => match toDv t with
    | none => .no
    | some d => (eArgs fs rh st1).bind fun ds st2 => .ok (d :: ds) st2 := rfl
@[simp] theorem toDv_d : toDv (.d d) = some d := rfl
@[simp] theorem toDv_fr (ds : List D) : toDv (.fr ds) = some (.lst ds) := rfl
@[simp] theorem toDv_o (i : Nat) : toDv (.o i) = none := rfl
@[simp] theorem eTup_ev (fs : List Sm) : eTup fs rh st = (eArgs fs rh st).bind fun ds st1 => .ok (.d (.tup ds)) st1 := rfl
@[simp] theorem eLst_ev (fs : List Sm) : eLst fs rh st = (eArgs fs rh st).bind fun ds st1 => .ok (.fr ds) st1 := rfl
@[simp] theorem eVar_ev (i : Nat) : eVar i rh st = (match rh[i]? with
  | some (some (.val d)) => .ok (.d d) st
  | some (some (.own _)) => .ok (.o i) st
  | _ => .no) := rfl
@[simp] theorem eOp2_ev (f : D → D → Option TV) (fa fb : Sm) : eOp2 f fa fb rh st = (fa rh st).bind fun t1 st1 => (fb rh st1).bind fun t2 st2 =>
  match view rh st2 t1, view rh st2 t2 with
  | some d, some e => (match f d e with
    | some t => .ok t st2
    | none => .no)
  | _, _ => .no := rfl
@[simp] theorem eBin_ev (op : Operator) (fa fb : Sm) : eBin op fa fb rh st = eOp2 (binD op) fa fb rh st := rfl
@[simp] theorem eCmp_ev (op : CmpOp) (fa fb : Sm) : eCmp op fa fb rh st = eOp2 (fun d e => bV (cmpD op d e)) fa fb rh st := rfl
@[simp] theorem eIdx_ev (fa fb : Sm) : eIdx fa fb rh st = eOp2 (fun d e => dV (idxD d e)) fa fb rh st := rfl
@[simp] theorem eCmp2_ev (op op' : CmpOp) (fa fb fc : Sm) : eCmp2 op op' fa fb fc rh st = (fa rh st).bind fun t1 st1 => (fb rh st1).bind fun t2 st2 =>
  match view rh st2 t1, view rh st2 t2 with
  | some d, some e => (match cmpD op d e with
    | some b => if b then (fc rh st2).bind fun t3 st3 => (match view rh st3 t2, view rh st3 t3 with
      | some e', some f' => (match cmpD op' e' f' with
        | some b => .ok (.d (.bl b)) st3
        | none => .no)
      | _, _ => .no) else .ok (.d (.bl false)) st2
    | none => .no)
  | _, _ => .no := by
  unfold eCmp2
  congr 1
  funext t1 st1
  congr 1
  funext t2 st2
  cases view rh st2 t1 with
  | none => rfl
  | some d =>
    cases view rh st2 t2 with
    | none => rfl
    | some e =>
      simp only
      cases cmpD op d e with
      | none => rfl
      | some b => cases b <;> rfl
@[simp] theorem eOp1_ev (f : D → Option TV) (fa : Sm) : eOp1 f fa rh st = (fa rh st).bind fun t1 st1 =>
  match view rh st1 t1 with
  | some d => (match f d with
    | some t => .ok t st1
    | none => .no)
  | none => .no := rfl
@[simp] theorem eTru_ev (fa : Sm) : eTru fa rh st = eOp1 (fun d => bV (truD d)) fa rh st := rfl
@[simp] theorem eNot_ev (fa : Sm) : eNot fa rh st = eOp1 (fun d => bV (notD d)) fa rh st := rfl
@[simp] theorem eNeg_ev (fa : Sm) : eNeg fa rh st = eOp1 (fun d => dV (negD d)) fa rh st := rfl
@[simp] theorem eB1_ev (b : Bi) (fa : Sm) : eB1 b fa rh st = eOp1 b.f fa rh st := rfl
@[simp] theorem eIsi_ev (t : Ty) (fa : Sm) : eIsi t fa rh st = eOp1 (fun d => bV (isi t d)) fa rh st := rfl
@[simp] theorem eIsi2_ev (t u : Ty) (fa : Sm) : eIsi2 t u fa rh st = eOp1 (fun d => bV ((isi t d).bind fun a => (isi u d).map fun b => a || b)) fa rh st := rfl
@[simp] theorem eSortSet_ev (fa : Sm) : eSortSet fa rh st = eOp1 srtD fa rh st := rfl
@[simp] theorem eRev_ev (fa : Sm) : eRev fa rh st = eOp1 (fun d => dV (revD d)) fa rh st := rfl
@[simp] theorem eUpper_ev (fa : Sm) : eM_upper fa rh st = eOp1 (fun d => dV (uppD d)) fa rh st := rfl
@[simp] theorem eIndex_ev (fa fb : Sm) : eM_index fa fb rh st = (fa rh st).bind fun t1 st1 => match t1 with
  | .d (.str x) => eOp1 (sixS x) fb rh st1
  | _ => .no := rfl
@[simp] theorem eAnd_ev (fa fb : Sm) : eAnd fa fb rh st = (fa rh st).bind fun t st1 => onB t fun b => if b then fb rh st1 else .ok (.d (.bl false)) st1 := by
  unfold eAnd
  congr 1
  funext t s
  cases t with
  | d d => cases d with
    | bl b => cases b <;> rfl
    | _ => rfl
  | _ => rfl
@[simp] theorem eOr_ev (fa fb : Sm) : eOr fa fb rh st = (fa rh st).bind fun t st1 => onB t fun b => if b then .ok (.d (.bl true)) st1 else fb rh st1 := by
  unfold eOr
  congr 1
  funext t s
  cases t with
  | d d => cases d with
    | bl b => cases b <;> rfl
    | _ => rfl
  | _ => rfl
@[simp] theorem eIf_ev (fc fa fb : Sm) : eIf fc fa fb rh st = (fc rh st).bind fun t st1 => onB t fun b => if b then fa rh st1 else fb rh st1 := by
  unfold eIf
  congr 1
  funext t s
  cases t with
  | d d => cases d with
    | bl b => cases b <;> rfl
    | _ => rfl
  | _ => rfl
@[simp] theorem ePart_none : ePart none rh st = .ok none st := rfl
@[simp] theorem ePart_some (f : Sm) : ePart (some f) rh st = (f rh st).bind fun t st1 => match t with
    | .d (.int i) => .ok (some i) st1
    | _ => .no := rfl
@[simp] theorem eSlc_ev (fa : Sm) (lo hi : Option Sm) : eSlc fa lo hi rh st = (fa rh st).bind fun t st1 => (ePart lo rh st1).bind fun l st2 => (ePart hi rh st2).bind fun u st3 =>
  match view rh st3 t with
  | some d => (match slcD l u d with
    | some t => .ok t st3
    | none => .no)
  | none => .no := rfl
@[simp] theorem eCall_ev (G : Tbl) (g : Str) (fs : List Sm) : eCall G g fs rh st = (eArgs fs rh st).bind fun ds st1 => (G g ds st1).bind fun d st2 => .ok (.d d) st2 := rfl
@[simp] theorem view_non : view rh st (.d .non) = some .non := rfl
@[simp] theorem view_bl (b : Bool) : view rh st (.d (.bl b)) = some (.bl b) := rfl
@[simp] theorem view_int (i : Int) : view rh st (.d (.int i)) = some (.int i) := rfl
@[simp] theorem view_str (x : Str) : view rh st (.d (.str x)) = some (.str x) := rfl
@[simp] theorem view_tup (ds : List D) : view rh st (.d (.tup ds)) = some (.tup ds) := rfl
@[simp] theorem view_lst (ds : List D) : view rh st (.d (.lst ds)) = some (.lst ds) := rfl
@[simp] theorem view_scr (ns : List Int) : view rh st (.d (.scr ns)) = some (.scr ns) := rfl
@[simp] theorem view_fr (ds : List D) : view rh st (.fr ds) = some (.lst ds) := rfl
@[simp] theorem view_o (i : Nat) : view rh st (.o i) = (match rh[i]? with
    | some (some (.own ds)) => some (.lst ds)
    | _ => none) := rfl
@[simp] theorem bV_some (b : Bool) : bV (some b) = some (.d (.bl b)) := rfl
@[simp] theorem bV_none : bV none = none := rfl
@[simp] theorem dV_some' (d : D) : dV (some d) = some (.d d) := rfl
@[simp] theorem dV_none : dV none = none := rfl
end
section
variable {i j : Int} {x y : Str} {ds es : List D} {b c : Bool} {d e : D}
@[simp] theorem bin_add_int : binD .Add (.int i) (.int j) = some (.d (.int (i + j))) := rfl
@[simp] theorem bin_sub_int : binD .Sub (.int i) (.int j) = some (.d (.int (i - j))) := rfl
theorem bin_add_str (h : x.length + y.length ≤ sizeLine) : binD .Add (.str x) (.str y) = some (.d (.str (x ++ y))) := by simp only [binD, if_pos h]
theorem bin_add_tup (h : ds.length + es.length ≤ sizeLine) : binD .Add (.tup ds) (.tup es) = some (.d (.tup (ds ++ es))) := by simp only [binD, if_pos h]
theorem bin_add_lst (h : ds.length + es.length ≤ sizeLine) : binD .Add (.lst ds) (.lst es) = some (.fr (ds ++ es)) := by simp only [binD, if_pos h]
theorem bin_mul_r (h : -(2 ^ 64) < j ∧ j < 2 ^ 64) : binD .Mult (.int i) (.int j) = some (.d (.int (i * j))) := by
  have h' : CMul i j := Or.inr h
  simp only [binD, if_pos h']
theorem bin_mul_l (h : -(2 ^ 64) < i ∧ i < 2 ^ 64) : binD .Mult (.int i) (.int j) = some (.d (.int (i * j))) := by
  have h' : CMul i j := Or.inl h
  simp only [binD, if_pos h']
theorem bin_mod (h : 0 < j) : binD .Mod (.int i) (.int j) = some (.d (.int (i % j))) := by simp only [binD, if_pos h]
theorem bin_div (h : 0 < j ∧ j < 1073741824) : binD .FloorDiv (.int i) (.int j) = some (.d (.int (i / j))) := by
  have h' : CDiv i j := h
  simp only [binD, if_pos h']
theorem bin_rep {k : Int} (h : 0 ≤ k ∧ k ≤ 1000 ∧ ds.length ≤ 10000) : binD .Mult (.lst ds) (.int k) = some (.fr (List.replicate k.toNat ds).flatten) := by
  have h2 : -(2 ^ 63) ≤ k ∧ k < 2 ^ 63 ∧ ds.length * k.toNat ≤ sizeLine := by
    refine ⟨by omega, by omega, ?_⟩
    have : ds.length * k.toNat ≤ 10000 * 1000 := Nat.mul_le_mul h.2.2 (by omega)
    rw [sizeLine_eq]
    omega
  simp only [binD, if_pos h2]
theorem bin_repS {k : Int} (h : x.length ≤ 1000 ∧ 0 ≤ k ∧ k ≤ 1000) : binD .Mult (.str x) (.int k) = some (.d (.str (Txt.mul x k))) := by simp only [binD, if_pos h]
@[simp] theorem eq_int : cmpD .Eq (.int i) (.int j) = some (decide (i = j)) := rfl
@[simp] theorem eq_str : cmpD .Eq (.str x) (.str y) = some (decide (x = y)) := rfl
@[simp] theorem ne_int : cmpD .NotEq (.int i) (.int j) = some (!decide (i = j)) := rfl
@[simp] theorem ne_str : cmpD .NotEq (.str x) (.str y) = some (!decide (x = y)) := rfl
@[simp] theorem lt_int : cmpD .Lt (.int i) (.int j) = some (decide (i < j)) := rfl
@[simp] theorem le_int : cmpD .LtE (.int i) (.int j) = some (decide (i ≤ j)) := rfl
@[simp] theorem gt_int : cmpD .Gt (.int i) (.int j) = some (decide (j < i)) := rfl
@[simp] theorem ge_int : cmpD .GtE (.int i) (.int j) = some (decide (j ≤ i)) := rfl
@[simp] theorem lt_str : cmpD .Lt (.str x) (.str y) = some (decide (x.cps.toList < y.cps.toList)) := rfl
@[simp] theorem gt_str : cmpD .Gt (.str x) (.str y) = some (decide (y.cps.toList < x.cps.toList)) := rfl
@[simp] theorem in_ev : cmpD .In d e = inD d e := rfl
@[simp] theorem nin_ev : cmpD .NotIn d e = (inD d e).map (!·) := rfl
@[simp] theorem is_ev : cmpD .Is d e = isD d e := rfl
@[simp] theorem isn_ev : cmpD .IsNot d e = (isD d e).map (!·) := rfl
@[simp] theorem tru_bl : truD (.bl b) = some b := rfl
@[simp] theorem tru_int : truD (.int i) = some (i != 0) := rfl
@[simp] theorem tru_non : truD .non = some false := rfl
@[simp] theorem tru_tup : truD (.tup ds) = some (!ds.isEmpty) := rfl
@[simp] theorem tru_lst : truD (.lst ds) = some (!ds.isEmpty) := rfl
theorem tru_str (h : x.length ≤ sizeLine) : truD (.str x) = some ((x.length : Int) != 0) := by simp only [truD, if_pos h]
@[simp] theorem not_bl : notD (.bl b) = some (!b) := rfl
@[simp] theorem neg_int : negD (.int i) = some (.int (-i)) := rfl
@[simp] theorem isi_int_int : isi .int (.int i) = some true := rfl
@[simp] theorem isi_int_bl : isi .int (.bl b) = some true := rfl
@[simp] theorem isi_int_non : isi .int .non = some false := rfl
@[simp] theorem isi_int_str : isi .int (.str x) = some false := rfl
@[simp] theorem isi_int_tup : isi .int (.tup ds) = some false := rfl
@[simp] theorem isi_int_lst : isi .int (.lst ds) = some false := rfl
@[simp] theorem isi_str_int : isi .str (.int i) = some false := rfl
@[simp] theorem isi_str_bl : isi .str (.bl b) = some false := rfl
@[simp] theorem isi_str_non : isi .str .non = some false := rfl
@[simp] theorem isi_str_str : isi .str (.str x) = some true := rfl
@[simp] theorem isi_str_tup : isi .str (.tup ds) = some false := rfl
@[simp] theorem isi_str_lst : isi .str (.lst ds) = some false := rfl
@[simp] theorem isi_bool_int : isi .bool (.int i) = some false := rfl
@[simp] theorem isi_bool_bl : isi .bool (.bl b) = some true := rfl
@[simp] theorem isi_bool_non : isi .bool .non = some false := rfl
@[simp] theorem isi_bool_str : isi .bool (.str x) = some false := rfl
@[simp] theorem isi_bool_tup : isi .bool (.tup ds) = some false := rfl
@[simp] theorem isi_bool_lst : isi .bool (.lst ds) = some false := rfl
@[simp] theorem isi_tuple_int : isi .tuple (.int i) = some false := rfl
@[simp] theorem isi_tuple_bl : isi .tuple (.bl b) = some false := rfl
@[simp] theorem isi_tuple_non : isi .tuple .non = some false := rfl
@[simp] theorem isi_tuple_str : isi .tuple (.str x) = some false := rfl
@[simp] theorem isi_tuple_tup : isi .tuple (.tup ds) = some true := rfl
@[simp] theorem isi_tuple_lst : isi .tuple (.lst ds) = some false := rfl
@[simp] theorem isi_list_int : isi .list (.int i) = some false := rfl
@[simp] theorem isi_list_bl : isi .list (.bl b) = some false := rfl
@[simp] theorem isi_list_non : isi .list .non = some false := rfl
@[simp] theorem isi_list_str : isi .list (.str x) = some false := rfl
@[simp] theorem isi_list_tup : isi .list (.tup ds) = some false := rfl
@[simp] theorem isi_list_lst : isi .list (.lst ds) = some true := rfl
@[simp] theorem len_ev : Bi.f .len d = dV (lenD d) := rfl
@[simp] theorem all_ev : Bi.f .all d = dV (allD d) := rfl
@[simp] theorem any_ev : Bi.f .any d = dV (anyD d) := rfl
@[simp] theorem tuple_ev : Bi.f .tuple d = dV (tupD d) := rfl
@[simp] theorem list_ev : Bi.f .list d = lisD d := rfl
@[simp] theorem int_ev : Bi.f .int d = dV (intD d) := rfl
@[simp] theorem str_ev : Bi.f .str d = dV (strD d) := rfl
@[simp] theorem len_tup : lenD (.tup ds) = some (.int ds.length) := rfl
@[simp] theorem len_lst : lenD (.lst ds) = some (.int ds.length) := rfl
@[simp] theorem len_scr (ns : List Int) : lenD (.scr ns) = some (.int ns.length) := rfl
theorem len_str (h : x.length ≤ sizeLine) : lenD (.str x) = some (.int x.length) := by simp only [lenD, if_pos h]
theorem blsOf_map (bs : List Bool) : blsOf (bs.map .bl) = some bs := by
  induction bs with
  | nil => rfl
  | cons b bs ih => simp [blsOf, blOf, ih]
theorem all_bls (bs : List Bool) : allD (.lst (bs.map .bl)) = some (.bl (bs.all id)) := by simp only [allD, blsOf_map]; rfl
theorem all_map {α : Type} (f : α → Bool) (xs : List α) : allD (.lst (xs.map fun x => .bl (f x))) = some (.bl (xs.all f)) := by
  have := all_bls (xs.map f)
  rw [List.map_map, List.all_map] at this
  exact this
theorem any_bls (bs : List Bool) : anyD (.lst (bs.map .bl)) = some (.bl (bs.any id)) := by simp only [anyD, blsOf_map]; rfl
@[simp] theorem tup_tup : tupD (.tup ds) = some (.tup ds) := rfl
@[simp] theorem tup_lst : tupD (.lst ds) = some (.tup ds) := rfl
@[simp] theorem lis_tup : lisD (.tup ds) = some (.fr ds) := rfl
@[simp] theorem lis_lst : lisD (.lst ds) = some (.fr ds) := rfl
theorem lis_str (h : x.length ≤ sizeLine) : lisD (.str x) = some (.fr (signs x)) := by simp only [lisD, if_pos h]; rfl
@[simp] theorem int_int : intD (.int i) = some (.int i) := rfl
@[simp] theorem int_bl : intD (.bl b) = some (.int (if b then 1 else 0)) := rfl
@[simp] theorem rev_tup : revD (.tup ds) = some (.tup ds.reverse) := rfl
@[simp] theorem slc_tup (lo hi : Option Int) : slcD lo hi (.tup ds) = some (.d (.tup (cutD ds lo hi))) := rfl
@[simp] theorem slc_lst (lo hi : Option Int) : slcD lo hi (.lst ds) = some (.fr (cutD ds lo hi)) := rfl
theorem slc_str (lo hi : Option Int) (h : x.length ≤ sizeLine) : slcD lo hi (.str x) = some (.d (.str (cutS x lo hi))) := by simp only [slcD, if_pos h]
@[simp] theorem is_non_non : isD .non .non = some true := rfl
@[simp] theorem is_bl_bl : isD (.bl b) (.bl c) = some (decide (b = c)) := rfl
theorem is_x_non (h : d ≠ .non) : isD d .non = some false := by cases d <;> first | rfl | exact absurd rfl h
@[simp] theorem is_bl_non : isD (.bl b) .non = some false := rfl
@[simp] theorem is_int_non : isD (.int i) .non = some false := rfl
@[simp] theorem is_str_non : isD (.str x) .non = some false := rfl
@[simp] theorem is_tup_non : isD (.tup ds) .non = some false := rfl
@[simp] theorem is_lst_non : isD (.lst ds) .non = some false := rfl
@[simp] theorem idx_tup : idxD (.tup ds) (.int i) = atI ds i := rfl
@[simp] theorem idx_lst : idxD (.lst ds) (.int i) = atI ds i := rfl
@[simp] theorem idx_scr (ns : List Int) : idxD (.scr ns) (.int i) = (atI ns i).map .int := rfl
theorem idx_str (h : x.length ≤ sizeLine) : idxD (.str x) (.int i) = (atI x.cps.toList i).map fun k => .str ⟨#[k]⟩ := by simp only [idxD, if_pos h]
theorem at_nat {α : Type} (xs : List α) (k : Nat) : atI xs (k : Int) = xs[k]? := by
  unfold L2.atI L2.ixN
  rw [if_pos (by omega)]
  by_cases h : k < xs.length
  · rw [if_pos (by omega)]
    simp
  · rw [if_neg (by omega), List.getElem?_eq_none (by omega)]
    rfl
@[simp] theorem atI_0 {α : Type} (xs : List α) : atI xs 0 = xs[0]? := at_nat xs 0
@[simp] theorem atI_1 {α : Type} (xs : List α) : atI xs 1 = xs[1]? := at_nat xs 1
@[simp] theorem atI_2 {α : Type} (xs : List α) : atI xs 2 = xs[2]? := at_nat xs 2
@[simp] theorem atI_3 {α : Type} (xs : List α) : atI xs 3 = xs[3]? := at_nat xs 3
theorem atI_of {α : Type} (xs : List α) {i : Int} (h : 0 ≤ i) : atI xs i = xs[i.toNat]? := by
  have e : i = (i.toNat : Int) := by omega
  rw [e, at_nat, Int.toNat_natCast]
theorem atI_last {α : Type} (xs : List α) : atI xs (-1) = xs[xs.length - 1]? := by
  unfold L2.atI L2.ixN
  rw [if_neg (by omega)]
  by_cases h : xs.length = 0
  · have : xs = [] := List.length_eq_zero_iff.mp h
    subst this
    rfl
  · rw [if_pos (by omega)]
    simp only [Option.bind_some]
    congr 1
    omega
@[simp] theorem cut_from1 (ds : List D) : cutD ds (some 1) none = ds.drop 1 := by
  unfold cutD
  have e : HT.sIx ds.length 0 (some 1) = min 1 ds.length := HT.sIx_nat _ _ 1
  rw [e, HT.sIx_none]
  rcases ds with _ | ⟨d, ds⟩
  · rfl
  · simp
theorem cut_from (ds : List D) (k : Nat) : cutD ds (some (k : Int)) none = ds.drop k := by
  unfold cutD
  rw [HT.sIx_nat, HT.sIx_none]
  by_cases h : k ≤ ds.length
  · rw [Nat.min_eq_left h]
    apply List.take_of_length_le
    simp
  · rw [Nat.min_eq_right (by omega), List.drop_of_length_le (by omega : ds.length ≤ k), List.drop_of_length_le (Nat.le_refl _)]
    simp
theorem cut_to (ds : List D) (k : Nat) : cutD ds none (some (k : Int)) = ds.take k := by
  unfold cutD
  rw [HT.sIx_nat, HT.sIx_none]
  simp only [List.drop_zero, Nat.sub_zero]
  by_cases h : k ≤ ds.length
  · rw [Nat.min_eq_left h]
  · rw [Nat.min_eq_right (by omega), List.take_of_length_le (Nat.le_refl _), List.take_of_length_le (by omega)]
@[simp] theorem cut_to1 (ds : List D) : cutD ds none (some 1) = ds.take 1 := cut_to ds 1
theorem sIx_neg (n d : Nat) (k : Nat) : HT.sIx n d (some (-((k : Int) + 1))) = n - (k + 1) := by
  show (if -((k : Int) + 1) < 0 then (-((k : Int) + 1) + (n : Int)).toNat else min (-((k : Int) + 1)).toNat n) = _
  rw [if_pos (by omega)]
  omega
@[simp] theorem cut_last (ds : List D) : cutD ds (some (-1)) none = ds.drop (ds.length - 1) := by
  unfold cutD
  have e : HT.sIx ds.length 0 (some (-1)) = ds.length - 1 := sIx_neg _ _ 0
  rw [e, HT.sIx_none]
  apply List.take_of_length_le
  simp
@[simp] theorem cut_init (ds : List D) : cutD ds none (some (-1)) = ds.take (ds.length - 1) := by
  unfold cutD
  have e : HT.sIx ds.length ds.length (some (-1)) = ds.length - 1 := sIx_neg _ _ 0
  rw [e, HT.sIx_none]
  rfl
end

/-! ### statements -/
section
variable {st st' : Sto} {rh rh' : Rho} {d e : D}
@[simp] theorem sThen_ev (fe : Sm) (k : TV → Sto → Rho → RS) : sThen fe k rh st = onR (fe rh st) rh fun t st1 => k t st1 rh := rfl
@[simp] theorem sAsg_ev (own : Bool) (i : Nat) (fe : Sm) : sAsg own i fe rh st = onR (fe rh st) rh fun t st1 => asg own i t st1 rh := rfl
@[simp] theorem asg_d (own : Bool) (i : Nat) : asg own i (.d d) st rh = .nx (rh.set i (some (.val d))) st := rfl
@[simp] theorem asg_fr_t (i : Nat) (ds : List D) : asg true i (.fr ds) st rh = .nx (rh.set i (some (.own ds))) st := rfl
@[simp] theorem asg_fr_f (i : Nat) (ds : List D) : asg false i (.fr ds) st rh = .nx (rh.set i (some (.val (.lst ds)))) st := rfl
@[simp] theorem sRet_ev (fe : Sm) : sRet fe rh st = onR (fe rh st) rh fun t st1 => ret t st1 rh := rfl
@[simp] theorem ret_d : ret (.d d) st rh = .rt d st := rfl
@[simp] theorem ret_fr (ds : List D) : ret (.fr ds) st rh = .rt (.lst ds) st := rfl
@[simp] theorem ret_o (i : Nat) : ret (.o i) st rh = (match rh[i]? with
    | some (some (.own ds)) => .rt (.lst ds) st
    | _ => .no) := rfl
@[simp] theorem sRetN_ev : sRetN rh st = .rt .non st := rfl
@[simp] theorem sNil_ev : sNil rh st = .nx rh st := rfl
@[simp] theorem sBrk_ev : sBrk rh st = .bk rh st := rfl
@[simp] theorem sSeq_ev (f k : Ss) : sSeq f k rh st = onN (f rh st) k := rfl
@[simp] theorem sExpr_ev (fe : Sm) : sExpr fe rh st = onR (fe rh st) rh fun t st1 => .nx rh st1 := rfl
@[simp] theorem sIf_ev (fc : Sm) (f k : Ss) : sIf fc f k rh st = onR (fc rh st) rh fun t st1 => onT t fun b => if b then f rh st1 else k rh st1 := by
  unfold sIf sThen onR
  cases fc rh st with
  | ok t s =>
    cases t with
    | d d => cases d with
      | bl b => cases b <;> rfl
      | _ => rfl
    | _ => rfl
  | _ => rfl
@[simp] theorem sPar_ev (i j : Nat) (fs : List Sm) : sPar i j fs rh st = (match eArgs fs rh st with
  | .ok [d, e] st1 => .nx ((rh.set i (some (.val d))).set j (some (.val e))) st1
  | .ok _ _ => .no
  | .ex x st1 => .ex x rh st1
  | .no => .no) := rfl
@[simp] theorem sFor_ev (tg : Tg) (fi : Im) (body : Ss) : sFor tg fi body rh st = (match fi rh st with
  | .ok ds st1 => sLoop tg body ds rh st1
  | .ex x st1 => .ex x rh st1
  | .no => .no) := rfl
@[simp] theorem sLoop_nil (tg : Tg) (body : Ss) : sLoop tg body [] rh st = .nx rh st := rfl
theorem sLoop_cons (tg : Tg) (body : Ss) (d : D) (ds : List D) : sLoop tg body (d :: ds) rh st = (match tgSet tg d rh with
    | none => .no
    | some rh1 => (match body rh1 st with
      | .nx rh2 st2 => sLoop tg body ds rh2 st2
      | .ct rh2 st2 => sLoop tg body ds rh2 st2
      | .bk rh2 st2 => .nx rh2 st2
      | r => r)) := rfl
@[simp] theorem iOne_ev (f : D → Option (List D)) (fa : Sm) : iOne f fa rh st = (fa rh st).bind fun t st1 => if notLoc t then oR ((view rh st1 t).bind f) st1 else .no := rfl
@[simp] theorem iOneP_ev (f : D → Option (List D)) (fa : Sm) : iOneP f fa rh st = (fa rh st).bind fun t st1 => if notLoc t then oR ((toDv t).bind f) st1 else .no := rfl
@[simp] theorem iTwo_ev (f : D → D → Option (List D)) (fa fb : Sm) : iTwo f fa fb rh st = (fa rh st).bind fun t st1 => (fb rh st1).bind fun u st2 => if notLoc t && notLoc u then oR ((view rh st2 t).bind fun d => (view rh st2 u).bind fun e => f d e) st2 else .no := rfl
theorem iTwo_ok {f : D → D → Option (List D)} {fa fb : Sm} {t u : TV} {st1 st2 : Sto} {ds : List D} (h1 : fa rh st = .ok t st1) (h2 : fb rh st1 = .ok u st2) (hn : notLoc t = true) (hu : notLoc u = true) (v1 : view rh st2 t = some d) (v2 : view rh st2 u = some e) (hf : f d e = some ds) : iTwo f fa fb rh st = .ok ds st2 := by
  show (fa rh st).bind _ = _
  rw [h1, R.bind_ok, h2, R.bind_ok, hn, hu, v1, v2]
  show oR (f d e) st2 = _
  rw [hf]
  rfl
theorem iOne_ok {f : D → Option (List D)} {fa : Sm} {t : TV} {st1 : Sto} {ds : List D} (h1 : fa rh st = .ok t st1) (hn : notLoc t = true) (v1 : view rh st1 t = some d) (hf : f d = some ds) : iOne f fa rh st = .ok ds st1 := by
  show (fa rh st).bind _ = _
  rw [h1, R.bind_ok, hn, v1]
  show oR (f d) st1 = _
  rw [hf]
  rfl
theorem iOneP_ok {f : D → Option (List D)} {fa : Sm} {t : TV} {st1 : Sto} {ds : List D} (h1 : fa rh st = .ok t st1) (hn : notLoc t = true) (v1 : toDv t = some d) (hf : f d = some ds) : iOneP f fa rh st = .ok ds st1 := by
  show (fa rh st).bind _ = _
  rw [h1, R.bind_ok, hn, v1]
  show oR (f d) st1 = _
  rw [hf]
  rfl
@[simp] theorem notLoc_fr (ds : List D) : notLoc (.fr ds) = true := rfl
@[simp] theorem notLoc_o (i : Nat) : notLoc (.o i) = true := rfl
@[simp] theorem notLoc_tup (ds : List D) : notLoc (.d (.tup ds)) = true := rfl
@[simp] theorem notLoc_lst (ds : List D) : notLoc (.d (.lst ds)) = true := rfl
@[simp] theorem notLoc_str (x : Str) : notLoc (.d (.str x)) = true := rfl
@[simp] theorem notLoc_int (x : Int) : notLoc (.d (.int x)) = true := rfl
@[simp] theorem items_tup (ds : List D) : itemsD (.tup ds) = some ds := rfl
@[simp] theorem items_lst (ds : List D) : itemsD (.lst ds) = some ds := rfl
@[simp] theorem items_str (x : Str) : itemsD (.str x) = some (signs x) := rfl
@[simp] theorem enm_lst (ds : List D) : enmD (.lst ds) = some (numFrom 0 ds) := rfl
@[simp] theorem enm_str (x : Str) : enmD (.str x) = some (numFrom 0 (signs x)) := rfl
@[simp] theorem zip_tup (ds es : List D) : zipD (.tup ds) (.tup es) = some (zipTup ds es) := rfl
@[simp] theorem zip_lst (ds es : List D) : zipD (.lst ds) (.lst es) = some (zipTup ds es) := rfl
theorem rng1_ev {n : Nat} (h : n < 4611686018427387904) : rng1 (.int n) = some ((List.range n).map fun i => .int (i : Nat)) := by
  show rngD 0 (n : Int) = _
  unfold rngD
  rw [if_pos (by omega)]
  simp
theorem rng2_ev {i j : Int} (h : -4611686018427387904 ≤ i ∧ i < 4611686018427387904 ∧ -4611686018427387904 ≤ j ∧ j < 4611686018427387904) : rng2 (.int i) (.int j) = some ((List.range (j - i).toNat).map fun k => .int (i + (k : Nat))) := by
  show rngD i j = _
  unfold rngD
  rw [if_pos (by omega)]
@[simp] theorem eComp_ev (vs : List Nat) (tg : Tg) (fi : Im) (fc : Option Sm) (fe : Sm) : eComp vs tg fi fc fe rh st = (fi rh st).bind fun ds st1 => if ds.length ≤ sizeLine then (cLoop tg fc fe (wipeR rh vs) ds st1).bind fun ys st2 => .ok (.fr ys) st2 else .no := rfl
theorem comp_ok {vs : List Nat} {tg : Tg} {fi : Im} {fc : Option Sm} {fe : Sm} {ds ys : List D} {st1 st2 : Sto} (hi : fi rh st = .ok ds st1) (hl : ds.length ≤ sizeLine) (hc : cLoop tg fc fe (wipeR rh vs) ds st1 = .ok ys st2) : eComp vs tg fi fc fe rh st = .ok (.fr ys) st2 := by
  show (fi rh st).bind _ = _
  rw [hi, R.bind_ok, if_pos hl, hc]
  rfl
@[simp] theorem wipe_nil : wipeR rh [] = rh := rfl
@[simp] theorem wipe_cons (v : Nat) (vs : List Nat) : wipeR rh (v :: vs) = (wipeR rh vs).set v none := rfl
@[simp] theorem tg_name_ev (i : Nat) : tgSet (.name i) d rh = some (rh.set i (some (.val d))) := rfl
@[simp] theorem tg_tup_ev (is : List Nat) (ds : List D) : tgSet (.tup is) (.tup ds) rh = setAll is ds rh := rfl
@[simp] theorem setAll_nil : setAll [] [] rh = some rh := rfl
@[simp] theorem setAll_cons (i : Nat) (is : List Nat) (d : D) (ds : List D) : setAll (i :: is) (d :: ds) rh = setAll is ds (rh.set i (some (.val d))) := rfl
/-- each item is led to one value, the store is left -/
theorem cLoop_map {tg : Tg} {fe : Sm} {rhw : Rho} (f : D → D) : ∀ (ds : List D), (∀ d ∈ ds, ∃ rh', tgSet tg d rhw = some rh' ∧ cElt fe rh' st = .ok (f d) st) → cLoop tg none fe rhw ds st = .ok (ds.map f) st
  | [], _ => rfl
  | d :: ds, h => by
    obtain ⟨rh', h1, h2⟩ := h d List.mem_cons_self
    unfold cLoop
    rw [h1]
    simp only [oR_some, R.bind_ok, cTest, h2, cLoop_map f ds fun d hd => h d (List.mem_cons_of_mem _ hd), List.map_cons]
theorem cLoop_filter {tg : Tg} {fc fe : Sm} {rhw : Rho} (p : D → Bool) (f : D → D) : ∀ (ds : List D), (∀ d ∈ ds, ∃ rh', tgSet tg d rhw = some rh' ∧ fc rh' st = .ok (.d (.bl (p d))) st ∧ (p d = true → cElt fe rh' st = .ok (f d) st)) → cLoop tg (some fc) fe rhw ds st = .ok ((ds.filter p).map f) st
  | [], _ => rfl
  | d :: ds, h => by
    obtain ⟨rh', h1, h2, h3⟩ := h d List.mem_cons_self
    unfold cLoop
    rw [h1]
    have ih := cLoop_filter p f ds fun d hd => h d (List.mem_cons_of_mem _ hd)
    simp only [oR_some, R.bind_ok, cTest, h2, ih]
    cases hp : p d with
    | false => simp [List.filter_cons, hp]
    | true => simp [List.filter_cons, hp, h3 hp, ih]
@[simp] theorem fin_rt (n : Nat) : fin n (.rt d st) = .ok d (cut n d st) := rfl
@[simp] theorem fin_nx (n : Nat) : fin n (.nx rh st) = .ok .non (cut n .non st) := rfl
@[simp] theorem fin_ex (n : Nat) (c : Str) : fin n (.ex c rh st) = .ex c (cut n .non st) := rfl
@[simp] theorem cut_same (d : D) : cut st.length d st = st := by unfold cut; rw [if_pos (Nat.le_refl _)]
@[simp] theorem sApp_ev (fo fe : Sm) : sApp fo fe rh st = onR (fo rh st) rh fun t st1 => if isL rh st1 t then onR (fe rh st1) rh fun u st2 => (match toDv u with
      | some d => updL t (appD d) st2 rh
      | none => .no) else .no := rfl
@[simp] theorem sExt_ev (fo fe : Sm) : sExt fo fe rh st = onR (fo rh st) rh fun t st1 => if isL rh st1 t then onR (fe rh st1) rh fun u st2 => (match view rh st2 u with
      | some (.lst es) => updL t (extD es) st2 rh
      | _ => .no) else .no := rfl
@[simp] theorem isL_o (i : Nat) : isL rh st (.o i) = (match rh[i]? with
  | some (some (.own _)) => true
  | _ => false) := by
  unfold isL
  simp only [view_o]
  cases h : rh[i]? with
  | none => rfl
  | some o =>
    cases o with
    | none => rfl
    | some c => cases c <;> rfl
@[simp] theorem updL_o (i : Nat) (f : List D → Option (List D)) : updL (.o i) f st rh = (match rh[i]? with
    | some (some (.own ds)) => (match f ds with
      | some ds' => .nx (rh.set i (some (.own ds'))) st
      | none => .no)
    | _ => .no) := rfl
theorem app_ev {ds : List D} (h : ds.length < sizeLine) : appD d ds = some (ds ++ [d]) := by unfold appD; rw [if_pos h]
theorem ext_ev {ds es : List D} (h : ds.length + es.length ≤ sizeLine) : extD es ds = some (ds ++ es) := by unfold extD; rw [if_pos h]
end
end KL

namespace KW
open PySem L2 KL
def top (i : Nat) : Stmt := PySem.Challenge.pw_keptlooks_k01_books.main.body.getD i (.Pass ⟨0, 0, 0, 0⟩)
abbrev s_is_name : Stmt := top 5
def d_is_name : He.DefD := ⟨("is_name", none), "is_name", "is_name", defArgs s_is_name, defBody s_is_name, defScope s_is_name, [], []⟩
def m_is_name (G : Tbl) : Ss :=
  (sRet (eAnd (eIsi .str (eVar 0)) (eAnd (eCmp .Eq (eB1 .len (eVar 0)) (eC (.int 1))) (eCmp .In (eVar 0) (eVar 1)))))
def f_is_name : Df := ⟨d_is_name, ["thing", "names"], ["thing", "names"], [], m_is_name⟩
abbrev s_is_worth : Stmt := top 6
def d_is_worth : He.DefD := ⟨("is_worth", none), "is_worth", "is_worth", defArgs s_is_worth, defBody s_is_worth, defScope s_is_worth, [], []⟩
def m_is_worth (G : Tbl) : Ss :=
  (sRet (eAnd (eIsi .int (eVar 0)) (eAnd (eNot (eIsi .bool (eVar 0))) (eCmp2 .LtE .LtE (eC (.int 0)) (eVar 0) (eC (.int 2))))))
def f_is_worth : Df := ⟨d_is_worth, ["thing"], ["thing"], [], m_is_worth⟩
abbrev s_is_rule_in : Stmt := top 7
def d_is_rule_in : He.DefD := ⟨("is_rule_in", none), "is_rule_in", "is_rule_in", defArgs s_is_rule_in, defBody s_is_rule_in, defScope s_is_rule_in, [], []⟩
def m_is_rule_in (G : Tbl) : Ss :=
  (sSeq (sIf (eOr (eNot (eTru (eIsi .tuple (eVar 0)))) (eOr (eCmp .Lt (eB1 .len (eVar 0)) (eC (.int 2))) (eOr (eNot (eTru (eIsi .str (eIdx (eVar 0) (eC (.int 0)))))) (eCmp .Eq (eVar 1) (eC (.int 0))))))
  (sRet (eC (.bl false)))
  sNil)
  (sSeq (sPar 2 3 [(eIdx (eVar 0) (eC (.int 0))), (eSlc (eVar 0) (some (eC (.int 1))) none)])
  (sSeq (sIf (eCmp .Eq (eVar 2) (eC (.str "worth")))
  (sRet (eAnd (eCmp .Eq (eB1 .len (eVar 3)) (eC (.int 1))) (eCall G "is_worth" [(eIdx (eVar 3) (eC (.int 0)))])))
  sNil)
  (sSeq (sIf (eCmp .Eq (eVar 2) (eC (.str "look")))
  (sRet (eAnd (eCmp .Eq (eB1 .len (eVar 3)) (eC (.int 1))) (eCall G "is_name" [(eIdx (eVar 3) (eC (.int 0))), (eBin .Add (eC (Kc.d (.str "abc"))) (eC (Kc.d (.str "ABCDE"))))])))
  sNil)
  (sSeq (sIf (eOr (eAnd (eCmp .NotEq (eVar 2) (eC (.str "if"))) (eCmp .NotIn (eVar 2) (eC (Kc.d (.tS ["plus", "times", "same", "least", "most"]))))) (eCmp .NotEq (eB1 .len (eVar 3)) (eBin .Add (eC (.int 2)) (eB1 .int (eCmp .Eq (eVar 2) (eC (.str "if")))))))
  (sRet (eC (.bl false)))
  sNil)
  (sRet (eB1 .all (eComp [4] (.name 4) (iOne itemsD (eVar 3)) none (eCall G "is_rule_in" [(eVar 4), (eBin .Sub (eVar 1) (eC (.int 1)))])))))))))
def f_is_rule_in : Df := ⟨d_is_rule_in, ["thing", "deep"], ["thing", "deep", "word", "rest", "part"], [], m_is_rule_in⟩
abbrev s_is_rule : Stmt := top 8
def d_is_rule : He.DefD := ⟨("is_rule", none), "is_rule", "is_rule", defArgs s_is_rule, defBody s_is_rule, defScope s_is_rule, [], []⟩
def m_is_rule (G : Tbl) : Ss :=
  (sRet (eCall G "is_rule_in" [(eVar 0), (eC (Kc.d (.int 4)))]))
def f_is_rule : Df := ⟨d_is_rule, ["thing"], ["thing"], [], m_is_rule⟩
abbrev s_is_entry : Stmt := top 9
def d_is_entry : He.DefD := ⟨("is_entry", none), "is_entry", "is_entry", defArgs s_is_entry, defBody s_is_entry, defScope s_is_entry, [], []⟩
def m_is_entry (G : Tbl) : Ss :=
  (sRet (eAnd (eIsi .tuple (eVar 0)) (eAnd (eCmp .Eq (eB1 .len (eVar 0)) (eC (.int 2))) (eAnd (eCall G "is_name" [(eIdx (eVar 0) (eC (.int 0))), (eC (Kc.d (.str "ABCDE")))]) (eCall G "is_rule" [(eIdx (eVar 0) (eC (.int 1)))])))))
def f_is_entry : Df := ⟨d_is_entry, ["thing"], ["thing"], [], m_is_entry⟩
abbrev s_is_book : Stmt := top 10
def d_is_book : He.DefD := ⟨("is_book", none), "is_book", "is_book", defArgs s_is_book, defBody s_is_book, defScope s_is_book, [], []⟩
def m_is_book (G : Tbl) : Ss :=
  (sSeq (sIf (eOr (eNot (eTru (eIsi .tuple (eVar 0)))) (eNot (eTru (eB1 .all (eComp [1] (.name 1) (iOne itemsD (eVar 0)) none (eCall G "is_entry" [(eVar 1)]))))))
  (sRet (eC (.bl false)))
  sNil)
  (sRet (eB1 .all (eComp [2] (.name 2) (iTwo rng2 (eC (.int 1)) (eB1 .len (eVar 0))) none (eCmp .Lt (eIdx (eIdx (eVar 0) (eBin .Sub (eVar 2) (eC (.int 1)))) (eC (.int 0))) (eIdx (eIdx (eVar 0) (eVar 2)) (eC (.int 0))))))))
def f_is_book : Df := ⟨d_is_book, ["thing"], ["thing", "one", "k"], [], m_is_book⟩
abbrev s_names_of : Stmt := top 11
def d_names_of : He.DefD := ⟨("names_of", none), "names_of", "names_of", defArgs s_names_of, defBody s_names_of, defScope s_names_of, [], []⟩
def m_names_of (G : Tbl) : Ss :=
  (sSeq (sIf (eCmp .Eq (eIdx (eVar 0) (eC (.int 0))) (eC (.str "look")))
  (sRet (eLst [(eIdx (eVar 0) (eC (.int 1)))]))
  sNil)
  (sSeq (sAsg true 1 (eLst []))
  (sSeq (sIf (eCmp .NotEq (eIdx (eVar 0) (eC (.int 0))) (eC (.str "worth")))
  (sFor (.name 2) (iOneP itemsD (eSlc (eVar 0) (some (eC (.int 1))) none))
  (sExt (eVar 1) (eCall G "names_of" [(eVar 2)])))
  sNil)
  (sRet (eVar 1)))))
def f_names_of : Df := ⟨d_names_of, ["rule"], ["rule", "found", "part"], ["found"], m_names_of⟩
abbrev s_names_in : Stmt := top 12
def d_names_in : He.DefD := ⟨("names_in", none), "names_in", "names_in", defArgs s_names_in, defBody s_names_in, defScope s_names_in, [], []⟩
def m_names_in (G : Tbl) : Ss :=
  (sRet (eB1 .tuple (eSortSet (eCall G "names_of" [(eVar 0)]))))
def f_names_in : Df := ⟨d_names_in, ["rule"], ["rule"], [], m_names_in⟩
abbrev s_law_cell : Stmt := top 14
def d_law_cell : He.DefD := ⟨("_law_cell", none), "_law_cell", "_law_cell", defArgs s_law_cell, defBody s_law_cell, defScope s_law_cell, [], []⟩
def m_law_cell (G : Tbl) : Ss :=
  (sSeq (sIf (eCmp .Lt (eVar 1) (eB1 .len (eVar 0)))
  (sRet (eIdx (eVar 0) (eVar 1)))
  sNil)
  (sRet (eC (.int 0))))
def f_law_cell : Df := ⟨d_law_cell, ["script", "k"], ["script", "k"], [], m_law_cell⟩
abbrev s_law_mix : Stmt := top 15
def d_law_mix : He.DefD := ⟨("_law_mix", none), "_law_mix", "_law_mix", defArgs s_law_mix, defBody s_law_mix, defScope s_law_mix, [], []⟩
def m_law_mix (G : Tbl) : Ss :=
  (sSeq (sAsg false 3 (eBin .Mod (eBin .Mult (eVar 0) (eC (.int 48271))) (eVar 1)))
  (sRet (eBin .Mod (eBin .Mod (eBin .Mult (eVar 3) (eBin .Add (eVar 3) (eC (.int 7)))) (eVar 1)) (eVar 2))))
def f_law_mix : Df := ⟨d_law_mix, ["cell", "prime", "many"], ["cell", "prime", "many", "blend"], [], m_law_mix⟩
abbrev s_law_same : Stmt := top 16
def d_law_same : He.DefD := ⟨("_law_same", none), "_law_same", "_law_same", defArgs s_law_same, defBody s_law_same, defScope s_law_same, [], []⟩
def m_law_same (G : Tbl) : Ss :=
  (sSeq (sIf (eTru (eIsi .tuple (eVar 1)))
  (sSeq (sIf (eOr (eNot (eTru (eIsi .tuple (eVar 0)))) (eCmp .NotEq (eB1 .len (eVar 0)) (eB1 .len (eVar 1))))
  (sRet (eC (.bl false)))
  sNil)
  (sRet (eB1 .all (eComp [2, 3] (.tup [2, 3]) (iTwo zipD (eVar 0) (eVar 1)) none (eCall G "_law_same" [(eVar 2), (eVar 3)])))))
  sNil)
  (sSeq (sIf (eCmp .Is (eVar 1) (eC .non))
  (sRet (eCmp .Is (eVar 0) (eC .non)))
  sNil)
  (sSeq (sIf (eOr (eTru (eIsi .bool (eVar 1))) (eTru (eIsi .bool (eVar 0))))
  (sRet (eAnd (eIsi .bool (eVar 1)) (eAnd (eIsi .bool (eVar 0)) (eCmp .Eq (eVar 0) (eVar 1)))))
  sNil)
  (sRet (eAnd (eIsi2 .int .str (eVar 0)) (eCmp .Eq (eVar 0) (eVar 1)))))))
def f_law_same : Df := ⟨d_law_same, ["found", "due"], ["found", "due", "one", "other"], [], m_law_same⟩
abbrev s_law_rule : Stmt := top 17
def d_law_rule : He.DefD := ⟨("_law_rule", none), "_law_rule", "_law_rule", defArgs s_law_rule, defBody s_law_rule, defScope s_law_rule, [], []⟩
def m_law_rule (G : Tbl) : Ss :=
  (sSeq (sAsg false 2 (eCall G "_law_mix" [(eVar 0), (eC (.int 9973)), (eC (.int 10))]))
  (sSeq (sIf (eOr (eCmp .Lt (eVar 2) (eC (.int 4))) (eCmp .Eq (eVar 1) (eC (.int 1))))
  (sSeq (sIf (eCmp .Eq (eCall G "_law_mix" [(eVar 0), (eC (.int 9967)), (eC (.int 7))]) (eC (.int 0)))
  (sRet (eTup [(eC (.str "worth")), (eCall G "_law_mix" [(eVar 0), (eC (.int 9949)), (eC (.int 3))])]))
  sNil)
  (sRet (eTup [(eC (.str "look")), (eIdx (eC (.str "abcABCDEabc")) (eCall G "_law_mix" [(eVar 0), (eC (.int 9941)), (eC (.int 11))]))])))
  sNil)
  (sSeq (sIf (eCmp .Lt (eVar 2) (eC (.int 7)))
  (sSeq (sAsg false 3 (eIdx (eTup [(eC (.str "plus")), (eC (.str "times")), (eC (.str "same")), (eC (.str "least")), (eC (.str "most"))]) (eCall G "_law_mix" [(eVar 0), (eC (.int 9931)), (eC (.int 5))])))
  (sRet (eTup [(eVar 3), (eCall G "_law_rule" [(eBin .Add (eVar 0) (eC (.int 3))), (eBin .Sub (eVar 1) (eC (.int 1)))]), (eCall G "_law_rule" [(eBin .Add (eVar 0) (eC (.int 5))), (eBin .Sub (eVar 1) (eC (.int 1)))])])))
  sNil)
  (sRet (eTup [(eC (.str "if")), (eCall G "_law_rule" [(eBin .Add (eVar 0) (eC (.int 7))), (eBin .Sub (eVar 1) (eC (.int 1)))]), (eCall G "_law_rule" [(eBin .Add (eVar 0) (eC (.int 11))), (eBin .Sub (eVar 1) (eC (.int 1)))]), (eCall G "_law_rule" [(eBin .Add (eVar 0) (eC (.int 13))), (eBin .Sub (eVar 1) (eC (.int 1)))])])))))
def f_law_rule : Df := ⟨d_law_rule, ["cell", "deep"], ["cell", "deep", "way", "word"], [], m_law_rule⟩
abbrev s_law_book : Stmt := top 18
def d_law_book : He.DefD := ⟨("_law_book", none), "_law_book", "_law_book", defArgs s_law_book, defBody s_law_book, defScope s_law_book, [], []⟩
def m_law_book (G : Tbl) : Ss :=
  (sSeq (sAsg true 1 (eLst []))
  (sSeq (sFor (.tup [2, 3]) (iOneP enmD (eC (.str "ABCDE")))
  (sIf (eCmp .Gt (eCall G "_law_mix" [(eBin .Add (eVar 0) (eBin .Mult (eC (.int 17)) (eVar 2))), (eC (.int 9929)), (eC (.int 6))]) (eC (.int 0)))
  (sSeq (sAsg false 4 (eCall G "_law_rule" [(eBin .Add (eBin .Add (eVar 0) (eBin .Mult (eC (.int 31)) (eVar 2))) (eC (.int 1))), (eC (.int 4))]))
  (sSeq (sIf (eCmp .Gt (eCall G "_law_mix" [(eVar 0), (eC (.int 9923)), (eC (.int 3))]) (eC (.int 0)))
  (sAsg false 4 (eCall G "_law_later" [(eVar 4), (eVar 2)]))
  sNil)
  (sApp (eVar 1) (eTup [(eVar 3), (eVar 4)]))))
  sNil))
  (sRet (eB1 .tuple (eVar 1)))))
def f_law_book : Df := ⟨d_law_book, ["cell"], ["cell", "found", "k", "name", "rule"], ["found"], m_law_book⟩
abbrev s_law_later : Stmt := top 19
def d_law_later : He.DefD := ⟨("_law_later", none), "_law_later", "_law_later", defArgs s_law_later, defBody s_law_later, defScope s_law_later, [], []⟩
def m_law_later (G : Tbl) : Ss :=
  (sSeq (sIf (eAnd (eCmp .Eq (eIdx (eVar 0) (eC (.int 0))) (eC (.str "look"))) (eCmp .In (eIdx (eVar 0) (eC (.int 1))) (eC (.str "ABCDE"))))
  (sRet (eTup [(eC (.str "look")), (eIdx (eIdx (eTup [(eC (.str "BCDEa")), (eC (.str "CDEab")), (eC (.str "DEabc")), (eC (.str "Eabca")), (eC (.str "abcab"))]) (eVar 1)) (eM_index (eC (.str "ABCDE")) (eIdx (eVar 0) (eC (.int 1)))))]))
  sNil)
  (sRet (eBin .Add (eSlc (eVar 0) none (some (eC (.int 1)))) (eB1 .tuple (eComp [2] (.name 2) (iOne itemsD (eSlc (eVar 0) (some (eC (.int 1))) none)) none (eIf (eTru (eIsi .tuple (eVar 2))) (eCall G "_law_later" [(eVar 2), (eVar 1)]) (eVar 2)))))))
def f_law_later : Df := ⟨d_law_later, ["rule", "k"], ["rule", "k", "part"], [], m_law_later⟩
abbrev s_law_odd : Stmt := top 20
def d_law_odd : He.DefD := ⟨("_law_odd", none), "_law_odd", "_law_odd", defArgs s_law_odd, defBody s_law_odd, defScope s_law_odd, [], []⟩
def m_law_odd (G : Tbl) : Ss :=
  (sSeq (sIf (eAnd (eTru (eIsi .tuple (eVar 0))) (eAnd (eCmp .NotEq (eVar 0) (eTup [])) (eCmp .Gt (eCall G "_law_mix" [(eVar 1), (eC (.int 9781)), (eC (.int 5))]) (eC (.int 0)))))
  (sSeq (sAsg false 2 (eCall G "_law_mix" [(eVar 1), (eC (.int 9769)), (eB1 .len (eVar 0))]))
  (sRet (eBin .Add (eBin .Add (eSlc (eVar 0) none (some (eVar 2))) (eTup [(eCall G "_law_odd" [(eIdx (eVar 0) (eVar 2)), (eBin .Add (eBin .Add (eVar 1) (eBin .Mult (eC (.int 31)) (eVar 2))) (eC (.int 7)))])])) (eSlc (eVar 0) (some (eBin .Add (eVar 2) (eC (.int 1)))) none))))
  sNil)
  (sSeq (sAsg false 3 (eLst [(eC .non), (eC (.bl true)), (eC (.bl false)), (eC (.int 0)), (eC (.int 1)), (eNeg (eC (.int 1))), (eC (.int 2)), (eC (.int 7)), (eC (.int 10)), (eC (.int 1000)), (eC (.str "")), (eC (.str "a")), (eC (.str "A")), (eTup []), (eTup [(eC (.str "a"))]), (eLst [(eC (.int 1))])]))
  (sSeq (sIf (eTru (eIsi .tuple (eVar 0)))
  (sAsg false 3 (eBin .Add (eVar 3) (eBin .Mult (eLst [(eB1 .list (eVar 0)), (eBin .Add (eVar 0) (eSlc (eVar 0) (some (eNeg (eC (.int 1)))) none)), (eSlc (eVar 0) none (some (eNeg (eC (.int 1))))), (eRev (eVar 0)), (eSlc (eVar 0) (some (eC (.int 1))) none), (eTup [(eVar 0)])]) (eC (.int 2)))))
  (sIf (eTru (eIsi .str (eVar 0)))
  (sAsg false 3 (eBin .Add (eVar 3) (eBin .Mult (eLst [(eBin .Add (eVar 0) (eC (.str "a"))), (eSlc (eVar 0) none (some (eNeg (eC (.int 1))))), (eM_upper (eVar 0)), (eBin .Add (eVar 0) (eC (.str " "))), (eBin .Mult (eVar 0) (eC (.int 2))), (eLst [(eVar 0)]), (eBin .Add (eVar 0) (eSlc (eVar 0) none (some (eC (.int 1)))))]) (eC (.int 2)))))
  (sIf (eTru (eIsi .int (eVar 0)))
  (sAsg false 3 (eBin .Add (eVar 3) (eBin .Mult (eLst [(eBin .Add (eVar 0) (eC (.int 1))), (eBin .Sub (eVar 0) (eC (.int 1))), (eBin .Sub (eC (.int 0)) (eVar 0)), (eTup [(eVar 0)]), (eBin .Add (eVar 0) (eC (.int 2))), (eBin .Mult (eVar 0) (eC (.int 2)))]) (eC (.int 2)))))
  sNil)))
  (sRet (eIdx (eVar 3) (eCall G "_law_mix" [(eVar 1), (eC (.int 9749)), (eB1 .len (eVar 3))]))))))
def f_law_odd : Df := ⟨d_law_odd, ["thing", "cell"], ["thing", "cell", "at", "some"], [], m_law_odd⟩
abbrev s_law_is_rule : Stmt := top 21
def d_law_is_rule : He.DefD := ⟨("_law_is_rule", none), "_law_is_rule", "_law_is_rule", defArgs s_law_is_rule, defBody s_law_is_rule, defScope s_law_is_rule, [], []⟩
def m_law_is_rule (G : Tbl) : Ss :=
  (sSeq (sIf (eOr (eNot (eTru (eIsi .tuple (eVar 0)))) (eOr (eCmp .Lt (eB1 .len (eVar 0)) (eC (.int 2))) (eOr (eNot (eTru (eIsi .str (eIdx (eVar 0) (eC (.int 0)))))) (eCmp .Gt (eVar 1) (eC (.int 4))))))
  (sRet (eC (.bl false)))
  sNil)
  (sSeq (sPar 2 3 [(eIdx (eVar 0) (eC (.int 0))), (eSlc (eVar 0) (some (eC (.int 1))) none)])
  (sSeq (sIf (eCmp .Eq (eVar 2) (eC (.str "worth")))
  (sRet (eAnd (eCmp .Eq (eB1 .len (eVar 3)) (eC (.int 1))) (eAnd (eIsi .int (eIdx (eVar 3) (eC (.int 0)))) (eAnd (eNot (eIsi .bool (eIdx (eVar 3) (eC (.int 0))))) (eCmp .In (eIdx (eVar 3) (eC (.int 0))) (eTup [(eC (.int 0)), (eC (.int 1)), (eC (.int 2))]))))))
  sNil)
  (sSeq (sIf (eCmp .Eq (eVar 2) (eC (.str "look")))
  (sRet (eAnd (eCmp .Eq (eB1 .len (eVar 3)) (eC (.int 1))) (eAnd (eIsi .str (eIdx (eVar 3) (eC (.int 0)))) (eAnd (eCmp .Eq (eB1 .len (eIdx (eVar 3) (eC (.int 0)))) (eC (.int 1))) (eCmp .In (eIdx (eVar 3) (eC (.int 0))) (eC (.str "abcABCDE")))))))
  sNil)
  (sSeq (sIf (eOr (eCmp .NotIn (eVar 2) (eTup [(eC (.str "if")), (eC (.str "plus")), (eC (.str "times")), (eC (.str "same")), (eC (.str "least")), (eC (.str "most"))])) (eCmp .NotEq (eB1 .len (eVar 3)) (eBin .Add (eC (.int 2)) (eB1 .int (eCmp .Eq (eVar 2) (eC (.str "if")))))))
  (sRet (eC (.bl false)))
  sNil)
  (sRet (eCmp .Eq (eComp [4] (.name 4) (iOne itemsD (eVar 3)) (some (eNot (eTru (eCall G "_law_is_rule" [(eVar 4), (eBin .Add (eVar 1) (eC (.int 1)))])))) (eVar 4)) (eLst []))))))))
def f_law_is_rule : Df := ⟨d_law_is_rule, ["thing", "deep"], ["thing", "deep", "word", "rest", "part"], [], m_law_is_rule⟩
abbrev s_law_is_book : Stmt := top 22
def d_law_is_book : He.DefD := ⟨("_law_is_book", none), "_law_is_book", "_law_is_book", defArgs s_law_is_book, defBody s_law_is_book, defScope s_law_is_book, [], []⟩
def m_law_is_book (G : Tbl) : Ss :=
  (sSeq (sIf (eNot (eTru (eIsi .tuple (eVar 0))))
  (sRet (eC (.bl false)))
  sNil)
  (sSeq (sAsg false 1 (eC (.str "")))
  (sSeq (sFor (.name 2) (iOneP itemsD (eVar 0))
  (sSeq (sIf (eOr (eNot (eTru (eIsi .tuple (eVar 2)))) (eOr (eCmp .NotEq (eB1 .len (eVar 2)) (eC (.int 2))) (eNot (eTru (eIsi .str (eIdx (eVar 2) (eC (.int 0))))))))
  (sRet (eC (.bl false)))
  sNil)
  (sSeq (sIf (eNot (eTru (eCall G "_law_is_rule" [(eIdx (eVar 2) (eC (.int 1))), (eC (.int 1))])))
  (sRet (eC (.bl false)))
  sNil)
  (sSeq (sIf (eOr (eCmp .NotEq (eB1 .len (eIdx (eVar 2) (eC (.int 0)))) (eC (.int 1))) (eCmp .NotIn (eIdx (eVar 2) (eC (.int 0))) (eC (.str "ABCDE"))))
  (sRet (eC (.bl false)))
  sNil)
  (sAsg false 1 (eBin .Add (eVar 1) (eIdx (eVar 2) (eC (.int 0)))))))))
  (sRet (eCmp .Eq (eB1 .list (eVar 1)) (eSortSet (eVar 1)))))))
def f_law_is_book : Df := ⟨d_law_is_book, ["thing"], ["thing", "names", "entry"], [], m_law_is_book⟩
abbrev s_law_names : Stmt := top 23
def d_law_names : He.DefD := ⟨("_law_names", none), "_law_names", "_law_names", defArgs s_law_names, defBody s_law_names, defScope s_law_names, [], []⟩
def m_law_names (G : Tbl) : Ss :=
  (sSeq (sIf (eCmp .Eq (eIdx (eVar 0) (eC (.int 0))) (eC (.str "look")))
  (sRet (eLst [(eIdx (eVar 0) (eC (.int 1)))]))
  sNil)
  (sSeq (sAsg true 1 (eLst []))
  (sSeq (sFor (.name 2) (iOneP itemsD (eSlc (eVar 0) (some (eC (.int 1))) none))
  (sIf (eTru (eIsi .tuple (eVar 2)))
  (sExt (eVar 1) (eCall G "_law_names" [(eVar 2)]))
  sNil))
  (sRet (eVar 1)))))
def f_law_names : Df := ⟨d_law_names, ["rule"], ["rule", "found", "part"], ["found"], m_law_names⟩
abbrev s_law : Stmt := top 24
def d_law : He.DefD := ⟨("law", none), "law", "law", defArgs s_law, defBody s_law, defScope s_law, [], []⟩
def m_law (G : Tbl) : Ss :=
  (sSeq (sFor (.name 1) (iOne rng1 (eC (.int 8)))
  (sSeq (sAsg false 2 (eCall G "_law_book" [(eBin .Add (eCall G "_law_cell" [(eVar 0), (eVar 1)]) (eBin .Mult (eC (.int 3)) (eVar 1)))]))
  (sSeq (sAsg true 3 (eLst [(eVar 2), (eB1 .list (eVar 2)), (eBin .Add (eVar 2) (eSlc (eVar 2) none (some (eC (.int 1))))), (eRev (eVar 2)), (eSlc (eVar 2) (some (eC (.int 1))) none)]))
  (sSeq (sAsg true 4 (eBin .Add (eComp [5] (.name 5) (iOne itemsD (eC (.str "abcdABCDEF"))) none (eTup [(eC (.str "look")), (eVar 5)])) (eLst [(eTup [(eC (.str "worth")), (eC (.int 2))]), (eTup [(eC (.str "worth")), (eC (.int 3))])])))
  (sSeq (sAsg true 4 (eBin .Add (eVar 4) (eLst [(eTup [(eC (.str "worth")), (eC (.bl true))]), (eTup [(eC (.str "look")), (eC (.str "ab"))]), (eTup [(eC (.str "look")), (eC (.str ""))])])))
  (sSeq (sFor (.tup [5, 6]) (iOneP itemsD (eVar 2))
  (sSeq (sIf (eNot (eTru (eCall G "_law_same" [(eCall G "names_in" [(eVar 6)]), (eB1 .tuple (eSortSet (eCall G "_law_names" [(eVar 6)])))])))
  (sRet (eC (.bl false)))
  sNil)
  (sSeq (sAsg true 4 (eBin .Add (eVar 4) (eLst [(eVar 6), (eB1 .list (eVar 6)), (eTup [(eC (.str "plus")), (eVar 6), (eVar 6)]), (eTup [(eC (.str "minus")), (eVar 6), (eVar 6)])])))
  (sSeq (sApp (eVar 4) (eTup [(eC (.str "if")), (eTup [(eC (.str "worth")), (eC (.int 1))]), (eVar 6), (eTup [(eC (.str "look")), (eC (.str "a"))])]))
  (sApp (eVar 4) (eCall G "_law_odd" [(eVar 6), (eBin .Add (eCall G "_law_cell" [(eVar 0), (eC (.int 8))]) (eBin .Mult (eC (.int 7)) (eVar 1)))]))))))
  (sSeq (sFor (.name 7) (iOne rng1 (eC (.int 20)))
  (sApp (eVar 3) (eCall G "_law_odd" [(eVar 2), (eBin .Add (eBin .Add (eCall G "_law_cell" [(eVar 0), (eC (.int 9))]) (eBin .Mult (eC (.int 17)) (eVar 7))) (eBin .Mult (eC (.int 5)) (eVar 1)))])))
  (sSeq (sAsg false 8 (eComp [9] (.name 9) (iOne itemsD (eVar 3)) none (eTup [(eCall G "is_book" [(eVar 9)]), (eCall G "_law_is_book" [(eVar 9)])])))
  (sFor (.tup [10, 11]) (iOneP itemsD (eBin .Add (eVar 8) (eComp [9] (.name 9) (iOne itemsD (eVar 4)) none (eTup [(eCall G "is_rule" [(eVar 9)]), (eCall G "_law_is_rule" [(eVar 9), (eC (.int 1))])]))))
  (sIf (eOr (eAnd (eCmp .IsNot (eVar 10) (eC (.bl true))) (eTru (eVar 11))) (eAnd (eCmp .IsNot (eVar 10) (eC (.bl false))) (eNot (eTru (eVar 11)))))
  (sRet (eC (.bl false)))
  sNil))))))))))
  (sRet (eAnd (eCmp .Is (eCall G "is_book" [(eTup [])]) (eC (.bl true))) (eAnd (eCmp .Is (eCall G "is_book" [(eC .non)]) (eC (.bl false))) (eCmp .Is (eCall G "is_rule" [(eC .non)]) (eC (.bl false)))))))
def f_law : Df := ⟨d_law, ["script"], ["script", "k", "book", "some", "rules", "name", "rule", "j", "pairs", "one", "told", "due"], ["some", "rules"], m_law⟩
def ks : List (Str × Kc) := [("CELLS", (.str "abc")), ("ASKS", (.str "ABCDE")), ("TWO", (.tS ["plus", "times", "same", "least", "most"])), ("DEEPEST", (.int 4))]
def dfs : List Df := [f_is_name, f_is_worth, f_is_rule_in, f_is_rule, f_is_entry, f_is_book, f_names_of, f_names_in, f_law_cell, f_law_mix, f_law_same, f_law_rule, f_law_book, f_law_later, f_law_odd, f_law_is_rule, f_law_is_book, f_law_names, f_law]
def M : MI := ⟨ks.map fun p => (p.1, p.2.d), dfs.map fun d => (d.d.name, d.ps.length)⟩
theorem ok_is_name : DfOk M f_is_name := ⟨⟨rfl, rfl, rfl, by decide +kernel, rfl, by decide +kernel, by decide +kernel⟩, fun G => by kernel_rfl, fun _ _ _ _ _ _ us hl => match us, hl with | [_, _], _ => rfl, rfl, rfl, rfl⟩
theorem ok_is_worth : DfOk M f_is_worth := ⟨⟨rfl, rfl, rfl, by decide +kernel, rfl, by decide +kernel, by decide +kernel⟩, fun G => by kernel_rfl, fun _ _ _ _ _ _ us hl => match us, hl with | [_], _ => rfl, rfl, rfl, rfl⟩
theorem ok_is_rule_in : DfOk M f_is_rule_in := ⟨⟨rfl, rfl, rfl, by decide +kernel, rfl, by decide +kernel, by decide +kernel⟩, fun G => by kernel_rfl, fun _ _ _ _ _ _ us hl => match us, hl with | [_, _], _ => rfl, rfl, rfl, rfl⟩
theorem ok_is_rule : DfOk M f_is_rule := ⟨⟨rfl, rfl, rfl, by decide +kernel, rfl, by decide +kernel, by decide +kernel⟩, fun G => by kernel_rfl, fun _ _ _ _ _ _ us hl => match us, hl with | [_], _ => rfl, rfl, rfl, rfl⟩
theorem ok_is_entry : DfOk M f_is_entry := ⟨⟨rfl, rfl, rfl, by decide +kernel, rfl, by decide +kernel, by decide +kernel⟩, fun G => by kernel_rfl, fun _ _ _ _ _ _ us hl => match us, hl with | [_], _ => rfl, rfl, rfl, rfl⟩
theorem ok_is_book : DfOk M f_is_book := ⟨⟨rfl, rfl, rfl, by decide +kernel, rfl, by decide +kernel, by decide +kernel⟩, fun G => by kernel_rfl, fun _ _ _ _ _ _ us hl => match us, hl with | [_], _ => rfl, rfl, rfl, rfl⟩
theorem ok_names_of : DfOk M f_names_of := ⟨⟨rfl, rfl, rfl, by decide +kernel, rfl, by decide +kernel, by decide +kernel⟩, fun G => by kernel_rfl, fun _ _ _ _ _ _ us hl => match us, hl with | [_], _ => rfl, rfl, rfl, rfl⟩
theorem ok_names_in : DfOk M f_names_in := ⟨⟨rfl, rfl, rfl, by decide +kernel, rfl, by decide +kernel, by decide +kernel⟩, fun G => by kernel_rfl, fun _ _ _ _ _ _ us hl => match us, hl with | [_], _ => rfl, rfl, rfl, rfl⟩
theorem ok_law_cell : DfOk M f_law_cell := ⟨⟨rfl, rfl, rfl, by decide +kernel, rfl, by decide +kernel, by decide +kernel⟩, fun G => by kernel_rfl, fun _ _ _ _ _ _ us hl => match us, hl with | [_, _], _ => rfl, rfl, rfl, rfl⟩
theorem ok_law_mix : DfOk M f_law_mix := ⟨⟨rfl, rfl, rfl, by decide +kernel, rfl, by decide +kernel, by decide +kernel⟩, fun G => by kernel_rfl, fun _ _ _ _ _ _ us hl => match us, hl with | [_, _, _], _ => rfl, rfl, rfl, rfl⟩
theorem ok_law_same : DfOk M f_law_same := ⟨⟨rfl, rfl, rfl, by decide +kernel, rfl, by decide +kernel, by decide +kernel⟩, fun G => by kernel_rfl, fun _ _ _ _ _ _ us hl => match us, hl with | [_, _], _ => rfl, rfl, rfl, rfl⟩
theorem ok_law_rule : DfOk M f_law_rule := ⟨⟨rfl, rfl, rfl, by decide +kernel, rfl, by decide +kernel, by decide +kernel⟩, fun G => by kernel_rfl, fun _ _ _ _ _ _ us hl => match us, hl with | [_, _], _ => rfl, rfl, rfl, rfl⟩
theorem ok_law_book : DfOk M f_law_book := ⟨⟨rfl, rfl, rfl, by decide +kernel, rfl, by decide +kernel, by decide +kernel⟩, fun G => by kernel_rfl, fun _ _ _ _ _ _ us hl => match us, hl with | [_], _ => rfl, rfl, rfl, rfl⟩
theorem ok_law_later : DfOk M f_law_later := ⟨⟨rfl, rfl, rfl, by decide +kernel, rfl, by decide +kernel, by decide +kernel⟩, fun G => by kernel_rfl, fun _ _ _ _ _ _ us hl => match us, hl with | [_, _], _ => rfl, rfl, rfl, rfl⟩
theorem ok_law_odd : DfOk M f_law_odd := ⟨⟨rfl, rfl, rfl, by decide +kernel, rfl, by decide +kernel, by decide +kernel⟩, fun G => by kernel_rfl, fun _ _ _ _ _ _ us hl => match us, hl with | [_, _], _ => rfl, rfl, rfl, rfl⟩
theorem ok_law_is_rule : DfOk M f_law_is_rule := ⟨⟨rfl, rfl, rfl, by decide +kernel, rfl, by decide +kernel, by decide +kernel⟩, fun G => by kernel_rfl, fun _ _ _ _ _ _ us hl => match us, hl with | [_, _], _ => rfl, rfl, rfl, rfl⟩
theorem ok_law_is_book : DfOk M f_law_is_book := ⟨⟨rfl, rfl, rfl, by decide +kernel, rfl, by decide +kernel, by decide +kernel⟩, fun G => by kernel_rfl, fun _ _ _ _ _ _ us hl => match us, hl with | [_], _ => rfl, rfl, rfl, rfl⟩
theorem ok_law_names : DfOk M f_law_names := ⟨⟨rfl, rfl, rfl, by decide +kernel, rfl, by decide +kernel, by decide +kernel⟩, fun G => by kernel_rfl, fun _ _ _ _ _ _ us hl => match us, hl with | [_], _ => rfl, rfl, rfl, rfl⟩
theorem ok_law : DfOk M f_law := ⟨⟨rfl, rfl, rfl, by decide +kernel, rfl, by decide +kernel, by decide +kernel⟩, fun G => by kernel_rfl, fun _ _ _ _ _ _ us hl => match us, hl with | [_], _ => rfl, rfl, rfl, rfl⟩
theorem t_is_name (k : Nat) (ds : List D) (st : Sto) : tbl dfs (k + 1) "is_name" ds st = fnR 2 (m_is_name (tbl dfs k)) ds st := by kernel_rfl
theorem t_is_worth (k : Nat) (ds : List D) (st : Sto) : tbl dfs (k + 1) "is_worth" ds st = fnR 1 (m_is_worth (tbl dfs k)) ds st := by kernel_rfl
theorem t_is_rule_in (k : Nat) (ds : List D) (st : Sto) : tbl dfs (k + 1) "is_rule_in" ds st = fnR 5 (m_is_rule_in (tbl dfs k)) ds st := by kernel_rfl
theorem t_is_rule (k : Nat) (ds : List D) (st : Sto) : tbl dfs (k + 1) "is_rule" ds st = fnR 1 (m_is_rule (tbl dfs k)) ds st := by kernel_rfl
theorem t_is_entry (k : Nat) (ds : List D) (st : Sto) : tbl dfs (k + 1) "is_entry" ds st = fnR 1 (m_is_entry (tbl dfs k)) ds st := by kernel_rfl
theorem t_is_book (k : Nat) (ds : List D) (st : Sto) : tbl dfs (k + 1) "is_book" ds st = fnR 3 (m_is_book (tbl dfs k)) ds st := by kernel_rfl
theorem t_names_of (k : Nat) (ds : List D) (st : Sto) : tbl dfs (k + 1) "names_of" ds st = fnR 3 (m_names_of (tbl dfs k)) ds st := by kernel_rfl
theorem t_names_in (k : Nat) (ds : List D) (st : Sto) : tbl dfs (k + 1) "names_in" ds st = fnR 1 (m_names_in (tbl dfs k)) ds st := by kernel_rfl
theorem t_law_cell (k : Nat) (ds : List D) (st : Sto) : tbl dfs (k + 1) "_law_cell" ds st = fnR 2 (m_law_cell (tbl dfs k)) ds st := by kernel_rfl
theorem t_law_mix (k : Nat) (ds : List D) (st : Sto) : tbl dfs (k + 1) "_law_mix" ds st = fnR 4 (m_law_mix (tbl dfs k)) ds st := by kernel_rfl
theorem t_law_same (k : Nat) (ds : List D) (st : Sto) : tbl dfs (k + 1) "_law_same" ds st = fnR 4 (m_law_same (tbl dfs k)) ds st := by kernel_rfl
theorem t_law_rule (k : Nat) (ds : List D) (st : Sto) : tbl dfs (k + 1) "_law_rule" ds st = fnR 4 (m_law_rule (tbl dfs k)) ds st := by kernel_rfl
theorem t_law_book (k : Nat) (ds : List D) (st : Sto) : tbl dfs (k + 1) "_law_book" ds st = fnR 5 (m_law_book (tbl dfs k)) ds st := by kernel_rfl
theorem t_law_later (k : Nat) (ds : List D) (st : Sto) : tbl dfs (k + 1) "_law_later" ds st = fnR 3 (m_law_later (tbl dfs k)) ds st := by kernel_rfl
theorem t_law_odd (k : Nat) (ds : List D) (st : Sto) : tbl dfs (k + 1) "_law_odd" ds st = fnR 4 (m_law_odd (tbl dfs k)) ds st := by kernel_rfl
theorem t_law_is_rule (k : Nat) (ds : List D) (st : Sto) : tbl dfs (k + 1) "_law_is_rule" ds st = fnR 5 (m_law_is_rule (tbl dfs k)) ds st := by kernel_rfl
theorem t_law_is_book (k : Nat) (ds : List D) (st : Sto) : tbl dfs (k + 1) "_law_is_book" ds st = fnR 3 (m_law_is_book (tbl dfs k)) ds st := by kernel_rfl
theorem t_law_names (k : Nat) (ds : List D) (st : Sto) : tbl dfs (k + 1) "_law_names" ds st = fnR 3 (m_law_names (tbl dfs k)) ds st := by kernel_rfl
theorem t_law (k : Nat) (ds : List D) (st : Sto) : tbl dfs (k + 1) "law" ds st = fnR 12 (m_law (tbl dfs k)) ds st := by kernel_rfl
theorem ok_all : ∀ df ∈ dfs, DfOk M df := by
  intro df h
  simp only [dfs, List.mem_cons, List.not_mem_nil, or_false] at h
  rcases h with rfl | rfl | rfl | rfl | rfl | rfl | rfl | rfl | rfl | rfl | rfl | rfl | rfl | rfl | rfl | rfl | rfl | rfl | rfl
  · exact ok_is_name
  · exact ok_is_worth
  · exact ok_is_rule_in
  · exact ok_is_rule
  · exact ok_is_entry
  · exact ok_is_book
  · exact ok_names_of
  · exact ok_names_in
  · exact ok_law_cell
  · exact ok_law_mix
  · exact ok_law_same
  · exact ok_law_rule
  · exact ok_law_book
  · exact ok_law_later
  · exact ok_law_odd
  · exact ok_law_is_rule
  · exact ok_law_is_book
  · exact ok_law_names
  · exact ok_law
end KW
namespace KW
open PySem L2 KL

/-! ### fine data -/
def fineD (L : Nat) : Nat → D → Bool
  | _, .non => true
  | _, .bl _ => true
  | _, .int _ => true
  | _, .str x => decide (x.length ≤ L) && PyData.strOk x
  | n + 1, .tup ds => decide (ds.length ≤ L) && ds.all (fineD L n)
  | n + 1, .lst ds => decide (ds.length ≤ L) && ds.all (fineD L n)
  | _, _ => false
theorem fine_tup {L n : Nat} {ds : List D} (h : fineD L n (.tup ds) = true) : ∃ m, n = m + 1 ∧ ds.length ≤ L ∧ ∀ d ∈ ds, fineD L m d = true := by
  cases n with
  | zero => cases h
  | succ m =>
    simp only [fineD, Bool.and_eq_true, decide_eq_true_eq, List.all_eq_true] at h
    exact ⟨m, rfl, h.1, h.2⟩
theorem fine_lst {L n : Nat} {ds : List D} (h : fineD L n (.lst ds) = true) : ∃ m, n = m + 1 ∧ ds.length ≤ L ∧ ∀ d ∈ ds, fineD L m d = true := by
  cases n with
  | zero => cases h
  | succ m =>
    simp only [fineD, Bool.and_eq_true, decide_eq_true_eq, List.all_eq_true] at h
    exact ⟨m, rfl, h.1, h.2⟩
theorem fine_str {L n : Nat} {x : Str} (h : fineD L n (.str x) = true) : x.length ≤ L ∧ PyData.strOk x = true := by
  cases n <;> simpa [fineD] using h
theorem fine_loc {L n k : Nat} : fineD L n (.loc k) = false := by cases n <;> rfl
theorem fine_scr {L n : Nat} {ns : List Int} : fineD L n (.scr ns) = false := by cases n <;> rfl
theorem fine_view {L n : Nat} {d : D} (h : fineD L n d = true) (rh : Rho) (st : Sto) : view rh st (.d d) = some d := by
  cases d with
  | loc k => rw [fine_loc] at h; cases h
  | _ => rfl
theorem fine_py {L : Nat} : ∀ {n : Nat} {d : D}, fineD L n d = true → ∃ p, toPy d = some p ∧ p.canLay0 = true ∧ p.depth ≤ n + 1
  | n, .non, _ => ⟨_, rfl, rfl, by simp [PyData.depth]⟩
  | n, .bl b, _ => ⟨_, rfl, rfl, by simp [PyData.depth]⟩
  | n, .int i, _ => ⟨_, rfl, rfl, by simp [PyData.depth]⟩
  | n, .str x, h => ⟨_, rfl, by have := (fine_str h).2; simpa [PyData.canLay0] using this, by simp [PyData.depth]⟩
  | 0, .tup ds, h => by cases h
  | 0, .lst ds, h => by cases h
  | n, .loc k, h => by rw [fine_loc] at h; cases h
  | n, .scr k, h => by rw [fine_scr] at h; cases h
  | n + 1, .tup ds, h => by
    obtain ⟨m, e, h1, h2⟩ := fine_tup h
    cases e
    have key : ∀ es : List D, (∀ d ∈ es, fineD L n d = true) → ∃ ps, toPys es = some ps ∧ PyData.canLayAll0 ps = true ∧ PyData.depthAll ps ≤ n + 1 := by
      intro es
      induction es with
      | nil => intro _; exact ⟨[], rfl, rfl, by simp [PyData.depthAll]⟩
      | cons d es ih =>
        intro hd
        obtain ⟨p, q1, q2, q3⟩ := fine_py (hd d List.mem_cons_self)
        obtain ⟨ps, r1, r2, r3⟩ := ih fun d' hd' => hd d' (List.mem_cons_of_mem _ hd')
        refine ⟨p :: ps, by simp [toPys, q1, r1], by simp [PyData.canLayAll0, q2, r2], by simp [PyData.depthAll]; omega⟩
    obtain ⟨ps, r1, r2, r3⟩ := key ds h2
    exact ⟨.tuple ps, by simp [toPy, r1], by simpa [PyData.canLay0] using r2, by simp [PyData.depth]; omega⟩
  | n + 1, .lst ds, h => by
    obtain ⟨m, e, h1, h2⟩ := fine_lst h
    cases e
    have key : ∀ es : List D, (∀ d ∈ es, fineD L n d = true) → ∃ ps, toPys es = some ps ∧ PyData.canLayAll0 ps = true ∧ PyData.depthAll ps ≤ n + 1 := by
      intro es
      induction es with
      | nil => intro _; exact ⟨[], rfl, rfl, by simp [PyData.depthAll]⟩
      | cons d es ih =>
        intro hd
        obtain ⟨p, q1, q2, q3⟩ := fine_py (hd d List.mem_cons_self)
        obtain ⟨ps, r1, r2, r3⟩ := ih fun d' hd' => hd d' (List.mem_cons_of_mem _ hd')
        refine ⟨p :: ps, by simp [toPys, q1, r1], by simp [PyData.canLayAll0, q2, r2], by simp [PyData.depthAll]; omega⟩
    obtain ⟨ps, r1, r2, r3⟩ := key ds h2
    exact ⟨.list ps, by simp [toPy, r1], by simpa [PyData.canLay0] using r2, by simp [PyData.depth]; omega⟩
theorem eq_nil_lst {L n : Nat} {ds : List D} (h : fineD L n (.lst ds) = true) (hn : n ≤ 40) : cmpD .Eq (.lst ds) (.lst []) = some ds.isEmpty := by
  obtain ⟨p, h1, h2, h3⟩ := fine_py h
  have e : cmpD .Eq (.lst ds) (.lst []) = eqG (.lst ds) (.lst []) := rfl
  rw [e]
  unfold eqG
  rw [h1]
  have s1 : SeqAt.shaped p = true := by simp [SeqAt.shaped, h2]; omega
  have s2 : SeqAt.shaped (.list []) = true := by decide +kernel
  have e2 : toPy (.lst []) = some (.list []) := rfl
  rw [e2]
  simp only [Option.bind_some, s1, s2, Bool.and_self, if_true]
  have : ∃ ps, toPys ds = some ps ∧ p = .list ps := by
    simp only [toPy, Option.map_eq_some_iff] at h1
    obtain ⟨ps, q1, q2⟩ := h1
    exact ⟨ps, q1, q2.symm⟩
  obtain ⟨ps, q1, rfl⟩ := this
  cases ds with
  | nil => cases q1; rfl
  | cons d ds =>
    simp only [toPys, Option.bind_eq_some_iff, Option.map_eq_some_iff] at q1
    obtain ⟨a, _, b, _, rfl⟩ := q1
    simp [PyData.eqv, PyData.eqvAll]
theorem ne_nil_tup {L n : Nat} {ds : List D} (h : fineD L n (.tup ds) = true) (hn : n ≤ 40) : cmpD .NotEq (.tup ds) (.tup []) = some (!ds.isEmpty) := by
  obtain ⟨p, h1, h2, h3⟩ := fine_py h
  have e : cmpD .NotEq (.tup ds) (.tup []) = (eqG (.tup ds) (.tup [])).map (!·) := rfl
  rw [e]
  unfold eqG
  rw [h1]
  have s1 : SeqAt.shaped p = true := by simp [SeqAt.shaped, h2]; omega
  have s2 : SeqAt.shaped (.tuple []) = true := by decide +kernel
  have e2 : toPy (.tup []) = some (.tuple []) := rfl
  rw [e2]
  simp only [Option.bind_some, s1, s2, Bool.and_self, if_true]
  have : ∃ ps, toPys ds = some ps ∧ p = .tuple ps := by
    simp only [toPy, Option.map_eq_some_iff] at h1
    obtain ⟨ps, q1, q2⟩ := h1
    exact ⟨ps, q1, q2.symm⟩
  obtain ⟨ps, q1, rfl⟩ := this
  cases ds with
  | nil => cases q1; rfl
  | cons d ds =>
    simp only [toPys, Option.bind_eq_some_iff, Option.map_eq_some_iff] at q1
    obtain ⟨a, _, b, _, rfl⟩ := q1
    simp [PyData.eqv, PyData.eqvAll]

/-! ### names and worths -/
def isW : D → Bool
  | .int i => decide (0 ≤ i) && decide (i ≤ 2)
  | _ => false
def isN (ns : Str) : D → Bool
  | .str x => (match x.cps.toList with
    | [c] => decide (c ∈ ns.cps.toList)
    | _ => false)
  | _ => false
theorem len_cps (x : Str) : x.length = x.cps.toList.length := by simp [Str.length]
theorem short {x : Str} {L : Nat} (h : x.length ≤ L) (hL : L ≤ 1000000 := by decide) : x.length ≤ sizeLine := by rw [sizeLine_eq]; omega
theorem in_one {x ns : Str} {c : Nat} (h : x.cps.toList = [c]) : inD (.str x) (.str ns) = some (decide (c ∈ ns.cps.toList)) := by
  simp only [inD, h]
theorem r_worth (k : Nat) (d : D) (st : Sto) {L n : Nat} (h : fineD L n d = true) : tbl dfs (k + 1) "is_worth" [d] st = .ok (.bl (isW d)) st := by
  rw [t_is_worth]
  cases d with
  | loc k => rw [fine_loc] at h; cases h
  | scr k => rw [fine_scr] at h; cases h
  | int i =>
    simp only [fnR, rho0, m_is_worth, isW]
    simp [onR_ite, fin_ite]
    by_cases h1 : 0 ≤ i <;> simp [h1]
  | _ => simp [fnR, rho0, m_is_worth, isW]
theorem r_name (k : Nat) (d : D) (ns : Str) (st : Sto) {L n : Nat} (h : fineD L n d = true) (hL : L ≤ 1000000 := by decide) : tbl dfs (k + 1) "is_name" [d, .str ns] st = .ok (.bl (isN ns d)) st := by
  rw [t_is_name]
  cases d with
  | loc k => rw [fine_loc] at h; cases h
  | scr k => rw [fine_scr] at h; cases h
  | str x =>
    have e := short (fine_str h).1 hL
    simp [fnR, rho0, m_is_name, len_str e, onR_ite, fin_ite, isN]
    rcases hx : x.cps.toList with _ | ⟨c, _ | ⟨c2, r⟩⟩
    · have : x.length = 0 := by rw [len_cps, hx]; rfl
      simp [this]
    · have : x.length = 1 := by rw [len_cps, hx]; rfl
      simp [this, in_one hx]
    · have : x.length = r.length + 2 := by rw [len_cps, hx]; simp
      rw [this, if_neg (by omega)]
  | _ => simp [fnR, rho0, m_is_name, isN]
end KW

namespace KW
open PySem L2 KL

/-! ### rules -/
def isTwo (w : Str) : Bool := decide (w = "plus") || decide (w = "times") || decide (w = "same") || decide (w = "least") || decide (w = "most")
def okR : Nat → D → Bool
  | 0, _ => false
  | n + 1, .tup (.str w :: r :: rs) =>
    if w = "worth" then rs.isEmpty && isW r
    else if w = "look" then rs.isEmpty && isN "abcABCDE" r
    else if w = "if" then decide (rs.length = 2) && (r :: rs).all (okR n)
    else isTwo w && (decide (rs.length = 1) && (r :: rs).all (okR n))
  | _ + 1, _ => false
theorem okR_nstr {n : Nat} {a : D} {ds : List D} (h : ∀ w, a ≠ .str w) : okR n (.tup (a :: ds)) = false := by
  cases n with
  | zero => rfl
  | succ n =>
    cases a with
    | str w => exact absurd rfl (h w)
    | _ => cases ds <;> rfl
theorem sz {n : Nat} (h : n ≤ 1000) : n ≤ sizeLine := by rw [sizeLine_eq]; omega
theorem all_cons_map (f : D → Bool) (b : D) (rs : List D) : allD (.lst (.bl (f b) :: rs.map fun d => .bl (f d))) = some (.bl (f b && rs.all f)) := all_map f (b :: rs)
theorem bq (a w : Str) : (a == w) = decide (w = a) := by
  rw [Bool.eq_iff_iff, beq_iff_eq, decide_eq_true_eq]
  exact eq_comm
theorem in_two (w : Str) : inD (.str w) (.tup [.str "plus", .str "times", .str "same", .str "least", .str "most"]) = some (isTwo w) := by
  simp only [inD, flatD, eqF, isTwo, List.all_cons, List.all_nil, List.any_cons, List.any_nil, Bool.and_self, if_true, bq, Bool.or_false, Bool.or_assoc]
theorem in_six (w : Str) : inD (.str w) (.tup [.str "if", .str "plus", .str "times", .str "same", .str "least", .str "most"]) = some (decide (w = "if") || isTwo w) := by
  simp only [inD, flatD, eqF, isTwo, List.all_cons, List.all_nil, List.any_cons, List.any_nil, Bool.and_self, if_true, bq, Bool.or_false, Bool.or_assoc]
theorem in_012 (i : Int) : inD (.int i) (.tup [.int 0, .int 1, .int 2]) = some (decide (0 ≤ i) && decide (i ≤ 2)) := by
  simp only [inD, flatD, eqF, List.all_cons, List.all_nil, List.any_cons, List.any_nil, Bool.and_self, if_true]
  congr 1
  rw [Bool.eq_iff_iff]
  simp
  omega
theorem wl : ("look" : Str) ≠ "worth" := by decide
theorem fw : ("if" : Str) ≠ "worth" := by decide
theorem fl : ("if" : Str) ≠ "look" := by decide
theorem cells : ("abc" : Str) ++ ("ABCDE" : Str) = "abcABCDE" := by decide
theorem r_rule_in (st : Sto) : ∀ (n k : Nat) (d : D) {L m : Nat}, fineD L m d = true → L ≤ 1000 → ∀ i : Int, i = n → tbl dfs (k + n + 2) "is_rule_in" [d, .int i] st = .ok (.bl (okR n d)) st
  | n, k, d, L, m, hd, hL, i, hi => by
    rw [show k + n + 2 = (k + n + 1) + 1 from rfl, t_is_rule_in]
    cases d with
    | loc k => rw [fine_loc] at hd; cases hd
    | scr k => rw [fine_scr] at hd; cases hd
    | tup ds =>
      obtain ⟨m', rfl, hl, hs⟩ := fine_tup hd
      rcases ds with _ | ⟨a, _ | ⟨b, rs⟩⟩
      · simp [fnR, rho0, m_is_rule_in]
        cases n <;> rfl
      · simp [fnR, rho0, m_is_rule_in]
        cases n <;> cases a <;> rfl
      · have ha := hs a (by simp)
        have hb := hs b (by simp)
        have hlt : ¬ ((rs.length : Int) + 1 + 1 < 2) := by omega
        by_cases hw : ∃ w, a = .str w
        · obtain ⟨w, rfl⟩ := hw
          cases n with
          | zero =>
            have : i = 0 := by omega
            subst this
            simp [fnR, rho0, m_is_rule_in, hlt, onR_ite, onN_ite, fin_ite]
            rfl
          | succ n =>
            have hi0 : i ≠ 0 := by omega
            have hi1 : i - 1 = n := by omega
            have hlen : ((b :: rs).length : Int) = rs.length + 1 := by simp
            have comp : cLoop (.name 4) none (eCall (tbl dfs (k + (n + 1) + 1)) "is_rule_in" [(eVar 4), (eBin .Sub (eVar 1) (eC (.int 1)))]) [some (.val (.tup (.str w :: b :: rs))), some (.val (.int i)), some (.val (.str w)), some (.val (.tup (b :: rs))), none] (b :: rs) st = .ok ((b :: rs).map fun d => .bl (okR n d)) st := by
              refine cLoop_map _ _ fun d hdm => ⟨_, rfl, ?_⟩
              have q := r_rule_in st n (k) d (hs d (List.mem_cons_of_mem _ hdm)) hL (i - 1) hi1
              simp [cElt, show k + (n + 1) + 1 = k + n + 2 by omega, q]
            have hsz : (b :: rs).length ≤ sizeLine := sz (by simp at hl ⊢; omega)
            have hsz2 : rs.length + 1 ≤ sizeLine := by simpa using hsz
            by_cases h1 : w = "worth"
            · subst h1
              have q := r_worth (k + n + 1) b st hb
              simp [fnR, rho0, m_is_rule_in, hlt, hi0, onR_ite, onN_ite, fin_ite, okR]
              cases rs with
              | nil => simp [show k + (n + 1) + 1 = k + n + 1 + 1 by omega, q]
              | cons r rs => simp; omega
            · by_cases h2 : w = "look"
              · subst h2
                have q := r_name (k + n + 1) b "abcABCDE" st hb (by omega)
                simp [fnR, rho0, m_is_rule_in, hlt, hi0, onR_ite, onN_ite, fin_ite, okR, wl, Kc.d, bin_add_str, cells]
                cases rs with
                | nil =>
                  have e : binD .Add (.str "abc") (.str "ABCDE") = some (.d (.str "abcABCDE")) := by rw [bin_add_str (by decide), cells]
                  simp [show k + (n + 1) + 1 = k + n + 1 + 1 by omega, q, e]
                | cons r rs => simp; omega
              · have two := in_two w
                by_cases h3 : w = "if"
                · subst h3
                  simp [fnR, rho0, m_is_rule_in, hlt, hi0, onR_ite, onN_ite, fin_ite, okR, fw, fl, Kc.d, comp, hsz2, all_cons_map]
                  by_cases h4 : rs.length = 2
                  · rw [if_pos (by omega)]; simp [h4]
                  · rw [if_neg (by omega)]; simp [h4]
                · simp [fnR, rho0, m_is_rule_in, hlt, hi0, onR_ite, onN_ite, fin_ite, okR, h1, h2, h3, Kc.d, two, comp, hsz2, all_cons_map]
                  cases h5 : isTwo w
                  · simp
                  · by_cases h4 : rs.length = 1
                    · simp [h4]
                    · have h6 : ¬ ((rs.length : Int) + 1 = 2) := by omega
                      simp [h4, h6]
        · have ns : ∀ w, a ≠ .str w := fun w e => hw ⟨w, e⟩
          rw [okR_nstr ns]
          have e : isi .str a = some false := by
            cases a with
            | str w => exact absurd rfl (ns w)
            | loc k => rw [fine_loc] at ha; cases ha
            | scr k => rw [fine_scr] at ha; cases ha
            | _ => rfl
          have v := fine_view ha
          simp [fnR, rho0, m_is_rule_in, hlt, e, v]
    | _ =>
      simp [fnR, rho0, m_is_rule_in]
      cases n <;> rfl
theorem r_rule (k : Nat) (d : D) (st : Sto) {L m : Nat} (hd : fineD L m d = true) (hL : L ≤ 1000) : tbl dfs (k + 7) "is_rule" [d] st = .ok (.bl (okR 4 d)) st := by
  rw [show k + 7 = (k + 6) + 1 from rfl, t_is_rule]
  have q := r_rule_in st 4 k d hd hL 4 rfl
  simp [fnR, rho0, m_is_rule, Kc.d, show k + 6 = k + 4 + 2 from rfl, q]
/-- the law's own look at a rule: j the depth reached, n = 5 - j what is left -/
theorem r_lrule (st : Sto) : ∀ (n k : Nat) (d : D) {L m : Nat}, fineD L m d = true → L ≤ 1000 → m ≤ 40 → ∀ j : Int, j = 5 - (n : Int) → tbl dfs (k + n + 2) "_law_is_rule" [d, .int j] st = .ok (.bl (okR n d)) st
  | n, k, d, L, m, hd, hL, hm, j, hj => by
    rw [show k + n + 2 = (k + n + 1) + 1 from rfl, t_law_is_rule]
    cases d with
    | loc k => rw [fine_loc] at hd; cases hd
    | scr k => rw [fine_scr] at hd; cases hd
    | tup ds =>
      obtain ⟨m', rfl, hl, hs⟩ := fine_tup hd
      rcases ds with _ | ⟨a, _ | ⟨b, rs⟩⟩
      · simp [fnR, rho0, m_law_is_rule]
        cases n <;> rfl
      · simp [fnR, rho0, m_law_is_rule]
        cases n <;> cases a <;> rfl
      · have ha := hs a (by simp)
        have hb := hs b (by simp)
        have hlt : ¬ ((rs.length : Int) + 1 + 1 < 2) := by omega
        by_cases hw : ∃ w, a = .str w
        · obtain ⟨w, rfl⟩ := hw
          cases n with
          | zero =>
            have : j = 5 := by omega
            subst this
            simp [fnR, rho0, m_law_is_rule, hlt, onR_ite, onN_ite, fin_ite]
            rfl
          | succ n =>
            have hj0 : ¬ (4 < j) := by omega
            have hj1 : j + 1 = 5 - (n : Int) := by omega
            have comp : cLoop (.name 4) (some (eNot (eTru (eCall (tbl dfs (k + (n + 1) + 1)) "_law_is_rule" [(eVar 4), (eBin .Add (eVar 1) (eC (.int 1)))])))) (eVar 4) [some (.val (.tup (.str w :: b :: rs))), some (.val (.int j)), some (.val (.str w)), some (.val (.tup (b :: rs))), none] (b :: rs) st = .ok (((b :: rs).filter fun d => !okR n d).map id) st := by
              refine cLoop_filter _ _ _ fun d hdm => ⟨_, rfl, ?_, ?_⟩
              · have q := r_lrule st n k d (hs d (List.mem_cons_of_mem _ hdm)) hL (by omega) (j + 1) hj1
                simp [show k + (n + 1) + 1 = k + n + 2 by omega, q]
              · intro _
                simp [cElt]
            rw [List.map_id] at comp
            have hf : fineD L (m' + 1) (.lst ((b :: rs).filter fun d => !okR n d)) = true := by
              simp only [fineD, Bool.and_eq_true, decide_eq_true_eq, List.all_eq_true]
              refine ⟨Nat.le_trans (List.length_filter_le _ _) (by simp at hl ⊢; omega), fun d hdm => hs d (List.mem_cons_of_mem _ ((List.mem_filter.mp hdm).1))⟩
            have heq := eq_nil_lst hf (by omega)
            have hemp : ((b :: rs).filter fun d => !okR n d).isEmpty = (okR n b && rs.all (okR n)) := by
              rw [Bool.eq_iff_iff, List.isEmpty_iff, List.filter_eq_nil_iff]
              simp
            rw [hemp] at heq
            have hsz : (b :: rs).length ≤ sizeLine := sz (by simp at hl ⊢; omega)
            have hsz2 : rs.length + 1 ≤ sizeLine := by simpa using hsz
            by_cases h1 : w = "worth"
            · subst h1
              simp [fnR, rho0, m_law_is_rule, hlt, hj0, onR_ite, onN_ite, fin_ite, okR]
              cases rs with
              | nil =>
                have v := fine_view hb
                cases b with
                | loc k => rw [fine_loc] at hb; cases hb
                | scr k => rw [fine_scr] at hb; cases hb
                | int i => simp [in_012, isW]
                | _ => simp [isW]
              | cons r rs => simp; omega
            · by_cases h2 : w = "look"
              · subst h2
                simp [fnR, rho0, m_law_is_rule, hlt, hj0, onR_ite, onN_ite, fin_ite, okR, wl]
                cases rs with
                | nil =>
                  cases b with
                  | loc k => rw [fine_loc] at hb; cases hb
                  | scr k => rw [fine_scr] at hb; cases hb
                  | str x =>
                    have e := short (fine_str hb).1 (by omega)
                    simp [len_str e, isN, onR_ite, fin_ite]
                    rcases hx : x.cps.toList with _ | ⟨c, _ | ⟨c2, r⟩⟩
                    · have : x.length = 0 := by rw [len_cps, hx]; rfl
                      simp [this]
                    · have : x.length = 1 := by rw [len_cps, hx]; rfl
                      simp [this, in_one hx]
                    · have : x.length = r.length + 2 := by rw [len_cps, hx]; simp
                      have h6 : ¬ (((r.length + 2 : Nat) : Int) = 1) := by omega
                      rw [this]
                      simp only [h6, if_false]
                      simp
                  | _ => simp [isN]
                | cons r rs => simp; omega
              · have six := in_six w
                by_cases h3 : w = "if"
                · subst h3
                  simp [fnR, rho0, m_law_is_rule, hlt, hj0, onR_ite, onN_ite, fin_ite, okR, fw, fl, six, comp, hsz2, heq]
                  by_cases h4 : rs.length = 2
                  · rw [if_pos (by omega)]; simp [h4]
                  · rw [if_neg (by omega)]; simp [h4]
                · simp [fnR, rho0, m_law_is_rule, hlt, hj0, onR_ite, onN_ite, fin_ite, okR, h1, h2, h3, six, comp, hsz2, heq]
                  cases h5 : isTwo w
                  · simp
                  · by_cases h4 : rs.length = 1
                    · simp [h4]
                    · have h6 : ¬ ((rs.length : Int) + 1 = 2) := by omega
                      simp [h4, h6]
        · have ns : ∀ w, a ≠ .str w := fun w e => hw ⟨w, e⟩
          rw [okR_nstr ns]
          have e : isi .str a = some false := by
            cases a with
            | str w => exact absurd rfl (ns w)
            | loc k => rw [fine_loc] at ha; cases ha
            | scr k => rw [fine_scr] at ha; cases ha
            | _ => rfl
          have v := fine_view ha
          simp [fnR, rho0, m_law_is_rule, hlt, e, v]
    | _ =>
      simp [fnR, rho0, m_law_is_rule]
      cases n <;> rfl
end KW

namespace KW
open PySem L2 KL KU

/-! ### books -/
def okE : D → Bool
  | .tup [a, r] => isN "ABCDE" a && okR 4 r
  | _ => false
def nm : D → Str
  | .tup (.str x :: _) => x
  | _ => Str.empty
def chn : List Str → Bool
  | a :: b :: r => decide (ltS a b) && chn (b :: r)
  | _ => true
def okB : D → Bool
  | .tup ds => ds.all okE && chn (ds.map nm)
  | _ => false
def stAt (xs : List Str) (i : Nat) : Str := xs.getD i Str.empty
theorem chn_pw : ∀ {l : List Str}, chn l = true ↔ l.Pairwise ltS
  | [] => by simp [chn]
  | [a] => by simp [chn]
  | a :: b :: r => by
    unfold chn
    rw [Bool.and_eq_true, decide_eq_true_eq, chn_pw, List.pairwise_cons (a := a)]
    constructor
    · rintro ⟨h1, h2⟩
      refine ⟨fun x hx => ?_, h2⟩
      rcases List.mem_cons.mp hx with e | e
      · rw [e]; exact h1
      · exact ltS_trans h1 ((List.pairwise_cons.mp h2).1 x e)
    · rintro ⟨h1, h2⟩
      exact ⟨h1 b List.mem_cons_self, h2⟩
theorem chn_rng (xs : List Str) : ((List.range (xs.length - 1)).all fun i => decide (ltS (stAt xs i) (stAt xs (i + 1)))) = chn xs := by
  induction xs with
  | nil => rfl
  | cons a r ih =>
    cases r with
    | nil => rfl
    | cons b r =>
      unfold chn
      rw [← ih]
      have e : (a :: b :: r).length - 1 = (b :: r).length - 1 + 1 := by simp
      rw [e, List.range_succ_eq_map, List.all_cons, List.all_map]
      rfl
theorem okE_shape {d : D} (h : okE d = true) : ∃ c x r, d = .tup [.str x, r] ∧ x.cps.toList = [c] ∧ nm d = x ∧ c ∈ ("ABCDE" : Str).cps.toList ∧ okR 4 r = true := by
  unfold okE at h
  split at h
  · rename_i a r
    rw [Bool.and_eq_true] at h
    obtain ⟨h1, h2⟩ := h
    unfold isN at h1
    split at h1
    · rename_i x
      split at h1
      · rename_i c hx
        exact ⟨c, x, r, rfl, hx, rfl, of_decide_eq_true h1, h2⟩
      · cases h1
    · cases h1
  · cases h
theorem r_entry (k : Nat) (d : D) (st : Sto) {L m : Nat} (hd : fineD L m d = true) (hL : L ≤ 1000) : tbl dfs (k + 8) "is_entry" [d] st = .ok (.bl (okE d)) st := by
  rw [show k + 8 = (k + 7) + 1 from rfl, t_is_entry]
  cases d with
  | loc k => rw [fine_loc] at hd; cases hd
  | scr k => rw [fine_scr] at hd; cases hd
  | tup ds =>
    obtain ⟨m', rfl, hl, hs⟩ := fine_tup hd
    rcases ds with _ | ⟨a, _ | ⟨b, _ | ⟨e, rs⟩⟩⟩
    · simp [fnR, rho0, m_is_entry, okE]
    · simp [fnR, rho0, m_is_entry, okE]
    · have q1 := r_name (k + 6) a "ABCDE" st (hs a (by simp)) (by omega)
      have q2 := r_rule k b st (hs b (by simp)) hL
      simp [fnR, rho0, m_is_entry, okE, Kc.d, show k + 7 = k + 6 + 1 from rfl, q1, onR_ite, fin_ite]
      cases isN "ABCDE" a
      · simp
      · simp [show k + 6 + 1 = k + 7 from rfl, q2]
    · have : ¬ ((rs.length : Int) + 1 + 1 + 1 = 2) := by omega
      simp [fnR, rho0, m_is_entry, okE, this]
  | _ => simp [fnR, rho0, m_is_entry, okE]
theorem nm_at {d : D} (h : okE d = true) (rh : Rho) (st : Sto) : ∃ x r, d = .tup [.str x, r] ∧ nm d = x := by
  obtain ⟨c, x, r, e, _, h2, _⟩ := okE_shape h
  exact ⟨x, r, e, h2⟩
theorem asc_comp (ds : List D) (st : Sto) (hok : ∀ d ∈ ds, okE d = true) : cLoop (.name 2) none (eCmp .Lt (eIdx (eIdx (eVar 0) (eBin .Sub (eVar 2) (eC (.int 1)))) (eC (.int 0))) (eIdx (eIdx (eVar 0) (eVar 2)) (eC (.int 0)))) [some (.val (.tup ds)), none, none] ((List.range (ds.length - 1)).map fun k => .int (1 + (k : Nat))) st = .ok ((List.range (ds.length - 1)).map fun i => .bl (decide (ltS (stAt (ds.map nm) i) (stAt (ds.map nm) (i + 1))))) st := by
  have := cLoop_map (st := st) (tg := .name 2) (fe := eCmp .Lt (eIdx (eIdx (eVar 0) (eBin .Sub (eVar 2) (eC (.int 1)))) (eC (.int 0))) (eIdx (eIdx (eVar 0) (eVar 2)) (eC (.int 0)))) (rhw := [some (.val (.tup ds)), none, none]) (fun d => match d with
    | .int i => .bl (decide (ltS (stAt (ds.map nm) (i - 1).toNat) (stAt (ds.map nm) ((i - 1).toNat + 1))))
    | _ => .non) ((List.range (ds.length - 1)).map fun k => .int (1 + (k : Nat))) (fun d hd => ?_)
  · rw [this, List.map_map]
    refine congrArg (fun l => R.ok l st) (List.map_congr_left fun i _ => ?_)
    simp only [Function.comp]
    rw [show (1 + (i : Int) - 1).toNat = i by omega]
  · obtain ⟨i, hi, rfl⟩ := List.mem_map.mp hd
    rw [List.mem_range] at hi
    refine ⟨_, rfl, ?_⟩
    have h1 : i < ds.length := by omega
    have h2 : i + 1 < ds.length := by omega
    obtain ⟨x1, r1, e1, n1⟩ := nm_at (hok ds[i] (List.getElem_mem h1)) [] st
    obtain ⟨x2, r2, e2, n2⟩ := nm_at (hok ds[i + 1] (List.getElem_mem h2)) [] st
    have a1 : atI ds (1 + (i : Int) - 1) = some (.tup [.str x1, r1]) := by
      rw [show 1 + (i : Int) - 1 = (i : Int) by omega, at_nat, List.getElem?_eq_getElem h1, e1]
    have a2 : atI ds (1 + (i : Int)) = some (.tup [.str x2, r2]) := by
      rw [show 1 + (i : Int) = ((i + 1 : Nat) : Int) by omega, at_nat, List.getElem?_eq_getElem h2, e2]
    have g1 : stAt (ds.map nm) i = x1 := by unfold stAt; rw [List.getD_eq_getElem?_getD, List.getElem?_map, List.getElem?_eq_getElem h1]; exact n1
    have g2 : stAt (ds.map nm) (i + 1) = x2 := by unfold stAt; rw [List.getD_eq_getElem?_getD, List.getElem?_map, List.getElem?_eq_getElem h2]; exact n2
    have t : (1 + (i : Int) - 1).toNat = i := by omega
    simp only [t, g1, g2]
    simp [cElt, a1, a2, ltS]
theorem asc_all (ds : List D) : allD (.lst ((List.range (ds.length - 1)).map fun i => .bl (decide (ltS (stAt (ds.map nm) i) (stAt (ds.map nm) (i + 1)))))) = some (.bl (chn (ds.map nm))) := by
  have am2 := all_map (fun i : Nat => decide (ltS (stAt (ds.map nm) i) (stAt (ds.map nm) (i + 1)))) (List.range (ds.length - 1))
  have cr := chn_rng (ds.map nm)
  rw [List.length_map] at cr
  rw [am2, ← cr]
theorem e2a (ds : List D) (st : Sto) (rng : rng2 (.int 1) (.int ds.length) = some ((List.range (ds.length - 1)).map fun k => .int (1 + (k : Nat)))) : iTwo rng2 (eC (.int 1)) (eB1 .len (eVar 0)) [some (.val (.tup ds)), none, none] st = .ok ((List.range (ds.length - 1)).map fun k => .int (1 + (k : Nat))) st :=
  iTwo_ok (t := .d (.int 1)) (u := .d (.int ds.length)) (st1 := st) rfl (by simp) rfl rfl rfl rfl rng
theorem e2b (ds : List D) (st : Sto) (hok : ∀ d ∈ ds, okE d = true) (hi : iTwo rng2 (eC (.int 1)) (eB1 .len (eVar 0)) [some (.val (.tup ds)), none, none] st = .ok ((List.range (ds.length - 1)).map fun k => .int (1 + (k : Nat))) st) (hsz3 : ((List.range (ds.length - 1)).map fun k => D.int (1 + (k : Nat))).length ≤ sizeLine) :
  eComp [2] (.name 2) (iTwo rng2 (eC (.int 1)) (eB1 .len (eVar 0))) none (eCmp .Lt (eIdx (eIdx (eVar 0) (eBin .Sub (eVar 2) (eC (.int 1)))) (eC (.int 0))) (eIdx (eIdx (eVar 0) (eVar 2)) (eC (.int 0)))) [some (.val (.tup ds)), none, none] st = .ok (.fr ((List.range (ds.length - 1)).map fun i => .bl (decide (ltS (stAt (ds.map nm) i) (stAt (ds.map nm) (i + 1)))))) st := by
  refine comp_ok hi hsz3 ?_
  show cLoop _ _ _ [some (.val (.tup ds)), none, none] _ _ = _
  exact asc_comp ds st hok
theorem rngA (ds : List D) (h : ds.length ≤ 1000) : rng2 (.int 1) (.int ds.length) = some ((List.range (ds.length - 1)).map fun k => .int (1 + (k : Nat))) := by
  rw [rng2_ev (by omega), show ((ds.length : Int) - 1).toNat = ds.length - 1 by omega]
theorem hszA (ds : List D) (h : ds.length ≤ 1000) : ((List.range (ds.length - 1)).map fun k => D.int (1 + (k : Nat))).length ≤ sizeLine := by
  rw [List.length_map, List.length_range]
  exact sz (by omega)
theorem r_book (k : Nat) (d : D) (st : Sto) {L m : Nat} (hd : fineD L m d = true) (hL : L ≤ 1000) : tbl dfs (k + 9) "is_book" [d] st = .ok (.bl (okB d)) st := by
  rw [show k + 9 = (k + 8) + 1 from rfl, t_is_book]
  cases d with
  | loc k => rw [fine_loc] at hd; cases hd
  | scr k => rw [fine_scr] at hd; cases hd
  | tup ds =>
    obtain ⟨m', rfl, hl, hs⟩ := fine_tup hd
    have comp : cLoop (.name 1) none (eCall (tbl dfs (k + 8)) "is_entry" [eVar 1]) [some (.val (.tup ds)), none, none] ds st = .ok (ds.map fun d => .bl (okE d)) st := by
      refine cLoop_map _ _ fun d hdm => ⟨_, rfl, ?_⟩
      have q := r_entry k d st (hs d hdm) hL
      simp [cElt, q]
    have hsz : ds.length ≤ sizeLine := sz (by omega)
    have am := all_map okE ds
    cases ha : ds.all okE with
    | false =>
      simp [fnR, rho0, m_is_book, comp, hsz, am, ha, okB]
    | true =>
      have hok : ∀ d ∈ ds, okE d = true := List.all_eq_true.mp ha
      have am2 := asc_all ds
      have E1 := comp_ok (st := st) (st1 := st) (rh := [some (.val (.tup ds)), none, none]) (vs := [1]) (fi := iOne itemsD (eVar 0)) (by simp) hsz comp
      have E2 := e2b ds st hok (e2a ds st (rngA ds (by omega))) (hszA ds (by omega))
      have c1 : eB1 .all (eComp [1] (.name 1) (iOne itemsD (eVar 0)) none (eCall (tbl dfs (k + 8)) "is_entry" [(eVar 1)])) [some (.val (.tup ds)), none, none] st = .ok (.d (.bl true)) st := by
        simp only [eB1_ev, eOp1_ev, E1, R.bind_ok, view_fr, all_ev, am, ha, dV_some']
      have c2 : eB1 .all (eComp [2] (.name 2) (iTwo rng2 (eC (.int 1)) (eB1 .len (eVar 0))) none (eCmp .Lt (eIdx (eIdx (eVar 0) (eBin .Sub (eVar 2) (eC (.int 1)))) (eC (.int 0))) (eIdx (eIdx (eVar 0) (eVar 2)) (eC (.int 0))))) [some (.val (.tup ds)), none, none] st = .ok (.d (.bl (chn (ds.map nm)))) st := by
        simp only [eB1_ev, eOp1_ev, E2, R.bind_ok, view_fr, all_ev, am2, dV_some']
      have e0 : fnR 3 (m_is_book (tbl dfs (k + 8))) [.tup ds] st = fin st.length (m_is_book (tbl dfs (k + 8)) [some (.val (.tup ds)), none, none] st) := rfl
      have e1 : okB (.tup ds) = chn (ds.map nm) := by simp only [okB, ha, Bool.true_and]
      rw [e0, e1]
      unfold m_is_book
      have c3 : eOr (eNot (eTru (eIsi .tuple (eVar 0)))) (eNot (eTru (eB1 .all (eComp [1] (.name 1) (iOne itemsD (eVar 0)) none (eCall (tbl dfs (k + 8)) "is_entry" [(eVar 1)]))))) [some (.val (.tup ds)), none, none] st = .ok (.d (.bl false)) st := by
        have z : eNot (eTru (eIsi .tuple (eVar 0))) [some (.val (.tup ds)), none, none] st = .ok (.d (.bl false)) st := rfl
        rw [eOr_ev, z, R.bind_ok, onB_bl, if_neg (by decide), eNot_ev, eOp1_ev, eTru_ev, eOp1_ev, c1]
        rfl
      rw [sSeq_ev, sIf_ev, c3, onR_ok, onT_bl, if_neg (by decide), sNil_ev, onN_nx, sRet_ev, c2, onR_ok, ret_d, fin_rt, cut_same]
  | _ => simp [fnR, rho0, m_is_book, okB]
end KW

namespace KW
open PySem L2 KL KU

theorem app_cps (x y : Str) : (x ++ y).cps.toList = x.cps.toList ++ y.cps.toList := by
  show (x.cps ++ y.cps).toList = _
  simp
theorem eq_strs {xs ys : List Str} (hx : ∀ x ∈ xs, PyData.strOk x = true) (hy : ∀ x ∈ ys, PyData.strOk x = true) : cmpD .Eq (.lst (xs.map .str)) (.lst (ys.map .str)) = some (decide (xs = ys)) := by
  have e : cmpD .Eq (.lst (xs.map .str)) (.lst (ys.map .str)) = eqG (.lst (xs.map .str)) (.lst (ys.map .str)) := rfl
  have p : ∀ zs : List Str, toPys (zs.map .str) = some (zs.map .str) := by
    intro zs
    induction zs with
    | nil => rfl
    | cons z zs ih => simp [toPys, toPy, ih]
  have l : ∀ zs : List Str, (∀ x ∈ zs, PyData.strOk x = true) → SeqAt.shaped (.list (zs.map .str)) = true := by
    intro zs hz
    have a : PyData.canLayAll0 (zs.map .str) = true := by
      induction zs with
      | nil => rfl
      | cons z zs ih => simp [PyData.canLayAll0, PyData.canLay0, hz z (by simp), ih fun x hx => hz x (List.mem_cons_of_mem _ hx)]
    have b : PyData.depthAll (zs.map .str) ≤ 1 := by
      clear hz a
      induction zs with
      | nil => simp [PyData.depthAll]
      | cons z zs ih => simp [PyData.depthAll, PyData.depth]; omega
    simp [SeqAt.shaped, PyData.canLay0, PyData.depth, a]
    omega
  have q : ∀ xs ys : List Str, PyData.eqvAll (xs.map .str) (ys.map .str) = decide (xs = ys) := by
    intro xs
    induction xs with
    | nil => intro ys; cases ys <;> simp [PyData.eqvAll]
    | cons x xs ih =>
      intro ys
      cases ys with
      | nil => simp [PyData.eqvAll]
      | cons y ys =>
        simp only [List.map_cons, PyData.eqvAll, PyData.eqv, ih ys]
        rw [Bool.eq_iff_iff]
        simp
  rw [e]
  unfold eqG
  simp only [toPy, p, Option.map_some, Option.bind_some, l xs hx, l ys hy, Bool.and_self, if_true, PyData.eqv, q]
theorem srt_self {xs : List Str} : xs = srt xs ↔ xs.Pairwise ltS := by
  constructor
  · intro h
    rw [h]
    exact srt_lt xs
  · intro h
    exact uniq h (srt_lt xs) fun x => mem_srt.symm
theorem strOk_one {c : Nat} (h : c ∈ ("ABCDE" : Str).cps.toList) : PyData.strOk ⟨#[c]⟩ = true := by
  have : ∀ c ∈ ("ABCDE" : Str).cps.toList, PyData.strOk ⟨#[c]⟩ = true := by decide +kernel
  exact this c h
def cd1 (d : D) : Nat := (nm d).cps.toList.headD 0
def lbB (G : Tbl) : Ss := (sSeq (sIf (eOr (eNot (eTru (eIsi .tuple (eVar 2)))) (eOr (eCmp .NotEq (eB1 .len (eVar 2)) (eC (.int 2))) (eNot (eTru (eIsi .str (eIdx (eVar 2) (eC (.int 0))))))))
  (sRet (eC (.bl false)))
  sNil)
  (sSeq (sIf (eNot (eTru (eCall G "_law_is_rule" [(eIdx (eVar 2) (eC (.int 1))), (eC (.int 1))])))
  (sRet (eC (.bl false)))
  sNil)
  (sSeq (sIf (eOr (eCmp .NotEq (eB1 .len (eIdx (eVar 2) (eC (.int 0)))) (eC (.int 1))) (eCmp .NotIn (eIdx (eVar 2) (eC (.int 0))) (eC (.str "ABCDE"))))
  (sRet (eC (.bl false)))
  sNil)
  (sAsg false 1 (eBin .Add (eVar 1) (eIdx (eVar 2) (eC (.int 0))))))))
/-- one entry -/
theorem lb_step (k : Nat) (th : D) (acc : Str) (d : D) (st : Sto) {L m : Nat} (hd : fineD L m d = true) (hL : L ≤ 1000) (hm : m ≤ 40) (ha : acc.length ≤ 2000) :
    lbB (tbl dfs (k + 6)) [some (.val th), some (.val (.str acc)), some (.val d)] st = if okE d then .nx [some (.val th), some (.val (.str (acc ++ nm d))), some (.val d)] st else .rt (.bl false) st := by
  cases d with
  | loc k => rw [fine_loc] at hd; cases hd
  | scr k => rw [fine_scr] at hd; cases hd
  | tup ds =>
    obtain ⟨m', rfl, hl, hs⟩ := fine_tup hd
    rcases ds with _ | ⟨a, _ | ⟨b, _ | ⟨e, rs⟩⟩⟩
    · simp [lbB, okE]
    · simp [lbB, okE]
    · have q := r_lrule st 4 k b (hs b (by simp)) hL (by omega) 1 (by omega)
      have ha' := hs a (by simp)
      cases a with
      | loc k => rw [fine_loc] at ha'; cases ha'
      | scr k => rw [fine_scr] at ha'; cases ha'
      | str x =>
        have e := short (fine_str ha').1 (by omega)
        have hx1 := (fine_str ha').1
        cases h4 : okR 4 b with
        | false => simp [lbB, okE, show k + 6 = k + 4 + 2 from rfl, q, h4]
        | true =>
          rcases hx : x.cps.toList with _ | ⟨c, _ | ⟨c2, r⟩⟩
          · have h0 : x.length = 0 := by rw [len_cps, hx]; rfl
            simp [lbB, okE, show k + 6 = k + 4 + 2 from rfl, q, h4, len_str e, h0, isN, hx]
          · have h0 : x.length = 1 := by rw [len_cps, hx]; rfl
            have ap := bin_add_str (x := acc) (y := x) (by rw [sizeLine_eq]; omega)
            simp [lbB, okE, show k + 6 = k + 4 + 2 from rfl, q, h4, len_str e, h0, isN, hx, in_one hx, nm, ap, onR_ite, onN_ite]
          · have h0 : x.length = r.length + 2 := by rw [len_cps, hx]; simp
            have h6 : ¬ ((r.length : Int) + 2 = 1) := by omega
            simp [lbB, okE, show k + 6 = k + 4 + 2 from rfl, q, h4, len_str e, h0, isN, hx, h6]
      | _ => simp [lbB, okE, isN]
    · have : ¬ ((rs.length : Int) + 1 + 1 + 1 = 2) := by omega
      simp [lbB, okE, this]
  | _ => simp [lbB, okE]
theorem lb_loop (k : Nat) (th : D) (st : Sto) {L m : Nat} (hL : L ≤ 1000) (hm : m ≤ 40) : ∀ (ds : List D) (acc : Str) (e : Option Cell), (∀ d ∈ ds, fineD L m d = true) → acc.length + ds.length ≤ 1000 →
    (ds.all okE = true → ∃ acc' e', acc'.cps.toList = acc.cps.toList ++ ds.map cd1 ∧ sLoop (.name 2) (lbB (tbl dfs (k + 6))) ds [some (.val th), some (.val (.str acc)), e] st = .nx [some (.val th), some (.val (.str acc')), e'] st) ∧
    (ds.all okE = false → sLoop (.name 2) (lbB (tbl dfs (k + 6))) ds [some (.val th), some (.val (.str acc)), e] st = .rt (.bl false) st)
  | [], acc, e, _, _ => ⟨fun _ => ⟨acc, e, by simp, rfl⟩, fun h => by cases h⟩
  | d :: ds, acc, e, hf, hl => by
    simp only [List.length_cons] at hl
    have s := lb_step k th acc d st (hf d List.mem_cons_self) hL hm (by omega)
    have e0 : sLoop (.name 2) (lbB (tbl dfs (k + 6))) (d :: ds) [some (.val th), some (.val (.str acc)), e] st = (match lbB (tbl dfs (k + 6)) [some (.val th), some (.val (.str acc)), some (.val d)] st with
      | .nx rh2 st2 => sLoop (.name 2) (lbB (tbl dfs (k + 6))) ds rh2 st2
      | .ct rh2 st2 => sLoop (.name 2) (lbB (tbl dfs (k + 6))) ds rh2 st2
      | .bk rh2 st2 => .nx rh2 st2
      | r => r) := rfl
    rw [e0, s]
    cases h : okE d with
    | false => exact ⟨fun z => by simp [h] at z, fun _ => rfl⟩
    | true =>
      obtain ⟨c, x, r, hd, hx, hn, _, _⟩ := okE_shape h
      have hlx : x.length = 1 := by rw [len_cps, hx]; rfl
      have hla : (acc ++ nm d).length = acc.length + 1 := by
        rw [hn, len_cps, app_cps, hx, len_cps]
        simp
      have ih := lb_loop k th st hL hm ds (acc ++ nm d) (some (.val d)) (fun d hd => hf d (List.mem_cons_of_mem _ hd)) (by omega)
      rw [List.all_cons, h, Bool.true_and]
      refine ⟨fun z => ?_, fun z => ih.2 z⟩
      obtain ⟨acc', e', q1, q2⟩ := ih.1 z
      refine ⟨acc', e', ?_, q2⟩
      rw [q1, app_cps, hn, hx, List.map_cons, List.append_assoc]
      have : cd1 d = c := by unfold cd1; rw [hn, hx]; rfl
      rw [this]
      rfl
theorem r_lbook (k : Nat) (d : D) (st : Sto) {L m : Nat} (hd : fineD L m d = true) (hL : L ≤ 1000) (hm : m ≤ 40) : tbl dfs (k + 7) "_law_is_book" [d] st = .ok (.bl (okB d)) st := by
  rw [show k + 7 = (k + 6) + 1 from rfl, t_law_is_book]
  cases d with
  | loc k => rw [fine_loc] at hd; cases hd
  | scr k => rw [fine_scr] at hd; cases hd
  | tup ds =>
    obtain ⟨m', rfl, hl, hs⟩ := fine_tup hd
    have lp := lb_loop k (.tup ds) st hL (by omega : m' ≤ 40) ds "" none hs (by show 0 + ds.length ≤ 1000; omega)
    have e0 : fnR 3 (m_law_is_book (tbl dfs (k + 6))) [.tup ds] st = fin st.length (onN (sLoop (.name 2) (lbB (tbl dfs (k + 6))) ds [some (.val (.tup ds)), some (.val (.str "")), none] st) (sRet (eCmp .Eq (eB1 .list (eVar 1)) (eSortSet (eVar 1))))) := by
      simp [fnR, rho0, m_law_is_book, lbB]
    rw [e0]
    cases ha : ds.all okE with
    | false =>
      rw [lp.2 ha]
      simp [okB, ha]
    | true =>
      obtain ⟨acc', e', q1, q2⟩ := lp.1 ha
      have hok : ∀ d ∈ ds, okE d = true := List.all_eq_true.mp ha
      rw [q2]
      have q1 : acc'.cps.toList = ds.map cd1 := by rw [q1]; rfl
      have hlen : acc'.length = ds.length := by rw [len_cps, q1, List.length_map]
      have hstr : (acc'.cps.toList.map fun k => (⟨#[k]⟩ : Str)) = ds.map nm := by
        rw [q1, List.map_map]
        apply List.map_congr_left
        intro d hd
        obtain ⟨c, x, r, _, hx, hn, _, _⟩ := okE_shape (hok d hd)
        show (⟨#[cd1 d]⟩ : Str) = nm d
        unfold cd1
        rw [hn, hx]
        apply str_ext
        rw [hx]
        rfl
      have hsg : signs acc' = (ds.map nm).map .str := by
        rw [← hstr, List.map_map]
        rfl
      have ok1 : ∀ x ∈ ds.map nm, PyData.strOk x = true := by
        intro x hx
        obtain ⟨d, hd, rfl⟩ := List.mem_map.mp hx
        obtain ⟨c, x, r, _, hx, hn, hc, _⟩ := okE_shape (hok d hd)
        have : nm d = ⟨#[c]⟩ := by rw [hn]; apply str_ext; rw [hx]
        rw [this]
        exact strOk_one hc
      have eqs := eq_strs ok1 (ys := srt (ds.map nm)) fun x hx => ok1 x (mem_srt.mp hx)
      have l1 := lis_str (x := acc') (by rw [sizeLine_eq]; omega)
      have l2 : srtD (.str acc') = some (.fr ((srt (ds.map nm)).map .str)) := by
        simp only [srtD]
        rw [if_pos (by rw [q1, List.length_map]; omega), hstr]
      rw [hsg] at l1
      have hch : decide (ds.map nm = srt (ds.map nm)) = chn (ds.map nm) := by
        rw [Bool.eq_iff_iff, decide_eq_true_eq, srt_self, chn_pw]
      rw [hch] at eqs
      simp only [onN_nx, sRet_ev, eCmp_ev, eOp2_ev, eB1_ev, eSortSet_ev, eOp1_ev, eVar_ev, list_ev]
      simp [-List.map_map, l1, l2, eqs, okB, ha]
  | _ => simp [fnR, rho0, m_law_is_book, okB]
end KW

namespace KW
open PySem L2 KL KU

/-! ### drawing -/
def mixZ (c p m : Int) : Int := (c * 48271 % p) * (c * 48271 % p + 7) % p % m
theorem mixZ_lt (c p m : Int) (h : 0 < m) : 0 ≤ mixZ c p m ∧ mixZ c p m < m := ⟨Int.emod_nonneg _ (by omega), Int.emod_lt_of_pos _ h⟩
theorem r_mix (k : Nat) (c p m : Int) (st : Sto) (hp : 0 < p ∧ p < 100000) (hm : 0 < m) : tbl dfs (k + 1) "_law_mix" [.int c, .int p, .int m] st = .ok (.int (mixZ c p m)) st := by
  rw [t_law_mix]
  have h1 := bin_mul_r (i := c) (j := 48271) (by decide)
  have h2 := bin_mod (i := c * 48271) (j := p) hp.1
  have hb : 0 ≤ c * 48271 % p ∧ c * 48271 % p < p := ⟨Int.emod_nonneg _ (by omega), Int.emod_lt_of_pos _ hp.1⟩
  have h3 := bin_mul_l (i := c * 48271 % p) (j := c * 48271 % p + 7) (by omega)
  have h4 := bin_mod (i := c * 48271 % p * (c * 48271 % p + 7)) (j := p) hp.1
  have h5 := bin_mod (i := c * 48271 % p * (c * 48271 % p + 7) % p) (j := m) hm
  simp [fnR, rho0, m_law_mix, h1, h2, h3, h4, h5, mixZ]
theorem r_cell (k : Nat) (ns : List Int) (j : Int) (st : Sto) (hj : 0 ≤ j) : ∃ c, tbl dfs (k + 1) "_law_cell" [.scr ns, .int j] st = .ok (.int c) st := by
  rw [t_law_cell]
  by_cases h : j < ns.length
  · refine ⟨ns[j.toNat]'(by omega), ?_⟩
    have e := atI_of ns hj
    rw [List.getElem?_eq_getElem (by omega)] at e
    simp [fnR, rho0, m_law_cell, h, e]
  · refine ⟨0, ?_⟩
    simp [fnR, rho0, m_law_cell, h]
/-! ### what is drawn: texts of a few kinds, tuples of at most five -/
def W0 : List Str := ["worth", "look", "plus", "times", "same", "least", "most", "if", "a", "b", "c", "A", "B", "C", "D", "E"]
def orig : Nat → D → Bool
  | _, .int i => true
  | _, .str x => W0.contains x
  | n + 1, .tup ds => decide (ds.length ≤ 5) && ds.all (orig n)
  | _, _ => false
theorem orig_mono : ∀ {n m : Nat} {d : D}, n ≤ m → orig n d = true → orig m d = true
  | n, m, .int i, _, _ => by cases m <;> rfl
  | n, m, .str x, _, h => by cases n <;> cases m <;> exact h
  | 0, _, .tup ds, _, h => by cases h
  | n + 1, 0, _, h, _ => by omega
  | n + 1, m + 1, .tup ds, hl, h => by
    simp only [orig, Bool.and_eq_true, decide_eq_true_eq, List.all_eq_true] at h ⊢
    exact ⟨h.1, fun d hd => orig_mono (by omega) (h.2 d hd)⟩
  | n, _, .non, _, h => by cases n <;> cases h
  | n, _, .bl _, _, h => by cases n <;> cases h
  | n, _, .lst _, _, h => by cases n <;> cases h
  | n, _, .loc _, _, h => by cases n <;> cases h
  | n, _, .scr _, _, h => by cases n <;> cases h
theorem W0_ok : ∀ x ∈ W0, x.length ≤ 5 ∧ PyData.strOk x = true ∧ (Txt.upper x).length ≤ 24 ∧ PyData.strOk (Txt.upper x) = true ∧ (Txt.mul x 2).length ≤ 24 ∧ PyData.strOk (Txt.mul x 2) = true := by decide +kernel
theorem orig_fine {L : Nat} (hL : 5 ≤ L) : ∀ {n : Nat} {d : D}, orig n d = true → fineD L n d = true
  | n, .int i, _ => by cases n <;> rfl
  | n, .str x, h => by
    have h' : x ∈ W0 := by cases n <;> simpa [orig] using h
    obtain ⟨h1, h2, _⟩ := W0_ok x h'
    cases n <;> simp [fineD, h2] <;> omega
  | 0, .tup ds, h => by cases h
  | n + 1, .tup ds, h => by
    simp only [orig, Bool.and_eq_true, decide_eq_true_eq, List.all_eq_true] at h
    simp only [fineD, Bool.and_eq_true, decide_eq_true_eq, List.all_eq_true]
    exact ⟨by omega, fun d hd => orig_fine hL (h.2 d hd)⟩
  | n, .non, h => by cases n <;> cases h
  | n, .bl _, h => by cases n <;> cases h
  | n, .lst _, h => by cases n <;> cases h
  | n, .loc _, h => by cases n <;> cases h
  | n, .scr _, h => by cases n <;> cases h
theorem orig_w {n : Nat} {x : Str} (h : W0.contains x = true) : orig n (.str x) = true := by cases n <;> exact h
theorem at_mem {α : Type} {xs : List α} {i : Int} (h0 : 0 ≤ i) (h1 : i < xs.length) : ∃ x, atI xs i = some x ∧ x ∈ xs := by
  rw [atI_of xs h0]
  have : i.toNat < xs.length := by omega
  exact ⟨xs[i.toNat], List.getElem?_eq_getElem this, List.getElem_mem this⟩
/-- a rule that is drawn -/
def GoodR (n : Nat) (d : D) : Prop := okR n d = true ∧ orig n d = true
theorem good_pair {n : Nat} {w : Str} {x y : D} (hw : isTwo w = true) (hx : GoodR n x) (hy : GoodR n y) : GoodR (n + 1) (.tup [.str w, x, y]) := by
  have nw : w ≠ "worth" ∧ w ≠ "look" ∧ w ≠ "if" ∧ w ∈ W0 := by
    simp only [isTwo, Bool.or_eq_true, decide_eq_true_eq] at hw
    rcases hw with (((h | h) | h) | h) | h <;> subst h <;> decide +kernel
  refine ⟨by simp [okR, nw.1, nw.2.1, nw.2.2.1, hw, hx.1, hy.1], ?_⟩
  have : orig n (.str w) = true := by cases n <;> simpa [orig] using nw.2.2.2
  simp [orig, this, hx.2, hy.2]
theorem good_three {n : Nat} {x y z : D} (hx : GoodR n x) (hy : GoodR n y) (hz : GoodR n z) : GoodR (n + 1) (.tup [.str "if", x, y, z]) := by
  refine ⟨by simp [okR, fw, fl, hx.1, hy.1, hz.1], ?_⟩
  have : orig n (.str "if") = true := orig_w (by decide +kernel)
  simp [orig, this, hx.2, hy.2, hz.2]
theorem good_worth {n : Nat} {i : Int} (h : 0 ≤ i ∧ i < 3) : GoodR (n + 1) (.tup [.str "worth", .int i]) := by
  refine ⟨by simp [okR, isW]; omega, ?_⟩
  have : orig n (.str "worth") = true := orig_w (by decide +kernel)
  have h2 : orig n (.int i) = true := by cases n <;> rfl
  simp [orig, this, h2]
theorem good_look {n : Nat} {c : Nat} (h : c ∈ ("abcABCDE" : Str).cps.toList) : GoodR (n + 1) (.tup [.str "look", .str ⟨#[c]⟩]) := by
  have all : ∀ c ∈ ("abcABCDE" : Str).cps.toList, W0.contains (⟨#[c]⟩ : Str) = true := by decide +kernel
  have h' : c ∈ ("abcABCDE" : Str).cps := by simpa using h
  refine ⟨by simp [okR, wl, isN, h'], ?_⟩
  have : orig n (.str "look") = true := orig_w (by decide +kernel)
  have h2 : orig n (.str ⟨#[c]⟩) = true := orig_w (all c h)
  simp [orig, this, h2]
theorem r_lawrule (st : Sto) : ∀ (n k : Nat) (c : Int) (i : Int), i = n + 1 → ∃ d, tbl dfs (k + n + 2) "_law_rule" [.int c, .int i] st = .ok d st ∧ GoodR (n + 1) d
  | n, k, c, i, hi => by
    rw [show k + n + 2 = (k + n + 1) + 1 from rfl, t_law_rule]
    have m1 := r_mix (k + n) c 9973 10 st (by decide) (by decide)
    have m2 := r_mix (k + n) c 9967 7 st (by decide) (by decide)
    have m3 := r_mix (k + n) c 9949 3 st (by decide) (by decide)
    have m4 := r_mix (k + n) c 9941 11 st (by decide) (by decide)
    have m5 := r_mix (k + n) c 9931 5 st (by decide) (by decide)
    have b3 := mixZ_lt c 9949 3 (by decide)
    have b4 := mixZ_lt c 9941 11 (by decide)
    have b5 := mixZ_lt c 9931 5 (by decide)
    have hs : ("abcABCDEabc" : Str).length ≤ sizeLine := by decide
    have l11 : ("abcABCDEabc" : Str).cps.toList.length = 11 := by decide +kernel
    obtain ⟨x4, e4, mem4⟩ := at_mem (xs := ("abcABCDEabc" : Str).cps.toList) b4.1 (by omega)
    have mem4' : x4 ∈ ("abcABCDE" : Str).cps.toList := by
      have all : ∀ c ∈ ("abcABCDEabc" : Str).cps.toList, c ∈ ("abcABCDE" : Str).cps.toList := by decide +kernel
      exact all x4 mem4
    obtain ⟨x5, e5, mem5⟩ := at_mem (xs := [D.str "plus", .str "times", .str "same", .str "least", .str "most"]) b5.1 b5.2
    have hix := idx_str (i := mixZ c 9941 11) hs
    rw [e4] at hix
    by_cases h1 : mixZ c 9973 10 < 4 ∨ i = 1
    · by_cases h2 : mixZ c 9967 7 = 0
      · refine ⟨.tup [.str "worth", .int (mixZ c 9949 3)], ?_, good_worth b3⟩
        rcases h1 with h1 | h1 <;> simp [fnR, rho0, m_law_rule, m1, m2, m3, h1, h2, onR_ite, onN_ite, fin_ite]
      · refine ⟨.tup [.str "look", .str ⟨#[x4]⟩], ?_, good_look mem4'⟩
        rcases h1 with h1 | h1 <;> simp [fnR, rho0, m_law_rule, m1, m2, m4, h1, h2, hix, onR_ite, onN_ite, fin_ite]
    · rw [not_or] at h1
      obtain ⟨h1, h3⟩ := h1
      cases n with
      | zero => omega
      | succ n =>
        obtain ⟨y1, q1, g1⟩ := r_lawrule st n k (c + 3) (i - 1) (by omega)
        obtain ⟨y2, q2, g2⟩ := r_lawrule st n k (c + 5) (i - 1) (by omega)
        obtain ⟨z1, p1, f1⟩ := r_lawrule st n k (c + 7) (i - 1) (by omega)
        obtain ⟨z2, p2, f2⟩ := r_lawrule st n k (c + 11) (i - 1) (by omega)
        obtain ⟨z3, p3, f3⟩ := r_lawrule st n k (c + 13) (i - 1) (by omega)
        rw [show k + n + 2 = k + (n + 1) + 1 by omega] at q1 q2 p1 p2 p3
        by_cases h4 : mixZ c 9973 10 < 7
        · have hw : ∃ w, x5 = .str w ∧ isTwo w = true := by
            simp only [List.mem_cons, List.not_mem_nil, or_false] at mem5
            rcases mem5 with h | h | h | h | h <;> exact ⟨_, h, by decide +kernel⟩
          obtain ⟨w, rfl, hw⟩ := hw
          refine ⟨.tup [.str w, y1, y2], ?_, good_pair hw g1 g2⟩
          simp [fnR, rho0, m_law_rule, m1, m5, h1, h3, h4, e5, q1, q2, onR_ite, onN_ite, fin_ite]
        · refine ⟨.tup [.str "if", z1, z2, z3], ?_, good_three f1 f2 f3⟩
          simp [fnR, rho0, m_law_rule, m1, h1, h3, h4, p1, p2, p3, onR_ite, onN_ite, fin_ite]
end KW

namespace KW
open PySem L2 KL KU

theorem good_inv {n : Nat} {d : D} (h : GoodR (n + 1) d) : (∃ i : Int, (0 ≤ i ∧ i < 3) ∧ d = .tup [.str "worth", .int i]) ∨ (∃ c, c ∈ ("abcABCDE" : Str).cps.toList ∧ d = .tup [.str "look", .str ⟨#[c]⟩]) ∨
    (∃ w x y, isTwo w = true ∧ GoodR n x ∧ GoodR n y ∧ d = .tup [.str w, x, y]) ∨ (∃ x y z, GoodR n x ∧ GoodR n y ∧ GoodR n z ∧ d = .tup [.str "if", x, y, z]) := by
  obtain ⟨h1, h2⟩ := h
  unfold okR at h1
  split at h1
  · cases h1
  · rename_i w r rs en
    cases en
    simp only [orig, Bool.and_eq_true, decide_eq_true_eq, List.all_eq_true] at h2
    obtain ⟨_, h2⟩ := h2
    split at h1
    · rename_i e
      subst e
      rw [Bool.and_eq_true, List.isEmpty_iff] at h1
      obtain ⟨rfl, h1⟩ := h1
      cases r with
      | int i =>
        simp only [isW, Bool.and_eq_true, decide_eq_true_eq] at h1
        exact .inl ⟨i, by omega, rfl⟩
      | _ => cases h1
    · split at h1
      · rename_i e
        subst e
        rw [Bool.and_eq_true, List.isEmpty_iff] at h1
        obtain ⟨rfl, h1⟩ := h1
        cases r with
        | str x =>
          simp only [isN] at h1
          split at h1
          · rename_i c hx
            refine .inr (.inl ⟨c, of_decide_eq_true h1, ?_⟩)
            have : x = ⟨#[c]⟩ := str_ext (by rw [hx])
            rw [this]
          · cases h1
        | _ => cases h1
      · split at h1
        · rename_i e
          subst e
          simp only [Bool.and_eq_true, decide_eq_true_eq] at h1
          obtain ⟨hl, h1⟩ := h1
          rcases rs with _ | ⟨y, _ | ⟨z, _ | ⟨u, rs⟩⟩⟩ <;> simp at hl
          simp at h1
          exact .inr (.inr (.inr ⟨r, y, z, ⟨h1.1, h2 r (by simp)⟩, ⟨h1.2.1, h2 y (by simp)⟩, ⟨h1.2.2, h2 z (by simp)⟩, rfl⟩))
        · simp only [Bool.and_eq_true, decide_eq_true_eq] at h1
          obtain ⟨hw, hl, h1⟩ := h1
          rcases rs with _ | ⟨y, _ | ⟨z, rs⟩⟩ <;> simp at hl
          simp at h1
          exact .inr (.inr (.inl ⟨w, r, y, hw, ⟨h1.1, h2 r (by simp)⟩, ⟨h1.2, h2 y (by simp)⟩, rfl⟩))
  · cases h1
theorem good_tup {n : Nat} {d : D} (h : GoodR n d) : ∃ ds, d = .tup ds := by
  cases n with
  | zero => cases h.1
  | succ n => rcases good_inv h with ⟨i, _, rfl⟩ | ⟨c, _, rfl⟩ | ⟨w, x, y, _, _, _, rfl⟩ | ⟨x, y, z, _, _, _, rfl⟩ <;> exact ⟨_, rfl⟩
theorem two_ne {w : Str} (hw : isTwo w = true) : w ≠ "worth" ∧ w ≠ "look" ∧ w ≠ "if" ∧ w ∈ W0 := by
  simp only [isTwo, Bool.or_eq_true, decide_eq_true_eq] at hw
  rcases hw with (((h | h) | h) | h) | h <;> subst h <;> decide +kernel
theorem small_add {m n : Nat} (h : m + n ≤ 1000000) : m + n ≤ sizeLine := by rw [sizeLine_eq]; omega
/-! ### names -/
theorem ext0 {xs : List Str} (h : xs.length ≤ 100000) : extD (xs.map D.str) [] = some (xs.map D.str) := by
  have := ext_ev (ds := []) (es := xs.map D.str) (small_add (by simp; omega))
  simpa using this
theorem ext1 {xs ys : List Str} (h : xs.length + ys.length ≤ 100000) : extD (ys.map D.str) (xs.map D.str) = some ((xs ++ ys).map D.str) := by
  have := ext_ev (ds := xs.map D.str) (es := ys.map D.str) (small_add (by simp; omega))
  simpa using this
theorem pow_le {n : Nat} (h : n ≤ 8) : 3 ^ n ≤ 6561 := by
  have : 3 ^ n ≤ 3 ^ 8 := Nat.pow_le_pow_right (by decide) h
  exact this
theorem r_names (st : Sto) : ∀ (n : Nat) (d : D), n ≤ 8 → GoodR (n + 1) d → ∃ xs : List Str, xs.length ≤ 3 ^ n ∧ ∀ k, tbl dfs (k + n + 1) "names_of" [d] st = .ok (.lst (xs.map .str)) st ∧ tbl dfs (k + n + 1) "_law_names" [d] st = .ok (.lst (xs.map .str)) st
  | n, d, hn, h => by
    have hp : ∀ n : Nat, 1 ≤ 3 ^ n := fun n => Nat.one_le_pow _ _ (by decide)
    rcases good_inv h with ⟨i, hi, rfl⟩ | ⟨c, hc, rfl⟩ | ⟨w, x, y, hw, hx, hy, rfl⟩ | ⟨x, y, z, hx, hy, hz, rfl⟩
    · refine ⟨[], by simp, fun k => ?_⟩
      rw [t_names_of, t_law_names]
      constructor
      · simp [fnR, rho0, m_names_of, wl.symm]
      · simp [fnR, rho0, m_law_names, wl.symm, sLoop_cons]
    · refine ⟨[⟨#[c]⟩], by simpa using hp n, fun k => ?_⟩
      rw [t_names_of, t_law_names]
      constructor
      · simp [fnR, rho0, m_names_of]
      · simp [fnR, rho0, m_law_names]
    · obtain ⟨n1, n2, n3, _⟩ := two_ne hw
      cases n with
      | zero => cases hx.1
      | succ n =>
        obtain ⟨xs, lx, q⟩ := r_names st n x (by omega) hx
        obtain ⟨ys, ly, p⟩ := r_names st n y (by omega) hy
        obtain ⟨ux, rfl⟩ := good_tup hx
        obtain ⟨uy, rfl⟩ := good_tup hy
        have big := pow_le (n := n) (by omega)
        have e1 := ext0 (xs := xs) (by omega)
        have e2 := ext1 (xs := xs) (ys := ys) (by omega)
        refine ⟨xs ++ ys, by rw [List.length_append, Nat.pow_succ]; omega, fun k => ?_⟩
        obtain ⟨q1, q2⟩ := q k
        obtain ⟨p1, p2⟩ := p k
        rw [t_names_of, t_law_names]
        constructor
        · simp [-List.map_append, fnR, rho0, m_names_of, n1, n2, sLoop_cons, show k + (n + 1) = k + n + 1 by omega, q1, p1, e1, e2]
        · simp [-List.map_append, fnR, rho0, m_law_names, n1, n2, sLoop_cons, show k + (n + 1) = k + n + 1 by omega, q2, p2, e1, e2]
    · cases n with
      | zero => cases hx.1
      | succ n =>
        obtain ⟨xs, lx, q⟩ := r_names st n x (by omega) hx
        obtain ⟨ys, ly, p⟩ := r_names st n y (by omega) hy
        obtain ⟨zs, lz, o⟩ := r_names st n z (by omega) hz
        obtain ⟨ux, rfl⟩ := good_tup hx
        obtain ⟨uy, rfl⟩ := good_tup hy
        obtain ⟨uz, rfl⟩ := good_tup hz
        have big := pow_le (n := n) (by omega)
        have e1 := ext0 (xs := xs) (by omega)
        have e2 := ext1 (xs := xs) (ys := ys) (by omega)
        have e3 := ext1 (xs := xs ++ ys) (ys := zs) (by rw [List.length_append]; omega)
        refine ⟨xs ++ ys ++ zs, by rw [List.length_append, List.length_append, Nat.pow_succ]; omega, fun k => ?_⟩
        obtain ⟨q1, q2⟩ := q k
        obtain ⟨p1, p2⟩ := p k
        obtain ⟨o1, o2⟩ := o k
        rw [t_names_of, t_law_names]
        constructor
        · simp [-List.map_append, -List.append_assoc, fnR, rho0, m_names_of, fw, fl, sLoop_cons, show k + (n + 1) = k + n + 1 by omega, q1, p1, o1, e1, e2, e3]
        · simp [-List.map_append, -List.append_assoc, fnR, rho0, m_law_names, fw, fl, sLoop_cons, show k + (n + 1) = k + n + 1 by omega, q2, p2, o2, e1, e2, e3]
theorem strs_map : ∀ xs : List Str, strsD (xs.map .str) = some xs
  | [] => rfl
  | x :: xs => by simp [strsD, strs_map xs]
theorem srt_ev {xs : List Str} (h : xs.length ≤ 1000) : srtD (.lst (xs.map .str)) = some (.fr ((srt xs).map .str)) := by
  simp only [srtD, strs_map, Option.bind_some, if_pos h]
/-! ### the same -/
theorem zip_self : ∀ xs : List D, zipTup xs xs = xs.map fun x => .tup [x, x]
  | [] => rfl
  | x :: xs => by simp [zipTup, zip_self xs]
theorem r_same_str (k : Nat) (x : Str) (st : Sto) : tbl dfs (k + 1) "_law_same" [.str x, .str x] st = .ok (.bl true) st := by
  rw [t_law_same]
  simp [fnR, rho0, m_law_same]
theorem r_same (k : Nat) (xs : List Str) (st : Sto) (hl : xs.length ≤ 1000) : tbl dfs (k + 2) "_law_same" [.tup (xs.map .str), .tup (xs.map .str)] st = .ok (.bl true) st := by
  rw [show k + 2 = k + 1 + 1 from rfl, t_law_same]
  have comp : cLoop (.tup [2, 3]) none (eCall (tbl dfs (k + 1)) "_law_same" [(eVar 2), (eVar 3)]) [some (.val (.tup (xs.map .str))), some (.val (.tup (xs.map .str))), none, none] (zipTup (xs.map .str) (xs.map .str)) st = .ok ((zipTup (xs.map .str) (xs.map .str)).map fun _ => .bl true) st := by
    refine cLoop_map _ _ fun d hd => ?_
    rw [zip_self] at hd
    obtain ⟨x, hx, rfl⟩ := List.mem_map.mp hd
    obtain ⟨s, _, rfl⟩ := List.mem_map.mp hx
    refine ⟨_, rfl, ?_⟩
    simp [cElt, r_same_str]
  have am := all_map (fun _ => true) (zipTup (xs.map .str) (xs.map .str))
  have hz : (zipTup (xs.map D.str) (xs.map D.str)).length ≤ sizeLine := by rw [zip_self]; simp; exact sz hl
  have at_ : (zipTup (xs.map D.str) (xs.map D.str)).all (fun _ => true) = true := by simp
  rw [at_] at am
  have E := comp_ok (st := st) (st1 := st) (rh := [some (.val (.tup (xs.map .str))), some (.val (.tup (xs.map .str))), none, none]) (vs := [2, 3]) (fi := iTwo zipD (eVar 0) (eVar 1)) (by simp) hz comp
  simp [-eComp_ev, fnR, rho0, m_law_same, E, am]
theorem insK_len (k : Str) : ∀ l : List Str, (insK k l).length ≤ l.length + 1
  | [] => by simp [insK]
  | y :: ys => by
    unfold insK
    split
    · simp
    · split
      · simp
      · have := insK_len k ys
        simp only [List.length_cons]
        omega
theorem srt_len (xs : List Str) : (srt xs).length ≤ xs.length := by
  have key : ∀ (xs acc : List Str), (xs.foldl (fun acc k => insK k acc) acc).length ≤ xs.length + acc.length := by
    intro xs
    induction xs with
    | nil => intro acc; simp
    | cons x xs ih =>
      intro acc
      have h1 := ih (insK x acc)
      have h2 := insK_len x acc
      simp only [List.foldl_cons, List.length_cons]
      omega
  have := key xs []
  unfold srt
  simpa using this
/-- the names that a rule tells are the law's -/
theorem r_namesin (d : D) (st : Sto) (h : GoodR 4 d) : ∃ xs : List Str, xs.length ≤ 1000 ∧ ∀ k, tbl dfs (k + 5) "names_in" [d] st = .ok (.tup ((srt xs).map .str)) st ∧ tbl dfs (k + 4) "_law_names" [d] st = .ok (.lst (xs.map .str)) st := by
  obtain ⟨xs, lx, q⟩ := r_names st 3 d (by decide) h
  have hl : xs.length ≤ 1000 := Nat.le_trans lx (by decide)
  refine ⟨xs, hl, fun k => ⟨?_, (q k).2⟩⟩
  rw [show k + 5 = k + 4 + 1 from rfl, t_names_in]
  have := (q k).1
  rw [show k + 3 + 1 = k + 4 from rfl] at this
  simp [fnR, rho0, m_names_in, this, srt_ev hl]
end KW

namespace KW
open PySem L2 KL KU

/-! ### looks at later asks -/
def rowS : List Str := ["BCDEa", "CDEab", "DEabc", "Eabca", "abcab"]
theorem six_ok : ∀ c ∈ ("ABCDE" : Str).cps.toList, ∃ i : Nat, i < 5 ∧ sixS "ABCDE" (.str ⟨#[c]⟩) = some (.d (.int i)) := by
  have key : ∀ c ∈ ("ABCDE" : Str).cps.toList, (match Builtin.Str.occurrences "ABCDE" ⟨#[c]⟩ 0 ("ABCDE" : Str).length 1 with
    | i :: _ => decide (i < 5)
    | [] => false) = true := by decide +kernel
  intro c hc
  have := key c hc
  generalize ho : Builtin.Str.occurrences "ABCDE" ⟨#[c]⟩ 0 ("ABCDE" : Str).length 1 = l at this
  cases l with
  | nil => cases this
  | cons i r =>
    refine ⟨i, of_decide_eq_true this, ?_⟩
    show dV (match Builtin.Str.occurrences "ABCDE" ⟨#[c]⟩ 0 ("ABCDE" : Str).length 1 with
      | i :: _ => some (.int (i : Nat))
      | [] => none) = _
    rw [ho]
    rfl
theorem row_ok : ∀ x ∈ rowS, x.cps.toList.length = 5 ∧ x.length ≤ 1000 ∧ ∀ c ∈ x.cps.toList, c ∈ ("abcABCDE" : Str).cps.toList := by decide +kernel
theorem r_later (st : Sto) : ∀ (n k : Nat) (j : Int) (d : D), (0 ≤ j ∧ j < 5) → GoodR (n + 1) d → ∃ d', tbl dfs (k + n + 1) "_law_later" [d, .int j] st = .ok d' st ∧ GoodR (n + 1) d'
  | n, k, j, d, hj, h => by
    rw [t_law_later]
    have add : ∀ (a : D) (bs : List D), bs.length ≤ 100 → binD .Add (.tup [a]) (.tup bs) = some (.d (.tup (a :: bs))) := fun a bs hb => bin_add_tup (small_add (by simp; omega))
    have hsz : ∀ n : Nat, n ≤ 100 → n ≤ sizeLine := fun n hn => by rw [sizeLine_eq]; omega
    rcases good_inv h with ⟨i, hi, rfl⟩ | ⟨c, hc, rfl⟩ | ⟨w, x, y, hw, hx, hy, rfl⟩ | ⟨x, y, z, hx, hy, hz, rfl⟩
    · refine ⟨_, ?_, h⟩
      simp [fnR, rho0, m_law_later, wl.symm, cLoop, cTest, cElt, add, hsz]
    · by_cases h5 : c ∈ ("ABCDE" : Str).cps.toList
      · obtain ⟨i, hi, e6⟩ := six_ok c h5
        obtain ⟨x, e1, hx⟩ := at_mem (xs := rowS.map D.str) (i := j) hj.1 (by simpa [rowS] using hj.2)
        obtain ⟨r, hr, rfl⟩ := List.mem_map.mp hx
        obtain ⟨r1, r2, r3⟩ := row_ok r hr
        obtain ⟨c2, e2, hc2⟩ := at_mem (xs := r.cps.toList) (i := (i : Int)) (by omega) (by omega)
        have ix := idx_str (i := (i : Int)) (short r2)
        rw [e2] at ix
        have io := in_one (x := ⟨#[c]⟩) (ns := "ABCDE") (c := c) rfl
        have h5' : c ∈ ("ABCDE" : Str).cps := by simpa using h5
        refine ⟨.tup [.str "look", .str ⟨#[c2]⟩], ?_, good_look (r3 c2 hc2)⟩
        simp only [rowS, List.map_cons, List.map_nil] at e1
        simp [fnR, rho0, m_law_later, io, h5', e1, e6, ix]
      · refine ⟨_, ?_, h⟩
        have io := in_one (x := ⟨#[c]⟩) (ns := "ABCDE") (c := c) rfl
        have h5' : c ∉ ("ABCDE" : Str).cps := by simpa using h5
        simp [fnR, rho0, m_law_later, io, h5', cLoop, cTest, cElt, add, hsz]
    · obtain ⟨n1, n2, n3, _⟩ := two_ne hw
      cases n with
      | zero => cases hx.1
      | succ n =>
        obtain ⟨x', q1, g1⟩ := r_later st n k j x hj hx
        obtain ⟨y', q2, g2⟩ := r_later st n k j y hj hy
        obtain ⟨ux, rfl⟩ := good_tup hx
        obtain ⟨uy, rfl⟩ := good_tup hy
        refine ⟨.tup [.str w, x', y'], ?_, good_pair hw g1 g2⟩
        simp [fnR, rho0, m_law_later, n2, cLoop, cTest, cElt, add, hsz, show k + (n + 1) = k + n + 1 by omega, q1, q2]
    · cases n with
      | zero => cases hx.1
      | succ n =>
        obtain ⟨x', q1, g1⟩ := r_later st n k j x hj hx
        obtain ⟨y', q2, g2⟩ := r_later st n k j y hj hy
        obtain ⟨z', q3, g3⟩ := r_later st n k j z hj hz
        obtain ⟨ux, rfl⟩ := good_tup hx
        obtain ⟨uy, rfl⟩ := good_tup hy
        obtain ⟨uz, rfl⟩ := good_tup hz
        refine ⟨.tup [.str "if", x', y', z'], ?_, good_three g1 g2 g3⟩
        simp [fnR, rho0, m_law_later, fl, cLoop, cTest, cElt, add, hsz, show k + (n + 1) = k + n + 1 by omega, q1, q2, q3]
end KW

namespace KW
open PySem L2 KL KU

theorem fine_mono {L : Nat} : ∀ {n m : Nat} {d : D}, n ≤ m → fineD L n d = true → fineD L m d = true
  | n, m, .int i, _, _ => by cases m <;> rfl
  | n, m, .non, _, _ => by cases m <;> rfl
  | n, m, .bl b, _, _ => by cases m <;> rfl
  | n, m, .str x, _, h => by cases n <;> cases m <;> exact h
  | 0, _, .tup ds, _, h => by cases h
  | 0, _, .lst ds, _, h => by cases h
  | n + 1, 0, _, h, _ => by omega
  | n + 1, m + 1, .tup ds, hl, h => by
    simp only [fineD, Bool.and_eq_true, decide_eq_true_eq, List.all_eq_true] at h ⊢
    exact ⟨h.1, fun d hd => fine_mono (by omega) (h.2 d hd)⟩
  | n + 1, m + 1, .lst ds, hl, h => by
    simp only [fineD, Bool.and_eq_true, decide_eq_true_eq, List.all_eq_true] at h ⊢
    exact ⟨h.1, fun d hd => fine_mono (by omega) (h.2 d hd)⟩
  | n, _, .loc _, _, h => by rw [fine_loc] at h; cases h
  | n, _, .scr _, _, h => by rw [fine_scr] at h; cases h
theorem fine_tup_of {L n : Nat} {ds : List D} (hl : ds.length ≤ L) (h : ∀ d ∈ ds, fineD L n d = true) : fineD L (n + 1) (.tup ds) = true := by
  simp only [fineD, Bool.and_eq_true, decide_eq_true_eq, List.all_eq_true]
  exact ⟨hl, h⟩
theorem fine_lst_of {L n : Nat} {ds : List D} (hl : ds.length ≤ L) (h : ∀ d ∈ ds, fineD L n d = true) : fineD L (n + 1) (.lst ds) = true := by
  simp only [fineD, Bool.and_eq_true, decide_eq_true_eq, List.all_eq_true]
  exact ⟨hl, h⟩
theorem fine_str_of {L n : Nat} {x : Str} (hl : x.length ≤ L) (h : PyData.strOk x = true) : fineD L n (.str x) = true := by
  cases n <;> simp [fineD, hl, h]
def strs7 (x : Str) : List Str := [x ++ "a", cutS x none (some (-1)), Txt.upper x, x ++ " ", Txt.mul x 2, x, x ++ cutS x none (some 1)]
theorem W7 : ∀ x ∈ W0, ∀ y ∈ strs7 x, y.length ≤ 24 ∧ PyData.strOk y = true := by decide +kernel
theorem rep2 {ds : List D} (h : ds.length ≤ 10000) : binD .Mult (.lst ds) (.int 2) = some (.fr (ds ++ ds)) := by
  have := bin_rep (ds := ds) (k := 2) ⟨by decide, by decide, h⟩
  rw [this]
  simp [List.replicate]
theorem add_lst {ds es : List D} (h : ds.length + es.length ≤ 1000000) : binD .Add (.lst ds) (.lst es) = some (.fr (ds ++ es)) := bin_add_lst (small_add h)
/-- one of the list is told -/
theorem odd_pick (k : Nat) (t a : Option Cell) (c : Int) (st : Sto) (l : List D) (hl : 0 < l.length) : ∃ x ∈ l, eIdx (eVar 3) (eCall (tbl dfs (k + 1)) "_law_mix" [(eVar 1), (eC (.int 9749)), (eB1 .len (eVar 3))]) [t, some (.val (.int c)), a, some (.val (.lst l))] st = .ok (.d x) st := by
  have m := r_mix k c 9749 l.length st (by decide) (by omega)
  have b := mixZ_lt c 9749 l.length (by omega)
  obtain ⟨x, e, hx⟩ := at_mem (xs := l) b.1 b.2
  refine ⟨x, hx, ?_⟩
  simp [m, e]
def some0 : List D := [.non, .bl true, .bl false, .int 0, .int 1, .int (-1), .int 2, .int 7, .int 10, .int 1000, .str "", .str "a", .str "A", .tup [], .tup [.str "a"], .lst [.int 1]]
theorem some0_fine (n : Nat) : ∀ x ∈ some0, fineD 100 (n + 2) x = true := by
  have : ∀ x ∈ some0, fineD 100 2 x = true := by decide +kernel
  exact fun x hx => fine_mono (by omega) (this x hx)
/-- the last part of _law_odd -/
def oddE (G : Tbl) : Ss := (sSeq (sAsg false 3 (eLst [(eC .non), (eC (.bl true)), (eC (.bl false)), (eC (.int 0)), (eC (.int 1)), (eNeg (eC (.int 1))), (eC (.int 2)), (eC (.int 7)), (eC (.int 10)), (eC (.int 1000)), (eC (.str "")), (eC (.str "a")), (eC (.str "A")), (eTup []), (eTup [(eC (.str "a"))]), (eLst [(eC (.int 1))])]))
  (sSeq (sIf (eTru (eIsi .tuple (eVar 0)))
  (sAsg false 3 (eBin .Add (eVar 3) (eBin .Mult (eLst [(eB1 .list (eVar 0)), (eBin .Add (eVar 0) (eSlc (eVar 0) (some (eNeg (eC (.int 1)))) none)), (eSlc (eVar 0) none (some (eNeg (eC (.int 1))))), (eRev (eVar 0)), (eSlc (eVar 0) (some (eC (.int 1))) none), (eTup [(eVar 0)])]) (eC (.int 2)))))
  (sIf (eTru (eIsi .str (eVar 0)))
  (sAsg false 3 (eBin .Add (eVar 3) (eBin .Mult (eLst [(eBin .Add (eVar 0) (eC (.str "a"))), (eSlc (eVar 0) none (some (eNeg (eC (.int 1))))), (eM_upper (eVar 0)), (eBin .Add (eVar 0) (eC (.str " "))), (eBin .Mult (eVar 0) (eC (.int 2))), (eLst [(eVar 0)]), (eBin .Add (eVar 0) (eSlc (eVar 0) none (some (eC (.int 1)))))]) (eC (.int 2)))))
  (sIf (eTru (eIsi .int (eVar 0)))
  (sAsg false 3 (eBin .Add (eVar 3) (eBin .Mult (eLst [(eBin .Add (eVar 0) (eC (.int 1))), (eBin .Sub (eVar 0) (eC (.int 1))), (eBin .Sub (eC (.int 0)) (eVar 0)), (eTup [(eVar 0)]), (eBin .Add (eVar 0) (eC (.int 2))), (eBin .Mult (eVar 0) (eC (.int 2)))]) (eC (.int 2)))))
  sNil)))
  (sRet (eIdx (eVar 3) (eCall G "_law_mix" [(eVar 1), (eC (.int 9749)), (eB1 .len (eVar 3))])))))
theorem odd_asg (G : Tbl) (t a b : Option Cell) (c : Int) (st : Sto) : (sAsg false 3 (eLst [(eC .non), (eC (.bl true)), (eC (.bl false)), (eC (.int 0)), (eC (.int 1)), (eNeg (eC (.int 1))), (eC (.int 2)), (eC (.int 7)), (eC (.int 10)), (eC (.int 1000)), (eC (.str "")), (eC (.str "a")), (eC (.str "A")), (eTup []), (eTup [(eC (.str "a"))]), (eLst [(eC (.int 1))])])) [t, some (.val (.int c)), a, b] st = .nx [t, some (.val (.int c)), a, some (.val (.lst some0))] st := rfl
theorem odd_end (k : Nat) (d : D) (a b : Option Cell) (c : Int) (st : Sto) {n : Nat} (ho : orig n d = true) : ∃ d', oddE (tbl dfs (k + 1)) [some (.val d), some (.val (.int c)), a, b] st = .rt d' st ∧ fineD 100 (n + 2) d' = true := by
  have hf := orig_fine (L := 5) (Nat.le_refl 5) ho
  -- the list that is told from, given what the tests lead to
  have fin : ∀ more : List D, (∀ x ∈ more, fineD 100 (n + 2) x = true) → more.length ≤ 1000 → (sIf (eTru (eIsi .tuple (eVar 0)))
  (sAsg false 3 (eBin .Add (eVar 3) (eBin .Mult (eLst [(eB1 .list (eVar 0)), (eBin .Add (eVar 0) (eSlc (eVar 0) (some (eNeg (eC (.int 1)))) none)), (eSlc (eVar 0) none (some (eNeg (eC (.int 1))))), (eRev (eVar 0)), (eSlc (eVar 0) (some (eC (.int 1))) none), (eTup [(eVar 0)])]) (eC (.int 2)))))
  (sIf (eTru (eIsi .str (eVar 0)))
  (sAsg false 3 (eBin .Add (eVar 3) (eBin .Mult (eLst [(eBin .Add (eVar 0) (eC (.str "a"))), (eSlc (eVar 0) none (some (eNeg (eC (.int 1))))), (eM_upper (eVar 0)), (eBin .Add (eVar 0) (eC (.str " "))), (eBin .Mult (eVar 0) (eC (.int 2))), (eLst [(eVar 0)]), (eBin .Add (eVar 0) (eSlc (eVar 0) none (some (eC (.int 1)))))]) (eC (.int 2)))))
  (sIf (eTru (eIsi .int (eVar 0)))
  (sAsg false 3 (eBin .Add (eVar 3) (eBin .Mult (eLst [(eBin .Add (eVar 0) (eC (.int 1))), (eBin .Sub (eVar 0) (eC (.int 1))), (eBin .Sub (eC (.int 0)) (eVar 0)), (eTup [(eVar 0)]), (eBin .Add (eVar 0) (eC (.int 2))), (eBin .Mult (eVar 0) (eC (.int 2)))]) (eC (.int 2)))))
  sNil))) [some (.val d), some (.val (.int c)), a, some (.val (.lst some0))] st = .nx [some (.val d), some (.val (.int c)), a, some (.val (.lst (some0 ++ (more ++ more))))] st → ∃ d', oddE (tbl dfs (k + 1)) [some (.val d), some (.val (.int c)), a, b] st = .rt d' st ∧ fineD 100 (n + 2) d' = true := by
    intro more hm hl e
    obtain ⟨x, hx, q⟩ := odd_pick k (some (.val d)) a c st (some0 ++ (more ++ more)) (by simp [some0])
    refine ⟨x, ?_, ?_⟩
    · unfold oddE
      rw [sSeq_ev, odd_asg (tbl dfs (k + 1)), onN_nx, sSeq_ev, e, onN_nx, sRet_ev, q, onR_ok, ret_d]
    · rcases List.mem_append.mp hx with h | h
      · exact some0_fine n x h
      · rcases List.mem_append.mp h with h | h <;> exact hm x h
  have s0l : some0.length = 16 := by decide
  cases d with
  | int i =>
    refine fin [.int (i + 1), .int (i - 1), .int (0 - i), .tup [.int i], .int (i + 2), .int (i * 2)] ?_ (by simp) ?_
    · have hi : ∀ (m : Nat) (j : Int), fineD 100 m (.int j) = true := fun m j => by cases m <;> rfl
      intro x hx
      simp only [List.mem_cons, List.not_mem_nil, or_false] at hx
      rcases hx with rfl | rfl | rfl | rfl | rfl | rfl <;> first | exact hi _ _ | exact fine_tup_of (by simp) (by simp [hi])
    · have r2 := rep2 (ds := [.int (i + 1), .int (i - 1), .int (0 - i), .tup [.int i], .int (i + 2), .int (i * 2)]) (by simp)
      have a2 := add_lst (ds := some0) (es := [.int (i + 1), .int (i - 1), .int (0 - i), .tup [.int i], .int (i + 2), .int (i * 2)] ++ [.int (i + 1), .int (i - 1), .int (0 - i), .tup [.int i], .int (i + 2), .int (i * 2)]) (by simp [s0l])
      have mu := bin_mul_r (i := i) (j := 2) (by decide)
      simp only [Int.zero_sub] at r2 a2 ⊢
      simp at a2
      simp [mu, r2]
      simp [a2]
  | str x =>
    have hx : x ∈ W0 := by cases n <;> simpa [orig] using ho
    have w7 := W7 x hx
    have l7 := (W0_ok x hx).1
    have f7 : ∀ (m : Nat) (y : Str), y ∈ strs7 x → fineD 100 m (.str y) = true := fun m y hy => fine_str_of (Nat.le_trans (w7 y hy).1 (by decide)) (w7 y hy).2
    refine fin [.str (x ++ "a"), .str (cutS x none (some (-1))), .str (Txt.upper x), .str (x ++ " "), .str (Txt.mul x 2), .lst [.str x], .str (x ++ cutS x none (some 1))] ?_ (by simp) ?_
    · intro y hy
      simp only [List.mem_cons, List.not_mem_nil, or_false] at hy
      rcases hy with rfl | rfl | rfl | rfl | rfl | rfl | rfl <;> first | exact f7 _ _ (by simp [strs7]) | exact fine_lst_of (by simp) (by intro d hd; rw [List.mem_singleton.mp hd]; exact f7 _ _ (by simp [strs7]))
    · have hsx : x.length ≤ sizeLine := sz (by omega)
      have la : ("a" : Str).length = 1 := by decide
      have lb : (" " : Str).length = 1 := by decide
      have b1 := bin_add_str (x := x) (y := "a") (small_add (by omega))
      have b2 := bin_add_str (x := x) (y := " ") (small_add (by omega))
      have lc : (cutS x none (some 1)).length ≤ 5 := by
        have : ∀ x ∈ W0, (cutS x none (some 1)).length ≤ 5 := by decide +kernel
        exact this x hx
      have b3 := bin_add_str (x := x) (y := cutS x none (some 1)) (small_add (by omega))
      have s1 := slc_str none (some (-1)) hsx
      have s2 := slc_str none (some 1) hsx
      have up : uppD (.str x) = some (.str (Txt.upper x)) := by simp only [uppD]; rw [if_pos (by omega)]
      have ml := bin_repS (x := x) (k := 2) (by omega)
      have r2 := rep2 (ds := [.str (x ++ "a"), .str (cutS x none (some (-1))), .str (Txt.upper x), .str (x ++ " "), .str (Txt.mul x 2), .lst [.str x], .str (x ++ cutS x none (some 1))]) (by simp)
      have a2 := add_lst (ds := some0) (es := [.str (x ++ "a"), .str (cutS x none (some (-1))), .str (Txt.upper x), .str (x ++ " "), .str (Txt.mul x 2), .lst [.str x], .str (x ++ cutS x none (some 1))] ++ [.str (x ++ "a"), .str (cutS x none (some (-1))), .str (Txt.upper x), .str (x ++ " "), .str (Txt.mul x 2), .lst [.str x], .str (x ++ cutS x none (some 1))]) (by simp [s0l])
      simp at a2
      simp [b1, b2, b3, s1, s2, up, ml, r2]
      simp [a2]
  | tup ds =>
    obtain ⟨m, rfl, hl, hs⟩ := fine_tup hf
    have hs' : ∀ d ∈ ds, fineD 100 m d = true := by
      have := orig_fine (L := 100) (by decide) ho
      obtain ⟨m', e, _, h2⟩ := fine_tup this
      cases e
      exact h2
    have ft : fineD 100 (m + 1) (.tup ds) = true := fine_tup_of (by omega) hs'
    refine fin [.lst ds, .tup (ds ++ ds.drop (ds.length - 1)), .tup (ds.take (ds.length - 1)), .tup ds.reverse, .tup (ds.drop 1), .tup [.tup ds]] ?_ (by simp) ?_
    · intro y hy
      simp only [List.mem_cons, List.not_mem_nil, or_false] at hy
      rcases hy with rfl | rfl | rfl | rfl | rfl | rfl
      · exact fine_mono (n := m + 1) (by omega) (fine_lst_of (by omega) hs')
      · refine fine_mono (n := m + 1) (by omega) (fine_tup_of (by simp; omega) fun d hd => ?_)
        rcases List.mem_append.mp hd with h | h
        · exact hs' d h
        · exact hs' d (List.mem_of_mem_drop h)
      · exact fine_mono (n := m + 1) (by omega) (fine_tup_of (by simp; omega) fun d hd => hs' d (List.mem_of_mem_take hd))
      · exact fine_mono (n := m + 1) (by omega) (fine_tup_of (by simp; omega) fun d hd => hs' d (List.mem_reverse.mp hd))
      · exact fine_mono (n := m + 1) (by omega) (fine_tup_of (by simp; omega) fun d hd => hs' d (List.mem_of_mem_drop hd))
      · exact fine_mono (n := m + 2) (by omega) (fine_tup_of (by simp) fun d hd => by rw [List.mem_singleton.mp hd]; exact ft)
    · have b1 := bin_add_tup (ds := ds) (es := ds.drop (ds.length - 1)) (small_add (by simp; omega))
      have r2 := rep2 (ds := [.lst ds, .tup (ds ++ ds.drop (ds.length - 1)), .tup (ds.take (ds.length - 1)), .tup ds.reverse, .tup (ds.drop 1), .tup [.tup ds]]) (by simp)
      have a2 := add_lst (ds := some0) (es := [.lst ds, .tup (ds ++ ds.drop (ds.length - 1)), .tup (ds.take (ds.length - 1)), .tup ds.reverse, .tup (ds.drop 1), .tup [.tup ds]] ++ [.lst ds, .tup (ds ++ ds.drop (ds.length - 1)), .tup (ds.take (ds.length - 1)), .tup ds.reverse, .tup (ds.drop 1), .tup [.tup ds]]) (by simp [s0l])
      simp [-List.drop_one] at a2 r2
      simp [-List.drop_one, b1, r2]
      simp [-List.drop_one, a2]
  | _ => cases n <;> cases ho
/-- a part changed: something fine is told -/
theorem r_odd (st : Sto) : ∀ (n k : Nat) (c : Int) (d : D), n ≤ 20 → orig n d = true → ∃ d', tbl dfs (k + n + 2) "_law_odd" [d, .int c] st = .ok d' st ∧ fineD 100 (n + 2) d' = true
  | n, k, c, d, hn, ho => by
    rw [show k + n + 2 = k + n + 1 + 1 from rfl, t_law_odd]
    have m1 := r_mix (k + n) c 9781 5 st (by decide) (by decide)
    have hf := orig_fine (L := 100) (by decide) ho
    -- the first test is not met
    have second : ∀ r1, (sIf (eAnd (eTru (eIsi .tuple (eVar 0))) (eAnd (eCmp .NotEq (eVar 0) (eTup [])) (eCmp .Gt (eCall (tbl dfs (k + n + 1)) "_law_mix" [(eVar 1), (eC (.int 9781)), (eC (.int 5))]) (eC (.int 0)))))
  (sSeq (sAsg false 2 (eCall (tbl dfs (k + n + 1)) "_law_mix" [(eVar 1), (eC (.int 9769)), (eB1 .len (eVar 0))]))
  (sRet (eBin .Add (eBin .Add (eSlc (eVar 0) none (some (eVar 2))) (eTup [(eCall (tbl dfs (k + n + 1)) "_law_odd" [(eIdx (eVar 0) (eVar 2)), (eBin .Add (eBin .Add (eVar 1) (eBin .Mult (eC (.int 31)) (eVar 2))) (eC (.int 7)))])])) (eSlc (eVar 0) (some (eBin .Add (eVar 2) (eC (.int 1)))) none))))
  sNil) [some (.val d), some (.val (.int c)), none, none] st = r1 → r1 = .nx [some (.val d), some (.val (.int c)), none, none] st → ∃ d', fnR 4 (m_law_odd (tbl dfs (k + n + 1))) [d, .int c] st = .ok d' st ∧ fineD 100 (n + 2) d' = true := by
      intro r1 h1 h2
      obtain ⟨d', q, f⟩ := odd_end (k + n) d none none c st ho
      refine ⟨d', ?_, f⟩
      show fin st.length (onN (sIf _ _ _ [some (.val d), some (.val (.int c)), none, none] st) (oddE (tbl dfs (k + n + 1)))) = _
      rw [h1, h2, onN_nx, q, fin_rt, cut_same]
    by_cases ht : ∃ ds, d = .tup ds
    · obtain ⟨ds, rfl⟩ := ht
      have ne := ne_nil_tup hf (by omega)
      obtain ⟨m, rfl, hl, hs⟩ := fine_tup hf
      have ho' : ds.length ≤ 5 ∧ ∀ d ∈ ds, orig m d = true := by simpa [orig] using ho
      by_cases hz : ds = [] ∨ ¬ (0 < mixZ c 9781 5)
      · refine second _ rfl ?_
        rcases hz with rfl | hz
        · simp [ne]
        · cases ds with
          | nil => simp [ne]
          | cons a r => simp [ne, m1, hz]
      · rw [not_or, Classical.not_not] at hz
        obtain ⟨h1, h2⟩ := hz
        have hpos : 0 < ds.length := List.length_pos_iff.mpr h1
        have m2 := r_mix (k + (m + 1)) c 9769 ds.length st (by decide) (by omega)
        have b2 := mixZ_lt c 9769 ds.length (by omega)
        generalize mixZ c 9769 ds.length = at_ at m2 b2
        obtain ⟨j, rfl⟩ : ∃ j : Nat, at_ = j := ⟨at_.toNat, by omega⟩
        have hj : j < ds.length := by omega
        obtain ⟨d', q, f⟩ := r_odd st m k (c + 31 * j + 7) ds[j] (by omega) (ho'.2 _ (List.getElem_mem hj))
        rw [show k + m + 2 = k + (m + 1) + 1 by omega] at q
        have ix : atI ds (j : Int) = some ds[j] := by rw [at_nat, List.getElem?_eq_getElem hj]
        have c1 := cut_to ds j
        have c2 : cutD ds (some ((j : Int) + 1)) none = ds.drop (j + 1) := cut_from ds (j + 1)
        have mu := bin_mul_l (i := 31) (j := (j : Int)) (by decide)
        have a1 := bin_add_tup (ds := ds.take j) (es := [d']) (small_add (by simp; omega))
        have a2 := bin_add_tup (ds := ds.take j ++ [d']) (es := ds.drop (j + 1)) (small_add (by simp; omega))
        refine ⟨.tup (ds.take j ++ [d'] ++ ds.drop (j + 1)), ?_, ?_⟩
        · have emp : ds.isEmpty = false := by cases ds with
            | nil => exact absurd rfl h1
            | cons _ _ => rfl
          have v := fine_view (hs ds[j] (List.getElem_mem hj))
          simp [-List.append_assoc, fnR, rho0, m_law_odd, ne, emp, m1, h2, m2, ix, c1, c2, mu, q, a1, a2]
        · refine fine_tup_of (by simp; omega) fun d hd => ?_
          rcases List.mem_append.mp hd with hd | hd
          · rcases List.mem_append.mp hd with hd | hd
            · exact fine_mono (by omega) (hs d (List.mem_of_mem_take hd))
            · rw [List.mem_singleton.mp hd]; exact f
          · exact fine_mono (by omega) (hs d (List.mem_of_mem_drop hd))
    · refine second _ rfl ?_
      cases d with
      | tup ds => exact absurd ⟨ds, rfl⟩ ht
      | int i => simp
      | str x => simp
      | _ => cases n <;> cases ho
end KW

namespace KW
open PySem L2 KL KU

/-! ### a drawn book -/
def GoodE (d : D) : Prop := ∃ x r, d = .tup [.str x, r] ∧ W0.contains x = true ∧ GoodR 4 r
def bkB (G : Tbl) : Ss := (sIf (eCmp .Gt (eCall G "_law_mix" [(eBin .Add (eVar 0) (eBin .Mult (eC (.int 17)) (eVar 2))), (eC (.int 9929)), (eC (.int 6))]) (eC (.int 0)))
  (sSeq (sAsg false 4 (eCall G "_law_rule" [(eBin .Add (eBin .Add (eVar 0) (eBin .Mult (eC (.int 31)) (eVar 2))) (eC (.int 1))), (eC (.int 4))]))
  (sSeq (sIf (eCmp .Gt (eCall G "_law_mix" [(eVar 0), (eC (.int 9923)), (eC (.int 3))]) (eC (.int 0)))
  (sAsg false 4 (eCall G "_law_later" [(eVar 4), (eVar 2)]))
  sNil)
  (sApp (eVar 1) (eTup [(eVar 3), (eVar 4)]))))
  sNil)
theorem bk_step (k : Nat) (c : Int) (i : Int) (x : Str) (fs : List D) (e4 : Option Cell) (st : Sto) (hi : 0 ≤ i ∧ i < 5) (hx : W0.contains x = true) (hl : fs.length ≤ 1000) :
    ∃ e4', bkB (tbl dfs (k + 5)) [some (.val (.int c)), some (.own fs), some (.val (.int i)), some (.val (.str x)), e4] st = .nx [some (.val (.int c)), some (.own fs), some (.val (.int i)), some (.val (.str x)), e4'] st ∨
      ∃ d, GoodE d ∧ bkB (tbl dfs (k + 5)) [some (.val (.int c)), some (.own fs), some (.val (.int i)), some (.val (.str x)), e4] st = .nx [some (.val (.int c)), some (.own (fs ++ [d])), some (.val (.int i)), some (.val (.str x)), e4'] st := by
  have m1 := r_mix (k + 4) (c + 17 * i) 9929 6 st (by decide) (by decide)
  have m2 := r_mix (k + 4) c 9923 3 st (by decide) (by decide)
  have mu1 := bin_mul_l (i := 17) (j := i) (by decide)
  have mu2 := bin_mul_l (i := 31) (j := i) (by decide)
  rw [show k + 4 + 1 = k + 5 from rfl] at m1 m2
  by_cases h1 : 0 < mixZ (c + 17 * i) 9929 6
  · obtain ⟨r, q1, g1⟩ := r_lawrule st 3 k (c + 31 * i + 1) 4 (by decide)
    obtain ⟨r', q2, g2⟩ := r_later st 3 (k + 1) i r hi g1
    rw [show k + 3 + 2 = k + 5 from rfl] at q1
    rw [show k + 1 + 3 + 1 = k + 5 from rfl] at q2
    have ap : ∀ d, appD d fs = some (fs ++ [d]) := fun d => app_ev (by rw [sizeLine_eq]; omega)
    by_cases h2 : 0 < mixZ c 9923 3
    · refine ⟨some (.val r'), .inr ⟨.tup [.str x, r'], ⟨x, r', rfl, hx, g2⟩, ?_⟩⟩
      simp [bkB, mu1, m1, h1, mu2, q1, m2, h2, q2, ap]
    · refine ⟨some (.val r), .inr ⟨.tup [.str x, r], ⟨x, r, rfl, hx, g1⟩, ?_⟩⟩
      simp [bkB, mu1, m1, h1, mu2, q1, m2, h2, ap]
  · refine ⟨e4, .inl ?_⟩
    simp [bkB, mu1, m1, h1]
theorem bk_loop (k : Nat) (c : Int) (st : Sto) : ∀ (ps : List (Int × Str)) (fs : List D) (e2 e3 e4 : Option Cell), (∀ p ∈ ps, (0 ≤ p.1 ∧ p.1 < 5) ∧ W0.contains p.2 = true) → (∀ f ∈ fs, GoodE f) → fs.length + ps.length ≤ 5 →
    ∃ fs' e2' e3' e4', fs'.length ≤ 5 ∧ (∀ f ∈ fs', GoodE f) ∧ sLoop (.tup [2, 3]) (bkB (tbl dfs (k + 5))) (ps.map fun p => .tup [.int p.1, .str p.2]) [some (.val (.int c)), some (.own fs), e2, e3, e4] st = .nx [some (.val (.int c)), some (.own fs'), e2', e3', e4'] st
  | [], fs, e2, e3, e4, _, hf, hl => ⟨fs, e2, e3, e4, by simpa using hl, hf, rfl⟩
  | p :: ps, fs, e2, e3, e4, hp, hf, hl => by
    simp only [List.length_cons] at hl
    obtain ⟨h1, h2⟩ := hp p List.mem_cons_self
    obtain ⟨e4', s⟩ := bk_step k c p.1 p.2 fs e4 st h1 h2 (by omega)
    have e0 : sLoop (.tup [2, 3]) (bkB (tbl dfs (k + 5))) ((p :: ps).map fun p => .tup [.int p.1, .str p.2]) [some (.val (.int c)), some (.own fs), e2, e3, e4] st = (match bkB (tbl dfs (k + 5)) [some (.val (.int c)), some (.own fs), some (.val (.int p.1)), some (.val (.str p.2)), e4] st with
      | .nx rh2 st2 => sLoop (.tup [2, 3]) (bkB (tbl dfs (k + 5))) (ps.map fun p => .tup [.int p.1, .str p.2]) rh2 st2
      | .ct rh2 st2 => sLoop (.tup [2, 3]) (bkB (tbl dfs (k + 5))) (ps.map fun p => .tup [.int p.1, .str p.2]) rh2 st2
      | .bk rh2 st2 => .nx rh2 st2
      | r => r) := rfl
    rw [e0]
    rcases s with s | ⟨d, gd, s⟩
    · rw [s]
      exact bk_loop k c st ps fs _ _ _ (fun q hq => hp q (List.mem_cons_of_mem _ hq)) hf (by omega)
    · rw [s]
      refine bk_loop k c st ps (fs ++ [d]) _ _ _ (fun q hq => hp q (List.mem_cons_of_mem _ hq)) (fun f hf' => ?_) (by simp; omega)
      rcases List.mem_append.mp hf' with h | h
      · exact hf f h
      · rw [List.mem_singleton.mp h]; exact gd
def ps5 : List (Int × Str) := [(0, "A"), (1, "B"), (2, "C"), (3, "D"), (4, "E")]
theorem enm5 : numFrom 0 (signs "ABCDE") = ps5.map fun p => .tup [.int p.1, .str p.2] := by kernel_rfl
theorem r_lawbook (k : Nat) (c : Int) (st : Sto) : ∃ es, es.length ≤ 5 ∧ (∀ e ∈ es, GoodE e) ∧ tbl dfs (k + 6) "_law_book" [.int c] st = .ok (.tup es) st := by
  rw [show k + 6 = k + 5 + 1 from rfl, t_law_book]
  obtain ⟨fs, e2, e3, e4, h1, h2, q⟩ := bk_loop k c st ps5 [] none none none (by decide +kernel) (by simp) (by decide)
  refine ⟨fs, h1, h2, ?_⟩
  have e0 : fnR 5 (m_law_book (tbl dfs (k + 5))) [.int c] st = fin st.length (onN (sLoop (.tup [2, 3]) (bkB (tbl dfs (k + 5))) (numFrom 0 (signs "ABCDE")) [some (.val (.int c)), some (.own []), none, none, none] st) (sRet (eB1 .tuple (eVar 1)))) := rfl
  rw [e0, enm5, q]
  simp
theorem goodE_orig {d : D} (h : GoodE d) : orig 5 d = true := by
  obtain ⟨x, r, rfl, hx, hr⟩ := h
  have h2 := orig_mono (m := 4) (by decide) hr.2
  have h3 : orig 4 (.str x) = true := orig_w hx
  have hx' : x ∈ W0 := by simpa using hx
  simp [orig, h2, hx']
theorem book_orig {es : List D} (hl : es.length ≤ 5) (h : ∀ e ∈ es, GoodE e) : orig 6 (.tup es) = true := by
  simp only [orig, Bool.and_eq_true, decide_eq_true_eq, List.all_eq_true]
  exact ⟨hl, fun d hd => goodE_orig (h d hd)⟩
/-! ### the parts of the law -/
abbrev G : Tbl := tbl dfs 39
def Fs (ds : List D) : Prop := ∀ d ∈ ds, fineD 100 9 d = true
theorem Fs.app {a b : List D} (ha : Fs a) (hb : Fs b) : Fs (a ++ b) := fun d hd => (List.mem_append.mp hd).elim (ha d) (hb d)
def b5 : Ss := (sSeq (sIf (eNot (eTru (eCall G "_law_same" [(eCall G "names_in" [(eVar 6)]), (eB1 .tuple (eSortSet (eCall G "_law_names" [(eVar 6)])))])))
  (sRet (eC (.bl false)))
  sNil)
  (sSeq (sAsg true 4 (eBin .Add (eVar 4) (eLst [(eVar 6), (eB1 .list (eVar 6)), (eTup [(eC (.str "plus")), (eVar 6), (eVar 6)]), (eTup [(eC (.str "minus")), (eVar 6), (eVar 6)])])))
  (sSeq (sApp (eVar 4) (eTup [(eC (.str "if")), (eTup [(eC (.str "worth")), (eC (.int 1))]), (eVar 6), (eTup [(eC (.str "look")), (eC (.str "a"))])]))
  (sApp (eVar 4) (eCall G "_law_odd" [(eVar 6), (eBin .Add (eCall G "_law_cell" [(eVar 0), (eC (.int 8))]) (eBin .Mult (eC (.int 7)) (eVar 1)))])))))
theorem step5 (ns : List Int) (j : Int) (hj : 0 ≤ j ∧ j < 8) (v2 v3 v5 v7 v8 v9 v10 v11 : Option Cell) (rs : List D) (r : D) (st : Sto) (hr : GoodR 4 r) (hl : rs.length ≤ 1000) (hf : Fs rs) :
    ∃ rs', Fs rs' ∧ rs'.length = rs.length + 6 ∧ b5 [some (.val (.scr ns)), some (.val (.int j)), v2, v3, some (.own rs), v5, some (.val r), v7, v8, v9, v10, v11] st = .nx [some (.val (.scr ns)), some (.val (.int j)), v2, v3, some (.own rs'), v5, some (.val r), v7, v8, v9, v10, v11] st := by
  obtain ⟨xs, lx, q⟩ := r_namesin r st hr
  have q1 : G "names_in" [r] st = .ok (.tup ((srt xs).map .str)) st := (q 34).1
  have q2 : G "_law_names" [r] st = .ok (.lst (xs.map .str)) st := (q 35).2
  have sa : G "_law_same" [.tup ((srt xs).map .str), .tup ((srt xs).map .str)] st = .ok (.bl true) st := r_same 37 (srt xs) st (Nat.le_trans (srt_len xs) lx)
  have sv := srt_ev lx
  obtain ⟨c, qc⟩ := r_cell 38 ns 8 st (by decide)
  have qc : G "_law_cell" [.scr ns, .int 8] st = .ok (.int c) st := qc
  have mu := bin_mul_l (i := 7) (j := j) (by decide)
  obtain ⟨o, qo, fo⟩ := r_odd st 4 33 (c + 7 * j) r (by decide) hr.2
  have qo : G "_law_odd" [r, .int (c + 7 * j)] st = .ok o st := qo
  obtain ⟨us, rfl⟩ := good_tup hr
  have fr := orig_fine (L := 100) (by decide) hr.2
  have ad := add_lst (ds := rs) (es := [.tup us, .lst us, .tup [.str "plus", .tup us, .tup us], .tup [.str "minus", .tup us, .tup us]]) (by simp; omega)
  have a1 : ∀ d (l : List D), l.length ≤ 2000 → appD d l = some (l ++ [d]) := fun d l h => app_ev (by rw [sizeLine_eq]; omega)
  refine ⟨rs ++ [.tup us, .lst us, .tup [.str "plus", .tup us, .tup us], .tup [.str "minus", .tup us, .tup us]] ++ [.tup [.str "if", .tup [.str "worth", .int 1], .tup us, .tup [.str "look", .str "a"]]] ++ [o], ?_, by simp, ?_⟩
  · have f4 : fineD 100 8 (.tup us) = true := fine_mono (by decide) fr
    have fs1 : fineD 100 8 (.str "plus") = true ∧ fineD 100 8 (.str "minus") = true ∧ fineD 100 8 (.str "if") = true := by decide +kernel
    have fw : fineD 100 8 (.tup [.str "worth", .int 1]) = true ∧ fineD 100 8 (.tup [.str "look", .str "a"]) = true := by decide +kernel
    refine ((hf.app ?_).app ?_).app ?_
    · intro d hd
      simp only [List.mem_cons, List.not_mem_nil, or_false] at hd
      rcases hd with rfl | rfl | rfl | rfl
      · exact fine_mono (by decide) f4
      · obtain ⟨m, e, h1, h2⟩ := fine_tup fr
        cases e
        exact fine_mono (n := 4) (by decide) (fine_lst_of h1 h2)
      · exact fine_tup_of (by simp) (by intro d hd; simp only [List.mem_cons, List.not_mem_nil, or_false] at hd; rcases hd with rfl | rfl | rfl <;> first | exact f4 | exact fs1.1 | exact fs1.2.1)
      · exact fine_tup_of (by simp) (by intro d hd; simp only [List.mem_cons, List.not_mem_nil, or_false] at hd; rcases hd with rfl | rfl | rfl <;> first | exact f4 | exact fs1.1 | exact fs1.2.1)
    · intro d hd
      rw [List.mem_singleton.mp hd]
      exact fine_tup_of (by simp) (by intro d hd; simp only [List.mem_cons, List.not_mem_nil, or_false] at hd; rcases hd with rfl | rfl | rfl | rfl <;> first | exact f4 | exact fs1.2.2 | exact fw.1 | exact fw.2)
    · intro d hd
      rw [List.mem_singleton.mp hd]
      exact fine_mono (by decide) fo
  · have l1 := a1 (.tup [.str "if", .tup [.str "worth", .int 1], .tup us, .tup [.str "look", .str "a"]]) (rs ++ [.tup us, .lst us, .tup [.str "plus", .tup us, .tup us], .tup [.str "minus", .tup us, .tup us]]) (by simp; omega)
    have l2 := a1 o (rs ++ [.tup us, .lst us, .tup [.str "plus", .tup us, .tup us], .tup [.str "minus", .tup us, .tup us]] ++ [.tup [.str "if", .tup [.str "worth", .int 1], .tup us, .tup [.str "look", .str "a"]]]) (by simp; omega)
    simp [-List.append_assoc, -List.cons_append, b5, q1, q2, sv, sa, ad, l1, qc, mu, qo, l2]
end KW

namespace KW
open PySem L2 KL KU

theorem sLoop_nx {tg : Tg} {body : Ss} {d : D} {ds : List D} {rh rh1 rh2 : Rho} {st st2 : Sto} (h1 : tgSet tg d rh = some rh1) (h2 : body rh1 st = .nx rh2 st2) : sLoop tg body (d :: ds) rh st = sLoop tg body ds rh2 st2 := by
  rw [sLoop_cons, h1]
  simp only [h2]
theorem loop5 (ns : List Int) (j : Int) (hj : 0 ≤ j ∧ j < 8) (v2 v3 v7 v8 v9 v10 v11 : Option Cell) (st : Sto) : ∀ (es rs : List D) (v5 v6 : Option Cell), (∀ e ∈ es, GoodE e) → rs.length + 6 * es.length ≤ 1000 → Fs rs →
    ∃ rs' v5' v6', Fs rs' ∧ rs'.length ≤ 1000 ∧ sLoop (.tup [5, 6]) b5 es [some (.val (.scr ns)), some (.val (.int j)), v2, v3, some (.own rs), v5, v6, v7, v8, v9, v10, v11] st = .nx [some (.val (.scr ns)), some (.val (.int j)), v2, v3, some (.own rs'), v5', v6', v7, v8, v9, v10, v11] st
  | [], rs, v5, v6, _, hl, hf => ⟨rs, v5, v6, hf, by simpa using hl, rfl⟩
  | e :: es, rs, v5, v6, he, hl, hf => by
    simp only [List.length_cons] at hl
    obtain ⟨x, r, rfl, hx, hr⟩ := he e List.mem_cons_self
    obtain ⟨rs1, f1, l1, q⟩ := step5 ns j hj v2 v3 (some (.val (.str x))) v7 v8 v9 v10 v11 rs r st hr (by omega) hf
    obtain ⟨rs2, a, b, f2, l2, q2⟩ := loop5 ns j hj v2 v3 v7 v8 v9 v10 v11 st es rs1 (some (.val (.str x))) (some (.val r)) (fun e h => he e (List.mem_cons_of_mem _ h)) (by omega) f1
    refine ⟨rs2, a, b, f2, l2, ?_⟩
    rw [sLoop_nx (rh1 := [some (.val (.scr ns)), some (.val (.int j)), v2, v3, some (.own rs), some (.val (.str x)), some (.val r), v7, v8, v9, v10, v11]) rfl q]
    exact q2
def b6 : Ss := (sApp (eVar 3) (eCall G "_law_odd" [(eVar 2), (eBin .Add (eBin .Add (eCall G "_law_cell" [(eVar 0), (eC (.int 9))]) (eBin .Mult (eC (.int 17)) (eVar 7))) (eBin .Mult (eC (.int 5)) (eVar 1)))]))
theorem step6 (ns : List Int) (j i : Int) (bk : D) (hb : orig 6 bk = true) (v4 v5 v6 v8 v9 v10 v11 : Option Cell) (ss : List D) (st : Sto) (hl : ss.length ≤ 1000) (hf : Fs ss) :
    ∃ o, fineD 100 9 o = true ∧ b6 [some (.val (.scr ns)), some (.val (.int j)), some (.val bk), some (.own ss), v4, v5, v6, some (.val (.int i)), v8, v9, v10, v11] st = .nx [some (.val (.scr ns)), some (.val (.int j)), some (.val bk), some (.own (ss ++ [o])), v4, v5, v6, some (.val (.int i)), v8, v9, v10, v11] st := by
  obtain ⟨c, qc⟩ := r_cell 38 ns 9 st (by decide)
  have qc : G "_law_cell" [.scr ns, .int 9] st = .ok (.int c) st := qc
  have mu := bin_mul_l (i := 17) (j := i) (by decide)
  have mu2 := bin_mul_l (i := 5) (j := j) (by decide)
  obtain ⟨o, qo, fo⟩ := r_odd st 6 31 (c + 17 * i + 5 * j) bk (by decide) hb
  have qo : G "_law_odd" [bk, .int (c + 17 * i + 5 * j)] st = .ok o st := qo
  have a1 : ∀ d (l : List D), l.length ≤ 2000 → appD d l = some (l ++ [d]) := fun d l h => app_ev (by rw [sizeLine_eq]; omega)
  refine ⟨o, fine_mono (by decide) fo, ?_⟩
  simp [b6, qc, mu, mu2, qo, a1 o ss (by omega)]
theorem loop6 (ns : List Int) (j : Int) (bk : D) (hb : orig 6 bk = true) (v4 v5 v6 v8 v9 v10 v11 : Option Cell) (st : Sto) : ∀ (is : List Int) (ss : List D) (v7 : Option Cell), ss.length + is.length ≤ 1000 → Fs ss →
    ∃ ss' v7', Fs ss' ∧ ss'.length ≤ 1000 ∧ sLoop (.name 7) b6 (is.map .int) [some (.val (.scr ns)), some (.val (.int j)), some (.val bk), some (.own ss), v4, v5, v6, v7, v8, v9, v10, v11] st = .nx [some (.val (.scr ns)), some (.val (.int j)), some (.val bk), some (.own ss'), v4, v5, v6, v7', v8, v9, v10, v11] st
  | [], ss, v7, hl, hf => ⟨ss, v7, hf, by simpa using hl, rfl⟩
  | i :: is, ss, v7, hl, hf => by
    simp only [List.length_cons] at hl
    obtain ⟨o, fo, q⟩ := step6 ns j i bk hb v4 v5 v6 v8 v9 v10 v11 ss st (by omega) hf
    obtain ⟨ss2, a, f2, l2, q2⟩ := loop6 ns j bk hb v4 v5 v6 v8 v9 v10 v11 st is (ss ++ [o]) (some (.val (.int i))) (by simp; omega) (hf.app (by intro d hd; rw [List.mem_singleton.mp hd]; exact fo))
    refine ⟨ss2, a, f2, l2, ?_⟩
    rw [List.map_cons, sLoop_nx (rh1 := [some (.val (.scr ns)), some (.val (.int j)), some (.val bk), some (.own ss), v4, v5, v6, some (.val (.int i)), v8, v9, v10, v11]) rfl q]
    exact q2
def b8 : Ss := (sIf (eOr (eAnd (eCmp .IsNot (eVar 10) (eC (.bl true))) (eTru (eVar 11))) (eAnd (eCmp .IsNot (eVar 10) (eC (.bl false))) (eNot (eTru (eVar 11)))))
  (sRet (eC (.bl false)))
  sNil)
theorem loop8 (v0 v1 v2 v3 v4 v5 v6 v7 v8 v9 : Option Cell) (st : Sto) : ∀ (bs : List Bool) (v10 v11 : Option Cell), ∃ v10' v11', sLoop (.tup [10, 11]) b8 (bs.map fun b => .tup [.bl b, .bl b]) [v0, v1, v2, v3, v4, v5, v6, v7, v8, v9, v10, v11] st = .nx [v0, v1, v2, v3, v4, v5, v6, v7, v8, v9, v10', v11'] st
  | [], v10, v11 => ⟨v10, v11, rfl⟩
  | b :: bs, v10, v11 => by
    obtain ⟨a, c, q⟩ := loop8 v0 v1 v2 v3 v4 v5 v6 v7 v8 v9 st bs (some (.val (.bl b))) (some (.val (.bl b)))
    refine ⟨a, c, ?_⟩
    rw [List.map_cons, sLoop_nx (rh1 := [v0, v1, v2, v3, v4, v5, v6, v7, v8, v9, some (.val (.bl b)), some (.val (.bl b))]) (rh2 := [v0, v1, v2, v3, v4, v5, v6, v7, v8, v9, some (.val (.bl b)), some (.val (.bl b))]) (st2 := st) rfl (by cases b <;> rfl)]
    exact q
/-- the rules that are asked at first -/
def rules0 : List D := (signs "abcdABCDEF").map (fun d => .tup [.str "look", d]) ++ [.tup [.str "worth", .int 2], .tup [.str "worth", .int 3]]
def rules1 : List D := rules0 ++ [.tup [.str "worth", .bl true], .tup [.str "look", .str "ab"], .tup [.str "look", .str ""]]
theorem rules1_ok : rules1.length = 15 ∧ rules1.all (fineD 100 9) = true := by decide +kernel
def s3 : Ss := sAsg true 4 (eBin .Add (eComp [5] (.name 5) (iOne itemsD (eC (.str "abcdABCDEF"))) none (eTup [(eC (.str "look")), (eVar 5)])) (eLst [(eTup [(eC (.str "worth")), (eC (.int 2))]), (eTup [(eC (.str "worth")), (eC (.int 3))])]))
def s4 : Ss := sAsg true 4 (eBin .Add (eVar 4) (eLst [(eTup [(eC (.str "worth")), (eC (.bl true))]), (eTup [(eC (.str "look")), (eC (.str "ab"))]), (eTup [(eC (.str "look")), (eC (.str ""))])]))
theorem ev3 (v0 v1 v2 v3 v4 v5 v6 v7 v8 v9 v10 v11 : Option Cell) (st : Sto) : s3 [v0, v1, v2, v3, v4, v5, v6, v7, v8, v9, v10, v11] st = .nx [v0, v1, v2, v3, some (.own rules0), v5, v6, v7, v8, v9, v10, v11] st := by
  have comp : cLoop (.name 5) none (eTup [(eC (.str "look")), (eVar 5)]) [v0, v1, v2, v3, v4, none, v6, v7, v8, v9, v10, v11] (signs "abcdABCDEF") st = .ok ((signs "abcdABCDEF").map fun d => .tup [.str "look", d]) st :=
    cLoop_map _ _ fun d hd => ⟨_, rfl, by simp [cElt]⟩
  have l10 : (signs "abcdABCDEF").length = 10 := by decide +kernel
  have E := comp_ok (st := st) (st1 := st) (rh := [v0, v1, v2, v3, v4, v5, v6, v7, v8, v9, v10, v11]) (vs := [5]) (fi := iOne itemsD (eC (.str "abcdABCDEF"))) (by simp) (by rw [l10]; decide) comp
  have ad := add_lst (ds := (signs "abcdABCDEF").map fun d => .tup [.str "look", d]) (es := [.tup [.str "worth", .int 2], .tup [.str "worth", .int 3]]) (by simp [l10])
  simp [-eComp_ev, s3, E, ad, rules0]
theorem ev4 (v0 v1 v2 v3 v5 v6 v7 v8 v9 v10 v11 : Option Cell) (st : Sto) : s4 [v0, v1, v2, v3, some (.own rules0), v5, v6, v7, v8, v9, v10, v11] st = .nx [v0, v1, v2, v3, some (.own rules1), v5, v6, v7, v8, v9, v10, v11] st := by
  have l0 : rules0.length = 12 := by decide +kernel
  have ad := add_lst (ds := rules0) (es := [.tup [.str "worth", .bl true], .tup [.str "look", .str "ab"], .tup [.str "look", .str ""]]) (by simp [l0])
  simp [s4, ad, rules1]
def s7 : Ss := sAsg false 8 (eComp [9] (.name 9) (iOne itemsD (eVar 3)) none (eTup [(eCall G "is_book" [(eVar 9)]), (eCall G "_law_is_book" [(eVar 9)])]))
theorem ev7 (v0 v1 v2 v4 v5 v6 v7 v8 v9 v10 v11 : Option Cell) (ss : List D) (hf : Fs ss) (hl : ss.length ≤ 1000) (st : Sto) : s7 [v0, v1, v2, some (.own ss), v4, v5, v6, v7, v8, v9, v10, v11] st = .nx [v0, v1, v2, some (.own ss), v4, v5, v6, v7, some (.val (.lst ((ss.map okB).map fun b => .tup [.bl b, .bl b]))), v9, v10, v11] st := by
  have comp : cLoop (.name 9) none (eTup [(eCall G "is_book" [(eVar 9)]), (eCall G "_law_is_book" [(eVar 9)])]) [v0, v1, v2, some (.own ss), v4, v5, v6, v7, v8, none, v10, v11] ss st = .ok (ss.map fun d => .tup [.bl (okB d), .bl (okB d)]) st := by
    refine cLoop_map _ _ fun d hd => ⟨_, rfl, ?_⟩
    have q1 : G "is_book" [d] st = .ok (.bl (okB d)) st := r_book 30 d st (hf d hd) (by decide)
    have q2 : G "_law_is_book" [d] st = .ok (.bl (okB d)) st := r_lbook 32 d st (hf d hd) (by decide) (by decide)
    simp [cElt, q1, q2]
  have E := comp_ok (st := st) (st1 := st) (rh := [v0, v1, v2, some (.own ss), v4, v5, v6, v7, v8, v9, v10, v11]) (vs := [9]) (fi := iOne itemsD (eVar 3)) (by simp) (sz hl) comp
  simp [-eComp_ev, s7, E]
def i8 : Im := iOneP itemsD (eBin .Add (eVar 8) (eComp [9] (.name 9) (iOne itemsD (eVar 4)) none (eTup [(eCall G "is_rule" [(eVar 9)]), (eCall G "_law_is_rule" [(eVar 9), (eC (.int 1))])])))
theorem ev8 (v0 v1 v2 v3 v5 v6 v7 v9 v10 v11 : Option Cell) (bs : List Bool) (rs : List D) (hf : Fs rs) (hl : rs.length ≤ 1000) (hb : bs.length ≤ 1000) (st : Sto) : i8 [v0, v1, v2, v3, some (.own rs), v5, v6, v7, some (.val (.lst (bs.map fun b => .tup [.bl b, .bl b]))), v9, v10, v11] st = .ok ((bs ++ rs.map (okR 4)).map fun b => .tup [.bl b, .bl b]) st := by
  have comp : cLoop (.name 9) none (eTup [(eCall G "is_rule" [(eVar 9)]), (eCall G "_law_is_rule" [(eVar 9), (eC (.int 1))])]) [v0, v1, v2, v3, some (.own rs), v5, v6, v7, some (.val (.lst (bs.map fun b => .tup [.bl b, .bl b]))), none, v10, v11] rs st = .ok (rs.map fun d => .tup [.bl (okR 4 d), .bl (okR 4 d)]) st := by
    refine cLoop_map _ _ fun d hd => ⟨_, rfl, ?_⟩
    have q1 : G "is_rule" [d] st = .ok (.bl (okR 4 d)) st := r_rule 32 d st (hf d hd) (by decide)
    have q2 : G "_law_is_rule" [d, .int 1] st = .ok (.bl (okR 4 d)) st := r_lrule st 4 33 d (hf d hd) (by decide) (by decide) 1 (by decide)
    simp [cElt, q1, q2]
  have E := comp_ok (st := st) (st1 := st) (rh := [v0, v1, v2, v3, some (.own rs), v5, v6, v7, some (.val (.lst (bs.map fun b => .tup [.bl b, .bl b]))), v9, v10, v11]) (vs := [9]) (fi := iOne itemsD (eVar 4)) (by simp) (sz hl) comp
  have ad := add_lst (ds := bs.map fun b => .tup [.bl b, .bl b]) (es := rs.map fun d => .tup [.bl (okR 4 d), .bl (okR 4 d)]) (by simp; omega)
  have e2 : (bs ++ rs.map (okR 4)).map (fun b => D.tup [.bl b, .bl b]) = bs.map (fun b => .tup [.bl b, .bl b]) ++ rs.map fun d => .tup [.bl (okR 4 d), .bl (okR 4 d)] := by
    rw [List.map_append, List.map_map]
    rfl
  rw [e2]
  refine iOneP_ok (t := .fr (bs.map (fun b => .tup [.bl b, .bl b]) ++ rs.map fun d => .tup [.bl (okR 4 d), .bl (okR 4 d)])) (st1 := st) ?_ rfl rfl rfl
  simp [-eComp_ev, -List.map_append, E, ad]
def s1 : Ss := sAsg false 2 (eCall G "_law_book" [(eBin .Add (eCall G "_law_cell" [(eVar 0), (eVar 1)]) (eBin .Mult (eC (.int 3)) (eVar 1)))])
def s2 : Ss := sAsg true 3 (eLst [(eVar 2), (eB1 .list (eVar 2)), (eBin .Add (eVar 2) (eSlc (eVar 2) none (some (eC (.int 1))))), (eRev (eVar 2)), (eSlc (eVar 2) (some (eC (.int 1))) none)])
def lawB : Ss := sSeq s1 (sSeq s2 (sSeq s3 (sSeq s4 (sSeq (sFor (.tup [5, 6]) (iOneP itemsD (eVar 2)) b5) (sSeq (sFor (.name 7) (iOne rng1 (eC (.int 20))) b6) (sSeq s7 (sFor (.tup [10, 11]) i8 b8)))))))
theorem law_eq : m_law G = sSeq (sFor (.name 1) (iOne rng1 (eC (.int 8))) lawB) (sRet (eAnd (eCmp .Is (eCall G "is_book" [(eTup [])]) (eC (.bl true))) (eAnd (eCmp .Is (eCall G "is_book" [(eC .non)]) (eC (.bl false))) (eCmp .Is (eCall G "is_rule" [(eC .non)]) (eC (.bl false)))))) := rfl
def intsTo (n : Nat) : List Int := (List.range n).map fun (i : Nat) => (i : Int)
theorem rngI (n : Nat) (h : n < 1000) : rng1 (.int n) = some ((intsTo n).map .int) := by
  rw [rng1_ev (by omega)]
  unfold intsTo
  rw [List.map_map]
  rfl
theorem bodyOk (ns : List Int) (j : Int) (hj : 0 ≤ j ∧ j < 8) (v2 v3 v4 v5 v6 v7 v8 v9 v10 v11 : Option Cell) (st : Sto) :
    ∃ w2 w3 w4 w5 w6 w7 w8 w9 w10 w11, lawB [some (.val (.scr ns)), some (.val (.int j)), v2, v3, v4, v5, v6, v7, v8, v9, v10, v11] st = .nx [some (.val (.scr ns)), some (.val (.int j)), w2, w3, w4, w5, w6, w7, w8, w9, w10, w11] st := by
  obtain ⟨c, qc⟩ := r_cell 38 ns j st hj.1
  have qc : G "_law_cell" [.scr ns, .int j] st = .ok (.int c) st := qc
  have mu := bin_mul_l (i := 3) (j := j) (by decide)
  obtain ⟨es, le, he, qb⟩ := r_lawbook 33 (c + 3 * j) st
  have qb : G "_law_book" [.int (c + 3 * j)] st = .ok (.tup es) st := qb
  have ob := book_orig le he
  have fb := orig_fine (L := 100) (by decide) ob
  obtain ⟨m', em, lm, fm⟩ := fine_tup fb
  cases em
  have e1 : s1 [some (.val (.scr ns)), some (.val (.int j)), v2, v3, v4, v5, v6, v7, v8, v9, v10, v11] st = .nx [some (.val (.scr ns)), some (.val (.int j)), some (.val (.tup es)), v3, v4, v5, v6, v7, v8, v9, v10, v11] st := by
    simp [s1, qc, mu, qb]
  have ad := bin_add_tup (ds := es) (es := es.take 1) (small_add (by simp; omega))
  have e2 : s2 [some (.val (.scr ns)), some (.val (.int j)), some (.val (.tup es)), v3, v4, v5, v6, v7, v8, v9, v10, v11] st = .nx [some (.val (.scr ns)), some (.val (.int j)), some (.val (.tup es)), some (.own [.tup es, .lst es, .tup (es ++ es.take 1), .tup es.reverse, .tup (es.drop 1)]), v4, v5, v6, v7, v8, v9, v10, v11] st := by
    simp [s2, ad]
  have f2 : Fs [.tup es, .lst es, .tup (es ++ es.take 1), .tup es.reverse, .tup (es.drop 1)] := by
    intro d hd
    simp only [List.mem_cons, List.not_mem_nil, or_false] at hd
    rcases hd with rfl | rfl | rfl | rfl | rfl
    · exact fine_mono (by decide) fb
    · exact fine_mono (n := 6) (by decide) (fine_lst_of (by omega) fm)
    · refine fine_mono (n := 6) (by decide) (fine_tup_of (by simp; omega) fun d hd => ?_)
      rcases List.mem_append.mp hd with h | h
      · exact fm d h
      · exact fm d (List.mem_of_mem_take h)
    · exact fine_mono (n := 6) (by decide) (fine_tup_of (by simp; omega) fun d hd => fm d (List.mem_reverse.mp hd))
    · exact fine_mono (n := 6) (by decide) (fine_tup_of (by simp; omega) fun d hd => fm d (List.mem_of_mem_drop hd))
  have f1 : Fs rules1 := List.all_eq_true.mp rules1_ok.2
  obtain ⟨rs, a5, a6, fr, lr, q5⟩ := loop5 ns j hj (some (.val (.tup es))) (some (.own [.tup es, .lst es, .tup (es ++ es.take 1), .tup es.reverse, .tup (es.drop 1)])) v7 v8 v9 v10 v11 st es rules1 v5 v6 he (by rw [rules1_ok.1]; omega) f1
  obtain ⟨ss, a7, fs, ls, q6⟩ := loop6 ns j (.tup es) ob (some (.own rs)) a5 a6 v8 v9 v10 v11 st (intsTo 20) [.tup es, .lst es, .tup (es ++ es.take 1), .tup es.reverse, .tup (es.drop 1)] v7 (by simp [intsTo]) f2
  have e7 := ev7 (some (.val (.scr ns))) (some (.val (.int j))) (some (.val (.tup es))) (some (.own rs)) a5 a6 a7 v8 v9 v10 v11 ss fs ls st
  have e8 := ev8 (some (.val (.scr ns))) (some (.val (.int j))) (some (.val (.tup es))) (some (.own ss)) a5 a6 a7 v9 v10 v11 (ss.map okB) rs fr lr (by simpa using ls) st
  obtain ⟨a10, a11, q8⟩ := loop8 (some (.val (.scr ns))) (some (.val (.int j))) (some (.val (.tup es))) (some (.own ss)) (some (.own rs)) a5 a6 a7 (some (.val (.lst ((ss.map okB).map fun b => .tup [.bl b, .bl b])))) v9 st (ss.map okB ++ rs.map (okR 4)) v10 v11
  have r20 := rngI 20 (by decide)
  have i5 : iOneP itemsD (eVar 2) [some (.val (.scr ns)), some (.val (.int j)), some (.val (.tup es)), some (.own [.tup es, .lst es, .tup (es ++ es.take 1), .tup es.reverse, .tup (es.drop 1)]), some (.own rules1), v5, v6, v7, v8, v9, v10, v11] st = .ok es st := rfl
  have i6 : iOne rng1 (eC (.int 20)) [some (.val (.scr ns)), some (.val (.int j)), some (.val (.tup es)), some (.own [.tup es, .lst es, .tup (es ++ es.take 1), .tup es.reverse, .tup (es.drop 1)]), some (.own rs), a5, a6, v7, v8, v9, v10, v11] st = .ok ((intsTo 20).map .int) st :=
    iOne_ok (t := .d (.int 20)) (st1 := st) rfl rfl rfl r20
  refine ⟨some (.val (.tup es)), some (.own ss), some (.own rs), a5, a6, a7, some (.val (.lst ((ss.map okB).map fun b => .tup [.bl b, .bl b]))), v9, a10, a11, ?_⟩
  · unfold lawB
    rw [sSeq_ev, e1, onN_nx, sSeq_ev, e2, onN_nx, sSeq_ev, ev3, onN_nx, sSeq_ev, ev4, onN_nx, sSeq_ev, sFor_ev, i5]
    simp only [q5, onN_nx]
    rw [sSeq_ev, sFor_ev, i6]
    simp only [q6, onN_nx]
    rw [sSeq_ev, e7, onN_nx, sFor_ev, e8]
    simp only
    exact q8
theorem loopL (ns : List Int) (st : Sto) : ∀ (js : List Int) (v1 v2 v3 v4 v5 v6 v7 v8 v9 v10 v11 : Option Cell), (∀ j ∈ js, 0 ≤ j ∧ j < 8) →
    ∃ w1 w2 w3 w4 w5 w6 w7 w8 w9 w10 w11, sLoop (.name 1) lawB (js.map .int) [some (.val (.scr ns)), v1, v2, v3, v4, v5, v6, v7, v8, v9, v10, v11] st = .nx [some (.val (.scr ns)), w1, w2, w3, w4, w5, w6, w7, w8, w9, w10, w11] st
  | [], v1, v2, v3, v4, v5, v6, v7, v8, v9, v10, v11, _ => ⟨v1, v2, v3, v4, v5, v6, v7, v8, v9, v10, v11, rfl⟩
  | j :: js, v1, v2, v3, v4, v5, v6, v7, v8, v9, v10, v11, h => by
    obtain ⟨w2, w3, w4, w5, w6, w7, w8, w9, w10, w11, q⟩ := bodyOk ns j (h j List.mem_cons_self) v2 v3 v4 v5 v6 v7 v8 v9 v10 v11 st
    obtain ⟨u1, u2, u3, u4, u5, u6, u7, u8, u9, u10, u11, q2⟩ := loopL ns st js (some (.val (.int j))) w2 w3 w4 w5 w6 w7 w8 w9 w10 w11 fun i hi => h i (List.mem_cons_of_mem _ hi)
    refine ⟨u1, u2, u3, u4, u5, u6, u7, u8, u9, u10, u11, ?_⟩
    rw [List.map_cons, sLoop_nx (rh1 := [some (.val (.scr ns)), some (.val (.int j)), v2, v3, v4, v5, v6, v7, v8, v9, v10, v11]) rfl q]
    exact q2
theorem plain (ns : List Int) (hn : ns.length ≤ 63) : ∃ st, tbl dfs 40 "law" [.scr ns] [] = .ok (.bl true) st := by
  refine ⟨[], ?_⟩
  rw [show (40 : Nat) = 39 + 1 from rfl, t_law]
  have e0 : fnR 12 (m_law (tbl dfs 39)) [.scr ns] [] = fin 0 (m_law G [some (.val (.scr ns)), none, none, none, none, none, none, none, none, none, none, none] []) := rfl
  have r8 := rngI 8 (by decide)
  have i8' : iOne rng1 (eC (.int 8)) [some (.val (.scr ns)), none, none, none, none, none, none, none, none, none, none, none] [] = .ok ((intsTo 8).map .int) [] := iOne_ok (t := .d (.int 8)) (st1 := []) rfl rfl rfl r8
  obtain ⟨w1, w2, w3, w4, w5, w6, w7, w8, w9, w10, w11, q⟩ := loopL ns [] (intsTo 8) none none none none none none none none none none none (by decide)
  rw [e0, law_eq, sSeq_ev, sFor_ev, i8']
  simp only [q, onN_nx]
  have q1 : G "is_book" [.tup []] [] = .ok (.bl true) [] := r_book 30 (.tup []) [] (L := 100) (m := 9) (by decide +kernel) (by decide)
  have q2 : G "is_book" [.non] [] = .ok (.bl false) [] := r_book 30 .non [] (L := 100) (m := 9) rfl (by decide)
  have q3 : G "is_rule" [.non] [] = .ok (.bl false) [] := r_rule 32 .non [] (L := 100) (m := 9) rfl (by decide)
  simp [q1, q2, q3]
  rfl
end KW

namespace KW
open PySem PySem.W PySem.Calls PyProof.Rows KL
abbrev R : PySem.W.OpenRow := PySem.W.OpenLaw.row PySem.Challenge.rw_keptlooks_k01_books
abbrev hk : PySem.W.Hook := hkOf ks dfs
def ob (s : PySem.W.SharedT) : He.AlX := He.obsX 4 (faOf dfs) (dfs.map (·.d)) [] [] (exOf ks) (HandSHeadRun.getT s)
theorem ob_eq (s : PySem.W.SharedT) : ob s = hk.obs s.abs := He.obsX_eq (HandSHeadRun.getT_eq s)
theorem run (w : World) : HandSHeadRun.RunEq R (PySem.W.view R.prog [24]) hk ob 2000 ["__name__", "CELLS", "ASKS", "TWO", "DEEPEST", "is_name", "is_worth", "is_rule_in", "is_rule", "is_entry", "is_book", "names_of", "names_in", "_law_cell", "_law_mix", "_law_same", "_law_rule", "_law_book", "_law_later", "_law_odd", "_law_is_rule", "_law_is_book", "_law_names"] w := by
  intro os
  kernel_rfl
theorem holds_of (plain : ∀ ns : List Int, ns.length ≤ 63 → ∃ st, tbl dfs 40 "law" [.scr ns] [] = .ok (.bl true) st) : PySem.Challenge.rw_keptlooks_k01_books.Holds := by
  w_on; o_law
  refine HandSHeadRun.head_any (r := R) (q := view R.prog [24]) (H := hk) (ob := ob) (M := 2000) (loose := ["__name__", "CELLS", "ASKS", "TWO", "DEEPEST", "is_name", "is_worth", "is_rule_in", "is_rule", "is_entry", "is_book", "names_of", "names_in", "_law_cell", "_law_mix", "_law_same", "_law_rule", "_law_book", "_law_later", "_law_odd", "_law_is_rule", "_law_is_book", "_law_names"]) (d := HandSHeadRun.topDef R.prog 24) (kwd := []) ob_eq
    (by kernel_rfl) (fun s => by kernel_rfl) run (by kernel_rfl) (by kernel_rfl) (by kernel_rfl) (by rfl) (by first | assumption | decide +kernel) (by decide +kernel) ⟨rfl, rfl, rfl, rfl, rfl, by decide +kernel⟩ ?hw ?hc
  case hw => w_witness2
  case hc =>
    exact walk_row (l := PySem.Challenge.rw_keptlooks_k01_books) (dl := f_law) (x := "script") rfl (by kernel_rfl) ⟨rfl, by decide, by decide⟩ (by kernel_rfl) ok_all (by kernel_rfl) rfl plain
end KW
theorem PySem.Challenge.cw_keptlooks_k01_books_holds : PySem.Challenge.rw_keptlooks_k01_books.Holds :=
  KW.holds_of KW.plain
