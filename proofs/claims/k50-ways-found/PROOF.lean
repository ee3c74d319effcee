import PyProof.Rows.All
import Wide.All
import OpenK.AllK
import Wide.FinOn
import HandS.ForMost
import HandS.ForExc
import HandS.TupAny
import HandS.TupLen
import KE.DataEq
import KE.DataCmp
import KE.SortData
import HandS.Conv
import HandS.IsInst
import HandS.More
import HandS.CallSlots
import HandS.ExcCtx
import HandS.WordsExc
import HandS.Defaults
import HandS.Iter
import HandS.Comp
import HandS.TryMany
import HandS.ExcIs
import HandS.HotCalls
import PySem.Challenge.RW_glasslayers_k50_ways_found
import HandS.Text
import HandS.Head0
import HandS.Head1
import HandS.Head2
import HandS.HeadEnd
import HandS.HeadHook1
import HandS.HeadHook2
import HandS.HeadHook3
import HandS.HeadHook4
import KE.KStateDown
set_option Elab.async false
set_option linter.all false
section
set_option Elab.async false
set_option linter.all false
set_option maxRecDepth 100000
/-! data without the heap; what a value stands for; owned things -/
namespace DL
open PySem PySem.Spec PyProof.Rows L2
abbrev St := L2.St

inductive D where
  | non | bl (b : Bool) | int (i : Int) | str (x : Str)
  | tup (ds : List D) | lst (ds : List D)
  | dS (kvs : List (Str × D)) | dT (kvs : List (List Str × D))
  | obj (c : Str) (fs : List (Str × Bool × D))

/-- a slot: unknown, shared data, owned, owned by the caller, borrowed -/
inductive Sl where
  | un | sh (d : D) | ow (d : D) | io (d : D) | bw (d : D)

mutual
inductive Rep (K : PySem.W.Frag) (F : Hp) : V → D → Prop
  | non : Rep K F .non .non
  | bl (b : Bool) : Rep K F (.bl b) (.bl b)
  | int (i : Int) : Rep K F (.int i) (.int i)
  | str (x : Str) : Rep K F (.str x) (.str x)
  | tup {a : Addr} {vs : List V} {ds : List D} : F a = some (.tup vs) → RepL K F vs ds → Rep K F (.ref a) (.tup ds)
  | lst {a : Addr} {vs : List V} {ds : List D} : SqL K F a vs → RepL K F vs ds → Rep K F (.ref a) (.lst ds)
  | dS {a : Addr} {kvs : List (Key × V)} {ds : List (Str × D)} : Rd F a (.dK kvs) → RepS K F kvs ds → Rep K F (.ref a) (.dS ds)
  | dT {a : Addr} {kvs : List (List Key × V)} {ds : List (List Str × D)} : Rd F a (.dT kvs) → RepT K F kvs ds → Rep K F (.ref a) (.dT ds)
inductive RepL (K : PySem.W.Frag) (F : Hp) : List V → List D → Prop
  | nil : RepL K F [] []
  | cons {v : V} {d : D} {vs : List V} {ds : List D} : Rep K F v d → RepL K F vs ds → RepL K F (v :: vs) (d :: ds)
inductive RepS (K : PySem.W.Frag) (F : Hp) : List (Key × V) → List (Str × D) → Prop
  | nil : RepS K F [] []
  | cons {x : Str} {v : V} {d : D} {r : List (Key × V)} {s : List (Str × D)} : Rep K F v d → RepS K F r s → RepS K F ((Sum.inr x, v) :: r) ((x, d) :: s)
inductive RepT (K : PySem.W.Frag) (F : Hp) : List (List Key × V) → List (List Str × D) → Prop
  | nil : RepT K F [] []
  | cons {w : List Str} {v : V} {d : D} {r : List (List Key × V)} {s : List (List Str × D)} : Rep K F v d → RepT K F r s → RepT K F ((w.map Sum.inr, v) :: r) ((w, d) :: s)
end

theorem rd_mono {F F' : Hp} {a : Addr} {u : HO} (e : Same F F') (h : Rd F a u) : Rd F' a u := h.elim (fun h => .inl (e _ _ h)) fun ⟨o, h⟩ => .inr ⟨o, e _ _ h⟩
mutual
theorem Rep.mono {K : PySem.W.Frag} {F F' : Hp} (e : Same F F') : ∀ {v : V} {d : D}, Rep K F v d → Rep K F' v d
  | _, _, .non => .non
  | _, _, .bl b => .bl b
  | _, _, .int i => .int i
  | _, _, .str x => .str x
  | _, _, .tup h r => .tup (e _ _ h) (RepL.mono e r)
  | _, _, .lst h r => .lst (e.seq h) (RepL.mono e r)
  | _, _, .dS h r => .dS (rd_mono e h) (RepS.mono e r)
  | _, _, .dT h r => .dT (rd_mono e h) (RepT.mono e r)
theorem RepL.mono {K : PySem.W.Frag} {F F' : Hp} (e : Same F F') : ∀ {v : List V} {d : List D}, RepL K F v d → RepL K F' v d
  | _, _, .nil => .nil
  | _, _, .cons h r => .cons (Rep.mono e h) (RepL.mono e r)
theorem RepS.mono {K : PySem.W.Frag} {F F' : Hp} (e : Same F F') : ∀ {v : List (Key × V)} {d : List (Str × D)}, RepS K F v d → RepS K F' v d
  | _, _, .nil => .nil
  | _, _, .cons h r => .cons (Rep.mono e h) (RepS.mono e r)
theorem RepT.mono {K : PySem.W.Frag} {F F' : Hp} (e : Same F F') : ∀ {v : List (List Key × V)} {d : List (List Str × D)}, RepT K F v d → RepT K F' v d
  | _, _, .nil => .nil
  | _, _, .cons h r => .cons (Rep.mono e h) (RepT.mono e r)
end

section
variable {K : PySem.W.Frag} {F : Hp}
theorem RepL.length : ∀ {vs : List V} {ds : List D}, RepL K F vs ds → vs.length = ds.length
  | _, _, .nil => rfl
  | _, _, .cons _ r => congrArg (· + 1) r.length
theorem RepL.append : ∀ {vs ws : List V} {ds es : List D}, RepL K F vs ds → RepL K F ws es → RepL K F (vs ++ ws) (ds ++ es)
  | _, _, _, _, .nil, s => s
  | _, _, _, _, .cons h r, s => .cons h (r.append s)
theorem RepL.one {v : V} {d : D} (h : Rep K F v d) : RepL K F [v] [d] := .cons h .nil
theorem RepL.get : ∀ {vs : List V} {ds : List D} {i : Nat} {d : D}, RepL K F vs ds → ds[i]? = some d → ∃ v, vs[i]? = some v ∧ Rep K F v d
  | _, _, _, _, .nil, e => by simp at e
  | _, _, 0, _, .cons h _, e => by simp at e; subst e; exact ⟨_, rfl, h⟩
  | _, _, i + 1, _, .cons _ r, e => r.get (i := i) (by simpa using e)
theorem RepL.getV : ∀ {vs : List V} {ds : List D} {i : Nat} {v : V}, RepL K F vs ds → vs[i]? = some v → ∃ d, ds[i]? = some d ∧ Rep K F v d
  | _, _, _, _, .nil, e => by simp at e
  | _, _, 0, _, .cons h _, e => by simp at e; subst e; exact ⟨_, rfl, h⟩
  | _, _, i + 1, _, .cons _ r, e => r.getV (i := i) (by simpa using e)
theorem RepL.drop : ∀ {vs : List V} {ds : List D} (n : Nat), RepL K F vs ds → RepL K F (vs.drop n) (ds.drop n)
  | _, _, 0, r => r
  | _, _, _ + 1, .nil => .nil
  | _, _, n + 1, .cons _ r => r.drop n
theorem RepL.take : ∀ {vs : List V} {ds : List D} (n : Nat), RepL K F vs ds → RepL K F (vs.take n) (ds.take n)
  | _, _, 0, _ => .nil
  | _, _, _ + 1, .nil => .nil
  | _, _, n + 1, .cons h r => .cons h (r.take n)
theorem RepL.set : ∀ {vs : List V} {ds : List D} {v : V} {d : D} (n : Nat), RepL K F vs ds → Rep K F v d → RepL K F (vs.set n v) (ds.set n d)
  | _, _, _, _, _, .nil, _ => .nil
  | _, _, _, _, 0, .cons _ r, h => .cons h r
  | _, _, _, _, n + 1, .cons h' r, h => .cons h' (r.set n h)
theorem RepL.eraseIdx : ∀ {vs : List V} {ds : List D} (n : Nat), RepL K F vs ds → RepL K F (vs.eraseIdx n) (ds.eraseIdx n)
  | _, _, _, .nil => .nil
  | _, _, 0, .cons _ r => r
  | _, _, n + 1, .cons h r => .cons h (r.eraseIdx n)
theorem RepL.nil_iff {vs : List V} {ds : List D} (r : RepL K F vs ds) : vs = [] ↔ ds = [] := by
  cases r <;> simp
theorem RepS.length : ∀ {vs : List (Key × V)} {ds : List (Str × D)}, RepS K F vs ds → vs.length = ds.length
  | _, _, .nil => rfl
  | _, _, .cons _ r => congrArg (· + 1) r.length
theorem RepT.length : ∀ {vs : List (List Key × V)} {ds : List (List Str × D)}, RepT K F vs ds → vs.length = ds.length
  | _, _, .nil => rfl
  | _, _, .cons _ r => congrArg (· + 1) r.length
end

/-! ### owned: the content is shared data, the thing itself stands apart -/
mutual
inductive Own (K : PySem.W.Frag) (mg : Str → Option Value) (H F : Hp) : D → Addr → List Addr → Prop
  | lst {a : Addr} {vs : List V} {ds : List D} : H a = some (.lst vs) → RepL K F vs ds → Own K mg H F (.lst ds) a [a]
  | dS {a : Addr} {kvs : List (Key × V)} {ds : List (Str × D)} : H a = some (.dK kvs) → RepS K F kvs ds → Own K mg H F (.dS ds) a [a]
  | dT {a : Addr} {kvs : List (List Key × V)} {ds : List (List Str × D)} : H a = some (.dT kvs) → RepT K F kvs ds → Own K mg H F (.dT ds) a [a]
  | obj {a dx C : Addr} {c : Str} {vs : List (Str × V)} {fs : List (Str × Bool × D)} {fp : List Addr} : mg c = some (.ref C) → H a = some (.ins C dx vs) → H dx = some (.own a) → OwnF K mg H F vs fs fp → Own K mg H F (.obj c fs) a (a :: dx :: fp)
inductive OwnF (K : PySem.W.Frag) (mg : Str → Option Value) (H F : Hp) : List (Str × V) → List (Str × Bool × D) → List Addr → Prop
  | nil : OwnF K mg H F [] [] []
  | sh {x : Str} {v : V} {d : D} {r : List (Str × V)} {s : List (Str × Bool × D)} {fp : List Addr} : Rep K F v d → OwnF K mg H F r s fp → OwnF K mg H F ((x, v) :: r) ((x, false, d) :: s) fp
  | ow {x : Str} {b : Addr} {d : D} {r : List (Str × V)} {s : List (Str × Bool × D)} {fq fp : List Addr} : Own K mg H F d b fq → OwnF K mg H F r s fp → OwnF K mg H F ((x, .ref b) :: r) ((x, true, d) :: s) (fq ++ fp)
end
mutual
/-- it leans on its own addresses and the shared part alone -/
theorem Own.keep {K : PySem.W.Frag} {mg : Str → Option Value} {H H' F F' : Hp} (e : Same F F') : ∀ {d : D} {a : Addr} {fp : List Addr}, Own K mg H F d a fp → (∀ b ∈ fp, ∀ o, H b = some o → H' b = some o) → Own K mg H' F' d a fp
  | _, _, _, .lst h r, k => .lst (k _ (by simp) _ h) (r.mono e)
  | _, _, _, .dS h r, k => .dS (k _ (by simp) _ h) (r.mono e)
  | _, _, _, .dT h r, k => .dT (k _ (by simp) _ h) (r.mono e)
  | _, _, _, .obj m h h2 r, k => .obj m (k _ (by simp) _ h) (k _ (by simp) _ h2) (OwnF.keep e r fun b hb => k b (by simp [hb]))
theorem OwnF.keep {K : PySem.W.Frag} {mg : Str → Option Value} {H H' F F' : Hp} (e : Same F F') : ∀ {vs : List (Str × V)} {d : List (Str × Bool × D)} {fp : List Addr}, OwnF K mg H F vs d fp → (∀ b ∈ fp, ∀ o, H b = some o → H' b = some o) → OwnF K mg H' F' vs d fp
  | _, _, _, .nil, k => .nil
  | _, _, _, .sh h r, k => .sh (h.mono e) (OwnF.keep e r k)
  | _, _, _, .ow h r, k => .ow (Own.keep e h fun b hb => k b (by simp [hb])) (OwnF.keep e r fun b hb => k b (by simp [hb]))
end
/-- a tuple -/
def tupB : HO → Bool
  | .tup _ => true
  | _ => false
mutual
theorem Own.there {K : PySem.W.Frag} {mg : Str → Option Value} {H F : Hp} : ∀ {d : D} {a : Addr} {fp : List Addr}, Own K mg H F d a fp → ∀ b ∈ fp, ∃ o, H b = some o ∧ tupB o = false
  | _, _, _, .lst h r, b, hb => by simp at hb; subst hb; exact ⟨_, h, rfl⟩
  | _, _, _, .dS h r, b, hb => by simp at hb; subst hb; exact ⟨_, h, rfl⟩
  | _, _, _, .dT h r, b, hb => by simp at hb; subst hb; exact ⟨_, h, rfl⟩
  | _, _, _, .obj m h h2 r, b, hb => by
    rcases List.mem_cons.mp hb with rfl | hb
    · exact ⟨_, h, rfl⟩
    · rcases List.mem_cons.mp hb with rfl | hb
      · exact ⟨_, h2, rfl⟩
      · exact OwnF.there r b hb
theorem OwnF.there {K : PySem.W.Frag} {mg : Str → Option Value} {H F : Hp} : ∀ {vs : List (Str × V)} {d : List (Str × Bool × D)} {fp : List Addr}, OwnF K mg H F vs d fp → ∀ b ∈ fp, ∃ o, H b = some o ∧ tupB o = false
  | _, _, _, .nil, b, hb => by simp at hb
  | _, _, _, .sh h r, b, hb => OwnF.there r b hb
  | _, _, _, .ow h r, b, hb => (List.mem_append.mp hb).elim (Own.there h b) (OwnF.there r b)
end
theorem Own.root {K : PySem.W.Frag} {mg : Str → Option Value} {H F : Hp} {d : D} {a : Addr} {fp : List Addr} (h : Own K mg H F d a fp) : a ∈ fp := by cases h <;> simp

/-! ### the heap grows -/
/-- free to be shared: new, or a tuple -/
def Fr (H : Hp) (a : Addr) : Prop := ∀ o, H a = some o → tupB o = true
theorem Fr.none {H : Hp} {a : Addr} (h : H a = none) : Fr H a := fun o e => by rw [h] at e; cases e
theorem Fr.same {H H' : Hp} {a : Addr} (s : Same H H') (h : Fr H' a) : Fr H a := fun o e => h o (s a o e)
structure Ext (H F H' F' : Hp) : Prop where
  hh : Same H H'
  ff : Same F F'
  fh : Same F' H'
  new : ∀ a, F' a ≠ none → F a ≠ none ∨ Fr H a
theorem Ext.refl {H F : Hp} (s : Same F H) : Ext H F H F := ⟨Same.refl _, Same.refl _, s, fun _ h => .inl h⟩
theorem Ext.trans {H F H1 F1 H2 F2 : Hp} (a : Ext H F H1 F1) (b : Ext H1 F1 H2 F2) : Ext H F H2 F2 :=
  ⟨a.hh.trans b.hh, a.ff.trans b.ff, b.fh, fun x h => (b.new x h).elim (a.new x) fun z => .inr (z.same a.hh)⟩
/-- what is apart stays apart -/
theorem Ext.apart {H F H' F' : Hp} (e : Ext H F H' F') {a : Addr} {o : HO} (h : H a = some o) (n : tupB o = false) (f : F a = none) : F' a = none := by
  cases q : F' a with
  | none => rfl
  | some u =>
    rcases e.new a (by rw [q]; simp) with z | z
    · exact absurd f z
    · have := z o h
      rw [n] at this; cases this
theorem Ext.own {K : PySem.W.Frag} {mg : Str → Option Value} {H F H' F' : Hp} (e : Ext H F H' F') {d : D} {a : Addr} {fp : List Addr} (h : Own K mg H F d a fp) : Own K mg H' F' d a fp := h.keep e.ff fun b _ o q => e.hh b o q
/-- a new thing is laid, shared -/
theorem Ext.lay {H F : Hp} (s : Same F H) {p : Addr} (o : HO) (h : H p = none) : Ext H F (upd H p o) (upd F p o) := by
  have fp : F p = none := s.free h
  refine ⟨fun b u e => ?_, fun b u e => ?_, fun b u e => ?_, fun b e => ?_⟩
  · rw [upd_ne (ne_of_none e h)]; exact e
  · rw [upd_ne (ne_of_none e fp)]; exact e
  · by_cases hb : b = p
    · subst hb; rw [upd_same] at e ⊢; exact e
    · rw [upd_ne hb] at e ⊢; exact s b u e
  · by_cases hb : b = p
    · subst hb; exact .inr (.none h)
    · rw [upd_ne hb] at e; exact .inl e
/-- a new thing is laid, owned -/
theorem Ext.lay' {H F : Hp} (s : Same F H) {p : Addr} (o : HO) (h : H p = none) : Ext H F (upd H p o) F := by
  refine ⟨fun b u e => ?_, Same.refl _, fun b u e => ?_, fun b e => .inl e⟩
  · rw [upd_ne (ne_of_none e h)]; exact e
  · rw [upd_ne (ne_of_none (s b u e) h)]; exact s b u e
/-- a thing that is apart becomes shared -/
theorem Ext.freeze {H F H' F' : Hp} (e : Ext H F H' F') {p : Addr} {o : HO} (h : H' p = some o) (n : H p = none) (f : F' p = none) : Ext H F H' (upd F' p o) ∧ Same F' (upd F' p o) := by
  have s : Same F' (upd F' p o) := fun b u q => by rw [upd_ne (ne_of_none q f)]; exact q
  refine ⟨⟨e.hh, e.ff.trans s, fun b u q => ?_, fun b q => ?_⟩, s⟩
  · by_cases hb : b = p
    · subst hb; rw [upd_same] at q; cases q; exact h
    · rw [upd_ne hb] at q; exact e.fh b u q
  · by_cases hb : b = p
    · subst hb; exact .inr (.none n)
    · rw [upd_ne hb] at q; exact e.new b q

/-! ### the state -/
structure Base where
  H0 : Hp
  F0 : Hp
  Z : Addr → Prop
  ρ : Nat → Option V
def SlOk (K : PySem.W.Frag) (mg : Str → Option Value) (B : Base) (H F : Hp) (i : Nat) (v : Option V) (s : Sl) (fp : List Addr) : Prop :=
  match s with
  | .un => fp = []
  | .sh d => fp = [] ∧ ∃ x, v = some x ∧ Rep K F x d
  | .ow d => ∃ a, v = some (.ref a) ∧ Own K mg H F d a fp ∧ fp.Nodup ∧ ∀ b ∈ fp, F b = none ∧ B.H0 b = none
  | .io d => ∃ a, v = some (.ref a) ∧ B.ρ i = some (.ref a) ∧ Own K mg H F d a fp ∧ fp.Nodup ∧ ∀ b ∈ fp, F b = none ∧ (B.H0 b = none ∨ B.Z b)
  | .bw _ => False
structure SR (K : PySem.W.Frag) (mg : Str → Option Value) (B : Base) (H F : Hp) (σ : St) (τ : List Sl) : Prop where
  keep : ∀ a o, B.H0 a = some o → ¬ B.Z a → H a = some o
  live : ∀ a o, B.H0 a = some o → ∃ o', H a = some o' ∧ tupB o' = tupB o
  ff0 : Same B.F0 F
  fh : Same F H
  new : ∀ a, F a ≠ none → B.F0 a ≠ none ∨ Fr B.H0 a
  len : σ.length = τ.length
  slots : ∃ fp : Nat → List Addr, (∀ i s, τ[i]? = some s → SlOk K mg B H F i (σ[i]?.join) s (fp i)) ∧ (∀ i, τ[i]? = none → fp i = []) ∧ ∀ i j a, a ∈ fp i → a ∈ fp j → i = j
section
variable {K : PySem.W.Frag} {mg : Str → Option Value} {B : Base} {H F H' F' : Hp} {σ : St} {τ : List Sl}
theorem SlOk.ext {i : Nat} {v : Option V} {s : Sl} {fp : List Addr} (e : Ext H F H' F') (h : SlOk K mg B H F i v s fp) : SlOk K mg B H' F' i v s fp := by
  cases s with
  | un => exact h
  | sh d => obtain ⟨z, x, e1, r⟩ := h; exact ⟨z, x, e1, r.mono e.ff⟩
  | ow d =>
    obtain ⟨a, e1, o, n, q⟩ := h
    refine ⟨a, e1, e.own o, n, fun b hb => ?_⟩
    obtain ⟨u, hu, hn⟩ := o.there b hb
    exact ⟨e.apart hu hn (q b hb).1, (q b hb).2⟩
  | io d =>
    obtain ⟨a, e1, e2, o, n, q⟩ := h
    refine ⟨a, e1, e2, e.own o, n, fun b hb => ?_⟩
    obtain ⟨u, hu, hn⟩ := o.there b hb
    exact ⟨e.apart hu hn (q b hb).1, (q b hb).2⟩
  | bw d => exact h
theorem SR.ext (r : SR K mg B H F σ τ) (e : Ext H F H' F') : SR K mg B H' F' σ τ := by
  refine ⟨fun a o h z => e.hh a o (r.keep a o h z), fun a o h => ?_, r.ff0.trans e.ff, e.fh, fun a h => ?_, r.len, ?_⟩
  · obtain ⟨o', h1, h2⟩ := r.live a o h
    exact ⟨o', e.hh a o' h1, h2⟩
  · rcases e.new a h with z | z
    · exact r.new a z
    · refine .inr fun o h => ?_
      obtain ⟨o', h1, h2⟩ := r.live a o h
      rw [← h2]
      exact z o' h1
  · obtain ⟨fp, h1, h2⟩ := r.slots
    exact ⟨fp, fun i s q => (h1 i s q).ext e, h2⟩
theorem SR.refl (r : SR K mg B H F σ τ) : Ext H F H F := Ext.refl r.fh
theorem SR.get {i : Nat} {s : Sl} (r : SR K mg B H F σ τ) (h : τ[i]? = some s) : ∃ fp, SlOk K mg B H F i (σ[i]?.join) s fp := by
  obtain ⟨fp, h1, _⟩ := r.slots
  exact ⟨fp i, h1 i s h⟩
end

/-! ### what an expression gives -/
inductive R (α : Type) where
  | ok (a : α) | er (c : Str) | bad
def R.bind {α β : Type} (r : R α) (f : α → R β) : R β := match r with
  | .ok a => f a
  | .er c => .er c
  | .bad => .bad
@[simp] theorem R.bind_ok {α β : Type} (a : α) (f : α → R β) : (R.ok a).bind f = f a := rfl
@[simp] theorem R.bind_er {α β : Type} (c : Str) (f : α → R β) : (R.er c : R α).bind f = .er c := rfl
@[simp] theorem R.bind_bad {α β : Type} (f : α → R β) : (R.bad : R α).bind f = .bad := rfl
abbrev Tau := List Sl
/-- the class that a name stands for -/
def cv (mg : Str → Option Value) (c : Str) : Value := (mg c).getD .none
/-- what a value is in the heap (made behind H0, or not) -/
def Br (K : PySem.W.Frag) (mg : Str → Option Value) (H0 H F : Hp) (v : V) : Sl → Prop
  | .sh d => Rep K F v d
  | .ow d => ∃ a fp, v = .ref a ∧ Own K mg H F d a fp ∧ fp.Nodup ∧ ∀ b ∈ fp, F b = none ∧ H0 b = none
  | .bw d => ∃ a fp, v = .ref a ∧ Own K mg H F d a fp ∧ ∀ b ∈ fp, F b = none
  | _ => False
/-- a value to be read: shared, or owned by somebody -/
def Vw (K : PySem.W.Frag) (mg : Str → Option Value) (H F : Hp) (v : V) (d : D) : Prop := Rep K F v d ∨ ∃ a fp, v = .ref a ∧ Own K mg H F d a fp ∧ ∀ b ∈ fp, F b = none
theorem Own.apart {K : PySem.W.Frag} {mg : Str → Option Value} {H F H' F' : Hp} {d : D} {a : Addr} {fp : List Addr} (e : Ext H F H' F') (o : Own K mg H F d a fp) (h : ∀ b ∈ fp, F b = none) : ∀ b ∈ fp, F' b = none := fun b hb => by
  obtain ⟨u, hu, hn⟩ := o.there b hb
  exact e.apart hu hn (h b hb)
theorem Vw.ext {K : PySem.W.Frag} {mg : Str → Option Value} {H F H' F' : Hp} {v : V} {d : D} (e : Ext H F H' F') (h : Vw K mg H F v d) : Vw K mg H' F' v d := by
  rcases h with h | ⟨a, fp, e1, o, n⟩
  · exact .inl (h.mono e.ff)
  · exact .inr ⟨a, fp, e1, e.own o, o.apart e n⟩
theorem Br.ext {K : PySem.W.Frag} {mg : Str → Option Value} {H0 H F H' F' : Hp} {v : V} {s : Sl} (e : Ext H F H' F') (h : Br K mg H0 H F v s) : Br K mg H0 H' F' v s := by
  cases s with
  | un => exact h
  | io d => exact h
  | sh d => exact Rep.mono e.ff h
  | bw d => obtain ⟨a, fp, e1, o, n⟩ := h; exact ⟨a, fp, e1, e.own o, o.apart e n⟩
  | ow d =>
    obtain ⟨a, fp, e1, o, n, q⟩ := h
    refine ⟨a, fp, e1, e.own o, n, fun b hb => ?_⟩
    obtain ⟨u, hu, hn⟩ := o.there b hb
    exact ⟨e.apart hu hn (q b hb).1, (q b hb).2⟩
theorem Br.older {K : PySem.W.Frag} {mg : Str → Option Value} {H0 H1 H F : Hp} {v : V} {s : Sl} (e : Same H0 H1) (h : Br K mg H1 H F v s) : Br K mg H0 H F v s := by
  cases s with
  | un => exact h
  | io d => exact h
  | sh d => exact h
  | bw d => exact h
  | ow d =>
    obtain ⟨a, fp, e1, o, n, q⟩ := h
    exact ⟨a, fp, e1, o, n, fun b hb => ⟨(q b hb).1, e.free (q b hb).2⟩⟩
def Sl.view : Sl → Option D
  | .sh d | .ow d | .bw d => some d
  | _ => none
theorem Br.view {K : PySem.W.Frag} {mg : Str → Option Value} {H0 H F : Hp} {v : V} {s : Sl} {d : D} (h : Br K mg H0 H F v s) (e : s.view = some d) : Vw K mg H F v d := by
  cases s with
  | un => cases e
  | io d => cases e
  | sh d => cases e; exact .inl h
  | bw d => cases e; exact .inr h
  | ow d => cases e; obtain ⟨a, fp, e1, o, _, q⟩ := h; exact .inr ⟨a, fp, e1, o, fun b hb => (q b hb).1⟩
/-- may be shared: a list, a dict -/
def D.flat1 : D → Bool
  | .lst _ | .dS _ | .dT _ => true
  | _ => false
def Sl.data : Sl → Option D
  | .sh d => some d
  | .ow d => if d.flat1 then some d else none
  | _ => none
theorem Br.data {K : PySem.W.Frag} {mg : Str → Option Value} {H F H' F' : Hp} {v : V} {s : Sl} {d : D} (x : Ext H F H' F') (h : Br K mg H H' F' v s) (e : s.data = some d) :
    ∃ F'', Ext H F H' F'' ∧ Same F' F'' ∧ Rep K F'' v d := by
  cases s with
  | un => cases e
  | io d => cases e
  | bw d => cases e
  | sh d => cases e; exact ⟨F', x, Same.refl _, h⟩
  | ow d' =>
    obtain ⟨a, fp, rfl, o, n, q⟩ := h
    have q' := q a o.root
    cases d' with
    | lst ds =>
      cases e
      cases o with
      | lst h r =>
        obtain ⟨e1, e2⟩ := x.freeze h q'.2 q'.1
        exact ⟨_, e1, e2, .lst (SqL.of upd_same) (r.mono e2)⟩
    | dS ds =>
      cases e
      cases o with
      | dS h r =>
        obtain ⟨e1, e2⟩ := x.freeze h q'.2 q'.1
        exact ⟨_, e1, e2, .dS (.inl upd_same) (r.mono e2)⟩
    | dT ds =>
      cases e
      cases o with
      | dT h r =>
        obtain ⟨e1, e2⟩ := x.freeze h q'.2 q'.1
        exact ⟨_, e1, e2, .dT (.inl upd_same) (r.mono e2)⟩
    | _ => cases e

def Fin {α β : Type} (mg : Str → Option Value) (W : WX) (σ : St) (H F : Hp) (r : R α) (P : α → β → Hp → Hp → Prop) (Q : β → Hp → Prop) : Prop := match r with
  | .ok a => ∀ v H' F', Ext H F H' F' → P a v H' F' → Q v H'
  | .er c => ∀ H', Same H H' → W (cv mg c) none σ H'
  | .bad => False
theorem Fin.imp {α β : Type} {mg : Str → Option Value} {W : WX} {σ : St} {H F : Hp} {r : R α} {P P' : α → β → Hp → Hp → Prop} {Q : β → Hp → Prop} (h : Fin mg W σ H F r P Q) (i : ∀ a v H' F', Ext H F H' F' → P' a v H' F' → ∃ F'', Ext H F H' F'' ∧ P a v H' F'') : Fin mg W σ H F r P' Q := by
  cases r with
  | ok a => exact fun v H' F' e p => let ⟨F'', e2, p2⟩ := i a v H' F' e p; h v H' F'' e2 p2
  | er c => exact h
  | bad => exact h
/-- one expression, then another -/
theorem Fin.seq {α β γ δ : Type} {mg : Str → Option Value} {W : WX} {σ : St} {H F : Hp} {r : R α} {g : α → R β} {P : α → γ → Hp → Hp → Prop} {P' : β → δ → Hp → Hp → Prop} {Q : δ → Hp → Prop} {Q' : γ → Hp → Prop} (h : Fin mg W σ H F (r.bind g) P' Q)
    (k : ∀ a v H1 F1, Ext H F H1 F1 → P a v H1 F1 → Fin mg W σ H1 F1 (g a) (fun b v' H2 F2 => P' b v' H2 F2) Q → Q' v H1) : Fin mg W σ H F r P Q' := by
  cases r with
  | ok a =>
    intro v H1 F1 e p
    refine k a v H1 F1 e p ?_
    have h' : Fin mg W σ H F (g a) P' Q := h
    cases q : g a with
    | ok b => rw [q] at h'; exact fun v' H2 F2 e2 p2 => h' v' H2 F2 (e.trans e2) p2
    | er c => rw [q] at h'; exact fun H2 e2 => h' H2 (e.hh.trans e2)
    | bad => rw [q] at h'; exact h'
  | er c => exact h
  | bad => exact h

section
variable (X : Cx) (W : WX)
abbrev BrX (X : Cx) (H : Hp) : Sl → V → Hp → Hp → Prop := fun s v H' F' => Br X.K X.mg H H' F' v s
abbrev RpX (X : Cx) : D → V → Hp → Hp → Prop := fun d v _ F' => Rep X.K F' v d
abbrev VwX (X : Cx) : D → V → Hp → Hp → Prop := fun d v H' F' => Vw X.K X.mg H' F' v d
/-- an expression and what it gives: a slot's content; data that may be kept; data to be read -/
def DP (e : Expr) (f : Tau → R Sl) : Prop := ∃ t, PE X e t ∧ ∀ B τ σ H F Q, SR X.K X.mg B H F σ τ → Fin X.mg W σ H F (f τ) (BrX X H) Q → t σ H Q
def DV (e : Expr) (f : Tau → R D) : Prop := ∃ t, PE X e t ∧ ∀ B τ σ H F Q, SR X.K X.mg B H F σ τ → Fin X.mg W σ H F (f τ) (RpX X) Q → t σ H Q
def DW (e : Expr) (f : Tau → R D) : Prop := ∃ t, PE X e t ∧ ∀ B τ σ H F Q, SR X.K X.mg B H F σ τ → Fin X.mg W σ H F (f τ) (VwX X) Q → t σ H Q
end
def ofO {α : Type} : Option α → R α
  | some a => .ok a
  | none => .bad
/-- kept -/
def kp (f : Tau → R Sl) : Tau → R D := fun τ => (f τ).bind fun s => ofO s.data
/-- read -/
def rd (f : Tau → R Sl) : Tau → R D := fun τ => (f τ).bind fun s => ofO s.view
/-- shared -/
def vl (f : Tau → R D) : Tau → R Sl := fun τ => (f τ).bind fun d => .ok (.sh d)
section
variable {X : Cx} {W : WX} {e : Expr}
theorem DP.kp {f : Tau → R Sl} (h : DP X W e f) : DV X W e (kp f) := by
  obtain ⟨t, p, q⟩ := h
  refine ⟨t, p, fun B τ σ H F Q r h => q B τ σ H F Q r ?_⟩
  have h' : Fin X.mg W σ H F ((f τ).bind fun s => ofO s.data) (RpX X) Q := h
  cases z : f τ with
  | ok s =>
    rw [z] at h'
    intro v H' F' x b
    cases zd : s.data with
    | none => rw [R.bind_ok, zd] at h'; exact h'.elim
    | some d =>
      rw [R.bind_ok, zd] at h'
      obtain ⟨F'', x2, s2, r2⟩ := b.data x zd
      exact h' v H' F'' x2 r2
  | er c => rw [z] at h'; exact h'
  | bad => rw [z] at h'; exact h'
theorem DP.rd {f : Tau → R Sl} (h : DP X W e f) : DW X W e (rd f) := by
  obtain ⟨t, p, q⟩ := h
  refine ⟨t, p, fun B τ σ H F Q r h => q B τ σ H F Q r ?_⟩
  have h' : Fin X.mg W σ H F ((f τ).bind fun s => ofO s.view) (VwX X) Q := h
  cases z : f τ with
  | ok s =>
    rw [z] at h'
    intro v H' F' x b
    cases zd : s.view with
    | none => rw [R.bind_ok, zd] at h'; exact h'.elim
    | some d =>
      rw [R.bind_ok, zd] at h'
      exact h' v H' F' x (b.view zd)
  | er c => rw [z] at h'; exact h'
  | bad => rw [z] at h'; exact h'
theorem DV.vl {f : Tau → R D} (h : DV X W e f) : DP X W e (vl f) := by
  obtain ⟨t, p, q⟩ := h
  refine ⟨t, p, fun B τ σ H F Q r h => q B τ σ H F Q r ?_⟩
  have h' : Fin X.mg W σ H F ((f τ).bind fun d => .ok (.sh d)) (BrX X H) Q := h
  cases z : f τ with
  | ok s => rw [z] at h'; exact fun v H' F' x b => h' v H' F' x b
  | er c => rw [z] at h'; exact h'
  | bad => rw [z] at h'; exact h'
theorem DV.rd {f : Tau → R D} (h : DV X W e f) : DW X W e f := by
  obtain ⟨t, p, q⟩ := h
  refine ⟨t, p, fun B τ σ H F Q r h => q B τ σ H F Q r ?_⟩
  exact h.imp fun a v H' F' x b => ⟨F', x, .inl b⟩
end
end DL
end

section
set_option Elab.async false
set_option linter.all false
set_option maxRecDepth 100000
namespace DL
open PySem PySem.Spec PyProof.Rows L2

/-! ### data as the library's data -/
mutual
def D.py : D → PyData
  | .non => .none
  | .bl b => .bool b
  | .int i => .int i
  | .str x => .str x
  | .tup ds => .tuple (D.pys ds)
  | .lst ds => .list (D.pys ds)
  | _ => .none
def D.pys : List D → List PyData
  | [] => []
  | d :: r => d.py :: D.pys r
end
mutual
/-- no dict, no object within -/
def D.pl : D → Bool
  | .non | .bl _ | .int _ | .str _ => true
  | .tup ds | .lst ds => D.pls ds
  | _ => false
def D.pls : List D → Bool
  | [] => true
  | d :: r => d.pl && D.pls r
end
mutual
def D.dep : D → Nat
  | .tup ds | .lst ds => D.deps ds + 1
  | _ => 0
def D.deps : List D → Nat
  | [] => 0
  | d :: r => max d.dep (D.deps r)
end
theorem D.pys_map : ∀ ds : List D, D.pys ds = ds.map D.py
  | [] => rfl
  | d :: r => by rw [D.pys, D.pys_map r]; rfl
theorem D.pls_all : ∀ ds : List D, D.pls ds = ds.all D.pl
  | [] => rfl
  | d :: r => by rw [D.pls, D.pls_all r]; rfl
mutual
theorem D.py_plain : ∀ d : D, d.pl = true → d.py.plain = true
  | .non, _ => rfl
  | .bl _, _ => rfl
  | .int _, _ => rfl
  | .str _, _ => rfl
  | .tup ds, h => by rw [D.py, PyData.plain]; exact D.pys_plain ds (by rw [D.pl] at h; exact h)
  | .lst ds, h => by rw [D.py, PyData.plain]; exact D.pys_plain ds (by rw [D.pl] at h; exact h)
  | .dS _, h => by cases h
  | .dT _, h => by cases h
  | .obj _ _, h => by cases h
theorem D.pys_plain : ∀ ds : List D, D.pls ds = true → PyData.plainAll (D.pys ds) = true
  | [], _ => rfl
  | d :: r, h => by
    rw [D.pls, Bool.and_eq_true] at h
    rw [D.pys, PyData.plainAll, D.py_plain d h.1, D.pys_plain r h.2]
    rfl
end
mutual
theorem D.py_dep : ∀ d : D, d.py.depth ≤ d.dep
  | .non => by simp [D.py, PyData.depth, D.dep]
  | .bl _ => by simp [D.py, PyData.depth, D.dep]
  | .int _ => by simp [D.py, PyData.depth, D.dep]
  | .str _ => by simp [D.py, PyData.depth, D.dep]
  | .tup ds => by rw [D.py, PyData.depth, D.dep]; exact Nat.succ_le_succ (D.pys_dep ds)
  | .lst ds => by rw [D.py, PyData.depth, D.dep]; exact Nat.succ_le_succ (D.pys_dep ds)
  | .dS _ => by simp [D.py, PyData.depth, D.dep]
  | .dT _ => by simp [D.py, PyData.depth, D.dep]
  | .obj _ _ => by simp [D.py, PyData.depth, D.dep]
theorem D.pys_dep : ∀ ds : List D, PyData.depthAll (D.pys ds) ≤ D.deps ds
  | [] => by simp [D.pys, PyData.depthAll, D.deps]
  | d :: r => by
    rw [D.pys, PyData.depthAll, D.deps]
    have h1 := D.py_dep d
    have h2 := D.pys_dep r
    omega
end
section
variable {K : PySem.W.Frag} {F : Hp}
mutual
theorem Rep.dp : ∀ {v : V} {d : D}, Rep K F v d → d.pl = true → Dp K F v d.py
  | _, _, .non, _ => .non
  | _, _, .bl b, _ => .bl b
  | _, _, .int i, _ => .int i
  | _, _, .str x, _ => .str x
  | _, .tup ds, .tup h r, p => .tup (SqT.of h) (RepL.dps r (by rw [D.pl] at p; exact p))
  | _, .lst ds, .lst h r, p => .lst h (RepL.dps r (by rw [D.pl] at p; exact p))
  | _, _, .dS _ _, p => by cases p
  | _, _, .dT _ _, p => by cases p
theorem RepL.dps : ∀ {vs : List V} {ds : List D}, RepL K F vs ds → D.pls ds = true → DpAll K F vs (D.pys ds)
  | _, _, .nil, _ => .nil
  | _, _, .cons h r, p => by
    rw [D.pls, Bool.and_eq_true] at p
    exact .cons (Rep.dp h p.1) (RepL.dps r p.2)
end
theorem Vw.dp {mg : Str → Option Value} {H : Hp} {v : V} {d : D} (s : Same F H) (h : Vw K mg H F v d) (p : d.pl = true) : Dp K H v d.py := by
  rcases h with h | ⟨a, fp, rfl, o, _⟩
  · exact Rep.dp (h.mono s) p
  · cases o with
    | lst e r => exact .lst (SqL.of e) (RepL.dps (r.mono s) (by rw [D.pl] at p; exact p))
    | dS e r => cases p
    | dT e r => cases p
    | obj _ _ _ _ => cases p
end

/-! ### what a viewed value is -/
section
variable {K : PySem.W.Frag} {mg : Str → Option Value} {H F : Hp} {v : V}
theorem Vw.int {i : Int} (h : Vw K mg H F v (.int i)) : v = .int i := by
  rcases h with h | ⟨a, fp, e, o, _⟩
  · cases h; rfl
  · cases o
theorem Vw.str {x : Str} (h : Vw K mg H F v (.str x)) : v = .str x := by
  rcases h with h | ⟨a, fp, e, o, _⟩
  · cases h; rfl
  · cases o
theorem Vw.bl {b : Bool} (h : Vw K mg H F v (.bl b)) : v = .bl b := by
  rcases h with h | ⟨a, fp, e, o, _⟩
  · cases h; rfl
  · cases o
theorem Vw.non (h : Vw K mg H F v .non) : v = .non := by
  rcases h with h | ⟨a, fp, e, o, _⟩
  · cases h; rfl
  · cases o
theorem Vw.tup {ds : List D} (h : Vw K mg H F v (.tup ds)) : ∃ a vs, v = .ref a ∧ F a = some (.tup vs) ∧ RepL K F vs ds := by
  rcases h with h | ⟨a, fp, e, o, _⟩
  · cases h with | tup h r => exact ⟨_, _, rfl, h, r⟩
  · cases o
theorem Vw.lst {ds : List D} (s : Same F H) (h : Vw K mg H F v (.lst ds)) : ∃ a vs, v = .ref a ∧ SqL K H a vs ∧ RepL K F vs ds := by
  rcases h with h | ⟨a, fp, e, o, _⟩
  · cases h with | lst h r => exact ⟨_, _, rfl, s.seq h, r⟩
  · cases o with | lst h r => exact ⟨_, _, e, SqL.of h, r⟩
theorem Vw.dS {ds : List (Str × D)} (s : Same F H) (h : Vw K mg H F v (.dS ds)) : ∃ a kvs, v = .ref a ∧ Rd H a (.dK kvs) ∧ RepS K F kvs ds := by
  rcases h with h | ⟨a, fp, e, o, _⟩
  · cases h with | dS h r => exact ⟨_, _, rfl, rd_mono s h, r⟩
  · cases o with | dS h r => exact ⟨_, _, e, .inl h, r⟩
theorem Vw.dT {ds : List (List Str × D)} (s : Same F H) (h : Vw K mg H F v (.dT ds)) : ∃ a kvs, v = .ref a ∧ Rd H a (.dT kvs) ∧ RepT K F kvs ds := by
  rcases h with h | ⟨a, fp, e, o, _⟩
  · cases h with | dT h r => exact ⟨_, _, rfl, rd_mono s h, r⟩
  · cases o with | dT h r => exact ⟨_, _, e, .inl h, r⟩
end

/-! ### a two-place operation -/
def Wno : WX := fun _ _ _ _ => False
def OpSim (X : Cx) (r : R2) (op : D → D → R Sl) : Prop := ∀ H F v w d e Q, Same F H → Vw X.K X.mg H F v d → Vw X.K X.mg H F w e → Fin X.mg Wno [] H F (op d e) (BrX X H) Q → r v w H Q
theorem OpSim.or {X : Cx} {r r' : R2} {op op' : D → D → R Sl} (h : OpSim X r op) (h' : OpSim X r' op') (o : D → D → R Sl) (c : ∀ d e, o d e = op d e ∨ o d e = op' d e) : OpSim X (fun x y H Q => r x y H Q ∨ r' x y H Q) o := by
  intro H F v w d e Q s a b f
  rcases c d e with q | q
  · exact .inl (h H F v w d e Q s a b (q ▸ f))
  · exact .inr (h' H F v w d e Q s a b (q ▸ f))
def op2 (op : D → D → R Sl) (f g : Tau → R D) : Tau → R Sl := fun τ => (f τ).bind fun d => (g τ).bind fun e => op d e
theorem Fin.none_free {α β : Type} {mg : Str → Option Value} {W : WX} {σ : St} {H F : Hp} {r : R α} {P : α → β → Hp → Hp → Prop} {Q : β → Hp → Prop} (h : Fin mg W σ H F r P Q) (n : ∀ c, r ≠ .er c) : Fin mg Wno [] H F r P Q := by
  cases r with
  | ok a => exact h
  | er c => exact absurd rfl (n c)
  | bad => exact h
def NoEr (op : D → D → R Sl) : Prop := ∀ d e c, op d e ≠ .er c
section
variable {X : Cx} {W : WX} {a b : Expr} {f g : Tau → R D} {op : D → D → R Sl}
theorem sim_op {r : R2} {ta tb : TE} (hs : OpSim X r op) (hn : NoEr op)
    (qa : ∀ B τ σ H F Q, SR X.K X.mg B H F σ τ → Fin X.mg W σ H F (f τ) (VwX X) Q → ta σ H Q) (qb : ∀ B τ σ H F Q, SR X.K X.mg B H F σ τ → Fin X.mg W σ H F (g τ) (VwX X) Q → tb σ H Q) :
    ∀ B τ σ H F Q, SR X.K X.mg B H F σ τ → Fin X.mg W σ H F (op2 op f g τ) (BrX X H) Q → tOp r ta tb σ H Q := by
  intro B τ σ H F Q s h
  refine qa B τ σ H F _ s (h.seq fun d v H1 F1 e1 p1 h1 => ?_)
  refine qb B τ σ H1 F1 _ (s.ext e1) (h1.seq fun d' v' H2 F2 e2 p2 h2 => ?_)
  refine hs H2 F2 v v' d d' Q e2.fh (p1.ext e2) p2 ((h2.imp fun s v H' F' e p => ⟨F', e, ?_⟩).none_free fun c => hn d d' c)
  exact Br.older (e1.hh.trans e2.hh) p
theorem dp_bin {o : Operator} {r : R2} {pos : Pos} (ho : OpR X (binaryOp o) r) (hs : OpSim X r op) (hn : NoEr op) (ha : DW X W a f) (hb : DW X W b g) : DP X W (.BinOp a o b pos) (op2 op f g) := by
  obtain ⟨ta, pa, qa⟩ := ha
  obtain ⟨tb, pb, qb⟩ := hb
  exact ⟨_, pe_op ho pa pb, sim_op hs hn qa qb⟩
theorem dp_cmp {o : CmpOp} {r : R2} {pos : Pos} (ho : OpR X (compareOp o) r) (hs : OpSim X r op) (hn : NoEr op) (ha : DW X W a f) (hb : DW X W b g) (hm : behindInMarks o b = false) : DP X W (.Compare a [o] [b] pos) (op2 op f g) := by
  obtain ⟨ta, pa, qa⟩ := ha
  obtain ⟨tb, pb, qb⟩ := hb
  exact ⟨_, pe_cmpR ho pa pb hm, sim_op hs hn qa qb⟩
end
/-! ### a + b -/
def addD : D → D → R Sl
  | .int i, .int j => .ok (.sh (.int (i + j)))
  | .str x, .str y => if x.length + y.length ≤ sizeLine then .ok (.sh (.str (x ++ y))) else .bad
  | .lst x, .lst y => if x.length + y.length ≤ sizeLine then .ok (.ow (.lst (x ++ y))) else .bad
  | .tup x, .tup y => if x.length + y.length ≤ sizeLine then .ok (.sh (.tup (x ++ y))) else .bad
  | _, _ => .bad
section
variable {X : Cx}
/-- list + list, of any kind of lists -/
def rCatL (K : PySem.W.Frag) : R2 := fun x y H Q => ∃ l b xs zs, x = .ref l ∧ y = .ref b ∧ SqL K H l xs ∧ SqL K H b zs ∧ xs.length + zs.length ≤ sizeLine ∧ ∀ p, H p = none → Q (.ref p) (upd H p (.lst (xs ++ zs)))
theorem op_catL : OpR X (binaryOp .Add) (rCatL X.K) := by
  intro pins s σ H x y v u Q I rx ry h
  obtain ⟨l, b, xs, zs, rfl, rfl, hH, hB, hz, q⟩ := h
  cases rx
  cases ry
  obtain ⟨its, r, ⟨o, n, e, ec, ed, es⟩, z⟩ := I.list hH
  obtain ⟨its2, r2, ⟨o2, n2, e2, ec2, ed2, es2⟩, z2⟩ := I.list hB
  have hl := r.length
  have hl2 := r2.length
  obtain ⟨cls, dd, data, sl⟩ := o
  obtain ⟨cls2, dd2, data2, sl2⟩ := o2
  simp only at ec ed es ec2 ed2 es2
  subst ec es ec2 es2
  have ea : its.toArray ++ its2.toArray = (its ++ its2).toArray := by simp
  refine concat_meets ⟨_, e, rfl⟩ ⟨_, e2, rfl⟩ noFill_list_add seq_list_add PySem.F.slot_list_add PySem.F.entry_list_add (PySem.F.args_list_add_2 _ _) (list_addW l b its.toArray its2.toArray n n2 dd dd2 sl sl2 (by simp only [List.size_toArray]; omega)) ⟨e, e2, ?_⟩
  rw [ea]
  exact ⟨.ref _, _, I.lnew (t' := s.toks) (r.append r2) (by rw [List.length_append]; omega), rfl, q _ I.fresh⟩
theorem Vals.length' {xs : List V} {us : List Value} (r : Vals xs us) : xs.length = us.length := r.length

theorem sim_addI : OpSim X (rI0 fun i j => .int (i + j)) (fun d e => match d, e with | .int i, .int j => .ok (.sh (.int (i + j))) | _, _ => .bad) := by
  intro H F v w d e Q s a b f
  cases d <;> cases e <;> try exact f.elim
  exact ⟨_, _, a.int, b.int, f _ H F (Ext.refl s) (.int _)⟩
theorem sim_addS : OpSim X (fun x y H Q => ∃ i j, x = .str i ∧ y = .str j ∧ i.length + j.length ≤ sizeLine ∧ Q (.str (i ++ j)) H) (fun d e => match d, e with | .str x, .str y => if x.length + y.length ≤ sizeLine then .ok (.sh (.str (x ++ y))) else .bad | _, _ => .bad) := by
  intro H F v w d e Q s a b f
  cases d <;> cases e <;> try exact f.elim
  rename_i x y
  by_cases h : x.length + y.length ≤ sizeLine
  · simp only [if_pos h] at f
    exact ⟨_, _, a.str, b.str, h, f _ H F (Ext.refl s) (.str _)⟩
  · simp only [if_neg h] at f
    exact f.elim
theorem sim_addL : OpSim X (rCatL X.K) (fun d e => match d, e with | .lst x, .lst y => if x.length + y.length ≤ sizeLine then .ok (.ow (.lst (x ++ y))) else .bad | _, _ => .bad) := by
  intro H F v w d e Q s a b f
  cases d <;> cases e <;> try exact f.elim
  rename_i x y
  by_cases h : x.length + y.length ≤ sizeLine
  · simp only [if_pos h] at f
    have s' : Same F H := s
    rcases Vw.lst s' a with ⟨a1, vs, rfl, h1, r1⟩
    rcases Vw.lst s' b with ⟨a2, ws, rfl, h2, r2⟩
    refine ⟨a1, a2, vs, ws, rfl, rfl, h1, h2, by rw [r1.length, r2.length]; exact h, fun p hp => ?_⟩
    exact f _ _ F (Ext.lay' s _ hp) ⟨p, [p], rfl, .lst upd_same (r1.append r2), by simp, fun b hb => by simp at hb; subst hb; exact ⟨s.free hp, hp⟩⟩
  · simp only [if_neg h] at f
    exact f.elim
theorem sim_addT : OpSim X (rCatA X.K) (fun d e => match d, e with | .tup x, .tup y => if x.length + y.length ≤ sizeLine then .ok (.sh (.tup (x ++ y))) else .bad | _, _ => .bad) := by
  intro H F v w d e Q s a b f
  cases d <;> cases e <;> try exact f.elim
  rename_i x y
  by_cases h : x.length + y.length ≤ sizeLine
  · simp only [if_pos h] at f
    rcases a.tup with ⟨a1, vs, rfl, h1, r1⟩
    rcases b.tup with ⟨a2, ws, rfl, h2, r2⟩
    refine ⟨a1, a2, vs, ws, rfl, rfl, SqT.of (s _ _ h1), SqT.of (s _ _ h2), by rw [r1.length, r2.length]; exact h, fun e1 => ?_, fun _ e2 => ?_, fun _ _ p hp => ?_⟩
    · have ex : x = [] := r1.nil_iff.mp e1
      subst ex
      exact f _ H F (Ext.refl s) (.tup h2 r2)
    · have ey : y = [] := r2.nil_iff.mp e2
      subst ey
      exact f _ H F (Ext.refl s) (by rw [List.append_nil]; exact .tup h1 r1)
    · have x1 := Ext.lay s (.tup (vs ++ ws)) hp
      exact f _ _ _ x1 (.tup upd_same ((r1.append r2).mono x1.ff))
  · simp only [if_neg h] at f
    exact f.elim
theorem sim_add : OpSim X (fun x y H Q => rI0 (fun i j => .int (i + j)) x y H Q ∨ ((∃ i j, x = .str i ∧ y = .str j ∧ i.length + j.length ≤ sizeLine ∧ Q (.str (i ++ j)) H) ∨ (rCatL X.K x y H Q ∨ rCatA X.K x y H Q))) addD := by
  refine OpSim.or sim_addI (OpSim.or sim_addS (OpSim.or sim_addL sim_addT (fun d e => match d, e with
    | .lst x, .lst y => if x.length + y.length ≤ sizeLine then .ok (.ow (.lst (x ++ y))) else .bad
    | .tup x, .tup y => if x.length + y.length ≤ sizeLine then .ok (.sh (.tup (x ++ y))) else .bad
    | _, _ => .bad) ?_) (fun d e => match d, e with
    | .str x, .str y => if x.length + y.length ≤ sizeLine then .ok (.sh (.str (x ++ y))) else .bad
    | .lst x, .lst y => if x.length + y.length ≤ sizeLine then .ok (.ow (.lst (x ++ y))) else .bad
    | .tup x, .tup y => if x.length + y.length ≤ sizeLine then .ok (.sh (.tup (x ++ y))) else .bad
    | _, _ => .bad) ?_) addD ?_
  all_goals
    intro d e
    cases d <;> cases e <;> first | exact .inl rfl | exact .inr rfl
theorem noer_add : NoEr addD := by
  intro d e c
  cases d <;> cases e <;> simp only [addD] <;> first | (intro h; cases h; done) | (split <;> intro h <;> cases h)
theorem dp_add {W : WX} {a b : Expr} {f g : Tau → R D} {pos : Pos} (ha : DW X W a f) (hb : DW X W b g) : DP X W (.BinOp a .Add b pos) (op2 addD f g) :=
  dp_bin (op_add.or (op_add_str.or (op_catL.or op_catA))) sim_add noer_add ha hb

/-! ### a - b, a * b, a // b, a % b, a ** b -/
def subD : D → D → R Sl
  | .int i, .int j => .ok (.sh (.int (i - j)))
  | _, _ => .bad
theorem dp_sub {W : WX} {a b : Expr} {f g : Tau → R D} {pos : Pos} (ha : DW X W a f) (hb : DW X W b g) : DP X W (.BinOp a .Sub b pos) (op2 subD f g) := by
  refine dp_bin op_sub (fun H F v w d e Q s a b f => ?_) (fun d e c => ?_) ha hb
  · cases d <;> cases e <;> try exact f.elim
    exact ⟨_, _, a.int, b.int, f _ H F (Ext.refl s) (.int _)⟩
  · cases d <;> cases e <;> intro h <;> cases h
end
end DL
end

section
set_option Elab.async false
set_option linter.all false
set_option maxRecDepth 100000
namespace DL
open PySem PySem.Spec PyProof.Rows L2

/-! ### a * b, a // b, a % b, a ** b -/
def smallM (i j : Int) : Bool := (decide (-(2 ^ 64) < i) && decide (i < 2 ^ 64)) || (decide (-(2 ^ 64) < j) && decide (j < 2 ^ 64))
def mulD : D → D → R Sl
  | .int i, .int j => if smallM i j then .ok (.sh (.int (i * j))) else .bad
  | .str x, .int n => if decide (0 ≤ n) && decide (n ≤ 4096) && decide (x.length ≤ 4096) then .ok (.sh (.str (Txt.mul x n))) else .bad
  | _, _ => .bad
theorem mulOk_small {x : Str} {n : Int} (h0 : 0 ≤ n) (h1 : n ≤ 4096) (h2 : x.length ≤ 4096) : MulOk x n := by
  refine ⟨by simp; omega, fun a b => ?_, fun a b => ?_⟩
  · have e1 : (4096 : Int) ≤ (2 ^ 63 - 1) / n := Int.le_ediv_of_mul_le (by omega) (by omega)
    omega
  · unfold Builtin.Str.tooLong
    have e3 : x.length * n.toNat ≤ 4096 * 4096 := Nat.mul_le_mul h2 (by omega)
    have e4 : (sizeLine : Nat) = 16777216 := sizeLine_eq
    simp only [decide_eq_false_iff_not]
    omega
section
variable {X : Cx} {W : WX} {a b : Expr} {f g : Tau → R D} {pos : Pos}
theorem op_mulS : OpR X (binaryOp .Mult) (fun x y H Q => ∃ z n, x = .str z ∧ y = .int n ∧ (0 ≤ n ∧ n ≤ 4096 ∧ z.length ≤ 4096) ∧ Q (.str (Txt.mul z n)) H) := by
  intro pins s σ H x y v u Q I rx ry h
  obtain ⟨z, n, rfl, rfl, ⟨h0, h1, h2⟩, q⟩ := h
  obtain ⟨t, rfl⟩ := rx
  obtain ⟨t', rfl⟩ := ry
  exact SB.mul (mulOk_small h0 h1 h2) fun t' k => ⟨.str _, H, I.tok _, ⟨_, rfl⟩, q⟩
theorem dp_mul (ha : DW X W a f) (hb : DW X W b g) : DP X W (.BinOp a .Mult b pos) (op2 mulD f g) := by
  refine dp_bin (op_mul.or op_mulS) (fun H F v w d e Q s a b f => ?_) (fun d e c => ?_) ha hb
  · cases d <;> cases e <;> try exact f.elim
    · rename_i i j
      by_cases h : smallM i j = true
      · simp only [mulD, if_pos h] at f
        refine .inl ⟨_, _, a.int, b.int, ?_, f _ H F (Ext.refl s) (.int _)⟩
        unfold smallM at h
        simp only [Bool.or_eq_true, Bool.and_eq_true, decide_eq_true_eq] at h
        exact h
      · simp only [mulD, if_neg h] at f
        exact f.elim
    · rename_i x n
      by_cases h : (decide (0 ≤ n) && decide (n ≤ 4096) && decide (x.length ≤ 4096)) = true
      · simp only [mulD, if_pos h] at f
        simp only [Bool.and_eq_true, decide_eq_true_eq] at h
        exact .inr ⟨_, _, a.str, b.int, ⟨h.1.1, h.1.2, h.2⟩, f _ H F (Ext.refl s) (.str _)⟩
      · simp only [mulD, if_neg h] at f
        exact f.elim
  · cases d <;> cases e <;> simp only [mulD] <;> first | (intro h; cases h; done) | (split <;> intro h <;> cases h)
def fdivD : D → D → R Sl
  | .int i, .int j => if decide (0 < j) && decide (j < 1073741824) then .ok (.sh (.int (i / j))) else .bad
  | _, _ => .bad
theorem dp_fdiv (ha : DW X W a f) (hb : DW X W b g) : DP X W (.BinOp a .FloorDiv b pos) (op2 fdivD f g) := by
  refine dp_bin op_fdiv (fun H F v w d e Q s a b f => ?_) (fun d e c => ?_) ha hb
  · cases d <;> cases e <;> try exact f.elim
    rename_i i j
    by_cases h : (decide (0 < j) && decide (j < 1073741824)) = true
    · simp only [fdivD, if_pos h] at f
      simp only [Bool.and_eq_true, decide_eq_true_eq] at h
      exact ⟨_, _, a.int, b.int, h, f _ H F (Ext.refl s) (.int _)⟩
    · simp only [fdivD, if_neg h] at f
      exact f.elim
  · cases d <;> cases e <;> simp only [fdivD] <;> first | (intro h; cases h; done) | (split <;> intro h <;> cases h)
def modD : D → D → R Sl
  | .int i, .int j => if decide (0 < j) then .ok (.sh (.int (i % j))) else .bad
  | _, _ => .bad
theorem dp_mod (ha : DW X W a f) (hb : DW X W b g) : DP X W (.BinOp a .Mod b pos) (op2 modD f g) := by
  refine dp_bin op_mod (fun H F v w d e Q s a b f => ?_) (fun d e c => ?_) ha hb
  · cases d <;> cases e <;> try exact f.elim
    rename_i i j
    by_cases h : decide (0 < j) = true
    · simp only [modD, if_pos h] at f
      simp only [decide_eq_true_eq] at h
      exact ⟨_, _, a.int, b.int, h, f _ H F (Ext.refl s) (.int _)⟩
    · simp only [modD, if_neg h] at f
      exact f.elim
  · cases d <;> cases e <;> simp only [modD] <;> first | (intro h; cases h; done) | (split <;> intro h <;> cases h)
def powD : D → D → R Sl
  | .int i, .int j => if decide (0 ≤ j) && decide (j ≤ 1000000) && decide (i.natAbs < 2 ^ 64) then .ok (.sh (.int (i ^ j.toNat))) else .bad
  | _, _ => .bad
theorem dp_pow (ha : DW X W a f) (hb : DW X W b g) : DP X W (.BinOp a .Pow b pos) (op2 powD f g) := by
  refine dp_bin op_pow (fun H F v w d e Q s a b f => ?_) (fun d e c => ?_) ha hb
  · cases d <;> cases e <;> try exact f.elim
    rename_i i j
    by_cases h : (decide (0 ≤ j) && decide (j ≤ 1000000) && decide (i.natAbs < 2 ^ 64)) = true
    · simp only [powD, if_pos h] at f
      simp only [Bool.and_eq_true, decide_eq_true_eq] at h
      exact ⟨_, _, a.int, b.int, ⟨h.1.1, h.1.2, h.2⟩, f _ H F (Ext.refl s) (.int _)⟩
    · simp only [powD, if_neg h] at f
      exact f.elim
  · cases d <;> cases e <;> simp only [powD] <;> first | (intro h; cases h; done) | (split <;> intro h <;> cases h)

/-! ### comparisons of data -/
/-- python's == -/
def eqvD (d e : D) : Bool := PyData.eqv d.py e.py
def cmpOk (d e : D) : Bool := d.pl && e.pl && decide (d.dep ≤ 40) && decide (e.dep ≤ 40)
theorem cmpOk_iff {d e : D} : cmpOk d e = true ↔ d.pl = true ∧ e.pl = true ∧ d.dep ≤ 40 ∧ e.dep ≤ 40 := by
  unfold cmpOk
  simp only [Bool.and_eq_true, decide_eq_true_eq, and_assoc]
def eqD (d e : D) : R Sl := if cmpOk d e then .ok (.sh (.bl (eqvD d e))) else .bad
def neD (d e : D) : R Sl := if cmpOk d e then .ok (.sh (.bl (!eqvD d e))) else .bad
/-- the two viewed values as they read in the heap -/
def rDat (K : PySem.W.Frag) (C : D → D → Bool) (k : D → D → Bool) : R2 := fun x y H Q => ∃ d e, Dp K H x d.py ∧ Dp K H y e.py ∧ C d e = true ∧ Q (.bl (k d e)) H
theorem min_dep {A : Around} {d e : D} (hu : A.units + 64 < cLine) (h : d.dep ≤ 40) : A.units + min d.py.depth e.py.depth < cLine := by
  have h1 := D.py_dep d
  have h2 := Nat.min_le_left d.py.depth e.py.depth
  omega
theorem op_eqP (hu : X.A.units + 64 < cLine) : OpR X (compareOp .Eq) (rDat X.K cmpOk eqvD) := by
  intro pins s σ H x y v u Q I rx ry h
  obtain ⟨d, e, hd, he, c, q⟩ := h
  obtain ⟨c1, c2, c3, c4⟩ := cmpOk_iff.mp c
  obtain ⟨as, r1⟩ := Dp.reads I d.py x v hd rx
  obtain ⟨bs, r2⟩ := Dp.reads I e.py y u he ry
  exact SeqAt.eq_plain r1 r2 (D.py_plain d c1) (D.py_plain e c2) (min_dep hu c3) ⟨.bl _, H, I, rfl, q⟩
theorem op_neP (hu : X.A.units + 64 < cLine) : OpR X (compareOp .NotEq) (rDat X.K cmpOk fun d e => !eqvD d e) := by
  intro pins s σ H x y v u Q I rx ry h
  obtain ⟨d, e, hd, he, c, q⟩ := h
  obtain ⟨c1, c2, c3, c4⟩ := cmpOk_iff.mp c
  obtain ⟨as, r1⟩ := Dp.reads I d.py x v hd rx
  obtain ⟨bs, r2⟩ := Dp.reads I e.py y u he ry
  exact SeqAt.ne_plain r1 r2 (D.py_plain d c1) (D.py_plain e c2) (min_dep hu c3) ⟨.bl _, H, I, rfl, q⟩
theorem sim_dat {C : D → D → Bool} {k : D → D → Bool} (hC : ∀ d e, C d e = true → d.pl = true ∧ e.pl = true) : OpSim X (rDat X.K C k) (fun d e => if C d e then .ok (.sh (.bl (k d e))) else .bad) := by
  intro H F v w d e Q s a b f
  by_cases h : C d e = true
  · simp only [if_pos h] at f
    exact ⟨d, e, a.dp s (hC d e h).1, b.dp s (hC d e h).2, h, f _ H F (Ext.refl s) (.bl _)⟩
  · simp only [if_neg h] at f
    exact f.elim
theorem noer_dat {C : D → D → Bool} {k : D → D → Bool} : NoEr (fun d e => if C d e then .ok (.sh (.bl (k d e))) else .bad) := by
  intro d e c
  show (if C d e = true then _ else _) ≠ _
  split <;> intro h <;> cases h
theorem dp_eq (hu : X.A.units + 64 < cLine) (ha : DW X W a f) (hb : DW X W b g) : DP X W (.Compare a [.Eq] [b] pos) (op2 eqD f g) :=
  dp_cmp (op_eqP hu) (sim_dat fun d e h => ⟨(cmpOk_iff.mp h).1, (cmpOk_iff.mp h).2.1⟩) noer_dat ha hb (nomark _)
theorem dp_ne (hu : X.A.units + 64 < cLine) (ha : DW X W a f) (hb : DW X W b g) : DP X W (.Compare a [.NotEq] [b] pos) (op2 neD f g) :=
  dp_cmp (op_neP hu) (sim_dat fun d e h => ⟨(cmpOk_iff.mp h).1, (cmpOk_iff.mp h).2.1⟩) noer_dat ha hb (nomark _)
/-- may be told apart by < -/
def D.isNon : D → Bool
  | .non => true
  | _ => false
def ltOk (d e : D) : Bool := cmpOk d e && PySem.W.alike d.py e.py && !d.isNon
def ltvD (d e : D) : Bool := PySem.W.dataLt d.py e.py
theorem ltOk_iff {d e : D} : ltOk d e = true ↔ (d.pl = true ∧ e.pl = true ∧ d.dep ≤ 40 ∧ e.dep ≤ 40) ∧ PySem.W.alike d.py e.py = true ∧ d.isNon = false := by
  unfold ltOk
  rw [Bool.and_eq_true, Bool.and_eq_true, cmpOk_iff, Bool.not_eq_true', and_assoc]
theorem py_ne_none {d : D} (h : d.pl = true) (n : d.isNon = false) : d.py ≠ .none := by
  cases d <;> first | cases n; done | cases h; done | (intro q; cases q)
def ltD (d e : D) : R Sl := if ltOk d e then .ok (.sh (.bl (ltvD d e))) else .bad
def gtD (d e : D) : R Sl := if ltOk d e then .ok (.sh (.bl (ltvD e d))) else .bad
def leD (d e : D) : R Sl := if ltOk d e then .ok (.sh (.bl (!ltvD e d))) else .bad
def geD (d e : D) : R Sl := if ltOk d e then .ok (.sh (.bl (!ltvD d e))) else .bad
theorem op_ltP (hu : X.A.units + 64 < cLine) : OpR X (compareOp .Lt) (rDat X.K ltOk ltvD) := by
  intro pins s σ H x y v u Q I rx ry h
  obtain ⟨d, e, hd, he, c, q⟩ := h
  obtain ⟨⟨c1, c2, c3, c4⟩, c5, c6⟩ := ltOk_iff.mp c
  obtain ⟨as, r1⟩ := Dp.reads I d.py x v hd rx
  obtain ⟨bs, r2⟩ := Dp.reads I e.py y u he ry
  exact PySem.W.lt_data r1 r2 c5 (py_ne_none c1 c6) (min_dep hu c3) ⟨.bl _, H, I, rfl, q⟩
theorem op_gtP (hu : X.A.units + 64 < cLine) : OpR X (compareOp .Gt) (rDat X.K ltOk fun d e => ltvD e d) := by
  intro pins s σ H x y v u Q I rx ry h
  obtain ⟨d, e, hd, he, c, q⟩ := h
  obtain ⟨⟨c1, c2, c3, c4⟩, c5, c6⟩ := ltOk_iff.mp c
  obtain ⟨as, r1⟩ := Dp.reads I d.py x v hd rx
  obtain ⟨bs, r2⟩ := Dp.reads I e.py y u he ry
  exact PySem.W.gt_data r1 r2 c5 (py_ne_none c1 c6) (min_dep hu c3) ⟨.bl _, H, I, rfl, q⟩
theorem op_leP (hu : X.A.units + 64 < cLine) : OpR X (compareOp .LtE) (rDat X.K ltOk fun d e => !ltvD e d) := by
  intro pins s σ H x y v u Q I rx ry h
  obtain ⟨d, e, hd, he, c, q⟩ := h
  obtain ⟨⟨c1, c2, c3, c4⟩, c5, c6⟩ := ltOk_iff.mp c
  obtain ⟨as, r1⟩ := Dp.reads I d.py x v hd rx
  obtain ⟨bs, r2⟩ := Dp.reads I e.py y u he ry
  exact PySem.W.le_data r1 r2 c5 (py_ne_none c1 c6) (min_dep hu c3) ⟨.bl _, H, I, rfl, q⟩
theorem op_geP (hu : X.A.units + 64 < cLine) : OpR X (compareOp .GtE) (rDat X.K ltOk fun d e => !ltvD d e) := by
  intro pins s σ H x y v u Q I rx ry h
  obtain ⟨d, e, hd, he, c, q⟩ := h
  obtain ⟨⟨c1, c2, c3, c4⟩, c5, c6⟩ := ltOk_iff.mp c
  obtain ⟨as, r1⟩ := Dp.reads I d.py x v hd rx
  obtain ⟨bs, r2⟩ := Dp.reads I e.py y u he ry
  exact PySem.W.ge_data r1 r2 c5 (py_ne_none c1 c6) (min_dep hu c3) ⟨.bl _, H, I, rfl, q⟩
theorem ltOk_pl (d e : D) (h : ltOk d e = true) : d.pl = true ∧ e.pl = true := ⟨(ltOk_iff.mp h).1.1, (ltOk_iff.mp h).1.2.1⟩
theorem dp_lt (hu : X.A.units + 64 < cLine) (ha : DW X W a f) (hb : DW X W b g) : DP X W (.Compare a [.Lt] [b] pos) (op2 ltD f g) := dp_cmp (op_ltP hu) (sim_dat ltOk_pl) noer_dat ha hb (nomark _)
theorem dp_gt (hu : X.A.units + 64 < cLine) (ha : DW X W a f) (hb : DW X W b g) : DP X W (.Compare a [.Gt] [b] pos) (op2 gtD f g) := dp_cmp (op_gtP hu) (sim_dat ltOk_pl) noer_dat ha hb (nomark _)
theorem dp_le (hu : X.A.units + 64 < cLine) (ha : DW X W a f) (hb : DW X W b g) : DP X W (.Compare a [.LtE] [b] pos) (op2 leD f g) := dp_cmp (op_leP hu) (sim_dat ltOk_pl) noer_dat ha hb (nomark _)
theorem dp_ge (hu : X.A.units + 64 < cLine) (ha : DW X W a f) (hb : DW X W b g) : DP X W (.Compare a [.GtE] [b] pos) (op2 geD f g) := dp_cmp (op_geP hu) (sim_dat ltOk_pl) noer_dat ha hb (nomark _)

/-! ### is None -/
def isND (d e : D) : R Sl := match e with
  | .non => .ok (.sh (.bl d.isNon))
  | _ => .bad
def notND (d e : D) : R Sl := match e with
  | .non => .ok (.sh (.bl (!d.isNon)))
  | _ => .bad
theorem Vw.isNon {K : PySem.W.Frag} {mg : Str → Option Value} {H F : Hp} {v : V} {d : D} (h : Vw K mg H F v d) : decide (v = .non) = d.isNon := by
  rcases h with h | ⟨a, fp, rfl, o, _⟩
  · cases h <;> rfl
  · cases o <;> rfl
theorem dp_isN (ha : DW X W a f) (hb : DW X W b g) : DP X W (.Compare a [.Is] [b] pos) (op2 isND f g) := by
  refine dp_cmp op_isN (fun H F v w d e Q s a b f => ?_) (fun d e c => ?_) ha hb (nomark _)
  · cases e <;> try exact f.elim
    refine ⟨b.non, ?_⟩
    rw [a.isNon]
    exact f _ H F (Ext.refl s) (.bl _)
  · cases e <;> intro h <;> cases h
theorem dp_notN (ha : DW X W a f) (hb : DW X W b g) : DP X W (.Compare a [.IsNot] [b] pos) (op2 notND f g) := by
  refine dp_cmp op_notN (fun H F v w d e Q s a b f => ?_) (fun d e c => ?_) ha hb (nomark _)
  · cases e <;> try exact f.elim
    refine ⟨b.non, ?_⟩
    rw [a.isNon]
    exact f _ H F (Ext.refl s) (.bl _)
  · cases e <;> intro h <;> cases h
end
end DL
end

section
set_option Elab.async false
set_option linter.all false
set_option maxRecDepth 100000
namespace DL
open PySem PySem.Spec PyProof.Rows L2

/-! ### dicts -/
section
variable {κ α : Type} [DecidableEq κ]
def dlook : List (κ × α) → κ → Option α
  | [], _ => none
  | p :: r, k => if p.1 = k then some p.2 else dlook r k
def dput (kvs : List (κ × α)) (k : κ) (v : α) : List (κ × α) :=
  if (dlook kvs k).isSome then kvs.map (fun kv => if kv.1 = k then (kv.1, v) else kv) else kvs ++ [(k, v)]
def ddrop (kvs : List (κ × α)) (k : κ) : List (κ × α) := kvs.filter fun kv => decide (kv.1 ≠ k)
theorem dlook_any (k : κ) : ∀ kvs : List (κ × α), (kvs.any fun kv => decide (kv.1 = k)) = (dlook kvs k).isSome
  | [] => rfl
  | p :: r => by
    rw [List.any_cons, dlook_any k r, dlook]
    by_cases e : p.1 = k
    · rw [if_pos e]; simp [e]
    · rw [if_neg e]; simp [e]
end
/-- a key that is a tuple of texts -/
def strsOf : List D → Option (List Str)
  | [] => some []
  | .str x :: r => (strsOf r).map (x :: ·)
  | _ => none
def D.key : D → Option (List Str)
  | .tup ds => strsOf ds
  | _ => none
theorem strsOf_eq : ∀ {ds : List D} {w : List Str}, strsOf ds = some w → ds = w.map .str
  | [], w, h => by cases h; rfl
  | d :: r, w, h => by
    cases d with
    | str x =>
      unfold strsOf at h
      cases q : strsOf r with
      | none => rw [q] at h; cases h
      | some w' =>
        rw [q] at h
        cases h
        rw [strsOf_eq q]
        rfl
    | _ => cases h
theorem strsOf_map : ∀ w : List Str, strsOf (w.map .str) = some w
  | [] => rfl
  | x :: r => by
    show (strsOf (r.map D.str)).map (x :: ·) = _
    rw [strsOf_map r]
    rfl
theorem key_map (w : List Str) : (D.tup (w.map .str)).key = some w := strsOf_map w
theorem kinr_inj : ∀ {a b : List Str}, a.map (Sum.inr : Str → Key) = b.map Sum.inr → a = b
  | [], [], _ => rfl
  | [], _ :: _, h => by simp at h
  | _ :: _, [], h => by simp at h
  | x :: a, y :: b, h => by
    have h' := List.cons.inj h
    rw [Sum.inr.inj h'.1, kinr_inj h'.2]
section
variable {K : PySem.W.Frag} {F H : Hp} {mg : Str → Option Value}
theorem repL_strs : ∀ {w : List Str} {vs : List V}, RepL K F vs (w.map .str) → vs = (w.map (Sum.inr : Str → Key)).map kV
  | [], vs, r => by
    have r' : RepL K F vs [] := r
    cases r'
    rfl
  | x :: w, vs, r => by
    have r' : RepL K F vs (.str x :: w.map .str) := r
    cases r' with
    | cons h t =>
      cases h
      rw [repL_strs t]
      rfl
theorem RepT.val : ∀ {kvs : List (List Key × V)} {ds : List (List Str × D)} (w : List Str), RepT K F kvs ds → (valV kvs (w.map Sum.inr) = none ∧ dlook ds w = none) ∨ ∃ v d, valV kvs (w.map Sum.inr) = some v ∧ dlook ds w = some d ∧ Rep K F v d
  | _, _, w, .nil => .inl ⟨rfl, rfl⟩
  | _, _, w, .cons (w := w') h r => by
    by_cases e : w' = w
    · subst e
      exact .inr ⟨_, _, valV_pos rfl, by rw [dlook, if_pos rfl], h⟩
    · rw [valV_neg (fun q => e (kinr_inj q)), dlook, if_neg e]
      exact r.val w
theorem RepS.val : ∀ {kvs : List (Key × V)} {ds : List (Str × D)} (w : Str), RepS K F kvs ds → (valV kvs (Sum.inr w) = none ∧ dlook ds w = none) ∨ ∃ v d, valV kvs (Sum.inr w) = some v ∧ dlook ds w = some d ∧ Rep K F v d
  | _, _, w, .nil => .inl ⟨rfl, rfl⟩
  | _, _, w, .cons (x := w') h r => by
    by_cases e : w' = w
    · subst e
      exact .inr ⟨_, _, valV_pos rfl, by rw [dlook, if_pos rfl], h⟩
    · rw [valV_neg (fun q => e (Sum.inr.inj q)), dlook, if_neg e]
      exact r.val w
theorem RepT.repl (w : List Str) {v : V} {d : D} (h : Rep K F v d) : ∀ {kvs : List (List Key × V)} {ds : List (List Str × D)}, RepT K F kvs ds →
    RepT K F (kvs.map fun kv => if kv.1 = w.map Sum.inr then (kv.1, v) else kv) (ds.map fun kv => if kv.1 = w then (kv.1, d) else kv)
  | _, _, .nil => .nil
  | _, _, .cons (w := w') h' r => by
    rw [List.map_cons, List.map_cons]
    by_cases e : w' = w
    · subst e
      rw [if_pos rfl, if_pos rfl]
      exact .cons h (r.repl _ h)
    · rw [if_neg (fun q => e (kinr_inj q)), if_neg e]
      exact .cons h' (r.repl _ h)
theorem RepS.repl (w : Str) {v : V} {d : D} (h : Rep K F v d) : ∀ {kvs : List (Key × V)} {ds : List (Str × D)}, RepS K F kvs ds →
    RepS K F (kvs.map fun kv => if kv.1 = Sum.inr w then (kv.1, v) else kv) (ds.map fun kv => if kv.1 = w then (kv.1, d) else kv)
  | _, _, .nil => .nil
  | _, _, .cons (x := w') h' r => by
    rw [List.map_cons, List.map_cons]
    by_cases e : w' = w
    · subst e
      rw [if_pos rfl, if_pos rfl]
      exact .cons h (r.repl _ h)
    · rw [if_neg (fun q => e (Sum.inr.inj q)), if_neg e]
      exact .cons h' (r.repl _ h)
theorem RepT.app : ∀ {kvs ls : List (List Key × V)} {ds es : List (List Str × D)}, RepT K F kvs ds → RepT K F ls es → RepT K F (kvs ++ ls) (ds ++ es)
  | _, _, _, _, .nil, s => s
  | _, _, _, _, .cons h r, s => .cons h (r.app s)
theorem RepS.app : ∀ {kvs ls : List (Key × V)} {ds es : List (Str × D)}, RepS K F kvs ds → RepS K F ls es → RepS K F (kvs ++ ls) (ds ++ es)
  | _, _, _, _, .nil, s => s
  | _, _, _, _, .cons h r, s => .cons h (r.app s)
theorem RepT.put {kvs : List (List Key × V)} {ds : List (List Str × D)} (r : RepT K F kvs ds) (w : List Str) {v : V} {d : D} (h : Rep K F v d) : RepT K F (putK kvs (w.map Sum.inr) v) (dput ds w d) := by
  unfold putK dput
  rw [valV_any]
  rcases r.val w with ⟨e1, e2⟩ | ⟨x, y, e1, e2, _⟩
  · rw [e1, e2, if_neg (by simp), if_neg (by simp)]
    exact r.app (.cons h .nil)
  · rw [e1, e2, if_pos (show (some x).isSome = true from rfl), if_pos (show (some y).isSome = true from rfl)]
    exact r.repl w h
theorem RepS.put {kvs : List (Key × V)} {ds : List (Str × D)} (r : RepS K F kvs ds) (w : Str) {v : V} {d : D} (h : Rep K F v d) : RepS K F (putK kvs (Sum.inr w) v) (dput ds w d) := by
  unfold putK dput
  rw [valV_any]
  rcases r.val w with ⟨e1, e2⟩ | ⟨x, y, e1, e2, _⟩
  · rw [e1, e2, if_neg (by simp), if_neg (by simp)]
    exact r.app (.cons h .nil)
  · rw [e1, e2, if_pos (show (some x).isSome = true from rfl), if_pos (show (some y).isSome = true from rfl)]
    exact r.repl w h
theorem RepT.drop (w : List Str) : ∀ {kvs : List (List Key × V)} {ds : List (List Str × D)}, RepT K F kvs ds → RepT K F (dropK kvs (w.map Sum.inr)) (ddrop ds w)
  | _, _, .nil => .nil
  | _, _, .cons (w := w') h r => by
    unfold dropK ddrop
    by_cases e : w' = w
    · subst e
      rw [List.filter_cons_of_neg (by simp), List.filter_cons_of_neg (by simp)]
      exact r.drop _
    · rw [List.filter_cons_of_pos (by simpa using fun q => e (kinr_inj q)), List.filter_cons_of_pos (by simpa using e)]
      exact .cons h (r.drop w)
/-- what a viewed dict holds at a viewed key -/
def dgetD (c k : D) : R (Option D) := match c with
  | .dS kvs => (match k with
    | .str x => .ok (dlook kvs x)
    | _ => .bad)
  | .dT kvs => (match k.key with
    | some w => .ok (dlook kvs w)
    | none => .bad)
  | _ => .bad
theorem Vw.dget {x y : V} {c k : D} {o : Option D} (s : Same F H) (hc : Vw K mg H F x c) (hk : Vw K mg H F y k) (e : dgetD c k = .ok o) :
    ∃ a r, x = .ref a ∧ DGet H a y r ∧ ((r = none ∧ o = none) ∨ ∃ v d, r = some v ∧ o = some d ∧ Rep K F v d) := by
  cases c <;> try (cases e; done)
  · rename_i kvs
    cases k <;> try (cases e; done)
    rename_i z
    cases e
    obtain ⟨a, ks, rfl, h, r⟩ := hc.dS s
    have ey := hk.str
    subst ey
    refine ⟨a, _, rfl, (.inl ⟨ks, Sum.inr z, h, rfl, rfl⟩), ?_⟩
    rcases r.val z with q | ⟨v, d, q1, q2, q3⟩
    · exact .inl q
    · exact .inr ⟨v, d, q1, q2, q3⟩
  · rename_i kvs
    obtain ⟨a, ks, rfl, h, r⟩ := hc.dT s
    cases k <;> try (cases e; done)
    rename_i ds
    have e' : (match strsOf ds with
      | some w => R.ok (dlook kvs w)
      | none => .bad) = .ok o := e
    cases q : strsOf ds with
    | none => rw [q] at e'; cases e'
    | some w =>
      rw [q] at e'
      cases e'
      have e2 := strsOf_eq q
      subst e2
      obtain ⟨b, vs, rfl, hb, rb⟩ := hk.tup
      have e3 := repL_strs rb
      subst e3
      refine ⟨a, _, rfl, (.inr ⟨ks, w.map Sum.inr, _, h, rfl, s _ _ hb, rfl⟩), ?_⟩
      rcases r.val w with q | ⟨v, d, q1, q2, q3⟩
      · exact .inl q
      · exact .inr ⟨v, d, q1, q2, q3⟩
end

/-! ### in -/
def inSeq (x : D) (ds : List D) : R Bool := if x.pl && decide (x.dep ≤ 40) && D.pls ds && decide (D.deps ds ≤ 40) then .ok (ds.any fun z => eqvD z x) else .bad
def inD0 (x c : D) : R Bool := match c with
  | .lst ds => inSeq x ds
  | .tup ds => inSeq x ds
  | .str z => (match x with
    | .str y => if y.length = 1 then .ok (decide (y.cps.getD 0 0 ∈ z.cps.toList)) else .bad
    | _ => .bad)
  | c => (dgetD c x).bind fun o => .ok o.isSome
def inD (x c : D) : R Sl := (inD0 x c).bind fun b => .ok (.sh (.bl b))
def ninD (x c : D) : R Sl := (inD0 x c).bind fun b => .ok (.sh (.bl (!b)))
theorem inSeq_ok {x : D} {ds : List D} {b : Bool} (h : inSeq x ds = .ok b) : (x.pl = true ∧ x.dep ≤ 40 ∧ D.pls ds = true ∧ D.deps ds ≤ 40) ∧ b = ds.any fun z => eqvD z x := by
  unfold inSeq at h
  split at h
  · rename_i c
    simp only [Bool.and_eq_true, decide_eq_true_eq] at c
    cases h
    exact ⟨⟨c.1.1.1, c.1.1.2, c.1.2, c.2⟩, rfl⟩
  · cases h
theorem any_pys (x : D) : ∀ ds : List D, ((D.pys ds).any fun y => PyData.eqv y x.py) = ds.any fun z => eqvD z x
  | [] => rfl
  | d :: r => by rw [D.pys, List.any_cons, List.any_cons, any_pys x r]; rfl
section
variable {X : Cx} {W : WX} {a b : Expr} {f g : Tau → R D} {pos : Pos}
def rInP (K : PySem.W.Frag) (neg : Bool) : R2 := fun x y H Q => ∃ d ds, Dp K H x d.py ∧ (Dp K H y (.list (D.pys ds)) ∨ Dp K H y (.tuple (D.pys ds))) ∧ (d.pl = true ∧ d.dep ≤ 40 ∧ D.pls ds = true ∧ D.deps ds ≤ 40) ∧ Q (.bl (xor neg (ds.any fun z => eqvD z d))) H
theorem in_dep {A : Around} {d : D} {ds : List D} (hu : A.units + 64 < cLine) (h : d.dep ≤ 40) : A.units + 1 + min (PyData.depthAll (D.pys ds)) d.py.depth < cLine := by
  have h1 := D.py_dep d
  have h2 := Nat.min_le_right (PyData.depthAll (D.pys ds)) d.py.depth
  omega
theorem op_inP (hu : X.A.units + 64 < cLine) : OpR X (compareOp .In) (rInP X.K false) := by
  intro pins s σ H x y v u Q I rx ry h
  obtain ⟨d, ds, hd, hs, ⟨c1, c2, c3, c4⟩, q⟩ := h
  obtain ⟨as, r1⟩ := Dp.reads I d.py x v hd rx
  have q' : EP X pins σ Q (.bool ((D.pys ds).any fun y => PyData.eqv y d.py)) s := ⟨.bl _, H, I, rfl, by rw [any_pys]; simpa using q⟩
  rcases hs with hs | hs
  · obtain ⟨bs, r2⟩ := Dp.reads I _ y u hs ry
    exact SeqAt.in_list_data r2 r1 (D.pys_plain ds c3) (D.py_plain d c1) (in_dep hu c2) q'
  · obtain ⟨bs, r2⟩ := Dp.reads I _ y u hs ry
    exact SeqAt.in_tuple_data r2 r1 (D.pys_plain ds c3) (D.py_plain d c1) (in_dep hu c2) q'
theorem op_ninP (hu : X.A.units + 64 < cLine) : OpR X (compareOp .NotIn) (rInP X.K true) := by
  intro pins s σ H x y v u Q I rx ry h
  obtain ⟨d, ds, hd, hs, ⟨c1, c2, c3, c4⟩, q⟩ := h
  obtain ⟨as, r1⟩ := Dp.reads I d.py x v hd rx
  have q' : EP X pins σ Q (.bool (!(D.pys ds).any fun y => PyData.eqv y d.py)) s := ⟨.bl _, H, I, rfl, by rw [any_pys]; simpa using q⟩
  rcases hs with hs | hs
  · obtain ⟨bs, r2⟩ := Dp.reads I _ y u hs ry
    exact SeqAt.notIn_list_data r2 r1 (D.pys_plain ds c3) (D.py_plain d c1) (in_dep hu c2) q'
  · obtain ⟨bs, r2⟩ := Dp.reads I _ y u hs ry
    exact SeqAt.notIn_tuple_data r2 r1 (D.pys_plain ds c3) (D.py_plain d c1) (in_dep hu c2) q'
def rInDc (neg : Bool) : R2 := fun y x H Q => ∃ a o, x = .ref a ∧ DGet H a y o ∧ Q (.bl (xor neg o.isSome)) H
theorem op_inDc (hu : X.A.units + 64 < cLine) : OpR X (compareOp .In) (rInDc false) := by
  intro pins s σ H y x iv u Q I ry rx h
  obtain ⟨a, o, rfl, g, q⟩ := h
  obtain rfl : u = Value.ref a := rx
  exact d_in (by omega) I g ry fun s3 I3 => ⟨.bl o.isSome, H, I3, rfl, by simpa using q⟩
theorem op_ninDc (hu : X.A.units + 64 < cLine) : OpR X (compareOp .NotIn) (rInDc true) := by
  intro pins s σ H y x iv u Q I ry rx h
  obtain ⟨a, o, rfl, g, q⟩ := h
  obtain rfl : u = Value.ref a := rx
  exact d_notIn (by omega) I g ry fun s3 I3 => ⟨.bl (!o.isSome), H, I3, rfl, by simpa using q⟩
theorem str_one {y : Str} (h : y.length = 1) : y = ⟨#[y.cps.getD 0 0]⟩ := by
  obtain ⟨⟨l⟩⟩ := y
  match l, h with
  | [c], _ => rfl
theorem inD0_noer (d e : D) (c : Str) : inD0 d e ≠ .er c := by
  unfold inD0
  cases e <;> simp only [dgetD] <;> first
    | (unfold inSeq; split <;> intro h <;> cases h)
    | (cases d <;> first | (intro h; cases h; done) | (simp only []; split <;> intro h <;> cases h))
    | (intro h; cases h; done)
    | (cases d.key <;> intro h <;> cases h)
theorem sim_in (neg : Bool) : OpSim X (fun x y H Q => rInP X.K neg x y H Q ∨ (rInDc neg x y H Q ∨ ∃ (c : Nat) (z : Str), x = .str ⟨#[c]⟩ ∧ y = .str z ∧ Q (.bl (xor neg (decide (c ∈ z.cps.toList)))) H)) (fun x c => (inD0 x c).bind fun b => .ok (.sh (.bl (xor neg b)))) := by
  intro H F v w d e Q s a b f
  dsimp only at f
  cases q : inD0 d e with
  | er c => exact absurd q (inD0_noer d e c)
  | bad => rw [q] at f; exact f.elim
  | ok bb =>
    rw [q] at f
    have fin : Q (.bl (xor neg bb)) H := f _ H F (Ext.refl s) (.bl _)
    cases e with
    | lst ds =>
      obtain ⟨c, rfl⟩ := inSeq_ok q
      exact .inl ⟨d, ds, a.dp s c.1, .inl (b.dp s (by rw [D.pl]; exact c.2.2.1)), c, fin⟩
    | tup ds =>
      obtain ⟨c, rfl⟩ := inSeq_ok q
      exact .inl ⟨d, ds, a.dp s c.1, .inr (b.dp s (by rw [D.pl]; exact c.2.2.1)), c, fin⟩
    | str z =>
      cases d <;> try (cases q; done)
      rename_i y
      have q' : (if y.length = 1 then R.ok (decide (y.cps.getD 0 0 ∈ z.cps.toList)) else .bad) = .ok bb := q
      split at q'
      · rename_i hl
        cases q'
        exact .inr (.inr ⟨_, z, by rw [a.str, ← str_one hl], b.str, fin⟩)
      · cases q'
    | dS kvs =>
      have q' : (dgetD (.dS kvs) d).bind (fun o => R.ok o.isSome) = .ok bb := q
      cases q2 : dgetD (.dS kvs) d with
      | ok o =>
        rw [q2] at q'
        cases q'
        obtain ⟨a1, r, rfl, g, h⟩ := b.dget s a q2
        refine .inr (.inl ⟨a1, r, rfl, g, ?_⟩)
        rcases h with ⟨rfl, rfl⟩ | ⟨v, d, rfl, rfl, _⟩ <;> exact fin
      | er c => rw [q2] at q'; cases q'
      | bad => rw [q2] at q'; cases q'
    | dT kvs =>
      have q' : (dgetD (.dT kvs) d).bind (fun o => R.ok o.isSome) = .ok bb := q
      cases q2 : dgetD (.dT kvs) d with
      | ok o =>
        rw [q2] at q'
        cases q'
        obtain ⟨a1, r, rfl, g, h⟩ := b.dget s a q2
        refine .inr (.inl ⟨a1, r, rfl, g, ?_⟩)
        rcases h with ⟨rfl, rfl⟩ | ⟨v, d, rfl, rfl, _⟩ <;> exact fin
      | er c => rw [q2] at q'; cases q'
      | bad => rw [q2] at q'; cases q'
    | _ => cases q
theorem noer_in (k : Bool → Bool) : NoEr (fun x c => (inD0 x c).bind fun b => .ok (.sh (.bl (k b)))) := by
  intro d e c
  show (inD0 d e).bind (fun b => R.ok (Sl.sh (D.bl (k b)))) ≠ _
  cases q : inD0 d e with
  | ok b => intro h; cases h
  | er c => exact absurd q (inD0_noer d e c)
  | bad => intro h; cases h
theorem op_in1 : OpR X (compareOp .In) (fun x y H Q => ∃ (c : Nat) (z : Str), x = .str ⟨#[c]⟩ ∧ y = .str z ∧ Q (.bl (xor false (decide (c ∈ z.cps.toList)))) H) := by
  intro pins s σ H x y v u Q I rx ry h
  obtain ⟨c, z, e1, e2, q⟩ := h
  exact op_in_sign pins s σ H x y v u Q I rx ry ⟨c, z, e1, e2, by simpa using q⟩
theorem op_nin1 : OpR X (compareOp .NotIn) (fun x y H Q => ∃ (c : Nat) (z : Str), x = .str ⟨#[c]⟩ ∧ y = .str z ∧ Q (.bl (xor true (decide (c ∈ z.cps.toList)))) H) := by
  intro pins s σ H x y v u Q I rx ry h
  obtain ⟨c, z, e1, e2, q⟩ := h
  exact op_notIn_sign pins s σ H x y v u Q I rx ry ⟨c, z, e1, e2, by simpa using q⟩
theorem dp_in (hu : X.A.units + 64 < cLine) (ha : DW X W a f) (hb : DW X W b g) (hm : behindInMarks .In b = false) : DP X W (.Compare a [.In] [b] pos) (op2 inD f g) := by
  have e : inD = fun x c => (inD0 x c).bind fun b => .ok (.sh (.bl (xor false b))) := by
    funext x c
    unfold inD
    simp
  rw [e]
  exact dp_cmp ((op_inP hu).or ((op_inDc hu).or op_in1)) (sim_in false) (noer_in _) ha hb hm
theorem dp_nin (hu : X.A.units + 64 < cLine) (ha : DW X W a f) (hb : DW X W b g) (hm : behindInMarks .NotIn b = false) : DP X W (.Compare a [.NotIn] [b] pos) (op2 ninD f g) := by
  have e : ninD = fun x c => (inD0 x c).bind fun b => .ok (.sh (.bl (xor true b))) := by
    funext x c
    unfold ninD
    simp
  rw [e]
  exact dp_cmp ((op_ninP hu).or ((op_ninDc hu).or op_nin1)) (sim_in true) (noer_in _) ha hb hm
end
end DL
end

section
set_option Elab.async false
set_option linter.all false
set_option maxRecDepth 100000
namespace DL
open PySem PySem.Spec PyProof.Rows L2

section
variable {X : Cx} {W : WX} {a b e : Expr} {f g : Tau → R D} {pos : Pos}
/-! ### names, constants -/
def vR (i : Nat) : Tau → R Sl := fun τ => match τ[i]? with
  | some (.sh d) => .ok (.sh d)
  | some (.ow d) => .ok (.bw d)
  | some (.io d) => .ok (.bw d)
  | _ => .bad
theorem dp_var (i : Nat) {x : Str} (hN : X.N[i]? = some x) (hv : Vis X.env.scope x) (hd : (x == ("__debug__" : Str)) = false) (hcd : (x == ("__classdict__" : Str)) = false) : DP X W (.Name x pos) (vR i) := by
  refine ⟨_, pe_var hN hv hd hcd, fun B τ σ H F Q r h => ?_⟩
  have h' : Fin X.mg W σ H F (match τ[i]? with
    | some (.sh d) => R.ok (Sl.sh d)
    | some (.ow d) => .ok (.bw d)
    | some (.io d) => .ok (.bw d)
    | _ => .bad) (BrX X H) Q := h
  cases q : τ[i]? with
  | none => rw [q] at h'; exact h'.elim
  | some s =>
    rw [q] at h'
    obtain ⟨fp, ok⟩ := r.get q
    have jn : ∀ v, σ[i]?.join = some v → σ[i]? = some (some v) := fun v e => by
      cases z : σ[i]? with
      | none => rw [z] at e; cases e
      | some w => rw [z] at e; exact congrArg some e
    cases s with
    | un => exact h'.elim
    | bw d => exact h'.elim
    | sh d =>
      obtain ⟨_, v, e, rp⟩ := ok
      exact ⟨v, jn v e, h' v H F r.refl rp⟩
    | ow d =>
      obtain ⟨a, e, o, _, n⟩ := ok
      exact ⟨_, jn _ e, h' _ H F r.refl ⟨a, fp, rfl, o, fun b hb => (n b hb).1⟩⟩
    | io d =>
      obtain ⟨a, e, _, o, _, n⟩ := ok
      exact ⟨_, jn _ e, h' _ H F r.refl ⟨a, fp, rfl, o, fun b hb => (n b hb).1⟩⟩
def vC (d : D) : Tau → R D := fun _ => .ok d
theorem dv_c {v : V} {d : D} (h : PE X e (tC v)) (r : ∀ F, Rep X.K F v d) : DV X W e (vC d) :=
  ⟨_, h, fun B τ σ H F Q s h => h v H F s.refl (r F)⟩
theorem dv_int {i : Int} {j : Nat} : DV X W (.Constant (.int i) j pos) (vC (.int i)) := dv_c pe_int fun _ => .int i
theorem dv_bl {i : Bool} {j : Nat} : DV X W (.Constant (.bool i) j pos) (vC (.bl i)) := dv_c pe_bl fun _ => .bl i
theorem dv_str {i : Str} {j : Nat} : DV X W (.Constant (.str i) j pos) (vC (.str i)) := dv_c pe_str fun _ => .str i
theorem dv_non {j : Nat} : DV X W (.Constant .none j pos) (vC .non) := dv_c pe_non fun _ => .non
theorem dv_gstr {x z : Str} (hg : Gl X x) (hm : ∃ t, X.mg x = some (.str z t)) (hd : (x == ("__debug__" : Str)) = false) : DV X W (.Name x pos) (vC (.str z)) := by
  obtain ⟨t, hm⟩ := hm
  exact dv_c (v := .str z) (pe_glob hg hm ⟨t, rfl⟩ hd) fun _ => .str z
theorem dv_gint {x : Str} {i : Int} (hg : Gl X x) (hm : ∃ t, X.mg x = some (.int i t)) (hd : (x == ("__debug__" : Str)) = false) : DV X W (.Name x pos) (vC (.int i)) := by
  obtain ⟨t, hm⟩ := hm
  exact dv_c (v := .int i) (pe_glob hg hm ⟨t, rfl⟩ hd) fun _ => .int i
/-- -n -/
def negD (f : Tau → R D) : Tau → R D := fun τ => (f τ).bind fun d => match d with
  | .int i => .ok (.int (-i))
  | _ => .bad
theorem dv_neg (h : DW X W a f) : DV X W (.UnaryOp .USub a pos) (negD f) := by
  obtain ⟨t, p, q⟩ := h
  refine ⟨_, pe_un un_neg p, fun B τ σ H F Q r h => q B τ σ H F _ r (h.seq fun d v H1 F1 e1 p1 h1 => ?_)⟩
  cases d <;> try exact h1.elim
  exact ⟨_, p1.int, h1 _ H1 F1 (Ext.refl e1.fh) (.int _)⟩

/-! ### a[b] -/
def ixD (c i : D) : R Sl := match c with
  | .lst ds => (match i with
    | .int k => ofO ((atI ds k).map .sh)
    | _ => .bad)
  | .tup ds => (match i with
    | .int k => ofO ((atI ds k).map .sh)
    | _ => .bad)
  | .str z => (match i with
    | .int k => if z.length ≤ sizeLine then ofO ((atI z.cps.toList k).map fun c => .sh (.str ⟨#[c]⟩)) else .bad
    | _ => .bad)
  | c => (dgetD c i).bind fun o => ofO (o.map .sh)
theorem RepL.at {K : PySem.W.Frag} {F : Hp} {vs : List V} {ds : List D} {k : Int} {d : D} (r : RepL K F vs ds) (h : atI ds k = some d) : ∃ v, atI vs k = some v ∧ Rep K F v d := by
  unfold atI at h ⊢
  rw [r.length]
  cases q : ixN ds.length k with
  | none => rw [q] at h; cases h
  | some j =>
    rw [q] at h
    exact r.get h
theorem ix_dict (hu : X.A.units + 1 < cLine) : IxR X (fun x y H Q => ∃ a v, x = .ref a ∧ DGet H a y (some v) ∧ Q v H) := by
  intro value slice pins s σ H x y v u Q I rx ry h hs
  obtain ⟨a, z, rfl, g, q⟩ := h
  obtain rfl : v = Value.ref a := rx
  have hT := dict_typeIs I g
  have h2 : wpAny (model X.prog X.w) X.A (getItem (.ref a) u) (EP X pins σ Q) X.xe s := d_getItem hu I g ry fun w' s3 I3 rw' => ⟨z, H, I3, rw', q⟩
  unfold subscriptTail
  refine wpAny_bind ?_
  rw [getitemInPython_of_ne hT.not_modules]
  refine wpAny_bind (wpAny_specialOf hT PySem.F.slot_dict_getitem.lookup ?_)
  have fin : wpAny (model X.prog X.w) X.A (subscripted slice false (.ref a) u) (fun r s₃ => wpAny (model X.prog X.w) X.A (letTemporaryGo value (.ref a) r >>= fun _ => pure r) (EP X pins σ Q) X.xe s₃) X.xe s := by
    rw [hs]
    exact wpAny_operating (wpAny_mono h2 (fun r s₃ h₃ => wpAny_bind (wpAny_letTemporaryGo (wpAny_pure h₃))) fun _ _ x => x)
  first
    | exact wpAny_pure (wpAny_bind fin)
    | exact wpAny_bind (wpAny_pure (wpAny_bind fin))
    | exact wpAny_bind fin
theorem dgetD_noer (d e : D) (c : Str) : dgetD d e ≠ .er c := by
  unfold dgetD
  cases d <;> first
    | (intro h; cases h; done)
    | (cases e <;> intro h <;> cases h; done)
    | (cases e.key <;> intro h <;> cases h)
theorem noer_ofO {α : Type} (o : Option α) (c : Str) : ofO o ≠ .er c := by cases o <;> intro h <;> cases h
theorem ixD_noer : NoEr ixD := by
  intro d e c
  cases d with
  | lst ds => cases e <;> first | exact noer_ofO _ _ | (intro h; cases h)
  | tup ds => cases e <;> first | exact noer_ofO _ _ | (intro h; cases h)
  | str z =>
    cases e <;> try (intro h; cases h; done)
    show (if _ then _ else _) ≠ _
    split
    · exact noer_ofO _ _
    · intro h; cases h
  | non => intro h; cases h
  | bl _ => intro h; cases h
  | int _ => intro h; cases h
  | obj _ _ => intro h; cases h
  | dS kvs =>
    show R.bind (dgetD (.dS kvs) e) _ ≠ _
    intro h
    cases q : dgetD (.dS kvs) e with
    | ok o => rw [q] at h; exact noer_ofO _ _ h
    | er c => exact dgetD_noer _ _ _ q
    | bad => rw [q] at h; cases h
  | dT kvs =>
    show R.bind (dgetD (.dT kvs) e) _ ≠ _
    intro h
    cases q : dgetD (.dT kvs) e with
    | ok o => rw [q] at h; exact noer_ofO _ _ h
    | er c => exact dgetD_noer _ _ _ q
    | bad => rw [q] at h; cases h
theorem sim_ix : OpSim X (fun x y H Q => rIx X.K x y H Q ∨ ∃ a v, x = .ref a ∧ DGet H a y (some v) ∧ Q v H) ixD := by
  intro H F v w d e Q s a b f
  have dc : ∀ {c : D}, (dgetD c e).bind (fun o => ofO (o.map Sl.sh)) = ixD c e → Vw X.K X.mg H F v c → Fin X.mg Wno [] H F (ixD c e) (BrX X H) Q → ∃ a v_1, v = .ref a ∧ DGet H a w (some v_1) ∧ Q v_1 H := by
    intro c ec a f
    rw [← ec] at f
    cases q : dgetD c e with
    | er c => exact absurd q (dgetD_noer _ _ _)
    | bad => rw [q] at f; exact f.elim
    | ok o =>
      rw [q] at f
      obtain ⟨a1, r, rfl, g, h⟩ := a.dget s b q
      rcases h with ⟨rfl, rfl⟩ | ⟨z, d, rfl, rfl, rp⟩
      · exact f.elim
      · exact ⟨a1, z, rfl, g, f z H F (Ext.refl s) rp⟩
  cases d with
  | lst ds =>
    cases e <;> try exact f.elim
    rename_i k
    have f' : Fin X.mg Wno [] H F (ofO ((atI ds k).map Sl.sh)) (BrX X H) Q := f
    cases q : atI ds k with
    | none => rw [q] at f'; exact f'.elim
    | some d =>
      rw [q] at f'
      obtain ⟨p, vs, rfl, h, r⟩ := a.lst s
      obtain ⟨z, hz, rz⟩ := r.at q
      exact .inl (.inl ⟨p, vs, k, z, rfl, b.int, h, hz, f' z H F (Ext.refl s) rz⟩)
  | tup ds =>
    cases e <;> try exact f.elim
    rename_i k
    have f' : Fin X.mg Wno [] H F (ofO ((atI ds k).map Sl.sh)) (BrX X H) Q := f
    cases q : atI ds k with
    | none => rw [q] at f'; exact f'.elim
    | some d =>
      rw [q] at f'
      obtain ⟨p, vs, rfl, h, r⟩ := a.tup
      obtain ⟨z, hz, rz⟩ := r.at q
      exact .inl (.inr (.inl ⟨p, vs, k, z, rfl, b.int, SqT.of (s _ _ h), hz, f' z H F (Ext.refl s) rz⟩))
  | str z =>
    cases e <;> try exact f.elim
    rename_i k
    have f' : Fin X.mg Wno [] H F (if z.length ≤ sizeLine then ofO ((atI z.cps.toList k).map fun c => Sl.sh (.str ⟨#[c]⟩)) else .bad) (BrX X H) Q := f
    split at f'
    · rename_i hl
      cases q : atI z.cps.toList k with
      | none => rw [q] at f'; exact f'.elim
      | some c =>
        rw [q] at f'
        exact .inl (.inr (.inr ⟨z, k, c, a.str, b.int, hl, q, f' _ H F (Ext.refl s) (.str _)⟩))
    · exact f'.elim
  | dS kvs => exact .inr (dc rfl a f)
  | dT kvs => exact .inr (dc rfl a f)
  | non => exact f.elim
  | bl _ => exact f.elim
  | int _ => exact f.elim
  | obj _ _ => exact f.elim
theorem dp_ix (hu : X.A.units + 64 < cLine) (ha : DW X W a f) (hb : DW X W b g) (hs : PlainIx b) : DP X W (.Subscript a b pos) (op2 ixD f g) := by
  obtain ⟨ta, pa, qa⟩ := ha
  obtain ⟨tb, pb, qb⟩ := hb
  exact ⟨_, pe_ix (ix_seq.or (ix_dict (by omega))) pa pb hs, sim_op sim_ix ixD_noer qa qb⟩

/-! ### a[lo:hi] -/
def cutD {α : Type} (xs : List α) (lo hi : Option Int) : List α := (xs.drop (HT.sIx xs.length 0 lo)).take (HT.sIx xs.length xs.length hi - HT.sIx xs.length 0 lo)
def slD (d : D) (lo hi : Option Int) : R Sl := match d with
  | .lst ds => .ok (.ow (.lst (cutD ds lo hi)))
  | .tup ds => .ok (.sh (.tup (cutD ds lo hi)))
  | .str z => if z.length ≤ sizeLine then .ok (.sh (.str (cutS z lo hi))) else .bad
  | _ => .bad
/-- a slice's part -/
def DO (X : Cx) (W : WX) (e : Option Expr) (f : Tau → R (Option Int)) : Prop := ∃ t, PO X e t ∧ ∀ B τ σ H F Q, SR X.K X.mg B H F σ τ → Fin X.mg W σ H F (f τ) (fun o v _ _ => v = o) Q → t σ H Q
def oN : Tau → R (Option Int) := fun _ => .ok none
def oS (f : Tau → R D) : Tau → R (Option Int) := fun τ => (f τ).bind fun d => match d with
  | .int i => .ok (some i)
  | _ => .bad
theorem do_none : DO X W none oN := ⟨_, po_none, fun B τ σ H F Q r h => h none H F r.refl rfl⟩
theorem do_some (h : DW X W e f) : DO X W (some e) (oS f) := by
  obtain ⟨t, p, q⟩ := h
  refine ⟨_, po_some p, fun B τ σ H F Q r h => q B τ σ H F _ r (h.seq fun d v H1 F1 e1 p1 h1 => ?_)⟩
  cases d <;> try exact h1.elim
  exact ⟨_, p1.int, h1 _ H1 F1 (Ext.refl e1.fh) rfl⟩
def sl3 (f : Tau → R D) (lo hi : Tau → R (Option Int)) : Tau → R Sl := fun τ => (f τ).bind fun d => (lo τ).bind fun l => (hi τ).bind fun u => slD d l u
theorem RepL.cut {K : PySem.W.Frag} {F : Hp} {vs : List V} {ds : List D} (r : RepL K F vs ds) (lo hi : Option Int) : RepL K F (cutV vs lo hi) (cutD ds lo hi) := by
  unfold cutV cutD
  rw [r.length]
  exact (r.drop _).take _
theorem cut_whole {α : Type} {xs : List α} {lo hi : Option Int} (h : HT.sIx xs.length 0 lo = 0 ∧ HT.sIx xs.length xs.length hi = xs.length) : cutD xs lo hi = xs := by
  unfold cutD
  rw [h.1, h.2, Nat.sub_zero, List.drop_zero, List.take_length]
theorem dp_slice {lo hi : Option Expr} {p2 : Pos} {l u : Tau → R (Option Int)} (ha : DW X W a f) (hl : DO X W lo l) (hh : DO X W hi u) : DP X W (.Subscript a (.Slice lo hi none p2) pos) (sl3 f l u) := by
  obtain ⟨ta, pa, qa⟩ := ha
  obtain ⟨tl, pl, ql⟩ := hl
  obtain ⟨tu, pu, qu⟩ := hh
  refine ⟨_, pe_slice (sl_list.or (sl_tupA.or sl_str)) pa pl pu, fun B τ σ H F Q s h => ?_⟩
  refine qa B τ σ H F _ s (h.seq fun d v H1 F1 e1 p1 h1 => ?_)
  refine ql B τ σ H1 F1 _ (s.ext e1) (h1.seq fun lo v2 H2 F2 e2 p2 h2 => ?_)
  refine qu B τ σ H2 F2 _ ((s.ext e1).ext e2) (h2.seq fun hi v3 H3 F3 e3 p3 h3 => ?_)
  subst p2 p3
  have x := (e1.trans e2).trans e3
  have sm := x.fh
  have p4 := (p1.ext e2).ext e3
  cases d with
  | non => exact h3.elim
  | bl _ => exact h3.elim
  | int _ => exact h3.elim
  | dS _ => exact h3.elim
  | dT _ => exact h3.elim
  | obj _ _ => exact h3.elim
  | tup ds =>
    obtain ⟨p, vs, rfl, h, r⟩ := p4.tup
    refine .inr (.inl ⟨p, vs, rfl, SqT.of (sm _ _ h), fun c => ?_, fun c q hq => ?_⟩)
    · have c' : HT.sIx ds.length 0 v2 = 0 ∧ HT.sIx ds.length ds.length v3 = ds.length := by rw [r.length] at c; exact c
      have e := cut_whole (xs := ds) c'
      have h4 : Fin X.mg W σ H3 F3 (R.ok (Sl.sh (.tup (cutD ds v2 v3)))) (BrX X H) Q := h3
      rw [e] at h4
      exact h4 _ H3 F3 (Ext.refl sm) (.tup h r)
    · have x1 := Ext.lay sm (.tup (cutV vs v2 v3)) hq
      exact h3 _ _ _ x1 (.tup upd_same ((r.cut v2 v3).mono x1.ff))
  | lst ds =>
    obtain ⟨p, vs, rfl, h, r⟩ := p4.lst sm
    refine .inl ⟨p, vs, rfl, h, fun q hq => ?_⟩
    exact h3 _ _ F3 (Ext.lay' sm _ hq) ⟨q, [q], rfl, .lst upd_same (r.cut v2 v3), by simp, fun b hb => by simp at hb; subst hb; exact ⟨sm.free hq, x.hh.free hq⟩⟩
  | str z =>
    have h4 : Fin X.mg W σ H3 F3 (if z.length ≤ sizeLine then R.ok (Sl.sh (.str (cutS z v2 v3))) else .bad) (BrX X H) Q := h3
    split at h4
    · rename_i hl
      exact .inr (.inr ⟨z, p4.str, hl, h4 _ H3 F3 (Ext.refl sm) (.str _)⟩)
    · exact h4.elim

/-! ### arguments, from the left -/
def DAk (X : Cx) (W : WX) (es : List Expr) (f : Tau → R (List D)) : Prop := ∃ t, PA X es t ∧ ∀ B τ σ H F Q, SR X.K X.mg B H F σ τ → Fin X.mg W σ H F (f τ) (fun ds vs _ F' => RepL X.K F' vs ds) Q → t σ H Q
abbrev VwL (X : Cx) (H F : Hp) (vs : List V) (ds : List D) : Prop := Paired (fun v d => Vw X.K X.mg H F v d) vs ds
def DAr (X : Cx) (W : WX) (es : List Expr) (f : Tau → R (List D)) : Prop := ∃ t, PA X es t ∧ ∀ B τ σ H F Q, SR X.K X.mg B H F σ τ → Fin X.mg W σ H F (f τ) (fun ds vs H' F' => VwL X H' F' vs ds) Q → t σ H Q
def aN : Tau → R (List D) := fun _ => .ok []
def aC (f : Tau → R D) (r : Tau → R (List D)) : Tau → R (List D) := fun τ => (f τ).bind fun d => (r τ).bind fun ds => .ok (d :: ds)
theorem VwL.ext {H F H' F' : Hp} (e : Ext H F H' F') : ∀ {vs : List V} {ds : List D}, VwL X H F vs ds → VwL X H' F' vs ds
  | _, _, .nil => .nil
  | _, _, .cons h r => .cons (h.ext e) (VwL.ext e r)
theorem dak_nil : DAk X W [] aN := ⟨_, pa_nil, fun B τ σ H F Q r h => h [] H F r.refl .nil⟩
theorem dar_nil : DAr X W [] aN := ⟨_, pa_nil, fun B τ σ H F Q r h => h [] H F r.refl .nil⟩
theorem dak_cons {es : List Expr} {r : Tau → R (List D)} (h : DV X W e f) (hr : DAk X W es r) (hs : starEach (e :: es) X.env = (false, eval e X.env) :: starEach es X.env) : DAk X W (e :: es) (aC f r) := by
  obtain ⟨t, p, q⟩ := h
  obtain ⟨u, pu, qu⟩ := hr
  refine ⟨_, pa_cons p pu hs, fun B τ σ H F Q s h => q B τ σ H F _ s (h.seq fun d v H1 F1 e1 p1 h1 => ?_)⟩
  refine qu B τ σ H1 F1 _ (s.ext e1) (h1.seq fun ds vs H2 F2 e2 p2 h2 => ?_)
  exact h2 _ H2 F2 (Ext.refl e2.fh) (.cons (Rep.mono e2.ff p1) p2)
theorem dar_cons {es : List Expr} {r : Tau → R (List D)} (h : DW X W e f) (hr : DAr X W es r) (hs : starEach (e :: es) X.env = (false, eval e X.env) :: starEach es X.env) : DAr X W (e :: es) (aC f r) := by
  obtain ⟨t, p, q⟩ := h
  obtain ⟨u, pu, qu⟩ := hr
  refine ⟨_, pa_cons p pu hs, fun B τ σ H F Q s h => q B τ σ H F _ s (h.seq fun d v H1 F1 e1 p1 h1 => ?_)⟩
  refine qu B τ σ H1 F1 _ (s.ext e1) (h1.seq fun ds vs H2 F2 e2 p2 h2 => ?_)
  exact h2 _ H2 F2 (Ext.refl e2.fh) (.cons (p1.ext e2) p2)

/-! ### displays -/
def tupE (f : Tau → R (List D)) : Tau → R D := fun τ => (f τ).bind fun ds => if ds.length ≤ 64 then .ok (.tup ds) else .bad
def lstE (f : Tau → R (List D)) : Tau → R Sl := fun τ => (f τ).bind fun ds => if ds.length ≤ 64 then .ok (.ow (.lst ds)) else .bad
theorem le64 {n : Nat} (h : n ≤ 64) : n ≤ sizeLine := by rw [sizeLine_eq]; omega
theorem dv_tup {es : List Expr} {r : Tau → R (List D)} {x1} (h : DAk X W es r) : DV X W (.Tuple es x1 pos) (tupE r) := by
  obtain ⟨u, pu, qu⟩ := h
  refine ⟨_, pe_tup pu, fun B τ σ H F Q s h => qu B τ σ H F _ s (h.seq fun ds vs H1 F1 e1 p1 h1 => ?_)⟩
  split at h1
  · rename_i hl
    refine ⟨by rw [p1.length]; exact le64 hl, fun p hp => ?_⟩
    have x1 := Ext.lay e1.fh (.tup vs) hp
    exact h1 _ _ _ x1 (.tup upd_same (p1.mono x1.ff))
  · exact h1.elim
theorem dp_lst {es : List Expr} {r : Tau → R (List D)} (h : DAk X W es r) : DP X W (.List es pos) (lstE r) := by
  obtain ⟨u, pu, qu⟩ := h
  refine ⟨_, pe_lst pu, fun B τ σ H F Q s h => qu B τ σ H F _ s (h.seq fun ds vs H1 F1 e1 p1 h1 => ?_)⟩
  split at h1
  · rename_i hl
    refine ⟨by rw [p1.length]; exact le64 hl, fun p hp => ?_⟩
    exact h1 _ _ F1 (Ext.lay' e1.fh _ hp) ⟨p, [p], rfl, .lst upd_same p1, by simp, fun b hb => by simp at hb; subst hb; exact ⟨e1.fh.free hp, e1.hh.free hp⟩⟩
  · exact h1.elim
/-- {}, to have keys that are texts; tuples -/
def newS : Tau → R Sl := fun _ => .ok (.ow (.dS []))
def newT : Tau → R Sl := fun _ => .ok (.ow (.dT []))
theorem dp_newS : DP X W (.Dict [] [] pos) newS := by
  refine ⟨_, pe_dnewK, fun B τ σ H F Q s h p hp => ?_⟩
  exact h _ _ F (Ext.lay' s.fh _ hp) ⟨p, [p], rfl, .dS upd_same .nil, by simp, fun b hb => by simp at hb; subst hb; exact ⟨s.fh.free hp, hp⟩⟩
theorem dp_newT : DP X W (.Dict [] [] pos) newT := by
  refine ⟨_, pe_dnewT, fun B τ σ H F Q s h p hp => ?_⟩
  exact h _ _ F (Ext.lay' s.fh _ hp) ⟨p, [p], rfl, .dT upd_same .nil, by simp, fun b hb => by simp at hb; subst hb; exact ⟨s.fh.free hp, hp⟩⟩
end
end DL
end

section
set_option Elab.async false
set_option linter.all false
set_option maxRecDepth 100000
namespace DL
open PySem PySem.Spec PyProof.Rows L2

/-! ### calls of built-ins -/
def CallSim (X : Cx) (r : List V → Hp → VK → Prop) (op : List D → R Sl) : Prop := ∀ H F vs ds Q, Same F H → VwL X H F vs ds → Fin X.mg Wno [] H F (op ds) (BrX X H) Q → r vs H Q
theorem CallSim.or {X : Cx} {r r' : List V → Hp → VK → Prop} {op op' : List D → R Sl} (h : CallSim X r op) (h' : CallSim X r' op') (o : List D → R Sl) (c : ∀ d, o d = op d ∨ o d = op' d) : CallSim X (fun x H Q => r x H Q ∨ r' x H Q) o := by
  intro H F vs ds Q s a f
  rcases c ds with q | q
  · exact .inl (h H F vs ds Q s a (q ▸ f))
  · exact .inr (h' H F vs ds Q s a (q ▸ f))
def cal1 (op : List D → R Sl) (f : Tau → R (List D)) : Tau → R Sl := fun τ => (f τ).bind op
def NoErL (op : List D → R Sl) : Prop := ∀ ds c, op ds ≠ .er c
section
variable {X : Cx} {W : WX} {e o : Expr} {es : List Expr} {f : Tau → R (List D)} {g : Tau → R D} {op : List D → R Sl} {pos p : Pos} {x : Str} {id T : String}
theorem sim_call {r : List V → Hp → VK → Prop} {t : TA} (hs : CallSim X r op) (hn : NoErL op)
    (q : ∀ B τ σ H F Q, SR X.K X.mg B H F σ τ → Fin X.mg W σ H F (f τ) (fun ds vs H' F' => VwL X H' F' vs ds) Q → t σ H Q) :
    ∀ B τ σ H F Q, SR X.K X.mg B H F σ τ → Fin X.mg W σ H F (cal1 op f τ) (BrX X H) Q → tCB r t σ H Q := by
  intro B τ σ H F Q s h
  refine q B τ σ H F _ s (h.seq fun ds vs H1 F1 e1 p1 h1 => ?_)
  refine hs H1 F1 vs ds Q e1.fh p1 ((h1.imp fun s v H' F' e p => ⟨F', e, ?_⟩).none_free fun c => hn ds c)
  exact Br.older e1.hh p
theorem dp_callB {r : List V → Hp → VK → Prop} (hc : CallR X (.builtin id) r) (hs : CallSim X r op) (hn : NoErL op) (ha : DAr X W (e :: es) f) (hv : bootBuiltins x = some (.builtin id)) (hg : Gl X x) (hm : X.mg x = none)
    (hx : x ≠ "__name__" := by decide) (hdb : (x == ("__debug__" : Str)) = false := by decide) (he : starEach (e :: es) X.env = (false, eval e X.env) :: starEach es X.env := by rfl) (hpl : (backTo pos (starEach es X.env)).any (·.1) = false := by rfl) :
    DP X W (.Call (.Name x p) (e :: es) [] pos) (cal1 op f) := by
  obtain ⟨t, pt, q⟩ := ha
  exact ⟨_, pe_callB hc hg hm hv pt hx hdb he hpl, sim_call hs hn q⟩
theorem dp_callTy {r : List V → Hp → VK → Prop} (hc : CallR X (.type T) r) (hs : CallSim X r op) (hn : NoErL op) (ha : DAr X W (e :: es) f) (hv : bootBuiltins x = some (.type T)) (hg : Gl X x) (hm : X.mg x = none)
    (hx : x ≠ "__name__" := by decide) (hdb : (x == ("__debug__" : Str)) = false := by decide) (he : starEach (e :: es) X.env = (false, eval e X.env) :: starEach es X.env := by rfl) (hpl : (backTo pos (starEach es X.env)).any (·.1) = false := by rfl) :
    DP X W (.Call (.Name x p) (e :: es) [] pos) (cal1 op f) := by
  obtain ⟨t, pt, q⟩ := ha
  exact ⟨_, pe_callTy hc hg hm hv pt hx hdb he hpl, sim_call hs hn q⟩

/-! ### len -/
def lenD : List D → R Sl
  | [.lst ds] => .ok (.sh (.int ds.length))
  | [.tup ds] => .ok (.sh (.int ds.length))
  | [.str z] => if z.length ≤ sizeLine then .ok (.sh (.int z.length)) else .bad
  | [.dS kvs] => .ok (.sh (.int kvs.length))
  | [.dT kvs] => .ok (.sh (.int kvs.length))
  | _ => .bad
def rLenR : List V → Hp → VK → Prop := fun xs H Q => ∃ (p : Addr) (kvs : List (List Key × V)), xs = [.ref p] ∧ Rd H p (.dT kvs) ∧ Q (.int ((kvs.length : Nat) : Int)) H
theorem call_len_dR : CallR X (.builtin "len") rLenR := by
  intro pins s σ H xs us Q I r h
  obtain ⟨p, kvs, rfl, hp, q⟩ := h
  obtain ⟨u, rfl, rx⟩ := vals1 r
  obtain rfl : u = .ref p := rx
  obtain ⟨z, hd, ys, rel, dd⟩ := dt_rd I.hok hp
  have hl : kvs.length = ys.length := Paired.length rel
  refine call_len_dictH hd dd (by rw [← hl]; rw [sizeLine_eq] at z; omega) ?_
  rw [← hl]
  exact ⟨.int _, H, I.tok _, ⟨_, rfl⟩, q⟩
theorem call_len_dS : CallR X (.builtin "len") (fun xs H Q => ∃ (p : Addr) (kvs : List (Key × V)), xs = [.ref p] ∧ Rd H p (.dK kvs) ∧ Q (.int ((kvs.length : Nat) : Int)) H) := by
  intro pins s σ H xs us Q I r h
  obtain ⟨p, kvs, rfl, hp, q⟩ := h
  obtain ⟨u, rfl, rx⟩ := vals1 r
  obtain rfl : u = .ref p := rx
  exact d_len I hp fun t s' I' => ⟨.int _, H, I', ⟨_, rfl⟩, q⟩
theorem noer_len : NoErL lenD := by
  intro ds c
  unfold lenD
  split <;> first | (intro h; cases h; done) | (split <;> intro h <;> cases h)
theorem VwL.one {H F : Hp} {vs : List V} {d : D} (h : VwL X H F vs [d]) : ∃ v, vs = [v] ∧ Vw X.K X.mg H F v d := by
  cases h with
  | cons h r => cases r; exact ⟨_, rfl, h⟩
theorem VwL.two {H F : Hp} {vs : List V} {d e : D} (h : VwL X H F vs [d, e]) : ∃ v w, vs = [v, w] ∧ Vw X.K X.mg H F v d ∧ Vw X.K X.mg H F w e := by
  cases h with
  | cons h r =>
    obtain ⟨w, rfl, h2⟩ := VwL.one r
    exact ⟨_, _, rfl, h, h2⟩
theorem sim_len : CallSim X (fun xs H Q => (∃ x n, xs = [x] ∧ LenV X.K x H n ∧ Q (.int n) H) ∨ (rLenR xs H Q ∨ ∃ (p : Addr) (kvs : List (Key × V)), xs = [.ref p] ∧ Rd H p (.dK kvs) ∧ Q (.int ((kvs.length : Nat) : Int)) H)) lenD := by
  intro H F vs ds Q s a f
  match ds, a, f with
  | [.lst ds], a, f =>
    obtain ⟨v, rfl, h⟩ := a.one
    obtain ⟨p, vs, rfl, h, r⟩ := h.lst s
    exact .inl ⟨_, vs.length, rfl, .inl ⟨vs, h, rfl⟩, by rw [r.length]; exact f _ H F (Ext.refl s) (.int _)⟩
  | [.tup ds], a, f =>
    obtain ⟨v, rfl, h⟩ := a.one
    obtain ⟨p, vs, rfl, h, r⟩ := h.tup
    exact .inl ⟨_, vs.length, rfl, .inr ⟨vs, SqT.of (s _ _ h), rfl⟩, by rw [r.length]; exact f _ H F (Ext.refl s) (.int _)⟩
  | [.str z], a, f =>
    obtain ⟨v, rfl, h⟩ := a.one
    have e := h.str
    subst e
    have f' : Fin X.mg Wno [] H F (if z.length ≤ sizeLine then R.ok (Sl.sh (.int z.length)) else .bad) (BrX X H) Q := f
    split at f'
    · rename_i hl
      exact .inl ⟨_, z.length, rfl, ⟨hl, rfl⟩, f' _ H F (Ext.refl s) (.int _)⟩
    · exact f'.elim
  | [.dS kvs], a, f =>
    obtain ⟨v, rfl, h⟩ := a.one
    obtain ⟨p, vs, rfl, h, r⟩ := h.dS s
    exact .inr (.inr ⟨p, vs, rfl, h, by rw [r.length]; exact f _ H F (Ext.refl s) (.int _)⟩)
  | [.dT kvs], a, f =>
    obtain ⟨v, rfl, h⟩ := a.one
    obtain ⟨p, vs, rfl, h, r⟩ := h.dT s
    exact .inr (.inl ⟨p, vs, rfl, h, by rw [r.length]; exact f _ H F (Ext.refl s) (.int _)⟩)
  | [], a, f => exact f.elim
  | [.non], a, f => exact f.elim
  | [.bl _], a, f => exact f.elim
  | [.int _], a, f => exact f.elim
  | [.obj _ _], a, f => exact f.elim
  | _ :: _ :: _, a, f => exact absurd f (by simp [lenD, Fin])
theorem dp_len (hg : Gl X "len") (hm : X.mg "len" = none) (ha : DAr X W [e] f) (he : starEach [e] X.env = (false, eval e X.env) :: starEach [] X.env := by rfl) : DP X W (.Call (.Name "len" p) [e] [] pos) (cal1 lenD f) :=
  dp_callB ((call_len).or (call_len_dR.or call_len_dS)) sim_len noer_len ha PySem.boot_len hg hm (he := he)

/-! ### list, tuple, str, int, isinstance, max, min -/
def listD : List D → R Sl
  | [.lst ds] => .ok (.ow (.lst ds))
  | [.tup ds] => .ok (.ow (.lst ds))
  | [.dS kvs] => .ok (.ow (.lst (kvs.map fun kv => .str kv.1)))
  | [.dT kvs] => .ok (.ow (.lst (kvs.map fun kv => .tup (kv.1.map .str))))
  | _ => .bad
theorem noer_list : NoErL listD := by
  intro ds c
  unfold listD
  split <;> intro h <;> cases h
theorem br_ow {H F : Hp} {p : Addr} {vs : List V} {ds : List D} (s : Same F H) (hp : H p = none) (r : RepL X.K F vs ds) : Br X.K X.mg H (upd H p (.lst vs)) F (.ref p) (.ow (.lst ds)) :=
  ⟨p, [p], rfl, .lst upd_same r, by simp, fun b hb => by simp at hb; subst hb; exact ⟨s.free hp, hp⟩⟩
theorem keys_dS {K : PySem.W.Frag} {F : Hp} : ∀ {kvs : List (Key × V)} {ds : List (Str × D)}, RepS K F kvs ds → RepL K F (kvs.map fun kv => kV kv.1) (ds.map fun kv => .str kv.1)
  | _, _, .nil => .nil
  | _, _, .cons h r => .cons (.str _) (keys_dS r)
end
/-! ### tuples may always be shared -/
def allT (F H : Hp) : Hp := fun b => match F b with
  | some o => some o
  | none => match H b with
    | some (.tup xs) => some (.tup xs)
    | _ => none
theorem allT_ff {F H : Hp} : Same F (allT F H) := fun b o e => by unfold allT; rw [e]
theorem allT_tup {F H : Hp} (s : Same F H) {b : Addr} {xs : List V} (e : H b = some (.tup xs)) : allT F H b = some (.tup xs) := by
  unfold allT
  cases q : F b with
  | none => simp only [e]
  | some o =>
    have := s b o q
    rw [e] at this
    rw [← this]
theorem allT_ext {F H H1 : Hp} (hh : Same H H1) (s : Same F H1) : Ext H F H1 (allT F H1) := by
  refine ⟨hh, allT_ff, fun b o e => ?_, fun b e => ?_⟩
  · unfold allT at e
    cases q : F b with
    | some u => rw [q] at e; rw [← e]; exact s b u q
    | none =>
      rw [q] at e
      cases z : H1 b with
      | none => simp only [z] at e; cases e
      | some u =>
        cases u <;> simp only [z] at e <;> first | cases e; done | exact e
  · cases q : F b with
    | some u => exact .inl (by simp)
    | none =>
      refine .inr (Fr.same hh fun u h => ?_)
      unfold allT at e
      rw [q] at e
      cases u <;> simp only [h] at e <;> first | exact absurd rfl e | rfl
mutual
def D.imm : D → Bool
  | .non | .bl _ | .int _ | .str _ => true
  | .tup ds => D.imms ds
  | _ => false
def D.imms : List D → Bool
  | [] => true
  | d :: r => d.imm && D.imms r
end
mutual
theorem Rep.immT {K : PySem.W.Frag} {F H : Hp} (s : Same F H) : ∀ {v : V} {d : D}, Rep K H v d → d.imm = true → Rep K (allT F H) v d
  | _, _, .non, _ => .non
  | _, _, .bl b, _ => .bl b
  | _, _, .int i, _ => .int i
  | _, _, .str x, _ => .str x
  | _, .tup ds, .tup h r, p => .tup (allT_tup s h) (RepL.immT s r (by rw [D.imm] at p; exact p))
  | _, _, .lst _ _, p => by cases p
  | _, _, .dS _ _, p => by cases p
  | _, _, .dT _ _, p => by cases p
theorem RepL.immT {K : PySem.W.Frag} {F H : Hp} (s : Same F H) : ∀ {vs : List V} {ds : List D}, RepL K H vs ds → D.imms ds = true → RepL K (allT F H) vs ds
  | _, _, .nil, _ => .nil
  | _, _, .cons h r, p => by
    rw [D.imms, Bool.and_eq_true] at p
    exact .cons (Rep.immT s h p.1) (RepL.immT s r p.2)
end
theorem imms_strs : ∀ w : List Str, D.imms (w.map .str) = true
  | [] => rfl
  | x :: w => by
    show D.imms (.str x :: w.map .str) = true
    rw [D.imms, imms_strs w]
    rfl
theorem rep_strs {K : PySem.W.Frag} {F : Hp} : ∀ w : List Str, RepL K F ((w.map (Sum.inr : Str → Key)).map kV) (w.map D.str)
  | [] => .nil
  | x :: w => .cons (.str x) (rep_strs w)
theorem keys_dT {K : PySem.W.Frag} {H F : Hp} (s : Same F H) : ∀ {kvs : List (List Key × V)} {ds : List (List Str × D)} {bs : List Addr}, RepT K F kvs ds → IsKeys H kvs bs → RepL K (allT F H) (bs.map V.ref) (ds.map fun kv => .tup (kv.1.map .str))
  | _, _, _, .nil, .nil => .nil
  | _, _, _, .cons (w := w) h r, .cons hb t => .cons (.tup (allT_tup s hb) (rep_strs w)) (keys_dT s r t)
section
variable {X : Cx} {W : WX} {e o : Expr} {es : List Expr} {f : Tau → R (List D)} {g : Tau → R D} {op : List D → R Sl} {pos p : Pos} {x : Str} {id T : String}
theorem sim_list : CallSim X (fun xs H Q => (∃ p ys, xs = [.ref p] ∧ (SqL X.K H p ys ∨ SqT X.K H p ys) ∧ ∀ l, H l = none → Q (.ref l) (upd H l (.lst ys))) ∨
    ((∃ (a : Addr) (kvs : List (Key × V)), xs = [.ref a] ∧ Rd H a (.dK kvs) ∧ ∀ p, H p = none → Q (.ref p) (upd H p (.lst (kvs.map fun kv => kV kv.1)))) ∨ ∃ d kvs, xs = [V.ref d] ∧ Rd H d (.dT kvs) ∧ ∀ p bs, H p = none → IsKeys H kvs bs → Q (.ref p) (upd H p (.lst (bs.map V.ref))))) listD := by
  intro H F vs ds Q s a f
  match ds, a, f with
  | [.lst ds], a, f =>
    obtain ⟨v, rfl, h⟩ := a.one
    obtain ⟨p, vs, rfl, h, r⟩ := h.lst s
    exact .inl ⟨p, vs, rfl, .inl h, fun l hl => f _ _ F (Ext.lay' s _ hl) (br_ow s hl r)⟩
  | [.tup ds], a, f =>
    obtain ⟨v, rfl, h⟩ := a.one
    obtain ⟨p, vs, rfl, h, r⟩ := h.tup
    exact .inl ⟨p, vs, rfl, .inr (SqT.of (s _ _ h)), fun l hl => f _ _ F (Ext.lay' s _ hl) (br_ow s hl r)⟩
  | [.dS kvs], a, f =>
    obtain ⟨v, rfl, h⟩ := a.one
    obtain ⟨p, vs, rfl, h, r⟩ := h.dS s
    exact .inr (.inl ⟨p, vs, rfl, h, fun l hl => f _ _ F (Ext.lay' s _ hl) (br_ow s hl (keys_dS r))⟩)
  | [.dT kvs], a, f =>
    obtain ⟨v, rfl, h⟩ := a.one
    obtain ⟨p, vs, rfl, h, r⟩ := h.dT s
    refine .inr (.inr ⟨p, vs, rfl, h, fun l bs hl hk => ?_⟩)
    have x1 := allT_ext (F := F) (H1 := H) (Same.refl H) s
    exact f _ _ _ (x1.trans (Ext.lay' x1.fh _ hl)) (br_ow x1.fh hl (keys_dT s r hk))
  | [], a, f => exact f.elim
  | [.non], a, f => exact f.elim
  | [.bl _], a, f => exact f.elim
  | [.int _], a, f => exact f.elim
  | [.str _], a, f => exact f.elim
  | [.obj _ _], a, f => exact f.elim
  | _ :: _ :: _, a, f => exact absurd f (by simp [listD, Fin])
theorem dp_list (hc : X.calm = true) (hg : Gl X "list") (hm : X.mg "list" = none) (ha : DAr X W [e] f) (he : starEach [e] X.env = (false, eval e X.env) :: starEach [] X.env := by rfl) : DP X W (.Call (.Name "list" p) [e] [] pos) (cal1 listD f) :=
  dp_callTy (call_list_of.or ((call_listD hc).or (call_list_dT hc))) sim_list noer_list ha boot_list hg hm (he := he)
def tupleD : List D → R Sl
  | [.lst ds] => .ok (.sh (.tup ds))
  | [.tup ds] => .ok (.sh (.tup ds))
  | _ => .bad
theorem noer_tuple : NoErL tupleD := by
  intro ds c
  unfold tupleD
  split <;> intro h <;> cases h
theorem dp_tuple (hg : Gl X "tuple") (hm : X.mg "tuple" = none) (ha : DAr X W [e] f) (he : starEach [e] X.env = (false, eval e X.env) :: starEach [] X.env := by rfl) : DP X W (.Call (.Name "tuple" p) [e] [] pos) (cal1 tupleD f) := by
  refine dp_callTy call_tuple_of (fun H F vs ds Q s a f => ?_) noer_tuple ha boot_tuple hg hm (he := he)
  match ds, a, f with
  | [.lst ds], a, f =>
    obtain ⟨v, rfl, h⟩ := a.one
    obtain ⟨p, vs, rfl, h, r⟩ := h.lst s
    refine ⟨p, vs, rfl, .inl ⟨h, fun l hl => ?_⟩⟩
    have x1 := Ext.lay s (.tup vs) hl
    exact f _ _ _ x1 (.tup upd_same (r.mono x1.ff))
  | [.tup ds], a, f =>
    obtain ⟨v, rfl, h⟩ := a.one
    obtain ⟨p, vs, rfl, h, r⟩ := h.tup
    exact ⟨p, vs, rfl, .inr ⟨SqT.of (s _ _ h), f _ H F (Ext.refl s) (.tup h r)⟩⟩
  | [], a, f => exact f.elim
  | [.non], a, f => exact f.elim
  | [.bl _], a, f => exact f.elim
  | [.int _], a, f => exact f.elim
  | [.str _], a, f => exact f.elim
  | [.dS _], a, f => exact f.elim
  | [.dT _], a, f => exact f.elim
  | [.obj _ _], a, f => exact f.elim
  | _ :: _ :: _, a, f => exact absurd f (by simp [tupleD, Fin])
def strD : List D → R Sl
  | [.int i] => if i.natAbs.log2 < 1920 then .ok (.sh (.str (toString i))) else .bad
  | _ => .bad
theorem noer_str : NoErL strD := by
  intro ds c
  unfold strD
  split <;> first | (intro h; cases h; done) | (split <;> intro h <;> cases h)
theorem dp_str (hg : Gl X "str") (hm : X.mg "str" = none) (ha : DAr X W [e] f) (he : starEach [e] X.env = (false, eval e X.env) :: starEach [] X.env := by rfl) : DP X W (.Call (.Name "str" p) [e] [] pos) (cal1 strD f) := by
  refine dp_callTy call_str_int (fun H F vs ds Q s a f => ?_) noer_str ha boot_str hg hm (he := he)
  match ds, a, f with
  | [.int i], a, f =>
    obtain ⟨v, rfl, h⟩ := a.one
    have e := h.int
    subst e
    have f' : Fin X.mg Wno [] H F (if i.natAbs.log2 < 1920 then R.ok (Sl.sh (.str (toString i))) else .bad) (BrX X H) Q := f
    split at f'
    · rename_i hl
      exact ⟨i, rfl, hl, f' _ H F (Ext.refl s) (.str _)⟩
    · exact f'.elim
  | [], a, f => exact f.elim
  | [.non], a, f => exact f.elim
  | [.bl _], a, f => exact f.elim
  | [.str _], a, f => exact f.elim
  | [.tup _], a, f => exact f.elim
  | [.lst _], a, f => exact f.elim
  | [.dS _], a, f => exact f.elim
  | [.dT _], a, f => exact f.elim
  | [.obj _ _], a, f => exact f.elim
  | _ :: _ :: _, a, f => exact absurd f (by simp [strD, Fin])
def intD : List D → R Sl
  | [.str a] => (match PySem.intText? a with
    | some n => if a.length ≤ 640 then .ok (.sh (.int n)) else .bad
    | none => .bad)
  | _ => .bad
theorem noer_int : NoErL intD := by
  intro ds c
  unfold intD
  split <;> first | (intro h; cases h; done) | (split <;> first | (intro h; cases h; done) | (split <;> intro h <;> cases h))
theorem dp_int (hg : Gl X "int") (hm : X.mg "int" = none) (ha : DAr X W [e] f) (he : starEach [e] X.env = (false, eval e X.env) :: starEach [] X.env := by rfl) : DP X W (.Call (.Name "int" p) [e] [] pos) (cal1 intD f) := by
  refine dp_callTy call_int_str (fun H F vs ds Q s a f => ?_) noer_int ha boot_int hg hm (he := he)
  match ds, a, f with
  | [.str z], a, f =>
    obtain ⟨v, rfl, h⟩ := a.one
    have e := h.str
    subst e
    have f' : Fin X.mg Wno [] H F (match PySem.intText? z with
      | some n => if z.length ≤ 640 then R.ok (Sl.sh (.int n)) else .bad
      | none => .bad) (BrX X H) Q := f
    cases q : PySem.intText? z with
    | none => rw [q] at f'; exact f'.elim
    | some n =>
      rw [q] at f'
      dsimp only at f'
      split at f'
      · rename_i hl
        exact ⟨z, n, rfl, q, hl, f' _ H F (Ext.refl s) (.int _)⟩
      · exact f'.elim
  | [], a, f => exact f.elim
  | [.non], a, f => exact f.elim
  | [.bl _], a, f => exact f.elim
  | [.int _], a, f => exact f.elim
  | [.tup _], a, f => exact f.elim
  | [.lst _], a, f => exact f.elim
  | [.dS _], a, f => exact f.elim
  | [.dT _], a, f => exact f.elim
  | [.obj _ _], a, f => exact f.elim
  | _ :: _ :: _, a, f => exact absurd f (by simp [intD, Fin])
/-! isinstance(x, T), T a built-in type -/
def tyn : D → String
  | .non => "NoneType"
  | .bl _ => "bool"
  | .int _ => "int"
  | .str _ => "str"
  | .tup _ => "tuple"
  | .lst _ => "list"
  | .dS _ | .dT _ => "dict"
  | .obj _ _ => ""
def isiD (T : String) (f : Tau → R D) : Tau → R D := fun τ => (f τ).bind fun d => match d with
  | .obj _ _ => .bad
  | .dS _ => .bad
  | .dT _ => .bad
  | d => (match kitB (tyn d) T with
    | some b => .ok (.bl b)
    | none => .bad)
theorem Vw.ty {K : PySem.W.Frag} {mg : Str → Option Value} {H F : Hp} {v : V} {d : D} (s : Same F H) (h : Vw K mg H F v d) (n : ∀ c fs, d ≠ .obj c fs) (n2 : ∀ k, d ≠ .dS k) (n3 : ∀ k, d ≠ .dT k) : TyX K H v (.type (tyn d)) := by
  have sql : ∀ {a : Addr} {vs : List V}, SqL K H a vs → TyX K H (.ref a) (.type "list") := fun h => by
    rcases h with (h | ⟨o, h⟩) | ⟨o, its, n, hk, hc, _⟩
    · exact .base (.lst h)
    · exact .base (.frz h)
    · exact .kList hk hc
  rcases h with h | ⟨a, fp, rfl, o, _⟩
  · cases h with
    | non => exact .base .non
    | bl b => exact .base (.bl b)
    | int b => exact .base (.int b)
    | str b => exact .base (.str b)
    | tup h r => exact .base (.tup (s _ _ h))
    | lst h r => exact sql (s.seq h)
    | dS h r => exact absurd rfl (n2 _)
    | dT h r => exact absurd rfl (n3 _)
  · cases o with
    | lst h r => exact .base (.lst h)
    | dS h r => exact .base (.dK h)
    | dT h r => exact .base (.dT h)
    | obj _ _ _ _ => exact absurd rfl (n _ _)
theorem dv_isi {t : Str} {pt : Pos} (hg : Gl X "isinstance") (hm : X.mg "isinstance" = none) (hgt : Gl X t) (hmt : X.mg t = none) (hvt : bootBuiltins t = some (.type T)) (ha : DW X W e g)
    (hn : t ≠ "__name__" := by decide) (hd : (t == ("__debug__" : Str)) = false := by decide) (h1 : starEach [e, .Name t pt] X.env = (false, eval e X.env) :: starEach [.Name t pt] X.env := by rfl) (h2 : starEach [.Name t pt] X.env = (false, eval (.Name t pt) X.env) :: starEach [] X.env := by rfl)
    (hpl : (backTo pos (starEach [.Name t pt] X.env)).any (·.1) = false := by rfl) :
    DV X W (.Call (.Name "isinstance" p) [e, .Name t pt] [] pos) (isiD T g) := by
  obtain ⟨u, pu, q⟩ := ha
  refine ⟨_, pe_callB call_isi hg hm boot_isinstance (pa_cons pu (pa_cons (pe_bltn (v := .ty T) hgt hmt hvt rfl hn hd) pa_nil h2) h1) (he := h1) (hpl := hpl), fun B τ σ H F Q s h => ?_⟩
  refine q B τ σ H F _ s (h.seq fun d v H1 F1 e1 p1 h1 => ?_)
  have nn : (∃ c fs, d = .obj c fs) ∨ (∃ k, d = .dS k) ∨ (∃ k, d = .dT k) ∨ ((∀ c fs, d ≠ .obj c fs) ∧ (∀ k, d ≠ .dS k) ∧ ∀ k, d ≠ .dT k) := by
    cases d <;> simp
  rcases nn with ⟨c, fs, rfl⟩ | ⟨k, rfl⟩ | ⟨k, rfl⟩ | ⟨n, n2, n3⟩
  · exact h1.elim
  · exact h1.elim
  · exact h1.elim
  · have h2 : Fin X.mg W σ H1 F1 (match kitB (tyn d) T with
      | some b => R.ok (D.bl b)
      | none => .bad) (RpX X) Q := by
      cases d <;> first | exact h1 | exact absurd rfl (n _ _) | exact absurd rfl (n2 _) | exact absurd rfl (n3 _)
    cases q2 : kitB (tyn d) T with
    | none => rw [q2] at h2; exact h2.elim
    | some b =>
      rw [q2] at h2
      exact ⟨v, .ty T, _, _, b, rfl, .ty T, p1.ty e1.fh n n2 n3, kit_ty q2, h2 _ H1 F1 (Ext.refl e1.fh) (.bl b)⟩
end
end DL
end

section
set_option Elab.async false
set_option linter.all false
set_option maxRecDepth 100000
namespace DL
open PySem PySem.Spec PyProof.Rows L2

/-! ### sorted(list) -/
def alikeD (d e : D) : Bool := PySem.W.alike d.py e.py
def D.nonemptyTup : D → Bool
  | .tup (_ :: _) => true
  | _ => false
def D.notTup : D → Bool
  | .tup _ => false
  | .non => false
  | _ => true
def sortOk (ds : List D) : Bool := D.pls ds && decide (D.deps ds ≤ 40) && ds.all (fun d => ds.all fun e => alikeD d e) && (ds.all D.nonemptyTup || ds.all D.notTup) && decide (ds.length ≤ sizeLine)
def leDt (a b : D) : Bool := !ltvD b a
def sortL (ds : List D) : List D := ds.mergeSort leDt
def sortD : List D → R Sl
  | [.lst ds] => if sortOk ds then .ok (.ow (.lst (sortL ds))) else .bad
  | _ => .bad
theorem noer_sort : NoErL sortD := by
  intro ds c
  unfold sortD
  split <;> first | (intro h; cases h; done) | (split <;> intro h <;> cases h)
theorem dep_mem : ∀ {ds : List D} {d : D}, d ∈ ds → d.dep ≤ D.deps ds
  | e :: r, d, h => by
    rw [D.deps]
    rcases List.mem_cons.mp h with rfl | h
    · exact Nat.le_max_left _ _
    · exact Nat.le_trans (dep_mem h) (Nat.le_max_right _ _)
theorem pl_mem {ds : List D} (h : D.pls ds = true) {d : D} (m : d ∈ ds) : d.pl = true := by
  rw [D.pls_all] at h
  exact List.all_eq_true.mp h d m
theorem leDt_eq : leDt = PySem.W.dataLe false D.py := by
  funext a b
  rw [PySem.W.dataLe_eq]
  rfl
section
variable {K : PySem.W.Frag} {F : Hp}
abbrev RelD (K : PySem.W.Frag) (F : Hp) (u : Value) (d : D) : Prop := ∃ v, RelV v u ∧ Rep K F v d
theorem each_of : ∀ {vs : List V} {us : List Value} {ds : List D}, Vals vs us → RepL K F vs ds → PySem.W.EachIs (RelD K F) us ds
  | _, _, _, .nil, .nil => .nil
  | _, _, _, .cons r t, .cons h s => .cons ⟨_, r, h⟩ (each_of t s)
theorem of_each : ∀ {us : List Value} {ds : List D}, PySem.W.EachIs (RelD K F) us ds → ∃ vs, Vals vs us ∧ RepL K F vs ds
  | _, _, .nil => ⟨[], .nil, .nil⟩
  | _, _, .cons ⟨v, r, h⟩ t => by
    obtain ⟨vs, r2, h2⟩ := of_each t
    exact ⟨v :: vs, .cons r r2, .cons h h2⟩
end
section
variable {X : Cx} {W : WX} {e o : Expr} {es : List Expr} {f : Tau → R (List D)} {g : Tau → R D} {op : List D → R Sl} {pos p : Pos} {x : Str} {id T : String}
def rSortDt (K : PySem.W.Frag) : List V → Hp → VK → Prop := fun vs H Q => ∃ a xs ds F, vs = [.ref a] ∧ SqL K H a xs ∧ Same F H ∧ RepL K F xs ds ∧ sortOk ds = true ∧ ∀ p ys, H p = none → RepL K F ys (sortL ds) → Q (.ref p) (upd H p (.lst ys))
theorem cr_sortDt (hu : X.A.units + 64 < cLine) : CallR X (.builtin "sorted") (rSortDt X.K) := by
  intro pins s σ H vs us Q I r h
  obtain ⟨a, xs, ds, F, rfl, hs, sm, rp, ok, q⟩ := h
  obtain ⟨its, rv, hl, hz⟩ := I.list hs
  obtain ⟨u, rfl, ru⟩ := vals1 r
  obtain rfl : u = Value.ref a := ru
  unfold sortOk at ok
  simp only [Bool.and_eq_true, Bool.or_eq_true, decide_eq_true_eq] at ok
  obtain ⟨⟨⟨⟨k1, k2⟩, k3⟩, k4⟩, k5⟩ := ok
  have er : PySem.W.EachIs (fun v b => ∃ as, Reads s.heap v (D.py b) as) its ds := by
    have aux : ∀ {vs : List V} {us : List Value} {es : List D}, Vals vs us → RepL X.K F vs es → D.pls es = true → PySem.W.EachIs (fun v b => ∃ as, Reads s.heap v (D.py b) as) us es := by
      intro vs us es rv
      induction rv generalizing es with
      | nil => intro r _; cases r; exact .nil
      | cons r t ih =>
        intro rp hp
        cases rp with
        | cons h s2 =>
          rw [D.pls, Bool.and_eq_true] at hp
          exact .cons (Dp.reads I _ _ _ ((h.mono sm).dp hp.1) r) (ih s2 hp.2)
    exact aux rv rp k1
  have hlen : ds.length = xs.length := rp.length.symm
  refine PySem.W.sorted_data (R := RelD X.K F) (enc := D.py) (bs := ds) hl.isList (each_of rv rp) er ?_ ?_ (by omega) (fun b hb => ?_) fun out ho hr => ?_
  · intro d hd d' hd'
    obtain ⟨b, hb, rfl⟩ := List.mem_map.mp hd
    obtain ⟨b', hb', rfl⟩ := List.mem_map.mp hd'
    exact List.all_eq_true.mp (List.all_eq_true.mp k3 b hb) b' hb'
  · rcases k4 with k4 | k4
    · refine .inl fun d hd => ?_
      obtain ⟨b, hb, rfl⟩ := List.mem_map.mp hd
      have := List.all_eq_true.mp k4 b hb
      match b, this with
      | .tup (x :: r), _ => exact ⟨x.py, D.pys r, by rw [D.py, D.pys]⟩
    · refine .inr fun d hd => ?_
      obtain ⟨b, hb, rfl⟩ := List.mem_map.mp hd
      have h1 := List.all_eq_true.mp k4 b hb
      have h2 := pl_mem k1 hb
      cases b <;> first | cases h1; done | cases h2; done | exact ⟨(fun z => nomatch z), (fun xs z => nomatch z)⟩
  · have h1 := D.py_dep b
    have h2 := dep_mem hb
    omega
  · rw [← leDt_eq] at hr
    obtain ⟨ys, r2, rp2⟩ := of_each hr
    obtain ⟨n, hn⟩ := sortedAll_at s.heap its out.toArray
    have hfree : H (s.heap.objs.size + 1) = none := I.hok.fresh (Nat.le_succ _)
    refine ⟨.ref (s.heap.objs.size + 1), upd H (s.heap.objs.size + 1) (.lst ys), I.laid (t' := s.toks) (fun b o e => sortedAll_old e) (Nat.le_succ _) ⟨?_, out, n, r2, hn⟩, rfl, q _ ys hfree rp2⟩
    rw [rp2.length]
    show (ds.mergeSort leDt).length ≤ _
    rw [List.length_mergeSort]
    exact k5
theorem dp_sorted (hu : X.A.units + 64 < cLine) (hg : Gl X "sorted") (hm : X.mg "sorted" = none) (ha : DAr X W [e] f) (he : starEach [e] X.env = (false, eval e X.env) :: starEach [] X.env := by rfl) : DP X W (.Call (.Name "sorted" p) [e] [] pos) (cal1 sortD f) := by
  refine dp_callB (cr_sortDt hu) (fun H F vs ds Q s a f => ?_) noer_sort ha boot_sorted hg hm (he := he)
  match ds, a, f with
  | [.lst ds], a, f =>
    obtain ⟨v, rfl, h⟩ := a.one
    have f' : Fin X.mg Wno [] H F (if sortOk ds then R.ok (Sl.ow (.lst (sortL ds))) else .bad) (BrX X H) Q := f
    split at f'
    · rename_i hl
      obtain ⟨p, vs, rfl, h, r⟩ := h.lst s
      exact ⟨p, vs, ds, F, rfl, h, s, r, hl, fun l ys hl2 rp => f' _ _ F (Ext.lay' s _ hl2) (br_ow s hl2 rp)⟩
    · exact f'.elim
  | [], a, f => exact f.elim
  | [.non], a, f => exact f.elim
  | [.bl _], a, f => exact f.elim
  | [.int _], a, f => exact f.elim
  | [.str _], a, f => exact f.elim
  | [.tup _], a, f => exact f.elim
  | [.dS _], a, f => exact f.elim
  | [.dT _], a, f => exact f.elim
  | [.obj _ _], a, f => exact f.elim
  | _ :: _ :: _, a, f => exact absurd f (by simp [sortD, Fin])

/-! ### max, min -/
def intsOf : List D → Option (List Int)
  | [] => some []
  | .int i :: r => (intsOf r).map (i :: ·)
  | _ => none
theorem intsOf_eq : ∀ {ds : List D} {w : List Int}, intsOf ds = some w → ds = w.map .int
  | [], w, h => by cases h; rfl
  | d :: r, w, h => by
    cases d with
    | int x =>
      unfold intsOf at h
      cases q : intsOf r with
      | none => rw [q] at h; cases h
      | some w' =>
        rw [q] at h
        cases h
        rw [intsOf_eq q]
        rfl
    | _ => cases h
theorem repL_ints {K : PySem.W.Frag} {F : Hp} : ∀ {w : List Int} {vs : List V}, RepL K F vs (w.map .int) → vs = w.map V.int
  | [], vs, r => by
    have r' : RepL K F vs [] := r
    cases r'
    rfl
  | x :: w, vs, r => by
    have r' : RepL K F vs (.int x :: w.map .int) := r
    cases r' with
    | cons h t =>
      cases h
      rw [repL_ints t]
      rfl
def maxI : List Int → Int
  | [] => 0
  | [x] => x
  | x :: r => max x (maxI r)
theorem maxI_mem : ∀ {w : List Int}, w ≠ [] → maxI w ∈ w ∧ ∀ y ∈ w, y ≤ maxI w
  | [], h => absurd rfl h
  | [x], _ => ⟨by simp [maxI], fun y hy => by simp at hy; simp [maxI, hy]⟩
  | x :: z :: r, _ => by
    obtain ⟨h1, h2⟩ := maxI_mem (w := z :: r) (by simp)
    have e : maxI (x :: z :: r) = max x (maxI (z :: r)) := rfl
    refine ⟨?_, fun y hy => ?_⟩
    · rw [e]
      by_cases h : x ≤ maxI (z :: r)
      · rw [Int.max_eq_right h]; exact List.mem_cons_of_mem _ h1
      · rw [Int.max_eq_left (by omega)]; exact List.mem_cons_self
    · rw [e]
      rcases List.mem_cons.mp hy with rfl | hy
      · exact Int.le_max_left _ _
      · exact Int.le_trans (h2 y hy) (Int.le_max_right _ _)
def maxD : List D → R Sl
  | [.int i, .int j] => .ok (.sh (.int (if j > i then j else i)))
  | [.lst ds] => (match intsOf ds with
    | some (x :: r) => .ok (.sh (.int (maxI (x :: r))))
    | _ => .bad)
  | _ => .bad
def minD : List D → R Sl
  | [.int i, .int j] => .ok (.sh (.int (if j < i then j else i)))
  | _ => .bad
theorem noer_max : NoErL maxD := by
  intro ds c
  unfold maxD
  split <;> first | (intro h; cases h; done) | (split <;> intro h <;> cases h)
theorem noer_min : NoErL minD := by
  intro ds c
  unfold minD
  split <;> intro h <;> cases h
theorem sim_max : CallSim X (fun xs H Q => (∃ i j, xs = [.int i, .int j] ∧ Q (.int (if j > i then j else i)) H) ∨ rMax X.K xs H Q) maxD := by
  intro H F vs ds Q s a f
  match ds, a, f with
  | [.int i, .int j], a, f =>
    obtain ⟨v, w, rfl, h, h2⟩ := a.two
    have e := h.int
    have e2 := h2.int
    subst e e2
    exact .inl ⟨i, j, rfl, f _ H F (Ext.refl s) (.int _)⟩
  | [.lst ds], a, f =>
    obtain ⟨v, rfl, h⟩ := a.one
    have f' : Fin X.mg Wno [] H F (match intsOf ds with
      | some (x :: r) => R.ok (Sl.sh (.int (maxI (x :: r))))
      | _ => .bad) (BrX X H) Q := f
    cases q : intsOf ds with
    | none => rw [q] at f'; exact f'.elim
    | some w =>
      rw [q] at f'
      cases w with
      | nil => exact f'.elim
      | cons x r =>
        have e := intsOf_eq q
        subst e
        obtain ⟨p, vs, rfl, h, rp⟩ := h.lst s
        have e2 := repL_ints rp
        subst e2
        refine .inr ⟨p, x :: r, rfl, h, by simp, fun m hm hle => ?_⟩
        obtain ⟨m1, m2⟩ := maxI_mem (w := x :: r) (by simp)
        have e3 : m = maxI (x :: r) := Int.le_antisymm (m2 m hm) (hle _ m1)
        subst e3
        exact f' _ H F (Ext.refl s) (.int _)
  | [], a, f => exact f.elim
  | [.non], a, f => exact f.elim
  | [.bl _], a, f => exact f.elim
  | [.int _], a, f => exact f.elim
  | [.str _], a, f => exact f.elim
  | [.tup _], a, f => exact f.elim
  | [.dS _], a, f => exact f.elim
  | [.dT _], a, f => exact f.elim
  | [.obj _ _], a, f => exact f.elim
  | d :: e :: r, a, f =>
    cases d <;> try exact f.elim
    cases e <;> try exact f.elim
    cases r <;> try exact f.elim
    obtain ⟨v, w, rfl, h, h2⟩ := a.two
    have e := h.int
    have e2 := h2.int
    subst e e2
    exact .inl ⟨_, _, rfl, f _ H F (Ext.refl s) (.int _)⟩
theorem sim_min : CallSim X (fun xs H Q => ∃ i j, xs = [.int i, .int j] ∧ Q (.int (if j < i then j else i)) H) minD := by
  intro H F vs ds Q s a f
  match ds, a, f with
  | [], a, f => exact f.elim
  | [d], a, f => cases d <;> exact f.elim
  | d :: e :: r, a, f =>
    cases d <;> try exact f.elim
    cases e <;> try exact f.elim
    cases r <;> try exact f.elim
    obtain ⟨v, w, rfl, h, h2⟩ := a.two
    have e := h.int
    have e2 := h2.int
    subst e e2
    exact ⟨_, _, rfl, f _ H F (Ext.refl s) (.int _)⟩
theorem dp_max (hc : X.calm = true) (hg : Gl X "max") (hm : X.mg "max" = none) (ha : DAr X W (e :: es) f) (he : starEach (e :: es) X.env = (false, eval e X.env) :: starEach es X.env := by rfl) (hpl : (backTo pos (starEach es X.env)).any (·.1) = false := by rfl) : DP X W (.Call (.Name "max" p) (e :: es) [] pos) (cal1 maxD f) :=
  dp_callB ((call_max2 hc).or (cr_max hc)) sim_max noer_max ha boot_max hg hm (he := he) (hpl := hpl)
theorem dp_min (hc : X.calm = true) (hg : Gl X "min") (hm : X.mg "min" = none) (ha : DAr X W (e :: es) f) (he : starEach (e :: es) X.env = (false, eval e X.env) :: starEach es X.env := by rfl) (hpl : (backTo pos (starEach es X.env)).any (·.1) = false := by rfl) : DP X W (.Call (.Name "min" p) (e :: es) [] pos) (cal1 minD f) :=
  dp_callB (call_min2 hc) sim_min noer_min ha boot_min hg hm (he := he) (hpl := hpl)

/-! ### methods of texts, that give a value -/
def MtSim (X : Cx) (T : String) (r : V → List V → Hp → VK → Prop) (op : D → List D → R Sl) : Prop := ∀ H F v d vs ds Q, Same F H → Vw X.K X.mg H F v d → VwL X H F vs ds → Fin X.mg Wno [] H F (op d ds) (BrX X H) Q → tyV X.K T v H ∧ r v vs H Q
def mt1 (op : D → List D → R Sl) (g : Tau → R D) (f : Tau → R (List D)) : Tau → R Sl := fun τ => (g τ).bind fun d => (f τ).bind fun ds => op d ds
def NoErM (op : D → List D → R Sl) : Prop := ∀ d ds c, op d ds ≠ .er c
end
end DL
end

section
set_option Elab.async false
set_option linter.all false
set_option maxRecDepth 100000
namespace DL
open PySem PySem.Spec PyProof.Rows L2

section
variable {X : Cx} {W : WX} {e o : Expr} {es : List Expr} {f : Tau → R (List D)} {g h : Tau → R D} {op : List D → R Sl} {pos p apos cpos : Pos} {x : Str} {id T : String}
/-! ### methods of texts -/
def ofStr (d : D) : R Str := match d with
  | .str x => .ok x
  | _ => .bad
def strsIn (d : D) : R (List Str) := match d with
  | .lst ds => ofO (strsOf ds)
  | .tup ds => ofO (strsOf ds)
  | _ => .bad
def joinD (s d : D) : R Sl := (ofStr s).bind fun a => (strsIn d).bind fun ys => if (ys.map (·.length)).sum + ys.length * a.length ≤ 16777216 then .ok (.sh (.str (Txt.join a ys))) else .bad
def splitD (s d : D) : R Sl := (ofStr s).bind fun a => (ofStr d).bind fun b => if (b.length == 0) = false ∧ a.length + 2 ≤ sizeLine then .ok (.ow (.lst ((Txt.split a b).map .str))) else .bad
def startsD (s d : D) : R Sl := (ofStr s).bind fun a => (ofStr d).bind fun b => .ok (.sh (.bl (Txt.startswith a b)))
def countD (s d : D) : R Sl := (ofStr s).bind fun a => (ofStr d).bind fun b => .ok (.sh (.int (Txt.count a b)))
def partD (s d : D) : R Sl := (ofStr s).bind fun a => (ofStr d).bind fun b => if (b.length == 0) = false ∧ a.length ≤ sizeLine then .ok (.sh (.tup [.str (Txt.partition a b).1, .str (Txt.partition a b).2.1, .str (Txt.partition a b).2.2])) else .bad
theorem ofStr_noer (d : D) (c : Str) : ofStr d ≠ .er c := by cases d <;> intro h <;> cases h
theorem strsIn_noer (d : D) (c : Str) : strsIn d ≠ .er c := by cases d <;> first | exact noer_ofO _ _ | (intro h; cases h)
theorem noer_bind {α β : Type} {r : R α} {k : α → R β} (h1 : ∀ c, r ≠ .er c) (h2 : ∀ a c, k a ≠ .er c) (c : Str) : r.bind k ≠ .er c := by
  cases r with
  | ok a => exact h2 a c
  | er c' => exact absurd rfl (h1 c')
  | bad => intro h; cases h
theorem noer_ite {α : Type} {P : Prop} [Decidable P] {a : R α} (h : ∀ c, a ≠ .er c) (c : Str) : (if P then a else .bad) ≠ .er c := by
  split
  · exact h c
  · intro h; cases h
theorem noer_join : NoEr joinD := fun s d => noer_bind (ofStr_noer s) fun a => noer_bind (strsIn_noer d) fun ys => noer_ite fun c h => by cases h
theorem noer_split : NoEr splitD := fun s d => noer_bind (ofStr_noer s) fun a => noer_bind (ofStr_noer d) fun ys => noer_ite fun c h => by cases h
theorem noer_starts : NoEr startsD := fun s d => noer_bind (ofStr_noer s) fun a => noer_bind (ofStr_noer d) fun ys c h => by cases h
theorem noer_count : NoEr countD := fun s d => noer_bind (ofStr_noer s) fun a => noer_bind (ofStr_noer d) fun ys c h => by cases h
theorem noer_part : NoEr partD := fun s d => noer_bind (ofStr_noer s) fun a => noer_bind (ofStr_noer d) fun ys => noer_ite fun c h => by cases h
/-- o.m(e) of a text: the operation by values -/
def sm (op : D → D → R Sl) (g h : Tau → R D) : Tau → R Sl := fun τ => (g τ).bind fun d => (ofStr d).bind fun a => (h τ).bind fun e => op (.str a) e
theorem dp_sm {r : V → List V → Hp → VK → Prop} {name : Str} {op : D → D → R Sl} (slot : Slot "str" name id) (ty : typeOf (.builtin id) = pure (.type "method_descriptor")) (rule : MtR X id r) (hn : NoEr op)
    (hs : ∀ H F v w d e Q, Same F H → Vw X.K X.mg H F v d → Vw X.K X.mg H F w e → Fin X.mg Wno [] H F (op d e) (BrX X H) Q → r v [w] H Q)
    (ho : DW X W o g) (he : DW X W e h) (hst : starEach [e] X.env = [(false, eval e X.env)])
    (hbase : attributeBase o name X.env (eval o X.env) = eval o X.env) (hline : (apos.endLine == pos.line) = true) : DP X W (.Call (.Attribute o name apos) [e] [] pos) (sm op g h) := by
  obtain ⟨ta, pa, qa⟩ := ho
  obtain ⟨tb, pb, qb⟩ := he
  refine ⟨_, pe_m1 slot ty rule pa pb hst hbase hline, fun B τ σ H F Q s hh => ?_⟩
  refine qa B τ σ H F _ s (hh.seq fun d v H1 F1 e1 p1 h1 => ?_)
  cases d <;> try exact h1.elim
  rename_i a
  refine ⟨⟨a, p1.str⟩, ?_⟩
  have h1' : Fin X.mg W σ H1 F1 ((h τ).bind fun e => op (.str a) e) (BrX X H) Q := h1
  refine qb B τ σ H1 F1 _ (s.ext e1) (h1'.seq fun d' v' H2 F2 e2 p2 h2 => ?_)
  refine hs H2 F2 v v' _ d' Q e2.fh (p1.ext e2) p2 ((h2.imp fun s v H' F' e p => ⟨F', e, ?_⟩).none_free fun c => hn _ d' c)
  exact Br.older (e1.hh.trans e2.hh) p
theorem Fin.bindOk {α β γ : Type} {mg : Str → Option Value} {W : WX} {σ : St} {H F : Hp} {r : R α} {k : α → R β} {P : β → γ → Hp → Hp → Prop} {Q : γ → Hp → Prop} (h : Fin mg W σ H F (r.bind k) P Q) (n : ∀ c, r ≠ .er c) : ∃ a, r = .ok a ∧ Fin mg W σ H F (k a) P Q := by
  cases r with
  | ok a => exact ⟨a, rfl, h⟩
  | er c => exact absurd rfl (n c)
  | bad => exact h.elim
theorem ofStr_ok {d : D} {a : Str} (h : ofStr d = .ok a) : d = .str a := by
  cases d <;> cases h
  rfl
theorem Fin.ite {α γ : Type} {C : Prop} [Decidable C] {mg : Str → Option Value} {W : WX} {σ : St} {H F : Hp} {r : R α} {P : α → γ → Hp → Hp → Prop} {Q : γ → Hp → Prop} (h : Fin mg W σ H F (if C then r else .bad) P Q) : C ∧ Fin mg W σ H F r P Q := by
  split at h
  · exact ⟨by assumption, h⟩
  · exact h.elim
theorem repL_strs' {K : PySem.W.Frag} {F : Hp} : ∀ {w : List Str} {vs : List V}, RepL K F vs (w.map .str) → vs = w.map V.str
  | [], vs, r => by
    have r' : RepL K F vs [] := r
    cases r'
    rfl
  | x :: w, vs, r => by
    have r' : RepL K F vs (.str x :: w.map .str) := r
    cases r' with
    | cons h t =>
      cases h
      rw [repL_strs' t]
      rfl
theorem rep_strs' {K : PySem.W.Frag} {F : Hp} : ∀ w : List Str, RepL K F (w.map V.str) (w.map D.str)
  | [] => .nil
  | x :: w => .cons (.str x) (rep_strs' w)
theorem Vw.strs {K : PySem.W.Frag} {mg : Str → Option Value} {H F : Hp} {v : V} {d : D} {ys : List Str} (s : Same F H) (h : Vw K mg H F v d) (e : strsIn d = .ok ys) : ∃ p, v = .ref p ∧ (SqL K H p (ys.map V.str) ∨ SqT K H p (ys.map V.str)) := by
  cases d <;> try (cases e; done)
  · rename_i ds
    have e' : ofO (strsOf ds) = .ok ys := e
    cases q : strsOf ds with
    | none => rw [q] at e'; cases e'
    | some w =>
      rw [q] at e'
      cases e'
      have e2 := strsOf_eq q
      subst e2
      obtain ⟨a, vs, rfl, h, r⟩ := h.tup
      rw [repL_strs' r] at h
      exact ⟨a, rfl, .inr (SqT.of (s _ _ h))⟩
  · rename_i ds
    have e' : ofO (strsOf ds) = .ok ys := e
    cases q : strsOf ds with
    | none => rw [q] at e'; cases e'
    | some w =>
      rw [q] at e'
      cases e'
      have e2 := strsOf_eq q
      subst e2
      obtain ⟨a, vs, rfl, h, r⟩ := h.lst s
      rw [repL_strs' r] at h
      exact ⟨a, rfl, .inl h⟩
theorem dp_join (ho : DW X W o g) (he : DW X W e h) (hst : starEach [e] X.env = [(false, eval e X.env)] := by rfl) (hbase : attributeBase o "join" X.env (eval o X.env) = eval o X.env := by rfl) (hline : (apos.endLine == pos.line) = true := by rfl) :
    DP X W (.Call (.Attribute o "join" apos) [e] [] pos) (sm joinD g h) := by
  refine dp_sm PySem.F.slot_str_join PySem.F.type_str_join mt_join noer_join (fun H F v w d e Q s a b f => ?_) ho he hst hbase hline
  obtain ⟨x, e1, f1⟩ := Fin.bindOk f (ofStr_noer d)
  obtain ⟨ys, e2, f2⟩ := Fin.bindOk f1 (strsIn_noer e)
  have ed := ofStr_ok e1
  subst ed
  obtain ⟨c, f3⟩ := f2.ite
  obtain ⟨p, rfl, hp⟩ := b.strs s e2
  exact ⟨x, p, ys, a.str, rfl, hp, c, f3 _ H F (Ext.refl s) (.str _)⟩
theorem dp_split (ho : DW X W o g) (he : DW X W e h) (hst : starEach [e] X.env = [(false, eval e X.env)] := by rfl) (hbase : attributeBase o "split" X.env (eval o X.env) = eval o X.env := by rfl) (hline : (apos.endLine == pos.line) = true := by rfl) :
    DP X W (.Call (.Attribute o "split" apos) [e] [] pos) (sm splitD g h) := by
  refine dp_sm PySem.F.slot_str_split PySem.F.type_str_split mt_split noer_split (fun H F v w d e Q s a b f => ?_) ho he hst hbase hline
  obtain ⟨x, e1, f1⟩ := Fin.bindOk f (ofStr_noer d)
  obtain ⟨y, e2, f2⟩ := Fin.bindOk f1 (ofStr_noer e)
  have ed := ofStr_ok e1
  have ee := ofStr_ok e2
  subst ed ee
  obtain ⟨c, f3⟩ := f2.ite
  refine ⟨x, y, a.str, by rw [b.str], c.1, c.2, fun l hl => ?_⟩
  exact f3 _ _ F (Ext.lay' s _ hl) (br_ow s hl (rep_strs' _))
theorem dp_starts (ho : DW X W o g) (he : DW X W e h) (hst : starEach [e] X.env = [(false, eval e X.env)] := by rfl) (hbase : attributeBase o "startswith" X.env (eval o X.env) = eval o X.env := by rfl) (hline : (apos.endLine == pos.line) = true := by rfl) :
    DP X W (.Call (.Attribute o "startswith" apos) [e] [] pos) (sm startsD g h) := by
  refine dp_sm PySem.F.slot_str_startswith PySem.F.type_str_startswith mt_startswith noer_starts (fun H F v w d e Q s a b f => ?_) ho he hst hbase hline
  obtain ⟨x, e1, f1⟩ := Fin.bindOk f (ofStr_noer d)
  obtain ⟨y, e2, f2⟩ := Fin.bindOk f1 (ofStr_noer e)
  have ed := ofStr_ok e1
  have ee := ofStr_ok e2
  subst ed ee
  exact ⟨x, y, a.str, by rw [b.str], f2 _ H F (Ext.refl s) (.bl _)⟩
theorem dp_count (ho : DW X W o g) (he : DW X W e h) (hst : starEach [e] X.env = [(false, eval e X.env)] := by rfl) (hbase : attributeBase o "count" X.env (eval o X.env) = eval o X.env := by rfl) (hline : (apos.endLine == pos.line) = true := by rfl) :
    DP X W (.Call (.Attribute o "count" apos) [e] [] pos) (sm countD g h) := by
  refine dp_sm PySem.F.slot_str_count PySem.F.type_str_count mt_count noer_count (fun H F v w d e Q s a b f => ?_) ho he hst hbase hline
  obtain ⟨x, e1, f1⟩ := Fin.bindOk f (ofStr_noer d)
  obtain ⟨y, e2, f2⟩ := Fin.bindOk f1 (ofStr_noer e)
  have ed := ofStr_ok e1
  have ee := ofStr_ok e2
  subst ed ee
  exact ⟨x, y, a.str, by rw [b.str], f2 _ H F (Ext.refl s) (.int _)⟩
theorem dp_part (ho : DW X W o g) (he : DW X W e h) (hst : starEach [e] X.env = [(false, eval e X.env)] := by rfl) (hbase : attributeBase o "partition" X.env (eval o X.env) = eval o X.env := by rfl) (hline : (apos.endLine == pos.line) = true := by rfl) :
    DP X W (.Call (.Attribute o "partition" apos) [e] [] pos) (sm partD g h) := by
  refine dp_sm PySem.F.slot_str_partition PySem.F.type_str_partition mt_partition noer_part (fun H F v w d e Q s a b f => ?_) ho he hst hbase hline
  obtain ⟨x, e1, f1⟩ := Fin.bindOk f (ofStr_noer d)
  obtain ⟨y, e2, f2⟩ := Fin.bindOk f1 (ofStr_noer e)
  have ed := ofStr_ok e1
  have ee := ofStr_ok e2
  subst ed ee
  obtain ⟨c, f3⟩ := f2.ite
  refine ⟨x, y, a.str, by rw [b.str], c.1, c.2, fun l hl => ?_⟩
  have x1 := Ext.lay s (.tup [.str (Txt.partition x y).1, .str (Txt.partition x y).2.1, .str (Txt.partition x y).2.2]) hl
  exact f3 _ _ _ x1 (.tup upd_same (.cons (.str _) (.cons (.str _) (.cons (.str _) .nil))))

/-! ### d.get(k), d.get(k, x) -/
def isDict (d : D) : R D := match d with
  | .dS k => .ok (.dS k)
  | .dT k => .ok (.dT k)
  | _ => .bad
theorem isDict_noer (d : D) (c : Str) : isDict d ≠ .er c := by cases d <;> intro h <;> cases h
def get1 (g h : Tau → R D) : Tau → R D := fun τ => (g τ).bind fun d => (isDict d).bind fun d => (h τ).bind fun k => (dgetD d k).bind fun o => .ok (o.getD .non)
def get2 (g h k : Tau → R D) : Tau → R D := fun τ => (g τ).bind fun d => (isDict d).bind fun d => (h τ).bind fun e => (k τ).bind fun z => (dgetD d e).bind fun o => .ok (o.getD z)
theorem Vw.isD {K : PySem.W.Frag} {mg : Str → Option Value} {H F : Hp} {v : V} {d d' : D} (s : Same F H) (h : Vw K mg H F v d) (e : isDict d = .ok d') : d' = d ∧ ∃ a, v = .ref a ∧ IsD H a := by
  cases d <;> try (cases e; done)
  · cases e
    obtain ⟨a, vs, rfl, h, _⟩ := h.dS s
    exact ⟨rfl, a, rfl, .inl ⟨_, h⟩⟩
  · cases e
    obtain ⟨a, vs, rfl, h, _⟩ := h.dT s
    exact ⟨rfl, a, rfl, .inr ⟨_, h⟩⟩
theorem dv_get1 (hu : X.A.units + 64 < cLine) (ho : DW X W o g) (he : DW X W e h) (m : M1 X o "get" apos e cpos) : DV X W (.Call (.Attribute o "get" apos) [e] [] cpos) (get1 g h) := by
  obtain ⟨ta, pa, qa⟩ := ho
  obtain ⟨tb, pb, qb⟩ := he
  refine ⟨_, pe_dget1 (by omega) pa pb m, fun B τ σ H F Q s hh => ?_⟩
  refine qa B τ σ H F _ s (hh.seq fun d v H1 F1 e1 p1 h1 => ?_)
  obtain ⟨d', ed, h2⟩ := Fin.bindOk h1 (isDict_noer d)
  obtain ⟨rfl, a, rfl, hd⟩ := p1.isD e1.fh ed
  refine ⟨a, rfl, hd, qb B τ σ H1 F1 _ (s.ext e1) (h2.seq fun k w H2 F2 e2 p2 h3 => ?_)⟩
  obtain ⟨ov, eo, h4⟩ := Fin.bindOk h3 (dgetD_noer _ _)
  obtain ⟨a', r, q, dg, hr⟩ := (p1.ext e2).dget e2.fh p2 eo
  cases q
  rcases hr with ⟨rfl, rfl⟩ | ⟨z, y, rfl, rfl, rp⟩
  · exact ⟨none, dg, h4 _ H2 F2 (Ext.refl e2.fh) .non⟩
  · exact ⟨_, dg, h4 _ H2 F2 (Ext.refl e2.fh) rp⟩
theorem dv_get2 {e2 : Expr} {k : Tau → R D} (hu : X.A.units + 64 < cLine) (ho : DW X W o g) (he : DW X W e h) (hf : DV X W e2 k) (m : M2 X o "get" apos e e2 cpos) : DV X W (.Call (.Attribute o "get" apos) [e, e2] [] cpos) (get2 g h k) := by
  obtain ⟨ta, pa, qa⟩ := ho
  obtain ⟨tb, pb, qb⟩ := he
  obtain ⟨tc, pc, qc⟩ := hf
  refine ⟨_, pe_dget2 (by omega) pa pb pc m, fun B τ σ H F Q s hh => ?_⟩
  refine qa B τ σ H F _ s (hh.seq fun d v H1 F1 e1 p1 h1 => ?_)
  obtain ⟨d', ed, h2⟩ := Fin.bindOk h1 (isDict_noer d)
  obtain ⟨rfl, a, rfl, hd⟩ := p1.isD e1.fh ed
  refine ⟨a, rfl, hd, qb B τ σ H1 F1 _ (s.ext e1) (h2.seq fun k w H2 F2 e2 p2 h3 => ?_)⟩
  refine qc B τ σ H2 F2 _ ((s.ext e1).ext e2) (h3.seq fun z y H3 F3 e3 p3 h4 => ?_)
  obtain ⟨ov, eo, h4⟩ := Fin.bindOk h4 (dgetD_noer _ _)
  obtain ⟨a', r, q, dg, hr⟩ := ((p1.ext e2).ext e3).dget e3.fh (p2.ext e3) eo
  cases q
  rcases hr with ⟨rfl, rfl⟩ | ⟨z, y, rfl, rfl, rp⟩
  · exact ⟨none, dg, h4 _ H3 F3 (Ext.refl e3.fh) p3⟩
  · exact ⟨_, dg, h4 _ H3 F3 (Ext.refl e3.fh) rp⟩

/-! ### a def of the text -/
/-- what it promises: of data, data (or an own error), nothing that stood is changed -/
def spD (K : PySem.W.Frag) (mg : Str → Option Value) (m : List D → R Sl) : Sp := fun vs H Q E => ∃ F ds, Same F H ∧ RepL K F vs ds ∧ Fin mg (fun c d _ H' => E c d H') [] H F (m ds) (fun s v H' F' => Br K mg H H' F' v s) Q
structure FnD (P : Program) (w : World) (K : PySem.W.Frag) (mg : Str → Option Value) (base : Heap) (k : Nat) (x : Str) (ps : List Str) (m : List D → R Sl) : Prop where
  ex : ∃ f fd, FnOk P w K mg base (L2N.CX P w) k f fd ps (spD K mg m) ∧ mg x = some (.ref f) ∧ PySem.W.keepIn K (.ref f) = true ∧ Binds K fd ps []
theorem dp_call {k : Nat} {ps : List Str} {m : List D → R Sl} (F : FnD X.prog X.w X.K X.mg X.base k x ps m) (hr : Room k X.A) (tk : L2N.Takes X W) (hg : Gl X x) (ha : DAk X W (e :: es) f)
    (hdb : (x == ("__debug__" : Str)) = false := by decide) (he : starEach (e :: es) X.env = (false, eval e X.env) :: starEach es X.env := by rfl) (hpl : (backTo pos (starEach es X.env)).any (·.1) = false := by rfl) :
    DP X W (.Call (.Name x p) (e :: es) [] pos) (cal1 m f) := by
  obtain ⟨fa, fd, G, hm, hk, hb⟩ := F.ex
  obtain ⟨t, pt, q⟩ := ha
  refine ⟨_, pe_callS G hr hg hm hk hb (fun σ => L2N.passAt tk σ) pt hdb he hpl, fun B τ σ H F Q s h => ?_⟩
  refine q B τ σ H F _ s (h.seq fun ds vs H1 F1 e1 p1 h1 => ⟨F1, ds, e1.fh, p1, ?_⟩)
  cases z : m ds with
  | ok s => rw [z] at h1; exact fun v H' F' x b => h1 v H' F' x (Br.older e1.hh b)
  | er c => rw [z] at h1; exact h1
  | bad => rw [z] at h1; exact h1
/-- some argument is only lent: what comes back must not hold it -/
def Sl.immC : Sl → Bool
  | .sh d => d.imm
  | .ow (.lst ds) => D.imms ds
  | _ => false
def calB (m : List D → R Sl) (f : Tau → R (List D)) : Tau → R Sl := fun τ => (f τ).bind fun ds => (if ds.any (fun d => match d with | .obj _ _ => true | _ => false) then .bad else m ds).bind fun s => if s.immC then .ok s else .bad
theorem VwL.rep {H F : Hp} (s : Same F H) : ∀ {vs : List V} {ds : List D}, VwL X H F vs ds → ds.any (fun d => match d with | .obj _ _ => true | _ => false) = false → RepL X.K H vs ds
  | _, _, .nil, _ => .nil
  | _, _, .cons h r, n => by
    rw [List.any_cons, Bool.or_eq_false_iff] at n
    refine .cons ?_ (VwL.rep s r n.2)
    rcases h with h | ⟨a, fp, rfl, o, _⟩
    · exact h.mono s
    · cases o with
      | lst e r => exact .lst (SqL.of e) (r.mono s)
      | dS e r => exact .dS (.inl e) (r.mono s)
      | dT e r => exact .dT (.inl e) (r.mono s)
      | obj _ _ _ _ => cases n.1
theorem dp_callL {k : Nat} {ps : List Str} {m : List D → R Sl} (F : FnD X.prog X.w X.K X.mg X.base k x ps m) (hr : Room k X.A) (tk : L2N.Takes X W) (hg : Gl X x) (ha : DAr X W (e :: es) f)
    (hdb : (x == ("__debug__" : Str)) = false := by decide) (he : starEach (e :: es) X.env = (false, eval e X.env) :: starEach es X.env := by rfl) (hpl : (backTo pos (starEach es X.env)).any (·.1) = false := by rfl) :
    DP X W (.Call (.Name x p) (e :: es) [] pos) (calB m f) := by
  obtain ⟨fa, fd, G, hm, hk, hb⟩ := F.ex
  obtain ⟨t, pt, q⟩ := ha
  refine ⟨_, pe_callS G hr hg hm hk hb (fun σ => L2N.passAt tk σ) pt hdb he hpl, fun B τ σ H F Q s h => ?_⟩
  refine q B τ σ H F _ s (h.seq fun ds vs H1 F1 e1 p1 h1 => ?_)
  by_cases hn : ds.any (fun d => match d with | .obj _ _ => true | _ => false) = true
  · rw [if_pos hn] at h1; exact h1.elim
  rw [if_neg hn] at h1
  have rp := p1.rep e1.fh (by simpa using hn)
  refine ⟨H1, ds, Same.refl _, rp, ?_⟩
  cases z : m ds with
  | bad => rw [z] at h1; exact h1
  | er c => rw [z] at h1; exact h1
  | ok s =>
    rw [z] at h1
    intro v H' F' x b
    have h2 : Fin X.mg W σ H1 F1 (if s.immC then R.ok s else .bad) (BrX X H) Q := h1
    obtain ⟨ci, h3⟩ := h2.ite
    have x2 := allT_ext (F := F1) x.hh (e1.fh.trans x.hh)
    refine h3 v H' _ x2 ?_
    have sF : Same F1 H' := e1.fh.trans x.hh
    cases s with
    | sh d => exact Rep.immT sF (Rep.mono x.fh b) ci
    | ow d =>
      cases d <;> try (cases ci; done)
      obtain ⟨a, fp, rfl, o, n, hh⟩ := b
      cases o with
      | lst e r =>
        have h0 := hh a (by simp)
        refine ⟨a, [a], rfl, .lst e (RepL.immT sF (r.mono x.fh) ci), by simp, fun b hb => ?_⟩
        simp at hb
        subst hb
        refine ⟨?_, e1.hh.free h0.2⟩
        unfold allT
        rw [e1.fh.free h0.2, e]
    | _ => cases ci
end
end DL
end

section
set_option Elab.async false
set_option linter.all false
set_option maxRecDepth 100000
namespace DL
open PySem PySem.Spec PyProof.Rows L2

/-! ### the state is changed -/
section
variable {K : PySem.W.Frag} {mg : Str → Option Value} {B : Base} {H F H' F' : Hp} {σ : St} {τ : List Sl}
theorem join_set {σ : St} {i : Nat} {v : V} (h : i < σ.length) : (σ.set i (some v))[i]?.join = some v := by
  rw [List.getElem?_set_self h]; rfl
/-- a slot's content is another one: shared data, or what is new -/
theorem SR.put (r : SR K mg B H F σ τ) {i : Nat} (hi : i < τ.length) (nio : ∀ d, τ[i]? ≠ some (.io d)) (e : Ext H F H' F') {v : V} {s : Sl} (b : Br K mg H H' F' v s) (nb : ∀ d, s ≠ .bw d) :
    SR K mg B H' F' (σ.set i (some v)) (τ.set i s) := by
  have r1 := r.ext e
  obtain ⟨fp, h1, h2, h3⟩ := r1.slots
  have hs : i < σ.length := by rw [r.len]; exact hi
  refine ⟨r1.keep, r1.live, r1.ff0, r1.fh, r1.new, by rw [List.length_set, List.length_set]; exact r1.len, ?_⟩
  obtain ⟨fpi, ok, fresh⟩ : ∃ fpi, SlOk K mg B H' F' i (some v) s fpi ∧ ∀ b ∈ fpi, H b = none := by
    cases s with
    | un => exact b.elim
    | io d => exact b.elim
    | bw d => exact absurd rfl (nb d)
    | sh d => exact ⟨[], ⟨rfl, v, rfl, b⟩, fun b hb => by simp at hb⟩
    | ow d =>
      obtain ⟨a, fpi, e1, o, n, q⟩ := b
      refine ⟨fpi, ⟨a, by rw [e1], o, n, fun b hb => ⟨(q b hb).1, ?_⟩⟩, fun b hb => (q b hb).2⟩
      cases z : B.H0 b with
      | none => rfl
      | some u =>
        obtain ⟨o', h4, _⟩ := r.live b u z
        rw [(q b hb).2] at h4; cases h4
  obtain ⟨fp0, g1, g2, g3⟩ := r.slots
  have old : ∀ j s, j ≠ i → τ[j]? = some s → ∀ b ∈ fp0 j, b ∉ fpi := fun j s hj hs b hb hb2 => by
    have ok := g1 j s hs
    have hb' := fresh b hb2
    cases s with
    | un => rw [show fp0 j = [] from ok] at hb; cases hb
    | sh d => rw [ok.1] at hb; cases hb
    | bw d => exact ok
    | ow d =>
      obtain ⟨a, _, o, _⟩ := ok
      obtain ⟨u, hu, _⟩ := o.there b hb
      rw [hb'] at hu; cases hu
    | io d =>
      obtain ⟨a, _, _, o, _⟩ := ok
      obtain ⟨u, hu, _⟩ := o.there b hb
      rw [hb'] at hu; cases hu
  have g1' : ∀ j s, τ[j]? = some s → SlOk K mg B H' F' j (σ[j]?.join) s (fp0 j) := fun j s q => (g1 j s q).ext e
  refine ⟨fun j => if j = i then fpi else fp0 j, fun j s' q => ?_, fun j q => ?_, fun j k a ha hb => ?_⟩
  · by_cases hj : j = i
    · subst hj
      rw [List.getElem?_set_self hi] at q
      cases q
      dsimp only
      rw [if_pos rfl, join_set hs]
      exact ok
    · rw [List.getElem?_set_ne (Ne.symm hj)] at q
      dsimp only
      rw [if_neg hj, List.getElem?_set_ne (Ne.symm hj)]
      exact g1' j s' q
  · by_cases hj : j = i
    · subst hj
      rw [List.getElem?_set_self hi] at q
      cases q
    · rw [List.getElem?_set_ne (Ne.symm hj)] at q
      dsimp only
      rw [if_neg hj]
      exact g2 j q
  · dsimp only at ha hb
    have there : ∀ j, fp0 j ≠ [] → ∃ s, τ[j]? = some s := fun j h => by
      cases q : τ[j]? with
      | none => exact absurd (g2 j q) h
      | some s => exact ⟨s, rfl⟩
    by_cases hj : j = i
    · by_cases hk : k = i
      · rw [hj, hk]
      · rw [if_pos hj] at ha
        rw [if_neg hk] at hb
        obtain ⟨s, q⟩ := there k (fun z => by rw [z] at hb; cases hb)
        exact absurd ha (old k s hk q a hb)
    · rw [if_neg hj] at ha
      by_cases hk : k = i
      · rw [if_pos hk] at hb
        obtain ⟨s, q⟩ := there j (fun z => by rw [z] at ha; cases ha)
        exact absurd hb (old j s hj q a ha)
      · rw [if_neg hk] at hb
        exact g3 j k a ha hb
/-- a slot is forgotten -/
theorem SR.forget (r : SR K mg B H F σ τ) {i : Nat} (hi : i < τ.length) (x : Option V) : SR K mg B H F (σ.set i x) (τ.set i .un) := by
  obtain ⟨fp, h1, h2, h3⟩ := r.slots
  refine ⟨r.keep, r.live, r.ff0, r.fh, r.new, by rw [List.length_set, List.length_set]; exact r.len, fun j => if j = i then [] else fp j, fun j s' q => ?_, fun j q => ?_, fun j k a ha hb => ?_⟩
  · by_cases hj : j = i
    · subst hj
      rw [List.getElem?_set_self hi] at q
      cases q
      dsimp only
      rw [if_pos rfl]
      exact rfl
    · rw [List.getElem?_set_ne (Ne.symm hj)] at q
      dsimp only
      rw [if_neg hj, List.getElem?_set_ne (Ne.symm hj)]
      exact h1 j s' q
  · by_cases hj : j = i
    · dsimp only; rw [if_pos hj]
    · rw [List.getElem?_set_ne (Ne.symm hj)] at q
      dsimp only
      rw [if_neg hj]
      exact h2 j q
  · dsimp only at ha hb
    by_cases hj : j = i
    · rw [if_pos hj] at ha; cases ha
    · by_cases hk : k = i
      · rw [if_pos hk] at hb; cases hb
      · rw [if_neg hj] at ha
        rw [if_neg hk] at hb
        exact h3 j k a ha hb
/-- an owned thing: its slot's place, what it is, its addresses -/
def OwnAt (K : PySem.W.Frag) (mg : Str → Option Value) (B : Base) (H F : Hp) (σ : St) (τ : List Sl) (i : Nat) (d : D) (a : Addr) (fp : List Addr) : Prop :=
  (τ[i]? = some (.ow d) ∨ τ[i]? = some (.io d)) ∧ σ[i]? = some (some (.ref a)) ∧ Own K mg H F d a fp ∧ fp.Nodup ∧ ∀ b ∈ fp, F b = none
def Sl.with (s : Sl) (d : D) : Sl := match s with
  | .ow _ => .ow d
  | .io _ => .io d
  | s => s
def Sl.owned : Sl → Option D
  | .ow d | .io d => some d
  | _ => none
theorem join_some {σ : St} {i : Nat} {v : V} (e : σ[i]?.join = some v) : σ[i]? = some (some v) := by
  cases z : σ[i]? with
  | none => rw [z] at e; cases e
  | some w => rw [z] at e; exact congrArg some e
/-- .. and all owned addresses lie within U -/
structure SRU (K : PySem.W.Frag) (mg : Str → Option Value) (B : Base) (H F : Hp) (σ : St) (τ : List Sl) (U : Addr → Prop) : Prop where
  sr : SR K mg B H F σ τ
  ex : ∃ fp : Nat → List Addr, (∀ i s, τ[i]? = some s → SlOk K mg B H F i (σ[i]?.join) s (fp i)) ∧ (∀ i, τ[i]? = none → fp i = []) ∧ (∀ i j a, a ∈ fp i → a ∈ fp j → i = j) ∧ ∀ i a, a ∈ fp i → U a
theorem SRU.imp {U U' : Addr → Prop} (r : SRU K mg B H F σ τ U) (h : ∀ a, U a → U' a) : SRU K mg B H F σ τ U' := by
  obtain ⟨fp, h1, h2, h3, h4⟩ := r.ex
  exact ⟨r.sr, fp, h1, h2, h3, fun i a ha => h a (h4 i a ha)⟩
theorem slot_append {α : Type} {l : List α} {x s : α} {j : Nat} (q : (l ++ [x])[j]? = some s) : (j < l.length ∧ l[j]? = some s) ∨ (j = l.length ∧ s = x) := by
  by_cases hj : j < l.length
  · rw [List.getElem?_append_left hj] at q
    exact .inl ⟨hj, q⟩
  · rw [List.getElem?_append_right (by omega)] at q
    have z : j - l.length = 0 := by
      cases z : j - l.length with
      | zero => rfl
      | succ n => rw [z] at q; simp at q
    rw [z] at q
    cases q
    exact .inr ⟨by omega, rfl⟩
/-- one slot more, its addresses apart -/
theorem SRU.push {U : Addr → Prop} (r : SRU K mg B H F σ τ U) {v : V} {s2 : Sl} {fp2 : List Addr} (ok : SlOk K mg B H F τ.length (some v) s2 fp2) (ap : ∀ b ∈ fp2, ¬ U b) : SR K mg B H F (σ ++ [some v]) (τ ++ [s2]) := by
  obtain ⟨fp, h1, h2, h3, h4⟩ := r.ex
  have hn : fp τ.length = [] := h2 _ (List.getElem?_eq_none_iff.mpr (Nat.le_refl _))
  refine ⟨r.sr.keep, r.sr.live, r.sr.ff0, r.sr.fh, r.sr.new, by rw [List.length_append, List.length_append, r.sr.len]; rfl, fun j => if j = τ.length then fp2 else fp j, fun j s q => ?_, fun j q => ?_, fun j k a ha hb => ?_⟩
  · dsimp only
    rcases slot_append q with ⟨hj, q⟩ | ⟨hj, q⟩
    · rw [if_neg (by omega), List.getElem?_append_left (by rw [r.sr.len]; exact hj)]
      exact h1 j s q
    · subst q
      rw [if_pos hj, List.getElem?_append_right (by rw [r.sr.len]; omega), hj, r.sr.len, Nat.sub_self]
      exact ok
  · have : (τ ++ [s2]).length ≤ j := List.getElem?_eq_none_iff.mp q
    rw [List.length_append] at this
    have h5 : ([s2]).length = 1 := rfl
    dsimp only
    rw [if_neg (by omega)]
    exact h2 j (List.getElem?_eq_none_iff.mpr (by omega))
  · dsimp only at ha hb
    by_cases hj : j = τ.length
    · rw [if_pos hj] at ha
      by_cases hk : k = τ.length
      · rw [hj, hk]
      · rw [if_neg hk] at hb
        exact absurd (h4 k a hb) (ap a ha)
    · rw [if_neg hj] at ha
      by_cases hk : k = τ.length
      · rw [if_pos hk] at hb
        exact absurd (h4 j a ha) (ap a hb)
      · rw [if_neg hk] at hb
        exact h3 j k a ha hb
theorem SR.own (r : SR K mg B H F σ τ) {i : Nat} {s : Sl} {d : D} (hs : τ[i]? = some s) (ho : s.owned = some d) :
    ∃ a fp, σ[i]? = some (some (.ref a)) ∧ Own K mg H F d a fp ∧ fp.Nodup ∧ (∀ b ∈ fp, F b = none) ∧
    ∀ (d' : D) (H' F' : Hp) (fp' : List Addr), (∀ b o, b ∉ fp → H b = some o → H' b = some o) → (∀ b o, b ∈ fp → H b = some o → ∃ o', H' b = some o' ∧ tupB o' = tupB o) → Same F F' → Same F' H' → (∀ b, F' b ≠ none → F b ≠ none ∨ Fr H b) →
      Own K mg H' F' d' a fp' → fp'.Nodup → (∀ b ∈ fp', F' b = none ∧ (b ∈ fp ∨ H b = none)) → SRU K mg B H' F' σ (τ.set i (s.with d')) (fun b => b ∈ fp' ∨ H b ≠ none) := by
  obtain ⟨fp, h1, h2, h3⟩ := r.slots
  have ok := h1 i s hs
  have hi : i < τ.length := (List.getElem?_eq_some_iff.mp hs).1
  obtain ⟨a, ea, o, nd, apF, ap0, remake⟩ : ∃ a, σ[i]?.join = some (.ref a) ∧ Own K mg H F d a (fp i) ∧ (fp i).Nodup ∧ (∀ b ∈ fp i, F b = none) ∧ (∀ b ∈ fp i, B.H0 b = none ∨ B.Z b) ∧
      ∀ (d' : D) (H' F' : Hp) (fp' : List Addr), Own K mg H' F' d' a fp' → fp'.Nodup → (∀ b ∈ fp', F' b = none ∧ (b ∈ fp i ∨ B.H0 b = none)) → SlOk K mg B H' F' i (some (.ref a)) (s.with d') fp' := by
    cases s with
    | un => cases ho
    | sh _ => cases ho
    | bw _ => cases ho
    | ow _ =>
      cases ho
      obtain ⟨a, e1, o, n, q⟩ := ok
      refine ⟨a, e1, o, n, fun b hb => (q b hb).1, fun b hb => .inl (q b hb).2, fun d' H' F' fp' o' n' q' => ⟨a, rfl, o', n', fun b hb => ⟨(q' b hb).1, ?_⟩⟩⟩
      rcases (q' b hb).2 with z | z
      · exact (q b z).2
      · exact z
    | io _ =>
      cases ho
      obtain ⟨a, e1, e2, o, n, q⟩ := ok
      refine ⟨a, e1, o, n, fun b hb => (q b hb).1, fun b hb => (q b hb).2, fun d' H' F' fp' o' n' q' => ⟨a, rfl, e2, o', n', fun b hb => ⟨(q' b hb).1, ?_⟩⟩⟩
      rcases (q' b hb).2 with z | z
      · exact (q b z).2
      · exact .inl z
  refine ⟨a, fp i, join_some ea, o, nd, apF, fun d' H' F' fp' out inn ff fh new o' nd' ap' => ?_⟩
  have h0new : ∀ b, H b = none → B.H0 b = none := fun b hb => by
    cases z : B.H0 b with
    | none => rfl
    | some u =>
      obtain ⟨o', h4, _⟩ := r.live b u z
      rw [hb] at h4; cases h4
  suffices hh : (∀ a o, B.H0 a = some o → ¬ B.Z a → H' a = some o) ∧ (∀ a o, B.H0 a = some o → ∃ o', H' a = some o' ∧ tupB o' = tupB o) ∧ (∀ a, F' a ≠ none → B.F0 a ≠ none ∨ Fr B.H0 a) ∧
      ∃ fp : Nat → List Addr, (∀ j s', (τ.set i (s.with d'))[j]? = some s' → SlOk K mg B H' F' j (σ[j]?.join) s' (fp j)) ∧ (∀ j, (τ.set i (s.with d'))[j]? = none → fp j = []) ∧ (∀ j k a, a ∈ fp j → a ∈ fp k → j = k) ∧ ∀ j a, a ∈ fp j → a ∈ fp' ∨ H a ≠ none from by
    obtain ⟨g1, g2, g3, fq, g4, g5, g6, g7⟩ := hh
    exact ⟨⟨g1, g2, r.ff0.trans ff, fh, g3, by rw [List.length_set]; exact r.len, fq, g4, g5, g6⟩, fq, g4, g5, g6, g7⟩
  refine ⟨fun b u hb nz => ?_, fun b u hb => ?_, fun b hb => ?_, fun j => if j = i then fp' else fp j, fun j s' q => ?_, fun j q => ?_, fun j k b ha hb => ?_, fun j b hb => ?_⟩
  · refine out b u (fun hm => ?_) (r.keep b u hb nz)
    rcases ap0 b hm with z | z
    · rw [z] at hb; cases hb
    · exact nz z
  · obtain ⟨u', h4, h5⟩ := r.live b u hb
    by_cases hm : b ∈ fp i
    · obtain ⟨u2, h6, h7⟩ := inn b u' hm h4
      exact ⟨u2, h6, h7.trans h5⟩
    · exact ⟨u', out b u' hm h4, h5⟩
  · rcases new b hb with z | z
    · exact r.new b z
    · refine .inr fun u hu => ?_
      obtain ⟨u', h4, h5⟩ := r.live b u hu
      rw [← h5]
      exact z u' h4
  · by_cases hj : j = i
    · subst hj
      rw [List.getElem?_set_self hi] at q
      cases q
      dsimp only
      rw [if_pos rfl, ea]
      exact remake d' H' F' fp' o' nd' fun b hb => ⟨(ap' b hb).1, (ap' b hb).2.imp id (h0new b)⟩
    · rw [List.getElem?_set_ne (Ne.symm hj)] at q
      dsimp only
      rw [if_neg hj]
      have okj := h1 j s' q
      have keepj : ∀ b ∈ fp j, ∀ o, H b = some o → H' b = some o := fun b hb u hu => out b u (fun hm => hj (h3 j i b hb hm)) hu
      have apj : ∀ b, b ∈ fp j → (∃ o, H b = some o ∧ tupB o = false) → F b = none → F' b = none := fun b hb ⟨u, hu, hn⟩ hf => by
        cases z : F' b with
        | none => rfl
        | some w =>
          rcases new b (by rw [z]; simp) with y | y
          · exact absurd hf y
          · have := y u hu
            rw [hn] at this; cases this
      cases s' with
      | un => exact okj
      | bw _ => exact okj
      | sh d => obtain ⟨z, x, e1, rp⟩ := okj; exact ⟨z, x, e1, rp.mono ff⟩
      | ow d =>
        obtain ⟨a', e1, oj, n, qj⟩ := okj
        exact ⟨a', e1, oj.keep ff keepj, n, fun b hb => ⟨apj b hb (oj.there b hb) (qj b hb).1, (qj b hb).2⟩⟩
      | io d =>
        obtain ⟨a', e1, e2, oj, n, qj⟩ := okj
        exact ⟨a', e1, e2, oj.keep ff keepj, n, fun b hb => ⟨apj b hb (oj.there b hb) (qj b hb).1, (qj b hb).2⟩⟩
  · by_cases hj : j = i
    · subst hj
      rw [List.getElem?_set_self hi] at q
      cases q
    · rw [List.getElem?_set_ne (Ne.symm hj)] at q
      dsimp only
      rw [if_neg hj]
      exact h2 j q
  · dsimp only at ha hb
    have sep : ∀ j, j ≠ i → b ∈ fp j → b ∈ fp' → False := fun j hj h4 h5 => by
      rcases (ap' b h5).2 with z | z
      · exact hj (h3 j i b h4 z)
      · cases q : τ[j]? with
        | none => rw [h2 j q] at h4; cases h4
        | some s' =>
          have okj := h1 j s' q
          cases s' with
          | un => rw [show fp j = [] from okj] at h4; cases h4
          | sh d => rw [okj.1] at h4; cases h4
          | bw d => exact okj
          | ow d =>
            obtain ⟨a', _, oj, _⟩ := okj
            obtain ⟨u, hu, _⟩ := oj.there b h4
            rw [z] at hu; cases hu
          | io d =>
            obtain ⟨a', _, _, oj, _⟩ := okj
            obtain ⟨u, hu, _⟩ := oj.there b h4
            rw [z] at hu; cases hu
    by_cases hj : j = i
    · by_cases hk : k = i
      · rw [hj, hk]
      · rw [if_pos hj] at ha
        rw [if_neg hk] at hb
        exact (sep k hk hb ha).elim
    · rw [if_neg hj] at ha
      by_cases hk : k = i
      · rw [if_pos hk] at hb
        exact (sep j hj ha hb).elim
      · rw [if_neg hk] at hb
        exact h3 j k b ha hb
  · dsimp only at hb
    by_cases hj : j = i
    · rw [if_pos hj] at hb
      exact .inl hb
    · rw [if_neg hj] at hb
      refine .inr ?_
      cases q : τ[j]? with
      | none => rw [h2 j q] at hb; cases hb
      | some s' =>
        have okj := h1 j s' q
        cases s' with
        | un => rw [show fp j = [] from okj] at hb; cases hb
        | sh d => rw [okj.1] at hb; cases hb
        | bw d => exact okj.elim
        | ow d =>
          obtain ⟨a', _, oj, _⟩ := okj
          obtain ⟨u, hu, _⟩ := oj.there b hb
          rw [hu]; simp
        | io d =>
          obtain ⟨a', _, _, oj, _⟩ := okj
          obtain ⟨u, hu, _⟩ := oj.there b hb
          rw [hu]; simp
/-- .. one object of one address is written -/
theorem SR.own1 (r : SR K mg B H F σ τ) {i : Nat} {s : Sl} {d : D} (hs : τ[i]? = some s) (ho : s.owned = some d) (hf : d.flat1 = true) :
    ∃ a, σ[i]? = some (some (.ref a)) ∧ Own K mg H F d a [a] ∧ F a = none ∧
    ∀ (d' : D) (o' : HO), tupB o' = false → Own K mg (upd H a o') F d' a [a] → SR K mg B (upd H a o') F σ (τ.set i (s.with d')) := by
  obtain ⟨a, fp, e1, o, n, ap, k⟩ := r.own hs ho
  have hfp : fp = [a] := by
    cases o with
    | lst _ _ => rfl
    | dS _ _ => rfl
    | dT _ _ => rfl
    | obj _ _ _ _ => cases hf
  subst hfp
  have fa := ap a (by simp)
  refine ⟨a, e1, o, fa, fun d' o' nt o2 => ?_⟩
  refine SRU.sr (k d' (upd H a o') F [a] (fun b u hb hu => ?_) (fun b u hb hu => ?_) (Same.refl _) (fun b u hu => ?_) (fun b hb => .inl hb) o2 (by simp) (fun b hb => ?_))
  · rw [upd_ne (by simpa using hb)]; exact hu
  · have eb : b = a := by simpa using hb
    subst eb
    refine ⟨o', upd_same, ?_⟩
    obtain ⟨u', hu', hn⟩ := o.there b (by simp)
    rw [hu] at hu'; cases hu'
    rw [nt, hn]
  · rw [upd_ne (ne_of_none hu fa)]; exact r.fh b u hu
  · have eb : b = a := by simpa using hb
    subst eb
    exact ⟨fa, .inl (by simp)⟩
end
end DL
end

section
set_option Elab.async false
set_option linter.all false
set_option maxRecDepth 100000
namespace DL
open PySem PySem.Spec PyProof.Rows L2

/-! ### tests -/
def DT (X : Cx) (W : WX) (e : Expr) (g : Tau → R Bool) : Prop := ∃ t, PT X e t ∧ ∀ B τ σ H F Q, SR X.K X.mg B H F σ τ → Fin X.mg W σ H F (g τ) (fun b v _ _ => v = b) Q → t σ H Q
def DTw (X : Cx) (W : WX) (e : Expr) (g : Tau → R Bool) : Prop := ∃ t, PW X e t ∧ ∀ B τ σ H F Q, SR X.K X.mg B H F σ τ → Fin X.mg W σ H F (g τ) (fun b v _ _ => v = b) Q → t σ H Q
def blOf (d : D) : R Bool := match d with
  | .bl b => .ok b
  | _ => .bad
def slBl (s : Sl) : R Bool := match s with
  | .sh (.bl b) => .ok b
  | _ => .bad
def tst (f : Tau → R Sl) : Tau → R Bool := fun τ => (f τ).bind slBl
theorem slBl_noer (s : Sl) (c : Str) : slBl s ≠ .er c := by
  unfold slBl
  split <;> intro h <;> cases h
theorem slBl_ok {s : Sl} {b : Bool} (h : slBl s = .ok b) : s = .sh (.bl b) := by
  unfold slBl at h
  split at h
  · cases h; rfl
  · cases h
section
variable {X : Cx} {W : WX} {a b c e : Expr} {f g : Tau → R D} {t u : Tau → R Bool} {op : D → D → R Sl} {pos p : Pos} {rest : List Expr}
theorem DTw.pt (h : DTw X W e t) : DT X W e t := by
  obtain ⟨t, p, q⟩ := h
  exact ⟨t, p.pt, q⟩
theorem dt_cmp {o : CmpOp} {r : R2} (ho : OpR X (compareOp o) r) (hs : OpSim X r op) (hn : NoEr op) (ha : DW X W a f) (hb : DW X W b g) (hm : behindInMarks o b = false) : DT X W (.Compare a [o] [b] pos) (tst (op2 op f g)) := by
  obtain ⟨ta, pa, qa⟩ := ha
  obtain ⟨tb, pb, qb⟩ := hb
  refine ⟨_, pt_cmpR ho pa pb hm, fun B τ σ H F Q s h => sim_op hs hn qa qb B τ σ H F _ s (h.seq fun s v H1 F1 e1 p1 h1 => ?_)⟩
  obtain ⟨k, ek, h2⟩ := Fin.bindOk (k := fun b => R.ok b) (r := slBl s) (by
    have e : (slBl s).bind (fun b => R.ok b) = slBl s := by cases slBl s <;> rfl
    rw [e]; exact h1) (slBl_noer s)
  have es := slBl_ok ek
  subst es
  have ev : v = .bl k := by cases (show Rep X.K F1 v (.bl k) from p1); rfl
  subst ev
  exact ⟨k, rfl, h2 k H1 F1 (Ext.refl e1.fh) rfl⟩
theorem dt_eq (hu : X.A.units + 64 < cLine) (ha : DW X W a f) (hb : DW X W b g) : DT X W (.Compare a [.Eq] [b] pos) (tst (op2 eqD f g)) := dt_cmp (op_eqP hu) (sim_dat fun d e h => ⟨(cmpOk_iff.mp h).1, (cmpOk_iff.mp h).2.1⟩) noer_dat ha hb (nomark _)
theorem dt_ne (hu : X.A.units + 64 < cLine) (ha : DW X W a f) (hb : DW X W b g) : DT X W (.Compare a [.NotEq] [b] pos) (tst (op2 neD f g)) := dt_cmp (op_neP hu) (sim_dat fun d e h => ⟨(cmpOk_iff.mp h).1, (cmpOk_iff.mp h).2.1⟩) noer_dat ha hb (nomark _)
theorem dt_lt (hu : X.A.units + 64 < cLine) (ha : DW X W a f) (hb : DW X W b g) : DT X W (.Compare a [.Lt] [b] pos) (tst (op2 ltD f g)) := dt_cmp (op_ltP hu) (sim_dat ltOk_pl) noer_dat ha hb (nomark _)
theorem dt_gt (hu : X.A.units + 64 < cLine) (ha : DW X W a f) (hb : DW X W b g) : DT X W (.Compare a [.Gt] [b] pos) (tst (op2 gtD f g)) := dt_cmp (op_gtP hu) (sim_dat ltOk_pl) noer_dat ha hb (nomark _)
theorem dt_le (hu : X.A.units + 64 < cLine) (ha : DW X W a f) (hb : DW X W b g) : DT X W (.Compare a [.LtE] [b] pos) (tst (op2 leD f g)) := dt_cmp (op_leP hu) (sim_dat ltOk_pl) noer_dat ha hb (nomark _)
theorem dt_ge (hu : X.A.units + 64 < cLine) (ha : DW X W a f) (hb : DW X W b g) : DT X W (.Compare a [.GtE] [b] pos) (tst (op2 geD f g)) := dt_cmp (op_geP hu) (sim_dat ltOk_pl) noer_dat ha hb (nomark _)
theorem sim_isN : OpSim X (fun x y H Q => y = .non ∧ Q (.bl (decide (x = .non))) H) isND := by
  intro H F v w d e Q s a b f
  cases e <;> try exact f.elim
  refine ⟨b.non, ?_⟩
  rw [a.isNon]
  exact f _ H F (Ext.refl s) (.bl _)
theorem sim_notN : OpSim X (fun x y H Q => y = .non ∧ Q (.bl (!decide (x = .non))) H) notND := by
  intro H F v w d e Q s a b f
  cases e <;> try exact f.elim
  refine ⟨b.non, ?_⟩
  rw [a.isNon]
  exact f _ H F (Ext.refl s) (.bl _)
theorem noer_isN : NoEr isND := by intro d e c; cases e <;> intro h <;> cases h
theorem noer_notN : NoEr notND := by intro d e c; cases e <;> intro h <;> cases h
theorem dt_isN (ha : DW X W a f) (hb : DW X W b g) : DT X W (.Compare a [.Is] [b] pos) (tst (op2 isND f g)) := dt_cmp op_isN sim_isN noer_isN ha hb (nomark _)
theorem dt_notN (ha : DW X W a f) (hb : DW X W b g) : DT X W (.Compare a [.IsNot] [b] pos) (tst (op2 notND f g)) := dt_cmp op_notN sim_notN noer_notN ha hb (nomark _)
theorem inD_eq : inD = fun x c => (inD0 x c).bind fun b => .ok (.sh (.bl (xor false b))) := by
  funext x c
  unfold inD
  simp
theorem ninD_eq : ninD = fun x c => (inD0 x c).bind fun b => .ok (.sh (.bl (xor true b))) := by
  funext x c
  unfold ninD
  simp
theorem dt_in (hu : X.A.units + 64 < cLine) (ha : DW X W a f) (hb : DW X W b g) (hm : behindInMarks .In b = false) : DT X W (.Compare a [.In] [b] pos) (tst (op2 inD f g)) := by
  rw [inD_eq]
  exact dt_cmp ((op_inP hu).or ((op_inDc hu).or op_in1)) (sim_in false) (noer_in _) ha hb hm
theorem dt_nin (hu : X.A.units + 64 < cLine) (ha : DW X W a f) (hb : DW X W b g) (hm : behindInMarks .NotIn b = false) : DT X W (.Compare a [.NotIn] [b] pos) (tst (op2 ninD f g)) := by
  rw [ninD_eq]
  exact dt_cmp ((op_ninP hu).or ((op_ninDc hu).or op_nin1)) (sim_in true) (noer_in _) ha hb hm
/-- the truth of data: truths alone, and None -/
def truD (d : D) : R Bool := match d with
  | .bl b => .ok b
  | .non => .ok false
  | .lst ds => .ok (!ds.isEmpty)
  | _ => .bad
theorem truD_noer (d : D) (c : Str) : truD d ≠ .er c := by cases d <;> intro h <;> cases h
def tru (f : Tau → R D) : Tau → R Bool := fun τ => (f τ).bind truD
theorem dt_tru (ha : DW X W a f) (he : ∀ whole, isTrue a X.env whole = (do let v ← whole; standAt a.pos; holding [v] (truthy v)) := by intro _; rfl) : DT X W a (tru f) := by
  obtain ⟨t, p, q⟩ := ha
  refine ⟨_, pt_truth p he, fun B τ σ H F Q s h => q B τ σ H F _ s (h.seq fun d v H1 F1 e1 p1 h1 => ?_)⟩
  cases d with
  | bl b => exact ⟨b, by rw [p1.bl]; exact rfl, h1 b H1 F1 (Ext.refl e1.fh) rfl⟩
  | non => exact ⟨false, by rw [p1.non]; exact rfl, h1 false H1 F1 (Ext.refl e1.fh) rfl⟩
  | lst ds =>
    obtain ⟨a, vs, rfl, h, r⟩ := p1.lst e1.fh
    refine ⟨!ds.isEmpty, .inl ⟨vs, h, ?_⟩, h1 _ H1 F1 (Ext.refl e1.fh) rfl⟩
    have := r.nil_iff
    cases vs <;> cases ds <;> simp at this ⊢
  | int _ => exact h1.elim
  | str _ => exact h1.elim
  | tup _ => exact h1.elim
  | dS _ => exact h1.elim
  | dT _ => exact h1.elim
  | obj _ _ => exact h1.elim
def notT (t : Tau → R Bool) : Tau → R Bool := fun τ => (t τ).bind fun b => .ok (!b)
def andT (t u : Tau → R Bool) : Tau → R Bool := fun τ => (t τ).bind fun b => if b then u τ else .ok false
def orT (t u : Tau → R Bool) : Tau → R Bool := fun τ => (t τ).bind fun b => if b then .ok true else u τ
theorem dt_not (h : DT X W a t) : DT X W (.UnaryOp .Not a pos) (notT t) := by
  obtain ⟨t, p, q⟩ := h
  refine ⟨_, pt_not p, fun B τ σ H F Q s h => q B τ σ H F _ s (h.seq fun k v H1 F1 e1 p1 h1 => ?_)⟩
  subst p1
  exact h1 _ H1 F1 (Ext.refl e1.fh) rfl
theorem dt_and1 (h : DT X W a t) : DTw X W (.BoolOp .And [a] pos) t := by
  obtain ⟨t, p, q⟩ := h
  exact ⟨_, pw_and1 p, q⟩
theorem dt_or1 (h : DT X W a t) : DTw X W (.BoolOp .Or [a] pos) t := by
  obtain ⟨t, p, q⟩ := h
  exact ⟨_, pw_or1 p, q⟩
theorem dt_and (h : DT X W a t) (h2 : DTw X W (.BoolOp .And (b :: rest) pos) u) : DTw X W (.BoolOp .And (a :: b :: rest) pos) (andT t u) := by
  obtain ⟨t, p, q⟩ := h
  obtain ⟨u, pu, qu⟩ := h2
  refine ⟨_, pw_and p pu, fun B τ σ H F Q s h => q B τ σ H F _ s (h.seq fun k v H1 F1 e1 p1 h1 => ?_)⟩
  subst p1
  cases v with
  | true =>
    rw [if_pos rfl]
    exact qu B τ σ H1 F1 Q (s.ext e1) h1
  | false =>
    rw [if_neg Bool.false_ne_true]
    exact h1 _ H1 F1 (Ext.refl e1.fh) rfl
theorem dt_or (h : DT X W a t) (h2 : DTw X W (.BoolOp .Or (b :: rest) pos) u) : DTw X W (.BoolOp .Or (a :: b :: rest) pos) (orT t u) := by
  obtain ⟨t, p, q⟩ := h
  obtain ⟨u, pu, qu⟩ := h2
  refine ⟨_, pw_or p pu, fun B τ σ H F Q s h => q B τ σ H F _ s (h.seq fun k v H1 F1 e1 p1 h1 => ?_)⟩
  subst p1
  cases v with
  | true =>
    rw [if_pos rfl]
    exact h1 _ H1 F1 (Ext.refl e1.fh) rfl
  | false =>
    rw [if_neg Bool.false_ne_true]
    exact qu B τ σ H1 F1 Q (s.ext e1) h1
/-! .. as values -/
def andV (f g : Tau → R D) : Tau → R D := fun τ => (f τ).bind fun d => (blOf d).bind fun b => if b then g τ else .ok (.bl false)
def orV (f g : Tau → R D) : Tau → R D := fun τ => (f τ).bind fun d => (blOf d).bind fun b => if b then .ok (.bl true) else g τ
def notV (f : Tau → R D) : Tau → R D := fun τ => (f τ).bind fun d => (blOf d).bind fun b => .ok (.bl (!b))
theorem blOf_noer (d : D) (c : Str) : blOf d ≠ .er c := by cases d <;> intro h <;> cases h
theorem blOf_ok {d : D} {b : Bool} (h : blOf d = .ok b) : d = .bl b := by cases d <;> cases h; rfl
theorem dv_one {o : BoolOp} (h : DV X W a f) : DV X W (.BoolOp o [a] pos) f := by
  obtain ⟨t, p, q⟩ := h
  exact ⟨t, pe_one p, q⟩
theorem dv_and (h : DW X W a f) (h2 : DV X W (.BoolOp .And (b :: rest) pos) g) : DV X W (.BoolOp .And (a :: b :: rest) pos) (andV f g) := by
  obtain ⟨t, p, q⟩ := h
  obtain ⟨u, pu, qu⟩ := h2
  refine ⟨_, pe_and p pu, fun B τ σ H F Q s h => q B τ σ H F _ s (h.seq fun d v H1 F1 e1 p1 h1 => ?_)⟩
  obtain ⟨k, ek, h2⟩ := Fin.bindOk h1 (blOf_noer d)
  have ed := blOf_ok ek
  subst ed
  refine ⟨k, p1.bl, ?_⟩
  cases k with
  | true =>
    rw [if_pos rfl] at h2 ⊢
    exact qu B τ σ H1 F1 Q (s.ext e1) h2
  | false =>
    rw [if_neg Bool.false_ne_true] at h2 ⊢
    exact h2 _ H1 F1 (Ext.refl e1.fh) (.bl _)
theorem dv_or (h : DW X W a f) (h2 : DV X W (.BoolOp .Or (b :: rest) pos) g) : DV X W (.BoolOp .Or (a :: b :: rest) pos) (orV f g) := by
  obtain ⟨t, p, q⟩ := h
  obtain ⟨u, pu, qu⟩ := h2
  refine ⟨_, pe_or p pu, fun B τ σ H F Q s h => q B τ σ H F _ s (h.seq fun d v H1 F1 e1 p1 h1 => ?_)⟩
  obtain ⟨k, ek, h2⟩ := Fin.bindOk h1 (blOf_noer d)
  have ed := blOf_ok ek
  subst ed
  refine ⟨k, p1.bl, ?_⟩
  cases k with
  | true =>
    rw [if_pos rfl] at h2 ⊢
    exact h2 _ H1 F1 (Ext.refl e1.fh) (.bl _)
  | false =>
    rw [if_neg Bool.false_ne_true] at h2 ⊢
    exact qu B τ σ H1 F1 Q (s.ext e1) h2
theorem dv_not (h : DW X W a f) : DV X W (.UnaryOp .Not a pos) (notV f) := by
  obtain ⟨t, p, q⟩ := h
  refine ⟨_, pe_not p, fun B τ σ H F Q s h => q B τ σ H F _ s (h.seq fun d v H1 F1 e1 p1 h1 => ?_)⟩
  obtain ⟨k, ek, h2⟩ := Fin.bindOk h1 (blOf_noer d)
  have ed := blOf_ok ek
  subst ed
  exact ⟨k, p1.bl, h2 _ H1 F1 (Ext.refl e1.fh) (.bl _)⟩
end

/-! ### statements -/
inductive Fl where
  | nx (τ : Tau) | rt (s : Sl) (τ : Tau) | er (c : Str) (τ : Tau) | bad
def FinS (K : PySem.W.Frag) (mg : Str → Option Value) (W : WX) (B : Base) (F : Hp) (r : Fl) (D : Ends) : Prop := match r with
  | .nx τ => ∀ σ' H' F', Same F F' → SR K mg B H' F' σ' τ → D.nx σ' H'
  | .rt s τ => ∀ v σ' H' F', Same F F' → SR K mg B H' F' (σ' ++ [some v]) (τ ++ [s]) → D.rt v H'
  | .er c τ => ∀ σ' H' F', Same F F' → SR K mg B H' F' σ' τ → W (cv mg c) none σ' H'
  | .bad => False
abbrev FS := Tau → Fl
def DS (X : Cx) (W : WX) (st : Stmt) (f : FS) : Prop := ∃ t, PS X st t ∧ ∀ B τ σ H F D, SR X.K X.mg B H F σ τ → FinS X.K X.mg W B F (f τ) D → t D σ H
def DSs (X : Cx) (W : WX) (st : List Stmt) (f : FS) : Prop := ∃ t, PSs X st t ∧ ∀ B τ σ H F D, SR X.K X.mg B H F σ τ → FinS X.K X.mg W B F (f τ) D → t D σ H
theorem FinS.older {K : PySem.W.Frag} {mg : Str → Option Value} {W : WX} {B : Base} {F F1 : Hp} {r : Fl} {D : Ends} (s : Same F F1) (h : FinS K mg W B F r D) : FinS K mg W B F1 r D := by
  cases r with
  | nx τ => exact fun σ' H' F' e r => h σ' H' F' (s.trans e) r
  | rt x τ => exact fun v σ' H' F' e r => h v σ' H' F' (s.trans e) r
  | er c τ => exact fun σ' H' F' e r => h σ' H' F' (s.trans e) r
  | bad => exact h
def Fl.seq (r : Fl) (k : FS) : Fl := match r with
  | .nx τ => k τ
  | r => r
@[simp] theorem Fl.seq_nx (τ : Tau) (k : FS) : (Fl.nx τ).seq k = k τ := rfl
@[simp] theorem Fl.seq_rt (s : Sl) (τ : Tau) (k : FS) : (Fl.rt s τ).seq k = .rt s τ := rfl
@[simp] theorem Fl.seq_er (s : Str) (τ : Tau) (k : FS) : (Fl.er s τ).seq k = .er s τ := rfl
@[simp] theorem Fl.seq_bad (k : FS) : Fl.bad.seq k = .bad := rfl
def sNx : FS := fun τ => .nx τ
def sSeq (f g : FS) : FS := fun τ => (f τ).seq g
/-- an expression's outcome, then a statement's -/
def Fl.of {α : Type} (r : R α) (τ : Tau) (k : α → Fl) : Fl := match r with
  | .ok a => k a
  | .er c => .er c τ
  | .bad => .bad
@[simp] theorem Fl.of_ok {α : Type} (a : α) (τ : Tau) (k : α → Fl) : Fl.of (.ok a) τ k = k a := rfl
@[simp] theorem Fl.of_er {α : Type} (c : Str) (τ : Tau) (k : α → Fl) : Fl.of (.er c) τ k = .er c τ := rfl
@[simp] theorem Fl.of_bad {α : Type} (τ : Tau) (k : α → Fl) : Fl.of .bad τ k = .bad := rfl
def sIf (c : Tau → R Bool) (f g : FS) : FS := fun τ => Fl.of (c τ) τ fun b => if b then f τ else g τ
def sDrop (f : Tau → R Sl) : FS := fun τ => Fl.of (f τ) τ fun _ => .nx τ
/-- name = e -/
def Sl.isBw : Sl → Bool
  | .bw _ => true
  | _ => false
def Sl.isIo : Sl → Bool
  | .io _ => true
  | _ => false
def Fl.put (τ : Tau) (i : Nat) (s : Sl) : Fl := match τ[i]? with
  | none => .bad
  | some x => if x.isIo || s.isBw then .bad else .nx (τ.set i s)
def sSet (i : Nat) (f : Tau → R Sl) : FS := fun τ => Fl.of (f τ) τ fun s => Fl.put τ i s
/-- return e -/
def sRet (f : Tau → R Sl) : FS := fun τ => Fl.of (f τ) τ fun s => match s with
  | .bw _ => .bad
  | s => .rt s τ
/-- return name, what it owns goes along -/
def sRetV (i : Nat) : FS := fun τ => match τ[i]? with
  | some (.ow d) => .rt (.ow d) (τ.set i .un)
  | some (.sh d) => .rt (.sh d) τ
  | _ => .bad
section
variable {K : PySem.W.Frag} {mg : Str → Option Value} {B : Base} {H F H' F' : Hp} {σ : St} {τ : List Sl} {W : WX}
/-- an expression's outcome is a statement's -/
theorem FinS.expr {α β : Type} {r : R α} {k : α → Fl} {P : α → β → Hp → Hp → Prop} {Q : β → Hp → Prop} {D : Ends} (s : SR K mg B H F σ τ) (h : FinS K mg W B F (Fl.of r τ k) D)
    (q : ∀ a v H1 F1, Ext H F H1 F1 → P a v H1 F1 → FinS K mg W B F1 (k a) D → Q v H1) : Fin mg W σ H F r P Q := by
  cases r with
  | ok a => exact fun v H1 F1 e p => q a v H1 F1 e p (FinS.older e.ff h)
  | er c =>
    intro H1 e
    have h' : ∀ σ' H' F', Same F F' → SR K mg B H' F' σ' τ → W (cv mg c) none σ' H' := h
    exact h' σ H1 F (Same.refl _) (s.ext ⟨e, Same.refl _, s.fh.trans e, fun a h => .inl h⟩)
  | bad => exact h
/-- one slot more -/
theorem SR.push (r : SR K mg B H F σ τ) (e : Ext H F H' F') {v : V} {s : Sl} (b : Br K mg H H' F' v s) (nb : ∀ d, s ≠ .bw d) : SR K mg B H' F' (σ ++ [some v]) (τ ++ [s]) := by
  have r0 : SR K mg B H F (σ ++ [none]) (τ ++ [.un]) := by
    obtain ⟨fp, h1, h2, h3⟩ := r.slots
    refine ⟨r.keep, r.live, r.ff0, r.fh, r.new, by rw [List.length_append, List.length_append, r.len]; rfl, fp, fun j s q => ?_, fun j q => ?_, h3⟩
    · by_cases hj : j < τ.length
      · rw [List.getElem?_append_left hj] at q
        rw [List.getElem?_append_left (by rw [r.len]; exact hj)]
        exact h1 j s q
      · rw [List.getElem?_append_right (by omega)] at q
        have : j - τ.length = 0 := by
          cases z : j - τ.length with
          | zero => rfl
          | succ n => rw [z] at q; simp at q
        rw [this] at q
        cases q
        show fp j = []
        exact h2 j (List.getElem?_eq_none_iff.mpr (by omega))
    · have : (τ ++ [Sl.un]).length ≤ j := List.getElem?_eq_none_iff.mp q
      rw [List.length_append] at this
      exact h2 j (List.getElem?_eq_none_iff.mpr (by omega))
  have hl : τ.length < (τ ++ [Sl.un]).length := by rw [List.length_append]; simp
  have r1 := r0.put (i := τ.length) hl (fun d => by rw [List.getElem?_append_right (Nat.le_refl _)]; simp) e b nb
  have e1 : (σ ++ [none]).set τ.length (some v) = σ ++ [some v] := by
    rw [← r.len, List.set_append_right _ _ (Nat.le_refl _)]
    simp
  have e2 : (τ ++ [Sl.un]).set τ.length s = τ ++ [s] := by
    rw [List.set_append_right _ _ (Nat.le_refl _)]
    simp
  rw [e1, e2] at r1
  exact r1
/-- what a slot owns is handed out -/
theorem SR.out (r : SR K mg B H F σ τ) {i : Nat} {d : D} {v : V} (hs : τ[i]? = some (.ow d)) (hv : σ[i]? = some (some v)) : SR K mg B H F (σ ++ [some v]) ((τ.set i .un) ++ [.ow d]) := by
  have hi : i < τ.length := (List.getElem?_eq_some_iff.mp hs).1
  obtain ⟨fp, h1, h2, h3⟩ := r.slots
  have oki := h1 i _ hs
  refine ⟨r.keep, r.live, r.ff0, r.fh, r.new, by rw [List.length_append, List.length_append, List.length_set, r.len]; rfl, fun j => if j = i then [] else if j = τ.length then fp i else fp j, fun j s q => ?_, fun j q => ?_, fun j k a ha hb => ?_⟩
  · by_cases hj : j < τ.length
    · rw [List.getElem?_append_left (by rw [List.length_set]; exact hj)] at q
      rw [List.getElem?_append_left (by rw [r.len]; exact hj)]
      by_cases e : j = i
      · subst e
        rw [List.getElem?_set_self hi] at q
        cases q
        dsimp only
        rw [if_pos rfl]
        exact rfl
      · rw [List.getElem?_set_ne (Ne.symm e)] at q
        dsimp only
        rw [if_neg e, if_neg (by omega)]
        exact h1 j s q
    · rw [List.getElem?_append_right (by rw [List.length_set]; omega), List.length_set] at q
      have z : j - τ.length = 0 := by
        cases z : j - τ.length with
        | zero => rfl
        | succ n => rw [z] at q; simp at q
      rw [z] at q
      cases q
      have ej : j = τ.length := by omega
      dsimp only
      rw [if_neg (by omega), if_pos ej, List.getElem?_append_right (by rw [r.len]; omega), r.len, z]
      obtain ⟨a, e1, o⟩ := oki
      rw [hv] at e1
      exact ⟨a, e1, o⟩
  · have : ((τ.set i .un) ++ [Sl.ow d]).length ≤ j := List.getElem?_eq_none_iff.mp q
    rw [List.length_append, List.length_set] at this
    have h5 : ([Sl.ow d]).length = 1 := rfl
    dsimp only
    rw [if_neg (by omega), if_neg (by omega)]
    exact h2 j (List.getElem?_eq_none_iff.mpr (by omega))
  · dsimp only at ha hb
    have out : ∀ j, τ.length ≤ j → fp j = [] := fun j h => h2 j (List.getElem?_eq_none_iff.mpr h)
    by_cases hj : j = i
    · rw [if_pos hj] at ha; cases ha
    · rw [if_neg hj] at ha
      by_cases hk : k = i
      · rw [if_pos hk] at hb; cases hb
      · rw [if_neg hk] at hb
        by_cases jl : j = τ.length
        · rw [if_pos jl] at ha
          by_cases kl : k = τ.length
          · rw [jl, kl]
          · rw [if_neg kl] at hb
            exact absurd (h3 k i a hb ha) hk
        · rw [if_neg jl] at ha
          by_cases kl : k = τ.length
          · rw [if_pos kl] at hb
            exact absurd (h3 j i a ha hb) hj
          · rw [if_neg kl] at hb
            exact h3 j k a ha hb
end
section
variable {X : Cx} {W : WX} {st : Stmt} {rest ss ss2 : List Stmt} {f g : FS} {e : Expr} {pos p : Pos} {h : Tau → R Sl} {c : Tau → R Bool}
theorem dss_nil : DSs X W [] sNx := ⟨_, pss_nil, fun B τ σ H F D s h => h σ H F (Same.refl _) s⟩
theorem dss_one (h1 : DS X W st f) : DSs X W [st] f := by
  obtain ⟨t, pt, q⟩ := h1
  exact ⟨_, pss_one pt, q⟩
theorem dss_cons (h1 : DS X W st f) (h2 : DSs X W rest g) : DSs X W (st :: rest) (sSeq f g) := by
  obtain ⟨t, pt, q⟩ := h1
  obtain ⟨u, pu, qu⟩ := h2
  refine ⟨_, pss_cons pt pu, fun B τ σ H F D s h => ?_⟩
  refine q B τ σ H F _ s ?_
  have h' : FinS X.K X.mg W B F ((f τ).seq g) D := h
  cases z : f τ with
  | nx τ' => rw [z] at h'; exact fun σ' H' F' e r => qu B τ' σ' H' F' D r (FinS.older e h')
  | rt s τ' => rw [z] at h'; exact h'
  | er c τ' => rw [z] at h'; exact h'
  | bad => rw [z] at h'; exact h'
theorem ds_pass : DS X W (.Pass pos) sNx := ⟨_, ps_pass, fun B τ σ H F D s h => h σ H F (Same.refl _) s⟩
theorem ds_drop (he : DP X W e h) (hs : swapsWith e none pos.line X.env = pure false := by rfl) : DS X W (.Expr e pos) (sDrop h) := by
  obtain ⟨t, pt, q⟩ := he
  exact ⟨_, ps_expr pt hs, fun B τ σ H F D s h => q B τ σ H F _ s (FinS.expr s h fun a v H1 F1 e p h1 => h1 σ H1 F1 (Same.refl _) (s.ext e))⟩
theorem ds_if {ce : Expr} (hc : DT X W ce c) (ha : DSs X W ss f) (hb : DSs X W ss2 g) : DS X W (.If ce ss ss2 pos) (sIf c f g) := by
  obtain ⟨t, pt, q⟩ := hc
  obtain ⟨u, pu, qu⟩ := ha
  obtain ⟨w, pw, qw⟩ := hb
  refine ⟨_, ps_if pt pu pw, fun B τ σ H F D s h => q B τ σ H F _ s (FinS.expr s h fun b v H1 F1 e p h1 => ?_)⟩
  subst p
  cases v with
  | true =>
    rw [if_pos rfl] at h1 ⊢
    exact qu B τ σ H1 F1 D (s.ext e) h1
  | false =>
    rw [if_neg Bool.false_ne_true] at h1 ⊢
    exact qw B τ σ H1 F1 D (s.ext e) h1
theorem FinS.put {K : PySem.W.Frag} {mg : Str → Option Value} {B : Base} {H F H1 F1 : Hp} {σ : St} {τ : List Sl} {i : Nat} {s : Sl} {v : V} {D : Ends} (r : SR K mg B H F σ τ) (e : Ext H F H1 F1) (b : Br K mg H H1 F1 v s) (h : FinS K mg W B F1 (Fl.put τ i s) D) : D.nx (σ.set i (some v)) H1 := by
  unfold Fl.put at h
  cases z : τ[i]? with
  | none => rw [z] at h; exact h.elim
  | some x =>
    rw [z] at h
    have hi : i < τ.length := (List.getElem?_eq_some_iff.mp z).1
    dsimp only at h
    split at h
    · exact h.elim
    · rename_i hn
      rw [Bool.or_eq_true, not_or] at hn
      exact h _ _ F1 (Same.refl _) (r.put hi (fun d q => by rw [z] at q; cases q; exact hn.1 rfl) e b (fun d q => by subst q; exact hn.2 rfl))
theorem ds_set {i : Nat} {x : Str} {pos' : Pos} (hN : X.N.Nodup) (hi : X.N[i]? = some x) (hx : Loc X.env.scope x) (he : DP X W e h) (hs : swapsWith e (some (.Name x pos')) pos.line X.env = pure false := by rfl) (hf : X.fn x = true ∨ X.env.scope.names.lookup x = some .local := by first | exact .inl rfl | exact .inr rfl | assumption) :
    DS X W (.Assign [.Name x pos'] e pos) (sSet i h) := by
  obtain ⟨t, pt, q⟩ := he
  exact ⟨_, ps_set hN hi hx pt hs hf, fun B τ σ H F D s h => q B τ σ H F _ s (FinS.expr s h fun a v H1 F1 e p h1 => FinS.put s e p h1)⟩
theorem ds_ret (he : DP X W e h) : DS X W (.Return (some e) pos) (sRet h) := by
  obtain ⟨t, pt, q⟩ := he
  refine ⟨_, ps_ret pt, fun B τ σ H F D s h => q B τ σ H F _ s (FinS.expr s h fun a v H1 F1 e p h1 => ?_)⟩
  cases a with
  | bw d => exact h1.elim
  | un => exact p.elim
  | io d => exact p.elim
  | sh d => exact h1 v σ H1 F1 (Same.refl _) (s.push e p (fun d q => by cases q))
  | ow d => exact h1 v σ H1 F1 (Same.refl _) (s.push e p (fun d q => by cases q))
theorem ds_retN : DS X W (.Return none pos) (fun τ => .rt (.sh .non) τ) := ⟨_, ps_retN, fun B τ σ H F D s h => h .non σ H F (Same.refl _) (s.push s.refl (s := .sh .non) (show Rep _ _ _ _ from .non) (fun d q => by cases q))⟩
theorem ds_retV {i : Nat} {x : Str} (hN : X.N[i]? = some x) (hv : Vis X.env.scope x) (hd : (x == ("__debug__" : Str)) = false) (hcd : (x == ("__classdict__" : Str)) = false) : DS X W (.Return (some (.Name x p)) pos) (sRetV i) := by
  refine ⟨_, ps_ret (pe_var hN hv hd hcd), fun B τ σ H F D s h => ?_⟩
  unfold sRetV at h
  cases z : τ[i]? with
  | none => rw [z] at h; exact h.elim
  | some y =>
    rw [z] at h
    obtain ⟨fp, ok⟩ := s.get z
    cases y with
    | un => exact h.elim
    | io d => exact h.elim
    | bw d => exact h.elim
    | ow d =>
      obtain ⟨a, e, o, _, n⟩ := ok
      exact ⟨_, join_some e, h _ σ H F (Same.refl _) (s.out z (join_some e))⟩
    | sh d =>
      obtain ⟨_, v, e, rp⟩ := ok
      exact ⟨v, join_some e, h _ σ H F (Same.refl _) (s.push s.refl (s := .sh d) rp (fun d q => by cases q))⟩
/-- a, b, .. = e -/
def Fl.puts (τ : Tau) : List Nat → List D → Fl
  | [], [] => .nx τ
  | i :: is, d :: ds => (Fl.put τ i (.sh d)).seq fun τ' => Fl.puts τ' is ds
  | _, _ => .bad
def sUnp (is : List Nat) (f : Tau → R D) : FS := fun τ => Fl.of (f τ) τ fun d => match d with
  | .tup ds => Fl.puts τ is ds
  | _ => .bad
/-- the names of a target -/
structure PGi (X : Cx) (es : List Expr) (is : List Nat) : Prop where
  ex : ∃ t : TGs, PGs X es t ∧ ∀ vs σ H Q, vs.length = is.length → Q ((is.zip vs).foldl (fun σ p => σ.set p.1 (some p.2)) σ) H → t vs σ H Q
theorem pgi_nil : PGi X [] [] := ⟨_, pgs_nil, fun vs σ H Q hl h => by
  cases vs with
  | nil => exact ⟨rfl, h⟩
  | cons _ _ => cases hl⟩
theorem pgi_cons {x : Str} {i : Nat} {es : List Expr} {is : List Nat} (hN : X.N.Nodup) (hi : X.N[i]? = some x) (hx : Loc X.env.scope x) (hr : PGi X es is) (hs : (assignEach (.Name x p :: es) X.env).map (·.2) = assign (.Name x p) X.env :: (assignEach es X.env).map (·.2) := by rfl) (hf : X.fn x = true ∨ X.env.scope.names.lookup x = some .local := by first | exact .inl rfl | exact .inr rfl | assumption) :
    PGi X (.Name x p :: es) (i :: is) := by
  obtain ⟨t, pt, q⟩ := hr.ex
  refine ⟨_, pgs_cons (pg_name hN hi hx hf) pt hs, fun vs σ H Q hl h => ?_⟩
  cases vs with
  | nil => cases hl
  | cons v vs => exact ⟨v, vs, rfl, q vs _ H Q (Nat.succ.inj hl) h⟩
theorem FinS.puts {K : PySem.W.Frag} {mg : Str → Option Value} {B : Base} {H F : Hp} {E' : Ends} : ∀ {is : List Nat} {ds : List D} {vs : List V} {σ : St} {τ : List Sl}, SR K mg B H F σ τ → RepL K F vs ds → FinS K mg W B F (Fl.puts τ is ds) E' → vs.length = is.length ∧ E'.nx ((is.zip vs).foldl (fun σ p => σ.set p.1 (some p.2)) σ) H
  | [], [], _, σ, τ, r, .nil, h => ⟨rfl, h σ H F (Same.refl _) r⟩
  | [], _ :: _, _, σ, τ, r, _, h => h.elim
  | _ :: _, [], _, σ, τ, r, _, h => h.elim
  | i :: is, d :: ds, _, σ, τ, r, .cons (v := v) hd hr, h => by
    have h' : FinS K mg W B F ((Fl.put τ i (.sh d)).seq fun τ' => Fl.puts τ' is ds) E' := h
    unfold Fl.put at h'
    cases z : τ[i]? with
    | none => rw [z] at h'; exact h'.elim
    | some x =>
      rw [z] at h'
      have hi : i < τ.length := (List.getElem?_eq_some_iff.mp z).1
      dsimp only at h'
      split at h'
      · exact h'.elim
      · rename_i hn
        rw [Bool.or_eq_true, not_or] at hn
        obtain ⟨h1, h2⟩ := FinS.puts (r.put hi (fun d q => by rw [z] at q; cases q; exact hn.1 rfl) r.refl (s := .sh d) hd (fun d q => by cases q)) hr h'
        exact ⟨congrArg (· + 1) h1, h2⟩
theorem ds_unp {es : List Expr} {is : List Nat} {k : Nat} {pt : Pos} {h : Tau → R D} (hc : X.calm = true) (hg : PGi X es is) (he : DV X W e h) (hn : (assignEach es X.env).length = is.length := by rfl) (hst : (assignEach es X.env).findIdx? (·.1) = none := by rfl)
    (hs : swapsWithSole [.Tuple es k pt] e pos.line X.env = pure false := by rfl) (hw : swappedStores [.Tuple es k pt] e X.env = pure none := by rfl) (h1 : (assignEach [.Tuple es k pt] X.env).map (·.2) = [assign (.Tuple es k pt) X.env] := by rfl) :
    DS X W (.Assign [.Tuple es k pt] e pos) (sUnp is h) := by
  obtain ⟨tg, pg, qg⟩ := hg.ex
  obtain ⟨t, pt', q⟩ := he
  refine ⟨_, ps_asg pt' (pg_tup hc pg hn hst) hs hw h1, fun B τ σ H F D s h => q B τ σ H F _ s (FinS.expr s h fun d v H1 F1 e p h2 => ?_)⟩
  cases d <;> try exact h2.elim
  rename_i ds
  cases p with
  | tup hv hr =>
    obtain ⟨l, z⟩ := FinS.puts (s.ext e) hr h2
    exact ⟨_, _, rfl, SqT.of (e.fh _ _ hv), l, qg _ σ H1 _ l z⟩
end
end DL
end

section
set_option Elab.async false
set_option linter.all false
set_option maxRecDepth 100000
namespace DL
open PySem PySem.Spec PyProof.Rows L2

/-! ### fields -/
def flook : List (Str × Bool × D) → Str → Option (Bool × D)
  | [], _ => none
  | p :: r, f => if p.1 = f then some p.2 else flook r f
def fput (f : Str) (b : Bool) (d : D) : List (Str × Bool × D) → List (Str × Bool × D)
  | [] => [(f, b, d)]
  | p :: r => if p.1 = f then (p.1, b, d) :: r else p :: fput f b d r
section
variable {K : PySem.W.Frag} {mg : Str → Option Value} {H F : Hp}
theorem lookup_pos {x f : Str} {v : V} {r : List (Str × V)} (e : x = f) : List.lookup f ((x, v) :: r) = some v := by
  have hb : (f == x) = true := beq_iff_eq.mpr e.symm
  simp only [List.lookup, hb]
theorem lookup_neg {x f : Str} {v : V} {r : List (Str × V)} (e : ¬ x = f) : List.lookup f ((x, v) :: r) = List.lookup f r := by
  have hb : (f == x) = false := beq_eq_false_iff_ne.mpr fun q => e q.symm
  simp only [List.lookup, hb]
theorem OwnF.len : ∀ {vs : List (Str × V)} {fs : List (Str × Bool × D)} {fp : List Addr}, OwnF K mg H F vs fs fp → vs.length = fs.length
  | _, _, _, .nil => rfl
  | _, _, _, .sh _ r => congrArg (· + 1) r.len
  | _, _, _, .ow _ r => congrArg (· + 1) r.len
/-- a field that holds shared data -/
theorem OwnF.getSh {f : Str} {d : D} : ∀ {vs : List (Str × V)} {fs : List (Str × Bool × D)} {fp : List Addr}, OwnF K mg H F vs fs fp → flook fs f = some (false, d) → ∃ v, vs.lookup f = some v ∧ Rep K F v d
  | _, _, _, .nil, e => by cases e
  | _, _, _, .sh (x := x) h r, e => by
    by_cases hx : x = f
    · rw [flook, if_pos hx] at e
      cases e
      exact ⟨_, lookup_pos hx, h⟩
    · rw [flook, if_neg hx] at e
      rw [lookup_neg hx]
      exact r.getSh e
  | _, _, _, .ow (x := x) h r, e => by
    by_cases hx : x = f
    · rw [flook, if_pos hx] at e
      cases e
    · rw [flook, if_neg hx] at e
      rw [lookup_neg hx]
      exact r.getSh e
/-- a field that owns -/
theorem OwnF.getOw {f : Str} {d : D} : ∀ {vs : List (Str × V)} {fs : List (Str × Bool × D)} {fp : List Addr}, OwnF K mg H F vs fs fp → flook fs f = some (true, d) →
    ∃ a fq, vs.lookup f = some (.ref a) ∧ Own K mg H F d a fq ∧ (∀ b ∈ fq, b ∈ fp) ∧ (fp.Nodup → fq.Nodup) ∧
      (fp.Nodup → ∀ (H' F' : Hp) (d2 : D) (fq2 : List Addr), Same F F' → (∀ b ∈ fp, b ∉ fq → ∀ o, H b = some o → H' b = some o) → Own K mg H' F' d2 a fq2 → fq2.Nodup → (∀ b ∈ fq2, b ∈ fq ∨ b ∉ fp) →
        ∃ fp', OwnF K mg H' F' vs (fput f true d2 fs) fp' ∧ fp'.Nodup ∧ ∀ b ∈ fp', b ∈ fq2 ∨ (b ∈ fp ∧ b ∉ fq))
  | _, _, _, .nil, e => by cases e
  | _, _, _, .sh (x := x) (fp := fp) h r, e => by
    by_cases hx : x = f
    · rw [flook, if_pos hx] at e
      cases e
    · rw [flook, if_neg hx] at e
      rw [lookup_neg hx]
      obtain ⟨a, fq, h1, h2, h3, h4, h5⟩ := r.getOw e
      refine ⟨a, fq, h1, h2, h3, h4, fun nd H' F' d2 fq2 sm k o n2 ap => ?_⟩
      obtain ⟨fp', g1, g2, g3⟩ := h5 nd H' F' d2 fq2 sm k o n2 ap
      refine ⟨fp', ?_, g2, g3⟩
      rw [fput, if_neg hx]
      exact .sh (h.mono sm) g1
  | _, _, _, .ow (x := x) (fq := fo) (fp := fp) h r, e => by
    by_cases hx : x = f
    · rw [flook, if_pos hx] at e
      cases e
      refine ⟨_, fo, lookup_pos hx, h, fun b hb => List.mem_append_left _ hb, fun nd => (List.nodup_append.mp nd).1, fun nd H' F' d2 fq2 sm k o n2 ap => ?_⟩
      obtain ⟨n1, n3, n4⟩ := List.nodup_append.mp nd
      refine ⟨fq2 ++ fp, ?_, ?_, fun b hb => ?_⟩
      · rw [fput, if_pos hx]
        exact .ow o (OwnF.keep sm r fun b hb u hu => k b (List.mem_append_right _ hb) (fun z => n4 b z b hb rfl) u hu)
      · refine List.nodup_append.mpr ⟨n2, n3, fun b hb c hc z => ?_⟩
        subst z
        rcases ap b hb with z | z
        · exact n4 b z b hc rfl
        · exact z (List.mem_append_right _ hc)
      · rcases List.mem_append.mp hb with z | z
        · exact .inl z
        · exact .inr ⟨List.mem_append_right _ z, fun y => n4 b y b z rfl⟩
    · rw [flook, if_neg hx] at e
      rw [lookup_neg hx]
      obtain ⟨a, fq, h1, h2, h3, h4, h5⟩ := r.getOw e
      refine ⟨a, fq, h1, h2, fun b hb => List.mem_append_right _ (h3 b hb), fun nd => h4 (List.nodup_append.mp nd).2.1, fun nd H' F' d2 fq2 sm k o n2 ap => ?_⟩
      obtain ⟨n1, n3, n4⟩ := List.nodup_append.mp nd
      obtain ⟨fp', g1, g2, g3⟩ := h5 n3 H' F' d2 fq2 sm (fun b hb => k b (List.mem_append_right _ hb)) o n2 (fun b hb => (ap b hb).imp id fun z y => z (List.mem_append_right _ y))
      refine ⟨fo ++ fp', ?_, ?_, fun b hb => ?_⟩
      · rw [fput, if_neg hx]
        exact .ow (h.keep sm fun b hb u hu => k b (List.mem_append_left _ hb) (fun z => n4 b hb b (h3 b z) rfl) u hu) g1
      · refine List.nodup_append.mpr ⟨n1, g2, fun b hb c hc z => ?_⟩
        subst z
        rcases g3 b hc with z | z
        · rcases ap b z with y | y
          · exact n4 b hb b (h3 b y) rfl
          · exact y (List.mem_append_left _ hb)
        · exact n4 b hb b z.1 rfl
      · rcases List.mem_append.mp hb with z | z
        · exact .inr ⟨List.mem_append_left _ z, fun y => n4 b z b (h3 b y) rfl⟩
        · rcases g3 b z with y | y
          · exact .inl y
          · exact .inr ⟨List.mem_append_right _ y.1, y.2⟩
/-- a field is stored, shared data -/
theorem OwnF.putSh {f : Str} {d : D} {v : V} (hv : Rep K F v d) : ∀ {vs : List (Str × V)} {fs : List (Str × Bool × D)} {fp : List Addr}, OwnF K mg H F vs fs fp → fp.Nodup →
    ∃ fp', OwnF K mg H F (putF f v vs) (fput f false d fs) fp' ∧ fp'.Nodup ∧ ∀ b ∈ fp', b ∈ fp
  | _, _, _, .nil, _ => ⟨[], .sh hv .nil, List.nodup_nil, fun b hb => hb⟩
  | _, _, _, .sh (x := x) h r, nd => by
    by_cases hx : x = f
    · refine ⟨_, ?_, nd, fun b hb => hb⟩
      rw [show putF f v ((x, _) :: _) = _ from rfl, fput]
      unfold putF
      rw [if_pos hx, if_pos hx]
      exact .sh hv r
    · obtain ⟨fp', g1, g2, g3⟩ := r.putSh hv nd
      refine ⟨fp', ?_, g2, g3⟩
      unfold putF
      rw [fput, if_neg hx, if_neg hx]
      exact .sh h g1
  | _, _, _, .ow (x := x) h r, nd => by
    obtain ⟨n1, n3, n4⟩ := List.nodup_append.mp nd
    by_cases hx : x = f
    · refine ⟨_, ?_, n3, fun b hb => List.mem_append_right _ hb⟩
      unfold putF
      rw [fput, if_pos hx, if_pos hx]
      exact .sh hv r
    · obtain ⟨fp', g1, g2, g3⟩ := r.putSh hv n3
      refine ⟨_, ?_, List.nodup_append.mpr ⟨n1, g2, fun b hb c hc z => n4 b hb c (g3 c hc) z⟩, fun b hb => ?_⟩
      · unfold putF
        rw [fput, if_neg hx, if_neg hx]
        exact .ow h g1
      · rcases List.mem_append.mp hb with z | z
        · exact List.mem_append_left _ z
        · exact List.mem_append_right _ (g3 b z)
/-- .. an owned thing -/
theorem OwnF.putOw {f : Str} {d : D} {a : Addr} {fq : List Addr} (hv : Own K mg H F d a fq) (nq : fq.Nodup) : ∀ {vs : List (Str × V)} {fs : List (Str × Bool × D)} {fp : List Addr}, OwnF K mg H F vs fs fp → fp.Nodup → (∀ b ∈ fq, b ∉ fp) →
    ∃ fp', OwnF K mg H F (putF f (.ref a) vs) (fput f true d fs) fp' ∧ fp'.Nodup ∧ ∀ b ∈ fp', b ∈ fp ∨ b ∈ fq
  | _, _, _, .nil, _, _ => ⟨fq ++ [], .ow hv .nil, by rw [List.append_nil]; exact nq, fun b hb => .inr (by rw [List.append_nil] at hb; exact hb)⟩
  | _, _, _, .sh (x := x) (fp := fp) h r, nd, ap => by
    by_cases hx : x = f
    · refine ⟨fq ++ fp, ?_, List.nodup_append.mpr ⟨nq, nd, fun b hb c hc z => ap b hb (z ▸ hc)⟩, fun b hb => (List.mem_append.mp hb).symm⟩
      unfold putF
      rw [fput, if_pos hx, if_pos hx]
      exact .ow hv r
    · obtain ⟨fp', g1, g2, g3⟩ := r.putOw hv nq nd ap
      refine ⟨fp', ?_, g2, g3⟩
      unfold putF
      rw [fput, if_neg hx, if_neg hx]
      exact .sh h g1
  | _, _, _, .ow (x := x) (fq := fo) (fp := fp) h r, nd, ap => by
    obtain ⟨n1, n3, n4⟩ := List.nodup_append.mp nd
    by_cases hx : x = f
    · refine ⟨fq ++ fp, ?_, List.nodup_append.mpr ⟨nq, n3, fun b hb c hc z => ap b hb (List.mem_append_right _ (z ▸ hc))⟩, fun b hb => (List.mem_append.mp hb).elim .inr fun z => .inl (List.mem_append_right _ z)⟩
      unfold putF
      rw [fput, if_pos hx, if_pos hx]
      exact .ow hv r
    · obtain ⟨fp', g1, g2, g3⟩ := r.putOw hv nq n3 (fun b hb z => ap b hb (List.mem_append_right _ z))
      refine ⟨fo ++ fp', ?_, List.nodup_append.mpr ⟨n1, g2, fun b hb c hc z => ?_⟩, fun b hb => ?_⟩
      · unfold putF
        rw [fput, if_neg hx, if_neg hx]
        exact .ow h g1
      · subst z
        rcases g3 b hc with z | z
        · exact n4 b hb b z rfl
        · exact ap b z (List.mem_append_left _ hb)
      · rcases List.mem_append.mp hb with z | z
        · exact .inl (List.mem_append_left _ z)
        · exact (g3 b z).imp (fun y => List.mem_append_right _ y) id
end

/-! ### places: a slot, a field of the object in a slot -/
inductive Plc where
  | sl (i : Nat) | fd (i : Nat) (c f : Str)
/-- what is owned at a place -/
def Plc.get (p : Plc) (τ : Tau) : Option D := match p with
  | .sl i => (τ[i]?).bind Sl.owned
  | .fd i c f => (match (τ[i]?).bind Sl.owned with
    | some (.obj c' fs) => if c' = c then (match flook fs f with
      | some (true, d) => some d
      | _ => none) else none
    | _ => none)
/-- another thing at the place -/
def Plc.put (p : Plc) (τ : Tau) (d : D) : Tau := match p with
  | .sl i => (match τ[i]? with
    | some s => τ.set i (s.with d)
    | none => τ)
  | .fd i _ f => (match τ[i]? with
    | some s => (match s.owned with
      | some (.obj c fs) => τ.set i (s.with (.obj c (fput f true d fs)))
      | _ => τ)
    | none => τ)
/-- where the place's thing stands -/
def Plc.At (p : Plc) (mg : Str → Option Value) (σ : St) (H : Hp) (a : Addr) : Prop := match p with
  | .sl i => σ[i]? = some (some (.ref a))
  | .fd i c f => ∃ a0 C dx vs, σ[i]? = some (some (.ref a0)) ∧ mg c = some (.ref C) ∧ H a0 = some (.ins C dx vs) ∧ vs.lookup f = some (.ref a)
theorem Plc.At.same {p : Plc} {mg : Str → Option Value} {σ : St} {H H' : Hp} {a : Addr} (s : Same H H') (h : p.At mg σ H a) : p.At mg σ H' a := by
  cases p with
  | sl i => exact h
  | fd i c f => obtain ⟨a0, C, dx, vs, h1, h2, h3, h4⟩ := h; exact ⟨a0, C, dx, vs, h1, h2, s _ _ h3, h4⟩
theorem Plc.At.inj {p : Plc} {mg : Str → Option Value} {σ : St} {H : Hp} {a b : Addr} (h : p.At mg σ H a) (h' : p.At mg σ H b) : a = b := by
  cases p with
  | sl i =>
    have h1 : σ[i]? = some (some (.ref a)) := h
    have h2 : σ[i]? = some (some (.ref b)) := h'
    rw [h1] at h2
    cases h2
    rfl
  | fd i c f =>
    obtain ⟨a0, C, dx, vs, h1, h2, h3, h4⟩ := h
    obtain ⟨a0', C', dx', vs', g1, g2, g3, g4⟩ := h'
    rw [h1] at g1
    cases g1
    rw [h3] at g3
    cases g3
    rw [h4] at g4
    cases g4
    rfl
/-- the facts of a class's field -/
def FldOk (X : Cx) (c f : Str) : Prop := ∀ C, X.mg c = some (.ref C) → Cls X.K C ∧ NoAttr X.K C f
section
variable {K : PySem.W.Frag} {mg : Str → Option Value} {B : Base} {H F : Hp} {σ : St} {τ : List Sl}
theorem SR.focus {p : Plc} {d : D} (s : SR K mg B H F σ τ) (hg : p.get τ = some d) : ∃ a fp, p.At mg σ H a ∧ Own K mg H F d a fp ∧ fp.Nodup ∧ (∀ b ∈ fp, F b = none) ∧
    ∀ (d' : D) (H' F' : Hp) (fp' : List Addr), (∀ b o, b ∉ fp → H b = some o → H' b = some o) → (∀ b o, b ∈ fp → H b = some o → ∃ o', H' b = some o' ∧ tupB o' = tupB o) → Same F F' → Same F' H' → (∀ b, F' b ≠ none → F b ≠ none ∨ Fr H b) →
      Own K mg H' F' d' a fp' → fp'.Nodup → (∀ b ∈ fp', F' b = none ∧ (b ∈ fp ∨ H b = none)) → SRU K mg B H' F' σ (p.put τ d') (fun b => b ∈ fp' ∨ H b ≠ none) := by
  cases p with
  | sl i =>
    have hg' : (τ[i]?).bind Sl.owned = some d := hg
    cases z : τ[i]? with
    | none => rw [z] at hg'; cases hg'
    | some y =>
      rw [z] at hg'
      obtain ⟨a, fp, e1, o, nd, ap, k⟩ := s.own z hg'
      refine ⟨a, fp, e1, o, nd, ap, fun d' H' F' fp' g1 g2 g3 g4 g5 g6 g7 g8 => ?_⟩
      have := k d' H' F' fp' g1 g2 g3 g4 g5 g6 g7 g8
      rw [show (Plc.sl i).put τ d' = τ.set i (y.with d') by simp only [Plc.put, z]]
      exact this
  | fd i c f =>
    have hg' : (match (τ[i]?).bind Sl.owned with
      | some (.obj c' fs) => if c' = c then (match flook fs f with
        | some (true, d) => some d
        | _ => none) else none
      | _ => none) = some d := hg
    cases z : τ[i]? with
    | none => rw [z] at hg'; cases hg'
    | some y =>
      rw [z] at hg'
      cases z2 : y.owned with
      | none => rw [Option.bind_some, z2] at hg'; cases hg'
      | some dd =>
        rw [Option.bind_some, z2] at hg'
        cases dd <;> try (cases hg'; done)
        rename_i c' fs
        dsimp only at hg'
        split at hg'
        · rename_i ec
          subst ec
          cases z3 : flook fs f with
          | none => rw [z3] at hg'; cases hg'
          | some bd =>
            obtain ⟨bb, d1⟩ := bd
            rw [z3] at hg'
            cases bb
            · cases hg'
            cases hg'
            obtain ⟨a, fp, e1, o, nd, ap, k⟩ := s.own z z2
            cases o with
            | @obj _ dx C _ vs _ fp0 m ha hdx r =>
              have nd0 : fp0.Nodup := (List.nodup_cons.mp (List.nodup_cons.mp nd).2).2
              obtain ⟨a1, fq, l1, o1, sub, nq, re⟩ := r.getOw z3
              refine ⟨a1, fq, ⟨a, C, dx, vs, e1, m, ha, l1⟩, o1, nq nd0, fun b hb => ap b (by simp [sub b hb]), fun d' H' F' fp' g1 g2 g3 g4 g5 g6 g7 g8 => ?_⟩
              have na : a ∉ fq := fun q => (List.nodup_cons.mp nd).1 (by simp [sub a q])
              have ndx : dx ∉ fq := fun q => (List.nodup_cons.mp (List.nodup_cons.mp nd).2).1 (sub dx q)
              obtain ⟨fpn, w1, w2, w3⟩ := re nd0 H' F' d' fp' g3 (fun b hb hn u hu => g1 b u hn hu) g6 g7 (fun b hb => by
                rcases (g8 b hb).2 with y | y
                · exact .inl y
                · refine .inr fun q => ?_
                  obtain ⟨u, hu, _⟩ := r.there b q
                  rw [y] at hu; cases hu)
              have hnew : ∀ b ∈ fpn, b ∈ fp0 ∨ H b = none := fun b hb => by
                rcases w3 b hb with y | y
                · rcases (g8 b y).2 with v | v
                  · exact .inl (sub b v)
                  · exact .inr v
                · exact .inl y.1
              have nold : ∀ b, b ∈ fpn → b = a ∨ b = dx → False := fun b hb q => by
                rcases hnew b hb with y | y
                · rcases q with rfl | rfl
                  · exact (List.nodup_cons.mp nd).1 (by simp [y])
                  · exact (List.nodup_cons.mp (List.nodup_cons.mp nd).2).1 y
                · rcases q with rfl | rfl
                  · rw [ha] at y; cases y
                  · rw [hdx] at y; cases y
              have fin := k (.obj c' (fput f true d' fs)) H' F' (a :: dx :: fpn) (fun b o hb hu => g1 b o (fun q => hb (by simp [sub b q])) hu) (fun b o hb hu => by
                  by_cases q : b ∈ fq
                  · exact g2 b o q hu
                  · exact ⟨o, g1 b o q hu, rfl⟩) g3 g4 g5 (.obj m (g1 a _ na ha) (g1 dx _ ndx hdx) w1)
                (List.nodup_cons.mpr ⟨fun q => by
                  rcases List.mem_cons.mp q with y | y
                  · exact (List.nodup_cons.mp nd).1 (by simp [y])
                  · exact nold a y (.inl rfl), List.nodup_cons.mpr ⟨fun q => nold dx q (.inr rfl), w2⟩⟩)
                (fun b hb => by
                  have apO : ∀ b, b ∈ a :: dx :: fp0 → b ∉ fq → F' b = none := fun b hb hq => by
                    have f0 := ap b hb
                    cases y : F' b with
                    | none => rfl
                    | some u =>
                      rcases g5 b (by rw [y]; simp) with v | v
                      · exact absurd f0 v
                      · obtain ⟨u2, hu2, hn2⟩ := (Own.obj m ha hdx r : Own K mg H F _ a _).there b hb
                        have := v u2 hu2
                        rw [hn2] at this; cases this
                  rcases List.mem_cons.mp hb with rfl | hb
                  · exact ⟨apO _ (by simp) na, .inl (by simp)⟩
                  · rcases List.mem_cons.mp hb with rfl | hb
                    · exact ⟨apO _ (by simp) ndx, .inl (by simp)⟩
                    · rcases w3 b hb with y | y
                      · refine ⟨(g8 b y).1, ?_⟩
                        rcases (g8 b y).2 with v | v
                        · exact .inl (by simp [sub b v])
                        · exact .inr v
                      · exact ⟨apO b (by simp [y.1]) y.2, .inl (by simp [y.1])⟩)
              rw [show (Plc.fd i c' f).put τ d' = τ.set i (y.with (.obj c' (fput f true d' fs))) by simp only [Plc.put, z, z2]]
              refine fin.imp fun b hb => ?_
              rcases hb with hb | hb
              · rcases List.mem_cons.mp hb with rfl | hb
                · exact .inr (by rw [ha]; simp)
                · rcases List.mem_cons.mp hb with rfl | hb
                  · exact .inr (by rw [hdx]; simp)
                  · rcases w3 b hb with y | y
                    · exact .inl y
                    · obtain ⟨u, hu, _⟩ := r.there b y.1
                      exact .inr (by rw [hu]; simp)
              · exact .inr hb
        · cases hg'
/-- .. where the thing has one address alone -/
theorem SR.focus1 {p : Plc} {d : D} (s : SR K mg B H F σ τ) (hg : p.get τ = some d) (hf : d.flat1 = true) : ∃ a, p.At mg σ H a ∧ Own K mg H F d a [a] ∧ F a = none ∧
    ∀ (d' : D) (o' : HO), tupB o' = false → Own K mg (upd H a o') F d' a [a] → SR K mg B (upd H a o') F σ (p.put τ d') := by
  obtain ⟨a, fp, e1, o, n, ap, k⟩ := s.focus hg
  have hfp : fp = [a] := by
    cases o with
    | lst _ _ => rfl
    | dS _ _ => rfl
    | dT _ _ => rfl
    | obj _ _ _ _ => cases hf
  subst hfp
  have fa := ap a (by simp)
  refine ⟨a, e1, o, fa, fun d' o' nt o2 => ?_⟩
  refine SRU.sr (k d' (upd H a o') F [a] (fun b u hb hu => ?_) (fun b u hb hu => ?_) (Same.refl _) (fun b u hu => ?_) (fun b hb => .inl hb) o2 (by simp) (fun b hb => ?_))
  · rw [upd_ne (by simpa using hb)]; exact hu
  · have eb : b = a := by simpa using hb
    subst eb
    refine ⟨o', upd_same, ?_⟩
    obtain ⟨u', hu', hn⟩ := o.there b (by simp)
    rw [hu] at hu'; cases hu'
    rw [nt, hn]
  · rw [upd_ne (ne_of_none hu fa)]; exact s.fh b u hu
  · have eb : b = a := by simpa using hb
    subst eb
    exact ⟨fa, .inl (by simp)⟩
end
/-- the place as an expression, in the def's text -/
def PlcE (X : Cx) (p : Plc) (e : Expr) : Prop := ∃ t, PE X e t ∧ ∀ B τ σ H F d Q, SR X.K X.mg B H F σ τ → p.get τ = some d → (∀ a, p.At X.mg σ H a → Q (.ref a) H) → t σ H Q
section
variable {X : Cx} {W : WX} {x : Str} {pos pos' : Pos}
theorem plc_sl (i : Nat) (hN : X.N[i]? = some x) (hv : Vis X.env.scope x) (hd : (x == ("__debug__" : Str)) = false) (hcd : (x == ("__classdict__" : Str)) = false) : PlcE X (.sl i) (.Name x pos) := by
  refine ⟨_, pe_var hN hv hd hcd, fun B τ σ H F d Q s hg h => ?_⟩
  obtain ⟨a, fp, e1, _⟩ := s.focus hg
  exact ⟨_, e1, h a e1⟩
theorem plc_fd (i : Nat) {c f : Str} (hf : FldOk X c f) (hN : X.N[i]? = some x) (hv : Vis X.env.scope x) (hd : (x == ("__debug__" : Str)) = false) (hcd : (x == ("__classdict__" : Str)) = false)
    (hb : attributeBase (.Name x pos') f X.env (eval (.Name x pos') X.env) = eval (.Name x pos') X.env) : PlcE X (.fd i c f) (.Attribute (.Name x pos') f pos) := by
  refine ⟨_, pe_fld (pe_var hN hv hd hcd) hb, fun B τ σ H F d Q s hg h => ?_⟩
  obtain ⟨a, fp, at', _⟩ := s.focus hg
  obtain ⟨a0, C, dx, vs, e1, e2, e3, e4⟩ := id at'
  obtain ⟨c1, c2⟩ := hf C e2
  exact ⟨_, e1, a0, C, dx, vs, .ref a, rfl, e3, c1, c2, e4, h a at'⟩
end
end DL
end

section
set_option Elab.async false
set_option linter.all false
set_option maxRecDepth 100000
namespace DL
open PySem PySem.Spec PyProof.Rows L2

/-! ### o.f -/
def fldD (c f : Str) (d : D) : R Sl := match d with
  | .obj c' fs => if c' = c then (match flook fs f with
    | some (false, d) => .ok (.sh d)
    | some (true, d) => .ok (.bw d)
    | none => .bad) else .bad
  | _ => .bad
def fldE (c f : Str) (g : Tau → R D) : Tau → R Sl := fun τ => (g τ).bind (fldD c f)
section
variable {X : Cx} {W : WX} {e o : Expr} {x : Str} {pos pos' apos : Pos} {g : Tau → R D} {es : List Expr}
theorem dp_fld {c f : Str} (hf : FldOk X c f) (h : DW X W e g) (hb : attributeBase e f X.env (eval e X.env) = eval e X.env) : DP X W (.Attribute e f pos) (fldE c f g) := by
  obtain ⟨t, p, q⟩ := h
  refine ⟨_, pe_fld p hb, fun B τ σ H F Q s h => q B τ σ H F _ s (h.seq fun d v H1 F1 e1 p1 h1 => ?_)⟩
  cases d with
  | obj c' fs =>
    have h2 : Fin X.mg W σ H1 F1 (if c' = c then (match flook fs f with
      | some (false, d) => R.ok (Sl.sh d)
      | some (true, d) => .ok (.bw d)
      | none => .bad) else .bad) (BrX X H) Q := h1
    obtain ⟨ec, h3⟩ := h2.ite
    subst ec
    rcases p1 with p1 | ⟨a, fp, rfl, ow, ap⟩
    · cases p1
    · cases ow with
      | @obj _ dx C _ vs _ fp0 m ha hdx r =>
        obtain ⟨c1, c2⟩ := hf C m
        cases z : flook fs f with
        | none => rw [z] at h3; exact h3.elim
        | some bd =>
          obtain ⟨bb, d⟩ := bd
          rw [z] at h3
          cases bb with
          | false =>
            obtain ⟨v, l, rp⟩ := r.getSh z
            exact ⟨a, C, dx, vs, v, rfl, ha, c1, c2, l, h3 v H1 F1 (Ext.refl e1.fh) rp⟩
          | true =>
            obtain ⟨a1, fq, l, ow1, sub, _⟩ := r.getOw z
            exact ⟨a, C, dx, vs, .ref a1, rfl, ha, c1, c2, l, h3 _ H1 F1 (Ext.refl e1.fh) ⟨a1, fq, rfl, ow1, fun b hb => ap b (by simp [sub b hb])⟩⟩
  | _ => exact h1.elim

/-! ### expressions that change what is owned -/
inductive RG where
  | ok (s : Sl) (τ : Tau) | er (c : Str) (τ : Tau) | bad
def FinG (K : PySem.W.Frag) (mg : Str → Option Value) (W : WX) (B : Base) (F : Hp) (σ : St) (r : RG) (Q : VK) : Prop := match r with
  | .ok s τ => ∀ v H' F', Same F F' → SR K mg B H' F' (σ ++ [some v]) (τ ++ [s]) → Q v H'
  | .er c τ => ∀ H' F', Same F F' → SR K mg B H' F' σ τ → W (cv mg c) none σ H'
  | .bad => False
def DG (X : Cx) (W : WX) (e : Expr) (g : Tau → RG) : Prop := ∃ t, PE X e t ∧ ∀ B τ σ H F Q, SR X.K X.mg B H F σ τ → FinG X.K X.mg W B F σ (g τ) Q → t σ H Q
/-- a pure outcome, then one that changes -/
def RG.of {α : Type} (r : R α) (τ : Tau) (k : α → RG) : RG := match r with
  | .ok a => k a
  | .er c => .er c τ
  | .bad => .bad
@[simp] theorem RG.of_ok {α : Type} (a : α) (τ : Tau) (k : α → RG) : RG.of (.ok a) τ k = k a := rfl
@[simp] theorem RG.of_er {α : Type} (c : Str) (τ : Tau) (k : α → RG) : RG.of (.er c) τ k = .er c τ := rfl
@[simp] theorem RG.of_bad {α : Type} (τ : Tau) (k : α → RG) : RG.of .bad τ k = .bad := rfl
theorem FinG.older {K : PySem.W.Frag} {mg : Str → Option Value} {W : WX} {B : Base} {F F1 : Hp} {σ : St} {r : RG} {Q : VK} (s : Same F F1) (h : FinG K mg W B F σ r Q) : FinG K mg W B F1 σ r Q := by
  cases r with
  | ok x τ => exact fun v H' F' e r => h v H' F' (s.trans e) r
  | er c τ => exact fun H' F' e r => h H' F' (s.trans e) r
  | bad => exact h
theorem FinG.expr {α β : Type} {K : PySem.W.Frag} {mg : Str → Option Value} {B : Base} {H F : Hp} {σ : St} {τ : List Sl} {W : WX} {r : R α} {k : α → RG} {P : α → β → Hp → Hp → Prop} {Q : VK} {Q' : β → Hp → Prop} (s : SR K mg B H F σ τ) (h : FinG K mg W B F σ (RG.of r τ k) Q)
    (q : ∀ a v H1 F1, Ext H F H1 F1 → P a v H1 F1 → FinG K mg W B F1 σ (k a) Q → Q' v H1) : Fin mg W σ H F r P Q' := by
  cases r with
  | ok a => exact fun v H1 F1 e p => q a v H1 F1 e p (FinG.older e.ff h)
  | er c =>
    intro H1 e
    have h' : ∀ H' F', Same F F' → SR K mg B H' F' σ τ → W (cv mg c) none σ H' := h
    exact h' H1 F (Same.refl _) (s.ext ⟨e, Same.refl _, s.fh.trans e, fun a h => .inl h⟩)
  | bad => exact h
def pur (f : Tau → R Sl) : Tau → RG := fun τ => RG.of (f τ) τ fun s => if s.isBw then .bad else .ok s τ
theorem DP.dg {f : Tau → R Sl} (h : DP X W e f) : DG X W e (pur f) := by
  obtain ⟨t, p, q⟩ := h
  refine ⟨t, p, fun B τ σ H F Q s h => q B τ σ H F _ s (FinG.expr s h fun a v H1 F1 e1 p1 h1 => ?_)⟩
  split at h1
  · exact h1.elim
  · rename_i hn
    exact h1 v H1 F1 (Same.refl _) (s.push e1 p1 (fun d q => by subst q; exact hn rfl))

/-! the methods of a list at a place -/
theorem tyV_list {K : PySem.W.Frag} {mg : Str → Option Value} {H F : Hp} {a : Addr} {ds : List D} {fp : List Addr} (h : Own K mg H F (.lst ds) a fp) : tyV K "list" (.ref a) H := by
  cases h with
  | lst e r => exact .inl ⟨rfl, _, SqL.of e⟩
def appG (p : Plc) (f : Tau → R D) : Tau → RG := fun τ => match p.get τ with
  | some (.lst ds) => RG.of (f τ) τ fun d => if ds.length < sizeLine then .ok (.sh .non) (p.put τ (.lst (ds ++ [d]))) else .bad
  | _ => .bad
theorem SR.pushSh {K : PySem.W.Frag} {mg : Str → Option Value} {B : Base} {H F : Hp} {σ : St} {τ : List Sl} {v : V} {d : D} (s : SR K mg B H F σ τ) (h : Rep K F v d) : SR K mg B H F (σ ++ [some v]) (τ ++ [.sh d]) := s.push s.refl (s := .sh d) h (fun d q => by cases q)
theorem dg_append {p : Plc} {f : Tau → R D} (ho : PlcE X p o) (he : DV X W e f) (hbase : attributeBase o "append" X.env (eval o X.env) = eval o X.env := by rfl)
    (hfew : ((backTo pos (starEach [e] X.env)).all (fun x => !x.1) && (backToKw pos (keywordEach [] X.env)).all (fun x => x.1.isSome) && decide (([e] : List Expr).length + ([] : List Keyword).length + (if ([] : List Keyword).isEmpty then 0 else 1) < 30)) = true := by rfl)
    (hline : (apos.endLine == pos.line) = true := by rfl) (hs : starEach [e] X.env = (false, eval e X.env) :: starEach [] X.env := by rfl) (hplain : (backTo pos (starEach [] X.env)).any (·.1) = false := by rfl) :
    DG X W (.Call (.Attribute o "append" apos) [e] [] pos) (appG p f) := by
  obtain ⟨t, pt, q⟩ := ho
  obtain ⟨u, pu, qu⟩ := he
  refine ⟨_, pe_bm PySem.F.plainAttrs_list PySem.F.slot_list_append PySem.F.type_list_append mt_append pt (pa_cons pu pa_nil hs) hbase hfew hline hs hplain, fun B τ σ H F Q s h => ?_⟩
  unfold appG at h
  cases z : p.get τ with
  | none => rw [z] at h; exact h.elim
  | some d =>
    rw [z] at h
    cases d with
    | lst ds =>
      refine q B τ σ H F _ _ s z fun a at' => ?_
      obtain ⟨a', fp, at2, o2, _⟩ := s.focus z
      have ea := at'.inj at2
      subst ea
      refine ⟨tyV_list o2, ?_⟩
      refine qu B τ σ H F _ s (FinG.expr s h fun d v H1 F1 e1 p1 h1 => ?_)
      split at h1
      · rename_i hl
        have s1 := s.ext e1
        obtain ⟨a1, at3, o3, fa, k⟩ := s1.focus1 z rfl
        have ea := (at'.same e1.hh).inj at3
        subst ea
        cases o3 with
        | @lst _ vs _ hv r =>
          refine ⟨a, vs, v, rfl, rfl, hv, by rw [r.length]; exact hl, ?_⟩
          have s2 := k (.lst (ds ++ [d])) (.lst (vs ++ [v])) rfl (.lst upd_same (r.append (.one p1)))
          exact h1 _ _ F1 (Same.refl _) (s2.pushSh .non)
      · exact h1.elim
    | _ => exact h.elim
/-- l.pop() -/
def popG (p : Plc) : Tau → RG := fun τ => match p.get τ with
  | some (.lst ds) => (match ds[ds.length - 1]? with
    | some d => .ok (.sh d) (p.put τ (.lst ds.dropLast))
    | none => .bad)
  | _ => .bad
theorem RepL.dropLast {K : PySem.W.Frag} {F : Hp} : ∀ {vs : List V} {ds : List D}, RepL K F vs ds → RepL K F vs.dropLast ds.dropLast
  | _, _, .nil => .nil
  | _, _, .cons h .nil => .nil
  | _, _, .cons h (.cons h2 r) => .cons h (RepL.dropLast (.cons h2 r))
theorem dg_pop {p : Plc} (ho : PlcE X p o) (hbase : attributeBase o "pop" X.env (eval o X.env) = eval o X.env := by rfl)
    (hline : (apos.endLine == pos.line) = true := by rfl) :
    DG X W (.Call (.Attribute o "pop" apos) [] [] pos) (popG p) := by
  obtain ⟨t, pt, q⟩ := ho
  refine ⟨_, pe_bm0 PySem.F.plainAttrs_list PySem.F.slot_list_pop PySem.F.type_list_pop mt_pop pt hbase hline, fun B τ σ H F Q s h => ?_⟩
  unfold popG at h
  cases z : p.get τ with
  | none => rw [z] at h; exact h.elim
  | some d =>
    rw [z] at h
    cases d with
    | lst ds =>
      refine q B τ σ H F _ _ s z fun a at' => ?_
      obtain ⟨a1, at3, o3, fa, k⟩ := s.focus1 z rfl
      have ea := at'.inj at3
      subst ea
      refine ⟨tyV_list o3, ?_⟩
      cases o3 with
      | @lst _ vs _ hv r =>
        dsimp only at h
        cases y : ds[ds.length - 1]? with
        | none => rw [y] at h; exact h.elim
        | some d =>
          rw [y] at h
          obtain ⟨v, e1, rp⟩ := r.get y
          refine ⟨a, vs, v, rfl, rfl, hv, by rw [r.length]; exact e1, ?_⟩
          have s2 := k (.lst ds.dropLast) (.lst vs.dropLast) rfl (.lst upd_same r.dropLast)
          exact h _ _ F (Same.refl _) (s2.pushSh rp)
    | _ => exact h.elim
/-- l.pop(i) -/
def popAtG (p : Plc) (f : Tau → R D) : Tau → RG := fun τ => match p.get τ with
  | some (.lst ds) => RG.of (f τ) τ fun d => (match d with
    | .int i => if -(2 ^ 63) ≤ i ∧ i < 2 ^ 63 then (match seqIndex? i ds.length with
      | some k => (match ds[k]? with
        | some d => .ok (.sh d) (p.put τ (.lst (ds.eraseIdx k)))
        | none => .bad)
      | none => .bad) else .bad
    | _ => .bad)
  | _ => .bad
theorem dg_popAt {p : Plc} {f : Tau → R D} (ho : PlcE X p o) (he : DV X W e f) (hbase : attributeBase o "pop" X.env (eval o X.env) = eval o X.env := by rfl)
    (hfew : ((backTo pos (starEach [e] X.env)).all (fun x => !x.1) && (backToKw pos (keywordEach [] X.env)).all (fun x => x.1.isSome) && decide (([e] : List Expr).length + ([] : List Keyword).length + (if ([] : List Keyword).isEmpty then 0 else 1) < 30)) = true := by rfl)
    (hline : (apos.endLine == pos.line) = true := by rfl) (hs : starEach [e] X.env = (false, eval e X.env) :: starEach [] X.env := by rfl) (hplain : (backTo pos (starEach [] X.env)).any (·.1) = false := by rfl) :
    DG X W (.Call (.Attribute o "pop" apos) [e] [] pos) (popAtG p f) := by
  obtain ⟨t, pt, q⟩ := ho
  obtain ⟨u, pu, qu⟩ := he
  refine ⟨_, pe_bm PySem.F.plainAttrs_list PySem.F.slot_list_pop PySem.F.type_list_pop mt_popAt pt (pa_cons pu pa_nil hs) hbase hfew hline hs hplain, fun B τ σ H F Q s h => ?_⟩
  unfold popAtG at h
  cases z : p.get τ with
  | none => rw [z] at h; exact h.elim
  | some d =>
    rw [z] at h
    cases d with
    | lst ds =>
      refine q B τ σ H F _ _ s z fun a at' => ?_
      obtain ⟨a', fp, at2, o2, _⟩ := s.focus z
      have ea := at'.inj at2
      subst ea
      refine ⟨tyV_list o2, ?_⟩
      refine qu B τ σ H F _ s (FinG.expr s h fun d v H1 F1 e1 p1 h1 => ?_)
      cases d <;> try exact h1.elim
      rename_i i
      cases p1
      dsimp only at h1
      split at h1
      · rename_i hb
        have s1 := s.ext e1
        obtain ⟨a1, at3, o3, fa, k⟩ := s1.focus1 z rfl
        have ea := (at'.same e1.hh).inj at3
        subst ea
        cases o3 with
        | @lst _ vs _ hv r =>
          cases y1 : seqIndex? i ds.length with
          | none => rw [y1] at h1; exact h1.elim
          | some j =>
            rw [y1] at h1
            dsimp only at h1
            cases y : ds[j]? with
            | none => rw [y] at h1; exact h1.elim
            | some d =>
              rw [y] at h1
              obtain ⟨w, ew, rp⟩ := r.get y
              refine ⟨a, vs, i, j, w, rfl, rfl, hv, hb.1, hb.2, by rw [r.length]; exact y1, ew, ?_⟩
              have s2 := k (.lst (ds.eraseIdx j)) (.lst (vs.eraseIdx j)) rfl (.lst upd_same (r.eraseIdx j))
              exact h1 _ _ F1 (Same.refl _) (s2.pushSh rp)
      · exact h1.elim
    | _ => exact h.elim
/-- l.insert(i, x), the place in the list or beyond -/
def insG (p : Plc) (f : Tau → R (List D)) : Tau → RG := fun τ => match p.get τ with
  | some (.lst ds) => RG.of (f τ) τ fun a => (match a with
    | [.int i, d] => if ds.length < sizeLine ∧ 0 ≤ i ∧ i < 2 ^ 63 then .ok (.sh .non) (p.put τ (.lst (ds.take i.toNat ++ [d] ++ ds.drop i.toNat))) else .bad
    | _ => .bad)
  | _ => .bad
theorem dg_insert {p : Plc} {f : Tau → R (List D)} {e2 : Expr} (ho : PlcE X p o) (he : DAk X W [e, e2] f) (hbase : attributeBase o "insert" X.env (eval o X.env) = eval o X.env := by rfl)
    (hfew : ((backTo pos (starEach [e, e2] X.env)).all (fun x => !x.1) && (backToKw pos (keywordEach [] X.env)).all (fun x => x.1.isSome) && decide (([e, e2] : List Expr).length + ([] : List Keyword).length + (if ([] : List Keyword).isEmpty then 0 else 1) < 30)) = true := by rfl)
    (hline : (apos.endLine == pos.line) = true := by rfl) (hs : starEach [e, e2] X.env = (false, eval e X.env) :: starEach [e2] X.env := by rfl) (hplain : (backTo pos (starEach [e2] X.env)).any (·.1) = false := by rfl) :
    DG X W (.Call (.Attribute o "insert" apos) [e, e2] [] pos) (insG p f) := by
  obtain ⟨t, pt, q⟩ := ho
  obtain ⟨u, pu, qu⟩ := he
  refine ⟨_, pe_bm PySem.F.plainAttrs_list PySem.F.slot_list_insert PySem.F.type_list_insert mt_insert pt pu hbase hfew hline hs hplain, fun B τ σ H F Q s h => ?_⟩
  unfold insG at h
  cases z : p.get τ with
  | none => rw [z] at h; exact h.elim
  | some d =>
    rw [z] at h
    cases d with
    | lst ds =>
      refine q B τ σ H F _ _ s z fun a at' => ?_
      obtain ⟨a', fp, at2, o2, _⟩ := s.focus z
      have ea := at'.inj at2
      subst ea
      refine ⟨tyV_list o2, ?_⟩
      refine qu B τ σ H F _ s (FinG.expr s h fun d v H1 F1 e1 p1 h1 => ?_)
      have s1 := s.ext e1
      obtain ⟨a1, at3, o3, fa, k⟩ := s1.focus1 z rfl
      have ea := (at'.same e1.hh).inj at3
      subst ea
      rcases d with _ | ⟨x, _ | ⟨d, _ | ⟨d3, dr⟩⟩⟩
      · exact h1.elim
      · exact absurd h1 (by cases x <;> simp [FinG])
      · cases x <;> try exact h1.elim
        rename_i i
        cases p1 with
        | cons hi p1 =>
          cases hi
          cases p1 with
          | cons hd p1 =>
            cases p1
            rename_i w
            by_cases hb : ds.length < sizeLine ∧ 0 ≤ i ∧ i < 2 ^ 63
            · simp only [if_pos hb] at h1
              cases o3 with
              | @lst _ vs _ hv r =>
                refine ⟨a, vs, i, w, rfl, rfl, hv, by rw [r.length]; exact hb.1, hb.2.1, hb.2.2, ?_⟩
                have s2 := k (.lst (ds.take i.toNat ++ [d] ++ ds.drop i.toNat)) (.lst (vs.take i.toNat ++ [w] ++ vs.drop i.toNat)) rfl (.lst upd_same (((r.take _).append (.one hd)).append (r.drop _)))
                exact h1 _ _ F1 (Same.refl _) (s2.pushSh .non)
            · simp only [if_neg hb] at h1; exact h1.elim
      · exact absurd h1 (by cases x <;> simp [FinG])
    | _ => exact h.elim
end
end DL
end

section
set_option Elab.async false
set_option linter.all false
set_option maxRecDepth 100000
namespace DL
open PySem PySem.Spec PyProof.Rows L2

mutual
theorem Own.uniq {K : PySem.W.Frag} {mg : Str → Option Value} {H F : Hp} : ∀ {d : D} {a : Addr} {fp fq : List Addr}, Own K mg H F d a fp → Own K mg H F d a fq → fp = fq
  | _, _, _, _, .lst _ _, .lst _ _ => rfl
  | _, _, _, _, .dS _ _, .dS _ _ => rfl
  | _, _, _, _, .dT _ _, .dT _ _ => rfl
  | _, _, _, _, .obj m h h2 r, .obj m' h' h2' r' => by
    rw [h] at h'
    cases h'
    rw [OwnF.uniq r r']
theorem OwnF.uniq {K : PySem.W.Frag} {mg : Str → Option Value} {H F : Hp} : ∀ {vs : List (Str × V)} {fs : List (Str × Bool × D)} {fp fq : List Addr}, OwnF K mg H F vs fs fp → OwnF K mg H F vs fs fq → fp = fq
  | _, _, _, _, .nil, .nil => rfl
  | _, _, _, _, .sh _ r, .sh _ r' => OwnF.uniq r r'
  | _, _, _, _, .ow h r, .ow h' r' => by rw [Own.uniq h h', OwnF.uniq r r']
end
section
variable {K : PySem.W.Frag} {mg : Str → Option Value} {B : Base} {H F H' F' : Hp} {σ : St} {τ : List Sl}
theorem SR.pop {x : Option V} {s : Sl} (r : SR K mg B H F (σ ++ [x]) (τ ++ [s])) : SR K mg B H F σ τ := by
  have hl : σ.length = τ.length := by
    have := r.len
    rw [List.length_append, List.length_append] at this
    exact Nat.add_right_cancel this
  obtain ⟨fp, h1, h2, h3⟩ := r.slots
  refine ⟨r.keep, r.live, r.ff0, r.fh, r.new, hl, fun j => if j < τ.length then fp j else [], fun j s' q => ?_, fun j q => ?_, fun j k a ha hb => ?_⟩
  · have hj : j < τ.length := (List.getElem?_eq_some_iff.mp q).1
    have := h1 j s' (by rw [List.getElem?_append_left hj]; exact q)
    rw [List.getElem?_append_left (by rw [hl]; exact hj)] at this
    dsimp only
    rw [if_pos hj]
    exact this
  · dsimp only
    rw [if_neg (by have := List.getElem?_eq_none_iff.mp q; omega)]
  · dsimp only at ha hb
    by_cases hj : j < τ.length
    · rw [if_pos hj] at ha
      by_cases hk : k < τ.length
      · rw [if_pos hk] at hb
        exact h3 j k a ha hb
      · rw [if_neg hk] at hb; cases hb
    · rw [if_neg hj] at ha; cases ha
theorem SR.move {v : V} {s : Sl} {i : Nat} (r : SR K mg B H F (σ ++ [some v]) (τ ++ [s])) (hi : i < τ.length) (ns : s.isIo = false) (nx : ∀ x, τ[i]? = some x → x.isIo = false) : SR K mg B H F (σ.set i (some v)) (τ.set i s) := by
  have hl : σ.length = τ.length := by
    have := r.len
    rw [List.length_append, List.length_append] at this
    exact Nat.add_right_cancel this
  obtain ⟨fp, h1, h2, h3⟩ := r.slots
  have okn := h1 τ.length s (by rw [List.getElem?_append_right (Nat.le_refl _), Nat.sub_self]; rfl)
  rw [List.getElem?_append_right (by omega), hl, Nat.sub_self] at okn
  refine ⟨r.keep, r.live, r.ff0, r.fh, r.new, by rw [List.length_set, List.length_set]; exact hl, fun j => if j = i then fp τ.length else if j < τ.length then fp j else [], fun j s' q => ?_, fun j q => ?_, fun j k a ha hb => ?_⟩
  · by_cases e : j = i
    · subst e
      rw [List.getElem?_set_self hi] at q
      cases q
      dsimp only
      rw [if_pos rfl, join_set (by omega)]
      cases s with
      | io d => cases ns
      | un => exact okn
      | sh d => exact okn
      | bw d => exact okn
      | ow d => exact okn
    · rw [List.getElem?_set_ne (Ne.symm e)] at q
      have hj : j < τ.length := (List.getElem?_eq_some_iff.mp q).1
      dsimp only
      rw [if_neg e, if_pos hj, List.getElem?_set_ne (Ne.symm e)]
      have := h1 j s' (by rw [List.getElem?_append_left hj]; exact q)
      rw [List.getElem?_append_left (by rw [hl]; exact hj)] at this
      exact this
  · have hj : τ.length ≤ j := by
      have := List.getElem?_eq_none_iff.mp q
      rw [List.length_set] at this
      exact this
    dsimp only
    rw [if_neg (by omega), if_neg (by omega)]
  · dsimp only at ha hb
    by_cases hj : j = i
    · rw [if_pos hj] at ha
      by_cases hk : k = i
      · rw [hj, hk]
      · rw [if_neg hk] at hb
        by_cases kl : k < τ.length
        · rw [if_pos kl] at hb
          have := h3 _ k a ha hb
          omega
        · rw [if_neg kl] at hb; cases hb
    · rw [if_neg hj] at ha
      by_cases jl : j < τ.length
      · rw [if_pos jl] at ha
        by_cases hk : k = i
        · rw [if_pos hk] at hb
          have := h3 _ _ a ha hb
          omega
        · rw [if_neg hk] at hb
          by_cases kl : k < τ.length
          · rw [if_pos kl] at hb
            exact h3 j k a ha hb
          · rw [if_neg kl] at hb; cases hb
      · rw [if_neg jl] at ha; cases ha
end
def sDropG (g : Tau → RG) : FS := fun τ => match g τ with
  | .ok _ τ' => .nx τ'
  | .er c τ' => .er c τ'
  | .bad => .bad
def sSetG (i : Nat) (g : Tau → RG) : FS := fun τ => match g τ with
  | .ok s τ' => (match τ'[i]? with
    | some x => if x.isIo || s.isIo || s.isBw then .bad else .nx (τ'.set i s)
    | none => .bad)
  | .er c τ' => .er c τ'
  | .bad => .bad
def sRetG (g : Tau → RG) : FS := fun τ => match g τ with
  | .ok s τ' => .rt s τ'
  | .er c τ' => .er c τ'
  | .bad => .bad
section
variable {X : Cx} {W : WX} {e o i : Expr} {pos p pos' : Pos} {g : Tau → RG} {h : Tau → R D}
theorem ds_dropG (he : DG X W e g) (hs : swapsWith e none pos.line X.env = pure false := by rfl) : DS X W (.Expr e pos) (sDropG g) := by
  obtain ⟨t, pt, q⟩ := he
  refine ⟨_, ps_expr pt hs, fun B τ σ H F D s h => q B τ σ H F _ s ?_⟩
  unfold sDropG at h
  cases z : g τ with
  | ok x τ' => rw [z] at h; exact fun v H' F' e r => h σ H' F' e r.pop
  | er c τ' => rw [z] at h; exact fun H' F' e r => h σ H' F' e r
  | bad => rw [z] at h; exact h
theorem ds_setG {i : Nat} {x : Str} {pos' : Pos} (hN : X.N.Nodup) (hi : X.N[i]? = some x) (hx : Loc X.env.scope x) (he : DG X W e g) (hs : swapsWith e (some (.Name x pos')) pos.line X.env = pure false := by rfl) (hf : X.fn x = true ∨ X.env.scope.names.lookup x = some .local := by first | exact .inl rfl | exact .inr rfl | assumption) :
    DS X W (.Assign [.Name x pos'] e pos) (sSetG i g) := by
  obtain ⟨t, pt, q⟩ := he
  refine ⟨_, ps_set hN hi hx pt hs hf, fun B τ σ H F D s h => q B τ σ H F _ s ?_⟩
  unfold sSetG at h
  cases z : g τ with
  | ok y τ' =>
    rw [z] at h
    intro v H' F' e r
    dsimp only at h
    cases z2 : τ'[i]? with
    | none => rw [z2] at h; exact h.elim
    | some x =>
      rw [z2] at h
      dsimp only at h
      split at h
      · exact h.elim
      · rename_i hn
        rw [Bool.or_eq_true, Bool.or_eq_true, not_or, not_or] at hn
        exact h _ H' F' e (r.move (List.getElem?_eq_some_iff.mp z2).1 (by simpa using hn.1.2) (fun x' q => by rw [z2] at q; cases q; simpa using hn.1.1))
  | er c τ' => rw [z] at h; exact fun H' F' e r => h σ H' F' e r
  | bad => rw [z] at h; exact h
theorem ds_retG (he : DG X W e g) : DS X W (.Return (some e) pos) (sRetG g) := by
  obtain ⟨t, pt, q⟩ := he
  refine ⟨_, ps_ret pt, fun B τ σ H F D s h => q B τ σ H F _ s ?_⟩
  unfold sRetG at h
  cases z : g τ with
  | ok y τ' => rw [z] at h; exact fun v H' F' e r => h v σ H' F' e r
  | er c τ' => rw [z] at h; exact fun H' F' e r => h σ H' F' e r
  | bad => rw [z] at h; exact h

/-! d[k] = v -/
def dputF (p : Plc) (τ : Tau) (c k d : D) : Fl := match c with
  | .dS kvs => (match k with
    | .str x => if kvs.length < sizeLine then .nx (p.put τ (.dS (dput kvs x d))) else .bad
    | _ => .bad)
  | .dT kvs => (match k.key with
    | some w => if kvs.length < sizeLine then .nx (p.put τ (.dT (dput kvs w d))) else .bad
    | none => .bad)
  | _ => .bad
def sPutD (p : Plc) (g f : Tau → R D) : FS := fun τ => Fl.of (f τ) τ fun d => match p.get τ with
  | some c => if c.flat1 then Fl.of (g τ) τ fun k => dputF p τ c k d else .bad
  | none => .bad
theorem ds_putD {p : Plc} {f g : Tau → R D} (hu : X.A.units + 64 < cLine) (ho : PlcE X p o) (hi : DW X W i g) (hv : DV X W e f) (hs : swapsWith e (some (.Subscript o i pos')) pos.line X.env = pure false := by rfl) :
    DS X W (.Assign [.Subscript o i pos'] e pos) (sPutD p g f) := by
  obtain ⟨t, pt, q⟩ := ho
  obtain ⟨u, pu, qu⟩ := hi
  obtain ⟨w, pw, qw⟩ := hv
  refine ⟨_, ps_dput (by omega) pt pu pw hs, fun B τ σ H F D s h => qw B τ σ H F _ s (FinS.expr s h fun d v H1 F1 e1 p1 h1 => ?_)⟩
  have s1 := s.ext e1
  cases z : p.get τ with
  | none => rw [z] at h1; exact h1.elim
  | some c =>
    rw [z] at h1
    dsimp only at h1
    split at h1
    · rename_i hc
      refine q B τ σ H1 F1 _ _ s1 z fun a at' => ?_
      refine qu B τ σ H1 F1 _ s1 (FinS.expr s1 h1 fun k y H2 F2 e2 p2 h2 => ?_)
      have s2 := s1.ext e2
      obtain ⟨a1, at3, o3, fa, k3⟩ := s2.focus1 z hc
      have ea := (at'.same e2.hh).inj at3
      subst ea
      cases c <;> try exact h2.elim
      · rename_i kvs
        cases k <;> try exact h2.elim
        rename_i x
        unfold dputF at h2
        dsimp only at h2
        split at h2
        · rename_i hl
          cases o3 with
          | @dS _ ks _ hk r =>
            have ey := p2.str
            subst ey
            exact ⟨a, _, rfl, DPut.k (k := Sum.inr x) hk (by rw [r.length]; exact hl), h2 σ _ F2 (Same.refl _) (k3 (.dS (dput kvs x d)) (.dK (putK ks (Sum.inr x) v)) rfl (.dS upd_same (r.put x (p1.mono e2.ff))))⟩
        · exact h2.elim
      · rename_i kvs
        unfold dputF at h2
        dsimp only at h2
        cases zk : k.key with
        | none => rw [zk] at h2; exact h2.elim
        | some w =>
          rw [zk] at h2
          dsimp only at h2
          split at h2
          · rename_i hl
            cases k <;> try (cases zk; done)
            rename_i ds
            have ed := strsOf_eq (show strsOf ds = some w from zk)
            subst ed
            obtain ⟨b, vs, rfl, hb, rb⟩ := p2.tup
            have ev := repL_strs rb
            subst ev
            cases o3 with
            | @dT _ ks _ hk r =>
              exact ⟨a, _, rfl, DPut.t hk (e2.fh _ _ hb) (by rw [r.length]; exact hl), h2 σ _ F2 (Same.refl _) (k3 (.dT (dput kvs w d)) (.dT (putK ks (w.map Sum.inr) v)) rfl (.dT upd_same (r.put w (p1.mono e2.ff))))⟩
          · exact h2.elim
    · exact h1.elim

/-! o.f = v -/
def sFldS (p : Plc) (c f : Str) (h : Tau → R D) : FS := fun τ => Fl.of (h τ) τ fun d => match p.get τ with
  | some (.obj c' fs) => if c' = c ∧ fs.length < 1000 then .nx (p.put τ (.obj c (fput f false d fs))) else .bad
  | _ => .bad
def sFldO (p : Plc) (c f : Str) (h : Tau → R Sl) : FS := fun τ => Fl.of (h τ) τ fun s => match s with
  | .ow d => (match p.get τ with
    | some (.obj c' fs) => if c' = c ∧ fs.length < 1000 then .nx (p.put τ (.obj c (fput f true d fs))) else .bad
    | _ => .bad)
  | _ => .bad
/-- an object at a place is written: its fields alone -/
theorem SR.fields {K : PySem.W.Frag} {mg : Str → Option Value} {B : Base} {H F H1 F1 : Hp} {σ : St} {τ : List Sl} {p : Plc} {c : Str} {fs : List (Str × Bool × D)} (s : SR K mg B H F σ τ) (e : Ext H F H1 F1) (hg : p.get τ = some (.obj c fs)) :
    ∃ a dx C vs fp0, p.At mg σ H1 a ∧ mg c = some (.ref C) ∧ H1 a = some (.ins C dx vs) ∧ OwnF K mg H1 F1 vs fs fp0 ∧ fp0.Nodup ∧ (∀ b ∈ fp0, F1 b = none ∧ H b ≠ none) ∧
      ∀ vs' fs' fp', OwnF K mg H1 F1 vs' fs' fp' → fp'.Nodup → (∀ b ∈ fp', F1 b = none ∧ (b ∈ fp0 ∨ H b = none)) → SR K mg B (upd H1 a (.ins C dx vs')) F1 σ (p.put τ (.obj c fs')) := by
  obtain ⟨a, fp, at', o, nd, ap, k⟩ := s.focus hg
  have ap1 := o.apart e ap
  have o1 := e.own o
  cases o with
  | @obj _ dx C _ vs _ fp0 m ha hdx r =>
    have inH : ∀ b ∈ a :: dx :: fp0, H b ≠ none := fun b hb => by
      obtain ⟨u, hu, _⟩ := (Own.obj m ha hdx r : Own K mg H F _ a _).there b hb
      rw [hu]; simp
    have na := (List.nodup_cons.mp nd).1
    have nd1 := (List.nodup_cons.mp nd).2
    have ndx := (List.nodup_cons.mp nd1).1
    have nd0 := (List.nodup_cons.mp nd1).2
    have r1 := OwnF.keep e.ff r (fun b hb u hu => e.hh b u hu)
    refine ⟨a, dx, C, vs, fp0, at'.same e.hh, m, e.hh _ _ ha, r1, nd0, fun b hb => ⟨ap1 b (by simp [hb]), inH b (by simp [hb])⟩, fun vs' fs' fp' r' nd' ap' => ?_⟩
    have nadx : ¬dx = a := fun q => na (by simp [q])
    have na' : a ∉ fp' := fun q => by
      rcases (ap' a q).2 with z | z
      · exact na (by simp [z])
      · exact inH a (by simp) z
    have ndx' : dx ∉ fp' := fun q => by
      rcases (ap' dx q).2 with z | z
      · exact ndx z
      · exact inH dx (by simp) z
    refine SRU.sr (k (.obj c fs') (upd H1 a (.ins C dx vs')) F1 (a :: dx :: fp') (fun b o hb hu => ?_) (fun b o hb hu => ?_) e.ff (fun b u hu => ?_) e.new (.obj m upd_same (by rw [upd_ne nadx]; exact e.hh _ _ hdx) (OwnF.keep (Same.refl _) r' fun b hb u hu => by rw [upd_ne (show b ≠ a from fun q => na' (by rw [← q]; exact hb))]; exact hu)) (List.nodup_cons.mpr ⟨fun q => ?_, List.nodup_cons.mpr ⟨ndx', nd'⟩⟩) (fun b hb => ?_))
    · rw [upd_ne (fun q => hb (by simp [q]))]; exact e.hh _ _ hu
    · by_cases q : b = a
      · subst q
        rw [ha] at hu
        cases hu
        exact ⟨_, upd_same, rfl⟩
      · exact ⟨o, by rw [upd_ne q]; exact e.hh _ _ hu, rfl⟩
    · rw [upd_ne (ne_of_none hu (ap1 a (by simp)))]; exact e.fh b u hu
    · rcases List.mem_cons.mp q with z | z
      · exact nadx z.symm
      · exact na' z
    · rcases List.mem_cons.mp hb with rfl | hb
      · exact ⟨ap1 _ (by simp), .inl (by simp)⟩
      · rcases List.mem_cons.mp hb with rfl | hb
        · exact ⟨ap1 _ (by simp), .inl (by simp)⟩
        · refine ⟨(ap' b hb).1, ?_⟩
          rcases (ap' b hb).2 with z | z
          · exact .inl (by simp [z])
          · exact .inr z
theorem ds_fldS {p : Plc} {c f : Str} (hf : FldOk X c f) (ho : PlcE X p o) (hv : DV X W e h) (hs : swapsWith e (some (.Attribute o f pos')) pos.line X.env = pure false := by rfl) :
    DS X W (.Assign [.Attribute o f pos'] e pos) (sFldS p c f h) := by
  obtain ⟨t, pt, q⟩ := ho
  obtain ⟨w, pw, qw⟩ := hv
  refine ⟨_, ps_fld pt pw hs, fun B τ σ H F D s h => qw B τ σ H F _ s (FinS.expr s h fun d v H1 F1 e1 p1 h1 => ?_)⟩
  have s1 := s.ext e1
  cases z : p.get τ with
  | none => rw [z] at h1; exact h1.elim
  | some dd =>
    rw [z] at h1
    cases dd <;> try exact h1.elim
    rename_i c' fs
    dsimp only at h1
    split at h1
    · rename_i hc
      obtain ⟨rfl, hl⟩ := hc
      refine q B τ σ H1 F1 _ _ s1 z fun a at' => ?_
      obtain ⟨a1, dx, C, vs, fp0, at2, m, ha, r, nd0, ap, k⟩ := s.fields e1 z
      have ea := at'.inj at2
      subst ea
      obtain ⟨c1, c2⟩ := hf C m
      obtain ⟨fp', g1, g2, g3⟩ := r.putSh (f := f) p1 nd0
      exact ⟨a, C, dx, vs, rfl, ha, c1, c2, by rw [r.len]; exact hl, h1 σ _ F1 (Same.refl _) (k _ _ fp' g1 g2 fun b hb => ⟨(ap b (g3 b hb)).1, .inl (g3 b hb)⟩)⟩
    · exact h1.elim
theorem ds_fldO {p : Plc} {c f : Str} {h : Tau → R Sl} (hf : FldOk X c f) (ho : PlcE X p o) (hv : DP X W e h) (hs : swapsWith e (some (.Attribute o f pos')) pos.line X.env = pure false := by rfl) :
    DS X W (.Assign [.Attribute o f pos'] e pos) (sFldO p c f h) := by
  obtain ⟨t, pt, q⟩ := ho
  obtain ⟨w, pw, qw⟩ := hv
  refine ⟨_, ps_fld pt pw hs, fun B τ σ H F D s h => qw B τ σ H F _ s (FinS.expr s h fun sl v H1 F1 e1 p1 h1 => ?_)⟩
  have s1 := s.ext e1
  cases sl <;> try exact h1.elim
  rename_i d
  dsimp only at h1
  cases z : p.get τ with
  | none => rw [z] at h1; exact h1.elim
  | some dd =>
    rw [z] at h1
    cases dd <;> try exact h1.elim
    rename_i c' fs
    dsimp only at h1
    split at h1
    · rename_i hc
      obtain ⟨rfl, hl⟩ := hc
      refine q B τ σ H1 F1 _ _ s1 z fun a at' => ?_
      obtain ⟨a1, dx, C, vs, fp0, at2, m, ha, r, nd0, ap, k⟩ := s.fields e1 z
      have ea := at'.inj at2
      subst ea
      obtain ⟨c1, c2⟩ := hf C m
      obtain ⟨b0, fq, rfl, oq, nq, fr⟩ := p1
      obtain ⟨fp', g1, g2, g3⟩ := r.putOw (f := f) oq nq nd0 (fun b hb hb2 => (ap b hb2).2 (fr b hb).2)
      refine ⟨a, C, dx, vs, rfl, ha, c1, c2, by rw [r.len]; exact hl, h1 σ _ F1 (Same.refl _) (k _ _ fp' g1 g2 fun b hb => ?_)⟩
      rcases g3 b hb with y | y
      · exact ⟨(ap b y).1, .inl y⟩
      · exact ⟨(fr b y).1, .inr (fr b y).2⟩
    · exact h1.elim
/-! o.f += v, x += v -/
def addI (d : D) (j : Int) : R D := match d with
  | .int i => .ok (.int (i + j))
  | _ => .bad
def intOf (d : D) : R Int := match d with
  | .int i => .ok i
  | _ => .bad
theorem intOf_noer (d : D) (c : Str) : intOf d ≠ .er c := by cases d <;> intro h <;> cases h
theorem intOf_ok {d : D} {i : Int} (h : intOf d = .ok i) : d = .int i := by cases d <;> cases h; rfl
def sFldA (p : Plc) (c f : Str) (h : Tau → R D) : FS := fun τ => match p.get τ with
  | some (.obj c' fs) => if c' = c ∧ fs.length < 1000 then (match flook fs f with
    | some (false, .int i) => Fl.of (h τ) τ fun d => (match d with
      | .int j => .nx (p.put τ (.obj c (fput f false (.int (i + j)) fs)))
      | _ => .bad)
    | _ => .bad) else .bad
  | _ => .bad
theorem ds_fldA {p : Plc} {c f : Str} (hf : FldOk X c f) (ho : PlcE X p o) (hv : DV X W e h) : DS X W (.AugAssign (.Attribute o f pos') .Add e pos) (sFldA p c f h) := by
  obtain ⟨t, pt, q⟩ := ho
  obtain ⟨w, pw, qw⟩ := hv
  refine ⟨_, ps_fldaug pt pw in_add, fun B τ σ H F D s h => ?_⟩
  unfold sFldA at h
  cases z : p.get τ with
  | none => rw [z] at h; exact h.elim
  | some dd =>
    rw [z] at h
    cases dd <;> try exact h.elim
    rename_i c' fs
    dsimp only at h
    split at h
    · rename_i hc
      obtain ⟨rfl, hl⟩ := hc
      cases z2 : flook fs f with
      | none => rw [z2] at h; exact h.elim
      | some bd =>
        obtain ⟨bb, di⟩ := bd
        rw [z2] at h
        cases bb with
        | true => exact h.elim
        | false =>
          cases di <;> try exact h.elim
          rename_i i
          dsimp only at h
          refine q B τ σ H F _ _ s z fun a at' => ?_
          obtain ⟨a0, dx0, C, vs0, fp00, at2, m, ha0, r0, _⟩ := s.fields (Ext.refl s.fh) z
          have ea := at'.inj at2
          subst ea
          obtain ⟨v0, l0, rp0⟩ := r0.getSh z2
          have ev : v0 = .int i := by cases rp0; rfl
          subst ev
          obtain ⟨c1, c2⟩ := hf C m
          refine ⟨a, C, dx0, vs0, .int i, rfl, ha0, c1, c2, l0, ?_⟩
          refine qw B τ σ H F _ s (FinS.expr s h fun d v H1 F1 e1 p1 h1 => ?_)
          cases d <;> try exact h1.elim
          rename_i j
          have ev : v = .int j := by cases p1; rfl
          subst ev
          dsimp only at h1
          refine ⟨i, j, rfl, rfl, ?_⟩
          obtain ⟨a1, dx, C1, vs, fp0, at3, m1, ha, r, nd0, ap, k⟩ := s.fields e1 z
          have ea := (at'.same e1.hh).inj at3
          subst ea
          rw [m] at m1
          cases m1
          obtain ⟨fp', g1, g2, g3⟩ := r.putSh (f := f) (d := .int (i + j)) (.int (i + j)) nd0
          exact ⟨dx, vs, ha, by rw [r.len]; exact hl, h1 σ _ F1 (Same.refl _) (k _ _ fp' g1 g2 fun b hb => ⟨(ap b (g3 b hb)).1, .inl (g3 b hb)⟩)⟩
    · exact h.elim
def sAugI (i : Nat) (op : Int → Int → Int) (h : Tau → R D) : FS := fun τ => match τ[i]? with
  | some (.sh (.int x)) => Fl.of (h τ) τ fun d => (match d with
    | .int y => .nx (τ.set i (.sh (.int (op x y))))
    | _ => .bad)
  | _ => .bad
theorem ds_augI {op : Operator} {fi : Int → Int → Int} {i : Nat} {x : Str} (hp : PIp X op (ipI fi)) (hN : X.N.Nodup) (hi : X.N[i]? = some x) (hx : Loc X.env.scope x) (hv : DV X W e h) (hf : X.fn x = true ∨ X.env.scope.names.lookup x = some .local := by first | exact .inl rfl | exact .inr rfl | assumption) :
    DS X W (.AugAssign (.Name x pos') op e pos) (sAugI i fi h) := by
  obtain ⟨w, pw, qw⟩ := hv
  refine ⟨_, ps_aug hN hi hx pw hp hf, fun B τ σ H F D s h => ?_⟩
  unfold sAugI at h
  cases z : τ[i]? with
  | none => rw [z] at h; exact h.elim
  | some y =>
    rw [z] at h
    cases y <;> try exact h.elim
    rename_i d
    cases d <;> try exact h.elim
    rename_i n
    dsimp only at h
    obtain ⟨fp, ok⟩ := s.get z
    obtain ⟨_, v, ev, rp⟩ := ok
    have e0 : v = .int n := by cases rp; rfl
    subst e0
    refine ⟨_, join_some ev, qw B τ σ H F _ s (FinS.expr s h fun d v H1 F1 e1 p1 h1 => ?_)⟩
    cases d <;> try exact h1.elim
    rename_i j
    have ev : v = .int j := by cases p1; rfl
    subst ev
    have hi' : i < τ.length := (List.getElem?_eq_some_iff.mp z).1
    exact ⟨n, j, rfl, rfl, h1 _ _ F1 (Same.refl _) (s.put hi' (fun d q => by rw [z] at q; cases q) e1 (s := .sh (.int (fi n j))) (show Rep _ _ _ _ from .int _) (fun d q => by cases q))⟩
end
end DL
end

section
set_option Elab.async false
set_option linter.all false
set_option maxRecDepth 100000
namespace DL
open PySem PySem.Spec PyProof.Rows L2

/-! ### a def that changes its first argument -/
inductive RM where
  | ok (s : Sl) (d : D) | er (c : Str) (d : D) | bad
abbrev ioB (H F : Hp) (a : Addr) (fp : List Addr) : Base := ⟨H, F, fun b => b ∈ fp, fun i => if i = 0 then some (.ref a) else none⟩
def spM (K : PySem.W.Frag) (mg : Str → Option Value) (m : D → List D → RM) : Sp := fun vs H Q E => ∃ F a fp rest d ds, vs = .ref a :: rest ∧ Same F H ∧ RepL K F rest ds ∧ Own K mg H F d a fp ∧ fp.Nodup ∧ (∀ b ∈ fp, F b = none) ∧
  match m d ds with
  | .ok s d' => ∀ v H' F', SR K mg (ioB H F a fp) H' F' [some (.ref a), some v] [.io d', s] → Q v H'
  | .er c d' => ∀ H' F', SR K mg (ioB H F a fp) H' F' [some (.ref a)] [.io d'] → E (cv mg c) none H'
  | .bad => False
section
variable {K : PySem.W.Frag} {mg : Str → Option Value} {B : Base} {H F : Hp} {σ : St} {τ : List Sl}
theorem SR.core {H' F' : Hp} {a : Addr} {fp : List Addr} {d d' : D} {σ' : St} {τ' : List Sl} {p : Plc} (t : SR K mg (ioB H F a fp) H' F' (some (.ref a) :: σ') (.io d' :: τ'))
    (k : ∀ (d' : D) (H' F' : Hp) (fp' : List Addr), (∀ b o, b ∉ fp → H b = some o → H' b = some o) → (∀ b o, b ∈ fp → H b = some o → ∃ o', H' b = some o' ∧ tupB o' = tupB o) → Same F F' → Same F' H' → (∀ b, F' b ≠ none → F b ≠ none ∨ Fr H b) →
      Own K mg H' F' d' a fp' → fp'.Nodup → (∀ b ∈ fp', F' b = none ∧ (b ∈ fp ∨ H b = none)) → SRU K mg B H' F' σ (p.put τ d') (fun b => b ∈ fp' ∨ H b ≠ none)) :
    ∃ fq : Nat → List Addr, (∀ i s, (Sl.io d' :: τ')[i]? = some s → SlOk K mg (ioB H F a fp) H' F' i ((some (V.ref a) :: σ')[i]?.join) s (fq i)) ∧ (∀ i j b, b ∈ fq i → b ∈ fq j → i = j) ∧ SRU K mg B H' F' σ (p.put τ d') (fun b => b ∈ fq 0 ∨ H b ≠ none) := by
  obtain ⟨fq, h1, h2, h3⟩ := t.slots
  refine ⟨fq, h1, h3, ?_⟩
  obtain ⟨a', e1, e2, o, nd, q⟩ := h1 0 _ rfl
  have ea : a = a' := by
    have : some (V.ref a) = some (V.ref a') := e1
    cases this
    rfl
  subst ea
  exact k d' H' F' (fq 0) (fun b o hb hu => t.keep b o hu hb) (fun b o _ hu => t.live b o hu) t.ff0 t.fh t.new o nd (fun b hb => ⟨(q b hb).1, (q b hb).2.symm⟩)
theorem SR.back {p : Plc} {d : D} (s : SR K mg B H F σ τ) (hg : p.get τ = some d) : ∃ a fp, p.At mg σ H a ∧ Own K mg H F d a fp ∧ fp.Nodup ∧ (∀ b ∈ fp, F b = none) ∧
    (∀ H' F' d', SR K mg (ioB H F a fp) H' F' [some (.ref a)] [.io d'] → SR K mg B H' F' σ (p.put τ d')) ∧
    (∀ H' F' d' v s', SR K mg (ioB H F a fp) H' F' [some (.ref a), some v] [.io d', s'] → SR K mg B H' F' (σ ++ [some v]) (p.put τ d' ++ [s'])) := by
  obtain ⟨a, fp, at', o, nd, ap, k⟩ := s.focus hg
  refine ⟨a, fp, at', o, nd, ap, fun H' F' d' t => ?_, fun H' F' d' v s' t => ?_⟩
  · obtain ⟨fq, h1, h3, u⟩ := t.core (d := d) k
    exact u.sr
  · obtain ⟨fq, h1, h3, u⟩ := t.core (d := d) k
    have ok := h1 1 s' rfl
    have h0 : ∀ b, H b = none → B.H0 b = none := fun b hb => by
      cases z : B.H0 b with
      | none => rfl
      | some u =>
        obtain ⟨o', h4, _⟩ := s.live b u z
        rw [hb] at h4; cases h4
    refine u.push (fp2 := fq 1) ?_ (fun b hb q => ?_)
    · cases s' with
      | un => exact ok
      | sh d => exact ok
      | bw d => exact ok
      | io d =>
        obtain ⟨_, _, e2, _⟩ := ok
        have : (none : Option V) = some _ := e2
        cases this
      | ow d =>
        obtain ⟨a', e1, o, n, q⟩ := ok
        exact ⟨a', e1, o, n, fun b hb => ⟨(q b hb).1, h0 b (q b hb).2⟩⟩
    · rcases q with q | q
      · have := h3 _ _ b hb q
        cases this
      · cases s' with
        | un => rw [show fq 1 = [] from ok] at hb; cases hb
        | sh d => rw [ok.1] at hb; cases hb
        | bw d => exact ok
        | io d =>
          obtain ⟨_, _, e2, _⟩ := ok
          have : (none : Option V) = some _ := e2
          cases this
        | ow d =>
          obtain ⟨a', e1, o, n, q'⟩ := ok
          exact q (q' b hb).2
end

/-! ### o.m(..) -/
section
variable {X : Cx} {CX : CXT} {k : Nat} {f C : Addr} {fd : FuncData} {ps : List Str} {sp : Sp} {E : St → XK} {x m : Str} {p pos apos : Pos} {e o : Expr} {es : List Expr} {ta : TE} {t : TA}
def tMethS (C : Addr) (m : Str) (sp : Sp) (E : St → XK) (ta : TE) (t : TA) : TE := fun σ H Q => ta σ H fun x H1 => ∃ a dx fs, x = .ref a ∧ H1 a = some (.ins C dx fs) ∧ fs.lookup m = none ∧
  t σ H1 fun vs H2 => sp (x :: vs) H2 Q (E σ)
theorem pe_methSs {pl : Sem Bool} (he : PE X o ta) (c : Cls X.K C) (hm : Meth X.K C m f) (F : FnOk X.prog X.w X.K X.mg X.base CX k f fd ps sp) (hr : Room k X.A) (hb : Binds X.K fd ps []) (hx : ∀ σ, PassesAt CX X σ (E σ)) (ha : PA X (e :: es) t)
    (hst : starEach (e :: es) X.env = (false, eval e X.env) :: starEach es X.env := by rfl) (hpl : (backTo pos (starEach es X.env)).any (·.1) = false := by rfl)
    (ht : eval (.Call (.Attribute o m apos) (e :: es) [] pos) X.env = (do
      let ov ← eval o X.env
      standAt apos.atName
      let (f, first) ← holding [ov] (getMethod ov m pl)
      callWith pos f first (backTo pos (starEach (e :: es) X.env)) (backToKw pos (keywordEach [] X.env))) := by rfl) :
    PE X (.Call (.Attribute o m apos) (e :: es) [] pos) (tMethS C m sp E ta t) := by
  refine ⟨fun pins s σ H Q I h => ?_⟩
  refine PySem.W.methodCall_KW (pl := pl) (thn (he.run pins s σ H _ I h) fun u s1 ⟨x, H1, I1, rx, a, dx, fs, ex, ea, l, q⟩ => ?_) ht
  subst ex
  obtain rfl : u = Value.ref a := rx
  refine getmeth_ok I1 ea c hm l ?_
  refine PySem.W.callWith_K (first := [.ref a]) (h₀ := X.base) I.ok.mod.kin hm.kp (thn (ha.run pos pins s1 σ H1 _ I1 q) fun us s2 ⟨vs, H2, I2, r, q2⟩ => ⟨I2.kIn, ?_⟩) hst hpl
  exact run_fnS (us := .ref a :: us) (vs := .ref a :: vs) F hr hb (hx σ) I2 (.cons rfl r) q2
theorem pe_methSs0 {pl : Sem Bool} (he : PE X o ta) (c : Cls X.K C) (hm : Meth X.K C m f) (F : FnOk X.prog X.w X.K X.mg X.base CX k f fd ps sp) (hr : Room k X.A) (hb : Binds X.K fd ps []) (hx : ∀ σ, PassesAt CX X σ (E σ))
    (ht : eval (.Call (.Attribute o m apos) [] [] pos) X.env = (do
      let ov ← eval o X.env
      standAt apos.atName
      let (f, first) ← holding [ov] (getMethod ov m pl)
      callWith pos f first (backTo pos (starEach [] X.env)) (backToKw pos (keywordEach [] X.env))) := by rfl) :
    PE X (.Call (.Attribute o m apos) [] [] pos) (tMethS C m sp E ta tNil) := by
  refine ⟨fun pins s σ H Q I h => ?_⟩
  refine PySem.W.methodCall_KW (pl := pl) (thn (he.run pins s σ H _ I h) fun u s1 ⟨x, H1, I1, rx, a, dx, fs, ex, ea, l, q⟩ => ?_) ht
  subst ex
  obtain rfl : u = Value.ref a := rx
  refine getmeth_ok I1 ea c hm l ?_
  exact PySem.W.callWith_K0 (first := [.ref a]) I1.kIn hm.kp (run_fnS (us := [.ref a]) (vs := [.ref a]) F hr hb (hx σ) I1 (.cons rfl .nil) q)
end
/-- a method of the class named c -/
structure MtD (P : Program) (w : World) (K : PySem.W.Frag) (mg : Str → Option Value) (base : Heap) (k : Nat) (c m : Str) (ps : List Str) (f : D → List D → RM) : Prop where
  ex : ∃ C g fd, mg c = some (.ref C) ∧ Cls K C ∧ Meth K C m g ∧ FnOk P w K mg base (L2N.CX P w) k g fd ps (spM K mg f) ∧ Binds K fd ps []
/-- the outcome of a call that changes what is at a place -/
def RM.at (p : Plc) (τ : Tau) (r : RM) : RG := match r with
  | .ok s d' => .ok s (p.put τ d')
  | .er e d' => .er e (p.put τ d')
  | .bad => .bad
def metG (p : Plc) (c m : Str) (f : D → List D → RM) (g : Tau → R (List D)) : Tau → RG := fun τ => match p.get τ with
  | some (.obj c' fs) => if c' = c ∧ (flook fs m).isNone then RG.of (g τ) τ fun ds => (f (.obj c' fs) ds).at p τ else .bad
  | _ => .bad
theorem OwnF.lookNone {K : PySem.W.Frag} {mg : Str → Option Value} {H F : Hp} {f : Str} : ∀ {vs : List (Str × V)} {fs : List (Str × Bool × D)} {fp : List Addr}, OwnF K mg H F vs fs fp → flook fs f = none → vs.lookup f = none
  | _, _, _, .nil, _ => rfl
  | _, _, _, .sh (x := x) h r, e => by
    by_cases hx : x = f
    · rw [flook, if_pos hx] at e
      cases e
    · rw [flook, if_neg hx] at e
      rw [lookup_neg hx]
      exact r.lookNone e
  | _, _, _, .ow (x := x) h r, e => by
    by_cases hx : x = f
    · rw [flook, if_pos hx] at e
      cases e
    · rw [flook, if_neg hx] at e
      rw [lookup_neg hx]
      exact r.lookNone e
section
variable {X : Cx} {W : WX} {k : Nat} {c m x : Str} {ps : List Str} {f : D → List D → RM} {o e : Expr} {es : List Expr} {g : Tau → R (List D)} {pos apos p' : Pos}
/-- what the callee wants, from the caller's state -/
theorem spM_of {B : Base} {τ : List Sl} {σ : St} {H F H1 F1 : Hp} {Q : VK} {p : Plc} {d : D} {a : Addr} {vs : List V} {ds : List D} (s : SR X.K X.mg B H F σ τ) (e1 : Ext H F H1 F1) (z : p.get τ = some d) (at' : p.At X.mg σ H a) (p1 : RepL X.K F1 vs ds)
    (h : FinG X.K X.mg W B F1 σ ((f d ds).at p τ) Q) : spM X.K X.mg f (.ref a :: vs) H1 Q (WE W σ) := by
  have s1 := s.ext e1
  obtain ⟨a1, fp, at2, ow, nd, ap, b1, b2⟩ := s1.back z
  have ea := (at'.same e1.hh).inj at2
  subst ea
  refine ⟨F1, a, fp, vs, d, ds, rfl, e1.fh, p1, ow, nd, ap, ?_⟩
  cases q : f d ds with
  | bad => rw [q] at h; exact h
  | er c d' => rw [q] at h; exact fun H' F' t => h H' F' t.ff0 (b1 H' F' d' t)
  | ok s d' => rw [q] at h; exact fun v H' F' t => h v H' F' t.ff0 (b2 H' F' d' v s t)
theorem dg_meth {p : Plc} {pl : Sem Bool} (M : MtD X.prog X.w X.K X.mg X.base k c m ps f) (hr : Room k X.A) (tk : L2N.Takes X W) (ho : PlcE X p o) (ha : DAk X W (e :: es) g)
    (hst : starEach (e :: es) X.env = (false, eval e X.env) :: starEach es X.env := by rfl) (hpl : (backTo pos (starEach es X.env)).any (·.1) = false := by rfl)
    (ht : eval (.Call (.Attribute o m apos) (e :: es) [] pos) X.env = (do
      let ov ← eval o X.env
      standAt apos.atName
      let (f, first) ← holding [ov] (getMethod ov m pl)
      callWith pos f first (backTo pos (starEach (e :: es) X.env)) (backToKw pos (keywordEach [] X.env))) := by rfl) :
    DG X W (.Call (.Attribute o m apos) (e :: es) [] pos) (metG p c m f g) := by
  obtain ⟨C, fa, fd, hc, cl, me, Fn, bd⟩ := M.ex
  obtain ⟨t, pt, q⟩ := ho
  obtain ⟨u, pu, qu⟩ := ha
  refine ⟨_, pe_methSs (pl := pl) pt cl me Fn hr bd (fun σ => L2N.passAt tk σ) pu hst hpl ht, fun B τ σ H F Q s h => ?_⟩
  unfold metG at h
  cases z : p.get τ with
  | none => rw [z] at h; exact h.elim
  | some d =>
    rw [z] at h
    cases d <;> try exact h.elim
    rename_i c' fs
    dsimp only at h
    split at h
    · rename_i hcc
      obtain ⟨rfl, hn⟩ := hcc
      refine q B τ σ H F _ _ s z fun a at' => ?_
      obtain ⟨a0, dx, C1, vs, fp0, at2, m1, ha, r, _⟩ := s.fields (Ext.refl s.fh) z
      have ea := at'.inj at2
      subst ea
      rw [hc] at m1
      cases m1
      refine ⟨a, dx, vs, rfl, ha, r.lookNone (Option.isNone_iff_eq_none.mp hn), ?_⟩
      exact qu B τ σ H F _ s (FinG.expr s h fun ds us H1 F1 e1 p1 h1 => spM_of s e1 z at' p1 h1)
    · exact h.elim
theorem dg_meth0 {p : Plc} {pl : Sem Bool} (M : MtD X.prog X.w X.K X.mg X.base k c m ps f) (hr : Room k X.A) (tk : L2N.Takes X W) (ho : PlcE X p o)
    (ht : eval (.Call (.Attribute o m apos) [] [] pos) X.env = (do
      let ov ← eval o X.env
      standAt apos.atName
      let (f, first) ← holding [ov] (getMethod ov m pl)
      callWith pos f first (backTo pos (starEach [] X.env)) (backToKw pos (keywordEach [] X.env))) := by rfl) :
    DG X W (.Call (.Attribute o m apos) [] [] pos) (metG p c m f (fun _ => .ok [])) := by
  obtain ⟨C, fa, fd, hc, cl, me, Fn, bd⟩ := M.ex
  obtain ⟨t, pt, q⟩ := ho
  refine ⟨_, pe_methSs0 (pl := pl) pt cl me Fn hr bd (fun σ => L2N.passAt tk σ) ht, fun B τ σ H F Q s h => ?_⟩
  unfold metG at h
  cases z : p.get τ with
  | none => rw [z] at h; exact h.elim
  | some d =>
    rw [z] at h
    cases d <;> try exact h.elim
    rename_i c' fs
    dsimp only at h
    split at h
    · rename_i hcc
      obtain ⟨rfl, hn⟩ := hcc
      refine q B τ σ H F _ _ s z fun a at' => ?_
      obtain ⟨a0, dx, C1, vs, fp0, at2, m1, ha, r, _⟩ := s.fields (Ext.refl s.fh) z
      have ea := at'.inj at2
      subst ea
      rw [hc] at m1
      cases m1
      refine ⟨a, dx, vs, rfl, ha, r.lookNone (Option.isNone_iff_eq_none.mp hn), ?_⟩
      exact spM_of s (Ext.refl s.fh) z at' .nil h
    · exact h.elim

/-! f(o, ..) -/
structure FoD (P : Program) (w : World) (K : PySem.W.Frag) (mg : Str → Option Value) (base : Heap) (k : Nat) (x : Str) (ps : List Str) (m : D → List D → RM) : Prop where
  ex : ∃ f fd, FnOk P w K mg base (L2N.CX P w) k f fd ps (spM K mg m) ∧ mg x = some (.ref f) ∧ PySem.W.keepIn K (.ref f) = true ∧ Binds K fd ps []
def fioG (p : Plc) (f : D → List D → RM) (g : Tau → R (List D)) : Tau → RG := fun τ => match p.get τ with
  | some d => RG.of (g τ) τ fun ds => (f d ds).at p τ
  | none => .bad
theorem dg_fio {p : Plc} (M : FoD X.prog X.w X.K X.mg X.base k x ps f) (hr : Room k X.A) (tk : L2N.Takes X W) (hg : Gl X x) (ho : PlcE X p o) (ha : DAk X W es g)
    (hdb : (x == ("__debug__" : Str)) = false := by decide) (he : starEach (o :: es) X.env = (false, eval o X.env) :: starEach es X.env := by rfl) (hpl : (backTo pos (starEach es X.env)).any (·.1) = false := by rfl) :
    DG X W (.Call (.Name x p') (o :: es) [] pos) (fioG p f g) := by
  obtain ⟨fa, fd, G, hm, hk, hb⟩ := M.ex
  obtain ⟨t, pt, q⟩ := ho
  obtain ⟨u, pu, qu⟩ := ha
  refine ⟨_, pe_callS G hr hg hm hk hb (fun σ => L2N.passAt tk σ) (pa_cons pt pu he) hdb he hpl, fun B τ σ H F Q s h => ?_⟩
  unfold fioG at h
  cases z : p.get τ with
  | none => rw [z] at h; exact h.elim
  | some d =>
    rw [z] at h
    refine q B τ σ H F _ _ s z fun a at' => ?_
    exact qu B τ σ H F _ s (FinG.expr s h fun ds us H1 F1 e1 p1 h1 => spM_of s e1 z at' p1 h1)
end
end DL
end

section
set_option Elab.async false
set_option linter.all false
set_option maxRecDepth 100000
namespace DL
open PySem PySem.Spec PyProof.Rows L2

theorem passN {X : Cx} : Passes (L2N.CX X.prog X.w) X E0 := fun _ _ _ _ _ _ _ h => by
  obtain ⟨_, _, _, _, _, _, _, _, _, _, _, _, z⟩ := h
  exact z.elim
theorem takesN {X : Cx} : L2N.Takes X (fun _ _ _ _ => False) := fun _ _ x => by
  obtain ⟨_, _, _, _, _, _, _, _, _, _, _, _, _, _, _, _, z⟩ := x
  exact z.elim
/-- behind a call that was told a fresh thing -/
theorem SR.fresh {K : PySem.W.Frag} {mg : Str → Option Value} {H F H2 F2 H' F' : Hp} {a : Addr} {fp : List Addr} {σ : St} {τ : List Sl} (e : Ext H F H2 F2) (hf : ∀ b ∈ fp, H b = none) (t : SR K mg (ioB H2 F2 a fp) H' F' σ τ) : Ext H F H' F' :=
  ⟨fun b o hb => t.keep b o (e.hh b o hb) (fun q => by rw [hf b q] at hb; cases hb), e.ff.trans t.ff0, t.fh, fun b hb => (t.new b hb).elim (e.new b) fun z => .inr (z.same e.hh)⟩
/-- what the second slot tells -/
theorem SR.slot1 {K : PySem.W.Frag} {mg : Str → Option Value} {H H2 F2 H' F' : Hp} {a : Addr} {fp : List Addr} {x : Option V} {v : V} {d' : D} {s : Sl} (e : Same H H2) (t : SR K mg (ioB H2 F2 a fp) H' F' [x, some v] [.io d', s]) (hs : s.isIo = false) (hn : s.isBw = false) (hu : s ≠ .un) : Br K mg H H' F' v s := by
  obtain ⟨fq, h1, _, _⟩ := t.slots
  have ok := h1 1 s rfl
  cases s with
  | un => exact absurd rfl hu
  | bw d => cases hn
  | io d => cases hs
  | sh d =>
    obtain ⟨_, v', e1, rp⟩ := ok
    have : some v = some v' := e1
    cases this
    exact rp
  | ow d =>
    obtain ⟨a', e1, o, n, q⟩ := ok
    have : some v = some (V.ref a') := e1
    cases this
    exact ⟨a', fq 1, rfl, o, n, fun b hb => ⟨(q b hb).1, e.free (q b hb).2⟩⟩

/-! ### C(..) -/
structure MkD (P : Program) (w : World) (K : PySem.W.Frag) (mg : Str → Option Value) (base : Heap) (k : Nat) (c : Str) (ps : List Str) (f : D → List D → RM) : Prop where
  ex : ∃ C g fd, mg c = some (.ref C) ∧ Mk K C g ∧ FnOk P w K mg base (L2N.CX P w) k g fd ps (spM K mg f) ∧ Binds K fd ps []
def mkR (r : RM) : R Sl := match r with
  | .ok (.sh .non) d => .ok (.ow d)
  | _ => .bad
def newD (c : Str) (f : D → List D → RM) (g : Tau → R (List D)) : Tau → R Sl := fun τ => (g τ).bind fun ds => mkR (f (.obj c []) ds)
section
variable {X : Cx} {W : WX} {k : Nat} {c m x : Str} {ps : List Str} {f : D → List D → RM} {o e : Expr} {es : List Expr} {g : Tau → R (List D)} {pos apos p' : Pos}
theorem dp_make (M : MkD X.prog X.w X.K X.mg X.base k c ps f) (hr : Room (k + 1) X.A) (hg : Gl X c) (ha : DAk X W (e :: es) g)
    (hdb : (c == ("__debug__" : Str)) = false := by decide) (he : starEach (e :: es) X.env = (false, eval e X.env) :: starEach es X.env := by rfl) (hpl : (backTo pos (starEach es X.env)).any (·.1) = false := by rfl) :
    DP X W (.Call (.Name c p') (e :: es) [] pos) (newD c f g) := by
  obtain ⟨C, fa, fd, hc, mk, Fn, bd⟩ := M.ex
  obtain ⟨u, pu, qu⟩ := ha
  refine ⟨_, pe_make (dvs := []) (ds := []) mk Fn hr hg hc bd .nil passN pu hdb he hpl, fun B τ σ H F Q s h => qu B τ σ H F _ s (h.seq fun ds vs H1 F1 e1 p1 h1 => ?_)⟩
  intro x dx hx hdx hne
  have hfx : F1 x = none := e1.fh.free hx
  have hfd : F1 dx = none := e1.fh.free hdx
  have sm : Same H1 (upd (upd H1 dx (.own x)) x (.ins C dx [])) := fun b o hb => by
    rw [upd_ne (ne_of_none hb hx), upd_ne (ne_of_none hb hdx)]; exact hb
  refine ⟨F1, x, [x, dx], vs, .obj c [], ds, by rw [List.append_nil], e1.fh.trans sm, p1, .obj hc upd_same (by rw [upd_ne hne, upd_same]) .nil, by simp [Ne.symm hne], fun b hb => ?_, ?_⟩
  · have hb' : b = x ∨ b = dx := by simpa using hb
    rcases hb' with rfl | rfl
    · exact hfx
    · exact hfd
  · cases q : f (.obj c []) ds with
    | bad => rw [q] at h1; exact h1.elim
    | er c d' => rw [q] at h1; exact h1.elim
    | ok s d' =>
      rw [q] at h1
      cases s <;> try exact h1.elim
      rename_i dd
      cases dd <;> try exact h1.elim
      intro v H' F' t
      have h1' : ∀ v H' F', Ext H1 F1 H' F' → Br X.K X.mg H H' F' v (.ow d') → Q v H' := h1
      have hnew : ∀ b ∈ [x, dx], H1 b = none := fun b hb => by
        have hb' : b = x ∨ b = dx := by simpa using hb
        rcases hb' with rfl | rfl
        · exact hx
        · exact hdx
      have ex : Ext H1 F1 H' F' := t.fresh (H := H1) (F := F1) ⟨sm, Same.refl _, e1.fh.trans sm, fun b hb => .inl hb⟩ hnew
      have b1 : Br X.K X.mg H1 H' F' v (.sh .non) := t.slot1 sm rfl rfl (fun q => by cases q)
      have ev : v = .non := by cases (show Rep X.K F' v .non from b1); rfl
      refine ⟨ev, h1' (.ref x) H' F' ex ?_⟩
      obtain ⟨fq, hs, _, _⟩ := t.slots
      obtain ⟨a', e3, e4, ow, nd, ap⟩ := hs 0 _ rfl
      have : some (V.ref x) = some (V.ref a') := e3
      cases this
      refine ⟨x, fq 0, rfl, ow, nd, fun b hb => ⟨(ap b hb).1, ?_⟩⟩
      have : H1 b = none := by
        rcases (ap b hb).2 with z | z
        · exact sm.free z
        · exact hnew b z
      exact e1.hh.free this
/-! ### C(..).m(..) -/
def slKeep (s : Sl) : R Sl := match s with
  | .sh d => .ok (.sh d)
  | .ow d => .ok (.ow d)
  | _ => .bad
def rmD (r : RM) : R Sl := match r with
  | .ok s _ => slKeep s
  | .er c _ => .er c
  | .bad => .bad
def tmpM (c m : Str) (f : D → List D → RM) (g0 : Tau → R Sl) (g : Tau → R (List D)) : Tau → R Sl := fun τ => (g0 τ).bind fun s => match s with
  | .ow (.obj c' fs) => if c' = c ∧ (flook fs m).isNone then (g τ).bind fun ds => rmD (f (.obj c' fs) ds) else .bad
  | _ => .bad
theorem dp_tmp {pl : Sem Bool} {g0 : Tau → R Sl} (M : MtD X.prog X.w X.K X.mg X.base k c m ps f) (hr : Room k X.A) (tk : L2N.Takes X W) (ho : DP X W o g0) (ha : DAk X W (e :: es) g)
    (hst : starEach (e :: es) X.env = (false, eval e X.env) :: starEach es X.env := by rfl) (hpl : (backTo pos (starEach es X.env)).any (·.1) = false := by rfl)
    (ht : eval (.Call (.Attribute o m apos) (e :: es) [] pos) X.env = (do
      let ov ← eval o X.env
      standAt apos.atName
      let (f, first) ← holding [ov] (getMethod ov m pl)
      callWith pos f first (backTo pos (starEach (e :: es) X.env)) (backToKw pos (keywordEach [] X.env))) := by rfl) :
    DP X W (.Call (.Attribute o m apos) (e :: es) [] pos) (tmpM c m f g0 g) := by
  obtain ⟨C, fa, fd, hc, cl, me, Fn, bd⟩ := M.ex
  obtain ⟨t, pt, q⟩ := ho
  obtain ⟨u, pu, qu⟩ := ha
  refine ⟨_, pe_methSs (pl := pl) pt cl me Fn hr bd (fun σ => L2N.passAt tk σ) pu hst hpl ht, fun B τ σ H F Q s h => q B τ σ H F _ s ?_⟩
  unfold tmpM at h
  cases z0 : g0 τ with
  | bad => rw [z0] at h; exact h
  | er c => rw [z0] at h; exact h
  | ok sl =>
    rw [z0, R.bind_ok] at h
    intro v H1 F1 e1 p1
    cases sl <;> try exact h.elim
    rename_i d
    cases d <;> try exact h.elim
    rename_i c' fs
    obtain ⟨hcc, h2⟩ := Fin.ite (C := c' = c ∧ (flook fs m).isNone) h
    obtain ⟨rfl, hn⟩ := hcc
    obtain ⟨a, fp, rfl, ow, nd, ap⟩ := p1
    have s1 := s.ext e1
    cases ow with
    | @obj _ dx C1 _ vs _ fp0 m1 ha hdx r =>
      rw [hc] at m1
      cases m1
      refine ⟨a, dx, vs, rfl, ha, r.lookNone (Option.isNone_iff_eq_none.mp hn), ?_⟩
      have ow : Own X.K X.mg H1 F1 (.obj c' fs) a (a :: dx :: fp0) := .obj hc ha hdx r
      refine qu B τ σ H1 F1 _ s1 ?_
      cases z1 : g τ with
      | bad => rw [z1] at h2; exact h2
      | er c => rw [z1] at h2; exact fun H' e => h2 H' (e1.hh.trans e)
      | ok ds =>
        rw [z1, R.bind_ok] at h2
        intro us H2 F2 e2 p2
        refine ⟨F2, a, _, us, _, ds, rfl, e2.fh, p2, e2.own ow, nd, ow.apart e2 (fun b hb => (ap b hb).1), ?_⟩
        have e12 := e1.trans e2
        have fr : ∀ b ∈ a :: dx :: fp0, H b = none := fun b hb => (ap b hb).2
        cases z : f (.obj c' fs) ds with
        | bad => rw [z] at h2; exact h2
        | er c d' => rw [z] at h2; exact fun H' F' t => h2 H' (t.fresh e12 fr).hh
        | ok s' d' =>
          rw [z] at h2
          intro v H' F' t
          have hx := t.fresh e12 fr
          cases s' with
          | sh d => exact h2 v H' F' hx (t.slot1 e12.hh rfl rfl (fun q => by cases q))
          | ow d => exact h2 v H' F' hx (t.slot1 e12.hh rfl rfl (fun q => by cases q))
          | un => exact h2.elim
          | io d => exact h2.elim
          | bw d => exact h2.elim
end
/-! ### a def, by its body -/
def initT (n : Nat) (ds : List D) : Tau := ds.map .sh ++ List.replicate (n - ds.length) .un
/-- a def's outcome -/
def Fl.res (r : Fl) : R Sl := match r with
  | .nx _ => .ok (.sh .non)
  | .rt s _ => slKeep s
  | .er c _ => .er c
  | .bad => .bad
def runF (n np : Nat) (b : FS) : List D → R Sl := fun ds => if ds.length = np then (b (initT n ds)).res else .bad
theorem initT_length {n : Nat} {ds : List D} (h : ds.length ≤ n) : (initT n ds).length = n := by
  unfold initT
  rw [List.length_append, List.length_map, List.length_replicate]
  omega
theorem initT_get {n : Nat} {ds : List D} {i : Nat} {s : Sl} (h : (initT n ds)[i]? = some s) : (∃ d, ds[i]? = some d ∧ s = .sh d) ∨ (ds.length ≤ i ∧ s = .un) := by
  unfold initT at h
  by_cases hi : i < ds.length
  · rw [List.getElem?_append_left (by rw [List.length_map]; exact hi), List.getElem?_map] at h
    cases z : ds[i]? with
    | none => rw [z] at h; cases h
    | some d => rw [z] at h; cases h; exact .inl ⟨d, rfl, rfl⟩
  · rw [List.getElem?_append_right (by rw [List.length_map]; omega)] at h
    have := List.mem_of_getElem? h
    exact .inr ⟨by omega, (List.mem_replicate.mp this).2⟩
theorem start_get {N : List Str} {vs : List V} {i : Nat} {v : V} (h : vs[i]? = some v) : (L2.start N vs)[i]?.join = some v := by
  unfold L2.start
  have hi := (List.getElem?_eq_some_iff.mp h).1
  rw [List.getElem?_append_left (by rw [List.length_map]; exact hi), List.getElem?_map, h]
  rfl
theorem start_len {N : List Str} {vs : List V} (h : vs.length ≤ N.length) : (L2.start N vs).length = N.length := by
  unfold L2.start
  rw [List.length_append, List.length_map, List.length_replicate]
  omega
def noB (H F : Hp) : Base := ⟨H, F, fun _ => False, fun _ => none⟩
theorem SR.init {K : PySem.W.Frag} {mg : Str → Option Value} {H F : Hp} {N : List Str} {vs : List V} {ds : List D} (s : Same F H) (r : RepL K F vs ds) (h : ds.length ≤ N.length) : SR K mg (noB H F) H F (L2.start N vs) (initT N.length ds) := by
  refine ⟨fun a o e _ => e, fun a o e => ⟨o, e, rfl⟩, Same.refl _, s, fun a e => .inl e, by rw [initT_length h, start_len (by rw [r.length]; exact h)], fun _ => [], fun i sl q => ?_, fun _ _ => rfl, fun i j a ha => by cases ha⟩
  rcases initT_get q with ⟨d, e, rfl⟩ | ⟨_, rfl⟩
  · obtain ⟨v, ev, rp⟩ := r.get e
    exact ⟨rfl, v, start_get ev, rp⟩
  · exact rfl
theorem SR.noExt {K : PySem.W.Frag} {mg : Str → Option Value} {H F H' F' : Hp} {σ : St} {τ : List Sl} (r : SR K mg (noB H F) H' F' σ τ) : Ext H F H' F' := ⟨fun a o e => r.keep a o e (fun q => q), r.ff0, r.fh, r.new⟩
theorem SR.noBr {K : PySem.W.Frag} {mg : Str → Option Value} {H F H' F' : Hp} {σ : St} {τ : List Sl} {v : V} {s : Sl} (r : SR K mg (noB H F) H' F' (σ ++ [some v]) (τ ++ [s])) (hu : s ≠ .un) : Br K mg H H' F' v s := by
  have hl : σ.length = τ.length := by
    have := r.len
    rw [List.length_append, List.length_append] at this
    exact Nat.add_right_cancel this
  obtain ⟨fp, ok⟩ := r.get (i := τ.length) (s := s) (by rw [List.getElem?_append_right (Nat.le_refl _), Nat.sub_self]; rfl)
  rw [List.getElem?_append_right (by omega), hl, Nat.sub_self] at ok
  cases s with
  | un => exact absurd rfl hu
  | bw d => exact ok.elim
  | io d =>
    obtain ⟨_, _, e, _⟩ := ok
    cases e
  | sh d =>
    obtain ⟨_, v', e1, rp⟩ := ok
    have : some v = some v' := e1
    cases this
    exact rp
  | ow d =>
    obtain ⟨a', e1, o, n, q⟩ := ok
    have : some v = some (V.ref a') := e1
    cases this
    exact ⟨a', fp, rfl, o, n, q⟩
section
variable {P : Program} {w : World} {K : PySem.W.Frag} {mg : Str → Option Value} {base : Heap} {x qual : Str} {params : Arguments} {body : List Stmt} {scope : Scope} {f : Addr} {fd : FuncData} {N ps : List Str} {k : Nat} {b : FS}
abbrev CxD (P : Program) (w : World) (K : PySem.W.Frag) (mg : Str → Option Value) (base : Heap) (N : List Str) (qual : Str) (scope : Scope) (f : Addr) (cdv : Value) (A : Around) (outer : List Env) (s : Shared) (H : Hp) (E : XK) : Cx := cxOf (L2N.CX P w) P w K mg base N qual scope f cdv A outer s H E
abbrev WofE (E : XK) : WX := fun c d _ H => E c d H
/-- the body of a def keeps its mirror -/
def Body (P : Program) (w : World) (K : PySem.W.Frag) (mg : Str → Option Value) (base : Heap) (k : Nat) (N : List Str) (qual : Str) (scope : Scope) (body : List Stmt) (b : FS) : Prop :=
  ∀ (f : Addr) (cdv : Value) (A : Around) (outer : List Env) (s : Shared) (H : Hp) (E : XK), Room k (A.deeper (envOfC qual scope s.heap.objs.size f cdv)) → DSs (CxD P w K mg base N qual scope f cdv A outer s H E) (WofE E) body b
theorem fn_body (Fn : FunD K x qual params body scope [] [] f fd) (S : FnScope N ps scope) (hp : ps.length ≤ N.length) (hb : Body P w K mg base k N qual scope body b) :
    FnOk P w K mg base (L2N.CX P w) (k + 1) f fd ps (spD K mg (runF N.length ps.length b)) := by
  refine Fn.ok S (fun vs H Q E h => ?_) (fun cdv A outer s H vs Q E hr h => ?_)
  · obtain ⟨F, ds, _, r, h⟩ := h
    have h' : Fin mg (fun c d _ H' => E c d H') [] H F (if ds.length = ps.length then (b (initT N.length ds)).res else .bad) (fun s v H' F' => Br K mg H H' F' v s) Q := h
    split at h'
    · rw [r.length]; assumption
    · exact h'.elim
  · obtain ⟨F, ds, sm, r, h⟩ := h
    have h' : Fin mg (fun c d _ H' => E c d H') [] H F (if ds.length = ps.length then (b (initT N.length ds)).res else .bad) (fun s v H' F' => Br K mg H H' F' v s) Q := h
    split at h'
    · rename_i hl
      obtain ⟨t, pt, q⟩ := hb f cdv A outer s H E hr
      refine ⟨t, pt, q (noB H F) (initT N.length ds) (L2.start N vs) H F _ (SR.init sm r (by omega)) ?_⟩
      cases z : b (initT N.length ds) with
      | bad => rw [z] at h'; exact h'
      | nx τ => rw [z] at h'; exact fun σ' H' F' e t => h' .non H' F' t.noExt (show Rep _ _ _ _ from .non)
      | er c τ => rw [z] at h'; exact fun σ' H' F' e t => h' H' t.noExt.hh
      | rt s τ =>
        rw [z] at h'
        intro v σ' H' F' e t
        cases s with
        | sh d => exact h' v H' F' t.noExt (t.noBr (fun q => by cases q))
        | ow d => exact h' v H' F' t.noExt (t.noBr (fun q => by cases q))
        | un => exact h'.elim
        | io d => exact h'.elim
        | bw d => exact h'.elim
    · exact h'.elim
/-- .. one that changes its first argument -/
def Fl.resM (r : Fl) : RM := match r with
  | .nx τ => (match τ with
    | .io d :: _ => .ok (.sh .non) d
    | _ => .bad)
  | .rt s τ => (match τ with
    | .io d :: _ => (match s with
      | .sh x => .ok (.sh x) d
      | .ow x => .ok (.ow x) d
      | _ => .bad)
    | _ => .bad)
  | .er c τ => (match τ with
    | .io d :: _ => .er c d
    | _ => .bad)
  | .bad => .bad
def runM (n np : Nat) (b : FS) : D → List D → RM := fun d ds => if ds.length + 1 = np then (b (.io d :: initT (n - 1) ds)).resM else .bad
theorem SR.initM {K : PySem.W.Frag} {mg : Str → Option Value} {H F : Hp} {N : List Str} {a : Addr} {fp : List Addr} {vs : List V} {d : D} {ds : List D} (s : Same F H) (o : Own K mg H F d a fp) (nd : fp.Nodup) (ap : ∀ b ∈ fp, F b = none) (r : RepL K F vs ds) (h : ds.length + 1 ≤ N.length) :
    SR K mg (ioB H F a fp) H F (L2.start N (.ref a :: vs)) (.io d :: initT (N.length - 1) ds) := by
  have hv : (V.ref a :: vs).length = ds.length + 1 := congrArg (· + 1) r.length
  refine ⟨fun a o e _ => e, fun a o e => ⟨o, e, rfl⟩, Same.refl _, s, fun a e => .inl e, by rw [List.length_cons, initT_length (by omega), start_len (by omega)]; omega, fun j => if j = 0 then fp else [], fun i sl q => ?_, fun i q => ?_, fun i j b ha hb => ?_⟩
  · cases i with
    | zero =>
      cases q
      exact ⟨a, start_get rfl, rfl, o, nd, fun b hb => ⟨ap b hb, .inr hb⟩⟩
    | succ i =>
      rcases initT_get (show (initT (N.length - 1) ds)[i]? = some sl from q) with ⟨d, e, rfl⟩ | ⟨_, rfl⟩
      · obtain ⟨v, ev, rp⟩ := r.get e
        exact ⟨rfl, v, start_get (show (V.ref a :: vs)[i + 1]? = some v from ev), rp⟩
      · exact rfl
  · cases i with
    | zero => cases q
    | succ i => exact rfl
  · dsimp only at ha hb
    by_cases hi : i = 0
    · by_cases hj : j = 0
      · rw [hi, hj]
      · rw [if_neg hj] at hb; cases hb
    · rw [if_neg hi] at ha; cases ha
/-- the first slot and the last one alone -/
theorem SR.two {K : PySem.W.Frag} {mg : Str → Option Value} {H F H' F' : Hp} {a : Addr} {fp : List Addr} {σ : St} {τ : List Sl} {v : V} {s : Sl} {d : D} (r : SR K mg (ioB H F a fp) H' F' (σ ++ [some v]) (τ ++ [s])) (h0 : τ[0]? = some (.io d)) (hs : s.isIo = false) :
    SR K mg (ioB H F a fp) H' F' [some (.ref a), some v] [.io d, s] := by
  have hl : σ.length = τ.length := by
    have := r.len
    rw [List.length_append, List.length_append] at this
    exact Nat.add_right_cancel this
  have hp : 0 < τ.length := (List.getElem?_eq_some_iff.mp h0).1
  obtain ⟨fq, h1, h2, h3⟩ := r.slots
  have ok0 := h1 0 (.io d) (by rw [List.getElem?_append_left hp]; exact h0)
  rw [List.getElem?_append_left (by omega)] at ok0
  have ok1 := h1 τ.length s (by rw [List.getElem?_append_right (Nat.le_refl _), Nat.sub_self]; rfl)
  rw [List.getElem?_append_right (by omega), hl, Nat.sub_self] at ok1
  refine ⟨r.keep, r.live, r.ff0, r.fh, r.new, rfl, fun j => if j = 0 then fq 0 else if j = 1 then fq τ.length else [], fun j s' q => ?_, fun j q => ?_, fun i j b ha hb => ?_⟩
  · match j, q with
    | 0, q =>
      cases q
      obtain ⟨a', e1, e2, o⟩ := ok0
      have e2' : some (V.ref a) = some (V.ref a') := e2
      cases e2'
      exact ⟨a, rfl, rfl, o⟩
    | 1, q =>
      cases q
      cases s with
      | un => exact ok1
      | sh d => exact ok1
      | ow d => exact ok1
      | bw d => exact ok1
      | io d => cases hs
    | j + 2, q => cases q
  · match j, q with
    | 0, q => cases q
    | 1, q => cases q
    | j + 2, q => exact rfl
  · dsimp only at ha hb
    by_cases hi : i = 0
    · rw [if_pos hi] at ha
      by_cases hj : j = 0
      · rw [hi, hj]
      · rw [if_neg hj] at hb
        by_cases hj1 : j = 1
        · rw [if_pos hj1] at hb
          have := h3 _ _ b ha hb
          omega
        · rw [if_neg hj1] at hb; cases hb
    · rw [if_neg hi] at ha
      by_cases hi1 : i = 1
      · rw [if_pos hi1] at ha
        by_cases hj : j = 0
        · rw [if_pos hj] at hb
          have := h3 _ _ b ha hb
          omega
        · rw [if_neg hj] at hb
          by_cases hj1 : j = 1
          · rw [hi1, hj1]
          · rw [if_neg hj1] at hb; cases hb
      · rw [if_neg hi1] at ha; cases ha
theorem SR.one {K : PySem.W.Frag} {mg : Str → Option Value} {H F H' F' : Hp} {a : Addr} {fp : List Addr} {σ : St} {τ : List Sl} {d : D} (r : SR K mg (ioB H F a fp) H' F' σ τ) (h0 : τ[0]? = some (.io d)) : SR K mg (ioB H F a fp) H' F' [some (.ref a)] [.io d] :=
  SR.pop (σ := [some (.ref a)]) (τ := [.io d]) (x := some .non) (s := .sh .non) ((r.push (Ext.refl r.fh) (v := .non) (s := .sh .non) (show Rep _ _ _ _ from .non) (fun d q => by cases q)).two h0 rfl)
theorem fn_bodyM (Fn : FunD K x qual params body scope [] [] f fd) (S : FnScope N ps scope) (hp : ps.length ≤ N.length) (hb : Body P w K mg base k N qual scope body b) :
    FnOk P w K mg base (L2N.CX P w) (k + 1) f fd ps (spM K mg (runM N.length ps.length b)) := by
  refine Fn.ok S (fun vs H Q E h => ?_) (fun cdv A outer s H vs Q E hr h => ?_)
  · obtain ⟨F, a, fp, rest, d, ds, rfl, sm, r, ow, nd, ap, h⟩ := h
    by_cases hl : ds.length + 1 = ps.length
    · rw [← hl]
      exact congrArg (· + 1) r.length
    · rw [runM, if_neg hl] at h
      exact h.elim
  · obtain ⟨F, a, fp, rest, d, ds, rfl, sm, r, ow, nd, ap, h⟩ := h
    by_cases hl : ds.length + 1 = ps.length
    · rw [runM, if_pos hl] at h
      obtain ⟨t, pt, q⟩ := hb f cdv A outer s H E hr
      refine ⟨t, pt, q (ioB H F a fp) _ (L2.start N (.ref a :: rest)) H F _ (SR.initM sm ow nd ap r (by omega)) ?_⟩
      cases z : b (.io d :: initT (N.length - 1) ds) with
      | bad => rw [z] at h; exact h
      | nx τ =>
        rw [z] at h
        unfold Fl.resM at h
        dsimp only at h
        intro σ' H' F' e t
        cases τ with
        | nil => exact h.elim
        | cons s0 τ =>
          cases s0 <;> try exact h.elim
          have z0 : ∀ d, (Sl.io d :: τ)[0]? = some (Sl.io d) := fun _ => rfl
          exact h .non H' F' ((t.push (Ext.refl t.fh) (v := .non) (s := .sh .non) (show Rep _ _ _ _ from .non) (fun d q => by cases q)).two (z0 _) rfl)
      | er c τ =>
        rw [z] at h
        unfold Fl.resM at h
        dsimp only at h
        intro σ' H' F' e t
        cases τ with
        | nil => exact h.elim
        | cons s0 τ =>
          cases s0 <;> try exact h.elim
          have z0 : ∀ d, (Sl.io d :: τ)[0]? = some (Sl.io d) := fun _ => rfl
          exact h H' F' (t.one (z0 _))
      | rt s τ =>
        rw [z] at h
        unfold Fl.resM at h
        dsimp only at h
        intro v σ' H' F' e t
        cases τ with
        | nil => exact h.elim
        | cons s0 τ =>
          cases s0 <;> try exact h.elim
          have z0 : ∀ d, (Sl.io d :: τ)[0]? = some (Sl.io d) := fun _ => rfl
          cases s with
          | sh d => exact h v H' F' (t.two (z0 _) rfl)
          | ow d => exact h v H' F' (t.two (z0 _) rfl)
          | un => exact h.elim
          | io d => exact h.elim
          | bw d => exact h.elim
    · rw [runM, if_neg hl] at h
      exact h.elim
end
end DL
end

section
set_option Elab.async false
set_option linter.all false
set_option maxRecDepth 100000
namespace DL
open PySem PySem.Spec PyProof.Rows L2

/-! ### what is iterated -/
/-- the iterator J goes over ds -/
def OverD (K : PySem.W.Frag) (J : It) (ds : List D) (F : Hp) : Prop := ∀ (i : Nat) (H F' : Hp), Same F F' → Same F' H → (i < ds.length → J.go i H ∧ ∀ x H', J.yld i H x H' → H' = H ∧ ∃ F'' d, Ext H F' H F'' ∧ ds[i]? = some d ∧ Rep K F'' x d) ∧ (ds.length ≤ i → J.stop i H)
def Over (J : It) (vs : List V) (F : Hp) : Prop := ∀ (i : Nat) (H F' : Hp), Same F F' → Same F' H → (i < vs.length → J.go i H ∧ ∀ x H', J.yld i H x H' → H' = H ∧ vs[i]? = some x) ∧ (vs.length ≤ i → J.stop i H)
theorem Over.d {K : PySem.W.Frag} {J : It} {vs : List V} {ds : List D} {F : Hp} (h : Over J vs F) (r : RepL K F vs ds) : OverD K J ds F := by
  intro i H F' e1 e2
  obtain ⟨h1, h2⟩ := h i H F' e1 e2
  rw [r.length] at h1 h2
  refine ⟨fun hi => ⟨(h1 hi).1, fun x H' y => ?_⟩, h2⟩
  obtain ⟨e, ev⟩ := (h1 hi).2 x H' y
  obtain ⟨d, ed, rd⟩ := r.getV ev
  exact ⟨e, F', d, Ext.refl e2, ed, rd.mono e1⟩
def DI (X : Cx) (W : WX) (tg e : Expr) (f : Tau → R (List D)) : Prop := ∃ t : TI, PI X tg e t ∧ ∀ B τ σ H F (Q : It → Hp → Prop), SR X.K X.mg B H F σ τ → Fin X.mg W σ H F (f τ) (fun ds J _ F' => OverD X.K J ds F') Q → t σ H Q
/-- a list, a tuple -/
def itL (d : D) : R (List D) := match d with
  | .lst ds => .ok ds
  | _ => .bad
def itT (d : D) : R (List D) := match d with
  | .tup ds => .ok ds
  | _ => .bad
def chs (x : Str) : List D := x.cps.toList.map fun c => .str ⟨#[c]⟩
def itS (d : D) : R (List D) := match d with
  | .str x => .ok (chs x)
  | _ => .bad
def iL (f : Tau → R D) : Tau → R (List D) := fun τ => (f τ).bind itL
def iT (f : Tau → R D) : Tau → R (List D) := fun τ => (f τ).bind itT
def iS (f : Tau → R D) : Tau → R (List D) := fun τ => (f τ).bind itS
def rngD (lo : Int) (n : Nat) : List D := (List.range n).map fun (k : Nat) => .int (lo + (k : Int))
def iR1 (f : Tau → R D) : Tau → R (List D) := fun τ => (f τ).bind fun d => match d with
  | .int j => if -(2 ^ 62) ≤ j ∧ j < 2 ^ 62 then .ok (rngD 0 j.toNat) else .bad
  | _ => .bad
def iR2 (f g : Tau → R D) : Tau → R (List D) := fun τ => (f τ).bind fun d => (g τ).bind fun e => match d with
  | .int i => (match e with
    | .int j => if -(2 ^ 62) ≤ i ∧ i < 2 ^ 62 ∧ -(2 ^ 62) ≤ j ∧ j < 2 ^ 62 then .ok (rngD i (j - i).toNat) else .bad
    | _ => .bad)
  | _ => .bad
section
variable {X : Cx} {W : WX} {tg e e2 : Expr} {f g : Tau → R D} {p pos : Pos}
theorem over_list {K : PySem.W.Frag} {a : Addr} {vs : List V} {F : Hp} (h : SqL K F a vs) : Over (Itl K a) vs F := by
  intro i H F' e1 e2
  have h' := (e1.trans e2).seq h
  refine ⟨fun hi => ⟨⟨vs, vs[i], h', by simp [hi]⟩, fun x H' y => ⟨y.1, y.2 vs h'⟩⟩, fun hi => ⟨vs, h', hi⟩⟩
theorem over_tup {K : PySem.W.Frag} {a : Addr} {vs : List V} {F : Hp} (h : F a = some (.tup vs)) : Over (Itt K a) vs F := by
  intro i H F' e1 e2
  have h' : SqT K H a vs := SqT.of ((e1.trans e2) _ _ h)
  refine ⟨fun hi => ⟨⟨vs, vs[i], h', by simp [hi]⟩, fun x H' y => ⟨y.1, y.2 vs h'⟩⟩, fun hi => ⟨vs, h', hi⟩⟩
theorem over_str {x : Str} {F : Hp} : Over (Its x) (x.cps.toList.map fun c => V.str ⟨#[c]⟩) F := by
  intro i H F' e1 e2
  refine ⟨fun hi => ?_, fun hi => ?_⟩
  · rw [List.length_map] at hi
    refine ⟨show i < x.cps.size by simpa using hi, fun v H' y => ?_⟩
    obtain ⟨e, c, hc, rfl⟩ := y
    refine ⟨e, ?_⟩
    rw [List.getElem?_map, Array.getElem?_toList, hc]
    rfl
  · rw [List.length_map] at hi
    show x.cps.size ≤ i
    simpa using hi
theorem over_rng {lo : Int} {n : Nat} {F : Hp} : Over (Itr lo n) ((List.range n).map fun (k : Nat) => V.int (lo + (k : Int))) F := by
  intro i H F' e1 e2
  refine ⟨fun hi => ?_, fun hi => ?_⟩
  · rw [List.length_map, List.length_range] at hi
    refine ⟨hi, fun v H' y => ?_⟩
    obtain ⟨e, rfl⟩ := y
    refine ⟨e, ?_⟩
    rw [List.getElem?_map, List.getElem?_range hi]
    rfl
  · rw [List.length_map, List.length_range] at hi
    exact hi
theorem repL_map {K : PySem.W.Frag} {F : Hp} {α : Type} (f : α → V) (g : α → D) (h : ∀ a, Rep K F (f a) (g a)) : ∀ l : List α, RepL K F (l.map f) (l.map g)
  | [] => .nil
  | a :: l => .cons (h a) (repL_map f g h l)
theorem di_list (h : DV X W e f) : DI X W tg e (iL f) := by
  obtain ⟨t, pt, q⟩ := h
  refine ⟨_, pi_list pt, fun B τ σ H F Q s h => q B τ σ H F _ s (h.seq fun d v H1 F1 e1 p1 h1 => ?_)⟩
  cases d <;> try exact h1.elim
  rename_i ds
  cases p1 with
  | lst hv r => exact ⟨_, rfl, ⟨_, e1.fh.seq hv⟩, h1 _ H1 F1 (Ext.refl e1.fh) ((over_list hv).d r)⟩
theorem di_tup (h : DV X W e f) : DI X W tg e (iT f) := by
  obtain ⟨t, pt, q⟩ := h
  refine ⟨_, pi_tup pt, fun B τ σ H F Q s h => q B τ σ H F _ s (h.seq fun d v H1 F1 e1 p1 h1 => ?_)⟩
  cases d <;> try exact h1.elim
  rename_i ds
  cases p1 with
  | tup hv r => exact ⟨_, rfl, ⟨_, SqT.of (e1.fh _ _ hv)⟩, h1 _ H1 F1 (Ext.refl e1.fh) ((over_tup hv).d r)⟩
theorem di_str (h : DV X W e f) : DI X W tg e (iS f) := by
  obtain ⟨t, pt, q⟩ := h
  refine ⟨_, pi_str pt, fun B τ σ H F Q s h => q B τ σ H F _ s (h.seq fun d v H1 F1 e1 p1 h1 => ?_)⟩
  cases d <;> try exact h1.elim
  rename_i x
  cases p1
  exact ⟨x, rfl, h1 _ H1 F1 (Ext.refl e1.fh) (over_str.d (repL_map _ _ (fun c => .str _) _))⟩
/-- a list, a tuple, a text -/
def itA (d : D) : R (List D) := match d with
  | .lst ds => .ok ds
  | .tup ds => .ok ds
  | .str x => .ok (chs x)
  | _ => .bad
def iA (f : Tau → R D) : Tau → R (List D) := fun τ => (f τ).bind itA
theorem pi_or {a b : TI} (ha : PI X tg e a) (hb : PI X tg e b) : PI X tg e (fun σ H R => a σ H R ∨ b σ H R) :=
  ⟨fun pins s σ H R I h => h.elim (ha.run pins s σ H R I) (hb.run pins s σ H R I)⟩
theorem di_any (h : DV X W e f) : DI X W tg e (iA f) := by
  obtain ⟨t1, p1, q1⟩ := di_list (tg := tg) h
  obtain ⟨t2, p2, q2⟩ := di_tup (tg := tg) h
  obtain ⟨t3, p3, q3⟩ := di_str (tg := tg) h
  refine ⟨_, pi_or p1 (pi_or p2 p3), fun B τ σ H F Q s h => ?_⟩
  unfold iA at h
  cases z : f τ with
  | er c => refine .inl (q1 B τ σ H F Q s ?_); unfold iL; rw [z]; rw [z] at h; exact h
  | bad => rw [z] at h; exact h.elim
  | ok d =>
    rw [z] at h
    cases d <;> try exact h.elim
    · refine .inr (.inr (q3 B τ σ H F Q s ?_)); unfold iS; rw [z]; exact h
    · refine .inr (.inl (q2 B τ σ H F Q s ?_)); unfold iT; rw [z]; exact h
    · refine .inl (q1 B τ σ H F Q s ?_); unfold iL; rw [z]; exact h
theorem di_rng1 (hg : Gl X "range") (hm : X.mg "range" = none) (h : DV X W e f) (hs : starEach [e] X.env = [(false, eval e X.env)] := by rfl) : DI X W tg (.Call (.Name "range" p) [e] [] pos) (iR1 f) := by
  obtain ⟨t, pt, q⟩ := h
  refine ⟨_, pi_range1 hg hm (pa_cons pt pa_nil hs) hs, fun B τ σ H F Q s h => q B τ σ H F _ s (h.seq fun d v H1 F1 e1 p1 h1 => ?_)⟩
  cases d <;> try exact h1.elim
  rename_i j
  cases p1
  obtain ⟨hj, h2⟩ := Fin.ite (C := -(2 ^ 62) ≤ j ∧ j < 2 ^ 62) h1
  exact ⟨j, rfl, hj.1, hj.2, h2 _ H1 F1 (Ext.refl e1.fh) (over_rng.d (repL_map _ _ (fun c => .int _) _))⟩
theorem di_rng2 (hg : Gl X "range") (hm : X.mg "range" = none) (h : DV X W e f) (h2 : DV X W e2 g) (hs : starEach [e, e2] X.env = [(false, eval e X.env), (false, eval e2 X.env)] := by rfl) (hs2 : starEach [e2] X.env = [(false, eval e2 X.env)] := by rfl) : DI X W tg (.Call (.Name "range" p) [e, e2] [] pos) (iR2 f g) := by
  obtain ⟨t, pt, q⟩ := h
  obtain ⟨u, pu, qu⟩ := h2
  refine ⟨_, pi_range2 hg hm (pa_cons pt (pa_cons pu pa_nil hs2) (by rw [hs, hs2])) hs hs2, fun B τ σ H F Q s h => q B τ σ H F _ s (h.seq fun d v H1 F1 e1 p1 h1 => ?_)⟩
  refine qu B τ σ H1 F1 _ (s.ext e1) (h1.seq fun d2 v2 H2 F2 e2 p2 h2 => ?_)
  cases d <;> try exact h2.elim
  rename_i i
  cases d2 <;> try exact h2.elim
  rename_i j
  cases p1
  cases p2
  obtain ⟨hj, h3⟩ := Fin.ite (C := -(2 ^ 62) ≤ i ∧ i < 2 ^ 62 ∧ -(2 ^ 62) ≤ j ∧ j < 2 ^ 62) h2
  exact ⟨i, j, rfl, hj, h3 _ H2 F2 (Ext.refl e2.fh) (over_rng.d (repL_map _ _ (fun c => .int _) _))⟩
end

/-! ### for name in .. -/
def forL (k : Nat) (b : FS) : List D → FS
  | [], τ => .nx τ
  | d :: ds, τ => (Fl.put τ k (.sh d)).seq fun τ1 => (b τ1).seq (forL k b ds)
def sFor (k : Nat) (f : Tau → R (List D)) (b : FS) : FS := fun τ => Fl.of (f τ) τ fun ds => forL k b ds τ
theorem drop_at {ds : List D} {i : Nat} {d : D} (h : ds[i]? = some d) : ds.drop i = d :: ds.drop (i + 1) := by
  obtain ⟨hi, e⟩ := List.getElem?_eq_some_iff.mp h
  rw [List.drop_eq_getElem_cons hi, e]
section
variable {X : Cx} {W : WX} {iter : Expr} {body : List Stmt} {f : Tau → R (List D)} {b : FS} {pos pos' : Pos} {x : Str} {k : Nat}
theorem FinS.bodyOf {B : Base} {F : Hp} {r : Fl} {kk : FS} {D D' : Ends} (h : FinS X.K X.mg W B F (r.seq kk) D) (hr : D'.rt = D.rt)
    (hn : ∀ τ' σ' H' F', Same F F' → SR X.K X.mg B H' F' σ' τ' → FinS X.K X.mg W B F' (kk τ') D → D'.nx σ' H') : FinS X.K X.mg W B F r D' := by
  cases r with
  | nx τ' => exact fun σ' H' F' e s => hn τ' σ' H' F' e s (FinS.older e h)
  | rt s τ' =>
    intro v σ' H' F' e t
    rw [hr]
    have h' : ∀ v σ' H' F', Same F F' → SR X.K X.mg B H' F' (σ' ++ [some v]) (τ' ++ [s]) → D.rt v H' := h
    exact h' v σ' H' F' e t
  | er c τ' => exact h
  | bad => exact h
theorem ds_for (hp : PassesOwn (model X.prog X.w) X.A X.env X.xe) (hc : X.calm = true) (hN : X.N.Nodup) (hk : X.N[k]? = some x) (hx : Loc X.env.scope x) (hi : DI X W (.Name x pos') iter f) (hb : DSs X W body b)
    (hs : ∀ y, foldedSetIterable iter X.env y = pure y := by intro _; rfl) (hf : X.fn x = true ∨ X.env.scope.names.lookup x = some .local := by first | exact .inl rfl | exact .inr rfl | assumption) :
    DS X W (.For (.Name x pos') iter body [] pos) (sFor k f b) := by
  obtain ⟨t, pt, q⟩ := hi
  obtain ⟨u, pu, qu⟩ := hb
  refine ⟨_, ps_for hp hc pt (pg_name hN hk hx hf) pu hs, fun B τ σ H F D s h => q B τ σ H F _ s (FinS.expr s h fun ds J H1 F1 e1 p1 h1 => ?_)⟩
  have ov : OverD X.K J ds F1 := p1
  refine ⟨fun i m σ H => m = ds.length - i ∧ i ≤ ds.length ∧ ∃ τi F', Same F1 F' ∧ SR X.K X.mg B H F' σ τi ∧ FinS X.K X.mg W B F' (forL k b (ds.drop i) τi) D, ⟨_, rfl, Nat.zero_le _, τ, F1, Same.refl _, s.ext e1, h1⟩, ?_⟩
  rintro i m σ2 H2 ⟨rfl, hi, τi, F2, sm, s2, h2⟩
  obtain ⟨o1, o2⟩ := ov i H2 F2 sm s2.fh
  by_cases hlt : i < ds.length
  · obtain ⟨go, yd⟩ := o1 hlt
    refine .inr ⟨go, fun σ' H' => ∃ τi F', Same F1 F' ∧ SR X.K X.mg B H' F' σ' τi ∧ FinS X.K X.mg W B F' (forL k b (ds.drop (i + 1)) τi) D, fun σ' H' n' => ⟨ds.length - (i + 1), by omega, rfl, hlt, n'⟩, fun y H' yy => ?_⟩
    obtain ⟨rfl, F3, d, x3, ed, rd⟩ := yd y H' yy
    rw [drop_at ed] at h2
    have h3 : FinS X.K X.mg W B F2 ((Fl.put τi k (.sh d)).seq fun τ1 => (b τ1).seq (forL k b (ds.drop (i + 1)))) D := h2
    unfold Fl.put at h3
    cases z : τi[k]? with
    | none => rw [z] at h3; exact h3.elim
    | some y =>
      rw [z] at h3
      have hkl : k < τi.length := (List.getElem?_eq_some_iff.mp z).1
      dsimp only at h3
      split at h3
      · exact h3.elim
      · rename_i hn
        rw [Bool.or_eq_true, not_or] at hn
        have s3 := s2.put hkl (fun d q => by rw [z] at q; cases q; exact hn.1 rfl) x3 (s := .sh d) rd (fun d q => by cases q)
        refine qu B _ _ _ F3 _ s3 (FinS.bodyOf (D := D) (FinS.older x3.ff h3) rfl fun τ' σ' H' F' e t h4 => ⟨τ', F', (sm.trans x3.ff).trans e, t, h4⟩)
  · have e : i = ds.length := by omega
    subst e
    rw [List.drop_length] at h2
    exact .inl ⟨o2 (Nat.le_refl _), h2 σ2 _ F2 (Same.refl _) s2⟩
/-! ### while -/
def whileF (c : Tau → R Bool) (b : FS) : Nat → FS
  | 0, _ => .bad
  | n + 1, τ => Fl.of (c τ) τ fun t => if t then (b τ).seq (whileF c b n) else .nx τ
theorem ds_while {c : Tau → R Bool} {ce : Expr} (n : Nat) (hp : PassesOwn (model X.prog X.w) X.A X.env X.xe) (hc : DT X W ce c) (hb : DSs X W body b) : DS X W (.While ce body [] pos) (whileF c b n) := by
  obtain ⟨t, pt, q⟩ := hc
  obtain ⟨u, pu, qu⟩ := hb
  refine ⟨_, ps_while hp pt pu, fun B τ σ H F D s h => ?_⟩
  refine ⟨fun m σ H => ∃ τ F', SR X.K X.mg B H F' σ τ ∧ FinS X.K X.mg W B F' (whileF c b m τ) D, ⟨n, τ, F, s, h⟩, ?_⟩
  rintro m σ2 H2 ⟨τ2, F2, s2, h2⟩
  cases m with
  | zero => exact h2.elim
  | succ m =>
    have h3 : FinS X.K X.mg W B F2 (Fl.of (c τ2) τ2 fun t => if t then (b τ2).seq (whileF c b m) else .nx τ2) D := h2
    refine q B τ2 σ2 H2 F2 _ s2 (FinS.expr s2 h3 fun v v' H3 F3 e3 p3 h4 => ?_)
    subst p3
    cases v' with
    | true =>
      rw [if_pos rfl] at h4 ⊢
      refine ⟨fun σ' H' => ∃ τ F', SR X.K X.mg B H' F' σ' τ ∧ FinS X.K X.mg W B F' (whileF c b m τ) D, fun σ' H' ⟨τ', F', t', k'⟩ => ⟨m, Nat.lt_succ_self _, τ', F', t', k'⟩, ?_⟩
      exact qu B τ2 σ2 H3 F3 _ (s2.ext e3) (FinS.bodyOf (D := D) h4 rfl fun τ' σ' H' F' e t h5 => ⟨τ', F', t, h5⟩)
    | false =>
      rw [if_neg Bool.false_ne_true] at h4 ⊢
      exact h4 σ2 H3 F3 (Same.refl _) (s2.ext e3)
end
end DL
end

section
set_option Elab.async false
set_option linter.all false
set_option maxRecDepth 100000
namespace DL
open PySem PySem.Spec PyProof.Rows L2

/-! ### readings that do not lean on the context -/
def cV (K : PySem.W.Frag) (mg : Str → Option Value) (W : WX) (f : Tau → R D) : TE := fun σ H Q => ∃ B τ F, SR K mg B H F σ τ ∧ Fin mg W σ H F (f τ) (fun d v _ F' => Rep K F' v d) Q
def cT (K : PySem.W.Frag) (mg : Str → Option Value) (W : WX) (f : Tau → R Bool) : TT := fun σ H Q => ∃ B τ F, SR K mg B H F σ τ ∧ Fin mg W σ H F (f τ) (fun b v _ _ => v = b) Q
def DTs (X : Cx) (W : WX) (es : List Expr) (g : Tau → R Bool) : Prop := ∃ t, PTs X es t ∧ ∀ B τ σ H F Q, SR X.K X.mg B H F σ τ → Fin X.mg W σ H F (g τ) (fun b v _ _ => v = b) Q → t σ H Q
section
variable {X : Cx} {W : WX} {e : Expr} {es : List Expr} {f : Tau → R D} {g : Tau → R Bool}
theorem DV.canon (h : DV X W e f) : PE X e (cV X.K X.mg W f) := by
  obtain ⟨t, pt, q⟩ := h
  exact ⟨fun pins s σ H Q I ⟨B, τ, F, sr, fi⟩ => pt.run pins s σ H Q I (q B τ σ H F Q sr fi)⟩
theorem DTs.canon (h : DTs X W es g) : PTs X es (cT X.K X.mg W g) := by
  obtain ⟨t, pt, q⟩ := h
  exact ⟨fun pins s σ H Q I ⟨B, τ, F, sr, fi⟩ => pt.run pins s σ H Q I (q B τ σ H F Q sr fi)⟩
theorem dts_nil : DTs X W [] (fun _ => .ok true) := ⟨_, pts_nil, fun B τ σ H F Q s h => h true H F s.refl rfl⟩
theorem dts_one (h : DT X W e g) : DTs X W [e] g := by
  obtain ⟨t, pt, q⟩ := h
  exact ⟨_, pts_one pt, q⟩
end
def wipeT (τ : Tau) : List Nat → Tau
  | [] => τ
  | v :: vs => (wipeT τ vs).set v .un
def strip {α : Type} (r : R α) : R α := match r with
  | .ok a => .ok a
  | _ => .bad
def W0 : WX := fun _ _ _ _ => False
theorem strip_ok {α : Type} {r : R α} {a : α} (h : strip r = .ok a) : r = .ok a := by
  cases r with
  | ok b => cases h; rfl
  | er c => cases h
  | bad => cases h
section
variable {K : PySem.W.Frag} {mg : Str → Option Value} {B : Base} {H F : Hp} {σ : St} {τ : List Sl}
theorem SR.wiped (r : SR K mg B H F σ τ) : ∀ vs : List Nat, SR K mg B H F (wipe σ vs) (wipeT τ vs)
  | [] => r
  | v :: vs => by
    have ih := r.wiped vs
    by_cases hv : v < (wipeT τ vs).length
    · exact ih.forget hv none
    · have hv' : ¬ v < (wipe σ vs).length := by rw [ih.len]; exact hv
      show SR K mg B H F ((L2.wipe σ vs).set v none) ((wipeT τ vs).set v .un)
      rw [List.set_eq_of_length_le (by omega), List.set_eq_of_length_le (by omega)]
      exact ih
theorem wipe_get (σ : St) (i : Nat) : ∀ vs : List Nat, (wipe σ vs)[i]? = if i ∈ vs then (σ[i]?).map (fun _ => none) else σ[i]?
  | [] => by simp [wipe]
  | v :: vs => by
    show ((wipe σ vs).set v none)[i]? = _
    rw [List.getElem?_set, wipe_get σ i vs, wipe_length]
    by_cases hv : v = i
    · subst hv
      by_cases hl : v < σ.length
      · simp [hl]
      · simp [hl]
    · by_cases hi : i ∈ vs
      · simp [hv, hi]
      · simp [hv, hi, Ne.symm hv]
theorem wipe_own {σ : St} {vs : List Nat} {k : Nat} {x : Option V} (hk : k ∈ vs) : wipe ((wipe σ vs).set k x) vs = wipe σ vs := by
  apply List.ext_getElem?
  intro i
  rw [wipe_get]
  by_cases hi : i ∈ vs
  · rw [if_pos hi, List.getElem?_set, wipe_length]
    by_cases hki : k = i
    · subst hki
      rw [if_pos rfl, wipe_get, if_pos hi]
      by_cases hl : k < σ.length
      · simp [hl]
      · simp [hl]
    · rw [if_neg hki, wipe_get, if_pos hi]
      cases σ[i]? <;> rfl
  · rw [if_neg hi, List.getElem?_set_ne (fun q => hi (by rw [← q]; exact hk))]
end
/-! ### [e for name in .. if t] -/
def lcL (vs : List Nat) (k : Nat) (t : Tau → R Bool) (e : Tau → R D) (τ : Tau) : List D → R (List D)
  | [] => .ok []
  | d :: ds => (strip (t ((wipeT τ vs).set k (.sh d)))).bind fun b => if b then (strip (e ((wipeT τ vs).set k (.sh d)))).bind fun y => (lcL vs k t e τ ds).bind fun ys => .ok (y :: ys) else lcL vs k t e τ ds
def lcD (vs : List Nat) (k : Nat) (f : Tau → R (List D)) (t : Tau → R Bool) (e : Tau → R D) : Tau → R Sl := fun τ => (f τ).bind fun ds =>
  if ds.length ≤ sizeLine ∧ k ∈ vs ∧ k < τ.length then (strip (lcL vs k t e τ ds)).bind fun ys => .ok (.ow (.lst ys)) else .bad
section
variable {X : Cx} {W : WX} {tg iter elt : Expr} {ifs : List Expr} {f : Tau → R (List D)} {e : Tau → R D} {t : Tau → R Bool} {vs : List Nat} {k : Nat} {ti : TI}
theorem wipeT_len (τ : Tau) : ∀ vs, (wipeT τ vs).length = τ.length
  | [] => rfl
  | v :: vs => by unfold wipeT; rw [List.length_set, wipeT_len τ vs]
theorem wipeT_io (τ : Tau) (k : Nat) : ∀ {vs : List Nat}, k ∈ vs → ∀ d, (wipeT τ vs)[k]? ≠ some (.io d)
  | v :: vs, h, d => by
    unfold wipeT
    rw [List.getElem?_set]
    by_cases hv : v = k
    · rw [if_pos hv]
      split
      · intro q; cases q
      · intro q; cases q
    · rw [if_neg hv]
      exact wipeT_io τ k ((List.mem_cons.mp h).resolve_left (fun q => hv q.symm)) d
theorem lc_over {B : Base} {τ : List Sl} {σ : St} {H0 H1 F1 : Hp} {Q : VK} {J : It} {ds all : List D} (s1 : SR X.K X.mg B H1 F1 σ τ) (ov : OverD X.K J ds F1) (hz : ds.length ≤ sizeLine) (hk : k ∈ vs) (hkl : k < τ.length) (zall : lcL vs k t e τ ds = .ok all) (e01 : Same H0 H1)
    (h3 : ∀ v H' F', Ext H1 F1 H' F' → Br X.K X.mg H0 H' F' v (.ow (.lst all)) → Q v H') :
    ∀ Da, H1 Da = none → ∃ W : Nat → Nat → Hp → Prop, (∃ m, W 0 m (upd H1 Da (.lst []))) ∧ ∀ i m H, W i m H →
      (J.stop i H ∧ Q (.ref Da) H) ∨ (J.go i H ∧ ∃ Nx : Hp → Prop, (∀ H', Nx H' → ∃ m', m' < m ∧ W (i + 1) m' H') ∧ ∀ x H', J.yld i H x H' → gName k x (wipe σ vs) H' fun σ2 H2 => wipe σ2 vs = wipe σ vs ∧ cT X.K X.mg W0 t σ2 H2 fun b H3 =>
        if b = true then cV X.K X.mg W0 e σ2 H3 fun y H4 => ∃ acc, H4 Da = some (.lst acc) ∧ acc.length < sizeLine ∧ Nx (upd H4 Da (.lst (acc ++ [y]))) else Nx H3) := by
  intro Da hD
  have lay := Ext.lay' s1.fh (.lst []) hD
  refine ⟨fun i m H2 => m = ds.length - i ∧ i ≤ ds.length ∧ ∃ F2 acc dacc ys, Ext H1 F1 H2 F2 ∧ H2 Da = some (.lst acc) ∧ F2 Da = none ∧ RepL X.K F2 acc dacc ∧ acc.length ≤ i ∧ lcL vs k t e τ (ds.drop i) = .ok ys ∧ dacc ++ ys = all,
    ⟨_, rfl, Nat.zero_le _, F1, [], [], all, lay, upd_same, s1.fh.free hD, .nil, Nat.le_refl _, zall, rfl⟩, ?_⟩
  rintro i m H2 ⟨rfl, hi, F2, acc, dacc, ys, x2, a2, n2, ra, la, ey, ea⟩
  obtain ⟨o1, o2⟩ := ov i H2 F2 x2.ff x2.fh
  by_cases hlt : i < ds.length
  · obtain ⟨go, yd⟩ := o1 hlt
    refine .inr ⟨go, fun H' => ∃ F2 acc dacc ys, Ext H1 F1 H' F2 ∧ H' Da = some (.lst acc) ∧ F2 Da = none ∧ RepL X.K F2 acc dacc ∧ acc.length ≤ i + 1 ∧ lcL vs k t e τ (ds.drop (i + 1)) = .ok ys ∧ dacc ++ ys = all, fun H' n' => ⟨ds.length - (i + 1), by omega, rfl, hlt, n'⟩, fun y H' yy => ?_⟩
    obtain ⟨rfl, F2', d, xd, ed, rd⟩ := yd y H' yy
    rw [drop_at ed] at ey
    have s2 := ((s1.ext (x2.trans xd)).wiped vs).put (i := k) (by rw [wipeT_len]; exact hkl) (wipeT_io τ k hk) (Ext.refl xd.fh) (s := .sh d) rd (fun d q => by cases q)
    refine ⟨wipe_own hk, B, _, F2', s2, ?_⟩
    have ey' : ((strip (t ((wipeT τ vs).set k (.sh d)))).bind fun b => if b then (strip (e ((wipeT τ vs).set k (.sh d)))).bind fun y => (lcL vs k t e τ (ds.drop (i + 1))).bind fun ys => .ok (y :: ys) else lcL vs k t e τ (ds.drop (i + 1))) = .ok ys := ey
    cases zt : strip (t ((wipeT τ vs).set k (.sh d))) with
    | er c => rw [zt] at ey'; cases ey'
    | bad => rw [zt] at ey'; cases ey'
    | ok b =>
      rw [zt, R.bind_ok] at ey'
      rw [strip_ok zt]
      intro b' H3 F3 x3' eb
      have x3 := xd.trans x3'
      have eb : b' = b := eb
      subst eb
      cases b' with
      | false =>
        rw [if_neg Bool.false_ne_true] at ey' ⊢
        have hd3 : H3 Da = some (.lst acc) := x3.hh _ _ a2
        exact ⟨F3, acc, dacc, ys, x2.trans x3, hd3, x3.apart a2 rfl n2, ra.mono x3.ff, by omega, ey', ea⟩
      | true =>
        rw [if_pos rfl] at ey' ⊢
        refine ⟨B, _, F3, s2.ext x3', ?_⟩
        cases ze : strip (e ((wipeT τ vs).set k (.sh d))) with
        | er c => rw [ze] at ey'; cases ey'
        | bad => rw [ze] at ey'; cases ey'
        | ok y =>
          rw [ze, R.bind_ok] at ey'
          rw [strip_ok ze]
          intro yv H4 F4 x4 ry
          cases zr : lcL vs k t e τ (ds.drop (i + 1)) with
          | er c => rw [zr] at ey'; cases ey'
          | bad => rw [zr] at ey'; cases ey'
          | ok ys' =>
            rw [zr, R.bind_ok] at ey'
            have ey2 : y :: ys' = ys := by cases ey'; rfl
            have x23 := x2.trans (x3.trans x4)
            have hd4 : H4 Da = some (.lst acc) := x4.hh _ _ (x3.hh _ _ a2)
            have nf4 : F4 Da = none := x4.apart (x3.hh _ _ a2) rfl (x3.apart a2 rfl n2)
            have ry' : Rep X.K F4 yv y := ry
            refine ⟨acc, hd4, by omega, F4, acc ++ [yv], dacc ++ [y], ys', ?_, upd_same, nf4, ((ra.mono x3.ff).mono x4.ff).append (.one ry'), by rw [List.length_append]; show acc.length + 1 ≤ i + 1; omega, rfl, by rw [List.append_assoc, ← ea, ← ey2]; rfl⟩
            refine ⟨fun a o ha => ?_, x23.ff, fun a o ha => ?_, x23.new⟩
            · rw [upd_ne (ne_of_none ha hD)]; exact x23.hh a o ha
            · rw [upd_ne (ne_of_none ha nf4)]; exact x23.fh a o ha
  · have eq : i = ds.length := by omega
    subst eq
    refine .inl ⟨o2 (Nat.le_refl _), ?_⟩
    rw [List.drop_length] at ey
    have ey2 : ys = [] := by
      have : R.ok ([] : List D) = .ok ys := ey
      cases this; rfl
    subst ey2
    rw [List.append_nil] at ea
    subst ea
    exact h3 _ H2 F2 x2 ⟨Da, [Da], rfl, .lst a2 ra, by simp, fun b hb => by
      have : b = Da := by simpa using hb
      subst this
      exact ⟨n2, e01.free hD⟩⟩
theorem lc_read {B : Base} {τ : List Sl} {σ : St} {H F : Hp} {Q : VK} (q : ∀ B τ σ H F (Q : It → Hp → Prop), SR X.K X.mg B H F σ τ → Fin X.mg W σ H F (f τ) (fun ds J _ F' => OverD X.K J ds F') Q → ti σ H Q)
    (s : SR X.K X.mg B H F σ τ) (h : Fin X.mg W σ H F (lcD vs k f t e τ) (BrX X H) Q) : tLc ti (gName k) (cT X.K X.mg W0 t) (cV X.K X.mg W0 e) vs σ H Q := by
  refine q B τ σ H F _ s (h.seq fun ds J H1 F1 e1 p1 h1 => ?_)
  obtain ⟨⟨hz, hk, hkl⟩, h2⟩ := Fin.ite (C := ds.length ≤ sizeLine ∧ k ∈ vs ∧ k < τ.length) h1
  cases zz : strip (lcL vs k t e τ ds) with
  | er c => cases y : lcL vs k t e τ ds <;> rw [y] at zz <;> cases zz
  | bad => rw [zz] at h2; exact h2.elim
  | ok all =>
    rw [zz] at h2
    exact lc_over (s.ext e1) p1 hz hk hkl (strip_ok zz) e1.hh h2
theorem dp_lc {scope : Scope} {own : List (Str × Nat)} {pos tpos : Pos} {x : Str} (hc : X.calm = true) (hN : X.N.Nodup) (ok : BlkOk X.N X.env.scope scope own) (hi : DI X W (.Name x tpos) iter f)
    (hg : ∀ (s : Shared) (H : Hp) (C : Addr) (cl : List (Str × Addr)) (fp : List Addr), PG (X.blk s H scope (compEnvC scope cl C X.env) fp) (.Name x tpos) (gName k))
    (ht : ∀ (s : Shared) (H : Hp) (C : Addr) (cl : List (Str × Addr)) (fp : List Addr), DTs (X.blk s H scope (compEnvC scope cl C X.env) fp) W0 ifs t)
    (he : ∀ (s : Shared) (H : Hp) (C : Addr) (cl : List (Str × Addr)) (fp : List Addr), DV (X.blk s H scope (compEnvC scope cl C X.env) fp) W0 elt e) (hs : ∀ y, foldedSetIterable iter X.env y = pure y := by intro _; rfl) :
    DP X W (.ListComp elt [⟨.Name x tpos, iter, ifs, 0⟩] scope pos) (lcD (own.map (·.2)) k f t e) := by
  obtain ⟨ti, pi, q⟩ := hi
  exact ⟨_, pe_lc (te := cV X.K X.mg W0 e) (tt := cT X.K X.mg W0 t) hc hN pi ok hg (fun s H C cl fp => (ht s H C cl fp).canon) (fun s H C cl fp => (he s H C cl fp).canon) hs, fun B τ σ H F Q s h => lc_read q s h⟩
theorem ds_setLc {i : Nat} {y : Str} {py : Pos} {scope : Scope} {own : List (Str × Nat)} {pos spos tpos : Pos} {x : Str} (hc : X.calm = true) (hN : X.N.Nodup) (hy : X.N[i]? = some y) (hyl : X.env.scope.names.lookup y = some .local)
    (hsw : swapsWith (.ListComp elt [⟨.Name x tpos, iter, ifs, 0⟩] scope pos) (some (.Name y py)) spos.line X.env = pure true) (ok : BlkOk X.N X.env.scope scope own) (hi : DI X W (.Name x tpos) iter f)
    (hg : ∀ (s : Shared) (H : Hp) (C : Addr) (cl : List (Str × Addr)) (fp : List Addr), PG (X.blk s H scope (compEnvC scope cl C X.env) fp) (.Name x tpos) (gName k))
    (ht : ∀ (s : Shared) (H : Hp) (C : Addr) (cl : List (Str × Addr)) (fp : List Addr), DTs (X.blk s H scope (compEnvC scope cl C X.env) fp) W0 ifs t)
    (he : ∀ (s : Shared) (H : Hp) (C : Addr) (cl : List (Str × Addr)) (fp : List Addr), DV (X.blk s H scope (compEnvC scope cl C X.env) fp) W0 elt e) (hs : ∀ y, foldedSetIterable iter X.env y = pure y := by intro _; rfl) :
    DS X W (.Assign [.Name y py] (.ListComp elt [⟨.Name x tpos, iter, ifs, 0⟩] scope pos) spos) (sSet i (lcD (own.map (·.2)) k f t e)) := by
  obtain ⟨ti, pi, q⟩ := hi
  refine ⟨_, ps_setLc (te := cV X.K X.mg W0 e) (tt := cT X.K X.mg W0 t) hc hN hy hyl hsw pi ok hg (fun s H C cl fp => (ht s H C cl fp).canon) (fun s H C cl fp => (he s H C cl fp).canon) hs, fun B τ σ H F D s h => ?_⟩
  exact lc_read q s (FinS.expr s h fun a v H1 F1 e p h1 => FinS.put s e p h1)
theorem ds_setLcV {i : Nat} {y : Str} {py : Pos} {scope : Scope} {own : List (Str × Nat)} {pos spos tpos : Pos} {x : Str} (hc : X.calm = true) (hN : X.N.Nodup) (hy : X.N[i]? = some y) (hyl : X.env.scope.names.lookup y = some .local)
    (hsw : swapsWith (.ListComp elt [⟨.Name x tpos, iter, ifs, 0⟩] scope pos) (some (.Name y py)) spos.line X.env = pure true) (ok : BlkOk X.N X.env.scope scope own) (hi : DI X W (.Name x tpos) iter f)
    (hg : ∀ (s : Shared) (H : Hp) (C : Addr) (cl : List (Str × Addr)) (fp : List Addr), PG (X.blk s H scope (compEnvC scope cl C X.env) fp) (.Name x tpos) (gName k))
    (ht : ∀ (s : Shared) (H : Hp) (C : Addr) (cl : List (Str × Addr)) (fp : List Addr), DTs (X.blk s H scope (compEnvC scope cl C X.env) fp) W0 ifs t)
    (he : ∀ (s : Shared) (H : Hp) (C : Addr) (cl : List (Str × Addr)) (fp : List Addr), DV (X.blk s H scope (compEnvC scope cl C X.env) fp) W0 elt e) (hs : ∀ y, foldedSetIterable iter X.env y = pure y := by intro _; rfl) :
    DS X W (.Assign [.Name y py] (.ListComp elt [⟨.Name x tpos, iter, ifs, 0⟩] scope pos) spos) (sSet i (vl (kp (lcD (own.map (·.2)) k f t e)))) := by
  obtain ⟨ti, pi, q⟩ := hi
  refine ⟨_, ps_setLc (te := cV X.K X.mg W0 e) (tt := cT X.K X.mg W0 t) hc hN hy hyl hsw pi ok hg (fun s H C cl fp => (ht s H C cl fp).canon) (fun s H C cl fp => (he s H C cl fp).canon) hs, fun B τ σ H F D s h => ?_⟩
  refine lc_read q s ?_
  have h2 : FinS X.K X.mg W B F (Fl.of (kp (lcD (own.map (·.2)) k f t e) τ) τ fun d => Fl.put τ i (.sh d)) D := by
    have h' : FinS X.K X.mg W B F (Fl.of (vl (kp (lcD (own.map (·.2)) k f t e)) τ) τ fun s => Fl.put τ i s) D := h
    unfold vl at h'
    cases z : kp (lcD (own.map (·.2)) k f t e) τ with
    | ok d => rw [z] at h'; exact h'
    | er c => rw [z] at h'; exact h'
    | bad => rw [z] at h'; exact h'
  have h3 : Fin X.mg W σ H F (kp (lcD (own.map (·.2)) k f t e) τ) (RpX X) (fun v H' => D.nx (σ.set i (some v)) H') := FinS.expr s h2 fun d v H1 F1 e1 p h1 => FinS.put s e1 (s := .sh d) p h1
  have h4 : Fin X.mg W σ H F ((lcD (own.map (·.2)) k f t e τ).bind fun s => ofO s.data) (RpX X) (fun v H' => D.nx (σ.set i (some v)) H') := h3
  cases z : lcD (own.map (·.2)) k f t e τ with
  | er c => rw [z] at h4; exact h4
  | bad => rw [z] at h4; exact h4
  | ok sl =>
    rw [z] at h4
    intro v H' F' x b
    cases zd : sl.data with
    | none => rw [R.bind_ok, zd] at h4; exact h4.elim
    | some d =>
      rw [R.bind_ok, zd] at h4
      obtain ⟨F'', x2, s2, r2⟩ := b.data x zd
      exact h4 v H' F'' x2 r2
end
end DL
end

section
set_option Elab.async false
set_option linter.all false
set_option maxRecDepth 100000
namespace DL
open PySem PySem.Spec PyProof.Rows L2

/-! ### raise -/
abbrev veB : List Value := [.type "ValueError", .type "Exception", .type "BaseException", .type "object"]
structure ExD (K : PySem.W.Frag) (mg : Str → Option Value) (c : Str) : Prop where
  ex : ∃ C, mg c = some (.ref C) ∧ PySem.W.excIn K C veB "ValueError.__new__" = true ∧ PySem.W.keepIn K (.ref C) = true ∧ PySem.W.subIn K (.ref C) (.type "BaseException") = some true ∧ PySem.W.typeIn K (.ref C) = some (.type "type")
def sRaise (c : Str) : FS := fun τ => .er c τ
section
variable {X : Cx} {W : WX} {c m : Str} {j : Nat} {p p2 pos pos' : Pos}
theorem ds_raise (E : ExD X.K X.mg c) (hc : X.calm = true) (tk : L2N.Takes X W) (hg : Gl X c) (hdb : (c == ("__debug__" : Str)) = false := by decide) : DS X W (.Raise (some (.Call (.Name c p) [.Constant (.str m) j p2] [] pos')) none pos) (sRaise c) := by
  obtain ⟨C, h1, h2, h3, h4, h5⟩ := E.ex
  refine ⟨_, L2N.ps_raise hc tk (L2N.pmk_own PySem.F.excBase_ValueError h2 h1 h3 (raises_own h4 h5) hg hdb), fun B τ σ H F D s h => ?_⟩
  have h' : ∀ σ' H' F', Same F F' → SR X.K X.mg B H' F' σ' τ → W (cv X.mg c) none σ' H' := h
  have e : cv X.mg c = .ref C := by unfold cv; rw [h1]; rfl
  have := h' σ H F (Same.refl _) s
  rw [e] at this
  exact this
end

/-! ### try .. except X: .. -/
def cS (K : PySem.W.Frag) (mg : Str → Option Value) (W : WX) (b : FS) : TS := fun D σ H => ∃ B τ F, SR K mg B H F σ τ ∧ FinS K mg W B F (b τ) D
theorem DSs.canon {X : Cx} {W : WX} {body : List Stmt} {b : FS} (h : DSs X W body b) : PSs X body (cS X.K X.mg W b) := by
  obtain ⟨t, pt, q⟩ := h
  exact ⟨fun pins s σ H D I ⟨B, τ, F, sr, fi⟩ => pt.run pins s σ H D I (q B τ σ H F D sr fi)⟩
/-- the class c is one that the clause h takes -/
def ExmD (K : PySem.W.Frag) (mg : Str → Option Value) (cs hs : List Str) (m : Str → Str → Bool) : Prop := ∀ c ∈ cs, ∀ h ∈ hs, PySem.W.exmOne K (cv mg c) (cv mg h) = some (m c h)
def hand (m : Str → Str → Bool) (c : Str) : List (Str × FS) → FS
  | [], τ => .er c τ
  | h :: r, τ => if m c h.1 then h.2 τ else hand m c r τ
def sTry (cs : List Str) (m : Str → Str → Bool) (hs : List (Str × FS)) (b : FS) : FS := fun τ => match b τ with
  | .er c τ' => if c ∈ cs then hand m c hs τ' else .bad
  | r => r
/-- the clauses -/
inductive DHs (X : Cx) : List ExceptHandler → List (Str × FS) → Prop
  | nil : DHs X [] []
  | cons {x : Str} {f : FS} {b₀ : Stmt} {suite : List Stmt} {np pos' : Pos} {hds : List ExceptHandler} {l : List (Str × FS)} (hc : Names X x (cv X.mg x))
      (hsu : ∀ (a : Addr) (oe : Obj) (pn : List (Addr × Obj)) (cls : Value) (d : Option Addr), L2N.Zn cls d oe → (∃ vs, oe.data = .fields vs) → DSs (X.suite a ((a, oe) :: pn)) W0 (b₀ :: suite) f) (r : DHs X hds l) : DHs X (.ExceptHandler (some (.Name x np)) none (b₀ :: suite) pos' :: hds) ((x, f) :: l)
def canH (K : PySem.W.Frag) (mg : Str → Option Value) (l : List (Str × FS)) : List (Value × (Addr → Value → Option Addr → TS)) := l.map fun h => (cv mg h.1, fun _ _ _ => cS K mg W0 h.2)
section
variable {X : Cx} {W : WX} {body : List Stmt} {h₀ : ExceptHandler} {hds : List ExceptHandler} {l : List (Str × FS)} {b : FS} {pos : Pos} {cs : List Str} {m : Str → Str → Bool}
theorem DHs.ok : ∀ {hds : List ExceptHandler} {l : List (Str × FS)}, DHs X hds l → L2N.HdsOk X hds (canH X.K X.mg l)
  | _, _, .nil => .nil
  | _, _, .cons hc hsu r => .cons hc (fun a oe cls d pn hz hf => (hsu a oe pn cls d hz hf).canon) (DHs.ok r)
theorem FinS.noW {K : PySem.W.Frag} {mg : Str → Option Value} {W : WX} {B : Base} {F : Hp} {r : Fl} {D : Ends} (h : FinS K mg W B F r D) (n : ∀ c τ, r ≠ .er c τ) : FinS K mg W0 B F r D := by
  cases r with
  | nx τ => exact h
  | rt s τ => exact h
  | er c τ => exact absurd rfl (n c τ)
  | bad => exact h
/-- a suite raises nothing -/
def Fl.calm (r : Fl) : Fl := match r with
  | .er _ _ => .bad
  | r => r
def sCalm (f : FS) : FS := fun τ => (f τ).calm
theorem hand_want {K : PySem.W.Frag} {mg : Str → Option Value} {B : Base} {F : Hp} {D : Ends} {c : Str} {τ : Tau} (hc : c ∈ cs) : ∀ {l : List (Str × FS)}, (∀ h ∈ l, PySem.W.exmOne K (cv mg c) (cv mg h.1) = some (m c h.1)) → FinS K mg W B F (hand m c (l.map fun h => (h.1, sCalm h.2)) τ) D →
    ∀ σ' H' F', Same F F' → SR K mg B H' F' σ' τ → wMany K W D (canH K mg l) (cv mg c) none σ' H'
  | [], _, h, σ', H', F', e, s => by
    have h' : ∀ σ' H' F', Same F F' → SR K mg B H' F' σ' τ → W (cv mg c) none σ' H' := h
    exact h' σ' H' F' e s
  | hd :: r, he, h, σ', H', F', e, s => by
    refine ⟨m c hd.1, he hd (by simp), fun hy a _ => ?_, fun hn => hand_want hc (fun h hh => he h (by simp [hh])) (?_) σ' H' F' e s⟩
    · have h' : FinS K mg W B F (if m c hd.1 then (hd.2 τ).calm else hand m c (r.map fun h => (h.1, sCalm h.2)) τ) D := h
      rw [if_pos hy] at h'
      refine ⟨B, τ, F', s, FinS.older e ?_⟩
      cases z : hd.2 τ with
      | nx τ' => rw [z] at h'; exact h'
      | rt s τ' => rw [z] at h'; exact h'
      | er c τ' => rw [z] at h'; exact h'.elim
      | bad => rw [z] at h'; exact h'.elim
    · have h' : FinS K mg W B F (if m c hd.1 then (hd.2 τ).calm else hand m c (r.map fun h => (h.1, sCalm h.2)) τ) D := h
      rw [if_neg (by simp [hn])] at h'
      exact h'
theorem ds_try (hs : X.stack = X.env :: X.outer) (hf : X.env.frame = some X.env.locals) (tk : L2N.Takes X W) (hm : ExmD X.K X.mg cs (l.map (·.1)) m)
    (hb : ∀ (W : WX) (pn : List (Addr × Obj)) (xe : Value → Shared → Prop), L2N.Takes (X.tr pn xe) W → PassesOwn (model X.prog X.w) X.A X.env xe → DSs (X.tr pn xe) W body b) (hh : DHs X (h₀ :: hds) l) :
    DS X W (.Try body (h₀ :: hds) [] [] pos) (sTry cs m (l.map fun h => (h.1, sCalm h.2)) b) := by
  refine ⟨_, L2N.ps_try_many (Wout := W) (tb := fun W => cS X.K X.mg W b) hs hf tk (fun W pn xe t p => (hb W pn xe t p).canon) hh.ok, fun B τ σ H F D s h => ⟨B, τ, F, s, ?_⟩⟩
  unfold sTry at h
  cases z : b τ with
  | nx τ' => rw [z] at h; exact h
  | rt s τ' => rw [z] at h; exact h
  | bad => rw [z] at h; exact h
  | er c τ' =>
    rw [z] at h
    dsimp only at h
    split at h
    · rename_i hc
      intro σ' H' F' e t
      exact hand_want hc (fun hd hhd => hm c hc hd.1 (List.mem_map_of_mem hhd)) h σ' H' F' e t
    · exact h.elim
end

/-! ### .. except X as e: the suite asks what e is -/
def DVe (X : Cx) (W : WX) (i : Nat) (v : V) (e : Expr) (f : Tau → R D) : Prop := ∃ t, PE X e t ∧ ∀ B τ σ H F Q, SR X.K X.mg B H F σ τ → σ[i]? = some (some v) → Fin X.mg W σ H F (f τ) (RpX X) Q → t σ H Q
section
variable {X : Cx} {W : WX} {i : Nat} {v : V} {a b e : Expr} {f g : Tau → R D} {pos : Pos} {rest : List Expr}
theorem DV.exc (h : DV X W e f) : DVe X W i v e f := by
  obtain ⟨t, p, q⟩ := h
  exact ⟨t, p, fun B τ σ H F Q s _ h => q B τ σ H F Q s h⟩
theorem dve_one {o : BoolOp} (h : DVe X W i v a f) : DVe X W i v (.BoolOp o [a] pos) f := by
  obtain ⟨t, p, q⟩ := h
  exact ⟨t, pe_one p, q⟩
theorem dve_and (ha : DVe X W i v a f) (hb : DVe X W i v (.BoolOp .And (b :: rest) pos) g) : DVe X W i v (.BoolOp .And (a :: b :: rest) pos) (andV f g) := by
  obtain ⟨t, p, q⟩ := ha
  obtain ⟨u, pu, qu⟩ := hb
  refine ⟨_, pe_and p pu, fun B τ σ H F Q s hv h => q B τ σ H F _ s hv (h.seq fun d v H1 F1 e1 p1 h1 => ?_)⟩
  obtain ⟨k, ek, h2⟩ := Fin.bindOk h1 (blOf_noer d)
  have ed := blOf_ok ek
  subst ed
  have p1 : Rep X.K F1 v (.bl k) := p1
  have ev : v = .bl k := by cases p1; rfl
  refine ⟨k, ev, ?_⟩
  cases k with
  | true =>
    rw [if_pos rfl] at h2 ⊢
    exact qu B τ σ H1 F1 Q (s.ext e1) hv h2
  | false =>
    rw [if_neg Bool.false_ne_true] at h2 ⊢
    exact h2 _ H1 F1 (Ext.refl e1.fh) (.bl _)
theorem dve_not (h : DVe X W i v a f) : DVe X W i v (.UnaryOp .Not a pos) (notV f) := by
  obtain ⟨t, p, q⟩ := h
  refine ⟨_, pe_not p, fun B τ σ H F Q s hv h => q B τ σ H F _ s hv (h.seq fun d v H1 F1 e1 p1 h1 => ?_)⟩
  obtain ⟨k, ek, h2⟩ := Fin.bindOk h1 (blOf_noer d)
  have ed := blOf_ok ek
  subst ed
  have p1 : Rep X.K F1 v (.bl k) := p1
  have ev : v = .bl k := by cases p1; rfl
  exact ⟨k, ev, h2 _ H1 F1 (Ext.refl e1.fh) (.bl _)⟩
def DSes (X : Cx) (W : WX) (i : Nat) (v : V) (st : List Stmt) (f : FS) : Prop := ∃ t, PSs X st t ∧ ∀ B τ σ H F D, SR X.K X.mg B H F σ τ → σ[i]? = some (some v) → FinS X.K X.mg W B F (f τ) D → t D σ H
theorem DSs.exc {st : List Stmt} {f : FS} (h : DSs X W st f) : DSes X W i v st f := by
  obtain ⟨t, p, q⟩ := h
  exact ⟨t, p, fun B τ σ H F Q s _ h => q B τ σ H F Q s h⟩
theorem dse_ret (h : DVe X W i v e f) : DSes X W i v [.Return (some e) pos] (sRet (vl f)) := by
  obtain ⟨t, pt, q⟩ := h
  refine ⟨_, pss_one (ps_ret pt), fun B τ σ H F D s hv h => ?_⟩
  have h' : FinS X.K X.mg W B F (Fl.of (vl f τ) τ fun s => match s with
    | .bw _ => .bad
    | s => .rt s τ) D := h
  have h2 : FinS X.K X.mg W B F (Fl.of (f τ) τ fun d => .rt (.sh d) τ) D := by
    unfold vl at h'
    cases z : f τ with
    | ok d => rw [z] at h'; exact h'
    | er c => rw [z] at h'; exact h'
    | bad => rw [z] at h'; exact h'
  exact q B τ σ H F _ s hv (FinS.expr s h2 fun d v H1 F1 e p h1 => h1 v σ H1 F1 (Same.refl _) (s.push e (s := .sh d) p (fun d q => by cases q)))
theorem dse_set {k : Nat} {x : Str} {pos' : Pos} {ss : List Stmt} {g : FS} (hN : X.N.Nodup) (hk : X.N[k]? = some x) (hx : Loc X.env.scope x) (hki : k ≠ i) (h : DVe X W i v e f) (hr : DSes X W i v ss g) (hs : swapsWith e (some (.Name x pos')) pos.line X.env = pure false := by rfl) (hf : X.fn x = true ∨ X.env.scope.names.lookup x = some .local := by first | exact .inl rfl | exact .inr rfl | assumption) :
    DSes X W i v (.Assign [.Name x pos'] e pos :: ss) (sSeq (sSet k (vl f)) g) := by
  obtain ⟨t, pt, q⟩ := h
  obtain ⟨u, pu, qu⟩ := hr
  refine ⟨_, pss_cons (ps_set hN hk hx pt hs hf) pu, fun B τ σ H F D s hv h => ?_⟩
  have h2 : FinS X.K X.mg W B F (Fl.of (f τ) τ fun d => (Fl.put τ k (.sh d)).seq g) D := by
    have h' : FinS X.K X.mg W B F ((Fl.of (vl f τ) τ fun s => Fl.put τ k s).seq g) D := h
    unfold vl at h'
    cases z : f τ with
    | ok d => rw [z] at h'; exact h'
    | er c => rw [z] at h'; exact h'
    | bad => rw [z] at h'; exact h'
  refine q B τ σ H F _ s hv (FinS.expr s h2 fun d v' H1 F1 e p h1 => ?_)
  unfold Fl.put at h1
  cases z : τ[k]? with
  | none => rw [z] at h1; exact h1.elim
  | some y =>
    rw [z] at h1
    have hi : k < τ.length := (List.getElem?_eq_some_iff.mp z).1
    dsimp only at h1
    split at h1
    · exact h1.elim
    · rename_i hn
      rw [Bool.or_eq_true, not_or] at hn
      refine qu B _ _ H1 F1 D (s.put hi (fun d q => by rw [z] at q; cases q; exact hn.1 rfl) e (s := .sh d) p (fun d q => by cases q)) ?_ h1
      rw [List.getElem?_set_ne hki]
      exact hv
end
/-- what K says of an own class whose errors are asked for -/
structure ExI (K : PySem.W.Frag) (mg : Str → Option Value) (c : Str) : Prop where
  ex : ∃ C, mg c = some (.ref C) ∧ ExcC K C
def isB (b : Bool) : Tau → R D := fun _ => .ok (.bl b)
section
variable {X : Cx} {i : Nat} {a : Addr} {oe : Obj} {pn : List (Addr × Obj)} {x t c : Str} {p pt pos q1 : Pos} {b : Bool} {T : String} {W : WX}
/-- isinstance(e, T), T a name of a built-in class, an own class -/
theorem dve_is {ce : Expr} {v : V} {u : Value} (E : ExI X.K X.mg c) (hz : L2N.Zn (cv X.mg c) none oe) (hf : ∃ vs, oe.data = .fields vs) (hk : PySem.W.kitOne X.K (cv X.mg c) u = some b) (hce : PE (X.suite a ((a, oe) :: pn)) ce (tC v)) (hu : ∀ w, RelV v w → w = u)
    (hN : X.N[i]? = some x) (hv : Vis X.env.scope x) (hd : (x == ("__debug__" : Str)) = false) (hcd : (x == ("__classdict__" : Str)) = false) (hg : Gl X "isinstance") (hm : X.mg "isinstance" = none)
    (h1 : starEach [.Name x q1, ce] X.env = (false, eval (.Name x q1) X.env) :: starEach [ce] X.env := by rfl) (h2 : starEach [ce] X.env = (false, eval ce X.env) :: starEach [] X.env := by rfl) (hpl : (backTo pos (starEach [ce] X.env)).any (·.1) = false := by rfl) :
    DVe (X.suite a ((a, oe) :: pn)) W i (.ref a) (.Call (.Name "isinstance" p) [.Name x q1, ce] [] pos) (isB b) := by
  obtain ⟨C, hc, ec⟩ := E.ex
  have e : cv X.mg c = .ref C := by unfold cv; rw [hc]; rfl
  rw [e] at hz hk
  refine ⟨_, pe_callB (call_isE ec hz.zc hf) hg hm boot_isinstance (pa_cons (pe_var (i := i) hN hv hd hcd) (pa_cons hce pa_nil h2) h1) (he := h1) (hpl := hpl), fun B τ σ H F Q s hv h => ?_⟩
  exact ⟨_, hv, v, u, b, rfl, hu, hk, h _ H F s.refl (.bl b)⟩
theorem clsU_ref {A : Addr} : ∀ w, RelV (.ref A) w → w = .ref A := fun w h => h
theorem clsU_ty {T : String} : ∀ w, RelV (.ty T) w → w = .type T := fun w h => h
end
def forgetI (i : Nat) (r : Fl) : Fl := match r with
  | .nx τ => .nx (τ.set i .un)
  | .rt s τ => .rt s τ
  | _ => .bad
def sTryAs (cs : List Str) (m : Str → Str → Bool) (h : Str) (i : Nat) (f : Str → FS) (b : FS) : FS := fun τ => match b τ with
  | .er c τ' => if c ∈ cs then (if m c h then (if i < τ'.length then forgetI i (f c (τ'.set i .un)) else .bad) else .er c τ') else .bad
  | r => r
section
variable {X : Cx} {W : WX} {body : List Stmt} {b : FS} {pos np pos' : Pos} {cs : List Str} {m : Str → Str → Bool} {h n : Str} {i : Nat} {f : Str → FS} {b₀ : Stmt} {suite : List Stmt}
theorem ds_tryAs (hs : X.stack = X.env :: X.outer) (hf : X.env.frame = some X.env.locals) (hN : X.N.Nodup) (hi : X.N[i]? = some n) (hln : X.env.kindOf n = some .local) (tk : L2N.Takes X W) (hm : ExmD X.K X.mg cs [h] m) (hc : Names X h (cv X.mg h))
    (hb : ∀ (W : WX) (pn : List (Addr × Obj)) (xe : Value → Shared → Prop), L2N.Takes (X.tr pn xe) W → PassesOwn (model X.prog X.w) X.A X.env xe → DSs (X.tr pn xe) W body b)
    (hsu : ∀ (c : Str) (a : Addr) (oe : Obj) (pn : List (Addr × Obj)), c ∈ cs → L2N.Zn (cv X.mg c) none oe → (∃ vs, oe.data = .fields vs) → DSes (X.suite a ((a, oe) :: pn)) W0 i (.ref a) (b₀ :: suite) (f c)) :
    DS X W (.Try body [.ExceptHandler (some (.Name h np)) (some n) (b₀ :: suite) pos'] [] [] pos) (sTryAs cs m h i f b) := by
  refine ⟨_, L2N.ps_try_as (Wout := W) (tb := fun W => cS X.K X.mg W b) (ts := fun a cls d => fun D σ H => ∃ c, c ∈ cs ∧ cls = cv X.mg c ∧ d = none ∧ σ[i]? = some (some (.ref a)) ∧ ∃ B τ F, SR X.K X.mg B H F σ τ ∧ FinS X.K X.mg W0 B F (f c τ) D) hs hf hN hi hln hc tk (fun W pn xe t p => (hb W pn xe t p).canon) (fun a oe cls d pn hz hfl => ?_), fun B τ σ H F D s h => ⟨B, τ, F, s, ?_⟩⟩
  · refine ⟨fun pins s σ H D I w => ?_⟩
    obtain ⟨c, hcs, rfl, rfl, e, B, τ, F, sr, fi⟩ := w
    obtain ⟨t, pt, q⟩ := hsu c a oe pn hcs hz hfl
    exact pt.run pins s σ H D I (q B τ σ H F D sr e fi)
  · unfold sTryAs at h
    cases z : b τ with
    | nx τ' => rw [z] at h; exact h
    | rt s τ' => rw [z] at h; exact h
    | bad => rw [z] at h; exact h
    | er c τ' =>
      rw [z] at h
      dsimp only at h
      split at h
      · rename_i hc
        intro σ' H' F' e t
        refine ⟨_, hm c hc _ (by simp), fun hy a _ => ?_, fun hn => ?_⟩
        · rw [if_pos hy] at h
          split at h
          · rename_i hil
            have hil' : i < σ'.length := by rw [t.len]; exact hil
            refine ⟨c, hc, rfl, rfl, List.getElem?_set_self hil', B, _, F', t.forget hil (some (.ref a)), ?_⟩
            cases z2 : f c (τ'.set i .un) with
            | nx τ2 =>
              rw [z2] at h
              intro σ2 H2 F2 e2 t2
              have h' : ∀ σ' H' F', Same F F' → SR X.K X.mg B H' F' σ' (τ2.set i .un) → D.nx σ' H' := h
              refine h' _ H2 F2 (e.trans e2) ?_
              by_cases hl : i < τ2.length
              · exact t2.forget hl none
              · rw [List.set_eq_of_length_le (by rw [t2.len]; omega), List.set_eq_of_length_le (by omega)]
                exact t2
            | rt s τ2 =>
              rw [z2] at h
              exact FinS.older e (r := .rt s τ2) h
            | er c τ2 => rw [z2] at h; exact h.elim
            | bad => rw [z2] at h; exact h.elim
          · exact h.elim
        · rw [if_neg (by simp [hn])] at h
          have h' : ∀ σ' H' F', Same F F' → SR X.K X.mg B H' F' σ' τ' → W (cv X.mg c) none σ' H' := h
          exact h' σ' H' F' e t
      · exact h.elim
end
end DL
end

section
set_option Elab.async false
set_option linter.all false
set_option maxRecDepth 100000
namespace DL
open PySem PySem.Spec PyProof.Rows L2

/-! ### a slot's thing becomes shared -/
theorem Own.flat {K : PySem.W.Frag} {mg : Str → Option Value} {H F : Hp} {d : D} {a : Addr} {fp : List Addr} (o : Own K mg H F d a fp) (hf : d.flat1 = true) : fp = [a] := by
  cases o <;> first | rfl | cases hf
theorem Own.frz {K : PySem.W.Frag} {mg : Str → Option Value} {H F F' : Hp} {d : D} {a : Addr} {fp : List Addr} {vv : HO} (o : Own K mg H F d a fp) (hf : d.flat1 = true) (hv : H a = some vv) (sm : Same F F') (e : F' a = some vv) : Rep K F' (.ref a) d := by
  cases o with
  | lst h r => rw [h] at hv; cases hv; exact .lst (SqL.of e) (r.mono sm)
  | dS h r => rw [h] at hv; cases hv; exact .dS (.inl e) (r.mono sm)
  | dT h r => rw [h] at hv; cases hv; exact .dT (.inl e) (r.mono sm)
  | obj _ _ _ _ => cases hf
def frzT (i : Nat) (τ : Tau) : Tau := match τ[i]? with
  | some (.ow d) => if d.flat1 then τ.set i (.sh d) else τ
  | _ => τ
theorem SR.frz {K : PySem.W.Frag} {mg : Str → Option Value} {B : Base} {H F : Hp} {σ : St} {τ : List Sl} (r : SR K mg B H F σ τ) (i : Nat) : ∃ F', Same F F' ∧ SR K mg B H F' σ (frzT i τ) := by
  unfold frzT
  cases z : τ[i]? with
  | none => exact ⟨F, Same.refl _, r⟩
  | some s =>
    cases s with
    | ow d =>
      dsimp only
      split
      · rename_i hf
        have hi : i < τ.length := (List.getElem?_eq_some_iff.mp z).1
        obtain ⟨fq, h1, h2, h3⟩ := r.slots
        obtain ⟨a, e1, o, nd, q⟩ := h1 i _ z
        obtain ⟨vv, hv⟩ := o.there a o.root
        have q0 := q a o.root
        have hfp : fq i = [a] := o.flat hf
        have sm : Same F (upd F a vv) := fun b u hb => by rw [upd_ne (ne_of_none hb q0.1)]; exact hb
        have rep : Rep K (upd F a vv) (.ref a) d := o.frz hf hv.1 sm upd_same
        refine ⟨_, sm, r.keep, r.live, r.ff0.trans sm, fun b u hb => ?_, fun b hb => ?_, by rw [List.length_set]; exact r.len, fun j => if j = i then [] else fq j, fun j s q' => ?_, fun j q' => ?_, fun j k b ha hb => ?_⟩
        · by_cases hab : b = a
          · subst hab; rw [upd_same] at hb; cases hb; exact hv.1
          · rw [upd_ne hab] at hb; exact r.fh b u hb
        · by_cases hab : b = a
          · subst hab; exact .inr (.none q0.2)
          · rw [upd_ne hab] at hb; exact r.new b hb
        · by_cases hj : j = i
          · subst hj
            rw [List.getElem?_set_self hi] at q'
            cases q'
            dsimp only
            rw [if_pos rfl]
            exact ⟨rfl, _, e1, rep⟩
          · rw [List.getElem?_set_ne (Ne.symm hj)] at q'
            dsimp only
            rw [if_neg hj]
            have okj := h1 j s q'
            have ap : ∀ b ∈ fq j, F b = none → upd F a vv b = none := fun b hb hn => by
              rw [upd_ne (fun z => hj (h3 j i b hb (by rw [hfp, z]; simp)))]; exact hn
            cases s with
            | un => exact okj
            | bw _ => exact okj
            | sh d => obtain ⟨z, x, e1, rp⟩ := okj; exact ⟨z, x, e1, rp.mono sm⟩
            | ow d => obtain ⟨a', e1, oj, n, qj⟩ := okj; exact ⟨a', e1, oj.keep sm (fun _ _ _ h => h), n, fun b hb => ⟨ap b hb (qj b hb).1, (qj b hb).2⟩⟩
            | io d => obtain ⟨a', e1, e2, oj, n, qj⟩ := okj; exact ⟨a', e1, e2, oj.keep sm (fun _ _ _ h => h), n, fun b hb => ⟨ap b hb (qj b hb).1, (qj b hb).2⟩⟩
        · by_cases hj : j = i
          · subst hj; dsimp only; rw [if_pos rfl]
          · rw [List.getElem?_set_ne (Ne.symm hj)] at q'
            dsimp only; rw [if_neg hj]; exact h2 j q'
        · dsimp only at ha hb
          by_cases hj : j = i
          · rw [if_pos hj] at ha; cases ha
          · by_cases hk : k = i
            · rw [if_pos hk] at hb; cases hb
            · rw [if_neg hj] at ha; rw [if_neg hk] at hb; exact h3 j k b ha hb
      · exact ⟨F, Same.refl _, r⟩
    | _ => exact ⟨F, Same.refl _, r⟩
def sFrz (i : Nat) (f : FS) : FS := fun τ => f (frzT i τ)
theorem ds_frz {X : Cx} {W : WX} {st : Stmt} {f : FS} (i : Nat) (h : DS X W st f) : DS X W st (sFrz i f) := by
  obtain ⟨t, pt, q⟩ := h
  refine ⟨t, pt, fun B τ σ H F D s h => ?_⟩
  obtain ⟨F', sm, s'⟩ := s.frz i
  exact q B _ σ H F' D s' (FinS.older sm h)
theorem dss_frz {X : Cx} {W : WX} {st : List Stmt} {f : FS} (i : Nat) (h : DSs X W st f) : DSs X W st (sFrz i f) := by
  obtain ⟨t, pt, q⟩ := h
  refine ⟨t, pt, fun B τ σ H F D s h => ?_⟩
  obtain ⟨F', sm, s'⟩ := s.frz i
  exact q B _ σ H F' D s' (FinS.older sm h)

/-! ### a dict is locked while its keys are walked -/
def lkB (H : Hp) (d : Addr) (od : Obj) (u : HO) : Hp := match H d with
  | none => H
  | some _ => upd H d (.frz od u)
theorem lkB_ne {H : Hp} {d : Addr} {od : Obj} {u : HO} {a : Addr} (h : a ≠ d) : lkB H d od u a = H a := by
  unfold lkB
  cases H d with
  | none => rfl
  | some _ => exact upd_ne h
theorem lkB_at {H : Hp} {d : Addr} {od : Obj} {u : HO} {o : HO} (h : lkB H d od u d = some o) : o = .frz od u ∧ ∃ o', H d = some o' := by
  unfold lkB at h
  cases z : H d with
  | none => rw [z] at h; dsimp only at h; rw [z] at h; cases h
  | some o' =>
    rw [z] at h
    dsimp only at h
    rw [upd_same] at h
    cases h
    exact ⟨rfl, o', rfl⟩
theorem rd_lock {F : Hp} {d a : Addr} {od : Obj} {u w : HO} (hd : F d = some u) (nu : ∀ o v, u ≠ .frz o v) (h : Rd F a w) : Rd (upd F d (.frz od u)) a w := by
  by_cases e : a = d
  · subst e
    rcases h with h | ⟨o, h⟩
    · rw [hd] at h
      cases h
      exact .inr ⟨od, upd_same⟩
    · rw [hd] at h
      cases h
      exact absurd rfl (nu _ _)
  · rcases h with h | ⟨o, h⟩
    · exact .inl (by rw [upd_ne e]; exact h)
    · exact .inr ⟨o, by rw [upd_ne e]; exact h⟩
theorem rd_unlock {F : Hp} {d a : Addr} {od : Obj} {u w : HO} (hd : F d = some (.frz od u)) (nw : ∀ o v, w ≠ .frz o v) (h : Rd F a w) : Rd (upd F d u) a w := by
  by_cases e : a = d
  · subst e
    rcases h with h | ⟨o, h⟩
    · rw [hd] at h
      cases h
      exact absurd rfl (nw _ _)
    · rw [hd] at h
      cases h
      exact .inl upd_same
  · rcases h with h | ⟨o, h⟩
    · exact .inl (by rw [upd_ne e]; exact h)
    · exact .inr ⟨o, by rw [upd_ne e]; exact h⟩
/-- the shared part is another one that tells the same -/
structure ReMap (K : PySem.W.Frag) (F F' : Hp) : Prop where
  tup : ∀ a xs, F a = some (.tup xs) → F' a = some (.tup xs)
  rd : ∀ a w, (∀ o v, w ≠ HO.frz o v) → Rd F a w → Rd F' a w
theorem ReMap.sq {K : PySem.W.Frag} {F F' : Hp} (m : ReMap K F F') {a : Addr} {vs : List V} (h : SqL K F a vs) : SqL K F' a vs := h.elim (fun h => .inl (m.rd _ _ (fun _ _ q => nomatch q) h)) .inr
theorem ReMap.dK {K : PySem.W.Frag} {F F' : Hp} (m : ReMap K F F') {a : Addr} {vs : List (Key × V)} (h : Rd F a (.dK vs)) : Rd F' a (.dK vs) := m.rd _ _ (fun _ _ q => nomatch q) h
theorem ReMap.dT {K : PySem.W.Frag} {F F' : Hp} (m : ReMap K F F') {a : Addr} {vs : List (List Key × V)} (h : Rd F a (.dT vs)) : Rd F' a (.dT vs) := m.rd _ _ (fun _ _ q => nomatch q) h
mutual
theorem Rep.remap {K : PySem.W.Frag} {F F' : Hp} (m : ReMap K F F') : ∀ {v : V} {d : D}, Rep K F v d → Rep K F' v d
  | _, _, .non => .non
  | _, _, .bl b => .bl b
  | _, _, .int i => .int i
  | _, _, .str x => .str x
  | _, _, .tup h r => .tup (m.tup _ _ h) (RepL.remap m r)
  | _, _, .lst h r => .lst (m.sq h) (RepL.remap m r)
  | _, _, .dS h r => .dS (m.dK h) (RepS.remap m r)
  | _, _, .dT h r => .dT (m.dT h) (RepT.remap m r)
theorem RepL.remap {K : PySem.W.Frag} {F F' : Hp} (m : ReMap K F F') : ∀ {v : List V} {d : List D}, RepL K F v d → RepL K F' v d
  | _, _, .nil => .nil
  | _, _, .cons h r => .cons (Rep.remap m h) (RepL.remap m r)
theorem RepS.remap {K : PySem.W.Frag} {F F' : Hp} (m : ReMap K F F') : ∀ {v : List (Key × V)} {d : List (Str × D)}, RepS K F v d → RepS K F' v d
  | _, _, .nil => .nil
  | _, _, .cons h r => .cons (Rep.remap m h) (RepS.remap m r)
theorem RepT.remap {K : PySem.W.Frag} {F F' : Hp} (m : ReMap K F F') : ∀ {v : List (List Key × V)} {d : List (List Str × D)}, RepT K F v d → RepT K F' v d
  | _, _, .nil => .nil
  | _, _, .cons h r => .cons (Rep.remap m h) (RepT.remap m r)
end
mutual
theorem Own.remap {K : PySem.W.Frag} {mg : Str → Option Value} {H H' F F' : Hp} (m : ReMap K F F') : ∀ {d : D} {a : Addr} {fp : List Addr}, Own K mg H F d a fp → (∀ b ∈ fp, ∀ o, H b = some o → H' b = some o) → Own K mg H' F' d a fp
  | _, _, _, .lst h r, k => .lst (k _ (by simp) _ h) (r.remap m)
  | _, _, _, .dS h r, k => .dS (k _ (by simp) _ h) (r.remap m)
  | _, _, _, .dT h r, k => .dT (k _ (by simp) _ h) (r.remap m)
  | _, _, _, .obj g h h2 r, k => .obj g (k _ (by simp) _ h) (k _ (by simp) _ h2) (OwnF.remap m r fun b hb => k b (by simp [hb]))
theorem OwnF.remap {K : PySem.W.Frag} {mg : Str → Option Value} {H H' F F' : Hp} (m : ReMap K F F') : ∀ {vs : List (Str × V)} {d : List (Str × Bool × D)} {fp : List Addr}, OwnF K mg H F vs d fp → (∀ b ∈ fp, ∀ o, H b = some o → H' b = some o) → OwnF K mg H' F' vs d fp
  | _, _, _, .nil, k => .nil
  | _, _, _, .sh h r, k => .sh (h.remap m) (OwnF.remap m r k)
  | _, _, _, .ow h r, k => .ow (Own.remap m h fun b hb => k b (by simp [hb])) (OwnF.remap m r fun b hb => k b (by simp [hb]))
end
theorem remap_lock {K : PySem.W.Frag} {F : Hp} {d : Addr} {od : Obj} {u : HO} (hd : F d = some u) (nu : ∀ o v, u ≠ .frz o v) (nt : ∀ xs, u ≠ .tup xs) : ReMap K F (upd F d (.frz od u)) :=
  ⟨fun a xs h => by
    rw [upd_ne (fun q => by subst q; rw [hd] at h; cases h; exact nt _ rfl)]; exact h, fun a w _ h => rd_lock hd nu h⟩
theorem remap_unlock {K : PySem.W.Frag} {F : Hp} {d : Addr} {od : Obj} {u : HO} (hd : F d = some (.frz od u)) : ReMap K F (upd F d u) :=
  ⟨fun a xs h => by
    rw [upd_ne (fun q => by subst q; rw [hd] at h; cases h)]; exact h, fun a w nw h => rd_unlock hd nw h⟩
def Base.lk (B : Base) (d : Addr) (od : Obj) (u : HO) : Base := ⟨lkB B.H0 d od u, lkB B.F0 d od u, B.Z, B.ρ⟩
section
variable {K : PySem.W.Frag} {mg : Str → Option Value} {B : Base} {H F : Hp} {σ : St} {τ : List Sl} {d : Addr} {od : Obj} {u : HO}
theorem SlOk.apart {H' F' : Hp} {i : Nat} {v : Option V} {s : Sl} {fp : List Addr} (h : SlOk K mg B H F i v s fp) : ∀ b ∈ fp, F b = none := by
  intro b hb
  cases s with
  | un => rw [show fp = [] from h] at hb; cases hb
  | sh d => rw [h.1] at hb; cases hb
  | bw d => exact h.elim
  | ow d => obtain ⟨_, _, _, _, q⟩ := h; exact (q b hb).1
  | io d => obtain ⟨_, _, _, _, _, q⟩ := h; exact (q b hb).1
theorem SR.lock (r : SR K mg B H F σ τ) (hd : F d = some u) (nu : ∀ o v, u ≠ .frz o v) (nt : tupB u = false) : SR K mg (B.lk d od u) (upd H d (.frz od u)) (upd F d (.frz od u)) σ τ := by
  have hH := r.fh _ _ hd
  have m : ReMap K F (upd F d (.frz od u)) := remap_lock hd nu (fun xs q => by subst q; cases nt)
  obtain ⟨fq, h1, h2, h3⟩ := r.slots
  refine ⟨fun a o ha hz => ?_, fun a o ha => ?_, fun a o ha => ?_, fun a o ha => ?_, fun a ha => ?_, r.len, fq, fun i s q => ?_, h2, h3⟩
  · by_cases e : a = d
    · subst e
      obtain ⟨rfl, _⟩ := lkB_at ha
      exact upd_same
    · rw [upd_ne e]
      exact r.keep a o ((lkB_ne e).symm.trans (show lkB B.H0 d od u a = some o from ha)) hz
  · by_cases e : a = d
    · subst e
      obtain ⟨rfl, _⟩ := lkB_at ha
      exact ⟨_, upd_same, rfl⟩
    · obtain ⟨o', h4, h5⟩ := r.live a o ((lkB_ne e).symm.trans (show lkB B.H0 d od u a = some o from ha))
      exact ⟨o', by rw [upd_ne e]; exact h4, h5⟩
  · by_cases e : a = d
    · subst e
      obtain ⟨rfl, _⟩ := lkB_at ha
      exact upd_same
    · rw [upd_ne e]
      exact r.ff0 a o ((lkB_ne e).symm.trans (show lkB B.F0 d od u a = some o from ha))
  · by_cases e : a = d
    · subst e
      rw [upd_same] at ha ⊢
      exact ha
    · rw [upd_ne e] at ha ⊢
      exact r.fh a o ha
  · by_cases e : a = d
    · subst e
      rcases r.new a (by rw [hd]; simp) with z | z
      · refine .inl ?_
        show lkB B.F0 a od u a ≠ none
        unfold lkB
        cases y : B.F0 a with
        | none => exact absurd y z
        | some _ => dsimp only; rw [upd_same]; simp
      · refine .inr fun o ho => ?_
        obtain ⟨rfl, o', h5⟩ := lkB_at ho
        obtain ⟨o2, h6, h7⟩ := r.live a o' h5
        have := z o' h5
        rw [hH] at h6
        cases h6
        rw [← h7, nt] at this
        cases this
    · rw [upd_ne e] at ha
      rcases r.new a ha with z | z
      · exact .inl (by show lkB B.F0 d od u a ≠ none; rw [lkB_ne e]; exact z)
      · exact .inr fun o ho => z o ((lkB_ne e).symm.trans (show lkB B.H0 d od u a = some o from ho))
  · have ok := h1 i s q
    have nd : ∀ b ∈ fq i, b ≠ d := fun b hb e => by
      have := (SlOk.apart (H' := H) (F' := F) ok) b hb
      rw [e, hd] at this; cases this
    have apF : ∀ b ∈ fq i, F b = none → upd F d (.frz od u) b = none := fun b hb hn => by rw [upd_ne (nd b hb)]; exact hn
    have keepH : ∀ b ∈ fq i, ∀ o, H b = some o → upd H d (.frz od u) b = some o := fun b hb o ho => by rw [upd_ne (nd b hb)]; exact ho
    have h0 : ∀ b ∈ fq i, B.H0 b = none → lkB B.H0 d od u b = none := fun b hb hn => by rw [lkB_ne (nd b hb)]; exact hn
    cases s with
    | un => exact ok
    | bw _ => exact ok
    | sh x => obtain ⟨z, v, e1, rp⟩ := ok; exact ⟨z, v, e1, rp.remap m⟩
    | ow x => obtain ⟨a, e1, o, n, q⟩ := ok; exact ⟨a, e1, o.remap m keepH, n, fun b hb => ⟨apF b hb (q b hb).1, h0 b hb (q b hb).2⟩⟩
    | io x => obtain ⟨a, e1, e2, o, n, q⟩ := ok; exact ⟨a, e1, e2, o.remap m keepH, n, fun b hb => ⟨apF b hb (q b hb).1, (q b hb).2.imp (h0 b hb) id⟩⟩
/-- .. and unlocked -/
theorem SR.unlock {H' F' : Hp} {σ' : St} {τ' : List Sl} (r0 : SR K mg B H F σ τ) (hd : F d = some u) (nu : ∀ o v, u ≠ .frz o v) (nt : tupB u = false) (r : SR K mg (B.lk d od u) H' F' σ' τ') (sm : Same (upd F d (.frz od u)) F') :
    H' d = some (.frz od u) ∧ Same F (upd F' d u) ∧ SR K mg B (upd H' d u) (upd F' d u) σ' τ' := by
  have fd : F' d = some (.frz od u) := sm _ _ upd_same
  have hHd : H' d = some (.frz od u) := r.fh _ _ fd
  have hH := r0.fh _ _ hd
  have m : ReMap K F' (upd F' d u) := remap_unlock fd
  obtain ⟨fq, h1, h2, h3⟩ := r.slots
  refine ⟨hHd, fun a o ha => ?_, fun a o ha hz => ?_, fun a o ha => ?_, fun a o ha => ?_, fun a o ha => ?_, fun a ha => ?_, r.len, fq, fun i s q => ?_, h2, h3⟩
  · by_cases e : a = d
    · subst e
      rw [hd] at ha
      cases ha
      exact upd_same
    · rw [upd_ne e]
      exact sm _ _ (by rw [upd_ne e]; exact ha)
  · by_cases e : a = d
    · subst e
      have := r0.keep a o ha hz
      rw [hH] at this
      cases this
      exact upd_same
    · rw [upd_ne e]
      exact r.keep a o (by show lkB B.H0 d od u a = some o; rw [lkB_ne e]; exact ha) hz
  · by_cases e : a = d
    · subst e
      obtain ⟨o', h4, h5⟩ := r0.live a o ha
      rw [hH] at h4
      cases h4
      exact ⟨u, upd_same, h5⟩
    · obtain ⟨o', h4, h5⟩ := r.live a o (by show lkB B.H0 d od u a = some o; rw [lkB_ne e]; exact ha)
      exact ⟨o', by rw [upd_ne e]; exact h4, h5⟩
  · by_cases e : a = d
    · subst e
      have := r0.ff0 a o ha
      rw [hd] at this
      cases this
      exact upd_same
    · rw [upd_ne e]
      exact r.ff0 a o (by show lkB B.F0 d od u a = some o; rw [lkB_ne e]; exact ha)
  · by_cases e : a = d
    · subst e
      rw [upd_same] at ha ⊢
      exact ha
    · rw [upd_ne e] at ha ⊢
      exact r.fh a o ha
  · by_cases e : a = d
    · subst e
      exact r0.new a (by rw [hd]; simp)
    · rw [upd_ne e] at ha
      rcases r.new a ha with z | z
      · exact .inl (by rw [← lkB_ne (H := B.F0) (od := od) (u := u) e]; exact z)
      · exact .inr fun o ho => z o (by show lkB B.H0 d od u a = some o; rw [lkB_ne e]; exact ho)
  · have ok := h1 i s q
    have nd : ∀ b ∈ fq i, b ≠ d := fun b hb e => by
      have := (SlOk.apart (H' := H') (F' := F') ok) b hb
      rw [e, fd] at this; cases this
    have apF : ∀ b ∈ fq i, F' b = none → upd F' d u b = none := fun b hb hn => by rw [upd_ne (nd b hb)]; exact hn
    have keepH : ∀ b ∈ fq i, ∀ o, H' b = some o → upd H' d u b = some o := fun b hb o ho => by rw [upd_ne (nd b hb)]; exact ho
    have h0 : ∀ b ∈ fq i, lkB B.H0 d od u b = none → B.H0 b = none := fun b hb hn => by rw [lkB_ne (nd b hb)] at hn; exact hn
    cases s with
    | un => exact ok
    | bw _ => exact ok
    | sh x => obtain ⟨z, v, e1, rp⟩ := ok; exact ⟨z, v, e1, rp.remap m⟩
    | ow x => obtain ⟨a, e1, o, n, q⟩ := ok; exact ⟨a, e1, o.remap m keepH, n, fun b hb => ⟨apF b hb (q b hb).1, h0 b hb (q b hb).2⟩⟩
    | io x => obtain ⟨a, e1, e2, o, n, q⟩ := ok; exact ⟨a, e1, e2, o.remap m keepH, n, fun b hb => ⟨apF b hb (q b hb).1, (q b hb).2.imp (h0 b hb) id⟩⟩
end
end DL
end

section
set_option Elab.async false
set_option linter.all false
set_option maxRecDepth 100000
namespace DL
open PySem PySem.Spec PyProof.Rows L2
theorem hu_of {k : Nat} {A : Around} (r : Room k A) : A.units + 64 < cLine := by
  have := r.un
  omega

/-! ### [.. for x in d ..], d a dict that a slot shares -/
def iKD (j : Nat) : Tau → R (List D) := fun τ => match τ[j]? with
  | some (.sh (.dT kvs)) => .ok (kvs.map fun kv => .tup (kv.1.map .str))
  | _ => .bad
theorem repT_key {K : PySem.W.Frag} {F : Hp} {k : List Key} {v : V} : ∀ {kvs : List (List Key × V)} {ds : List (List Str × D)} {i : Nat}, RepT K F kvs ds → kvs[i]? = some (k, v) → ∃ w : List Str, k = w.map Sum.inr ∧ (ds.map fun kv => D.tup (kv.1.map .str))[i]? = some (.tup (w.map .str))
  | _, _, _, .nil, h => by simp at h
  | _, _, 0, .cons (w := w) (v := v') _ _, h => by
    have h' : some (w.map (Sum.inr : Str → Key), v') = some (k, v) := h
    cases h'
    exact ⟨w, rfl, rfl⟩
  | _, _, i + 1, .cons _ t, h => repT_key (i := i) t (by simpa using h)
theorem over_keys {K : PySem.W.Frag} {d : Addr} {od : Obj} {F : Hp} : ∀ {kvs : List (List Key × V)} {ds : List (List Str × D)}, F d = some (.frz od (.dT kvs)) → RepT K F kvs ds → OverD K (Itkt d od kvs) (ds.map fun kv => .tup (kv.1.map .str)) F := by
  intro kvs ds hd r i H F' e1 e2
  have hH : H d = some (.frz od (.dT kvs)) := e2 _ _ (e1 _ _ hd)
  rw [List.length_map, ← r.length]
  refine ⟨fun hi => ⟨⟨hH, hi⟩, fun x H' y => ?_⟩, fun hi => ⟨hH, hi⟩⟩
  obtain ⟨e, k, v, q, hk, rfl, hq⟩ := y
  obtain ⟨w, rfl, ew⟩ := repT_key r hk
  refine ⟨e, allT F' H, _, allT_ext (Same.refl H) e2, ew, .tup (allT_tup e2 hq) ?_⟩
  exact rep_strs w
section
variable {X : Cx} {W : WX} {elt : Expr} {ifs : List Expr} {e : Tau → R D} {t : Tau → R Bool} {k : Nat}
theorem PE.or {e : Expr} {a b : TE} (ha : PE X e a) (hb : PE X e b) : PE X e (fun σ H Q => a σ H Q ∨ b σ H Q) :=
  ⟨fun pins s σ H Q I h => h.elim (ha.run pins s σ H Q I) (hb.run pins s σ H Q I)⟩
theorem Ext.unlock {H F H' F' : Hp} {d : Addr} {od : Obj} {u : HO} (sF : Same F H) (hd : F d = some u) (x : Ext (upd H d (.frz od u)) (upd F d (.frz od u)) H' F') : H' d = some (.frz od u) ∧ Ext H F (upd H' d u) (upd F' d u) := by
  have hH := sF _ _ hd
  refine ⟨x.hh _ _ upd_same, fun a o ha => ?_, fun a o ha => ?_, fun a o ha => ?_, fun a ha => ?_⟩
  · by_cases e : a = d
    · subst e; rw [hH] at ha; cases ha; exact upd_same
    · rw [upd_ne e]; exact x.hh a o (by rw [upd_ne e]; exact ha)
  · by_cases e : a = d
    · subst e; rw [hd] at ha; cases ha; exact upd_same
    · rw [upd_ne e]; exact x.ff a o (by rw [upd_ne e]; exact ha)
  · by_cases e : a = d
    · subst e; rw [upd_same] at ha ⊢; exact ha
    · rw [upd_ne e] at ha ⊢; exact x.fh a o ha
  · by_cases e : a = d
    · subst e; exact .inl (by rw [hd]; simp)
    · rw [upd_ne e] at ha
      rcases x.new a ha with z | z
      · rw [upd_ne e] at z; exact .inl z
      · exact .inr fun o ho => z o (by rw [upd_ne e]; exact ho)
theorem dp_lcK {scope : Scope} {own : List (Str × Nat)} {pos tpos vpos : Pos} {x y : Str} (j : Nat) (hc : X.calm = true) (hN : X.N.Nodup) (ok : BlkOk X.N X.env.scope scope own)
    (hj : X.N[j]? = some y) (hv : Vis X.env.scope y) (hd : (y == ("__debug__" : Str)) = false) (hcd : (y == ("__classdict__" : Str)) = false)
    (hg : ∀ (s : Shared) (H : Hp) (C : Addr) (cl : List (Str × Addr)) (fp : List Addr), PG (X.blk s H scope (compEnvC scope cl C X.env) fp) (.Name x tpos) (gName k))
    (ht : ∀ (s : Shared) (H : Hp) (C : Addr) (cl : List (Str × Addr)) (fp : List Addr), DTs (X.blk s H scope (compEnvC scope cl C X.env) fp) W0 ifs t)
    (he : ∀ (s : Shared) (H : Hp) (C : Addr) (cl : List (Str × Addr)) (fp : List Addr), DV (X.blk s H scope (compEnvC scope cl C X.env) fp) W0 elt e) (hs : ∀ z, foldedSetIterable (.Name y vpos) X.env z = pure z := by intro _; rfl) :
    DP X W (.ListComp elt [⟨.Name x tpos, .Name y vpos, ifs, 0⟩] scope pos) (lcD (own.map (·.2)) k (iKD j) t e) := by
  have base := pe_lc (pos := pos) (te := cV X.K X.mg W0 e) (tt := cT X.K X.mg W0 t) (tg := .Name x tpos) hc hN (pi_keys (tg := .Name x tpos) (pe_var (pos := vpos) hj hv hd hcd)) ok hg (fun s H C cl fp => (ht s H C cl fp).canon) (fun s H C cl fp => (he s H C cl fp).canon) hs
  refine ⟨_, PE.or (pe_lock base) base, fun B τ σ H F Q s h => ?_⟩
  unfold lcD iKD at h
  cases z : τ[j]? with
  | none => rw [z] at h; exact h.elim
  | some sl =>
    rw [z] at h
    cases sl <;> try exact h.elim
    rename_i d
    cases d <;> try exact h.elim
    rename_i ds
    rw [R.bind_ok] at h
    obtain ⟨⟨hz, hk, hkl⟩, h2⟩ := Fin.ite (C := (ds.map fun kv => D.tup (kv.1.map .str)).length ≤ sizeLine ∧ k ∈ own.map (·.2) ∧ k < τ.length) h
    cases zz : strip (lcL (own.map (·.2)) k t e τ (ds.map fun kv => D.tup (kv.1.map .str))) with
    | er c => cases y : lcL (own.map (·.2)) k t e τ (ds.map fun kv => D.tup (kv.1.map .str)) <;> rw [y] at zz <;> cases zz
    | bad => rw [zz] at h2; exact h2.elim
    | ok all =>
      rw [zz] at h2
      have h3 : ∀ v H' F', Ext H F H' F' → Br X.K X.mg H H' F' v (.ow (.lst all)) → Q v H' := h2
      obtain ⟨fp, _, v, ev, rp⟩ := s.get z
      cases rp with
      | @dT a kvs _ hr r =>
        rcases hr with hr | ⟨od, hr⟩
        · refine .inl ⟨a, .dT kvs, s.fh _ _ hr, trivial, fun od => ?_⟩
          have s1 := s.lock (od := od) hr (fun _ _ q => nomatch q) rfl
          refine ⟨_, join_some ev, a, od, rfl, .inr ⟨kvs, upd_same, ?_⟩⟩
          have rm : ReMap X.K F (upd F a (.frz od (.dT kvs))) := remap_lock hr (fun _ _ q => nomatch q) (fun _ q => nomatch q)
          refine lc_over (Q := fun v H' => H' a = some (.frz od (.dT kvs)) ∧ Q v (upd H' a (.dT kvs))) (k := k) (ds := ds.map fun kv => D.tup (kv.1.map .str)) s1 (over_keys upd_same (r.remap rm)) hz hk hkl (strip_ok zz) (Same.refl _) fun v H' F' x b => ?_
          obtain ⟨e1, x2⟩ := Ext.unlock s.fh hr x
          refine ⟨e1, h3 v _ _ x2 ?_⟩
          obtain ⟨a0, fp0, rfl, ow, nd, q⟩ := b
          have fd : F' a = some (.frz od (.dT kvs)) := x.ff _ _ upd_same
          have ne : ∀ b ∈ fp0, b ≠ a := fun b hb e => by
            have := (q b hb).1
            rw [e, fd] at this; cases this
          refine ⟨a0, fp0, rfl, ow.remap (remap_unlock fd) (fun b hb o ho => by rw [upd_ne (ne b hb)]; exact ho), nd, fun b hb => ⟨by rw [upd_ne (ne b hb)]; exact (q b hb).1, ?_⟩⟩
          have := (q b hb).2
          rw [upd_ne (ne b hb)] at this
          exact this
        · refine .inr ⟨_, join_some ev, a, od, rfl, .inr ⟨kvs, s.fh _ _ hr, ?_⟩⟩
          exact lc_over (k := k) (ds := ds.map fun kv => D.tup (kv.1.map .str)) s (over_keys hr r) hz hk hkl (strip_ok zz) (Same.refl _) h3
end

/-! ### l.extend(e), e a new list -/
def extG (p : Plc) (f : Tau → R Sl) : Tau → RG := fun τ => match p.get τ with
  | some (.lst ds) => RG.of (f τ) τ fun s => (match s with
    | .ow (.lst es) => if ds.length + es.length ≤ sizeLine then .ok (.sh .non) (p.put τ (.lst (ds ++ es))) else .bad
    | _ => .bad)
  | _ => .bad
section
variable {X : Cx} {W : WX} {e o : Expr} {pos apos : Pos}
theorem dg_extend {p : Plc} {f : Tau → R Sl} (ho : PlcE X p o) (he : DP X W e f) (hbase : attributeBase o "extend" X.env (eval o X.env) = eval o X.env := by rfl)
    (hfew : ((backTo pos (starEach [e] X.env)).all (fun x => !x.1) && (backToKw pos (keywordEach [] X.env)).all (fun x => x.1.isSome) && decide (([e] : List Expr).length + ([] : List Keyword).length + (if ([] : List Keyword).isEmpty then 0 else 1) < 30)) = true := by rfl)
    (hline : (apos.endLine == pos.line) = true := by rfl) (hs : starEach [e] X.env = (false, eval e X.env) :: starEach [] X.env := by rfl) (hplain : (backTo pos (starEach [] X.env)).any (·.1) = false := by rfl) :
    DG X W (.Call (.Attribute o "extend" apos) [e] [] pos) (extG p f) := by
  obtain ⟨t, pt, q⟩ := ho
  obtain ⟨u, pu, qu⟩ := he
  refine ⟨_, pe_bm PySem.F.plainAttrs_list PySem.F.slot_list_extend PySem.F.type_list_extend mt_extend pt (pa_cons pu pa_nil hs) hbase hfew hline hs hplain, fun B τ σ H F Q s h => ?_⟩
  unfold extG at h
  cases z : p.get τ with
  | none => rw [z] at h; exact h.elim
  | some d =>
    rw [z] at h
    cases d with
    | lst ds =>
      refine q B τ σ H F _ _ s z fun a at' => ?_
      obtain ⟨a', fp, at2, o2, _⟩ := s.focus z
      have ea := at'.inj at2
      subst ea
      refine ⟨tyV_list o2, ?_⟩
      refine qu B τ σ H F _ s (FinG.expr s h fun sl v H1 F1 e1 p1 h1 => ?_)
      cases sl <;> try exact h1.elim
      rename_i d
      cases d <;> try exact h1.elim
      rename_i es
      dsimp only at h1
      split at h1
      · rename_i hl
        have s1 := s.ext e1
        obtain ⟨a1, at3, o3, fa, k⟩ := s1.focus1 z rfl
        have ea := (at'.same e1.hh).inj at3
        subst ea
        obtain ⟨b, fb, rfl, ob, nb, qb⟩ := p1
        cases ob with
        | @lst _ ws _ hw rw' =>
          cases o3 with
          | @lst _ vs _ hv r =>
            refine ⟨a, b, vs, ws, rfl, rfl, hv, hw, by rw [r.length, rw'.length]; exact hl, ?_⟩
            have s2 := k (.lst (ds ++ es)) (.lst (vs ++ ws)) rfl (.lst upd_same (r.append rw'))
            exact h1 _ _ F1 (Same.refl _) (s2.pushSh .non)
      · exact h1.elim
    | _ => exact h.elim
end
end DL
end

section
set_option Elab.async false
set_option linter.all false
set_option maxRecDepth 100000
set_option maxHeartbeats 2000000
/-! iterators that end while an exception is handled -/
namespace DLHot
open PySem PySem.Spec PyProof.Rows HotX Builtin Builtin.Str
section
variable {prog : Program} {w : World} {A : Around} {E : Value → Shared → Prop} {s : Shared} {it x1 : Addr} {Q : Option Value → Shared → Prop} {i : Nat}
/-- what holds behind the end: all but the iterator stands -/
abbrev Beh (it : Addr) (s : Shared) (Q : Option Value → Shared → Prop) : Prop := ∀ h', Heap.ExtBut it s.heap h' → Q none { s with heap := h' }
theorem end_list {l : Addr} {items} (hot : HotAt A x1 s.heap) (hn : x1 ≠ it) (hit : s.heap.IsListIter it l i) (hl : s.heap.IsList l items) (hx : items[i]? = none) (q : Beh it s Q) : wpAny (model prog w) A (pyNext (.ref it)) Q E s := by
  have ⟨o, ho, hc, hd⟩ := hit
  have ⟨ol, hol, _, nl, hdl⟩ := hl
  have ⟨hh, o1, vs1, h1, d1, c1⟩ := hot
  unfold pyNext
  refine wpAny_bind (wpAny_attempt (wpAny_callSpecial?_slot (name := Str.ofString "__next__") hit.typeIs slot_listiter_next (wpAny_call_entry slot_listiter_next hit.typeIs entry_listiter_next ?_ (args_listiter_next _))))
  show wpAny _ _ (field (.ref it) 0 >>= _) _ _ s; refine wpAny_bind (wpAny_field ho hd (x := .ref l) rfl ?_)
  show wpAny _ _ (if (Value.ref l == Value.none) = true then _ else _) _ _ s; rw [if_neg (show ¬ ((Value.ref l == Value.none) = true) from Bool.false_ne_true)]
  show wpAny _ _ (field (.ref it) 1 >>= _) _ _ s; refine wpAny_bind (wpAny_field ho hd (x := .int i 0) rfl ?_)
  show wpAny _ _ (seqItems? (.ref l) >>= _) _ _ s; refine wpAny_bind (wpAny_seqItems hol hdl ?_)
  simp only [Int.toNat_natCast, hx]
  refine wpAny_bind (wpAny_rule (wpAny_bind (wpAny_setField ho hd (by simp) ?_)))
  have h1' : (s.heap.update it (Obj.mapFields (·.setIfInBounds 0 Value.none))).get? x1 = some o1 := by rw [Heap.get?_update_other _ _ (Ne.symm hn)]; exact h1
  have old : ∀ b u, b ≠ it → s.heap.get? b = some u → (s.heap.update it (Obj.mapFields (·.setIfInBounds 0 Value.none))).get? b = some u := fun b u hb e => by rw [Heap.get?_update_other _ _ (Ne.symm hb)]; exact e
  show wpAny _ _ (newExc (.type "StopIteration") [] >>= _) _ _ _; refine wpAny_bind ?_
  simp only [newExc, newTuple]
  refine wpAny_bind (wpAny_newObj_type ?_ (by size_fits)); refine wpAny_bind (m := firstArgMember _ _) (wpAny_of_eq (a := Value.none) (by first | rfl | (simp only [firstArgMember]; rfl)) ?_)
  refine wpAny_newObj_type ?_ (by size_fits)
  refine raiseNew_hot ⟨hh, o1, vs1, Heap.get?_push_of_some _ (Heap.get?_push_of_some _ h1'), d1, c1⟩ (Nat.ne_of_lt (Heap.lt_size (Heap.get?_push_of_some _ h1'))) (Heap.get?_push_size _ rfl) rfl (by first | (simp; done) | (simp; omega) | (simp only [Array.size_append]; simp; omega)) ?_
  refine wpAny_bind (wpAny_isInstance (T := "StopIteration") (b := true) ⟨_, Heap.get?_update_self _ (Heap.get?_push_size _ rfl) rfl, rfl⟩ isSubtype_stop ?_)
  refine wpAny_pure (q _ fun b u hb e => ?_)
  have e2 := old b u hb e
  rw [Heap.get?_update_other _ _ (Nat.ne_of_gt (Heap.lt_size (Heap.get?_push_of_some _ e2)))]
  exact Heap.get?_push_of_some _ (Heap.get?_push_of_some _ e2)
theorem end_tup {t : Addr} {items} (hot : HotAt A x1 s.heap) (hn : x1 ≠ it) (hit : IsTupIter s.heap it t i) (ht : IsTup s.heap t items) (hx : items[i]? = none) (q : Beh it s Q) : wpAny (model prog w) A (pyNext (.ref it)) Q E s := by
  have ⟨o, ho, hc, hd⟩ := hit
  have ⟨ol, hol, _, nl, hdl⟩ := ht
  have ⟨hh, o1, vs1, h1, d1, c1⟩ := hot
  unfold pyNext
  refine wpAny_bind (wpAny_attempt (wpAny_callSpecial?_slot (name := Str.ofString "__next__") hit.typeIs slot_tupleiter_next (wpAny_call_entry slot_tupleiter_next hit.typeIs entry_tupleiter_next ?_ (args_tupleiter_next _))))
  show wpAny _ _ (field (.ref it) 0 >>= _) _ _ s; refine wpAny_bind (wpAny_field ho hd (x := .ref t) rfl ?_)
  show wpAny _ _ (if (Value.ref t == Value.none) = true then _ else _) _ _ s; rw [if_neg (show ¬ ((Value.ref t == Value.none) = true) from Bool.false_ne_true)]
  show wpAny _ _ (field (.ref it) 1 >>= _) _ _ s; refine wpAny_bind (wpAny_field ho hd (x := .int i 0) rfl ?_)
  show wpAny _ _ (seqItems? (.ref t) >>= _) _ _ s; refine wpAny_bind (wpAny_seqItems hol hdl ?_)
  simp only [Int.toNat_natCast, hx]
  refine wpAny_bind (wpAny_rule (wpAny_bind (wpAny_setField ho hd (by simp) ?_)))
  have h1' : (s.heap.update it (Obj.mapFields (·.setIfInBounds 0 Value.none))).get? x1 = some o1 := by rw [Heap.get?_update_other _ _ (Ne.symm hn)]; exact h1
  have old : ∀ b u, b ≠ it → s.heap.get? b = some u → (s.heap.update it (Obj.mapFields (·.setIfInBounds 0 Value.none))).get? b = some u := fun b u hb e => by rw [Heap.get?_update_other _ _ (Ne.symm hb)]; exact e
  show wpAny _ _ (newExc (.type "StopIteration") [] >>= _) _ _ _; refine wpAny_bind ?_
  simp only [newExc, newTuple]
  refine wpAny_bind (wpAny_newObj_type ?_ (by size_fits)); refine wpAny_bind (m := firstArgMember _ _) (wpAny_of_eq (a := Value.none) (by first | rfl | (simp only [firstArgMember]; rfl)) ?_)
  refine wpAny_newObj_type ?_ (by size_fits)
  refine raiseNew_hot ⟨hh, o1, vs1, Heap.get?_push_of_some _ (Heap.get?_push_of_some _ h1'), d1, c1⟩ (Nat.ne_of_lt (Heap.lt_size (Heap.get?_push_of_some _ h1'))) (Heap.get?_push_size _ rfl) rfl (by first | (simp; done) | (simp; omega) | (simp only [Array.size_append]; simp; omega)) ?_
  refine wpAny_bind (wpAny_isInstance (T := "StopIteration") (b := true) ⟨_, Heap.get?_update_self _ (Heap.get?_push_size _ rfl) rfl, rfl⟩ isSubtype_stop ?_)
  refine wpAny_pure (q _ fun b u hb e => ?_)
  have e2 := old b u hb e
  rw [Heap.get?_update_other _ _ (Nat.ne_of_gt (Heap.lt_size (Heap.get?_push_of_some _ e2)))]
  exact Heap.get?_push_of_some _ (Heap.get?_push_of_some _ e2)
theorem end_ascii {x : Str} {t : Tok} (hot : HotAt A x1 s.heap) (hn : x1 ≠ it) (hit : s.heap.IsStrIter it "str_ascii_iterator" x t i) (hx : x.cps[i]? = none) (q : Beh it s Q) : wpAny (model prog w) A (pyNext (.ref it)) Q E s := by
  have ⟨o, ho, hc, hd⟩ := hit
  have ⟨hh, o1, vs1, h1, d1, c1⟩ := hot
  unfold pyNext
  refine wpAny_bind (wpAny_attempt (wpAny_callSpecial?_slot (name := Str.ofString "__next__") hit.typeIs F.slot_str_ascii_iterator_next (wpAny_call_entry F.slot_str_ascii_iterator_next hit.typeIs F.entry_str_ascii_iterator_next ?_ (F.args_str_ascii_iterator_next_1 _))))
  show wpAny _ _ (field (.ref it) 0 >>= _) _ _ s; refine wpAny_bind (wpAny_field ho hd (x := .str x t) rfl ?_)
  show wpAny _ _ (field (.ref it) 1 >>= _) _ _ s; refine wpAny_bind (wpAny_field ho hd (x := .int i 0) rfl ?_)
  simp only [Int.toNat_natCast, hx]
  refine wpAny_bind (wpAny_rule (wpAny_bind (wpAny_setField ho hd (by simp) (wpAny_bind (wpAny_letGo ?_)))))
  have h1' : (s.heap.update it (Obj.mapFields (·.setIfInBounds 0 Value.none))).get? x1 = some o1 := by rw [Heap.get?_update_other _ _ (Ne.symm hn)]; exact h1
  have old : ∀ b u, b ≠ it → s.heap.get? b = some u → (s.heap.update it (Obj.mapFields (·.setIfInBounds 0 Value.none))).get? b = some u := fun b u hb e => by rw [Heap.get?_update_other _ _ (Ne.symm hb)]; exact e
  show wpAny _ _ (newExc (.type "StopIteration") [] >>= _) _ _ _; refine wpAny_bind ?_
  simp only [newExc, newTuple]
  refine wpAny_bind (wpAny_newObj_type ?_ (by size_fits)); refine wpAny_bind (m := firstArgMember _ _) (wpAny_of_eq (a := Value.none) (by first | rfl | (simp only [firstArgMember]; rfl)) ?_)
  refine wpAny_newObj_type ?_ (by size_fits)
  refine raiseNew_hot ⟨hh, o1, vs1, Heap.get?_push_of_some _ (Heap.get?_push_of_some _ h1'), d1, c1⟩ (Nat.ne_of_lt (Heap.lt_size (Heap.get?_push_of_some _ h1'))) (Heap.get?_push_size _ rfl) rfl (by first | (simp; done) | (simp; omega) | (simp only [Array.size_append]; simp; omega)) ?_
  refine wpAny_bind (wpAny_isInstance (T := "StopIteration") (b := true) ⟨_, Heap.get?_update_self _ (Heap.get?_push_size _ rfl) rfl, rfl⟩ isSubtype_stop ?_)
  refine wpAny_pure (q _ fun b u hb e => ?_)
  have e2 := old b u hb e
  rw [Heap.get?_update_other _ _ (Nat.ne_of_gt (Heap.lt_size (Heap.get?_push_of_some _ e2)))]
  exact Heap.get?_push_of_some _ (Heap.get?_push_of_some _ e2)
theorem end_wide {x : Str} {t : Tok} (hot : HotAt A x1 s.heap) (hn : x1 ≠ it) (hit : s.heap.IsStrIter it "str_iterator" x t i) (hx : x.cps[i]? = none) (q : Beh it s Q) : wpAny (model prog w) A (pyNext (.ref it)) Q E s := by
  have ⟨o, ho, hc, hd⟩ := hit
  have ⟨hh, o1, vs1, h1, d1, c1⟩ := hot
  unfold pyNext
  refine wpAny_bind (wpAny_attempt (wpAny_callSpecial?_slot (name := Str.ofString "__next__") hit.typeIs F.slot_str_iterator_next (wpAny_call_entry F.slot_str_iterator_next hit.typeIs F.entry_str_iterator_next ?_ (F.args_str_iterator_next_1 _))))
  show wpAny _ _ (field (.ref it) 0 >>= _) _ _ s; refine wpAny_bind (wpAny_field ho hd (x := .str x t) rfl ?_)
  show wpAny _ _ (field (.ref it) 1 >>= _) _ _ s; refine wpAny_bind (wpAny_field ho hd (x := .int i 0) rfl ?_)
  simp only [Int.toNat_natCast, hx]
  refine wpAny_bind (wpAny_rule (wpAny_bind (wpAny_setField ho hd (by simp) (wpAny_bind (wpAny_letGo ?_)))))
  have h1' : (s.heap.update it (Obj.mapFields (·.setIfInBounds 0 Value.none))).get? x1 = some o1 := by rw [Heap.get?_update_other _ _ (Ne.symm hn)]; exact h1
  have old : ∀ b u, b ≠ it → s.heap.get? b = some u → (s.heap.update it (Obj.mapFields (·.setIfInBounds 0 Value.none))).get? b = some u := fun b u hb e => by rw [Heap.get?_update_other _ _ (Ne.symm hb)]; exact e
  show wpAny _ _ (newExc (.type "StopIteration") [] >>= _) _ _ _; refine wpAny_bind ?_
  simp only [newExc, newTuple]
  refine wpAny_bind (wpAny_newObj_type ?_ (by size_fits)); refine wpAny_bind (m := firstArgMember _ _) (wpAny_of_eq (a := Value.none) (by first | rfl | (simp only [firstArgMember]; rfl)) ?_)
  refine wpAny_newObj_type ?_ (by size_fits)
  refine raiseNew_hot ⟨hh, o1, vs1, Heap.get?_push_of_some _ (Heap.get?_push_of_some _ h1'), d1, c1⟩ (Nat.ne_of_lt (Heap.lt_size (Heap.get?_push_of_some _ h1'))) (Heap.get?_push_size _ rfl) rfl (by first | (simp; done) | (simp; omega) | (simp only [Array.size_append]; simp; omega)) ?_
  refine wpAny_bind (wpAny_isInstance (T := "StopIteration") (b := true) ⟨_, Heap.get?_update_self _ (Heap.get?_push_size _ rfl) rfl, rfl⟩ isSubtype_stop ?_)
  refine wpAny_pure (q _ fun b u hb e => ?_)
  have e2 := old b u hb e
  rw [Heap.get?_update_other _ _ (Nat.ne_of_gt (Heap.lt_size (Heap.get?_push_of_some _ e2)))]
  exact Heap.get?_push_of_some _ (Heap.get?_push_of_some _ e2)
end
end DLHot
end

section
set_option Elab.async false
set_option linter.all false
set_option maxRecDepth 100000
set_option maxHeartbeats 2000000
/-! loops and unpacked tuples while an exception is handled -/
namespace DLHot
open PySem PySem.Spec PyProof.Rows HotX L2 L2H
theorem hotAt_keep {A : Around} {x1 : Addr} {h h' : Heap} (x : HotAt A x1 h) (k : ∀ o, h.get? x1 = some o → h'.get? x1 = some o) : HotAt A x1 h' := by
  obtain ⟨a, o, vs, b, c⟩ := x
  exact ⟨a, o, vs, k o b, c⟩
section
variable {prog : Program} {w : World} {A : Around} {E : Value → Shared → Prop} {s : Shared} {x1 t : Addr} {items : Array Value}
theorem unpackI {Q : List Value → Shared → Prop} (hot : HotAt A x1 s.heap) (ht : IsTup s.heap t items) (q : ∀ h', Heap.ExtBut s.heap.objs.size s.heap h' → Q items.toList { s with heap := h' }) : wpAny (model prog w) A (unpackItems (.ref t) items.size none) Q E s := by
  have hlt : t ≠ s.heap.objs.size := by have ⟨o, ho, _⟩ := ht; exact Nat.ne_of_lt (Heap.lt_size ho)
  have hx : x1 ≠ s.heap.objs.size := by have ⟨_, o, _, ho, _⟩ := hot; exact Nat.ne_of_lt (Heap.lt_size ho)
  unfold unpackItems; refine wpAny_bind ?_; unfold notIterableAtAll
  refine wpAny_bind (wpAny_specialOf ht.typeIs slot_tuple_iter.lookup (wpAny_pure ?_)); simp only [Bool.false_eq_true, if_false]
  refine wpAny_bind (wpAny_holding (iter_tuple ht (wpAny_bind (wpAny_holding (draw_tuple hlt items.size 0 _ _ ⟨_, Heap.get?_push_size _ rfl, rfl, rfl⟩ (ht.push _) (by omega) fun h₁ hit₁ hs₁ => ?_)))))
  rw [show List.take items.size (List.drop 0 items.toList) = items.toList by rw [List.drop_zero]; exact List.take_of_length_le (by simp), if_neg (by simp)]
  have old : ∀ b o, b ≠ s.heap.objs.size → s.heap.get? b = some o → h₁.get? b = some o := fun b o hb e => hs₁.extBut b o hb (Heap.get?_push_of_some _ e)
  refine wpAny_bind (wpAny_holding (end_tup (hotAt_keep hot fun o e => old _ o hx e) hx hit₁ ((ht.push _).extBut hs₁.extBut hlt) (by simp) fun h₂ he₂ => ?_))
  simp only [Option.isSome_none, Bool.false_eq_true, if_false]
  exact wpAny_pure (q h₂ fun b o hb e => he₂ b o hb (old b o hb e))
theorem assignT {env : Env} {elts : List Expr} {k} {pos : Pos} {Q : Unit → Shared → Prop} (hot : HotAt A x1 s.heap) (ht : IsTup s.heap t items) (hn : (assignEach elts env).length = items.size) (hst : (assignEach elts env).findIdx? (·.1) = none)
    (h : ∀ h', Heap.ExtBut s.heap.objs.size s.heap h' → wpAny (model prog w) A (assignInOrder ((assignEach elts env).map (·.2)) items.toList) Q E { s with heap := h' }) : wpAny (model prog w) A (assign (.Tuple elts k pos) env (.ref t)) Q E s := by
  rw [assign_Tuple]; refine wpAny_bind (wpAny_standAt ?_); unfold unpack; rw [hn, hst]
  exact wpAny_bind (wpAny_holding (unpackI hot ht h))
end
section
variable {X : Cx} {pos : Pos}
theorem pg_tupH {es : List Expr} {k : Nat} {t : TGs} {n : Nat} (hc : HotC X) (h : PGs X es t) (hn : (assignEach es X.env).length = n := by rfl) (hst : (assignEach es X.env).findIdx? (·.1) = none := by rfl) : PG X (.Tuple es k pos) (gTup X.K n t) := by
  refine ⟨fun pins s σ H v u Q I r hw => ?_⟩
  obtain ⟨a, xs, rfl, hq, hl, hw⟩ := hw; cases r
  obtain ⟨its, rv, ht, hz⟩ := I.tuple hq; obtain ⟨x1, hot⟩ := hc.at I
  refine assignT hot ht (by simp [hn, ← hl, rv.length]) hst fun h' hx => ?_
  have I1 : Inv X pins σ H { s with heap := h' } := I.kept (t' := s.toks) fun b o e => hx b o (Nat.ne_of_lt (Heap.lt_size e)) e
  exact h.run pins _ σ H xs _ Q I1 (by simpa using rv) hw
theorem hotNe {pins : List (Addr × Obj)} {σ : L2.St} {H : Hp} {s : Shared} {it : Addr} (hc : HotC X) (I : Inv X pins σ H s) (f : ∀ p ∈ X.pn ++ pins, p.1 ≠ it) : ∃ x1, HotAt X.A x1 s.heap ∧ x1 ≠ it := by
  obtain ⟨p, ⟨hh, v1, e1, c1⟩, hp⟩ := hc
  exact ⟨p.1, ⟨hh, p.2, v1, (I.pin p (List.mem_append_left _ hp)).1, e1, c1⟩, f p (List.mem_append_left _ hp)⟩
theorem oneObj {it : Addr} {h : Heap} {o : Obj} {vs : Array Value} (e : h.get? it = some o) (d : o.data = .fields vs) : ∀ b ∈ [it], ∃ o, h.get? b = some o ∧ ∀ v, o.data ≠ .cell v := fun b hb => by
  have q : b = it := by simpa using hb
  subst q; exact ⟨o, e, fun v z => by rw [d] at z; cases z⟩
theorem tn_list {P : Program} {w : World} {K : PySem.W.Frag} {tg : Expr} (a it : Addr) : TurnH P w K tg (Itl K a) [it] it (fun i h => h.IsListIter it a i) where
  mem := by simp
  obj := fun i h st => let ⟨o, e, c, d⟩ := st; oneObj e d
  keep := fun i h h' st k => st.at fun o e => k it (List.mem_singleton.mpr rfl) o e
  self := fun _ _ _ _ _ st h => wpAny_pyIter_listiter st h
  item := by
    intro X hP hw hK hc i pins s σ H E I hf st hg; subst hP hw hK
    obtain ⟨xs, x, hq, hx⟩ := hg; obtain ⟨its, rv, p, hz⟩ := I.list hq; obtain ⟨u, hu, ru⟩ := rv.get hx
    have ⟨f0, f1, f2, f3, f4, f5⟩ := hf it (by simp)
    refine wpAny_pyNext_list_item st p.isList (x := u) (by simpa using hu) fun h' st' sb => ⟨u, rfl, ?_⟩
    have I1 : Inv X pins σ H { s with heap := h' } := I.turned (t' := s.toks) (fun b o hb e => (sb.2 b hb).trans e) f0 f1 f3 f4 f5
    have ⟨o, e, c, d⟩ := st'
    exact go_of (s := { s with heap := h' }) e c d (by decide) ⟨x, H, I1, ru, ⟨rfl, fun ys hy => by rw [I.list_inj hy hq]; exact hx⟩, st', fun b hb => (hf b hb).1⟩
  done := by
    intro X hP hw hK hc i pins s σ H E I hf st hg; subst hP hw hK
    obtain ⟨xs, hq, hx⟩ := hg; obtain ⟨its, rv, p, hz⟩ := I.list hq
    have ⟨f0, f1, f2, f3, f4, f5⟩ := hf it (by simp); have hl := rv.length; obtain ⟨x1, hot, hne⟩ := hotNe hc I f5
    exact end_list hot hne st p.isList (by simp; omega) fun h' eb => ⟨rfl, I.turned (t' := s.toks) (fun b o hb e => eb b o hb e) f0 f1 f3 f4 f5⟩
theorem tn_tup {P : Program} {w : World} {K : PySem.W.Frag} {tg : Expr} (a it : Addr) : TurnH P w K tg (Itt K a) [it] it (fun i h => h.IsTupleIter it a i) where
  mem := by simp
  obj := fun i h st => let ⟨o, e, c, d⟩ := st; oneObj e d
  keep := fun i h h' st k => st.at fun o e => k it (List.mem_singleton.mpr rfl) o e
  self := fun _ _ _ _ _ st h => wpAny_pyIter_tupleiter st h
  item := by
    intro X hP hw hK hc i pins s σ H E I hf st hg; subst hP hw hK
    obtain ⟨xs, x, hq, hx⟩ := hg; obtain ⟨its, rv, p, hz⟩ := I.tuple hq; obtain ⟨u, hu, ru⟩ := rv.get hx
    have ⟨f0, f1, f2, f3, f4, f5⟩ := hf it (by simp)
    refine wpAny_pyNext_tuple_item st (show s.heap.IsTuple a its.toArray from p) (x := u) (by simpa using hu) fun h' st' sb => ⟨u, rfl, ?_⟩
    have I1 : Inv X pins σ H { s with heap := h' } := I.turned (t' := s.toks) (fun b o hb e => (sb.2 b hb).trans e) f0 f1 f3 f4 f5
    have ⟨o, e, c, d⟩ := st'
    exact go_of (s := { s with heap := h' }) e c d (by decide) ⟨x, H, I1, ru, ⟨rfl, fun ys hy => by rw [I.tuple_inj hy hq]; exact hx⟩, st', fun b hb => (hf b hb).1⟩
  done := by
    intro X hP hw hK hc i pins s σ H E I hf st hg; subst hP hw hK
    obtain ⟨xs, hq, hx⟩ := hg; obtain ⟨its, rv, p, hz⟩ := I.tuple hq
    have ⟨f0, f1, f2, f3, f4, f5⟩ := hf it (by simp); have hl := rv.length; obtain ⟨x1, hot, hne⟩ := hotNe hc I f5
    exact end_tup hot hne st p (by simp; omega) fun h' eb => ⟨rfl, I.turned (t' := s.toks) (fun b o hb e => eb b o hb e) f0 f1 f3 f4 f5⟩
theorem tn_str {P : Program} {w : World} {K : PySem.W.Frag} {tg : Expr} (it : Addr) (x : Str) (t : Tok) (ty : String) (hty : ty = "str_ascii_iterator" ∨ ty = "str_iterator") : TurnH P w K tg (Its x) [it] it (fun i h => h.IsStrIter it ty x t i) where
  mem := by simp
  obj := fun i h st => let ⟨o, e, c, d⟩ := st; oneObj e d
  keep := fun i h h' st k => let ⟨o, e, c, d⟩ := st; ⟨o, k it (List.mem_singleton.mpr rfl) o e, c, d⟩
  self := fun A i s Q E st h => by
    rcases hty with rfl | rfl
    · exact wpAny_pyIter_striter_ascii st h
    · exact wpAny_pyIter_striter_wide st h
  item := by
    intro X hP hw hK hc i pins s σ H E I hf st hg; subst hP hw hK
    have ⟨f0, f1, f2, f3, f4, f5⟩ := hf it (by simp)
    obtain ⟨c, hcx⟩ : ∃ c, x.cps[i]? = some c := ⟨x.cps[i], Array.getElem?_eq_getElem hg⟩
    rcases hty with rfl | rfl
    · refine wpAny_pyNext_ascii_item st hcx fun h' st' sb => ⟨_, rfl, ?_⟩
      have I1 : Inv X pins σ H { s with heap := h', toks := s.toks + 1 } := I.turned (fun b o hb e => (sb.2 b hb).trans e) f0 f1 f3 f4 f5
      have ⟨oi, e, cc, dd⟩ := st'
      exact go_of (s := { s with heap := h', toks := s.toks + 1 }) e cc dd (by decide) ⟨.str ⟨#[c]⟩, H, I1, ⟨_, rfl⟩, ⟨rfl, c, hcx, rfl⟩, st', fun b hb => (hf b hb).1⟩
    · refine wpAny_pyNext_wide_item st hcx fun h' st' sb => ⟨_, rfl, ?_⟩
      have I1 : Inv X pins σ H { s with heap := h', toks := s.toks + 1 } := I.turned (fun b o hb e => (sb.2 b hb).trans e) f0 f1 f3 f4 f5
      have ⟨oi, e, cc, dd⟩ := st'
      exact go_of (s := { s with heap := h', toks := s.toks + 1 }) e cc dd (by decide) ⟨.str ⟨#[c]⟩, H, I1, ⟨_, rfl⟩, ⟨rfl, c, hcx, rfl⟩, st', fun b hb => (hf b hb).1⟩
  done := by
    intro X hP hw hK hc i pins s σ H E I hf st hg; subst hP hw hK
    have ⟨f0, f1, f2, f3, f4, f5⟩ := hf it (by simp); obtain ⟨x1, hot, hne⟩ := hotNe hc I f5
    have hx : x.cps[i]? = none := Array.getElem?_eq_none hg
    rcases hty with rfl | rfl
    · exact end_ascii hot hne st hx fun h' eb => ⟨rfl, I.turned (t' := s.toks) (fun b o hb e => eb b o hb e) f0 f1 f3 f4 f5⟩
    · exact end_wide hot hne st hx fun h' eb => ⟨rfl, I.turned (t' := s.toks) (fun b o hb e => eb b o hb e) f0 f1 f3 f4 f5⟩
/-- one iterator just laid -/
theorem pieH {tg : Expr} {pins : List (Addr × Obj)} {σ : L2.St} {H : Hp} {s : Shared} {R : It → Hp → Prop} {J : It} {tn : Nat → Heap → Prop} {tk : Nat} (I : Inv X pins σ H s) (o : Obj) (T : TurnH X.prog X.w X.K tg J [s.heap.objs.size] s.heap.objs.size tn) (st : tn 0 (s.heap.push o)) (q : R J H) :
    PIEH X pins σ tg R (.ref s.heap.objs.size) { s with heap := s.heap.push o, toks := tk } := by
  refine ⟨s.heap.objs.size, [s.heap.objs.size], tn, J, H, rfl, I.kept fun b ob e => Heap.get?_push_of_some _ e, T, st, fun b hb => ?_, q⟩
  have e : b = s.heap.objs.size := List.mem_singleton.mp hb
  rw [e]; exact I.fpOk (Nat.le_refl _) (I.hok.fresh (Nat.le_refl _))
theorem pi_listH {tg l : Expr} {tl : TE} (hl : PE X l tl) : PIH X tg l (iList X.K tl) := by
  refine ⟨fun pins s σ H R I h => thn (hl.run pins s σ H _ I h) fun v s1 ⟨x, H1, I1, r1, a, e, ⟨xs, hq⟩, q⟩ => ?_⟩
  subst e; cases r1
  obtain ⟨its, rv, p, hz⟩ := I1.list hq
  exact wpAny_pyIter_list p.isList (pieH (tk := s1.toks) I1 _ (tn_list a _) ⟨_, Heap.get?_push_size _ rfl, rfl, rfl⟩ q)
theorem pi_tupH {tg l : Expr} {tl : TE} (hl : PE X l tl) : PIH X tg l (iTup X.K tl) := by
  refine ⟨fun pins s σ H R I h => thn (hl.run pins s σ H _ I h) fun v s1 ⟨x, H1, I1, r1, a, e, ⟨xs, hq⟩, q⟩ => ?_⟩
  subst e; cases r1
  obtain ⟨its, rv, p, hz⟩ := I1.tuple hq
  exact wpAny_pyIter_tuple (show s1.heap.IsTuple a its.toArray from p) (pieH (tk := s1.toks) I1 _ (tn_tup a _) ⟨_, Heap.get?_push_size _ rfl, rfl, rfl⟩ q)
theorem pi_strH {tg e : Expr} {te : TE} (he : PE X e te) : PIH X tg e (iStr te) := by
  refine ⟨fun pins s σ H R I h => thn (he.run pins s σ H _ I h) fun v s1 ⟨y, H1, I1, r1, x, ex, q⟩ => ?_⟩
  subst ex; obtain ⟨t, rfl⟩ := r1
  cases ha : x.cps.all (· < 128)
  · exact wpAny_pyIter_wide ha (pieH (tk := s1.toks) I1 _ (tn_str _ x t "str_iterator" (.inr rfl)) ⟨_, Heap.get?_push_size _ rfl, rfl, rfl⟩ q)
  · exact wpAny_pyIter_ascii ha (pieH (tk := s1.toks) I1 _ (tn_str _ x t "str_ascii_iterator" (.inl rfl)) ⟨_, Heap.get?_push_size _ rfl, rfl, rfl⟩ q)
theorem pi_range2H {tg a b : Expr} {ta : TA} {p : Pos} (hg : Gl X "range") (hm : X.mg "range" = none) (ha : PA X [a, b] ta) (hs : starEach [a, b] X.env = [(false, eval a X.env), (false, eval b X.env)] := by rfl) (hs2 : starEach [b] X.env = [(false, eval b X.env)] := by rfl) :
    PIH X tg (.Call (.Name "range" p) [a, b] [] pos) (iRng2 ta) := by
  refine ⟨fun pins s σ H R I h => Call_ (ld_blt I hg hm boot_range (PyProof.Rows.callWith_type1 (thn (ha.run pos pins s σ H _ I h) fun us s1 ⟨vs, H1, I1, r1, i, j, e, ⟨q1, q2, q3, q4⟩, q⟩ => ?_) (by rw [hs, hs2]) (by rw [hs2]; rfl)))⟩
  subst e
  cases r1 with
  | cons r rr =>
    cases rr with
    | cons r' rr =>
      cases rr; obtain ⟨t, rfl⟩ := r; obtain ⟨t', rfl⟩ := r'
      exact call_range_2 (range_itH I1 q1 q2 q3 q4 q)
end
end DLHot
end

section
set_option Elab.async false
set_option linter.all false
set_option maxRecDepth 100000
namespace DL
open PySem PySem.Spec PyProof.Rows L2

/-! ### contexts in which an exception may be handled -/
abbrev RoomH := L2H.RoomH
abbrev HotC := L2H.HotC
abbrev FnH := L2H.FnH
abbrev PIH := L2H.PIH
def Calm (X : Cx) (W : WX) : Prop := (X.calm = true ∧ X.A.handled = none ∧ L2N.Takes X W) ∨ (L2H.HotC X ∧ L2.Takes X W)
theorem calm_room {X : Cx} {k : Nat} (h : X.A.handled = none) (r : L2H.RoomH k X.A) : Room k X.A := ⟨h, r.dp, r.un⟩
theorem huH {k : Nat} {A : Around} (r : L2H.RoomH k A) : A.units + 64 < cLine := by
  have := r.un
  omega
structure FnB (P : Program) (w : World) (K : PySem.W.Frag) (mg : Str → Option Value) (base : Heap) (k : Nat) (x : Str) (ps : List Str) (m : List D → R Sl) : Prop where
  ex : ∃ f fd, FnOk P w K mg base (L2N.CX P w) k f fd ps (spD K mg m) ∧ L2H.FnH P w K mg base (L2.CX P w) k f fd ps (spD K mg m) ∧ mg x = some (.ref f) ∧ PySem.W.keepIn K (.ref f) = true ∧ Binds K fd ps []
structure FoB (P : Program) (w : World) (K : PySem.W.Frag) (mg : Str → Option Value) (base : Heap) (k : Nat) (x : Str) (ps : List Str) (m : D → List D → RM) : Prop where
  ex : ∃ f fd, FnOk P w K mg base (L2N.CX P w) k f fd ps (spM K mg m) ∧ L2H.FnH P w K mg base (L2.CX P w) k f fd ps (spM K mg m) ∧ mg x = some (.ref f) ∧ PySem.W.keepIn K (.ref f) = true ∧ Binds K fd ps []
structure MtB (P : Program) (w : World) (K : PySem.W.Frag) (mg : Str → Option Value) (base : Heap) (k : Nat) (c m : Str) (ps : List Str) (f : D → List D → RM) : Prop where
  ex : ∃ C g fd, mg c = some (.ref C) ∧ Cls K C ∧ Meth K C m g ∧ FnOk P w K mg base (L2N.CX P w) k g fd ps (spM K mg f) ∧ L2H.FnH P w K mg base (L2.CX P w) k g fd ps (spM K mg f) ∧ Binds K fd ps []
structure MkB (P : Program) (w : World) (K : PySem.W.Frag) (mg : Str → Option Value) (base : Heap) (k : Nat) (c : Str) (ps : List Str) (f : D → List D → RM) : Prop where
  ex : ∃ C g fd, mg c = some (.ref C) ∧ Mk K C g ∧ FnOk P w K mg base (L2N.CX P w) k g fd ps (spM K mg f) ∧ L2H.FnH P w K mg base (L2.CX P w) k g fd ps (spM K mg f) ∧ Binds K fd ps []
section
variable {P : Program} {w : World} {K : PySem.W.Frag} {mg : Str → Option Value} {base : Heap} {k : Nat} {x c m : Str} {ps : List Str} {f : List D → R Sl} {g : D → List D → RM}
theorem FnB.d (h : FnB P w K mg base k x ps f) : FnD P w K mg base k x ps f := let ⟨a, b, c, _, e⟩ := h.ex; ⟨a, b, c, e⟩
theorem FoB.d (h : FoB P w K mg base k x ps g) : FoD P w K mg base k x ps g := let ⟨a, b, c, _, e⟩ := h.ex; ⟨a, b, c, e⟩
theorem MtB.d (h : MtB P w K mg base k c m ps g) : MtD P w K mg base k c m ps g := let ⟨a, b, d, c, e, f, i, _, j⟩ := h.ex; ⟨a, b, d, c, e, f, i, j⟩
theorem MkB.d (h : MkB P w K mg base k c ps g) : MkD P w K mg base k c ps g := let ⟨a, b, d, c, e, i, _, j⟩ := h.ex; ⟨a, b, d, c, e, i, j⟩
end
section
variable {X : Cx} {W : WX} {k : Nat} {x c m : Str} {ps : List Str} {e o : Expr} {es : List Expr} {p pos apos : Pos} {f : Tau → R (List D)} {mm : List D → R Sl} {fm : D → List D → RM}
theorem dp_callP (pe : ∀ t, PA X (e :: es) t → PE X (.Call (.Name x p) (e :: es) [] pos) (tCallS (spD X.K X.mg mm) (WE W) t)) (ha : DAk X W (e :: es) f) : DP X W (.Call (.Name x p) (e :: es) [] pos) (cal1 mm f) := by
  obtain ⟨t, pt, q⟩ := ha
  refine ⟨_, pe t pt, fun B τ σ H F Q s h => q B τ σ H F _ s (h.seq fun ds vs H1 F1 e1 p1 h1 => ⟨F1, ds, e1.fh, p1, ?_⟩)⟩
  cases z : mm ds with
  | ok s => rw [z] at h1; exact fun v H' F' x b => h1 v H' F' x (Br.older e1.hh b)
  | er c => rw [z] at h1; exact h1
  | bad => rw [z] at h1; exact h1
theorem dp_callB' (F : FnB X.prog X.w X.K X.mg X.base k x ps mm) (hr : L2H.RoomH k X.A) (hc : Calm X W) (hg : Gl X x) (ha : DAk X W (e :: es) f)
    (hdb : (x == ("__debug__" : Str)) = false := by decide) (he : starEach (e :: es) X.env = (false, eval e X.env) :: starEach es X.env := by rfl) (hpl : (backTo pos (starEach es X.env)).any (·.1) = false := by rfl) :
    DP X W (.Call (.Name x p) (e :: es) [] pos) (cal1 mm f) := by
  rcases hc with ⟨_, hh, tk⟩ | ⟨hc, tk⟩
  · exact dp_call F.d (calm_room hh hr) tk hg ha hdb he hpl
  · obtain ⟨fa, fd, _, G, hm, hk, hb⟩ := F.ex
    exact dp_callP (fun t pt => L2H.pe_callH G hr hc hg hm hk hb (fun σ => L2.passAt tk σ) pt hdb he hpl) ha
/-! methods -/
theorem pe_meth0H {C g : Addr} {fd : FuncData} {sp : Sp} {E : L2.St → XK} {CX : CXT} {ta : TE} {pl : Sem Bool} (he : PE X o ta) (c : Cls X.K C) (hm : Meth X.K C m g) (F : L2H.FnH X.prog X.w X.K X.mg X.base CX k g fd ps sp) (hr : L2H.RoomH k X.A) (hc : L2H.HotC X) (hb : Binds X.K fd ps []) (hx : ∀ σ, PassesAt CX X σ (E σ))
    (ht : eval (.Call (.Attribute o m apos) [] [] pos) X.env = (do
      let ov ← eval o X.env
      standAt apos.atName
      let (f, first) ← holding [ov] (getMethod ov m pl)
      callWith pos f first (backTo pos (starEach [] X.env)) (backToKw pos (keywordEach [] X.env))) := by rfl) : PE X (.Call (.Attribute o m apos) [] [] pos) (tMethS C m sp E ta tNil) := by
  refine ⟨fun pins s σ H Q I h => PySem.W.methodCall_KW (pl := pl) (thn (he.run pins s σ H _ I h) fun u s1 ⟨x, H1, I1, rx, a, dx, fs, ex, ea, l, q⟩ => ?_) ht⟩
  subst ex; obtain rfl : u = Value.ref a := rx
  exact getmeth_ok I1 ea c hm l (PySem.W.callWith_K0 (first := [.ref a]) I1.kIn hm.kp (L2H.run_fnH (us := [.ref a]) (vs := [.ref a]) F hr hc hb (hx σ) I1 (.cons rfl .nil) q))
theorem dg_methP {pl : Plc} {C : Addr} {g : Tau → R (List D)} (hcC : X.mg c = some (.ref C)) (pe : ∀ ta t, PE X o ta → PA X (e :: es) t → PE X (.Call (.Attribute o m apos) (e :: es) [] pos) (tMethS C m (spM X.K X.mg fm) (WE W) ta t)) (ho : PlcE X pl o) (ha : DAk X W (e :: es) g) :
    DG X W (.Call (.Attribute o m apos) (e :: es) [] pos) (metG pl c m fm g) := by
  obtain ⟨t, pt, q⟩ := ho
  obtain ⟨u, pu, qu⟩ := ha
  refine ⟨_, pe t u pt pu, fun B τ σ H F Q s h => ?_⟩
  unfold metG at h
  cases z : pl.get τ with
  | none => rw [z] at h; exact h.elim
  | some d =>
    rw [z] at h
    cases d <;> try exact h.elim
    rename_i c' fs
    dsimp only at h
    split at h
    · rename_i hcc
      obtain ⟨rfl, hn⟩ := hcc
      refine q B τ σ H F _ _ s z fun a at' => ?_
      obtain ⟨a0, dx, C1, vs, fp0, at2, m1, ha, r, _⟩ := s.fields (Ext.refl s.fh) z
      have ea := at'.inj at2
      subst ea
      rw [hcC] at m1
      cases m1
      exact ⟨a, dx, vs, rfl, ha, r.lookNone (Option.isNone_iff_eq_none.mp hn), qu B τ σ H F _ s (FinG.expr s h fun ds us H1 F1 e1 p1 h1 => spM_of s e1 z at' p1 h1)⟩
    · exact h.elim
theorem dg_meth0P {pl : Plc} {C : Addr} (hcC : X.mg c = some (.ref C)) (pe : ∀ ta, PE X o ta → PE X (.Call (.Attribute o m apos) [] [] pos) (tMethS C m (spM X.K X.mg fm) (WE W) ta tNil)) (ho : PlcE X pl o) :
    DG X W (.Call (.Attribute o m apos) [] [] pos) (metG pl c m fm (fun _ => .ok [])) := by
  obtain ⟨t, pt, q⟩ := ho
  refine ⟨_, pe t pt, fun B τ σ H F Q s h => ?_⟩
  unfold metG at h
  cases z : pl.get τ with
  | none => rw [z] at h; exact h.elim
  | some d =>
    rw [z] at h
    cases d <;> try exact h.elim
    rename_i c' fs
    dsimp only at h
    split at h
    · rename_i hcc
      obtain ⟨rfl, hn⟩ := hcc
      refine q B τ σ H F _ _ s z fun a at' => ?_
      obtain ⟨a0, dx, C1, vs, fp0, at2, m1, ha, r, _⟩ := s.fields (Ext.refl s.fh) z
      have ea := at'.inj at2
      subst ea
      rw [hcC] at m1
      cases m1
      exact ⟨a, dx, vs, rfl, ha, r.lookNone (Option.isNone_iff_eq_none.mp hn), spM_of s (Ext.refl s.fh) z at' .nil h⟩
    · exact h.elim
theorem dg_methB {pl : Plc} {ps' : Sem Bool} {g : Tau → R (List D)} (M : MtB X.prog X.w X.K X.mg X.base k c m ps fm) (hr : L2H.RoomH k X.A) (hc : Calm X W) (ho : PlcE X pl o) (ha : DAk X W (e :: es) g)
    (hst : starEach (e :: es) X.env = (false, eval e X.env) :: starEach es X.env := by rfl) (hpl : (backTo pos (starEach es X.env)).any (·.1) = false := by rfl)
    (ht : eval (.Call (.Attribute o m apos) (e :: es) [] pos) X.env = (do
      let ov ← eval o X.env
      standAt apos.atName
      let (f, first) ← holding [ov] (getMethod ov m ps')
      callWith pos f first (backTo pos (starEach (e :: es) X.env)) (backToKw pos (keywordEach [] X.env))) := by rfl) : DG X W (.Call (.Attribute o m apos) (e :: es) [] pos) (metG pl c m fm g) := by
  obtain ⟨C, ga, fd, hcC, cl, me, F1, F2, bd⟩ := M.ex
  rcases hc with ⟨_, hh, tk⟩ | ⟨hc, tk⟩
  · exact dg_methP hcC (fun ta t pt pu => pe_methSs (pl := ps') pt cl me F1 (calm_room hh hr) bd (fun σ => L2N.passAt tk σ) pu hst hpl ht) ho ha
  · exact dg_methP hcC (fun ta t pt pu => L2H.pe_methH (pl := ps') pt cl me F2 hr hc bd (fun σ => L2.passAt tk σ) pu hst hpl ht) ho ha
theorem dg_meth0B {pl : Plc} {ps' : Sem Bool} (M : MtB X.prog X.w X.K X.mg X.base k c m ps fm) (hr : L2H.RoomH k X.A) (hc : Calm X W) (ho : PlcE X pl o)
    (ht : eval (.Call (.Attribute o m apos) [] [] pos) X.env = (do
      let ov ← eval o X.env
      standAt apos.atName
      let (f, first) ← holding [ov] (getMethod ov m ps')
      callWith pos f first (backTo pos (starEach [] X.env)) (backToKw pos (keywordEach [] X.env))) := by rfl) : DG X W (.Call (.Attribute o m apos) [] [] pos) (metG pl c m fm (fun _ => .ok [])) := by
  obtain ⟨C, ga, fd, hcC, cl, me, F1, F2, bd⟩ := M.ex
  rcases hc with ⟨_, hh, tk⟩ | ⟨hc, tk⟩
  · exact dg_meth0P hcC (fun ta pt => pe_methSs0 (pl := ps') pt cl me F1 (calm_room hh hr) bd (fun σ => L2N.passAt tk σ) ht) ho
  · exact dg_meth0P hcC (fun ta pt => pe_meth0H (pl := ps') pt cl me F2 hr hc bd (fun σ => L2.passAt tk σ) ht) ho
end
end DL
end

section
set_option Elab.async false
set_option linter.all false
set_option maxRecDepth 100000
namespace DL
open PySem PySem.Spec PyProof.Rows L2

theorem roomH_make {k : Nat} {A : Around} (r : L2H.RoomH (k + 1) A) (C : Addr) (us : List Value) (kw : List (Str × Value)) : L2H.RoomH k (A.under (.builtin "type.__call__" ⟨.ref C :: us, kw⟩)) :=
  ⟨by have := r.dp; rw [make_depth]; omega, by have := r.un; rw [make_units]; omega⟩
section
variable {X : Cx} {W : WX} {k : Nat} {x c m : Str} {ps : List Str} {e o : Expr} {es : List Expr} {p pos apos p' : Pos} {fm : D → List D → RM} {CX : CXT} {C f : Addr} {fd : FuncData} {sp : Sp} {E : XK} {t : TA}
theorem run_makeH {pins : List (Addr × Obj)} {σ : L2.St} {H : Hp} {s : Shared} {Q : VK} {us : List Value} {vs : List V} (M : Mk X.K C f) (F : L2H.FnH X.prog X.w X.K X.mg X.base CX k f fd ps sp) (hr : L2H.RoomH (k + 1) X.A) (hc : L2H.HotC X) (hb : Binds X.K fd ps [])
    (hx : Passes CX X E) (I : Inv X pins σ H s) (r : Vals vs us)
    (h : ∀ x dx, H x = none → H dx = none → dx ≠ x → sp (.ref x :: vs) (upd (upd H dx (.own x)) x (.ins C dx [])) (fun v H2 => v = .non ∧ Q (.ref x) H2) E) : wpAny (model X.prog X.w) X.A (call (.ref C) us) (EP X pins σ Q) X.xe s := by
  have hq := h (s.heap.objs.size + 1) s.heap.objs.size (I.hok.fresh (Nat.le_succ _)) (I.hok.fresh (Nat.le_refl _)) (Nat.ne_of_lt (Nat.lt_succ_self _))
  have I2 := Inv.made (C := C) I
  obtain ⟨q, ⟨hh, hv⟩, hp⟩ := hc
  have r2 : Vals (V.ref (s.heap.objs.size + 1) :: vs) (Value.ref (s.heap.objs.size + 1) :: us) := .cons rfl r
  have hl : (Value.ref (s.heap.objs.size + 1) :: us).length = ps.length := by rw [← r2.length]; exact F.len _ _ _ _ hq
  have b := hb _ (Value.ref (s.heap.objs.size + 1) :: us) I2.kIn (by rw [List.append_nil]; exact hl)
  rw [List.append_nil] at b
  have P1 := I2.pin q (List.mem_append_left _ hp)
  have hpin : L2H.PinOk X.stack _ _ q := ⟨P1.1, P1.2.1, fun hm => (List.mem_cons.mp (I2.stkSub q.1 hm)).elim P1.2.2.1 P1.2.2.2.1, P1.2.2.2.2⟩
  refine wpAny_call (make_map (f := f) I.kIn M.makes M.init (beq_iff_eq.mp M.fn) (codeAny_mono (F.run _ X.stack _ _ ⟨Value.ref (s.heap.objs.size + 1) :: us, []⟩ _ _ _ E q (roomH_make hr C us []) ⟨hh, hv⟩ hpin (I2.env0.make C us []) b r2 hq) fun r s' hq' => ?_))
  cases r with
  | error e => exact hx pins σ _ _ e s' I2 hq'
  | ok fl =>
    cases fl with
    | ret u =>
      have ⟨v, H', I3, rv, ev, q3⟩ := I2.after hq'
      subst ev
      exact ⟨rv, ⟨V.ref (s.heap.objs.size + 1), H', I3, rfl, q3⟩⟩
    | next => exact hq'.elim
    | brk => exact hq'.elim
    | cont => exact hq'.elim
theorem pe_makeH (M : Mk X.K C f) (F : L2H.FnH X.prog X.w X.K X.mg X.base CX k f fd ps sp) (hr : L2H.RoomH (k + 1) X.A) (hc : L2H.HotC X) (hg : Gl X x) (hm : X.mg x = some (.ref C)) (hb : Binds X.K fd ps []) (hx : Passes CX X E)
    (ha : PA X (e :: es) t) (hdb : (x == ("__debug__" : Str)) = false := by decide) (he : starEach (e :: es) X.env = (false, eval e X.env) :: starEach es X.env := by rfl) (hpl : (backTo pos (starEach es X.env)).any (·.1) = false := by rfl) :
    PE X (.Call (.Name x p) (e :: es) [] pos) (tMake C sp [] E t) := by
  refine ⟨fun pins s σ H Q I h => wpAny_Call_Name_kw (ld_glob I hg hm (PySem.W.callWith_K (h₀ := X.base) I.ok.mod.kin M.kp (thn (ha.run pos pins s σ H _ I h) fun us s1 ⟨vs, H1, I1, r, q⟩ => ⟨I1.kIn, ?_⟩) he hpl) hdb)⟩
  refine run_makeH M F hr hc hb hx I1 r fun x dx h1 h2 h3 => ?_
  have := q x dx h1 h2 h3
  rw [List.append_nil] at this
  exact this
theorem dp_makeP {g : Tau → R (List D)} {ga : Addr} (hcC : X.mg c = some (.ref C)) (pe : ∀ t, PA X (e :: es) t → PE X (.Call (.Name c p') (e :: es) [] pos) (tMake C (spM X.K X.mg fm) [] E0 t)) (ha : DAk X W (e :: es) g) : DP X W (.Call (.Name c p') (e :: es) [] pos) (newD c fm g) := by
  obtain ⟨u, pu, qu⟩ := ha
  refine ⟨_, pe u pu, fun B τ σ H F Q s h => qu B τ σ H F _ s (h.seq fun ds vs H1 F1 e1 p1 h1 => ?_)⟩
  intro x dx hx hdx hne
  have sm : Same H1 (upd (upd H1 dx (.own x)) x (.ins C dx [])) := fun b o hb => by
    rw [upd_ne (ne_of_none hb hx), upd_ne (ne_of_none hb hdx)]; exact hb
  have hnew : ∀ b ∈ [x, dx], H1 b = none := fun b hb => by
    have hb' : b = x ∨ b = dx := by simpa using hb
    rcases hb' with rfl | rfl
    · exact hx
    · exact hdx
  refine ⟨F1, x, [x, dx], vs, .obj c [], ds, by rw [List.append_nil], e1.fh.trans sm, p1, .obj hcC upd_same (by rw [upd_ne hne, upd_same]) .nil, by simp [Ne.symm hne], fun b hb => e1.fh.free (hnew b hb), ?_⟩
  cases q : fm (.obj c []) ds with
  | bad => rw [q] at h1; exact h1.elim
  | er c d' => rw [q] at h1; exact h1.elim
  | ok s d' =>
    rw [q] at h1
    cases s <;> try exact h1.elim
    rename_i dd
    cases dd <;> try exact h1.elim
    intro v H' F' t
    have h1' : ∀ v H' F', Ext H1 F1 H' F' → Br X.K X.mg H H' F' v (.ow d') → Q v H' := h1
    have ex : Ext H1 F1 H' F' := t.fresh (H := H1) (F := F1) ⟨sm, Same.refl _, e1.fh.trans sm, fun b hb => .inl hb⟩ hnew
    have b1 : Br X.K X.mg H1 H' F' v (.sh .non) := t.slot1 sm rfl rfl (fun q => by cases q)
    have ev : v = .non := by cases (show Rep X.K F' v .non from b1); rfl
    refine ⟨ev, h1' (.ref x) H' F' ex ?_⟩
    obtain ⟨fq, hs, _, _⟩ := t.slots
    obtain ⟨a', e3, e4, ow, nd, ap⟩ := hs 0 _ rfl
    have : some (V.ref x) = some (V.ref a') := e3
    cases this
    exact ⟨x, fq 0, rfl, ow, nd, fun b hb => ⟨(ap b hb).1, e1.hh.free ((ap b hb).2.elim sm.free (hnew b))⟩⟩
theorem dp_makeB {g : Tau → R (List D)} (M : MkB X.prog X.w X.K X.mg X.base k c ps fm) (hr : L2H.RoomH (k + 1) X.A) (hc : Calm X W) (hg : Gl X c) (ha : DAk X W (e :: es) g)
    (hdb : (c == ("__debug__" : Str)) = false := by decide) (he : starEach (e :: es) X.env = (false, eval e X.env) :: starEach es X.env := by rfl) (hpl : (backTo pos (starEach es X.env)).any (·.1) = false := by rfl) : DP X W (.Call (.Name c p') (e :: es) [] pos) (newD c fm g) := by
  rcases hc with ⟨_, hh, tk⟩ | ⟨hc, tk⟩
  · exact dp_make M.d (calm_room hh hr) hg ha hdb he hpl
  · obtain ⟨C, ga, fd, hcC, mk, _, F2, bd⟩ := M.ex
    exact dp_makeP (ga := ga) hcC (fun t pt => pe_makeH mk F2 hr hc hg hcC bd passL pt hdb he hpl) ha
/-! loops, unpacked tuples, raise -/
def DIB (X : Cx) (W : WX) (tg e : Expr) (f : Tau → R (List D)) : Prop := DI X W tg e f ∧ ∃ t : TI, L2H.PIH X tg e t ∧ ∀ B τ σ H F (Q : It → Hp → Prop), SR X.K X.mg B H F σ τ → Fin X.mg W σ H F (f τ) (fun ds J _ F' => OverD X.K J ds F') Q → t σ H Q
end
section
variable {X : Cx} {W : WX} {tg e e2 : Expr} {f g : Tau → R D} {p pos : Pos}
theorem pih_or {a b : TI} (ha : L2H.PIH X tg e a) (hb : L2H.PIH X tg e b) : L2H.PIH X tg e (fun σ H R => a σ H R ∨ b σ H R) :=
  ⟨fun pins s σ H R I h => h.elim (ha.run pins s σ H R I) (hb.run pins s σ H R I)⟩
theorem di_anyB (h : DV X W e f) : DIB X W tg e (iA f) := by
  refine ⟨di_any h, ?_⟩
  obtain ⟨t, pt, q⟩ := h
  refine ⟨_, pih_or (DLHot.pi_listH pt) (pih_or (DLHot.pi_tupH pt) (DLHot.pi_strH pt)), fun B τ σ H F Q s h => ?_⟩
  unfold iA at h
  cases z : f τ with
  | er c =>
    refine .inl (q B τ σ H F _ s ?_); rw [z] at h ⊢; exact h
  | bad => rw [z] at h; exact h.elim
  | ok d =>
    rw [z] at h
    have go : ∀ {Q' : V → Hp → Prop}, (∀ v H1 F1, Ext H F H1 F1 → Rep X.K F1 v d → Q' v H1) → Fin X.mg W σ H F (f τ) (RpX X) Q' := fun k => by rw [z]; exact k
    have h' : Fin X.mg W σ H F (itA d) (fun ds J x F' => OverD X.K J ds F') Q := h
    cases d <;> try exact h'.elim
    · rename_i x
      refine .inr (.inr (q B τ σ H F _ s (go fun v H1 F1 e1 r1 => ?_)))
      cases r1
      exact ⟨x, rfl, h' _ H1 F1 e1 (over_str.d (repL_map _ _ (fun c => .str _) _))⟩
    · refine .inr (.inl (q B τ σ H F _ s (go fun v H1 F1 e1 r1 => ?_)))
      cases r1 with
      | tup hv r => exact ⟨_, rfl, ⟨_, SqT.of (e1.fh _ _ hv)⟩, h' _ H1 F1 e1 ((over_tup hv).d r)⟩
    · refine .inl (q B τ σ H F _ s (go fun v H1 F1 e1 r1 => ?_))
      cases r1 with
      | lst hv r => exact ⟨_, rfl, ⟨_, e1.fh.seq hv⟩, h' _ H1 F1 e1 ((over_list hv).d r)⟩
theorem di_rng1B (hg : Gl X "range") (hm : X.mg "range" = none) (h : DV X W e f) (hs : starEach [e] X.env = [(false, eval e X.env)] := by rfl) : DIB X W tg (.Call (.Name "range" p) [e] [] pos) (iR1 f) := by
  refine ⟨di_rng1 hg hm h hs, ?_⟩
  obtain ⟨t, pt, q⟩ := h
  refine ⟨_, L2H.pi_range1H hg hm (pa_cons pt pa_nil hs) hs, fun B τ σ H F Q s h => q B τ σ H F _ s (h.seq fun d v H1 F1 e1 p1 h1 => ?_)⟩
  cases d <;> try exact h1.elim
  rename_i j
  cases p1
  obtain ⟨hj, h2⟩ := Fin.ite (C := -(2 ^ 62) ≤ j ∧ j < 2 ^ 62) h1
  exact ⟨j, rfl, hj.1, hj.2, h2 _ H1 F1 (Ext.refl e1.fh) (over_rng.d (repL_map _ _ (fun c => .int _) _))⟩
end
section
variable {X : Cx} {W : WX} {iter : Expr} {body : List Stmt} {f : Tau → R (List D)} {b : FS} {pos pos' p p2 : Pos} {x c m : Str} {k j : Nat}
theorem forP {t : TI} {u : TS} (hk : X.N[k]? = some x) (q : ∀ B τ σ H F (Q : It → Hp → Prop), SR X.K X.mg B H F σ τ → Fin X.mg W σ H F (f τ) (fun ds J _ F' => OverD X.K J ds F') Q → t σ H Q) (qu : ∀ B τ σ H F D, SR X.K X.mg B H F σ τ → FinS X.K X.mg W B F (b τ) D → u D σ H)
    {B : Base} {τ : List Sl} {σ : L2.St} {H F : Hp} {D : Ends} (s : SR X.K X.mg B H F σ τ) (h : FinS X.K X.mg W B F (sFor k f b τ) D) : tFor t (gName k) u D σ H := by
  refine q B τ σ H F _ s (FinS.expr s h fun ds J H1 F1 e1 p1 h1 => ?_)
  have ov : OverD X.K J ds F1 := p1
  refine ⟨fun i m σ H => m = ds.length - i ∧ i ≤ ds.length ∧ ∃ τi F', Same F1 F' ∧ SR X.K X.mg B H F' σ τi ∧ FinS X.K X.mg W B F' (forL k b (ds.drop i) τi) D, ⟨_, rfl, Nat.zero_le _, τ, F1, Same.refl _, s.ext e1, h1⟩, ?_⟩
  rintro i m σ2 H2 ⟨rfl, hi, τi, F2, sm, s2, h2⟩
  obtain ⟨o1, o2⟩ := ov i H2 F2 sm s2.fh
  by_cases hlt : i < ds.length
  · obtain ⟨go, yd⟩ := o1 hlt
    refine .inr ⟨go, fun σ' H' => ∃ τi F', Same F1 F' ∧ SR X.K X.mg B H' F' σ' τi ∧ FinS X.K X.mg W B F' (forL k b (ds.drop (i + 1)) τi) D, fun σ' H' n' => ⟨ds.length - (i + 1), by omega, rfl, hlt, n'⟩, fun y H' yy => ?_⟩
    obtain ⟨rfl, F3, d, x3, ed, rd⟩ := yd y H' yy
    rw [drop_at ed] at h2
    have h3 : FinS X.K X.mg W B F2 ((Fl.put τi k (.sh d)).seq fun τ1 => (b τ1).seq (forL k b (ds.drop (i + 1)))) D := h2
    unfold Fl.put at h3
    cases z : τi[k]? with
    | none => rw [z] at h3; exact h3.elim
    | some y =>
      rw [z] at h3
      have hkl : k < τi.length := (List.getElem?_eq_some_iff.mp z).1
      dsimp only at h3
      split at h3
      · exact h3.elim
      · rename_i hn
        rw [Bool.or_eq_true, not_or] at hn
        have s3 := s2.put hkl (fun d q => by rw [z] at q; cases q; exact hn.1 rfl) x3 (s := .sh d) rd (fun d q => by cases q)
        refine qu B _ _ _ F3 _ s3 (FinS.bodyOf (D := D) (FinS.older x3.ff h3) rfl fun τ' σ' H' F' e t h4 => ⟨τ', F', (sm.trans x3.ff).trans e, t, h4⟩)
  · have e : i = ds.length := by omega
    subst e
    rw [List.drop_length] at h2
    exact .inl ⟨o2 (Nat.le_refl _), h2 σ2 _ F2 (Same.refl _) s2⟩
theorem ds_forB (hp : PassesOwn (model X.prog X.w) X.A X.env X.xe) (hc : Calm X W) (hN : X.N.Nodup) (hk : X.N[k]? = some x) (hx : Loc X.env.scope x) (hi : DIB X W (.Name x pos') iter f) (hb : DSs X W body b)
    (hs : ∀ y, foldedSetIterable iter X.env y = pure y := by intro _; rfl) (hf : X.fn x = true ∨ X.env.scope.names.lookup x = some .local := by first | exact .inl rfl | exact .inr rfl | assumption) :
    DS X W (.For (.Name x pos') iter body [] pos) (sFor k f b) := by
  rcases hc with ⟨hc, _, tk⟩ | ⟨hc, tk⟩
  · exact ds_for hp hc hN hk hx hi.1 hb hs hf
  · obtain ⟨t, pt, q⟩ := hi.2
    obtain ⟨u, pu, qu⟩ := hb
    exact ⟨_, L2H.ps_forH hp hc pt (pg_name hN hk hx hf) pu hs, fun B τ σ H F D s h => forP hk q qu s h⟩
theorem ds_raiseB (E : ExD X.K X.mg c) (hc : Calm X W) (hg : Gl X c) (hdb : (c == ("__debug__" : Str)) = false := by decide) : DS X W (.Raise (some (.Call (.Name c p) [.Constant (.str m) j p2] [] pos')) none pos) (sRaise c) := by
  rcases hc with ⟨hc, _, tk⟩ | ⟨hc, tk⟩
  · exact ds_raise E hc tk hg hdb
  · obtain ⟨C, h1, h2, h3, h4, h5⟩ := E.ex
    refine ⟨_, L2H.ps_raiseH hc tk (L2N.pmk_own PySem.F.excBase_ValueError h2 h1 h3 (raises_own h4 h5) hg hdb), fun B τ σ H F D s h => ?_⟩
    have h' : ∀ σ' H' F', Same F F' → SR X.K X.mg B H' F' σ' τ → W (cv X.mg c) none σ' H' := h
    have e : cv X.mg c = .ref C := by unfold cv; rw [h1]; rfl
    have := h' σ H F (Same.refl _) s
    rw [e] at this
    exact this
theorem ds_unpB {es : List Expr} {is : List Nat} {n : Nat} {pt : Pos} {h : Tau → R D} {e : Expr} (hc : Calm X W) (hg : PGi X es is) (he : DV X W e h) (hn : (assignEach es X.env).length = is.length := by rfl) (hst : (assignEach es X.env).findIdx? (·.1) = none := by rfl)
    (hs : swapsWithSole [.Tuple es n pt] e pos.line X.env = pure false := by rfl) (hw : swappedStores [.Tuple es n pt] e X.env = pure none := by rfl) (h1 : (assignEach [.Tuple es n pt] X.env).map (·.2) = [assign (.Tuple es n pt) X.env] := by rfl) :
    DS X W (.Assign [.Tuple es n pt] e pos) (sUnp is h) := by
  rcases hc with ⟨hc, _, tk⟩ | ⟨hc, tk⟩
  · exact ds_unp hc hg he hn hst hs hw h1
  · obtain ⟨tg, pg, qg⟩ := hg.ex
    obtain ⟨t, pt', q⟩ := he
    refine ⟨_, ps_asg pt' (DLHot.pg_tupH hc pg hn hst) hs hw h1, fun B τ σ H F D s h => q B τ σ H F _ s (FinS.expr s h fun d v H1 F1 e p h2 => ?_)⟩
    cases d <;> try exact h2.elim
    rename_i ds
    cases p with
    | tup hv hr =>
      obtain ⟨l, z⟩ := FinS.puts (s.ext e) hr h2
      exact ⟨_, _, rfl, SqT.of (e.fh _ _ hv), l, qg _ σ H1 _ l z⟩
end
end DL
end

section
set_option Elab.async false
set_option linter.all false
set_option maxRecDepth 100000
namespace DL
open PySem PySem.Spec PyProof.Rows L2

section
variable {X : Cx} {W : WX} {k : Nat} {x c m : Str} {ps : List Str} {e o : Expr} {es : List Expr} {p pos apos : Pos} {g : Tau → R (List D)} {fm : D → List D → RM}
theorem dp_tmpP {g0 : Tau → R Sl} {C : Addr} (hcC : X.mg c = some (.ref C)) (pe : ∀ ta t, PE X o ta → PA X (e :: es) t → PE X (.Call (.Attribute o m apos) (e :: es) [] pos) (tMethS C m (spM X.K X.mg fm) (WE W) ta t)) (ho : DP X W o g0) (ha : DAk X W (e :: es) g) :
    DP X W (.Call (.Attribute o m apos) (e :: es) [] pos) (tmpM c m fm g0 g) := by
  obtain ⟨t, pt, q⟩ := ho
  obtain ⟨u, pu, qu⟩ := ha
  refine ⟨_, pe t u pt pu, fun B τ σ H F Q s h => q B τ σ H F _ s ?_⟩
  unfold tmpM at h
  cases z0 : g0 τ with
  | bad => rw [z0] at h; exact h
  | er c => rw [z0] at h; exact h
  | ok sl =>
    rw [z0, R.bind_ok] at h
    intro v H1 F1 e1 p1
    cases sl <;> try exact h.elim
    rename_i d
    cases d <;> try exact h.elim
    rename_i c' fs
    obtain ⟨hcc, h2⟩ := Fin.ite (C := c' = c ∧ (flook fs m).isNone) h
    obtain ⟨rfl, hn⟩ := hcc
    obtain ⟨a, fp, rfl, ow, nd, ap⟩ := p1
    have s1 := s.ext e1
    cases ow with
    | @obj _ dx C1 _ vs _ fp0 m1 ha hdx r =>
      rw [hcC] at m1
      cases m1
      refine ⟨a, dx, vs, rfl, ha, r.lookNone (Option.isNone_iff_eq_none.mp hn), ?_⟩
      have ow : Own X.K X.mg H1 F1 (.obj c' fs) a (a :: dx :: fp0) := .obj hcC ha hdx r
      refine qu B τ σ H1 F1 _ s1 ?_
      cases z1 : g τ with
      | bad => rw [z1] at h2; exact h2
      | er c => rw [z1] at h2; exact fun H' e => h2 H' (e1.hh.trans e)
      | ok ds =>
        rw [z1, R.bind_ok] at h2
        intro us H2 F2 e2 p2
        refine ⟨F2, a, _, us, _, ds, rfl, e2.fh, p2, e2.own ow, nd, ow.apart e2 (fun b hb => (ap b hb).1), ?_⟩
        have e12 := e1.trans e2
        have fr : ∀ b ∈ a :: dx :: fp0, H b = none := fun b hb => (ap b hb).2
        cases z : fm (.obj c' fs) ds with
        | bad => rw [z] at h2; exact h2
        | er c d' => rw [z] at h2; exact fun H' F' t => h2 H' (t.fresh e12 fr).hh
        | ok s' d' =>
          rw [z] at h2
          intro v H' F' t
          have hx := t.fresh e12 fr
          cases s' with
          | sh d => exact h2 v H' F' hx (t.slot1 e12.hh rfl rfl (fun q => by cases q))
          | ow d => exact h2 v H' F' hx (t.slot1 e12.hh rfl rfl (fun q => by cases q))
          | un => exact h2.elim
          | io d => exact h2.elim
          | bw d => exact h2.elim
theorem dp_tmpB {ps' : Sem Bool} {g0 : Tau → R Sl} (M : MtB X.prog X.w X.K X.mg X.base k c m ps fm) (hr : L2H.RoomH k X.A) (hc : Calm X W) (ho : DP X W o g0) (ha : DAk X W (e :: es) g)
    (hst : starEach (e :: es) X.env = (false, eval e X.env) :: starEach es X.env := by rfl) (hpl : (backTo pos (starEach es X.env)).any (·.1) = false := by rfl)
    (ht : eval (.Call (.Attribute o m apos) (e :: es) [] pos) X.env = (do
      let ov ← eval o X.env
      standAt apos.atName
      let (f, first) ← holding [ov] (getMethod ov m ps')
      callWith pos f first (backTo pos (starEach (e :: es) X.env)) (backToKw pos (keywordEach [] X.env))) := by rfl) : DP X W (.Call (.Attribute o m apos) (e :: es) [] pos) (tmpM c m fm g0 g) := by
  obtain ⟨C, ga, fd, hcC, cl, me, F1, F2, bd⟩ := M.ex
  rcases hc with ⟨_, hh, tk⟩ | ⟨hc, tk⟩
  · exact dp_tmpP hcC (fun ta t pt pu => pe_methSs (pl := ps') pt cl me F1 (calm_room hh hr) bd (fun σ => L2N.passAt tk σ) pu hst hpl ht) ho ha
  · exact dp_tmpP hcC (fun ta t pt pu => L2H.pe_methH (pl := ps') pt cl me F2 hr hc bd (fun σ => L2.passAt tk σ) pu hst hpl ht) ho ha
end
/-! ### a def, by its body, calm or not -/
theorem run_D {X : Cx} {E : XK} {body : List Stmt} {b : FS} {N : List Str} {np : Nat} {vs : List V} {H : Hp} {Q : VK} (hb : DSs X (WofE E) body b) (hp : np ≤ N.length) (h : spD X.K X.mg (runF N.length np b) vs H Q E) :
    ∃ t, PSs X body t ∧ t { nx := fun _ H' => Q .non H', rt := Q } (L2.start N vs) H := by
  obtain ⟨F, ds, sm, r, h⟩ := h
  have h' : Fin X.mg (fun c d _ H' => E c d H') [] H F (if ds.length = np then (b (initT N.length ds)).res else .bad) (fun s v H' F' => Br X.K X.mg H H' F' v s) Q := h
  split at h'
  · rename_i hl
    obtain ⟨t, pt, q⟩ := hb
    refine ⟨t, pt, q (noB H F) (initT N.length ds) (L2.start N vs) H F _ (SR.init sm r (by omega)) ?_⟩
    cases z : b (initT N.length ds) with
    | bad => rw [z] at h'; exact h'
    | nx τ => rw [z] at h'; exact fun σ' H' F' e t => h' .non H' F' t.noExt (show Rep _ _ _ _ from .non)
    | er c τ => rw [z] at h'; exact fun σ' H' F' e t => h' H' t.noExt.hh
    | rt s τ =>
      rw [z] at h'
      intro v σ' H' F' e t
      cases s with
      | sh d => exact h' v H' F' t.noExt (t.noBr (fun q => by cases q))
      | ow d => exact h' v H' F' t.noExt (t.noBr (fun q => by cases q))
      | un => exact h'.elim
      | io d => exact h'.elim
      | bw d => exact h'.elim
  · exact h'.elim
theorem run_Mm {X : Cx} {E : XK} {body : List Stmt} {b : FS} {N : List Str} {np : Nat} {vs : List V} {H : Hp} {Q : VK} (hb : DSs X (WofE E) body b) (hp : np ≤ N.length) (h : spM X.K X.mg (runM N.length np b) vs H Q E) :
    ∃ t, PSs X body t ∧ t { nx := fun _ H' => Q .non H', rt := Q } (L2.start N vs) H := by
  obtain ⟨F, a, fp, rest, d, ds, rfl, sm, r, ow, nd, ap, h⟩ := h
  by_cases hl : ds.length + 1 = np
  · rw [runM, if_pos hl] at h
    obtain ⟨t, pt, q⟩ := hb
    refine ⟨t, pt, q (ioB H F a fp) _ (L2.start N (.ref a :: rest)) H F _ (SR.initM sm ow nd ap r (by omega)) ?_⟩
    cases z : b (.io d :: initT (N.length - 1) ds) with
    | bad => rw [z] at h; exact h
    | nx τ =>
      rw [z] at h
      unfold Fl.resM at h
      dsimp only at h
      intro σ' H' F' e t
      cases τ with
      | nil => exact h.elim
      | cons s0 τ =>
        cases s0 <;> try exact h.elim
        exact h .non H' F' ((t.push (Ext.refl t.fh) (v := .non) (s := .sh .non) (show Rep _ _ _ _ from .non) (fun d q => by cases q)).two rfl rfl)
    | er c τ =>
      rw [z] at h
      unfold Fl.resM at h
      dsimp only at h
      intro σ' H' F' e t
      cases τ with
      | nil => exact h.elim
      | cons s0 τ =>
        cases s0 <;> try exact h.elim
        exact h H' F' (t.one rfl)
    | rt s τ =>
      rw [z] at h
      unfold Fl.resM at h
      dsimp only at h
      intro v σ' H' F' e t
      cases τ with
      | nil => exact h.elim
      | cons s0 τ =>
        cases s0 <;> try exact h.elim
        cases s with
        | sh d => exact h v H' F' (t.two rfl rfl)
        | ow d => exact h v H' F' (t.two rfl rfl)
        | un => exact h.elim
        | io d => exact h.elim
        | bw d => exact h.elim
  · rw [runM, if_neg hl] at h
    exact h.elim
theorem len_D {K : PySem.W.Frag} {mg : Str → Option Value} {n np : Nat} {b : FS} {vs : List V} {H : Hp} {Q : VK} {E : XK} (h : spD K mg (runF n np b) vs H Q E) : vs.length = np := by
  obtain ⟨F, ds, _, r, h⟩ := h
  have h' : Fin mg (fun c d _ H' => E c d H') [] H F (if ds.length = np then (b (initT n ds)).res else .bad) (fun s v H' F' => Br K mg H H' F' v s) Q := h
  split at h'
  · rw [r.length]; assumption
  · exact h'.elim
theorem len_M {K : PySem.W.Frag} {mg : Str → Option Value} {n np : Nat} {b : FS} {vs : List V} {H : Hp} {Q : VK} {E : XK} (h : spM K mg (runM n np b) vs H Q E) : vs.length = np := by
  obtain ⟨F, a, fp, rest, d, ds, rfl, sm, r, ow, nd, ap, h⟩ := h
  by_cases hl : ds.length + 1 = np
  · rw [← hl]; exact congrArg (· + 1) r.length
  · rw [runM, if_neg hl] at h; exact h.elim
section
variable {P : Program} {w : World} {K : PySem.W.Frag} {mg : Str → Option Value} {base : Heap} {x qual : Str} {params : Arguments} {body : List Stmt} {scope : Scope} {f : Addr} {fd : FuncData} {N ps : List Str} {k : Nat} {b : FS}
abbrev CxB (CX : CXT) (cl : Bool) (pn : List (Addr × Obj)) (P : Program) (w : World) (K : PySem.W.Frag) (mg : Str → Option Value) (base : Heap) (N : List Str) (qual : Str) (scope : Scope) (f : Addr) (cdv : Value) (A : Around) (outer : List Env) (s : Shared) (H : Hp) (E : XK) : Cx :=
  { cxOf CX P w K mg base N qual scope f cdv A outer s H E with calm := cl, pn := pn }
def BodyB (P : Program) (w : World) (K : PySem.W.Frag) (mg : Str → Option Value) (base : Heap) (k : Nat) (N : List Str) (qual : Str) (scope : Scope) (body : List Stmt) (b : FS) : Prop :=
  ∀ (CX : CXT) (cl : Bool) (pn : List (Addr × Obj)) (f : Addr) (cdv : Value) (A : Around) (outer : List Env) (s : Shared) (H : Hp) (E : XK), L2H.RoomH k (A.deeper (envOfC qual scope s.heap.objs.size f cdv)) →
    Calm (CxB CX cl pn P w K mg base N qual scope f cdv A outer s H E) (WofE E) → DSs (CxB CX cl pn P w K mg base N qual scope f cdv A outer s H E) (WofE E) body b
theorem bodyB_calm (hb : BodyB P w K mg base k N qual scope body b) (f : Addr) (cdv : Value) (A : Around) (outer : List Env) (s : Shared) (H : Hp) (E : XK) (hr : Room k (A.deeper (envOfC qual scope s.heap.objs.size f cdv))) : DSs (CxD P w K mg base N qual scope f cdv A outer s H E) (WofE E) body b :=
  hb (L2N.CX P w) true [] f cdv A outer s H E (L2H.roomH_of hr) (.inl ⟨rfl, hr.hd, L2N.takes_of (X := CxB (L2N.CX P w) true [] P w K mg base N qual scope f cdv A outer s H E) rfl rfl rfl rfl⟩)
theorem bodyB_hot (hb : BodyB P w K mg base k N qual scope body b) (f : Addr) (cdv : Value) (A : Around) (outer : List Env) (s : Shared) (H : Hp) (E : XK) (p : Addr × Obj) (hp : L2H.Hot1 A p) (hr : L2H.RoomH k (A.deeper (envOfC qual scope s.heap.objs.size f cdv))) :
    DSs (L2H.cxH (L2.CX P w) P w K mg base N qual scope f cdv A outer s H E p) (WofE E) body b :=
  hb (L2.CX P w) false [p] f cdv A outer s H E hr (.inr ⟨⟨p, hp, List.mem_singleton.mpr rfl⟩, L2.takes_of (X := CxB (L2.CX P w) false [p] P w K mg base N qual scope f cdv A outer s H E) rfl rfl rfl rfl⟩)
theorem fn_bodyB (Fn : FunD K x qual params body scope [] [] f fd) (S : FnScope N ps scope) (hp : ps.length ≤ N.length) (hb : BodyB P w K mg base k N qual scope body b) :
    FnOk P w K mg base (L2N.CX P w) (k + 1) f fd ps (spD K mg (runF N.length ps.length b)) ∧ L2H.FnH P w K mg base (L2.CX P w) (k + 1) f fd ps (spD K mg (runF N.length ps.length b)) := by
  refine ⟨fn_body Fn S hp (bodyB_calm hb), ?_⟩
  obtain ⟨oc, od, dV, kV, doc, pm, an, cdv, ct, osl, rfl, lk, hcd, _, _⟩ := Fn.ex
  exact L2H.fn_ofH lk hcd S (fun vs H Q E h => len_D h) fun A outer s H vs Q E p h1 hr h => run_D (X := L2H.cxH (L2.CX P w) P w K mg base N qual scope f cdv A outer s H E p) (bodyB_hot hb f cdv A outer s H E p h1 hr) hp h
theorem fn_bodyMB (Fn : FunD K x qual params body scope [] [] f fd) (S : FnScope N ps scope) (hp : ps.length ≤ N.length) (hb : BodyB P w K mg base k N qual scope body b) :
    FnOk P w K mg base (L2N.CX P w) (k + 1) f fd ps (spM K mg (runM N.length ps.length b)) ∧ L2H.FnH P w K mg base (L2.CX P w) (k + 1) f fd ps (spM K mg (runM N.length ps.length b)) := by
  refine ⟨fn_bodyM Fn S hp (bodyB_calm hb), ?_⟩
  obtain ⟨oc, od, dV, kV, doc, pm, an, cdv, ct, osl, rfl, lk, hcd, _, _⟩ := Fn.ex
  exact L2H.fn_ofH lk hcd S (fun vs H Q E h => len_M h) fun A outer s H vs Q E p h1 hr h => run_Mm (X := L2H.cxH (L2.CX P w) P w K mg base N qual scope f cdv A outer s H E p) (bodyB_hot hb f cdv A outer s H E p h1 hr) hp h
end
end DL
end

section
set_option Elab.async false
set_option linter.all false
set_option maxRecDepth 100000
namespace DL
open PySem PySem.Spec PyProof.Rows L2

theorem suite_hot {X : Cx} {a : Addr} {oe : Obj} {pn : List (Addr × Obj)} {cls : Value} {d : Option Addr} (hz : L2N.Zn cls d oe) (hf : ∃ vs, oe.data = .fields vs) : Calm (X.suite a ((a, oe) :: pn)) W0 := by
  obtain ⟨vs, hv⟩ := hf
  exact .inr ⟨⟨(a, oe), ⟨rfl, vs, hv, hz.2.2 vs hv⟩, List.mem_cons_self⟩, L2.takes0⟩
theorem roomH_suite {X : Cx} {k : Nat} {a : Addr} {pn : List (Addr × Obj)} (r : L2H.RoomH k X.A) : L2H.RoomH k (X.suite a pn).A := ⟨r.dp, r.un⟩
section
variable {X : Cx} {i : Nat} {a : Addr} {oe : Obj} {pn : List (Addr × Obj)} {x t t2 c : Str} {p pt pt2 pos q1 tp : Pos} {b b2 : Bool} {W : WX} {k0 : Nat}
theorem cv_eq {mg : Str → Option Value} {C : Addr} (h : mg c = some (.ref C)) : cv mg c = .ref C := by unfold cv; rw [h]; rfl
/-- isinstance(e, C), C an own class -/
theorem dve_isC (E : ExI X.K X.mg c) (hz : L2N.Zn (cv X.mg c) none oe) (hf : ∃ vs, oe.data = .fields vs) (hT : ∃ C2, X.mg t = some (.ref C2)) (hk : PySem.W.kitOne X.K (cv X.mg c) (cv X.mg t) = some b) (hgt : Gl X t) (hdt : (t == ("__debug__" : Str)) = false)
    (hN : X.N[i]? = some x) (hv : Vis X.env.scope x) (hd : (x == ("__debug__" : Str)) = false) (hcd : (x == ("__classdict__" : Str)) = false) (hg : Gl X "isinstance") (hm : X.mg "isinstance" = none)
    (h1 : starEach [.Name x q1, .Name t pt] X.env = (false, eval (.Name x q1) X.env) :: starEach [.Name t pt] X.env := by rfl) (h2 : starEach [.Name t pt] X.env = (false, eval (.Name t pt) X.env) :: starEach [] X.env := by rfl) (hpl : (backTo pos (starEach [.Name t pt] X.env)).any (·.1) = false := by rfl) :
    DVe (X.suite a ((a, oe) :: pn)) W i (.ref a) (.Call (.Name "isinstance" p) [.Name x q1, .Name t pt] [] pos) (isB b) := by
  obtain ⟨C2, hT⟩ := hT
  rw [cv_eq hT] at hk
  exact dve_is (v := .ref C2) (u := .ref C2) E hz hf hk (pe_glob hgt hT rfl hdt) clsU_ref hN hv hd hcd hg hm h1 h2 hpl
/-- isinstance(e, T), T a built-in class -/
theorem dve_isT {T : String} (E : ExI X.K X.mg c) (hz : L2N.Zn (cv X.mg c) none oe) (hf : ∃ vs, oe.data = .fields vs) (hk : PySem.W.kitOne X.K (cv X.mg c) (.type T) = some b) (hgt : Gl X t) (hmt : X.mg t = none) (hvt : bootBuiltins t = some (.type T)) (hnt : t ≠ "__name__") (hdt : (t == ("__debug__" : Str)) = false)
    (hN : X.N[i]? = some x) (hv : Vis X.env.scope x) (hd : (x == ("__debug__" : Str)) = false) (hcd : (x == ("__classdict__" : Str)) = false) (hg : Gl X "isinstance") (hm : X.mg "isinstance" = none)
    (h1 : starEach [.Name x q1, .Name t pt] X.env = (false, eval (.Name x q1) X.env) :: starEach [.Name t pt] X.env := by rfl) (h2 : starEach [.Name t pt] X.env = (false, eval (.Name t pt) X.env) :: starEach [] X.env := by rfl) (hpl : (backTo pos (starEach [.Name t pt] X.env)).any (·.1) = false := by rfl) :
    DVe (X.suite a ((a, oe) :: pn)) W i (.ref a) (.Call (.Name "isinstance" p) [.Name x q1, .Name t pt] [] pos) (isB b) :=
  dve_is (v := .ty T) (u := .type T) E hz hf hk (pe_bltn hgt hmt hvt rfl hnt hdt) clsU_ty hN hv hd hcd hg hm h1 h2 hpl
def rIsE2 (K : PySem.W.Frag) (D a : Addr) : List V → Hp → VK → Prop := fun xs H Q => ∃ (tp : Addr) (cs : List V) (us : List Value) (b : Bool), xs = [.ref a, .ref tp] ∧ H tp = some (.tup cs) ∧ Paired ClsV cs us ∧ PySem.W.kitAny K (.ref D) us = some b ∧ Q (.bl b) H
theorem call_isE2 {D : Addr} (C : ExcC X.K D) (hz : Zc (.ref D) none oe) (hf : ∃ vs, oe.data = .fields vs) : CallR (X.suite a ((a, oe) :: pn)) (.builtin "isinstance") (rIsE2 X.K D a) := by
  intro pins s σ H xs us Q I r h
  obtain ⟨tp, cs, ws, b, rfl, hT, kc, e, q⟩ := h
  obtain ⟨u1, u2, rfl, r1, r2⟩ := vals2 r
  cases r1
  cases (show u2 = Value.ref tp from r2)
  obtain ⟨_, its, rv, o, h1, h2, n, h3⟩ := (show ObjOk X.prog X.w H s.heap tp (.tup cs) from I.hok tp _ hT)
  have e3 := ClsV.all kc rv
  subst e3
  obtain ⟨hget, _⟩ := I.pin (a, oe) (List.mem_append.mpr (.inl List.mem_cons_self))
  obtain ⟨vs, hv⟩ := hf
  have J : PySem.W.InstAt s.heap a oe D none := by
    obtain ⟨oc, od, oda, osl⟩ := oe
    obtain ⟨g1, g2⟩ := hz
    dsimp only at g1 g2 hv
    subst g1 g2 hv
    exact ⟨hget, rfl, rfl, trivial⟩
  obtain ⟨oc, od, dt, sl⟩ := o
  simp only at h2 h3
  subst h2 h3
  exact PySem.W.kia_tup (PySem.W.handS_kitx_exc C.hg C.hk C.hs C.hd C.ha C.hn C.ht C.hm) I.kIn J h1 e (fun z => nomatch z) fun tk => ⟨.bl b, H, I.kept (t' := tk) fun _ _ z => z, rfl, q⟩
/-- isinstance(e, (A, B)), own classes -/
theorem dve_is2 (E : ExI X.K X.mg c) (hz : L2N.Zn (cv X.mg c) none oe) (hf : ∃ vs, oe.data = .fields vs) (hT : ∃ C2, X.mg t = some (.ref C2)) (hT2 : ∃ C2, X.mg t2 = some (.ref C2)) (hk : PySem.W.kitOne X.K (cv X.mg c) (cv X.mg t) = some b) (hk2 : PySem.W.kitOne X.K (cv X.mg c) (cv X.mg t2) = some b2) (hgt : Gl X t) (hgt2 : Gl X t2) (hdt : (t == ("__debug__" : Str)) = false) (hdt2 : (t2 == ("__debug__" : Str)) = false)
    (hN : X.N[i]? = some x) (hv : Vis X.env.scope x) (hd : (x == ("__debug__" : Str)) = false) (hcd : (x == ("__classdict__" : Str)) = false) (hg : Gl X "isinstance") (hm : X.mg "isinstance" = none)
    (h1 : starEach [.Name x q1, .Tuple [.Name t pt, .Name t2 pt2] k0 tp] X.env = (false, eval (.Name x q1) X.env) :: starEach [.Tuple [.Name t pt, .Name t2 pt2] k0 tp] X.env := by rfl) (h2 : starEach [.Tuple [.Name t pt, .Name t2 pt2] k0 tp] X.env = (false, eval (.Tuple [.Name t pt, .Name t2 pt2] k0 tp) X.env) :: starEach [] X.env := by rfl)
    (h3 : starEach [.Name t pt, .Name t2 pt2] X.env = (false, eval (.Name t pt) X.env) :: starEach [.Name t2 pt2] X.env := by rfl) (h4 : starEach [.Name t2 pt2] X.env = (false, eval (.Name t2 pt2) X.env) :: starEach [] X.env := by rfl) (hpl : (backTo pos (starEach [.Tuple [.Name t pt, .Name t2 pt2] k0 tp] X.env)).any (·.1) = false := by rfl) :
    DVe (X.suite a ((a, oe) :: pn)) W i (.ref a) (.Call (.Name "isinstance" p) [.Name x q1, .Tuple [.Name t pt, .Name t2 pt2] k0 tp] [] pos) (isB (b || b2)) := by
  obtain ⟨C, hc, ec⟩ := E.ex
  obtain ⟨A1, hT⟩ := hT
  obtain ⟨A2, hT2⟩ := hT2
  rw [cv_eq hc] at hz hk hk2
  rw [cv_eq hT] at hk
  rw [cv_eq hT2] at hk2
  refine ⟨_, pe_callB (call_isE2 ec hz.zc hf) hg hm boot_isinstance (pa_cons (pe_var (i := i) hN hv hd hcd) (pa_cons (pe_tup (pa_cons (pe_glob (v := .ref A1) hgt hT rfl hdt) (pa_cons (pe_glob (v := .ref A2) hgt2 hT2 rfl hdt2) pa_nil h4) h3)) pa_nil h2) h1) (he := h1) (hpl := hpl), fun B τ σ H F Q s hv h => ?_⟩
  refine ⟨_, hv, le64 (show 2 ≤ 64 by omega), fun q hq => ?_⟩
  refine ⟨q, _, [.ref A1, .ref A2], b || b2, rfl, upd_same, Paired.cons (.own A1) (Paired.cons (.own A2) Paired.nil), kitAny_cons hk (fun hb => ?_) (fun hb => by rw [hb]; rfl), ?_⟩
  · rw [hb, Bool.false_or]
    exact kitAny_cons hk2 (fun hb => by rw [hb]; exact kitAny_nil) (fun hb => hb)
  · have x1 := Ext.lay s.fh (.tup [.ref A1, .ref A2]) hq
    exact h _ _ _ x1 (.bl _)
end
/-! tests of e -/
def DTe (X : Cx) (W : WX) (i : Nat) (v : V) (e : Expr) (g : Tau → R Bool) : Prop := ∃ t, PT X e t ∧ ∀ B τ σ H F Q, SR X.K X.mg B H F σ τ → σ[i]? = some (some v) → Fin X.mg W σ H F (g τ) (fun b v _ _ => v = b) Q → t σ H Q
def DTwe (X : Cx) (W : WX) (i : Nat) (v : V) (e : Expr) (g : Tau → R Bool) : Prop := ∃ t, PW X e t ∧ ∀ B τ σ H F Q, SR X.K X.mg B H F σ τ → σ[i]? = some (some v) → Fin X.mg W σ H F (g τ) (fun b v _ _ => v = b) Q → t σ H Q
section
variable {X : Cx} {W : WX} {i : Nat} {v : V} {a b c e : Expr} {f : Tau → R D} {t u : Tau → R Bool} {pos p : Pos} {rest : List Expr}
theorem DT.exc (h : DT X W e t) : DTe X W i v e t := by
  obtain ⟨t, p, q⟩ := h
  exact ⟨t, p, fun B τ σ H F Q s _ h => q B τ σ H F Q s h⟩
theorem DTwe.pt (h : DTwe X W i v e t) : DTe X W i v e t := by
  obtain ⟨t, p, q⟩ := h
  exact ⟨t, p.pt, q⟩
theorem dte_tru (ha : DVe X W i v a f) (he : ∀ whole, isTrue a X.env whole = (do let v ← whole; standAt a.pos; holding [v] (truthy v)) := by intro _; rfl) : DTe X W i v a (tru f) := by
  obtain ⟨t, p, q⟩ := ha
  refine ⟨_, pt_truth p he, fun B τ σ H F Q s hv h => q B τ σ H F _ s hv (h.seq fun d v H1 F1 e1 p1 h1 => ?_)⟩
  have p1 : Rep X.K F1 v d := p1
  cases d with
  | bl b => exact ⟨b, by cases p1; exact rfl, h1 b H1 F1 (Ext.refl e1.fh) rfl⟩
  | non => exact ⟨false, by cases p1; exact rfl, h1 false H1 F1 (Ext.refl e1.fh) rfl⟩
  | lst ds =>
    cases p1 with
    | @lst _ vs _ h r =>
      refine ⟨!ds.isEmpty, .inl ⟨vs, e1.fh.seq h, ?_⟩, h1 _ H1 F1 (Ext.refl e1.fh) rfl⟩
      have := r.nil_iff
      cases vs <;> cases ds <;> simp at this ⊢
  | int _ => exact h1.elim
  | str _ => exact h1.elim
  | tup _ => exact h1.elim
  | dS _ => exact h1.elim
  | dT _ => exact h1.elim
  | obj _ _ => exact h1.elim
theorem dte_not (h : DTe X W i v a t) : DTe X W i v (.UnaryOp .Not a pos) (notT t) := by
  obtain ⟨t, p, q⟩ := h
  refine ⟨_, pt_not p, fun B τ σ H F Q s hv h => q B τ σ H F _ s hv (h.seq fun k v H1 F1 e1 p1 h1 => ?_)⟩
  subst p1
  exact h1 _ H1 F1 (Ext.refl e1.fh) rfl
theorem dte_or1 (h : DTe X W i v a t) : DTwe X W i v (.BoolOp .Or [a] pos) t := by
  obtain ⟨t, p, q⟩ := h
  exact ⟨_, pw_or1 p, q⟩
theorem dte_or (h : DTe X W i v a t) (h2 : DTwe X W i v (.BoolOp .Or (b :: rest) pos) u) : DTwe X W i v (.BoolOp .Or (a :: b :: rest) pos) (orT t u) := by
  obtain ⟨t, p, q⟩ := h
  obtain ⟨u, pu, qu⟩ := h2
  refine ⟨_, pw_or p pu, fun B τ σ H F Q s hv h => q B τ σ H F _ s hv (h.seq fun k v H1 F1 e1 p1 h1 => ?_)⟩
  subst p1
  cases v with
  | true =>
    rw [if_pos rfl]
    exact h1 _ H1 F1 (Ext.refl e1.fh) rfl
  | false =>
    rw [if_neg Bool.false_ne_true]
    exact qu B τ σ H1 F1 Q (s.ext e1) hv h1
/-- a suite's branch must leave the def -/
def Fl.out (r : Fl) : Fl := match r with
  | .nx _ => .bad
  | r => r
def sOutIf (c : Tau → R Bool) (f g : FS) : FS := fun τ => Fl.of (c τ) τ fun b => if b then (f τ).out else g τ
theorem dse_if {ce : Expr} {ss ss2 : List Stmt} {f g : FS} {c : Tau → R Bool} (hc : DTe X W i v ce c) (ha : DSs X W ss f) (hb : DSes X W i v ss2 g) : DSes X W i v (.If ce ss [] pos :: ss2) (sOutIf c f g) := by
  obtain ⟨t, pt, q⟩ := hc
  obtain ⟨u, pu, qu⟩ := ha
  obtain ⟨w, pw, qw⟩ := hb
  refine ⟨_, pss_cons (ps_if pt pu pss_nil) pw, fun B τ σ H F D s hv h => ?_⟩
  refine q B τ σ H F _ s hv (FinS.expr s h fun b v H1 F1 e p h1 => ?_)
  subst p
  cases v with
  | true =>
    rw [if_pos rfl] at h1 ⊢
    refine qu B τ σ H1 F1 _ (s.ext e) ?_
    cases z : f τ with
    | nx τ' => rw [z] at h1; exact h1.elim
    | rt s' τ' => rw [z] at h1; exact h1
    | er c τ' => rw [z] at h1; exact h1
    | bad => rw [z] at h1; exact h1
  | false =>
    rw [if_neg Bool.false_ne_true] at h1 ⊢
    exact qw B τ σ H1 F1 D (s.ext e) hv h1
end
end DL
end

section
set_option Elab.async false
set_option linter.all false
set_option maxRecDepth 100000
set_option maxHeartbeats 0
namespace Lk50
open PySem PySem.Spec PyProof.Rows L2 DL
/-! ### the defs of the text -/
def top (i : Nat) : Stmt := PySem.Challenge.pw_glasslayers_k50_ways_found.main.body.getD i (.Pass ⟨0, 0, 0, 0⟩)
abbrev s_l_cell_at : Stmt := top 29
abbrev s_l_mixed : Stmt := top 31
abbrev s_l_name_by : Stmt := top 32
abbrev s_l_link_by : Stmt := top 33
abbrev s_l_hall_by : Stmt := top 34
abbrev s_l_tree_of : Stmt := top 35
abbrev s_l_cells : Stmt := top 30
abbrev s_l_is_way : Stmt := top 36
abbrev s_is_name : Stmt := top 10
abbrev s_is_word : Stmt := top 15
abbrev s_words_of : Stmt := top 16
abbrev s_by_way : Stmt := top 21
abbrev s_Walk_init : Stmt := L2.inClass (top 24) 0
abbrev s_Walk_set_out : Stmt := L2.inClass (top 24) 1
abbrev s_above : Stmt := top 12
abbrev s_Walk_follow : Stmt := L2.inClass (top 24) 2
abbrev s_Walk_enter : Stmt := L2.inClass (top 24) 3
abbrev s_Walk_go : Stmt := L2.inClass (top 24) 4
abbrev s_walked : Stmt := top 25
abbrev s_find_way : Stmt := top 26
abbrev s_Walk_come_to : Stmt := L2.inClass (top 24) 5
abbrev s_place_of : Stmt := top 27
abbrev s_l_met : Stmt := top 37
abbrev s_l_missing : Stmt := top 38
abbrev s_law : Stmt := top 39
abbrev N_l_cell_at : List Str := [("_law_script" : Str), ("_law_k" : Str)]
theorem sc_l_cell_at : FnScope N_l_cell_at [("_law_script" : Str), ("_law_k" : Str)] (defScope s_l_cell_at) := ⟨rfl, rfl, rfl, by decide +kernel, rfl, by decide +kernel, by decide +kernel⟩
abbrev N_l_mixed : List Str := [("_law_cell" : Str), ("_law_turn" : Str), ("_law_many" : Str), ("_law_by" : Str), ("_law_prime" : Str)]
theorem sc_l_mixed : FnScope N_l_mixed [("_law_cell" : Str), ("_law_turn" : Str), ("_law_many" : Str)] (defScope s_l_mixed) := ⟨rfl, rfl, rfl, by decide +kernel, rfl, by decide +kernel, by decide +kernel⟩
abbrev N_l_name_by : List Str := [("_law_stem" : Str), ("_law_v" : Str), ("_law_signs" : Str), ("_law_size" : Str), ("_law_spot" : Str), ("_law_name" : Str), ("_law_k" : Str), ("_law_turn" : Str)]
theorem sc_l_name_by : FnScope N_l_name_by [("_law_stem" : Str), ("_law_v" : Str)] (defScope s_l_name_by) := ⟨rfl, rfl, rfl, by decide +kernel, rfl, by decide +kernel, by decide +kernel⟩
abbrev N_l_link_by : List Str := [("_law_ways" : Str), ("_law_over" : Str), ("_law_cell" : Str), ("_law_name" : Str), ("_law_kind" : Str), ("_law_some" : Str), ("_law_to" : Str)]
theorem sc_l_link_by : FnScope N_l_link_by [("_law_ways" : Str), ("_law_over" : Str), ("_law_cell" : Str), ("_law_name" : Str)] (defScope s_l_link_by) := ⟨rfl, rfl, rfl, by decide +kernel, rfl, by decide +kernel, by decide +kernel⟩
abbrev N_l_hall_by : List Str := [("_law_cells_here" : Str), ("_law_stem" : Str), ("_law_wide" : Str), ("_law_things" : Str), ("_law_folders" : Str), ("_law_cell" : Str), ("_law_over" : Str), ("_law_name" : Str), ("_law_way" : Str), ("_law_mark" : Str)]
theorem sc_l_hall_by : FnScope N_l_hall_by [("_law_cells_here" : Str), ("_law_stem" : Str)] (defScope s_l_hall_by) := ⟨rfl, rfl, rfl, by decide +kernel, rfl, by decide +kernel, by decide +kernel⟩
abbrev N_l_tree_of : List Str := [("_law_things" : Str), ("_law_way" : Str)]
theorem sc_l_tree_of : FnScope N_l_tree_of [("_law_things" : Str)] (defScope s_l_tree_of) := ⟨rfl, rfl, rfl, by decide +kernel, rfl, by decide +kernel, by decide +kernel⟩
abbrev N_l_cells : List Str := [("_law_script" : Str), ("_law_first" : Str), ("_law_step" : Str), ("_law_many" : Str), ("_law_k" : Str)]
theorem sc_l_cells : FnScope N_l_cells [("_law_script" : Str), ("_law_first" : Str), ("_law_step" : Str), ("_law_many" : Str)] (defScope s_l_cells) := ⟨rfl, rfl, rfl, by decide +kernel, rfl, by decide +kernel, by decide +kernel⟩
abbrev N_l_is_way : List Str := [("_law_found" : Str), ("_law_due" : Str), ("_law_k" : Str)]
theorem sc_l_is_way : FnScope N_l_is_way [("_law_found" : Str), ("_law_due" : Str)] (defScope s_l_is_way) := ⟨rfl, rfl, rfl, by decide +kernel, rfl, by decide +kernel, by decide +kernel⟩
abbrev N_is_name : List Str := [("thing" : Str), ("sign" : Str)]
theorem sc_is_name : FnScope N_is_name [("thing" : Str)] (defScope s_is_name) := ⟨rfl, rfl, rfl, by decide +kernel, rfl, by decide +kernel, by decide +kernel⟩
abbrev N_is_word : List Str := [("word" : Str)]
theorem sc_is_word : FnScope N_is_word [("word" : Str)] (defScope s_is_word) := ⟨rfl, rfl, rfl, by decide +kernel, rfl, by decide +kernel, by decide +kernel⟩
abbrev N_words_of : List Str := [("text" : Str), ("rooted" : Str), ("words" : Str), ("word" : Str)]
theorem sc_words_of : FnScope N_words_of [("text" : Str)] (defScope s_words_of) := ⟨rfl, rfl, rfl, by decide +kernel, rfl, by decide +kernel, by decide +kernel⟩
abbrev N_by_way : List Str := [("entries" : Str), ("things" : Str), ("entry" : Str)]
theorem sc_by_way : FnScope N_by_way [("entries" : Str)] (defScope s_by_way) := ⟨rfl, rfl, rfl, by decide +kernel, rfl, by decide +kernel, by decide +kernel⟩
abbrev N_Walk_init : List Str := [("self" : Str), ("tree" : Str), ("at" : Str)]
theorem sc_Walk_init : FnScope N_Walk_init [("self" : Str), ("tree" : Str), ("at" : Str)] (defScope s_Walk_init) := ⟨rfl, rfl, rfl, by decide +kernel, rfl, by decide +kernel, by decide +kernel⟩
abbrev N_Walk_set_out : List Str := [("self" : Str), ("rooted" : Str), ("words" : Str)]
theorem sc_Walk_set_out : FnScope N_Walk_set_out [("self" : Str), ("rooted" : Str), ("words" : Str)] (defScope s_Walk_set_out) := ⟨rfl, rfl, rfl, by decide +kernel, rfl, by decide +kernel, by decide +kernel⟩
abbrev N_above : List Str := [("way" : Str)]
theorem sc_above : FnScope N_above [("way" : Str)] (defScope s_above) := ⟨rfl, rfl, rfl, by decide +kernel, rfl, by decide +kernel, by decide +kernel⟩
abbrev N_Walk_follow : List Str := [("self" : Str), ("text" : Str), ("rooted" : Str), ("words" : Str)]
theorem sc_Walk_follow : FnScope N_Walk_follow [("self" : Str), ("text" : Str)] (defScope s_Walk_follow) := ⟨rfl, rfl, rfl, by decide +kernel, rfl, by decide +kernel, by decide +kernel⟩
abbrev N_Walk_enter : List Str := [("self" : Str), ("name" : Str), ("way" : Str), ("thing" : Str)]
theorem sc_Walk_enter : FnScope N_Walk_enter [("self" : Str), ("name" : Str)] (defScope s_Walk_enter) := ⟨rfl, rfl, rfl, by decide +kernel, rfl, by decide +kernel, by decide +kernel⟩
abbrev N_Walk_go : List Str := [("self" : Str), ("stood" : Str), ("word" : Str)]
theorem sc_Walk_go : FnScope N_Walk_go [("self" : Str)] (defScope s_Walk_go) := ⟨rfl, rfl, rfl, by decide +kernel, rfl, by decide +kernel, by decide +kernel⟩
abbrev N_walked : List Str := [("tree" : Str), ("at" : Str), ("text" : Str), ("rooted" : Str), ("words" : Str), ("walk" : Str)]
theorem sc_walked : FnScope N_walked [("tree" : Str), ("at" : Str), ("text" : Str)] (defScope s_walked) := ⟨rfl, rfl, rfl, by decide +kernel, rfl, by decide +kernel, by decide +kernel⟩
abbrev N_find_way : List Str := [("tree" : Str), ("at" : Str), ("text" : Str)]
theorem sc_find_way : FnScope N_find_way [("tree" : Str), ("at" : Str), ("text" : Str)] (defScope s_find_way) := ⟨rfl, rfl, rfl, by decide +kernel, rfl, by decide +kernel, by decide +kernel⟩
abbrev N_Walk_come_to : List Str := [("self" : Str), ("rooted" : Str), ("words" : Str), ("thing" : Str)]
theorem sc_Walk_come_to : FnScope N_Walk_come_to [("self" : Str), ("rooted" : Str), ("words" : Str)] (defScope s_Walk_come_to) := ⟨rfl, rfl, rfl, by decide +kernel, rfl, by decide +kernel, by decide +kernel⟩
abbrev N_place_of : List Str := [("tree" : Str), ("at" : Str), ("text" : Str), ("rooted" : Str), ("words" : Str)]
theorem sc_place_of : FnScope N_place_of [("tree" : Str), ("at" : Str), ("text" : Str)] (defScope s_place_of) := ⟨rfl, rfl, rfl, by decide +kernel, rfl, by decide +kernel, by decide +kernel⟩
abbrev N_l_met : List Str := [("_law_tree" : Str), ("_law_things" : Str), ("_law_way" : Str), ("_law_cut" : Str), ("_law_over" : Str), ("_law_rest" : Str), ("_law_whole" : Str)]
theorem sc_l_met : FnScope N_l_met [("_law_tree" : Str), ("_law_things" : Str), ("_law_way" : Str), ("_law_cut" : Str)] (defScope s_l_met) := ⟨rfl, rfl, rfl, by decide +kernel, rfl, by decide +kernel, by decide +kernel⟩
abbrev N_l_missing : List Str := [("_law_tree" : Str), ("_law_over" : Str), ("_law_name" : Str), ("e" : Str)]
theorem sc_l_missing : FnScope N_l_missing [("_law_tree" : Str), ("_law_over" : Str), ("_law_name" : Str)] (defScope s_l_missing) := ⟨rfl, rfl, rfl, by decide +kernel, rfl, by decide +kernel, by decide +kernel⟩
abbrev N_law : List Str := [("_law_script" : Str), ("_law_stem" : Str), ("_law_some" : Str), ("_law_many" : Str), ("_law_things" : Str), ("_law_tree" : Str), ("_law_handed" : Str), ("_law_way" : Str), ("_law_folders" : Str), ("_law_over" : Str), ("_law_name" : Str)]
theorem sc_law : FnScope N_law [("_law_script" : Str)] (defScope s_law) := ⟨rfl, rfl, rfl, by decide +kernel, rfl, by decide +kernel, by decide +kernel⟩
/-! ### their mirrors -/
def exs : List Str := [("GlassError" : Str), ("NoWay" : Str), ("Missing" : Str), ("NotFolder" : Str), ("NoPlace" : Str), ("Astray" : Str)]
def sub (c h : Str) : Bool := c == h || h == ("GlassError" : Str) || h == ("ValueError" : Str)
def b_l_cell_at : FS :=
  (sSeq (sIf (tst (op2 ltD (rd (vR 1)) (rd (cal1 lenD (aC (rd (vR 0)) aN)))))
    (sRet (op2 ixD (rd (vR 0)) (rd (vR 1))))
    sNx)
    (sRet (vl (vC (.int 0)))))
def m_l_cell_at := runF 2 2 b_l_cell_at
def b_l_mixed : FS :=
  (sSeq (sSet 3 (vl (tupE (aC (vC (.int 48271)) (aC (vC (.int 69621)) (aC (vC (.int 16807)) (aC (vC (.int 39373)) (aC (vC (.int 21401)) (aC (vC (.int 60493)) (aC (vC (.int 87721)) (aC (vC (.int 31337)) aN)))))))))))
    (sSeq (sSet 4 (vl (tupE (aC (vC (.int 99991)) (aC (vC (.int 99989)) (aC (vC (.int 99971)) (aC (vC (.int 99961)) (aC (vC (.int 99929)) (aC (vC (.int 99923)) (aC (vC (.int 99907)) (aC (vC (.int 99901)) aN)))))))))))
    (sRet (op2 modD (rd (op2 modD (rd (op2 mulD (rd (op2 addD (rd (op2 modD (rd (vR 0)) (rd (op2 powD (vC (.int 10)) (vC (.int 18)))))) (vC (.int 1)))) (rd (op2 ixD (rd (vR 3)) (rd (op2 modD (rd (vR 1)) (vC (.int 8)))))))) (rd (op2 ixD (rd (vR 4)) (rd (op2 modD (rd (vR 1)) (vC (.int 8)))))))) (rd (vR 2))))))
def m_l_mixed := runF 5 3 b_l_mixed
def b_l_name_by : FS :=
  (sSeq (sSet 2 (vl (vC (.str ("abcdefghijklmnopqrstuvwxyz0123456789" : Str)))))
    (sSeq (sSet 3 (vl (kp (op2 addD (vC (.int 1)) (rd (op2 modD (rd (vR 0)) (vC (.int 12))))))))
    (sSeq (sSet 4 (vl (kp (op2 modD (rd (op2 fdivD (rd (vR 0)) (vC (.int 12)))) (rd (vR 3))))))
    (sSeq (sSet 5 (vl (vC (.str ("" : Str)))))
    (sSeq (sFor 6 (iR1 (kp (vR 3)))
    (sSeq (sSet 7 (vl (kp (op2 addD (rd (op2 fdivD (rd (vR 0)) (vC (.int 5184)))) (rd (op2 mulD (rd (vR 6)) (rd (op2 modD (rd (op2 fdivD (rd (vR 0)) (vC (.int 144)))) (vC (.int 36))))))))))
    (sSeq (sIf (tst (op2 eqD (rd (vR 6)) (rd (vR 4))))
    (sSet 7 (vl (kp (op2 addD (rd (vR 7)) (rd (vR 1))))))
    sNx)
    (sSet 5 (vl (kp (op2 addD (rd (vR 5)) (rd (op2 ixD (rd (vR 2)) (rd (op2 modD (rd (vR 7)) (vC (.int 36)))))))))))))
    (sSeq (sIf (andT (tst (op2 eqD (rd (op2 modD (rd (op2 fdivD (rd (vR 0)) (vC (.int 3)))) (vC (.int 2)))) (vC (.int 1)))) (tst (op2 eqD (rd (op2 modD (rd (vR 1)) (vC (.int 5)))) (vC (.int 4)))))
    (sSet 5 (vl (kp (sl3 (rd (vR 5)) oN (oS (rd (op2 addD (vC (.int 1)) (rd (op2 modD (rd (vR 1)) (rd (vR 3)))))))))))
    sNx)
    (sRet (vR 5))))))))
def m_l_name_by := runF 8 2 b_l_name_by
def b_l_link_by : FS :=
  (sSeq (sSet 4 (vl (kp (cal1 m_l_mixed (aC (kp (vR 2)) (aC (vC (.int 5)) (aC (vC (.int 7)) aN)))))))
    (sSeq (sIf (orT (tst (op2 gtD (rd (vR 4)) (vC (.int 4)))) (tst (op2 eqD (rd (cal1 lenD (aC (rd (vR 0)) aN))) (vC (.int 0)))))
    (sSeq (sSet 5 (vl (tupE (aC (vC (.str ("/" : Str))) (aC (vC (.str (".." : Str))) (aC (vC (.str ("." : Str))) (aC (kp (vR 3)) (aC (kp (op2 addD (vC (.str ("../" : Str))) (rd (vR 3)))) (aC (kp (op2 addD (rd (op2 addD (vC (.str ("./" : Str))) (rd (vR 3)))) (vC (.str ("/.." : Str))))) aN)))))))))
    (sRet (op2 ixD (rd (vR 5)) (rd (cal1 m_l_mixed (aC (kp (vR 2)) (aC (vC (.int 7)) (aC (vC (.int 6)) aN))))))))
    sNx)
    (sSeq (sSet 6 (vl (kp (sm joinD (vC (.str ("/" : Str))) (rd (op2 ixD (rd (vR 0)) (rd (cal1 m_l_mixed (aC (kp (vR 2)) (aC (vC (.int 6)) (aC (kp (cal1 lenD (aC (rd (vR 0)) aN))) aN)))))))))))
    (sSeq (sIf (tst (op2 eqD (rd (vR 4)) (vC (.int 4))))
    (sRet (op2 addD (rd (op2 mulD (vC (.str ("../" : Str))) (rd (cal1 lenD (aC (rd (vR 1)) aN))))) (rd (vR 6))))
    sNx)
    (sRet (op2 addD (vC (.str ("/" : Str))) (rd (vR 6))))))))
def m_l_link_by := runF 7 4 b_l_link_by
def b_l_hall_by : FS :=
  (sSeq (sSet 2 (vl (kp (op2 addD (vC (.int 2)) (rd (op2 modD (rd (op2 fdivD (rd (vR 1)) (vC (.int 5)))) (vC (.int 7))))))))
    (sSeq (sSet 3 newT)
    (sSeq (sSet 4 (lstE (aC (tupE aN) aN)))
    (sSeq (sFor 5 (iA (kp (vR 0)))
    (sSeq (sSet 6 (vl (kp (op2 ixD (rd (vR 4)) (rd (cal1 m_l_mixed (aC (kp (vR 5)) (aC (vC (.int 0)) (aC (kp (cal1 lenD (aC (rd (vR 4)) aN))) aN)))))))))
    (sSeq (sIf (tst (op2 eqD (rd (cal1 m_l_mixed (aC (kp (vR 5)) (aC (vC (.int 3)) (aC (vC (.int 3)) aN))))) (vC (.int 0))))
    (sSet 6 (vl (kp (op2 ixD (rd (vR 4)) (negD (vC (.int 1)))))))
    sNx)
    (sSeq (sSet 7 (vl (kp (cal1 m_l_name_by (aC (kp (vR 1)) (aC (kp (cal1 m_l_mixed (aC (kp (vR 5)) (aC (vC (.int 1)) (aC (kp (vR 2)) aN))))) aN))))))
    (sSeq (sSet 8 (vl (kp (op2 addD (rd (vR 6)) (tupE (aC (kp (vR 7)) aN))))))
    (sIf (andT (tst (op2 ninD (rd (vR 8)) (rd (vR 3)))) (tst (op2 ltD (rd (cal1 lenD (aC (rd (vR 8)) aN))) (vC (.int 13)))))
    (sSeq (sSet 9 (vl (kp (op2 ixD (tupE (aC (vC (.str ("folder" : Str))) (aC (vC (.str ("link" : Str))) (aC (vC (.str ("file" : Str))) (aC (vC (.str ("folder" : Str))) (aC (vC (.str ("link" : Str))) aN)))))) (rd (cal1 m_l_mixed (aC (kp (vR 5)) (aC (vC (.int 2)) (aC (vC (.int 5)) aN)))))))))
    (sSeq (sPutD (.sl 3) (rd (vR 8)) (tupE (aC (kp (vR 9)) (aC (vC (.str ("" : Str))) aN))))
    (sSeq (sIf (tst (op2 eqD (rd (vR 9)) (vC (.str ("link" : Str)))))
    (sPutD (.sl 3) (rd (vR 8)) (tupE (aC (kp (vR 9)) (aC (kp (cal1 m_l_link_by (aC (kp (cal1 listD (aC (rd (vR 3)) aN))) (aC (kp (vR 6)) (aC (kp (vR 5)) (aC (kp (vR 7)) aN)))))) aN))))
    sNx)
    (sSeq (sIf (tst (op2 eqD (rd (vR 9)) (vC (.str ("file" : Str)))))
    (sPutD (.sl 3) (rd (vR 8)) (tupE (aC (kp (vR 9)) (aC (kp (op2 addD (rd (op2 addD (rd (vR 7)) (vC (.str (" " : Str))))) (rd (cal1 strD (aC (rd (op2 modD (rd (vR 5)) (rd (op2 powD (vC (.int 10)) (vC (.int 30)))))) aN))))) aN))))
    sNx)
    (sIf (tst (op2 eqD (rd (vR 9)) (vC (.str ("folder" : Str)))))
    (sDropG (appG (.sl 4) (kp (vR 8))))
    sNx)))))
    sNx))))))
    (sRetV 3)))))
def m_l_hall_by := runF 10 2 b_l_hall_by
def b_l_tree_of : FS :=
  (sRet (lcD [1] 1 (iA (kp (cal1 sortD (aC (rd (cal1 listD (aC (rd (vR 0)) aN))) aN)))) (fun _ => .ok true) (tupE (aC (kp (vR 1)) (aC (kp (op2 ixD (rd (op2 ixD (rd (vR 0)) (rd (vR 1)))) (vC (.int 0)))) (aC (kp (op2 ixD (rd (op2 ixD (rd (vR 0)) (rd (vR 1)))) (vC (.int 1)))) aN))))))
def m_l_tree_of := runF 2 1 b_l_tree_of
def b_l_cells : FS :=
  (sRet (lcD [4] 4 (iR1 (kp (vR 3))) (fun _ => .ok true) (kp (op2 addD (rd (cal1 m_l_cell_at (aC (kp (vR 0)) (aC (kp (op2 addD (rd (vR 1)) (rd (op2 mulD (rd (vR 2)) (rd (vR 4)))))) aN)))) (rd (vR 4))))))
def m_l_cells := runF 5 4 b_l_cells
def b_l_is_way : FS :=
  (sSeq (sIf (orT (notT (tru (isiD "tuple" (rd (vR 0))))) (tst (op2 neD (rd (cal1 lenD (aC (rd (vR 0)) aN))) (rd (cal1 lenD (aC (rd (vR 1)) aN))))))
    (sRet (vl (vC (.bl false))))
    sNx)
    (sSeq (sFor 2 (iR1 (kp (cal1 lenD (aC (rd (vR 1)) aN))))
    (sIf (orT (notT (tru (isiD "str" (rd (op2 ixD (rd (vR 0)) (rd (vR 2))))))) (tst (op2 neD (rd (op2 ixD (rd (vR 0)) (rd (vR 2)))) (rd (op2 ixD (rd (vR 1)) (rd (vR 2)))))))
    (sRet (vl (vC (.bl false))))
    sNx))
    (sRet (vl (vC (.bl true))))))
def m_l_is_way := runF 3 2 b_l_is_way
def b_is_name : FS :=
  (sSeq (sIf (notT (tru (isiD "str" (rd (vR 0)))))
    (sRet (vl (vC (.bl false))))
    sNx)
    (sSeq (sIf (orT (tst (op2 eqD (rd (vR 0)) (vC (.str ("" : Str))))) (tst (op2 gtD (rd (cal1 lenD (aC (rd (vR 0)) aN))) (vC (.int 12)))))
    (sRet (vl (vC (.bl false))))
    sNx)
    (sSeq (sFor 1 (iA (kp (vR 0)))
    (sIf (tst (op2 ninD (rd (vR 1)) (vC (.str ("abcdefghijklmnopqrstuvwxyz0123456789" : Str)))))
    (sRet (vl (vC (.bl false))))
    sNx))
    (sRet (vl (vC (.bl true)))))))
def m_is_name := runF 2 1 b_is_name
def b_is_word : FS :=
  (sRet (vl (orV (rd (op2 eqD (rd (vR 0)) (vC (.str ("." : Str))))) (orV (rd (op2 eqD (rd (vR 0)) (vC (.str (".." : Str))))) (kp (cal1 m_is_name (aC (kp (vR 0)) aN)))))))
def m_is_word := runF 1 1 b_is_word
def b_words_of : FS :=
  (sSeq (sIf (tst (op2 eqD (rd (vR 0)) (vC (.str ("/" : Str)))))
    (sRet (vl (tupE (aC (vC (.bl true)) (aC (kp (lstE aN)) aN)))))
    sNx)
    (sSeq (sSet 1 (vl (kp (sm startsD (rd (vR 0)) (vC (.str ("/" : Str)))))))
    (sSeq (sSet 2 (vl (kp (sm splitD (rd (vR 0)) (vC (.str ("/" : Str)))))))
    (sSeq (sIf (tru (rd (vR 1)))
    (sSet 2 (vl (kp (sl3 (rd (vR 2)) (oS (vC (.int 1))) oN))))
    sNx)
    (sSeq (sIf (tst (op2 gtD (rd (cal1 lenD (aC (rd (vR 2)) aN))) (vC (.int 40))))
    (sRaise ("NoWay" : Str))
    sNx)
    (sSeq (sFor 3 (iA (kp (vR 2)))
    (sIf (notT (tru (rd (cal1 m_is_word (aC (kp (vR 3)) aN)))))
    (sRaise ("NoWay" : Str))
    sNx))
    (sRet (vl (tupE (aC (kp (vR 1)) (aC (kp (vR 2)) aN)))))))))))
def m_words_of := runF 4 1 b_words_of
def b_by_way : FS :=
  (sSeq (sSet 1 newT)
    (sSeq (sFor 2 (iA (kp (vR 0)))
    (sPutD (.sl 1) (rd (op2 ixD (rd (vR 2)) (vC (.int 0)))) (tupE (aC (kp (op2 ixD (rd (vR 2)) (vC (.int 1)))) (aC (kp (op2 ixD (rd (vR 2)) (vC (.int 2)))) aN)))))
    (sRetV 1)))
def m_by_way := runF 3 1 b_by_way
def b_Walk_init : FS :=
  (sSeq (sFldS (.sl 0) ("Walk" : Str) ("things" : Str) (kp (cal1 m_by_way (aC (kp (vR 1)) aN))))
    (sSeq (sFldS (.sl 0) ("Walk" : Str) ("stands" : Str) (kp (vR 2)))
    (sSeq (sFldO (.sl 0) ("Walk" : Str) ("left" : Str) (lstE aN))
    (sSeq (sFldS (.sl 0) ("Walk" : Str) ("links" : Str) (vC (.int 0)))
    (sFldO (.sl 0) ("Walk" : Str) ("steps" : Str) (lstE aN))))))
def m_Walk_init := runM 3 3 b_Walk_init
def b_Walk_set_out : FS :=
  (sSeq (sIf (tru (rd (vR 1)))
    (sFldS (.sl 0) ("Walk" : Str) ("stands" : Str) (tupE aN))
    sNx)
    (sFldO (.sl 0) ("Walk" : Str) ("left" : Str) (op2 addD (rd (vR 2)) (rd (fldE ("Walk" : Str) ("left" : Str) (rd (vR 0)))))))
def m_Walk_set_out := runM 3 3 b_Walk_set_out
def b_above : FS :=
  (sRet (sl3 (rd (vR 0)) oN (oS (negD (vC (.int 1))))))
def m_above := runF 1 1 b_above
def b_Walk_follow : FS :=
  (sSeq (sFldA (.sl 0) ("Walk" : Str) ("links" : Str) (vC (.int 1)))
    (sSeq (sIf (tst (op2 gtD (rd (fldE ("Walk" : Str) ("links" : Str) (rd (vR 0)))) (vC (.int 8))))
    (sRaise ("Astray" : Str))
    sNx)
    (sSeq (sUnp [2, 3] (kp (cal1 m_words_of (aC (kp (vR 1)) aN))))
    (sDropG (metG (.sl 0) ("Walk" : Str) ("set_out" : Str) m_Walk_set_out (aC (kp (vR 2)) (aC (kp (vR 3)) aN)))))))
def m_Walk_follow := runM 4 2 b_Walk_follow
def b_Walk_enter : FS :=
  (sSeq (sSet 2 (vl (kp (op2 addD (rd (fldE ("Walk" : Str) ("stands" : Str) (rd (vR 0)))) (tupE (aC (kp (vR 1)) aN))))))
    (sSeq (sSet 3 (vl (get1 (rd (fldE ("Walk" : Str) ("things" : Str) (rd (vR 0)))) (rd (vR 2)))))
    (sSeq (sIf (tst (op2 isND (rd (vR 3)) (vC .non)))
    (sRaise ("Missing" : Str))
    sNx)
    (sIf (tst (op2 eqD (rd (op2 ixD (rd (vR 3)) (vC (.int 0)))) (vC (.str ("link" : Str)))))
    (sDropG (metG (.sl 0) ("Walk" : Str) ("follow" : Str) m_Walk_follow (aC (kp (op2 ixD (rd (vR 3)) (vC (.int 1)))) aN)))
    (sIf (andT (tst (op2 eqD (rd (op2 ixD (rd (vR 3)) (vC (.int 0)))) (vC (.str ("file" : Str))))) (tst (op2 gtD (rd (cal1 lenD (aC (rd (fldE ("Walk" : Str) ("left" : Str) (rd (vR 0)))) aN))) (vC (.int 0)))))
    (sRaise ("NotFolder" : Str))
    (sFldS (.sl 0) ("Walk" : Str) ("stands" : Str) (kp (vR 2))))))))
def m_Walk_enter := runM 4 2 b_Walk_enter
def b_Walk_go : FS :=
  (whileF (tst (op2 gtD (rd (cal1 lenD (aC (rd (fldE ("Walk" : Str) ("left" : Str) (rd (vR 0)))) aN))) (vC (.int 0))))
    (sSeq (sSet 1 (vl (kp (fldE ("Walk" : Str) ("stands" : Str) (rd (vR 0))))))
    (sSeq (sSetG 2 (popAtG (.fd 0 ("Walk" : Str) ("left" : Str)) (vC (.int 0))))
    (sSeq (sIf (tst (op2 eqD (rd (vR 2)) (vC (.str (".." : Str)))))
    (sFldS (.sl 0) ("Walk" : Str) ("stands" : Str) (kp (cal1 m_above (aC (kp (vR 1)) aN))))
    (sIf (tst (op2 neD (rd (vR 2)) (vC (.str ("." : Str)))))
    (sDropG (metG (.sl 0) ("Walk" : Str) ("enter" : Str) m_Walk_enter (aC (kp (vR 2)) aN)))
    sNx))
    (sDropG (appG (.fd 0 ("Walk" : Str) ("steps" : Str)) (tupE (aC (kp (vR 1)) (aC (kp (vR 2)) (aC (kp (fldE ("Walk" : Str) ("stands" : Str) (rd (vR 0)))) aN))))))))) 100000)
def m_Walk_go := runM 3 1 b_Walk_go
def b_walked : FS :=
  (sSeq (sUnp [3, 4] (kp (cal1 m_words_of (aC (kp (vR 2)) aN))))
    (sSeq (sSet 5 (newD ("Walk" : Str) m_Walk_init (aC (kp (vR 0)) (aC (kp (vR 1)) aN))))
    (sSeq (sDropG (metG (.sl 5) ("Walk" : Str) ("set_out" : Str) m_Walk_set_out (aC (kp (vR 3)) (aC (kp (vR 4)) aN))))
    (sSeq (sDropG (metG (.sl 5) ("Walk" : Str) ("go" : Str) m_Walk_go (fun _ => .ok [])))
    (sRetV 5)))))
def m_walked := runF 6 3 b_walked
def b_find_way : FS :=
  (sRet (fldE ("Walk" : Str) ("stands" : Str) (rd (cal1 m_walked (aC (kp (vR 0)) (aC (kp (vR 1)) (aC (kp (vR 2)) aN)))))))
def m_find_way := runF 3 3 b_find_way
def b_Walk_come_to : FS :=
  (sSeq (sIf (orT (tst (op2 eqD (rd (cal1 lenD (aC (rd (vR 2)) aN))) (vC (.int 0)))) (notT (tru (rd (cal1 m_is_name (aC (kp (op2 ixD (rd (vR 2)) (negD (vC (.int 1))))) aN))))))
    (sRaise ("NoPlace" : Str))
    sNx)
    (sSeq (sDropG (metG (.sl 0) ("Walk" : Str) ("set_out" : Str) m_Walk_set_out (aC (kp (vR 1)) (aC (kp (sl3 (rd (vR 2)) oN (oS (negD (vC (.int 1)))))) aN))))
    (sSeq (sDropG (metG (.sl 0) ("Walk" : Str) ("go" : Str) m_Walk_go (fun _ => .ok [])))
    (sSeq (sSet 3 (vl (get1 (rd (fldE ("Walk" : Str) ("things" : Str) (rd (vR 0)))) (rd (fldE ("Walk" : Str) ("stands" : Str) (rd (vR 0)))))))
    (sSeq (sIf (andT (tst (op2 notND (rd (vR 3)) (vC .non))) (tst (op2 neD (rd (op2 ixD (rd (vR 3)) (vC (.int 0)))) (vC (.str ("folder" : Str))))))
    (sRaise ("NotFolder" : Str))
    sNx)
    (sRet (op2 addD (rd (fldE ("Walk" : Str) ("stands" : Str) (rd (vR 0)))) (tupE (aC (kp (op2 ixD (rd (vR 2)) (negD (vC (.int 1))))) aN)))))))))
def m_Walk_come_to := runM 4 3 b_Walk_come_to
def b_place_of : FS :=
  (sSeq (sUnp [3, 4] (kp (cal1 m_words_of (aC (kp (vR 2)) aN))))
    (sRet (tmpM ("Walk" : Str) ("come_to" : Str) m_Walk_come_to (newD ("Walk" : Str) m_Walk_init (aC (kp (vR 0)) (aC (kp (vR 1)) aN))) (aC (kp (vR 3)) (aC (kp (vR 4)) aN)))))
def m_place_of := runF 5 3 b_place_of
def b_l_met : FS :=
  (sSeq (sSet 4 (vl (kp (sl3 (rd (vR 2)) oN (oS (rd (vR 3)))))))
    (sSeq (sSet 5 (vl (kp (sm joinD (vC (.str ("/" : Str))) (rd (sl3 (rd (vR 2)) (oS (rd (vR 3))) oN))))))
    (sSeq (sSet 6 (vl (kp (op2 addD (vC (.str ("/" : Str))) (rd (sm joinD (vC (.str ("/" : Str))) (rd (vR 2))))))))
    (sSeq (sIf (orT (notT (tru (rd (cal1 m_l_is_way (aC (kp (cal1 m_place_of (aC (kp (vR 0)) (aC (kp (vR 4)) (aC (kp (vR 5)) aN))))) (aC (kp (vR 2)) aN)))))) (notT (tru (rd (cal1 m_l_is_way (aC (kp (cal1 m_place_of (aC (kp (vR 0)) (aC (kp (vR 4)) (aC (kp (vR 6)) aN))))) (aC (kp (vR 2)) aN)))))))
    (sRet (vl (vC (.bl false))))
    sNx)
    (sSeq (sIf (tst (op2 eqD (rd (op2 ixD (rd (op2 ixD (rd (vR 1)) (rd (vR 2)))) (vC (.int 0)))) (vC (.str ("link" : Str)))))
    (sRet (vl (vC (.bl true))))
    sNx)
    (sRet (vl (andV (rd (cal1 m_l_is_way (aC (kp (cal1 m_find_way (aC (kp (vR 0)) (aC (kp (vR 4)) (aC (kp (vR 5)) aN))))) (aC (kp (vR 2)) aN)))) (kp (cal1 m_l_is_way (aC (kp (cal1 m_find_way (aC (kp (vR 0)) (aC (kp (vR 4)) (aC (kp (vR 6)) aN))))) (aC (kp (vR 2)) aN))))))))))))
def m_l_met := runF 7 4 b_l_met
def b_l_missing : FS :=
  (sSeq (sTryAs exs sub ("GlassError" : Str) 3 (fun c => (sOutIf (orT (tru (isB (sub c ("NotFolder" : Str) || sub c ("NoWay" : Str)))) (notT (tru (isB (sub c ("ValueError" : Str)))))) (sRet (vl (vC (.bl false)))) (sRet (vl (andV (isB (sub c ("Missing" : Str))) (kp (cal1 m_l_is_way (aC (kp (cal1 m_place_of (aC (kp (vR 0)) (aC (kp (vR 1)) (aC (kp (vR 2)) aN))))) (aC (kp (op2 addD (rd (vR 1)) (tupE (aC (kp (vR 2)) aN)))) aN)))))))))
    (sDrop (cal1 m_find_way (aC (kp (vR 0)) (aC (kp (vR 1)) (aC (kp (vR 2)) aN))))))
    (sRet (vl (vC (.bl false)))))
def m_l_missing := runF 4 3 b_l_missing
def b_law : FS :=
  (sSeq (sSet 1 (vl (kp (cal1 m_l_cell_at (aC (kp (vR 0)) (aC (vC (.int 0)) aN))))))
    (sSeq (sSet 2 (vl (kp (cal1 m_l_cell_at (aC (kp (vR 0)) (aC (vC (.int 1)) aN))))))
    (sSeq (sSet 3 (vl (kp (cal1 m_l_mixed (aC (kp (vR 2)) (aC (vC (.int 0)) (aC (vC (.int 13)) aN)))))))
    (sSeq (sIf (tst (op2 eqD (rd (cal1 m_l_mixed (aC (kp (vR 2)) (aC (vC (.int 1)) (aC (vC (.int 6)) aN))))) (vC (.int 0))))
    (sSet 3 (vl (kp (cal1 m_l_mixed (aC (kp (vR 2)) (aC (vC (.int 2)) (aC (vC (.int 41)) aN)))))))
    sNx)
    (sSeq (sSet 4 (vl (kp (cal1 m_l_hall_by (aC (kp (cal1 m_l_cells (aC (kp (vR 0)) (aC (vC (.int 3)) (aC (vC (.int 1)) (aC (kp (vR 3)) aN)))))) (aC (kp (vR 1)) aN))))))
    (sSeq (sSet 5 (vl (kp (cal1 m_l_tree_of (aC (kp (vR 4)) aN)))))
    (sSeq (sSet 6 (vl (kp (cal1 listD (aC (rd (vR 5)) aN)))))
    (sSeq (sFor 7 (iA (kp (cal1 listD (aC (rd (vR 4)) aN))))
    (sIf (notT (tru (rd (cal1 m_l_met (aC (kp (vR 6)) (aC (kp (vR 4)) (aC (kp (vR 7)) (aC (kp (op2 modD (rd (cal1 m_l_cell_at (aC (kp (vR 0)) (aC (vC (.int 2)) aN)))) (rd (cal1 lenD (aC (rd (vR 7)) aN))))) aN))))))))
    (sRet (vl (vC (.bl false))))
    sNx))
    (sSeq (sSet 8 (vl (kp (op2 addD (rd (lstE (aC (tupE aN) aN))) (rd (lcD [7] 7 (iKD 4) (tst (op2 eqD (rd (op2 ixD (rd (op2 ixD (rd (vR 4)) (rd (vR 7)))) (vC (.int 0)))) (vC (.str ("folder" : Str))))) (kp (vR 7))))))))
    (sSeq (sSet 9 (vl (kp (op2 ixD (rd (vR 8)) (rd (cal1 m_l_mixed (aC (kp (vR 2)) (aC (vC (.int 3)) (aC (kp (cal1 lenD (aC (rd (vR 8)) aN))) aN)))))))))
    (sSeq (sIf (orT (notT (tru (rd (cal1 m_l_is_way (aC (kp (cal1 m_find_way (aC (kp (vR 6)) (aC (kp (vR 9)) (aC (vC (.str ("." : Str))) aN))))) (aC (kp (vR 9)) aN)))))) (notT (tru (rd (cal1 m_l_is_way (aC (kp (cal1 m_find_way (aC (kp (vR 6)) (aC (kp (vR 9)) (aC (vC (.str (".." : Str))) aN))))) (aC (kp (sl3 (rd (vR 9)) oN (oS (negD (vC (.int 1)))))) aN)))))))
    (sRet (vl (vC (.bl false))))
    sNx)
    (sSeq (sSet 10 (vl (kp (cal1 m_l_name_by (aC (kp (vR 1)) (aC (kp (cal1 m_l_mixed (aC (kp (vR 2)) (aC (vC (.int 4)) (aC (vC (.int 36)) aN))))) aN))))))
    (sSeq (sIf (andT (tst (op2 ninD (rd (op2 addD (rd (vR 9)) (tupE (aC (kp (vR 10)) aN)))) (rd (vR 4)))) (notT (tru (rd (cal1 m_l_missing (aC (kp (vR 6)) (aC (kp (vR 9)) (aC (kp (vR 10)) aN))))))))
    (sRet (vl (vC (.bl false))))
    sNx)
    (sRet (vl (andV (rd (cal1 m_l_is_way (aC (kp (cal1 m_find_way (aC (kp (vR 6)) (aC (kp (vR 9)) (aC (vC (.str ("/" : Str))) aN))))) (aC (tupE aN) aN)))) (kp (op2 eqD (rd (vR 6)) (rd (vR 5))))))))))))))))))))
def m_law := runF 11 1 b_law
/-! ### what the text tells -/
structure GE (K : PySem.W.Frag) (mg : Str → Option Value) : Prop where
  b_ValueError : mg ("ValueError" : Str) = none
  b_isinstance : mg ("isinstance" : Str) = none
  b_len : mg ("len" : Str) = none
  b_list : mg ("list" : Str) = none
  b_range : mg ("range" : Str) = none
  b_sorted : mg ("sorted" : Str) = none
  b_str : mg ("str" : Str) = none
  b_tuple : mg ("tuple" : Str) = none
  c_FILE : ∃ t, mg ("FILE" : Str) = some (.str ("file" : Str) t)
  c_FOLDER : ∃ t, mg ("FOLDER" : Str) = some (.str ("folder" : Str) t)
  c_LINK : ∃ t, mg ("LINK" : Str) = some (.str ("link" : Str) t)
  c_LONGEST : ∃ t, mg ("LONGEST" : Str) = some (.int 12 t)
  c_MOST_LINKS : ∃ t, mg ("MOST_LINKS" : Str) = some (.int 8 t)
  c_MOST_WORDS : ∃ t, mg ("MOST_WORDS" : Str) = some (.int 40 t)
  c_SIGNS : ∃ t, mg ("SIGNS" : Str) = some (.str ("abcdefghijklmnopqrstuvwxyz0123456789" : Str) t)
  x_Astray : ExD K mg ("Astray" : Str)
  x_Missing : ExD K mg ("Missing" : Str)
  x_NoPlace : ExD K mg ("NoPlace" : Str)
  x_NoWay : ExD K mg ("NoWay" : Str)
  x_NotFolder : ExD K mg ("NotFolder" : Str)
  fl_Walk_left : ∀ C, mg ("Walk" : Str) = some (.ref C) → Cls K C ∧ NoAttr K C ("left" : Str)
  fl_Walk_links : ∀ C, mg ("Walk" : Str) = some (.ref C) → Cls K C ∧ NoAttr K C ("links" : Str)
  fl_Walk_stands : ∀ C, mg ("Walk" : Str) = some (.ref C) → Cls K C ∧ NoAttr K C ("stands" : Str)
  fl_Walk_steps : ∀ C, mg ("Walk" : Str) = some (.ref C) → Cls K C ∧ NoAttr K C ("steps" : Str)
  fl_Walk_things : ∀ C, mg ("Walk" : Str) = some (.ref C) → Cls K C ∧ NoAttr K C ("things" : Str)
  n_GlassError : mg ("GlassError" : Str) = some (cv mg ("GlassError" : Str))
  n_Missing : mg ("Missing" : Str) = some (cv mg ("Missing" : Str))
  n_NoWay : mg ("NoWay" : Str) = some (cv mg ("NoWay" : Str))
  n_NotFolder : mg ("NotFolder" : Str) = some (cv mg ("NotFolder" : Str))
  exm_0 : ExmD K mg exs [("GlassError" : Str)] sub
  xi : ∀ c ∈ exs, ExI K mg c
  ki_Missing : ∀ c ∈ exs, PySem.W.kitOne K (cv mg c) (cv mg ("Missing" : Str)) = some (sub c ("Missing" : Str))
  nc_Missing : ∃ C, mg ("Missing" : Str) = some (.ref C)
  ki_NoWay : ∀ c ∈ exs, PySem.W.kitOne K (cv mg c) (cv mg ("NoWay" : Str)) = some (sub c ("NoWay" : Str))
  nc_NoWay : ∃ C, mg ("NoWay" : Str) = some (.ref C)
  ki_NotFolder : ∀ c ∈ exs, PySem.W.kitOne K (cv mg c) (cv mg ("NotFolder" : Str)) = some (sub c ("NotFolder" : Str))
  nc_NotFolder : ∃ C, mg ("NotFolder" : Str) = some (.ref C)
  ki_ValueError : ∀ c ∈ exs, PySem.W.kitOne K (cv mg c) (.type "ValueError") = some (sub c ("ValueError" : Str))
  d_l_cell_at : ∃ f fd, FunD K ("_law_cell_at" : Str) ("_law_cell_at" : Str) (defArgs s_l_cell_at) (defBody s_l_cell_at) (defScope s_l_cell_at) [] [] f fd ∧ mg ("_law_cell_at" : Str) = some (.ref f) ∧ PySem.W.keepIn K (.ref f) = true
  d_l_mixed : ∃ f fd, FunD K ("_law_mixed" : Str) ("_law_mixed" : Str) (defArgs s_l_mixed) (defBody s_l_mixed) (defScope s_l_mixed) [] [] f fd ∧ mg ("_law_mixed" : Str) = some (.ref f) ∧ PySem.W.keepIn K (.ref f) = true
  d_l_name_by : ∃ f fd, FunD K ("_law_name_by" : Str) ("_law_name_by" : Str) (defArgs s_l_name_by) (defBody s_l_name_by) (defScope s_l_name_by) [] [] f fd ∧ mg ("_law_name_by" : Str) = some (.ref f) ∧ PySem.W.keepIn K (.ref f) = true
  d_l_link_by : ∃ f fd, FunD K ("_law_link_by" : Str) ("_law_link_by" : Str) (defArgs s_l_link_by) (defBody s_l_link_by) (defScope s_l_link_by) [] [] f fd ∧ mg ("_law_link_by" : Str) = some (.ref f) ∧ PySem.W.keepIn K (.ref f) = true
  d_l_hall_by : ∃ f fd, FunD K ("_law_hall_by" : Str) ("_law_hall_by" : Str) (defArgs s_l_hall_by) (defBody s_l_hall_by) (defScope s_l_hall_by) [] [] f fd ∧ mg ("_law_hall_by" : Str) = some (.ref f) ∧ PySem.W.keepIn K (.ref f) = true
  d_l_tree_of : ∃ f fd, FunD K ("_law_tree_of" : Str) ("_law_tree_of" : Str) (defArgs s_l_tree_of) (defBody s_l_tree_of) (defScope s_l_tree_of) [] [] f fd ∧ mg ("_law_tree_of" : Str) = some (.ref f) ∧ PySem.W.keepIn K (.ref f) = true
  d_l_cells : ∃ f fd, FunD K ("_law_cells" : Str) ("_law_cells" : Str) (defArgs s_l_cells) (defBody s_l_cells) (defScope s_l_cells) [] [] f fd ∧ mg ("_law_cells" : Str) = some (.ref f) ∧ PySem.W.keepIn K (.ref f) = true
  d_l_is_way : ∃ f fd, FunD K ("_law_is_way" : Str) ("_law_is_way" : Str) (defArgs s_l_is_way) (defBody s_l_is_way) (defScope s_l_is_way) [] [] f fd ∧ mg ("_law_is_way" : Str) = some (.ref f) ∧ PySem.W.keepIn K (.ref f) = true
  d_is_name : ∃ f fd, FunD K ("is_name" : Str) ("is_name" : Str) (defArgs s_is_name) (defBody s_is_name) (defScope s_is_name) [] [] f fd ∧ mg ("is_name" : Str) = some (.ref f) ∧ PySem.W.keepIn K (.ref f) = true
  d_is_word : ∃ f fd, FunD K ("is_word" : Str) ("is_word" : Str) (defArgs s_is_word) (defBody s_is_word) (defScope s_is_word) [] [] f fd ∧ mg ("is_word" : Str) = some (.ref f) ∧ PySem.W.keepIn K (.ref f) = true
  d_words_of : ∃ f fd, FunD K ("words_of" : Str) ("words_of" : Str) (defArgs s_words_of) (defBody s_words_of) (defScope s_words_of) [] [] f fd ∧ mg ("words_of" : Str) = some (.ref f) ∧ PySem.W.keepIn K (.ref f) = true
  d_by_way : ∃ f fd, FunD K ("by_way" : Str) ("by_way" : Str) (defArgs s_by_way) (defBody s_by_way) (defScope s_by_way) [] [] f fd ∧ mg ("by_way" : Str) = some (.ref f) ∧ PySem.W.keepIn K (.ref f) = true
  d_Walk_init : ∃ C f fd, FunD K ("__init__" : Str) ("Walk.__init__" : Str) (defArgs s_Walk_init) (defBody s_Walk_init) (defScope s_Walk_init) [] [] f fd ∧ mg ("Walk" : Str) = some (.ref C) ∧ Mk K C f
  d_Walk_set_out : ∃ C f fd, FunD K ("set_out" : Str) ("Walk.set_out" : Str) (defArgs s_Walk_set_out) (defBody s_Walk_set_out) (defScope s_Walk_set_out) [] [] f fd ∧ mg ("Walk" : Str) = some (.ref C) ∧ Cls K C ∧ Meth K C ("set_out" : Str) f
  d_above : ∃ f fd, FunD K ("above" : Str) ("above" : Str) (defArgs s_above) (defBody s_above) (defScope s_above) [] [] f fd ∧ mg ("above" : Str) = some (.ref f) ∧ PySem.W.keepIn K (.ref f) = true
  d_Walk_follow : ∃ C f fd, FunD K ("follow" : Str) ("Walk.follow" : Str) (defArgs s_Walk_follow) (defBody s_Walk_follow) (defScope s_Walk_follow) [] [] f fd ∧ mg ("Walk" : Str) = some (.ref C) ∧ Cls K C ∧ Meth K C ("follow" : Str) f
  d_Walk_enter : ∃ C f fd, FunD K ("enter" : Str) ("Walk.enter" : Str) (defArgs s_Walk_enter) (defBody s_Walk_enter) (defScope s_Walk_enter) [] [] f fd ∧ mg ("Walk" : Str) = some (.ref C) ∧ Cls K C ∧ Meth K C ("enter" : Str) f
  d_Walk_go : ∃ C f fd, FunD K ("go" : Str) ("Walk.go" : Str) (defArgs s_Walk_go) (defBody s_Walk_go) (defScope s_Walk_go) [] [] f fd ∧ mg ("Walk" : Str) = some (.ref C) ∧ Cls K C ∧ Meth K C ("go" : Str) f
  d_walked : ∃ f fd, FunD K ("walked" : Str) ("walked" : Str) (defArgs s_walked) (defBody s_walked) (defScope s_walked) [] [] f fd ∧ mg ("walked" : Str) = some (.ref f) ∧ PySem.W.keepIn K (.ref f) = true
  d_find_way : ∃ f fd, FunD K ("find_way" : Str) ("find_way" : Str) (defArgs s_find_way) (defBody s_find_way) (defScope s_find_way) [] [] f fd ∧ mg ("find_way" : Str) = some (.ref f) ∧ PySem.W.keepIn K (.ref f) = true
  d_Walk_come_to : ∃ C f fd, FunD K ("come_to" : Str) ("Walk.come_to" : Str) (defArgs s_Walk_come_to) (defBody s_Walk_come_to) (defScope s_Walk_come_to) [] [] f fd ∧ mg ("Walk" : Str) = some (.ref C) ∧ Cls K C ∧ Meth K C ("come_to" : Str) f
  d_place_of : ∃ f fd, FunD K ("place_of" : Str) ("place_of" : Str) (defArgs s_place_of) (defBody s_place_of) (defScope s_place_of) [] [] f fd ∧ mg ("place_of" : Str) = some (.ref f) ∧ PySem.W.keepIn K (.ref f) = true
  d_l_met : ∃ f fd, FunD K ("_law_met" : Str) ("_law_met" : Str) (defArgs s_l_met) (defBody s_l_met) (defScope s_l_met) [] [] f fd ∧ mg ("_law_met" : Str) = some (.ref f) ∧ PySem.W.keepIn K (.ref f) = true
  d_l_missing : ∃ f fd, FunD K ("_law_missing" : Str) ("_law_missing" : Str) (defArgs s_l_missing) (defBody s_l_missing) (defScope s_l_missing) [] [] f fd ∧ mg ("_law_missing" : Str) = some (.ref f) ∧ PySem.W.keepIn K (.ref f) = true
  d_law : ∃ f fd, FunD K ("law" : Str) ("law" : Str) (defArgs s_law) (defBody s_law) (defScope s_law) [] [] f fd ∧ mg ("law" : Str) = some (.ref f) ∧ PySem.W.keepIn K (.ref f) = true
section
variable {P : Program} {w : World} {K : PySem.W.Frag} {mg : Str → Option Value} {base : Heap}
theorem B_l_cell_at (G : GE K mg) : Body P w K mg base 0 N_l_cell_at ("_law_cell_at" : Str) (defScope s_l_cell_at) (defBody s_l_cell_at) b_l_cell_at := by
  intro f cdv A outer s H E hr
  have tk : L2N.Takes (CxD P w K mg base N_l_cell_at ("_law_cell_at" : Str) (defScope s_l_cell_at) f cdv A outer s H E) (WofE E) := L2N.takes_of rfl rfl rfl rfl
  have hp : PassesOwn (model P w) (CxD P w K mg base N_l_cell_at ("_law_cell_at" : Str) (defScope s_l_cell_at) f cdv A outer s H E).A (CxD P w K mg base N_l_cell_at ("_law_cell_at" : Str) (defScope s_l_cell_at) f cdv A outer s H E).env (CxD P w K mg base N_l_cell_at ("_law_cell_at" : Str) (defScope s_l_cell_at) f cdv A outer s H E).xe := passes_of rfl
  have hu : (CxD P w K mg base N_l_cell_at ("_law_cell_at" : Str) (defScope s_l_cell_at) f cdv A outer s H E).A.units + 64 < cLine := hu_of hr
  exact (dss_cons (ds_if (dt_lt hu (DP.rd (dp_var 1 rfl (.inl rfl) rfl rfl)) (DP.rd (dp_len rfl G.b_len (dar_cons (DP.rd (dp_var 0 rfl (.inl rfl) rfl rfl)) dar_nil rfl))))
    (dss_one (ds_ret (dp_ix hu (DP.rd (dp_var 0 rfl (.inl rfl) rfl rfl)) (DP.rd (dp_var 1 rfl (.inl rfl) rfl rfl)) (fun _ _ => rfl))))
    dss_nil)
    (dss_one (ds_ret (DV.vl dv_int))))
theorem k_l_cell_at (G : GE K mg) : FnD P w K mg base 1 ("_law_cell_at" : Str) [("_law_script" : Str), ("_law_k" : Str)] m_l_cell_at := by
  obtain ⟨f, fd, Fn, hm, hk⟩ := G.d_l_cell_at
  exact ⟨f, fd, fn_body Fn sc_l_cell_at (by decide) (B_l_cell_at G), hm, hk, (Fn.bindsN fun _ _ _ _ _ _ us hl => match us, hl with | [_, _], _ => rfl)⟩
theorem B_l_mixed (G : GE K mg) : Body P w K mg base 0 N_l_mixed ("_law_mixed" : Str) (defScope s_l_mixed) (defBody s_l_mixed) b_l_mixed := by
  intro f cdv A outer s H E hr
  have tk : L2N.Takes (CxD P w K mg base N_l_mixed ("_law_mixed" : Str) (defScope s_l_mixed) f cdv A outer s H E) (WofE E) := L2N.takes_of rfl rfl rfl rfl
  have hp : PassesOwn (model P w) (CxD P w K mg base N_l_mixed ("_law_mixed" : Str) (defScope s_l_mixed) f cdv A outer s H E).A (CxD P w K mg base N_l_mixed ("_law_mixed" : Str) (defScope s_l_mixed) f cdv A outer s H E).env (CxD P w K mg base N_l_mixed ("_law_mixed" : Str) (defScope s_l_mixed) f cdv A outer s H E).xe := passes_of rfl
  have hu : (CxD P w K mg base N_l_mixed ("_law_mixed" : Str) (defScope s_l_mixed) f cdv A outer s H E).A.units + 64 < cLine := hu_of hr
  exact (dss_cons (ds_set sc_l_mixed.nd rfl (.inl rfl) (DV.vl (dv_tup (dak_cons dv_int (dak_cons dv_int (dak_cons dv_int (dak_cons dv_int (dak_cons dv_int (dak_cons dv_int (dak_cons dv_int (dak_cons dv_int dak_nil rfl) rfl) rfl) rfl) rfl) rfl) rfl) rfl))))
    (dss_cons (ds_set sc_l_mixed.nd rfl (.inl rfl) (DV.vl (dv_tup (dak_cons dv_int (dak_cons dv_int (dak_cons dv_int (dak_cons dv_int (dak_cons dv_int (dak_cons dv_int (dak_cons dv_int (dak_cons dv_int dak_nil rfl) rfl) rfl) rfl) rfl) rfl) rfl) rfl))))
    (dss_one (ds_ret (dp_mod (DP.rd (dp_mod (DP.rd (dp_mul (DP.rd (dp_add (DP.rd (dp_mod (DP.rd (dp_var 0 rfl (.inl rfl) rfl rfl)) (DP.rd (dp_pow (DV.rd dv_int) (DV.rd dv_int))))) (DV.rd dv_int))) (DP.rd (dp_ix hu (DP.rd (dp_var 3 rfl (.inl rfl) rfl rfl)) (DP.rd (dp_mod (DP.rd (dp_var 1 rfl (.inl rfl) rfl rfl)) (DV.rd dv_int))) (fun _ _ => rfl))))) (DP.rd (dp_ix hu (DP.rd (dp_var 4 rfl (.inl rfl) rfl rfl)) (DP.rd (dp_mod (DP.rd (dp_var 1 rfl (.inl rfl) rfl rfl)) (DV.rd dv_int))) (fun _ _ => rfl))))) (DP.rd (dp_var 2 rfl (.inl rfl) rfl rfl)))))))
theorem k_l_mixed (G : GE K mg) : FnD P w K mg base 1 ("_law_mixed" : Str) [("_law_cell" : Str), ("_law_turn" : Str), ("_law_many" : Str)] m_l_mixed := by
  obtain ⟨f, fd, Fn, hm, hk⟩ := G.d_l_mixed
  exact ⟨f, fd, fn_body Fn sc_l_mixed (by decide) (B_l_mixed G), hm, hk, (Fn.bindsN fun _ _ _ _ _ _ us hl => match us, hl with | [_, _, _], _ => rfl)⟩
theorem B_l_name_by (G : GE K mg) : Body P w K mg base 0 N_l_name_by ("_law_name_by" : Str) (defScope s_l_name_by) (defBody s_l_name_by) b_l_name_by := by
  intro f cdv A outer s H E hr
  have tk : L2N.Takes (CxD P w K mg base N_l_name_by ("_law_name_by" : Str) (defScope s_l_name_by) f cdv A outer s H E) (WofE E) := L2N.takes_of rfl rfl rfl rfl
  have hp : PassesOwn (model P w) (CxD P w K mg base N_l_name_by ("_law_name_by" : Str) (defScope s_l_name_by) f cdv A outer s H E).A (CxD P w K mg base N_l_name_by ("_law_name_by" : Str) (defScope s_l_name_by) f cdv A outer s H E).env (CxD P w K mg base N_l_name_by ("_law_name_by" : Str) (defScope s_l_name_by) f cdv A outer s H E).xe := passes_of rfl
  have hu : (CxD P w K mg base N_l_name_by ("_law_name_by" : Str) (defScope s_l_name_by) f cdv A outer s H E).A.units + 64 < cLine := hu_of hr
  exact (dss_cons (ds_set sc_l_name_by.nd rfl (.inl rfl) (DV.vl dv_str))
    (dss_cons (ds_set sc_l_name_by.nd rfl (.inl rfl) (DV.vl (DP.kp (dp_add (DV.rd dv_int) (DP.rd (dp_mod (DP.rd (dp_var 0 rfl (.inl rfl) rfl rfl)) (DV.rd dv_int)))))))
    (dss_cons (ds_set sc_l_name_by.nd rfl (.inl rfl) (DV.vl (DP.kp (dp_mod (DP.rd (dp_fdiv (DP.rd (dp_var 0 rfl (.inl rfl) rfl rfl)) (DV.rd dv_int))) (DP.rd (dp_var 3 rfl (.inl rfl) rfl rfl))))))
    (dss_cons (ds_set sc_l_name_by.nd rfl (.inl rfl) (DV.vl dv_str))
    (dss_cons (ds_for hp rfl sc_l_name_by.nd rfl (.inl rfl) (di_rng1 rfl G.b_range (DP.kp (dp_var 3 rfl (.inl rfl) rfl rfl)))
    (dss_cons (ds_set sc_l_name_by.nd rfl (.inl rfl) (DV.vl (DP.kp (dp_add (DP.rd (dp_fdiv (DP.rd (dp_var 0 rfl (.inl rfl) rfl rfl)) (DV.rd dv_int))) (DP.rd (dp_mul (DP.rd (dp_var 6 rfl (.inl rfl) rfl rfl)) (DP.rd (dp_mod (DP.rd (dp_fdiv (DP.rd (dp_var 0 rfl (.inl rfl) rfl rfl)) (DV.rd dv_int))) (DV.rd dv_int)))))))))
    (dss_cons (ds_if (dt_eq hu (DP.rd (dp_var 6 rfl (.inl rfl) rfl rfl)) (DP.rd (dp_var 4 rfl (.inl rfl) rfl rfl)))
    (dss_one (ds_set sc_l_name_by.nd rfl (.inl rfl) (DV.vl (DP.kp (dp_add (DP.rd (dp_var 7 rfl (.inl rfl) rfl rfl)) (DP.rd (dp_var 1 rfl (.inl rfl) rfl rfl)))))))
    dss_nil)
    (dss_one (ds_set sc_l_name_by.nd rfl (.inl rfl) (DV.vl (DP.kp (dp_add (DP.rd (dp_var 5 rfl (.inl rfl) rfl rfl)) (DP.rd (dp_ix hu (DP.rd (dp_var 2 rfl (.inl rfl) rfl rfl)) (DP.rd (dp_mod (DP.rd (dp_var 7 rfl (.inl rfl) rfl rfl)) (DV.rd dv_int))) (fun _ _ => rfl)))))))))))
    (dss_cons (ds_if (DTw.pt (dt_and (dt_eq hu (DP.rd (dp_mod (DP.rd (dp_fdiv (DP.rd (dp_var 0 rfl (.inl rfl) rfl rfl)) (DV.rd dv_int))) (DV.rd dv_int))) (DV.rd dv_int)) (dt_and1 (dt_eq hu (DP.rd (dp_mod (DP.rd (dp_var 1 rfl (.inl rfl) rfl rfl)) (DV.rd dv_int))) (DV.rd dv_int)))))
    (dss_one (ds_set sc_l_name_by.nd rfl (.inl rfl) (DV.vl (DP.kp (dp_slice (DP.rd (dp_var 5 rfl (.inl rfl) rfl rfl)) do_none (do_some (DP.rd (dp_add (DV.rd dv_int) (DP.rd (dp_mod (DP.rd (dp_var 1 rfl (.inl rfl) rfl rfl)) (DP.rd (dp_var 3 rfl (.inl rfl) rfl rfl))))))))))))
    dss_nil)
    (dss_one (ds_ret (dp_var 5 rfl (.inl rfl) rfl rfl)))))))))
theorem k_l_name_by (G : GE K mg) : FnD P w K mg base 1 ("_law_name_by" : Str) [("_law_stem" : Str), ("_law_v" : Str)] m_l_name_by := by
  obtain ⟨f, fd, Fn, hm, hk⟩ := G.d_l_name_by
  exact ⟨f, fd, fn_body Fn sc_l_name_by (by decide) (B_l_name_by G), hm, hk, (Fn.bindsN fun _ _ _ _ _ _ us hl => match us, hl with | [_, _], _ => rfl)⟩
theorem B_l_link_by (G : GE K mg) : Body P w K mg base 1 N_l_link_by ("_law_link_by" : Str) (defScope s_l_link_by) (defBody s_l_link_by) b_l_link_by := by
  intro f cdv A outer s H E hr
  have tk : L2N.Takes (CxD P w K mg base N_l_link_by ("_law_link_by" : Str) (defScope s_l_link_by) f cdv A outer s H E) (WofE E) := L2N.takes_of rfl rfl rfl rfl
  have hp : PassesOwn (model P w) (CxD P w K mg base N_l_link_by ("_law_link_by" : Str) (defScope s_l_link_by) f cdv A outer s H E).A (CxD P w K mg base N_l_link_by ("_law_link_by" : Str) (defScope s_l_link_by) f cdv A outer s H E).env (CxD P w K mg base N_l_link_by ("_law_link_by" : Str) (defScope s_l_link_by) f cdv A outer s H E).xe := passes_of rfl
  have hu : (CxD P w K mg base N_l_link_by ("_law_link_by" : Str) (defScope s_l_link_by) f cdv A outer s H E).A.units + 64 < cLine := hu_of hr
  exact (dss_cons (ds_set sc_l_link_by.nd rfl (.inl rfl) (DV.vl (DP.kp (dp_call (k_l_mixed G) (hr.mono (by decide)) tk rfl (dak_cons (DP.kp (dp_var 2 rfl (.inl rfl) rfl rfl)) (dak_cons dv_int (dak_cons dv_int dak_nil rfl) rfl) rfl)))))
    (dss_cons (ds_if (DTw.pt (dt_or (dt_gt hu (DP.rd (dp_var 4 rfl (.inl rfl) rfl rfl)) (DV.rd dv_int)) (dt_or1 (dt_eq hu (DP.rd (dp_len rfl G.b_len (dar_cons (DP.rd (dp_var 0 rfl (.inl rfl) rfl rfl)) dar_nil rfl))) (DV.rd dv_int)))))
    (dss_cons (ds_set sc_l_link_by.nd rfl (.inl rfl) (DV.vl (dv_tup (dak_cons dv_str (dak_cons dv_str (dak_cons dv_str (dak_cons (DP.kp (dp_var 3 rfl (.inl rfl) rfl rfl)) (dak_cons (DP.kp (dp_add (DV.rd dv_str) (DP.rd (dp_var 3 rfl (.inl rfl) rfl rfl)))) (dak_cons (DP.kp (dp_add (DP.rd (dp_add (DV.rd dv_str) (DP.rd (dp_var 3 rfl (.inl rfl) rfl rfl)))) (DV.rd dv_str))) dak_nil rfl) rfl) rfl) rfl) rfl) rfl))))
    (dss_one (ds_ret (dp_ix hu (DP.rd (dp_var 5 rfl (.inl rfl) rfl rfl)) (DP.rd (dp_call (k_l_mixed G) (hr.mono (by decide)) tk rfl (dak_cons (DP.kp (dp_var 2 rfl (.inl rfl) rfl rfl)) (dak_cons dv_int (dak_cons dv_int dak_nil rfl) rfl) rfl))) (fun _ _ => rfl)))))
    dss_nil)
    (dss_cons (ds_set sc_l_link_by.nd rfl (.inl rfl) (DV.vl (DP.kp (dp_join (DV.rd dv_str) (DP.rd (dp_ix hu (DP.rd (dp_var 0 rfl (.inl rfl) rfl rfl)) (DP.rd (dp_call (k_l_mixed G) (hr.mono (by decide)) tk rfl (dak_cons (DP.kp (dp_var 2 rfl (.inl rfl) rfl rfl)) (dak_cons dv_int (dak_cons (DP.kp (dp_len rfl G.b_len (dar_cons (DP.rd (dp_var 0 rfl (.inl rfl) rfl rfl)) dar_nil rfl))) dak_nil rfl) rfl) rfl))) (fun _ _ => rfl)))))))
    (dss_cons (ds_if (dt_eq hu (DP.rd (dp_var 4 rfl (.inl rfl) rfl rfl)) (DV.rd dv_int))
    (dss_one (ds_ret (dp_add (DP.rd (dp_mul (DV.rd dv_str) (DP.rd (dp_len rfl G.b_len (dar_cons (DP.rd (dp_var 1 rfl (.inl rfl) rfl rfl)) dar_nil rfl))))) (DP.rd (dp_var 6 rfl (.inl rfl) rfl rfl)))))
    dss_nil)
    (dss_one (ds_ret (dp_add (DV.rd dv_str) (DP.rd (dp_var 6 rfl (.inl rfl) rfl rfl)))))))))
theorem k_l_link_by (G : GE K mg) : FnD P w K mg base 2 ("_law_link_by" : Str) [("_law_ways" : Str), ("_law_over" : Str), ("_law_cell" : Str), ("_law_name" : Str)] m_l_link_by := by
  obtain ⟨f, fd, Fn, hm, hk⟩ := G.d_l_link_by
  exact ⟨f, fd, fn_body Fn sc_l_link_by (by decide) (B_l_link_by G), hm, hk, (Fn.bindsN fun _ _ _ _ _ _ us hl => match us, hl with | [_, _, _, _], _ => rfl)⟩
theorem B_l_hall_by (G : GE K mg) : Body P w K mg base 2 N_l_hall_by ("_law_hall_by" : Str) (defScope s_l_hall_by) (defBody s_l_hall_by) b_l_hall_by := by
  intro f cdv A outer s H E hr
  have tk : L2N.Takes (CxD P w K mg base N_l_hall_by ("_law_hall_by" : Str) (defScope s_l_hall_by) f cdv A outer s H E) (WofE E) := L2N.takes_of rfl rfl rfl rfl
  have hp : PassesOwn (model P w) (CxD P w K mg base N_l_hall_by ("_law_hall_by" : Str) (defScope s_l_hall_by) f cdv A outer s H E).A (CxD P w K mg base N_l_hall_by ("_law_hall_by" : Str) (defScope s_l_hall_by) f cdv A outer s H E).env (CxD P w K mg base N_l_hall_by ("_law_hall_by" : Str) (defScope s_l_hall_by) f cdv A outer s H E).xe := passes_of rfl
  have hu : (CxD P w K mg base N_l_hall_by ("_law_hall_by" : Str) (defScope s_l_hall_by) f cdv A outer s H E).A.units + 64 < cLine := hu_of hr
  exact (dss_cons (ds_set sc_l_hall_by.nd rfl (.inl rfl) (DV.vl (DP.kp (dp_add (DV.rd dv_int) (DP.rd (dp_mod (DP.rd (dp_fdiv (DP.rd (dp_var 1 rfl (.inl rfl) rfl rfl)) (DV.rd dv_int))) (DV.rd dv_int)))))))
    (dss_cons (ds_set sc_l_hall_by.nd rfl (.inl rfl) dp_newT)
    (dss_cons (ds_set sc_l_hall_by.nd rfl (.inl rfl) (dp_lst (dak_cons (dv_tup dak_nil) dak_nil rfl)))
    (dss_cons (ds_for hp rfl sc_l_hall_by.nd rfl (.inl rfl) (di_any (DP.kp (dp_var 0 rfl (.inl rfl) rfl rfl)))
    (dss_cons (ds_set sc_l_hall_by.nd rfl (.inl rfl) (DV.vl (DP.kp (dp_ix hu (DP.rd (dp_var 4 rfl (.inl rfl) rfl rfl)) (DP.rd (dp_call (k_l_mixed G) (hr.mono (by decide)) tk rfl (dak_cons (DP.kp (dp_var 5 rfl (.inl rfl) rfl rfl)) (dak_cons dv_int (dak_cons (DP.kp (dp_len rfl G.b_len (dar_cons (DP.rd (dp_var 4 rfl (.inl rfl) rfl rfl)) dar_nil rfl))) dak_nil rfl) rfl) rfl))) (fun _ _ => rfl)))))
    (dss_cons (ds_if (dt_eq hu (DP.rd (dp_call (k_l_mixed G) (hr.mono (by decide)) tk rfl (dak_cons (DP.kp (dp_var 5 rfl (.inl rfl) rfl rfl)) (dak_cons dv_int (dak_cons dv_int dak_nil rfl) rfl) rfl))) (DV.rd dv_int))
    (dss_one (ds_set sc_l_hall_by.nd rfl (.inl rfl) (DV.vl (DP.kp (dp_ix hu (DP.rd (dp_var 4 rfl (.inl rfl) rfl rfl)) (DV.rd (dv_neg (DV.rd dv_int))) (fun _ _ => rfl))))))
    dss_nil)
    (dss_cons (ds_set sc_l_hall_by.nd rfl (.inl rfl) (DV.vl (DP.kp (dp_call (k_l_name_by G) (hr.mono (by decide)) tk rfl (dak_cons (DP.kp (dp_var 1 rfl (.inl rfl) rfl rfl)) (dak_cons (DP.kp (dp_call (k_l_mixed G) (hr.mono (by decide)) tk rfl (dak_cons (DP.kp (dp_var 5 rfl (.inl rfl) rfl rfl)) (dak_cons dv_int (dak_cons (DP.kp (dp_var 2 rfl (.inl rfl) rfl rfl)) dak_nil rfl) rfl) rfl))) dak_nil rfl) rfl)))))
    (dss_cons (ds_set sc_l_hall_by.nd rfl (.inl rfl) (DV.vl (DP.kp (dp_add (DP.rd (dp_var 6 rfl (.inl rfl) rfl rfl)) (DV.rd (dv_tup (dak_cons (DP.kp (dp_var 7 rfl (.inl rfl) rfl rfl)) dak_nil rfl)))))))
    (dss_one (ds_if (DTw.pt (dt_and (dt_nin hu (DP.rd (dp_var 8 rfl (.inl rfl) rfl rfl)) (DP.rd (dp_var 3 rfl (.inl rfl) rfl rfl)) rfl) (dt_and1 (dt_lt hu (DP.rd (dp_len rfl G.b_len (dar_cons (DP.rd (dp_var 8 rfl (.inl rfl) rfl rfl)) dar_nil rfl))) (DV.rd dv_int)))))
    (dss_cons (ds_set sc_l_hall_by.nd rfl (.inl rfl) (DV.vl (DP.kp (dp_ix hu (DV.rd (dv_tup (dak_cons dv_str (dak_cons dv_str (dak_cons dv_str (dak_cons dv_str (dak_cons dv_str dak_nil rfl) rfl) rfl) rfl) rfl))) (DP.rd (dp_call (k_l_mixed G) (hr.mono (by decide)) tk rfl (dak_cons (DP.kp (dp_var 5 rfl (.inl rfl) rfl rfl)) (dak_cons dv_int (dak_cons dv_int dak_nil rfl) rfl) rfl))) (fun _ _ => rfl)))))
    (dss_cons (ds_putD hu (plc_sl 3 rfl (.inl rfl) rfl rfl) (DP.rd (dp_var 8 rfl (.inl rfl) rfl rfl)) (dv_tup (dak_cons (DP.kp (dp_var 9 rfl (.inl rfl) rfl rfl)) (dak_cons dv_str dak_nil rfl) rfl)))
    (dss_cons (ds_if (dt_eq hu (DP.rd (dp_var 9 rfl (.inl rfl) rfl rfl)) (DV.rd dv_str))
    (dss_one (ds_putD hu (plc_sl 3 rfl (.inl rfl) rfl rfl) (DP.rd (dp_var 8 rfl (.inl rfl) rfl rfl)) (dv_tup (dak_cons (DP.kp (dp_var 9 rfl (.inl rfl) rfl rfl)) (dak_cons (DP.kp (dp_call (k_l_link_by G) (hr.mono (by decide)) tk rfl (dak_cons (DP.kp (dp_list rfl rfl G.b_list (dar_cons (DP.rd (dp_var 3 rfl (.inl rfl) rfl rfl)) dar_nil rfl))) (dak_cons (DP.kp (dp_var 6 rfl (.inl rfl) rfl rfl)) (dak_cons (DP.kp (dp_var 5 rfl (.inl rfl) rfl rfl)) (dak_cons (DP.kp (dp_var 7 rfl (.inl rfl) rfl rfl)) dak_nil rfl) rfl) rfl) rfl))) dak_nil rfl) rfl))))
    dss_nil)
    (dss_cons (ds_if (dt_eq hu (DP.rd (dp_var 9 rfl (.inl rfl) rfl rfl)) (DV.rd dv_str))
    (dss_one (ds_putD hu (plc_sl 3 rfl (.inl rfl) rfl rfl) (DP.rd (dp_var 8 rfl (.inl rfl) rfl rfl)) (dv_tup (dak_cons (DP.kp (dp_var 9 rfl (.inl rfl) rfl rfl)) (dak_cons (DP.kp (dp_add (DP.rd (dp_add (DP.rd (dp_var 7 rfl (.inl rfl) rfl rfl)) (DV.rd dv_str))) (DP.rd (dp_str rfl G.b_str (dar_cons (DP.rd (dp_mod (DP.rd (dp_var 5 rfl (.inl rfl) rfl rfl)) (DP.rd (dp_pow (DV.rd dv_int) (DV.rd dv_int))))) dar_nil rfl))))) dak_nil rfl) rfl))))
    dss_nil)
    (dss_one (ds_if (dt_eq hu (DP.rd (dp_var 9 rfl (.inl rfl) rfl rfl)) (DV.rd dv_str))
    (dss_one (ds_dropG (dg_append (plc_sl 4 rfl (.inl rfl) rfl rfl) (DP.kp (dp_var 8 rfl (.inl rfl) rfl rfl)))))
    dss_nil))))))
    dss_nil)))))))
    (dss_one (ds_retV rfl (.inl rfl) rfl rfl))))))
theorem k_l_hall_by (G : GE K mg) : FnD P w K mg base 3 ("_law_hall_by" : Str) [("_law_cells_here" : Str), ("_law_stem" : Str)] m_l_hall_by := by
  obtain ⟨f, fd, Fn, hm, hk⟩ := G.d_l_hall_by
  exact ⟨f, fd, fn_body Fn sc_l_hall_by (by decide) (B_l_hall_by G), hm, hk, (Fn.bindsN fun _ _ _ _ _ _ us hl => match us, hl with | [_, _], _ => rfl)⟩
theorem B_l_tree_of (G : GE K mg) : Body P w K mg base 0 N_l_tree_of ("_law_tree_of" : Str) (defScope s_l_tree_of) (defBody s_l_tree_of) b_l_tree_of := by
  intro f cdv A outer s H E hr
  have tk : L2N.Takes (CxD P w K mg base N_l_tree_of ("_law_tree_of" : Str) (defScope s_l_tree_of) f cdv A outer s H E) (WofE E) := L2N.takes_of rfl rfl rfl rfl
  have hp : PassesOwn (model P w) (CxD P w K mg base N_l_tree_of ("_law_tree_of" : Str) (defScope s_l_tree_of) f cdv A outer s H E).A (CxD P w K mg base N_l_tree_of ("_law_tree_of" : Str) (defScope s_l_tree_of) f cdv A outer s H E).env (CxD P w K mg base N_l_tree_of ("_law_tree_of" : Str) (defScope s_l_tree_of) f cdv A outer s H E).xe := passes_of rfl
  have hu : (CxD P w K mg base N_l_tree_of ("_law_tree_of" : Str) (defScope s_l_tree_of) f cdv A outer s H E).A.units + 64 < cLine := hu_of hr
  exact (dss_one (ds_ret (dp_lc (own := [(("_law_way" : Str), 1)]) (k := 1) rfl sc_l_tree_of.nd (blkOk_by rfl) (di_any (DP.kp (dp_sorted hu rfl G.b_sorted (dar_cons (DP.rd (dp_list rfl rfl G.b_list (dar_cons (DP.rd (dp_var 0 rfl (.inr (.inl rfl)) rfl rfl)) dar_nil rfl))) dar_nil rfl)))) (fun _ _ _ _ _ => pg_name sc_l_tree_of.nd rfl (.inl rfl)) (fun _ _ _ _ _ => dts_nil) (fun _ _ _ _ _ => (dv_tup (dak_cons (DP.kp (dp_var 1 rfl (.inl rfl) rfl rfl)) (dak_cons (DP.kp (dp_ix hu (DP.rd (dp_ix hu (DP.rd (dp_var 0 rfl (.inr (.inl rfl)) rfl rfl)) (DP.rd (dp_var 1 rfl (.inl rfl) rfl rfl)) (fun _ _ => rfl))) (DV.rd dv_int) (fun _ _ => rfl))) (dak_cons (DP.kp (dp_ix hu (DP.rd (dp_ix hu (DP.rd (dp_var 0 rfl (.inr (.inl rfl)) rfl rfl)) (DP.rd (dp_var 1 rfl (.inl rfl) rfl rfl)) (fun _ _ => rfl))) (DV.rd dv_int) (fun _ _ => rfl))) dak_nil rfl) rfl) rfl))))))
theorem k_l_tree_of (G : GE K mg) : FnD P w K mg base 1 ("_law_tree_of" : Str) [("_law_things" : Str)] m_l_tree_of := by
  obtain ⟨f, fd, Fn, hm, hk⟩ := G.d_l_tree_of
  exact ⟨f, fd, fn_body Fn sc_l_tree_of (by decide) (B_l_tree_of G), hm, hk, (Fn.bindsN fun _ _ _ _ _ _ us hl => match us, hl with | [_], _ => rfl)⟩
theorem B_l_cells (G : GE K mg) : Body P w K mg base 1 N_l_cells ("_law_cells" : Str) (defScope s_l_cells) (defBody s_l_cells) b_l_cells := by
  intro f cdv A outer s H E hr
  have tk : L2N.Takes (CxD P w K mg base N_l_cells ("_law_cells" : Str) (defScope s_l_cells) f cdv A outer s H E) (WofE E) := L2N.takes_of rfl rfl rfl rfl
  have hp : PassesOwn (model P w) (CxD P w K mg base N_l_cells ("_law_cells" : Str) (defScope s_l_cells) f cdv A outer s H E).A (CxD P w K mg base N_l_cells ("_law_cells" : Str) (defScope s_l_cells) f cdv A outer s H E).env (CxD P w K mg base N_l_cells ("_law_cells" : Str) (defScope s_l_cells) f cdv A outer s H E).xe := passes_of rfl
  have hu : (CxD P w K mg base N_l_cells ("_law_cells" : Str) (defScope s_l_cells) f cdv A outer s H E).A.units + 64 < cLine := hu_of hr
  exact (dss_one (ds_ret (dp_lc (own := [(("_law_k" : Str), 4)]) (k := 4) rfl sc_l_cells.nd (blkOk_by rfl) (di_rng1 rfl G.b_range (DP.kp (dp_var 3 rfl (.inl rfl) rfl rfl))) (fun _ _ _ _ _ => pg_name sc_l_cells.nd rfl (.inl rfl)) (fun _ _ _ _ _ => dts_nil) (fun _ _ _ _ _ => (DP.kp (dp_add (DP.rd (dp_call (k_l_cell_at G) (hr.mono (by decide)) takesN rfl (dak_cons (DP.kp (dp_var 0 rfl (.inr (.inl rfl)) rfl rfl)) (dak_cons (DP.kp (dp_add (DP.rd (dp_var 1 rfl (.inr (.inl rfl)) rfl rfl)) (DP.rd (dp_mul (DP.rd (dp_var 2 rfl (.inr (.inl rfl)) rfl rfl)) (DP.rd (dp_var 4 rfl (.inl rfl) rfl rfl)))))) dak_nil rfl) rfl))) (DP.rd (dp_var 4 rfl (.inl rfl) rfl rfl))))))))
theorem k_l_cells (G : GE K mg) : FnD P w K mg base 2 ("_law_cells" : Str) [("_law_script" : Str), ("_law_first" : Str), ("_law_step" : Str), ("_law_many" : Str)] m_l_cells := by
  obtain ⟨f, fd, Fn, hm, hk⟩ := G.d_l_cells
  exact ⟨f, fd, fn_body Fn sc_l_cells (by decide) (B_l_cells G), hm, hk, (Fn.bindsN fun _ _ _ _ _ _ us hl => match us, hl with | [_, _, _, _], _ => rfl)⟩
theorem B_l_is_way (G : GE K mg) : BodyB P w K mg base 0 N_l_is_way ("_law_is_way" : Str) (defScope s_l_is_way) (defBody s_l_is_way) b_l_is_way := by
  intro CX cl pn f cdv A outer s H E hr hc
  have hp : PassesOwn (model P w) (CxB CX cl pn P w K mg base N_l_is_way ("_law_is_way" : Str) (defScope s_l_is_way) f cdv A outer s H E).A (CxB CX cl pn P w K mg base N_l_is_way ("_law_is_way" : Str) (defScope s_l_is_way) f cdv A outer s H E).env (CxB CX cl pn P w K mg base N_l_is_way ("_law_is_way" : Str) (defScope s_l_is_way) f cdv A outer s H E).xe := passes_of rfl
  have hu : (CxB CX cl pn P w K mg base N_l_is_way ("_law_is_way" : Str) (defScope s_l_is_way) f cdv A outer s H E).A.units + 64 < cLine := huH hr
  exact (dss_cons (ds_if (DTw.pt (dt_or (dt_not (dt_tru (DV.rd (dv_isi (T := "tuple") rfl G.b_isinstance rfl G.b_tuple rfl (DP.rd (dp_var 0 rfl (.inl rfl) rfl rfl)))))) (dt_or1 (dt_ne hu (DP.rd (dp_len rfl G.b_len (dar_cons (DP.rd (dp_var 0 rfl (.inl rfl) rfl rfl)) dar_nil rfl))) (DP.rd (dp_len rfl G.b_len (dar_cons (DP.rd (dp_var 1 rfl (.inl rfl) rfl rfl)) dar_nil rfl)))))))
    (dss_one (ds_ret (DV.vl dv_bl)))
    dss_nil)
    (dss_cons (ds_forB hp hc sc_l_is_way.nd rfl (.inl rfl) (di_rng1B rfl G.b_range (DP.kp (dp_len rfl G.b_len (dar_cons (DP.rd (dp_var 1 rfl (.inl rfl) rfl rfl)) dar_nil rfl))))
    (dss_one (ds_if (DTw.pt (dt_or (dt_not (dt_tru (DV.rd (dv_isi (T := "str") rfl G.b_isinstance rfl G.b_str rfl (DP.rd (dp_ix hu (DP.rd (dp_var 0 rfl (.inl rfl) rfl rfl)) (DP.rd (dp_var 2 rfl (.inl rfl) rfl rfl)) (fun _ _ => rfl))))))) (dt_or1 (dt_ne hu (DP.rd (dp_ix hu (DP.rd (dp_var 0 rfl (.inl rfl) rfl rfl)) (DP.rd (dp_var 2 rfl (.inl rfl) rfl rfl)) (fun _ _ => rfl))) (DP.rd (dp_ix hu (DP.rd (dp_var 1 rfl (.inl rfl) rfl rfl)) (DP.rd (dp_var 2 rfl (.inl rfl) rfl rfl)) (fun _ _ => rfl)))))))
    (dss_one (ds_ret (DV.vl dv_bl)))
    dss_nil)))
    (dss_one (ds_ret (DV.vl dv_bl)))))
theorem kb_l_is_way (G : GE K mg) : FnB P w K mg base 1 ("_law_is_way" : Str) [("_law_found" : Str), ("_law_due" : Str)] m_l_is_way := by
  obtain ⟨f, fd, Fn, hm, hk⟩ := G.d_l_is_way
  obtain ⟨h1, h2⟩ := fn_bodyB (P := P) (w := w) (base := base) Fn sc_l_is_way (by decide) (B_l_is_way G)
  exact ⟨f, fd, h1, h2, hm, hk, (Fn.bindsN fun _ _ _ _ _ _ us hl => match us, hl with | [_, _], _ => rfl)⟩
theorem k_l_is_way (G : GE K mg) : FnD P w K mg base 1 ("_law_is_way" : Str) [("_law_found" : Str), ("_law_due" : Str)] m_l_is_way := (kb_l_is_way G).d
theorem B_is_name (G : GE K mg) : BodyB P w K mg base 0 N_is_name ("is_name" : Str) (defScope s_is_name) (defBody s_is_name) b_is_name := by
  intro CX cl pn f cdv A outer s H E hr hc
  have hp : PassesOwn (model P w) (CxB CX cl pn P w K mg base N_is_name ("is_name" : Str) (defScope s_is_name) f cdv A outer s H E).A (CxB CX cl pn P w K mg base N_is_name ("is_name" : Str) (defScope s_is_name) f cdv A outer s H E).env (CxB CX cl pn P w K mg base N_is_name ("is_name" : Str) (defScope s_is_name) f cdv A outer s H E).xe := passes_of rfl
  have hu : (CxB CX cl pn P w K mg base N_is_name ("is_name" : Str) (defScope s_is_name) f cdv A outer s H E).A.units + 64 < cLine := huH hr
  exact (dss_cons (ds_if (dt_not (dt_tru (DV.rd (dv_isi (T := "str") rfl G.b_isinstance rfl G.b_str rfl (DP.rd (dp_var 0 rfl (.inl rfl) rfl rfl))))))
    (dss_one (ds_ret (DV.vl dv_bl)))
    dss_nil)
    (dss_cons (ds_if (DTw.pt (dt_or (dt_eq hu (DP.rd (dp_var 0 rfl (.inl rfl) rfl rfl)) (DV.rd dv_str)) (dt_or1 (dt_gt hu (DP.rd (dp_len rfl G.b_len (dar_cons (DP.rd (dp_var 0 rfl (.inl rfl) rfl rfl)) dar_nil rfl))) (DV.rd (dv_gint rfl G.c_LONGEST rfl))))))
    (dss_one (ds_ret (DV.vl dv_bl)))
    dss_nil)
    (dss_cons (ds_forB hp hc sc_is_name.nd rfl (.inl rfl) (di_anyB (DP.kp (dp_var 0 rfl (.inl rfl) rfl rfl)))
    (dss_one (ds_if (dt_nin hu (DP.rd (dp_var 1 rfl (.inl rfl) rfl rfl)) (DV.rd (dv_gstr rfl G.c_SIGNS rfl)) rfl)
    (dss_one (ds_ret (DV.vl dv_bl)))
    dss_nil)))
    (dss_one (ds_ret (DV.vl dv_bl))))))
theorem kb_is_name (G : GE K mg) : FnB P w K mg base 1 ("is_name" : Str) [("thing" : Str)] m_is_name := by
  obtain ⟨f, fd, Fn, hm, hk⟩ := G.d_is_name
  obtain ⟨h1, h2⟩ := fn_bodyB (P := P) (w := w) (base := base) Fn sc_is_name (by decide) (B_is_name G)
  exact ⟨f, fd, h1, h2, hm, hk, (Fn.bindsN fun _ _ _ _ _ _ us hl => match us, hl with | [_], _ => rfl)⟩
theorem k_is_name (G : GE K mg) : FnD P w K mg base 1 ("is_name" : Str) [("thing" : Str)] m_is_name := (kb_is_name G).d
theorem B_is_word (G : GE K mg) : BodyB P w K mg base 1 N_is_word ("is_word" : Str) (defScope s_is_word) (defBody s_is_word) b_is_word := by
  intro CX cl pn f cdv A outer s H E hr hc
  have hp : PassesOwn (model P w) (CxB CX cl pn P w K mg base N_is_word ("is_word" : Str) (defScope s_is_word) f cdv A outer s H E).A (CxB CX cl pn P w K mg base N_is_word ("is_word" : Str) (defScope s_is_word) f cdv A outer s H E).env (CxB CX cl pn P w K mg base N_is_word ("is_word" : Str) (defScope s_is_word) f cdv A outer s H E).xe := passes_of rfl
  have hu : (CxB CX cl pn P w K mg base N_is_word ("is_word" : Str) (defScope s_is_word) f cdv A outer s H E).A.units + 64 < cLine := huH hr
  exact (dss_one (ds_ret (DV.vl (dv_or (DP.rd (dp_eq hu (DP.rd (dp_var 0 rfl (.inl rfl) rfl rfl)) (DV.rd dv_str))) (dv_or (DP.rd (dp_eq hu (DP.rd (dp_var 0 rfl (.inl rfl) rfl rfl)) (DV.rd dv_str))) (dv_one (DP.kp (dp_callB' (kb_is_name G) (hr.mono (by decide)) hc rfl (dak_cons (DP.kp (dp_var 0 rfl (.inl rfl) rfl rfl)) dak_nil rfl)))))))))
theorem kb_is_word (G : GE K mg) : FnB P w K mg base 2 ("is_word" : Str) [("word" : Str)] m_is_word := by
  obtain ⟨f, fd, Fn, hm, hk⟩ := G.d_is_word
  obtain ⟨h1, h2⟩ := fn_bodyB (P := P) (w := w) (base := base) Fn sc_is_word (by decide) (B_is_word G)
  exact ⟨f, fd, h1, h2, hm, hk, (Fn.bindsN fun _ _ _ _ _ _ us hl => match us, hl with | [_], _ => rfl)⟩
theorem k_is_word (G : GE K mg) : FnD P w K mg base 2 ("is_word" : Str) [("word" : Str)] m_is_word := (kb_is_word G).d
theorem B_words_of (G : GE K mg) : BodyB P w K mg base 2 N_words_of ("words_of" : Str) (defScope s_words_of) (defBody s_words_of) b_words_of := by
  intro CX cl pn f cdv A outer s H E hr hc
  have hp : PassesOwn (model P w) (CxB CX cl pn P w K mg base N_words_of ("words_of" : Str) (defScope s_words_of) f cdv A outer s H E).A (CxB CX cl pn P w K mg base N_words_of ("words_of" : Str) (defScope s_words_of) f cdv A outer s H E).env (CxB CX cl pn P w K mg base N_words_of ("words_of" : Str) (defScope s_words_of) f cdv A outer s H E).xe := passes_of rfl
  have hu : (CxB CX cl pn P w K mg base N_words_of ("words_of" : Str) (defScope s_words_of) f cdv A outer s H E).A.units + 64 < cLine := huH hr
  exact (dss_cons (ds_if (dt_eq hu (DP.rd (dp_var 0 rfl (.inl rfl) rfl rfl)) (DV.rd dv_str))
    (dss_one (ds_ret (DV.vl (dv_tup (dak_cons dv_bl (dak_cons (DP.kp (dp_lst dak_nil)) dak_nil rfl) rfl)))))
    dss_nil)
    (dss_cons (ds_set sc_words_of.nd rfl (.inl rfl) (DV.vl (DP.kp (dp_starts (DP.rd (dp_var 0 rfl (.inl rfl) rfl rfl)) (DV.rd dv_str)))))
    (dss_cons (ds_set sc_words_of.nd rfl (.inl rfl) (DV.vl (DP.kp (dp_split (DP.rd (dp_var 0 rfl (.inl rfl) rfl rfl)) (DV.rd dv_str)))))
    (dss_cons (ds_if (dt_tru (DP.rd (dp_var 1 rfl (.inl rfl) rfl rfl)))
    (dss_one (ds_set sc_words_of.nd rfl (.inl rfl) (DV.vl (DP.kp (dp_slice (DP.rd (dp_var 2 rfl (.inl rfl) rfl rfl)) (do_some (DV.rd dv_int)) do_none)))))
    dss_nil)
    (dss_cons (ds_if (dt_gt hu (DP.rd (dp_len rfl G.b_len (dar_cons (DP.rd (dp_var 2 rfl (.inl rfl) rfl rfl)) dar_nil rfl))) (DV.rd (dv_gint rfl G.c_MOST_WORDS rfl)))
    (dss_one (ds_raiseB G.x_NoWay hc rfl))
    dss_nil)
    (dss_cons (ds_forB hp hc sc_words_of.nd rfl (.inl rfl) (di_anyB (DP.kp (dp_var 2 rfl (.inl rfl) rfl rfl)))
    (dss_one (ds_if (dt_not (dt_tru (DP.rd (dp_callB' (kb_is_word G) (hr.mono (by decide)) hc rfl (dak_cons (DP.kp (dp_var 3 rfl (.inl rfl) rfl rfl)) dak_nil rfl)))))
    (dss_one (ds_raiseB G.x_NoWay hc rfl))
    dss_nil)))
    (dss_one (ds_ret (DV.vl (dv_tup (dak_cons (DP.kp (dp_var 1 rfl (.inl rfl) rfl rfl)) (dak_cons (DP.kp (dp_var 2 rfl (.inl rfl) rfl rfl)) dak_nil rfl) rfl)))))))))))
theorem kb_words_of (G : GE K mg) : FnB P w K mg base 3 ("words_of" : Str) [("text" : Str)] m_words_of := by
  obtain ⟨f, fd, Fn, hm, hk⟩ := G.d_words_of
  obtain ⟨h1, h2⟩ := fn_bodyB (P := P) (w := w) (base := base) Fn sc_words_of (by decide) (B_words_of G)
  exact ⟨f, fd, h1, h2, hm, hk, (Fn.bindsN fun _ _ _ _ _ _ us hl => match us, hl with | [_], _ => rfl)⟩
theorem k_words_of (G : GE K mg) : FnD P w K mg base 3 ("words_of" : Str) [("text" : Str)] m_words_of := (kb_words_of G).d
theorem B_by_way (G : GE K mg) : BodyB P w K mg base 0 N_by_way ("by_way" : Str) (defScope s_by_way) (defBody s_by_way) b_by_way := by
  intro CX cl pn f cdv A outer s H E hr hc
  have hp : PassesOwn (model P w) (CxB CX cl pn P w K mg base N_by_way ("by_way" : Str) (defScope s_by_way) f cdv A outer s H E).A (CxB CX cl pn P w K mg base N_by_way ("by_way" : Str) (defScope s_by_way) f cdv A outer s H E).env (CxB CX cl pn P w K mg base N_by_way ("by_way" : Str) (defScope s_by_way) f cdv A outer s H E).xe := passes_of rfl
  have hu : (CxB CX cl pn P w K mg base N_by_way ("by_way" : Str) (defScope s_by_way) f cdv A outer s H E).A.units + 64 < cLine := huH hr
  exact (dss_cons (ds_set sc_by_way.nd rfl (.inl rfl) dp_newT)
    (dss_cons (ds_forB hp hc sc_by_way.nd rfl (.inl rfl) (di_anyB (DP.kp (dp_var 0 rfl (.inl rfl) rfl rfl)))
    (dss_one (ds_putD hu (plc_sl 1 rfl (.inl rfl) rfl rfl) (DP.rd (dp_ix hu (DP.rd (dp_var 2 rfl (.inl rfl) rfl rfl)) (DV.rd dv_int) (fun _ _ => rfl))) (dv_tup (dak_cons (DP.kp (dp_ix hu (DP.rd (dp_var 2 rfl (.inl rfl) rfl rfl)) (DV.rd dv_int) (fun _ _ => rfl))) (dak_cons (DP.kp (dp_ix hu (DP.rd (dp_var 2 rfl (.inl rfl) rfl rfl)) (DV.rd dv_int) (fun _ _ => rfl))) dak_nil rfl) rfl)))))
    (dss_one (ds_retV rfl (.inl rfl) rfl rfl))))
theorem kb_by_way (G : GE K mg) : FnB P w K mg base 1 ("by_way" : Str) [("entries" : Str)] m_by_way := by
  obtain ⟨f, fd, Fn, hm, hk⟩ := G.d_by_way
  obtain ⟨h1, h2⟩ := fn_bodyB (P := P) (w := w) (base := base) Fn sc_by_way (by decide) (B_by_way G)
  exact ⟨f, fd, h1, h2, hm, hk, (Fn.bindsN fun _ _ _ _ _ _ us hl => match us, hl with | [_], _ => rfl)⟩
theorem k_by_way (G : GE K mg) : FnD P w K mg base 1 ("by_way" : Str) [("entries" : Str)] m_by_way := (kb_by_way G).d
theorem B_Walk_init (G : GE K mg) : BodyB P w K mg base 1 N_Walk_init ("Walk.__init__" : Str) (defScope s_Walk_init) (defBody s_Walk_init) b_Walk_init := by
  intro CX cl pn f cdv A outer s H E hr hc
  have hp : PassesOwn (model P w) (CxB CX cl pn P w K mg base N_Walk_init ("Walk.__init__" : Str) (defScope s_Walk_init) f cdv A outer s H E).A (CxB CX cl pn P w K mg base N_Walk_init ("Walk.__init__" : Str) (defScope s_Walk_init) f cdv A outer s H E).env (CxB CX cl pn P w K mg base N_Walk_init ("Walk.__init__" : Str) (defScope s_Walk_init) f cdv A outer s H E).xe := passes_of rfl
  have hu : (CxB CX cl pn P w K mg base N_Walk_init ("Walk.__init__" : Str) (defScope s_Walk_init) f cdv A outer s H E).A.units + 64 < cLine := huH hr
  exact (dss_cons (ds_fldS G.fl_Walk_things (plc_sl 0 rfl (.inl rfl) rfl rfl) (DP.kp (dp_callB' (kb_by_way G) (hr.mono (by decide)) hc rfl (dak_cons (DP.kp (dp_var 1 rfl (.inl rfl) rfl rfl)) dak_nil rfl))))
    (dss_cons (ds_fldS G.fl_Walk_stands (plc_sl 0 rfl (.inl rfl) rfl rfl) (DP.kp (dp_var 2 rfl (.inl rfl) rfl rfl)))
    (dss_cons (ds_fldO G.fl_Walk_left (plc_sl 0 rfl (.inl rfl) rfl rfl) (dp_lst dak_nil))
    (dss_cons (ds_fldS G.fl_Walk_links (plc_sl 0 rfl (.inl rfl) rfl rfl) dv_int)
    (dss_one (ds_fldO G.fl_Walk_steps (plc_sl 0 rfl (.inl rfl) rfl rfl) (dp_lst dak_nil)))))))
theorem kb_Walk_init (G : GE K mg) : MkB P w K mg base 2 ("Walk" : Str) [("self" : Str), ("tree" : Str), ("at" : Str)] m_Walk_init := by
  obtain ⟨C, f, fd, Fn, hm, mk⟩ := G.d_Walk_init
  obtain ⟨h1, h2⟩ := fn_bodyMB (P := P) (w := w) (base := base) Fn sc_Walk_init (by decide) (B_Walk_init G)
  exact ⟨C, f, fd, hm, mk, h1, h2, (Fn.bindsN fun _ _ _ _ _ _ us hl => match us, hl with | [_, _, _], _ => rfl)⟩
theorem k_Walk_init (G : GE K mg) : MkD P w K mg base 2 ("Walk" : Str) [("self" : Str), ("tree" : Str), ("at" : Str)] m_Walk_init := (kb_Walk_init G).d
theorem B_Walk_set_out (G : GE K mg) : BodyB P w K mg base 0 N_Walk_set_out ("Walk.set_out" : Str) (defScope s_Walk_set_out) (defBody s_Walk_set_out) b_Walk_set_out := by
  intro CX cl pn f cdv A outer s H E hr hc
  have hp : PassesOwn (model P w) (CxB CX cl pn P w K mg base N_Walk_set_out ("Walk.set_out" : Str) (defScope s_Walk_set_out) f cdv A outer s H E).A (CxB CX cl pn P w K mg base N_Walk_set_out ("Walk.set_out" : Str) (defScope s_Walk_set_out) f cdv A outer s H E).env (CxB CX cl pn P w K mg base N_Walk_set_out ("Walk.set_out" : Str) (defScope s_Walk_set_out) f cdv A outer s H E).xe := passes_of rfl
  have hu : (CxB CX cl pn P w K mg base N_Walk_set_out ("Walk.set_out" : Str) (defScope s_Walk_set_out) f cdv A outer s H E).A.units + 64 < cLine := huH hr
  exact (dss_cons (ds_if (dt_tru (DP.rd (dp_var 1 rfl (.inl rfl) rfl rfl)))
    (dss_one (ds_fldS G.fl_Walk_stands (plc_sl 0 rfl (.inl rfl) rfl rfl) (dv_tup dak_nil)))
    dss_nil)
    (dss_one (ds_fldO G.fl_Walk_left (plc_sl 0 rfl (.inl rfl) rfl rfl) (dp_add (DP.rd (dp_var 2 rfl (.inl rfl) rfl rfl)) (DP.rd (dp_fld G.fl_Walk_left (DP.rd (dp_var 0 rfl (.inl rfl) rfl rfl)) rfl))))))
theorem kb_Walk_set_out (G : GE K mg) : MtB P w K mg base 1 ("Walk" : Str) ("set_out" : Str) [("self" : Str), ("rooted" : Str), ("words" : Str)] m_Walk_set_out := by
  obtain ⟨C, f, fd, Fn, hm, cl, me⟩ := G.d_Walk_set_out
  obtain ⟨h1, h2⟩ := fn_bodyMB (P := P) (w := w) (base := base) Fn sc_Walk_set_out (by decide) (B_Walk_set_out G)
  exact ⟨C, f, fd, hm, cl, me, h1, h2, (Fn.bindsN fun _ _ _ _ _ _ us hl => match us, hl with | [_, _, _], _ => rfl)⟩
theorem k_Walk_set_out (G : GE K mg) : MtD P w K mg base 1 ("Walk" : Str) ("set_out" : Str) [("self" : Str), ("rooted" : Str), ("words" : Str)] m_Walk_set_out := (kb_Walk_set_out G).d
theorem B_above (G : GE K mg) : BodyB P w K mg base 0 N_above ("above" : Str) (defScope s_above) (defBody s_above) b_above := by
  intro CX cl pn f cdv A outer s H E hr hc
  have hp : PassesOwn (model P w) (CxB CX cl pn P w K mg base N_above ("above" : Str) (defScope s_above) f cdv A outer s H E).A (CxB CX cl pn P w K mg base N_above ("above" : Str) (defScope s_above) f cdv A outer s H E).env (CxB CX cl pn P w K mg base N_above ("above" : Str) (defScope s_above) f cdv A outer s H E).xe := passes_of rfl
  have hu : (CxB CX cl pn P w K mg base N_above ("above" : Str) (defScope s_above) f cdv A outer s H E).A.units + 64 < cLine := huH hr
  exact (dss_one (ds_ret (dp_slice (DP.rd (dp_var 0 rfl (.inl rfl) rfl rfl)) do_none (do_some (DV.rd (dv_neg (DV.rd dv_int)))))))
theorem kb_above (G : GE K mg) : FnB P w K mg base 1 ("above" : Str) [("way" : Str)] m_above := by
  obtain ⟨f, fd, Fn, hm, hk⟩ := G.d_above
  obtain ⟨h1, h2⟩ := fn_bodyB (P := P) (w := w) (base := base) Fn sc_above (by decide) (B_above G)
  exact ⟨f, fd, h1, h2, hm, hk, (Fn.bindsN fun _ _ _ _ _ _ us hl => match us, hl with | [_], _ => rfl)⟩
theorem k_above (G : GE K mg) : FnD P w K mg base 1 ("above" : Str) [("way" : Str)] m_above := (kb_above G).d
theorem B_Walk_follow (G : GE K mg) : BodyB P w K mg base 3 N_Walk_follow ("Walk.follow" : Str) (defScope s_Walk_follow) (defBody s_Walk_follow) b_Walk_follow := by
  intro CX cl pn f cdv A outer s H E hr hc
  have hp : PassesOwn (model P w) (CxB CX cl pn P w K mg base N_Walk_follow ("Walk.follow" : Str) (defScope s_Walk_follow) f cdv A outer s H E).A (CxB CX cl pn P w K mg base N_Walk_follow ("Walk.follow" : Str) (defScope s_Walk_follow) f cdv A outer s H E).env (CxB CX cl pn P w K mg base N_Walk_follow ("Walk.follow" : Str) (defScope s_Walk_follow) f cdv A outer s H E).xe := passes_of rfl
  have hu : (CxB CX cl pn P w K mg base N_Walk_follow ("Walk.follow" : Str) (defScope s_Walk_follow) f cdv A outer s H E).A.units + 64 < cLine := huH hr
  exact (dss_cons (ds_fldA G.fl_Walk_links (plc_sl 0 rfl (.inl rfl) rfl rfl) dv_int)
    (dss_cons (ds_if (dt_gt hu (DP.rd (dp_fld G.fl_Walk_links (DP.rd (dp_var 0 rfl (.inl rfl) rfl rfl)) rfl)) (DV.rd (dv_gint rfl G.c_MOST_LINKS rfl)))
    (dss_one (ds_raiseB G.x_Astray hc rfl))
    dss_nil)
    (dss_cons (ds_unpB hc (pgi_cons sc_Walk_follow.nd rfl (.inl rfl) (pgi_cons sc_Walk_follow.nd rfl (.inl rfl) pgi_nil)) (DP.kp (dp_callB' (kb_words_of G) (hr.mono (by decide)) hc rfl (dak_cons (DP.kp (dp_var 1 rfl (.inl rfl) rfl rfl)) dak_nil rfl))))
    (dss_one (ds_dropG (dg_methB (ps' := _) (kb_Walk_set_out G) (hr.mono (by decide)) hc (plc_sl 0 rfl (.inl rfl) rfl rfl) (dak_cons (DP.kp (dp_var 2 rfl (.inl rfl) rfl rfl)) (dak_cons (DP.kp (dp_var 3 rfl (.inl rfl) rfl rfl)) dak_nil rfl) rfl)))))))
theorem kb_Walk_follow (G : GE K mg) : MtB P w K mg base 4 ("Walk" : Str) ("follow" : Str) [("self" : Str), ("text" : Str)] m_Walk_follow := by
  obtain ⟨C, f, fd, Fn, hm, cl, me⟩ := G.d_Walk_follow
  obtain ⟨h1, h2⟩ := fn_bodyMB (P := P) (w := w) (base := base) Fn sc_Walk_follow (by decide) (B_Walk_follow G)
  exact ⟨C, f, fd, hm, cl, me, h1, h2, (Fn.bindsN fun _ _ _ _ _ _ us hl => match us, hl with | [_, _], _ => rfl)⟩
theorem k_Walk_follow (G : GE K mg) : MtD P w K mg base 4 ("Walk" : Str) ("follow" : Str) [("self" : Str), ("text" : Str)] m_Walk_follow := (kb_Walk_follow G).d
theorem B_Walk_enter (G : GE K mg) : BodyB P w K mg base 4 N_Walk_enter ("Walk.enter" : Str) (defScope s_Walk_enter) (defBody s_Walk_enter) b_Walk_enter := by
  intro CX cl pn f cdv A outer s H E hr hc
  have hp : PassesOwn (model P w) (CxB CX cl pn P w K mg base N_Walk_enter ("Walk.enter" : Str) (defScope s_Walk_enter) f cdv A outer s H E).A (CxB CX cl pn P w K mg base N_Walk_enter ("Walk.enter" : Str) (defScope s_Walk_enter) f cdv A outer s H E).env (CxB CX cl pn P w K mg base N_Walk_enter ("Walk.enter" : Str) (defScope s_Walk_enter) f cdv A outer s H E).xe := passes_of rfl
  have hu : (CxB CX cl pn P w K mg base N_Walk_enter ("Walk.enter" : Str) (defScope s_Walk_enter) f cdv A outer s H E).A.units + 64 < cLine := huH hr
  exact (dss_cons (ds_set sc_Walk_enter.nd rfl (.inl rfl) (DV.vl (DP.kp (dp_add (DP.rd (dp_fld G.fl_Walk_stands (DP.rd (dp_var 0 rfl (.inl rfl) rfl rfl)) rfl)) (DV.rd (dv_tup (dak_cons (DP.kp (dp_var 1 rfl (.inl rfl) rfl rfl)) dak_nil rfl)))))))
    (dss_cons (ds_set sc_Walk_enter.nd rfl (.inl rfl) (DV.vl (dv_get1 hu (DP.rd (dp_fld G.fl_Walk_things (DP.rd (dp_var 0 rfl (.inl rfl) rfl rfl)) rfl)) (DP.rd (dp_var 2 rfl (.inl rfl) rfl rfl)) ⟨rfl, rfl, rfl, rfl⟩)))
    (dss_cons (ds_if (dt_isN (DP.rd (dp_var 3 rfl (.inl rfl) rfl rfl)) (DV.rd dv_non))
    (dss_one (ds_raiseB G.x_Missing hc rfl))
    dss_nil)
    (dss_one (ds_if (dt_eq hu (DP.rd (dp_ix hu (DP.rd (dp_var 3 rfl (.inl rfl) rfl rfl)) (DV.rd dv_int) (fun _ _ => rfl))) (DV.rd (dv_gstr rfl G.c_LINK rfl)))
    (dss_one (ds_dropG (dg_methB (ps' := _) (kb_Walk_follow G) (hr.mono (by decide)) hc (plc_sl 0 rfl (.inl rfl) rfl rfl) (dak_cons (DP.kp (dp_ix hu (DP.rd (dp_var 3 rfl (.inl rfl) rfl rfl)) (DV.rd dv_int) (fun _ _ => rfl))) dak_nil rfl))))
    (dss_one (ds_if (DTw.pt (dt_and (dt_eq hu (DP.rd (dp_ix hu (DP.rd (dp_var 3 rfl (.inl rfl) rfl rfl)) (DV.rd dv_int) (fun _ _ => rfl))) (DV.rd (dv_gstr rfl G.c_FILE rfl))) (dt_and1 (dt_gt hu (DP.rd (dp_len rfl G.b_len (dar_cons (DP.rd (dp_fld G.fl_Walk_left (DP.rd (dp_var 0 rfl (.inl rfl) rfl rfl)) rfl)) dar_nil rfl))) (DV.rd dv_int)))))
    (dss_one (ds_raiseB G.x_NotFolder hc rfl))
    (dss_one (ds_fldS G.fl_Walk_stands (plc_sl 0 rfl (.inl rfl) rfl rfl) (DP.kp (dp_var 2 rfl (.inl rfl) rfl rfl)))))))))))
theorem kb_Walk_enter (G : GE K mg) : MtB P w K mg base 5 ("Walk" : Str) ("enter" : Str) [("self" : Str), ("name" : Str)] m_Walk_enter := by
  obtain ⟨C, f, fd, Fn, hm, cl, me⟩ := G.d_Walk_enter
  obtain ⟨h1, h2⟩ := fn_bodyMB (P := P) (w := w) (base := base) Fn sc_Walk_enter (by decide) (B_Walk_enter G)
  exact ⟨C, f, fd, hm, cl, me, h1, h2, (Fn.bindsN fun _ _ _ _ _ _ us hl => match us, hl with | [_, _], _ => rfl)⟩
theorem k_Walk_enter (G : GE K mg) : MtD P w K mg base 5 ("Walk" : Str) ("enter" : Str) [("self" : Str), ("name" : Str)] m_Walk_enter := (kb_Walk_enter G).d
theorem B_Walk_go (G : GE K mg) : BodyB P w K mg base 5 N_Walk_go ("Walk.go" : Str) (defScope s_Walk_go) (defBody s_Walk_go) b_Walk_go := by
  intro CX cl pn f cdv A outer s H E hr hc
  have hp : PassesOwn (model P w) (CxB CX cl pn P w K mg base N_Walk_go ("Walk.go" : Str) (defScope s_Walk_go) f cdv A outer s H E).A (CxB CX cl pn P w K mg base N_Walk_go ("Walk.go" : Str) (defScope s_Walk_go) f cdv A outer s H E).env (CxB CX cl pn P w K mg base N_Walk_go ("Walk.go" : Str) (defScope s_Walk_go) f cdv A outer s H E).xe := passes_of rfl
  have hu : (CxB CX cl pn P w K mg base N_Walk_go ("Walk.go" : Str) (defScope s_Walk_go) f cdv A outer s H E).A.units + 64 < cLine := huH hr
  exact (dss_one (ds_while 100000 hp (dt_gt hu (DP.rd (dp_len rfl G.b_len (dar_cons (DP.rd (dp_fld G.fl_Walk_left (DP.rd (dp_var 0 rfl (.inl rfl) rfl rfl)) rfl)) dar_nil rfl))) (DV.rd dv_int))
    (dss_cons (ds_set sc_Walk_go.nd rfl (.inl rfl) (DV.vl (DP.kp (dp_fld G.fl_Walk_stands (DP.rd (dp_var 0 rfl (.inl rfl) rfl rfl)) rfl))))
    (dss_cons (ds_setG sc_Walk_go.nd rfl (.inl rfl) (dg_popAt (plc_fd 0 G.fl_Walk_left rfl (.inl rfl) rfl rfl rfl) dv_int))
    (dss_cons (ds_if (dt_eq hu (DP.rd (dp_var 2 rfl (.inl rfl) rfl rfl)) (DV.rd dv_str))
    (dss_one (ds_fldS G.fl_Walk_stands (plc_sl 0 rfl (.inl rfl) rfl rfl) (DP.kp (dp_callB' (kb_above G) (hr.mono (by decide)) hc rfl (dak_cons (DP.kp (dp_var 1 rfl (.inl rfl) rfl rfl)) dak_nil rfl)))))
    (dss_one (ds_if (dt_ne hu (DP.rd (dp_var 2 rfl (.inl rfl) rfl rfl)) (DV.rd dv_str))
    (dss_one (ds_dropG (dg_methB (ps' := _) (kb_Walk_enter G) (hr.mono (by decide)) hc (plc_sl 0 rfl (.inl rfl) rfl rfl) (dak_cons (DP.kp (dp_var 2 rfl (.inl rfl) rfl rfl)) dak_nil rfl))))
    dss_nil)))
    (dss_one (ds_dropG (dg_append (plc_fd 0 G.fl_Walk_steps rfl (.inl rfl) rfl rfl rfl) (dv_tup (dak_cons (DP.kp (dp_var 1 rfl (.inl rfl) rfl rfl)) (dak_cons (DP.kp (dp_var 2 rfl (.inl rfl) rfl rfl)) (dak_cons (DP.kp (dp_fld G.fl_Walk_stands (DP.rd (dp_var 0 rfl (.inl rfl) rfl rfl)) rfl)) dak_nil rfl) rfl) rfl))))))))))
theorem kb_Walk_go (G : GE K mg) : MtB P w K mg base 6 ("Walk" : Str) ("go" : Str) [("self" : Str)] m_Walk_go := by
  obtain ⟨C, f, fd, Fn, hm, cl, me⟩ := G.d_Walk_go
  obtain ⟨h1, h2⟩ := fn_bodyMB (P := P) (w := w) (base := base) Fn sc_Walk_go (by decide) (B_Walk_go G)
  exact ⟨C, f, fd, hm, cl, me, h1, h2, (Fn.bindsN fun _ _ _ _ _ _ us hl => match us, hl with | [_], _ => rfl)⟩
theorem k_Walk_go (G : GE K mg) : MtD P w K mg base 6 ("Walk" : Str) ("go" : Str) [("self" : Str)] m_Walk_go := (kb_Walk_go G).d
theorem B_walked (G : GE K mg) : Body P w K mg base 6 N_walked ("walked" : Str) (defScope s_walked) (defBody s_walked) b_walked := by
  intro f cdv A outer s H E hr
  have tk : L2N.Takes (CxD P w K mg base N_walked ("walked" : Str) (defScope s_walked) f cdv A outer s H E) (WofE E) := L2N.takes_of rfl rfl rfl rfl
  have hp : PassesOwn (model P w) (CxD P w K mg base N_walked ("walked" : Str) (defScope s_walked) f cdv A outer s H E).A (CxD P w K mg base N_walked ("walked" : Str) (defScope s_walked) f cdv A outer s H E).env (CxD P w K mg base N_walked ("walked" : Str) (defScope s_walked) f cdv A outer s H E).xe := passes_of rfl
  have hu : (CxD P w K mg base N_walked ("walked" : Str) (defScope s_walked) f cdv A outer s H E).A.units + 64 < cLine := hu_of hr
  exact (dss_cons (ds_unp rfl (pgi_cons sc_walked.nd rfl (.inl rfl) (pgi_cons sc_walked.nd rfl (.inl rfl) pgi_nil)) (DP.kp (dp_call (k_words_of G) (hr.mono (by decide)) tk rfl (dak_cons (DP.kp (dp_var 2 rfl (.inl rfl) rfl rfl)) dak_nil rfl))))
    (dss_cons (ds_set sc_walked.nd rfl (.inl rfl) (dp_make (k_Walk_init G) (hr.mono (by decide)) rfl (dak_cons (DP.kp (dp_var 0 rfl (.inl rfl) rfl rfl)) (dak_cons (DP.kp (dp_var 1 rfl (.inl rfl) rfl rfl)) dak_nil rfl) rfl)))
    (dss_cons (ds_dropG (dg_meth (pl := _) (k_Walk_set_out G) (hr.mono (by decide)) tk (plc_sl 5 rfl (.inl rfl) rfl rfl) (dak_cons (DP.kp (dp_var 3 rfl (.inl rfl) rfl rfl)) (dak_cons (DP.kp (dp_var 4 rfl (.inl rfl) rfl rfl)) dak_nil rfl) rfl)))
    (dss_cons (ds_dropG (dg_meth0 (pl := _) (k_Walk_go G) (hr.mono (by decide)) tk (plc_sl 5 rfl (.inl rfl) rfl rfl)))
    (dss_one (ds_retV rfl (.inl rfl) rfl rfl))))))
theorem k_walked (G : GE K mg) : FnD P w K mg base 7 ("walked" : Str) [("tree" : Str), ("at" : Str), ("text" : Str)] m_walked := by
  obtain ⟨f, fd, Fn, hm, hk⟩ := G.d_walked
  exact ⟨f, fd, fn_body Fn sc_walked (by decide) (B_walked G), hm, hk, (Fn.bindsN fun _ _ _ _ _ _ us hl => match us, hl with | [_, _, _], _ => rfl)⟩
theorem B_find_way (G : GE K mg) : Body P w K mg base 7 N_find_way ("find_way" : Str) (defScope s_find_way) (defBody s_find_way) b_find_way := by
  intro f cdv A outer s H E hr
  have tk : L2N.Takes (CxD P w K mg base N_find_way ("find_way" : Str) (defScope s_find_way) f cdv A outer s H E) (WofE E) := L2N.takes_of rfl rfl rfl rfl
  have hp : PassesOwn (model P w) (CxD P w K mg base N_find_way ("find_way" : Str) (defScope s_find_way) f cdv A outer s H E).A (CxD P w K mg base N_find_way ("find_way" : Str) (defScope s_find_way) f cdv A outer s H E).env (CxD P w K mg base N_find_way ("find_way" : Str) (defScope s_find_way) f cdv A outer s H E).xe := passes_of rfl
  have hu : (CxD P w K mg base N_find_way ("find_way" : Str) (defScope s_find_way) f cdv A outer s H E).A.units + 64 < cLine := hu_of hr
  exact (dss_one (ds_ret (dp_fld G.fl_Walk_stands (DP.rd (dp_call (k_walked G) (hr.mono (by decide)) tk rfl (dak_cons (DP.kp (dp_var 0 rfl (.inl rfl) rfl rfl)) (dak_cons (DP.kp (dp_var 1 rfl (.inl rfl) rfl rfl)) (dak_cons (DP.kp (dp_var 2 rfl (.inl rfl) rfl rfl)) dak_nil rfl) rfl) rfl))) rfl)))
theorem k_find_way (G : GE K mg) : FnD P w K mg base 8 ("find_way" : Str) [("tree" : Str), ("at" : Str), ("text" : Str)] m_find_way := by
  obtain ⟨f, fd, Fn, hm, hk⟩ := G.d_find_way
  exact ⟨f, fd, fn_body Fn sc_find_way (by decide) (B_find_way G), hm, hk, (Fn.bindsN fun _ _ _ _ _ _ us hl => match us, hl with | [_, _, _], _ => rfl)⟩
theorem B_Walk_come_to (G : GE K mg) : BodyB P w K mg base 6 N_Walk_come_to ("Walk.come_to" : Str) (defScope s_Walk_come_to) (defBody s_Walk_come_to) b_Walk_come_to := by
  intro CX cl pn f cdv A outer s H E hr hc
  have hp : PassesOwn (model P w) (CxB CX cl pn P w K mg base N_Walk_come_to ("Walk.come_to" : Str) (defScope s_Walk_come_to) f cdv A outer s H E).A (CxB CX cl pn P w K mg base N_Walk_come_to ("Walk.come_to" : Str) (defScope s_Walk_come_to) f cdv A outer s H E).env (CxB CX cl pn P w K mg base N_Walk_come_to ("Walk.come_to" : Str) (defScope s_Walk_come_to) f cdv A outer s H E).xe := passes_of rfl
  have hu : (CxB CX cl pn P w K mg base N_Walk_come_to ("Walk.come_to" : Str) (defScope s_Walk_come_to) f cdv A outer s H E).A.units + 64 < cLine := huH hr
  exact (dss_cons (ds_if (DTw.pt (dt_or (dt_eq hu (DP.rd (dp_len rfl G.b_len (dar_cons (DP.rd (dp_var 2 rfl (.inl rfl) rfl rfl)) dar_nil rfl))) (DV.rd dv_int)) (dt_or1 (dt_not (dt_tru (DP.rd (dp_callB' (kb_is_name G) (hr.mono (by decide)) hc rfl (dak_cons (DP.kp (dp_ix hu (DP.rd (dp_var 2 rfl (.inl rfl) rfl rfl)) (DV.rd (dv_neg (DV.rd dv_int))) (fun _ _ => rfl))) dak_nil rfl))))))))
    (dss_one (ds_raiseB G.x_NoPlace hc rfl))
    dss_nil)
    (dss_cons (ds_dropG (dg_methB (ps' := _) (kb_Walk_set_out G) (hr.mono (by decide)) hc (plc_sl 0 rfl (.inl rfl) rfl rfl) (dak_cons (DP.kp (dp_var 1 rfl (.inl rfl) rfl rfl)) (dak_cons (DP.kp (dp_slice (DP.rd (dp_var 2 rfl (.inl rfl) rfl rfl)) do_none (do_some (DV.rd (dv_neg (DV.rd dv_int)))))) dak_nil rfl) rfl)))
    (dss_cons (ds_dropG (dg_meth0B (ps' := _) (kb_Walk_go G) (hr.mono (by decide)) hc (plc_sl 0 rfl (.inl rfl) rfl rfl)))
    (dss_cons (ds_set sc_Walk_come_to.nd rfl (.inl rfl) (DV.vl (dv_get1 hu (DP.rd (dp_fld G.fl_Walk_things (DP.rd (dp_var 0 rfl (.inl rfl) rfl rfl)) rfl)) (DP.rd (dp_fld G.fl_Walk_stands (DP.rd (dp_var 0 rfl (.inl rfl) rfl rfl)) rfl)) ⟨rfl, rfl, rfl, rfl⟩)))
    (dss_cons (ds_if (DTw.pt (dt_and (dt_notN (DP.rd (dp_var 3 rfl (.inl rfl) rfl rfl)) (DV.rd dv_non)) (dt_and1 (dt_ne hu (DP.rd (dp_ix hu (DP.rd (dp_var 3 rfl (.inl rfl) rfl rfl)) (DV.rd dv_int) (fun _ _ => rfl))) (DV.rd (dv_gstr rfl G.c_FOLDER rfl))))))
    (dss_one (ds_raiseB G.x_NotFolder hc rfl))
    dss_nil)
    (dss_one (ds_ret (dp_add (DP.rd (dp_fld G.fl_Walk_stands (DP.rd (dp_var 0 rfl (.inl rfl) rfl rfl)) rfl)) (DV.rd (dv_tup (dak_cons (DP.kp (dp_ix hu (DP.rd (dp_var 2 rfl (.inl rfl) rfl rfl)) (DV.rd (dv_neg (DV.rd dv_int))) (fun _ _ => rfl))) dak_nil rfl)))))))))))
theorem kb_Walk_come_to (G : GE K mg) : MtB P w K mg base 7 ("Walk" : Str) ("come_to" : Str) [("self" : Str), ("rooted" : Str), ("words" : Str)] m_Walk_come_to := by
  obtain ⟨C, f, fd, Fn, hm, cl, me⟩ := G.d_Walk_come_to
  obtain ⟨h1, h2⟩ := fn_bodyMB (P := P) (w := w) (base := base) Fn sc_Walk_come_to (by decide) (B_Walk_come_to G)
  exact ⟨C, f, fd, hm, cl, me, h1, h2, (Fn.bindsN fun _ _ _ _ _ _ us hl => match us, hl with | [_, _, _], _ => rfl)⟩
theorem k_Walk_come_to (G : GE K mg) : MtD P w K mg base 7 ("Walk" : Str) ("come_to" : Str) [("self" : Str), ("rooted" : Str), ("words" : Str)] m_Walk_come_to := (kb_Walk_come_to G).d
theorem B_place_of (G : GE K mg) : BodyB P w K mg base 7 N_place_of ("place_of" : Str) (defScope s_place_of) (defBody s_place_of) b_place_of := by
  intro CX cl pn f cdv A outer s H E hr hc
  have hp : PassesOwn (model P w) (CxB CX cl pn P w K mg base N_place_of ("place_of" : Str) (defScope s_place_of) f cdv A outer s H E).A (CxB CX cl pn P w K mg base N_place_of ("place_of" : Str) (defScope s_place_of) f cdv A outer s H E).env (CxB CX cl pn P w K mg base N_place_of ("place_of" : Str) (defScope s_place_of) f cdv A outer s H E).xe := passes_of rfl
  have hu : (CxB CX cl pn P w K mg base N_place_of ("place_of" : Str) (defScope s_place_of) f cdv A outer s H E).A.units + 64 < cLine := huH hr
  exact (dss_cons (ds_unpB hc (pgi_cons sc_place_of.nd rfl (.inl rfl) (pgi_cons sc_place_of.nd rfl (.inl rfl) pgi_nil)) (DP.kp (dp_callB' (kb_words_of G) (hr.mono (by decide)) hc rfl (dak_cons (DP.kp (dp_var 2 rfl (.inl rfl) rfl rfl)) dak_nil rfl))))
    (dss_one (ds_ret (dp_tmpB (ps' := _) (kb_Walk_come_to G) (hr.mono (by decide)) hc (dp_makeB (kb_Walk_init G) (hr.mono (by decide)) hc rfl (dak_cons (DP.kp (dp_var 0 rfl (.inl rfl) rfl rfl)) (dak_cons (DP.kp (dp_var 1 rfl (.inl rfl) rfl rfl)) dak_nil rfl) rfl)) (dak_cons (DP.kp (dp_var 3 rfl (.inl rfl) rfl rfl)) (dak_cons (DP.kp (dp_var 4 rfl (.inl rfl) rfl rfl)) dak_nil rfl) rfl)))))
theorem kb_place_of (G : GE K mg) : FnB P w K mg base 8 ("place_of" : Str) [("tree" : Str), ("at" : Str), ("text" : Str)] m_place_of := by
  obtain ⟨f, fd, Fn, hm, hk⟩ := G.d_place_of
  obtain ⟨h1, h2⟩ := fn_bodyB (P := P) (w := w) (base := base) Fn sc_place_of (by decide) (B_place_of G)
  exact ⟨f, fd, h1, h2, hm, hk, (Fn.bindsN fun _ _ _ _ _ _ us hl => match us, hl with | [_, _, _], _ => rfl)⟩
theorem k_place_of (G : GE K mg) : FnD P w K mg base 8 ("place_of" : Str) [("tree" : Str), ("at" : Str), ("text" : Str)] m_place_of := (kb_place_of G).d
theorem B_l_met (G : GE K mg) : Body P w K mg base 8 N_l_met ("_law_met" : Str) (defScope s_l_met) (defBody s_l_met) b_l_met := by
  intro f cdv A outer s H E hr
  have tk : L2N.Takes (CxD P w K mg base N_l_met ("_law_met" : Str) (defScope s_l_met) f cdv A outer s H E) (WofE E) := L2N.takes_of rfl rfl rfl rfl
  have hp : PassesOwn (model P w) (CxD P w K mg base N_l_met ("_law_met" : Str) (defScope s_l_met) f cdv A outer s H E).A (CxD P w K mg base N_l_met ("_law_met" : Str) (defScope s_l_met) f cdv A outer s H E).env (CxD P w K mg base N_l_met ("_law_met" : Str) (defScope s_l_met) f cdv A outer s H E).xe := passes_of rfl
  have hu : (CxD P w K mg base N_l_met ("_law_met" : Str) (defScope s_l_met) f cdv A outer s H E).A.units + 64 < cLine := hu_of hr
  exact (dss_cons (ds_set sc_l_met.nd rfl (.inl rfl) (DV.vl (DP.kp (dp_slice (DP.rd (dp_var 2 rfl (.inl rfl) rfl rfl)) do_none (do_some (DP.rd (dp_var 3 rfl (.inl rfl) rfl rfl)))))))
    (dss_cons (ds_set sc_l_met.nd rfl (.inl rfl) (DV.vl (DP.kp (dp_join (DV.rd dv_str) (DP.rd (dp_slice (DP.rd (dp_var 2 rfl (.inl rfl) rfl rfl)) (do_some (DP.rd (dp_var 3 rfl (.inl rfl) rfl rfl))) do_none))))))
    (dss_cons (ds_set sc_l_met.nd rfl (.inl rfl) (DV.vl (DP.kp (dp_add (DV.rd dv_str) (DP.rd (dp_join (DV.rd dv_str) (DP.rd (dp_var 2 rfl (.inl rfl) rfl rfl))))))))
    (dss_cons (ds_if (DTw.pt (dt_or (dt_not (dt_tru (DP.rd (dp_call (k_l_is_way G) (hr.mono (by decide)) tk rfl (dak_cons (DP.kp (dp_call (k_place_of G) (hr.mono (by decide)) tk rfl (dak_cons (DP.kp (dp_var 0 rfl (.inl rfl) rfl rfl)) (dak_cons (DP.kp (dp_var 4 rfl (.inl rfl) rfl rfl)) (dak_cons (DP.kp (dp_var 5 rfl (.inl rfl) rfl rfl)) dak_nil rfl) rfl) rfl))) (dak_cons (DP.kp (dp_var 2 rfl (.inl rfl) rfl rfl)) dak_nil rfl) rfl))))) (dt_or1 (dt_not (dt_tru (DP.rd (dp_call (k_l_is_way G) (hr.mono (by decide)) tk rfl (dak_cons (DP.kp (dp_call (k_place_of G) (hr.mono (by decide)) tk rfl (dak_cons (DP.kp (dp_var 0 rfl (.inl rfl) rfl rfl)) (dak_cons (DP.kp (dp_var 4 rfl (.inl rfl) rfl rfl)) (dak_cons (DP.kp (dp_var 6 rfl (.inl rfl) rfl rfl)) dak_nil rfl) rfl) rfl))) (dak_cons (DP.kp (dp_var 2 rfl (.inl rfl) rfl rfl)) dak_nil rfl) rfl))))))))
    (dss_one (ds_ret (DV.vl dv_bl)))
    dss_nil)
    (dss_cons (ds_if (dt_eq hu (DP.rd (dp_ix hu (DP.rd (dp_ix hu (DP.rd (dp_var 1 rfl (.inl rfl) rfl rfl)) (DP.rd (dp_var 2 rfl (.inl rfl) rfl rfl)) (fun _ _ => rfl))) (DV.rd dv_int) (fun _ _ => rfl))) (DV.rd dv_str))
    (dss_one (ds_ret (DV.vl dv_bl)))
    dss_nil)
    (dss_one (ds_ret (DV.vl (dv_and (DP.rd (dp_call (k_l_is_way G) (hr.mono (by decide)) tk rfl (dak_cons (DP.kp (dp_call (k_find_way G) (hr.mono (by decide)) tk rfl (dak_cons (DP.kp (dp_var 0 rfl (.inl rfl) rfl rfl)) (dak_cons (DP.kp (dp_var 4 rfl (.inl rfl) rfl rfl)) (dak_cons (DP.kp (dp_var 5 rfl (.inl rfl) rfl rfl)) dak_nil rfl) rfl) rfl))) (dak_cons (DP.kp (dp_var 2 rfl (.inl rfl) rfl rfl)) dak_nil rfl) rfl))) (dv_one (DP.kp (dp_call (k_l_is_way G) (hr.mono (by decide)) tk rfl (dak_cons (DP.kp (dp_call (k_find_way G) (hr.mono (by decide)) tk rfl (dak_cons (DP.kp (dp_var 0 rfl (.inl rfl) rfl rfl)) (dak_cons (DP.kp (dp_var 4 rfl (.inl rfl) rfl rfl)) (dak_cons (DP.kp (dp_var 6 rfl (.inl rfl) rfl rfl)) dak_nil rfl) rfl) rfl))) (dak_cons (DP.kp (dp_var 2 rfl (.inl rfl) rfl rfl)) dak_nil rfl) rfl)))))))))))))
theorem k_l_met (G : GE K mg) : FnD P w K mg base 9 ("_law_met" : Str) [("_law_tree" : Str), ("_law_things" : Str), ("_law_way" : Str), ("_law_cut" : Str)] m_l_met := by
  obtain ⟨f, fd, Fn, hm, hk⟩ := G.d_l_met
  exact ⟨f, fd, fn_body Fn sc_l_met (by decide) (B_l_met G), hm, hk, (Fn.bindsN fun _ _ _ _ _ _ us hl => match us, hl with | [_, _, _, _], _ => rfl)⟩
theorem B_l_missing (G : GE K mg) : Body P w K mg base 8 N_l_missing ("_law_missing" : Str) (defScope s_l_missing) (defBody s_l_missing) b_l_missing := by
  intro f cdv A outer s H E hr
  have tk : L2N.Takes (CxD P w K mg base N_l_missing ("_law_missing" : Str) (defScope s_l_missing) f cdv A outer s H E) (WofE E) := L2N.takes_of rfl rfl rfl rfl
  have hp : PassesOwn (model P w) (CxD P w K mg base N_l_missing ("_law_missing" : Str) (defScope s_l_missing) f cdv A outer s H E).A (CxD P w K mg base N_l_missing ("_law_missing" : Str) (defScope s_l_missing) f cdv A outer s H E).env (CxD P w K mg base N_l_missing ("_law_missing" : Str) (defScope s_l_missing) f cdv A outer s H E).xe := passes_of rfl
  have hu : (CxD P w K mg base N_l_missing ("_law_missing" : Str) (defScope s_l_missing) f cdv A outer s H E).A.units + 64 < cLine := hu_of hr
  exact (dss_cons (ds_tryAs rfl rfl sc_l_missing.nd rfl rfl tk G.exm_0 ⟨rfl, rfl, .inl G.n_GlassError⟩ (fun W pn xe tk1 hp => (dss_one (ds_drop (dp_call (k_find_way G) (hr.mono (by decide)) tk1 rfl (dak_cons (DP.kp (dp_var 0 rfl (.inl rfl) rfl rfl)) (dak_cons (DP.kp (dp_var 1 rfl (.inl rfl) rfl rfl)) (dak_cons (DP.kp (dp_var 2 rfl (.inl rfl) rfl rfl)) dak_nil rfl) rfl) rfl))))) (fun c a oe pn hc hz hf => (fun hcs hrs => (dse_if (DTwe.pt (dte_or (dte_tru (dve_is2 (G.xi c hc) hz hf G.nc_NotFolder G.nc_NoWay (G.ki_NotFolder c hc) (G.ki_NoWay c hc) rfl rfl rfl rfl rfl (.inl rfl) rfl rfl rfl G.b_isinstance)) (dte_or1 (dte_not (dte_tru (dve_isT (t := ("ValueError" : Str)) (T := "ValueError") (G.xi c hc) hz hf (G.ki_ValueError c hc) rfl G.b_ValueError rfl (by decide) rfl rfl (.inl rfl) rfl rfl rfl G.b_isinstance)))))) (dss_one (ds_ret (DV.vl dv_bl))) (dse_ret (dve_and (dve_isC (G.xi c hc) hz hf G.nc_Missing (G.ki_Missing c hc) rfl rfl rfl (.inl rfl) rfl rfl rfl G.b_isinstance) (dve_one (DV.exc (DP.kp (dp_callB' (kb_l_is_way G) (hrs.mono (by decide)) hcs rfl (dak_cons (DP.kp (dp_callB' (kb_place_of G) (hrs.mono (by decide)) hcs rfl (dak_cons (DP.kp (dp_var 0 rfl (.inl rfl) rfl rfl)) (dak_cons (DP.kp (dp_var 1 rfl (.inl rfl) rfl rfl)) (dak_cons (DP.kp (dp_var 2 rfl (.inl rfl) rfl rfl)) dak_nil rfl) rfl) rfl))) (dak_cons (DP.kp (dp_add (DP.rd (dp_var 1 rfl (.inl rfl) rfl rfl)) (DV.rd (dv_tup (dak_cons (DP.kp (dp_var 2 rfl (.inl rfl) rfl rfl)) dak_nil rfl))))) dak_nil rfl) rfl))))))))) (suite_hot hz hf) (roomH_suite (L2H.roomH_of hr))))
    (dss_one (ds_ret (DV.vl dv_bl))))
theorem k_l_missing (G : GE K mg) : FnD P w K mg base 9 ("_law_missing" : Str) [("_law_tree" : Str), ("_law_over" : Str), ("_law_name" : Str)] m_l_missing := by
  obtain ⟨f, fd, Fn, hm, hk⟩ := G.d_l_missing
  exact ⟨f, fd, fn_body Fn sc_l_missing (by decide) (B_l_missing G), hm, hk, (Fn.bindsN fun _ _ _ _ _ _ us hl => match us, hl with | [_, _, _], _ => rfl)⟩
theorem B_law (G : GE K mg) : Body P w K mg base 9 N_law ("law" : Str) (defScope s_law) (defBody s_law) b_law := by
  intro f cdv A outer s H E hr
  have tk : L2N.Takes (CxD P w K mg base N_law ("law" : Str) (defScope s_law) f cdv A outer s H E) (WofE E) := L2N.takes_of rfl rfl rfl rfl
  have hp : PassesOwn (model P w) (CxD P w K mg base N_law ("law" : Str) (defScope s_law) f cdv A outer s H E).A (CxD P w K mg base N_law ("law" : Str) (defScope s_law) f cdv A outer s H E).env (CxD P w K mg base N_law ("law" : Str) (defScope s_law) f cdv A outer s H E).xe := passes_of rfl
  have hu : (CxD P w K mg base N_law ("law" : Str) (defScope s_law) f cdv A outer s H E).A.units + 64 < cLine := hu_of hr
  exact (dss_cons (ds_set sc_law.nd rfl (.inl rfl) (DV.vl (DP.kp (dp_call (k_l_cell_at G) (hr.mono (by decide)) tk rfl (dak_cons (DP.kp (dp_var 0 rfl (.inl rfl) rfl rfl)) (dak_cons dv_int dak_nil rfl) rfl)))))
    (dss_cons (ds_set sc_law.nd rfl (.inl rfl) (DV.vl (DP.kp (dp_call (k_l_cell_at G) (hr.mono (by decide)) tk rfl (dak_cons (DP.kp (dp_var 0 rfl (.inl rfl) rfl rfl)) (dak_cons dv_int dak_nil rfl) rfl)))))
    (dss_cons (ds_set sc_law.nd rfl (.inl rfl) (DV.vl (DP.kp (dp_call (k_l_mixed G) (hr.mono (by decide)) tk rfl (dak_cons (DP.kp (dp_var 2 rfl (.inl rfl) rfl rfl)) (dak_cons dv_int (dak_cons dv_int dak_nil rfl) rfl) rfl)))))
    (dss_cons (ds_if (dt_eq hu (DP.rd (dp_call (k_l_mixed G) (hr.mono (by decide)) tk rfl (dak_cons (DP.kp (dp_var 2 rfl (.inl rfl) rfl rfl)) (dak_cons dv_int (dak_cons dv_int dak_nil rfl) rfl) rfl))) (DV.rd dv_int))
    (dss_one (ds_set sc_law.nd rfl (.inl rfl) (DV.vl (DP.kp (dp_call (k_l_mixed G) (hr.mono (by decide)) tk rfl (dak_cons (DP.kp (dp_var 2 rfl (.inl rfl) rfl rfl)) (dak_cons dv_int (dak_cons dv_int dak_nil rfl) rfl) rfl))))))
    dss_nil)
    (dss_cons (ds_set sc_law.nd rfl (.inr rfl) (DV.vl (DP.kp (dp_call (k_l_hall_by G) (hr.mono (by decide)) tk rfl (dak_cons (DP.kp (dp_call (k_l_cells G) (hr.mono (by decide)) tk rfl (dak_cons (DP.kp (dp_var 0 rfl (.inl rfl) rfl rfl)) (dak_cons dv_int (dak_cons dv_int (dak_cons (DP.kp (dp_var 3 rfl (.inl rfl) rfl rfl)) dak_nil rfl) rfl) rfl) rfl))) (dak_cons (DP.kp (dp_var 1 rfl (.inl rfl) rfl rfl)) dak_nil rfl) rfl)))))
    (dss_cons (ds_set sc_law.nd rfl (.inl rfl) (DV.vl (DP.kp (dp_call (k_l_tree_of G) (hr.mono (by decide)) tk rfl (dak_cons (DP.kp (dp_var 4 rfl (.inr (.inl rfl)) rfl rfl)) dak_nil rfl)))))
    (dss_cons (ds_set sc_law.nd rfl (.inl rfl) (DV.vl (DP.kp (dp_list rfl rfl G.b_list (dar_cons (DP.rd (dp_var 5 rfl (.inl rfl) rfl rfl)) dar_nil rfl)))))
    (dss_cons (ds_for hp rfl sc_law.nd rfl (.inl rfl) (di_any (DP.kp (dp_list rfl rfl G.b_list (dar_cons (DP.rd (dp_var 4 rfl (.inr (.inl rfl)) rfl rfl)) dar_nil rfl))))
    (dss_one (ds_if (dt_not (dt_tru (DP.rd (dp_call (k_l_met G) (hr.mono (by decide)) tk rfl (dak_cons (DP.kp (dp_var 6 rfl (.inl rfl) rfl rfl)) (dak_cons (DP.kp (dp_var 4 rfl (.inr (.inl rfl)) rfl rfl)) (dak_cons (DP.kp (dp_var 7 rfl (.inl rfl) rfl rfl)) (dak_cons (DP.kp (dp_mod (DP.rd (dp_call (k_l_cell_at G) (hr.mono (by decide)) tk rfl (dak_cons (DP.kp (dp_var 0 rfl (.inl rfl) rfl rfl)) (dak_cons dv_int dak_nil rfl) rfl))) (DP.rd (dp_len rfl G.b_len (dar_cons (DP.rd (dp_var 7 rfl (.inl rfl) rfl rfl)) dar_nil rfl))))) dak_nil rfl) rfl) rfl) rfl)))))
    (dss_one (ds_ret (DV.vl dv_bl)))
    dss_nil)))
    (dss_cons (ds_set sc_law.nd rfl (.inl rfl) (DV.vl (DP.kp (dp_add (DP.rd (dp_lst (dak_cons (dv_tup dak_nil) dak_nil rfl))) (DP.rd (dp_lcK (own := [(("_law_way" : Str), 7)]) (k := 7) 4 rfl sc_law.nd (blkOk_by rfl) rfl (.inr (.inl rfl)) rfl rfl (fun _ _ _ _ _ => pg_name sc_law.nd rfl (.inl rfl)) (fun _ _ _ _ _ => (dts_one (dt_eq hu (DP.rd (dp_ix hu (DP.rd (dp_ix hu (DP.rd (dp_var 4 rfl (.inr (.inl rfl)) rfl rfl)) (DP.rd (dp_var 7 rfl (.inl rfl) rfl rfl)) (fun _ _ => rfl))) (DV.rd dv_int) (fun _ _ => rfl))) (DV.rd dv_str)))) (fun _ _ _ _ _ => (DP.kp (dp_var 7 rfl (.inl rfl) rfl rfl)))))))))
    (dss_cons (ds_set sc_law.nd rfl (.inl rfl) (DV.vl (DP.kp (dp_ix hu (DP.rd (dp_var 8 rfl (.inl rfl) rfl rfl)) (DP.rd (dp_call (k_l_mixed G) (hr.mono (by decide)) tk rfl (dak_cons (DP.kp (dp_var 2 rfl (.inl rfl) rfl rfl)) (dak_cons dv_int (dak_cons (DP.kp (dp_len rfl G.b_len (dar_cons (DP.rd (dp_var 8 rfl (.inl rfl) rfl rfl)) dar_nil rfl))) dak_nil rfl) rfl) rfl))) (fun _ _ => rfl)))))
    (dss_cons (ds_if (DTw.pt (dt_or (dt_not (dt_tru (DP.rd (dp_call (k_l_is_way G) (hr.mono (by decide)) tk rfl (dak_cons (DP.kp (dp_call (k_find_way G) (hr.mono (by decide)) tk rfl (dak_cons (DP.kp (dp_var 6 rfl (.inl rfl) rfl rfl)) (dak_cons (DP.kp (dp_var 9 rfl (.inl rfl) rfl rfl)) (dak_cons dv_str dak_nil rfl) rfl) rfl))) (dak_cons (DP.kp (dp_var 9 rfl (.inl rfl) rfl rfl)) dak_nil rfl) rfl))))) (dt_or1 (dt_not (dt_tru (DP.rd (dp_call (k_l_is_way G) (hr.mono (by decide)) tk rfl (dak_cons (DP.kp (dp_call (k_find_way G) (hr.mono (by decide)) tk rfl (dak_cons (DP.kp (dp_var 6 rfl (.inl rfl) rfl rfl)) (dak_cons (DP.kp (dp_var 9 rfl (.inl rfl) rfl rfl)) (dak_cons dv_str dak_nil rfl) rfl) rfl))) (dak_cons (DP.kp (dp_slice (DP.rd (dp_var 9 rfl (.inl rfl) rfl rfl)) do_none (do_some (DV.rd (dv_neg (DV.rd dv_int)))))) dak_nil rfl) rfl))))))))
    (dss_one (ds_ret (DV.vl dv_bl)))
    dss_nil)
    (dss_cons (ds_set sc_law.nd rfl (.inl rfl) (DV.vl (DP.kp (dp_call (k_l_name_by G) (hr.mono (by decide)) tk rfl (dak_cons (DP.kp (dp_var 1 rfl (.inl rfl) rfl rfl)) (dak_cons (DP.kp (dp_call (k_l_mixed G) (hr.mono (by decide)) tk rfl (dak_cons (DP.kp (dp_var 2 rfl (.inl rfl) rfl rfl)) (dak_cons dv_int (dak_cons dv_int dak_nil rfl) rfl) rfl))) dak_nil rfl) rfl)))))
    (dss_cons (ds_if (DTw.pt (dt_and (dt_nin hu (DP.rd (dp_add (DP.rd (dp_var 9 rfl (.inl rfl) rfl rfl)) (DV.rd (dv_tup (dak_cons (DP.kp (dp_var 10 rfl (.inl rfl) rfl rfl)) dak_nil rfl))))) (DP.rd (dp_var 4 rfl (.inr (.inl rfl)) rfl rfl)) rfl) (dt_and1 (dt_not (dt_tru (DP.rd (dp_call (k_l_missing G) (hr.mono (by decide)) tk rfl (dak_cons (DP.kp (dp_var 6 rfl (.inl rfl) rfl rfl)) (dak_cons (DP.kp (dp_var 9 rfl (.inl rfl) rfl rfl)) (dak_cons (DP.kp (dp_var 10 rfl (.inl rfl) rfl rfl)) dak_nil rfl) rfl) rfl))))))))
    (dss_one (ds_ret (DV.vl dv_bl)))
    dss_nil)
    (dss_one (ds_ret (DV.vl (dv_and (DP.rd (dp_call (k_l_is_way G) (hr.mono (by decide)) tk rfl (dak_cons (DP.kp (dp_call (k_find_way G) (hr.mono (by decide)) tk rfl (dak_cons (DP.kp (dp_var 6 rfl (.inl rfl) rfl rfl)) (dak_cons (DP.kp (dp_var 9 rfl (.inl rfl) rfl rfl)) (dak_cons dv_str dak_nil rfl) rfl) rfl))) (dak_cons (dv_tup dak_nil) dak_nil rfl) rfl))) (dv_one (DP.kp (dp_eq hu (DP.rd (dp_var 6 rfl (.inl rfl) rfl rfl)) (DP.rd (dp_var 5 rfl (.inl rfl) rfl rfl))))))))))))))))))))))
theorem k_law (G : GE K mg) : FnD P w K mg base 10 ("law" : Str) [("_law_script" : Str)] m_law := by
  obtain ⟨f, fd, Fn, hm, hk⟩ := G.d_law
  exact ⟨f, fd, fn_body Fn sc_law (by decide) (B_law G), hm, hk, (Fn.bindsN fun _ _ _ _ _ _ us hl => match us, hl with | [_], _ => rfl)⟩
end
end Lk50
end

section
set_option autoImplicit false
set_option relaxedAutoImplicit false
namespace DL
open PySem PySem.Spec PyProof.Rows L2
/-! the combinators, applied -/
@[simp] theorem vR_ap (i : Nat) (τ : Tau) : vR i τ = (match τ[i]? with | some (.sh d) => R.ok (Sl.sh d) | some (.ow d) => .ok (.bw d) | some (.io d) => .ok (.bw d) | _ => .bad) := rfl
@[simp] theorem vC_ap (d : D) (τ : Tau) : vC d τ = R.ok d := rfl
@[simp] theorem kp_ap (f : Tau → R Sl) (τ : Tau) : kp f τ = (f τ).bind fun s => ofO s.data := rfl
@[simp] theorem rd_ap (f : Tau → R Sl) (τ : Tau) : rd f τ = (f τ).bind fun s => ofO s.view := rfl
@[simp] theorem vl_ap (f : Tau → R D) (τ : Tau) : vl f τ = (f τ).bind fun d => .ok (.sh d) := rfl
@[simp] theorem op2_ap (op : D → D → R Sl) (f g : Tau → R D) (τ : Tau) : op2 op f g τ = (f τ).bind fun d => (g τ).bind fun e => op d e := rfl
@[simp] theorem negD_ap (f : Tau → R D) (τ : Tau) : negD f τ = (f τ).bind fun d => (match d with | .int i => R.ok (D.int (-i)) | _ => .bad) := rfl
@[simp] theorem oN_ap (τ : Tau) : oN τ = R.ok none := rfl
@[simp] theorem oS_ap (f : Tau → R D) (τ : Tau) : oS f τ = (f τ).bind fun d => (match d with | .int i => R.ok (some i) | _ => .bad) := rfl
@[simp] theorem sl3_ap (f : Tau → R D) (lo hi : Tau → R (Option Int)) (τ : Tau) : sl3 f lo hi τ = (f τ).bind fun d => (lo τ).bind fun l => (hi τ).bind fun u => slD d l u := rfl
@[simp] theorem aN_ap (τ : Tau) : aN τ = R.ok [] := rfl
@[simp] theorem aC_ap (f : Tau → R D) (r : Tau → R (List D)) (τ : Tau) : aC f r τ = (f τ).bind fun d => (r τ).bind fun ds => .ok (d :: ds) := rfl
@[simp] theorem tupE_ap (f : Tau → R (List D)) (τ : Tau) : tupE f τ = (f τ).bind fun ds => if ds.length ≤ 64 then .ok (.tup ds) else .bad := rfl
@[simp] theorem lstE_ap (f : Tau → R (List D)) (τ : Tau) : lstE f τ = (f τ).bind fun ds => if ds.length ≤ 64 then .ok (.ow (.lst ds)) else .bad := rfl
@[simp] theorem newT_ap (τ : Tau) : newT τ = R.ok (.ow (.dT [])) := rfl
@[simp] theorem cal1_ap (op : List D → R Sl) (f : Tau → R (List D)) (τ : Tau) : cal1 op f τ = (f τ).bind op := rfl
@[simp] theorem sm_ap (op : D → D → R Sl) (g h : Tau → R D) (τ : Tau) : sm op g h τ = (g τ).bind fun d => (ofStr d).bind fun a => (h τ).bind fun e => op (.str a) e := rfl
@[simp] theorem get1_ap (g h : Tau → R D) (τ : Tau) : get1 g h τ = (g τ).bind fun d => (isDict d).bind fun d => (h τ).bind fun k => (dgetD d k).bind fun o => .ok (o.getD .non) := rfl
@[simp] theorem isiD_ap (T : String) (f : Tau → R D) (τ : Tau) : isiD T f τ = (f τ).bind fun d => (match d with | .obj _ _ => .bad | .dS _ => .bad | .dT _ => .bad | d => (match kitB (tyn d) T with | some b => .ok (.bl b) | none => .bad)) := rfl
@[simp] theorem tst_ap (f : Tau → R Sl) (τ : Tau) : tst f τ = (f τ).bind slBl := rfl
@[simp] theorem tru_ap (f : Tau → R D) (τ : Tau) : tru f τ = (f τ).bind truD := rfl
@[simp] theorem notT_ap (t : Tau → R Bool) (τ : Tau) : notT t τ = (t τ).bind fun b => .ok (!b) := rfl
@[simp] theorem andT_ap (t u : Tau → R Bool) (τ : Tau) : andT t u τ = (t τ).bind fun b => if b then u τ else .ok false := rfl
@[simp] theorem orT_ap (t u : Tau → R Bool) (τ : Tau) : orT t u τ = (t τ).bind fun b => if b then .ok true else u τ := rfl
@[simp] theorem andV_ap (f g : Tau → R D) (τ : Tau) : andV f g τ = (f τ).bind fun d => (blOf d).bind fun b => if b then g τ else .ok (.bl false) := rfl
@[simp] theorem orV_ap (f g : Tau → R D) (τ : Tau) : orV f g τ = (f τ).bind fun d => (blOf d).bind fun b => if b then .ok (.bl true) else g τ := rfl
@[simp] theorem isB_ap (b : Bool) (τ : Tau) : isB b τ = R.ok (.bl b) := rfl
@[simp] theorem iA_ap (f : Tau → R D) (τ : Tau) : iA f τ = (f τ).bind itA := rfl
@[simp] theorem iR1_ap (f : Tau → R D) (τ : Tau) : iR1 f τ = (f τ).bind fun d => (match d with | .int j => if -(2 ^ 62) ≤ j ∧ j < 2 ^ 62 then .ok (rngD 0 j.toNat) else .bad | _ => .bad) := rfl
@[simp] theorem iKD_ap (j : Nat) (τ : Tau) : iKD j τ = (match τ[j]? with | some (.sh (.dT kvs)) => R.ok (kvs.map fun kv => D.tup (kv.1.map .str)) | _ => .bad) := rfl
@[simp] theorem sNx_ap (τ : Tau) : sNx τ = Fl.nx τ := rfl
@[simp] theorem sSeq_ap (f g : FS) (τ : Tau) : sSeq f g τ = (f τ).seq g := rfl
@[simp] theorem sIf_ap (c : Tau → R Bool) (f g : FS) (τ : Tau) : sIf c f g τ = Fl.of (c τ) τ fun b => if b then f τ else g τ := rfl
@[simp] theorem sDrop_ap (f : Tau → R Sl) (τ : Tau) : sDrop f τ = Fl.of (f τ) τ fun _ => .nx τ := rfl
@[simp] theorem sSet_ap (i : Nat) (f : Tau → R Sl) (τ : Tau) : sSet i f τ = Fl.of (f τ) τ fun s => Fl.put τ i s := rfl
@[simp] theorem sRet_ap (f : Tau → R Sl) (τ : Tau) : sRet f τ = Fl.of (f τ) τ fun s => (match s with | .bw _ => .bad | s => .rt s τ) := rfl
@[simp] theorem sRetV_ap (i : Nat) (τ : Tau) : sRetV i τ = (match τ[i]? with | some (.ow d) => Fl.rt (.ow d) (τ.set i .un) | some (.sh d) => .rt (.sh d) τ | _ => .bad) := rfl
@[simp] theorem sUnp_ap (is : List Nat) (f : Tau → R D) (τ : Tau) : sUnp is f τ = Fl.of (f τ) τ fun d => (match d with | .tup ds => Fl.puts τ is ds | _ => .bad) := rfl
@[simp] theorem sFor_ap (k : Nat) (f : Tau → R (List D)) (b : FS) (τ : Tau) : sFor k f b τ = Fl.of (f τ) τ fun ds => forL k b ds τ := rfl
@[simp] theorem fldE_ap (c f : Str) (g : Tau → R D) (τ : Tau) : fldE c f g τ = (g τ).bind (fldD c f) := rfl
@[simp] theorem appG_ap (p : Plc) (f : Tau → R D) (τ : Tau) : appG p f τ = (match p.get τ with | some (.lst ds) => RG.of (f τ) τ fun d => if ds.length < sizeLine then .ok (.sh .non) (p.put τ (.lst (ds ++ [d]))) else .bad | _ => .bad) := rfl
@[simp] theorem popAtG_ap (p : Plc) (f : Tau → R D) (τ : Tau) : popAtG p f τ = (match p.get τ with | some (.lst ds) => RG.of (f τ) τ fun d => (match d with | .int i => if -(2 ^ 63) ≤ i ∧ i < 2 ^ 63 then (match seqIndex? i ds.length with | some k => (match ds[k]? with | some d => .ok (.sh d) (p.put τ (.lst (ds.eraseIdx k))) | none => .bad) | none => .bad) else .bad | _ => .bad) | _ => .bad) := rfl
@[simp] theorem sDropG_ap (g : Tau → RG) (τ : Tau) : sDropG g τ = (match g τ with | .ok _ τ' => Fl.nx τ' | .er c τ' => .er c τ' | .bad => .bad) := rfl
@[simp] theorem sSetG_ap (i : Nat) (g : Tau → RG) (τ : Tau) : sSetG i g τ = (match g τ with | .ok s τ' => (match τ'[i]? with | some x => if x.isIo || s.isIo || s.isBw then Fl.bad else .nx (τ'.set i s) | none => .bad) | .er c τ' => .er c τ' | .bad => .bad) := rfl
@[simp] theorem sPutD_ap (p : Plc) (g f : Tau → R D) (τ : Tau) : sPutD p g f τ = Fl.of (f τ) τ fun d => (match p.get τ with | some c => if c.flat1 then Fl.of (g τ) τ fun k => dputF p τ c k d else .bad | none => .bad) := rfl
@[simp] theorem sFldS_ap (p : Plc) (c f : Str) (h : Tau → R D) (τ : Tau) : sFldS p c f h τ = Fl.of (h τ) τ fun d => (match p.get τ with | some (.obj c' fs) => if c' = c ∧ fs.length < 1000 then .nx (p.put τ (.obj c (fput f false d fs))) else .bad | _ => .bad) := rfl
@[simp] theorem sFldO_ap (p : Plc) (c f : Str) (h : Tau → R Sl) (τ : Tau) : sFldO p c f h τ = Fl.of (h τ) τ fun s => (match s with | .ow d => (match p.get τ with | some (.obj c' fs) => if c' = c ∧ fs.length < 1000 then .nx (p.put τ (.obj c (fput f true d fs))) else .bad | _ => .bad) | _ => .bad) := rfl
@[simp] theorem metG_ap (p : Plc) (c m : Str) (f : D → List D → RM) (g : Tau → R (List D)) (τ : Tau) : metG p c m f g τ = (match p.get τ with | some (.obj c' fs) => if c' = c ∧ (flook fs m).isNone then RG.of (g τ) τ fun ds => (f (.obj c' fs) ds).at p τ else .bad | _ => .bad) := rfl
@[simp] theorem newD_ap (c : Str) (f : D → List D → RM) (g : Tau → R (List D)) (τ : Tau) : newD c f g τ = (g τ).bind fun ds => mkR (f (.obj c []) ds) := rfl
@[simp] theorem tmpM_ap (c m : Str) (f : D → List D → RM) (g0 : Tau → R Sl) (g : Tau → R (List D)) (τ : Tau) : tmpM c m f g0 g τ = (g0 τ).bind fun s => (match s with | .ow (.obj c' fs) => if c' = c ∧ (flook fs m).isNone then (g τ).bind fun ds => rmD (f (.obj c' fs) ds) else .bad | _ => .bad) := rfl
@[simp] theorem sRaise_ap (c : Str) (τ : Tau) : sRaise c τ = Fl.er c τ := rfl
@[simp] theorem sOutIf_ap (c : Tau → R Bool) (f g : FS) (τ : Tau) : sOutIf c f g τ = Fl.of (c τ) τ fun b => if b then (f τ).out else g τ := rfl
@[simp] theorem ofO_some {α : Type} (a : α) : ofO (some a) = R.ok a := rfl
@[simp] theorem ofO_none {α : Type} : (ofO none : R α) = .bad := rfl
@[simp] theorem view_sh (d : D) : (Sl.sh d).view = some d := rfl
@[simp] theorem view_ow (d : D) : (Sl.ow d).view = some d := rfl
@[simp] theorem view_bw (d : D) : (Sl.bw d).view = some d := rfl
@[simp] theorem data_sh (d : D) : (Sl.sh d).data = some d := rfl
@[simp] theorem data_owl (d : List D) : (Sl.ow (.lst d)).data = some (.lst d) := rfl
@[simp] theorem data_owt (d : List (List Str × D)) : (Sl.ow (.dT d)).data = some (.dT d) := rfl
@[simp] theorem io_sh (d : D) : (Sl.sh d).isIo = false := rfl
@[simp] theorem io_ow (d : D) : (Sl.ow d).isIo = false := rfl
@[simp] theorem io_un : Sl.un.isIo = false := rfl
@[simp] theorem bw_sh (d : D) : (Sl.sh d).isBw = false := rfl
@[simp] theorem bw_ow (d : D) : (Sl.ow d).isBw = false := rfl
@[simp] theorem put_ap (τ : Tau) (i : Nat) (s : Sl) : Fl.put τ i s = (match τ[i]? with | none => Fl.bad | some x => if x.isIo || s.isBw then .bad else .nx (τ.set i s)) := rfl
@[simp] theorem puts_nil (τ : Tau) : Fl.puts τ [] [] = .nx τ := rfl
@[simp] theorem puts_cons (τ : Tau) (i : Nat) (is : List Nat) (d : D) (ds : List D) : Fl.puts τ (i :: is) (d :: ds) = (Fl.put τ i (.sh d)).seq fun τ' => Fl.puts τ' is ds := rfl
@[simp] theorem slBl_bl (b : Bool) : slBl (.sh (.bl b)) = .ok b := rfl
@[simp] theorem blOf_bl (b : Bool) : blOf (.bl b) = .ok b := rfl
@[simp] theorem truD_bl (b : Bool) : truD (.bl b) = .ok b := rfl
@[simp] theorem ofStr_str (x : Str) : ofStr (.str x) = .ok x := rfl
@[simp] theorem res_nx (τ : Tau) : (Fl.nx τ).res = .ok (.sh .non) := rfl
@[simp] theorem res_sh (d : D) (τ : Tau) : (Fl.rt (.sh d) τ).res = .ok (.sh d) := rfl
@[simp] theorem res_ow (d : D) (τ : Tau) : (Fl.rt (.ow d) τ).res = .ok (.ow d) := rfl
@[simp] theorem res_er (c : Str) (τ : Tau) : (Fl.er c τ).res = .er c := rfl
@[simp] theorem resM_nx (d : D) (τ : Tau) : (Fl.nx (.io d :: τ)).resM = .ok (.sh .non) d := rfl
@[simp] theorem resM_er (d : D) (c : Str) (τ : Tau) : (Fl.er c (.io d :: τ)).resM = .er c d := rfl
@[simp] theorem resM_sh (d x : D) (τ : Tau) : (Fl.rt (.sh x) (.io d :: τ)).resM = .ok (.sh x) d := rfl
@[simp] theorem eqvS (x y : Str) : eqvD (.str x) (.str y) = (x == y) := by
  show PyData.eqv (.str x) (.str y) = _
  simp [PyData.eqv]
@[simp] theorem eqvI (x y : Int) : eqvD (.int x) (.int y) = (x == y) := by
  show PyData.eqv (.int x) (.int y) = _
  simp [PyData.eqv]
@[simp] theorem eqSS (x y : Str) : eqD (.str x) (.str y) = .ok (.sh (.bl (x == y))) := by
  show (if cmpOk (.str x) (.str y) then _ else _) = _
  rw [if_pos (by simp [cmpOk, D.pl, D.dep]), eqvS]
@[simp] theorem neSS (x y : Str) : neD (.str x) (.str y) = .ok (.sh (.bl (!(x == y)))) := by
  show (if cmpOk (.str x) (.str y) then _ else _) = _
  rw [if_pos (by simp [cmpOk, D.pl, D.dep]), eqvS]
@[simp] theorem eqII (x y : Int) : eqD (.int x) (.int y) = .ok (.sh (.bl (x == y))) := by
  show (if cmpOk (.int x) (.int y) then _ else _) = _
  rw [if_pos (by simp [cmpOk, D.pl, D.dep]), eqvI]
@[simp] theorem neII (x y : Int) : neD (.int x) (.int y) = .ok (.sh (.bl (!(x == y)))) := by
  show (if cmpOk (.int x) (.int y) then _ else _) = _
  rw [if_pos (by simp [cmpOk, D.pl, D.dep]), eqvI]
theorem ltvI (x y : Int) : ltvD (.int x) (.int y) = decide (x < y) := PySem.W.dataLt_int x y
theorem ltokI (x y : Int) : ltOk (.int x) (.int y) = true := by simp [ltOk, cmpOk, D.pl, D.dep, D.py, D.isNon, PySem.W.alike]
@[simp] theorem ltII (x y : Int) : ltD (.int x) (.int y) = .ok (.sh (.bl (decide (x < y)))) := by
  show (if ltOk (.int x) (.int y) then _ else _) = _
  rw [if_pos (ltokI x y), ltvI]
@[simp] theorem gtII (x y : Int) : gtD (.int x) (.int y) = .ok (.sh (.bl (decide (y < x)))) := by
  show (if ltOk (.int x) (.int y) then _ else _) = _
  rw [if_pos (ltokI x y), ltvI]
@[simp] theorem addII (x y : Int) : addD (.int x) (.int y) = .ok (.sh (.int (x + y))) := rfl
theorem modII {x y : Int} (h : 0 < y) : modD (.int x) (.int y) = .ok (.sh (.int (x % y))) := by simp [modD, h]
theorem fdivII {x y : Int} (h : 0 < y) (h2 : y < 1073741824) : fdivD (.int x) (.int y) = .ok (.sh (.int (x / y))) := by simp [fdivD, h, h2]
theorem mulII {x y : Int} (h : -(2 ^ 64) < y) (h2 : y < 2 ^ 64) : mulD (.int x) (.int y) = .ok (.sh (.int (x * y))) := by
  show (if smallM x y then _ else _) = _
  rw [if_pos (by unfold smallM; rw [decide_eq_true h, decide_eq_true h2]; simp)]
@[simp] theorem len_l (l : List D) : lenD [.lst l] = .ok (.sh (.int l.length)) := rfl
@[simp] theorem len_t (l : List D) : lenD [.tup l] = .ok (.sh (.int l.length)) := rfl
@[simp] theorem len_d (l : List (List Str × D)) : lenD [.dT l] = .ok (.sh (.int l.length)) := rfl
theorem len_s {x : Str} (h : x.length ≤ sizeLine) : lenD [.str x] = .ok (.sh (.int x.length)) := by simp [lenD, h]
theorem at_nat {α : Type} (xs : List α) (k : Nat) : atI xs (k : Int) = xs[k]? := by
  unfold atI ixN
  by_cases h : k < xs.length
  · simp [h]
  · simp [h]
theorem at_pos {α : Type} (xs : List α) {k : Int} (h : 0 ≤ k) : atI xs k = xs[k.toNat]? := by
  obtain ⟨n, rfl⟩ := Int.eq_ofNat_of_zero_le h
  exact at_nat xs n
@[simp] theorem ixL (l : List D) (k : Int) : ixD (.lst l) (.int k) = ofO ((atI l k).map .sh) := rfl
@[simp] theorem ixT (l : List D) (k : Int) : ixD (.tup l) (.int k) = ofO ((atI l k).map .sh) := rfl
theorem ixS {z : Str} (h : z.length ≤ sizeLine) (k : Int) : ixD (.str z) (.int k) = ofO ((atI z.cps.toList k).map fun c => .sh (.str ⟨#[c]⟩)) := by simp [ixD, h]
theorem sizeL : sizeLine = 16777216 := sizeLine_eq
@[simp] theorem key_strs (w : List Str) : (D.tup (w.map .str)).key = some w := strsOf_map w
end DL
end

section
set_option autoImplicit false
set_option relaxedAutoImplicit false
set_option linter.all false
set_option maxRecDepth 100000
namespace Lk50
open PySem PySem.Spec PyProof.Rows L2 DL
def lb_l_name_by_1 : FS :=
  (sSeq (sSet 7 (vl (kp (op2 addD (rd (op2 fdivD (rd (vR 0)) (vC (.int 5184)))) (rd (op2 mulD (rd (vR 6)) (rd (op2 modD (rd (op2 fdivD (rd (vR 0)) (vC (.int 144)))) (vC (.int 36))))))))))
    (sSeq (sIf (tst (op2 eqD (rd (vR 6)) (rd (vR 4))))
    (sSet 7 (vl (kp (op2 addD (rd (vR 7)) (rd (vR 1))))))
    sNx)
    (sSet 5 (vl (kp (op2 addD (rd (vR 5)) (rd (op2 ixD (rd (vR 2)) (rd (op2 modD (rd (vR 7)) (vC (.int 36))))))))))))
theorem eq_l_name_by : b_l_name_by =
  (sSeq (sSet 2 (vl (vC (.str ("abcdefghijklmnopqrstuvwxyz0123456789" : Str)))))
    (sSeq (sSet 3 (vl (kp (op2 addD (vC (.int 1)) (rd (op2 modD (rd (vR 0)) (vC (.int 12))))))))
    (sSeq (sSet 4 (vl (kp (op2 modD (rd (op2 fdivD (rd (vR 0)) (vC (.int 12)))) (rd (vR 3))))))
    (sSeq (sSet 5 (vl (vC (.str ("" : Str)))))
    (sSeq (sFor 6 (iR1 (kp (vR 3)))
    lb_l_name_by_1)
    (sSeq (sIf (andT (tst (op2 eqD (rd (op2 modD (rd (op2 fdivD (rd (vR 0)) (vC (.int 3)))) (vC (.int 2)))) (vC (.int 1)))) (tst (op2 eqD (rd (op2 modD (rd (vR 1)) (vC (.int 5)))) (vC (.int 4)))))
    (sSet 5 (vl (kp (sl3 (rd (vR 5)) oN (oS (rd (op2 addD (vC (.int 1)) (rd (op2 modD (rd (vR 1)) (rd (vR 3)))))))))))
    sNx)
    (sRet (vR 5)))))))) := rfl
def lb_l_hall_by_1 : FS :=
  (sSeq (sSet 6 (vl (kp (op2 ixD (rd (vR 4)) (rd (cal1 m_l_mixed (aC (kp (vR 5)) (aC (vC (.int 0)) (aC (kp (cal1 lenD (aC (rd (vR 4)) aN))) aN)))))))))
    (sSeq (sIf (tst (op2 eqD (rd (cal1 m_l_mixed (aC (kp (vR 5)) (aC (vC (.int 3)) (aC (vC (.int 3)) aN))))) (vC (.int 0))))
    (sSet 6 (vl (kp (op2 ixD (rd (vR 4)) (negD (vC (.int 1)))))))
    sNx)
    (sSeq (sSet 7 (vl (kp (cal1 m_l_name_by (aC (kp (vR 1)) (aC (kp (cal1 m_l_mixed (aC (kp (vR 5)) (aC (vC (.int 1)) (aC (kp (vR 2)) aN))))) aN))))))
    (sSeq (sSet 8 (vl (kp (op2 addD (rd (vR 6)) (tupE (aC (kp (vR 7)) aN))))))
    (sIf (andT (tst (op2 ninD (rd (vR 8)) (rd (vR 3)))) (tst (op2 ltD (rd (cal1 lenD (aC (rd (vR 8)) aN))) (vC (.int 13)))))
    (sSeq (sSet 9 (vl (kp (op2 ixD (tupE (aC (vC (.str ("folder" : Str))) (aC (vC (.str ("link" : Str))) (aC (vC (.str ("file" : Str))) (aC (vC (.str ("folder" : Str))) (aC (vC (.str ("link" : Str))) aN)))))) (rd (cal1 m_l_mixed (aC (kp (vR 5)) (aC (vC (.int 2)) (aC (vC (.int 5)) aN)))))))))
    (sSeq (sPutD (.sl 3) (rd (vR 8)) (tupE (aC (kp (vR 9)) (aC (vC (.str ("" : Str))) aN))))
    (sSeq (sIf (tst (op2 eqD (rd (vR 9)) (vC (.str ("link" : Str)))))
    (sPutD (.sl 3) (rd (vR 8)) (tupE (aC (kp (vR 9)) (aC (kp (cal1 m_l_link_by (aC (kp (cal1 listD (aC (rd (vR 3)) aN))) (aC (kp (vR 6)) (aC (kp (vR 5)) (aC (kp (vR 7)) aN)))))) aN))))
    sNx)
    (sSeq (sIf (tst (op2 eqD (rd (vR 9)) (vC (.str ("file" : Str)))))
    (sPutD (.sl 3) (rd (vR 8)) (tupE (aC (kp (vR 9)) (aC (kp (op2 addD (rd (op2 addD (rd (vR 7)) (vC (.str (" " : Str))))) (rd (cal1 strD (aC (rd (op2 modD (rd (vR 5)) (rd (op2 powD (vC (.int 10)) (vC (.int 30)))))) aN))))) aN))))
    sNx)
    (sIf (tst (op2 eqD (rd (vR 9)) (vC (.str ("folder" : Str)))))
    (sDropG (appG (.sl 4) (kp (vR 8))))
    sNx)))))
    sNx)))))
theorem eq_l_hall_by : b_l_hall_by =
  (sSeq (sSet 2 (vl (kp (op2 addD (vC (.int 2)) (rd (op2 modD (rd (op2 fdivD (rd (vR 1)) (vC (.int 5)))) (vC (.int 7))))))))
    (sSeq (sSet 3 newT)
    (sSeq (sSet 4 (lstE (aC (tupE aN) aN)))
    (sSeq (sFor 5 (iA (kp (vR 0)))
    lb_l_hall_by_1)
    (sRetV 3))))) := rfl
def lb_l_is_way_1 : FS :=
  (sIf (orT (notT (tru (isiD "str" (rd (op2 ixD (rd (vR 0)) (rd (vR 2))))))) (tst (op2 neD (rd (op2 ixD (rd (vR 0)) (rd (vR 2)))) (rd (op2 ixD (rd (vR 1)) (rd (vR 2)))))))
    (sRet (vl (vC (.bl false))))
    sNx)
theorem eq_l_is_way : b_l_is_way =
  (sSeq (sIf (orT (notT (tru (isiD "tuple" (rd (vR 0))))) (tst (op2 neD (rd (cal1 lenD (aC (rd (vR 0)) aN))) (rd (cal1 lenD (aC (rd (vR 1)) aN))))))
    (sRet (vl (vC (.bl false))))
    sNx)
    (sSeq (sFor 2 (iR1 (kp (cal1 lenD (aC (rd (vR 1)) aN))))
    lb_l_is_way_1)
    (sRet (vl (vC (.bl true)))))) := rfl
def lb_is_name_1 : FS :=
  (sIf (tst (op2 ninD (rd (vR 1)) (vC (.str ("abcdefghijklmnopqrstuvwxyz0123456789" : Str)))))
    (sRet (vl (vC (.bl false))))
    sNx)
theorem eq_is_name : b_is_name =
  (sSeq (sIf (notT (tru (isiD "str" (rd (vR 0)))))
    (sRet (vl (vC (.bl false))))
    sNx)
    (sSeq (sIf (orT (tst (op2 eqD (rd (vR 0)) (vC (.str ("" : Str))))) (tst (op2 gtD (rd (cal1 lenD (aC (rd (vR 0)) aN))) (vC (.int 12)))))
    (sRet (vl (vC (.bl false))))
    sNx)
    (sSeq (sFor 1 (iA (kp (vR 0)))
    lb_is_name_1)
    (sRet (vl (vC (.bl true))))))) := rfl
def lb_words_of_1 : FS :=
  (sIf (notT (tru (rd (cal1 m_is_word (aC (kp (vR 3)) aN)))))
    (sRaise ("NoWay" : Str))
    sNx)
theorem eq_words_of : b_words_of =
  (sSeq (sIf (tst (op2 eqD (rd (vR 0)) (vC (.str ("/" : Str)))))
    (sRet (vl (tupE (aC (vC (.bl true)) (aC (kp (lstE aN)) aN)))))
    sNx)
    (sSeq (sSet 1 (vl (kp (sm startsD (rd (vR 0)) (vC (.str ("/" : Str)))))))
    (sSeq (sSet 2 (vl (kp (sm splitD (rd (vR 0)) (vC (.str ("/" : Str)))))))
    (sSeq (sIf (tru (rd (vR 1)))
    (sSet 2 (vl (kp (sl3 (rd (vR 2)) (oS (vC (.int 1))) oN))))
    sNx)
    (sSeq (sIf (tst (op2 gtD (rd (cal1 lenD (aC (rd (vR 2)) aN))) (vC (.int 40))))
    (sRaise ("NoWay" : Str))
    sNx)
    (sSeq (sFor 3 (iA (kp (vR 2)))
    lb_words_of_1)
    (sRet (vl (tupE (aC (kp (vR 1)) (aC (kp (vR 2)) aN))))))))))) := rfl
def lb_by_way_1 : FS :=
  (sPutD (.sl 1) (rd (op2 ixD (rd (vR 2)) (vC (.int 0)))) (tupE (aC (kp (op2 ixD (rd (vR 2)) (vC (.int 1)))) (aC (kp (op2 ixD (rd (vR 2)) (vC (.int 2)))) aN))))
theorem eq_by_way : b_by_way =
  (sSeq (sSet 1 newT)
    (sSeq (sFor 2 (iA (kp (vR 0)))
    lb_by_way_1)
    (sRetV 1))) := rfl
def lb_Walk_go_1 : FS :=
  (sSeq (sSet 1 (vl (kp (fldE ("Walk" : Str) ("stands" : Str) (rd (vR 0))))))
    (sSeq (sSetG 2 (popAtG (.fd 0 ("Walk" : Str) ("left" : Str)) (vC (.int 0))))
    (sSeq (sIf (tst (op2 eqD (rd (vR 2)) (vC (.str (".." : Str)))))
    (sFldS (.sl 0) ("Walk" : Str) ("stands" : Str) (kp (cal1 m_above (aC (kp (vR 1)) aN))))
    (sIf (tst (op2 neD (rd (vR 2)) (vC (.str ("." : Str)))))
    (sDropG (metG (.sl 0) ("Walk" : Str) ("enter" : Str) m_Walk_enter (aC (kp (vR 2)) aN)))
    sNx))
    (sDropG (appG (.fd 0 ("Walk" : Str) ("steps" : Str)) (tupE (aC (kp (vR 1)) (aC (kp (vR 2)) (aC (kp (fldE ("Walk" : Str) ("stands" : Str) (rd (vR 0)))) aN)))))))))
theorem eq_Walk_go : b_Walk_go =
  (whileF (tst (op2 gtD (rd (cal1 lenD (aC (rd (fldE ("Walk" : Str) ("left" : Str) (rd (vR 0)))) aN))) (vC (.int 0))))
    lb_Walk_go_1 100000) := rfl
def lb_law_1 : FS :=
  (sIf (notT (tru (rd (cal1 m_l_met (aC (kp (vR 6)) (aC (kp (vR 4)) (aC (kp (vR 7)) (aC (kp (op2 modD (rd (cal1 m_l_cell_at (aC (kp (vR 0)) (aC (vC (.int 2)) aN)))) (rd (cal1 lenD (aC (rd (vR 7)) aN))))) aN))))))))
    (sRet (vl (vC (.bl false))))
    sNx)
theorem eq_law : b_law =
  (sSeq (sSet 1 (vl (kp (cal1 m_l_cell_at (aC (kp (vR 0)) (aC (vC (.int 0)) aN))))))
    (sSeq (sSet 2 (vl (kp (cal1 m_l_cell_at (aC (kp (vR 0)) (aC (vC (.int 1)) aN))))))
    (sSeq (sSet 3 (vl (kp (cal1 m_l_mixed (aC (kp (vR 2)) (aC (vC (.int 0)) (aC (vC (.int 13)) aN)))))))
    (sSeq (sIf (tst (op2 eqD (rd (cal1 m_l_mixed (aC (kp (vR 2)) (aC (vC (.int 1)) (aC (vC (.int 6)) aN))))) (vC (.int 0))))
    (sSet 3 (vl (kp (cal1 m_l_mixed (aC (kp (vR 2)) (aC (vC (.int 2)) (aC (vC (.int 41)) aN)))))))
    sNx)
    (sSeq (sSet 4 (vl (kp (cal1 m_l_hall_by (aC (kp (cal1 m_l_cells (aC (kp (vR 0)) (aC (vC (.int 3)) (aC (vC (.int 1)) (aC (kp (vR 3)) aN)))))) (aC (kp (vR 1)) aN))))))
    (sSeq (sSet 5 (vl (kp (cal1 m_l_tree_of (aC (kp (vR 4)) aN)))))
    (sSeq (sSet 6 (vl (kp (cal1 listD (aC (rd (vR 5)) aN)))))
    (sSeq (sFor 7 (iA (kp (cal1 listD (aC (rd (vR 4)) aN))))
    lb_law_1)
    (sSeq (sSet 8 (vl (kp (op2 addD (rd (lstE (aC (tupE aN) aN))) (rd (lcD [7] 7 (iKD 4) (tst (op2 eqD (rd (op2 ixD (rd (op2 ixD (rd (vR 4)) (rd (vR 7)))) (vC (.int 0)))) (vC (.str ("folder" : Str))))) (kp (vR 7))))))))
    (sSeq (sSet 9 (vl (kp (op2 ixD (rd (vR 8)) (rd (cal1 m_l_mixed (aC (kp (vR 2)) (aC (vC (.int 3)) (aC (kp (cal1 lenD (aC (rd (vR 8)) aN))) aN)))))))))
    (sSeq (sIf (orT (notT (tru (rd (cal1 m_l_is_way (aC (kp (cal1 m_find_way (aC (kp (vR 6)) (aC (kp (vR 9)) (aC (vC (.str ("." : Str))) aN))))) (aC (kp (vR 9)) aN)))))) (notT (tru (rd (cal1 m_l_is_way (aC (kp (cal1 m_find_way (aC (kp (vR 6)) (aC (kp (vR 9)) (aC (vC (.str (".." : Str))) aN))))) (aC (kp (sl3 (rd (vR 9)) oN (oS (negD (vC (.int 1)))))) aN)))))))
    (sRet (vl (vC (.bl false))))
    sNx)
    (sSeq (sSet 10 (vl (kp (cal1 m_l_name_by (aC (kp (vR 1)) (aC (kp (cal1 m_l_mixed (aC (kp (vR 2)) (aC (vC (.int 4)) (aC (vC (.int 36)) aN))))) aN))))))
    (sSeq (sIf (andT (tst (op2 ninD (rd (op2 addD (rd (vR 9)) (tupE (aC (kp (vR 10)) aN)))) (rd (vR 4)))) (notT (tru (rd (cal1 m_l_missing (aC (kp (vR 6)) (aC (kp (vR 9)) (aC (kp (vR 10)) aN))))))))
    (sRet (vl (vC (.bl false))))
    sNx)
    (sRet (vl (andV (rd (cal1 m_l_is_way (aC (kp (cal1 m_find_way (aC (kp (vR 6)) (aC (kp (vR 9)) (aC (vC (.str ("/" : Str))) aN))))) (aC (tupE aN) aN)))) (kp (op2 eqD (rd (vR 6)) (rd (vR 5)))))))))))))))))))) := rfl
end Lk50
end

section
set_option autoImplicit false
set_option relaxedAutoImplicit false
set_option linter.all false
set_option maxRecDepth 100000
namespace Lk50
open PySem PySem.Spec PyProof.Rows L2 DL TL
theorem p_cell_at (ns : List Int) (k : Int) (h : 0 ≤ k) : ∃ c : Int, m_l_cell_at [.lst (ns.map .int), .int k] = .ok (.sh (.int c)) := by
  obtain ⟨n, rfl⟩ := Int.eq_ofNat_of_zero_le h
  by_cases q : n < ns.length
  · refine ⟨ns[n], ?_⟩
    have q' : (n : Int) < (ns.length : Int) := by omega
    simp [m_l_cell_at, runF, initT, b_l_cell_at, q, at_nat]
  · refine ⟨0, ?_⟩
    simp [m_l_cell_at, runF, initT, b_l_cell_at, q]
theorem p_mixed (c n : Int) (t : Nat) (ht : t < 8) (hn : 0 < n) : ∃ v : Int, 0 ≤ v ∧ v < n ∧ m_l_mixed [.int c, .int (t : Int), .int n] = .ok (.sh (.int v)) := by
  have h1 : 0 ≤ c % 1000000000000000000 ∧ c % 1000000000000000000 < 1000000000000000000 := ⟨Int.emod_nonneg _ (by decide), Int.emod_lt_of_pos _ (by decide)⟩
  have hs : ∀ j : Int, smallM (c % 1000000000000000000 + 1) j = true := fun j => by
    unfold smallM
    rw [decide_eq_true (show -(2 ^ 64) < c % 1000000000000000000 + 1 by omega), decide_eq_true (show c % 1000000000000000000 + 1 < 2 ^ 64 by omega)]
    rfl
  match t, ht with
  | 0, _ => exact ⟨_, Int.emod_nonneg _ (by omega), Int.emod_lt_of_pos _ hn, by simp [m_l_mixed, runF, initT, b_l_mixed, powD, mulD, modD, hs, hn, atI, ixN]; rfl⟩
  | 1, _ => exact ⟨_, Int.emod_nonneg _ (by omega), Int.emod_lt_of_pos _ hn, by simp [m_l_mixed, runF, initT, b_l_mixed, powD, mulD, modD, hs, hn, atI, ixN]; rfl⟩
  | 2, _ => exact ⟨_, Int.emod_nonneg _ (by omega), Int.emod_lt_of_pos _ hn, by simp [m_l_mixed, runF, initT, b_l_mixed, powD, mulD, modD, hs, hn, atI, ixN]; rfl⟩
  | 3, _ => exact ⟨_, Int.emod_nonneg _ (by omega), Int.emod_lt_of_pos _ hn, by simp [m_l_mixed, runF, initT, b_l_mixed, powD, mulD, modD, hs, hn, atI, ixN]; rfl⟩
  | 4, _ => exact ⟨_, Int.emod_nonneg _ (by omega), Int.emod_lt_of_pos _ hn, by simp [m_l_mixed, runF, initT, b_l_mixed, powD, mulD, modD, hs, hn, atI, ixN]; rfl⟩
  | 5, _ => exact ⟨_, Int.emod_nonneg _ (by omega), Int.emod_lt_of_pos _ hn, by simp [m_l_mixed, runF, initT, b_l_mixed, powD, mulD, modD, hs, hn, atI, ixN]; rfl⟩
  | 6, _ => exact ⟨_, Int.emod_nonneg _ (by omega), Int.emod_lt_of_pos _ hn, by simp [m_l_mixed, runF, initT, b_l_mixed, powD, mulD, modD, hs, hn, atI, ixN]; rfl⟩
  | 7, _ => exact ⟨_, Int.emod_nonneg _ (by omega), Int.emod_lt_of_pos _ hn, by simp [m_l_mixed, runF, initT, b_l_mixed, powD, mulD, modD, hs, hn, atI, ixN]; rfl⟩
abbrev SG : Str := ("abcdefghijklmnopqrstuvwxyz0123456789" : Str)
/-- a name: 1 to 12 signs -/
def Nm (x : Str) : Prop := 1 ≤ x.length ∧ x.length ≤ 12 ∧ ∀ c ∈ tl x, c ∈ tl SG
theorem sg_len : (tl SG).length = 36 := by decide +kernel
theorem sg_len' : SG.length = 36 := by decide +kernel
theorem sg_noslash : 47 ∉ tl SG := by decide +kernel
theorem sg_nodot : 46 ∉ tl SG := by decide +kernel
theorem is_name_loop (x : Str) : ∀ l : List Nat, (∀ c ∈ l, c ∈ tl SG) → ∀ s, ∃ s', forL 1 lb_is_name_1 (l.map fun c => D.str ⟨#[c]⟩) [.sh (.str x), s] = .nx [.sh (.str x), s'] ∨ s.isIo = true
  | [], _, s => ⟨s, .inl rfl⟩
  | c :: l, h, s => by
    cases hs : s.isIo with
    | true => exact ⟨s, .inr rfl⟩
    | false =>
      obtain ⟨s', e⟩ := is_name_loop x l (fun d m => h d (List.mem_cons_of_mem _ m)) (.sh (.str ⟨#[c]⟩))
      refine ⟨s', .inl ?_⟩
      have hc : c ∈ tl SG := h c (List.mem_cons_self ..)
      rcases e with e | e
      · simp only [List.map_cons, forL]
        have e1 : lb_is_name_1 [.sh (.str x), .sh (.str ⟨#[c]⟩)] = .nx [.sh (.str x), .sh (.str ⟨#[c]⟩)] := by
          have : c ∈ SG.cps := by simpa [tl] using hc
          simp [lb_is_name_1, ninD, inD0, Str.length, this]
        simp [hs, e1, e]
      · cases e
theorem p_is_name {x : Str} (h : Nm x) : m_is_name [.str x] = .ok (.sh (.bl true)) := by
  obtain ⟨h1, h2, h3⟩ := h
  obtain ⟨s', e⟩ := is_name_loop x (tl x) h3 .un
  rcases e with e | e
  · have hne : (x == ("" : Str)) = false := by
      rw [beq_eq_false_iff_ne]
      intro q
      subst q
      exact absurd h1 (by decide +kernel)
    have hl : x.length ≤ sizeLine := by rw [sizeL]; omega
    have k1 : kitB "str" "str" = some true := rfl
    have e' : forL 1 lb_is_name_1 (chs x) [.sh (.str x), .un] = .nx [.sh (.str x), s'] := e
    have hg : ¬ (12 : Int) < (x.length : Int) := by omega
    simp [m_is_name, runF, initT, eq_is_name, tyn, k1, hne, len_s hl, hg, itA, e']
  · cases e
end Lk50
end

section
set_option autoImplicit false
set_option relaxedAutoImplicit false
set_option linter.all false
set_option maxRecDepth 100000
namespace Lk50
open PySem PySem.Spec PyProof.Rows L2 DL TL
theorem sg_at (t : Int) : ∃ c, c ∈ tl SG ∧ ixD (.str SG) (.int (t % 36)) = .ok (.sh (.str ⟨#[c]⟩)) := by
  have h1 : 0 ≤ t % 36 := Int.emod_nonneg _ (by decide)
  have h2 : t % 36 < 36 := Int.emod_lt_of_pos _ (by decide)
  have h3 : (t % 36).toNat < (tl SG).length := by rw [sg_len]; omega
  refine ⟨(tl SG)[(t % 36).toNat], List.getElem_mem h3, ?_⟩
  have e : atI (tl SG) (t % 36) = some (tl SG)[(t % 36).toNat] := by rw [at_pos _ h1, List.getElem?_eq_getElem h3]
  have hl : SG.length ≤ sizeLine := by rw [sg_len', sizeL]; omega
  rw [ixS hl]
  show ofO ((atI (tl SG) (t % 36)).map _) = _
  rw [e]
  rfl
theorem tl_snoc (x : Str) (c : Nat) : tl (x ++ (⟨#[c]⟩ : Str)) = tl x ++ [c] := tl_append x ⟨#[c]⟩
theorem name_body (stem v size spot k : Int) (nm : Str) (s6 s7 : Sl) (h7 : s7.isIo = false) (hl : nm.length ≤ 100) :
    ∃ c t, c ∈ tl SG ∧ lb_l_name_by_1 [.sh (.int stem), .sh (.int v), .sh (.str SG), .sh (.int size), .sh (.int spot), .sh (.str nm), .sh (.int k), s7] = .nx [.sh (.int stem), .sh (.int v), .sh (.str SG), .sh (.int size), .sh (.int spot), .sh (.str (nm ++ (⟨#[c]⟩ : Str))), .sh (.int k), .sh (.int t)] := by
  have h1 : 0 ≤ stem / 144 % 36 := Int.emod_nonneg _ (by decide)
  have h2 : stem / 144 % 36 < 36 := Int.emod_lt_of_pos _ (by decide)
  have hm : mulD (.int k) (.int (stem / 144 % 36)) = .ok (.sh (.int (k * (stem / 144 % 36)))) := mulII (by omega) (by omega)
  have m36 : ∀ x : Int, modD (.int x) (.int 36) = .ok (.sh (.int (x % 36))) := fun x => modII (by decide)
  have f1 : ∀ x : Int, fdivD (.int x) (.int 5184) = .ok (.sh (.int (x / 5184))) := fun x => fdivII (by decide) (by decide)
  have f2 : ∀ x : Int, fdivD (.int x) (.int 144) = .ok (.sh (.int (x / 144))) := fun x => fdivII (by decide) (by decide)
  have ad : ∀ c : Nat, addD (.str nm) (.str ⟨#[c]⟩) = .ok (.sh (.str (nm ++ (⟨#[c]⟩ : Str)))) := fun c => by
    show (if nm.length + 1 ≤ sizeLine then _ else _) = _
    rw [if_pos (by rw [sizeL]; omega)]
  by_cases q : k = spot
  · obtain ⟨c, hc, e⟩ := sg_at (stem / 5184 + k * (stem / 144 % 36) + v)
    refine ⟨c, stem / 5184 + k * (stem / 144 % 36) + v, hc, ?_⟩
    subst q
    simp [lb_l_name_by_1, f1, f2, m36, hm, h7, e, ad]
  · obtain ⟨c, hc, e⟩ := sg_at (stem / 5184 + k * (stem / 144 % 36))
    refine ⟨c, stem / 5184 + k * (stem / 144 % 36), hc, ?_⟩
    have q' : (k == spot) = false := by simpa using q
    simp [lb_l_name_by_1, f1, f2, m36, hm, h7, e, ad, q']
theorem name_loop (stem v size spot : Int) : ∀ (l : List Int) (nm : Str) (s6 s7 : Sl), s6.isIo = false → s7.isIo = false → nm.length + l.length ≤ 100 → (∀ c ∈ tl nm, c ∈ tl SG) →
    ∃ nm' s6' s7', forL 6 lb_l_name_by_1 (l.map D.int) [.sh (.int stem), .sh (.int v), .sh (.str SG), .sh (.int size), .sh (.int spot), .sh (.str nm), s6, s7] = .nx [.sh (.int stem), .sh (.int v), .sh (.str SG), .sh (.int size), .sh (.int spot), .sh (.str nm'), s6', s7'] ∧ nm'.length = nm.length + l.length ∧ ∀ c ∈ tl nm', c ∈ tl SG
  | [], nm, s6, s7, _, _, _, h => ⟨nm, s6, s7, rfl, rfl, h⟩
  | k :: l, nm, s6, s7, h6, h7, hl, h => by
    have hl' : nm.length + (l.length + 1) ≤ 100 := hl
    obtain ⟨c, t, hc, e⟩ := name_body stem v size spot k nm s6 s7 h7 (by omega)
    have len : (nm ++ (⟨#[c]⟩ : Str)).length = nm.length + 1 := by rw [len_tl, tl_snoc, len_tl]; simp
    obtain ⟨nm', s6', s7', e2, l2, a2⟩ := name_loop stem v size spot l (nm ++ (⟨#[c]⟩ : Str)) (.sh (.int k)) (.sh (.int t)) rfl rfl (by omega) (by
      intro d hd
      rw [tl_snoc] at hd
      rcases List.mem_append.mp hd with m | m
      · exact h d m
      · rw [List.mem_singleton.mp m]; exact hc)
    refine ⟨nm', s6', s7', ?_, by rw [l2, len, List.length_cons]; omega, a2⟩
    simp only [List.map_cons, forL]
    simp [h6, e, e2]
theorem cutS_nat (x : Str) (k : Nat) (h1 : 1 ≤ k) (h2 : 1 ≤ x.length) : ∃ y : Str, cutS x none (some (k : Int)) = y ∧ 1 ≤ y.length ∧ y.length ≤ x.length ∧ ∀ c ∈ tl y, c ∈ tl x := by
  have e : cutS x none (some (k : Int)) = ⟨(((tl x).drop 0).take (min k x.length - 0)).toArray⟩ := by
    unfold cutS
    rw [HT.sIx_nat, HT.sIx_none]
  have e2 : tl (cutS x none (some (k : Int))) = (tl x).take (min k x.length) := by rw [e, tl_mk, List.drop_zero, Nat.sub_zero]
  refine ⟨_, rfl, ?_, cutS_length x _ _, ?_⟩
  · rw [len_tl, e2, List.length_take, ← len_tl]
    omega
  · rw [e2]
    exact fun c h => List.mem_of_mem_take h
theorem p_name_by (stem v : Int) (hv : 0 ≤ v) : ∃ x : Str, Nm x ∧ m_l_name_by [.int stem, .int v] = .ok (.sh (.str x)) := by
  have m12 : ∀ x : Int, modD (.int x) (.int 12) = .ok (.sh (.int (x % 12))) := fun x => modII (by decide)
  have m2 : ∀ x : Int, modD (.int x) (.int 2) = .ok (.sh (.int (x % 2))) := fun x => modII (by decide)
  have m5 : ∀ x : Int, modD (.int x) (.int 5) = .ok (.sh (.int (x % 5))) := fun x => modII (by decide)
  have f12 : ∀ x : Int, fdivD (.int x) (.int 12) = .ok (.sh (.int (x / 12))) := fun x => fdivII (by decide) (by decide)
  have f3 : ∀ x : Int, fdivD (.int x) (.int 3) = .ok (.sh (.int (x / 3))) := fun x => fdivII (by decide) (by decide)
  have h1 : 0 ≤ stem % 12 := Int.emod_nonneg _ (by decide)
  have h2 : stem % 12 < 12 := Int.emod_lt_of_pos _ (by decide)
  obtain ⟨z, hz⟩ : ∃ z : Int, z = 1 + stem % 12 := ⟨_, rfl⟩
  have hz0 : 0 < z := by omega
  have mz : ∀ x : Int, modD (.int x) (.int z) = .ok (.sh (.int (x % z))) := fun x => modII hz0
  have hr : -4611686018427387904 ≤ z ∧ z < 4611686018427387904 := by omega
  obtain ⟨nm, s6, s7, e, l, a⟩ := name_loop stem v z (stem / 12 % z) ((List.range z.toNat).map fun (k : Nat) => 0 + (k : Int)) ("" : Str) .un .un rfl rfl (by
    rw [List.length_map, List.length_range]
    have : ("" : Str).length = 0 := by decide +kernel
    omega) (by
    have : tl ("" : Str) = [] := by decide +kernel
    rw [this]
    intro c h
    cases h)
  have rg : rngD 0 z.toNat = ((List.range z.toNat).map fun (k : Nat) => 0 + (k : Int)).map D.int := by
    unfold rngD
    rw [List.map_map]
    rfl
  rw [← rg] at e
  have hl : nm.length = z.toNat := by
    rw [l, List.length_map, List.length_range]
    have : ("" : Str).length = 0 := by decide +kernel
    omega
  have hs : nm.length ≤ sizeLine := by rw [sizeL]; omega
  have hn : Nm nm := ⟨by omega, by omega, a⟩
  have hvz : 0 ≤ v % z := Int.emod_nonneg _ (by omega)
  obtain ⟨y, ey, y1, y2, y3⟩ := cutS_nat nm (1 + v % z).toNat (by omega) (by omega)
  have ez : (((1 + v % z).toNat : Nat) : Int) = 1 + v % z := by omega
  rw [ez] at ey
  by_cases q : stem / 3 % 2 = 1 ∧ v % 5 = 4
  · refine ⟨y, ⟨y1, by omega, fun c h => a c (y3 c h)⟩, ?_⟩
    simp [m_l_name_by, runF, initT, eq_l_name_by, m12, m2, m5, f12, f3, ← hz, mz, hr, e, q.1, q.2, slD, hs, ey]
  · refine ⟨nm, hn, ?_⟩
    by_cases q1 : stem / 3 % 2 = 1
    · have q2 : ¬ v % 5 = 4 := fun h => q ⟨q1, h⟩
      simp [m_l_name_by, runF, initT, eq_l_name_by, m12, m2, m5, f12, f3, ← hz, mz, hr, e, q1, q2]
    · simp [m_l_name_by, runF, initT, eq_l_name_by, m12, m2, m5, f12, f3, ← hz, mz, hr, e, q1]
end Lk50
end

section
set_option autoImplicit false
set_option relaxedAutoImplicit false
set_option linter.all false
set_option maxRecDepth 100000
namespace Lk50
open PySem PySem.Spec PyProof.Rows L2 DL TL
abbrev SL : Str := ("/" : Str)
abbrev D1 : Str := ("." : Str)
abbrev D2 : Str := (".." : Str)
def Wd (x : Str) : Prop := Nm x ∨ x = D1 ∨ x = D2
theorem p_is_word {x : Str} (h : Wd x) : m_is_word [.str x] = .ok (.sh (.bl true)) := by
  cases h1 : x == D1 with
  | true => simp [m_is_word, runF, initT, b_is_word, h1]
  | false =>
    cases h2 : x == D2 with
    | true => simp [m_is_word, runF, initT, b_is_word, h1, h2]
    | false =>
      rcases h with h | h | h
      · simp [m_is_word, runF, initT, b_is_word, h1, h2, p_is_name h]
      · rw [h] at h1; simp at h1
      · rw [h] at h2; simp at h2
theorem words_loop (a b c : D) : ∀ (l : List Str), (∀ x ∈ l, Wd x) → ∀ s : Sl, s.isIo = false → ∃ s', forL 3 lb_words_of_1 (l.map D.str) [.sh a, .sh b, .sh c, s] = .nx [.sh a, .sh b, .sh c, s']
  | [], _, s, _ => ⟨s, rfl⟩
  | x :: l, h, s, hs => by
    obtain ⟨s', e⟩ := words_loop a b c l (fun d m => h d (List.mem_cons_of_mem _ m)) (.sh (.str x)) rfl
    refine ⟨s', ?_⟩
    have eb : lb_words_of_1 [.sh a, .sh b, .sh c, .sh (.str x)] = .nx [.sh a, .sh b, .sh c, .sh (.str x)] := by
      simp [lb_words_of_1, p_is_word (h x (List.mem_cons_self ..))]
    simp only [List.map_cons, forL]
    simp [hs, eb, e]
theorem cut_tail {α : Type} (x : α) (xs : List α) : DL.cutD (x :: xs) (some 1) none = xs := by
  unfold DL.cutD
  have e : HT.sIx (x :: xs).length 0 (some 1) = 1 := by
    have := HT.sIx_nat (x :: xs).length 0 1
    simp at this ⊢
    exact this
  rw [e, HT.sIx_none]
  simp
theorem words_gen {t : Str} {ws : List Str} (h1 : (t == SL) = false) (hsz : t.length + 2 ≤ sizeLine) (r : Bool) (hst : Txt.startswith t SL = r) (hsp : Txt.split t SL = if r then ("" : Str) :: ws else ws) (hl : ws.length ≤ 40) (hw : ∀ x ∈ ws, Wd x) :
    m_words_of [.str t] = .ok (.sh (.tup [.bl r, .lst (ws.map .str)])) := by
  have sp : splitD (.str t) (.str SL) = .ok (.ow (.lst ((Txt.split t SL).map .str))) := by
    show (if (SL.length == 0) = false ∧ t.length + 2 ≤ sizeLine then _ else _) = _
    rw [if_pos ⟨by decide +kernel, hsz⟩]
  have st : startsD (.str t) (.str SL) = .ok (.sh (.bl (Txt.startswith t SL))) := rfl
  obtain ⟨s', e⟩ := words_loop (.str t) (.bl r) (.lst (ws.map .str)) ws hw .un rfl
  have hg : ¬ (40 : Int) < (ws.length : Int) := by omega
  cases r with
  | false =>
    rw [if_neg (by decide)] at hsp
    simp [m_words_of, runF, initT, eq_words_of, h1, sp, st, hst, hsp, hg, itA, e]
  | true =>
    rw [if_pos rfl] at hsp
    simp [m_words_of, runF, initT, eq_words_of, h1, sp, st, hst, hsp, hg, itA, e, slD, cut_tail]
theorem words_root : m_words_of [.str SL] = .ok (.sh (.tup [.bl true, .lst []])) := by
  simp [m_words_of, runF, initT, eq_words_of]
theorem tlSL : tl SL = [47] := by decide +kernel
theorem starts_pre (x : Str) : Txt.startswith x SL = pre [47] (tl x) := by
  have h := at_iff (x := x) (y := SL) (by rw [tlSL]; simp) 0
  rw [List.drop_zero, tlSL] at h
  rw [Bool.eq_iff_iff, ← h]
  unfold Txt.startswith PySem.StrLaws.At
  simp
theorem join_tl (ws : List Str) : tl (Txt.join SL ws) = joinL [47] (ws.map tl) := by rw [join_eq, tl_join, tlSL]
theorem nm_noslash {x : Str} (h : Nm x) : 47 ∉ tl x := fun m => sg_noslash (h.2.2 47 m)
theorem nm_head {x : Str} (h : Nm x) : ∃ c r, tl x = c :: r ∧ c ≠ 47 := by
  cases q : tl x with
  | nil =>
    have := h.1
    rw [len_tl, q] at this
    simp at this
  | cons c r => exact ⟨c, r, rfl, fun e => nm_noslash h (by rw [q, e]; exact List.mem_cons_self ..)⟩
theorem join_len : ∀ ws : List Str, (∀ x ∈ ws, Nm x) → (joinL [47] (ws.map tl)).length ≤ 13 * ws.length
  | [], _ => by simp [joinL]
  | [x], h => by
    have := (h x (List.mem_cons_self ..)).2.1
    rw [len_tl] at this
    simp only [List.map_cons, List.map_nil, joinL, List.length_cons, List.length_nil]
    omega
  | x :: y :: r, h => by
    have h1 := (h x (List.mem_cons_self ..)).2.1
    rw [len_tl] at h1
    have h2 := join_len (y :: r) fun z m => h z (List.mem_cons_of_mem _ m)
    simp only [List.map_cons, joinL, List.length_append, List.length_cons, List.length_nil] at h2 ⊢
    omega
theorem join_head {x : Str} {ws : List Str} (h : Nm x) : ∃ c r, joinL [47] ((x :: ws).map tl) = c :: r ∧ c ≠ 47 := by
  obtain ⟨c, r, e, n⟩ := nm_head h
  cases ws with
  | nil => exact ⟨c, r, e, n⟩
  | cons y l => exact ⟨c, r ++ ([47] ++ joinL [47] ((y :: l).map tl)), by
      show tl x ++ ([47] ++ joinL [47] ((y :: l).map tl)) = _
      rw [e]; rfl, n⟩
theorem words_join {ws : List Str} (hne : ws ≠ []) (hn : ∀ x ∈ ws, Nm x) (hl : ws.length ≤ 40) : m_words_of [.str (Txt.join SL ws)] = .ok (.sh (.tup [.bl false, .lst (ws.map .str)])) := by
  obtain ⟨x, l, rfl⟩ := List.exists_cons_of_ne_nil hne
  obtain ⟨c, r, e, n⟩ := join_head (ws := l) (hn x (List.mem_cons_self ..))
  have hlen : (Txt.join SL (x :: l)).length ≤ 13 * (x :: l).length := by rw [len_tl, join_tl]; exact join_len _ hn
  refine words_gen ?_ (by rw [sizeL]; omega) false ?_ ?_ hl fun z m => .inl (hn z m)
  · rw [beq_eq_false_iff_ne]
    intro q
    have q' := congrArg tl q
    rw [join_tl, e, tlSL] at q'
    exact n (List.cons.inj q').1
  · rw [starts_pre, join_tl, e]
    simp [pre, n]
  · rw [if_neg (by decide)]
    exact split_join tlSL (by decide +kernel) hne fun z m => nm_noslash (hn z m)
theorem split_rooted {ws : List Str} (hne : ws ≠ []) (hn : ∀ x ∈ ws, Nm x) : Txt.split (SL ++ Txt.join SL ws) SL = ("" : Str) :: ws := by
  have e : SL ++ Txt.join SL ws = Txt.join SL (("" : Str) :: ws) := by
    refine ext_tl ?_
    rw [tl_append, join_tl, join_tl, tlSL]
    obtain ⟨x, l, rfl⟩ := List.exists_cons_of_ne_nil hne
    have e0 : tl ("" : Str) = [] := by decide +kernel
    show [47] ++ _ = tl ("" : Str) ++ ([47] ++ _)
    rw [e0]
    rfl
  rw [e]
  refine split_join tlSL (by decide +kernel) (by simp) fun z m => ?_
  rcases List.mem_cons.mp m with m | m
  · rw [m]; decide +kernel
  · exact nm_noslash (hn z m)
theorem words_rooted {ws : List Str} (hne : ws ≠ []) (hn : ∀ x ∈ ws, Nm x) (hl : ws.length ≤ 40) : m_words_of [.str (SL ++ Txt.join SL ws)] = .ok (.sh (.tup [.bl true, .lst (ws.map .str)])) := by
  have et : tl (SL ++ Txt.join SL ws) = 47 :: joinL [47] (ws.map tl) := by rw [tl_append, tlSL, join_tl]; rfl
  have hlen : (SL ++ Txt.join SL ws).length ≤ 1 + 13 * ws.length := by
    rw [len_tl, et, List.length_cons]
    have := join_len ws hn
    omega
  refine words_gen ?_ (by rw [sizeL]; omega) true ?_ ?_ hl fun z m => .inl (hn z m)
  · rw [beq_eq_false_iff_ne]
    intro q
    have q' := congrArg tl q
    rw [et, tlSL] at q'
    obtain ⟨x, l, rfl⟩ := List.exists_cons_of_ne_nil hne
    obtain ⟨c, r, e, n⟩ := join_head (ws := l) (hn x (List.mem_cons_self ..))
    rw [e] at q'
    cases q'
  · rw [starts_pre, et]
    rfl
  · rw [if_pos rfl]
    exact split_rooted hne hn
theorem words_one {x : Str} (h : x = D1 ∨ x = D2) : m_words_of [.str x] = .ok (.sh (.tup [.bl false, .lst [.str x]])) := by
  have sp : ∀ x : Str, 47 ∉ tl x → Txt.split x SL = [x] := fun x h => split_join (parts := [x]) tlSL (by decide +kernel) (by simp) fun z m => by
    rw [List.mem_singleton.mp m]; exact h
  rcases h with rfl | rfl
  · exact words_gen (ws := [D1]) (by decide +kernel) (by rw [sizeL]; decide +kernel) false (by decide +kernel) (sp _ (by decide +kernel)) (by simp) fun z m => .inr (.inl (List.mem_singleton.mp m))
  · exact words_gen (ws := [D2]) (by decide +kernel) (by rw [sizeL]; decide +kernel) false (by decide +kernel) (sp _ (by decide +kernel)) (by simp) fun z m => .inr (.inr (List.mem_singleton.mp m))
end Lk50
end

section
set_option autoImplicit false
set_option relaxedAutoImplicit false
set_option linter.all false
set_option Elab.async false
set_option maxRecDepth 100000
namespace Lk50
open PySem PySem.Spec PyProof.Rows L2 DL TL
@[simp] theorem ne_1 : (("things" : Str) = ("stands" : Str)) = False := eq_false (by decide +kernel)
@[simp] theorem ne_2 : (("things" : Str) = ("left" : Str)) = False := eq_false (by decide +kernel)
@[simp] theorem ne_3 : (("things" : Str) = ("links" : Str)) = False := eq_false (by decide +kernel)
@[simp] theorem ne_4 : (("things" : Str) = ("steps" : Str)) = False := eq_false (by decide +kernel)
@[simp] theorem ne_5 : (("things" : Str) = ("set_out" : Str)) = False := eq_false (by decide +kernel)
@[simp] theorem ne_6 : (("things" : Str) = ("go" : Str)) = False := eq_false (by decide +kernel)
@[simp] theorem ne_7 : (("things" : Str) = ("enter" : Str)) = False := eq_false (by decide +kernel)
@[simp] theorem ne_8 : (("things" : Str) = ("follow" : Str)) = False := eq_false (by decide +kernel)
@[simp] theorem ne_9 : (("things" : Str) = ("come_to" : Str)) = False := eq_false (by decide +kernel)
@[simp] theorem ne_10 : (("stands" : Str) = ("things" : Str)) = False := eq_false (by decide +kernel)
@[simp] theorem ne_11 : (("stands" : Str) = ("left" : Str)) = False := eq_false (by decide +kernel)
@[simp] theorem ne_12 : (("stands" : Str) = ("links" : Str)) = False := eq_false (by decide +kernel)
@[simp] theorem ne_13 : (("stands" : Str) = ("steps" : Str)) = False := eq_false (by decide +kernel)
@[simp] theorem ne_14 : (("stands" : Str) = ("set_out" : Str)) = False := eq_false (by decide +kernel)
@[simp] theorem ne_15 : (("stands" : Str) = ("go" : Str)) = False := eq_false (by decide +kernel)
@[simp] theorem ne_16 : (("stands" : Str) = ("enter" : Str)) = False := eq_false (by decide +kernel)
@[simp] theorem ne_17 : (("stands" : Str) = ("follow" : Str)) = False := eq_false (by decide +kernel)
@[simp] theorem ne_18 : (("stands" : Str) = ("come_to" : Str)) = False := eq_false (by decide +kernel)
@[simp] theorem ne_19 : (("left" : Str) = ("things" : Str)) = False := eq_false (by decide +kernel)
@[simp] theorem ne_20 : (("left" : Str) = ("stands" : Str)) = False := eq_false (by decide +kernel)
@[simp] theorem ne_21 : (("left" : Str) = ("links" : Str)) = False := eq_false (by decide +kernel)
@[simp] theorem ne_22 : (("left" : Str) = ("steps" : Str)) = False := eq_false (by decide +kernel)
@[simp] theorem ne_23 : (("left" : Str) = ("set_out" : Str)) = False := eq_false (by decide +kernel)
@[simp] theorem ne_24 : (("left" : Str) = ("go" : Str)) = False := eq_false (by decide +kernel)
@[simp] theorem ne_25 : (("left" : Str) = ("enter" : Str)) = False := eq_false (by decide +kernel)
@[simp] theorem ne_26 : (("left" : Str) = ("follow" : Str)) = False := eq_false (by decide +kernel)
@[simp] theorem ne_27 : (("left" : Str) = ("come_to" : Str)) = False := eq_false (by decide +kernel)
@[simp] theorem ne_28 : (("links" : Str) = ("things" : Str)) = False := eq_false (by decide +kernel)
@[simp] theorem ne_29 : (("links" : Str) = ("stands" : Str)) = False := eq_false (by decide +kernel)
@[simp] theorem ne_30 : (("links" : Str) = ("left" : Str)) = False := eq_false (by decide +kernel)
@[simp] theorem ne_31 : (("links" : Str) = ("steps" : Str)) = False := eq_false (by decide +kernel)
@[simp] theorem ne_32 : (("links" : Str) = ("set_out" : Str)) = False := eq_false (by decide +kernel)
@[simp] theorem ne_33 : (("links" : Str) = ("go" : Str)) = False := eq_false (by decide +kernel)
@[simp] theorem ne_34 : (("links" : Str) = ("enter" : Str)) = False := eq_false (by decide +kernel)
@[simp] theorem ne_35 : (("links" : Str) = ("follow" : Str)) = False := eq_false (by decide +kernel)
@[simp] theorem ne_36 : (("links" : Str) = ("come_to" : Str)) = False := eq_false (by decide +kernel)
@[simp] theorem ne_37 : (("steps" : Str) = ("things" : Str)) = False := eq_false (by decide +kernel)
@[simp] theorem ne_38 : (("steps" : Str) = ("stands" : Str)) = False := eq_false (by decide +kernel)
@[simp] theorem ne_39 : (("steps" : Str) = ("left" : Str)) = False := eq_false (by decide +kernel)
@[simp] theorem ne_40 : (("steps" : Str) = ("links" : Str)) = False := eq_false (by decide +kernel)
@[simp] theorem ne_41 : (("steps" : Str) = ("set_out" : Str)) = False := eq_false (by decide +kernel)
@[simp] theorem ne_42 : (("steps" : Str) = ("go" : Str)) = False := eq_false (by decide +kernel)
@[simp] theorem ne_43 : (("steps" : Str) = ("enter" : Str)) = False := eq_false (by decide +kernel)
@[simp] theorem ne_44 : (("steps" : Str) = ("follow" : Str)) = False := eq_false (by decide +kernel)
@[simp] theorem ne_45 : (("steps" : Str) = ("come_to" : Str)) = False := eq_false (by decide +kernel)
@[simp] theorem ne_46 : (("folder" : Str) == ("link" : Str)) = false := by decide +kernel
@[simp] theorem ne_47 : (("file" : Str) == ("link" : Str)) = false := by decide +kernel
@[simp] theorem ne_48 : (("link" : Str) == ("file" : Str)) = false := by decide +kernel
@[simp] theorem ne_49 : (("folder" : Str) == ("file" : Str)) = false := by decide +kernel
@[simp] theorem ne_50 : (("link" : Str) == ("folder" : Str)) = false := by decide +kernel
@[simp] theorem ne_51 : (("file" : Str) == ("folder" : Str)) = false := by decide +kernel

abbrev W (T : List (List Str × D)) (s : D) (l : D) (n : Int) (st : List D) : D := .obj ("Walk" : Str) [(("things" : Str), false, .dT T), (("stands" : Str), false, s), (("left" : Str), true, l), (("links" : Str), false, .int n), (("steps" : Str), true, .lst st)]
abbrev ent (e : List Str × D × D) : D := .tup [.tup (e.1.map .str), e.2.1, e.2.2]
abbrev putE (acc : List (List Str × D)) (e : List Str × D × D) : List (List Str × D) := dput acc e.1 (.tup [e.2.1, e.2.2])
theorem dput_len (kvs : List (List Str × D)) (k : List Str) (v : D) : (dput kvs k v).length ≤ kvs.length + 1 := by
  unfold dput
  split <;> simp
theorem by_loop (a : D) : ∀ (es : List (List Str × D × D)) (acc : List (List Str × D)) (s : Sl), s.isIo = false → acc.length + es.length ≤ 1000 →
    ∃ s', forL 2 lb_by_way_1 (es.map ent) [.sh a, .ow (.dT acc), s] = .nx [.sh a, .ow (.dT (es.foldl putE acc)), s']
  | [], acc, s, _, _ => ⟨s, rfl⟩
  | e :: es, acc, s, hs, hl => by
    have hl' : acc.length + (es.length + 1) ≤ 1000 := hl
    have hd := dput_len acc e.1 (.tup [e.2.1, e.2.2])
    obtain ⟨s', q⟩ := by_loop a es (putE acc e) (.sh (ent e)) rfl (by show (dput acc e.1 _).length + _ ≤ _; omega)
    refine ⟨s', ?_⟩
    have hz : acc.length < sizeLine := by rw [sizeL]; omega
    have eb : lb_by_way_1 [.sh a, .ow (.dT acc), .sh (ent e)] = .nx [.sh a, .ow (.dT (putE acc e)), .sh (ent e)] := by
      simp [lb_by_way_1, ent, atI, ixN, Plc.get, Plc.put, Sl.owned, Sl.with, D.flat1, dputF, hz]
    simp only [List.map_cons, forL, List.foldl_cons]
    simp [hs, eb, q]
theorem p_by_way (es : List (List Str × D × D)) (hl : es.length ≤ 1000) : m_by_way [.lst (es.map ent)] = .ok (.ow (.dT (es.foldl putE []))) := by
  obtain ⟨s', q⟩ := by_loop (.lst (es.map ent)) es [] .un rfl (by simpa using hl)
  simp [m_by_way, runF, initT, eq_by_way, itA, q]
theorem p_init (es : List (List Str × D × D)) (hl : es.length ≤ 1000) (s : D) : m_Walk_init (.obj ("Walk" : Str) []) [.lst (es.map ent), s] = .ok (.sh .non) (W (es.foldl putE []) s (.lst []) 0 []) := by
  simp [m_Walk_init, runM, initT, b_Walk_init, p_by_way es hl, Plc.get, Plc.put, Sl.owned, Sl.with, fput]
theorem p_set_out (T : List (List Str × D)) (s : D) (l ws : List D) (n : Int) (st : List D) (r : Bool) (hl : ws.length + l.length ≤ 1000) :
    m_Walk_set_out (W T s (.lst l) n st) [.bl r, .lst ws] = .ok (.sh .non) (W T (if r then .tup [] else s) (.lst (ws ++ l)) n st) := by
  have ad : addD (.lst ws) (.lst l) = .ok (.ow (.lst (ws ++ l))) := by
    show (if ws.length + l.length ≤ sizeLine then _ else _) = _
    rw [if_pos (by rw [sizeL]; omega)]
  cases r <;> simp [m_Walk_set_out, runM, initT, b_Walk_set_out, Plc.get, Plc.put, Sl.owned, Sl.with, fput, fldD, flook, ad]
/-- a step by a name -/
def Pas (T : List (List Str × D)) (s : List Str) (x : Str) (last : Bool) : Prop := ∃ (m : Str) (t : D), dlook T (s ++ [x]) = some (.tup [.str m, t]) ∧ (m = ("folder" : Str) ∨ (m = ("file" : Str) ∧ last = true))
theorem p_enter {T : List (List Str × D)} {s : List Str} {x : Str} {l : List D} (n : Int) (st : List D) (h : Pas T s x l.isEmpty) (hl : s.length ≤ 1000) :
    m_Walk_enter (W T (.tup (s.map .str)) (.lst l) n st) [.str x] = .ok (.sh .non) (W T (.tup ((s ++ [x]).map .str)) (.lst l) n st) := by
  obtain ⟨m, t, h1, h2⟩ := h
  have ad : addD (.tup (s.map D.str)) (.tup [.str x]) = .ok (.sh (.tup ((s ++ [x]).map .str))) := by
    show (if (s.map D.str).length + 1 ≤ sizeLine then _ else _) = _
    rw [if_pos (by rw [sizeL, List.length_map]; omega), List.map_append]
    rfl
  have gt : dgetD (.dT T) (.tup ((s ++ [x]).map .str)) = .ok (some (.tup [.str m, t])) := by
    show (match (D.tup ((s ++ [x]).map .str)).key with | some w => R.ok (dlook T w) | none => .bad) = _
    rw [key_strs]
    exact congrArg R.ok h1
  rcases h2 with rfl | ⟨rfl, hl⟩
  · simp only [m_Walk_enter, runM, initT, b_Walk_enter, fldD, flook, sSeq_ap, sSet_ap]
    simp [ad, gt, Plc.get, Plc.put, Sl.owned, Sl.with, fput, fldD, flook, isDict, isND, D.isNon, atI, ixN, -List.map_append]
  · have : l = [] := by simpa using hl
    subst this
    simp only [m_Walk_enter, runM, initT, b_Walk_enter, fldD, flook, sSeq_ap, sSet_ap]
    simp [ad, gt, Plc.get, Plc.put, Sl.owned, Sl.with, fput, fldD, flook, isDict, isND, D.isNon, atI, ixN, -List.map_append]
theorem p_enter_none {T : List (List Str × D)} {s : List Str} {x : Str} {l : List D} (n : Int) (st : List D) (h : dlook T (s ++ [x]) = none) (hl : s.length ≤ 1000) :
    m_Walk_enter (W T (.tup (s.map .str)) (.lst l) n st) [.str x] = .er ("Missing" : Str) (W T (.tup (s.map .str)) (.lst l) n st) := by
  have ad : addD (.tup (s.map D.str)) (.tup [.str x]) = .ok (.sh (.tup ((s ++ [x]).map .str))) := by
    show (if (s.map D.str).length + 1 ≤ sizeLine then _ else _) = _
    rw [if_pos (by rw [sizeL, List.length_map]; omega), List.map_append]
    rfl
  have gt : dgetD (.dT T) (.tup ((s ++ [x]).map .str)) = .ok none := by
    show (match (D.tup ((s ++ [x]).map .str)).key with | some w => R.ok (dlook T w) | none => .bad) = _
    rw [key_strs]
    exact congrArg R.ok h
  simp [m_Walk_enter, runM, initT, b_Walk_enter, ad, gt, fldD, flook, isDict, isND, D.isNon, -List.map_append]
end Lk50
end

section
set_option autoImplicit false
set_option relaxedAutoImplicit false
set_option linter.all false
set_option Elab.async false
set_option maxRecDepth 100000
namespace Lk50
open PySem PySem.Spec PyProof.Rows L2 DL TL
def cd_go : Tau → R Bool := (tst (op2 gtD (rd (cal1 lenD (aC (rd (fldE ("Walk" : Str) ("left" : Str) (rd (vR 0)))) aN))) (vC (.int 0))))
def wh_go : Nat → FS := whileF cd_go lb_Walk_go_1
theorem go_eq : b_Walk_go = wh_go 100000 := rfl
theorem wh_succ (n : Nat) (τ : Tau) : wh_go (n + 1) τ = Fl.of (cd_go τ) τ fun t => if t then (lb_Walk_go_1 τ).seq (wh_go n) else .nx τ := rfl
theorem cd_nil (T : List (List Str × D)) (s : D) (n : Int) (st : List D) (a b : Sl) : cd_go [.io (W T s (.lst []) n st), a, b] = .ok false := by
  simp [cd_go, fldD, flook]
theorem cd_cons (T : List (List Str × D)) (s d : D) (l : List D) (n : Int) (st : List D) (a b : Sl) : cd_go [.io (W T s (.lst (d :: l)) n st), a, b] = .ok true := by
  have : (0 : Int) < (l.length : Int) + 1 := by omega
  simp [cd_go, fldD, flook, this]
theorem nm_ne {x : Str} (h : Nm x) : (x == D1) = false ∧ (x == D2) = false := by
  constructor <;>
  · rw [beq_eq_false_iff_ne]
    rintro rfl
    exact sg_nodot (h.2.2 46 (by decide +kernel))
theorem go_step {T : List (List Str × D)} {s : List Str} {x : Str} {l : List D} (n : Int) (st : List D) (a b : Sl) (ha : a.isIo = false) (hb : b.isIo = false) (hx : Nm x) (h : Pas T s x l.isEmpty) (hl : s.length ≤ 1000) (hs : st.length ≤ 1000) :
    lb_Walk_go_1 [.io (W T (.tup (s.map .str)) (.lst (.str x :: l)) n st), a, b] = .nx [.io (W T (.tup ((s ++ [x]).map .str)) (.lst l) n (st ++ [.tup [.tup (s.map .str), .str x, .tup ((s ++ [x]).map .str)]])), .sh (.tup (s.map .str)), .sh (.str x)] := by
  obtain ⟨n1, n2⟩ := nm_ne hx
  have e := p_enter n st h hl
  have hz : st.length < sizeLine := by rw [sizeL]; omega
  simp [lb_Walk_go_1, fldD, flook, ha, hb, Plc.get, Plc.put, Sl.owned, Sl.with, fput, seqIndex?, n1, n2, e, RM.at, hz, -List.map_append]
theorem go_miss {T : List (List Str × D)} {s : List Str} {x : Str} {l : List D} (n : Int) (st : List D) (a b : Sl) (ha : a.isIo = false) (hb : b.isIo = false) (hx : Nm x) (h : dlook T (s ++ [x]) = none) (hl : s.length ≤ 1000) :
    ∃ d τ, lb_Walk_go_1 [.io (W T (.tup (s.map .str)) (.lst (.str x :: l)) n st), a, b] = .er ("Missing" : Str) (.io d :: τ) := by
  obtain ⟨n1, n2⟩ := nm_ne hx
  have e := p_enter_none (l := l) n st h hl
  refine ⟨W T (.tup (s.map .str)) (.lst l) n st, [.sh (.tup (s.map .str)), .sh (.str x)], ?_⟩
  simp [lb_Walk_go_1, fldD, flook, ha, hb, Plc.get, Plc.put, Sl.owned, Sl.with, fput, seqIndex?, n1, n2, e, RM.at, -List.map_append]
def Chn (T : List (List Str × D)) : List Str → List Str → Prop
  | _, [] => True
  | s, x :: r => Pas T s x r.isEmpty ∧ Chn T (s ++ [x]) r
theorem go_all {T : List (List Str × D)} (n : Int) : ∀ (ws s : List Str) (st : List D) (a b : Sl) (k : Nat), a.isIo = false → b.isIo = false → (∀ x ∈ ws, Nm x) → Chn T s ws → s.length + ws.length ≤ 900 → st.length + ws.length ≤ 900 → ws.length < k →
    ∃ st' a' b', wh_go k [.io (W T (.tup (s.map .str)) (.lst (ws.map .str)) n st), a, b] = .nx [.io (W T (.tup ((s ++ ws).map .str)) (.lst []) n st'), a', b']
  | [], s, st, a, b, k, _, _, _, _, _, _, hk => by
    obtain ⟨j, rfl⟩ : ∃ j, k = j + 1 := ⟨k - 1, by simp at hk; omega⟩
    refine ⟨st, a, b, ?_⟩
    rw [wh_succ, List.map_nil, cd_nil, List.append_nil]
    rfl
  | x :: r, s, st, a, b, k, ha, hb, hn, hc, hl, hs, hk => by
    obtain ⟨j, rfl⟩ : ∃ j, k = j + 1 := ⟨k - 1, by simp at hk; omega⟩
    have hl' : s.length + (r.length + 1) ≤ 900 := hl
    have hs' : st.length + (r.length + 1) ≤ 900 := hs
    have hk' : r.length + 1 < j + 1 := hk
    have h1 : Pas T s x (r.map D.str).isEmpty := by
      have := hc.1
      cases r <;> exact this
    have e := go_step n st a b ha hb (hn x (List.mem_cons_self ..)) h1 (by omega) (by omega)
    obtain ⟨st', a', b', e2⟩ := go_all n r (s ++ [x]) (st ++ [.tup [.tup (s.map .str), .str x, .tup ((s ++ [x]).map .str)]]) (.sh (.tup (s.map .str))) (.sh (.str x)) j rfl rfl (fun z m => hn z (List.mem_cons_of_mem _ m)) hc.2 (by rw [List.length_append]; simp; omega) (by rw [List.length_append]; simp; omega) (by omega)
    refine ⟨st', a', b', ?_⟩
    rw [wh_succ, List.map_cons, cd_cons]
    show (lb_Walk_go_1 _).seq (wh_go j) = _
    rw [e, Fl.seq_nx, e2, List.append_assoc]
    rfl
theorem p_go {T : List (List Str × D)} {ws s : List Str} (n : Int) (hn : ∀ x ∈ ws, Nm x) (hc : Chn T s ws) (hl : s.length + ws.length ≤ 900) :
    ∃ st', m_Walk_go (W T (.tup (s.map .str)) (.lst (ws.map .str)) n []) [] = .ok (.sh .non) (W T (.tup ((s ++ ws).map .str)) (.lst []) n st') := by
  obtain ⟨st', a', b', e⟩ := go_all n ws s [] .un .un 100000 rfl rfl hn hc hl (by simp; omega) (by omega)
  refine ⟨st', ?_⟩
  have e' : b_Walk_go [.io (W T (.tup (s.map .str)) (.lst (ws.map .str)) n []), .un, .un] = _ := e
  show (b_Walk_go [.io (W T (.tup (s.map .str)) (.lst (ws.map .str)) n []), .un, .un]).resM = _
  rw [e']
  rfl
theorem p_go_miss {T : List (List Str × D)} {s : List Str} {x : Str} (n : Int) (hx : Nm x) (h : dlook T (s ++ [x]) = none) (hl : s.length ≤ 900) :
    ∃ d, m_Walk_go (W T (.tup (s.map .str)) (.lst [.str x]) n []) [] = .er ("Missing" : Str) d := by
  obtain ⟨d, τ, e⟩ := go_miss (l := []) n [] .un .un rfl rfl hx h (by omega)
  refine ⟨d, ?_⟩
  show (wh_go (99999 + 1) [.io (W T (.tup (s.map .str)) (.lst [.str x]) n []), .un, .un]).resM = _
  rw [wh_succ, cd_cons, Fl.of_ok, if_pos rfl, e]
  rfl
theorem p_go_nil (T : List (List Str × D)) (s : D) (n : Int) : m_Walk_go (W T s (.lst []) n []) [] = .ok (.sh .non) (W T s (.lst []) n []) := by
  show (wh_go (99999 + 1) [.io (W T s (.lst []) n []), .un, .un]).resM = _
  rw [wh_succ, cd_nil]
  rfl
theorem p_above (l : List D) : m_above [.tup l] = .ok (.sh (.tup (DL.cutD l none (some (-1))))) := by
  simp [m_above, runF, initT, b_above, slD]
theorem p_go_dot (T : List (List Str × D)) (s : D) (n : Int) : ∃ st, m_Walk_go (W T s (.lst [.str D1]) n []) [] = .ok (.sh .non) (W T s (.lst []) n st) := by
  have e : lb_Walk_go_1 [.io (W T s (.lst [.str D1]) n []), .un, .un] = .nx [.io (W T s (.lst []) n [.tup [s, .str D1, s]]), .sh s, .sh (.str D1)] := by
    have hz : 0 < sizeLine := by rw [sizeL]; omega
    have h2 : (D1 == D2) = false := by decide +kernel
    simp [lb_Walk_go_1, fldD, flook, Plc.get, Plc.put, Sl.owned, Sl.with, fput, seqIndex?, RM.at, hz, h2]
  refine ⟨[.tup [s, .str D1, s]], ?_⟩
  show (wh_go (99998 + 1 + 1) [.io (W T s (.lst [.str D1]) n []), .un, .un]).resM = _
  rw [wh_succ, cd_cons, Fl.of_ok, if_pos rfl, e, Fl.seq_nx, wh_succ, cd_nil]
  rfl
theorem p_go_up (T : List (List Str × D)) (l : List D) (n : Int) : ∃ st, m_Walk_go (W T (.tup l) (.lst [.str D2]) n []) [] = .ok (.sh .non) (W T (.tup (DL.cutD l none (some (-1)))) (.lst []) n st) := by
  have e : lb_Walk_go_1 [.io (W T (.tup l) (.lst [.str D2]) n []), .un, .un] = .nx [.io (W T (.tup (DL.cutD l none (some (-1)))) (.lst []) n [.tup [.tup l, .str D2, .tup (DL.cutD l none (some (-1)))]]), .sh (.tup l), .sh (.str D2)] := by
    have hz : 0 < sizeLine := by rw [sizeL]; omega
    simp [lb_Walk_go_1, fldD, flook, Plc.get, Plc.put, Sl.owned, Sl.with, fput, seqIndex?, RM.at, hz, p_above]
  refine ⟨[.tup [.tup l, .str D2, .tup (DL.cutD l none (some (-1)))]], ?_⟩
  show (wh_go (99998 + 1 + 1) [.io (W T (.tup l) (.lst [.str D2]) n []), .un, .un]).resM = _
  rw [wh_succ, cd_cons, Fl.of_ok, if_pos rfl, e, Fl.seq_nx, wh_succ, cd_nil]
  rfl
end Lk50
end

section
set_option autoImplicit false
set_option relaxedAutoImplicit false
set_option linter.all false
set_option Elab.async false
set_option maxRecDepth 100000
namespace Lk50
open PySem PySem.Spec PyProof.Rows L2 DL TL
@[simp] theorem mkR_non (d : D) : mkR (.ok (.sh .non) d) = .ok (.ow d) := rfl
@[simp] theorem rmD_sh (x d : D) : rmD (.ok (.sh x) d) = .ok (.sh x) := rfl
@[simp] theorem rmD_er (c : Str) (d : D) : rmD (.er c d) = .er c := rfl
theorem p_find {es : List (List Str × D × D)} (hes : es.length ≤ 1000) {s s' : D} {txt : Str} {r : Bool} {ws : List D} (hws : ws.length ≤ 900) {st : List D}
    (h1 : m_words_of [.str txt] = .ok (.sh (.tup [.bl r, .lst ws])))
    (h2 : m_Walk_go (W (es.foldl putE []) (if r then .tup [] else s) (.lst ws) 0 []) [] = .ok (.sh .non) (W (es.foldl putE []) s' (.lst []) 0 st)) :
    m_find_way [.lst (es.map ent), s, .str txt] = .ok (.sh s') := by
  have e1 := p_init es hes s
  have e2 := p_set_out (es.foldl putE []) s [] ws 0 [] r (by simp; omega)
  rw [List.append_nil] at e2
  have e3 : m_walked [.lst (es.map ent), s, .str txt] = .ok (.ow (W (es.foldl putE []) s' (.lst []) 0 st)) := by
    simp only [m_walked, runF, initT, b_walked, sSeq_ap, sUnp_ap, kp_ap, cal1_ap, aC_ap, aN_ap, vR_ap]
    simp [h1, e1, e2, h2, Plc.get, Plc.put, Sl.owned, Sl.with, flook, RM.at]
  simp [m_find_way, runF, initT, b_find_way, e3, fldD, flook]
theorem p_find_miss {es : List (List Str × D × D)} (hes : es.length ≤ 1000) {s d : D} {txt : Str} {r : Bool} {ws : List D} (hws : ws.length ≤ 900)
    (h1 : m_words_of [.str txt] = .ok (.sh (.tup [.bl r, .lst ws])))
    (h2 : m_Walk_go (W (es.foldl putE []) (if r then .tup [] else s) (.lst ws) 0 []) [] = .er ("Missing" : Str) d) :
    m_find_way [.lst (es.map ent), s, .str txt] = .er ("Missing" : Str) := by
  have e1 := p_init es hes s
  have e2 := p_set_out (es.foldl putE []) s [] ws 0 [] r (by simp; omega)
  rw [List.append_nil] at e2
  have e3 : m_walked [.lst (es.map ent), s, .str txt] = .er ("Missing" : Str) := by
    simp only [m_walked, runF, initT, b_walked, sSeq_ap, sUnp_ap, kp_ap, cal1_ap, aC_ap, aN_ap, vR_ap]
    simp [h1, e1, e2, h2, Plc.get, Plc.put, Sl.owned, Sl.with, flook, RM.at]
  simp [m_find_way, runF, initT, b_find_way, e3]
theorem cut_last {α : Type} (xs : List α) (x : α) : DL.cutD (xs ++ [x]) none (some (-1)) = xs := by
  unfold DL.cutD
  have e : HT.sIx (xs ++ [x]).length (xs ++ [x]).length (some (-1)) = xs.length := by
    have e0 : ∀ n : Nat, HT.sIx n n (some (-1)) = ((-1 : Int) + (n : Int)).toNat := fun n => rfl
    rw [e0, List.length_append, List.length_singleton]
    omega
  rw [e, HT.sIx_none]
  simp
theorem cut_nil {α : Type} : DL.cutD ([] : List α) none (some (-1)) = [] := by
  unfold DL.cutD
  simp
theorem at_last {α : Type} (xs : List α) (x : α) : atI (xs ++ [x]) (-1) = some x := by
  unfold atI ixN
  have h : ¬ (0 : Int) ≤ -1 := by decide
  have h2 : -(((xs ++ [x]).length : Nat) : Int) ≤ -1 := by rw [List.length_append, List.length_singleton]; omega
  rw [if_neg h, if_pos h2]
  have h3 : ((-1 : Int) + (((xs ++ [x]).length : Nat) : Int)).toNat = xs.length := by rw [List.length_append, List.length_singleton]; omega
  rw [h3]
  simp
theorem at0 {α : Type} (a : α) (l : List α) : atI (a :: l) 0 = some a := at_nat (a :: l) 0
/-- where a thing may lie: nothing, or a folder -/
def Fok (T : List (List Str × D)) (w : List Str) : Prop := dlook T w = none ∨ ∃ t : D, dlook T w = some (.tup [.str ("folder" : Str), t])
theorem p_place {es : List (List Str × D × D)} (hes : es.length ≤ 1000) {s : D} {w : List Str} {txt x : Str} {r : Bool} {ws : List Str} (hws : ws.length ≤ 900) (hw : w.length ≤ 900) {st : List D} (hx : Nm x)
    (h1 : m_words_of [.str txt] = .ok (.sh (.tup [.bl r, .lst ((ws ++ [x]).map .str)])))
    (h2 : m_Walk_go (W (es.foldl putE []) (if r then .tup [] else s) (.lst (ws.map .str)) 0 []) [] = .ok (.sh .non) (W (es.foldl putE []) (.tup (w.map .str)) (.lst []) 0 st))
    (h3 : Fok (es.foldl putE []) w) :
    m_place_of [.lst (es.map ent), s, .str txt] = .ok (.sh (.tup ((w ++ [x]).map .str))) := by
  have e1 := p_init es hes s
  have e2 := p_set_out (es.foldl putE []) s [] (ws.map .str) 0 [] r (by simp; omega)
  rw [List.append_nil] at e2
  have em : ((ws ++ [x]).map D.str) = ws.map D.str ++ [.str x] := by rw [List.map_append]; rfl
  rw [em] at h1
  have ad : addD (.tup (w.map D.str)) (.tup [.str x]) = .ok (.sh (.tup ((w ++ [x]).map .str))) := by
    show (if (w.map D.str).length + 1 ≤ sizeLine then _ else _) = _
    rw [if_pos (by rw [sizeL, List.length_map]; omega), List.map_append]
    rfl
  have lz : ((((ws.map D.str ++ [D.str x]).length : Nat) : Int) == 0) = false := by
    rw [List.length_append, List.length_singleton, beq_eq_false_iff_ne]
    omega
  have gt : dgetD (.dT (es.foldl putE [])) (.tup (w.map .str)) = .ok (dlook (es.foldl putE []) w) := by
    show (match (D.tup (w.map .str)).key with | some w => R.ok (dlook (es.foldl putE []) w) | none => .bad) = _
    rw [key_strs]
  have e3 : m_Walk_come_to (W (es.foldl putE []) s (.lst []) 0 []) [.bl r, .lst (ws.map D.str ++ [.str x])] = .ok (.sh (.tup ((w ++ [x]).map .str))) (W (es.foldl putE []) (.tup (w.map .str)) (.lst []) 0 st) := by
    rcases h3 with h3 | ⟨t, h3⟩
    · rw [h3] at gt
      simp only [m_Walk_come_to, runM, initT, b_Walk_come_to, sSeq_ap]
      simp [lz, p_is_name hx, at_last, cut_last, slD, e2, h2, gt, ad, Plc.get, Plc.put, Sl.owned, Sl.with, flook, RM.at, fldD, isDict, notND, D.isNon, -List.map_append, -List.length_append]
    · rw [h3] at gt
      simp only [m_Walk_come_to, runM, initT, b_Walk_come_to, sSeq_ap]
      simp [lz, p_is_name hx, at_last, cut_last, slD, e2, h2, gt, ad, Plc.get, Plc.put, Sl.owned, Sl.with, flook, RM.at, fldD, isDict, notND, D.isNon, at0, -List.map_append, -List.length_append]
  simp [m_place_of, runF, initT, b_place_of, h1, e1, e3, flook, -List.map_append]
theorem isway_loop (l : List Str) : ∀ (ks : List Nat) (s : Sl), s.isIo = false → (∀ k ∈ ks, k < l.length) → ∃ s', forL 2 lb_l_is_way_1 (ks.map fun (k : Nat) => D.int (0 + (k : Int))) [.sh (.tup (l.map .str)), .sh (.tup (l.map .str)), s] = .nx [.sh (.tup (l.map .str)), .sh (.tup (l.map .str)), s']
  | [], s, _, _ => ⟨s, rfl⟩
  | k :: ks, s, hs, h => by
    obtain ⟨s', e⟩ := isway_loop l ks (.sh (.int (0 + (k : Int)))) rfl fun j m => h j (List.mem_cons_of_mem _ m)
    refine ⟨s', ?_⟩
    have hk : k < l.length := h k (List.mem_cons_self ..)
    have ea : atI (l.map D.str) (0 + (k : Int)) = some (.str l[k]) := by
      rw [Int.zero_add, at_nat, List.getElem?_map, List.getElem?_eq_getElem hk]
      rfl
    have k1 : kitB "str" "str" = some true := rfl
    have eb : lb_l_is_way_1 [.sh (.tup (l.map .str)), .sh (.tup (l.map .str)), .sh (.int (0 + (k : Int)))] = .nx [.sh (.tup (l.map .str)), .sh (.tup (l.map .str)), .sh (.int (0 + (k : Int)))] := by
      simp [lb_l_is_way_1, -Int.zero_add, ea, tyn, k1]
    simp only [List.map_cons, forL]
    simp only [put_ap, List.getElem?_cons_succ, List.getElem?_cons_zero, hs, bw_sh, Bool.or_false, List.set_cons_succ, List.set_cons_zero, Fl.seq_nx]
    simp [-Int.zero_add, eb, e, hs]
theorem small62 (n : Nat) (h : n ≤ 1000000) : -(2 ^ 62) ≤ (n : Int) ∧ (n : Int) < 2 ^ 62 := ⟨Int.le_trans (by decide) (Int.natCast_nonneg n), Int.lt_of_le_of_lt (Int.ofNat_le.mpr h) (by decide)⟩
theorem iR1_int {f : Tau → R D} {τ : Tau} {n : Nat} (hf : f τ = .ok (.int (n : Int))) (h : n ≤ 1000000) : iR1 f τ = .ok (rngD 0 n) := by
  rw [iR1_ap, hf, R.bind_ok]
  dsimp only
  rw [if_pos (small62 n h), Int.toNat_natCast]
end Lk50
end

section
set_option autoImplicit false
set_option relaxedAutoImplicit false
set_option linter.all false
set_option Elab.async false
set_option maxRecDepth 100000
namespace Lk50
open PySem PySem.Spec PyProof.Rows L2 DL TL

theorem p_is_way (l : List Str) (hl : l.length ≤ 1000) : m_l_is_way [.tup (l.map .str), .tup (l.map .str)] = .ok (.sh (.bl true)) := by
  obtain ⟨s', e⟩ := isway_loop l (List.range l.length) .un rfl fun k m => List.mem_range.mp m
  have rg : ((List.range l.length).map fun (k : Nat) => D.int (0 + (k : Int))) = rngD 0 l.length := rfl
  rw [rg] at e
  have k1 : kitB "tuple" "tuple" = some true := by decide +kernel
  have ei : iR1 (kp (cal1 lenD (aC (rd (vR 1)) aN))) [.sh (.tup (l.map .str)), .sh (.tup (l.map .str)), .un] = .ok (rngD 0 l.length) :=
    iR1_int (by rw [kp_ap, cal1_ap, aC_ap, aN_ap, rd_ap, vR_ap]; show R.ok (D.int (((l.map D.str).length : Nat) : Int)) = _; rw [List.length_map]) (by omega)
  have t1 : isiD "tuple" (rd (vR 0)) [.sh (.tup (l.map .str)), .sh (.tup (l.map .str)), .un] = .ok (.bl true) := by
    rw [isiD_ap, rd_ap, vR_ap]
    show (match kitB "tuple" "tuple" with | some b => R.ok (D.bl b) | none => .bad) = _
    rw [k1]
  show (b_l_is_way [.sh (.tup (l.map .str)), .sh (.tup (l.map .str)), .un]).res = _
  rw [eq_l_is_way]
  simp -implicitDefEqProofs [-iR1_ap, -isiD_ap, t1, ei, e]
end Lk50
end

section
set_option autoImplicit false
set_option relaxedAutoImplicit false
set_option linter.all false
set_option Elab.async false
set_option maxRecDepth 100000
namespace Lk50
open PySem PySem.Spec PyProof.Rows L2 DL TL
theorem dlook_app {α : Type} (l : List (List Str × α)) (k : List Str) (v : α) (q : List Str) : dlook (l ++ [(k, v)]) q = match dlook l q with | some d => some d | none => if k = q then some v else none := by
  induction l with
  | nil => rfl
  | cons p r ih =>
    rw [List.cons_append, dlook, dlook]
    by_cases e : p.1 = q
    · rw [if_pos e, if_pos e]
    · rw [if_neg e, if_neg e, ih]
theorem dlook_map {α : Type} (k : List Str) (v : α) (q : List Str) : ∀ l : List (List Str × α), dlook (l.map (fun kv => if kv.1 = k then (kv.1, v) else kv)) q = if q = k then (dlook l q).map (fun _ => v) else dlook l q
  | [] => by simp [dlook]
  | p :: r => by
    have ih := dlook_map k v q r
    rw [List.map_cons, dlook, dlook]
    by_cases e1 : p.1 = k
    · rw [if_pos e1]
      by_cases e2 : p.1 = q
      · rw [if_pos e2, if_pos e2, if_pos (e2.symm.trans e1)]; rfl
      · rw [if_neg e2, if_neg e2, ih]
    · rw [if_neg e1]
      by_cases e2 : p.1 = q
      · rw [if_pos e2, if_pos e2, if_neg (fun h => e1 (e2.trans h))]
      · rw [if_neg e2, if_neg e2, ih]
theorem dlook_put {α : Type} (l : List (List Str × α)) (k : List Str) (v : α) (q : List Str) : dlook (dput l k v) q = if q = k then some v else dlook l q := by
  unfold dput
  by_cases h : (dlook l k).isSome = true
  · rw [if_pos h, dlook_map]
    by_cases e : q = k
    · subst e
      rw [if_pos rfl, if_pos rfl]
      obtain ⟨d, hd⟩ := Option.isSome_iff_exists.mp h
      rw [hd]; rfl
    · rw [if_neg e, if_neg e]
  · rw [if_neg h, dlook_app]
    by_cases e : q = k
    · subst e
      have : dlook l q = none := by simpa using h
      rw [if_pos rfl, this]
      simp
    · rw [if_neg e]
      cases dlook l q with
      | none => exact (if_neg fun h => e (Eq.symm h)).symm.symm
      | some d => rfl
theorem dlook_mem {α : Type} {l : List (List Str × α)} {k : List Str} {d : α} : dlook l k = some d → k ∈ l.map (·.1) := by
  induction l with
  | nil => intro h; cases h
  | cons p r ih =>
    intro h
    rw [dlook] at h
    by_cases e : p.1 = k
    · rw [List.map_cons, e]; exact List.mem_cons_self ..
    · rw [if_neg e] at h
      exact List.mem_cons_of_mem _ (ih h)
theorem mem_dlook {α : Type} {l : List (List Str × α)} {k : List Str} : k ∈ l.map (·.1) → ∃ d, dlook l k = some d := by
  induction l with
  | nil => intro h; cases h
  | cons p r ih =>
    intro h
    rw [dlook]
    by_cases e : p.1 = k
    · exact ⟨_, if_pos e⟩
    · rw [if_neg e]
      rcases List.mem_cons.mp h with h | h
      · exact absurd h.symm e
      · exact ih h
abbrev FO : Str := ("folder" : Str)
abbrev FI : Str := ("file" : Str)
abbrev LI : Str := ("link" : Str)
/-- what the hall holds -/
structure Hall (kvs : List (List Str × D)) (fs : List (List Str)) : Prop where
  good : ∀ w d, dlook kvs w = some d → w ≠ [] ∧ w.length ≤ 12 ∧ (∀ x ∈ w, Nm x) ∧ ∃ m t : Str, d = .tup [.str m, .str t] ∧ (m = FO ∨ m = LI ∨ m = FI)
  par : ∀ w x d, dlook kvs (w ++ [x]) = some d → w ∈ fs
  fol : ∀ w ∈ fs, w = [] ∨ ∃ t : Str, dlook kvs w = some (.tup [.str FO, .str t])
  root : [] ∈ fs
  inn : ∀ w d, dlook kvs w = some (.tup [.str FO, d]) → w ∈ fs
theorem Hall.nm {kvs : List (List Str × D)} {fs : List (List Str)} (h : Hall kvs fs) {w : List Str} (m : w ∈ fs) : w.length ≤ 12 ∧ ∀ x ∈ w, Nm x := by
  rcases h.fol w m with rfl | ⟨t, e⟩
  · exact ⟨by simp, fun x m => by cases m⟩
  · exact ⟨(h.good w _ e).2.1, (h.good w _ e).2.2.1⟩
theorem Hall.pre {kvs : List (List Str × D)} {fs : List (List Str)} (h : Hall kvs fs) (s : List Str) : ∀ (n : Nat) (r : List Str), r.length = n → s ++ r ∈ fs → s ∈ fs
  | 0, r, e, m => by
    have : r = [] := List.length_eq_zero_iff.mp e
    subst this
    rwa [List.append_nil] at m
  | n + 1, r, e, m => by
    have hne : r ≠ [] := by intro q; subst q; cases e
    obtain ⟨r', x, rfl⟩ : ∃ r' x, r = r' ++ [x] := ⟨r.dropLast, r.getLast hne, (List.dropLast_concat_getLast hne).symm⟩
    have hl : r'.length = n := by rw [List.length_append] at e; simpa using e
    rcases h.fol _ m with q | ⟨t, q⟩
    · simp at q
    · rw [← List.append_assoc] at q
      exact Hall.pre h s n r' hl (h.par _ _ _ q)
theorem Hall.put {kvs : List (List Str × D)} {fs : List (List Str)} (h : Hall kvs fs) {w : List Str} {x : Str} (hw : w ∈ fs) (hx : Nm x) (hl : w.length < 12) (hn : dlook kvs (w ++ [x]) = none) {m t : Str} (hm : m = LI ∨ m = FI) (k1 : List (List Str × D)) (hk : ∀ q, dlook k1 q = if q = w ++ [x] then some (.tup [.str m, .str t]) else dlook kvs q) : Hall k1 fs where
  good := fun q d e => by
    rw [hk] at e
    by_cases c : q = w ++ [x]
    · rw [if_pos c] at e
      cases e
      subst c
      refine ⟨by simp, by rw [List.length_append, List.length_singleton]; omega, fun z mz => ?_, m, t, rfl, .inr hm⟩
      rcases List.mem_append.mp mz with mz | mz
      · exact (h.nm hw).2 z mz
      · rw [List.mem_singleton.mp mz]; exact hx
    · rw [if_neg c] at e
      exact h.good q d e
  par := fun q z d e => by
    rw [hk] at e
    by_cases c : q ++ [z] = w ++ [x]
    · obtain ⟨rfl, _⟩ := List.append_inj' c rfl
      exact hw
    · rw [if_neg c] at e
      exact h.par q z d e
  fol := fun q mq => by
    rcases h.fol q mq with c | ⟨t, c⟩
    · exact .inl c
    · refine .inr ⟨t, ?_⟩
      rw [hk, if_neg (fun e => by rw [e, hn] at c; cases c)]
      exact c
  root := h.root
  inn := fun q d e => by
    rw [hk] at e
    by_cases c : q = w ++ [x]
    · rw [if_pos c] at e
      injection e with e
      injection e with e
      injection e with e _
      injection e with e
      rcases hm with hm | hm
      · exact absurd (hm.symm.trans e) (by decide +kernel)
      · exact absurd (hm.symm.trans e) (by decide +kernel)
    · rw [if_neg c] at e
      exact h.inn q d e
theorem Hall.putF {kvs : List (List Str × D)} {fs : List (List Str)} (h : Hall kvs fs) {w : List Str} {x : Str} (hw : w ∈ fs) (hx : Nm x) (hl : w.length < 12) (hn : dlook kvs (w ++ [x]) = none) {t : Str} (k1 : List (List Str × D)) (hk : ∀ q, dlook k1 q = if q = w ++ [x] then some (.tup [.str FO, .str t]) else dlook kvs q) : Hall k1 (fs ++ [w ++ [x]]) where
  good := fun q d e => by
    rw [hk] at e
    by_cases c : q = w ++ [x]
    · rw [if_pos c] at e
      cases e
      subst c
      refine ⟨by simp, by rw [List.length_append, List.length_singleton]; omega, fun z mz => ?_, FO, t, rfl, .inl rfl⟩
      rcases List.mem_append.mp mz with mz | mz
      · exact (h.nm hw).2 z mz
      · rw [List.mem_singleton.mp mz]; exact hx
    · rw [if_neg c] at e
      exact h.good q d e
  par := fun q z d e => by
    rw [hk] at e
    by_cases c : q ++ [z] = w ++ [x]
    · obtain ⟨rfl, _⟩ := List.append_inj' c rfl
      exact List.mem_append_left _ hw
    · rw [if_neg c] at e
      exact List.mem_append_left _ (h.par q z d e)
  fol := fun q mq => by
    rcases List.mem_append.mp mq with mq | mq
    · rcases h.fol q mq with c | ⟨t, c⟩
      · exact .inl c
      · refine .inr ⟨t, ?_⟩
        rw [hk, if_neg (fun e => by rw [e, hn] at c; cases c)]
        exact c
    · rw [List.mem_singleton.mp mq]
      exact .inr ⟨t, by rw [hk, if_pos rfl]⟩
  root := List.mem_append_left _ h.root
  inn := fun q d e => by
    rw [hk] at e
    by_cases c : q = w ++ [x]
    · rw [c]; exact List.mem_append_right _ (List.mem_singleton.mpr rfl)
    · rw [if_neg c] at e
      exact List.mem_append_left _ (h.inn q d e)
/-- the walk's lookups are the hall's -/
theorem chn_of {T : List (List Str × D)} : ∀ (ws s : List Str), (∀ p q, p ≠ [] → q ≠ [] → ws = p ++ q → ∃ t, dlook T (s ++ p) = some (.tup [.str FO, t])) → (ws = [] ∨ ∃ m t, dlook T (s ++ ws) = some (.tup [.str m, t]) ∧ (m = FO ∨ m = FI)) → Chn T s ws
  | [], _, _, _ => trivial
  | x :: r, s, h1, h2 => by
    refine ⟨?_, chn_of r (s ++ [x]) (fun p q hp hq e => ?_) ?_⟩
    · cases r with
      | nil =>
        rcases h2 with h2 | ⟨m, t, e, q⟩
        · cases h2
        · exact ⟨m, t, e, q.imp id fun z => ⟨z, rfl⟩⟩
      | cons y l =>
        obtain ⟨t, e⟩ := h1 [x] (y :: l) (by simp) (by simp) rfl
        exact ⟨FO, t, e, .inl rfl⟩
    · obtain ⟨t, e2⟩ := h1 (x :: p) q (by simp) hq (by rw [e]; rfl)
      exact ⟨t, by rw [List.append_assoc]; exact e2⟩
    · rcases h2 with h2 | ⟨m, t, e, q⟩
      · cases h2
      · cases r with
        | nil => exact .inl rfl
        | cons y l => exact .inr ⟨m, t, by rw [List.append_assoc]; exact e, q⟩
theorem Hall.chnF {kvs T : List (List Str × D)} {fs : List (List Str)} (h : Hall kvs fs) (hT : ∀ q, dlook T q = dlook kvs q) (s ws : List Str) (hm : s ++ ws ∈ fs) : Chn T s ws := by
  refine chn_of ws s (fun p q hp hq e => ?_) ?_
  · have m2 : s ++ p ∈ fs := h.pre (s ++ p) q.length q rfl (by rw [List.append_assoc, ← e]; exact hm)
    rcases h.fol _ m2 with c | ⟨t, c⟩
    · exact absurd (List.append_eq_nil_iff.mp c).2 hp
    · exact ⟨_, by rw [hT]; exact c⟩
  · cases ws with
    | nil => exact .inl rfl
    | cons x r =>
      rcases h.fol _ hm with c | ⟨t, c⟩
      · exact absurd c (by simp)
      · exact .inr ⟨FO, _, by rw [hT]; exact c, .inl rfl⟩
theorem Hall.chnW {kvs T : List (List Str × D)} {fs : List (List Str)} (h : Hall kvs fs) (hT : ∀ q, dlook T q = dlook kvs q) (s ws : List Str) {m t : Str} (hm : dlook kvs (s ++ ws) = some (.tup [.str m, .str t])) (hk : m = FO ∨ m = FI) : Chn T s ws := by
  refine chn_of ws s (fun p q hp hq e => ?_) (.inr ⟨m, .str t, by rw [hT]; exact hm, hk⟩)
  obtain ⟨q', x, rfl⟩ : ∃ r' x, q = r' ++ [x] := ⟨q.dropLast, q.getLast hq, (List.dropLast_concat_getLast hq).symm⟩
  have m1 : s ++ (p ++ q') ∈ fs := by
    refine h.par (s ++ (p ++ q')) x (.tup [.str m, .str t]) ?_
    rw [List.append_assoc, List.append_assoc, ← e]; exact hm
  have m2 : s ++ p ∈ fs := h.pre (s ++ p) q'.length q' rfl (by rw [List.append_assoc]; exact m1)
  rcases h.fol _ m2 with c | ⟨t, c⟩
  · exact absurd (List.append_eq_nil_iff.mp c).2 hp
  · exact ⟨_, by rw [hT]; exact c⟩
end Lk50
end

section
set_option autoImplicit false
set_option relaxedAutoImplicit false
set_option linter.all false
set_option Elab.async false
set_option maxRecDepth 100000
namespace Lk50
open PySem PySem.Spec PyProof.Rows L2 DL TL
abbrev tS (w : List Str) : D := .tup (w.map .str)
theorem tlD (ws : List (List Str)) : ws.length ≤ 1000 → lenD [.lst (ws.map tS)] = .ok (.sh (.int (ws.length : Int))) := fun _ => by rw [len_l, List.length_map]
theorem mix0 (c : Int) (t : Nat) (ht : t < 8) (n : Nat) (hn : 0 < n) : ∃ j : Nat, j < n ∧ m_l_mixed [.int c, .int (t : Int), .int (n : Int)] = .ok (.sh (.int (j : Int))) := by
  obtain ⟨v, h0, h1, e⟩ := p_mixed c n t ht (by omega)
  obtain ⟨j, rfl⟩ := Int.eq_ofNat_of_zero_le h0
  exact ⟨j, by omega, e⟩
theorem at_map {α β : Type} (f : α → β) (l : List α) (j : Nat) (h : j < l.length) : atI (l.map f) (j : Int) = some (f l[j]) := by
  rw [at_nat, List.getElem?_map, List.getElem?_eq_getElem h]
  rfl
theorem joinD_ok (w : List Str) (h : ∀ x ∈ w, Nm x) (hl : w.length ≤ 12) : joinD (.str SL) (tS w) = .ok (.sh (.str (Txt.join SL w))) := by
  have hs : (w.map (·.length)).sum ≤ 12 * w.length := by
    clear hl
    induction w with
    | nil => simp
    | cons x r ih =>
      have h1 := (h x (List.mem_cons_self ..)).2.1
      have h2 := ih fun z m => h z (List.mem_cons_of_mem _ m)
      rw [List.map_cons, List.sum_cons, List.length_cons]
      omega
  have l1 : SL.length = 1 := by decide +kernel
  show (strsIn (tS w)).bind _ = _
  have e : strsIn (tS w) = .ok w := by
    show ofO (strsOf (w.map .str)) = _
    rw [strsOf_map]; rfl
  rw [e, R.bind_ok]
  show (if (w.map (·.length)).sum + w.length * SL.length ≤ 16777216 then R.ok (Sl.sh (.str (Txt.join SL w))) else .bad) = _
  rw [if_pos (by rw [l1]; omega)]
theorem addSS {x y : Str} (h : x.length + y.length ≤ 100000) : addD (.str x) (.str y) = .ok (.sh (.str (x ++ y))) := by
  show (if x.length + y.length ≤ sizeLine then _ else _) = _
  rw [if_pos (by rw [sizeL]; omega)]
theorem len_app (x y : Str) : (x ++ y).length = x.length + y.length := by rw [len_tl, tl_append, List.length_append, ← len_tl, ← len_tl]
theorem mul_len (n : Nat) (h : n ≤ 12) : (Txt.mul ("../" : Str) (n : Int)).length ≤ 36 := by
  match n, h with
  | 0, _ => decide +kernel
  | 1, _ => decide +kernel
  | 2, _ => decide +kernel
  | 3, _ => decide +kernel
  | 4, _ => decide +kernel
  | 5, _ => decide +kernel
  | 6, _ => decide +kernel
  | 7, _ => decide +kernel
  | 8, _ => decide +kernel
  | 9, _ => decide +kernel
  | 10, _ => decide +kernel
  | 11, _ => decide +kernel
  | 12, _ => decide +kernel
theorem p_link_by {ways : List (List Str)} {over : List Str} {x : Str} (c : Int) (hw : ∀ w ∈ ways, w.length ≤ 12 ∧ ∀ z ∈ w, Nm z) (hl : ways.length ≤ 1000) (ho : over.length ≤ 12) (hx : Nm x) :
    ∃ t : Str, m_l_link_by [.lst (ways.map tS), tS over, .int c, .str x] = .ok (.sh (.str t)) := by
  obtain ⟨k, hk, e5⟩ := mix0 c 5 (by decide) 7 (by decide)
  obtain ⟨j, hj, e7⟩ := mix0 c 7 (by decide) 6 (by decide)
  have x12 := hx.2.1
  have c1 : ("../" : Str).length = 3 := by decide +kernel
  have c2 : ("./" : Str).length = 2 := by decide +kernel
  have c3 : ("/.." : Str).length = 3 := by decide +kernel
  have c4 : ("/" : Str).length = 1 := by decide +kernel
  have a1 : addD (.str ("../" : Str)) (.str x) = _ := addSS (by omega)
  have a2 : addD (.str ("./" : Str)) (.str x) = _ := addSS (by omega)
  have a3 : addD (.str (("./" : Str) ++ x)) (.str ("/.." : Str)) = _ := addSS (by rw [len_app]; omega)
  have e5' : m_l_mixed [.int c, .int 5, .int 7] = .ok (.sh (.int (k : Int))) := e5
  have e7' : m_l_mixed [.int c, .int 7, .int 6] = .ok (.sh (.int (j : Int))) := e7
  by_cases q : (4 : Int) < (k : Int) ∨ ways.length = 0
  · have h6 : ∃ t : Str, atI [D.str ("/" : Str), .str (".." : Str), .str ("." : Str), .str x, .str (("../" : Str) ++ x), .str ((("./" : Str) ++ x) ++ ("/.." : Str))] (j : Int) = some (.str t) := by
      match j, hj with
      | 0, _ => exact ⟨_, rfl⟩
      | 1, _ => exact ⟨_, rfl⟩
      | 2, _ => exact ⟨_, rfl⟩
      | 3, _ => exact ⟨_, rfl⟩
      | 4, _ => exact ⟨_, rfl⟩
      | 5, _ => exact ⟨_, rfl⟩
    obtain ⟨t, h6⟩ := h6
    refine ⟨t, ?_⟩
    rcases q with q | q
    · simp -implicitDefEqProofs [m_l_link_by, runF, initT, b_l_link_by, e5', q, a1, a2, a3, e7', h6]
    · by_cases q2 : (4 : Int) < (k : Int)
      · simp -implicitDefEqProofs [m_l_link_by, runF, initT, b_l_link_by, e5', q2, a1, a2, a3, e7', h6]
      · have q' : ways = [] := List.length_eq_zero_iff.mp q
        subst q'
        simp -implicitDefEqProofs [m_l_link_by, runF, initT, b_l_link_by, e5', q2, a1, a2, a3, e7', h6]
  · have q1 : ¬ (4 : Int) < (k : Int) := fun h => q (.inl h)
    have q2 : ¬ ways.length = 0 := fun h => q (.inr h)
    obtain ⟨i, hi, e6⟩ := mix0 c 6 (by decide) ways.length (by omega)
    have e6' : m_l_mixed [.int c, .int 6, .int (ways.length : Int)] = .ok (.sh (.int (i : Int))) := e6
    obtain ⟨h1, h2⟩ := hw _ (List.getElem_mem hi)
    have ja := joinD_ok _ h2 h1
    have ja' : joinD (.str ("/" : Str)) (tS ways[i]) = _ := ja
    have hjl : (Txt.join SL ways[i]).length ≤ 13 * (ways[i]).length := by rw [len_tl, join_tl]; exact join_len _ h2
    have ia := at_map tS ways i hi
    have z0 : ((ways.length : Int) == 0) = false := by rw [beq_eq_false_iff_ne]; omega
    have mo : mulD (.str ("../" : Str)) (.int (over.length : Int)) = .ok (.sh (.str (Txt.mul ("../" : Str) (over.length : Int)))) := by
      show (if decide ((0 : Int) ≤ (over.length : Int)) && decide ((over.length : Int) ≤ 4096) && decide (("../" : Str).length ≤ 4096) then _ else _) = _
      rw [decide_eq_true (by omega), decide_eq_true (by omega), decide_eq_true (by omega)]
      rfl
    have ml := mul_len over.length ho
    have a4 : addD (.str (Txt.mul ("../" : Str) (over.length : Int))) (.str (Txt.join SL ways[i])) = _ := addSS (by omega)
    have a5 : addD (.str ("/" : Str)) (.str (Txt.join SL ways[i])) = _ := addSS (by omega)
    by_cases q4 : (k : Int) = 4
    · refine ⟨Txt.mul ("../" : Str) (over.length : Int) ++ Txt.join SL ways[i], ?_⟩
      rw [q4] at e5'
      simp -implicitDefEqProofs [m_l_link_by, runF, initT, b_l_link_by, e5', z0, e6', ia, ja', mo, a4]
    · refine ⟨SL ++ Txt.join SL ways[i], ?_⟩
      have q4' : ((k : Int) == 4) = false := by rw [beq_eq_false_iff_ne]; exact q4
      simp -implicitDefEqProofs [m_l_link_by, runF, initT, b_l_link_by, e5', q1, q4', z0, e6', ia, ja', a5]
end Lk50
end

section
set_option autoImplicit false
set_option relaxedAutoImplicit false
set_option linter.all false
set_option Elab.async false
set_option maxRecDepth 100000
namespace Lk50
open PySem PySem.Spec PyProof.Rows L2 DL TL
def hA : FS :=
  (sSet 6 (vl (kp (op2 ixD (rd (vR 4)) (rd (cal1 m_l_mixed (aC (kp (vR 5)) (aC (vC (.int 0)) (aC (kp (cal1 lenD (aC (rd (vR 4)) aN))) aN)))))))))
def hB : FS :=
  (sIf (tst (op2 eqD (rd (cal1 m_l_mixed (aC (kp (vR 5)) (aC (vC (.int 3)) (aC (vC (.int 3)) aN))))) (vC (.int 0))))
    (sSet 6 (vl (kp (op2 ixD (rd (vR 4)) (negD (vC (.int 1)))))))
    sNx)
def hS7 : FS :=
  (sSet 7 (vl (kp (cal1 m_l_name_by (aC (kp (vR 1)) (aC (kp (cal1 m_l_mixed (aC (kp (vR 5)) (aC (vC (.int 1)) (aC (kp (vR 2)) aN))))) aN))))))
def hS8 : FS :=
  (sSet 8 (vl (kp (op2 addD (rd (vR 6)) (tupE (aC (kp (vR 7)) aN))))))
def hT : Tau → R Bool :=
  (andT (tst (op2 ninD (rd (vR 8)) (rd (vR 3)))) (tst (op2 ltD (rd (cal1 lenD (aC (rd (vR 8)) aN))) (vC (.int 13)))))
def hG : FS :=
  (sSeq (sSet 9 (vl (kp (op2 ixD (tupE (aC (vC (.str ("folder" : Str))) (aC (vC (.str ("link" : Str))) (aC (vC (.str ("file" : Str))) (aC (vC (.str ("folder" : Str))) (aC (vC (.str ("link" : Str))) aN)))))) (rd (cal1 m_l_mixed (aC (kp (vR 5)) (aC (vC (.int 2)) (aC (vC (.int 5)) aN)))))))))
    (sSeq (sPutD (.sl 3) (rd (vR 8)) (tupE (aC (kp (vR 9)) (aC (vC (.str ("" : Str))) aN))))
    (sSeq (sIf (tst (op2 eqD (rd (vR 9)) (vC (.str ("link" : Str)))))
    (sPutD (.sl 3) (rd (vR 8)) (tupE (aC (kp (vR 9)) (aC (kp (cal1 m_l_link_by (aC (kp (cal1 listD (aC (rd (vR 3)) aN))) (aC (kp (vR 6)) (aC (kp (vR 5)) (aC (kp (vR 7)) aN)))))) aN))))
    sNx)
    (sSeq (sIf (tst (op2 eqD (rd (vR 9)) (vC (.str ("file" : Str)))))
    (sPutD (.sl 3) (rd (vR 8)) (tupE (aC (kp (vR 9)) (aC (kp (op2 addD (rd (op2 addD (rd (vR 7)) (vC (.str (" " : Str))))) (rd (cal1 strD (aC (rd (op2 modD (rd (vR 5)) (rd (op2 powD (vC (.int 10)) (vC (.int 30)))))) aN))))) aN))))
    sNx)
    (sIf (tst (op2 eqD (rd (vR 9)) (vC (.str ("folder" : Str)))))
    (sDropG (appG (.sl 4) (kp (vR 8))))
    sNx)))))
theorem hall_split : lb_l_hall_by_1 = sSeq hA (sSeq hB (sSeq hS7 (sSeq hS8 (sIf hT hG sNx)))) := rfl
theorem numL_len : ∀ (k n : Nat), n < 10 ^ (k + 1) → (numL n).length ≤ k + 1
  | 0, n, h => by rw [numL_lt (by simpa using h)]; simp
  | k + 1, n, h => by
    by_cases q : n < 10
    · rw [numL_lt q]; simp
    · rw [numL_step (by omega), List.length_append]
      have := numL_len k (n / 10) (by rw [Nat.div_lt_iff_lt_mul (by decide), ← Nat.pow_succ]; exact h)
      simp
      omega
theorem str_ok (c : Int) : ∃ s : Str, strD [.int (c % 1000000000000000000000000000000)] = .ok (.sh (.str s)) ∧ s.length ≤ 31 := by
  have h0 : 0 ≤ c % 1000000000000000000000000000000 := Int.emod_nonneg _ (by decide)
  have h1 : c % 1000000000000000000000000000000 < 1000000000000000000000000000000 := Int.emod_lt_of_pos _ (by decide)
  obtain ⟨n, e⟩ := Int.eq_ofNat_of_zero_le h0
  rw [e]
  have hn : n < 10 ^ 30 := by rw [e] at h1; omega
  refine ⟨_, if_pos ?_, ?_⟩
  · show (n : Int).natAbs.log2 < 1920
    rw [Int.natAbs_natCast]
    by_cases z : n = 0
    · subst z; decide
    · exact Nat.lt_trans ((Nat.log2_lt z).mpr (Nat.lt_trans hn (by decide : 10 ^ 30 < 2 ^ 100))) (by decide)
  · rw [len_tl]
    have := numL_len 30 n (Nat.lt_trans hn (by decide))
    exact Nat.le_trans (Nat.le_of_eq (congrArg List.length (tl_num n))) this
theorem hAB {fs : List (List Str)} (hne : fs ≠ []) (c : Int) (a b d e : Sl) (s6 s7 s8 s9 : Sl) (h6 : s6.isIo = false) :
    ∃ w ∈ fs, (hA [a, b, d, e, .ow (.lst (fs.map tS)), .sh (.int c), s6, s7, s8, s9]).seq hB = .nx [a, b, d, e, .ow (.lst (fs.map tS)), .sh (.int c), .sh (tS w), s7, s8, s9] := by
  have hl : 0 < fs.length := List.length_pos_iff.mpr hne
  obtain ⟨j, hj, e0⟩ := mix0 c 0 (by decide) fs.length hl
  obtain ⟨k, hk, e3⟩ := mix0 c 3 (by decide) 3 (by decide)
  have e0' : m_l_mixed [.int c, .int 0, .int (fs.length : Int)] = .ok (.sh (.int (j : Int))) := e0
  have e3' : m_l_mixed [.int c, .int 3, .int 3] = .ok (.sh (.int (k : Int))) := e3
  have ia := at_map tS fs j hj
  by_cases q : k = 0
  · subst q
    refine ⟨fs.getLast hne, List.getLast_mem hne, ?_⟩
    have il : atI (fs.map tS) (-1) = some (tS (fs.getLast hne)) := by
      have e := congrArg (List.map tS) (List.dropLast_concat_getLast hne)
      rw [List.map_append] at e
      rw [← e]
      exact at_last _ _
    have e3'' : m_l_mixed [.int c, .int 3, .int 3] = .ok (.sh (.int 0)) := e3'
    simp -implicitDefEqProofs [hA, hB, e0', e3'', ia, il, h6]
  · refine ⟨fs[j], List.getElem_mem hj, ?_⟩
    have q' : ((k : Int) == 0) = false := by rw [beq_eq_false_iff_ne]; omega
    simp -implicitDefEqProofs [hA, hB, e0', e3', q', ia, h6]
theorem hG_ok {kvs : List (List Str × D)} {fs : List (List Str)} (h : Hall kvs fs) {w : List Str} {x : Str} (hw : w ∈ fs) (hx : Nm x) (hl : w.length < 12) (hn : dlook kvs (w ++ [x]) = none) (c : Int) (a b d s9 : Sl) (h9 : s9.isIo = false) (kl : kvs.length ≤ 900) (fl : fs.length ≤ 900) :
    ∃ kvs' fs' s, s.isIo = false ∧ hG [a, b, d, .ow (.dT kvs), .ow (.lst (fs.map tS)), .sh (.int c), .sh (tS w), .sh (.str x), .sh (tS (w ++ [x])), s9] = .nx [a, b, d, .ow (.dT kvs'), .ow (.lst (fs'.map tS)), .sh (.int c), .sh (tS w), .sh (.str x), .sh (tS (w ++ [x])), s] ∧ Hall kvs' fs' ∧ kvs'.length ≤ kvs.length + 2 ∧ fs'.length ≤ fs.length + 1 := by
  obtain ⟨j, hj, e2⟩ := mix0 c 2 (by decide) 5 (by decide)
  have e2' : m_l_mixed [.int c, .int 2, .int 5] = .ok (.sh (.int (j : Int))) := e2
  have key : ∀ w : List Str, (tS w).key = some w := key_strs
  have z1 : kvs.length < sizeLine := by rw [sizeL]; omega
  have z3 : fs.length < sizeLine := by rw [sizeL]; omega
  have dl := dput_len kvs (w ++ [x])
  have z2 : ∀ v, (dput kvs (w ++ [x]) v).length < sizeLine := fun v => by have := dl v; rw [sizeL]; omega
  have pt : ∀ v q, dlook (dput kvs (w ++ [x]) v) q = if q = w ++ [x] then some v else dlook kvs q := fun v q => dlook_put kvs _ v q
  have pt2 : ∀ v v2 q, dlook (dput (dput kvs (w ++ [x]) v) (w ++ [x]) v2) q = if q = w ++ [x] then some v2 else dlook kvs q := fun v v2 q => by
    rw [dlook_put]
    by_cases e : q = w ++ [x]
    · rw [if_pos e, if_pos e]
    · rw [if_neg e, if_neg e, pt, if_neg e]
  have mk : ∃ m : Str, (m = FO ∨ m = LI ∨ m = FI) ∧ atI [D.str FO, .str LI, .str FI, .str FO, .str LI] (j : Int) = some (.str m) := by
    match j, hj with
    | 0, _ => exact ⟨FO, .inl rfl, rfl⟩
    | 1, _ => exact ⟨LI, .inr (.inl rfl), rfl⟩
    | 2, _ => exact ⟨FI, .inr (.inr rfl), rfl⟩
    | 3, _ => exact ⟨FO, .inl rfl, rfl⟩
    | 4, _ => exact ⟨LI, .inr (.inl rfl), rfl⟩
  obtain ⟨m, hm, ma⟩ := mk
  rcases hm with rfl | rfl | rfl
  · refine ⟨dput kvs (w ++ [x]) (.tup [.str FO, .str ("" : Str)]), fs ++ [w ++ [x]], .sh (.str FO), rfl, ?_, h.putF hw hx hl hn _ (pt _), by have := dl (.tup [.str FO, .str ("" : Str)]); omega, by simp⟩
    rw [List.map_append]
    simp -implicitDefEqProofs [hG, e2', ma, h9, Plc.get, Plc.put, Sl.owned, Sl.with, D.flat1, dputF, key, z1, z2, z3, -List.map_append, tS]
  · have H1 : Hall (dput kvs (w ++ [x]) (.tup [.str LI, .str ("" : Str)])) fs := h.put hw hx hl hn (.inl rfl) _ (pt _)
    have lm : (dput kvs (w ++ [x]) (.tup [.str LI, .str ("" : Str)])).map (fun kv => D.tup (kv.1.map .str)) = ((dput kvs (w ++ [x]) (.tup [.str LI, .str ("" : Str)])).map (·.1)).map tS := by rw [List.map_map]; rfl
    obtain ⟨t, et⟩ := p_link_by (ways := (dput kvs (w ++ [x]) (.tup [.str LI, .str ("" : Str)])).map (·.1)) (over := w) (x := x) c (fun q mq => by
      obtain ⟨d, hd⟩ := mem_dlook mq
      exact ⟨(H1.good q d hd).2.1, (H1.good q d hd).2.2.1⟩) (by rw [List.length_map]; have := dl (.tup [.str LI, .str ("" : Str)]); omega) (by omega) hx
    have ld : listD [.dT (dput kvs (w ++ [x]) (.tup [.str LI, .str ("" : Str)]))] = .ok (.ow (.lst (((dput kvs (w ++ [x]) (.tup [.str LI, .str ("" : Str)])).map (·.1)).map tS))) := by rw [← lm]; rfl
    refine ⟨dput (dput kvs (w ++ [x]) (.tup [.str LI, .str ("" : Str)])) (w ++ [x]) (.tup [.str LI, .str t]), fs, .sh (.str LI), rfl, ?_, h.put hw hx hl hn (.inl rfl) _ (pt2 _ _), ?_, by omega⟩
    · simp -implicitDefEqProofs [hG, e2', ma, h9, Plc.get, Plc.put, Sl.owned, Sl.with, D.flat1, dputF, key, z1, z2, ld, et, -List.map_map, -List.map_append]
    · have := dl (.tup [.str LI, .str ("" : Str)])
      have := dput_len (dput kvs (w ++ [x]) (.tup [.str LI, .str ("" : Str)])) (w ++ [x]) (.tup [.str LI, .str t])
      omega
  · obtain ⟨s, es, ls⟩ := str_ok c
    have x12 := hx.2.1
    have c1 : (" " : Str).length = 1 := by decide +kernel
    have a1 : addD (.str x) (.str (" " : Str)) = _ := addSS (by omega)
    have a2 : addD (.str (x ++ (" " : Str))) (.str s) = _ := addSS (by rw [len_app]; omega)
    have mo : modD (.int c) (.int 1000000000000000000000000000000) = .ok (.sh (.int (c % 1000000000000000000000000000000))) := modII (by decide)
    refine ⟨dput (dput kvs (w ++ [x]) (.tup [.str FI, .str ("" : Str)])) (w ++ [x]) (.tup [.str FI, .str ((x ++ (" " : Str)) ++ s)]), fs, .sh (.str FI), rfl, ?_, h.put hw hx hl hn (.inr rfl) _ (pt2 _ _), ?_, by omega⟩
    · simp -implicitDefEqProofs [hG, e2', ma, h9, Plc.get, Plc.put, Sl.owned, Sl.with, D.flat1, dputF, key, z1, z2, powD, mo, es, a1, a2, -List.map_append]
    · have := dl (.tup [.str FI, .str ("" : Str)])
      have := dput_len (dput kvs (w ++ [x]) (.tup [.str FI, .str ("" : Str)])) (w ++ [x]) (.tup [.str FI, .str ((x ++ (" " : Str)) ++ s)])
      omega
end Lk50
end

section
set_option autoImplicit false
set_option relaxedAutoImplicit false
set_option linter.all false
set_option Elab.async false
set_option maxRecDepth 100000
namespace Lk50
open PySem PySem.Spec PyProof.Rows L2 DL TL
theorem seq_split (A B C : FS) (τ : Tau) : sSeq A (sSeq B C) τ = ((A τ).seq B).seq C := by
  rw [sSeq_ap]
  cases A τ <;> rfl
theorem nin_dT (kvs : List (List Str × D)) (w : List Str) : ninD (tS w) (.dT kvs) = .ok (.sh (.bl (!(dlook kvs w).isSome))) := by
  have e : dgetD (.dT kvs) (tS w) = .ok (dlook kvs w) := by
    show (match (D.tup (w.map .str)).key with | some w => R.ok (dlook kvs w) | none => .bad) = _
    rw [key_strs]
  show ((dgetD (.dT kvs) (tS w)).bind fun o => R.ok o.isSome).bind _ = _
  rw [e]
  rfl
theorem add_tS (w : List Str) (x : Str) (h : w.length ≤ 1000) : addD (tS w) (.tup [.str x]) = .ok (.sh (tS (w ++ [x]))) := by
  show (if (w.map D.str).length + 1 ≤ sizeLine then _ else _) = _
  rw [if_pos (by rw [sizeL, List.length_map]; omega), tS, List.map_append]
  rfl
theorem hall_body {kvs : List (List Str × D)} {fs : List (List Str)} (h : Hall kvs fs) (a : D) (stem wide c : Int) (hw : 0 < wide) (s6 s7 s8 s9 : Sl) (h6 : s6.isIo = false) (h7 : s7.isIo = false) (h8 : s8.isIo = false) (h9 : s9.isIo = false) (kl : kvs.length ≤ 900) (fl : fs.length ≤ 900) :
    ∃ kvs' fs' t6 t7 t8 t9, t6.isIo = false ∧ t7.isIo = false ∧ t8.isIo = false ∧ t9.isIo = false ∧ lb_l_hall_by_1 [.sh a, .sh (.int stem), .sh (.int wide), .ow (.dT kvs), .ow (.lst (fs.map tS)), .sh (.int c), s6, s7, s8, s9] = .nx [.sh a, .sh (.int stem), .sh (.int wide), .ow (.dT kvs'), .ow (.lst (fs'.map tS)), .sh (.int c), t6, t7, t8, t9] ∧ Hall kvs' fs' ∧ kvs'.length ≤ kvs.length + 2 ∧ fs'.length ≤ fs.length + 1 := by
  have hne : fs ≠ [] := fun q => by have := h.root; rw [q] at this; cases this
  obtain ⟨w, mw, eAB⟩ := hAB hne c (.sh a) (.sh (.int stem)) (.sh (.int wide)) (.ow (.dT kvs)) s6 s7 s8 s9 h6
  have w12 := (h.nm mw).1
  obtain ⟨v, v0, _, e1⟩ := p_mixed c wide 1 (by decide) hw
  have e1' : m_l_mixed [.int c, .int 1, .int wide] = .ok (.sh (.int v)) := e1
  obtain ⟨x, hx, en⟩ := p_name_by stem v v0
  have E7 : hS7 [.sh a, .sh (.int stem), .sh (.int wide), .ow (.dT kvs), .ow (.lst (fs.map tS)), .sh (.int c), .sh (tS w), s7, s8, s9] = .nx [.sh a, .sh (.int stem), .sh (.int wide), .ow (.dT kvs), .ow (.lst (fs.map tS)), .sh (.int c), .sh (tS w), .sh (.str x), s8, s9] := by
    simp -implicitDefEqProofs [hS7, e1', en, h7]
  have at' := add_tS w x (by omega)
  have E8 : hS8 [.sh a, .sh (.int stem), .sh (.int wide), .ow (.dT kvs), .ow (.lst (fs.map tS)), .sh (.int c), .sh (tS w), .sh (.str x), s8, s9] = .nx [.sh a, .sh (.int stem), .sh (.int wide), .ow (.dT kvs), .ow (.lst (fs.map tS)), .sh (.int c), .sh (tS w), .sh (.str x), .sh (tS (w ++ [x])), s9] := by
    simp -implicitDefEqProofs [hS8, at', h8, -List.map_append]
  have hd : lb_l_hall_by_1 [.sh a, .sh (.int stem), .sh (.int wide), .ow (.dT kvs), .ow (.lst (fs.map tS)), .sh (.int c), s6, s7, s8, s9] = sIf hT hG sNx [.sh a, .sh (.int stem), .sh (.int wide), .ow (.dT kvs), .ow (.lst (fs.map tS)), .sh (.int c), .sh (tS w), .sh (.str x), .sh (tS (w ++ [x])), s9] := by
    rw [hall_split, seq_split, eAB, Fl.seq_nx, sSeq_ap, E7, Fl.seq_nx, sSeq_ap, E8, Fl.seq_nx]
  have ni := nin_dT kvs (w ++ [x])
  by_cases q1 : (dlook kvs (w ++ [x])).isSome = true
  · refine ⟨kvs, fs, (.sh (tS w)), (.sh (.str x)), (.sh (tS (w ++ [x]))), s9, rfl, rfl, rfl, h9, ?_, h, by omega, by omega⟩
    rw [hd]
    have eT : hT [.sh a, .sh (.int stem), .sh (.int wide), .ow (.dT kvs), .ow (.lst (fs.map tS)), .sh (.int c), .sh (tS w), .sh (.str x), .sh (tS (w ++ [x])), s9] = .ok false := by
      rw [q1] at ni
      simp -implicitDefEqProofs [hT, ni, -List.map_append]
    rw [sIf_ap, eT]
    rfl
  · have qn : dlook kvs (w ++ [x]) = none := by simpa using q1
    have qf : (dlook kvs (w ++ [x])).isSome = false := by rw [qn]; rfl
    by_cases q2 : w.length < 12
    · have eT : hT [.sh a, .sh (.int stem), .sh (.int wide), .ow (.dT kvs), .ow (.lst (fs.map tS)), .sh (.int c), .sh (tS w), .sh (.str x), .sh (tS (w ++ [x])), s9] = .ok true := by
        rw [qf] at ni
        have l13 : ((((w ++ [x]).map D.str).length : Nat) : Int) < 13 := by rw [List.length_map, List.length_append, List.length_singleton]; omega
        simp -implicitDefEqProofs [hT, ni, l13, -List.map_append, -List.length_map, -List.length_append]
      obtain ⟨kvs', fs', s, hs, eG, H', l1, l2⟩ := hG_ok h mw hx q2 qn c (.sh a) (.sh (.int stem)) (.sh (.int wide)) s9 h9 kl fl
      refine ⟨kvs', fs', (.sh (tS w)), (.sh (.str x)), (.sh (tS (w ++ [x]))), s, rfl, rfl, rfl, hs, ?_, H', l1, l2⟩
      rw [hd, sIf_ap, eT, Fl.of_ok, if_pos rfl, eG]
    · have eT : hT [.sh a, .sh (.int stem), .sh (.int wide), .ow (.dT kvs), .ow (.lst (fs.map tS)), .sh (.int c), .sh (tS w), .sh (.str x), .sh (tS (w ++ [x])), s9] = .ok false := by
        rw [qf] at ni
        have l13 : ¬ ((((w ++ [x]).map D.str).length : Nat) : Int) < 13 := by rw [List.length_map, List.length_append, List.length_singleton]; omega
        simp -implicitDefEqProofs [hT, ni, l13, -List.map_append, -List.length_map, -List.length_append]
      refine ⟨kvs, fs, (.sh (tS w)), (.sh (.str x)), (.sh (tS (w ++ [x]))), s9, rfl, rfl, rfl, h9, ?_, h, by omega, by omega⟩
      rw [hd, sIf_ap, eT]
      rfl
theorem hall_loop (a : D) (stem wide : Int) (hw : 0 < wide) : ∀ (cs : List Int) (kvs : List (List Str × D)) (fs : List (List Str)) (s5 s6 s7 s8 s9 : Sl), s5.isIo = false → s6.isIo = false → s7.isIo = false → s8.isIo = false → s9.isIo = false → Hall kvs fs → kvs.length + 2 * cs.length ≤ 800 → fs.length + cs.length ≤ 800 →
    ∃ kvs' fs' t5 t6 t7 t8 t9, forL 5 lb_l_hall_by_1 (cs.map .int) [.sh a, .sh (.int stem), .sh (.int wide), .ow (.dT kvs), .ow (.lst (fs.map tS)), s5, s6, s7, s8, s9] = .nx [.sh a, .sh (.int stem), .sh (.int wide), .ow (.dT kvs'), .ow (.lst (fs'.map tS)), t5, t6, t7, t8, t9] ∧ Hall kvs' fs' ∧ kvs'.length ≤ 800
  | [], kvs, fs, s5, s6, s7, s8, s9, _, _, _, _, _, h, l1, _ => ⟨kvs, fs, s5, s6, s7, s8, s9, rfl, h, by simpa using l1⟩
  | c :: cs, kvs, fs, s5, s6, s7, s8, s9, h5, h6, h7, h8, h9, h, l1, l2 => by
    rw [List.length_cons] at l1 l2
    obtain ⟨kvs', fs', t6, t7, t8, t9, g6, g7, g8, g9, e, H', m1, m2⟩ := hall_body h a stem wide c hw s6 s7 s8 s9 h6 h7 h8 h9 (by omega) (by omega)
    obtain ⟨kvs2, fs2, u5, u6, u7, u8, u9, e2, H2, n1⟩ := hall_loop a stem wide hw cs kvs' fs' (.sh (.int c)) t6 t7 t8 t9 rfl g6 g7 g8 g9 H' (by omega) (by omega)
    refine ⟨kvs2, fs2, u5, u6, u7, u8, u9, ?_, H2, n1⟩
    simp only [List.map_cons, forL]
    simp only [put_ap, List.getElem?_cons_succ, List.getElem?_cons_zero, h5, bw_sh, Bool.or_false, List.set_cons_succ, List.set_cons_zero, Fl.seq_nx, Bool.false_eq_true, if_false]
    rw [e, Fl.seq_nx, e2]
theorem hall0 : Hall [] [[]] where
  good := fun w d e => by cases e
  par := fun w x d e => by cases e
  fol := fun w m => .inl (List.mem_singleton.mp m)
  root := List.mem_singleton.mpr rfl
  inn := fun w d e => by cases e
theorem p_hall (cs : List Int) (stem : Int) (hl : cs.length ≤ 100) : ∃ kvs fs, m_l_hall_by [.lst (cs.map .int), .int stem] = .ok (.ow (.dT kvs)) ∧ Hall kvs fs ∧ kvs.length ≤ 800 := by
  have h1 : 0 ≤ stem / 5 % 7 := Int.emod_nonneg _ (by decide)
  obtain ⟨z, hz⟩ : ∃ z : Int, z = 2 + stem / 5 % 7 := ⟨_, rfl⟩
  have f5 : fdivD (.int stem) (.int 5) = .ok (.sh (.int (stem / 5))) := fdivII (by decide) (by decide)
  have m7 : modD (.int (stem / 5)) (.int 7) = .ok (.sh (.int (stem / 5 % 7))) := modII (by decide)
  obtain ⟨kvs, fs, t5, t6, t7, t8, t9, e, H, l⟩ := hall_loop (.lst (cs.map .int)) stem z (by omega) cs [] [[]] .un .un .un .un .un rfl rfl rfl rfl rfl hall0 (by simp; omega) (by simp; omega)
  refine ⟨kvs, fs, ?_, H, l⟩
  have e' : forL 5 lb_l_hall_by_1 (cs.map .int) [.sh (.lst (cs.map .int)), .sh (.int stem), .sh (.int z), .ow (.dT []), .ow (.lst [.tup []]), .un, .un, .un, .un, .un] = _ := e
  simp -implicitDefEqProofs [m_l_hall_by, runF, initT, eq_l_hall_by, f5, m7, ← hz, itA, e']
theorem cells_loop (ns : List Int) (b d e f : Sl) : ∀ l : List Nat, ∃ cs : List Int, cs.length = l.length ∧ lcL [4] 4 (fun _ => .ok true) (kp (op2 addD (rd (cal1 m_l_cell_at (aC (kp (vR 0)) (aC (kp (op2 addD (rd (vR 1)) (rd (op2 mulD (rd (vR 2)) (rd (vR 4)))))) aN)))) (rd (vR 4)))) [.sh (.lst (ns.map .int)), .sh (.int 3), .sh (.int 1), e, f] (l.map fun (k : Nat) => D.int (0 + (k : Int))) = .ok (cs.map .int)
  | [] => ⟨[], rfl, rfl⟩
  | k :: l => by
    obtain ⟨cs, hl, ec⟩ := cells_loop ns b d e f l
    obtain ⟨c, e1⟩ := p_cell_at ns (3 + (k : Int)) (by omega)
    refine ⟨(c + (k : Int)) :: cs, by simp [hl], ?_⟩
    have mm : mulD (.int 1) (.int (k : Int)) = .ok (.sh (.int (k : Int))) := by
      show (if smallM 1 (k : Int) then R.ok (Sl.sh (D.int (1 * (k : Int)))) else .bad) = _
      rw [if_pos (by unfold smallM; rfl), Int.one_mul]
    simp only [List.map_cons, lcL]
    rw [ec]
    simp -implicitDefEqProofs [wipeT, DL.strip, mm, e1]
theorem p_cells (ns : List Int) (n : Nat) (hn : n ≤ 100) : ∃ cs : List Int, cs.length = n ∧ m_l_cells [.lst (ns.map .int), .int 3, .int 1, .int (n : Int)] = .ok (.ow (.lst (cs.map .int))) := by
  obtain ⟨cs, hl, e⟩ := cells_loop ns .un .un (.sh (.int (n : Int))) .un (List.range n)
  rw [List.length_range] at hl
  refine ⟨cs, hl, ?_⟩
  have rg : ((List.range n).map fun (k : Nat) => D.int (0 + (k : Int))) = rngD 0 n := rfl
  rw [rg] at e
  have ei : iR1 (kp (vR 3)) [.sh (.lst (ns.map .int)), .sh (.int 3), .sh (.int 1), .sh (.int (n : Int)), .un] = .ok (rngD 0 n) := iR1_int (by simp) (by omega)
  have hlen : (rngD 0 n).length ≤ sizeLine := by unfold rngD; rw [List.length_map, List.length_range, sizeL]; omega
  simp -implicitDefEqProofs [m_l_cells, runF, initT, b_l_cells, lcD, ei, hlen, e, DL.strip, -iR1_ap]
end Lk50
end

section
set_option autoImplicit false
set_option relaxedAutoImplicit false
set_option linter.all false
set_option Elab.async false
set_option maxRecDepth 100000
namespace Lk50
open PySem PySem.Spec PyProof.Rows L2 DL TL
/-- the tree's entry of a way -/
def eOf (kvs : List (List Str × D)) (w : List Str) : List Str × D × D := match dlook kvs w with
  | some (.tup [a, b]) => (w, a, b)
  | _ => (w, .non, .non)
theorem eOf_ok {kvs : List (List Str × D)} {fs : List (List Str)} (h : Hall kvs fs) {w : List Str} (m : w ∈ kvs.map (·.1)) : ∃ a b : Str, dlook kvs w = some (.tup [.str a, .str b]) ∧ eOf kvs w = (w, .str a, .str b) := by
  obtain ⟨d, hd⟩ := mem_dlook m
  obtain ⟨_, _, _, a, b, rfl, _⟩ := h.good w d hd
  exact ⟨a, b, hd, by unfold eOf; rw [hd]⟩
theorem eOf_1 (kvs : List (List Str × D)) (w : List Str) : (eOf kvs w).1 = w := by
  unfold eOf
  split <;> rfl
theorem fold_look {kvs : List (List Str × D)} {fs : List (List Str)} (h : Hall kvs fs) (q : List Str) : ∀ (ws : List (List Str)) (acc : List (List Str × D)), (∀ w ∈ ws, w ∈ kvs.map (·.1)) →
    dlook ((ws.map (eOf kvs)).foldl putE acc) q = if q ∈ ws then dlook kvs q else dlook acc q
  | [], acc, _ => by simp
  | w :: ws, acc, hm => by
    obtain ⟨a, b, h1, h2⟩ := eOf_ok h (hm w (List.mem_cons_self ..))
    rw [List.map_cons, List.foldl_cons, fold_look h q ws _ (fun z m => hm z (List.mem_cons_of_mem _ m))]
    by_cases c : q ∈ ws
    · rw [if_pos c, if_pos (List.mem_cons_of_mem _ c)]
    · rw [if_neg c]
      have e : putE acc (eOf kvs w) = dput acc w (.tup [.str a, .str b]) := by rw [h2]
      rw [e, dlook_put]
      by_cases c2 : q = w
      · rw [if_pos c2, if_pos (by rw [c2]; exact List.mem_cons_self ..), c2, h1]
      · rw [if_neg c2, if_neg (by simp [c2, c])]
theorem strs_pl : ∀ w : List Str, D.pls (w.map .str) = true
  | [] => rfl
  | x :: r => by rw [List.map_cons, D.pls, strs_pl r]; rfl
theorem strs_dep : ∀ w : List Str, D.deps (w.map .str) = 0
  | [] => rfl
  | x :: r => by rw [List.map_cons, D.deps, strs_dep r]; rfl
theorem alike_strs : ∀ w v : List Str, PySem.W.alikeAll (D.pys (w.map .str)) (D.pys (v.map .str)) = true
  | [], v => by simp [D.pys, PySem.W.alikeAll]
  | x :: w, [] => by simp [D.pys, PySem.W.alikeAll]
  | x :: w, y :: v => by
    simp only [List.map_cons, D.pys, PySem.W.alikeAll, D.py, PySem.W.alike, alike_strs w v, Bool.and_self]
theorem tS_pl (ks : List (List Str)) : D.pls (ks.map tS) = true := by
  induction ks with
  | nil => rfl
  | cons w r ih => rw [List.map_cons, D.pls, ih, D.pl, strs_pl]; rfl
theorem tS_dep (ks : List (List Str)) : D.deps (ks.map tS) ≤ 1 := by
  induction ks with
  | nil => exact Nat.zero_le _
  | cons w r ih => rw [List.map_cons, D.deps, D.dep, strs_dep]; omega
theorem sort_ok (ks : List (List Str)) (hn : ∀ w ∈ ks, w ≠ []) (hl : ks.length ≤ 1000) : sortOk (ks.map tS) = true := by
  unfold sortOk
  have e1 : ((ks.map tS).all fun d => (ks.map tS).all fun e => alikeD d e) = true := by
    rw [List.all_eq_true]
    intro d hd
    rw [List.all_eq_true]
    intro e he
    obtain ⟨w, _, rfl⟩ := List.mem_map.mp hd
    obtain ⟨v, _, rfl⟩ := List.mem_map.mp he
    show PySem.W.alike (D.py (tS w)) (D.py (tS v)) = true
    rw [D.py, D.py, PySem.W.alike]
    exact alike_strs w v
  have e2 : (ks.map tS).all D.nonemptyTup = true := by
    rw [List.all_eq_true]
    intro d hd
    obtain ⟨w, mw, rfl⟩ := List.mem_map.mp hd
    cases w with
    | nil => exact absurd rfl (hn _ mw)
    | cons x r => rfl
  have e3 := tS_dep ks
  rw [tS_pl, e1, e2, decide_eq_true (by omega : D.deps (ks.map tS) ≤ 40), decide_eq_true (by rw [List.length_map, sizeL]; omega)]
  rfl
theorem all_map {l : List D} {ks : List (List Str)} (h : ∀ d ∈ l, d ∈ ks.map tS) : ∃ ws : List (List Str), l = ws.map tS ∧ ∀ w ∈ ws, w ∈ ks := by
  induction l with
  | nil => exact ⟨[], rfl, fun w m => by cases m⟩
  | cons d r ih =>
    obtain ⟨ws, e, hm⟩ := ih fun z m => h z (List.mem_cons_of_mem _ m)
    obtain ⟨w, mw, ew⟩ := List.mem_map.mp (h d (List.mem_cons_self ..))
    exact ⟨w :: ws, by rw [e, List.map_cons, ew], fun z m => by
      rcases List.mem_cons.mp m with rfl | m
      · exact mw
      · exact hm z m⟩
theorem ix_dT {kvs : List (List Str × D)} {w : List Str} {d : D} (h : dlook kvs w = some d) : ixD (.dT kvs) (tS w) = .ok (.sh d) := by
  have e : dgetD (.dT kvs) (tS w) = .ok (dlook kvs w) := by
    show (match (D.tup (w.map .str)).key with | some w => R.ok (dlook kvs w) | none => .bad) = _
    rw [key_strs]
  show ((dgetD (.dT kvs) (tS w)).bind fun o => ofO (o.map Sl.sh)) = _
  rw [e, h]
  rfl
def tE : Tau → R D := (tupE (aC (kp (vR 1)) (aC (kp (op2 ixD (rd (op2 ixD (rd (vR 0)) (rd (vR 1)))) (vC (.int 0)))) (aC (kp (op2 ixD (rd (op2 ixD (rd (vR 0)) (rd (vR 1)))) (vC (.int 1)))) aN))))
theorem tree_loop {kvs : List (List Str × D)} {fs : List (List Str)} (h : Hall kvs fs) (s : Sl) : ∀ ws : List (List Str), (∀ w ∈ ws, w ∈ kvs.map (·.1)) → lcL [1] 1 (fun _ => .ok true) tE [.sh (.dT kvs), s] (ws.map tS) = .ok ((ws.map (eOf kvs)).map ent)
  | [], _ => rfl
  | w :: ws, hm => by
    have ih := tree_loop h s ws fun z m => hm z (List.mem_cons_of_mem _ m)
    obtain ⟨a, b, h1, h2⟩ := eOf_ok h (hm w (List.mem_cons_self ..))
    have ix := ix_dT h1
    have et : tE [.sh (.dT kvs), .sh (tS w)] = .ok (ent (eOf kvs w)) := by
      rw [h2]
      have a1 : atI [D.str a, D.str b] 1 = some (D.str b) := rfl
      simp -implicitDefEqProofs [tE, ix, at0, a1]
    simp only [List.map_cons, lcL]
    rw [ih]
    simp -implicitDefEqProofs [wipeT, DL.strip, et]
theorem p_tree {kvs : List (List Str × D)} {fs : List (List Str)} (h : Hall kvs fs) (hl : kvs.length ≤ 800) : ∃ es : List (List Str × D × D), es.length ≤ 1000 ∧ m_l_tree_of [.dT kvs] = .ok (.ow (.lst (es.map ent))) ∧ (∀ q, dlook (es.foldl putE []) q = dlook kvs q) ∧ ∀ e ∈ es, ∃ a b : Str, e.2 = (.str a, .str b) := by
  have hk : ∀ w ∈ kvs.map (·.1), w ≠ [] := fun w m => by
    obtain ⟨d, hd⟩ := mem_dlook m
    exact (h.good w d hd).1
  have so := sort_ok (kvs.map (·.1)) hk (by rw [List.length_map]; omega)
  have pm : List.Perm (sortL ((kvs.map (·.1)).map tS)) ((kvs.map (·.1)).map tS) := List.mergeSort_perm _ _
  obtain ⟨ws, ew, hw⟩ := all_map (l := sortL ((kvs.map (·.1)).map tS)) (ks := kvs.map (·.1)) fun d m => pm.mem_iff.mp m
  have wl : ws.length = kvs.length := by
    have := pm.length_eq
    rw [ew] at this
    simpa using this
  have wm : ∀ q, q ∈ kvs.map (·.1) → q ∈ ws := fun q m => by
    have : tS q ∈ ws.map tS := by rw [← ew]; exact pm.mem_iff.mpr (List.mem_map.mpr ⟨q, m, rfl⟩)
    obtain ⟨v, mv, ev⟩ := List.mem_map.mp this
    have e : strsOf (v.map .str) = strsOf (q.map .str) := congrArg (fun d => (D.key d)) ev
    rw [strsOf_map, strsOf_map] at e
    cases e
    exact mv
  refine ⟨ws.map (eOf kvs), by rw [List.length_map]; omega, ?_, fun q => ?_, fun e me => ?_⟩
  · have lm : listD [.dT kvs] = .ok (.ow (.lst ((kvs.map (·.1)).map tS))) := by
      rw [List.map_map]; rfl
    have sd : sortD [.lst ((kvs.map (·.1)).map tS)] = .ok (.ow (.lst (ws.map tS))) := by
      rw [← ew]; exact if_pos so
    have tl := tree_loop h .un ws hw
    have hz : (ws.map tS).length ≤ sizeLine := by rw [List.length_map, sizeL]; omega
    have eb : b_l_tree_of = sRet (lcD [1] 1 (iA (kp (cal1 sortD (aC (rd (cal1 listD (aC (rd (vR 0)) aN))) aN)))) (fun _ => .ok true) tE) := rfl
    simp -implicitDefEqProofs only [m_l_tree_of, runF, eb]
    rw [if_pos (by rfl)]
    show (sRet (lcD [1] 1 (iA (kp (cal1 sortD (aC (rd (cal1 listD (aC (rd (vR 0)) aN))) aN)))) (fun _ => .ok true) tE) [.sh (.dT kvs), .un]).res = _
    have ei : iA (kp (cal1 sortD (aC (rd (cal1 listD (aC (rd (vR 0)) aN))) aN))) [.sh (.dT kvs), .un] = .ok (ws.map tS) := by
      simp -implicitDefEqProofs only [iA_ap, kp_ap, cal1_ap, aC_ap, rd_ap, vR_ap, aN_ap, List.getElem?_cons_zero, R.bind_ok, view_sh, ofO_some, lm, view_ow, sd, data_owl, itA]
    rw [sRet_ap]
    unfold lcD
    rw [ei, R.bind_ok, if_pos ⟨hz, by simp, by simp⟩, tl]
    rfl
  · rw [fold_look h q ws [] hw]
    by_cases c : q ∈ ws
    · rw [if_pos c]
    · rw [if_neg c]
      cases z : dlook kvs q with
      | none => rfl
      | some d => exact absurd (wm q (dlook_mem z)) c
  · obtain ⟨w, mw, rfl⟩ := List.mem_map.mp me
    obtain ⟨a, b, _, h2⟩ := eOf_ok h (hw w mw)
    exact ⟨a, b, by rw [h2]⟩
end Lk50
end

section
set_option autoImplicit false
set_option relaxedAutoImplicit false
set_option linter.all false
set_option Elab.async false
set_option maxRecDepth 100000
namespace Lk50
open PySem PySem.Spec PyProof.Rows L2 DL TL
theorem cut_take {α : Type} (xs : List α) (k : Nat) (h : k ≤ xs.length) : DL.cutD xs none (some (k : Int)) = xs.take k := by
  unfold DL.cutD
  rw [HT.sIx_nat, HT.sIx_none, List.drop_zero, Nat.sub_zero, Nat.min_eq_left h]
theorem cut_drop {α : Type} (xs : List α) (k : Nat) (h : k ≤ xs.length) : DL.cutD xs (some (k : Int)) none = xs.drop k := by
  unfold DL.cutD
  rw [HT.sIx_nat, HT.sIx_none, Nat.min_eq_left h]
  exact List.take_of_length_le (by rw [List.length_drop]; omega)
section
variable {kvs : List (List Str × D)} {fs : List (List Str)} {es : List (List Str × D × D)}
theorem fok (h : Hall kvs fs) (hT : ∀ q, dlook (es.foldl putE []) q = dlook kvs q) {w : List Str} (m : w ∈ fs) : Fok (es.foldl putE []) w := by
  rcases h.fol w m with rfl | ⟨t, e⟩
  · refine .inl ?_
    rw [hT]
    cases z : dlook kvs [] with
    | none => rfl
    | some d => exact absurd rfl (h.good _ _ z).1
  · exact .inr ⟨_, by rw [hT]; exact e⟩
theorem placeJ (h : Hall kvs fs) (hes : es.length ≤ 1000) (hT : ∀ q, dlook (es.foldl putE []) q = dlook kvs q) {s r : List Str} {x : Str} (hm : s ++ r ∈ fs) (hx : Nm x) :
    m_place_of [.lst (es.map ent), tS s, .str (Txt.join SL (r ++ [x]))] = .ok (.sh (tS ((s ++ r) ++ [x]))) := by
  obtain ⟨l12, hn⟩ := h.nm hm
  rw [List.length_append] at l12
  have hr : ∀ z ∈ r, Nm z := fun z m => hn z (List.mem_append_right _ m)
  obtain ⟨st, eg⟩ := p_go (T := es.foldl putE []) (ws := r) (s := s) 0 hr (h.chnF hT s r hm) (by omega)
  exact p_place hes (ws := r) (w := s ++ r) (r := false) (by omega) (by rw [List.length_append]; omega) hx
    (words_join (by simp) (fun z m => by
      rcases List.mem_append.mp m with m | m
      · exact hr z m
      · rw [List.mem_singleton.mp m]; exact hx) (by rw [List.length_append, List.length_singleton]; omega)) eg (fok h hT hm)
theorem placeR (h : Hall kvs fs) (hes : es.length ≤ 1000) (hT : ∀ q, dlook (es.foldl putE []) q = dlook kvs q) {s : D} {r : List Str} {x : Str} (hm : r ∈ fs) (hx : Nm x) :
    m_place_of [.lst (es.map ent), s, .str (SL ++ Txt.join SL (r ++ [x]))] = .ok (.sh (tS (r ++ [x]))) := by
  obtain ⟨l12, hr⟩ := h.nm hm
  obtain ⟨st, eg⟩ := p_go (T := es.foldl putE []) (ws := r) (s := []) 0 hr (h.chnF hT [] r hm) (by simp; omega)
  exact p_place hes (ws := r) (w := r) (r := true) (by omega) (by omega) hx
    (words_rooted (by simp) (fun z m => by
      rcases List.mem_append.mp m with m | m
      · exact hr z m
      · rw [List.mem_singleton.mp m]; exact hx) (by rw [List.length_append, List.length_singleton]; omega)) eg (fok h hT hm)
theorem findJ (h : Hall kvs fs) (hes : es.length ≤ 1000) (hT : ∀ q, dlook (es.foldl putE []) q = dlook kvs q) {s r : List Str} {m t : Str} (hne : r ≠ []) (hm : dlook kvs (s ++ r) = some (.tup [.str m, .str t])) (hk : m = FO ∨ m = FI) :
    m_find_way [.lst (es.map ent), tS s, .str (Txt.join SL r)] = .ok (.sh (tS (s ++ r))) := by
  obtain ⟨_, l12, hn, _⟩ := h.good _ _ hm
  rw [List.length_append] at l12
  have hr : ∀ z ∈ r, Nm z := fun z m => hn z (List.mem_append_right _ m)
  obtain ⟨st, eg⟩ := p_go (T := es.foldl putE []) (ws := r) (s := s) 0 hr (h.chnW hT s r hm hk) (by omega)
  exact p_find hes (r := false) (ws := r.map .str) (by rw [List.length_map]; omega) (words_join hne hr (by omega)) eg
theorem findR (h : Hall kvs fs) (hes : es.length ≤ 1000) (hT : ∀ q, dlook (es.foldl putE []) q = dlook kvs q) {s : D} {r : List Str} {m t : Str} (hne : r ≠ []) (hm : dlook kvs r = some (.tup [.str m, .str t])) (hk : m = FO ∨ m = FI) :
    m_find_way [.lst (es.map ent), s, .str (SL ++ Txt.join SL r)] = .ok (.sh (tS r)) := by
  obtain ⟨_, l12, hr, _⟩ := h.good _ _ hm
  obtain ⟨st, eg⟩ := p_go (T := es.foldl putE []) (ws := r) (s := []) 0 hr (h.chnW hT [] r hm hk) (by simp; omega)
  exact p_find hes (r := true) (ws := r.map .str) (by rw [List.length_map]; omega) (words_rooted hne hr (by omega)) eg
theorem p_met (h : Hall kvs fs) (hes : es.length ≤ 1000) (hT : ∀ q, dlook (es.foldl putE []) q = dlook kvs q) {w : List Str} {m t : Str} (hw : dlook kvs w = some (.tup [.str m, .str t])) (k : Nat) (hk : k < w.length) :
    m_l_met [.lst (es.map ent), .dT kvs, tS w, .int (k : Int)] = .ok (.sh (.bl true)) := by
  obtain ⟨hne, l12, hn, _, _, e0, hm⟩ := h.good _ _ hw
  cases e0
  have c1 : DL.cutD (w.map D.str) none (some (k : Int)) = (w.take k).map .str := by rw [cut_take _ _ (by rw [List.length_map]; omega), List.map_take]
  have c2 : DL.cutD (w.map D.str) (some (k : Int)) none = (w.drop k).map .str := by rw [cut_drop _ _ (by rw [List.length_map]; omega), List.map_drop]
  have sl1 : slD (tS w) none (some (k : Int)) = .ok (.sh (tS (w.take k))) := by
    show R.ok (Sl.sh (D.tup (DL.cutD (w.map D.str) none (some (k : Int))))) = _
    rw [c1]
  have sl2 : slD (tS w) (some (k : Int)) none = .ok (.sh (tS (w.drop k))) := by
    show R.ok (Sl.sh (D.tup (DL.cutD (w.map D.str) (some (k : Int)) none))) = _
    rw [c2]
  have hd : w.drop k ≠ [] := by
    intro q
    have := congrArg List.length q
    rw [List.length_drop, List.length_nil] at this
    omega
  have j1 := joinD_ok (w.drop k) (fun z mz => hn z (List.mem_of_mem_drop mz)) (by rw [List.length_drop]; omega)
  have j2 := joinD_ok w hn l12
  have jl : (Txt.join SL w).length ≤ 13 * w.length := by rw [len_tl, join_tl]; exact join_len _ hn
  have s1 : SL.length = 1 := by decide +kernel
  have a1 : addD (.str SL) (.str (Txt.join SL w)) = _ := addSS (by omega)
  obtain ⟨r0, x, er⟩ : ∃ r' x, w.drop k = r' ++ [x] := ⟨(w.drop k).dropLast, (w.drop k).getLast hd, (List.dropLast_concat_getLast hd).symm⟩
  have ew : w = (w.take k ++ r0) ++ [x] := by rw [List.append_assoc, ← er, List.take_append_drop]
  have hx : Nm x := hn x (by rw [ew]; simp)
  have mf : w.take k ++ r0 ∈ fs := h.par _ x (.tup [.str m, .str t]) (by rw [← ew]; exact hw)
  have p1 := placeJ h hes hT (s := w.take k) (r := r0) mf hx
  rw [← er, ← ew] at p1
  have p2 := placeR h hes hT (s := tS (w.take k)) (r := w.take k ++ r0) mf hx
  rw [← ew] at p2
  have iw := p_is_way w (by omega)
  have ix := ix_dT hw
  have iw' : m_l_is_way [tS w, tS w] = .ok (.sh (.bl true)) := iw
  by_cases q : m = LI
  · subst q
    simp -implicitDefEqProofs [m_l_met, runF, initT, b_l_met, sl1, sl2, j1, j2, a1, p1, p2, iw', ix, at0]
  · have q' : (m == ("link" : Str)) = false := by rw [beq_eq_false_iff_ne]; exact q
    have hk' : m = FO ∨ m = FI := by
      rcases hm with c | c | c
      · exact .inl c
      · exact absurd c q
      · exact .inr c
    have f1 := findJ h hes hT (s := w.take k) (r := w.drop k) hd (by rw [List.take_append_drop]; exact hw) hk'
    rw [List.take_append_drop] at f1
    have f2 := findR h hes hT (s := tS (w.take k)) hne hw hk'
    simp -implicitDefEqProofs [m_l_met, runF, initT, b_l_met, sl1, sl2, j1, j2, a1, p1, p2, iw', ix, at0, q', f1, f2]
theorem join_one (x : Str) : Txt.join SL [x] = x := by rw [join_eq]; rfl
theorem p_missing (h : Hall kvs fs) (hes : es.length ≤ 1000) (hT : ∀ q, dlook (es.foldl putE []) q = dlook kvs q) {w : List Str} {x : Str} (hm : w ∈ fs) (hx : Nm x) (hn : dlook kvs (w ++ [x]) = none) :
    m_l_missing [.lst (es.map ent), tS w, .str x] = .ok (.sh (.bl true)) := by
  obtain ⟨l12, _⟩ := h.nm hm
  have wx : m_words_of [.str x] = .ok (.sh (.tup [.bl false, .lst [.str x]])) := by
    have := words_join (ws := [x]) (by simp) (fun z m => by rw [List.mem_singleton.mp m]; exact hx) (by simp)
    rw [join_one] at this
    exact this
  obtain ⟨d, eg⟩ := p_go_miss (T := es.foldl putE []) (s := w) (x := x) 0 hx (by rw [hT]; exact hn) (by omega)
  have f1 : m_find_way [.lst (es.map ent), tS w, .str x] = .er ("Missing" : Str) := p_find_miss hes (r := false) (by simp) wx eg
  have p1 := placeJ h hes hT (s := w) (r := []) (by rw [List.append_nil]; exact hm) hx
  rw [List.append_nil, List.nil_append, join_one] at p1
  have at' := add_tS w x (by omega)
  have iw' : m_l_is_way [tS (w ++ [x]), tS (w ++ [x])] = .ok (.sh (.bl true)) := p_is_way (w ++ [x]) (by rw [List.length_append, List.length_singleton]; omega)
  have m1 : ("Missing" : Str) ∈ exs := by decide +kernel
  have m2 : sub ("Missing" : Str) ("GlassError" : Str) = true := by decide +kernel
  have m3 : sub ("Missing" : Str) ("NotFolder" : Str) = false := by decide +kernel
  have m4 : sub ("Missing" : Str) ("NoWay" : Str) = false := by decide +kernel
  have m5 : sub ("Missing" : Str) ("ValueError" : Str) = true := by decide +kernel
  have m6 : sub ("Missing" : Str) ("Missing" : Str) = true := by decide +kernel
  have eb : (sDrop (cal1 m_find_way (aC (kp (vR 0)) (aC (kp (vR 1)) (aC (kp (vR 2)) aN))))) [.sh (.lst (es.map ent)), .sh (tS w), .sh (.str x), .un] = .er ("Missing" : Str) [.sh (.lst (es.map ent)), .sh (tS w), .sh (.str x), .un] := by
    simp -implicitDefEqProofs [f1]
  simp -implicitDefEqProofs only [m_l_missing, runF]
  rw [if_pos (by rfl)]
  show (b_l_missing [.sh (.lst (es.map ent)), .sh (tS w), .sh (.str x), .un]).res = _
  unfold b_l_missing
  rw [sSeq_ap]
  unfold sTryAs
  rw [eb]
  dsimp only
  rw [if_pos m1, if_pos m2, if_pos (by simp)]
  simp -implicitDefEqProofs [m3, m4, m5, m6, p1, at', iw', Fl.out, forgetI, -List.map_append]
end
end Lk50
end

section
set_option autoImplicit false
set_option relaxedAutoImplicit false
set_option linter.all false
set_option Elab.async false
set_option maxRecDepth 100000
namespace Lk50
open PySem PySem.Spec PyProof.Rows L2 DL TL
section
variable {kvs : List (List Str × D)} {fs : List (List Str)} {es : List (List Str × D × D)}
theorem met_loop (h : Hall kvs fs) (hes : es.length ≤ 1000) (hT : ∀ q, dlook (es.foldl putE []) q = dlook kvs q) (ns : List Int) (s1 s2 s3 s5 s8 s9 s10 : Sl) : ∀ (ws : List (List Str)) (s7 : Sl), s7.isIo = false → (∀ w ∈ ws, w ∈ kvs.map (·.1)) →
    ∃ t7 : Sl, t7.isIo = false ∧ forL 7 lb_law_1 (ws.map tS) [.sh (.lst (ns.map .int)), s1, s2, s3, .sh (.dT kvs), s5, .sh (.lst (es.map ent)), s7, s8, s9, s10] = .nx [.sh (.lst (ns.map .int)), s1, s2, s3, .sh (.dT kvs), s5, .sh (.lst (es.map ent)), t7, s8, s9, s10]
  | [], s7, h7, _ => ⟨s7, h7, rfl⟩
  | w :: ws, s7, h7, hm => by
    obtain ⟨t7, g7, e⟩ := met_loop h hes hT ns s1 s2 s3 s5 s8 s9 s10 ws (.sh (tS w)) rfl fun z m => hm z (List.mem_cons_of_mem _ m)
    refine ⟨t7, g7, ?_⟩
    obtain ⟨d, hd⟩ := mem_dlook (hm w (List.mem_cons_self ..))
    obtain ⟨hne, l12, _, m, t, rfl, _⟩ := h.good _ _ hd
    obtain ⟨c, ec⟩ := p_cell_at ns 2 (by decide)
    have hl : 0 < w.length := List.length_pos_iff.mpr hne
    have h0 : 0 ≤ c % (w.length : Int) := Int.emod_nonneg _ (by omega)
    have h1 : c % (w.length : Int) < (w.length : Int) := Int.emod_lt_of_pos _ (by omega)
    obtain ⟨k, ek⟩ := Int.eq_ofNat_of_zero_le h0
    have md : modD (.int c) (.int (w.length : Int)) = .ok (.sh (.int (k : Int))) := by rw [modII (by omega), ek]
    have pm := p_met h hes hT hd k (by omega)
    have eb : lb_law_1 [.sh (.lst (ns.map .int)), s1, s2, s3, .sh (.dT kvs), s5, .sh (.lst (es.map ent)), .sh (tS w), s8, s9, s10] = .nx [.sh (.lst (ns.map .int)), s1, s2, s3, .sh (.dT kvs), s5, .sh (.lst (es.map ent)), .sh (tS w), s8, s9, s10] := by
      simp -implicitDefEqProofs [lb_law_1, ec, md, pm]
    simp only [List.map_cons, forL]
    simp only [put_ap, List.getElem?_cons_succ, List.getElem?_cons_zero, h7, bw_sh, Bool.or_false, List.set_cons_succ, List.set_cons_zero, Fl.seq_nx, Bool.false_eq_true, if_false]
    rw [eb, Fl.seq_nx, e]
def tF : Tau → R Bool := (tst (op2 eqD (rd (op2 ixD (rd (op2 ixD (rd (vR 4)) (rd (vR 7)))) (vC (.int 0)))) (vC (.str ("folder" : Str)))))
theorem fold_loop (h : Hall kvs fs) (s0 s1 s2 s3 s5 s6 s7 s8 s9 s10 : Sl) : ∀ ws : List (List Str), (∀ w ∈ ws, w ∈ kvs.map (·.1)) →
    ∃ us : List (List Str), us.length ≤ ws.length ∧ (∀ u ∈ us, u ∈ fs) ∧ lcL [7] 7 tF (kp (vR 7)) [s0, s1, s2, s3, .sh (.dT kvs), s5, s6, s7, s8, s9, s10] (ws.map tS) = .ok (us.map tS)
  | [], _ => ⟨[], Nat.le_refl _, ⟨fun u m => absurd m List.not_mem_nil, rfl⟩⟩
  | w :: ws, hm => by
    obtain ⟨us, ul, hu, e⟩ := fold_loop h s0 s1 s2 s3 s5 s6 s7 s8 s9 s10 ws fun z m => hm z (List.mem_cons_of_mem _ m)
    obtain ⟨d, hd⟩ := mem_dlook (hm w (List.mem_cons_self ..))
    obtain ⟨hne, l12, _, m, t, rfl, _⟩ := h.good _ _ hd
    have ix := ix_dT hd
    have et : tF [s0, s1, s2, s3, .sh (.dT kvs), s5, s6, .sh (tS w), s8, s9, s10] = .ok (m == ("folder" : Str)) := by
      simp -implicitDefEqProofs [tF, ix, at0]
    by_cases q : m = FO
    · subst q
      refine ⟨w :: us, by simp; omega, fun u mu => ?_, ?_⟩
      · rcases List.mem_cons.mp mu with mu | mu
        · rw [mu]; exact h.inn w _ hd
        · exact hu u mu
      · simp only [List.map_cons, lcL]
        rw [e]
        have et' : tF [s0, s1, s2, s3, .sh (.dT kvs), s5, s6, .sh (tS w), s8, s9, s10] = .ok true := by rw [et]; exact congrArg R.ok (by decide +kernel)
        simp -implicitDefEqProofs [wipeT, DL.strip, et']
    · refine ⟨us, by simp; omega, hu, ?_⟩
      simp only [List.map_cons, lcL]
      rw [e]
      have et' : tF [s0, s1, s2, s3, .sh (.dT kvs), s5, s6, .sh (tS w), s8, s9, s10] = .ok false := by rw [et]; exact congrArg R.ok (beq_eq_false_iff_ne.mpr q)
      simp -implicitDefEqProofs [wipeT, DL.strip, et']
theorem find_dot (h : Hall kvs fs) (hes : es.length ≤ 1000) (s : D) : m_find_way [.lst (es.map ent), s, .str D1] = .ok (.sh s) := by
  obtain ⟨st, eg⟩ := p_go_dot (es.foldl putE []) s 0
  exact p_find hes (r := false) (by simp) (words_one (.inl rfl)) eg
theorem find_up (h : Hall kvs fs) (hes : es.length ≤ 1000) (l : List D) : m_find_way [.lst (es.map ent), .tup l, .str D2] = .ok (.sh (.tup (DL.cutD l none (some (-1))))) := by
  obtain ⟨st, eg⟩ := p_go_up (es.foldl putE []) l 0
  exact p_find hes (r := false) (by simp) (words_one (.inr rfl)) eg
theorem find_root (h : Hall kvs fs) (hes : es.length ≤ 1000) (s : D) : m_find_way [.lst (es.map ent), s, .str SL] = .ok (.sh (.tup [])) :=
  p_find hes (r := true) (by simp) words_root (p_go_nil (es.foldl putE []) (.tup []) 0)
theorem cut_up (w : List Str) : DL.cutD (w.map D.str) none (some (-1)) = w.dropLast.map .str := by
  by_cases q : w = []
  · subst q; exact cut_nil
  · have e := (List.dropLast_concat_getLast q).symm
    have e2 := congrArg (List.map D.str) e
    rw [List.map_append] at e2
    rw [e2]
    exact cut_last _ _
theorem ents_pl (es : List (List Str × D × D)) (h : ∀ e ∈ es, ∃ a b : Str, e.2 = (.str a, .str b)) : D.pls (es.map ent) = true ∧ D.deps (es.map ent) ≤ 2 := by
  induction es with
  | nil => exact ⟨rfl, Nat.zero_le _⟩
  | cons e r ih =>
    obtain ⟨a, b, q⟩ := h e (List.mem_cons_self ..)
    obtain ⟨i1, i2⟩ := ih fun z m => h z (List.mem_cons_of_mem _ m)
    obtain ⟨w, x⟩ := e
    cases q
    constructor
    · simp only [List.map_cons, D.pls, D.pl, strs_pl, i1, Bool.and_self]
    · simp only [List.map_cons, D.deps, D.dep, strs_dep]
      omega
theorem eq_tree (es : List (List Str × D × D)) (h : ∀ e ∈ es, ∃ a b : Str, e.2 = (.str a, .str b)) : eqD (.lst (es.map ent)) (.lst (es.map ent)) = .ok (.sh (.bl true)) := by
  obtain ⟨h1, h2⟩ := ents_pl es h
  have c : cmpOk (.lst (es.map ent)) (.lst (es.map ent)) = true := by
    have hp : (D.lst (es.map ent)).pl = true := by rw [D.pl]; exact h1
    have hd : (D.lst (es.map ent)).dep ≤ 40 := by rw [D.dep]; omega
    unfold cmpOk
    rw [hp, decide_eq_true hd]
    rfl
  have e : eqvD (.lst (es.map ent)) (.lst (es.map ent)) = true := PySem.SeqAt.eqv_refl_plain _ (D.py_plain _ (by rw [D.pl]; exact h1))
  show (if cmpOk (.lst (es.map ent)) (.lst (es.map ent)) then _ else _) = _
  rw [if_pos c, e]
end
def lw1 : FS :=
  (sSet 1 (vl (kp (cal1 m_l_cell_at (aC (kp (vR 0)) (aC (vC (.int 0)) aN))))))
def lw2 : FS :=
  (sSet 2 (vl (kp (cal1 m_l_cell_at (aC (kp (vR 0)) (aC (vC (.int 1)) aN))))))
def lw3 : FS :=
  (sSet 3 (vl (kp (cal1 m_l_mixed (aC (kp (vR 2)) (aC (vC (.int 0)) (aC (vC (.int 13)) aN)))))))
def lw4 : FS :=
  (sIf (tst (op2 eqD (rd (cal1 m_l_mixed (aC (kp (vR 2)) (aC (vC (.int 1)) (aC (vC (.int 6)) aN))))) (vC (.int 0))))
    (sSet 3 (vl (kp (cal1 m_l_mixed (aC (kp (vR 2)) (aC (vC (.int 2)) (aC (vC (.int 41)) aN)))))))
    sNx)
def lw5 : FS :=
  (sSet 4 (vl (kp (cal1 m_l_hall_by (aC (kp (cal1 m_l_cells (aC (kp (vR 0)) (aC (vC (.int 3)) (aC (vC (.int 1)) (aC (kp (vR 3)) aN)))))) (aC (kp (vR 1)) aN))))))
def lw6 : FS :=
  (sSet 5 (vl (kp (cal1 m_l_tree_of (aC (kp (vR 4)) aN)))))
def lw7 : FS :=
  (sSet 6 (vl (kp (cal1 listD (aC (rd (vR 5)) aN)))))
def lw8 : FS :=
  (sFor 7 (iA (kp (cal1 listD (aC (rd (vR 4)) aN))))
    lb_law_1)
def lw9 : FS :=
  (sSet 8 (vl (kp (op2 addD (rd (lstE (aC (tupE aN) aN))) (rd (lcD [7] 7 (iKD 4) (tst (op2 eqD (rd (op2 ixD (rd (op2 ixD (rd (vR 4)) (rd (vR 7)))) (vC (.int 0)))) (vC (.str ("folder" : Str))))) (kp (vR 7))))))))
def lw10 : FS :=
  (sSet 9 (vl (kp (op2 ixD (rd (vR 8)) (rd (cal1 m_l_mixed (aC (kp (vR 2)) (aC (vC (.int 3)) (aC (kp (cal1 lenD (aC (rd (vR 8)) aN))) aN)))))))))
def lw11 : FS :=
  (sIf (orT (notT (tru (rd (cal1 m_l_is_way (aC (kp (cal1 m_find_way (aC (kp (vR 6)) (aC (kp (vR 9)) (aC (vC (.str ("." : Str))) aN))))) (aC (kp (vR 9)) aN)))))) (notT (tru (rd (cal1 m_l_is_way (aC (kp (cal1 m_find_way (aC (kp (vR 6)) (aC (kp (vR 9)) (aC (vC (.str (".." : Str))) aN))))) (aC (kp (sl3 (rd (vR 9)) oN (oS (negD (vC (.int 1)))))) aN)))))))
    (sRet (vl (vC (.bl false))))
    sNx)
def lw12 : FS :=
  (sSet 10 (vl (kp (cal1 m_l_name_by (aC (kp (vR 1)) (aC (kp (cal1 m_l_mixed (aC (kp (vR 2)) (aC (vC (.int 4)) (aC (vC (.int 36)) aN))))) aN))))))
def lw13 : FS :=
  (sIf (andT (tst (op2 ninD (rd (op2 addD (rd (vR 9)) (tupE (aC (kp (vR 10)) aN)))) (rd (vR 4)))) (notT (tru (rd (cal1 m_l_missing (aC (kp (vR 6)) (aC (kp (vR 9)) (aC (kp (vR 10)) aN))))))))
    (sRet (vl (vC (.bl false))))
    sNx)
def lw14 : FS :=
  (sRet (vl (andV (rd (cal1 m_l_is_way (aC (kp (cal1 m_find_way (aC (kp (vR 6)) (aC (kp (vR 9)) (aC (vC (.str ("/" : Str))) aN))))) (aC (tupE aN) aN)))) (kp (op2 eqD (rd (vR 6)) (rd (vR 5)))))))
theorem law_split : b_law = (sSeq lw1 (sSeq lw2 (sSeq lw3 (sSeq lw4 (sSeq lw5 (sSeq lw6 (sSeq lw7 (sSeq lw8 (sSeq lw9 (sSeq lw10 (sSeq lw11 (sSeq lw12 (sSeq lw13 lw14))))))))))))) := rfl
theorem plain0 : ∀ ns : List Int, ns.length ≤ 63 → m_law [.lst (ns.map .int)] = .ok (.sh (.bl true)) := by
  intro ns hlen
  obtain ⟨stem, e0⟩ := p_cell_at ns 0 (by decide)
  obtain ⟨sm0, e1⟩ := p_cell_at ns 1 (by decide)
  obtain ⟨n1, hn1, x0⟩ := mix0 sm0 0 (by decide) 13 (by decide)
  obtain ⟨n2, hn2, x2⟩ := mix0 sm0 2 (by decide) 41 (by decide)
  obtain ⟨k, hk, x1⟩ := mix0 sm0 1 (by decide) 6 (by decide)
  have x0' : m_l_mixed [.int sm0, .int 0, .int 13] = .ok (.sh (.int (n1 : Int))) := x0
  have x1' : m_l_mixed [.int sm0, .int 1, .int 6] = .ok (.sh (.int (k : Int))) := x1
  have x2' : m_l_mixed [.int sm0, .int 2, .int 41] = .ok (.sh (.int (n2 : Int))) := x2
  obtain ⟨n, hn, s4⟩ : ∃ n : Nat, n ≤ 100 ∧ lw4 [.sh (.lst (ns.map .int)), .sh (.int stem), .sh (.int sm0), .sh (.int (n1 : Int)), .un, .un, .un, .un, .un, .un, .un] = .nx [.sh (.lst (ns.map .int)), .sh (.int stem), .sh (.int sm0), .sh (.int (n : Int)), .un, .un, .un, .un, .un, .un, .un] := by
    by_cases q : k = 0
    · subst q
      refine ⟨n2, by omega, ?_⟩
      have x1'' : m_l_mixed [.int sm0, .int 1, .int 6] = .ok (.sh (.int 0)) := x1'
      simp -implicitDefEqProofs [lw4, x1'', x2']
    · have q' : ((k : Int) == 0) = false := by rw [beq_eq_false_iff_ne]; omega
      refine ⟨n1, by omega, ?_⟩
      simp -implicitDefEqProofs [lw4, x1', q']
  obtain ⟨cs, hcs, ecs⟩ := p_cells ns n hn
  obtain ⟨kvs, fs, eh, H, hl⟩ := p_hall cs stem (by omega)
  obtain ⟨es, hes, et, hT, hE⟩ := p_tree H hl
  have ld : listD [.dT kvs] = .ok (.ow (.lst ((kvs.map (·.1)).map tS))) := by
    rw [List.map_map]; rfl
  obtain ⟨t7, g7, em⟩ := met_loop H hes hT ns (.sh (.int stem)) (.sh (.int sm0)) (.sh (.int (n : Int))) (.sh (.lst (es.map ent))) .un .un .un (kvs.map (·.1)) .un rfl fun w m => m
  obtain ⟨us, ul, hu, ef⟩ := fold_loop H (.sh (.lst (ns.map .int))) (.sh (.int stem)) (.sh (.int sm0)) (.sh (.int (n : Int))) (.sh (.lst (es.map ent))) (.sh (.lst (es.map ent))) t7 .un .un .un (kvs.map (·.1)) fun w m => m
  rw [List.length_map] at ul
  have ev : ∀ u ∈ ([] :: us), u ∈ fs := fun u m => by
    rcases List.mem_cons.mp m with m | m
    · rw [m]; exact H.root
    · exact hu u m
  obtain ⟨j, hj, x3⟩ := mix0 sm0 3 (by decide) ([] :: us).length (by simp)
  have x3' : m_l_mixed [.int sm0, .int 3, .int ((([] :: us).length : Nat) : Int)] = .ok (.sh (.int (j : Int))) := x3
  have wf := ev _ (List.getElem_mem hj)
  generalize hw : ([] :: us)[j] = w at wf
  have w12 := (H.nm wf).1
  obtain ⟨v, v0, _, x4⟩ := p_mixed sm0 36 4 (by decide) (by decide)
  have x4' : m_l_mixed [.int sm0, .int 4, .int 36] = .ok (.sh (.int v)) := x4
  obtain ⟨x, hx, en⟩ := p_name_by stem v v0
  have ia : atI (([] :: us).map tS) (j : Int) = some (tS w) := by rw [at_map tS ([] :: us) j hj, hw]
  have fd := find_dot H hes (tS w)
  have fu := find_up H hes (w.map .str)
  rw [cut_up] at fu
  have iw : m_l_is_way [tS w, tS w] = .ok (.sh (.bl true)) := p_is_way w (by omega)
  have iu : m_l_is_way [tS w.dropLast, tS w.dropLast] = .ok (.sh (.bl true)) := p_is_way w.dropLast (by rw [List.length_dropLast]; omega)
  have sl : slD (tS w) none (some (-1)) = .ok (.sh (tS w.dropLast)) := by
    show R.ok (Sl.sh (D.tup (DL.cutD (w.map D.str) none (some (-1))))) = _
    rw [cut_up]
  have aw := add_tS w x (by omega)
  have ni := nin_dT kvs (w ++ [x])
  have fr := find_root H hes (tS w)
  have i0 : m_l_is_way [.tup [], .tup []] = .ok (.sh (.bl true)) := p_is_way [] (by simp)
  have q0 := eq_tree es hE
  have l5 : listD [.lst (es.map ent)] = .ok (.ow (.lst (es.map ent))) := rfl
  have s1 : lw1 [.sh (.lst (ns.map .int)), .un, .un, .un, .un, .un, .un, .un, .un, .un, .un] = .nx [.sh (.lst (ns.map .int)), .sh (.int stem), .un, .un, .un, .un, .un, .un, .un, .un, .un] := by
    simp -implicitDefEqProofs [lw1, e0]
  have s2 : lw2 [.sh (.lst (ns.map .int)), .sh (.int stem), .un, .un, .un, .un, .un, .un, .un, .un, .un] = .nx [.sh (.lst (ns.map .int)), .sh (.int stem), .sh (.int sm0), .un, .un, .un, .un, .un, .un, .un, .un] := by
    simp -implicitDefEqProofs [lw2, e1]
  have s3 : lw3 [.sh (.lst (ns.map .int)), .sh (.int stem), .sh (.int sm0), .un, .un, .un, .un, .un, .un, .un, .un] = .nx [.sh (.lst (ns.map .int)), .sh (.int stem), .sh (.int sm0), .sh (.int (n1 : Int)), .un, .un, .un, .un, .un, .un, .un] := by
    simp -implicitDefEqProofs [lw3, x0']
  have s5 : lw5 [.sh (.lst (ns.map .int)), .sh (.int stem), .sh (.int sm0), .sh (.int (n : Int)), .un, .un, .un, .un, .un, .un, .un] = .nx [.sh (.lst (ns.map .int)), .sh (.int stem), .sh (.int sm0), .sh (.int (n : Int)), .sh (.dT kvs), .un, .un, .un, .un, .un, .un] := by
    simp -implicitDefEqProofs [lw5, ecs, eh]
  have s6 : lw6 [.sh (.lst (ns.map .int)), .sh (.int stem), .sh (.int sm0), .sh (.int (n : Int)), .sh (.dT kvs), .un, .un, .un, .un, .un, .un] = .nx [.sh (.lst (ns.map .int)), .sh (.int stem), .sh (.int sm0), .sh (.int (n : Int)), .sh (.dT kvs), .sh (.lst (es.map ent)), .un, .un, .un, .un, .un] := by
    simp -implicitDefEqProofs [lw6, et]
  have s7 : lw7 [.sh (.lst (ns.map .int)), .sh (.int stem), .sh (.int sm0), .sh (.int (n : Int)), .sh (.dT kvs), .sh (.lst (es.map ent)), .un, .un, .un, .un, .un] = .nx [.sh (.lst (ns.map .int)), .sh (.int stem), .sh (.int sm0), .sh (.int (n : Int)), .sh (.dT kvs), .sh (.lst (es.map ent)), .sh (.lst (es.map ent)), .un, .un, .un, .un] := by
    simp -implicitDefEqProofs [lw7, l5]
  have s8 : lw8 [.sh (.lst (ns.map .int)), .sh (.int stem), .sh (.int sm0), .sh (.int (n : Int)), .sh (.dT kvs), .sh (.lst (es.map ent)), .sh (.lst (es.map ent)), .un, .un, .un, .un] = .nx [.sh (.lst (ns.map .int)), .sh (.int stem), .sh (.int sm0), .sh (.int (n : Int)), .sh (.dT kvs), .sh (.lst (es.map ent)), .sh (.lst (es.map ent)), t7, .un, .un, .un] := by
    simp -implicitDefEqProofs [lw8, ld, itA, em, -List.map_map]
  have s9 : lw9 [.sh (.lst (ns.map .int)), .sh (.int stem), .sh (.int sm0), .sh (.int (n : Int)), .sh (.dT kvs), .sh (.lst (es.map ent)), .sh (.lst (es.map ent)), t7, .un, .un, .un] = .nx [.sh (.lst (ns.map .int)), .sh (.int stem), .sh (.int sm0), .sh (.int (n : Int)), .sh (.dT kvs), .sh (.lst (es.map ent)), .sh (.lst (es.map ent)), t7, .sh (.lst (([] :: us).map tS)), .un, .un] := by
    have lk : ((kvs.map (·.1)).map tS).length ≤ sizeLine := by rw [List.length_map, List.length_map, sizeL]; omega
    have ik : iKD 4 [.sh (.lst (ns.map .int)), .sh (.int stem), .sh (.int sm0), .sh (.int (n : Int)), .sh (.dT kvs), .sh (.lst (es.map ent)), .sh (.lst (es.map ent)), t7, .un, .un, .un] = .ok ((kvs.map (·.1)).map tS) := by
      rw [iKD_ap, List.map_map]; rfl
    have lc : lcD [7] 7 (iKD 4) tF (kp (vR 7)) [.sh (.lst (ns.map .int)), .sh (.int stem), .sh (.int sm0), .sh (.int (n : Int)), .sh (.dT kvs), .sh (.lst (es.map ent)), .sh (.lst (es.map ent)), t7, .un, .un, .un] = .ok (.ow (.lst (us.map tS))) := by
      unfold lcD
      rw [ik, R.bind_ok, if_pos ⟨lk, by simp, by simp⟩, ef]
      rfl
    have ad : addD (.lst [.tup []]) (.lst (us.map tS)) = .ok (.ow (.lst (([] :: us).map tS))) := by
      show (if [D.tup []].length + (us.map tS).length ≤ sizeLine then _ else _) = _
      rw [if_pos (by rw [List.length_map, sizeL, List.length_singleton]; omega)]
      rfl
    have e9 : lw9 = sSet 8 (vl (kp (op2 addD (rd (lstE (aC (tupE aN) aN))) (rd (lcD [7] 7 (iKD 4) tF (kp (vR 7))))))) := rfl
    rw [e9]
    simp -implicitDefEqProofs [lc, ad, -List.map_cons]
  have t10 : ∀ vs : List (List Str), m_l_mixed [.int sm0, .int 3, .int (vs.length : Int)] = .ok (.sh (.int (j : Int))) → atI (vs.map tS) (j : Int) = some (tS w) → lw10 [.sh (.lst (ns.map .int)), .sh (.int stem), .sh (.int sm0), .sh (.int (n : Int)), .sh (.dT kvs), .sh (.lst (es.map ent)), .sh (.lst (es.map ent)), t7, .sh (.lst (vs.map tS)), .un, .un] = .nx [.sh (.lst (ns.map .int)), .sh (.int stem), .sh (.int sm0), .sh (.int (n : Int)), .sh (.dT kvs), .sh (.lst (es.map ent)), .sh (.lst (es.map ent)), t7, .sh (.lst (vs.map tS)), .sh (tS w), .un] := by
    intro vs x3v iav
    simp -implicitDefEqProofs [lw10, x3v, iav]
  have s10 := t10 ([] :: us) x3' ia
  have s11 : lw11 [.sh (.lst (ns.map .int)), .sh (.int stem), .sh (.int sm0), .sh (.int (n : Int)), .sh (.dT kvs), .sh (.lst (es.map ent)), .sh (.lst (es.map ent)), t7, .sh (.lst (([] :: us).map tS)), .sh (tS w), .un] = .nx [.sh (.lst (ns.map .int)), .sh (.int stem), .sh (.int sm0), .sh (.int (n : Int)), .sh (.dT kvs), .sh (.lst (es.map ent)), .sh (.lst (es.map ent)), t7, .sh (.lst (([] :: us).map tS)), .sh (tS w), .un] := by
    simp -implicitDefEqProofs [lw11, fd, fu, iw, iu, sl, -List.map_dropLast]
  have s12 : lw12 [.sh (.lst (ns.map .int)), .sh (.int stem), .sh (.int sm0), .sh (.int (n : Int)), .sh (.dT kvs), .sh (.lst (es.map ent)), .sh (.lst (es.map ent)), t7, .sh (.lst (([] :: us).map tS)), .sh (tS w), .un] = .nx [.sh (.lst (ns.map .int)), .sh (.int stem), .sh (.int sm0), .sh (.int (n : Int)), .sh (.dT kvs), .sh (.lst (es.map ent)), .sh (.lst (es.map ent)), t7, .sh (.lst (([] :: us).map tS)), .sh (tS w), .sh (.str x)] := by
    simp -implicitDefEqProofs [lw12, x4', en]
  have s13 : lw13 [.sh (.lst (ns.map .int)), .sh (.int stem), .sh (.int sm0), .sh (.int (n : Int)), .sh (.dT kvs), .sh (.lst (es.map ent)), .sh (.lst (es.map ent)), t7, .sh (.lst (([] :: us).map tS)), .sh (tS w), .sh (.str x)] = .nx [.sh (.lst (ns.map .int)), .sh (.int stem), .sh (.int sm0), .sh (.int (n : Int)), .sh (.dT kvs), .sh (.lst (es.map ent)), .sh (.lst (es.map ent)), t7, .sh (.lst (([] :: us).map tS)), .sh (tS w), .sh (.str x)] := by
    by_cases z : (dlook kvs (w ++ [x])).isSome = true
    · rw [z] at ni
      simp -implicitDefEqProofs [lw13, aw, ni, -List.map_append]
    · have zn : dlook kvs (w ++ [x]) = none := by simpa using z
      have pm := p_missing H hes hT wf hx zn
      rw [zn] at ni
      simp -implicitDefEqProofs [lw13, aw, ni, pm, -List.map_append]
  have s14 : lw14 [.sh (.lst (ns.map .int)), .sh (.int stem), .sh (.int sm0), .sh (.int (n : Int)), .sh (.dT kvs), .sh (.lst (es.map ent)), .sh (.lst (es.map ent)), t7, .sh (.lst (([] :: us).map tS)), .sh (tS w), .sh (.str x)] = .rt (.sh (.bl true)) [.sh (.lst (ns.map .int)), .sh (.int stem), .sh (.int sm0), .sh (.int (n : Int)), .sh (.dT kvs), .sh (.lst (es.map ent)), .sh (.lst (es.map ent)), t7, .sh (.lst (([] :: us).map tS)), .sh (tS w), .sh (.str x)] := by
    simp -implicitDefEqProofs [lw14, fr, i0, q0]
  show (b_law [.sh (.lst (ns.map .int)), .un, .un, .un, .un, .un, .un, .un, .un, .un, .un]).res = _
  rw [law_split]
  rw [sSeq_ap, s1, Fl.seq_nx]
  rw [sSeq_ap, s2, Fl.seq_nx]
  rw [sSeq_ap, s3, Fl.seq_nx]
  rw [sSeq_ap, s4, Fl.seq_nx]
  rw [sSeq_ap, s5, Fl.seq_nx]
  rw [sSeq_ap, s6, Fl.seq_nx]
  rw [sSeq_ap, s7, Fl.seq_nx]
  rw [sSeq_ap, s8, Fl.seq_nx]
  rw [sSeq_ap, s9, Fl.seq_nx]
  rw [sSeq_ap, s10, Fl.seq_nx]
  rw [sSeq_ap, s11, Fl.seq_nx]
  rw [sSeq_ap, s12, Fl.seq_nx]
  rw [sSeq_ap, s13, Fl.seq_nx]
  rw [s14]
  rfl
end Lk50
end

section
set_option Elab.async false
set_option linter.all false
set_option maxRecDepth 100000
set_option maxHeartbeats 0
namespace Lk50
open PySem PySem.Spec PyProof.Rows L2 DL
/-! ### the head -/
def dd_l_cell_at : He.DefD := ⟨(("_law_cell_at" : Str), none), ("_law_cell_at" : Str), ("_law_cell_at" : Str), defArgs s_l_cell_at, defBody s_l_cell_at, defScope s_l_cell_at, [], []⟩
def dd_l_mixed : He.DefD := ⟨(("_law_mixed" : Str), none), ("_law_mixed" : Str), ("_law_mixed" : Str), defArgs s_l_mixed, defBody s_l_mixed, defScope s_l_mixed, [], []⟩
def dd_l_name_by : He.DefD := ⟨(("_law_name_by" : Str), none), ("_law_name_by" : Str), ("_law_name_by" : Str), defArgs s_l_name_by, defBody s_l_name_by, defScope s_l_name_by, [], []⟩
def dd_l_link_by : He.DefD := ⟨(("_law_link_by" : Str), none), ("_law_link_by" : Str), ("_law_link_by" : Str), defArgs s_l_link_by, defBody s_l_link_by, defScope s_l_link_by, [], []⟩
def dd_l_hall_by : He.DefD := ⟨(("_law_hall_by" : Str), none), ("_law_hall_by" : Str), ("_law_hall_by" : Str), defArgs s_l_hall_by, defBody s_l_hall_by, defScope s_l_hall_by, [], []⟩
def dd_l_tree_of : He.DefD := ⟨(("_law_tree_of" : Str), none), ("_law_tree_of" : Str), ("_law_tree_of" : Str), defArgs s_l_tree_of, defBody s_l_tree_of, defScope s_l_tree_of, [], []⟩
def dd_l_cells : He.DefD := ⟨(("_law_cells" : Str), none), ("_law_cells" : Str), ("_law_cells" : Str), defArgs s_l_cells, defBody s_l_cells, defScope s_l_cells, [], []⟩
def dd_l_is_way : He.DefD := ⟨(("_law_is_way" : Str), none), ("_law_is_way" : Str), ("_law_is_way" : Str), defArgs s_l_is_way, defBody s_l_is_way, defScope s_l_is_way, [], []⟩
def dd_is_name : He.DefD := ⟨(("is_name" : Str), none), ("is_name" : Str), ("is_name" : Str), defArgs s_is_name, defBody s_is_name, defScope s_is_name, [], []⟩
def dd_is_word : He.DefD := ⟨(("is_word" : Str), none), ("is_word" : Str), ("is_word" : Str), defArgs s_is_word, defBody s_is_word, defScope s_is_word, [], []⟩
def dd_words_of : He.DefD := ⟨(("words_of" : Str), none), ("words_of" : Str), ("words_of" : Str), defArgs s_words_of, defBody s_words_of, defScope s_words_of, [], []⟩
def dd_by_way : He.DefD := ⟨(("by_way" : Str), none), ("by_way" : Str), ("by_way" : Str), defArgs s_by_way, defBody s_by_way, defScope s_by_way, [], []⟩
def dd_Walk_init : He.DefD := ⟨(("Walk" : Str), some ("__init__" : Str)), ("__init__" : Str), ("Walk.__init__" : Str), defArgs s_Walk_init, defBody s_Walk_init, defScope s_Walk_init, [], []⟩
def dd_Walk_set_out : He.DefD := ⟨(("Walk" : Str), some ("set_out" : Str)), ("set_out" : Str), ("Walk.set_out" : Str), defArgs s_Walk_set_out, defBody s_Walk_set_out, defScope s_Walk_set_out, [], []⟩
def dd_above : He.DefD := ⟨(("above" : Str), none), ("above" : Str), ("above" : Str), defArgs s_above, defBody s_above, defScope s_above, [], []⟩
def dd_Walk_follow : He.DefD := ⟨(("Walk" : Str), some ("follow" : Str)), ("follow" : Str), ("Walk.follow" : Str), defArgs s_Walk_follow, defBody s_Walk_follow, defScope s_Walk_follow, [], []⟩
def dd_Walk_enter : He.DefD := ⟨(("Walk" : Str), some ("enter" : Str)), ("enter" : Str), ("Walk.enter" : Str), defArgs s_Walk_enter, defBody s_Walk_enter, defScope s_Walk_enter, [], []⟩
def dd_Walk_go : He.DefD := ⟨(("Walk" : Str), some ("go" : Str)), ("go" : Str), ("Walk.go" : Str), defArgs s_Walk_go, defBody s_Walk_go, defScope s_Walk_go, [], []⟩
def dd_walked : He.DefD := ⟨(("walked" : Str), none), ("walked" : Str), ("walked" : Str), defArgs s_walked, defBody s_walked, defScope s_walked, [], []⟩
def dd_find_way : He.DefD := ⟨(("find_way" : Str), none), ("find_way" : Str), ("find_way" : Str), defArgs s_find_way, defBody s_find_way, defScope s_find_way, [], []⟩
def dd_Walk_come_to : He.DefD := ⟨(("Walk" : Str), some ("come_to" : Str)), ("come_to" : Str), ("Walk.come_to" : Str), defArgs s_Walk_come_to, defBody s_Walk_come_to, defScope s_Walk_come_to, [], []⟩
def dd_place_of : He.DefD := ⟨(("place_of" : Str), none), ("place_of" : Str), ("place_of" : Str), defArgs s_place_of, defBody s_place_of, defScope s_place_of, [], []⟩
def dd_l_met : He.DefD := ⟨(("_law_met" : Str), none), ("_law_met" : Str), ("_law_met" : Str), defArgs s_l_met, defBody s_l_met, defScope s_l_met, [], []⟩
def dd_l_missing : He.DefD := ⟨(("_law_missing" : Str), none), ("_law_missing" : Str), ("_law_missing" : Str), defArgs s_l_missing, defBody s_l_missing, defScope s_l_missing, [], []⟩
def dd_law : He.DefD := ⟨(("law" : Str), none), ("law" : Str), ("law" : Str), defArgs s_law, defBody s_law, defScope s_law, [], []⟩
def fn : List He.DefD := [dd_l_cell_at, dd_l_mixed, dd_l_name_by, dd_l_link_by, dd_l_hall_by, dd_l_tree_of, dd_l_cells, dd_l_is_way, dd_is_name, dd_is_word, dd_words_of, dd_by_way, dd_Walk_init, dd_Walk_set_out, dd_above, dd_Walk_follow, dd_Walk_enter, dd_Walk_go, dd_walked, dd_find_way, dd_Walk_come_to, dd_place_of, dd_l_met, dd_l_missing, dd_law]
def hds : List Str := [("GlassError" : Str)]
def isaC : List Str := [("Missing" : Str), ("NoWay" : Str), ("NotFolder" : Str)]
def exK (K : PySem.W.Frag) : Bool := exs.all fun c => He.eqO (PySem.W.nsIn K mainGlobals c) (some (some (.ref (He.ga K c)))) && (hds.all (fun h => He.eqO (PySem.W.nsIn K mainGlobals h) (some (some (.ref (He.ga K h)))) && decide (PySem.W.exmOne K (.ref (He.ga K c)) (.ref (He.ga K h)) = some (sub c h))) &&
  (isaC.all (fun t => He.eqO (PySem.W.nsIn K mainGlobals t) (some (some (.ref (He.ga K t)))) && decide (PySem.W.kitOne K (.ref (He.ga K c)) (.ref (He.ga K t)) = some (sub c t))) && (decide (PySem.W.kitOne K (.ref (He.ga K c)) (.type "ValueError") = some (sub c "ValueError")) &&
  (He.eqO (PySem.W.findIn K (.ref (He.ga K c)) "__getattribute__") (some (some (.builtin "BaseException.__getattribute__"))) && (He.eqO (PySem.W.findIn K (.ref (He.ga K c)) "__getattr__") (some none) && (decide (PySem.W.subIn K (.ref (He.ga K c)) (.type "BaseException") = some true) && (PySem.W.hasDictIn K (He.ga K c) &&
  (He.eqO (PySem.W.findIn K (.ref (He.ga K c)) "__class__") (some (some (.builtin "object.__class__"))) && (He.eqO (PySem.W.specialIn K (.builtin "object.__class__") "__get__") (some (some (.builtin "getset_descriptor.__get__"))) && (decide (PySem.W.takesIn K (.builtin "object.__class__") = some true) && decide (PySem.W.mroIn K (He.ga K c) (.type "object") = some true)))))))))))
def fa : List He.Fa := [.free ("ValueError" : Str), .free ("isinstance" : Str), .free ("len" : Str), .free ("list" : Str), .free ("range" : Str), .free ("sorted" : Str), .free ("str" : Str), .free ("tuple" : Str), .str ("FILE" : Str) ("file" : Str), .str ("FOLDER" : Str) ("folder" : Str), .str ("LINK" : Str) ("link" : Str), .int ("LONGEST" : Str) 12, .int ("MOST_LINKS" : Str) 8, .int ("MOST_WORDS" : Str) 40, .str ("SIGNS" : Str) ("abcdefghijklmnopqrstuvwxyz0123456789" : Str), .glo ("Astray" : Str), .exc ("Astray" : Str), .glo ("Missing" : Str), .exc ("Missing" : Str), .glo ("NoPlace" : Str), .exc ("NoPlace" : Str), .glo ("NoWay" : Str), .exc ("NoWay" : Str), .glo ("NotFolder" : Str), .exc ("NotFolder" : Str), .glo ("Walk" : Str), .cls ("Walk" : Str), .noat ("Walk" : Str) ("left" : Str), .noat ("Walk" : Str) ("links" : Str), .noat ("Walk" : Str) ("stands" : Str), .noat ("Walk" : Str) ("steps" : Str), .noat ("Walk" : Str) ("things" : Str), .glo ("GlassError" : Str), .glo ("_law_cell_at" : Str), .glo ("_law_mixed" : Str), .glo ("_law_name_by" : Str), .glo ("_law_link_by" : Str), .glo ("_law_hall_by" : Str), .glo ("_law_tree_of" : Str), .glo ("_law_cells" : Str), .glo ("_law_is_way" : Str), .glo ("is_name" : Str), .glo ("is_word" : Str), .glo ("words_of" : Str), .glo ("by_way" : Str), .mkr ("Walk" : Str), .meth ("Walk" : Str) ("set_out" : Str), .glo ("above" : Str), .meth ("Walk" : Str) ("follow" : Str), .meth ("Walk" : Str) ("enter" : Str), .meth ("Walk" : Str) ("go" : Str), .glo ("walked" : Str), .glo ("find_way" : Str), .meth ("Walk" : Str) ("come_to" : Str), .glo ("place_of" : Str), .glo ("_law_met" : Str), .glo ("_law_missing" : Str), .glo ("law" : Str)]
abbrev R : PySem.W.OpenRow := PySem.W.OpenLaw.row PySem.Challenge.rw_glasslayers_k50_ways_found
abbrev hk : PySem.W.Hook := He.hookX 5 fa fn [] [] exK
def ob (s : PySem.W.SharedT) : He.AlX := He.obsX 5 fa fn [] [] exK (HandSHeadRun.getT s)
theorem ob_eq (s : PySem.W.SharedT) : ob s = hk.obs s.abs := He.obsX_eq (HandSHeadRun.getT_eq s)
def loose : List Str := ([("GlassError" : Str), ("NoWay" : Str), ("Missing" : Str), ("NotFolder" : Str), ("NoPlace" : Str), ("Astray" : Str), ("SIGNS" : Str), ("LONGEST" : Str), ("is_name" : Str), ("above" : Str), ("MOST_WORDS" : Str), ("is_word" : Str), ("words_of" : Str), ("FILE" : Str), ("LINK" : Str), ("FOLDER" : Str), ("by_way" : Str), ("MOST_LINKS" : Str), ("Walk" : Str), ("walked" : Str), ("find_way" : Str), ("place_of" : Str), ("_law_cell_at" : Str), ("_law_cells" : Str), ("_law_mixed" : Str), ("_law_name_by" : Str), ("_law_link_by" : Str), ("_law_hall_by" : Str), ("_law_tree_of" : Str), ("_law_is_way" : Str), ("_law_met" : Str), ("_law_missing" : Str)] : List Str)
theorem run (w : World) : HandSHeadRun.RunEq R (PySem.W.view R.prog [39]) hk ob 6000 loose w := by
  intro os
  kernel_rfl
section
variable {P : Program} {w : World} {K : PySem.W.Frag} {h h0 : Heap} {mg : Str → Option Value}
theorem cv_self {x : Str} {C : Addr} (h : mg x = some (.ref C)) : mg x = some (cv mg x) := by rw [DL.cv_eq h]; exact h
structure ExAll (K : PySem.W.Frag) (mg : Str → Option Value) (c : Str) : Prop where
  g : mg c = some (.ref (He.ga K c))
  m : ∀ h ∈ hds, mg h = some (.ref (He.ga K h)) ∧ PySem.W.exmOne K (.ref (He.ga K c)) (.ref (He.ga K h)) = some (sub c h)
  i : ∀ t ∈ isaC, mg t = some (.ref (He.ga K t)) ∧ PySem.W.kitOne K (.ref (He.ga K c)) (.ref (He.ga K t)) = some (sub c t)
  v : PySem.W.kitOne K (.ref (He.ga K c)) (.type "ValueError") = some (sub c "ValueError")
  e : ExcC K (He.ga K c)
theorem exAll (X : K.In h) (G : h.Ns mainGlobals mg) (e : exK K = true) {c : Str} (hc : c ∈ exs) : ExAll K mg c := by
  obtain ⟨a1, e⟩ := He.ba (List.all_eq_true.mp e c hc)
  obtain ⟨a2, e⟩ := He.ba e
  obtain ⟨a3, e⟩ := He.ba e
  obtain ⟨a4, e⟩ := He.ba e
  obtain ⟨a5, e⟩ := He.ba e
  obtain ⟨a6, e⟩ := He.ba e
  obtain ⟨a7, e⟩ := He.ba e
  obtain ⟨a8, e⟩ := He.ba e
  obtain ⟨a9, e⟩ := He.ba e
  obtain ⟨b1, e⟩ := He.ba e
  obtain ⟨b2, b3⟩ := He.ba e
  refine ⟨PySem.W.mg_of X G (He.eqO_ok a1), fun h hh => ?_, fun t ht => ?_, of_decide_eq_true a4, He.eqO_ok a5, He.eqO_ok a6, of_decide_eq_true a7, a8, He.eqO_ok a9, He.eqO_ok b1, of_decide_eq_true b2, of_decide_eq_true b3⟩
  · obtain ⟨c1, c2⟩ := He.ba (List.all_eq_true.mp a2 h hh)
    exact ⟨PySem.W.mg_of X G (He.eqO_ok c1), of_decide_eq_true c2⟩
  · obtain ⟨c1, c2⟩ := He.ba (List.all_eq_true.mp a3 t ht)
    exact ⟨PySem.W.mg_of X G (He.eqO_ok c1), of_decide_eq_true c2⟩
theorem exAll_exm {hs : List Str} (hx : ∀ c ∈ exs, ExAll K mg c) {a b : Str} (ha : a ∈ exs) (hb : b ∈ hs) (hsub : ∀ b ∈ hs, b ∈ hds) : PySem.W.exmOne K (cv mg a) (cv mg b) = some (sub a b) := by
  obtain ⟨g, e⟩ := (hx a ha).m b (hsub b hb)
  rw [DL.cv_eq (hx a ha).g, DL.cv_eq g]
  exact e
theorem exAll_xi (hx : ∀ c ∈ exs, ExAll K mg c) {a : Str} (ha : a ∈ exs) : ExI K mg a := ⟨_, (hx a ha).g, (hx a ha).e⟩
theorem exAll_kic (hx : ∀ c ∈ exs, ExAll K mg c) {a t : Str} (ha : a ∈ exs) (ht : t ∈ isaC) : PySem.W.kitOne K (cv mg a) (cv mg t) = some (sub a t) := by
  obtain ⟨g, e⟩ := (hx a ha).i t ht
  rw [DL.cv_eq (hx a ha).g, DL.cv_eq g]
  exact e
theorem exAll_kit (hx : ∀ c ∈ exs, ExAll K mg c) {a : Str} (ha : a ∈ exs) : PySem.W.kitOne K (cv mg a) (.type "ValueError") = some (sub a "ValueError") := by
  rw [DL.cv_eq (hx a ha).g]
  exact (hx a ha).v
theorem ge (X : K.In h) (G : h.Ns mainGlobals mg) (c : He.SaysX fa fn [] [] exK w h0 K) : GE K mg := by
  have hx : ∀ c ∈ exs, ExAll K mg c := fun a ha => exAll X G c.more ha
  exact {
    b_ValueError := He.free_ok X G (c.t.d.fact 0 (f := .free ("ValueError" : Str)) rfl)
    b_isinstance := He.free_ok X G (c.t.d.fact 1 (f := .free ("isinstance" : Str)) rfl)
    b_len := He.free_ok X G (c.t.d.fact 2 (f := .free ("len" : Str)) rfl)
    b_list := He.free_ok X G (c.t.d.fact 3 (f := .free ("list" : Str)) rfl)
    b_range := He.free_ok X G (c.t.d.fact 4 (f := .free ("range" : Str)) rfl)
    b_sorted := He.free_ok X G (c.t.d.fact 5 (f := .free ("sorted" : Str)) rfl)
    b_str := He.free_ok X G (c.t.d.fact 6 (f := .free ("str" : Str)) rfl)
    b_tuple := He.free_ok X G (c.t.d.fact 7 (f := .free ("tuple" : Str)) rfl)
    c_FILE := He.str_ok X G (c.t.d.fact 8 (f := .str ("FILE" : Str) ("file" : Str)) rfl)
    c_FOLDER := He.str_ok X G (c.t.d.fact 9 (f := .str ("FOLDER" : Str) ("folder" : Str)) rfl)
    c_LINK := He.str_ok X G (c.t.d.fact 10 (f := .str ("LINK" : Str) ("link" : Str)) rfl)
    c_LONGEST := He.int_ok X G (c.t.d.fact 11 (f := .int ("LONGEST" : Str) 12) rfl)
    c_MOST_LINKS := He.int_ok X G (c.t.d.fact 12 (f := .int ("MOST_LINKS" : Str) 8) rfl)
    c_MOST_WORDS := He.int_ok X G (c.t.d.fact 13 (f := .int ("MOST_WORDS" : Str) 40) rfl)
    c_SIGNS := He.str_ok X G (c.t.d.fact 14 (f := .str ("SIGNS" : Str) ("abcdefghijklmnopqrstuvwxyz0123456789" : Str)) rfl)
    x_Astray := ⟨_, (He.glo_ok X G (c.t.d.fact 15 (f := .glo ("Astray" : Str)) rfl)), (He.exc_ok (c.t.d.fact 16 (f := .exc ("Astray" : Str)) rfl)).1, (He.exc_ok (c.t.d.fact 16 (f := .exc ("Astray" : Str)) rfl)).2.1, (He.exc_ok (c.t.d.fact 16 (f := .exc ("Astray" : Str)) rfl)).2.2.1, (He.exc_ok (c.t.d.fact 16 (f := .exc ("Astray" : Str)) rfl)).2.2.2⟩
    x_Missing := ⟨_, (He.glo_ok X G (c.t.d.fact 17 (f := .glo ("Missing" : Str)) rfl)), (He.exc_ok (c.t.d.fact 18 (f := .exc ("Missing" : Str)) rfl)).1, (He.exc_ok (c.t.d.fact 18 (f := .exc ("Missing" : Str)) rfl)).2.1, (He.exc_ok (c.t.d.fact 18 (f := .exc ("Missing" : Str)) rfl)).2.2.1, (He.exc_ok (c.t.d.fact 18 (f := .exc ("Missing" : Str)) rfl)).2.2.2⟩
    x_NoPlace := ⟨_, (He.glo_ok X G (c.t.d.fact 19 (f := .glo ("NoPlace" : Str)) rfl)), (He.exc_ok (c.t.d.fact 20 (f := .exc ("NoPlace" : Str)) rfl)).1, (He.exc_ok (c.t.d.fact 20 (f := .exc ("NoPlace" : Str)) rfl)).2.1, (He.exc_ok (c.t.d.fact 20 (f := .exc ("NoPlace" : Str)) rfl)).2.2.1, (He.exc_ok (c.t.d.fact 20 (f := .exc ("NoPlace" : Str)) rfl)).2.2.2⟩
    x_NoWay := ⟨_, (He.glo_ok X G (c.t.d.fact 21 (f := .glo ("NoWay" : Str)) rfl)), (He.exc_ok (c.t.d.fact 22 (f := .exc ("NoWay" : Str)) rfl)).1, (He.exc_ok (c.t.d.fact 22 (f := .exc ("NoWay" : Str)) rfl)).2.1, (He.exc_ok (c.t.d.fact 22 (f := .exc ("NoWay" : Str)) rfl)).2.2.1, (He.exc_ok (c.t.d.fact 22 (f := .exc ("NoWay" : Str)) rfl)).2.2.2⟩
    x_NotFolder := ⟨_, (He.glo_ok X G (c.t.d.fact 23 (f := .glo ("NotFolder" : Str)) rfl)), (He.exc_ok (c.t.d.fact 24 (f := .exc ("NotFolder" : Str)) rfl)).1, (He.exc_ok (c.t.d.fact 24 (f := .exc ("NotFolder" : Str)) rfl)).2.1, (He.exc_ok (c.t.d.fact 24 (f := .exc ("NotFolder" : Str)) rfl)).2.2.1, (He.exc_ok (c.t.d.fact 24 (f := .exc ("NotFolder" : Str)) rfl)).2.2.2⟩
    fl_Walk_left := fun C hC => by
      have e := (He.glo_ok X G (c.t.d.fact 25 (f := .glo ("Walk" : Str)) rfl)).symm.trans hC
      cases e
      exact ⟨He.cls_ok (c.t.d.fact 26 (f := .cls ("Walk" : Str)) rfl), He.noat_ok (c.t.d.fact 27 (f := .noat ("Walk" : Str) ("left" : Str)) rfl)⟩
    fl_Walk_links := fun C hC => by
      have e := (He.glo_ok X G (c.t.d.fact 25 (f := .glo ("Walk" : Str)) rfl)).symm.trans hC
      cases e
      exact ⟨He.cls_ok (c.t.d.fact 26 (f := .cls ("Walk" : Str)) rfl), He.noat_ok (c.t.d.fact 28 (f := .noat ("Walk" : Str) ("links" : Str)) rfl)⟩
    fl_Walk_stands := fun C hC => by
      have e := (He.glo_ok X G (c.t.d.fact 25 (f := .glo ("Walk" : Str)) rfl)).symm.trans hC
      cases e
      exact ⟨He.cls_ok (c.t.d.fact 26 (f := .cls ("Walk" : Str)) rfl), He.noat_ok (c.t.d.fact 29 (f := .noat ("Walk" : Str) ("stands" : Str)) rfl)⟩
    fl_Walk_steps := fun C hC => by
      have e := (He.glo_ok X G (c.t.d.fact 25 (f := .glo ("Walk" : Str)) rfl)).symm.trans hC
      cases e
      exact ⟨He.cls_ok (c.t.d.fact 26 (f := .cls ("Walk" : Str)) rfl), He.noat_ok (c.t.d.fact 30 (f := .noat ("Walk" : Str) ("steps" : Str)) rfl)⟩
    fl_Walk_things := fun C hC => by
      have e := (He.glo_ok X G (c.t.d.fact 25 (f := .glo ("Walk" : Str)) rfl)).symm.trans hC
      cases e
      exact ⟨He.cls_ok (c.t.d.fact 26 (f := .cls ("Walk" : Str)) rfl), He.noat_ok (c.t.d.fact 31 (f := .noat ("Walk" : Str) ("things" : Str)) rfl)⟩
    n_GlassError := cv_self (He.glo_ok X G (c.t.d.fact 32 (f := .glo ("GlassError" : Str)) rfl))
    n_Missing := cv_self (He.glo_ok X G (c.t.d.fact 17 (f := .glo ("Missing" : Str)) rfl))
    n_NoWay := cv_self (He.glo_ok X G (c.t.d.fact 21 (f := .glo ("NoWay" : Str)) rfl))
    n_NotFolder := cv_self (He.glo_ok X G (c.t.d.fact 23 (f := .glo ("NotFolder" : Str)) rfl))
    exm_0 := fun a ha b hb => exAll_exm hx ha hb (by decide)
    xi := fun a ha => exAll_xi hx ha
    ki_Missing := fun a ha => exAll_kic hx ha (t := ("Missing" : Str)) (by decide)
    nc_Missing := ⟨_, (He.glo_ok X G (c.t.d.fact 17 (f := .glo ("Missing" : Str)) rfl))⟩
    ki_NoWay := fun a ha => exAll_kic hx ha (t := ("NoWay" : Str)) (by decide)
    nc_NoWay := ⟨_, (He.glo_ok X G (c.t.d.fact 21 (f := .glo ("NoWay" : Str)) rfl))⟩
    ki_NotFolder := fun a ha => exAll_kic hx ha (t := ("NotFolder" : Str)) (by decide)
    nc_NotFolder := ⟨_, (He.glo_ok X G (c.t.d.fact 23 (f := .glo ("NotFolder" : Str)) rfl))⟩
    ki_ValueError := fun a ha => exAll_kit hx ha
    d_l_cell_at := by
      obtain ⟨fd, F⟩ := c.t.d.def_ 0 (d := dd_l_cell_at) rfl
      exact ⟨_, fd, F, (He.glo_ok X G (c.t.d.fact 33 (f := .glo ("_law_cell_at" : Str)) rfl)), F.kp⟩
    d_l_mixed := by
      obtain ⟨fd, F⟩ := c.t.d.def_ 1 (d := dd_l_mixed) rfl
      exact ⟨_, fd, F, (He.glo_ok X G (c.t.d.fact 34 (f := .glo ("_law_mixed" : Str)) rfl)), F.kp⟩
    d_l_name_by := by
      obtain ⟨fd, F⟩ := c.t.d.def_ 2 (d := dd_l_name_by) rfl
      exact ⟨_, fd, F, (He.glo_ok X G (c.t.d.fact 35 (f := .glo ("_law_name_by" : Str)) rfl)), F.kp⟩
    d_l_link_by := by
      obtain ⟨fd, F⟩ := c.t.d.def_ 3 (d := dd_l_link_by) rfl
      exact ⟨_, fd, F, (He.glo_ok X G (c.t.d.fact 36 (f := .glo ("_law_link_by" : Str)) rfl)), F.kp⟩
    d_l_hall_by := by
      obtain ⟨fd, F⟩ := c.t.d.def_ 4 (d := dd_l_hall_by) rfl
      exact ⟨_, fd, F, (He.glo_ok X G (c.t.d.fact 37 (f := .glo ("_law_hall_by" : Str)) rfl)), F.kp⟩
    d_l_tree_of := by
      obtain ⟨fd, F⟩ := c.t.d.def_ 5 (d := dd_l_tree_of) rfl
      exact ⟨_, fd, F, (He.glo_ok X G (c.t.d.fact 38 (f := .glo ("_law_tree_of" : Str)) rfl)), F.kp⟩
    d_l_cells := by
      obtain ⟨fd, F⟩ := c.t.d.def_ 6 (d := dd_l_cells) rfl
      exact ⟨_, fd, F, (He.glo_ok X G (c.t.d.fact 39 (f := .glo ("_law_cells" : Str)) rfl)), F.kp⟩
    d_l_is_way := by
      obtain ⟨fd, F⟩ := c.t.d.def_ 7 (d := dd_l_is_way) rfl
      exact ⟨_, fd, F, (He.glo_ok X G (c.t.d.fact 40 (f := .glo ("_law_is_way" : Str)) rfl)), F.kp⟩
    d_is_name := by
      obtain ⟨fd, F⟩ := c.t.d.def_ 8 (d := dd_is_name) rfl
      exact ⟨_, fd, F, (He.glo_ok X G (c.t.d.fact 41 (f := .glo ("is_name" : Str)) rfl)), F.kp⟩
    d_is_word := by
      obtain ⟨fd, F⟩ := c.t.d.def_ 9 (d := dd_is_word) rfl
      exact ⟨_, fd, F, (He.glo_ok X G (c.t.d.fact 42 (f := .glo ("is_word" : Str)) rfl)), F.kp⟩
    d_words_of := by
      obtain ⟨fd, F⟩ := c.t.d.def_ 10 (d := dd_words_of) rfl
      exact ⟨_, fd, F, (He.glo_ok X G (c.t.d.fact 43 (f := .glo ("words_of" : Str)) rfl)), F.kp⟩
    d_by_way := by
      obtain ⟨fd, F⟩ := c.t.d.def_ 11 (d := dd_by_way) rfl
      exact ⟨_, fd, F, (He.glo_ok X G (c.t.d.fact 44 (f := .glo ("by_way" : Str)) rfl)), F.kp⟩
    d_Walk_init := by
      obtain ⟨fd, F⟩ := c.t.d.def_ 12 (d := dd_Walk_init) rfl
      exact ⟨_, _, fd, F, (He.glo_ok X G (c.t.d.fact 25 (f := .glo ("Walk" : Str)) rfl)), He.mkr_ok (c.t.d.fact 45 (f := .mkr ("Walk" : Str)) rfl)⟩
    d_Walk_set_out := by
      obtain ⟨fd, F⟩ := c.t.d.def_ 13 (d := dd_Walk_set_out) rfl
      exact ⟨_, _, fd, F, (He.glo_ok X G (c.t.d.fact 25 (f := .glo ("Walk" : Str)) rfl)), He.cls_ok (c.t.d.fact 26 (f := .cls ("Walk" : Str)) rfl), He.meth_ok (c.t.d.fact 46 (f := .meth ("Walk" : Str) ("set_out" : Str)) rfl)⟩
    d_above := by
      obtain ⟨fd, F⟩ := c.t.d.def_ 14 (d := dd_above) rfl
      exact ⟨_, fd, F, (He.glo_ok X G (c.t.d.fact 47 (f := .glo ("above" : Str)) rfl)), F.kp⟩
    d_Walk_follow := by
      obtain ⟨fd, F⟩ := c.t.d.def_ 15 (d := dd_Walk_follow) rfl
      exact ⟨_, _, fd, F, (He.glo_ok X G (c.t.d.fact 25 (f := .glo ("Walk" : Str)) rfl)), He.cls_ok (c.t.d.fact 26 (f := .cls ("Walk" : Str)) rfl), He.meth_ok (c.t.d.fact 48 (f := .meth ("Walk" : Str) ("follow" : Str)) rfl)⟩
    d_Walk_enter := by
      obtain ⟨fd, F⟩ := c.t.d.def_ 16 (d := dd_Walk_enter) rfl
      exact ⟨_, _, fd, F, (He.glo_ok X G (c.t.d.fact 25 (f := .glo ("Walk" : Str)) rfl)), He.cls_ok (c.t.d.fact 26 (f := .cls ("Walk" : Str)) rfl), He.meth_ok (c.t.d.fact 49 (f := .meth ("Walk" : Str) ("enter" : Str)) rfl)⟩
    d_Walk_go := by
      obtain ⟨fd, F⟩ := c.t.d.def_ 17 (d := dd_Walk_go) rfl
      exact ⟨_, _, fd, F, (He.glo_ok X G (c.t.d.fact 25 (f := .glo ("Walk" : Str)) rfl)), He.cls_ok (c.t.d.fact 26 (f := .cls ("Walk" : Str)) rfl), He.meth_ok (c.t.d.fact 50 (f := .meth ("Walk" : Str) ("go" : Str)) rfl)⟩
    d_walked := by
      obtain ⟨fd, F⟩ := c.t.d.def_ 18 (d := dd_walked) rfl
      exact ⟨_, fd, F, (He.glo_ok X G (c.t.d.fact 51 (f := .glo ("walked" : Str)) rfl)), F.kp⟩
    d_find_way := by
      obtain ⟨fd, F⟩ := c.t.d.def_ 19 (d := dd_find_way) rfl
      exact ⟨_, fd, F, (He.glo_ok X G (c.t.d.fact 52 (f := .glo ("find_way" : Str)) rfl)), F.kp⟩
    d_Walk_come_to := by
      obtain ⟨fd, F⟩ := c.t.d.def_ 20 (d := dd_Walk_come_to) rfl
      exact ⟨_, _, fd, F, (He.glo_ok X G (c.t.d.fact 25 (f := .glo ("Walk" : Str)) rfl)), He.cls_ok (c.t.d.fact 26 (f := .cls ("Walk" : Str)) rfl), He.meth_ok (c.t.d.fact 53 (f := .meth ("Walk" : Str) ("come_to" : Str)) rfl)⟩
    d_place_of := by
      obtain ⟨fd, F⟩ := c.t.d.def_ 21 (d := dd_place_of) rfl
      exact ⟨_, fd, F, (He.glo_ok X G (c.t.d.fact 54 (f := .glo ("place_of" : Str)) rfl)), F.kp⟩
    d_l_met := by
      obtain ⟨fd, F⟩ := c.t.d.def_ 22 (d := dd_l_met) rfl
      exact ⟨_, fd, F, (He.glo_ok X G (c.t.d.fact 55 (f := .glo ("_law_met" : Str)) rfl)), F.kp⟩
    d_l_missing := by
      obtain ⟨fd, F⟩ := c.t.d.def_ 23 (d := dd_l_missing) rfl
      exact ⟨_, fd, F, (He.glo_ok X G (c.t.d.fact 56 (f := .glo ("_law_missing" : Str)) rfl)), F.kp⟩
    d_law := by
      obtain ⟨fd, F⟩ := c.t.d.def_ 24 (d := dd_law) rfl
      exact ⟨_, fd, F, (He.glo_ok X G (c.t.d.fact 57 (f := .glo ("law" : Str)) rfl)), F.kp⟩ }
end
/-- the law, from its mirror -/
def Plain : Prop := ∀ ns : List Int, ns.length ≤ 63 → m_law [.lst (ns.map .int)] = .ok (.sh (.bl true))
theorem facts {P : Program} {w : World} {K : PySem.W.Frag} {h : Heap} {mg : Str → Option Value} {f : Addr} (X : K.In h) (G : h.Ns mainGlobals mg) (hfa : mg ("law" : Str) = some (.ref f)) (c : He.SaysX fa fn [] [] exK w h K) :
    ∃ fd : FuncData, (∀ (s : Shared) (v : Value), BindsTo s fd ⟨[v], []⟩ [("_law_script", v)]) ∧ ∀ base : Heap, K.In base → base.Ns mainGlobals mg → FnOk P w K mg base (L2N.CX P w) 10 f fd ["_law_script"] (spD K mg m_law) := by
  obtain ⟨fd, F⟩ := c.t.d.def_ 24 (d := dd_law) rfl
  have e := hfa.symm.trans (He.glo_ok X G (c.t.d.fact 57 (f := .glo ("law" : Str)) rfl))
  cases e
  have b := FunD.bindsA (ps := ["_law_script"]) F fun _ _ _ _ _ _ us hl => match us, hl with | [_], _ => rfl
  exact ⟨fd, fun s v => b s [v] rfl, fun base _ _ => fn_body F sc_law (by decide) (B_law (ge X G c))⟩
theorem cx_end {P : Program} {w : World} (H : Hp) (s : Shared) (e : Value) (s' : Shared) (x : L2N.CX P w [] H s (fun _ _ _ => False) e s') : False := by
  obtain ⟨_, _, _, _, _, _, _, _, _, _, _, _, z⟩ := x
  exact z
theorem sp_end {K : PySem.W.Frag} {mg : Str → Option Value} (hp : Plain) (H : Hp) (a : Addr) (ns : List Int) (hl : ns.length ≤ 63) (hS : SqL K H a (ns.map V.int)) : spD K mg m_law [.ref a] H (fun v _ => v = .bl true) fun _ _ _ => False := by
  refine ⟨H, [.lst (ns.map .int)], Same.refl _, .cons (.lst hS (repL_map _ _ (fun i => .int i) ns)) .nil, ?_⟩
  rw [hp ns hl]
  intro v H' F' x b
  cases (show Rep K F' v (.bl true) from b)
  rfl
end Lk50
namespace L2
open PySem PySem.Spec PyProof.Rows
theorem walk_ofW {l : PySem.W.OpenLaw} {n k : Nat} {q : Program} {loose : List Str} {XP : (Str → Option Value) → Heap → Prop} {YP : World → Heap → Prop} {d : DefRec} {CX : World → CXT} {x : Str} (hn : l.most = some n) (hn2 : n ≤ sizeLine) (hdf : d.params.defaults = []) (hr : Room k callerA)
    (F : ∀ (w : World) (mg : Str → Option Value) (fa : Addr) (h : Heap), YP w h → h.Ns mainGlobals mg → mg d.name = some (.ref fa) →
      ∃ (K : PySem.W.Frag) (fd : FuncData) (sp : Sp), K.In h ∧ (∀ (s : Shared) (u : Value), BindsTo s fd ⟨[u], []⟩ [(x, u)]) ∧ (∀ (H : Hp) (a : Addr) (ns : List Int), ns.length ≤ n → Only H → SqL K H a (ns.map V.int) → sp [.ref a] H (fun v _ => v = .bl true) fun _ _ _ => False) ∧
        ∀ base : Heap, K.In base → base.Ns mainGlobals mg → FnOk l.prog w K mg base (CX w) k fa fd [x] sp)
    (hCX : ∀ (w : World) (H : Hp) (s : Shared) (e : Value) (s' : Shared), CX w [] H s (fun _ _ _ => False) e s' → False) : PySem.W.WalkO q loose XP YP l.row.toRowW d [] (fun f vs => PySem.call f vs) := by
  refine Att.attach_call hn hdf fun w s₀ s₁ mg mb fa o pm cd doc a vs ns G Y ho hd hcd hmg hobj hints hlen hg => ?_
  have ⟨K, fd, sp, KX, hb, hsp, hF⟩ := F w mg fa _ Y G.T.g hmg
  exact law_call KX G.T.g G.T.b G.T.builtins G.T.nolimit hg hobj hints (Nat.le_trans hlen hn2) hr hF hb (fun H hO hS => hsp H a ns hlen hO hS) (fun H e s' => hCX w H s₁ e s')
end L2
open PySem PySem.W PySem.Calls PyProof.Rows
theorem Lk50.holds (hp : Lk50.Plain) : PySem.Challenge.rw_glasslayers_k50_ways_found.Holds := by
  w_on; o_law
  refine HandSHeadRun.head_any (r := OpenLaw.row PySem.Challenge.rw_glasslayers_k50_ways_found) (q := view (OpenLaw.row PySem.Challenge.rw_glasslayers_k50_ways_found).prog [39]) (H := Lk50.hk) (ob := Lk50.ob) (M := 6000) (loose := Lk50.loose) (d := HandSHeadRun.topDef (OpenLaw.row PySem.Challenge.rw_glasslayers_k50_ways_found).prog 39) (kwd := []) Lk50.ob_eq
    (by kernel_rfl) (fun s => by kernel_rfl) Lk50.run (by kernel_rfl) (by kernel_rfl) (by kernel_rfl) (by rfl) (by first | assumption | decide +kernel) (by decide +kernel) ⟨rfl, rfl, rfl, rfl, rfl, by decide +kernel⟩ ?hw ?hc
  case hw => w_witness2
  case hc =>
    refine L2.walk_ofW (l := PySem.Challenge.rw_glasslayers_k50_ways_found) (n := 63) (k := 10) (x := "_law_script") (CX := fun w => L2N.CX (PySem.Challenge.rw_glasslayers_k50_ways_found).prog w) rfl (by decide) (by kernel_rfl) ⟨rfl, by decide, by decide⟩ ?F (fun w H s e s' z => Lk50.cx_end H s e s' z)
    intro w mg fa h Y G hmg0
    obtain ⟨K, KX, c⟩ := Y
    have hmg : mg ("law" : PySem.Str) = some (.ref fa) := by
      have e : (HandSHeadRun.topDef (OpenLaw.row PySem.Challenge.rw_glasslayers_k50_ways_found).prog 39).name = ("law" : PySem.Str) := by kernel_rfl
      rw [← e]
      exact hmg0
    obtain ⟨fd, hb, hF⟩ := Lk50.facts (P := (PySem.Challenge.rw_glasslayers_k50_ways_found).prog) (w := w) KX G hmg c
    exact ⟨K, fd, DL.spD K mg Lk50.m_law, KX, hb, fun H a ns hl _ hS => Lk50.sp_end hp H a ns hl hS, hF⟩
end

theorem PySem.Challenge.cw_glasslayers_k50_ways_found_holds : PySem.Challenge.rw_glasslayers_k50_ways_found.Holds :=
  Lk50.holds Lk50.plain0
