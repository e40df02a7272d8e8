import PyProof.Rows.All
import Wide.All
import OpenK.AllK
import Wide.FinOn
import HandS.ForMost
import HandS.ForExc
import HandS.Conv
import HandS.CallSlots
import HandS.SortInts
import HandS.IsInst
import HandS.ClsMeth
import HandS.Property
import HandS.OwnEq
import HandS.Strs
import HandS.Style
import HandS.Ends
import PySem.Challenge.RW_windowturns_k12_images_of_a_turn
set_option Elab.async false
set_option linter.all false
set_option maxRecDepth 100000
set_option maxHeartbeats 2000000
namespace Dl
open PySem L2

/-! ### data -/
/-- data: trees; `mr n` is the n-th object of the memory of this def (which may still change); `bor ds` a list that may be read while this def runs -/
inductive D where
  | non | bl (b : Bool) | int (i : Int) | str (x : Str)
  | tup (ds : List D) | xt (ds : List D) | lst (ds : List D) | bor (ds : List D)
  | ins (C : Addr) (fs : List (Str × D))
  | mr (n : Nat)
  | rf (a : Addr) | ty (n : String)
  | scr (ns : List Int)
/-- an object that may change -/
inductive MO where
  | lst (ds : List D)
  | ins (C : Addr) (fs : List (Str × D))
  | dk (kvs : List (Key × D))
abbrev Mem := List (Option MO)
abbrev Slots := List (Option D)

/-- a world: what stays as it is for ever, what stays while this def runs, where the memory's objects lie, how many there are -/
structure Wd where
  F : Hp
  B : Hp
  ρ : Nat → Addr
  n : Nat
structure Wd.le (w w' : Wd) : Prop where
  F : Same w.F w'.F
  B : Same w.B w'.B
  n : w.n ≤ w'.n
  ρ : ∀ i, i < w.n → w'.ρ i = w.ρ i
theorem Wd.le.refl (w : Wd) : w.le w := ⟨Same.refl _, Same.refl _, Nat.le_refl _, fun _ _ => rfl⟩
theorem Wd.le.trans {a b c : Wd} (x : a.le b) (y : b.le c) : a.le c := ⟨x.F.trans y.F, x.B.trans y.B, Nat.le_trans x.n y.n, fun i h => (y.ρ i (Nat.lt_of_lt_of_le h x.n)).trans (x.ρ i h)⟩

theorem sqT_mono {K : PySem.W.Frag} {H H' : Hp} {a : Addr} {xs : List V} (e : Same H H') (h : SqT K H a xs) : SqT K H' a xs := by
  rcases h with (h | ⟨o, h⟩) | h
  · exact .inl (.inl (e _ _ h))
  · exact .inl (.inr ⟨o, e _ _ h⟩)
  · exact .inr h

mutual
inductive Rep (K : PySem.W.Frag) (w : Wd) : V → D → Prop
  | non : Rep K w .non .non
  | bl (b : Bool) : Rep K w (.bl b) (.bl b)
  | int (i : Int) : Rep K w (.int i) (.int i)
  | str (x : Str) : Rep K w (.str x) (.str x)
  | rf (a : Addr) : Rep K w (.ref a) (.rf a)
  | ty (n : String) : Rep K w (.ty n) (.ty n)
  | tup {a : Addr} {vs : List V} {ds : List D} (h : SqT K w.F a vs) (r : Reps K w vs ds) : Rep K w (.ref a) (.tup ds)
  | xt {a : Addr} {o : Obj} {vs : List V} {ds : List D} (h : w.F a = some (.frz o (.tup vs))) (hd : o.dict = none) (r : Reps K w vs ds) : Rep K w (.ref a) (.xt ds)
  | lst {a : Addr} {vs : List V} {ds : List D} (h : w.F a = some (.lst vs)) (r : Reps K w vs ds) : Rep K w (.ref a) (.lst ds)
  | bor {a : Addr} {vs : List V} {ds : List D} (h : w.B a = some (.lst vs)) (r : Reps K w vs ds) : Rep K w (.ref a) (.bor ds)
  | scr {a : Addr} {ns : List Int} (h : SqL K w.F a (ns.map V.int)) : Rep K w (.ref a) (.scr ns)
  | ins {a C dx : Addr} {vs : List (Str × V)} {fs : List (Str × D)} (h : w.F a = some (.ins C dx vs)) (r : RepF K w vs fs) : Rep K w (.ref a) (.ins C fs)
  | mr {n : Nat} (h : n < w.n) : Rep K w (.ref (w.ρ n)) (.mr n)
inductive Reps (K : PySem.W.Frag) (w : Wd) : List V → List D → Prop
  | nil : Reps K w [] []
  | cons {v : V} {d : D} {vs : List V} {ds : List D} (h : Rep K w v d) (t : Reps K w vs ds) : Reps K w (v :: vs) (d :: ds)
inductive RepF (K : PySem.W.Frag) (w : Wd) : List (Str × V) → List (Str × D) → Prop
  | nil : RepF K w [] []
  | cons {f : Str} {v : V} {d : D} {vs : List (Str × V)} {ds : List (Str × D)} (h : Rep K w v d) (t : RepF K w vs ds) : RepF K w ((f, v) :: vs) ((f, d) :: ds)
end

section
variable {K : PySem.W.Frag} {w w' : Wd}
mutual
theorem Rep.mono (l : w.le w') : ∀ {v : V} {d : D}, Rep K w v d → Rep K w' v d
  | _, _, .non => .non
  | _, _, .bl b => .bl b
  | _, _, .int i => .int i
  | _, _, .str x => .str x
  | _, _, .rf a => .rf a
  | _, _, .ty n => .ty n
  | _, _, .tup h r => .tup (sqT_mono l.F h) (Reps.mono l r)
  | _, _, .xt h hd r => .xt (l.F _ _ h) hd (Reps.mono l r)
  | _, _, .lst h r => .lst (l.F _ _ h) (Reps.mono l r)
  | _, _, .bor h r => .bor (l.B _ _ h) (Reps.mono l r)
  | _, _, .scr h => .scr (l.F.seq h)
  | _, _, .ins h r => .ins (l.F _ _ h) (RepF.mono l r)
  | _, _, .mr (n := n) h => by rw [← l.ρ n h]; exact .mr (Nat.lt_of_lt_of_le h l.n)
theorem Reps.mono (l : w.le w') : ∀ {vs : List V} {ds : List D}, Reps K w vs ds → Reps K w' vs ds
  | _, _, .nil => .nil
  | _, _, .cons h t => .cons (Rep.mono l h) (Reps.mono l t)
theorem RepF.mono (l : w.le w') : ∀ {vs : List (Str × V)} {ds : List (Str × D)}, RepF K w vs ds → RepF K w' vs ds
  | _, _, .nil => .nil
  | _, _, .cons h t => .cons (Rep.mono l h) (RepF.mono l t)
end
theorem Reps.length : ∀ {vs : List V} {ds : List D}, Reps K w vs ds → vs.length = ds.length
  | _, _, .nil => rfl
  | _, _, .cons _ t => congrArg (· + 1) t.length
theorem Reps.append : ∀ {vs us : List V} {ds es : List D}, Reps K w vs ds → Reps K w us es → Reps K w (vs ++ us) (ds ++ es)
  | _, _, _, _, .nil, q => q
  | _, _, _, _, .cons h t, q => .cons h (t.append q)
theorem Reps.get : ∀ {vs : List V} {ds : List D} {i : Nat} {d : D}, Reps K w vs ds → ds[i]? = some d → ∃ v, vs[i]? = some v ∧ Rep K w v d
  | _, _, _, _, .nil, e => by simp at e
  | _, _, 0, _, .cons h _, e => by simp at e; subst e; exact ⟨_, rfl, h⟩
  | _, _, i + 1, _, .cons _ t, e => by
    obtain ⟨v, h1, h2⟩ := t.get (i := i) (by simpa using e)
    exact ⟨v, by simpa using h1, h2⟩
theorem Reps.get' : ∀ {vs : List V} {ds : List D} {i : Nat} {v : V}, Reps K w vs ds → vs[i]? = some v → ∃ d, ds[i]? = some d ∧ Rep K w v d
  | _, _, _, _, .nil, e => by simp at e
  | _, _, 0, _, .cons h _, e => by simp at e; subst e; exact ⟨_, rfl, h⟩
  | _, _, i + 1, _, .cons _ t, e => by
    obtain ⟨v, h1, h2⟩ := t.get' (i := i) (by simpa using e)
    exact ⟨v, by simpa using h1, h2⟩
theorem Reps.set {v : V} {d : D} (r : Rep K w v d) : ∀ {vs : List V} {ds : List D} (i : Nat), Reps K w vs ds → Reps K w (vs.set i v) (ds.set i d)
  | _, _, _, .nil => .nil
  | _, _, 0, .cons _ t => .cons r t
  | _, _, i + 1, .cons h t => .cons h (t.set r i)
theorem Reps.take : ∀ {vs : List V} {ds : List D} (n : Nat), Reps K w vs ds → Reps K w (vs.take n) (ds.take n)
  | _, _, 0, _ => .nil
  | _, _, _ + 1, .nil => .nil
  | _, _, n + 1, .cons h t => .cons h (t.take n)
theorem Reps.drop : ∀ {vs : List V} {ds : List D} (n : Nat), Reps K w vs ds → Reps K w (vs.drop n) (ds.drop n)
  | _, _, 0, r => r
  | _, _, _ + 1, .nil => .nil
  | _, _, n + 1, .cons _ t => t.drop n
theorem Reps.reverse {vs : List V} {ds : List D} (r : Reps K w vs ds) : Reps K w vs.reverse ds.reverse := by
  induction vs generalizing ds with
  | nil => cases r; exact .nil
  | cons v vs ih =>
    cases r with
    | cons h t =>
      rw [List.reverse_cons, List.reverse_cons]
      exact (ih t).append (.cons h .nil)
theorem Reps.eraseIdx : ∀ {vs : List V} {ds : List D} (n : Nat), Reps K w vs ds → Reps K w (vs.eraseIdx n) (ds.eraseIdx n)
  | _, _, _, .nil => by simpa using Reps.nil
  | _, _, 0, .cons _ t => t
  | _, _, n + 1, .cons h t => .cons h (t.eraseIdx n)
theorem Reps.dropLast : ∀ {vs : List V} {ds : List D}, Reps K w vs ds → Reps K w vs.dropLast ds.dropLast := fun {vs ds} r => by
  rw [List.dropLast_eq_take, List.dropLast_eq_take, r.length]
  exact r.take _
theorem Reps.ints {ns : List Int} : Reps K w (ns.map V.int) (ns.map D.int) := by
  induction ns with
  | nil => exact .nil
  | cons n ns ih => exact .cons (.int n) ih
theorem Reps.ints_of : ∀ {vs : List V} {ns : List Int}, Reps K w vs (ns.map D.int) → vs = ns.map V.int
  | _, [], .nil => rfl
  | _, n :: ns, .cons (.int _) t => by rw [t.ints_of (ns := ns)]; rfl
theorem Reps.strs_of : ∀ {vs : List V} {ns : List Str}, Reps K w vs (ns.map D.str) → vs = ns.map V.str
  | _, [], .nil => rfl
  | _, n :: ns, .cons (.str _) t => by rw [t.strs_of (ns := ns)]; rfl
theorem Reps.bls_of : ∀ {vs : List V} {ns : List Bool}, Reps K w vs (ns.map D.bl) → vs = ns.map V.bl
  | _, [], .nil => rfl
  | _, n :: ns, .cons (.bl _) t => by rw [t.bls_of (ns := ns)]; rfl
theorem RepF.lookup {f : Str} : ∀ {vs : List (Str × V)} {ds : List (Str × D)} {d : D}, RepF K w vs ds → ds.lookup f = some d → ∃ v, vs.lookup f = some v ∧ Rep K w v d
  | _, _, _, .nil, e => by simp at e
  | _, _, _, .cons (f := g) h t, e => by
    by_cases q : f = g
    · subst q
      simp only [List.lookup, beq_self_eq_true] at e
      cases e
      exact ⟨_, by simp only [List.lookup, beq_self_eq_true], h⟩
    · have q' : (f == g) = false := by simpa using q
      simp only [List.lookup, q'] at e
      obtain ⟨v, h1, h2⟩ := t.lookup e
      exact ⟨v, by simp only [List.lookup, q']; exact h1, h2⟩
theorem RepF.lookup_none {f : Str} : ∀ {vs : List (Str × V)} {ds : List (Str × D)}, RepF K w vs ds → ds.lookup f = none → vs.lookup f = none
  | _, _, .nil, _ => rfl
  | _, _, .cons (f := g) h t, e => by
    by_cases q : f = g
    · subst q
      simp only [List.lookup, beq_self_eq_true] at e
      cases e
    · have q' : (f == g) = false := by simpa using q
      simp only [List.lookup, q'] at e ⊢
      exact t.lookup_none e
theorem RepF.length : ∀ {vs : List (Str × V)} {ds : List (Str × D)}, RepF K w vs ds → vs.length = ds.length
  | _, _, .nil => rfl
  | _, _, .cons _ t => congrArg (· + 1) t.length
end

/-- the field f set to d -/
def putD (f : Str) (d : D) : List (Str × D) → List (Str × D)
  | [] => [(f, d)]
  | (g, e) :: fs => if g = f then (f, d) :: fs else (g, e) :: putD f d fs

/-! ### the memory is held -/
def MOk (K : PySem.W.Frag) (w : Wd) (H : Hp) (a : Addr) : MO → Prop
  | .lst ds => ∃ vs, H a = some (.lst vs) ∧ Reps K w vs ds
  | .ins C fs => ∃ dx vs, H a = some (.ins C dx vs) ∧ RepF K w vs fs
  | .dk kvs => ∃ us, H a = some (.dK us) ∧ Paired (fun (p : Key × V) (q : Key × D) => p.1 = q.1 ∧ Rep K w p.2 q.2) us kvs
structure HoldM (K : PySem.W.Frag) (w : Wd) (H : Hp) (M : Mem) : Prop where
  sub : Same w.F H
  bor : Same w.B H
  len : M.length = w.n
  ob : ∀ (i : Nat) (o : MO), M[i]? = some (some o) → w.F (w.ρ i) = none ∧ w.B (w.ρ i) = none ∧ MOk K w H (w.ρ i) o
  inj : ∀ (i j : Nat) (o u : MO), M[i]? = some (some o) → M[j]? = some (some u) → w.ρ i = w.ρ j → i = j
  all : ∀ i, i < w.n → H (w.ρ i) ≠ none
structure Sl (K : PySem.W.Frag) (w : Wd) (σ : St) (sl : Slots) : Prop where
  len : σ.length = sl.length
  ob : ∀ (i : Nat) (d : D), sl[i]? = some (some d) → ∃ v, σ[i]? = some (some v) ∧ Rep K w v d
/-- a step: what is not of the memory is as it was; what stays is new or stayed before -/
structure Step (K : PySem.W.Frag) (w : Wd) (H : Hp) (w' : Wd) (H' : Hp) (M' : Mem) : Prop where
  le : w.le w'
  eB : w'.B = w.B
  hold : HoldM K w' H' M'
  fr : ∀ a o, H a = some o → (∀ j, j < w.n → w.ρ j ≠ a) → H' a = some o
  dom : ∀ a, H a ≠ none → H' a ≠ none
  nf : ∀ a, w'.F a ≠ none → w.F a ≠ none ∨ H a = none
  nr : ∀ j, w.n ≤ j → j < w'.n → H (w'.ρ j) = none

section
variable {K : PySem.W.Frag} {w w' w2 : Wd} {H H' H2 : Hp} {M M' M2 : Mem} {σ : St} {sl : Slots}
theorem Step.refl (h : HoldM K w H M) : Step K w H w H M := ⟨Wd.le.refl w, rfl, h, fun _ _ e _ => e, fun _ e => e, fun _ e => .inl e, fun j a b => absurd (Nat.lt_of_lt_of_le b a) (Nat.lt_irrefl _)⟩
theorem Step.trans (a : Step K w H w' H' M') (b : Step K w' H' w2 H2 M2) : Step K w H w2 H2 M2 where
  le := a.le.trans b.le
  eB := b.eB.trans a.eB
  hold := b.hold
  fr := fun x o e q => b.fr x o (a.fr x o e q) fun j hj => by
    by_cases h : j < w.n
    · rw [a.le.ρ j h]; exact q j h
    · exact fun z => by
        have := a.nr j (Nat.le_of_not_lt h) hj
        rw [z, e] at this
        cases this
  dom := fun x e => b.dom x (a.dom x e)
  nf := fun x e => by
    rcases b.nf x e with h | h
    · exact a.nf x h
    · refine .inr ?_
      cases q : H x with
      | none => rfl
      | some o => exact absurd h (a.dom x (by rw [q]; simp))
  nr := fun j h1 h2 => by
    by_cases h : j < w'.n
    · rw [b.le.ρ j h]; exact a.nr j h1 h
    · have z := b.nr j (Nat.le_of_not_lt h) h2
      cases q : H (w2.ρ j) with
      | none => rfl
      | some o => exact absurd z (a.dom _ (by rw [q]; simp))
theorem Sl.mono (l : w.le w') (h : Sl K w σ sl) : Sl K w' σ sl := ⟨h.len, fun i d e => let ⟨v, h1, h2⟩ := h.ob i d e; ⟨v, h1, h2.mono l⟩⟩
theorem Sl.set {v : V} {d : D} (h : Sl K w σ sl) (i : Nat) (r : Rep K w v d) : Sl K w (σ.set i (some v)) (sl.set i (some d)) := by
  refine ⟨by simpa using h.len, fun j e q => ?_⟩
  by_cases hj : i = j
  · subst hj
    by_cases hl : i < sl.length
    · rw [List.getElem?_set_self hl] at q
      cases q
      exact ⟨v, List.getElem?_set_self (by rw [h.len]; exact hl), r⟩
    · rw [List.getElem?_eq_none (by simpa using hl)] at q
      cases q
  · rw [List.getElem?_set_ne hj] at q ⊢
    exact h.ob j e q
theorem Sl.unset (h : Sl K w σ sl) (i : Nat) (x : Option V) : Sl K w (σ.set i x) (sl.set i none) := by
  refine ⟨by simpa using h.len, fun j e q => ?_⟩
  by_cases hj : i = j
  · subst hj
    by_cases hl : i < sl.length
    · rw [List.getElem?_set_self hl] at q
      cases q
    · rw [List.getElem?_eq_none (by simpa using hl)] at q
      cases q
  · rw [List.getElem?_set_ne hj] at q ⊢
    exact h.ob j e q
theorem Sl.forget (h : Sl K w σ sl) (i : Nat) : Sl K w σ (sl.set i none) := by
  refine ⟨by simpa using h.len, fun j e q => ?_⟩
  by_cases hj : i = j
  · subst hj
    by_cases hl : i < sl.length
    · rw [List.getElem?_set_self hl] at q
      cases q
    · rw [List.getElem?_eq_none (by simpa using hl)] at q
      cases q
  · rw [List.getElem?_set_ne hj] at q
    exact h.ob j e q
theorem MOk.mono (l : w.le w') {a : Addr} {o : MO} (h : MOk K w H a o) (e : H' a = H a) : MOk K w' H' a o := by
  cases o with
  | lst ds => obtain ⟨vs, h1, h2⟩ := h; exact ⟨vs, e.trans h1, h2.mono l⟩
  | ins C fs => obtain ⟨dx, vs, h1, h2⟩ := h; exact ⟨dx, vs, e.trans h1, h2.mono l⟩
  | dk kvs =>
    obtain ⟨us, h1, h2⟩ := h
    exact ⟨us, e.trans h1, L2.Paired.mapP h2 fun _ _ z => ⟨z.1, z.2.mono l⟩⟩
theorem MOk.some {a : Addr} {o : MO} (h : MOk K w H a o) : ∃ u, H a = some u := by
  cases o with
  | lst ds => obtain ⟨vs, h1, h2⟩ := h; exact ⟨_, h1⟩
  | ins C fs => obtain ⟨dx, vs, h1, h2⟩ := h; exact ⟨_, h1⟩
  | dk kvs => obtain ⟨us, h1, h2⟩ := h; exact ⟨_, h1⟩
theorem upd_some {H : Hp} {p a : Addr} {o : HO} (h : H a ≠ none) : upd H p o a ≠ none := by
  by_cases hb : a = p
  · subst hb; rw [upd_same]; simp
  · rw [upd_ne hb]; exact h
theorem HoldM.far {p : Addr} (h : HoldM K w H M) (hp : H p = none) {i : Nat} {o : MO} (e : M[i]? = some (some o)) : w.ρ i ≠ p := by
  obtain ⟨_, _, h2⟩ := h.ob i o e
  obtain ⟨z, h3⟩ := h2.some
  exact ne_of_none h3 hp
/-- a new thing that stays as it is -/
theorem HoldM.newF {p : Addr} {o : HO} (h : HoldM K w H M) (hp : H p = none) : Step K w H { w with F := upd w.F p o } (upd H p o) M := by
  have fp : w.F p = none := h.sub.free hp
  have le : w.le { w with F := upd w.F p o } := ⟨fun b u e => by show upd w.F p o b = _; rw [upd_ne (ne_of_none e fp)]; exact e, Same.refl _, Nat.le_refl _, fun _ _ => rfl⟩
  refine ⟨le, rfl, ⟨fun b u e => ?_, fun b u e => by rw [upd_ne (ne_of_none (h.bor b u e) hp)]; exact h.bor b u e, h.len, fun i ob e => ?_, h.inj, fun i hi => upd_some (h.all i hi)⟩, fun a u e _ => by rw [upd_ne (ne_of_none e hp)]; exact e, fun a e => ?_, fun a e => ?_, fun j a b => absurd (Nat.lt_of_lt_of_le b a) (Nat.lt_irrefl _)⟩
  · have e' : upd w.F p o b = some u := e
    by_cases hb : b = p
    · subst hb
      rw [upd_same] at e' ⊢
      exact e'
    · rw [upd_ne hb] at e' ⊢
      exact h.sub b u e'
  · obtain ⟨h1, h1', h2⟩ := h.ob i ob e
    have ne : w.ρ i ≠ p := h.far hp e
    exact ⟨by show upd w.F p o (w.ρ i) = none; rw [upd_ne ne]; exact h1, h1', h2.mono le (upd_ne ne)⟩
  · by_cases hb : a = p
    · subst hb; rw [upd_same]; simp
    · rw [upd_ne hb]; exact e
  · by_cases hb : a = p
    · exact .inr (by rw [hb]; exact hp)
    · have e' : upd w.F p o a ≠ none := e
      rw [upd_ne hb] at e'
      exact .inl e'
/-- a new thing that nobody tells of -/
theorem HoldM.newN {p : Addr} {o : HO} (h : HoldM K w H M) (hp : H p = none) : Step K w H w (upd H p o) M := by
  refine ⟨Wd.le.refl w, rfl, ⟨fun b u e => by rw [upd_ne (ne_of_none (h.sub b u e) hp)]; exact h.sub b u e, fun b u e => by rw [upd_ne (ne_of_none (h.bor b u e) hp)]; exact h.bor b u e, h.len, fun i ob e => ?_, h.inj, fun i hi => upd_some (h.all i hi)⟩, fun a u e _ => by rw [upd_ne (ne_of_none e hp)]; exact e, fun a e => ?_, fun a e => .inl e, fun j a b => absurd (Nat.lt_of_lt_of_le b a) (Nat.lt_irrefl _)⟩
  · obtain ⟨h1, h1', h2⟩ := h.ob i ob e
    exact ⟨h1, h1', h2.mono (Wd.le.refl w) (upd_ne (h.far hp e))⟩
  · by_cases hb : a = p
    · subst hb; rw [upd_same]; simp
    · rw [upd_ne hb]; exact e
/-- a new object of the memory -/
def Wd.add (w : Wd) (p : Addr) : Wd := { w with ρ := fun i => if i = w.n then p else w.ρ i, n := w.n + 1 }
theorem Wd.le_add (w : Wd) (p : Addr) : w.le (w.add p) := ⟨Same.refl _, Same.refl _, Nat.le_succ _, fun i h => if_neg (Nat.ne_of_lt h)⟩
theorem Wd.add_ρ (w : Wd) (p : Addr) : (w.add p).ρ w.n = p := if_pos rfl
theorem HoldM.newM {p : Addr} {o : HO} {ob : MO} (h : HoldM K w H M) (hp : H p = none) (ok : ∀ H' : Hp, H' p = some o → MOk K (w.add p) H' p ob) : Step K w H (w.add p) (upd H p o) (M ++ [some ob]) := by
  have le := w.le_add p
  have old : ∀ i u, i < M.length → (M ++ [some ob])[i]? = some (some u) → M[i]? = some (some u) ∧ (w.add p).ρ i = w.ρ i := fun i u hi e => by
    rw [List.getElem?_append_left hi] at e
    exact ⟨e, le.ρ i (by rw [← h.len]; exact hi)⟩
  have new : ∀ i u, ¬ i < M.length → (M ++ [some ob])[i]? = some (some u) → i = M.length ∧ u = ob ∧ (w.add p).ρ i = p := fun i u hi e => by
    have hl : i < (M ++ [some ob]).length := (List.getElem?_eq_some_iff.mp e).1
    have : i = M.length := by simp at hl; omega
    subst this
    simp at e
    exact ⟨rfl, e.symm, by rw [h.len]; exact w.add_ρ p⟩
  refine ⟨le, rfl, ⟨fun b u e => by rw [upd_ne (ne_of_none (h.sub b u e) hp)]; exact h.sub b u e, fun b u e => by rw [upd_ne (ne_of_none (h.bor b u e) hp)]; exact h.bor b u e, by simp [h.len, Wd.add], fun i u e => ?_, fun i j u v ei ej e => ?_, fun i hi => ?_⟩, fun a u e _ => by rw [upd_ne (ne_of_none e hp)]; exact e, fun a e => ?_, fun a e => .inl e, fun j a b => ?_⟩
  · by_cases hi : i < M.length
    · obtain ⟨e1, e2⟩ := old i u hi e
      obtain ⟨h1, h1', h2⟩ := h.ob i u e1
      rw [e2]
      exact ⟨h1, h1', h2.mono le (upd_ne (h.far hp e1))⟩
    · obtain ⟨e0, e1, e2⟩ := new i u hi e
      rw [e2, e1]
      exact ⟨h.sub.free hp, h.bor.free hp, ok _ upd_same⟩
  · by_cases hi : i < M.length
    · obtain ⟨a1, a2⟩ := old i u hi ei
      by_cases hj : j < M.length
      · obtain ⟨b1, b2⟩ := old j v hj ej
        exact h.inj i j u v a1 b1 (by rw [← a2, ← b2]; exact e)
      · obtain ⟨_, _, b2⟩ := new j v hj ej
        rw [a2, b2] at e
        exact absurd e (h.far hp a1)
    · obtain ⟨a0, _, a2⟩ := new i u hi ei
      by_cases hj : j < M.length
      · obtain ⟨b1, b2⟩ := old j v hj ej
        rw [a2, b2] at e
        exact absurd e.symm (h.far hp b1)
      · obtain ⟨b0, _, _⟩ := new j v hj ej
        rw [a0, b0]
  · by_cases hj : i < w.n
    · rw [le.ρ i hj]; exact upd_some (h.all i hj)
    · have b' : i < w.n + 1 := hi
      have : i = w.n := by omega
      subst this
      rw [w.add_ρ p, upd_same]; simp
  · by_cases hb : a = p
    · subst hb; rw [upd_same]; simp
    · rw [upd_ne hb]; exact e
  · have b' : j < w.n + 1 := b
    have : j = w.n := by omega
    subst this
    rw [w.add_ρ p]
    exact hp
/-- an object of the memory changes -/
theorem HoldM.put {i : Nat} {o : HO} {u ob : MO} (h : HoldM K w H M) (e : M[i]? = some (some u)) (ok : ∀ H' : Hp, H' (w.ρ i) = some o → MOk K w H' (w.ρ i) ob) : Step K w H w (upd H (w.ρ i) o) (M.set i (some ob)) := by
  obtain ⟨h1, h1', h2⟩ := h.ob i u e
  have hi : i < M.length := (List.getElem?_eq_some_iff.mp e).1
  refine ⟨Wd.le.refl w, rfl, ⟨fun b z q => by rw [upd_ne (ne_of_none q h1)]; exact h.sub b z q, fun b z q => by rw [upd_ne (ne_of_none q h1')]; exact h.bor b z q, by rw [List.length_set]; exact h.len, fun j z q => ?_, fun j k z z' q q' t => ?_, fun i hi => upd_some (h.all i hi)⟩, fun a z q t => ?_, fun a z => ?_, fun a z => .inl z, fun j a b => absurd (Nat.lt_of_lt_of_le b a) (Nat.lt_irrefl _)⟩
  · by_cases hj : i = j
    · subst hj
      rw [List.getElem?_set_self hi] at q
      cases q
      exact ⟨h1, h1', ok _ upd_same⟩
    · rw [List.getElem?_set_ne hj] at q
      obtain ⟨a1, a1', a2⟩ := h.ob j z q
      exact ⟨a1, a1', a2.mono (Wd.le.refl w) (upd_ne fun t => hj (h.inj i j u z e q t.symm))⟩
  · have back : ∀ {j : Nat} {z : MO}, (M.set i (some ob))[j]? = some (some z) → ∃ z', M[j]? = some (some z') := fun {j z} q => by
      by_cases hj : i = j
      · subst hj; exact ⟨u, e⟩
      · rw [List.getElem?_set_ne hj] at q; exact ⟨z, q⟩
    obtain ⟨a, ha⟩ := back q
    obtain ⟨b, hb⟩ := back q'
    exact h.inj j k a b ha hb t
  · rw [upd_ne fun y => t i (by rw [← h.len]; exact hi) y.symm]; exact q
  · by_cases hb : a = w.ρ i
    · subst hb; rw [upd_same]; simp
    · rw [upd_ne hb]; exact z
end

/-! ### data that speak neither of the memory nor of what is borrowed -/
mutual
def D.pure : D → Bool
  | .mr _ => false
  | .bor _ => false
  | .tup ds => D.pures ds
  | .xt ds => D.pures ds
  | .lst ds => D.pures ds
  | .ins _ fs => D.puref fs
  | _ => true
def D.pures : List D → Bool
  | [] => true
  | d :: ds => D.pure d && D.pures ds
def D.puref : List (Str × D) → Bool
  | [] => true
  | (_, d) :: ds => D.pure d && D.puref ds
end
def MO.pure : MO → Bool
  | .lst ds => D.pures ds
  | .ins _ fs => D.puref fs
  | .dk kvs => D.pures (kvs.map (·.2))
def MemPure (M : Mem) : Prop := ∀ (i : Nat) (o : MO), M[i]? = some (some o) → o.pure = true
theorem D.pures_iff {ds : List D} : D.pures ds = true ↔ ∀ d ∈ ds, d.pure = true := by
  induction ds with
  | nil => simp [D.pures]
  | cons d ds ih => simp [D.pures, ih]
theorem D.pures_map {α : Type} {f : α → D} {xs : List α} (h : ∀ x, (f x).pure = true) : D.pures (xs.map f) = true := by
  rw [D.pures_iff]
  intro d hd
  obtain ⟨x, _, rfl⟩ := List.mem_map.mp hd
  exact h x
theorem D.pures_append {ds es : List D} (h : D.pures ds = true) (q : D.pures es = true) : D.pures (ds ++ es) = true := by
  rw [D.pures_iff] at *
  intro d hd
  rcases List.mem_append.mp hd with z | z
  · exact h d z
  · exact q d z

section
variable {K : PySem.W.Frag} {w w' : Wd} {H H' : Hp} {M : Mem} {σ : St} {sl : Slots}
mutual
theorem Rep.pur (l : Same w.F w'.F) : ∀ {v : V} {d : D}, Rep K w v d → d.pure = true → Rep K w' v d
  | _, _, .non, _ => .non
  | _, _, .bl b, _ => .bl b
  | _, _, .int i, _ => .int i
  | _, _, .str x, _ => .str x
  | _, _, .rf a, _ => .rf a
  | _, _, .ty n, _ => .ty n
  | _, _, .tup h r, q => .tup (sqT_mono l h) (Reps.pur l r q)
  | _, _, .xt h hd r, q => .xt (l _ _ h) hd (Reps.pur l r q)
  | _, _, .lst h r, q => .lst (l _ _ h) (Reps.pur l r q)
  | _, _, .bor h r, q => by simp [D.pure] at q
  | _, _, .scr h, _ => .scr (l.seq h)
  | _, _, .ins h r, q => .ins (l _ _ h) (RepF.pur l r q)
  | _, _, .mr h, q => by simp [D.pure] at q
theorem Reps.pur (l : Same w.F w'.F) : ∀ {vs : List V} {ds : List D}, Reps K w vs ds → D.pures ds = true → Reps K w' vs ds
  | _, _, .nil, _ => .nil
  | _, _, .cons h t, q => by
    have q' := q
    simp only [D.pures, Bool.and_eq_true] at q'
    exact .cons (Rep.pur l h q'.1) (Reps.pur l t q'.2)
theorem RepF.pur (l : Same w.F w'.F) : ∀ {vs : List (Str × V)} {ds : List (Str × D)}, RepF K w vs ds → D.puref ds = true → RepF K w' vs ds
  | _, _, .nil, _ => .nil
  | _, _, .cons h t, q => by
    have q' := q
    simp only [D.puref, Bool.and_eq_true] at q'
    exact .cons (Rep.pur l h q'.1) (RepF.pur l t q'.2)
end
theorem MOk.pur (l : Same w.F w'.F) {a : Addr} {o : MO} (h : MOk K w H a o) (e : H' a = H a) (q : o.pure = true) : MOk K w' H' a o := by
  cases o with
  | lst ds => obtain ⟨vs, h1, h2⟩ := h; exact ⟨vs, e.trans h1, h2.pur l q⟩
  | ins C fs => obtain ⟨dx, vs, h1, h2⟩ := h; exact ⟨dx, vs, e.trans h1, h2.pur l q⟩
  | dk kvs =>
    obtain ⟨us, h1, h2⟩ := h
    refine ⟨us, e.trans h1, ?_⟩
    have q' : D.pures (kvs.map (·.2)) = true := q
    clear h1 q
    induction h2 with
    | nil => exact .nil
    | cons r t ih =>
      simp only [List.map_cons, D.pures, Bool.and_eq_true] at q'
      exact .cons ⟨r.1, r.2.pur l q'.1⟩ (ih q'.2)
end
end Dl
set_option maxHeartbeats 2000000
namespace Dl
open PySem L2

/-! ### the strongest readings -/
section
variable (X : Cx)
def cE (e : Expr) : TE := fun σ H Q => ∀ pins s, Inv X pins σ H s → wpAny (model X.prog X.w) X.A (eval e X.env) (EP X pins σ Q) X.xe s
def cT (e : Expr) : TT := fun σ H Q => ∀ pins s, Inv X pins σ H s → wpAny (model X.prog X.w) X.A (isTrue e X.env (eval e X.env)) (TP X pins σ Q) X.xe s
def cA (es : List Expr) : TA := fun σ H Q => ∀ pos pins s, Inv X pins σ H s → wpAny (model X.prog X.w) X.A (spliced (backTo pos (starEach es X.env))) (AP X pins σ Q) X.xe s
def cS (st : Stmt) : TS := fun D σ H => ∀ pins s, Inv X pins σ H s → wpAny (model X.prog X.w) X.A (exec st X.env) (SP X pins D) X.xe s
def cSs (sts : List Stmt) : TS := fun D σ H => ∀ pins s, Inv X pins σ H s → wpAny (model X.prog X.w) X.A (execs sts X.env) (SP X pins D) X.xe s
variable {X}
theorem pE {e : Expr} : PE X e (cE X e) := ⟨fun pins s σ H Q I h => h pins s I⟩
theorem pT {e : Expr} : PT X e (cT X e) := ⟨fun pins s σ H Q I h => h pins s I⟩
theorem pA {es : List Expr} : PA X es (cA X es) := ⟨fun pos pins s σ H Q I h => h pos pins s I⟩
theorem pS {st : Stmt} : PS X st (cS X st) := ⟨fun pins s σ H D I h => h pins s I⟩
theorem pSs {sts : List Stmt} : PSs X sts (cSs X sts) := ⟨fun pins s σ H D I h => h pins s I⟩
end

/-- a raised exception: class, fields, slots, memory -/
abbrev XD := Addr → List (Str × D) → Slots → Mem → Prop
abbrev QD := D → Mem → Prop
def XF (K : PySem.W.Frag) (w : Wd) (H : Hp) (d : Option Addr) (fs : List (Str × D)) : Prop := (d = none ∧ fs = []) ∨ ∃ dd vs, d = some dd ∧ H dd = some (.xd vs) ∧ RepF K w vs fs
def WXof (K : PySem.W.Frag) (W : XD) (w : Wd) (H : Hp) : WX := fun cls d σ' H' => ∃ C fs sl' M' w', cls = .ref C ∧ Step K w H w' H' M' ∧ Sl K w' σ' sl' ∧ XF K w' H' d fs ∧ W C fs sl' M'
def Tk (X : Cx) (W : XD) (w : Wd) (H : Hp) : Prop := Takes X (WXof X.K W w H)
theorem Tk.mono {X : Cx} {W : XD} {w w' : Wd} {H H' : Hp} {M' : Mem} (t : Tk X W w H) (st : Step X.K w H w' H' M') : Tk X W w' H' :=
  Takes.imp t fun c d σ H2 ⟨C, fs, sl', M2, w2, e, s2, r⟩ => ⟨C, fs, sl', M2, w2, e, st.trans s2, r⟩
def Post (K : PySem.W.Frag) (w : Wd) (H : Hp) (Q : QD) (Q' : VK) : Prop := ∀ v d w' H' M', Step K w H w' H' M' → Rep K w' v d → Q d M' → Q' v H'
theorem Post.mono {K : PySem.W.Frag} {w w' : Wd} {H H' : Hp} {M' : Mem} {Q : QD} {Q' : VK} (p : Post K w H Q Q') (st : Step K w H w' H' M') : Post K w' H' Q Q' := fun v d w2 H2 M2 s2 r q => p v d w2 H2 M2 (st.trans s2) r q

/-- an expression, at the level of data -/
def WE (X : Cx) (W : XD) (e : Expr) (sl : Slots) (M : Mem) (Q : QD) : Prop :=
  ∀ w H σ, HoldM X.K w H M → Sl X.K w σ sl → Tk X W w H → ∀ Q', Post X.K w H Q Q' → cE X e σ H Q'
/-- a test -/
def WT (X : Cx) (W : XD) (e : Expr) (sl : Slots) (M : Mem) (Q : Bool → Mem → Prop) : Prop :=
  ∀ w H σ, HoldM X.K w H M → Sl X.K w σ sl → Tk X W w H → ∀ Q' : Bool → Hp → Prop, (∀ b w' H' M', Step X.K w H w' H' M' → Q b M' → Q' b H') → cT X e σ H Q'
/-- arguments -/
def WA (X : Cx) (W : XD) (es : List Expr) (sl : Slots) (M : Mem) (Q : List D → Mem → Prop) : Prop :=
  ∀ w H σ, HoldM X.K w H M → Sl X.K w σ sl → Tk X W w H → ∀ Q' : List V → Hp → Prop, (∀ vs ds w' H' M', Step X.K w H w' H' M' → Reps X.K w' vs ds → Q ds M' → Q' vs H') → cA X es σ H Q'
structure DEnds where
  nx : Slots → Mem → Prop
  rt : QD
  bk : Slots → Mem → Prop := fun _ _ => False
  ct : Slots → Mem → Prop := fun _ _ => False
def LkS (K : PySem.W.Frag) (w : Wd) (H : Hp) (P : Slots → Mem → Prop) (P' : St → Hp → Prop) : Prop := ∀ σ' sl' w' H' M', Step K w H w' H' M' → Sl K w' σ' sl' → P sl' M' → P' σ' H'
structure Lk (K : PySem.W.Frag) (w : Wd) (H : Hp) (E : DEnds) (D : Ends) : Prop where
  nx : LkS K w H E.nx D.nx
  rt : Post K w H E.rt D.rt
  bk : LkS K w H E.bk D.bk
  ct : LkS K w H E.ct D.ct
theorem LkS.mono {K : PySem.W.Frag} {w w' : Wd} {H H' : Hp} {M' : Mem} {P : Slots → Mem → Prop} {P' : St → Hp → Prop} (l : LkS K w H P P') (st : Step K w H w' H' M') : LkS K w' H' P P' := fun σ sl w2 H2 M2 s2 r q => l σ sl w2 H2 M2 (st.trans s2) r q
theorem Lk.mono {K : PySem.W.Frag} {w w' : Wd} {H H' : Hp} {M' : Mem} {E : DEnds} {D : Ends} (l : Lk K w H E D) (st : Step K w H w' H' M') : Lk K w' H' E D := ⟨l.nx.mono st, l.rt.mono st, l.bk.mono st, l.ct.mono st⟩
/-- a block -/
def WS (X : Cx) (W : XD) (sts : List Stmt) (sl : Slots) (M : Mem) (E : DEnds) : Prop :=
  ∀ w H σ, HoldM X.K w H M → Sl X.K w σ sl → Tk X W w H → ∀ D, Lk X.K w H E D → cSs X sts D σ H
/-- a statement -/
def W1 (X : Cx) (W : XD) (st : Stmt) (sl : Slots) (M : Mem) (E : DEnds) : Prop :=
  ∀ w H σ, HoldM X.K w H M → Sl X.K w σ sl → Tk X W w H → ∀ D, Lk X.K w H E D → cS X st D σ H

section
variable {X : Cx} {W : XD} {e a b c : Expr} {es : List Expr} {sl : Slots} {M : Mem} {Q : QD} {t : TE} {pos : Pos}
theorem WE.of (h : PE X e t) (k : ∀ w H σ, HoldM X.K w H M → Sl X.K w σ sl → Tk X W w H → ∀ Q', Post X.K w H Q Q' → t σ H Q') : WE X W e sl M Q :=
  fun w H σ m s tk Q' p pins st I => h.run pins st σ H Q' I (k w H σ m s tk Q' p)
theorem WT.of {tt : TT} {Q : Bool → Mem → Prop} (h : PT X e tt) (k : ∀ w H σ, HoldM X.K w H M → Sl X.K w σ sl → Tk X W w H → ∀ Q' : Bool → Hp → Prop, (∀ b w' H' M', Step X.K w H w' H' M' → Q b M' → Q' b H') → tt σ H Q') : WT X W e sl M Q :=
  fun w H σ m s tk Q' p pins st I => h.run pins st σ H Q' I (k w H σ m s tk Q' p)
theorem WA.of {ta : TA} {Q : List D → Mem → Prop} (h : PA X es ta) (k : ∀ w H σ, HoldM X.K w H M → Sl X.K w σ sl → Tk X W w H → ∀ Q' : List V → Hp → Prop, (∀ vs ds w' H' M', Step X.K w H w' H' M' → Reps X.K w' vs ds → Q ds M' → Q' vs H') → ta σ H Q') : WA X W es sl M Q :=
  fun w H σ m s tk Q' p ps pins st I => h.run ps pins st σ H Q' I (k w H σ m s tk Q' p)
theorem W1.of {st : Stmt} {ts : TS} {E : DEnds} (h : PS X st ts) (k : ∀ w H σ, HoldM X.K w H M → Sl X.K w σ sl → Tk X W w H → ∀ D, Lk X.K w H E D → ts D σ H) : W1 X W st sl M E :=
  fun w H σ m s tk D p pins sh I => h.run pins sh σ H D I (k w H σ m s tk D p)
/-- run: what an expression's judgement is for -/
theorem WE.run (h : WE X W e sl M Q) {w : Wd} {H : Hp} {σ : St} (m : HoldM X.K w H M) (s : Sl X.K w σ sl) (tk : Tk X W w H) {Q' : VK} (p : Post X.K w H Q Q') : cE X e σ H Q' := h w H σ m s tk Q' p
theorem WE.mono {Q1 : QD} (h : WE X W e sl M Q1) (k : ∀ d M', Q1 d M' → Q d M') : WE X W e sl M Q := fun w H σ m s tk Q' p => h w H σ m s tk Q' fun v d w' H' M' st r q => p v d w' H' M' st r (k d M' q)

/-! ### names, constants -/
theorem we_var (i : Nat) {x : Str} {d : D} (h : sl[i]? = some (some d)) (q : Q d M) (hN : X.N[i]? = some x := by rfl) (hv : Vis X.env.scope x := by first | exact Or.inl rfl | exact Or.inr (Or.inl rfl) | exact Or.inr (Or.inr rfl)) (hd : (x == ("__debug__" : Str)) = false := by decide)
    (hcd : (x == ("__classdict__" : Str)) = false := by decide) : WE X W (.Name x pos) sl M Q := WE.of (pe_var hN hv hd hcd) fun w H σ m s _ Q' p => by
  obtain ⟨v, h1, h2⟩ := s.ob i d h
  exact ⟨v, h1, p v d w H M (Step.refl m) h2 q⟩
theorem we_c {v : V} {d : D} (h : PE X e (tC v)) (r : ∀ w, Rep X.K w v d) (q : Q d M) : WE X W e sl M Q := WE.of h fun w H σ m _ _ Q' p => p v d w H M (Step.refl m) (r w) q
theorem we_int {i : Int} {j} (q : Q (.int i) M) : WE X W (.Constant (.int i) j pos) sl M Q := we_c pe_int (fun _ => .int i) q
theorem we_bl {i : Bool} {j} (q : Q (.bl i) M) : WE X W (.Constant (.bool i) j pos) sl M Q := we_c pe_bl (fun _ => .bl i) q
theorem we_non {j} (q : Q .non M) : WE X W (.Constant .none j pos) sl M Q := we_c pe_non (fun _ => .non) q
theorem we_str {x : Str} {j} (q : Q (.str x) M) : WE X W (.Constant (.str x) j pos) sl M Q := we_c pe_str (fun _ => .str x) q
theorem we_glob {x : Str} {f : Addr} (hm : X.mg x = some (.ref f)) (q : Q (.rf f) M) (hg : Gl X x := by rfl) (hd : (x == ("__debug__" : Str)) = false := by decide) : WE X W (.Name x pos) sl M Q := we_c (pe_glob hg hm (v := .ref f) rfl hd) (fun _ => .rf f) q

/-! ### operators -/
/-- the new list at p, as one that stays, or as one of the memory -/
def New (Q : QD) (ds : List D) (M : Mem) : Prop := Q (.lst ds) M ∨ Q (.mr M.length) (M ++ [some (.lst ds)])
theorem new_ok {w : Wd} {H : Hp} {Q' : VK} {vs : List V} {ds : List D} {p : Addr} (m : HoldM X.K w H M) (po : Post X.K w H Q Q') (r : Reps X.K w vs ds) (n : New Q ds M) (hp : H p = none) : Q' (.ref p) (upd H p (.lst vs)) := by
  rcases n with q | q
  · have st := m.newF (o := .lst vs) hp
    exact po _ _ _ _ _ st (.lst upd_same (r.mono st.le)) q
  · have st := m.newM (o := .lst vs) (ob := .lst ds) hp fun H' e => ⟨vs, e, r.mono (w.le_add p)⟩
    refine po _ _ _ _ _ st ?_ q
    have z : Rep X.K (w.add p) (.ref ((w.add p).ρ M.length)) (.mr M.length) := .mr (by rw [m.len]; exact Nat.lt_succ_self _)
    rw [m.len, w.add_ρ p] at z
    rw [m.len]
    exact z
/-- the new tuple at p -/
def NewT (Q : QD) (ds : List D) (M : Mem) : Prop := Q (.tup ds) M ∨ Q (.xt ds) M
theorem newX_ok {w : Wd} {H : Hp} {Q' : VK} {vs : List V} {ds : List D} {p : Addr} {o : Obj} (m : HoldM X.K w H M) (po : Post X.K w H Q Q') (r : Reps X.K w vs ds) (hd : o.dict = none) (q : NewT Q ds M) (hp : H p = none) : Q' (.ref p) (upd H p (.frz o (.tup vs))) := by
  have st := m.newF (o := .frz o (.tup vs)) hp
  rcases q with q | q
  · exact po _ _ _ _ _ st (.tup (.inl (.inr ⟨o, upd_same⟩)) (r.mono st.le)) q
  · exact po _ _ _ _ _ st (.xt upd_same hd (r.mono st.le)) q
theorem newT_ok {w : Wd} {H : Hp} {Q' : VK} {vs : List V} {ds : List D} {p : Addr} (m : HoldM X.K w H M) (po : Post X.K w H Q Q') (r : Reps X.K w vs ds) (q : Q (.tup ds) M) (hp : H p = none) : Q' (.ref p) (upd H p (.tup vs)) := by
  have st := m.newF (o := .tup vs) hp
  exact po _ _ _ _ _ st (.tup (.inl (.inl upd_same)) (r.mono st.le)) q
/-- a list to be read: its items -/
def lsP : D → Option (List D)
  | .lst ds => some ds
  | .bor ds => some ds
  | _ => none
def lsOf (M : Mem) (d : D) : Option (List D) := match d with
  | .mr n => match M[n]? with
    | some (some (.lst ds)) => some ds
    | _ => none
  | d => lsP d
theorem lsOf_of {d : D} {ds : List D} (h : lsP d = some ds) : lsOf M d = some ds := by
  cases d <;> first | exact h | cases h
theorem ls_at {w : Wd} {H : Hp} {d : D} {ds : List D} {v : V} (m : HoldM X.K w H M) (r : Rep X.K w v d) (h : lsOf M d = some ds) : ∃ a vs, v = .ref a ∧ H a = some (.lst vs) ∧ Reps X.K w vs ds := by
  cases r with
  | lst h1 r1 => cases h; exact ⟨_, _, rfl, m.sub _ _ h1, r1⟩
  | bor h1 r1 => cases h; exact ⟨_, _, rfl, m.bor _ _ h1, r1⟩
  | mr hn =>
    rename_i n
    unfold lsOf at h
    simp only at h
    split at h
    · rename_i es e
      cases h
      obtain ⟨_, _, vs, h1, h2⟩ := m.ob n _ e
      exact ⟨_, vs, rfl, h1, h2⟩
    · cases h
  | _ => cases h
/-- a list or tuple to be read -/
def sqP : D → Option (List D)
  | .tup ds => some ds
  | .xt ds => some ds
  | .scr ns => some (ns.map .int)
  | d => lsP d
def sqOf (M : Mem) (d : D) : Option (List D) := match d with
  | .tup ds => some ds
  | .xt ds => some ds
  | .scr ns => some (ns.map .int)
  | d => lsOf M d
theorem sqOf_of {d : D} {ds : List D} (h : sqP d = some ds) : sqOf M d = some ds := by
  cases d <;> first | exact h | cases h
theorem sq_at {w : Wd} {H : Hp} {d : D} {ds : List D} {v : V} (m : HoldM X.K w H M) (r : Rep X.K w v d) (h : sqOf M d = some ds) : ∃ a vs, v = .ref a ∧ (SqL X.K H a vs ∨ SqT X.K H a vs) ∧ Reps X.K w vs ds := by
  cases r with
  | tup h1 r1 => cases h; exact ⟨_, _, rfl, .inr (sqT_mono m.sub h1), r1⟩
  | xt h1 hd r1 => cases h; exact ⟨_, _, rfl, .inr (.inl (.inr ⟨_, m.sub _ _ h1⟩)), r1⟩
  | scr h1 => cases h; exact ⟨_, _, rfl, .inl (m.sub.seq h1), Reps.ints⟩
  | lst h1 r1 => cases h; exact ⟨_, _, rfl, .inl (.inl (.inl (m.sub _ _ h1))), r1⟩
  | bor h1 r1 => cases h; exact ⟨_, _, rfl, .inl (.inl (.inl (m.bor _ _ h1))), r1⟩
  | mr hn =>
    obtain ⟨a, vs, e, h1, h2⟩ := ls_at m (Rep.mr hn) h
    exact ⟨a, vs, e, .inl (.inl (.inl h1)), h2⟩
  | _ => cases h
theorem of_ints {w : Wd} {H : Hp} {vx vy : V} {i j : Int} (rx : Rep X.K w vx (.int i)) (ry : Rep X.K w vy (.int j)) : vx = .int i ∧ vy = .int j := by cases rx; cases ry; exact ⟨rfl, rfl⟩

/-- a rule on values, at the level of data -/
def RD (K : PySem.W.Frag) (r : R2) (x y : D) (M : Mem) (Q : QD) : Prop := ∀ w H vx vy, HoldM K w H M → Rep K w vx x → Rep K w vy y → ∀ Q', Post K w H Q Q' → r vx vy H Q'
theorem we_op {op : Operator} {r : R2} {P : D → D → Mem → QD → Prop} (ho : OpR X (binaryOp op) r) (hp : ∀ x y M Q, P x y M Q → RD X.K r x y M Q) (h : WE X W a sl M fun x M1 => WE X W b sl M1 fun y M2 => P x y M2 Q) : WE X W (.BinOp a op b pos) sl M Q :=
  WE.of (pe_op ho pE pE) fun w H σ m s tk Q' p => h w H σ m s tk _ fun v1 d1 w1 H1 M1 st1 r1 q1 => q1 w1 H1 σ st1.hold (s.mono st1.le) (tk.mono st1) _ fun v2 d2 w2 H2 M2 st2 r2 q2 =>
    hp _ _ _ _ q2 w2 H2 v1 v2 st2.hold (r1.mono st2.le) r2 Q' ((p.mono st1).mono st2)
theorem we_cmp {op : CmpOp} {r : R2} {P : D → D → Mem → QD → Prop} (ho : OpR X (compareOp op) r) (hp : ∀ x y M Q, P x y M Q → RD X.K r x y M Q) (h : WE X W a sl M fun x M1 => WE X W b sl M1 fun y M2 => P x y M2 Q) (hm : behindInMarks op b = false := by rfl) : WE X W (.Compare a [op] [b] pos) sl M Q :=
  WE.of (pe_cmpR ho pE pE hm) fun w H σ m s tk Q' p => h w H σ m s tk _ fun v1 d1 w1 H1 M1 st1 r1 q1 => q1 w1 H1 σ st1.hold (s.mono st1.le) (tk.mono st1) _ fun v2 d2 w2 H2 M2 st2 r2 q2 =>
    hp _ _ _ _ q2 w2 H2 v1 v2 st2.hold (r1.mono st2.le) r2 Q' ((p.mono st1).mono st2)

/-- two ints, under a condition -/
def II (C : Int → Int → Prop) (g : Int → Int → D) (x y : D) (M : Mem) (Q : QD) : Prop := ∃ i j, x = .int i ∧ y = .int j ∧ C i j ∧ Q (g i j) M
def I0 (g : Int → Int → D) (x y : D) (M : Mem) (Q : QD) : Prop := ∃ i j, x = .int i ∧ y = .int j ∧ Q (g i j) M
theorem rd_I {C : Int → Int → Prop} {gv : Int → Int → V} {g : Int → Int → D} (hg : ∀ K w i j, Rep K w (gv i j) (g i j)) (x y : D) (M : Mem) (Q : QD) (h : II C g x y M Q) : RD X.K (rI C gv) x y M Q := by
  obtain ⟨i, j, rfl, rfl, hc, q⟩ := h
  intro w H vx vy m rx ry Q' p
  cases rx; cases ry
  exact ⟨i, j, rfl, rfl, hc, p _ _ w H M (Step.refl m) (hg _ _ i j) q⟩
theorem rd_I0 {gv : Int → Int → V} {g : Int → Int → D} (hg : ∀ K w i j, Rep K w (gv i j) (g i j)) (x y : D) (M : Mem) (Q : QD) (h : I0 g x y M Q) : RD X.K (rI0 gv) x y M Q := by
  obtain ⟨i, j, rfl, rfl, q⟩ := h
  intro w H vx vy m rx ry Q' p
  cases rx; cases ry
  exact ⟨i, j, rfl, rfl, p _ _ w H M (Step.refl m) (hg _ _ i j) q⟩
theorem we_sub (h : WE X W a sl M fun x M1 => WE X W b sl M1 fun y M2 => I0 (fun i j => .int (i - j)) x y M2 Q) : WE X W (.BinOp a .Sub b pos) sl M Q := we_op op_sub (rd_I0 fun _ _ i j => .int _) h
theorem we_mul (h : WE X W a sl M fun x M1 => WE X W b sl M1 fun y M2 => II CMul (fun i j => .int (i * j)) x y M2 Q) : WE X W (.BinOp a .Mult b pos) sl M Q := we_op op_mul (rd_I fun _ _ i j => .int _) h
theorem we_mod (h : WE X W a sl M fun x M1 => WE X W b sl M1 fun y M2 => II (fun _ j => 0 < j) (fun i j => .int (i % j)) x y M2 Q) : WE X W (.BinOp a .Mod b pos) sl M Q := we_op op_mod (rd_I fun _ _ i j => .int _) h
theorem we_fdiv (h : WE X W a sl M fun x M1 => WE X W b sl M1 fun y M2 => II CDiv (fun i j => .int (i / j)) x y M2 Q) : WE X W (.BinOp a .FloorDiv b pos) sl M Q := we_op op_fdiv (rd_I fun _ _ i j => .int _) h
theorem we_pow (h : WE X W a sl M fun x M1 => WE X W b sl M1 fun y M2 => II CPow (fun i j => .int (i ^ j.toNat)) x y M2 Q) : WE X W (.BinOp a .Pow b pos) sl M Q := we_op op_pow (rd_I fun _ _ i j => .int _) h
/-- a tuple -/
def tpP : D → Option (List D)
  | .tup ds => some ds
  | .xt ds => some ds
  | _ => none
theorem tp_at {w : Wd} {d : D} {ds : List D} {v : V} (r : Rep X.K w v d) (h : tpP d = some ds) : ∃ a vs, v = .ref a ∧ SqT X.K w.F a vs ∧ Reps X.K w vs ds := by
  cases r with
  | tup h1 r1 => cases h; exact ⟨_, _, rfl, h1, r1⟩
  | xt h1 hd r1 => cases h; exact ⟨_, _, rfl, .inl (.inr ⟨_, h1⟩), r1⟩
  | _ => cases h
/-- + of ints, texts, tuples, lists -/
def AddD (x y : D) (M : Mem) (Q : QD) : Prop := match x, y with
  | .int i, .int j => Q (.int (i + j)) M
  | .str a, .str b => a.length + b.length ≤ sizeLine ∧ Q (.str (a ++ b)) M
  | x, y => (∃ xs ys, tpP x = some xs ∧ tpP y = some ys ∧ xs ≠ [] ∧ xs.length + ys.length ≤ sizeLine ∧ Q (.tup (xs ++ ys)) M) ∨
    ∃ xs ys, lsOf M x = some xs ∧ lsOf M y = some ys ∧ xs.length + ys.length ≤ sizeLine ∧ New Q (xs ++ ys) M
def rAddD (K : PySem.W.Frag) : R2 := fun x y H Q => (rI0 (fun i j => .int (i + j)) x y H Q ∨ (∃ i j, x = .str i ∧ y = .str j ∧ i.length + j.length ≤ sizeLine ∧ Q (.str (i ++ j)) H)) ∨ (rCatT K x y H Q ∨ rCat x y H Q)
theorem op_addD : OpR X (binaryOp .Add) (rAddD X.K) := OpR.or (OpR.or op_add op_add_str) (OpR.or op_catT op_cat)
theorem rd_add (x y : D) (M : Mem) (Q : QD) (h : AddD x y M Q) : RD X.K (rAddD X.K) x y M Q := by
  intro w H vx vy m rx ry Q' p
  have lists : ∀ {x y : D}, Rep X.K w vx x → Rep X.K w vy y → ((∃ xs ys, tpP x = some xs ∧ tpP y = some ys ∧ xs ≠ [] ∧ xs.length + ys.length ≤ sizeLine ∧ Q (.tup (xs ++ ys)) M) ∨
      ∃ xs ys, lsOf M x = some xs ∧ lsOf M y = some ys ∧ xs.length + ys.length ≤ sizeLine ∧ New Q (xs ++ ys) M) → rAddD X.K vx vy H Q' := by
    intro x y rx ry h
    rcases h with ⟨xs, ys, hx, hy, hn, hl, q⟩ | ⟨xs, ys, hx, hy, hl, n⟩
    · obtain ⟨a1, v1, rfl, h1, r1⟩ := tp_at rx hx
      obtain ⟨a2, v2, rfl, h2, r2⟩ := tp_at ry hy
      refine .inr (.inl ⟨_, _, v1, v2, rfl, rfl, sqT_mono m.sub h1, sqT_mono m.sub h2, ?_, by rw [r1.length, r2.length]; exact hl, fun z => ?_, fun z p' hp => newT_ok m p (r1.append r2) q hp⟩)
      · intro z; subst z; cases r1; exact hn rfl
      · subst z; cases r2; rw [List.append_nil] at q; exact p _ _ w H M (Step.refl m) (.tup h1 r1) q
    · obtain ⟨a1, v1, rfl, e1, r1⟩ := ls_at m rx hx
      obtain ⟨a2, v2, rfl, e2, r2⟩ := ls_at m ry hy
      exact .inr (.inr ⟨a1, a2, v1, v2, rfl, rfl, e1, e2, by rw [r1.length, r2.length]; exact hl, fun p' hp => new_ok m p (r1.append r2) n hp⟩)
  cases x <;> cases y <;> first
    | exact lists rx ry h
    | (cases rx; cases ry; exact .inl (.inl ⟨_, _, rfl, rfl, p _ _ w H M (Step.refl m) (.int _) h⟩))
    | (cases rx; cases ry; exact .inl (.inr ⟨_, _, rfl, rfl, h.1, p _ _ w H M (Step.refl m) (.str _) h.2⟩))
theorem we_add (h : WE X W a sl M fun x M1 => WE X W b sl M1 fun y M2 => AddD x y M2 Q) : WE X W (.BinOp a .Add b pos) sl M Q := we_op op_addD rd_add h
theorem we_neg (h : WE X W a sl M fun x M1 => ∃ i, x = .int i ∧ Q (.int (-i)) M1) : WE X W (.UnaryOp .USub a pos) sl M Q :=
  WE.of (pe_un un_neg pE) fun w H σ m s tk Q' p => h w H σ m s tk _ fun v d w1 H1 M1 st r q => by
    obtain ⟨i, rfl, q⟩ := q
    cases r
    exact ⟨i, rfl, p _ _ w1 H1 M1 st (.int _) q⟩
theorem we_lt (h : WE X W a sl M fun x M1 => WE X W b sl M1 fun y M2 => I0 (fun i j => .bl (decide (i < j))) x y M2 Q) : WE X W (.Compare a [.Lt] [b] pos) sl M Q := we_cmp op_lt (rd_I0 fun _ _ i j => .bl _) h (nomark _)
theorem we_le (h : WE X W a sl M fun x M1 => WE X W b sl M1 fun y M2 => I0 (fun i j => .bl (decide (i ≤ j))) x y M2 Q) : WE X W (.Compare a [.LtE] [b] pos) sl M Q := we_cmp op_le (rd_I0 fun _ _ i j => .bl _) h (nomark _)
theorem we_gt (h : WE X W a sl M fun x M1 => WE X W b sl M1 fun y M2 => I0 (fun i j => .bl (decide (j < i))) x y M2 Q) : WE X W (.Compare a [.Gt] [b] pos) sl M Q := we_cmp op_gt (rd_I0 fun _ _ i j => .bl _) h (nomark _)
theorem we_ge (h : WE X W a sl M fun x M1 => WE X W b sl M1 fun y M2 => I0 (fun i j => .bl (decide (j ≤ i))) x y M2 Q) : WE X W (.Compare a [.GtE] [b] pos) sl M Q := we_cmp op_ge (rd_I0 fun _ _ i j => .bl _) h (nomark _)
end
end Dl
set_option maxHeartbeats 2000000
namespace Dl
open PySem L2
section
variable {X : Cx} {W : XD} {e a b c : Expr} {es rest : List Expr} {sl : Slots} {M : Mem} {Q : QD} {pos : Pos}
def cW (X : Cx) (e : Expr) : TT := fun σ H Q => ∀ whole pins s, Inv X pins σ H s → wpAny (model X.prog X.w) X.A (isTrue e X.env whole) (TP X pins σ Q) X.xe s
theorem pW : PW X e (cW X e) := ⟨fun whole pins s σ H Q I h => h whole pins s I⟩
def WW (X : Cx) (W : XD) (e : Expr) (sl : Slots) (M : Mem) (Q : Bool → Mem → Prop) : Prop :=
  ∀ w H σ, HoldM X.K w H M → Sl X.K w σ sl → Tk X W w H → ∀ Q' : Bool → Hp → Prop, (∀ b w' H' M', Step X.K w H w' H' M' → Q b M' → Q' b H') → cW X e σ H Q'
theorem WW.of {tt : TT} {Q : Bool → Mem → Prop} (h : PW X e tt) (k : ∀ w H σ, HoldM X.K w H M → Sl X.K w σ sl → Tk X W w H → ∀ Q' : Bool → Hp → Prop, (∀ b w' H' M', Step X.K w H w' H' M' → Q b M' → Q' b H') → tt σ H Q') : WW X W e sl M Q :=
  fun w H σ m s tk Q' p whole pins st I => h.run whole pins st σ H Q' I (k w H σ m s tk Q' p)
/-- by the way of a test -/
def Br (b : Bool) (P Q : Prop) : Prop := (b = true → P) ∧ (b = false → Q)
theorem Br.tt {P Q : Prop} (h : P) : Br true P Q := ⟨fun _ => h, fun z => nomatch z⟩
theorem Br.ff {P Q : Prop} (h : Q) : Br false P Q := ⟨(fun z => nomatch z), fun _ => h⟩
theorem Br.ite {b : Bool} {P Q : Prop} (h : Br b P Q) : if b = true then P else Q := by
  cases b with
  | true => rw [if_pos rfl]; exact h.1 rfl
  | false => rw [if_neg Bool.false_ne_true]; exact h.2 rfl
theorem Br.d {p P Q : Prop} [Decidable p] (h1 : p → P) (h2 : ¬ p → Q) : Br (decide p) P Q := ⟨fun h => h1 (of_decide_eq_true h), fun h => h2 (of_decide_eq_false h)⟩
theorem Br.nd {p P Q : Prop} [Decidable p] (h1 : ¬ p → P) (h2 : p → Q) : Br (!decide p) P Q := ⟨fun h => h1 (of_decide_eq_false (by simpa using h)), fun h => h2 (of_decide_eq_true (by simpa using h))⟩
section
variable {Q : Bool → Mem → Prop}
theorem wt_val (h : WE X W e sl M fun d M1 => ∃ b, d = .bl b ∧ Q b M1) (he : ∀ whole, isTrue e X.env whole = (do let v ← whole; standAt e.pos; holding [v] (truthy v)) := by intro _; rfl) : WT X W e sl M Q :=
  WT.of (pt_val pE he) fun w H σ m s tk Q' p => h w H σ m s tk _ fun v d w1 H1 M1 st r q => by
    obtain ⟨b, rfl, q⟩ := q
    cases r
    exact ⟨b, rfl, p b w1 H1 M1 st q⟩
theorem wt_op {op : CmpOp} {r : R2} {P : D → D → Mem → QD → Prop} (ho : OpR X (compareOp op) r) (hp : ∀ x y M Q, P x y M Q → RD X.K r x y M Q) (h : WE X W a sl M fun x M1 => WE X W b sl M1 fun y M2 => P x y M2 fun d M3 => ∃ b, d = .bl b ∧ Q b M3) (hm : behindInMarks op b = false := by rfl) : WT X W (.Compare a [op] [b] pos) sl M Q :=
  WT.of (pt_cmpR ho pE pE hm) fun w H σ m s tk Q' p => h w H σ m s tk _ fun v1 d1 w1 H1 M1 st1 r1 q1 => q1 w1 H1 σ st1.hold (s.mono st1.le) (tk.mono st1) _ fun v2 d2 w2 H2 M2 st2 r2 q2 =>
    hp _ _ _ _ q2 w2 H2 v1 v2 st2.hold (r1.mono st2.le) r2 _ fun v d w3 H3 M3 st3 r3 q3 => by
      obtain ⟨b, rfl, q⟩ := q3
      cases r3
      exact ⟨b, rfl, p b w3 H3 M3 ((st1.trans st2).trans st3) q⟩
def IB (g : Int → Int → Bool) (x y : D) (M : Mem) (Q : Bool → Mem → Prop) : Prop := ∃ i j, x = .int i ∧ y = .int j ∧ Q (g i j) M
theorem wt_int {op : CmpOp} {g : Int → Int → Bool} (ho : OpR X (compareOp op) (rI0 fun i j => .bl (g i j))) (h : WE X W a sl M fun x M1 => WE X W b sl M1 fun y M2 => IB g x y M2 Q) (hm : behindInMarks op b = false) : WT X W (.Compare a [op] [b] pos) sl M Q :=
  wt_op (P := I0 fun i j => .bl (g i j)) ho (rd_I0 fun _ _ i j => .bl _) (h.mono fun x M1 q => q.mono fun y M2 ⟨i, j, e1, e2, q⟩ => ⟨i, j, e1, e2, g i j, rfl, q⟩) hm
theorem wt_lt (h : WE X W a sl M fun x M1 => WE X W b sl M1 fun y M2 => IB (fun i j => decide (i < j)) x y M2 Q) : WT X W (.Compare a [.Lt] [b] pos) sl M Q := wt_int op_lt h (nomark _)
theorem wt_le (h : WE X W a sl M fun x M1 => WE X W b sl M1 fun y M2 => IB (fun i j => decide (i ≤ j)) x y M2 Q) : WT X W (.Compare a [.LtE] [b] pos) sl M Q := wt_int op_le h (nomark _)
theorem wt_gt (h : WE X W a sl M fun x M1 => WE X W b sl M1 fun y M2 => IB (fun i j => decide (j < i)) x y M2 Q) : WT X W (.Compare a [.Gt] [b] pos) sl M Q := wt_int op_gt h (nomark _)
theorem wt_ge (h : WE X W a sl M fun x M1 => WE X W b sl M1 fun y M2 => IB (fun i j => decide (j ≤ i)) x y M2 Q) : WT X W (.Compare a [.GtE] [b] pos) sl M Q := wt_int op_ge h (nomark _)
theorem wt_bool {op : BoolOp} (h : WW X W (.BoolOp op es pos) sl M Q) : WT X W (.BoolOp op es pos) sl M Q := WT.of (PW.pt pW) fun w H σ m s tk Q' p => h w H σ m s tk Q' p
theorem ww_and1 (h : WT X W a sl M Q) : WW X W (.BoolOp .And [a] pos) sl M Q := WW.of (pw_and1 pT) fun w H σ m s tk Q' p => h w H σ m s tk Q' p
theorem ww_or1 (h : WT X W a sl M Q) : WW X W (.BoolOp .Or [a] pos) sl M Q := WW.of (pw_or1 pT) fun w H σ m s tk Q' p => h w H σ m s tk Q' p
theorem ww_and (h : WT X W a sl M fun c M1 => Br c (WW X W (.BoolOp .And (b :: rest) pos) sl M1 Q) (Q false M1)) : WW X W (.BoolOp .And (a :: b :: rest) pos) sl M Q :=
  WW.of (pw_and pT pW) fun w H σ m s tk Q' p => h w H σ m s tk _ fun c w1 H1 M1 st q => Br.ite ⟨fun z => q.1 z w1 H1 σ st.hold (s.mono st.le) (tk.mono st) Q' fun b w2 H2 M2 st2 q2 => p b w2 H2 M2 (st.trans st2) q2, fun z => p false w1 H1 M1 st (q.2 z)⟩
theorem ww_or (h : WT X W a sl M fun c M1 => Br c (Q true M1) (WW X W (.BoolOp .Or (b :: rest) pos) sl M1 Q)) : WW X W (.BoolOp .Or (a :: b :: rest) pos) sl M Q :=
  WW.of (pw_or pT pW) fun w H σ m s tk Q' p => h w H σ m s tk _ fun c w1 H1 M1 st q => Br.ite ⟨fun z => p true w1 H1 M1 st (q.1 z), fun z => q.2 z w1 H1 σ st.hold (s.mono st.le) (tk.mono st) Q' fun b w2 H2 M2 st2 q2 => p b w2 H2 M2 (st.trans st2) q2⟩
theorem wt_not (h : WT X W a sl M fun c M1 => Q (!c) M1) : WT X W (.UnaryOp .Not a pos) sl M Q := WT.of (pt_not pT) fun w H σ m s tk Q' p => h w H σ m s tk _ fun c w1 H1 M1 st q => p _ w1 H1 M1 st q
end
/-! ### values of tests -/
theorem we_andN (h : WE X W a sl M fun d M1 => ∃ c, d = .bl c ∧ Br c (WE X W (.BoolOp .And (b :: rest) pos) sl M1 Q) (Q (.bl false) M1)) : WE X W (.BoolOp .And (a :: b :: rest) pos) sl M Q :=
  WE.of (pe_and pE pE) fun w H σ m s tk Q' p => h w H σ m s tk _ fun v d w1 H1 M1 st r q => by
    obtain ⟨c, rfl, q⟩ := q
    cases r
    exact ⟨c, rfl, Br.ite ⟨fun z => q.1 z w1 H1 σ st.hold (s.mono st.le) (tk.mono st) Q' (p.mono st), fun z => p _ _ w1 H1 M1 st (.bl _) (q.2 z)⟩⟩
theorem we_orN (h : WE X W a sl M fun d M1 => ∃ c, d = .bl c ∧ Br c (Q (.bl true) M1) (WE X W (.BoolOp .Or (b :: rest) pos) sl M1 Q)) : WE X W (.BoolOp .Or (a :: b :: rest) pos) sl M Q :=
  WE.of (pe_or pE pE) fun w H σ m s tk Q' p => h w H σ m s tk _ fun v d w1 H1 M1 st r q => by
    obtain ⟨c, rfl, q⟩ := q
    cases r
    exact ⟨c, rfl, Br.ite ⟨fun z => p _ _ w1 H1 M1 st (.bl _) (q.1 z), fun z => q.2 z w1 H1 σ st.hold (s.mono st.le) (tk.mono st) Q' (p.mono st)⟩⟩
theorem we_one {op : BoolOp} (h : WE X W a sl M Q) : WE X W (.BoolOp op [a] pos) sl M Q := WE.of (pe_one pE) fun w H σ m s tk Q' p => h w H σ m s tk Q' p
theorem we_not (h : WE X W a sl M fun d M1 => ∃ c, d = .bl c ∧ Q (.bl (!c)) M1) : WE X W (.UnaryOp .Not a pos) sl M Q :=
  WE.of (pe_not pE) fun w H σ m s tk Q' p => h w H σ m s tk _ fun v d w1 H1 M1 st r q => by
    obtain ⟨c, rfl, q⟩ := q
    cases r
    exact ⟨c, rfl, p _ _ w1 H1 M1 st (.bl _) q⟩
theorem we_if (h : WT X W c sl M fun v M1 => Br v (WE X W a sl M1 Q) (WE X W b sl M1 Q)) : WE X W (.IfExp c a b pos) sl M Q :=
  WE.of (pe_ifExp pT pE pE) fun w H σ m s tk Q' p => h w H σ m s tk _ fun v w1 H1 M1 st q => Br.ite ⟨fun z => q.1 z w1 H1 σ st.hold (s.mono st.le) (tk.mono st) Q' (p.mono st), fun z => q.2 z w1 H1 σ st.hold (s.mono st.le) (tk.mono st) Q' (p.mono st)⟩

/-! ### arguments, displays -/
theorem wa_nil {Q : List D → Mem → Prop} (q : Q [] M) : WA X W [] sl M Q := WA.of pa_nil fun w H σ m s tk Q' p => p [] [] w H M (Step.refl m) .nil q
theorem wa_cons {Q : List D → Mem → Prop} (h : WE X W e sl M fun d M1 => WA X W es sl M1 fun ds M2 => Q (d :: ds) M2) (hs : starEach (e :: es) X.env = (false, eval e X.env) :: starEach es X.env := by rfl) : WA X W (e :: es) sl M Q :=
  WA.of (pa_cons pE pA hs) fun w H σ m s tk Q' p => h w H σ m s tk _ fun v d w1 H1 M1 st1 r1 q1 => q1 w1 H1 σ st1.hold (s.mono st1.le) (tk.mono st1) _ fun vs ds w2 H2 M2 st2 r2 q2 => p _ _ w2 H2 M2 (st1.trans st2) (.cons (r1.mono st2.le) r2) q2
theorem we_list (h : WA X W es sl M fun ds M1 => ds.length ≤ sizeLine ∧ New Q ds M1) : WE X W (.List es pos) sl M Q :=
  WE.of (pe_lst pA) fun w H σ m s tk Q' p => h w H σ m s tk _ fun vs ds w1 H1 M1 st r q => ⟨by rw [r.length]; exact q.1, fun x hx => new_ok st.hold (p.mono st) r q.2 hx⟩
theorem we_tuple {x1} (h : WA X W es sl M fun ds M1 => ds.length ≤ sizeLine ∧ Q (.tup ds) M1) : WE X W (.Tuple es x1 pos) sl M Q :=
  WE.of (pe_tup pA) fun w H σ m s tk Q' p => h w H σ m s tk _ fun vs ds w1 H1 M1 st r q => ⟨by rw [r.length]; exact q.1, fun x hx => newT_ok st.hold (p.mono st) r q.2 hx⟩

/-! ### subscripts -/
theorem atI_reps {K : PySem.W.Frag} {w : Wd} {vs : List V} {ds : List D} {i : Int} {d : D} (r : Reps K w vs ds) (h : atI ds i = some d) : ∃ v, atI vs i = some v ∧ Rep K w v d := by
  unfold atI at h ⊢
  rw [r.length]
  cases e : ixN ds.length i with
  | none => rw [e] at h; cases h
  | some j =>
    rw [e] at h
    exact r.get (show ds[j]? = some d from h)
/-- x[y]: a list's or tuple's item, a text's sign -/
def IxD (x y : D) (M : Mem) (Q : QD) : Prop := match x, y with
  | .str z, .int i => z.length ≤ sizeLine ∧ ∃ c, atI z.cps.toList i = some c ∧ Q (.str ⟨#[c]⟩) M
  | x, .int i => ∃ ds d, sqOf M x = some ds ∧ atI ds i = some d ∧ Q d M
  | _, _ => False
theorem rd_ix (x y : D) (M : Mem) (Q : QD) (h : IxD x y M Q) : RD X.K (rIx X.K) x y M Q := by
  intro w H vx vy m rx ry Q' p
  have seq : ∀ {x : D} {i : Int}, Rep X.K w vx x → Rep X.K w vy (.int i) → (∃ ds d, sqOf M x = some ds ∧ atI ds i = some d ∧ Q d M) → rIx X.K vx vy H Q' := by
    intro x i rx ry ⟨ds, d, hs, ha, q⟩
    cases ry
    obtain ⟨a, vs, rfl, h1, r⟩ := sq_at m rx hs
    obtain ⟨v, hv, rv⟩ := atI_reps r ha
    rcases h1 with h1 | h1
    · exact .inl ⟨a, vs, i, v, rfl, rfl, h1, hv, p _ _ w H M (Step.refl m) rv q⟩
    · exact .inr (.inl ⟨a, vs, i, v, rfl, rfl, h1, hv, p _ _ w H M (Step.refl m) rv q⟩)
  cases y with
  | int i =>
    cases x <;> first
      | exact seq rx ry h
      | (cases rx; cases ry
         obtain ⟨hl, c, hc, q⟩ := h
         exact .inr (.inr ⟨_, _, c, rfl, rfl, hl, hc, p _ _ w H M (Step.refl m) (.str _) q⟩))
  | _ => exact (show False by cases x <;> exact h).elim
theorem we_ix (h : WE X W a sl M fun x M1 => WE X W b sl M1 fun y M2 => IxD x y M2 Q) (hs : PlainIx b := by exact fun _ _ => rfl) : WE X W (.Subscript a b pos) sl M Q :=
  WE.of (pe_ix ix_seq pE pE hs) fun w H σ m s tk Q' p => h w H σ m s tk _ fun v1 d1 w1 H1 M1 st1 r1 q1 => q1 w1 H1 σ st1.hold (s.mono st1.le) (tk.mono st1) _ fun v2 d2 w2 H2 M2 st2 r2 q2 =>
    rd_ix _ _ _ _ q2 w2 H2 v1 v2 st2.hold (r1.mono st2.le) r2 Q' ((p.mono st1).mono st2)
def cutD {α : Type} (xs : List α) (lo hi : Option Int) : List α := (xs.drop (HT.sIx xs.length 0 lo)).take (HT.sIx xs.length xs.length hi - HT.sIx xs.length 0 lo)
theorem Reps.cutV {K : PySem.W.Frag} {w : Wd} {vs : List V} {ds : List D} (r : Reps K w vs ds) (lo hi : Option Int) : Reps K w (L2.cutV vs lo hi) (cutD ds lo hi) := by
  unfold L2.cutV cutD
  rw [r.length]
  exact (r.drop _).take _
/-- a part of a slice -/
def WO (X : Cx) (W : XD) (e : Option Expr) (sl : Slots) (M : Mem) (Q : Option Int → Mem → Prop) : Prop := match e with
  | none => Q none M
  | some e => WE X W e sl M fun d M1 => ∃ i, d = .int i ∧ Q (some i) M1
def toE (X : Cx) : Option Expr → TO
  | none => tNoPart
  | some e => tPart (cE X e)
theorem poE {o : Option Expr} : PO X o (toE X o) := by
  cases o with
  | none => exact po_none
  | some e => exact po_some pE
theorem wo_run {o : Option Expr} {Q : Option Int → Mem → Prop} (h : WO X W o sl M Q) {w : Wd} {H : Hp} {σ : St} (m : HoldM X.K w H M) (s : Sl X.K w σ sl) (tk : Tk X W w H) {Q' : Option Int → Hp → Prop}
    (p : ∀ i w' H' M', Step X.K w H w' H' M' → Q i M' → Q' i H') : toE X o σ H Q' := by
  cases o with
  | none => exact p none w H M (Step.refl m) h
  | some e =>
    refine h w H σ m s tk _ fun v d w1 H1 M1 st r q => ?_
    obtain ⟨i, rfl, q⟩ := q
    cases r
    exact ⟨i, rfl, p _ w1 H1 M1 st q⟩
/-- a list's slice -/
theorem we_slice {lo hi : Option Expr} {p2 : Pos} (h : WE X W a sl M fun x M1 => WO X W lo sl M1 fun l M2 => WO X W hi sl M2 fun u M3 => ∃ ds, lsOf M3 x = some ds ∧ New Q (cutD ds l u) M3) : WE X W (.Subscript a (.Slice lo hi none p2) pos) sl M Q :=
  WE.of (pe_slice sl_list pE poE poE) fun w H σ m s tk Q' p => h w H σ m s tk _ fun v1 d1 w1 H1 M1 st1 r1 q1 => wo_run q1 st1.hold (s.mono st1.le) (tk.mono st1) fun l w2 H2 M2 st2 q2 => wo_run q2 st2.hold (s.mono (st1.trans st2).le) (tk.mono (st1.trans st2)) fun u w3 H3 M3 st3 q3 => by
    obtain ⟨ds, hl, n⟩ := q3
    obtain ⟨ad, vs, rfl, h1, r⟩ := ls_at st3.hold (r1.mono (st2.trans st3).le) hl
    exact ⟨ad, vs, rfl, .inl (.inl h1), fun x hx => new_ok st3.hold (p.mono ((st1.trans st2).trans st3)) (r.cutV l u) n hx⟩

/-! ### built-ins by name -/
/-- a call on values, at the level of data -/
def RCD (K : PySem.W.Frag) (r : List V → Hp → VK → Prop) (ds : List D) (M : Mem) (Q : QD) : Prop := ∀ w H vs, HoldM K w H M → Reps K w vs ds → ∀ Q', Post K w H Q Q' → r vs H Q'
section
variable {x : Str} {id T : String} {r : List V → Hp → VK → Prop} {p : Pos}
theorem we_cb (hc : CallR X (.builtin id) r) (hm : X.mg x = none) (hv : bootBuiltins x = some (.builtin id)) (h : WA X W (e :: es) sl M fun ds M1 => RCD X.K r ds M1 Q) (hg : Gl X x := by rfl) (hn : x ≠ "__name__" := by decide) (hdb : (x == ("__debug__" : Str)) = false := by decide)
    (he : starEach (e :: es) X.env = (false, eval e X.env) :: starEach es X.env := by rfl) (hpl : (backTo pos (starEach es X.env)).any (·.1) = false := by rfl) : WE X W (.Call (.Name x p) (e :: es) [] pos) sl M Q :=
  WE.of (pe_callB hc hg hm hv pA hn hdb he hpl) fun w H σ m s tk Q' po => h w H σ m s tk _ fun vs ds w1 H1 M1 st r1 q => q w1 H1 vs st.hold r1 Q' (po.mono st)
theorem we_ct (hc : CallR X (.type T) r) (hm : X.mg x = none) (hv : bootBuiltins x = some (.type T)) (h : WA X W (e :: es) sl M fun ds M1 => RCD X.K r ds M1 Q) (hg : Gl X x := by rfl) (hn : x ≠ "__name__" := by decide) (hdb : (x == ("__debug__" : Str)) = false := by decide)
    (he : starEach (e :: es) X.env = (false, eval e X.env) :: starEach es X.env := by rfl) (hpl : (backTo pos (starEach es X.env)).any (·.1) = false := by rfl) : WE X W (.Call (.Name x p) (e :: es) [] pos) sl M Q :=
  WE.of (pe_callTy hc hg hm hv pA hn hdb he hpl) fun w H σ m s tk Q' po => h w H σ m s tk _ fun vs ds w1 H1 M1 st r1 q => q w1 H1 vs st.hold r1 Q' (po.mono st)
end
theorem Reps.one {K : PySem.W.Frag} {w : Wd} {vs : List V} {d : D} (r : Reps K w vs [d]) : ∃ v, vs = [v] ∧ Rep K w v d := by
  cases r with
  | cons h t => cases t; exact ⟨_, rfl, h⟩
theorem Reps.two {K : PySem.W.Frag} {w : Wd} {vs : List V} {d e : D} (r : Reps K w vs [d, e]) : ∃ v u, vs = [v, u] ∧ Rep K w v d ∧ Rep K w u e := by
  cases r with
  | cons h t => cases t with
    | cons h' t' => cases t'; exact ⟨_, _, rfl, h, h'⟩
/-- len of a list, a tuple, a text -/
def LenD (d : D) (M : Mem) (Q : QD) : Prop := match d with
  | .str z => z.length ≤ sizeLine ∧ Q (.int (z.length : Nat)) M
  | d => ∃ xs, sqOf M d = some xs ∧ Q (.int (xs.length : Nat)) M
theorem rcd_len (d : D) (M : Mem) (Q : QD) (h : LenD d M Q) : RCD X.K (fun xs H Q => ∃ x n, xs = [x] ∧ LenV X.K x H n ∧ Q (.int n) H) [d] M Q := by
  intro w H vs m r Q' p
  obtain ⟨v, rfl, rv⟩ := r.one
  have seq : (∃ xs, sqOf M d = some xs ∧ Q (.int (xs.length : Nat)) M) → ∃ x n, [v] = [x] ∧ LenV X.K x H n ∧ Q' (.int n) H := by
    intro ⟨xs, hs, q⟩
    obtain ⟨a, us, rfl, h1, r1⟩ := sq_at m rv hs
    refine ⟨_, xs.length, rfl, ?_, p _ _ w H M (Step.refl m) (.int _) q⟩
    rcases h1 with h1 | h1
    · exact .inl ⟨us, h1, r1.length.symm⟩
    · exact .inr ⟨us, h1, r1.length.symm⟩
  cases d <;> first
    | exact seq h
    | (cases rv; exact ⟨_, _, rfl, ⟨h.1, rfl⟩, p _ _ w H M (Step.refl m) (.int _) h.2⟩)
theorem we_len {p : Pos} (hm : X.mg "len" = none) (h : WE X W e sl M fun d M1 => LenD d M1 Q) (hg : Gl X "len" := by rfl) (he : starEach [e] X.env = (false, eval e X.env) :: starEach [] X.env := by rfl) : WE X W (.Call (.Name "len" p) [e] [] pos) sl M Q :=
  we_cb call_len hm PySem.boot_len (wa_cons (h.mono fun d M1 q => wa_nil (rcd_len _ _ _ q)) he) hg (he := he)
theorem boot_int' : bootBuiltins "int" = some (.type "int") := by decide +kernel
theorem boot_list' : bootBuiltins "list" = some (.type "list") := by decide +kernel
theorem boot_tuple' : bootBuiltins "tuple" = some (.type "tuple") := by decide +kernel
theorem we_intc {p : Pos} (hm : X.mg "int" = none) (h : WE X W e sl M fun d M1 => (∃ i, d = .int i ∧ Q (.int i) M1) ∨ ∃ k, d = .bl k ∧ Q (.int (if k then 1 else 0)) M1) (hg : Gl X "int" := by rfl) (he : starEach [e] X.env = (false, eval e X.env) :: starEach [] X.env := by rfl) : WE X W (.Call (.Name "int" p) [e] [] pos) sl M Q :=
  we_ct call_int1 hm boot_int' (wa_cons (h.mono fun d M1 q => wa_nil fun w H vs m r Q' p => by
    obtain ⟨v, rfl, rv⟩ := r.one
    rcases q with ⟨i, rfl, q⟩ | ⟨i, rfl, q⟩
    · cases rv; exact .inl ⟨i, rfl, p _ _ w H M1 (Step.refl m) (.int _) q⟩
    · cases rv; exact .inr ⟨i, rfl, p _ _ w H M1 (Step.refl m) (.int _) q⟩) he) hg (he := he)
theorem we_listc {p : Pos} (hm : X.mg "list" = none) (h : WE X W e sl M fun d M1 => ∃ xs, sqOf M1 d = some xs ∧ New Q xs M1) (hg : Gl X "list" := by rfl) (he : starEach [e] X.env = (false, eval e X.env) :: starEach [] X.env := by rfl) : WE X W (.Call (.Name "list" p) [e] [] pos) sl M Q :=
  we_ct call_list_of hm boot_list' (wa_cons (h.mono fun d M1 q => wa_nil fun w H vs m r Q' p => by
    obtain ⟨v, rfl, rv⟩ := r.one
    obtain ⟨xs, hs, n⟩ := q
    obtain ⟨a, us, rfl, h1, r1⟩ := sq_at m rv hs
    exact ⟨a, us, rfl, h1, fun l hl => new_ok m p r1 n hl⟩) he) hg (he := he)
theorem call_tupleX : CallR X (.type "tuple") (fun xs H Q => ∃ p ys, xs = [.ref p] ∧ ((SqL X.K H p ys ∧ ∀ l o, H l = none → o.dict = none → Q (.ref l) (upd H l (.frz o (.tup ys)))) ∨ (SqT X.K H p ys ∧ Q (.ref p) H))) := by
  intro pins s σ H xs us Q I r h
  obtain ⟨p, ys, rfl, h⟩ := h
  obtain ⟨u, rfl, rx⟩ := vals1 r
  cases rx
  rcases h with ⟨hq, q⟩ | ⟨hq, q⟩
  · obtain ⟨its, r', pl, hz⟩ := I.list hq
    have hlen := r'.length
    refine call_tuple_list pl.isList (fun h' kp => ?_) (by simp only [List.size_toArray] <;> omega)
    have I1 : Inv X pins σ H { s with heap := h' } := I.kept (t' := s.toks) kp
    have I2 : Inv X pins σ (upd H h'.objs.size (.frz { cls := .type "tuple", data := .seq its.toArray } (.tup ys))) { s with heap := h'.push { cls := .type "tuple", data := .seq its.toArray } } :=
      I1.laid (t' := s.toks) (fun b o e => Heap.get?_push_of_some _ e) (Nat.le_refl _) (show ObjOk X.prog X.w _ _ _ (.frz { cls := .type "tuple", data := .seq its.toArray } (.tup ys)) from ⟨Heap.get?_push_size _ rfl, hz, its, r', PyProof.Rows.IsTup.new _ _⟩)
    exact ⟨.ref h'.objs.size, _, I2, rfl, q _ _ (I1.hok.fresh (Nat.le_refl _)) rfl⟩
  · obtain ⟨its, r', pl, hz⟩ := I.tuple hq
    exact call_tuple_same pl ⟨.ref p, H, I, rfl, q⟩
/-- tuple(e): of a list a new one, of a tuple itself -/
def TupD (d : D) (M : Mem) (Q : QD) : Prop := match d with
  | .tup xs => Q (.tup xs) M
  | .xt xs => Q (.xt xs) M
  | d => ∃ xs, sqOf M d = some xs ∧ NewT Q xs M
theorem we_tuplec {p : Pos} (hm : X.mg "tuple" = none) (h : WE X W e sl M fun d M1 => TupD d M1 Q) (hg : Gl X "tuple" := by rfl) (he : starEach [e] X.env = (false, eval e X.env) :: starEach [] X.env := by rfl) : WE X W (.Call (.Name "tuple" p) [e] [] pos) sl M Q :=
  we_ct call_tupleX hm boot_tuple' (wa_cons (h.mono fun d M1 q => wa_nil fun w H vs m r Q' p => by
    obtain ⟨v, rfl, rv⟩ := r.one
    cases rv with
    | tup h1 r1 => exact ⟨_, _, rfl, .inr ⟨sqT_mono m.sub h1, p _ _ w H M1 (Step.refl m) (.tup h1 r1) q⟩⟩
    | xt h1 hd r1 => exact ⟨_, _, rfl, .inr ⟨.inl (.inr ⟨_, m.sub _ _ h1⟩), p _ _ w H M1 (Step.refl m) (.xt h1 hd r1) q⟩⟩
    | scr h1 => obtain ⟨xs, hs, q⟩ := q; cases hs; exact ⟨_, _, rfl, .inl ⟨m.sub.seq h1, fun l o hl hd => newX_ok m p Reps.ints hd q hl⟩⟩
    | lst h1 r1 => obtain ⟨xs, hs, q⟩ := q; cases hs; exact ⟨_, _, rfl, .inl ⟨.inl (.inl (m.sub _ _ h1)), fun l o hl hd => newX_ok m p r1 hd q hl⟩⟩
    | bor h1 r1 => obtain ⟨xs, hs, q⟩ := q; cases hs; exact ⟨_, _, rfl, .inl ⟨.inl (.inl (m.bor _ _ h1)), fun l o hl hd => newX_ok m p r1 hd q hl⟩⟩
    | mr hn =>
      obtain ⟨xs, hs, q⟩ := q
      obtain ⟨a, us, e, h1, r1⟩ := ls_at m (Rep.mr hn) hs
      exact ⟨a, us, by rw [e], .inl ⟨.inl (.inl h1), fun l o hl hd => newX_ok m p r1 hd q hl⟩⟩
    | _ => obtain ⟨xs, hs, q⟩ := q; cases hs) he) hg (he := he)
def rgD (a b : Int) : List D := (List.range (b - a).toNat).map fun i => D.int (a + (i : Nat))
theorem reps_rg {K : PySem.W.Frag} {w : Wd} (a b : Int) : Reps K w (rgV a b) (rgD a b) := by
  unfold rgV rgD
  generalize List.range (b - a).toNat = l
  induction l with
  | nil => exact .nil
  | cons i l ih => exact .cons (.int _) ih
/-- list(range(e)), list(range(a, b)), tuple(range(e)) -/
theorem we_listRg1 {p p1 pos1 : Pos} (hc : X.calm = true) (hl : X.mg "list" = none) (hr : X.mg "range" = none) (h : WE X W e sl M fun d M1 => ∃ n, d = .int n ∧ RgOk 0 n ∧ New Q (rgD 0 n) M1) (hg : Gl X "list" := by rfl) (hg1 : Gl X "range" := by rfl)
    (na : starEach [Expr.Call (.Name "range" p1) [e] [] pos1] X.env = (false, eval (Expr.Call (.Name "range" p1) [e] [] pos1) X.env) :: starEach [] X.env := by rfl) (nb : starEach [e] X.env = (false, eval e X.env) :: starEach [] X.env := by rfl) : WE X W (.Call (.Name "list" p) [.Call (.Name "range" p1) [e] [] pos1] [] pos) sl M Q :=
  WE.of (pe_listRg hc hg hl (prg_1 hg1 hr pE nb) na) fun w H σ m s tk Q' p => h w H σ m s tk _ fun v d w1 H1 M1 st r q => by
    obtain ⟨n, rfl, ok, nw⟩ := q
    cases r
    exact ⟨n, rfl, ok, fun x hx => new_ok st.hold (p.mono st) (reps_rg 0 n) nw hx⟩
theorem we_tupRg1 {p p1 pos1 : Pos} (hc : X.calm = true) (hl : X.mg "tuple" = none) (hr : X.mg "range" = none) (h : WE X W e sl M fun d M1 => ∃ n, d = .int n ∧ RgOk 0 n ∧ Q (.tup (rgD 0 n)) M1) (hg : Gl X "tuple" := by rfl) (hg1 : Gl X "range" := by rfl)
    (na : starEach [Expr.Call (.Name "range" p1) [e] [] pos1] X.env = (false, eval (Expr.Call (.Name "range" p1) [e] [] pos1) X.env) :: starEach [] X.env := by rfl) (nb : starEach [e] X.env = (false, eval e X.env) :: starEach [] X.env := by rfl) : WE X W (.Call (.Name "tuple" p) [.Call (.Name "range" p1) [e] [] pos1] [] pos) sl M Q :=
  WE.of (pe_tupRg hc hg hl (prg_1 hg1 hr pE nb) na) fun w H σ m s tk Q' p => h w H σ m s tk _ fun v d w1 H1 M1 st r q => by
    obtain ⟨n, rfl, ok, nw⟩ := q
    cases r
    exact ⟨n, rfl, ok, fun x hx => newT_ok st.hold (p.mono st) (reps_rg 0 n) nw hx⟩
end
end Dl
set_option maxHeartbeats 2000000
namespace Dl
open PySem L2
/-! ### defs: what they promise of data -/
/-- arguments, memory; a value; a new list; an exception -/
abbrev Spec := List D → Mem → QD → (List D → Mem → Prop) → (Addr → List (Str × D) → Mem → Prop) → Prop
def lift (K : PySem.W.Frag) (S : Spec) : Sp := fun vs H Q E => ∃ (w : Wd) (ds : List D) (M : Mem) (QR : QD) (QL : List D → Mem → Prop) (ER : Addr → List (Str × D) → Mem → Prop), HoldM K w H M ∧ Reps K w vs ds ∧ S ds M QR QL ER ∧
  (∀ v d w' H' M', Step K w H w' H' M' → w'.n = w.n → Rep K w' v d → d.pure = true → MemPure M' → QR d M' → Q v H') ∧
  (∀ p vs ds w' H' M', Step K w H w' H' M' → w'.n = w.n → H p = none → H' p = some (.lst vs) → w'.F p = none → (∀ i o, M'[i]? = some (some o) → w'.ρ i ≠ p) → Reps K w' vs ds → D.pures ds = true → MemPure M' → QL ds M' → Q (.ref p) H') ∧
  (∀ C d fs w' H' M', Step K w H w' H' M' → w'.n = w.n → XF K w' H' d fs → D.puref fs = true → MemPure M' → ER C fs M' → E (.ref C) d H')

section
variable {K : PySem.W.Frag} {w w' : Wd} {H H' : Hp} {M M' : Mem}
theorem take_get {α : Type} {l : List α} {n i : Nat} {x : α} (e : (l.take n)[i]? = some x) : l[i]? = some x ∧ i < n := by
  rw [List.getElem?_take] at e
  by_cases h : i < n
  · rw [if_pos h] at e; exact ⟨e, h⟩
  · rw [if_neg h] at e; cases e
/-- the def's own objects are forgotten at its end -/
theorem Step.back (st : Step K w H w' H' M') (q : MemPure (M'.take w.n)) : ∃ w2, w2.n = w.n ∧ w2.F = w'.F ∧ w2.ρ = w'.ρ ∧ Step K w H w2 H' (M'.take w.n) := by
  have hl : w.n ≤ M'.length := by rw [st.hold.len]; exact st.le.n
  refine ⟨{ w' with n := w.n }, rfl, rfl, rfl, ⟨⟨st.le.F, st.le.B, Nat.le_refl _, st.le.ρ⟩, st.eB, ⟨st.hold.sub, st.hold.bor, by simp [Nat.min_eq_left hl], fun i o e => ?_, fun i j o u a b t => st.hold.inj i j o u (take_get a).1 (take_get b).1 t, fun i hi => st.hold.all i (Nat.lt_of_lt_of_le hi st.le.n)⟩, st.fr, st.dom, st.nf, fun j a b => absurd (Nat.lt_of_lt_of_le b a) (Nat.lt_irrefl _)⟩⟩
  obtain ⟨h1, h2, h3⟩ := st.hold.ob i o (take_get e).1
  exact ⟨h1, h2, MOk.pur (w := w') (w' := { w' with n := w.n }) (Same.refl w'.F) h3 rfl (q i o e)⟩
end

/-- what a def's end must tell: n the number of the objects that it was given -/
def Back (n : Nat) (QR : QD) (QL : List D → Mem → Prop) (d : D) (M' : Mem) : Prop :=
  MemPure (M'.take n) ∧ ((d.pure = true ∧ QR d (M'.take n)) ∨ ∃ k ds, d = .mr k ∧ n ≤ k ∧ M'[k]? = some (some (.lst ds)) ∧ D.pures ds = true ∧ QL ds (M'.take n))
def XBack (n : Nat) (ER : Addr → List (Str × D) → Mem → Prop) : XD := fun C fs _ M' => D.puref fs = true ∧ MemPure (M'.take n) ∧ ER C fs (M'.take n)

/-- a context in which statements may stand -/
structure Fine (X : Cx) : Prop where
  calm : X.calm = true
  nd : X.N.Nodup
  po : PassesOwn (model X.prog X.w) X.A X.env X.xe
  stk : X.stack = X.env :: X.outer
  frm : X.env.frame = some X.env.locals

section
variable {P : Program} {wd : World} {K : PySem.W.Frag} {mg : Str → Option Value} {base : Heap}
theorem fnd_of {x qual : Str} {st : Stmt} {f : Addr} {fd : FuncData} {N ps : List Str} {k : Nat} {S : Spec} (F : Fun K x qual st f fd) (Sc : FnScope N ps (defScope st)) (len : ∀ ds M Q QL E, S ds M Q QL E → ds.length = ps.length)
    (body : ∀ (X : Cx) (cdv : Value) (A : Around) (outer : List Env) (s : Shared) (H : Hp) (E : XK), X = cxOf (L2.CX P wd) P wd K mg base N qual (defScope st) f cdv A outer s H E → Room k X.A → Fine X → ∀ ds M QR QL ER, S ds M QR QL ER →
      WS X (XBack M.length ER) (defBody st) (ds.map some ++ List.replicate (N.length - ds.length) none) M { nx := fun _ M' => Back M.length QR QL .non M', rt := Back M.length QR QL }) :
    FnOk P wd K mg base (L2.CX P wd) (k + 1) f fd ps (lift K S) := by
  refine F.okX Sc (fun vs H Q E h => ?_) (fun cdv A outer s H vs Q E hr h => ?_)
  · obtain ⟨w, ds, M, QR, QL, ER, _, r, hs, _⟩ := h
    rw [r.length]
    exact len _ _ _ _ _ hs
  · obtain ⟨w, ds, M, QR, QL, ER, m, r, hs, k1, k2, k3⟩ := h
    have fine : Fine (cxOf (L2.CX P wd) P wd K mg base N qual (defScope st) f cdv A outer s H E) := ⟨rfl, Sc.nd, passes_of rfl, rfl, rfl⟩
    refine ⟨_, pSs, body _ cdv A outer s H E rfl hr fine ds M QR QL ER hs w H (L2.start N vs) m ?_ ?_ _ ?_⟩
    · unfold L2.start
      have hl : vs.length ≤ N.length := by
        rw [r.length, len _ _ _ _ _ hs]
        have := congrArg List.length Sc.pre
        rw [List.length_take] at this
        omega
      refine ⟨?_, fun i d e => ?_⟩
      · simp [r.length]
      · by_cases hi : i < ds.length
        · rw [List.getElem?_append_left (by simpa using hi), List.getElem?_map] at e
          cases q : ds[i]? with
          | none => rw [q] at e; cases e
          | some d' =>
            rw [q] at e
            cases e
            obtain ⟨v, h1, h2⟩ := r.get q
            refine ⟨v, ?_, h2⟩
            rw [List.getElem?_append_left (by simp [r.length]; exact hi), List.getElem?_map, h1]
            rfl
        · rw [List.getElem?_append_right (by simpa using hi), List.getElem?_replicate] at e
          split at e <;> cases e
    · refine Takes.imp (takes_of (E := E) rfl rfl rfl rfl) fun c d σ H2 ⟨C, fs, sl', M2, w2, e, st2, s2, xf, pf, mp, q⟩ => ?_
      subst e
      have hn : M.length = w.n := m.len
      rw [hn] at mp q
      obtain ⟨w3, e1, e2, e3, st3⟩ := st2.back mp
      refine k3 C d fs w3 H2 _ st3 e1 ?_ pf mp q
      rcases xf with ⟨x1, x2⟩ | ⟨dd, vfs, x1, x2, x3⟩
      · exact .inl ⟨x1, x2⟩
      · exact .inr ⟨dd, vfs, x1, x2, x3.pur (by rw [e2]; exact Same.refl _) pf⟩
    · have fin : ∀ v d w' H' M', Step K w H w' H' M' → Rep K w' v d → Back M.length QR QL d M' → Q v H' := fun v d w2 H2 M2 st2 r2 ⟨mp, q⟩ => by
        have hn : M.length = w.n := m.len
        rw [hn] at mp q
        obtain ⟨w3, e1, e2, e3, st3⟩ := st2.back mp
        have hF : Same w2.F w3.F := by rw [e2]; exact Same.refl _
        rcases q with ⟨pd, q⟩ | ⟨k, es, rfl, hk, ek, pe, q⟩
        · exact k1 v d w3 H2 _ st3 e1 (r2.pur hF pd) pd mp q
        · have hkn : k < w2.n := by rw [← st2.hold.len]; exact (List.getElem?_eq_some_iff.mp ek).1
          obtain ⟨f0, _, us, hu, ru⟩ := st2.hold.ob k _ ek
          cases r2
          refine k2 _ us es w3 H2 _ st3 e1 (st2.nr k hk hkn) hu (by rw [e2]; exact f0) (fun i o hi z => ?_) (ru.pur hF pe) pe mp q
          obtain ⟨z1, z2⟩ := take_get hi
          rw [e3] at z
          have := st2.hold.inj i k o _ z1 ek z
          omega
      exact ⟨fun σ' sl' w' H' M' st _ q => fin _ _ w' H' M' st .non q, fin, fun _ _ _ _ _ _ _ q => q.elim, fun _ _ _ _ _ _ _ q => q.elim⟩
end
end Dl
set_option maxHeartbeats 2000000
namespace Dl
open PySem L2
/-! ### calls of defs -/
/-- how an argument is handed on: io the caller's objects that the callee may change -/
inductive Pass (io : List Nat) (M : Mem) : D → D → Prop
  | pur {d : D} (h : d.pure = true) : Pass io M d d
  | io {k j : Nat} (h : io[j]? = some k) : Pass io M (.mr k) (.mr j)
  | lent {k : Nat} {ds : List D} (h : M[k]? = some (some (.lst ds))) (hp : D.pures ds = true) (hn : k ∉ io) : Pass io M (.mr k) (.bor ds)
  | bor {ds : List D} (hp : D.pures ds = true) : Pass io M (.bor ds) (.bor ds)
inductive PassL (io : List Nat) (M : Mem) : List D → List D → Prop
  | nil : PassL io M [] []
  | cons {d e : D} {ds es : List D} (h : Pass io M d e) (t : PassL io M ds es) : PassL io M (d :: ds) (e :: es)
/-- the caller's objects behind the call -/
def putIo : List Nat → Mem → Mem → Mem
  | k :: io, M, o :: M' => putIo io (M.set k o) M'
  | _, M, _ => M
theorem putIo_length : ∀ (io : List Nat) (M M' : Mem), (putIo io M M').length = M.length
  | [], _, _ => rfl
  | _ :: _, _, [] => rfl
  | k :: io, M, o :: M' => by
    show (putIo io (M.set k o) M').length = _
    rw [putIo_length, List.length_set]
theorem putIo_ne {i : Nat} : ∀ (io : List Nat) (M M' : Mem), i ∉ io → (putIo io M M')[i]? = M[i]?
  | [], _, _, _ => rfl
  | _ :: _, _, [], _ => rfl
  | k :: io, M, o :: M', h => by
    show (putIo io (M.set k o) M')[i]? = _
    rw [putIo_ne io _ _ fun z => h (List.mem_cons_of_mem _ z), List.getElem?_set_ne fun z => h (by rw [z]; exact List.mem_cons_self)]
theorem putIo_at {j k : Nat} {o : Option MO} : ∀ (io : List Nat) (M M' : Mem), io.Nodup → io[j]? = some k → M'[j]? = some o → k < M.length → (putIo io M M')[k]? = some o
  | [], _, _, _, h, _, _ => by simp at h
  | _ :: _, _, [], _, _, h, _ => by simp at h
  | k0 :: io, M, o0 :: M', nd, h1, h2, hk => by
    show (putIo io (M.set k0 o0) M')[k]? = _
    rw [List.nodup_cons] at nd
    cases j with
    | zero =>
      simp at h1 h2
      subst h1 h2
      rw [putIo_ne io _ _ nd.1, List.getElem?_set_self hk]
    | succ j =>
      exact putIo_at io _ _ nd.2 (by simpa using h1) (by simpa using h2) (by rw [List.length_set]; exact hk)

/-- the callee's memory -/
structure IoOk (io : List Nat) (M Mc : Mem) : Prop where
  nd : io.Nodup
  len : Mc.length = io.length
  ob : ∀ (j k : Nat), io[j]? = some k → ∃ o, M[k]? = some (some o) ∧ o.pure = true ∧ Mc[j]? = some (some o)
theorem ioOk_nil {M : Mem} : IoOk [] M [] := ⟨List.nodup_nil, rfl, fun j k h => by simp at h⟩
theorem ioOk_one {k : Nat} {M : Mem} {o : MO} (h : M[k]? = some (some o)) (p : o.pure = true) : IoOk [k] M [some o] := ⟨by simp, rfl, fun j k' e => by
  cases j with
  | zero => simp at e; subst e; exact ⟨o, h, p, rfl⟩
  | succ j => simp at e⟩

theorem putIo_live {io : List Nat} {M Mc M' : Mem} (h : IoOk io M Mc) {i : Nat} {o : MO} (e : (putIo io M M')[i]? = some (some o)) : ∃ o', M[i]? = some (some o') := by
  by_cases hi : i ∈ io
  · obtain ⟨j, hj⟩ := List.mem_iff_getElem?.mp hi
    obtain ⟨o0, e0, _, _⟩ := h.ob j i hj
    exact ⟨o0, e0⟩
  · rw [putIo_ne io M M' hi] at e; exact ⟨o, e⟩
/-- a list that was made meanwhile is taken as a new one -/
theorem New.take {K : PySem.W.Frag} {w w2 : Wd} {H H2 : Hp} {M2 : Mem} {p : Addr} {us : List V} {ds : List D} {Q : QD} {Q' : VK} (st : Step K w H w2 H2 M2) (hp : H p = none) (hv : H2 p = some (.lst us)) (hF : w2.F p = none) (hB : w2.B p = none)
    (far : ∀ i o, M2[i]? = some (some o) → w2.ρ i ≠ p) (ru : Reps K w2 us ds) (po : Post K w H Q Q') (n : New Q ds M2) : Q' (.ref p) H2 := by
  rcases n with q | q
  · have le : w2.le { w2 with F := upd w2.F p (.lst us) } := ⟨fun b u e => by show upd w2.F p _ b = _; rw [upd_ne (ne_of_none e hF)]; exact e, Same.refl _, Nat.le_refl _, fun _ _ => rfl⟩
    refine po _ _ { w2 with F := upd w2.F p (.lst us) } H2 M2 ⟨st.le.trans le, st.eB, ⟨fun b u e => ?_, st.hold.bor, st.hold.len, fun i o e => ?_, st.hold.inj, st.hold.all⟩, st.fr, st.dom, fun a e => ?_, st.nr⟩ (.lst upd_same (ru.mono le)) q
    · have e' : upd w2.F p (.lst us) b = some u := e
      by_cases hb : b = p
      · subst hb; rw [upd_same] at e'; rw [hv]; exact e'
      · rw [upd_ne hb] at e'; exact st.hold.sub b u e'
    · obtain ⟨h1, h2, h3⟩ := st.hold.ob i o e
      exact ⟨by show upd w2.F p _ (w2.ρ i) = none; rw [upd_ne (far i o e)]; exact h1, h2, h3.mono le rfl⟩
    · by_cases hb : a = p
      · exact .inr (by rw [hb]; exact hp)
      · have e' : upd w2.F p (.lst us) a ≠ none := e
        rw [upd_ne hb] at e'
        exact st.nf a e'
  · have le := w2.le_add p
    have hl := st.hold.len
    have old : ∀ i u, i < M2.length → (M2 ++ [some (MO.lst ds)])[i]? = some (some u) → M2[i]? = some (some u) ∧ (w2.add p).ρ i = w2.ρ i := fun i u hi e => by
      rw [List.getElem?_append_left hi] at e
      exact ⟨e, le.ρ i (by rw [← hl]; exact hi)⟩
    have new : ∀ i u, ¬ i < M2.length → (M2 ++ [some (MO.lst ds)])[i]? = some (some u) → i = M2.length ∧ u = .lst ds ∧ (w2.add p).ρ i = p := fun i u hi e => by
      have hz : i < (M2 ++ [some (MO.lst ds)]).length := (List.getElem?_eq_some_iff.mp e).1
      have : i = M2.length := by simp at hz; omega
      subst this
      simp at e
      exact ⟨rfl, e.symm, by rw [hl]; exact w2.add_ρ p⟩
    have rp : Rep K (w2.add p) (.ref p) (.mr M2.length) := by
      have z : Rep K (w2.add p) (.ref ((w2.add p).ρ M2.length)) (.mr M2.length) := .mr (by rw [hl]; exact Nat.lt_succ_self _)
      rw [hl, w2.add_ρ p] at z
      rw [hl]
      exact z
    refine po _ _ (w2.add p) H2 _ ⟨st.le.trans le, st.eB, ⟨st.hold.sub, st.hold.bor, by simp [hl, Wd.add], fun i u e => ?_, fun i j u v ei ej e => ?_, fun i hi => ?_⟩, st.fr, st.dom, st.nf, fun j a b => ?_⟩ rp q
    · by_cases hi : i < M2.length
      · obtain ⟨e1, e2⟩ := old i u hi e
        obtain ⟨h1, h2, h3⟩ := st.hold.ob i u e1
        rw [e2]
        exact ⟨h1, h2, h3.mono le rfl⟩
      · obtain ⟨e0, e1, e2⟩ := new i u hi e
        rw [e2, e1]
        exact ⟨hF, hB, us, hv, ru.mono le⟩
    · by_cases hi : i < M2.length
      · obtain ⟨a1, a2⟩ := old i u hi ei
        by_cases hj : j < M2.length
        · obtain ⟨b1, b2⟩ := old j v hj ej
          exact st.hold.inj i j u v a1 b1 (by rw [← a2, ← b2]; exact e)
        · obtain ⟨_, _, b2⟩ := new j v hj ej
          rw [a2, b2] at e
          exact absurd e (far i u a1)
      · obtain ⟨a0, _, a2⟩ := new i u hi ei
        by_cases hj : j < M2.length
        · obtain ⟨b1, b2⟩ := old j v hj ej
          rw [a2, b2] at e
          exact absurd e.symm (far j v b1)
        · obtain ⟨b0, _, _⟩ := new j v hj ej
          rw [a0, b0]
    · by_cases hj : i < w2.n
      · rw [le.ρ i hj]; exact st.hold.all i hj
      · have b' : i < w2.n + 1 := hi
        have : i = w2.n := by omega
        subst this
        rw [w2.add_ρ p, hv]; simp
    · by_cases hj : j < w2.n
      · rw [le.ρ j hj]; exact st.nr j a hj
      · have b' : j < w2.n + 1 := b
        have : j = w2.n := by omega
        subst this
        rw [w2.add_ρ p]
        exact hp

open Classical in
/-- the callee's world -/
noncomputable def subW (io : List Nat) (w : Wd) (H : Hp) (M : Mem) : Wd where
  F := w.F
  B := fun a => if ∃ k o, M[k]? = some (some o) ∧ k ∉ io ∧ w.ρ k = a then H a else w.B a
  ρ := fun j => w.ρ (io.getD j 0)
  n := io.length
section
variable {K : PySem.W.Frag} {w w' : Wd} {H H' : Hp} {M M' Mc : Mem} {io : List Nat}
theorem subW_B_live {k : Nat} {o : MO} (hk : M[k]? = some (some o)) (hn : k ∉ io) : (subW io w H M).B (w.ρ k) = H (w.ρ k) := by
  unfold subW
  simp only
  rw [if_pos ⟨k, o, hk, hn, rfl⟩]
theorem subW_B_not {a : Addr} (h : ∀ k o, M[k]? = some (some o) → k ∉ io → w.ρ k ≠ a) : (subW io w H M).B a = w.B a := by
  unfold subW
  simp only
  rw [if_neg fun ⟨k, o, h1, h2, h3⟩ => h k o h1 h2 h3]
theorem subW_ρ {j k : Nat} (h : io[j]? = some k) : (subW io w H M).ρ j = w.ρ k := by
  show w.ρ (io.getD j 0) = _
  rw [List.getD_eq_getElem?_getD, h]
  rfl
theorem subW_hold (m : HoldM K w H M) (h : IoOk io M Mc) : HoldM K (subW io w H M) H Mc where
  sub := m.sub
  bor := fun a u e => by
    by_cases z : ∃ k o, M[k]? = some (some o) ∧ k ∉ io ∧ w.ρ k = a
    · obtain ⟨k, o, h1, h2, rfl⟩ := z
      rw [subW_B_live h1 h2] at e
      exact e
    · rw [subW_B_not fun k o h1 h2 h3 => z ⟨k, o, h1, h2, h3⟩] at e
      exact m.bor a u e
  len := h.len
  ob := fun j o e => by
    have hj : j < io.length := by rw [← h.len]; exact (List.getElem?_eq_some_iff.mp e).1
    have hk : io[j]? = some io[j] := List.getElem?_eq_getElem hj
    obtain ⟨o', e1, e2, e3⟩ := h.ob j _ hk
    rw [e] at e3
    cases e3
    obtain ⟨h1, h2, h3⟩ := m.ob _ _ e1
    rw [subW_ρ hk]
    refine ⟨h1, ?_, MOk.pur (w := w) (w' := subW io w H M) (fun _ _ z => z) h3 rfl e2⟩
    rw [subW_B_not fun k o2 q1 q2 q3 => q2 (by rw [m.inj _ _ _ _ q1 e1 q3]; exact List.getElem_mem hj)]
    exact h2
  inj := fun i j o u a b t => by
    have hi : i < io.length := by rw [← h.len]; exact (List.getElem?_eq_some_iff.mp a).1
    have hj : j < io.length := by rw [← h.len]; exact (List.getElem?_eq_some_iff.mp b).1
    have ei : io[i]? = some io[i] := List.getElem?_eq_getElem hi
    have ej : io[j]? = some io[j] := List.getElem?_eq_getElem hj
    obtain ⟨o1, e1, _, _⟩ := h.ob i _ ei
    obtain ⟨o2, e2, _, _⟩ := h.ob j _ ej
    rw [subW_ρ ei, subW_ρ ej] at t
    have := m.inj _ _ _ _ e1 e2 t
    exact (List.getElem_inj h.nd).mp this
  all := fun i hi => by
    have hk : io[i]? = some io[i] := List.getElem?_eq_getElem hi
    obtain ⟨o, e1, _, _⟩ := h.ob i _ hk
    rw [subW_ρ hk]
    exact m.all _ (by rw [← m.len]; exact (List.getElem?_eq_some_iff.mp e1).1)
theorem subW_pass (m : HoldM K w H M) (h : IoOk io M Mc) {v : V} {d e : D} (r : Rep K w v d) (p : Pass io M d e) : Rep K (subW io w H M) v e := by
  cases p with
  | pur hp => exact Rep.pur (w := w) (w' := subW io w H M) (fun _ _ z => z) r hp
  | io hj =>
    cases r
    have := Rep.mr (K := K) (w := subW io w H M) (n := _) (show _ < io.length from (List.getElem?_eq_some_iff.mp hj).1)
    rw [subW_ρ hj] at this
    exact this
  | lent hk hp hn =>
    cases r
    obtain ⟨_, _, vs, h1, h2⟩ := m.ob _ _ hk
    exact .bor (by rw [subW_B_live hk hn]; exact h1) (Reps.pur (w := w) (w' := subW io w H M) (fun _ _ z => z) h2 hp)
  | bor hp =>
    cases r with
    | bor h1 h2 =>
      refine .bor ?_ (Reps.pur (w := w) (w' := subW io w H M) (fun _ _ z => z) h2 hp)
      rw [subW_B_not fun k o q1 q2 q3 => by
        obtain ⟨_, z, _⟩ := m.ob k o q1
        rw [q3, h1] at z
        cases z]
      exact h1
theorem subW_passL (m : HoldM K w H M) (h : IoOk io M Mc) : ∀ {vs : List V} {ds es : List D}, Reps K w vs ds → PassL io M ds es → Reps K (subW io w H M) vs es
  | _, _, _, .nil, .nil => .nil
  | _, _, _, .cons r t, .cons p q => .cons (subW_pass m h r p) (subW_passL m h t q)
/-- behind the call -/
theorem subW_back (m : HoldM K w H M) (h : IoOk io M Mc) (st : Step K (subW io w H M) H w' H' M') (hn : w'.n = io.length) (mp : MemPure M') :
    Step K w H { w with F := w'.F } H' (putIo io M M') := by
  have hl : M'.length = io.length := by rw [st.hold.len, hn]
  have le : w.le { w with F := w'.F } := ⟨st.le.F, Same.refl _, Nat.le_refl _, fun _ _ => rfl⟩
  have hρ : ∀ j k, io[j]? = some k → w'.ρ j = w.ρ k := fun j k e => by
    rw [st.le.ρ j (show j < io.length from (List.getElem?_eq_some_iff.mp e).1), subW_ρ e]
  have notF : ∀ i o, M[i]? = some (some o) → w'.F (w.ρ i) = none := fun i o e => by
    obtain ⟨h1, _, h3⟩ := m.ob i o e
    obtain ⟨u, hu⟩ := h3.some
    cases q : w'.F (w.ρ i) with
    | none => rfl
    | some z =>
      rcases st.nf (w.ρ i) (by rw [q]; simp) with y | y
      · exact absurd h1 y
      · rw [hu] at y; cases y
  have ids : ∀ j, j < io.length → ∃ k o, io[j]? = some k ∧ M[k]? = some (some o) := fun j hj => by
    have e := List.getElem?_eq_getElem hj
    obtain ⟨o, e1, _⟩ := h.ob j _ e
    exact ⟨_, o, e, e1⟩
  have frm : ∀ a o, H a = some o → (∀ k o, k ∈ io → M[k]? = some (some o) → w.ρ k ≠ a) → H' a = some o := fun a o e q => st.fr a o e fun j hj => by
    obtain ⟨k, o2, e1, e2⟩ := ids j hj
    rw [subW_ρ e1]
    exact q k o2 (List.mem_of_getElem? e1) e2
  refine ⟨le, rfl, ⟨st.hold.sub, fun b u e => ?_, by rw [putIo_length]; exact m.len, fun i o e => ?_, fun i j o u a b t => ?_, fun i hi => st.dom _ (m.all i hi)⟩, fun a o e q => frm a o e fun k o2 _ e2 => q k (by rw [← m.len]; exact (List.getElem?_eq_some_iff.mp e2).1), st.dom, st.nf, fun j a b => absurd (Nat.lt_of_lt_of_le b a) (Nat.lt_irrefl _)⟩
  · have z : (subW io w H M).B b = some u := by
      rw [subW_B_not fun k o q1 q2 q3 => by
        obtain ⟨_, y, _⟩ := m.ob k o q1
        have e' : w.B b = some u := e
        rw [q3, e'] at y
        cases y]
      exact e
    exact st.hold.bor b u (by rw [st.eB]; exact z)
  · by_cases hi : i ∈ io
    · obtain ⟨j, hj⟩ := List.mem_iff_getElem?.mp hi
      obtain ⟨o0, e0, _, _⟩ := h.ob j i hj
      have hjl : j < M'.length := by rw [hl]; exact (List.getElem?_eq_some_iff.mp hj).1
      have ej : M'[j]? = some (some o) := by
        rw [putIo_at io M M' h.nd hj (List.getElem?_eq_getElem hjl) (List.getElem?_eq_some_iff.mp e0).1] at e
        rw [List.getElem?_eq_getElem hjl]
        exact e
      obtain ⟨h1, _, h3⟩ := st.hold.ob j o ej
      rw [hρ j i hj] at h1 h3
      exact ⟨h1, (m.ob i o0 e0).2.1, MOk.pur (w := w') (w' := { w with F := w'.F }) (fun _ _ z => z) h3 rfl (mp j o ej)⟩
    · rw [putIo_ne io M M' hi] at e
      obtain ⟨h1, h2, h3⟩ := m.ob i o e
      obtain ⟨u, hu⟩ := h3.some
      exact ⟨notF i o e, h2, h3.mono le ((frm _ _ hu fun k o2 hk e2 z => hi (by rw [← m.inj k i _ _ e2 e z]; exact hk)).trans hu.symm)⟩
  · obtain ⟨x, hx⟩ := putIo_live h a
    obtain ⟨y, hy⟩ := putIo_live h b
    exact m.inj i j x y hx hy t
end

/-- a call at the level of data -/
def CallD (S : Spec) (io : List Nat) (W : XD) (sl : Slots) (Q : QD) (ds : List D) (M : Mem) : Prop :=
  ∃ es Mc, PassL io M ds es ∧ IoOk io M Mc ∧ S es Mc (fun d M' => Q d (putIo io M M')) (fun ds M' => New Q ds (putIo io M M')) (fun C fs M' => W C fs sl (putIo io M M'))
theorem call_ok {X : Cx} {S : Spec} {io : List Nat} {W : XD} {sl : Slots} {Q : QD} {ds : List D} {M : Mem} {w : Wd} {H : Hp} {vs : List V} {σ : St} {Q' : VK} (m : HoldM X.K w H M) (s : Sl X.K w σ sl) (r : Reps X.K w vs ds) (p : Post X.K w H Q Q')
    (h : CallD S io W sl Q ds M) : lift X.K S vs H Q' (fun cls d H' => WXof X.K W w H cls d σ H') := by
  obtain ⟨es, Mc, hp, hio, hs⟩ := h
  refine ⟨subW io w H M, es, Mc, _, _, _, subW_hold m hio, subW_passL m hio r hp, hs, ?_, ?_, ?_⟩
  · intro v d w' H' M' st hn rv pd mp q
    have st2 := subW_back m hio st hn mp
    exact p v d _ H' _ st2 (Rep.pur (w := w') (w' := { w with F := w'.F }) (fun _ _ z => z) rv pd) q
  · intro a us es' w' H' M' st hn ha hu hF hρ ru pe mp q
    have st2 := subW_back m hio st hn mp
    have far : ∀ i o, (putIo io M M')[i]? = some (some o) → w.ρ i ≠ a := fun i o e => by
      obtain ⟨o', e'⟩ := putIo_live hio e
      exact m.far ha e'
    exact New.take st2 ha hu hF (m.bor.free ha) far (Reps.pur (w := w') (w' := { w with F := w'.F }) (fun _ _ z => z) ru pe) p q
  · intro C d fs w' H' M' st hn xf pf mp q
    have st2 := subW_back m hio st hn mp
    refine ⟨C, fs, sl, _, _, rfl, st2, s.mono st2.le, ?_, q⟩
    rcases xf with ⟨x1, x2⟩ | ⟨dd, vfs, x1, x2, x3⟩
    · exact .inl ⟨x1, x2⟩
    · exact .inr ⟨dd, vfs, x1, x2, RepF.pur (w := w') (w' := { w with F := w'.F }) (fun _ _ z => z) x3 pf⟩
end Dl
set_option maxHeartbeats 2000000
namespace Dl
open PySem L2
theorem lift_mono {K : PySem.W.Frag} {S : Spec} {vs : List V} {H : Hp} {Q : VK} {E E' : XK} (h : lift K S vs H Q E) (k : ∀ c d H', E c d H' → E' c d H') : lift K S vs H Q E' := by
  obtain ⟨w, ds, M, QR, QL, ER, m, r, s, h1, h2, h3⟩ := h
  exact ⟨w, ds, M, QR, QL, ER, m, r, s, h1, h2, fun C d fs w' H' M' st hn x p mp q => k _ _ _ (h3 C d fs w' H' M' st hn x p mp q)⟩
section
variable {X : Cx} {W : XD} {e a b c tg iter : Expr} {es rest : List Expr} {sl : Slots} {M : Mem} {Q : QD} {pos : Pos} {st : Stmt} {sts : List Stmt} {E : DEnds}
/-! ### blocks -/
theorem ws_nil (q : E.nx sl M) : WS X W [] sl M E := fun w H σ m s tk D l pins sh I => pss_nil.run pins sh σ H D I (l.nx σ sl w H M (Step.refl m) s q)
theorem ws_cons (h : W1 X W st sl M { E with nx := fun sl' M' => WS X W sts sl' M' E }) : WS X W (st :: sts) sl M E := fun w H σ m s tk D l pins sh I =>
  (pss_cons pS pSs).run pins sh σ H D I (h w H σ m s tk { D with nx := cSs X sts D } ⟨fun σ' sl' w' H' M' st s' q => q w' H' σ' st.hold s' (tk.mono st) D (l.mono st), l.rt, l.bk, l.ct⟩)
theorem ws_last (h : W1 X W st sl M E) : WS X W [st] sl M E := fun w H σ m s tk D l pins sh I => (pss_one pS).run pins sh σ H D I (h w H σ m s tk D l)
theorem WS.mono {E' : DEnds} (h : WS X W sts sl M E') (h1 : ∀ sl M, E'.nx sl M → E.nx sl M) (h2 : ∀ d M, E'.rt d M → E.rt d M) (h3 : ∀ sl M, E'.bk sl M → E.bk sl M) (h4 : ∀ sl M, E'.ct sl M → E.ct sl M) : WS X W sts sl M E := fun w H σ m s tk D l =>
  h w H σ m s tk D ⟨fun σ' sl' w' H' M' st s' q => l.nx σ' sl' w' H' M' st s' (h1 _ _ q), fun v d w' H' M' st r q => l.rt v d w' H' M' st r (h2 _ _ q), fun σ' sl' w' H' M' st s' q => l.bk σ' sl' w' H' M' st s' (h3 _ _ q), fun σ' sl' w' H' M' st s' q => l.ct σ' sl' w' H' M' st s' (h4 _ _ q)⟩
/-- the ways of a statement join -/
theorem ws_join (J : Slots → Mem → Prop) (h : W1 X W st sl M { E with nx := J }) (k : ∀ sl' M', J sl' M' → WS X W sts sl' M' E) : WS X W (st :: sts) sl M E := fun w H σ m s tk D l pins sh I =>
  (pss_cons pS pSs).run pins sh σ H D I (h w H σ m s tk { D with nx := cSs X sts D } ⟨fun σ' sl' w' H' M' st s' q => k _ _ q w' H' σ' st.hold s' (tk.mono st) D (l.mono st), l.rt, l.bk, l.ct⟩)
/-- some slots forgotten -/
def Fewer (sl sl' : Slots) : Prop := sl.length = sl'.length ∧ ∀ (i : Nat) (d : D), sl'[i]? = some (some d) → sl[i]? = some (some d)
theorem Sl.fewer {K : PySem.W.Frag} {w : Wd} {σ : St} {sl' : Slots} (h : Sl K w σ sl) (f : Fewer sl sl') : Sl K w σ sl' := ⟨h.len.trans f.1, fun i d e => h.ob i d (f.2 i d e)⟩
theorem WS.fewer {sl' : Slots} (h : WS X W sts sl' M E) (f : Fewer sl sl') : WS X W sts sl M E := fun w H σ m s tk D l => h w H σ m (s.fewer f) tk D l
theorem w1_pass (q : E.nx sl M) : W1 X W (.Pass pos) sl M E := W1.of ps_pass fun w H σ m s tk D l => l.nx σ sl w H M (Step.refl m) s q
theorem w1_break (q : E.bk sl M) : W1 X W (.Break pos) sl M E := W1.of ps_break fun w H σ m s tk D l => l.bk σ sl w H M (Step.refl m) s q
theorem w1_continue (q : E.ct sl M) : W1 X W (.Continue pos) sl M E := W1.of ps_continue fun w H σ m s tk D l => l.ct σ sl w H M (Step.refl m) s q
theorem w1_expr (h : WE X W e sl M fun _ M' => E.nx sl M') (hs : swapsWith e none pos.line X.env = pure false := by rfl) : W1 X W (.Expr e pos) sl M E :=
  W1.of (ps_expr pE hs) fun w H σ m s tk D l => h w H σ m s tk _ fun v d w1 H1 M1 st r q => l.nx σ sl w1 H1 M1 st (s.mono st.le) q
theorem w1_ret (h : WE X W e sl M E.rt) : W1 X W (.Return (some e) pos) sl M E := W1.of (ps_ret pE) fun w H σ m s tk D l => h w H σ m s tk _ l.rt
theorem w1_retN (h : E.rt .non M) : W1 X W (.Return none pos) sl M E := W1.of ps_retN fun w H σ m s tk D l => l.rt .non .non w H M (Step.refl m) .non h
theorem w1_if {p q : List Stmt} (h : WT X W c sl M fun v M1 => Br v (WS X W p sl M1 E) (WS X W q sl M1 E)) : W1 X W (.If c p q pos) sl M E :=
  W1.of (ps_if pT pSs pSs) fun w H σ m s tk D l => h w H σ m s tk _ fun v w1 H1 M1 st q => Br.ite ⟨fun z => q.1 z w1 H1 σ st.hold (s.mono st.le) (tk.mono st) D (l.mono st), fun z => q.2 z w1 H1 σ st.hold (s.mono st.le) (tk.mono st) D (l.mono st)⟩
theorem w1_set (i : Nat) {x : Str} {pos' : Pos} (F : X.N.Nodup) (h : WE X W e sl M fun d M' => E.nx (sl.set i (some d)) M') (hi : X.N[i]? = some x := by rfl) (hx : Loc X.env.scope x := by first | exact Or.inl rfl | exact Or.inr rfl)
    (hs : swapsWith e (some (.Name x pos')) pos.line X.env = pure false := by rfl) (hf : X.fn x = true ∨ X.env.scope.names.lookup x = some .local := by first | exact .inl rfl | exact .inr rfl | assumption) : W1 X W (.Assign [.Name x pos'] e pos) sl M E :=
  W1.of (ps_set F hi hx pE hs hf) fun w H σ m s tk D l => h w H σ m s tk _ fun v d w1 H1 M1 st r q => l.nx _ _ w1 H1 M1 st ((s.mono st.le).set i r) q
/-- a, b = x, y -/
theorem w1_par (i j : Nat) {x y : Str} {px py pt pt2 : Pos} {kt k2} (F : Fine X) (hij : i ≠ j) (h : WA X W [a, b] sl M fun ds M' => ∃ d e, ds = [d, e] ∧ E.nx ((sl.set i (some d)).set j (some e)) M')
    (hi : X.N[i]? = some x := by rfl) (hj : X.N[j]? = some y := by rfl) (hx : X.env.scope.names.lookup x = some .local := by rfl) (hy : X.env.scope.names.lookup y = some .local := by rfl)
    (hw : swappedStores [.Tuple [.Name x px, .Name y py] kt pt] (.Tuple [a, b] k2 pt2) X.env = pure (some [x, y]) := by rfl) (hs : swapsWithSole [.Tuple [.Name x px, .Name y py] kt pt] (.Tuple [a, b] k2 pt2) pos.line X.env = pure false := by rfl) :
    W1 X W (.Assign [.Tuple [.Name x px, .Name y py] kt pt] (.Tuple [a, b] k2 pt2) pos) sl M E :=
  W1.of (ps_par F.calm F.nd hi hj hij hx hy pA hw hs) fun w H σ m s tk D l => h w H σ m s tk _ fun vs ds w1 H1 M1 st r q => by
    obtain ⟨d, e, rfl, q⟩ := q
    obtain ⟨v, u, rfl, rv, ru⟩ := r.two
    exact ⟨v, u, rfl, l.nx _ _ w1 H1 M1 st (((s.mono st.le).set i rv).set j ru) q⟩

/-! ### objects of the memory change -/
/-- o[i] = e, o a list of the memory -/
theorem w1_setitem {o i : Expr} {tpos : Pos} (h : WE X W e sl M fun d M1 => WE X W o sl M1 fun x M2 => WE X W i sl M2 fun y M3 => ∃ k n ds j, x = .mr n ∧ y = .int k ∧ M3[n]? = some (some (.lst ds)) ∧ ixN ds.length k = some j ∧ E.nx sl (M3.set n (some (.lst (ds.set j d)))))
    (hs : swapsWithSole [.Subscript o i tpos] e pos.line X.env = pure false := by rfl) (hw : swappedStores [.Subscript o i tpos] e X.env = pure none := by rfl) (h1 : (assignEach [.Subscript o i tpos] X.env).map (·.2) = [assign (.Subscript o i tpos) X.env] := by rfl)
    (ha : ∀ v, assign (.Subscript o i tpos) X.env v = (do
      let ov ← holding [v] (eval o X.env)
      let iv ← holding [v, ov] (eval i X.env)
      standAt tpos
      holding [v, ov, iv] (setItem ov iv v)
      release [v, ov, iv] []) := by intro _; rfl) : W1 X W (.Assign [.Subscript o i tpos] e pos) sl M E :=
  W1.of (ps_asg pE (pg_sub pE pE set_list ha) hs hw h1) fun w H σ m s tk D l => h w H σ m s tk _ fun v d w1 H1 M1 st1 r1 q1 => q1 w1 H1 σ st1.hold (s.mono st1.le) (tk.mono st1) _ fun vo x w2 H2 M2 st2 r2 q2 =>
    q2 w2 H2 σ st2.hold (s.mono (st1.trans st2).le) (tk.mono (st1.trans st2)) _ fun vi y w3 H3 M3 st3 r3 q3 => by
      obtain ⟨k, n, ds, j, rfl, rfl, hM, hj, q⟩ := q3
      cases r3
      have r2' := r2.mono st3.le
      cases r2'
      obtain ⟨_, _, vs, hv, rv⟩ := st3.hold.ob n _ hM
      have stp := st3.hold.put (o := .lst (vs.set j v)) (ob := .lst (ds.set j d)) hM fun H' e => ⟨_, e, rv.set ((r1.mono st2.le).mono st3.le) j⟩
      exact ⟨_, vs, k, j, rfl, rfl, hv, by rw [rv.length]; exact hj, l.nx σ sl _ _ _ (((st1.trans st2).trans st3).trans stp) (s.mono (((st1.trans st2).trans st3).trans stp).le) q⟩
/-- o.f = e, o an object of the memory -/
theorem w1_setattr {o : Expr} {f : Str} {tpos : Pos} (h : WE X W e sl M fun d M1 => WE X W o sl M1 fun x M2 => ∃ n C fs, x = .mr n ∧ M2[n]? = some (some (.ins C fs)) ∧ Cls X.K C ∧ NoAttr X.K C f ∧ fs.length < 1000 ∧ E.nx sl (M2.set n (some (.ins C (putD f d fs)))))
    (hs : swapsWith e (some (.Attribute o f tpos)) pos.line X.env = pure false := by rfl) : W1 X W (.Assign [.Attribute o f tpos] e pos) sl M E := by
  have put : ∀ {K : PySem.W.Frag} {w : Wd} {f : Str} {v : V} {d : D}, Rep K w v d → ∀ {vs : List (Str × V)} {ds : List (Str × D)}, RepF K w vs ds → RepF K w (putF f v vs) (putD f d ds) := by
    intro K w f v d r vs ds q
    induction vs generalizing ds with
    | nil => cases q; exact .cons r .nil
    | cons p vs ih =>
      cases q with
      | cons h t =>
        rename_i g u e ds
        show RepF K w (if g = f then (g, v) :: vs else (g, u) :: putF f v vs) (if g = f then (f, d) :: ds else (g, e) :: putD f d ds)
        by_cases z : g = f
        · rw [if_pos z, if_pos z, z]; exact .cons r t
        · rw [if_neg z, if_neg z]; exact .cons h (ih t)
  exact W1.of (ps_fld pE pE hs) fun w H σ m s tk D l => h w H σ m s tk _ fun v d w1 H1 M1 st1 r1 q1 => q1 w1 H1 σ st1.hold (s.mono st1.le) (tk.mono st1) _ fun vo x w2 H2 M2 st2 r2 q2 => by
    obtain ⟨n, C, fs, rfl, hM, hc, hn, hl, q⟩ := q2
    cases r2
    obtain ⟨_, _, dx, vs, hv, rv⟩ := st2.hold.ob n _ hM
    have stp := st2.hold.put (o := .ins C dx (putF f v vs)) (ob := .ins C (putD f d fs)) hM fun H' e => ⟨_, _, e, put (r1.mono st2.le) rv⟩
    exact ⟨_, C, dx, vs, rfl, hv, hc, hn, by rw [rv.length]; exact hl, l.nx σ sl _ _ _ ((st1.trans st2).trans stp) (s.mono ((st1.trans st2).trans stp).le) q⟩
section
variable {o : Expr} {name : Str} {apos cpos : Pos}
/-- a method of a list of the memory, on values -/
theorem we_mm {id : String} {r : V → List V → Hp → VK → Prop} (slot : Slot "list" name id) (hty : typeOf (.builtin id) = pure (.type "method_descriptor")) (hm : MtR X id r)
    (h : WE X W o sl M fun x M1 => (∃ ds, lsOf M1 x = some ds) ∧ WA X W (e :: es) sl M1 fun ds M2 => ∀ w H v vs, HoldM X.K w H M2 → Rep X.K w v x → Reps X.K w vs ds → ∀ Q', Post X.K w H Q Q' → r v vs H Q')
    (hbase : attributeBase o name X.env (eval o X.env) = eval o X.env := by rfl)
    (hfew : ((backTo cpos (starEach (e :: es) X.env)).all (fun x => !x.1) && (backToKw cpos (keywordEach [] X.env)).all (fun x => x.1.isSome)
      && decide ((e :: es).length + ([] : List Keyword).length + (if ([] : List Keyword).isEmpty then 0 else 1) < 30)) = true := by rfl)
    (hline : (apos.endLine == cpos.line) = true := by rfl) (hs : starEach (e :: es) X.env = (false, eval e X.env) :: starEach es X.env := by rfl) (hplain : (backTo cpos (starEach es X.env)).any (·.1) = false := by rfl) :
    WE X W (.Call (.Attribute o name apos) (e :: es) [] cpos) sl M Q :=
  WE.of (pe_bm PySem.F.plainAttrs_list slot hty hm pE pA hbase hfew hline hs hplain) fun w H σ m s tk Q' p => h w H σ m s tk _ fun v x w1 H1 M1 st1 r1 ⟨⟨ds, hl⟩, q1⟩ => by
    obtain ⟨a, vs, e1, hv, rv⟩ := ls_at st1.hold r1 hl
    subst e1
    exact ⟨.inl ⟨rfl, vs, .inl (.inl hv)⟩, q1 w1 H1 σ st1.hold (s.mono st1.le) (tk.mono st1) _ fun us ds w2 H2 M2 st2 r2 q2 => q2 w2 H2 _ us st2.hold (r1.mono st2.le) r2 Q' ((p.mono st1).mono st2)⟩
theorem we_mm0 {id : String} {r : V → List V → Hp → VK → Prop} (slot : Slot "list" name id) (hty : typeOf (.builtin id) = pure (.type "method_descriptor")) (hm : MtR X id r)
    (h : WE X W o sl M fun x M1 => (∃ ds, lsOf M1 x = some ds) ∧ ∀ w H v, HoldM X.K w H M1 → Rep X.K w v x → ∀ Q', Post X.K w H Q Q' → r v [] H Q')
    (hbase : attributeBase o name X.env (eval o X.env) = eval o X.env := by rfl) (hline : (apos.endLine == cpos.line) = true := by rfl) : WE X W (.Call (.Attribute o name apos) [] [] cpos) sl M Q :=
  WE.of (pe_bm0 PySem.F.plainAttrs_list slot hty hm pE hbase hline) fun w H σ m s tk Q' p => h w H σ m s tk _ fun v x w1 H1 M1 st1 r1 ⟨⟨ds, hl⟩, q1⟩ => by
    obtain ⟨a, vs, e1, hv, rv⟩ := ls_at st1.hold r1 hl
    subst e1
    exact ⟨.inl ⟨rfl, vs, .inl (.inl hv)⟩, q1 w1 H1 _ st1.hold r1 Q' (p.mono st1)⟩
/-- xs.append(e) -/
theorem we_append (h : WE X W o sl M fun x M1 => ∃ n ds0, x = .mr n ∧ M1[n]? = some (some (.lst ds0)) ∧ WE X W e sl M1 fun d M2 => ∃ ds, M2[n]? = some (some (.lst ds)) ∧ ds.length < sizeLine ∧ Q .non (M2.set n (some (.lst (ds ++ [d])))))
    (hbase : attributeBase o "append" X.env (eval o X.env) = eval o X.env := by rfl)
    (hfew : ((backTo cpos (starEach [e] X.env)).all (fun x => !x.1) && (backToKw cpos (keywordEach [] X.env)).all (fun x => x.1.isSome) && decide ([e].length + ([] : List Keyword).length + (if ([] : List Keyword).isEmpty then 0 else 1) < 30)) = true := by rfl)
    (hline : (apos.endLine == cpos.line) = true := by rfl) (hs : starEach [e] X.env = (false, eval e X.env) :: starEach [] X.env := by rfl) : WE X W (.Call (.Attribute o "append" apos) [e] [] cpos) sl M Q :=
  we_mm PySem.F.slot_list_append PySem.F.type_list_append mt_append (h.mono fun x M1 ⟨n, ds0, e0, h0, q⟩ => by
    subst e0
    refine ⟨⟨ds0, by show (match M1[n]? with | some (some (.lst ds)) => some ds | _ => none) = _; rw [h0]⟩, wa_cons (q.mono fun d M2 ⟨ds, h1, hl, q⟩ => wa_nil fun w H v vs m rv rs Q' p => ?_) hs⟩
    obtain ⟨u, rfl, ru⟩ := rs.one
    cases rv
    obtain ⟨_, _, us, hu, rus⟩ := m.ob n _ h1
    have stp := m.put (o := .lst (us ++ [u])) (ob := .lst (ds ++ [d])) h1 fun H' e => ⟨_, e, rus.append (.cons ru .nil)⟩
    exact ⟨_, us, u, rfl, rfl, hu, by rw [rus.length]; exact hl, p _ _ _ _ _ stp .non q⟩) hbase hfew hline hs
/-- xs.pop(e) -/
theorem we_popAt (h : WE X W o sl M fun x M1 => ∃ n ds0, x = .mr n ∧ M1[n]? = some (some (.lst ds0)) ∧ WE X W e sl M1 fun d M2 => ∃ i ds j y, d = .int i ∧ M2[n]? = some (some (.lst ds)) ∧ ds.length < 2 ^ 62 ∧ ixN ds.length i = some j ∧ ds[j]? = some y ∧ Q y (M2.set n (some (.lst (ds.eraseIdx j)))))
    (hbase : attributeBase o "pop" X.env (eval o X.env) = eval o X.env := by rfl)
    (hfew : ((backTo cpos (starEach [e] X.env)).all (fun x => !x.1) && (backToKw cpos (keywordEach [] X.env)).all (fun x => x.1.isSome) && decide ([e].length + ([] : List Keyword).length + (if ([] : List Keyword).isEmpty then 0 else 1) < 30)) = true := by rfl)
    (hline : (apos.endLine == cpos.line) = true := by rfl) (hs : starEach [e] X.env = (false, eval e X.env) :: starEach [] X.env := by rfl) : WE X W (.Call (.Attribute o "pop" apos) [e] [] cpos) sl M Q :=
  we_mm PySem.F.slot_list_pop PySem.F.type_list_pop mt_popAt (h.mono fun x M1 ⟨n, ds0, e0, h0, q⟩ => by
    subst e0
    refine ⟨⟨ds0, by show (match M1[n]? with | some (some (.lst ds)) => some ds | _ => none) = _; rw [h0]⟩, wa_cons (q.mono fun d M2 ⟨i, ds, j, y, e1, h1, hb, hj, hy, q⟩ => wa_nil fun w H v vs m rv rs Q' p => ?_) hs⟩
    subst e1
    obtain ⟨u, rfl, ru⟩ := rs.one
    cases ru
    cases rv
    obtain ⟨_, _, us, hu, rus⟩ := m.ob n _ h1
    obtain ⟨k1, k2, k3, k4⟩ := ixN_seq hj
    obtain ⟨z, hz, rz⟩ := rus.get hy
    have stp := m.put (o := .lst (us.eraseIdx j)) (ob := .lst (ds.eraseIdx j)) h1 fun H' e => ⟨_, e, rus.eraseIdx j⟩
    exact ⟨_, us, i, j, z, rfl, rfl, hu, by omega, by omega, by rw [rus.length]; exact k1, hz, p _ _ _ _ _ stp (rz.mono stp.le) q⟩) hbase hfew hline hs
/-- xs.pop() -/
theorem we_pop (h : WE X W o sl M fun x M1 => ∃ n ds y, x = .mr n ∧ M1[n]? = some (some (.lst ds)) ∧ ds[ds.length - 1]? = some y ∧ Q y (M1.set n (some (.lst ds.dropLast))))
    (hbase : attributeBase o "pop" X.env (eval o X.env) = eval o X.env := by rfl) (hline : (apos.endLine == cpos.line) = true := by rfl) : WE X W (.Call (.Attribute o "pop" apos) [] [] cpos) sl M Q :=
  we_mm0 PySem.F.slot_list_pop PySem.F.type_list_pop mt_pop (h.mono fun x M1 ⟨n, ds, y, e0, h1, hy, q⟩ => by
    subst e0
    refine ⟨⟨ds, by show (match M1[n]? with | some (some (.lst ds)) => some ds | _ => none) = _; rw [h1]⟩, fun w H v m rv Q' p => ?_⟩
    cases rv
    obtain ⟨_, _, us, hu, rus⟩ := m.ob n _ h1
    obtain ⟨z, hz, rz⟩ := rus.get hy
    have stp := m.put (o := .lst us.dropLast) (ob := .lst ds.dropLast) h1 fun H' e => ⟨_, e, rus.dropLast⟩
    exact ⟨_, us, z, rfl, rfl, hu, by rw [rus.length]; exact hz, p _ _ _ _ _ stp (rz.mono stp.le) q⟩) hbase hline
/-- xs.reverse(), xs.clear() -/
theorem we_reverse (h : WE X W o sl M fun x M1 => ∃ n ds, x = .mr n ∧ M1[n]? = some (some (.lst ds)) ∧ Q .non (M1.set n (some (.lst ds.reverse))))
    (hbase : attributeBase o "reverse" X.env (eval o X.env) = eval o X.env := by rfl) (hline : (apos.endLine == cpos.line) = true := by rfl) : WE X W (.Call (.Attribute o "reverse" apos) [] [] cpos) sl M Q :=
  we_mm0 PySem.F.slot_list_reverse PySem.F.type_list_reverse mt_reverse (h.mono fun x M1 ⟨n, ds, e0, h1, q⟩ => by
    subst e0
    refine ⟨⟨ds, by show (match M1[n]? with | some (some (.lst ds)) => some ds | _ => none) = _; rw [h1]⟩, fun w H v m rv Q' p => ?_⟩
    cases rv
    obtain ⟨_, _, us, hu, rus⟩ := m.ob n _ h1
    have stp := m.put (o := .lst us.reverse) (ob := .lst ds.reverse) h1 fun H' e => ⟨_, e, rus.reverse⟩
    exact ⟨_, us, rfl, rfl, hu, p _ _ _ _ _ stp .non q⟩) hbase hline
theorem we_clear (h : WE X W o sl M fun x M1 => ∃ n ds, x = .mr n ∧ M1[n]? = some (some (.lst ds)) ∧ Q .non (M1.set n (some (.lst []))))
    (hbase : attributeBase o "clear" X.env (eval o X.env) = eval o X.env := by rfl) (hline : (apos.endLine == cpos.line) = true := by rfl) : WE X W (.Call (.Attribute o "clear" apos) [] [] cpos) sl M Q :=
  we_mm0 PySem.F.slot_list_clear PySem.F.type_list_clear mt_clear (h.mono fun x M1 ⟨n, ds, e0, h1, q⟩ => by
    subst e0
    refine ⟨⟨ds, by show (match M1[n]? with | some (some (.lst ds)) => some ds | _ => none) = _; rw [h1]⟩, fun w H v m rv Q' p => ?_⟩
    cases rv
    obtain ⟨_, _, us, hu, rus⟩ := m.ob n _ h1
    have stp := m.put (o := .lst []) (ob := .lst []) h1 fun H' e => ⟨_, e, .nil⟩
    exact ⟨_, us, rfl, rfl, hu, p _ _ _ _ _ stp .non q⟩) hbase hline
end

/-! ### calls of defs -/
section
variable {k : Nat} {f : Addr} {fd : FuncData} {ps : List Str} {S : Spec} {dvs : List V} {ds0 : List Value} {dd : List D} {x : Str} {p : Pos}
/-- f(e, ..): dd the data of the defaults that fill up -/
theorem we_call (io : List Nat) (F : FnOk X.prog X.w X.K X.mg X.base (L2.CX X.prog X.w) k f fd ps (lift X.K S)) (hr : Room k X.A) (hm : X.mg x = some (.ref f)) (hk : PySem.W.keepIn X.K (.ref f) = true) (hb : Binds X.K fd ps ds0) (hd : Vals dvs ds0) (hdd : ∀ w, Reps X.K w dvs dd)
    (h : WA X W (e :: es) sl M fun ds M1 => CallD S io W sl Q (ds ++ dd) M1)
    (hg : Gl X x := by rfl) (hdb : (x == ("__debug__" : Str)) = false := by decide) (he : starEach (e :: es) X.env = (false, eval e X.env) :: starEach es X.env := by rfl) (hpl : (backTo pos (starEach es X.env)).any (·.1) = false := by rfl) :
    WE X W (.Call (.Name x p) (e :: es) [] pos) sl M Q := fun w H σ m s tk Q' po pins sh I =>
  (pe_callSD (E := fun σ cls d H' => WXof X.K W w H cls d σ H') F hr hg hm hk hb hd (fun σ => passAt tk σ) pA hdb he hpl).run pins sh σ H Q' I
    (h w H σ m s tk _ fun vs ds w1 H1 M1 st r q => by
      have c := call_ok (σ := σ) st.hold (s.mono st.le) (r.append (hdd w1)) (po.mono st) q
      refine lift_mono c fun cls d H' z => ?_
      obtain ⟨C, fs, sl', M', w', e, st', z⟩ := z
      exact ⟨C, fs, sl', M', w', e, st.trans st', z⟩)
end
end
end Dl
set_option maxHeartbeats 2000000
namespace Dl
open PySem L2
/-! ### what is walked -/
def cI (X : Cx) (tg iter : Expr) : TI := fun σ H R => ∀ pins s, Inv X pins σ H s → wpAny (model X.prog X.w) X.A (eval iter X.env) (fun v s1 => wpAny (model X.prog X.w) X.A (pyIter v) (PIE X pins σ tg R) X.xe s1) X.xe s
theorem pI {X : Cx} {tg iter : Expr} : PI X tg iter (cI X tg iter) := ⟨fun pins s σ H R I h => h pins s I⟩
/-- the walk J gives the items ds, while the memory is as G tells -/
def Walks (K : PySem.W.Frag) (w : Wd) (J : It) (ds : List D) (G : Mem → Prop) : Prop := ∀ w1 H1 M1, w.le w1 → HoldM K w1 H1 M1 → G M1 → ∀ i : Nat,
  (i < ds.length → J.go i H1 ∧ ∀ x H', J.yld i H1 x H' → ∃ w2, Step K w1 H1 w2 H' M1 ∧ ∃ d, ds[i]? = some d ∧ Rep K w2 x d) ∧ (ds.length ≤ i → J.stop i H1)
abbrev RI := List D → (Mem → Prop) → Mem → Prop
def WI (X : Cx) (W : XD) (tg iter : Expr) (sl : Slots) (M : Mem) (R : RI) : Prop :=
  ∀ w H σ, HoldM X.K w H M → Sl X.K w σ sl → Tk X W w H → ∀ R' : It → Hp → Prop, (∀ J ds G w' H' M', Step X.K w H w' H' M' → Walks X.K w' J ds G → R ds G M' → R' J H') → cI X tg iter σ H R'
section
variable {X : Cx} {W : XD} {e a b c tg iter : Expr} {es rest : List Expr} {sl : Slots} {M : Mem} {R : RI} {pos : Pos}
theorem WI.of {wi : TI} (h : PI X tg iter wi) (k : ∀ w H σ, HoldM X.K w H M → Sl X.K w σ sl → Tk X W w H → ∀ R' : It → Hp → Prop, (∀ J ds G w' H' M', Step X.K w H w' H' M' → Walks X.K w' J ds G → R ds G M' → R' J H') → wi σ H R') : WI X W tg iter sl M R :=
  fun w H σ m s tk R' p pins st I => h.run pins st σ H R' I (k w H σ m s tk R' p)
theorem walks_list {K : PySem.W.Frag} {w : Wd} {a : Addr} {ds : List D} {G : Mem → Prop} (h : ∀ w1 H1 M1, w.le w1 → HoldM K w1 H1 M1 → G M1 → ∃ vs, SqL K H1 a vs ∧ Reps K w1 vs ds) : Walks K w (Itl K a) ds G := fun w1 H1 M1 l m g i => by
  obtain ⟨vs, h1, r⟩ := h w1 H1 M1 l m g
  refine ⟨fun hi => ⟨⟨vs, vs[i]'(by rw [r.length]; exact hi), h1, List.getElem?_eq_getElem _⟩, fun x H' ⟨e, y⟩ => ?_⟩, fun hi => ⟨vs, h1, by rw [r.length]; exact hi⟩⟩
  subst e
  obtain ⟨d, hd, rd⟩ := r.get' (y vs h1)
  exact ⟨w1, Step.refl m, d, hd, rd⟩
theorem walks_tup {K : PySem.W.Frag} {w : Wd} {a : Addr} {ds : List D} {G : Mem → Prop} (h : ∀ w1 H1 M1, w.le w1 → HoldM K w1 H1 M1 → G M1 → ∃ vs, SqT K H1 a vs ∧ Reps K w1 vs ds) : Walks K w (Itt K a) ds G := fun w1 H1 M1 l m g i => by
  obtain ⟨vs, h1, r⟩ := h w1 H1 M1 l m g
  refine ⟨fun hi => ⟨⟨vs, vs[i]'(by rw [r.length]; exact hi), h1, List.getElem?_eq_getElem _⟩, fun x H' ⟨e, y⟩ => ?_⟩, fun hi => ⟨vs, h1, by rw [r.length]; exact hi⟩⟩
  subst e
  obtain ⟨d, hd, rd⟩ := r.get' (y vs h1)
  exact ⟨w1, Step.refl m, d, hd, rd⟩
/-- what must stay so that a list stays as it is -/
def Keep (d : D) (ds : List D) : Mem → Prop := match d with
  | .mr n => fun M => M[n]? = some (some (.lst ds))
  | _ => fun _ => True
theorem ls_keep {K : PySem.W.Frag} {w : Wd} {H : Hp} {d : D} {ds : List D} {v : V} (m : HoldM K w H M) (r : Rep K w v d) (h : lsOf M d = some ds) :
    ∃ a, v = .ref a ∧ (∃ vs, SqL K H a vs) ∧ ∀ w1 H1 M1, w.le w1 → HoldM K w1 H1 M1 → Keep d ds M1 → ∃ vs, SqL K H1 a vs ∧ Reps K w1 vs ds := by
  cases r with
  | lst h1 r1 => cases h; exact ⟨_, rfl, ⟨_, .inl (.inl (m.sub _ _ h1))⟩, fun w1 H1 M1 l m1 _ => ⟨_, .inl (.inl (m1.sub _ _ (l.F _ _ h1))), r1.mono l⟩⟩
  | bor h1 r1 => cases h; exact ⟨_, rfl, ⟨_, .inl (.inl (m.bor _ _ h1))⟩, fun w1 H1 M1 l m1 _ => ⟨_, .inl (.inl (m1.bor _ _ (l.B _ _ h1))), r1.mono l⟩⟩
  | mr hn =>
    rename_i n
    have e : M[n]? = some (some (.lst ds)) := by
      unfold lsOf at h
      simp only at h
      split at h
      · rename_i es e; cases h; exact e
      · cases h
    obtain ⟨_, _, vs, hv, rv⟩ := m.ob n _ e
    refine ⟨_, rfl, ⟨vs, .inl (.inl hv)⟩, fun w1 H1 M1 l m1 k => ?_⟩
    obtain ⟨_, _, vs1, hv1, rv1⟩ := m1.ob n _ k
    rw [l.ρ n hn] at hv1
    exact ⟨vs1, .inl (.inl hv1), rv1⟩
  | _ => cases h
/-- for x in xs, a list -/
theorem wi_list (h : WE X W e sl M fun d M1 => ∃ ds, lsOf M1 d = some ds ∧ R ds (Keep d ds) M1) : WI X W tg e sl M R :=
  WI.of (pi_list pE) fun w H σ m s tk R' p => h w H σ m s tk _ fun v d w1 H1 M1 st r ⟨ds, hl, q⟩ => by
    obtain ⟨a, rfl, hs, k⟩ := ls_keep st.hold r hl
    exact ⟨a, rfl, hs, p _ ds _ w1 H1 M1 st (walks_list k) q⟩
/-- for x in t, a tuple -/
theorem wi_tup (h : WE X W e sl M fun d M1 => ∃ ds, tpP d = some ds ∧ R ds (fun _ => True) M1) : WI X W tg e sl M R :=
  WI.of (pi_tup pE) fun w H σ m s tk R' p => h w H σ m s tk _ fun v d w1 H1 M1 st r ⟨ds, hl, q⟩ => by
    obtain ⟨a, vs, rfl, h1, r1⟩ := tp_at r hl
    exact ⟨_, rfl, ⟨_, sqT_mono st.hold.sub h1⟩, p _ ds _ w1 H1 M1 st (walks_tup fun w2 H2 M2 l m2 _ => ⟨_, sqT_mono m2.sub (sqT_mono l.F h1), r1.mono l⟩) q⟩
theorem walks_rg {K : PySem.W.Frag} {w : Wd} {lo : Int} {n : Nat} : Walks K w (Itr lo n) ((List.range n).map fun i => D.int (lo + (i : Nat))) fun _ => True := fun w1 H1 M1 l m g i => by
  refine ⟨fun hi => ⟨show i < n by simpa using hi, fun x H' ⟨e, y⟩ => ?_⟩, fun hi => show n ≤ i by simpa using hi⟩
  subst e y
  exact ⟨w1, Step.refl m, .int (lo + i), by simp at hi; simp [hi], .int _⟩
theorem wa_one {P : D → Mem → Prop} (h : WE X W e sl M P) (hs : starEach [e] X.env = [(false, eval e X.env)] := by rfl) : WA X W [e] sl M fun ds M1 => ∃ d, ds = [d] ∧ P d M1 := wa_cons (h.mono fun d M1 q => wa_nil ⟨d, rfl, q⟩) hs
theorem wa_two {P : D → D → Mem → Prop} (h : WE X W a sl M fun d M1 => WE X W b sl M1 fun d' M2 => P d d' M2) (hs : starEach [a, b] X.env = [(false, eval a X.env), (false, eval b X.env)] := by rfl) (hs2 : starEach [b] X.env = [(false, eval b X.env)] := by rfl) :
    WA X W [a, b] sl M fun ds M1 => ∃ d d', ds = [d, d'] ∧ P d d' M1 := wa_cons (h.mono fun d M1 q => wa_cons (q.mono fun d' M2 q => wa_nil ⟨d, d', rfl, q⟩) hs2) (by rw [hs, hs2])
/-- for i in range(e), range(a, b) -/
theorem wi_rg1 {p : Pos} (hm : X.mg "range" = none) (h : WE X W e sl M fun d M1 => ∃ n : Int, d = .int n ∧ (-(2 ^ 62) ≤ n ∧ n < 2 ^ 62) ∧ R (rgD 0 n) (fun _ => True) M1) (hg : Gl X "range" := by rfl) (hs : starEach [e] X.env = [(false, eval e X.env)] := by rfl) : WI X W tg (.Call (.Name "range" p) [e] [] pos) sl M R :=
  WI.of (pi_range1 hg hm pA hs) fun w H σ m s tk R' p => (wa_one h hs) w H σ m s tk _ fun vs ds w1 H1 M1 st r q => by
    obtain ⟨d, rfl, n, rfl, hb, q⟩ := q
    obtain ⟨v, rfl, rv⟩ := r.one
    cases rv
    refine ⟨n, rfl, hb.1, hb.2, p _ _ _ w1 H1 M1 st ?_ q⟩
    have := walks_rg (K := X.K) (w := w1) (lo := 0) (n := n.toNat)
    unfold rgD
    rw [Int.sub_zero]
    exact this
theorem wi_rg2 {p : Pos} (hm : X.mg "range" = none) (h : WE X W a sl M fun d M1 => WE X W b sl M1 fun d' M2 => ∃ i n : Int, d = .int i ∧ d' = .int n ∧ (-(2 ^ 62) ≤ i ∧ i < 2 ^ 62 ∧ -(2 ^ 62) ≤ n ∧ n < 2 ^ 62) ∧ R (rgD i n) (fun _ => True) M2)
    (hg : Gl X "range" := by rfl) (hs : starEach [a, b] X.env = [(false, eval a X.env), (false, eval b X.env)] := by rfl) (hs2 : starEach [b] X.env = [(false, eval b X.env)] := by rfl) : WI X W tg (.Call (.Name "range" p) [a, b] [] pos) sl M R :=
  WI.of (pi_range2 hg hm pA hs hs2) fun w H σ m s tk R' p => (wa_two h hs hs2) w H σ m s tk _ fun vs ds w1 H1 M1 st r q => by
    obtain ⟨d, d', rfl, i, n, rfl, rfl, hb, q⟩ := q
    obtain ⟨v, u, rfl, rv, ru⟩ := r.two
    cases rv
    cases ru
    exact ⟨i, n, rfl, hb, p _ _ _ w1 H1 M1 st (walks_rg (lo := i) (n := (n - i).toNat)) q⟩
/-- for i, x in enumerate(xs), a list -/
theorem wi_enum {p tpos : Pos} {elts : List Expr} {kk : Nat} (hm : X.mg "enumerate" = none) (h : WE X W e sl M fun d M1 => ∃ ds, lsOf M1 d = some ds ∧ R (ds.zipIdx.map fun x => D.tup [.int (x.2 : Nat), x.1]) (Keep d ds) M1) (hg : Gl X "enumerate" := by rfl) (hs : starEach [e] X.env = [(false, eval e X.env)] := by rfl) :
    WI X W (.Tuple elts kk tpos) (.Call (.Name "enumerate" p) [e] [] pos) sl M R :=
  WI.of (pi_enum hg hm pA hs) fun w H σ m s tk R' p => (wa_one h hs) w H σ m s tk _ fun vs ds' w1 H1 M1 st r q => by
    obtain ⟨d, rfl, ds, hl, q⟩ := q
    obtain ⟨v, rfl, rv⟩ := r.one
    obtain ⟨a, rfl, ⟨xs, hs⟩, k⟩ := ls_keep st.hold rv hl
    refine ⟨a, xs, rfl, hs, p _ _ _ w1 H1 M1 st ?_ q⟩
    intro w2 H2 M2 l m2 g i
    obtain ⟨vs, h1, r⟩ := k w2 H2 M2 l m2 g
    refine ⟨fun hi => ⟨⟨vs, vs[i]'(by rw [r.length]; simpa using hi), h1, List.getElem?_eq_getElem _⟩, fun x H' ⟨T, y, e1, hT, e2, hy⟩ => ?_⟩, fun hi => ⟨vs, h1, by rw [r.length]; simpa using hi⟩⟩
    subst e1 e2
    obtain ⟨d', hd, rd⟩ := r.get' (hy vs h1)
    have st2 := m2.newF (o := .tup [.int (i : Nat), y]) hT
    exact ⟨_, st2, _, by rw [List.getElem?_map, List.getElem?_zipIdx, hd]; simp, .tup (.inl (.inl upd_same)) (.cons (.int _) (.cons (rd.mono st2.le) .nil))⟩
end

/-! ### targets -/
def cG (X : Cx) (tg : Expr) : TG := fun v σ H Q => ∀ pins s u, Inv X pins σ H s → RelV v u → wpAny (model X.prog X.w) X.A (assign tg X.env u) (fun _ s' => ∃ σ' H', Inv X pins σ' H' s' ∧ Q σ' H') X.xe s
theorem pG {X : Cx} {tg : Expr} : PG X tg (cG X tg) := ⟨fun pins s σ H v u Q I r h => h pins s u I r⟩
def WG (X : Cx) (tg : Expr) (d : D) (sl : Slots) (M : Mem) (Q : Slots → Mem → Prop) : Prop := ∀ w H σ v, HoldM X.K w H M → Sl X.K w σ sl → Rep X.K w v d → ∀ Q' : St → Hp → Prop, LkS X.K w H Q Q' → cG X tg v σ H Q'
section
variable {X : Cx} {W : XD} {e tg iter : Expr} {ts : List Expr} {sl : Slots} {M : Mem} {Q : Slots → Mem → Prop} {pos : Pos} {d : D} {ds : List D}
theorem wg_name (i : Nat) {x : Str} (nd : X.N.Nodup) (q : Q (sl.set i (some d)) M) (hi : X.N[i]? = some x := by rfl) (hx : Loc X.env.scope x := by first | exact Or.inl rfl | exact Or.inr rfl) (hf : X.fn x = true ∨ X.env.scope.names.lookup x = some .local := by first | exact .inl rfl | exact .inr rfl | assumption) : WG X (.Name x pos) d sl M Q :=
  fun w H σ v m s r Q' l pins sh u I ru => (pg_name nd hi hx hf).run pins sh σ H v u Q' I ru (l _ _ w H M (Step.refl m) (s.set i r) q)
def cGs (X : Cx) (ts : List Expr) : TGs := fun vs σ H Q => ∀ pins s us, Inv X pins σ H s → Vals vs us → wpAny (model X.prog X.w) X.A (assignInOrder ((assignEach ts X.env).map (·.2)) us) (fun _ s' => ∃ σ' H', Inv X pins σ' H' s' ∧ Q σ' H') X.xe s
theorem pGs : PGs X ts (cGs X ts) := ⟨fun pins s σ H vs us Q I r h => h pins s us I r⟩
def WGs (X : Cx) (ts : List Expr) (ds : List D) (sl : Slots) (M : Mem) (Q : Slots → Mem → Prop) : Prop := ∀ w H σ vs, HoldM X.K w H M → Sl X.K w σ sl → Reps X.K w vs ds → ∀ Q' : St → Hp → Prop, LkS X.K w H Q Q' → cGs X ts vs σ H Q'
theorem wgs_nil (q : Q sl M) : WGs X [] [] sl M Q := fun w H σ vs m s r Q' l pins sh us I ru => by
  cases r
  exact pgs_nil.run pins sh σ H [] us Q' I ru ⟨rfl, l σ sl w H M (Step.refl m) s q⟩
theorem wgs_cons (h : WG X tg d sl M fun sl' M' => WGs X ts ds sl' M' Q) (ha : (assignEach (tg :: ts) X.env).map (·.2) = assign tg X.env :: (assignEach ts X.env).map (·.2) := by rfl) : WGs X (tg :: ts) (d :: ds) sl M Q := fun w H σ vs m s r Q' l pins sh us I ru => by
  cases r with
  | cons r t =>
    rename_i v vs
    refine (pgs_cons pG pGs ha).run pins sh σ H (v :: vs) us Q' I ru ⟨v, vs, rfl, h w H σ v m s r _ fun σ' sl' w' H' M' st s' q => ?_⟩
    exact q w' H' σ' vs st.hold s' (t.mono st.le) Q' (l.mono st)
theorem wg_tup {kk : Nat} (hc : X.calm = true) (hd : tpP d = some ds) (h : WGs X ts ds sl M Q) (hn : (assignEach ts X.env).length = ds.length := by rfl) (hst : (assignEach ts X.env).findIdx? (·.1) = none := by rfl) : WG X (.Tuple ts kk pos) d sl M Q :=
  fun w H σ v m s r Q' l pins sh u I ru => by
    obtain ⟨a, vs, rfl, h1, r1⟩ := tp_at r hd
    exact (pg_tup (n := ds.length) hc pGs hn hst).run pins sh σ H _ u Q' I ru ⟨_, _, rfl, sqT_mono m.sub h1, r1.length, h w H σ _ m s r1 Q' l⟩
end

section
variable {X : Cx} {W : XD} {e c tg iter : Expr} {ts : List Expr} {sl : Slots} {M : Mem} {pos : Pos} {E : DEnds} {body : List Stmt}
/-! ### for, while -/
theorem w1_for (F : Fine X) (h : WI X W tg iter sl M fun ds G M1 => ∃ Iv : Nat → Slots → Mem → Prop, Iv 0 sl M1 ∧ (∀ i sl M, i ≤ ds.length → Iv i sl M → G M) ∧
      (∀ i d sl M, ds[i]? = some d → Iv i sl M → WG X tg d sl M fun sl' M' => WS X W body sl' M' { nx := Iv (i + 1), ct := Iv (i + 1), bk := E.nx, rt := E.rt }) ∧ ∀ sl M, Iv ds.length sl M → E.nx sl M)
    (hs : ∀ x, foldedSetIterable iter X.env x = pure x := by intro _; rfl) : W1 X W (.For tg iter body [] pos) sl M E :=
  W1.of (ps_for F.po F.calm pI pG pSs hs) fun w H σ m s tk D l => h w H σ m s tk _ fun J ds G w1 H1 M1 st wk ⟨Iv, i0, ig, ib, ie⟩ => by
    refine ⟨fun i k σ' H' => k = ds.length - i ∧ i ≤ ds.length ∧ ∃ w' sl' M', Step X.K w1 H1 w' H' M' ∧ Sl X.K w' σ' sl' ∧ Iv i sl' M', ⟨_, rfl, Nat.zero_le _, w1, sl, M1, Step.refl st.hold, s.mono st.le, i0⟩, ?_⟩
    rintro i k σ' H' ⟨rfl, hi, w', sl', M', st', s', iv⟩
    obtain ⟨k1, k2⟩ := wk w' H' M' st'.le st'.hold (ig i sl' M' hi iv) i
    by_cases hlt : i < ds.length
    · obtain ⟨go, ys⟩ := k1 hlt
      refine .inr ⟨go, fun σ2 H2 => ∃ w' sl' M', Step X.K w1 H1 w' H2 M' ∧ Sl X.K w' σ2 sl' ∧ Iv (i + 1) sl' M', fun σ2 H2 q => ⟨ds.length - (i + 1), by omega, rfl, hlt, q⟩, fun x H2 y => ?_⟩
      obtain ⟨w2, st2, d, hd, rd⟩ := ys x H2 y
      refine ib i d sl' M' hd iv w2 H2 σ' x st2.hold (s'.mono st2.le) rd _ fun σ3 sl3 w3 H3 M3 st3 s3 q3 => ?_
      have sta := ((st.trans st').trans st2).trans st3
      have stb := (st'.trans st2).trans st3
      exact q3 w3 H3 σ3 st3.hold s3 (tk.mono sta) _ ⟨fun σ4 sl4 w4 H4 M4 st4 s4 q4 => ⟨w4, sl4, M4, stb.trans st4, s4, q4⟩, (l.mono sta).rt, (l.mono sta).nx, fun σ4 sl4 w4 H4 M4 st4 s4 q4 => ⟨w4, sl4, M4, stb.trans st4, s4, q4⟩⟩
    · have e : i = ds.length := by omega
      subst e
      exact .inl ⟨k2 (Nat.le_refl _), (l.mono (st.trans st')).nx σ' sl' w' H' M' (Step.refl st'.hold) s' (ie sl' M' iv)⟩
theorem w1_while (F : Fine X) (Iv : Slots → Mem → Prop) (μ : Slots → Mem → Nat) (h0 : Iv sl M)
    (h : ∀ sl M, Iv sl M → WT X W c sl M fun v M1 => Br v (WS X W body sl M1 { nx := fun sl' M' => Iv sl' M' ∧ μ sl' M' < μ sl M, ct := fun sl' M' => Iv sl' M' ∧ μ sl' M' < μ sl M, bk := E.nx, rt := E.rt }) (E.nx sl M1)) : W1 X W (.While c body [] pos) sl M E :=
  W1.of (ps_while F.po pT pSs) fun w H σ m s tk D l => by
    refine ⟨fun k σ' H' => ∃ w' sl' M', Step X.K w H w' H' M' ∧ Sl X.K w' σ' sl' ∧ Iv sl' M' ∧ k = μ sl' M', ⟨_, w, sl, M, Step.refl m, s, h0, rfl⟩, ?_⟩
    rintro k σ' H' ⟨w', sl', M', st, s', iv, rfl⟩
    refine h sl' M' iv w' H' σ' st.hold s' (tk.mono st) _ fun v w2 H2 M2 st2 q => ?_
    refine Br.ite ⟨fun z => ?_, fun z => (l.mono (st.trans st2)).nx _ _ w2 H2 M2 (Step.refl st2.hold) (s'.mono st2.le) (q.2 z)⟩
    have sta := st.trans st2
    have end_ : LkS X.K w2 H2 (fun sl2 M2 => Iv sl2 M2 ∧ μ sl2 M2 < μ sl' M') fun σ2 H2 => ∃ w' sl'' M'', Step X.K w H w' H2 M'' ∧ Sl X.K w' σ2 sl'' ∧ Iv sl'' M'' ∧ μ sl'' M'' < μ sl' M' := fun σ4 sl4 w4 H4 M4 st4 s4 q4 => ⟨w4, sl4, M4, sta.trans st4, s4, q4.1, q4.2⟩
    exact ⟨_, fun σ2 H3 ⟨w4, sl4, M4, st4, s4, iv4, lt⟩ => ⟨_, lt, w4, sl4, M4, st4, s4, iv4, rfl⟩, q.1 z w2 H2 σ' st2.hold (s'.mono st2.le) (tk.mono sta) _ ⟨end_, (l.mono sta).rt, (l.mono sta).nx, end_⟩⟩
end
end Dl
set_option maxHeartbeats 2000000
namespace Dl
open PySem L2
/-! ### list comprehensions -/
def wipeS (sl : Slots) : List Nat → Slots
  | [] => sl
  | v :: vs => (wipeS sl vs).set v none
theorem Sl.wipe {K : PySem.W.Frag} {w : Wd} {σ : St} {sl : Slots} (h : Sl K w σ sl) : ∀ vs : List Nat, Sl K w (L2.wipe σ vs) (wipeS sl vs)
  | [] => h
  | v :: vs => (h.wipe vs).unset v none
theorem wipe_get (σ : St) (k : Nat) : ∀ vs : List Nat, (L2.wipe σ vs)[k]? = if k ∈ vs then (if k < σ.length then some none else none) else σ[k]?
  | [] => by simp [L2.wipe]
  | v :: vs => by
    show ((L2.wipe σ vs).set v none)[k]? = _
    by_cases h : v = k
    · subst h
      rw [List.getElem?_set]
      simp [wipe_length]
    · rw [List.getElem?_set_ne h, wipe_get σ k vs]
      have : ¬ k = v := fun z => h z.symm
      simp [this]
theorem wipe_set {σ : St} {vs : List Nat} {i : Nat} (v : Option V) (h : i ∈ vs) : L2.wipe (σ.set i v) vs = L2.wipe σ vs := by
  apply List.ext_getElem?
  intro k
  rw [wipe_get, wipe_get, List.length_set]
  by_cases hk : k ∈ vs
  · simp [hk]
  · rw [if_neg hk, if_neg hk, List.getElem?_set_ne fun z => hk (by rw [← z]; exact h)]
theorem wipe_wipe (σ : St) (vs : List Nat) : L2.wipe (L2.wipe σ vs) vs = L2.wipe σ vs := by
  apply List.ext_getElem?
  intro k
  rw [wipe_get, wipe_get, wipe_length]
  by_cases hk : k ∈ vs
  · simp [hk]
  · simp [hk]
abbrev W0 : XD := fun _ _ _ _ => False
theorem tk0 {X : Cx} {w : Wd} {H : Hp} : Tk X W0 w H := Takes.imp takes0 fun _ _ _ _ ⟨_, _, _, _, _, _, _, _, _, z⟩ => z
section
variable {K : PySem.W.Frag} {w w' : Wd} {H H' : Hp} {M M' : Mem} {p : Addr}
/-- an object that nobody tells of -/
structure Out (w : Wd) (M : Mem) (p : Addr) : Prop where
  F : w.F p = none
  B : w.B p = none
  ρ : ∀ i, i < w.n → w.ρ i ≠ p
theorem Out.step {o : HO} (h : Out w M p) (e : H p = some o) (st : Step K w H w' H' M') : Out w' M' p ∧ H' p = some o := by
  refine ⟨⟨?_, by rw [st.eB]; exact h.B, fun i hi => ?_⟩, st.fr p o e h.ρ⟩
  · cases q : w'.F p with
    | none => rfl
    | some z =>
      rcases st.nf p (by rw [q]; simp) with y | y
      · exact absurd h.F y
      · rw [e] at y; cases y
  · by_cases hj : i < w.n
    · rw [st.le.ρ i hj]; exact h.ρ i hj
    · exact fun z => by
        have := st.nr i (Nat.le_of_not_lt hj) hi
        rw [z, e] at this
        cases this
theorem HoldM.other {o : HO} (m : HoldM K w H M) (h : Out w M p) : HoldM K w (upd H p o) M :=
  ⟨fun b u e => by rw [upd_ne (ne_of_none e h.F)]; exact m.sub b u e, fun b u e => by rw [upd_ne (ne_of_none e h.B)]; exact m.bor b u e, m.len, fun i ob e => by
    obtain ⟨h1, h2, h3⟩ := m.ob i ob e
    exact ⟨h1, h2, h3.mono (Wd.le.refl w) (upd_ne (h.ρ i (by rw [← m.len]; exact (List.getElem?_eq_some_iff.mp e).1)))⟩, m.inj, fun i hi => upd_some (m.all i hi)⟩
theorem Step.other {o : HO} (st : Step K w H w' H' M') (hp : H p = none) (h : Out w' M' p) : Step K w H w' (upd H' p o) M' :=
  ⟨st.le, st.eB, st.hold.other h, fun a u e q => by rw [upd_ne (ne_of_none e hp)]; exact st.fr a u e q, fun a e => by
    by_cases hb : a = p
    · subst hb; rw [upd_same]; simp
    · rw [upd_ne hb]; exact st.dom a e, st.nf, st.nr⟩
end
/-- the contexts of a comprehension's block -/
def InBlk (X : Cx) (scope : Scope) (P : Cx → Prop) : Prop := ∀ (s : Shared) (H : Hp) (C : Addr) (cl : List (Str × Addr)) (fp : List Addr), P (X.blk s H scope (compEnvC scope cl C X.env) fp)
section
variable {X : Cx} {W : XD} {e c tg iter elt : Expr} {ts ifs : List Expr} {sl : Slots} {M : Mem} {pos : Pos} {Q : QD} {scope : Scope} {own : List (Str × Nat)}
theorem we_lcG {g : TG} {tt : TT} {ta : D → Slots → Slots → Prop} {wt : Slots → Mem → (Bool → Mem → Prop) → Prop} (hc : X.calm = true) (hN : X.N.Nodup) (ok : BlkOk X.N X.env.scope scope own)
    (pg : InBlk X scope fun Y => PG Y tg g) (pt : InBlk X scope fun Y => PTs Y ifs tt)
    (hg : ∀ w H M σ v d sl0 sl2 (Q' : St → Hp → Prop), HoldM X.K w H M → Rep X.K w v d → Sl X.K w σ sl0 → ta d sl0 sl2 → (∀ σ2, L2.wipe σ2 (own.map (·.2)) = L2.wipe σ (own.map (·.2)) → Sl X.K w σ2 sl2 → Q' σ2 H) → g v σ H Q')
    (ht : ∀ w H M σ sl2 (P : Bool → Mem → Prop) (Q' : Bool → Hp → Prop), HoldM X.K w H M → Sl X.K w σ sl2 → wt sl2 M P → (∀ b w' H' M', Step X.K w H w' H' M' → P b M' → Q' b H') → tt σ H Q')
    (h : WI X W tg iter sl M fun ds G M1 => ∃ Iv : Nat → List D → Mem → Prop, Iv 0 [] M1 ∧ (∀ i acc M, i ≤ ds.length → Iv i acc M → G M ∧ acc.length < sizeLine) ∧
      (∀ i d acc M, ds[i]? = some d → Iv i acc M → ∃ sl2, ta d (wipeS sl (own.map (·.2))) sl2 ∧ wt sl2 M fun b M2 => Br b (InBlk X scope fun Y => WE Y W0 elt sl2 M2 fun y M3 => Iv (i + 1) (acc ++ [y]) M3) (Iv (i + 1) acc M2)) ∧ ∀ acc M, Iv ds.length acc M → New Q acc M)
    (hs : ∀ x, foldedSetIterable iter X.env x = pure x := by intro _; rfl) : ∀ w H σ, HoldM X.K w H M → Sl X.K w σ sl → Tk X W w H → ∀ Q', Post X.K w H Q Q' →
      tLc (cI X tg iter) g tt (fun σ H Q => InBlk X scope fun Y => cE Y elt σ H Q) (own.map (·.2)) σ H Q' := fun w H σ m s tk Q' po => h w H σ m s tk _ fun J ds G w1 H1 M1 st wk ⟨Iv, i0, ig, ib, ie⟩ p hp => by
    have out1 : Out w1 M1 p := ⟨st.hold.sub.free hp, st.hold.bor.free hp, fun i hi z => st.hold.all i hi (by rw [z]; exact hp)⟩
    refine ⟨fun i k H' => k = ds.length - i ∧ i ≤ ds.length ∧ ∃ w' M' acc us, Step X.K w1 H1 w' H' M' ∧ Out w' M' p ∧ H' p = some (.lst us) ∧ Reps X.K w' us acc ∧ Iv i acc M', ⟨_, rfl, Nat.zero_le _, w1, M1, [], [], (Step.refl st.hold).other hp out1, out1, upd_same, .nil, i0⟩, ?_⟩
    rintro i k H' ⟨rfl, hi, w', M', acc, us, st', out', hu, ru, iv⟩
    obtain ⟨gM, hl⟩ := ig i acc M' hi iv
    obtain ⟨k1, k2⟩ := wk w' H' M' st'.le st'.hold gM i
    by_cases hlt : i < ds.length
    · obtain ⟨go, ys⟩ := k1 hlt
      refine .inr ⟨go, fun H2 => ∃ w' M' acc us, Step X.K w1 H1 w' H2 M' ∧ Out w' M' p ∧ H2 p = some (.lst us) ∧ Reps X.K w' us acc ∧ Iv (i + 1) acc M', fun H2 q => ⟨ds.length - (i + 1), by omega, rfl, hlt, q⟩, fun x H2 y => ?_⟩
      obtain ⟨w2, st2, d, hd, rd⟩ := ys x H2 y
      obtain ⟨sl2, hta, hwt⟩ := ib i d acc M' hd iv
      obtain ⟨out2, hu2⟩ := out'.step hu st2
      have sl0 : Sl X.K w2 (L2.wipe σ (own.map (·.2))) (wipeS sl (own.map (·.2))) := (s.mono ((st.trans st').trans st2).le).wipe _
      refine hg w2 H2 M' _ x d _ sl2 _ st2.hold rd sl0 hta fun σ2 hw s2 => ⟨by rw [hw, wipe_wipe], ?_⟩
      refine ht w2 H2 M' σ2 sl2 _ _ st2.hold s2 hwt fun b w3 H3 M3 st3 q3 => ?_
      obtain ⟨out3, hu3⟩ := out2.step hu2 st3
      refine Br.ite ⟨fun z => ?_, fun z => ⟨w3, M3, acc, us, (st'.trans st2).trans st3, out3, hu3, ru.mono (st2.trans st3).le, q3.2 z⟩⟩
      intro s4 H4 C cl fp
      refine q3.1 z s4 H4 C cl fp w3 H3 σ2 st3.hold (s2.mono st3.le) tk0 _ fun vy dy w5 H5 M5 st5 r5 q5 => ?_
      obtain ⟨out5, hu5⟩ := out3.step hu3 st5
      refine ⟨us, hu5, by rw [ru.length]; exact hl, w5, M5, acc ++ [dy], us ++ [vy], (((st'.trans st2).trans st3).trans st5).other hp out5, out5, upd_same, (ru.mono ((st2.trans st3).trans st5).le).append (.cons r5 .nil), q5⟩
    · have e : i = ds.length := by omega
      subst e
      refine .inl ⟨k2 (Nat.le_refl _), New.take st' hp hu out'.F out'.B (fun j o ej => out'.ρ j (by rw [← st'.hold.len]; exact (List.getElem?_eq_some_iff.mp ej).1)) ru (po.mono st) (ie acc M' iv)⟩
/-- [elt for x in iter], [elt for x in iter if c], the target a name -/
def taN (i : Nat) (d : D) (sl0 sl2 : Slots) : Prop := sl2 = sl0.set i (some d)
theorem hgN {i : Nat} {vs : List Nat} (hi : i ∈ vs) : ∀ w H M σ v d sl0 sl2 (Q' : St → Hp → Prop), HoldM X.K w H M → Rep X.K w v d → Sl X.K w σ sl0 → taN i d sl0 sl2 → (∀ σ2, L2.wipe σ2 vs = L2.wipe σ vs → Sl X.K w σ2 sl2 → Q' σ2 H) → gName i v σ H Q' :=
  fun w H M σ v d sl0 sl2 Q' m r s e k => by
    unfold taN at e
    subst e
    exact k _ (wipe_set _ hi) (s.set i r)
/-- .. a tuple of two names -/
def taP (i j : Nat) (d : D) (sl0 sl2 : Slots) : Prop := ∃ d1 d2, d = .tup [d1, d2] ∧ sl2 = (sl0.set i (some d1)).set j (some d2)
theorem hgP {i j : Nat} {vs : List Nat} (hi : i ∈ vs) (hj : j ∈ vs) : ∀ w H M σ v d sl0 sl2 (Q' : St → Hp → Prop), HoldM X.K w H M → Rep X.K w v d → Sl X.K w σ sl0 → taP i j d sl0 sl2 → (∀ σ2, L2.wipe σ2 vs = L2.wipe σ vs → Sl X.K w σ2 sl2 → Q' σ2 H) →
    gTup X.K 2 (gCons (gName i) (gCons (gName j) gNil)) v σ H Q' :=
  fun w H M σ v d sl0 sl2 Q' m r s e k => by
    obtain ⟨d1, d2, rfl, rfl⟩ := e
    cases r with
    | tup h1 r1 =>
      obtain ⟨v1, v2, rfl, rv1, rv2⟩ := r1.two
      exact ⟨_, _, rfl, sqT_mono m.sub h1, rfl, v1, [v2], rfl, v2, [], rfl, rfl, k _ (by rw [wipe_set _ hj, wipe_set _ hi]) ((s.set i rv1).set j rv2)⟩
def wtYes (sl2 : Slots) (M : Mem) (P : Bool → Mem → Prop) : Prop := P true M
theorem htYes : ∀ w H M σ sl2 (P : Bool → Mem → Prop) (Q' : Bool → Hp → Prop), HoldM X.K w H M → Sl X.K w σ sl2 → wtYes sl2 M P → (∀ b w' H' M', Step X.K w H w' H' M' → P b M' → Q' b H') → tYes σ H Q' := fun w H M σ sl2 P Q' m s h k => k true w H M (Step.refl m) h
def wtOne (X : Cx) (scope : Scope) (c : Expr) (sl2 : Slots) (M : Mem) (P : Bool → Mem → Prop) : Prop := InBlk X scope fun Y => WT Y W0 c sl2 M P
theorem htOne : ∀ w H M σ sl2 (P : Bool → Mem → Prop) (Q' : Bool → Hp → Prop), HoldM X.K w H M → Sl X.K w σ sl2 → wtOne X scope c sl2 M P → (∀ b w' H' M', Step X.K w H w' H' M' → P b M' → Q' b H') → (fun σ H Q => InBlk X scope fun Y => cT Y c σ H Q : TT) σ H Q' :=
  fun w H M σ sl2 P Q' m s h k s4 H4 C cl fp => h s4 H4 C cl fp w H σ m s tk0 Q' k
theorem peBlk : InBlk X scope fun Y => PE Y elt (fun σ H Q => InBlk X scope fun Y => cE Y elt σ H Q) := fun s H C cl fp => ⟨fun pins sh σ H2 Q I h => h s H C cl fp pins sh I⟩
theorem ptBlk : InBlk X scope fun Y => PTs Y [c] (fun σ H Q => InBlk X scope fun Y => cT Y c σ H Q) := fun s H C cl fp => pts_one ⟨fun pins sh σ H2 Q I h => h s H C cl fp pins sh I⟩
/-- what a comprehension's walk asks: Iv by the turn, the list so far, the memory -/
def LcR (X : Cx) (scope : Scope) (ta : D → Slots → Slots → Prop) (wt : Slots → Mem → (Bool → Mem → Prop) → Prop) (elt : Expr) (sl : Slots) (vs : List Nat) (Q : QD) : RI := fun ds G M1 => ∃ Iv : Nat → List D → Mem → Prop, Iv 0 [] M1 ∧ (∀ i acc M, i ≤ ds.length → Iv i acc M → G M ∧ acc.length < sizeLine) ∧
      (∀ i d acc M, ds[i]? = some d → Iv i acc M → ∃ sl2, ta d (wipeS sl vs) sl2 ∧ wt sl2 M fun b M2 => Br b (InBlk X scope fun Y => WE Y W0 elt sl2 M2 fun y M3 => Iv (i + 1) (acc ++ [y]) M3) (Iv (i + 1) acc M2)) ∧ ∀ acc M, Iv ds.length acc M → New Q acc M
section
variable {x x2 y : Str} {p1 p2 py spos : Pos} {kk i j : Nat}
theorem we_lc (i : Nat) (hc : X.calm = true) (hN : X.N.Nodup) (ok : blkC X.N X.env.scope scope [(x, i)] = true) (h : WI X W (.Name x p1) iter sl M (LcR X scope (taN i) wtYes elt sl [i] Q))
    (pg : InBlk X scope fun Y => PG Y (.Name x p1) (gName i)) (hs : ∀ x, foldedSetIterable iter X.env x = pure x := by intro _; rfl) : WE X W (.ListComp elt [⟨.Name x p1, iter, [], 0⟩] scope pos) sl M Q :=
  WE.of (pe_lc hc hN pI (blkOk_by ok) pg (fun _ _ _ _ _ => pts_nil) peBlk hs) (we_lcG (own := [(x, i)]) hc hN (blkOk_by ok) pg (fun _ _ _ _ _ => pts_nil) (hgN (by simp)) htYes h hs)
theorem we_lcIf (i : Nat) (hc : X.calm = true) (hN : X.N.Nodup) (ok : blkC X.N X.env.scope scope [(x, i)] = true) (h : WI X W (.Name x p1) iter sl M (LcR X scope (taN i) (wtOne X scope c) elt sl [i] Q))
    (pg : InBlk X scope fun Y => PG Y (.Name x p1) (gName i)) (hs : ∀ x, foldedSetIterable iter X.env x = pure x := by intro _; rfl) : WE X W (.ListComp elt [⟨.Name x p1, iter, [c], 0⟩] scope pos) sl M Q :=
  WE.of (pe_lc hc hN pI (blkOk_by ok) pg ptBlk peBlk hs) (we_lcG (own := [(x, i)]) hc hN (blkOk_by ok) pg ptBlk (hgN (by simp)) htOne h hs)
/-- y = [..] -/
theorem w1_lc (j i : Nat) {E : DEnds} (hc : X.calm = true) (hN : X.N.Nodup) (ok : blkC X.N X.env.scope scope [(x, i)] = true) (h : WI X W (.Name x p1) iter sl M (LcR X scope (taN i) wtYes elt sl [i] fun d M' => E.nx (sl.set j (some d)) M'))
    (pg : InBlk X scope fun Y => PG Y (.Name x p1) (gName i)) (hsw : swapsWith (.ListComp elt [⟨.Name x p1, iter, [], 0⟩] scope pos) (some (.Name y py)) spos.line X.env = pure true) (hy : X.N[j]? = some y := by rfl) (hyl : X.env.scope.names.lookup y = some .local := by rfl) (hs : ∀ x, foldedSetIterable iter X.env x = pure x := by intro _; rfl) :
    W1 X W (.Assign [.Name y py] (.ListComp elt [⟨.Name x p1, iter, [], 0⟩] scope pos) spos) sl M E :=
  W1.of (ps_setLc hc hN hy hyl hsw pI (blkOk_by ok) pg (fun _ _ _ _ _ => pts_nil) peBlk hs) fun w H σ m s tk D l => we_lcG (own := [(x, i)]) hc hN (blkOk_by ok) pg (fun _ _ _ _ _ => pts_nil) (hgN (by simp)) htYes h hs w H σ m s tk _ fun v d w1 H1 M1 st r q => l.nx _ _ w1 H1 M1 st ((s.mono st.le).set j r) q
theorem w1_lcIf (j i : Nat) {E : DEnds} (hc : X.calm = true) (hN : X.N.Nodup) (ok : blkC X.N X.env.scope scope [(x, i)] = true) (h : WI X W (.Name x p1) iter sl M (LcR X scope (taN i) (wtOne X scope c) elt sl [i] fun d M' => E.nx (sl.set j (some d)) M'))
    (pg : InBlk X scope fun Y => PG Y (.Name x p1) (gName i)) (hsw : swapsWith (.ListComp elt [⟨.Name x p1, iter, [c], 0⟩] scope pos) (some (.Name y py)) spos.line X.env = pure true) (hy : X.N[j]? = some y := by rfl) (hyl : X.env.scope.names.lookup y = some .local := by rfl) (hs : ∀ x, foldedSetIterable iter X.env x = pure x := by intro _; rfl) :
    W1 X W (.Assign [.Name y py] (.ListComp elt [⟨.Name x p1, iter, [c], 0⟩] scope pos) spos) sl M E :=
  W1.of (ps_setLc hc hN hy hyl hsw pI (blkOk_by ok) pg ptBlk peBlk hs) fun w H σ m s tk D l => we_lcG (own := [(x, i)]) hc hN (blkOk_by ok) pg ptBlk (hgN (by simp)) htOne h hs w H σ m s tk _ fun v d w1 H1 M1 st r q => l.nx _ _ w1 H1 M1 st ((s.mono st.le).set j r) q
/-- the target a pair -/
theorem we_lcP (i j : Nat) (hc : X.calm = true) (hN : X.N.Nodup) (ok : blkC X.N X.env.scope scope [(x, i), (x2, j)] = true) (h : WI X W (.Tuple [.Name x p1, .Name x2 p2] kk py) iter sl M (LcR X scope (taP i j) wtYes elt sl [i, j] Q))
    (pg : InBlk X scope fun Y => PG Y (.Tuple [.Name x p1, .Name x2 p2] kk py) (gTup X.K 2 (gCons (gName i) (gCons (gName j) gNil)))) (hs : ∀ x, foldedSetIterable iter X.env x = pure x := by intro _; rfl) : WE X W (.ListComp elt [⟨.Tuple [.Name x p1, .Name x2 p2] kk py, iter, [], 0⟩] scope pos) sl M Q :=
  WE.of (pe_lc hc hN pI (blkOk_by ok) pg (fun _ _ _ _ _ => pts_nil) peBlk hs) (we_lcG (own := [(x, i), (x2, j)]) hc hN (blkOk_by ok) pg (fun _ _ _ _ _ => pts_nil) (hgP (by simp) (by simp)) htYes h hs)
theorem we_lcPIf (i j : Nat) (hc : X.calm = true) (hN : X.N.Nodup) (ok : blkC X.N X.env.scope scope [(x, i), (x2, j)] = true) (h : WI X W (.Tuple [.Name x p1, .Name x2 p2] kk py) iter sl M (LcR X scope (taP i j) (wtOne X scope c) elt sl [i, j] Q))
    (pg : InBlk X scope fun Y => PG Y (.Tuple [.Name x p1, .Name x2 p2] kk py) (gTup X.K 2 (gCons (gName i) (gCons (gName j) gNil)))) (hs : ∀ x, foldedSetIterable iter X.env x = pure x := by intro _; rfl) : WE X W (.ListComp elt [⟨.Tuple [.Name x p1, .Name x2 p2] kk py, iter, [c], 0⟩] scope pos) sl M Q :=
  WE.of (pe_lc hc hN pI (blkOk_by ok) pg ptBlk peBlk hs) (we_lcG (own := [(x, i), (x2, j)]) hc hN (blkOk_by ok) pg ptBlk (hgP (by simp) (by simp)) htOne h hs)
end
end
end Dl
set_option maxHeartbeats 2000000
namespace Dl
open PySem L2
/-! ### data as the library's data -/
mutual
def pyP : D → Option PyData
  | .non => some .none
  | .bl b => some (.bool b)
  | .int i => some (.int i)
  | .str x => some (.str x)
  | .tup ds => (pyPs ds).map .tuple
  | .xt ds => (pyPs ds).map .tuple
  | .lst ds => (pyPs ds).map .list
  | .bor ds => (pyPs ds).map .list
  | _ => none
def pyPs : List D → Option (List PyData)
  | [] => some []
  | d :: ds => match pyP d, pyPs ds with
    | some p, some ps => some (p :: ps)
    | _, _ => none
end
def pyOf (M : Mem) (d : D) : Option PyData := match d with
  | .mr n => match M[n]? with
    | some (some (.lst ds)) => (pyPs ds).map .list
    | _ => none
  | d => pyP d
theorem pyOf_of {M : Mem} {d : D} {p : PyData} (h : pyP d = some p) : pyOf M d = some p := by
  cases d <;> first | exact h | (simp [pyP] at h)
section
variable {K : PySem.W.Frag} {w : Wd} {H : Hp} {M : Mem}
mutual
theorem dp_of (m : HoldM K w H M) : ∀ {v : V} {d : D} {p : PyData}, Rep K w v d → pyP d = some p → Dp K H v p
  | _, _, _, .non, h => by simp only [pyP, Option.some.injEq] at h; subst h; exact .non
  | _, _, _, .bl b, h => by simp only [pyP, Option.some.injEq] at h; subst h; exact .bl b
  | _, _, _, .int b, h => by simp only [pyP, Option.some.injEq] at h; subst h; exact .int b
  | _, _, _, .str b, h => by simp only [pyP, Option.some.injEq] at h; subst h; exact .str b
  | _, _, _, .rf _, h => by simp [pyP] at h
  | _, _, _, .ty _, h => by simp [pyP] at h
  | _, _, _, .scr _, h => by simp [pyP] at h
  | _, _, _, .ins _ _, h => by simp [pyP] at h
  | _, _, _, .mr _, h => by simp [pyP] at h
  | _, _, _, .tup h1 r, h => by
    simp only [pyP, Option.map_eq_some_iff] at h
    obtain ⟨ps, hp, rfl⟩ := h
    exact .tup (sqT_mono m.sub h1) (dps_of m r hp)
  | _, _, _, .xt h1 hd r, h => by
    simp only [pyP, Option.map_eq_some_iff] at h
    obtain ⟨ps, hp, rfl⟩ := h
    exact .tup (.inl (.inr ⟨_, m.sub _ _ h1⟩)) (dps_of m r hp)
  | _, _, _, .lst h1 r, h => by
    simp only [pyP, Option.map_eq_some_iff] at h
    obtain ⟨ps, hp, rfl⟩ := h
    exact .lst (.inl (.inl (m.sub _ _ h1))) (dps_of m r hp)
  | _, _, _, .bor h1 r, h => by
    simp only [pyP, Option.map_eq_some_iff] at h
    obtain ⟨ps, hp, rfl⟩ := h
    exact .lst (.inl (.inl (m.bor _ _ h1))) (dps_of m r hp)
theorem dps_of (m : HoldM K w H M) : ∀ {vs : List V} {ds : List D} {ps : List PyData}, Reps K w vs ds → pyPs ds = some ps → DpAll K H vs ps
  | _, _, _, .nil, h => by simp only [pyPs, Option.some.injEq] at h; subst h; exact .nil
  | _, _, _, .cons r t, h => by
    rename_i v d vs ds
    simp only [pyPs] at h
    cases e1 : pyP d with
    | none => rw [e1] at h; simp at h
    | some p =>
      cases e2 : pyPs ds with
      | none => rw [e1, e2] at h; simp at h
      | some qs =>
        rw [e1, e2] at h
        simp only [Option.some.injEq] at h
        subst h
        exact .cons (dp_of m r e1) (dps_of m t e2)
end
theorem dpO (m : HoldM K w H M) {v : V} {d : D} {p : PyData} (r : Rep K w v d) (h : pyOf M d = some p) : Dp K H v p := by
  by_cases hm : ∃ n, d = .mr n
  · obtain ⟨n, rfl⟩ := hm
    unfold pyOf at h
    simp only at h
    split at h
    · rename_i ds e
      simp only [Option.map_eq_some_iff] at h
      obtain ⟨ps, hp, rfl⟩ := h
      cases r
      obtain ⟨_, _, vs, hv, rv⟩ := m.ob n _ e
      exact .lst (.inl (.inl hv)) (dps_of m rv hp)
    · cases h
  · have : pyOf M d = pyP d := by
      cases d <;> first | rfl | exact absurd ⟨_, rfl⟩ hm
    rw [this] at h
    exact dp_of m r h
end
/-- == -/
def EqD (x y : D) (M : Mem) (Q : Bool → Mem → Prop) : Prop := match x, y with
  | .int i, .int j => Q (decide (i = j)) M
  | .str i, .str j => Q (decide (i = j)) M
  | x, y => ∃ p q, pyOf M x = some p ∧ pyOf M y = some q ∧ SeqAt.shaped p = true ∧ SeqAt.shaped q = true ∧ Q (PyData.eqv p q) M
def asB (Q : QD) : Bool → Mem → Prop := fun b M => Q (.bl b) M
theorem eqd_cases {x y : D} {M : Mem} {Q : Bool → Mem → Prop} (h : EqD x y M Q) : (∃ i j, x = .int i ∧ y = .int j ∧ Q (decide (i = j)) M) ∨ (∃ i j, x = .str i ∧ y = .str j ∧ Q (decide (i = j)) M) ∨
    ∃ p q, pyOf M x = some p ∧ pyOf M y = some q ∧ SeqAt.shaped p = true ∧ SeqAt.shaped q = true ∧ Q (PyData.eqv p q) M := by
  cases x <;> cases y <;> first | exact .inr (.inr h) | exact .inl ⟨_, _, rfl, rfl, h⟩ | exact .inr (.inl ⟨_, _, rfl, rfl, h⟩)
def rEqX (K : PySem.W.Frag) : R2 := fun x y H Q => rEq x y H Q ∨ rEqD K x y H Q
def rNeX (K : PySem.W.Frag) : R2 := fun x y H Q => rNe x y H Q ∨ rNeD K x y H Q
theorem dec_i {i j : Int} : decide (V.int i = V.int j) = decide (i = j) := by rw [Bool.eq_iff_iff]; simp
theorem dec_s {i j : Str} : decide (V.str i = V.str j) = decide (i = j) := by rw [Bool.eq_iff_iff]; simp
section
variable {X : Cx} {W : XD} {e a b c : Expr} {es : List Expr} {sl : Slots} {M : Mem} {Q : QD} {pos : Pos}
theorem rd_eq (x y : D) (M : Mem) (Q : QD) (h : EqD x y M (asB Q)) : RD X.K (rEqX X.K) x y M Q := by
  intro w H vx vy m rx ry Q' p
  rcases eqd_cases h with ⟨i, j, rfl, rfl, q⟩ | ⟨i, j, rfl, rfl, q⟩ | ⟨d, e, h1, h2, s1, s2, q⟩
  · cases rx; cases ry; exact .inl ⟨rfl, by rw [dec_i]; exact p _ _ w H M (Step.refl m) (.bl _) q⟩
  · cases rx; cases ry; exact .inl ⟨rfl, by rw [dec_s]; exact p _ _ w H M (Step.refl m) (.bl _) q⟩
  · exact .inr ⟨d, e, dpO m rx h1, dpO m ry h2, s1, s2, p _ _ w H M (Step.refl m) (.bl _) q⟩
theorem rd_ne (x y : D) (M : Mem) (Q : QD) (h : EqD x y M fun b M => Q (.bl (!b)) M) : RD X.K (rNeX X.K) x y M Q := by
  intro w H vx vy m rx ry Q' p
  rcases eqd_cases h with ⟨i, j, rfl, rfl, q⟩ | ⟨i, j, rfl, rfl, q⟩ | ⟨d, e, h1, h2, s1, s2, q⟩
  · cases rx; cases ry; exact .inl ⟨rfl, by rw [dec_i]; exact p _ _ w H M (Step.refl m) (.bl _) q⟩
  · cases rx; cases ry; exact .inl ⟨rfl, by rw [dec_s]; exact p _ _ w H M (Step.refl m) (.bl _) q⟩
  · exact .inr ⟨d, e, dpO m rx h1, dpO m ry h2, s1, s2, p _ _ w H M (Step.refl m) (.bl _) q⟩
theorem op_eqX (hu : X.A.units + 64 < cLine) : OpR X (compareOp .Eq) (rEqX X.K) := OpR.or op_eq (op_eqD hu)
theorem op_neX (hu : X.A.units + 64 < cLine) : OpR X (compareOp .NotEq) (rNeX X.K) := OpR.or op_ne (op_neD hu)
theorem we_eq (hu : X.A.units + 64 < cLine) (h : WE X W a sl M fun x M1 => WE X W b sl M1 fun y M2 => EqD x y M2 (asB Q)) : WE X W (.Compare a [.Eq] [b] pos) sl M Q := we_cmp (op_eqX hu) rd_eq h (nomark _)
theorem we_ne (hu : X.A.units + 64 < cLine) (h : WE X W a sl M fun x M1 => WE X W b sl M1 fun y M2 => EqD x y M2 fun b M => Q (.bl (!b)) M) : WE X W (.Compare a [.NotEq] [b] pos) sl M Q := we_cmp (op_neX hu) rd_ne h (nomark _)
section
variable {Q : Bool → Mem → Prop}
theorem EqD.mono {x y : D} {P Q : Bool → Mem → Prop} (h : EqD x y M P) (k : ∀ b M, P b M → Q b M) : EqD x y M Q := by
  cases x <;> cases y <;> first | exact k _ _ h | (obtain ⟨p, q, h1, h2, s1, s2, z⟩ := h; exact ⟨p, q, h1, h2, s1, s2, k _ _ z⟩)
theorem wt_eq (hu : X.A.units + 64 < cLine) (h : WE X W a sl M fun x M1 => WE X W b sl M1 fun y M2 => EqD x y M2 Q) : WT X W (.Compare a [.Eq] [b] pos) sl M Q :=
  wt_op (P := fun x y M Q => EqD x y M (asB Q)) (op_eqX hu) rd_eq (h.mono fun x M1 q => q.mono fun y M2 q => EqD.mono q fun b M z => ⟨b, rfl, z⟩) (nomark _)
theorem wt_ne (hu : X.A.units + 64 < cLine) (h : WE X W a sl M fun x M1 => WE X W b sl M1 fun y M2 => EqD x y M2 fun b M => Q (!b) M) : WT X W (.Compare a [.NotEq] [b] pos) sl M Q :=
  wt_op (P := fun x y M Q => EqD x y M fun b M => Q (.bl (!b)) M) (op_neX hu) rd_ne (h.mono fun x M1 q => q.mono fun y M2 q => EqD.mono q fun b M z => ⟨!b, rfl, z⟩) (nomark _)
end
/-! ### in, of flat things -/
def flatD : D → Bool
  | .non => true
  | .bl _ => true
  | .int _ => true
  | .str _ => true
  | _ => false
def eqF : D → D → Bool
  | .non, .non => true
  | .bl a, .bl b => a == b
  | .bl a, .int b => (if a then 1 else 0) == b
  | .int a, .bl b => a == (if b then 1 else 0)
  | .int a, .int b => a == b
  | .str a, .str b => a == b
  | _, _ => false
def inF (x : D) (xs : List D) : Bool := xs.any fun y => eqF y x
theorem flat_rep {K : PySem.W.Frag} {w : Wd} {v : V} {d : D} (r : Rep K w v d) (h : flatD d = true) : flatV v = true := by cases r <;> first | rfl | cases h
theorem eqF_rep {K : PySem.W.Frag} {w : Wd} {v u : V} {d e : D} (r : Rep K w v d) (r' : Rep K w u e) (h : flatD d = true) (h' : flatD e = true) : eqV v u = eqF d e := by
  cases r <;> first | (cases h; done) | (cases r' <;> first | (cases h'; done) | rfl)
theorem inF_rep {K : PySem.W.Frag} {w : Wd} {v : V} {d : D} (r : Rep K w v d) (h : flatD d = true) : ∀ {vs : List V} {ds : List D}, Reps K w vs ds → ds.all flatD = true → vs.all flatV = true ∧ inV v vs = inF d ds
  | _, _, .nil, _ => ⟨rfl, rfl⟩
  | _, _, .cons q t, hd => by
    rw [List.all_cons, Bool.and_eq_true] at hd
    obtain ⟨h1, h2⟩ := inF_rep r h t hd.2
    refine ⟨by rw [List.all_cons, flat_rep q hd.1, h1]; rfl, ?_⟩
    unfold inV inF at *
    rw [List.any_cons, List.any_cons, h2, eqF_rep q r hd.1 h]
def InD (x y : D) (M : Mem) (Q : Bool → Mem → Prop) : Prop := ∃ ds, sqOf M y = some ds ∧ flatD x = true ∧ ds.all flatD = true ∧ Q (inF x ds) M
theorem rd_in {neg : Bool} (x y : D) (M : Mem) (Q : QD) (h : InD x y M fun b M => Q (.bl (if neg then !b else b)) M) : RD X.K (rIn X.K neg) x y M Q := by
  intro w H vx vy m rx ry Q' p
  obtain ⟨ds, hs, hf, ha, q⟩ := h
  obtain ⟨ad, vs, rfl, h1, r⟩ := sq_at m ry hs
  obtain ⟨k1, k2⟩ := inF_rep rx hf r ha
  exact ⟨ad, vs, rfl, h1, flat_rep rx hf, k1, by rw [k2]; exact p _ _ w H M (Step.refl m) (.bl _) q⟩
theorem wt_in {Q : Bool → Mem → Prop} (h : WE X W a sl M fun x M1 => WE X W b sl M1 fun y M2 => InD x y M2 Q) (hm : behindInMarks .In b = false := by rfl) : WT X W (.Compare a [.In] [b] pos) sl M Q :=
  wt_op (P := fun x y M Q => InD x y M fun b M => Q (.bl (if false then !b else b)) M) op_in_seq rd_in (h.mono fun x M1 q => q.mono fun y M2 ⟨ds, h1, h2, h3, q⟩ => ⟨ds, h1, h2, h3, _, rfl, q⟩) hm
theorem wt_notin {Q : Bool → Mem → Prop} (h : WE X W a sl M fun x M1 => WE X W b sl M1 fun y M2 => InD x y M2 fun b M => Q (!b) M) (hm : behindInMarks .NotIn b = false := by rfl) : WT X W (.Compare a [.NotIn] [b] pos) sl M Q :=
  wt_op (P := fun x y M Q => InD x y M fun b M => Q (.bl (if true then !b else b)) M) op_notIn_seq rd_in (h.mono fun x M1 q => q.mono fun y M2 ⟨ds, h1, h2, h3, q⟩ => ⟨ds, h1, h2, h3, _, rfl, q⟩) hm
theorem we_in (h : WE X W a sl M fun x M1 => WE X W b sl M1 fun y M2 => InD x y M2 (asB Q)) (hm : behindInMarks .In b = false := by rfl) : WE X W (.Compare a [.In] [b] pos) sl M Q :=
  we_cmp (P := fun x y M Q => InD x y M fun b M => Q (.bl (if false then !b else b)) M) op_in_seq rd_in h hm
theorem we_notin (h : WE X W a sl M fun x M1 => WE X W b sl M1 fun y M2 => InD x y M2 fun b M => Q (.bl (!b)) M) (hm : behindInMarks .NotIn b = false := by rfl) : WE X W (.Compare a [.NotIn] [b] pos) sl M Q :=
  we_cmp (P := fun x y M Q => InD x y M fun b M => Q (.bl (if true then !b else b)) M) op_notIn_seq rd_in h hm
theorem inF_int (i : Int) (xs : List Int) : inF (.int i) (xs.map .int) = decide (i ∈ xs) := by
  unfold inF
  induction xs with
  | nil => simp
  | cons x xs ih => rw [List.map_cons, List.any_cons, ih]; simp [eqF, Bool.beq_eq_decide_eq, eq_comm]
theorem flat_ints (xs : List Int) : (xs.map D.int).all flatD = true := by simp [flatD]
/-! ### is None -/
def isNon : D → Bool
  | .non => true
  | _ => false
theorem isNon_rep {K : PySem.W.Frag} {w : Wd} {v : V} {d : D} (r : Rep K w v d) : decide (v = .non) = isNon d := by cases r <;> rfl
def IsN (x y : D) (M : Mem) (Q : Bool → Mem → Prop) : Prop := y = .non ∧ Q (isNon x) M
theorem rd_isN (x y : D) (M : Mem) (Q : QD) (h : IsN x y M (asB Q)) : RD X.K (fun x y H Q => y = .non ∧ Q (.bl (decide (x = .non))) H) x y M Q := by
  intro w H vx vy m rx ry Q' p
  obtain ⟨rfl, q⟩ := h
  cases ry
  exact ⟨rfl, by rw [isNon_rep rx]; exact p _ _ w H M (Step.refl m) (.bl _) q⟩
theorem rd_notN (x y : D) (M : Mem) (Q : QD) (h : IsN x y M fun b M => Q (.bl (!b)) M) : RD X.K (fun x y H Q => y = .non ∧ Q (.bl (!decide (x = .non))) H) x y M Q := by
  intro w H vx vy m rx ry Q' p
  obtain ⟨rfl, q⟩ := h
  cases ry
  exact ⟨rfl, by rw [isNon_rep rx]; exact p _ _ w H M (Step.refl m) (.bl _) q⟩
theorem wt_is {Q : Bool → Mem → Prop} (h : WE X W a sl M fun x M1 => WE X W b sl M1 fun y M2 => IsN x y M2 Q) : WT X W (.Compare a [.Is] [b] pos) sl M Q :=
  wt_op (P := fun x y M Q => IsN x y M (asB Q)) op_isN rd_isN (h.mono fun x M1 q => q.mono fun y M2 ⟨h1, q⟩ => ⟨h1, _, rfl, q⟩) (nomark _)
theorem wt_isnot {Q : Bool → Mem → Prop} (h : WE X W a sl M fun x M1 => WE X W b sl M1 fun y M2 => IsN x y M2 fun b M => Q (!b) M) : WT X W (.Compare a [.IsNot] [b] pos) sl M Q :=
  wt_op (P := fun x y M Q => IsN x y M fun b M => Q (.bl (!b)) M) op_notN rd_notN (h.mono fun x M1 q => q.mono fun y M2 ⟨h1, q⟩ => ⟨h1, _, rfl, q⟩) (nomark _)
theorem we_is (h : WE X W a sl M fun x M1 => WE X W b sl M1 fun y M2 => IsN x y M2 (asB Q)) : WE X W (.Compare a [.Is] [b] pos) sl M Q := we_cmp op_isN rd_isN h (nomark _)
theorem we_isnot (h : WE X W a sl M fun x M1 => WE X W b sl M1 fun y M2 => IsN x y M2 fun b M => Q (.bl (!b)) M) : WE X W (.Compare a [.IsNot] [b] pos) sl M Q := we_cmp op_notN rd_notN h (nomark _)
/-! ### a < b <= c, of ints -/
theorem wt_chain {op op' : CmpOp} {g g' : Int → Int → Bool} {Q : Bool → Mem → Prop} (ho : OpR X (compareOp op) (rI0 fun i j => .bl (g i j))) (ho' : OpR X (compareOp op') (rI0 fun i j => .bl (g' i j)))
    (h : WE X W a sl M fun x M1 => WE X W b sl M1 fun y M2 => ∃ i j, x = .int i ∧ y = .int j ∧ Br (g i j) (WE X W c sl M2 fun z M3 => ∃ k, z = .int k ∧ Q (g' j k) M3) (Q false M2)) (hm : lastMarks [op, op'] [b, c] = false := by with_unfolding_all rfl) : WT X W (.Compare a [op, op'] [b, c] pos) sl M Q :=
  WT.of (pt_chain ho ho' pE pE pE hm) fun w H σ m s tk Q' p => h w H σ m s tk _ fun v1 d1 w1 H1 M1 st1 r1 q1 => q1 w1 H1 σ st1.hold (s.mono st1.le) (tk.mono st1) _ fun v2 d2 w2 H2 M2 st2 r2 q2 => by
    obtain ⟨i, j, rfl, rfl, q⟩ := q2
    cases r1
    cases r2
    refine ⟨i, j, rfl, rfl, _, rfl, Br.ite ⟨fun z => ?_, fun z => ⟨false, rfl, p false w2 H2 M2 (st1.trans st2) (q.2 z)⟩⟩⟩
    refine q.1 z w2 H2 σ st2.hold (s.mono (st1.trans st2).le) (tk.mono (st1.trans st2)) _ fun v3 d3 w3 H3 M3 st3 r3 q3 => ?_
    obtain ⟨k, rfl, q⟩ := q3
    cases r3
    exact ⟨j, k, rfl, rfl, _, rfl, p _ w3 H3 M3 ((st1.trans st2).trans st3) q⟩
theorem we_chain {op op' : CmpOp} {g g' : Int → Int → Bool} (ho : OpR X (compareOp op) (rI0 fun i j => .bl (g i j))) (ho' : OpR X (compareOp op') (rI0 fun i j => .bl (g' i j)))
    (h : WE X W a sl M fun x M1 => WE X W b sl M1 fun y M2 => ∃ i j, x = .int i ∧ y = .int j ∧ Br (g i j) (WE X W c sl M2 fun z M3 => ∃ k, z = .int k ∧ Q (.bl (g' j k)) M3) (Q (.bl false) M2)) (hm : lastMarks [op, op'] [b, c] = false := by with_unfolding_all rfl) : WE X W (.Compare a [op, op'] [b, c] pos) sl M Q :=
  WE.of (pe_chain ho ho' pE pE pE hm) fun w H σ m s tk Q' p => h w H σ m s tk _ fun v1 d1 w1 H1 M1 st1 r1 q1 => q1 w1 H1 σ st1.hold (s.mono st1.le) (tk.mono st1) _ fun v2 d2 w2 H2 M2 st2 r2 q2 => by
    obtain ⟨i, j, rfl, rfl, q⟩ := q2
    cases r1
    cases r2
    refine ⟨i, j, rfl, rfl, _, rfl, Br.ite ⟨fun z => ?_, fun z => p _ _ w2 H2 M2 (st1.trans st2) (.bl _) (q.2 z)⟩⟩
    refine q.1 z w2 H2 σ st2.hold (s.mono (st1.trans st2).le) (tk.mono (st1.trans st2)) _ fun v3 d3 w3 H3 M3 st3 r3 q3 => ?_
    obtain ⟨k, rfl, q⟩ := q3
    cases r3
    exact ⟨j, k, rfl, rfl, p _ _ w3 H3 M3 ((st1.trans st2).trans st3) (.bl _) q⟩
/-! ### truth of a list, a tuple, a text, an int -/
def TruD (d : D) (M : Mem) (Q : Bool → Mem → Prop) : Prop := match d with
  | .non => Q false M
  | .bl b => Q b M
  | .int i => Q (i != 0) M
  | .str y => y.length ≤ sizeLine ∧ Q ((y.length : Int) != 0) M
  | d => ∃ ds, sqOf M d = some ds ∧ Q (!ds.isEmpty) M
theorem wt_truth {Q : Bool → Mem → Prop} (h : WE X W a sl M fun d M1 => TruD d M1 Q) (he : ∀ whole, isTrue a X.env whole = (do let v ← whole; standAt a.pos; holding [v] (truthy v)) := by intro _; rfl) : WT X W a sl M Q :=
  WT.of (pt_truth pE he) fun w H σ m s tk Q' p => h w H σ m s tk _ fun v d w1 H1 M1 st r q => by
    have seq : (∃ ds, sqOf M1 d = some ds ∧ Q (!ds.isEmpty) M1) → ∃ k, TruV X.K v H1 k ∧ Q' k H1 := fun ⟨ds, hs, q⟩ => by
      obtain ⟨ad, vs, rfl, h1, rv⟩ := sq_at st.hold r hs
      have e : (!vs.isEmpty) = !ds.isEmpty := by cases rv <;> rfl
      refine ⟨_, ?_, p _ w1 H1 M1 st q⟩
      rcases h1 with h1 | h1
      · exact .inl ⟨vs, h1, e.symm⟩
      · exact .inr (.inl ⟨vs, h1, e.symm⟩)
    cases r with
    | non => exact ⟨_, rfl, p _ w1 H1 M1 st q⟩
    | bl b => exact ⟨_, rfl, p _ w1 H1 M1 st q⟩
    | int i => exact ⟨_, rfl, p _ w1 H1 M1 st q⟩
    | str i => exact ⟨_, ⟨q.1, rfl⟩, p _ w1 H1 M1 st q.2⟩
    | _ => exact seq q
/-! ### sum, max, min, abs, all, any, sorted -/
theorem we_sum {p : Pos} (hc : X.calm = true) (hm : X.mg "sum" = none) (h : WE X W e sl M fun d M1 => ∃ ns : List Int, lsOf M1 d = some (ns.map .int) ∧ Q (.int ns.sum) M1) (hg : Gl X "sum" := by rfl) (he : starEach [e] X.env = (false, eval e X.env) :: starEach [] X.env := by rfl) : WE X W (.Call (.Name "sum" p) [e] [] pos) sl M Q :=
  we_cb (cr_sum hc) hm (by decide +kernel) (wa_cons (h.mono fun d M1 ⟨ns, hl, q⟩ => wa_nil fun w H vs m r Q' p => by
    obtain ⟨v, rfl, rv⟩ := r.one
    obtain ⟨ad, us, rfl, h1, r1⟩ := ls_at m rv hl
    rw [r1.ints_of] at h1
    exact ⟨ad, ns, rfl, .inl (.inl h1), p _ _ w H M1 (Step.refl m) (.int _) q⟩) he) hg (he := he)
theorem we_max {p : Pos} (hc : X.calm = true) (hm : X.mg "max" = none) (h : WE X W e sl M fun d M1 => ∃ ns : List Int, lsOf M1 d = some (ns.map .int) ∧ 0 < ns.length ∧ ∀ z, z ∈ ns → (∀ y, y ∈ ns → y ≤ z) → Q (.int z) M1) (hg : Gl X "max" := by rfl) (he : starEach [e] X.env = (false, eval e X.env) :: starEach [] X.env := by rfl) : WE X W (.Call (.Name "max" p) [e] [] pos) sl M Q :=
  we_cb (cr_max hc) hm (by decide +kernel) (wa_cons (h.mono fun d M1 ⟨ns, hl, hn, q⟩ => wa_nil fun w H vs m r Q' p => by
    obtain ⟨v, rfl, rv⟩ := r.one
    obtain ⟨ad, us, rfl, h1, r1⟩ := ls_at m rv hl
    rw [r1.ints_of] at h1
    exact ⟨ad, ns, rfl, .inl (.inl h1), hn, fun z h1 h2 => p _ _ w H M1 (Step.refl m) (.int _) (q z h1 h2)⟩) he) hg (he := he)
theorem we_all {p : Pos} (hc : X.calm = true) (hm : X.mg "all" = none) (h : WE X W e sl M fun d M1 => ∃ bs : List Bool, lsOf M1 d = some (bs.map .bl) ∧ Q (.bl (bs.all id)) M1) (hg : Gl X "all" := by rfl) (he : starEach [e] X.env = (false, eval e X.env) :: starEach [] X.env := by rfl) : WE X W (.Call (.Name "all" p) [e] [] pos) sl M Q :=
  we_cb (cr_all hc) hm (by decide +kernel) (wa_cons (h.mono fun d M1 ⟨ns, hl, q⟩ => wa_nil fun w H vs m r Q' p => by
    obtain ⟨v, rfl, rv⟩ := r.one
    obtain ⟨ad, us, rfl, h1, r1⟩ := ls_at m rv hl
    rw [r1.bls_of] at h1
    exact ⟨ad, ns, rfl, .inl (.inl h1), p _ _ w H M1 (Step.refl m) (.bl _) q⟩) he) hg (he := he)
theorem we_any {p : Pos} (hc : X.calm = true) (hm : X.mg "any" = none) (h : WE X W e sl M fun d M1 => ∃ bs : List Bool, lsOf M1 d = some (bs.map .bl) ∧ Q (.bl (bs.any id)) M1) (hg : Gl X "any" := by rfl) (he : starEach [e] X.env = (false, eval e X.env) :: starEach [] X.env := by rfl) : WE X W (.Call (.Name "any" p) [e] [] pos) sl M Q :=
  we_cb (cr_any hc) hm (by decide +kernel) (wa_cons (h.mono fun d M1 ⟨ns, hl, q⟩ => wa_nil fun w H vs m r Q' p => by
    obtain ⟨v, rfl, rv⟩ := r.one
    obtain ⟨ad, us, rfl, h1, r1⟩ := ls_at m rv hl
    rw [r1.bls_of] at h1
    exact ⟨ad, ns, rfl, .inl (.inl h1), p _ _ w H M1 (Step.refl m) (.bl _) q⟩) he) hg (he := he)
/-- sorted(xs) of ints -/
theorem we_sorted {p : Pos} (hm : X.mg "sorted" = none) (h : WE X W e sl M fun d M1 => ∃ ns : List Int, lsOf M1 d = some (ns.map .int) ∧ ∀ ns' : List Int, ns'.Perm ns → ns'.Pairwise (· ≤ ·) → New Q (ns'.map .int) M1) (hg : Gl X "sorted" := by rfl) (he : starEach [e] X.env = (false, eval e X.env) :: starEach [] X.env := by rfl) : WE X W (.Call (.Name "sorted" p) [e] [] pos) sl M Q :=
  we_cb cr_sortedI hm (by decide +kernel) (wa_cons (h.mono fun d M1 ⟨ns, hl, q⟩ => wa_nil fun w H vs m r Q' p => by
    obtain ⟨v, rfl, rv⟩ := r.one
    obtain ⟨ad, us, rfl, h1, r1⟩ := ls_at m rv hl
    rw [r1.ints_of] at h1
    exact ⟨ad, ns, rfl, .inl (.inl h1), fun ns' x h1 h2 hx => new_ok m p Reps.ints (q ns' h1 h2) hx⟩) he) hg (he := he)
end
end Dl
set_option maxHeartbeats 2000000
namespace Dl
open PySem L2
section
variable {X : Cx} {CX : CXT} {k : Nat} {f C : Addr} {fd : FuncData} {ps : List Str} {sp : Sp} {dvs : List V} {ds : List Value} {E : St → XK} {x m : Str} {p pos apos : Pos} {e o : Expr} {es : List Expr} {ta : TE} {t : TA}
/-! ### C(..), o.m(..), where what is raised is wished for at the slots -/
theorem run_makeS {pins : List (Addr × Obj)} {σ : St} {H : Hp} {s : Shared} {Q : VK} {us : List Value} {vs : List V} (M : Mk X.K C f) (F : FnOk X.prog X.w X.K X.mg X.base CX k f fd ps sp) (hr : Room (k + 1) X.A) (hb : Binds X.K fd ps ds) (hd : Vals dvs ds)
    (hx : PassesAt CX X σ (E σ)) (I : Inv X pins σ H s) (r : Vals vs us)
    (h : ∀ x dx, H x = none → H dx = none → dx ≠ x → sp (.ref x :: (vs ++ dvs)) (upd (upd H dx (.own x)) x (.ins C dx [])) (fun v H2 => v = .non ∧ Q (.ref x) H2) (E σ)) :
    wpAny (model X.prog X.w) X.A (call (.ref C) us) (EP X pins σ Q) X.xe s := by
  have hq := h (s.heap.objs.size + 1) s.heap.objs.size (I.hok.fresh (Nat.le_succ _)) (I.hok.fresh (Nat.le_refl _)) (Nat.ne_of_lt (Nat.lt_succ_self _))
  have I2 := Inv.made (C := C) I
  have r2 : Vals (V.ref (s.heap.objs.size + 1) :: (vs ++ dvs)) (Value.ref (s.heap.objs.size + 1) :: (us ++ ds)) := .cons rfl (r.append hd)
  have hl : (Value.ref (s.heap.objs.size + 1) :: us ++ ds).length = ps.length := by
    have e := r2.length
    rw [F.len _ _ _ _ hq] at e
    exact e.symm
  refine wpAny_call (make_map (f := f) I.kIn M.makes M.init (beq_iff_eq.mp M.fn) (codeAny_mono (F.run _ X.stack _ _ ⟨Value.ref (s.heap.objs.size + 1) :: us, []⟩ (Value.ref (s.heap.objs.size + 1) :: (us ++ ds)) _ _ (E σ) (hr.make C us [])
    (I2.env0.make C us []) (hb _ (Value.ref (s.heap.objs.size + 1) :: us) I2.kIn hl) r2 hq) fun r s' hq' => ?_))
  cases r with
  | error e => exact hx pins _ _ e s' I2 hq'
  | ok fl =>
    cases fl with
    | ret u =>
      obtain ⟨v, H', I3, rv, ev, q3⟩ := I2.after hq'
      subst ev
      exact ⟨rv, ⟨V.ref (s.heap.objs.size + 1), H', I3, rfl, q3⟩⟩
    | next => exact False.elim hq'
    | brk => exact False.elim hq'
    | cont => exact False.elim hq'
def tMakeS (C : Addr) (sp : Sp) (dvs : List V) (E : St → XK) (t : TA) : TE := fun σ H Q => t σ H fun vs H1 => ∀ x dx, H1 x = none → H1 dx = none → dx ≠ x →
  sp (.ref x :: (vs ++ dvs)) (upd (upd H1 dx (.own x)) x (.ins C dx [])) (fun v H2 => v = .non ∧ Q (.ref x) H2) (E σ)
theorem pe_makeS (M : Mk X.K C f) (F : FnOk X.prog X.w X.K X.mg X.base CX k f fd ps sp) (hr : Room (k + 1) X.A) (hg : Gl X x) (hm : X.mg x = some (.ref C)) (hb : Binds X.K fd ps ds) (hd : Vals dvs ds) (hx : ∀ σ, PassesAt CX X σ (E σ))
    (ha : PA X (e :: es) t) (hdb : (x == ("__debug__" : Str)) = false := by decide) (he : starEach (e :: es) X.env = (false, eval e X.env) :: starEach es X.env := by rfl) (hpl : (backTo pos (starEach es X.env)).any (·.1) = false := by rfl) :
    PE X (.Call (.Name x p) (e :: es) [] pos) (tMakeS C sp dvs E t) := by
  refine ⟨fun pins s σ H Q I h => ?_⟩
  refine wpAny_Call_Name_kw (ld_glob I hg hm ?_ hdb)
  refine PySem.W.callWith_K (h₀ := X.base) I.ok.mod.kin M.kp (thn (ha.run pos pins s σ H _ I h) fun us s1 ⟨vs, H1, I1, r, q⟩ => ⟨I1.kIn, ?_⟩) he hpl
  exact run_makeS M F hr hb hd (hx σ) I1 r q
def tMethS (C : Addr) (m : Str) (sp : Sp) (dvs : List V) (E : St → XK) (ta : TE) (t : TA) : TE := fun σ H Q => ta σ H fun x H1 => ∃ a dx fs, x = .ref a ∧ H1 a = some (.ins C dx fs) ∧ fs.lookup m = none ∧
  t σ H1 fun vs H2 => sp (x :: (vs ++ dvs)) H2 Q (E σ)
theorem pe_methS {pl : Sem Bool} (he : PE X o ta) (c : Cls X.K C) (hm : Meth X.K C m f) (F : FnOk X.prog X.w X.K X.mg X.base CX k f fd ps sp) (hr : Room k X.A) (hb : Binds X.K fd ps ds) (hd : Vals dvs ds) (hx : ∀ σ, PassesAt CX X σ (E σ)) (ha : PA X (e :: es) t)
    (hst : starEach (e :: es) X.env = (false, eval e X.env) :: starEach es X.env := by rfl) (hpl : (backTo pos (starEach es X.env)).any (·.1) = false := by rfl)
    (ht : eval (.Call (.Attribute o m apos) (e :: es) [] pos) X.env = (do
      let ov ← eval o X.env
      standAt apos.atName
      let (f, first) ← holding [ov] (getMethod ov m pl)
      callWith pos f first (backTo pos (starEach (e :: es) X.env)) (backToKw pos (keywordEach [] X.env))) := by rfl) :
    PE X (.Call (.Attribute o m apos) (e :: es) [] pos) (tMethS C m sp dvs E ta t) := by
  refine ⟨fun pins s σ H Q I h => ?_⟩
  refine PySem.W.methodCall_KW (pl := pl) (thn (he.run pins s σ H _ I h) fun u s1 ⟨x, H1, I1, rx, a, dx, fs, ex, ea, l, q⟩ => ?_) ht
  subst ex
  obtain rfl : u = Value.ref a := rx
  refine getmeth_ok I1 ea c hm l ?_
  refine PySem.W.callWith_K (first := [.ref a]) (h₀ := X.base) I.ok.mod.kin hm.kp (thn (ha.run pos pins s1 σ H1 _ I1 q) fun us s2 ⟨vs, H2, I2, r, q2⟩ => ⟨I2.kIn, ?_⟩) hst hpl
  exact run_fnSD (us := .ref a :: us) (vs := .ref a :: vs) F hr hb hd (hx σ) I2 (.cons rfl r) q2
theorem pe_methS0 {pl : Sem Bool} (he : PE X o ta) (c : Cls X.K C) (hm : Meth X.K C m f) (F : FnOk X.prog X.w X.K X.mg X.base CX k f fd ps sp) (hr : Room k X.A) (hb : Binds X.K fd ps ds) (hd : Vals dvs ds) (hx : ∀ σ, PassesAt CX X σ (E σ))
    (ht : eval (.Call (.Attribute o m apos) [] [] pos) X.env = (do
      let ov ← eval o X.env
      standAt apos.atName
      let (f, first) ← holding [ov] (getMethod ov m pl)
      callWith pos f first (backTo pos (starEach [] X.env)) (backToKw pos (keywordEach [] X.env))) := by rfl) :
    PE X (.Call (.Attribute o m apos) [] [] pos) (tMethS C m sp dvs E ta tNil) := by
  refine ⟨fun pins s σ H Q I h => ?_⟩
  refine PySem.W.methodCall_KW (pl := pl) (thn (he.run pins s σ H _ I h) fun u s1 ⟨x, H1, I1, rx, a, dx, fs, ex, ea, l, q⟩ => ?_) ht
  subst ex
  obtain rfl : u = Value.ref a := rx
  refine getmeth_ok I1 ea c hm l ?_
  exact PySem.W.callWith_K0 (first := [.ref a]) I1.kIn hm.kp (run_fnSD (us := [.ref a]) (vs := [.ref a]) F hr hb hd (hx σ) I1 (.cons rfl .nil) q)
/-- a == b, a an instance of the class at C with its own ==, b another one -/
theorem op_eqOwn {n : Nat} (F : FnOk X.prog X.w X.K X.mg X.base CX n f fd ps sp) (hr : Room n X.A)
    (hs : PySem.W.findIn X.K (.ref C) "__eq__" = some (some (.ref f))) (hf : PySem.W.isFn X.K (.ref f) = true) (hb : Binds X.K fd ps []) (hx : Passes CX X E0) :
    OpR X (compareOp .Eq) fun x y H Q => ∃ a b dx dy fs gs, x = .ref a ∧ y = .ref b ∧ H a = some (.ins C dx fs) ∧ H b = some (.ins C dy gs) ∧ sp [.ref a, .ref b] H (fun v H' => ∃ c, v = .bl c ∧ Q v H') E0 := by
  intro pins s σ H x y u v Q I rx ry h
  obtain ⟨a, b, dx, dy, fs, gs, rfl, rfl, ha, hb', hsp⟩ := h
  cases rx
  cases ry
  show wpAny (model X.prog X.w) X.A (richCompare .Eq (.ref a) (.ref b)) (EP X pins σ Q) X.xe s
  obtain ⟨mA, J, _⟩ := ins_get I.hok ha
  obtain ⟨mB, J', _⟩ := ins_get I.hok hb'
  obtain ⟨od, J, _⟩ := J.look
  obtain ⟨od', J', _⟩ := J'.look
  obtain ⟨m, hF⟩ := I.fr
  refine PySem.W.cmp_K (op := .Eq) (tb := .ref C) hr.units0 hF I.ok.mod.kin J J'.type (by simp [PySem.W.notFirst]) hs hf ?_
  have run := run_fn (Q := fun v H' => ∃ c, v = .bl c ∧ Q v H') (us := [.ref a, .ref b]) (vs := [.ref a, .ref b]) (dvs := []) (ds := []) F hr hb .nil hx I (.cons rfl (.cons rfl .nil)) (by simpa using hsp)
  refine thn run fun v s' ⟨z, H', I', rz, c, ez, q⟩ => ?_
  subst ez
  cases rz
  exact ⟨.bl c, H', I', rfl, q⟩
end
section
variable {X : Cx} {W : XD} {e a b c o : Expr} {es : List Expr} {sl : Slots} {M : Mem} {Q : QD} {pos : Pos} {f : Str}
/-! ### attributes -/
def FldD (K : PySem.W.Frag) (f : Str) (d : D) (M : Mem) (Q : QD) : Prop := match d with
  | .ins C fs => Cls K C ∧ NoAttr K C f ∧ ∃ v, fs.lookup f = some v ∧ Q v M
  | .mr n => ∃ C fs v, M[n]? = some (some (.ins C fs)) ∧ Cls K C ∧ NoAttr K C f ∧ fs.lookup f = some v ∧ Q v M
  | _ => False
theorem we_fld (h : WE X W e sl M fun d M1 => FldD X.K f d M1 Q) (hb : attributeBase e f X.env (eval e X.env) = eval e X.env := by rfl) : WE X W (.Attribute e f pos) sl M Q :=
  WE.of (pe_fld pE hb) fun w H σ m s tk Q' p => h w H σ m s tk _ fun v d w1 H1 M1 st r q => by
    cases r with
    | ins h1 r1 =>
      obtain ⟨hc, hn, d, hl, q⟩ := q
      obtain ⟨u, hu, ru⟩ := r1.lookup hl
      exact ⟨_, _, _, _, u, rfl, st.hold.sub _ _ h1, hc, hn, hu, p _ _ w1 H1 M1 st ru q⟩
    | mr hn =>
      obtain ⟨C, fs, d, hM, hc, hn, hl, q⟩ := q
      obtain ⟨_, _, dx, vs, hv, rv⟩ := st.hold.ob _ _ hM
      obtain ⟨u, hu, ru⟩ := rv.lookup hl
      exact ⟨_, _, _, _, u, rfl, hv, hc, hn, hu, p _ _ w1 H1 M1 st ru q⟩
    | _ => exact q.elim
/-- C.f, a constant of the class -/
theorem we_cval {C : Addr} {mc : Value} {v : V} {u : Value} {dv : D} (r : ClX.CRead X.K C mc) (k : ClX.CVal X.K C mc f v u) (rv : ∀ w, Rep X.K w v dv) (h : WE X W e sl M fun d M1 => d = .rf C ∧ Q dv M1) (hb : attributeBase e f X.env (eval e X.env) = eval e X.env := by rfl) : WE X W (.Attribute e f pos) sl M Q :=
  WE.of (ClX.pe_cval pE hb) fun w H σ m s tk Q' p => h w H σ m s tk _ fun v1 d w1 H1 M1 st r1 ⟨e, q⟩ => by
    subst e
    cases r1
    exact ⟨C, mc, v, u, rfl, r, k, p _ _ w1 H1 M1 st (rv w1) q⟩
/-! ### calls -/
/-- an instance of the class at C: where it stands -/
theorem ins_at {K : PySem.W.Frag} {w : Wd} {H : Hp} {v : V} {d : D} {C : Addr} {fs : List (Str × D)} (m : HoldM K w H M) (r : Rep K w v d) (h : d = .ins C fs ∨ ∃ n, d = .mr n ∧ M[n]? = some (some (.ins C fs))) : ∃ a dx vs, v = .ref a ∧ H a = some (.ins C dx vs) ∧ RepF K w vs fs := by
  rcases h with rfl | ⟨n, rfl, e⟩
  · cases r with
    | ins h1 r1 => exact ⟨_, _, _, rfl, m.sub _ _ h1, r1⟩
  · cases r
    obtain ⟨_, _, dx, vs, hv, rv⟩ := m.ob _ _ e
    exact ⟨_, _, _, rfl, hv, rv⟩
section
variable {k : Nat} {g : Addr} {fd : FuncData} {ps : List Str} {S : Spec} {x m : Str} {p apos : Pos} {C : Addr}
structure IsDef (P : Program) (wd : World) (K : PySem.W.Frag) (mg : Str → Option Value) (base : Heap) (k : Nat) (x : Str) (ps : List Str) (S : Spec) : Prop where
  ex : ∃ f fd, FnOk P wd K mg base (L2.CX P wd) k f fd ps (lift K S) ∧ mg x = some (.ref f) ∧ PySem.W.keepIn K (.ref f) = true ∧ Binds K fd ps []
theorem reps_nil {K : PySem.W.Frag} : ∀ w, Reps K w [] [] := fun _ => .nil
theorem we_def (io : List Nat) (F : IsDef X.prog X.w X.K X.mg X.base k x ps S) (hr : Room k X.A) (h : WA X W (e :: es) sl M fun ds M1 => CallD S io W sl Q ds M1)
    (hg : Gl X x := by rfl) (hdb : (x == ("__debug__" : Str)) = false := by decide) (he : starEach (e :: es) X.env = (false, eval e X.env) :: starEach es X.env := by rfl) (hpl : (backTo pos (starEach es X.env)).any (·.1) = false := by rfl) :
    WE X W (.Call (.Name x p) (e :: es) [] pos) sl M Q := by
  obtain ⟨f, fd, F, hm, hk, hb⟩ := F.ex
  refine we_call io F hr hm hk hb .nil reps_nil ?_ hg hdb he hpl
  intro w H σ m s tk Q' p
  refine h w H σ m s tk Q' fun vs ds w' H' M' st r q => p vs ds w' H' M' st r ?_
  show CallD S io W sl Q (ds ++ []) M'
  rw [List.append_nil]
  exact q
/-- a pure call: what is handed on speaks of no object of the caller's memory -/
theorem CallD.pure {ds : List D} (h : D.pures ds = true) (hs : S ds [] (fun d _ => Q d M) (fun l _ => New Q l M) (fun C fs _ => W C fs sl M)) : CallD S [] W sl Q ds M := by
  refine ⟨ds, [], ?_, ioOk_nil, hs⟩
  clear hs
  induction ds with
  | nil => exact .nil
  | cons d ds ih =>
    simp only [D.pures, Bool.and_eq_true] at h
    exact .cons (.pur h.1) (ih h.2)
/-- a method -/
structure IsMeth (P : Program) (wd : World) (K : PySem.W.Frag) (mg : Str → Option Value) (base : Heap) (k : Nat) (C : Addr) (m : Str) (ps : List Str) (S : Spec) : Prop where
  cl : Cls K C
  ex : ∃ f fd, FnOk P wd K mg base (L2.CX P wd) k f fd ps (lift K S) ∧ Meth K C m f ∧ Binds K fd ps []
theorem we_meth {pl : Sem Bool} (io : List Nat) (F : IsMeth X.prog X.w X.K X.mg X.base k C m ps S) (hr : Room k X.A)
    (h : WE X W o sl M fun d M1 => ∃ fs, (d = .ins C fs ∨ ∃ n, d = .mr n ∧ M1[n]? = some (some (.ins C fs))) ∧ fs.lookup m = none ∧ WA X W (e :: es) sl M1 fun ds M2 => CallD S io W sl Q (d :: ds) M2)
    (hst : starEach (e :: es) X.env = (false, eval e X.env) :: starEach es X.env := by rfl) (hpl : (backTo pos (starEach es X.env)).any (·.1) = false := by rfl)
    (ht : eval (.Call (.Attribute o m apos) (e :: es) [] pos) X.env = (do
      let ov ← eval o X.env
      standAt apos.atName
      let (f, first) ← holding [ov] (getMethod ov m pl)
      callWith pos f first (backTo pos (starEach (e :: es) X.env)) (backToKw pos (keywordEach [] X.env))) := by rfl) : WE X W (.Call (.Attribute o m apos) (e :: es) [] pos) sl M Q := fun w H σ hm s tk Q' po pins sh I => by
  obtain ⟨f, fd, F', hm', hb⟩ := F.ex
  refine (pe_methS (pl := pl) (E := fun σ cls d H' => WXof X.K W w H cls d σ H') pE F.cl hm' F' hr hb .nil (fun σ => passAt tk σ) pA hst hpl ht).run pins sh σ H Q' I ?_
  refine h w H σ hm s tk _ fun v d w1 H1 M1 st1 r1 q1 => ?_
  obtain ⟨fs, hd, hl, q1⟩ := q1
  obtain ⟨a, dx, vs, rfl, ha, rf⟩ := ins_at st1.hold r1 hd
  refine ⟨a, dx, vs, rfl, ha, rf.lookup_none hl, q1 w1 H1 σ st1.hold (s.mono st1.le) (tk.mono st1) _ fun us ds w2 H2 M2 st2 r2 q2 => ?_⟩
  have st := st1.trans st2
  have c := call_ok (σ := σ) st2.hold (s.mono st.le) (.cons (r1.mono st2.le) r2) (po.mono st) q2
  rw [List.append_nil]
  refine lift_mono c fun cls d H' z => ?_
  obtain ⟨C, fs, sl', M', w', e, st', z⟩ := z
  exact ⟨C, fs, sl', M', w', e, st.trans st', z⟩
theorem we_meth0 {pl : Sem Bool} (io : List Nat) (F : IsMeth X.prog X.w X.K X.mg X.base k C m ps S) (hr : Room k X.A)
    (h : WE X W o sl M fun d M1 => ∃ fs, (d = .ins C fs ∨ ∃ n, d = .mr n ∧ M1[n]? = some (some (.ins C fs))) ∧ fs.lookup m = none ∧ CallD S io W sl Q [d] M1)
    (ht : eval (.Call (.Attribute o m apos) [] [] pos) X.env = (do
      let ov ← eval o X.env
      standAt apos.atName
      let (f, first) ← holding [ov] (getMethod ov m pl)
      callWith pos f first (backTo pos (starEach [] X.env)) (backToKw pos (keywordEach [] X.env))) := by rfl) : WE X W (.Call (.Attribute o m apos) [] [] pos) sl M Q := fun w H σ hm s tk Q' po pins sh I => by
  obtain ⟨f, fd, F', hm', hb⟩ := F.ex
  refine (pe_methS0 (pl := pl) (E := fun σ cls d H' => WXof X.K W w H cls d σ H') pE F.cl hm' F' hr hb .nil (fun σ => passAt tk σ) ht).run pins sh σ H Q' I ?_
  refine h w H σ hm s tk _ fun v d w1 H1 M1 st1 r1 q1 => ?_
  obtain ⟨fs, hd, hl, q1⟩ := q1
  obtain ⟨a, dx, vs, rfl, ha, rf⟩ := ins_at st1.hold r1 hd
  refine ⟨a, dx, vs, rfl, ha, rf.lookup_none hl, ?_⟩
  have c := call_ok (σ := σ) st1.hold (s.mono st1.le) (.cons r1 .nil) (po.mono st1) q1
  refine (show lift X.K S [.ref a] H1 Q' (fun cls d H' => WXof X.K W w H cls d σ H') from ?_)
  refine lift_mono c fun cls d H' z => ?_
  obtain ⟨C, fs, sl', M', w', e, st', z⟩ := z
  exact ⟨C, fs, sl', M', w', e, st1.trans st', z⟩
/-- a property; its getter raises nothing -/
structure IsProp (P : Program) (wd : World) (K : PySem.W.Frag) (mg : Str → Option Value) (base : Heap) (k : Nat) (C : Addr) (f : Str) (ps : List Str) (S : Spec) : Prop where
  cl : Cls K C
  ex : ∃ p g fd, PropOf K C f p g ∧ FnOk P wd K mg base (L2.CX P wd) k g fd ps (lift K S) ∧ Binds K fd ps []
theorem we_prop (F : IsProp X.prog X.w X.K X.mg X.base k C f ps S) (hr : Room (k + 1) X.A) (h : WE X W e sl M fun d M1 => ∃ fs, (d = .ins C fs ∨ ∃ n, d = .mr n ∧ M1[n]? = some (some (.ins C fs))) ∧ CallD S [] W0 sl Q [d] M1)
    (hb : attributeBase e f X.env (eval e X.env) = eval e X.env := by rfl) : WE X W (.Attribute e f pos) sl M Q := by
  obtain ⟨p, g, fd, hp, F', hb'⟩ := F.ex
  refine WE.of (pe_prop pE F.cl hp F' hr hb' .nil (E := E0) passL hb) fun w H σ m s tk Q' po => h w H σ m s tk _ fun v d w1 H1 M1 st1 r1 q1 => ?_
  obtain ⟨fs, hd, q1⟩ := q1
  obtain ⟨a, dx, vs, rfl, ha, rf⟩ := ins_at st1.hold r1 hd
  refine ⟨a, dx, vs, rfl, ha, ?_⟩
  have c := call_ok (σ := σ) st1.hold (s.mono st1.le) (.cons r1 .nil) (po.mono st1) q1
  exact lift_mono c fun cls d H' ⟨_, _, _, _, _, _, _, _, _, z⟩ => z.elim
/-- a class that is called: its __init__ -/
structure IsCls (P : Program) (wd : World) (K : PySem.W.Frag) (mg : Str → Option Value) (base : Heap) (k : Nat) (C : Addr) (x : Str) (ps : List Str) (S : Spec) : Prop where
  glob : mg x = some (.ref C)
  ex : ∃ f fd, Mk K C f ∧ FnOk P wd K mg base (L2.CX P wd) k f fd ps (lift K S) ∧ Binds K fd ps []
/-- C(e, ..): the new object is the last one of the memory while __init__ runs; behind it, it stays as it is, or it goes on as an object of the memory -/
def NewI (C : Addr) (Q : QD) (fs : List (Str × D)) (M : Mem) : Prop := Q (.ins C fs) M ∨ Q (.mr M.length) (M ++ [some (.ins C fs)])
theorem New.takeI {K : PySem.W.Frag} {w w2 : Wd} {H H2 : Hp} {M2 : Mem} {a C dx : Addr} {us : List (Str × V)} {fs : List (Str × D)} {Q : QD} {Q' : VK} (st : Step K w H w2 H2 M2) (hp : H a = none) (hv : H2 a = some (.ins C dx us)) (out : Out w2 M2 a) (ru : RepF K w2 us fs) (po : Post K w H Q Q') (n : NewI C Q fs M2) : Q' (.ref a) H2 := by
  have far : ∀ i o, M2[i]? = some (some o) → w2.ρ i ≠ a := fun i o e => out.ρ i (by rw [← st.hold.len]; exact (List.getElem?_eq_some_iff.mp e).1)
  rcases n with q | q
  · have le : w2.le { w2 with F := upd w2.F a (.ins C dx us) } := ⟨fun b u e => by show upd w2.F a _ b = _; rw [upd_ne (ne_of_none e out.F)]; exact e, Same.refl _, Nat.le_refl _, fun _ _ => rfl⟩
    refine po _ _ { w2 with F := upd w2.F a (.ins C dx us) } H2 M2 ⟨st.le.trans le, st.eB, ⟨fun b u e => ?_, st.hold.bor, st.hold.len, fun i o e => ?_, st.hold.inj, st.hold.all⟩, st.fr, st.dom, fun b e => ?_, st.nr⟩ (.ins upd_same (ru.mono le)) q
    · have e' : upd w2.F a (.ins C dx us) b = some u := e
      by_cases hb : b = a
      · subst hb; rw [upd_same] at e'; rw [hv]; exact e'
      · rw [upd_ne hb] at e'; exact st.hold.sub b u e'
    · obtain ⟨h1, h2, h3⟩ := st.hold.ob i o e
      exact ⟨by show upd w2.F a _ (w2.ρ i) = none; rw [upd_ne (far i o e)]; exact h1, h2, h3.mono le rfl⟩
    · by_cases hb : b = a
      · exact .inr (by rw [hb]; exact hp)
      · have e' : upd w2.F a (.ins C dx us) b ≠ none := e
        rw [upd_ne hb] at e'
        exact st.nf b e'
  · have le := w2.le_add a
    have hl := st.hold.len
    have old : ∀ i u, i < M2.length → (M2 ++ [some (MO.ins C fs)])[i]? = some (some u) → M2[i]? = some (some u) ∧ (w2.add a).ρ i = w2.ρ i := fun i u hi e => by
      rw [List.getElem?_append_left hi] at e
      exact ⟨e, le.ρ i (by rw [← hl]; exact hi)⟩
    have new : ∀ i u, ¬ i < M2.length → (M2 ++ [some (MO.ins C fs)])[i]? = some (some u) → i = M2.length ∧ u = .ins C fs ∧ (w2.add a).ρ i = a := fun i u hi e => by
      have hz : i < (M2 ++ [some (MO.ins C fs)]).length := (List.getElem?_eq_some_iff.mp e).1
      have : i = M2.length := by simp at hz; omega
      subst this
      simp at e
      exact ⟨rfl, e.symm, by rw [hl]; exact w2.add_ρ a⟩
    have rp : Rep K (w2.add a) (.ref a) (.mr M2.length) := by
      have z : Rep K (w2.add a) (.ref ((w2.add a).ρ M2.length)) (.mr M2.length) := .mr (by rw [hl]; exact Nat.lt_succ_self _)
      rw [hl, w2.add_ρ a] at z
      rw [hl]
      exact z
    refine po _ _ (w2.add a) H2 _ ⟨st.le.trans le, st.eB, ⟨st.hold.sub, st.hold.bor, by simp [hl, Wd.add], fun i u e => ?_, fun i j u v ei ej e => ?_, fun i hi => ?_⟩, st.fr, st.dom, st.nf, fun j x y => ?_⟩ rp q
    · by_cases hi : i < M2.length
      · obtain ⟨e1, e2⟩ := old i u hi e
        obtain ⟨h1, h2, h3⟩ := st.hold.ob i u e1
        rw [e2]
        exact ⟨h1, h2, h3.mono le rfl⟩
      · obtain ⟨e0, e1, e2⟩ := new i u hi e
        rw [e2, e1]
        exact ⟨out.F, out.B, dx, us, hv, ru.mono le⟩
    · by_cases hi : i < M2.length
      · obtain ⟨a1, a2⟩ := old i u hi ei
        by_cases hj : j < M2.length
        · obtain ⟨b1, b2⟩ := old j v hj ej
          exact st.hold.inj i j u v a1 b1 (by rw [← a2, ← b2]; exact e)
        · obtain ⟨_, _, b2⟩ := new j v hj ej
          rw [a2, b2] at e
          exact absurd e (far i u a1)
      · obtain ⟨a0, _, a2⟩ := new i u hi ei
        by_cases hj : j < M2.length
        · obtain ⟨b1, b2⟩ := old j v hj ej
          rw [a2, b2] at e
          exact absurd e.symm (far j v b1)
        · obtain ⟨b0, _, _⟩ := new j v hj ej
          rw [a0, b0]
    · by_cases hj : i < w2.n
      · rw [le.ρ i hj]; exact st.hold.all i hj
      · have b' : i < w2.n + 1 := hi
        have : i = w2.n := by omega
        subst this
        rw [w2.add_ρ a, hv]; simp
    · by_cases hj : j < w2.n
      · rw [le.ρ j hj]; exact st.nr j x hj
      · have b' : j < w2.n + 1 := y
        have : j = w2.n := by omega
        subst this
        rw [w2.add_ρ a]
        exact hp

theorem pass0_rep {K : PySem.W.Frag} {wS wc : Wd} (hF : Same wS.F wc.F) (hB : Same wS.B wc.B) {v : V} {d e : D} (r : Rep K wS v e) (hp : Pass [] M d e) : Rep K wc v e := by
  cases hp with
  | pur hd => exact Rep.pur hF r hd
  | io hj => simp at hj
  | lent _ hd _ => cases r with | bor h1 h2 => exact .bor (hB _ _ h1) (Reps.pur hF h2 hd)
  | bor hd => cases r with | bor h1 h2 => exact .bor (hB _ _ h1) (Reps.pur hF h2 hd)
theorem pass0_reps {K : PySem.W.Frag} {wS wc : Wd} (hF : Same wS.F wc.F) (hB : Same wS.B wc.B) : ∀ {vs : List V} {ds es : List D}, Reps K wS vs es → PassL [] M ds es → Reps K wc vs es
  | _, _, _, .nil, .nil => .nil
  | _, _, _, .cons r t, .cons p q => .cons (pass0_rep hF hB r p) (pass0_reps hF hB t q)
theorem we_make (F : IsCls X.prog X.w X.K X.mg X.base k C x ps S) (hr : Room (k + 1) X.A) (h : WA X W (e :: es) sl M fun ds M1 => ∃ es', PassL [] M1 ds es' ∧ S (.mr 0 :: es') [some (.ins C [])] (fun d M' => d = .non ∧ ∃ fs, M' = [some (.ins C fs)] ∧ NewI C Q fs M1) (fun _ _ => False) (fun C' fs _ => W C' fs sl M1))
    (hg : Gl X x := by rfl) (hdb : (x == ("__debug__" : Str)) = false := by decide) (he : starEach (e :: es) X.env = (false, eval e X.env) :: starEach es X.env := by rfl) (hpl : (backTo pos (starEach es X.env)).any (·.1) = false := by rfl) :
    WE X W (.Call (.Name x p) (e :: es) [] pos) sl M Q := fun w H σ m s tk Q' po pins sh I => by
  obtain ⟨f, fd, mk, F', hb⟩ := F.ex
  refine (pe_makeS (E := fun σ cls d H' => WXof X.K W w H cls d σ H') mk F' hr hg F.glob hb .nil (fun σ => passAt tk σ) pA hdb he hpl).run pins sh σ H Q' I ?_
  refine h w H σ m s tk _ fun vs ds w1 H1 M1 st1 r1 ⟨es', hp, hs⟩ => ?_
  intro a dx ha hdx hne
  rw [List.append_nil]
  have m1 := st1.hold
  have stA : Step X.K w1 H1 w1 (upd H1 dx (.own a)) M1 := m1.newN hdx
  have hna : upd H1 dx (.own a) a = none := by rw [upd_ne (Ne.symm hne)]; exact ha
  have stB : Step X.K w1 (upd H1 dx (.own a)) w1 (upd (upd H1 dx (.own a)) a (.ins C dx [])) M1 := stA.hold.newN hna
  have st0 := stA.trans stB
  generalize hH : upd (upd H1 dx (.own a)) a (.ins C dx []) = H0 at *
  have h0a : H0 a = some (.ins C dx []) := by rw [← hH]; exact upd_same
  have m0 := st0.hold
  have out0 : Out w1 M1 a := ⟨m1.sub.free ha, m1.bor.free ha, fun i hi z => m1.all i hi (by rw [z]; exact ha)⟩
  have hio : IoOk [] M1 [] := ioOk_nil
  have mS := subW_hold m0 hio
  have rS := subW_passL m0 hio (r1.mono st0.le) hp
  -- the callee's world
  have Bx : (subW [] w1 H0 M1).B a = none := by
    rw [subW_B_not fun k o q1 _ q3 => out0.ρ k (by rw [← m1.len]; exact (List.getElem?_eq_some_iff.mp q1).1) q3]
    exact out0.B
  let wc : Wd := { F := w1.F, B := (subW [] w1 H0 M1).B, ρ := fun _ => a, n := 1 }
  have mc : HoldM X.K wc H0 [some (.ins C [])] := ⟨m0.sub, mS.bor, rfl, fun i o e => by
    cases i with
    | zero => simp at e; subst e; exact ⟨out0.F, Bx, dx, [], h0a, .nil⟩
    | succ i => simp at e, fun i j o u e e' _ => by
    have h1 := (List.getElem?_eq_some_iff.mp e).1
    have h2 := (List.getElem?_eq_some_iff.mp e').1
    simp at h1 h2
    omega, fun i hi => by show H0 a ≠ none; rw [h0a]; simp⟩
  have rc : Reps X.K wc vs es' := pass0_reps (wS := subW [] w1 H0 M1) (wc := wc) (fun _ _ z => z) (fun _ _ z => z) rS hp
  have ra : Rep X.K wc (.ref a) (.mr 0) := Rep.mr (K := X.K) (w := wc) (n := 0) Nat.zero_lt_one
  -- behind the callee
  have back : ∀ {w' : Wd} {H' : Hp} {M' : Mem}, Step X.K wc H0 w' H' M' → Step X.K w1 H1 { w1 with F := w'.F } H' M1 ∧ Out { w1 with F := w'.F } M1 a := by
    intro w' H' M' st
    have le : w1.le { w1 with F := w'.F } := ⟨st.le.F, Same.refl _, Nat.le_refl _, fun _ _ => rfl⟩
    have keep : ∀ b o, H1 b = some o → H' b = some o := fun b o e => by
      have hba : b ≠ a := ne_of_none e ha
      refine st.fr b o ?_ fun j _ z => hba z.symm
      rw [← hH, upd_ne hba, upd_ne (ne_of_none e hdx)]
      exact e
    have dom0 : ∀ b, H1 b ≠ none → H0 b ≠ none := st0.dom
    have notF : ∀ b, w1.F b = none → H0 b ≠ none → w'.F b = none := fun b e1 e2 => by
      cases q : w'.F b with
      | none => rfl
      | some z =>
        rcases st.nf b (by rw [q]; simp) with y | y
        · exact absurd e1 y
        · exact absurd y e2
    refine ⟨⟨le, rfl, ⟨st.hold.sub, fun b u e => ?_, m1.len, fun i o e => ?_, m1.inj, fun i hi => st.dom _ (dom0 _ (m1.all i hi))⟩, fun b o e _ => keep b o e, fun b e => st.dom b (dom0 b e), fun b e => ?_, fun j x y => absurd (Nat.lt_of_lt_of_le y x) (Nat.lt_irrefl _)⟩, ⟨notF a out0.F (by rw [h0a]; simp), out0.B, out0.ρ⟩⟩
    · have e' : w1.B b = some u := e
      refine st.hold.bor b u ?_
      rw [st.eB]
      show (subW [] w1 H0 M1).B b = some u
      rw [subW_B_not fun k o q1 q2 q3 => by
        obtain ⟨_, y, _⟩ := m1.ob k o q1
        rw [q3, e'] at y
        cases y]
      exact e'
    · obtain ⟨h1, h2, h3⟩ := m1.ob i o e
      obtain ⟨u, hu⟩ := h3.some
      exact ⟨notF _ h1 (dom0 _ (by rw [hu]; simp)), h2, h3.mono le ((keep _ _ hu).trans hu.symm)⟩
    · rcases st.nf b e with y | y
      · exact .inl y
      · refine .inr ?_
        cases q : H1 b with
        | none => rfl
        | some z => exact absurd y (dom0 b (by rw [q]; simp))
  refine ⟨wc, .mr 0 :: es', [some (.ins C [])], _, _, _, mc, .cons ra rc, hs, ?_, ?_, ?_⟩
  · rintro v d w' H' M' st hn rv pd mp ⟨rfl, fs, rfl, n⟩
    cases rv
    refine ⟨rfl, ?_⟩
    obtain ⟨stX, outX⟩ := back st
    obtain ⟨_, _, dx', us, hu, ru⟩ := st.hold.ob 0 (.ins C fs) rfl
    have e0 : w'.ρ 0 = a := st.le.ρ 0 Nat.zero_lt_one
    rw [e0] at hu
    exact New.takeI stX ha hu outX (RepF.pur (w := w') (w' := { w1 with F := w'.F }) (fun _ _ z => z) ru (mp 0 _ rfl)) (po.mono st1) n
  · intro _ _ _ _ _ _ _ _ _ _ _ _ _ _ _ z
    exact z.elim
  · intro C' d fs w' H' M' st hn xf pf mp q
    obtain ⟨stX, outX⟩ := back st
    refine ⟨C', fs, sl, M1, _, rfl, st1.trans stX, s.mono (st1.trans stX).le, ?_, q⟩
    rcases xf with ⟨x1, x2⟩ | ⟨dd, vfs, x1, x2, x3⟩
    · exact .inl ⟨x1, x2⟩
    · exact .inr ⟨dd, vfs, x1, x2, RepF.pur (w := w') (w' := { w1 with F := w'.F }) (fun _ _ z => z) x3 pf⟩
end
end
end Dl
set_option maxHeartbeats 2000000
namespace Dl
open PySem L2
section
variable {X : Cx} {W : XD} {e a b c o : Expr} {es : List Expr} {sl : Slots} {M : Mem} {Q : QD} {pos : Pos} {f : Str}
/-! ### == by an own __eq__ -/
section
variable {k : Nat} {ps : List Str} {S : Spec} {C : Addr}
structure IsEq (P : Program) (wd : World) (K : PySem.W.Frag) (mg : Str → Option Value) (base : Heap) (k : Nat) (C : Addr) (ps : List Str) (S : Spec) : Prop where
  ex : ∃ f fd, FnOk P wd K mg base (L2.CX P wd) k f fd ps (lift K S) ∧ PySem.W.findIn K (.ref C) "__eq__" = some (some (.ref f)) ∧ PySem.W.isFn K (.ref f) = true ∧ Binds K fd ps []
def OwnD (S : Spec) (C : Addr) (sl : Slots) (x y : D) (M : Mem) (Q : Bool → Mem → Prop) : Prop :=
  ∃ fs gs, (x = .ins C fs ∨ ∃ n, x = .mr n ∧ M[n]? = some (some (.ins C fs))) ∧ (y = .ins C gs ∨ ∃ n, y = .mr n ∧ M[n]? = some (some (.ins C gs))) ∧ CallD S [] W0 sl (fun d M => ∃ b, d = .bl b ∧ Q b M) [x, y] M
theorem rd_own (x y : D) (M : Mem) (Q : QD) (h : OwnD S C sl x y M (asB Q)) : RD X.K (fun x y H Q => ∃ a b dx dy fs gs, x = .ref a ∧ y = .ref b ∧ H a = some (.ins C dx fs) ∧ H b = some (.ins C dy gs) ∧ lift X.K S [.ref a, .ref b] H (fun v H' => ∃ c, v = .bl c ∧ Q v H') E0) x y M Q := by
  intro w H vx vy m rx ry Q' p
  obtain ⟨fs, gs, h1, h2, hc⟩ := h
  obtain ⟨a, dx, us, rfl, ha, _⟩ := ins_at m rx h1
  obtain ⟨b, dy, vs, rfl, hb, _⟩ := ins_at m ry h2
  refine ⟨a, b, dx, dy, us, vs, rfl, rfl, ha, hb, ?_⟩
  obtain ⟨es', Mc, hp, hio, hs⟩ := hc
  have c := call_ok (X := X) (σ := []) (sl := []) (W := W0) (Q := fun d M => ∃ b, d = .bl b ∧ asB Q b M) (Q' := fun v H' => ∃ c, v = .bl c ∧ Q' v H') m ⟨rfl, fun i d e => by simp at e⟩ (.cons rx (.cons ry .nil)) (fun v d w' H' M' st r ⟨b, e, q⟩ => by
    subst e
    cases r
    exact ⟨b, rfl, p _ _ w' H' M' st (.bl _) q⟩) ⟨es', Mc, hp, hio, hs⟩
  exact lift_mono c fun cls d H' ⟨_, _, _, _, _, _, _, _, _, z⟩ => z.elim
theorem we_eqOwn (F : IsEq X.prog X.w X.K X.mg X.base k C ps S) (hr : Room k X.A) (h : WE X W a sl M fun x M1 => WE X W b sl M1 fun y M2 => OwnD S C sl x y M2 (asB Q)) : WE X W (.Compare a [.Eq] [b] pos) sl M Q := by
  obtain ⟨f, fd, F', hs, hf, hb⟩ := F.ex
  exact we_cmp (P := fun x y M Q => OwnD S C sl x y M (asB Q)) (op_eqOwn F' hr hs hf hb passL) rd_own h (nomark _)
theorem OwnD.mono {x y : D} {P Q : Bool → Mem → Prop} (h : OwnD S C sl x y M P) (kk : ∀ es Mc, S es Mc (fun d M' => ∃ b, d = .bl b ∧ P b (putIo [] M M')) (fun ds M' => New (fun d M => ∃ b, d = .bl b ∧ P b M) ds (putIo [] M M')) (fun C fs M' => W0 C fs sl (putIo [] M M')) → S es Mc (fun d M' => ∃ b, d = .bl b ∧ Q b (putIo [] M M')) (fun ds M' => New (fun d M => ∃ b, d = .bl b ∧ Q b M) ds (putIo [] M M')) (fun C fs M' => W0 C fs sl (putIo [] M M'))) : OwnD S C sl x y M Q := by
  obtain ⟨fs, gs, h1, h2, es', Mc, hp, hio, hs⟩ := h
  exact ⟨fs, gs, h1, h2, es', Mc, hp, hio, kk _ _ hs⟩
theorem wt_eqOwn {Q : Bool → Mem → Prop} (F : IsEq X.prog X.w X.K X.mg X.base k C ps S) (hr : Room k X.A) (h : WE X W a sl M fun x M1 => WE X W b sl M1 fun y M2 => OwnD S C sl x y M2 fun b M => ∃ c, D.bl b = .bl c ∧ Q c M) : WT X W (.Compare a [.Eq] [b] pos) sl M Q := by
  obtain ⟨f, fd, F', hs, hf, hb⟩ := F.ex
  exact wt_op (P := fun x y M Q => OwnD S C sl x y M (asB Q)) (op_eqOwn F' hr hs hf hb passL) rd_own h (nomark _)
end
/-! ### isinstance -/
/-- the type of a datum -/
def tyD (M : Mem) : D → Option String
  | .non => some "NoneType"
  | .bl _ => some "bool"
  | .int _ => some "int"
  | .str _ => some "str"
  | .tup _ => some "tuple"
  | .xt _ => some "tuple"
  | .lst _ => some "list"
  | .bor _ => some "list"
  | .mr n => match M[n]? with
    | some (some (.lst _)) => some "list"
    | _ => none
  | _ => none
theorem tyX_of {K : PySem.W.Frag} {w : Wd} {H : Hp} {v : V} {d : D} {t : String} (m : HoldM K w H M) (r : Rep K w v d) (h : tyD M d = some t) : TyX K H v (.type t) := by
  cases r with
  | non => cases h; exact .base .non
  | bl b => cases h; exact .base (.bl b)
  | int b => cases h; exact .base (.int b)
  | str b => cases h; exact .base (.str b)
  | tup h1 r1 =>
    cases h
    rcases sqT_mono m.sub h1 with (h1 | ⟨o, h1⟩) | h1
    · exact .base (.tup h1)
    · exact .fTuple h1
    · obtain ⟨o, its, n, e, c, _⟩ := h1
      exact .kTuple e c
  | xt h1 hd r1 => cases h; exact .fTuple (m.sub _ _ h1)
  | lst h1 r1 => cases h; exact .base (.lst (m.sub _ _ h1))
  | bor h1 r1 => cases h; exact .base (.lst (m.bor _ _ h1))
  | mr hn =>
    rename_i n
    unfold tyD at h
    simp only at h
    split at h
    · rename_i ds e
      cases h
      obtain ⟨_, _, vs, hv, _⟩ := m.ob n _ e
      exact .base (.lst hv)
    · cases h
  | _ => cases h
theorem boot_isi : bootBuiltins "isinstance" = some (.builtin "isinstance") := by decide +kernel
/-- isinstance(x, T), T a built-in class, x no instance of an own class -/
theorem we_isi {p p1 : Pos} {T : Str} {Ts : String} (hm : X.mg "isinstance" = none) (hT : X.mg T = none) (hv : bootBuiltins T = some (.type Ts)) (h : WE X W e sl M fun d M1 => ∃ t b, tyD M1 d = some t ∧ kitB t Ts = some b ∧ Q (.bl b) M1) (hg : Gl X "isinstance" := by rfl) (hgT : Gl X T := by rfl)
    (hn : T ≠ "__name__" := by decide) (hdb : (T == ("__debug__" : Str)) = false := by decide)
    (he : starEach [e, .Name T p1] X.env = (false, eval e X.env) :: starEach [.Name T p1] X.env := by rfl) : WE X W (.Call (.Name "isinstance" p) [e, .Name T p1] [] pos) sl M Q :=
  we_cb call_isi hm boot_isi (wa_cons (h.mono fun d M1 ⟨t, b, h1, h2, q⟩ => wa_cons (we_c (v := .ty Ts) (d := .ty Ts) (pe_bltn hgT hT hv rfl hn hdb) (fun _ => .ty Ts) (wa_nil fun w H vs m r Q' p => by
    obtain ⟨v, u, rfl, rv, ru⟩ := r.two
    cases ru
    exact ⟨v, .ty Ts, _, _, b, rfl, .ty Ts, tyX_of m rv h1, kit_ty h2, p _ _ w H M1 (Step.refl m) (.bl _) q⟩))) he) hg (he := he)
/-- what isinstance asks of an own class -/
structure InstC (K : PySem.W.Frag) (C : Addr) : Prop where
  cl : Cls K C
  ha : PySem.W.findIn K (.ref C) "__class__" = some (some (.builtin "object.__class__"))
  hn : PySem.W.specialIn K (.builtin "object.__class__") "__get__" = some (some (.builtin "getset_descriptor.__get__"))
  htk : PySem.W.takesIn K (.builtin "object.__class__") = some true
  hm : PySem.W.mroIn K C (.type "object") = some true
/-- isinstance(x, C), C an own class, x an instance of C -/
theorem we_isiOwn {p p1 : Pos} {x : Str} {C : Addr} (I : InstC X.K C) (hm : X.mg "isinstance" = none) (hx : X.mg x = some (.ref C)) (h : WE X W e sl M fun d M1 => ∃ fs, (d = .ins C fs ∨ ∃ n, d = .mr n ∧ M1[n]? = some (some (.ins C fs))) ∧ Q (.bl true) M1) (hg : Gl X "isinstance" := by rfl) (hgx : Gl X x := by rfl)
    (hdb : (x == ("__debug__" : Str)) = false := by decide) (he : starEach [e, .Name x p1] X.env = (false, eval e X.env) :: starEach [.Name x p1] X.env := by rfl) : WE X W (.Call (.Name "isinstance" p) [e, .Name x p1] [] pos) sl M Q :=
  we_cb call_isi hm boot_isi (wa_cons (h.mono fun d M1 ⟨fs, h1, q⟩ => wa_cons (we_glob hx (wa_nil fun w H vs m r Q' p => by
    obtain ⟨v, u, rfl, rv, ru⟩ := r.two
    cases ru
    obtain ⟨a, dx, us, rfl, ha, _⟩ := ins_at m rv h1
    exact ⟨_, .ref C, .ref C, .ref C, true, rfl, .own C, .base (.ins ha I.cl I.ha I.hn I.htk I.hm), by unfold PySem.W.kitOne; rw [if_pos (by simp)], p _ _ w H M1 (Step.refl m) (.bl _) q⟩) hgx hdb)) he) hg (he := he)
/-! ### t.index(i), a tuple of ints -/
theorem mt_tup_indexI : MtR X "tuple.index" (fun x xs H Q => ∃ p, ∃ ys : List Int, ∃ z j, x = .ref p ∧ xs = [.int z] ∧ SqT X.K H p (ys.map V.int) ∧ ys[j]? = some z ∧ (∀ m, m < j → ys[m]? ≠ some z) ∧ Q (.int (j : Nat)) H) := by
  intro pins s σ H x xs v us Q I rx rs h
  obtain ⟨p, ys, z, j, rfl, rfl, hq, hy, hno, q⟩ := h
  cases rx
  obtain ⟨u, rfl, t, rfl⟩ := vals1 rs
  obtain ⟨its, r, pl, hz⟩ := I.tuple hq
  obtain ⟨⟨cls, dd, dt, sl⟩, ho, hc, n, hd⟩ := pl
  simp only at hc hd
  subst hc
  subst hd
  have hl : its.toArray.size = ys.length := by rw [List.size_toArray, ← r.length, List.length_map]
  have hj : j < its.toArray.size := by rw [hl]; exact (List.getElem?_eq_some_iff.mp hy).1
  have at' : ∀ (m : Nat) (hm : m < its.toArray.size), ∃ y t', ys[m]? = some y ∧ its.toArray[m] = Value.int y t' := fun m hm => by
    have hm' : m < ys.length := by rw [← hl]; exact hm
    obtain ⟨w, hw, t', hw'⟩ := r.get (i := m) (x := .int ys[m]) (by simp [hm'])
    refine ⟨ys[m], t', List.getElem?_eq_getElem hm', ?_⟩
    have e := (List.getElem?_eq_some_iff.mp hw).2
    rw [← hw', ← e]
    simp
  have fl : (ys.map V.int).all flatV = true := by rw [List.all_map]; exact List.all_eq_true.mpr fun _ _ => rfl
  refine call_meets PySem.F.slot_tuple_index ⟨_, ho, rfl⟩ PySem.F.entry_tuple_index (PySem.F.args_tuple_index_2 _ _) (TI.tuple_indexAt p its.toArray n dd sl (.int z t) (eqU (.int z)) j hj ?_ ?_)
    ⟨ho, fun w hw => mem_eqAt (x := .int z) ⟨t, rfl⟩ rfl r fl w (by simpa using hw), ⟨.int (j : Nat), H, I.tok _, ⟨_, rfl⟩, q⟩⟩
  · obtain ⟨y, t', h1, h2⟩ := at' j hj
    rw [hy] at h1
    cases h1
    rw [h2]
    show (z == z) = true
    exact beq_self_eq_true z
  · intro m hm hmj
    obtain ⟨y, t', h1, h2⟩ := at' m hm
    rw [h2]
    have ne : y ≠ z := fun e => hno m hmj (by rw [h1, e])
    show (y == z) = false
    simpa using ne

/-- t.index(e), t an exact tuple of ints -/
theorem we_tindex {apos cpos : Pos} (h : WE X W o sl M fun x M1 => ∃ ys : List Int, x = .xt (ys.map .int) ∧ WE X W e sl M1 fun d M2 => ∃ z j, d = .int z ∧ ys[j]? = some z ∧ (∀ m, m < j → ys[m]? ≠ some z) ∧ Q (.int (j : Nat)) M2)
    (hbase : attributeBase o "index" X.env (eval o X.env) = eval o X.env := by rfl)
    (hfew : ((backTo cpos (starEach [e] X.env)).all (fun x => !x.1) && (backToKw cpos (keywordEach [] X.env)).all (fun x => x.1.isSome) && decide ([e].length + ([] : List Keyword).length + (if ([] : List Keyword).isEmpty then 0 else 1) < 30)) = true := by rfl)
    (hline : (apos.endLine == cpos.line) = true := by rfl) (hs : starEach [e] X.env = (false, eval e X.env) :: starEach [] X.env := by rfl) : WE X W (.Call (.Attribute o "index" apos) [e] [] cpos) sl M Q := fun w H σ m s tk Q' po pins sh I => by
  refine PySem.wpAny_Call_method_late hbase hfew hline rfl (thn (h w H σ m s tk (fun x H1 => ∃ a o vs, x = .ref a ∧ H1 a = some (.frz o (.tup vs)) ∧ o.dict = none ∧ cA X [e] σ H1 fun us H2 => ∃ (p : Addr) (ys : List Int) (z : Int) (j : Nat), V.ref a = .ref p ∧ us = [.int z] ∧ SqT X.K H2 p (ys.map V.int) ∧ ys[j]? = some z ∧ (∀ m, m < j → ys[m]? ≠ some z) ∧ Q' (.int (j : Nat)) H2) (fun v d w1 H1 M1 st1 r1 q1 => ?_) pins sh I) fun v s1 ⟨x, H1, I1, r1, a, ob, vs, ex, ha, hd, q1⟩ => ?_)
  · obtain ⟨ys, rfl, q1⟩ := q1
    cases r1 with
    | xt h1 hd r1 =>
      have e := r1.ints_of
      subst e
      refine ⟨_, _, _, rfl, st1.hold.sub _ _ h1, hd, (wa_one q1 hs) w1 H1 σ st1.hold (s.mono st1.le) (tk.mono st1) _ fun us ds w2 H2 M2 st2 r2 q2 => ?_⟩
      obtain ⟨d, rfl, z, j, rfl, hj, hno, q⟩ := q2
      obtain ⟨u, rfl, ru⟩ := r2.one
      cases ru
      exact ⟨_, ys, z, j, rfl, rfl, .inl (.inr ⟨_, st2.hold.sub _ _ (st2.le.F _ _ h1)⟩), hj, hno, po _ _ w2 H2 M2 (st1.trans st2) (.int _) q⟩
  · subst ex
    cases r1
    obtain ⟨hg, ht⟩ : s1.heap.get? a = some ob ∧ ObjOk X.prog X.w H1 s1.heap a (.tup vs) := I1.hok a _ ha
    obtain ⟨_, its, rv, ob', hg', hc, n, hdt⟩ := ht
    rw [hg] at hg'
    cases hg'
    refine ⟨"tuple", "tuple.index", PySem.F.plainAttrs_tuple, PySem.F.slot_tuple_index, PySem.F.type_tuple_index, ⟨ob, hg, hc⟩, fun b eb => by cases eb; exact ⟨ob, hg, hd⟩, ?_⟩
    have hA := q1 cpos pins s1 I1
    rw [hs] at hA ⊢
    refine Calls.callWith_builtin rfl (Calls.evalArgs_plain ?_)
    exact thn hA fun us s2 ⟨xs, H2, I2, r2, q2⟩ => mt_tup_indexI pins s2 σ H2 (.ref a) xs _ us Q' I2 rfl r2 q2
end
end Dl
set_option maxHeartbeats 2000000
namespace Dl
open PySem L2 PySem.Spec PyProof.Rows
section
variable {prog : Program} {w : World} {A : Around} {E : Value → Shared → Prop} {s : Shared}
theorem adjust_rev (n : Nat) : Builtin.Slice.sliceAdjust none none (-1) (n : Int) = ((n : Int) - 1, -1) := by
  unfold Builtin.Slice.sliceAdjust
  simp
theorem places_rev (n : Nat) : Builtin.Slice.slicePlaces ((n : Int) - 1) (-1) (-1) = n := by
  unfold Builtin.Slice.slicePlaces
  by_cases h : n = 0
  · subst h; rfl
  · have h1 : ¬ ((-1 : Int) > 0) := by decide
    have h2 : (n : Int) - 1 > -1 := by omega
    simp only [h1, if_false, h2, if_true]
    rw [show (- -1 : Int) = 1 by decide, Int.ediv_one]
    omega
theorem pick_rev (xs : Array Value) : ((List.range xs.size).filterMap fun (m : Nat) => xs[(((xs.size : Int) - 1) + (m : Int) * (-1)).toNat]?).toArray = xs.toList.reverse.toArray := by
  have e : (List.range xs.size).filterMap (fun (m : Nat) => xs[(((xs.size : Int) - 1) + (m : Int) * (-1)).toNat]?) = ((List.range xs.size).map fun k => xs.size - 1 - k).filterMap (xs[·]?) := by
    rw [List.filterMap_map]
    have e2 : (fun (m : Nat) => xs[(((xs.size : Int) - 1) + (m : Int) * (-1)).toNat]?) = ((fun x => xs[x]?) ∘ fun k => xs.size - 1 - k) := by
      funext m
      show xs[_]? = xs[xs.size - 1 - m]?
      have : (((xs.size : Int) - 1) + (m : Int) * (-1)).toNat = xs.size - 1 - m := by omega
      rw [this]
    rw [e2]
  rw [e, PySem.W.krv_range, List.filterMap_reverse, PySem.W.krv_all]
theorem sliceApplied_rev {sl : Addr} {vl vu vs : Value} {n : Nat} {Q : Int × Int × Nat → Shared → Prop} (hs : s.heap.IsSliceOf sl vl vu vs) (pl : IsPart vl none) (pu : IsPart vu none) (ps : IsPart vs (some (-1)))
    (h : Q ((n : Int) - 1, -1, n) s) : wpAny (model prog w) A (Builtin.Slice.sliceApplied (.ref sl) (pure (n : Int))) Q E s := by
  obtain ⟨os, hos, hcs, hds⟩ := id hs
  unfold Builtin.Slice.sliceApplied Builtin.Slice.sliceFields
  refine wpAny_bind (wpAny_bind (wpAny_field hos hds (x := vl) rfl (wpAny_bind (wpAny_field hos hds (x := vu) rfl (wpAny_bind (wpAny_field hos hds (x := vs) rfl (wpAny_pure ?_)))))))
  refine wpAny_bind (HT.slicePart_ ps ?_)
  show wpAny _ _ (if ((-1 : Int) == 0) = true then _ else _) _ _ s
  rw [if_neg (by decide)]
  refine wpAny_bind (HT.slicePart_ pl (wpAny_bind (HT.slicePart_ pu (wpAny_bind (wpAny_pure ?_)))))
  show wpAny _ _ (match Builtin.Slice.sliceAdjust none none (-1) (n : Int) with | (lo, hi) => pure (lo, (-1 : Int), Builtin.Slice.slicePlaces lo hi (-1))) _ _ s
  rw [adjust_rev n]
  show wpAny _ _ (pure ((n : Int) - 1, (-1 : Int), Builtin.Slice.slicePlaces ((n : Int) - 1) (-1) (-1))) _ _ s
  rw [places_rev]
  exact wpAny_pure h
theorem getItem_tuple_rev {t sl : Addr} {items : Array Value} {vl vu vs : Value} {Q : Value → Shared → Prop} (ht : IsTup s.heap t items) (hs : s.heap.IsSliceOf sl vl vu vs) (pl : IsPart vl none) (pu : IsPart vu none) (ps : IsPart vs (some (-1)))
    (h : Q (.ref s.heap.objs.size) { s with heap := s.heap.push { cls := .type "tuple", data := .seq items.toList.reverse.toArray } }) (hsz : items.size ≤ sizeLine) : wpAny (model prog w) A (getItem (.ref t) (.ref sl)) Q E s := by
  have htake : sizeOk (.seq items.toList.reverse.toArray) := by
    show items.toList.reverse.toArray.size ≤ sizeLine
    simpa using hsz
  obtain ⟨os, hos, hcs, hds⟩ := id hs
  have hTs : s.TypeIs (.ref sl) "slice" := ⟨os, hos, hcs⟩
  unfold getItem
  try with_reducible refine wpAny_holding ?_
  first | refine wpAny_bind (wpAny_pure ?_) | skip
  refine wpAny_bind (wpAny_sequenceKey ht.typeIs (by decide) ?_)
  refine wpAny_bind (wpAny_callSpecial?_slot (name := Str.ofString "__getitem__") ht.typeIs PyProof.Rows.slot_tuple_getitem
    (wpAny_call_entry PyProof.Rows.slot_tuple_getitem ht.typeIs entry_tuple_getitem ?_ (args_tuple_getitem _ _)))
  show wpAny _ _ (Builtin.Tuple.tupleItemsOf (.ref t) >>= _) _ _ s
  refine wpAny_bind (tupleItemsOf_ ht ?_)
  refine wpAny_bind (wpAny_typeOf hTs ?_)
  rw [if_pos (by decide)]
  refine wpAny_bind (sliceApplied_rev hs pl pu ps ?_)
  have hno : ¬ ((((items.size : Int) - 1) == 0 && (-1 : Int) == 1 && items.size == items.size) = true) := by simp
  show wpAny _ _ (if (((items.size : Int) - 1) == 0 && (-1 : Int) == 1 && items.size == items.size) = true then _ else _) _ _ s
  rw [if_neg hno, pick_rev]
  first
    | exact wpAny_bind (m := Builtin.Tuple.tupleExact _) (wpAny_newObj_type (wpAny_pure ⟨_, rfl, wpAny_pure h⟩) htake)
    | exact wpAny_bind (m := Builtin.Tuple.tupleExact _) (wpAny_newObj_type (wpAny_bind (wpAny_pure (wpAny_pure ⟨_, rfl, wpAny_pure h⟩))) htake)
    | exact wpAny_bind (wpAny_bind (m := Builtin.Tuple.tupleExact _) (wpAny_newObj_type (wpAny_pure (wpAny_pure ⟨_, rfl, wpAny_pure h⟩)) htake))
    | exact wpAny_bind (wpAny_bind (m := Builtin.Tuple.tupleExact _) (wpAny_newObj_type (wpAny_pure ⟨_, rfl, wpAny_pure h⟩) htake))
end
section
variable {X : Cx}
def tRevT (K : PySem.W.Frag) (te : TE) : TE := fun σ H Q => te σ H fun x H1 => ∃ a xs, x = .ref a ∧ SqT K H1 a xs ∧ ∀ p, H1 p = none → Q (.ref p) (upd H1 p (.tup xs.reverse))
theorem pe_revT {e : Expr} {te : TE} {k : Nat} {p1 p2 p3 pos : Pos} (he : PE X e te) : PE X (.Subscript e (.Slice none none (some (.UnaryOp .USub (.Constant (.int 1) k p1) p2)) p3) pos) (tRevT X.K te) := by
  refine ⟨fun pins s σ H Q I h => ?_⟩
  refine Subscript_ (thn (he.run pins s σ H _ I h) fun v s1 ⟨x, H1, I1, r1, q1⟩ => ?_)
  obtain ⟨a, xs, ex, hx, q⟩ := q1
  subst ex
  cases r1
  have hst : PO X (some (.UnaryOp .USub (.Constant (.int 1) k p1) p2)) (tPart (tUn (rU fun i => .int (-i)) (tC (.int 1)))) := po_some (pe_un un_neg pe_int)
  refine wpAny_Slice (thn (po_none.run pins s1 σ H1 (fun o H2 => o = none ∧ H2 = H1) I1 ⟨rfl, rfl⟩) fun vl s2 ⟨l, H2, I2, pl, el, e2⟩ => ?_)
  subst el e2
  refine thn (po_none.run pins s2 σ H2 (fun o H3 => o = none ∧ H3 = H2) I2 ⟨rfl, rfl⟩) fun vu s3 ⟨u, H3, I3, pu, eu, e3⟩ => ?_
  subst eu e3
  refine thn (hst.run pins s3 σ H3 (fun o H4 => o = some (-1) ∧ H4 = H3) I3 ⟨1, rfl, -1, rfl, rfl, rfl⟩) fun vs s4 ⟨o, H4, I4, ps, eo, e4⟩ => ?_
  subst eo e4
  have I5 : Inv X pins σ H4 { s4 with heap := s4.heap.push { cls := .type "slice", data := .fields #[vl, vu, vs] } } := I4.kept (t' := s4.toks) fun b ob q => Heap.get?_push_of_some _ q
  obtain ⟨its, r, ht, hz⟩ := I5.tuple hx
  have hlen := r.length
  show wpAny (model X.prog X.w) X.A (subscriptTail e (.Slice none none (some (.UnaryOp .USub (.Constant (.int 1) k p1) p2)) p3) (.ref a) (.ref s4.heap.objs.size)) (EP X pins σ Q) X.xe { s4 with heap := s4.heap.push { cls := .type "slice", data := .fields #[vl, vu, vs] } }
  refine tail_any (ops := [.ref a, .ref s4.heap.objs.size]) ht.typeIs (PyProof.Rows.slot_tuple_getitem.lookup) ?_ (by with_unfolding_all rfl)
  refine getItem_tuple_rev ht (Heap.IsSliceOf.new _ vl vu vs) pl pu ps ?_ (by rw [List.size_toArray]; omega)
  have rr : Vals xs.reverse its.reverse := by
    clear hlen hz ht hx q
    induction r with
    | nil => exact .nil
    | cons h t ih => rw [List.reverse_cons, List.reverse_cons]; exact Vals.append ih (.cons h .nil)
  refine ⟨.ref _, _, I5.laid (t' := s4.toks) (o := .tup xs.reverse) (fun b ob q => Heap.get?_push_of_some _ q) (Nat.le_refl _) ?_, rfl, q _ (I5.hok.fresh (Nat.le_refl _))⟩
  exact ⟨by simpa using hz, its.reverse, rr, IsTup.new _ _⟩
variable {W : XD} {e : Expr} {sl : Slots} {M : Mem} {Q : QD} {pos p1 p2 p3 : Pos} {k : Nat}
theorem we_revT (h : WE X W e sl M fun d M1 => ∃ ds, tpP d = some ds ∧ Q (.tup ds.reverse) M1) : WE X W (.Subscript e (.Slice none none (some (.UnaryOp .USub (.Constant (.int 1) k p1) p2)) p3) pos) sl M Q :=
  WE.of (pe_revT pE) fun w H σ m s tk Q' p => h w H σ m s tk _ fun v d w1 H1 M1 st r ⟨ds, hd, q⟩ => by
    obtain ⟨a, vs, rfl, h1, r1⟩ := tp_at r hd
    exact ⟨a, vs, rfl, sqT_mono st.hold.sub h1, fun x hx => newT_ok st.hold (p.mono st) r1.reverse q hx⟩
theorem we_revL (h : WE X W e sl M fun d M1 => ∃ ds, lsOf M1 d = some ds ∧ New Q ds.reverse M1) : WE X W (.Subscript e (.Slice none none (some (.UnaryOp .USub (.Constant (.int 1) k p1) p2)) p3) pos) sl M Q :=
  WE.of (L2.pe_revL pE) fun w H σ m s tk Q' p => h w H σ m s tk _ fun v d w1 H1 M1 st r ⟨ds, hd, q⟩ => by
    obtain ⟨a, vs, rfl, h1, r1⟩ := ls_at st.hold r hd
    exact ⟨a, vs, rfl, .inl (.inl h1), fun x hx => new_ok st.hold (p.mono st) r1.reverse q hx⟩
end
/-! ### the law's end -/
def lawS : Spec := fun ds M Q QL E => ∃ ns : List Int, ds = [.scr ns] ∧ M = [] ∧ ns.length ≤ 63 ∧ Q (.bl true) []
theorem law_sp (K : PySem.W.Frag) (H : Hp) (a : Addr) (ns : List Int) (hl : ns.length ≤ 63) (hO : Only H) (hS : SqL K H a (ns.map V.int)) : lift K lawS [.ref a] H (fun v _ => v = .bl true) fun _ _ _ => False := by
  refine ⟨⟨H, fun _ => none, fun _ => 0, 0⟩, [.scr ns], [], fun d _ => d = .bl true, fun _ _ => False, fun _ _ _ => False, ⟨fun _ _ e => e, fun _ _ e => by simp at e, rfl, fun i o e => by simp at e, fun i j o u e => by simp at e, fun i hi => absurd hi (Nat.not_lt_zero _)⟩, .cons (.scr hS) .nil, ⟨ns, rfl, rfl, hl, rfl⟩, ?_, ?_, ?_⟩
  · intro v d w' H' M' _ _ r _ _ e
    subst e
    cases r
    rfl
  · intro _ _ _ _ _ _ _ _ _ _ _ _ _ _ _ z
    exact z.elim
  · intro _ _ _ _ _ _ _ _ _ _ _ z
    exact z
theorem walk {l : PySem.W.OpenLaw} {q : Program} {loose : List Str} {XP : (Str → Option Value) → Heap → Prop} {YP : World → Heap → Prop} {d : DefRec} {K : Params → PySem.W.Frag} {k : Nat} (x : Str) (hr : Room k callerA) (hn : l.most = some 63) (hdf : d.params.defaults = [])
    (hY : ∀ (w : World) (h : Heap), YP w h → (K w.params).In h)
    (F : ∀ (w : World) (mg : Str → Option Value) (fa : Addr) (h : Heap), (K w.params).In h → h.Ns mainGlobals mg → mg d.name = some (.ref fa) →
      ∃ fd : FuncData, (∀ (s : Shared) (u : Value), BindsTo s fd ⟨[u], []⟩ [(x, u)]) ∧ ∀ base : Heap, (K w.params).In base → base.Ns mainGlobals mg → FnOk l.prog w (K w.params) mg base (L2.CX l.prog w) k fa fd [x] (lift (K w.params) lawS)) :
    PySem.W.WalkO q loose XP YP l.row.toRowW d [] (fun f vs => PySem.call f vs) :=
  L2.walk_of (n := 63) (k := k) (x := x) (CX := fun w => L2.CX l.prog w) (sp := fun w => lift (K w.params) lawS) hn (by decide) hdf hr hY F (fun w H a ns hl hO hS => law_sp _ H a ns hl hO hS) fun w H s e s' z => by
    obtain ⟨_, _, _, _, _, _, _, _, _, _, _, _, z⟩ := z
    exact z
end Dl
set_option maxHeartbeats 2000000
namespace Dl
open PySem L2
section
variable {X : Cx} {W : XD} {e : Expr} {sl : Slots} {M : Mem}
theorem WT.mono {Q Q1 : Bool → Mem → Prop} (h : WT X W e sl M Q1) (k : ∀ d M', Q1 d M' → Q d M') : WT X W e sl M Q := fun w H σ m s tk Q' p => h w H σ m s tk Q' fun b w' H' M' st q => p b w' H' M' st (k b M' q)
theorem WW.mono {Q Q1 : Bool → Mem → Prop} (h : WW X W e sl M Q1) (k : ∀ d M', Q1 d M' → Q d M') : WW X W e sl M Q := fun w H σ m s tk Q' p => h w H σ m s tk Q' fun b w' H' M' st q => p b w' H' M' st (k b M' q)
end
section
variable {X : Cx} {W : XD} {c : Expr} {sl : Slots} {M : Mem} {pos : Pos} {E : DEnds} {body : List Stmt}
/-- while, the turns left kept by the invariant -/
theorem w1_whileN (F : Fine X) (Iv : Nat → Slots → Mem → Prop) (h0 : ∃ k, Iv k sl M)
    (h : ∀ k sl M, Iv k sl M → WT X W c sl M fun v M1 => Br v (WS X W body sl M1 { nx := fun sl' M' => ∃ k', k' < k ∧ Iv k' sl' M', ct := fun sl' M' => ∃ k', k' < k ∧ Iv k' sl' M', bk := E.nx, rt := E.rt }) (E.nx sl M1)) : W1 X W (.While c body [] pos) sl M E :=
  W1.of (ps_while F.po pT pSs) fun w H σ m s tk D l => by
    obtain ⟨k0, h0⟩ := h0
    refine ⟨fun k σ' H' => ∃ w' sl' M', Step X.K w H w' H' M' ∧ Sl X.K w' σ' sl' ∧ Iv k sl' M', ⟨k0, w, sl, M, Step.refl m, s, h0⟩, ?_⟩
    rintro k σ' H' ⟨w', sl', M', st, s', iv⟩
    refine h k sl' M' iv w' H' σ' st.hold s' (tk.mono st) _ fun v w2 H2 M2 st2 q => ?_
    refine Br.ite ⟨fun z => ?_, fun z => (l.mono (st.trans st2)).nx _ _ w2 H2 M2 (Step.refl st2.hold) (s'.mono st2.le) (q.2 z)⟩
    have sta := st.trans st2
    have end_ : LkS X.K w2 H2 (fun sl2 M2 => ∃ k', k' < k ∧ Iv k' sl2 M2) fun σ2 H2 => ∃ k' w' sl'' M'', Step X.K w H w' H2 M'' ∧ Sl X.K w' σ2 sl'' ∧ Iv k' sl'' M'' ∧ k' < k := fun σ4 sl4 w4 H4 M4 st4 s4 ⟨k', h1, h2⟩ => ⟨k', w4, sl4, M4, sta.trans st4, s4, h2, h1⟩
    exact ⟨_, fun σ2 H3 ⟨k', w4, sl4, M4, st4, s4, iv4, lt⟩ => ⟨k', lt, w4, sl4, M4, st4, s4, iv4⟩, q.1 z w2 H2 σ' st2.hold (s'.mono st2.le) (tk.mono sta) _ ⟨end_, (l.mono sta).rt, (l.mono sta).nx, end_⟩⟩
end
/-- rest of a test that is known -/
theorem Br.dec {p : Prop} [Decidable p] {c : Bool} {P Q : Prop} (h : c = decide p) (h1 : p → P) (h2 : ¬ p → Q) : Br c P Q := by subst h; exact Br.d h1 h2
end Dl
set_option maxHeartbeats 2000000
namespace Dl
open PySem L2
/-! ### equality of encoded data -/
structure Enc {α : Type} [DecidableEq α] (g : α → PyData) (k : Nat) : Prop where
  eq : ∀ a b, PyData.eqv (g a) (g b) = decide (a = b)
  lay : ∀ a, (g a).canLay0 = true
  dep : ∀ a, (g a).depth ≤ k
theorem Enc.int : Enc (fun i : Int => PyData.int i) 0 := ⟨fun a b => by simp only [PyData.eqv]; rw [Bool.eq_iff_iff]; simp, fun _ => by simp only [PyData.canLay0], fun _ => by simp only [PyData.depth]; omega⟩
theorem Enc.nat : Enc (fun i : Nat => PyData.int (i : Int)) 0 := ⟨fun a b => by simp only [PyData.eqv]; rw [Bool.eq_iff_iff]; simp; omega, fun _ => by simp only [PyData.canLay0], fun _ => by simp only [PyData.depth]; omega⟩
theorem Enc.bl : Enc (fun i : Bool => PyData.bool i) 0 := ⟨fun a b => by simp only [PyData.eqv]; rw [Bool.eq_iff_iff]; simp, fun _ => by simp only [PyData.canLay0], fun _ => by simp only [PyData.depth]; omega⟩
section
variable {α β : Type} [DecidableEq α] [DecidableEq β] {g : α → PyData} {g' : β → PyData} {k k' : Nat}
theorem Enc.all (h : Enc g k) : ∀ xs ys : List α, PyData.eqvAll (xs.map g) (ys.map g) = decide (xs = ys)
  | [], [] => by simp [PyData.eqvAll]
  | [], y :: ys => by simp [PyData.eqvAll]
  | x :: xs, [] => by simp [PyData.eqvAll]
  | x :: xs, y :: ys => by
    simp only [List.map_cons, PyData.eqvAll]
    rw [h.eq, h.all xs ys, Bool.eq_iff_iff]
    simp
theorem Enc.layAll (h : Enc g k) : ∀ xs : List α, PyData.canLayAll0 (xs.map g) = true
  | [] => by simp [PyData.canLayAll0]
  | x :: xs => by simp [PyData.canLayAll0, h.lay x, h.layAll xs]
theorem Enc.depAll (h : Enc g k) : ∀ xs : List α, PyData.depthAll (xs.map g) ≤ k
  | [] => by simp [PyData.depthAll]
  | x :: xs => by simp only [List.map_cons, PyData.depthAll]; exact Nat.max_le.mpr ⟨h.dep x, h.depAll xs⟩
theorem Enc.list (h : Enc g k) : Enc (fun xs : List α => PyData.list (xs.map g)) (k + 1) :=
  ⟨fun a b => by simp only [PyData.eqv]; exact h.all a b, fun a => by simp only [PyData.canLay0]; exact h.layAll a, fun a => by simp only [PyData.depth]; exact Nat.succ_le_succ (h.depAll a)⟩
theorem Enc.tuple (h : Enc g k) : Enc (fun xs : List α => PyData.tuple (xs.map g)) (k + 1) :=
  ⟨fun a b => by simp only [PyData.eqv]; exact h.all a b, fun a => by simp only [PyData.canLay0]; exact h.layAll a, fun a => by simp only [PyData.depth]; exact Nat.succ_le_succ (h.depAll a)⟩
theorem Enc.pair (h : Enc g k) (h' : Enc g' k') : Enc (fun p : α × β => PyData.tuple [g p.1, g' p.2]) (max k k' + 1) :=
  ⟨fun a b => by
    simp only [PyData.eqv, PyData.eqvAll]
    rw [h.eq, h'.eq, Bool.eq_iff_iff]
    obtain ⟨a1, a2⟩ := a
    obtain ⟨b1, b2⟩ := b
    simp, fun a => by simp [PyData.canLay0, PyData.canLayAll0, h.lay, h'.lay], fun a => by
    simp only [PyData.depth, PyData.depthAll]
    have h1 := h.dep a.1
    have h2 := h'.dep a.2
    omega⟩
theorem pyPs_map {f : α → D} (h : ∀ a, pyP (f a) = some (g a)) : ∀ xs : List α, pyPs (xs.map f) = some (xs.map g)
  | [] => rfl
  | x :: xs => by
    show (match pyP (f x), pyPs (xs.map f) with | some p, some ps => some (p :: ps) | _, _ => none) = _
    rw [pyPs_map h xs, h x]; rfl
theorem Enc.eqd {M : Mem} {x y : D} {a b : α} {Q : Bool → Mem → Prop} (h : Enc g k) (hk : k ≤ 64) (hx : pyOf M x = some (g a)) (hy : pyOf M y = some (g b)) (q : Q (decide (a = b)) M) : EqD x y M Q := by
  have s1 : SeqAt.shaped (g a) = true := by unfold SeqAt.shaped; rw [h.lay]; exact decide_eq_true (Nat.le_trans (h.dep a) hk)
  have s2 : SeqAt.shaped (g b) = true := by unfold SeqAt.shaped; rw [h.lay]; exact decide_eq_true (Nat.le_trans (h.dep b) hk)
  rw [← h.eq] at q
  have gen : ∃ p q', pyOf M x = some p ∧ pyOf M y = some q' ∧ SeqAt.shaped p = true ∧ SeqAt.shaped q' = true ∧ Q (PyData.eqv p q') M := ⟨_, _, hx, hy, s1, s2, q⟩
  cases x <;> cases y <;> first
    | exact gen
    | (have e1 := Option.some.inj hx
       have e2 := Option.some.inj hy
       rw [← e1, ← e2] at q
       simp only [PyData.eqv] at q
       exact q)
end
end Dl
set_option maxHeartbeats 2000000
namespace Dl
open PySem L2
/-! ### what the top has made, as facts that are looked up -/
section
variable {P : Program} {wd : World} {K : PySem.W.Frag} {mg : Str → Option Value} {base h : Heap} {x m qual : Str} {st : Stmt} {ps : List Str} {S : Spec} {k : Nat} {C : Addr}
def FnF (K : PySem.W.Frag) (x qual : Str) (st : Stmt) (f : Addr) : Prop := ∃ oc od sl kV dc pm an cd ct,
  K.lookup f = some ⟨oc, od, .func (PySem.W.fnOf x qual (defArgs st) (defBody st) (defScope st) .none kV dc pm an cd ct), sl⟩ ∧ PySem.W.codeIn K cd qual = true ∧ PySem.W.keepIn K (.ref f) = true
theorem FnF.mk {f : Addr} {oc : Value} {od : Option Addr} {sl : Array (Option Value)} {kV dc pm : Value} {an : Option Addr} {cd ct : Value} (l : K.lookup f = some ⟨oc, od, .func (PySem.W.fnOf x qual (defArgs st) (defBody st) (defScope st) .none kV dc pm an cd ct), sl⟩) (c : PySem.W.codeIn K cd qual = true) (kp : PySem.W.keepIn K (.ref f) = true) : FnF K x qual st f := ⟨oc, od, sl, kV, dc, pm, an, cd, ct, l, c, kp⟩
abbrev BindOk (x qual : Str) (st : Stmt) (ps : List Str) : Prop := ∀ (kV doc pm : Value) (an : Option Addr) (cdv ct : Value) (us : List Value), us.length = ps.length → bindArgs (PySem.W.fnOf x qual (defArgs st) (defBody st) (defScope st) .none kV doc pm an cdv ct) ⟨us, []⟩ = pure (ps.zip us)
theorem FnF.to {f : Addr} (F : FnF K x qual st f) (b : BindOk x qual st ps) : ∃ fd, L2.Fun K x qual st f fd ∧ Binds K fd ps [] ∧ PySem.W.keepIn K (.ref f) = true := by
  obtain ⟨oc, od, sl, kV, dc, pm, an, cd, ct, l, c, kp⟩ := F
  have G := fun_mk (st := st) l c kp
  exact ⟨_, G, G.binds (ps := ps) b, kp⟩
structure DefF (K : PySem.W.Frag) (x : Str) (st : Stmt) (f : Addr) : Prop where
  at_ : PySem.W.nsIn K mainGlobals x = some (some (.ref f))
  fn : FnF K x x st f
structure MethF (K : PySem.W.Frag) (C : Addr) (m qual : Str) (st : Stmt) (f : Addr) : Prop where
  at_ : PySem.W.findIn K (.ref C) m = some (some (.ref f))
  isf : PySem.W.isFn K (.ref f) = true
  fn : FnF K m qual st f
structure PropF (K : PySem.W.Frag) (C : Addr) (m qual : Str) (st : Stmt) (p g : Addr) : Prop where
  at_ : PySem.W.findIn K (.ref C) m = some (some (.ref p))
  get : PySem.W.specialIn K (.ref p) "__get__" = some (some (.builtin "property.__get__"))
  tak : PySem.W.takesIn K (.ref p) = some true
  rec_ : ∃ rest, PySem.W.recIn K p "property" = some (.ref g :: rest)
  fn : FnF K m qual st g
theorem PropF.mk' {p g : Addr} {rest : List Value} (a : PySem.W.findIn K (.ref C) m = some (some (.ref p))) (b : PySem.W.specialIn K (.ref p) "__get__" = some (some (.builtin "property.__get__"))) (c : PySem.W.takesIn K (.ref p) = some true) (d : PySem.W.recIn K p "property" = some (.ref g :: rest)) (e : FnF K m qual st g) : PropF K C m qual st p g := ⟨a, b, c, ⟨_, d⟩, e⟩
theorem DefF.is {f : Addr} (D : DefF K x st f) (X : K.In h) (G : h.Ns mainGlobals mg) (b : BindOk x x st ps) (ok : ∀ fd, L2.Fun K x x st f fd → FnOk P wd K mg base (L2.CX P wd) k f fd ps (lift K S)) : IsDef P wd K mg base k x ps S := by
  obtain ⟨fd, F, hb, kp⟩ := D.fn.to b
  exact ⟨f, fd, ok fd F, PySem.W.mg_of X G D.at_, kp, hb⟩
theorem MethF.is {f : Addr} (D : MethF K C m qual st f) (c : Cls K C) (b : BindOk m qual st ps) (ok : ∀ fd, L2.Fun K m qual st f fd → FnOk P wd K mg base (L2.CX P wd) k f fd ps (lift K S)) : IsMeth P wd K mg base k C m ps S := by
  obtain ⟨fd, F, hb, kp⟩ := D.fn.to b
  exact ⟨c, f, fd, ok fd F, ⟨D.at_, D.isf, kp⟩, hb⟩
theorem PropF.is {p f : Addr} (D : PropF K C m qual st p f) (c : Cls K C) (b : BindOk m qual st ps) (ok : ∀ fd, L2.Fun K m qual st f fd → FnOk P wd K mg base (L2.CX P wd) k f fd ps (lift K S)) : IsProp P wd K mg base k C m ps S := by
  obtain ⟨fd, F, hb, kp⟩ := D.fn.to b
  exact ⟨c, p, f, fd, ⟨D.at_, D.get, D.tak, D.rec_⟩, ok fd F, hb⟩
theorem MethF.eq {f : Addr} (D : MethF K C "__eq__" qual st f) (b : BindOk "__eq__" qual st ps) (ok : ∀ fd, L2.Fun K "__eq__" qual st f fd → FnOk P wd K mg base (L2.CX P wd) k f fd ps (lift K S)) : IsEq P wd K mg base k C ps S := by
  obtain ⟨fd, F, hb, kp⟩ := D.fn.to b
  exact ⟨f, fd, ok fd F, D.at_, D.isf, hb⟩
theorem MethF.init {f : Addr} (D : MethF K C "__init__" qual st f) (hC : mg x = some (.ref C)) (mk : PySem.W.makesIn K C = true) (kc : PySem.W.keepIn K (.ref C) = true) (b : BindOk "__init__" qual st ps) (ok : ∀ fd, L2.Fun K "__init__" qual st f fd → FnOk P wd K mg base (L2.CX P wd) k f fd ps (lift K S)) : IsCls P wd K mg base k C x ps S := by
  obtain ⟨fd, F, hb, kp⟩ := D.fn.to b
  exact ⟨hC, f, fd, ⟨mk, D.at_, D.isf, kc⟩, ok fd F, hb⟩
/-- the law itself -/
theorem law_end {l : PySem.W.OpenLaw} {f fa : Addr} (D : DefF K "law" st f) (X : K.In h) (G : h.Ns mainGlobals mg) (hfa : mg "law" = some (.ref fa)) (hb : ∀ kV dc pm an cd ct (s : Shared) (u : Value), BindsTo s (PySem.W.fnOf "law" "law" (defArgs st) (defBody st) (defScope st) .none kV dc pm an cd ct) ⟨[u], []⟩ [(x, u)])
    (ok : ∀ base fd, K.In base → base.Ns mainGlobals mg → L2.Fun K "law" "law" st f fd → FnOk l.prog wd K mg base (L2.CX l.prog wd) k f fd [x] (lift K lawS)) :
    ∃ fd : FuncData, (∀ (s : Shared) (u : Value), BindsTo s fd ⟨[u], []⟩ [(x, u)]) ∧ ∀ base : Heap, K.In base → base.Ns mainGlobals mg → FnOk l.prog wd K mg base (L2.CX l.prog wd) k fa fd [x] (lift K lawS) := by
  have e := hfa.symm.trans (PySem.W.mg_of X G D.at_)
  cases e
  obtain ⟨oc, od, sl, kV, dc, pm, an, cd, ct, l', c, kp⟩ := D.fn
  exact ⟨_, hb kV dc pm an cd ct, fun base b1 b2 => ok base _ b1 b2 (fun_mk (st := st) l' c kp)⟩
end
end Dl
set_option maxHeartbeats 4000000
namespace Dl.Pf
open PySem L2
def top (i : Nat) : Stmt := PySem.Challenge.pw_windowturns_k12_images_of_a_turn.main.body.getD i (.Pass ⟨0, 0, 0, 0⟩)
theorem memPure_nil : MemPure [] := fun i o h => by simp at h
theorem memPure_one {o : MO} (p : o.pure = true) : MemPure [some o] := fun i u h => by
  cases i with
  | zero => simp at h; subst h; exact p
  | succ i => simp at h
/-! ### draws -/
def srcOk (a b : Int) : Prop := b = 1 ∨ (b = 0 ∧ 0 ≤ a ∧ a < 2147483647)
abbrev srcO (a b : Int) : MO := .lst [.int a, .int b]
def cellS : Spec := fun ds M Q QL E => ∃ (ns : List Int) (k : Nat), ds = [.scr ns, .int (k : Nat)] ∧ M = [] ∧ Q (.int (ns.getD k 0)) []
def sourceS : Spec := fun ds M Q QL E => ∃ c : Int, ds = [.int c] ∧ M = [] ∧ ∀ a b, srcOk a b → QL [.int a, .int b] []
def drawS : Spec := fun ds M Q QL E => ∃ a b l : Int, ds = [.mr 0, .int l] ∧ M = [some (srcO a b)] ∧ srcOk a b ∧ 0 < l ∧ l < 1000000 ∧ ∀ d a', 0 ≤ d → d < l → srcOk a' b → Q (.int d) [some (srcO a' b)]
structure Bl (mg : Str → Option Value) : Prop where
  len : mg "len" = none
  int : mg "int" = none
  list : mg "list" = none
  range : mg "range" = none
  tuple : mg "tuple" = none
section
variable {P : Program} {wd : World} {K : PySem.W.Frag} {mg : Str → Option Value} {base : Heap}
abbrev s_cell : Stmt := top 11
abbrev s_source : Stmt := top 12
abbrev s_draw : Stmt := top 13
theorem sc_cell : FnScope ["_law_script", "_law_place"] ["_law_script", "_law_place"] (defScope s_cell) := ⟨rfl, rfl, rfl, by decide +kernel, rfl, by decide +kernel, by decide +kernel⟩
theorem ok_cell {f : Addr} {fd : FuncData} (F : Fun K "_law_cell" "_law_cell" s_cell f fd) (T : Bl mg) : FnOk P wd K mg base (L2.CX P wd) 1 f fd ["_law_script", "_law_place"] (lift K cellS) := by
  refine fnd_of F sc_cell (fun ds M Q QL E h => ?_) (fun X cdv A outer s H E hX hr fine ds M QR QL ER h => ?_)
  · obtain ⟨ns, k, rfl, _⟩ := h
    rfl
  · obtain ⟨ns, k, rfl, rfl, q⟩ := h
    subst hX
    refine ws_cons (w1_if (wt_lt (we_var 1 rfl (we_len T.len (we_var 0 rfl ⟨_, rfl, _, _, rfl, rfl, Br.d (fun h => ?_) (fun h => ?_)⟩)))))
    · refine ws_last (w1_ret (we_ix (we_var 0 rfl (we_var 1 rfl ?_))))
      rw [List.length_map] at h
      have h' : k < ns.length := by omega
      refine ⟨_, .int (ns.getD k 0), rfl, atI_nat ?_, memPure_nil, .inl ⟨rfl, q⟩⟩
      rw [List.getElem?_map, List.getD_eq_getElem?_getD, List.getElem?_eq_getElem h']; rfl
    · refine ws_nil (ws_last (w1_ret (we_int ?_)))
      rw [List.length_map] at h
      have e : ns.getD k 0 = 0 := by rw [List.getD_eq_getElem?_getD, List.getElem?_eq_none (by omega)]; rfl
      rw [e] at q
      exact ⟨memPure_nil, .inl ⟨rfl, q⟩⟩
theorem sc_source : FnScope ["_law_cell_here"] ["_law_cell_here"] (defScope s_source) := ⟨rfl, rfl, rfl, by decide +kernel, rfl, by decide +kernel, by decide +kernel⟩
theorem ok_source {f : Addr} {fd : FuncData} (F : Fun K "_law_source" "_law_source" s_source f fd) (T : Bl mg) : FnOk P wd K mg base (L2.CX P wd) 1 f fd ["_law_cell_here"] (lift K sourceS) := by
  refine fnd_of F sc_source (fun ds M Q QL E h => ?_) (fun X cdv A outer s H E hX hr fine ds M QR QL ER h => ?_)
  · obtain ⟨c, rfl, _⟩ := h
    rfl
  · obtain ⟨c, rfl, rfl, q⟩ := h
    subst hX
    refine ws_cons (w1_if (wt_ge (we_var 0 rfl (we_pow (we_int (we_int ⟨_, _, rfl, rfl, ⟨by decide, by decide, by decide⟩, _, _, rfl, rfl, Br.d (fun h => ?_) (fun h => ?_)⟩))))))
    · refine ws_last (w1_ret (we_list (wa_cons (we_var 0 rfl (wa_cons (we_int (wa_nil ⟨by show 2 ≤ sizeLine; decide, .inr ?_⟩)))))))
      exact ⟨memPure_nil, .inr ⟨0, _, rfl, Nat.zero_le _, rfl, rfl, q c 1 (.inl rfl)⟩⟩
    · refine ws_nil (ws_last (w1_ret (we_list (wa_cons (we_mod (we_intc T.int (we_add (we_mul (we_var 0 rfl (we_int ⟨_, _, rfl, rfl, .inr ⟨by decide, by decide⟩, ?_⟩))))))))))
      refine we_int (.inl ⟨_, rfl, ?_⟩)
      refine we_int ⟨_, _, rfl, rfl, by show (0 : Int) < _; decide, wa_cons (we_int (wa_nil ⟨by show 2 ≤ sizeLine; decide, .inr ?_⟩))⟩
      exact ⟨memPure_nil, .inr ⟨0, _, rfl, Nat.zero_le _, rfl, rfl, q _ 0 (.inr ⟨rfl, Int.emod_nonneg _ (by decide), Int.emod_lt_of_pos _ (by decide)⟩)⟩⟩
theorem sc_draw : FnScope ["_law_source_here", "_law_limit", "_law_digit"] ["_law_source_here", "_law_limit"] (defScope s_draw) := ⟨rfl, rfl, rfl, by decide +kernel, rfl, by decide +kernel, by decide +kernel⟩
theorem ok_draw {f : Addr} {fd : FuncData} (F : Fun K "_law_draw" "_law_draw" s_draw f fd) (T : Bl mg) : FnOk P wd K mg base (L2.CX P wd) 1 f fd ["_law_source_here", "_law_limit"] (lift K drawS) := by
  refine fnd_of F sc_draw (fun ds M Q QL E h => ?_) (fun X cdv A outer s H E hX hr fine ds M QR QL ER h => ?_)
  · obtain ⟨a, b, l, rfl, _⟩ := h
    rfl
  · obtain ⟨a, b, l, rfl, rfl, ok, hl, hl2, q⟩ := h
    subst hX
    have hu := hr.units
    refine ws_cons ?_
    refine w1_if ?_
    refine wt_eq hu ?_
    refine we_ix ?_
    refine we_var 0 rfl ?_
    refine we_int ?_
    refine ⟨_, _, rfl, rfl, ?_⟩
    refine we_int ?_
    refine Br.d (fun h => ?_) (fun h => ?_)
    · refine ws_cons ?_
      refine w1_set 2 fine.nd ?_
      refine we_mod ?_
      refine we_intc T.int ?_
      refine we_ix ?_
      refine we_var 0 rfl ?_
      refine we_int ?_
      refine ⟨_, _, rfl, rfl, .inl ⟨_, rfl, ?_⟩⟩
      refine we_var 1 rfl ?_
      refine ⟨_, _, rfl, rfl, hl, ?_⟩
      refine ws_cons ?_
      refine w1_setitem ?_
      refine we_fdiv ?_
      refine we_ix ?_
      refine we_var 0 rfl ?_
      refine we_int ?_
      refine ⟨_, _, rfl, rfl, ?_⟩
      refine we_var 1 rfl ?_
      refine ⟨_, _, rfl, rfl, ⟨hl, by omega⟩, ?_⟩
      refine we_var 0 rfl ?_
      refine we_int ?_
      refine ⟨_, _, _, _, rfl, rfl, rfl, rfl, ?_⟩
      refine ws_last ?_
      refine w1_ret ?_
      refine we_var 2 rfl ?_
      exact ⟨memPure_one rfl, .inl ⟨rfl, q _ _ (Int.emod_nonneg _ (by omega)) (Int.emod_lt_of_pos _ hl) (.inl h)⟩⟩
    · have h0 : b = 0 ∧ 0 ≤ a ∧ a < 2147483647 := ok.resolve_left h
      refine ws_nil ?_
      refine ws_cons ?_
      refine w1_setitem ?_
      refine we_mod ?_
      refine we_intc T.int ?_
      refine we_add ?_
      refine we_mul ?_
      refine we_ix ?_
      refine we_var 0 rfl ?_
      refine we_int ?_
      refine ⟨_, _, rfl, rfl, ?_⟩
      refine we_int ?_
      refine ⟨_, _, rfl, rfl, .inr ⟨by decide, by decide⟩, ?_⟩
      refine we_int ?_
      refine .inl ⟨_, rfl, ?_⟩
      refine we_int ?_
      refine ⟨_, _, rfl, rfl, by show (0 : Int) < _; decide, ?_⟩
      refine we_var 0 rfl ?_
      refine we_int ?_
      refine ⟨_, _, _, _, rfl, rfl, rfl, rfl, ?_⟩
      have m0 : 0 ≤ (a * 69621 + 86028157) % 2147483647 := Int.emod_nonneg _ (by decide)
      have m1 : (a * 69621 + 86028157) % 2147483647 < 2147483647 := Int.emod_lt_of_pos _ (by decide)
      refine ws_last ?_
      refine w1_ret ?_
      refine we_mod ?_
      refine we_fdiv ?_
      refine we_intc T.int ?_
      refine we_mod ?_
      refine we_pow ?_
      refine we_ix ?_
      refine we_var 0 rfl ?_
      refine we_int ?_
      refine ⟨_, _, rfl, rfl, ?_⟩
      refine we_int ?_
      refine ⟨_, _, rfl, rfl, ⟨by decide, by decide, by omega⟩, ?_⟩
      refine we_int ?_
      refine ⟨_, _, rfl, rfl, by show (0 : Int) < _; decide, .inl ⟨_, rfl, ?_⟩⟩
      refine we_int ?_
      refine ⟨_, _, rfl, rfl, ⟨by decide, by decide⟩, ?_⟩
      refine we_var 1 rfl ?_
      refine ⟨_, _, rfl, rfl, hl, ?_⟩
      exact ⟨memPure_one rfl, .inl ⟨rfl, q _ _ (Int.emod_nonneg _ (by omega)) (Int.emod_lt_of_pos _ hl) (.inr ⟨h0.1, m0, m1⟩)⟩⟩
end
end Dl.Pf
set_option maxHeartbeats 4000000
namespace Dl.Pf
open PySem L2
/-! ### plain lists -/
def nI (xs : List Nat) : List D := xs.map fun (k : Nat) => D.int (k : Int)
theorem nI_length (xs : List Nat) : (nI xs).length = xs.length := List.length_map ..
theorem nI_append (xs ys : List Nat) : nI (xs ++ ys) = nI xs ++ nI ys := List.map_append
theorem nI_get (xs : List Nat) (i : Nat) : (nI xs)[i]? = (xs[i]?).map fun (k : Nat) => D.int (k : Int) := List.getElem?_map
theorem nI_pure (xs : List Nat) : D.pures (nI xs) = true := D.pures_map fun _ => rfl
theorem nI_erase (xs : List Nat) (j : Nat) : (nI xs).eraseIdx j = nI (xs.eraseIdx j) := by
  induction xs generalizing j with
  | nil => simp [nI]
  | cons x xs ih => cases j with
    | zero => rfl
    | succ j => show D.int x :: (nI xs).eraseIdx j = D.int x :: nI (xs.eraseIdx j); rw [ih]
theorem cutD_map {α β : Type} (f : α → β) (xs : List α) (lo hi : Option Int) : cutD (xs.map f) lo hi = (cutD xs lo hi).map f := by
  unfold cutD
  rw [List.length_map, ← List.map_drop, List.map_take]
theorem rgD_nI (n : Nat) : rgD 0 (n : Int) = nI (List.range n) := by
  unfold rgD nI
  rw [Int.sub_zero, Int.toNat_natCast]
  simp
theorem rg_get {n i : Nat} {d : D} (h : (rgD 0 (n : Int))[i]? = some d) : d = .int (i : Nat) ∧ i < n := by
  rw [rgD_nI, nI_get] at h
  by_cases hi : i < n
  · rw [List.getElem?_range hi] at h
    cases h
    exact ⟨rfl, hi⟩
  · rw [List.getElem?_eq_none (by simpa using hi)] at h
    cases h
theorem rgD_length (n : Nat) : (rgD 0 (n : Int)).length = n := by rw [rgD_nI, nI_length, List.length_range]
structure TurnL (w : Nat) (xs : List Nat) : Prop where
  two : 2 ≤ xs.length
  le : xs.length ≤ w
  perm : xs.Perm (List.range xs.length)
  head : xs[0]? ≠ some 0
  last : xs[xs.length - 1]? ≠ some (xs.length - 1)
theorem ends_of {xs : List Nat} (h : 2 ≤ xs.length) : ∃ f m l, xs = f :: (m ++ [l]) := by
  match xs, h with
  | f :: ys, h =>
    have hy : ys ≠ [] := by intro z; subst z; simp at h
    exact ⟨f, ys.dropLast, ys.getLast hy, by rw [List.dropLast_concat_getLast]⟩
theorem cut1 {α : Type} (f l : α) (m : List α) : cutD (f :: (m ++ [l])) (some (-1)) none = [l] := by
  unfold cutD HT.sIx
  simp
  have : (-1 + ((m.length : Int) + 1 + 1)).toNat = m.length + 1 := by omega
  rw [this]
  simp
theorem cut2 {α : Type} (f l : α) (m : List α) : cutD (f :: (m ++ [l])) (some 1) (some (-1)) = m := by
  unfold cutD HT.sIx
  simp
  have : (-1 + ((m.length : Int) + 1 + 1)).toNat = m.length + 1 := by omega
  rw [this]
  simp
theorem cut3 {α : Type} (f l : α) (m : List α) : cutD (f :: (m ++ [l])) none (some 1) = [f] := by
  unfold cutD HT.sIx
  simp
theorem erase_perm : ∀ {L : List Nat} {j : Nat} (hj : j < L.length), L.Perm (L[j] :: L.eraseIdx j)
  | a :: L, 0, _ => List.Perm.refl _
  | a :: L, j + 1, h => ((erase_perm (L := L) (j := j) (by simpa using h)).cons a).trans (List.Perm.swap _ _ _)
theorem atI_first {f : Nat} {ys : List Nat} : atI (nI (f :: ys)) 0 = some (.int (f : Nat)) := atI_nat (j := 0) rfl
theorem atI_lastN {f l : Nat} {m : List Nat} : atI (nI (f :: (m ++ [l]))) (-1) = some (.int (l : Nat)) := by
  unfold atI ixN
  have h : (nI (f :: (m ++ [l]))).length = m.length + 2 := by rw [nI_length]; simp
  rw [h]
  rw [if_neg (by omega), if_pos (by omega)]
  show (nI (f :: (m ++ [l])))[((m.length + 2 : Nat) + (-1) : Int).toNat]? = _
  have : ((m.length + 2 : Nat) + (-1) : Int).toNat = (f :: m).length := by simp; omega
  rw [this, nI_get, ← List.cons_append, List.getElem?_append_right (Nat.le_refl _)]
  simp
theorem swap_turn {w n : Nat} {f l : Nat} {m : List Nat} (hp : (f :: (m ++ [l])).Perm (List.range n)) (hn : (f :: (m ++ [l])).length = n) (hw : n ≤ w) (h : f = 0 ∨ l = n - 1) : TurnL w (l :: (m ++ [f])) := by
  have nd : (f :: (m ++ [l])).Nodup := hp.nodup_iff.mpr List.nodup_range
  have hfl : f ≠ l := by
    intro z; subst z
    rw [List.nodup_cons] at nd
    exact nd.1 (by simp)
  have hl' : (l :: (m ++ [f])).length = n := by rw [← hn]; simp
  have n2 : 2 ≤ n := by rw [← hn]; simp
  refine ⟨by rw [hl']; exact n2, by rw [hl']; exact hw, ?_, ?_, ?_⟩
  · rw [hl']
    refine List.Perm.trans ?_ hp
    have p1 : (l :: (m ++ [f])).Perm (l :: f :: m) := (List.perm_append_singleton f m).cons l
    have p2 : (f :: (m ++ [l])).Perm (f :: l :: m) := (List.perm_append_singleton l m).cons f
    exact (p1.trans (List.Perm.swap f l m)).trans p2.symm
  · simp
    rcases h with h | h
    · omega
    · omega
  · rw [hl']
    have e : (l :: (m ++ [f]))[n - 1]? = some f := by
      have : n - 1 = (l :: m).length := by simp at hl'; simp; omega
      rw [this, ← List.cons_append, List.getElem?_append_right (Nat.le_refl _)]
      simp
    rw [e]
    simp
    rcases h with h | h <;> omega
theorem keep_turn {w n : Nat} {f l : Nat} {m : List Nat} (hp : (f :: (m ++ [l])).Perm (List.range n)) (hn : (f :: (m ++ [l])).length = n) (hw : n ≤ w) (h1 : f ≠ 0) (h2 : l ≠ n - 1) : TurnL w (f :: (m ++ [l])) := by
  have n2 : 2 ≤ n := by rw [← hn]; simp
  refine ⟨by rw [hn]; exact n2, by rw [hn]; exact hw, by rw [hn]; exact hp, by simpa using h1, ?_⟩
  rw [hn]
  have e : (f :: (m ++ [l]))[n - 1]? = some l := by
    have : n - 1 = (f :: m).length := by simp at hn; simp; omega
    rw [this, ← List.cons_append, List.getElem?_append_right (Nat.le_refl _)]
    simp
  rw [e]
  simpa using h2
theorem perm_move {L R : List Nat} {n j x : Nat} (hp : (L ++ R).Perm (List.range n)) (hx : L[j]? = some x) : (L.eraseIdx j ++ (R ++ [x])).Perm (List.range n) := by
  refine List.Perm.trans ?_ hp
  have hj : j < L.length := (List.getElem?_eq_some_iff.mp hx).1
  have e : L[j] = x := (List.getElem?_eq_some_iff.mp hx).2
  have p1 : L.Perm (x :: L.eraseIdx j) := by rw [← e]; exact erase_perm hj
  have p2 : (L.eraseIdx j ++ (R ++ [x])).Perm (x :: (L.eraseIdx j ++ R)) := by
    rw [← List.append_assoc]
    exact List.perm_append_singleton _ _
  exact p2.trans (p1.append_right R).symm
/-! ### the drawn places -/
def placesS : Spec := fun ds M Q QL E => ∃ (a b : Int) (w : Nat), ds = [.mr 0, .int (w : Nat)] ∧ M = [some (srcO a b)] ∧ srcOk a b ∧ 2 ≤ w ∧ w ≤ 10 ∧ ∀ xs a', TurnL w xs → srcOk a' b → QL (nI xs) [some (srcO a' b)]
theorem callDraw {W : XD} {sl : Slots} {Q : QD} {M : Mem} {k : Nat} {a b l : Int} (h : M[k]? = some (some (srcO a b))) (ok : srcOk a b) (h1 : 0 < l) (h2 : l < 1000000) (q : ∀ d a', 0 ≤ d → d < l → srcOk a' b → Q (.int d) (M.set k (some (srcO a' b)))) : CallD drawS [k] W sl Q [.mr k, .int l] M :=
  ⟨_, _, .cons (.io (j := 0) rfl) (.cons (.pur rfl) .nil), ioOk_one h rfl, a, b, l, rfl, rfl, ok, h1, h2, fun d a' x y z => q d a' x y z⟩
section
variable {P : Program} {wd : World} {K : PySem.W.Frag} {mg : Str → Option Value} {base : Heap}
abbrev s_places : Stmt := top 14
theorem sc_places : FnScope ["_law_source_here", "_law_widest", "_law_width", "_law_left", "_law_places_here", "_law_k"] ["_law_source_here", "_law_widest"] (defScope s_places) := ⟨rfl, rfl, rfl, by decide +kernel, rfl, by decide +kernel, by decide +kernel⟩
theorem ok_places {f : Addr} {fd : FuncData} (F : Fun K "_law_places" "_law_places" s_places f fd) (T : Bl mg) (dDraw : IsDef P wd K mg base 1 "_law_draw" ["_law_source_here", "_law_limit"] drawS) : FnOk P wd K mg base (L2.CX P wd) 2 f fd ["_law_source_here", "_law_widest"] (lift K placesS) := by
  refine fnd_of F sc_places (fun ds M Q QL E h => ?_) (fun X cdv A outer s H E hX hr fine ds M QR QL ER h => ?_)
  · obtain ⟨a, b, w, rfl, _⟩ := h
    rfl
  · obtain ⟨a, b, w, rfl, rfl, ok, hw, hw2, q⟩ := h
    subst hX
    have hu := hr.units
    refine ws_cons ?_
    -- _law_width = 2 + _law_draw(_law_source_here, _law_widest - 1)
    refine w1_set 2 fine.nd ?_
    refine we_add ?_
    refine we_int ?_
    refine we_def [0] dDraw hr ?_
    refine wa_cons ?_
    refine we_var 0 rfl ?_
    refine wa_cons ?_
    refine we_sub ?_
    refine we_var 1 rfl ?_
    refine we_int ?_
    refine ⟨_, _, rfl, rfl, ?_⟩
    refine wa_nil ?_
    refine callDraw rfl ok (by omega) (by omega) fun d a1 hd0 hd1 ok1 => ?_
    obtain ⟨n, hn, hn2, hn3⟩ : ∃ n : Nat, (2 : Int) + d = (n : Nat) ∧ 2 ≤ n ∧ n ≤ w := ⟨(2 + d).toNat, by omega, by omega, by omega⟩
    show WS _ _ _ [some (.mr 0), some (.int (w : Nat)), some (.int (2 + d)), none, none, none] [some (srcO a1 b)] _
    rw [hn]
    refine ws_cons ?_
    -- _law_left = list(range(_law_width))
    refine w1_set 3 fine.nd ?_
    refine we_listRg1 fine.calm T.list T.range ?_
    refine we_var 2 rfl ?_
    refine ⟨_, rfl, ?rg, .inr ?_⟩
    case rg => exact RgOk.of_le (by omega) (by omega) (by omega) (by omega)
    rw [rgD_nI]
    refine ws_cons ?_
    -- _law_places_here = []
    refine w1_set 4 fine.nd ?_
    refine we_list ?_
    refine wa_nil ?_
    refine ⟨by show 0 ≤ sizeLine; decide, .inr ?_⟩
    refine ws_cons ?_
    -- for _law_k in range(_law_width):
    refine w1_for fine ?_
    refine wi_rg1 T.range ?_
    refine we_var 2 rfl ?_
    refine ⟨_, rfl, ⟨by omega, by omega⟩, ?_⟩
    refine ⟨fun i sl M => ∃ a' L R kk, sl = [some (.mr 0), some (.int (w : Nat)), some (.int (n : Nat)), some (.mr 1), some (.mr 2), kk] ∧ M = [some (srcO a' b), some (.lst (nI L)), some (.lst (nI R))] ∧ srcOk a' b ∧ L.length = n - i ∧ R.length = i ∧ (L ++ R).Perm (List.range n), ⟨a1, List.range n, [], none, rfl, rfl, ok1, by simp, rfl, by simp⟩, fun _ _ _ _ _ => trivial, ?turn, ?after⟩
    case turn =>
      rintro i d' sl M hd' ⟨a', L, R, kk, rfl, rfl, ok', hL, hR, hp⟩
      obtain ⟨rfl, hi⟩ := rg_get hd'
      refine wg_name 5 fine.nd ?_
      refine ws_last ?_
      refine w1_expr ?_
      refine we_append ?_
      refine we_var 4 rfl ?_
      refine ⟨_, _, rfl, rfl, ?_⟩
      refine we_popAt ?_
      refine we_var 3 rfl ?_
      refine ⟨_, _, rfl, rfl, ?_⟩
      refine we_def [0] dDraw hr ?_
      refine wa_cons ?_
      refine we_var 0 rfl ?_
      refine wa_cons ?_
      refine we_len T.len ?_
      refine we_var 3 rfl ?_
      refine ⟨_, rfl, ?_⟩
      refine wa_nil ?_
      rw [nI_length]
      refine callDraw rfl ok' (by omega) (by omega) fun c a2 hc0 hc1 ok2 => ?_
      obtain ⟨j, rfl⟩ : ∃ j : Nat, c = (j : Nat) := ⟨c.toNat, by omega⟩
      have hj : j < L.length := by omega
      refine ⟨_, nI L, j, .int (L[j] : Nat), rfl, rfl, by rw [nI_length]; omega, ?_, ?_, ?_⟩
      · unfold ixN
        rw [nI_length, if_pos (by omega), if_pos (by omega)]
        simp
      · rw [nI_get, List.getElem?_eq_getElem hj]; rfl
      · refine ⟨nI R, rfl, by rw [nI_length]; exact Nat.lt_of_lt_of_le (by omega) (show 1000 ≤ sizeLine by decide), ?_⟩
        refine ⟨a2, L.eraseIdx j, R ++ [L[j]], _, rfl, ?_, ok2, by rw [List.length_eraseIdx_of_lt hj]; omega, by simp [hR], perm_move hp (List.getElem?_eq_getElem hj)⟩
        rw [nI_append, ← nI_erase]
        rfl
    case after =>
      rintro sl M ⟨a', L, R, kk, rfl, rfl, ok', hL, hR, hp⟩
      rw [rgD_length] at hL hR
      have hL0 : L = [] := List.length_eq_zero_iff.mp (by omega)
      subst hL0
      rw [List.nil_append] at hp
      obtain ⟨fst, mid, lst, rfl⟩ := ends_of (xs := R) (by omega)
      refine ws_cons ?_
      refine w1_if (WT.mono (Q1 := fun c M1 => c = decide (fst = 0 ∨ lst = n - 1) ∧ M1 = [some (srcO a' b), some (.lst (nI [])), some (.lst (nI (fst :: (mid ++ [lst]))))]) ?ht ?hk)
      case ht =>
        refine wt_bool ?_
        refine ww_or ?_
        refine wt_eq hu ?_
        refine we_ix ?_
        refine we_var 4 rfl ?_
        refine we_int ?_
        refine ⟨_, _, rfl, atI_first, ?_⟩
        refine we_int ?_
        refine Br.d (fun h => ?_) (fun h => ?_)
        · exact ⟨(decide_eq_true (Or.inl (by omega))).symm, rfl⟩
        · refine ww_or1 ?_
          refine wt_eq hu ?_
          refine we_ix ?_
          refine we_var 4 rfl ?_
          refine we_neg (we_int ?_)
          refine ⟨_, rfl, _, _, rfl, atI_lastN, ?_⟩
          refine we_sub ?_
          refine we_var 2 rfl ?_
          refine we_int ?_
          refine ⟨_, _, rfl, rfl, ?_⟩
          refine ⟨?_, rfl⟩
          refine decide_eq_decide.mpr ⟨fun z => .inr (by omega), fun z => ?_⟩
          rcases z with z | z <;> omega
      case hk =>
        rintro c _ ⟨hc, rfl⟩
        refine Br.dec hc (fun h => ?_) (fun h => ?_)
        · refine ws_last ?_
          refine w1_set 4 fine.nd ?_
          refine we_add ?_
          refine we_add ?_
          refine we_slice ?_
          refine we_var 4 rfl ?_
          refine we_neg (we_int ⟨_, rfl, _, rfl, ?_⟩)
          refine ⟨_, rfl, .inl ?_⟩
          refine we_slice ?_
          refine we_var 4 rfl ?_
          refine we_int ⟨_, rfl, ?_⟩
          refine we_neg (we_int ⟨_, rfl, _, rfl, ?_⟩)
          refine ⟨_, rfl, .inl ?_⟩
          have hm : mid.length + 2 = n := by rw [← hR]; simp
          have hz : (10 : Nat) ≤ sizeLine := by decide
          refine .inr ⟨_, _, rfl, rfl, ?_, .inl ?_⟩
          · unfold nI
            rw [cutD_map, cutD_map, cut1, cut2]
            simp; omega
          refine we_slice ?_
          refine we_var 4 rfl ?_
          show WO _ _ _ _ _ _
          refine we_int ⟨_, rfl, ?_⟩
          refine ⟨_, rfl, .inl ?_⟩
          refine .inr ⟨_, _, rfl, rfl, ?_, .inr ?_⟩
          · unfold nI
            rw [cutD_map, cutD_map, cutD_map, cut1, cut2, cut3]
            simp; omega
          refine ws_last (w1_ret (we_var 4 rfl ?_))
          refine ⟨memPure_one rfl, .inr ⟨3, nI (lst :: (mid ++ [fst])), rfl, by show 1 ≤ 3; decide, ?_, nI_pure _, q _ a' (swap_turn hp hR hn3 h) ok'⟩⟩
          show some (some (MO.lst _)) = _
          unfold nI
          rw [cutD_map, cutD_map, cutD_map, cut1, cut2, cut3]
          simp
        · refine ws_nil (ws_last (w1_ret (we_var 4 rfl ?_)))
          refine ⟨memPure_one rfl, .inr ⟨2, _, rfl, by show 1 ≤ 2; decide, rfl, nI_pure _, q _ a' ?_ ok'⟩⟩
          exact keep_turn hp hR hn3 (fun z => h (.inl z)) (fun z => h (.inr z))
end
end Dl.Pf
set_option maxHeartbeats 4000000
namespace Dl.Pf
open PySem L2
/-! ### cycles, plain -/
def cWalk (xs : List Nat) : Nat → List Nat → List Nat → Nat → List Nat × List Nat
  | 0, met, cyc, _ => (met, cyc)
  | f + 1, met, cyc, i => if i ∈ met then (met, cyc) else cWalk xs f (met ++ [i]) (cyc ++ [i]) (xs.getD i 0)
def cRun (xs met cyc : List Nat) (i : Nat) : List Nat × List Nat := cWalk xs (xs.length + 1 - met.length) met cyc i
def cStep (xs : List Nat) (p : List Nat × List (List Nat)) (i : Nat) : List Nat × List (List Nat) := ((cRun xs p.1 [] i).1, if 1 < (cRun xs p.1 [] i).2.length then p.2 ++ [(cRun xs p.1 [] i).2] else p.2)
def cGo (xs : List Nat) (k : Nat) : List Nat × List (List Nat) := (List.range k).foldl (cStep xs) ([], [])
def cyc (xs : List Nat) : List (List Nat) := (cGo xs xs.length).2
theorem cGo_succ (xs : List Nat) (k : Nat) : cGo xs (k + 1) = cStep xs (cGo xs k) k := by
  unfold cGo
  rw [List.range_succ, List.foldl_append]
  rfl
structure Img (xs : List Nat) : Prop where
  small : xs.length ≤ 6
  lt : ∀ x ∈ xs, x < xs.length
structure Met (n : Nat) (met : List Nat) : Prop where
  nd : met.Nodup
  lt : ∀ x ∈ met, x < n
theorem len_le_of_sub : ∀ {a b : List Nat}, a.Nodup → (∀ x ∈ a, x ∈ b) → a.length ≤ b.length
  | [], _, _, _ => Nat.zero_le _
  | x :: a, b, nd, h => by
    rw [List.nodup_cons] at nd
    have hx : x ∈ b := h x (List.mem_cons_self ..)
    have := len_le_of_sub (b := b.erase x) nd.2 fun y hy => (List.mem_erase_of_ne (fun z => nd.1 (by rw [← z]; exact hy))).mpr (h y (List.mem_cons_of_mem _ hy))
    rw [List.length_erase_of_mem hx] at this
    have hl : 0 < b.length := List.length_pos_of_mem hx
    simp only [List.length_cons]
    omega
theorem Met.len {n : Nat} {met : List Nat} (h : Met n met) : met.length ≤ n := by
  have := len_le_of_sub (b := List.range n) h.nd fun x hx => List.mem_range.mpr (h.lt x hx)
  simpa using this
theorem Met.more {n i : Nat} {met : List Nat} (h : Met n met) (hi : i < n) (hn : i ∉ met) : Met n (met ++ [i]) := ⟨by
  rw [List.nodup_append]
  refine ⟨h.nd, by simp, fun a ha b hb => ?_⟩
  simp at hb
  rintro rfl
  exact hn (hb ▸ ha), fun x hx => by
  rw [List.mem_append] at hx
  rcases hx with hx | hx
  · exact h.lt x hx
  · simp at hx; omega⟩
theorem cRun_stop {xs met cy : List Nat} {i : Nat} (h : Met xs.length met) (hi : i ∈ met) : cRun xs met cy i = (met, cy) := by
  unfold cRun
  have := h.len
  obtain ⟨f, hf⟩ : ∃ f, xs.length + 1 - met.length = f + 1 := ⟨xs.length - met.length, by omega⟩
  rw [hf]
  simp [cWalk, hi]
theorem cRun_go {xs met cy : List Nat} {i : Nat} (h : Met xs.length met) (hi : i < xs.length) (hn : i ∉ met) : cRun xs met cy i = cRun xs (met ++ [i]) (cy ++ [i]) (xs.getD i 0) := by
  unfold cRun
  have h2 := (h.more hi hn).len
  simp at h2
  have hf : xs.length + 1 - met.length = (xs.length + 1 - (met ++ [i]).length) + 1 := by simp; omega
  rw [hf]
  simp [cWalk, hn]
theorem Img.get {xs : List Nat} {i : Nat} (h : Img xs) (hi : i < xs.length) : xs[i]? = some (xs.getD i 0) ∧ xs.getD i 0 < xs.length := by
  have e : xs.getD i 0 = xs[i] := by simp [List.getD_eq_getElem?_getD, List.getElem?_eq_getElem hi]
  exact ⟨by rw [e, List.getElem?_eq_getElem hi], by rw [e]; exact h.lt _ (List.getElem_mem hi)⟩
/-! ### the same as data -/
def mB (n : Nat) (met : List Nat) : List D := (List.range n).map fun i => D.bl (decide (i ∈ met))
theorem mB_get {n i : Nat} {met : List Nat} (h : i < n) : (mB n met)[i]? = some (.bl (decide (i ∈ met))) := by
  unfold mB
  rw [List.getElem?_map, List.getElem?_range h]; rfl
theorem mB_length {n : Nat} {met : List Nat} : (mB n met).length = n := by simp [mB]
theorem mB_set {n i : Nat} {met : List Nat} (h : i < n) : (mB n met).set i (.bl true) = mB n (met ++ [i]) := by
  refine List.ext_getElem? fun j => ?_
  by_cases hj : j < n
  · rw [mB_get hj, List.getElem?_set, mB_length, mB_get hj]
    by_cases e : i = j
    · subst e; simp [h]
    · have : ¬ j = i := fun z => e z.symm
      simp [e, this]
  · rw [List.getElem?_eq_none (by simp [mB_length]; omega), List.getElem?_eq_none (by simp [mB_length]; omega)]
theorem ixN_nat {n i : Nat} (h : i < n) : ixN n (i : Nat) = some i := by
  unfold ixN
  rw [if_pos (by omega), if_pos (by omega)]
  simp
theorem get_two {α : Type} {a b x : α} {J : List α} : (a :: b :: (J ++ [x]))[J.length + 2]? = some x := by simp
theorem set_two {α : Type} {a b x y : α} {J : List α} : (a :: b :: (J ++ [x])).set (J.length + 2) y = a :: b :: (J ++ [y]) := by simp
def cD (cs : List (List Nat)) : List D := cs.map fun c => D.tup (nI c)
theorem cD_pure (cs : List (List Nat)) : D.pures (cD cs) = true := D.pures_map fun c => by show D.pures (nI c) = true; exact nI_pure c
def cyclesS : Spec := fun ds M Q QL E => ∃ xs, ds = [.xt (nI xs)] ∧ M = [] ∧ Img xs ∧ QL (cD (cyc xs)) []
def lawCyclesS : Spec := fun ds M Q QL E => ∃ d xs, ds = [d] ∧ sqP d = some (nI xs) ∧ M = [] ∧ Img xs ∧ QL (cD (cyc xs)) []
theorem len_go (xs : List Nat) (k : Nat) : (cGo xs k).2.length ≤ k := by
  induction k with
  | zero => simp [cGo]
  | succ k ih =>
    rw [cGo_succ]
    unfold cStep
    dsimp only
    split
    · simp; omega
    · omega
structure Bm (mg : Str → Option Value) : Prop extends Bl mg where
  sum : mg "sum" = none
  all : mg "all" = none
  sorted : mg "sorted" = none
  isinstance : mg "isinstance" = none
  bool : mg "bool" = none
section
variable {P : Program} {wd : World} {K : PySem.W.Frag} {mg : Str → Option Value} {base : Heap}
abbrev s_cycles_of : Stmt := top 5
theorem sc_cycles_of : FnScope ["images", "met", "result", "start", "cycle", "index", "image"] ["images"] (defScope s_cycles_of) := ⟨rfl, rfl, rfl, by decide +kernel, rfl, by decide +kernel, by decide +kernel⟩
theorem ok_cycles_of {f : Addr} {fd : FuncData} (F : Fun K "cycles_of" "cycles_of" s_cycles_of f fd) (T : Bm mg) : FnOk P wd K mg base (L2.CX P wd) 1 f fd ["images"] (lift K cyclesS) := by
  refine fnd_of F sc_cycles_of (fun ds M Q QL E h => ?_) (fun X cdv A outer s H E hX hr fine ds M QR QL ER h => ?_)
  · obtain ⟨xs, rfl, _⟩ := h
    rfl
  · obtain ⟨xs, rfl, rfl, hx, q⟩ := h
    subst hX
    have hu := hr.units
    have hz : (1000 : Nat) ≤ sizeLine := by decide
    have hs6 := hx.small
    refine ws_cons ?_
    refine w1_lc 1 6 fine.calm fine.nd (by with_unfolding_all rfl) ?it (fun _ _ _ _ _ => pg_name fine.nd rfl (Or.inl rfl)) (sw_true rfl rfl rfl (by decide +kernel))
    refine wi_tup ?_
    refine we_var 0 rfl ?_
    refine ⟨_, rfl, ?_⟩
    refine ⟨fun i acc M => acc = List.replicate i (.bl false) ∧ M = [], ⟨rfl, rfl⟩, fun i acc M hi h => ⟨trivial, by rw [h.1, List.length_replicate]; rw [nI_length] at hi; omega⟩, ?_, ?_⟩
    · rintro i d acc M hd ⟨rfl, rfl⟩
      refine ⟨_, rfl, Br.tt fun _ _ _ _ _ => we_bl ⟨?_, rfl⟩⟩
      rw [List.replicate_succ']
    rintro acc M ⟨rfl, rfl⟩
    refine .inr ?_
    have e0 : List.replicate (nI xs).length (D.bl false) = mB xs.length [] := by
      rw [nI_length]
      unfold mB
      refine List.ext_getElem? fun j => ?_
      simp [List.getElem?_replicate]
      by_cases hj : j < xs.length <;> simp [hj]
    rw [e0]
    refine ws_cons ?_
    refine w1_set 2 fine.nd ?_
    refine we_list ?_
    refine wa_nil ?_
    refine ⟨Nat.zero_le _, .inr ?_⟩
    refine ws_cons ?_
    refine w1_for fine ?_
    refine wi_rg1 T.range ?_
    refine we_len T.len ?_
    refine we_var 0 rfl ?_
    refine ⟨_, rfl, ?_⟩
    rw [nI_length]
    refine ⟨_, rfl, ⟨by omega, by omega⟩, ?_⟩
    refine ⟨fun i sl M => ∃ a b c J, sl = [some (.xt (nI xs)), some (.mr 0), some (.mr 1), a, b, c, none] ∧ M = some (.lst (mB xs.length (cGo xs i).1)) :: some (.lst (cD (cGo xs i).2)) :: J ∧ Met xs.length (cGo xs i).1, ?start, fun _ _ _ _ _ => trivial, ?turn, ?after⟩
    case start => exact ⟨none, none, none, [], rfl, rfl, ⟨List.nodup_nil, fun _ h => by cases h⟩⟩
    case turn =>
      rintro i d sl M hd ⟨a, b, c, J, rfl, rfl, hm⟩
      obtain ⟨rfl, hi⟩ := rg_get hd
      refine wg_name 3 fine.nd ?_
      refine ws_cons ?_
      refine w1_set 4 fine.nd ?_
      refine we_list ?_
      refine wa_nil ?_
      refine ⟨Nat.zero_le _, .inr ?_⟩
      refine ws_cons ?_
      refine w1_set 5 fine.nd ?_
      refine we_var 3 rfl ?_
      refine ws_cons ?_
      refine w1_whileN fine (fun k sl M => ∃ met cy j, sl = [some (.xt (nI xs)), some (.mr 0), some (.mr 1), some (.int (i : Nat)), some (.mr (J.length + 2)), some (.int (j : Nat)), none] ∧ M = some (.lst (mB xs.length met)) :: some (.lst (cD (cGo xs i).2)) :: (J ++ [some (.lst (nI cy))]) ∧ Met xs.length met ∧ j < xs.length ∧ cy.length ≤ met.length ∧ cRun xs (cGo xs i).1 [] i = cRun xs met cy j ∧ k = xs.length - met.length) ?ws ?wb
      case ws => exact ⟨_, _, [], i, rfl, rfl, hm, hi, Nat.zero_le _, rfl, rfl⟩
      case wb =>
        rintro k sl M ⟨met, cy, j, rfl, rfl, hm', hj, hc, hr', rfl⟩
        refine wt_not ?_
        refine wt_truth ?_
        refine we_ix ?_
        refine we_var 1 rfl ?_
        refine we_var 5 rfl ?_
        refine ⟨_, _, rfl, atI_nat (mB_get hj), ?_⟩
        have hml := hm'.len
        refine Br.nd (fun hn => ?_) (fun hn => ?_)
        · refine ws_cons ?_
          refine w1_setitem ?_
          refine we_bl ?_
          refine we_var 1 rfl ?_
          refine we_var 5 rfl ?_
          refine ⟨_, _, _, j, rfl, rfl, rfl, by rw [mB_length]; exact ixN_nat hj, ?_⟩
          rw [mB_set hj]
          refine ws_cons ?_
          refine w1_expr ?_
          refine we_append ?_
          refine we_var 4 rfl ?_
          refine ⟨_, _, rfl, get_two, ?_⟩
          refine we_var 5 rfl ?_
          refine ⟨_, get_two, by rw [nI_length]; omega, ?_⟩
          show WS _ _ _ _ (List.set (_ :: _ :: (J ++ [_])) _ _) _
          rw [set_two]
          refine ws_last ?_
          refine w1_set 5 fine.nd ?_
          refine we_ix ?_
          refine we_var 0 rfl ?_
          refine we_var 5 rfl ?_
          refine ⟨_, _, rfl, atI_nat (by rw [nI_get, (hx.get hj).1]; rfl), ?_⟩
          have hm2 := hm'.more hj hn
          have hl2 := hm2.len
          simp at hl2
          refine ⟨_, ?_, met ++ [j], cy ++ [j], xs.getD j 0, rfl, ?_, hm2, (hx.get hj).2, by simp; omega, ?_, rfl⟩
          · simp; omega
          · rw [nI_append]; rfl
          · rw [hr']; exact cRun_go hm' hj hn
        · rw [cRun_stop hm' hn] at hr'
          have hg : cGo xs (i + 1) = (met, if 1 < cy.length then (cGo xs i).2 ++ [cy] else (cGo xs i).2) := by
            rw [cGo_succ]
            unfold cStep
            rw [hr']
          refine ws_last ?_
          refine w1_if ?_
          refine wt_gt ?_
          refine we_len T.len ?_
          refine we_var 4 rfl ?_
          refine ⟨nI cy, by show (match (_ :: _ :: (J ++ [_]) : Mem)[J.length + 2]? with | some (some (.lst ds)) => some ds | _ => none) = _; rw [get_two], ?_⟩
          rw [nI_length]
          refine we_int ?_
          refine ⟨_, _, rfl, rfl, ?_⟩
          refine Br.d (fun h => ?_) (fun h => ?_)
          · refine ws_last ?_
            refine w1_expr ?_
            refine we_append ?_
            refine we_var 2 rfl ?_
            refine ⟨_, _, rfl, rfl, ?_⟩
            refine we_tuplec T.tuple ?_
            refine we_var 4 rfl ?_
            refine ⟨nI cy, by show (match (_ :: _ :: (J ++ [_]) : Mem)[J.length + 2]? with | some (some (.lst ds)) => some ds | _ => none) = _; rw [get_two], .inl ?_⟩
            have hgl := len_go xs i
            refine ⟨_, rfl, by rw [cD, List.length_map]; omega, ?_⟩
            refine ⟨_, _, _, J ++ [some (.lst (nI cy))], rfl, ?_, by rw [hg]; exact hm'⟩
            rw [hg, if_pos (by omega)]
            show _ = some (MO.lst (mB xs.length met)) :: some (MO.lst (cD _)) :: _
            unfold cD
            rw [List.map_append]
            rfl
          · refine ws_nil ?_
            refine ⟨_, _, _, J ++ [some (.lst (nI cy))], rfl, ?_, by rw [hg]; exact hm'⟩
            rw [hg, if_neg (by omega)]
    case after =>
      rintro sl M ⟨a, b, c, J, rfl, rfl, hm⟩
      rw [rgD_length]
      refine ws_last ?_
      refine w1_ret ?_
      refine we_var 2 rfl ?_
      exact ⟨memPure_nil, .inr ⟨1, _, rfl, Nat.zero_le _, rfl, cD_pure _, q⟩⟩
end
end Dl.Pf
set_option maxHeartbeats 4000000
namespace Dl.Pf
open PySem L2
section
variable {P : Program} {wd : World} {K : PySem.W.Frag} {mg : Str → Option Value} {base : Heap}
abbrev s_law_cycles : Stmt := top 15
theorem sc_law_cycles : FnScope ["_law_images", "_law_result", "_law_met", "_law_start", "_law_cycle", "_law_place"] ["_law_images"] (defScope s_law_cycles) := ⟨rfl, rfl, rfl, by decide +kernel, rfl, by decide +kernel, by decide +kernel⟩
theorem sq_len {M : Mem} {d : D} {xs : List D} {Q : QD} (h : sqP d = some xs) (q : Q (.int (xs.length : Nat)) M) : LenD d M Q := by
  have := sqOf_of (M := M) h
  cases d <;> first | exact ⟨xs, this, q⟩ | (cases h)
theorem sq_ix {M : Mem} {d y : D} {xs : List D} {i : Nat} {Q : QD} (h : sqP d = some xs) (hy : xs[i]? = some y) (q : Q y M) : IxD d (.int (i : Nat)) M Q := by
  have := sqOf_of (M := M) h
  cases d <;> first | exact ⟨xs, y, this, atI_nat hy, q⟩ | (cases h)
theorem inF_nat (i : Nat) (xs : List Nat) : inF (.int (i : Nat)) (nI xs) = decide (i ∈ xs) := by
  have e : nI xs = (xs.map fun (k : Nat) => (k : Int)).map D.int := by simp [nI]
  rw [e, inF_int]
  simp
  exact ⟨fun ⟨a, h, z⟩ => (Int.ofNat.inj z) ▸ h, fun h => ⟨i, h, rfl⟩⟩
theorem flat_nat (xs : List Nat) : (nI xs).all flatD = true := by simp [nI, flatD]
theorem ok_law_cycles {f : Addr} {fd : FuncData} (F : Fun K "_law_cycles" "_law_cycles" s_law_cycles f fd) (T : Bm mg) : FnOk P wd K mg base (L2.CX P wd) 1 f fd ["_law_images"] (lift K lawCyclesS) := by
  refine fnd_of F sc_law_cycles (fun ds M Q QL E h => ?_) (fun X cdv A outer s H E hX hr fine ds M QR QL ER h => ?_)
  · obtain ⟨d, xs, rfl, _⟩ := h
    rfl
  · obtain ⟨D0, xs, rfl, hd0, rfl, hx, q⟩ := h
    subst hX
    have hu := hr.units
    have hz : (1000 : Nat) ≤ sizeLine := by decide
    have hs6 := hx.small
    refine ws_cons ?_
    refine w1_set 1 fine.nd ?_
    refine we_list ?_
    refine wa_nil ?_
    refine ⟨Nat.zero_le _, .inr ?_⟩
    refine ws_cons ?_
    refine w1_set 2 fine.nd ?_
    refine we_list ?_
    refine wa_nil ?_
    refine ⟨Nat.zero_le _, .inr ?_⟩
    refine ws_cons ?_
    refine w1_for fine ?_
    refine wi_rg1 T.range ?_
    refine we_len T.len ?_
    refine we_var 0 rfl ?_
    refine sq_len hd0 ?_
    rw [nI_length]
    refine ⟨_, rfl, ⟨by omega, by omega⟩, ?_⟩
    refine ⟨fun i sl M => ∃ a b c J, sl = [some D0, some (.mr 0), some (.mr 1), a, b, c] ∧ M = some (.lst (cD (cGo xs i).2)) :: some (.lst (nI (cGo xs i).1)) :: J ∧ Met xs.length (cGo xs i).1, ?start, fun _ _ _ _ _ => trivial, ?turn, ?after⟩
    case start => exact ⟨none, none, none, [], rfl, rfl, ⟨List.nodup_nil, fun _ h => by cases h⟩⟩
    case turn =>
      rintro i d sl M hd ⟨a, b, c, J, rfl, rfl, hm⟩
      obtain ⟨rfl, hi⟩ := rg_get hd
      refine wg_name 3 fine.nd ?_
      refine ws_cons ?_
      refine w1_set 4 fine.nd ?_
      refine we_list ?_
      refine wa_nil ?_
      refine ⟨Nat.zero_le _, .inr ?_⟩
      refine ws_cons ?_
      refine w1_set 5 fine.nd ?_
      refine we_var 3 rfl ?_
      refine ws_cons ?_
      refine w1_whileN fine (fun k sl M => ∃ met cy j, sl = [some D0, some (.mr 0), some (.mr 1), some (.int (i : Nat)), some (.mr (J.length + 2)), some (.int (j : Nat))] ∧ M = some (.lst (cD (cGo xs i).2)) :: some (.lst (nI met)) :: (J ++ [some (.lst (nI cy))]) ∧ Met xs.length met ∧ j < xs.length ∧ cy.length ≤ met.length ∧ cRun xs (cGo xs i).1 [] i = cRun xs met cy j ∧ k = xs.length - met.length) ?ws ?wb
      case ws => exact ⟨_, _, [], i, rfl, rfl, hm, hi, Nat.zero_le _, rfl, rfl⟩
      case wb =>
        rintro k sl M ⟨met, cy, j, rfl, rfl, hm', hj, hc, hr', rfl⟩
        refine wt_notin ?_
        refine we_var 5 rfl ?_
        refine we_var 2 rfl ?_
        refine ⟨_, rfl, rfl, flat_nat _, ?_⟩
        rw [inF_nat]
        have hml := hm'.len
        refine Br.nd (fun hn => ?_) (fun hn => ?_)
        · refine ws_cons ?_
          refine w1_expr ?_
          refine we_append ?_
          refine we_var 2 rfl ?_
          refine ⟨_, _, rfl, rfl, ?_⟩
          refine we_var 5 rfl ?_
          refine ⟨_, rfl, by rw [nI_length]; omega, ?_⟩
          refine ws_cons ?_
          refine w1_expr ?_
          refine we_append ?_
          refine we_var 4 rfl ?_
          refine ⟨_, _, rfl, get_two, ?_⟩
          refine we_var 5 rfl ?_
          refine ⟨_, get_two, by rw [nI_length]; omega, ?_⟩
          show WS _ _ _ _ (List.set (_ :: _ :: (J ++ [_])) _ _) _
          rw [set_two]
          refine ws_last ?_
          refine w1_set 5 fine.nd ?_
          refine we_ix ?_
          refine we_var 0 rfl ?_
          refine we_var 5 rfl ?_
          refine sq_ix hd0 (by rw [nI_get, (hx.get hj).1]; rfl) ?_
          have hm2 := hm'.more hj hn
          have hl2 := hm2.len
          simp at hl2
          refine ⟨_, ?_, met ++ [j], cy ++ [j], xs.getD j 0, rfl, ?_, hm2, (hx.get hj).2, by simp; omega, ?_, rfl⟩
          · simp; omega
          · rw [nI_append, nI_append]; rfl
          · rw [hr']; exact cRun_go hm' hj hn
        · rw [cRun_stop hm' hn] at hr'
          have hg : cGo xs (i + 1) = (met, if 1 < cy.length then (cGo xs i).2 ++ [cy] else (cGo xs i).2) := by
            rw [cGo_succ]
            unfold cStep
            rw [hr']
          refine ws_last ?_
          refine w1_if ?_
          refine wt_gt ?_
          refine we_len T.len ?_
          refine we_var 4 rfl ?_
          refine ⟨nI cy, by show (match (_ :: _ :: (J ++ [_]) : Mem)[J.length + 2]? with | some (some (.lst ds)) => some ds | _ => none) = _; rw [get_two], ?_⟩
          rw [nI_length]
          refine we_int ?_
          refine ⟨_, _, rfl, rfl, ?_⟩
          refine Br.d (fun h => ?_) (fun h => ?_)
          · refine ws_last ?_
            refine w1_expr ?_
            refine we_append ?_
            refine we_var 1 rfl ?_
            refine ⟨_, _, rfl, rfl, ?_⟩
            refine we_tuplec T.tuple ?_
            refine we_var 4 rfl ?_
            refine ⟨nI cy, by show (match (_ :: _ :: (J ++ [_]) : Mem)[J.length + 2]? with | some (some (.lst ds)) => some ds | _ => none) = _; rw [get_two], .inl ?_⟩
            have hgl := len_go xs i
            refine ⟨_, rfl, by rw [cD, List.length_map]; omega, ?_⟩
            refine ⟨_, _, _, J ++ [some (.lst (nI cy))], rfl, ?_, by rw [hg]; exact hm'⟩
            rw [hg, if_pos (by omega)]
            show _ = some (MO.lst (cD _)) :: some (MO.lst (nI met)) :: _
            unfold cD
            rw [List.map_append]
            rfl
          · refine ws_nil ?_
            refine ⟨_, _, _, J ++ [some (.lst (nI cy))], rfl, ?_, by rw [hg]; exact hm'⟩
            rw [hg, if_neg (by omega)]
    case after =>
      rintro sl M ⟨a, b, c, J, rfl, rfl, hm⟩
      rw [rgD_length]
      refine ws_last ?_
      refine w1_ret ?_
      refine we_var 1 rfl ?_
      exact ⟨memPure_nil, .inr ⟨0, _, rfl, Nat.zero_le _, rfl, cD_pure _, q⟩⟩
end
end Dl.Pf
set_option maxHeartbeats 4000000
namespace Dl.Pf
open PySem L2
/-! ### plain mirrors of the defs -/
def par (xs : List Nat) : Int := ((cyc xs).map fun c => (c.length : Int) - 1).sum % 2
def invL (xs : List Nat) : List Nat := (List.range xs.length).foldl (fun r k => r.set (xs.getD k 0) k) xs
def mirL (xs : List Nat) : List Nat := (List.range xs.length).foldl (fun r k => r.set (xs.length - 1 - k) (xs.length - 1 - xs.getD k 0)) xs
def oddA (xs : List Nat) (n : Nat) : Nat := (List.range n).foldl (fun a k => a + ((List.range k).filter fun j => decide (xs.getD k 0 < xs.getD j 0)).length) 0
def oddL (xs : List Nat) : Int := (oddA xs xs.length : Nat) % 2
def invP (xs : List Nat) : List Nat := (List.range xs.length).map fun k => xs.findIdx (· == k)
def mirP (xs : List Nat) : List Nat := xs.reverse.map fun p => xs.length - 1 - p
def isIntS : Spec := fun ds M Q QL E => ∃ i : Int, ds = [.int i] ∧ M = [] ∧ Q (.bl true) []
def isPermS : Spec := fun ds M Q QL E => ∃ xs, ds = [.lst (nI xs)] ∧ M = [] ∧ xs.length ≤ 6 ∧ xs.Perm (List.range xs.length) ∧ Q (.bl true) []
def parityS : Spec := fun ds M Q QL E => ∃ xs, ds = [.xt (nI xs)] ∧ M = [] ∧ Img xs ∧ Q (.int (par xs)) []
def lawInvS : Spec := fun ds M Q QL E => ∃ d xs, ds = [d] ∧ sqP d = some (nI xs) ∧ M = [] ∧ Img xs ∧ Q (.tup (nI (invL xs))) []
def lawMirS : Spec := fun ds M Q QL E => ∃ d xs, ds = [d] ∧ sqP d = some (nI xs) ∧ M = [] ∧ Img xs ∧ Q (.tup (nI (mirL xs))) []
def lawOddS : Spec := fun ds M Q QL E => ∃ d xs, ds = [d] ∧ sqP d = some (nI xs) ∧ M = [] ∧ Img xs ∧ Q (.int (oddL xs)) []
section
variable {P : Program} {wd : World} {K : PySem.W.Frag} {mg : Str → Option Value} {base : Heap}
abbrev s_is_integer : Stmt := top 6
theorem sc_is_integer : FnScope ["value"] ["value"] (defScope s_is_integer) := ⟨rfl, rfl, rfl, by decide +kernel, rfl, by decide +kernel, by decide +kernel⟩
theorem ok_is_integer {f : Addr} {fd : FuncData} (F : Fun K "is_integer" "is_integer" s_is_integer f fd) (T : Bm mg) : FnOk P wd K mg base (L2.CX P wd) 1 f fd ["value"] (lift K isIntS) := by
  refine fnd_of F sc_is_integer (fun ds M Q QL E h => ?_) (fun X cdv A outer s H E hX hr fine ds M QR QL ER h => ?_)
  · obtain ⟨i, rfl, _⟩ := h
    rfl
  · obtain ⟨i, rfl, rfl, q⟩ := h
    subst hX
    have hu := hr.units
    refine ws_last ?_
    refine w1_ret ?_
    refine we_andN ?_
    refine we_isi T.isinstance T.int boot_int' ?_
    refine we_var 0 rfl ?_
    refine ⟨_, true, rfl, by decide +kernel, ?_⟩
    refine ⟨_, rfl, Br.tt ?_⟩
    refine we_one ?_
    refine we_not ?_
    refine we_isi T.isinstance T.bool (Ts := "bool") (by decide +kernel) ?_
    refine we_var 0 rfl ?_
    refine ⟨_, false, rfl, by decide +kernel, ?_⟩
    refine ⟨_, rfl, ?_⟩
    exact ⟨memPure_nil, .inl ⟨rfl, q⟩⟩
abbrev s_is_permutation : Stmt := top 7
theorem sc_is_permutation : FnScope ["images", "image"] ["images"] (defScope s_is_permutation) := ⟨rfl, rfl, rfl, by decide +kernel, rfl, by decide +kernel, by decide +kernel⟩
theorem nI_ints (xs : List Nat) : nI xs = (xs.map fun (k : Nat) => (k : Int)).map D.int := by simp [nI]
theorem sorted_eq : ∀ {a b : List Int}, a.Perm b → a.Pairwise (· ≤ ·) → b.Pairwise (· ≤ ·) → a = b
  | [], b, p, _, _ => (List.nil_perm.mp p).symm
  | a :: as, [], p, _, _ => by cases (List.perm_nil.mp p)
  | a :: as, b :: bs, p, pa, pb => by
    rw [List.pairwise_cons] at pa pb
    have h1 : a ≤ b := by
      have : b ∈ a :: as := p.mem_iff.mpr (List.mem_cons_self ..)
      rcases List.mem_cons.mp this with h | h
      · omega
      · exact pa.1 b h
    have h2 : b ≤ a := by
      have : a ∈ b :: bs := p.mem_iff.mp (List.mem_cons_self ..)
      rcases List.mem_cons.mp this with h | h
      · omega
      · exact pb.1 a h
    have e : a = b := by omega
    subst e
    rw [sorted_eq (List.perm_cons _ |>.mp p) pa.2 pb.2]
theorem py_nI (xs : List Nat) : pyPs (nI xs) = some (xs.map fun (k : Nat) => PyData.int (k : Int)) := pyPs_map (g := fun (k : Nat) => PyData.int (k : Int)) (f := fun (k : Nat) => D.int (k : Int)) (fun _ => rfl) xs
theorem py_lst {M : Mem} (xs : List Nat) : pyOf M (.lst (nI xs)) = some ((fun xs : List Nat => PyData.list (xs.map fun (k : Nat) => PyData.int (k : Int))) xs) := by
  show (pyPs (nI xs)).map PyData.list = _
  rw [py_nI]; rfl
theorem py_tup {M : Mem} (xs : List Nat) : pyOf M (.tup (nI xs)) = some ((fun xs : List Nat => PyData.tuple (xs.map fun (k : Nat) => PyData.int (k : Int))) xs) := by
  show (pyPs (nI xs)).map PyData.tuple = _
  rw [py_nI]; rfl
theorem py_xt {M : Mem} (xs : List Nat) : pyOf M (.xt (nI xs)) = some ((fun xs : List Nat => PyData.tuple (xs.map fun (k : Nat) => PyData.int (k : Int))) xs) := by
  show (pyPs (nI xs)).map PyData.tuple = _
  rw [py_nI]; rfl
theorem ok_is_permutation {f : Addr} {fd : FuncData} (F : Fun K "is_permutation" "is_permutation" s_is_permutation f fd) (T : Bm mg) (dInt : IsDef P wd K mg base 1 "is_integer" ["value"] isIntS) : FnOk P wd K mg base (L2.CX P wd) 2 f fd ["images"] (lift K isPermS) := by
  refine fnd_of F sc_is_permutation (fun ds M Q QL E h => ?_) (fun X cdv A outer s H E hX hr fine ds M QR QL ER h => ?_)
  · obtain ⟨xs, rfl, _⟩ := h
    rfl
  · obtain ⟨xs, rfl, rfl, h6, hp, q⟩ := h
    subst hX
    have hu := hr.units
    have hz : (1000 : Nat) ≤ sizeLine := by decide
    refine ws_cons ?_
    refine w1_if ?_
    refine wt_not ?_
    refine wt_val ?_
    refine we_all fine.calm T.all ?_
    refine we_lc 1 fine.calm fine.nd (by with_unfolding_all rfl) ?it (fun _ _ _ _ _ => pg_name fine.nd rfl (Or.inl rfl))
    refine wi_list ?_
    refine we_var 0 rfl ?_
    refine ⟨_, rfl, ?_⟩
    refine ⟨fun i acc M => acc = (List.replicate i true).map .bl ∧ M = [], ⟨rfl, rfl⟩, fun i acc M hi h => ⟨trivial, by rw [h.1, List.length_map, List.length_replicate]; rw [nI_length] at hi; omega⟩, ?_, ?_⟩
    · rintro i d acc M hd ⟨rfl, rfl⟩
      rw [nI_get] at hd
      obtain ⟨k, hk, rfl⟩ := Option.map_eq_some_iff.mp hd
      refine ⟨_, rfl, Br.tt fun _ _ _ _ _ => ?_⟩
      refine we_def [] dInt hr ?_
      refine wa_cons ?_
      refine we_var 1 rfl ?_
      refine wa_nil ?_
      refine CallD.pure rfl ⟨_, rfl, rfl, ?_, rfl⟩
      rw [List.replicate_succ', List.map_append]
      rfl
    rintro acc M ⟨rfl, rfl⟩
    refine .inl ⟨_, rfl, ?_⟩
    rw [List.all_replicate]
    refine ⟨true, by simp, Br.ff (ws_nil ?_)⟩
    refine ws_last ?_
    refine w1_ret ?_
    refine we_eq hu ?_
    refine we_sorted T.sorted ?_
    refine we_listc T.list ?_
    refine we_var 0 rfl ?_
    refine ⟨_, rfl, .inl ⟨_, congrArg some (nI_ints xs), fun ns' hp' hs' => .inl ?_⟩⟩
    have e : ns' = (List.range xs.length).map fun (k : Nat) => (k : Int) := by
      refine sorted_eq (hp'.trans (hp.map _)) hs' ?_
      rw [List.pairwise_map]
      exact List.pairwise_le_range.imp fun h => by omega
    subst e
    rw [← nI_ints]
    refine we_listRg1 fine.calm T.list T.range ?_
    refine we_len T.len ?_
    refine we_var 0 rfl ?_
    refine ⟨_, rfl, ?_⟩
    rw [nI_length]
    refine ⟨_, rfl, RgOk.of_le (by omega) (by omega) (by omega) (by omega), .inl ?_⟩
    rw [rgD_nI]
    refine Enc.nat.list.eqd (by decide) (py_lst _) (py_lst _) ?_
    rw [decide_eq_true rfl]
    exact ⟨memPure_nil, .inl ⟨rfl, q⟩⟩
end
end Dl.Pf
set_option maxHeartbeats 4000000
namespace Dl.Pf
open PySem L2
theorem nI_set (xs : List Nat) (j k : Nat) : (nI xs).set j (.int (k : Nat)) = nI (xs.set j k) := by
  unfold nI; rw [List.map_set]
theorem fold_len {f : List Nat → Nat → List Nat} (h : ∀ r k, (f r k).length = r.length) (ks : List Nat) : ∀ r : List Nat, (ks.foldl f r).length = r.length := by
  induction ks with
  | nil => intro r; rfl
  | cons k ks ih => intro r; rw [List.foldl_cons, ih, h]
theorem filt_pos {p : Nat → Bool} {j : Nat} (h : p j = true) : List.filter p [j] = [j] := by simp [List.filter, h]
theorem filt_neg {p : Nat → Bool} {j : Nat} (h : p j = false) : List.filter p [j] = [] := by simp [List.filter, h]
theorem sq_list {M : Mem} {d : D} {xs : List D} (h : sqP d = some xs) : sqOf M d = some xs := sqOf_of h
section
variable {P : Program} {wd : World} {K : PySem.W.Frag} {mg : Str → Option Value} {base : Heap}
abbrev s_parity_of : Stmt := top 8
theorem sc_parity_of : FnScope ["images", "cycle"] ["images"] (defScope s_parity_of) := ⟨rfl, rfl, rfl, by decide +kernel, rfl, by decide +kernel, by decide +kernel⟩
theorem ok_parity_of {f : Addr} {fd : FuncData} (F : Fun K "parity_of" "parity_of" s_parity_of f fd) (T : Bm mg) (dC : IsDef P wd K mg base 1 "cycles_of" ["images"] cyclesS) : FnOk P wd K mg base (L2.CX P wd) 2 f fd ["images"] (lift K parityS) := by
  refine fnd_of F sc_parity_of (fun ds M Q QL E h => ?_) (fun X cdv A outer s H E hX hr fine ds M QR QL ER h => ?_)
  · obtain ⟨xs, rfl, _⟩ := h
    rfl
  · obtain ⟨xs, rfl, rfl, hx, q⟩ := h
    subst hX
    have hu := hr.units
    have hz : (1000 : Nat) ≤ sizeLine := by decide
    have hcl : (cyc xs).length ≤ 6 := Nat.le_trans (len_go xs xs.length) hx.small
    refine ws_last ?_
    refine w1_ret ?_
    refine we_mod ?_
    refine we_sum fine.calm T.sum ?_
    refine we_lc 1 fine.calm fine.nd (by with_unfolding_all rfl) ?it (fun _ _ _ _ _ => pg_name fine.nd rfl (Or.inl rfl))
    refine wi_list ?_
    refine we_def [] dC hr ?_
    refine wa_cons ?_
    refine we_var 0 rfl ?_
    refine wa_nil ?_
    refine CallD.pure (by show (D.pures (nI xs) && true) = true; rw [nI_pure]; rfl) ⟨xs, rfl, rfl, hx, .inl ?_⟩
    refine ⟨_, rfl, ?_⟩
    have hl : (cD (cyc xs)).length = (cyc xs).length := by simp [cD]
    refine ⟨fun i acc M => acc = (((cyc xs).take i).map fun c => (c.length : Int) - 1).map .int ∧ M = [], ⟨by simp, rfl⟩, fun i acc M hi h => ⟨trivial, by rw [h.1]; simp; omega⟩, ?_, ?_⟩
    · rintro i d acc M hd ⟨rfl, rfl⟩
      unfold cD at hd
      rw [List.getElem?_map] at hd
      obtain ⟨c, hc, rfl⟩ := Option.map_eq_some_iff.mp hd
      refine ⟨_, rfl, Br.tt fun _ _ _ _ _ => ?_⟩
      refine we_sub ?_
      refine we_len T.len ?_
      refine we_var 1 rfl ?_
      refine ⟨_, rfl, ?_⟩
      refine we_int ?_
      refine ⟨_, _, rfl, rfl, ?_⟩
      refine ⟨?_, rfl⟩
      rw [List.take_add_one, hc, nI_length]
      simp
    rintro acc M ⟨rfl, rfl⟩
    refine .inl ⟨_, rfl, ?_⟩
    refine we_int ?_
    refine ⟨_, _, rfl, rfl, by show (0 : Int) < 2; decide, ?_⟩
    rw [hl, List.take_length]
    exact ⟨memPure_nil, .inl ⟨rfl, q⟩⟩
abbrev s_law_inverse : Stmt := top 16
theorem sc_law_inverse : FnScope ["_law_places_here", "_law_result", "_law_k"] ["_law_places_here"] (defScope s_law_inverse) := ⟨rfl, rfl, rfl, by decide +kernel, rfl, by decide +kernel, by decide +kernel⟩
theorem ok_law_inverse {f : Addr} {fd : FuncData} (F : Fun K "_law_inverse" "_law_inverse" s_law_inverse f fd) (T : Bm mg) : FnOk P wd K mg base (L2.CX P wd) 1 f fd ["_law_places_here"] (lift K lawInvS) := by
  refine fnd_of F sc_law_inverse (fun ds M Q QL E h => ?_) (fun X cdv A outer s H E hX hr fine ds M QR QL ER h => ?_)
  · obtain ⟨d, xs, rfl, _⟩ := h
    rfl
  · obtain ⟨d0, xs, rfl, hd0, rfl, hx, q⟩ := h
    subst hX
    have hu := hr.units
    have hs6 := hx.small
    refine ws_cons ?_
    refine w1_set 1 fine.nd ?_
    refine we_listc T.list ?_
    refine we_var 0 rfl ?_
    refine ⟨_, sq_list hd0, .inr ?_⟩
    refine ws_cons ?_
    refine w1_for fine ?_
    refine wi_rg1 T.range ?_
    refine we_len T.len ?_
    refine we_var 0 rfl ?_
    refine sq_len hd0 ?_
    rw [nI_length]
    refine ⟨_, rfl, ⟨by omega, by omega⟩, ?_⟩
    refine ⟨fun i sl M => ∃ a, sl = [some d0, some (.mr 0), a] ∧ M = [some (.lst (nI ((List.range i).foldl (fun r k => r.set (xs.getD k 0) k) xs)))], ⟨none, rfl, rfl⟩, fun _ _ _ _ _ => trivial, ?turn, ?after⟩
    case turn =>
      rintro i d sl M hd ⟨a, rfl, rfl⟩
      obtain ⟨rfl, hi⟩ := rg_get hd
      refine wg_name 2 fine.nd ?_
      refine ws_last ?_
      refine w1_setitem ?_
      refine we_var 2 rfl ?_
      refine we_var 1 rfl ?_
      refine we_ix ?_
      refine we_var 0 rfl ?_
      refine we_var 2 rfl ?_
      refine sq_ix hd0 (by rw [nI_get, (hx.get hi).1]; rfl) ?_
      refine ⟨_, _, _, xs.getD i 0, rfl, rfl, rfl, ?_, ?_⟩
      · rw [nI_length, fold_len (fun r k => List.length_set ..)]
        exact ixN_nat (hx.get hi).2
      · refine ⟨_, rfl, ?_⟩
        rw [nI_set, List.range_succ, List.foldl_append]
        rfl
    case after =>
      rintro sl M ⟨a, rfl, rfl⟩
      rw [rgD_length]
      refine ws_last ?_
      refine w1_ret ?_
      refine we_tuplec T.tuple ?_
      refine we_var 1 rfl ?_
      exact ⟨_, rfl, .inl ⟨memPure_nil, .inl ⟨nI_pure _, q⟩⟩⟩
abbrev s_law_mirrored : Stmt := top 17
theorem sc_law_mirrored : FnScope ["_law_places_here", "_law_last", "_law_result", "_law_k"] ["_law_places_here"] (defScope s_law_mirrored) := ⟨rfl, rfl, rfl, by decide +kernel, rfl, by decide +kernel, by decide +kernel⟩
theorem ok_law_mirrored {f : Addr} {fd : FuncData} (F : Fun K "_law_mirrored" "_law_mirrored" s_law_mirrored f fd) (T : Bm mg) : FnOk P wd K mg base (L2.CX P wd) 1 f fd ["_law_places_here"] (lift K lawMirS) := by
  refine fnd_of F sc_law_mirrored (fun ds M Q QL E h => ?_) (fun X cdv A outer s H E hX hr fine ds M QR QL ER h => ?_)
  · obtain ⟨d, xs, rfl, _⟩ := h
    rfl
  · obtain ⟨d0, xs, rfl, hd0, rfl, hx, q⟩ := h
    subst hX
    have hu := hr.units
    have hs6 := hx.small
    refine ws_cons ?_
    refine w1_set 1 fine.nd ?_
    refine we_sub ?_
    refine we_len T.len ?_
    refine we_var 0 rfl ?_
    refine sq_len hd0 ?_
    rw [nI_length]
    refine we_int ?_
    refine ⟨_, _, rfl, rfl, ?_⟩
    refine ws_cons ?_
    refine w1_set 2 fine.nd ?_
    refine we_listc T.list ?_
    refine we_var 0 rfl ?_
    refine ⟨_, sq_list hd0, .inr ?_⟩
    refine ws_cons ?_
    refine w1_for fine ?_
    refine wi_rg1 T.range ?_
    refine we_len T.len ?_
    refine we_var 0 rfl ?_
    refine sq_len hd0 ?_
    rw [nI_length]
    refine ⟨_, rfl, ⟨by omega, by omega⟩, ?_⟩
    refine ⟨fun i sl M => ∃ a, sl = [some d0, some (.int ((xs.length : Int) - 1)), some (.mr 0), a] ∧ M = [some (.lst (nI ((List.range i).foldl (fun r k => r.set (xs.length - 1 - k) (xs.length - 1 - xs.getD k 0)) xs)))], ⟨none, rfl, rfl⟩, fun _ _ _ _ _ => trivial, ?turn, ?after⟩
    case turn =>
      rintro i d sl M hd ⟨a, rfl, rfl⟩
      obtain ⟨rfl, hi⟩ := rg_get hd
      refine wg_name 3 fine.nd ?_
      refine ws_last ?_
      refine w1_setitem ?_
      refine we_sub ?_
      refine we_var 1 rfl ?_
      refine we_ix ?_
      refine we_var 0 rfl ?_
      refine we_var 3 rfl ?_
      refine sq_ix hd0 (by rw [nI_get, (hx.get hi).1]; rfl) ?_
      refine ⟨_, _, rfl, rfl, ?_⟩
      refine we_var 2 rfl ?_
      refine we_sub ?_
      refine we_var 1 rfl ?_
      refine we_var 3 rfl ?_
      refine ⟨_, _, rfl, rfl, ?_⟩
      have hp := (hx.get hi).2
      have e1 : (xs.length : Int) - 1 - (i : Nat) = ((xs.length - 1 - i : Nat) : Int) := by omega
      have e2 : (xs.length : Int) - 1 - (xs.getD i 0 : Nat) = ((xs.length - 1 - xs.getD i 0 : Nat) : Int) := by omega
      refine ⟨_, _, _, xs.length - 1 - i, rfl, rfl, rfl, ?_, ?_⟩
      · rw [e1, nI_length, fold_len (fun r k => List.length_set ..)]
        exact ixN_nat (by omega)
      · refine ⟨_, rfl, ?_⟩
        dsimp only
        rw [e2, nI_set, List.range_succ, List.foldl_append]
        rfl
    case after =>
      rintro sl M ⟨a, rfl, rfl⟩
      rw [rgD_length]
      refine ws_last ?_
      refine w1_ret ?_
      refine we_tuplec T.tuple ?_
      refine we_var 2 rfl ?_
      exact ⟨_, rfl, .inl ⟨memPure_nil, .inl ⟨nI_pure _, q⟩⟩⟩
abbrev s_law_odd_pairs : Stmt := top 18
theorem sc_law_odd_pairs : FnScope ["_law_places_here", "_law_pairs", "_law_k", "_law_j"] ["_law_places_here"] (defScope s_law_odd_pairs) := ⟨rfl, rfl, rfl, by decide +kernel, rfl, by decide +kernel, by decide +kernel⟩
theorem ok_law_odd_pairs {f : Addr} {fd : FuncData} (F : Fun K "_law_odd_pairs" "_law_odd_pairs" s_law_odd_pairs f fd) (T : Bm mg) : FnOk P wd K mg base (L2.CX P wd) 1 f fd ["_law_places_here"] (lift K lawOddS) := by
  refine fnd_of F sc_law_odd_pairs (fun ds M Q QL E h => ?_) (fun X cdv A outer s H E hX hr fine ds M QR QL ER h => ?_)
  · obtain ⟨d, xs, rfl, _⟩ := h
    rfl
  · obtain ⟨d0, xs, rfl, hd0, rfl, hx, q⟩ := h
    subst hX
    have hu := hr.units
    have hz : (1000 : Nat) ≤ sizeLine := by decide
    have hs6 := hx.small
    refine ws_cons ?_
    refine w1_set 1 fine.nd ?_
    refine we_int ?_
    refine ws_cons ?_
    refine w1_for fine ?_
    refine wi_rg1 T.range ?_
    refine we_len T.len ?_
    refine we_var 0 rfl ?_
    refine sq_len hd0 ?_
    rw [nI_length]
    refine ⟨_, rfl, ⟨by omega, by omega⟩, ?_⟩
    refine ⟨fun i sl M => ∃ a, sl = [some d0, some (.int (oddA xs i : Nat)), a, none] ∧ M = [], ⟨none, rfl, rfl⟩, fun _ _ _ _ _ => trivial, ?turn, ?after⟩
    case turn =>
      rintro i d sl M hd ⟨a, rfl, rfl⟩
      obtain ⟨rfl, hi⟩ := rg_get hd
      refine wg_name 2 fine.nd ?_
      refine ws_last ?_
      refine w1_set 1 fine.nd ?_
      refine we_add ?_
      refine we_var 1 rfl ?_
      refine we_len T.len ?_
      refine we_lcIf 3 fine.calm fine.nd (by with_unfolding_all rfl) ?it (fun _ _ _ _ _ => pg_name fine.nd rfl (Or.inl rfl))
      refine wi_rg1 T.range ?_
      refine we_var 2 rfl ?_
      refine ⟨_, rfl, ⟨by omega, by omega⟩, ?_⟩
      refine ⟨fun j acc M => acc = nI ((List.range j).filter fun j => decide (xs.getD i 0 < xs.getD j 0)) ∧ M = [], ⟨rfl, rfl⟩, fun j acc M hj h => ⟨trivial, ?_⟩, ?_, ?_⟩
      · rw [h.1, nI_length]
        rw [rgD_length] at hj
        have := List.length_filter_le (fun j => decide (xs.getD i 0 < xs.getD j 0)) (List.range j)
        rw [List.length_range] at this
        omega
      · rintro j d acc M hd' ⟨rfl, rfl⟩
        obtain ⟨rfl, hj⟩ := rg_get hd'
        refine ⟨_, rfl, fun _ _ _ _ _ => ?_⟩
        refine wt_gt ?_
        refine we_ix ?_
        refine we_var 0 rfl ?_
        refine we_var 3 rfl ?_
        refine sq_ix hd0 (by rw [nI_get, (hx.get (Nat.lt_trans hj hi)).1]; rfl) ?_
        refine we_ix ?_
        refine we_var 0 rfl ?_
        refine we_var 2 rfl ?_
        refine sq_ix hd0 (by rw [nI_get, (hx.get hi).1]; rfl) ?_
        refine ⟨_, _, rfl, rfl, ?_⟩
        refine Br.d (fun h => ?_) (fun h => ?_)
        · intro _ _ _ _ _
          refine we_var 3 rfl ⟨?_, rfl⟩
          rw [List.range_succ, List.filter_append, nI_append]
          rw [filt_pos (decide_eq_true (by omega))]
          rfl
        · refine ⟨?_, rfl⟩
          rw [List.range_succ, List.filter_append, nI_append]
          rw [filt_neg (decide_eq_false (by omega))]
          exact (List.append_nil _).symm
      · rintro acc M ⟨rfl, rfl⟩
        rw [rgD_length]
        refine .inl ⟨_, rfl, ?_⟩
        refine ⟨some (.int (i : Nat)), ?_, rfl⟩
        unfold oddA
        rw [List.range_succ, List.foldl_append, nI_length]
        simp
    case after =>
      rintro sl M ⟨a, rfl, rfl⟩
      rw [rgD_length]
      refine ws_last ?_
      refine w1_ret ?_
      refine we_mod ?_
      refine we_var 1 rfl ?_
      refine we_int ?_
      refine ⟨_, _, rfl, rfl, by show (0 : Int) < 2; decide, ?_⟩
      exact ⟨memPure_nil, .inl ⟨rfl, q⟩⟩
end
end Dl.Pf
set_option maxHeartbeats 4000000
namespace Dl.Pf
open PySem L2
/-! ### the class Turn -/
abbrev turnD (C : Addr) (xs : List Nat) : D := .ins C [("places", .xt (nI xs))]
theorem turnD_pure (C : Addr) (xs : List Nat) : (turnD C xs).pure = true := by
  show (D.pures (nI xs) && true) = true
  rw [nI_pure]; rfl
theorem TurnL.img {xs : List Nat} (h : TurnL 6 xs) : Img xs := ⟨h.le, fun x hx => List.mem_range.mp (h.perm.mem_iff.mp hx)⟩
def initS (C : Addr) : Spec := fun ds M Q QL E => ∃ xs, ds = [.mr 0, .lst (nI xs)] ∧ M = [some (.ins C [])] ∧ TurnL 6 xs ∧ Q .non [some (.ins C [("places", .xt (nI xs))])]
def eqS (C : Addr) : Spec := fun ds M Q QL E => ∃ xs ys, ds = [turnD C xs, turnD C ys] ∧ M = [] ∧ Q (.bl (decide (xs = ys))) []
def inverseS (C : Addr) : Spec := fun ds M Q QL E => ∃ xs, ds = [turnD C xs] ∧ M = [] ∧ TurnL 6 xs ∧ TurnL 6 (invP xs) ∧ Q (turnD C (invP xs)) []
def mirroredS (C : Addr) : Spec := fun ds M Q QL E => ∃ xs, ds = [turnD C xs] ∧ M = [] ∧ TurnL 6 xs ∧ TurnL 6 (mirP xs) ∧ Q (turnD C (mirP xs)) []
def isEvenS (C : Addr) : Spec := fun ds M Q QL E => ∃ xs, ds = [turnD C xs] ∧ M = [] ∧ TurnL 6 xs ∧ Q (.bl (decide (par xs = 0))) []
def cyclesMS (C : Addr) : Spec := fun ds M Q QL E => ∃ xs, ds = [turnD C xs] ∧ M = [] ∧ TurnL 6 xs ∧ QL (cD (cyc xs)) []
structure Tn (K : PySem.W.Frag) (mg : Str → Option Value) (C : Addr) : Prop where
  cl : Cls K C
  no : NoAttr K C "places"
  inst : InstC K C
  glob : mg "Turn" = some (.ref C)
  widest : ∃ mc u, ClX.CRead K C mc ∧ ClX.CVal K C mc "WIDEST" (.int 6) u
theorem fld_places {K : PySem.W.Frag} {mg : Str → Option Value} {C : Addr} {M : Mem} {xs : List Nat} {Q : QD} (T : Tn K mg C) (q : Q (.xt (nI xs)) M) : FldD K "places" (turnD C xs) M Q := ⟨T.cl, T.no, _, rfl, q⟩
section
variable {P : Program} {wd : World} {K : PySem.W.Frag} {mg : Str → Option Value} {base : Heap} {C : Addr}
abbrev s_init : Stmt := inClass (top 9) 1
abbrev s_eq : Stmt := inClass (top 9) 2
abbrev s_inverse : Stmt := inClass (top 9) 6
abbrev s_mirrored : Stmt := inClass (top 9) 7
abbrev s_is_even : Stmt := inClass (top 9) 8
abbrev s_cycles : Stmt := inClass (top 9) 9
theorem sc_init : FnScope ["self", "places"] ["self", "places"] (defScope s_init) := ⟨rfl, rfl, rfl, by decide +kernel, rfl, by decide +kernel, by decide +kernel⟩
theorem ok_init {f : Addr} {fd : FuncData} (F : Fun K "__init__" "Turn.__init__" s_init f fd) (T : Bm mg) (Tc : Tn K mg C) (dP : IsDef P wd K mg base 2 "is_permutation" ["images"] isPermS) : FnOk P wd K mg base (L2.CX P wd) 3 f fd ["self", "places"] (lift K (initS C)) := by
  refine fnd_of F sc_init (fun ds M Q QL E h => ?_) (fun X cdv A outer s H E hX hr fine ds M QR QL ER h => ?_)
  · obtain ⟨xs, rfl, _⟩ := h
    rfl
  · obtain ⟨xs, rfl, rfl, ht, q⟩ := h
    subst hX
    have hu := hr.units
    have h2 := ht.two
    have h6 := ht.le
    obtain ⟨mc, u, cr, cv⟩ := Tc.widest
    obtain ⟨fst, mid, lst, e⟩ := ends_of h2
    refine ws_cons ?_
    refine w1_if ?_
    refine wt_bool ?_
    refine ww_or ?_
    refine wt_not ?_
    refine wt_chain op_le op_le ?_
    refine we_int ?_
    refine we_len T.len ?_
    refine we_var 1 rfl ?_
    refine ⟨_, rfl, ?_⟩
    rw [nI_length]
    refine ⟨_, _, rfl, rfl, Br.d (fun h => ?_) (fun h => absurd h (by omega))⟩
    refine we_cval cr cv (fun _ => .int 6) ?_
    refine we_glob Tc.glob ?_
    refine ⟨rfl, _, rfl, Br.nd (fun h => absurd h (by omega)) (fun h => ?_)⟩
    refine ww_or1 ?_
    refine wt_not ?_
    refine wt_val ?_
    refine we_def [] dP hr ?_
    refine wa_cons ?_
    refine we_var 1 rfl ?_
    refine wa_nil ?_
    refine CallD.pure (by show (D.pures (nI xs) && true) = true; rw [nI_pure]; rfl) ⟨xs, rfl, rfl, h6, ht.perm, ?_⟩
    refine ⟨true, rfl, Br.ff (ws_nil ?_)⟩
    refine ws_cons ?_
    refine w1_if ?_
    refine wt_bool ?_
    refine ww_or ?_
    refine wt_eq hu ?_
    refine we_ix ?_
    refine we_var 1 rfl ?_
    refine we_int ?_
    have a0 : atI (nI xs) 0 = some (.int (fst : Nat)) := by rw [e]; exact atI_first
    have a1 : atI (nI xs) (-1) = some (.int (lst : Nat)) := by rw [e]; exact atI_lastN
    have hf : fst ≠ 0 := by have := ht.head; rw [e] at this; simpa using this
    have hl : lst ≠ xs.length - 1 := by
      have := ht.last
      have e1 : xs[xs.length - 1]? = some lst := by
        rw [e]
        have : (fst :: (mid ++ [lst])).length - 1 = (fst :: mid).length := by simp
        rw [this, ← List.cons_append, List.getElem?_append_right (Nat.le_refl _)]
        simp
      rw [e1] at this
      simpa using this
    refine ⟨_, _, rfl, a0, ?_⟩
    refine we_int ?_
    refine Br.d (fun h => absurd h (by omega)) (fun h => ?_)
    refine ww_or1 ?_
    refine wt_eq hu ?_
    refine we_ix ?_
    refine we_var 1 rfl ?_
    refine we_neg (we_int ?_)
    refine ⟨_, rfl, _, _, rfl, a1, ?_⟩
    refine we_sub ?_
    refine we_len T.len ?_
    refine we_var 1 rfl ?_
    refine ⟨_, rfl, ?_⟩
    rw [nI_length]
    refine we_int ?_
    refine ⟨_, _, rfl, rfl, ?_⟩
    refine Br.d (fun h => absurd h (by omega)) (fun h => ws_nil ?_)
    refine ws_last ?_
    refine w1_setattr ?_
    refine we_tuplec T.tuple ?_
    refine we_var 1 rfl ?_
    refine ⟨_, rfl, .inr ?_⟩
    refine we_var 0 rfl ?_
    refine ⟨_, C, [], rfl, rfl, Tc.cl, Tc.no, by decide, ?_⟩
    refine ⟨memPure_one (turnD_pure C xs), .inl ⟨rfl, q⟩⟩
theorem sc_eq : FnScope ["self", "other"] ["self", "other"] (defScope s_eq) := ⟨rfl, rfl, rfl, by decide +kernel, rfl, by decide +kernel, by decide +kernel⟩
theorem ok_eq {f : Addr} {fd : FuncData} (F : Fun K "__eq__" "Turn.__eq__" s_eq f fd) (T : Bm mg) (Tc : Tn K mg C) : FnOk P wd K mg base (L2.CX P wd) 1 f fd ["self", "other"] (lift K (eqS C)) := by
  refine fnd_of F sc_eq (fun ds M Q QL E h => ?_) (fun X cdv A outer s H E hX hr fine ds M QR QL ER h => ?_)
  · obtain ⟨xs, ys, rfl, _⟩ := h
    rfl
  · obtain ⟨xs, ys, rfl, rfl, q⟩ := h
    subst hX
    have hu := hr.units
    refine ws_last ?_
    refine w1_ret ?_
    refine we_andN ?_
    refine we_isiOwn Tc.inst T.isinstance Tc.glob ?_
    refine we_var 1 rfl ?_
    refine ⟨_, .inl rfl, _, rfl, Br.tt ?_⟩
    refine we_one ?_
    refine we_eq hu ?_
    refine we_fld ?_
    refine we_var 0 rfl ?_
    refine fld_places Tc ?_
    refine we_fld ?_
    refine we_var 1 rfl ?_
    refine fld_places Tc ?_
    refine Enc.nat.tuple.eqd (by decide) (py_xt _) (py_xt _) ?_
    exact ⟨memPure_nil, .inl ⟨rfl, q⟩⟩
theorem sc_inverse : FnScope ["self", "index"] ["self"] (defScope s_inverse) := ⟨rfl, rfl, rfl, by decide +kernel, rfl, by decide +kernel, by decide +kernel⟩
theorem ok_inverse {f : Addr} {fd : FuncData} (F : Fun K "inverse" "Turn.inverse" s_inverse f fd) (T : Bm mg) (Tc : Tn K mg C) (cT : IsCls P wd K mg base 3 C "Turn" ["self", "places"] (initS C)) : FnOk P wd K mg base (L2.CX P wd) 5 f fd ["self"] (lift K (inverseS C)) := by
  refine fnd_of F sc_inverse (fun ds M Q QL E h => ?_) (fun X cdv A outer s H E hX hr fine ds M QR QL ER h => ?_)
  · obtain ⟨xs, rfl, _⟩ := h
    rfl
  · obtain ⟨xs, rfl, rfl, ht, ht2, q⟩ := h
    subst hX
    have hu := hr.units
    have hz : (1000 : Nat) ≤ sizeLine := by decide
    have h6 := ht.le
    refine ws_last ?_
    refine w1_ret ?_
    refine we_make cT hr ?_
    refine wa_cons ?_
    refine we_lc 1 fine.calm fine.nd (by with_unfolding_all rfl) ?it (fun _ _ _ _ _ => pg_name fine.nd rfl (Or.inl rfl))
    refine wi_rg1 T.range ?_
    refine we_len T.len ?_
    refine we_fld ?_
    refine we_var 0 rfl ?_
    refine fld_places Tc ?_
    refine ⟨_, rfl, ?_⟩
    rw [nI_length]
    refine ⟨_, rfl, ⟨by omega, by omega⟩, ?_⟩
    refine ⟨fun i acc M => acc = nI ((List.range i).map fun k => xs.findIdx (· == k)) ∧ M = [], ⟨rfl, rfl⟩, fun i acc M hi h => ⟨trivial, ?_⟩, ?_, ?_⟩
    · rw [h.1, nI_length, List.length_map, List.length_range]
      rw [rgD_length] at hi
      omega
    · rintro i d acc M hd ⟨rfl, rfl⟩
      obtain ⟨rfl, hi⟩ := rg_get hd
      refine ⟨_, rfl, Br.tt fun _ _ _ _ _ => ?_⟩
      refine we_tindex ?_
      refine we_fld ?_
      refine we_var 0 rfl ?_
      refine fld_places Tc ?_
      refine ⟨_, congrArg D.xt (nI_ints xs), ?_⟩
      refine we_var 1 rfl ?_
      have him : i ∈ xs := ht.perm.mem_iff.mpr (List.mem_range.mpr hi)
      have hlt : xs.findIdx (· == i) < xs.length := List.findIdx_lt_length_of_exists ⟨i, him, by simp⟩
      have heq : xs[xs.findIdx (· == i)] = i := by have := List.findIdx_getElem (w := hlt); simpa using this
      refine ⟨_, xs.findIdx (· == i), rfl, ?_, fun m hm => ?_, ?_, rfl⟩
      · rw [List.getElem?_map, List.getElem?_eq_getElem hlt, heq]; rfl
      · rw [List.getElem?_map, List.getElem?_eq_getElem (Nat.lt_trans hm hlt)]
        have := List.not_of_lt_findIdx hm
        intro z
        simp at z
        simp at this
        exact this (by omega)
      · rw [List.range_succ, List.map_append, nI_append]; rfl
    · rintro acc M ⟨rfl, rfl⟩
      rw [rgD_length]
      refine .inl ?_
      refine wa_nil ?_
      refine ⟨_, .cons (.pur (nI_pure _)) .nil, invP xs, rfl, rfl, ht2, rfl, _, rfl, .inl ?_⟩
      exact ⟨memPure_nil, .inl ⟨turnD_pure C _, q⟩⟩
theorem sc_mirrored : FnScope ["self", "place"] ["self"] (defScope s_mirrored) := ⟨rfl, rfl, rfl, by decide +kernel, rfl, by decide +kernel, by decide +kernel⟩
theorem ok_mirrored {f : Addr} {fd : FuncData} (F : Fun K "mirrored" "Turn.mirrored" s_mirrored f fd) (T : Bm mg) (Tc : Tn K mg C) (cT : IsCls P wd K mg base 3 C "Turn" ["self", "places"] (initS C)) : FnOk P wd K mg base (L2.CX P wd) 5 f fd ["self"] (lift K (mirroredS C)) := by
  refine fnd_of F sc_mirrored (fun ds M Q QL E h => ?_) (fun X cdv A outer s H E hX hr fine ds M QR QL ER h => ?_)
  · obtain ⟨xs, rfl, _⟩ := h
    rfl
  · obtain ⟨xs, rfl, rfl, ht, ht2, q⟩ := h
    subst hX
    have hu := hr.units
    have hz : (1000 : Nat) ≤ sizeLine := by decide
    have h6 := ht.le
    refine ws_last ?_
    refine w1_ret ?_
    refine we_make cT hr ?_
    refine wa_cons ?_
    refine we_lc 1 fine.calm fine.nd (by with_unfolding_all rfl) ?it (fun _ _ _ _ _ => pg_name fine.nd rfl (Or.inl rfl))
    refine wi_tup ?_
    refine we_revT ?_
    refine we_fld ?_
    refine we_var 0 rfl ?_
    refine fld_places Tc ?_
    refine ⟨_, rfl, ?_⟩
    refine ⟨_, rfl, ?_⟩
    have er : (nI xs).reverse = nI xs.reverse := by unfold nI; rw [List.map_reverse]
    rw [er]
    refine ⟨fun i acc M => acc = nI ((xs.reverse.take i).map fun p => xs.length - 1 - p) ∧ M = [], ⟨by simp [nI], rfl⟩, fun i acc M hi h => ⟨trivial, ?_⟩, ?_, ?_⟩
    · rw [h.1, nI_length, List.length_map]
      have := List.length_take_le i xs.reverse
      rw [nI_length, List.length_reverse] at hi
      omega
    · rintro i d acc M hd ⟨rfl, rfl⟩
      rw [nI_get] at hd
      obtain ⟨p, hp, rfl⟩ := Option.map_eq_some_iff.mp hd
      have hpm : p < xs.length := ht.img.lt p (List.mem_reverse.mp (List.mem_of_getElem? hp))
      refine ⟨_, rfl, Br.tt fun _ _ _ _ _ => ?_⟩
      refine we_sub ?_
      refine we_sub ?_
      refine we_len T.len ?_
      refine we_fld ?_
      refine we_var 0 rfl ?_
      refine fld_places Tc ?_
      refine ⟨_, rfl, ?_⟩
      refine we_int ?_
      refine ⟨_, _, rfl, rfl, ?_⟩
      refine we_var 1 rfl ?_
      refine ⟨_, _, rfl, rfl, ?_⟩
      refine ⟨?_, rfl⟩
      rw [List.take_add_one, hp, nI_length]
      have e1 : (xs.length : Int) - 1 - (p : Nat) = ((xs.length - 1 - p : Nat) : Int) := by omega
      show _ ++ [D.int ((xs.length : Int) - 1 - (p : Nat))] = _
      rw [e1, List.map_append, nI_append]
      rfl
    · rintro acc M ⟨rfl, rfl⟩
      rw [nI_length, List.take_length]
      refine .inl ?_
      refine wa_nil ?_
      refine ⟨_, .cons (.pur (nI_pure _)) .nil, mirP xs, rfl, rfl, ht2, rfl, _, rfl, .inl ?_⟩
      exact ⟨memPure_nil, .inl ⟨turnD_pure C _, q⟩⟩
theorem sc_is_even : FnScope ["self"] ["self"] (defScope s_is_even) := ⟨rfl, rfl, rfl, by decide +kernel, rfl, by decide +kernel, by decide +kernel⟩
theorem ok_is_even {f : Addr} {fd : FuncData} (F : Fun K "is_even" "Turn.is_even" s_is_even f fd) (T : Bm mg) (Tc : Tn K mg C) (dP : IsDef P wd K mg base 2 "parity_of" ["images"] parityS) : FnOk P wd K mg base (L2.CX P wd) 3 f fd ["self"] (lift K (isEvenS C)) := by
  refine fnd_of F sc_is_even (fun ds M Q QL E h => ?_) (fun X cdv A outer s H E hX hr fine ds M QR QL ER h => ?_)
  · obtain ⟨xs, rfl, _⟩ := h
    rfl
  · obtain ⟨xs, rfl, rfl, ht, q⟩ := h
    subst hX
    have hu := hr.units
    refine ws_last ?_
    refine w1_ret ?_
    refine we_eq hu ?_
    refine we_def [] dP hr ?_
    refine wa_cons ?_
    refine we_fld ?_
    refine we_var 0 rfl ?_
    refine fld_places Tc ?_
    refine wa_nil ?_
    refine CallD.pure (by show (D.pures (nI xs) && true) = true; rw [nI_pure]; rfl) ⟨xs, rfl, rfl, ht.img, ?_⟩
    refine we_int ?_
    exact ⟨memPure_nil, .inl ⟨rfl, q⟩⟩
theorem sc_cycles : FnScope ["self"] ["self"] (defScope s_cycles) := ⟨rfl, rfl, rfl, by decide +kernel, rfl, by decide +kernel, by decide +kernel⟩
theorem ok_cycles {f : Addr} {fd : FuncData} (F : Fun K "cycles" "Turn.cycles" s_cycles f fd) (T : Bm mg) (Tc : Tn K mg C) (dP : IsDef P wd K mg base 1 "cycles_of" ["images"] cyclesS) : FnOk P wd K mg base (L2.CX P wd) 2 f fd ["self"] (lift K (cyclesMS C)) := by
  refine fnd_of F sc_cycles (fun ds M Q QL E h => ?_) (fun X cdv A outer s H E hX hr fine ds M QR QL ER h => ?_)
  · obtain ⟨xs, rfl, _⟩ := h
    rfl
  · obtain ⟨xs, rfl, rfl, ht, q⟩ := h
    subst hX
    refine ws_last ?_
    refine w1_ret ?_
    refine we_def [] dP hr ?_
    refine wa_cons ?_
    refine we_fld ?_
    refine we_var 0 rfl ?_
    refine fld_places Tc ?_
    refine wa_nil ?_
    refine CallD.pure (by show (D.pures (nI xs) && true) = true; rw [nI_pure]; rfl) ⟨xs, rfl, rfl, ht.img, .inr ?_⟩
    exact ⟨memPure_nil, .inr ⟨0, _, rfl, Nat.zero_le _, rfl, cD_pure _, q⟩⟩
end
end Dl.Pf
set_option maxHeartbeats 4000000
namespace Dl.Pf
/-! ### the plain law: all turns of at most six places -/
def perms : Nat → List Nat → List (List Nat)
  | 0, _ => [[]]
  | f + 1, l => match l with
    | [] => [[]]
    | l => l.flatMap fun x => (perms f (l.erase x)).map (x :: ·)
theorem mem_perms : ∀ (f : Nat) (l xs : List Nat), l.length ≤ f → xs.Perm l → xs ∈ perms f l
  | 0, l, xs, hf, h => by
    have : l = [] := List.length_eq_zero_iff.mp (by omega)
    subst this
    rw [List.perm_nil.mp h]
    simp [perms]
  | f + 1, [], xs, hf, h => by rw [List.perm_nil.mp h]; simp [perms]
  | f + 1, a :: l, xs, hf, h => by
    cases xs with
    | nil => exact absurd (List.nil_perm.mp h) (by simp)
    | cons x xs =>
      have hx : x ∈ a :: l := h.mem_iff.mp (List.mem_cons_self ..)
      show x :: xs ∈ List.flatMap _ (a :: l)
      rw [List.mem_flatMap]
      refine ⟨x, hx, List.mem_map.mpr ⟨xs, ?_, rfl⟩⟩
      refine mem_perms f _ xs ?_ (List.cons_perm_iff_perm_erase.mp h).2
      rw [List.length_erase_of_mem hx]
      simp at hf
      simp
      omega
def turnB (xs : List Nat) : Bool := decide (2 ≤ xs.length) && decide (xs.length ≤ 6) && xs.isPerm (List.range xs.length) && decide (xs[0]? ≠ some 0) && decide (xs[xs.length - 1]? ≠ some (xs.length - 1))
theorem turn_of_B {xs : List Nat} (h : turnB xs = true) : TurnL 6 xs := by
  unfold turnB at h
  simp only [Bool.and_eq_true, decide_eq_true_eq, List.isPerm_iff] at h
  exact ⟨h.1.1.1.1, h.1.1.1.2, h.1.1.2, h.1.2, h.2⟩
def fineB (xs : List Nat) : Bool :=
  !turnB xs || (turnB (invP xs) && turnB (mirP xs) && turnB (mirP (invP xs)) && decide (invP xs = invL xs) && decide (mirP xs = mirL xs) && decide (mirP (invP xs) = mirL (invL xs))
    && decide (par (invP xs) = par xs) && decide (par (mirP xs) = par xs) && decide (par (mirP (invP xs)) = par xs) && decide (oddL xs = par xs) && decide (invP (invP xs) = xs) && decide (mirP (mirP xs) = xs))
set_option maxHeartbeats 0 in
theorem all_fine : ((List.range 7).all fun n => (perms n (List.range n)).all fineB) = true := by decide +kernel
end Dl.Pf
set_option maxHeartbeats 4000000
namespace Dl.Pf
open PySem L2
structure Good (xs : List Nat) : Prop where
  t : TurnL 6 xs
  i : TurnL 6 (invP xs)
  m : TurnL 6 (mirP xs)
  im : TurnL 6 (mirP (invP xs))
  e1 : invP xs = invL xs
  e2 : mirP xs = mirL xs
  e3 : mirP (invP xs) = mirL (invL xs)
  p1 : par (invP xs) = par xs
  p2 : par (mirP xs) = par xs
  p3 : par (mirP (invP xs)) = par xs
  od : oddL xs = par xs
  ii : invP (invP xs) = xs
  mm : mirP (mirP xs) = xs
theorem good {xs : List Nat} (h : TurnL 6 xs) : Good xs := by
  have hn : xs.length ∈ List.range 7 := List.mem_range.mpr (by have := h.le; omega)
  have h1 := List.all_eq_true.mp all_fine _ hn
  have h2 := List.all_eq_true.mp h1 xs (mem_perms _ _ _ (by simp) h.perm)
  unfold fineB at h2
  have hb : turnB xs = true := by
    unfold turnB
    simp only [Bool.and_eq_true, decide_eq_true_eq, List.isPerm_iff]
    exact ⟨⟨⟨⟨h.two, h.le⟩, h.perm⟩, h.head⟩, h.last⟩
  rw [hb] at h2
  simp only [Bool.not_true, Bool.false_or, Bool.and_eq_true, decide_eq_true_eq] at h2
  obtain ⟨⟨⟨⟨⟨⟨⟨⟨⟨⟨⟨a, b⟩, c⟩, d⟩, e⟩, f⟩, g⟩, i⟩, j⟩, k⟩, l⟩, m⟩ := h2
  exact ⟨h, turn_of_B a, turn_of_B b, turn_of_B c, d, e, f, g, i, j, k, l, m⟩
theorem py_cDs (cs : List (List Nat)) : pyPs (cD cs) = some (cs.map fun c => PyData.tuple (c.map fun (k : Nat) => PyData.int (k : Int))) := pyPs_map (g := fun c : List Nat => PyData.tuple (c.map fun (k : Nat) => PyData.int (k : Int))) (f := fun c : List Nat => D.tup (nI c)) (fun c => by show (pyPs (nI c)).map PyData.tuple = _; rw [py_nI]; rfl) cs
theorem py_cD {M : Mem} (cs : List (List Nat)) : pyOf M (.lst (cD cs)) = some ((fun cs : List (List Nat) => PyData.list (cs.map fun c => PyData.tuple (c.map fun (k : Nat) => PyData.int (k : Int)))) cs) := by
  show (pyPs (cD cs)).map PyData.list = _
  rw [py_cDs]; rfl
theorem py_cM {M : Mem} {n : Nat} (cs : List (List Nat)) (h : M[n]? = some (some (.lst (cD cs)))) : pyOf M (.mr n) = some ((fun cs : List (List Nat) => PyData.list (cs.map fun c => PyData.tuple (c.map fun (k : Nat) => PyData.int (k : Int)))) cs) := by
  show (match M[n]? with | some (some (.lst ds)) => (pyPs ds).map PyData.list | _ => none) = _
  rw [h]
  show (pyPs (cD cs)).map PyData.list = _
  rw [py_cDs]; rfl
theorem callPlaces {W : XD} {sl : Slots} {Q : QD} {M : Mem} {k : Nat} {a b : Int} (h : M[k]? = some (some (srcO a b))) (ok : srcOk a b) (q : ∀ xs a', TurnL 6 xs → srcOk a' b → Q (.lst (nI xs)) (M.set k (some (srcO a' b)))) : CallD placesS [k] W sl Q [.mr k, .int 6] M :=
  ⟨_, _, .cons (.io (j := 0) rfl) (.cons (.pur rfl) .nil), ioOk_one h rfl, a, b, 6, rfl, rfl, ok, by decide, by decide, fun xs a' x y => .inl (q xs a' x y)⟩
theorem eqd_ints {i j : Int} {M : Mem} {Q : Bool → Mem → Prop} (q : Q (decide (i = j)) M) : EqD (.int i) (.int j) M Q := q
theorem eqd_bls {i j : Bool} {M : Mem} {Q : Bool → Mem → Prop} (q : Q (decide (i = j)) M) : EqD (.bl i) (.bl j) M Q := Enc.bl.eqd (by decide) rfl rfl q
theorem asB_i {Q : QD} {b : Bool} {M : Mem} (q : Q (.bl b) M) : asB Q b M := q
theorem ty_mr {M : Mem} {n : Nat} {ds : List D} (h : M[n]? = some (some (.lst ds))) : tyD M (.mr n) = some "list" := by simp only [tyD, h]
theorem pure1 {C : Addr} {xs : List Nat} : D.pures [turnD C xs] = true := by show ((turnD C xs).pure && true) = true; rw [turnD_pure]; rfl
section
variable {C : Addr} {xs : List Nat} {sl : Slots} {Q : QD} {M : Mem} {W : XD}
theorem cInv (h : TurnL 6 xs) (h2 : TurnL 6 (invP xs)) (q : Q (turnD C (invP xs)) M) : ∃ fs, (turnD C xs = .ins C fs ∨ ∃ n, turnD C xs = .mr n ∧ M[n]? = some (some (.ins C fs))) ∧ CallD (inverseS C) [] W0 sl Q [turnD C xs] M := ⟨_, .inl rfl, CallD.pure pure1 ⟨xs, rfl, rfl, h, h2, q⟩⟩
theorem cMir (h : TurnL 6 xs) (h2 : TurnL 6 (mirP xs)) (q : Q (turnD C (mirP xs)) M) : ∃ fs, (turnD C xs = .ins C fs ∨ ∃ n, turnD C xs = .mr n ∧ M[n]? = some (some (.ins C fs))) ∧ CallD (mirroredS C) [] W0 sl Q [turnD C xs] M := ⟨_, .inl rfl, CallD.pure pure1 ⟨xs, rfl, rfl, h, h2, q⟩⟩
theorem cEven (h : TurnL 6 xs) (q : Q (.bl (decide (par xs = 0))) M) : ∃ fs, (turnD C xs = .ins C fs ∨ ∃ n, turnD C xs = .mr n ∧ M[n]? = some (some (.ins C fs))) ∧ CallD (isEvenS C) [] W0 sl Q [turnD C xs] M := ⟨_, .inl rfl, CallD.pure pure1 ⟨xs, rfl, rfl, h, q⟩⟩
theorem cCyc (h : TurnL 6 xs) (q : New Q (cD (cyc xs)) M) : ∃ fs, (turnD C xs = .ins C fs ∨ ∃ n, turnD C xs = .mr n ∧ M[n]? = some (some (.ins C fs))) ∧ fs.lookup ("cycles" : Str) = none ∧ CallD (cyclesMS C) [] W sl Q [turnD C xs] M := ⟨_, .inl rfl, by with_unfolding_all rfl, CallD.pure pure1 ⟨xs, rfl, rfl, h, q⟩⟩
theorem pureP {d : D} (h : d.pure = true) : D.pures [d] = true := by show (d.pure && true) = true; rw [h]; rfl
theorem cLI {d : D} (hp : d.pure = true) (hd : sqP d = some (nI xs)) (h : Img xs) (q : Q (.tup (nI (invL xs))) M) : CallD lawInvS [] W sl Q [d] M := CallD.pure (pureP hp) ⟨d, xs, rfl, hd, rfl, h, q⟩
theorem cLM {d : D} (hp : d.pure = true) (hd : sqP d = some (nI xs)) (h : Img xs) (q : Q (.tup (nI (mirL xs))) M) : CallD lawMirS [] W sl Q [d] M := CallD.pure (pureP hp) ⟨d, xs, rfl, hd, rfl, h, q⟩
theorem cLO {d : D} (hp : d.pure = true) (hd : sqP d = some (nI xs)) (h : Img xs) (q : Q (.int (oddL xs)) M) : CallD lawOddS [] W sl Q [d] M := CallD.pure (pureP hp) ⟨d, xs, rfl, hd, rfl, h, q⟩
theorem cLC {d : D} (hp : d.pure = true) (hd : sqP d = some (nI xs)) (h : Img xs) (q : Q (.lst (cD (cyc xs))) M) : CallD lawCyclesS [] W sl Q [d] M := CallD.pure (pureP hp) ⟨d, xs, rfl, hd, rfl, h, .inl q⟩
theorem cEq {ys : List Nat} {Q : Bool → Mem → Prop} (q : Q (decide (xs = ys)) M) : OwnD (eqS C) C sl (turnD C xs) (turnD C ys) M fun b M => ∃ c, D.bl b = .bl c ∧ Q c M :=
  ⟨_, _, .inl rfl, .inl rfl, CallD.pure (by show ((turnD C xs).pure && ((turnD C ys).pure && true)) = true; rw [turnD_pure, turnD_pure]; rfl) ⟨xs, ys, rfl, rfl, _, rfl, _, rfl, q⟩⟩
end
/-- what the law's own text calls -/
structure Calls (P : Program) (wd : World) (K : PySem.W.Frag) (mg : Str → Option Value) (base : Heap) (C : Addr) : Prop where
  cell : IsDef P wd K mg base 1 "_law_cell" ["_law_script", "_law_place"] cellS
  source : IsDef P wd K mg base 1 "_law_source" ["_law_cell_here"] sourceS
  places : IsDef P wd K mg base 2 "_law_places" ["_law_source_here", "_law_widest"] placesS
  cls : IsCls P wd K mg base 3 C "Turn" ["self", "places"] (initS C)
  inv : IsProp P wd K mg base 5 C "inverse" ["self"] (inverseS C)
  mir : IsProp P wd K mg base 5 C "mirrored" ["self"] (mirroredS C)
  even : IsProp P wd K mg base 3 C "is_even" ["self"] (isEvenS C)
  cyc : IsMeth P wd K mg base 2 C "cycles" ["self"] (cyclesMS C)
  eq : IsEq P wd K mg base 1 C ["self", "other"] (eqS C)
  linv : IsDef P wd K mg base 1 "_law_inverse" ["_law_places_here"] lawInvS
  lmir : IsDef P wd K mg base 1 "_law_mirrored" ["_law_places_here"] lawMirS
  lodd : IsDef P wd K mg base 1 "_law_odd_pairs" ["_law_places_here"] lawOddS
  lcyc : IsDef P wd K mg base 1 "_law_cycles" ["_law_images"] lawCyclesS
section
variable {P : Program} {wd : World} {K : PySem.W.Frag} {mg : Str → Option Value} {base : Heap} {C : Addr}
abbrev s_law : Stmt := top 19
theorem sc_law : FnScope ["_law_script", "_law_source_here", "_law_turn", "_law_places_here", "_law_made", "_law_again", "_law_other", "_law_even", "_law_cycles_here"] ["_law_script"] (defScope s_law) := ⟨rfl, rfl, rfl, by decide +kernel, rfl, by decide +kernel, by decide +kernel⟩
theorem ok_law {f : Addr} {fd : FuncData} (F : Fun K "law" "law" s_law f fd) (T : Bm mg) (Tc : Tn K mg C) (k : Calls P wd K mg base C) : FnOk P wd K mg base (L2.CX P wd) 7 f fd ["_law_script"] (lift K lawS) := by
  refine fnd_of F sc_law (fun ds M Q QL E h => ?_) (fun X cdv A outer s H E hX hr fine ds M QR QL ER h => ?_)
  · obtain ⟨ns, rfl, _⟩ := h
    rfl
  · obtain ⟨ns, rfl, rfl, hns, q⟩ := h
    subst hX
    have hu := hr.units
    have hz : (1000 : Nat) ≤ sizeLine := by decide
    have hr1 := hr.mono (show 1 ≤ 6 by decide)
    have hr2 := hr.mono (show 2 ≤ 6 by decide)
    have hr4 := hr.mono (show 4 ≤ 6 by decide)
    refine ws_cons ?_
    refine w1_set 1 fine.nd ?_
    refine we_def [] k.source hr1 ?_
    refine wa_cons ?_
    refine we_def [] k.cell hr1 ?_
    refine wa_cons ?_
    refine we_var 0 rfl ?_
    refine wa_cons ?_
    refine we_int ?_
    refine wa_nil ?_
    refine CallD.pure rfl ⟨ns, 0, rfl, rfl, ?_⟩
    refine wa_nil ?_
    refine CallD.pure rfl ⟨_, rfl, rfl, fun a0 b0 ok0 => .inr ?_⟩
    refine ws_cons ?_
    refine w1_for fine ?_
    refine wi_rg1 T.range ?_
    refine we_int ?_
    refine ⟨_, rfl, ⟨by omega, by omega⟩, ?_⟩
    refine ⟨fun i sl M => ∃ c2 c3 c4 c5 c6 c7 c8 J a, sl = [some (.scr ns), some (.mr 0), c2, c3, c4, c5, c6, c7, c8] ∧ M = some (srcO a b0) :: J ∧ srcOk a b0, ⟨none, none, none, none, none, none, none, [], a0, rfl, rfl, ok0⟩, fun _ _ _ _ _ => trivial, ?turn, ?after⟩
    case after =>
      rintro sl M ⟨c2, c3, c4, c5, c6, c7, c8, J, a, rfl, rfl, ok⟩
      refine ws_last ?_
      refine w1_ret ?_
      refine we_bl ?_
      exact ⟨memPure_nil, .inl ⟨rfl, q⟩⟩
    case turn =>
      rintro i d sl M hd ⟨c2, c3, c4, c5, c6, c7, c8, J, a, rfl, rfl, ok⟩
      refine wg_name 2 fine.nd ?_
      refine ws_cons ?_
      refine w1_set 3 fine.nd ?_
      refine we_def [0] k.places hr2 ?_
      refine wa_cons ?_
      refine we_var 1 rfl ?_
      refine wa_cons ?_
      refine we_int ?_
      refine wa_nil ?_
      refine callPlaces rfl ok fun xs a' ht ok' => ?_
      have g := good ht
      refine ws_cons ?_
      refine w1_set 4 fine.nd ?_
      refine we_make k.cls hr4 ?_
      refine wa_cons ?_
      refine we_var 3 rfl ?_
      refine wa_nil ?_
      refine ⟨_, .cons (.pur (nI_pure _)) .nil, xs, rfl, rfl, ht, rfl, _, rfl, .inl ?_⟩
      refine ws_cons ?_
      refine w1_for fine ?_
      refine wi_rg1 T.range ?_
      refine we_int ?_
      refine ⟨_, rfl, ⟨by omega, by omega⟩, ?_⟩
      refine ⟨fun i sl M => ∃ c5 c6 c7 c8 J, sl = [some (.scr ns), some (.mr 0), some d, some (.lst (nI xs)), some (turnD C xs), c5, c6, c7, c8] ∧ M = some (srcO a' b0) :: J, ⟨_, _, _, _, _, rfl, rfl⟩, fun _ _ _ _ _ => trivial, ?again, ?behind⟩
      case again =>
        rintro i2 d2 sl M hd2 ⟨c5, c6, c7, c8, J, rfl, rfl⟩
        refine wg_name 5 fine.nd ?_
        refine ws_cons ?_
        refine w1_if ?_
        refine wt_bool ?_
        refine ww_or ?_
        refine wt_not ?_
        refine wt_val ?_
        refine we_isiOwn Tc.inst T.isinstance Tc.glob ?_
        refine we_prop k.inv hr ?_
        refine we_var 4 rfl ?_
        refine cInv g.t g.i ?_
        refine ⟨_, .inl rfl, _, rfl, Br.ff ?_⟩
        refine ww_or1 ?_
        refine wt_ne hu ?_
        refine we_fld ?_
        refine we_prop k.inv hr ?_
        refine we_var 4 rfl ?_
        refine cInv g.t g.i ?_
        refine fld_places Tc ?_
        refine we_def [] k.linv hr1 ?_
        refine wa_cons ?_
        refine we_var 3 rfl ?_
        refine wa_nil ?_
        refine cLI (nI_pure _) rfl g.t.img ?_
        refine Enc.nat.tuple.eqd (by decide) (py_xt _) (py_tup _) ?_
        rw [decide_eq_true g.e1]
        refine Br.ff (ws_nil ?_)
        refine ws_cons ?_
        refine w1_if ?_
        refine wt_bool ?_
        refine ww_or ?_
        refine wt_not ?_
        refine wt_val ?_
        refine we_isiOwn Tc.inst T.isinstance Tc.glob ?_
        refine we_prop k.mir hr ?_
        refine we_var 4 rfl ?_
        refine cMir g.t g.m ?_
        refine ⟨_, .inl rfl, _, rfl, Br.ff ?_⟩
        refine ww_or1 ?_
        refine wt_ne hu ?_
        refine we_fld ?_
        refine we_prop k.mir hr ?_
        refine we_var 4 rfl ?_
        refine cMir g.t g.m ?_
        refine fld_places Tc ?_
        refine we_def [] k.lmir hr1 ?_
        refine wa_cons ?_
        refine we_var 3 rfl ?_
        refine wa_nil ?_
        refine cLM (nI_pure _) rfl g.t.img ?_
        refine Enc.nat.tuple.eqd (by decide) (py_xt _) (py_tup _) ?_
        rw [decide_eq_true g.e2]
        refine Br.ff (ws_nil ?_)
        refine ws_cons ?_
        refine w1_if ?_
        refine wt_ne hu ?_
        refine we_fld ?_
        refine we_prop k.mir hr ?_
        refine we_prop k.inv hr ?_
        refine we_var 4 rfl ?_
        refine cInv g.t g.i ?_
        refine cMir g.i g.im ?_
        refine fld_places Tc ?_
        refine we_def [] k.lmir hr1 ?_
        refine wa_cons ?_
        refine we_def [] k.linv hr1 ?_
        refine wa_cons ?_
        refine we_var 3 rfl ?_
        refine wa_nil ?_
        refine cLI (nI_pure _) rfl g.t.img ?_
        refine wa_nil ?_
        refine cLM (nI_pure _) rfl (g.e1 ▸ g.i.img) ?_
        refine Enc.nat.tuple.eqd (by decide) (py_xt _) (py_tup _) ?_
        rw [decide_eq_true g.e3]
        refine Br.ff (ws_nil ?_)
        refine ws_cons ?_
        refine w1_for fine ?_
        refine wi_list ?_
        refine we_list ?_
        refine wa_cons ?_
        refine we_prop k.inv hr ?_
        refine we_var 4 rfl ?_
        refine cInv g.t g.i ?_
        refine wa_cons ?_
        refine we_prop k.mir hr ?_
        refine we_var 4 rfl ?_
        refine cMir g.t g.m ?_
        refine wa_cons ?_
        refine we_prop k.mir hr ?_
        refine we_prop k.inv hr ?_
        refine we_var 4 rfl ?_
        refine cInv g.t g.i ?_
        refine cMir g.i g.im ?_
        refine wa_nil ?_
        refine ⟨by show 3 ≤ sizeLine; decide, .inl ?_⟩
        refine ⟨_, rfl, ?_⟩
        refine ⟨fun i sl M => ∃ c6, sl = [some (.scr ns), some (.mr 0), some d, some (.lst (nI xs)), some (turnD C xs), some d2, c6, c7, c8] ∧ M = some (srcO a' b0) :: J, ⟨_, rfl, rfl⟩, fun _ _ _ _ _ => trivial, ?other, ?rest⟩
        case other =>
          rintro i3 d3 sl M hd3 ⟨c6, rfl, rfl⟩
          obtain ⟨ys, rfl, hy, hyp⟩ : ∃ ys, d3 = turnD C ys ∧ TurnL 6 ys ∧ par ys = par xs := by
            match i3, hd3 with
            | 0, h => cases h; exact ⟨_, rfl, g.i, g.p1⟩
            | 1, h => cases h; exact ⟨_, rfl, g.m, g.p2⟩
            | 2, h => cases h; exact ⟨_, rfl, g.im, g.p3⟩
          refine wg_name 6 fine.nd ?_
          refine ws_last ?_
          refine w1_if ?_
          refine wt_bool ?_
          refine ww_or ?_
          refine wt_ne hu ?_
          refine we_meth0 [] k.cyc hr2 ?_
          refine we_var 6 rfl ?_
          refine cCyc hy (.inl ?_)
          refine we_def [] k.lcyc hr1 ?_
          refine wa_cons ?_
          refine we_fld ?_
          refine we_var 6 rfl ?_
          refine fld_places Tc ?_
          refine wa_nil ?_
          refine cLC (nI_pure _) rfl hy.img ?_
          refine Enc.nat.tuple.list.eqd (by decide) (py_cD _) (py_cD _) ?_
          rw [decide_eq_true rfl]
          refine Br.ff ?_
          refine ww_or1 ?_
          refine wt_ne hu ?_
          refine we_prop k.even hr4 ?_
          refine we_var 6 rfl ?_
          refine cEven hy ?_
          refine we_prop k.even hr4 ?_
          refine we_var 4 rfl ?_
          refine cEven g.t ?_
          refine Enc.bl.eqd (by decide) rfl rfl ?_
          rw [hyp, decide_eq_true rfl]
          refine Br.ff (ws_nil ?_)
          exact ⟨_, rfl, rfl⟩
        case rest =>
          rintro sl M ⟨c6, rfl, rfl⟩
          refine ws_cons ?_
          refine w1_set 7 fine.nd ?_
          refine we_prop k.even hr4 ?_
          refine we_var 4 rfl ?_
          refine cEven g.t ?_
          refine ws_cons ?_
          refine w1_if ?_
          refine wt_bool ?_
          refine ww_or ?_
          refine wt_not ?_
          refine wt_val ?_
          refine we_isi T.isinstance T.bool (Ts := "bool") (by decide +kernel) ?_
          refine we_var 7 rfl ?_
          refine ⟨_, true, rfl, by decide +kernel, ?_⟩
          refine ⟨_, rfl, Br.ff ?_⟩
          refine ww_or1 ?_
          refine wt_ne hu ?_
          refine we_var 7 rfl ?_
          refine we_eq hu ?_
          refine we_def [] k.lodd hr1 ?_
          refine wa_cons ?_
          refine we_var 3 rfl ?_
          refine wa_nil ?_
          refine cLO (nI_pure _) rfl g.t.img ?_
          refine we_int ?_
          rw [g.od]
          refine eqd_ints (asB_i ?_)
          refine eqd_bls ?_
          rw [decide_eq_true rfl]
          refine Br.ff (ws_nil ?_)
          refine ws_cons ?_
          refine w1_set 8 fine.nd ?_
          refine we_meth0 [] k.cyc hr2 ?_
          refine we_var 4 rfl ?_
          refine cCyc g.t (.inr ?_)
          refine ws_cons ?_
          have hJ : ∀ x, (some (srcO a' b0) :: J ++ [x] : Mem)[(some (srcO a' b0) :: J : Mem).length]? = some x := fun x => by simp
          refine w1_if ?_
          refine wt_bool ?_
          refine ww_or ?_
          refine wt_not ?_
          refine wt_val ?_
          refine we_isi T.isinstance T.list boot_list' ?_
          refine we_var 8 rfl ?_
          refine ⟨"list", true, ty_mr (hJ _), by decide +kernel, ?_⟩
          refine ⟨_, rfl, Br.ff ?_⟩
          refine ww_or1 ?_
          refine wt_ne hu ?_
          refine we_var 8 rfl ?_
          refine we_def [] k.lcyc hr1 ?_
          refine wa_cons ?_
          refine we_var 3 rfl ?_
          refine wa_nil ?_
          refine cLC (nI_pure _) rfl g.t.img ?_
          refine Enc.nat.tuple.list.eqd (by decide) (py_cM _ (hJ _)) (py_cD _) ?_
          rw [decide_eq_true rfl]
          refine Br.ff (ws_nil ?_)
          refine ws_cons ?_
          refine w1_expr ?_
          refine we_append ?_
          refine we_var 8 rfl ?_
          refine ⟨_, _, rfl, hJ _, ?_⟩
          refine we_tuple ?_
          refine wa_cons ?_
          refine we_int ?_
          refine wa_cons ?_
          refine we_int ?_
          refine wa_nil ?_
          refine ⟨by show 2 ≤ sizeLine; decide, ?_⟩
          have hcl : (cyc xs).length ≤ 6 := Nat.le_trans (len_go xs xs.length) g.t.le
          refine ⟨_, hJ _, by rw [cD, List.length_map]; omega, ?_⟩
          refine ws_last ?_
          refine w1_expr ?_
          refine we_reverse ?_
          refine we_var 8 rfl ?_
          refine ⟨_, cD (cyc xs) ++ [.tup [.int 0, .int 5]], rfl, ?_, ?_⟩
          · rw [List.getElem?_set_self (by simp)]
          · refine ⟨_, _, _, _, J ++ [some (MO.lst (cD (cyc xs) ++ [D.tup [D.int 0, D.int 5]]).reverse)], rfl, ?_⟩
            simp
      case behind =>
        rintro sl M ⟨c5, c6, c7, c8, J, rfl, rfl⟩
        refine ws_last ?_
        refine w1_if ?_
        refine wt_bool ?_
        refine ww_or ?_
        refine wt_not ?_
        refine wt_eqOwn k.eq hr1 ?_
        refine we_prop k.inv hr ?_
        refine we_prop k.inv hr ?_
        refine we_var 4 rfl ?_
        refine cInv g.t g.i ?_
        refine cInv g.i (g.ii.symm ▸ g.t) ?_
        refine we_var 4 rfl ?_
        refine cEq ?_
        rw [decide_eq_true g.ii]
        refine Br.ff ?_
        refine ww_or ?_
        refine wt_not ?_
        refine wt_eqOwn k.eq hr1 ?_
        refine we_prop k.mir hr ?_
        refine we_prop k.mir hr ?_
        refine we_var 4 rfl ?_
        refine cMir g.t g.m ?_
        refine cMir g.m (g.mm.symm ▸ g.t) ?_
        refine we_var 4 rfl ?_
        refine cEq ?_
        rw [decide_eq_true g.mm]
        refine Br.ff ?_
        refine ww_or1 ?_
        refine wt_ne hu ?_
        refine we_fld ?_
        refine we_var 4 rfl ?_
        refine fld_places Tc ?_
        refine we_tuplec T.tuple ?_
        refine we_var 3 rfl ?_
        refine ⟨_, rfl, .inl ?_⟩
        refine Enc.nat.tuple.eqd (by decide) (py_xt _) (py_tup _) ?_
        rw [decide_eq_true rfl]
        refine Br.ff (ws_nil ?_)
        exact ⟨_, _, _, _, _, _, _, J, a', rfl, rfl, ok'⟩
end
end Dl.Pf
set_option maxHeartbeats 4000000
namespace Dl.Pf
open PySem L2
theorem all_mk {l : PySem.W.OpenLaw} {w : World} {K : PySem.W.Frag} {h : Heap} {mg : Str → Option Value} {fa C f1 f2 f3 f4 f5 f6 f7 f8 f9 f10 f11 f12 f13 m1 m2 m3 p1 p2 p3 g1 g2 g3 : Addr} {u : Value} (X : K.In h) (G : h.Ns mainGlobals mg) (hfa : mg "law" = some (.ref fa))
    (aC : PySem.W.nsIn K mainGlobals "Turn" = some (some (.ref C))) (cl : Cls K C) (mk : PySem.W.makesIn K C = true) (kc : PySem.W.keepIn K (.ref C) = true) (no : PySem.W.findIn K (.ref C) "places" = some none)
    (ha : PySem.W.findIn K (.ref C) "__class__" = some (some (.builtin "object.__class__"))) (hn : PySem.W.specialIn K (.builtin "object.__class__") "__get__" = some (some (.builtin "getset_descriptor.__get__"))) (htk : PySem.W.takesIn K (.builtin "object.__class__") = some true) (hm : PySem.W.mroIn K C (.type "object") = some true)
    (rd : PySem.W.readsIn K C (.type "type") = true) (ga : PySem.W.specialIn K (.ref C) "__getattribute__" = some (some (.builtin "type.__getattribute__"))) (wv : PySem.W.findCls K (.ref C) (.type "type") "WIDEST" = some (.val u)) (wr : RelV (.int 6) u)
    (d1 : DefF K "cycles_of" s_cycles_of f1) (d2 : DefF K "is_integer" s_is_integer f2) (d3 : DefF K "is_permutation" s_is_permutation f3) (d4 : DefF K "parity_of" s_parity_of f4)
    (d5 : DefF K "_law_cell" s_cell f5) (d6 : DefF K "_law_source" s_source f6) (d7 : DefF K "_law_draw" s_draw f7) (d8 : DefF K "_law_places" s_places f8) (d9 : DefF K "_law_cycles" s_law_cycles f9) (d10 : DefF K "_law_inverse" s_law_inverse f10) (d11 : DefF K "_law_mirrored" s_law_mirrored f11) (d12 : DefF K "_law_odd_pairs" s_law_odd_pairs f12) (d13 : DefF K "law" s_law f13)
    (e1 : MethF K C "__init__" "Turn.__init__" s_init m1) (e2 : MethF K C "__eq__" "Turn.__eq__" s_eq m2) (e3 : MethF K C "cycles" "Turn.cycles" s_cycles m3)
    (q1 : PropF K C "inverse" "Turn.inverse" s_inverse p1 g1) (q2 : PropF K C "mirrored" "Turn.mirrored" s_mirrored p2 g2) (q3 : PropF K C "is_even" "Turn.is_even" s_is_even p3 g3)
    (z1 : PySem.W.nsIn K mainGlobals "len" = some none) (z2 : PySem.W.nsIn K mainGlobals "int" = some none) (z3 : PySem.W.nsIn K mainGlobals "list" = some none) (z4 : PySem.W.nsIn K mainGlobals "range" = some none) (z5 : PySem.W.nsIn K mainGlobals "tuple" = some none)
    (z6 : PySem.W.nsIn K mainGlobals "sum" = some none) (z7 : PySem.W.nsIn K mainGlobals "all" = some none) (z8 : PySem.W.nsIn K mainGlobals "sorted" = some none) (z9 : PySem.W.nsIn K mainGlobals "isinstance" = some none) (z10 : PySem.W.nsIn K mainGlobals "bool" = some none) :
    ∃ fd : FuncData, (∀ (s : Shared) (u : Value), BindsTo s fd ⟨[u], []⟩ [("_law_script", u)]) ∧ ∀ base : Heap, K.In base → base.Ns mainGlobals mg → FnOk l.prog w K mg base (L2.CX l.prog w) 7 fa fd ["_law_script"] (lift K lawS) := by
  have N : ∀ {y : Str}, PySem.W.nsIn K mainGlobals y = some none → mg y = none := fun z => PySem.W.mg_none_of X G z
  have T0 : Bl mg := ⟨N z1, N z2, N z3, N z4, N z5⟩
  have T : Bm mg := ⟨T0, N z6, N z7, N z8, N z9, N z10⟩
  have hC := PySem.W.mg_of X G aC
  have Tc : Tn K mg C := ⟨cl, no, ⟨cl, ha, hn, htk, hm⟩, hC, .type "type", u, ⟨rd, ga⟩, ⟨wv, wr⟩⟩
  refine law_end d13 X G hfa (fun _ _ _ _ _ _ s v => .of_eq rfl) fun base fd b1 b2 F => ?_
  have I1 : IsDef l.prog w K mg base 1 "cycles_of" ["images"] cyclesS := d1.is X G (fun _ _ _ _ _ _ us hl => match us, hl with | [_], _ => rfl) fun fd F => ok_cycles_of F T
  have I2 : IsDef l.prog w K mg base 1 "is_integer" ["value"] isIntS := d2.is X G (fun _ _ _ _ _ _ us hl => match us, hl with | [_], _ => rfl) fun fd F => ok_is_integer F T
  have I3 : IsDef l.prog w K mg base 2 "is_permutation" ["images"] isPermS := d3.is X G (fun _ _ _ _ _ _ us hl => match us, hl with | [_], _ => rfl) fun fd F => ok_is_permutation F T I2
  have I4 : IsDef l.prog w K mg base 2 "parity_of" ["images"] parityS := d4.is X G (fun _ _ _ _ _ _ us hl => match us, hl with | [_], _ => rfl) fun fd F => ok_parity_of F T I1
  have I5 : IsDef l.prog w K mg base 1 "_law_cell" ["_law_script", "_law_place"] cellS := d5.is X G (fun _ _ _ _ _ _ us hl => match us, hl with | [_, _], _ => rfl) fun fd F => ok_cell F T0
  have I6 : IsDef l.prog w K mg base 1 "_law_source" ["_law_cell_here"] sourceS := d6.is X G (fun _ _ _ _ _ _ us hl => match us, hl with | [_], _ => rfl) fun fd F => ok_source F T0
  have I7 : IsDef l.prog w K mg base 1 "_law_draw" ["_law_source_here", "_law_limit"] drawS := d7.is X G (fun _ _ _ _ _ _ us hl => match us, hl with | [_, _], _ => rfl) fun fd F => ok_draw F T0
  have I8 : IsDef l.prog w K mg base 2 "_law_places" ["_law_source_here", "_law_widest"] placesS := d8.is X G (fun _ _ _ _ _ _ us hl => match us, hl with | [_, _], _ => rfl) fun fd F => ok_places F T0 I7
  have I9 : IsDef l.prog w K mg base 1 "_law_cycles" ["_law_images"] lawCyclesS := d9.is X G (fun _ _ _ _ _ _ us hl => match us, hl with | [_], _ => rfl) fun fd F => ok_law_cycles F T
  have I10 : IsDef l.prog w K mg base 1 "_law_inverse" ["_law_places_here"] lawInvS := d10.is X G (fun _ _ _ _ _ _ us hl => match us, hl with | [_], _ => rfl) fun fd F => ok_law_inverse F T
  have I11 : IsDef l.prog w K mg base 1 "_law_mirrored" ["_law_places_here"] lawMirS := d11.is X G (fun _ _ _ _ _ _ us hl => match us, hl with | [_], _ => rfl) fun fd F => ok_law_mirrored F T
  have I12 : IsDef l.prog w K mg base 1 "_law_odd_pairs" ["_law_places_here"] lawOddS := d12.is X G (fun _ _ _ _ _ _ us hl => match us, hl with | [_], _ => rfl) fun fd F => ok_law_odd_pairs F T
  have J1 : IsCls l.prog w K mg base 3 C "Turn" ["self", "places"] (initS C) := e1.init hC mk kc (fun _ _ _ _ _ _ us hl => match us, hl with | [_, _], _ => rfl) fun fd F => ok_init F T Tc I3
  have J2 : IsEq l.prog w K mg base 1 C ["self", "other"] (eqS C) := e2.eq (fun _ _ _ _ _ _ us hl => match us, hl with | [_, _], _ => rfl) fun fd F => ok_eq F T Tc
  have J3 : IsMeth l.prog w K mg base 2 C "cycles" ["self"] (cyclesMS C) := e3.is cl (fun _ _ _ _ _ _ us hl => match us, hl with | [_], _ => rfl) fun fd F => ok_cycles F T Tc I1
  have J4 : IsProp l.prog w K mg base 5 C "inverse" ["self"] (inverseS C) := q1.is cl (fun _ _ _ _ _ _ us hl => match us, hl with | [_], _ => rfl) fun fd F => ok_inverse F T Tc J1
  have J5 : IsProp l.prog w K mg base 5 C "mirrored" ["self"] (mirroredS C) := q2.is cl (fun _ _ _ _ _ _ us hl => match us, hl with | [_], _ => rfl) fun fd F => ok_mirrored F T Tc J1
  have J6 : IsProp l.prog w K mg base 3 C "is_even" ["self"] (isEvenS C) := q3.is cl (fun _ _ _ _ _ _ us hl => match us, hl with | [_], _ => rfl) fun fd F => ok_is_even F T Tc I4
  exact ok_law F T Tc ⟨I5, I6, I8, J1, J4, J5, J6, J3, J2, I10, I11, I12, I9⟩
end Dl.Pf
open PySem PySem.W PyProof.Rows
set_option maxRecDepth 100000 in
set_option maxHeartbeats 0 in
theorem PySem.Challenge.cw_windowturns_k12_images_of_a_turn_holds : PySem.Challenge.rw_windowturns_k12_images_of_a_turn.Holds := by
  w_on; o_law; k_head; (case hw => w_witness2)
  k_fill
  refine Dl.walk (l := PySem.Challenge.rw_windowturns_k12_images_of_a_turn) (k := 7) "_law_script" ⟨rfl, by decide, by decide⟩ rfl rfl (fun w h Y => PySem.W.kIn_of Y) ?F
  case F =>
    intro w mg fa h KX G hmg
    refine' Dl.Pf.all_mk KX G hmg ?aC ?cl ?mk ?kc ?no ?ha ?hn ?htk ?hm ?rd ?ga ?wv ?wr ?d1 ?d2 ?d3 ?d4 ?d5 ?d6 ?d7 ?d8 ?d9 ?d10 ?d11 ?d12 ?d13 ?e1 ?e2 ?e3 ?q1 ?q2 ?q3 ?z1 ?z2 ?z3 ?z4 ?z5 ?z6 ?z7 ?z8 ?z9 ?z10
    (case aC => k_is)
    (case cl => refine' ⟨?a, ?b, ?c, ?d⟩; (case a => k_is); (case b => k_is); (case c => k_is); (case d => k_is))
    (case mk => k_is)
    (case kc => k_is)
    (case no => k_is)
    (case ha => k_is)
    (case hn => k_is)
    (case htk => k_is)
    (case hm => k_is)
    (case rd => k_is)
    (case ga => k_is)
    (case wv => k_is)
    (case wr => exact ⟨_, rfl⟩)
    (case d1 => refine' ⟨?a, ?fn⟩; (case a => k_is); (case fn => refine' Dl.FnF.mk ?l ?c ?k; (case l => k_is); (case c => k_is); (case k => k_is)))
    (case d2 => refine' ⟨?a, ?fn⟩; (case a => k_is); (case fn => refine' Dl.FnF.mk ?l ?c ?k; (case l => k_is); (case c => k_is); (case k => k_is)))
    (case d3 => refine' ⟨?a, ?fn⟩; (case a => k_is); (case fn => refine' Dl.FnF.mk ?l ?c ?k; (case l => k_is); (case c => k_is); (case k => k_is)))
    (case d4 => refine' ⟨?a, ?fn⟩; (case a => k_is); (case fn => refine' Dl.FnF.mk ?l ?c ?k; (case l => k_is); (case c => k_is); (case k => k_is)))
    (case d5 => refine' ⟨?a, ?fn⟩; (case a => k_is); (case fn => refine' Dl.FnF.mk ?l ?c ?k; (case l => k_is); (case c => k_is); (case k => k_is)))
    (case d6 => refine' ⟨?a, ?fn⟩; (case a => k_is); (case fn => refine' Dl.FnF.mk ?l ?c ?k; (case l => k_is); (case c => k_is); (case k => k_is)))
    (case d7 => refine' ⟨?a, ?fn⟩; (case a => k_is); (case fn => refine' Dl.FnF.mk ?l ?c ?k; (case l => k_is); (case c => k_is); (case k => k_is)))
    (case d8 => refine' ⟨?a, ?fn⟩; (case a => k_is); (case fn => refine' Dl.FnF.mk ?l ?c ?k; (case l => k_is); (case c => k_is); (case k => k_is)))
    (case d9 => refine' ⟨?a, ?fn⟩; (case a => k_is); (case fn => refine' Dl.FnF.mk ?l ?c ?k; (case l => k_is); (case c => k_is); (case k => k_is)))
    (case d10 => refine' ⟨?a, ?fn⟩; (case a => k_is); (case fn => refine' Dl.FnF.mk ?l ?c ?k; (case l => k_is); (case c => k_is); (case k => k_is)))
    (case d11 => refine' ⟨?a, ?fn⟩; (case a => k_is); (case fn => refine' Dl.FnF.mk ?l ?c ?k; (case l => k_is); (case c => k_is); (case k => k_is)))
    (case d12 => refine' ⟨?a, ?fn⟩; (case a => k_is); (case fn => refine' Dl.FnF.mk ?l ?c ?k; (case l => k_is); (case c => k_is); (case k => k_is)))
    (case d13 => refine' ⟨?a, ?fn⟩; (case a => k_is); (case fn => refine' Dl.FnF.mk ?l ?c ?k; (case l => k_is); (case c => k_is); (case k => k_is)))
    (case e1 => refine' ⟨?a, ?i, ?fn⟩; (case a => k_is); (case i => k_is); (case fn => refine' Dl.FnF.mk ?l ?c ?k; (case l => k_is); (case c => k_is); (case k => k_is)))
    (case e2 => refine' ⟨?a, ?i, ?fn⟩; (case a => k_is); (case i => k_is); (case fn => refine' Dl.FnF.mk ?l ?c ?k; (case l => k_is); (case c => k_is); (case k => k_is)))
    (case e3 => refine' ⟨?a, ?i, ?fn⟩; (case a => k_is); (case i => k_is); (case fn => refine' Dl.FnF.mk ?l ?c ?k; (case l => k_is); (case c => k_is); (case k => k_is)))
    (case q1 => refine' Dl.PropF.mk' ?a ?g ?t ?r ?fn; (case a => k_is); (case g => k_is); (case t => k_is); (case r => k_is); (case fn => refine' Dl.FnF.mk ?l ?c ?k; (case l => k_is); (case c => k_is); (case k => k_is)))
    (case q2 => refine' Dl.PropF.mk' ?a ?g ?t ?r ?fn; (case a => k_is); (case g => k_is); (case t => k_is); (case r => k_is); (case fn => refine' Dl.FnF.mk ?l ?c ?k; (case l => k_is); (case c => k_is); (case k => k_is)))
    (case q3 => refine' Dl.PropF.mk' ?a ?g ?t ?r ?fn; (case a => k_is); (case g => k_is); (case t => k_is); (case r => k_is); (case fn => refine' Dl.FnF.mk ?l ?c ?k; (case l => k_is); (case c => k_is); (case k => k_is)))
    (case z1 => k_is)
    (case z2 => k_is)
    (case z3 => k_is)
    (case z4 => k_is)
    (case z5 => k_is)
    (case z6 => k_is)
    (case z7 => k_is)
    (case z8 => k_is)
    (case z9 => k_is)
    (case z10 => k_is)
#print axioms PySem.Challenge.cw_windowturns_k12_images_of_a_turn_holds
