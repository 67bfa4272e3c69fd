import PyProof.Rows.All
import Wide.All
import OpenK.AllK
import Wide.FinOn
import HandS.ForMost
import HandS.ForExc
import HandS.TryOnly
import HandS.CallSlots
import HandS.IsInst
import HandS.Style
import HandS.ExcInit
import HandS.Defaults
import HandS.TupAny
import KE.LtSeq
import KE.DatumOrd
import KE.DatumMore
import KE.KTupSum
import KE.IntTextLaws
import HandS.Replace
import HandS.StrMore
import KE.KSuper
import KE.KExcSuper
import KE.KExcIs
import HandS.NestedK
import HandS.WordsExc
import HandS.HeadWalk
import PyProof.SliceStr2
import HandS.Rev
import HandS.More
import HandS.ExcField
import HandS.Strs
import HandS.Words
import HandS.Head0
import HandS.Head1
import HandS.Head2
import HandS.HeadEnd
import HandS.HeadHook1
import HandS.HeadHook2
import HandS.HeadHook3
import HandS.HeadHook4
import PySem.Challenge.RW_leastfit_k05_unknown_and_commutative_com
section
set_option Elab.async false
set_option linter.all false
set_option maxRecDepth 100000
/-! M1: data, what represents data, the frame relation, the shape of readings. -/
namespace Mini
open PySem L2

/-- data: immutable values, lists that nobody changes any more -/
inductive D where
  | non | bl (b : Bool) | int (i : Int) | str (s : List Nat) | tup (ds : List D) | lst (ds : List D)
  deriving Inhabited

abbrev sOf (cs : List Nat) : Str := ⟨cs.toArray⟩
/-- the size that texts, tuples and lists keep to -/
def lim : Nat := 1000000
theorem lim_line : lim ≤ sizeLine := by decide
def okS (cs : List Nat) : Bool := decide (cs.length ≤ lim) && cs.all fun c => decide (c < 1114112)

mutual
inductive Rep (K : PySem.W.Frag) (H : Hp) : V → D → Prop
  | non : Rep K H .non .non
  | bl (b : Bool) : Rep K H (.bl b) (.bl b)
  | int (i : Int) : Rep K H (.int i) (.int i)
  | str {cs : List Nat} : okS cs = true → Rep K H (.str (sOf cs)) (.str cs)
  | tup {a : Addr} {vs : List V} {ds : List D} : SqT K H a vs → Reps K H vs ds → ds.length ≤ lim → Rep K H (.ref a) (.tup ds)
  | lst {a : Addr} {vs : List V} {ds : List D} : SqL K H a vs → Reps K H vs ds → ds.length ≤ lim → Rep K H (.ref a) (.lst ds)
inductive Reps (K : PySem.W.Frag) (H : Hp) : List V → List D → Prop
  | nil : Reps K H [] []
  | cons {v : V} {vs : List V} {d : D} {ds : List D} : Rep K H v d → Reps K H vs ds → Reps K H (v :: vs) (d :: ds)
end

section
variable {K : PySem.W.Frag} {H H' H2 : Hp}
theorem sqT_mono {a : Addr} {xs : List V} (e : Same H H') (h : SqT K H a xs) : SqT K H' a xs := by
  rcases h with (h | ⟨o, h⟩) | h
  · exact .inl (.inl (e _ _ h))
  · exact .inl (.inr ⟨o, e _ _ h⟩)
  · exact .inr h
mutual
theorem Rep.mono (e : Same H H') : ∀ {v : V} {d : D}, Rep K H v d → Rep K H' v d
  | _, _, .non => .non
  | _, _, .bl b => .bl b
  | _, _, .int i => .int i
  | _, _, .str h => .str h
  | _, _, .tup h r l => .tup (sqT_mono e h) (Reps.mono e r) l
  | _, _, .lst h r l => .lst (Same.seq e h) (Reps.mono e r) l
theorem Reps.mono (e : Same H H') : ∀ {vs : List V} {ds : List D}, Reps K H vs ds → Reps K H' vs ds
  | _, _, .nil => .nil
  | _, _, .cons h r => .cons (Rep.mono e h) (Reps.mono e r)
end
theorem Reps.length : ∀ {vs : List V} {ds : List D}, Reps K H vs ds → vs.length = ds.length
  | _, _, .nil => rfl
  | _, _, .cons _ r => congrArg Nat.succ (Reps.length r)
theorem Reps.get : ∀ {vs : List V} {ds : List D} {i : Nat} {d : D}, Reps K H vs ds → ds[i]? = some d → ∃ v, vs[i]? = some v ∧ Rep K H v d
  | _, _, _, _, .nil, e => by simp at e
  | _, _, 0, _, .cons h _, e => by simp at e; subst e; exact ⟨_, rfl, h⟩
  | _, _, i + 1, d, .cons _ t, e => by
    obtain ⟨u, h1, h2⟩ := Reps.get (i := i) (d := d) t (by simpa using e)
    exact ⟨u, by simpa using h1, h2⟩
theorem Reps.getV : ∀ {vs : List V} {ds : List D} {i : Nat} {v : V}, Reps K H vs ds → vs[i]? = some v → ∃ d, ds[i]? = some d ∧ Rep K H v d
  | _, _, _, _, .nil, e => by simp at e
  | _, _, 0, _, .cons h _, e => by simp at e; subst e; exact ⟨_, rfl, h⟩
  | _, _, i + 1, d, .cons _ t, e => by
    obtain ⟨u, h1, h2⟩ := Reps.getV (i := i) (v := d) t (by simpa using e)
    exact ⟨u, by simpa using h1, h2⟩
theorem Reps.append : ∀ {vs us : List V} {ds es : List D}, Reps K H vs ds → Reps K H us es → Reps K H (vs ++ us) (ds ++ es)
  | _, _, _, _, .nil, s => s
  | _, _, _, _, .cons h r, s => .cons h (Reps.append r s)
theorem Reps.take : ∀ {vs : List V} {ds : List D} (n : Nat), Reps K H vs ds → Reps K H (vs.take n) (ds.take n)
  | _, _, 0, _ => .nil
  | _, _, _ + 1, .nil => .nil
  | _, _, n + 1, .cons h r => .cons h (Reps.take n r)
theorem Reps.drop : ∀ {vs : List V} {ds : List D} (n : Nat), Reps K H vs ds → Reps K H (vs.drop n) (ds.drop n)
  | _, _, 0, r => r
  | _, _, _ + 1, .nil => .nil
  | _, _, n + 1, .cons _ r => Reps.drop n r
theorem Reps.set {v : V} {d : D} (h : Rep K H v d) : ∀ {vs : List V} {ds : List D} (i : Nat), Reps K H vs ds → Reps K H (vs.set i v) (ds.set i d)
  | _, _, _, .nil => .nil
  | _, _, 0, .cons _ r => .cons h r
  | _, _, i + 1, .cons q r => .cons q (Reps.set h i r)
theorem Reps.rev {vs : List V} {ds : List D} (r : Reps K H vs ds) : Reps K H vs.reverse ds.reverse := by
  induction ds generalizing vs with
  | nil => cases r; exact .nil
  | cons d ds ih =>
    cases r with
    | cons h t => rw [List.reverse_cons, List.reverse_cons]; exact Reps.append (ih t) (.cons h .nil)
theorem Reps.dropLast {vs : List V} {ds : List D} (r : Reps K H vs ds) : Reps K H vs.dropLast ds.dropLast := by
  rw [List.dropLast_eq_take, List.dropLast_eq_take, r.length]
  exact Reps.take _ r
theorem Reps.eraseIdx : ∀ {vs : List V} {ds : List D} (i : Nat), Reps K H vs ds → Reps K H (vs.eraseIdx i) (ds.eraseIdx i)
  | _, _, _, .nil => .nil
  | _, _, 0, .cons _ r => r
  | _, _, i + 1, .cons q r => .cons q (Reps.eraseIdx i r)
theorem Reps.ints : ∀ {vs : List V} {is : List Int}, Reps K H vs (is.map D.int) → vs = is.map V.int
  | _, [], .nil => rfl
  | _, i :: is, .cons h r => by cases h; rw [Reps.ints r] <;> rfl
theorem Reps.of_ints : ∀ {is : List Int}, Reps K H (is.map V.int) (is.map D.int)
  | [] => .nil
  | i :: is => .cons (.int i) Reps.of_ints
theorem Reps.bls : ∀ {vs : List V} {is : List Bool}, Reps K H vs (is.map D.bl) → vs = is.map V.bl
  | _, [], .nil => rfl
  | _, i :: is, .cons h r => by cases h; rw [Reps.bls r] <;> rfl
theorem Reps.strs : ∀ {vs : List V} {is : List (List Nat)}, Reps K H vs (is.map D.str) → vs = (is.map sOf).map V.str
  | _, [], .nil => rfl
  | _, i :: is, .cons h r => by cases h; rw [Reps.strs r] <;> rfl
theorem Reps.of_strs : ∀ {is : List (List Nat)}, (∀ i ∈ is, okS i = true) → Reps K H ((is.map sOf).map V.str) (is.map D.str)
  | [], _ => .nil
  | i :: is, h => .cons (.str (h i (List.mem_cons_self ..))) (Reps.of_strs fun j hj => h j (List.mem_cons_of_mem _ hj))
end

/-! ### how heaps grow: H all, Hf what is frozen -/
structure Adv (Hf H Hf' H' : Hp) : Prop where
  same : Same H H'
  f : Same Hf Hf'
  sub : Same Hf' H'
  out : ∀ a o, H a = some o → Hf a = none → Hf' a = none
theorem Adv.refl {Hf H : Hp} (s : Same Hf H) : Adv Hf H Hf H := ⟨Same.refl _, Same.refl _, s, fun _ _ _ h => h⟩
theorem Adv.trans {Hf H Hf1 H1 Hf2 H2 : Hp} (a : Adv Hf H Hf1 H1) (b : Adv Hf1 H1 Hf2 H2) : Adv Hf H Hf2 H2 :=
  ⟨a.same.trans b.same, a.f.trans b.f, b.sub, fun x o h n => b.out x o (a.same _ _ h) (a.out x o h n)⟩
theorem same_upd {H : Hp} {p : Addr} {o : HO} (h : H p = none) : Same H (upd H p o) := fun a u e => by rw [upd_ne (ne_of_none e h)]; exact e
theorem same_upd2 {H H' : Hp} {p : Addr} {o : HO} (s : Same H H') : Same (upd H p o) (upd H' p o) := fun a u e => by
  by_cases h : a = p
  · subst h; rw [upd_same] at e ⊢; exact e
  · rw [upd_ne h] at e ⊢; exact s _ _ e
/-- a new frozen object -/
theorem Adv.new {Hf H : Hp} {p : Addr} {o : HO} (s : Same Hf H) (h : H p = none) : Adv Hf H (upd Hf p o) (upd H p o) :=
  ⟨same_upd h, same_upd (s.free h), same_upd2 s, fun a u e n => by rw [upd_ne (ne_of_none e h)]; exact n⟩
/-- a new object that isn't frozen -/
theorem Adv.new' {Hf H : Hp} {p : Addr} {o : HO} (s : Same Hf H) (h : H p = none) : Adv Hf H Hf (upd H p o) :=
  ⟨same_upd h, Same.refl _, s.trans (same_upd h), fun _ _ _ n => n⟩

/-! ### frames -/
inductive Sl where
  | no | val (d : D) | own (ds : List D) | exn (c : Nat) (d : D)
  deriving Inhabited
abbrev En := List Sl

/-- the entry: what was frozen, all, the lists that are handed in to be changed (slot, address) -/
structure C0 where
  Hf : Hp
  H : Hp
  ps : List (Nat × Addr)
  /-- the exception that is at hand: its address, its dict, its class's number, its field -/
  xa : Addr → Addr → Nat → Str → Prop

structure R (K : PySem.W.Frag) (c : C0) (ρ : En) (σ : L2.St) (Hf H : Hp) : Prop where
  len : σ.length = ρ.length
  val : ∀ (i : Nat) (d : D), ρ[i]? = some (Sl.val d) → ∃ v, σ[i]? = some (some v) ∧ Rep K Hf v d
  own : ∀ (i : Nat) (ds : List D), ρ[i]? = some (Sl.own ds) → ∃ p vs, σ[i]? = some (some (.ref p)) ∧ H p = some (.lst vs) ∧ Hf p = none ∧ Reps K Hf vs ds ∧ ds.length ≤ lim ∧ ((i, p) ∈ c.ps ∨ c.H p = none)
  inj : ∀ (i j : Nat) (di dj : List D) (p : Addr), ρ[i]? = some (Sl.own di) → ρ[j]? = some (Sl.own dj) → σ[i]? = some (some (.ref p)) → σ[j]? = some (some (.ref p)) → i = j
  sub : Same Hf H
  f0 : Same c.Hf Hf
  keep : ∀ a o, c.H a = some o → (∀ i, (i, a) ∉ c.ps) → H a = some o
  out : ∀ a o, c.H a = some o → c.Hf a = none → Hf a = none
  par : ∀ i p, (i, p) ∈ c.ps → (∃ ds, ρ[i]? = some (Sl.own ds)) ∧ σ[i]? = some (some (.ref p))
  exn : ∀ (i x : Nat) (d : D), ρ[i]? = some (Sl.exn x d) → ∃ a dx f v, σ[i]? = some (some (.ref a)) ∧ c.xa a dx x f ∧ H dx = some (.xd [(f, v)]) ∧ Rep K Hf v d

section
variable {K : PySem.W.Frag} {c : C0} {ρ : En} {σ : L2.St} {Hf H Hf' H' : Hp}
theorem R.adv (r : R K c ρ σ Hf H) (a : Adv Hf H Hf' H') : R K c ρ σ Hf' H' where
  len := r.len
  val := fun i d h => let ⟨v, e, q⟩ := r.val i d h; ⟨v, e, q.mono a.f⟩
  own := fun i ds h => let ⟨p, vs, e, h1, h2, h3, hl, h4⟩ := r.own i ds h; ⟨p, vs, e, a.same _ _ h1, a.out _ _ h1 h2, h3.mono a.f, hl, h4⟩
  inj := r.inj
  sub := a.sub
  f0 := r.f0.trans a.f
  keep := fun x o h n => a.same _ _ (r.keep x o h n)
  out := fun x o h n => by
    have h1 := r.out x o h n
    by_cases hp : ∀ i, (i, x) ∉ c.ps
    · exact a.out _ _ (r.keep x o h hp) h1
    · obtain ⟨i, hi⟩ := Classical.not_forall.mp hp
      have hi := Classical.not_not.mp hi
      obtain ⟨⟨ds, hd⟩, hs⟩ := r.par i x hi
      obtain ⟨p, vs, e, h2, h3, _⟩ := r.own i ds hd
      rw [hs] at e
      cases e
      exact a.out _ _ h2 h3
  par := r.par
  exn := fun i x d h => let ⟨b, dx, f, v, e, k, h1, h2⟩ := r.exn i x d h; ⟨b, dx, f, v, e, k, a.same _ _ h1, h2.mono a.f⟩

/-- an own list changes -/
theorem R.put (r : R K c ρ σ Hf H) {i : Nat} {ds ds' : List D} {p : Addr} {vs' : List V} (hi : ρ[i]? = some (Sl.own ds)) (hp : σ[i]? = some (some (.ref p))) (hr : Reps K Hf vs' ds') (hz : ds'.length ≤ lim) :
    R K c (ρ.set i (.own ds')) σ Hf (upd H p (.lst vs')) := by
  obtain ⟨p', vs, e, h1, h2, h3, _, h4⟩ := r.own i ds hi
  rw [hp] at e
  cases e
  have hlt : i < ρ.length := (List.getElem?_eq_some_iff.mp hi).1
  refine ⟨by rw [List.length_set]; exact r.len, fun j d h => ?_, fun j dj h => ?_, fun j k dj dk q hj hk sj sk => ?_, fun a o h => ?_, r.f0, fun a o h n => ?_, r.out, fun j q h => ?_, fun j x d h => ?_⟩
  · by_cases hj : i = j
    · subst hj; rw [List.getElem?_set_self hlt] at h; cases h
    · rw [List.getElem?_set_ne hj] at h; exact r.val j d h
  · by_cases hj : i = j
    · subst hj; rw [List.getElem?_set_self hlt] at h; cases h
      exact ⟨p, vs', hp, upd_same, h2, hr, hz, h4⟩
    · rw [List.getElem?_set_ne hj] at h
      obtain ⟨q, ws, e, k1, k2, k3, k4⟩ := r.own j dj h
      have hq : q ≠ p := fun z => by subst z; exact hj (r.inj i j ds dj q hi h hp e)
      exact ⟨q, ws, e, by rw [upd_ne hq]; exact k1, k2, k3, k4⟩
  · have aux : ∀ {l dl}, (ρ.set i (.own ds'))[l]? = some (Sl.own dl) → ∃ dl', ρ[l]? = some (Sl.own dl') := fun {l dl} h => by
      by_cases hl : i = l
      · subst hl; exact ⟨ds, hi⟩
      · rw [List.getElem?_set_ne hl] at h; exact ⟨dl, h⟩
    obtain ⟨_, hj'⟩ := aux hj
    obtain ⟨_, hk'⟩ := aux hk
    exact r.inj j k _ _ q hj' hk' sj sk
  · have ha : a ≠ p := fun z => by subst z; rw [h2] at h; cases h
    rw [upd_ne ha]; exact r.sub _ _ h
  · have ha : a ≠ p := fun z => by
      subst z
      rcases h4 with h4 | h4
      · exact n i h4
      · rw [h] at h4; cases h4
    rw [upd_ne ha]; exact r.keep a o h n
  · obtain ⟨⟨dj, hj⟩, hs⟩ := r.par j q h
    refine ⟨?_, hs⟩
    by_cases hji : i = j
    · subst hji; exact ⟨ds', List.getElem?_set_self hlt⟩
    · exact ⟨dj, by rw [List.getElem?_set_ne hji]; exact hj⟩
  · by_cases hj : i = j
    · subst hj; rw [List.getElem?_set_self hlt] at h; cases h
    · rw [List.getElem?_set_ne hj] at h
      obtain ⟨a, dx, f, v, e, k, k1, k2⟩ := r.exn j x d h
      have hd : dx ≠ p := fun z => by rw [z, h1] at k1; cases k1
      exact ⟨a, dx, f, v, e, k, by rw [upd_ne hd]; exact k1, k2⟩

/-- a slot takes a value (it isn't one of the handed lists) -/
theorem R.setV (r : R K c ρ σ Hf H) {i : Nat} {v : V} {d : D} (hn : ∀ p, (i, p) ∉ c.ps) (hv : Rep K Hf v d) : R K c (ρ.set i (.val d)) (σ.set i (some v)) Hf H := by
  have hl := r.len
  refine ⟨by rw [List.length_set, List.length_set]; exact hl, fun j e h => ?_, fun j dj h => ?_, fun j k dj dk q hj hk sj sk => ?_, r.sub, r.f0, r.keep, r.out, fun j q h => ?_, fun j x e h => ?_⟩
  · by_cases hj : i = j
    · subst hj
      have hlt : i < ρ.length := by
        have := (List.getElem?_eq_some_iff.mp h).1
        rw [List.length_set] at this; exact this
      rw [List.getElem?_set_self hlt] at h; cases h
      exact ⟨v, List.getElem?_set_self (by rw [hl]; exact hlt), hv⟩
    · rw [List.getElem?_set_ne hj] at h
      obtain ⟨u, e1, e2⟩ := r.val j e h
      exact ⟨u, by rw [List.getElem?_set_ne hj]; exact e1, e2⟩
  · by_cases hj : i = j
    · subst hj
      have hlt : i < ρ.length := by
        have := (List.getElem?_eq_some_iff.mp h).1
        rw [List.length_set] at this; exact this
      rw [List.getElem?_set_self hlt] at h; cases h
    · rw [List.getElem?_set_ne hj] at h
      obtain ⟨q, ws, e, k⟩ := r.own j dj h
      exact ⟨q, ws, by rw [List.getElem?_set_ne hj]; exact e, k⟩
  · have aux : ∀ {l dl}, (ρ.set i (.val d))[l]? = some (Sl.own dl) → i ≠ l ∧ ρ[l]? = some (Sl.own dl) := fun {l dl} h => by
      by_cases hl' : i = l
      · subst hl'
        have hlt : i < ρ.length := by
          have := (List.getElem?_eq_some_iff.mp h).1
          rw [List.length_set] at this; exact this
        rw [List.getElem?_set_self hlt] at h; cases h
      · rw [List.getElem?_set_ne hl'] at h; exact ⟨hl', h⟩
    obtain ⟨nj, hj'⟩ := aux hj
    obtain ⟨nk, hk'⟩ := aux hk
    rw [List.getElem?_set_ne nj] at sj
    rw [List.getElem?_set_ne nk] at sk
    exact r.inj j k _ _ q hj' hk' sj sk
  · obtain ⟨⟨dj, hj⟩, hs⟩ := r.par j q h
    have nj : i ≠ j := fun z => by subst z; exact hn q h
    exact ⟨⟨dj, by rw [List.getElem?_set_ne nj]; exact hj⟩, by rw [List.getElem?_set_ne nj]; exact hs⟩
  · by_cases hj : i = j
    · subst hj
      have hlt : i < ρ.length := by
        have := (List.getElem?_eq_some_iff.mp h).1
        rw [List.length_set] at this; exact this
      rw [List.getElem?_set_self hlt] at h; cases h
    · rw [List.getElem?_set_ne hj] at h
      obtain ⟨a, dx, f, v', e1, k⟩ := r.exn j x e h
      exact ⟨a, dx, f, v', by rw [List.getElem?_set_ne hj]; exact e1, k⟩

/-- a slot takes a new list of its own -/
theorem R.setO (r : R K c ρ σ Hf H) {i : Nat} {p : Addr} {vs : List V} {ds : List D} (hn : ∀ p, (i, p) ∉ c.ps) (hp : H p = some (.lst vs)) (hf : Hf p = none) (hr : Reps K Hf vs ds) (hz : ds.length ≤ lim) (h0 : c.H p = none)
    (hd : ∀ (j : Nat) (dj : List D), ρ[j]? = some (Sl.own dj) → σ[j]? ≠ some (some (.ref p))) : R K c (ρ.set i (.own ds)) (σ.set i (some (.ref p))) Hf H := by
  have hl := r.len
  refine ⟨by rw [List.length_set, List.length_set]; exact hl, fun j e h => ?_, fun j dj h => ?_, fun j k dj dk q hj hk sj sk => ?_, r.sub, r.f0, r.keep, r.out, fun j q h => ?_, fun j x e h => ?_⟩
  · by_cases hj : i = j
    · subst hj
      have hlt : i < ρ.length := by
        have := (List.getElem?_eq_some_iff.mp h).1
        rw [List.length_set] at this; exact this
      rw [List.getElem?_set_self hlt] at h; cases h
    · rw [List.getElem?_set_ne hj] at h
      obtain ⟨u, e1, e2⟩ := r.val j e h
      exact ⟨u, by rw [List.getElem?_set_ne hj]; exact e1, e2⟩
  · by_cases hj : i = j
    · subst hj
      have hlt : i < ρ.length := by
        have := (List.getElem?_eq_some_iff.mp h).1
        rw [List.length_set] at this; exact this
      rw [List.getElem?_set_self hlt] at h; cases h
      exact ⟨p, vs, List.getElem?_set_self (by rw [hl]; exact hlt), hp, hf, hr, hz, .inr h0⟩
    · rw [List.getElem?_set_ne hj] at h
      obtain ⟨q, ws, e, k⟩ := r.own j dj h
      exact ⟨q, ws, by rw [List.getElem?_set_ne hj]; exact e, k⟩
  · have aux : ∀ {l dl}, (ρ.set i (.own ds))[l]? = some (Sl.own dl) → (i = l) ∨ (i ≠ l ∧ ρ[l]? = some (Sl.own dl)) := fun {l dl} h => by
      by_cases hl' : i = l
      · exact .inl hl'
      · rw [List.getElem?_set_ne hl'] at h; exact .inr ⟨hl', h⟩
    have self : ∀ {l dl}, i = l → (ρ.set i (.own ds))[l]? = some (Sl.own dl) → (σ.set i (some (.ref p)))[l]? = some (some (.ref q)) → q = p := fun {l dl} e h s => by
      subst e
      have hlt : i < ρ.length := by
        have := (List.getElem?_eq_some_iff.mp h).1
        rw [List.length_set] at this; exact this
      rw [List.getElem?_set_self (by rw [hl]; exact hlt)] at s
      cases s; rfl
    rcases aux hj with ej | ⟨nj, hj'⟩
    · rcases aux hk with ek | ⟨nk, hk'⟩
      · exact ej.symm.trans ek
      · have eq := self ej hj sj
        subst eq
        rw [List.getElem?_set_ne nk] at sk
        exact absurd sk (hd k _ hk')
    · rcases aux hk with ek | ⟨nk, hk'⟩
      · have eq := self ek hk sk
        subst eq
        rw [List.getElem?_set_ne nj] at sj
        exact absurd sj (hd j _ hj')
      · rw [List.getElem?_set_ne nj] at sj
        rw [List.getElem?_set_ne nk] at sk
        exact r.inj j k _ _ q hj' hk' sj sk
  · obtain ⟨⟨dj, hj⟩, hs⟩ := r.par j q h
    have nj : i ≠ j := fun z => by subst z; exact hn q h
    exact ⟨⟨dj, by rw [List.getElem?_set_ne nj]; exact hj⟩, by rw [List.getElem?_set_ne nj]; exact hs⟩
  · by_cases hj : i = j
    · subst hj
      have hlt : i < ρ.length := by
        have := (List.getElem?_eq_some_iff.mp h).1
        rw [List.length_set] at this; exact this
      rw [List.getElem?_set_self hlt] at h; cases h
    · rw [List.getElem?_set_ne hj] at h
      obtain ⟨a, dx, f, v', e1, k⟩ := r.exn j x e h
      exact ⟨a, dx, f, v', by rw [List.getElem?_set_ne hj]; exact e1, k⟩

/-- an own list (a new one, not handed in) is frozen -/
theorem R.frz (r : R K c ρ σ Hf H) {i : Nat} {ds : List D} (hi : ρ[i]? = some (Sl.own ds)) (hn : ∀ p, (i, p) ∉ c.ps) :
    ∃ p vs, σ[i]? = some (some (.ref p)) ∧ H p = some (.lst vs) ∧ Same Hf (upd Hf p (.lst vs)) ∧ R K c (ρ.set i (.val (.lst ds))) σ (upd Hf p (.lst vs)) H := by
  obtain ⟨p, vs, e, h1, h2, h3, hz, h4⟩ := r.own i ds hi
  have h0 : c.H p = none := by
    rcases h4 with h4 | h4
    · exact absurd h4 (hn p)
    · exact h4
  have hlt : i < ρ.length := (List.getElem?_eq_some_iff.mp hi).1
  have sm : Same Hf (upd Hf p (.lst vs)) := same_upd h2
  refine ⟨p, vs, e, h1, sm, by rw [List.length_set]; exact r.len, fun j d h => ?_, fun j dj h => ?_, fun j k dj dk q hj hk sj sk => ?_, fun a o h => ?_, r.f0.trans sm, r.keep, fun a o h n => ?_, fun j q h => ?_, fun j x d h => ?_⟩
  · by_cases hj : i = j
    · subst hj; rw [List.getElem?_set_self hlt] at h; cases h
      exact ⟨_, e, .lst (SqL.of upd_same) (h3.mono sm) hz⟩
    · rw [List.getElem?_set_ne hj] at h
      obtain ⟨v, e1, e2⟩ := r.val j d h
      exact ⟨v, e1, e2.mono sm⟩
  · by_cases hj : i = j
    · subst hj; rw [List.getElem?_set_self hlt] at h; cases h
    · rw [List.getElem?_set_ne hj] at h
      obtain ⟨q, ws, e', k1, k2, k3, k4⟩ := r.own j dj h
      have hq : q ≠ p := fun z => by subst z; exact hj (r.inj i j ds dj q hi h e e')
      exact ⟨q, ws, e', k1, by rw [upd_ne hq]; exact k2, k3.mono sm, k4⟩
  · have aux : ∀ {l dl}, (ρ.set i (.val (.lst ds)))[l]? = some (Sl.own dl) → ρ[l]? = some (Sl.own dl) := fun {l dl} h => by
      by_cases hl' : i = l
      · subst hl'; rw [List.getElem?_set_self hlt] at h; cases h
      · rw [List.getElem?_set_ne hl'] at h; exact h
    exact r.inj j k _ _ q (aux hj) (aux hk) sj sk
  · by_cases ha : a = p
    · subst ha; rw [upd_same] at h; cases h; exact h1
    · rw [upd_ne ha] at h; exact r.sub _ _ h
  · have ha : a ≠ p := fun z => by subst z; rw [h0] at h; cases h
    rw [upd_ne ha]; exact r.out a o h n
  · obtain ⟨⟨dj, hj⟩, hs⟩ := r.par j q h
    have nj : i ≠ j := fun z => by subst z; exact hn q h
    exact ⟨⟨dj, by rw [List.getElem?_set_ne nj]; exact hj⟩, hs⟩
  · by_cases hj : i = j
    · subst hj; rw [List.getElem?_set_self hlt] at h; cases h
    · rw [List.getElem?_set_ne hj] at h
      obtain ⟨a, dx, f, v', e1, k, k1, k2⟩ := r.exn j x d h
      exact ⟨a, dx, f, v', e1, k, k1, k2.mono sm⟩
end

/-! ### what an evaluation gives -/
/-- a value, or the list that slot i owns -/
inductive Rv where
  | d (d : D) | o (i : Nat)
  deriving Inhabited
def deref (ρ : En) : Rv → Option D
  | .d d => some d
  | .o i => match ρ[i]? with
    | some (.own ds) => some (.lst ds)
    | _ => none
inductive O (β : Type) where
  | ok (a : β) (ρ : En) | exc (c : Nat) (d : D) (ρ : En) | bad
def O.bind {β γ : Type} (x : O β) (f : β → En → O γ) : O γ := match x with
  | .ok a ρ => f a ρ
  | .exc c d ρ => .exc c d ρ
  | .bad => .bad
/-- some d | bad -/
def O.opt {β : Type} (x : Option β) (ρ : En) : O β := match x with
  | some a => .ok a ρ
  | none => .bad

def RvR (K : PySem.W.Frag) (σ : L2.St) (Hf : Hp) (v : V) : Rv → Prop
  | .d d => Rep K Hf v d
  | .o i => σ[i]? = some (some v)
theorem RvR.mono {K : PySem.W.Frag} {σ : L2.St} {Hf Hf' : Hp} {v : V} {rv : Rv} (e : Same Hf Hf') (h : RvR K σ Hf v rv) : RvR K σ Hf' v rv := by
  cases rv with
  | d d => exact Rep.mono e h
  | o i => exact h
/-- represented, or a list that is read on the spot -/
def RepB (K : PySem.W.Frag) (Hf H : Hp) (v : V) (d : D) : Prop := Rep K Hf v d ∨ ∃ p vs ds, v = .ref p ∧ d = .lst ds ∧ H p = some (.lst vs) ∧ Reps K Hf vs ds ∧ ds.length ≤ lim
theorem RvR.deref {K : PySem.W.Frag} {c : C0} {ρ : En} {σ : L2.St} {Hf H : Hp} {v : V} {rv : Rv} {d : D} (r : R K c ρ σ Hf H) (h : RvR K σ Hf v rv) (e : Mini.deref ρ rv = some d) : RepB K Hf H v d := by
  cases rv with
  | d d' => cases e; exact .inl h
  | o i =>
    cases hj : ρ[i]? with
    | none => simp [Mini.deref, hj] at e
    | some sl =>
      cases sl with
      | no => simp [Mini.deref, hj] at e
      | val x => simp [Mini.deref, hj] at e
      | exn _ _ => simp [Mini.deref, hj] at e
      | own ds =>
        simp [Mini.deref, hj] at e
        subst e
        obtain ⟨p, vs, e1, h1, _, h3, hz, _⟩ := r.own _ _ hj
        rw [show σ[i]? = some (some v) from h] at e1
        cases e1
        exact .inr ⟨p, vs, ds, rfl, rfl, h1, h3, hz⟩

/-! ### the shape of readings -/
/-- exceptions: their classes by number -/
structure Gx where
  xc : Nat → Addr
  xf : Nat → Str
  n : Nat
def XRep (g : Gx) (K : PySem.W.Frag) (Hf H : Hp) (c : Nat) (d : D) (cls : Value) (dx : Option Addr) : Prop :=
  cls = .ref (g.xc c) ∧ c < g.n ∧ ∃ a v, dx = some a ∧ H a = some (.xd [(g.xf c, v)]) ∧ Rep K Hf v d

section
variable (g : Gx) (K : PySem.W.Frag) (c : C0) (W : WX) (σ : L2.St)
def post {β : Type} (Hf : Hp) (k : β → En → Hp → Hp → Prop) : O β → Prop
  | .ok a ρ => ∀ H' Hf', R K c ρ σ Hf' H' → Same Hf Hf' → k a ρ Hf' H'
  | .exc x d ρ => ∀ cls dx H' Hf', R K c ρ σ Hf' H' → Same Hf Hf' → XRep g K Hf' H' x d cls dx → W cls dx σ H'
  | .bad => False
end
abbrev EvF (β : Type) := En → O β
def rdE (g : Gx) (K : PySem.W.Frag) (c : C0) (W : WX) (e : EvF Rv) : TE := fun σ H Q => ∃ Hf ρ, R K c ρ σ Hf H ∧ post g K c W σ Hf (fun rv _ Hf' H' => ∀ v, RvR K σ Hf' v rv → Q v H') (e ρ)
def rdT (g : Gx) (K : PySem.W.Frag) (c : C0) (W : WX) (e : EvF Bool) : TT := fun σ H Q => ∃ Hf ρ, R K c ρ σ Hf H ∧ post g K c W σ Hf (fun b _ _ H' => Q b H') (e ρ)
inductive RvsR (K : PySem.W.Frag) (σ : L2.St) (Hf : Hp) : List V → List Rv → Prop
  | nil : RvsR K σ Hf [] []
  | cons {v : V} {vs : List V} {r : Rv} {rs : List Rv} : RvR K σ Hf v r → RvsR K σ Hf vs rs → RvsR K σ Hf (v :: vs) (r :: rs)
theorem RvsR.mono {K : PySem.W.Frag} {σ : L2.St} {Hf Hf' : Hp} (e : Same Hf Hf') : ∀ {vs : List V} {rs : List Rv}, RvsR K σ Hf vs rs → RvsR K σ Hf' vs rs
  | _, _, .nil => .nil
  | _, _, .cons h r => .cons (h.mono e) (RvsR.mono e r)
def rdA (g : Gx) (K : PySem.W.Frag) (c : C0) (W : WX) (e : EvF (List Rv)) : TA := fun σ H Q => ∃ Hf ρ, R K c ρ σ Hf H ∧ post g K c W σ Hf (fun rs _ Hf' H' => ∀ vs, RvsR K σ Hf' vs rs → Q vs H') (e ρ)

section
variable {g : Gx} {K : PySem.W.Frag} {c : C0} {W : WX} {σ : L2.St}
theorem post.mono {β : Type} {Hf Hf1 : Hp} {k k' : β → En → Hp → Hp → Prop} {x : O β} (s : Same Hf Hf1) (h : post g K c W σ Hf k x) (hk : ∀ a ρ Hf' H', k a ρ Hf' H' → k' a ρ Hf' H') : post g K c W σ Hf1 k' x := by
  cases x with
  | ok a ρ => exact fun H' Hf' r q => hk _ _ _ _ (h H' Hf' r (s.trans q))
  | exc x d ρ => exact fun cls dx H' Hf' r q => h cls dx H' Hf' r (s.trans q)
  | bad => exact h
/-- the first part of a sequence -/
theorem post.bind {β γ : Type} {Hf : Hp} {x : O β} {f : β → En → O γ} {k : γ → En → Hp → Hp → Prop} {k1 : β → En → Hp → Hp → Prop} (h : post g K c W σ Hf k (x.bind f))
    (hk : ∀ a ρ Hf1 H1, R K c ρ σ Hf1 H1 → Same Hf Hf1 → post g K c W σ Hf1 k (f a ρ) → k1 a ρ Hf1 H1) : post g K c W σ Hf k1 x := by
  cases x with
  | ok a ρ => exact fun H' Hf' r q => hk _ _ _ _ r q (post.mono (k := k) q h fun _ _ _ _ z => z)
  | exc x d ρ => exact h
  | bad => exact h
theorem post.opt {β : Type} {Hf : Hp} {ρ : En} {x : Option β} {k : β → En → Hp → Hp → Prop} (h : post g K c W σ Hf k (O.opt x ρ)) : ∃ a, x = some a ∧ ∀ H' Hf', R K c ρ σ Hf' H' → Same Hf Hf' → k a ρ Hf' H' := by
  cases x with
  | none => exact h.elim
  | some a => exact ⟨a, rfl, h⟩
theorem post.optb {β γ : Type} {Hf : Hp} {ρ : En} {x : Option β} {f : β → En → O γ} {k : γ → En → Hp → Hp → Prop} (h : post g K c W σ Hf k ((O.opt x ρ).bind f)) : ∃ a, x = some a ∧ post g K c W σ Hf k (f a ρ) := by
  cases x with
  | none => exact h.elim
  | some a => exact ⟨a, rfl, h⟩
end

theorem PE_imp {X : Cx} {e : Expr} {t t' : TE} (h : PE X e t) (f : ∀ σ H Q, t' σ H Q → t σ H Q) : PE X e t' := ⟨fun pins s σ H Q I q => h.run pins s σ H Q I (f _ _ _ q)⟩
theorem PT_imp {X : Cx} {e : Expr} {t t' : TT} (h : PT X e t) (f : ∀ σ H Q, t' σ H Q → t σ H Q) : PT X e t' := ⟨fun pins s σ H Q I q => h.run pins s σ H Q I (f _ _ _ q)⟩
theorem PA_imp {X : Cx} {es : List Expr} {t t' : TA} (h : PA X es t) (f : ∀ σ H Q, t' σ H Q → t σ H Q) : PA X es t' := ⟨fun pos pins s σ H Q I q => h.run pos pins s σ H Q I (f _ _ _ q)⟩
theorem PS_imp {X : Cx} {e : Stmt} {t t' : TS} (h : PS X e t) (f : ∀ D σ H, t' D σ H → t D σ H) : PS X e t' := ⟨fun pins s σ H D I q => h.run pins s σ H D I (f _ _ _ q)⟩
theorem PSs_imp {X : Cx} {e : List Stmt} {t t' : TS} (h : PSs X e t) (f : ∀ D σ H, t' D σ H → t D σ H) : PSs X e t' := ⟨fun pins s σ H D I q => h.run pins s σ H D I (f _ _ _ q)⟩

end Mini
end

section
set_option Elab.async false
set_option linter.all false
set_option maxRecDepth 100000
/-! M2: the small language and what it evaluates to. -/
namespace Mini
open PySem L2

/-! ### data: ==, depth, order -/
def b2z (b : Bool) : Int := if b then 1 else 0
mutual
def deq : D → D → Bool
  | .non, .non => true
  | .bl a, .bl b => a == b
  | .bl a, .int j => b2z a == j
  | .int i, .bl b => i == b2z b
  | .int i, .int j => i == j
  | .str x, .str y => x == y
  | .lst xs, .lst ys => deqs xs ys
  | .tup xs, .tup ys => deqs xs ys
  | _, _ => false
def deqs : List D → List D → Bool
  | [], [] => true
  | x :: xs, y :: ys => deq x y && deqs xs ys
  | _, _ => false
end
mutual
def dep : D → Nat
  | .tup ds => deps ds + 1
  | .lst ds => deps ds + 1
  | _ => 0
def deps : List D → Nat
  | [] => 0
  | x :: xs => max (dep x) (deps xs)
end
/-- a == b -/
def eqO (a b : D) : Option Bool := if min (dep a) (dep b) ≤ 60 then some (deq a b) else none
def flatD : D → Bool
  | .tup _ => false
  | .lst _ => false
  | _ => true
/-- x in ds -/
def inO (x : D) (ds : List D) : Option Bool := if min (deps ds) (dep x) ≤ 60 then some (ds.any fun y => deq y x) else none
def dInts : List D → Option (List Int)
  | [] => some []
  | .int i :: r => (dInts r).map (i :: ·)
  | _ :: _ => none
def dStrs : List D → Option (List (List Nat))
  | [] => some []
  | .str i :: r => (dStrs r).map (i :: ·)
  | _ :: _ => none
def dBools : List D → Option (List Bool)
  | [] => some []
  | .bl i :: r => (dBools r).map (i :: ·)
  | _ :: _ => none
mutual
/-- x < y: the first place that differs decides -/
def ltD : D → D → Option Bool
  | .int i, .int j => some (decide (i < j))
  | .bl i, .bl j => some (decide (b2z i < b2z j))
  | .str x, .str y => some (decide (x < y))
  | .tup x, .tup y => ltDs x y
  | .lst x, .lst y => ltDs x y
  | _, _ => none
def ltDs : List D → List D → Option Bool
  | [], ys => some (!ys.isEmpty)
  | _ :: _, [] => some false
  | x :: xs, y :: ys => if deq x y = true then ltDs xs ys else ltD x y
end
def ltG (a b : D) : Option Bool := if min (dep a) (dep b) ≤ 60 then ltD a b else none
def ltO : D → D → Option Bool
  | .int i, .int j => some (decide (i < j))
  | .bl i, .bl j => some (decide (b2z i < b2z j))
  | .str x, .str y => some (decide (x < y))
  | .tup x, .tup y => match dInts x, dInts y with
    | some a, some b => some (HT.lexLt a b)
    | _, _ => ltG (.tup x) (.tup y)
  | .lst x, .lst y => ltG (.lst x) (.lst y)
  | _, _ => none
/-- y occurs in x -/
def subOf (y : List Nat) : List Nat → Bool
  | [] => y.isEmpty
  | c :: x => y.isPrefixOf (c :: x) || subOf y x
def memO (x : D) : D → Option Bool
  | .tup ds => inO x ds
  | .lst ds => inO x ds
  | .str z => match x with
    | .str [c] => some (z.contains c)
    | .str y => some (subOf y z)
    | _ => none
  | _ => none

inductive BOp where
  | add | sub | mul | fdiv | mod | pow
  deriving DecidableEq
def big : Int := 2 ^ 64
def small (i : Int) : Bool := decide (-big < i) && decide (i < big)
def bop : BOp → D → D → Option D
  | .add, .int i, .int j => some (.int (i + j))
  | .add, .str a, .str b => if a.length + b.length ≤ lim then some (.str (a ++ b)) else none
  | .add, .tup a, .tup b => if a.length + b.length ≤ lim then some (.tup (a ++ b)) else none
  | .add, .lst a, .lst b => if a.length + b.length ≤ lim then some (.lst (a ++ b)) else none
  | .sub, .int i, .int j => some (.int (i - j))
  | .mul, .str a, .int n => if -1000 < n ∧ n < 1000 ∧ a.length ≤ 1000 then some (.str (List.replicate n.toNat a).flatten) else none
  | .mul, .int i, .int j => if small i || small j then some (.int (i * j)) else none
  | .fdiv, .int i, .int j => if j ≠ 0 ∧ j.natAbs < 1073741824 then some (.int (i.fdiv j)) else none
  | .mod, .int i, .int j => if j ≠ 0 then some (.int (i.fmod j)) else none
  | .pow, .int i, .int j => if 0 ≤ j ∧ j ≤ 1000 ∧ i.natAbs < 2 ^ 64 then some (.int (i ^ j.toNat)) else none
  | _, _, _ => none
/-- list + list -/
def catD : D → D → Option D
  | .lst a, .lst b => if a.length + b.length ≤ lim then some (.lst (a ++ b)) else none
  | _, _ => none
inductive COp where
  | eq | ne | lt | le | gt | ge | isIn | notIn | is | isNot
  deriving DecidableEq
def cop : COp → D → D → Option Bool
  | .eq, a, b => eqO a b
  | .ne, a, b => (eqO a b).map (!·)
  | .lt, a, b => ltO a b
  | .gt, a, b => match a, b with
    | .int i, .int j => some (decide (j < i))
    | .str i, .str j => some (decide (j < i))
    | _, _ => none
  | .le, .int i, .int j => some (decide (i ≤ j))
  | .le, _, _ => none
  | .ge, .int i, .int j => some (decide (j ≤ i))
  | .ge, _, _ => none
  | .isIn, a, b => memO a b
  | .notIn, a, b => (memO a b).map (!·)
  | .is, a, b => match b with
    | .non => some (match a with | .non => true | _ => false)
    | .bl y => some (match a with | .bl x => x == y | _ => false)
    | _ => none
  | .isNot, a, b => match b with
    | .non => some (match a with | .non => false | _ => true)
    | .bl y => some (match a with | .bl x => !(x == y) | _ => true)
    | _ => none

/-- where a text stands first -/
def idxT (s : List Nat) : List (List Nat) → Option Nat
  | [] => none
  | x :: xs => if x = s then some 0 else (idxT s xs).map (· + 1)

/-! ### built-in functions, methods -/
inductive Ty where
  | int | bool | str | tup | lst | dic | non
  deriving DecidableEq
def isTy : Ty → D → Bool
  | .int, .int _ => true
  | .int, .bl _ => true
  | .bool, .bl _ => true
  | .str, .str _ => true
  | .tup, .tup _ => true
  | .lst, .lst _ => true
  | _, _ => false
def isDig (c : Nat) : Bool := decide (48 ≤ c) && decide (c ≤ 57)
def digVal (cs : List Nat) : Nat := cs.foldl (fun a c => a * 10 + (c - 48)) 0
/-- the written form of an int -/
def intS (i : Int) : List Nat := if i < 0 then 45 :: TL.numL i.natAbs else TL.numL i.natAbs
inductive BI where
  | len | abs | min2 | max2 | min1 | max1 | sum | all | any | int | str | list | tuple | sorted
  deriving DecidableEq
def maxI : List Int → Option Int
  | [] => none
  | x :: xs => some (xs.foldl max x)
def minI : List Int → Option Int
  | [] => none
  | x :: xs => some (xs.foldl min x)
def bi : BI → List D → Option D
  | .len, [.str x] => some (.int x.length)
  | .len, [.tup x] => some (.int x.length)
  | .len, [.lst x] => some (.int x.length)
  | .abs, [.int i] => some (.int (if i < 0 then -i else i))
  | .max2, [.int i, .int j] => some (.int (if j > i then j else i))
  | .min2, [.int i, .int j] => some (.int (if j < i then j else i))
  | .all, [.lst x] => (dBools x).map fun bs => .bl (bs.all id)
  | .any, [.lst x] => (dBools x).map fun bs => .bl (bs.any id)
  | .sum, [.lst x] => (dInts x).map fun is => .int is.sum
  | .sum, [.tup x] => (dInts x).map fun is => .int is.sum
  | .max1, [.lst x] => (dInts x).bind fun is => (maxI is).map .int
  | .max1, [.tup x] => (dInts x).bind fun is => (maxI is).map .int
  | .min1, [.lst x] => (dInts x).bind fun is => (minI is).map .int
  | .min1, [.tup x] => (dInts x).bind fun is => (minI is).map .int
  | .int, [.int i] => some (.int i)
  | .int, [.bl b] => some (.int (b2z b))
  | .int, [.str x] => if x.length ≤ 640 then (match x with
    | 45 :: cs => if cs ≠ [] ∧ cs.all isDig = true then some (.int (-((digVal cs : Nat) : Int))) else none
    | _ => if x ≠ [] ∧ x.all isDig = true then some (.int (digVal x)) else none) else none
  | .str, [.int i] => if i.natAbs < 10 ^ 100 then some (.str (intS i)) else none
  | .list, [.tup x] => some (.lst x)
  | .list, [.lst x] => some (.lst x)
  | .tuple, [.tup x] => some (.tup x)
  | .tuple, [.lst x] => some (.tup x)
  | _, _ => none
inductive ME where
  | join | split | startswith | index | count
  deriving DecidableEq
/-- where c stands first -/
def idxC (c : Nat) : List Nat → Option Nat
  | [] => none
  | x :: xs => if x = c then some 0 else (idxC c xs).map (· + 1)
def joinC (s : List Nat) : List (List Nat) → List Nat
  | [] => []
  | [x] => x
  | x :: y :: r => x ++ s ++ joinC s (y :: r)
def splitC (c : Nat) (acc : List Nat) : List Nat → List (List Nat)
  | [] => [acc]
  | x :: xs => if x = c then acc :: splitC c [] xs else splitC c (acc ++ [x]) xs
def me : ME → D → List D → Option D
  | .join, .str s, [.lst x] => match dStrs x with
    | some ys => if (joinC s ys).length ≤ lim then some (.str (joinC s ys)) else none
    | none => none
  | .split, .str s, [.str [c]] => if c < 128 ∧ s.length < lim then some (.lst ((splitC c [] s).map .str)) else none
  | .startswith, .str s, [.str p] => some (.bl (p.isPrefixOf s))
  | .index, .str s, [.str [c]] => (idxC c s).map fun (n : Nat) => D.int (n : Int)
  | _, _, _ => none

/-! ### items, slices -/
def atD (d : D) (i : Int) : Option D := match d with
  | .tup ds => atI ds i
  | .lst ds => atI ds i
  | .str cs => (atI cs i).map fun c => .str [c]
  | _ => none
def cutL {α : Type} (xs : List α) (lo hi : Option Int) : List α := (xs.drop (HT.sIx xs.length 0 lo)).take (HT.sIx xs.length xs.length hi - HT.sIx xs.length 0 lo)
def cutD (d : D) (lo hi : Option Int) : Option D := match d with
  | .tup ds => some (.tup (cutL ds lo hi))
  | .lst ds => some (.lst (cutL ds lo hi))
  | .str cs => some (.str (cutL cs lo hi))
  | _ => none
def revD : D → Option D
  | .tup ds => some (.tup ds.reverse)
  | .lst ds => some (.lst ds.reverse)
  | .str cs => some (.str cs.reverse)
  | _ => none
/-- list(reversed(x)), x a tuple -/
def lrevD : D → Option D
  | .tup ds => some (.lst ds.reverse)
  | _ => none
def items : D → Option (List D)
  | .tup ds => some ds
  | .lst ds => some ds
  | .str cs => some (cs.map fun c => .str [c])
  | _ => none
def asI : D → Option Int
  | .int i => some i
  | _ => none
def asB : D → Option Bool
  | .bl i => some i
  | _ => none
def asS : D → Option (List Nat)
  | .str i => some i
  | _ => none
def rngOk (i : Int) : Bool := decide (-(2 ^ 62) ≤ i) && decide (i < 2 ^ 62)
def rng (lo hi : Int) : List D := (List.range (hi - lo).toNat).map fun (k : Nat) => D.int (lo + (k : Int))
/-- range(hi, lo, -1) -/
def rngD (hi lo : Int) : List D := (List.range (hi - lo).toNat).map fun (k : Nat) => D.int (hi - (k : Int))

/-! ### the language -/
inductive MR where
  | ok (d : D) (outs : List (List D)) | exc (c : Nat) (d : D) (outs : List (List D)) | bad
structure CallF where
  name : Str
  /-- which arguments are lists that the def changes -/
  md : List Bool
  /-- the answer is a new list -/
  fr : Bool
  F : List D → MR
inductive Tgt where
  | n (i : Nat) | t (is : List Nat)
  deriving DecidableEq
mutual
inductive E where
  | v (i : Nat) | c (d : D) | g (x : Str) (d : D)
  | gix (x : Str) (t : List (List Nat × D)) (e : E) | gin (neg : Bool) (x : Str) (t : List (List Nat × D)) (e : E)
  /-- X.index(e), X a tuple of texts of the module -/
  | gti (x : Str) (t : List (List Nat)) (e : E)
  /-- sorted(X), X a dict of the module with text keys: ys -/
  | gsd (x : Str) (ys : List (List Nat))
  /-- slot i holds an exception of class c: its field f; isinstance(it, C), which is b -/
  | fld (i c : Nat) (f : Str) | isx (i c : Nat) (C : Str) (b : Bool)
  | bin (o : BOp) (a b : E) | neg (a : E) | not (a : E)
  | cmp (o : COp) (a b : E) | chn (o p : COp) (a b c : E)
  | and (es : List E) | or (es : List E) | ite (t a b : E)
  | tup (es : List E) | lst (es : List E)
  | call (f : CallF) (es : List E)
  | bi (b : BI) (es : List E)
  | me (m : ME) (o : E) (es : List E)
  | isi (ts : List Ty) (a : E)
  | ix (a b : E) | slLo (a l : E) | slHi (a h : E) | slLH (a l h : E) | rev (a : E) | lrev (a : E)
  /-- a + b, lists: a new list -/
  | cat (a b : E)
  | pop (i : Nat)
  | lc (t : Tgt) (own : List Nat) (s : Src) (ifs : List E) (elt : E)
inductive Src where
  | it (e : E) | r1 (a : E) | r2 (a b : E) | rd (a b : E)
end

def setSl (ρ : En) (i : Nat) (s : Sl) : En := ρ.set i s
def wipeE (ρ : En) : List Nat → En
  | [] => ρ
  | v :: vs => (wipeE ρ vs).set v .no
/-- the slots vs as they were in ρ0 -/
def backE (ρ0 ρ : En) : List Nat → En
  | [] => ρ
  | v :: vs => (backE ρ0 ρ vs).set v (ρ0.getD v .no)
/-- none of these slots owns a list -/
def freeE (ρ : En) (vs : List Nat) : Bool := vs.all fun v => match ρ[v]? with
  | some (.own _) => false
  | some (.exn _ _) => false
  | _ => true
/-- a value into a slot that owns no list -/
def setV (ρ : En) (i : Nat) (d : D) : Option En := match ρ[i]? with
  | some (.own _) => none
  | some _ => some (ρ.set i (.val d))
  | none => none
def bindN (ρ : En) : List Nat → List D → Option En
  | [], [] => some ρ
  | i :: is, d :: ds => match setV ρ i d with
    | some ρ => bindN ρ is ds
    | none => none
  | _, _ => none
def bindT (t : Tgt) (d : D) (ρ : En) : Option En := match t with
  | .n i => setV ρ i d
  | .t is => match d with
    | .tup ds => bindN ρ is ds
    | _ => none
def asD : Rv → Option D
  | .d d => some d
  | .o _ => none
def derefs (ρ : En) : List Rv → Option (List D)
  | [] => some []
  | r :: rs => match deref ρ r, derefs ρ rs with
    | some d, some ds => some (d :: ds)
    | _, _ => none
def asDs : List Rv → Option (List D)
  | [] => some []
  | .d d :: rs => (asDs rs).map (d :: ·)
  | .o _ :: _ => none
/-- the arguments by their modes: values; slots of the lists that are handed over -/
def splitA (ρ : En) : List Bool → List Rv → Option (List D × List Nat)
  | [], [] => some ([], [])
  | false :: md, .d d :: rs => match splitA ρ md rs with
    | some (ds, is) => some (d :: ds, is)
    | none => none
  | true :: md, .o i :: rs => match ρ[i]?, splitA ρ md rs with
    | some (.own x), some (ds, is) => some (.lst x :: ds, i :: is)
    | _, _ => none
  | _, _ => none
def putO (ρ : En) : List Nat → List (List D) → Option En
  | [], [] => some ρ
  | i :: is, x :: xs => if x.length ≤ lim then putO (ρ.set i (.own x)) is xs else none
  | _, _ => none
def nodupB (is : List Nat) : Bool := decide is.Nodup
def callO (f : CallF) (rs : List Rv) (ρ : En) : O Rv := match splitA ρ f.md rs with
  | some (ds, is) => if nodupB is then (match f.F ds with
      | .ok d outs => (match putO ρ is outs with
        | some ρ' => .ok (.d d) ρ'
        | none => .bad)
      | .exc c d outs => (match putO ρ is outs with
        | some ρ' => .exc c d ρ'
        | none => .bad)
      | .bad => .bad) else .bad
  | none => .bad
def lcGo (t : Tgt) (vs : List Nat) (body : EvF (Option D)) : List D → List D → EvF (List D)
  | [], acc, ρ => if acc.length ≤ lim then .ok acc ρ else .bad
  | x :: xs, acc, ρ => match bindT t x (wipeE ρ vs) with
    | none => .bad
    | some ρ1 => match body ρ1 with
      | .ok o ρ2 => if freeE ρ2 vs && decide (acc.length < lim) then lcGo t vs body xs (acc ++ o.toList) (backE ρ ρ2 vs) else .bad
      | _ => .bad

/-- a turn of a comprehension -/
def lcBody (ifs : EvF Bool) (elt : EvF Rv) : EvF (Option D) := fun ρ => (ifs ρ).bind fun k ρ => if k = true then (elt ρ).bind fun y ρ => O.opt ((asD y).map some) ρ else .ok none ρ

mutual
def evE : E → EvF Rv
  | .v i, ρ => match ρ[i]? with
    | some (.val d) => .ok (.d d) ρ
    | some (.own _) => .ok (.o i) ρ
    | _ => .bad
  | .c d, ρ => .ok (.d d) ρ
  | .g _ d, ρ => .ok (.d d) ρ
  | .gix _ t a, ρ => (evE a ρ).bind fun x ρ => (O.opt (asD x) ρ).bind fun x ρ => (O.opt (asS x) ρ).bind fun s ρ => O.opt ((t.lookup s).map .d) ρ
  | .gin n _ t a, ρ => (evE a ρ).bind fun x ρ => (O.opt (asD x) ρ).bind fun x ρ => (O.opt (asS x) ρ).bind fun s ρ => .ok (.d (.bl (if n then !(t.lookup s).isSome else (t.lookup s).isSome))) ρ
  | .gti _ t a, ρ => (evE a ρ).bind fun x ρ => (O.opt (asD x) ρ).bind fun x ρ => (O.opt (asS x) ρ).bind fun s ρ => O.opt (((idxT s t).map fun (n : Nat) => D.int (n : Int)).map .d) ρ
  | .gsd _ ys, ρ => .ok (.d (.lst (ys.map .str))) ρ
  | .fld i c _, ρ => match ρ[i]? with
    | some (.exn y d) => if y = c then .ok (.d d) ρ else .bad
    | _ => .bad
  | .isx i c _ b, ρ => match ρ[i]? with
    | some (.exn y _) => if y = c then .ok (.d (.bl b)) ρ else .bad
    | _ => .bad
  | .bin o a b, ρ => (evE a ρ).bind fun x ρ => (evE b ρ).bind fun y ρ => (O.opt (deref ρ x) ρ).bind fun x ρ => (O.opt (deref ρ y) ρ).bind fun y ρ => O.opt ((bop o x y).map .d) ρ
  | .neg a, ρ => (evE a ρ).bind fun x ρ => (O.opt (asD x) ρ).bind fun x ρ => (O.opt (asI x) ρ).bind fun i ρ => .ok (.d (.int (-i))) ρ
  | .not a, ρ => (evE a ρ).bind fun x ρ => (O.opt (asD x) ρ).bind fun x ρ => (O.opt (asB x) ρ).bind fun b ρ => .ok (.d (.bl (!b))) ρ
  | .cmp o a b, ρ => (evE a ρ).bind fun x ρ => (evE b ρ).bind fun y ρ => (O.opt (deref ρ x) ρ).bind fun x ρ => (O.opt (deref ρ y) ρ).bind fun y ρ => O.opt ((cop o x y).map fun z => .d (.bl z)) ρ
  | .chn o p a b c, ρ => (evE a ρ).bind fun x ρ => (evE b ρ).bind fun y ρ => (O.opt (asD x) ρ).bind fun x ρ => (O.opt (asD y) ρ).bind fun y ρ => (O.opt (cop o x y) ρ).bind fun z ρ =>
      if z = true then (evE c ρ).bind fun w ρ => (O.opt (asD w) ρ).bind fun w ρ => O.opt ((cop p y w).map fun z => .d (.bl z)) ρ else .ok (.d (.bl false)) ρ
  | .and es, ρ => evAnd es ρ
  | .or es, ρ => evOr es ρ
  | .ite t a b, ρ => (evE t ρ).bind fun x ρ => (O.opt (asD x) ρ).bind fun x ρ => (O.opt (asB x) ρ).bind fun k ρ => if k = true then evE a ρ else evE b ρ
  | .tup es, ρ => (evEs es ρ).bind fun xs ρ => (O.opt (asDs xs) ρ).bind fun ds ρ => if ds.length ≤ lim then .ok (.d (.tup ds)) ρ else .bad
  | .lst es, ρ => (evEs es ρ).bind fun xs ρ => (O.opt (asDs xs) ρ).bind fun ds ρ => if ds.length ≤ lim then .ok (.d (.lst ds)) ρ else .bad
  | .call f es, ρ => (evEs es ρ).bind fun xs ρ => callO f xs ρ
  | .bi b es, ρ => (evEs es ρ).bind fun xs ρ => (O.opt (derefs ρ xs) ρ).bind fun ds ρ => O.opt ((bi b ds).map .d) ρ
  | .me m o es, ρ => (evE o ρ).bind fun x ρ => (O.opt (asD x) ρ).bind fun x ρ => (O.opt (asS x) ρ).bind fun s ρ => (evEs es ρ).bind fun xs ρ => (O.opt (derefs ρ xs) ρ).bind fun ds ρ => O.opt ((me m (.str s) ds).map .d) ρ
  | .isi ts a, ρ => (evE a ρ).bind fun x ρ => (O.opt (asD x) ρ).bind fun x ρ => .ok (.d (.bl (ts.any fun t => isTy t x))) ρ
  | .ix a b, ρ => (evE a ρ).bind fun x ρ => (evE b ρ).bind fun y ρ => (O.opt (deref ρ x) ρ).bind fun x ρ => (O.opt (asD y) ρ).bind fun y ρ => (O.opt (asI y) ρ).bind fun i ρ => O.opt ((atD x i).map .d) ρ
  | .slLo a l, ρ => (evE a ρ).bind fun x ρ => (evE l ρ).bind fun y ρ => (O.opt (deref ρ x) ρ).bind fun x ρ => (O.opt (asD y) ρ).bind fun y ρ => (O.opt (asI y) ρ).bind fun i ρ => O.opt ((cutD x (some i) none).map .d) ρ
  | .slHi a h, ρ => (evE a ρ).bind fun x ρ => (evE h ρ).bind fun y ρ => (O.opt (deref ρ x) ρ).bind fun x ρ => (O.opt (asD y) ρ).bind fun y ρ => (O.opt (asI y) ρ).bind fun i ρ => O.opt ((cutD x none (some i)).map .d) ρ
  | .slLH a l h, ρ => (evE a ρ).bind fun x ρ => (evE l ρ).bind fun y ρ => (O.opt (asD y) ρ).bind fun y ρ => (O.opt (asI y) ρ).bind fun i ρ => (evE h ρ).bind fun z ρ =>
      (O.opt (asD z) ρ).bind fun z ρ => (O.opt (asI z) ρ).bind fun j ρ => (O.opt (deref ρ x) ρ).bind fun x ρ => O.opt ((cutD x (some i) (some j)).map .d) ρ
  | .rev a, ρ => (evE a ρ).bind fun x ρ => (O.opt (deref ρ x) ρ).bind fun x ρ => O.opt ((revD x).map .d) ρ
  | .cat a b, ρ => (evE a ρ).bind fun x ρ => (evE b ρ).bind fun y ρ => (O.opt (deref ρ x) ρ).bind fun x ρ => (O.opt (deref ρ y) ρ).bind fun y ρ => O.opt ((catD x y).map .d) ρ
  | .lrev a, ρ => (evE a ρ).bind fun x ρ => (O.opt (asD x) ρ).bind fun x ρ => O.opt ((lrevD x).map .d) ρ
  | .pop i, ρ => match ρ[i]? with
    | some (.own ds) => (match ds.getLast? with
      | some d => .ok (.d d) (ρ.set i (.own ds.dropLast))
      | none => .bad)
    | _ => .bad
  | .lc t own s ifs elt, ρ => (evSrc s ρ).bind fun xs ρ => if freeE ρ own then
      (match lcGo t own (lcBody (evTs ifs) (evE elt)) xs [] ρ with
        | .ok ys ρ' => .ok (.d (.lst ys)) ρ'
        | _ => .bad) else .bad
def evEs : List E → EvF (List Rv)
  | [], ρ => .ok [] ρ
  | e :: es, ρ => (evE e ρ).bind fun x ρ => (evEs es ρ).bind fun xs ρ => .ok (x :: xs) ρ
def evAnd : List E → EvF Rv
  | [], _ => .bad
  | a :: es, ρ => match es with
    | [] => evE a ρ
    | _ :: _ => (evE a ρ).bind fun x ρ => (O.opt (asD x) ρ).bind fun x ρ => (O.opt (asB x) ρ).bind fun k ρ => if k = true then evAnd es ρ else .ok (.d (.bl false)) ρ
def evOr : List E → EvF Rv
  | [], _ => .bad
  | a :: es, ρ => match es with
    | [] => evE a ρ
    | _ :: _ => (evE a ρ).bind fun x ρ => (O.opt (asD x) ρ).bind fun x ρ => (O.opt (asB x) ρ).bind fun k ρ => if k = true then .ok (.d (.bl true)) ρ else evOr es ρ
def evTs : List E → EvF Bool
  | [], ρ => .ok true ρ
  | e :: es, ρ => match es with
    | [] => (evE e ρ).bind fun x ρ => (O.opt (asD x) ρ).bind fun x ρ => (O.opt (asB x) ρ).bind fun k ρ => .ok k ρ
    | _ :: _ => .bad
def evSrc : Src → EvF (List D)
  | .it e, ρ => (evE e ρ).bind fun x ρ => (O.opt (asD x) ρ).bind fun x ρ => O.opt (items x) ρ
  | .r1 a, ρ => (evE a ρ).bind fun x ρ => (O.opt (asD x) ρ).bind fun x ρ => (O.opt (asI x) ρ).bind fun i ρ => if rngOk i then .ok (rng 0 i) ρ else .bad
  | .r2 a b, ρ => (evE a ρ).bind fun x ρ => (evE b ρ).bind fun y ρ => (O.opt (asD x) ρ).bind fun x ρ => (O.opt (asI x) ρ).bind fun i ρ => (O.opt (asD y) ρ).bind fun y ρ => (O.opt (asI y) ρ).bind fun j ρ =>
      if rngOk i && rngOk j then .ok (rng i j) ρ else .bad
  | .rd a b, ρ => (evE a ρ).bind fun x ρ => (evE b ρ).bind fun y ρ => (O.opt (asD x) ρ).bind fun x ρ => (O.opt (asI x) ρ).bind fun i ρ => (O.opt (asD y) ρ).bind fun y ρ => (O.opt (asI y) ρ).bind fun j ρ =>
      if rngOk i && rngOk j then .ok (rngD i j) ρ else .bad
end
/-- as a test -/
def evT (e : E) : EvF Bool := fun ρ => (evE e ρ).bind fun x ρ => (O.opt (asD x) ρ).bind fun x ρ => O.opt (asB x) ρ

/-! ### statements -/
inductive S where
  | ret (e : E) | retN | retF (e : E)
  | set (i : Nat) (e : E) | setN (i : Nat) (e : E)
  | unp (is : List Nat) (e : E)
  | aug (i : Nat) (sub : Bool) (e : E)
  | ite (t : E) (a b : List S)
  | whl (t : E) (b : List S)
  | for (t : Tgt) (s : Src) (b : List S)
  | app (i : Nat) (e : E) | ext (i : Nat) (e : E) | put (i : Nat) (k e : E)
  | exp (e : E)
  | raise (c : Nat) (C : Str) (e : E)
  /-- try: b / except C (as slot n): h; cs: the classes that C catches -/
  | try (b : List S) (cs : List Nat) (C : Str) (n : Option Nat) (h : List S)
  | frz (i : Nat)
  | pas | brk | cnt | nev
inductive Out where
  | nx (ρ : En) | brk (ρ : En) | cnt (ρ : En) | ret (r : Rv) (ρ : En) | new (ds : List D) (ρ : En) | exc (c : Nat) (d : D) (ρ : En) | bad
def O.out {β : Type} (x : O β) (f : β → En → Out) : Out := match x with
  | .ok a ρ => f a ρ
  | .exc c d ρ => .exc c d ρ
  | .bad => .bad
def Out.seq (x : Out) (f : En → Out) : Out := match x with
  | .nx ρ => f ρ
  | o => o
def whlGo (t : EvF Bool) (b : En → Out) : Nat → En → Out
  | 0, _ => .bad
  | n + 1, ρ => (t ρ).out fun k ρ => if k = true then (match b ρ with
      | .nx ρ => whlGo t b n ρ
      | .cnt ρ => whlGo t b n ρ
      | .brk ρ => .nx ρ
      | o => o) else .nx ρ
def forGo (tg : Tgt) (b : En → Out) : List D → En → Out
  | [], ρ => .nx ρ
  | x :: xs, ρ => match bindT tg x ρ with
    | none => .bad
    | some ρ => match b ρ with
      | .nx ρ => forGo tg b xs ρ
      | .cnt ρ => forGo tg b xs ρ
      | .brk ρ => .nx ρ
      | o => o
/-- no slot holds an exception -/
def noX (ρ : En) : Bool := ρ.all fun s => match s with
  | .exn _ _ => false
  | _ => true
def isOwn (ρ : En) (i : Nat) : Bool := match ρ[i]? with
  | some (.own _) => true
  | _ => false
/-- behind an except clause's suite -/
def leaveX (n : Option Nat) (ρ : En) : Option En := match n with
  | none => if noX ρ then some ρ else none
  | some i => if !isOwn ρ i && noX (ρ.set i .no) then some (ρ.set i .no) else none
def leaveT (n : Option Nat) : Out → Out
  | .nx ρ => (match leaveX n ρ with
    | some ρ => .nx ρ
    | none => .bad)
  | .brk ρ => (match leaveX n ρ with
    | some ρ => .brk ρ
    | none => .bad)
  | .cnt ρ => (match leaveX n ρ with
    | some ρ => .cnt ρ
    | none => .bad)
  | .ret r ρ => (match leaveX n ρ with
    | some ρ => .ret r ρ
    | none => .bad)
  | .new ds ρ => (match leaveX n ρ with
    | some ρ => .new ds ρ
    | none => .bad)
  | _ => .bad
/-- into the suite -/
def enterX (n : Option Nat) (x : Nat) (d : D) (ρ : En) : Option En := if noX ρ then (match n with
  | none => some ρ
  | some i => if isOwn ρ i then none else (match ρ[i]? with
    | some _ => some (ρ.set i (.exn x d))
    | none => none)) else none
def ixOk (ds : List D) (k : Int) : Option Nat := ixN ds.length k
mutual
def exS (n : Nat) : S → En → Out
  | .ret e, ρ => (evE e ρ).out fun x ρ => .ret x ρ
  | .retN, ρ => .ret (.d .non) ρ
  | .retF e, ρ => (evE e ρ).out fun x ρ => match x with
    | .d (.lst ds) => .new ds ρ
    | _ => .bad
  | .set i e, ρ => (evE e ρ).out fun x ρ => match asD x with
    | some d => (match setV ρ i d with
      | some ρ => .nx ρ
      | none => .bad)
    | none => .bad
  | .setN i e, ρ => (evE e ρ).out fun x ρ => match x with
    | .d (.lst ds) => .nx (ρ.set i (.own ds))
    | _ => .bad
  | .unp is e, ρ => (evE e ρ).out fun x ρ => match asD x with
    | some (.tup ds) => (match bindN ρ is ds with
      | some ρ => .nx ρ
      | none => .bad)
    | _ => .bad
  | .aug i sub e, ρ => match ρ[i]? with
    | some (.val (.int x)) => (evE e ρ).out fun y ρ => match asD y with
      | some (.int y) => (match setV ρ i (.int (if sub then x - y else x + y)) with
        | some ρ => .nx ρ
        | none => .bad)
      | _ => .bad
    | _ => .bad
  | .ite t a b, ρ => (evT t ρ).out fun k ρ => if k = true then exSs n a ρ else exSs n b ρ
  | .whl t b, ρ => whlGo (evT t) (exSs n b) n ρ
  | .for t s b, ρ => (evSrc s ρ).out fun xs ρ => forGo t (exSs n b) xs ρ
  | .app i e, ρ => if isOwn ρ i then (evE e ρ).out fun x ρ => match asD x, ρ[i]? with
    | some d, some (.own ds) => if ds.length < lim then .nx (ρ.set i (.own (ds ++ [d]))) else .bad
    | _, _ => .bad
    else .bad
  | .ext i e, ρ => if isOwn ρ i then (evE e ρ).out fun x ρ => match asD x, ρ[i]? with
    | some (.lst es), some (.own ds) => if ds.length + es.length ≤ lim then .nx (ρ.set i (.own (ds ++ es))) else .bad
    | _, _ => .bad
    else .bad
  | .put i k e, ρ => (evE e ρ).out fun x ρ => if isOwn ρ i then (evE k ρ).out fun y ρ => match asD x, asD y, ρ[i]? with
    | some d, some (.int k), some (.own ds) => (match ixN ds.length k with
      | some j => .nx (ρ.set i (.own (ds.set j d)))
      | none => .bad)
    | _, _, _ => .bad
    else .bad
  | .exp e, ρ => (evE e ρ).out fun _ ρ => .nx ρ
  | .raise c _ e, ρ => (evE e ρ).out fun x ρ => match asD x with
    | some d => .exc c d ρ
    | none => .bad
  | .try b cs _ m h, ρ => match exSs n b ρ with
    | .exc x d ρ => if cs.contains x then (match enterX m x d ρ with
        | some ρ => leaveT m (exSs n h ρ)
        | none => .bad) else .exc x d ρ
    | o => o
  | .frz i, ρ => match ρ[i]? with
    | some (.own ds) => .nx (ρ.set i (.val (.lst ds)))
    | _ => .bad
  | .pas, ρ => .nx ρ
  | .brk, ρ => .brk ρ
  | .cnt, ρ => .cnt ρ
  | .nev, _ => .bad
def exSs (n : Nat) : List S → En → Out
  | [], ρ => .nx ρ
  | s :: ss, ρ => (exS n s ρ).seq fun ρ => exSs n ss ρ
end

/-- the call of a def: m places of its names; md: which parameters are lists that it changes; their slots in order -/
def slotsFrom (k : Nat) : List Bool → List Nat
  | [] => []
  | b :: md => if b = true then k :: slotsFrom (k + 1) md else slotsFrom (k + 1) md
def inoutSlots (md : List Bool) : List Nat := slotsFrom 0 md
def startE (m : Nat) : List Bool → List D → Option En
  | [], [] => some (List.replicate m .no)
  | b :: md, d :: ds => match m with
    | 0 => none
    | m + 1 => match startE m md ds with
      | some ρ => (match b, d with
        | false, d => some (.val d :: ρ)
        | true, .lst x => some (.own x :: ρ)
        | true, _ => none)
      | none => none
  | _, _ => none
def outsOf (ρ : En) : List Nat → Option (List (List D))
  | [] => some []
  | i :: is => match ρ[i]?, outsOf ρ is with
    | some (.own x), some r => some (x :: r)
    | _, _ => none
/-- what a body's end gives the caller (fr: a new list) -/
def finO (md : List Bool) (d : D) (ρ : En) : MR := match outsOf ρ (inoutSlots md) with
  | some r => .ok d r
  | none => .bad
def leaveO (md : List Bool) (fr : Bool) : Out → MR
  | .nx ρ => if fr = true then .bad else finO md .non ρ
  | .ret (.d d) ρ => if fr = true then .bad else finO md d ρ
  | .ret (.o i) ρ => if (inoutSlots md).contains i = true then .bad else (match ρ[i]? with
      | some (.own x) => finO md (.lst x) ρ
      | _ => .bad)
  | .new ds ρ => if fr = true then finO md (.lst ds) ρ else .bad
  | .exc c d ρ => (match outsOf ρ (inoutSlots md) with
    | some r => .exc c d r
    | none => .bad)
  | _ => .bad
def runF (n m : Nat) (md : List Bool) (fr : Bool) (b : List S) (ds : List D) : MR := match startE m md ds with
  | some ρ => leaveO md fr (exSs n b ρ)
  | none => .bad

/-! ### a trial -/
example : runF 5 1 [false] false [.ite (.cmp .lt (.v 0) (.c (.int 0))) [.ret (.neg (.v 0))] [], .ret (.v 0)] [.int (-3)] = .ok (.int 3) [] := by rfl
example (i : Int) (h : i < 0) : runF 5 1 [false] false [.ite (.cmp .lt (.v 0) (.c (.int 0))) [.ret (.neg (.v 0))] [], .ret (.v 0)] [.int i] = .ok (.int (-i)) [] := by
  simp [runF, startE, exSs, exS, evT, evE, O.bind, O.opt, O.out, Out.seq, deref, cop, ltO, asD, asB, asI, leaveO, finO, outsOf, inoutSlots, slotsFrom, h]
end Mini
end

section
set_option Elab.async false
set_option linter.all false
set_option maxRecDepth 100000
/-! M3: the operations keep what the evaluator says of them. -/
namespace Mini
open PySem L2

def Post (K : PySem.W.Frag) (Hf H : Hp) (Q : VK) (d : D) : Prop := ∀ v H' Hf', Adv Hf H Hf' H' → Rep K Hf' v d → Q v H'

section
variable {K : PySem.W.Frag} {Hf H : Hp} {v : V} {Q : VK}
theorem Post.now {d : D} (h : Post K Hf H Q d) (s : Same Hf H) (r : Rep K Hf v d) : Q v H := h v H Hf (Adv.refl s) r
theorem RepB.int_ {i : Int} (h : RepB K Hf H v (.int i)) : v = .int i := by
  rcases h with h | ⟨_, _, _, _, e, _⟩
  · cases h; rfl
  · cases e
theorem RepB.bl_ {i : Bool} (h : RepB K Hf H v (.bl i)) : v = .bl i := by
  rcases h with h | ⟨_, _, _, _, e, _⟩
  · cases h; rfl
  · cases e
theorem RepB.non_ (h : RepB K Hf H v .non) : v = .non := by
  rcases h with h | ⟨_, _, _, _, e, _⟩
  · cases h; rfl
  · cases e
theorem RepB.str_ {cs : List Nat} (h : RepB K Hf H v (.str cs)) : v = .str (sOf cs) ∧ okS cs = true := by
  rcases h with h | ⟨_, _, _, _, e, _⟩
  · cases h; exact ⟨rfl, by assumption⟩
  · cases e
theorem RepB.tup_ {ds : List D} (s : Same Hf H) (h : RepB K Hf H v (.tup ds)) : ∃ a vs, v = .ref a ∧ SqT K H a vs ∧ Reps K Hf vs ds ∧ ds.length ≤ lim ∧ Rep K Hf v (.tup ds) := by
  rcases h with h | ⟨_, _, _, _, e, _⟩
  · cases id h with
    | tup a b c => exact ⟨_, _, rfl, sqT_mono s a, b, c, h⟩
  · cases e
theorem RepB.lst_ {ds : List D} (s : Same Hf H) (h : RepB K Hf H v (.lst ds)) : ∃ a vs, v = .ref a ∧ SqL K H a vs ∧ Reps K Hf vs ds ∧ ds.length ≤ lim := by
  rcases h with h | ⟨p, vs, ds', e, e2, h1, h2, h3⟩
  · cases h with
    | lst a b c => exact ⟨_, _, rfl, Same.seq s a, b, c⟩
  · cases e2; exact ⟨p, vs, e, SqL.of h1, h2, h3⟩
theorem okS_len {cs : List Nat} (h : okS cs = true) : cs.length ≤ lim := of_decide_eq_true (Bool.and_eq_true_iff.mp h).1
theorem okS_all {cs : List Nat} (h : okS cs = true) : ∀ c ∈ cs, c < 1114112 := fun c hc => of_decide_eq_true (List.all_eq_true.mp (Bool.and_eq_true_iff.mp h).2 c hc)
theorem okS_mk {cs : List Nat} (h : cs.length ≤ lim) (h2 : ∀ c ∈ cs, c < 1114112) : okS cs = true := Bool.and_eq_true_iff.mpr ⟨decide_eq_true h, List.all_eq_true.mpr fun c hc => decide_eq_true (h2 c hc)⟩
theorem sOf_len (cs : List Nat) : (sOf cs).length = cs.length := by simp [sOf, Str.length]
theorem okS_line {cs : List Nat} (h : okS cs = true) : (sOf cs).length ≤ sizeLine := by rw [sOf_len]; exact Nat.le_trans (okS_len h) lim_line
theorem sOf_inj {a b : List Nat} (h : sOf a = sOf b) : a = b := by
  have e : (sOf a).cps.toList = (sOf b).cps.toList := by rw [h]
  simpa [sOf] using e
theorem sOf_app (a b : List Nat) : sOf a ++ sOf b = sOf (a ++ b) := by
  show Str.append _ _ = _
  simp [Str.append, sOf]
theorem line_lim {n : Nat} (h : n ≤ lim) : n ≤ sizeLine := Nat.le_trans h lim_line
theorem line_lim2 {a b : Nat} (h : a ≤ lim) (h' : b ≤ lim) : a + b ≤ sizeLine := by
  have : lim + lim ≤ sizeLine := by decide
  omega
/-- a new tuple, a new list: frozen at once -/
theorem Post.tup {vs : List V} {ds : List D} (h : Post K Hf H Q (.tup ds)) (s : Same Hf H) (r : Reps K Hf vs ds) (l : ds.length ≤ lim) : ∀ p, H p = none → Q (.ref p) (upd H p (.tup vs)) := fun p hp =>
  h _ _ _ (Adv.new s hp) (.tup (SqT.of upd_same) (r.mono (same_upd (s.free hp))) l)
theorem Post.lst {vs : List V} {ds : List D} (h : Post K Hf H Q (.lst ds)) (s : Same Hf H) (r : Reps K Hf vs ds) (l : ds.length ≤ lim) : ∀ p, H p = none → Q (.ref p) (upd H p (.lst vs)) := fun p hp =>
  h _ _ _ (Adv.new s hp) (.lst (SqL.of upd_same) (r.mono (same_upd (s.free hp))) l)
end

/-! ### == -/
mutual
def py : D → PyData
  | .non => .none
  | .bl b => .bool b
  | .int i => .int i
  | .str s => .str (sOf s)
  | .tup ds => .tuple (pys ds)
  | .lst ds => .list (pys ds)
def pys : List D → List PyData
  | [] => []
  | d :: ds => py d :: pys ds
end
section
variable {K : PySem.W.Frag} {Hf H : Hp}
mutual
theorem Rep.dp : ∀ {v : V} {d : D}, Rep K H v d → Dp K H v (py d)
  | _, _, .non => .non
  | _, _, .bl b => .bl b
  | _, _, .int i => .int i
  | _, _, .str _ => .str _
  | _, _, .tup h r _ => .tup h (Reps.dp r)
  | _, _, .lst h r _ => .lst h (Reps.dp r)
theorem Reps.dp : ∀ {vs : List V} {ds : List D}, Reps K H vs ds → DpAll K H vs (pys ds)
  | _, _, .nil => .nil
  | _, _, .cons h r => .cons (Rep.dp h) (Reps.dp r)
end
theorem RepB.dp {v : V} {d : D} (s : Same Hf H) (h : RepB K Hf H v d) : Dp K H v (py d) := by
  rcases h with h | ⟨p, vs, ds, rfl, rfl, h1, h2, _⟩
  · exact (h.mono s).dp
  · exact .lst (SqL.of h1) (h2.mono s).dp
mutual
theorem Rep.lay : ∀ {v : V} {d : D}, Rep K H v d → (py d).canLay0 = true
  | _, _, .non => rfl
  | _, _, .bl b => rfl
  | _, _, .int i => rfl
  | _, _, .str (cs := cs) h => by
    show PyData.strOk (sOf cs) = true
    unfold PyData.strOk
    have q := okS_all h
    simp only [sOf, List.all_toArray, List.all_eq_true, decide_eq_true_eq]
    exact fun c hc => q c hc
  | _, _, .tup h r _ => Reps.lay r
  | _, _, .lst h r _ => Reps.lay r
theorem Reps.lay : ∀ {vs : List V} {ds : List D}, Reps K H vs ds → PyData.canLayAll0 (pys ds) = true
  | _, _, .nil => rfl
  | _, _, .cons h r => by
    show ((py _).canLay0 && PyData.canLayAll0 (pys _)) = true
    rw [Rep.lay h, Reps.lay r] <;> rfl
end
theorem RepB.lay {v : V} {d : D} (h : RepB K Hf H v d) : (py d).canLay0 = true := by
  rcases h with h | ⟨p, vs, ds, rfl, rfl, h1, h2, _⟩
  · exact h.lay
  · exact h2.lay
end
mutual
theorem dep_py : ∀ d : D, (py d).depth = dep d
  | .non | .bl _ | .int _ | .str _ => rfl
  | .tup ds => by show PyData.depthAll (pys ds) + 1 = deps ds + 1; rw [deps_py ds]
  | .lst ds => by show PyData.depthAll (pys ds) + 1 = deps ds + 1; rw [deps_py ds]
theorem deps_py : ∀ ds : List D, PyData.depthAll (pys ds) = deps ds
  | [] => rfl
  | d :: ds => by show max _ _ = max _ _; rw [dep_py d, deps_py ds]
end
mutual
theorem deq_py : ∀ a b : D, PyData.eqv (py a) (py b) = deq a b
  | .non, .non => rfl
  | .bl _, .bl _ => rfl
  | .bl _, .int _ => rfl
  | .int _, .bl _ => rfl
  | .int _, .int _ => rfl
  | .str x, .str y => by
    show (sOf x == sOf y) = (x == y)
    by_cases h : x = y
    · subst h; simp
    · have h2 : ¬ sOf x = sOf y := fun z => h (sOf_inj z)
      rw [beq_eq_false_iff_ne.mpr h, beq_eq_false_iff_ne.mpr h2]
  | .lst xs, .lst ys => deqs_py xs ys
  | .tup xs, .tup ys => deqs_py xs ys
  | .non, .bl _ | .non, .int _ | .non, .str _ | .non, .lst _ | .non, .tup _ => rfl
  | .bl _, .non | .bl _, .str _ | .bl _, .lst _ | .bl _, .tup _ => rfl
  | .int _, .non | .int _, .str _ | .int _, .lst _ | .int _, .tup _ => rfl
  | .str _, .non | .str _, .bl _ | .str _, .int _ | .str _, .lst _ | .str _, .tup _ => rfl
  | .lst _, .non | .lst _, .bl _ | .lst _, .int _ | .lst _, .str _ | .lst _, .tup _ => rfl
  | .tup _, .non | .tup _, .bl _ | .tup _, .int _ | .tup _, .str _ | .tup _, .lst _ => rfl
theorem deqs_py : ∀ a b : List D, PyData.eqvAll (pys a) (pys b) = deqs a b
  | [], [] => rfl
  | x :: xs, y :: ys => by
    show (PyData.eqv (py x) (py y) && PyData.eqvAll (pys xs) (pys ys)) = (deq x y && deqs xs ys)
    rw [deq_py x y, deqs_py xs ys]
  | [], _ :: _ => rfl
  | _ :: _, [] => rfl
end

def rB (K : PySem.W.Frag) (f : D → D → Option D) : R2 := fun x y H Q => ∃ Hf a b d, Same Hf H ∧ RepB K Hf H x a ∧ RepB K Hf H y b ∧ f a b = some d ∧ Post K Hf H Q d
section
variable {X : Cx}
theorem op_eqM (hu : X.A.units + 64 < cLine) : OpR X (compareOp .Eq) (rB X.K fun a b => (eqO a b).map .bl) := by
  intro pins s σ H x y v u Q I rx ry h
  obtain ⟨Hf, a, b, d, sm, ha, hb, e, hq⟩ := h
  simp only [eqO] at e
  split at e
  · rename_i hd
    cases e
    obtain ⟨as, r1⟩ := Dp.reads I (py a) x v (ha.dp sm) rx
    obtain ⟨bs, r2⟩ := Dp.reads I (py b) y u (hb.dp sm) ry
    refine PySem.SeqAt.compareEq_reads r1 r2 ha.lay hb.lay (by rw [dep_py, dep_py]; omega) ?_
    rw [deq_py]
    exact ⟨.bl _, H, I, rfl, hq.now sm (.bl _)⟩
  · cases e
theorem op_neM (hu : X.A.units + 64 < cLine) : OpR X (compareOp .NotEq) (rB X.K fun a b => ((eqO a b).map (!·)).map .bl) := by
  intro pins s σ H x y v u Q I rx ry h
  obtain ⟨Hf, a, b, d, sm, ha, hb, e, hq⟩ := h
  simp only [eqO] at e
  split at e
  · rename_i hd
    cases e
    obtain ⟨as, r1⟩ := Dp.reads I (py a) x v (ha.dp sm) rx
    obtain ⟨bs, r2⟩ := Dp.reads I (py b) y u (hb.dp sm) ry
    refine PySem.SeqAt.compareNe_reads r1 r2 ha.lay hb.lay (by rw [dep_py, dep_py]; omega) ?_
    rw [deq_py]
    exact ⟨.bl _, H, I, rfl, hq.now sm (.bl _)⟩
  · cases e

/-! ### arithmetic -/
theorem op_addL : OpR X (binaryOp .Add) (fun x y H Q => ∃ pa pb va vb, x = .ref pa ∧ y = .ref pb ∧ SqL X.K H pa va ∧ SqL X.K H pb vb ∧ va.length + vb.length ≤ sizeLine ∧ ∀ p, H p = none → Q (.ref p) (upd H p (.lst (va ++ vb)))) := by
  intro pins s σ H x y v u Q I rx ry h
  obtain ⟨pa, pb, va, vb, rfl, rfl, sa, sb, hz0, q⟩ := h
  cases rx
  cases ry
  obtain ⟨i1, r1, p1, z1⟩ := I.list sa
  obtain ⟨i2, r2, p2, z2⟩ := I.list sb
  obtain ⟨⟨c1, d1, t1, l1⟩, g1, g2, n1, g3⟩ := p1.isList
  obtain ⟨⟨c2, d2, t2, l2⟩, k1, k2, n2, k3⟩ := p2.isList
  simp only at g2 g3 k2 k3
  subst g2 g3 k2 k3
  have ea : i1.toArray ++ i2.toArray = (i1 ++ i2).toArray := by simp
  have hz : i1.length + i2.length ≤ sizeLine := by
    rw [← r1.length, ← r2.length]
    exact hz0
  refine concat_meets ⟨_, g1, rfl⟩ ⟨_, k1, rfl⟩ noFill_list_add seq_list_add PySem.F.slot_list_add PySem.F.entry_list_add (PySem.F.args_list_add_2 _ _)
    (PyProof.Rows.list_addW pa pb i1.toArray i2.toArray n1 n2 d1 d2 l1 l2 (by simpa using hz)) ⟨g1, k1, ?_⟩
  rw [ea]
  have hp := I.fresh
  have J := I.lnew (t' := s.toks) (r1.append r2) (by rw [List.length_append]; exact hz0)
  exact ⟨.ref _, _, J, rfl, q _ hp⟩
theorem op_addM : OpR X (binaryOp .Add) (rB X.K (bop .add)) := by
  intro pins s σ H x y v u Q I rx ry h
  obtain ⟨Hf, a, b, d, sm, ha, hb, e, hq⟩ := h
  unfold bop at e
  split at e
  · rename_i i j h1
    cases e
    cases ha.int_
    cases hb.int_
    exact op_add pins s σ H _ _ v u Q I rx ry ⟨i, j, rfl, rfl, hq.now sm (.int _)⟩
  · rename_i a b h1
    split at e
    · rename_i hl
      cases e
      obtain ⟨rfl, oa⟩ := ha.str_
      obtain ⟨rfl, ob⟩ := hb.str_
      refine op_add_str pins s σ H _ _ v u Q I rx ry ⟨_, _, rfl, rfl, by rw [sOf_len, sOf_len]; exact line_lim hl, ?_⟩
      rw [sOf_app]
      refine hq.now sm (.str (okS_mk (by rw [List.length_append]; exact hl) fun c hc => ?_))
      rcases List.mem_append.mp hc with hc | hc
      · exact okS_all oa c hc
      · exact okS_all ob c hc
    · cases e
  · rename_i a b h1
    split at e
    · rename_i hl
      cases e
      obtain ⟨pa, va, rfl, sa, ra, la, Ra⟩ := ha.tup_ sm
      obtain ⟨pb, vb, rfl, sb, rb, lb, Rb⟩ := hb.tup_ sm
      refine op_catA pins s σ H _ _ v u Q I rx ry ⟨pa, pb, va, vb, rfl, rfl, sa, sb, by rw [ra.length, rb.length]; exact line_lim hl, fun z => ?_, fun z z2 => ?_, fun z z2 => ?_⟩
      · subst z; cases ra; exact hq.now sm Rb
      · subst z2; cases rb; rw [List.append_nil] at hq; exact hq.now sm Ra
      · exact hq.tup sm (ra.append rb) (by rw [List.length_append]; exact hl)
    · cases e
  · rename_i a b h1
    split at e
    · rename_i hl
      cases e
      obtain ⟨pa, va, rfl, sa, ra, la⟩ := ha.lst_ sm
      obtain ⟨pb, vb, rfl, sb, rb, lb⟩ := hb.lst_ sm
      exact op_addL pins s σ H _ _ v u Q I rx ry ⟨pa, pb, va, vb, rfl, rfl, sa, sb, by rw [ra.length, rb.length]; exact line_lim hl, fun p hp => hq.lst sm (ra.append rb) (by rw [List.length_append]; exact hl) _ hp⟩
    · cases e
  all_goals first | (cases e; done) | (simp_all; done)
end
end Mini
end

section
set_option Elab.async false
set_option linter.all false
set_option maxRecDepth 100000
set_option maxHeartbeats 4000000
/-! ML: x < y for tuples and lists of mixed items: only the first place that differs is asked for its order. -/
namespace Mini
open PySem L2
section
open PySem.SeqAt PySem.AutoSeq1 PySem.MeetsSeq PySem.MeetsSeq2 PySem.MeetsSeq3 PySem.SeqRoads2
/-- how the items compare, from the left -/
inductive Lex (A : Around) (s : Shared) : List Value → List Value → Bool → Prop
  | nil {ys : List Value} : Lex A s [] ys (!ys.isEmpty)
  | stop {x : Value} {xs : List Value} : Lex A s (x :: xs) [] false
  | eq {x y : Value} {xs ys : List Value} {k : Bool} : EqAt A s x y true → Lex A s xs ys k → Lex A s (x :: xs) (y :: ys) k
  | ne {x y : Value} {xs ys : List Value} {k : Bool} : EqAt A s x y false → RcLt A s x y k → Lex A s (x :: xs) (y :: ys) k
theorem Lex.fin {A : Around} {s : Shared} {xs ys : List Value} {k : Bool} (h : Lex A s xs ys k) (hz : xs = [] ∨ ys = []) : k = decide (xs.length < ys.length) := by
  cases h with
  | nil => cases ys <;> simp
  | stop => simp
  | eq _ _ => rcases hz with h | h <;> cases h
  | ne _ _ => rcases hz with h | h <;> cases h
theorem lt_tup_meets (l b : Addr) (u v : Array Value) (n n2 : Nat) (dd dd2 : Option Addr) (sl sl2 : Array (Option Value)) (k : Bool) :
    Meets (Builtin.«tuple.__lt__» ⟨[.ref l, .ref b], []⟩)
      (fun A R s => s.heap.get? l = some { cls := .type "tuple", dict := dd, data := .seq u n, slots := sl } ∧ s.heap.get? b = some { cls := .type "tuple", dict := dd2, data := .seq v n2, slots := sl2 } ∧ Lex A.in1 s u.toList v.toList k ∧ R (.ok (.ret (.bool k))) s) :=
  .of_wp fun prog w A R s h => by
    obtain ⟨hp, g, d, tk, os⟩ := s
    obtain ⟨hl, hb, hx, h⟩ := h
    have f2 := AutoSeq1.sub_tuple_tuple
    wp_walk using wpAny_loadPart' hl, wpAny_loadPart' hb, wpAny_forIn_list _ (fun rest c s' => c.1 = none ∧ s' = ⟨hp, g, d, tk, os⟩ ∧ ∃ xs ys, rest = xs.zip ys ∧ Lex A.in1 ⟨hp, g, d, tk, os⟩ xs ys k ∧ decide (xs.length < ys.length) = decide (u.size < v.size)) _
    case turn =>
      rintro ⟨y, x⟩ rest c s' ⟨hc, rfl, xs, ys, hz, hL, hd⟩
      cases hL with
      | nil => cases hz
      | stop => cases hz
      | eq e t =>
        cases hz
        refine wpAny_bind (e prog w _ _ ?_)
        wp_walk
        exact ⟨rfl, rfl, _, _, rfl, t, by rw [← hd]; simp⟩
      | ne e r =>
        cases hz
        refine wpAny_bind (e prog w _ _ ?_)
        show wpAny _ _ (richCompare .Lt y x >>= _) _ _ _
        refine wpAny_bind (r prog w _ _ ?_)
        wp_walk
        exact ⟨_, rfl, h⟩
    case fin =>
      rintro ⟨c1, c2⟩ s' ⟨hc, rfl, xs, ys, hz, hL, hd⟩
      simp only at hc
      subst hc
      have hn : xs = [] ∨ ys = [] := List.zip_eq_nil_iff.mp hz.symm
      have hk := hL.fin hn
      wp_walk
      exact ⟨_, rfl, by rw [hk, hd] at h; simpa [Builtin.Tuple.tupleCompareSizes] using h⟩
    case h =>
      exact ⟨rfl, rfl, _, _, rfl, hx, by simp⟩
theorem lt_loop_meets (l b : Addr) (u v : Array Value) (n n2 : Nat) (dd dd2 : Option Addr) (sl sl2 : Array (Option Value)) (k : Bool) {A0 : Around} {s0 : Shared} :
    ∀ {xs ys : List Value}, Lex A0 s0 xs ys k → ∀ (i : Nat), u.toList.drop i = xs → v.toList.drop i = ys → i ≤ u.size → i ≤ v.size → Meets (Builtin.«list.__eq__.loop» ⟨[.ref l, .ref b, rawInt i, rawInt 0], []⟩)
      (fun A R s => A.in1 = A0 ∧ s = s0 ∧ s.heap.get? l = some { cls := .type "list", dict := dd, data := .seq u n, slots := sl } ∧ s.heap.get? b = some { cls := .type "list", dict := dd2, data := .seq v n2, slots := sl2 } ∧ R (.ok (.ret (.bool k))) s) := by
  intro xs ys hL
  induction hL with
  | @nil ys =>
    intro i hu hv hi hj prog w A R s h
    obtain ⟨rfl, rfl, hl, hb, h⟩ := h
    have e1 : u[((i : Nat) : Int).toNat]? = none := by
      rw [Int.toNat_natCast, ← Array.getElem?_toList, ← List.head?_drop, hu]
      rfl
    obtain ⟨hp, g, d, tk, os⟩ := s
    wp_walk using wpAny_loadPart' hl, wpAny_loadPart' hb
    rw [e1]
    wp_walk using wpAny_loadPart' hl, wpAny_loadPart' hb
    have e2 : (!ys.isEmpty) = decide (u.size < v.size) := by
      have l1 : u.size - i = 0 := by
        have := congrArg List.length hu
        simpa using this
      have l2 : v.size - i = ys.length := by
        have := congrArg List.length hv
        simpa using this
      cases ys with
      | nil =>
        have : ¬ u.size < v.size := by
          simp at l2
          omega
        simp [this]
      | cons a r =>
        have : u.size < v.size := by
          simp at l2
          omega
        simp [this]
    rw [e2] at h
    exact h
  | @stop x xs =>
    intro i hu hv hi hj prog w A R s h
    obtain ⟨rfl, rfl, hl, hb, h⟩ := h
    have e1 : u[((i : Nat) : Int).toNat]? = some x := by
      rw [Int.toNat_natCast, ← Array.getElem?_toList, ← List.head?_drop, hu]
      rfl
    have e2 : v[((i : Nat) : Int).toNat]? = none := by
      rw [Int.toNat_natCast, ← Array.getElem?_toList, ← List.head?_drop, hv]
      rfl
    obtain ⟨hp, g, d, tk, os⟩ := s
    wp_walk using wpAny_loadPart' hl, wpAny_loadPart' hb
    rw [e1, e2]
    wp_walk using wpAny_loadPart' hl, wpAny_loadPart' hb
    have e3 : false = decide (u.size < v.size) := by
      have l1 : u.size - i = xs.length + 1 := by
        have := congrArg List.length hu
        simpa using this
      have l2 : v.size - i = 0 := by
        have := congrArg List.length hv
        simpa using this
      have : ¬ u.size < v.size := by omega
      simp [this]
    rw [e3] at h
    exact h
  | @eq x y xs ys k e t ih =>
    intro i hu hv hi hj prog w A R s h
    obtain ⟨rfl, rfl, hl, hb, h⟩ := h
    have e1 : u[((i : Nat) : Int).toNat]? = some x := by
      rw [Int.toNat_natCast, ← Array.getElem?_toList, ← List.head?_drop, hu]
      rfl
    have e2 : v[((i : Nat) : Int).toNat]? = some y := by
      rw [Int.toNat_natCast, ← Array.getElem?_toList, ← List.head?_drop, hv]
      rfl
    have l1 : u.size - i = xs.length + 1 := by
      have := congrArg List.length hu
      simpa using this
    have l2 : v.size - i = ys.length + 1 := by
      have := congrArg List.length hv
      simpa using this
    have hu' : u.toList.drop (i + 1) = xs := by rw [← List.tail_drop, hu]; rfl
    have hv' : v.toList.drop (i + 1) = ys := by rw [← List.tail_drop, hv]; rfl
    have hc : ((i : Int) + 1) = ((i + 1 : Nat) : Int) := by push_cast; rfl
    obtain ⟨hp, g, d, tk, os⟩ := s
    wp_walk using wpAny_loadPart' hl, wpAny_loadPart' hb
    rw [e1, e2]
    refine wpAny_bind (e prog w _ _ ?_)
    wp_walk
    rw [hc]
    exact ⟨plainId_quiet plain_eq_loop _, codeAny_builtin entry_eq_loop (by
      rw [Around.under_plainId plain_eq_loop _]
      exact ih (i + 1) hu' hv' (by omega) (by omega) prog w A R _ ⟨rfl, rfl, hl, hb, h⟩)⟩
  | @ne x y xs ys k e r =>
    intro i hu hv hi hj prog w A R s h
    obtain ⟨rfl, rfl, hl, hb, h⟩ := h
    have e1 : u[((i : Nat) : Int).toNat]? = some x := by
      rw [Int.toNat_natCast, ← Array.getElem?_toList, ← List.head?_drop, hu]
      rfl
    have e2 : v[((i : Nat) : Int).toNat]? = some y := by
      rw [Int.toNat_natCast, ← Array.getElem?_toList, ← List.head?_drop, hv]
      rfl
    obtain ⟨hp, g, d, tk, os⟩ := s
    wp_walk using wpAny_loadPart' hl, wpAny_loadPart' hb
    rw [e1, e2]
    refine wpAny_bind (e prog w _ _ ?_)
    show wpAny _ _ (Builtin.List.listItems (Value.ref l) >>= _) _ _ _
    refine wpAny_bind ?_
    unfold Builtin.List.listItems
    refine wpAny_bind (wpAny_seqItems hl rfl (wpAny_pure ?_))
    refine wpAny_bind ?_
    refine wpAny_bind (wpAny_seqItems hb rfl (wpAny_pure ?_))
    rw [e1, e2]
    refine wpAny_bind (r prog w _ _ ?_)
    exact wpAny_pure h
theorem lt_list_meets (l b : Addr) (u v : Array Value) (n n2 : Nat) (dd dd2 : Option Addr) (sl sl2 : Array (Option Value)) (k : Bool) :
    Meets (Builtin.«list.__lt__» ⟨[.ref l, .ref b], []⟩)
      (fun A R s => s.heap.get? l = some { cls := .type "list", dict := dd, data := .seq u n, slots := sl } ∧ s.heap.get? b = some { cls := .type "list", dict := dd2, data := .seq v n2, slots := sl2 } ∧ Lex A.in1 s u.toList v.toList k ∧ R (.ok (.ret (.bool k))) s) := by
  intro prog w A R s h
  obtain ⟨hl, hb, hL, h⟩ := h
  have key := lt_loop_meets l b u v n n2 dd dd2 sl sl2 k hL 0 rfl rfl (Nat.zero_le _) (Nat.zero_le _) prog w A R s ⟨rfl, rfl, hl, hb, h⟩
  obtain ⟨hp, g, d, tk, os⟩ := s
  have f3 := AutoSeq1.sub_list_list
  wp_walk using wpAny_loadPart' hl, wpAny_loadPart' hb
  exact ⟨plainId_quiet plain_eq_loop _, codeAny_builtin entry_eq_loop (by
    rw [Around.under_plainId plain_eq_loop _]
    exact key)⟩
theorem rc_tup {A : Around} {s : Shared} {l b : Addr} {u v : Array Value} {k : Bool} (hl : s.heap.IsTuple l u) (hb : s.heap.IsTuple b v) (hu : A.units < cLine) (hL : Lex A.in1 s u.toList v.toList k) : RcLt A s (.ref l) (.ref b) k := fun prog w E Q h => by
  obtain ⟨⟨cls, dd, data, sl⟩, ho, hc, n, hd⟩ := id hl
  obtain ⟨⟨cls2, dd2, data2, sl2⟩, ho2, hc2, n2, hd2⟩ := id hb
  simp only at hc hd hc2 hd2
  subst hc hd hc2 hd2
  have hn : Value.bool k ≠ Value.notImplemented ∧ Q (.bool k) s := ⟨(fun x => nomatch x), h⟩
  exact richCompare_meets_room (op := .Lt) ⟨_, ho, rfl⟩ ⟨_, ho2, rfl⟩ PySem.F.slot_tuple_lt PySem.F.entry_tuple_lt (PySem.F.args_tuple_lt_2 _ _) (lt_tup_meets l b u v n n2 dd dd2 sl sl2 k) ⟨ho, ho2, hL, hn⟩ hu
theorem rc_lst {A : Around} {s : Shared} {l b : Addr} {u v : Array Value} {k : Bool} (hl : s.heap.IsList l u) (hb : s.heap.IsList b v) (hu : A.units < cLine) (hL : Lex A.in1 s u.toList v.toList k) : RcLt A s (.ref l) (.ref b) k := fun prog w E Q h => by
  obtain ⟨⟨cls, dd, data, sl⟩, ho, hc, n, hd⟩ := id hl
  obtain ⟨⟨cls2, dd2, data2, sl2⟩, ho2, hc2, n2, hd2⟩ := id hb
  simp only at hc hd hc2 hd2
  subst hc hd hc2 hd2
  have hn : Value.bool k ≠ Value.notImplemented ∧ Q (.bool k) s := ⟨(fun x => nomatch x), h⟩
  exact richCompare_meets_room (op := .Lt) ⟨_, ho, rfl⟩ ⟨_, ho2, rfl⟩ PySem.F.slot_list_lt PySem.F.entry_list_lt (PySem.F.args_list_lt_2 _ _) (lt_list_meets l b u v n n2 dd dd2 sl sl2 k) ⟨ho, ho2, hL, hn⟩ hu
theorem lay_cons {x : PyData} {xs : List PyData} (h : PyData.canLayAll0 (x :: xs) = true) : x.canLay0 = true ∧ PyData.canLayAll0 xs = true := by
  rw [PyData.canLayAll0, Bool.and_eq_true] at h
  exact h
/-- a < b, for data of this depth -/
def LtOk (n : Nat) : Prop := ∀ (a b : D) (k : Bool) (A : Around) (s : Shared) (va vb : Value) (as bs : List Addr), dep a ≤ n → Reads s.heap va (py a) as → Reads s.heap vb (py b) bs → (py a).canLay0 = true → (py b).canLay0 = true → ltD a b = some k → A.units + min (dep a) (dep b) < cLine → RcLt A s va vb k
theorem lex_Ds {n : Nat} (ih : LtOk n) {A : Around} {s : Shared} {k : Bool} : ∀ (xs ys : List D) (vs ws : List Value) (as bs : List Addr), deps xs ≤ n → ReadsAll s.heap vs (pys xs) as → ReadsAll s.heap ws (pys ys) bs → PyData.canLayAll0 (pys xs) = true → PyData.canLayAll0 (pys ys) = true → ltDs xs ys = some k → A.units + min (deps xs) (deps ys) < cLine → Lex A s vs ws k := by
  intro xs
  induction xs with
  | nil =>
    intro ys vs ws as bs hn ra rb la lb e hu
    cases ra
    cases ys with
    | nil =>
      cases rb
      cases e
      exact .nil
    | cons y ys =>
      cases rb
      cases e
      exact .nil
  | cons x xs ihx =>
    intro ys vs ws as bs hn ra rb la lb e hu
    have hn1 : dep x ≤ n := Nat.le_trans (Nat.le_max_left _ _) hn
    have hn2 : deps xs ≤ n := Nat.le_trans (Nat.le_max_right _ _) hn
    cases ys with
    | nil =>
      cases ra
      cases rb
      cases e
      exact .stop
    | cons y ys =>
      obtain ⟨l1, l2⟩ := lay_cons la
      obtain ⟨m1, m2⟩ := lay_cons lb
      cases ra with
      | cons r rs =>
        cases rb with
        | cons r' rs' =>
          have he := eqAt_reads (py x) (py y) A s _ _ _ _ r r' l1 m1 (by rw [dep_py, dep_py]; exact room_head hu)
          rw [deq_py] at he
          have e : (if deq x y = true then ltDs xs ys else ltD x y) = some k := e
          cases hd : deq x y with
          | true =>
            rw [hd, if_pos rfl] at e
            rw [hd] at he
            exact .eq he (ihx ys _ _ _ _ hn2 rs rs' l2 m2 e (room_tail hu))
          | false =>
            rw [hd, if_neg Bool.false_ne_true] at e
            rw [hd] at he
            exact .ne he (ih x y k A s _ _ _ _ hn1 r r' l1 m1 e (room_head hu))
theorem lt_flat {a b : D} {k : Bool} {A : Around} {s : Shared} {va vb : Value} {as bs : List Addr} (f : flatD a = true) (ra : Reads s.heap va (py a) as) (rb : Reads s.heap vb (py b) bs) (e : ltD a b = some k) : RcLt A s va vb k := by
  cases a with
  | non => cases b <;> cases e
  | tup _ => cases f
  | lst _ => cases f
  | bl i =>
    cases b with
    | bl j =>
      cases ra
      cases rb
      cases e
      intro prog w E Q hq
      exact PyProof.Rows.lt_bool hq
    | _ => cases e
  | int i =>
    cases b with
    | int j =>
      cases ra
      cases rb
      cases e
      intro prog w E Q hq
      exact PySem.P.lt_int hq
    | _ => cases e
  | str i =>
    cases b with
    | str j =>
      cases ra
      cases rb
      cases e
      intro prog w E Q hq
      exact PySem.P.lt_str hq
    | _ => cases e
theorem lt_ok : ∀ n : Nat, LtOk n := by
  intro n
  induction n with
  | zero =>
    intro a b k A s va vb as bs hn ra rb la lb e hu
    cases a with
    | tup ds => exact absurd hn (Nat.not_succ_le_zero _)
    | lst ds => exact absurd hn (Nat.not_succ_le_zero _)
    | _ => exact lt_flat rfl ra rb e
  | succ n ih =>
    intro a b k A s va vb as bs hn ra rb la lb e hu
    cases a with
    | tup xs =>
      cases b with
      | tup ys =>
        cases ra with
        | @tuple l o vs n1 _ as₁ h1 h2 h3 h4 =>
          cases rb with
          | @tuple l' o' vs' n2 _ bs₁ k1 k2 k3 k4 =>
            exact rc_tup ⟨_, h1, h2, _, h3⟩ ⟨_, k1, k2, _, k3⟩ (room_here hu) (lex_Ds ih xs ys _ _ _ _ (Nat.le_of_succ_le_succ hn) h4 k4 la lb e (room_in hu))
      | _ => cases e
    | lst xs =>
      cases b with
      | lst ys =>
        cases ra with
        | @list l o vs n1 _ as₁ h1 h2 h3 h4 =>
          cases rb with
          | @list l' o' vs' n2 _ bs₁ k1 k2 k3 k4 =>
            exact rc_lst ⟨_, h1, h2, _, h3⟩ ⟨_, k1, k2, _, k3⟩ (room_here hu) (lex_Ds ih xs ys _ _ _ _ (Nat.le_of_succ_le_succ hn) h4 k4 la lb e (room_in hu))
      | _ => cases e
    | _ => exact lt_flat rfl ra rb e
end
end Mini
end

section
set_option Elab.async false
set_option linter.all false
set_option maxRecDepth 100000
/-! M4: the other operators. -/
namespace Mini
open PySem L2
section
variable {K : PySem.W.Frag} {Hf H : Hp} {v : V} {Q : VK}
theorem dInts_eq : ∀ {ds : List D} {is : List Int}, dInts ds = some is → ds = is.map .int
  | [], is, h => by cases h; rfl
  | .int i :: r, is, h => by
    have h1 : (dInts r).map (i :: ·) = some is := h
    cases e : dInts r with
    | none => rw [e] at h1; cases h1
    | some js => rw [e] at h1; cases h1; rw [dInts_eq e] <;> rfl
theorem dStrs_eq : ∀ {ds : List D} {is : List (List Nat)}, dStrs ds = some is → ds = is.map .str
  | [], is, h => by cases h; rfl
  | .str i :: r, is, h => by
    have h1 : (dStrs r).map (i :: ·) = some is := h
    cases e : dStrs r with
    | none => rw [e] at h1; cases h1
    | some js => rw [e] at h1; cases h1; rw [dStrs_eq e] <;> rfl
theorem dBools_eq : ∀ {ds : List D} {is : List Bool}, dBools ds = some is → ds = is.map .bl
  | [], is, h => by cases h; rfl
  | .bl i :: r, is, h => by
    have h1 : (dBools r).map (i :: ·) = some is := h
    cases e : dBools r with
    | none => rw [e] at h1; cases h1
    | some js => rw [e] at h1; cases h1; rw [dBools_eq e] <;> rfl
theorem pys_any (x : D) : ∀ ds : List D, ((pys ds).any fun y => PyData.eqv y (py x)) = ds.any fun y => deq y x
  | [] => rfl
  | d :: ds => by
    show (PyData.eqv (py d) (py x) || (pys ds).any _) = (deq d x || ds.any _)
    rw [deq_py, pys_any x ds]
theorem subOf_iff (y : List Nat) : ∀ x : List Nat, subOf y x = true ↔ ∃ i, i + y.length ≤ x.length ∧ (x.drop i).take y.length = y
  | [] => by
    cases y with
    | nil => simp [subOf]
    | cons a y => simp [subOf]
  | c :: x => by
    have ih := subOf_iff y x
    unfold subOf
    rw [Bool.or_eq_true, ih]
    constructor
    · rintro (h | ⟨i, h1, h2⟩)
      · obtain ⟨t, ht⟩ := List.isPrefixOf_iff_prefix.mp h
        refine ⟨0, ?_, ?_⟩
        · rw [← ht, List.length_append]; omega
        · rw [List.drop_zero, ← ht, List.take_left']; rfl
      · exact ⟨i + 1, by rw [List.length_cons]; omega, by rw [List.drop_succ_cons]; exact h2⟩
    · rintro ⟨i, h1, h2⟩
      cases i with
      | zero =>
        refine .inl (List.isPrefixOf_iff_prefix.mpr ?_)
        rw [List.drop_zero] at h2
        rw [← h2]
        exact List.take_prefix _ _
      | succ i =>
        rw [List.drop_succ_cons] at h2
        rw [List.length_cons] at h1
        exact .inr ⟨i, by omega, h2⟩
theorem sub_occ (y x : List Nat) : (!(Builtin.Str.occurrences (sOf x) (sOf y) 0 (sOf x).length 1).isEmpty) = subOf y x := by
  rw [Bool.eq_iff_iff, PySem.StrLaws.found_iff, subOf_iff]
  simp only [sOf_len, PySem.StrLaws.subAt_eq, beq_iff_eq]
end

theorem omap {α β : Type} {f : α → β} {o : Option α} {d : β} (h : o.map f = some d) : ∃ k, o = some k ∧ f k = d := Option.map_eq_some_iff.mp h
section
variable {X : Cx}
theorem op_inM (hu : X.A.units + 64 < cLine) : OpR X (compareOp .In) (rB X.K fun a b => (memO a b).map .bl) := by
  intro pins s σ H x y v u Q I rx ry h
  obtain ⟨Hf, a, b, d, sm, ha, hb, e0, hq⟩ := h
  obtain ⟨k, e, rfl⟩ := omap e0
  unfold memO at e
  split at e
  · rename_i ds
    unfold inO at e
    split at e
    · rename_i hd
      cases e
      obtain ⟨as, r1⟩ := Dp.reads I (py a) x v (ha.dp sm) rx
      obtain ⟨bs, r2⟩ := Dp.reads I (py (.tup ds)) y u (hb.dp sm) ry
      refine PySem.SeqAt.in_tuple_reads r2 r1 hb.lay ha.lay (by rw [deps_py, dep_py]; omega) ?_
      rw [pys_any]
      exact ⟨.bl _, H, I, rfl, hq.now sm (.bl _)⟩
    · cases e
  · rename_i ds
    unfold inO at e
    split at e
    · rename_i hd
      cases e
      obtain ⟨as, r1⟩ := Dp.reads I (py a) x v (ha.dp sm) rx
      obtain ⟨bs, r2⟩ := Dp.reads I (py (.lst ds)) y u (hb.dp sm) ry
      refine PySem.SeqAt.in_list_reads r2 r1 hb.lay ha.lay (by rw [deps_py, dep_py]; omega) ?_
      rw [pys_any]
      exact ⟨.bl _, H, I, rfl, hq.now sm (.bl _)⟩
    · cases e
  · rename_i z
    split at e
    · rename_i c
      cases e
      obtain ⟨rfl, oa⟩ := ha.str_
      obtain ⟨rfl, ob⟩ := hb.str_
      refine op_in_sign pins s σ H _ _ v u Q I rx ry ⟨c, sOf z, rfl, rfl, ?_⟩
      have e2 : decide (c ∈ (sOf z).cps.toList) = z.contains c := by
        show decide (c ∈ z) = _
        rw [List.contains_eq_mem]
      rw [e2]
      exact hq.now sm (.bl _)
    · rename_i y' hne
      cases e
      obtain ⟨rfl, oa⟩ := ha.str_
      obtain ⟨rfl, ob⟩ := hb.str_
      refine op_in_str pins s σ H _ _ v u Q I rx ry ⟨_, _, rfl, rfl, ?_⟩
      rw [sub_occ]
      exact hq.now sm (.bl _)
    · cases e
  · cases e
theorem op_notInM (hu : X.A.units + 64 < cLine) : OpR X (compareOp .NotIn) (rB X.K fun a b => ((memO a b).map (!·)).map .bl) := by
  intro pins s σ H x y v u Q I rx ry h
  obtain ⟨Hf, a, b, d, sm, ha, hb, e0, hq⟩ := h
  obtain ⟨k0, e00, rfl⟩ := omap e0
  obtain ⟨k, e, rfl⟩ := omap e00
  unfold memO at e
  split at e
  · rename_i ds
    unfold inO at e
    split at e
    · rename_i hd
      cases e
      obtain ⟨as, r1⟩ := Dp.reads I (py a) x v (ha.dp sm) rx
      obtain ⟨bs, r2⟩ := Dp.reads I (py (.tup ds)) y u (hb.dp sm) ry
      refine PySem.SeqAt.notIn_tuple_reads r2 r1 hb.lay ha.lay (by rw [deps_py, dep_py]; omega) ?_
      rw [pys_any]
      exact ⟨.bl _, H, I, rfl, hq.now sm (.bl _)⟩
    · cases e
  · rename_i ds
    unfold inO at e
    split at e
    · rename_i hd
      cases e
      obtain ⟨as, r1⟩ := Dp.reads I (py a) x v (ha.dp sm) rx
      obtain ⟨bs, r2⟩ := Dp.reads I (py (.lst ds)) y u (hb.dp sm) ry
      refine PySem.SeqAt.notIn_list_reads r2 r1 hb.lay ha.lay (by rw [deps_py, dep_py]; omega) ?_
      rw [pys_any]
      exact ⟨.bl _, H, I, rfl, hq.now sm (.bl _)⟩
    · cases e
  · rename_i z
    split at e
    · rename_i c
      cases e
      obtain ⟨rfl, oa⟩ := ha.str_
      obtain ⟨rfl, ob⟩ := hb.str_
      refine op_notIn_sign pins s σ H _ _ v u Q I rx ry ⟨c, sOf z, rfl, rfl, ?_⟩
      have e2 : (!decide (c ∈ (sOf z).cps.toList)) = !z.contains c := by
        show (!decide (c ∈ z)) = _
        rw [List.contains_eq_mem]
      rw [e2]
      exact hq.now sm (.bl _)
    · rename_i y' hne
      cases e
      obtain ⟨rfl, oa⟩ := ha.str_
      obtain ⟨rfl, ob⟩ := hb.str_
      refine op_notIn_str pins s σ H _ _ v u Q I rx ry ⟨_, _, rfl, rfl, ?_⟩
      rw [sub_occ]
      exact hq.now sm (.bl _)
    · cases e
  · cases e
theorem lt_G {pins : List (Addr × Obj)} {s : Shared} {σ : L2.St} {H : Hp} {x y : V} {v u : Value} {Q : VK} {a b : D} {k : Bool} (hu : X.A.units + 64 < cLine) (I : L2.Inv X pins σ H s) (ha : Dp X.K H x (py a)) (hb : Dp X.K H y (py b)) (rx : RelV x v) (ry : RelV y u) (la : (py a).canLay0 = true) (lb : (py b).canLay0 = true)
    (e : ltG a b = some k) (hq : True → Q (.bl k) H) : wpAny (model X.prog X.w) X.A (compareOp .Lt v u) (EP X pins σ Q) X.xe s := by
  unfold ltG at e
  split at e
  · rename_i hd
    obtain ⟨as, r1⟩ := Dp.reads I (py a) x v ha rx
    obtain ⟨bs, r2⟩ := Dp.reads I (py b) y u hb ry
    exact lt_ok _ a b k X.A s v u _ _ (Nat.le_refl _) r1 r2 la lb e (by omega) _ _ _ _ ⟨.bl k, H, I, rfl, hq trivial⟩
  · cases e
theorem op_ltM (hu : X.A.units + 64 < cLine) : OpR X (compareOp .Lt) (rB X.K fun a b => (ltO a b).map .bl) := by
  intro pins s σ H x y v u Q I rx ry h
  obtain ⟨Hf, a, b, d, sm, ha, hb, e0, hq⟩ := h
  obtain ⟨k, e, rfl⟩ := omap e0
  unfold ltO at e
  split at e
  · rename_i i j
    cases e
    cases ha.int_
    cases hb.int_
    exact op_lt pins s σ H _ _ v u Q I rx ry ⟨i, j, rfl, rfl, hq.now sm (.bl _)⟩
  · rename_i i j
    cases e
    cases ha.bl_
    cases hb.bl_
    cases (show v = Value.bool i from rx)
    cases (show u = Value.bool j from ry)
    exact PyProof.Rows.lt_bool ⟨.bl _, H, I, rfl, hq.now sm (.bl _)⟩
  · rename_i i j
    cases e
    obtain ⟨rfl, oa⟩ := ha.str_
    obtain ⟨rfl, ob⟩ := hb.str_
    exact op_lt_str pins s σ H _ _ v u Q I rx ry ⟨_, _, rfl, rfl, hq.now sm (.bl _)⟩
  · rename_i i j
    split at e
    · rename_i p q h1 h2
      cases e
      cases dInts_eq h1
      cases dInts_eq h2
      obtain ⟨pa, va, rfl, sa, ra, la, Ra⟩ := ha.tup_ sm
      obtain ⟨pb, vb, rfl, sb, rb, lb, Rb⟩ := hb.tup_ sm
      cases ra.ints
      cases rb.ints
      exact op_ltT (by omega) pins s σ H _ _ v u Q I rx ry ⟨pa, pb, p, q, rfl, rfl, sa, sb, hq.now sm (.bl _)⟩
    · exact lt_G hu I (ha.dp sm) (hb.dp sm) rx ry ha.lay hb.lay e (fun z => hq.now sm (.bl _))
  · exact lt_G hu I (ha.dp sm) (hb.dp sm) rx ry ha.lay hb.lay e (fun z => hq.now sm (.bl _))
  · cases e
theorem op_leM : OpR X (compareOp .LtE) (rB X.K fun a b => (cop .le a b).map .bl) := by
  intro pins s σ H x y v u Q I rx ry h
  obtain ⟨Hf, a, b, d, sm, ha, hb, e0, hq⟩ := h
  obtain ⟨k, e, rfl⟩ := omap e0
  cases a <;> cases b <;> first
    | (cases e; done)
    | (rename_i i j
       cases e
       cases ha.int_
       cases hb.int_
       exact op_le pins s σ H _ _ v u Q I rx ry ⟨i, j, rfl, rfl, hq.now sm (.bl _)⟩)
theorem op_geM : OpR X (compareOp .GtE) (rB X.K fun a b => (cop .ge a b).map .bl) := by
  intro pins s σ H x y v u Q I rx ry h
  obtain ⟨Hf, a, b, d, sm, ha, hb, e0, hq⟩ := h
  obtain ⟨k, e, rfl⟩ := omap e0
  cases a <;> cases b <;> first
    | (cases e; done)
    | (rename_i i j
       cases e
       cases ha.int_
       cases hb.int_
       exact op_ge pins s σ H _ _ v u Q I rx ry ⟨i, j, rfl, rfl, hq.now sm (.bl _)⟩)
theorem op_gtM : OpR X (compareOp .Gt) (rB X.K fun a b => (cop .gt a b).map .bl) := by
  intro pins s σ H x y v u Q I rx ry h
  obtain ⟨Hf, a, b, d, sm, ha, hb, e0, hq⟩ := h
  obtain ⟨k, e, rfl⟩ := omap e0
  cases a <;> cases b <;> first
    | (cases e; done)
    | (rename_i i j
       cases e
       cases ha.int_
       cases hb.int_
       exact op_gt pins s σ H _ _ v u Q I rx ry ⟨i, j, rfl, rfl, hq.now sm (.bl _)⟩)
    | (rename_i i j
       cases e
       obtain ⟨rfl, oa⟩ := ha.str_
       obtain ⟨rfl, ob⟩ := hb.str_
       exact op_gt_str pins s σ H _ _ v u Q I rx ry ⟨_, _, rfl, rfl, hq.now sm (.bl _)⟩)
/-- None or not -/
theorem RepB.isN {K : PySem.W.Frag} {Hf H : Hp} {v : V} {d : D} (h : RepB K Hf H v d) : decide (v = .non) = (match d with | .non => true | _ => false) := by
  rcases h with h | ⟨_, _, _, rfl, rfl, _⟩
  · cases h <;> rfl
  · rfl
theorem op_isM : OpR X (compareOp .Is) (rB X.K fun a b => (cop .is a b).map .bl) := by
  intro pins s σ H x y v u Q I rx ry h
  obtain ⟨Hf, a, b, d, sm, ha, hb, e0, hq⟩ := h
  obtain ⟨k, e, rfl⟩ := omap e0
  cases b
  case non =>
    cases hb.non_
    refine op_isN pins s σ H _ _ v u Q I rx ry ⟨rfl, ?_⟩
    have q := ha.isN
    cases a <;> (cases e; rw [q]; exact hq.now sm (.bl _))
  case bl y' =>
    cases e
    cases hb.bl_
    cases (show u = Value.bool y' from ry)
    have other : (∀ b, x ≠ .bl b) → Q (.bl false) H → wpAny (model X.prog X.w) X.A (compareOp .Is v (.bool y')) (EP X pins σ Q) X.xe s := fun hn q => by
      cases x with
      | bl b => exact absurd rfl (hn b)
      | non => cases rx; exact wpAny_is_other rfl (fun z => nomatch z) ⟨.bl false, H, I, rfl, q⟩
      | ref a => cases rx; exact wpAny_is_other rfl (fun z => nomatch z) ⟨.bl false, H, I, rfl, q⟩
      | ty n => cases rx; exact wpAny_is_other rfl (fun z => nomatch z) ⟨.bl false, H, I, rfl, q⟩
      | int i => obtain ⟨t, rfl⟩ := rx; exact wpAny_is_other rfl (fun z => nomatch z) ⟨.bl false, H, I, rfl, q⟩
      | str i => obtain ⟨t, rfl⟩ := rx; exact wpAny_is_other rfl (fun z => nomatch z) ⟨.bl false, H, I, rfl, q⟩
      | byt i => obtain ⟨t, rfl⟩ := rx; exact wpAny_is_other rfl (fun z => nomatch z) ⟨.bl false, H, I, rfl, q⟩
      | flt i => obtain ⟨t, rfl⟩ := rx; exact wpAny_is_other rfl (fun z => nomatch z) ⟨.bl false, H, I, rfl, q⟩
    cases a with
    | bl b =>
      cases ha.bl_
      refine op_isBl pins s σ H _ _ v _ Q I rx ry ⟨b, y', rfl, rfl, ?_⟩
      have e2 : decide (b = y') = (b == y') := by cases b <;> cases y' <;> rfl
      rw [e2]
      exact hq.now sm (.bl _)
    | non => cases ha.non_; exact other (fun b z => nomatch z) (hq.now sm (.bl _))
    | int i => cases ha.int_; exact other (fun b z => nomatch z) (hq.now sm (.bl _))
    | str i => obtain ⟨rfl, _⟩ := ha.str_; exact other (fun b z => nomatch z) (hq.now sm (.bl _))
    | tup i => obtain ⟨_, _, rfl, _⟩ := ha.tup_ sm; exact other (fun b z => nomatch z) (hq.now sm (.bl _))
    | lst i => obtain ⟨_, _, rfl, _⟩ := ha.lst_ sm; exact other (fun b z => nomatch z) (hq.now sm (.bl _))
  all_goals cases e
theorem op_isNotM : OpR X (compareOp .IsNot) (rB X.K fun a b => (cop .isNot a b).map .bl) := by
  intro pins s σ H x y v u Q I rx ry h
  obtain ⟨Hf, a, b, d, sm, ha, hb, e0, hq⟩ := h
  obtain ⟨k, e, rfl⟩ := omap e0
  cases b
  case non =>
    cases hb.non_
    refine op_notN pins s σ H _ _ v u Q I rx ry ⟨rfl, ?_⟩
    have q := ha.isN
    cases a <;> (cases e; rw [q]; exact hq.now sm (.bl _))
  case bl y' =>
    cases e
    cases hb.bl_
    cases (show u = Value.bool y' from ry)
    have other : (∀ b, x ≠ .bl b) → Q (.bl true) H → wpAny (model X.prog X.w) X.A (compareOp .IsNot v (.bool y')) (EP X pins σ Q) X.xe s := fun hn q => by
      cases x with
      | bl b => exact absurd rfl (hn b)
      | non => cases rx; exact wpAny_isNot_other rfl (fun z => nomatch z) ⟨.bl true, H, I, rfl, q⟩
      | ref a => cases rx; exact wpAny_isNot_other rfl (fun z => nomatch z) ⟨.bl true, H, I, rfl, q⟩
      | ty n => cases rx; exact wpAny_isNot_other rfl (fun z => nomatch z) ⟨.bl true, H, I, rfl, q⟩
      | int i => obtain ⟨t, rfl⟩ := rx; exact wpAny_isNot_other rfl (fun z => nomatch z) ⟨.bl true, H, I, rfl, q⟩
      | str i => obtain ⟨t, rfl⟩ := rx; exact wpAny_isNot_other rfl (fun z => nomatch z) ⟨.bl true, H, I, rfl, q⟩
      | byt i => obtain ⟨t, rfl⟩ := rx; exact wpAny_isNot_other rfl (fun z => nomatch z) ⟨.bl true, H, I, rfl, q⟩
      | flt i => obtain ⟨t, rfl⟩ := rx; exact wpAny_isNot_other rfl (fun z => nomatch z) ⟨.bl true, H, I, rfl, q⟩
    cases a with
    | bl b =>
      cases ha.bl_
      refine op_notBl pins s σ H _ _ v _ Q I rx ry ⟨b, y', rfl, rfl, ?_⟩
      have e2 : (!decide (b = y')) = !(b == y') := by cases b <;> cases y' <;> rfl
      rw [e2]
      exact hq.now sm (.bl _)
    | non => cases ha.non_; exact other (fun b z => nomatch z) (hq.now sm (.bl _))
    | int i => cases ha.int_; exact other (fun b z => nomatch z) (hq.now sm (.bl _))
    | str i => obtain ⟨rfl, _⟩ := ha.str_; exact other (fun b z => nomatch z) (hq.now sm (.bl _))
    | tup i => obtain ⟨_, _, rfl, _⟩ := ha.tup_ sm; exact other (fun b z => nomatch z) (hq.now sm (.bl _))
    | lst i => obtain ⟨_, _, rfl, _⟩ := ha.lst_ sm; exact other (fun b z => nomatch z) (hq.now sm (.bl _))
  all_goals cases e

/-! ### text * int -/
theorem fold_rep {α : Type} (cs : List α) : ∀ (m : Nat) (acc : Array α), List.foldl (fun x1 x2 => x1 ++ x2) acc (List.replicate m cs.toArray) = acc ++ (List.replicate m cs).flatten.toArray
  | 0, acc => by simp
  | m + 1, acc => by
    rw [List.replicate_succ, List.foldl_cons, fold_rep cs m, List.replicate_succ, List.flatten_cons]
    apply Array.toList_inj.mp
    simp
theorem rep_len {α : Type} (cs : List α) (m : Nat) : (List.replicate m cs).flatten.length = m * cs.length := by
  induction m with
  | zero => simp
  | succ m ih => rw [List.replicate_succ, List.flatten_cons, List.length_append, ih, Nat.succ_mul]; omega
theorem op_repS : OpR X (binaryOp .Mult) (fun x y H Q => ∃ (cs : List Nat) (j : Int), x = .str (sOf cs) ∧ y = .int j ∧ (-1000 < j ∧ j < 1000 ∧ cs.length ≤ 1000) ∧ Q (.str (sOf (List.replicate j.toNat cs).flatten)) H) := by
  intro pins s σ H x y v u Q I rx ry h
  obtain ⟨cs, j, rfl, rfl, ⟨h1, h2, h3⟩, q⟩ := h
  obtain ⟨t, rfl⟩ := rx
  obtain ⟨t2, rfl⟩ := ry
  have hl : (sOf cs).length = cs.length := sOf_len cs
  have hz : (List.replicate j.toNat cs).flatten.length ≤ 1000000 := by
    rw [rep_len]
    have : j.toNat * cs.length ≤ 1000 * 1000 := Nat.mul_le_mul (by omega) h3
    omega
  have hzl : (List.replicate j.toNat cs).flatten.length ≤ sizeLine := by rw [sizeLine_eq]; omega
  refine PySem.P.mul_str ?_ (fun h4 h5 => ?_) (fun h4 h5 => ?_) ?_
  · rw [decide_eq_false (by omega), decide_eq_false (by omega)]
    rfl
  · rw [hl]
    have : (1000 : Int) ≤ (2 ^ 63 - 1) / j := by
      rw [Int.le_ediv_iff_mul_le (by omega)]
      omega
    omega
  · rw [hl]
    rw [rep_len, Nat.mul_comm] at hz
    show decide (cs.length * j.toNat > sizeLine) = false
    rw [decide_eq_false_iff_not, sizeLine_eq]
    omega
  · by_cases h4 : j < 1
    · rw [if_pos h4]
      have e : sOf (List.replicate j.toNat cs).flatten = Str.empty := by
        have : j.toNat = 0 := by omega
        rw [this] <;> rfl
      rw [e] at q
      exact ⟨by decide, .str Str.empty, H, I.tok _, ⟨_, rfl⟩, q⟩
    · rw [if_neg h4]
      split
      · rename_i h5
        have e : (List.replicate j.toNat cs).flatten = cs := by
          rcases Bool.or_eq_true_iff.mp h5 with h5 | h5
          · have : j.toNat = 1 := by
              have := beq_iff_eq.mp h5
              omega
            rw [this]
            simp
          · have : cs = [] := List.eq_nil_of_length_eq_zero (by rw [← hl]; exact beq_iff_eq.mp h5)
            subst this
            apply List.eq_nil_of_length_eq_zero
            rw [rep_len] <;> rfl
        rw [e] at q
        exact ⟨.str (sOf cs), H, I, ⟨t, rfl⟩, q⟩
      · have e : (⟨List.foldl (fun x1 x2 => x1 ++ x2) #[] (List.replicate j.toNat (sOf cs).cps)⟩ : Str) = sOf (List.replicate j.toNat cs).flatten := by
          show (⟨_⟩ : Str) = ⟨_⟩
          congr 1
          rw [fold_rep]
          simp
        rw [e]
        exact ⟨by rw [sOf_len]; exact hzl, .str _, H, I.tok _, ⟨_, rfl⟩, q⟩
/-! ### all of them by their names -/
def copP : COp → CmpOp
  | .eq => .Eq | .ne => .NotEq | .lt => .Lt | .le => .LtE | .gt => .Gt | .ge => .GtE | .isIn => .In | .notIn => .NotIn | .is => .Is | .isNot => .IsNot
theorem op_cop (hu : X.A.units + 64 < cLine) (o : COp) : OpR X (compareOp (copP o)) (rB X.K fun a b => (cop o a b).map .bl) := by
  cases o with
  | eq => exact op_eqM hu
  | ne => exact op_neM hu
  | lt => exact op_ltM hu
  | le => exact op_leM
  | gt => exact op_gtM
  | ge => exact op_geM
  | isIn => exact op_inM hu
  | notIn => exact op_notInM hu
  | is => exact op_isM
  | isNot => exact op_isNotM

theorem small_ok {i : Int} (h : small i = true) : -(2 ^ 64) < i ∧ i < 2 ^ 64 := by
  have h2 := Bool.and_eq_true_iff.mp h
  exact ⟨of_decide_eq_true h2.1, of_decide_eq_true h2.2⟩
def bopP : BOp → Operator
  | .add => .Add | .sub => .Sub | .mul => .Mult | .fdiv => .FloorDiv | .mod => .Mod | .pow => .Pow
theorem op_bop (o : BOp) : OpR X (binaryOp (bopP o)) (rB X.K (bop o)) := by
  cases o with
  | add => exact op_addM
  | sub =>
    intro pins s σ H x y v u Q I rx ry h
    obtain ⟨Hf, a, b, d, sm, ha, hb, e, hq⟩ := h
    cases a <;> cases b <;> first
      | (cases e; done)
      | (rename_i i j
         cases e
         cases ha.int_
         cases hb.int_
         exact op_sub pins s σ H _ _ v u Q I rx ry ⟨i, j, rfl, rfl, hq.now sm (.int _)⟩)
  | mul =>
    intro pins s σ H x y v u Q I rx ry h
    obtain ⟨Hf, a, b, d, sm, ha, hb, e, hq⟩ := h
    cases a <;> cases b <;> first
      | (cases e; done)
      | (rename_i i j
         have e : (if small i || small j then some (D.int (i * j)) else none) = some d := e
         split at e
         · rename_i hs
           cases e
           cases ha.int_
           cases hb.int_
           refine op_mul pins s σ H _ _ v u Q I rx ry ⟨i, j, rfl, rfl, ?_, hq.now sm (.int _)⟩
           rcases Bool.or_eq_true_iff.mp hs with h | h
           · exact .inl (small_ok h)
           · exact .inr (small_ok h)
         · cases e)
      | (rename_i cs j
         have e : (if -1000 < j ∧ j < 1000 ∧ cs.length ≤ 1000 then some (D.str (List.replicate j.toNat cs).flatten) else none) = some d := e
         split at e
         · rename_i hs
           cases e
           obtain ⟨rfl, oa⟩ := ha.str_
           cases hb.int_
           refine op_repS pins s σ H _ _ v u Q I rx ry ⟨cs, j, rfl, rfl, hs, hq.now sm (.str (okS_mk ?_ fun c hc => ?_))⟩
           · rw [rep_len]
             have : j.toNat * cs.length ≤ 1000 * 1000 := Nat.mul_le_mul (by omega) hs.2.2
             exact this
           · obtain ⟨l, hl, hc⟩ := List.mem_flatten.mp hc
             rw [List.eq_of_mem_replicate hl] at hc
             exact okS_all oa c hc
         · cases e)
  | fdiv =>
    intro pins s σ H x y v u Q I rx ry h
    obtain ⟨Hf, a, b, d, sm, ha, hb, e, hq⟩ := h
    cases a <;> cases b <;> first
      | (cases e; done)
      | (rename_i i j
         have e : (if j ≠ 0 ∧ j.natAbs < 1073741824 then some (D.int (i.fdiv j)) else none) = some d := e
         split at e
         · rename_i hs
           cases e
           cases ha.int_
           cases hb.int_
           exact op_fdivN pins s σ H _ _ v u Q I rx ry ⟨i, j, rfl, rfl, hs, hq.now sm (.int _)⟩
         · cases e)
  | mod =>
    intro pins s σ H x y v u Q I rx ry h
    obtain ⟨Hf, a, b, d, sm, ha, hb, e, hq⟩ := h
    cases a <;> cases b <;> first
      | (cases e; done)
      | (rename_i i j
         have e : (if j ≠ 0 then some (D.int (i.fmod j)) else none) = some d := e
         split at e
         · rename_i hs
           cases e
           cases ha.int_
           cases hb.int_
           exact op_modN pins s σ H _ _ v u Q I rx ry ⟨i, j, rfl, rfl, hs, hq.now sm (.int _)⟩
         · cases e)
  | pow =>
    intro pins s σ H x y v u Q I rx ry h
    obtain ⟨Hf, a, b, d, sm, ha, hb, e, hq⟩ := h
    cases a <;> cases b <;> first
      | (cases e; done)
      | (rename_i i j
         have e : (if 0 ≤ j ∧ j ≤ 1000 ∧ i.natAbs < 2 ^ 64 then some (D.int (i ^ j.toNat)) else none) = some d := e
         split at e
         · rename_i hs
           cases e
           cases ha.int_
           cases hb.int_
           exact op_pow pins s σ H _ _ v u Q I rx ry ⟨i, j, rfl, rfl, ⟨hs.1, by omega, hs.2.2⟩, hq.now sm (.int _)⟩
         · cases e)
end
end Mini
end

section
set_option Elab.async false
set_option linter.all false
set_option maxRecDepth 100000
set_option maxHeartbeats 2000000
/-! MB: max, min, sum of a tuple of ints. -/
namespace Mini
open PySem L2
section
variable {X : Cx}
theorem fold_maxOf : ∀ (xs : List Int) (x : Int), PySem.W.maxOf x xs = xs.foldl max x
  | [], x => rfl
  | y :: ys, x => by
    show PySem.W.maxOf (if decide (x < y) = true then y else x) ys = ys.foldl max (max x y)
    rw [fold_maxOf ys]
    congr 1
    by_cases h : x < y
    · rw [if_pos (decide_eq_true h), Int.max_eq_right (by omega)]
    · rw [if_neg (by simpa using h), Int.max_eq_left (by omega)]
theorem fold_minOf : ∀ (xs : List Int) (x : Int), PySem.W.minOf x xs = xs.foldl min x
  | [], x => rfl
  | y :: ys, x => by
    show PySem.W.minOf (if decide (y < x) = true then y else x) ys = ys.foldl min (min x y)
    rw [fold_minOf ys]
    congr 1
    by_cases h : y < x
    · rw [if_pos (decide_eq_true h), Int.min_eq_right (by omega)]
    · rw [if_neg (by simpa using h), Int.min_eq_left (by omega)]
theorem holds_int_ {h : Heap} {v : Value} {n : Int} (x : PySem.W.Holds h v n) : ∃ t, v = .int n t := by
  obtain ⟨as, r⟩ := x
  cases r with
  | int _ t => exact ⟨t, rfl⟩
theorem call_maxT (hc : X.calm = true) (hu : X.A.units + 64 < cLine) : CallR X (.builtin "max") (fun vs H Q => ∃ (a : Addr) (x : Int) (xs : List Int), vs = [V.ref a] ∧ SqT X.K H a ((x :: xs).map V.int) ∧ Q (.int (xs.foldl max x)) H) := by
  intro pins s σ H vs us Q I r h
  obtain ⟨a, x, xs, rfl, hs, q⟩ := h
  obtain ⟨its, rv, p, _⟩ := I.tuple hs
  rw [Vals.ref1 r]
  refine PySem.W.max_tuple_datum (α := Int) (I.ok.hd hc) p (PySem.W.HoldAll.of_ints (vs := its) (ns := x :: xs) rv.ints) (by show X.A.units + 1 + 0 < cLine; omega) fun i v h' tk hi hv hk => ?_
  obtain ⟨t, rfl⟩ := holds_int_ hv
  rw [fold_maxOf]
  exact ⟨.int _, H, I.kept hk, ⟨_, rfl⟩, q⟩
theorem call_minT (hc : X.calm = true) (hu : X.A.units + 64 < cLine) : CallR X (.builtin "min") (fun vs H Q => ∃ (a : Addr) (x : Int) (xs : List Int), vs = [V.ref a] ∧ SqT X.K H a ((x :: xs).map V.int) ∧ Q (.int (xs.foldl min x)) H) := by
  intro pins s σ H vs us Q I r h
  obtain ⟨a, x, xs, rfl, hs, q⟩ := h
  obtain ⟨its, rv, p, _⟩ := I.tuple hs
  rw [Vals.ref1 r]
  refine PySem.W.min_tuple_datum (α := Int) (I.ok.hd hc) p (PySem.W.HoldAll.of_ints (vs := its) (ns := x :: xs) rv.ints) (by show X.A.units + 1 + 0 < cLine; omega) fun i v h' tk hi hv hk => ?_
  obtain ⟨t, rfl⟩ := holds_int_ hv
  rw [fold_minOf]
  exact ⟨.int _, H, I.kept hk, ⟨_, rfl⟩, q⟩
theorem call_sumT (hc : X.calm = true) : CallR X (.builtin "sum") (fun vs H Q => ∃ (a : Addr) (ns : List Int), vs = [V.ref a] ∧ SqT X.K H a (ns.map V.int) ∧ Q (.int ns.sum) H) := by
  intro pins s σ H vs us Q I r h
  obtain ⟨a, ns, rfl, hs, q⟩ := h
  obtain ⟨its, rv, p, _⟩ := I.tuple hs
  rw [Vals.ref1 r]
  have hi := rv.ints
  obtain ⟨xs, e⟩ := hi.allInts.items
  have hn : PySem.numsOf (PySem.intItems xs).toList = ns := by rw [← e]; exact hi.numsOf
  rw [PySem.nums_intItems] at hn
  refine PySem.W.ktm_sumG (xs := xs) (I.ok.hd hc) (by rw [← e]; exact p) fun h' tk t' hk => ?_
  rw [PySem.preSum_eq, List.take_of_length_le (by simp), hn]
  exact ⟨.int _, H, I.kept hk, ⟨_, rfl⟩, q⟩
end
end Mini
end

section
set_option Elab.async false
set_option linter.all false
set_option maxRecDepth 100000
/-! M5: built-in functions. -/
namespace Mini
open PySem L2
inductive RepBs (K : PySem.W.Frag) (Hf H : Hp) : List V → List D → Prop
  | nil : RepBs K Hf H [] []
  | cons {v : V} {vs : List V} {d : D} {ds : List D} : RepB K Hf H v d → RepBs K Hf H vs ds → RepBs K Hf H (v :: vs) (d :: ds)
theorem RvsR.derefs {K : PySem.W.Frag} {c : C0} {ρ : En} {σ : L2.St} {Hf H : Hp} (r : R K c ρ σ Hf H) : ∀ {vs : List V} {rs : List Rv} {ds : List D}, RvsR K σ Hf vs rs → Mini.derefs ρ rs = some ds → RepBs K Hf H vs ds
  | _, _, ds, .nil, e => by cases e; exact .nil
  | _, _, ds, .cons (r := a) (rs := as) h t, e => by
    unfold Mini.derefs at e
    cases e1 : deref ρ a with
    | none => rw [e1] at e; cases e
    | some d =>
      cases e2 : Mini.derefs ρ as with
      | none => rw [e1, e2] at e; cases e
      | some es => rw [e1, e2] at e; cases e; exact .cons (h.deref r e1) (RvsR.derefs r t e2)
theorem RvsR.asDs {K : PySem.W.Frag} {σ : L2.St} {Hf : Hp} : ∀ {vs : List V} {rs : List Rv} {ds : List D}, RvsR K σ Hf vs rs → Mini.asDs rs = some ds → Reps K Hf vs ds
  | _, _, ds, .nil, e => by cases e; exact .nil
  | _, _, ds, .cons (r := .d a) (rs := as) h t, e => by
    have e1 : (Mini.asDs as).map (a :: ·) = some ds := e
    obtain ⟨k, h1, rfl⟩ := omap e1
    exact .cons h (RvsR.asDs t h1)
  | _, _, ds, .cons (r := .o a) (rs := as) h t, e => by cases e
theorem asD_eq {rv : Rv} {d : D} (h : asD rv = some d) : rv = .d d := by
  cases rv with
  | d x => cases h; rfl
  | o i => cases h
theorem asI_eq {x : D} {i : Int} (h : asI x = some i) : x = .int i := by
  cases x <;> cases h; rfl
theorem asB_eq {x : D} {i : Bool} (h : asB x = some i) : x = .bl i := by
  cases x <;> cases h; rfl

def rC (K : PySem.W.Frag) (f : List D → Option D) : List V → Hp → VK → Prop := fun xs H Q => ∃ Hf ds d, Same Hf H ∧ RepBs K Hf H xs ds ∧ f ds = some d ∧ Post K Hf H Q d
def biN : BI → Str
  | .len => "len" | .abs => "abs" | .min2 => "min" | .max2 => "max" | .min1 => "min" | .max1 => "max" | .sum => "sum" | .all => "all" | .any => "any" | .int => "int" | .str => "str" | .list => "list" | .tuple => "tuple" | .sorted => "sorted"
/-- what stands behind the name -/
def biV : BI → Value
  | .len => .builtin "len" | .abs => .builtin "abs" | .min2 => .builtin "min" | .max2 => .builtin "max" | .min1 => .builtin "min" | .max1 => .builtin "max" | .sum => .builtin "sum" | .all => .builtin "all" | .any => .builtin "any"
  | .int => .type "int" | .str => .type "str" | .list => .type "list" | .tuple => .type "tuple" | .sorted => .builtin "sorted"

theorem numL_ok {n : Nat} (h : n < 10 ^ 100) : okS (TL.numL n) = true := okS_mk (by
    have := TL.numL_len (k := 100) (by decide) h
    have : (100 : Nat) ≤ lim := by decide
    omega) fun c hc => by
  have := TL.numL_digits n c hc
  omega
theorem str_intS {i : Int} (h : i.natAbs < 10 ^ 100) : (Str.ofString (toString i)) = sOf (intS i) ∧ okS (intS i) = true := by
  cases i with
  | ofNat n =>
    have e : intS (Int.ofNat n) = TL.numL n := by
      unfold intS
      rw [if_neg (by simp)]
      rfl
    rw [e]
    exact ⟨TL.ext_tl (TL.tl_num n), numL_ok h⟩
  | negSucc n =>
    have e : intS (Int.negSucc n) = 45 :: TL.numL (n + 1) := by
      unfold intS
      rw [if_pos (Int.negSucc_lt_zero n)]
      rfl
    rw [e]
    refine ⟨TL.ext_tl ?_, okS_mk ?_ ?_⟩
    · rw [TL.tl_ofString]
      show ("-" ++ Nat.repr (n + 1)).toList.map Char.toNat = _
      rw [String.toList_append, List.map_append]
      show [45] ++ _ = 45 :: TL.numL (n + 1)
      rw [List.singleton_append]
      congr 1
      have q := TL.tl_num (n + 1)
      rw [TL.tl_ofString] at q
      exact q
    · have := TL.numL_len (k := 100) (by decide) (show n + 1 < 10 ^ 100 from h)
      have : (101 : Nat) ≤ lim := by decide
      rw [List.length_cons]
      omega
    · intro c hc
      rcases List.mem_cons.mp hc with rfl | hc
      · decide
      · have := TL.numL_digits _ c hc
        omega
theorem log_small {n : Nat} (h : n < 10 ^ 100) : n.log2 < 1920 := by
  by_cases hz : n = 0
  · subst hz; decide
  · rw [Nat.log2_lt hz]
    exact Nat.lt_of_lt_of_le h (by decide)
theorem digs {x : List Nat} (h : x.all isDig = true) : ∀ c ∈ x, 48 ≤ c ∧ c ≤ 57 := fun c hc => by
  have q := List.all_eq_true.mp h c hc
  unfold isDig at q
  rw [Bool.and_eq_true, decide_eq_true_eq, decide_eq_true_eq] at q
  exact q

section
variable {X : Cx}
theorem c_len : CallR X (.builtin "len") (rC X.K (bi .len)) := by
  intro pins s σ H xs us Q I r h
  obtain ⟨Hf, ds, d, sm, rs, e, hq⟩ := h
  unfold bi at e
  split at e <;> first
    | (cases e; done)
    | (rename_i x hx; cases hx; done)
    | skip
  all_goals first
    | (rename_i x hh
       cases e
       cases rs with
       | cons h t =>
         cases t
         obtain ⟨rfl, oa⟩ := h.str_
         refine call_len_str pins s σ H _ us Q I r ⟨_, rfl, okS_line oa, ?_⟩
         rw [sOf_len]
         exact hq.now sm (.int _))
    | (rename_i x hh
       cases e
       cases rs with
       | cons h t =>
         cases t
         obtain ⟨a, vs, rfl, sa, ra, _⟩ := h.tup_ sm
         refine call_len_seq pins s σ H _ us Q I r ⟨_, _, rfl, .inr sa, ?_⟩
         rw [ra.length]
         exact hq.now sm (.int _))
    | (rename_i x hh
       cases e
       cases rs with
       | cons h t =>
         cases t
         obtain ⟨a, vs, rfl, sa, ra, _⟩ := h.lst_ sm
         refine call_len_seq pins s σ H _ us Q I r ⟨_, _, rfl, .inl sa, ?_⟩
         rw [ra.length]
         exact hq.now sm (.int _))
    | simp_all
theorem c_abs : CallR X (.builtin "abs") (rC X.K (bi .abs)) := by
  intro pins s σ H xs us Q I r h
  obtain ⟨Hf, ds, d, sm, rs, e, hq⟩ := h
  unfold bi at e
  split at e <;> first
    | (cases e; done)
    | (rename_i x hh
       cases e
       cases rs with
       | cons h t =>
         cases t
         cases h.int_
         exact call_abs pins s σ H _ us Q I r ⟨_, rfl, hq.now sm (.int _)⟩)
    | simp_all
theorem c_max2 (hc : X.calm = true) : CallR X (.builtin "max") (rC X.K (bi .max2)) := by
  intro pins s σ H xs us Q I r h
  obtain ⟨Hf, ds, d, sm, rs, e, hq⟩ := h
  unfold bi at e
  split at e <;> first
    | (cases e; done)
    | (rename_i x y hh
       cases e
       cases rs with
       | cons h t =>
         cases t with
         | cons h2 t =>
           cases t
           cases h.int_
           cases h2.int_
           exact call_max2 hc pins s σ H _ us Q I r ⟨_, _, rfl, hq.now sm (.int _)⟩)
    | simp_all
theorem c_min2 (hc : X.calm = true) : CallR X (.builtin "min") (rC X.K (bi .min2)) := by
  intro pins s σ H xs us Q I r h
  obtain ⟨Hf, ds, d, sm, rs, e, hq⟩ := h
  unfold bi at e
  split at e <;> first
    | (cases e; done)
    | (rename_i x y hh
       cases e
       cases rs with
       | cons h t =>
         cases t with
         | cons h2 t =>
           cases t
           cases h.int_
           cases h2.int_
           exact call_min2 hc pins s σ H _ us Q I r ⟨_, _, rfl, hq.now sm (.int _)⟩)
    | simp_all
theorem c_all (hc : X.calm = true) : CallR X (.builtin "all") (rC X.K (bi .all)) := by
  intro pins s σ H xs us Q I r h
  obtain ⟨Hf, ds, d, sm, rs, e, hq⟩ := h
  unfold bi at e
  split at e <;> first
    | (cases e; done)
    | (rename_i x hh
       obtain ⟨bs, hb, rfl⟩ := omap e
       cases dBools_eq hb
       cases rs with
       | cons h t =>
         cases t
         obtain ⟨a, vs, rfl, sa, ra, _⟩ := h.lst_ sm
         cases ra.bls
         exact cr_all hc pins s σ H _ us Q I r ⟨_, bs, rfl, sa, hq.now sm (.bl _)⟩)
    | simp_all
theorem c_any (hc : X.calm = true) : CallR X (.builtin "any") (rC X.K (bi .any)) := by
  intro pins s σ H xs us Q I r h
  obtain ⟨Hf, ds, d, sm, rs, e, hq⟩ := h
  unfold bi at e
  split at e <;> first
    | (cases e; done)
    | (rename_i x hh
       obtain ⟨bs, hb, rfl⟩ := omap e
       cases dBools_eq hb
       cases rs with
       | cons h t =>
         cases t
         obtain ⟨a, vs, rfl, sa, ra, _⟩ := h.lst_ sm
         cases ra.bls
         exact cr_any hc pins s σ H _ us Q I r ⟨_, bs, rfl, sa, hq.now sm (.bl _)⟩)
    | simp_all
theorem c_sum (hc : X.calm = true) : CallR X (.builtin "sum") (rC X.K (bi .sum)) := by
  intro pins s σ H xs us Q I r h
  obtain ⟨Hf, ds, d, sm, rs, e, hq⟩ := h
  unfold bi at e
  split at e <;> first
    | (cases e; done)
    | (rename_i x hh
       obtain ⟨bs, hb, rfl⟩ := omap e
       cases dInts_eq hb
       cases rs with
       | cons h t =>
         cases t
         first
           | (obtain ⟨a, vs, rfl, sa, ra, _, _⟩ := h.tup_ sm
              cases ra.ints
              exact call_sumT hc pins s σ H _ us Q I r ⟨_, bs, rfl, sa, hq.now sm (.int _)⟩)
           | (obtain ⟨a, vs, rfl, sa, ra, _⟩ := h.lst_ sm
              cases ra.ints
              exact cr_sum hc pins s σ H _ us Q I r ⟨_, bs, rfl, sa, hq.now sm (.int _)⟩))
    | simp_all
theorem maxI_of {ns : List Int} {m k : Int} (h : maxI ns = some k) (hm : m ∈ ns) (hb : ∀ y ∈ ns, y ≤ m) : m = k := by
  have fold : ∀ (xs : List Int) (x : Int), xs.foldl max x ∈ x :: xs ∧ ∀ y ∈ x :: xs, y ≤ xs.foldl max x := fun xs => by
    induction xs with
    | nil => intro x; simp
    | cons z zs ih =>
      intro x
      obtain ⟨h1, h2⟩ := ih (max x z)
      rw [List.foldl_cons]
      constructor
      · rcases List.mem_cons.mp h1 with e | h1
        · rw [e]
          rcases Int.le_total x z with q | q
          · rw [Int.max_eq_right q]; simp
          · rw [Int.max_eq_left q]; simp
        · exact List.mem_cons_of_mem _ (List.mem_cons_of_mem _ h1)
      · intro y hy
        have h3 := h2 (max x z) (List.mem_cons_self ..)
        rcases List.mem_cons.mp hy with rfl | hy
        · exact Int.le_trans (Int.le_max_left ..) h3
        · rcases List.mem_cons.mp hy with rfl | hy
          · exact Int.le_trans (Int.le_max_right ..) h3
          · exact h2 y (List.mem_cons_of_mem _ hy)
  cases ns with
  | nil => cases h
  | cons x xs =>
    cases h
    obtain ⟨h1, h2⟩ := fold xs x
    exact Int.le_antisymm (h2 m hm) (hb _ h1)
theorem minI_of {ns : List Int} {m k : Int} (h : minI ns = some k) (hm : m ∈ ns) (hb : ∀ y ∈ ns, m ≤ y) : m = k := by
  have fold : ∀ (xs : List Int) (x : Int), xs.foldl min x ∈ x :: xs ∧ ∀ y ∈ x :: xs, xs.foldl min x ≤ y := fun xs => by
    induction xs with
    | nil => intro x; simp
    | cons z zs ih =>
      intro x
      obtain ⟨h1, h2⟩ := ih (min x z)
      rw [List.foldl_cons]
      constructor
      · rcases List.mem_cons.mp h1 with e | h1
        · rw [e]
          rcases Int.le_total x z with q | q
          · rw [Int.min_eq_left q]; simp
          · rw [Int.min_eq_right q]; simp
        · exact List.mem_cons_of_mem _ (List.mem_cons_of_mem _ h1)
      · intro y hy
        have h3 := h2 (min x z) (List.mem_cons_self ..)
        rcases List.mem_cons.mp hy with rfl | hy
        · exact Int.le_trans h3 (Int.min_le_left ..)
        · rcases List.mem_cons.mp hy with rfl | hy
          · exact Int.le_trans h3 (Int.min_le_right ..)
          · exact h2 y (List.mem_cons_of_mem _ hy)
  cases ns with
  | nil => cases h
  | cons x xs =>
    cases h
    obtain ⟨h1, h2⟩ := fold xs x
    exact Int.le_antisymm (hb _ h1) (h2 m hm)
theorem maxI_ne {ns : List Int} {k : Int} (h : maxI ns = some k) : 0 < ns.length := by
  cases ns with
  | nil => cases h
  | cons _ _ => simp
theorem minI_ne {ns : List Int} {k : Int} (h : minI ns = some k) : 0 < ns.length := by
  cases ns with
  | nil => cases h
  | cons _ _ => simp
theorem c_max1 (hc : X.calm = true) (hu : X.A.units + 64 < cLine) : CallR X (.builtin "max") (rC X.K (bi .max1)) := by
  intro pins s σ H xs us Q I r h
  obtain ⟨Hf, ds, d, sm, rs, e, hq⟩ := h
  unfold bi at e
  split at e <;> first
    | (cases e; done)
    | (rename_i x hh
       obtain ⟨bs, hb, e⟩ := Option.bind_eq_some_iff.mp e
       obtain ⟨k, hk, rfl⟩ := omap e
       cases dInts_eq hb
       cases rs with
       | cons h t =>
         cases t
         first
           | (obtain ⟨a, vs, rfl, sa, ra, _, _⟩ := h.tup_ sm
              cases ra.ints
              cases bs with
              | nil => cases hk
              | cons y ys =>
                cases hk
                exact call_maxT hc hu pins s σ H _ us Q I r ⟨_, y, ys, rfl, sa, hq.now sm (.int _)⟩)
           | (obtain ⟨a, vs, rfl, sa, ra, _⟩ := h.lst_ sm
              cases ra.ints
              refine cr_max hc pins s σ H _ us Q I r ⟨_, bs, rfl, sa, maxI_ne hk, fun m h1 h2 => ?_⟩
              rw [maxI_of hk h1 h2]
              exact hq.now sm (.int _)))
    | simp_all
theorem c_min1 (hc : X.calm = true) (hu : X.A.units + 64 < cLine) : CallR X (.builtin "min") (rC X.K (bi .min1)) := by
  intro pins s σ H xs us Q I r h
  obtain ⟨Hf, ds, d, sm, rs, e, hq⟩ := h
  unfold bi at e
  split at e <;> first
    | (cases e; done)
    | (rename_i x hh
       obtain ⟨bs, hb, e⟩ := Option.bind_eq_some_iff.mp e
       obtain ⟨k, hk, rfl⟩ := omap e
       cases dInts_eq hb
       cases rs with
       | cons h t =>
         cases t
         first
           | (obtain ⟨a, vs, rfl, sa, ra, _, _⟩ := h.tup_ sm
              cases ra.ints
              cases bs with
              | nil => cases hk
              | cons y ys =>
                cases hk
                exact call_minT hc hu pins s σ H _ us Q I r ⟨_, y, ys, rfl, sa, hq.now sm (.int _)⟩)
           | (obtain ⟨a, vs, rfl, sa, ra, _⟩ := h.lst_ sm
              cases ra.ints
              refine cr_min hc pins s σ H _ us Q I r ⟨_, bs, rfl, sa, minI_ne hk, fun m h1 h2 => ?_⟩
              rw [minI_of hk h1 h2]
              exact hq.now sm (.int _)))
    | simp_all
theorem c_str : CallR X (.type "str") (rC X.K (bi .str)) := by
  intro pins s σ H xs us Q I r h
  obtain ⟨Hf, ds, d, sm, rs, e, hq⟩ := h
  unfold bi at e
  split at e <;> first
    | (cases e; done)
    | (rename_i x hh
       split at e
       · rename_i hl
         cases e
         cases rs with
         | cons h t =>
           cases t
           cases h.int_
           obtain ⟨e1, e2⟩ := str_intS hl
           refine call_str_int pins s σ H _ us Q I r ⟨_, rfl, log_small hl, ?_⟩
           rw [e1]
           exact hq.now sm (.str e2)
       · cases e)
    | simp_all
theorem c_list : CallR X (.type "list") (rC X.K (bi .list)) := by
  intro pins s σ H xs us Q I r h
  obtain ⟨Hf, ds, d, sm, rs, e, hq⟩ := h
  unfold bi at e
  split at e <;> first
    | (cases e; done)
    | (rename_i x hh
       cases e
       cases rs with
       | cons h t =>
         cases t
         obtain ⟨a, vs, rfl, sa, ra, hl, _⟩ := h.tup_ sm
         exact call_list_of pins s σ H _ us Q I r ⟨_, _, rfl, .inr sa, hq.lst sm ra hl⟩)
    | (rename_i x hh
       cases e
       cases rs with
       | cons h t =>
         cases t
         obtain ⟨a, vs, rfl, sa, ra, hl⟩ := h.lst_ sm
         exact call_list_of pins s σ H _ us Q I r ⟨_, _, rfl, .inl sa, hq.lst sm ra hl⟩)
    | simp_all
theorem c_tuple : CallR X (.type "tuple") (rC X.K (bi .tuple)) := by
  intro pins s σ H xs us Q I r h
  obtain ⟨Hf, ds, d, sm, rs, e, hq⟩ := h
  unfold bi at e
  split at e <;> first
    | (cases e; done)
    | (rename_i x hh
       cases e
       cases rs with
       | cons h t =>
         cases t
         obtain ⟨a, vs, rfl, sa, ra, hl, Ra⟩ := h.tup_ sm
         exact call_tuple_of pins s σ H _ us Q I r ⟨_, _, rfl, .inr ⟨sa, hq.now sm Ra⟩⟩)
    | (rename_i x hh
       cases e
       cases rs with
       | cons h t =>
         cases t
         obtain ⟨a, vs, rfl, sa, ra, hl⟩ := h.lst_ sm
         exact call_tuple_of pins s σ H _ us Q I r ⟨_, _, rfl, .inl ⟨sa, hq.tup sm ra hl⟩⟩)
    | simp_all
theorem c_int : CallR X (.type "int") (rC X.K (bi .int)) := by
  intro pins s σ H xs us Q I r h
  obtain ⟨Hf, ds, d, sm, rs, e, hq⟩ := h
  cases rs with
  | nil => cases e
  | cons h t =>
    rename_i v vs x ds
    cases t with
    | cons _ _ => cases x <;> cases e
    | nil =>
      cases x with
      | non => cases e
      | tup _ => cases e
      | lst _ => cases e
      | int i =>
        cases e
        cases h.int_
        exact call_int1 pins s σ H _ us Q I r (.inl ⟨_, rfl, hq.now sm (.int _)⟩)
      | bl i =>
        cases e
        cases h.bl_
        exact call_int1 pins s σ H _ us Q I r (.inr ⟨_, rfl, hq.now sm (.int _)⟩)
      | str x =>
        obtain ⟨rfl, oa⟩ := h.str_
        have e : (if x.length ≤ 640 then (match x with
          | 45 :: cs => if cs ≠ [] ∧ cs.all isDig = true then some (D.int (-((digVal cs : Nat) : Int))) else none
          | _ => if x ≠ [] ∧ x.all isDig = true then some (.int (digVal x)) else none) else none) = some d := e
        split at e
        · rename_i hl
          split at e
          · rename_i cs _
            split at e
            · rename_i hc
              cases e
              exact call_int_str pins s σ H _ us Q I r ⟨_, _, rfl, PySem.intText_neg (cs := cs) rfl (digs hc.2) hc.1 (by rw [sOf_len]; omega), by rw [sOf_len]; exact hl, hq.now sm (.int _)⟩
            · cases e
          · split at e
            · rename_i hc
              cases e
              exact call_int_str pins s σ H _ us Q I r ⟨_, _, rfl, PySem.intText_digits (digs hc.2) hc.1 (by rw [sOf_len]; omega), by rw [sOf_len]; exact hl, hq.now sm (.int _)⟩
            · cases e
        · cases e
/-- all of them -/
theorem c_bi (hc : X.calm = true) (hu : X.A.units + 64 < cLine) : ∀ b : BI, CallR X (biV b) (rC X.K (bi b))
  | .len => c_len
  | .abs => c_abs
  | .min2 => c_min2 hc
  | .max2 => c_max2 hc
  | .sum => c_sum hc
  | .all => c_all hc
  | .any => c_any hc
  | .int => c_int
  | .str => c_str
  | .list => c_list
  | .tuple => c_tuple
  | .min1 => c_min1 hc hu
  | .max1 => c_max1 hc hu
  | .sorted => fun _ _ _ _ _ _ _ _ _ ⟨_, ds, _, _, _, e, _⟩ => by
    unfold bi at e
    split at e <;> first | (cases e; done) | simp_all
end
end Mini
end

section
set_option Elab.async false
set_option linter.all false
set_option maxRecDepth 100000
/-! M6: items, slices, methods of texts, isinstance. -/
namespace Mini
open PySem L2
section
variable {K : PySem.W.Frag} {Hf H : Hp}
theorem atI_rep {vs : List V} {ds : List D} {i : Int} {d : D} (r : Reps K Hf vs ds) (h : atI ds i = some d) : ∃ v, atI vs i = some v ∧ Rep K Hf v d := by
  unfold atI at h ⊢
  rw [r.length]
  cases e : ixN ds.length i with
  | none => rw [e] at h; cases h
  | some j =>
    rw [e] at h
    exact r.get (i := j) h
end
def rIxM (K : PySem.W.Frag) : R2 := fun x y H Q => ∃ Hf a i d, Same Hf H ∧ RepB K Hf H x a ∧ y = .int i ∧ atD a i = some d ∧ Post K Hf H Q d
def rSlM (K : PySem.W.Frag) : V → Option Int → Option Int → Hp → VK → Prop := fun x lo hi H Q => ∃ Hf a d, Same Hf H ∧ RepB K Hf H x a ∧ cutD a lo hi = some d ∧ Post K Hf H Q d
def rM (K : PySem.W.Frag) (f : D → List D → Option D) : V → List V → Hp → VK → Prop := fun x xs H Q => ∃ Hf a ds d, Same Hf H ∧ RepB K Hf H x a ∧ RepBs K Hf H xs ds ∧ f a ds = some d ∧ Post K Hf H Q d
theorem cutL_len {α : Type} (xs : List α) (lo hi : Option Int) : (cutL xs lo hi).length ≤ xs.length := by
  unfold cutL
  rw [List.length_take, List.length_drop]
  omega
theorem cutL_mem {α : Type} {xs : List α} {lo hi : Option Int} {x : α} (h : x ∈ cutL xs lo hi) : x ∈ xs := List.mem_of_mem_drop (List.mem_of_mem_take h)
section
variable {X : Cx}
theorem ix_M : IxR X (rIxM X.K) := by
  intro ve se pins s σ H x y v u Q I rx ry h hsub
  obtain ⟨Hf, a, i, d, sm, ha, rfl, e, hq⟩ := h
  cases a with
  | non => cases e
  | bl _ => cases e
  | int _ => cases e
  | str cs =>
    obtain ⟨rfl, oa⟩ := ha.str_
    obtain ⟨c, hc, rfl⟩ := omap e
    refine ix_str ve se pins s σ H _ _ v u Q I rx ry ⟨_, i, c, rfl, rfl, okS_line oa, hc, hq.now sm (.str (okS_mk (by show 1 ≤ lim; decide) fun z hz => ?_))⟩ hsub
    cases List.mem_singleton.mp hz
    obtain ⟨j, _, h2, _⟩ := atI_get hc
    exact okS_all oa _ (List.mem_of_getElem? h2)
  | tup ds =>
    obtain ⟨p, vs, rfl, sa, ra, _, _⟩ := ha.tup_ sm
    obtain ⟨w, h1, h2⟩ := atI_rep ra e
    exact ix_tup ve se pins s σ H _ _ v u Q I rx ry ⟨p, vs, i, w, rfl, rfl, sa, h1, hq.now sm h2⟩ hsub
  | lst ds =>
    obtain ⟨p, vs, rfl, sa, ra, _⟩ := ha.lst_ sm
    obtain ⟨w, h1, h2⟩ := atI_rep ra e
    exact ix_list ve se pins s σ H _ _ v u Q I rx ry ⟨p, vs, i, w, rfl, rfl, sa, h1, hq.now sm h2⟩ hsub
theorem cut_rep {K : PySem.W.Frag} {Hf : Hp} {vs : List V} {ds : List D} (r : Reps K Hf vs ds) (lo hi : Option Int) : Reps K Hf (cutV vs lo hi) (cutL ds lo hi) := by
  unfold cutV cutL
  rw [r.length]
  exact (r.drop _).take _
theorem cut_whole {α : Type} {xs : List α} {lo hi : Option Int} (h : HT.sIx xs.length 0 lo = 0 ∧ HT.sIx xs.length xs.length hi = xs.length) : cutL xs lo hi = xs := by
  unfold cutL
  rw [h.1, h.2]
  simp
theorem sl_M : SlR X (rSlM X.K) := by
  intro pins s σ H x v vl vu lo hi sl Q I rx hs pl pu h
  obtain ⟨Hf, a, d, sm, ha, e, hq⟩ := h
  cases a with
  | non => cases e
  | bl _ => cases e
  | int _ => cases e
  | str cs =>
    cases e
    obtain ⟨rfl, oa⟩ := ha.str_
    refine sl_str pins s σ H _ v vl vu lo hi sl Q I rx hs pl pu ⟨_, rfl, okS_line oa, ?_⟩
    have e : cutS (sOf cs) lo hi = sOf (cutL cs lo hi) := by
      unfold cutS cutL
      rw [sOf_len]
    rw [e]
    exact hq.now sm (.str (okS_mk (Nat.le_trans (cutL_len _ _ _) (okS_len oa)) fun c hc => okS_all oa c (cutL_mem hc)))
  | tup ds =>
    cases e
    obtain ⟨p, vs, rfl, sa, ra, hl, Ra⟩ := ha.tup_ sm
    refine sl_tupA pins s σ H _ v vl vu lo hi sl Q I rx hs pl pu ⟨p, vs, rfl, sa, fun w => ?_, fun _ => ?_⟩
    · rw [ra.length] at w
      rw [cut_whole w] at hq
      exact hq.now sm Ra
    · exact hq.tup sm (cut_rep ra lo hi) (Nat.le_trans (cutL_len _ _ _) hl)
  | lst ds =>
    cases e
    obtain ⟨p, vs, rfl, sa, ra, hl⟩ := ha.lst_ sm
    exact sl_list pins s σ H _ v vl vu lo hi sl Q I rx hs pl pu ⟨p, vs, rfl, sa, hq.lst sm (cut_rep ra lo hi) (Nat.le_trans (cutL_len _ _ _) hl)⟩

/-! ### methods of texts -/
theorem joinC_str (s : List Nat) : ∀ ys : List (List Nat), Txt.join (sOf s) (ys.map sOf) = sOf (joinC s ys) := fun ys => by
  rw [TL.join_eq]
  refine TL.ext_tl ?_
  rw [TL.tl_join]
  show TL.joinL s ((ys.map sOf).map TL.tl) = joinC s ys
  have e : (ys.map sOf).map TL.tl = ys := by
    rw [List.map_map]
    show ys.map id = ys
    exact List.map_id _
  rw [e]
  induction ys with
  | nil => rfl
  | cons y r ih =>
    cases r with
    | nil => rfl
    | cons z r =>
      show y ++ (s ++ TL.joinL s (z :: r)) = y ++ s ++ joinC s (z :: r)
      rw [List.append_assoc, ih (by
        rw [List.map_map]
        show (z :: r).map id = z :: r
        exact List.map_id _)]
theorem joinC_len (s : List Nat) : ∀ ys : List (List Nat), (ys.map (·.length)).sum + ys.length * s.length ≤ (joinC s ys).length + s.length
  | [] => by simp [joinC]
  | [x] => by simp [joinC]
  | x :: y :: r => by
    have ih := joinC_len s (y :: r)
    have e : (joinC s (x :: y :: r)).length = x.length + s.length + (joinC s (y :: r)).length := by
      show (x ++ s ++ joinC s (y :: r)).length = _
      rw [List.length_append, List.length_append]
    rw [e, List.map_cons, List.sum_cons]
    simp only [List.length_cons] at ih ⊢
    have : (r.length + 1 + 1) * s.length = (r.length + 1) * s.length + s.length := by rw [Nat.add_mul]; omega
    omega
theorem joinC_mem (s : List Nat) : ∀ (ys : List (List Nat)) (c : Nat), c ∈ joinC s ys → c ∈ s ∨ ∃ y ∈ ys, c ∈ y
  | [], c, h => by cases h
  | [x], c, h => .inr ⟨x, List.mem_cons_self .., h⟩
  | x :: y :: r, c, h => by
    have h : c ∈ x ++ s ++ joinC s (y :: r) := h
    rcases List.mem_append.mp h with h | h
    · rcases List.mem_append.mp h with h | h
      · exact .inr ⟨x, List.mem_cons_self .., h⟩
      · exact .inl h
    · rcases joinC_mem s (y :: r) c h with h | ⟨z, h1, h2⟩
      · exact .inl h
      · exact .inr ⟨z, List.mem_cons_of_mem _ h1, h2⟩
theorem reps_ok {K : PySem.W.Frag} {Hf : Hp} : ∀ {vs : List V} {ys : List (List Nat)}, Reps K Hf vs (ys.map .str) → ∀ y ∈ ys, okS y = true
  | _, [], _, y, h => by cases h
  | _, z :: ys, .cons a t, y, h => by
    rcases List.mem_cons.mp h with rfl | h
    · cases a; assumption
    · exact reps_ok t y h
theorem spl_split (c : Nat) : ∀ (l acc : List Nat), TL.spl [c] 0 acc l = splitC c acc l
  | [], acc => TL.spl_nil _ _ _
  | x :: xs, acc => by
    unfold splitC
    by_cases h : x = c
    · subst h
      rw [if_pos rfl, TL.spl_hit (by simp [TL.pre])]
      show acc :: TL.spl [x] 0 [] xs = _
      rw [spl_split x xs []]
    · rw [if_neg h, TL.spl_miss (TL.pre_of_head _ _ h), spl_split c xs]
theorem splitC_len (c : Nat) : ∀ (l acc : List Nat), (splitC c acc l).length ≤ l.length + 1
  | [], acc => by simp [splitC]
  | x :: xs, acc => by
    unfold splitC
    split
    · have := splitC_len c xs []
      simp only [List.length_cons]
      omega
    · have := splitC_len c xs (acc ++ [x])
      simp only [List.length_cons]
      omega
theorem splitC_mem (c : Nat) (P : Nat → Prop) : ∀ (l acc : List Nat), (∀ x ∈ l, P x) → (∀ x ∈ acc, P x) → ∀ y ∈ splitC c acc l, ∀ x ∈ y, P x
  | [], acc, _, h, y, hy => by
    cases List.mem_singleton.mp (show y ∈ [acc] from hy)
    exact h
  | a :: xs, acc, hl, h, y, hy => by
    unfold splitC at hy
    split at hy
    · rcases List.mem_cons.mp hy with rfl | hy
      · exact h
      · exact splitC_mem c P xs [] (fun x hx => hl x (List.mem_cons_of_mem _ hx)) (fun x hx => by cases hx) y hy
    · exact splitC_mem c P xs (acc ++ [a]) (fun x hx => hl x (List.mem_cons_of_mem _ hx)) (fun x hx => by
        rcases List.mem_append.mp hx with hx | hx
        · exact h x hx
        · cases List.mem_singleton.mp hx
          exact hl a (List.mem_cons_self ..)) y hy
theorem splitC_lens (c : Nat) : ∀ (l acc : List Nat), ∀ y ∈ splitC c acc l, y.length ≤ acc.length + l.length
  | [], acc, y, hy => by
    cases List.mem_singleton.mp (show y ∈ [acc] from hy)
    omega
  | a :: xs, acc, y, hy => by
    unfold splitC at hy
    split at hy
    · rcases List.mem_cons.mp hy with rfl | hy
      · omega
      · have := splitC_lens c xs [] y hy
        simp only [List.length_cons, List.length_nil] at this ⊢
        omega
    · have := splitC_lens c xs (acc ++ [a]) y hy
      rw [List.length_append] at this
      simp only [List.length_cons, List.length_nil] at this ⊢
      omega
def meId : ME → String
  | .join => "str.join" | .split => "str.split" | .startswith => "str.startswith" | .index => "str.index" | .count => "str.count"
def meN : ME → Str
  | .join => "join" | .split => "split" | .startswith => "startswith" | .index => "index" | .count => "count"
theorem mt_joinM : MtR X "str.join" (rM X.K (me .join)) := by
  intro pins s σ H x xs v us Q I rx rs h
  obtain ⟨Hf, a, ds, d, sm, ha, hs, e, hq⟩ := h
  unfold me at e
  split at e <;> try (cases e; done)
  all_goals (try (rename_i h0; cases h0; done))
  · rename_i z y _
    split at e
    · rename_i ys hy
      split at e
      · rename_i hl
        cases e
        obtain ⟨rfl, oa⟩ := ha.str_
        cases dStrs_eq hy
        cases hs with
        | cons h t =>
          cases t
          obtain ⟨p, vs, rfl, sa, ra, _⟩ := h.lst_ sm
          have ok := reps_ok ra
          cases ra.strs
          refine mt_join pins s σ H _ _ v us Q I rx rs ⟨_, p, _, rfl, rfl, .inl sa, ?_, ?_⟩
          · rw [List.map_map, List.length_map, sOf_len]
            have e : (ys.map ((fun x => x.length) ∘ sOf)) = ys.map (·.length) := List.map_congr_left fun y _ => sOf_len y
            rw [e]
            have h1 := joinC_len z ys
            have h2 := okS_len oa
            have h3 : lim + lim ≤ 16777216 := by decide
            omega
          · rw [joinC_str]
            refine hq.now sm (.str (okS_mk hl fun c hc => ?_))
            rcases joinC_mem z ys c hc with hc | ⟨y, h1, h2⟩
            · exact okS_all oa c hc
            · exact okS_all (ok y h1) c h2
      · cases e
    · cases e
theorem mt_splitM : MtR X "str.split" (rM X.K (me .split)) := by
  intro pins s σ H x xs v us Q I rx rs h
  obtain ⟨Hf, a, ds, d, sm, ha, hs, e, hq⟩ := h
  unfold me at e
  split at e <;> try (cases e; done)
  all_goals (try (rename_i h0; cases h0; done))
  · rename_i z c _
    split at e
    · rename_i hc
      cases e
      obtain ⟨rfl, oa⟩ := ha.str_
      cases hs with
      | cons h t =>
        cases t
        obtain ⟨rfl, ob⟩ := h.str_
        have hlen : z.length + 2 ≤ sizeLine := by
          have h1 := okS_len oa
          have h3 : lim + 2 ≤ sizeLine := by decide
          omega
        refine mt_split pins s σ H _ _ v us Q I rx rs ⟨_, _, rfl, rfl, by simp [sOf, Str.length], by rw [sOf_len]; exact hlen, ?_⟩
        have e1 : (Txt.split (sOf z) (sOf [c])).map TL.tl = splitC c [] z := by
          rw [TL.split_spl _ _ (by simp [TL.tl]) (TL.kind_ok (by simp [sOf]; omega))]
          exact spl_split c z []
        have e2 : Txt.split (sOf z) (sOf [c]) = (splitC c [] z).map sOf := by
          refine TL.map_tl_inj ?_
          rw [e1, List.map_map]
          show _ = (splitC c [] z).map id
          rw [List.map_id]
        rw [e2]
        have ok : ∀ y ∈ splitC c [] z, okS y = true := fun y hy => okS_mk (by
          have h1 := splitC_lens c z [] y hy
          have h2 := okS_len oa
          rw [List.length_nil] at h1
          omega) (splitC_mem c (· < 1114112) z [] (okS_all oa) (fun x hx => by cases hx) y hy)
        refine hq.lst sm (Reps.of_strs ok) ?_
        rw [List.length_map]
        have h1 := splitC_len c z []
        have h2 := hc.2
        omega
    · cases e
theorem pre_at (p s : List Nat) : Txt.startswith (sOf s) (sOf p) = p.isPrefixOf s := by
  unfold Txt.startswith
  rw [PySem.StrLaws.subAt_eq, sOf_len, sOf_len, Bool.eq_iff_iff, Bool.and_eq_true, decide_eq_true_eq, List.isPrefixOf_iff_prefix]
  simp only [sOf, List.drop_zero, beq_iff_eq]
  constructor
  · rintro ⟨_, h⟩
    rw [← h]
    exact List.take_prefix _ _
  · rintro ⟨t, rfl⟩
    exact ⟨by rw [List.length_append]; omega, by simp⟩
theorem mt_startM : MtR X "str.startswith" (rM X.K (me .startswith)) := by
  intro pins s σ H x xs v us Q I rx rs h
  obtain ⟨Hf, a, ds, d, sm, ha, hs, e, hq⟩ := h
  unfold me at e
  split at e <;> try (cases e; done)
  all_goals (try (rename_i h0; cases h0; done))
  · rename_i z p _
    cases e
    obtain ⟨rfl, oa⟩ := ha.str_
    cases hs with
    | cons h t =>
      cases t
      obtain ⟨rfl, ob⟩ := h.str_
      refine mt_startswith pins s σ H _ _ v us Q I rx rs ⟨_, _, rfl, rfl, ?_⟩
      rw [pre_at]
      exact hq.now sm (.bl _)
theorem idx_at {c : Nat} : ∀ {s : List Nat} {n : Nat}, idxC c s = some n → s[n]? = some c ∧ ∀ k, k < n → s[k]? ≠ some c
  | [], n, h => by cases h
  | x :: xs, n, h => by
    unfold idxC at h
    split at h
    · rename_i e
      cases h
      exact ⟨by rw [e] <;> rfl, fun k hk => absurd hk (Nat.not_lt_zero k)⟩
    · rename_i e
      obtain ⟨m, hm, rfl⟩ := omap h
      obtain ⟨h1, h2⟩ := idx_at hm
      refine ⟨by simpa using h1, fun k hk => ?_⟩
      cases k with
      | zero => simpa using e
      | succ k => simpa using h2 k (by omega)
theorem mt_indexM : MtR X "str.index" (rM X.K (me .index)) := by
  intro pins s σ H x xs v us Q I rx rs h
  obtain ⟨Hf, a, ds, d, sm, ha, hs, e, hq⟩ := h
  unfold me at e
  split at e <;> try (cases e; done)
  all_goals (try (rename_i h0; cases h0; done))
  · rename_i z c _
    obtain ⟨n, hn, rfl⟩ := omap e
    obtain ⟨rfl, oa⟩ := ha.str_
    cases hs with
    | cons h t =>
      cases t
      obtain ⟨rfl, ob⟩ := h.str_
      obtain ⟨h1, h2⟩ := idx_at hn
      rcases PySem.StrLaws.occ_head (sOf z) (sOf [c]) 1 (Nat.le_refl _) with ⟨_, q⟩ | ⟨i, r, eo, q1, q2⟩
      · exact absurd ((PySem.StrLaws.subAt_one (sOf z) c n).mpr h1) (q n)
      · have g1 : z[i]? = some c := (PySem.StrLaws.subAt_one (sOf z) c i).mp q1
        have g2 : i = n := by
          rcases Nat.lt_trichotomy i n with g | g | g
          · exact absurd g1 (h2 i g)
          · exact g
          · exact absurd ((PySem.StrLaws.subAt_one (sOf z) c n).mpr h1) (q2 n g)
        subst g2
        exact mt_sindex pins s σ H _ _ v us Q I rx rs ⟨_, _, i, r, rfl, rfl, eo, hq.now sm (.int _)⟩

/-! ### isinstance -/
def tyD : D → String
  | .non => "NoneType" | .bl _ => "bool" | .int _ => "int" | .str _ => "str" | .tup _ => "tuple" | .lst _ => "list"
theorem RepB.ty {K : PySem.W.Frag} {Hf H : Hp} {v : V} {d : D} (s : Same Hf H) (h : RepB K Hf H v d) : TyX K H v (.type (tyD d)) := by
  cases d with
  | non => cases h.non_; exact .base .non
  | bl b => cases h.bl_; exact .base (.bl b)
  | int b => cases h.int_; exact .base (.int b)
  | str b => obtain ⟨rfl, _⟩ := h.str_; exact .base (.str _)
  | tup ds =>
    obtain ⟨a, vs, rfl, sa, _⟩ := h.tup_ s
    rcases sa with (sa | ⟨o, sa⟩) | ⟨o, its, n, k1, k2, _⟩
    · exact .base (.tup sa)
    · exact .fTuple sa
    · exact .kTuple k1 k2
  | lst ds =>
    obtain ⟨a, vs, rfl, sa, _⟩ := h.lst_ s
    rcases sa with (sa | ⟨o, sa⟩) | ⟨o, its, n, k1, k2, _⟩
    · exact .base (.lst sa)
    · exact .base (.frz sa)
    · exact .kList k1 k2
def tyN : Ty → String
  | .int => "int" | .bool => "bool" | .str => "str" | .tup => "tuple" | .lst => "list" | .dic => "dict" | .non => "NoneType"
def isTyB (t : Ty) (n : String) : Bool := match t with
  | .int => n == "int" || n == "bool"
  | .bool => n == "bool" | .str => n == "str" | .tup => n == "tuple" | .lst => n == "list" | .dic => n == "dict" | .non => false
theorem isTy_B (t : Ty) (d : D) : isTy t d = isTyB t (tyD d) := by cases t <;> cases d <;> rfl
def tyNames : List String := ["NoneType", "bool", "int", "str", "tuple", "list"]
theorem tyD_mem (d : D) : tyD d ∈ tyNames := by cases d <;> simp [tyNames, tyD]
theorem kit_all : ∀ t ∈ [Ty.int, .bool, .str, .tup, .lst, .dic], ∀ n ∈ tyNames, kitB n (tyN t) = some (isTyB t n) := by decide +kernel
theorem kit_M {K : PySem.W.Frag} (t : Ty) (d : D) (h : t ≠ .non) : PySem.W.kitOne K (.type (tyD d)) (.type (tyN t)) = some (isTy t d) := by
  rw [isTy_B]
  exact kit_ty (kit_all t (by cases t <;> first | exact absurd rfl h | simp) _ (tyD_mem d))
theorem kits_M {K : PySem.W.Frag} (d : D) : ∀ ts : List Ty, (∀ t ∈ ts, t ≠ .non) → PySem.W.kitAny K (.type (tyD d)) (ts.map fun t => .type (tyN t)) = some (ts.any fun t => isTy t d)
  | [], _ => rfl
  | t :: ts, h => by
    have ih := kits_M (K := K) d ts fun t ht => h t (List.mem_cons_of_mem _ ht)
    refine kitAny_cons (kit_M t d (h t (List.mem_cons_self ..))) (fun e => ?_) (fun e => ?_)
    · rw [ih, List.any_cons, e, Bool.false_or]
    · rw [List.any_cons, e, Bool.true_or]
end
end Mini
end

section
set_option Elab.async false
set_option linter.all false
set_option maxRecDepth 100000
set_option maxHeartbeats 2000000
/-! MX: the program's own exceptions: class X(Y): def __init__(self, v): super().__init__('text'); self.f = v. -/
namespace Mini
open PySem L2 NdefX
/-- what __init__ promises -/
def spI (K : PySem.W.Frag) (C : Addr) (f : Str) : Sp := fun vs H Q _ => ∃ (a : Addr) (y : V), vs = [.ref a, y] ∧ H a = some (exo a C none) ∧ ∀ dx, H dx = none → dx ≠ a → Q .non (upd (upd H dx (exd dx [(f, y)])) a (exo a C (some dx)))
theorem upd_self {H : Hp} {a : Addr} {o : HO} (h : H a = some o) : upd H a o = H := by
  funext b
  by_cases hb : b = a
  · rw [hb, upd_same, h]
  · rw [upd_ne hb]
theorem cls_of_oex {K : PySem.W.Frag} {C : Addr} (T : OexC K C) : ∃ cd bm, PySem.W.clsIn K C = some cd ∧ cd.mro = .ref C :: bm ∧ PySem.HandSPX.refsVE bm = true := by
  obtain ⟨nm, q, N, bs, bm, sn, sub, ab, col, dd, k0, k1, k2, k3, k5, hC, hbm⟩ := T.cls
  exact ⟨{ name := nm, bases := bs, mro := .ref C :: bm, ns := N, qualname := q, hasDict := true, slotNames := sn, subclasses := sub, abstract := ab, collection := col, hasDel := false }, bm, by unfold PySem.W.clsIn; rw [hC] <;> rfl, rfl, hbm⟩
theorem mro_of_oex {K : PySem.W.Frag} {C : Addr} {b : Value} {cd : ClassData} {bm : List Value} (h1 : PySem.W.clsIn K C = some cd) (h2 : cd.mro = .ref C :: bm) (h3 : (Value.ref C :: bm).contains b = true) : PySem.W.mroIn K C b = some true := by
  unfold PySem.W.mroIn
  rw [h1, Option.bind_some, h2, h3]
  rfl
theorem drop_own (C : Addr) (l : List Value) : ((Value.ref C :: l).dropWhile (· != .ref C)).drop 1 = l := by
  rw [List.dropWhile_cons, if_neg (by simp)]
  rfl
section
variable {P : Program} {w : World} {A : Around} {E : Value → Shared → Prop} {h : Heap} {g : Array GenState} {d : Drawn} {t : Nat} {os : OsState}
/-- the wrapper of ValueError.__init__, called -/
theorem mw_call {u e t0 C : Addr} {rest : List Value} {Q : Value → Shared → Prop} {nm q : Str} {N : Addr} {bs bm : List Value} {hdct : Bool} {sn : List Str} {sub : List Value} {ab : Bool} {col : Option Bool} {dd : Option Addr} {k0 k1 k2 k3 k5 : Option Value}
    (hC : h.get? C = some (excClassObj nm q C N bs bm hdct sn sub ab col dd k0 k1 k2 k3 k5 "ValueError.__new__")) (he : h.get? e = some (PySem.W.excObj C t0 none .none)) (hu : h.get? u = some (PySem.W.kxs_mw "ValueError.__init__" e)) (hz : rest.length ≤ sizeLine)
    (hq : ∀ h' t1, (∀ b o, b ≠ e → h.get? b = some o → h'.get? b = some o) → h'.get? e = some (PySem.W.excObj C t1 none .none) → Q .none ⟨h', g, d, t, os⟩) :
    wpAny (model P w) A (call (.ref u) rest) Q E ⟨h, g, d, t, os⟩ := by
  refine wpAny_call (codeAny_of_tree ?_)
  show wpAny _ A.in1 (callAny (.ref u) ⟨rest, []⟩) _ _ _
  simp only [callAny]
  refine wpAny_bind (wpAny_load hu ?_)
  simp only [PySem.W.kxs_mw, show (Value.type "method-wrapper" == Value.type "method" || Value.type "method-wrapper" == Value.type "builtin_function_or_method" || Value.type "method-wrapper" == Value.type "method-wrapper") = true by decide, if_true]
  refine PySem.W.KFB.if_so (by decide) ?_
  refine wpAny_bind (PySem.W.check_bound_init PySem.F.excBase_ValueError.toExcCallFacts hC he rfl ?_)
  refine wpAny_bind (wpAny_pure (wpAny_pure ?_))
  refine ⟨PySem.plainId_quiet PySem.F.excBase_ValueError.init.plain _, codeAny_builtin PySem.F.excBase_ValueError.initEntry ?_⟩
  refine PySem.W.exc_init_tree (cls := .ref C) (t0 := t0) (dv := none) (c2 := .none) (c3 := .none) (b4 := .bool false) he hz fun h' k e' _ => hq h' _ k e'
end
theorem init_ok {P : Program} {w : World} {K : PySem.W.Frag} {mg : Str → Option Value} {base : Heap} {CX : CXT} {fI C cc cda : Addr} {name qual f n0 n1 txt file : Str} {params : Arguments} {body : List Stmt} {scope : Scope} {dV kV doc pm ct oc ccl cl : Value} {an od cdd cld : Option Addr} {osl ccs csl : Array (Option Value)}
    {vs : Array Value} {tf : Tok} {ar : Arg} {j : Nat} {p0 p1 p2 p3 p4 p5 q0 q1 q2 q3 : Pos} {k : Nat}
    (T : OexC K C) (lk : K.lookup fI = some ⟨oc, od, .func (PySem.W.ksFn name qual params body scope dV kV doc pm an (.ref cda) ct cc), osl⟩) (hcd : PySem.W.codeIn K (.ref cda) qual = true)
    (hcode : K.lookup cda = some ⟨ccl, cdd, .fields vs, ccs⟩) (hvs : vs[2]? = some (.str file tf)) (hfile : ((P.main.file : Str) == file) = true) (hcell : K.lookup cc = some ⟨cl, cld, .cell (some (.ref C)), csl⟩)
    (S : NScope [n0, n1, "__class__"] [n0, n1] ["__class__"] scope) (hks : scope.names.lookup ("super" : Str) = some .globalImplicit) (hpar : (params.posonlyargs ++ params.args).head? = some ar) (har : ar.arg = n0)
    (hb : body = [.Expr (.Call (.Attribute (.Call (.Name "super" p0) [] [] p1) "__init__" p2) [.Constant (.str txt) j p3] [] p4) p5, .Assign [.Attribute (.Name n0 q0) f q1] (.Name n1 q2) q3])
    (hline : (p2.endLine == p4.line) = true) (hn0 : (n0 == ("__debug__" : Str)) = false ∧ (n0 == ("__classdict__" : Str)) = false) (hn1 : (n1 == ("__debug__" : Str)) = false ∧ (n1 == ("__classdict__" : Str)) = false)
    (hsuper : mg "super" = none) (htop : (P.main.scope.names.lookup ("super" : Str)).isSome = false) (hop : PySem.W.nsIn K cStatics "thirdparty.any" = some none)
    (hal : ∀ cd bm, PySem.W.clsIn K C = some cd → cd.mro = .ref C :: bm → PySem.W.alongIn K "__init__" bm = some (some (.builtin "ValueError.__init__"))) (hve : PySem.W.subIn K (.ref C) (.type "ValueError") = some true) (hno : PySem.W.findIn K (.ref C) f = some none) :
    FnOk P w K mg base CX k fI (PySem.W.ksFn name qual params body scope dV kV doc pm an (.ref cda) ct cc) [n0, n1] (spI K C f) := by
  refine ⟨fun vs H Q E ⟨a, y, e, _⟩ => by rw [e]; rfl, fun A outer s H args us vs' Q E hr e0 hbind r hsp => ?_⟩
  obtain ⟨a, y, rfl, hea, hq⟩ := hsp
  cases r with
  | @cons _ u0 _ ur r0 rr =>
    cases rr with
    | @cons _ u _ ur2 ry rr =>
      cases rr
      obtain rfl : u0 = Value.ref a := r0
      have bs := e0.bs
      have KX : K.In s.heap := e0.mod.kin.keeps fun b o e => (bs b o e).1
      have lim : s.heap.NoLimit := e0.mod.nolimit.keeps fun b o e => (bs b o e).1
      refine ks_codeAny_call_defAt (fd := PySem.W.ksFn name qual params body scope dV kV doc pm an (.ref cda) ct cc) (body := body) (binds := [(n0, .ref a), (n1, u)]) hr.depth (KX _ _ lk) rfl lim (PySem.W.codeRec_of KX hcd) rfl hbind S.nocell (fun x hx => ?_) (fun h₁ hns kp => ?_) S.co S.gen S.kind
      · simp only [List.mem_cons, List.not_mem_nil, or_false] at hx
        rcases hx with rfl | rfl
        · exact S.par n0 (by simp)
        · exact S.par n1 (by simp)
      let F : NF := ⟨name, qual, params, body, scope, [("__class__", cc)], cda⟩
      have hccb := bs _ _ (e0.mod.kin _ _ hcell)
      have look : ∀ x c, ([("__class__", cc)] : List (Str × Addr)).lookup x = some c → x = "__class__" ∧ c = cc := fun x c e => by
        rw [List.lookup_cons] at e
        split at e
        · rename_i hx
          exact ⟨by simpa using hx, (Option.some.inj e).symm⟩
        · cases e
      have CA : CellsAt F.cl ["__class__"] [some (.ref C)] s.heap H := ⟨rfl, fun x c e => by
          obtain ⟨_, rfl⟩ := look x c e
          exact ⟨hccb.2, _, ⟨_, hccb.1, rfl⟩⟩, fun x1 x2 c e1 e2 => (look x1 c e1).1.trans (look x2 c e2).1.symm, fun i x e => by
          cases i with
          | zero =>
            cases e
            refine ⟨cc, rfl, fun v hv => ?_⟩
            cases hv
            exact ⟨.ref C, rfl, ⟨_, hccb.1, rfl⟩⟩
          | succ i => cases i <;> cases e⟩
      have I : Inv (ncx CX P w K mg base [n0, n1, "__class__"] F fI A outer s H E) [] (startF [n0, n1, "__class__"] [.ref a, y] [some (.ref C)]) H { s with heap := h₁, toks := s.toks + 2 } :=
        inv_startN (ps := [n0, n1]) S hr.hd e0 rfl (.cons rfl (.cons ry .nil)) CA hns kp
      have XK : K.In h₁ := KX.keeps kp
      obtain ⟨cd, bm, hcl, hmro, hbm⟩ := cls_of_oex T
      obtain ⟨nm, q, N, bs', bm', sn, sub, ab, col, dd, k0, k1, k2, k3, k5, hCo, _⟩ := T.cls
      obtain ⟨t1, ho⟩ := exo_at I.hok hea
      obtain ⟨oD, hD1, hD2⟩ : ∃ oD, h₁.get? C = some oD ∧ oD.data = .cls cd := by
        unfold PySem.W.clsIn at hcl
        split at hcl
        · rename_i c d cd' sl hk
          cases hcl
          exact ⟨_, XK _ _ hk, rfl⟩
        · cases hcl
      obtain ⟨mb, gb1, gb2⟩ := e0.mod.blt
      have up : ∀ b o, base.get? b = some o → h₁.get? b = some o := fun b o e => kp _ _ (bs b o e).1
      have hmf : (fun x => ([(n0, Value.ref a), (n1, u)] : List (Str × Value)).reverse.lookup x) n0 = some (.ref a) := by
        have nd := S.nd
        have hne : ¬ n0 = n1 := fun z => by rw [z] at nd; simp at nd
        have hb : (n0 == n1) = false := by simpa using hne
        show ([(n1, u), (n0, Value.ref a)] : List (Str × Value)).lookup n0 = _
        rw [List.lookup_cons, hb]
        simp
      have hxC : a ≠ C := fun z => by
        rw [z, hD1] at ho
        have z2 := Option.some.inj ho
        subst z2
        cases hD2
      show wpAt (model P w) (A.deeper (envF F fI s.heap.objs.size)) (.func body (envF F fI s.heap.objs.size)) (execs body (envF F fI s.heap.objs.size)) _ _ _
      have he : eval (.Call (.Attribute (.Call (.Name "super" p0) [] [] p1) "__init__" p2) [.Constant (.str txt) j p3] [] p4) (envF F fI s.heap.objs.size) = (do
          let ov ← attributeBase (.Call (.Name "super" p0) [] [] p1) "__init__" (envF F fI s.heap.objs.size) (eval (.Call (.Name "super" p0) [] [] p1) (envF F fI s.heap.objs.size))
          standAt p2.atName
          let (f, first) ← holding [ov] (getMethod ov "__init__" (plainOf (.Call (.Name "super" p0) [] [] p1) (envF F fI s.heap.objs.size)))
          callWith p4 f first (backTo p4 (starEach [.Constant (.str txt) j p3] (envF F fI s.heap.objs.size))) []) := by
        rw [arm_eval_Call]
        simp only [mcall_line (show methodCallForm ([Expr.Constant (.str txt) j p3].length + ([] : List Keyword).length) (backTo p4 (starEach [.Constant (.str txt) j p3] (envF F fI s.heap.objs.size))) (backToKw p4 (keywordEach [] (envF F fI s.heap.objs.size))) = true from rfl) hline]
        rfl
      conv => arg 4; rw [hb]
      refine ks_wpAt_execs_cons (ks_wpAt_Expr_any (ks_wpAt_MethodCall ?_ he) I.quiet rfl)
      refine ks_wpAt_super_base (f := fI) (cc := cda) (of := ⟨oc, od, .func (PySem.W.ksFn name qual params body scope dV kV doc pm an (.ref cda) ct cc), osl⟩) (oc := ⟨ccl, cdd, .fields vs, ccs⟩) (ar := ar) hks (S.frk _ (by simp)) (by decide) rfl (XK _ _ lk) rfl hpar rfl (XK _ _ hcode) rfl hvs hfile htop ?_
      refine PySem.W.ks_loadName_global S.kind hks (Calls.loadGlobal_builtin (e0.mod.glob.keeps up) hsuper (gb1.keeps up) ((gb2 _ (by decide +kernel)).trans (show bootBuiltins "super" = some (.type "super") by decide +kernel)) ⟨rfl, ?_⟩)
      refine wpAny_loadName_free S.kind (S.frk _ (by simp)) rfl ⟨_, XK _ _ hcell, rfl⟩ ?_
      refine wpAny_loadName_local (v := .ref a) S.kind (by rw [har]; exact S.par n0 (by simp)) hns (by rw [har]; exact hmf) ?_
      obtain ⟨sp, sg, sd, st, so⟩ := s
      refine ks_wpAny_isType_cls hD1 hD2 ⟨rfl, ?_⟩
      refine ks_wpAny_call_super hD1 hD2 ho rfl (fun c e => by cases e) (PySem.W.looks_mroIn XK (mro_of_oex hcl hmro (by simp))) (fun h2 e2 k2 => ?_)
      have XK2 : K.In h2 := XK.keeps k2
      have ho2 := k2 _ _ ho
      refine PySem.W.kxs_getMethod PySem.W.kxs_ValueError e2 (PySem.W.looks_opaque XK2 hop) (l₀ := cd.mro) ((PySem.W.looks_clsIn XK2 hcl).andThen .now) rfl XK2 (by rw [hmro, drop_own]; exact hal cd bm hcl hmro)
        ((PySem.W.InstAt.type (x := a) (od := none) ⟨ho2, rfl, rfl, trivial⟩).andThen (PySem.W.looks_subIn XK2 hve)) hxC (by decide) ?_
      have k3 : ∀ b o, h2.get? b = some o → (h2.push (PySem.W.kxs_mw "ValueError.__init__" a)).get? b = some o := fun b o e => Heap.get?_push_of_some _ e
      have J := I.kept (t' := st + 2 + 1) (h' := h2.push (PySem.W.kxs_mw "ValueError.__init__" a)) fun b o e => k3 b o (k2 b o e)
      refine PySem.W.kxs_callWith (i := "ValueError.__init__") (x := a) rfl ?_
      refine Calls.evalArgs_plain ?_
      show wpAny _ _ (spliced [(false, eval (.Constant (.str txt) j p3) _)]) _ _ _
      refine Calls.spliced_cons (Calls.Constant_str (Calls.spliced_nil ⟨?_, ?_⟩))
      · exact Heap.get?_push_at rfl rfl
      have hCo3 := XK2 _ _ hCo
      refine mw_call (k3 _ _ hCo3) (k3 _ _ ho2) (Heap.get?_push_at rfl rfl) (show (1 : Nat) ≤ sizeLine by rw [sizeLine_eq]; decide) fun h4 t4 k4 ho4 => ?_
      have J2 := (I.kept (t' := st + 2 + 1 + 1) (h' := h2.push (PySem.W.kxs_mw "ValueError.__init__" a)) fun b o e => k3 b o (k2 b o e)).write (t' := st + 2 + 1 + 1) (x := a) (e := a) (o := exo a C none) (by rw [hea]; exact True.intro) (.inl rfl) k4 ⟨_, ho4⟩ (exo_ok ho4)
      rw [upd_self hea] at J2
      refine wpAt_of_wpAny ?_
      have body2 := pss_one (ps_ost (f := f) (pos := q3) (p' := q1) (pe_var (X := ncx CX P w K mg base [n0, n1, "__class__"] F fI A outer ⟨sp, sg, sd, st, so⟩ H E) (i := 0) (x := n0) (pos := q0) rfl (.inl (S.par n0 (by simp))) hn0.1 hn0.2) (pe_var (i := 1) (x := n1) (pos := q2) rfl (.inl (S.par n1 (by simp))) hn1.1 hn1.2) rfl)
      refine wpAny_mono (body2.run [] _ _ H { nx := fun _ H' => Q .non H', rt := Q } J2 ⟨y, rfl, .ref a, rfl, a, C, rfl, T, hno, .inl ⟨hea, fun dx n1 n2 => hq dx n1 n2⟩⟩) (fun fl s' hs => ?_) fun e s' hs => hs
      have fin : ∀ {σ' : L2.St} {H' : Hp} {v : V} {u : Value}, Inv (ncx CX P w K mg base [n0, n1, "__class__"] F fI A outer ⟨sp, sg, sd, st, so⟩ H E) [] σ' H' s' → L2.RelV v u → Q v H' → CE outer P w H ⟨sp, sg, sd, st, so⟩ Q u s' :=
        fun {σ' H' v u} J rv q => ⟨v, H', J.os, J.bare, J.base, J.hok, rv, q⟩
      cases fl with
      | ret u =>
        obtain ⟨v, σ', H', J, rv, q⟩ := hs
        exact fin J rv q
      | next =>
        obtain ⟨σ', H', J, q⟩ := hs
        exact fin (v := V.non) (u := Value.none) J rfl q
      | brk =>
        obtain ⟨_, _, _, q⟩ := hs
        exact False.elim q
      | cont =>
        obtain ⟨_, _, _, q⟩ := hs
        exact False.elim q

/-- C(y): from the contract of its __init__ -/
theorem spI_mk {K : PySem.W.Frag} {C : Addr} {f : Str} {H1 : Hp} {y : V} {Q : L2.XK} (q : ∀ dx, H1 dx = none → Q (.ref C) (some dx) (upd H1 dx (.xd [(f, y)]))) :
    ([y].length ≤ 1000 ∧ ∀ a, H1 a = none → spI K C f (.ref a :: ([y] ++ [])) (upd H1 a (exo a C none)) (fun v H2 => v = .non ∧ ∃ (d : Addr) (fs : List (Str × V)), H2 a = some (exo a C (some d)) ∧ H2 d = some (exd d fs) ∧ H1 d = none ∧ Q (.ref C) (some d) (upd (del H2 a) d (.xd fs))) (fun _ _ _ => False)) := by
  refine ⟨by show (1 : Nat) ≤ 1000; decide, fun a ha => ⟨a, y, rfl, upd_same, fun dx hd hne => ⟨rfl, dx, [(f, y)], upd_same, ?_, ?_, ?_⟩⟩⟩
  · rw [upd_ne hne, upd_same]
  · rw [upd_ne hne] at hd
    exact hd
  · rw [upd_ne hne] at hd
    have e : upd (del (upd (upd (upd H1 a (exo a C none)) dx (exd dx [(f, y)])) a (exo a C (some dx))) a) dx (.xd [(f, y)]) = upd H1 dx (.xd [(f, y)]) := by
      funext b
      by_cases hb : b = dx
      · rw [hb, upd_same, upd_same]
      · rw [upd_ne hb, upd_ne hb]
        by_cases hba : b = a
        · rw [hba, del_same, ha]
        · rw [del_ne hba, upd_ne hba, upd_ne hb, upd_ne hba]
    rw [e]
    exact q dx hd
/-! ### isinstance of a caught exception that has a field -/
/-- what its class must say -/
structure XCl (K : PySem.W.Frag) (D : Addr) : Prop where
  cl : (PySem.W.clsIn K D).isSome = true
  ga : PySem.W.findIn K (.ref D) "__getattribute__" = some (some (.builtin "BaseException.__getattribute__"))
  gt : PySem.W.findIn K (.ref D) "__getattr__" = some none
  be : PySem.W.subIn K (.ref D) (.type "BaseException") = some true
  ca : PySem.W.findIn K (.ref D) "__class__" = some (some (.builtin "object.__class__"))
  cg : PySem.W.specialIn K (.builtin "object.__class__") "__get__" = some (some (.builtin "getset_descriptor.__get__"))
  ct : PySem.W.takesIn K (.builtin "object.__class__") = some true
  ob : PySem.W.mroIn K D (.type "object") = some true
def xclB (K : PySem.W.Frag) (D : Addr) : Bool := (PySem.W.clsIn K D).isSome && (decide (PySem.W.findIn K (.ref D) "__getattribute__" = some (some (.builtin "BaseException.__getattribute__"))) && (decide (PySem.W.findIn K (.ref D) "__getattr__" = some none) &&
  (decide (PySem.W.subIn K (.ref D) (.type "BaseException") = some true) && (decide (PySem.W.findIn K (.ref D) "__class__" = some (some (.builtin "object.__class__"))) && (decide (PySem.W.specialIn K (.builtin "object.__class__") "__get__" = some (some (.builtin "getset_descriptor.__get__"))) &&
  (decide (PySem.W.takesIn K (.builtin "object.__class__") = some true) && decide (PySem.W.mroIn K D (.type "object") = some true)))))))
theorem xclB_ok {K : PySem.W.Frag} {D : Addr} (h : xclB K D = true) : XCl K D := by
  unfold xclB at h
  simp only [Bool.and_eq_true, decide_eq_true_eq] at h
  obtain ⟨h1, h2, h3, h4, h5, h6, h7, h8⟩ := h
  exact ⟨h1, h2, h3, h4, h5, h6, h7, h8⟩
/-- the reading: a the caught exception, dx its dict -/
def rIsX (K : PySem.W.Frag) (D a dx : Addr) : List V → Hp → VK → Prop := fun xs H Q => ∃ (c : V) (cv : Value) (b : Bool) (fs : List (Str × V)), xs = [.ref a, c] ∧ (∀ u, RelV c u → u = cv) ∧ H dx = some (.xd fs) ∧ PySem.W.kitOne K (.ref D) cv = some b ∧ Q (.bl b) H
theorem call_isX {X : Cx} {a dx D : Addr} {oe : Obj} {pn : List (Addr × Obj)} (C : XCl X.K D) (hz : Zc (.ref D) (some dx) oe) (hf : ∃ vs, oe.data = .fields vs) : CallR (X.suite a ((a, oe) :: pn)) (.builtin "isinstance") (rIsX X.K D a dx) := by
  intro pins s σ H xs us Q I r h
  obtain ⟨c, cv, b, fs, rfl, hcv, hd, e, q⟩ := h
  cases r with
  | cons rx rr =>
    cases rr with
    | cons rt rr =>
      cases rr
      cases rx
      have ec := hcv _ rt
      subst ec
      obtain ⟨hget, _⟩ := I.pin (a, oe) (List.mem_append.mpr (.inl List.mem_cons_self))
      obtain ⟨vs, hv⟩ := hf
      have hx : ObjOk X.prog X.w H s.heap dx (.xd fs) := I.hok dx _ hd
      obtain ⟨mA, hns, _⟩ := hx
      obtain ⟨od, ho, _⟩ := lookIn_ns hns
      have J : PySem.W.InstAt s.heap a oe D (some od) := by
        obtain ⟨oc, odd, oda, osl⟩ := oe
        obtain ⟨h1, h2⟩ := hz
        dsimp only at h1 h2 hv
        subst h1 h2 hv
        exact ⟨hget, rfl, rfl, ho⟩
      exact PySem.W.kia_one (PySem.W.kitx_exc C.cl C.ga C.gt C.be C.ca C.cg C.ct C.ob) I.kIn J e (fun z => nomatch z) fun tk => ⟨.bl b, H, I.kept (t' := tk) fun _ _ z => z, rfl, q⟩
end Mini
end

section
set_option Elab.async false
set_option linter.all false
set_option maxRecDepth 100000
set_option maxHeartbeats 2000000
/-! MR: x[::-1] of lists, tuples, texts. -/
namespace Mini
open PySem L2 PyProof.Rows
section
variable {prog : Program} {w : World} {A : Around} {E : Value → Shared → Prop} {s : Shared}
theorem ad_rev (n : Nat) : Builtin.Slice.sliceAdjust none none (-1) (n : Int) = ((n : Int) - 1, -1) := by
  unfold Builtin.Slice.sliceAdjust
  have h1 : ((-1 : Int) < 0) := by omega
  simp only [h1, if_true]
theorem pl_rev (n : Nat) : Builtin.Slice.slicePlaces ((n : Int) - 1) (-1) (-1) = n := by
  unfold Builtin.Slice.slicePlaces
  have h1 : ¬ ((-1 : Int) > 0) := by omega
  simp only [h1, if_false]
  split
  · rw [show (- -1 : Int) = 1 by decide, Int.ediv_one]
    omega
  · omega
theorem fm_congr {α β : Type} {f g : α → Option β} : ∀ {l : List α}, (∀ x ∈ l, f x = g x) → l.filterMap f = l.filterMap g
  | [], _ => rfl
  | x :: l, h => by
    rw [List.filterMap_cons, List.filterMap_cons, h x (List.mem_cons_self ..), fm_congr fun y hy => h y (List.mem_cons_of_mem _ hy)]
theorem sa_rev {sl : Addr} {tk : Tok} {n : Nat} {Q : Int × Int × Nat → Shared → Prop} (hs : s.heap.IsSliceOf sl .none .none (.int (-1) tk)) (h : Q ((n : Int) - 1, -1, n) s) :
    wpAny (model prog w) A (Builtin.Slice.sliceApplied (.ref sl) (pure (n : Int))) Q E s := by
  obtain ⟨os, hos, hcs, hds⟩ := id hs
  unfold Builtin.Slice.sliceApplied Builtin.Slice.sliceFields
  refine wpAny_bind (wpAny_bind (wpAny_field hos hds (x := .none) rfl (wpAny_bind (wpAny_field hos hds (x := .none) rfl (wpAny_bind (wpAny_field hos hds (x := .int (-1) tk) rfl (wpAny_pure ?_)))))))
  refine wpAny_bind (HT.slicePart_ (.int _ _) ?_)
  show wpAny _ _ (if ((-1 : Int) == 0) = true then _ else _) _ _ s
  rw [if_neg (by decide)]
  refine wpAny_bind (HT.slicePart_ .none (wpAny_bind (HT.slicePart_ .none (wpAny_bind (wpAny_pure ?_)))))
  show wpAny _ _ (match Builtin.Slice.sliceAdjust none none (-1) (n : Int) with | (lo, hi) => pure (lo, (-1 : Int), Builtin.Slice.slicePlaces lo hi (-1))) _ _ s
  rw [ad_rev]
  show wpAny _ _ (pure ((n : Int) - 1, (-1 : Int), Builtin.Slice.slicePlaces ((n : Int) - 1) (-1) (-1))) _ _ s
  rw [pl_rev]
  exact wpAny_pure h
theorem pick_rev (xs : Array Value) : ((List.range xs.size).filterMap fun (m : Nat) => xs[(((xs.size : Int) - 1) + (m : Int) * (-1)).toNat]?).toArray = xs.toList.reverse.toArray := by
  have e : ((List.range xs.size).filterMap fun (m : Nat) => xs[(((xs.size : Int) - 1) + (m : Int) * (-1)).toNat]?) = ((List.range xs.size).map fun k => xs.size - 1 - k).filterMap (xs[·]?) := by
    rw [List.filterMap_map]
    refine fm_congr fun m hm => ?_
    have := List.mem_range.mp hm
    have e2 : (((xs.size : Int) - 1) + (m : Int) * (-1)).toNat = xs.size - 1 - m := by omega
    rw [e2]
    rfl
  rw [e, PySem.W.krv_range, List.filterMap_reverse, PySem.W.krv_all]
theorem gi_tup_rev {t sl : Addr} {items : Array Value} {tk : Tok} {Q : Value → Shared → Prop} (ht : IsTup s.heap t items) (hs : s.heap.IsSliceOf sl .none .none (.int (-1) tk))
    (h : Q (.ref s.heap.objs.size) { s with heap := s.heap.push { cls := .type "tuple", data := .seq items.toList.reverse.toArray } })
    (hsz : items.size ≤ sizeLine) : wpAny (model prog w) A (getItem (.ref t) (.ref sl)) Q E s := by
  have hok : sizeOk (.seq items.toList.reverse.toArray) := by
    show items.toList.reverse.toArray.size ≤ sizeLine
    rw [List.size_toArray, List.length_reverse, Array.length_toList]
    exact hsz
  obtain ⟨os, hos, hcs, hds⟩ := id hs
  have hTs : s.TypeIs (.ref sl) "slice" := ⟨os, hos, hcs⟩
  unfold getItem
  try with_reducible refine wpAny_holding ?_
  first | refine wpAny_bind (wpAny_pure ?_) | skip
  refine wpAny_bind (wpAny_sequenceKey ht.typeIs (by decide) ?_)
  refine wpAny_bind (wpAny_callSpecial?_slot (name := Str.ofString "__getitem__") ht.typeIs PyProof.Rows.slot_tuple_getitem
    (wpAny_call_entry PyProof.Rows.slot_tuple_getitem ht.typeIs entry_tuple_getitem ?_ (args_tuple_getitem _ _)))
  show wpAny _ _ (Builtin.Tuple.tupleItemsOf (.ref t) >>= _) _ _ s
  refine wpAny_bind (tupleItemsOf_ ht ?_)
  refine wpAny_bind (wpAny_typeOf hTs ?_)
  rw [if_pos (by decide)]
  refine wpAny_bind (sa_rev hs ?_)
  have hno : ¬ ((((items.size : Int) - 1) == 0 && (-1 : Int) == 1 && items.size == items.size) = true) := by
    intro q
    rw [Bool.and_eq_true, Bool.and_eq_true] at q
    exact absurd q.1.2 (by decide)
  show wpAny _ _ (if (((items.size : Int) - 1) == 0 && (-1 : Int) == 1 && items.size == items.size) = true then _ else _) _ _ s
  rw [if_neg hno, pick_rev]
  first
    | exact wpAny_bind (m := Builtin.Tuple.tupleExact _) (wpAny_newObj_type (wpAny_pure ⟨_, rfl, wpAny_pure h⟩) hok)
    | exact wpAny_bind (m := Builtin.Tuple.tupleExact _) (wpAny_newObj_type (wpAny_bind (wpAny_pure (wpAny_pure ⟨_, rfl, wpAny_pure h⟩))) hok)
    | exact wpAny_bind (wpAny_bind (m := Builtin.Tuple.tupleExact _) (wpAny_newObj_type (wpAny_pure (wpAny_pure ⟨_, rfl, wpAny_pure h⟩)) hok))
    | exact wpAny_bind (wpAny_bind (m := Builtin.Tuple.tupleExact _) (wpAny_newObj_type (wpAny_pure ⟨_, rfl, wpAny_pure h⟩) hok))
theorem gi_str_rev {x : Str} {t tk : Tok} {a : Addr} {Q : Value → Shared → Prop} (hs : s.heap.IsSliceOf a .none .none (.int (-1) tk)) (hz : x.length ≤ sizeLine) (h : ∀ t' k, Q (.str ⟨x.cps.toList.reverse.toArray⟩ t') { s with toks := k }) :
    wpAny (model prog w) A (getItem (.str x t) (.ref a)) Q E s := by
  refine wpAny_getItem_str_slice (l := none) (u := none) (st := some (-1, tk)) hs rfl ?_
  have e : sliceMade x t none none (some (-1, tk)) = .str ⟨((slicePicked x none none (some (-1, tk))).filterMap (x.cps[·]?)).toArray⟩ := by
    unfold sliceMade
    rw [if_neg]
    intro q
    rw [Bool.and_eq_true] at q
    have q1 : ((-1 : Int) == 1) = true := q.1
    exact absurd q1 (by decide)
  have e2 : slicePicked x none none (some (-1, tk)) = (List.range x.cps.size).reverse := by
    show sliceRange ((x.cps.size : Int) - 1) (-1) (-1) = _
    rw [PySem.W.krv_sliceRange, PySem.W.krv_range]
  have e3 : ((List.range x.cps.size).reverse.filterMap (x.cps[·]?)) = x.cps.toList.reverse := by
    rw [List.filterMap_reverse]
    congr 1
    rw [← Array.length_toList]
    have : ∀ l : List Nat, (List.range l.length).filterMap (fun i => l[i]?) = l := fun l => by
      apply List.ext_getElem?
      intro i
      have q : (List.range l.length).filterMap (fun i => l[i]?) = (List.range l.length).map fun i => l.getD i 0 := by
        rw [← List.filterMap_eq_map]
        refine fm_congr fun m hm => ?_
        have hm := List.mem_range.mp hm
        simp [hm]
      rw [q]
      by_cases hi : i < l.length
      · simp [hi]
      · simp [hi]
    have h2 := this x.cps.toList
    simpa using h2
  rw [e, e2, e3]
  exact ⟨by show x.cps.toList.reverse.toArray.size ≤ sizeLine; rw [List.size_toArray, List.length_reverse, Array.length_toList]; exact hz, h _ _⟩
end
def tRevM (K : PySem.W.Frag) (te : TE) : TE := fun σ H Q => te σ H fun x H1 => ∃ Hf a d, Same Hf H1 ∧ RepB K Hf H1 x a ∧ revD a = some d ∧ Post K Hf H1 Q d
theorem pe_revM {X : Cx} {e : Expr} {te : TE} {k : Nat} {p1 p2 p3 pos : Pos} (he : PE X e te) : PE X (.Subscript e (.Slice none none (some (.UnaryOp .USub (.Constant (.int 1) k p1) p2)) p3) pos) (tRevM X.K te) := by
  refine ⟨fun pins s σ H Q I h => ?_⟩
  refine Subscript_ (thn (he.run pins s σ H _ I h) fun v s1 ⟨x, H1, I1, r1, q1⟩ => ?_)
  obtain ⟨Hf, a, d, sm, ha, e, hq⟩ := q1
  have hst : PO X (some (.UnaryOp .USub (.Constant (.int 1) k p1) p2)) (tPart (tUn (rU fun i => .int (-i)) (tC (.int 1)))) := po_some (pe_un un_neg pe_int)
  refine wpAny_Slice (thn (po_none.run pins s1 σ H1 (fun o H2 => o = none ∧ H2 = H1) I1 ⟨rfl, rfl⟩) fun vl s2 ⟨l, H2, I2, pl, el, e2⟩ => ?_)
  subst el e2
  refine thn (po_none.run pins s2 σ H2 (fun o H3 => o = none ∧ H3 = H2) I2 ⟨rfl, rfl⟩) fun vu s3 ⟨u, H3, I3, pu, eu, e3⟩ => ?_
  subst eu e3
  refine thn (hst.run pins s3 σ H3 (fun o H4 => o = some (-1) ∧ H4 = H3) I3 ⟨1, rfl, -1, rfl, rfl, rfl⟩) fun vs s4 ⟨o, H4, I4, ps, eo, e4⟩ => ?_
  subst eo e4
  cases pl
  cases pu
  cases ps with
  | int _ tk =>
  have I5 : Inv X pins σ H4 { s4 with heap := s4.heap.push { cls := .type "slice", data := .fields #[.none, .none, .int (-1) tk] } } := I4.kept (t' := s4.toks) fun b ob q => Heap.get?_push_of_some _ q
  have hsl := Heap.IsSliceOf.new s4.heap .none .none (.int (-1) tk)
  cases a with
  | non => cases e
  | bl _ => cases e
  | int _ => cases e
  | lst ds =>
    cases e
    obtain ⟨p, ws, rfl, sa, ra, hl⟩ := ha.lst_ sm
    cases r1
    obtain ⟨its, r, ht, hz⟩ := I5.list sa
    have hlen := r.length
    show wpAny (model X.prog X.w) X.A (subscriptTail _ _ (.ref p) (.ref s4.heap.objs.size)) _ _ _
    refine tail_any (ops := [.ref p, .ref s4.heap.objs.size]) ht.isList.typeIs (PySem.slot_list_getitem.lookup) ?_ (by with_unfolding_all rfl)
    refine wpAny_getItem_list_slice ht.isList hsl .none .none (.int _ _) (by decide) ?_ (by rw [List.size_toArray]; omega)
    rw [PySem.W.krv_pick]
    refine ⟨.ref _, _, I5.laid (t' := s4.toks) (o := .lst ws.reverse) (fun b ob q => Heap.get?_push_of_some _ q) (Nat.le_refl _) ?_, rfl, hq.lst sm ra.rev (by rw [List.length_reverse]; exact hl) _ (I5.hok.fresh (Nat.le_refl _))⟩
    exact ⟨by rw [List.length_reverse]; exact hz, _, 0, r.reverse, Heap.get?_push_size _ rfl⟩
  | tup ds =>
    cases e
    obtain ⟨p, ws, rfl, sa, ra, hl, _⟩ := ha.tup_ sm
    cases r1
    obtain ⟨its, r, ht, hz⟩ := I5.tuple sa
    have hlen := r.length
    show wpAny (model X.prog X.w) X.A (subscriptTail _ _ (.ref p) (.ref s4.heap.objs.size)) _ _ _
    refine tail_any (ops := [.ref p, .ref s4.heap.objs.size]) ht.typeIs PyProof.Rows.slot_tuple_getitem.lookup ?_ (by with_unfolding_all rfl)
    refine gi_tup_rev ht hsl ?_ (by rw [List.size_toArray]; omega)
    refine ⟨.ref _, _, I5.laid (t' := s4.toks) (o := .tup ws.reverse) (fun b ob q => Heap.get?_push_of_some _ q) (Nat.le_refl _) ?_, rfl, hq.tup sm ra.rev (by rw [List.length_reverse]; exact hl) _ (I5.hok.fresh (Nat.le_refl _))⟩
    exact ⟨by rw [List.length_reverse]; exact hz, _, r.reverse, ⟨_, Heap.get?_push_size _ rfl, rfl, _, rfl⟩⟩
  | str cs =>
    cases e
    obtain ⟨rfl, oa⟩ := ha.str_
    obtain ⟨t, rfl⟩ := r1
    show wpAny (model X.prog X.w) X.A (subscriptTail _ _ (.str (sOf cs) t) (.ref s4.heap.objs.size)) _ _ _
    refine tail_any (ops := [.str (sOf cs) t, .ref s4.heap.objs.size]) (typeIs_str _ _ _) PySem.F.slot_str_getitem.lookup ?_ (by with_unfolding_all rfl)
    refine gi_str_rev hsl (okS_line oa) fun t' k => ?_
    refine ⟨.str (sOf cs.reverse), H4, I5.tok k, ⟨t', by simp [sOf]⟩, hq.now sm (.str (okS_mk (by rw [List.length_reverse]; exact okS_len oa) fun c hc => okS_all oa c (List.mem_reverse.mp hc)))⟩
end Mini
end

section
set_option Elab.async false
set_option linter.all false
set_option maxRecDepth 100000
set_option maxHeartbeats 4000000
/-! MV: list(reversed(x)), list.extend. -/
namespace Mini
open PySem PySem.Spec L2 PyProof.Rows RT
theorem rt_nolen : typeLookup (.type "reversed") "__len__" = pure none := by rw [typeLookup_type, builtinLookup_eq_fast]; kernel_rfl
theorem rt_hint : Slot "reversed" "__length_hint__" "reversed.__length_hint__" :=
  .of (owner := "reversed") (n := "__length_hint__") (by rw [typeLookup_type, builtinLookup_eq_fast]; kernel_rfl) (by decide +kernel) (by decide +kernel) (by decide +kernel)
    (by first | exact .inl (by decide +kernel) | exact .inr (by decide +kernel)) (by rw [isSubtype_type]; kernel_rfl)
theorem rt_hint_entry : entryFor table "reversed.__length_hint__" = some Builtin.«reversed.__length_hint__» := entryFor_of_tree (by kernel_rfl)
theorem rt_hint_args (a : Value) : argsOk "reversed.__length_hint__" ⟨[a], []⟩ := by
  unfold argsOk
  rw [signature?_of (id := "reversed.__length_hint__") (n := ("__length_hint__" : String).toList.reverse.reverse.reverse) (o := ['d', 'e', 's', 'r', 'e', 'v', 'e', 'r']) (by kernel_rfl) owner_rt]
  kernel_rfl
section
variable {prog : Program} {w : World} {A : Around} {E : Value → Shared → Prop} {s : Shared}
theorem rt_split : splitId "reversed.__length_hint__" = some ("reversed", "__length_hint__") := by decide +kernel
theorem hint_rt {it t : Addr} {items : Array Value} {Q : Bool → Shared → Prop} (hit : IsRt s.heap it t ((items.size : Int) - 1)) (ht : IsTup s.heap t items) (hsz : items.size ≤ sizeLine) (hQ : ∀ b tk, Q b { s with toks := tk }) :
    wpAny (model prog w) A (Builtin.List.listLengthHint (.ref it)) Q E s := by
  have hT := hit.typeIs
  obtain ⟨o, ho, hc, hd⟩ := id hit
  have hn := line63
  unfold Builtin.List.listLengthHint
  refine wpAny_bind (wpAny_specialOf hT rt_nolen ?_)
  show wpAny _ A (specialOf (Value.ref it) (Str.ofString "__length_hint__") >>= _) _ _ _
  refine wpAny_bind (wpAny_specialOf hT rt_hint.lookup ?_)
  generalize hid : ("reversed.__length_hint__" : String) = id0
  wp_delta
  rw [show splitId id0 = some ("reversed", "__length_hint__") from by subst hid; exact rt_split]
  subst hid
  refine wpAny_bind (wpAny_isInstance (b := true) hT (by rw [isSubtype_type]; kernel_rfl) ?_)
  refine wpAny_bind (wpAny_rule ?_)
  refine wpAny_bind (wpAny_of_eq (rt_hint.bind _) ?_)
  refine wpAny_bind (wpAny_attempt (wpAny_call_entry rt_hint hT rt_hint_entry ?_ (rt_hint_args _)))
  unfold Builtin.«reversed.__length_hint__»
  refine wpAny_bind (wpAny_of_eq (a := Value.ref it) rfl ?_)
  try dsimp only
  refine wpAny_bind (wpAny_field ho hd (x := .ref t) rfl ?_)
  try dsimp only
  rw [if_neg (show ¬ ((Value.ref t == Value.none) = true) from by simp)]
  refine wpAny_bind (len_tuple ht (by omega) ?_)
  refine wpAny_bind (wpAny_of_eq (a := some ((items.size : Nat) : Int)) rfl ?_)
  try dsimp only
  refine wpAny_bind (wpAny_field (s := { s with toks := s.toks + 1 + 1 }) ho hd (x := rawInt ((items.size : Int) - 1)) rfl ?_)
  show wpAny _ _ (if (items.size : Int) < ((items.size : Int) - 1) + 1 then _ else _) _ _ _
  rw [if_neg (by omega)]
  refine wpAny_bind (wpAny_mkInt ?_)
  refine wpAny_pure ⟨_, rfl, ?_⟩
  refine wpAny_bind (wpAny_of_eq (a := some ((items.size : Int) - 1 + 1)) rfl ?_)
  try dsimp only
  rw [if_neg (by
    have : Builtin.List.listFitsIndex ((items.size : Int) - 1 + 1) = true := by
      unfold Builtin.List.listFitsIndex
      rw [Bool.and_eq_true, decide_eq_true_eq, decide_eq_true_eq]
      omega
    rw [this]
    decide)]
  rw [if_neg (by omega)]
  rw [if_neg (by
    have : Builtin.List.listTooLong ((items.size : Int) - 1 + 1).toNat = false := notLongL (by omega)
    rw [this]
    decide)]
  exact wpAny_pure (hQ _ _)
theorem walks_rt (hh : A.handled = none) (I t : Addr) (hne : t ≠ I) (items : Array Value) (hz : items.size ≤ sizeLine) :
    Walks prog w A I [I, t] [I] items.size (fun i v => items[items.size - 1 - i]? = some v) (fun i h => i ≤ items.size ∧ IsRt h I t ((items.size : Int) - 1 - (i : Int)) ∧ IsTup h t items) where
  sub := fun b hb => by simp at hb; simp [hb]
  frame := fun _ _ _ x hk => ⟨x.1, x.2.1.at fun o e => hk I (by simp) o e, let ⟨o, ho, r⟩ := x.2.2; ⟨o, hk t (by simp) o ho, r⟩⟩
  item := fun i s Q E hi x hQ => by
    have e : (items.size : Int) - 1 - (i : Int) = ((items.size - 1 - i : Nat) : Int) := by omega
    have hit := x.2.1
    rw [e] at hit
    have hx : items[items.size - 1 - i]? = some (items[items.size - 1 - i]'(by omega)) := Array.getElem?_eq_getElem (by omega)
    refine next_rt_item hit x.2.2 hx hz fun h' hit' hs' => ?_
    have e2 : ((items.size - 1 - i : Nat) : Int) - 1 = (items.size : Int) - 1 - ((i + 1 : Nat) : Int) := by omega
    rw [e2] at hit'
    obtain ⟨o, ho, r⟩ := x.2.2
    exact hQ _ h' (s.toks + 1) hx ⟨hi, hit', ⟨o, (hs'.2 t hne).trans ho, r⟩⟩ fun b o hb eo => hs'.extBut b o (fun h => hb (by simp [h])) eo
  done := fun s Q E x hQ => by
    have e : (items.size : Int) - 1 - (items.size : Int) = -1 := by omega
    have hit := x.2.1
    rw [e] at hit
    exact next_rt_end hh hit fun h' he' => hQ h' s.toks fun b o hb eo => he' b o (fun h => hb (by simp [h])) eo
  self := fun _ _ _ _ x hQ => iter_rt x.2.1 hQ
end
section
variable {prog : Program} {w : World} {A : Around} {E : Value → Shared → Prop} {s : Shared} {R : Result → Shared → Prop}
theorem extend_rt (hh : A.in1.handled = none) {I t : Addr} {items : Array Value} (hne : t ≠ I) (hz : items.size ≤ sizeLine) (S : Addr) (res : Value) (c₀ : Nat) (hit : IsRt s.heap I t ((items.size : Int) - 1)) (ht : IsTup s.heap t items) (hSI : S ≠ I) (hSt : S ≠ t)
    (hS : s.heap.get? S = some { cls := .type "list", data := .seq #[] c₀ })
    (hR : ∀ h' tk acc' c', (∀ b o, b ≠ S → b ≠ I → s.heap.get? b = some o → h'.get? b = some o) → h'.get? S = some { cls := .type "list", dict := none, data := .seq acc' c', slots := #[] } →
      ItemsOf (fun i v => items[items.size - 1 - i]? = some v) acc' items.size → R (.ok (.ret res)) { s with heap := h', toks := tk }) :
    wpAny (model prog w) A.in1 (Builtin.List.listExtendWith (.ref S) (.ref I) res)
      (fun fin s' => match fin with | .done f => R (.ok f) s' | .again c' => c'.quiet = true ∧ codeAny (model prog w) A c' R s') (fun e s' => R (.error e) s') s := by
  have W := (walks_rt (prog := prog) (w := w) (A := A.in1) hh I t hne items hz).toS
  have hSf : S ∉ [I, t] := by simp only [List.mem_cons, List.not_mem_nil, or_false, not_or]; exact ⟨hSI, hSt⟩
  have hT := hit.typeIs
  unfold Builtin.List.listExtendWith
  refine wpAny_bind (wpAny_typeOf hT ?_)
  have h1 : Builtin.List.listSameRef (.ref S) (.ref I) = false := by simp [Builtin.List.listSameRef, hSI]
  rw [if_neg (by rw [h1]; decide)]
  refine wpAny_bind (iter_rt hit ?_)
  refine wpAny_bind (wpAny_holding ?_)
  refine hint_rt hit ht hz fun b tk => ?_
  have e0 : (items.size : Int) - 1 - ((0 : Nat) : Int) = (items.size : Int) - 1 := by omega
  have fin : ∀ (h2 : Heap) (c2 : Nat), (∀ b o, b ≠ S → s.heap.get? b = some o → h2.get? b = some o) → h2.get? S = some { cls := .type "list", data := .seq #[] c2 } →
      codeAny (model prog w) A (.builtin "list.extend.loop" ⟨[.ref S, .ref I, res], []⟩) R { s with heap := h2, toks := tk } := fun h2 c2 k e => by
    obtain ⟨ot, hot, rt⟩ := id ht
    have st0 : 0 ≤ items.size ∧ IsRt h2 I t ((items.size : Int) - 1 - ((0 : Nat) : Int)) ∧ IsTup h2 t items := ⟨Nat.zero_le _, by rw [e0]; exact hit.at fun o e => k I o (Ne.symm hSI) e, ⟨ot, k t ot (Ne.symm hSt) hot, rt⟩⟩
    refine codeAny_extend_loopS W hz _ hSf _ items.size 0 _ _ _ rfl (Nat.zero_le _) st0 e (ItemsOf.nil _) fun s' acc' c' hm hS' hacc => ?_
    rw [Moved.eq_with hm]
    refine hR s'.heap s'.toks acc' c' (fun b o hb1 hb2 e => hm.heap b o (fun hmem => ?_) (k b o hb1 e)) hS' hacc
    rcases List.mem_cons.mp hmem with e' | hmem
    · exact hb1 e'
    · exact hb2 (List.mem_singleton.mp hmem)
  cases b with
  | false => exact wpAny_pure ⟨plainId_quiet F.plain_extend_loop _, fin s.heap c₀ (fun _ _ _ e => e) hS⟩
  | true =>
    show wpAny _ A.in1 (rule "list.extend.makes-room" >>= fun _ => Builtin.List.listTouch (.ref S) >>= fun _ => again (.builtin "list.extend.loop" ⟨[.ref S, .ref I, res], []⟩)) _ _ _
    refine wpAny_bind (wpAny_rule ?_)
    refine wpAny_bind ?_
    show wpAny _ A.in1 (updateSeq S (·.push .none) >>= fun _ => updateSeq S (·.pop)) _ _ _
    refine wpAny_bind (wpAny_updateSeq hS rfl ?_)
    have hS₂ := Heap.get?_update_self (Obj.mapSeq (·.push Value.none)) hS rfl
    refine wpAny_updateSeq (hz := by seq_fits) hS₂ rfl ?_
    have hS₃ := Heap.get?_update_self (Obj.mapSeq (·.pop)) hS₂ rfl
    exact wpAny_pure ⟨plainId_quiet F.plain_extend_loop _, fin _ _ (fun b o hb e => (Heap.get?_update_other _ _ (Ne.symm hb)).trans ((Heap.get?_update_other _ _ (Ne.symm hb)).trans e)) hS₃⟩
theorem init_rt (hh : A.in1.handled = none) {I t : Addr} {items : Array Value} (hne : t ≠ I) (hz : items.size ≤ sizeLine) (S : Addr) (hit : IsRt s.heap I t ((items.size : Int) - 1)) (ht : IsTup s.heap t items) (hSI : S ≠ I) (hSt : S ≠ t)
    (hS : s.heap.get? S = some { cls := .type "list", data := .seq #[] })
    (hR : ∀ h' tk acc' c', (∀ b o, b ≠ S → b ≠ I → s.heap.get? b = some o → h'.get? b = some o) → h'.get? S = some { cls := .type "list", dict := none, data := .seq acc' c', slots := #[] } →
      ItemsOf (fun i v => items[items.size - 1 - i]? = some v) acc' items.size → R (.ok (.ret .none)) { s with heap := h', toks := tk }) :
    wpAny (model prog w) A.in1 (Builtin.«list.__init__» ⟨[.ref S, .ref I], []⟩)
      (fun fin s' => match fin with | .done f => R (.ok f) s' | .again c' => c'.quiet = true ∧ codeAny (model prog w) A c' R s') (fun e s' => R (.error e) s') s := by
  show wpAny _ A.in1 (do let old ← Builtin.List.listItems (.ref S); Builtin.List.listUpdate (.ref S) (fun _ => #[]); letGo old.toList.reverse; Builtin.List.listExtendWith (.ref S) (.ref I) .none) _ _ s
  refine wpAny_bind ?_
  unfold Builtin.List.listItems
  refine wpAny_bind (wpAny_seqItems hS rfl (wpAny_pure ?_))
  show wpAny _ A.in1 (updateSeq S (fun _ => #[]) >>= fun _ => letGo (#[] : Array Value).toList.reverse >>= fun _ => Builtin.List.listExtendWith (.ref S) (.ref I) .none) _ _ s
  refine wpAny_bind (wpAny_updateSeq hS rfl ?_)
  have hS₂ := Heap.get?_update_self (Obj.mapSeq (fun _ => (#[] : Array Value))) hS rfl
  have oth : ∀ b o, b ≠ S → s.heap.get? b = some o → (s.heap.update S (Obj.mapSeq (fun _ => (#[] : Array Value)))).get? b = some o :=
    fun b o hb e => (Heap.get?_update_other _ _ (Ne.symm hb)).trans e
  refine wpAny_bind (wpAny_letGo ?_)
  obtain ⟨ot, hot, rt⟩ := id ht
  exact extend_rt (s := { s with heap := s.heap.update S (Obj.mapSeq (fun _ => (#[] : Array Value))) }) hh hne hz S .none _ (hit.at fun o e => oth I o (Ne.symm hSI) e) ⟨ot, oth t ot (Ne.symm hSt) hot, rt⟩ hSI hSt hS₂ fun h' tk acc' c' k e i =>
    hR h' tk acc' c' (fun b o h1 h2 e => k b o h1 h2 (oth b o h1 e)) e i
theorem call_list_rt {Q : Value → Shared → Prop} (hh : A.handled = none) {I t : Addr} {items : Array Value} (hne : t ≠ I) (hz : items.size ≤ sizeLine) (hit : IsRt s.heap I t ((items.size : Int) - 1)) (ht : IsTup s.heap t items)
    (hQ : ∀ h' tk acc' c', (∀ b o, b ≠ I → s.heap.get? b = some o → h'.get? b = some o) → h'.get? s.heap.objs.size = some { cls := .type "list", dict := none, data := .seq acc' c', slots := #[] } →
      ItemsOf (fun i v => items[items.size - 1 - i]? = some v) acc' items.size → Q (.ref s.heap.objs.size) { s with heap := h', toks := tk }) :
    wpAny (model prog w) A (call (.type "list") [.ref I]) Q E s := by
  obtain ⟨oi, hoi, _⟩ := id hit
  obtain ⟨ot, hot, rt⟩ := id ht
  have hSI : s.heap.objs.size ≠ I := Nat.ne_of_gt (Heap.lt_size hoi)
  have hSt : s.heap.objs.size ≠ t := Nat.ne_of_gt (Heap.lt_size hot)
  refine callType_codes (Q₁ := fun obj s₁ => obj = .ref s.heap.objs.size ∧ s₁ = { s with heap := s.heap.push { cls := .type "list", data := .seq #[] } }) F.called_list (F.typeCall_list_1 _) F.entry_list_init
    (code_list_new _ ⟨rfl, rfl⟩) fun obj s₁ h₁ => ?_
  obtain ⟨rfl, rfl⟩ := h₁
  have hS : (s.heap.push { cls := .type "list", data := .seq #[] }).get? s.heap.objs.size = some { cls := .type "list", data := .seq #[] } := Heap.get?_push_size _ rfl
  refine ⟨⟨_, hS, rfl⟩, F.args_list_init_2 _ _, init_rt (A := A.in1) (s := { s with heap := s.heap.push { cls := .type "list", data := .seq #[] } }) hh hne hz _ (hit.at fun o e => Heap.get?_push_of_some _ e) ⟨ot, Heap.get?_push_of_some _ hot, rt⟩ hSI hSt hS fun h' tk acc' c' k e i => ?_⟩
  refine ⟨rfl, hQ h' tk acc' c' (fun b o hb eb => k b o ?_ hb (Heap.get?_push_of_some _ eb)) e i⟩
  exact Nat.ne_of_lt (Heap.lt_size eb)
end
def tLrev (K : PySem.W.Frag) (te : TE) : TE := fun σ H Q => te σ H fun x H1 => ∃ Hf a d, Same Hf H1 ∧ Rep K Hf x a ∧ lrevD a = some d ∧ Post K Hf H1 Q d
section
variable {X : Cx}
theorem pe_lrev {e : Expr} {te : TE} {p p2 pos pos2 : Pos} (hc : X.calm = true) (hg : Gl X "list") (hm : X.mg "list" = none) (hg2 : Gl X "reversed") (hm2 : X.mg "reversed" = none) (he : PE X e te)
    (hs : starEach [e] X.env = (false, eval e X.env) :: starEach [] X.env) :
    PE X (.Call (.Name "list" p) [.Call (.Name "reversed" p2) [e] [] pos2] [] pos) (tLrev X.K te) := by
  have hs2 : starEach [.Call (.Name "reversed" p2) [e] [] pos2] X.env = (false, eval (.Call (.Name "reversed" p2) [e] [] pos2) X.env) :: starEach [] X.env := rfl
  refine ⟨fun pins s σ H Q I h => ?_⟩
  refine Call_ (ld_blt I hg hm boot_list (PyProof.Rows.callWith_type1 (args_cons (Call_ (ld_blt I hg2 hm2 PyProof.Rows.boot_reversed (PyProof.Rows.callWith_type1 (args_cons (thn (he.run pins s σ H _ I h) fun u s1 ⟨v, H1, I1, r1, q1⟩ => args_nil ?_) hs) hs rfl))) hs2) hs2 rfl))
  obtain ⟨Hf, a, d, sm, ra, ed, q⟩ := q1
  cases a with
  | tup ds =>
    cases ed
    cases ra with
    | tup hq rs hl =>
      rename_i a vs
      obtain rfl : u = Value.ref a := r1
      obtain ⟨its, rv, p', hz⟩ := I1.tuple (sqT_mono sm hq)
      have hn := line63
      have hlen := rv.length
      have hz' : its.toArray.size ≤ sizeLine := by simp only [List.size_toArray]; omega
      refine call_reversed_tup p' (fun A E Q k => len_tuple p' (by simp only [List.size_toArray] <;> omega) k) (args_nil ?_)
      have k0 : ∀ b o, s1.heap.get? b = some o → (s1.heap.push (rtObj a ((its.toArray.size : Int) - 1))).get? b = some o := fun b o e => Heap.get?_push_of_some _ e
      have I2 : Inv X pins σ H1 { s1 with heap := s1.heap.push (rtObj a ((its.toArray.size : Int) - 1)), toks := s1.toks + 1 + 1 } := I1.kept k0
      obtain ⟨f0, f1, f2, f3, f4, f5⟩ := I1.fpOk (H' := H1) (b := s1.heap.objs.size) (Nat.le_refl _) (I1.hok.fresh (Nat.le_refl _))
      obtain ⟨ot, hot, rt⟩ := id p'
      have hne : a ≠ s1.heap.objs.size := Nat.ne_of_lt (Heap.lt_size hot)
      refine call_list_rt (s := { s1 with heap := s1.heap.push (rtObj a ((its.toArray.size : Int) - 1)), toks := s1.toks + 1 + 1 }) (I1.ok.hd hc) hne hz' ⟨_, Heap.get?_push_size _ rfl, rfl, rfl⟩ (p'.push _) fun h' tk acc c' hk hS hi => ?_
      have hs1 : s1.heap.objs.size ≤ (s1.heap.push (rtObj a ((its.toArray.size : Int) - 1))).objs.size := by simp [Heap.push]
      refine ⟨.ref _, _, I1.laid (t' := tk) (o := .lst vs.reverse) (fun b o e => hk b o (Nat.ne_of_lt (Heap.lt_size e)) (k0 b o e)) hs1 ⟨by rw [List.length_reverse]; exact hz, acc.toList, c', vals_rev rv hi, by rw [Array.toArray_toList]; exact hS⟩, rfl,
        q.lst sm rs.rev (by rw [List.length_reverse]; exact hl) _ (I1.hok.fresh hs1)⟩
  | _ => cases ed
def rExtM (K : PySem.W.Frag) : V → List V → Hp → VK → Prop := fun x vs H Q => ∃ l b xs zs, x = .ref l ∧ vs = [.ref b] ∧ H l = some (.lst xs) ∧ SqL K H b zs ∧ xs.length + zs.length ≤ sizeLine ∧ Q .non (upd H l (.lst (xs ++ zs)))
theorem mt_extM : MtM X "list.extend" (rExtM X.K) := by
  intro pins s σ H x vs v us Q I rx rv h
  obtain ⟨l, b, xs, zs, rfl, rfl, hH, hB, hz, q⟩ := h
  cases rx
  obtain ⟨u, rfl, ru⟩ := rv.one
  cases ru
  obtain ⟨z, its, n, r, hl, e⟩ := I.lstM hH
  obtain ⟨its2, r2, ⟨⟨cls, dd, data, sl⟩, n2, e2, c2, d2, s2⟩, z2⟩ := I.list hB
  simp only at c2 d2 s2
  subst c2 d2 s2
  have hl2 := r2.length
  have hsz : its.toArray.size + its2.toArray.size ≤ sizeLine := by rw [List.size_toArray, List.size_toArray]; omega
  have hlong : ¬ (!its.toArray.isEmpty && Builtin.List.listTooLong (its.toArray.size + its2.toArray.size)) = true := by
    rw [notLongL hsz, Bool.and_false]
    exact Bool.false_ne_true
  refine wpAny_call_entry F.slot_list_extend ⟨_, e, rfl⟩ F.entry_list_extend ?_ (F.args_list_extend_2 _ _)
  unfold Builtin.«list.extend»
  refine wpAny_bind (wpAny_of_eq (a := (Value.ref l, Value.ref b)) rfl ?_)
  show wpAny _ _ (Builtin.List.listExtendWith (.ref l) (.ref b) .none) _ _ s
  unfold Builtin.List.listExtendWith
  refine wpAny_bind (wpAny_typeOf ⟨_, e2, rfl⟩ ?_)
  rw [if_pos (by simp)]
  refine wpAny_bind ?_
  unfold Builtin.List.listItems
  refine wpAny_bind (wpAny_seqItems e2 rfl (wpAny_pure ?_))
  refine wpAny_bind ?_
  refine wpAny_bind (wpAny_seqItems e rfl (wpAny_pure ?_))
  rw [if_neg hlong]
  show wpAny _ _ (updateSeq l (· ++ its2.toArray) >>= fun _ => ret .none) _ _ s
  refine wpAny_bind (wpAny_updateSeq e rfl ?_ (hz := by rw [List.size_toArray]; omega) (_hz' := by rw [Array.size_append]; omega))
  refine wpAny_pure ⟨_, rfl, ?_⟩
  refine ⟨.non, _, I.lset (its' := its ++ its2) hH e (by simp) (r.append r2) ?_, rfl, q⟩
  rw [List.length_append]
  omega
end
end Mini
end

section
set_option Elab.async false
set_option linter.all false
set_option maxRecDepth 100000
set_option maxHeartbeats 2000000
/-! MS: sorted(d), d a dict of the module with text keys. -/
namespace Mini
open PySem PySem.Spec PyProof.Rows L2
theorem lc_anti : ∀ a b : List Nat, ltCps a b = false → ltCps b a = false → a = b
  | [], [], _, _ => rfl
  | [], _ :: _, h, _ => by cases h
  | _ :: _, [], _, h => by cases h
  | a :: r, b :: t, h1, h2 => by
    simp only [ltCps, Bool.or_eq_false_iff, Bool.and_eq_false_iff, decide_eq_false_iff_not, beq_eq_false_iff_ne] at h1 h2
    have e : a = b := by omega
    subst e
    have r1 := h1.2.resolve_left (fun z => z rfl)
    have r2 := h2.2.resolve_left (fun z => z rfl)
    rw [lc_anti r t r1 r2]
theorem lc_trans : ∀ a b c : List Nat, ltCps b a = false → ltCps c b = false → ltCps c a = false
  | [], _, [], _, _ => rfl
  | [], _, _ :: _, _, _ => rfl
  | _ :: _, [], _, h, _ => by cases h
  | _ :: _, _ :: _, [], _, h => by cases h
  | a :: r, b :: t, c :: u, h1, h2 => by
    simp only [ltCps, Bool.or_eq_false_iff, Bool.and_eq_false_iff, decide_eq_false_iff_not, beq_eq_false_iff_ne] at h1 h2 ⊢
    refine ⟨by omega, ?_⟩
    by_cases e : c = a
    · have e1 : b = a := by omega
      have e2 : c = b := by omega
      exact Or.inr (lc_trans r t u (h1.2.resolve_left (fun z => z e1)) (h2.2.resolve_left (fun z => z e2)))
    · exact Or.inl e
def leS (a b : Str) : Prop := ltCps b.cps.toList a.cps.toList = false
theorem rising_le : ∀ (l : List Str) (p : Str), risingS p l = true → (∀ x ∈ l, leS p x) ∧ l.Pairwise leS
  | [], p, _ => ⟨fun x hx => absurd hx List.not_mem_nil, .nil⟩
  | x :: r, p, h => by
    have h : (!ltCps x.cps.toList p.cps.toList && risingS x r) = true := h
    rw [Bool.and_eq_true, Bool.not_eq_true'] at h
    obtain ⟨i1, i2⟩ := rising_le r x h.2
    refine ⟨fun y hy => ?_, List.pairwise_cons.mpr ⟨i1, i2⟩⟩
    rcases List.mem_cons.mp hy with rfl | hy
    · exact h.1
    · exact lc_trans _ _ _ h.1 (i1 y hy)
theorem sorted_le : ∀ {l : List Str}, sortedS l = true → l.Pairwise leS
  | [], _ => .nil
  | x :: r, h => List.pairwise_cons.mpr (rising_le r x h)
theorem str_of_cps {a b : Str} (h : a.cps.toList = b.cps.toList) : a = b := by
  cases a
  cases b
  congr 1
  exact Array.toList_inj.mp h
theorem sorted_one {xs ys : List Str} (hp : xs.Perm ys) (h1 : sortedS xs = true) (h2 : sortedS ys = true) : xs = ys :=
  List.Perm.eq_of_pairwise (le := leS) (fun a b _ _ q1 q2 => str_of_cps (lc_anti _ _ q2 q1)) (sorted_le h1) (sorted_le h2) hp
section
variable {X : Cx} {d : Addr} {es : Array DictEntry} {n : Nat}
/-- the keys of the entries, in their order -/
def keysOf : List DictEntry → Option (List Str)
  | [] => some []
  | e :: es => match e.key, keysOf es with
    | .str x _, some r => some (x :: r)
    | _, _ => none
theorem pairs_of {P : Program} {w : World} : ∀ {es : List DictEntry} {ks : List Str}, keysOf es = some ks → ∃ kvs : List (Str × Value), kvs.map (·.1) = ks ∧ Pairs (strKind P w) es kvs
  | [], ks, h => by cases h; exact ⟨[], rfl, .nil⟩
  | e :: es, ks, h => by
    unfold keysOf at h
    split at h
    · rename_i x t r e1 e2
      cases h
      obtain ⟨kvs, q1, q2⟩ := pairs_of (P := P) (w := w) e2
      exact ⟨(x, e.val) :: kvs, by rw [List.map_cons, q1], .cons (by rw [e1]; exact strKind_is P w x t) rfl q2⟩
    · cases h
theorem kd_dictAt (D : KDict X.K X.w d es n) {ks : List Str} (hk : keysOf es.toList = some ks) (hn : ks.Nodup) {h : Heap} (I : X.K.In h) : ∃ kvs : List (Str × Value), kvs.map (·.1) = ks ∧ h.DictAt (strKind X.prog X.w) d kvs n := by
  obtain ⟨kvs, e, p⟩ := pairs_of (P := X.prog) (w := X.w) hk
  obtain ⟨o, es', ep, h1, h2, h3, h4, _⟩ := PySem.W.mapOf_K (prog := X.prog) I D.at_ D.lit
  have hI := I _ _ D.at_
  rw [hI] at h1
  cases h1
  cases h3
  exact ⟨kvs, e, _, es, hI, h2, rfl, h4, p, by rw [e]; exact hn⟩
theorem call_sortedK (hcalm : X.calm = true) (D : KDict X.K X.w d es n) {ks ys : List Str} (hk : keysOf es.toList = some ks) (hn : ks.Nodup) (hp : ys.Perm ks) (hs : sortedS ys = true) (h64 : ks.length < 64) :
    CallR X (.builtin "sorted") (fun xs H Q => xs = [.ref d] ∧ ∀ p, H p = none → Q (.ref p) (upd H p (.lst (ys.map V.str)))) := by
  intro pins s σ H xs us Q I r q
  obtain ⟨rfl, q⟩ := q
  rw [Vals.ref1 r]
  obtain ⟨kvs, ek, dd⟩ := kd_dictAt D hk hn I.kIn
  have hl : kvs.length = ks.length := by rw [← ek, List.length_map]
  have h16 : kvs.length ≤ sizeLine := by rw [hl, sizeLine_eq]; omega
  refine Calls.call_function_entry PyProof.Rows.kind_sorted PyProof.Rows.plain_sorted PyProof.Rows.entry_sorted (PyProof.Rows.args_sorted1 _) ?_
  unfold Builtin.«sorted»
  refine wpAny_bind (m := checkCount "sorted" 1 1 _) (wpAny_pure ?_)
  refine wpAny_bind (PySem.W.kdu_collect (A := X.A.in1) (PySem.W.kdl_dict (knd := strKind X.prog X.w) (kvs := kvs) (ep := n) D.low) (I.ok.hd hcalm) dd h16 fun h' tk acc hk' hacc => ?_)
  have hal : acc.toList.length = ks.length := by rw [Array.length_toList, hacc.1, hl]
  have hS : StrsAre acc.toList ks := strs_at hal fun j v e => by
    obtain ⟨k, x, e1, e2⟩ := hacc.2 j v (by rw [← Array.getElem?_toList]; exact e)
    have e3 : (kvs.map (·.1))[j]? = some k := by rw [List.getElem?_map, e1]; rfl
    rw [ek] at e3
    obtain ⟨t, ev⟩ := Value.isStrOf_shape (x := k) (v := v) e2
    exact ⟨k, t, e3, ev⟩
  have I1 : L2.Inv X pins σ H { s with heap := h', toks := tk } := I.kept hk'
  refine wpAny_bind (wpAny_newList ?_ (by rw [hal, sizeLine_eq]; omega))
  have hoL : (h'.push (seqObj "list" acc.toList.toArray 0)).get? h'.objs.size = some (seqObj "list" acc.toList.toArray 0) := Heap.get?_push_size _ rfl
  show wpAny _ _ _ _ _ { s with heap := h'.push (seqObj "list" acc.toList.toArray 0), toks := tk }
  have hz : acc.toList.length < 64 := by rw [hal]; exact h64
  refine wpAny_bind (wpAny_holding (wpAny_call_entry slot_list_sort ⟨_, hoL, rfl⟩ entry_list_sort
    (list_sort_treeK strKind_oneLt (s := { s with heap := h'.push (seqObj "list" acc.toList.toArray 0), toks := tk }) hoL hS.keysOf (fun v₁ v₂ rest e => keyKind_strs (by rw [← e]; exact hS)) hz fun st' hp' hs' => ⟨_, rfl, ?_⟩)
    (args_list_sort _)))
  obtain ⟨zs, g1, g2, g3⟩ := sorted_out_str hS hp' hs'
  have ez : zs = ys := sorted_one (g2.trans hp.symm) g3 hs
  subst ez
  obtain ⟨e', he'⟩ := sortedHeap_at (vs := acc.toList) (out := (arrOf st').map (·.2)) hoL
  have hlen : (zs.map V.str).length ≤ sizeLine := by
    rw [List.length_map, g2.length_eq]
    exact Nat.le_trans (Nat.le_of_lt h64) (by decide)
  refine wpAny_pure ⟨_, rfl, .ref h'.objs.size, upd H h'.objs.size (.lst (zs.map V.str)), I1.laid (t' := tk) (fun b u e => ?_) (Nat.le_refl _)
    (show ObjOk X.prog X.w _ _ _ (.lst (zs.map V.str)) from ⟨hlen, ((arrOf st').map (·.2)).toList, e', vals_of_strs g1, by rw [Array.toArray_toList]; exact he'⟩), rfl, q _ (I1.hok.fresh (Nat.le_refl _))⟩
  have hb : b < h'.objs.size := Heap.lt_size e
  rw [sortedHeap_old (Nat.ne_of_lt hb) (by rw [size_push']; exact Nat.lt_succ_of_lt hb)]
  exact Heap.get?_push_of_some _ e
end
end Mini
end

section
set_option Elab.async false
set_option linter.all false
set_option maxRecDepth 100000
/-! M7: which expression of the program is which of the small language; what a def promises. -/
namespace Mini
open PySem L2

/-! ### promises -/
/-- the arguments: values, and the lists that the def may change (their addresses: ps) -/
inductive ArgR (K : PySem.W.Frag) (Hf H : Hp) : List Bool → List V → List D → List Addr → Prop
  | nil : ArgR K Hf H [] [] [] []
  | val {md : List Bool} {v : V} {d : D} {vs : List V} {ds : List D} {ps : List Addr} : Rep K Hf v d → ArgR K Hf H md vs ds ps → ArgR K Hf H (false :: md) (v :: vs) (d :: ds) ps
  | own {md : List Bool} {p : Addr} {xs : List V} {x : List D} {vs : List V} {ds : List D} {ps : List Addr} : H p = some (.lst xs) → Hf p = none → Reps K Hf xs x → x.length ≤ lim → ArgR K Hf H md vs ds ps →
      ArgR K Hf H (true :: md) (.ref p :: vs) (.lst x :: ds) (p :: ps)
inductive OutR (K : PySem.W.Frag) (Hf H : Hp) : List Addr → List (List D) → Prop
  | nil : OutR K Hf H [] []
  | cons {p : Addr} {xs : List V} {x : List D} {ps : List Addr} {r : List (List D)} : H p = some (.lst xs) → Reps K Hf xs x → x.length ≤ lim → OutR K Hf H ps r → OutR K Hf H (p :: ps) (x :: r)
/-- the lists at ps may change -/
structure AdvM (ps : List Addr) (Hf H Hf' H' : Hp) : Prop where
  keep : ∀ a o, H a = some o → a ∉ ps → H' a = some o
  f : Same Hf Hf'
  sub : Same Hf' H'
  out : ∀ a o, H a = some o → Hf a = none → Hf' a = none
/-- a new list that nobody else knows, or a value -/
def AnsR (K : PySem.W.Frag) (fr : Bool) (H0 Hf H : Hp) (v : V) (d : D) : Prop := if fr = true then ∃ p xs x, v = .ref p ∧ d = .lst x ∧ H p = some (.lst xs) ∧ Hf p = none ∧ H0 p = none ∧ Reps K Hf xs x ∧ x.length ≤ lim else Rep K Hf v d
def spM (g : Gx) (K : PySem.W.Frag) (f : CallF) : Sp := fun vs H Q E => ∃ Hf ds ps, Same Hf H ∧ ArgR K Hf H f.md vs ds ps ∧ ps.Nodup ∧ match f.F ds with
  | .ok d outs => ∀ v H' Hf', AdvM ps Hf H Hf' H' → OutR K Hf' H' ps outs → AnsR K f.fr H Hf' H' v d → Q v H'
  | .exc c d outs => ∀ cls dx H' Hf', AdvM ps Hf H Hf' H' → OutR K Hf' H' ps outs → XRep g K Hf' H' c d cls dx → E cls dx H'
  | .bad => False
theorem ArgR.len {K : PySem.W.Frag} {Hf H : Hp} {md : List Bool} {vs : List V} {ds : List D} {ps : List Addr} (h : ArgR K Hf H md vs ds ps) : vs.length = md.length := by
  induction h with
  | nil => rfl
  | val _ _ ih => rw [List.length_cons, List.length_cons, ih]
  | own _ _ _ _ _ ih => rw [List.length_cons, List.length_cons, ih]

/-! ### what the surroundings are -/
structure Wd where
  P : Program
  w : World
  K : PySem.W.Frag
  mg : Str → Option Value
  base : Heap
  A : Around
abbrev wd (X : Cx) : Wd := ⟨X.prog, X.w, X.K, X.mg, X.base, X.A⟩
def CallOk (g : Gx) (d : Wd) (f : CallF) : Prop := ∃ fa fd ps k, FnOk d.P d.w d.K d.mg d.base (L2.CX d.P d.w) k fa fd ps (spM g d.K f) ∧ Room k d.A ∧ d.mg f.name = some (.ref fa) ∧ PySem.W.keepIn d.K (.ref fa) = true ∧ Binds d.K fd ps []
def GlobOk (d : Wd) (x : Str) (v : D) : Prop := ∃ u w, d.mg x = some u ∧ RelV w u ∧ ∀ H, Rep d.K H w v
/-- isinstance of an exception of the class at D -/
def XIs (d : Wd) (D : Addr) (C : Str) (b : Bool) : Prop := XCl d.K D ∧ ∃ cv : Value, (d.mg C = some cv ∨ (d.mg C = none ∧ bootBuiltins C = some cv)) ∧ (∃ v, RelV v cv ∧ ∀ u, RelV v u → u = cv) ∧ PySem.W.kitOne d.K (.ref D) cv = some b
/-- an exception of the class number x, by its name C, can be made -/
def RaiseOk (g : Gx) (d : Wd) (x : Nat) (C : Str) : Prop := x < g.n ∧ ∃ fI fd ps k, OexC d.K (g.xc x) ∧ PySem.W.findIn d.K (.ref (g.xc x)) "__init__" = some (some (.ref fI)) ∧ PySem.W.typeIn d.K (.ref fI) = some (.type "function") ∧
  FnOk d.P d.w d.K d.mg d.base (L2.CX d.P d.w) k fI fd ps (spI d.K (g.xc x) (g.xf x)) ∧ Room (k + 1) d.A ∧ Binds d.K fd ps [] ∧ d.mg C = some (.ref (g.xc x))
def TabOk (d : Wd) (x : Str) (t : List (List Nat × D)) : Prop := ∃ a es n, d.mg x = some (.ref a) ∧ KDict d.K d.w a es n ∧ ∀ cs, match t.lookup cs with
  | some v => ∃ u w, PySem.W.nsIn d.K a (sOf cs) = some (some u) ∧ RelV w u ∧ ∀ H, Rep d.K H w v
  | none => PySem.W.nsIn d.K a (sOf cs) = some none
/-- a tuple of texts of the module -/
def TtOk (d : Wd) (x : Str) (t : List (List Nat)) : Prop := ∃ (a : Addr) (o : Obj) (its : Array Value) (n : Nat), d.mg x = some (.ref a) ∧ d.K.lookup a = some o ∧ o.cls = .type "tuple" ∧ o.dict = none ∧ o.data = .seq its n ∧ its.size ≤ sizeLine ∧ Vals ((t.map sOf).map V.str) its.toList
/-- the keys of a dict of the module, in order -/
def TksOk (d : Wd) (x : Str) (ys : List (List Nat)) : Prop := ∃ a es n ks, d.mg x = some (.ref a) ∧ KDict d.K d.w a es n ∧ keysOf es.toList = some ks ∧ ks.Nodup ∧ (ys.map sOf).Perm ks ∧ PyProof.Rows.sortedS (ys.map sOf) = true ∧ ks.length < 64 ∧ ∀ y ∈ ys, okS y = true
mutual
def okE (g : Gx) (d : Wd) : E → Prop
  | .v _ | .c _ | .pop _ => True
  | .fld _ c f => g.xf c = f ∧ XfC d.K (g.xc c) ∧ PySem.W.findIn d.K (.ref (g.xc c)) f = some none
  | .isx _ c C b => XIs d (g.xc c) C b
  | .g x v => GlobOk d x v
  | .gix x t e | .gin _ x t e => TabOk d x t ∧ okE g d e
  | .gti x t e => TtOk d x t ∧ okE g d e
  | .gsd x ys => TksOk d x ys
  | .bin _ a b | .cat a b | .cmp _ a b | .ix a b | .slLo a b | .slHi a b => okE g d a ∧ okE g d b
  | .neg a | .not a | .isi _ a | .rev a | .lrev a => okE g d a
  | .chn _ _ a b c | .slLH a b c | .ite a b c => okE g d a ∧ okE g d b ∧ okE g d c
  | .and es | .or es | .tup es | .lst es | .bi _ es => okEs g d es
  | .call f es => CallOk g d f ∧ okEs g d es
  | .me _ o es => okE g d o ∧ okEs g d es
  | .lc _ _ s ifs e => okSrc g d s ∧ okEs g d ifs ∧ okE g d e
def okEs (g : Gx) (d : Wd) : List E → Prop
  | [] => True
  | e :: es => okE g d e ∧ okEs g d es
def okSrc (g : Gx) (d : Wd) : Src → Prop
  | .it e | .r1 e => okE g d e
  | .r2 a b | .rd a b => okE g d a ∧ okE g d b
end
def freeNames : List Str := ["len", "abs", "min", "max", "sum", "all", "any", "int", "str", "list", "tuple", "sorted", "isinstance", "range", "bool", "dict", "reversed", "enumerate", "zip", "set", "repr", "super", "ValueError"]
structure Ctx (cm : Bool) (X : Cx) : Prop where
  nd : X.N.Nodup
  fre : ∀ x ∈ freeNames, X.mg x = none
  un : X.A.units + 64 < cLine
  calm : cm = true → X.calm = true
theorem Ctx.blk {cm : Bool} {X : Cx} (h : Ctx cm X) (s : Shared) (H : Hp) (scope : Scope) (ce : PySem.Env) (fp : List Addr) : Ctx cm (X.blk s H scope ce fp) := ⟨h.nd, h.fre, h.un, h.calm⟩

/-! ### the check -/
def visB (sc : Scope) (x : Str) : Bool := (match sc.names.lookup x with
  | some .local => true
  | some .cell => true
  | some .free => true
  | _ => false) && !(x == ("__debug__" : Str)) && !(x == ("__classdict__" : Str))
def glB (sc : Scope) (x : Str) : Bool := (match sc.names.lookup x with
  | some .globalImplicit => true
  | _ => false) && !(x == ("__debug__" : Str)) && !(x == ("__name__" : Str))
def constB : D → Const → Bool
  | .non, .none => true
  | .bl b, .bool c => b == c
  | .int i, .int j => decide (i = j)
  | .str cs, .str s => decide (s.cps.toList = cs) && okS cs
  | _, _ => false
def bopB : BOp → Operator → Bool
  | .add, .Add | .sub, .Sub | .mul, .Mult | .fdiv, .FloorDiv | .mod, .Mod | .pow, .Pow => true
  | _, _ => false
def copB : COp → CmpOp → Bool
  | .eq, .Eq | .ne, .NotEq | .lt, .Lt | .le, .LtE | .gt, .Gt | .ge, .GtE | .isIn, .In | .notIn, .NotIn | .is, .Is | .isNot, .IsNot => true
  | _, _ => false
/-- no star, no slice, no set display -/
def plainB : Expr → Bool
  | .Starred _ _ | .Slice _ _ _ _ | .Set _ _ _ => false
  | _ => true
/-- the base of a method call that needs no super -/
def baseB : Expr → Bool
  | .Call f _ _ _ => (match f with
    | .Name id _ => !(id == ("super" : Str))
    | _ => true)
  | _ => true
def biCalm : BI → Bool
  | .min1 | .max1 | .min2 | .max2 | .sum | .all | .any => true
  | _ => false
def meOk : ME → Bool
  | .count => false
  | _ => true
def tgB (own : Scope) (N : List Str) (sc : Scope) (i : Nat) (e : Expr) : Bool := match e with
  | .Name x _ => decide (N[i]? = some x) && (match sc.names.lookup x with
    | some .local => true
    | some .cell => (match own.names.lookup x with
      | some .cell => true
      | _ => false)
    | _ => false)
  | _ => false
def tgsB (own : Scope) (N : List Str) (sc : Scope) : List Nat → List Expr → Bool
  | [], [] => true
  | i :: is, e :: es => plainB e && tgB own N sc i e && tgsB own N sc is es
  | _, _ => false
def chkT (own : Scope) (N : List Str) (sc : Scope) (t : Tgt) (e : Expr) : Bool := match t with
  | .n i => tgB own N sc i e
  | .t is => (match e with
    | .Tuple es _ _ => tgsB own N sc is es
    | _ => false)
def tyB (t : Ty) (sc : Scope) (e : Expr) : Bool := match e with
  | .Name x _ => decide (x = (tyN t : Str)) && glB sc x && decide (t = .int ∨ t = .bool ∨ t = .str ∨ t = .tup ∨ t = .lst)
  | _ => false
def tysB (sc : Scope) : List Ty → List Expr → Bool
  | [], [] => true
  | t :: ts, e :: es => plainB e && tyB t sc e && tysB sc ts es
  | _, _ => false
def tgOwn : Tgt → List Nat
  | .n i => [i]
  | .t is => is
def ownN (N : List Str) (own : List Nat) : List (Str × Nat) := own.map fun i => (N.getD i Str.empty, i)
mutual
def chkE (cm : Bool) (N : List Str) (sc : Scope) : E → Expr → Bool
  | .v i, e => (match e with
    | .Name x _ => decide (N[i]? = some x) && visB sc x
    | _ => false)
  | .c d, e => (match e with
    | .Constant c _ _ => constB d c
    | _ => false)
  | .g x _, e => (match e with
    | .Name y _ => decide (y = x) && glB sc x
    | _ => false)
  | .gix x _ a, e => (match e with
    | .Subscript p q _ => (match p with
      | .Name y _ => decide (y = x) && glB sc x && plainB q && chkE cm N sc a q
      | _ => false)
    | _ => false)
  | .gin n x _ a, e => (match e with
    | .Compare p ops qs _ => (match ops, qs with
      | [op], [q] => (match q with
        | .Name y _ => decide (y = x) && glB sc x && copB (if n then .notIn else .isIn) op && chkE cm N sc a p
        | _ => false)
      | _, _ => false)
    | _ => false)
  | .gti x _ a, e => (match e with
    | .Call fn ps kws cpos => (match fn, ps, kws with
      | .Attribute ob nm apos, [p], [] => (match ob with
        | .Name y _ => decide (y = x) && glB sc x && decide (nm = ("index" : Str)) && (apos.endLine == cpos.line) && plainB p && chkE cm N sc a p
        | _ => false)
      | _, _, _ => false)
    | _ => false)
  | .gsd x _, e => (match e with
    | .Call fn ps kws _ => (match fn, ps, kws with
      | .Name y _, [q], [] => (match q with
        | .Name z _ => decide (y = ("sorted" : Str)) && decide (z = x) && glB sc y && glB sc x && cm
        | _ => false)
      | _, _, _ => false)
    | _ => false)
  | .fld i _ f, e => (match e with
    | .Attribute ob nm _ => (match ob with
      | .Name x _ => decide (nm = f) && decide (N[i]? = some x) && visB sc x
      | _ => false)
    | _ => false)
  | .isx i _ C _, e => (match e with
    | .Call fn ps kws _ => (match fn, ps, kws with
      | .Name f _, [p, q], [] => (match p, q with
        | .Name y _, .Name z _ => decide (f = ("isinstance" : Str)) && glB sc f && decide (N[i]? = some y) && visB sc y && decide (z = C) && glB sc z
        | _, _ => false)
      | _, _, _ => false)
    | _ => false)
  | .bin o a b, e => (match e with
    | .BinOp p op q _ => bopB o op && chkE cm N sc a p && chkE cm N sc b q
    | _ => false)
  | .neg a, e => (match e with
    | .UnaryOp op p _ => (match op with
      | .USub => chkE cm N sc a p
      | _ => false)
    | _ => false)
  | .not a, e => (match e with
    | .UnaryOp op p _ => (match op with
      | .Not => chkE cm N sc a p
      | _ => false)
    | _ => false)
  | .cmp o a b, e => (match e with
    | .Compare p ops qs _ => (match ops, qs with
      | [op], [q] => copB o op && plainB q && chkE cm N sc a p && chkE cm N sc b q
      | _, _ => false)
    | _ => false)
  | .chn o o2 a b c, e => (match e with
    | .Compare p ops qs _ => (match ops, qs with
      | [op, op2], [q, r] => copB o op && copB o2 op2 && chkE cm N sc a p && chkE cm N sc b q && chkE cm N sc c r && plainB q && plainB r
      | _, _ => false)
    | _ => false)
  | .and es, e => (match e with
    | .BoolOp op ps _ => (match op with
      | .And => chkEs cm N sc es ps
      | _ => false)
    | _ => false)
  | .or es, e => (match e with
    | .BoolOp op ps _ => (match op with
      | .Or => chkEs cm N sc es ps
      | _ => false)
    | _ => false)
  | .ite t a b, e => (match e with
    | .IfExp p q r _ => tOk t && chkE cm N sc t p && chkE cm N sc a q && chkE cm N sc b r
    | _ => false)
  | .tup es, e => (match e with
    | .Tuple ps _ _ => chkEs cm N sc es ps
    | _ => false)
  | .lst es, e => (match e with
    | .List ps _ => chkEs cm N sc es ps
    | _ => false)
  | .call f es, e => (match e with
    | .Call fn ps kws _ => (match fn, kws with
      | .Name x _, [] => decide (x = f.name) && glB sc x && chkEs cm N sc es ps
      | _, _ => false)
    | _ => false)
  | .bi b es, e => (match e with
    | .Call fn ps kws _ => (match fn, kws with
      | .Name x _, [] => decide (x = biN b) && glB sc x && (cm || !biCalm b) && !es.isEmpty && chkEs cm N sc es ps
      | _, _ => false)
    | _ => false)
  | .me m o es, e => (match e with
    | .Call fn ps kws cpos => (match fn, kws with
      | .Attribute ob nm apos, [] => decide (nm = meN m) && baseB ob && (apos.endLine == cpos.line) && meOk m && !es.isEmpty && decide (ps.length < 20) && chkE cm N sc o ob && chkEs cm N sc es ps
      | _, _ => false)
    | _ => false)
  | .isi ts a, e => (match e with
    | .Call fn ps kws _ => (match fn, ps, kws with
      | .Name x _, [p, q], [] => decide (x = ("isinstance" : Str)) && glB sc x && plainB p && plainB q && decide (ts.length < 1000) && chkE cm N sc a p && (match ts with
        | [t] => tyB t sc q
        | _ => (match q with
          | .Tuple qs _ _ => tysB sc ts qs
          | _ => false))
      | _, _, _ => false)
    | _ => false)
  | .ix a b, e => (match e with
    | .Subscript p q _ => plainB q && chkE cm N sc a p && chkE cm N sc b q
    | _ => false)
  | .slLo a l, e => (match e with
    | .Subscript p q _ => (match q with
      | .Slice lo hi st _ => (match lo, hi, st with
        | some lo, none, none => chkE cm N sc a p && chkE cm N sc l lo
        | _, _, _ => false)
      | _ => false)
    | _ => false)
  | .slHi a h, e => (match e with
    | .Subscript p q _ => (match q with
      | .Slice lo hi st _ => (match lo, hi, st with
        | none, some hi, none => chkE cm N sc a p && chkE cm N sc h hi
        | _, _, _ => false)
      | _ => false)
    | _ => false)
  | .slLH a l h, e => (match e with
    | .Subscript p q _ => (match q with
      | .Slice lo hi st _ => (match lo, hi, st with
        | some lo, some hi, none => chkE cm N sc a p && chkE cm N sc l lo && chkE cm N sc h hi
        | _, _, _ => false)
      | _ => false)
    | _ => false)
  | .rev a, e => (match e with
    | .Subscript p q _ => (match q with
      | .Slice lo hi st _ => (match lo, hi, st with
        | none, none, some (.UnaryOp .USub (.Constant (.int 1) _ _) _) => chkE cm N sc a p
        | _, _, _ => false)
      | _ => false)
    | _ => false)
  | .cat a b, e => (match e with
    | .BinOp p op q _ => bopB .add op && chkE cm N sc a p && chkE cm N sc b q
    | _ => false)
  | .lrev a, e => (match e with
    | .Call fn ps kws _ => (match fn, ps, kws with
      | .Name x _, [q], [] => (match q with
        | .Call fn2 ps2 kws2 _ => (match fn2, ps2, kws2 with
          | .Name y _, [p], [] => decide (x = ("list" : Str)) && decide (y = ("reversed" : Str)) && glB sc x && glB sc y && cm && plainB p && chkE cm N sc a p
          | _, _, _ => false)
        | _ => false)
      | _, _, _ => false)
    | _ => false)
  | .pop i, e => (match e with
    | .Call fn ps kws cpos => (match fn, ps, kws with
      | .Attribute ob nm apos, [], [] => (match ob with
        | .Name x _ => decide (nm = ("pop" : Str)) && (apos.endLine == cpos.line) && decide (N[i]? = some x) && visB sc x
        | _ => false)
      | _, _, _ => false)
    | _ => false)
  | .lc t own s ifs elt, e => (match e with
    | .ListComp x gs scope _ => (match gs with
      | [⟨tg, it, fs, as⟩] => decide (as = 0) && cm && ((tgOwn t).all fun i => own.contains i) && blkC N sc scope (ownN N own) && chkT scope N (relS scope sc) t tg && chkSrc cm N sc s it && tOks ifs && decide (ifs.length ≤ 1) && chkEs cm N (relS scope sc) ifs fs && chkE cm N (relS scope sc) elt x
      | _ => false)
    | _ => false)
def chkEs (cm : Bool) (N : List Str) (sc : Scope) : List E → List Expr → Bool
  | [], ps => (match ps with
    | [] => true
    | _ => false)
  | e :: es, ps => (match ps with
    | [] => false
    | p :: ps => plainB p && chkE cm N sc e p && chkEs cm N sc es ps)
def chkSrc (cm : Bool) (N : List Str) (sc : Scope) : Src → Expr → Bool
  | .it e, p => plainB p && chkE cm N sc e p
  | .r1 a, p => (match p with
    | .Call fn ps kws _ => (match fn, ps, kws with
      | .Name x _, [p], [] => decide (x = ("range" : Str)) && glB sc x && plainB p && chkE cm N sc a p
      | _, _, _ => false)
    | _ => false)
  | .r2 a b, p => (match p with
    | .Call fn ps kws _ => (match fn, ps, kws with
      | .Name x _, [p, q], [] => decide (x = ("range" : Str)) && glB sc x && plainB p && plainB q && chkE cm N sc a p && chkE cm N sc b q
      | _, _, _ => false)
    | _ => false)
  | .rd a b, p => (match p with
    | .Call fn ps kws _ => (match fn, ps, kws with
      | .Name x _, [p, q, t], [] => (match t with
        | .UnaryOp .USub (.Constant (.int 1) _ _) _ => decide (x = ("range" : Str)) && glB sc x && plainB p && plainB q && chkE cm N sc a p && chkE cm N sc b q
        | _ => false)
      | _, _, _ => false)
    | _ => false)
/-- can stand as a test -/
def tOk : E → Bool
  | .ite _ _ _ => false
  | .and es => tOks es
  | .or es => tOks es
  | .not a => tOk a
  | _ => true
def tOks : List E → Bool
  | [] => true
  | e :: es => tOk e && tOks es
end
end Mini
end

section
set_option Elab.async false
set_option linter.all false
set_option maxRecDepth 100000
set_option maxHeartbeats 1000000
/-! M8: an expression of the program that is an expression of the small language evaluates as that one says. -/
namespace Mini
open PySem L2

section
variable {g : Gx} {K : PySem.W.Frag} {c : C0} {W : WX} {σ : L2.St}
theorem post.now {β : Type} {Hf H : Hp} {ρ : En} {a : β} {k : β → En → Hp → Hp → Prop} (h : post g K c W σ Hf k (.ok a ρ)) (r : R K c ρ σ Hf H) : k a ρ Hf H := h H Hf r (Same.refl _)
/-- the reading of a part, from the reading of the whole -/
theorem post.run {γ : Type} {Hf H : Hp} {ρ : En} {e : EvF Rv} {f : Rv → En → O γ} {k : γ → En → Hp → Hp → Prop} {Q : VK} (r : R K c ρ σ Hf H) (h : post g K c W σ Hf k ((e ρ).bind f))
    (hq : ∀ rv ρ1 Hf1 H1 v, R K c ρ1 σ Hf1 H1 → Same Hf Hf1 → RvR K σ Hf1 v rv → post g K c W σ Hf1 k (f rv ρ1) → Q v H1) : rdE g K c W e σ H Q :=
  ⟨Hf, ρ, r, h.bind fun rv ρ1 Hf1 H1 r1 s1 h1 v hv => hq rv ρ1 Hf1 H1 v r1 s1 hv h1⟩
theorem post.runT {γ : Type} {Hf H : Hp} {ρ : En} {e : EvF Bool} {f : Bool → En → O γ} {k : γ → En → Hp → Hp → Prop} {Q : Bool → Hp → Prop} (r : R K c ρ σ Hf H) (h : post g K c W σ Hf k ((e ρ).bind f))
    (hq : ∀ b ρ1 Hf1 H1, R K c ρ1 σ Hf1 H1 → Same Hf Hf1 → post g K c W σ Hf1 k (f b ρ1) → Q b H1) : rdT g K c W e σ H Q :=
  ⟨Hf, ρ, r, h.bind fun b ρ1 Hf1 H1 r1 s1 h1 => hq b ρ1 Hf1 H1 r1 s1 h1⟩
theorem post.runA {γ : Type} {Hf H : Hp} {ρ : En} {e : EvF (List Rv)} {f : List Rv → En → O γ} {k : γ → En → Hp → Hp → Prop} {Q : List V → Hp → Prop} (r : R K c ρ σ Hf H) (h : post g K c W σ Hf k ((e ρ).bind f))
    (hq : ∀ rs ρ1 Hf1 H1 vs, R K c ρ1 σ Hf1 H1 → Same Hf Hf1 → RvsR K σ Hf1 vs rs → post g K c W σ Hf1 k (f rs ρ1) → Q vs H1) : rdA g K c W e σ H Q :=
  ⟨Hf, ρ, r, h.bind fun rs ρ1 Hf1 H1 r1 s1 h1 vs hv => hq rs ρ1 Hf1 H1 vs r1 s1 hv h1⟩
abbrev kE (K : PySem.W.Frag) (σ : L2.St) (Q : VK) : Rv → En → Hp → Hp → Prop := fun rv _ Hf' H' => ∀ v, RvR K σ Hf' v rv → Q v H'
/-- the end by an operation: its answer is what is wanted -/
theorem post.fin {Hf H : Hp} {ρ : En} {o : Option D} {Q : VK} (h : post g K c W σ Hf (kE K σ Q) (O.opt (o.map .d) ρ)) (r : R K c ρ σ Hf H) : ∃ d, o = some d ∧ Post K Hf H Q d := by
  obtain ⟨z, ez, h5⟩ := h.opt
  obtain ⟨d, hd, rfl⟩ := omap ez
  exact ⟨d, hd, fun v H' Hf' adv rep => h5 H' Hf' (r.adv adv) adv.f v rep⟩
theorem post.finB {Hf H : Hp} {ρ : En} {o : Option Bool} {Q : VK} (h : post g K c W σ Hf (kE K σ Q) (O.opt (o.map fun z => .d (.bl z)) ρ)) (r : R K c ρ σ Hf H) : ∃ b, o = some b ∧ Post K Hf H Q (.bl b) := by
  obtain ⟨z, ez, h5⟩ := h.opt
  obtain ⟨d, hd, rfl⟩ := omap ez
  exact ⟨d, hd, fun v H' Hf' adv rep => h5 H' Hf' (r.adv adv) adv.f v rep⟩
theorem post.okd {Hf H : Hp} {ρ : En} {d : D} {Q : VK} (h : post g K c W σ Hf (kE K σ Q) (.ok (.d d) ρ)) (r : R K c ρ σ Hf H) : Post K Hf H Q d := fun v H' Hf' adv rep => h H' Hf' (r.adv adv) adv.f v rep
theorem post.asd {γ : Type} {Hf : Hp} {ρ : En} {rv : Rv} {f : D → En → O γ} {k : γ → En → Hp → Hp → Prop} (h : post g K c W σ Hf k ((O.opt (asD rv) ρ).bind f)) : ∃ d, rv = .d d ∧ post g K c W σ Hf k (f d ρ) := by
  obtain ⟨d, e, h2⟩ := h.optb
  exact ⟨d, asD_eq e, h2⟩
theorem post.asi {γ : Type} {Hf : Hp} {ρ : En} {x : D} {f : Int → En → O γ} {k : γ → En → Hp → Hp → Prop} (h : post g K c W σ Hf k ((O.opt (asI x) ρ).bind f)) : ∃ i, x = .int i ∧ post g K c W σ Hf k (f i ρ) := by
  obtain ⟨d, e, h2⟩ := h.optb
  exact ⟨d, asI_eq e, h2⟩
theorem post.asb {γ : Type} {Hf : Hp} {ρ : En} {x : D} {f : Bool → En → O γ} {k : γ → En → Hp → Hp → Prop} (h : post g K c W σ Hf k ((O.opt (asB x) ρ).bind f)) : ∃ i, x = .bl i ∧ post g K c W σ Hf k (f i ρ) := by
  obtain ⟨d, e, h2⟩ := h.optb
  exact ⟨d, asB_eq e, h2⟩
theorem rep_int {Hf : Hp} {v : V} {i : Int} (h : Rep K Hf v (.int i)) : v = .int i := by cases h; rfl
theorem rep_bl {Hf : Hp} {v : V} {i : Bool} (h : Rep K Hf v (.bl i)) : v = .bl i := by cases h; rfl
/-- a test's reading, from its value's -/
theorem rdT_E {H : Hp} {e : E} {Q : Bool → Hp → Prop} (h : rdT g K c W (evT e) σ H Q) : rdE g K c W (evE e) σ H (fun x H1 => ∃ k, x = .bl k ∧ Q k H1) := by
  obtain ⟨Hf, ρ, r, h⟩ := h
  refine post.run r h fun rv ρ1 Hf1 H1 v r1 s1 hv h1 => ?_
  obtain ⟨d, rfl, h2⟩ := h1.asd
  obtain ⟨b, e, h3⟩ := h2.opt
  cases asB_eq e
  exact ⟨b, rep_bl hv, h3 H1 Hf1 r1 (Same.refl _)⟩
end

theorem and3 {a b : Bool} (h : (a && b) = true) : a = true ∧ b = true := Bool.and_eq_true_iff.mp h
theorem vis_ok {X : Cx} {x : Str} (h : visB X.env.scope x = true) : Vis X.env.scope x ∧ (x == ("__debug__" : Str)) = false ∧ (x == ("__classdict__" : Str)) = false := by
  obtain ⟨h, h3⟩ := and3 h
  obtain ⟨h1, h2⟩ := and3 h
  refine ⟨?_, by simpa using h2, by simpa using h3⟩
  split at h1
  · exact .inl (by assumption)
  · exact .inr (.inl (by assumption))
  · exact .inr (.inr (by assumption))
  · cases h1
theorem gl_ok {X : Cx} {x : Str} (h : glB X.env.scope x = true) : Gl X x ∧ (x == ("__debug__" : Str)) = false ∧ x ≠ "__name__" := by
  obtain ⟨h, h3⟩ := and3 h
  obtain ⟨h1, h2⟩ := and3 h
  refine ⟨?_, by simpa using h2, by simpa using h3⟩
  split at h1
  · assumption
  · cases h1
theorem star_plain {e : Expr} {es : List Expr} {env : PySem.Env} (h : plainB e = true) : starEach (e :: es) env = (false, eval e env) :: starEach es env := by
  cases e <;> first | rfl | cases h
theorem plainIx_of {e : Expr} (h : plainB e = true) : PlainIx e := by
  intro o i
  cases e <;> first | rfl | cases h
theorem notSet_of {e : Expr} {env : PySem.Env} (h : plainB e = true) (x : Value) : foldedSetIterable e env x = pure x := by
  cases e <;> first | rfl | cases h
theorem mark_of {e : Expr} {op : CmpOp} (h : plainB e = true) : behindInMarks op e = false := by
  cases e <;> first | rfl | cases h
theorem base_ok {e : Expr} {name : Str} {env : PySem.Env} {whole : Sem Value} (h : baseB e = true) : attributeBase e name env whole = whole := by
  unfold attributeBase
  cases e <;> try rfl
  rename_i f args kws pos
  cases f <;> try rfl
  rename_i id p
  cases args <;> try rfl
  cases kws <;> try rfl
  have h : (!(id == ("super" : Str))) = true := h
  simp only
  rw [show (id != ("super" : Str)) = true from h]
  rfl
theorem bop_ok {o : BOp} {op : Operator} (h : bopB o op = true) : op = bopP o := by cases o <;> cases op <;> first | rfl | cases h
theorem cop_ok {o : COp} {op : CmpOp} (h : copB o op = true) : op = copP o := by cases o <;> cases op <;> first | rfl | cases h
theorem const_ok {K : PySem.W.Frag} {Hf : Hp} {X : Cx} {d : D} {c : Const} {k : Nat} {pos : Pos} (h : constB d c = true) : ∃ v, PE X (.Constant c k pos) (tC v) ∧ Rep K Hf v d := by
  cases d <;> cases c <;> first | (cases h; done) | skip
  · exact ⟨.non, pe_non, .non⟩
  · rename_i b b'
    have e : b = b' := by simpa [constB] using h
    subst e
    exact ⟨.bl _, pe_bl, .bl _⟩
  · rename_i b b'
    have e : b = b' := by simpa [constB] using h
    subst e
    exact ⟨.int _, pe_int, .int _⟩
  · rename_i cs s
    obtain ⟨h1, h2⟩ := and3 h
    have e : s.cps.toList = cs := of_decide_eq_true h1
    have e2 : s = sOf cs := by rw [← e] <;> rfl
    rw [e2]
    exact ⟨.str _, pe_str, .str h2⟩
end Mini
end

section
set_option Elab.async false
set_option linter.all false
set_option maxRecDepth 100000
set_option maxHeartbeats 1000000
/-! M9: frames behind calls, within comprehensions; what is walked. -/
namespace Mini
open PySem L2

section
variable {K : PySem.W.Frag} {c : C0} {ρ ρ2 : En} {σ σ2 : L2.St} {Hf H Hf' H' Hf0 H0 : Hp}
/-! ### wiped slots -/
theorem wipe_in {i : Nat} : ∀ {vs : List Nat}, i ∈ vs → i < σ.length → (wipe σ vs)[i]? = some none
  | v :: vs, h, hl => by
    show ((wipe σ vs).set v none)[i]? = some none
    by_cases e : v = i
    · subst e
      exact List.getElem?_set_self (by rw [wipe_length]; exact hl)
    · rw [List.getElem?_set_ne e]
      rcases List.mem_cons.mp h with h | h
      · exact absurd h.symm e
      · exact wipe_in h hl
theorem wipeE_length (ρ : En) : ∀ vs : List Nat, (wipeE ρ vs).length = ρ.length
  | [] => rfl
  | v :: vs => by show ((wipeE ρ vs).set v .no).length = _; rw [List.length_set, wipeE_length ρ vs]
theorem wipeE_out {i : Nat} : ∀ {vs : List Nat}, i ∉ vs → (wipeE ρ vs)[i]? = ρ[i]?
  | [], _ => rfl
  | v :: vs, h => by
    show ((wipeE ρ vs).set v .no)[i]? = _
    have hv : v ≠ i := fun e => h (by rw [e]; exact List.mem_cons_self ..)
    rw [List.getElem?_set_ne hv]
    exact wipeE_out fun z => h (List.mem_cons_of_mem _ z)
theorem wipeE_in {i : Nat} : ∀ {vs : List Nat}, i ∈ vs → ∀ s, (wipeE ρ vs)[i]? = some s → s = .no
  | v :: vs, h, s, e => by
    have e : ((wipeE ρ vs).set v .no)[i]? = some s := e
    by_cases hv : v = i
    · subst hv
      have hlt : v < (wipeE ρ vs).length := by
        have := (List.getElem?_eq_some_iff.mp e).1
        rw [List.length_set] at this; exact this
      rw [List.getElem?_set_self hlt] at e
      cases e; rfl
    · rw [List.getElem?_set_ne hv] at e
      rcases List.mem_cons.mp h with h | h
      · exact absurd h.symm hv
      · exact wipeE_in h s e
theorem backE_length (ρ0 ρ : En) : ∀ vs : List Nat, (backE ρ0 ρ vs).length = ρ.length
  | [] => rfl
  | v :: vs => by show ((backE ρ0 ρ vs).set v _).length = _; rw [List.length_set, backE_length ρ0 ρ vs]
theorem backE_out {ρ0 : En} {i : Nat} : ∀ {vs : List Nat}, i ∉ vs → (backE ρ0 ρ vs)[i]? = ρ[i]?
  | [], _ => rfl
  | v :: vs, h => by
    show ((backE ρ0 ρ vs).set v _)[i]? = _
    have hv : v ≠ i := fun e => h (by rw [e]; exact List.mem_cons_self ..)
    rw [List.getElem?_set_ne hv]
    exact backE_out fun z => h (List.mem_cons_of_mem _ z)
theorem backE_in {ρ0 : En} {i : Nat} : ∀ {vs : List Nat}, i ∈ vs → ∀ s, (backE ρ0 ρ vs)[i]? = some s → s = ρ0.getD i .no
  | v :: vs, h, s, e => by
    have e : ((backE ρ0 ρ vs).set v (ρ0.getD v .no))[i]? = some s := e
    by_cases hv : v = i
    · subst hv
      have hlt : v < (backE ρ0 ρ vs).length := by
        have := (List.getElem?_eq_some_iff.mp e).1
        rw [List.length_set] at this; exact this
      rw [List.getElem?_set_self hlt] at e
      cases e; rfl
    · rw [List.getElem?_set_ne hv] at e
      rcases List.mem_cons.mp h with h | h
      · exact absurd h.symm hv
      · exact backE_in h s e
theorem free_not {vs : List Nat} (h : freeE ρ vs = true) {i : Nat} {ds : List D} (e : ρ[i]? = some (Sl.own ds)) : i ∉ vs := fun hi => by
  have q := List.all_eq_true.mp h i hi
  rw [e] at q
  cases q
theorem free_notX {vs : List Nat} (h : freeE ρ vs = true) {i x : Nat} {d : D} (e : ρ[i]? = some (Sl.exn x d)) : i ∉ vs := fun hi => by
  have q := List.all_eq_true.mp h i hi
  rw [e] at q
  cases q
theorem R.wipe (r : R K c ρ σ Hf H) {vs : List Nat} (h : freeE ρ vs = true) : R K c (wipeE ρ vs) (L2.wipe σ vs) Hf H := by
  have ow : ∀ {i ds}, (wipeE ρ vs)[i]? = some (Sl.own ds) → i ∉ vs ∧ ρ[i]? = some (Sl.own ds) := fun {i ds} e => by
    by_cases hi : i ∈ vs
    · cases wipeE_in hi _ e
    · rw [wipeE_out hi] at e; exact ⟨hi, e⟩
  refine ⟨by rw [wipe_length, wipeE_length]; exact r.len, fun i d e => ?_, fun i ds e => ?_, fun i j di dj p ei ej si sj => ?_, r.sub, r.f0, r.keep, r.out, fun i p hp => ?_, fun i x d e => ?_⟩
  · by_cases hi : i ∈ vs
    · cases wipeE_in hi _ e
    · rw [wipeE_out hi] at e
      obtain ⟨v, e1, e2⟩ := r.val i d e
      exact ⟨v, by rw [wipe_out hi]; exact e1, e2⟩
  · obtain ⟨hi, e⟩ := ow e
    obtain ⟨p, ws, e1, q⟩ := r.own i ds e
    exact ⟨p, ws, by rw [wipe_out hi]; exact e1, q⟩
  · obtain ⟨hi, ei⟩ := ow ei
    obtain ⟨hj, ej⟩ := ow ej
    rw [wipe_out hi] at si
    rw [wipe_out hj] at sj
    exact r.inj i j di dj p ei ej si sj
  · obtain ⟨⟨ds, e⟩, s⟩ := r.par i p hp
    have hi := free_not h e
    exact ⟨⟨ds, by rw [wipeE_out hi]; exact e⟩, by rw [wipe_out hi]; exact s⟩
  · by_cases hi : i ∈ vs
    · cases wipeE_in hi _ e
    · rw [wipeE_out hi] at e
      obtain ⟨a, dx, f, v, e1, k⟩ := r.exn i x d e
      exact ⟨a, dx, f, v, by rw [wipe_out hi]; exact e1, k⟩
/-- back from a block -/
theorem R.back (r0 : R K c ρ σ Hf0 H0) (s0 : Same Hf0 Hf) (r : R K c ρ2 σ2 Hf H) {vs : List Nat} (hw : L2.wipe σ2 vs = L2.wipe σ vs) (h : freeE ρ vs = true) : R K c (backE ρ ρ2 vs) σ Hf H := by
  have hl : σ2.length = σ.length := by rw [← wipe_length σ2 vs, hw, wipe_length]
  have sw : ∀ {i}, i ∉ vs → σ2[i]? = σ[i]? := fun {i} hi => by rw [← wipe_out (σ := σ2) hi, hw, wipe_out hi]
  have ow : ∀ {i ds}, (backE ρ ρ2 vs)[i]? = some (Sl.own ds) → i ∉ vs ∧ ρ2[i]? = some (Sl.own ds) := fun {i ds} e => by
    by_cases hi : i ∈ vs
    · have e2 := backE_in hi _ e
      have e3 : ρ[i]? = some (Sl.own ds) := by
        rw [List.getD_eq_getElem?_getD] at e2
        cases q : ρ[i]? with
        | none => rw [q] at e2; cases e2
        | some s => rw [q] at e2; rw [e2] <;> rfl
      exact absurd hi (free_not h e3)
    · rw [backE_out hi] at e; exact ⟨hi, e⟩
  refine ⟨by rw [backE_length, ← r.len, hl], fun i d e => ?_, fun i ds e => ?_, fun i j di dj p ei ej si sj => ?_, r.sub, r.f0, r.keep, r.out, fun i p hp => ?_, fun i x d e => ?_⟩
  · by_cases hi : i ∈ vs
    · have e2 := backE_in hi _ e
      have e3 : ρ[i]? = some (Sl.val d) := by
        rw [List.getD_eq_getElem?_getD] at e2
        cases q : ρ[i]? with
        | none => rw [q] at e2; cases e2
        | some s => rw [q] at e2; rw [e2] <;> rfl
      obtain ⟨v, e1, e2⟩ := r0.val i d e3
      exact ⟨v, e1, e2.mono s0⟩
    · rw [backE_out hi] at e
      obtain ⟨v, e1, e2⟩ := r.val i d e
      exact ⟨v, by rw [← sw hi]; exact e1, e2⟩
  · obtain ⟨hi, e⟩ := ow e
    obtain ⟨p, ws, e1, q⟩ := r.own i ds e
    exact ⟨p, ws, by rw [← sw hi]; exact e1, q⟩
  · obtain ⟨hi, ei⟩ := ow ei
    obtain ⟨hj, ej⟩ := ow ej
    rw [← sw hi] at si
    rw [← sw hj] at sj
    exact r.inj i j di dj p ei ej si sj
  · obtain ⟨⟨ds, e⟩, s⟩ := r0.par i p hp
    have hi := free_not h e
    obtain ⟨⟨ds2, e2⟩, s2⟩ := r.par i p hp
    exact ⟨⟨ds2, by rw [backE_out hi]; exact e2⟩, s⟩
  · by_cases hi : i ∈ vs
    · have e2 := backE_in hi _ e
      have e3 : ρ[i]? = some (Sl.exn x d) := by
        rw [List.getD_eq_getElem?_getD] at e2
        cases q : ρ[i]? with
        | none => rw [q] at e2; cases e2
        | some s => rw [q] at e2; rw [e2] <;> rfl
      exact absurd hi (free_notX h e3)
    · rw [backE_out hi] at e
      obtain ⟨a, dx, f, v, e1, k⟩ := r.exn i x d e
      exact ⟨a, dx, f, v, by rw [← sw hi]; exact e1, k⟩

/-! ### behind a call -/
/-- the slots of the lists that are handed over, their addresses -/
inductive SlA (ρ : En) (σ : L2.St) : List Nat → List Addr → Prop
  | nil : SlA ρ σ [] []
  | cons {i : Nat} {p : Addr} {x : List D} {is : List Nat} {ps : List Addr} : ρ[i]? = some (Sl.own x) → σ[i]? = some (some (.ref p)) → SlA ρ σ is ps → SlA ρ σ (i :: is) (p :: ps)
theorem SlA.mem {is : List Nat} {ps : List Addr} (h : SlA ρ σ is ps) : ∀ p ∈ ps, ∃ i ∈ is, (∃ x, ρ[i]? = some (Sl.own x)) ∧ σ[i]? = some (some (.ref p)) := by
  induction h with
  | nil => intro p hp; cases hp
  | cons h1 h2 _ ih =>
    intro p hp
    rcases List.mem_cons.mp hp with rfl | hp
    · exact ⟨_, List.mem_cons_self .., ⟨_, h1⟩, h2⟩
    · obtain ⟨i, hi, q⟩ := ih p hp
      exact ⟨i, List.mem_cons_of_mem _ hi, q⟩
theorem SlA.slot {is : List Nat} {ps : List Addr} (h : SlA ρ σ is ps) : ∀ i ∈ is, ∃ x, ρ[i]? = some (Sl.own x) := by
  induction h with
  | nil => intro p hp; cases hp
  | cons h1 h2 _ ih =>
    intro p hp
    rcases List.mem_cons.mp hp with rfl | hp
    · exact ⟨_, h1⟩
    · exact ih p hp
theorem putO_len : ∀ {is : List Nat} {xs : List (List D)} {ρ ρ' : En}, putO ρ is xs = some ρ' → ρ'.length = ρ.length
  | [], [], _, _, h => by cases h; rfl
  | [], _ :: _, _, _, h => by cases h
  | _ :: _, [], _, _, h => by cases h
  | i :: is, x :: xs, ρ, ρ', h => by
    unfold putO at h
    split at h
    · rw [putO_len h, List.length_set]
    · cases h
theorem putO_out : ∀ {is : List Nat} {xs : List (List D)} {ρ ρ' : En}, putO ρ is xs = some ρ' → ∀ j, j ∉ is → ρ'[j]? = ρ[j]?
  | [], [], _, _, h, j, _ => by cases h; rfl
  | [], _ :: _, _, _, h, _, _ => by cases h
  | _ :: _, [], _, _, h, _, _ => by cases h
  | i :: is, x :: xs, ρ, ρ', h, j, hj => by
    unfold putO at h
    split at h
    · rw [putO_out h j fun z => hj (List.mem_cons_of_mem _ z), List.getElem?_set_ne fun e => hj (by rw [e]; exact List.mem_cons_self ..)]
    · cases h
/-- what stands in the slots of handed lists -/
theorem putO_in (K : PySem.W.Frag) (Hf' H' : Hp) : ∀ {is : List Nat} {ps : List Addr} {xs : List (List D)} {ρ0 ρ ρ' : En}, SlA ρ0 σ is ps → OutR K Hf' H' ps xs → is.Nodup → (∀ i ∈ is, i < ρ.length) → putO ρ is xs = some ρ' →
    ∀ i ∈ is, ∃ p vs x, p ∈ ps ∧ σ[i]? = some (some (.ref p)) ∧ ρ'[i]? = some (Sl.own x) ∧ H' p = some (.lst vs) ∧ Reps K Hf' vs x ∧ x.length ≤ lim
  | _, _, _, _, _, _, .nil, _, _, _, _, i, hi => by cases hi
  | _, _, _, _, ρ, ρ', .cons (i := i) (is := is) h1 h2 t, .cons (x := x) (xs := vs) k1 k2 k3 k4, nd, hl, e, j, hj => by
    unfold putO at e
    rw [if_pos k3] at e
    obtain ⟨n1, n2⟩ := List.nodup_cons.mp nd
    rcases List.mem_cons.mp hj with rfl | hj
    · refine ⟨_, vs, x, List.mem_cons_self .., h2, ?_, k1, k2, k3⟩
      rw [putO_out e _ n1]
      exact List.getElem?_set_self (hl _ (List.mem_cons_self ..))
    · obtain ⟨p, ws, y, q1, q⟩ := putO_in K Hf' H' t k4 n2 (fun i hi => by rw [List.length_set]; exact hl i (List.mem_cons_of_mem _ hi)) e j hj
      exact ⟨p, ws, y, List.mem_cons_of_mem _ q1, q⟩
theorem R.call {ρ' : En} (r : R K c ρ σ Hf H) {is : List Nat} {ps : List Addr} {outs : List (List D)} (A : AdvM ps Hf H Hf' H') (S : SlA ρ σ is ps) (nd : is.Nodup) (O : OutR K Hf' H' ps outs) (e : putO ρ is outs = some ρ') : R K c ρ' σ Hf' H' := by
  have hlt : ∀ i ∈ is, i < ρ.length := fun i hi => let ⟨_, h⟩ := S.slot i hi; (List.getElem?_eq_some_iff.mp h).1
  have inn := putO_in K Hf' H' S O nd hlt e
  have pown : ∀ p ∈ ps, (∃ vs, H p = some (.lst vs)) ∧ Hf p = none ∧ ((∃ i, (i, p) ∈ c.ps) ∨ c.H p = none) := fun p hp => by
    obtain ⟨i, hi, ⟨x, e1⟩, e2⟩ := S.mem p hp
    obtain ⟨q, vs, s1, s2, s3, _, _, s4⟩ := r.own i x e1
    rw [e2] at s1
    cases s1
    exact ⟨⟨vs, s2⟩, s3, s4.elim (fun z => .inl ⟨i, z⟩) .inr⟩
  have alt : ∀ {j ds}, ρ'[j]? = some (Sl.own ds) → ∃ ds', ρ[j]? = some (Sl.own ds') := fun {j ds} h => by
    by_cases hj : j ∈ is
    · exact S.slot j hj
    · rw [putO_out e j hj] at h; exact ⟨ds, h⟩
  refine ⟨by rw [putO_len e]; exact r.len, fun j d h => ?_, fun j ds h => ?_, fun i j di dj p hi hj si sj => ?_, A.sub, r.f0.trans A.f, fun a o h n => ?_, fun a o h n => ?_, fun j q h => ?_, fun j x d h => ?_⟩
  · by_cases hj : j ∈ is
    · obtain ⟨_, _, _, _, _, q, _⟩ := inn j hj
      rw [q] at h; cases h
    · rw [putO_out e j hj] at h
      obtain ⟨v, e1, e2⟩ := r.val j d h
      exact ⟨v, e1, e2.mono A.f⟩
  · by_cases hj : j ∈ is
    · obtain ⟨p, vs, x, hp, s, q, k1, k2, k3⟩ := inn j hj
      rw [q] at h
      cases h
      obtain ⟨⟨_, g1⟩, g2, _⟩ := pown p hp
      refine ⟨p, vs, s, k1, A.out _ _ g1 g2, k2, k3, ?_⟩
      obtain ⟨ds', h'⟩ := alt q
      obtain ⟨p2, _, s1, _, _, _, _, s4⟩ := r.own j ds' h'
      rw [s] at s1
      cases s1
      exact s4
    · rw [putO_out e j hj] at h
      obtain ⟨p, vs, s, k1, k2, k3, k4⟩ := r.own j ds h
      have np : p ∉ ps := fun hp => by
        obtain ⟨i, hi, ⟨x, e1⟩, e2⟩ := S.mem p hp
        have z := r.inj i j x ds p e1 h e2 s
        subst z
        exact hj hi
      exact ⟨p, vs, s, A.keep _ _ k1 np, A.out _ _ k1 k2, k3.mono A.f, k4⟩
  · obtain ⟨_, hi'⟩ := alt hi
    obtain ⟨_, hj'⟩ := alt hj
    exact r.inj i j _ _ p hi' hj' si sj
  · refine A.keep _ _ (r.keep a o h n) fun hp => ?_
    obtain ⟨_, _, q⟩ := pown a hp
    rcases q with ⟨i, q⟩ | q
    · exact n i q
    · rw [h] at q; cases q
  · have h1 := r.out a o h n
    by_cases hp : ∀ i, (i, a) ∉ c.ps
    · exact A.out _ _ (r.keep a o h hp) h1
    · obtain ⟨i, hi⟩ := Classical.not_forall.mp hp
      have hi := Classical.not_not.mp hi
      obtain ⟨⟨ds, hd⟩, hs⟩ := r.par i a hi
      obtain ⟨p, vs, e, h2, h3, _⟩ := r.own i ds hd
      rw [hs] at e
      cases e
      exact A.out _ _ h2 h3
  · obtain ⟨⟨ds, h1⟩, s⟩ := r.par j q h
    refine ⟨?_, s⟩
    by_cases hj : j ∈ is
    · obtain ⟨_, _, x, _, _, q, _⟩ := inn j hj
      exact ⟨x, q⟩
    · exact ⟨ds, by rw [putO_out e j hj]; exact h1⟩
  · by_cases hj : j ∈ is
    · obtain ⟨_, _, _, _, _, q, _⟩ := inn j hj
      rw [q] at h; cases h
    · rw [putO_out e j hj] at h
      obtain ⟨a, dx, f, v, e1, k, k1, k2⟩ := r.exn j x d h
      have nd : dx ∉ ps := fun hp => by
        obtain ⟨⟨_, g1⟩, _⟩ := pown dx hp
        rw [g1] at k1; cases k1
      exact ⟨a, dx, f, v, e1, k, A.keep _ _ k1 nd, k2.mono A.f⟩

/-- the arguments of a call, by their modes -/
theorem splitA_ok (r : R K c ρ σ Hf H) : ∀ {md : List Bool} {rs : List Rv} {vs : List V} {ds : List D} {is : List Nat}, RvsR K σ Hf vs rs → splitA ρ md rs = some (ds, is) → ∃ ps, ArgR K Hf H md vs ds ps ∧ SlA ρ σ is ps
  | [], [], _, ds, is, .nil, e => by cases e; exact ⟨[], .nil, .nil⟩
  | [], _ :: _, _, ds, is, _, e => by cases e
  | false :: md, [], _, ds, is, _, e => by cases e
  | true :: md, [], _, ds, is, _, e => by cases e
  | false :: md, .o _ :: _, _, ds, is, _, e => by cases e
  | true :: md, .d _ :: _, _, ds, is, _, e => by cases e
  | false :: md, .d d :: rs, _, ds, is, .cons h t, e => by
    unfold splitA at e
    cases e1 : splitA ρ md rs with
    | none => rw [e1] at e; cases e
    | some z =>
      obtain ⟨ds', is'⟩ := z
      rw [e1] at e
      cases e
      obtain ⟨ps, a1, a2⟩ := splitA_ok r t e1
      exact ⟨ps, .val h a1, a2⟩
  | true :: md, .o i :: rs, _, ds, is, .cons (v := v) h t, e => by
    unfold splitA at e
    cases e0 : ρ[i]? with
    | none => rw [e0] at e; cases e
    | some sl =>
      cases e1 : splitA ρ md rs with
      | none => rw [e0, e1] at e; cases sl <;> cases e
      | some z =>
        obtain ⟨ds', is'⟩ := z
        rw [e0, e1] at e
        cases sl with
        | no => cases e
        | val _ => cases e
        | exn _ _ => cases e
        | own x =>
          cases e
          obtain ⟨ps, a1, a2⟩ := splitA_ok r t e1
          obtain ⟨p, xs, s1, k1, k2, k3, k4, _⟩ := r.own i x e0
          have s1' : σ[i]? = some (some v) := h
          rw [s1] at s1'
          cases s1'
          exact ⟨p :: ps, .own k1 k2 k3 k4 a1, .cons e0 s1 a2⟩
theorem SlA.nodup (r : R K c ρ σ Hf H) {is : List Nat} {ps : List Addr} (S : SlA ρ σ is ps) (nd : is.Nodup) : ps.Nodup := by
  induction S with
  | nil => exact List.nodup_nil
  | cons h1 h2 t ih =>
    obtain ⟨n1, n2⟩ := List.nodup_cons.mp nd
    refine List.nodup_cons.mpr ⟨fun hp => ?_, ih n2⟩
    obtain ⟨j, hj, ⟨x, e1⟩, e2⟩ := t.mem _ hp
    have z := r.inj _ j _ x _ h1 e1 h2 e2
    subst z
    exact n1 hj
end
end Mini
end

section
set_option Elab.async false
set_option linter.all false
set_option maxRecDepth 100000
set_option maxHeartbeats 1000000
/-! M10: targets, what is walked, comprehensions. -/
namespace Mini
open PySem L2

section
variable {K : PySem.W.Frag} {c : C0} {ρ ρ' : En} {σ : L2.St} {Hf H : Hp}
theorem setV_ok {i : Nat} {d : D} {v : V} (r : R K c ρ σ Hf H) (e : setV ρ i d = some ρ') (h : Rep K Hf v d) : R K c ρ' (σ.set i (some v)) Hf H ∧ ρ' = ρ.set i (.val d) ∧ ∃ s, ρ[i]? = some s ∧ ∀ ds, s ≠ .own ds := by
  unfold setV at e
  cases q : ρ[i]? with
  | none => rw [q] at e; cases e
  | some s =>
    rw [q] at e
    have hn : ∀ ds, s ≠ .own ds := fun ds z => by subst z; cases e
    have e2 : ρ' = ρ.set i (.val d) := by
      cases s with
      | own ds => cases e
      | no => cases e; rfl
      | val _ => cases e; rfl
      | exn _ _ => cases e; rfl
    refine ⟨?_, e2, s, rfl, hn⟩
    rw [e2]
    refine r.setV (fun p hp => ?_) h
    obtain ⟨⟨ds, h2⟩, _⟩ := r.par i p hp
    rw [q] at h2
    cases h2
    exact hn ds rfl
def gNs : List Nat → TGs
  | [] => gNil
  | i :: is => gCons (gName i) (gNs is)
def gT (K : PySem.W.Frag) : Tgt → TG
  | .n i => gName i
  | .t is => gTup K is.length (gNs is)
theorem gNs_ok {Q : L2.St → Hp → Prop} : ∀ {is : List Nat} {ρ ρ' : En} {σ : L2.St} {vs : List V} {ds : List D}, R K c ρ σ Hf H → bindN ρ is ds = some ρ' → Reps K Hf vs ds →
    (∀ σ', R K c ρ' σ' Hf H → (∀ own : List Nat, (∀ i ∈ is, i ∈ own) → L2.wipe σ' own = L2.wipe σ own) → Q σ' H) → gNs is vs σ H Q
  | [], ρ, ρ', σ, _, [], r, e, .nil, h => by
    cases e
    exact ⟨rfl, h σ r fun _ _ => rfl⟩
  | [], ρ, ρ', σ, _, _ :: _, r, e, _, h => by cases e
  | _ :: _, ρ, ρ', σ, _, [], r, e, _, h => by cases e
  | i :: is, ρ, ρ', σ, _, d :: ds, r, e, .cons (v := v) (vs := vs) h1 t, h => by
    unfold bindN at e
    cases q : setV ρ i d with
    | none => rw [q] at e; cases e
    | some ρ1 =>
      rw [q] at e
      obtain ⟨r1, _⟩ := setV_ok r q h1
      refine ⟨v, vs, rfl, gNs_ok r1 e t fun σ' r' w => h σ' r' fun own ho => ?_⟩
      rw [w own fun j hj => ho j (List.mem_cons_of_mem _ hj)]
      exact wipe_set (ho i (List.mem_cons_self ..))
where
  wipe_set {i : Nat} {v : V} {σ : L2.St} : ∀ {own : List Nat}, i ∈ own → L2.wipe (σ.set i (some v)) own = L2.wipe σ own := fun {own} h => by
    refine List.ext_getElem? fun j => ?_
    by_cases hj : j ∈ own
    · by_cases hl : j < σ.length
      · rw [wipe_in hj (by rw [List.length_set]; exact hl), wipe_in hj hl]
      · rw [List.getElem?_eq_none (by rw [wipe_length, List.length_set]; omega), List.getElem?_eq_none (by rw [wipe_length]; omega)]
    · rw [wipe_out hj, wipe_out hj, List.getElem?_set_ne fun e => hj (by rw [← e]; exact h)]
theorem gT_ok {Q : L2.St → Hp → Prop} {t : Tgt} {d : D} {v : V} (r : R K c ρ σ Hf H) (e : bindT t d ρ = some ρ') (h : Rep K Hf v d)
    (hq : ∀ σ', R K c ρ' σ' Hf H → (∀ own : List Nat, (∀ i ∈ tgOwn t, i ∈ own) → L2.wipe σ' own = L2.wipe σ own) → Q σ' H) : gT K t v σ H Q := by
  cases t with
  | n i =>
    obtain ⟨r1, _⟩ := setV_ok r e h
    exact hq _ r1 fun own ho => gNs_ok.wipe_set (ho i (List.mem_cons_self ..))
  | t is =>
    cases h with
    | tup h1 h2 h3 =>
      rename_i ds
      refine ⟨_, _, rfl, sqT_mono r.sub h1, ?_, gNs_ok r e h2 hq⟩
      have : ∀ {is : List Nat} {ρ ρ' : En} {ds : List D}, bindN ρ is ds = some ρ' → ds.length = is.length := fun {is} => by
        induction is with
        | nil => intro ρ ρ' ds e; cases ds with
          | nil => rfl
          | cons _ _ => cases e
        | cons i is ih => intro ρ ρ' ds e; cases ds with
          | nil => cases e
          | cons d ds =>
            unfold bindN at e
            cases q : setV ρ i d with
            | none => rw [q] at e; cases e
            | some ρ1 => rw [q] at e; rw [List.length_cons, List.length_cons, ih e]
      rw [h2.length]
      exact this e
    | non => cases e
    | bl _ => cases e
    | int _ => cases e
    | str _ => cases e
    | lst _ _ _ => cases e
end
theorem tg_ok {X : Cx} {own : Scope} {i : Nat} {e : Expr} (hN : X.N.Nodup) (h : tgB own X.N X.env.scope i e = true) (hf : ∀ x, own.names.lookup x = some .cell → X.fn x = true) : PG X e (gName i) := by
  unfold tgB at h
  split at h
  · rename_i x pos
    obtain ⟨h1, h2⟩ := and3 h
    have h1 := of_decide_eq_true h1
    split at h2
    · rename_i hl
      exact pg_name hN h1 (.inl hl) (.inr hl)
    · rename_i hl
      split at h2
      · rename_i hc
        exact pg_name hN h1 (.inr hl) (.inl (hf x hc))
      · cases h2
    · cases h2
  · cases h
theorem tgs_ok {X : Cx} {own : Scope} (hN : X.N.Nodup) (hf : ∀ x, own.names.lookup x = some .cell → X.fn x = true) : ∀ {is : List Nat} {es : List Expr}, tgsB own X.N X.env.scope is es = true → PGs X es (gNs is)
  | [], [], _ => pgs_nil
  | [], _ :: _, h => by cases h
  | _ :: _, [], h => by cases h
  | i :: is, e :: es, h => by
    obtain ⟨h, h3⟩ := and3 (show (plainB e && tgB own X.N X.env.scope i e && tgsB own X.N X.env.scope is es) = true from h)
    obtain ⟨h1, h2⟩ := and3 h
    refine pgs_cons (tg_ok hN h2 hf) (tgs_ok hN hf h3) ?_
    cases e <;> first | rfl | cases h1
theorem tgs_each {own : Scope} {N : List Str} {sc : Scope} {env : PySem.Env} : ∀ {is : List Nat} {es : List Expr}, tgsB own N sc is es = true → (assignEach es env).length = is.length ∧ (assignEach es env).findIdx? (·.1) = none
  | [], [], _ => ⟨rfl, rfl⟩
  | [], _ :: _, h => by cases h
  | _ :: _, [], h => by cases h
  | i :: is, e :: es, h => by
    obtain ⟨h, h3⟩ := and3 (show (plainB e && tgB own N sc i e && tgsB own N sc is es) = true from h)
    obtain ⟨h1, h2⟩ := and3 h
    obtain ⟨k1, k2⟩ := tgs_each (env := env) h3
    have e1 : assignEach (e :: es) env = (false, assign e env) :: assignEach es env := by cases e <;> first | rfl | cases h1
    rw [e1]
    exact ⟨by rw [List.length_cons, List.length_cons, k1], by rw [List.findIdx?_cons, k2] <;> rfl⟩
theorem pgT_ok {X : Cx} {own : Scope} {t : Tgt} {e : Expr} (hN : X.N.Nodup) (hc : X.calm = true) (hf : ∀ x, own.names.lookup x = some .cell → X.fn x = true) (h : chkT own X.N X.env.scope t e = true) : PG X e (gT X.K t) := by
  cases t with
  | n i => exact tg_ok hN h hf
  | t is =>
    unfold chkT at h
    simp only at h
    split at h
    · rename_i es k pos
      obtain ⟨k1, k2⟩ := tgs_each (env := X.env) h
      exact pg_tup hc (tgs_ok hN hf h) k1 k2
    · cases h

/-! ### what is walked -/
structure ItOk (K : PySem.W.Frag) (J : It) (xs : List D) (Hf : Hp) : Prop where
  go : ∀ (i : Nat) (H : Hp), Same Hf H → i < xs.length → J.go i H
  yld : ∀ (i : Nat) (H : Hp) (x : V) (H' : Hp), Same Hf H → J.yld i H x H' → i < xs.length → H' = H ∧ ∃ d, xs[i]? = some d ∧ Rep K Hf x d
  stop : ∀ (i : Nat) (H : Hp), Same Hf H → i = xs.length → J.stop i H
section
variable {K : PySem.W.Frag} {Hf : Hp}
theorem it_list {a : Addr} {vs : List V} {ds : List D} (h : SqL K Hf a vs) (r : Reps K Hf vs ds) : ItOk K (Itl K a) ds Hf where
  go := fun i H s hi => by
    obtain ⟨v, hv, _⟩ := r.get (List.getElem?_eq_getElem hi)
    exact ⟨vs, v, Same.seq s h, hv⟩
  yld := fun i H x H' s y hi => by
    obtain ⟨e, y⟩ := y
    have hx := y vs (Same.seq s h)
    obtain ⟨d, hd, q⟩ := r.getV hx
    exact ⟨e, d, hd, q⟩
  stop := fun i H s e => ⟨vs, Same.seq s h, by rw [r.length, e]; exact Nat.le_refl _⟩
theorem it_tup {a : Addr} {vs : List V} {ds : List D} (h : SqT K Hf a vs) (r : Reps K Hf vs ds) : ItOk K (Itt K a) ds Hf where
  go := fun i H s hi => by
    obtain ⟨v, hv, _⟩ := r.get (List.getElem?_eq_getElem hi)
    exact ⟨vs, v, sqT_mono s h, hv⟩
  yld := fun i H x H' s y hi => by
    obtain ⟨e, y⟩ := y
    have hx := y vs (sqT_mono s h)
    obtain ⟨d, hd, q⟩ := r.getV hx
    exact ⟨e, d, hd, q⟩
  stop := fun i H s e => ⟨vs, sqT_mono s h, by rw [r.length, e]; exact Nat.le_refl _⟩
theorem it_str {cs : List Nat} (ok : okS cs = true) : ItOk K (Its (sOf cs)) (cs.map fun c => .str [c]) Hf where
  go := fun i H s hi => by
    rw [List.length_map] at hi
    show i < (sOf cs).cps.size
    simpa [sOf] using hi
  yld := fun i H x H' s y hi => by
    obtain ⟨e, c, h1, rfl⟩ := y
    have h1 : cs[i]? = some c := by simpa [sOf] using h1
    refine ⟨e, .str [c], by rw [List.getElem?_map, h1] <;> rfl, .str (okS_mk (by show 1 ≤ lim; decide) fun z hz => ?_)⟩
    cases List.mem_singleton.mp hz
    exact okS_all ok _ (List.mem_of_getElem? h1)
  stop := fun i H s e => by
    rw [List.length_map] at e
    show (sOf cs).cps.size ≤ i
    simp [sOf, e]
theorem it_rngD {hi lo : Int} : ItOk K (Itc hi (-1) (hi - lo).toNat) (rngD hi lo) Hf where
  go := fun i H s h => by
    show i < (hi - lo).toNat
    simpa [rngD] using h
  yld := fun i H x H' s y h => by
    obtain ⟨e, rfl⟩ := y
    have h : i < (hi - lo).toNat := by simpa [rngD] using h
    refine ⟨e, .int (hi - i), ?_, ?_⟩
    · simp [rngD, List.getElem?_map, List.getElem?_range h]
    · have q : hi + (i : Int) * -1 = hi - i := by omega
      rw [q]
      exact .int _
  stop := fun i H s e => by
    show (hi - lo).toNat ≤ i
    simp [rngD] at e
    omega
theorem it_rng {lo hi : Int} : ItOk K (Itr lo (hi - lo).toNat) (rng lo hi) Hf where
  go := fun i H s h => by
    show i < (hi - lo).toNat
    simpa [rng] using h
  yld := fun i H x H' s y h => by
    obtain ⟨e, rfl⟩ := y
    have h : i < (hi - lo).toNat := by simpa [rng] using h
    refine ⟨e, .int (lo + i), ?_, .int _⟩
    simp [rng, List.getElem?_map, List.getElem?_range h]
  stop := fun i H s e => by
    show (hi - lo).toNat ≤ i
    simp [rng] at e
    omega
end
def rdSrc (g : Gx) (K : PySem.W.Frag) (c : C0) (W : WX) (s : EvF (List D)) : TI := fun σ H Q => ∃ Hf ρ, R K c ρ σ Hf H ∧ post g K c W σ Hf (fun xs _ Hf' H' => ∀ J, ItOk K J xs Hf' → Q J H') (s ρ)
end Mini
end

section
set_option Elab.async false
set_option linter.all false
set_option maxRecDepth 100000
set_option maxHeartbeats 4000000
/-! M11: expressions. -/
namespace Mini
open PySem L2

theorem PT_of {X : Cx} {g : Gx} {c : C0} {W : WX} {e' : E} {e : Expr} (h : PE X e (rdE g X.K c W (evE e'))) (he : ∀ whole, isTrue e X.env whole = (do let v ← whole; standAt e.pos; holding [v] (truthy v))) : PT X e (rdT g X.K c W (evT e')) :=
  PT_imp (pt_val h he) fun σ H Q h => rdT_E h
theorem pe_callS0 {X : Cx} {CX : CXT} {k : Nat} {f : Addr} {fd : FuncData} {ps : List Str} {sp : Sp} {E : L2.St → XK} {x : Str} {p pos : Pos} (F : FnOk X.prog X.w X.K X.mg X.base CX k f fd ps sp) (hr : Room k X.A) (hg : Gl X x) (hm : X.mg x = some (.ref f)) (hk : PySem.W.keepIn X.K (.ref f) = true) (hb : Binds X.K fd ps [])
    (hx : ∀ σ, PassesAt CX X σ (E σ)) (hdb : (x == ("__debug__" : Str)) = false) : PE X (.Call (.Name x p) [] [] pos) (tCallS sp E tNil) := by
  refine ⟨fun pins s σ H Q I h => ?_⟩
  refine wpAny_Call_Name_kw (ld_glob I hg hm ?_ hdb)
  exact PySem.W.callWith_K0 I.kIn hk (run_fnS (us := []) F hr hb (hx σ) I .nil h)
theorem plain_any {g : Gx} {cm : Bool} {N : List Str} {sc : Scope} {env : PySem.Env} {pos : Pos} : ∀ {es' : List E} {es : List Expr}, chkEs cm N sc es' es = true → (backTo pos (starEach es env)).any (·.1) = false
  | es', [], _ => rfl
  | [], _ :: _, h => by cases h
  | e' :: es', e :: es, h => by
    obtain ⟨h, h3⟩ := and3 (show (plainB e && chkE cm N sc e' e && chkEs cm N sc es' es) = true from h)
    obtain ⟨h1, h2⟩ := and3 h
    rw [star_plain h1]
    have ih := plain_any (g := g) (env := env) (pos := pos) h3
    show (false || (backTo pos (starEach es env)).any (·.1)) = false
    rw [ih] <;> rfl
theorem plain_all {cm : Bool} {N : List Str} {sc : Scope} {env : PySem.Env} {pos : Pos} : ∀ {es' : List E} {es : List Expr}, chkEs cm N sc es' es = true → (backTo pos (starEach es env)).all (fun x => !x.1) = true
  | es', [], _ => rfl
  | [], _ :: _, h => by cases h
  | e' :: es', e :: es, h => by
    obtain ⟨h, h3⟩ := and3 (show (plainB e && chkE cm N sc e' e && chkEs cm N sc es' es) = true from h)
    obtain ⟨h1, h2⟩ := and3 h
    rw [star_plain h1]
    have ih := plain_all (env := env) (pos := pos) h3
    show (!false && (backTo pos (starEach es env)).all (fun x => !x.1)) = true
    rw [ih] <;> rfl

section
variable {K : PySem.W.Frag} {c : C0} {ρ ρ' : En} {σ : L2.St} {Hf H Hf' H' : Hp}
theorem R.fresh (r : R K c ρ σ Hf H) {p : Addr} (h : H p = none) : c.H p = none := by
  cases e : c.H p with
  | none => rfl
  | some o =>
    by_cases hp : ∀ i, (i, p) ∉ c.ps
    · rw [r.keep p o e hp] at h; cases h
    · obtain ⟨i, hi⟩ := Classical.not_forall.mp hp
      have hi := Classical.not_not.mp hi
      obtain ⟨⟨ds, hd⟩, hs⟩ := r.par i p hi
      obtain ⟨q, vs, e1, h2, _⟩ := r.own i ds hd
      rw [hs] at e1
      cases e1
      rw [h2] at h
      cases h
/-- a list that is new and that no slot owns is frozen -/
theorem R.frzN (r : R K c ρ σ Hf H) {p : Addr} {vs : List V} (hp : H p = some (.lst vs)) (hf : Hf p = none) (h0 : c.H p = none) (hd : ∀ (j : Nat) (dj : List D), ρ[j]? = some (Sl.own dj) → σ[j]? ≠ some (some (.ref p))) :
    R K c ρ σ (upd Hf p (.lst vs)) H := by
  have sm : Same Hf (upd Hf p (.lst vs)) := same_upd hf
  refine ⟨r.len, fun j d h => ?_, fun j dj h => ?_, r.inj, fun a o h => ?_, r.f0.trans sm, r.keep, fun a o h n => ?_, r.par, fun j x d h => ?_⟩
  · obtain ⟨v, e1, e2⟩ := r.val j d h
    exact ⟨v, e1, e2.mono sm⟩
  · obtain ⟨q, ws, e', k1, k2, k3, k4⟩ := r.own j dj h
    have hq : q ≠ p := fun z => by subst z; exact hd j dj h e'
    exact ⟨q, ws, e', k1, by rw [upd_ne hq]; exact k2, k3.mono sm, k4⟩
  · by_cases ha : a = p
    · subst ha; rw [upd_same] at h; cases h; exact hp
    · rw [upd_ne ha] at h; exact r.sub _ _ h
  · have ha : a ≠ p := fun z => by subst z; rw [h0] at h; cases h
    rw [upd_ne ha]; exact r.out a o h n
  · obtain ⟨a, dx, f, v, e1, k, k1, k2⟩ := r.exn j x d h
    exact ⟨a, dx, f, v, e1, k, k1, k2.mono sm⟩
/-- no slot owns what was not there -/
theorem R.none_own (r : R K c ρ σ Hf H) {p : Addr} (h : H p = none) : ∀ (j : Nat) (dj : List D), ρ[j]? = some (Sl.own dj) → σ[j]? ≠ some (some (.ref p)) := fun j dj e s => by
  obtain ⟨q, ws, e', k1, _⟩ := r.own j dj e
  rw [s] at e'
  cases e'
  rw [k1] at h
  cases h
theorem putO_own {is : List Nat} {ps : List Addr} {outs : List (List D)} (S : SlA ρ σ is ps) (e : putO ρ is outs = some ρ') {j : Nat} {dj : List D} (h : ρ'[j]? = some (Sl.own dj)) : ∃ x, ρ[j]? = some (Sl.own x) := by
  by_cases hj : j ∈ is
  · exact S.slot j hj
  · rw [putO_out e j hj] at h; exact ⟨dj, h⟩
end

section
variable {g : Gx} {cm : Bool} {c : C0}
/-- a call's end -/
theorem call_end {K : PySem.W.Frag} {W : WX} {σ : L2.St} {Hf H : Hp} {ρ : En} {f : CallF} {rs : List Rv} {vs : List V} {Q : VK} (r : R K c ρ σ Hf H) (hv : RvsR K σ Hf vs rs) (h : post g K c W σ Hf (kE K σ Q) (callO f rs ρ)) : spM g K f vs H Q (WE W σ) := by
  unfold callO at h
  cases e1 : splitA ρ f.md rs with
  | none => rw [e1] at h; exact h.elim
  | some z =>
    obtain ⟨ds, is⟩ := z
    rw [e1] at h
    simp only at h
    split at h
    · rename_i hn
      have hn : is.Nodup := of_decide_eq_true hn
      obtain ⟨ps, a1, a2⟩ := splitA_ok r hv e1
      refine ⟨Hf, ds, ps, r.sub, a1, a2.nodup r hn, ?_⟩
      cases e2 : f.F ds with
      | bad => rw [e2] at h; exact h.elim
      | ok d outs =>
        rw [e2] at h
        simp only at h
        cases e3 : putO ρ is outs with
        | none => rw [e3] at h; exact h.elim
        | some ρ' =>
          rw [e3] at h
          intro v H' Hf' A O ans
          have r' := r.call A a2 hn O e3
          unfold AnsR at ans
          split at ans
          · obtain ⟨p, xs, x, rfl, rfl, k1, k2, k3, k4, k5⟩ := ans
            refine h H' _ (r'.frzN k1 k2 (r.fresh k3) fun j dj e => ?_) (A.f.trans (same_upd k2)) _ (.lst (SqL.of upd_same) (k4.mono (same_upd k2)) k5)
            obtain ⟨_, e5⟩ := putO_own a2 e3 e
            exact r.none_own k3 j _ e5
          · exact h H' Hf' r' A.f v ans
      | exc x d outs =>
        rw [e2] at h
        simp only at h
        cases e3 : putO ρ is outs with
        | none => rw [e3] at h; exact h.elim
        | some ρ' =>
          rw [e3] at h
          intro cls dx H' Hf' A O ans
          exact h cls dx H' Hf' (r.call A a2 hn O e3) A.f ans
    · exact h.elim
end
end Mini
end

section
set_option Elab.async false
set_option linter.all false
set_option maxRecDepth 100000
set_option maxHeartbeats 4000000
/-! M12: a state as an entry of its own; the turns of a comprehension. -/
namespace Mini
open PySem L2

def snapPs (ρ : En) (σ : L2.St) : List (Nat × Addr) := (List.range ρ.length).filterMap fun i => match ρ[i]?, σ[i]? with
  | some (Sl.own _), some (some (V.ref p)) => some (i, p)
  | _, _ => none
def snap (c : C0) (ρ : En) (σ : L2.St) (Hf H : Hp) : C0 := ⟨Hf, H, snapPs ρ σ, c.xa⟩
section
variable {K : PySem.W.Frag} {c : C0} {ρ ρ2 : En} {σ σ2 : L2.St} {Hf H Hf2 H2 : Hp}
theorem mem_snap {i : Nat} {p : Addr} : (i, p) ∈ snapPs ρ σ ↔ (∃ ds, ρ[i]? = some (Sl.own ds)) ∧ σ[i]? = some (some (.ref p)) := by
  unfold snapPs
  rw [List.mem_filterMap]
  constructor
  · rintro ⟨j, _, h⟩
    split at h
    · rename_i ds q h1 h2
      cases h
      exact ⟨⟨ds, h1⟩, h2⟩
    · cases h
  · rintro ⟨⟨ds, h1⟩, h2⟩
    refine ⟨i, List.mem_range.mpr (List.getElem?_eq_some_iff.mp h1).1, ?_⟩
    rw [h1, h2]
theorem R.snap (r : R K c ρ σ Hf H) : R K (Mini.snap c ρ σ Hf H) ρ σ Hf H := by
  refine ⟨r.len, r.val, fun i ds h => ?_, r.inj, r.sub, Same.refl _, fun a o h _ => h, fun a o _ h => h, fun i p h => mem_snap.mp h, r.exn⟩
  obtain ⟨p, vs, e, k1, k2, k3, k4, _⟩ := r.own i ds h
  exact ⟨p, vs, e, k1, k2, k3, k4, .inl (mem_snap.mpr ⟨⟨ds, h⟩, e⟩)⟩
/-- from the inner entry to the outer one -/
theorem R.lift (r : R K c ρ σ Hf H) (r2 : R K (Mini.snap c ρ σ Hf H) ρ2 σ2 Hf2 H2) : R K c ρ2 σ2 Hf2 H2 := by
  have ps : ∀ {i p}, (i, p) ∈ snapPs ρ σ → (i, p) ∈ c.ps ∨ c.H p = none := fun {i p} h => by
    obtain ⟨⟨ds, h1⟩, h2⟩ := mem_snap.mp h
    obtain ⟨q, vs, e, _, _, _, _, k⟩ := r.own i ds h1
    rw [h2] at e
    cases e
    exact k
  refine ⟨r2.len, r2.val, fun i ds h => ?_, r2.inj, r2.sub, r.f0.trans r2.f0, fun a o h n => ?_, fun a o h n => ?_, fun i p h => ?_, r2.exn⟩
  · obtain ⟨p, vs, e, k1, k2, k3, k4, k5⟩ := r2.own i ds h
    refine ⟨p, vs, e, k1, k2, k3, k4, ?_⟩
    rcases k5 with k5 | k5
    · exact ps k5
    · exact .inr (r.fresh k5)
  · refine r2.keep a o (r.keep a o h n) fun i hi => ?_
    rcases ps hi with k | k
    · exact n i k
    · rw [h] at k; cases k
  · have h1 := r.out a o h n
    by_cases hp : ∀ i, (i, a) ∉ c.ps
    · exact r2.out a o (r.keep a o h hp) h1
    · obtain ⟨i, hi⟩ := Classical.not_forall.mp hp
      have hi := Classical.not_not.mp hi
      obtain ⟨⟨ds, hd⟩, hs⟩ := r.par i a hi
      obtain ⟨p, vs, e, h2, h3, _⟩ := r.own i ds hd
      rw [hs] at e
      cases e
      exact r2.out a _ h2 h1
  · obtain ⟨h1, h2⟩ := r.par i p h
    exact r2.par i p (mem_snap.mpr ⟨h1, h2⟩)
/-- a list that is new and that no slot owns changes -/
theorem R.mutN (r : R K c ρ σ Hf H) {p : Addr} {o : HO} (hp : ∃ vs, H p = some (.lst vs)) (hf : Hf p = none) (h0 : c.H p = none) (hd : ∀ (j : Nat) (dj : List D), ρ[j]? = some (Sl.own dj) → σ[j]? ≠ some (some (.ref p))) : R K c ρ σ Hf (upd H p o) := by
  refine ⟨r.len, r.val, fun j dj h => ?_, r.inj, fun a o h => ?_, r.f0, fun a o h n => ?_, r.out, r.par, fun j x d h => ?_⟩
  · obtain ⟨q, ws, e', k1, k⟩ := r.own j dj h
    have hq : q ≠ p := fun z => by subst z; exact hd j dj h e'
    exact ⟨q, ws, e', by rw [upd_ne hq]; exact k1, k⟩
  · have ha : a ≠ p := fun z => by subst z; rw [hf] at h; cases h
    rw [upd_ne ha]; exact r.sub _ _ h
  · have ha : a ≠ p := fun z => by subst z; rw [h0] at h; cases h
    rw [upd_ne ha]; exact r.keep a o h n
  · obtain ⟨a, dx, f, v, e1, k, k1, k2⟩ := r.exn j x d h
    have hd : dx ≠ p := fun z => by
      obtain ⟨vs, hp⟩ := hp
      rw [z, hp] at k1; cases k1
    exact ⟨a, dx, f, v, e1, k, by rw [upd_ne hd]; exact k1, k2⟩
theorem setV_own {i : Nat} {d : D} (e : setV ρ i d = some ρ2) {j : Nat} {dj : List D} (h : ρ2[j]? = some (Sl.own dj)) : ρ[j]? = some (Sl.own dj) := by
  unfold setV at e
  have e2 : ρ2 = ρ.set i (.val d) := by
    cases q : ρ[i]? with
    | none => rw [q] at e; cases e
    | some s =>
      rw [q] at e
      cases s with
      | own ds => cases e
      | no => cases e; rfl
      | val _ => cases e; rfl
      | exn _ _ => cases e; rfl
  rw [e2] at h
  by_cases hi : i = j
  · subst hi
    have hlt : i < ρ.length := by
      have := (List.getElem?_eq_some_iff.mp h).1
      rw [List.length_set] at this; exact this
    rw [List.getElem?_set_self hlt] at h
    cases h
  · rw [List.getElem?_set_ne hi] at h; exact h
theorem bindN_own : ∀ {is : List Nat} {ds : List D} {ρ ρ2 : En}, bindN ρ is ds = some ρ2 → ∀ {j : Nat} {dj : List D}, ρ2[j]? = some (Sl.own dj) → ρ[j]? = some (Sl.own dj)
  | [], [], _, _, e, _, _, h => by cases e; exact h
  | [], _ :: _, _, _, e, _, _, _ => by cases e
  | _ :: _, [], _, _, e, _, _, _ => by cases e
  | i :: is, d :: ds, ρ, ρ2, e, j, dj, h => by
    unfold bindN at e
    cases q : setV ρ i d with
    | none => rw [q] at e; cases e
    | some ρ1 => rw [q] at e; exact setV_own q (bindN_own e h)
theorem bindT_own {t : Tgt} {d : D} (e : bindT t d ρ = some ρ2) {j : Nat} {dj : List D} (h : ρ2[j]? = some (Sl.own dj)) : ρ[j]? = some (Sl.own dj) := by
  cases t with
  | n i => exact setV_own e h
  | t is =>
    cases d <;> first | (cases e; done) | exact bindN_own e h
theorem wipe_wipe (vs : List Nat) : L2.wipe (L2.wipe σ vs) vs = L2.wipe σ vs := by
  refine List.ext_getElem? fun j => ?_
  by_cases hj : j ∈ vs
  · by_cases hl : j < σ.length
    · rw [wipe_in hj (by rw [wipe_length]; exact hl), wipe_in hj hl]
    · rw [List.getElem?_eq_none (by rw [wipe_length, wipe_length]; omega), List.getElem?_eq_none (by rw [wipe_length]; omega)]
  · rw [wipe_out hj]
theorem free_back {vs : List Nat} (h : freeE ρ vs = true) : freeE (backE ρ ρ2 vs) vs = true := by
  have key : ∀ i ∈ vs, ∀ s, (backE ρ ρ2 vs)[i]? = some s → ρ[i]? = some s ∨ s = .no := fun i hi s e => by
    have e2 := backE_in hi _ e
    rw [List.getD_eq_getElem?_getD] at e2
    cases e3 : ρ[i]? with
    | none => rw [e3] at e2; exact .inr e2
    | some z =>
      rw [e3] at e2
      have e4 : s = z := e2
      exact .inl (by rw [e4])
  refine List.all_eq_true.mpr fun i hi => ?_
  have q := List.all_eq_true.mp h i hi
  split
  · rename_i ds e
    rcases key i hi _ e with k | k
    · rw [k] at q; exact q
    · cases k
  · rename_i x d e
    rcases key i hi _ e with k | k
    · rw [k] at q; exact q
    · cases k
  · rfl
end

abbrev W0 : WX := fun _ _ _ _ => False
/-- no exception is at hand -/
def NoXa (c : C0) : Prop := ∀ a dx x f, ¬ c.xa a dx x f
def rdEx (g : Gx) (K : PySem.W.Frag) (e : EvF Rv) : TE := fun σ H Q => ∃ c : {c : C0 // NoXa c}, rdE g K c.1 W0 e σ H Q
def rdTx (g : Gx) (K : PySem.W.Frag) (e : EvF Bool) : TT := fun σ H Q => ∃ c : {c : C0 // NoXa c}, rdT g K c.1 W0 e σ H Q
theorem PE_ex {X : Cx} {e : Expr} {α : Type} {t : α → TE} (h : ∀ a, PE X e (t a)) : PE X e (fun σ H Q => ∃ a, t a σ H Q) := ⟨fun pins s σ H Q I ⟨a, q⟩ => (h a).run pins s σ H Q I q⟩
theorem PT_ex {X : Cx} {e : Expr} {α : Type} {t : α → TT} (h : ∀ a, PT X e (t a)) : PT X e (fun σ H Q => ∃ a, t a σ H Q) := ⟨fun pins s σ H Q I ⟨a, q⟩ => (h a).run pins s σ H Q I q⟩

theorem lc_end {g : Gx} {K : PySem.W.Frag} {c : C0} {ρ ρ' : En} {σ : L2.St} {Hf H : Hp} {J : It} {xs ys : List D} {own : List Nat} {t : Tgt} {ifs : EvF Bool} {elt : EvF Rv} {Q : VK} {D0 : Addr}
    (hno : NoXa c) (r : R K c ρ σ Hf H) (fr : freeE ρ own = true) (it : ItOk K J xs Hf) (hs : ∀ i ∈ tgOwn t, i ∈ own) (hgo : lcGo t own (lcBody ifs elt) xs [] ρ = .ok ys ρ') (hD : H D0 = none)
    (hq : ∀ H' Hf' vs, R K c ρ' σ Hf' H' → Same Hf Hf' → H' D0 = some (.lst vs) → Hf' D0 = none → (∀ (j : Nat) (dj : List D), ρ'[j]? = some (Sl.own dj) → σ[j]? ≠ some (some (.ref D0))) → Reps K Hf' vs ys → ys.length ≤ lim → Q (.ref D0) H') :
    ∃ W : Nat → Nat → Hp → Prop, (∃ m, W 0 m (upd H D0 (.lst []))) ∧ ∀ i m H, W i m H →
      (J.stop i H ∧ Q (.ref D0) H) ∨ (J.go i H ∧ ∃ Nx : Hp → Prop, (∀ H', Nx H' → ∃ m', m' < m ∧ W (i + 1) m' H') ∧ ∀ x H', J.yld i H x H' → gT K t x (L2.wipe σ own) H' fun σ2 H2 => L2.wipe σ2 own = L2.wipe σ own ∧ rdTx g K ifs σ2 H2 fun b H3 =>
        if b = true then rdEx g K elt σ2 H3 fun y H4 => ∃ acc, H4 D0 = some (.lst acc) ∧ acc.length < sizeLine ∧ Nx (upd H4 D0 (.lst (acc ++ [y]))) else Nx H3) := by
  have c0 : c.H D0 = none := r.fresh hD
  let In (i : Nat) (H' : Hp) : Prop := ∃ ρi acc vs Hfi, i ≤ xs.length ∧ lcGo t own (lcBody ifs elt) (xs.drop i) acc ρi = .ok ys ρ' ∧ R K c ρi σ Hfi H' ∧ freeE ρi own = true ∧ H' D0 = some (.lst vs) ∧ Hfi D0 = none ∧ Reps K Hfi vs acc ∧ Same Hf Hfi ∧
    ∀ (j : Nat) (dj : List D), ρi[j]? = some (Sl.own dj) → σ[j]? ≠ some (some (.ref D0))
  refine ⟨fun i m H' => m = xs.length - i ∧ In i H', ⟨_, rfl, ρ, [], [], Hf, Nat.zero_le _, hgo, r.adv (Adv.new' r.sub hD), fr, upd_same, r.sub.free hD, .nil, Same.refl _, r.none_own hD⟩, ?_⟩
  rintro i m H1 ⟨rfl, ρi, acc, vs, Hfi, hi, hg, ri, fi, d1, d2, d3, sf, dn⟩
  by_cases hlt : i < xs.length
  · refine .inr ⟨it.go i H1 (sf.trans ri.sub) hlt, In (i + 1), fun H' h => ⟨xs.length - (i + 1), by omega, rfl, h⟩, fun x H' y => ?_⟩
    obtain ⟨e, d, hd, hr⟩ := it.yld i H1 x H' (sf.trans ri.sub) y hlt
    subst e
    have hx : xs.drop i = d :: xs.drop (i + 1) := by
      rw [List.drop_eq_getElem_cons hlt]
      have := List.getElem?_eq_getElem hlt
      rw [hd] at this
      cases this
      rfl
    rw [hx] at hg
    unfold lcGo at hg
    cases e1 : bindT t d (wipeE ρi own) with
    | none => rw [e1] at hg; cases hg
    | some ρ1 =>
      rw [e1] at hg
      simp only at hg
      cases e2 : lcBody ifs elt ρ1 with
      | bad => rw [e2] at hg; cases hg
      | exc _ _ _ => rw [e2] at hg; cases hg
      | ok o ρ2 =>
        rw [e2] at hg
        simp only at hg
        split at hg
        · rename_i hck
          obtain ⟨hf2, hl⟩ := and3 hck
          have hl := of_decide_eq_true hl
          refine gT_ok (ri.wipe fi) e1 (hr.mono sf) fun σ2 r1 hw => ⟨by rw [hw own hs, wipe_wipe], ?_⟩
          have hw2 : L2.wipe σ2 own = L2.wipe σ own := by rw [hw own hs, wipe_wipe]
          have rs := r1.snap
          have cD : (Mini.snap c ρ1 σ2 Hfi H').H D0 = some (.lst vs) := d1
          -- behind the body: the entry of the turn, then the outer one
          have fin : ∀ {ρ3 : En} {Hf3 H3 : Hp}, R K (Mini.snap c ρ1 σ2 Hfi H') ρ3 σ2 Hf3 H3 → (∀ j dj, ρ1[j]? = some (Sl.own dj) → σ2[j]? ≠ some (some (V.ref D0))) →
              R K c (backE ρi ρ3 own) σ Hf3 H3 ∧ H3 D0 = some (.lst vs) ∧ Hf3 D0 = none ∧ (∀ (j : Nat) (dj : List D), (backE ρi ρ3 own)[j]? = some (Sl.own dj) → σ[j]? ≠ some (some (.ref D0))) := fun {ρ3 Hf3 H3} r3 h1 => by
            have np : ∀ i, (i, D0) ∉ (Mini.snap c ρ1 σ2 Hfi H').ps := fun i hi => by
              obtain ⟨⟨ds, k1⟩, k2⟩ := mem_snap.mp hi
              exact h1 i ds k1 k2
            have rl := r1.lift r3
            have rb := ri.back r3.f0 rl hw2 fi
            refine ⟨rb, r3.keep _ _ cD np, r3.out _ _ cD d2, fun j dj e s => ?_⟩
            obtain ⟨p, ws, s2, _, _, _, _, k5⟩ := rb.own j dj e
            rw [s] at s2
            cases s2
            have hj : j ∉ own := free_not (free_back fi) e
            rw [backE_out hj] at e
            have sj : σ2[j]? = σ[j]? := by rw [← wipe_out (σ := σ2) hj, hw2, wipe_out hj]
            obtain ⟨p, _, t2, _, _, _, _, t5⟩ := r3.own j dj e
            rw [sj, s] at t2
            cases t2
            rcases t5 with t5 | t5
            · exact np j t5
            · rw [cD] at t5; cases t5
          have h1 : ∀ j dj, ρ1[j]? = some (Sl.own dj) → σ2[j]? ≠ some (some (V.ref D0)) := fun j dj e s => by
            have e6 := bindT_own e1 e
            by_cases hj : j ∈ own
            · cases wipeE_in hj _ e6
            · rw [wipeE_out hj] at e6
              refine dn j dj e6 ?_
              rw [← wipe_out (σ := σ) hj, ← hw2, wipe_out hj]
              exact s
          unfold lcBody at e2
          cases e3 : ifs ρ1 with
          | bad => rw [e3] at e2; cases e2
          | exc _ _ _ => rw [e3] at e2; cases e2
          | ok k ρ3 =>
            rw [e3] at e2
            have e2 : (if k = true then (elt ρ3).bind fun y ρ => O.opt ((asD y).map some) ρ else O.ok none ρ3) = O.ok o ρ2 := e2
            refine ⟨⟨Mini.snap c ρ1 σ2 Hfi H', hno⟩, Hfi, ρ1, rs, ?_⟩
            rw [e3]
            intro H3 Hf3 r3 s3
            cases k with
            | false =>
              rw [if_neg Bool.false_ne_true] at e2 ⊢
              cases e2
              obtain ⟨q1, q2, q3, q4⟩ := fin r3 h1
              exact ⟨_, acc, vs, Hf3, hlt, by simpa using hg, q1, free_back fi, q2, q3, d3.mono s3, sf.trans s3, q4⟩
            | true =>
              rw [if_pos rfl] at e2 ⊢
              cases e4 : elt ρ3 with
              | bad => rw [e4] at e2; cases e2
              | exc _ _ _ => rw [e4] at e2; cases e2
              | ok rv ρ4 =>
                rw [e4] at e2
                have e2 : O.opt ((asD rv).map some) ρ4 = O.ok o ρ2 := e2
                cases e5 : asD rv with
                | none => rw [e5] at e2; cases e2
                | some z =>
                  rw [e5] at e2
                  cases e2
                  cases asD_eq e5
                  refine ⟨⟨Mini.snap c ρ1 σ2 Hfi H', hno⟩, Hf3, ρ3, r3, ?_⟩
                  rw [e4]
                  intro H4 Hf4 r4 s4 v hv
                  obtain ⟨q1, q2, q3, q4⟩ := fin r4 h1
                  have hlen : vs.length = acc.length := d3.length
                  refine ⟨vs, q2, by rw [hlen]; exact Nat.lt_of_lt_of_le hl lim_line, ?_⟩
                  exact ⟨_, acc ++ [z], vs ++ [v], Hf4, hlt, hg, q1.mutN ⟨_, q2⟩ q3 c0 q4, free_back fi, upd_same, q3, (d3.mono (s3.trans s4)).append (.cons hv .nil), sf.trans (s3.trans s4), q4⟩
        · cases hg
  · have e : i = xs.length := by omega
    subst e
    rw [List.drop_length] at hg
    unfold lcGo at hg
    split at hg
    · rename_i hl
      cases hg
      exact .inl ⟨it.stop _ _ (sf.trans ri.sub) rfl, hq H1 Hfi vs ri sf d1 d2 dn d3 hl⟩
    · cases hg
end Mini
end

section
set_option Elab.async false
set_option linter.all false
set_option maxRecDepth 100000
set_option maxHeartbeats 4000000
/-! M13: every expression. -/
namespace Mini
open PySem L2

theorem boot_bi (b : BI) : bootBuiltins (biN b) = some (biV b) := by cases b <;> decide +kernel
theorem boot_tyN (t : Ty) (h : t = .int ∨ t = .bool ∨ t = .str ∨ t = .tup ∨ t = .lst) : bootBuiltins (tyN t : Str) = some (.type (tyN t)) := by
  rcases h with rfl | rfl | rfl | rfl | rfl <;> decide +kernel
theorem biN_free (b : BI) : biN b ∈ freeNames := by cases b <;> decide +kernel
theorem tyN_free (t : Ty) (h : t = .int ∨ t = .bool ∨ t = .str ∨ t = .tup ∨ t = .lst) : (tyN t : Str) ∈ freeNames := by
  rcases h with rfl | rfl | rfl | rfl | rfl <;> decide +kernel
theorem c_biM {X : Cx} {cm : Bool} (hc : cm = true → X.calm = true) (hu : X.A.units + 64 < cLine) (b : BI) (h : (cm || !biCalm b) = true) : CallR X (biV b) (rC X.K (bi b)) := by
  by_cases hb : biCalm b = true
  · rw [hb] at h
    exact c_bi (hc (by simpa using h)) hu b
  · cases b <;> first
      | exact c_len
      | exact c_abs
      | exact c_int
      | exact c_str
      | exact c_list
      | exact c_tuple
      | exact absurd rfl hb
      | (intro _ _ _ _ _ _ _ _ _ ⟨_, ds, _, _, _, e, _⟩
         unfold bi at e
         split at e <;> first | (cases e; done) | simp_all)
theorem pe_biM {X : Cx} {cm : Bool} {b : BI} {e : Expr} {es : List Expr} {t : TA} {p pos : Pos} (hc : cm = true → X.calm = true) (hu : X.A.units + 64 < cLine) (h : (cm || !biCalm b) = true) (hg : Gl X (biN b)) (hm : X.mg (biN b) = none) (ha : PA X (e :: es) t) (hn : biN b ≠ "__name__") (hdb : (biN b == ("__debug__" : Str)) = false)
    (he : starEach (e :: es) X.env = (false, eval e X.env) :: starEach es X.env) (hpl : (backTo pos (starEach es X.env)).any (·.1) = false) : PE X (.Call (.Name (biN b) p) (e :: es) [] pos) (tCB (rC X.K (bi b)) t) := by
  have c := c_biM hc hu b h
  have bt := boot_bi b
  cases b <;> first
    | exact pe_callB c hg hm bt ha hn hdb he hpl
    | exact pe_callTy c hg hm bt ha hn hdb he hpl
theorem mt_meM {X : Cx} (m : ME) (h : meOk m = true) : MtR X (meId m) (rM X.K (me m)) := by
  cases m with
  | join => exact mt_joinM
  | split => exact mt_splitM
  | startswith => exact mt_startM
  | index => exact mt_indexM
  | count => cases h
theorem me_slot (m : ME) (h : meOk m = true) : Slot "str" (meN m) (meId m) ∧ typeOf (.builtin (meId m)) = pure (.type "method_descriptor") := by
  cases m with
  | join => exact ⟨PySem.F.slot_str_join, PySem.F.type_str_join⟩
  | split => exact ⟨PySem.F.slot_str_split, PySem.F.type_str_split⟩
  | startswith => exact ⟨PySem.F.slot_str_startswith, PySem.F.type_str_startswith⟩
  | index => exact ⟨PySem.F.slot_str_index, PySem.F.type_str_index⟩
  | count => cases h
theorem me_str {m : ME} {x : D} {ds : List D} {d : D} (h : me m x ds = some d) : ∃ s, x = .str s := by
  cases x with
  | str s => exact ⟨s, rfl⟩
  | _ => cases m <;> cases h

theorem asS_eq {x : D} {s : List Nat} (h : asS x = some s) : x = .str s := by
  cases x <;> first | (cases h; rfl) | cases h
theorem post.ass {g : Gx} {K : PySem.W.Frag} {c : C0} {W : WX} {σ : L2.St} {γ : Type} {Hf : Hp} {ρ : En} {x : D} {f : List Nat → En → O γ} {k : γ → En → Hp → Hp → Prop} (h : post g K c W σ Hf k ((O.opt (asS x) ρ).bind f)) : ∃ i, x = .str i ∧ post g K c W σ Hf k (f i ρ) := by
  obtain ⟨d, e, h2⟩ := h.optb
  exact ⟨d, asS_eq e, h2⟩
theorem rep_str {K : PySem.W.Frag} {Hf : Hp} {v : V} {i : List Nat} (h : Rep K Hf v (.str i)) : v = .str (sOf i) := by cases h; rfl
section
variable {g : Gx} {cm : Bool} {X : Cx} {c : C0} {W : WX}
theorem po_M {e : Expr} {t : EvF Rv} (h : PE X e (rdE g X.K c W t)) : PO X (some e) (tPart (rdE g X.K c W t)) := po_some h
theorem ty_ok {t : Ty} {e : Expr} (hc : Ctx cm X) (h : tyB t X.env.scope e = true) : PE X e (tC (.ty (tyN t))) ∧ t ≠ .non := by
  unfold tyB at h
  split at h
  · rename_i x pos
    obtain ⟨h, h3⟩ := and3 h
    obtain ⟨h1, h2⟩ := and3 h
    have h1 := of_decide_eq_true h1
    have h3 := of_decide_eq_true h3
    subst h1
    obtain ⟨g1, g2, g3⟩ := gl_ok h2
    refine ⟨pe_bltn g1 (hc.fre _ (tyN_free t h3)) (boot_tyN t h3) rfl g3 g2, fun z => ?_⟩
    subst z
    rcases h3 with h | h | h | h | h <;> cases h
  · cases h
theorem tys_ok (hc : Ctx cm X) : ∀ {ts : List Ty} {es : List Expr}, tysB X.env.scope ts es = true → PA X es (fun _ H Q => Q (ts.map fun t => .ty (tyN t)) H) ∧ ∀ t ∈ ts, t ≠ .non
  | [], [], _ => ⟨PA_imp pa_nil fun _ _ _ h => h, fun t ht => by cases ht⟩
  | [], _ :: _, h => by cases h
  | _ :: _, [], h => by cases h
  | t :: ts, e :: es, h => by
    obtain ⟨h, h3⟩ := and3 (show (plainB e && tyB t X.env.scope e && tysB X.env.scope ts es) = true from h)
    obtain ⟨h1, h2⟩ := and3 h
    obtain ⟨k1, k2⟩ := ty_ok hc h2
    obtain ⟨k3, k4⟩ := tys_ok hc h3
    exact ⟨PA_imp (pa_cons k1 k3 (star_plain h1)) fun _ _ _ h => h, fun u hu => by
      rcases List.mem_cons.mp hu with rfl | hu
      · exact k2
      · exact k4 u hu⟩
end

/-! ### lists of expressions -/
abbrev SE (g : Gx) (X : Cx) (c : C0) (W : WX) (e' : E) (e : Expr) : Prop := PE X e (rdE g X.K c W (evE e')) ∧ (tOk e' = true → PT X e (rdT g X.K c W (evT e')))
inductive AllE (g : Gx) (X : Cx) (c : C0) (W : WX) : List E → List Expr → Prop
  | nil : AllE g X c W [] []
  | cons {e' : E} {e : Expr} {es' : List E} {es : List Expr} : plainB e = true → SE g X c W e' e → AllE g X c W es' es → AllE g X c W (e' :: es') (e :: es)
section
variable {g : Gx} {cm : Bool} {X : Cx} {c : C0} {W : WX} {es' : List E} {es : List Expr} {pos : Pos}
theorem AllE.pa (h : AllE g X c W es' es) : PA X es (rdA g X.K c W (evEs es')) := by
  induction h with
  | nil => exact PA_imp pa_nil fun σ H Q ⟨Hf, ρ, r, h⟩ => (post.now h r) [] .nil
  | cons hp hs _ ih =>
    refine PA_imp (pa_cons hs.1 ih (star_plain hp)) fun σ H Q ⟨Hf, ρ, r, h⟩ => ?_
    unfold evEs at h
    refine post.run r h fun rv ρ1 Hf1 H1 v r1 s1 hv h1 => post.runA r1 h1 fun rvs ρ2 Hf2 H2 vs r2 s2 hvs h2 => ?_
    exact post.now h2 r2 (v :: vs) (.cons (hv.mono s2) hvs)
theorem AllE.any (h : AllE g X c W es' es) {env : PySem.Env} : (backTo pos (starEach es env)).any (·.1) = false := by
  induction h with
  | nil => rfl
  | cons hp _ _ ih =>
    rw [star_plain hp]
    show (false || (backTo pos (starEach _ env)).any (·.1)) = false
    rw [ih] <;> rfl
theorem AllE.all (h : AllE g X c W es' es) {env : PySem.Env} : (backTo pos (starEach es env)).all (fun x => !x.1) = true := by
  induction h with
  | nil => rfl
  | cons hp _ _ ih =>
    rw [star_plain hp]
    show (!false && (backTo pos (starEach _ env)).all (fun x => !x.1)) = true
    rw [ih] <;> rfl
theorem AllE.and (h : AllE g X c W es' es) : PE X (.BoolOp .And es pos) (rdE g X.K c W (evAnd es')) := by
  induction h with
  | nil => exact ⟨fun _ _ _ _ _ _ ⟨_, _, _, h⟩ => h.elim⟩
  | cons hp hs t ih =>
    cases t with
    | nil => exact pe_one hs.1
    | cons _ _ _ =>
      refine PE_imp (pe_and hs.1 ih) fun σ H Q ⟨Hf, ρ, r, h⟩ => ?_
      unfold evAnd at h
      refine post.run r h fun rv ρ1 Hf1 H1 v r1 s1 hv h1 => ?_
      obtain ⟨d, rfl, h2⟩ := h1.asd
      obtain ⟨b, rfl, h3⟩ := h2.asb
      refine ⟨b, rep_bl hv, ?_⟩
      cases b with
      | true =>
        rw [if_pos rfl] at h3 ⊢
        exact ⟨Hf1, ρ1, r1, h3⟩
      | false =>
        rw [if_neg Bool.false_ne_true] at h3 ⊢
        exact (h3.okd r1).now r1.sub (.bl _)
theorem AllE.or (h : AllE g X c W es' es) : PE X (.BoolOp .Or es pos) (rdE g X.K c W (evOr es')) := by
  induction h with
  | nil => exact ⟨fun _ _ _ _ _ _ ⟨_, _, _, h⟩ => h.elim⟩
  | cons hp hs t ih =>
    cases t with
    | nil => exact pe_one hs.1
    | cons _ _ _ =>
      refine PE_imp (pe_or hs.1 ih) fun σ H Q ⟨Hf, ρ, r, h⟩ => ?_
      unfold evOr at h
      refine post.run r h fun rv ρ1 Hf1 H1 v r1 s1 hv h1 => ?_
      obtain ⟨d, rfl, h2⟩ := h1.asd
      obtain ⟨b, rfl, h3⟩ := h2.asb
      refine ⟨b, rep_bl hv, ?_⟩
      cases b with
      | false =>
        rw [if_neg Bool.false_ne_true] at h3 ⊢
        exact ⟨Hf1, ρ1, r1, h3⟩
      | true =>
        rw [if_pos rfl] at h3 ⊢
        exact (h3.okd r1).now r1.sub (.bl _)
/-- the value of an evaluation, as a bool -/
def asT (e : EvF Rv) : EvF Bool := fun ρ => (e ρ).bind fun x ρ => (O.opt (asD x) ρ).bind fun x ρ => O.opt (asB x) ρ
theorem asT_bind {e : EvF Rv} {ρ : En} {β : Type} {f : Bool → En → O β} : (asT e ρ).bind f = (e ρ).bind fun x ρ => (O.opt (asD x) ρ).bind fun x ρ => (O.opt (asB x) ρ).bind f := by
  unfold asT
  cases e ρ with
  | bad => rfl
  | exc _ _ _ => rfl
  | ok rv ρ1 =>
    cases rv with
    | o i => rfl
    | d x => cases x <;> rfl
theorem asT_id {e : EvF Rv} {ρ : En} : asT e ρ = (asT e ρ).bind fun b ρ => .ok b ρ := by
  cases asT e ρ <;> rfl
theorem asT_and {a' b' : E} {qs' : List E} {ρ : En} : asT (evAnd (a' :: b' :: qs')) ρ = (evT a' ρ).bind fun k ρ => if k = true then asT (evAnd (b' :: qs')) ρ else .ok false ρ := by
  show ((evAnd (a' :: b' :: qs') ρ).bind _) = (asT (evE a') ρ).bind _
  rw [asT_bind]
  unfold evAnd
  cases evE a' ρ with
  | bad => rfl
  | exc _ _ _ => rfl
  | ok rv ρ1 =>
    cases rv with
    | o i => rfl
    | d x =>
      cases x with
      | bl b => cases b <;> rfl
      | _ => rfl
theorem AllE.andT (h : AllE g X c W es' es) : tOks es' = true → PW X (.BoolOp .And es pos) (rdT g X.K c W (asT (evAnd es'))) := by
  induction h with
  | nil => exact fun _ => ⟨fun _ _ _ _ _ _ _ ⟨_, _, _, h⟩ => h.elim⟩
  | cons hp hs t ih =>
    intro ht
    obtain ⟨t1, t2⟩ := and3 ht
    cases t with
    | nil => exact pw_and1 (hs.2 t1)
    | cons _ _ _ =>
      have k := pw_and (pos := pos) (hs.2 t1) (ih t2)
      refine ⟨fun wh pins s σ H Q I ⟨Hf, ρ, r, h⟩ => k.run wh pins s σ H Q I ?_⟩
      rw [asT_and] at h
      refine post.runT r h fun b ρ1 Hf1 H1 r1 s1 h1 => ?_
      cases b with
      | true =>
        rw [if_pos rfl] at h1 ⊢
        exact ⟨Hf1, ρ1, r1, h1⟩
      | false =>
        rw [if_neg Bool.false_ne_true] at h1 ⊢
        exact h1.now r1
theorem asT_or {a' b' : E} {qs' : List E} {ρ : En} : asT (evOr (a' :: b' :: qs')) ρ = (evT a' ρ).bind fun k ρ => if k = true then .ok true ρ else asT (evOr (b' :: qs')) ρ := by
  show ((evOr (a' :: b' :: qs') ρ).bind _) = (asT (evE a') ρ).bind _
  rw [asT_bind]
  unfold evOr
  cases evE a' ρ with
  | bad => rfl
  | exc _ _ _ => rfl
  | ok rv ρ1 =>
    cases rv with
    | o i => rfl
    | d x =>
      cases x with
      | bl b => cases b <;> rfl
      | _ => rfl
theorem AllE.orT (h : AllE g X c W es' es) : tOks es' = true → PW X (.BoolOp .Or es pos) (rdT g X.K c W (asT (evOr es'))) := by
  induction h with
  | nil => exact fun _ => ⟨fun _ _ _ _ _ _ _ ⟨_, _, _, h⟩ => h.elim⟩
  | cons hp hs t ih =>
    intro ht
    obtain ⟨t1, t2⟩ := and3 ht
    cases t with
    | nil => exact pw_or1 (hs.2 t1)
    | cons _ _ _ =>
      have k := pw_or (pos := pos) (hs.2 t1) (ih t2)
      refine ⟨fun wh pins s σ H Q I ⟨Hf, ρ, r, h⟩ => k.run wh pins s σ H Q I ?_⟩
      rw [asT_or] at h
      refine post.runT r h fun b ρ1 Hf1 H1 r1 s1 h1 => ?_
      cases b with
      | false =>
        rw [if_neg Bool.false_ne_true] at h1 ⊢
        exact ⟨Hf1, ρ1, r1, h1⟩
      | true =>
        rw [if_pos rfl] at h1 ⊢
        exact h1.now r1
/-! ### comparisons -/
section
variable {K : PySem.W.Frag} {a b d : E} {σ : L2.St} {H : Hp} {Q : VK}
theorem rd_cmp {o : COp} (h : rdE g K c W (evE (.cmp o a b)) σ H Q) : tOp (rB K fun x y => (cop o x y).map .bl) (rdE g K c W (evE a)) (rdE g K c W (evE b)) σ H Q := by
  obtain ⟨Hf, ρ, r, h⟩ := h
  unfold evE at h
  refine post.run r h fun rv ρ1 Hf1 H1 v r1 s1 hv h1 => post.run r1 h1 fun rv2 ρ2 Hf2 H2 v2 r2 s2 hv2 h2 => ?_
  obtain ⟨x, ex, h3⟩ := h2.optb
  obtain ⟨y, ey, h4⟩ := h3.optb
  obtain ⟨z, hd, hp⟩ := h4.finB r2
  exact ⟨Hf2, x, y, .bl z, r2.sub, (hv.mono s2).deref r2 ex, hv2.deref r2 ey, by show (cop o x y).map _ = _; rw [hd]; rfl, hp⟩
theorem rd_chn {o p : COp} (h : rdE g K c W (evE (.chn o p a b d)) σ H Q) : tChain (rB K fun x y => (cop o x y).map .bl) (rB K fun x y => (cop p x y).map .bl) (rdE g K c W (evE a)) (rdE g K c W (evE b)) (rdE g K c W (evE d)) σ H Q := by
  obtain ⟨Hf, ρ, r, h⟩ := h
  unfold evE at h
  refine post.run r h fun rv ρ1 Hf1 H1 v r1 s1 hv h1 => post.run r1 h1 fun rv2 ρ2 Hf2 H2 v2 r2 s2 hv2 h2 => ?_
  obtain ⟨x, rfl, h3⟩ := h2.asd
  obtain ⟨y, rfl, h4⟩ := h3.asd
  obtain ⟨z, ez, h5⟩ := h4.optb
  refine ⟨Hf2, x, y, .bl z, r2.sub, .inl (Rep.mono s2 hv), .inl hv2, by show (cop o x y).map _ = _; rw [ez]; rfl, fun v3 H3 Hf3 ad rep => ?_⟩
  cases rep
  refine ⟨z, rfl, ?_⟩
  cases z with
  | false =>
    rw [if_neg Bool.false_ne_true] at h5 ⊢
    exact h5 H3 Hf3 (r2.adv ad) ad.f _ (.bl _)
  | true =>
    rw [if_pos rfl] at h5 ⊢
    refine post.run (r2.adv ad) (h5.mono ad.f fun _ _ _ _ z => z) fun rv3 ρ3 Hf4 H4 v4 r4 s4 hv4 h6 => ?_
    obtain ⟨w, rfl, h7⟩ := h6.asd
    obtain ⟨t, hd, hp⟩ := h7.finB r4
    exact ⟨Hf4, y, w, .bl t, r4.sub, .inl (Rep.mono (ad.f.trans s4) hv2), .inl hv4, by show (cop p y w).map _ = _; rw [hd]; rfl, hp⟩
end
theorem k_cmp {o : COp} {op : CmpOp} {a b : E} {p q : Expr} (hc : Ctx cm X) (ho : copB o op = true) (hp : plainB q = true) (ha : PE X p (rdE g X.K c W (evE a))) (hb : PE X q (rdE g X.K c W (evE b))) : SE g X c W (.cmp o a b) (.Compare p [op] [q] pos) := by
  cases cop_ok ho
  exact ⟨PE_imp (pe_cmpR (op_cop hc.un o) ha hb (mark_of hp)) fun σ H Q h => rd_cmp h, fun _ => PT_imp (pt_cmpR (op_cop hc.un o) ha hb (mark_of hp)) fun σ H Q h => rd_cmp (rdT_E h)⟩
theorem k_chn {o o2 : COp} {op op2 : CmpOp} {a b d : E} {p q t : Expr} (hc : Ctx cm X) (ho : copB o op = true) (ho2 : copB o2 op2 = true) (hp2 : plainB t = true) (ha : PE X p (rdE g X.K c W (evE a))) (hb : PE X q (rdE g X.K c W (evE b))) (hd : PE X t (rdE g X.K c W (evE d))) :
    SE g X c W (.chn o o2 a b d) (.Compare p [op, op2] [q, t] pos) := by
  cases cop_ok ho
  cases cop_ok ho2
  have hm : lastMarks [copP o, copP o2] [q, t] = false := mark_of (op := copP o2) hp2
  exact ⟨PE_imp (pe_chain (op_cop hc.un o) (op_cop hc.un o2) ha hb hd hm) fun σ H Q h => rd_chn h, fun _ => PT_imp (pt_chain (op_cop hc.un o) (op_cop hc.un o2) ha hb hd hm) fun σ H Q h => rd_chn (rdT_E h)⟩
theorem k_and (h : AllE g X c W es' es) : SE g X c W (.and es') (.BoolOp .And es pos) := ⟨h.and, fun t => (h.andT t).pt⟩
theorem k_or (h : AllE g X c W es' es) : SE g X c W (.or es') (.BoolOp .Or es pos) := ⟨h.or, fun t => (h.orT t).pt⟩
theorem k_ite {t a b : E} {p q s : Expr} (ht : tOk t = true) (h1 : SE g X c W t p) (h2 : SE g X c W a q) (h3 : SE g X c W b s) : SE g X c W (.ite t a b) (.IfExp p q s pos) := by
  refine ⟨PE_imp (pe_ifExp (h1.2 ht) h2.1 h3.1) fun σ H Q ⟨Hf, ρ, r, h⟩ => ?_, fun z => by cases z⟩
  have e : evE (.ite t a b) ρ = (evT t ρ).bind fun k ρ => if k = true then evE a ρ else evE b ρ := by
    show _ = (asT (evE t) ρ).bind _
    rw [asT_bind]
    conv => lhs; unfold evE
  rw [e] at h
  refine post.runT r h fun b ρ1 Hf1 H1 r1 s1 h1 => ?_
  cases b with
  | true =>
    rw [if_pos rfl] at h1 ⊢
    exact ⟨Hf1, ρ1, r1, h1⟩
  | false =>
    rw [if_neg Bool.false_ne_true] at h1 ⊢
    exact ⟨Hf1, ρ1, r1, h1⟩
theorem k_tup {x1} (h : AllE g X c W es' es) : SE g X c W (.tup es') (.Tuple es x1 pos) := by
  have k : PE X (.Tuple es x1 pos) (rdE g X.K c W (evE (.tup es'))) := PE_imp (pe_tup h.pa) fun σ H Q ⟨Hf, ρ, r, h⟩ => by
    unfold evE at h
    refine post.runA r h fun rvs ρ1 Hf1 H1 vs r1 s1 hvs h1 => ?_
    obtain ⟨ds, ed, h2⟩ := h1.optb
    have rs := hvs.asDs ed
    split at h2
    · rename_i hl
      exact ⟨by rw [rs.length]; exact line_lim hl, (h2.okd r1).tup r1.sub rs hl⟩
    · exact h2.elim
  exact ⟨k, fun _ => PT_of k (by intro _; rfl)⟩
theorem k_lst (h : AllE g X c W es' es) : SE g X c W (.lst es') (.List es pos) := by
  have k : PE X (.List es pos) (rdE g X.K c W (evE (.lst es'))) := PE_imp (pe_lst h.pa) fun σ H Q ⟨Hf, ρ, r, h⟩ => by
    unfold evE at h
    refine post.runA r h fun rvs ρ1 Hf1 H1 vs r1 s1 hvs h1 => ?_
    obtain ⟨ds, ed, h2⟩ := h1.optb
    have rs := hvs.asDs ed
    split at h2
    · rename_i hl
      exact ⟨by rw [rs.length]; exact line_lim hl, (h2.okd r1).lst r1.sub rs hl⟩
    · exact h2.elim
  exact ⟨k, fun _ => PT_of k (by intro _; rfl)⟩
theorem k_call {f : CallF} {p : Pos} (hco : CallOk g (wd X) f) (tk : Takes X W) (hg : glB X.env.scope f.name = true) (h : AllE g X c W es' es) : SE g X c W (.call f es') (.Call (.Name f.name p) es [] pos) := by
  obtain ⟨fa, fd, ps, k, F, rm, hm, hk, hb⟩ := hco
  obtain ⟨g1, g2, _⟩ := gl_ok hg
  have k : PE X (.Call (.Name f.name p) es [] pos) (rdE g X.K c W (evE (.call f es'))) := by
    cases h with
    | nil =>
      refine PE_imp (pe_callS0 F rm g1 hm hk hb (passAt tk) g2) fun σ H Q ⟨Hf, ρ, r, h⟩ => ?_
      exact call_end r .nil h
    | cons hp hs t =>
      refine PE_imp (pe_callS F rm g1 hm hk hb (passAt tk) (AllE.cons hp hs t).pa g2 (star_plain hp) t.any) fun σ H Q ⟨Hf, ρ, r, h⟩ => ?_
      unfold evE at h
      refine post.runA r h fun rvs ρ1 Hf1 H1 vs r1 s1 hvs h1 => ?_
      exact call_end r1 hvs h1
  exact ⟨k, fun _ => PT_of k (by intro _; rfl)⟩
theorem k_bi {b : BI} {p : Pos} (hc : Ctx cm X) (h1 : (cm || !biCalm b) = true) (hg : glB X.env.scope (biN b) = true) (hn : es'.isEmpty = false) (h : AllE g X c W es' es) : SE g X c W (.bi b es') (.Call (.Name (biN b) p) es [] pos) := by
  obtain ⟨g1, g2, g3⟩ := gl_ok hg
  have k : PE X (.Call (.Name (biN b) p) es [] pos) (rdE g X.K c W (evE (.bi b es'))) := by
    cases h with
    | nil => cases hn
    | cons hp hs t =>
      refine PE_imp (pe_biM hc.calm hc.un h1 g1 (hc.fre _ (biN_free b)) (AllE.cons hp hs t).pa g3 g2 (star_plain hp) t.any) fun σ H Q ⟨Hf, ρ, r, h⟩ => ?_
      unfold evE at h
      refine post.runA r h fun rvs ρ1 Hf1 H1 vs r1 s1 hvs h1 => ?_
      obtain ⟨ds, ed, h2⟩ := h1.optb
      obtain ⟨d, hd, hp⟩ := h2.fin r1
      exact ⟨Hf1, ds, d, r1.sub, hvs.derefs r1 ed, hd, hp⟩
  exact ⟨k, fun _ => PT_of k (by intro _; rfl)⟩
theorem k_me {m : ME} {o : E} {ob : Expr} {apos cpos : Pos} (hb : baseB ob = true) (hl : (apos.endLine == cpos.line) = true) (hm : meOk m = true) (hn : es'.isEmpty = false) (hw : es.length < 20) (ho : SE g X c W o ob) (h : AllE g X c W es' es) :
    SE g X c W (.me m o es') (.Call (.Attribute ob (meN m) apos) es [] cpos) := by
  have k : PE X (.Call (.Attribute ob (meN m) apos) es [] cpos) (rdE g X.K c W (evE (.me m o es'))) := by
    cases h with
    | nil => cases hn
    | cons hp hs t =>
      rename_i e' e es' es
      have hfew : ((backTo cpos (starEach (e :: es) X.env)).all (fun x => !x.1) && (backToKw cpos (keywordEach [] X.env)).all (fun x => x.1.isSome)
          && decide ((e :: es).length + ([] : List Keyword).length + (if ([] : List Keyword).isEmpty then 0 else 1) < 30)) = true := by
        rw [(AllE.cons hp hs t).all]
        have : decide ((e :: es).length + ([] : List Keyword).length + (if ([] : List Keyword).isEmpty then 0 else 1) < 30) = true := decide_eq_true (by
          show (e :: es).length + 0 + 0 < 30
          omega)
        rw [this]
        rfl
      refine PE_imp (pe_bm PySem.F.plainAttrs_str (me_slot m hm).1 (me_slot m hm).2 (mt_meM m hm) ho.1 (AllE.cons hp hs t).pa (base_ok hb) hfew hl (star_plain hp) t.any) fun σ H Q ⟨Hf, ρ, r, h⟩ => ?_
      unfold evE at h
      refine post.run r h fun rv ρ1 Hf1 H1 v r1 s1 hv h1 => ?_
      obtain ⟨x, rfl, h1⟩ := h1.asd
      obtain ⟨z, rfl, h1⟩ := h1.ass
      refine ⟨by rw [rep_str hv]; rfl, post.runA r1 h1 fun rvs ρ2 Hf2 H2 vs r2 s2 hvs h2 => ?_⟩
      obtain ⟨ds, ed, h4⟩ := h2.optb
      obtain ⟨d, hd, hp⟩ := h4.fin r2
      exact ⟨Hf2, .str z, ds, d, r2.sub, .inl (Rep.mono s2 hv), hvs.derefs r2 ed, hd, hp⟩
  exact ⟨k, fun _ => PT_of k (by intro _; rfl)⟩
end
end Mini
end

section
set_option Elab.async false
set_option linter.all false
set_option maxRecDepth 100000
set_option maxHeartbeats 4000000
/-! M14: the last constructors; every expression. -/
namespace Mini
open PySem L2

section
variable {g : Gx} {cm : Bool} {X : Cx} {c : C0} {W : WX} {es' : List E} {es : List Expr} {pos : Pos} {a : E} {p : Expr}
theorem tys_paired : ∀ ts : List Ty, Paired ClsV (ts.map fun t => V.ty (tyN t)) (ts.map fun t => Value.type (tyN t))
  | [] => .nil
  | t :: ts => .cons (.ty _) (tys_paired ts)
theorem k_isi1 {t : Ty} {q : Expr} {nm : Pos} (hc : Ctx cm X) (hg : glB X.env.scope ("isinstance" : Str) = true) (hp : plainB p = true) (hq : plainB q = true) (hy : tyB t X.env.scope q = true) (ha : PE X p (rdE g X.K c W (evE a))) :
    SE g X c W (.isi [t] a) (.Call (.Name ("isinstance" : Str) nm) [p, q] [] pos) := by
  obtain ⟨g1, g2, g3⟩ := gl_ok hg
  obtain ⟨k1, k2⟩ := ty_ok hc hy
  have k : PE X (.Call (.Name ("isinstance" : Str) nm) [p, q] [] pos) (rdE g X.K c W (evE (.isi [t] a))) := by
    refine PE_imp (pe_callB call_isi g1 (hc.fre _ (by decide +kernel)) (by decide +kernel) (pa_cons ha (pa_cons k1 pa_nil (star_plain hq)) (star_plain hp)) g3 g2 (star_plain hp) (by rw [star_plain hq] <;> rfl)) fun σ H Q ⟨Hf, ρ, r, h⟩ => ?_
    unfold evE at h
    refine post.run r h fun rv ρ1 Hf1 H1 v r1 s1 hv h1 => ?_
    obtain ⟨d, rfl, h2⟩ := h1.asd
    refine ⟨v, .ty (tyN t), .type (tyD d), .type (tyN t), isTy t d, rfl, .ty _, RepB.ty r1.sub (.inl hv), kit_M t d k2, ?_⟩
    have e : ([t].any fun t => isTy t d) = isTy t d := by simp
    rw [e] at h2
    exact (h2.okd r1).now r1.sub (.bl _)
  exact ⟨k, fun _ => PT_of k (by intro _; rfl)⟩
theorem k_isiT {ts : List Ty} {qs : List Expr} {x1 : Nat} {p2 nm : Pos} (hc : Ctx cm X) (hg : glB X.env.scope ("isinstance" : Str) = true) (hp : plainB p = true) (hl : ts.length < 1000) (hy : tysB X.env.scope ts qs = true) (ha : PE X p (rdE g X.K c W (evE a))) :
    SE g X c W (.isi ts a) (.Call (.Name ("isinstance" : Str) nm) [p, .Tuple qs x1 p2] [] pos) := by
  obtain ⟨g1, g2, g3⟩ := gl_ok hg
  obtain ⟨k1, k2⟩ := tys_ok hc hy
  have k : PE X (.Call (.Name ("isinstance" : Str) nm) [p, .Tuple qs x1 p2] [] pos) (rdE g X.K c W (evE (.isi ts a))) := by
    refine PE_imp (pe_callB call_isiT g1 (hc.fre _ (by decide +kernel)) (by decide +kernel) (pa_cons ha (pa_cons (pe_tup k1) pa_nil rfl) (star_plain hp)) g3 g2 (star_plain hp) rfl) fun σ H Q ⟨Hf, ρ, r, h⟩ => ?_
    unfold evE at h
    refine post.run r h fun rv ρ1 Hf1 H1 v r1 s1 hv h1 => ?_
    obtain ⟨d, rfl, h2⟩ := h1.asd
    refine ⟨by rw [List.length_map, sizeLine_eq]; omega, fun q hq => ?_⟩
    have A : Adv Hf1 H1 Hf1 (upd H1 q (.tup (ts.map fun t => V.ty (tyN t)))) := Adv.new' r1.sub hq
    exact ⟨v, q, _, .type (tyD d), _, _, rfl, upd_same, tys_paired ts, RepB.ty A.sub (.inl hv), kits_M d ts k2, h2 _ Hf1 (r1.adv A) (Same.refl _) _ (.bl _)⟩
  exact ⟨k, fun _ => PT_of k (by intro _; rfl)⟩
variable {b : E} {q : Expr}
theorem k_ix (hq : plainB q = true) (ha : PE X p (rdE g X.K c W (evE a))) (hb : PE X q (rdE g X.K c W (evE b))) : SE g X c W (.ix a b) (.Subscript p q pos) := by
  have k : PE X (.Subscript p q pos) (rdE g X.K c W (evE (.ix a b))) := PE_imp (pe_ix ix_M ha hb (plainIx_of hq)) fun σ H Q ⟨Hf, ρ, r, h⟩ => by
    unfold evE at h
    refine post.run r h fun rv ρ1 Hf1 H1 v r1 s1 hv h1 => post.run r1 h1 fun rv2 ρ2 Hf2 H2 v2 r2 s2 hv2 h2 => ?_
    obtain ⟨x, ex, h3⟩ := h2.optb
    obtain ⟨y, rfl, h4⟩ := h3.asd
    obtain ⟨i, rfl, h5⟩ := h4.asi
    obtain ⟨d, hd, hp⟩ := h5.fin r2
    exact ⟨Hf2, x, i, d, r2.sub, (hv.mono s2).deref r2 ex, rep_int hv2, hd, hp⟩
  exact ⟨k, fun _ => PT_of k (by intro _; rfl)⟩
theorem k_slLo {p2 : Pos} (ha : PE X p (rdE g X.K c W (evE a))) (hb : PE X q (rdE g X.K c W (evE b))) : SE g X c W (.slLo a b) (.Subscript p (.Slice (some q) none none p2) pos) := by
  have k : PE X (.Subscript p (.Slice (some q) none none p2) pos) (rdE g X.K c W (evE (.slLo a b))) := PE_imp (pe_slice sl_M ha (po_some hb) po_none) fun σ H Q ⟨Hf, ρ, r, h⟩ => by
    unfold evE at h
    refine post.run r h fun rv ρ1 Hf1 H1 v r1 s1 hv h1 => post.run r1 h1 fun rv2 ρ2 Hf2 H2 v2 r2 s2 hv2 h2 => ?_
    obtain ⟨x, ex, h3⟩ := h2.optb
    obtain ⟨y, rfl, h4⟩ := h3.asd
    obtain ⟨i, rfl, h5⟩ := h4.asi
    obtain ⟨d, hd, hp⟩ := h5.fin r2
    exact ⟨i, rep_int hv2, Hf2, x, d, r2.sub, (hv.mono s2).deref r2 ex, hd, hp⟩
  exact ⟨k, fun _ => PT_of k (by intro _; rfl)⟩
theorem k_slHi {p2 : Pos} (ha : PE X p (rdE g X.K c W (evE a))) (hb : PE X q (rdE g X.K c W (evE b))) : SE g X c W (.slHi a b) (.Subscript p (.Slice none (some q) none p2) pos) := by
  have k : PE X (.Subscript p (.Slice none (some q) none p2) pos) (rdE g X.K c W (evE (.slHi a b))) := PE_imp (pe_slice sl_M ha po_none (po_some hb)) fun σ H Q ⟨Hf, ρ, r, h⟩ => by
    unfold evE at h
    refine post.run r h fun rv ρ1 Hf1 H1 v r1 s1 hv h1 => post.run r1 h1 fun rv2 ρ2 Hf2 H2 v2 r2 s2 hv2 h2 => ?_
    obtain ⟨x, ex, h3⟩ := h2.optb
    obtain ⟨y, rfl, h4⟩ := h3.asd
    obtain ⟨i, rfl, h5⟩ := h4.asi
    obtain ⟨d, hd, hp⟩ := h5.fin r2
    exact ⟨i, rep_int hv2, Hf2, x, d, r2.sub, (hv.mono s2).deref r2 ex, hd, hp⟩
  exact ⟨k, fun _ => PT_of k (by intro _; rfl)⟩
theorem k_slLH {p2 : Pos} {d : E} {t : Expr} (ha : PE X p (rdE g X.K c W (evE a))) (hb : PE X q (rdE g X.K c W (evE b))) (hd : PE X t (rdE g X.K c W (evE d))) : SE g X c W (.slLH a b d) (.Subscript p (.Slice (some q) (some t) none p2) pos) := by
  have k : PE X (.Subscript p (.Slice (some q) (some t) none p2) pos) (rdE g X.K c W (evE (.slLH a b d))) := PE_imp (pe_slice sl_M ha (po_some hb) (po_some hd)) fun σ H Q ⟨Hf, ρ, r, h⟩ => by
    unfold evE at h
    refine post.run r h fun rv ρ1 Hf1 H1 v r1 s1 hv h1 => post.run r1 h1 fun rv2 ρ2 Hf2 H2 v2 r2 s2 hv2 h2 => ?_
    obtain ⟨y, rfl, h4⟩ := h2.asd
    obtain ⟨i, rfl, h5⟩ := h4.asi
    refine ⟨i, rep_int hv2, post.run r2 h5 fun rv3 ρ3 Hf3 H3 v3 r3 s3 hv3 h6 => ?_⟩
    obtain ⟨z, rfl, h7⟩ := h6.asd
    obtain ⟨j, rfl, h8⟩ := h7.asi
    obtain ⟨x, ex, h9⟩ := h8.optb
    obtain ⟨d, hd, hp⟩ := h9.fin r3
    exact ⟨j, rep_int hv3, Hf3, x, d, r3.sub, (hv.mono (s2.trans s3)).deref r3 ex, hd, hp⟩
  exact ⟨k, fun _ => PT_of k (by intro _; rfl)⟩
theorem k_pop {i : Nat} {x : Str} {p2 apos cpos : Pos} (hN : X.N[i]? = some x) (hv : visB X.env.scope x = true) (hl : (apos.endLine == cpos.line) = true) : SE g X c W (.pop i) (.Call (.Attribute (.Name x p2) ("pop" : Str) apos) [] [] cpos) := by
  obtain ⟨h3, h4, h5⟩ := vis_ok hv
  have k : PE X (.Call (.Attribute (.Name x p2) ("pop" : Str) apos) [] [] cpos) (rdE g X.K c W (evE (.pop i))) := by
    refine PE_imp (pe_bm0 PySem.F.plainAttrs_list PySem.F.slot_list_pop PySem.F.type_list_pop mt_pop (pe_var hN h3 h4 h5) rfl hl) fun σ H Q ⟨Hf, ρ, r, h⟩ => ?_
    unfold evE at h
    cases e1 : ρ[i]? with
    | none => rw [e1] at h; exact h.elim
    | some sl =>
      rw [e1] at h
      cases sl with
      | no => exact h.elim
      | val d => exact h.elim
      | exn _ _ => exact h.elim
      | own ds =>
        simp only at h
        cases e2 : ds.getLast? with
        | none => rw [e2] at h; exact h.elim
        | some d =>
          rw [e2] at h
          obtain ⟨q, vs, s1, k1, k2, k3, k4, k5⟩ := r.own i ds e1
          rw [List.getLast?_eq_getElem?] at e2
          obtain ⟨y, hy, ry⟩ := k3.get e2
          refine ⟨_, s1, .inl ⟨rfl, vs, SqL.of k1⟩, q, vs, y, rfl, rfl, k1, by rw [k3.length]; exact hy, ?_⟩
          exact h _ Hf (r.put e1 s1 k3.dropLast (by rw [List.length_dropLast]; omega)) (Same.refl _) y ry
  exact ⟨k, fun _ => PT_of k (by intro _; rfl)⟩

/-! ### dicts of the module -/
theorem k_gix {x : Str} {t : List (List Nat × D)} {nm : Pos} (hg : glB X.env.scope x = true) (hq : plainB q = true) (ht : TabOk (wd X) x t) (hb : PE X q (rdE g X.K c W (evE b))) : SE g X c W (.gix x t b) (.Subscript (.Name x nm) q pos) := by
  obtain ⟨g1, g2, g3⟩ := gl_ok hg
  obtain ⟨d, es, n, k1, k2, k3⟩ := ht
  have k : PE X (.Subscript (.Name x nm) q pos) (rdE g X.K c W (evE (.gix x t b))) := PE_imp (pe_ix ix_kdict (pe_glob (v := .ref d) g1 k1 rfl g2) hb (plainIx_of hq)) fun σ H Q ⟨Hf, ρ, r, h⟩ => by
    unfold evE at h
    refine post.run r h fun rv ρ1 Hf1 H1 v r1 s1 hv h1 => ?_
    obtain ⟨y, rfl, h2⟩ := h1.asd
    obtain ⟨z, rfl, h3⟩ := h2.ass
    obtain ⟨y, hy, hp⟩ := h3.fin r1
    have k4 := k3 z
    rw [hy] at k4
    obtain ⟨u, w, e1, e2, e3⟩ := k4
    exact ⟨d, sOf z, w, rfl, rep_str hv, ⟨es, n, u, k2.at_, k2.lit, e1, e2⟩, hp.now r1.sub (e3 _)⟩
  exact ⟨k, fun _ => PT_of k (by intro _; rfl)⟩
theorem idxT_at {s : List Nat} : ∀ {t : List (List Nat)} {n : Nat}, idxT s t = some n → (t.map sOf)[n]? = some (sOf s) ∧ ∀ m, m < n → (t.map sOf)[m]? ≠ some (sOf s)
  | [], n, h => by cases h
  | x :: xs, n, h => by
    unfold idxT at h
    split at h
    · rename_i e
      cases h
      exact ⟨by rw [e]; rfl, fun k hk => absurd hk (Nat.not_lt_zero k)⟩
    · rename_i e
      obtain ⟨m, hm, rfl⟩ := omap h
      obtain ⟨h1, h2⟩ := idxT_at hm
      refine ⟨by simpa using h1, fun k hk => ?_⟩
      cases k with
      | zero =>
        intro z
        exact e (sOf_inj (Option.some.inj z))
      | succ k => exact fun z => h2 k (by omega) (by simpa using z)
theorem k_gti {x : Str} {t : List (List Nat)} {nm apos cpos : Pos} (hg : glB X.env.scope x = true) (hl : (apos.endLine == cpos.line) = true) (hq : plainB q = true) (ht : TtOk (wd X) x t) (hb : PE X q (rdE g X.K c W (evE b))) :
    SE g X c W (.gti x t b) (.Call (.Attribute (.Name x nm) ("index" : Str) apos) [q] [] cpos) := by
  obtain ⟨g1, g2, g3⟩ := gl_ok hg
  obtain ⟨d, o, its, n, k1, k2, k3, k4, k5, k6, k7⟩ := ht
  have k : PE X (.Call (.Attribute (.Name x nm) ("index" : Str) apos) [q] [] cpos) (rdE g X.K c W (evE (.gti x t b))) := by
    refine PE_imp (pe_bm PySem.F.plainAttrs_tuple PySem.F.slot_tuple_index PySem.F.type_tuple_index mt_tup_index (pe_glob (v := .ref d) g1 k1 rfl g2) (pa_cons hb pa_nil (star_plain hq)) (base_ok (e := .Name x nm) rfl) (by rw [star_plain hq] <;> rfl) hl (star_plain hq) rfl) fun σ H Q ⟨Hf, ρ, r, h⟩ => ?_
    unfold evE at h
    refine ⟨.inr (.inl ⟨rfl, o, k2, k3, k4⟩), post.run r h fun rv ρ1 Hf1 H1 v r1 s1 hv h1 => ?_⟩
    obtain ⟨y, rfl, h2⟩ := h1.asd
    obtain ⟨z, rfl, h3⟩ := h2.ass
    obtain ⟨y, hy, hp⟩ := h3.fin r1
    obtain ⟨m, hm, rfl⟩ := omap hy
    obtain ⟨q1, q2⟩ := idxT_at hm
    exact ⟨d, t.map sOf, sOf z, m, rfl, by rw [rep_str hv], .inr ⟨o, its, n, k2, k3, k5, k6, k7⟩, q1, q2, hp.now r1.sub (.int _)⟩
  exact ⟨k, fun _ => PT_of k (by intro _; rfl)⟩
theorem k_gsd {x : Str} {ys : List (List Nat)} {nm p1 pos : Pos} (hc : Ctx cm X) (hcm : cm = true) (hg : glB X.env.scope ("sorted" : Str) = true) (hgx : glB X.env.scope x = true) (ht : TksOk (wd X) x ys) :
    SE g X c W (.gsd x ys) (.Call (.Name ("sorted" : Str) nm) [.Name x p1] [] pos) := by
  obtain ⟨g1, g2, g3⟩ := gl_ok hg
  obtain ⟨h1, h2, h3⟩ := gl_ok hgx
  obtain ⟨d, es, n, ks, k1, kd, k2, k3, k4, k5, k6, k7⟩ := ht
  have k : PE X (.Call (.Name ("sorted" : Str) nm) [.Name x p1] [] pos) (rdE g X.K c W (evE (.gsd x ys))) := by
    refine PE_imp (pe_callB (call_sortedK (hc.calm hcm) kd k2 k3 k4 k5 k6) g1 (hc.fre _ (by decide +kernel)) (by kernel_rfl) (pa_cons (pe_glob (v := .ref d) h1 k1 rfl h2) pa_nil (star_plain (e := .Name x p1) rfl)) g3 g2 (star_plain (e := .Name x p1) rfl) rfl) fun σ H Q ⟨Hf, ρ, r, h⟩ => ?_
    unfold evE at h
    have hl : (ys.map D.str).length ≤ lim := by
      have e := k4.length_eq
      rw [List.length_map] at e
      rw [List.length_map, e]
      exact Nat.le_trans (Nat.le_of_lt k6) (by decide)
    exact ⟨rfl, (h.okd r).lst r.sub (Reps.of_strs k7) hl⟩
  exact ⟨k, fun _ => PT_of k (by intro _; rfl)⟩
theorem rd_gin {x : Str} {t : List (List Nat × D)} {neg : Bool} {K : PySem.W.Frag} {σ : L2.St} {H : Hp} {Q : VK} (h : rdE g K c W (evE (.gin neg x t b)) σ H Q) : rdE g K c W (evE b) σ H fun v H1 => ∃ z, v = .str (sOf z) ∧ Q (.bl (if neg then !(t.lookup z).isSome else (t.lookup z).isSome)) H1 := by
  obtain ⟨Hf, ρ, r, h⟩ := h
  unfold evE at h
  refine post.run r h fun rv ρ1 Hf1 H1 v r1 s1 hv h1 => ?_
  obtain ⟨y, rfl, h2⟩ := h1.asd
  obtain ⟨z, rfl, h3⟩ := h2.ass
  exact ⟨z, rep_str hv, (h3.okd r1).now r1.sub (.bl _)⟩
theorem k_gin {x : Str} {t : List (List Nat × D)} {neg : Bool} {nm : Pos} {op : CmpOp} (hg : glB X.env.scope x = true) (ho : copB (if neg then .notIn else .isIn) op = true) (ht : TabOk (wd X) x t) (hb : PE X q (rdE g X.K c W (evE b))) : SE g X c W (.gin neg x t b) (.Compare q [op] [.Name x nm] pos) := by
  obtain ⟨g1, g2, g3⟩ := gl_ok hg
  obtain ⟨d, es, n, k1, k2, k3⟩ := ht
  have fd : ∀ z, ∃ r, PySem.W.nsIn X.K d (sOf z) = some r ∧ r.isSome = (t.lookup z).isSome := fun z => by
    have k4 := k3 z
    cases e : t.lookup z with
    | none => rw [e] at k4; exact ⟨none, k4, rfl⟩
    | some y =>
      rw [e] at k4
      obtain ⟨u, w, e1, _⟩ := k4
      exact ⟨some u, e1, rfl⟩
  cases cop_ok ho
  cases neg with
  | false =>
    have key : ∀ σ H Q, rdE g X.K c W (evE (.gin false x t b)) σ H Q → tOp (fun x y H Q => ∃ (z : Str) (r : Option Value), x = .str z ∧ y = .ref d ∧ PySem.W.nsIn X.K d z = some r ∧ Q (.bl r.isSome) H) (rdE g X.K c W (evE b)) (tC (.ref d)) σ H Q := fun σ H Q h => by
      obtain ⟨Hf, ρ, r, h⟩ := rd_gin h
      refine ⟨Hf, ρ, r, h.mono (Same.refl _) fun rv ρ1 Hf1 H1 h v hv => ?_⟩
      obtain ⟨z, e, q⟩ := h v hv
      obtain ⟨o, e1, e2⟩ := fd z
      exact ⟨sOf z, o, e, rfl, e1, by rw [e2]; exact q⟩
    exact ⟨PE_imp (pe_cmpR (op_in_kd k2) hb (pe_glob (v := .ref d) g1 k1 rfl g2) rfl) key, fun _ => PT_imp (pt_cmpR (op_in_kd k2) hb (pe_glob (v := .ref d) g1 k1 rfl g2) rfl) fun σ H Q h => key σ H _ (rdT_E h)⟩
  | true =>
    have key : ∀ σ H Q, rdE g X.K c W (evE (.gin true x t b)) σ H Q → tOp (fun x y H Q => ∃ (z : Str) (r : Option Value), x = .str z ∧ y = .ref d ∧ PySem.W.nsIn X.K d z = some r ∧ Q (.bl (!r.isSome)) H) (rdE g X.K c W (evE b)) (tC (.ref d)) σ H Q := fun σ H Q h => by
      obtain ⟨Hf, ρ, r, h⟩ := rd_gin h
      refine ⟨Hf, ρ, r, h.mono (Same.refl _) fun rv ρ1 Hf1 H1 h v hv => ?_⟩
      obtain ⟨z, e, q⟩ := h v hv
      obtain ⟨o, e1, e2⟩ := fd z
      exact ⟨sOf z, o, e, rfl, e1, by rw [e2]; exact q⟩
    exact ⟨PE_imp (pe_cmpR (op_notIn_kd k2) hb (pe_glob (v := .ref d) g1 k1 rfl g2) rfl) key, fun _ => PT_imp (pt_cmpR (op_notIn_kd k2) hb (pe_glob (v := .ref d) g1 k1 rfl g2) rfl) fun σ H Q h => key σ H _ (rdT_E h)⟩
/-! ### what is walked -/
theorem src_it {tg : Expr} (ha : PE X p (rdE g X.K c W (evE a))) : PI X tg p (rdSrc g X.K c W (evSrc (.it a))) := by
  refine ⟨fun pins s σ H Q I ⟨Hf, ρ, r, h⟩ => ?_⟩
  unfold evSrc at h
  cases q : evE a ρ with
  | bad => rw [q] at h; exact h.elim
  | exc x d ρ1 => exact (pi_list ha).run pins s σ H Q I ⟨Hf, ρ, r, by rw [q] at h ⊢; exact h⟩
  | ok rv ρ1 =>
    rw [q] at h
    obtain ⟨d, rfl, h⟩ := post.asd (show post g X.K c W σ Hf _ ((O.opt (asD rv) ρ1).bind fun x ρ => O.opt (items x) ρ) from h)
    cases d with
    | tup ds =>
      refine (pi_tup ha).run pins s σ H Q I ⟨Hf, ρ, r, ?_⟩
      rw [q]
      intro H1 Hf1 r1 s1 v hv
      cases (show Rep X.K Hf1 v (.tup ds) from hv) with
      | tup hq hr hl => exact ⟨_, rfl, ⟨_, sqT_mono r1.sub hq⟩, h H1 Hf1 r1 s1 _ (it_tup hq hr)⟩
    | lst ds =>
      refine (pi_list ha).run pins s σ H Q I ⟨Hf, ρ, r, ?_⟩
      rw [q]
      intro H1 Hf1 r1 s1 v hv
      cases (show Rep X.K Hf1 v (.lst ds) from hv) with
      | lst hq hr hl => exact ⟨_, rfl, ⟨_, Same.seq r1.sub hq⟩, h H1 Hf1 r1 s1 _ (it_list hq hr)⟩
    | str cs =>
      refine (pi_str ha).run pins s σ H Q I ⟨Hf, ρ, r, ?_⟩
      rw [q]
      intro H1 Hf1 r1 s1 v hv
      cases (show Rep X.K Hf1 v (.str cs) from hv) with
      | str hok => exact ⟨_, rfl, h H1 Hf1 r1 s1 _ (it_str hok)⟩
    | _ => exact h.elim
theorem rng_ok {i : Int} (h : rngOk i = true) : -(2 ^ 62) ≤ i ∧ i < 2 ^ 62 := by
  obtain ⟨h1, h2⟩ := and3 h
  exact ⟨of_decide_eq_true h1, of_decide_eq_true h2⟩
theorem src_r1 {tg : Expr} {nm : Pos} (hc : Ctx cm X) (hg : glB X.env.scope ("range" : Str) = true) (hp : plainB p = true) (ha : PE X p (rdE g X.K c W (evE a))) : PI X tg (.Call (.Name ("range" : Str) nm) [p] [] pos) (rdSrc g X.K c W (evSrc (.r1 a))) := by
  obtain ⟨g1, g2, g3⟩ := gl_ok hg
  have k := pi_range1 (tg := tg) (p := nm) (pos := pos) g1 (hc.fre _ (by decide +kernel)) (pa_cons ha pa_nil (star_plain hp)) (star_plain hp)
  refine ⟨fun pins s σ H Q I ⟨Hf, ρ, r, h⟩ => k.run pins s σ H Q I ?_⟩
  unfold evSrc at h
  refine post.run r h fun rv ρ1 Hf1 H1 v r1 s1 hv h1 => ?_
  obtain ⟨d, rfl, h2⟩ := h1.asd
  obtain ⟨i, rfl, h3⟩ := h2.asi
  split at h3
  · rename_i hr
    obtain ⟨q1, q2⟩ := rng_ok hr
    refine ⟨i, by rw [rep_int hv], q1, q2, h3 H1 Hf1 r1 (Same.refl _) _ ?_⟩
    have := it_rng (K := X.K) (Hf := Hf1) (lo := 0) (hi := i)
    simpa using this
  · exact h3.elim
theorem src_r2 {tg : Expr} {nm : Pos} (hc : Ctx cm X) (hg : glB X.env.scope ("range" : Str) = true) (hp : plainB p = true) (hq : plainB q = true) (ha : PE X p (rdE g X.K c W (evE a))) (hb : PE X q (rdE g X.K c W (evE b))) :
    PI X tg (.Call (.Name ("range" : Str) nm) [p, q] [] pos) (rdSrc g X.K c W (evSrc (.r2 a b))) := by
  obtain ⟨g1, g2, g3⟩ := gl_ok hg
  have k := pi_range2 (tg := tg) (p := nm) (pos := pos) g1 (hc.fre _ (by decide +kernel)) (pa_cons ha (pa_cons hb pa_nil (star_plain hq)) (star_plain hp)) (by rw [star_plain hp, star_plain hq] <;> rfl) (star_plain hq)
  refine ⟨fun pins s σ H Q I ⟨Hf, ρ, r, h⟩ => k.run pins s σ H Q I ?_⟩
  unfold evSrc at h
  refine post.run r h fun rv ρ1 Hf1 H1 v r1 s1 hv h1 => post.run r1 h1 fun rv2 ρ2 Hf2 H2 v2 r2 s2 hv2 h2 => ?_
  obtain ⟨d, rfl, h2⟩ := h2.asd
  obtain ⟨i, rfl, h3⟩ := h2.asi
  obtain ⟨d, rfl, h4⟩ := h3.asd
  obtain ⟨j, rfl, h5⟩ := h4.asi
  split at h5
  · rename_i hr
    obtain ⟨hi, hj⟩ := and3 hr
    obtain ⟨q1, q2⟩ := rng_ok hi
    obtain ⟨q3, q4⟩ := rng_ok hj
    exact ⟨i, j, by rw [rep_int hv, rep_int hv2], ⟨q1, q2, q3, q4⟩, h5 H2 Hf2 r2 (Same.refl _) _ it_rng⟩
  · exact h5.elim

theorem src_rd {tg : Expr} {nm p1 p2 : Pos} {kk : Nat} (hc : Ctx cm X) (hg : glB X.env.scope ("range" : Str) = true) (hp : plainB p = true) (hq : plainB q = true) (ha : PE X p (rdE g X.K c W (evE a))) (hb : PE X q (rdE g X.K c W (evE b))) :
    PI X tg (.Call (.Name ("range" : Str) nm) [p, q, .UnaryOp .USub (.Constant (.int 1) kk p1) p2] [] pos) (rdSrc g X.K c W (evSrc (.rd a b))) := by
  obtain ⟨g1, g2, g3⟩ := gl_ok hg
  have km : PE X (.UnaryOp .USub (.Constant (.int 1) kk p1) p2) (tUn (rU fun i => .int (-i)) (tC (.int 1))) := pe_un un_neg pe_int
  have k := pi_range3 (tg := tg) (p := nm) (pos := pos) g1 (hc.fre _ (by decide +kernel)) (pa_cons ha (pa_cons hb (pa_cons km pa_nil rfl) (star_plain hq)) (star_plain hp)) (by rw [star_plain hp, star_plain hq] <;> rfl) (by rw [star_plain hq] <;> rfl)
  refine ⟨fun pins s σ H Q I ⟨Hf, ρ, r, h⟩ => k.run pins s σ H Q I ?_⟩
  unfold evSrc at h
  refine post.run r h fun rv ρ1 Hf1 H1 v r1 s1 hv h1 => post.run r1 h1 fun rv2 ρ2 Hf2 H2 v2 r2 s2 hv2 h2 => ?_
  obtain ⟨d, rfl, h2⟩ := h2.asd
  obtain ⟨i, rfl, h3⟩ := h2.asi
  obtain ⟨d, rfl, h4⟩ := h3.asd
  obtain ⟨j, rfl, h5⟩ := h4.asi
  split at h5
  · rename_i hr
    obtain ⟨hi, hj⟩ := and3 hr
    obtain ⟨q1, q2⟩ := rng_ok hi
    obtain ⟨q3, q4⟩ := rng_ok hj
    exact ⟨1, rfl, i, j, -1, _, by rw [rep_int hv, rep_int hv2], RgC.neg q1 q2 q3 q4, h5 H2 Hf2 r2 (Same.refl _) _ it_rngD⟩
  · exact h5.elim
theorem k_rev {p1 p2 p3 : Pos} {kk : Nat} (ha : PE X p (rdE g X.K c W (evE a))) : SE g X c W (.rev a) (.Subscript p (.Slice none none (some (.UnaryOp .USub (.Constant (.int 1) kk p1) p2)) p3) pos) := by
  have k : PE X (.Subscript p (.Slice none none (some (.UnaryOp .USub (.Constant (.int 1) kk p1) p2)) p3) pos) (rdE g X.K c W (evE (.rev a))) := PE_imp (pe_revM ha) fun σ H Q ⟨Hf, ρ, r, h⟩ => by
    unfold evE at h
    refine post.run r h fun rv ρ1 Hf1 H1 v r1 s1 hv h1 => ?_
    obtain ⟨x, ex, h2⟩ := h1.optb
    obtain ⟨d, hd, hp⟩ := h2.fin r1
    exact ⟨Hf1, x, d, r1.sub, hv.deref r1 ex, hd, hp⟩
  exact ⟨k, fun _ => PT_of k (by intro _; rfl)⟩
theorem catD_eq {x y d : D} (h : catD x y = some d) : bop .add x y = some d ∧ ∃ a b, x = .lst a ∧ y = .lst b ∧ d = .lst (a ++ b) ∧ a.length + b.length ≤ lim := by
  unfold catD at h
  split at h
  · rename_i a b
    split at h
    · rename_i hl
      cases h
      refine ⟨?_, a, b, rfl, rfl, rfl, hl⟩
      show (if a.length + b.length ≤ lim then some (D.lst (a ++ b)) else none) = _
      rw [if_pos hl]
    · cases h
  · cases h
theorem k_cat (ha : PE X p (rdE g X.K c W (evE a))) (hb : PE X q (rdE g X.K c W (evE b))) : SE g X c W (.cat a b) (.BinOp p .Add q pos) := by
  have k : PE X (.BinOp p .Add q pos) (rdE g X.K c W (evE (.cat a b))) := PE_imp (pe_op (op_bop .add) ha hb) fun σ H Q ⟨Hf, ρ, r, h⟩ => by
    unfold evE at h
    refine post.run r h fun rv ρ1 Hf1 H1 v r1 s1 hv h1 => post.run r1 h1 fun rv2 ρ2 Hf2 H2 v2 r2 s2 hv2 h2 => ?_
    obtain ⟨x, ex, h3⟩ := h2.optb
    obtain ⟨y, ey, h4⟩ := h3.optb
    obtain ⟨d, hd, hp⟩ := h4.fin r2
    exact ⟨Hf2, x, y, d, r2.sub, (hv.mono s2).deref r2 ex, hv2.deref r2 ey, (catD_eq hd).1, hp⟩
  exact ⟨k, fun _ => PT_of k (by intro _; rfl)⟩
theorem k_lrev {nm nm2 pos2 : Pos} (hc : Ctx cm X) (hcm : cm = true) (hg : glB X.env.scope ("list" : Str) = true) (hg2 : glB X.env.scope ("reversed" : Str) = true) (hp : plainB p = true) (ha : PE X p (rdE g X.K c W (evE a))) :
    SE g X c W (.lrev a) (.Call (.Name ("list" : Str) nm) [.Call (.Name ("reversed" : Str) nm2) [p] [] pos2] [] pos) := by
  obtain ⟨g1, _, _⟩ := gl_ok hg
  obtain ⟨g2, _, _⟩ := gl_ok hg2
  have k : PE X (.Call (.Name ("list" : Str) nm) [.Call (.Name ("reversed" : Str) nm2) [p] [] pos2] [] pos) (rdE g X.K c W (evE (.lrev a))) := PE_imp (pe_lrev (hc.calm hcm) g1 (hc.fre _ (by decide +kernel)) g2 (hc.fre _ (by decide +kernel)) ha (star_plain hp)) fun σ H Q ⟨Hf, ρ, r, h⟩ => by
    unfold evE at h
    refine post.run r h fun rv ρ1 Hf1 H1 v r1 s1 hv h1 => ?_
    obtain ⟨x, rfl, h2⟩ := h1.asd
    obtain ⟨d, hd, hp⟩ := h2.fin r1
    exact ⟨Hf1, x, d, r1.sub, hv, hd, hp⟩
  exact ⟨k, fun _ => PT_of k (by intro _; rfl)⟩

/-! ### comprehensions -/
theorem ownN_snd (N : List Str) (own : List Nat) : (ownN N own).map (·.2) = own := by
  unfold ownN
  rw [List.map_map]
  exact List.map_id' own
theorem evTs_pt {ifs' : List E} {ifs : List Expr} (hl : ifs'.length ≤ 1) (ht : tOks ifs' = true) (h : ∀ c, NoXa c → AllE g X c W0 ifs' ifs) : PTs X ifs (rdTx g X.K (evTs ifs')) := by
  have h0 := h ⟨fun _ => none, fun _ => none, [], fun _ _ _ _ => False⟩ fun _ _ _ _ z => z
  cases ifs' with
  | nil =>
    cases h0
    exact ⟨fun pins s σ H Q I ⟨c, Hf, ρ, r, h⟩ => pts_nil.run pins s σ H Q I (post.now h r)⟩
  | cons e' r =>
    cases r with
    | cons _ _ => simp at hl
    | nil =>
      cases ifs with
      | nil => cases h0
      | cons e r =>
        cases r with
        | cons _ _ => cases h0 with
          | cons _ _ t => cases t
        | nil =>
          refine pts_one (PT_ex fun c => ?_)
          cases h c.1 c.2 with
          | cons hp hs t =>
            refine PT_imp (hs.2 (and3 ht).1) fun σ H Q ⟨Hf, ρ, r, h⟩ => ⟨Hf, ρ, r, ?_⟩
            have e : evTs [e'] ρ = evT e' ρ := by
              show _ = asT (evE e') ρ
              rw [asT_id, asT_bind]
              unfold evTs
              rfl
            rw [e] at h
            exact h
theorem k_lc {t : Tgt} {own : List Nat} {s : Src} {ifs' : List E} {elt' : E} {tg it elt : Expr} {ifs : List Expr} {scope : Scope} (hc : Ctx cm X) (hno : NoXa c) (hcm : cm = true) (hs : ∀ i ∈ tgOwn t, i ∈ own) (ok : blkC X.N X.env.scope scope (ownN X.N own) = true)
    (ht : chkT scope X.N (relS scope X.env.scope) t tg = true) (hi : PI X tg it (rdSrc g X.K c W (evSrc s))) (hst : ∀ x, foldedSetIterable it X.env x = pure x) (hl : ifs'.length ≤ 1) (hts : tOks ifs' = true)
    (hf : ∀ (s : Shared) (H : Hp) (C : Addr) (cl : List (Str × Addr)) (fp : List Addr) (c : C0), NoXa c → AllE g (X.blk s H scope (compEnvC scope cl C X.env) fp) c W0 ifs' ifs)
    (he : ∀ (s : Shared) (H : Hp) (C : Addr) (cl : List (Str × Addr)) (fp : List Addr) (c : C0), NoXa c → SE g (X.blk s H scope (compEnvC scope cl C X.env) fp) c W0 elt' elt) : SE g X c W (.lc t own s ifs' elt') (.ListComp elt [⟨tg, it, ifs, 0⟩] scope pos) := by
  have k : PE X (.ListComp elt [⟨tg, it, ifs, 0⟩] scope pos) (rdE g X.K c W (evE (.lc t own s ifs' elt'))) := by
    refine PE_imp (pe_lc (g := gT X.K t) (tt := rdTx g X.K (evTs ifs')) (te := rdEx g X.K (evE elt')) (hc.calm hcm) hc.nd hi (blkOk_by ok) (fun s H C cl fp => pgT_ok (X := X.blk s H scope (compEnvC scope cl C X.env) fp) hc.nd (hc.calm hcm) (fun x hx => by
      show (scope.names.lookup x == some .cell) = true
      rw [hx] <;> rfl) ht) (fun s H C cl fp => evTs_pt hl hts (hf s H C cl fp)) (fun s H C cl fp => PE_ex (t := fun c : {c : C0 // NoXa c} => rdE g X.K c.1 W0 (evE elt')) fun c => (he s H C cl fp c.1 c.2).1) hst) fun σ H Q ⟨Hf, ρ, r, h⟩ => ?_
    unfold evE at h
    refine ⟨Hf, ρ, r, h.bind fun xs ρ1 Hf1 H1 r1 s1 h1 J itk D hD => ?_⟩
    rw [ownN_snd]
    split at h1
    · rename_i fr
      split at h1
      · rename_i ys ρ2 hgo
        refine lc_end hno r1 fr itk hs hgo hD fun H' Hf' vs r2 sf d1 d2 dn reps len => ?_
        have sm : Same Hf' (upd Hf' D (.lst vs)) := same_upd d2
        exact h1 H' _ (r2.frzN d1 d2 (r1.fresh hD) dn) (sf.trans sm) _ (.lst (SqL.of upd_same) (reps.mono sm) len)
      · exact h1.elim
    · exact h1.elim
  exact ⟨k, fun _ => PT_of k (by intro _; rfl)⟩
end
theorem plainSrc {cm : Bool} {N : List Str} {sc : Scope} {s : Src} {p : Expr} (h : chkSrc cm N sc s p = true) {env : PySem.Env} (x : Value) : foldedSetIterable p env x = pure x := by
  cases s with
  | it e => exact notSet_of (and3 h).1 x
  | r1 a => cases p <;> first | rfl | cases h
  | r2 a b => cases p <;> first | rfl | cases h
  | rd a b => cases p <;> first | rfl | cases h

/-- an exception that is at hand can be read -/
def XaOk (g : Gx) (X : Cx) (a dx : Addr) (x : Nat) (f : Str) : Prop := f = g.xf x ∧ ∃ (X0 : Cx) (oe : Obj) (pn : List (Addr × Obj)), X = X0.suite a ((a, oe) :: pn) ∧ Zc (.ref (g.xc x)) (some dx) oe ∧ ∃ vs, oe.data = .fields vs
structure XOk (g : Gx) (cm : Bool) (X : Cx) (c : C0) : Prop where
  no : cm = true → NoXa c
  ok : ∀ a dx x f, c.xa a dx x f → XaOk g X a dx x f
theorem XOk.of {g : Gx} {cm : Bool} {X : Cx} {c : C0} (h : NoXa c) : XOk g cm X c := ⟨fun _ => h, fun _ _ _ _ z => (h _ _ _ _ z).elim⟩
theorem k_fld {g : Gx} {cm : Bool} {X : Cx} {c : C0} {W : WX} {i x : Nat} {y f : Str} {p2 pos : Pos} (hx : XOk g cm X c) (hN : X.N[i]? = some y) (hv : visB X.env.scope y = true) (hf : g.xf x = f) (T : XfC X.K (g.xc x)) (hno : PySem.W.findIn X.K (.ref (g.xc x)) f = some none) :
    SE g X c W (.fld i x f) (.Attribute (.Name y p2) f pos) := by
  obtain ⟨h3, h4, h5⟩ := vis_ok hv
  have k : PE X (.Attribute (.Name y p2) f pos) (rdE g X.K c W (evE (.fld i x f))) := by
    refine ⟨fun pins s σ H Q I ⟨Hf, ρ, r, h⟩ => ?_⟩
    unfold evE at h
    cases e1 : ρ[i]? with
    | none => rw [e1] at h; exact h.elim
    | some sl =>
      rw [e1] at h
      cases sl with
      | no => exact h.elim
      | val d => exact h.elim
      | own ds => exact h.elim
      | exn z d =>
        simp only at h
        split at h
        · rename_i ez
          subst ez
          obtain ⟨a, dx, f', v, s1, xa, k1, k2⟩ := r.exn i z d e1
          obtain ⟨ef, X0, oe, pn, eX, hz, hd⟩ := hx.ok a dx z f' xa
          subst eX
          have P := pe_xf (X := X0) (pn := pn) (pos := pos) (n := f) (te := tVar i) (e := .Name y p2) T hno hz hd (pe_var (pos := p2) hN h3 h4 h5)
          refine P.run pins s σ H Q I ⟨_, s1, rfl, rfl, dx, _, v, rfl, k1, ?_, h H Hf r (Same.refl _) v k2⟩
          rw [ef, hf]
          simp
        · exact h.elim
  exact ⟨k, fun _ => PT_of k (by intro _; rfl)⟩
theorem k_isx {g : Gx} {cm : Bool} {X : Cx} {c : C0} {W : WX} {i x : Nat} {y C : Str} {b : Bool} {p1 p2 nm pos : Pos} (hc : Ctx cm X) (hx : XOk g cm X c) (hg : glB X.env.scope ("isinstance" : Str) = true) (hN : X.N[i]? = some y) (hv : visB X.env.scope y = true) (hC : glB X.env.scope C = true) (T : XIs (wd X) (g.xc x) C b) :
    SE g X c W (.isx i x C b) (.Call (.Name ("isinstance" : Str) nm) [.Name y p1, .Name C p2] [] pos) := by
  obtain ⟨h3, h4, h5⟩ := vis_ok hv
  obtain ⟨g1, g2, g3⟩ := gl_ok hg
  obtain ⟨c1, c2, c3⟩ := gl_ok hC
  obtain ⟨cl, cv, hcv, ⟨v, rv, ru⟩, hk⟩ := T
  have k : PE X (.Call (.Name ("isinstance" : Str) nm) [.Name y p1, .Name C p2] [] pos) (rdE g X.K c W (evE (.isx i x C b))) := by
    refine ⟨fun pins s σ H Q I ⟨Hf, ρ, r, h⟩ => ?_⟩
    unfold evE at h
    cases e1 : ρ[i]? with
    | none => rw [e1] at h; exact h.elim
    | some sl =>
      rw [e1] at h
      cases sl with
      | no => exact h.elim
      | val d => exact h.elim
      | own ds => exact h.elim
      | exn z d =>
        simp only at h
        split at h
        · rename_i ez
          subst ez
          obtain ⟨a, dx, f', w, s1, xa, k1, k2⟩ := r.exn i z d e1
          obtain ⟨ef, X0, oe, pn, eX, hz, hd⟩ := hx.ok a dx z f' xa
          subst eX
          have pC : PE (X0.suite a ((a, oe) :: pn)) (.Name C p2) (tC v) := by
            rcases hcv with e | ⟨e, eb⟩
            · exact pe_glob c1 e rv c2
            · exact pe_bltn c1 e eb rv c3 c2
          have P := pe_callB (X := X0.suite a ((a, oe) :: pn)) (pos := pos) (p := nm) (call_isX cl hz hd) g1 (hc.fre _ (by decide +kernel)) (by decide +kernel) (pa_cons (pe_var (pos := p1) hN h3 h4 h5) (pa_cons pC pa_nil rfl) rfl) g3 g2 rfl rfl
          exact P.run pins s σ H Q I ⟨_, s1, v, cv, b, [(f', w)], rfl, ru, k1, hk, (h H Hf r (Same.refl _)) _ (.bl b)⟩
        · exact h.elim
  exact ⟨k, fun _ => PT_of k (by intro _; rfl)⟩
mutual
theorem sE {g : Gx} {cm : Bool} : ∀ (e' : E) {X : Cx} {c : C0} {W : WX} {e : Expr}, Ctx cm X → XOk g cm X c → chkE cm X.N X.env.scope e' e = true → okE g (wd X) e' → Takes X W → SE g X c W e' e
  | .v i, X, c, W, e, hc, hx, hk, ho, tk => by
    unfold chkE at hk
    split at hk
    · rename_i x pos
      obtain ⟨h1, h2⟩ := and3 hk
      obtain ⟨h3, h4, h5⟩ := vis_ok h2
      have k : PE X (.Name x pos) (rdE g X.K c W (evE (.v i))) := PE_imp (pe_var (of_decide_eq_true h1) h3 h4 h5) fun σ H Q ⟨Hf, ρ, r, h⟩ => by
        unfold evE at h
        cases e1 : ρ[i]? with
        | none => rw [e1] at h; exact h.elim
        | some sl =>
          rw [e1] at h
          cases sl with
          | no => exact h.elim
          | val d =>
            obtain ⟨v, s, q⟩ := r.val i d e1
            exact ⟨v, s, post.now h r v q⟩
          | exn _ _ => exact h.elim
          | own ds =>
            obtain ⟨p, vs, s, _⟩ := r.own i ds e1
            exact ⟨_, s, post.now h r _ s⟩
      exact ⟨k, fun _ => PT_of k (by intro _; rfl)⟩
    · cases hk
  | .c d, X, c, W, e, hc, hx, hk, ho, tk => by
    unfold chkE at hk
    split at hk
    · rename_i co kk pos
      obtain ⟨v, p, q⟩ := const_ok (K := X.K) (Hf := fun _ => none) (X := X) (k := kk) (pos := pos) hk
      have k : PE X (.Constant co kk pos) (rdE g X.K c W (evE (.c d))) := PE_imp p fun σ H Q ⟨Hf, ρ, r, h⟩ => post.now h r v (q.mono fun _ _ z => by cases z)
      exact ⟨k, fun _ => PT_of k (by intro _; rfl)⟩
    · cases hk
  | .g x d, X, c, W, e, hc, hx, hk, ho, tk => by
    unfold chkE at hk
    split at hk
    · rename_i y pos
      obtain ⟨h1, h2⟩ := and3 hk
      have h1 := of_decide_eq_true h1
      subst h1
      obtain ⟨g1, g2, g3⟩ := gl_ok h2
      obtain ⟨u, w, k1, k2, k3⟩ := (show GlobOk (wd X) y d from ho)
      have k : PE X (.Name y pos) (rdE g X.K c W (evE (.g y d))) := PE_imp (pe_glob g1 k1 k2 g2) fun σ H Q ⟨Hf, ρ, r, h⟩ => post.now h r w (k3 Hf)
      exact ⟨k, fun _ => PT_of k (by intro _; rfl)⟩
    · cases hk
  | .gix x t a, X, c, W, e, hc, hx, hk, ho, tk => by
    unfold chkE at hk
    split at hk
    · split at hk
      · obtain ⟨hk, h4⟩ := and3 hk
        obtain ⟨hk, h3⟩ := and3 hk
        obtain ⟨h1, h2⟩ := and3 hk
        have h1 := of_decide_eq_true h1
        subst h1
        exact k_gix h2 h3 ho.1 (sE a hc hx h4 ho.2 tk).1
      · cases hk
    · cases hk
  | .gin n x t a, X, c, W, e, hc, hx, hk, ho, tk => by
    unfold chkE at hk
    split at hk
    · split at hk
      · split at hk
        · obtain ⟨hk, h4⟩ := and3 hk
          obtain ⟨hk, h3⟩ := and3 hk
          obtain ⟨h1, h2⟩ := and3 hk
          have h1 := of_decide_eq_true h1
          subst h1
          exact k_gin h2 h3 ho.1 (sE a hc hx h4 ho.2 tk).1
        · cases hk
      · cases hk
    · cases hk
  | .gti x t a, X, c, W, e, hc, hx, hk, ho, tk => by
    unfold chkE at hk
    split at hk
    · split at hk
      · split at hk
        · obtain ⟨hk, h6⟩ := and3 hk
          obtain ⟨hk, h5⟩ := and3 hk
          obtain ⟨hk, h4⟩ := and3 hk
          obtain ⟨hk, h3⟩ := and3 hk
          obtain ⟨h1, h2⟩ := and3 hk
          have h1 := of_decide_eq_true h1
          subst h1
          have h3 := of_decide_eq_true h3
          subst h3
          exact k_gti h2 h4 h5 ho.1 (sE a hc hx h6 ho.2 tk).1
        · cases hk
      · cases hk
    · cases hk
  | .gsd x ys, X, c, W, e, hc, hx, hk, ho, tk => by
    unfold chkE at hk
    split at hk
    · split at hk
      · split at hk
        · obtain ⟨hk, h5⟩ := and3 hk
          obtain ⟨hk, h4⟩ := and3 hk
          obtain ⟨hk, h3⟩ := and3 hk
          obtain ⟨h1, h2⟩ := and3 hk
          have h1 := of_decide_eq_true h1
          have h2 := of_decide_eq_true h2
          subst h1 h2
          exact k_gsd hc h5 h3 h4 ho
        · cases hk
      · cases hk
    · cases hk
  | .fld i x f, X, c, W, e, hc, hx, hk, ho, tk => by
    unfold chkE at hk
    split at hk
    · split at hk
      · obtain ⟨hk, h3⟩ := and3 hk
        obtain ⟨h1, h2⟩ := and3 hk
        have h1 := of_decide_eq_true h1
        subst h1
        exact k_fld hx (of_decide_eq_true h2) h3 ho.1 ho.2.1 ho.2.2
      · cases hk
    · cases hk
  | .isx i x C b, X, c, W, e, hc, hx, hk, ho, tk => by
    unfold chkE at hk
    split at hk
    · split at hk
      · split at hk
        · obtain ⟨hk, h6⟩ := and3 hk
          obtain ⟨hk, h5⟩ := and3 hk
          obtain ⟨hk, h4⟩ := and3 hk
          obtain ⟨hk, h3⟩ := and3 hk
          obtain ⟨h1, h2⟩ := and3 hk
          have h1 := of_decide_eq_true h1
          have h5 := of_decide_eq_true h5
          subst h1 h5
          exact k_isx hc hx h2 (of_decide_eq_true h3) h4 h6 ho
        · cases hk
      · cases hk
    · cases hk
  | .bin o a b, X, c, W, e, hc, hx, hk, ho, tk => by
    unfold chkE at hk
    split at hk
    · rename_i p op q pos
      obtain ⟨hk, h3⟩ := and3 hk
      obtain ⟨h1, h2⟩ := and3 hk
      cases bop_ok h1
      have k : PE X (.BinOp p (bopP o) q pos) (rdE g X.K c W (evE (.bin o a b))) := PE_imp (pe_op (op_bop o) (sE a (c := c) hc hx h2 ho.1 tk).1 (sE b (c := c) hc hx h3 ho.2 tk).1) fun σ H Q ⟨Hf, ρ, r, h⟩ => by
        refine post.run r h fun rv ρ1 Hf1 H1 v r1 s1 hv h1 => post.run r1 h1 fun rv2 ρ2 Hf2 H2 v2 r2 s2 hv2 h2 => ?_
        obtain ⟨x, ex, h3⟩ := h2.optb
        obtain ⟨y, ey, h4⟩ := h3.optb
        obtain ⟨d, hd, hp⟩ := h4.fin r2
        exact ⟨Hf2, x, y, d, r2.sub, (hv.mono s2).deref r2 ex, hv2.deref r2 ey, hd, hp⟩
      exact ⟨k, fun _ => PT_of k (by intro _; rfl)⟩
    · cases hk
  | .neg a, X, c, W, e, hc, hx, hk, ho, tk => by
    unfold chkE at hk
    split at hk
    · rename_i op p pos
      split at hk
      · have k : PE X (.UnaryOp .USub p pos) (rdE g X.K c W (evE (.neg a))) := PE_imp (pe_un un_neg (sE a (c := c) hc hx hk ho tk).1) fun σ H Q ⟨Hf, ρ, r, h⟩ => by
          refine post.run r h fun rv ρ1 Hf1 H1 v r1 s1 hv h1 => ?_
          obtain ⟨d, rfl, h2⟩ := h1.asd
          obtain ⟨i, rfl, h3⟩ := h2.asi
          exact ⟨i, rep_int hv, (h3.okd r1).now r1.sub (.int _)⟩
        exact ⟨k, fun _ => PT_of k (by intro _; rfl)⟩
      · cases hk
    · cases hk
  | .not a, X, c, W, e, hc, hx, hk, ho, tk => by
    unfold chkE at hk
    split at hk
    · rename_i op p pos
      split at hk
      · have ih := sE (g := g) a (c := c) hc hx hk ho tk
        refine ⟨PE_imp (pe_not ih.1) fun σ H Q ⟨Hf, ρ, r, h⟩ => ?_, fun ht => PT_imp (pt_not (ih.2 ht)) fun σ H Q ⟨Hf, ρ, r, h⟩ => ?_⟩
        · refine post.run r h fun rv ρ1 Hf1 H1 v r1 s1 hv h1 => ?_
          obtain ⟨d, rfl, h2⟩ := h1.asd
          obtain ⟨b, rfl, h3⟩ := h2.asb
          exact ⟨b, rep_bl hv, (h3.okd r1).now r1.sub (.bl _)⟩
        · have h : post g X.K c W σ Hf (fun b _ _ H' => Q b H') ((evT a ρ).bind fun b ρ => .ok (!b) ρ) := by
            unfold evT evE at h
            unfold evT
            cases q : evE a ρ with
            | bad => rw [q] at h; exact h
            | exc _ _ _ => rw [q] at h; exact h
            | ok rv ρ1 =>
              rw [q] at h
              cases rv with
              | o i => exact h
              | d x => cases x <;> exact h
          refine post.runT r h fun b ρ1 Hf1 H1 r1 s1 h1 => h1.now r1
      · cases hk
    · cases hk
  | .cmp o a b, X, c, W, e, hc, hx, hk, ho, tk => by
    unfold chkE at hk
    split at hk
    · split at hk
      · obtain ⟨hk, h4⟩ := and3 hk
        obtain ⟨hk, h3⟩ := and3 hk
        obtain ⟨h1, h2⟩ := and3 hk
        exact k_cmp hc h1 h2 (sE a hc hx h3 ho.1 tk).1 (sE b hc hx h4 ho.2 tk).1
      · cases hk
    · cases hk
  | .chn o o2 a b d, X, c, W, e, hc, hx, hk, ho, tk => by
    unfold chkE at hk
    split at hk
    · split at hk
      · obtain ⟨hk, h7⟩ := and3 hk
        obtain ⟨hk, h6⟩ := and3 hk
        obtain ⟨hk, h5⟩ := and3 hk
        obtain ⟨hk, h4⟩ := and3 hk
        obtain ⟨hk, h3⟩ := and3 hk
        obtain ⟨h1, h2⟩ := and3 hk
        exact k_chn hc h1 h2 h7 (sE a hc hx h3 ho.1 tk).1 (sE b hc hx h4 ho.2.1 tk).1 (sE d hc hx h5 ho.2.2 tk).1
      · cases hk
    · cases hk
  | .and es, X, c, W, e, hc, hx, hk, ho, tk => by
    unfold chkE at hk
    split at hk
    · split at hk
      · exact k_and (sEs es hc hx hk ho tk)
      · cases hk
    · cases hk
  | .or es, X, c, W, e, hc, hx, hk, ho, tk => by
    unfold chkE at hk
    split at hk
    · split at hk
      · exact k_or (sEs es hc hx hk ho tk)
      · cases hk
    · cases hk
  | .ite t a b, X, c, W, e, hc, hx, hk, ho, tk => by
    unfold chkE at hk
    split at hk
    · obtain ⟨hk, h4⟩ := and3 hk
      obtain ⟨hk, h3⟩ := and3 hk
      obtain ⟨h1, h2⟩ := and3 hk
      exact k_ite h1 (sE t hc hx h2 ho.1 tk) (sE a hc hx h3 ho.2.1 tk) (sE b hc hx h4 ho.2.2 tk)
    · cases hk
  | .tup es, X, c, W, e, hc, hx, hk, ho, tk => by
    unfold chkE at hk
    split at hk
    · exact k_tup (sEs es hc hx hk ho tk)
    · cases hk
  | .lst es, X, c, W, e, hc, hx, hk, ho, tk => by
    unfold chkE at hk
    split at hk
    · exact k_lst (sEs es hc hx hk ho tk)
    · cases hk
  | .call f es, X, c, W, e, hc, hx, hk, ho, tk => by
    unfold chkE at hk
    split at hk
    · split at hk
      · obtain ⟨hk, h3⟩ := and3 hk
        obtain ⟨h1, h2⟩ := and3 hk
        have h1 := of_decide_eq_true h1
        subst h1
        exact k_call ho.1 tk h2 (sEs es hc hx h3 ho.2 tk)
      · cases hk
    · cases hk
  | .bi b es, X, c, W, e, hc, hx, hk, ho, tk => by
    unfold chkE at hk
    split at hk
    · split at hk
      · obtain ⟨hk, h5⟩ := and3 hk
        obtain ⟨hk, h4⟩ := and3 hk
        obtain ⟨hk, h3⟩ := and3 hk
        obtain ⟨h1, h2⟩ := and3 hk
        have h1 := of_decide_eq_true h1
        subst h1
        exact k_bi hc h3 h2 (by simpa using h4) (sEs es hc hx h5 ho tk)
      · cases hk
    · cases hk
  | .me m o es, X, c, W, e, hc, hx, hk, ho, tk => by
    unfold chkE at hk
    split at hk
    · split at hk
      · obtain ⟨hk, h8⟩ := and3 hk
        obtain ⟨hk, h7⟩ := and3 hk
        obtain ⟨hk, h6⟩ := and3 hk
        obtain ⟨hk, h5⟩ := and3 hk
        obtain ⟨hk, h4⟩ := and3 hk
        obtain ⟨hk, h3⟩ := and3 hk
        obtain ⟨h1, h2⟩ := and3 hk
        have h1 := of_decide_eq_true h1
        subst h1
        exact k_me h2 h3 h4 (by simpa using h5) (of_decide_eq_true h6) (sE o hc hx h7 ho.1 tk) (sEs es hc hx h8 ho.2 tk)
      · cases hk
    · cases hk
  | .isi ts a, X, c, W, e, hc, hx, hk, ho, tk => by
    unfold chkE at hk
    split at hk
    · split at hk
      · obtain ⟨hk, h7⟩ := and3 hk
        obtain ⟨hk, h6⟩ := and3 hk
        obtain ⟨hk, h5⟩ := and3 hk
        obtain ⟨hk, h4⟩ := and3 hk
        obtain ⟨hk, h3⟩ := and3 hk
        obtain ⟨h1, h2⟩ := and3 hk
        have h1 := of_decide_eq_true h1
        subst h1
        have h5 := of_decide_eq_true h5
        split at h7
        · exact k_isi1 hc h2 h3 h4 h7 (sE a hc hx h6 ho tk).1
        · split at h7
          · exact k_isiT hc h2 h3 h5 h7 (sE a hc hx h6 ho tk).1
          · cases h7
      · cases hk
    · cases hk
  | .ix a b, X, c, W, e, hc, hx, hk, ho, tk => by
    unfold chkE at hk
    split at hk
    · obtain ⟨hk, h3⟩ := and3 hk
      obtain ⟨h1, h2⟩ := and3 hk
      exact k_ix h1 (sE a hc hx h2 ho.1 tk).1 (sE b hc hx h3 ho.2 tk).1
    · cases hk
  | .slLo a l, X, c, W, e, hc, hx, hk, ho, tk => by
    unfold chkE at hk
    split at hk
    · split at hk
      · split at hk
        · obtain ⟨h1, h2⟩ := and3 hk
          exact k_slLo (sE a hc hx h1 ho.1 tk).1 (sE l hc hx h2 ho.2 tk).1
        · cases hk
      · cases hk
    · cases hk
  | .slHi a l, X, c, W, e, hc, hx, hk, ho, tk => by
    unfold chkE at hk
    split at hk
    · split at hk
      · split at hk
        · obtain ⟨h1, h2⟩ := and3 hk
          exact k_slHi (sE a hc hx h1 ho.1 tk).1 (sE l hc hx h2 ho.2 tk).1
        · cases hk
      · cases hk
    · cases hk
  | .slLH a l h, X, c, W, e, hc, hx, hk, ho, tk => by
    unfold chkE at hk
    split at hk
    · split at hk
      · split at hk
        · obtain ⟨hk, h3⟩ := and3 hk
          obtain ⟨h1, h2⟩ := and3 hk
          exact k_slLH (sE a hc hx h1 ho.1 tk).1 (sE l hc hx h2 ho.2.1 tk).1 (sE h hc hx h3 ho.2.2 tk).1
        · cases hk
      · cases hk
    · cases hk
  | .rev a, X, c, W, e, hc, hx, hk, ho, tk => by
    unfold chkE at hk
    split at hk
    · split at hk
      · split at hk
        · exact k_rev (sE a hc hx hk ho tk).1
        · cases hk
      · cases hk
    · cases hk
  | .cat a b, X, c, W, e, hc, hx, hk, ho, tk => by
    unfold chkE at hk
    split at hk
    · rename_i p op q pos
      obtain ⟨hk, h3⟩ := and3 hk
      obtain ⟨h1, h2⟩ := and3 hk
      cases bop_ok h1
      exact k_cat (sE a (c := c) hc hx h2 ho.1 tk).1 (sE b (c := c) hc hx h3 ho.2 tk).1
    · cases hk
  | .lrev a, X, c, W, e, hc, hx, hk, ho, tk => by
    unfold chkE at hk
    split at hk
    · split at hk
      · split at hk
        · split at hk
          · obtain ⟨hk, h7⟩ := and3 hk
            obtain ⟨hk, h6⟩ := and3 hk
            obtain ⟨hk, h5⟩ := and3 hk
            obtain ⟨hk, h4⟩ := and3 hk
            obtain ⟨hk, h3⟩ := and3 hk
            obtain ⟨h1, h2⟩ := and3 hk
            have h1 := of_decide_eq_true h1
            have h2 := of_decide_eq_true h2
            subst h1 h2
            exact k_lrev hc h5 h3 h4 h6 (sE a hc hx h7 ho tk).1
          · cases hk
        · cases hk
      · cases hk
    · cases hk
  | .pop i, X, c, W, e, hc, hx, hk, ho, tk => by
    unfold chkE at hk
    split at hk
    · split at hk
      · split at hk
        · obtain ⟨hk, h4⟩ := and3 hk
          obtain ⟨hk, h3⟩ := and3 hk
          obtain ⟨h1, h2⟩ := and3 hk
          have h1 := of_decide_eq_true h1
          subst h1
          exact k_pop (of_decide_eq_true h3) h4 h2
        · cases hk
      · cases hk
    · cases hk
  | .lc t own s ifs elt, X, c, W, e, hc, hx, hk, ho, tk => by
    unfold chkE at hk
    split at hk
    · split at hk
      · obtain ⟨hk, h9⟩ := and3 hk
        obtain ⟨hk, h8⟩ := and3 hk
        obtain ⟨hk, h7⟩ := and3 hk
        obtain ⟨hk, h6⟩ := and3 hk
        obtain ⟨hk, h5⟩ := and3 hk
        obtain ⟨hk, h4⟩ := and3 hk
        obtain ⟨hk, h3⟩ := and3 hk
        obtain ⟨hk, h2⟩ := and3 hk
        obtain ⟨h0, h1⟩ := and3 hk
        have h0 := of_decide_eq_true h0
        subst h0
        exact k_lc hc (hx.no h1) h1 (fun i hi => by simpa using List.all_eq_true.mp h2 i hi) h3 h4 (sSrc s hc hx h5 ho.1 tk) (plainSrc h5) (of_decide_eq_true h7) h6
          (fun s H C cl fp c hn => sEs (X := X.blk s H _ (compEnvC _ cl C X.env) fp) ifs (hc.blk ..) (.of hn) h8 ho.2.1 takes0) (fun s H C cl fp c hn => sE (X := X.blk s H _ (compEnvC _ cl C X.env) fp) elt (hc.blk ..) (.of hn) h9 ho.2.2 takes0)
      · cases hk
    · cases hk
theorem sEs {g : Gx} {cm : Bool} : ∀ (es' : List E) {X : Cx} {c : C0} {W : WX} {es : List Expr}, Ctx cm X → XOk g cm X c → chkEs cm X.N X.env.scope es' es = true → okEs g (wd X) es' → Takes X W → AllE g X c W es' es
  | [], X, c, W, es, hc, hx, hk, ho, tk => by
    cases es with
    | nil => exact .nil
    | cons _ _ => cases hk
  | e' :: es', X, c, W, es, hc, hx, hk, ho, tk => by
    cases es with
    | nil => cases hk
    | cons e es =>
      unfold chkEs at hk
      obtain ⟨hk, h3⟩ := and3 hk
      obtain ⟨h1, h2⟩ := and3 hk
      exact .cons h1 (sE e' hc hx h2 ho.1 tk) (sEs es' hc hx h3 ho.2 tk)
theorem sSrc {g : Gx} {cm : Bool} : ∀ (s : Src) {X : Cx} {c : C0} {W : WX} {tg e : Expr}, Ctx cm X → XOk g cm X c → chkSrc cm X.N X.env.scope s e = true → okSrc g (wd X) s → Takes X W → PI X tg e (rdSrc g X.K c W (evSrc s))
  | .it a, X, c, W, tg, e, hc, hx, hk, ho, tk => by
    unfold chkSrc at hk
    exact src_it (sE a hc hx (and3 hk).2 ho tk).1
  | .r1 a, X, c, W, tg, e, hc, hx, hk, ho, tk => by
    unfold chkSrc at hk
    split at hk
    · split at hk
      · obtain ⟨hk, h4⟩ := and3 hk
        obtain ⟨hk, h3⟩ := and3 hk
        obtain ⟨h1, h2⟩ := and3 hk
        have h1 := of_decide_eq_true h1
        subst h1
        exact src_r1 hc h2 h3 (sE a hc hx h4 ho tk).1
      · cases hk
    · cases hk
  | .r2 a b, X, c, W, tg, e, hc, hx, hk, ho, tk => by
    unfold chkSrc at hk
    split at hk
    · split at hk
      · obtain ⟨hk, h6⟩ := and3 hk
        obtain ⟨hk, h5⟩ := and3 hk
        obtain ⟨hk, h4⟩ := and3 hk
        obtain ⟨hk, h3⟩ := and3 hk
        obtain ⟨h1, h2⟩ := and3 hk
        have h1 := of_decide_eq_true h1
        subst h1
        exact src_r2 hc h2 h3 h4 (sE a hc hx h5 ho.1 tk).1 (sE b hc hx h6 ho.2 tk).1
      · cases hk
    · cases hk
  | .rd a b, X, c, W, tg, e, hc, hx, hk, ho, tk => by
    unfold chkSrc at hk
    split at hk
    · split at hk
      · split at hk
        · obtain ⟨hk, h6⟩ := and3 hk
          obtain ⟨hk, h5⟩ := and3 hk
          obtain ⟨hk, h4⟩ := and3 hk
          obtain ⟨hk, h3⟩ := and3 hk
          obtain ⟨h1, h2⟩ := and3 hk
          have h1 := of_decide_eq_true h1
          subst h1
          exact src_rd hc h2 h3 h4 (sE a hc hx h5 ho.1 tk).1 (sE b hc hx h6 ho.2 tk).1
        · cases hk
      · cases hk
    · cases hk
end
end Mini
end

section
set_option Elab.async false
set_option linter.all false
set_option maxRecDepth 100000
set_option maxHeartbeats 4000000
/-! M15: statements: readings and rules. -/
namespace Mini
open PySem L2

/-! ### readings -/
/-- a new list that no slot owns -/
def FrR (K : PySem.W.Frag) (c : C0) (ρ : En) (σ : L2.St) (Hf H : Hp) (v : V) (rv : Rv) : Prop := ∃ p vs ds, v = .ref p ∧ rv = .d (.lst ds) ∧ H p = some (.lst vs) ∧ Hf p = none ∧ c.H p = none ∧ (∀ (j : Nat) (dj : List D), ρ[j]? = some (Sl.own dj) → σ[j]? ≠ some (some (.ref p))) ∧ Reps K Hf vs ds ∧ ds.length ≤ lim
section
variable (g : Gx) (K : PySem.W.Frag) (c : C0) (W : WX) (Dn : Ends)
def postS (Hf : Hp) : Out → Prop
  | .nx ρ => ∀ σ' H' Hf', R K c ρ σ' Hf' H' → Same Hf Hf' → Dn.nx σ' H'
  | .brk ρ => ∀ σ' H' Hf', R K c ρ σ' Hf' H' → Same Hf Hf' → Dn.bk σ' H'
  | .cnt ρ => ∀ σ' H' Hf', R K c ρ σ' Hf' H' → Same Hf Hf' → Dn.ct σ' H'
  | .ret rv ρ => ∀ σ' H' Hf' v, R K c ρ σ' Hf' H' → Same Hf Hf' → RvR K σ' Hf' v rv → Dn.rt v H'
  | .exc x d ρ => ∀ cls dx σ' H' Hf', R K c ρ σ' Hf' H' → Same Hf Hf' → XRep g K Hf' H' x d cls dx → W cls dx σ' H'
  | .new ds ρ => ∀ σ' H' Hf' v, R K c ρ σ' Hf' H' → Same Hf Hf' → FrR K c ρ σ' Hf' H' v (.d (.lst ds)) → Dn.rt v H'
  | .bad => False
end
def rdS (g : Gx) (K : PySem.W.Frag) (c : C0) (W : WX) (x : En → Out) : TS := fun Dn σ H => ∃ Hf ρ, R K c ρ σ Hf H ∧ postS g K c W Dn Hf (x ρ)
def rdF (g : Gx) (K : PySem.W.Frag) (c : C0) (W : WX) (e : EvF Rv) : TE := fun σ H Q => ∃ Hf ρ, R K c ρ σ Hf H ∧ post g K c W σ Hf (fun rv ρ' Hf' H' => ∀ v, FrR K c ρ' σ Hf' H' v rv → Q v H') (e ρ)

section
variable {g : Gx} {K : PySem.W.Frag} {c : C0} {W : WX} {Dn : Ends} {σ : L2.St} {Hf H : Hp} {ρ : En}
theorem postS.mono {Hf1 : Hp} {o : Out} (s : Same Hf Hf1) (h : postS g K c W Dn Hf o) : postS g K c W Dn Hf1 o := by
  cases o with
  | bad => exact h
  | nx ρ => exact fun σ' H' Hf' r q => h σ' H' Hf' r (s.trans q)
  | brk ρ => exact fun σ' H' Hf' r q => h σ' H' Hf' r (s.trans q)
  | cnt ρ => exact fun σ' H' Hf' r q => h σ' H' Hf' r (s.trans q)
  | ret rv ρ => exact fun σ' H' Hf' v r q => h σ' H' Hf' v r (s.trans q)
  | exc x d ρ => exact fun cls dx σ' H' Hf' r q => h cls dx σ' H' Hf' r (s.trans q)
  | new ds ρ => exact fun σ' H' Hf' v r q => h σ' H' Hf' v r (s.trans q)
/-- the expression ahead of the rest -/
theorem postS.out {β : Type} {x : O β} {f : β → En → Out} {k1 : β → En → Hp → Hp → Prop} (h : postS g K c W Dn Hf (x.out f)) (hk : ∀ a ρ Hf1 H1, R K c ρ σ Hf1 H1 → Same Hf Hf1 → postS g K c W Dn Hf1 (f a ρ) → k1 a ρ Hf1 H1) : post g K c W σ Hf k1 x := by
  cases x with
  | ok a ρ => exact fun H' Hf' r q => hk _ _ _ _ r q (postS.mono q h)
  | exc x d ρ => exact fun cls dx H' Hf' r q xr => h cls dx σ H' Hf' r q xr
  | bad => exact h
theorem postS.run {e : EvF Rv} {f : Rv → En → Out} {Q : VK} (r : R K c ρ σ Hf H) (h : postS g K c W Dn Hf ((e ρ).out f)) (hq : ∀ rv ρ1 Hf1 H1 v, R K c ρ1 σ Hf1 H1 → Same Hf Hf1 → RvR K σ Hf1 v rv → postS g K c W Dn Hf1 (f rv ρ1) → Q v H1) : rdE g K c W e σ H Q :=
  ⟨Hf, ρ, r, h.out fun rv ρ1 Hf1 H1 r1 s1 h1 v hv => hq rv ρ1 Hf1 H1 v r1 s1 hv h1⟩
theorem postS.runT {e : EvF Bool} {f : Bool → En → Out} {Q : Bool → Hp → Prop} (r : R K c ρ σ Hf H) (h : postS g K c W Dn Hf ((e ρ).out f)) (hq : ∀ b ρ1 Hf1 H1, R K c ρ1 σ Hf1 H1 → Same Hf Hf1 → postS g K c W Dn Hf1 (f b ρ1) → Q b H1) : rdT g K c W e σ H Q :=
  ⟨Hf, ρ, r, h.out fun b ρ1 Hf1 H1 r1 s1 h1 => hq b ρ1 Hf1 H1 r1 s1 h1⟩
theorem postS.runF {e : EvF Rv} {f : Rv → En → Out} {Q : VK} (r : R K c ρ σ Hf H) (h : postS g K c W Dn Hf ((e ρ).out f)) (hq : ∀ rv ρ1 Hf1 H1 v, R K c ρ1 σ Hf1 H1 → Same Hf Hf1 → FrR K c ρ1 σ Hf1 H1 v rv → postS g K c W Dn Hf1 (f rv ρ1) → Q v H1) : rdF g K c W e σ H Q :=
  ⟨Hf, ρ, r, h.out fun rv ρ1 Hf1 H1 r1 s1 h1 v hv => hq rv ρ1 Hf1 H1 v r1 s1 hv h1⟩
end
theorem pss_imp {X : Cx} {sts : List Stmt} {t t' : TS} (h : PSs X sts t) (f : ∀ D σ H, t' D σ H → t D σ H) : PSs X sts t' := PSs_imp h f

structure CtxS (cm : Bool) (X : Cx) : Prop where
  c : Ctx cm X
  fn : ∀ x, X.fn x = true
  own : PassesOwn (model X.prog X.w) X.A X.env X.xe
  stk : X.stack = X.env :: X.outer
  frm : X.env.frame = some X.env.locals

/-! ### simple ones -/
section
variable {g : Gx} {cm : Bool} {X : Cx} {c : C0} {W : WX} {n : Nat} {a : E} {p : Expr} {pos : Pos}
abbrev SS (g : Gx) (X : Cx) (c : C0) (W : WX) (n : Nat) (s : S) (st : Stmt) : Prop := PS X st (rdS g X.K c W (exS n s))
theorem s_ret (ha : PE X p (rdE g X.K c W (evE a))) : SS g X c W n (.ret a) (.Return (some p) pos) :=
  PS_imp (ps_ret ha) fun D σ H ⟨Hf, ρ, r, h⟩ => by
    unfold exS at h
    exact postS.run r h fun rv ρ1 Hf1 H1 v r1 s1 hv h1 => h1 σ H1 Hf1 v r1 (Same.refl _) hv
theorem s_retF (ha : PE X p (rdF g X.K c W (evE a))) : SS g X c W n (.retF a) (.Return (some p) pos) :=
  PS_imp (ps_ret ha) fun D σ H ⟨Hf, ρ, r, h⟩ => by
    unfold exS at h
    refine postS.runF r h fun rv ρ1 Hf1 H1 v r1 s1 hv h1 => ?_
    obtain ⟨q, vs, ds, rfl, rfl, k⟩ := hv
    exact h1 σ H1 Hf1 _ r1 (Same.refl _) ⟨q, vs, ds, rfl, rfl, k⟩
theorem s_retN : SS g X c W n .retN (.Return none pos) :=
  PS_imp ps_retN fun D σ H ⟨Hf, ρ, r, h⟩ => by
    unfold exS at h
    exact h σ H Hf .non r (Same.refl _) .non
/-- a value into a slot -/
theorem set_end {K : PySem.W.Frag} {Dn : Ends} {σ : L2.St} {Hf H : Hp} {ρ : En} {i : Nat} {rv : Rv} {v : V} (r : R K c ρ σ Hf H) (hv : RvR K σ Hf v rv)
    (h : postS g K c W Dn Hf (match asD rv with | some d => (match setV ρ i d with | some ρ => .nx ρ | none => .bad) | none => .bad)) : Dn.nx (σ.set i (some v)) H := by
  cases e : asD rv with
  | none => rw [e] at h; exact h.elim
  | some d =>
    rw [e] at h
    cases asD_eq e
    simp only at h
    cases e2 : setV ρ i d with
    | none => rw [e2] at h; exact h.elim
    | some ρ' =>
      rw [e2] at h
      obtain ⟨r1, _⟩ := setV_ok r e2 hv
      exact h _ H Hf r1 (Same.refl _)
theorem s_set {i : Nat} {x : Str} {px : Pos} (hc : CtxS cm X) (hi : X.N[i]? = some x) (hx : Loc X.env.scope x) (hsw : swapsWith p (some (.Name x px)) pos.line X.env = pure false) (ha : PE X p (rdE g X.K c W (evE a))) :
    SS g X c W n (.set i a) (.Assign [.Name x px] p pos) :=
  PS_imp (ps_set hc.c.nd hi hx ha hsw (.inl (hc.fn x))) fun D σ H ⟨Hf, ρ, r, h⟩ => by
    unfold exS at h
    exact postS.run r h fun rv ρ1 Hf1 H1 v r1 s1 hv h1 => set_end r1 hv h1
theorem s_setN {i : Nat} {x : Str} {px : Pos} (hc : CtxS cm X) (hn : ∀ p, (i, p) ∉ c.ps) (hi : X.N[i]? = some x) (hx : Loc X.env.scope x) (hsw : swapsWith p (some (.Name x px)) pos.line X.env = pure false) (ha : PE X p (rdF g X.K c W (evE a))) :
    SS g X c W n (.setN i a) (.Assign [.Name x px] p pos) :=
  PS_imp (ps_set hc.c.nd hi hx ha hsw (.inl (hc.fn x))) fun D σ H ⟨Hf, ρ, r, h⟩ => by
    unfold exS at h
    refine postS.runF r h fun rv ρ1 Hf1 H1 v r1 s1 hv h1 => ?_
    obtain ⟨q, vs, ds, rfl, rfl, k1, k2, k3, k4, k5, k6⟩ := hv
    exact h1 _ H1 Hf1 (r1.setO hn k1 k2 k5 k6 k3 k4) (Same.refl _)
theorem s_unp {is : List Nat} {es : List Expr} {x1 : Nat} {p2 : Pos} (hc : CtxS cm X) (hcm : cm = true) (ht : tgsB X.env.scope X.N X.env.scope is es = true) (hsw : swapsWithSole [.Tuple es x1 p2] p pos.line X.env = pure false) (hw : swappedStores [.Tuple es x1 p2] p X.env = pure none)
    (ha : PE X p (rdE g X.K c W (evE a))) : SS g X c W n (.unp is a) (.Assign [.Tuple es x1 p2] p pos) := by
  have pg : PG X (.Tuple es x1 p2) (gT X.K (.t is)) := pgT_ok (own := X.env.scope) hc.c.nd (hc.c.calm hcm) (fun x _ => hc.fn x) ht
  refine PS_imp (ps_asg ha pg hsw hw) fun D σ H ⟨Hf, ρ, r, h⟩ => ?_
  unfold exS at h
  refine postS.run r h fun rv ρ1 Hf1 H1 v r1 s1 hv h1 => ?_
  cases e : asD rv with
  | none => rw [e] at h1; exact h1.elim
  | some d =>
    rw [e] at h1
    cases asD_eq e
    cases d with
    | tup ds =>
      simp only at h1
      cases e2 : bindN ρ1 is ds with
      | none => rw [e2] at h1; exact h1.elim
      | some ρ' =>
        rw [e2] at h1
        exact gT_ok (t := .t is) (d := .tup ds) r1 e2 hv fun σ' r' _ => h1 σ' H1 Hf1 r' (Same.refl _)
    | _ => exact h1.elim
theorem s_aug {i : Nat} {sub : Bool} {x : Str} {px : Pos} {op : Operator} (hc : CtxS cm X) (hi : X.N[i]? = some x) (hx : Loc X.env.scope x) (ho : op = if sub then .Sub else .Add) (ha : PE X p (rdE g X.K c W (evE a))) :
    SS g X c W n (.aug i sub a) (.AugAssign (.Name x px) op p pos) := by
  have key : ∀ (f : Int → Int → Int), (∀ x y, f x y = if sub then x - y else x + y) → ∀ D σ H, rdS g X.K c W (exS n (.aug i sub a)) D σ H → tAug i (rdE g X.K c W (evE a)) (ipI f) D σ H := fun f hf D σ H ⟨Hf, ρ, r, h⟩ => by
    unfold exS at h
    split at h
    · rename_i x0 e0
      obtain ⟨v, s, rv⟩ := r.val i _ e0
      cases rep_int rv
      refine ⟨_, s, postS.run r h fun rv ρ1 Hf1 H1 v r1 s1 hv h1 => ?_⟩
      split at h1
      · rename_i y0 e1
        cases asD_eq e1
        refine ⟨x0, y0, rfl, rep_int hv, ?_⟩
        split at h1
        · rename_i ρ' e2
          obtain ⟨r2, _⟩ := setV_ok r1 e2 (v := .int (if sub then x0 - y0 else x0 + y0)) (.int _)
          rw [hf]
          exact h1 _ H1 Hf1 r2 (Same.refl _)
        · exact h1.elim
      · exact h1.elim
    · exact h.elim
  cases sub with
  | false =>
    subst ho
    exact PS_imp (ps_aug hc.c.nd hi hx ha ip_add (.inl (hc.fn x))) fun D σ H h => key _ (fun _ _ => rfl) D σ H h
  | true =>
    subst ho
    exact PS_imp (ps_aug hc.c.nd hi hx ha ip_sub (.inl (hc.fn x))) fun D σ H h => key _ (fun _ _ => rfl) D σ H h
theorem s_exp (hsw : swapsWith p none pos.line X.env = pure false) (ha : PE X p (rdE g X.K c W (evE a))) : SS g X c W n (.exp a) (.Expr p pos) :=
  PS_imp (ps_expr ha hsw) fun D σ H ⟨Hf, ρ, r, h⟩ => by
    unfold exS at h
    exact postS.run r h fun rv ρ1 Hf1 H1 v r1 s1 hv h1 => h1 σ H1 Hf1 r1 (Same.refl _)
theorem s_pas : SS g X c W n .pas (.Pass pos) := PS_imp ps_pass fun D σ H ⟨Hf, ρ, r, h⟩ => h σ H Hf r (Same.refl _)
theorem s_doc {x j} {pos' : Pos} : SS g X c W n .pas (.Expr (.Constant (.str x) j pos) pos') := PS_imp ps_doc fun D σ H ⟨Hf, ρ, r, h⟩ => h σ H Hf r (Same.refl _)
theorem s_brk : SS g X c W n .brk (.Break pos) := PS_imp ps_break fun D σ H ⟨Hf, ρ, r, h⟩ => h σ H Hf r (Same.refl _)
theorem s_cnt : SS g X c W n .cnt (.Continue pos) := PS_imp ps_continue fun D σ H ⟨Hf, ρ, r, h⟩ => h σ H Hf r (Same.refl _)
theorem s_nev {st : Stmt} : SS g X c W n .nev st := PS_imp ps_never fun D σ H ⟨Hf, ρ, r, h⟩ => h
theorem isOwn_ok {ρ : En} {i : Nat} (h : isOwn ρ i = true) : ∃ ds, ρ[i]? = some (Sl.own ds) := by
  unfold isOwn at h
  split at h
  · rename_i ds e
    exact ⟨ds, e⟩
  · cases h
theorem s_app {i : Nat} {x : Str} {p2 apos cpos : Pos} (hi : X.N[i]? = some x) (hv : visB X.env.scope x = true) (hl : (apos.endLine == cpos.line) = true) (hp : plainB p = true) (ha : PE X p (rdE g X.K c W (evE a))) :
    SS g X c W n (.app i a) (.Expr (.Call (.Attribute (.Name x p2) ("append" : Str) apos) [p] [] cpos) pos) := by
  obtain ⟨h3, h4, h5⟩ := vis_ok hv
  have A : AllE g X c W [a] [p] → True := fun _ => trivial
  have hfew : ((backTo cpos (starEach [p] X.env)).all (fun x => !x.1) && (backToKw cpos (keywordEach [] X.env)).all (fun x => x.1.isSome)
      && decide ([p].length + ([] : List Keyword).length + (if ([] : List Keyword).isEmpty then 0 else 1) < 30)) = true := by
    rw [star_plain hp]
    rfl
  refine PS_imp (ps_expr (pe_bm PySem.F.plainAttrs_list PySem.F.slot_list_append PySem.F.type_list_append mt_append (pe_var hi h3 h4 h5) (pa_cons ha pa_nil (star_plain hp)) rfl hfew hl (star_plain hp) rfl) rfl) fun D σ H ⟨Hf, ρ, r, h⟩ => ?_
  unfold exS at h
  split at h
  · rename_i ho
    obtain ⟨ds, e1⟩ := isOwn_ok ho
    obtain ⟨q, vs, s1, k1, k2, k3, k4, k5⟩ := r.own i ds e1
    refine ⟨_, s1, .inl ⟨rfl, vs, SqL.of k1⟩, postS.run r h fun rv ρ1 Hf1 H1 v r1 s2 hv h1 => ?_⟩
    split at h1
    · rename_i d ds1 e2 e3
      cases asD_eq e2
      split at h1
      · rename_i hz
        obtain ⟨q1, vs1, t1, l1, l2, l3, l4, l5⟩ := r1.own i ds1 e3
        rw [s1] at t1
        cases t1
        refine ⟨q, vs1, v, rfl, rfl, l1, by rw [l3.length]; exact Nat.lt_of_lt_of_le hz lim_line, ?_⟩
        exact h1 _ _ Hf1 (r1.put e3 s1 (l3.append (.cons hv .nil)) (by rw [List.length_append]; exact hz)) (Same.refl _)
      · exact h1.elim
    · exact h1.elim
  · exact h.elim
theorem s_ext {i : Nat} {x : Str} {p2 apos cpos : Pos} (hi : X.N[i]? = some x) (hv : visB X.env.scope x = true) (hl : (apos.endLine == cpos.line) = true) (hp : plainB p = true) (ha : PE X p (rdE g X.K c W (evE a))) :
    SS g X c W n (.ext i a) (.Expr (.Call (.Attribute (.Name x p2) ("extend" : Str) apos) [p] [] cpos) pos) := by
  obtain ⟨h3, h4, h5⟩ := vis_ok hv
  have hfew : ((backTo cpos (starEach [p] X.env)).all (fun x => !x.1) && (backToKw cpos (keywordEach [] X.env)).all (fun x => x.1.isSome)
      && decide ([p].length + ([] : List Keyword).length + (if ([] : List Keyword).isEmpty then 0 else 1) < 30)) = true := by
    rw [star_plain hp]
    rfl
  refine PS_imp (ps_expr (pe_bm PySem.F.plainAttrs_list PySem.F.slot_list_extend PySem.F.type_list_extend mt_extM (pe_var hi h3 h4 h5) (pa_cons ha pa_nil (star_plain hp)) rfl hfew hl (star_plain hp) rfl) rfl) fun D σ H ⟨Hf, ρ, r, h⟩ => ?_
  unfold exS at h
  split at h
  · rename_i ho
    obtain ⟨ds, e1⟩ := isOwn_ok ho
    obtain ⟨q, vs, s1, k1, k2, k3, k4, k5⟩ := r.own i ds e1
    refine ⟨_, s1, .inl ⟨rfl, vs, SqL.of k1⟩, postS.run r h fun rv ρ1 Hf1 H1 v r1 s2 hv h1 => ?_⟩
    split at h1
    · rename_i d ds1 e2 e3
      cases asD_eq e2
      split at h1
      · rename_i hz
        obtain ⟨q1, vs1, t1, l1, l2, l3, l4, l5⟩ := r1.own i ds1 e3
        rw [s1] at t1
        cases t1
        cases (show Rep X.K Hf1 v (.lst d) from hv) with
        | lst hq hr hl =>
          refine ⟨q, _, vs1, _, rfl, rfl, l1, Same.seq r1.sub hq, by rw [l3.length, hr.length]; exact Nat.le_trans hz lim_line, ?_⟩
          exact h1 _ _ Hf1 (r1.put e3 s1 (l3.append hr) (by rw [List.length_append]; exact hz)) (Same.refl _)
      · exact h1.elim
    · exact h1.elim
  · exact h.elim
theorem ixN_lt {n : Nat} {k : Int} {j : Nat} (h : ixN n k = some j) : j < n := (ixN_seq h).2.1
theorem s_put {i : Nat} {x : Str} {p2 tp : Pos} {k : E} {q : Expr} (hi : X.N[i]? = some x) (hv : visB X.env.scope x = true) (hsw : swapsWithSole [.Subscript (.Name x p2) q tp] p pos.line X.env = pure false) (hpl : plainB q = true)
    (ha : PE X p (rdE g X.K c W (evE a))) (hk : PE X q (rdE g X.K c W (evE k))) : SS g X c W n (.put i k a) (.Assign [.Subscript (.Name x p2) q tp] p pos) := by
  obtain ⟨h3, h4, h5⟩ := vis_ok hv
  refine PS_imp (ps_asg ha (pg_sub (pe_var hi h3 h4 h5) hk set_list (by intro v; cases q <;> first | rfl | cases hpl)) hsw rfl) fun D σ H ⟨Hf, ρ, r, h⟩ => ?_
  unfold exS at h
  refine postS.run r h fun rv ρ1 Hf1 H1 v r1 s1 hv h1 => ?_
  split at h1
  · rename_i ho
    obtain ⟨ds, e1⟩ := isOwn_ok ho
    obtain ⟨q, vs, t1, k1, k2, k3, k4, k5⟩ := r1.own i ds e1
    refine ⟨_, t1, postS.run r1 h1 fun rv2 ρ2 Hf2 H2 v2 r2 s2 hv2 h2 => ?_⟩
    split at h2
    · rename_i d kk ds2 e2 e3 e4
      cases asD_eq e2
      cases asD_eq e3
      split at h2
      · rename_i j ej
        obtain ⟨q1, vs1, u1, l1, l2, l3, l4, l5⟩ := r2.own i ds2 e4
        rw [t1] at u1
        cases u1
        refine ⟨q, vs1, kk, j, rfl, rep_int hv2, l1, by rw [l3.length]; exact ej, ?_⟩
        exact h2 _ _ Hf2 (r2.put e4 t1 (l3.set (Rep.mono s2 hv) j) (by rw [List.length_set]; exact l4)) (Same.refl _)
      · exact h2.elim
    · exact h2.elim
  · exact h1.elim
end
end Mini
end

section
set_option Elab.async false
set_option linter.all false
set_option maxRecDepth 100000
set_option maxHeartbeats 4000000
/-! M16: loops, new lists, every statement. -/
namespace Mini
open PySem L2

section
variable {g : Gx} {cm : Bool} {X : Cx} {c : C0} {W : WX} {n : Nat} {pos : Pos}
theorem s_ite {t : E} {p : Expr} {a b : List S} {as bs : List Stmt} (ht : PT X p (rdT g X.K c W (evT t))) (ha : PSs X as (rdS g X.K c W (exSs n a))) (hb : PSs X bs (rdS g X.K c W (exSs n b))) : SS g X c W n (.ite t a b) (.If p as bs pos) :=
  PS_imp (ps_if ht ha hb) fun D σ H ⟨Hf, ρ, r, h⟩ => by
    unfold exS at h
    refine postS.runT r h fun k ρ1 Hf1 H1 r1 s1 h1 => ?_
    cases k with
    | true =>
      rw [if_pos rfl] at h1 ⊢
      exact ⟨Hf1, ρ1, r1, h1⟩
    | false =>
      rw [if_neg Bool.false_ne_true] at h1 ⊢
      exact ⟨Hf1, ρ1, r1, h1⟩
theorem s_whl {t : E} {p : Expr} {b : List S} {bs : List Stmt} (hc : CtxS cm X) (ht : PT X p (rdT g X.K c W (evT t))) (hb : PSs X bs (rdS g X.K c W (exSs n b))) : SS g X c W n (.whl t b) (.While p bs [] pos) := by
  refine PS_imp (ps_while hc.own ht hb) fun D σ H ⟨Hf, ρ, r, h⟩ => ?_
  unfold exS at h
  refine ⟨fun m σ H => ∃ Hf ρ, R X.K c ρ σ Hf H ∧ postS g X.K c W D Hf (whlGo (evT t) (exSs n b) m ρ), ⟨n, Hf, ρ, r, h⟩, ?_⟩
  rintro m σ1 H1 ⟨Hf1, ρ1, r1, h1⟩
  cases m with
  | zero => exact h1.elim
  | succ m =>
    unfold whlGo at h1
    refine postS.runT r1 h1 fun k ρ2 Hf2 H2 r2 s2 h2 => ?_
    cases k with
    | false =>
      rw [if_neg Bool.false_ne_true] at h2 ⊢
      exact h2 σ1 H2 Hf2 r2 (Same.refl _)
    | true =>
      rw [if_pos rfl] at h2 ⊢
      refine ⟨fun σ H => ∃ Hf ρ, R X.K c ρ σ Hf H ∧ postS g X.K c W D Hf (whlGo (evT t) (exSs n b) m ρ), fun σ' H' w => ⟨m, Nat.lt_succ_self m, w⟩, Hf2, ρ2, r2, ?_⟩
      cases e : exSs n b ρ2 with
      | bad => rw [e] at h2; exact h2
      | nx ρ3 => rw [e] at h2; exact fun σ' H' Hf' r' s' => ⟨Hf', ρ3, r', postS.mono s' h2⟩
      | cnt ρ3 => rw [e] at h2; exact fun σ' H' Hf' r' s' => ⟨Hf', ρ3, r', postS.mono s' h2⟩
      | brk ρ3 => rw [e] at h2; exact h2
      | ret rv ρ3 => rw [e] at h2; exact h2
      | exc x d ρ3 => rw [e] at h2; exact h2
      | new ds ρ3 => rw [e] at h2; exact h2
theorem s_for {t : Tgt} {s : Src} {tg it : Expr} {b : List S} {bs : List Stmt} (hc : CtxS cm X) (hcm : cm = true) (hi : PI X tg it (rdSrc g X.K c W (evSrc s))) (hst : ∀ x, foldedSetIterable it X.env x = pure x) (ht : chkT X.env.scope X.N X.env.scope t tg = true)
    (hb : PSs X bs (rdS g X.K c W (exSs n b))) : SS g X c W n (.for t s b) (.For tg it bs [] pos) := by
  have pg : PG X tg (gT X.K t) := pgT_ok (own := X.env.scope) hc.c.nd (hc.c.calm hcm) (fun x _ => hc.fn x) ht
  refine PS_imp (ps_for hc.own (hc.c.calm hcm) hi pg hb hst) fun D σ H ⟨Hf, ρ, r, h⟩ => ?_
  unfold exS at h
  refine ⟨Hf, ρ, r, h.out fun xs ρ1 Hf1 H1 r1 s1 h1 J itk => ?_⟩
  let In (i : Nat) (σ : L2.St) (H : Hp) : Prop := ∃ Hfi ρi, i ≤ xs.length ∧ R X.K c ρi σ Hfi H ∧ Same Hf1 Hfi ∧ postS g X.K c W D Hfi (forGo t (exSs n b) (xs.drop i) ρi)
  refine ⟨fun i m σ H => m = xs.length - i ∧ In i σ H, ⟨_, rfl, Hf1, ρ1, Nat.zero_le _, r1, Same.refl _, h1⟩, ?_⟩
  rintro i m σ2 H2 ⟨rfl, Hf2, ρ2, hi, r2, s2, h2⟩
  by_cases hlt : i < xs.length
  · refine .inr ⟨itk.go i H2 (s2.trans r2.sub) hlt, In (i + 1), fun σ' H' w => ⟨xs.length - (i + 1), by omega, rfl, w⟩, fun x H' y => ?_⟩
    obtain ⟨e, d, hd, hr⟩ := itk.yld i H2 x H' (s2.trans r2.sub) y hlt
    subst e
    have hx : xs.drop i = d :: xs.drop (i + 1) := by
      rw [List.drop_eq_getElem_cons hlt]
      have := List.getElem?_eq_getElem hlt
      rw [hd] at this
      cases this
      rfl
    rw [hx] at h2
    unfold forGo at h2
    cases e1 : bindT t d ρ2 with
    | none => rw [e1] at h2; exact h2.elim
    | some ρ3 =>
      rw [e1] at h2
      simp only at h2
      refine gT_ok r2 e1 (hr.mono s2) fun σ3 r3 _ => ⟨Hf2, ρ3, r3, ?_⟩
      cases e : exSs n b ρ3 with
      | bad => rw [e] at h2; exact h2
      | nx ρ4 => rw [e] at h2; exact fun σ' H' Hf' r' s' => ⟨Hf', ρ4, hlt, r', s2.trans s', postS.mono s' h2⟩
      | cnt ρ4 => rw [e] at h2; exact fun σ' H' Hf' r' s' => ⟨Hf', ρ4, hlt, r', s2.trans s', postS.mono s' h2⟩
      | brk ρ4 => rw [e] at h2; exact h2
      | ret rv ρ4 => rw [e] at h2; exact h2
      | exc x d ρ4 => rw [e] at h2; exact h2
      | new ds ρ4 => rw [e] at h2; exact h2
  · have e : i = xs.length := by omega
    subst e
    rw [List.drop_length] at h2
    exact .inl ⟨itk.stop _ _ (s2.trans r2.sub) rfl, h2 σ2 H2 Hf2 r2 (Same.refl _)⟩

/-! ### new lists -/
theorem f_lst {es' : List E} {es : List Expr} (h : AllE g X c W es' es) : PE X (.List es pos) (rdF g X.K c W (evE (.lst es'))) :=
  PE_imp (pe_lst h.pa) fun σ H Q ⟨Hf, ρ, r, h⟩ => by
    unfold evE at h
    refine post.runA r h fun rvs ρ1 Hf1 H1 vs r1 s1 hvs h1 => ?_
    obtain ⟨ds, ed, h2⟩ := h1.optb
    have rs := hvs.asDs ed
    split at h2
    · rename_i hl
      refine ⟨by rw [rs.length]; exact line_lim hl, fun p hp => ?_⟩
      exact h2 _ Hf1 (r1.adv (Adv.new' r1.sub hp)) (Same.refl _) _ ⟨p, vs, ds, rfl, rfl, upd_same, r1.sub.free hp, r1.fresh hp, r1.none_own hp, rs, hl⟩
    · exact h2.elim
theorem f_cat {a b : E} {p q : Expr} (ha : PE X p (rdE g X.K c W (evE a))) (hb : PE X q (rdE g X.K c W (evE b))) : PE X (.BinOp p .Add q pos) (rdF g X.K c W (evE (.cat a b))) :=
  PE_imp (pe_op op_addL ha hb) fun σ H Q ⟨Hf, ρ, r, h⟩ => by
    unfold evE at h
    refine post.run r h fun rv ρ1 Hf1 H1 v r1 s1 hv h1 => post.run r1 h1 fun rv2 ρ2 Hf2 H2 v2 r2 s2 hv2 h2 => ?_
    obtain ⟨x, ex, h3⟩ := h2.optb
    obtain ⟨y, ey, h4⟩ := h3.optb
    obtain ⟨z, ez, h5⟩ := h4.opt
    obtain ⟨d, hd, rfl⟩ := omap ez
    obtain ⟨_, xs, ys, rfl, rfl, rfl, hl⟩ := catD_eq hd
    obtain ⟨pa, va, rfl, sa, ra, la⟩ := ((hv.mono s2).deref r2 ex).lst_ r2.sub
    obtain ⟨pb, vb, rfl, sb, rb, lb⟩ := (hv2.deref r2 ey).lst_ r2.sub
    refine ⟨pa, pb, va, vb, rfl, rfl, sa, sb, by rw [ra.length, rb.length]; exact line_lim hl, fun p hp => ?_⟩
    exact h5 _ Hf2 (r2.adv (Adv.new' r2.sub hp)) (Same.refl _) _ ⟨p, _, _, rfl, rfl, upd_same, r2.sub.free hp, r2.fresh hp, r2.none_own hp, ra.append rb, by rw [List.length_append]; exact hl⟩
theorem f_list {e' : E} {e : Expr} {p : Pos} (hc : Ctx cm X) (hg : glB X.env.scope ("list" : Str) = true) (h : AllE g X c W [e'] [e]) : PE X (.Call (.Name ("list" : Str) p) [e] [] pos) (rdF g X.K c W (evE (.bi .list [e']))) := by
  obtain ⟨g1, g2, g3⟩ := gl_ok hg
  cases h with
  | cons hp hs t =>
    have A : AllE g X c W [e'] [e] := .cons hp hs t
    refine PE_imp (pe_callTy call_list_of g1 (hc.fre _ (by decide +kernel)) (boot_bi .list) A.pa g3 g2 (star_plain hp) rfl) fun σ H Q ⟨Hf, ρ, r, h⟩ => ?_
    unfold evE at h
    refine post.runA r h fun rvs ρ1 Hf1 H1 vs r1 s1 hvs h1 => ?_
    obtain ⟨ds, ed, h2⟩ := h1.optb
    have rb := hvs.derefs r1 ed
    obtain ⟨z, ez, h3⟩ := h2.opt
    obtain ⟨d, hd, rfl⟩ := omap ez
    have fin : ∀ {ys : List V} {xs : List D}, d = .lst xs → Reps X.K Hf1 ys xs → xs.length ≤ lim → ∀ l, H1 l = none → Q (.ref l) (upd H1 l (.lst ys)) := fun {ys xs} e rs hl l hn => by
      subst e
      exact h3 _ Hf1 (r1.adv (Adv.new' r1.sub hn)) (Same.refl _) _ ⟨l, ys, xs, rfl, rfl, upd_same, r1.sub.free hn, r1.fresh hn, r1.none_own hn, rs, hl⟩
    cases rb with
    | nil => cases hd
    | cons h1 t =>
      rename_i v vs x xs
      cases t with
      | cons h2 t2 => cases x <;> cases hd
      | nil =>
        cases x with
        | tup ds =>
          cases hd
          obtain ⟨q, ys, rfl, hq, hr, hl, _⟩ := h1.tup_ r1.sub
          exact ⟨q, ys, rfl, .inr hq, fin rfl hr hl⟩
        | lst ds =>
          cases hd
          obtain ⟨q, ys, rfl, hq, hr, hl⟩ := h1.lst_ r1.sub
          exact ⟨q, ys, rfl, .inl hq, fin rfl hr hl⟩
        | _ => cases hd
theorem call_endF {σ : L2.St} {Hf H : Hp} {ρ : En} {f : CallF} {rs : List Rv} {vs : List V} {Q : VK} (hfr : f.fr = true) (r : R X.K c ρ σ Hf H) (hv : RvsR X.K σ Hf vs rs) (h : post g X.K c W σ Hf (fun rv ρ' Hf' H' => ∀ v, FrR X.K c ρ' σ Hf' H' v rv → Q v H') (callO f rs ρ)) : spM g X.K f vs H Q (WE W σ) := by
  unfold callO at h
  cases e1 : splitA ρ f.md rs with
  | none => rw [e1] at h; exact h.elim
  | some z =>
    obtain ⟨ds, is⟩ := z
    rw [e1] at h
    simp only at h
    split at h
    · rename_i hn
      have hn : is.Nodup := of_decide_eq_true hn
      obtain ⟨ps, a1, a2⟩ := splitA_ok r hv e1
      refine ⟨Hf, ds, ps, r.sub, a1, a2.nodup r hn, ?_⟩
      cases e2 : f.F ds with
      | bad => rw [e2] at h; exact h.elim
      | ok d outs =>
        rw [e2] at h
        simp only at h
        cases e3 : putO ρ is outs with
        | none => rw [e3] at h; exact h.elim
        | some ρ' =>
          rw [e3] at h
          intro v H' Hf' A O ans
          have r' := r.call A a2 hn O e3
          unfold AnsR at ans
          rw [if_pos hfr] at ans
          obtain ⟨p, xs, x, rfl, rfl, k1, k2, k3, k4, k5⟩ := ans
          exact h H' Hf' r' A.f _ ⟨p, xs, x, rfl, rfl, k1, k2, r.fresh k3, fun j dj e => by
            obtain ⟨_, e5⟩ := putO_own a2 e3 e
            exact r.none_own k3 j _ e5, k4, k5⟩
      | exc x d outs =>
        rw [e2] at h
        simp only at h
        cases e3 : putO ρ is outs with
        | none => rw [e3] at h; exact h.elim
        | some ρ' =>
          rw [e3] at h
          intro cls dx H' Hf' A O ans
          exact h cls dx H' Hf' (r.call A a2 hn O e3) A.f ans
    · exact h.elim
theorem f_call {f : CallF} {es' : List E} {es : List Expr} {p : Pos} (hfr : f.fr = true) (hco : CallOk g (wd X) f) (tk : Takes X W) (hg : glB X.env.scope f.name = true) (h : AllE g X c W es' es) : PE X (.Call (.Name f.name p) es [] pos) (rdF g X.K c W (evE (.call f es'))) := by
  obtain ⟨fa, fd, ps, k, F, rm, hm, hk, hb⟩ := hco
  obtain ⟨g1, g2, _⟩ := gl_ok hg
  cases h with
  | nil =>
    refine PE_imp (pe_callS0 F rm g1 hm hk hb (passAt tk) g2) fun σ H Q ⟨Hf, ρ, r, h⟩ => ?_
    exact call_endF hfr r .nil h
  | cons hp hs t =>
    refine PE_imp (pe_callS F rm g1 hm hk hb (passAt tk) (AllE.cons hp hs t).pa g2 (star_plain hp) t.any) fun σ H Q ⟨Hf, ρ, r, h⟩ => ?_
    unfold evE at h
    refine post.runA r h fun rvs ρ1 Hf1 H1 vs r1 s1 hvs h1 => ?_
    exact call_endF hfr r1 hvs h1

/-! ### comprehensions: as new lists, stored -/
section
variable {t : Tgt} {own : List Nat} {s : Src} {ifs' : List E} {elt' : E} {tg it elt : Expr} {ifs : List Expr} {scope : Scope}
theorem lc_read {K : PySem.W.Frag} {σ : L2.St} {Hf H : Hp} {ρ : En} {k : Rv → En → Hp → Hp → Prop} {Q : VK} (hno : NoXa c) (hs : ∀ i ∈ tgOwn t, i ∈ own) (r : R K c ρ σ Hf H) (h : post g K c W σ Hf k (evE (.lc t own s ifs' elt') ρ))
    (hk : ∀ ρ2 Hf2 H2 q vs ys, R K c ρ2 σ Hf2 H2 → H2 q = some (.lst vs) → Hf2 q = none → c.H q = none → (∀ (j : Nat) (dj : List D), ρ2[j]? = some (Sl.own dj) → σ[j]? ≠ some (some (.ref q))) → Reps K Hf2 vs ys → ys.length ≤ lim → post g K c W σ Hf2 k (.ok (.d (.lst ys)) ρ2) → Q (.ref q) H2) :
    tLc (rdSrc g K c W (evSrc s)) (gT K t) (rdTx g K (evTs ifs')) (rdEx g K (evE elt')) own σ H Q := by
  unfold evE at h
  refine ⟨Hf, ρ, r, h.bind fun xs ρ1 Hf1 H1 r1 s1 h1 J itk D hD => ?_⟩
  split at h1
  · rename_i fr
    split at h1
    · rename_i ys ρ2 hgo
      refine lc_end hno r1 fr itk hs hgo hD fun H' Hf' vs r2 sf d1 d2 dn reps len => ?_
      exact hk ρ2 Hf' H' _ vs ys r2 d1 d2 (r1.fresh hD) dn reps len (post.mono sf h1 fun _ _ _ _ z => z)
    · exact h1.elim
  · exact h1.elim
/-- what a comprehension's parts must be -/
structure LcOk (g : Gx) (cm : Bool) (X : Cx) (c : C0) (W : WX) (t : Tgt) (own : List Nat) (s : Src) (ifs' : List E) (elt' : E) (tg it elt : Expr) (ifs : List Expr) (scope : Scope) : Prop where
  cm : cm = true
  no : NoXa c
  hs : ∀ i ∈ tgOwn t, i ∈ own
  ok : blkC X.N X.env.scope scope (ownN X.N own) = true
  ht : chkT scope X.N (relS scope X.env.scope) t tg = true
  hi : PI X tg it (rdSrc g X.K c W (evSrc s))
  hst : ∀ x, foldedSetIterable it X.env x = pure x
  hl : ifs'.length ≤ 1
  hts : tOks ifs' = true
  hf : ∀ (s : Shared) (H : Hp) (C : Addr) (cl : List (Str × Addr)) (fp : List Addr) (c : C0), NoXa c → AllE g (X.blk s H scope (compEnvC scope cl C X.env) fp) c W0 ifs' ifs
  he : ∀ (s : Shared) (H : Hp) (C : Addr) (cl : List (Str × Addr)) (fp : List Addr) (c : C0), NoXa c → SE g (X.blk s H scope (compEnvC scope cl C X.env) fp) c W0 elt' elt
theorem LcOk.pg (L : LcOk g cm X c W t own s ifs' elt' tg it elt ifs scope) (hc : Ctx cm X) (s : Shared) (H : Hp) (C : Addr) (cl : List (Str × Addr)) (fp : List Addr) : PG (X.blk s H scope (compEnvC scope cl C X.env) fp) tg (gT X.K t) :=
  pgT_ok (X := X.blk s H scope (compEnvC scope cl C X.env) fp) hc.nd (hc.calm L.cm) (fun x hx => by
      show (scope.names.lookup x == some .cell) = true
      rw [hx] <;> rfl) L.ht
theorem LcOk.pe (L : LcOk g cm X c W t own s ifs' elt' tg it elt ifs scope) (hc : Ctx cm X) : PE X (.ListComp elt [⟨tg, it, ifs, 0⟩] scope pos) (tLc (rdSrc g X.K c W (evSrc s)) (gT X.K t) (rdTx g X.K (evTs ifs')) (rdEx g X.K (evE elt')) own) := by
  have k := pe_lc (pos := pos) (g := gT X.K t) (tt := rdTx g X.K (evTs ifs')) (te := rdEx g X.K (evE elt')) (hc.calm L.cm) hc.nd L.hi (blkOk_by L.ok) (fun s H C cl fp => L.pg hc s H C cl fp)
    (fun s H C cl fp => evTs_pt L.hl L.hts (L.hf s H C cl fp)) (fun s H C cl fp => PE_ex (t := fun c : {c : C0 // NoXa c} => rdE g X.K c.1 W0 (evE elt')) fun c => (L.he s H C cl fp c.1 c.2).1) L.hst
  rw [ownN_snd] at k
  exact k
theorem LcOk.ps (L : LcOk g cm X c W t own s ifs' elt' tg it elt ifs scope) (hc : Ctx cm X) {i : Nat} {y : Str} {py spos : Pos} (hy : X.N[i]? = some y) (hyl : X.env.scope.names.lookup y = some .local) (hsw : swapsWith (.ListComp elt [⟨tg, it, ifs, 0⟩] scope pos) (some (.Name y py)) spos.line X.env = pure true) :
    PS X (.Assign [.Name y py] (.ListComp elt [⟨tg, it, ifs, 0⟩] scope pos) spos) (tAsg (tLc (rdSrc g X.K c W (evSrc s)) (gT X.K t) (rdTx g X.K (evTs ifs')) (rdEx g X.K (evE elt')) own) (gName i)) := by
  have k := ps_setLc (g := gT X.K t) (tt := rdTx g X.K (evTs ifs')) (te := rdEx g X.K (evE elt')) (hc.calm L.cm) hc.nd hy hyl hsw L.hi (blkOk_by L.ok) (fun s H C cl fp => L.pg hc s H C cl fp)
    (fun s H C cl fp => evTs_pt L.hl L.hts (L.hf s H C cl fp)) (fun s H C cl fp => PE_ex (t := fun c : {c : C0 // NoXa c} => rdE g X.K c.1 W0 (evE elt')) fun c => (L.he s H C cl fp c.1 c.2).1) L.hst
  rw [ownN_snd] at k
  exact k
theorem f_lc (L : LcOk g cm X c W t own s ifs' elt' tg it elt ifs scope) (hc : Ctx cm X) : PE X (.ListComp elt [⟨tg, it, ifs, 0⟩] scope pos) (rdF g X.K c W (evE (.lc t own s ifs' elt'))) :=
  PE_imp (L.pe hc) fun σ H Q ⟨Hf, ρ, r, h⟩ => lc_read L.no L.hs r h fun ρ2 Hf2 H2 D vs ys r2 d1 d2 d3 dn reps len h2 => h2 H2 Hf2 r2 (Same.refl _) _ ⟨D, vs, ys, rfl, rfl, d1, d2, d3, dn, reps, len⟩
/-- the two ways of storing -/
theorem swaps_lc {y : Str} {py : Pos} {line : Nat} {env : PySem.Env} {gs : List Comprehension} : ∃ b, swapsWith (.ListComp elt gs scope pos) (some (.Name y py)) line env = pure b ∧ (b = true → env.scope.names.lookup y = some .local) := by
  refine ⟨_, rfl, fun h => ?_⟩
  obtain ⟨h, _⟩ := and3 h
  obtain ⟨h, _⟩ := and3 h
  obtain ⟨_, h⟩ := and3 h
  exact (show env.kindOf y = some .local by simpa using h)
theorem s_setLc (L : LcOk g cm X c W t own s ifs' elt' tg it elt ifs scope) (hc : CtxS cm X) {i : Nat} {y : Str} {py spos : Pos} (hy : X.N[i]? = some y) (hx : Loc X.env.scope y) :
    SS g X c W n (.set i (.lc t own s ifs' elt')) (.Assign [.Name y py] (.ListComp elt [⟨tg, it, ifs, 0⟩] scope pos) spos) := by
  obtain ⟨b, hb, hl⟩ := swaps_lc (elt := elt) (scope := scope) (pos := pos) (y := y) (py := py) (line := spos.line) (env := X.env) (gs := [⟨tg, it, ifs, 0⟩])
  have fin : ∀ D σ H, rdS g X.K c W (exS n (.set i (.lc t own s ifs' elt'))) D σ H → tAsg (tLc (rdSrc g X.K c W (evSrc s)) (gT X.K t) (rdTx g X.K (evTs ifs')) (rdEx g X.K (evE elt')) own) (gName i) D σ H := fun D σ H ⟨Hf, ρ, r, h⟩ => by
    unfold exS at h
    obtain ⟨Hf', ρ', r', h'⟩ := postS.run (Q := fun v H => D.nx (σ.set i (some v)) H) r h fun rv ρ1 Hf1 H1 v r1 s1 hv h1 => set_end r1 hv h1
    refine lc_read L.no L.hs r' h' fun ρ2 Hf2 H2 D vs ys r2 d1 d2 d3 dn reps len h2 => ?_
    have sm : Same Hf2 (upd Hf2 D (.lst vs)) := same_upd d2
    exact h2 H2 _ (r2.frzN d1 d2 d3 dn) sm _ (.lst (SqL.of upd_same) (reps.mono sm) len)
  cases b with
  | true => exact PS_imp (L.ps hc.c hy (hl rfl) hb) fin
  | false => exact PS_imp (ps_set hc.c.nd hy hx (L.pe hc.c) hb (.inl (hc.fn y))) fin
theorem s_setNLc (L : LcOk g cm X c W t own s ifs' elt' tg it elt ifs scope) (hc : CtxS cm X) {i : Nat} {y : Str} {py spos : Pos} (hn : ∀ p, (i, p) ∉ c.ps) (hy : X.N[i]? = some y) (hx : Loc X.env.scope y) :
    SS g X c W n (.setN i (.lc t own s ifs' elt')) (.Assign [.Name y py] (.ListComp elt [⟨tg, it, ifs, 0⟩] scope pos) spos) := by
  obtain ⟨b, hb, hl⟩ := swaps_lc (elt := elt) (scope := scope) (pos := pos) (y := y) (py := py) (line := spos.line) (env := X.env) (gs := [⟨tg, it, ifs, 0⟩])
  have fin : ∀ D σ H, rdS g X.K c W (exS n (.setN i (.lc t own s ifs' elt'))) D σ H → tAsg (tLc (rdSrc g X.K c W (evSrc s)) (gT X.K t) (rdTx g X.K (evTs ifs')) (rdEx g X.K (evE elt')) own) (gName i) D σ H := fun D σ H ⟨Hf, ρ, r, h⟩ => by
    unfold exS at h
    obtain ⟨Hf', ρ', r', h'⟩ := postS.runF (Q := fun v H => D.nx (σ.set i (some v)) H) r h fun rv ρ1 Hf1 H1 v r1 s1 hv h1 => by
      obtain ⟨q, vs, ds, rfl, rfl, k1, k2, k3, k4, k5, k6⟩ := hv
      exact h1 _ H1 Hf1 (r1.setO hn k1 k2 k5 k6 k3 k4) (Same.refl _)
    exact lc_read L.no L.hs r' h' fun ρ2 Hf2 H2 D vs ys r2 d1 d2 d3 dn reps len h2 => h2 H2 Hf2 r2 (Same.refl _) _ ⟨D, vs, ys, rfl, rfl, d1, d2, d3, dn, reps, len⟩
  cases b with
  | true => exact PS_imp (L.ps hc.c hy (hl rfl) hb) fin
  | false => exact PS_imp (ps_set hc.c.nd hy hx (L.pe hc.c) hb (.inl (hc.fn y))) fin
end
end
end Mini
end

section
set_option Elab.async false
set_option linter.all false
set_option maxRecDepth 100000
set_option maxHeartbeats 4000000
/-! M17: every statement; defs. -/
namespace Mini
open PySem L2

/-! ### the check of statements -/
def locB (sc : Scope) (x : Str) : Bool := match sc.names.lookup x with
  | some .local => true
  | some .cell => true
  | _ => false
def noComp : Expr → Bool
  | .ListComp _ _ _ _ | .SetComp _ _ _ _ | .DictComp _ _ _ _ _ => false
  | _ => true
def noTup : Expr → Bool
  | .Tuple _ _ _ => false
  | _ => true
def isLc : E → Bool
  | .lc _ _ _ _ _ => true
  | _ => false
def chkF : E → Bool
  | .lst _ => true
  | .lc _ _ _ _ _ => true
  | .bi b es => (match b, es with
    | .list, [_] => true
    | _, _ => false)
  | .call f _ => f.fr
  | .cat _ _ => true
  | _ => false
def augB : Bool → Operator → Bool
  | false, .Add => true
  | true, .Sub => true
  | _, _ => false
def frzI : S → Option Nat
  | .frz i => some i
  | _ => none
mutual
def chkS (cm : Bool) (N : List Str) (sc : Scope) (np : Nat) : S → Stmt → Bool
  | .ret a, st => (match st with
    | .Return e _ => (match e with
      | some p => chkE cm N sc a p
      | none => false)
    | _ => false)
  | .retN, st => (match st with
    | .Return e _ => (match e with
      | none => true
      | some _ => false)
    | _ => false)
  | .retF a, st => (match st with
    | .Return e _ => (match e with
      | some p => chkF a && chkE cm N sc a p
      | none => false)
    | _ => false)
  | .set i a, st => (match st with
    | .Assign ts p _ => (match ts with
      | [t] => (match t with
        | .Name x _ => decide (N[i]? = some x) && locB sc x && (isLc a || noComp p) && chkE cm N sc a p
        | _ => false)
      | _ => false)
    | _ => false)
  | .setN i a, st => (match st with
    | .Assign ts p _ => (match ts with
      | [t] => (match t with
        | .Name x _ => decide (N[i]? = some x) && locB sc x && (isLc a || noComp p) && decide (np ≤ i) && chkF a && chkE cm N sc a p
        | _ => false)
      | _ => false)
    | _ => false)
  | .unp is a, st => (match st with
    | .Assign ts p _ => (match ts with
      | [t] => (match t with
        | .Tuple es _ _ => cm && tgsB sc N sc is es && noTup p && chkE cm N sc a p
        | _ => false)
      | _ => false)
    | _ => false)
  | .aug i sub a, st => (match st with
    | .AugAssign t op p _ => (match t with
      | .Name x _ => decide (N[i]? = some x) && locB sc x && augB sub op && chkE cm N sc a p
      | _ => false)
    | _ => false)
  | .ite t a b, st => (match st with
    | .If p as bs _ => tOk t && chkE cm N sc t p && chkSs cm N sc np a as && chkSs cm N sc np b bs
    | _ => false)
  | .whl t b, st => (match st with
    | .While p bs or _ => or.isEmpty && tOk t && chkE cm N sc t p && chkSs cm N sc np b bs
    | _ => false)
  | .for t s b, st => (match st with
    | .For tg it bs or _ => or.isEmpty && cm && chkT sc N sc t tg && chkSrc cm N sc s it && chkSs cm N sc np b bs
    | _ => false)
  | .app i a, st => (match st with
    | .Expr e _ => (match e with
      | .Call fn ps kws cpos => (match fn, ps, kws with
        | .Attribute ob nm apos, [p], [] => (match ob with
          | .Name x _ => decide (nm = ("append" : Str)) && (apos.endLine == cpos.line) && decide (N[i]? = some x) && visB sc x && plainB p && chkE cm N sc a p
          | _ => false)
        | _, _, _ => false)
      | _ => false)
    | _ => false)
  | .ext i a, st => (match st with
    | .Expr e _ => (match e with
      | .Call fn ps kws cpos => (match fn, ps, kws with
        | .Attribute ob nm apos, [p], [] => (match ob with
          | .Name x _ => decide (nm = ("extend" : Str)) && (apos.endLine == cpos.line) && decide (N[i]? = some x) && visB sc x && plainB p && chkE cm N sc a p
          | _ => false)
        | _, _, _ => false)
      | _ => false)
    | _ => false)
  | .put i k a, st => (match st with
    | .Assign ts p _ => (match ts with
      | [t] => (match t with
        | .Subscript ob q _ => (match ob with
          | .Name x _ => decide (N[i]? = some x) && visB sc x && plainB q && chkE cm N sc a p && chkE cm N sc k q
          | _ => false)
        | _ => false)
      | _ => false)
    | _ => false)
  | .exp a, st => (match st with
    | .Expr p _ => noComp p && chkE cm N sc a p
    | _ => false)
  | .raise _ C a, st => (match st with
    | .Raise e f _ => (match e, f with
      | some (.Call fn ps kws _), none => (match fn, ps, kws with
        | .Name x _, [p], [] => decide (x = C) && cm && glB sc x && plainB p && chkE cm N sc a p
        | _, _, _ => false)
      | _, _ => false)
    | _ => false)
  | .try b cs C m h, st => (match st with
    | .Try bs hs el fi _ => (match hs, el, fi with
      | [.ExceptHandler ty nm sts _], [], [] => (match ty, sts with
        | some (.Name x _), st :: sts => decide (x = C) && (cm && glB sc x) && (match m, nm with
          | none, none => true
          | some i, some y => decide (N[i]? = some y) && (match sc.names.lookup y with
            | some .local => true
            | _ => false)
          | _, _ => false) && chkSs cm N sc np b bs && chkSs false N sc np h (st :: sts)
        | _, _ => false)
      | _, _, _ => false)
    | _ => false)
  | .frz _, _ => false
  | .pas, st => (match st with
    | .Pass _ => true
    | .Expr e _ => (match e with
      | .Constant c _ _ => (match c with
        | .str _ => true
        | _ => false)
      | _ => false)
    | _ => false)
  | .brk, st => (match st with
    | .Break _ => true
    | _ => false)
  | .cnt, st => (match st with
    | .Continue _ => true
    | _ => false)
  | .nev, _ => true
def chkSs (cm : Bool) (N : List Str) (sc : Scope) (np : Nat) : List S → List Stmt → Bool
  | [], sts => (match sts with
    | [] => true
    | _ :: _ => false)
  | s :: ss, sts => (match frzI s with
    | some i => decide (np ≤ i) && chkSs cm N sc np ss sts
    | none => (match sts with
      | [] => false
      | st :: sts => chkS cm N sc np s st && chkSs cm N sc np ss sts))
end
mutual
def okSt (g : Gx) (d : Wd) : S → Prop
  | .ret a | .retF a | .set _ a | .setN _ a | .unp _ a | .aug _ _ a | .app _ a | .ext _ a | .exp a => okE g d a
  | .raise x C a => RaiseOk g d x C ∧ okE g d a
  | .put _ k a => okE g d k ∧ okE g d a
  | .ite t a b => okE g d t ∧ okSts g d a ∧ okSts g d b
  | .whl t b => okE g d t ∧ okSts g d b
  | .for _ s b => okSrc g d s ∧ okSts g d b
  | .try b cs C _ h => okSts g d b ∧ (∀ x, okSts g { d with A := d.A.mark x } h) ∧ ∃ cv, d.mg C = some cv ∧ ∀ x, x < g.n → PySem.W.exmOne d.K (.ref (g.xc x)) cv = some (cs.contains x)
  | .retN | .frz _ | .pas | .brk | .cnt | .nev => True
def okSts (g : Gx) (d : Wd) : List S → Prop
  | [] => True
  | s :: ss => okSt g d s ∧ okSts g d ss
end

theorem noComp_sw {p : Expr} {t : Option Expr} {l : Nat} {env : PySem.Env} (h : noComp p = true) : swapsWith p t l env = pure false := by
  cases p <;> first | rfl | cases h
theorem sw_sub {o q p : Expr} {tp : Pos} {l : Nat} {env : PySem.Env} : swapsWithSole [.Subscript o q tp] p l env = pure false := by cases p <;> rfl
theorem sw_tup {es : List Expr} {x1 : Nat} {p : Expr} {p2 : Pos} {l : Nat} {env : PySem.Env} : swapsWithSole [.Tuple es x1 p2] p l env = pure false := by cases p <;> rfl
theorem st_tup {es : List Expr} {x1 : Nat} {p : Expr} {p2 : Pos} {env : PySem.Env} (h : noTup p = true) : swappedStores [.Tuple es x1 p2] p env = pure none := by
  cases p <;> first | rfl | cases h
theorem loc_ok {sc : Scope} {x : Str} (h : locB sc x = true) : Loc sc x := by
  unfold locB at h
  split at h
  · exact .inl (by assumption)
  · exact .inr (by assumption)
  · cases h
theorem lcOk_of {g : Gx} {cm : Bool} {X : Cx} {c : C0} {W : WX} {t : Tgt} {own : List Nat} {s : Src} {ifs : List E} {elt : E} {e : Expr} (hc : Ctx cm X) (hx : XOk g cm X c) (hk : chkE cm X.N X.env.scope (.lc t own s ifs elt) e = true) (ho : okE g (wd X) (.lc t own s ifs elt)) (tk : Takes X W) :
    ∃ tg it x fs scope pos, e = .ListComp x [⟨tg, it, fs, 0⟩] scope pos ∧ LcOk g cm X c W t own s ifs elt tg it x fs scope := by
  unfold chkE at hk
  split at hk
  · split at hk
    · obtain ⟨hk, h9⟩ := and3 hk
      obtain ⟨hk, h8⟩ := and3 hk
      obtain ⟨hk, h7⟩ := and3 hk
      obtain ⟨hk, h6⟩ := and3 hk
      obtain ⟨hk, h5⟩ := and3 hk
      obtain ⟨hk, h4⟩ := and3 hk
      obtain ⟨hk, h3⟩ := and3 hk
      obtain ⟨hk, h2⟩ := and3 hk
      obtain ⟨h0, h1⟩ := and3 hk
      have h0 := of_decide_eq_true h0
      subst h0
      exact ⟨_, _, _, _, _, _, rfl, h1, hx.no h1, fun i hi => by simpa using List.all_eq_true.mp h2 i hi, h3, h4, sSrc s hc hx h5 ho.1 tk, plainSrc h5, of_decide_eq_true h7, h6,
        fun s H C cl fp c hn => sEs (X := X.blk s H _ (compEnvC _ cl C X.env) fp) ifs (hc.blk ..) (.of hn) h8 ho.2.1 takes0, fun s H C cl fp c hn => sE (X := X.blk s H _ (compEnvC _ cl C X.env) fp) elt (hc.blk ..) (.of hn) h9 ho.2.2 takes0⟩
    · cases hk
  · cases hk
theorem aug_ok {sub : Bool} {op : Operator} (h : augB sub op = true) : op = if sub then .Sub else .Add := by
  cases sub <;> cases op <;> first | rfl | exact absurd h (by decide)
/-- new lists -/
theorem sF {g : Gx} {cm : Bool} {X : Cx} {c : C0} {W : WX} {a : E} {p : Expr} (hc : Ctx cm X) (hx : XOk g cm X c) (hf : chkF a = true) (hk : chkE cm X.N X.env.scope a p = true) (ho : okE g (wd X) a) (tk : Takes X W) : PE X p (rdF g X.K c W (evE a)) := by
  cases a with
  | lst es =>
    unfold chkE at hk
    split at hk
    · exact f_lst (sEs es hc hx hk ho tk)
    · cases hk
  | lc t own s ifs elt =>
    obtain ⟨_, _, _, _, _, _, rfl, L⟩ := lcOk_of (c := c) hc hx hk ho tk
    exact f_lc L hc
  | bi b es =>
    unfold chkF at hf
    simp only at hf
    split at hf
    · unfold chkE at hk
      split at hk
      · split at hk
        · obtain ⟨hk, h5⟩ := and3 hk
          obtain ⟨hk, h4⟩ := and3 hk
          obtain ⟨hk, h3⟩ := and3 hk
          obtain ⟨h1, h2⟩ := and3 hk
          have h1 := of_decide_eq_true h1
          subst h1
          have A := sEs (c := c) _ hc hx h5 ho tk
          cases A with
          | cons hp hs t =>
            cases t
            exact f_list hc h2 (.cons hp hs .nil)
        · cases hk
      · cases hk
    · cases hf
  | cat a b =>
    unfold chkE at hk
    split at hk
    · obtain ⟨hk, h3⟩ := and3 hk
      obtain ⟨h1, h2⟩ := and3 hk
      cases bop_ok h1
      exact f_cat (sE a (c := c) hc hx h2 ho.1 tk).1 (sE b (c := c) hc hx h3 ho.2 tk).1
    · cases hk
  | call f es =>
    unfold chkE at hk
    split at hk
    · split at hk
      · obtain ⟨hk, h3⟩ := and3 hk
        obtain ⟨h1, h2⟩ := and3 hk
        have h1 := of_decide_eq_true h1
        subst h1
        exact f_call hf ho.1 tk h2 (sEs es hc hx h3 ho.2 tk)
      · cases hk
    · cases hk
  | _ => cases hf

theorem seq_post {g : Gx} {K : PySem.W.Frag} {c : C0} {W : WX} {Dn : Ends} {Hf : Hp} {o : Out} {f : En → Out} (h : postS g K c W Dn Hf (o.seq f)) : postS g K c W { Dn with nx := rdS g K c W f Dn } Hf o := by
  cases o with
  | nx ρ => exact fun σ' H' Hf' r s => ⟨Hf', ρ, r, postS.mono s h⟩
  | brk ρ => exact h
  | cnt ρ => exact h
  | ret rv ρ => exact h
  | exc x d ρ => exact h
  | new ds ρ => exact h
  | bad => exact h
/-! ### except clauses -/
def C0.hand (c : C0) (a dx : Addr) (x : Nat) (f : Str) : C0 := { c with xa := fun a' dx' x' f' => a' = a ∧ dx' = dx ∧ x' = x ∧ f' = f }
theorem CtxS.tr {cm : Bool} {X : Cx} (h : CtxS cm X) {pn : List (Addr × Obj)} {xe : Value → Shared → Prop} (p : PassesOwn (model X.prog X.w) X.A X.env xe) : CtxS cm (X.tr pn xe) := ⟨⟨h.c.nd, h.c.fre, h.c.un, h.c.calm⟩, h.fn, p, h.stk, h.frm⟩
theorem CtxS.suite {cm : Bool} {X : Cx} (h : CtxS cm X) (a : Addr) (pn : List (Addr × Obj)) : CtxS false (X.suite a pn) := ⟨⟨h.c.nd, h.c.fre, h.c.un, fun z => by cases z⟩, h.fn, PassesOwn.never, h.stk, h.frm⟩
theorem XOk.hand {g : Gx} {X : Cx} {c : C0} {a dx : Addr} {x : Nat} {oe : Obj} {pn : List (Addr × Obj)} (hz : Zc (.ref (g.xc x)) (some dx) oe) (hd : ∃ vs, oe.data = .fields vs) : XOk g false (X.suite a ((a, oe) :: pn)) (c.hand a dx x (g.xf x)) :=
  ⟨(fun z => by cases z), fun a' dx' x' f' ⟨e1, e2, e3, e4⟩ => by
    subst e1 e2 e3 e4
    exact ⟨rfl, X, oe, pn, rfl, hz, hd⟩⟩
section
variable {K : PySem.W.Frag} {c : C0} {ρ : En} {σ : L2.St} {Hf H : Hp}
theorem noX_ok (h : noX ρ = true) {i x : Nat} {d : D} (e : ρ[i]? = some (Sl.exn x d)) : False := by
  have q := List.all_eq_true.mp h _ (List.mem_of_getElem? e)
  cases q
theorem R.xa (r : R K c ρ σ Hf H) (h : noX ρ = true) (xa : Addr → Addr → Nat → Str → Prop) : R K { c with xa := xa } ρ σ Hf H := ⟨r.len, r.val, r.own, r.inj, r.sub, r.f0, r.keep, r.out, r.par, fun i x d e => (noX_ok h e).elim⟩
theorem own_no {i : Nat} (h : isOwn ρ i = false) {ds : List D} : ρ[i]? ≠ some (Sl.own ds) := fun e => by
  unfold isOwn at h
  rw [e] at h
  cases h
/-- slot i becomes something that owns no list -/
theorem R.slot (r : R K c ρ σ Hf H) {i : Nat} {s : Sl} {o : Option V} (hi : isOwn ρ i = false) (hs : s = .no ∨ ∃ x d a dx f v, s = .exn x d ∧ o = some (.ref a) ∧ c.xa a dx x f ∧ H dx = some (.xd [(f, v)]) ∧ Rep K Hf v d) : R K c (ρ.set i s) (σ.set i o) Hf H := by
  have hn : ∀ p, (i, p) ∉ c.ps := fun p hp => by
    obtain ⟨⟨ds, e⟩, _⟩ := r.par i p hp
    exact own_no hi e
  have hl := r.len
  have at_ : ∀ {j t}, (ρ.set i s)[j]? = some t → (i = j ∧ t = s ∧ i < ρ.length) ∨ (i ≠ j ∧ ρ[j]? = some t) := fun {j t} h => by
    by_cases hj : i = j
    · subst hj
      have hlt : i < ρ.length := by
        have := (List.getElem?_eq_some_iff.mp h).1
        rw [List.length_set] at this; exact this
      rw [List.getElem?_set_self hlt] at h
      exact .inl ⟨rfl, (Option.some.inj h).symm, hlt⟩
    · rw [List.getElem?_set_ne hj] at h; exact .inr ⟨hj, h⟩
  have no : ∀ {t : Sl}, t = s → (∀ ds, t ≠ .own ds) ∧ ∀ d, t ≠ .val d := fun {t} e => by
    subst e
    rcases hs with rfl | ⟨_, _, _, _, _, _, rfl, _⟩
    · exact ⟨(fun _ z => by cases z), (fun _ z => by cases z)⟩
    · exact ⟨(fun _ z => by cases z), (fun _ z => by cases z)⟩
  refine ⟨by rw [List.length_set, List.length_set]; exact hl, fun j d h => ?_, fun j ds h => ?_, fun j k dj dk p hj hk sj sk => ?_, r.sub, r.f0, r.keep, r.out, fun j p h => ?_, fun j x d h => ?_⟩
  · rcases at_ h with ⟨_, e, _⟩ | ⟨nj, h⟩
    · exact absurd rfl ((no e).2 d)
    · obtain ⟨v, e1, e2⟩ := r.val j d h
      exact ⟨v, by rw [List.getElem?_set_ne nj]; exact e1, e2⟩
  · rcases at_ h with ⟨_, e, _⟩ | ⟨nj, h⟩
    · exact absurd rfl ((no e).1 ds)
    · obtain ⟨p, vs, e1, k⟩ := r.own j ds h
      exact ⟨p, vs, by rw [List.getElem?_set_ne nj]; exact e1, k⟩
  · rcases at_ hj with ⟨_, e, _⟩ | ⟨nj, hj⟩
    · exact absurd rfl ((no e).1 dj)
    · rcases at_ hk with ⟨_, e, _⟩ | ⟨nk, hk⟩
      · exact absurd rfl ((no e).1 dk)
      · rw [List.getElem?_set_ne nj] at sj
        rw [List.getElem?_set_ne nk] at sk
        exact r.inj j k _ _ p hj hk sj sk
  · obtain ⟨⟨ds, e⟩, s1⟩ := r.par j p h
    have nj : i ≠ j := fun z => by subst z; exact hn p h
    exact ⟨⟨ds, by rw [List.getElem?_set_ne nj]; exact e⟩, by rw [List.getElem?_set_ne nj]; exact s1⟩
  · rcases at_ h with ⟨ej, e, hlt⟩ | ⟨nj, h⟩
    · subst ej
      rcases hs with rfl | ⟨x', d', a, dx, f, v, rfl, rfl, k1, k2, k3⟩
      · cases e
      · cases e
        exact ⟨a, dx, f, v, List.getElem?_set_self (by rw [hl]; exact hlt), k1, k2, k3⟩
    · obtain ⟨a, dx, f, v, e1, k⟩ := r.exn j x d h
      exact ⟨a, dx, f, v, by rw [List.getElem?_set_ne nj]; exact e1, k⟩
theorem R.slot0 (r : R K c ρ σ Hf H) {i : Nat} (hi : isOwn ρ i = false) : R K c (ρ.set i .no) σ Hf H := by
  by_cases hlt : i < σ.length
  · have q := r.slot (o := σ[i]) hi (.inl rfl)
    rw [List.set_getElem_self] at q
    exact q
  · have q := r.slot (o := none) hi (.inl rfl)
    rw [List.set_eq_of_length_le (Nat.le_of_not_lt hlt)] at q
    exact q
end
section
variable {g : Gx} {cm : Bool} {X : Cx} {c : C0} {W : WX} {n : Nat} {pos np pos' : Pos} {b h : List S} {bs sts : List Stmt} {st : Stmt} {cs : List Nat} {C y : Str} {cv : Value} {i : Nat}
/-- how a suite's end ends the whole -/
theorem post_leave {K : PySem.W.Frag} {Dn Dn' : Ends} {Hf : Hp} {a dx : Addr} {x : Nat} {f : Str} {m : Option Nat} {o : Out} (hp : postS g K c W Dn Hf (leaveT m o)) (hrt : Dn'.rt = Dn.rt)
    (hT : ∀ (F F' : L2.St → Hp → Prop), (F = Dn.nx ∧ F' = Dn'.nx) ∨ (F = Dn.bk ∧ F' = Dn'.bk) ∨ (F = Dn.ct ∧ F' = Dn'.ct) → ∀ σ H, (match m with
      | none => F σ H
      | some i => F (σ.set i none) H) → F' σ H) : postS g K (c.hand a dx x f) W0 Dn' Hf o := by
  have lv : ∀ {ρ ρ' : En} {σ : L2.St} {Hf H : Hp}, leaveX m ρ = some ρ' → R K (c.hand a dx x f) ρ σ Hf H → R K c ρ' σ Hf H ∧ (match m with
      | none => R K c ρ' σ Hf H
      | some i => R K c ρ' (σ.set i none) Hf H) := fun {ρ ρ' σ Hf H} e r => by
    unfold leaveX at e
    cases m with
    | none =>
      simp only at e
      split at e
      · rename_i hx
        cases e
        exact ⟨r.xa hx c.xa, r.xa hx c.xa⟩
      · cases e
    | some i =>
      simp only at e
      split at e
      · rename_i hx
        obtain ⟨h1, h2⟩ := and3 hx
        cases e
        have h1 : isOwn ρ i = false := by simpa using h1
        exact ⟨(r.slot0 h1).xa h2 c.xa, (r.slot (o := none) h1 (.inl rfl)).xa h2 c.xa⟩
      · cases e
  have go : ∀ (F F' : L2.St → Hp → Prop), (F = Dn.nx ∧ F' = Dn'.nx) ∨ (F = Dn.bk ∧ F' = Dn'.bk) ∨ (F = Dn.ct ∧ F' = Dn'.ct) → ∀ {ρ ρ' : En}, leaveX m ρ = some ρ' → (∀ σ' H' Hf', R K c ρ' σ' Hf' H' → Same Hf Hf' → F σ' H') → ∀ σ' H' Hf', R K (c.hand a dx x f) ρ σ' Hf' H' → Same Hf Hf' → F' σ' H' := fun F F' hF {ρ ρ'} e hq σ' H' Hf' r s => by
    obtain ⟨r1, r2⟩ := lv e r
    refine hT F F' hF σ' H' ?_
    cases m with
    | none => exact hq _ _ _ r2 s
    | some i => exact hq _ _ _ r2 s
  cases o with
  | bad => exact hp
  | exc _ _ _ => exact hp.elim
  | nx ρ =>
    simp only [leaveT] at hp
    cases e : leaveX m ρ with
    | none => rw [e] at hp; exact hp.elim
    | some ρ' => rw [e] at hp; exact go _ _ (.inl ⟨rfl, rfl⟩) e hp
  | brk ρ =>
    simp only [leaveT] at hp
    cases e : leaveX m ρ with
    | none => rw [e] at hp; exact hp.elim
    | some ρ' => rw [e] at hp; exact go _ _ (.inr (.inl ⟨rfl, rfl⟩)) e hp
  | cnt ρ =>
    simp only [leaveT] at hp
    cases e : leaveX m ρ with
    | none => rw [e] at hp; exact hp.elim
    | some ρ' => rw [e] at hp; exact go _ _ (.inr (.inr ⟨rfl, rfl⟩)) e hp
  | ret rv ρ =>
    simp only [leaveT] at hp
    cases e : leaveX m ρ with
    | none => rw [e] at hp; exact hp.elim
    | some ρ' =>
      rw [e] at hp
      intro σ' H' Hf' v r s hv
      rw [hrt]
      exact hp σ' H' Hf' v (lv e r).1 s hv
  | new ds ρ =>
    simp only [leaveT] at hp
    cases e : leaveX m ρ with
    | none => rw [e] at hp; exact hp.elim
    | some ρ' =>
      rw [e] at hp
      intro σ' H' Hf' v r s hv
      rw [hrt]
      have e2 : ∀ {j : Nat} {dj : List D}, ρ'[j]? = some (Sl.own dj) → ρ[j]? = some (Sl.own dj) := fun {j dj} z => by
        unfold leaveX at e
        cases m with
        | none =>
          simp only at e
          split at e
          · cases e; exact z
          · cases e
        | some i =>
          simp only at e
          split at e
          · cases e
            by_cases hij : i = j
            · subst hij
              by_cases hlt : i < ρ.length
              · rw [List.getElem?_set_self hlt] at z; cases z
              · rw [List.getElem?_eq_none (by rw [List.length_set]; omega)] at z; cases z
            · rw [List.getElem?_set_ne hij] at z; exact z
          · cases e
      obtain ⟨p, vs, d, k1, k2, k3, k4, k5, k6, k7, k8⟩ := hv
      exact hp σ' H' Hf' v (lv e r).1 s ⟨p, vs, d, k1, k2, k3, k4, k5, fun j dj z => k6 j dj (e2 z), k7, k8⟩
theorem s_try_only (hc : CtxS cm X) (tk : Takes X W) (hg : Gl X C ∧ (C == ("__debug__" : Str)) = false ∧ C ≠ "__name__") (hm : X.mg C = some cv) (hcs : ∀ x, x < g.n → PySem.W.exmOne X.K (.ref (g.xc x)) cv = some (cs.contains x))
    (hb : ∀ (W : WX) (pn : List (Addr × Obj)) (xe : Value → Shared → Prop), Takes (X.tr pn xe) W → PassesOwn (model X.prog X.w) X.A X.env xe → PSs (X.tr pn xe) bs (rdS g X.K c W (exSs n b)))
    (hu : ∀ (a : Addr) (oe : Obj) (dx : Addr) (x : Nat) (pn : List (Addr × Obj)), Zc (.ref (g.xc x)) (some dx) oe → (∃ vs, oe.data = .fields vs) → PSs (X.suite a ((a, oe) :: pn)) (st :: sts) (rdS g X.K (c.hand a dx x (g.xf x)) W0 (exSs n h))) :
    SS g X c W n (.try b cs C none h) (.Try bs [.ExceptHandler (some (.Name C np)) none (st :: sts) pos'] [] [] pos) := by
  let ts : Addr → Value → Option Addr → TS := fun a cls d D σ H => ∃ x dx, cls = .ref (g.xc x) ∧ d = some dx ∧ rdS g X.K (c.hand a dx x (g.xf x)) W0 (exSs n h) D σ H
  refine PS_imp (ps_try_only (ts := ts) (tb := fun W => rdS g X.K c W (exSs n b)) hc.stk hc.frm (c := cv) ⟨hg.1, hg.2.1, .inl hm⟩ tk hb (fun a oe cls d pn hz hd => ⟨fun pins s σ H D I ⟨x, dx, e1, e2, q⟩ => by
    subst e1 e2
    exact (hu a oe dx x pn hz hd).run pins s σ H D I q⟩)) fun D σ H ⟨Hf, ρ, r, hp⟩ => ⟨Hf, ρ, r, ?_⟩
  unfold exS at hp
  cases eo : exSs n b ρ with
  | bad => rw [eo] at hp; exact hp
  | nx _ => rw [eo] at hp; exact hp
  | brk _ => rw [eo] at hp; exact hp
  | cnt _ => rw [eo] at hp; exact hp
  | ret _ _ => rw [eo] at hp; exact hp
  | new _ _ => rw [eo] at hp; exact hp
  | exc x d ρ1 =>
    rw [eo] at hp
    simp only at hp
    intro cls dx σ' H' Hf' r' s' xr
    obtain ⟨rfl, hn, dA, v, rfl, k1, k2⟩ := id xr
    refine ⟨_, hcs x hn, fun hy a ha => ?_, fun hy => ?_⟩
    · rw [if_pos hy] at hp
      cases ee : enterX none x d ρ1 with
      | none => rw [ee] at hp; exact hp.elim
      | some ρ2 =>
        rw [ee] at hp
        unfold enterX at ee
        split at ee
        · rename_i hx
          cases ee
          refine ⟨x, dA, rfl, rfl, Hf', _, r'.xa hx _, postS.mono s' (post_leave (m := none) hp rfl fun F F' hF σ H q => ?_)⟩
          rcases hF with ⟨rfl, rfl⟩ | ⟨rfl, rfl⟩ | ⟨rfl, rfl⟩ <;> exact q
        · cases ee
    · rw [if_neg (by rw [hy]; decide)] at hp
      exact hp _ _ _ _ _ r' s' xr
theorem s_try_as (hc : CtxS cm X) (tk : Takes X W) (hg : Gl X C ∧ (C == ("__debug__" : Str)) = false ∧ C ≠ "__name__") (hm : X.mg C = some cv) (hcs : ∀ x, x < g.n → PySem.W.exmOne X.K (.ref (g.xc x)) cv = some (cs.contains x)) (hi : X.N[i]? = some y) (hl : X.env.scope.names.lookup y = some .local)
    (hb : ∀ (W : WX) (pn : List (Addr × Obj)) (xe : Value → Shared → Prop), Takes (X.tr pn xe) W → PassesOwn (model X.prog X.w) X.A X.env xe → PSs (X.tr pn xe) bs (rdS g X.K c W (exSs n b)))
    (hu : ∀ (a : Addr) (oe : Obj) (dx : Addr) (x : Nat) (pn : List (Addr × Obj)), Zc (.ref (g.xc x)) (some dx) oe → (∃ vs, oe.data = .fields vs) → PSs (X.suite a ((a, oe) :: pn)) (st :: sts) (rdS g X.K (c.hand a dx x (g.xf x)) W0 (exSs n h))) :
    SS g X c W n (.try b cs C (some i) h) (.Try bs [.ExceptHandler (some (.Name C np)) (some y) (st :: sts) pos'] [] [] pos) := by
  let ts : Addr → Value → Option Addr → TS := fun a cls d D σ H => ∃ x dx, cls = .ref (g.xc x) ∧ d = some dx ∧ rdS g X.K (c.hand a dx x (g.xf x)) W0 (exSs n h) D σ H
  refine PS_imp (ps_try_as (ts := ts) (tb := fun W => rdS g X.K c W (exSs n b)) hc.stk hc.frm hc.c.nd hi hl (c := cv) ⟨hg.1, hg.2.1, .inl hm⟩ tk hb (fun a oe cls d pn hz hd => ⟨fun pins s σ H D I ⟨x, dx, e1, e2, q⟩ => by
    subst e1 e2
    exact (hu a oe dx x pn hz hd).run pins s σ H D I q⟩)) fun D σ H ⟨Hf, ρ, r, hp⟩ => ⟨Hf, ρ, r, ?_⟩
  unfold exS at hp
  cases eo : exSs n b ρ with
  | bad => rw [eo] at hp; exact hp
  | nx _ => rw [eo] at hp; exact hp
  | brk _ => rw [eo] at hp; exact hp
  | cnt _ => rw [eo] at hp; exact hp
  | ret _ _ => rw [eo] at hp; exact hp
  | new _ _ => rw [eo] at hp; exact hp
  | exc x d ρ1 =>
    rw [eo] at hp
    simp only at hp
    intro cls dx σ' H' Hf' r' s' xr
    obtain ⟨rfl, hn, dA, v, rfl, k1, k2⟩ := id xr
    refine ⟨_, hcs x hn, fun hy a ha => ?_, fun hy => ?_⟩
    · rw [if_pos hy] at hp
      cases ee : enterX (some i) x d ρ1 with
      | none => rw [ee] at hp; exact hp.elim
      | some ρ2 =>
        rw [ee] at hp
        unfold enterX at ee
        split at ee
        · rename_i hx
          simp only at ee
          split at ee
          · cases ee
          · rename_i ho
            have ho : isOwn ρ1 i = false := by simpa using ho
            split at ee
            · cases ee
              have r2 : R X.K (c.hand a dA x (g.xf x)) ρ1 σ' Hf' H' := r'.xa hx _
              refine ⟨x, dA, rfl, rfl, Hf', _, r2.slot (o := some (.ref a)) ho (.inr ⟨x, d, a, dA, g.xf x, v, rfl, rfl, ⟨rfl, rfl, rfl, rfl⟩, k1, k2⟩), postS.mono s' (post_leave (m := some i) hp rfl fun F F' hF σ H q => ?_)⟩
              rcases hF with ⟨rfl, rfl⟩ | ⟨rfl, rfl⟩ | ⟨rfl, rfl⟩ <;> exact q
            · cases ee
        · cases ee
    · rw [if_neg (by rw [hy]; decide)] at hp
      exact hp _ _ _ _ _ r' s' xr
end
theorem s_raise {g : Gx} {cm : Bool} {X : Cx} {c : C0} {W : WX} {n x : Nat} {a : E} {p : Expr} {C : Str} {nm p1 pos : Pos} (hc : CtxS cm X) (hcm : cm = true) (tk : Takes X W) (hg : glB X.env.scope C = true) (hp : plainB p = true) (T : RaiseOk g (wd X) x C) (ha : PE X p (rdE g X.K c W (evE a))) :
    SS g X c W n (.raise x C a) (.Raise (some (.Call (.Name C nm) [p] [] p1)) none pos) := by
  obtain ⟨g1, g2, g3⟩ := gl_ok hg
  obtain ⟨hn, fI, fd, ps, k, T1, T2, T3, T4, T5, T6, T7⟩ := T
  refine PS_imp (ps_raise (hc.c.calm hcm) tk (pmk_oex (p := nm) (pos := p1) T1 T2 T3 T4 T5 T6 .nil passL g1 T7 (pa_cons ha pa_nil (star_plain hp)) g2 (star_plain hp) rfl)) fun D σ H ⟨Hf, ρ, r, h⟩ => ?_
  unfold exS at h
  refine postS.run r h fun rv ρ1 Hf1 H1 v r1 s1 hv h1 => ?_
  cases e : asD rv with
  | none => rw [e] at h1; exact h1.elim
  | some d =>
    rw [e] at h1
    cases asD_eq e
    refine spI_mk (K := X.K) (C := g.xc x) (f := g.xf x) (H1 := H1) (y := v) (Q := fun cls d H' => W cls d σ H') fun dx hd => ?_
    have A : Adv Hf1 H1 Hf1 (upd H1 dx (.xd [(g.xf x, v)])) := Adv.new' r1.sub hd
    exact h1 _ _ σ _ Hf1 (r1.adv A) (Same.refl _) ⟨rfl, hn, dx, v, rfl, upd_same, hv⟩
mutual
theorem sS {g : Gx} {cm : Bool} {np n : Nat} : ∀ (s : S) {X : Cx} {c : C0} {W : WX} {st : Stmt}, CtxS cm X → XOk g cm X c → (∀ i p, (i, p) ∈ c.ps → i < np) → chkS cm X.N X.env.scope np s st = true → okSt g (wd X) s → Takes X W → SS g X c W n s st
  | .ret a, X, c, W, st, hc, hx, hp, hk, ho, tk => by
    unfold chkS at hk
    split at hk
    · split at hk
      · exact s_ret (sE a hc.c hx hk ho tk).1
      · cases hk
    · cases hk
  | .retN, X, c, W, st, hc, hx, hp, hk, ho, tk => by
    unfold chkS at hk
    split at hk
    · split at hk
      · exact s_retN
      · cases hk
    · cases hk
  | .retF a, X, c, W, st, hc, hx, hp, hk, ho, tk => by
    unfold chkS at hk
    split at hk
    · split at hk
      · obtain ⟨h1, h2⟩ := and3 hk
        exact s_retF (sF hc.c hx h1 h2 ho tk)
      · cases hk
    · cases hk
  | .set i a, X, c, W, st, hc, hx, hp, hk, ho, tk => by
    unfold chkS at hk
    split at hk
    · split at hk
      · split at hk
        · obtain ⟨hk, h4⟩ := and3 hk
          obtain ⟨hk, h3⟩ := and3 hk
          obtain ⟨h1, h2⟩ := and3 hk
          have h1 := of_decide_eq_true h1
          rcases Bool.or_eq_true_iff.mp h3 with h3 | h3
          · cases a with
            | lc t own s ifs elt =>
              obtain ⟨_, _, _, _, _, _, rfl, L⟩ := lcOk_of (c := c) hc.c hx h4 ho tk
              exact s_setLc L hc h1 (loc_ok h2)
            | _ => cases h3
          · exact s_set hc h1 (loc_ok h2) (noComp_sw h3) (sE a hc.c hx h4 ho tk).1
        · cases hk
      · cases hk
    · cases hk
  | .setN i a, X, c, W, st, hc, hx, hp, hk, ho, tk => by
    unfold chkS at hk
    split at hk
    · split at hk
      · split at hk
        · obtain ⟨hk, h6⟩ := and3 hk
          obtain ⟨hk, h5⟩ := and3 hk
          obtain ⟨hk, h4⟩ := and3 hk
          obtain ⟨hk, h3⟩ := and3 hk
          obtain ⟨h1, h2⟩ := and3 hk
          have h1 := of_decide_eq_true h1
          have h4 := of_decide_eq_true h4
          have hn : ∀ p, (i, p) ∉ c.ps := fun p z => absurd (hp i p z) (by omega)
          rcases Bool.or_eq_true_iff.mp h3 with h3 | h3
          · cases a with
            | lc t own s ifs elt =>
              obtain ⟨_, _, _, _, _, _, rfl, L⟩ := lcOk_of (c := c) hc.c hx h6 ho tk
              exact s_setNLc L hc hn h1 (loc_ok h2)
            | _ => cases h3
          · exact s_setN hc hn h1 (loc_ok h2) (noComp_sw h3) (sF hc.c hx h5 h6 ho tk)
        · cases hk
      · cases hk
    · cases hk
  | .unp is a, X, c, W, st, hc, hx, hp, hk, ho, tk => by
    unfold chkS at hk
    split at hk
    · split at hk
      · split at hk
        · obtain ⟨hk, h4⟩ := and3 hk
          obtain ⟨hk, h3⟩ := and3 hk
          obtain ⟨h1, h2⟩ := and3 hk
          exact s_unp hc h1 h2 sw_tup (st_tup h3) (sE a hc.c hx h4 ho tk).1
        · cases hk
      · cases hk
    · cases hk
  | .aug i sub a, X, c, W, st, hc, hx, hp, hk, ho, tk => by
    unfold chkS at hk
    split at hk
    · split at hk
      · obtain ⟨hk, h4⟩ := and3 hk
        obtain ⟨hk, h3⟩ := and3 hk
        obtain ⟨h1, h2⟩ := and3 hk
        exact s_aug hc (of_decide_eq_true h1) (loc_ok h2) (aug_ok h3) (sE a hc.c hx h4 ho tk).1
      · cases hk
    · cases hk
  | .ite t a b, X, c, W, st, hc, hx, hp, hk, ho, tk => by
    unfold chkS at hk
    split at hk
    · obtain ⟨hk, h4⟩ := and3 hk
      obtain ⟨hk, h3⟩ := and3 hk
      obtain ⟨h1, h2⟩ := and3 hk
      exact s_ite ((sE t hc.c hx h2 ho.1 tk).2 h1) (sSs a hc hx hp h3 ho.2.1 tk) (sSs b hc hx hp h4 ho.2.2 tk)
    · cases hk
  | .whl t b, X, c, W, st, hc, hx, hp, hk, ho, tk => by
    unfold chkS at hk
    split at hk
    · obtain ⟨hk, h4⟩ := and3 hk
      obtain ⟨hk, h3⟩ := and3 hk
      obtain ⟨h1, h2⟩ := and3 hk
      have h1 := List.isEmpty_iff.mp h1
      subst h1
      exact s_whl hc ((sE t hc.c hx h3 ho.1 tk).2 h2) (sSs b hc hx hp h4 ho.2 tk)
    · cases hk
  | .for t s b, X, c, W, st, hc, hx, hp, hk, ho, tk => by
    unfold chkS at hk
    split at hk
    · obtain ⟨hk, h5⟩ := and3 hk
      obtain ⟨hk, h4⟩ := and3 hk
      obtain ⟨hk, h3⟩ := and3 hk
      obtain ⟨h1, h2⟩ := and3 hk
      have h1 := List.isEmpty_iff.mp h1
      subst h1
      exact s_for hc h2 (sSrc s hc.c hx h4 ho.1 tk) (plainSrc h4) h3 (sSs b hc hx hp h5 ho.2 tk)
    · cases hk
  | .app i a, X, c, W, st, hc, hx, hp, hk, ho, tk => by
    unfold chkS at hk
    split at hk
    · split at hk
      · split at hk
        · split at hk
          · obtain ⟨hk, h6⟩ := and3 hk
            obtain ⟨hk, h5⟩ := and3 hk
            obtain ⟨hk, h4⟩ := and3 hk
            obtain ⟨hk, h3⟩ := and3 hk
            obtain ⟨h1, h2⟩ := and3 hk
            have h1 := of_decide_eq_true h1
            subst h1
            exact s_app (of_decide_eq_true h3) h4 h2 h5 (sE a hc.c hx h6 ho tk).1
          · cases hk
        · cases hk
      · cases hk
    · cases hk
  | .ext i a, X, c, W, st, hc, hx, hp, hk, ho, tk => by
    unfold chkS at hk
    split at hk
    · split at hk
      · split at hk
        · split at hk
          · obtain ⟨hk, h6⟩ := and3 hk
            obtain ⟨hk, h5⟩ := and3 hk
            obtain ⟨hk, h4⟩ := and3 hk
            obtain ⟨hk, h3⟩ := and3 hk
            obtain ⟨h1, h2⟩ := and3 hk
            have h1 := of_decide_eq_true h1
            subst h1
            exact s_ext (of_decide_eq_true h3) h4 h2 h5 (sE a hc.c hx h6 ho tk).1
          · cases hk
        · cases hk
      · cases hk
    · cases hk
  | .put i k a, X, c, W, st, hc, hx, hp, hk, ho, tk => by
    unfold chkS at hk
    split at hk
    · split at hk
      · split at hk
        · split at hk
          · obtain ⟨hk, h5⟩ := and3 hk
            obtain ⟨hk, h4⟩ := and3 hk
            obtain ⟨hk, h3⟩ := and3 hk
            obtain ⟨h1, h2⟩ := and3 hk
            exact s_put (of_decide_eq_true h1) h2 sw_sub h3 (sE a hc.c hx h4 ho.2 tk).1 (sE k hc.c hx h5 ho.1 tk).1
          · cases hk
        · cases hk
      · cases hk
    · cases hk
  | .exp a, X, c, W, st, hc, hx, hp, hk, ho, tk => by
    unfold chkS at hk
    split at hk
    · obtain ⟨h1, h2⟩ := and3 hk
      exact s_exp (noComp_sw h1) (sE a hc.c hx h2 ho tk).1
    · cases hk
  | .raise x C a, X, c, W, st, hc, hx, hp, hk, ho, tk => by
    unfold chkS at hk
    split at hk
    · split at hk
      · split at hk
        · obtain ⟨hk, h5⟩ := and3 hk
          obtain ⟨hk, h4⟩ := and3 hk
          obtain ⟨hk, h3⟩ := and3 hk
          obtain ⟨h1, h2⟩ := and3 hk
          have h1 := of_decide_eq_true h1
          subst h1
          exact s_raise hc h2 tk h3 h4 ho.1 (sE a hc.c hx h5 ho.2 tk).1
        · cases hk
      · cases hk
    · cases hk
  | .try b cs C m h, X, c, W, st, hc, hx, hp, hk, ho, tk => by
    unfold chkS at hk
    split at hk
    · split at hk
      · split at hk
        · obtain ⟨hk, h5⟩ := and3 hk
          obtain ⟨hk, h4⟩ := and3 hk
          obtain ⟨hk, h3⟩ := and3 hk
          obtain ⟨h1, h2⟩ := and3 hk
          have h1 := of_decide_eq_true h1
          subst h1
          obtain ⟨o1, o2, cv, o3, o4⟩ := ho
          have hb : ∀ (W : WX) (pn : List (Addr × Obj)) (xe : Value → Shared → Prop), Takes (X.tr pn xe) W → PassesOwn (model X.prog X.w) X.A X.env xe → PSs (X.tr pn xe) _ (rdS g X.K c W (exSs n b)) := fun W pn xe t p =>
            sSs (X := X.tr pn xe) b (hc.tr p) (.of (hx.no (and3 h2).1)) hp h4 o1 t
          have hu : ∀ (a : Addr) (oe : Obj) (dx : Addr) (x : Nat) (pn : List (Addr × Obj)), Zc (.ref (g.xc x)) (some dx) oe → (∃ vs, oe.data = .fields vs) → PSs (X.suite a ((a, oe) :: pn)) _ (rdS g X.K (c.hand a dx x (g.xf x)) W0 (exSs n h)) := fun a oe dx x pn hz hd =>
            sSs (cm := false) (X := X.suite a ((a, oe) :: pn)) (c := c.hand a dx x (g.xf x)) h (hc.suite a _) (.hand hz hd) hp h5 (o2 _) takes0
          split at h3
          · exact s_try_only hc tk (gl_ok (and3 h2).2) o3 o4 hb hu
          · obtain ⟨h6, h7⟩ := and3 h3
            exact s_try_as hc tk (gl_ok (and3 h2).2) o3 o4 (of_decide_eq_true h6) (by split at h7 <;> first | assumption | cases h7) hb hu
          · cases h3
        · cases hk
      · cases hk
    · cases hk
  | .frz i, X, c, W, st, hc, hx, hp, hk, ho, tk => by
    unfold chkS at hk
    cases hk
  | .pas, X, c, W, st, hc, hx, hp, hk, ho, tk => by
    unfold chkS at hk
    split at hk
    · exact s_pas
    · split at hk
      · split at hk
        · exact s_doc
        · cases hk
      · cases hk
    · cases hk
  | .brk, X, c, W, st, hc, hx, hp, hk, ho, tk => by
    unfold chkS at hk
    split at hk
    · exact s_brk
    · cases hk
  | .cnt, X, c, W, st, hc, hx, hp, hk, ho, tk => by
    unfold chkS at hk
    split at hk
    · exact s_cnt
    · cases hk
  | .nev, X, c, W, st, hc, hx, hp, hk, ho, tk => s_nev
theorem sSs {g : Gx} {cm : Bool} {np n : Nat} : ∀ (ss : List S) {X : Cx} {c : C0} {W : WX} {sts : List Stmt}, CtxS cm X → XOk g cm X c → (∀ i p, (i, p) ∈ c.ps → i < np) → chkSs cm X.N X.env.scope np ss sts = true → okSts g (wd X) ss → Takes X W → PSs X sts (rdS g X.K c W (exSs n ss))
  | [], X, c, W, sts, hc, hx, hp, hk, ho, tk => by
    cases sts with
    | nil => exact PSs_imp pss_nil fun D σ H ⟨Hf, ρ, r, h⟩ => h σ H Hf r (Same.refl _)
    | cons _ _ => cases hk
  | s :: ss, X, c, W, sts, hc, hx, hp, hk, ho, tk => by
    unfold chkSs at hk
    split at hk
    · rename_i i e
      obtain ⟨h1, h2⟩ := and3 hk
      have h1 := of_decide_eq_true h1
      have e2 : s = .frz i := by
        cases s <;> first | (cases e; rfl) | cases e
      subst e2
      refine PSs_imp (sSs (n := n) ss hc hx hp h2 ho.2 tk) fun D σ H ⟨Hf, ρ, r, h⟩ => ?_
      have hn : ∀ p, (i, p) ∉ c.ps := fun p z => absurd (hp i p z) (by omega)
      unfold exSs at h
      unfold exS at h
      split at h
      · rename_i ds e1
        obtain ⟨p, vs, s1, k1, sm, r'⟩ := r.frz e1 hn
        exact ⟨_, _, r', postS.mono sm h⟩
      · exact h.elim
    · split at hk
      · cases hk
      · obtain ⟨h1, h2⟩ := and3 hk
        refine PSs_imp (pss_cons (sS (n := n) s hc hx hp h1 ho.1 tk) (sSs (n := n) ss hc hx hp h2 ho.2 tk)) fun D σ H ⟨Hf, ρ, r, h⟩ => ?_
        unfold exSs at h
        exact ⟨Hf, ρ, r, seq_post h⟩
end
end Mini
end

section
set_option Elab.async false
set_option linter.all false
set_option maxRecDepth 100000
set_option maxHeartbeats 4000000
/-! M18: a def keeps what its mirror says. -/
namespace Mini
open PySem L2

theorem zip_inj {α : Type} : ∀ {l : List Nat} {ps : List α} {a b : Nat} {p : α}, ps.Nodup → (a, p) ∈ l.zip ps → (b, p) ∈ l.zip ps → a = b
  | [], _, _, _, _, _, h, _ => by cases h
  | _ :: _, [], _, _, _, _, h, _ => by cases h
  | x :: l, q :: ps, a, b, p, nd, h1, h2 => by
    obtain ⟨n1, n2⟩ := List.nodup_cons.mp nd
    rcases List.mem_cons.mp h1 with e1 | h1 <;> rcases List.mem_cons.mp h2 with e2 | h2
    · cases e1; cases e2; rfl
    · cases e1; exact absurd (List.of_mem_zip h2).2 n1
    · cases e2; exact absurd (List.of_mem_zip h1).2 n1
    · exact zip_inj n2 h1 h2
section
variable {K : PySem.W.Frag} {Hf H : Hp}
theorem start_len : ∀ {md : List Bool} {ds : List D} {m : Nat} {ρ : En}, startE m md ds = some ρ → ρ.length = m ∧ md.length ≤ m
  | [], [], m, ρ, e => by
    have e : some (List.replicate m Sl.no) = some ρ := by cases m <;> exact e
    cases e
    exact ⟨by simp, Nat.zero_le _⟩
  | [], _ :: _, m, ρ, e => by cases m <;> cases e
  | _ :: _, [], m, ρ, e => by cases m <;> cases e
  | b :: md, d :: ds, 0, ρ, e => by cases e
  | b :: md, d :: ds, m + 1, ρ, e => by
    unfold startE at e
    simp only at e
    cases e1 : startE m md ds with
    | none => rw [e1] at e; cases e
    | some ρ1 =>
      rw [e1] at e
      obtain ⟨h1, h2⟩ := start_len e1
      have z : ∃ s, ρ = s :: ρ1 := by
        cases b with
        | false => exact ⟨_, (Option.some.inj e).symm⟩
        | true => cases d <;> first | (cases e; done) | exact ⟨_, (Option.some.inj e).symm⟩
      obtain ⟨s, rfl⟩ := z
      exact ⟨by rw [List.length_cons, h1], by rw [List.length_cons]; omega⟩
theorem start_ok : ∀ {md : List Bool} {vs : List V} {ds : List D} {ps : List Addr}, ArgR K Hf H md vs ds ps → ∀ {m : Nat} {ρ : En} (k0 : Nat), startE m md ds = some ρ →
    (slotsFrom k0 md).length = ps.length ∧ (∀ (i : Nat) (d : D), ρ[i]? = some (Sl.val d) → ∃ v, vs[i]? = some v ∧ Rep K Hf v d) ∧
    (∀ (i : Nat) (x : List D), ρ[i]? = some (Sl.own x) → ∃ p xs, vs[i]? = some (.ref p) ∧ H p = some (.lst xs) ∧ Hf p = none ∧ Reps K Hf xs x ∧ x.length ≤ lim ∧ (k0 + i, p) ∈ (slotsFrom k0 md).zip ps) ∧
    (∀ (j : Nat) (p : Addr), (j, p) ∈ (slotsFrom k0 md).zip ps → ∃ i, j = k0 + i ∧ i < md.length ∧ (∃ x, ρ[i]? = some (Sl.own x)) ∧ vs[i]? = some (.ref p))
  | _, _, _, _, .nil, m, ρ, k0, e => by
    have e : some (List.replicate m Sl.no) = some ρ := by cases m <;> exact e
    cases e
    refine ⟨rfl, fun i d h => ?_, fun i x h => ?_, fun j p h => by cases h⟩
    · rw [List.getElem?_replicate] at h; split at h <;> cases h
    · rw [List.getElem?_replicate] at h; split at h <;> cases h
  | _, _, _, _, .val (md := md) (v := v) (d := d) (vs := vs) (ds := ds) (ps := ps) hr t, m, ρ, k0, e => by
    cases m with
    | zero => cases e
    | succ m =>
      unfold startE at e
      simp only at e
      cases e1 : startE m md ds with
      | none => rw [e1] at e; cases e
      | some ρ1 =>
        rw [e1] at e
        cases e
        obtain ⟨q1, q2, q3, q4⟩ := start_ok t (k0 + 1) e1
        have ez : slotsFrom k0 (false :: md) = slotsFrom (k0 + 1) md := rfl
        rw [ez]
        refine ⟨q1, fun i d' h => ?_, fun i x h => ?_, fun j p h => ?_⟩
        · cases i with
          | zero =>
            simp at h
            subst h
            exact ⟨v, rfl, hr⟩
          | succ i => exact q2 i d' (by simpa using h)
        · cases i with
          | zero => simp at h
          | succ i =>
            obtain ⟨p, xs, w⟩ := q3 i x (by simpa using h)
            rw [show k0 + (i + 1) = k0 + 1 + i by omega]
            exact ⟨p, xs, by simpa using w⟩
        · obtain ⟨i, e, hi, ⟨x, hx⟩, hv⟩ := q4 j p h
          exact ⟨i + 1, by omega, by rw [List.length_cons]; omega, ⟨x, by simpa using hx⟩, by simpa using hv⟩
  | _, _, _, _, .own (md := md) (p := p) (xs := xs) (x := x) (vs := vs) (ds := ds) (ps := ps) h1 h2 h3 h4 t, m, ρ, k0, e => by
    cases m with
    | zero => cases e
    | succ m =>
      unfold startE at e
      simp only at e
      cases e1 : startE m md ds with
      | none => rw [e1] at e; cases e
      | some ρ1 =>
        rw [e1] at e
        cases e
        obtain ⟨q1, q2, q3, q4⟩ := start_ok t (k0 + 1) e1
        have ez : slotsFrom k0 (true :: md) = k0 :: slotsFrom (k0 + 1) md := rfl
        rw [ez]
        refine ⟨by rw [List.length_cons, List.length_cons, q1], fun i d' h => ?_, fun i y h => ?_, fun j q h => ?_⟩
        · cases i with
          | zero => simp at h
          | succ i => exact q2 i d' (by simpa using h)
        · cases i with
          | zero =>
            simp at h
            subst h
            exact ⟨p, xs, rfl, h1, h2, h3, h4, List.mem_cons_self ..⟩
          | succ i =>
            obtain ⟨q, ys, w1, w2, w3, w4, w5, w6⟩ := q3 i y (by simpa using h)
            rw [show k0 + (i + 1) = k0 + 1 + i by omega]
            exact ⟨q, ys, by simpa using w1, w2, w3, w4, w5, List.mem_cons_of_mem _ w6⟩
        · rcases List.mem_cons.mp h with h | h
          · cases h
            exact ⟨0, by omega, by rw [List.length_cons]; omega, ⟨x, rfl⟩, rfl⟩
          · obtain ⟨i, e, hi, ⟨x, hx⟩, hv⟩ := q4 j q h
            exact ⟨i + 1, by omega, by rw [List.length_cons]; omega, ⟨x, by simpa using hx⟩, by simpa using hv⟩
theorem start_at {N : List Str} {vs : List V} {i : Nat} {v : V} (h : vs[i]? = some v) : (L2.start N vs)[i]? = some (some v) := by
  unfold L2.start
  have hi : i < vs.length := (List.getElem?_eq_some_iff.mp h).1
  rw [List.getElem?_append_left (by rw [List.length_map]; exact hi), List.getElem?_map, h] <;> rfl
theorem start_noX : ∀ {md : List Bool} {ds : List D} {m : Nat} {ρ : En}, startE m md ds = some ρ → ∀ {i x : Nat} {d : D}, ρ[i]? = some (Sl.exn x d) → False
  | [], [], m, ρ, e, i, x, d, h => by
    have e : some (List.replicate m Sl.no) = some ρ := by cases m <;> exact e
    cases e
    rw [List.getElem?_replicate] at h
    split at h <;> cases h
  | [], _ :: _, m, ρ, e, i, x, d, h => by cases m <;> cases e
  | _ :: _, [], m, ρ, e, i, x, d, h => by cases m <;> cases e
  | b :: md, dd :: ds, 0, ρ, e, i, x, d, h => by cases e
  | b :: md, dd :: ds, m + 1, ρ, e, i, x, d, h => by
    unfold startE at e
    simp only at e
    cases e1 : startE m md ds with
    | none => rw [e1] at e; cases e
    | some ρ1 =>
      rw [e1] at e
      have z : ∃ s, ρ = s :: ρ1 ∧ ∀ y e, s ≠ .exn y e := by
        cases b with
        | false => exact ⟨_, (Option.some.inj e).symm, fun _ _ z => by cases z⟩
        | true => cases dd <;> first | (cases e; done) | exact ⟨_, (Option.some.inj e).symm, fun _ _ z => by cases z⟩
      obtain ⟨s, rfl, hs⟩ := z
      cases i with
      | zero =>
        simp at h
        exact hs _ _ h
      | succ i => exact start_noX e1 (i := i) (by simpa using h)
/-- the frame at the entry -/
theorem R_start {N : List Str} {md : List Bool} {vs : List V} {ds : List D} {ps : List Addr} {ρ : En} (s : Same Hf H) (a : ArgR K Hf H md vs ds ps) (nd : ps.Nodup) (e : startE N.length md ds = some ρ) :
    R K ⟨Hf, H, (inoutSlots md).zip ps, fun _ _ _ _ => False⟩ ρ (L2.start N vs) Hf H := by
  obtain ⟨l1, l2⟩ := start_len e
  obtain ⟨q1, q2, q3, q4⟩ := start_ok a 0 e
  have hv := a.len
  refine ⟨?_, fun i d h => ?_, fun i x h => ?_, fun i j di dj p hi hj si sj => ?_, s, Same.refl _, fun _ _ h _ => h, fun _ _ _ h => h, fun i p h => ?_, fun i x d h => (start_noX e h).elim⟩
  · unfold L2.start
    rw [List.length_append, List.length_map, List.length_replicate, l1]
    omega
  · obtain ⟨v, h1, h2⟩ := q2 i d h
    exact ⟨v, start_at h1, h2⟩
  · obtain ⟨p, xs, h1, h2, h3, h4, h5, h6⟩ := q3 i x h
    rw [Nat.zero_add] at h6
    exact ⟨p, xs, start_at h1, h2, h3, h4, h5, .inl h6⟩
  · obtain ⟨p1, _, h1, _, _, _, _, h6⟩ := q3 i di hi
    obtain ⟨p2, _, k1, _, _, _, _, k6⟩ := q3 j dj hj
    rw [start_at h1] at si
    rw [start_at k1] at sj
    cases si
    cases sj
    have := zip_inj nd h6 k6
    omega
  · obtain ⟨j, ej, _, ⟨x, hx⟩, hv⟩ := q4 i p h
    rw [Nat.zero_add] at ej
    subst ej
    exact ⟨⟨x, hx⟩, start_at hv⟩
end
section
variable {K : PySem.W.Frag} {c : C0} {ρ : En} {σ : L2.St} {Hf H : Hp}
theorem outs_ok (r : R K c ρ σ Hf H) : ∀ {is : List Nat} {ps : List Addr} {xs : List (List D)}, (∀ z ∈ is.zip ps, z ∈ c.ps) → is.length = ps.length → outsOf ρ is = some xs → OutR K Hf H ps xs
  | [], [], xs, _, _, e => by cases e; exact .nil
  | [], _ :: _, xs, _, l, _ => by cases l
  | _ :: _, [], xs, _, l, _ => by cases l
  | i :: is, p :: ps, xs, hz, l, e => by
    unfold outsOf at e
    cases e1 : ρ[i]? with
    | none => rw [e1] at e; cases e
    | some s =>
      cases e2 : outsOf ρ is with
      | none => rw [e1, e2] at e; cases s <;> cases e
      | some ys =>
        rw [e1, e2] at e
        cases s with
        | no => cases e
        | val d => cases e
        | exn _ _ => cases e
        | own x =>
          cases e
          obtain ⟨_, s1⟩ := r.par i p (hz _ (List.mem_cons_self ..))
          obtain ⟨q, vs, s2, k1, k2, k3, k4, _⟩ := r.own i x e1
          rw [s1] at s2
          cases s2
          exact .cons k1 k3 k4 (outs_ok r (fun z hz' => hz z (List.mem_cons_of_mem _ hz')) (by simpa using l) e2)
theorem R.advM (r : R K c ρ σ Hf H) {ps : List Addr} (h : ∀ i p, (i, p) ∈ c.ps → p ∈ ps) : AdvM ps c.Hf c.H Hf H :=
  ⟨fun a o e n => r.keep a o e fun i hi => n (h i a hi), r.f0, r.sub, r.out⟩
end
theorem outsOf_set {i : Nat} {s : Sl} : ∀ {is : List Nat} {ρ : En}, i ∉ is → outsOf (ρ.set i s) is = outsOf ρ is
  | [], _, _ => rfl
  | j :: is, ρ, h => by
    unfold outsOf
    have hj : i ≠ j := fun e => h (by rw [e]; exact List.mem_cons_self ..)
    rw [List.getElem?_set_ne hj, outsOf_set fun z => h (List.mem_cons_of_mem _ z)]
theorem leave_nx {md : List Bool} {fr : Bool} {ρ : En} : leaveO md fr (.nx ρ) = if fr = true then .bad else finO md .non ρ := rfl
theorem leave_d {md : List Bool} {fr : Bool} {d : D} {ρ : En} : leaveO md fr (.ret (.d d) ρ) = if fr = true then .bad else finO md d ρ := rfl
theorem leave_o {md : List Bool} {fr : Bool} {i : Nat} {ρ : En} : leaveO md fr (.ret (.o i) ρ) = if (inoutSlots md).contains i = true then .bad else (match ρ[i]? with
      | some (.own x) => finO md (.lst x) ρ
      | _ => .bad) := rfl
theorem leave_x {md : List Bool} {fr : Bool} {c : Nat} {d : D} {ρ : En} : leaveO md fr (.exc c d ρ) = (match outsOf ρ (inoutSlots md) with
    | some r => .exc c d r
    | none => .bad) := rfl
theorem leave_new {md : List Bool} {fr : Bool} {ds : List D} {ρ : En} : leaveO md fr (.new ds ρ) = if fr = true then finO md (.lst ds) ρ else .bad := rfl
theorem fin_some {md : List Bool} {d d' : D} {ρ : En} {r : List (List D)} (h : finO md d ρ = .ok d' r) : d' = d ∧ outsOf ρ (inoutSlots md) = some r := by
  unfold finO at h
  cases e : outsOf ρ (inoutSlots md) with
  | none => rw [e] at h; cases h
  | some r' => rw [e] at h; cases h; exact ⟨rfl, rfl⟩

section
variable {P : Program} {w : World} {K : PySem.W.Frag} {mg : Str → Option Value} {base : Heap} {x qual : Str} {params : Arguments} {body : List Stmt} {scope : Scope} {f : Addr} {fd : FuncData} {g : Gx}
theorem slots_lt : ∀ {md : List Bool} {k i : Nat}, i ∈ slotsFrom k md → i < k + md.length
  | [], k, i, h => by cases h
  | b :: md, k, i, h => by
    unfold slotsFrom at h
    rw [List.length_cons]
    split at h
    · rcases List.mem_cons.mp h with rfl | h
      · omega
      · have := slots_lt h; omega
    · have := slots_lt h; omega
/-- a def that is never called -/
theorem fn_bad {P : Program} {w : World} {K : PySem.W.Frag} {mg : Str → Option Value} {base : Heap} {CX : CXT} {g : Gx} {k : Nat} {a : Addr} {fd : FuncData} {ps : List Str} {f : CallF} (h : ∀ ds, f.F ds = .bad) (hm : f.md.length = ps.length) : FnOk P w K mg base CX k a fd ps (spM g K f) :=
  ⟨fun vs H Q E ⟨_, ds, _, _, _, _, q⟩ => by rw [h ds] at q; exact q.elim, fun A outer s H args us vs Q E _ _ _ _ ⟨_, ds, _, _, _, _, q⟩ => by rw [h ds] at q; exact q.elim⟩
/-- THE RULE -/
theorem fn_ok {N ps : List Str} {md : List Bool} {fr : Bool} {n k : Nat} {b : List S} (F : FunD K x qual params body scope [] [] f fd) (hs : FnScope N ps scope) (hm : md.length = ps.length) (hc : chkSs true N scope ps.length b body = true)
    (fre : ∀ y ∈ freeNames, mg y = none) (ho : ∀ A, Room k A → okSts g ⟨P, w, K, mg, base, A⟩ b) : FnOk P w K mg base (L2.CX P w) (k + 1) f fd ps (spM g K ⟨x, md, fr, runF n N.length md fr b⟩) := by
  refine F.ok hs (fun vs H Q E ⟨Hf, ds, ps', _, a, _⟩ => by rw [a.len, hm]) fun cdv A outer s H vs Q E hr ⟨Hf, ds, pa, sm, a, nd, h⟩ => ?_
  let X := cxOf (L2.CX P w) P w K mg base N qual scope f cdv A outer s H E
  have h : match runF n N.length md fr b ds with
    | .ok d outs => ∀ v H' Hf', AdvM pa Hf H Hf' H' → OutR K Hf' H' pa outs → AnsR K fr H Hf' H' v d → Q v H'
    | .exc c d outs => ∀ cls dx H' Hf', AdvM pa Hf H Hf' H' → OutR K Hf' H' pa outs → XRep g K Hf' H' c d cls dx → E cls dx H'
    | .bad => False := h
  unfold runF at h
  cases es : startE N.length md ds with
  | none => rw [es] at h; exact h.elim
  | some ρ =>
    rw [es] at h
    simp only at h
    have r := R_start sm a nd es
    obtain ⟨q1, _, _, _⟩ := start_ok a 0 es
    have tk : Takes X (fun cls d _ H => E cls d H) := L2.takes_of (X := X) (E := E) rfl rfl rfl rfl
    have cs : CtxS true X := ⟨⟨hs.nd, fre, hr.units, fun _ => rfl⟩, fun _ => rfl, L2.passes_of (X := X) rfl, rfl, rfl⟩
    have hps : ∀ i p, (i, p) ∈ (⟨Hf, H, (inoutSlots md).zip pa, fun _ _ _ _ => False⟩ : C0).ps → i < ps.length := fun i p hi => by
      have := slots_lt (List.of_mem_zip hi).1
      rw [hm] at this
      omega
    refine ⟨rdS g K ⟨Hf, H, (inoutSlots md).zip pa, fun _ _ _ _ => False⟩ (fun cls d _ H => E cls d H) (exSs n b), sSs (n := n) b cs (.of fun _ _ _ _ z => z) hps hc (ho _ hr) tk, Hf, ρ, r, ?_⟩
    have adv : ∀ {ρ' : En} {σ' : L2.St} {Hf' H' : Hp}, R K ⟨Hf, H, (inoutSlots md).zip pa, fun _ _ _ _ => False⟩ ρ' σ' Hf' H' → AdvM pa Hf H Hf' H' := fun {ρ' σ' Hf' H'} r' => r'.advM fun i p hi => (List.of_mem_zip hi).2
    have outs : ∀ {ρ' : En} {σ' : L2.St} {Hf' H' : Hp} {xs : List (List D)}, R K ⟨Hf, H, (inoutSlots md).zip pa, fun _ _ _ _ => False⟩ ρ' σ' Hf' H' → outsOf ρ' (inoutSlots md) = some xs → OutR K Hf' H' pa xs := fun {ρ' σ' Hf' H' xs} r' e => outs_ok r' (fun z hz => hz) q1 e
    cases eo : exSs n b ρ with
    | bad => rw [eo] at h; exact h.elim
    | brk _ => rw [eo] at h; exact h.elim
    | cnt _ => rw [eo] at h; exact h.elim
    | exc c d ρ' =>
      rw [eo] at h
      intro cls dx σ' H' Hf' r' s' xr
      rw [leave_x] at h
      cases e2 : outsOf ρ' (inoutSlots md) with
      | none => rw [e2] at h; exact h.elim
      | some xs =>
        rw [e2] at h
        exact h cls dx H' Hf' (adv r') (outs r' e2) xr
    | new es ρ' =>
      rw [eo] at h
      intro σ' H' Hf' v r' s' hv
      rw [leave_new] at h
      cases fr with
      | false => exact h.elim
      | true =>
        rw [if_pos rfl] at h
        unfold finO at h
        cases e2 : outsOf ρ' (inoutSlots md) with
        | none => rw [e2] at h; exact h.elim
        | some xs =>
          rw [e2] at h
          obtain ⟨p, ws, ds', rfl, e3, k1, k2, k3, _, k4, k5⟩ := hv
          cases e3
          exact h _ H' Hf' (adv r') (outs r' e2) (by unfold AnsR; rw [if_pos rfl]; exact ⟨p, ws, _, rfl, rfl, k1, k2, k3, k4, k5⟩)
    | nx ρ' =>
      rw [eo] at h
      intro σ' H' Hf' r' s'
      rw [leave_nx] at h
      cases fr with
      | true => exact h.elim
      | false =>
        rw [if_neg Bool.false_ne_true] at h
        unfold finO at h
        cases e2 : outsOf ρ' (inoutSlots md) with
        | none => rw [e2] at h; exact h.elim
        | some xs =>
          rw [e2] at h
          exact h .non H' Hf' (adv r') (outs r' e2) .non
    | ret rv ρ' =>
      rw [eo] at h
      intro σ' H' Hf' v r' s' hv
      cases rv with
      | d d =>
        rw [leave_d] at h
        cases fr with
        | true => exact h.elim
        | false =>
          rw [if_neg Bool.false_ne_true] at h
          unfold finO at h
          cases e2 : outsOf ρ' (inoutSlots md) with
          | none => rw [e2] at h; exact h.elim
          | some xs =>
            rw [e2] at h
            exact h v H' Hf' (adv r') (outs r' e2) hv
      | o i =>
        rw [leave_o] at h
        by_cases hi : (inoutSlots md).contains i = true
        · rw [if_pos hi] at h; exact h.elim
        · rw [if_neg hi] at h
          have hi : i ∉ inoutSlots md := by simpa using hi
          have hn : ∀ p, (i, p) ∉ (⟨Hf, H, (inoutSlots md).zip pa, fun _ _ _ _ => False⟩ : C0).ps := fun p z => hi (List.of_mem_zip z).1
          cases e1 : ρ'[i]? with
          | none => rw [e1] at h; exact h.elim
          | some sl =>
            rw [e1] at h
            cases sl with
            | no => exact h.elim
            | val _ => exact h.elim
            | exn _ _ => exact h.elim
            | own y =>
              simp only at h
              unfold finO at h
              cases e2 : outsOf ρ' (inoutSlots md) with
              | none => rw [e2] at h; exact h.elim
              | some xs =>
                rw [e2] at h
                have hv : σ'[i]? = some (some v) := hv
                cases fr with
                | true =>
                  obtain ⟨p, vs', t1, k1, k2, k3, k4, k5⟩ := r'.own i y e1
                  rw [hv] at t1
                  cases t1
                  have k5 : H p = none := k5.resolve_left (hn p)
                  exact h _ H' Hf' (adv r') (outs r' e2) (by unfold AnsR; rw [if_pos rfl]; exact ⟨p, vs', y, rfl, rfl, k1, k2, k5, k3, k4⟩)
                | false =>
                  obtain ⟨p, vs', t1, k1, sm', r2⟩ := r'.frz e1 hn
                  rw [hv] at t1
                  cases t1
                  refine h _ H' _ (adv r2) (outs r2 (by rw [outsOf_set hi]; exact e2)) ?_
                  obtain ⟨u, t2, rp⟩ := r2.val i (.lst y) (List.getElem?_set_self (List.getElem?_eq_some_iff.mp e1).1)
                  rw [hv] at t2
                  cases t2
                  exact rp
end
end Mini
end

section
set_option Elab.async false
set_option linter.all false
set_option maxRecDepth 100000
set_option maxHeartbeats 4000000
/-! M19: constants of the module; the law's end. -/
namespace Mini
open PySem L2

/-- N are the names of a def with the parameters P -/
def scopeB (N P : List Str) (sc : Scope) : Bool := (match sc.kind with
  | .function => true
  | _ => false) && (!sc.isCoroutine && (!sc.isGenerator && (decide (N.Nodup ∧ N.take P.length = P) && (P.all (fun x => locB sc x) && sc.names.all fun y => match y.2 with
  | .free => false
  | _ => true))))
theorem scope_ok {N P : List Str} {sc : Scope} (h : scopeB N P sc = true) : FnScope N P sc := by
  obtain ⟨h1, h⟩ := and3 h
  obtain ⟨h2, h⟩ := and3 h
  obtain ⟨h3, h⟩ := and3 h
  obtain ⟨h4, h⟩ := and3 h
  obtain ⟨h5, h6⟩ := and3 h
  obtain ⟨h7, h8⟩ := of_decide_eq_true h4
  refine ⟨?_, by simpa using h2, by simpa using h3, h7, h8, fun x hx => loc_ok (List.all_eq_true.mp h5 x hx), fun y hy e => ?_⟩
  · split at h1
    · assumption
    · cases h1
  · have q := List.all_eq_true.mp h6 y hy
    rw [e] at q
    cases q
mutual
/-- the value v is the datum d -/
def repB (K : PySem.W.Frag) : D → Value → Bool
  | .non, v => (match v with
    | .none => true
    | _ => false)
  | .bl b, v => (match v with
    | .bool c => b == c
    | _ => false)
  | .int i, v => (match v with
    | .int j _ => decide (j = i)
    | _ => false)
  | .str cs, v => (match v with
    | .str y _ => decide (y = sOf cs) && okS cs
    | _ => false)
  | .tup ds, v => (match v with
    | .ref a => (match K.lookup a with
      | some ⟨c, od, dt, _⟩ => (match c, od, dt with
        | .type c, none, .seq its _ => decide (c = "tuple") && decide (its.size ≤ sizeLine) && decide (ds.length ≤ lim) && repsB K ds its.toList
        | _, _, _ => false)
      | none => false)
    | _ => false)
  | .lst ds, v => (match v with
    | .ref a => (match K.lookup a with
      | some ⟨c, od, dt, _⟩ => (match c, od, dt with
        | .type c, none, .seq its _ => decide (c = "list") && decide (its.size ≤ sizeLine) && decide (ds.length ≤ lim) && repsB K ds its.toList
        | _, _, _ => false)
      | none => false)
    | _ => false)
def repsB (K : PySem.W.Frag) : List D → List Value → Bool
  | [], vs => (match vs with
    | [] => true
    | _ :: _ => false)
  | d :: ds, vs => (match vs with
    | [] => false
    | v :: vs => repB K d v && repsB K ds vs)
end
mutual
theorem repB_ok {K : PySem.W.Frag} : ∀ {d : D} {v : Value}, repB K d v = true → ∃ u, RelV u v ∧ ∀ H, Rep K H u d
  | .non, v, h => by
    unfold repB at h
    split at h
    · exact ⟨.non, rfl, fun _ => .non⟩
    · cases h
  | .bl b, v, h => by
    unfold repB at h
    split at h
    · rename_i c
      have e : b = c := by simpa using h
      subst e
      exact ⟨.bl b, rfl, fun _ => .bl b⟩
    · cases h
  | .int i, v, h => by
    unfold repB at h
    split at h
    · rename_i j t
      have e := of_decide_eq_true h
      subst e
      exact ⟨.int j, ⟨t, rfl⟩, fun _ => .int j⟩
    · cases h
  | .str cs, v, h => by
    unfold repB at h
    split at h
    · rename_i y t
      obtain ⟨h1, h2⟩ := and3 h
      have e := of_decide_eq_true h1
      subst e
      exact ⟨.str (sOf cs), ⟨t, rfl⟩, fun _ => .str h2⟩
    · cases h
  | .tup ds, v, h => by
    unfold repB at h
    split at h
    · rename_i a
      split at h
      · rename_i c od dt sl q
        split at h
        · rename_i c its n
          obtain ⟨h, h4⟩ := and3 h
          obtain ⟨h, h3⟩ := and3 h
          obtain ⟨h1, h2⟩ := and3 h
          obtain ⟨us, r1, r2⟩ := repsB_ok h4
          have hl : ds.length ≤ lim := of_decide_eq_true h3
          refine ⟨.ref a, rfl, fun H => .tup (.inr ⟨_, its, n, q, congrArg Value.type (of_decide_eq_true h1), rfl, of_decide_eq_true h2, r1⟩) (r2 H) hl⟩
        · cases h
      · cases h
    · cases h
  | .lst ds, v, h => by
    unfold repB at h
    split at h
    · rename_i a
      split at h
      · rename_i c od dt sl q
        split at h
        · rename_i c its n
          obtain ⟨h, h4⟩ := and3 h
          obtain ⟨h, h3⟩ := and3 h
          obtain ⟨h1, h2⟩ := and3 h
          obtain ⟨us, r1, r2⟩ := repsB_ok h4
          have hl : ds.length ≤ lim := of_decide_eq_true h3
          refine ⟨.ref a, rfl, fun H => .lst (.inr ⟨_, its, n, q, congrArg Value.type (of_decide_eq_true h1), rfl, rfl, of_decide_eq_true h2, r1⟩) (r2 H) hl⟩
        · cases h
      · cases h
    · cases h
theorem repsB_ok {K : PySem.W.Frag} : ∀ {ds : List D} {vs : List Value}, repsB K ds vs = true → ∃ us, Vals us vs ∧ ∀ H, Reps K H us ds
  | [], vs, h => by
    unfold repsB at h
    split at h
    · exact ⟨[], .nil, fun _ => .nil⟩
    · cases h
  | d :: ds, vs, h => by
    unfold repsB at h
    split at h
    · cases h
    · rename_i v vs
      obtain ⟨h1, h2⟩ := and3 h
      obtain ⟨u, r1, r2⟩ := repB_ok h1
      obtain ⟨us, s1, s2⟩ := repsB_ok h2
      exact ⟨u :: us, .cons r1 s1, fun H => .cons (r2 H) (s2 H)⟩
end
def constsB (cs : List (Str × D)) (K : PySem.W.Frag) : Bool := cs.all fun p => match PySem.W.nsIn K mainGlobals p.1 with
  | some (some v) => repB K p.2 v
  | _ => false
theorem glob_of {P : Program} {w : World} {K : PySem.W.Frag} {h : Heap} {mg : Str → Option Value} {base : Heap} {A : Around} {cs : List (Str × D)} {x : Str} {d : D} (X : K.In h) (G : h.Ns mainGlobals mg) (c : constsB cs K = true) (hx : (x, d) ∈ cs) : GlobOk ⟨P, w, K, mg, base, A⟩ x d := by
  have q := List.all_eq_true.mp c _ hx
  split at q
  · rename_i v e
    obtain ⟨u, r1, r2⟩ := repB_ok q
    exact ⟨v, u, PySem.W.mg_of X G e, r1, r2⟩
  · cases q
/-- a tuple of texts -/
theorem tt_of {P : Program} {w : World} {K : PySem.W.Frag} {h : Heap} {mg : Str → Option Value} {base : Heap} {A : Around} {cs : List (Str × D)} {x : Str} {t : List (List Nat)} (X : K.In h) (G : h.Ns mainGlobals mg) (c : constsB cs K = true) (hx : (x, .tup (t.map .str)) ∈ cs) : TtOk ⟨P, w, K, mg, base, A⟩ x t := by
  have q := List.all_eq_true.mp c _ hx
  split at q
  · rename_i v e
    have q : repB K (.tup (t.map .str)) v = true := q
    unfold repB at q
    split at q
    · rename_i a
      split at q
      · rename_i c od dt sl q2
        split at q
        · rename_i c its n
          obtain ⟨h, h4⟩ := and3 q
          obtain ⟨h, h3⟩ := and3 h
          obtain ⟨h1, h2⟩ := and3 h
          obtain ⟨us, r1, r2⟩ := repsB_ok h4
          rw [Reps.strs (r2 fun _ => none)] at r1
          exact ⟨_, _, its, n, PySem.W.mg_of X G e, q2, congrArg Value.type (of_decide_eq_true h1), rfl, rfl, of_decide_eq_true h2, r1⟩
        · cases q
      · cases q
    · cases q
  · cases q
/-- the dict's entries are these -/
def entsB (K : PySem.W.Frag) : List (List Nat × D) → List DictEntry → Bool
  | [], es => (match es with
    | [] => true
    | _ :: _ => false)
  | p :: t, es => (match es with
    | [] => false
    | e :: es => (match e.key with
      | .str y _ => decide (y = sOf p.1)
      | _ => false) && repB K p.2 e.val && entsB K t es)
def tabB (K : PySem.W.Frag) (x : Str) (t : List (List Nat × D)) : Bool := match K.lookup (He.ga K x) with
  | some ⟨_, _, dt, _⟩ => (match dt with
    | .dict es _ => entsB K t es.toList
    | _ => false)
  | none => false
theorem ents_ok {K : PySem.W.Frag} : ∀ {t : List (List Nat × D)} {es : List DictEntry}, entsB K t es = true → (es.any (·.refKey) = false) ∧ ∀ cs, (∃ e v, es.find? (·.key.isStr (sOf cs)) = some e ∧ t.lookup cs = some v ∧ repB K v e.val = true) ∨ (es.find? (·.key.isStr (sOf cs)) = none ∧ t.lookup cs = none)
  | [], [], _ => ⟨rfl, fun cs => .inr ⟨rfl, rfl⟩⟩
  | [], _ :: _, h => by cases h
  | _ :: _, [], h => by cases h
  | (k, v) :: t, e :: es, h => by
    unfold entsB at h
    obtain ⟨h, h3⟩ := and3 h
    obtain ⟨h1, h2⟩ := and3 h
    obtain ⟨q1, q2⟩ := ents_ok h3
    split at h1
    · rename_i y tk ey
      have e1 := of_decide_eq_true h1
      subst e1
      have isS : ∀ cs, e.key.isStr (sOf cs) = decide (cs = k) := fun cs => by
        rw [ey]
        show (sOf k == sOf cs) = _
        by_cases hc : cs = k
        · subst hc
          simp
        · have : sOf k ≠ sOf cs := fun z => hc (sOf_inj z).symm
          rw [decide_eq_false hc]
          simpa using this
      refine ⟨?_, fun cs => ?_⟩
      · rw [List.any_cons, q1]
        unfold DictEntry.refKey
        rw [ey]
        rfl
      · rw [List.find?_cons, isS, List.lookup_cons]
        by_cases hc : cs = k
        · subst hc
          rw [decide_eq_true rfl]
          exact .inl ⟨e, v, rfl, by simp, h2⟩
        · rw [decide_eq_false hc]
          have hb : (cs == k) = false := by simpa using hc
          rw [hb]
          exact q2 cs
    · cases h1
theorem tab_of {P : Program} {w : World} {K : PySem.W.Frag} {h : Heap} {mg : Str → Option Value} {base : Heap} {A : Around} {x : Str} {t : List (List Nat × D)} (X : K.In h) (G : h.Ns mainGlobals mg) (hg : (He.Fa.glo x).ok K = true) (hk : ∃ es n, KDict K w (He.ga K x) es n) (hb : tabB K x t = true) :
    TabOk ⟨P, w, K, mg, base, A⟩ x t := by
  obtain ⟨es, n, k⟩ := hk
  refine ⟨_, es, n, He.glo_ok X G hg, k, fun cs => ?_⟩
  unfold tabB at hb
  rw [k.at_] at hb
  obtain ⟨q1, q2⟩ := ents_ok hb
  rcases q2 cs with ⟨e, v, e1, e2, e3⟩ | ⟨e1, e2⟩
  · rw [e2]
    obtain ⟨u, r1, r2⟩ := repB_ok e3
    refine ⟨e.val, u, ?_, r1, r2⟩
    show PySem.W.nsIn K _ _ = _
    unfold PySem.W.nsIn
    rw [k.at_]
    show (match es.toList.find? (·.key.isStr (sOf cs)) with | some e => _ | none => _) = _
    rw [e1]
  · rw [e2]
    show PySem.W.nsIn K _ _ = _
    unfold PySem.W.nsIn
    rw [k.at_]
    show (match es.toList.find? (·.key.isStr (sOf cs)) with | some e => _ | none => _) = _
    rw [e1, q1]
    rfl
theorem keys_ok {K : PySem.W.Frag} : ∀ {t : List (List Nat × D)} {es : List DictEntry}, entsB K t es = true → keysOf es = some (t.map fun p => sOf p.1)
  | [], [], _ => rfl
  | [], _ :: _, h => by cases h
  | _ :: _, [], h => by cases h
  | (k, v) :: t, e :: es, h => by
    unfold entsB at h
    obtain ⟨h, h3⟩ := and3 h
    obtain ⟨h1, h2⟩ := and3 h
    have ih := keys_ok h3
    split at h1
    · rename_i y tk ey
      have e1 := of_decide_eq_true h1
      subst e1
      unfold keysOf
      rw [ey, ih]
      rfl
    · cases h1
/-- the order of the keys of a dict of the module -/
def ordB (t : List (List Nat × D)) (ys : List (List Nat)) : Bool := decide ((t.map fun p => sOf p.1).Nodup) && decide ((ys.map sOf).isPerm (t.map fun p => sOf p.1)) && PyProof.Rows.sortedS (ys.map sOf) && decide (t.length < 64) && ys.all okS
theorem tks_of {P : Program} {w : World} {K : PySem.W.Frag} {h : Heap} {mg : Str → Option Value} {base : Heap} {A : Around} {x : Str} {t : List (List Nat × D)} {ys : List (List Nat)} (X : K.In h) (G : h.Ns mainGlobals mg) (hg : (He.Fa.glo x).ok K = true) (hk : ∃ es n, KDict K w (He.ga K x) es n) (hb : tabB K x t = true) (ho : ordB t ys = true) :
    TksOk ⟨P, w, K, mg, base, A⟩ x ys := by
  obtain ⟨es, n, k⟩ := hk
  unfold tabB at hb
  rw [k.at_] at hb
  unfold ordB at ho
  obtain ⟨ho, o5⟩ := and3 ho
  obtain ⟨ho, o4⟩ := and3 ho
  obtain ⟨ho, o3⟩ := and3 ho
  obtain ⟨o1, o2⟩ := and3 ho
  refine ⟨_, es, n, t.map fun p => sOf p.1, He.glo_ok X G hg, k, keys_ok hb, of_decide_eq_true o1, List.isPerm_iff.mp (of_decide_eq_true o2), o3, ?_, fun y hy => List.all_eq_true.mp o5 y hy⟩
  rw [List.length_map]
  exact of_decide_eq_true o4
/-- constants and dicts of the module -/
def extraB (cs : List (Str × D)) (ts : List (Str × List (List Nat × D))) (K : PySem.W.Frag) : Bool := constsB cs K && ts.all fun t => tabB K t.1 t.2
def tabsOf (ts : List (Str × List (List Nat × D))) : List He.Tab := ts.map fun t => (fun K => He.ga K t.1, t.2.map fun p => sOf p.1)
theorem free_of {fa : List He.Fa} {fn : List He.DefD} {K : PySem.W.Frag} {h : Heap} {mg : Str → Option Value} (X : K.In h) (G : h.Ns mainGlobals mg) (c : He.SaysD fa fn K) (hf : ∀ y ∈ freeNames, He.Fa.free y ∈ fa) : ∀ y ∈ freeNames, mg y = none := fun y hy => He.free_ok X G (c.facts (hf y hy))
/-- exceptions as they lie behind a call, whatever the program and the world -/
def CXany : CXT := fun outer H s E e s' => ∃ (P : Program) (w : World), L2.CX P w outer H s E e s'
theorem FnOk.any {P : Program} {w : World} {K : PySem.W.Frag} {mg : Str → Option Value} {base : Heap} {k : Nat} {f : Addr} {fd : FuncData} {ps : List Str} {sp : Sp} (F : FnOk P w K mg base (L2.CX P w) k f fd ps sp) : FnOk P w K mg base CXany k f fd ps sp :=
  ⟨F.len, fun A outer s H args us vs Q E hr e0 hb r hsp => codeAny_mono (F.run A outer s H args us vs Q E hr e0 hb r hsp) fun r s' hq => by
    cases r with
    | error e => exact ⟨P, w, hq⟩
    | ok fl => cases fl <;> exact hq⟩
theorem any_none {H : Hp} {s : Shared} {e : Value} {s' : Shared} (h : CXany [] H s (fun _ _ _ => False) e s') : False := by
  obtain ⟨_, _, _, _, _, _, _, _, _, _, _, _, _, _, z⟩ := h
  exact z
/-- the law's promise, from its mirror's answer -/
theorem law_sp {g : Gx} {K : PySem.W.Frag} {f : CallF} {H : Hp} {a : Addr} {ns : List Int} (hm : f.md = [false]) (hf : f.fr = false) (hl : ns.length ≤ 63) (hS : SqL K H a (ns.map V.int)) (h : f.F [.lst (ns.map .int)] = .ok (.bl true) []) :
    spM g K f [.ref a] H (fun v _ => v = .bl true) fun _ _ _ => False := by
  have hz : (ns.map D.int).length ≤ lim := by
    rw [List.length_map]
    exact Nat.le_trans hl (by decide)
  refine ⟨H, [.lst (ns.map .int)], [], Same.refl _, by rw [hm]; exact .val (.lst hS Reps.of_ints hz) .nil, List.nodup_nil, ?_⟩
  rw [h]
  intro v H' Hf' _ _ ans
  unfold AnsR at ans
  rw [hf, if_neg Bool.false_ne_true] at ans
  exact rep_bl ans
end Mini
end

section
set_option Elab.async false
set_option linter.all false
set_option maxRecDepth 100000
set_option maxHeartbeats 4000000
/-! M20: the program's exception classes behind the top; the hook. -/
namespace Mini
open PySem L2 NdefX

/-- class C(..): def __init__(n0, n1): super().__init__('..'); n0.f = n1 -/
structure XD where
  C : Str
  f : Str
  n0 : Str
  n1 : Str
  qual : Str
  params : Arguments
  body : List Stmt
  scope : Scope
abbrev XW : Type := Option (Str × Str × Arguments × FuncBody × Scope × Addr × List Str × Addr)
def xIni (K : PySem.W.Frag) (C : Str) : Addr := He.ma K (He.ga K C) "__init__"
def xW (K : PySem.W.Frag) (C : Str) : XW := match K.lookup (xIni K C) with
  | some ⟨_, _, .func fd, _⟩ => some (fd.name, fd.qualname, fd.params, fd.body, fd.scope, fd.globals, fd.closure.map (·.1), fd.builtins)
  | _ => none
def XD.val (d : XD) : XW := some ("__init__", d.qual, d.params, .stmts d.body, d.scope, mainGlobals, ["__class__"], builtinsNs)
/-- the class's own object -/
def oexB (K : PySem.W.Frag) (C : Addr) : Bool := (match K.lookup C with
  | some ⟨.type "type", _, .cls cd, sl⟩ => (match cd.mro, sl.toList with
    | .ref C' :: bm, [_, _, _, _, some (.builtin n), _] => decide (C' = C) && (decide (n = "ValueError.__new__") && (!cd.hasDel && (cd.hasDict && (PySem.HandSPX.refsVE bm && decide (PySem.W.alongIn K "__init__" bm = some (some (.builtin "ValueError.__init__")))))))
    | _, _ => false)
  | _ => false) && (decide (PySem.W.findIn K (.ref C) "__setattr__" = some (some (.builtin "object.__setattr__"))) && (decide (PySem.W.subIn K (.ref C) (.type "BaseException") = some true) && (decide (PySem.W.typeIn K (.ref C) = some (.type "type")) && PySem.W.keepIn K (.ref C))))
theorem oexB_ok {K : PySem.W.Frag} {C : Addr} (h : oexB K C = true) : OexC K C ∧ ∀ cd bm, PySem.W.clsIn K C = some cd → cd.mro = .ref C :: bm → PySem.W.alongIn K "__init__" bm = some (some (.builtin "ValueError.__init__")) := by
  obtain ⟨h0, h⟩ := and3 h
  obtain ⟨h1, h⟩ := and3 h
  obtain ⟨h2, h⟩ := and3 h
  obtain ⟨h3, h4⟩ := and3 h
  split at h0
  · rename_i dd cd sl ho
    split at h0
    · rename_i C' bm k0 k1 k2 k3 n k5 hm hs
      obtain ⟨g0, h0⟩ := and3 h0
      obtain ⟨g1, h0⟩ := and3 h0
      obtain ⟨g2, h0⟩ := and3 h0
      obtain ⟨g3, h0⟩ := and3 h0
      obtain ⟨g4, g5⟩ := and3 h0
      have g0 := of_decide_eq_true g0
      have g1 := of_decide_eq_true g1
      subst g0 g1
      obtain ⟨nm, bs, mro, ns, qn, hd, sn, sub, ab, col, del⟩ := cd
      dsimp only at hm g2 g3
      have g2 : del = false := by simpa using g2
      subst hm g2 g3
      have hsl : sl = #[k0, k1, k2, k3, some (.builtin "ValueError.__new__"), k5] := by
        obtain ⟨l⟩ := sl
        simp only at hs
        rw [hs]
      subst hsl
      refine ⟨⟨⟨nm, qn, ns, bs, bm, sn, sub, ab, col, dd, k0, k1, k2, k3, k5, ho, g4⟩, of_decide_eq_true h1, of_decide_eq_true h2, of_decide_eq_true h3, h4⟩, fun cd bm2 e1 e2 => ?_⟩
      unfold PySem.W.clsIn at e1
      rw [ho] at e1
      have e1 := Option.some.inj e1
      subst e1
      have e2 : (Value.ref C' :: bm : List Value) = .ref C' :: bm2 := e2
      cases e2
      exact of_decide_eq_true g5
    · cases h0
  · cases h0
/-- its __init__'s code, its cell -/
def XD.cellB (file : Str) (K : PySem.W.Frag) (d : XD) : Bool := match K.lookup (xIni K d.C) with
  | some ⟨_, _, .func fd, _⟩ => (match fd.defaults with
    | .none => true
    | _ => false) && ((match fd.code with
    | .ref cda => PySem.W.codeIn K (.ref cda) d.qual && (match K.lookup cda with
      | some ⟨_, _, .fields vs, _⟩ => (match (vs[2]? : Option Value) with
        | some (.str fl _) => file == fl
        | _ => false)
      | _ => false)
    | _ => false) && (match fd.closure with
    | [p] => (match K.lookup p.2 with
      | some ⟨_, _, .cell (some (.ref D)), _⟩ => decide (D = He.ga K d.C)
      | _ => false)
    | _ => false))
  | _ => false
def XD.ok (file : Str) (K : PySem.W.Frag) (d : XD) : Bool := oexB K (He.ga K d.C) && (xfB K (He.ga K d.C) && (xclB K (He.ga K d.C) && (d.cellB file K && (decide (PySem.W.findIn K (.ref (He.ga K d.C)) "__init__" = some (some (.ref (xIni K d.C)))) &&
  (decide (PySem.W.typeIn K (.ref (xIni K d.C)) = some (.type "function")) && (decide (PySem.W.findIn K (.ref (He.ga K d.C)) d.f = some none) && (decide (PySem.W.nsIn K cStatics "thirdparty.any" = some none) && (decide (PySem.W.nsIn K mainGlobals d.C = some (some (.ref (He.ga K d.C)))) && decide (PySem.W.subIn K (.ref (He.ga K d.C)) (.type "ValueError") = some true)))))))))
/-- what its text must be -/
def XD.syn (d : XD) : Bool := nscB [d.n0, d.n1, "__class__"] [d.n0, d.n1] ["__class__"] d.scope && (decide (d.scope.names.lookup ("super" : Str) = some .globalImplicit) && ((match (d.params.posonlyargs ++ d.params.args).head? with
    | some ar => decide (ar.arg = d.n0)
    | none => false) && (!(d.n0 == ("__debug__" : Str)) && (!(d.n0 == ("__classdict__" : Str)) && (!(d.n1 == ("__debug__" : Str)) && (!(d.n1 == ("__classdict__" : Str)) && (match d.body with
    | [.Expr (.Call (.Attribute (.Call (.Name s _) [] [] _) i p2) [.Constant (.str _) _ _] [] p4) _, .Assign [.Attribute (.Name a _) f _] (.Name b _) _] => decide (s = ("super" : Str)) && (decide (i = ("__init__" : Str)) && ((p2.endLine == p4.line) && (decide (a = d.n0) && (decide (f = d.f) && decide (b = d.n1)))))
    | _ => false)))))))
def XD.Bnd (d : XD) : Prop := ∀ (kV doc pm : Value) (an : Option Addr) (cdv ct : Value) (cc : Addr) (us : List Value), us.length = 2 → bindArgs (PySem.W.ksFn "__init__" d.qual d.params d.body d.scope .none kV doc pm an cdv ct cc) ⟨us, []⟩ = pure ([d.n0, d.n1].zip us)
theorem xd_init {P : Program} {w : World} {K : PySem.W.Frag} {mg : Str → Option Value} {h : Heap} {d : XD} (X : K.In h) (G : h.Ns mainGlobals mg) (e : xW K d.C = d.val) (c : d.ok P.main.file K = true) (s : d.syn = true) (b : d.Bnd) (hsuper : mg "super" = none) (htop : (P.main.scope.names.lookup ("super" : Str)).isSome = false) :
    OexC K (He.ga K d.C) ∧ XfC K (He.ga K d.C) ∧ XCl K (He.ga K d.C) ∧ PySem.W.findIn K (.ref (He.ga K d.C)) d.f = some none ∧ mg d.C = some (.ref (He.ga K d.C)) ∧ PySem.W.findIn K (.ref (He.ga K d.C)) "__init__" = some (some (.ref (xIni K d.C))) ∧ PySem.W.typeIn K (.ref (xIni K d.C)) = some (.type "function") ∧
      ∃ fd, Binds K fd [d.n0, d.n1] [] ∧ ∀ base, FnOk P w K mg base (L2.CX P w) 1 (xIni K d.C) fd [d.n0, d.n1] (spI K (He.ga K d.C) d.f) := by
  obtain ⟨c1, c⟩ := and3 c
  obtain ⟨c2, c⟩ := and3 c
  obtain ⟨c3, c⟩ := and3 c
  obtain ⟨c4, c⟩ := and3 c
  obtain ⟨c5, c⟩ := and3 c
  obtain ⟨c6, c⟩ := and3 c
  obtain ⟨c7, c⟩ := and3 c
  obtain ⟨c8, c⟩ := and3 c
  obtain ⟨c9, c10⟩ := and3 c
  obtain ⟨T, al⟩ := oexB_ok c1
  refine ⟨T, xfB_ok c2, xclB_ok c3, of_decide_eq_true c7, PySem.W.mg_of X G (of_decide_eq_true c9), of_decide_eq_true c5, of_decide_eq_true c6, ?_⟩
  unfold XD.cellB at c4
  unfold xW at e
  split at c4
  · rename_i oc od fd osl lk
    rw [lk] at e
    obtain ⟨k1, k⟩ := and3 c4
    obtain ⟨k2, k3⟩ := and3 k
    obtain ⟨n1, n2, n3, n4, n5, n6, n7, n8, n9, n10, n11, n12, n13, n14, n15⟩ := fd
    have e2 : (some (n1, n2, n3, n4, n5, n6, n7.map (·.1), n15) : XW) = (some (("__init__" : Str), d.qual, d.params, FuncBody.stmts d.body, d.scope, mainGlobals, [("__class__" : Str)], builtinsNs) : XW) := e
    simp only [Option.some.injEq, Prod.mk.injEq] at e2
    obtain ⟨h1, h2, h3, h4, h5, h6, h7, h8⟩ := e2
    subst h1 h2 h3 h4 h5 h6 h8
    simp only at k1 k2 k3
    split at k3
    · rename_i p
      obtain ⟨pn, cc⟩ := p
      have h7 : [pn] = [("__class__" : Str)] := h7
      cases h7
      split at k3
      · rename_i cl cld D csl hcell
        have k3 := of_decide_eq_true k3
        subst k3
        split at k1
        · split at k2
          · rename_i cda
            obtain ⟨k4, k5⟩ := and3 k2
            split at k5
            · rename_i ccl cdd vs ccs hcode
              split at k5
              · rename_i fl tf hvs
                unfold XD.syn at s
                obtain ⟨s1, s⟩ := and3 s
                obtain ⟨s2, s⟩ := and3 s
                obtain ⟨s3, s⟩ := and3 s
                obtain ⟨s4, s⟩ := and3 s
                obtain ⟨s5, s⟩ := and3 s
                obtain ⟨s6, s⟩ := and3 s
                obtain ⟨s7, s8⟩ := and3 s
                split at s3
                · rename_i ar har
                  have s3 := of_decide_eq_true s3
                  split at s8
                  · rename_i su q0 q1 ini q2 tx q3 q4 q5 q6 sa q7 sf q8 sb q9 q10 hbody
                    obtain ⟨t1, s8⟩ := and3 s8
                    obtain ⟨t2, s8⟩ := and3 s8
                    obtain ⟨t3, s8⟩ := and3 s8
                    obtain ⟨t4, s8⟩ := and3 s8
                    obtain ⟨t5, t6⟩ := and3 s8
                    have t1 := of_decide_eq_true t1
                    have t2 := of_decide_eq_true t2
                    have t4 := of_decide_eq_true t4
                    have t5 := of_decide_eq_true t5
                    have t6 := of_decide_eq_true t6
                    subst t1 t2 t4 t5 t6
                    exact ⟨_, .all fun us hl => b _ _ _ _ _ _ _ us hl, fun base => init_ok T lk k4 hcode hvs k5 hcell (nscope_by s1) (of_decide_eq_true s2) har s3 hbody t3 ⟨by simpa using s4, by simpa using s5⟩ ⟨by simpa using s6, by simpa using s7⟩ hsuper htop (of_decide_eq_true c8) al (of_decide_eq_true c10) (of_decide_eq_true c7)⟩
                  · cases s8
                · cases s3
              · cases k5
            · cases k5
          · cases k2
        · cases k1
      · cases k3
    · cases k3
  · cases c4

/-! ### all of them -/
/-- the classes by number -/
def gM (K : PySem.W.Frag) (xs : List XD) : Gx := ⟨fun i => He.ga K ((xs.map (·.C)).getD i Str.empty), fun i => (xs.map (·.f)).getD i Str.empty, xs.length⟩
theorem gM_c {K : PySem.W.Frag} {xs : List XD} {i : Nat} {d : XD} (h : xs[i]? = some d) : (gM K xs).xc i = He.ga K d.C ∧ (gM K xs).xf i = d.f ∧ i < (gM K xs).n := by
  refine ⟨?_, ?_, (List.getElem?_eq_some_iff.mp h).1⟩
  · show He.ga K ((xs.map (·.C)).getD i Str.empty) = _
    rw [List.getD_eq_getElem?_getD, List.getElem?_map, h]
    rfl
  · show (xs.map (·.f)).getD i Str.empty = _
    rw [List.getD_eq_getElem?_getD, List.getElem?_map, h]
    rfl
/-- except C: which of the classes C catches -/
def catB (K : PySem.W.Frag) (xs : List XD) (c : Str × List Nat) : Bool := decide (PySem.W.nsIn K mainGlobals c.1 = some (some (.ref (He.ga K c.1)))) && (List.range xs.length).all fun i => decide (PySem.W.exmOne K (.ref ((gM K xs).xc i)) (.ref (He.ga K c.1)) = some (c.2.contains i))
/-- isinstance(e, C), e of the class number i: C a class of the program, or ValueError -/
def isiB (K : PySem.W.Frag) (xs : List XD) (c : Nat × Str × Bool) : Bool := decide (c.1 < xs.length) && (if c.2.1 = ("ValueError" : Str) then decide (PySem.W.kitOne K (.ref ((gM K xs).xc c.1)) (.type "ValueError") = some c.2.2) else decide (PySem.W.nsIn K mainGlobals c.2.1 = some (some (.ref (He.ga K c.2.1)))) && decide (PySem.W.kitOne K (.ref ((gM K xs).xc c.1)) (.ref (He.ga K c.2.1)) = some c.2.2))
def excsB (file : Str) (xs : List XD) (cat : List (Str × List Nat)) (isi : List (Nat × Str × Bool)) (K : PySem.W.Frag) : Bool := xs.all (fun d => d.ok file K) && (cat.all (catB K xs) && isi.all (isiB K xs))
theorem cat_ok {K : PySem.W.Frag} {mg : Str → Option Value} {h : Heap} {xs : List XD} {C : Str} {cs : List Nat} (X : K.In h) (G : h.Ns mainGlobals mg) (c : catB K xs (C, cs) = true) :
    ∃ cv, mg C = some cv ∧ ∀ x, x < (gM K xs).n → PySem.W.exmOne K (.ref ((gM K xs).xc x)) cv = some (cs.contains x) := by
  obtain ⟨c1, c2⟩ := and3 c
  refine ⟨_, PySem.W.mg_of X G (of_decide_eq_true c1), fun x hx => ?_⟩
  exact of_decide_eq_true (List.all_eq_true.mp c2 x (List.mem_range.mpr hx))
theorem isi_ok {P : Program} {w : World} {K : PySem.W.Frag} {mg : Str → Option Value} {h : Heap} {base : Heap} {A : Around} {xs : List XD} {i : Nat} {C : Str} {b : Bool} (X : K.In h) (G : h.Ns mainGlobals mg) (hv : mg "ValueError" = none) (cl : ∀ i, i < xs.length → XCl K ((gM K xs).xc i)) (c : isiB K xs (i, C, b) = true) :
    XIs ⟨P, w, K, mg, base, A⟩ ((gM K xs).xc i) C b := by
  obtain ⟨c1, c2⟩ := and3 c
  refine ⟨cl i (of_decide_eq_true c1), ?_⟩
  simp only at c2
  split at c2
  · rename_i e
    subst e
    exact ⟨.type "ValueError", .inr ⟨hv, by decide +kernel⟩, ⟨.ty "ValueError", rfl, fun u hu => hu⟩, of_decide_eq_true c2⟩
  · obtain ⟨c3, c4⟩ := and3 c2
    exact ⟨_, .inl (PySem.W.mg_of X G (of_decide_eq_true c3)), ⟨.ref _, rfl, fun u hu => hu⟩, of_decide_eq_true c4⟩
theorem raise_ok {P : Program} {w : World} {K : PySem.W.Frag} {mg : Str → Option Value} {h : Heap} {base : Heap} {A : Around} {xs : List XD} {i : Nat} {d : XD} (X : K.In h) (G : h.Ns mainGlobals mg) (hi : xs[i]? = some d) (e : xW K d.C = d.val) (c : d.ok P.main.file K = true) (s : d.syn = true) (b : d.Bnd) (hsuper : mg "super" = none) (htop : (P.main.scope.names.lookup ("super" : Str)).isSome = false) (r : Room 2 A) :
    RaiseOk (gM K xs) ⟨P, w, K, mg, base, A⟩ i d.C := by
  obtain ⟨g1, g2, g3⟩ := gM_c (K := K) hi
  obtain ⟨T, _, _, _, m, i1, i2, fd, bd, F⟩ := xd_init (w := w) X G e c s b hsuper htop
  refine ⟨g3, xIni K d.C, fd, _, 1, ?_, ?_, i2, ?_, r, bd, ?_⟩
  · show OexC K ((gM K xs).xc i)
    rw [g1]
    exact T
  · show PySem.W.findIn K (.ref ((gM K xs).xc i)) "__init__" = _
    rw [g1]
    exact i1
  · show FnOk P w K mg base (L2.CX P w) 1 _ fd _ (spI K ((gM K xs).xc i) ((gM K xs).xf i))
    rw [g1, g2]
    exact F base
  · show mg d.C = some (.ref ((gM K xs).xc i))
    rw [g1]
    exact m
/-! ### the hook: what the module's names reach, and the statics -/
abbrev AlM : Type := He.AlX × List XW
def obsM (n : Nat) (fa : List He.Fa) (fn : List He.DefD) (ts : List He.Tab) (ex : PySem.W.Frag → Bool) (xs : List XD) (g : Addr → Option Obj) : AlM :=
  let K := He.frT g (cStatics :: He.asD g n)
  ((He.obsT fa fn ts K, ex K), xs.map fun d => xW K d.C)
def valM (fn : List He.DefD) (ts : List He.Tab) (xs : List XD) (w : World) : AlM := ((He.valT fn ts w, true), xs.map XD.val)
structure SaysM (fa : List He.Fa) (fn : List He.DefD) (ts : List He.Tab) (ex : PySem.W.Frag → Bool) (xs : List XD) (w : World) (h : Heap) (K : PySem.W.Frag) : Prop where
  t : He.SaysT fa fn ts w K
  more : ex K = true
  xs : ∀ (i : Nat) (d : XD), xs[i]? = some d → xW K d.C = d.val
def hookM (n : Nat) (fa : List He.Fa) (fn : List He.DefD) (ts : List He.Tab) (ex : PySem.W.Frag → Bool) (xs : List XD) : PySem.W.Hook where
  α := AlM
  obs := fun s => obsM n fa fn ts ex xs s.heap.get?
  val := fun w => valM fn ts xs w
  says := fun w h => ∃ K : PySem.W.Frag, K.In h ∧ SaysM fa fn ts ex xs w h K
  of := fun w s e => ⟨_, He.frT_in, by
    have e1 := congrArg (fun z : AlM => z.1.1) e
    have e2 := congrArg (fun z : AlM => z.1.2) e
    have e3 := congrArg (fun z : AlM => z.2) e
    refine ⟨e1, e2, fun i d hi => ?_⟩
    have e4 := congrArg (fun l : List XW => l[i]?) e3
    have e5 : (xs.map fun d => xW (He.frT s.heap.get? (cStatics :: He.asD s.heap.get? n)) d.C)[i]? = (xs.map XD.val)[i]? := e4
    rw [List.getElem?_map, List.getElem?_map, hi] at e5
    exact Option.some.inj e5⟩
  keeps := fun _ _ _ ⟨K, hK, c⟩ k => ⟨K, PySem.W.Frag.In.keeps hK k, ⟨c.t, c.more, c.xs⟩⟩
theorem obsM_eq {n : Nat} {fa : List He.Fa} {fn : List He.DefD} {ts : List He.Tab} {ex : PySem.W.Frag → Bool} {xs : List XD} {g : Addr → Option Obj} {s : Shared} (h : ∀ a, g a = s.heap.get? a) : obsM n fa fn ts ex xs g = (hookM n fa fn ts ex xs).obs s := by
  have e : g = s.heap.get? := funext h
  rw [e] <;> rfl
end Mini
end

section
set_option Elab.async false
set_option linter.all false
set_option maxRecDepth 100000
/-! P0: the evaluator's equations over frames that are written out, for simp. -/
namespace Mini
open PySem L2
/-- a slot that takes a value; one that a comprehension may use -/
def okSl : Option Sl → Bool
  | some (.own _) => false
  | some _ => true
  | none => false
def frSl : Option Sl → Bool
  | some (.own _) => false
  | some (.exn _ _) => false
  | _ => true
/-- a slot that owns no list -/
def sl : Option D → Sl
  | none => .no
  | some d => .val d
theorem q_bind_ok {β γ : Type} {a : β} {ρ : En} {f : β → En → O γ} : (O.ok a ρ).bind f = f a ρ := rfl
theorem q_out_ok {β : Type} {a : β} {ρ : En} {f : β → En → Out} : (O.ok a ρ).out f = f a ρ := rfl
theorem q_bind_exc {β γ : Type} {c : Nat} {d : D} {ρ : En} {f : β → En → O γ} : (O.exc c d ρ : O β).bind f = .exc c d ρ := rfl
theorem q_out_exc {β : Type} {c : Nat} {d : D} {ρ : En} {f : β → En → Out} : (O.exc c d ρ : O β).out f = .exc c d ρ := rfl
theorem q_seq_ret {x : Rv} {ρ : En} {f : En → Out} : (Out.ret x ρ).seq f = .ret x ρ := rfl
theorem q_seq_new {x : List D} {ρ : En} {f : En → Out} : (Out.new x ρ).seq f = .new x ρ := rfl
theorem q_seq_brk {ρ : En} {f : En → Out} : (Out.brk ρ).seq f = .brk ρ := rfl
theorem q_seq_cnt {ρ : En} {f : En → Out} : (Out.cnt ρ).seq f = .cnt ρ := rfl
theorem q_seq_nx {ρ : En} {f : En → Out} : (Out.nx ρ).seq f = f ρ := rfl
theorem q_seq_exc {c : Nat} {d : D} {ρ : En} {f : En → Out} : (Out.exc c d ρ).seq f = .exc c d ρ := rfl
theorem q_opt_some {β : Type} {a : β} {ρ : En} : O.opt (some a) ρ = .ok a ρ := rfl
theorem q_if_t {α : Type} {a b : α} : (if true = true then a else b) = a := rfl
theorem q_if_f {α : Type} {a b : α} : (if false = true then a else b) = b := rfl
theorem q_ev_v {a : Sl} {r : En} {i : Nat} : evE (.v i) (a :: r) = match (a :: r)[i]? with | some (.val d) => .ok (.d d) (a :: r) | some (.own _) => .ok (.o i) (a :: r) | _ => .bad := rfl
theorem q_ev_c {a : Sl} {r : En} {d : D} : evE (.c d) (a :: r) = .ok (.d d) (a :: r) := rfl
theorem q_ev_g {a : Sl} {r : En} {x : Str} {d : D} : evE (.g x d) (a :: r) = .ok (.d d) (a :: r) := rfl
theorem q_ev_gix {a : Sl} {r : En} {x : Str} {t : List (List Nat × D)} {e : E} : evE (.gix x t e) (a :: r) = (evE e (a :: r)).bind fun x ρ => (O.opt (asD x) ρ).bind fun x ρ => (O.opt (asS x) ρ).bind fun s ρ => O.opt ((t.lookup s).map .d) ρ := rfl
theorem q_ev_gin {a : Sl} {r : En} {n : Bool} {x : Str} {t : List (List Nat × D)} {e : E} : evE (.gin n x t e) (a :: r) = (evE e (a :: r)).bind fun x ρ => (O.opt (asD x) ρ).bind fun x ρ => (O.opt (asS x) ρ).bind fun s ρ => .ok (.d (.bl (if n then !(t.lookup s).isSome else (t.lookup s).isSome))) ρ := rfl
theorem q_ev_bin {a : Sl} {r : En} {o : BOp} {p q : E} : evE (.bin o p q) (a :: r) = (evE p (a :: r)).bind fun x ρ => (evE q ρ).bind fun y ρ => (O.opt (deref ρ x) ρ).bind fun x ρ => (O.opt (deref ρ y) ρ).bind fun y ρ => O.opt ((bop o x y).map .d) ρ := rfl
theorem q_ev_cat {a : Sl} {r : En} {p q : E} : evE (.cat p q) (a :: r) = (evE p (a :: r)).bind fun x ρ => (evE q ρ).bind fun y ρ => (O.opt (deref ρ x) ρ).bind fun x ρ => (O.opt (deref ρ y) ρ).bind fun y ρ => O.opt ((catD x y).map .d) ρ := rfl
theorem q_cat_l {x y : List D} : catD (.lst x) (.lst y) = if x.length + y.length ≤ lim then some (.lst (x ++ y)) else none := rfl
theorem q_ev_neg {a : Sl} {r : En} {p : E} : evE (.neg p) (a :: r) = (evE p (a :: r)).bind fun x ρ => (O.opt (asD x) ρ).bind fun x ρ => (O.opt (asI x) ρ).bind fun i ρ => .ok (.d (.int (-i))) ρ := rfl
theorem q_ev_not {a : Sl} {r : En} {p : E} : evE (.not p) (a :: r) = (evE p (a :: r)).bind fun x ρ => (O.opt (asD x) ρ).bind fun x ρ => (O.opt (asB x) ρ).bind fun b ρ => .ok (.d (.bl (!b))) ρ := rfl
theorem q_ev_cmp {a : Sl} {r : En} {o : COp} {p q : E} : evE (.cmp o p q) (a :: r) = (evE p (a :: r)).bind fun x ρ => (evE q ρ).bind fun y ρ => (O.opt (deref ρ x) ρ).bind fun x ρ => (O.opt (deref ρ y) ρ).bind fun y ρ => O.opt ((cop o x y).map fun z => .d (.bl z)) ρ := rfl
theorem q_ev_chn {a : Sl} {r : En} {o o2 : COp} {p q s : E} : evE (.chn o o2 p q s) (a :: r) = (evE p (a :: r)).bind fun x ρ => (evE q ρ).bind fun y ρ => (O.opt (asD x) ρ).bind fun x ρ => (O.opt (asD y) ρ).bind fun y ρ => (O.opt (cop o x y) ρ).bind fun z ρ => if z = true then (evE s ρ).bind fun w ρ => (O.opt (asD w) ρ).bind fun w ρ => O.opt ((cop o2 y w).map fun z => .d (.bl z)) ρ else .ok (.d (.bl false)) ρ := rfl
theorem q_ev_and {a : Sl} {r : En} {es : List E} : evE (.and es) (a :: r) = evAnd es (a :: r) := rfl
theorem q_ev_or {a : Sl} {r : En} {es : List E} : evE (.or es) (a :: r) = evOr es (a :: r) := rfl
theorem q_ev_ite {a : Sl} {r : En} {t p q : E} : evE (.ite t p q) (a :: r) = (evE t (a :: r)).bind fun x ρ => (O.opt (asD x) ρ).bind fun x ρ => (O.opt (asB x) ρ).bind fun k ρ => if k = true then evE p ρ else evE q ρ := rfl
theorem q_ev_tup {a : Sl} {r : En} {es : List E} : evE (.tup es) (a :: r) = (evEs es (a :: r)).bind fun xs ρ => (O.opt (asDs xs) ρ).bind fun ds ρ => if ds.length ≤ lim then .ok (.d (.tup ds)) ρ else .bad := rfl
theorem q_ev_lst {a : Sl} {r : En} {es : List E} : evE (.lst es) (a :: r) = (evEs es (a :: r)).bind fun xs ρ => (O.opt (asDs xs) ρ).bind fun ds ρ => if ds.length ≤ lim then .ok (.d (.lst ds)) ρ else .bad := rfl
theorem q_ev_call {a : Sl} {r : En} {f : CallF} {es : List E} : evE (.call f es) (a :: r) = (evEs es (a :: r)).bind fun xs ρ => callO f xs ρ := rfl
theorem q_ev_bi {a : Sl} {r : En} {b : BI} {es : List E} : evE (.bi b es) (a :: r) = (evEs es (a :: r)).bind fun xs ρ => (O.opt (derefs ρ xs) ρ).bind fun ds ρ => O.opt ((bi b ds).map .d) ρ := rfl
theorem q_ev_me {a : Sl} {r : En} {m : ME} {o : E} {es : List E} : evE (.me m o es) (a :: r) = (evE o (a :: r)).bind fun x ρ => (O.opt (asD x) ρ).bind fun x ρ => (O.opt (asS x) ρ).bind fun s ρ => (evEs es ρ).bind fun xs ρ => (O.opt (derefs ρ xs) ρ).bind fun ds ρ => O.opt ((me m (.str s) ds).map .d) ρ := rfl
theorem q_ev_isi {a : Sl} {r : En} {ts : List Ty} {p : E} : evE (.isi ts p) (a :: r) = (evE p (a :: r)).bind fun x ρ => (O.opt (asD x) ρ).bind fun x ρ => .ok (.d (.bl (ts.any fun t => isTy t x))) ρ := rfl
theorem q_ev_ix {a : Sl} {r : En} {p q : E} : evE (.ix p q) (a :: r) = (evE p (a :: r)).bind fun x ρ => (evE q ρ).bind fun y ρ => (O.opt (deref ρ x) ρ).bind fun x ρ => (O.opt (asD y) ρ).bind fun y ρ => (O.opt (asI y) ρ).bind fun i ρ => O.opt ((atD x i).map .d) ρ := rfl
theorem q_ev_slLo {a : Sl} {r : En} {p q : E} : evE (.slLo p q) (a :: r) = (evE p (a :: r)).bind fun x ρ => (evE q ρ).bind fun y ρ => (O.opt (deref ρ x) ρ).bind fun x ρ => (O.opt (asD y) ρ).bind fun y ρ => (O.opt (asI y) ρ).bind fun i ρ => O.opt ((cutD x (some i) none).map .d) ρ := rfl
theorem q_ev_slHi {a : Sl} {r : En} {p q : E} : evE (.slHi p q) (a :: r) = (evE p (a :: r)).bind fun x ρ => (evE q ρ).bind fun y ρ => (O.opt (deref ρ x) ρ).bind fun x ρ => (O.opt (asD y) ρ).bind fun y ρ => (O.opt (asI y) ρ).bind fun i ρ => O.opt ((cutD x none (some i)).map .d) ρ := rfl
theorem q_ev_slLH {a : Sl} {r : En} {p l h : E} : evE (.slLH p l h) (a :: r) = (evE p (a :: r)).bind fun x ρ => (evE l ρ).bind fun y ρ => (O.opt (asD y) ρ).bind fun y ρ => (O.opt (asI y) ρ).bind fun i ρ => (evE h ρ).bind fun z ρ => (O.opt (asD z) ρ).bind fun z ρ => (O.opt (asI z) ρ).bind fun j ρ => (O.opt (deref ρ x) ρ).bind fun x ρ => O.opt ((cutD x (some i) (some j)).map .d) ρ := rfl
theorem q_ev_rev {a : Sl} {r : En} {p : E} : evE (.rev p) (a :: r) = (evE p (a :: r)).bind fun x ρ => (O.opt (deref ρ x) ρ).bind fun x ρ => O.opt ((revD x).map .d) ρ := rfl
theorem q_ev_gti {a : Sl} {r : En} {x : Str} {t : List (List Nat)} {e : E} : evE (.gti x t e) (a :: r) = (evE e (a :: r)).bind fun x ρ => (O.opt (asD x) ρ).bind fun x ρ => (O.opt (asS x) ρ).bind fun s ρ => O.opt (((idxT s t).map fun (n : Nat) => D.int (n : Int)).map .d) ρ := rfl
theorem q_ev_gsd {a : Sl} {r : En} {x : Str} {ys : List (List Nat)} : evE (.gsd x ys) (a :: r) = .ok (.d (.lst (ys.map .str))) (a :: r) := rfl
theorem q_ev_lrev {a : Sl} {r : En} {p : E} : evE (.lrev p) (a :: r) = (evE p (a :: r)).bind fun x ρ => (O.opt (asD x) ρ).bind fun x ρ => O.opt ((lrevD x).map .d) ρ := rfl
theorem q_ev_lc {a : Sl} {r : En} {t : Tgt} {own : List Nat} {s : Src} {ifs : List E} {elt : E} : evE (.lc t own s ifs elt) (a :: r) = (evSrc s (a :: r)).bind fun xs ρ => if freeE ρ own then (match lcGo t own (lcBody (evTs ifs) (evE elt)) xs [] ρ with | .ok ys ρ' => .ok (.d (.lst ys)) ρ' | _ => .bad) else .bad := rfl
theorem q_ev_pop {a : Sl} {r : En} {i : Nat} : evE (.pop i) (a :: r) = match (a :: r)[i]? with | some (.own ds) => (match ds.getLast? with | some d => .ok (.d d) ((a :: r).set i (.own ds.dropLast)) | none => .bad) | _ => .bad := rfl
theorem q_evs_nil {ρ : En} : evEs [] ρ = .ok [] ρ := rfl
theorem q_evs_cons {a : Sl} {r : En} {e : E} {es : List E} : evEs (e :: es) (a :: r) = (evE e (a :: r)).bind fun x ρ => (evEs es ρ).bind fun xs ρ => .ok (x :: xs) ρ := rfl
theorem q_and_1 {a : Sl} {r : En} {e : E} : evAnd [e] (a :: r) = evE e (a :: r) := rfl
theorem q_and_2 {a : Sl} {r : En} {e e2 : E} {es : List E} : evAnd (e :: e2 :: es) (a :: r) = (evE e (a :: r)).bind fun x ρ => (O.opt (asD x) ρ).bind fun x ρ => (O.opt (asB x) ρ).bind fun k ρ => if k = true then evAnd (e2 :: es) ρ else .ok (.d (.bl false)) ρ := rfl
theorem q_or_1 {a : Sl} {r : En} {e : E} : evOr [e] (a :: r) = evE e (a :: r) := rfl
theorem q_or_2 {a : Sl} {r : En} {e e2 : E} {es : List E} : evOr (e :: e2 :: es) (a :: r) = (evE e (a :: r)).bind fun x ρ => (O.opt (asD x) ρ).bind fun x ρ => (O.opt (asB x) ρ).bind fun k ρ => if k = true then .ok (.d (.bl true)) ρ else evOr (e2 :: es) ρ := rfl
theorem q_ts_nil {ρ : En} : evTs [] ρ = .ok true ρ := rfl
theorem q_ts_1 {a : Sl} {r : En} {e : E} : evTs [e] (a :: r) = (evE e (a :: r)).bind fun x ρ => (O.opt (asD x) ρ).bind fun x ρ => (O.opt (asB x) ρ).bind fun k ρ => .ok k ρ := rfl
theorem q_src_it {a : Sl} {r : En} {e : E} : evSrc (.it e) (a :: r) = (evE e (a :: r)).bind fun x ρ => (O.opt (asD x) ρ).bind fun x ρ => O.opt (items x) ρ := rfl
theorem q_src_r1 {a : Sl} {r : En} {e : E} : evSrc (.r1 e) (a :: r) = (evE e (a :: r)).bind fun x ρ => (O.opt (asD x) ρ).bind fun x ρ => (O.opt (asI x) ρ).bind fun i ρ => if rngOk i then .ok (rng 0 i) ρ else .bad := rfl
theorem q_src_r2 {a : Sl} {r : En} {e e2 : E} : evSrc (.r2 e e2) (a :: r) = (evE e (a :: r)).bind fun x ρ => (evE e2 ρ).bind fun y ρ => (O.opt (asD x) ρ).bind fun x ρ => (O.opt (asI x) ρ).bind fun i ρ => (O.opt (asD y) ρ).bind fun y ρ => (O.opt (asI y) ρ).bind fun j ρ => if rngOk i && rngOk j then .ok (rng i j) ρ else .bad := rfl
theorem q_src_rd {a : Sl} {r : En} {e e2 : E} : evSrc (.rd e e2) (a :: r) = (evE e (a :: r)).bind fun x ρ => (evE e2 ρ).bind fun y ρ => (O.opt (asD x) ρ).bind fun x ρ => (O.opt (asI x) ρ).bind fun i ρ => (O.opt (asD y) ρ).bind fun y ρ => (O.opt (asI y) ρ).bind fun j ρ => if rngOk i && rngOk j then .ok (rngD i j) ρ else .bad := rfl
theorem q_evt {a : Sl} {r : En} {e : E} : evT e (a :: r) = (evE e (a :: r)).bind fun x ρ => (O.opt (asD x) ρ).bind fun x ρ => O.opt (asB x) ρ := rfl
theorem q_lcb {a : Sl} {r : En} {ifs : EvF Bool} {elt : EvF Rv} : lcBody ifs elt (a :: r) = (ifs (a :: r)).bind fun k ρ => if k = true then (elt ρ).bind fun y ρ => O.opt ((asD y).map some) ρ else .ok none ρ := rfl
theorem q_x_ret {n : Nat} {a : Sl} {r : En} {e : E} : exS n (.ret e) (a :: r) = (evE e (a :: r)).out fun x ρ => .ret x ρ := rfl
theorem q_x_retN {n : Nat} {a : Sl} {r : En} : exS n .retN (a :: r) = .ret (.d .non) (a :: r) := rfl
theorem q_x_retF {n : Nat} {a : Sl} {r : En} {e : E} : exS n (.retF e) (a :: r) = (evE e (a :: r)).out fun x ρ => match x with | .d (.lst ds) => .new ds ρ | _ => .bad := rfl
theorem q_x_set {n : Nat} {a : Sl} {r : En} {i : Nat} {e : E} : exS n (.set i e) (a :: r) = (evE e (a :: r)).out fun x ρ => match asD x with | some d => (match setV ρ i d with | some ρ => .nx ρ | none => .bad) | none => .bad := rfl
theorem q_x_setN {n : Nat} {a : Sl} {r : En} {i : Nat} {e : E} : exS n (.setN i e) (a :: r) = (evE e (a :: r)).out fun x ρ => match x with | .d (.lst ds) => .nx (ρ.set i (.own ds)) | _ => .bad := rfl
theorem q_x_unp {n : Nat} {a : Sl} {r : En} {is : List Nat} {e : E} : exS n (.unp is e) (a :: r) = (evE e (a :: r)).out fun x ρ => match asD x with | some (.tup ds) => (match bindN ρ is ds with | some ρ => .nx ρ | none => .bad) | _ => .bad := rfl
theorem q_x_aug {n : Nat} {a : Sl} {r : En} {i : Nat} {s : Bool} {e : E} : exS n (.aug i s e) (a :: r) = match (a :: r)[i]? with | some (.val (.int x)) => (evE e (a :: r)).out fun y ρ => (match asD y with | some (.int y) => (match setV ρ i (.int (if s then x - y else x + y)) with | some ρ => .nx ρ | none => .bad) | _ => .bad) | _ => .bad := rfl
theorem q_x_ite {n : Nat} {a : Sl} {r : En} {t : E} {p q : List S} : exS n (.ite t p q) (a :: r) = (evT t (a :: r)).out fun k ρ => if k = true then exSs n p ρ else exSs n q ρ := rfl
theorem q_x_whl {n : Nat} {a : Sl} {r : En} {t : E} {b : List S} : exS n (.whl t b) (a :: r) = whlGo (evT t) (exSs n b) n (a :: r) := rfl
theorem q_x_for {n : Nat} {a : Sl} {r : En} {t : Tgt} {s : Src} {b : List S} : exS n (.for t s b) (a :: r) = (evSrc s (a :: r)).out fun xs ρ => forGo t (exSs n b) xs ρ := rfl
theorem q_x_app {n : Nat} {a : Sl} {r : En} {i : Nat} {e : E} : exS n (.app i e) (a :: r) = if isOwn (a :: r) i then (evE e (a :: r)).out fun x ρ => (match asD x, ρ[i]? with | some d, some (.own ds) => if ds.length < lim then .nx (ρ.set i (.own (ds ++ [d]))) else .bad | _, _ => .bad) else .bad := rfl
theorem q_x_ext {n : Nat} {a : Sl} {r : En} {i : Nat} {e : E} : exS n (.ext i e) (a :: r) = if isOwn (a :: r) i then (evE e (a :: r)).out fun x ρ => (match asD x, ρ[i]? with | some (.lst es), some (.own ds) => if ds.length + es.length ≤ lim then .nx (ρ.set i (.own (ds ++ es))) else .bad | _, _ => .bad) else .bad := rfl
theorem q_x_put {n : Nat} {a : Sl} {r : En} {i : Nat} {k e : E} : exS n (.put i k e) (a :: r) = (evE e (a :: r)).out fun x ρ => if isOwn ρ i then (evE k ρ).out fun y ρ => (match asD x, asD y, ρ[i]? with | some d, some (.int k), some (.own ds) => (match ixN ds.length k with | some j => .nx (ρ.set i (.own (ds.set j d))) | none => .bad) | _, _, _ => .bad) else .bad := rfl
theorem q_x_exp {n : Nat} {a : Sl} {r : En} {e : E} : exS n (.exp e) (a :: r) = (evE e (a :: r)).out fun _ ρ => .nx ρ := rfl
theorem q_x_try {n : Nat} {a : Sl} {r : En} {b h : List S} {cs : List Nat} {C : Str} {m : Option Nat} : exS n (.try b cs C m h) (a :: r) = match exSs n b (a :: r) with | .exc x d ρ => if cs.contains x then (match enterX m x d ρ with | some ρ => leaveT m (exSs n h ρ) | none => .bad) else .exc x d ρ | o => o := rfl
theorem q_x_raise {n : Nat} {a : Sl} {r : En} {x : Nat} {C : Str} {e : E} : exS n (.raise x C e) (a :: r) = (evE e (a :: r)).out fun y ρ => match asD y with | some d => .exc x d ρ | none => .bad := rfl
theorem q_x_frz {n : Nat} {a : Sl} {r : En} {i : Nat} : exS n (.frz i) (a :: r) = match (a :: r)[i]? with | some (.own ds) => .nx ((a :: r).set i (.val (.lst ds))) | _ => .bad := rfl
theorem q_x_pas {n : Nat} {a : Sl} {r : En} : exS n .pas (a :: r) = .nx (a :: r) := rfl
theorem q_x_brk {n : Nat} {a : Sl} {r : En} : exS n .brk (a :: r) = .brk (a :: r) := rfl
theorem q_x_cnt {n : Nat} {a : Sl} {r : En} : exS n .cnt (a :: r) = .cnt (a :: r) := rfl
theorem q_xs_nil {n : Nat} {ρ : En} : exSs n [] ρ = .nx ρ := rfl
theorem q_xs_cons {n : Nat} {a : Sl} {r : En} {s : S} {ss : List S} : exSs n (s :: ss) (a :: r) = (exS n s (a :: r)).seq fun ρ => exSs n ss ρ := rfl
theorem q_lv_d {md : List Bool} {d : D} {ρ : En} : leaveO md false (.ret (.d d) ρ) = finO md d ρ := rfl
theorem q_lv_nx {md : List Bool} {ρ : En} : leaveO md false (.nx ρ) = finO md .non ρ := rfl
theorem q_lv_new {md : List Bool} {ds : List D} {ρ : En} : leaveO md true (.new ds ρ) = finO md (.lst ds) ρ := rfl
theorem q_lv_o {md : List Bool} {fr : Bool} {i : Nat} {ρ : En} : leaveO md fr (.ret (.o i) ρ) = if (inoutSlots md).contains i = true then .bad else (match ρ[i]? with | some (.own x) => finO md (.lst x) ρ | _ => .bad) := rfl
theorem q_lv_exc {md : List Bool} {fr : Bool} {c : Nat} {d : D} {ρ : En} : leaveO md fr (.exc c d ρ) = (match outsOf ρ (inoutSlots md) with | some r => .exc c d r | none => .bad) := rfl
theorem q_deref_d {ρ : En} {d : D} : deref ρ (.d d) = some d := rfl
theorem q_deref_o {a : Sl} {r : En} {i : Nat} : deref (a :: r) (.o i) = match (a :: r)[i]? with | some (.own ds) => some (.lst ds) | _ => none := rfl
theorem q_derefs_nil {ρ : En} : derefs ρ [] = some [] := rfl
theorem q_derefs_cons {ρ : En} {x : Rv} {xs : List Rv} : derefs ρ (x :: xs) = match deref ρ x, derefs ρ xs with | some d, some ds => some (d :: ds) | _, _ => none := rfl
theorem q_asD_d {d : D} : asD (.d d) = some d := rfl
theorem q_asDs_nil : asDs [] = some [] := rfl
theorem q_asDs_cons {d : D} {xs : List Rv} : asDs (.d d :: xs) = (asDs xs).map (d :: ·) := rfl
theorem q_asI_i {i : Int} : asI (.int i) = some i := rfl
theorem q_asB_b {b : Bool} : asB (.bl b) = some b := rfl
theorem q_asS_s {s : List Nat} : asS (.str s) = some s := rfl
theorem q_bop_add {i j : Int} : bop .add (.int i) (.int j) = some (.int (i + j)) := rfl
theorem q_bop_sub {i j : Int} : bop .sub (.int i) (.int j) = some (.int (i - j)) := rfl
theorem q_bop_mul {i j : Int} : bop .mul (.int i) (.int j) = if small i || small j then some (.int (i * j)) else none := rfl
theorem q_bop_mul_s {i : List Nat} {j : Int} : bop .mul (.str i) (.int j) = if -1000 < j ∧ j < 1000 ∧ i.length ≤ 1000 then some (.str (List.replicate j.toNat i).flatten) else none := rfl
theorem q_bop_fdiv {i j : Int} : bop .fdiv (.int i) (.int j) = if j ≠ 0 ∧ j.natAbs < 1073741824 then some (.int (i.fdiv j)) else none := rfl
theorem q_bop_mod {i j : Int} : bop .mod (.int i) (.int j) = if j ≠ 0 then some (.int (i.fmod j)) else none := rfl
theorem q_bop_pow {i j : Int} : bop .pow (.int i) (.int j) = if 0 ≤ j ∧ j ≤ 1000 ∧ i.natAbs < 2 ^ 64 then some (.int (i ^ j.toNat)) else none := rfl
theorem q_bop_add_str {x y : List Nat} : bop .add (.str x) (.str y) = if x.length + y.length ≤ lim then some (.str (x ++ y)) else none := rfl
theorem q_bop_add_tup {x y : List D} : bop .add (.tup x) (.tup y) = if x.length + y.length ≤ lim then some (.tup (x ++ y)) else none := rfl
theorem q_bop_add_lst {x y : List D} : bop .add (.lst x) (.lst y) = if x.length + y.length ≤ lim then some (.lst (x ++ y)) else none := rfl
theorem q_cop_eq {x y : D} : cop .eq x y = eqO x y := rfl
theorem q_cop_ne {x y : D} : cop .ne x y = (eqO x y).map (!·) := rfl
theorem q_cop_lt_i {i j : Int} : cop .lt (.int i) (.int j) = some (decide (i < j)) := rfl
theorem q_cop_lt_b {i j : Bool} : cop .lt (.bl i) (.bl j) = some (decide (b2z i < b2z j)) := rfl
theorem q_cop_lt_s {i j : List Nat} : cop .lt (.str i) (.str j) = some (decide (i < j)) := rfl
theorem q_cop_gt_i {i j : Int} : cop .gt (.int i) (.int j) = some (decide (j < i)) := rfl
theorem q_cop_gt_s {i j : List Nat} : cop .gt (.str i) (.str j) = some (decide (j < i)) := rfl
theorem q_cop_le_i {i j : Int} : cop .le (.int i) (.int j) = some (decide (i ≤ j)) := rfl
theorem q_cop_ge_i {i j : Int} : cop .ge (.int i) (.int j) = some (decide (j ≤ i)) := rfl
theorem q_cop_in {x y : D} : cop .isIn x y = memO x y := rfl
theorem q_cop_nin {x y : D} : cop .notIn x y = (memO x y).map (!·) := rfl
theorem q_cop_is_n {x : D} : cop .is x .non = some (match x with | .non => true | _ => false) := rfl
theorem q_cop_is_b {x : D} {y : Bool} : cop .is x (.bl y) = some (match x with | .bl z => z == y | _ => false) := rfl
theorem q_cop_isn_n {x : D} : cop .isNot x .non = some (match x with | .non => false | _ => true) := rfl
theorem q_mem_tup {x : D} {ds : List D} : memO x (.tup ds) = inO x ds := rfl
theorem q_mem_lst {x : D} {ds : List D} : memO x (.lst ds) = inO x ds := rfl
theorem q_mem_1 {c : Nat} {z : List Nat} : memO (.str [c]) (.str z) = some (z.contains c) := rfl
theorem q_len_str {x : List Nat} : bi .len [.str x] = some (.int x.length) := rfl
theorem q_len_tup {x : List D} : bi .len [.tup x] = some (.int x.length) := rfl
theorem q_len_lst {x : List D} : bi .len [.lst x] = some (.int x.length) := rfl
theorem q_bi_abs {i : Int} : bi .abs [.int i] = some (.int (if i < 0 then -i else i)) := rfl
theorem q_bi_max {i j : Int} : bi .max2 [.int i, .int j] = some (.int (if j > i then j else i)) := rfl
theorem q_bi_min {i j : Int} : bi .min2 [.int i, .int j] = some (.int (if j < i then j else i)) := rfl
theorem q_bi_all {x : List D} : bi .all [.lst x] = (dBools x).map fun bs => .bl (bs.all id) := rfl
theorem q_bi_any {x : List D} : bi .any [.lst x] = (dBools x).map fun bs => .bl (bs.any id) := rfl
theorem q_bi_sum {x : List D} : bi .sum [.lst x] = (dInts x).map fun is => .int is.sum := rfl
theorem q_bi_int_i {i : Int} : bi .int [.int i] = some (.int i) := rfl
theorem q_bi_int_b {b : Bool} : bi .int [.bl b] = some (.int (b2z b)) := rfl
theorem q_bi_str_i {i : Int} : bi .str [.int i] = if i.natAbs < 10 ^ 100 then some (.str (intS i)) else none := rfl
theorem q_bi_list_t {x : List D} : bi .list [.tup x] = some (.lst x) := rfl
theorem q_bi_list_l {x : List D} : bi .list [.lst x] = some (.lst x) := rfl
theorem q_bi_sum_t {x : List D} : bi .sum [.tup x] = (dInts x).map fun is => .int is.sum := rfl
theorem q_bi_max1_l {x : List D} : bi .max1 [.lst x] = (dInts x).bind fun is => (maxI is).map .int := rfl
theorem q_bi_max1_t {x : List D} : bi .max1 [.tup x] = (dInts x).bind fun is => (maxI is).map .int := rfl
theorem q_bi_min1_l {x : List D} : bi .min1 [.lst x] = (dInts x).bind fun is => (minI is).map .int := rfl
theorem q_bi_min1_t {x : List D} : bi .min1 [.tup x] = (dInts x).bind fun is => (minI is).map .int := rfl
theorem q_rev_t {x : List D} : revD (.tup x) = some (.tup x.reverse) := rfl
theorem q_rev_l {x : List D} : revD (.lst x) = some (.lst x.reverse) := rfl
theorem q_rev_s {x : List Nat} : revD (.str x) = some (.str x.reverse) := rfl
theorem q_lrev_t {x : List D} : lrevD (.tup x) = some (.lst x.reverse) := rfl
theorem q_bi_tuple_t {x : List D} : bi .tuple [.tup x] = some (.tup x) := rfl
theorem q_bi_tuple_l {x : List D} : bi .tuple [.lst x] = some (.tup x) := rfl
theorem q_it_tup {x : List D} : items (.tup x) = some x := rfl
theorem q_it_lst {x : List D} : items (.lst x) = some x := rfl
theorem q_it_str {x : List Nat} : items (.str x) = some (x.map fun c => .str [c]) := rfl
theorem q_at_tup {x : List D} {i : Int} : atD (.tup x) i = atI x i := rfl
theorem q_at_lst {x : List D} {i : Int} : atD (.lst x) i = atI x i := rfl
theorem q_at_str {x : List Nat} {i : Int} : atD (.str x) i = (atI x i).map fun c => .str [c] := rfl
theorem q_cut_tup {x : List D} {l h : Option Int} : cutD (.tup x) l h = some (.tup (cutL x l h)) := rfl
theorem q_cut_lst {x : List D} {l h : Option Int} : cutD (.lst x) l h = some (.lst (cutL x l h)) := rfl
theorem q_cut_str {x : List Nat} {l h : Option Int} : cutD (.str x) l h = some (.str (cutL x l h)) := rfl
theorem q_setv {a : Sl} {r : En} {i : Nat} {d : D} : setV (a :: r) i d = if okSl (a :: r)[i]? = true then some ((a :: r).set i (.val d)) else none := by
  unfold setV okSl
  cases (a :: r)[i]? with
  | none => rfl
  | some s => cases s <;> rfl
theorem q_okSl_va {d : D} : okSl (some (.val d)) = true := rfl
theorem q_frSl_va {d : D} : frSl (some (.val d)) = true := rfl
theorem q_okSl_no : okSl (some (.no)) = true := rfl
theorem q_frSl_no : frSl (some (.no)) = true := rfl
theorem q_okSl_sl {o : Option D} : okSl (some (sl o)) = true := by cases o <;> rfl
theorem q_frSl_sl {o : Option D} : frSl (some (sl o)) = true := by cases o <;> rfl
theorem q_bn_nil {ρ : En} : bindN ρ [] [] = some ρ := rfl
theorem q_bn_cons {a : Sl} {r : En} {i : Nat} {is : List Nat} {d : D} {ds : List D} : bindN (a :: r) (i :: is) (d :: ds) = match setV (a :: r) i d with | some ρ => bindN ρ is ds | none => none := rfl
theorem q_bt_n {i : Nat} {d : D} {ρ : En} : bindT (.n i) d ρ = setV ρ i d := rfl
theorem q_bt_t {is : List Nat} {ds : List D} {ρ : En} : bindT (.t is) (.tup ds) ρ = bindN ρ is ds := rfl
theorem q_own_c {a : Sl} {r : En} {i : Nat} : isOwn (a :: r) i = match (a :: r)[i]? with | some (.own _) => true | _ => false := rfl
theorem q_call_c {a : Sl} {r : En} {f : CallF} {xs : List Rv} : callO f xs (a :: r) = match splitA (a :: r) f.md xs with | some (ds, is) => if nodupB is then (match f.F ds with | .ok d outs => (match putO (a :: r) is outs with | some ρ' => .ok (.d d) ρ' | none => .bad) | .exc c d outs => (match putO (a :: r) is outs with | some ρ' => .exc c d ρ' | none => .bad) | .bad => .bad) else .bad | none => .bad := rfl
theorem q_sp_nil {ρ : En} : splitA ρ [] [] = some ([], []) := rfl
theorem q_sp_d {ρ : En} {md : List Bool} {d : D} {rs : List Rv} : splitA ρ (false :: md) (.d d :: rs) = match splitA ρ md rs with | some (ds, is) => some (d :: ds, is) | none => none := rfl
theorem q_sp_o {a : Sl} {r : En} {md : List Bool} {i : Nat} {rs : List Rv} : splitA (a :: r) (true :: md) (.o i :: rs) = match (a :: r)[i]?, splitA (a :: r) md rs with | some (.own x), some (ds, is) => some (.lst x :: ds, i :: is) | _, _ => none := rfl
theorem q_po_nil {ρ : En} : putO ρ [] [] = some ρ := rfl
theorem q_po_cons {a : Sl} {r : En} {i : Nat} {is : List Nat} {x : List D} {xs : List (List D)} : putO (a :: r) (i :: is) (x :: xs) = if x.length ≤ lim then putO ((a :: r).set i (.own x)) is xs else none := rfl
theorem q_nd_nil : nodupB [] = true := rfl
theorem q_nd_1 {i : Nat} : nodupB [i] = true := by simp [nodupB]
theorem q_eq_ii {i j : Int} : eqO (.int i) (.int j) = some (decide (i = j)) := by show some (i == j) = _; by_cases h : i = j <;> simp [h]
theorem q_eq_bb {i j : Bool} : eqO (.bl i) (.bl j) = some (i == j) := rfl
theorem q_eq_ss {i j : List Nat} : eqO (.str i) (.str j) = some (decide (i = j)) := by show some (i == j) = _; by_cases h : i = j <;> simp [h]
theorem q_eq_nn : eqO .non .non = some true := rfl
theorem q_eq_is {i : Int} {j : List Nat} : eqO (.int i) (.str j) = some false := rfl
theorem q_eq_si {i : Int} {j : List Nat} : eqO (.str j) (.int i) = some false := rfl
theorem q_eq_sn {j : List Nat} : eqO (.str j) .non = some false := rfl
theorem q_eq_ns {j : List Nat} : eqO .non (.str j) = some false := rfl
theorem q_eq_in {i : Int} : eqO (.int i) .non = some false := rfl
theorem q_eq_ni {i : Int} : eqO .non (.int i) = some false := rfl
theorem q_lc_nil {ρ : En} {t : Tgt} {vs : List Nat} {b : EvF (Option D)} {acc : List D} : lcGo t vs b [] acc ρ = if acc.length ≤ lim then .ok acc ρ else .bad := rfl
theorem q_lc_cons {ρ : En} {t : Tgt} {vs : List Nat} {b : EvF (Option D)} {acc : List D} {x : D} {xs : List D} : lcGo t vs b (x :: xs) acc ρ = match bindT t x (wipeE ρ vs) with | none => .bad | some ρ1 => (match b ρ1 with | .ok o ρ2 => if freeE ρ2 vs && decide (acc.length < lim) then lcGo t vs b xs (acc ++ o.toList) (backE ρ ρ2 vs) else .bad | _ => .bad) := rfl
theorem q_wipe_1 {ρ : En} {i : Nat} : wipeE ρ [i] = ρ.set i .no := rfl
theorem q_back_1 {ρ ρ2 : En} {i : Nat} : backE ρ ρ2 [i] = ρ2.set i (ρ.getD i .no) := rfl
theorem q_free_1 {a : Sl} {r : En} {i : Nat} : freeE (a :: r) [i] = frSl (a :: r)[i]? := Bool.and_true _
theorem q_at0 {α : Type} {x : α} {l : List α} : atI (x :: l) 0 = some x := by
  unfold atI ixN
  rw [if_pos (Int.le_refl 0), if_pos (by simp <;> omega)]
  rfl
theorem q_at1 {α : Type} {x y : α} {l : List α} : atI (x :: y :: l) 1 = some y := by
  unfold atI ixN
  rw [if_pos (by omega), if_pos (by simp <;> omega)]
  rfl
theorem q_at2 {α : Type} {x y z : α} {l : List α} : atI (x :: y :: z :: l) 2 = some z := by
  unfold atI ixN
  rw [if_pos (by omega), if_pos (by simp <;> omega)]
  rfl
theorem q_at3 {α : Type} {x y z u : α} {l : List α} : atI (x :: y :: z :: u :: l) 3 = some u := by
  unfold atI ixN
  rw [if_pos (by omega), if_pos (by simp <;> omega)]
  rfl
theorem q_eq_l0 : eqO (.lst []) (.lst []) = some true := rfl
theorem q_eq_t0 : eqO (.tup []) (.tup []) = some true := rfl
theorem q_sl_s {d : D} : sl (some d) = .val d := rfl
theorem q_fo_nil {ρ : En} {t : Tgt} {b : En → Out} : forGo t b [] ρ = .nx ρ := rfl
theorem q_xs_app {n : Nat} {ss ts : List S} : ∀ {ρ : En}, exSs n (ss ++ ts) ρ = (exSs n ss ρ).seq fun ρ => exSs n ts ρ := by
  induction ss with
  | nil => intro ρ; rfl
  | cons s ss ih =>
    intro ρ
    show (exS n s ρ).seq (fun ρ => exSs n (ss ++ ts) ρ) = ((exS n s ρ).seq fun ρ => exSs n ss ρ).seq fun ρ => exSs n ts ρ
    cases exS n s ρ <;> first | exact ih | rfl
theorem q_for_cons {ρ : En} {t : Tgt} {b : En → Out} {x : D} {xs : List D} : forGo t b (x :: xs) ρ = match bindT t x ρ with | none => .bad | some ρ => (match b ρ with | .nx ρ => forGo t b xs ρ | .cnt ρ => forGo t b xs ρ | .brk ρ => .nx ρ | o => o) := rfl
theorem q_whl_s {n : Nat} {t : EvF Bool} {b : En → Out} {ρ : En} : whlGo t b (n + 1) ρ = (t ρ).out fun k ρ => if k = true then (match b ρ with | .nx ρ => whlGo t b n ρ | .cnt ρ => whlGo t b n ρ | .brk ρ => .nx ρ | o => o) else .nx ρ := rfl
end Mini
end

section
set_option Elab.async false
set_option linter.all false
set_option maxRecDepth 100000
/-! P1: comprehensions whose turns leave the frame as it is. -/
namespace Mini
open PySem L2
theorem set_getD {α : Type} {d : α} : ∀ {l : List α} {i : Nat}, l.set i (l.getD i d) = l
  | [], _ => by simp
  | x :: l, 0 => rfl
  | x :: l, i + 1 => by
    show x :: l.set i (l.getD i d) = x :: l
    rw [set_getD]
theorem set_set' {α : Type} {a b : α} : ∀ {l : List α} {i : Nat}, (l.set i a).set i b = l.set i b
  | [], _ => rfl
  | x :: l, 0 => rfl
  | x :: l, i + 1 => by
    show x :: (l.set i a).set i b = x :: l.set i b
    rw [set_set']
/-- [g(x) for x in xs if f(x)] -/
theorem lc_pure {i : Nat} {ρ : En} {s : Sl} {ifs : EvF Bool} {elt : EvF Rv} {f : D → Bool} {g : D → D} (hi : ρ[i]? = some s) : ∀ {xs acc : List D},
    (∀ x ∈ xs, ifs (ρ.set i (.val x)) = .ok (f x) (ρ.set i (.val x))) → (∀ x ∈ xs, f x = true → elt (ρ.set i (.val x)) = .ok (.d (g x)) (ρ.set i (.val x))) → acc.length + xs.length ≤ lim →
    lcGo (.n i) [i] (lcBody ifs elt) xs acc ρ = .ok (acc ++ (xs.filter f).map g) ρ
  | [], acc, _, _, hz => by
    rw [q_lc_nil, if_pos (by simpa using hz)]
    simp
  | x :: xs, acc, h1, h2, hz => by
    rw [List.length_cons] at hz
    have hlt : i < ρ.length := (List.getElem?_eq_some_iff.mp hi).1
    have eb : bindT (.n i) x (wipeE ρ [i]) = some (ρ.set i (.val x)) := by
      show setV (ρ.set i .no) i x = _
      unfold setV
      rw [List.getElem?_set_self hlt]
      simp only []
      rw [set_set']
    have ef : freeE (ρ.set i (.val x)) [i] = true := by
      show ((match (ρ.set i (Sl.val x))[i]? with
        | some (.own _) => false
        | some (.exn _ _) => false
        | _ => true) && true) = true
      rw [List.getElem?_set_self hlt]
      rfl
    have ek : backE ρ (ρ.set i (.val x)) [i] = ρ := by
      show (ρ.set i (.val x)).set i (ρ.getD i .no) = ρ
      rw [set_set', set_getD]
    have hx := h1 x (List.mem_cons_self ..)
    have ih := fun (a : List D) (ha : a.length + xs.length ≤ lim) => lc_pure (acc := a) hi (fun y hy => h1 y (List.mem_cons_of_mem _ hy)) (fun y hy => h2 y (List.mem_cons_of_mem _ hy)) ha
    have hd : decide (acc.length < lim) = true := decide_eq_true (by omega)
    rw [q_lc_cons, eb]
    simp only []
    cases hf : f x with
    | false =>
      have e : lcBody ifs elt (ρ.set i (.val x)) = .ok none (ρ.set i (.val x)) := by
        unfold lcBody
        rw [hx, q_bind_ok, hf, if_neg Bool.false_ne_true]
      rw [e]
      simp only []
      rw [ef, hd, if_pos (show (true && true) = true from rfl), ek, ih _ (by simp; omega)]
      simp [hf]
    | true =>
      have e : lcBody ifs elt (ρ.set i (.val x)) = .ok (some (g x)) (ρ.set i (.val x)) := by
        unfold lcBody
        rw [hx, q_bind_ok, hf, if_pos rfl, h2 x (List.mem_cons_self ..) hf, q_bind_ok]
        rfl
      rw [e]
      simp only []
      rw [ef, hd, if_pos (show (true && true) = true from rfl), ek, ih _ (by simp; omega)]
      simp [hf]
/-- [g(x) for x in xs] -/
theorem lc_map {i : Nat} {ρ : En} {s : Sl} {elt : EvF Rv} {g : D → D} (hi : ρ[i]? = some s) {xs : List D} (h : ∀ x ∈ xs, elt (ρ.set i (.val x)) = .ok (.d (g x)) (ρ.set i (.val x))) (hz : xs.length ≤ lim) :
    lcGo (.n i) [i] (lcBody (evTs []) elt) xs [] ρ = .ok (xs.map g) ρ := by
  have := lc_pure (f := fun _ => true) (ifs := evTs []) (acc := []) hi (fun x _ => rfl) (fun x hx _ => h x hx) (by simpa using hz)
  rw [this, List.nil_append]
  congr 2
  exact List.filter_eq_self.mpr fun _ _ => rfl
end Mini
end

section
set_option Elab.async false
set_option linter.all false
set_option maxRecDepth 100000
set_option maxHeartbeats 0
namespace K05
open PySem L2 Mini
abbrev g_NUMBER_LIMIT : D := .int 1000000
abbrev g_TEXT_LIMIT : D := .int 30
abbrev g_LIST_LIMIT : D := .int 12
abbrev g_TEXT_CHARACTERS : D := .str [32, 48, 49, 50, 51, 52, 53, 54, 55, 56, 57, 97, 98, 99, 100, 101, 102, 103, 104, 105, 106, 107, 108, 109, 110, 111, 112, 113, 114, 115, 116, 117, 118, 119, 120, 121, 122]
abbrev g_DIGITS : D := .str [48, 49, 50, 51, 52, 53, 54, 55, 56, 57]
abbrev g_COMMUTATIVE : D := .tup [.str [97, 100, 100], .str [98, 111, 116, 104], .str [101, 105, 116, 104, 101, 114], .str [101, 113, 117, 97, 108], .str [109, 97, 120], .str [109, 105, 110], .str [109, 117, 108], .str [115, 97, 109, 101, 95, 108, 105, 115, 116], .str [115, 97, 109, 101, 95, 116, 101, 120, 116], .str [122, 105, 112, 95, 97, 100, 100]]
def u_COMMUTATIVE : List (List Nat) := [[97, 100, 100], [98, 111, 116, 104], [101, 105, 116, 104, 101, 114], [101, 113, 117, 97, 108], [109, 97, 120], [109, 105, 110], [109, 117, 108], [115, 97, 109, 101, 95, 108, 105, 115, 116], [115, 97, 109, 101, 95, 116, 101, 120, 116], [122, 105, 112, 95, 97, 100, 100]]
def t_SIGNATURES : List (List Nat × D) := [([97, 98, 115], .tup [.str [110, 117, 109, 98, 101, 114], .str [110, 117, 109, 98, 101, 114]]), ([97, 100, 100], .tup [.str [110, 117, 109, 98, 101, 114], .str [110, 117, 109, 98, 101, 114], .str [110, 117, 109, 98, 101, 114]]), ([97, 100, 100, 95, 101, 97, 99, 104], .tup [.str [108, 105, 115, 116], .str [110, 117, 109, 98, 101, 114], .str [108, 105, 115, 116]]), ([97, 112, 112, 101, 110, 100], .tup [.str [108, 105, 115, 116], .str [110, 117, 109, 98, 101, 114], .str [108, 105, 115, 116]]), ([97, 116], .tup [.str [108, 105, 115, 116], .str [110, 117, 109, 98, 101, 114], .str [110, 117, 109, 98, 101, 114]]), ([98, 111, 116, 104], .tup [.str [116, 114, 117, 116, 104], .str [116, 114, 117, 116, 104], .str [116, 114, 117, 116, 104]]), ([99, 104, 111, 111, 115, 101, 95, 108, 105, 115, 116], .tup [.str [116, 114, 117, 116, 104], .str [108, 105, 115, 116], .str [108, 105, 115, 116], .str [108, 105, 115, 116]]), ([99, 104, 111, 111, 115, 101, 95, 110, 117, 109, 98, 101, 114], .tup [.str [116, 114, 117, 116, 104], .str [110, 117, 109, 98, 101, 114], .str [110, 117, 109, 98, 101, 114], .str [110, 117, 109, 98, 101, 114]]), ([99, 104, 111, 111, 115, 101, 95, 116, 101, 120, 116], .tup [.str [116, 114, 117, 116, 104], .str [116, 101, 120, 116], .str [116, 101, 120, 116], .str [116, 101, 120, 116]]), ([99, 111, 110, 99, 97, 116], .tup [.str [116, 101, 120, 116], .str [116, 101, 120, 116], .str [116, 101, 120, 116]]), ([99, 111, 110, 116, 97, 105, 110, 115], .tup [.str [116, 101, 120, 116], .str [116, 101, 120, 116], .str [116, 114, 117, 116, 104]]), ([99, 111, 117, 110, 116, 95, 111, 102], .tup [.str [108, 105, 115, 116], .str [110, 117, 109, 98, 101, 114], .str [110, 117, 109, 98, 101, 114]]), ([100, 105, 115, 116, 105, 110, 99, 116], .tup [.str [108, 105, 115, 116], .str [108, 105, 115, 116]]), ([100, 105, 118, 105, 100, 101], .tup [.str [110, 117, 109, 98, 101, 114], .str [110, 117, 109, 98, 101, 114], .str [110, 117, 109, 98, 101, 114]]), ([100, 111, 117, 98, 108, 101], .tup [.str [110, 117, 109, 98, 101, 114], .str [110, 117, 109, 98, 101, 114]]), ([100, 114, 111, 112], .tup [.str [108, 105, 115, 116], .str [110, 117, 109, 98, 101, 114], .str [108, 105, 115, 116]]), ([101, 105, 116, 104, 101, 114], .tup [.str [116, 114, 117, 116, 104], .str [116, 114, 117, 116, 104], .str [116, 114, 117, 116, 104]]), ([101, 113, 117, 97, 108], .tup [.str [110, 117, 109, 98, 101, 114], .str [110, 117, 109, 98, 101, 114], .str [116, 114, 117, 116, 104]]), ([102, 105, 114, 115, 116], .tup [.str [108, 105, 115, 116], .str [110, 117, 109, 98, 101, 114]]), ([103, 114, 101, 97, 116, 101, 115, 116], .tup [.str [108, 105, 115, 116], .str [110, 117, 109, 98, 101, 114]]), ([104, 97, 108, 102], .tup [.str [110, 117, 109, 98, 101, 114], .str [110, 117, 109, 98, 101, 114]]), ([105, 115, 95, 101, 109, 112, 116, 121], .tup [.str [108, 105, 115, 116], .str [116, 114, 117, 116, 104]]), ([105, 115, 95, 101, 118, 101, 110], .tup [.str [110, 117, 109, 98, 101, 114], .str [116, 114, 117, 116, 104]]), ([106, 111, 105, 110], .tup [.str [108, 105, 115, 116], .str [108, 105, 115, 116], .str [108, 105, 115, 116]]), ([107, 101, 101, 112, 95, 97, 98, 111, 118, 101], .tup [.str [108, 105, 115, 116], .str [110, 117, 109, 98, 101, 114], .str [108, 105, 115, 116]]), ([107, 101, 101, 112, 95, 101, 118, 101, 110], .tup [.str [108, 105, 115, 116], .str [108, 105, 115, 116]]), ([108, 97, 115, 116], .tup [.str [108, 105, 115, 116], .str [110, 117, 109, 98, 101, 114]]), ([108, 101, 97, 115, 116], .tup [.str [108, 105, 115, 116], .str [110, 117, 109, 98, 101, 114]]), ([108, 101, 110, 103, 116, 104], .tup [.str [116, 101, 120, 116], .str [110, 117, 109, 98, 101, 114]]), ([108, 101, 115, 115], .tup [.str [110, 117, 109, 98, 101, 114], .str [110, 117, 109, 98, 101, 114], .str [116, 114, 117, 116, 104]]), ([109, 97, 120], .tup [.str [110, 117, 109, 98, 101, 114], .str [110, 117, 109, 98, 101, 114], .str [110, 117, 109, 98, 101, 114]]), ([109, 105, 110], .tup [.str [110, 117, 109, 98, 101, 114], .str [110, 117, 109, 98, 101, 114], .str [110, 117, 109, 98, 101, 114]]), ([109, 111, 100], .tup [.str [110, 117, 109, 98, 101, 114], .str [110, 117, 109, 98, 101, 114], .str [110, 117, 109, 98, 101, 114]]), ([109, 117, 108], .tup [.str [110, 117, 109, 98, 101, 114], .str [110, 117, 109, 98, 101, 114], .str [110, 117, 109, 98, 101, 114]]), ([110, 101, 103], .tup [.str [110, 117, 109, 98, 101, 114], .str [110, 117, 109, 98, 101, 114]]), ([110, 101, 103, 97, 116, 101], .tup [.str [116, 114, 117, 116, 104], .str [116, 114, 117, 116, 104]]), ([110, 117, 109, 98, 101, 114, 95, 116, 101, 120, 116], .tup [.str [110, 117, 109, 98, 101, 114], .str [116, 101, 120, 116]]), ([112, 114, 101, 112, 101, 110, 100], .tup [.str [110, 117, 109, 98, 101, 114], .str [108, 105, 115, 116], .str [108, 105, 115, 116]]), ([112, 114, 111, 100, 117, 99, 116], .tup [.str [108, 105, 115, 116], .str [110, 117, 109, 98, 101, 114]]), ([114, 101, 112, 101, 97, 116], .tup [.str [116, 101, 120, 116], .str [110, 117, 109, 98, 101, 114], .str [116, 101, 120, 116]]), ([114, 101, 115, 116], .tup [.str [108, 105, 115, 116], .str [108, 105, 115, 116]]), ([114, 101, 118, 101, 114, 115, 101], .tup [.str [108, 105, 115, 116], .str [108, 105, 115, 116]]), ([114, 101, 118, 101, 114, 115, 101, 95, 116, 101, 120, 116], .tup [.str [116, 101, 120, 116], .str [116, 101, 120, 116]]), ([114, 117, 110, 110, 105, 110, 103], .tup [.str [108, 105, 115, 116], .str [108, 105, 115, 116]]), ([115, 97, 109, 101, 95, 108, 105, 115, 116], .tup [.str [108, 105, 115, 116], .str [108, 105, 115, 116], .str [116, 114, 117, 116, 104]]), ([115, 97, 109, 101, 95, 116, 101, 120, 116], .tup [.str [116, 101, 120, 116], .str [116, 101, 120, 116], .str [116, 114, 117, 116, 104]]), ([115, 105, 122, 101], .tup [.str [108, 105, 115, 116], .str [110, 117, 109, 98, 101, 114]]), ([115, 107, 105, 112], .tup [.str [116, 101, 120, 116], .str [110, 117, 109, 98, 101, 114], .str [116, 101, 120, 116]]), ([115, 111, 114, 116], .tup [.str [108, 105, 115, 116], .str [108, 105, 115, 116]]), ([115, 116, 97, 114, 116], .tup [.str [116, 101, 120, 116], .str [110, 117, 109, 98, 101, 114], .str [116, 101, 120, 116]]), ([115, 117, 98], .tup [.str [110, 117, 109, 98, 101, 114], .str [110, 117, 109, 98, 101, 114], .str [110, 117, 109, 98, 101, 114]]), ([115, 117, 109], .tup [.str [108, 105, 115, 116], .str [110, 117, 109, 98, 101, 114]]), ([116, 97, 107, 101], .tup [.str [108, 105, 115, 116], .str [110, 117, 109, 98, 101, 114], .str [108, 105, 115, 116]]), ([116, 101, 120, 116, 95, 110, 117, 109, 98, 101, 114], .tup [.str [116, 101, 120, 116], .str [110, 117, 109, 98, 101, 114]]), ([117, 112, 95, 116, 111], .tup [.str [110, 117, 109, 98, 101, 114], .str [108, 105, 115, 116]]), ([119, 111, 114, 100, 115], .tup [.str [116, 101, 120, 116], .str [110, 117, 109, 98, 101, 114]]), ([122, 105, 112, 95, 97, 100, 100], .tup [.str [108, 105, 115, 116], .str [108, 105, 115, 116], .str [108, 105, 115, 116]])]
def y_SIGNATURES : List (List Nat) := [[97, 98, 115], [97, 100, 100], [97, 100, 100, 95, 101, 97, 99, 104], [97, 112, 112, 101, 110, 100], [97, 116], [98, 111, 116, 104], [99, 104, 111, 111, 115, 101, 95, 108, 105, 115, 116], [99, 104, 111, 111, 115, 101, 95, 110, 117, 109, 98, 101, 114], [99, 104, 111, 111, 115, 101, 95, 116, 101, 120, 116], [99, 111, 110, 99, 97, 116], [99, 111, 110, 116, 97, 105, 110, 115], [99, 111, 117, 110, 116, 95, 111, 102], [100, 105, 115, 116, 105, 110, 99, 116], [100, 105, 118, 105, 100, 101], [100, 111, 117, 98, 108, 101], [100, 114, 111, 112], [101, 105, 116, 104, 101, 114], [101, 113, 117, 97, 108], [102, 105, 114, 115, 116], [103, 114, 101, 97, 116, 101, 115, 116], [104, 97, 108, 102], [105, 115, 95, 101, 109, 112, 116, 121], [105, 115, 95, 101, 118, 101, 110], [106, 111, 105, 110], [107, 101, 101, 112, 95, 97, 98, 111, 118, 101], [107, 101, 101, 112, 95, 101, 118, 101, 110], [108, 97, 115, 116], [108, 101, 97, 115, 116], [108, 101, 110, 103, 116, 104], [108, 101, 115, 115], [109, 97, 120], [109, 105, 110], [109, 111, 100], [109, 117, 108], [110, 101, 103], [110, 101, 103, 97, 116, 101], [110, 117, 109, 98, 101, 114, 95, 116, 101, 120, 116], [112, 114, 101, 112, 101, 110, 100], [112, 114, 111, 100, 117, 99, 116], [114, 101, 112, 101, 97, 116], [114, 101, 115, 116], [114, 101, 118, 101, 114, 115, 101], [114, 101, 118, 101, 114, 115, 101, 95, 116, 101, 120, 116], [114, 117, 110, 110, 105, 110, 103], [115, 97, 109, 101, 95, 108, 105, 115, 116], [115, 97, 109, 101, 95, 116, 101, 120, 116], [115, 105, 122, 101], [115, 107, 105, 112], [115, 111, 114, 116], [115, 116, 97, 114, 116], [115, 117, 98], [115, 117, 109], [116, 97, 107, 101], [116, 101, 120, 116, 95, 110, 117, 109, 98, 101, 114], [117, 112, 95, 116, 111], [119, 111, 114, 100, 115], [122, 105, 112, 95, 97, 100, 100]]

def N_distinct : List Str := ["numbers", "kept", "number"]
def l_distinct_1 : List S := [.ite (.cmp .notIn (.v 2) (.v 1))
    [.app 1 (.v 2)]
    []]
def b_distinct : List S := [.setN 1 (.lst []),
  .for (.n 2) (.it (.v 0)) l_distinct_1,
  .ret (.bi .tuple [.v 1])]
def f_distinct : CallF := ⟨"distinct", [false], false, runF 1000000 3 [false] false b_distinct⟩
theorem md_distinct : f_distinct.md = [false] := rfl

def N_product : List Str := ["numbers", "result", "number"]
def l_product_1 : List S := [.set 1 (.bin .mul (.v 1) (.v 2))]
def b_product : List S := [.set 1 (.c (.int 1)),
  .for (.n 2) (.it (.v 0)) l_product_1,
  .ret (.v 1)]
def f_product : CallF := ⟨"product", [false], false, runF 1000000 3 [false] false b_product⟩
theorem md_product : f_product.md = [false] := rfl

def N_running : List Str := ["numbers", "sums", "total", "number"]
def l_running_1 : List S := [.set 2 (.bin .add (.v 2) (.v 3)),
  .app 1 (.v 2)]
def b_running : List S := [.setN 1 (.lst []),
  .set 2 (.c (.int 0)),
  .for (.n 3) (.it (.v 0)) l_running_1,
  .ret (.bi .tuple [.v 1])]
def f_running : CallF := ⟨"running", [false], false, runF 1000000 4 [false] false b_running⟩
theorem md_running : f_running.md = [false] := rfl

def N_extreme : List Str := ["name", "numbers"]
def b_extreme : List S := [.ite (.cmp .eq (.bi .len [.v 1]) (.c (.int 0)))
    [.ret (.c (.non))]
    [],
  .ite (.cmp .eq (.v 0) (.c (.str [102, 105, 114, 115, 116])))
    [.ret (.ix (.v 1) (.c (.int 0)))]
    [],
  .ite (.cmp .eq (.v 0) (.c (.str [108, 97, 115, 116])))
    [.ret (.ix (.v 1) (.neg (.c (.int 1))))]
    [],
  .ite (.cmp .eq (.v 0) (.c (.str [103, 114, 101, 97, 116, 101, 115, 116])))
    [.ret (.bi .max1 [.v 1])]
    [],
  .ret (.bi .min1 [.v 1])]
def f_extreme : CallF := ⟨"extreme", [false, false], false, runF 1000000 2 [false, false] false b_extreme⟩
theorem md_extreme : f_extreme.md = [false, false] := rfl

def N_rest : List Str := ["numbers"]
def b_rest : List S := [.ite (.cmp .eq (.bi .len [.v 0]) (.c (.int 0)))
    [.ret (.c (.non))]
    [],
  .ret (.slLo (.v 0) (.c (.int 1)))]
def f_rest : CallF := ⟨"rest", [false], false, runF 1000000 1 [false] false b_rest⟩
theorem md_rest : f_rest.md = [false] := rfl

def N_item : List Str := ["numbers", "index"]
def b_item : List S := [.ite (.or [.cmp .lt (.v 1) (.c (.int 0)), .cmp .ge (.v 1) (.bi .len [.v 0])])
    [.ret (.c (.non))]
    [],
  .ret (.ix (.v 0) (.v 1))]
def f_item : CallF := ⟨"item", [false, false], false, runF 1000000 2 [false, false] false b_item⟩
theorem md_item : f_item.md = [false, false] := rfl

def N_apply_to_list : List Str := ["name", "numbers", "number"]
def e_apply_to_list_1 : List E := [.cmp .eq (.bin .mod (.bi .int [.v 2]) (.c (.int 2))) (.c (.int 0))]
def e_apply_to_list_2 : E := .v 2
def b_apply_to_list : List S := [.ite (.cmp .isIn (.v 0) (.tup [.c (.str [102, 105, 114, 115, 116]), .c (.str [108, 97, 115, 116]), .c (.str [103, 114, 101, 97, 116, 101, 115, 116]), .c (.str [108, 101, 97, 115, 116])]))
    [.ret (.call f_extreme [.v 0, .v 1])]
    [],
  .ite (.cmp .eq (.v 0) (.c (.str [100, 105, 115, 116, 105, 110, 99, 116])))
    [.ret (.call f_distinct [.v 1])]
    [],
  .ite (.cmp .eq (.v 0) (.c (.str [105, 115, 95, 101, 109, 112, 116, 121])))
    [.ret (.cmp .eq (.bi .len [.v 1]) (.c (.int 0)))]
    [],
  .ite (.cmp .eq (.v 0) (.c (.str [107, 101, 101, 112, 95, 101, 118, 101, 110])))
    [.ret (.bi .tuple [.lc (.n 2) [2] (.it (.v 1)) e_apply_to_list_1 e_apply_to_list_2])]
    [],
  .ite (.cmp .eq (.v 0) (.c (.str [112, 114, 111, 100, 117, 99, 116])))
    [.ret (.call f_product [.v 1])]
    [],
  .ite (.cmp .eq (.v 0) (.c (.str [114, 101, 115, 116])))
    [.ret (.call f_rest [.v 1])]
    [],
  .ite (.cmp .eq (.v 0) (.c (.str [114, 101, 118, 101, 114, 115, 101])))
    [.ret (.rev (.v 1))]
    [],
  .ite (.cmp .eq (.v 0) (.c (.str [114, 117, 110, 110, 105, 110, 103])))
    [.ret (.call f_running [.v 1])]
    [],
  .ite (.cmp .eq (.v 0) (.c (.str [115, 105, 122, 101])))
    [.ret (.bi .len [.v 1])]
    [],
  .ite (.cmp .eq (.v 0) (.c (.str [115, 111, 114, 116])))
    [.nev /- call sorted -/]
    [],
  .ret (.bi .sum [.v 1])]
def f_apply_to_list : CallF := ⟨"apply_to_list", [false, false], false, runF 1000000 3 [false, false] false b_apply_to_list⟩
theorem md_apply_to_list : f_apply_to_list.md = [false, false] := rfl

def N_apply_to_list_and_number : List Str := ["name", "numbers", "number", "one"]
def e_apply_to_list_and_number_1 : E := .bin .add (.v 3) (.v 2)
def e_apply_to_list_and_number_2 : List E := [.cmp .eq (.v 3) (.v 2)]
def e_apply_to_list_and_number_3 : E := .v 3
def e_apply_to_list_and_number_4 : List E := [.cmp .gt (.v 3) (.v 2)]
def e_apply_to_list_and_number_5 : E := .v 3
def b_apply_to_list_and_number : List S := [.ite (.cmp .eq (.v 0) (.c (.str [97, 100, 100, 95, 101, 97, 99, 104])))
    [.ret (.bi .tuple [.lc (.n 3) [3] (.it (.v 1)) [] e_apply_to_list_and_number_1])]
    [],
  .ite (.cmp .eq (.v 0) (.c (.str [97, 112, 112, 101, 110, 100])))
    [.ret (.bin .add (.v 1) (.tup [.v 2]))]
    [],
  .ite (.cmp .eq (.v 0) (.c (.str [97, 116])))
    [.ret (.call f_item [.v 1, .v 2])]
    [],
  .ite (.cmp .eq (.v 0) (.c (.str [99, 111, 117, 110, 116, 95, 111, 102])))
    [.ret (.bi .len [.lc (.n 3) [3] (.it (.v 1)) e_apply_to_list_and_number_2 e_apply_to_list_and_number_3])]
    [],
  .ite (.cmp .eq (.v 0) (.c (.str [100, 114, 111, 112])))
    [.ret (.slLo (.v 1) (.bi .max2 [.c (.int 0), .v 2]))]
    [],
  .ite (.cmp .eq (.v 0) (.c (.str [107, 101, 101, 112, 95, 97, 98, 111, 118, 101])))
    [.ret (.bi .tuple [.lc (.n 3) [3] (.it (.v 1)) e_apply_to_list_and_number_4 e_apply_to_list_and_number_5])]
    [],
  .ret (.slHi (.v 1) (.bi .max2 [.c (.int 0), .v 2]))]
def f_apply_to_list_and_number : CallF := ⟨"apply_to_list_and_number", [false, false, false], false, runF 1000000 4 [false, false, false] false b_apply_to_list_and_number⟩
theorem md_apply_to_list_and_number : f_apply_to_list_and_number.md = [false, false, false] := rfl

def N_apply_to_lists : List Str := ["name", "first", "second", "k"]
def e_apply_to_lists_1 : E := .bin .add (.ix (.v 1) (.v 3)) (.ix (.v 2) (.v 3))
def b_apply_to_lists : List S := [.ite (.cmp .eq (.v 0) (.c (.str [106, 111, 105, 110])))
    [.ret (.bin .add (.v 1) (.v 2))]
    [],
  .ite (.cmp .eq (.v 0) (.c (.str [115, 97, 109, 101, 95, 108, 105, 115, 116])))
    [.ret (.cmp .eq (.v 1) (.v 2))]
    [],
  .ret (.bi .tuple [.lc (.n 3) [3] (.r1 (.bi .min2 [.bi .len [.v 1], .bi .len [.v 2]])) [] e_apply_to_lists_1])]
def f_apply_to_lists : CallF := ⟨"apply_to_lists", [false, false, false], false, runF 1000000 4 [false, false, false] false b_apply_to_lists⟩
theorem md_apply_to_lists : f_apply_to_lists.md = [false, false, false] := rfl

def N_floor_quotient : List Str := ["first", "second"]
def b_floor_quotient : List S := [.ite (.cmp .eq (.v 1) (.c (.int 0)))
    [.ret (.c (.non))]
    [],
  .ret (.bin .fdiv (.v 0) (.v 1))]
def f_floor_quotient : CallF := ⟨"floor_quotient", [false, false], false, runF 1000000 2 [false, false] false b_floor_quotient⟩
theorem md_floor_quotient : f_floor_quotient.md = [false, false] := rfl

def N_remainder : List Str := ["first", "second"]
def b_remainder : List S := [.ite (.cmp .eq (.v 1) (.c (.int 0)))
    [.ret (.c (.non))]
    [],
  .ret (.bin .sub (.v 0) (.bin .mul (.v 1) (.bin .fdiv (.v 0) (.v 1))))]
def f_remainder : CallF := ⟨"remainder", [false, false], false, runF 1000000 2 [false, false] false b_remainder⟩
theorem md_remainder : f_remainder.md = [false, false] := rfl

def N_digits_of : List Str := ["number"]
def b_digits_of : List S := [.ite (.cmp .lt (.v 0) (.c (.int 0)))
    [.ret (.c (.non))]
    [],
  .ret (.bi .str [.v 0])]
def f_digits_of : CallF := ⟨"digits_of", [false], false, runF 1000000 1 [false] false b_digits_of⟩
theorem md_digits_of : f_digits_of.md = [false] := rfl

def N_numbers_up_to : List Str := ["number", "k"]
def e_numbers_up_to_1 : E := .bin .add (.v 1) (.c (.int 1))
def b_numbers_up_to : List S := [.ite (.cmp .gt (.v 0) (.c (.int 12)))
    [.ret (.c (.non))]
    [],
  .ret (.bi .tuple [.lc (.n 1) [1] (.r1 (.bi .max2 [.c (.int 0), .v 0])) [] e_numbers_up_to_1])]
def f_numbers_up_to : CallF := ⟨"numbers_up_to", [false], false, runF 1000000 2 [false] false b_numbers_up_to⟩
theorem md_numbers_up_to : f_numbers_up_to.md = [false] := rfl

def N_apply_to_number : List Str := ["name", "number"]
def b_apply_to_number : List S := [.ite (.cmp .eq (.v 0) (.c (.str [97, 98, 115])))
    [.ret (.bi .abs [.v 1])]
    [],
  .ite (.cmp .eq (.v 0) (.c (.str [100, 111, 117, 98, 108, 101])))
    [.ret (.bin .mul (.c (.int 2)) (.v 1))]
    [],
  .ite (.cmp .eq (.v 0) (.c (.str [104, 97, 108, 102])))
    [.ret (.bin .fdiv (.v 1) (.c (.int 2)))]
    [],
  .ite (.cmp .eq (.v 0) (.c (.str [105, 115, 95, 101, 118, 101, 110])))
    [.ret (.cmp .eq (.bin .mod (.bi .int [.v 1]) (.c (.int 2))) (.c (.int 0)))]
    [],
  .ite (.cmp .eq (.v 0) (.c (.str [110, 101, 103])))
    [.ret (.neg (.v 1))]
    [],
  .ite (.cmp .eq (.v 0) (.c (.str [110, 117, 109, 98, 101, 114, 95, 116, 101, 120, 116])))
    [.ret (.call f_digits_of [.v 1])]
    [],
  .ret (.call f_numbers_up_to [.v 1])]
def f_apply_to_number : CallF := ⟨"apply_to_number", [false, false], false, runF 1000000 2 [false, false] false b_apply_to_number⟩
theorem md_apply_to_number : f_apply_to_number.md = [false, false] := rfl

def N_apply_to_numbers : List Str := ["name", "first", "second"]
def b_apply_to_numbers : List S := [.ite (.cmp .eq (.v 0) (.c (.str [97, 100, 100])))
    [.ret (.bin .add (.v 1) (.v 2))]
    [],
  .ite (.cmp .eq (.v 0) (.c (.str [100, 105, 118, 105, 100, 101])))
    [.ret (.call f_floor_quotient [.v 1, .v 2])]
    [],
  .ite (.cmp .eq (.v 0) (.c (.str [101, 113, 117, 97, 108])))
    [.ret (.cmp .eq (.v 1) (.v 2))]
    [],
  .ite (.cmp .eq (.v 0) (.c (.str [108, 101, 115, 115])))
    [.ret (.cmp .lt (.v 1) (.v 2))]
    [],
  .ite (.cmp .eq (.v 0) (.c (.str [109, 97, 120])))
    [.ret (.bi .max2 [.v 1, .v 2])]
    [],
  .ite (.cmp .eq (.v 0) (.c (.str [109, 105, 110])))
    [.ret (.bi .min2 [.v 1, .v 2])]
    [],
  .ite (.cmp .eq (.v 0) (.c (.str [109, 111, 100])))
    [.ret (.call f_remainder [.v 1, .v 2])]
    [],
  .ite (.cmp .eq (.v 0) (.c (.str [109, 117, 108])))
    [.ret (.bin .mul (.v 1) (.v 2))]
    [],
  .ret (.bin .sub (.v 1) (.v 2))]
def f_apply_to_numbers : CallF := ⟨"apply_to_numbers", [false, false, false], false, runF 1000000 3 [false, false, false] false b_apply_to_numbers⟩
theorem md_apply_to_numbers : f_apply_to_numbers.md = [false, false, false] := rfl

def N_apply_to_truths : List Str := ["name", "given"]
def b_apply_to_truths : List S := [.ite (.cmp .eq (.v 0) (.c (.str [98, 111, 116, 104])))
    [.ret (.and [.ix (.v 1) (.c (.int 0)), .ix (.v 1) (.c (.int 1))])]
    [],
  .ite (.cmp .eq (.v 0) (.c (.str [101, 105, 116, 104, 101, 114])))
    [.ret (.or [.ix (.v 1) (.c (.int 0)), .ix (.v 1) (.c (.int 1))])]
    [],
  .ret (.not (.ix (.v 1) (.c (.int 0))))]
def f_apply_to_truths : CallF := ⟨"apply_to_truths", [false, false], false, runF 1000000 2 [false, false] false b_apply_to_truths⟩
theorem md_apply_to_truths : f_apply_to_truths.md = [false, false] := rfl

def N_is_number : List Str := ["value"]
def b_is_number : List S := [.ret (.and [.isi [.int] (.v 0), .not (.isi [.bool] (.v 0)), .chn .le .le (.neg (.g "NUMBER_LIMIT" g_NUMBER_LIMIT)) (.v 0) (.g "NUMBER_LIMIT" g_NUMBER_LIMIT)])]
def f_is_number : CallF := ⟨"is_number", [false], false, runF 1000000 1 [false] false b_is_number⟩
theorem md_is_number : f_is_number.md = [false] := rfl

def N_is_text : List Str := ["value", "char"]
def e_is_text_1 : E := .cmp .isIn (.v 1) (.g "TEXT_CHARACTERS" g_TEXT_CHARACTERS)
def b_is_text : List S := [.ite (.or [.not (.isi [.str] (.v 0)), .cmp .gt (.bi .len [.v 0]) (.g "TEXT_LIMIT" g_TEXT_LIMIT)])
    [.ret (.c (.bl false))]
    [],
  .ret (.bi .all [.lc (.n 1) [1] (.it (.v 0)) [] e_is_text_1])]
def f_is_text : CallF := ⟨"is_text", [false], false, runF 1000000 2 [false] false b_is_text⟩
theorem md_is_text : f_is_text.md = [false] := rfl

def N_is_list : List Str := ["value", "one"]
def e_is_list_1 : E := .call f_is_number [.v 1]
def b_is_list : List S := [.ret (.and [.isi [.tup] (.v 0), .cmp .le (.bi .len [.v 0]) (.g "LIST_LIMIT" g_LIST_LIMIT), .bi .all [.lc (.n 1) [1] (.it (.v 0)) [] e_is_list_1]])]
def f_is_list : CallF := ⟨"is_list", [false], false, runF 1000000 2 [false] false b_is_list⟩
theorem md_is_list : f_is_list.md = [false] := rfl

def N_is_value : List Str := ["kind", "value"]
def b_is_value : List S := [.ite (.cmp .eq (.v 0) (.c (.str [110, 117, 109, 98, 101, 114])))
    [.ret (.call f_is_number [.v 1])]
    [],
  .ite (.cmp .eq (.v 0) (.c (.str [116, 114, 117, 116, 104])))
    [.ret (.isi [.bool] (.v 1))]
    [],
  .ite (.cmp .eq (.v 0) (.c (.str [116, 101, 120, 116])))
    [.ret (.call f_is_text [.v 1])]
    [],
  .ret (.call f_is_list [.v 1])]
def f_is_value : CallF := ⟨"is_value", [false, false], false, runF 1000000 2 [false, false] false b_is_value⟩
theorem md_is_value : f_is_value.md = [false, false] := rfl

def N_copies : List Str := ["text", "count"]
def b_copies : List S := [.ite (.or [.cmp .lt (.v 1) (.c (.int 0)), .cmp .gt (.bin .mul (.bi .len [.v 0]) (.v 1)) (.g "TEXT_LIMIT" g_TEXT_LIMIT)])
    [.ret (.c (.non))]
    [],
  .ite (.cmp .eq (.v 0) (.c (.str [])))
    [.ret (.c (.str []))]
    [],
  .ret (.bin .mul (.v 0) (.v 1))]
def f_copies : CallF := ⟨"copies", [false, false], false, runF 1000000 2 [false, false] false b_copies⟩
theorem md_copies : f_copies.md = [false, false] := rfl

def N_number_of : List Str := ["text", "char"]
def e_number_of_1 : E := .cmp .isIn (.v 1) (.g "DIGITS" g_DIGITS)
def b_number_of : List S := [.ite (.or [.cmp .eq (.v 0) (.c (.str [])), .not (.bi .all [.lc (.n 1) [1] (.it (.v 0)) [] e_number_of_1]), .and [.cmp .eq (.ix (.v 0) (.c (.int 0))) (.c (.str [48])), .cmp .ne (.v 0) (.c (.str [48]))]])
    [.ret (.c (.non))]
    [],
  .ret (.bi .int [.v 0])]
def f_number_of : CallF := ⟨"number_of", [false], false, runF 1000000 2 [false] false b_number_of⟩
theorem md_number_of : f_number_of.md = [false] := rfl

def N_apply_to_text : List Str := ["name", "text", "word"]
def e_apply_to_text_1 : List E := [.cmp .ne (.v 2) (.c (.str []))]
def e_apply_to_text_2 : E := .v 2
def b_apply_to_text : List S := [.ite (.cmp .eq (.v 0) (.c (.str [108, 101, 110, 103, 116, 104])))
    [.ret (.bi .len [.v 1])]
    [],
  .ite (.cmp .eq (.v 0) (.c (.str [114, 101, 118, 101, 114, 115, 101, 95, 116, 101, 120, 116])))
    [.ret (.rev (.v 1))]
    [],
  .ite (.cmp .eq (.v 0) (.c (.str [116, 101, 120, 116, 95, 110, 117, 109, 98, 101, 114])))
    [.ret (.call f_number_of [.v 1])]
    [],
  .ret (.bi .len [.lc (.n 2) [2] (.it (.me .split (.v 1) [.c (.str [32])])) e_apply_to_text_1 e_apply_to_text_2])]
def f_apply_to_text : CallF := ⟨"apply_to_text", [false, false], false, runF 1000000 3 [false, false] false b_apply_to_text⟩
theorem md_apply_to_text : f_apply_to_text.md = [false, false] := rfl

def N_apply_to_text_and_number : List Str := ["name", "text", "number"]
def b_apply_to_text_and_number : List S := [.ite (.cmp .eq (.v 0) (.c (.str [114, 101, 112, 101, 97, 116])))
    [.ret (.call f_copies [.v 1, .v 2])]
    [],
  .ite (.cmp .eq (.v 0) (.c (.str [115, 107, 105, 112])))
    [.ret (.slLo (.v 1) (.bi .max2 [.c (.int 0), .v 2]))]
    [],
  .ret (.slHi (.v 1) (.bi .max2 [.c (.int 0), .v 2]))]
def f_apply_to_text_and_number : CallF := ⟨"apply_to_text_and_number", [false, false, false], false, runF 1000000 3 [false, false, false] false b_apply_to_text_and_number⟩
theorem md_apply_to_text_and_number : f_apply_to_text_and_number.md = [false, false, false] := rfl

def N_apply_to_texts : List Str := ["name", "first", "second"]
def b_apply_to_texts : List S := [.ite (.cmp .eq (.v 0) (.c (.str [99, 111, 110, 99, 97, 116])))
    [.ret (.bin .add (.v 1) (.v 2))]
    [],
  .ite (.cmp .eq (.v 0) (.c (.str [99, 111, 110, 116, 97, 105, 110, 115])))
    [.ret (.cmp .isIn (.v 2) (.v 1))]
    [],
  .ret (.cmp .eq (.v 1) (.v 2))]
def f_apply_to_texts : CallF := ⟨"apply_to_texts", [false, false, false], false, runF 1000000 3 [false, false, false] false b_apply_to_texts⟩
theorem md_apply_to_texts : f_apply_to_texts.md = [false, false, false] := rfl

def N_names : List Str := []
def b_names : List S := [.ret (.gsd "SIGNATURES" y_SIGNATURES)]
def f_names : CallF := ⟨"names", [], false, runF 1000000 0 [] false b_names⟩
theorem md_names : f_names.md = [] := rfl

def N_signature : List Str := ["name"]
def b_signature : List S := [.ite (.gin true "SIGNATURES" t_SIGNATURES (.v 0))
    [.raise 0 "NotFound" (.v 0)]
    [],
  .ret (.gix "SIGNATURES" t_SIGNATURES (.v 0))]
def f_signature : CallF := ⟨"signature", [false], false, runF 1000000 1 [false] false b_signature⟩
theorem md_signature : f_signature.md = [false] := rfl

def N_argument_kinds : List Str := ["name"]
def b_argument_kinds : List S := [.ret (.bi .list [.slHi (.call f_signature [.v 0]) (.neg (.c (.int 1)))])]
def f_argument_kinds : CallF := ⟨"argument_kinds", [false], false, runF 1000000 1 [false] false b_argument_kinds⟩
theorem md_argument_kinds : f_argument_kinds.md = [false] := rfl

def N_result_kind : List Str := ["name"]
def b_result_kind : List S := [.ret (.ix (.call f_signature [.v 0]) (.neg (.c (.int 1))))]
def f_result_kind : CallF := ⟨"result_kind", [false], false, runF 1000000 1 [false] false b_result_kind⟩
theorem md_result_kind : f_result_kind.md = [false] := rfl

def N_is_commutative : List Str := ["name"]
def b_is_commutative : List S := [.exp (.call f_signature [.v 0]),
  .ret (.cmp .isIn (.v 0) (.g "COMMUTATIVE" g_COMMUTATIVE))]
def f_is_commutative : CallF := ⟨"is_commutative", [false], false, runF 1000000 1 [false] false b_is_commutative⟩
theorem md_is_commutative : f_is_commutative.md = [false] := rfl

def N_choose : List Str := ["given"]
def b_choose : List S := [.ite (.cmp .is (.ix (.v 0) (.c (.int 0))) (.c (.non)))
    [.ret (.c (.non))]
    [],
  .ite (.ix (.v 0) (.c (.int 0)))
    [.ret (.ix (.v 0) (.c (.int 1)))]
    [],
  .ret (.ix (.v 0) (.c (.int 2)))]
def f_choose : CallF := ⟨"choose", [false], false, runF 1000000 1 [false] false b_choose⟩
theorem md_choose : f_choose.md = [false] := rfl

def N_described : List Str := ["name", "kinds", "given"]
def b_described : List S := [.ite (.cmp .eq (.ix (.v 1) (.c (.int 0))) (.c (.str [116, 114, 117, 116, 104])))
    [.ret (.call f_apply_to_truths [.v 0, .v 2])]
    [],
  .ite (.cmp .eq (.bi .len [.v 1]) (.c (.int 1)))
    [.ite (.cmp .eq (.ix (.v 1) (.c (.int 0))) (.c (.str [110, 117, 109, 98, 101, 114])))
        [.ret (.call f_apply_to_number [.v 0, .ix (.v 2) (.c (.int 0))])]
        [],
      .ite (.cmp .eq (.ix (.v 1) (.c (.int 0))) (.c (.str [116, 101, 120, 116])))
        [.ret (.call f_apply_to_text [.v 0, .ix (.v 2) (.c (.int 0))])]
        [],
      .ret (.call f_apply_to_list [.v 0, .ix (.v 2) (.c (.int 0))])]
    [],
  .ite (.cmp .eq (.v 0) (.c (.str [112, 114, 101, 112, 101, 110, 100])))
    [.ret (.bin .add (.tup [.ix (.v 2) (.c (.int 0))]) (.ix (.v 2) (.c (.int 1))))]
    [],
  .ite (.cmp .eq (.ix (.v 1) (.c (.int 0))) (.c (.str [110, 117, 109, 98, 101, 114])))
    [.ret (.call f_apply_to_numbers [.v 0, .ix (.v 2) (.c (.int 0)), .ix (.v 2) (.c (.int 1))])]
    [],
  .ite (.and [.cmp .eq (.ix (.v 1) (.c (.int 0))) (.c (.str [116, 101, 120, 116])), .cmp .eq (.ix (.v 1) (.c (.int 1))) (.c (.str [116, 101, 120, 116]))])
    [.ret (.call f_apply_to_texts [.v 0, .ix (.v 2) (.c (.int 0)), .ix (.v 2) (.c (.int 1))])]
    [],
  .ite (.cmp .eq (.ix (.v 1) (.c (.int 0))) (.c (.str [116, 101, 120, 116])))
    [.ret (.call f_apply_to_text_and_number [.v 0, .ix (.v 2) (.c (.int 0)), .ix (.v 2) (.c (.int 1))])]
    [],
  .ite (.cmp .eq (.ix (.v 1) (.c (.int 1))) (.c (.str [108, 105, 115, 116])))
    [.ret (.call f_apply_to_lists [.v 0, .ix (.v 2) (.c (.int 0)), .ix (.v 2) (.c (.int 1))])]
    [],
  .ret (.call f_apply_to_list_and_number [.v 0, .ix (.v 2) (.c (.int 0)), .ix (.v 2) (.c (.int 1))])]
def f_described : CallF := ⟨"described", [false, false, false], false, runF 1000000 3 [false, false, false] false b_described⟩
theorem md_described : f_described.md = [false, false, false] := rfl

def N_apply : List Str := ["name", "outcomes", "kinds", "given", "result", "one"]
def e_apply_1 : E := .cmp .is (.v 5) (.c (.non))
def b_apply : List S := [.set 2 (.call f_signature [.v 0]),
  .set 3 (.bi .list [.v 1]),
  .ite (.cmp .eq (.bi .len [.v 3]) (.c (.int 3)))
    [.ret (.call f_choose [.v 3])]
    [],
  .ite (.bi .any [.lc (.n 5) [5] (.it (.v 3)) [] e_apply_1])
    [.ret (.c (.non))]
    [],
  .set 4 (.call f_described [.v 0, .slHi (.v 2) (.neg (.c (.int 1))), .v 3]),
  .ite (.not (.call f_is_value [.ix (.v 2) (.neg (.c (.int 1))), .v 4]))
    [.ret (.c (.non))]
    [],
  .ret (.v 4)]
def f_apply : CallF := ⟨"apply", [false, false], false, runF 1000000 6 [false, false] false b_apply⟩
theorem md_apply : f_apply.md = [false, false] := rfl

def N__law_cell : List Str := ["_law_script", "_law_k"]
def b__law_cell : List S := [.ite (.cmp .lt (.v 1) (.bi .len [.v 0]))
    [.ret (.bi .int [.ix (.v 0) (.v 1)])]
    [],
  .ret (.c (.int 0))]
def f__law_cell : CallF := ⟨"_law_cell", [false, false], false, runF 1000000 2 [false, false] false b__law_cell⟩
theorem md__law_cell : f__law_cell.md = [false, false] := rfl

def N__law_draws : List Str := ["_law_cell_here", "_law_many", "_law_limit", "_law_draws_here", "_law_rest", "_law_k", "_law_mixed"]
def l__law_draws_1 : List S := [.ite (.and [.cmp .ge (.bi .abs [.v 0]) (.bin .pow (.c (.int 10)) (.c (.int 18))), .cmp .gt (.v 4) (.c (.int 0))])
    [.app 3 (.bin .mod (.bi .int [.v 4]) (.v 2)),
      .set 4 (.bin .fdiv (.v 4) (.v 2))]
    [.set 6 (.bin .mod (.bi .int [.bin .add (.bin .add (.bin .mul (.bi .abs [.v 0]) (.c (.int 48271))) (.bin .mul (.v 5) (.c (.int 69621)))) (.c (.int 7))]) (.c (.int 2147483647))),
      .set 6 (.bin .mod (.bi .int [.bin .add (.bin .add (.bin .mul (.v 6) (.c (.int 16807))) (.bin .fdiv (.v 6) (.c (.int 127)))) (.bin .mul (.v 5) (.c (.int 31)))]) (.c (.int 2147483629))),
      .app 3 (.bin .mod (.bin .fdiv (.v 6) (.c (.int 3))) (.v 2))]]
def b__law_draws : List S := [.setN 3 (.lst []),
  .set 4 (.bi .abs [.v 0]),
  .for (.n 5) (.r1 (.v 1)) l__law_draws_1,
  .ret (.v 3)]
def f__law_draws : CallF := ⟨"_law_draws", [false, false, false], false, runF 1000000 7 [false, false, false] false b__law_draws⟩
theorem md__law_draws : f__law_draws.md = [false, false, false] := rfl

def N__law_library : List Str := ["_law_rows", "_law_row"]
def e__law_library_1 : E := .me .split (.v 1) [.c (.str [32])]
def b__law_library : List S := [.set 0 (.lst [.c (.str [97, 98, 115, 32, 110, 32, 110]), .c (.str [97, 100, 100, 32, 110, 110, 32, 110]), .c (.str [97, 100, 100, 95, 101, 97, 99, 104, 32, 108, 110, 32, 108]), .c (.str [97, 112, 112, 101, 110, 100, 32, 108, 110, 32, 108]), .c (.str [97, 116, 32, 108, 110, 32, 110]), .c (.str [98, 111, 116, 104, 32, 116, 116, 32, 116]), .c (.str [99, 104, 111, 111, 115, 101, 95, 108, 105, 115, 116, 32, 116, 108, 108, 32, 108]), .c (.str [99, 104, 111, 111, 115, 101, 95, 110, 117, 109, 98, 101, 114, 32, 116, 110, 110, 32, 110]), .c (.str [99, 104, 111, 111, 115, 101, 95, 116, 101, 120, 116, 32, 116, 115, 115, 32, 115]), .c (.str [99, 111, 110, 99, 97, 116, 32, 115, 115, 32, 115]), .c (.str [99, 111, 110, 116, 97, 105, 110, 115, 32, 115, 115, 32, 116]), .c (.str [99, 111, 117, 110, 116, 95, 111, 102, 32, 108, 110, 32, 110]), .c (.str [100, 105, 115, 116, 105, 110, 99, 116, 32, 108, 32, 108]), .c (.str [100, 105, 118, 105, 100, 101, 32, 110, 110, 32, 110]), .c (.str [100, 111, 117, 98, 108, 101, 32, 110, 32, 110]), .c (.str [100, 114, 111, 112, 32, 108, 110, 32, 108]), .c (.str [101, 105, 116, 104, 101, 114, 32, 116, 116, 32, 116]), .c (.str [101, 113, 117, 97, 108, 32, 110, 110, 32, 116]), .c (.str [102, 105, 114, 115, 116, 32, 108, 32, 110]), .c (.str [103, 114, 101, 97, 116, 101, 115, 116, 32, 108, 32, 110]), .c (.str [104, 97, 108, 102, 32, 110, 32, 110]), .c (.str [105, 115, 95, 101, 109, 112, 116, 121, 32, 108, 32, 116]), .c (.str [105, 115, 95, 101, 118, 101, 110, 32, 110, 32, 116]), .c (.str [106, 111, 105, 110, 32, 108, 108, 32, 108]), .c (.str [107, 101, 101, 112, 95, 97, 98, 111, 118, 101, 32, 108, 110, 32, 108]), .c (.str [107, 101, 101, 112, 95, 101, 118, 101, 110, 32, 108, 32, 108]), .c (.str [108, 97, 115, 116, 32, 108, 32, 110]), .c (.str [108, 101, 97, 115, 116, 32, 108, 32, 110]), .c (.str [108, 101, 110, 103, 116, 104, 32, 115, 32, 110]), .c (.str [108, 101, 115, 115, 32, 110, 110, 32, 116]), .c (.str [109, 97, 120, 32, 110, 110, 32, 110]), .c (.str [109, 105, 110, 32, 110, 110, 32, 110]), .c (.str [109, 111, 100, 32, 110, 110, 32, 110]), .c (.str [109, 117, 108, 32, 110, 110, 32, 110]), .c (.str [110, 101, 103, 32, 110, 32, 110]), .c (.str [110, 101, 103, 97, 116, 101, 32, 116, 32, 116]), .c (.str [110, 117, 109, 98, 101, 114, 95, 116, 101, 120, 116, 32, 110, 32, 115]), .c (.str [112, 114, 101, 112, 101, 110, 100, 32, 110, 108, 32, 108]), .c (.str [112, 114, 111, 100, 117, 99, 116, 32, 108, 32, 110]), .c (.str [114, 101, 112, 101, 97, 116, 32, 115, 110, 32, 115]), .c (.str [114, 101, 115, 116, 32, 108, 32, 108]), .c (.str [114, 101, 118, 101, 114, 115, 101, 32, 108, 32, 108]), .c (.str [114, 101, 118, 101, 114, 115, 101, 95, 116, 101, 120, 116, 32, 115, 32, 115]), .c (.str [114, 117, 110, 110, 105, 110, 103, 32, 108, 32, 108]), .c (.str [115, 97, 109, 101, 95, 108, 105, 115, 116, 32, 108, 108, 32, 116]), .c (.str [115, 97, 109, 101, 95, 116, 101, 120, 116, 32, 115, 115, 32, 116]), .c (.str [115, 105, 122, 101, 32, 108, 32, 110]), .c (.str [115, 107, 105, 112, 32, 115, 110, 32, 115]), .c (.str [115, 111, 114, 116, 32, 108, 32, 108]), .c (.str [115, 116, 97, 114, 116, 32, 115, 110, 32, 115]), .c (.str [115, 117, 98, 32, 110, 110, 32, 110]), .c (.str [115, 117, 109, 32, 108, 32, 110]), .c (.str [116, 97, 107, 101, 32, 108, 110, 32, 108]), .c (.str [116, 101, 120, 116, 95, 110, 117, 109, 98, 101, 114, 32, 115, 32, 110]), .c (.str [117, 112, 95, 116, 111, 32, 110, 32, 108]), .c (.str [119, 111, 114, 100, 115, 32, 115, 32, 110]), .c (.str [122, 105, 112, 95, 97, 100, 100, 32, 108, 108, 32, 108])]),
  .ret (.lc (.n 1) [1] (.it (.v 0)) [] e__law_library_1)]
def f__law_library : CallF := ⟨"_law_library", [], false, runF 1000000 2 [] false b__law_library⟩
theorem md__law_library : f__law_library.md = [] := rfl

def N__law_kind : List Str := ["_law_letter"]
def b__law_kind : List S := [.ret (.ix (.lst [.c (.str [110, 117, 109, 98, 101, 114]), .c (.str [116, 114, 117, 116, 104]), .c (.str [116, 101, 120, 116]), .c (.str [108, 105, 115, 116])]) (.me .index (.c (.str [110, 116, 115, 108])) [.v 0]))]
def f__law_kind : CallF := ⟨"_law_kind", [false], false, runF 1000000 1 [false] false b__law_kind⟩
theorem md__law_kind : f__law_kind.md = [false] := rfl

def N__law_number : List Str := ["_law_cell_here", "_law_kind_here"]
def b__law_number : List S := [.set 1 (.bin .mod (.v 0) (.c (.int 4))),
  .ite (.cmp .eq (.v 1) (.c (.int 0)))
    [.ret (.bin .sub (.bin .mod (.bin .fdiv (.v 0) (.c (.int 4))) (.c (.int 7))) (.c (.int 3)))]
    [],
  .ite (.cmp .eq (.v 1) (.c (.int 1)))
    [.ret (.bin .sub (.bin .mod (.bin .fdiv (.v 0) (.c (.int 4))) (.c (.int 61))) (.c (.int 30)))]
    [],
  .ite (.cmp .eq (.v 1) (.c (.int 2)))
    [.ret (.ix (.lst [.c (.int 1000000), .neg (.c (.int 1000000)), .c (.int 999999), .c (.int 500000), .c (.int 500001), .neg (.c (.int 500000)), .c (.int 1000), .neg (.c (.int 1000))]) (.bin .mod (.bin .fdiv (.v 0) (.c (.int 4))) (.c (.int 8))))]
    [],
  .ret (.bin .sub (.bin .mod (.bin .fdiv (.v 0) (.c (.int 4))) (.c (.int 2000001))) (.c (.int 1000000)))]
def f__law_number : CallF := ⟨"_law_number", [false], false, runF 1000000 2 [false] false b__law_number⟩
theorem md__law_number : f__law_number.md = [false] := rfl

def N__law_value : List Str := ["_law_letter", "_law_cell_here", "_law_size", "_law_k"]
def e__law_value_1 : E := .ix (.c (.str [97, 32, 98, 48, 32, 57, 122, 49])) (.bin .mod (.v 3) (.c (.int 8)))
def e__law_value_2 : E := .call f__law_number [.v 3]
def e__law_value_3 : E := .bin .sub (.bin .mod (.v 3) (.c (.int 9))) (.c (.int 4))
def b__law_value : List S := [.ite (.cmp .eq (.v 0) (.c (.str [110])))
    [.ret (.call f__law_number [.v 1])]
    [],
  .ite (.cmp .eq (.v 0) (.c (.str [116])))
    [.ret (.cmp .eq (.bin .mod (.v 1) (.c (.int 2))) (.c (.int 1)))]
    [],
  .ite (.cmp .eq (.v 0) (.c (.str [115])))
    [.set 2 (.ix (.lst [.c (.int 0), .c (.int 1), .c (.int 2), .c (.int 3), .c (.int 5), .c (.int 15), .c (.int 16), .c (.int 30)]) (.bin .mod (.v 1) (.c (.int 8)))),
      .ret (.me .join (.c (.str [])) [.lc (.n 3) [3] (.it (.call f__law_draws [.bin .fdiv (.v 1) (.c (.int 8)), .v 2, .c (.int 64)])) [] e__law_value_1])]
    [],
  .set 2 (.ix (.lst [.c (.int 0), .c (.int 1), .c (.int 2), .c (.int 3), .c (.int 4), .c (.int 6), .c (.int 11), .c (.int 12)]) (.bin .mod (.v 1) (.c (.int 8)))),
  .ite (.cmp .eq (.bin .mod (.bin .fdiv (.v 1) (.c (.int 8))) (.c (.int 3))) (.c (.int 0)))
    [.ret (.bi .tuple [.lc (.n 3) [3] (.it (.call f__law_draws [.bin .fdiv (.v 1) (.c (.int 24)), .v 2, .c (.int 4000)])) [] e__law_value_2])]
    [],
  .ret (.bi .tuple [.lc (.n 3) [3] (.it (.call f__law_draws [.bin .fdiv (.v 1) (.c (.int 24)), .v 2, .c (.int 63)])) [] e__law_value_3])]
def f__law_value : CallF := ⟨"_law_value", [false, false], false, runF 1000000 4 [false, false] false b__law_value⟩
theorem md__law_value : f__law_value.md = [false, false] := rfl

def N__law_asked : List Str := ["_law_which", "_law_name", "e"]
def l__law_asked_1 : List S := [.ite (.cmp .eq (.v 0) (.c (.int 0)))
    [.ret (.tup [.c (.str [116, 111, 108, 100]), .call f_argument_kinds [.v 1]])]
    [],
  .ite (.cmp .eq (.v 0) (.c (.int 1)))
    [.ret (.tup [.c (.str [116, 111, 108, 100]), .call f_result_kind [.v 1]])]
    [],
  .ite (.cmp .eq (.v 0) (.c (.int 2)))
    [.ret (.tup [.c (.str [116, 111, 108, 100]), .call f_is_commutative [.v 1]])]
    [],
  .ret (.tup [.c (.str [116, 111, 108, 100]), .call f_apply [.v 1, .lst [.c (.non), .c (.non)]]])]
def l__law_asked_2 : List S := [.ret (.tup [.c (.str [117, 110, 107, 110, 111, 119, 110]), .fld 2 0 "name", .isx 2 0 "LeastError" true])]
def b__law_asked : List S := [.try l__law_asked_1 [0] "NotFound" (some 2) l__law_asked_2]
def f__law_asked : CallF := ⟨"_law_asked", [false, false], false, runF 1000000 3 [false, false] false b__law_asked⟩
theorem md__law_asked : f__law_asked.md = [false, false] := rfl

def N_law : List Str := ["_law_script", "_law_first", "_law_library_here", "_law_row", "_law_swapped", "_law_actual", "_law_at", "_law_way", "_law_wrong", "_law_which", "_law_one", "_law_two", "_law_known"]
def e_law_1 : E := .ix (.v 12) (.c (.int 0))
def l_law_2 : List S := [.ite (.cmp .ne (.call f__law_asked [.v 9, .v 8]) (.tup [.c (.str [117, 110, 107, 110, 111, 119, 110]), .v 8, .c (.bl true)]))
    [.ret (.c (.bl false))]
    []]
def e_law_3 : E := .ix (.v 12) (.c (.int 0))
def b_law : List S := [.set 1 (.bi .abs [.call f__law_cell [.v 0, .c (.int 0)]]),
  .set 2 (.call f__law_library []),
  .set 3 (.ix (.v 2) (.bin .mod (.v 1) (.c (.int 57)))),
  .set 4 (.lst [.c (.str [97, 100, 100]), .c (.str [98, 111, 116, 104]), .c (.str [101, 105, 116, 104, 101, 114]), .c (.str [101, 113, 117, 97, 108]), .c (.str [109, 97, 120]), .c (.str [109, 105, 110]), .c (.str [109, 117, 108]), .c (.str [115, 97, 109, 101, 95, 108, 105, 115, 116]), .c (.str [115, 97, 109, 101, 95, 116, 101, 120, 116]), .c (.str [122, 105, 112, 95, 97, 100, 100])]),
  .set 5 (.call f_is_commutative [.ix (.v 3) (.c (.int 0))]),
  .ite (.or [.not (.isi [.bool] (.v 5)), .cmp .ne (.v 5) (.cmp .isIn (.ix (.v 3) (.c (.int 0))) (.v 4))])
    [.ret (.c (.bl false))]
    [],
  .ite (.cmp .isIn (.ix (.v 3) (.c (.int 0))) (.v 4))
    [.set 10 (.call f__law_value [.ix (.ix (.v 3) (.c (.int 1))) (.c (.int 0)), .bi .abs [.call f__law_cell [.v 0, .c (.int 1)]]]),
      .set 11 (.call f__law_value [.ix (.ix (.v 3) (.c (.int 1))) (.c (.int 1)), .bi .abs [.call f__law_cell [.v 0, .c (.int 2)]]]),
      .ite (.cmp .ne (.call f_apply [.ix (.v 3) (.c (.int 0)), .lst [.v 10, .v 11]]) (.call f_apply [.ix (.v 3) (.c (.int 0)), .lst [.v 11, .v 10]]))
        [.ret (.c (.bl false))]
        []]
    [],
  .set 6 (.bin .mod (.bin .fdiv (.v 1) (.c (.int 57))) (.bi .len [.ix (.v 3) (.c (.int 0))])),
  .set 7 (.bin .mod (.bin .fdiv (.v 1) (.c (.int 1000))) (.c (.int 4))),
  .set 8 (.bin .add (.slHi (.ix (.v 3) (.c (.int 0))) (.v 6)) (.slLo (.ix (.v 3) (.c (.int 0))) (.bin .add (.v 6) (.c (.int 1))))),
  .ite (.cmp .eq (.v 7) (.c (.int 1)))
    [.set 8 (.bin .add (.bin .add (.slHi (.ix (.v 3) (.c (.int 0))) (.v 6)) (.ix (.ix (.v 3) (.c (.int 0))) (.v 6))) (.slLo (.ix (.v 3) (.c (.int 0))) (.v 6)))]
    [],
  .ite (.cmp .eq (.v 7) (.c (.int 2)))
    [.set 8 (.bin .add (.bin .add (.slHi (.ix (.v 3) (.c (.int 0))) (.v 6)) (.c (.str [65]))) (.slLo (.ix (.v 3) (.c (.int 0))) (.bin .add (.v 6) (.c (.int 1)))))]
    [],
  .ite (.cmp .eq (.v 7) (.c (.int 3)))
    [.set 8 (.ix (.lst [.c (.str [105, 110, 112, 117, 116]), .c (.str [99, 111, 110, 115, 116, 97, 110, 116]), .c (.str []), .c (.str [99, 104, 111, 111, 115, 101]), .c (.str [32, 97, 100, 100])]) (.bin .mod (.bin .fdiv (.v 1) (.c (.int 4000))) (.c (.int 5))))]
    [],
  .ite (.cmp .isIn (.v 8) (.lc (.n 12) [12] (.it (.v 2)) [] e_law_1))
    [.ret (.c (.bl true))]
    [],
  .for (.n 9) (.r1 (.c (.int 4))) l_law_2,
  .ret (.cmp .eq (.call f_names []) (.lc (.n 12) [12] (.it (.v 2)) [] e_law_3))]
def f_law : CallF := ⟨"law", [false], false, runF 1000000 13 [false] false b_law⟩
theorem md_law : f_law.md = [false] := rfl
end K05
end

section
set_option Elab.async false
set_option linter.all false
set_option maxRecDepth 100000
set_option maxHeartbeats 2000000
namespace K05
open PySem L2 Mini
/-! ### cells and draws -/
theorem at_ints {ns : List Int} {k : Int} (h0 : 0 ≤ k) (h1 : k < ns.length) : ∃ c, atI (ns.map D.int) k = some (.int c) := by
  have h2 : k.toNat < ns.length := by omega
  refine ⟨ns[k.toNat], ?_⟩
  unfold atI ixN
  rw [if_pos h0, List.length_map, if_pos h1]
  simp [h2]
theorem F_cell (ns : List Int) (k : Int) (h0 : 0 ≤ k) : ∃ c, f__law_cell.F [.lst (ns.map .int), .int k] = .ok (.int c) [] := by
  by_cases h1 : k < ns.length
  · obtain ⟨c, hc⟩ := at_ints h0 h1
    exact ⟨c, by simp [f__law_cell, b__law_cell, q_bind_ok, q_out_ok, q_bind_exc, q_out_exc, q_seq_ret, q_seq_new, q_seq_brk, q_seq_cnt, q_seq_nx, q_seq_exc, q_opt_some, q_if_t, q_if_f, q_ev_v, q_ev_c, q_ev_g, q_ev_gix, q_ev_gin, q_ev_bin, q_ev_cat, q_cat_l, q_ev_neg, q_ev_not, q_ev_cmp, q_ev_chn, q_ev_and, q_ev_or, q_ev_ite, q_ev_tup, q_ev_lst, q_ev_call, q_ev_bi, q_ev_me, q_ev_isi, q_ev_ix, q_ev_slLo, q_ev_slHi, q_ev_slLH, q_ev_rev, q_ev_gti, q_ev_gsd, q_ev_lrev, q_ev_lc, q_ev_pop, q_evs_nil, q_evs_cons, q_and_1, q_and_2, q_or_1, q_or_2, q_ts_nil, q_ts_1, q_src_it, q_src_r1, q_src_r2, q_src_rd, q_evt, q_lcb, q_x_ret, q_x_retN, q_x_retF, q_x_set, q_x_setN, q_x_unp, q_x_aug, q_x_ite, q_x_whl, q_x_for, q_x_app, q_x_ext, q_x_put, q_x_exp, q_x_try, q_x_raise, q_x_frz, q_x_pas, q_x_brk, q_x_cnt, q_xs_nil, q_xs_cons, q_lv_d, q_lv_nx, q_lv_new, q_lv_o, q_lv_exc, q_deref_d, q_deref_o, q_derefs_nil, q_derefs_cons, q_asD_d, q_asDs_nil, q_asDs_cons, q_asI_i, q_asB_b, q_asS_s, q_bop_add, q_bop_sub, q_bop_mul, q_bop_mul_s, q_bop_fdiv, q_bop_mod, q_bop_pow, q_bop_add_str, q_bop_add_tup, q_bop_add_lst, q_cop_eq, q_cop_ne, q_cop_lt_i, q_cop_lt_b, q_cop_lt_s, q_cop_gt_i, q_cop_gt_s, q_cop_le_i, q_cop_ge_i, q_cop_in, q_cop_nin, q_cop_is_n, q_cop_is_b, q_cop_isn_n, q_mem_tup, q_mem_lst, q_mem_1, q_len_str, q_len_tup, q_len_lst, q_bi_abs, q_bi_max, q_bi_min, q_bi_all, q_bi_any, q_bi_sum, q_bi_int_i, q_bi_int_b, q_bi_str_i, q_bi_list_t, q_bi_list_l, q_bi_sum_t, q_bi_max1_l, q_bi_max1_t, q_bi_min1_l, q_bi_min1_t, q_rev_t, q_rev_l, q_rev_s, q_lrev_t, q_bi_tuple_t, q_bi_tuple_l, q_it_tup, q_it_lst, q_it_str, q_at_tup, q_at_lst, q_at_str, q_cut_tup, q_cut_lst, q_cut_str, q_setv, q_okSl_va, q_frSl_va, q_okSl_no, q_frSl_no, q_okSl_sl, q_frSl_sl, q_bn_nil, q_bn_cons, q_bt_n, q_bt_t, q_own_c, q_call_c, q_sp_nil, q_sp_d, q_sp_o, q_po_nil, q_po_cons, q_nd_nil, q_nd_1, q_eq_ii, q_eq_bb, q_eq_ss, q_eq_nn, q_eq_is, q_eq_si, q_eq_sn, q_eq_ns, q_eq_in, q_eq_ni, q_lc_nil, q_lc_cons, q_wipe_1, q_back_1, q_free_1, q_at0, q_at1, q_at2, q_at3, q_eq_l0, q_eq_t0, q_sl_s, q_fo_nil, runF, startE, finO, outsOf, inoutSlots, slotsFrom, lim, List.getElem?_cons_zero, List.getElem?_cons_succ, List.set_cons_zero, List.set_cons_succ, Option.map_some, List.length_cons, List.length_nil, List.replicate, List.getD_eq_getElem?_getD, Option.getD_some, Option.toList_some, Option.toList_none, List.nil_append, List.cons_append, List.append_nil, reduceCtorEq, if_true, if_false, ite_true, ite_false, h1, hc]⟩
  · exact ⟨0, by simp [f__law_cell, b__law_cell, q_bind_ok, q_out_ok, q_bind_exc, q_out_exc, q_seq_ret, q_seq_new, q_seq_brk, q_seq_cnt, q_seq_nx, q_seq_exc, q_opt_some, q_if_t, q_if_f, q_ev_v, q_ev_c, q_ev_g, q_ev_gix, q_ev_gin, q_ev_bin, q_ev_cat, q_cat_l, q_ev_neg, q_ev_not, q_ev_cmp, q_ev_chn, q_ev_and, q_ev_or, q_ev_ite, q_ev_tup, q_ev_lst, q_ev_call, q_ev_bi, q_ev_me, q_ev_isi, q_ev_ix, q_ev_slLo, q_ev_slHi, q_ev_slLH, q_ev_rev, q_ev_gti, q_ev_gsd, q_ev_lrev, q_ev_lc, q_ev_pop, q_evs_nil, q_evs_cons, q_and_1, q_and_2, q_or_1, q_or_2, q_ts_nil, q_ts_1, q_src_it, q_src_r1, q_src_r2, q_src_rd, q_evt, q_lcb, q_x_ret, q_x_retN, q_x_retF, q_x_set, q_x_setN, q_x_unp, q_x_aug, q_x_ite, q_x_whl, q_x_for, q_x_app, q_x_ext, q_x_put, q_x_exp, q_x_try, q_x_raise, q_x_frz, q_x_pas, q_x_brk, q_x_cnt, q_xs_nil, q_xs_cons, q_lv_d, q_lv_nx, q_lv_new, q_lv_o, q_lv_exc, q_deref_d, q_deref_o, q_derefs_nil, q_derefs_cons, q_asD_d, q_asDs_nil, q_asDs_cons, q_asI_i, q_asB_b, q_asS_s, q_bop_add, q_bop_sub, q_bop_mul, q_bop_mul_s, q_bop_fdiv, q_bop_mod, q_bop_pow, q_bop_add_str, q_bop_add_tup, q_bop_add_lst, q_cop_eq, q_cop_ne, q_cop_lt_i, q_cop_lt_b, q_cop_lt_s, q_cop_gt_i, q_cop_gt_s, q_cop_le_i, q_cop_ge_i, q_cop_in, q_cop_nin, q_cop_is_n, q_cop_is_b, q_cop_isn_n, q_mem_tup, q_mem_lst, q_mem_1, q_len_str, q_len_tup, q_len_lst, q_bi_abs, q_bi_max, q_bi_min, q_bi_all, q_bi_any, q_bi_sum, q_bi_int_i, q_bi_int_b, q_bi_str_i, q_bi_list_t, q_bi_list_l, q_bi_sum_t, q_bi_max1_l, q_bi_max1_t, q_bi_min1_l, q_bi_min1_t, q_rev_t, q_rev_l, q_rev_s, q_lrev_t, q_bi_tuple_t, q_bi_tuple_l, q_it_tup, q_it_lst, q_it_str, q_at_tup, q_at_lst, q_at_str, q_cut_tup, q_cut_lst, q_cut_str, q_setv, q_okSl_va, q_frSl_va, q_okSl_no, q_frSl_no, q_okSl_sl, q_frSl_sl, q_bn_nil, q_bn_cons, q_bt_n, q_bt_t, q_own_c, q_call_c, q_sp_nil, q_sp_d, q_sp_o, q_po_nil, q_po_cons, q_nd_nil, q_nd_1, q_eq_ii, q_eq_bb, q_eq_ss, q_eq_nn, q_eq_is, q_eq_si, q_eq_sn, q_eq_ns, q_eq_in, q_eq_ni, q_lc_nil, q_lc_cons, q_wipe_1, q_back_1, q_free_1, q_at0, q_at1, q_at2, q_at3, q_eq_l0, q_eq_t0, q_sl_s, q_fo_nil, runF, startE, finO, outsOf, inoutSlots, slotsFrom, lim, List.getElem?_cons_zero, List.getElem?_cons_succ, List.set_cons_zero, List.set_cons_succ, Option.map_some, List.length_cons, List.length_nil, List.replicate, List.getD_eq_getElem?_getD, Option.getD_some, Option.toList_some, Option.toList_none, List.nil_append, List.cons_append, List.append_nil, reduceCtorEq, if_true, if_false, ite_true, ite_false, h1]⟩
theorem smalls : small 48271 = true ∧ small 69621 = true ∧ small 16807 = true ∧ small 31 = true := by decide
theorem fm (x : Int) {many : Int} (h : 0 < many) : 0 ≤ x.fmod many ∧ x.fmod many < many := by
  rw [Int.fmod_eq_emod_of_nonneg _ (Int.le_of_lt h)]
  exact ⟨Int.emod_nonneg _ (by omega), Int.emod_lt_of_pos _ h⟩
/-- the frame of _law_draws -/
def dEn (c many lim' : Int) (acc : List Int) (rest : Int) (k mx : Option D) : En := [.val (.int c), .val (.int many), .val (.int lim'), .own (acc.map .int), .val (.int rest), sl k, sl mx]
def aI (c : Int) : Int := if c < 0 then -c else c
theorem draw_body (c many lm : Int) (acc : List Int) (rest k : Int) (mx : Option D) (hl : 0 < lm) (hM : lm.natAbs < 1073741824) (ha : acc.length < 1000000) :
    ∃ v rest' mx', 0 ≤ v ∧ v < lm ∧ exSs 1000000 l__law_draws_1 (dEn c many lm acc rest (some (.int k)) mx) = .nx (dEn c many lm (acc ++ [v]) rest' (some (.int k)) mx') := by
  have hn : lm ≠ 0 := by omega
  by_cases h : 1000000000000000000 ≤ aI c ∧ 0 < rest
  · obtain ⟨h1, h2⟩ := h
    refine ⟨rest.fmod lm, rest.fdiv lm, mx, (fm _ hl).1, (fm _ hl).2, ?_⟩
    unfold aI at h1
    simp [l__law_draws_1, dEn, q_bind_ok, q_out_ok, q_bind_exc, q_out_exc, q_seq_ret, q_seq_new, q_seq_brk, q_seq_cnt, q_seq_nx, q_seq_exc, q_opt_some, q_if_t, q_if_f, q_ev_v, q_ev_c, q_ev_g, q_ev_gix, q_ev_gin, q_ev_bin, q_ev_cat, q_cat_l, q_ev_neg, q_ev_not, q_ev_cmp, q_ev_chn, q_ev_and, q_ev_or, q_ev_ite, q_ev_tup, q_ev_lst, q_ev_call, q_ev_bi, q_ev_me, q_ev_isi, q_ev_ix, q_ev_slLo, q_ev_slHi, q_ev_slLH, q_ev_rev, q_ev_gti, q_ev_gsd, q_ev_lrev, q_ev_lc, q_ev_pop, q_evs_nil, q_evs_cons, q_and_1, q_and_2, q_or_1, q_or_2, q_ts_nil, q_ts_1, q_src_it, q_src_r1, q_src_r2, q_src_rd, q_evt, q_lcb, q_x_ret, q_x_retN, q_x_retF, q_x_set, q_x_setN, q_x_unp, q_x_aug, q_x_ite, q_x_whl, q_x_for, q_x_app, q_x_ext, q_x_put, q_x_exp, q_x_try, q_x_raise, q_x_frz, q_x_pas, q_x_brk, q_x_cnt, q_xs_nil, q_xs_cons, q_lv_d, q_lv_nx, q_lv_new, q_lv_o, q_lv_exc, q_deref_d, q_deref_o, q_derefs_nil, q_derefs_cons, q_asD_d, q_asDs_nil, q_asDs_cons, q_asI_i, q_asB_b, q_asS_s, q_bop_add, q_bop_sub, q_bop_mul, q_bop_mul_s, q_bop_fdiv, q_bop_mod, q_bop_pow, q_bop_add_str, q_bop_add_tup, q_bop_add_lst, q_cop_eq, q_cop_ne, q_cop_lt_i, q_cop_lt_b, q_cop_lt_s, q_cop_gt_i, q_cop_gt_s, q_cop_le_i, q_cop_ge_i, q_cop_in, q_cop_nin, q_cop_is_n, q_cop_is_b, q_cop_isn_n, q_mem_tup, q_mem_lst, q_mem_1, q_len_str, q_len_tup, q_len_lst, q_bi_abs, q_bi_max, q_bi_min, q_bi_all, q_bi_any, q_bi_sum, q_bi_int_i, q_bi_int_b, q_bi_str_i, q_bi_list_t, q_bi_list_l, q_bi_sum_t, q_bi_max1_l, q_bi_max1_t, q_bi_min1_l, q_bi_min1_t, q_rev_t, q_rev_l, q_rev_s, q_lrev_t, q_bi_tuple_t, q_bi_tuple_l, q_it_tup, q_it_lst, q_it_str, q_at_tup, q_at_lst, q_at_str, q_cut_tup, q_cut_lst, q_cut_str, q_setv, q_okSl_va, q_frSl_va, q_okSl_no, q_frSl_no, q_okSl_sl, q_frSl_sl, q_bn_nil, q_bn_cons, q_bt_n, q_bt_t, q_own_c, q_call_c, q_sp_nil, q_sp_d, q_sp_o, q_po_nil, q_po_cons, q_nd_nil, q_nd_1, q_eq_ii, q_eq_bb, q_eq_ss, q_eq_nn, q_eq_is, q_eq_si, q_eq_sn, q_eq_ns, q_eq_in, q_eq_ni, q_lc_nil, q_lc_cons, q_wipe_1, q_back_1, q_free_1, q_at0, q_at1, q_at2, q_at3, q_eq_l0, q_eq_t0, q_sl_s, q_fo_nil, runF, startE, finO, outsOf, inoutSlots, slotsFrom, lim, List.getElem?_cons_zero, List.getElem?_cons_succ, List.set_cons_zero, List.set_cons_succ, Option.map_some, List.length_cons, List.length_nil, List.replicate, List.getD_eq_getElem?_getD, Option.getD_some, Option.toList_some, Option.toList_none, List.nil_append, List.cons_append, List.append_nil, reduceCtorEq, if_true, if_false, ite_true, ite_false, h1, h2, hn, hM, ha]
  · have h : 1000000000000000000 ≤ aI c → ¬ 0 < rest := fun x y => h ⟨x, y⟩
    let m1 := ((aI c * 48271 + k * 69621 + 7).fmod 2147483647)
    let m2 := ((m1 * 16807 + m1.fdiv 127 + k * 31).fmod 2147483629)
    refine ⟨(m2.fdiv 3).fmod lm, rest, some (.int m2), (fm _ hl).1, (fm _ hl).2, ?_⟩
    by_cases h1 : 1000000000000000000 ≤ aI c
    · have h2 := h h1
      unfold aI at h1
      simp [l__law_draws_1, dEn, q_bind_ok, q_out_ok, q_bind_exc, q_out_exc, q_seq_ret, q_seq_new, q_seq_brk, q_seq_cnt, q_seq_nx, q_seq_exc, q_opt_some, q_if_t, q_if_f, q_ev_v, q_ev_c, q_ev_g, q_ev_gix, q_ev_gin, q_ev_bin, q_ev_cat, q_cat_l, q_ev_neg, q_ev_not, q_ev_cmp, q_ev_chn, q_ev_and, q_ev_or, q_ev_ite, q_ev_tup, q_ev_lst, q_ev_call, q_ev_bi, q_ev_me, q_ev_isi, q_ev_ix, q_ev_slLo, q_ev_slHi, q_ev_slLH, q_ev_rev, q_ev_gti, q_ev_gsd, q_ev_lrev, q_ev_lc, q_ev_pop, q_evs_nil, q_evs_cons, q_and_1, q_and_2, q_or_1, q_or_2, q_ts_nil, q_ts_1, q_src_it, q_src_r1, q_src_r2, q_src_rd, q_evt, q_lcb, q_x_ret, q_x_retN, q_x_retF, q_x_set, q_x_setN, q_x_unp, q_x_aug, q_x_ite, q_x_whl, q_x_for, q_x_app, q_x_ext, q_x_put, q_x_exp, q_x_try, q_x_raise, q_x_frz, q_x_pas, q_x_brk, q_x_cnt, q_xs_nil, q_xs_cons, q_lv_d, q_lv_nx, q_lv_new, q_lv_o, q_lv_exc, q_deref_d, q_deref_o, q_derefs_nil, q_derefs_cons, q_asD_d, q_asDs_nil, q_asDs_cons, q_asI_i, q_asB_b, q_asS_s, q_bop_add, q_bop_sub, q_bop_mul, q_bop_mul_s, q_bop_fdiv, q_bop_mod, q_bop_pow, q_bop_add_str, q_bop_add_tup, q_bop_add_lst, q_cop_eq, q_cop_ne, q_cop_lt_i, q_cop_lt_b, q_cop_lt_s, q_cop_gt_i, q_cop_gt_s, q_cop_le_i, q_cop_ge_i, q_cop_in, q_cop_nin, q_cop_is_n, q_cop_is_b, q_cop_isn_n, q_mem_tup, q_mem_lst, q_mem_1, q_len_str, q_len_tup, q_len_lst, q_bi_abs, q_bi_max, q_bi_min, q_bi_all, q_bi_any, q_bi_sum, q_bi_int_i, q_bi_int_b, q_bi_str_i, q_bi_list_t, q_bi_list_l, q_bi_sum_t, q_bi_max1_l, q_bi_max1_t, q_bi_min1_l, q_bi_min1_t, q_rev_t, q_rev_l, q_rev_s, q_lrev_t, q_bi_tuple_t, q_bi_tuple_l, q_it_tup, q_it_lst, q_it_str, q_at_tup, q_at_lst, q_at_str, q_cut_tup, q_cut_lst, q_cut_str, q_setv, q_okSl_va, q_frSl_va, q_okSl_no, q_frSl_no, q_okSl_sl, q_frSl_sl, q_bn_nil, q_bn_cons, q_bt_n, q_bt_t, q_own_c, q_call_c, q_sp_nil, q_sp_d, q_sp_o, q_po_nil, q_po_cons, q_nd_nil, q_nd_1, q_eq_ii, q_eq_bb, q_eq_ss, q_eq_nn, q_eq_is, q_eq_si, q_eq_sn, q_eq_ns, q_eq_in, q_eq_ni, q_lc_nil, q_lc_cons, q_wipe_1, q_back_1, q_free_1, q_at0, q_at1, q_at2, q_at3, q_eq_l0, q_eq_t0, q_sl_s, q_fo_nil, runF, startE, finO, outsOf, inoutSlots, slotsFrom, lim, List.getElem?_cons_zero, List.getElem?_cons_succ, List.set_cons_zero, List.set_cons_succ, Option.map_some, List.length_cons, List.length_nil, List.replicate, List.getD_eq_getElem?_getD, Option.getD_some, Option.toList_some, Option.toList_none, List.nil_append, List.cons_append, List.append_nil, reduceCtorEq, if_true, if_false, ite_true, ite_false, h1, h2, hn, hM, ha, smalls, m1, m2, aI]
    · unfold aI at h1
      simp [l__law_draws_1, dEn, q_bind_ok, q_out_ok, q_bind_exc, q_out_exc, q_seq_ret, q_seq_new, q_seq_brk, q_seq_cnt, q_seq_nx, q_seq_exc, q_opt_some, q_if_t, q_if_f, q_ev_v, q_ev_c, q_ev_g, q_ev_gix, q_ev_gin, q_ev_bin, q_ev_cat, q_cat_l, q_ev_neg, q_ev_not, q_ev_cmp, q_ev_chn, q_ev_and, q_ev_or, q_ev_ite, q_ev_tup, q_ev_lst, q_ev_call, q_ev_bi, q_ev_me, q_ev_isi, q_ev_ix, q_ev_slLo, q_ev_slHi, q_ev_slLH, q_ev_rev, q_ev_gti, q_ev_gsd, q_ev_lrev, q_ev_lc, q_ev_pop, q_evs_nil, q_evs_cons, q_and_1, q_and_2, q_or_1, q_or_2, q_ts_nil, q_ts_1, q_src_it, q_src_r1, q_src_r2, q_src_rd, q_evt, q_lcb, q_x_ret, q_x_retN, q_x_retF, q_x_set, q_x_setN, q_x_unp, q_x_aug, q_x_ite, q_x_whl, q_x_for, q_x_app, q_x_ext, q_x_put, q_x_exp, q_x_try, q_x_raise, q_x_frz, q_x_pas, q_x_brk, q_x_cnt, q_xs_nil, q_xs_cons, q_lv_d, q_lv_nx, q_lv_new, q_lv_o, q_lv_exc, q_deref_d, q_deref_o, q_derefs_nil, q_derefs_cons, q_asD_d, q_asDs_nil, q_asDs_cons, q_asI_i, q_asB_b, q_asS_s, q_bop_add, q_bop_sub, q_bop_mul, q_bop_mul_s, q_bop_fdiv, q_bop_mod, q_bop_pow, q_bop_add_str, q_bop_add_tup, q_bop_add_lst, q_cop_eq, q_cop_ne, q_cop_lt_i, q_cop_lt_b, q_cop_lt_s, q_cop_gt_i, q_cop_gt_s, q_cop_le_i, q_cop_ge_i, q_cop_in, q_cop_nin, q_cop_is_n, q_cop_is_b, q_cop_isn_n, q_mem_tup, q_mem_lst, q_mem_1, q_len_str, q_len_tup, q_len_lst, q_bi_abs, q_bi_max, q_bi_min, q_bi_all, q_bi_any, q_bi_sum, q_bi_int_i, q_bi_int_b, q_bi_str_i, q_bi_list_t, q_bi_list_l, q_bi_sum_t, q_bi_max1_l, q_bi_max1_t, q_bi_min1_l, q_bi_min1_t, q_rev_t, q_rev_l, q_rev_s, q_lrev_t, q_bi_tuple_t, q_bi_tuple_l, q_it_tup, q_it_lst, q_it_str, q_at_tup, q_at_lst, q_at_str, q_cut_tup, q_cut_lst, q_cut_str, q_setv, q_okSl_va, q_frSl_va, q_okSl_no, q_frSl_no, q_okSl_sl, q_frSl_sl, q_bn_nil, q_bn_cons, q_bt_n, q_bt_t, q_own_c, q_call_c, q_sp_nil, q_sp_d, q_sp_o, q_po_nil, q_po_cons, q_nd_nil, q_nd_1, q_eq_ii, q_eq_bb, q_eq_ss, q_eq_nn, q_eq_is, q_eq_si, q_eq_sn, q_eq_ns, q_eq_in, q_eq_ni, q_lc_nil, q_lc_cons, q_wipe_1, q_back_1, q_free_1, q_at0, q_at1, q_at2, q_at3, q_eq_l0, q_eq_t0, q_sl_s, q_fo_nil, runF, startE, finO, outsOf, inoutSlots, slotsFrom, lim, List.getElem?_cons_zero, List.getElem?_cons_succ, List.set_cons_zero, List.set_cons_succ, Option.map_some, List.length_cons, List.length_nil, List.replicate, List.getD_eq_getElem?_getD, Option.getD_some, Option.toList_some, Option.toList_none, List.nil_append, List.cons_append, List.append_nil, reduceCtorEq, if_true, if_false, ite_true, ite_false, h1, hn, hM, ha, smalls, m1, m2, aI]
theorem draw_loop (c many lm : Int) (hl : 0 < lm) (hM : lm.natAbs < 1073741824) : ∀ (ks : List Int) (acc : List Int) (rest : Int) (k mx : Option D), acc.length + ks.length ≤ 1000000 →
    ∃ vs rest' k' mx', vs.length = ks.length ∧ (∀ v ∈ vs, 0 ≤ v ∧ v < lm) ∧ forGo (.n 5) (exSs 1000000 l__law_draws_1) (ks.map .int) (dEn c many lm acc rest k mx) = .nx (dEn c many lm (acc ++ vs) rest' k' mx')
  | [], acc, rest, k, mx, _ => ⟨[], rest, k, mx, rfl, (fun v hv => by cases hv), by rw [List.append_nil]; rfl⟩
  | i :: ks, acc, rest, k, mx, hz => by
    rw [List.length_cons] at hz
    obtain ⟨v, r1, m1, v0, v1, e1⟩ := draw_body c many lm acc rest i mx hl hM (by omega)
    obtain ⟨vs, r2, k2, m2, l2, b2, e2⟩ := draw_loop c many lm hl hM ks (acc ++ [v]) r1 (some (.int i)) m1 (by rw [List.length_append, List.length_singleton]; omega)
    refine ⟨v :: vs, r2, k2, m2, by rw [List.length_cons, List.length_cons, l2], fun u hu => ?_, ?_⟩
    · rcases List.mem_cons.mp hu with rfl | hu
      · exact ⟨v0, v1⟩
      · exact b2 u hu
    · have eb : bindT (.n 5) (.int i) (dEn c many lm acc rest k mx) = some (dEn c many lm acc rest (some (.int i)) mx) := by
        simp [dEn, q_bind_ok, q_out_ok, q_bind_exc, q_out_exc, q_seq_ret, q_seq_new, q_seq_brk, q_seq_cnt, q_seq_nx, q_seq_exc, q_opt_some, q_if_t, q_if_f, q_ev_v, q_ev_c, q_ev_g, q_ev_gix, q_ev_gin, q_ev_bin, q_ev_cat, q_cat_l, q_ev_neg, q_ev_not, q_ev_cmp, q_ev_chn, q_ev_and, q_ev_or, q_ev_ite, q_ev_tup, q_ev_lst, q_ev_call, q_ev_bi, q_ev_me, q_ev_isi, q_ev_ix, q_ev_slLo, q_ev_slHi, q_ev_slLH, q_ev_rev, q_ev_gti, q_ev_gsd, q_ev_lrev, q_ev_lc, q_ev_pop, q_evs_nil, q_evs_cons, q_and_1, q_and_2, q_or_1, q_or_2, q_ts_nil, q_ts_1, q_src_it, q_src_r1, q_src_r2, q_src_rd, q_evt, q_lcb, q_x_ret, q_x_retN, q_x_retF, q_x_set, q_x_setN, q_x_unp, q_x_aug, q_x_ite, q_x_whl, q_x_for, q_x_app, q_x_ext, q_x_put, q_x_exp, q_x_try, q_x_raise, q_x_frz, q_x_pas, q_x_brk, q_x_cnt, q_xs_nil, q_xs_cons, q_lv_d, q_lv_nx, q_lv_new, q_lv_o, q_lv_exc, q_deref_d, q_deref_o, q_derefs_nil, q_derefs_cons, q_asD_d, q_asDs_nil, q_asDs_cons, q_asI_i, q_asB_b, q_asS_s, q_bop_add, q_bop_sub, q_bop_mul, q_bop_mul_s, q_bop_fdiv, q_bop_mod, q_bop_pow, q_bop_add_str, q_bop_add_tup, q_bop_add_lst, q_cop_eq, q_cop_ne, q_cop_lt_i, q_cop_lt_b, q_cop_lt_s, q_cop_gt_i, q_cop_gt_s, q_cop_le_i, q_cop_ge_i, q_cop_in, q_cop_nin, q_cop_is_n, q_cop_is_b, q_cop_isn_n, q_mem_tup, q_mem_lst, q_mem_1, q_len_str, q_len_tup, q_len_lst, q_bi_abs, q_bi_max, q_bi_min, q_bi_all, q_bi_any, q_bi_sum, q_bi_int_i, q_bi_int_b, q_bi_str_i, q_bi_list_t, q_bi_list_l, q_bi_sum_t, q_bi_max1_l, q_bi_max1_t, q_bi_min1_l, q_bi_min1_t, q_rev_t, q_rev_l, q_rev_s, q_lrev_t, q_bi_tuple_t, q_bi_tuple_l, q_it_tup, q_it_lst, q_it_str, q_at_tup, q_at_lst, q_at_str, q_cut_tup, q_cut_lst, q_cut_str, q_setv, q_okSl_va, q_frSl_va, q_okSl_no, q_frSl_no, q_okSl_sl, q_frSl_sl, q_bn_nil, q_bn_cons, q_bt_n, q_bt_t, q_own_c, q_call_c, q_sp_nil, q_sp_d, q_sp_o, q_po_nil, q_po_cons, q_nd_nil, q_nd_1, q_eq_ii, q_eq_bb, q_eq_ss, q_eq_nn, q_eq_is, q_eq_si, q_eq_sn, q_eq_ns, q_eq_in, q_eq_ni, q_lc_nil, q_lc_cons, q_wipe_1, q_back_1, q_free_1, q_at0, q_at1, q_at2, q_at3, q_eq_l0, q_eq_t0, q_sl_s, q_fo_nil, runF, startE, finO, outsOf, inoutSlots, slotsFrom, lim, List.getElem?_cons_zero, List.getElem?_cons_succ, List.set_cons_zero, List.set_cons_succ, Option.map_some, List.length_cons, List.length_nil, List.replicate, List.getD_eq_getElem?_getD, Option.getD_some, Option.toList_some, Option.toList_none, List.nil_append, List.cons_append, List.append_nil, reduceCtorEq, if_true, if_false, ite_true, ite_false]
      rw [List.map_cons, q_for_cons, eb]
      simp only []
      rw [e1]
      simp only []
      rw [e2, List.append_assoc]
      rfl
theorem rng_map (n : Int) : rng 0 n = ((List.range n.toNat).map fun (k : Nat) => (k : Int)).map D.int := by
  unfold rng
  rw [List.map_map, Int.sub_zero]
  refine List.map_congr_left fun k _ => ?_
  show D.int (0 + (k : Int)) = D.int k
  rw [Int.zero_add]
theorem draws_ok (c many lm : Int) (h0 : 0 ≤ many) (h1 : many ≤ 1000) (hl : 0 < lm) (hM : lm.natAbs < 1073741824) :
    ∃ vs : List Int, (vs.length : Int) = many ∧ (∀ v ∈ vs, 0 ≤ v ∧ v < lm) ∧ f__law_draws.F [.int c, .int many, .int lm] = .ok (.lst (vs.map .int)) [] := by
  obtain ⟨vs, r, k, mx, l, b, e⟩ := draw_loop c many lm hl hM ((List.range many.toNat).map fun (k : Nat) => (k : Int)) [] (aI c) none none (by simp; omega)
  refine ⟨vs, by rw [l]; simp; omega, b, ?_⟩
  have hr : rngOk many = true := by unfold rngOk; simp; omega
  have hs : sl none = Sl.no := rfl
  rw [← rng_map] at e
  simp only [dEn, hs, List.map_nil, List.nil_append] at e
  simp [f__law_draws, b__law_draws, q_bind_ok, q_out_ok, q_bind_exc, q_out_exc, q_seq_ret, q_seq_new, q_seq_brk, q_seq_cnt, q_seq_nx, q_seq_exc, q_opt_some, q_if_t, q_if_f, q_ev_v, q_ev_c, q_ev_g, q_ev_gix, q_ev_gin, q_ev_bin, q_ev_cat, q_cat_l, q_ev_neg, q_ev_not, q_ev_cmp, q_ev_chn, q_ev_and, q_ev_or, q_ev_ite, q_ev_tup, q_ev_lst, q_ev_call, q_ev_bi, q_ev_me, q_ev_isi, q_ev_ix, q_ev_slLo, q_ev_slHi, q_ev_slLH, q_ev_rev, q_ev_gti, q_ev_gsd, q_ev_lrev, q_ev_lc, q_ev_pop, q_evs_nil, q_evs_cons, q_and_1, q_and_2, q_or_1, q_or_2, q_ts_nil, q_ts_1, q_src_it, q_src_r1, q_src_r2, q_src_rd, q_evt, q_lcb, q_x_ret, q_x_retN, q_x_retF, q_x_set, q_x_setN, q_x_unp, q_x_aug, q_x_ite, q_x_whl, q_x_for, q_x_app, q_x_ext, q_x_put, q_x_exp, q_x_try, q_x_raise, q_x_frz, q_x_pas, q_x_brk, q_x_cnt, q_xs_nil, q_xs_cons, q_lv_d, q_lv_nx, q_lv_new, q_lv_o, q_lv_exc, q_deref_d, q_deref_o, q_derefs_nil, q_derefs_cons, q_asD_d, q_asDs_nil, q_asDs_cons, q_asI_i, q_asB_b, q_asS_s, q_bop_add, q_bop_sub, q_bop_mul, q_bop_mul_s, q_bop_fdiv, q_bop_mod, q_bop_pow, q_bop_add_str, q_bop_add_tup, q_bop_add_lst, q_cop_eq, q_cop_ne, q_cop_lt_i, q_cop_lt_b, q_cop_lt_s, q_cop_gt_i, q_cop_gt_s, q_cop_le_i, q_cop_ge_i, q_cop_in, q_cop_nin, q_cop_is_n, q_cop_is_b, q_cop_isn_n, q_mem_tup, q_mem_lst, q_mem_1, q_len_str, q_len_tup, q_len_lst, q_bi_abs, q_bi_max, q_bi_min, q_bi_all, q_bi_any, q_bi_sum, q_bi_int_i, q_bi_int_b, q_bi_str_i, q_bi_list_t, q_bi_list_l, q_bi_sum_t, q_bi_max1_l, q_bi_max1_t, q_bi_min1_l, q_bi_min1_t, q_rev_t, q_rev_l, q_rev_s, q_lrev_t, q_bi_tuple_t, q_bi_tuple_l, q_it_tup, q_it_lst, q_it_str, q_at_tup, q_at_lst, q_at_str, q_cut_tup, q_cut_lst, q_cut_str, q_setv, q_okSl_va, q_frSl_va, q_okSl_no, q_frSl_no, q_okSl_sl, q_frSl_sl, q_bn_nil, q_bn_cons, q_bt_n, q_bt_t, q_own_c, q_call_c, q_sp_nil, q_sp_d, q_sp_o, q_po_nil, q_po_cons, q_nd_nil, q_nd_1, q_eq_ii, q_eq_bb, q_eq_ss, q_eq_nn, q_eq_is, q_eq_si, q_eq_sn, q_eq_ns, q_eq_in, q_eq_ni, q_lc_nil, q_lc_cons, q_wipe_1, q_back_1, q_free_1, q_at0, q_at1, q_at2, q_at3, q_eq_l0, q_eq_t0, q_sl_s, q_fo_nil, runF, startE, finO, outsOf, inoutSlots, slotsFrom, lim, List.getElem?_cons_zero, List.getElem?_cons_succ, List.set_cons_zero, List.set_cons_succ, Option.map_some, List.length_cons, List.length_nil, List.replicate, List.getD_eq_getElem?_getD, Option.getD_some, Option.toList_some, Option.toList_none, List.nil_append, List.cons_append, List.append_nil, reduceCtorEq, if_true, if_false, ite_true, ite_false, hr, aI] at e ⊢
  rw [e]
  simp [q_bind_ok, q_out_ok, q_bind_exc, q_out_exc, q_seq_ret, q_seq_new, q_seq_brk, q_seq_cnt, q_seq_nx, q_seq_exc, q_opt_some, q_if_t, q_if_f, q_ev_v, q_ev_c, q_ev_g, q_ev_gix, q_ev_gin, q_ev_bin, q_ev_cat, q_cat_l, q_ev_neg, q_ev_not, q_ev_cmp, q_ev_chn, q_ev_and, q_ev_or, q_ev_ite, q_ev_tup, q_ev_lst, q_ev_call, q_ev_bi, q_ev_me, q_ev_isi, q_ev_ix, q_ev_slLo, q_ev_slHi, q_ev_slLH, q_ev_rev, q_ev_gti, q_ev_gsd, q_ev_lrev, q_ev_lc, q_ev_pop, q_evs_nil, q_evs_cons, q_and_1, q_and_2, q_or_1, q_or_2, q_ts_nil, q_ts_1, q_src_it, q_src_r1, q_src_r2, q_src_rd, q_evt, q_lcb, q_x_ret, q_x_retN, q_x_retF, q_x_set, q_x_setN, q_x_unp, q_x_aug, q_x_ite, q_x_whl, q_x_for, q_x_app, q_x_ext, q_x_put, q_x_exp, q_x_try, q_x_raise, q_x_frz, q_x_pas, q_x_brk, q_x_cnt, q_xs_nil, q_xs_cons, q_lv_d, q_lv_nx, q_lv_new, q_lv_o, q_lv_exc, q_deref_d, q_deref_o, q_derefs_nil, q_derefs_cons, q_asD_d, q_asDs_nil, q_asDs_cons, q_asI_i, q_asB_b, q_asS_s, q_bop_add, q_bop_sub, q_bop_mul, q_bop_mul_s, q_bop_fdiv, q_bop_mod, q_bop_pow, q_bop_add_str, q_bop_add_tup, q_bop_add_lst, q_cop_eq, q_cop_ne, q_cop_lt_i, q_cop_lt_b, q_cop_lt_s, q_cop_gt_i, q_cop_gt_s, q_cop_le_i, q_cop_ge_i, q_cop_in, q_cop_nin, q_cop_is_n, q_cop_is_b, q_cop_isn_n, q_mem_tup, q_mem_lst, q_mem_1, q_len_str, q_len_tup, q_len_lst, q_bi_abs, q_bi_max, q_bi_min, q_bi_all, q_bi_any, q_bi_sum, q_bi_int_i, q_bi_int_b, q_bi_str_i, q_bi_list_t, q_bi_list_l, q_bi_sum_t, q_bi_max1_l, q_bi_max1_t, q_bi_min1_l, q_bi_min1_t, q_rev_t, q_rev_l, q_rev_s, q_lrev_t, q_bi_tuple_t, q_bi_tuple_l, q_it_tup, q_it_lst, q_it_str, q_at_tup, q_at_lst, q_at_str, q_cut_tup, q_cut_lst, q_cut_str, q_setv, q_okSl_va, q_frSl_va, q_okSl_no, q_frSl_no, q_okSl_sl, q_frSl_sl, q_bn_nil, q_bn_cons, q_bt_n, q_bt_t, q_own_c, q_call_c, q_sp_nil, q_sp_d, q_sp_o, q_po_nil, q_po_cons, q_nd_nil, q_nd_1, q_eq_ii, q_eq_bb, q_eq_ss, q_eq_nn, q_eq_is, q_eq_si, q_eq_sn, q_eq_ns, q_eq_in, q_eq_ni, q_lc_nil, q_lc_cons, q_wipe_1, q_back_1, q_free_1, q_at0, q_at1, q_at2, q_at3, q_eq_l0, q_eq_t0, q_sl_s, q_fo_nil, runF, startE, finO, outsOf, inoutSlots, slotsFrom, lim, List.getElem?_cons_zero, List.getElem?_cons_succ, List.set_cons_zero, List.set_cons_succ, Option.map_some, List.length_cons, List.length_nil, List.replicate, List.getD_eq_getElem?_getD, Option.getD_some, Option.toList_some, Option.toList_none, List.nil_append, List.cons_append, List.append_nil, reduceCtorEq, if_true, if_false, ite_true, ite_false]
end K05
end

section
set_option Elab.async false
set_option linter.all false
set_option maxRecDepth 100000
set_option maxHeartbeats 2000000
namespace K05
open PySem L2 Mini
/-! ### values: what the program's tests say of any thing -/
def inR (i : Int) : Bool := decide (-1000000 ≤ i) && decide (i ≤ 1000000)
theorem inR_of {n : Int} (h1 : -1000000 ≤ n) (h2 : n ≤ 1000000) : inR n = true := by simp [inR, h1, h2]
theorem inR_iff {n : Int} : inR n = true ↔ -1000000 ≤ n ∧ n ≤ 1000000 := by simp [inR]
def abc : List Nat := [32, 48, 49, 50, 51, 52, 53, 54, 55, 56, 57, 97, 98, 99, 100, 101, 102, 103, 104, 105, 106, 107, 108, 109, 110, 111, 112, 113, 114, 115, 116, 117, 118, 119, 120, 121, 122]
def isNum : D → Bool
  | .int i => inR i
  | _ => false
def isTru : D → Bool
  | .bl _ => true
  | _ => false
def isTxt : D → Bool
  | .str cs => decide (cs.length ≤ 30) && cs.all fun c => decide (c ∈ abc)
  | _ => false
def isLst : D → Bool
  | .tup ds => decide (ds.length ≤ 12) && ds.all isNum
  | _ => false
abbrev kN : List Nat := [110, 117, 109, 98, 101, 114]
abbrev kT : List Nat := [116, 114, 117, 116, 104]
abbrev kS : List Nat := [116, 101, 120, 116]
abbrev kL : List Nat := [108, 105, 115, 116]
def isVal (k : List Nat) (d : D) : Bool := if k = kN then isNum d else if k = kT then isTru d else if k = kS then isTxt d else isLst d
def kindOf (d : D) : Option (List Nat) := if isNum d then some kN else if isTru d then some kT else if isTxt d then some kS else if isLst d then some kL else none
theorem F_isn (d : D) : f_is_number.F [d] = .ok (.bl (isNum d)) [] := by
  cases d with
  | int i =>
    by_cases h : -1000000 ≤ i
    · by_cases h2 : i ≤ 1000000
      · simp [f_is_number, b_is_number, q_bind_ok, q_out_ok, q_bind_exc, q_out_exc, q_seq_ret, q_seq_new, q_seq_brk, q_seq_cnt, q_seq_nx, q_seq_exc, q_opt_some, q_if_t, q_if_f, q_ev_v, q_ev_c, q_ev_g, q_ev_gix, q_ev_gin, q_ev_bin, q_ev_cat, q_cat_l, q_ev_neg, q_ev_not, q_ev_cmp, q_ev_chn, q_ev_and, q_ev_or, q_ev_ite, q_ev_tup, q_ev_lst, q_ev_call, q_ev_bi, q_ev_me, q_ev_isi, q_ev_ix, q_ev_slLo, q_ev_slHi, q_ev_slLH, q_ev_rev, q_ev_gti, q_ev_gsd, q_ev_lrev, q_ev_lc, q_ev_pop, q_evs_nil, q_evs_cons, q_and_1, q_and_2, q_or_1, q_or_2, q_ts_nil, q_ts_1, q_src_it, q_src_r1, q_src_r2, q_src_rd, q_evt, q_lcb, q_x_ret, q_x_retN, q_x_retF, q_x_set, q_x_setN, q_x_unp, q_x_aug, q_x_ite, q_x_whl, q_x_for, q_x_app, q_x_ext, q_x_put, q_x_exp, q_x_try, q_x_raise, q_x_frz, q_x_pas, q_x_brk, q_x_cnt, q_xs_nil, q_xs_cons, q_lv_d, q_lv_nx, q_lv_new, q_lv_o, q_lv_exc, q_deref_d, q_deref_o, q_derefs_nil, q_derefs_cons, q_asD_d, q_asDs_nil, q_asDs_cons, q_asI_i, q_asB_b, q_asS_s, q_bop_add, q_bop_sub, q_bop_mul, q_bop_mul_s, q_bop_fdiv, q_bop_mod, q_bop_pow, q_bop_add_str, q_bop_add_tup, q_bop_add_lst, q_cop_eq, q_cop_ne, q_cop_lt_i, q_cop_lt_b, q_cop_lt_s, q_cop_gt_i, q_cop_gt_s, q_cop_le_i, q_cop_ge_i, q_cop_in, q_cop_nin, q_cop_is_n, q_cop_is_b, q_cop_isn_n, q_mem_tup, q_mem_lst, q_mem_1, q_len_str, q_len_tup, q_len_lst, q_bi_abs, q_bi_max, q_bi_min, q_bi_all, q_bi_any, q_bi_sum, q_bi_int_i, q_bi_int_b, q_bi_str_i, q_bi_list_t, q_bi_list_l, q_bi_sum_t, q_bi_max1_l, q_bi_max1_t, q_bi_min1_l, q_bi_min1_t, q_rev_t, q_rev_l, q_rev_s, q_lrev_t, q_bi_tuple_t, q_bi_tuple_l, q_it_tup, q_it_lst, q_it_str, q_at_tup, q_at_lst, q_at_str, q_cut_tup, q_cut_lst, q_cut_str, q_setv, q_okSl_va, q_frSl_va, q_okSl_no, q_frSl_no, q_okSl_sl, q_frSl_sl, q_bn_nil, q_bn_cons, q_bt_n, q_bt_t, q_own_c, q_call_c, q_sp_nil, q_sp_d, q_sp_o, q_po_nil, q_po_cons, q_nd_nil, q_nd_1, q_eq_ii, q_eq_bb, q_eq_ss, q_eq_nn, q_eq_is, q_eq_si, q_eq_sn, q_eq_ns, q_eq_in, q_eq_ni, q_lc_nil, q_lc_cons, q_wipe_1, q_back_1, q_free_1, q_at0, q_at1, q_at2, q_at3, q_eq_l0, q_eq_t0, q_sl_s, q_fo_nil, runF, startE, finO, outsOf, inoutSlots, slotsFrom, lim, List.getElem?_cons_zero, List.getElem?_cons_succ, List.set_cons_zero, List.set_cons_succ, Option.map_some, List.length_cons, List.length_nil, List.replicate, List.getD_eq_getElem?_getD, Option.getD_some, Option.toList_some, Option.toList_none, List.nil_append, List.cons_append, List.append_nil, reduceCtorEq, if_true, if_false, ite_true, ite_false, isTy, isNum, inR, h, h2]
      · simp [f_is_number, b_is_number, q_bind_ok, q_out_ok, q_bind_exc, q_out_exc, q_seq_ret, q_seq_new, q_seq_brk, q_seq_cnt, q_seq_nx, q_seq_exc, q_opt_some, q_if_t, q_if_f, q_ev_v, q_ev_c, q_ev_g, q_ev_gix, q_ev_gin, q_ev_bin, q_ev_cat, q_cat_l, q_ev_neg, q_ev_not, q_ev_cmp, q_ev_chn, q_ev_and, q_ev_or, q_ev_ite, q_ev_tup, q_ev_lst, q_ev_call, q_ev_bi, q_ev_me, q_ev_isi, q_ev_ix, q_ev_slLo, q_ev_slHi, q_ev_slLH, q_ev_rev, q_ev_gti, q_ev_gsd, q_ev_lrev, q_ev_lc, q_ev_pop, q_evs_nil, q_evs_cons, q_and_1, q_and_2, q_or_1, q_or_2, q_ts_nil, q_ts_1, q_src_it, q_src_r1, q_src_r2, q_src_rd, q_evt, q_lcb, q_x_ret, q_x_retN, q_x_retF, q_x_set, q_x_setN, q_x_unp, q_x_aug, q_x_ite, q_x_whl, q_x_for, q_x_app, q_x_ext, q_x_put, q_x_exp, q_x_try, q_x_raise, q_x_frz, q_x_pas, q_x_brk, q_x_cnt, q_xs_nil, q_xs_cons, q_lv_d, q_lv_nx, q_lv_new, q_lv_o, q_lv_exc, q_deref_d, q_deref_o, q_derefs_nil, q_derefs_cons, q_asD_d, q_asDs_nil, q_asDs_cons, q_asI_i, q_asB_b, q_asS_s, q_bop_add, q_bop_sub, q_bop_mul, q_bop_mul_s, q_bop_fdiv, q_bop_mod, q_bop_pow, q_bop_add_str, q_bop_add_tup, q_bop_add_lst, q_cop_eq, q_cop_ne, q_cop_lt_i, q_cop_lt_b, q_cop_lt_s, q_cop_gt_i, q_cop_gt_s, q_cop_le_i, q_cop_ge_i, q_cop_in, q_cop_nin, q_cop_is_n, q_cop_is_b, q_cop_isn_n, q_mem_tup, q_mem_lst, q_mem_1, q_len_str, q_len_tup, q_len_lst, q_bi_abs, q_bi_max, q_bi_min, q_bi_all, q_bi_any, q_bi_sum, q_bi_int_i, q_bi_int_b, q_bi_str_i, q_bi_list_t, q_bi_list_l, q_bi_sum_t, q_bi_max1_l, q_bi_max1_t, q_bi_min1_l, q_bi_min1_t, q_rev_t, q_rev_l, q_rev_s, q_lrev_t, q_bi_tuple_t, q_bi_tuple_l, q_it_tup, q_it_lst, q_it_str, q_at_tup, q_at_lst, q_at_str, q_cut_tup, q_cut_lst, q_cut_str, q_setv, q_okSl_va, q_frSl_va, q_okSl_no, q_frSl_no, q_okSl_sl, q_frSl_sl, q_bn_nil, q_bn_cons, q_bt_n, q_bt_t, q_own_c, q_call_c, q_sp_nil, q_sp_d, q_sp_o, q_po_nil, q_po_cons, q_nd_nil, q_nd_1, q_eq_ii, q_eq_bb, q_eq_ss, q_eq_nn, q_eq_is, q_eq_si, q_eq_sn, q_eq_ns, q_eq_in, q_eq_ni, q_lc_nil, q_lc_cons, q_wipe_1, q_back_1, q_free_1, q_at0, q_at1, q_at2, q_at3, q_eq_l0, q_eq_t0, q_sl_s, q_fo_nil, runF, startE, finO, outsOf, inoutSlots, slotsFrom, lim, List.getElem?_cons_zero, List.getElem?_cons_succ, List.set_cons_zero, List.set_cons_succ, Option.map_some, List.length_cons, List.length_nil, List.replicate, List.getD_eq_getElem?_getD, Option.getD_some, Option.toList_some, Option.toList_none, List.nil_append, List.cons_append, List.append_nil, reduceCtorEq, if_true, if_false, ite_true, ite_false, isTy, isNum, inR, h, h2]
    · simp [f_is_number, b_is_number, q_bind_ok, q_out_ok, q_bind_exc, q_out_exc, q_seq_ret, q_seq_new, q_seq_brk, q_seq_cnt, q_seq_nx, q_seq_exc, q_opt_some, q_if_t, q_if_f, q_ev_v, q_ev_c, q_ev_g, q_ev_gix, q_ev_gin, q_ev_bin, q_ev_cat, q_cat_l, q_ev_neg, q_ev_not, q_ev_cmp, q_ev_chn, q_ev_and, q_ev_or, q_ev_ite, q_ev_tup, q_ev_lst, q_ev_call, q_ev_bi, q_ev_me, q_ev_isi, q_ev_ix, q_ev_slLo, q_ev_slHi, q_ev_slLH, q_ev_rev, q_ev_gti, q_ev_gsd, q_ev_lrev, q_ev_lc, q_ev_pop, q_evs_nil, q_evs_cons, q_and_1, q_and_2, q_or_1, q_or_2, q_ts_nil, q_ts_1, q_src_it, q_src_r1, q_src_r2, q_src_rd, q_evt, q_lcb, q_x_ret, q_x_retN, q_x_retF, q_x_set, q_x_setN, q_x_unp, q_x_aug, q_x_ite, q_x_whl, q_x_for, q_x_app, q_x_ext, q_x_put, q_x_exp, q_x_try, q_x_raise, q_x_frz, q_x_pas, q_x_brk, q_x_cnt, q_xs_nil, q_xs_cons, q_lv_d, q_lv_nx, q_lv_new, q_lv_o, q_lv_exc, q_deref_d, q_deref_o, q_derefs_nil, q_derefs_cons, q_asD_d, q_asDs_nil, q_asDs_cons, q_asI_i, q_asB_b, q_asS_s, q_bop_add, q_bop_sub, q_bop_mul, q_bop_mul_s, q_bop_fdiv, q_bop_mod, q_bop_pow, q_bop_add_str, q_bop_add_tup, q_bop_add_lst, q_cop_eq, q_cop_ne, q_cop_lt_i, q_cop_lt_b, q_cop_lt_s, q_cop_gt_i, q_cop_gt_s, q_cop_le_i, q_cop_ge_i, q_cop_in, q_cop_nin, q_cop_is_n, q_cop_is_b, q_cop_isn_n, q_mem_tup, q_mem_lst, q_mem_1, q_len_str, q_len_tup, q_len_lst, q_bi_abs, q_bi_max, q_bi_min, q_bi_all, q_bi_any, q_bi_sum, q_bi_int_i, q_bi_int_b, q_bi_str_i, q_bi_list_t, q_bi_list_l, q_bi_sum_t, q_bi_max1_l, q_bi_max1_t, q_bi_min1_l, q_bi_min1_t, q_rev_t, q_rev_l, q_rev_s, q_lrev_t, q_bi_tuple_t, q_bi_tuple_l, q_it_tup, q_it_lst, q_it_str, q_at_tup, q_at_lst, q_at_str, q_cut_tup, q_cut_lst, q_cut_str, q_setv, q_okSl_va, q_frSl_va, q_okSl_no, q_frSl_no, q_okSl_sl, q_frSl_sl, q_bn_nil, q_bn_cons, q_bt_n, q_bt_t, q_own_c, q_call_c, q_sp_nil, q_sp_d, q_sp_o, q_po_nil, q_po_cons, q_nd_nil, q_nd_1, q_eq_ii, q_eq_bb, q_eq_ss, q_eq_nn, q_eq_is, q_eq_si, q_eq_sn, q_eq_ns, q_eq_in, q_eq_ni, q_lc_nil, q_lc_cons, q_wipe_1, q_back_1, q_free_1, q_at0, q_at1, q_at2, q_at3, q_eq_l0, q_eq_t0, q_sl_s, q_fo_nil, runF, startE, finO, outsOf, inoutSlots, slotsFrom, lim, List.getElem?_cons_zero, List.getElem?_cons_succ, List.set_cons_zero, List.set_cons_succ, Option.map_some, List.length_cons, List.length_nil, List.replicate, List.getD_eq_getElem?_getD, Option.getD_some, Option.toList_some, Option.toList_none, List.nil_append, List.cons_append, List.append_nil, reduceCtorEq, if_true, if_false, ite_true, ite_false, isTy, isNum, inR, h]
  | _ => rfl
theorem dBools_map : ∀ bs : List Bool, dBools (bs.map .bl) = some bs
  | [] => rfl
  | b :: bs => by
    show (dBools (bs.map .bl)).map (b :: ·) = _
    rw [dBools_map bs]
    rfl
theorem bi_all_map (bs : List Bool) : Mini.bi .all [.lst (bs.map .bl)] = some (.bl (bs.all id)) := by
  rw [q_bi_all, dBools_map]
  rfl
theorem bi_any_map (bs : List Bool) : Mini.bi .any [.lst (bs.map .bl)] = some (.bl (bs.any id)) := by
  rw [q_bi_any, dBools_map]
  rfl
/-- all([f(x) for x in xs]) -/
theorem all_lc {α : Type} {xs : List α} {f : α → Bool} : Mini.bi .all [.lst (xs.map fun x => D.bl (f x))] = some (.bl (xs.all f)) := by
  have h := bi_all_map (xs.map f)
  rw [List.map_map] at h
  have e : (D.bl ∘ f) = fun x => D.bl (f x) := rfl
  rw [e] at h
  rw [h]
  simp [List.all_map]
theorem any_lc {α : Type} {xs : List α} {f : α → Bool} : Mini.bi .any [.lst (xs.map fun x => D.bl (f x))] = some (.bl (xs.any f)) := by
  have h := bi_any_map (xs.map f)
  rw [List.map_map] at h
  have e : (D.bl ∘ f) = fun x => D.bl (f x) := rfl
  rw [e] at h
  rw [h]
  simp [List.any_map]
/-- a comprehension over items that come from a list -/
theorem lc_of {α : Type} {i : Nat} {ρ : En} {s : Sl} {elt : EvF Rv} {a : α → D} {g : α → D} (hi : ρ[i]? = some s) {xs : List α} (h : ∀ x ∈ xs, elt (ρ.set i (.val (a x))) = .ok (.d (g x)) (ρ.set i (.val (a x)))) (hz : xs.length ≤ lim) :
    lcGo (.n i) [i] (lcBody (evTs []) elt) (xs.map a) [] ρ = .ok (xs.map g) ρ := by
  have key : ∀ (xs : List α) (acc : List D), (∀ x ∈ xs, elt (ρ.set i (.val (a x))) = .ok (.d (g x)) (ρ.set i (.val (a x)))) → acc.length + xs.length ≤ lim → lcGo (.n i) [i] (lcBody (evTs []) elt) (xs.map a) acc ρ = .ok (acc ++ xs.map g) ρ := by
    intro xs
    induction xs with
    | nil =>
      intro acc _ hz
      have := lc_pure (f := fun _ => true) (g := id) (ifs := evTs []) (elt := elt) (acc := acc) (xs := []) hi (fun x hx => by cases hx) (fun x hx => by cases hx) hz
      simpa using this
    | cons x xs ih =>
      intro acc h hz
      rw [List.length_cons] at hz
      have h1 := lc_pure (f := fun _ => true) (g := fun _ => g x) (ifs := evTs []) (elt := elt) (acc := acc) (xs := [a x]) hi (fun y hy => rfl) (fun y hy _ => by
        cases List.mem_singleton.mp hy
        exact h x (List.mem_cons_self ..)) (by rw [List.length_singleton]; omega)
      have h2 := ih (acc ++ [g x]) (fun y hy => h y (List.mem_cons_of_mem _ hy)) (by rw [List.length_append, List.length_singleton]; omega)
      rw [List.map_cons]
      rw [q_lc_cons] at h1 ⊢
      revert h1
      cases bindT (.n i) (a x) (wipeE ρ [i]) with
      | none => intro h1; cases h1
      | some ρ1 =>
        simp only []
        cases lcBody (evTs []) elt ρ1 with
        | bad => intro h1; cases h1
        | exc _ _ _ => intro h1; cases h1
        | ok o ρ2 =>
          simp only []
          split
          · rw [q_lc_nil]
            split
            · intro h1
              simp at h1
              obtain ⟨e1, e2⟩ := h1
              rw [e1, e2]
              show lcGo _ _ _ _ (acc ++ [g x]) ρ = _
              rw [h2]
              simp
            · intro h1; cases h1
          · intro h1; cases h1
  have := key xs [] h (by simpa using hz)
  rw [this, List.nil_append]
theorem F_ist (d : D) : f_is_text.F [d] = .ok (.bl (isTxt d)) [] := by
  cases d with
  | str cs =>
    by_cases h : (30 : Int) < (cs.length : Int)
    · have h2 : ¬ cs.length ≤ 30 := by omega
      simp [f_is_text, b_is_text, q_bind_ok, q_out_ok, q_bind_exc, q_out_exc, q_seq_ret, q_seq_new, q_seq_brk, q_seq_cnt, q_seq_nx, q_seq_exc, q_opt_some, q_if_t, q_if_f, q_ev_v, q_ev_c, q_ev_g, q_ev_gix, q_ev_gin, q_ev_bin, q_ev_cat, q_cat_l, q_ev_neg, q_ev_not, q_ev_cmp, q_ev_chn, q_ev_and, q_ev_or, q_ev_ite, q_ev_tup, q_ev_lst, q_ev_call, q_ev_bi, q_ev_me, q_ev_isi, q_ev_ix, q_ev_slLo, q_ev_slHi, q_ev_slLH, q_ev_rev, q_ev_gti, q_ev_gsd, q_ev_lrev, q_ev_lc, q_ev_pop, q_evs_nil, q_evs_cons, q_and_1, q_and_2, q_or_1, q_or_2, q_ts_nil, q_ts_1, q_src_it, q_src_r1, q_src_r2, q_src_rd, q_evt, q_lcb, q_x_ret, q_x_retN, q_x_retF, q_x_set, q_x_setN, q_x_unp, q_x_aug, q_x_ite, q_x_whl, q_x_for, q_x_app, q_x_ext, q_x_put, q_x_exp, q_x_try, q_x_raise, q_x_frz, q_x_pas, q_x_brk, q_x_cnt, q_xs_nil, q_xs_cons, q_lv_d, q_lv_nx, q_lv_new, q_lv_o, q_lv_exc, q_deref_d, q_deref_o, q_derefs_nil, q_derefs_cons, q_asD_d, q_asDs_nil, q_asDs_cons, q_asI_i, q_asB_b, q_asS_s, q_bop_add, q_bop_sub, q_bop_mul, q_bop_mul_s, q_bop_fdiv, q_bop_mod, q_bop_pow, q_bop_add_str, q_bop_add_tup, q_bop_add_lst, q_cop_eq, q_cop_ne, q_cop_lt_i, q_cop_lt_b, q_cop_lt_s, q_cop_gt_i, q_cop_gt_s, q_cop_le_i, q_cop_ge_i, q_cop_in, q_cop_nin, q_cop_is_n, q_cop_is_b, q_cop_isn_n, q_mem_tup, q_mem_lst, q_mem_1, q_len_str, q_len_tup, q_len_lst, q_bi_abs, q_bi_max, q_bi_min, q_bi_all, q_bi_any, q_bi_sum, q_bi_int_i, q_bi_int_b, q_bi_str_i, q_bi_list_t, q_bi_list_l, q_bi_sum_t, q_bi_max1_l, q_bi_max1_t, q_bi_min1_l, q_bi_min1_t, q_rev_t, q_rev_l, q_rev_s, q_lrev_t, q_bi_tuple_t, q_bi_tuple_l, q_it_tup, q_it_lst, q_it_str, q_at_tup, q_at_lst, q_at_str, q_cut_tup, q_cut_lst, q_cut_str, q_setv, q_okSl_va, q_frSl_va, q_okSl_no, q_frSl_no, q_okSl_sl, q_frSl_sl, q_bn_nil, q_bn_cons, q_bt_n, q_bt_t, q_own_c, q_call_c, q_sp_nil, q_sp_d, q_sp_o, q_po_nil, q_po_cons, q_nd_nil, q_nd_1, q_eq_ii, q_eq_bb, q_eq_ss, q_eq_nn, q_eq_is, q_eq_si, q_eq_sn, q_eq_ns, q_eq_in, q_eq_ni, q_lc_nil, q_lc_cons, q_wipe_1, q_back_1, q_free_1, q_at0, q_at1, q_at2, q_at3, q_eq_l0, q_eq_t0, q_sl_s, q_fo_nil, runF, startE, finO, outsOf, inoutSlots, slotsFrom, lim, List.getElem?_cons_zero, List.getElem?_cons_succ, List.set_cons_zero, List.set_cons_succ, Option.map_some, List.length_cons, List.length_nil, List.replicate, List.getD_eq_getElem?_getD, Option.getD_some, Option.toList_some, Option.toList_none, List.nil_append, List.cons_append, List.append_nil, reduceCtorEq, if_true, if_false, ite_true, ite_false, isTy, isTxt, h, h2]
    · have h2 : cs.length ≤ 30 := by omega
      have e : lcGo (.n 1) [1] (lcBody (evTs []) (evE e_is_text_1)) (cs.map fun c => .str [c]) [] [.val (.str cs), .no] = .ok (cs.map fun c => .bl (decide (c ∈ abc))) [.val (.str cs), .no] := by
        refine lc_of (s := .no) rfl (fun c hc => ?_) (Nat.le_trans h2 (by decide))
        simp [e_is_text_1, q_bind_ok, q_out_ok, q_bind_exc, q_out_exc, q_seq_ret, q_seq_new, q_seq_brk, q_seq_cnt, q_seq_nx, q_seq_exc, q_opt_some, q_if_t, q_if_f, q_ev_v, q_ev_c, q_ev_g, q_ev_gix, q_ev_gin, q_ev_bin, q_ev_cat, q_cat_l, q_ev_neg, q_ev_not, q_ev_cmp, q_ev_chn, q_ev_and, q_ev_or, q_ev_ite, q_ev_tup, q_ev_lst, q_ev_call, q_ev_bi, q_ev_me, q_ev_isi, q_ev_ix, q_ev_slLo, q_ev_slHi, q_ev_slLH, q_ev_rev, q_ev_gti, q_ev_gsd, q_ev_lrev, q_ev_lc, q_ev_pop, q_evs_nil, q_evs_cons, q_and_1, q_and_2, q_or_1, q_or_2, q_ts_nil, q_ts_1, q_src_it, q_src_r1, q_src_r2, q_src_rd, q_evt, q_lcb, q_x_ret, q_x_retN, q_x_retF, q_x_set, q_x_setN, q_x_unp, q_x_aug, q_x_ite, q_x_whl, q_x_for, q_x_app, q_x_ext, q_x_put, q_x_exp, q_x_try, q_x_raise, q_x_frz, q_x_pas, q_x_brk, q_x_cnt, q_xs_nil, q_xs_cons, q_lv_d, q_lv_nx, q_lv_new, q_lv_o, q_lv_exc, q_deref_d, q_deref_o, q_derefs_nil, q_derefs_cons, q_asD_d, q_asDs_nil, q_asDs_cons, q_asI_i, q_asB_b, q_asS_s, q_bop_add, q_bop_sub, q_bop_mul, q_bop_mul_s, q_bop_fdiv, q_bop_mod, q_bop_pow, q_bop_add_str, q_bop_add_tup, q_bop_add_lst, q_cop_eq, q_cop_ne, q_cop_lt_i, q_cop_lt_b, q_cop_lt_s, q_cop_gt_i, q_cop_gt_s, q_cop_le_i, q_cop_ge_i, q_cop_in, q_cop_nin, q_cop_is_n, q_cop_is_b, q_cop_isn_n, q_mem_tup, q_mem_lst, q_mem_1, q_len_str, q_len_tup, q_len_lst, q_bi_abs, q_bi_max, q_bi_min, q_bi_all, q_bi_any, q_bi_sum, q_bi_int_i, q_bi_int_b, q_bi_str_i, q_bi_list_t, q_bi_list_l, q_bi_sum_t, q_bi_max1_l, q_bi_max1_t, q_bi_min1_l, q_bi_min1_t, q_rev_t, q_rev_l, q_rev_s, q_lrev_t, q_bi_tuple_t, q_bi_tuple_l, q_it_tup, q_it_lst, q_it_str, q_at_tup, q_at_lst, q_at_str, q_cut_tup, q_cut_lst, q_cut_str, q_setv, q_okSl_va, q_frSl_va, q_okSl_no, q_frSl_no, q_okSl_sl, q_frSl_sl, q_bn_nil, q_bn_cons, q_bt_n, q_bt_t, q_own_c, q_call_c, q_sp_nil, q_sp_d, q_sp_o, q_po_nil, q_po_cons, q_nd_nil, q_nd_1, q_eq_ii, q_eq_bb, q_eq_ss, q_eq_nn, q_eq_is, q_eq_si, q_eq_sn, q_eq_ns, q_eq_in, q_eq_ni, q_lc_nil, q_lc_cons, q_wipe_1, q_back_1, q_free_1, q_at0, q_at1, q_at2, q_at3, q_eq_l0, q_eq_t0, q_sl_s, q_fo_nil, runF, startE, finO, outsOf, inoutSlots, slotsFrom, lim, List.getElem?_cons_zero, List.getElem?_cons_succ, List.set_cons_zero, List.set_cons_succ, Option.map_some, List.length_cons, List.length_nil, List.replicate, List.getD_eq_getElem?_getD, Option.getD_some, Option.toList_some, Option.toList_none, List.nil_append, List.cons_append, List.append_nil, reduceCtorEq, if_true, if_false, ite_true, ite_false, abc]
      have e2 := all_lc (xs := cs) (f := fun c => decide (c ∈ abc))
      simp [f_is_text, b_is_text, q_bind_ok, q_out_ok, q_bind_exc, q_out_exc, q_seq_ret, q_seq_new, q_seq_brk, q_seq_cnt, q_seq_nx, q_seq_exc, q_opt_some, q_if_t, q_if_f, q_ev_v, q_ev_c, q_ev_g, q_ev_gix, q_ev_gin, q_ev_bin, q_ev_cat, q_cat_l, q_ev_neg, q_ev_not, q_ev_cmp, q_ev_chn, q_ev_and, q_ev_or, q_ev_ite, q_ev_tup, q_ev_lst, q_ev_call, q_ev_bi, q_ev_me, q_ev_isi, q_ev_ix, q_ev_slLo, q_ev_slHi, q_ev_slLH, q_ev_rev, q_ev_gti, q_ev_gsd, q_ev_lrev, q_ev_lc, q_ev_pop, q_evs_nil, q_evs_cons, q_and_1, q_and_2, q_or_1, q_or_2, q_ts_nil, q_ts_1, q_src_it, q_src_r1, q_src_r2, q_src_rd, q_evt, q_lcb, q_x_ret, q_x_retN, q_x_retF, q_x_set, q_x_setN, q_x_unp, q_x_aug, q_x_ite, q_x_whl, q_x_for, q_x_app, q_x_ext, q_x_put, q_x_exp, q_x_try, q_x_raise, q_x_frz, q_x_pas, q_x_brk, q_x_cnt, q_xs_nil, q_xs_cons, q_lv_d, q_lv_nx, q_lv_new, q_lv_o, q_lv_exc, q_deref_d, q_deref_o, q_derefs_nil, q_derefs_cons, q_asD_d, q_asDs_nil, q_asDs_cons, q_asI_i, q_asB_b, q_asS_s, q_bop_add, q_bop_sub, q_bop_mul, q_bop_mul_s, q_bop_fdiv, q_bop_mod, q_bop_pow, q_bop_add_str, q_bop_add_tup, q_bop_add_lst, q_cop_eq, q_cop_ne, q_cop_lt_i, q_cop_lt_b, q_cop_lt_s, q_cop_gt_i, q_cop_gt_s, q_cop_le_i, q_cop_ge_i, q_cop_in, q_cop_nin, q_cop_is_n, q_cop_is_b, q_cop_isn_n, q_mem_tup, q_mem_lst, q_mem_1, q_len_str, q_len_tup, q_len_lst, q_bi_abs, q_bi_max, q_bi_min, q_bi_all, q_bi_any, q_bi_sum, q_bi_int_i, q_bi_int_b, q_bi_str_i, q_bi_list_t, q_bi_list_l, q_bi_sum_t, q_bi_max1_l, q_bi_max1_t, q_bi_min1_l, q_bi_min1_t, q_rev_t, q_rev_l, q_rev_s, q_lrev_t, q_bi_tuple_t, q_bi_tuple_l, q_it_tup, q_it_lst, q_it_str, q_at_tup, q_at_lst, q_at_str, q_cut_tup, q_cut_lst, q_cut_str, q_setv, q_okSl_va, q_frSl_va, q_okSl_no, q_frSl_no, q_okSl_sl, q_frSl_sl, q_bn_nil, q_bn_cons, q_bt_n, q_bt_t, q_own_c, q_call_c, q_sp_nil, q_sp_d, q_sp_o, q_po_nil, q_po_cons, q_nd_nil, q_nd_1, q_eq_ii, q_eq_bb, q_eq_ss, q_eq_nn, q_eq_is, q_eq_si, q_eq_sn, q_eq_ns, q_eq_in, q_eq_ni, q_lc_nil, q_lc_cons, q_wipe_1, q_back_1, q_free_1, q_at0, q_at1, q_at2, q_at3, q_eq_l0, q_eq_t0, q_sl_s, q_fo_nil, runF, startE, finO, outsOf, inoutSlots, slotsFrom, lim, List.getElem?_cons_zero, List.getElem?_cons_succ, List.set_cons_zero, List.set_cons_succ, Option.map_some, List.length_cons, List.length_nil, List.replicate, List.getD_eq_getElem?_getD, Option.getD_some, Option.toList_some, Option.toList_none, List.nil_append, List.cons_append, List.append_nil, reduceCtorEq, if_true, if_false, ite_true, ite_false, isTy, isTxt, h, h2, e, e2, -q_bi_all]
  | _ => rfl
theorem F_isl (d : D) : f_is_list.F [d] = .ok (.bl (isLst d)) [] := by
  cases d with
  | tup ds =>
    by_cases h : (ds.length : Int) ≤ 12
    · have h2 : ds.length ≤ 12 := by omega
      have e : lcGo (.n 1) [1] (lcBody (evTs []) (evE e_is_list_1)) ds [] [.val (.tup ds), .no] = .ok (ds.map fun d => .bl (isNum d)) [.val (.tup ds), .no] := by
        refine lc_map (s := .no) rfl (fun c hc => ?_) (Nat.le_trans h2 (by decide))
        simp [e_is_list_1, q_bind_ok, q_out_ok, q_bind_exc, q_out_exc, q_seq_ret, q_seq_new, q_seq_brk, q_seq_cnt, q_seq_nx, q_seq_exc, q_opt_some, q_if_t, q_if_f, q_ev_v, q_ev_c, q_ev_g, q_ev_gix, q_ev_gin, q_ev_bin, q_ev_cat, q_cat_l, q_ev_neg, q_ev_not, q_ev_cmp, q_ev_chn, q_ev_and, q_ev_or, q_ev_ite, q_ev_tup, q_ev_lst, q_ev_call, q_ev_bi, q_ev_me, q_ev_isi, q_ev_ix, q_ev_slLo, q_ev_slHi, q_ev_slLH, q_ev_rev, q_ev_gti, q_ev_gsd, q_ev_lrev, q_ev_lc, q_ev_pop, q_evs_nil, q_evs_cons, q_and_1, q_and_2, q_or_1, q_or_2, q_ts_nil, q_ts_1, q_src_it, q_src_r1, q_src_r2, q_src_rd, q_evt, q_lcb, q_x_ret, q_x_retN, q_x_retF, q_x_set, q_x_setN, q_x_unp, q_x_aug, q_x_ite, q_x_whl, q_x_for, q_x_app, q_x_ext, q_x_put, q_x_exp, q_x_try, q_x_raise, q_x_frz, q_x_pas, q_x_brk, q_x_cnt, q_xs_nil, q_xs_cons, q_lv_d, q_lv_nx, q_lv_new, q_lv_o, q_lv_exc, q_deref_d, q_deref_o, q_derefs_nil, q_derefs_cons, q_asD_d, q_asDs_nil, q_asDs_cons, q_asI_i, q_asB_b, q_asS_s, q_bop_add, q_bop_sub, q_bop_mul, q_bop_mul_s, q_bop_fdiv, q_bop_mod, q_bop_pow, q_bop_add_str, q_bop_add_tup, q_bop_add_lst, q_cop_eq, q_cop_ne, q_cop_lt_i, q_cop_lt_b, q_cop_lt_s, q_cop_gt_i, q_cop_gt_s, q_cop_le_i, q_cop_ge_i, q_cop_in, q_cop_nin, q_cop_is_n, q_cop_is_b, q_cop_isn_n, q_mem_tup, q_mem_lst, q_mem_1, q_len_str, q_len_tup, q_len_lst, q_bi_abs, q_bi_max, q_bi_min, q_bi_all, q_bi_any, q_bi_sum, q_bi_int_i, q_bi_int_b, q_bi_str_i, q_bi_list_t, q_bi_list_l, q_bi_sum_t, q_bi_max1_l, q_bi_max1_t, q_bi_min1_l, q_bi_min1_t, q_rev_t, q_rev_l, q_rev_s, q_lrev_t, q_bi_tuple_t, q_bi_tuple_l, q_it_tup, q_it_lst, q_it_str, q_at_tup, q_at_lst, q_at_str, q_cut_tup, q_cut_lst, q_cut_str, q_setv, q_okSl_va, q_frSl_va, q_okSl_no, q_frSl_no, q_okSl_sl, q_frSl_sl, q_bn_nil, q_bn_cons, q_bt_n, q_bt_t, q_own_c, q_call_c, q_sp_nil, q_sp_d, q_sp_o, q_po_nil, q_po_cons, q_nd_nil, q_nd_1, q_eq_ii, q_eq_bb, q_eq_ss, q_eq_nn, q_eq_is, q_eq_si, q_eq_sn, q_eq_ns, q_eq_in, q_eq_ni, q_lc_nil, q_lc_cons, q_wipe_1, q_back_1, q_free_1, q_at0, q_at1, q_at2, q_at3, q_eq_l0, q_eq_t0, q_sl_s, q_fo_nil, runF, startE, finO, outsOf, inoutSlots, slotsFrom, lim, List.getElem?_cons_zero, List.getElem?_cons_succ, List.set_cons_zero, List.set_cons_succ, Option.map_some, List.length_cons, List.length_nil, List.replicate, List.getD_eq_getElem?_getD, Option.getD_some, Option.toList_some, Option.toList_none, List.nil_append, List.cons_append, List.append_nil, reduceCtorEq, if_true, if_false, ite_true, ite_false, md_is_number, F_isn]
      have e2 := all_lc (xs := ds) (f := isNum)
      simp [f_is_list, b_is_list, q_bind_ok, q_out_ok, q_bind_exc, q_out_exc, q_seq_ret, q_seq_new, q_seq_brk, q_seq_cnt, q_seq_nx, q_seq_exc, q_opt_some, q_if_t, q_if_f, q_ev_v, q_ev_c, q_ev_g, q_ev_gix, q_ev_gin, q_ev_bin, q_ev_cat, q_cat_l, q_ev_neg, q_ev_not, q_ev_cmp, q_ev_chn, q_ev_and, q_ev_or, q_ev_ite, q_ev_tup, q_ev_lst, q_ev_call, q_ev_bi, q_ev_me, q_ev_isi, q_ev_ix, q_ev_slLo, q_ev_slHi, q_ev_slLH, q_ev_rev, q_ev_gti, q_ev_gsd, q_ev_lrev, q_ev_lc, q_ev_pop, q_evs_nil, q_evs_cons, q_and_1, q_and_2, q_or_1, q_or_2, q_ts_nil, q_ts_1, q_src_it, q_src_r1, q_src_r2, q_src_rd, q_evt, q_lcb, q_x_ret, q_x_retN, q_x_retF, q_x_set, q_x_setN, q_x_unp, q_x_aug, q_x_ite, q_x_whl, q_x_for, q_x_app, q_x_ext, q_x_put, q_x_exp, q_x_try, q_x_raise, q_x_frz, q_x_pas, q_x_brk, q_x_cnt, q_xs_nil, q_xs_cons, q_lv_d, q_lv_nx, q_lv_new, q_lv_o, q_lv_exc, q_deref_d, q_deref_o, q_derefs_nil, q_derefs_cons, q_asD_d, q_asDs_nil, q_asDs_cons, q_asI_i, q_asB_b, q_asS_s, q_bop_add, q_bop_sub, q_bop_mul, q_bop_mul_s, q_bop_fdiv, q_bop_mod, q_bop_pow, q_bop_add_str, q_bop_add_tup, q_bop_add_lst, q_cop_eq, q_cop_ne, q_cop_lt_i, q_cop_lt_b, q_cop_lt_s, q_cop_gt_i, q_cop_gt_s, q_cop_le_i, q_cop_ge_i, q_cop_in, q_cop_nin, q_cop_is_n, q_cop_is_b, q_cop_isn_n, q_mem_tup, q_mem_lst, q_mem_1, q_len_str, q_len_tup, q_len_lst, q_bi_abs, q_bi_max, q_bi_min, q_bi_all, q_bi_any, q_bi_sum, q_bi_int_i, q_bi_int_b, q_bi_str_i, q_bi_list_t, q_bi_list_l, q_bi_sum_t, q_bi_max1_l, q_bi_max1_t, q_bi_min1_l, q_bi_min1_t, q_rev_t, q_rev_l, q_rev_s, q_lrev_t, q_bi_tuple_t, q_bi_tuple_l, q_it_tup, q_it_lst, q_it_str, q_at_tup, q_at_lst, q_at_str, q_cut_tup, q_cut_lst, q_cut_str, q_setv, q_okSl_va, q_frSl_va, q_okSl_no, q_frSl_no, q_okSl_sl, q_frSl_sl, q_bn_nil, q_bn_cons, q_bt_n, q_bt_t, q_own_c, q_call_c, q_sp_nil, q_sp_d, q_sp_o, q_po_nil, q_po_cons, q_nd_nil, q_nd_1, q_eq_ii, q_eq_bb, q_eq_ss, q_eq_nn, q_eq_is, q_eq_si, q_eq_sn, q_eq_ns, q_eq_in, q_eq_ni, q_lc_nil, q_lc_cons, q_wipe_1, q_back_1, q_free_1, q_at0, q_at1, q_at2, q_at3, q_eq_l0, q_eq_t0, q_sl_s, q_fo_nil, runF, startE, finO, outsOf, inoutSlots, slotsFrom, lim, List.getElem?_cons_zero, List.getElem?_cons_succ, List.set_cons_zero, List.set_cons_succ, Option.map_some, List.length_cons, List.length_nil, List.replicate, List.getD_eq_getElem?_getD, Option.getD_some, Option.toList_some, Option.toList_none, List.nil_append, List.cons_append, List.append_nil, reduceCtorEq, if_true, if_false, ite_true, ite_false, isTy, isLst, h, h2, e, e2, -q_bi_all]
    · have h2 : ¬ ds.length ≤ 12 := by omega
      simp [f_is_list, b_is_list, q_bind_ok, q_out_ok, q_bind_exc, q_out_exc, q_seq_ret, q_seq_new, q_seq_brk, q_seq_cnt, q_seq_nx, q_seq_exc, q_opt_some, q_if_t, q_if_f, q_ev_v, q_ev_c, q_ev_g, q_ev_gix, q_ev_gin, q_ev_bin, q_ev_cat, q_cat_l, q_ev_neg, q_ev_not, q_ev_cmp, q_ev_chn, q_ev_and, q_ev_or, q_ev_ite, q_ev_tup, q_ev_lst, q_ev_call, q_ev_bi, q_ev_me, q_ev_isi, q_ev_ix, q_ev_slLo, q_ev_slHi, q_ev_slLH, q_ev_rev, q_ev_gti, q_ev_gsd, q_ev_lrev, q_ev_lc, q_ev_pop, q_evs_nil, q_evs_cons, q_and_1, q_and_2, q_or_1, q_or_2, q_ts_nil, q_ts_1, q_src_it, q_src_r1, q_src_r2, q_src_rd, q_evt, q_lcb, q_x_ret, q_x_retN, q_x_retF, q_x_set, q_x_setN, q_x_unp, q_x_aug, q_x_ite, q_x_whl, q_x_for, q_x_app, q_x_ext, q_x_put, q_x_exp, q_x_try, q_x_raise, q_x_frz, q_x_pas, q_x_brk, q_x_cnt, q_xs_nil, q_xs_cons, q_lv_d, q_lv_nx, q_lv_new, q_lv_o, q_lv_exc, q_deref_d, q_deref_o, q_derefs_nil, q_derefs_cons, q_asD_d, q_asDs_nil, q_asDs_cons, q_asI_i, q_asB_b, q_asS_s, q_bop_add, q_bop_sub, q_bop_mul, q_bop_mul_s, q_bop_fdiv, q_bop_mod, q_bop_pow, q_bop_add_str, q_bop_add_tup, q_bop_add_lst, q_cop_eq, q_cop_ne, q_cop_lt_i, q_cop_lt_b, q_cop_lt_s, q_cop_gt_i, q_cop_gt_s, q_cop_le_i, q_cop_ge_i, q_cop_in, q_cop_nin, q_cop_is_n, q_cop_is_b, q_cop_isn_n, q_mem_tup, q_mem_lst, q_mem_1, q_len_str, q_len_tup, q_len_lst, q_bi_abs, q_bi_max, q_bi_min, q_bi_all, q_bi_any, q_bi_sum, q_bi_int_i, q_bi_int_b, q_bi_str_i, q_bi_list_t, q_bi_list_l, q_bi_sum_t, q_bi_max1_l, q_bi_max1_t, q_bi_min1_l, q_bi_min1_t, q_rev_t, q_rev_l, q_rev_s, q_lrev_t, q_bi_tuple_t, q_bi_tuple_l, q_it_tup, q_it_lst, q_it_str, q_at_tup, q_at_lst, q_at_str, q_cut_tup, q_cut_lst, q_cut_str, q_setv, q_okSl_va, q_frSl_va, q_okSl_no, q_frSl_no, q_okSl_sl, q_frSl_sl, q_bn_nil, q_bn_cons, q_bt_n, q_bt_t, q_own_c, q_call_c, q_sp_nil, q_sp_d, q_sp_o, q_po_nil, q_po_cons, q_nd_nil, q_nd_1, q_eq_ii, q_eq_bb, q_eq_ss, q_eq_nn, q_eq_is, q_eq_si, q_eq_sn, q_eq_ns, q_eq_in, q_eq_ni, q_lc_nil, q_lc_cons, q_wipe_1, q_back_1, q_free_1, q_at0, q_at1, q_at2, q_at3, q_eq_l0, q_eq_t0, q_sl_s, q_fo_nil, runF, startE, finO, outsOf, inoutSlots, slotsFrom, lim, List.getElem?_cons_zero, List.getElem?_cons_succ, List.set_cons_zero, List.set_cons_succ, Option.map_some, List.length_cons, List.length_nil, List.replicate, List.getD_eq_getElem?_getD, Option.getD_some, Option.toList_some, Option.toList_none, List.nil_append, List.cons_append, List.append_nil, reduceCtorEq, if_true, if_false, ite_true, ite_false, isTy, isLst, h, h2]
  | _ => rfl
theorem F_isv (k : List Nat) (d : D) : f_is_value.F [.str k, d] = .ok (.bl (isVal k d)) [] := by
  by_cases h1 : k = kN
  · subst h1
    simp [f_is_value, b_is_value, q_bind_ok, q_out_ok, q_bind_exc, q_out_exc, q_seq_ret, q_seq_new, q_seq_brk, q_seq_cnt, q_seq_nx, q_seq_exc, q_opt_some, q_if_t, q_if_f, q_ev_v, q_ev_c, q_ev_g, q_ev_gix, q_ev_gin, q_ev_bin, q_ev_cat, q_cat_l, q_ev_neg, q_ev_not, q_ev_cmp, q_ev_chn, q_ev_and, q_ev_or, q_ev_ite, q_ev_tup, q_ev_lst, q_ev_call, q_ev_bi, q_ev_me, q_ev_isi, q_ev_ix, q_ev_slLo, q_ev_slHi, q_ev_slLH, q_ev_rev, q_ev_gti, q_ev_gsd, q_ev_lrev, q_ev_lc, q_ev_pop, q_evs_nil, q_evs_cons, q_and_1, q_and_2, q_or_1, q_or_2, q_ts_nil, q_ts_1, q_src_it, q_src_r1, q_src_r2, q_src_rd, q_evt, q_lcb, q_x_ret, q_x_retN, q_x_retF, q_x_set, q_x_setN, q_x_unp, q_x_aug, q_x_ite, q_x_whl, q_x_for, q_x_app, q_x_ext, q_x_put, q_x_exp, q_x_try, q_x_raise, q_x_frz, q_x_pas, q_x_brk, q_x_cnt, q_xs_nil, q_xs_cons, q_lv_d, q_lv_nx, q_lv_new, q_lv_o, q_lv_exc, q_deref_d, q_deref_o, q_derefs_nil, q_derefs_cons, q_asD_d, q_asDs_nil, q_asDs_cons, q_asI_i, q_asB_b, q_asS_s, q_bop_add, q_bop_sub, q_bop_mul, q_bop_mul_s, q_bop_fdiv, q_bop_mod, q_bop_pow, q_bop_add_str, q_bop_add_tup, q_bop_add_lst, q_cop_eq, q_cop_ne, q_cop_lt_i, q_cop_lt_b, q_cop_lt_s, q_cop_gt_i, q_cop_gt_s, q_cop_le_i, q_cop_ge_i, q_cop_in, q_cop_nin, q_cop_is_n, q_cop_is_b, q_cop_isn_n, q_mem_tup, q_mem_lst, q_mem_1, q_len_str, q_len_tup, q_len_lst, q_bi_abs, q_bi_max, q_bi_min, q_bi_all, q_bi_any, q_bi_sum, q_bi_int_i, q_bi_int_b, q_bi_str_i, q_bi_list_t, q_bi_list_l, q_bi_sum_t, q_bi_max1_l, q_bi_max1_t, q_bi_min1_l, q_bi_min1_t, q_rev_t, q_rev_l, q_rev_s, q_lrev_t, q_bi_tuple_t, q_bi_tuple_l, q_it_tup, q_it_lst, q_it_str, q_at_tup, q_at_lst, q_at_str, q_cut_tup, q_cut_lst, q_cut_str, q_setv, q_okSl_va, q_frSl_va, q_okSl_no, q_frSl_no, q_okSl_sl, q_frSl_sl, q_bn_nil, q_bn_cons, q_bt_n, q_bt_t, q_own_c, q_call_c, q_sp_nil, q_sp_d, q_sp_o, q_po_nil, q_po_cons, q_nd_nil, q_nd_1, q_eq_ii, q_eq_bb, q_eq_ss, q_eq_nn, q_eq_is, q_eq_si, q_eq_sn, q_eq_ns, q_eq_in, q_eq_ni, q_lc_nil, q_lc_cons, q_wipe_1, q_back_1, q_free_1, q_at0, q_at1, q_at2, q_at3, q_eq_l0, q_eq_t0, q_sl_s, q_fo_nil, runF, startE, finO, outsOf, inoutSlots, slotsFrom, lim, List.getElem?_cons_zero, List.getElem?_cons_succ, List.set_cons_zero, List.set_cons_succ, Option.map_some, List.length_cons, List.length_nil, List.replicate, List.getD_eq_getElem?_getD, Option.getD_some, Option.toList_some, Option.toList_none, List.nil_append, List.cons_append, List.append_nil, reduceCtorEq, if_true, if_false, ite_true, ite_false, md_is_number, F_isn, isVal]
  · by_cases h2 : k = kT
    · subst h2
      cases d <;> rfl
    · by_cases h3 : k = kS
      · subst h3
        simp [f_is_value, b_is_value, q_bind_ok, q_out_ok, q_bind_exc, q_out_exc, q_seq_ret, q_seq_new, q_seq_brk, q_seq_cnt, q_seq_nx, q_seq_exc, q_opt_some, q_if_t, q_if_f, q_ev_v, q_ev_c, q_ev_g, q_ev_gix, q_ev_gin, q_ev_bin, q_ev_cat, q_cat_l, q_ev_neg, q_ev_not, q_ev_cmp, q_ev_chn, q_ev_and, q_ev_or, q_ev_ite, q_ev_tup, q_ev_lst, q_ev_call, q_ev_bi, q_ev_me, q_ev_isi, q_ev_ix, q_ev_slLo, q_ev_slHi, q_ev_slLH, q_ev_rev, q_ev_gti, q_ev_gsd, q_ev_lrev, q_ev_lc, q_ev_pop, q_evs_nil, q_evs_cons, q_and_1, q_and_2, q_or_1, q_or_2, q_ts_nil, q_ts_1, q_src_it, q_src_r1, q_src_r2, q_src_rd, q_evt, q_lcb, q_x_ret, q_x_retN, q_x_retF, q_x_set, q_x_setN, q_x_unp, q_x_aug, q_x_ite, q_x_whl, q_x_for, q_x_app, q_x_ext, q_x_put, q_x_exp, q_x_try, q_x_raise, q_x_frz, q_x_pas, q_x_brk, q_x_cnt, q_xs_nil, q_xs_cons, q_lv_d, q_lv_nx, q_lv_new, q_lv_o, q_lv_exc, q_deref_d, q_deref_o, q_derefs_nil, q_derefs_cons, q_asD_d, q_asDs_nil, q_asDs_cons, q_asI_i, q_asB_b, q_asS_s, q_bop_add, q_bop_sub, q_bop_mul, q_bop_mul_s, q_bop_fdiv, q_bop_mod, q_bop_pow, q_bop_add_str, q_bop_add_tup, q_bop_add_lst, q_cop_eq, q_cop_ne, q_cop_lt_i, q_cop_lt_b, q_cop_lt_s, q_cop_gt_i, q_cop_gt_s, q_cop_le_i, q_cop_ge_i, q_cop_in, q_cop_nin, q_cop_is_n, q_cop_is_b, q_cop_isn_n, q_mem_tup, q_mem_lst, q_mem_1, q_len_str, q_len_tup, q_len_lst, q_bi_abs, q_bi_max, q_bi_min, q_bi_all, q_bi_any, q_bi_sum, q_bi_int_i, q_bi_int_b, q_bi_str_i, q_bi_list_t, q_bi_list_l, q_bi_sum_t, q_bi_max1_l, q_bi_max1_t, q_bi_min1_l, q_bi_min1_t, q_rev_t, q_rev_l, q_rev_s, q_lrev_t, q_bi_tuple_t, q_bi_tuple_l, q_it_tup, q_it_lst, q_it_str, q_at_tup, q_at_lst, q_at_str, q_cut_tup, q_cut_lst, q_cut_str, q_setv, q_okSl_va, q_frSl_va, q_okSl_no, q_frSl_no, q_okSl_sl, q_frSl_sl, q_bn_nil, q_bn_cons, q_bt_n, q_bt_t, q_own_c, q_call_c, q_sp_nil, q_sp_d, q_sp_o, q_po_nil, q_po_cons, q_nd_nil, q_nd_1, q_eq_ii, q_eq_bb, q_eq_ss, q_eq_nn, q_eq_is, q_eq_si, q_eq_sn, q_eq_ns, q_eq_in, q_eq_ni, q_lc_nil, q_lc_cons, q_wipe_1, q_back_1, q_free_1, q_at0, q_at1, q_at2, q_at3, q_eq_l0, q_eq_t0, q_sl_s, q_fo_nil, runF, startE, finO, outsOf, inoutSlots, slotsFrom, lim, List.getElem?_cons_zero, List.getElem?_cons_succ, List.set_cons_zero, List.set_cons_succ, Option.map_some, List.length_cons, List.length_nil, List.replicate, List.getD_eq_getElem?_getD, Option.getD_some, Option.toList_some, Option.toList_none, List.nil_append, List.cons_append, List.append_nil, reduceCtorEq, if_true, if_false, ite_true, ite_false, md_is_text, F_ist, isVal]
      · simp [f_is_value, b_is_value, q_bind_ok, q_out_ok, q_bind_exc, q_out_exc, q_seq_ret, q_seq_new, q_seq_brk, q_seq_cnt, q_seq_nx, q_seq_exc, q_opt_some, q_if_t, q_if_f, q_ev_v, q_ev_c, q_ev_g, q_ev_gix, q_ev_gin, q_ev_bin, q_ev_cat, q_cat_l, q_ev_neg, q_ev_not, q_ev_cmp, q_ev_chn, q_ev_and, q_ev_or, q_ev_ite, q_ev_tup, q_ev_lst, q_ev_call, q_ev_bi, q_ev_me, q_ev_isi, q_ev_ix, q_ev_slLo, q_ev_slHi, q_ev_slLH, q_ev_rev, q_ev_gti, q_ev_gsd, q_ev_lrev, q_ev_lc, q_ev_pop, q_evs_nil, q_evs_cons, q_and_1, q_and_2, q_or_1, q_or_2, q_ts_nil, q_ts_1, q_src_it, q_src_r1, q_src_r2, q_src_rd, q_evt, q_lcb, q_x_ret, q_x_retN, q_x_retF, q_x_set, q_x_setN, q_x_unp, q_x_aug, q_x_ite, q_x_whl, q_x_for, q_x_app, q_x_ext, q_x_put, q_x_exp, q_x_try, q_x_raise, q_x_frz, q_x_pas, q_x_brk, q_x_cnt, q_xs_nil, q_xs_cons, q_lv_d, q_lv_nx, q_lv_new, q_lv_o, q_lv_exc, q_deref_d, q_deref_o, q_derefs_nil, q_derefs_cons, q_asD_d, q_asDs_nil, q_asDs_cons, q_asI_i, q_asB_b, q_asS_s, q_bop_add, q_bop_sub, q_bop_mul, q_bop_mul_s, q_bop_fdiv, q_bop_mod, q_bop_pow, q_bop_add_str, q_bop_add_tup, q_bop_add_lst, q_cop_eq, q_cop_ne, q_cop_lt_i, q_cop_lt_b, q_cop_lt_s, q_cop_gt_i, q_cop_gt_s, q_cop_le_i, q_cop_ge_i, q_cop_in, q_cop_nin, q_cop_is_n, q_cop_is_b, q_cop_isn_n, q_mem_tup, q_mem_lst, q_mem_1, q_len_str, q_len_tup, q_len_lst, q_bi_abs, q_bi_max, q_bi_min, q_bi_all, q_bi_any, q_bi_sum, q_bi_int_i, q_bi_int_b, q_bi_str_i, q_bi_list_t, q_bi_list_l, q_bi_sum_t, q_bi_max1_l, q_bi_max1_t, q_bi_min1_l, q_bi_min1_t, q_rev_t, q_rev_l, q_rev_s, q_lrev_t, q_bi_tuple_t, q_bi_tuple_l, q_it_tup, q_it_lst, q_it_str, q_at_tup, q_at_lst, q_at_str, q_cut_tup, q_cut_lst, q_cut_str, q_setv, q_okSl_va, q_frSl_va, q_okSl_no, q_frSl_no, q_okSl_sl, q_frSl_sl, q_bn_nil, q_bn_cons, q_bt_n, q_bt_t, q_own_c, q_call_c, q_sp_nil, q_sp_d, q_sp_o, q_po_nil, q_po_cons, q_nd_nil, q_nd_1, q_eq_ii, q_eq_bb, q_eq_ss, q_eq_nn, q_eq_is, q_eq_si, q_eq_sn, q_eq_ns, q_eq_in, q_eq_ni, q_lc_nil, q_lc_cons, q_wipe_1, q_back_1, q_free_1, q_at0, q_at1, q_at2, q_at3, q_eq_l0, q_eq_t0, q_sl_s, q_fo_nil, runF, startE, finO, outsOf, inoutSlots, slotsFrom, lim, List.getElem?_cons_zero, List.getElem?_cons_succ, List.set_cons_zero, List.set_cons_succ, Option.map_some, List.length_cons, List.length_nil, List.replicate, List.getD_eq_getElem?_getD, Option.getD_some, Option.toList_some, Option.toList_none, List.nil_append, List.cons_append, List.append_nil, reduceCtorEq, if_true, if_false, ite_true, ite_false, md_is_list, F_isl, isVal, h1, h2, h3]
theorem deq_refl : ∀ d : D, deq d d = true
  | .non => rfl
  | .bl b => by simp [deq]
  | .int b => by simp [deq]
  | .str b => by simp [deq]
  | .tup ds => by
    have := deqs_refl ds
    simpa [deq] using this
  | .lst ds => by
    have := deqs_refl ds
    simpa [deq] using this
where deqs_refl : ∀ ds : List D, deqs ds ds = true
  | [] => rfl
  | d :: ds => by
    have h1 := deq_refl d
    have h2 := deqs_refl ds
    simp [deqs, h1, h2]
theorem eq_refl' {d : D} (h : dep d ≤ 60) : eqO d d = some true := by
  unfold eqO
  rw [if_pos (by omega), deq_refl]
end K05
end

section
set_option Elab.async false
set_option linter.all false
set_option maxRecDepth 100000
set_option maxHeartbeats 4000000
namespace K05
open PySem L2 Mini
/-! ### small things -/
theorem at_ex {α : Type} {xs : List α} {k : Int} (h0 : 0 ≤ k) (h1 : k < xs.length) : ∃ x ∈ xs, atI xs k = some x := by
  have h2 : k.toNat < xs.length := by omega
  refine ⟨xs[k.toNat], List.getElem_mem h2, ?_⟩
  unfold atI ixN
  rw [if_pos h0, if_pos h1]
  simp [h2]
theorem at_nat {α : Type} {xs : List α} {k : Nat} {x : α} (h : xs[k]? = some x) : atI xs (k : Int) = some x := by
  have h2 : k < xs.length := (List.getElem?_eq_some_iff.mp h).1
  unfold atI ixN
  rw [if_pos (by omega), if_pos (by omega)]
  simpa using h
theorem aI_nn (c : Int) : 0 ≤ aI c := by unfold aI; split <;> omega
theorem joinC_signs : ∀ cs : List Nat, joinC [] (cs.map fun c => [c]) = cs
  | [] => rfl
  | [c] => rfl
  | c :: d :: r => by
    show [c] ++ [] ++ joinC [] ((d :: r).map fun c => [c]) = _
    rw [joinC_signs (d :: r)]
    rfl
theorem dStrs_map : ∀ cs : List (List Nat), dStrs (cs.map .str) = some cs
  | [] => rfl
  | c :: r => by
    show (dStrs (r.map .str)).map (c :: ·) = _
    rw [dStrs_map r]
    rfl
theorem me_join {s : List Nat} {x : List D} {ys : List (List Nat)} (h : dStrs x = some ys) (hz : (joinC s ys).length ≤ 1000000) : me .join (.str s) [.lst x] = some (.str (joinC s ys)) := by
  show (match dStrs x with
    | some ys => if (joinC s ys).length ≤ lim then some (D.str (joinC s ys)) else none
    | none => none) = _
  rw [h]
  exact if_pos hz
/-- ''.join([f(x) for x in xs]), each one sign -/
theorem join_signs {α : Type} {xs : List α} {f : α → Nat} (h : xs.length ≤ 1000000) : me .join (.str []) [.lst (xs.map fun x => D.str [f x])] = some (.str (xs.map f)) := by
  have e : (xs.map fun x => D.str [f x]) = ((xs.map f).map fun c => [c]).map D.str := by
    rw [List.map_map, List.map_map]
    rfl
  rw [e, me_join (dStrs_map _) (by rw [joinC_signs, List.length_map]; exact h), joinC_signs]
/-! ### letters, values -/
def letters : List Nat := [110, 116, 115, 108]
def isV (l : Nat) (d : D) : Bool := if l = 110 then isNum d else if l = 116 then isTru d else if l = 115 then isTxt d else isLst d
def kL_ (l : Nat) : List Nat := if l = 110 then kN else if l = 116 then kT else if l = 115 then kS else kL
theorem F_lkind {l : Nat} (h : l ∈ letters) : f__law_kind.F [.str [l]] = .ok (.str (kL_ l)) [] := by
  simp only [letters, List.mem_cons, List.not_mem_nil, or_false] at h
  rcases h with rfl | rfl | rfl | rfl <;> rfl
theorem fd4 {c : Int} (h : 0 ≤ c) (k : Int) (hk : 0 < k) : 0 ≤ c.fdiv k := Int.fdiv_nonneg h (by omega)
def nums8 : List D := [.int 1000000, .int (-1000000), .int 999999, .int 500000, .int 500001, .int (-500000), .int 1000, .int (-1000)]
theorem F_number {c : Int} : ∃ n : Int, f__law_number.F [.int c] = .ok (.int n) [] ∧ inR n = true := by
  have z := fm c (many := 4) (by omega)
  have h : c.fmod 4 = 0 ∨ c.fmod 4 = 1 ∨ c.fmod 4 = 2 ∨ c.fmod 4 = 3 := by omega
  rcases h with e | e | e | e
  · have z2 := fm (c.fdiv 4) (many := 7) (by omega)
    exact ⟨(c.fdiv 4).fmod 7 - 3, by simp [f__law_number, b__law_number, q_bind_ok, q_out_ok, q_bind_exc, q_out_exc, q_seq_ret, q_seq_new, q_seq_brk, q_seq_cnt, q_seq_nx, q_seq_exc, q_opt_some, q_if_t, q_if_f, q_ev_v, q_ev_c, q_ev_g, q_ev_gix, q_ev_gin, q_ev_bin, q_ev_cat, q_cat_l, q_ev_neg, q_ev_not, q_ev_cmp, q_ev_chn, q_ev_and, q_ev_or, q_ev_ite, q_ev_tup, q_ev_lst, q_ev_call, q_ev_bi, q_ev_me, q_ev_isi, q_ev_ix, q_ev_slLo, q_ev_slHi, q_ev_slLH, q_ev_rev, q_ev_gti, q_ev_gsd, q_ev_lrev, q_ev_lc, q_ev_pop, q_evs_nil, q_evs_cons, q_and_1, q_and_2, q_or_1, q_or_2, q_ts_nil, q_ts_1, q_src_it, q_src_r1, q_src_r2, q_src_rd, q_evt, q_lcb, q_x_ret, q_x_retN, q_x_retF, q_x_set, q_x_setN, q_x_unp, q_x_aug, q_x_ite, q_x_whl, q_x_for, q_x_app, q_x_ext, q_x_put, q_x_exp, q_x_try, q_x_raise, q_x_frz, q_x_pas, q_x_brk, q_x_cnt, q_xs_nil, q_xs_cons, q_lv_d, q_lv_nx, q_lv_new, q_lv_o, q_lv_exc, q_deref_d, q_deref_o, q_derefs_nil, q_derefs_cons, q_asD_d, q_asDs_nil, q_asDs_cons, q_asI_i, q_asB_b, q_asS_s, q_bop_add, q_bop_sub, q_bop_mul, q_bop_mul_s, q_bop_fdiv, q_bop_mod, q_bop_pow, q_bop_add_str, q_bop_add_tup, q_bop_add_lst, q_cop_eq, q_cop_ne, q_cop_lt_i, q_cop_lt_b, q_cop_lt_s, q_cop_gt_i, q_cop_gt_s, q_cop_le_i, q_cop_ge_i, q_cop_in, q_cop_nin, q_cop_is_n, q_cop_is_b, q_cop_isn_n, q_mem_tup, q_mem_lst, q_mem_1, q_len_str, q_len_tup, q_len_lst, q_bi_abs, q_bi_max, q_bi_min, q_bi_all, q_bi_any, q_bi_sum, q_bi_int_i, q_bi_int_b, q_bi_str_i, q_bi_list_t, q_bi_list_l, q_bi_sum_t, q_bi_max1_l, q_bi_max1_t, q_bi_min1_l, q_bi_min1_t, q_rev_t, q_rev_l, q_rev_s, q_lrev_t, q_bi_tuple_t, q_bi_tuple_l, q_it_tup, q_it_lst, q_it_str, q_at_tup, q_at_lst, q_at_str, q_cut_tup, q_cut_lst, q_cut_str, q_setv, q_okSl_va, q_frSl_va, q_okSl_no, q_frSl_no, q_okSl_sl, q_frSl_sl, q_bn_nil, q_bn_cons, q_bt_n, q_bt_t, q_own_c, q_call_c, q_sp_nil, q_sp_d, q_sp_o, q_po_nil, q_po_cons, q_nd_nil, q_nd_1, q_eq_ii, q_eq_bb, q_eq_ss, q_eq_nn, q_eq_is, q_eq_si, q_eq_sn, q_eq_ns, q_eq_in, q_eq_ni, q_lc_nil, q_lc_cons, q_wipe_1, q_back_1, q_free_1, q_at0, q_at1, q_at2, q_at3, q_eq_l0, q_eq_t0, q_sl_s, q_fo_nil, runF, startE, finO, outsOf, inoutSlots, slotsFrom, lim, List.getElem?_cons_zero, List.getElem?_cons_succ, List.set_cons_zero, List.set_cons_succ, Option.map_some, List.length_cons, List.length_nil, List.replicate, List.getD_eq_getElem?_getD, Option.getD_some, Option.toList_some, Option.toList_none, List.nil_append, List.cons_append, List.append_nil, reduceCtorEq, if_true, if_false, ite_true, ite_false, e], inR_of (by omega) (by omega)⟩
  · have z2 := fm (c.fdiv 4) (many := 61) (by omega)
    exact ⟨(c.fdiv 4).fmod 61 - 30, by simp [f__law_number, b__law_number, q_bind_ok, q_out_ok, q_bind_exc, q_out_exc, q_seq_ret, q_seq_new, q_seq_brk, q_seq_cnt, q_seq_nx, q_seq_exc, q_opt_some, q_if_t, q_if_f, q_ev_v, q_ev_c, q_ev_g, q_ev_gix, q_ev_gin, q_ev_bin, q_ev_cat, q_cat_l, q_ev_neg, q_ev_not, q_ev_cmp, q_ev_chn, q_ev_and, q_ev_or, q_ev_ite, q_ev_tup, q_ev_lst, q_ev_call, q_ev_bi, q_ev_me, q_ev_isi, q_ev_ix, q_ev_slLo, q_ev_slHi, q_ev_slLH, q_ev_rev, q_ev_gti, q_ev_gsd, q_ev_lrev, q_ev_lc, q_ev_pop, q_evs_nil, q_evs_cons, q_and_1, q_and_2, q_or_1, q_or_2, q_ts_nil, q_ts_1, q_src_it, q_src_r1, q_src_r2, q_src_rd, q_evt, q_lcb, q_x_ret, q_x_retN, q_x_retF, q_x_set, q_x_setN, q_x_unp, q_x_aug, q_x_ite, q_x_whl, q_x_for, q_x_app, q_x_ext, q_x_put, q_x_exp, q_x_try, q_x_raise, q_x_frz, q_x_pas, q_x_brk, q_x_cnt, q_xs_nil, q_xs_cons, q_lv_d, q_lv_nx, q_lv_new, q_lv_o, q_lv_exc, q_deref_d, q_deref_o, q_derefs_nil, q_derefs_cons, q_asD_d, q_asDs_nil, q_asDs_cons, q_asI_i, q_asB_b, q_asS_s, q_bop_add, q_bop_sub, q_bop_mul, q_bop_mul_s, q_bop_fdiv, q_bop_mod, q_bop_pow, q_bop_add_str, q_bop_add_tup, q_bop_add_lst, q_cop_eq, q_cop_ne, q_cop_lt_i, q_cop_lt_b, q_cop_lt_s, q_cop_gt_i, q_cop_gt_s, q_cop_le_i, q_cop_ge_i, q_cop_in, q_cop_nin, q_cop_is_n, q_cop_is_b, q_cop_isn_n, q_mem_tup, q_mem_lst, q_mem_1, q_len_str, q_len_tup, q_len_lst, q_bi_abs, q_bi_max, q_bi_min, q_bi_all, q_bi_any, q_bi_sum, q_bi_int_i, q_bi_int_b, q_bi_str_i, q_bi_list_t, q_bi_list_l, q_bi_sum_t, q_bi_max1_l, q_bi_max1_t, q_bi_min1_l, q_bi_min1_t, q_rev_t, q_rev_l, q_rev_s, q_lrev_t, q_bi_tuple_t, q_bi_tuple_l, q_it_tup, q_it_lst, q_it_str, q_at_tup, q_at_lst, q_at_str, q_cut_tup, q_cut_lst, q_cut_str, q_setv, q_okSl_va, q_frSl_va, q_okSl_no, q_frSl_no, q_okSl_sl, q_frSl_sl, q_bn_nil, q_bn_cons, q_bt_n, q_bt_t, q_own_c, q_call_c, q_sp_nil, q_sp_d, q_sp_o, q_po_nil, q_po_cons, q_nd_nil, q_nd_1, q_eq_ii, q_eq_bb, q_eq_ss, q_eq_nn, q_eq_is, q_eq_si, q_eq_sn, q_eq_ns, q_eq_in, q_eq_ni, q_lc_nil, q_lc_cons, q_wipe_1, q_back_1, q_free_1, q_at0, q_at1, q_at2, q_at3, q_eq_l0, q_eq_t0, q_sl_s, q_fo_nil, runF, startE, finO, outsOf, inoutSlots, slotsFrom, lim, List.getElem?_cons_zero, List.getElem?_cons_succ, List.set_cons_zero, List.set_cons_succ, Option.map_some, List.length_cons, List.length_nil, List.replicate, List.getD_eq_getElem?_getD, Option.getD_some, Option.toList_some, Option.toList_none, List.nil_append, List.cons_append, List.append_nil, reduceCtorEq, if_true, if_false, ite_true, ite_false, e], inR_of (by omega) (by omega)⟩
  · have z2 := fm (c.fdiv 4) (many := 8) (by omega)
    obtain ⟨w, hw, e2⟩ := at_ex (xs := nums8) z2.1 z2.2
    have hi : ∀ w ∈ nums8, ∃ n : Int, w = .int n ∧ inR n = true := by
      intro w hw
      simp only [nums8, List.mem_cons, List.not_mem_nil, or_false] at hw
      rcases hw with rfl | rfl | rfl | rfl | rfl | rfl | rfl | rfl <;> exact ⟨_, rfl, rfl⟩
    obtain ⟨n, rfl, hn⟩ := hi w hw
    unfold nums8 at e2
    exact ⟨n, by simp [f__law_number, b__law_number, q_bind_ok, q_out_ok, q_bind_exc, q_out_exc, q_seq_ret, q_seq_new, q_seq_brk, q_seq_cnt, q_seq_nx, q_seq_exc, q_opt_some, q_if_t, q_if_f, q_ev_v, q_ev_c, q_ev_g, q_ev_gix, q_ev_gin, q_ev_bin, q_ev_cat, q_cat_l, q_ev_neg, q_ev_not, q_ev_cmp, q_ev_chn, q_ev_and, q_ev_or, q_ev_ite, q_ev_tup, q_ev_lst, q_ev_call, q_ev_bi, q_ev_me, q_ev_isi, q_ev_ix, q_ev_slLo, q_ev_slHi, q_ev_slLH, q_ev_rev, q_ev_gti, q_ev_gsd, q_ev_lrev, q_ev_lc, q_ev_pop, q_evs_nil, q_evs_cons, q_and_1, q_and_2, q_or_1, q_or_2, q_ts_nil, q_ts_1, q_src_it, q_src_r1, q_src_r2, q_src_rd, q_evt, q_lcb, q_x_ret, q_x_retN, q_x_retF, q_x_set, q_x_setN, q_x_unp, q_x_aug, q_x_ite, q_x_whl, q_x_for, q_x_app, q_x_ext, q_x_put, q_x_exp, q_x_try, q_x_raise, q_x_frz, q_x_pas, q_x_brk, q_x_cnt, q_xs_nil, q_xs_cons, q_lv_d, q_lv_nx, q_lv_new, q_lv_o, q_lv_exc, q_deref_d, q_deref_o, q_derefs_nil, q_derefs_cons, q_asD_d, q_asDs_nil, q_asDs_cons, q_asI_i, q_asB_b, q_asS_s, q_bop_add, q_bop_sub, q_bop_mul, q_bop_mul_s, q_bop_fdiv, q_bop_mod, q_bop_pow, q_bop_add_str, q_bop_add_tup, q_bop_add_lst, q_cop_eq, q_cop_ne, q_cop_lt_i, q_cop_lt_b, q_cop_lt_s, q_cop_gt_i, q_cop_gt_s, q_cop_le_i, q_cop_ge_i, q_cop_in, q_cop_nin, q_cop_is_n, q_cop_is_b, q_cop_isn_n, q_mem_tup, q_mem_lst, q_mem_1, q_len_str, q_len_tup, q_len_lst, q_bi_abs, q_bi_max, q_bi_min, q_bi_all, q_bi_any, q_bi_sum, q_bi_int_i, q_bi_int_b, q_bi_str_i, q_bi_list_t, q_bi_list_l, q_bi_sum_t, q_bi_max1_l, q_bi_max1_t, q_bi_min1_l, q_bi_min1_t, q_rev_t, q_rev_l, q_rev_s, q_lrev_t, q_bi_tuple_t, q_bi_tuple_l, q_it_tup, q_it_lst, q_it_str, q_at_tup, q_at_lst, q_at_str, q_cut_tup, q_cut_lst, q_cut_str, q_setv, q_okSl_va, q_frSl_va, q_okSl_no, q_frSl_no, q_okSl_sl, q_frSl_sl, q_bn_nil, q_bn_cons, q_bt_n, q_bt_t, q_own_c, q_call_c, q_sp_nil, q_sp_d, q_sp_o, q_po_nil, q_po_cons, q_nd_nil, q_nd_1, q_eq_ii, q_eq_bb, q_eq_ss, q_eq_nn, q_eq_is, q_eq_si, q_eq_sn, q_eq_ns, q_eq_in, q_eq_ni, q_lc_nil, q_lc_cons, q_wipe_1, q_back_1, q_free_1, q_at0, q_at1, q_at2, q_at3, q_eq_l0, q_eq_t0, q_sl_s, q_fo_nil, runF, startE, finO, outsOf, inoutSlots, slotsFrom, lim, List.getElem?_cons_zero, List.getElem?_cons_succ, List.set_cons_zero, List.set_cons_succ, Option.map_some, List.length_cons, List.length_nil, List.replicate, List.getD_eq_getElem?_getD, Option.getD_some, Option.toList_some, Option.toList_none, List.nil_append, List.cons_append, List.append_nil, reduceCtorEq, if_true, if_false, ite_true, ite_false, e, e2], hn⟩
  · have z2 := fm (c.fdiv 4) (many := 2000001) (by omega)
    exact ⟨(c.fdiv 4).fmod 2000001 - 1000000, by simp [f__law_number, b__law_number, q_bind_ok, q_out_ok, q_bind_exc, q_out_exc, q_seq_ret, q_seq_new, q_seq_brk, q_seq_cnt, q_seq_nx, q_seq_exc, q_opt_some, q_if_t, q_if_f, q_ev_v, q_ev_c, q_ev_g, q_ev_gix, q_ev_gin, q_ev_bin, q_ev_cat, q_cat_l, q_ev_neg, q_ev_not, q_ev_cmp, q_ev_chn, q_ev_and, q_ev_or, q_ev_ite, q_ev_tup, q_ev_lst, q_ev_call, q_ev_bi, q_ev_me, q_ev_isi, q_ev_ix, q_ev_slLo, q_ev_slHi, q_ev_slLH, q_ev_rev, q_ev_gti, q_ev_gsd, q_ev_lrev, q_ev_lc, q_ev_pop, q_evs_nil, q_evs_cons, q_and_1, q_and_2, q_or_1, q_or_2, q_ts_nil, q_ts_1, q_src_it, q_src_r1, q_src_r2, q_src_rd, q_evt, q_lcb, q_x_ret, q_x_retN, q_x_retF, q_x_set, q_x_setN, q_x_unp, q_x_aug, q_x_ite, q_x_whl, q_x_for, q_x_app, q_x_ext, q_x_put, q_x_exp, q_x_try, q_x_raise, q_x_frz, q_x_pas, q_x_brk, q_x_cnt, q_xs_nil, q_xs_cons, q_lv_d, q_lv_nx, q_lv_new, q_lv_o, q_lv_exc, q_deref_d, q_deref_o, q_derefs_nil, q_derefs_cons, q_asD_d, q_asDs_nil, q_asDs_cons, q_asI_i, q_asB_b, q_asS_s, q_bop_add, q_bop_sub, q_bop_mul, q_bop_mul_s, q_bop_fdiv, q_bop_mod, q_bop_pow, q_bop_add_str, q_bop_add_tup, q_bop_add_lst, q_cop_eq, q_cop_ne, q_cop_lt_i, q_cop_lt_b, q_cop_lt_s, q_cop_gt_i, q_cop_gt_s, q_cop_le_i, q_cop_ge_i, q_cop_in, q_cop_nin, q_cop_is_n, q_cop_is_b, q_cop_isn_n, q_mem_tup, q_mem_lst, q_mem_1, q_len_str, q_len_tup, q_len_lst, q_bi_abs, q_bi_max, q_bi_min, q_bi_all, q_bi_any, q_bi_sum, q_bi_int_i, q_bi_int_b, q_bi_str_i, q_bi_list_t, q_bi_list_l, q_bi_sum_t, q_bi_max1_l, q_bi_max1_t, q_bi_min1_l, q_bi_min1_t, q_rev_t, q_rev_l, q_rev_s, q_lrev_t, q_bi_tuple_t, q_bi_tuple_l, q_it_tup, q_it_lst, q_it_str, q_at_tup, q_at_lst, q_at_str, q_cut_tup, q_cut_lst, q_cut_str, q_setv, q_okSl_va, q_frSl_va, q_okSl_no, q_frSl_no, q_okSl_sl, q_frSl_sl, q_bn_nil, q_bn_cons, q_bt_n, q_bt_t, q_own_c, q_call_c, q_sp_nil, q_sp_d, q_sp_o, q_po_nil, q_po_cons, q_nd_nil, q_nd_1, q_eq_ii, q_eq_bb, q_eq_ss, q_eq_nn, q_eq_is, q_eq_si, q_eq_sn, q_eq_ns, q_eq_in, q_eq_ni, q_lc_nil, q_lc_cons, q_wipe_1, q_back_1, q_free_1, q_at0, q_at1, q_at2, q_at3, q_eq_l0, q_eq_t0, q_sl_s, q_fo_nil, runF, startE, finO, outsOf, inoutSlots, slotsFrom, lim, List.getElem?_cons_zero, List.getElem?_cons_succ, List.set_cons_zero, List.set_cons_succ, Option.map_some, List.length_cons, List.length_nil, List.replicate, List.getD_eq_getElem?_getD, Option.getD_some, Option.toList_some, Option.toList_none, List.nil_append, List.cons_append, List.append_nil, reduceCtorEq, if_true, if_false, ite_true, ite_false, e], inR_of (by omega) (by omega)⟩
def sg8 : List Nat := [97, 32, 98, 48, 32, 57, 122, 49]
def pk8 (k : Int) : Nat := sg8.getD (k.fmod 8).toNat 0
theorem pk8_at {k : Int} : atI sg8 (k.fmod 8) = some (pk8 k) := by
  have z := fm k (many := 8) (by omega)
  unfold pk8
  have : k.fmod 8 = 0 ∨ k.fmod 8 = 1 ∨ k.fmod 8 = 2 ∨ k.fmod 8 = 3 ∨ k.fmod 8 = 4 ∨ k.fmod 8 = 5 ∨ k.fmod 8 = 6 ∨ k.fmod 8 = 7 := by omega
  rcases this with e | e | e | e | e | e | e | e <;> (rw [e]; rfl)
theorem pk8_mem (k : Int) : pk8 k ∈ abc := by
  have z := fm k (many := 8) (by omega)
  unfold pk8
  have : k.fmod 8 = 0 ∨ k.fmod 8 = 1 ∨ k.fmod 8 = 2 ∨ k.fmod 8 = 3 ∨ k.fmod 8 = 4 ∨ k.fmod 8 = 5 ∨ k.fmod 8 = 6 ∨ k.fmod 8 = 7 := by omega
  rcases this with e | e | e | e | e | e | e | e <;> (rw [e]; decide)
def cnt8 : List D := [.int 0, .int 1, .int 2, .int 3, .int 5, .int 15, .int 16, .int 30]
def cnt9 : List D := [.int 0, .int 1, .int 2, .int 3, .int 4, .int 6, .int 11, .int 12]
theorem F_valueS {c : Int} : ∃ cs, f__law_value.F [.str [115], .int c] = .ok (.str cs) [] ∧ isTxt (.str cs) = true := by
  have z := fm c (many := 8) (by omega)
  obtain ⟨w, hw, e2⟩ := at_ex (xs := cnt8) z.1 z.2
  have hi : ∀ w ∈ cnt8, ∃ n : Int, w = .int n ∧ 0 ≤ n ∧ n ≤ 30 := by
    intro w hw
    simp only [cnt8, List.mem_cons, List.not_mem_nil, or_false] at hw
    rcases hw with rfl | rfl | rfl | rfl | rfl | rfl | rfl | rfl <;> exact ⟨_, rfl, by omega, by omega⟩
  obtain ⟨n, rfl, h0, h1⟩ := hi w hw
  obtain ⟨vs, hl, hb, e3⟩ := draws_ok (c.fdiv 8) n 64 h0 (by omega) (by omega) (by decide)
  unfold cnt8 at e2
  have e4 : lcGo (.n 3) [3] (lcBody (evTs []) (evE e__law_value_1)) (vs.map .int) [] [.val (.str [115]), .val (.int c), .val (.int n), .no] = .ok (vs.map fun k => .str [pk8 k]) [.val (.str [115]), .val (.int c), .val (.int n), .no] := by
    refine lc_of (s := .no) rfl (fun k hk => ?_) (by show vs.length ≤ 1000000; omega)
    have hp := pk8_at (k := k)
    unfold sg8 at hp
    simp [e__law_value_1, q_bind_ok, q_out_ok, q_bind_exc, q_out_exc, q_seq_ret, q_seq_new, q_seq_brk, q_seq_cnt, q_seq_nx, q_seq_exc, q_opt_some, q_if_t, q_if_f, q_ev_v, q_ev_c, q_ev_g, q_ev_gix, q_ev_gin, q_ev_bin, q_ev_cat, q_cat_l, q_ev_neg, q_ev_not, q_ev_cmp, q_ev_chn, q_ev_and, q_ev_or, q_ev_ite, q_ev_tup, q_ev_lst, q_ev_call, q_ev_bi, q_ev_me, q_ev_isi, q_ev_ix, q_ev_slLo, q_ev_slHi, q_ev_slLH, q_ev_rev, q_ev_gti, q_ev_gsd, q_ev_lrev, q_ev_lc, q_ev_pop, q_evs_nil, q_evs_cons, q_and_1, q_and_2, q_or_1, q_or_2, q_ts_nil, q_ts_1, q_src_it, q_src_r1, q_src_r2, q_src_rd, q_evt, q_lcb, q_x_ret, q_x_retN, q_x_retF, q_x_set, q_x_setN, q_x_unp, q_x_aug, q_x_ite, q_x_whl, q_x_for, q_x_app, q_x_ext, q_x_put, q_x_exp, q_x_try, q_x_raise, q_x_frz, q_x_pas, q_x_brk, q_x_cnt, q_xs_nil, q_xs_cons, q_lv_d, q_lv_nx, q_lv_new, q_lv_o, q_lv_exc, q_deref_d, q_deref_o, q_derefs_nil, q_derefs_cons, q_asD_d, q_asDs_nil, q_asDs_cons, q_asI_i, q_asB_b, q_asS_s, q_bop_add, q_bop_sub, q_bop_mul, q_bop_mul_s, q_bop_fdiv, q_bop_mod, q_bop_pow, q_bop_add_str, q_bop_add_tup, q_bop_add_lst, q_cop_eq, q_cop_ne, q_cop_lt_i, q_cop_lt_b, q_cop_lt_s, q_cop_gt_i, q_cop_gt_s, q_cop_le_i, q_cop_ge_i, q_cop_in, q_cop_nin, q_cop_is_n, q_cop_is_b, q_cop_isn_n, q_mem_tup, q_mem_lst, q_mem_1, q_len_str, q_len_tup, q_len_lst, q_bi_abs, q_bi_max, q_bi_min, q_bi_all, q_bi_any, q_bi_sum, q_bi_int_i, q_bi_int_b, q_bi_str_i, q_bi_list_t, q_bi_list_l, q_bi_sum_t, q_bi_max1_l, q_bi_max1_t, q_bi_min1_l, q_bi_min1_t, q_rev_t, q_rev_l, q_rev_s, q_lrev_t, q_bi_tuple_t, q_bi_tuple_l, q_it_tup, q_it_lst, q_it_str, q_at_tup, q_at_lst, q_at_str, q_cut_tup, q_cut_lst, q_cut_str, q_setv, q_okSl_va, q_frSl_va, q_okSl_no, q_frSl_no, q_okSl_sl, q_frSl_sl, q_bn_nil, q_bn_cons, q_bt_n, q_bt_t, q_own_c, q_call_c, q_sp_nil, q_sp_d, q_sp_o, q_po_nil, q_po_cons, q_nd_nil, q_nd_1, q_eq_ii, q_eq_bb, q_eq_ss, q_eq_nn, q_eq_is, q_eq_si, q_eq_sn, q_eq_ns, q_eq_in, q_eq_ni, q_lc_nil, q_lc_cons, q_wipe_1, q_back_1, q_free_1, q_at0, q_at1, q_at2, q_at3, q_eq_l0, q_eq_t0, q_sl_s, q_fo_nil, runF, startE, finO, outsOf, inoutSlots, slotsFrom, lim, List.getElem?_cons_zero, List.getElem?_cons_succ, List.set_cons_zero, List.set_cons_succ, Option.map_some, List.length_cons, List.length_nil, List.replicate, List.getD_eq_getElem?_getD, Option.getD_some, Option.toList_some, Option.toList_none, List.nil_append, List.cons_append, List.append_nil, reduceCtorEq, if_true, if_false, ite_true, ite_false, hp]
  have e5 : me .join (.str []) [.lst (vs.map fun k => D.str [pk8 k])] = some (.str (vs.map pk8)) := join_signs (by omega)
  refine ⟨vs.map pk8, by simp [f__law_value, b__law_value, q_bind_ok, q_out_ok, q_bind_exc, q_out_exc, q_seq_ret, q_seq_new, q_seq_brk, q_seq_cnt, q_seq_nx, q_seq_exc, q_opt_some, q_if_t, q_if_f, q_ev_v, q_ev_c, q_ev_g, q_ev_gix, q_ev_gin, q_ev_bin, q_ev_cat, q_cat_l, q_ev_neg, q_ev_not, q_ev_cmp, q_ev_chn, q_ev_and, q_ev_or, q_ev_ite, q_ev_tup, q_ev_lst, q_ev_call, q_ev_bi, q_ev_me, q_ev_isi, q_ev_ix, q_ev_slLo, q_ev_slHi, q_ev_slLH, q_ev_rev, q_ev_gti, q_ev_gsd, q_ev_lrev, q_ev_lc, q_ev_pop, q_evs_nil, q_evs_cons, q_and_1, q_and_2, q_or_1, q_or_2, q_ts_nil, q_ts_1, q_src_it, q_src_r1, q_src_r2, q_src_rd, q_evt, q_lcb, q_x_ret, q_x_retN, q_x_retF, q_x_set, q_x_setN, q_x_unp, q_x_aug, q_x_ite, q_x_whl, q_x_for, q_x_app, q_x_ext, q_x_put, q_x_exp, q_x_try, q_x_raise, q_x_frz, q_x_pas, q_x_brk, q_x_cnt, q_xs_nil, q_xs_cons, q_lv_d, q_lv_nx, q_lv_new, q_lv_o, q_lv_exc, q_deref_d, q_deref_o, q_derefs_nil, q_derefs_cons, q_asD_d, q_asDs_nil, q_asDs_cons, q_asI_i, q_asB_b, q_asS_s, q_bop_add, q_bop_sub, q_bop_mul, q_bop_mul_s, q_bop_fdiv, q_bop_mod, q_bop_pow, q_bop_add_str, q_bop_add_tup, q_bop_add_lst, q_cop_eq, q_cop_ne, q_cop_lt_i, q_cop_lt_b, q_cop_lt_s, q_cop_gt_i, q_cop_gt_s, q_cop_le_i, q_cop_ge_i, q_cop_in, q_cop_nin, q_cop_is_n, q_cop_is_b, q_cop_isn_n, q_mem_tup, q_mem_lst, q_mem_1, q_len_str, q_len_tup, q_len_lst, q_bi_abs, q_bi_max, q_bi_min, q_bi_all, q_bi_any, q_bi_sum, q_bi_int_i, q_bi_int_b, q_bi_str_i, q_bi_list_t, q_bi_list_l, q_bi_sum_t, q_bi_max1_l, q_bi_max1_t, q_bi_min1_l, q_bi_min1_t, q_rev_t, q_rev_l, q_rev_s, q_lrev_t, q_bi_tuple_t, q_bi_tuple_l, q_it_tup, q_it_lst, q_it_str, q_at_tup, q_at_lst, q_at_str, q_cut_tup, q_cut_lst, q_cut_str, q_setv, q_okSl_va, q_frSl_va, q_okSl_no, q_frSl_no, q_okSl_sl, q_frSl_sl, q_bn_nil, q_bn_cons, q_bt_n, q_bt_t, q_own_c, q_call_c, q_sp_nil, q_sp_d, q_sp_o, q_po_nil, q_po_cons, q_nd_nil, q_nd_1, q_eq_ii, q_eq_bb, q_eq_ss, q_eq_nn, q_eq_is, q_eq_si, q_eq_sn, q_eq_ns, q_eq_in, q_eq_ni, q_lc_nil, q_lc_cons, q_wipe_1, q_back_1, q_free_1, q_at0, q_at1, q_at2, q_at3, q_eq_l0, q_eq_t0, q_sl_s, q_fo_nil, runF, startE, finO, outsOf, inoutSlots, slotsFrom, lim, List.getElem?_cons_zero, List.getElem?_cons_succ, List.set_cons_zero, List.set_cons_succ, Option.map_some, List.length_cons, List.length_nil, List.replicate, List.getD_eq_getElem?_getD, Option.getD_some, Option.toList_some, Option.toList_none, List.nil_append, List.cons_append, List.append_nil, reduceCtorEq, if_true, if_false, ite_true, ite_false, md__law_draws, e2, e3, e4, e5], ?_⟩
  show (decide ((vs.map pk8).length ≤ 30) && (vs.map pk8).all fun c => decide (c ∈ abc)) = true
  rw [Bool.and_eq_true, decide_eq_true_eq, List.all_eq_true]
  refine ⟨by rw [List.length_map]; omega, fun x hx => ?_⟩
  obtain ⟨k, _, rfl⟩ := List.mem_map.mp hx
  exact decide_eq_true (pk8_mem k)
theorem isLst_of {vs : List Int} (h : vs.length ≤ 12) (h2 : ∀ v ∈ vs, inR v = true) : isLst (.tup (vs.map .int)) = true := by
  show (decide ((vs.map D.int).length ≤ 12) && (vs.map D.int).all isNum) = true
  rw [Bool.and_eq_true, decide_eq_true_eq, List.all_eq_true]
  refine ⟨by rw [List.length_map]; exact h, fun x hx => ?_⟩
  obtain ⟨k, hk, rfl⟩ := List.mem_map.mp hx
  exact h2 k hk
/-- what _law_number tells -/
noncomputable def numF (k : Int) : Int := Classical.choose (F_number (c := k))
theorem numF_eq (k : Int) : f__law_number.F [.int k] = .ok (.int (numF k)) [] := (Classical.choose_spec (F_number (c := k))).1
theorem numF_in (k : Int) : inR (numF k) = true := (Classical.choose_spec (F_number (c := k))).2
theorem F_valueL {c : Int} : ∃ vs : List Int, f__law_value.F [.str [108], .int c] = .ok (.tup (vs.map .int)) [] ∧ isLst (.tup (vs.map .int)) = true := by
  have z := fm c (many := 8) (by omega)
  obtain ⟨w, hw, e2⟩ := at_ex (xs := cnt9) z.1 z.2
  have hi : ∀ w ∈ cnt9, ∃ n : Int, w = .int n ∧ 0 ≤ n ∧ n ≤ 12 := by
    intro w hw
    simp only [cnt9, List.mem_cons, List.not_mem_nil, or_false] at hw
    rcases hw with rfl | rfl | rfl | rfl | rfl | rfl | rfl | rfl <;> exact ⟨_, rfl, by omega, by omega⟩
  obtain ⟨n, rfl, h0, h1⟩ := hi w hw
  unfold cnt9 at e2
  by_cases h3 : (c.fdiv 8).fmod 3 = 0
  · obtain ⟨vs, hl, hb, e3⟩ := draws_ok (c.fdiv 24) n 4000 h0 (by omega) (by omega) (by decide)
    have e4 : lcGo (.n 3) [3] (lcBody (evTs []) (evE e__law_value_2)) (vs.map .int) [] [.val (.str [108]), .val (.int c), .val (.int n), .no] = .ok (vs.map fun k => .int (numF k)) [.val (.str [108]), .val (.int c), .val (.int n), .no] := by
      refine lc_of (s := .no) rfl (fun k hk => ?_) (by show vs.length ≤ 1000000; omega)
      simp [e__law_value_2, q_bind_ok, q_out_ok, q_bind_exc, q_out_exc, q_seq_ret, q_seq_new, q_seq_brk, q_seq_cnt, q_seq_nx, q_seq_exc, q_opt_some, q_if_t, q_if_f, q_ev_v, q_ev_c, q_ev_g, q_ev_gix, q_ev_gin, q_ev_bin, q_ev_cat, q_cat_l, q_ev_neg, q_ev_not, q_ev_cmp, q_ev_chn, q_ev_and, q_ev_or, q_ev_ite, q_ev_tup, q_ev_lst, q_ev_call, q_ev_bi, q_ev_me, q_ev_isi, q_ev_ix, q_ev_slLo, q_ev_slHi, q_ev_slLH, q_ev_rev, q_ev_gti, q_ev_gsd, q_ev_lrev, q_ev_lc, q_ev_pop, q_evs_nil, q_evs_cons, q_and_1, q_and_2, q_or_1, q_or_2, q_ts_nil, q_ts_1, q_src_it, q_src_r1, q_src_r2, q_src_rd, q_evt, q_lcb, q_x_ret, q_x_retN, q_x_retF, q_x_set, q_x_setN, q_x_unp, q_x_aug, q_x_ite, q_x_whl, q_x_for, q_x_app, q_x_ext, q_x_put, q_x_exp, q_x_try, q_x_raise, q_x_frz, q_x_pas, q_x_brk, q_x_cnt, q_xs_nil, q_xs_cons, q_lv_d, q_lv_nx, q_lv_new, q_lv_o, q_lv_exc, q_deref_d, q_deref_o, q_derefs_nil, q_derefs_cons, q_asD_d, q_asDs_nil, q_asDs_cons, q_asI_i, q_asB_b, q_asS_s, q_bop_add, q_bop_sub, q_bop_mul, q_bop_mul_s, q_bop_fdiv, q_bop_mod, q_bop_pow, q_bop_add_str, q_bop_add_tup, q_bop_add_lst, q_cop_eq, q_cop_ne, q_cop_lt_i, q_cop_lt_b, q_cop_lt_s, q_cop_gt_i, q_cop_gt_s, q_cop_le_i, q_cop_ge_i, q_cop_in, q_cop_nin, q_cop_is_n, q_cop_is_b, q_cop_isn_n, q_mem_tup, q_mem_lst, q_mem_1, q_len_str, q_len_tup, q_len_lst, q_bi_abs, q_bi_max, q_bi_min, q_bi_all, q_bi_any, q_bi_sum, q_bi_int_i, q_bi_int_b, q_bi_str_i, q_bi_list_t, q_bi_list_l, q_bi_sum_t, q_bi_max1_l, q_bi_max1_t, q_bi_min1_l, q_bi_min1_t, q_rev_t, q_rev_l, q_rev_s, q_lrev_t, q_bi_tuple_t, q_bi_tuple_l, q_it_tup, q_it_lst, q_it_str, q_at_tup, q_at_lst, q_at_str, q_cut_tup, q_cut_lst, q_cut_str, q_setv, q_okSl_va, q_frSl_va, q_okSl_no, q_frSl_no, q_okSl_sl, q_frSl_sl, q_bn_nil, q_bn_cons, q_bt_n, q_bt_t, q_own_c, q_call_c, q_sp_nil, q_sp_d, q_sp_o, q_po_nil, q_po_cons, q_nd_nil, q_nd_1, q_eq_ii, q_eq_bb, q_eq_ss, q_eq_nn, q_eq_is, q_eq_si, q_eq_sn, q_eq_ns, q_eq_in, q_eq_ni, q_lc_nil, q_lc_cons, q_wipe_1, q_back_1, q_free_1, q_at0, q_at1, q_at2, q_at3, q_eq_l0, q_eq_t0, q_sl_s, q_fo_nil, runF, startE, finO, outsOf, inoutSlots, slotsFrom, lim, List.getElem?_cons_zero, List.getElem?_cons_succ, List.set_cons_zero, List.set_cons_succ, Option.map_some, List.length_cons, List.length_nil, List.replicate, List.getD_eq_getElem?_getD, Option.getD_some, Option.toList_some, Option.toList_none, List.nil_append, List.cons_append, List.append_nil, reduceCtorEq, if_true, if_false, ite_true, ite_false, md__law_number, numF_eq]
    refine ⟨vs.map numF, by simp [f__law_value, b__law_value, q_bind_ok, q_out_ok, q_bind_exc, q_out_exc, q_seq_ret, q_seq_new, q_seq_brk, q_seq_cnt, q_seq_nx, q_seq_exc, q_opt_some, q_if_t, q_if_f, q_ev_v, q_ev_c, q_ev_g, q_ev_gix, q_ev_gin, q_ev_bin, q_ev_cat, q_cat_l, q_ev_neg, q_ev_not, q_ev_cmp, q_ev_chn, q_ev_and, q_ev_or, q_ev_ite, q_ev_tup, q_ev_lst, q_ev_call, q_ev_bi, q_ev_me, q_ev_isi, q_ev_ix, q_ev_slLo, q_ev_slHi, q_ev_slLH, q_ev_rev, q_ev_gti, q_ev_gsd, q_ev_lrev, q_ev_lc, q_ev_pop, q_evs_nil, q_evs_cons, q_and_1, q_and_2, q_or_1, q_or_2, q_ts_nil, q_ts_1, q_src_it, q_src_r1, q_src_r2, q_src_rd, q_evt, q_lcb, q_x_ret, q_x_retN, q_x_retF, q_x_set, q_x_setN, q_x_unp, q_x_aug, q_x_ite, q_x_whl, q_x_for, q_x_app, q_x_ext, q_x_put, q_x_exp, q_x_try, q_x_raise, q_x_frz, q_x_pas, q_x_brk, q_x_cnt, q_xs_nil, q_xs_cons, q_lv_d, q_lv_nx, q_lv_new, q_lv_o, q_lv_exc, q_deref_d, q_deref_o, q_derefs_nil, q_derefs_cons, q_asD_d, q_asDs_nil, q_asDs_cons, q_asI_i, q_asB_b, q_asS_s, q_bop_add, q_bop_sub, q_bop_mul, q_bop_mul_s, q_bop_fdiv, q_bop_mod, q_bop_pow, q_bop_add_str, q_bop_add_tup, q_bop_add_lst, q_cop_eq, q_cop_ne, q_cop_lt_i, q_cop_lt_b, q_cop_lt_s, q_cop_gt_i, q_cop_gt_s, q_cop_le_i, q_cop_ge_i, q_cop_in, q_cop_nin, q_cop_is_n, q_cop_is_b, q_cop_isn_n, q_mem_tup, q_mem_lst, q_mem_1, q_len_str, q_len_tup, q_len_lst, q_bi_abs, q_bi_max, q_bi_min, q_bi_all, q_bi_any, q_bi_sum, q_bi_int_i, q_bi_int_b, q_bi_str_i, q_bi_list_t, q_bi_list_l, q_bi_sum_t, q_bi_max1_l, q_bi_max1_t, q_bi_min1_l, q_bi_min1_t, q_rev_t, q_rev_l, q_rev_s, q_lrev_t, q_bi_tuple_t, q_bi_tuple_l, q_it_tup, q_it_lst, q_it_str, q_at_tup, q_at_lst, q_at_str, q_cut_tup, q_cut_lst, q_cut_str, q_setv, q_okSl_va, q_frSl_va, q_okSl_no, q_frSl_no, q_okSl_sl, q_frSl_sl, q_bn_nil, q_bn_cons, q_bt_n, q_bt_t, q_own_c, q_call_c, q_sp_nil, q_sp_d, q_sp_o, q_po_nil, q_po_cons, q_nd_nil, q_nd_1, q_eq_ii, q_eq_bb, q_eq_ss, q_eq_nn, q_eq_is, q_eq_si, q_eq_sn, q_eq_ns, q_eq_in, q_eq_ni, q_lc_nil, q_lc_cons, q_wipe_1, q_back_1, q_free_1, q_at0, q_at1, q_at2, q_at3, q_eq_l0, q_eq_t0, q_sl_s, q_fo_nil, runF, startE, finO, outsOf, inoutSlots, slotsFrom, lim, List.getElem?_cons_zero, List.getElem?_cons_succ, List.set_cons_zero, List.set_cons_succ, Option.map_some, List.length_cons, List.length_nil, List.replicate, List.getD_eq_getElem?_getD, Option.getD_some, Option.toList_some, Option.toList_none, List.nil_append, List.cons_append, List.append_nil, reduceCtorEq, if_true, if_false, ite_true, ite_false, md__law_draws, e2, e3, e4, h3], isLst_of (by rw [List.length_map]; omega) fun v hv => ?_⟩
    obtain ⟨k, _, rfl⟩ := List.mem_map.mp hv
    exact numF_in k
  · obtain ⟨vs, hl, hb, e3⟩ := draws_ok (c.fdiv 24) n 63 h0 (by omega) (by omega) (by decide)
    have e4 : lcGo (.n 3) [3] (lcBody (evTs []) (evE e__law_value_3)) (vs.map .int) [] [.val (.str [108]), .val (.int c), .val (.int n), .no] = .ok (vs.map fun k => .int (k.fmod 9 - 4)) [.val (.str [108]), .val (.int c), .val (.int n), .no] := by
      refine lc_of (s := .no) rfl (fun k hk => ?_) (by show vs.length ≤ 1000000; omega)
      simp [e__law_value_3, q_bind_ok, q_out_ok, q_bind_exc, q_out_exc, q_seq_ret, q_seq_new, q_seq_brk, q_seq_cnt, q_seq_nx, q_seq_exc, q_opt_some, q_if_t, q_if_f, q_ev_v, q_ev_c, q_ev_g, q_ev_gix, q_ev_gin, q_ev_bin, q_ev_cat, q_cat_l, q_ev_neg, q_ev_not, q_ev_cmp, q_ev_chn, q_ev_and, q_ev_or, q_ev_ite, q_ev_tup, q_ev_lst, q_ev_call, q_ev_bi, q_ev_me, q_ev_isi, q_ev_ix, q_ev_slLo, q_ev_slHi, q_ev_slLH, q_ev_rev, q_ev_gti, q_ev_gsd, q_ev_lrev, q_ev_lc, q_ev_pop, q_evs_nil, q_evs_cons, q_and_1, q_and_2, q_or_1, q_or_2, q_ts_nil, q_ts_1, q_src_it, q_src_r1, q_src_r2, q_src_rd, q_evt, q_lcb, q_x_ret, q_x_retN, q_x_retF, q_x_set, q_x_setN, q_x_unp, q_x_aug, q_x_ite, q_x_whl, q_x_for, q_x_app, q_x_ext, q_x_put, q_x_exp, q_x_try, q_x_raise, q_x_frz, q_x_pas, q_x_brk, q_x_cnt, q_xs_nil, q_xs_cons, q_lv_d, q_lv_nx, q_lv_new, q_lv_o, q_lv_exc, q_deref_d, q_deref_o, q_derefs_nil, q_derefs_cons, q_asD_d, q_asDs_nil, q_asDs_cons, q_asI_i, q_asB_b, q_asS_s, q_bop_add, q_bop_sub, q_bop_mul, q_bop_mul_s, q_bop_fdiv, q_bop_mod, q_bop_pow, q_bop_add_str, q_bop_add_tup, q_bop_add_lst, q_cop_eq, q_cop_ne, q_cop_lt_i, q_cop_lt_b, q_cop_lt_s, q_cop_gt_i, q_cop_gt_s, q_cop_le_i, q_cop_ge_i, q_cop_in, q_cop_nin, q_cop_is_n, q_cop_is_b, q_cop_isn_n, q_mem_tup, q_mem_lst, q_mem_1, q_len_str, q_len_tup, q_len_lst, q_bi_abs, q_bi_max, q_bi_min, q_bi_all, q_bi_any, q_bi_sum, q_bi_int_i, q_bi_int_b, q_bi_str_i, q_bi_list_t, q_bi_list_l, q_bi_sum_t, q_bi_max1_l, q_bi_max1_t, q_bi_min1_l, q_bi_min1_t, q_rev_t, q_rev_l, q_rev_s, q_lrev_t, q_bi_tuple_t, q_bi_tuple_l, q_it_tup, q_it_lst, q_it_str, q_at_tup, q_at_lst, q_at_str, q_cut_tup, q_cut_lst, q_cut_str, q_setv, q_okSl_va, q_frSl_va, q_okSl_no, q_frSl_no, q_okSl_sl, q_frSl_sl, q_bn_nil, q_bn_cons, q_bt_n, q_bt_t, q_own_c, q_call_c, q_sp_nil, q_sp_d, q_sp_o, q_po_nil, q_po_cons, q_nd_nil, q_nd_1, q_eq_ii, q_eq_bb, q_eq_ss, q_eq_nn, q_eq_is, q_eq_si, q_eq_sn, q_eq_ns, q_eq_in, q_eq_ni, q_lc_nil, q_lc_cons, q_wipe_1, q_back_1, q_free_1, q_at0, q_at1, q_at2, q_at3, q_eq_l0, q_eq_t0, q_sl_s, q_fo_nil, runF, startE, finO, outsOf, inoutSlots, slotsFrom, lim, List.getElem?_cons_zero, List.getElem?_cons_succ, List.set_cons_zero, List.set_cons_succ, Option.map_some, List.length_cons, List.length_nil, List.replicate, List.getD_eq_getElem?_getD, Option.getD_some, Option.toList_some, Option.toList_none, List.nil_append, List.cons_append, List.append_nil, reduceCtorEq, if_true, if_false, ite_true, ite_false]
    refine ⟨vs.map fun k => k.fmod 9 - 4, by simp [f__law_value, b__law_value, q_bind_ok, q_out_ok, q_bind_exc, q_out_exc, q_seq_ret, q_seq_new, q_seq_brk, q_seq_cnt, q_seq_nx, q_seq_exc, q_opt_some, q_if_t, q_if_f, q_ev_v, q_ev_c, q_ev_g, q_ev_gix, q_ev_gin, q_ev_bin, q_ev_cat, q_cat_l, q_ev_neg, q_ev_not, q_ev_cmp, q_ev_chn, q_ev_and, q_ev_or, q_ev_ite, q_ev_tup, q_ev_lst, q_ev_call, q_ev_bi, q_ev_me, q_ev_isi, q_ev_ix, q_ev_slLo, q_ev_slHi, q_ev_slLH, q_ev_rev, q_ev_gti, q_ev_gsd, q_ev_lrev, q_ev_lc, q_ev_pop, q_evs_nil, q_evs_cons, q_and_1, q_and_2, q_or_1, q_or_2, q_ts_nil, q_ts_1, q_src_it, q_src_r1, q_src_r2, q_src_rd, q_evt, q_lcb, q_x_ret, q_x_retN, q_x_retF, q_x_set, q_x_setN, q_x_unp, q_x_aug, q_x_ite, q_x_whl, q_x_for, q_x_app, q_x_ext, q_x_put, q_x_exp, q_x_try, q_x_raise, q_x_frz, q_x_pas, q_x_brk, q_x_cnt, q_xs_nil, q_xs_cons, q_lv_d, q_lv_nx, q_lv_new, q_lv_o, q_lv_exc, q_deref_d, q_deref_o, q_derefs_nil, q_derefs_cons, q_asD_d, q_asDs_nil, q_asDs_cons, q_asI_i, q_asB_b, q_asS_s, q_bop_add, q_bop_sub, q_bop_mul, q_bop_mul_s, q_bop_fdiv, q_bop_mod, q_bop_pow, q_bop_add_str, q_bop_add_tup, q_bop_add_lst, q_cop_eq, q_cop_ne, q_cop_lt_i, q_cop_lt_b, q_cop_lt_s, q_cop_gt_i, q_cop_gt_s, q_cop_le_i, q_cop_ge_i, q_cop_in, q_cop_nin, q_cop_is_n, q_cop_is_b, q_cop_isn_n, q_mem_tup, q_mem_lst, q_mem_1, q_len_str, q_len_tup, q_len_lst, q_bi_abs, q_bi_max, q_bi_min, q_bi_all, q_bi_any, q_bi_sum, q_bi_int_i, q_bi_int_b, q_bi_str_i, q_bi_list_t, q_bi_list_l, q_bi_sum_t, q_bi_max1_l, q_bi_max1_t, q_bi_min1_l, q_bi_min1_t, q_rev_t, q_rev_l, q_rev_s, q_lrev_t, q_bi_tuple_t, q_bi_tuple_l, q_it_tup, q_it_lst, q_it_str, q_at_tup, q_at_lst, q_at_str, q_cut_tup, q_cut_lst, q_cut_str, q_setv, q_okSl_va, q_frSl_va, q_okSl_no, q_frSl_no, q_okSl_sl, q_frSl_sl, q_bn_nil, q_bn_cons, q_bt_n, q_bt_t, q_own_c, q_call_c, q_sp_nil, q_sp_d, q_sp_o, q_po_nil, q_po_cons, q_nd_nil, q_nd_1, q_eq_ii, q_eq_bb, q_eq_ss, q_eq_nn, q_eq_is, q_eq_si, q_eq_sn, q_eq_ns, q_eq_in, q_eq_ni, q_lc_nil, q_lc_cons, q_wipe_1, q_back_1, q_free_1, q_at0, q_at1, q_at2, q_at3, q_eq_l0, q_eq_t0, q_sl_s, q_fo_nil, runF, startE, finO, outsOf, inoutSlots, slotsFrom, lim, List.getElem?_cons_zero, List.getElem?_cons_succ, List.set_cons_zero, List.set_cons_succ, Option.map_some, List.length_cons, List.length_nil, List.replicate, List.getD_eq_getElem?_getD, Option.getD_some, Option.toList_some, Option.toList_none, List.nil_append, List.cons_append, List.append_nil, reduceCtorEq, if_true, if_false, ite_true, ite_false, md__law_draws, e2, e3, e4, h3], isLst_of (by rw [List.length_map]; omega) fun v hv => ?_⟩
    obtain ⟨k, _, rfl⟩ := List.mem_map.mp hv
    have := fm k (many := 9) (by omega)
    exact inR_of (by omega) (by omega)
theorem F_value {l : Nat} (h : l ∈ letters) {c : Int} : ∃ v, f__law_value.F [.str [l], .int c] = .ok v [] ∧ isV l v = true := by
  simp only [letters, List.mem_cons, List.not_mem_nil, or_false] at h
  rcases h with rfl | rfl | rfl | rfl
  · exact ⟨.int (numF c), by simp [f__law_value, b__law_value, q_bind_ok, q_out_ok, q_bind_exc, q_out_exc, q_seq_ret, q_seq_new, q_seq_brk, q_seq_cnt, q_seq_nx, q_seq_exc, q_opt_some, q_if_t, q_if_f, q_ev_v, q_ev_c, q_ev_g, q_ev_gix, q_ev_gin, q_ev_bin, q_ev_cat, q_cat_l, q_ev_neg, q_ev_not, q_ev_cmp, q_ev_chn, q_ev_and, q_ev_or, q_ev_ite, q_ev_tup, q_ev_lst, q_ev_call, q_ev_bi, q_ev_me, q_ev_isi, q_ev_ix, q_ev_slLo, q_ev_slHi, q_ev_slLH, q_ev_rev, q_ev_gti, q_ev_gsd, q_ev_lrev, q_ev_lc, q_ev_pop, q_evs_nil, q_evs_cons, q_and_1, q_and_2, q_or_1, q_or_2, q_ts_nil, q_ts_1, q_src_it, q_src_r1, q_src_r2, q_src_rd, q_evt, q_lcb, q_x_ret, q_x_retN, q_x_retF, q_x_set, q_x_setN, q_x_unp, q_x_aug, q_x_ite, q_x_whl, q_x_for, q_x_app, q_x_ext, q_x_put, q_x_exp, q_x_try, q_x_raise, q_x_frz, q_x_pas, q_x_brk, q_x_cnt, q_xs_nil, q_xs_cons, q_lv_d, q_lv_nx, q_lv_new, q_lv_o, q_lv_exc, q_deref_d, q_deref_o, q_derefs_nil, q_derefs_cons, q_asD_d, q_asDs_nil, q_asDs_cons, q_asI_i, q_asB_b, q_asS_s, q_bop_add, q_bop_sub, q_bop_mul, q_bop_mul_s, q_bop_fdiv, q_bop_mod, q_bop_pow, q_bop_add_str, q_bop_add_tup, q_bop_add_lst, q_cop_eq, q_cop_ne, q_cop_lt_i, q_cop_lt_b, q_cop_lt_s, q_cop_gt_i, q_cop_gt_s, q_cop_le_i, q_cop_ge_i, q_cop_in, q_cop_nin, q_cop_is_n, q_cop_is_b, q_cop_isn_n, q_mem_tup, q_mem_lst, q_mem_1, q_len_str, q_len_tup, q_len_lst, q_bi_abs, q_bi_max, q_bi_min, q_bi_all, q_bi_any, q_bi_sum, q_bi_int_i, q_bi_int_b, q_bi_str_i, q_bi_list_t, q_bi_list_l, q_bi_sum_t, q_bi_max1_l, q_bi_max1_t, q_bi_min1_l, q_bi_min1_t, q_rev_t, q_rev_l, q_rev_s, q_lrev_t, q_bi_tuple_t, q_bi_tuple_l, q_it_tup, q_it_lst, q_it_str, q_at_tup, q_at_lst, q_at_str, q_cut_tup, q_cut_lst, q_cut_str, q_setv, q_okSl_va, q_frSl_va, q_okSl_no, q_frSl_no, q_okSl_sl, q_frSl_sl, q_bn_nil, q_bn_cons, q_bt_n, q_bt_t, q_own_c, q_call_c, q_sp_nil, q_sp_d, q_sp_o, q_po_nil, q_po_cons, q_nd_nil, q_nd_1, q_eq_ii, q_eq_bb, q_eq_ss, q_eq_nn, q_eq_is, q_eq_si, q_eq_sn, q_eq_ns, q_eq_in, q_eq_ni, q_lc_nil, q_lc_cons, q_wipe_1, q_back_1, q_free_1, q_at0, q_at1, q_at2, q_at3, q_eq_l0, q_eq_t0, q_sl_s, q_fo_nil, runF, startE, finO, outsOf, inoutSlots, slotsFrom, lim, List.getElem?_cons_zero, List.getElem?_cons_succ, List.set_cons_zero, List.set_cons_succ, Option.map_some, List.length_cons, List.length_nil, List.replicate, List.getD_eq_getElem?_getD, Option.getD_some, Option.toList_some, Option.toList_none, List.nil_append, List.cons_append, List.append_nil, reduceCtorEq, if_true, if_false, ite_true, ite_false, md__law_number, numF_eq], numF_in c⟩
  · exact ⟨.bl (decide (c.fmod 2 = 1)), by simp [f__law_value, b__law_value, q_bind_ok, q_out_ok, q_bind_exc, q_out_exc, q_seq_ret, q_seq_new, q_seq_brk, q_seq_cnt, q_seq_nx, q_seq_exc, q_opt_some, q_if_t, q_if_f, q_ev_v, q_ev_c, q_ev_g, q_ev_gix, q_ev_gin, q_ev_bin, q_ev_cat, q_cat_l, q_ev_neg, q_ev_not, q_ev_cmp, q_ev_chn, q_ev_and, q_ev_or, q_ev_ite, q_ev_tup, q_ev_lst, q_ev_call, q_ev_bi, q_ev_me, q_ev_isi, q_ev_ix, q_ev_slLo, q_ev_slHi, q_ev_slLH, q_ev_rev, q_ev_gti, q_ev_gsd, q_ev_lrev, q_ev_lc, q_ev_pop, q_evs_nil, q_evs_cons, q_and_1, q_and_2, q_or_1, q_or_2, q_ts_nil, q_ts_1, q_src_it, q_src_r1, q_src_r2, q_src_rd, q_evt, q_lcb, q_x_ret, q_x_retN, q_x_retF, q_x_set, q_x_setN, q_x_unp, q_x_aug, q_x_ite, q_x_whl, q_x_for, q_x_app, q_x_ext, q_x_put, q_x_exp, q_x_try, q_x_raise, q_x_frz, q_x_pas, q_x_brk, q_x_cnt, q_xs_nil, q_xs_cons, q_lv_d, q_lv_nx, q_lv_new, q_lv_o, q_lv_exc, q_deref_d, q_deref_o, q_derefs_nil, q_derefs_cons, q_asD_d, q_asDs_nil, q_asDs_cons, q_asI_i, q_asB_b, q_asS_s, q_bop_add, q_bop_sub, q_bop_mul, q_bop_mul_s, q_bop_fdiv, q_bop_mod, q_bop_pow, q_bop_add_str, q_bop_add_tup, q_bop_add_lst, q_cop_eq, q_cop_ne, q_cop_lt_i, q_cop_lt_b, q_cop_lt_s, q_cop_gt_i, q_cop_gt_s, q_cop_le_i, q_cop_ge_i, q_cop_in, q_cop_nin, q_cop_is_n, q_cop_is_b, q_cop_isn_n, q_mem_tup, q_mem_lst, q_mem_1, q_len_str, q_len_tup, q_len_lst, q_bi_abs, q_bi_max, q_bi_min, q_bi_all, q_bi_any, q_bi_sum, q_bi_int_i, q_bi_int_b, q_bi_str_i, q_bi_list_t, q_bi_list_l, q_bi_sum_t, q_bi_max1_l, q_bi_max1_t, q_bi_min1_l, q_bi_min1_t, q_rev_t, q_rev_l, q_rev_s, q_lrev_t, q_bi_tuple_t, q_bi_tuple_l, q_it_tup, q_it_lst, q_it_str, q_at_tup, q_at_lst, q_at_str, q_cut_tup, q_cut_lst, q_cut_str, q_setv, q_okSl_va, q_frSl_va, q_okSl_no, q_frSl_no, q_okSl_sl, q_frSl_sl, q_bn_nil, q_bn_cons, q_bt_n, q_bt_t, q_own_c, q_call_c, q_sp_nil, q_sp_d, q_sp_o, q_po_nil, q_po_cons, q_nd_nil, q_nd_1, q_eq_ii, q_eq_bb, q_eq_ss, q_eq_nn, q_eq_is, q_eq_si, q_eq_sn, q_eq_ns, q_eq_in, q_eq_ni, q_lc_nil, q_lc_cons, q_wipe_1, q_back_1, q_free_1, q_at0, q_at1, q_at2, q_at3, q_eq_l0, q_eq_t0, q_sl_s, q_fo_nil, runF, startE, finO, outsOf, inoutSlots, slotsFrom, lim, List.getElem?_cons_zero, List.getElem?_cons_succ, List.set_cons_zero, List.set_cons_succ, Option.map_some, List.length_cons, List.length_nil, List.replicate, List.getD_eq_getElem?_getD, Option.getD_some, Option.toList_some, Option.toList_none, List.nil_append, List.cons_append, List.append_nil, reduceCtorEq, if_true, if_false, ite_true, ite_false], rfl⟩
  · obtain ⟨cs, e, h⟩ := F_valueS (c := c)
    exact ⟨_, e, h⟩
  · obtain ⟨cs, e, h⟩ := F_valueL (c := c)
    exact ⟨_, e, h⟩
/-! ### the library -/
def libL : List (List Nat × List Nat × Nat) := ([([97, 98, 115], [110], 110), ([97, 100, 100], [110, 110], 110), ([97, 100, 100, 95, 101, 97, 99, 104], [108, 110], 108), ([97, 112, 112, 101, 110, 100], [108, 110], 108), ([97, 116], [108, 110], 110), ([98, 111, 116, 104], [116, 116], 116), ([99, 104, 111, 111, 115, 101, 95, 108, 105, 115, 116], [116, 108, 108], 108), ([99, 104, 111, 111, 115, 101, 95, 110, 117, 109, 98, 101, 114], [116, 110, 110], 110), ([99, 104, 111, 111, 115, 101, 95, 116, 101, 120, 116], [116, 115, 115], 115), ([99, 111, 110, 99, 97, 116], [115, 115], 115), ([99, 111, 110, 116, 97, 105, 110, 115], [115, 115], 116), ([99, 111, 117, 110, 116, 95, 111, 102], [108, 110], 110), ([100, 105, 115, 116, 105, 110, 99, 116], [108], 108), ([100, 105, 118, 105, 100, 101], [110, 110], 110), ([100, 111, 117, 98, 108, 101], [110], 110), ([100, 114, 111, 112], [108, 110], 108), ([101, 105, 116, 104, 101, 114], [116, 116], 116), ([101, 113, 117, 97, 108], [110, 110], 116), ([102, 105, 114, 115, 116], [108], 110), ([103, 114, 101, 97, 116, 101, 115, 116], [108], 110)] : List (List Nat × List Nat × Nat)) ++ ([([104, 97, 108, 102], [110], 110), ([105, 115, 95, 101, 109, 112, 116, 121], [108], 116), ([105, 115, 95, 101, 118, 101, 110], [110], 116), ([106, 111, 105, 110], [108, 108], 108), ([107, 101, 101, 112, 95, 97, 98, 111, 118, 101], [108, 110], 108), ([107, 101, 101, 112, 95, 101, 118, 101, 110], [108], 108), ([108, 97, 115, 116], [108], 110), ([108, 101, 97, 115, 116], [108], 110), ([108, 101, 110, 103, 116, 104], [115], 110), ([108, 101, 115, 115], [110, 110], 116), ([109, 97, 120], [110, 110], 110), ([109, 105, 110], [110, 110], 110), ([109, 111, 100], [110, 110], 110), ([109, 117, 108], [110, 110], 110), ([110, 101, 103], [110], 110), ([110, 101, 103, 97, 116, 101], [116], 116), ([110, 117, 109, 98, 101, 114, 95, 116, 101, 120, 116], [110], 115), ([112, 114, 101, 112, 101, 110, 100], [110, 108], 108), ([112, 114, 111, 100, 117, 99, 116], [108], 110), ([114, 101, 112, 101, 97, 116], [115, 110], 115)] : List (List Nat × List Nat × Nat)) ++ ([([114, 101, 115, 116], [108], 108), ([114, 101, 118, 101, 114, 115, 101], [108], 108), ([114, 101, 118, 101, 114, 115, 101, 95, 116, 101, 120, 116], [115], 115), ([114, 117, 110, 110, 105, 110, 103], [108], 108), ([115, 97, 109, 101, 95, 108, 105, 115, 116], [108, 108], 116), ([115, 97, 109, 101, 95, 116, 101, 120, 116], [115, 115], 116), ([115, 105, 122, 101], [108], 110), ([115, 107, 105, 112], [115, 110], 115), ([115, 111, 114, 116], [108], 108), ([115, 116, 97, 114, 116], [115, 110], 115), ([115, 117, 98], [110, 110], 110), ([115, 117, 109], [108], 110), ([116, 97, 107, 101], [108, 110], 108), ([116, 101, 120, 116, 95, 110, 117, 109, 98, 101, 114], [115], 110), ([117, 112, 95, 116, 111], [110], 108), ([119, 111, 114, 100, 115], [115], 110), ([122, 105, 112, 95, 97, 100, 100], [108, 108], 108)] : List (List Nat × List Nat × Nat))
def rowD (r : List Nat × List Nat × Nat) : D := .lst [.str r.1, .str r.2.1, .str [r.2.2]]
theorem F_library : f__law_library.F [] = .ok (.lst (libL.map rowD)) [] := by kernel_rfl
theorem isV_dep {l : Nat} {v : D} (h : isV l v = true) : dep v ≤ 1 := by
  cases v with
  | tup ds =>
    have hl : isLst (.tup ds) = true := by
      unfold isV at h
      split at h
      · cases h
      · split at h
        · cases h
        · split at h
          · cases h
          · exact h
    have h2 : (decide (ds.length ≤ 12) && ds.all isNum) = true := hl
    rw [Bool.and_eq_true, List.all_eq_true] at h2
    have : ∀ ds : List D, (∀ x ∈ ds, isNum x = true) → deps ds ≤ 0 := by
      intro ds
      induction ds with
      | nil => intro _; exact Nat.le_refl _
      | cons d ds ih =>
        intro hh
        have h3 := ih fun x hx => hh x (List.mem_cons_of_mem _ hx)
        have h4 := hh d (List.mem_cons_self ..)
        have h5 : dep d = 0 := by cases d <;> first | rfl | cases h4
        show max (dep d) (deps ds) ≤ 0
        omega
    have := this ds h2.2
    show deps ds + 1 ≤ 1
    omega
  | lst ds =>
    unfold isV at h
    split at h
    · cases h
    · split at h
      · cases h
      · split at h
        · cases h
        · cases h
  | _ => exact Nat.zero_le _
mutual
theorem deq_comm : ∀ a b : D, deq a b = deq b a
  | .non, b => by cases b <;> rfl
  | .bl x, b => by cases b <;> first | rfl | exact Bool.beq_comm
  | .int x, b => by cases b <;> first | rfl | exact Bool.beq_comm
  | .str x, b => by cases b <;> first | rfl | exact Bool.beq_comm
  | .tup xs, b => by
    cases b with
    | tup ys => exact deqs_comm xs ys
    | _ => rfl
  | .lst xs, b => by
    cases b with
    | lst ys => exact deqs_comm xs ys
    | _ => rfl
theorem deqs_comm : ∀ a b : List D, deqs a b = deqs b a
  | [], [] => rfl
  | [], _ :: _ => rfl
  | _ :: _, [] => rfl
  | x :: xs, y :: ys => by
    show (deq x y && deqs xs ys) = (deq y x && deqs ys xs)
    rw [deq_comm x y, deqs_comm xs ys]
end
end K05
end

section
set_option Elab.async false
set_option linter.all false
set_option maxRecDepth 100000
set_option maxHeartbeats 4000000
namespace K05
open PySem L2 Mini
/-! ### apply, in general -/
theorem run_eq {n m : Nat} {md : List Bool} {fr : Bool} {b : List S} {ds : List D} {ρ : En} (h : startE m md ds = some ρ) : runF n m md fr b ds = leaveO md fr (exSs n b ρ) := by
  unfold runF
  rw [h]
theorem cut_m1 {α : Type} (xs : List α) (x : α) : cutL (xs ++ [x]) none (some (-1)) = xs := by
  unfold cutL
  have h2 : HT.sIx (xs ++ [x]).length 0 none = 0 := rfl
  have h1 : HT.sIx (xs ++ [x]).length (xs ++ [x]).length (some (-1)) = xs.length := by
    simp [HT.sIx]
    omega
  rw [h1, h2, List.drop_zero, Nat.sub_zero, List.take_left]
theorem at_m1 {α : Type} (xs : List α) (x : α) : atI (xs ++ [x]) (-1) = some x := by
  simp [atI, ixN]
  have h1 : (1 : Int) ≤ (xs.length : Int) + 1 := by omega
  have h2 : (-1 + ((xs.length : Int) + 1)).toNat = xs.length := by omega
  rw [if_pos h1, h2]
  simp
theorem F_sig {s : List Nat} {v : D} (h : t_SIGNATURES.lookup s = some v) : f_signature.F [.str s] = .ok v [] := by
  have hs : ∀ t : List (List Nat × D), t.lookup s = some v → leaveO [false] false (exSs 1000000 [.ite (.gin true "SIGNATURES" t (.v 0)) [.raise 0 "NotFound" (.v 0)] [], .ret (.gix "SIGNATURES" t (.v 0))] [.val (.str s)]) = .ok v [] := fun t ht => by
    simp [q_bind_ok, q_out_ok, q_bind_exc, q_out_exc, q_seq_ret, q_seq_new, q_seq_brk, q_seq_cnt, q_seq_nx, q_seq_exc, q_opt_some, q_if_t, q_if_f, q_ev_v, q_ev_c, q_ev_g, q_ev_gix, q_ev_gin, q_ev_bin, q_ev_cat, q_cat_l, q_ev_neg, q_ev_not, q_ev_cmp, q_ev_chn, q_ev_and, q_ev_or, q_ev_ite, q_ev_tup, q_ev_lst, q_ev_call, q_ev_bi, q_ev_me, q_ev_isi, q_ev_ix, q_ev_slLo, q_ev_slHi, q_ev_slLH, q_ev_rev, q_ev_gti, q_ev_gsd, q_ev_lrev, q_ev_lc, q_ev_pop, q_evs_nil, q_evs_cons, q_and_1, q_and_2, q_or_1, q_or_2, q_ts_nil, q_ts_1, q_src_it, q_src_r1, q_src_r2, q_src_rd, q_evt, q_lcb, q_x_ret, q_x_retN, q_x_retF, q_x_set, q_x_setN, q_x_unp, q_x_aug, q_x_ite, q_x_whl, q_x_for, q_x_app, q_x_ext, q_x_put, q_x_exp, q_x_try, q_x_raise, q_x_frz, q_x_pas, q_x_brk, q_x_cnt, q_xs_nil, q_xs_cons, q_lv_d, q_lv_nx, q_lv_new, q_lv_o, q_lv_exc, q_deref_d, q_deref_o, q_derefs_nil, q_derefs_cons, q_asD_d, q_asDs_nil, q_asDs_cons, q_asI_i, q_asB_b, q_asS_s, q_bop_add, q_bop_sub, q_bop_mul, q_bop_mul_s, q_bop_fdiv, q_bop_mod, q_bop_pow, q_bop_add_str, q_bop_add_tup, q_bop_add_lst, q_cop_eq, q_cop_ne, q_cop_lt_i, q_cop_lt_b, q_cop_lt_s, q_cop_gt_i, q_cop_gt_s, q_cop_le_i, q_cop_ge_i, q_cop_in, q_cop_nin, q_cop_is_n, q_cop_is_b, q_cop_isn_n, q_mem_tup, q_mem_lst, q_mem_1, q_len_str, q_len_tup, q_len_lst, q_bi_abs, q_bi_max, q_bi_min, q_bi_all, q_bi_any, q_bi_sum, q_bi_int_i, q_bi_int_b, q_bi_str_i, q_bi_list_t, q_bi_list_l, q_bi_sum_t, q_bi_max1_l, q_bi_max1_t, q_bi_min1_l, q_bi_min1_t, q_rev_t, q_rev_l, q_rev_s, q_lrev_t, q_bi_tuple_t, q_bi_tuple_l, q_it_tup, q_it_lst, q_it_str, q_at_tup, q_at_lst, q_at_str, q_cut_tup, q_cut_lst, q_cut_str, q_setv, q_okSl_va, q_frSl_va, q_okSl_no, q_frSl_no, q_okSl_sl, q_frSl_sl, q_bn_nil, q_bn_cons, q_bt_n, q_bt_t, q_own_c, q_call_c, q_sp_nil, q_sp_d, q_sp_o, q_po_nil, q_po_cons, q_nd_nil, q_nd_1, q_eq_ii, q_eq_bb, q_eq_ss, q_eq_nn, q_eq_is, q_eq_si, q_eq_sn, q_eq_ns, q_eq_in, q_eq_ni, q_lc_nil, q_lc_cons, q_wipe_1, q_back_1, q_free_1, q_at0, q_at1, q_at2, q_at3, q_eq_l0, q_eq_t0, q_sl_s, q_fo_nil, runF, startE, finO, outsOf, inoutSlots, slotsFrom, lim, List.getElem?_cons_zero, List.getElem?_cons_succ, List.set_cons_zero, List.set_cons_succ, Option.map_some, List.length_cons, List.length_nil, List.replicate, List.getD_eq_getElem?_getD, Option.getD_some, Option.toList_some, Option.toList_none, List.nil_append, List.cons_append, List.append_nil, reduceCtorEq, if_true, if_false, ite_true, ite_false, ht]
  exact hs _ h
theorem F_sig_no {s : List Nat} (h : t_SIGNATURES.lookup s = none) : f_signature.F [.str s] = .exc 0 (.str s) [] := by
  have hs : ∀ t : List (List Nat × D), t.lookup s = none → leaveO [false] false (exSs 1000000 [.ite (.gin true "SIGNATURES" t (.v 0)) [.raise 0 "NotFound" (.v 0)] [], .ret (.gix "SIGNATURES" t (.v 0))] [.val (.str s)]) = .exc 0 (.str s) [] := fun t ht => by
    simp [q_bind_ok, q_out_ok, q_bind_exc, q_out_exc, q_seq_ret, q_seq_new, q_seq_brk, q_seq_cnt, q_seq_nx, q_seq_exc, q_opt_some, q_if_t, q_if_f, q_ev_v, q_ev_c, q_ev_g, q_ev_gix, q_ev_gin, q_ev_bin, q_ev_cat, q_cat_l, q_ev_neg, q_ev_not, q_ev_cmp, q_ev_chn, q_ev_and, q_ev_or, q_ev_ite, q_ev_tup, q_ev_lst, q_ev_call, q_ev_bi, q_ev_me, q_ev_isi, q_ev_ix, q_ev_slLo, q_ev_slHi, q_ev_slLH, q_ev_rev, q_ev_gti, q_ev_gsd, q_ev_lrev, q_ev_lc, q_ev_pop, q_evs_nil, q_evs_cons, q_and_1, q_and_2, q_or_1, q_or_2, q_ts_nil, q_ts_1, q_src_it, q_src_r1, q_src_r2, q_src_rd, q_evt, q_lcb, q_x_ret, q_x_retN, q_x_retF, q_x_set, q_x_setN, q_x_unp, q_x_aug, q_x_ite, q_x_whl, q_x_for, q_x_app, q_x_ext, q_x_put, q_x_exp, q_x_try, q_x_raise, q_x_frz, q_x_pas, q_x_brk, q_x_cnt, q_xs_nil, q_xs_cons, q_lv_d, q_lv_nx, q_lv_new, q_lv_o, q_lv_exc, q_deref_d, q_deref_o, q_derefs_nil, q_derefs_cons, q_asD_d, q_asDs_nil, q_asDs_cons, q_asI_i, q_asB_b, q_asS_s, q_bop_add, q_bop_sub, q_bop_mul, q_bop_mul_s, q_bop_fdiv, q_bop_mod, q_bop_pow, q_bop_add_str, q_bop_add_tup, q_bop_add_lst, q_cop_eq, q_cop_ne, q_cop_lt_i, q_cop_lt_b, q_cop_lt_s, q_cop_gt_i, q_cop_gt_s, q_cop_le_i, q_cop_ge_i, q_cop_in, q_cop_nin, q_cop_is_n, q_cop_is_b, q_cop_isn_n, q_mem_tup, q_mem_lst, q_mem_1, q_len_str, q_len_tup, q_len_lst, q_bi_abs, q_bi_max, q_bi_min, q_bi_all, q_bi_any, q_bi_sum, q_bi_int_i, q_bi_int_b, q_bi_str_i, q_bi_list_t, q_bi_list_l, q_bi_sum_t, q_bi_max1_l, q_bi_max1_t, q_bi_min1_l, q_bi_min1_t, q_rev_t, q_rev_l, q_rev_s, q_lrev_t, q_bi_tuple_t, q_bi_tuple_l, q_it_tup, q_it_lst, q_it_str, q_at_tup, q_at_lst, q_at_str, q_cut_tup, q_cut_lst, q_cut_str, q_setv, q_okSl_va, q_frSl_va, q_okSl_no, q_frSl_no, q_okSl_sl, q_frSl_sl, q_bn_nil, q_bn_cons, q_bt_n, q_bt_t, q_own_c, q_call_c, q_sp_nil, q_sp_d, q_sp_o, q_po_nil, q_po_cons, q_nd_nil, q_nd_1, q_eq_ii, q_eq_bb, q_eq_ss, q_eq_nn, q_eq_is, q_eq_si, q_eq_sn, q_eq_ns, q_eq_in, q_eq_ni, q_lc_nil, q_lc_cons, q_wipe_1, q_back_1, q_free_1, q_at0, q_at1, q_at2, q_at3, q_eq_l0, q_eq_t0, q_sl_s, q_fo_nil, runF, startE, finO, outsOf, inoutSlots, slotsFrom, lim, List.getElem?_cons_zero, List.getElem?_cons_succ, List.set_cons_zero, List.set_cons_succ, Option.map_some, List.length_cons, List.length_nil, List.replicate, List.getD_eq_getElem?_getD, Option.getD_some, Option.toList_some, Option.toList_none, List.nil_append, List.cons_append, List.append_nil, reduceCtorEq, if_true, if_false, ite_true, ite_false, ht]
  exact hs _ h
theorem sig_of : ∀ r ∈ libL, t_SIGNATURES.lookup r.1 = some (.tup ((r.2.1.map fun l => D.str (kL_ l)) ++ [.str (kL_ r.2.2)])) := by
  have h : libL.map (fun r => t_SIGNATURES.lookup r.1) = libL.map (fun r => some (D.tup ((r.2.1.map fun l => D.str (kL_ l)) ++ [.str (kL_ r.2.2)]))) := by kernel_rfl
  exact List.map_inj_left.mp h
theorem ap_go {sg ch de iv : CallF} {s : List Nat} {ks ds : List D} {kr : List Nat} {r : D} {q : Bool} (m1 : sg.md = [false]) (h1 : sg.F [.str s] = .ok (.tup (ks ++ [.str kr])) []) (hl : ds.length ≠ 3)
    (ha : lcGo (.n 5) [5] (lcBody (evTs []) (evE e_apply_1)) ds [] [.val (.str s), .val (.lst ds), .val (.tup (ks ++ [.str kr])), .val (.lst ds), .no, .no] = .ok (ds.map fun _ => .bl false) [.val (.str s), .val (.lst ds), .val (.tup (ks ++ [.str kr])), .val (.lst ds), .no, .no])
    (hb : Mini.bi .any [.lst (ds.map fun _ => .bl false)] = some (.bl false)) (m3 : de.md = [false, false, false]) (h3 : de.F [.str s, .tup ks, .lst ds] = .ok r []) (m4 : iv.md = [false, false]) (h4 : iv.F [.str kr, r] = .ok (.bl q) []) :
    leaveO [false, false] false (exSs 1000000 [.set 2 (.call sg [.v 0]), .set 3 (.bi .list [.v 1]), .ite (.cmp .eq (.bi .len [.v 3]) (.c (.int 3))) [.ret (.call ch [.v 3])] [], .ite (.bi .any [.lc (.n 5) [5] (.it (.v 3)) [] e_apply_1]) [.ret (.c (.non))] [],
      .set 4 (.call de [.v 0, .slHi (.v 2) (.neg (.c (.int 1))), .v 3]), .ite (.not (.call iv [.ix (.v 2) (.neg (.c (.int 1))), .v 4])) [.ret (.c (.non))] [], .ret (.v 4)] [.val (.str s), .val (.lst ds), .no, .no, .no, .no]) = .ok (if q = true then r else .non) [] := by
  have hl' : ¬ ((ds.length : Nat) : Int) = 3 := by omega
  have c1 := cut_m1 ks (D.str kr)
  have c2 := at_m1 ks (D.str kr)
  generalize ks ++ [D.str kr] = sk at h1 ha c1 c2
  generalize (ds.map fun _ => D.bl false) = fs at ha hb
  cases q with
  | true => simp [q_bind_ok, q_out_ok, q_bind_exc, q_out_exc, q_seq_ret, q_seq_new, q_seq_brk, q_seq_cnt, q_seq_nx, q_seq_exc, q_opt_some, q_if_t, q_if_f, q_ev_v, q_ev_c, q_ev_g, q_ev_gix, q_ev_gin, q_ev_bin, q_ev_cat, q_cat_l, q_ev_neg, q_ev_not, q_ev_cmp, q_ev_chn, q_ev_and, q_ev_or, q_ev_ite, q_ev_tup, q_ev_lst, q_ev_call, q_ev_bi, q_ev_me, q_ev_isi, q_ev_ix, q_ev_slLo, q_ev_slHi, q_ev_slLH, q_ev_rev, q_ev_gti, q_ev_gsd, q_ev_lrev, q_ev_lc, q_ev_pop, q_evs_nil, q_evs_cons, q_and_1, q_and_2, q_or_1, q_or_2, q_ts_nil, q_ts_1, q_src_it, q_src_r1, q_src_r2, q_src_rd, q_evt, q_lcb, q_x_ret, q_x_retN, q_x_retF, q_x_set, q_x_setN, q_x_unp, q_x_aug, q_x_ite, q_x_whl, q_x_for, q_x_app, q_x_ext, q_x_put, q_x_exp, q_x_try, q_x_raise, q_x_frz, q_x_pas, q_x_brk, q_x_cnt, q_xs_nil, q_xs_cons, q_lv_d, q_lv_nx, q_lv_new, q_lv_o, q_lv_exc, q_deref_d, q_deref_o, q_derefs_nil, q_derefs_cons, q_asD_d, q_asDs_nil, q_asDs_cons, q_asI_i, q_asB_b, q_asS_s, q_bop_add, q_bop_sub, q_bop_mul, q_bop_mul_s, q_bop_fdiv, q_bop_mod, q_bop_pow, q_bop_add_str, q_bop_add_tup, q_bop_add_lst, q_cop_eq, q_cop_ne, q_cop_lt_i, q_cop_lt_b, q_cop_lt_s, q_cop_gt_i, q_cop_gt_s, q_cop_le_i, q_cop_ge_i, q_cop_in, q_cop_nin, q_cop_is_n, q_cop_is_b, q_cop_isn_n, q_mem_tup, q_mem_lst, q_mem_1, q_len_str, q_len_tup, q_len_lst, q_bi_abs, q_bi_max, q_bi_min, q_bi_all, q_bi_any, q_bi_sum, q_bi_int_i, q_bi_int_b, q_bi_str_i, q_bi_list_t, q_bi_list_l, q_bi_sum_t, q_bi_max1_l, q_bi_max1_t, q_bi_min1_l, q_bi_min1_t, q_rev_t, q_rev_l, q_rev_s, q_lrev_t, q_bi_tuple_t, q_bi_tuple_l, q_it_tup, q_it_lst, q_it_str, q_at_tup, q_at_lst, q_at_str, q_cut_tup, q_cut_lst, q_cut_str, q_setv, q_okSl_va, q_frSl_va, q_okSl_no, q_frSl_no, q_okSl_sl, q_frSl_sl, q_bn_nil, q_bn_cons, q_bt_n, q_bt_t, q_own_c, q_call_c, q_sp_nil, q_sp_d, q_sp_o, q_po_nil, q_po_cons, q_nd_nil, q_nd_1, q_eq_ii, q_eq_bb, q_eq_ss, q_eq_nn, q_eq_is, q_eq_si, q_eq_sn, q_eq_ns, q_eq_in, q_eq_ni, q_lc_nil, q_lc_cons, q_wipe_1, q_back_1, q_free_1, q_at0, q_at1, q_at2, q_at3, q_eq_l0, q_eq_t0, q_sl_s, q_fo_nil, runF, startE, finO, outsOf, inoutSlots, slotsFrom, lim, List.getElem?_cons_zero, List.getElem?_cons_succ, List.set_cons_zero, List.set_cons_succ, Option.map_some, List.length_cons, List.length_nil, List.replicate, List.getD_eq_getElem?_getD, Option.getD_some, Option.toList_some, Option.toList_none, List.nil_append, List.cons_append, List.append_nil, reduceCtorEq, if_true, if_false, ite_true, ite_false, m1, h1, hl', ha, hb, m3, h3, m4, h4, c1, c2, -q_lc_cons, -q_lc_nil, -q_bi_any]
  | false => simp [q_bind_ok, q_out_ok, q_bind_exc, q_out_exc, q_seq_ret, q_seq_new, q_seq_brk, q_seq_cnt, q_seq_nx, q_seq_exc, q_opt_some, q_if_t, q_if_f, q_ev_v, q_ev_c, q_ev_g, q_ev_gix, q_ev_gin, q_ev_bin, q_ev_cat, q_cat_l, q_ev_neg, q_ev_not, q_ev_cmp, q_ev_chn, q_ev_and, q_ev_or, q_ev_ite, q_ev_tup, q_ev_lst, q_ev_call, q_ev_bi, q_ev_me, q_ev_isi, q_ev_ix, q_ev_slLo, q_ev_slHi, q_ev_slLH, q_ev_rev, q_ev_gti, q_ev_gsd, q_ev_lrev, q_ev_lc, q_ev_pop, q_evs_nil, q_evs_cons, q_and_1, q_and_2, q_or_1, q_or_2, q_ts_nil, q_ts_1, q_src_it, q_src_r1, q_src_r2, q_src_rd, q_evt, q_lcb, q_x_ret, q_x_retN, q_x_retF, q_x_set, q_x_setN, q_x_unp, q_x_aug, q_x_ite, q_x_whl, q_x_for, q_x_app, q_x_ext, q_x_put, q_x_exp, q_x_try, q_x_raise, q_x_frz, q_x_pas, q_x_brk, q_x_cnt, q_xs_nil, q_xs_cons, q_lv_d, q_lv_nx, q_lv_new, q_lv_o, q_lv_exc, q_deref_d, q_deref_o, q_derefs_nil, q_derefs_cons, q_asD_d, q_asDs_nil, q_asDs_cons, q_asI_i, q_asB_b, q_asS_s, q_bop_add, q_bop_sub, q_bop_mul, q_bop_mul_s, q_bop_fdiv, q_bop_mod, q_bop_pow, q_bop_add_str, q_bop_add_tup, q_bop_add_lst, q_cop_eq, q_cop_ne, q_cop_lt_i, q_cop_lt_b, q_cop_lt_s, q_cop_gt_i, q_cop_gt_s, q_cop_le_i, q_cop_ge_i, q_cop_in, q_cop_nin, q_cop_is_n, q_cop_is_b, q_cop_isn_n, q_mem_tup, q_mem_lst, q_mem_1, q_len_str, q_len_tup, q_len_lst, q_bi_abs, q_bi_max, q_bi_min, q_bi_all, q_bi_any, q_bi_sum, q_bi_int_i, q_bi_int_b, q_bi_str_i, q_bi_list_t, q_bi_list_l, q_bi_sum_t, q_bi_max1_l, q_bi_max1_t, q_bi_min1_l, q_bi_min1_t, q_rev_t, q_rev_l, q_rev_s, q_lrev_t, q_bi_tuple_t, q_bi_tuple_l, q_it_tup, q_it_lst, q_it_str, q_at_tup, q_at_lst, q_at_str, q_cut_tup, q_cut_lst, q_cut_str, q_setv, q_okSl_va, q_frSl_va, q_okSl_no, q_frSl_no, q_okSl_sl, q_frSl_sl, q_bn_nil, q_bn_cons, q_bt_n, q_bt_t, q_own_c, q_call_c, q_sp_nil, q_sp_d, q_sp_o, q_po_nil, q_po_cons, q_nd_nil, q_nd_1, q_eq_ii, q_eq_bb, q_eq_ss, q_eq_nn, q_eq_is, q_eq_si, q_eq_sn, q_eq_ns, q_eq_in, q_eq_ni, q_lc_nil, q_lc_cons, q_wipe_1, q_back_1, q_free_1, q_at0, q_at1, q_at2, q_at3, q_eq_l0, q_eq_t0, q_sl_s, q_fo_nil, runF, startE, finO, outsOf, inoutSlots, slotsFrom, lim, List.getElem?_cons_zero, List.getElem?_cons_succ, List.set_cons_zero, List.set_cons_succ, Option.map_some, List.length_cons, List.length_nil, List.replicate, List.getD_eq_getElem?_getD, Option.getD_some, Option.toList_some, Option.toList_none, List.nil_append, List.cons_append, List.append_nil, reduceCtorEq, if_true, if_false, ite_true, ite_false, m1, h1, hl', ha, hb, m3, h3, m4, h4, c1, c2, -q_lc_cons, -q_lc_nil, -q_bi_any]
theorem F_apply {s : List Nat} {ks ds : List D} {kr : List Nat} {r : D} (hs : t_SIGNATURES.lookup s = some (.tup (ks ++ [.str kr]))) (hl : ds.length ≠ 3) (hz : ds.length ≤ 100) (hn : ∀ d ∈ ds, cop .is d .non = some false)
    (hd : f_described.F [.str s, .tup ks, .lst ds] = .ok r []) : f_apply.F [.str s, .lst ds] = .ok (if isVal kr r = true then r else .non) [] := by
  have ha : lcGo (.n 5) [5] (lcBody (evTs []) (evE e_apply_1)) ds [] [.val (.str s), .val (.lst ds), .val (.tup (ks ++ [.str kr])), .val (.lst ds), .no, .no] = .ok (ds.map fun _ => .bl false) [.val (.str s), .val (.lst ds), .val (.tup (ks ++ [.str kr])), .val (.lst ds), .no, .no] := by
    refine lc_map (s := .no) rfl (fun x hx => ?_) (Nat.le_trans hz (by decide))
    have := hn x hx
    simp [e_apply_1, q_bind_ok, q_out_ok, q_bind_exc, q_out_exc, q_seq_ret, q_seq_new, q_seq_brk, q_seq_cnt, q_seq_nx, q_seq_exc, q_opt_some, q_if_t, q_if_f, q_ev_v, q_ev_c, q_ev_g, q_ev_gix, q_ev_gin, q_ev_bin, q_ev_cat, q_cat_l, q_ev_neg, q_ev_not, q_ev_cmp, q_ev_chn, q_ev_and, q_ev_or, q_ev_ite, q_ev_tup, q_ev_lst, q_ev_call, q_ev_bi, q_ev_me, q_ev_isi, q_ev_ix, q_ev_slLo, q_ev_slHi, q_ev_slLH, q_ev_rev, q_ev_gti, q_ev_gsd, q_ev_lrev, q_ev_lc, q_ev_pop, q_evs_nil, q_evs_cons, q_and_1, q_and_2, q_or_1, q_or_2, q_ts_nil, q_ts_1, q_src_it, q_src_r1, q_src_r2, q_src_rd, q_evt, q_lcb, q_x_ret, q_x_retN, q_x_retF, q_x_set, q_x_setN, q_x_unp, q_x_aug, q_x_ite, q_x_whl, q_x_for, q_x_app, q_x_ext, q_x_put, q_x_exp, q_x_try, q_x_raise, q_x_frz, q_x_pas, q_x_brk, q_x_cnt, q_xs_nil, q_xs_cons, q_lv_d, q_lv_nx, q_lv_new, q_lv_o, q_lv_exc, q_deref_d, q_deref_o, q_derefs_nil, q_derefs_cons, q_asD_d, q_asDs_nil, q_asDs_cons, q_asI_i, q_asB_b, q_asS_s, q_bop_add, q_bop_sub, q_bop_mul, q_bop_mul_s, q_bop_fdiv, q_bop_mod, q_bop_pow, q_bop_add_str, q_bop_add_tup, q_bop_add_lst, q_cop_eq, q_cop_ne, q_cop_lt_i, q_cop_lt_b, q_cop_lt_s, q_cop_gt_i, q_cop_gt_s, q_cop_le_i, q_cop_ge_i, q_cop_in, q_cop_nin, q_cop_is_n, q_cop_is_b, q_cop_isn_n, q_mem_tup, q_mem_lst, q_mem_1, q_len_str, q_len_tup, q_len_lst, q_bi_abs, q_bi_max, q_bi_min, q_bi_all, q_bi_any, q_bi_sum, q_bi_int_i, q_bi_int_b, q_bi_str_i, q_bi_list_t, q_bi_list_l, q_bi_sum_t, q_bi_max1_l, q_bi_max1_t, q_bi_min1_l, q_bi_min1_t, q_rev_t, q_rev_l, q_rev_s, q_lrev_t, q_bi_tuple_t, q_bi_tuple_l, q_it_tup, q_it_lst, q_it_str, q_at_tup, q_at_lst, q_at_str, q_cut_tup, q_cut_lst, q_cut_str, q_setv, q_okSl_va, q_frSl_va, q_okSl_no, q_frSl_no, q_okSl_sl, q_frSl_sl, q_bn_nil, q_bn_cons, q_bt_n, q_bt_t, q_own_c, q_call_c, q_sp_nil, q_sp_d, q_sp_o, q_po_nil, q_po_cons, q_nd_nil, q_nd_1, q_eq_ii, q_eq_bb, q_eq_ss, q_eq_nn, q_eq_is, q_eq_si, q_eq_sn, q_eq_ns, q_eq_in, q_eq_ni, q_lc_nil, q_lc_cons, q_wipe_1, q_back_1, q_free_1, q_at0, q_at1, q_at2, q_at3, q_eq_l0, q_eq_t0, q_sl_s, q_fo_nil, runF, startE, finO, outsOf, inoutSlots, slotsFrom, lim, List.getElem?_cons_zero, List.getElem?_cons_succ, List.set_cons_zero, List.set_cons_succ, Option.map_some, List.length_cons, List.length_nil, List.replicate, List.getD_eq_getElem?_getD, Option.getD_some, Option.toList_some, Option.toList_none, List.nil_append, List.cons_append, List.append_nil, reduceCtorEq, if_true, if_false, ite_true, ite_false, this, -q_cop_is_n]
  have hb : Mini.bi .any [.lst (ds.map fun _ => .bl false)] = some (.bl false) := by
    rw [any_lc]
    congr 2
    rw [List.any_eq_false]
    intro x _
    decide
  exact ap_go (ch := f_choose) rfl (F_sig hs) hl ha hb rfl hd rfl (F_isv kr r)
/-! ### described, for two arguments of one kind -/
theorem de_tt {f : CallF} {s : List Nat} {ks : List D} {g r : D} (m : f.md = [false, false]) (h : f.F [.str s, g] = .ok r []) {rest : List S} :
    leaveO [false, false, false] false (exSs 1000000 (.ite (.cmp .eq (.ix (.v 1) (.c (.int 0))) (.c (.str [116, 114, 117, 116, 104]))) [.ret (.call f [.v 0, .v 2])] [] :: rest) [.val (.str s), .val (.tup (.str kT :: ks)), .val g]) = .ok r [] := by
  simp [q_bind_ok, q_out_ok, q_bind_exc, q_out_exc, q_seq_ret, q_seq_new, q_seq_brk, q_seq_cnt, q_seq_nx, q_seq_exc, q_opt_some, q_if_t, q_if_f, q_ev_v, q_ev_c, q_ev_g, q_ev_gix, q_ev_gin, q_ev_bin, q_ev_cat, q_cat_l, q_ev_neg, q_ev_not, q_ev_cmp, q_ev_chn, q_ev_and, q_ev_or, q_ev_ite, q_ev_tup, q_ev_lst, q_ev_call, q_ev_bi, q_ev_me, q_ev_isi, q_ev_ix, q_ev_slLo, q_ev_slHi, q_ev_slLH, q_ev_rev, q_ev_gti, q_ev_gsd, q_ev_lrev, q_ev_lc, q_ev_pop, q_evs_nil, q_evs_cons, q_and_1, q_and_2, q_or_1, q_or_2, q_ts_nil, q_ts_1, q_src_it, q_src_r1, q_src_r2, q_src_rd, q_evt, q_lcb, q_x_ret, q_x_retN, q_x_retF, q_x_set, q_x_setN, q_x_unp, q_x_aug, q_x_ite, q_x_whl, q_x_for, q_x_app, q_x_ext, q_x_put, q_x_exp, q_x_try, q_x_raise, q_x_frz, q_x_pas, q_x_brk, q_x_cnt, q_xs_nil, q_xs_cons, q_lv_d, q_lv_nx, q_lv_new, q_lv_o, q_lv_exc, q_deref_d, q_deref_o, q_derefs_nil, q_derefs_cons, q_asD_d, q_asDs_nil, q_asDs_cons, q_asI_i, q_asB_b, q_asS_s, q_bop_add, q_bop_sub, q_bop_mul, q_bop_mul_s, q_bop_fdiv, q_bop_mod, q_bop_pow, q_bop_add_str, q_bop_add_tup, q_bop_add_lst, q_cop_eq, q_cop_ne, q_cop_lt_i, q_cop_lt_b, q_cop_lt_s, q_cop_gt_i, q_cop_gt_s, q_cop_le_i, q_cop_ge_i, q_cop_in, q_cop_nin, q_cop_is_n, q_cop_is_b, q_cop_isn_n, q_mem_tup, q_mem_lst, q_mem_1, q_len_str, q_len_tup, q_len_lst, q_bi_abs, q_bi_max, q_bi_min, q_bi_all, q_bi_any, q_bi_sum, q_bi_int_i, q_bi_int_b, q_bi_str_i, q_bi_list_t, q_bi_list_l, q_bi_sum_t, q_bi_max1_l, q_bi_max1_t, q_bi_min1_l, q_bi_min1_t, q_rev_t, q_rev_l, q_rev_s, q_lrev_t, q_bi_tuple_t, q_bi_tuple_l, q_it_tup, q_it_lst, q_it_str, q_at_tup, q_at_lst, q_at_str, q_cut_tup, q_cut_lst, q_cut_str, q_setv, q_okSl_va, q_frSl_va, q_okSl_no, q_frSl_no, q_okSl_sl, q_frSl_sl, q_bn_nil, q_bn_cons, q_bt_n, q_bt_t, q_own_c, q_call_c, q_sp_nil, q_sp_d, q_sp_o, q_po_nil, q_po_cons, q_nd_nil, q_nd_1, q_eq_ii, q_eq_bb, q_eq_ss, q_eq_nn, q_eq_is, q_eq_si, q_eq_sn, q_eq_ns, q_eq_in, q_eq_ni, q_lc_nil, q_lc_cons, q_wipe_1, q_back_1, q_free_1, q_at0, q_at1, q_at2, q_at3, q_eq_l0, q_eq_t0, q_sl_s, q_fo_nil, runF, startE, finO, outsOf, inoutSlots, slotsFrom, lim, List.getElem?_cons_zero, List.getElem?_cons_succ, List.set_cons_zero, List.set_cons_succ, Option.map_some, List.length_cons, List.length_nil, List.replicate, List.getD_eq_getElem?_getD, Option.getD_some, Option.toList_some, Option.toList_none, List.nil_append, List.cons_append, List.append_nil, reduceCtorEq, if_true, if_false, ite_true, ite_false, m, h]
theorem D_tt {s : List Nat} {ks : List D} {g r : D} (h : f_apply_to_truths.F [.str s, g] = .ok r []) : f_described.F [.str s, .tup (.str kT :: ks), g] = .ok r [] := de_tt (f := f_apply_to_truths) rfl h
theorem de_two {f1 f2 f3 fn ft fs fl fo fz : CallF} {s : List Nat} {a b r : D} {k1 k2 : List Nat} (hs : s ≠ [112, 114, 101, 112, 101, 110, 100]) (h1 : k1 ≠ kT)
    (h : (k1 = kN ∧ fn.md = [false, false, false] ∧ fn.F [.str s, a, b] = .ok r []) ∨ (k1 = kS ∧ k2 = kS ∧ ft.md = [false, false, false] ∧ ft.F [.str s, a, b] = .ok r []) ∨ (k1 = kL ∧ k2 = kL ∧ fl.md = [false, false, false] ∧ fl.F [.str s, a, b] = .ok r [])) :
    leaveO [false, false, false] false (exSs 1000000 [.ite (.cmp .eq (.ix (.v 1) (.c (.int 0))) (.c (.str [116, 114, 117, 116, 104]))) [.ret (.call f1 [.v 0, .v 2])] [],
      .ite (.cmp .eq (.bi .len [.v 1]) (.c (.int 1))) [.ite (.cmp .eq (.ix (.v 1) (.c (.int 0))) (.c (.str [110, 117, 109, 98, 101, 114]))) [.ret (.call f2 [.v 0, .ix (.v 2) (.c (.int 0))])] [],
        .ite (.cmp .eq (.ix (.v 1) (.c (.int 0))) (.c (.str [116, 101, 120, 116]))) [.ret (.call f3 [.v 0, .ix (.v 2) (.c (.int 0))])] [], .ret (.call fo [.v 0, .ix (.v 2) (.c (.int 0))])] [],
      .ite (.cmp .eq (.v 0) (.c (.str [112, 114, 101, 112, 101, 110, 100]))) [.ret (.bin .add (.tup [.ix (.v 2) (.c (.int 0))]) (.ix (.v 2) (.c (.int 1))))] [],
      .ite (.cmp .eq (.ix (.v 1) (.c (.int 0))) (.c (.str [110, 117, 109, 98, 101, 114]))) [.ret (.call fn [.v 0, .ix (.v 2) (.c (.int 0)), .ix (.v 2) (.c (.int 1))])] [],
      .ite (.and [.cmp .eq (.ix (.v 1) (.c (.int 0))) (.c (.str [116, 101, 120, 116])), .cmp .eq (.ix (.v 1) (.c (.int 1))) (.c (.str [116, 101, 120, 116]))]) [.ret (.call ft [.v 0, .ix (.v 2) (.c (.int 0)), .ix (.v 2) (.c (.int 1))])] [],
      .ite (.cmp .eq (.ix (.v 1) (.c (.int 0))) (.c (.str [116, 101, 120, 116]))) [.ret (.call fs [.v 0, .ix (.v 2) (.c (.int 0)), .ix (.v 2) (.c (.int 1))])] [],
      .ite (.cmp .eq (.ix (.v 1) (.c (.int 1))) (.c (.str [108, 105, 115, 116]))) [.ret (.call fl [.v 0, .ix (.v 2) (.c (.int 0)), .ix (.v 2) (.c (.int 1))])] [],
      .ret (.call fz [.v 0, .ix (.v 2) (.c (.int 0)), .ix (.v 2) (.c (.int 1))])] [.val (.str s), .val (.tup [.str k1, .str k2]), .val (.lst [a, b])]) = .ok r [] := by
  rcases h with ⟨rfl, m, h⟩ | ⟨rfl, rfl, m, h⟩ | ⟨rfl, rfl, m, h⟩ <;> simp [q_bind_ok, q_out_ok, q_bind_exc, q_out_exc, q_seq_ret, q_seq_new, q_seq_brk, q_seq_cnt, q_seq_nx, q_seq_exc, q_opt_some, q_if_t, q_if_f, q_ev_v, q_ev_c, q_ev_g, q_ev_gix, q_ev_gin, q_ev_bin, q_ev_cat, q_cat_l, q_ev_neg, q_ev_not, q_ev_cmp, q_ev_chn, q_ev_and, q_ev_or, q_ev_ite, q_ev_tup, q_ev_lst, q_ev_call, q_ev_bi, q_ev_me, q_ev_isi, q_ev_ix, q_ev_slLo, q_ev_slHi, q_ev_slLH, q_ev_rev, q_ev_gti, q_ev_gsd, q_ev_lrev, q_ev_lc, q_ev_pop, q_evs_nil, q_evs_cons, q_and_1, q_and_2, q_or_1, q_or_2, q_ts_nil, q_ts_1, q_src_it, q_src_r1, q_src_r2, q_src_rd, q_evt, q_lcb, q_x_ret, q_x_retN, q_x_retF, q_x_set, q_x_setN, q_x_unp, q_x_aug, q_x_ite, q_x_whl, q_x_for, q_x_app, q_x_ext, q_x_put, q_x_exp, q_x_try, q_x_raise, q_x_frz, q_x_pas, q_x_brk, q_x_cnt, q_xs_nil, q_xs_cons, q_lv_d, q_lv_nx, q_lv_new, q_lv_o, q_lv_exc, q_deref_d, q_deref_o, q_derefs_nil, q_derefs_cons, q_asD_d, q_asDs_nil, q_asDs_cons, q_asI_i, q_asB_b, q_asS_s, q_bop_add, q_bop_sub, q_bop_mul, q_bop_mul_s, q_bop_fdiv, q_bop_mod, q_bop_pow, q_bop_add_str, q_bop_add_tup, q_bop_add_lst, q_cop_eq, q_cop_ne, q_cop_lt_i, q_cop_lt_b, q_cop_lt_s, q_cop_gt_i, q_cop_gt_s, q_cop_le_i, q_cop_ge_i, q_cop_in, q_cop_nin, q_cop_is_n, q_cop_is_b, q_cop_isn_n, q_mem_tup, q_mem_lst, q_mem_1, q_len_str, q_len_tup, q_len_lst, q_bi_abs, q_bi_max, q_bi_min, q_bi_all, q_bi_any, q_bi_sum, q_bi_int_i, q_bi_int_b, q_bi_str_i, q_bi_list_t, q_bi_list_l, q_bi_sum_t, q_bi_max1_l, q_bi_max1_t, q_bi_min1_l, q_bi_min1_t, q_rev_t, q_rev_l, q_rev_s, q_lrev_t, q_bi_tuple_t, q_bi_tuple_l, q_it_tup, q_it_lst, q_it_str, q_at_tup, q_at_lst, q_at_str, q_cut_tup, q_cut_lst, q_cut_str, q_setv, q_okSl_va, q_frSl_va, q_okSl_no, q_frSl_no, q_okSl_sl, q_frSl_sl, q_bn_nil, q_bn_cons, q_bt_n, q_bt_t, q_own_c, q_call_c, q_sp_nil, q_sp_d, q_sp_o, q_po_nil, q_po_cons, q_nd_nil, q_nd_1, q_eq_ii, q_eq_bb, q_eq_ss, q_eq_nn, q_eq_is, q_eq_si, q_eq_sn, q_eq_ns, q_eq_in, q_eq_ni, q_lc_nil, q_lc_cons, q_wipe_1, q_back_1, q_free_1, q_at0, q_at1, q_at2, q_at3, q_eq_l0, q_eq_t0, q_sl_s, q_fo_nil, runF, startE, finO, outsOf, inoutSlots, slotsFrom, lim, List.getElem?_cons_zero, List.getElem?_cons_succ, List.set_cons_zero, List.set_cons_succ, Option.map_some, List.length_cons, List.length_nil, List.replicate, List.getD_eq_getElem?_getD, Option.getD_some, Option.toList_some, Option.toList_none, List.nil_append, List.cons_append, List.append_nil, reduceCtorEq, if_true, if_false, ite_true, ite_false, hs, m, h]
theorem D_nn {s : List Nat} {a b r : D} {k2 : List Nat} (hs : s ≠ [112, 114, 101, 112, 101, 110, 100]) (h : f_apply_to_numbers.F [.str s, a, b] = .ok r []) : f_described.F [.str s, .tup [.str kN, .str k2], .lst [a, b]] = .ok r [] :=
  de_two (f1 := f_apply_to_truths) (f2 := f_apply_to_number) (f3 := f_apply_to_text) (fn := f_apply_to_numbers) (ft := f_apply_to_texts) (fs := f_apply_to_text_and_number) (fl := f_apply_to_lists) (fo := f_apply_to_list) (fz := f_apply_to_list_and_number) hs (by decide) (Or.inl ⟨rfl, rfl, h⟩)
end K05
end

section
set_option Elab.async false
set_option linter.all false
set_option maxRecDepth 100000
set_option maxHeartbeats 4000000
namespace K05
open PySem L2 Mini
theorem D_ss {s : List Nat} {a b r : D} (hs : s ≠ [112, 114, 101, 112, 101, 110, 100]) (h : f_apply_to_texts.F [.str s, a, b] = .ok r []) : f_described.F [.str s, .tup [.str kS, .str kS], .lst [a, b]] = .ok r [] :=
  de_two (f1 := f_apply_to_truths) (f2 := f_apply_to_number) (f3 := f_apply_to_text) (fn := f_apply_to_numbers) (ft := f_apply_to_texts) (fs := f_apply_to_text_and_number) (fl := f_apply_to_lists) (fo := f_apply_to_list) (fz := f_apply_to_list_and_number) hs (by decide) (Or.inr (Or.inl ⟨rfl, rfl, rfl, h⟩))
theorem D_ll {s : List Nat} {a b r : D} (hs : s ≠ [112, 114, 101, 112, 101, 110, 100]) (h : f_apply_to_lists.F [.str s, a, b] = .ok r []) : f_described.F [.str s, .tup [.str kL, .str kL], .lst [a, b]] = .ok r [] :=
  de_two (f1 := f_apply_to_truths) (f2 := f_apply_to_number) (f3 := f_apply_to_text) (fn := f_apply_to_numbers) (ft := f_apply_to_texts) (fs := f_apply_to_text_and_number) (fl := f_apply_to_lists) (fo := f_apply_to_list) (fz := f_apply_to_list_and_number) hs (by decide) (Or.inr (Or.inr ⟨rfl, rfl, rfl, h⟩))
/-- what a commutative component gives ahead of the last check -/
def comR (s : List Nat) (a b : D) : D := match a, b with
  | .int i, .int j => if s = [97, 100, 100] then .int (i + j) else if s = [101, 113, 117, 97, 108] then .bl (decide (i = j)) else if s = [109, 97, 120] then .int (max i j) else if s = [109, 105, 110] then .int (min i j) else .int (i * j)
  | .bl p, .bl q => if s = [98, 111, 116, 104] then .bl (p && q) else .bl (p || q)
  | .str x, .str y => .bl (decide (x = y))
  | .tup xs, .tup ys => if s = [115, 97, 109, 101, 95, 108, 105, 115, 116] then .bl (deqs xs ys) else .tup ((List.range (min xs.length ys.length)).map fun k => match xs.getD k .non, ys.getD k .non with
    | .int i, .int j => .int (i + j)
    | _, _ => .non)
  | _, _ => .non
theorem comR_comm (s : List Nat) (a b : D) : comR s a b = comR s b a := by
  cases a <;> cases b <;> try rfl
  · rename_i p q
    show (if s = _ then D.bl (p && q) else .bl (p || q)) = if s = _ then D.bl (q && p) else .bl (q || p)
    rw [Bool.and_comm, Bool.or_comm]
  · rename_i i j
    show (if s = _ then D.int (i + j) else if s = _ then .bl (decide (i = j)) else if s = _ then .int (max i j) else if s = _ then .int (min i j) else .int (i * j)) =
      (if s = _ then D.int (j + i) else if s = _ then .bl (decide (j = i)) else if s = _ then .int (max j i) else if s = _ then .int (min j i) else .int (j * i))
    rw [Int.add_comm, Int.max_comm, Int.min_comm, Int.mul_comm]
    congr 2
    simp [eq_comm]
  · rename_i x y
    show D.bl (decide (x = y)) = .bl (decide (y = x))
    simp [eq_comm]
  · rename_i xs ys
    show (if s = _ then D.bl (deqs xs ys) else .tup _) = if s = _ then D.bl (deqs ys xs) else .tup _
    rw [deqs_comm, Nat.min_comm]
    congr 2
    apply List.map_congr_left
    intro k _
    generalize xs.getD k .non = u
    generalize ys.getD k .non = v
    cases u <;> cases v <;> try rfl
    rename_i i j
    show D.int (i + j) = .int (j + i)
    rw [Int.add_comm]
theorem small_of {i : Int} (h : inR i = true) : small i = true := by
  obtain ⟨h1, h2⟩ := inR_iff.mp h
  have hb : big = 18446744073709551616 := by decide
  unfold small
  rw [hb, Bool.and_eq_true, decide_eq_true_eq, decide_eq_true_eq]
  omega
theorem max_i {i j : Int} : (if j > i then j else i) = max i j := by
  split <;> omega
theorem min_i {i j : Int} : (if j < i then j else i) = min i j := by
  split <;> omega
theorem n_add {i j : Int} : f_apply_to_numbers.F [.str [97, 100, 100], .int i, .int j] = .ok (.int (i + j)) [] := by
  simp [f_apply_to_numbers, b_apply_to_numbers, q_bind_ok, q_out_ok, q_bind_exc, q_out_exc, q_seq_ret, q_seq_new, q_seq_brk, q_seq_cnt, q_seq_nx, q_seq_exc, q_opt_some, q_if_t, q_if_f, q_ev_v, q_ev_c, q_ev_g, q_ev_gix, q_ev_gin, q_ev_bin, q_ev_cat, q_cat_l, q_ev_neg, q_ev_not, q_ev_cmp, q_ev_chn, q_ev_and, q_ev_or, q_ev_ite, q_ev_tup, q_ev_lst, q_ev_call, q_ev_bi, q_ev_me, q_ev_isi, q_ev_ix, q_ev_slLo, q_ev_slHi, q_ev_slLH, q_ev_rev, q_ev_gti, q_ev_gsd, q_ev_lrev, q_ev_lc, q_ev_pop, q_evs_nil, q_evs_cons, q_and_1, q_and_2, q_or_1, q_or_2, q_ts_nil, q_ts_1, q_src_it, q_src_r1, q_src_r2, q_src_rd, q_evt, q_lcb, q_x_ret, q_x_retN, q_x_retF, q_x_set, q_x_setN, q_x_unp, q_x_aug, q_x_ite, q_x_whl, q_x_for, q_x_app, q_x_ext, q_x_put, q_x_exp, q_x_try, q_x_raise, q_x_frz, q_x_pas, q_x_brk, q_x_cnt, q_xs_nil, q_xs_cons, q_lv_d, q_lv_nx, q_lv_new, q_lv_o, q_lv_exc, q_deref_d, q_deref_o, q_derefs_nil, q_derefs_cons, q_asD_d, q_asDs_nil, q_asDs_cons, q_asI_i, q_asB_b, q_asS_s, q_bop_add, q_bop_sub, q_bop_mul, q_bop_mul_s, q_bop_fdiv, q_bop_mod, q_bop_pow, q_bop_add_str, q_bop_add_tup, q_bop_add_lst, q_cop_eq, q_cop_ne, q_cop_lt_i, q_cop_lt_b, q_cop_lt_s, q_cop_gt_i, q_cop_gt_s, q_cop_le_i, q_cop_ge_i, q_cop_in, q_cop_nin, q_cop_is_n, q_cop_is_b, q_cop_isn_n, q_mem_tup, q_mem_lst, q_mem_1, q_len_str, q_len_tup, q_len_lst, q_bi_abs, q_bi_max, q_bi_min, q_bi_all, q_bi_any, q_bi_sum, q_bi_int_i, q_bi_int_b, q_bi_str_i, q_bi_list_t, q_bi_list_l, q_bi_sum_t, q_bi_max1_l, q_bi_max1_t, q_bi_min1_l, q_bi_min1_t, q_rev_t, q_rev_l, q_rev_s, q_lrev_t, q_bi_tuple_t, q_bi_tuple_l, q_it_tup, q_it_lst, q_it_str, q_at_tup, q_at_lst, q_at_str, q_cut_tup, q_cut_lst, q_cut_str, q_setv, q_okSl_va, q_frSl_va, q_okSl_no, q_frSl_no, q_okSl_sl, q_frSl_sl, q_bn_nil, q_bn_cons, q_bt_n, q_bt_t, q_own_c, q_call_c, q_sp_nil, q_sp_d, q_sp_o, q_po_nil, q_po_cons, q_nd_nil, q_nd_1, q_eq_ii, q_eq_bb, q_eq_ss, q_eq_nn, q_eq_is, q_eq_si, q_eq_sn, q_eq_ns, q_eq_in, q_eq_ni, q_lc_nil, q_lc_cons, q_wipe_1, q_back_1, q_free_1, q_at0, q_at1, q_at2, q_at3, q_eq_l0, q_eq_t0, q_sl_s, q_fo_nil, runF, startE, finO, outsOf, inoutSlots, slotsFrom, lim, List.getElem?_cons_zero, List.getElem?_cons_succ, List.set_cons_zero, List.set_cons_succ, Option.map_some, List.length_cons, List.length_nil, List.replicate, List.getD_eq_getElem?_getD, Option.getD_some, Option.toList_some, Option.toList_none, List.nil_append, List.cons_append, List.append_nil, reduceCtorEq, if_true, if_false, ite_true, ite_false]
theorem n_equal {i j : Int} : f_apply_to_numbers.F [.str [101, 113, 117, 97, 108], .int i, .int j] = .ok (.bl (decide (i = j))) [] := by
  simp [f_apply_to_numbers, b_apply_to_numbers, q_bind_ok, q_out_ok, q_bind_exc, q_out_exc, q_seq_ret, q_seq_new, q_seq_brk, q_seq_cnt, q_seq_nx, q_seq_exc, q_opt_some, q_if_t, q_if_f, q_ev_v, q_ev_c, q_ev_g, q_ev_gix, q_ev_gin, q_ev_bin, q_ev_cat, q_cat_l, q_ev_neg, q_ev_not, q_ev_cmp, q_ev_chn, q_ev_and, q_ev_or, q_ev_ite, q_ev_tup, q_ev_lst, q_ev_call, q_ev_bi, q_ev_me, q_ev_isi, q_ev_ix, q_ev_slLo, q_ev_slHi, q_ev_slLH, q_ev_rev, q_ev_gti, q_ev_gsd, q_ev_lrev, q_ev_lc, q_ev_pop, q_evs_nil, q_evs_cons, q_and_1, q_and_2, q_or_1, q_or_2, q_ts_nil, q_ts_1, q_src_it, q_src_r1, q_src_r2, q_src_rd, q_evt, q_lcb, q_x_ret, q_x_retN, q_x_retF, q_x_set, q_x_setN, q_x_unp, q_x_aug, q_x_ite, q_x_whl, q_x_for, q_x_app, q_x_ext, q_x_put, q_x_exp, q_x_try, q_x_raise, q_x_frz, q_x_pas, q_x_brk, q_x_cnt, q_xs_nil, q_xs_cons, q_lv_d, q_lv_nx, q_lv_new, q_lv_o, q_lv_exc, q_deref_d, q_deref_o, q_derefs_nil, q_derefs_cons, q_asD_d, q_asDs_nil, q_asDs_cons, q_asI_i, q_asB_b, q_asS_s, q_bop_add, q_bop_sub, q_bop_mul, q_bop_mul_s, q_bop_fdiv, q_bop_mod, q_bop_pow, q_bop_add_str, q_bop_add_tup, q_bop_add_lst, q_cop_eq, q_cop_ne, q_cop_lt_i, q_cop_lt_b, q_cop_lt_s, q_cop_gt_i, q_cop_gt_s, q_cop_le_i, q_cop_ge_i, q_cop_in, q_cop_nin, q_cop_is_n, q_cop_is_b, q_cop_isn_n, q_mem_tup, q_mem_lst, q_mem_1, q_len_str, q_len_tup, q_len_lst, q_bi_abs, q_bi_max, q_bi_min, q_bi_all, q_bi_any, q_bi_sum, q_bi_int_i, q_bi_int_b, q_bi_str_i, q_bi_list_t, q_bi_list_l, q_bi_sum_t, q_bi_max1_l, q_bi_max1_t, q_bi_min1_l, q_bi_min1_t, q_rev_t, q_rev_l, q_rev_s, q_lrev_t, q_bi_tuple_t, q_bi_tuple_l, q_it_tup, q_it_lst, q_it_str, q_at_tup, q_at_lst, q_at_str, q_cut_tup, q_cut_lst, q_cut_str, q_setv, q_okSl_va, q_frSl_va, q_okSl_no, q_frSl_no, q_okSl_sl, q_frSl_sl, q_bn_nil, q_bn_cons, q_bt_n, q_bt_t, q_own_c, q_call_c, q_sp_nil, q_sp_d, q_sp_o, q_po_nil, q_po_cons, q_nd_nil, q_nd_1, q_eq_ii, q_eq_bb, q_eq_ss, q_eq_nn, q_eq_is, q_eq_si, q_eq_sn, q_eq_ns, q_eq_in, q_eq_ni, q_lc_nil, q_lc_cons, q_wipe_1, q_back_1, q_free_1, q_at0, q_at1, q_at2, q_at3, q_eq_l0, q_eq_t0, q_sl_s, q_fo_nil, runF, startE, finO, outsOf, inoutSlots, slotsFrom, lim, List.getElem?_cons_zero, List.getElem?_cons_succ, List.set_cons_zero, List.set_cons_succ, Option.map_some, List.length_cons, List.length_nil, List.replicate, List.getD_eq_getElem?_getD, Option.getD_some, Option.toList_some, Option.toList_none, List.nil_append, List.cons_append, List.append_nil, reduceCtorEq, if_true, if_false, ite_true, ite_false]
theorem n_max {i j : Int} : f_apply_to_numbers.F [.str [109, 97, 120], .int i, .int j] = .ok (.int (max i j)) [] := by
  rw [← max_i]
  simp [f_apply_to_numbers, b_apply_to_numbers, q_bind_ok, q_out_ok, q_bind_exc, q_out_exc, q_seq_ret, q_seq_new, q_seq_brk, q_seq_cnt, q_seq_nx, q_seq_exc, q_opt_some, q_if_t, q_if_f, q_ev_v, q_ev_c, q_ev_g, q_ev_gix, q_ev_gin, q_ev_bin, q_ev_cat, q_cat_l, q_ev_neg, q_ev_not, q_ev_cmp, q_ev_chn, q_ev_and, q_ev_or, q_ev_ite, q_ev_tup, q_ev_lst, q_ev_call, q_ev_bi, q_ev_me, q_ev_isi, q_ev_ix, q_ev_slLo, q_ev_slHi, q_ev_slLH, q_ev_rev, q_ev_gti, q_ev_gsd, q_ev_lrev, q_ev_lc, q_ev_pop, q_evs_nil, q_evs_cons, q_and_1, q_and_2, q_or_1, q_or_2, q_ts_nil, q_ts_1, q_src_it, q_src_r1, q_src_r2, q_src_rd, q_evt, q_lcb, q_x_ret, q_x_retN, q_x_retF, q_x_set, q_x_setN, q_x_unp, q_x_aug, q_x_ite, q_x_whl, q_x_for, q_x_app, q_x_ext, q_x_put, q_x_exp, q_x_try, q_x_raise, q_x_frz, q_x_pas, q_x_brk, q_x_cnt, q_xs_nil, q_xs_cons, q_lv_d, q_lv_nx, q_lv_new, q_lv_o, q_lv_exc, q_deref_d, q_deref_o, q_derefs_nil, q_derefs_cons, q_asD_d, q_asDs_nil, q_asDs_cons, q_asI_i, q_asB_b, q_asS_s, q_bop_add, q_bop_sub, q_bop_mul, q_bop_mul_s, q_bop_fdiv, q_bop_mod, q_bop_pow, q_bop_add_str, q_bop_add_tup, q_bop_add_lst, q_cop_eq, q_cop_ne, q_cop_lt_i, q_cop_lt_b, q_cop_lt_s, q_cop_gt_i, q_cop_gt_s, q_cop_le_i, q_cop_ge_i, q_cop_in, q_cop_nin, q_cop_is_n, q_cop_is_b, q_cop_isn_n, q_mem_tup, q_mem_lst, q_mem_1, q_len_str, q_len_tup, q_len_lst, q_bi_abs, q_bi_max, q_bi_min, q_bi_all, q_bi_any, q_bi_sum, q_bi_int_i, q_bi_int_b, q_bi_str_i, q_bi_list_t, q_bi_list_l, q_bi_sum_t, q_bi_max1_l, q_bi_max1_t, q_bi_min1_l, q_bi_min1_t, q_rev_t, q_rev_l, q_rev_s, q_lrev_t, q_bi_tuple_t, q_bi_tuple_l, q_it_tup, q_it_lst, q_it_str, q_at_tup, q_at_lst, q_at_str, q_cut_tup, q_cut_lst, q_cut_str, q_setv, q_okSl_va, q_frSl_va, q_okSl_no, q_frSl_no, q_okSl_sl, q_frSl_sl, q_bn_nil, q_bn_cons, q_bt_n, q_bt_t, q_own_c, q_call_c, q_sp_nil, q_sp_d, q_sp_o, q_po_nil, q_po_cons, q_nd_nil, q_nd_1, q_eq_ii, q_eq_bb, q_eq_ss, q_eq_nn, q_eq_is, q_eq_si, q_eq_sn, q_eq_ns, q_eq_in, q_eq_ni, q_lc_nil, q_lc_cons, q_wipe_1, q_back_1, q_free_1, q_at0, q_at1, q_at2, q_at3, q_eq_l0, q_eq_t0, q_sl_s, q_fo_nil, runF, startE, finO, outsOf, inoutSlots, slotsFrom, lim, List.getElem?_cons_zero, List.getElem?_cons_succ, List.set_cons_zero, List.set_cons_succ, Option.map_some, List.length_cons, List.length_nil, List.replicate, List.getD_eq_getElem?_getD, Option.getD_some, Option.toList_some, Option.toList_none, List.nil_append, List.cons_append, List.append_nil, reduceCtorEq, if_true, if_false, ite_true, ite_false]
theorem n_min {i j : Int} : f_apply_to_numbers.F [.str [109, 105, 110], .int i, .int j] = .ok (.int (min i j)) [] := by
  rw [← min_i]
  simp [f_apply_to_numbers, b_apply_to_numbers, q_bind_ok, q_out_ok, q_bind_exc, q_out_exc, q_seq_ret, q_seq_new, q_seq_brk, q_seq_cnt, q_seq_nx, q_seq_exc, q_opt_some, q_if_t, q_if_f, q_ev_v, q_ev_c, q_ev_g, q_ev_gix, q_ev_gin, q_ev_bin, q_ev_cat, q_cat_l, q_ev_neg, q_ev_not, q_ev_cmp, q_ev_chn, q_ev_and, q_ev_or, q_ev_ite, q_ev_tup, q_ev_lst, q_ev_call, q_ev_bi, q_ev_me, q_ev_isi, q_ev_ix, q_ev_slLo, q_ev_slHi, q_ev_slLH, q_ev_rev, q_ev_gti, q_ev_gsd, q_ev_lrev, q_ev_lc, q_ev_pop, q_evs_nil, q_evs_cons, q_and_1, q_and_2, q_or_1, q_or_2, q_ts_nil, q_ts_1, q_src_it, q_src_r1, q_src_r2, q_src_rd, q_evt, q_lcb, q_x_ret, q_x_retN, q_x_retF, q_x_set, q_x_setN, q_x_unp, q_x_aug, q_x_ite, q_x_whl, q_x_for, q_x_app, q_x_ext, q_x_put, q_x_exp, q_x_try, q_x_raise, q_x_frz, q_x_pas, q_x_brk, q_x_cnt, q_xs_nil, q_xs_cons, q_lv_d, q_lv_nx, q_lv_new, q_lv_o, q_lv_exc, q_deref_d, q_deref_o, q_derefs_nil, q_derefs_cons, q_asD_d, q_asDs_nil, q_asDs_cons, q_asI_i, q_asB_b, q_asS_s, q_bop_add, q_bop_sub, q_bop_mul, q_bop_mul_s, q_bop_fdiv, q_bop_mod, q_bop_pow, q_bop_add_str, q_bop_add_tup, q_bop_add_lst, q_cop_eq, q_cop_ne, q_cop_lt_i, q_cop_lt_b, q_cop_lt_s, q_cop_gt_i, q_cop_gt_s, q_cop_le_i, q_cop_ge_i, q_cop_in, q_cop_nin, q_cop_is_n, q_cop_is_b, q_cop_isn_n, q_mem_tup, q_mem_lst, q_mem_1, q_len_str, q_len_tup, q_len_lst, q_bi_abs, q_bi_max, q_bi_min, q_bi_all, q_bi_any, q_bi_sum, q_bi_int_i, q_bi_int_b, q_bi_str_i, q_bi_list_t, q_bi_list_l, q_bi_sum_t, q_bi_max1_l, q_bi_max1_t, q_bi_min1_l, q_bi_min1_t, q_rev_t, q_rev_l, q_rev_s, q_lrev_t, q_bi_tuple_t, q_bi_tuple_l, q_it_tup, q_it_lst, q_it_str, q_at_tup, q_at_lst, q_at_str, q_cut_tup, q_cut_lst, q_cut_str, q_setv, q_okSl_va, q_frSl_va, q_okSl_no, q_frSl_no, q_okSl_sl, q_frSl_sl, q_bn_nil, q_bn_cons, q_bt_n, q_bt_t, q_own_c, q_call_c, q_sp_nil, q_sp_d, q_sp_o, q_po_nil, q_po_cons, q_nd_nil, q_nd_1, q_eq_ii, q_eq_bb, q_eq_ss, q_eq_nn, q_eq_is, q_eq_si, q_eq_sn, q_eq_ns, q_eq_in, q_eq_ni, q_lc_nil, q_lc_cons, q_wipe_1, q_back_1, q_free_1, q_at0, q_at1, q_at2, q_at3, q_eq_l0, q_eq_t0, q_sl_s, q_fo_nil, runF, startE, finO, outsOf, inoutSlots, slotsFrom, lim, List.getElem?_cons_zero, List.getElem?_cons_succ, List.set_cons_zero, List.set_cons_succ, Option.map_some, List.length_cons, List.length_nil, List.replicate, List.getD_eq_getElem?_getD, Option.getD_some, Option.toList_some, Option.toList_none, List.nil_append, List.cons_append, List.append_nil, reduceCtorEq, if_true, if_false, ite_true, ite_false]
theorem n_mul {i j : Int} (h : small i = true) : f_apply_to_numbers.F [.str [109, 117, 108], .int i, .int j] = .ok (.int (i * j)) [] := by
  simp [f_apply_to_numbers, b_apply_to_numbers, q_bind_ok, q_out_ok, q_bind_exc, q_out_exc, q_seq_ret, q_seq_new, q_seq_brk, q_seq_cnt, q_seq_nx, q_seq_exc, q_opt_some, q_if_t, q_if_f, q_ev_v, q_ev_c, q_ev_g, q_ev_gix, q_ev_gin, q_ev_bin, q_ev_cat, q_cat_l, q_ev_neg, q_ev_not, q_ev_cmp, q_ev_chn, q_ev_and, q_ev_or, q_ev_ite, q_ev_tup, q_ev_lst, q_ev_call, q_ev_bi, q_ev_me, q_ev_isi, q_ev_ix, q_ev_slLo, q_ev_slHi, q_ev_slLH, q_ev_rev, q_ev_gti, q_ev_gsd, q_ev_lrev, q_ev_lc, q_ev_pop, q_evs_nil, q_evs_cons, q_and_1, q_and_2, q_or_1, q_or_2, q_ts_nil, q_ts_1, q_src_it, q_src_r1, q_src_r2, q_src_rd, q_evt, q_lcb, q_x_ret, q_x_retN, q_x_retF, q_x_set, q_x_setN, q_x_unp, q_x_aug, q_x_ite, q_x_whl, q_x_for, q_x_app, q_x_ext, q_x_put, q_x_exp, q_x_try, q_x_raise, q_x_frz, q_x_pas, q_x_brk, q_x_cnt, q_xs_nil, q_xs_cons, q_lv_d, q_lv_nx, q_lv_new, q_lv_o, q_lv_exc, q_deref_d, q_deref_o, q_derefs_nil, q_derefs_cons, q_asD_d, q_asDs_nil, q_asDs_cons, q_asI_i, q_asB_b, q_asS_s, q_bop_add, q_bop_sub, q_bop_mul, q_bop_mul_s, q_bop_fdiv, q_bop_mod, q_bop_pow, q_bop_add_str, q_bop_add_tup, q_bop_add_lst, q_cop_eq, q_cop_ne, q_cop_lt_i, q_cop_lt_b, q_cop_lt_s, q_cop_gt_i, q_cop_gt_s, q_cop_le_i, q_cop_ge_i, q_cop_in, q_cop_nin, q_cop_is_n, q_cop_is_b, q_cop_isn_n, q_mem_tup, q_mem_lst, q_mem_1, q_len_str, q_len_tup, q_len_lst, q_bi_abs, q_bi_max, q_bi_min, q_bi_all, q_bi_any, q_bi_sum, q_bi_int_i, q_bi_int_b, q_bi_str_i, q_bi_list_t, q_bi_list_l, q_bi_sum_t, q_bi_max1_l, q_bi_max1_t, q_bi_min1_l, q_bi_min1_t, q_rev_t, q_rev_l, q_rev_s, q_lrev_t, q_bi_tuple_t, q_bi_tuple_l, q_it_tup, q_it_lst, q_it_str, q_at_tup, q_at_lst, q_at_str, q_cut_tup, q_cut_lst, q_cut_str, q_setv, q_okSl_va, q_frSl_va, q_okSl_no, q_frSl_no, q_okSl_sl, q_frSl_sl, q_bn_nil, q_bn_cons, q_bt_n, q_bt_t, q_own_c, q_call_c, q_sp_nil, q_sp_d, q_sp_o, q_po_nil, q_po_cons, q_nd_nil, q_nd_1, q_eq_ii, q_eq_bb, q_eq_ss, q_eq_nn, q_eq_is, q_eq_si, q_eq_sn, q_eq_ns, q_eq_in, q_eq_ni, q_lc_nil, q_lc_cons, q_wipe_1, q_back_1, q_free_1, q_at0, q_at1, q_at2, q_at3, q_eq_l0, q_eq_t0, q_sl_s, q_fo_nil, runF, startE, finO, outsOf, inoutSlots, slotsFrom, lim, List.getElem?_cons_zero, List.getElem?_cons_succ, List.set_cons_zero, List.set_cons_succ, Option.map_some, List.length_cons, List.length_nil, List.replicate, List.getD_eq_getElem?_getD, Option.getD_some, Option.toList_some, Option.toList_none, List.nil_append, List.cons_append, List.append_nil, reduceCtorEq, if_true, if_false, ite_true, ite_false, h]
theorem t_both {p q : Bool} : f_apply_to_truths.F [.str [98, 111, 116, 104], .lst [.bl p, .bl q]] = .ok (.bl (p && q)) [] := by
  cases p <;> cases q <;> rfl
theorem t_either {p q : Bool} : f_apply_to_truths.F [.str [101, 105, 116, 104, 101, 114], .lst [.bl p, .bl q]] = .ok (.bl (p || q)) [] := by
  cases p <;> cases q <;> rfl
theorem s_same {x y : List Nat} : f_apply_to_texts.F [.str [115, 97, 109, 101, 95, 116, 101, 120, 116], .str x, .str y] = .ok (.bl (decide (x = y))) [] := by
  simp [f_apply_to_texts, b_apply_to_texts, q_bind_ok, q_out_ok, q_bind_exc, q_out_exc, q_seq_ret, q_seq_new, q_seq_brk, q_seq_cnt, q_seq_nx, q_seq_exc, q_opt_some, q_if_t, q_if_f, q_ev_v, q_ev_c, q_ev_g, q_ev_gix, q_ev_gin, q_ev_bin, q_ev_cat, q_cat_l, q_ev_neg, q_ev_not, q_ev_cmp, q_ev_chn, q_ev_and, q_ev_or, q_ev_ite, q_ev_tup, q_ev_lst, q_ev_call, q_ev_bi, q_ev_me, q_ev_isi, q_ev_ix, q_ev_slLo, q_ev_slHi, q_ev_slLH, q_ev_rev, q_ev_gti, q_ev_gsd, q_ev_lrev, q_ev_lc, q_ev_pop, q_evs_nil, q_evs_cons, q_and_1, q_and_2, q_or_1, q_or_2, q_ts_nil, q_ts_1, q_src_it, q_src_r1, q_src_r2, q_src_rd, q_evt, q_lcb, q_x_ret, q_x_retN, q_x_retF, q_x_set, q_x_setN, q_x_unp, q_x_aug, q_x_ite, q_x_whl, q_x_for, q_x_app, q_x_ext, q_x_put, q_x_exp, q_x_try, q_x_raise, q_x_frz, q_x_pas, q_x_brk, q_x_cnt, q_xs_nil, q_xs_cons, q_lv_d, q_lv_nx, q_lv_new, q_lv_o, q_lv_exc, q_deref_d, q_deref_o, q_derefs_nil, q_derefs_cons, q_asD_d, q_asDs_nil, q_asDs_cons, q_asI_i, q_asB_b, q_asS_s, q_bop_add, q_bop_sub, q_bop_mul, q_bop_mul_s, q_bop_fdiv, q_bop_mod, q_bop_pow, q_bop_add_str, q_bop_add_tup, q_bop_add_lst, q_cop_eq, q_cop_ne, q_cop_lt_i, q_cop_lt_b, q_cop_lt_s, q_cop_gt_i, q_cop_gt_s, q_cop_le_i, q_cop_ge_i, q_cop_in, q_cop_nin, q_cop_is_n, q_cop_is_b, q_cop_isn_n, q_mem_tup, q_mem_lst, q_mem_1, q_len_str, q_len_tup, q_len_lst, q_bi_abs, q_bi_max, q_bi_min, q_bi_all, q_bi_any, q_bi_sum, q_bi_int_i, q_bi_int_b, q_bi_str_i, q_bi_list_t, q_bi_list_l, q_bi_sum_t, q_bi_max1_l, q_bi_max1_t, q_bi_min1_l, q_bi_min1_t, q_rev_t, q_rev_l, q_rev_s, q_lrev_t, q_bi_tuple_t, q_bi_tuple_l, q_it_tup, q_it_lst, q_it_str, q_at_tup, q_at_lst, q_at_str, q_cut_tup, q_cut_lst, q_cut_str, q_setv, q_okSl_va, q_frSl_va, q_okSl_no, q_frSl_no, q_okSl_sl, q_frSl_sl, q_bn_nil, q_bn_cons, q_bt_n, q_bt_t, q_own_c, q_call_c, q_sp_nil, q_sp_d, q_sp_o, q_po_nil, q_po_cons, q_nd_nil, q_nd_1, q_eq_ii, q_eq_bb, q_eq_ss, q_eq_nn, q_eq_is, q_eq_si, q_eq_sn, q_eq_ns, q_eq_in, q_eq_ni, q_lc_nil, q_lc_cons, q_wipe_1, q_back_1, q_free_1, q_at0, q_at1, q_at2, q_at3, q_eq_l0, q_eq_t0, q_sl_s, q_fo_nil, runF, startE, finO, outsOf, inoutSlots, slotsFrom, lim, List.getElem?_cons_zero, List.getElem?_cons_succ, List.set_cons_zero, List.set_cons_succ, Option.map_some, List.length_cons, List.length_nil, List.replicate, List.getD_eq_getElem?_getD, Option.getD_some, Option.toList_some, Option.toList_none, List.nil_append, List.cons_append, List.append_nil, reduceCtorEq, if_true, if_false, ite_true, ite_false]
theorem l_same {xs ys : List D} (h : dep (.tup xs) ≤ 60) : f_apply_to_lists.F [.str [115, 97, 109, 101, 95, 108, 105, 115, 116], .tup xs, .tup ys] = .ok (.bl (deqs xs ys)) [] := by
  have he : cop .eq (.tup xs) (.tup ys) = some (deqs xs ys) := by
    show eqO _ _ = _
    unfold eqO
    rw [if_pos (by omega)]
    rfl
  have h1 : cop .eq (.str [115, 97, 109, 101, 95, 108, 105, 115, 116]) (.str [106, 111, 105, 110]) = some false := by simp [q_bind_ok, q_out_ok, q_bind_exc, q_out_exc, q_seq_ret, q_seq_new, q_seq_brk, q_seq_cnt, q_seq_nx, q_seq_exc, q_opt_some, q_if_t, q_if_f, q_ev_v, q_ev_c, q_ev_g, q_ev_gix, q_ev_gin, q_ev_bin, q_ev_cat, q_cat_l, q_ev_neg, q_ev_not, q_ev_cmp, q_ev_chn, q_ev_and, q_ev_or, q_ev_ite, q_ev_tup, q_ev_lst, q_ev_call, q_ev_bi, q_ev_me, q_ev_isi, q_ev_ix, q_ev_slLo, q_ev_slHi, q_ev_slLH, q_ev_rev, q_ev_gti, q_ev_gsd, q_ev_lrev, q_ev_lc, q_ev_pop, q_evs_nil, q_evs_cons, q_and_1, q_and_2, q_or_1, q_or_2, q_ts_nil, q_ts_1, q_src_it, q_src_r1, q_src_r2, q_src_rd, q_evt, q_lcb, q_x_ret, q_x_retN, q_x_retF, q_x_set, q_x_setN, q_x_unp, q_x_aug, q_x_ite, q_x_whl, q_x_for, q_x_app, q_x_ext, q_x_put, q_x_exp, q_x_try, q_x_raise, q_x_frz, q_x_pas, q_x_brk, q_x_cnt, q_xs_nil, q_xs_cons, q_lv_d, q_lv_nx, q_lv_new, q_lv_o, q_lv_exc, q_deref_d, q_deref_o, q_derefs_nil, q_derefs_cons, q_asD_d, q_asDs_nil, q_asDs_cons, q_asI_i, q_asB_b, q_asS_s, q_bop_add, q_bop_sub, q_bop_mul, q_bop_mul_s, q_bop_fdiv, q_bop_mod, q_bop_pow, q_bop_add_str, q_bop_add_tup, q_bop_add_lst, q_cop_eq, q_cop_ne, q_cop_lt_i, q_cop_lt_b, q_cop_lt_s, q_cop_gt_i, q_cop_gt_s, q_cop_le_i, q_cop_ge_i, q_cop_in, q_cop_nin, q_cop_is_n, q_cop_is_b, q_cop_isn_n, q_mem_tup, q_mem_lst, q_mem_1, q_len_str, q_len_tup, q_len_lst, q_bi_abs, q_bi_max, q_bi_min, q_bi_all, q_bi_any, q_bi_sum, q_bi_int_i, q_bi_int_b, q_bi_str_i, q_bi_list_t, q_bi_list_l, q_bi_sum_t, q_bi_max1_l, q_bi_max1_t, q_bi_min1_l, q_bi_min1_t, q_rev_t, q_rev_l, q_rev_s, q_lrev_t, q_bi_tuple_t, q_bi_tuple_l, q_it_tup, q_it_lst, q_it_str, q_at_tup, q_at_lst, q_at_str, q_cut_tup, q_cut_lst, q_cut_str, q_setv, q_okSl_va, q_frSl_va, q_okSl_no, q_frSl_no, q_okSl_sl, q_frSl_sl, q_bn_nil, q_bn_cons, q_bt_n, q_bt_t, q_own_c, q_call_c, q_sp_nil, q_sp_d, q_sp_o, q_po_nil, q_po_cons, q_nd_nil, q_nd_1, q_eq_ii, q_eq_bb, q_eq_ss, q_eq_nn, q_eq_is, q_eq_si, q_eq_sn, q_eq_ns, q_eq_in, q_eq_ni, q_lc_nil, q_lc_cons, q_wipe_1, q_back_1, q_free_1, q_at0, q_at1, q_at2, q_at3, q_eq_l0, q_eq_t0, q_sl_s, q_fo_nil, runF, startE, finO, outsOf, inoutSlots, slotsFrom, lim, List.getElem?_cons_zero, List.getElem?_cons_succ, List.set_cons_zero, List.set_cons_succ, Option.map_some, List.length_cons, List.length_nil, List.replicate, List.getD_eq_getElem?_getD, Option.getD_some, Option.toList_some, Option.toList_none, List.nil_append, List.cons_append, List.append_nil, reduceCtorEq, if_true, if_false, ite_true, ite_false]
  have h2 : cop .eq (.str [115, 97, 109, 101, 95, 108, 105, 115, 116]) (.str [115, 97, 109, 101, 95, 108, 105, 115, 116]) = some true := by simp [q_bind_ok, q_out_ok, q_bind_exc, q_out_exc, q_seq_ret, q_seq_new, q_seq_brk, q_seq_cnt, q_seq_nx, q_seq_exc, q_opt_some, q_if_t, q_if_f, q_ev_v, q_ev_c, q_ev_g, q_ev_gix, q_ev_gin, q_ev_bin, q_ev_cat, q_cat_l, q_ev_neg, q_ev_not, q_ev_cmp, q_ev_chn, q_ev_and, q_ev_or, q_ev_ite, q_ev_tup, q_ev_lst, q_ev_call, q_ev_bi, q_ev_me, q_ev_isi, q_ev_ix, q_ev_slLo, q_ev_slHi, q_ev_slLH, q_ev_rev, q_ev_gti, q_ev_gsd, q_ev_lrev, q_ev_lc, q_ev_pop, q_evs_nil, q_evs_cons, q_and_1, q_and_2, q_or_1, q_or_2, q_ts_nil, q_ts_1, q_src_it, q_src_r1, q_src_r2, q_src_rd, q_evt, q_lcb, q_x_ret, q_x_retN, q_x_retF, q_x_set, q_x_setN, q_x_unp, q_x_aug, q_x_ite, q_x_whl, q_x_for, q_x_app, q_x_ext, q_x_put, q_x_exp, q_x_try, q_x_raise, q_x_frz, q_x_pas, q_x_brk, q_x_cnt, q_xs_nil, q_xs_cons, q_lv_d, q_lv_nx, q_lv_new, q_lv_o, q_lv_exc, q_deref_d, q_deref_o, q_derefs_nil, q_derefs_cons, q_asD_d, q_asDs_nil, q_asDs_cons, q_asI_i, q_asB_b, q_asS_s, q_bop_add, q_bop_sub, q_bop_mul, q_bop_mul_s, q_bop_fdiv, q_bop_mod, q_bop_pow, q_bop_add_str, q_bop_add_tup, q_bop_add_lst, q_cop_eq, q_cop_ne, q_cop_lt_i, q_cop_lt_b, q_cop_lt_s, q_cop_gt_i, q_cop_gt_s, q_cop_le_i, q_cop_ge_i, q_cop_in, q_cop_nin, q_cop_is_n, q_cop_is_b, q_cop_isn_n, q_mem_tup, q_mem_lst, q_mem_1, q_len_str, q_len_tup, q_len_lst, q_bi_abs, q_bi_max, q_bi_min, q_bi_all, q_bi_any, q_bi_sum, q_bi_int_i, q_bi_int_b, q_bi_str_i, q_bi_list_t, q_bi_list_l, q_bi_sum_t, q_bi_max1_l, q_bi_max1_t, q_bi_min1_l, q_bi_min1_t, q_rev_t, q_rev_l, q_rev_s, q_lrev_t, q_bi_tuple_t, q_bi_tuple_l, q_it_tup, q_it_lst, q_it_str, q_at_tup, q_at_lst, q_at_str, q_cut_tup, q_cut_lst, q_cut_str, q_setv, q_okSl_va, q_frSl_va, q_okSl_no, q_frSl_no, q_okSl_sl, q_frSl_sl, q_bn_nil, q_bn_cons, q_bt_n, q_bt_t, q_own_c, q_call_c, q_sp_nil, q_sp_d, q_sp_o, q_po_nil, q_po_cons, q_nd_nil, q_nd_1, q_eq_ii, q_eq_bb, q_eq_ss, q_eq_nn, q_eq_is, q_eq_si, q_eq_sn, q_eq_ns, q_eq_in, q_eq_ni, q_lc_nil, q_lc_cons, q_wipe_1, q_back_1, q_free_1, q_at0, q_at1, q_at2, q_at3, q_eq_l0, q_eq_t0, q_sl_s, q_fo_nil, runF, startE, finO, outsOf, inoutSlots, slotsFrom, lim, List.getElem?_cons_zero, List.getElem?_cons_succ, List.set_cons_zero, List.set_cons_succ, Option.map_some, List.length_cons, List.length_nil, List.replicate, List.getD_eq_getElem?_getD, Option.getD_some, Option.toList_some, Option.toList_none, List.nil_append, List.cons_append, List.append_nil, reduceCtorEq, if_true, if_false, ite_true, ite_false]
  simp [f_apply_to_lists, b_apply_to_lists, q_bind_ok, q_out_ok, q_bind_exc, q_out_exc, q_seq_ret, q_seq_new, q_seq_brk, q_seq_cnt, q_seq_nx, q_seq_exc, q_opt_some, q_if_t, q_if_f, q_ev_v, q_ev_c, q_ev_g, q_ev_gix, q_ev_gin, q_ev_bin, q_ev_cat, q_cat_l, q_ev_neg, q_ev_not, q_ev_cmp, q_ev_chn, q_ev_and, q_ev_or, q_ev_ite, q_ev_tup, q_ev_lst, q_ev_call, q_ev_bi, q_ev_me, q_ev_isi, q_ev_ix, q_ev_slLo, q_ev_slHi, q_ev_slLH, q_ev_rev, q_ev_gti, q_ev_gsd, q_ev_lrev, q_ev_lc, q_ev_pop, q_evs_nil, q_evs_cons, q_and_1, q_and_2, q_or_1, q_or_2, q_ts_nil, q_ts_1, q_src_it, q_src_r1, q_src_r2, q_src_rd, q_evt, q_lcb, q_x_ret, q_x_retN, q_x_retF, q_x_set, q_x_setN, q_x_unp, q_x_aug, q_x_ite, q_x_whl, q_x_for, q_x_app, q_x_ext, q_x_put, q_x_exp, q_x_try, q_x_raise, q_x_frz, q_x_pas, q_x_brk, q_x_cnt, q_xs_nil, q_xs_cons, q_lv_d, q_lv_nx, q_lv_new, q_lv_o, q_lv_exc, q_deref_d, q_deref_o, q_derefs_nil, q_derefs_cons, q_asD_d, q_asDs_nil, q_asDs_cons, q_asI_i, q_asB_b, q_asS_s, q_bop_add, q_bop_sub, q_bop_mul, q_bop_mul_s, q_bop_fdiv, q_bop_mod, q_bop_pow, q_bop_add_str, q_bop_add_tup, q_bop_add_lst, q_cop_eq, q_cop_ne, q_cop_lt_i, q_cop_lt_b, q_cop_lt_s, q_cop_gt_i, q_cop_gt_s, q_cop_le_i, q_cop_ge_i, q_cop_in, q_cop_nin, q_cop_is_n, q_cop_is_b, q_cop_isn_n, q_mem_tup, q_mem_lst, q_mem_1, q_len_str, q_len_tup, q_len_lst, q_bi_abs, q_bi_max, q_bi_min, q_bi_all, q_bi_any, q_bi_sum, q_bi_int_i, q_bi_int_b, q_bi_str_i, q_bi_list_t, q_bi_list_l, q_bi_sum_t, q_bi_max1_l, q_bi_max1_t, q_bi_min1_l, q_bi_min1_t, q_rev_t, q_rev_l, q_rev_s, q_lrev_t, q_bi_tuple_t, q_bi_tuple_l, q_it_tup, q_it_lst, q_it_str, q_at_tup, q_at_lst, q_at_str, q_cut_tup, q_cut_lst, q_cut_str, q_setv, q_okSl_va, q_frSl_va, q_okSl_no, q_frSl_no, q_okSl_sl, q_frSl_sl, q_bn_nil, q_bn_cons, q_bt_n, q_bt_t, q_own_c, q_call_c, q_sp_nil, q_sp_d, q_sp_o, q_po_nil, q_po_cons, q_nd_nil, q_nd_1, q_eq_ii, q_eq_bb, q_eq_ss, q_eq_nn, q_eq_is, q_eq_si, q_eq_sn, q_eq_ns, q_eq_in, q_eq_ni, q_lc_nil, q_lc_cons, q_wipe_1, q_back_1, q_free_1, q_at0, q_at1, q_at2, q_at3, q_eq_l0, q_eq_t0, q_sl_s, q_fo_nil, runF, startE, finO, outsOf, inoutSlots, slotsFrom, lim, List.getElem?_cons_zero, List.getElem?_cons_succ, List.set_cons_zero, List.set_cons_succ, Option.map_some, List.length_cons, List.length_nil, List.replicate, List.getD_eq_getElem?_getD, Option.getD_some, Option.toList_some, Option.toList_none, List.nil_append, List.cons_append, List.append_nil, reduceCtorEq, if_true, if_false, ite_true, ite_false, he, h1, h2, -q_cop_eq]
theorem zip_go {X Y : D} {w : List D} {m n z : Int} (hl1 : Mini.bi .len [X] = some (.int m)) (hl2 : Mini.bi .len [Y] = some (.int n)) (hm : Mini.bi .min2 [.int m, .int n] = some (.int z)) (hr : rngOk z = true)
    (e : lcGo (.n 3) [3] (lcBody (evTs []) (evE e_apply_to_lists_1)) (rng 0 z) [] [.val (.str [122, 105, 112, 95, 97, 100, 100]), .val X, .val Y, .no] = .ok w [.val (.str [122, 105, 112, 95, 97, 100, 100]), .val X, .val Y, .no]) :
    f_apply_to_lists.F [.str [122, 105, 112, 95, 97, 100, 100], X, Y] = .ok (.tup w) [] := by
  simp [f_apply_to_lists, b_apply_to_lists, q_bind_ok, q_out_ok, q_bind_exc, q_out_exc, q_seq_ret, q_seq_new, q_seq_brk, q_seq_cnt, q_seq_nx, q_seq_exc, q_opt_some, q_if_t, q_if_f, q_ev_v, q_ev_c, q_ev_g, q_ev_gix, q_ev_gin, q_ev_bin, q_ev_cat, q_cat_l, q_ev_neg, q_ev_not, q_ev_cmp, q_ev_chn, q_ev_and, q_ev_or, q_ev_ite, q_ev_tup, q_ev_lst, q_ev_call, q_ev_bi, q_ev_me, q_ev_isi, q_ev_ix, q_ev_slLo, q_ev_slHi, q_ev_slLH, q_ev_rev, q_ev_gti, q_ev_gsd, q_ev_lrev, q_ev_lc, q_ev_pop, q_evs_nil, q_evs_cons, q_and_1, q_and_2, q_or_1, q_or_2, q_ts_nil, q_ts_1, q_src_it, q_src_r1, q_src_r2, q_src_rd, q_evt, q_lcb, q_x_ret, q_x_retN, q_x_retF, q_x_set, q_x_setN, q_x_unp, q_x_aug, q_x_ite, q_x_whl, q_x_for, q_x_app, q_x_ext, q_x_put, q_x_exp, q_x_try, q_x_raise, q_x_frz, q_x_pas, q_x_brk, q_x_cnt, q_xs_nil, q_xs_cons, q_lv_d, q_lv_nx, q_lv_new, q_lv_o, q_lv_exc, q_deref_d, q_deref_o, q_derefs_nil, q_derefs_cons, q_asD_d, q_asDs_nil, q_asDs_cons, q_asI_i, q_asB_b, q_asS_s, q_bop_add, q_bop_sub, q_bop_mul, q_bop_mul_s, q_bop_fdiv, q_bop_mod, q_bop_pow, q_bop_add_str, q_bop_add_tup, q_bop_add_lst, q_cop_eq, q_cop_ne, q_cop_lt_i, q_cop_lt_b, q_cop_lt_s, q_cop_gt_i, q_cop_gt_s, q_cop_le_i, q_cop_ge_i, q_cop_in, q_cop_nin, q_cop_is_n, q_cop_is_b, q_cop_isn_n, q_mem_tup, q_mem_lst, q_mem_1, q_len_str, q_len_tup, q_len_lst, q_bi_abs, q_bi_max, q_bi_min, q_bi_all, q_bi_any, q_bi_sum, q_bi_int_i, q_bi_int_b, q_bi_str_i, q_bi_list_t, q_bi_list_l, q_bi_sum_t, q_bi_max1_l, q_bi_max1_t, q_bi_min1_l, q_bi_min1_t, q_rev_t, q_rev_l, q_rev_s, q_lrev_t, q_bi_tuple_t, q_bi_tuple_l, q_it_tup, q_it_lst, q_it_str, q_at_tup, q_at_lst, q_at_str, q_cut_tup, q_cut_lst, q_cut_str, q_setv, q_okSl_va, q_frSl_va, q_okSl_no, q_frSl_no, q_okSl_sl, q_frSl_sl, q_bn_nil, q_bn_cons, q_bt_n, q_bt_t, q_own_c, q_call_c, q_sp_nil, q_sp_d, q_sp_o, q_po_nil, q_po_cons, q_nd_nil, q_nd_1, q_eq_ii, q_eq_bb, q_eq_ss, q_eq_nn, q_eq_is, q_eq_si, q_eq_sn, q_eq_ns, q_eq_in, q_eq_ni, q_lc_nil, q_lc_cons, q_wipe_1, q_back_1, q_free_1, q_at0, q_at1, q_at2, q_at3, q_eq_l0, q_eq_t0, q_sl_s, q_fo_nil, runF, startE, finO, outsOf, inoutSlots, slotsFrom, lim, List.getElem?_cons_zero, List.getElem?_cons_succ, List.set_cons_zero, List.set_cons_succ, Option.map_some, List.length_cons, List.length_nil, List.replicate, List.getD_eq_getElem?_getD, Option.getD_some, Option.toList_some, Option.toList_none, List.nil_append, List.cons_append, List.append_nil, reduceCtorEq, if_true, if_false, ite_true, ite_false, hl1, hl2, hm, hr, e, -q_lc_cons, -q_lc_nil, -q_len_tup, -q_len_str, -q_len_lst, -q_bi_min]
theorem l_zip {xs ys : List Int} (hx : xs.length ≤ 12) (hy : ys.length ≤ 12) : f_apply_to_lists.F [.str [122, 105, 112, 95, 97, 100, 100], .tup (xs.map .int), .tup (ys.map .int)] = .ok (.tup ((List.range (min xs.length ys.length)).map fun k => .int (xs.getD k 0 + ys.getD k 0))) [] := by
  have e : lcGo (.n 3) [3] (lcBody (evTs []) (evE e_apply_to_lists_1)) ((List.range (min xs.length ys.length)).map fun (k : Nat) => D.int (k : Int)) [] [.val (.str [122, 105, 112, 95, 97, 100, 100]), .val (.tup (xs.map .int)), .val (.tup (ys.map .int)), .no] =
      .ok ((List.range (min xs.length ys.length)).map fun k => .int (xs.getD k 0 + ys.getD k 0)) [.val (.str [122, 105, 112, 95, 97, 100, 100]), .val (.tup (xs.map .int)), .val (.tup (ys.map .int)), .no] := by
    refine lc_of (s := .no) rfl (fun k hk => ?_) (by rw [List.length_range]; show min _ _ ≤ 1000000; omega)
    have hk := List.mem_range.mp hk
    have a1 : atI (xs.map D.int) (k : Int) = some (.int (xs.getD k 0)) := by
      refine at_nat ?_
      rw [List.getElem?_map, List.getD_eq_getElem?_getD, List.getElem?_eq_getElem (by omega)]
      rfl
    have a2 : atI (ys.map D.int) (k : Int) = some (.int (ys.getD k 0)) := by
      refine at_nat ?_
      rw [List.getElem?_map, List.getD_eq_getElem?_getD, List.getElem?_eq_getElem (by omega)]
      rfl
    generalize (k : Int) = z at a1 a2
    simp [e_apply_to_lists_1, q_bind_ok, q_out_ok, q_bind_exc, q_out_exc, q_seq_ret, q_seq_new, q_seq_brk, q_seq_cnt, q_seq_nx, q_seq_exc, q_opt_some, q_if_t, q_if_f, q_ev_v, q_ev_c, q_ev_g, q_ev_gix, q_ev_gin, q_ev_bin, q_ev_cat, q_cat_l, q_ev_neg, q_ev_not, q_ev_cmp, q_ev_chn, q_ev_and, q_ev_or, q_ev_ite, q_ev_tup, q_ev_lst, q_ev_call, q_ev_bi, q_ev_me, q_ev_isi, q_ev_ix, q_ev_slLo, q_ev_slHi, q_ev_slLH, q_ev_rev, q_ev_gti, q_ev_gsd, q_ev_lrev, q_ev_lc, q_ev_pop, q_evs_nil, q_evs_cons, q_and_1, q_and_2, q_or_1, q_or_2, q_ts_nil, q_ts_1, q_src_it, q_src_r1, q_src_r2, q_src_rd, q_evt, q_lcb, q_x_ret, q_x_retN, q_x_retF, q_x_set, q_x_setN, q_x_unp, q_x_aug, q_x_ite, q_x_whl, q_x_for, q_x_app, q_x_ext, q_x_put, q_x_exp, q_x_try, q_x_raise, q_x_frz, q_x_pas, q_x_brk, q_x_cnt, q_xs_nil, q_xs_cons, q_lv_d, q_lv_nx, q_lv_new, q_lv_o, q_lv_exc, q_deref_d, q_deref_o, q_derefs_nil, q_derefs_cons, q_asD_d, q_asDs_nil, q_asDs_cons, q_asI_i, q_asB_b, q_asS_s, q_bop_add, q_bop_sub, q_bop_mul, q_bop_mul_s, q_bop_fdiv, q_bop_mod, q_bop_pow, q_bop_add_str, q_bop_add_tup, q_bop_add_lst, q_cop_eq, q_cop_ne, q_cop_lt_i, q_cop_lt_b, q_cop_lt_s, q_cop_gt_i, q_cop_gt_s, q_cop_le_i, q_cop_ge_i, q_cop_in, q_cop_nin, q_cop_is_n, q_cop_is_b, q_cop_isn_n, q_mem_tup, q_mem_lst, q_mem_1, q_len_str, q_len_tup, q_len_lst, q_bi_abs, q_bi_max, q_bi_min, q_bi_all, q_bi_any, q_bi_sum, q_bi_int_i, q_bi_int_b, q_bi_str_i, q_bi_list_t, q_bi_list_l, q_bi_sum_t, q_bi_max1_l, q_bi_max1_t, q_bi_min1_l, q_bi_min1_t, q_rev_t, q_rev_l, q_rev_s, q_lrev_t, q_bi_tuple_t, q_bi_tuple_l, q_it_tup, q_it_lst, q_it_str, q_at_tup, q_at_lst, q_at_str, q_cut_tup, q_cut_lst, q_cut_str, q_setv, q_okSl_va, q_frSl_va, q_okSl_no, q_frSl_no, q_okSl_sl, q_frSl_sl, q_bn_nil, q_bn_cons, q_bt_n, q_bt_t, q_own_c, q_call_c, q_sp_nil, q_sp_d, q_sp_o, q_po_nil, q_po_cons, q_nd_nil, q_nd_1, q_eq_ii, q_eq_bb, q_eq_ss, q_eq_nn, q_eq_is, q_eq_si, q_eq_sn, q_eq_ns, q_eq_in, q_eq_ni, q_lc_nil, q_lc_cons, q_wipe_1, q_back_1, q_free_1, q_at0, q_at1, q_at2, q_at3, q_eq_l0, q_eq_t0, q_sl_s, q_fo_nil, runF, startE, finO, outsOf, inoutSlots, slotsFrom, lim, List.getElem?_cons_zero, List.getElem?_cons_succ, List.set_cons_zero, List.set_cons_succ, Option.map_some, List.length_cons, List.length_nil, List.replicate, List.getD_eq_getElem?_getD, Option.getD_some, Option.toList_some, Option.toList_none, List.nil_append, List.cons_append, List.append_nil, reduceCtorEq, if_true, if_false, ite_true, ite_false, a1, a2]
  have em : rng 0 ((min xs.length ys.length : Nat) : Int) = (List.range (min xs.length ys.length)).map fun (k : Nat) => D.int (k : Int) := by
    rw [rng_map, List.map_map, Int.toNat_natCast]
    rfl
  have hm : Mini.bi .min2 [.int ((xs.length : Nat) : Int), .int ((ys.length : Nat) : Int)] = some (.int ((min xs.length ys.length : Nat) : Int)) := by
    show some (D.int (if ((ys.length : Nat) : Int) < ((xs.length : Nat) : Int) then _ else _)) = _
    congr 2
    split <;> omega
  have hr : rngOk ((min xs.length ys.length : Nat) : Int) = true := by
    have : ∀ z : Int, 0 ≤ z → z ≤ 1000000 → rngOk z = true := fun z h0 h1 => by
      unfold rngOk
      rw [Bool.and_eq_true, decide_eq_true_eq, decide_eq_true_eq]
      omega
    exact this _ (by omega) (by omega)
  have hl1 : Mini.bi .len [.tup (xs.map D.int)] = some (.int ((xs.length : Nat) : Int)) := by rw [q_len_tup, List.length_map]
  have hl2 : Mini.bi .len [.tup (ys.map D.int)] = some (.int ((ys.length : Nat) : Int)) := by rw [q_len_tup, List.length_map]
  rw [← em] at e
  exact zip_go hl1 hl2 hm hr e
theorem com_rows : ∀ r ∈ libL, r.1 ∈ u_COMMUTATIVE → r ∈ [([97, 100, 100], [110, 110], 110), ([98, 111, 116, 104], [116, 116], 116), ([101, 105, 116, 104, 101, 114], [116, 116], 116), ([101, 113, 117, 97, 108], [110, 110], 116), ([109, 97, 120], [110, 110], 110), ([109, 105, 110], [110, 110], 110), ([109, 117, 108], [110, 110], 110),
    ([115, 97, 109, 101, 95, 108, 105, 115, 116], [108, 108], 116), ([115, 97, 109, 101, 95, 116, 101, 120, 116], [115, 115], 116), ([122, 105, 112, 95, 97, 100, 100], [108, 108], 108)] := by decide +kernel
/-- one call of a commutative component -/
theorem com_call {r : List Nat × List Nat × Nat} (hr : r ∈ libL) (hc : r.1 ∈ u_COMMUTATIVE) {l l' : Nat} (ha : r.2.1 = [l, l']) {a b : D} (va : isV l a = true) (vb : isV l' b = true) :
    f_apply.F [.str r.1, .lst [a, b]] = .ok (if isVal (kL_ r.2.2) (comR r.1 a b) = true then comR r.1 a b else .non) [] := by
  have hs := sig_of r hr
  rw [ha] at hs
  have hn : ∀ d ∈ [a, b], cop .is d .non = some false := by
    have h1 : ∀ {l : Nat} {d : D}, isV l d = true → cop .is d .non = some false := fun {l d} h => by
      cases d with
      | non =>
        unfold isV at h
        split at h
        · cases h
        · split at h
          · cases h
          · split at h <;> cases h
      | _ => rfl
    intro d hd
    rcases List.mem_cons.mp hd with rfl | hd
    · exact h1 va
    · rw [List.mem_singleton.mp hd]
      exact h1 vb
  refine F_apply hs (by simp) (by simp) hn ?_
  have dv := isV_dep va
  have row := com_rows r hr hc
  simp only [List.mem_cons, List.not_mem_nil, or_false] at row
  have isN : ∀ {d : D}, isV 110 d = true → ∃ i, d = .int i ∧ inR i = true := fun {d} h => by
    cases d with
    | int i => exact ⟨i, rfl, h⟩
    | _ => cases h
  have isT : ∀ {d : D}, isV 116 d = true → ∃ i, d = .bl i := fun {d} h => by
    cases d with
    | bl i => exact ⟨i, rfl⟩
    | _ => cases h
  have isS : ∀ {d : D}, isV 115 d = true → ∃ i, d = .str i := fun {d} h => by
    cases d with
    | str i => exact ⟨i, rfl⟩
    | _ => cases h
  have isL : ∀ {d : D}, isV 108 d = true → ∃ is : List Int, d = .tup (is.map .int) ∧ is.length ≤ 12 := fun {d} h => by
    cases d with
    | tup ds =>
      have h : (decide (ds.length ≤ 12) && ds.all isNum) = true := h
      rw [Bool.and_eq_true, decide_eq_true_eq] at h
      have key : ∀ ds : List D, ds.all isNum = true → ∃ is : List Int, ds = is.map .int := by
        intro ds
        induction ds with
        | nil => exact fun _ => ⟨[], rfl⟩
        | cons d ds ih =>
          intro h
          rw [List.all_cons, Bool.and_eq_true] at h
          obtain ⟨is, rfl⟩ := ih h.2
          cases d with
          | int i => exact ⟨i :: is, rfl⟩
          | _ => cases h.1
      obtain ⟨is, rfl⟩ := key ds h.2
      exact ⟨is, rfl, by rw [← List.length_map (f := D.int)]; exact h.1⟩
    | _ => cases h
  rcases row with rfl | rfl | rfl | rfl | rfl | rfl | rfl | rfl | rfl | rfl <;> cases ha
  · obtain ⟨i, rfl, _⟩ := isN va
    obtain ⟨j, rfl, _⟩ := isN vb
    exact D_nn (by decide) n_add
  · obtain ⟨i, rfl⟩ := isT va
    obtain ⟨j, rfl⟩ := isT vb
    exact D_tt t_both
  · obtain ⟨i, rfl⟩ := isT va
    obtain ⟨j, rfl⟩ := isT vb
    exact D_tt t_either
  · obtain ⟨i, rfl, _⟩ := isN va
    obtain ⟨j, rfl, _⟩ := isN vb
    exact D_nn (by decide) n_equal
  · obtain ⟨i, rfl, _⟩ := isN va
    obtain ⟨j, rfl, _⟩ := isN vb
    exact D_nn (by decide) n_max
  · obtain ⟨i, rfl, _⟩ := isN va
    obtain ⟨j, rfl, _⟩ := isN vb
    exact D_nn (by decide) n_min
  · obtain ⟨i, rfl, hi⟩ := isN va
    obtain ⟨j, rfl, _⟩ := isN vb
    exact D_nn (by decide) (n_mul (small_of hi))
  · obtain ⟨i, rfl, _⟩ := isL va
    obtain ⟨j, rfl, _⟩ := isL vb
    exact D_ll (by decide) (l_same (by omega))
  · obtain ⟨i, rfl⟩ := isS va
    obtain ⟨j, rfl⟩ := isS vb
    exact D_ss (by decide) s_same
  · obtain ⟨i, rfl, hi⟩ := isL va
    obtain ⟨j, rfl, hj⟩ := isL vb
    refine D_ll (by decide) ((l_zip hi hj).trans ?_)
    congr 1
    show D.tup _ = D.tup _
    rw [List.length_map, List.length_map]
    congr 1
    apply List.map_congr_left
    intro k hk
    have hk := List.mem_range.mp hk
    have a1 : (i.map D.int).getD k .non = .int (i.getD k 0) := by
      rw [List.getD_eq_getElem?_getD, List.getElem?_map, List.getD_eq_getElem?_getD, List.getElem?_eq_getElem (by omega)]
      rfl
    have a2 : (j.map D.int).getD k .non = .int (j.getD k 0) := by
      rw [List.getD_eq_getElem?_getD, List.getElem?_map, List.getD_eq_getElem?_getD, List.getElem?_eq_getElem (by omega)]
      rfl
    rw [a1, a2]
theorem comR_dep {r : List Nat × List Nat × Nat} {a b : D} : dep (if isVal (kL_ r.2.2) (comR r.1 a b) = true then comR r.1 a b else .non) ≤ 1 := by
  split
  · rename_i h
    have key : ∀ (l : Nat) (d : D), isVal (kL_ l) d = true → dep d ≤ 1 := fun l d h => by
      have : isV l d = true := by
        unfold isV
        unfold kL_ at h
        split
        · rename_i e
          rw [if_pos e] at h
          exact h
        · rename_i e
          rw [if_neg e] at h
          split
          · rename_i e
            rw [if_pos e] at h
            exact h
          · rename_i e
            rw [if_neg e] at h
            split
            · rename_i e
              rw [if_pos e] at h
              exact h
            · rename_i e
              rw [if_neg e] at h
              exact h
      exact isV_dep this
    exact key _ _ h
  · exact Nat.zero_le _
end K05
end

section
set_option Elab.async false
set_option linter.all false
set_option maxRecDepth 100000
set_option maxHeartbeats 4000000
namespace K05
open PySem L2 Mini
theorem in_strs (s : List Nat) (L : List (List Nat)) : inO (.str s) (L.map .str) = some (decide (s ∈ L)) := by
  unfold inO
  rw [if_pos (by show min _ 0 ≤ 60; omega)]
  congr 1
  rw [List.any_map]
  induction L with
  | nil => rfl
  | cons x L ih =>
    rw [List.any_cons, ih]
    show ((x == s) || _) = _
    by_cases h : x = s
    · simp [h]
    · have h' : ¬ s = x := fun z => h z.symm
      simp [h, h']
/-! ### what unknown names give -/
theorem ak_no {sg : CallF} {w : List Nat} (m : sg.md = [false]) (h : sg.F [.str w] = .exc 0 (.str w) []) : leaveO [false] false (exSs 1000000 [.ret (.bi .list [.slHi (.call sg [.v 0]) (.neg (.c (.int 1)))])] [.val (.str w)]) = .exc 0 (.str w) [] := by
  simp [q_bind_ok, q_out_ok, q_bind_exc, q_out_exc, q_seq_ret, q_seq_new, q_seq_brk, q_seq_cnt, q_seq_nx, q_seq_exc, q_opt_some, q_if_t, q_if_f, q_ev_v, q_ev_c, q_ev_g, q_ev_gix, q_ev_gin, q_ev_bin, q_ev_cat, q_cat_l, q_ev_neg, q_ev_not, q_ev_cmp, q_ev_chn, q_ev_and, q_ev_or, q_ev_ite, q_ev_tup, q_ev_lst, q_ev_call, q_ev_bi, q_ev_me, q_ev_isi, q_ev_ix, q_ev_slLo, q_ev_slHi, q_ev_slLH, q_ev_rev, q_ev_gti, q_ev_gsd, q_ev_lrev, q_ev_lc, q_ev_pop, q_evs_nil, q_evs_cons, q_and_1, q_and_2, q_or_1, q_or_2, q_ts_nil, q_ts_1, q_src_it, q_src_r1, q_src_r2, q_src_rd, q_evt, q_lcb, q_x_ret, q_x_retN, q_x_retF, q_x_set, q_x_setN, q_x_unp, q_x_aug, q_x_ite, q_x_whl, q_x_for, q_x_app, q_x_ext, q_x_put, q_x_exp, q_x_try, q_x_raise, q_x_frz, q_x_pas, q_x_brk, q_x_cnt, q_xs_nil, q_xs_cons, q_lv_d, q_lv_nx, q_lv_new, q_lv_o, q_lv_exc, q_deref_d, q_deref_o, q_derefs_nil, q_derefs_cons, q_asD_d, q_asDs_nil, q_asDs_cons, q_asI_i, q_asB_b, q_asS_s, q_bop_add, q_bop_sub, q_bop_mul, q_bop_mul_s, q_bop_fdiv, q_bop_mod, q_bop_pow, q_bop_add_str, q_bop_add_tup, q_bop_add_lst, q_cop_eq, q_cop_ne, q_cop_lt_i, q_cop_lt_b, q_cop_lt_s, q_cop_gt_i, q_cop_gt_s, q_cop_le_i, q_cop_ge_i, q_cop_in, q_cop_nin, q_cop_is_n, q_cop_is_b, q_cop_isn_n, q_mem_tup, q_mem_lst, q_mem_1, q_len_str, q_len_tup, q_len_lst, q_bi_abs, q_bi_max, q_bi_min, q_bi_all, q_bi_any, q_bi_sum, q_bi_int_i, q_bi_int_b, q_bi_str_i, q_bi_list_t, q_bi_list_l, q_bi_sum_t, q_bi_max1_l, q_bi_max1_t, q_bi_min1_l, q_bi_min1_t, q_rev_t, q_rev_l, q_rev_s, q_lrev_t, q_bi_tuple_t, q_bi_tuple_l, q_it_tup, q_it_lst, q_it_str, q_at_tup, q_at_lst, q_at_str, q_cut_tup, q_cut_lst, q_cut_str, q_setv, q_okSl_va, q_frSl_va, q_okSl_no, q_frSl_no, q_okSl_sl, q_frSl_sl, q_bn_nil, q_bn_cons, q_bt_n, q_bt_t, q_own_c, q_call_c, q_sp_nil, q_sp_d, q_sp_o, q_po_nil, q_po_cons, q_nd_nil, q_nd_1, q_eq_ii, q_eq_bb, q_eq_ss, q_eq_nn, q_eq_is, q_eq_si, q_eq_sn, q_eq_ns, q_eq_in, q_eq_ni, q_lc_nil, q_lc_cons, q_wipe_1, q_back_1, q_free_1, q_at0, q_at1, q_at2, q_at3, q_eq_l0, q_eq_t0, q_sl_s, q_fo_nil, runF, startE, finO, outsOf, inoutSlots, slotsFrom, lim, List.getElem?_cons_zero, List.getElem?_cons_succ, List.set_cons_zero, List.set_cons_succ, Option.map_some, List.length_cons, List.length_nil, List.replicate, List.getD_eq_getElem?_getD, Option.getD_some, Option.toList_some, Option.toList_none, List.nil_append, List.cons_append, List.append_nil, reduceCtorEq, if_true, if_false, ite_true, ite_false, m, h]
theorem rk_no {sg : CallF} {w : List Nat} (m : sg.md = [false]) (h : sg.F [.str w] = .exc 0 (.str w) []) : leaveO [false] false (exSs 1000000 [.ret (.ix (.call sg [.v 0]) (.neg (.c (.int 1))))] [.val (.str w)]) = .exc 0 (.str w) [] := by
  simp [q_bind_ok, q_out_ok, q_bind_exc, q_out_exc, q_seq_ret, q_seq_new, q_seq_brk, q_seq_cnt, q_seq_nx, q_seq_exc, q_opt_some, q_if_t, q_if_f, q_ev_v, q_ev_c, q_ev_g, q_ev_gix, q_ev_gin, q_ev_bin, q_ev_cat, q_cat_l, q_ev_neg, q_ev_not, q_ev_cmp, q_ev_chn, q_ev_and, q_ev_or, q_ev_ite, q_ev_tup, q_ev_lst, q_ev_call, q_ev_bi, q_ev_me, q_ev_isi, q_ev_ix, q_ev_slLo, q_ev_slHi, q_ev_slLH, q_ev_rev, q_ev_gti, q_ev_gsd, q_ev_lrev, q_ev_lc, q_ev_pop, q_evs_nil, q_evs_cons, q_and_1, q_and_2, q_or_1, q_or_2, q_ts_nil, q_ts_1, q_src_it, q_src_r1, q_src_r2, q_src_rd, q_evt, q_lcb, q_x_ret, q_x_retN, q_x_retF, q_x_set, q_x_setN, q_x_unp, q_x_aug, q_x_ite, q_x_whl, q_x_for, q_x_app, q_x_ext, q_x_put, q_x_exp, q_x_try, q_x_raise, q_x_frz, q_x_pas, q_x_brk, q_x_cnt, q_xs_nil, q_xs_cons, q_lv_d, q_lv_nx, q_lv_new, q_lv_o, q_lv_exc, q_deref_d, q_deref_o, q_derefs_nil, q_derefs_cons, q_asD_d, q_asDs_nil, q_asDs_cons, q_asI_i, q_asB_b, q_asS_s, q_bop_add, q_bop_sub, q_bop_mul, q_bop_mul_s, q_bop_fdiv, q_bop_mod, q_bop_pow, q_bop_add_str, q_bop_add_tup, q_bop_add_lst, q_cop_eq, q_cop_ne, q_cop_lt_i, q_cop_lt_b, q_cop_lt_s, q_cop_gt_i, q_cop_gt_s, q_cop_le_i, q_cop_ge_i, q_cop_in, q_cop_nin, q_cop_is_n, q_cop_is_b, q_cop_isn_n, q_mem_tup, q_mem_lst, q_mem_1, q_len_str, q_len_tup, q_len_lst, q_bi_abs, q_bi_max, q_bi_min, q_bi_all, q_bi_any, q_bi_sum, q_bi_int_i, q_bi_int_b, q_bi_str_i, q_bi_list_t, q_bi_list_l, q_bi_sum_t, q_bi_max1_l, q_bi_max1_t, q_bi_min1_l, q_bi_min1_t, q_rev_t, q_rev_l, q_rev_s, q_lrev_t, q_bi_tuple_t, q_bi_tuple_l, q_it_tup, q_it_lst, q_it_str, q_at_tup, q_at_lst, q_at_str, q_cut_tup, q_cut_lst, q_cut_str, q_setv, q_okSl_va, q_frSl_va, q_okSl_no, q_frSl_no, q_okSl_sl, q_frSl_sl, q_bn_nil, q_bn_cons, q_bt_n, q_bt_t, q_own_c, q_call_c, q_sp_nil, q_sp_d, q_sp_o, q_po_nil, q_po_cons, q_nd_nil, q_nd_1, q_eq_ii, q_eq_bb, q_eq_ss, q_eq_nn, q_eq_is, q_eq_si, q_eq_sn, q_eq_ns, q_eq_in, q_eq_ni, q_lc_nil, q_lc_cons, q_wipe_1, q_back_1, q_free_1, q_at0, q_at1, q_at2, q_at3, q_eq_l0, q_eq_t0, q_sl_s, q_fo_nil, runF, startE, finO, outsOf, inoutSlots, slotsFrom, lim, List.getElem?_cons_zero, List.getElem?_cons_succ, List.set_cons_zero, List.set_cons_succ, Option.map_some, List.length_cons, List.length_nil, List.replicate, List.getD_eq_getElem?_getD, Option.getD_some, Option.toList_some, Option.toList_none, List.nil_append, List.cons_append, List.append_nil, reduceCtorEq, if_true, if_false, ite_true, ite_false, m, h]
theorem ic_no {sg : CallF} {w : List Nat} {g : D} (m : sg.md = [false]) (h : sg.F [.str w] = .exc 0 (.str w) []) : leaveO [false] false (exSs 1000000 [.exp (.call sg [.v 0]), .ret (.cmp .isIn (.v 0) (.g "COMMUTATIVE" g))] [.val (.str w)]) = .exc 0 (.str w) [] := by
  simp [q_bind_ok, q_out_ok, q_bind_exc, q_out_exc, q_seq_ret, q_seq_new, q_seq_brk, q_seq_cnt, q_seq_nx, q_seq_exc, q_opt_some, q_if_t, q_if_f, q_ev_v, q_ev_c, q_ev_g, q_ev_gix, q_ev_gin, q_ev_bin, q_ev_cat, q_cat_l, q_ev_neg, q_ev_not, q_ev_cmp, q_ev_chn, q_ev_and, q_ev_or, q_ev_ite, q_ev_tup, q_ev_lst, q_ev_call, q_ev_bi, q_ev_me, q_ev_isi, q_ev_ix, q_ev_slLo, q_ev_slHi, q_ev_slLH, q_ev_rev, q_ev_gti, q_ev_gsd, q_ev_lrev, q_ev_lc, q_ev_pop, q_evs_nil, q_evs_cons, q_and_1, q_and_2, q_or_1, q_or_2, q_ts_nil, q_ts_1, q_src_it, q_src_r1, q_src_r2, q_src_rd, q_evt, q_lcb, q_x_ret, q_x_retN, q_x_retF, q_x_set, q_x_setN, q_x_unp, q_x_aug, q_x_ite, q_x_whl, q_x_for, q_x_app, q_x_ext, q_x_put, q_x_exp, q_x_try, q_x_raise, q_x_frz, q_x_pas, q_x_brk, q_x_cnt, q_xs_nil, q_xs_cons, q_lv_d, q_lv_nx, q_lv_new, q_lv_o, q_lv_exc, q_deref_d, q_deref_o, q_derefs_nil, q_derefs_cons, q_asD_d, q_asDs_nil, q_asDs_cons, q_asI_i, q_asB_b, q_asS_s, q_bop_add, q_bop_sub, q_bop_mul, q_bop_mul_s, q_bop_fdiv, q_bop_mod, q_bop_pow, q_bop_add_str, q_bop_add_tup, q_bop_add_lst, q_cop_eq, q_cop_ne, q_cop_lt_i, q_cop_lt_b, q_cop_lt_s, q_cop_gt_i, q_cop_gt_s, q_cop_le_i, q_cop_ge_i, q_cop_in, q_cop_nin, q_cop_is_n, q_cop_is_b, q_cop_isn_n, q_mem_tup, q_mem_lst, q_mem_1, q_len_str, q_len_tup, q_len_lst, q_bi_abs, q_bi_max, q_bi_min, q_bi_all, q_bi_any, q_bi_sum, q_bi_int_i, q_bi_int_b, q_bi_str_i, q_bi_list_t, q_bi_list_l, q_bi_sum_t, q_bi_max1_l, q_bi_max1_t, q_bi_min1_l, q_bi_min1_t, q_rev_t, q_rev_l, q_rev_s, q_lrev_t, q_bi_tuple_t, q_bi_tuple_l, q_it_tup, q_it_lst, q_it_str, q_at_tup, q_at_lst, q_at_str, q_cut_tup, q_cut_lst, q_cut_str, q_setv, q_okSl_va, q_frSl_va, q_okSl_no, q_frSl_no, q_okSl_sl, q_frSl_sl, q_bn_nil, q_bn_cons, q_bt_n, q_bt_t, q_own_c, q_call_c, q_sp_nil, q_sp_d, q_sp_o, q_po_nil, q_po_cons, q_nd_nil, q_nd_1, q_eq_ii, q_eq_bb, q_eq_ss, q_eq_nn, q_eq_is, q_eq_si, q_eq_sn, q_eq_ns, q_eq_in, q_eq_ni, q_lc_nil, q_lc_cons, q_wipe_1, q_back_1, q_free_1, q_at0, q_at1, q_at2, q_at3, q_eq_l0, q_eq_t0, q_sl_s, q_fo_nil, runF, startE, finO, outsOf, inoutSlots, slotsFrom, lim, List.getElem?_cons_zero, List.getElem?_cons_succ, List.set_cons_zero, List.set_cons_succ, Option.map_some, List.length_cons, List.length_nil, List.replicate, List.getD_eq_getElem?_getD, Option.getD_some, Option.toList_some, Option.toList_none, List.nil_append, List.cons_append, List.append_nil, reduceCtorEq, if_true, if_false, ite_true, ite_false, m, h]
theorem ap_no {sg : CallF} {w : List Nat} {ss : List S} {g : D} (m : sg.md = [false]) (h : sg.F [.str w] = .exc 0 (.str w) []) : leaveO [false, false] false (exSs 1000000 (.set 2 (.call sg [.v 0]) :: ss) [.val (.str w), .val g, .no, .no, .no, .no]) = .exc 0 (.str w) [] := by
  simp [q_bind_ok, q_out_ok, q_bind_exc, q_out_exc, q_seq_ret, q_seq_new, q_seq_brk, q_seq_cnt, q_seq_nx, q_seq_exc, q_opt_some, q_if_t, q_if_f, q_ev_v, q_ev_c, q_ev_g, q_ev_gix, q_ev_gin, q_ev_bin, q_ev_cat, q_cat_l, q_ev_neg, q_ev_not, q_ev_cmp, q_ev_chn, q_ev_and, q_ev_or, q_ev_ite, q_ev_tup, q_ev_lst, q_ev_call, q_ev_bi, q_ev_me, q_ev_isi, q_ev_ix, q_ev_slLo, q_ev_slHi, q_ev_slLH, q_ev_rev, q_ev_gti, q_ev_gsd, q_ev_lrev, q_ev_lc, q_ev_pop, q_evs_nil, q_evs_cons, q_and_1, q_and_2, q_or_1, q_or_2, q_ts_nil, q_ts_1, q_src_it, q_src_r1, q_src_r2, q_src_rd, q_evt, q_lcb, q_x_ret, q_x_retN, q_x_retF, q_x_set, q_x_setN, q_x_unp, q_x_aug, q_x_ite, q_x_whl, q_x_for, q_x_app, q_x_ext, q_x_put, q_x_exp, q_x_try, q_x_raise, q_x_frz, q_x_pas, q_x_brk, q_x_cnt, q_xs_nil, q_xs_cons, q_lv_d, q_lv_nx, q_lv_new, q_lv_o, q_lv_exc, q_deref_d, q_deref_o, q_derefs_nil, q_derefs_cons, q_asD_d, q_asDs_nil, q_asDs_cons, q_asI_i, q_asB_b, q_asS_s, q_bop_add, q_bop_sub, q_bop_mul, q_bop_mul_s, q_bop_fdiv, q_bop_mod, q_bop_pow, q_bop_add_str, q_bop_add_tup, q_bop_add_lst, q_cop_eq, q_cop_ne, q_cop_lt_i, q_cop_lt_b, q_cop_lt_s, q_cop_gt_i, q_cop_gt_s, q_cop_le_i, q_cop_ge_i, q_cop_in, q_cop_nin, q_cop_is_n, q_cop_is_b, q_cop_isn_n, q_mem_tup, q_mem_lst, q_mem_1, q_len_str, q_len_tup, q_len_lst, q_bi_abs, q_bi_max, q_bi_min, q_bi_all, q_bi_any, q_bi_sum, q_bi_int_i, q_bi_int_b, q_bi_str_i, q_bi_list_t, q_bi_list_l, q_bi_sum_t, q_bi_max1_l, q_bi_max1_t, q_bi_min1_l, q_bi_min1_t, q_rev_t, q_rev_l, q_rev_s, q_lrev_t, q_bi_tuple_t, q_bi_tuple_l, q_it_tup, q_it_lst, q_it_str, q_at_tup, q_at_lst, q_at_str, q_cut_tup, q_cut_lst, q_cut_str, q_setv, q_okSl_va, q_frSl_va, q_okSl_no, q_frSl_no, q_okSl_sl, q_frSl_sl, q_bn_nil, q_bn_cons, q_bt_n, q_bt_t, q_own_c, q_call_c, q_sp_nil, q_sp_d, q_sp_o, q_po_nil, q_po_cons, q_nd_nil, q_nd_1, q_eq_ii, q_eq_bb, q_eq_ss, q_eq_nn, q_eq_is, q_eq_si, q_eq_sn, q_eq_ns, q_eq_in, q_eq_ni, q_lc_nil, q_lc_cons, q_wipe_1, q_back_1, q_free_1, q_at0, q_at1, q_at2, q_at3, q_eq_l0, q_eq_t0, q_sl_s, q_fo_nil, runF, startE, finO, outsOf, inoutSlots, slotsFrom, lim, List.getElem?_cons_zero, List.getElem?_cons_succ, List.set_cons_zero, List.set_cons_succ, Option.map_some, List.length_cons, List.length_nil, List.replicate, List.getD_eq_getElem?_getD, Option.getD_some, Option.toList_some, Option.toList_none, List.nil_append, List.cons_append, List.append_nil, reduceCtorEq, if_true, if_false, ite_true, ite_false, m, h]
theorem asked_go {f0 f1 f2 f3 : CallF} {w : List Nat} {k : Int} (m0 : f0.md = [false]) (h0 : f0.F [.str w] = .exc 0 (.str w) []) (m1 : f1.md = [false]) (h1 : f1.F [.str w] = .exc 0 (.str w) []) (m2 : f2.md = [false]) (h2 : f2.F [.str w] = .exc 0 (.str w) []) (m3 : f3.md = [false, false]) (h3 : f3.F [.str w, .lst [.non, .non]] = .exc 0 (.str w) []) :
    leaveO [false, false] false (exSs 1000000 [.try [.ite (.cmp .eq (.v 0) (.c (.int 0))) [.ret (.tup [.c (.str [116, 111, 108, 100]), .call f0 [.v 1]])] [], .ite (.cmp .eq (.v 0) (.c (.int 1))) [.ret (.tup [.c (.str [116, 111, 108, 100]), .call f1 [.v 1]])] [],
      .ite (.cmp .eq (.v 0) (.c (.int 2))) [.ret (.tup [.c (.str [116, 111, 108, 100]), .call f2 [.v 1]])] [], .ret (.tup [.c (.str [116, 111, 108, 100]), .call f3 [.v 1, .lst [.c (.non), .c (.non)]]])] [0] "NotFound" (some 2) l__law_asked_2] [.val (.int k), .val (.str w), .no]) =
    .ok (.tup [.str [117, 110, 107, 110, 111, 119, 110], .str w, .bl true]) [] := by
  by_cases k0 : k = 0
  · simp [q_bind_ok, q_out_ok, q_bind_exc, q_out_exc, q_seq_ret, q_seq_new, q_seq_brk, q_seq_cnt, q_seq_nx, q_seq_exc, q_opt_some, q_if_t, q_if_f, q_ev_v, q_ev_c, q_ev_g, q_ev_gix, q_ev_gin, q_ev_bin, q_ev_cat, q_cat_l, q_ev_neg, q_ev_not, q_ev_cmp, q_ev_chn, q_ev_and, q_ev_or, q_ev_ite, q_ev_tup, q_ev_lst, q_ev_call, q_ev_bi, q_ev_me, q_ev_isi, q_ev_ix, q_ev_slLo, q_ev_slHi, q_ev_slLH, q_ev_rev, q_ev_gti, q_ev_gsd, q_ev_lrev, q_ev_lc, q_ev_pop, q_evs_nil, q_evs_cons, q_and_1, q_and_2, q_or_1, q_or_2, q_ts_nil, q_ts_1, q_src_it, q_src_r1, q_src_r2, q_src_rd, q_evt, q_lcb, q_x_ret, q_x_retN, q_x_retF, q_x_set, q_x_setN, q_x_unp, q_x_aug, q_x_ite, q_x_whl, q_x_for, q_x_app, q_x_ext, q_x_put, q_x_exp, q_x_try, q_x_raise, q_x_frz, q_x_pas, q_x_brk, q_x_cnt, q_xs_nil, q_xs_cons, q_lv_d, q_lv_nx, q_lv_new, q_lv_o, q_lv_exc, q_deref_d, q_deref_o, q_derefs_nil, q_derefs_cons, q_asD_d, q_asDs_nil, q_asDs_cons, q_asI_i, q_asB_b, q_asS_s, q_bop_add, q_bop_sub, q_bop_mul, q_bop_mul_s, q_bop_fdiv, q_bop_mod, q_bop_pow, q_bop_add_str, q_bop_add_tup, q_bop_add_lst, q_cop_eq, q_cop_ne, q_cop_lt_i, q_cop_lt_b, q_cop_lt_s, q_cop_gt_i, q_cop_gt_s, q_cop_le_i, q_cop_ge_i, q_cop_in, q_cop_nin, q_cop_is_n, q_cop_is_b, q_cop_isn_n, q_mem_tup, q_mem_lst, q_mem_1, q_len_str, q_len_tup, q_len_lst, q_bi_abs, q_bi_max, q_bi_min, q_bi_all, q_bi_any, q_bi_sum, q_bi_int_i, q_bi_int_b, q_bi_str_i, q_bi_list_t, q_bi_list_l, q_bi_sum_t, q_bi_max1_l, q_bi_max1_t, q_bi_min1_l, q_bi_min1_t, q_rev_t, q_rev_l, q_rev_s, q_lrev_t, q_bi_tuple_t, q_bi_tuple_l, q_it_tup, q_it_lst, q_it_str, q_at_tup, q_at_lst, q_at_str, q_cut_tup, q_cut_lst, q_cut_str, q_setv, q_okSl_va, q_frSl_va, q_okSl_no, q_frSl_no, q_okSl_sl, q_frSl_sl, q_bn_nil, q_bn_cons, q_bt_n, q_bt_t, q_own_c, q_call_c, q_sp_nil, q_sp_d, q_sp_o, q_po_nil, q_po_cons, q_nd_nil, q_nd_1, q_eq_ii, q_eq_bb, q_eq_ss, q_eq_nn, q_eq_is, q_eq_si, q_eq_sn, q_eq_ns, q_eq_in, q_eq_ni, q_lc_nil, q_lc_cons, q_wipe_1, q_back_1, q_free_1, q_at0, q_at1, q_at2, q_at3, q_eq_l0, q_eq_t0, q_sl_s, q_fo_nil, runF, startE, finO, outsOf, inoutSlots, slotsFrom, lim, List.getElem?_cons_zero, List.getElem?_cons_succ, List.set_cons_zero, List.set_cons_succ, Option.map_some, List.length_cons, List.length_nil, List.replicate, List.getD_eq_getElem?_getD, Option.getD_some, Option.toList_some, Option.toList_none, List.nil_append, List.cons_append, List.append_nil, reduceCtorEq, if_true, if_false, ite_true, ite_false, k0, m0, h0, l__law_asked_2, enterX, noX, isOwn, leaveT, leaveX, evE, evEs, exS, exSs]
  · by_cases k1 : k = 1
    · simp [q_bind_ok, q_out_ok, q_bind_exc, q_out_exc, q_seq_ret, q_seq_new, q_seq_brk, q_seq_cnt, q_seq_nx, q_seq_exc, q_opt_some, q_if_t, q_if_f, q_ev_v, q_ev_c, q_ev_g, q_ev_gix, q_ev_gin, q_ev_bin, q_ev_cat, q_cat_l, q_ev_neg, q_ev_not, q_ev_cmp, q_ev_chn, q_ev_and, q_ev_or, q_ev_ite, q_ev_tup, q_ev_lst, q_ev_call, q_ev_bi, q_ev_me, q_ev_isi, q_ev_ix, q_ev_slLo, q_ev_slHi, q_ev_slLH, q_ev_rev, q_ev_gti, q_ev_gsd, q_ev_lrev, q_ev_lc, q_ev_pop, q_evs_nil, q_evs_cons, q_and_1, q_and_2, q_or_1, q_or_2, q_ts_nil, q_ts_1, q_src_it, q_src_r1, q_src_r2, q_src_rd, q_evt, q_lcb, q_x_ret, q_x_retN, q_x_retF, q_x_set, q_x_setN, q_x_unp, q_x_aug, q_x_ite, q_x_whl, q_x_for, q_x_app, q_x_ext, q_x_put, q_x_exp, q_x_try, q_x_raise, q_x_frz, q_x_pas, q_x_brk, q_x_cnt, q_xs_nil, q_xs_cons, q_lv_d, q_lv_nx, q_lv_new, q_lv_o, q_lv_exc, q_deref_d, q_deref_o, q_derefs_nil, q_derefs_cons, q_asD_d, q_asDs_nil, q_asDs_cons, q_asI_i, q_asB_b, q_asS_s, q_bop_add, q_bop_sub, q_bop_mul, q_bop_mul_s, q_bop_fdiv, q_bop_mod, q_bop_pow, q_bop_add_str, q_bop_add_tup, q_bop_add_lst, q_cop_eq, q_cop_ne, q_cop_lt_i, q_cop_lt_b, q_cop_lt_s, q_cop_gt_i, q_cop_gt_s, q_cop_le_i, q_cop_ge_i, q_cop_in, q_cop_nin, q_cop_is_n, q_cop_is_b, q_cop_isn_n, q_mem_tup, q_mem_lst, q_mem_1, q_len_str, q_len_tup, q_len_lst, q_bi_abs, q_bi_max, q_bi_min, q_bi_all, q_bi_any, q_bi_sum, q_bi_int_i, q_bi_int_b, q_bi_str_i, q_bi_list_t, q_bi_list_l, q_bi_sum_t, q_bi_max1_l, q_bi_max1_t, q_bi_min1_l, q_bi_min1_t, q_rev_t, q_rev_l, q_rev_s, q_lrev_t, q_bi_tuple_t, q_bi_tuple_l, q_it_tup, q_it_lst, q_it_str, q_at_tup, q_at_lst, q_at_str, q_cut_tup, q_cut_lst, q_cut_str, q_setv, q_okSl_va, q_frSl_va, q_okSl_no, q_frSl_no, q_okSl_sl, q_frSl_sl, q_bn_nil, q_bn_cons, q_bt_n, q_bt_t, q_own_c, q_call_c, q_sp_nil, q_sp_d, q_sp_o, q_po_nil, q_po_cons, q_nd_nil, q_nd_1, q_eq_ii, q_eq_bb, q_eq_ss, q_eq_nn, q_eq_is, q_eq_si, q_eq_sn, q_eq_ns, q_eq_in, q_eq_ni, q_lc_nil, q_lc_cons, q_wipe_1, q_back_1, q_free_1, q_at0, q_at1, q_at2, q_at3, q_eq_l0, q_eq_t0, q_sl_s, q_fo_nil, runF, startE, finO, outsOf, inoutSlots, slotsFrom, lim, List.getElem?_cons_zero, List.getElem?_cons_succ, List.set_cons_zero, List.set_cons_succ, Option.map_some, List.length_cons, List.length_nil, List.replicate, List.getD_eq_getElem?_getD, Option.getD_some, Option.toList_some, Option.toList_none, List.nil_append, List.cons_append, List.append_nil, reduceCtorEq, if_true, if_false, ite_true, ite_false, k1, m1, h1, l__law_asked_2, enterX, noX, isOwn, leaveT, leaveX, evE, evEs, exS, exSs]
    · by_cases k2 : k = 2
      · simp [q_bind_ok, q_out_ok, q_bind_exc, q_out_exc, q_seq_ret, q_seq_new, q_seq_brk, q_seq_cnt, q_seq_nx, q_seq_exc, q_opt_some, q_if_t, q_if_f, q_ev_v, q_ev_c, q_ev_g, q_ev_gix, q_ev_gin, q_ev_bin, q_ev_cat, q_cat_l, q_ev_neg, q_ev_not, q_ev_cmp, q_ev_chn, q_ev_and, q_ev_or, q_ev_ite, q_ev_tup, q_ev_lst, q_ev_call, q_ev_bi, q_ev_me, q_ev_isi, q_ev_ix, q_ev_slLo, q_ev_slHi, q_ev_slLH, q_ev_rev, q_ev_gti, q_ev_gsd, q_ev_lrev, q_ev_lc, q_ev_pop, q_evs_nil, q_evs_cons, q_and_1, q_and_2, q_or_1, q_or_2, q_ts_nil, q_ts_1, q_src_it, q_src_r1, q_src_r2, q_src_rd, q_evt, q_lcb, q_x_ret, q_x_retN, q_x_retF, q_x_set, q_x_setN, q_x_unp, q_x_aug, q_x_ite, q_x_whl, q_x_for, q_x_app, q_x_ext, q_x_put, q_x_exp, q_x_try, q_x_raise, q_x_frz, q_x_pas, q_x_brk, q_x_cnt, q_xs_nil, q_xs_cons, q_lv_d, q_lv_nx, q_lv_new, q_lv_o, q_lv_exc, q_deref_d, q_deref_o, q_derefs_nil, q_derefs_cons, q_asD_d, q_asDs_nil, q_asDs_cons, q_asI_i, q_asB_b, q_asS_s, q_bop_add, q_bop_sub, q_bop_mul, q_bop_mul_s, q_bop_fdiv, q_bop_mod, q_bop_pow, q_bop_add_str, q_bop_add_tup, q_bop_add_lst, q_cop_eq, q_cop_ne, q_cop_lt_i, q_cop_lt_b, q_cop_lt_s, q_cop_gt_i, q_cop_gt_s, q_cop_le_i, q_cop_ge_i, q_cop_in, q_cop_nin, q_cop_is_n, q_cop_is_b, q_cop_isn_n, q_mem_tup, q_mem_lst, q_mem_1, q_len_str, q_len_tup, q_len_lst, q_bi_abs, q_bi_max, q_bi_min, q_bi_all, q_bi_any, q_bi_sum, q_bi_int_i, q_bi_int_b, q_bi_str_i, q_bi_list_t, q_bi_list_l, q_bi_sum_t, q_bi_max1_l, q_bi_max1_t, q_bi_min1_l, q_bi_min1_t, q_rev_t, q_rev_l, q_rev_s, q_lrev_t, q_bi_tuple_t, q_bi_tuple_l, q_it_tup, q_it_lst, q_it_str, q_at_tup, q_at_lst, q_at_str, q_cut_tup, q_cut_lst, q_cut_str, q_setv, q_okSl_va, q_frSl_va, q_okSl_no, q_frSl_no, q_okSl_sl, q_frSl_sl, q_bn_nil, q_bn_cons, q_bt_n, q_bt_t, q_own_c, q_call_c, q_sp_nil, q_sp_d, q_sp_o, q_po_nil, q_po_cons, q_nd_nil, q_nd_1, q_eq_ii, q_eq_bb, q_eq_ss, q_eq_nn, q_eq_is, q_eq_si, q_eq_sn, q_eq_ns, q_eq_in, q_eq_ni, q_lc_nil, q_lc_cons, q_wipe_1, q_back_1, q_free_1, q_at0, q_at1, q_at2, q_at3, q_eq_l0, q_eq_t0, q_sl_s, q_fo_nil, runF, startE, finO, outsOf, inoutSlots, slotsFrom, lim, List.getElem?_cons_zero, List.getElem?_cons_succ, List.set_cons_zero, List.set_cons_succ, Option.map_some, List.length_cons, List.length_nil, List.replicate, List.getD_eq_getElem?_getD, Option.getD_some, Option.toList_some, Option.toList_none, List.nil_append, List.cons_append, List.append_nil, reduceCtorEq, if_true, if_false, ite_true, ite_false, k2, m2, h2, l__law_asked_2, enterX, noX, isOwn, leaveT, leaveX, evE, evEs, exS, exSs]
      · simp [q_bind_ok, q_out_ok, q_bind_exc, q_out_exc, q_seq_ret, q_seq_new, q_seq_brk, q_seq_cnt, q_seq_nx, q_seq_exc, q_opt_some, q_if_t, q_if_f, q_ev_v, q_ev_c, q_ev_g, q_ev_gix, q_ev_gin, q_ev_bin, q_ev_cat, q_cat_l, q_ev_neg, q_ev_not, q_ev_cmp, q_ev_chn, q_ev_and, q_ev_or, q_ev_ite, q_ev_tup, q_ev_lst, q_ev_call, q_ev_bi, q_ev_me, q_ev_isi, q_ev_ix, q_ev_slLo, q_ev_slHi, q_ev_slLH, q_ev_rev, q_ev_gti, q_ev_gsd, q_ev_lrev, q_ev_lc, q_ev_pop, q_evs_nil, q_evs_cons, q_and_1, q_and_2, q_or_1, q_or_2, q_ts_nil, q_ts_1, q_src_it, q_src_r1, q_src_r2, q_src_rd, q_evt, q_lcb, q_x_ret, q_x_retN, q_x_retF, q_x_set, q_x_setN, q_x_unp, q_x_aug, q_x_ite, q_x_whl, q_x_for, q_x_app, q_x_ext, q_x_put, q_x_exp, q_x_try, q_x_raise, q_x_frz, q_x_pas, q_x_brk, q_x_cnt, q_xs_nil, q_xs_cons, q_lv_d, q_lv_nx, q_lv_new, q_lv_o, q_lv_exc, q_deref_d, q_deref_o, q_derefs_nil, q_derefs_cons, q_asD_d, q_asDs_nil, q_asDs_cons, q_asI_i, q_asB_b, q_asS_s, q_bop_add, q_bop_sub, q_bop_mul, q_bop_mul_s, q_bop_fdiv, q_bop_mod, q_bop_pow, q_bop_add_str, q_bop_add_tup, q_bop_add_lst, q_cop_eq, q_cop_ne, q_cop_lt_i, q_cop_lt_b, q_cop_lt_s, q_cop_gt_i, q_cop_gt_s, q_cop_le_i, q_cop_ge_i, q_cop_in, q_cop_nin, q_cop_is_n, q_cop_is_b, q_cop_isn_n, q_mem_tup, q_mem_lst, q_mem_1, q_len_str, q_len_tup, q_len_lst, q_bi_abs, q_bi_max, q_bi_min, q_bi_all, q_bi_any, q_bi_sum, q_bi_int_i, q_bi_int_b, q_bi_str_i, q_bi_list_t, q_bi_list_l, q_bi_sum_t, q_bi_max1_l, q_bi_max1_t, q_bi_min1_l, q_bi_min1_t, q_rev_t, q_rev_l, q_rev_s, q_lrev_t, q_bi_tuple_t, q_bi_tuple_l, q_it_tup, q_it_lst, q_it_str, q_at_tup, q_at_lst, q_at_str, q_cut_tup, q_cut_lst, q_cut_str, q_setv, q_okSl_va, q_frSl_va, q_okSl_no, q_frSl_no, q_okSl_sl, q_frSl_sl, q_bn_nil, q_bn_cons, q_bt_n, q_bt_t, q_own_c, q_call_c, q_sp_nil, q_sp_d, q_sp_o, q_po_nil, q_po_cons, q_nd_nil, q_nd_1, q_eq_ii, q_eq_bb, q_eq_ss, q_eq_nn, q_eq_is, q_eq_si, q_eq_sn, q_eq_ns, q_eq_in, q_eq_ni, q_lc_nil, q_lc_cons, q_wipe_1, q_back_1, q_free_1, q_at0, q_at1, q_at2, q_at3, q_eq_l0, q_eq_t0, q_sl_s, q_fo_nil, runF, startE, finO, outsOf, inoutSlots, slotsFrom, lim, List.getElem?_cons_zero, List.getElem?_cons_succ, List.set_cons_zero, List.set_cons_succ, Option.map_some, List.length_cons, List.length_nil, List.replicate, List.getD_eq_getElem?_getD, Option.getD_some, Option.toList_some, Option.toList_none, List.nil_append, List.cons_append, List.append_nil, reduceCtorEq, if_true, if_false, ite_true, ite_false, k0, k1, k2, m3, h3, l__law_asked_2, enterX, noX, isOwn, leaveT, leaveX, evE, evEs, exS, exSs]
theorem F_asked {w : List Nat} {k : Int} (h : t_SIGNATURES.lookup w = none) : f__law_asked.F [.int k, .str w] = .ok (.tup [.str [117, 110, 107, 110, 111, 119, 110], .str w, .bl true]) [] :=
  asked_go (f0 := f_argument_kinds) (f1 := f_result_kind) (f2 := f_is_commutative) (f3 := f_apply) rfl (ak_no (sg := f_signature) rfl (F_sig_no h)) rfl (rk_no (sg := f_signature) rfl (F_sig_no h)) rfl (ic_no (sg := f_signature) rfl (F_sig_no h)) rfl (ap_no (sg := f_signature) rfl (F_sig_no h))
theorem sig_keys : t_SIGNATURES.map (·.1) = libL.map (·.1) := by decide +kernel
theorem no_sig {w : List Nat} (h : w ∉ libL.map (·.1)) : t_SIGNATURES.lookup w = none := by
  rw [List.lookup_eq_none_iff]
  intro p hp
  by_cases e : w = p.1
  · exact absurd (List.mem_map_of_mem (f := (·.1)) hp) (by rw [sig_keys, ← e]; exact h)
  · simpa using e
theorem F_comm {s : List Nat} {v : D} (h : t_SIGNATURES.lookup s = some v) : f_is_commutative.F [.str s] = .ok (.bl (decide (s ∈ u_COMMUTATIVE))) [] := by
  have e1 : memO (.str s) g_COMMUTATIVE = some (decide (s ∈ u_COMMUTATIVE)) := in_strs s u_COMMUTATIVE
  have go : ∀ (g1 : D) (p : Bool) (f : CallF), f.md = [false] → f.F [.str s] = .ok v [] → memO (.str s) g1 = some p → leaveO [false] false (exSs 1000000 [.exp (.call f [.v 0]), .ret (.cmp .isIn (.v 0) (.g "COMMUTATIVE" g1))] [.val (.str s)]) = .ok (.bl p) [] := fun g1 p f m hF h1 => by
    have h1' : cop .isIn (.str s) g1 = some p := h1
    simp [q_bind_ok, q_out_ok, q_bind_exc, q_out_exc, q_seq_ret, q_seq_new, q_seq_brk, q_seq_cnt, q_seq_nx, q_seq_exc, q_opt_some, q_if_t, q_if_f, q_ev_v, q_ev_c, q_ev_g, q_ev_gix, q_ev_gin, q_ev_bin, q_ev_cat, q_cat_l, q_ev_neg, q_ev_not, q_ev_cmp, q_ev_chn, q_ev_and, q_ev_or, q_ev_ite, q_ev_tup, q_ev_lst, q_ev_call, q_ev_bi, q_ev_me, q_ev_isi, q_ev_ix, q_ev_slLo, q_ev_slHi, q_ev_slLH, q_ev_rev, q_ev_gti, q_ev_gsd, q_ev_lrev, q_ev_lc, q_ev_pop, q_evs_nil, q_evs_cons, q_and_1, q_and_2, q_or_1, q_or_2, q_ts_nil, q_ts_1, q_src_it, q_src_r1, q_src_r2, q_src_rd, q_evt, q_lcb, q_x_ret, q_x_retN, q_x_retF, q_x_set, q_x_setN, q_x_unp, q_x_aug, q_x_ite, q_x_whl, q_x_for, q_x_app, q_x_ext, q_x_put, q_x_exp, q_x_try, q_x_raise, q_x_frz, q_x_pas, q_x_brk, q_x_cnt, q_xs_nil, q_xs_cons, q_lv_d, q_lv_nx, q_lv_new, q_lv_o, q_lv_exc, q_deref_d, q_deref_o, q_derefs_nil, q_derefs_cons, q_asD_d, q_asDs_nil, q_asDs_cons, q_asI_i, q_asB_b, q_asS_s, q_bop_add, q_bop_sub, q_bop_mul, q_bop_mul_s, q_bop_fdiv, q_bop_mod, q_bop_pow, q_bop_add_str, q_bop_add_tup, q_bop_add_lst, q_cop_eq, q_cop_ne, q_cop_lt_i, q_cop_lt_b, q_cop_lt_s, q_cop_gt_i, q_cop_gt_s, q_cop_le_i, q_cop_ge_i, q_cop_in, q_cop_nin, q_cop_is_n, q_cop_is_b, q_cop_isn_n, q_mem_tup, q_mem_lst, q_mem_1, q_len_str, q_len_tup, q_len_lst, q_bi_abs, q_bi_max, q_bi_min, q_bi_all, q_bi_any, q_bi_sum, q_bi_int_i, q_bi_int_b, q_bi_str_i, q_bi_list_t, q_bi_list_l, q_bi_sum_t, q_bi_max1_l, q_bi_max1_t, q_bi_min1_l, q_bi_min1_t, q_rev_t, q_rev_l, q_rev_s, q_lrev_t, q_bi_tuple_t, q_bi_tuple_l, q_it_tup, q_it_lst, q_it_str, q_at_tup, q_at_lst, q_at_str, q_cut_tup, q_cut_lst, q_cut_str, q_setv, q_okSl_va, q_frSl_va, q_okSl_no, q_frSl_no, q_okSl_sl, q_frSl_sl, q_bn_nil, q_bn_cons, q_bt_n, q_bt_t, q_own_c, q_call_c, q_sp_nil, q_sp_d, q_sp_o, q_po_nil, q_po_cons, q_nd_nil, q_nd_1, q_eq_ii, q_eq_bb, q_eq_ss, q_eq_nn, q_eq_is, q_eq_si, q_eq_sn, q_eq_ns, q_eq_in, q_eq_ni, q_lc_nil, q_lc_cons, q_wipe_1, q_back_1, q_free_1, q_at0, q_at1, q_at2, q_at3, q_eq_l0, q_eq_t0, q_sl_s, q_fo_nil, runF, startE, finO, outsOf, inoutSlots, slotsFrom, lim, List.getElem?_cons_zero, List.getElem?_cons_succ, List.set_cons_zero, List.set_cons_succ, Option.map_some, List.length_cons, List.length_nil, List.replicate, List.getD_eq_getElem?_getD, Option.getD_some, Option.toList_some, Option.toList_none, List.nil_append, List.cons_append, List.append_nil, reduceCtorEq, if_true, if_false, ite_true, ite_false, m, hF, h1', -q_mem_tup, -q_cop_in]
  exact go g_COMMUTATIVE _ f_signature rfl (F_sig h) e1
/-! ### the law -/
abbrev eEn (ns : List Int) (a : Int) (lb rw : D) (o4 o5 o6 o7 o8 o9 oa ob : Option D) : En := [.val (.lst (ns.map .int)), .val (.int a), .val lb, .val rw, sl o4, sl o5, sl o6, sl o7, sl o8, sl o9, sl oa, sl ob, .no]
theorem e_s1 {f g : CallF} {ns : List Int} {c : Int} {lb : List D} {rw : D} (m : f.md = [false, false]) (hF : f.F [.lst (ns.map .int), .int 0] = .ok (.int c) []) (m2 : g.md = []) (hG : g.F [] = .ok (.lst lb) []) (ha : atI lb ((aI c).fmod 57) = some rw) :
    exSs 1000000 [.set 1 (.bi .abs [.call f [.v 0, .c (.int 0)]]), .set 2 (.call g []), .set 3 (.ix (.v 2) (.bin .mod (.v 1) (.c (.int 57))))] [.val (.lst (ns.map .int)), .no, .no, .no, .no, .no, .no, .no, .no, .no, .no, .no, .no] = .nx (eEn ns (aI c) (.lst lb) rw none none none none none none none none) := by
  unfold aI at ha
  simp [q_bind_ok, q_out_ok, q_bind_exc, q_out_exc, q_seq_ret, q_seq_new, q_seq_brk, q_seq_cnt, q_seq_nx, q_seq_exc, q_opt_some, q_if_t, q_if_f, q_ev_v, q_ev_c, q_ev_g, q_ev_gix, q_ev_gin, q_ev_bin, q_ev_cat, q_cat_l, q_ev_neg, q_ev_not, q_ev_cmp, q_ev_chn, q_ev_and, q_ev_or, q_ev_ite, q_ev_tup, q_ev_lst, q_ev_call, q_ev_bi, q_ev_me, q_ev_isi, q_ev_ix, q_ev_slLo, q_ev_slHi, q_ev_slLH, q_ev_rev, q_ev_gti, q_ev_gsd, q_ev_lrev, q_ev_lc, q_ev_pop, q_evs_nil, q_evs_cons, q_and_1, q_and_2, q_or_1, q_or_2, q_ts_nil, q_ts_1, q_src_it, q_src_r1, q_src_r2, q_src_rd, q_evt, q_lcb, q_x_ret, q_x_retN, q_x_retF, q_x_set, q_x_setN, q_x_unp, q_x_aug, q_x_ite, q_x_whl, q_x_for, q_x_app, q_x_ext, q_x_put, q_x_exp, q_x_try, q_x_raise, q_x_frz, q_x_pas, q_x_brk, q_x_cnt, q_xs_nil, q_xs_cons, q_lv_d, q_lv_nx, q_lv_new, q_lv_o, q_lv_exc, q_deref_d, q_deref_o, q_derefs_nil, q_derefs_cons, q_asD_d, q_asDs_nil, q_asDs_cons, q_asI_i, q_asB_b, q_asS_s, q_bop_add, q_bop_sub, q_bop_mul, q_bop_mul_s, q_bop_fdiv, q_bop_mod, q_bop_pow, q_bop_add_str, q_bop_add_tup, q_bop_add_lst, q_cop_eq, q_cop_ne, q_cop_lt_i, q_cop_lt_b, q_cop_lt_s, q_cop_gt_i, q_cop_gt_s, q_cop_le_i, q_cop_ge_i, q_cop_in, q_cop_nin, q_cop_is_n, q_cop_is_b, q_cop_isn_n, q_mem_tup, q_mem_lst, q_mem_1, q_len_str, q_len_tup, q_len_lst, q_bi_abs, q_bi_max, q_bi_min, q_bi_all, q_bi_any, q_bi_sum, q_bi_int_i, q_bi_int_b, q_bi_str_i, q_bi_list_t, q_bi_list_l, q_bi_sum_t, q_bi_max1_l, q_bi_max1_t, q_bi_min1_l, q_bi_min1_t, q_rev_t, q_rev_l, q_rev_s, q_lrev_t, q_bi_tuple_t, q_bi_tuple_l, q_it_tup, q_it_lst, q_it_str, q_at_tup, q_at_lst, q_at_str, q_cut_tup, q_cut_lst, q_cut_str, q_setv, q_okSl_va, q_frSl_va, q_okSl_no, q_frSl_no, q_okSl_sl, q_frSl_sl, q_bn_nil, q_bn_cons, q_bt_n, q_bt_t, q_own_c, q_call_c, q_sp_nil, q_sp_d, q_sp_o, q_po_nil, q_po_cons, q_nd_nil, q_nd_1, q_eq_ii, q_eq_bb, q_eq_ss, q_eq_nn, q_eq_is, q_eq_si, q_eq_sn, q_eq_ns, q_eq_in, q_eq_ni, q_lc_nil, q_lc_cons, q_wipe_1, q_back_1, q_free_1, q_at0, q_at1, q_at2, q_at3, q_eq_l0, q_eq_t0, q_sl_s, q_fo_nil, runF, startE, finO, outsOf, inoutSlots, slotsFrom, lim, List.getElem?_cons_zero, List.getElem?_cons_succ, List.set_cons_zero, List.set_cons_succ, Option.map_some, List.length_cons, List.length_nil, List.replicate, List.getD_eq_getElem?_getD, Option.getD_some, Option.toList_some, Option.toList_none, List.nil_append, List.cons_append, List.append_nil, reduceCtorEq, if_true, if_false, ite_true, ite_false, m, hF, m2, hG, ha, aI, sl]
theorem e_s4 {f : CallF} {ns : List Int} {a : Int} {lb x y : D} {s : List Nat} {p : Bool} (hp : p = decide (s ∈ u_COMMUTATIVE)) (m : f.md = [false]) (hF : f.F [.str s] = .ok (.bl p) []) :
    exSs 1000000 [.set 4 (.lst [.c (.str [97, 100, 100]), .c (.str [98, 111, 116, 104]), .c (.str [101, 105, 116, 104, 101, 114]), .c (.str [101, 113, 117, 97, 108]), .c (.str [109, 97, 120]), .c (.str [109, 105, 110]), .c (.str [109, 117, 108]), .c (.str [115, 97, 109, 101, 95, 108, 105, 115, 116]), .c (.str [115, 97, 109, 101, 95, 116, 101, 120, 116]), .c (.str [122, 105, 112, 95, 97, 100, 100])]),
      .set 5 (.call f [.ix (.v 3) (.c (.int 0))]),
      .ite (.or [.not (.isi [.bool] (.v 5)), .cmp .ne (.v 5) (.cmp .isIn (.ix (.v 3) (.c (.int 0))) (.v 4))]) [.ret (.c (.bl false))] []] (eEn ns a lb (.lst [.str s, x, y]) none none none none none none none none) =
    .nx (eEn ns a lb (.lst [.str s, x, y]) (some (.lst (u_COMMUTATIVE.map .str))) (some (.bl p)) none none none none none none) := by
  have h : cop .isIn (.str s) (.lst (u_COMMUTATIVE.map .str)) = some p := by rw [hp]; exact in_strs s u_COMMUTATIVE
  simp only [u_COMMUTATIVE, List.map_cons, List.map_nil] at h ⊢
  cases p <;> simp [q_bind_ok, q_out_ok, q_bind_exc, q_out_exc, q_seq_ret, q_seq_new, q_seq_brk, q_seq_cnt, q_seq_nx, q_seq_exc, q_opt_some, q_if_t, q_if_f, q_ev_v, q_ev_c, q_ev_g, q_ev_gix, q_ev_gin, q_ev_bin, q_ev_cat, q_cat_l, q_ev_neg, q_ev_not, q_ev_cmp, q_ev_chn, q_ev_and, q_ev_or, q_ev_ite, q_ev_tup, q_ev_lst, q_ev_call, q_ev_bi, q_ev_me, q_ev_isi, q_ev_ix, q_ev_slLo, q_ev_slHi, q_ev_slLH, q_ev_rev, q_ev_gti, q_ev_gsd, q_ev_lrev, q_ev_lc, q_ev_pop, q_evs_nil, q_evs_cons, q_and_1, q_and_2, q_or_1, q_or_2, q_ts_nil, q_ts_1, q_src_it, q_src_r1, q_src_r2, q_src_rd, q_evt, q_lcb, q_x_ret, q_x_retN, q_x_retF, q_x_set, q_x_setN, q_x_unp, q_x_aug, q_x_ite, q_x_whl, q_x_for, q_x_app, q_x_ext, q_x_put, q_x_exp, q_x_try, q_x_raise, q_x_frz, q_x_pas, q_x_brk, q_x_cnt, q_xs_nil, q_xs_cons, q_lv_d, q_lv_nx, q_lv_new, q_lv_o, q_lv_exc, q_deref_d, q_deref_o, q_derefs_nil, q_derefs_cons, q_asD_d, q_asDs_nil, q_asDs_cons, q_asI_i, q_asB_b, q_asS_s, q_bop_add, q_bop_sub, q_bop_mul, q_bop_mul_s, q_bop_fdiv, q_bop_mod, q_bop_pow, q_bop_add_str, q_bop_add_tup, q_bop_add_lst, q_cop_eq, q_cop_ne, q_cop_lt_i, q_cop_lt_b, q_cop_lt_s, q_cop_gt_i, q_cop_gt_s, q_cop_le_i, q_cop_ge_i, q_cop_in, q_cop_nin, q_cop_is_n, q_cop_is_b, q_cop_isn_n, q_mem_tup, q_mem_lst, q_mem_1, q_len_str, q_len_tup, q_len_lst, q_bi_abs, q_bi_max, q_bi_min, q_bi_all, q_bi_any, q_bi_sum, q_bi_int_i, q_bi_int_b, q_bi_str_i, q_bi_list_t, q_bi_list_l, q_bi_sum_t, q_bi_max1_l, q_bi_max1_t, q_bi_min1_l, q_bi_min1_t, q_rev_t, q_rev_l, q_rev_s, q_lrev_t, q_bi_tuple_t, q_bi_tuple_l, q_it_tup, q_it_lst, q_it_str, q_at_tup, q_at_lst, q_at_str, q_cut_tup, q_cut_lst, q_cut_str, q_setv, q_okSl_va, q_frSl_va, q_okSl_no, q_frSl_no, q_okSl_sl, q_frSl_sl, q_bn_nil, q_bn_cons, q_bt_n, q_bt_t, q_own_c, q_call_c, q_sp_nil, q_sp_d, q_sp_o, q_po_nil, q_po_cons, q_nd_nil, q_nd_1, q_eq_ii, q_eq_bb, q_eq_ss, q_eq_nn, q_eq_is, q_eq_si, q_eq_sn, q_eq_ns, q_eq_in, q_eq_ni, q_lc_nil, q_lc_cons, q_wipe_1, q_back_1, q_free_1, q_at0, q_at1, q_at2, q_at3, q_eq_l0, q_eq_t0, q_sl_s, q_fo_nil, runF, startE, finO, outsOf, inoutSlots, slotsFrom, lim, List.getElem?_cons_zero, List.getElem?_cons_succ, List.set_cons_zero, List.set_cons_succ, Option.map_some, List.length_cons, List.length_nil, List.replicate, List.getD_eq_getElem?_getD, Option.getD_some, Option.toList_some, Option.toList_none, List.nil_append, List.cons_append, List.append_nil, reduceCtorEq, if_true, if_false, ite_true, ite_false, h, m, hF, isTy, sl, -q_cop_in, -q_mem_lst]
theorem e_s7n {ns : List Int} {a : Int} {lb x y : D} {s : List Nat} {o5 : Option D} {A : List S} (hp : s ∉ u_COMMUTATIVE) :
    exSs 1000000 [.ite (.cmp .isIn (.ix (.v 3) (.c (.int 0))) (.v 4)) A []] (eEn ns a lb (.lst [.str s, x, y]) (some (.lst (u_COMMUTATIVE.map .str))) o5 none none none none none none) = .nx (eEn ns a lb (.lst [.str s, x, y]) (some (.lst (u_COMMUTATIVE.map .str))) o5 none none none none none none) := by
  have h : cop .isIn (.str s) (.lst (u_COMMUTATIVE.map .str)) = some false := by rw [← decide_eq_false hp]; exact in_strs s u_COMMUTATIVE
  generalize D.lst (u_COMMUTATIVE.map .str) = u at h
  simp [q_bind_ok, q_out_ok, q_bind_exc, q_out_exc, q_seq_ret, q_seq_new, q_seq_brk, q_seq_cnt, q_seq_nx, q_seq_exc, q_opt_some, q_if_t, q_if_f, q_ev_v, q_ev_c, q_ev_g, q_ev_gix, q_ev_gin, q_ev_bin, q_ev_cat, q_cat_l, q_ev_neg, q_ev_not, q_ev_cmp, q_ev_chn, q_ev_and, q_ev_or, q_ev_ite, q_ev_tup, q_ev_lst, q_ev_call, q_ev_bi, q_ev_me, q_ev_isi, q_ev_ix, q_ev_slLo, q_ev_slHi, q_ev_slLH, q_ev_rev, q_ev_gti, q_ev_gsd, q_ev_lrev, q_ev_lc, q_ev_pop, q_evs_nil, q_evs_cons, q_and_1, q_and_2, q_or_1, q_or_2, q_ts_nil, q_ts_1, q_src_it, q_src_r1, q_src_r2, q_src_rd, q_evt, q_lcb, q_x_ret, q_x_retN, q_x_retF, q_x_set, q_x_setN, q_x_unp, q_x_aug, q_x_ite, q_x_whl, q_x_for, q_x_app, q_x_ext, q_x_put, q_x_exp, q_x_try, q_x_raise, q_x_frz, q_x_pas, q_x_brk, q_x_cnt, q_xs_nil, q_xs_cons, q_lv_d, q_lv_nx, q_lv_new, q_lv_o, q_lv_exc, q_deref_d, q_deref_o, q_derefs_nil, q_derefs_cons, q_asD_d, q_asDs_nil, q_asDs_cons, q_asI_i, q_asB_b, q_asS_s, q_bop_add, q_bop_sub, q_bop_mul, q_bop_mul_s, q_bop_fdiv, q_bop_mod, q_bop_pow, q_bop_add_str, q_bop_add_tup, q_bop_add_lst, q_cop_eq, q_cop_ne, q_cop_lt_i, q_cop_lt_b, q_cop_lt_s, q_cop_gt_i, q_cop_gt_s, q_cop_le_i, q_cop_ge_i, q_cop_in, q_cop_nin, q_cop_is_n, q_cop_is_b, q_cop_isn_n, q_mem_tup, q_mem_lst, q_mem_1, q_len_str, q_len_tup, q_len_lst, q_bi_abs, q_bi_max, q_bi_min, q_bi_all, q_bi_any, q_bi_sum, q_bi_int_i, q_bi_int_b, q_bi_str_i, q_bi_list_t, q_bi_list_l, q_bi_sum_t, q_bi_max1_l, q_bi_max1_t, q_bi_min1_l, q_bi_min1_t, q_rev_t, q_rev_l, q_rev_s, q_lrev_t, q_bi_tuple_t, q_bi_tuple_l, q_it_tup, q_it_lst, q_it_str, q_at_tup, q_at_lst, q_at_str, q_cut_tup, q_cut_lst, q_cut_str, q_setv, q_okSl_va, q_frSl_va, q_okSl_no, q_frSl_no, q_okSl_sl, q_frSl_sl, q_bn_nil, q_bn_cons, q_bt_n, q_bt_t, q_own_c, q_call_c, q_sp_nil, q_sp_d, q_sp_o, q_po_nil, q_po_cons, q_nd_nil, q_nd_1, q_eq_ii, q_eq_bb, q_eq_ss, q_eq_nn, q_eq_is, q_eq_si, q_eq_sn, q_eq_ns, q_eq_in, q_eq_ni, q_lc_nil, q_lc_cons, q_wipe_1, q_back_1, q_free_1, q_at0, q_at1, q_at2, q_at3, q_eq_l0, q_eq_t0, q_sl_s, q_fo_nil, runF, startE, finO, outsOf, inoutSlots, slotsFrom, lim, List.getElem?_cons_zero, List.getElem?_cons_succ, List.set_cons_zero, List.set_cons_succ, Option.map_some, List.length_cons, List.length_nil, List.replicate, List.getD_eq_getElem?_getD, Option.getD_some, Option.toList_some, Option.toList_none, List.nil_append, List.cons_append, List.append_nil, reduceCtorEq, if_true, if_false, ite_true, ite_false, h, -q_cop_in, -q_mem_lst]
theorem e_s7y {f g v : CallF} {ns : List Int} {a c1 c2 : Int} {lb y w1 w2 w : D} {s : List Nat} {l1 l2 : Nat} {o5 : Option D} {u : D} (h : cop .isIn (.str s) u = some true) (m : f.md = [false, false]) (h1 : f.F [.lst (ns.map .int), .int 1] = .ok (.int c1) []) (h2 : f.F [.lst (ns.map .int), .int 2] = .ok (.int c2) [])
    (mv : v.md = [false, false]) (v1 : v.F [.str [l1], .int (aI c1)] = .ok w1 []) (v2 : v.F [.str [l2], .int (aI c2)] = .ok w2 []) (mg : g.md = [false, false]) (g1 : g.F [.str s, .lst [w1, w2]] = .ok w []) (g2 : g.F [.str s, .lst [w2, w1]] = .ok w []) (he : eqO w w = some true) :
    exSs 1000000 [.ite (.cmp .isIn (.ix (.v 3) (.c (.int 0))) (.v 4)) [.set 10 (.call v [.ix (.ix (.v 3) (.c (.int 1))) (.c (.int 0)), .bi .abs [.call f [.v 0, .c (.int 1)]]]),
      .set 11 (.call v [.ix (.ix (.v 3) (.c (.int 1))) (.c (.int 1)), .bi .abs [.call f [.v 0, .c (.int 2)]]]),
      .ite (.cmp .ne (.call g [.ix (.v 3) (.c (.int 0)), .lst [.v 10, .v 11]]) (.call g [.ix (.v 3) (.c (.int 0)), .lst [.v 11, .v 10]])) [.ret (.c (.bl false))] []] []]
      (eEn ns a lb (.lst [.str s, .str [l1, l2], y]) (some u) o5 none none none none none none) = .nx (eEn ns a lb (.lst [.str s, .str [l1, l2], y]) (some u) o5 none none none none (some w1) (some w2)) := by
  have he' : cop .ne w w = some false := by
    show (eqO w w).map (!·) = _
    rw [he]
    rfl
  unfold aI at v1 v2
  simp [q_bind_ok, q_out_ok, q_bind_exc, q_out_exc, q_seq_ret, q_seq_new, q_seq_brk, q_seq_cnt, q_seq_nx, q_seq_exc, q_opt_some, q_if_t, q_if_f, q_ev_v, q_ev_c, q_ev_g, q_ev_gix, q_ev_gin, q_ev_bin, q_ev_cat, q_cat_l, q_ev_neg, q_ev_not, q_ev_cmp, q_ev_chn, q_ev_and, q_ev_or, q_ev_ite, q_ev_tup, q_ev_lst, q_ev_call, q_ev_bi, q_ev_me, q_ev_isi, q_ev_ix, q_ev_slLo, q_ev_slHi, q_ev_slLH, q_ev_rev, q_ev_gti, q_ev_gsd, q_ev_lrev, q_ev_lc, q_ev_pop, q_evs_nil, q_evs_cons, q_and_1, q_and_2, q_or_1, q_or_2, q_ts_nil, q_ts_1, q_src_it, q_src_r1, q_src_r2, q_src_rd, q_evt, q_lcb, q_x_ret, q_x_retN, q_x_retF, q_x_set, q_x_setN, q_x_unp, q_x_aug, q_x_ite, q_x_whl, q_x_for, q_x_app, q_x_ext, q_x_put, q_x_exp, q_x_try, q_x_raise, q_x_frz, q_x_pas, q_x_brk, q_x_cnt, q_xs_nil, q_xs_cons, q_lv_d, q_lv_nx, q_lv_new, q_lv_o, q_lv_exc, q_deref_d, q_deref_o, q_derefs_nil, q_derefs_cons, q_asD_d, q_asDs_nil, q_asDs_cons, q_asI_i, q_asB_b, q_asS_s, q_bop_add, q_bop_sub, q_bop_mul, q_bop_mul_s, q_bop_fdiv, q_bop_mod, q_bop_pow, q_bop_add_str, q_bop_add_tup, q_bop_add_lst, q_cop_eq, q_cop_ne, q_cop_lt_i, q_cop_lt_b, q_cop_lt_s, q_cop_gt_i, q_cop_gt_s, q_cop_le_i, q_cop_ge_i, q_cop_in, q_cop_nin, q_cop_is_n, q_cop_is_b, q_cop_isn_n, q_mem_tup, q_mem_lst, q_mem_1, q_len_str, q_len_tup, q_len_lst, q_bi_abs, q_bi_max, q_bi_min, q_bi_all, q_bi_any, q_bi_sum, q_bi_int_i, q_bi_int_b, q_bi_str_i, q_bi_list_t, q_bi_list_l, q_bi_sum_t, q_bi_max1_l, q_bi_max1_t, q_bi_min1_l, q_bi_min1_t, q_rev_t, q_rev_l, q_rev_s, q_lrev_t, q_bi_tuple_t, q_bi_tuple_l, q_it_tup, q_it_lst, q_it_str, q_at_tup, q_at_lst, q_at_str, q_cut_tup, q_cut_lst, q_cut_str, q_setv, q_okSl_va, q_frSl_va, q_okSl_no, q_frSl_no, q_okSl_sl, q_frSl_sl, q_bn_nil, q_bn_cons, q_bt_n, q_bt_t, q_own_c, q_call_c, q_sp_nil, q_sp_d, q_sp_o, q_po_nil, q_po_cons, q_nd_nil, q_nd_1, q_eq_ii, q_eq_bb, q_eq_ss, q_eq_nn, q_eq_is, q_eq_si, q_eq_sn, q_eq_ns, q_eq_in, q_eq_ni, q_lc_nil, q_lc_cons, q_wipe_1, q_back_1, q_free_1, q_at0, q_at1, q_at2, q_at3, q_eq_l0, q_eq_t0, q_sl_s, q_fo_nil, runF, startE, finO, outsOf, inoutSlots, slotsFrom, lim, List.getElem?_cons_zero, List.getElem?_cons_succ, List.set_cons_zero, List.set_cons_succ, Option.map_some, List.length_cons, List.length_nil, List.replicate, List.getD_eq_getElem?_getD, Option.getD_some, Option.toList_some, Option.toList_none, List.nil_append, List.cons_append, List.append_nil, reduceCtorEq, if_true, if_false, ite_true, ite_false, h, m, h1, h2, mv, v1, v2, mg, g1, g2, he', sl, -q_cop_in, -q_mem_lst, -q_cop_ne]
theorem cut_hi {α : Type} {xs : List α} {n : Nat} : cutL xs none (some (n : Int)) = xs.take n := by
  unfold cutL
  have h2 : HT.sIx xs.length 0 none = 0 := rfl
  have h1 : HT.sIx xs.length xs.length (some (n : Int)) = min n xs.length := by
    simp [HT.sIx]
    omega
  rw [h1, h2, List.drop_zero, Nat.sub_zero]
  rcases Nat.le_total n xs.length with h | h
  · rw [Nat.min_eq_left h]
  · rw [Nat.min_eq_right h, List.take_length, List.take_of_length_le h]
theorem cut_lenG {α : Type} {xs : List α} {lo hi : Option Int} : (cutL xs lo hi).length ≤ xs.length := by
  unfold cutL
  simp
  omega
theorem e_s8a {ns : List Int} {a : Int} {lb x y : D} {s : List Nat} {o4 o5 oa ob : Option D} (n0 : (s.length : Int) ≠ 0) :
    exSs 1000000 [.set 6 (.bin .mod (.bin .fdiv (.v 1) (.c (.int 57))) (.bi .len [.ix (.v 3) (.c (.int 0))])), .set 7 (.bin .mod (.bin .fdiv (.v 1) (.c (.int 1000))) (.c (.int 4)))] (eEn ns a lb (.lst [.str s, x, y]) o4 o5 none none none none oa ob) =
    .nx (eEn ns a lb (.lst [.str s, x, y]) o4 o5 (some (.int ((a.fdiv 57).fmod (s.length : Int)))) (some (.int ((a.fdiv 1000).fmod 4))) none none oa ob) := by
  have n1 : s.length ≠ 0 := by omega
  have n2 : s ≠ [] := fun z => by rw [z] at n1; exact n1 rfl
  simp [q_bind_ok, q_out_ok, q_bind_exc, q_out_exc, q_seq_ret, q_seq_new, q_seq_brk, q_seq_cnt, q_seq_nx, q_seq_exc, q_opt_some, q_if_t, q_if_f, q_ev_v, q_ev_c, q_ev_g, q_ev_gix, q_ev_gin, q_ev_bin, q_ev_cat, q_cat_l, q_ev_neg, q_ev_not, q_ev_cmp, q_ev_chn, q_ev_and, q_ev_or, q_ev_ite, q_ev_tup, q_ev_lst, q_ev_call, q_ev_bi, q_ev_me, q_ev_isi, q_ev_ix, q_ev_slLo, q_ev_slHi, q_ev_slLH, q_ev_rev, q_ev_gti, q_ev_gsd, q_ev_lrev, q_ev_lc, q_ev_pop, q_evs_nil, q_evs_cons, q_and_1, q_and_2, q_or_1, q_or_2, q_ts_nil, q_ts_1, q_src_it, q_src_r1, q_src_r2, q_src_rd, q_evt, q_lcb, q_x_ret, q_x_retN, q_x_retF, q_x_set, q_x_setN, q_x_unp, q_x_aug, q_x_ite, q_x_whl, q_x_for, q_x_app, q_x_ext, q_x_put, q_x_exp, q_x_try, q_x_raise, q_x_frz, q_x_pas, q_x_brk, q_x_cnt, q_xs_nil, q_xs_cons, q_lv_d, q_lv_nx, q_lv_new, q_lv_o, q_lv_exc, q_deref_d, q_deref_o, q_derefs_nil, q_derefs_cons, q_asD_d, q_asDs_nil, q_asDs_cons, q_asI_i, q_asB_b, q_asS_s, q_bop_add, q_bop_sub, q_bop_mul, q_bop_mul_s, q_bop_fdiv, q_bop_mod, q_bop_pow, q_bop_add_str, q_bop_add_tup, q_bop_add_lst, q_cop_eq, q_cop_ne, q_cop_lt_i, q_cop_lt_b, q_cop_lt_s, q_cop_gt_i, q_cop_gt_s, q_cop_le_i, q_cop_ge_i, q_cop_in, q_cop_nin, q_cop_is_n, q_cop_is_b, q_cop_isn_n, q_mem_tup, q_mem_lst, q_mem_1, q_len_str, q_len_tup, q_len_lst, q_bi_abs, q_bi_max, q_bi_min, q_bi_all, q_bi_any, q_bi_sum, q_bi_int_i, q_bi_int_b, q_bi_str_i, q_bi_list_t, q_bi_list_l, q_bi_sum_t, q_bi_max1_l, q_bi_max1_t, q_bi_min1_l, q_bi_min1_t, q_rev_t, q_rev_l, q_rev_s, q_lrev_t, q_bi_tuple_t, q_bi_tuple_l, q_it_tup, q_it_lst, q_it_str, q_at_tup, q_at_lst, q_at_str, q_cut_tup, q_cut_lst, q_cut_str, q_setv, q_okSl_va, q_frSl_va, q_okSl_no, q_frSl_no, q_okSl_sl, q_frSl_sl, q_bn_nil, q_bn_cons, q_bt_n, q_bt_t, q_own_c, q_call_c, q_sp_nil, q_sp_d, q_sp_o, q_po_nil, q_po_cons, q_nd_nil, q_nd_1, q_eq_ii, q_eq_bb, q_eq_ss, q_eq_nn, q_eq_is, q_eq_si, q_eq_sn, q_eq_ns, q_eq_in, q_eq_ni, q_lc_nil, q_lc_cons, q_wipe_1, q_back_1, q_free_1, q_at0, q_at1, q_at2, q_at3, q_eq_l0, q_eq_t0, q_sl_s, q_fo_nil, runF, startE, finO, outsOf, inoutSlots, slotsFrom, lim, List.getElem?_cons_zero, List.getElem?_cons_succ, List.set_cons_zero, List.set_cons_succ, Option.map_some, List.length_cons, List.length_nil, List.replicate, List.getD_eq_getElem?_getD, Option.getD_some, Option.toList_some, Option.toList_none, List.nil_append, List.cons_append, List.append_nil, reduceCtorEq, if_true, if_false, ite_true, ite_false, n0, n1, n2, sl]
theorem e_s8b {ns : List Int} {a at' wy : Int} {lb x y : D} {s A B C wt : List Nat} {c : Nat} {o4 o5 oa ob : Option D} (hA : cutL s none (some at') = A) (hB : cutL s (some (at' + 1)) none = B) (hC : cutL s (some at') none = C) (hc : atI s at' = some c)
    (q1 : A.length + B.length ≤ 1000000) (q2 : A.length + 1 ≤ 1000000) (q3 : A.length + 1 + C.length ≤ 1000000) (q4 : A.length + 1 + B.length ≤ 1000000)
    (hw : atI [D.str [105, 110, 112, 117, 116], .str [99, 111, 110, 115, 116, 97, 110, 116], .str [], .str [99, 104, 111, 111, 115, 101], .str [32, 97, 100, 100]] ((a.fdiv 4000).fmod 5) = some (.str wt)) : ∃ w : List Nat,
    exSs 1000000 [.set 8 (.bin .add (.slHi (.ix (.v 3) (.c (.int 0))) (.v 6)) (.slLo (.ix (.v 3) (.c (.int 0))) (.bin .add (.v 6) (.c (.int 1))))),
      .ite (.cmp .eq (.v 7) (.c (.int 1))) [.set 8 (.bin .add (.bin .add (.slHi (.ix (.v 3) (.c (.int 0))) (.v 6)) (.ix (.ix (.v 3) (.c (.int 0))) (.v 6))) (.slLo (.ix (.v 3) (.c (.int 0))) (.v 6)))] [],
      .ite (.cmp .eq (.v 7) (.c (.int 2))) [.set 8 (.bin .add (.bin .add (.slHi (.ix (.v 3) (.c (.int 0))) (.v 6)) (.c (.str [65]))) (.slLo (.ix (.v 3) (.c (.int 0))) (.bin .add (.v 6) (.c (.int 1)))))] [],
      .ite (.cmp .eq (.v 7) (.c (.int 3))) [.set 8 (.ix (.lst [.c (.str [105, 110, 112, 117, 116]), .c (.str [99, 111, 110, 115, 116, 97, 110, 116]), .c (.str []), .c (.str [99, 104, 111, 111, 115, 101]), .c (.str [32, 97, 100, 100])]) (.bin .mod (.bin .fdiv (.v 1) (.c (.int 4000))) (.c (.int 5))))] []]
      (eEn ns a lb (.lst [.str s, x, y]) o4 o5 (some (.int at')) (some (.int wy)) none none oa ob) = .nx (eEn ns a lb (.lst [.str s, x, y]) o4 o5 (some (.int at')) (some (.int wy)) (some (.str w)) none oa ob) := by
  by_cases w1 : wy = 1
  · exact ⟨A ++ c :: C, by simp [q_bind_ok, q_out_ok, q_bind_exc, q_out_exc, q_seq_ret, q_seq_new, q_seq_brk, q_seq_cnt, q_seq_nx, q_seq_exc, q_opt_some, q_if_t, q_if_f, q_ev_v, q_ev_c, q_ev_g, q_ev_gix, q_ev_gin, q_ev_bin, q_ev_cat, q_cat_l, q_ev_neg, q_ev_not, q_ev_cmp, q_ev_chn, q_ev_and, q_ev_or, q_ev_ite, q_ev_tup, q_ev_lst, q_ev_call, q_ev_bi, q_ev_me, q_ev_isi, q_ev_ix, q_ev_slLo, q_ev_slHi, q_ev_slLH, q_ev_rev, q_ev_gti, q_ev_gsd, q_ev_lrev, q_ev_lc, q_ev_pop, q_evs_nil, q_evs_cons, q_and_1, q_and_2, q_or_1, q_or_2, q_ts_nil, q_ts_1, q_src_it, q_src_r1, q_src_r2, q_src_rd, q_evt, q_lcb, q_x_ret, q_x_retN, q_x_retF, q_x_set, q_x_setN, q_x_unp, q_x_aug, q_x_ite, q_x_whl, q_x_for, q_x_app, q_x_ext, q_x_put, q_x_exp, q_x_try, q_x_raise, q_x_frz, q_x_pas, q_x_brk, q_x_cnt, q_xs_nil, q_xs_cons, q_lv_d, q_lv_nx, q_lv_new, q_lv_o, q_lv_exc, q_deref_d, q_deref_o, q_derefs_nil, q_derefs_cons, q_asD_d, q_asDs_nil, q_asDs_cons, q_asI_i, q_asB_b, q_asS_s, q_bop_add, q_bop_sub, q_bop_mul, q_bop_mul_s, q_bop_fdiv, q_bop_mod, q_bop_pow, q_bop_add_str, q_bop_add_tup, q_bop_add_lst, q_cop_eq, q_cop_ne, q_cop_lt_i, q_cop_lt_b, q_cop_lt_s, q_cop_gt_i, q_cop_gt_s, q_cop_le_i, q_cop_ge_i, q_cop_in, q_cop_nin, q_cop_is_n, q_cop_is_b, q_cop_isn_n, q_mem_tup, q_mem_lst, q_mem_1, q_len_str, q_len_tup, q_len_lst, q_bi_abs, q_bi_max, q_bi_min, q_bi_all, q_bi_any, q_bi_sum, q_bi_int_i, q_bi_int_b, q_bi_str_i, q_bi_list_t, q_bi_list_l, q_bi_sum_t, q_bi_max1_l, q_bi_max1_t, q_bi_min1_l, q_bi_min1_t, q_rev_t, q_rev_l, q_rev_s, q_lrev_t, q_bi_tuple_t, q_bi_tuple_l, q_it_tup, q_it_lst, q_it_str, q_at_tup, q_at_lst, q_at_str, q_cut_tup, q_cut_lst, q_cut_str, q_setv, q_okSl_va, q_frSl_va, q_okSl_no, q_frSl_no, q_okSl_sl, q_frSl_sl, q_bn_nil, q_bn_cons, q_bt_n, q_bt_t, q_own_c, q_call_c, q_sp_nil, q_sp_d, q_sp_o, q_po_nil, q_po_cons, q_nd_nil, q_nd_1, q_eq_ii, q_eq_bb, q_eq_ss, q_eq_nn, q_eq_is, q_eq_si, q_eq_sn, q_eq_ns, q_eq_in, q_eq_ni, q_lc_nil, q_lc_cons, q_wipe_1, q_back_1, q_free_1, q_at0, q_at1, q_at2, q_at3, q_eq_l0, q_eq_t0, q_sl_s, q_fo_nil, runF, startE, finO, outsOf, inoutSlots, slotsFrom, lim, List.getElem?_cons_zero, List.getElem?_cons_succ, List.set_cons_zero, List.set_cons_succ, Option.map_some, List.length_cons, List.length_nil, List.replicate, List.getD_eq_getElem?_getD, Option.getD_some, Option.toList_some, Option.toList_none, List.nil_append, List.cons_append, List.append_nil, reduceCtorEq, if_true, if_false, ite_true, ite_false, hA, hB, hC, hc, q1, q2, q3, q4, w1, sl]⟩
  · by_cases w2 : wy = 2
    · exact ⟨A ++ 65 :: B, by simp [q_bind_ok, q_out_ok, q_bind_exc, q_out_exc, q_seq_ret, q_seq_new, q_seq_brk, q_seq_cnt, q_seq_nx, q_seq_exc, q_opt_some, q_if_t, q_if_f, q_ev_v, q_ev_c, q_ev_g, q_ev_gix, q_ev_gin, q_ev_bin, q_ev_cat, q_cat_l, q_ev_neg, q_ev_not, q_ev_cmp, q_ev_chn, q_ev_and, q_ev_or, q_ev_ite, q_ev_tup, q_ev_lst, q_ev_call, q_ev_bi, q_ev_me, q_ev_isi, q_ev_ix, q_ev_slLo, q_ev_slHi, q_ev_slLH, q_ev_rev, q_ev_gti, q_ev_gsd, q_ev_lrev, q_ev_lc, q_ev_pop, q_evs_nil, q_evs_cons, q_and_1, q_and_2, q_or_1, q_or_2, q_ts_nil, q_ts_1, q_src_it, q_src_r1, q_src_r2, q_src_rd, q_evt, q_lcb, q_x_ret, q_x_retN, q_x_retF, q_x_set, q_x_setN, q_x_unp, q_x_aug, q_x_ite, q_x_whl, q_x_for, q_x_app, q_x_ext, q_x_put, q_x_exp, q_x_try, q_x_raise, q_x_frz, q_x_pas, q_x_brk, q_x_cnt, q_xs_nil, q_xs_cons, q_lv_d, q_lv_nx, q_lv_new, q_lv_o, q_lv_exc, q_deref_d, q_deref_o, q_derefs_nil, q_derefs_cons, q_asD_d, q_asDs_nil, q_asDs_cons, q_asI_i, q_asB_b, q_asS_s, q_bop_add, q_bop_sub, q_bop_mul, q_bop_mul_s, q_bop_fdiv, q_bop_mod, q_bop_pow, q_bop_add_str, q_bop_add_tup, q_bop_add_lst, q_cop_eq, q_cop_ne, q_cop_lt_i, q_cop_lt_b, q_cop_lt_s, q_cop_gt_i, q_cop_gt_s, q_cop_le_i, q_cop_ge_i, q_cop_in, q_cop_nin, q_cop_is_n, q_cop_is_b, q_cop_isn_n, q_mem_tup, q_mem_lst, q_mem_1, q_len_str, q_len_tup, q_len_lst, q_bi_abs, q_bi_max, q_bi_min, q_bi_all, q_bi_any, q_bi_sum, q_bi_int_i, q_bi_int_b, q_bi_str_i, q_bi_list_t, q_bi_list_l, q_bi_sum_t, q_bi_max1_l, q_bi_max1_t, q_bi_min1_l, q_bi_min1_t, q_rev_t, q_rev_l, q_rev_s, q_lrev_t, q_bi_tuple_t, q_bi_tuple_l, q_it_tup, q_it_lst, q_it_str, q_at_tup, q_at_lst, q_at_str, q_cut_tup, q_cut_lst, q_cut_str, q_setv, q_okSl_va, q_frSl_va, q_okSl_no, q_frSl_no, q_okSl_sl, q_frSl_sl, q_bn_nil, q_bn_cons, q_bt_n, q_bt_t, q_own_c, q_call_c, q_sp_nil, q_sp_d, q_sp_o, q_po_nil, q_po_cons, q_nd_nil, q_nd_1, q_eq_ii, q_eq_bb, q_eq_ss, q_eq_nn, q_eq_is, q_eq_si, q_eq_sn, q_eq_ns, q_eq_in, q_eq_ni, q_lc_nil, q_lc_cons, q_wipe_1, q_back_1, q_free_1, q_at0, q_at1, q_at2, q_at3, q_eq_l0, q_eq_t0, q_sl_s, q_fo_nil, runF, startE, finO, outsOf, inoutSlots, slotsFrom, lim, List.getElem?_cons_zero, List.getElem?_cons_succ, List.set_cons_zero, List.set_cons_succ, Option.map_some, List.length_cons, List.length_nil, List.replicate, List.getD_eq_getElem?_getD, Option.getD_some, Option.toList_some, Option.toList_none, List.nil_append, List.cons_append, List.append_nil, reduceCtorEq, if_true, if_false, ite_true, ite_false, hA, hB, hC, hc, q1, q2, q3, q4, w2, sl]⟩
    · by_cases w3 : wy = 3
      · exact ⟨wt, by simp [q_bind_ok, q_out_ok, q_bind_exc, q_out_exc, q_seq_ret, q_seq_new, q_seq_brk, q_seq_cnt, q_seq_nx, q_seq_exc, q_opt_some, q_if_t, q_if_f, q_ev_v, q_ev_c, q_ev_g, q_ev_gix, q_ev_gin, q_ev_bin, q_ev_cat, q_cat_l, q_ev_neg, q_ev_not, q_ev_cmp, q_ev_chn, q_ev_and, q_ev_or, q_ev_ite, q_ev_tup, q_ev_lst, q_ev_call, q_ev_bi, q_ev_me, q_ev_isi, q_ev_ix, q_ev_slLo, q_ev_slHi, q_ev_slLH, q_ev_rev, q_ev_gti, q_ev_gsd, q_ev_lrev, q_ev_lc, q_ev_pop, q_evs_nil, q_evs_cons, q_and_1, q_and_2, q_or_1, q_or_2, q_ts_nil, q_ts_1, q_src_it, q_src_r1, q_src_r2, q_src_rd, q_evt, q_lcb, q_x_ret, q_x_retN, q_x_retF, q_x_set, q_x_setN, q_x_unp, q_x_aug, q_x_ite, q_x_whl, q_x_for, q_x_app, q_x_ext, q_x_put, q_x_exp, q_x_try, q_x_raise, q_x_frz, q_x_pas, q_x_brk, q_x_cnt, q_xs_nil, q_xs_cons, q_lv_d, q_lv_nx, q_lv_new, q_lv_o, q_lv_exc, q_deref_d, q_deref_o, q_derefs_nil, q_derefs_cons, q_asD_d, q_asDs_nil, q_asDs_cons, q_asI_i, q_asB_b, q_asS_s, q_bop_add, q_bop_sub, q_bop_mul, q_bop_mul_s, q_bop_fdiv, q_bop_mod, q_bop_pow, q_bop_add_str, q_bop_add_tup, q_bop_add_lst, q_cop_eq, q_cop_ne, q_cop_lt_i, q_cop_lt_b, q_cop_lt_s, q_cop_gt_i, q_cop_gt_s, q_cop_le_i, q_cop_ge_i, q_cop_in, q_cop_nin, q_cop_is_n, q_cop_is_b, q_cop_isn_n, q_mem_tup, q_mem_lst, q_mem_1, q_len_str, q_len_tup, q_len_lst, q_bi_abs, q_bi_max, q_bi_min, q_bi_all, q_bi_any, q_bi_sum, q_bi_int_i, q_bi_int_b, q_bi_str_i, q_bi_list_t, q_bi_list_l, q_bi_sum_t, q_bi_max1_l, q_bi_max1_t, q_bi_min1_l, q_bi_min1_t, q_rev_t, q_rev_l, q_rev_s, q_lrev_t, q_bi_tuple_t, q_bi_tuple_l, q_it_tup, q_it_lst, q_it_str, q_at_tup, q_at_lst, q_at_str, q_cut_tup, q_cut_lst, q_cut_str, q_setv, q_okSl_va, q_frSl_va, q_okSl_no, q_frSl_no, q_okSl_sl, q_frSl_sl, q_bn_nil, q_bn_cons, q_bt_n, q_bt_t, q_own_c, q_call_c, q_sp_nil, q_sp_d, q_sp_o, q_po_nil, q_po_cons, q_nd_nil, q_nd_1, q_eq_ii, q_eq_bb, q_eq_ss, q_eq_nn, q_eq_is, q_eq_si, q_eq_sn, q_eq_ns, q_eq_in, q_eq_ni, q_lc_nil, q_lc_cons, q_wipe_1, q_back_1, q_free_1, q_at0, q_at1, q_at2, q_at3, q_eq_l0, q_eq_t0, q_sl_s, q_fo_nil, runF, startE, finO, outsOf, inoutSlots, slotsFrom, lim, List.getElem?_cons_zero, List.getElem?_cons_succ, List.set_cons_zero, List.set_cons_succ, Option.map_some, List.length_cons, List.length_nil, List.replicate, List.getD_eq_getElem?_getD, Option.getD_some, Option.toList_some, Option.toList_none, List.nil_append, List.cons_append, List.append_nil, reduceCtorEq, if_true, if_false, ite_true, ite_false, hA, hB, q1, w3, hw, sl]⟩
      · exact ⟨A ++ B, by simp [q_bind_ok, q_out_ok, q_bind_exc, q_out_exc, q_seq_ret, q_seq_new, q_seq_brk, q_seq_cnt, q_seq_nx, q_seq_exc, q_opt_some, q_if_t, q_if_f, q_ev_v, q_ev_c, q_ev_g, q_ev_gix, q_ev_gin, q_ev_bin, q_ev_cat, q_cat_l, q_ev_neg, q_ev_not, q_ev_cmp, q_ev_chn, q_ev_and, q_ev_or, q_ev_ite, q_ev_tup, q_ev_lst, q_ev_call, q_ev_bi, q_ev_me, q_ev_isi, q_ev_ix, q_ev_slLo, q_ev_slHi, q_ev_slLH, q_ev_rev, q_ev_gti, q_ev_gsd, q_ev_lrev, q_ev_lc, q_ev_pop, q_evs_nil, q_evs_cons, q_and_1, q_and_2, q_or_1, q_or_2, q_ts_nil, q_ts_1, q_src_it, q_src_r1, q_src_r2, q_src_rd, q_evt, q_lcb, q_x_ret, q_x_retN, q_x_retF, q_x_set, q_x_setN, q_x_unp, q_x_aug, q_x_ite, q_x_whl, q_x_for, q_x_app, q_x_ext, q_x_put, q_x_exp, q_x_try, q_x_raise, q_x_frz, q_x_pas, q_x_brk, q_x_cnt, q_xs_nil, q_xs_cons, q_lv_d, q_lv_nx, q_lv_new, q_lv_o, q_lv_exc, q_deref_d, q_deref_o, q_derefs_nil, q_derefs_cons, q_asD_d, q_asDs_nil, q_asDs_cons, q_asI_i, q_asB_b, q_asS_s, q_bop_add, q_bop_sub, q_bop_mul, q_bop_mul_s, q_bop_fdiv, q_bop_mod, q_bop_pow, q_bop_add_str, q_bop_add_tup, q_bop_add_lst, q_cop_eq, q_cop_ne, q_cop_lt_i, q_cop_lt_b, q_cop_lt_s, q_cop_gt_i, q_cop_gt_s, q_cop_le_i, q_cop_ge_i, q_cop_in, q_cop_nin, q_cop_is_n, q_cop_is_b, q_cop_isn_n, q_mem_tup, q_mem_lst, q_mem_1, q_len_str, q_len_tup, q_len_lst, q_bi_abs, q_bi_max, q_bi_min, q_bi_all, q_bi_any, q_bi_sum, q_bi_int_i, q_bi_int_b, q_bi_str_i, q_bi_list_t, q_bi_list_l, q_bi_sum_t, q_bi_max1_l, q_bi_max1_t, q_bi_min1_l, q_bi_min1_t, q_rev_t, q_rev_l, q_rev_s, q_lrev_t, q_bi_tuple_t, q_bi_tuple_l, q_it_tup, q_it_lst, q_it_str, q_at_tup, q_at_lst, q_at_str, q_cut_tup, q_cut_lst, q_cut_str, q_setv, q_okSl_va, q_frSl_va, q_okSl_no, q_frSl_no, q_okSl_sl, q_frSl_sl, q_bn_nil, q_bn_cons, q_bt_n, q_bt_t, q_own_c, q_call_c, q_sp_nil, q_sp_d, q_sp_o, q_po_nil, q_po_cons, q_nd_nil, q_nd_1, q_eq_ii, q_eq_bb, q_eq_ss, q_eq_nn, q_eq_is, q_eq_si, q_eq_sn, q_eq_ns, q_eq_in, q_eq_ni, q_lc_nil, q_lc_cons, q_wipe_1, q_back_1, q_free_1, q_at0, q_at1, q_at2, q_at3, q_eq_l0, q_eq_t0, q_sl_s, q_fo_nil, runF, startE, finO, outsOf, inoutSlots, slotsFrom, lim, List.getElem?_cons_zero, List.getElem?_cons_succ, List.set_cons_zero, List.set_cons_succ, Option.map_some, List.length_cons, List.length_nil, List.replicate, List.getD_eq_getElem?_getD, Option.getD_some, Option.toList_some, Option.toList_none, List.nil_append, List.cons_append, List.append_nil, reduceCtorEq, if_true, if_false, ite_true, ite_false, hA, hB, q1, w1, w2, w3, sl]⟩
theorem names_lc {ns : List Int} {a : Int} {lb rw : D} {e : E} {o4 o5 o6 o7 o8 o9 oa ob : Option D} (he : e = .ix (.v 12) (.c (.int 0))) : lcGo (.n 12) [12] (lcBody (evTs []) (evE e)) (libL.map rowD) [] (eEn ns a lb rw o4 o5 o6 o7 o8 o9 oa ob) = .ok (libL.map fun r => .str r.1) (eEn ns a lb rw o4 o5 o6 o7 o8 o9 oa ob) := by
  subst he
  refine lc_of (s := .no) rfl (fun r hr => ?_) (by decide)
  have a0 : atD (rowD r) 0 = some (.str r.1) := rfl
  generalize rowD r = x at a0
  simp [q_bind_ok, q_out_ok, q_bind_exc, q_out_exc, q_seq_ret, q_seq_new, q_seq_brk, q_seq_cnt, q_seq_nx, q_seq_exc, q_opt_some, q_if_t, q_if_f, q_ev_v, q_ev_c, q_ev_g, q_ev_gix, q_ev_gin, q_ev_bin, q_ev_cat, q_cat_l, q_ev_neg, q_ev_not, q_ev_cmp, q_ev_chn, q_ev_and, q_ev_or, q_ev_ite, q_ev_tup, q_ev_lst, q_ev_call, q_ev_bi, q_ev_me, q_ev_isi, q_ev_ix, q_ev_slLo, q_ev_slHi, q_ev_slLH, q_ev_rev, q_ev_gti, q_ev_gsd, q_ev_lrev, q_ev_lc, q_ev_pop, q_evs_nil, q_evs_cons, q_and_1, q_and_2, q_or_1, q_or_2, q_ts_nil, q_ts_1, q_src_it, q_src_r1, q_src_r2, q_src_rd, q_evt, q_lcb, q_x_ret, q_x_retN, q_x_retF, q_x_set, q_x_setN, q_x_unp, q_x_aug, q_x_ite, q_x_whl, q_x_for, q_x_app, q_x_ext, q_x_put, q_x_exp, q_x_try, q_x_raise, q_x_frz, q_x_pas, q_x_brk, q_x_cnt, q_xs_nil, q_xs_cons, q_lv_d, q_lv_nx, q_lv_new, q_lv_o, q_lv_exc, q_deref_d, q_deref_o, q_derefs_nil, q_derefs_cons, q_asD_d, q_asDs_nil, q_asDs_cons, q_asI_i, q_asB_b, q_asS_s, q_bop_add, q_bop_sub, q_bop_mul, q_bop_mul_s, q_bop_fdiv, q_bop_mod, q_bop_pow, q_bop_add_str, q_bop_add_tup, q_bop_add_lst, q_cop_eq, q_cop_ne, q_cop_lt_i, q_cop_lt_b, q_cop_lt_s, q_cop_gt_i, q_cop_gt_s, q_cop_le_i, q_cop_ge_i, q_cop_in, q_cop_nin, q_cop_is_n, q_cop_is_b, q_cop_isn_n, q_mem_tup, q_mem_lst, q_mem_1, q_len_str, q_len_tup, q_len_lst, q_bi_abs, q_bi_max, q_bi_min, q_bi_all, q_bi_any, q_bi_sum, q_bi_int_i, q_bi_int_b, q_bi_str_i, q_bi_list_t, q_bi_list_l, q_bi_sum_t, q_bi_max1_l, q_bi_max1_t, q_bi_min1_l, q_bi_min1_t, q_rev_t, q_rev_l, q_rev_s, q_lrev_t, q_bi_tuple_t, q_bi_tuple_l, q_it_tup, q_it_lst, q_it_str, q_at_tup, q_at_lst, q_at_str, q_cut_tup, q_cut_lst, q_cut_str, q_setv, q_okSl_va, q_frSl_va, q_okSl_no, q_frSl_no, q_okSl_sl, q_frSl_sl, q_bn_nil, q_bn_cons, q_bt_n, q_bt_t, q_own_c, q_call_c, q_sp_nil, q_sp_d, q_sp_o, q_po_nil, q_po_cons, q_nd_nil, q_nd_1, q_eq_ii, q_eq_bb, q_eq_ss, q_eq_nn, q_eq_is, q_eq_si, q_eq_sn, q_eq_ns, q_eq_in, q_eq_ni, q_lc_nil, q_lc_cons, q_wipe_1, q_back_1, q_free_1, q_at0, q_at1, q_at2, q_at3, q_eq_l0, q_eq_t0, q_sl_s, q_fo_nil, runF, startE, finO, outsOf, inoutSlots, slotsFrom, lim, List.getElem?_cons_zero, List.getElem?_cons_succ, List.set_cons_zero, List.set_cons_succ, Option.map_some, List.length_cons, List.length_nil, List.replicate, List.getD_eq_getElem?_getD, Option.getD_some, Option.toList_some, Option.toList_none, List.nil_append, List.cons_append, List.append_nil, reduceCtorEq, if_true, if_false, ite_true, ite_false, a0]
theorem e_s14 {ns : List Int} {a : Int} {L nl : List D} {rw : D} {w : List Nat} {o4 o5 o6 o7 oa ob : Option D} {p : Bool} (e : lcGo (.n 12) [12] (lcBody (evTs []) (evE e_law_1)) L [] (eEn ns a (.lst L) rw o4 o5 o6 o7 (some (.str w)) none oa ob) = .ok nl (eEn ns a (.lst L) rw o4 o5 o6 o7 (some (.str w)) none oa ob))
    (hp : cop .isIn (.str w) (.lst nl) = some p) :
    exSs 1000000 [.ite (.cmp .isIn (.v 8) (.lc (.n 12) [12] (.it (.v 2)) [] e_law_1)) [.ret (.c (.bl true))] []] (eEn ns a (.lst L) rw o4 o5 o6 o7 (some (.str w)) none oa ob) =
    if p = true then .ret (.d (.bl true)) (eEn ns a (.lst L) rw o4 o5 o6 o7 (some (.str w)) none oa ob) else .nx (eEn ns a (.lst L) rw o4 o5 o6 o7 (some (.str w)) none oa ob) := by
  have e' : lcGo (.n 12) [12] (lcBody (evTs []) (evE e_law_1)) L [] [.val (.lst (ns.map .int)), .val (.int a), .val (.lst L), .val rw, sl o4, sl o5, sl o6, sl o7, .val (.str w), .no, sl oa, sl ob, .no] = .ok nl [.val (.lst (ns.map .int)), .val (.int a), .val (.lst L), .val rw, sl o4, sl o5, sl o6, sl o7, .val (.str w), .no, sl oa, sl ob, .no] := e
  have e0 : sl none = .no := rfl
  cases p <;> simp [q_bind_ok, q_out_ok, q_bind_exc, q_out_exc, q_seq_ret, q_seq_new, q_seq_brk, q_seq_cnt, q_seq_nx, q_seq_exc, q_opt_some, q_if_t, q_if_f, q_ev_v, q_ev_c, q_ev_g, q_ev_gix, q_ev_gin, q_ev_bin, q_ev_cat, q_cat_l, q_ev_neg, q_ev_not, q_ev_cmp, q_ev_chn, q_ev_and, q_ev_or, q_ev_ite, q_ev_tup, q_ev_lst, q_ev_call, q_ev_bi, q_ev_me, q_ev_isi, q_ev_ix, q_ev_slLo, q_ev_slHi, q_ev_slLH, q_ev_rev, q_ev_gti, q_ev_gsd, q_ev_lrev, q_ev_lc, q_ev_pop, q_evs_nil, q_evs_cons, q_and_1, q_and_2, q_or_1, q_or_2, q_ts_nil, q_ts_1, q_src_it, q_src_r1, q_src_r2, q_src_rd, q_evt, q_lcb, q_x_ret, q_x_retN, q_x_retF, q_x_set, q_x_setN, q_x_unp, q_x_aug, q_x_ite, q_x_whl, q_x_for, q_x_app, q_x_ext, q_x_put, q_x_exp, q_x_try, q_x_raise, q_x_frz, q_x_pas, q_x_brk, q_x_cnt, q_xs_nil, q_xs_cons, q_lv_d, q_lv_nx, q_lv_new, q_lv_o, q_lv_exc, q_deref_d, q_deref_o, q_derefs_nil, q_derefs_cons, q_asD_d, q_asDs_nil, q_asDs_cons, q_asI_i, q_asB_b, q_asS_s, q_bop_add, q_bop_sub, q_bop_mul, q_bop_mul_s, q_bop_fdiv, q_bop_mod, q_bop_pow, q_bop_add_str, q_bop_add_tup, q_bop_add_lst, q_cop_eq, q_cop_ne, q_cop_lt_i, q_cop_lt_b, q_cop_lt_s, q_cop_gt_i, q_cop_gt_s, q_cop_le_i, q_cop_ge_i, q_cop_in, q_cop_nin, q_cop_is_n, q_cop_is_b, q_cop_isn_n, q_mem_tup, q_mem_lst, q_mem_1, q_len_str, q_len_tup, q_len_lst, q_bi_abs, q_bi_max, q_bi_min, q_bi_all, q_bi_any, q_bi_sum, q_bi_int_i, q_bi_int_b, q_bi_str_i, q_bi_list_t, q_bi_list_l, q_bi_sum_t, q_bi_max1_l, q_bi_max1_t, q_bi_min1_l, q_bi_min1_t, q_rev_t, q_rev_l, q_rev_s, q_lrev_t, q_bi_tuple_t, q_bi_tuple_l, q_it_tup, q_it_lst, q_it_str, q_at_tup, q_at_lst, q_at_str, q_cut_tup, q_cut_lst, q_cut_str, q_setv, q_okSl_va, q_frSl_va, q_okSl_no, q_frSl_no, q_okSl_sl, q_frSl_sl, q_bn_nil, q_bn_cons, q_bt_n, q_bt_t, q_own_c, q_call_c, q_sp_nil, q_sp_d, q_sp_o, q_po_nil, q_po_cons, q_nd_nil, q_nd_1, q_eq_ii, q_eq_bb, q_eq_ss, q_eq_nn, q_eq_is, q_eq_si, q_eq_sn, q_eq_ns, q_eq_in, q_eq_ni, q_lc_nil, q_lc_cons, q_wipe_1, q_back_1, q_free_1, q_at0, q_at1, q_at2, q_at3, q_eq_l0, q_eq_t0, q_sl_s, q_fo_nil, runF, startE, finO, outsOf, inoutSlots, slotsFrom, lim, List.getElem?_cons_zero, List.getElem?_cons_succ, List.set_cons_zero, List.set_cons_succ, Option.map_some, List.length_cons, List.length_nil, List.replicate, List.getD_eq_getElem?_getD, Option.getD_some, Option.toList_some, Option.toList_none, List.nil_append, List.cons_append, List.append_nil, reduceCtorEq, if_true, if_false, ite_true, ite_false, e', hp, e0, -q_cop_in, -q_mem_lst, -q_lc_cons, -q_lc_nil]
theorem ne_self {d : D} (h : dep d ≤ 60) : cop .ne d d = some false := by
  have e : cop .ne d d = (eqO d d).map (!·) := rfl
  rw [e, eq_refl' h]
  rfl
theorem e_turn {f : CallF} {ns : List Int} {a k : Int} {lb rw : D} {w : List Nat} {o4 o5 o6 o7 oa ob : Option D} (m : f.md = [false, false]) (hF : f.F [.int k, .str w] = .ok (.tup [.str [117, 110, 107, 110, 111, 119, 110], .str w, .bl true]) []) :
    exSs 1000000 [.ite (.cmp .ne (.call f [.v 9, .v 8]) (.tup [.c (.str [117, 110, 107, 110, 111, 119, 110]), .v 8, .c (.bl true)])) [.ret (.c (.bl false))] []] (eEn ns a lb rw o4 o5 o6 o7 (some (.str w)) (some (.int k)) oa ob) = .nx (eEn ns a lb rw o4 o5 o6 o7 (some (.str w)) (some (.int k)) oa ob) := by
  have he : cop .ne (.tup [.str [117, 110, 107, 110, 111, 119, 110], .str w, .bl true]) (.tup [.str [117, 110, 107, 110, 111, 119, 110], .str w, .bl true]) = some false := ne_self (by show max 0 (max 0 (max 0 0)) + 1 ≤ 60; decide)
  simp [q_bind_ok, q_out_ok, q_bind_exc, q_out_exc, q_seq_ret, q_seq_new, q_seq_brk, q_seq_cnt, q_seq_nx, q_seq_exc, q_opt_some, q_if_t, q_if_f, q_ev_v, q_ev_c, q_ev_g, q_ev_gix, q_ev_gin, q_ev_bin, q_ev_cat, q_cat_l, q_ev_neg, q_ev_not, q_ev_cmp, q_ev_chn, q_ev_and, q_ev_or, q_ev_ite, q_ev_tup, q_ev_lst, q_ev_call, q_ev_bi, q_ev_me, q_ev_isi, q_ev_ix, q_ev_slLo, q_ev_slHi, q_ev_slLH, q_ev_rev, q_ev_gti, q_ev_gsd, q_ev_lrev, q_ev_lc, q_ev_pop, q_evs_nil, q_evs_cons, q_and_1, q_and_2, q_or_1, q_or_2, q_ts_nil, q_ts_1, q_src_it, q_src_r1, q_src_r2, q_src_rd, q_evt, q_lcb, q_x_ret, q_x_retN, q_x_retF, q_x_set, q_x_setN, q_x_unp, q_x_aug, q_x_ite, q_x_whl, q_x_for, q_x_app, q_x_ext, q_x_put, q_x_exp, q_x_try, q_x_raise, q_x_frz, q_x_pas, q_x_brk, q_x_cnt, q_xs_nil, q_xs_cons, q_lv_d, q_lv_nx, q_lv_new, q_lv_o, q_lv_exc, q_deref_d, q_deref_o, q_derefs_nil, q_derefs_cons, q_asD_d, q_asDs_nil, q_asDs_cons, q_asI_i, q_asB_b, q_asS_s, q_bop_add, q_bop_sub, q_bop_mul, q_bop_mul_s, q_bop_fdiv, q_bop_mod, q_bop_pow, q_bop_add_str, q_bop_add_tup, q_bop_add_lst, q_cop_eq, q_cop_ne, q_cop_lt_i, q_cop_lt_b, q_cop_lt_s, q_cop_gt_i, q_cop_gt_s, q_cop_le_i, q_cop_ge_i, q_cop_in, q_cop_nin, q_cop_is_n, q_cop_is_b, q_cop_isn_n, q_mem_tup, q_mem_lst, q_mem_1, q_len_str, q_len_tup, q_len_lst, q_bi_abs, q_bi_max, q_bi_min, q_bi_all, q_bi_any, q_bi_sum, q_bi_int_i, q_bi_int_b, q_bi_str_i, q_bi_list_t, q_bi_list_l, q_bi_sum_t, q_bi_max1_l, q_bi_max1_t, q_bi_min1_l, q_bi_min1_t, q_rev_t, q_rev_l, q_rev_s, q_lrev_t, q_bi_tuple_t, q_bi_tuple_l, q_it_tup, q_it_lst, q_it_str, q_at_tup, q_at_lst, q_at_str, q_cut_tup, q_cut_lst, q_cut_str, q_setv, q_okSl_va, q_frSl_va, q_okSl_no, q_frSl_no, q_okSl_sl, q_frSl_sl, q_bn_nil, q_bn_cons, q_bt_n, q_bt_t, q_own_c, q_call_c, q_sp_nil, q_sp_d, q_sp_o, q_po_nil, q_po_cons, q_nd_nil, q_nd_1, q_eq_ii, q_eq_bb, q_eq_ss, q_eq_nn, q_eq_is, q_eq_si, q_eq_sn, q_eq_ns, q_eq_in, q_eq_ni, q_lc_nil, q_lc_cons, q_wipe_1, q_back_1, q_free_1, q_at0, q_at1, q_at2, q_at3, q_eq_l0, q_eq_t0, q_sl_s, q_fo_nil, runF, startE, finO, outsOf, inoutSlots, slotsFrom, lim, List.getElem?_cons_zero, List.getElem?_cons_succ, List.set_cons_zero, List.set_cons_succ, Option.map_some, List.length_cons, List.length_nil, List.replicate, List.getD_eq_getElem?_getD, Option.getD_some, Option.toList_some, Option.toList_none, List.nil_append, List.cons_append, List.append_nil, reduceCtorEq, if_true, if_false, ite_true, ite_false, m, hF, he, -q_cop_ne]
theorem e_loop {ns : List Int} {a : Int} {lb rw : D} {w : List Nat} {o4 o5 o6 o7 oa ob : Option D} (h : t_SIGNATURES.lookup w = none) : ∀ (xs : List Int) (o9 : Option D), ∃ o9', forGo (.n 9) (exSs 1000000 l_law_2) (xs.map .int) (eEn ns a lb rw o4 o5 o6 o7 (some (.str w)) o9 oa ob) = .nx (eEn ns a lb rw o4 o5 o6 o7 (some (.str w)) o9' oa ob)
  | [], o9 => ⟨o9, rfl⟩
  | k :: xs, o9 => by
    have eb : bindT (.n 9) (.int k) (eEn ns a lb rw o4 o5 o6 o7 (some (.str w)) o9 oa ob) = some (eEn ns a lb rw o4 o5 o6 o7 (some (.str w)) (some (.int k)) oa ob) := by
      simp [q_bind_ok, q_out_ok, q_bind_exc, q_out_exc, q_seq_ret, q_seq_new, q_seq_brk, q_seq_cnt, q_seq_nx, q_seq_exc, q_opt_some, q_if_t, q_if_f, q_ev_v, q_ev_c, q_ev_g, q_ev_gix, q_ev_gin, q_ev_bin, q_ev_cat, q_cat_l, q_ev_neg, q_ev_not, q_ev_cmp, q_ev_chn, q_ev_and, q_ev_or, q_ev_ite, q_ev_tup, q_ev_lst, q_ev_call, q_ev_bi, q_ev_me, q_ev_isi, q_ev_ix, q_ev_slLo, q_ev_slHi, q_ev_slLH, q_ev_rev, q_ev_gti, q_ev_gsd, q_ev_lrev, q_ev_lc, q_ev_pop, q_evs_nil, q_evs_cons, q_and_1, q_and_2, q_or_1, q_or_2, q_ts_nil, q_ts_1, q_src_it, q_src_r1, q_src_r2, q_src_rd, q_evt, q_lcb, q_x_ret, q_x_retN, q_x_retF, q_x_set, q_x_setN, q_x_unp, q_x_aug, q_x_ite, q_x_whl, q_x_for, q_x_app, q_x_ext, q_x_put, q_x_exp, q_x_try, q_x_raise, q_x_frz, q_x_pas, q_x_brk, q_x_cnt, q_xs_nil, q_xs_cons, q_lv_d, q_lv_nx, q_lv_new, q_lv_o, q_lv_exc, q_deref_d, q_deref_o, q_derefs_nil, q_derefs_cons, q_asD_d, q_asDs_nil, q_asDs_cons, q_asI_i, q_asB_b, q_asS_s, q_bop_add, q_bop_sub, q_bop_mul, q_bop_mul_s, q_bop_fdiv, q_bop_mod, q_bop_pow, q_bop_add_str, q_bop_add_tup, q_bop_add_lst, q_cop_eq, q_cop_ne, q_cop_lt_i, q_cop_lt_b, q_cop_lt_s, q_cop_gt_i, q_cop_gt_s, q_cop_le_i, q_cop_ge_i, q_cop_in, q_cop_nin, q_cop_is_n, q_cop_is_b, q_cop_isn_n, q_mem_tup, q_mem_lst, q_mem_1, q_len_str, q_len_tup, q_len_lst, q_bi_abs, q_bi_max, q_bi_min, q_bi_all, q_bi_any, q_bi_sum, q_bi_int_i, q_bi_int_b, q_bi_str_i, q_bi_list_t, q_bi_list_l, q_bi_sum_t, q_bi_max1_l, q_bi_max1_t, q_bi_min1_l, q_bi_min1_t, q_rev_t, q_rev_l, q_rev_s, q_lrev_t, q_bi_tuple_t, q_bi_tuple_l, q_it_tup, q_it_lst, q_it_str, q_at_tup, q_at_lst, q_at_str, q_cut_tup, q_cut_lst, q_cut_str, q_setv, q_okSl_va, q_frSl_va, q_okSl_no, q_frSl_no, q_okSl_sl, q_frSl_sl, q_bn_nil, q_bn_cons, q_bt_n, q_bt_t, q_own_c, q_call_c, q_sp_nil, q_sp_d, q_sp_o, q_po_nil, q_po_cons, q_nd_nil, q_nd_1, q_eq_ii, q_eq_bb, q_eq_ss, q_eq_nn, q_eq_is, q_eq_si, q_eq_sn, q_eq_ns, q_eq_in, q_eq_ni, q_lc_nil, q_lc_cons, q_wipe_1, q_back_1, q_free_1, q_at0, q_at1, q_at2, q_at3, q_eq_l0, q_eq_t0, q_sl_s, q_fo_nil, runF, startE, finO, outsOf, inoutSlots, slotsFrom, lim, List.getElem?_cons_zero, List.getElem?_cons_succ, List.set_cons_zero, List.set_cons_succ, Option.map_some, List.length_cons, List.length_nil, List.replicate, List.getD_eq_getElem?_getD, Option.getD_some, Option.toList_some, Option.toList_none, List.nil_append, List.cons_append, List.append_nil, reduceCtorEq, if_true, if_false, ite_true, ite_false]
    have hb : exSs 1000000 l_law_2 _ = _ := e_turn (f := f__law_asked) (ns := ns) (a := a) (lb := lb) (rw := rw) (o4 := o4) (o5 := o5) (o6 := o6) (o7 := o7) (oa := oa) (ob := ob) rfl (F_asked (k := k) h)
    obtain ⟨o9', ih⟩ := e_loop (ns := ns) (a := a) (lb := lb) (rw := rw) (o4 := o4) (o5 := o5) (o6 := o6) (o7 := o7) (oa := oa) (ob := ob) h xs (some (.int k))
    rw [List.map_cons, q_for_cons, eb]
    simp only []
    rw [hb]
    exact ⟨o9', ih⟩
theorem e_s15 {ns : List Int} {a : Int} {lb rw : D} {w : List Nat} {o4 o5 o6 o7 oa ob : Option D} {o : Out} (h : forGo (.n 9) (exSs 1000000 l_law_2) (rng 0 4) (eEn ns a lb rw o4 o5 o6 o7 (some (.str w)) none oa ob) = o) :
    exSs 1000000 [.for (.n 9) (.r1 (.c (.int 4))) l_law_2] (eEn ns a lb rw o4 o5 o6 o7 (some (.str w)) none oa ob) = o.seq fun ρ => .nx ρ := by
  have r4 : rngOk 4 = true := by decide
  have es : evSrc (.r1 (.c (.int 4))) (eEn ns a lb rw o4 o5 o6 o7 (some (.str w)) none oa ob) = .ok (rng 0 4) (eEn ns a lb rw o4 o5 o6 o7 (some (.str w)) none oa ob) := by
    simp [q_bind_ok, q_out_ok, q_bind_exc, q_out_exc, q_seq_ret, q_seq_new, q_seq_brk, q_seq_cnt, q_seq_nx, q_seq_exc, q_opt_some, q_if_t, q_if_f, q_ev_v, q_ev_c, q_ev_g, q_ev_gix, q_ev_gin, q_ev_bin, q_ev_cat, q_cat_l, q_ev_neg, q_ev_not, q_ev_cmp, q_ev_chn, q_ev_and, q_ev_or, q_ev_ite, q_ev_tup, q_ev_lst, q_ev_call, q_ev_bi, q_ev_me, q_ev_isi, q_ev_ix, q_ev_slLo, q_ev_slHi, q_ev_slLH, q_ev_rev, q_ev_gti, q_ev_gsd, q_ev_lrev, q_ev_lc, q_ev_pop, q_evs_nil, q_evs_cons, q_and_1, q_and_2, q_or_1, q_or_2, q_ts_nil, q_ts_1, q_src_it, q_src_r1, q_src_r2, q_src_rd, q_evt, q_lcb, q_x_ret, q_x_retN, q_x_retF, q_x_set, q_x_setN, q_x_unp, q_x_aug, q_x_ite, q_x_whl, q_x_for, q_x_app, q_x_ext, q_x_put, q_x_exp, q_x_try, q_x_raise, q_x_frz, q_x_pas, q_x_brk, q_x_cnt, q_xs_nil, q_xs_cons, q_lv_d, q_lv_nx, q_lv_new, q_lv_o, q_lv_exc, q_deref_d, q_deref_o, q_derefs_nil, q_derefs_cons, q_asD_d, q_asDs_nil, q_asDs_cons, q_asI_i, q_asB_b, q_asS_s, q_bop_add, q_bop_sub, q_bop_mul, q_bop_mul_s, q_bop_fdiv, q_bop_mod, q_bop_pow, q_bop_add_str, q_bop_add_tup, q_bop_add_lst, q_cop_eq, q_cop_ne, q_cop_lt_i, q_cop_lt_b, q_cop_lt_s, q_cop_gt_i, q_cop_gt_s, q_cop_le_i, q_cop_ge_i, q_cop_in, q_cop_nin, q_cop_is_n, q_cop_is_b, q_cop_isn_n, q_mem_tup, q_mem_lst, q_mem_1, q_len_str, q_len_tup, q_len_lst, q_bi_abs, q_bi_max, q_bi_min, q_bi_all, q_bi_any, q_bi_sum, q_bi_int_i, q_bi_int_b, q_bi_str_i, q_bi_list_t, q_bi_list_l, q_bi_sum_t, q_bi_max1_l, q_bi_max1_t, q_bi_min1_l, q_bi_min1_t, q_rev_t, q_rev_l, q_rev_s, q_lrev_t, q_bi_tuple_t, q_bi_tuple_l, q_it_tup, q_it_lst, q_it_str, q_at_tup, q_at_lst, q_at_str, q_cut_tup, q_cut_lst, q_cut_str, q_setv, q_okSl_va, q_frSl_va, q_okSl_no, q_frSl_no, q_okSl_sl, q_frSl_sl, q_bn_nil, q_bn_cons, q_bt_n, q_bt_t, q_own_c, q_call_c, q_sp_nil, q_sp_d, q_sp_o, q_po_nil, q_po_cons, q_nd_nil, q_nd_1, q_eq_ii, q_eq_bb, q_eq_ss, q_eq_nn, q_eq_is, q_eq_si, q_eq_sn, q_eq_ns, q_eq_in, q_eq_ni, q_lc_nil, q_lc_cons, q_wipe_1, q_back_1, q_free_1, q_at0, q_at1, q_at2, q_at3, q_eq_l0, q_eq_t0, q_sl_s, q_fo_nil, runF, startE, finO, outsOf, inoutSlots, slotsFrom, lim, List.getElem?_cons_zero, List.getElem?_cons_succ, List.set_cons_zero, List.set_cons_succ, Option.map_some, List.length_cons, List.length_nil, List.replicate, List.getD_eq_getElem?_getD, Option.getD_some, Option.toList_some, Option.toList_none, List.nil_append, List.cons_append, List.append_nil, reduceCtorEq, if_true, if_false, ite_true, ite_false, r4]
  rw [q_xs_cons, q_x_for, es, q_out_ok, h]
  cases o <;> rfl
theorem e_s16 {f : CallF} {ns : List Int} {a : Int} {L nl : List D} {rw w v : D} {o4 o5 o6 o7 o9 oa ob : Option D} (m : f.md = []) (hF : f.F [] = .ok (.lst nl) []) (e : lcGo (.n 12) [12] (lcBody (evTs []) (evE e_law_3)) L [] (eEn ns a (.lst L) rw o4 o5 o6 o7 (some w) o9 oa ob) = .ok nl (eEn ns a (.lst L) rw o4 o5 o6 o7 (some w) o9 oa ob)) (he : eqO (.lst nl) (.lst nl) = some true) :
    leaveO [false] false (exSs 1000000 [.ret (.cmp .eq (.call f []) (.lc (.n 12) [12] (.it (.v 2)) [] e_law_3))] (eEn ns a (.lst L) rw o4 o5 o6 o7 (some w) o9 oa ob)) = .ok (.bl true) [] := by
  have e' : lcGo (.n 12) [12] (lcBody (evTs []) (evE e_law_3)) L [] [.val (.lst (ns.map .int)), .val (.int a), .val (.lst L), .val rw, sl o4, sl o5, sl o6, sl o7, .val w, sl o9, sl oa, sl ob, .no] = .ok nl [.val (.lst (ns.map .int)), .val (.int a), .val (.lst L), .val rw, sl o4, sl o5, sl o6, sl o7, .val w, sl o9, sl oa, sl ob, .no] := e
  have he' : cop .eq (.lst nl) (.lst nl) = some true := he
  simp [q_bind_ok, q_out_ok, q_bind_exc, q_out_exc, q_seq_ret, q_seq_new, q_seq_brk, q_seq_cnt, q_seq_nx, q_seq_exc, q_opt_some, q_if_t, q_if_f, q_ev_v, q_ev_c, q_ev_g, q_ev_gix, q_ev_gin, q_ev_bin, q_ev_cat, q_cat_l, q_ev_neg, q_ev_not, q_ev_cmp, q_ev_chn, q_ev_and, q_ev_or, q_ev_ite, q_ev_tup, q_ev_lst, q_ev_call, q_ev_bi, q_ev_me, q_ev_isi, q_ev_ix, q_ev_slLo, q_ev_slHi, q_ev_slLH, q_ev_rev, q_ev_gti, q_ev_gsd, q_ev_lrev, q_ev_lc, q_ev_pop, q_evs_nil, q_evs_cons, q_and_1, q_and_2, q_or_1, q_or_2, q_ts_nil, q_ts_1, q_src_it, q_src_r1, q_src_r2, q_src_rd, q_evt, q_lcb, q_x_ret, q_x_retN, q_x_retF, q_x_set, q_x_setN, q_x_unp, q_x_aug, q_x_ite, q_x_whl, q_x_for, q_x_app, q_x_ext, q_x_put, q_x_exp, q_x_try, q_x_raise, q_x_frz, q_x_pas, q_x_brk, q_x_cnt, q_xs_nil, q_xs_cons, q_lv_d, q_lv_nx, q_lv_new, q_lv_o, q_lv_exc, q_deref_d, q_deref_o, q_derefs_nil, q_derefs_cons, q_asD_d, q_asDs_nil, q_asDs_cons, q_asI_i, q_asB_b, q_asS_s, q_bop_add, q_bop_sub, q_bop_mul, q_bop_mul_s, q_bop_fdiv, q_bop_mod, q_bop_pow, q_bop_add_str, q_bop_add_tup, q_bop_add_lst, q_cop_eq, q_cop_ne, q_cop_lt_i, q_cop_lt_b, q_cop_lt_s, q_cop_gt_i, q_cop_gt_s, q_cop_le_i, q_cop_ge_i, q_cop_in, q_cop_nin, q_cop_is_n, q_cop_is_b, q_cop_isn_n, q_mem_tup, q_mem_lst, q_mem_1, q_len_str, q_len_tup, q_len_lst, q_bi_abs, q_bi_max, q_bi_min, q_bi_all, q_bi_any, q_bi_sum, q_bi_int_i, q_bi_int_b, q_bi_str_i, q_bi_list_t, q_bi_list_l, q_bi_sum_t, q_bi_max1_l, q_bi_max1_t, q_bi_min1_l, q_bi_min1_t, q_rev_t, q_rev_l, q_rev_s, q_lrev_t, q_bi_tuple_t, q_bi_tuple_l, q_it_tup, q_it_lst, q_it_str, q_at_tup, q_at_lst, q_at_str, q_cut_tup, q_cut_lst, q_cut_str, q_setv, q_okSl_va, q_frSl_va, q_okSl_no, q_frSl_no, q_okSl_sl, q_frSl_sl, q_bn_nil, q_bn_cons, q_bt_n, q_bt_t, q_own_c, q_call_c, q_sp_nil, q_sp_d, q_sp_o, q_po_nil, q_po_cons, q_nd_nil, q_nd_1, q_eq_ii, q_eq_bb, q_eq_ss, q_eq_nn, q_eq_is, q_eq_si, q_eq_sn, q_eq_ns, q_eq_in, q_eq_ni, q_lc_nil, q_lc_cons, q_wipe_1, q_back_1, q_free_1, q_at0, q_at1, q_at2, q_at3, q_eq_l0, q_eq_t0, q_sl_s, q_fo_nil, runF, startE, finO, outsOf, inoutSlots, slotsFrom, lim, List.getElem?_cons_zero, List.getElem?_cons_succ, List.set_cons_zero, List.set_cons_succ, Option.map_some, List.length_cons, List.length_nil, List.replicate, List.getD_eq_getElem?_getD, Option.getD_some, Option.toList_some, Option.toList_none, List.nil_append, List.cons_append, List.append_nil, reduceCtorEq, if_true, if_false, ite_true, ite_false, m, hF, e', he', -q_cop_eq, -q_lc_cons, -q_lc_nil]
theorem F_names : f_names.F [] = .ok (.lst (libL.map fun r => .str r.1)) [] := by kernel_rfl
theorem com2 : ∀ r ∈ libL, r.1 ∈ u_COMMUTATIVE → r.2.1 = [r.2.1.headD 0, r.2.1.headD 0] := by decide +kernel
theorem lib_let : ∀ r ∈ libL, r.1 ≠ [] ∧ r.1.length ≤ 20 ∧ r.2.1.headD 0 ∈ letters := by decide +kernel
theorem law_split : b_law = b_law.take 3 ++ ((b_law.drop 3).take 3 ++ ((b_law.drop 6).take 1 ++ ((b_law.drop 7).take 2 ++ ((b_law.drop 9).take 4 ++ ((b_law.drop 13).take 1 ++ ((b_law.drop 14).take 1 ++ b_law.drop 15)))))) := rfl
theorem law_true (ns : List Int) (hl : ns.length ≤ 63) : f_law.F [.lst (ns.map .int)] = .ok (.bl true) [] := by
  obtain ⟨c0, h0⟩ := F_cell ns 0 (by omega)
  obtain ⟨c1, h1⟩ := F_cell ns 1 (by omega)
  obtain ⟨c2, h2⟩ := F_cell ns 2 (by omega)
  have z := fm (aI c0) (many := 57) (by omega)
  obtain ⟨rd, hrd, ha⟩ := at_ex (xs := libL.map rowD) (k := (aI c0).fmod 57) z.1 (by show (aI c0).fmod 57 < 57; omega)
  obtain ⟨r, hr, rfl⟩ := List.mem_map.mp hrd
  obtain ⟨l0, l1, l2⟩ := lib_let r hr
  have hs := sig_of r hr
  have s1 : exSs 1000000 (b_law.take 3) _ = _ := e_s1 (f := f__law_cell) (g := f__law_library) rfl h0 rfl F_library ha
  have s4 : exSs 1000000 ((b_law.drop 3).take 3) _ = _ := e_s4 (f := f_is_commutative) (ns := ns) (a := aI c0) (lb := .lst (libL.map rowD)) (x := .str r.2.1) (y := .str [r.2.2]) (s := r.1) rfl rfl (F_comm hs)
  have s7 : ∃ oa ob, exSs 1000000 ((b_law.drop 6).take 1) (eEn ns (aI c0) (.lst (libL.map rowD)) (rowD r) (some (.lst (u_COMMUTATIVE.map .str))) (some (.bl (decide (r.1 ∈ u_COMMUTATIVE)))) none none none none none none) = .nx (eEn ns (aI c0) (.lst (libL.map rowD)) (rowD r) (some (.lst (u_COMMUTATIVE.map .str))) (some (.bl (decide (r.1 ∈ u_COMMUTATIVE)))) none none none none oa ob) := by
    by_cases hc : r.1 ∈ u_COMMUTATIVE
    · have e2 := com2 r hr hc
      obtain ⟨v1, q1, q2⟩ := F_value l2 (c := aI c1)
      obtain ⟨v2, q3, q4⟩ := F_value l2 (c := aI c2)
      have g1 := com_call hr hc e2 q2 q4
      have g2 := com_call hr hc e2 q4 q2
      rw [comR_comm] at g2
      have hi : cop .isIn (.str r.1) (.lst (u_COMMUTATIVE.map .str)) = some true := by
        have := in_strs r.1 u_COMMUTATIVE
        rw [decide_eq_true hc] at this
        exact this
      have he := eq_refl' (d := if isVal (kL_ r.2.2) (comR r.1 v1 v2) = true then comR r.1 v1 v2 else .non) (Nat.le_trans comR_dep (by decide))
      have er : rowD r = .lst [.str r.1, .str [r.2.1.headD 0, r.2.1.headD 0], .str [r.2.2]] := by
        rw [← e2]
        rfl
      refine ⟨some v1, some v2, ?_⟩
      rw [er]
      exact e_s7y (f := f__law_cell) (g := f_apply) (v := f__law_value) hi rfl h1 h2 rfl q1 q3 rfl g1 g2 he
    · exact ⟨none, none, e_s7n hc⟩
  obtain ⟨oa, ob, s7⟩ := s7
  have hlen : 0 < r.1.length := List.length_pos_iff.mpr l0
  have s8a : exSs 1000000 ((b_law.drop 7).take 2) _ = _ := e_s8a (ns := ns) (a := aI c0) (lb := .lst (libL.map rowD)) (x := .str r.2.1) (y := .str [r.2.2]) (s := r.1) (o4 := some (.lst (u_COMMUTATIVE.map .str))) (o5 := some (.bl (decide (r.1 ∈ u_COMMUTATIVE)))) (oa := oa) (ob := ob) (by omega)
  have zl := fm ((aI c0).fdiv 57) (many := (r.1.length : Int)) (by omega)
  obtain ⟨c, _, hc⟩ := at_ex (xs := r.1) zl.1 zl.2
  have b1 : ∀ i : Int, (cutL r.1 none (some i)).length ≤ 20 := fun i => Nat.le_trans cut_lenG l1
  have b2 : ∀ i : Int, (cutL r.1 (some i) none).length ≤ 20 := fun i => Nat.le_trans cut_lenG l1
  have z5 := fm ((aI c0).fdiv 4000) (many := 5) (by omega)
  obtain ⟨wd, hw, ew⟩ := at_ex (xs := [D.str [105, 110, 112, 117, 116], .str [99, 111, 110, 115, 116, 97, 110, 116], .str [], .str [99, 104, 111, 111, 115, 101], .str [32, 97, 100, 100]]) z5.1 (by show ((aI c0).fdiv 4000).fmod 5 < 5; omega)
  obtain ⟨wt, rfl⟩ : ∃ t, wd = .str t := by
    simp only [List.mem_cons, List.not_mem_nil, or_false] at hw
    rcases hw with rfl | rfl | rfl | rfl | rfl <;> exact ⟨_, rfl⟩
  have q1 := b1 (((aI c0).fdiv 57).fmod (r.1.length : Int))
  have q2 := b2 (((aI c0).fdiv 57).fmod (r.1.length : Int))
  have q3 := b2 (((aI c0).fdiv 57).fmod (r.1.length : Int) + 1)
  obtain ⟨w, s8b⟩ := e_s8b (ns := ns) (a := aI c0) (wy := ((aI c0).fdiv 1000).fmod 4) (lb := .lst (libL.map rowD)) (x := .str r.2.1) (y := .str [r.2.2]) (s := r.1) (o4 := some (.lst (u_COMMUTATIVE.map .str))) (o5 := some (.bl (decide (r.1 ∈ u_COMMUTATIVE)))) (oa := oa) (ob := ob) rfl rfl rfl hc (by omega) (by omega) (by omega) (by omega) ew
  have s8b : exSs 1000000 ((b_law.drop 9).take 4) _ = _ := s8b
  have hin : cop .isIn (.str w) (.lst (libL.map fun r => .str r.1)) = some (decide (w ∈ libL.map (·.1))) := by
    have := in_strs w (libL.map (·.1))
    rw [List.map_map] at this
    exact this
  have s14 : exSs 1000000 ((b_law.drop 13).take 1) _ = _ := e_s14 (names_lc (ns := ns) (a := aI c0) (lb := .lst (libL.map rowD)) (rw := rowD r) (e := e_law_1) (o4 := some (.lst (u_COMMUTATIVE.map .str))) (o5 := some (.bl (decide (r.1 ∈ u_COMMUTATIVE)))) (o6 := some (.int (((aI c0).fdiv 57).fmod (r.1.length : Int)))) (o7 := some (.int (((aI c0).fdiv 1000).fmod 4))) (o8 := some (.str w)) (o9 := none) (oa := oa) (ob := ob) rfl) hin
  simp only [f_law]
  refine (run_eq (ρ := [.val (.lst (ns.map .int)), .no, .no, .no, .no, .no, .no, .no, .no, .no, .no, .no, .no]) (by simp only [startE, List.replicate])).trans ?_
  have er : ∀ {ss : List S}, exSs 1000000 ss (eEn ns (aI c0) (.lst (libL.map rowD)) (.lst [.str r.1, .str r.2.1, .str [r.2.2]]) (some (.lst (u_COMMUTATIVE.map .str))) (some (.bl (decide (r.1 ∈ u_COMMUTATIVE)))) none none none none none none) = exSs 1000000 ss (eEn ns (aI c0) (.lst (libL.map rowD)) (rowD r) (some (.lst (u_COMMUTATIVE.map .str))) (some (.bl (decide (r.1 ∈ u_COMMUTATIVE)))) none none none none none none) := rfl
  rw [law_split, q_xs_app, s1, q_seq_nx, q_xs_app]
  have s4' : exSs 1000000 ((b_law.drop 3).take 3) (eEn ns (aI c0) (.lst (libL.map rowD)) (rowD r) none none none none none none none none) = _ := s4
  rw [s4', q_seq_nx, q_xs_app, er, s7, q_seq_nx, q_xs_app]
  have s8a' : exSs 1000000 ((b_law.drop 7).take 2) (eEn ns (aI c0) (.lst (libL.map rowD)) (rowD r) (some (.lst (u_COMMUTATIVE.map .str))) (some (.bl (decide (r.1 ∈ u_COMMUTATIVE)))) none none none none oa ob) = _ := s8a
  rw [s8a', q_seq_nx, q_xs_app, s8b, q_seq_nx, q_xs_app]
  have s14' : exSs 1000000 ((b_law.drop 13).take 1) (eEn ns (aI c0) (.lst (libL.map rowD)) (.lst [.str r.1, .str r.2.1, .str [r.2.2]]) (some (.lst (u_COMMUTATIVE.map .str))) (some (.bl (decide (r.1 ∈ u_COMMUTATIVE)))) (some (.int (((aI c0).fdiv 57).fmod (r.1.length : Int)))) (some (.int (((aI c0).fdiv 1000).fmod 4))) (some (.str w)) none oa ob) = _ := s14
  rw [s14']
  by_cases hk : w ∈ libL.map (·.1)
  · rw [decide_eq_true hk, if_pos rfl]
    rfl
  · rw [decide_eq_false hk, if_neg (by decide), q_seq_nx, q_xs_app]
    have hno := no_sig hk
    obtain ⟨o9, lp⟩ := e_loop (ns := ns) (a := aI c0) (lb := .lst (libL.map rowD)) (rw := rowD r) (o4 := some (.lst (u_COMMUTATIVE.map .str))) (o5 := some (.bl (decide (r.1 ∈ u_COMMUTATIVE)))) (o6 := some (.int (((aI c0).fdiv 57).fmod (r.1.length : Int)))) (o7 := some (.int (((aI c0).fdiv 1000).fmod 4))) (oa := oa) (ob := ob) hno [0, 1, 2, 3] none
    have e4 : rng 0 4 = [0, 1, 2, 3].map D.int := by kernel_rfl
    rw [← e4] at lp
    have s15 : exSs 1000000 ((b_law.drop 14).take 1) _ = _ := e_s15 lp
    rw [s15, q_seq_nx, q_seq_nx]
    have hd : dep (.lst (libL.map fun r => D.str r.1)) ≤ 60 := by decide +kernel
    exact e_s16 (f := f_names) (v := .non) rfl F_names (names_lc (e := e_law_3) rfl) (eq_refl' hd)
end K05
end

section
set_option Elab.async false
set_option linter.all false
set_option maxRecDepth 100000
set_option maxHeartbeats 0
namespace K05
open PySem L2 Mini
abbrev Prg_ : Program := PySem.Challenge.pw_leastfit_k05_unknown_and_commutative_com
def top (i : Nat) : Stmt := Prg_.main.body.getD i (.Pass ⟨0, 0, 0, 0⟩)
abbrev s_distinct : Stmt := top 4
theorem c_distinct : chkSs true N_distinct (defScope s_distinct) 1 b_distinct (defBody s_distinct) = true := by decide +kernel
theorem t_distinct : scopeB N_distinct ["numbers"] (defScope s_distinct) = true := by decide +kernel
abbrev s_product : Stmt := top 5
theorem c_product : chkSs true N_product (defScope s_product) 1 b_product (defBody s_product) = true := by decide +kernel
theorem t_product : scopeB N_product ["numbers"] (defScope s_product) = true := by decide +kernel
abbrev s_running : Stmt := top 6
theorem c_running : chkSs true N_running (defScope s_running) 1 b_running (defBody s_running) = true := by decide +kernel
theorem t_running : scopeB N_running ["numbers"] (defScope s_running) = true := by decide +kernel
abbrev s_extreme : Stmt := top 7
theorem c_extreme : chkSs true N_extreme (defScope s_extreme) 2 b_extreme (defBody s_extreme) = true := by decide +kernel
theorem t_extreme : scopeB N_extreme ["name", "numbers"] (defScope s_extreme) = true := by decide +kernel
abbrev s_rest : Stmt := top 8
theorem c_rest : chkSs true N_rest (defScope s_rest) 1 b_rest (defBody s_rest) = true := by decide +kernel
theorem t_rest : scopeB N_rest ["numbers"] (defScope s_rest) = true := by decide +kernel
abbrev s_item : Stmt := top 9
theorem c_item : chkSs true N_item (defScope s_item) 2 b_item (defBody s_item) = true := by decide +kernel
theorem t_item : scopeB N_item ["numbers", "index"] (defScope s_item) = true := by decide +kernel
abbrev s_apply_to_list : Stmt := top 10
theorem c_apply_to_list : chkSs true N_apply_to_list (defScope s_apply_to_list) 2 b_apply_to_list (defBody s_apply_to_list) = true := by decide +kernel
theorem t_apply_to_list : scopeB N_apply_to_list ["name", "numbers"] (defScope s_apply_to_list) = true := by decide +kernel
abbrev s_apply_to_list_and_number : Stmt := top 11
theorem c_apply_to_list_and_number : chkSs true N_apply_to_list_and_number (defScope s_apply_to_list_and_number) 3 b_apply_to_list_and_number (defBody s_apply_to_list_and_number) = true := by decide +kernel
theorem t_apply_to_list_and_number : scopeB N_apply_to_list_and_number ["name", "numbers", "number"] (defScope s_apply_to_list_and_number) = true := by decide +kernel
abbrev s_apply_to_lists : Stmt := top 12
theorem c_apply_to_lists : chkSs true N_apply_to_lists (defScope s_apply_to_lists) 3 b_apply_to_lists (defBody s_apply_to_lists) = true := by decide +kernel
theorem t_apply_to_lists : scopeB N_apply_to_lists ["name", "first", "second"] (defScope s_apply_to_lists) = true := by decide +kernel
abbrev s_floor_quotient : Stmt := top 14
theorem c_floor_quotient : chkSs true N_floor_quotient (defScope s_floor_quotient) 2 b_floor_quotient (defBody s_floor_quotient) = true := by decide +kernel
theorem t_floor_quotient : scopeB N_floor_quotient ["first", "second"] (defScope s_floor_quotient) = true := by decide +kernel
abbrev s_remainder : Stmt := top 15
theorem c_remainder : chkSs true N_remainder (defScope s_remainder) 2 b_remainder (defBody s_remainder) = true := by decide +kernel
theorem t_remainder : scopeB N_remainder ["first", "second"] (defScope s_remainder) = true := by decide +kernel
abbrev s_digits_of : Stmt := top 16
theorem c_digits_of : chkSs true N_digits_of (defScope s_digits_of) 1 b_digits_of (defBody s_digits_of) = true := by decide +kernel
theorem t_digits_of : scopeB N_digits_of ["number"] (defScope s_digits_of) = true := by decide +kernel
abbrev s_numbers_up_to : Stmt := top 17
theorem c_numbers_up_to : chkSs true N_numbers_up_to (defScope s_numbers_up_to) 1 b_numbers_up_to (defBody s_numbers_up_to) = true := by decide +kernel
theorem t_numbers_up_to : scopeB N_numbers_up_to ["number"] (defScope s_numbers_up_to) = true := by decide +kernel
abbrev s_apply_to_number : Stmt := top 18
theorem c_apply_to_number : chkSs true N_apply_to_number (defScope s_apply_to_number) 2 b_apply_to_number (defBody s_apply_to_number) = true := by decide +kernel
theorem t_apply_to_number : scopeB N_apply_to_number ["name", "number"] (defScope s_apply_to_number) = true := by decide +kernel
abbrev s_apply_to_numbers : Stmt := top 19
theorem c_apply_to_numbers : chkSs true N_apply_to_numbers (defScope s_apply_to_numbers) 3 b_apply_to_numbers (defBody s_apply_to_numbers) = true := by decide +kernel
theorem t_apply_to_numbers : scopeB N_apply_to_numbers ["name", "first", "second"] (defScope s_apply_to_numbers) = true := by decide +kernel
abbrev s_apply_to_truths : Stmt := top 20
theorem c_apply_to_truths : chkSs true N_apply_to_truths (defScope s_apply_to_truths) 2 b_apply_to_truths (defBody s_apply_to_truths) = true := by decide +kernel
theorem t_apply_to_truths : scopeB N_apply_to_truths ["name", "given"] (defScope s_apply_to_truths) = true := by decide +kernel
abbrev s_is_number : Stmt := top 27
theorem c_is_number : chkSs true N_is_number (defScope s_is_number) 1 b_is_number (defBody s_is_number) = true := by decide +kernel
theorem t_is_number : scopeB N_is_number ["value"] (defScope s_is_number) = true := by decide +kernel
abbrev s_is_text : Stmt := top 28
theorem c_is_text : chkSs true N_is_text (defScope s_is_text) 1 b_is_text (defBody s_is_text) = true := by decide +kernel
theorem t_is_text : scopeB N_is_text ["value"] (defScope s_is_text) = true := by decide +kernel
abbrev s_is_list : Stmt := top 29
theorem c_is_list : chkSs true N_is_list (defScope s_is_list) 1 b_is_list (defBody s_is_list) = true := by decide +kernel
theorem t_is_list : scopeB N_is_list ["value"] (defScope s_is_list) = true := by decide +kernel
abbrev s_is_value : Stmt := top 30
theorem c_is_value : chkSs true N_is_value (defScope s_is_value) 2 b_is_value (defBody s_is_value) = true := by decide +kernel
theorem t_is_value : scopeB N_is_value ["kind", "value"] (defScope s_is_value) = true := by decide +kernel
abbrev s_copies : Stmt := top 32
theorem c_copies : chkSs true N_copies (defScope s_copies) 2 b_copies (defBody s_copies) = true := by decide +kernel
theorem t_copies : scopeB N_copies ["text", "count"] (defScope s_copies) = true := by decide +kernel
abbrev s_number_of : Stmt := top 33
theorem c_number_of : chkSs true N_number_of (defScope s_number_of) 1 b_number_of (defBody s_number_of) = true := by decide +kernel
theorem t_number_of : scopeB N_number_of ["text"] (defScope s_number_of) = true := by decide +kernel
abbrev s_apply_to_text : Stmt := top 34
theorem c_apply_to_text : chkSs true N_apply_to_text (defScope s_apply_to_text) 2 b_apply_to_text (defBody s_apply_to_text) = true := by decide +kernel
theorem t_apply_to_text : scopeB N_apply_to_text ["name", "text"] (defScope s_apply_to_text) = true := by decide +kernel
abbrev s_apply_to_text_and_number : Stmt := top 35
theorem c_apply_to_text_and_number : chkSs true N_apply_to_text_and_number (defScope s_apply_to_text_and_number) 3 b_apply_to_text_and_number (defBody s_apply_to_text_and_number) = true := by decide +kernel
theorem t_apply_to_text_and_number : scopeB N_apply_to_text_and_number ["name", "text", "number"] (defScope s_apply_to_text_and_number) = true := by decide +kernel
abbrev s_apply_to_texts : Stmt := top 36
theorem c_apply_to_texts : chkSs true N_apply_to_texts (defScope s_apply_to_texts) 3 b_apply_to_texts (defBody s_apply_to_texts) = true := by decide +kernel
theorem t_apply_to_texts : scopeB N_apply_to_texts ["name", "first", "second"] (defScope s_apply_to_texts) = true := by decide +kernel
abbrev s_names : Stmt := top 40
theorem c_names : chkSs true N_names (defScope s_names) 0 b_names (defBody s_names) = true := by decide +kernel
theorem t_names : scopeB N_names [] (defScope s_names) = true := by decide +kernel
abbrev s_signature : Stmt := top 41
theorem c_signature : chkSs true N_signature (defScope s_signature) 1 b_signature (defBody s_signature) = true := by decide +kernel
theorem t_signature : scopeB N_signature ["name"] (defScope s_signature) = true := by decide +kernel
abbrev s_argument_kinds : Stmt := top 42
theorem c_argument_kinds : chkSs true N_argument_kinds (defScope s_argument_kinds) 1 b_argument_kinds (defBody s_argument_kinds) = true := by decide +kernel
theorem t_argument_kinds : scopeB N_argument_kinds ["name"] (defScope s_argument_kinds) = true := by decide +kernel
abbrev s_result_kind : Stmt := top 43
theorem c_result_kind : chkSs true N_result_kind (defScope s_result_kind) 1 b_result_kind (defBody s_result_kind) = true := by decide +kernel
theorem t_result_kind : scopeB N_result_kind ["name"] (defScope s_result_kind) = true := by decide +kernel
abbrev s_is_commutative : Stmt := top 44
theorem c_is_commutative : chkSs true N_is_commutative (defScope s_is_commutative) 1 b_is_commutative (defBody s_is_commutative) = true := by decide +kernel
theorem t_is_commutative : scopeB N_is_commutative ["name"] (defScope s_is_commutative) = true := by decide +kernel
abbrev s_choose : Stmt := top 45
theorem c_choose : chkSs true N_choose (defScope s_choose) 1 b_choose (defBody s_choose) = true := by decide +kernel
theorem t_choose : scopeB N_choose ["given"] (defScope s_choose) = true := by decide +kernel
abbrev s_described : Stmt := top 46
theorem c_described : chkSs true N_described (defScope s_described) 3 b_described (defBody s_described) = true := by decide +kernel
theorem t_described : scopeB N_described ["name", "kinds", "given"] (defScope s_described) = true := by decide +kernel
abbrev s_apply : Stmt := top 47
theorem c_apply : chkSs true N_apply (defScope s_apply) 2 b_apply (defBody s_apply) = true := by decide +kernel
theorem t_apply : scopeB N_apply ["name", "outcomes"] (defScope s_apply) = true := by decide +kernel
abbrev s__law_cell : Stmt := top 49
theorem c__law_cell : chkSs true N__law_cell (defScope s__law_cell) 2 b__law_cell (defBody s__law_cell) = true := by decide +kernel
theorem t__law_cell : scopeB N__law_cell ["_law_script", "_law_k"] (defScope s__law_cell) = true := by decide +kernel
abbrev s__law_draws : Stmt := top 50
theorem c__law_draws : chkSs true N__law_draws (defScope s__law_draws) 3 b__law_draws (defBody s__law_draws) = true := by decide +kernel
theorem t__law_draws : scopeB N__law_draws ["_law_cell_here", "_law_many", "_law_limit"] (defScope s__law_draws) = true := by decide +kernel
abbrev s__law_library : Stmt := top 51
theorem c__law_library : chkSs true N__law_library (defScope s__law_library) 0 b__law_library (defBody s__law_library) = true := by decide +kernel
theorem t__law_library : scopeB N__law_library [] (defScope s__law_library) = true := by decide +kernel
abbrev s__law_kind : Stmt := top 52
theorem c__law_kind : chkSs true N__law_kind (defScope s__law_kind) 1 b__law_kind (defBody s__law_kind) = true := by decide +kernel
theorem t__law_kind : scopeB N__law_kind ["_law_letter"] (defScope s__law_kind) = true := by decide +kernel
abbrev s__law_number : Stmt := top 53
theorem c__law_number : chkSs true N__law_number (defScope s__law_number) 1 b__law_number (defBody s__law_number) = true := by decide +kernel
theorem t__law_number : scopeB N__law_number ["_law_cell_here"] (defScope s__law_number) = true := by decide +kernel
abbrev s__law_value : Stmt := top 54
theorem c__law_value : chkSs true N__law_value (defScope s__law_value) 2 b__law_value (defBody s__law_value) = true := by decide +kernel
theorem t__law_value : scopeB N__law_value ["_law_letter", "_law_cell_here"] (defScope s__law_value) = true := by decide +kernel
abbrev s__law_asked : Stmt := top 55
theorem c__law_asked : chkSs true N__law_asked (defScope s__law_asked) 2 b__law_asked (defBody s__law_asked) = true := by decide +kernel
theorem t__law_asked : scopeB N__law_asked ["_law_which", "_law_name"] (defScope s__law_asked) = true := by decide +kernel
abbrev s_law : Stmt := top 56
theorem c_law : chkSs true N_law (defScope s_law) 1 b_law (defBody s_law) = true := by decide +kernel
theorem t_law : scopeB N_law ["_law_script"] (defScope s_law) = true := by decide +kernel

def fn : List He.DefD := ([⟨("distinct", none), "distinct", "distinct", defArgs s_distinct, defBody s_distinct, defScope s_distinct, [], []⟩, ⟨("product", none), "product", "product", defArgs s_product, defBody s_product, defScope s_product, [], []⟩, ⟨("running", none), "running", "running", defArgs s_running, defBody s_running, defScope s_running, [], []⟩, ⟨("extreme", none), "extreme", "extreme", defArgs s_extreme, defBody s_extreme, defScope s_extreme, [], []⟩, ⟨("rest", none), "rest", "rest", defArgs s_rest, defBody s_rest, defScope s_rest, [], []⟩, ⟨("item", none), "item", "item", defArgs s_item, defBody s_item, defScope s_item, [], []⟩, ⟨("apply_to_list", none), "apply_to_list", "apply_to_list", defArgs s_apply_to_list, defBody s_apply_to_list, defScope s_apply_to_list, [], []⟩, ⟨("apply_to_list_and_number", none), "apply_to_list_and_number", "apply_to_list_and_number", defArgs s_apply_to_list_and_number, defBody s_apply_to_list_and_number, defScope s_apply_to_list_and_number, [], []⟩, ⟨("apply_to_lists", none), "apply_to_lists", "apply_to_lists", defArgs s_apply_to_lists, defBody s_apply_to_lists, defScope s_apply_to_lists, [], []⟩, ⟨("floor_quotient", none), "floor_quotient", "floor_quotient", defArgs s_floor_quotient, defBody s_floor_quotient, defScope s_floor_quotient, [], []⟩, ⟨("remainder", none), "remainder", "remainder", defArgs s_remainder, defBody s_remainder, defScope s_remainder, [], []⟩, ⟨("digits_of", none), "digits_of", "digits_of", defArgs s_digits_of, defBody s_digits_of, defScope s_digits_of, [], []⟩, ⟨("numbers_up_to", none), "numbers_up_to", "numbers_up_to", defArgs s_numbers_up_to, defBody s_numbers_up_to, defScope s_numbers_up_to, [], []⟩, ⟨("apply_to_number", none), "apply_to_number", "apply_to_number", defArgs s_apply_to_number, defBody s_apply_to_number, defScope s_apply_to_number, [], []⟩, ⟨("apply_to_numbers", none), "apply_to_numbers", "apply_to_numbers", defArgs s_apply_to_numbers, defBody s_apply_to_numbers, defScope s_apply_to_numbers, [], []⟩, ⟨("apply_to_truths", none), "apply_to_truths", "apply_to_truths", defArgs s_apply_to_truths, defBody s_apply_to_truths, defScope s_apply_to_truths, [], []⟩, ⟨("is_number", none), "is_number", "is_number", defArgs s_is_number, defBody s_is_number, defScope s_is_number, [], []⟩, ⟨("is_text", none), "is_text", "is_text", defArgs s_is_text, defBody s_is_text, defScope s_is_text, [], []⟩, ⟨("is_list", none), "is_list", "is_list", defArgs s_is_list, defBody s_is_list, defScope s_is_list, [], []⟩, ⟨("is_value", none), "is_value", "is_value", defArgs s_is_value, defBody s_is_value, defScope s_is_value, [], []⟩, ⟨("copies", none), "copies", "copies", defArgs s_copies, defBody s_copies, defScope s_copies, [], []⟩, ⟨("number_of", none), "number_of", "number_of", defArgs s_number_of, defBody s_number_of, defScope s_number_of, [], []⟩, ⟨("apply_to_text", none), "apply_to_text", "apply_to_text", defArgs s_apply_to_text, defBody s_apply_to_text, defScope s_apply_to_text, [], []⟩, ⟨("apply_to_text_and_number", none), "apply_to_text_and_number", "apply_to_text_and_number", defArgs s_apply_to_text_and_number, defBody s_apply_to_text_and_number, defScope s_apply_to_text_and_number, [], []⟩, ⟨("apply_to_texts", none), "apply_to_texts", "apply_to_texts", defArgs s_apply_to_texts, defBody s_apply_to_texts, defScope s_apply_to_texts, [], []⟩, ⟨("names", none), "names", "names", defArgs s_names, defBody s_names, defScope s_names, [], []⟩, ⟨("signature", none), "signature", "signature", defArgs s_signature, defBody s_signature, defScope s_signature, [], []⟩, ⟨("argument_kinds", none), "argument_kinds", "argument_kinds", defArgs s_argument_kinds, defBody s_argument_kinds, defScope s_argument_kinds, [], []⟩, ⟨("result_kind", none), "result_kind", "result_kind", defArgs s_result_kind, defBody s_result_kind, defScope s_result_kind, [], []⟩, ⟨("is_commutative", none), "is_commutative", "is_commutative", defArgs s_is_commutative, defBody s_is_commutative, defScope s_is_commutative, [], []⟩] : List He.DefD) ++ ([⟨("choose", none), "choose", "choose", defArgs s_choose, defBody s_choose, defScope s_choose, [], []⟩, ⟨("described", none), "described", "described", defArgs s_described, defBody s_described, defScope s_described, [], []⟩, ⟨("apply", none), "apply", "apply", defArgs s_apply, defBody s_apply, defScope s_apply, [], []⟩, ⟨("_law_cell", none), "_law_cell", "_law_cell", defArgs s__law_cell, defBody s__law_cell, defScope s__law_cell, [], []⟩, ⟨("_law_draws", none), "_law_draws", "_law_draws", defArgs s__law_draws, defBody s__law_draws, defScope s__law_draws, [], []⟩, ⟨("_law_library", none), "_law_library", "_law_library", defArgs s__law_library, defBody s__law_library, defScope s__law_library, [], []⟩, ⟨("_law_kind", none), "_law_kind", "_law_kind", defArgs s__law_kind, defBody s__law_kind, defScope s__law_kind, [], []⟩, ⟨("_law_number", none), "_law_number", "_law_number", defArgs s__law_number, defBody s__law_number, defScope s__law_number, [], []⟩, ⟨("_law_value", none), "_law_value", "_law_value", defArgs s__law_value, defBody s__law_value, defScope s__law_value, [], []⟩, ⟨("_law_asked", none), "_law_asked", "_law_asked", defArgs s__law_asked, defBody s__law_asked, defScope s__law_asked, [], []⟩, ⟨("law", none), "law", "law", defArgs s_law, defBody s_law, defScope s_law, [], []⟩] : List He.DefD)
def cs : List (Str × D) := ([("NUMBER_LIMIT", g_NUMBER_LIMIT), ("TEXT_LIMIT", g_TEXT_LIMIT), ("LIST_LIMIT", g_LIST_LIMIT), ("TEXT_CHARACTERS", g_TEXT_CHARACTERS), ("DIGITS", g_DIGITS), ("COMMUTATIVE", g_COMMUTATIVE)] : List (Str × D))
def fa : List He.Fa := (([.glo "distinct", .glo "product", .glo "running", .glo "extreme", .glo "rest", .glo "item", .glo "apply_to_list", .glo "apply_to_list_and_number", .glo "apply_to_lists", .glo "floor_quotient", .glo "remainder", .glo "digits_of", .glo "numbers_up_to", .glo "apply_to_number", .glo "apply_to_numbers", .glo "apply_to_truths", .glo "is_number", .glo "is_text", .glo "is_list", .glo "is_value", .glo "copies", .glo "number_of", .glo "apply_to_text", .glo "apply_to_text_and_number", .glo "apply_to_texts", .glo "names", .glo "signature", .glo "argument_kinds", .glo "result_kind", .glo "is_commutative"] : List He.Fa) ++ ([.glo "choose", .glo "described", .glo "apply", .glo "_law_cell", .glo "_law_draws", .glo "_law_library", .glo "_law_kind", .glo "_law_number", .glo "_law_value", .glo "_law_asked", .glo "law", .glo "SIGNATURES"] : List He.Fa)) ++ freeNames.map .free
def ts : List (Str × List (List Nat × D)) := [("SIGNATURES", t_SIGNATURES)]
def sx_NotFound : Stmt := match top 2 with
  | .ClassDef _ _ _ b _ _ _ _ _ _ _ => b.getD 0 (.Pass ⟨0, 0, 0, 0⟩)
  | s => s
def x_NotFound : XD := ⟨"NotFound", "name", "self", "name", "NotFound.__init__", defArgs sx_NotFound, defBody sx_NotFound, defScope sx_NotFound⟩
theorem xs_NotFound : x_NotFound.syn = true := by decide +kernel
theorem xb_NotFound : x_NotFound.Bnd := fun _ _ _ _ _ _ _ us hl => match us, hl with | [_, _], _ => rfl
def xs : List XD := [x_NotFound]
def cat : List (Str × List Nat) := [("NotFound", [0])]
def isi : List (Nat × Str × Bool) := [(0, "LeastError", true)]
def exB (K : PySem.W.Frag) : Bool := extraB cs ts K && excsB Prg_.main.file xs cat isi K
theorem noSuper : (Prg_.main.scope.names.lookup ("super" : Str)).isSome = false := by decide +kernel
abbrev Rw : PySem.W.OpenRow := PySem.W.OpenLaw.row PySem.Challenge.rw_leastfit_k05_unknown_and_commutative_com
abbrev hk : PySem.W.Hook := hookM 4 fa fn (tabsOf ts) exB xs
def ob (s : PySem.W.SharedT) : AlM := obsM 4 fa fn (tabsOf ts) exB xs (HandSHeadRun.getT s)
theorem ob_eq (s : PySem.W.SharedT) : ob s = hk.obs s.abs := obsM_eq (HandSHeadRun.getT_eq s)
def loose : List Str := (["LeastError", "NotFound", "distinct", "product", "running", "extreme", "rest", "item", "apply_to_list", "apply_to_list_and_number", "apply_to_lists", "floor_quotient", "remainder", "digits_of", "numbers_up_to", "apply_to_number", "apply_to_numbers", "apply_to_truths", "NUMBER_LIMIT", "TEXT_LIMIT", "LIST_LIMIT", "TEXT_CHARACTERS", "DIGITS", "is_number", "is_text", "is_list", "is_value", "copies", "number_of", "apply_to_text"] : List Str) ++ (["apply_to_text_and_number", "apply_to_texts", "SIGNATURES", "COMMUTATIVE", "names", "signature", "argument_kinds", "result_kind", "is_commutative", "choose", "described", "apply", "_law_cell", "_law_draws", "_law_library", "_law_kind", "_law_number", "_law_value", "_law_asked"] : List Str)
theorem runF (w : World) : HandSHeadRun.RunEq Rw (PySem.W.view Rw.prog [56]) hk ob 20000 loose (w.withFollow "special-get-raises" false) := by
  intro os
  kernel_rfl
theorem runT (w : World) : HandSHeadRun.RunEq Rw (PySem.W.view Rw.prog [56]) hk ob 20000 loose (w.withFollow "special-get-raises" true) := by
  intro os
  kernel_rfl
theorem run (w : World) : HandSHeadRun.RunEq Rw (PySem.W.view Rw.prog [56]) hk ob 20000 loose w := PySem.W.byRow2 "special-get-raises" (P := fun w => HandSHeadRun.RunEq Rw (PySem.W.view Rw.prog [56]) hk ob 20000 loose w) runF runT w

theorem facts {w : World} {K : PySem.W.Frag} {h : Heap} {mg : Str → Option Value} {f : Addr} (X : K.In h) (G : h.Ns mainGlobals mg) (hfa : mg ("law" : Str) = some (.ref f)) (c : SaysM fa fn (tabsOf ts) exB xs w h K) :
    ∃ fd : FuncData, (∀ (s : Shared) (v : Value), BindsTo s fd ⟨[v], []⟩ [("_law_script", v)]) ∧ ∀ base : Heap, FnOk Prg_ w K mg base (L2.CX Prg_ w) 200 f fd ["_law_script"] (spM (gM K xs) K f_law) := by
  obtain ⟨cm1, cm2⟩ := and3 c.more
  obtain ⟨cx1, cx2⟩ := and3 cm2
  obtain ⟨cx2, cx3⟩ := and3 cx2
  have fre : ∀ y ∈ freeNames, mg y = none := free_of X G c.t.d fun y hy => List.mem_append_right _ (List.mem_map_of_mem hy)
  have k_NUMBER_LIMIT : ∀ A base, GlobOk ⟨Prg_, w, K, mg, base, A⟩ "NUMBER_LIMIT" g_NUMBER_LIMIT := fun A base => glob_of X G (and3 cm1).1 (by simp [cs])
  have k_TEXT_LIMIT : ∀ A base, GlobOk ⟨Prg_, w, K, mg, base, A⟩ "TEXT_LIMIT" g_TEXT_LIMIT := fun A base => glob_of X G (and3 cm1).1 (by simp [cs])
  have k_LIST_LIMIT : ∀ A base, GlobOk ⟨Prg_, w, K, mg, base, A⟩ "LIST_LIMIT" g_LIST_LIMIT := fun A base => glob_of X G (and3 cm1).1 (by simp [cs])
  have k_TEXT_CHARACTERS : ∀ A base, GlobOk ⟨Prg_, w, K, mg, base, A⟩ "TEXT_CHARACTERS" g_TEXT_CHARACTERS := fun A base => glob_of X G (and3 cm1).1 (by simp [cs])
  have k_DIGITS : ∀ A base, GlobOk ⟨Prg_, w, K, mg, base, A⟩ "DIGITS" g_DIGITS := fun A base => glob_of X G (and3 cm1).1 (by simp [cs])
  have k_COMMUTATIVE : ∀ A base, GlobOk ⟨Prg_, w, K, mg, base, A⟩ "COMMUTATIVE" g_COMMUTATIVE := fun A base => glob_of X G (and3 cm1).1 (by simp [cs])
  have ks_SIGNATURES : ∀ A base, TksOk ⟨Prg_, w, K, mg, base, A⟩ "SIGNATURES" y_SIGNATURES := fun A base => tks_of X G (c.t.d.fact 41 (f := .glo "SIGNATURES") rfl) (c.t.tab 0 (t := (fun K => He.ga K "SIGNATURES", t_SIGNATURES.map fun p => sOf p.1)) rfl) (List.all_eq_true.mp (and3 cm1).2 ("SIGNATURES", t_SIGNATURES) (by simp [ts])) (by decide +kernel)
  have k_SIGNATURES : ∀ A base, TabOk ⟨Prg_, w, K, mg, base, A⟩ "SIGNATURES" t_SIGNATURES := fun A base => tab_of X G (c.t.d.fact 41 (f := .glo "SIGNATURES") rfl) (c.t.tab 0 (t := (fun K => He.ga K "SIGNATURES", t_SIGNATURES.map fun p => sOf p.1)) rfl) (List.all_eq_true.mp (and3 cm1).2 ("SIGNATURES", t_SIGNATURES) (by simp [ts]))
  have ok_NotFound := List.all_eq_true.mp cx1 x_NotFound (List.mem_of_getElem? (i := 0) rfl)
  have R_NotFound : ∀ A base, Room 2 A → RaiseOk (gM K xs) ⟨Prg_, w, K, mg, base, A⟩ 0 "NotFound" := fun A base r => raise_ok X G (xs := xs) (i := 0) (d := x_NotFound) rfl (c.xs 0 _ rfl) ok_NotFound xs_NotFound xb_NotFound (fre _ (by decide +kernel)) noSuper r
  have X_NotFound := xd_init (P := Prg_) (w := w) X G (c.xs 0 _ rfl) ok_NotFound xs_NotFound xb_NotFound (fre _ (by decide +kernel)) noSuper
  have T_NotFound := cat_ok X G (List.all_eq_true.mp cx2 ("NotFound", [0]) (List.mem_of_getElem? (i := 0) rfl))
  have xcl : ∀ i, i < xs.length → XCl K ((gM K xs).xc i) := fun i hi => match i, hi with
    | 0, _ => X_NotFound.2.2.1
  have I_0_LeastError : ∀ base A, XIs ⟨Prg_, w, K, mg, base, A⟩ ((gM K xs).xc 0) "LeastError" true := fun base A => isi_ok X G (fre _ (by decide +kernel)) xcl (List.all_eq_true.mp cx3 (0, "LeastError", true) (List.mem_of_getElem? (i := 0) rfl))
  obtain ⟨fd_distinct, F_distinct⟩ := c.t.d.def_ 0 (d := ⟨("distinct", none), "distinct", "distinct", defArgs s_distinct, defBody s_distinct, defScope s_distinct, [], []⟩) rfl
  have O_distinct : ∀ base, FnOk Prg_ w K mg base (L2.CX Prg_ w) 1 _ fd_distinct ["numbers"] (spM (gM K xs) K f_distinct) := fun base => fn_ok (g := gM K xs) F_distinct (scope_ok t_distinct) rfl c_distinct fre fun A r => by
    simp only [b_distinct, l_distinct_1, okSts, okSt, okE, okEs, okSrc, and_true, true_and, implies_true]
    try ((repeat' (first | with_reducible refine And.intro ?_ ?_ | with_reducible intro _)) <;> (first | trivial))
  have C_distinct : ∀ A base, Room 1 A → CallOk (gM K xs) ⟨Prg_, w, K, mg, base, A⟩ f_distinct := fun A base r => ⟨_, fd_distinct, _, 1, O_distinct base, r, He.glo_ok X G (c.t.d.fact 0 (f := .glo "distinct") rfl), F_distinct.kp, FunD.bindsN F_distinct fun _ _ _ _ _ _ us hl => match us, hl with | [_], _ => rfl⟩
  obtain ⟨fd_product, F_product⟩ := c.t.d.def_ 1 (d := ⟨("product", none), "product", "product", defArgs s_product, defBody s_product, defScope s_product, [], []⟩) rfl
  have O_product : ∀ base, FnOk Prg_ w K mg base (L2.CX Prg_ w) 1 _ fd_product ["numbers"] (spM (gM K xs) K f_product) := fun base => fn_ok (g := gM K xs) F_product (scope_ok t_product) rfl c_product fre fun A r => by
    simp only [b_product, l_product_1, okSts, okSt, okE, okEs, okSrc, and_true, true_and, implies_true]
    try ((repeat' (first | with_reducible refine And.intro ?_ ?_ | with_reducible intro _)) <;> (first | trivial))
  have C_product : ∀ A base, Room 1 A → CallOk (gM K xs) ⟨Prg_, w, K, mg, base, A⟩ f_product := fun A base r => ⟨_, fd_product, _, 1, O_product base, r, He.glo_ok X G (c.t.d.fact 1 (f := .glo "product") rfl), F_product.kp, FunD.bindsN F_product fun _ _ _ _ _ _ us hl => match us, hl with | [_], _ => rfl⟩
  obtain ⟨fd_running, F_running⟩ := c.t.d.def_ 2 (d := ⟨("running", none), "running", "running", defArgs s_running, defBody s_running, defScope s_running, [], []⟩) rfl
  have O_running : ∀ base, FnOk Prg_ w K mg base (L2.CX Prg_ w) 1 _ fd_running ["numbers"] (spM (gM K xs) K f_running) := fun base => fn_ok (g := gM K xs) F_running (scope_ok t_running) rfl c_running fre fun A r => by
    simp only [b_running, l_running_1, okSts, okSt, okE, okEs, okSrc, and_true, true_and, implies_true]
    try ((repeat' (first | with_reducible refine And.intro ?_ ?_ | with_reducible intro _)) <;> (first | trivial))
  have C_running : ∀ A base, Room 1 A → CallOk (gM K xs) ⟨Prg_, w, K, mg, base, A⟩ f_running := fun A base r => ⟨_, fd_running, _, 1, O_running base, r, He.glo_ok X G (c.t.d.fact 2 (f := .glo "running") rfl), F_running.kp, FunD.bindsN F_running fun _ _ _ _ _ _ us hl => match us, hl with | [_], _ => rfl⟩
  obtain ⟨fd_extreme, F_extreme⟩ := c.t.d.def_ 3 (d := ⟨("extreme", none), "extreme", "extreme", defArgs s_extreme, defBody s_extreme, defScope s_extreme, [], []⟩) rfl
  have O_extreme : ∀ base, FnOk Prg_ w K mg base (L2.CX Prg_ w) 1 _ fd_extreme ["name", "numbers"] (spM (gM K xs) K f_extreme) := fun base => fn_ok (g := gM K xs) F_extreme (scope_ok t_extreme) rfl c_extreme fre fun A r => by
    simp only [b_extreme, okSts, okSt, okE, okEs, okSrc, and_true, true_and, implies_true]
    try ((repeat' (first | with_reducible refine And.intro ?_ ?_ | with_reducible intro _)) <;> (first | trivial))
  have C_extreme : ∀ A base, Room 1 A → CallOk (gM K xs) ⟨Prg_, w, K, mg, base, A⟩ f_extreme := fun A base r => ⟨_, fd_extreme, _, 1, O_extreme base, r, He.glo_ok X G (c.t.d.fact 3 (f := .glo "extreme") rfl), F_extreme.kp, FunD.bindsN F_extreme fun _ _ _ _ _ _ us hl => match us, hl with | [_, _], _ => rfl⟩
  obtain ⟨fd_rest, F_rest⟩ := c.t.d.def_ 4 (d := ⟨("rest", none), "rest", "rest", defArgs s_rest, defBody s_rest, defScope s_rest, [], []⟩) rfl
  have O_rest : ∀ base, FnOk Prg_ w K mg base (L2.CX Prg_ w) 1 _ fd_rest ["numbers"] (spM (gM K xs) K f_rest) := fun base => fn_ok (g := gM K xs) F_rest (scope_ok t_rest) rfl c_rest fre fun A r => by
    simp only [b_rest, okSts, okSt, okE, okEs, okSrc, and_true, true_and, implies_true]
    try ((repeat' (first | with_reducible refine And.intro ?_ ?_ | with_reducible intro _)) <;> (first | trivial))
  have C_rest : ∀ A base, Room 1 A → CallOk (gM K xs) ⟨Prg_, w, K, mg, base, A⟩ f_rest := fun A base r => ⟨_, fd_rest, _, 1, O_rest base, r, He.glo_ok X G (c.t.d.fact 4 (f := .glo "rest") rfl), F_rest.kp, FunD.bindsN F_rest fun _ _ _ _ _ _ us hl => match us, hl with | [_], _ => rfl⟩
  obtain ⟨fd_item, F_item⟩ := c.t.d.def_ 5 (d := ⟨("item", none), "item", "item", defArgs s_item, defBody s_item, defScope s_item, [], []⟩) rfl
  have O_item : ∀ base, FnOk Prg_ w K mg base (L2.CX Prg_ w) 1 _ fd_item ["numbers", "index"] (spM (gM K xs) K f_item) := fun base => fn_ok (g := gM K xs) F_item (scope_ok t_item) rfl c_item fre fun A r => by
    simp only [b_item, okSts, okSt, okE, okEs, okSrc, and_true, true_and, implies_true]
    try ((repeat' (first | with_reducible refine And.intro ?_ ?_ | with_reducible intro _)) <;> (first | trivial))
  have C_item : ∀ A base, Room 1 A → CallOk (gM K xs) ⟨Prg_, w, K, mg, base, A⟩ f_item := fun A base r => ⟨_, fd_item, _, 1, O_item base, r, He.glo_ok X G (c.t.d.fact 5 (f := .glo "item") rfl), F_item.kp, FunD.bindsN F_item fun _ _ _ _ _ _ us hl => match us, hl with | [_, _], _ => rfl⟩
  obtain ⟨fd_apply_to_list, F_apply_to_list⟩ := c.t.d.def_ 6 (d := ⟨("apply_to_list", none), "apply_to_list", "apply_to_list", defArgs s_apply_to_list, defBody s_apply_to_list, defScope s_apply_to_list, [], []⟩) rfl
  have O_apply_to_list : ∀ base, FnOk Prg_ w K mg base (L2.CX Prg_ w) 2 _ fd_apply_to_list ["name", "numbers"] (spM (gM K xs) K f_apply_to_list) := fun base => fn_ok (g := gM K xs) F_apply_to_list (scope_ok t_apply_to_list) rfl c_apply_to_list fre fun A r => by
    simp only [b_apply_to_list, e_apply_to_list_1, e_apply_to_list_2, okSts, okSt, okE, okEs, okSrc, and_true, true_and, implies_true]
    try ((repeat' (first | with_reducible refine And.intro ?_ ?_ | with_reducible intro _)) <;> (first | trivial | exact C_extreme _ _ (r.mono (by decide)) | exact C_distinct _ _ (r.mono (by decide)) | exact C_product _ _ (r.mono (by decide)) | exact C_rest _ _ (r.mono (by decide)) | exact C_running _ _ (r.mono (by decide))))
  have C_apply_to_list : ∀ A base, Room 2 A → CallOk (gM K xs) ⟨Prg_, w, K, mg, base, A⟩ f_apply_to_list := fun A base r => ⟨_, fd_apply_to_list, _, 2, O_apply_to_list base, r, He.glo_ok X G (c.t.d.fact 6 (f := .glo "apply_to_list") rfl), F_apply_to_list.kp, FunD.bindsN F_apply_to_list fun _ _ _ _ _ _ us hl => match us, hl with | [_, _], _ => rfl⟩
  obtain ⟨fd_apply_to_list_and_number, F_apply_to_list_and_number⟩ := c.t.d.def_ 7 (d := ⟨("apply_to_list_and_number", none), "apply_to_list_and_number", "apply_to_list_and_number", defArgs s_apply_to_list_and_number, defBody s_apply_to_list_and_number, defScope s_apply_to_list_and_number, [], []⟩) rfl
  have O_apply_to_list_and_number : ∀ base, FnOk Prg_ w K mg base (L2.CX Prg_ w) 2 _ fd_apply_to_list_and_number ["name", "numbers", "number"] (spM (gM K xs) K f_apply_to_list_and_number) := fun base => fn_ok (g := gM K xs) F_apply_to_list_and_number (scope_ok t_apply_to_list_and_number) rfl c_apply_to_list_and_number fre fun A r => by
    simp only [b_apply_to_list_and_number, e_apply_to_list_and_number_1, e_apply_to_list_and_number_2, e_apply_to_list_and_number_3, e_apply_to_list_and_number_4, e_apply_to_list_and_number_5, okSts, okSt, okE, okEs, okSrc, and_true, true_and, implies_true]
    try ((repeat' (first | with_reducible refine And.intro ?_ ?_ | with_reducible intro _)) <;> (first | trivial | exact C_item _ _ (r.mono (by decide))))
  have C_apply_to_list_and_number : ∀ A base, Room 2 A → CallOk (gM K xs) ⟨Prg_, w, K, mg, base, A⟩ f_apply_to_list_and_number := fun A base r => ⟨_, fd_apply_to_list_and_number, _, 2, O_apply_to_list_and_number base, r, He.glo_ok X G (c.t.d.fact 7 (f := .glo "apply_to_list_and_number") rfl), F_apply_to_list_and_number.kp, FunD.bindsN F_apply_to_list_and_number fun _ _ _ _ _ _ us hl => match us, hl with | [_, _, _], _ => rfl⟩
  obtain ⟨fd_apply_to_lists, F_apply_to_lists⟩ := c.t.d.def_ 8 (d := ⟨("apply_to_lists", none), "apply_to_lists", "apply_to_lists", defArgs s_apply_to_lists, defBody s_apply_to_lists, defScope s_apply_to_lists, [], []⟩) rfl
  have O_apply_to_lists : ∀ base, FnOk Prg_ w K mg base (L2.CX Prg_ w) 1 _ fd_apply_to_lists ["name", "first", "second"] (spM (gM K xs) K f_apply_to_lists) := fun base => fn_ok (g := gM K xs) F_apply_to_lists (scope_ok t_apply_to_lists) rfl c_apply_to_lists fre fun A r => by
    simp only [b_apply_to_lists, e_apply_to_lists_1, okSts, okSt, okE, okEs, okSrc, and_true, true_and, implies_true]
    try ((repeat' (first | with_reducible refine And.intro ?_ ?_ | with_reducible intro _)) <;> (first | trivial))
  have C_apply_to_lists : ∀ A base, Room 1 A → CallOk (gM K xs) ⟨Prg_, w, K, mg, base, A⟩ f_apply_to_lists := fun A base r => ⟨_, fd_apply_to_lists, _, 1, O_apply_to_lists base, r, He.glo_ok X G (c.t.d.fact 8 (f := .glo "apply_to_lists") rfl), F_apply_to_lists.kp, FunD.bindsN F_apply_to_lists fun _ _ _ _ _ _ us hl => match us, hl with | [_, _, _], _ => rfl⟩
  obtain ⟨fd_floor_quotient, F_floor_quotient⟩ := c.t.d.def_ 9 (d := ⟨("floor_quotient", none), "floor_quotient", "floor_quotient", defArgs s_floor_quotient, defBody s_floor_quotient, defScope s_floor_quotient, [], []⟩) rfl
  have O_floor_quotient : ∀ base, FnOk Prg_ w K mg base (L2.CX Prg_ w) 1 _ fd_floor_quotient ["first", "second"] (spM (gM K xs) K f_floor_quotient) := fun base => fn_ok (g := gM K xs) F_floor_quotient (scope_ok t_floor_quotient) rfl c_floor_quotient fre fun A r => by
    simp only [b_floor_quotient, okSts, okSt, okE, okEs, okSrc, and_true, true_and, implies_true]
    try ((repeat' (first | with_reducible refine And.intro ?_ ?_ | with_reducible intro _)) <;> (first | trivial))
  have C_floor_quotient : ∀ A base, Room 1 A → CallOk (gM K xs) ⟨Prg_, w, K, mg, base, A⟩ f_floor_quotient := fun A base r => ⟨_, fd_floor_quotient, _, 1, O_floor_quotient base, r, He.glo_ok X G (c.t.d.fact 9 (f := .glo "floor_quotient") rfl), F_floor_quotient.kp, FunD.bindsN F_floor_quotient fun _ _ _ _ _ _ us hl => match us, hl with | [_, _], _ => rfl⟩
  obtain ⟨fd_remainder, F_remainder⟩ := c.t.d.def_ 10 (d := ⟨("remainder", none), "remainder", "remainder", defArgs s_remainder, defBody s_remainder, defScope s_remainder, [], []⟩) rfl
  have O_remainder : ∀ base, FnOk Prg_ w K mg base (L2.CX Prg_ w) 1 _ fd_remainder ["first", "second"] (spM (gM K xs) K f_remainder) := fun base => fn_ok (g := gM K xs) F_remainder (scope_ok t_remainder) rfl c_remainder fre fun A r => by
    simp only [b_remainder, okSts, okSt, okE, okEs, okSrc, and_true, true_and, implies_true]
    try ((repeat' (first | with_reducible refine And.intro ?_ ?_ | with_reducible intro _)) <;> (first | trivial))
  have C_remainder : ∀ A base, Room 1 A → CallOk (gM K xs) ⟨Prg_, w, K, mg, base, A⟩ f_remainder := fun A base r => ⟨_, fd_remainder, _, 1, O_remainder base, r, He.glo_ok X G (c.t.d.fact 10 (f := .glo "remainder") rfl), F_remainder.kp, FunD.bindsN F_remainder fun _ _ _ _ _ _ us hl => match us, hl with | [_, _], _ => rfl⟩
  obtain ⟨fd_digits_of, F_digits_of⟩ := c.t.d.def_ 11 (d := ⟨("digits_of", none), "digits_of", "digits_of", defArgs s_digits_of, defBody s_digits_of, defScope s_digits_of, [], []⟩) rfl
  have O_digits_of : ∀ base, FnOk Prg_ w K mg base (L2.CX Prg_ w) 1 _ fd_digits_of ["number"] (spM (gM K xs) K f_digits_of) := fun base => fn_ok (g := gM K xs) F_digits_of (scope_ok t_digits_of) rfl c_digits_of fre fun A r => by
    simp only [b_digits_of, okSts, okSt, okE, okEs, okSrc, and_true, true_and, implies_true]
    try ((repeat' (first | with_reducible refine And.intro ?_ ?_ | with_reducible intro _)) <;> (first | trivial))
  have C_digits_of : ∀ A base, Room 1 A → CallOk (gM K xs) ⟨Prg_, w, K, mg, base, A⟩ f_digits_of := fun A base r => ⟨_, fd_digits_of, _, 1, O_digits_of base, r, He.glo_ok X G (c.t.d.fact 11 (f := .glo "digits_of") rfl), F_digits_of.kp, FunD.bindsN F_digits_of fun _ _ _ _ _ _ us hl => match us, hl with | [_], _ => rfl⟩
  obtain ⟨fd_numbers_up_to, F_numbers_up_to⟩ := c.t.d.def_ 12 (d := ⟨("numbers_up_to", none), "numbers_up_to", "numbers_up_to", defArgs s_numbers_up_to, defBody s_numbers_up_to, defScope s_numbers_up_to, [], []⟩) rfl
  have O_numbers_up_to : ∀ base, FnOk Prg_ w K mg base (L2.CX Prg_ w) 1 _ fd_numbers_up_to ["number"] (spM (gM K xs) K f_numbers_up_to) := fun base => fn_ok (g := gM K xs) F_numbers_up_to (scope_ok t_numbers_up_to) rfl c_numbers_up_to fre fun A r => by
    simp only [b_numbers_up_to, e_numbers_up_to_1, okSts, okSt, okE, okEs, okSrc, and_true, true_and, implies_true]
    try ((repeat' (first | with_reducible refine And.intro ?_ ?_ | with_reducible intro _)) <;> (first | trivial))
  have C_numbers_up_to : ∀ A base, Room 1 A → CallOk (gM K xs) ⟨Prg_, w, K, mg, base, A⟩ f_numbers_up_to := fun A base r => ⟨_, fd_numbers_up_to, _, 1, O_numbers_up_to base, r, He.glo_ok X G (c.t.d.fact 12 (f := .glo "numbers_up_to") rfl), F_numbers_up_to.kp, FunD.bindsN F_numbers_up_to fun _ _ _ _ _ _ us hl => match us, hl with | [_], _ => rfl⟩
  obtain ⟨fd_apply_to_number, F_apply_to_number⟩ := c.t.d.def_ 13 (d := ⟨("apply_to_number", none), "apply_to_number", "apply_to_number", defArgs s_apply_to_number, defBody s_apply_to_number, defScope s_apply_to_number, [], []⟩) rfl
  have O_apply_to_number : ∀ base, FnOk Prg_ w K mg base (L2.CX Prg_ w) 2 _ fd_apply_to_number ["name", "number"] (spM (gM K xs) K f_apply_to_number) := fun base => fn_ok (g := gM K xs) F_apply_to_number (scope_ok t_apply_to_number) rfl c_apply_to_number fre fun A r => by
    simp only [b_apply_to_number, okSts, okSt, okE, okEs, okSrc, and_true, true_and, implies_true]
    try ((repeat' (first | with_reducible refine And.intro ?_ ?_ | with_reducible intro _)) <;> (first | trivial | exact C_numbers_up_to _ _ (r.mono (by decide)) | exact C_digits_of _ _ (r.mono (by decide))))
  have C_apply_to_number : ∀ A base, Room 2 A → CallOk (gM K xs) ⟨Prg_, w, K, mg, base, A⟩ f_apply_to_number := fun A base r => ⟨_, fd_apply_to_number, _, 2, O_apply_to_number base, r, He.glo_ok X G (c.t.d.fact 13 (f := .glo "apply_to_number") rfl), F_apply_to_number.kp, FunD.bindsN F_apply_to_number fun _ _ _ _ _ _ us hl => match us, hl with | [_, _], _ => rfl⟩
  obtain ⟨fd_apply_to_numbers, F_apply_to_numbers⟩ := c.t.d.def_ 14 (d := ⟨("apply_to_numbers", none), "apply_to_numbers", "apply_to_numbers", defArgs s_apply_to_numbers, defBody s_apply_to_numbers, defScope s_apply_to_numbers, [], []⟩) rfl
  have O_apply_to_numbers : ∀ base, FnOk Prg_ w K mg base (L2.CX Prg_ w) 2 _ fd_apply_to_numbers ["name", "first", "second"] (spM (gM K xs) K f_apply_to_numbers) := fun base => fn_ok (g := gM K xs) F_apply_to_numbers (scope_ok t_apply_to_numbers) rfl c_apply_to_numbers fre fun A r => by
    simp only [b_apply_to_numbers, okSts, okSt, okE, okEs, okSrc, and_true, true_and, implies_true]
    try ((repeat' (first | with_reducible refine And.intro ?_ ?_ | with_reducible intro _)) <;> (first | trivial | exact C_floor_quotient _ _ (r.mono (by decide)) | exact C_remainder _ _ (r.mono (by decide))))
  have C_apply_to_numbers : ∀ A base, Room 2 A → CallOk (gM K xs) ⟨Prg_, w, K, mg, base, A⟩ f_apply_to_numbers := fun A base r => ⟨_, fd_apply_to_numbers, _, 2, O_apply_to_numbers base, r, He.glo_ok X G (c.t.d.fact 14 (f := .glo "apply_to_numbers") rfl), F_apply_to_numbers.kp, FunD.bindsN F_apply_to_numbers fun _ _ _ _ _ _ us hl => match us, hl with | [_, _, _], _ => rfl⟩
  obtain ⟨fd_apply_to_truths, F_apply_to_truths⟩ := c.t.d.def_ 15 (d := ⟨("apply_to_truths", none), "apply_to_truths", "apply_to_truths", defArgs s_apply_to_truths, defBody s_apply_to_truths, defScope s_apply_to_truths, [], []⟩) rfl
  have O_apply_to_truths : ∀ base, FnOk Prg_ w K mg base (L2.CX Prg_ w) 1 _ fd_apply_to_truths ["name", "given"] (spM (gM K xs) K f_apply_to_truths) := fun base => fn_ok (g := gM K xs) F_apply_to_truths (scope_ok t_apply_to_truths) rfl c_apply_to_truths fre fun A r => by
    simp only [b_apply_to_truths, okSts, okSt, okE, okEs, okSrc, and_true, true_and, implies_true]
    try ((repeat' (first | with_reducible refine And.intro ?_ ?_ | with_reducible intro _)) <;> (first | trivial))
  have C_apply_to_truths : ∀ A base, Room 1 A → CallOk (gM K xs) ⟨Prg_, w, K, mg, base, A⟩ f_apply_to_truths := fun A base r => ⟨_, fd_apply_to_truths, _, 1, O_apply_to_truths base, r, He.glo_ok X G (c.t.d.fact 15 (f := .glo "apply_to_truths") rfl), F_apply_to_truths.kp, FunD.bindsN F_apply_to_truths fun _ _ _ _ _ _ us hl => match us, hl with | [_, _], _ => rfl⟩
  obtain ⟨fd_is_number, F_is_number⟩ := c.t.d.def_ 16 (d := ⟨("is_number", none), "is_number", "is_number", defArgs s_is_number, defBody s_is_number, defScope s_is_number, [], []⟩) rfl
  have O_is_number : ∀ base, FnOk Prg_ w K mg base (L2.CX Prg_ w) 1 _ fd_is_number ["value"] (spM (gM K xs) K f_is_number) := fun base => fn_ok (g := gM K xs) F_is_number (scope_ok t_is_number) rfl c_is_number fre fun A r => by
    simp only [b_is_number, okSts, okSt, okE, okEs, okSrc, and_true, true_and, implies_true]
    try ((repeat' (first | with_reducible refine And.intro ?_ ?_ | with_reducible intro _)) <;> (first | trivial | exact k_NUMBER_LIMIT _ _))
  have C_is_number : ∀ A base, Room 1 A → CallOk (gM K xs) ⟨Prg_, w, K, mg, base, A⟩ f_is_number := fun A base r => ⟨_, fd_is_number, _, 1, O_is_number base, r, He.glo_ok X G (c.t.d.fact 16 (f := .glo "is_number") rfl), F_is_number.kp, FunD.bindsN F_is_number fun _ _ _ _ _ _ us hl => match us, hl with | [_], _ => rfl⟩
  obtain ⟨fd_is_text, F_is_text⟩ := c.t.d.def_ 17 (d := ⟨("is_text", none), "is_text", "is_text", defArgs s_is_text, defBody s_is_text, defScope s_is_text, [], []⟩) rfl
  have O_is_text : ∀ base, FnOk Prg_ w K mg base (L2.CX Prg_ w) 1 _ fd_is_text ["value"] (spM (gM K xs) K f_is_text) := fun base => fn_ok (g := gM K xs) F_is_text (scope_ok t_is_text) rfl c_is_text fre fun A r => by
    simp only [b_is_text, e_is_text_1, okSts, okSt, okE, okEs, okSrc, and_true, true_and, implies_true]
    try ((repeat' (first | with_reducible refine And.intro ?_ ?_ | with_reducible intro _)) <;> (first | trivial | exact k_TEXT_LIMIT _ _ | exact k_TEXT_CHARACTERS _ _))
  have C_is_text : ∀ A base, Room 1 A → CallOk (gM K xs) ⟨Prg_, w, K, mg, base, A⟩ f_is_text := fun A base r => ⟨_, fd_is_text, _, 1, O_is_text base, r, He.glo_ok X G (c.t.d.fact 17 (f := .glo "is_text") rfl), F_is_text.kp, FunD.bindsN F_is_text fun _ _ _ _ _ _ us hl => match us, hl with | [_], _ => rfl⟩
  obtain ⟨fd_is_list, F_is_list⟩ := c.t.d.def_ 18 (d := ⟨("is_list", none), "is_list", "is_list", defArgs s_is_list, defBody s_is_list, defScope s_is_list, [], []⟩) rfl
  have O_is_list : ∀ base, FnOk Prg_ w K mg base (L2.CX Prg_ w) 2 _ fd_is_list ["value"] (spM (gM K xs) K f_is_list) := fun base => fn_ok (g := gM K xs) F_is_list (scope_ok t_is_list) rfl c_is_list fre fun A r => by
    simp only [b_is_list, e_is_list_1, okSts, okSt, okE, okEs, okSrc, and_true, true_and, implies_true]
    try ((repeat' (first | with_reducible refine And.intro ?_ ?_ | with_reducible intro _)) <;> (first | trivial | exact k_LIST_LIMIT _ _ | exact C_is_number _ _ (r.mono (by decide))))
  have C_is_list : ∀ A base, Room 2 A → CallOk (gM K xs) ⟨Prg_, w, K, mg, base, A⟩ f_is_list := fun A base r => ⟨_, fd_is_list, _, 2, O_is_list base, r, He.glo_ok X G (c.t.d.fact 18 (f := .glo "is_list") rfl), F_is_list.kp, FunD.bindsN F_is_list fun _ _ _ _ _ _ us hl => match us, hl with | [_], _ => rfl⟩
  obtain ⟨fd_is_value, F_is_value⟩ := c.t.d.def_ 19 (d := ⟨("is_value", none), "is_value", "is_value", defArgs s_is_value, defBody s_is_value, defScope s_is_value, [], []⟩) rfl
  have O_is_value : ∀ base, FnOk Prg_ w K mg base (L2.CX Prg_ w) 3 _ fd_is_value ["kind", "value"] (spM (gM K xs) K f_is_value) := fun base => fn_ok (g := gM K xs) F_is_value (scope_ok t_is_value) rfl c_is_value fre fun A r => by
    simp only [b_is_value, okSts, okSt, okE, okEs, okSrc, and_true, true_and, implies_true]
    try ((repeat' (first | with_reducible refine And.intro ?_ ?_ | with_reducible intro _)) <;> (first | trivial | exact C_is_list _ _ (r.mono (by decide)) | exact C_is_number _ _ (r.mono (by decide)) | exact C_is_text _ _ (r.mono (by decide))))
  have C_is_value : ∀ A base, Room 3 A → CallOk (gM K xs) ⟨Prg_, w, K, mg, base, A⟩ f_is_value := fun A base r => ⟨_, fd_is_value, _, 3, O_is_value base, r, He.glo_ok X G (c.t.d.fact 19 (f := .glo "is_value") rfl), F_is_value.kp, FunD.bindsN F_is_value fun _ _ _ _ _ _ us hl => match us, hl with | [_, _], _ => rfl⟩
  obtain ⟨fd_copies, F_copies⟩ := c.t.d.def_ 20 (d := ⟨("copies", none), "copies", "copies", defArgs s_copies, defBody s_copies, defScope s_copies, [], []⟩) rfl
  have O_copies : ∀ base, FnOk Prg_ w K mg base (L2.CX Prg_ w) 1 _ fd_copies ["text", "count"] (spM (gM K xs) K f_copies) := fun base => fn_ok (g := gM K xs) F_copies (scope_ok t_copies) rfl c_copies fre fun A r => by
    simp only [b_copies, okSts, okSt, okE, okEs, okSrc, and_true, true_and, implies_true]
    try ((repeat' (first | with_reducible refine And.intro ?_ ?_ | with_reducible intro _)) <;> (first | trivial | exact k_TEXT_LIMIT _ _))
  have C_copies : ∀ A base, Room 1 A → CallOk (gM K xs) ⟨Prg_, w, K, mg, base, A⟩ f_copies := fun A base r => ⟨_, fd_copies, _, 1, O_copies base, r, He.glo_ok X G (c.t.d.fact 20 (f := .glo "copies") rfl), F_copies.kp, FunD.bindsN F_copies fun _ _ _ _ _ _ us hl => match us, hl with | [_, _], _ => rfl⟩
  obtain ⟨fd_number_of, F_number_of⟩ := c.t.d.def_ 21 (d := ⟨("number_of", none), "number_of", "number_of", defArgs s_number_of, defBody s_number_of, defScope s_number_of, [], []⟩) rfl
  have O_number_of : ∀ base, FnOk Prg_ w K mg base (L2.CX Prg_ w) 1 _ fd_number_of ["text"] (spM (gM K xs) K f_number_of) := fun base => fn_ok (g := gM K xs) F_number_of (scope_ok t_number_of) rfl c_number_of fre fun A r => by
    simp only [b_number_of, e_number_of_1, okSts, okSt, okE, okEs, okSrc, and_true, true_and, implies_true]
    try ((repeat' (first | with_reducible refine And.intro ?_ ?_ | with_reducible intro _)) <;> (first | trivial | exact k_DIGITS _ _))
  have C_number_of : ∀ A base, Room 1 A → CallOk (gM K xs) ⟨Prg_, w, K, mg, base, A⟩ f_number_of := fun A base r => ⟨_, fd_number_of, _, 1, O_number_of base, r, He.glo_ok X G (c.t.d.fact 21 (f := .glo "number_of") rfl), F_number_of.kp, FunD.bindsN F_number_of fun _ _ _ _ _ _ us hl => match us, hl with | [_], _ => rfl⟩
  obtain ⟨fd_apply_to_text, F_apply_to_text⟩ := c.t.d.def_ 22 (d := ⟨("apply_to_text", none), "apply_to_text", "apply_to_text", defArgs s_apply_to_text, defBody s_apply_to_text, defScope s_apply_to_text, [], []⟩) rfl
  have O_apply_to_text : ∀ base, FnOk Prg_ w K mg base (L2.CX Prg_ w) 2 _ fd_apply_to_text ["name", "text"] (spM (gM K xs) K f_apply_to_text) := fun base => fn_ok (g := gM K xs) F_apply_to_text (scope_ok t_apply_to_text) rfl c_apply_to_text fre fun A r => by
    simp only [b_apply_to_text, e_apply_to_text_1, e_apply_to_text_2, okSts, okSt, okE, okEs, okSrc, and_true, true_and, implies_true]
    try ((repeat' (first | with_reducible refine And.intro ?_ ?_ | with_reducible intro _)) <;> (first | trivial | exact C_number_of _ _ (r.mono (by decide))))
  have C_apply_to_text : ∀ A base, Room 2 A → CallOk (gM K xs) ⟨Prg_, w, K, mg, base, A⟩ f_apply_to_text := fun A base r => ⟨_, fd_apply_to_text, _, 2, O_apply_to_text base, r, He.glo_ok X G (c.t.d.fact 22 (f := .glo "apply_to_text") rfl), F_apply_to_text.kp, FunD.bindsN F_apply_to_text fun _ _ _ _ _ _ us hl => match us, hl with | [_, _], _ => rfl⟩
  obtain ⟨fd_apply_to_text_and_number, F_apply_to_text_and_number⟩ := c.t.d.def_ 23 (d := ⟨("apply_to_text_and_number", none), "apply_to_text_and_number", "apply_to_text_and_number", defArgs s_apply_to_text_and_number, defBody s_apply_to_text_and_number, defScope s_apply_to_text_and_number, [], []⟩) rfl
  have O_apply_to_text_and_number : ∀ base, FnOk Prg_ w K mg base (L2.CX Prg_ w) 2 _ fd_apply_to_text_and_number ["name", "text", "number"] (spM (gM K xs) K f_apply_to_text_and_number) := fun base => fn_ok (g := gM K xs) F_apply_to_text_and_number (scope_ok t_apply_to_text_and_number) rfl c_apply_to_text_and_number fre fun A r => by
    simp only [b_apply_to_text_and_number, okSts, okSt, okE, okEs, okSrc, and_true, true_and, implies_true]
    try ((repeat' (first | with_reducible refine And.intro ?_ ?_ | with_reducible intro _)) <;> (first | trivial | exact C_copies _ _ (r.mono (by decide))))
  have C_apply_to_text_and_number : ∀ A base, Room 2 A → CallOk (gM K xs) ⟨Prg_, w, K, mg, base, A⟩ f_apply_to_text_and_number := fun A base r => ⟨_, fd_apply_to_text_and_number, _, 2, O_apply_to_text_and_number base, r, He.glo_ok X G (c.t.d.fact 23 (f := .glo "apply_to_text_and_number") rfl), F_apply_to_text_and_number.kp, FunD.bindsN F_apply_to_text_and_number fun _ _ _ _ _ _ us hl => match us, hl with | [_, _, _], _ => rfl⟩
  obtain ⟨fd_apply_to_texts, F_apply_to_texts⟩ := c.t.d.def_ 24 (d := ⟨("apply_to_texts", none), "apply_to_texts", "apply_to_texts", defArgs s_apply_to_texts, defBody s_apply_to_texts, defScope s_apply_to_texts, [], []⟩) rfl
  have O_apply_to_texts : ∀ base, FnOk Prg_ w K mg base (L2.CX Prg_ w) 1 _ fd_apply_to_texts ["name", "first", "second"] (spM (gM K xs) K f_apply_to_texts) := fun base => fn_ok (g := gM K xs) F_apply_to_texts (scope_ok t_apply_to_texts) rfl c_apply_to_texts fre fun A r => by
    simp only [b_apply_to_texts, okSts, okSt, okE, okEs, okSrc, and_true, true_and, implies_true]
    try ((repeat' (first | with_reducible refine And.intro ?_ ?_ | with_reducible intro _)) <;> (first | trivial))
  have C_apply_to_texts : ∀ A base, Room 1 A → CallOk (gM K xs) ⟨Prg_, w, K, mg, base, A⟩ f_apply_to_texts := fun A base r => ⟨_, fd_apply_to_texts, _, 1, O_apply_to_texts base, r, He.glo_ok X G (c.t.d.fact 24 (f := .glo "apply_to_texts") rfl), F_apply_to_texts.kp, FunD.bindsN F_apply_to_texts fun _ _ _ _ _ _ us hl => match us, hl with | [_, _, _], _ => rfl⟩
  obtain ⟨fd_names, F_names⟩ := c.t.d.def_ 25 (d := ⟨("names", none), "names", "names", defArgs s_names, defBody s_names, defScope s_names, [], []⟩) rfl
  have O_names : ∀ base, FnOk Prg_ w K mg base (L2.CX Prg_ w) 1 _ fd_names [] (spM (gM K xs) K f_names) := fun base => fn_ok (g := gM K xs) F_names (scope_ok t_names) rfl c_names fre fun A r => by
    simp only [b_names, okSts, okSt, okE, okEs, okSrc, and_true, true_and, implies_true]
    try ((repeat' (first | with_reducible refine And.intro ?_ ?_ | with_reducible intro _)) <;> (first | trivial | exact k_SIGNATURES _ _ | exact ks_SIGNATURES _ _))
  have C_names : ∀ A base, Room 1 A → CallOk (gM K xs) ⟨Prg_, w, K, mg, base, A⟩ f_names := fun A base r => ⟨_, fd_names, _, 1, O_names base, r, He.glo_ok X G (c.t.d.fact 25 (f := .glo "names") rfl), F_names.kp, FunD.bindsN F_names fun _ _ _ _ _ _ us hl => match us, hl with | [], _ => rfl⟩
  obtain ⟨fd_signature, F_signature⟩ := c.t.d.def_ 26 (d := ⟨("signature", none), "signature", "signature", defArgs s_signature, defBody s_signature, defScope s_signature, [], []⟩) rfl
  have O_signature : ∀ base, FnOk Prg_ w K mg base (L2.CX Prg_ w) 3 _ fd_signature ["name"] (spM (gM K xs) K f_signature) := fun base => fn_ok (g := gM K xs) F_signature (scope_ok t_signature) rfl c_signature fre fun A r => by
    simp only [b_signature, okSts, okSt, okE, okEs, okSrc, and_true, true_and, implies_true]
    try ((repeat' (first | with_reducible refine And.intro ?_ ?_ | with_reducible intro _)) <;> (first | trivial | exact k_SIGNATURES _ _ | exact R_NotFound _ _ (r.mono (by decide))))
  have C_signature : ∀ A base, Room 3 A → CallOk (gM K xs) ⟨Prg_, w, K, mg, base, A⟩ f_signature := fun A base r => ⟨_, fd_signature, _, 3, O_signature base, r, He.glo_ok X G (c.t.d.fact 26 (f := .glo "signature") rfl), F_signature.kp, FunD.bindsN F_signature fun _ _ _ _ _ _ us hl => match us, hl with | [_], _ => rfl⟩
  obtain ⟨fd_argument_kinds, F_argument_kinds⟩ := c.t.d.def_ 27 (d := ⟨("argument_kinds", none), "argument_kinds", "argument_kinds", defArgs s_argument_kinds, defBody s_argument_kinds, defScope s_argument_kinds, [], []⟩) rfl
  have O_argument_kinds : ∀ base, FnOk Prg_ w K mg base (L2.CX Prg_ w) 4 _ fd_argument_kinds ["name"] (spM (gM K xs) K f_argument_kinds) := fun base => fn_ok (g := gM K xs) F_argument_kinds (scope_ok t_argument_kinds) rfl c_argument_kinds fre fun A r => by
    simp only [b_argument_kinds, okSts, okSt, okE, okEs, okSrc, and_true, true_and, implies_true]
    try ((repeat' (first | with_reducible refine And.intro ?_ ?_ | with_reducible intro _)) <;> (first | trivial | exact C_signature _ _ (r.mono (by decide))))
  have C_argument_kinds : ∀ A base, Room 4 A → CallOk (gM K xs) ⟨Prg_, w, K, mg, base, A⟩ f_argument_kinds := fun A base r => ⟨_, fd_argument_kinds, _, 4, O_argument_kinds base, r, He.glo_ok X G (c.t.d.fact 27 (f := .glo "argument_kinds") rfl), F_argument_kinds.kp, FunD.bindsN F_argument_kinds fun _ _ _ _ _ _ us hl => match us, hl with | [_], _ => rfl⟩
  obtain ⟨fd_result_kind, F_result_kind⟩ := c.t.d.def_ 28 (d := ⟨("result_kind", none), "result_kind", "result_kind", defArgs s_result_kind, defBody s_result_kind, defScope s_result_kind, [], []⟩) rfl
  have O_result_kind : ∀ base, FnOk Prg_ w K mg base (L2.CX Prg_ w) 4 _ fd_result_kind ["name"] (spM (gM K xs) K f_result_kind) := fun base => fn_ok (g := gM K xs) F_result_kind (scope_ok t_result_kind) rfl c_result_kind fre fun A r => by
    simp only [b_result_kind, okSts, okSt, okE, okEs, okSrc, and_true, true_and, implies_true]
    try ((repeat' (first | with_reducible refine And.intro ?_ ?_ | with_reducible intro _)) <;> (first | trivial | exact C_signature _ _ (r.mono (by decide))))
  have C_result_kind : ∀ A base, Room 4 A → CallOk (gM K xs) ⟨Prg_, w, K, mg, base, A⟩ f_result_kind := fun A base r => ⟨_, fd_result_kind, _, 4, O_result_kind base, r, He.glo_ok X G (c.t.d.fact 28 (f := .glo "result_kind") rfl), F_result_kind.kp, FunD.bindsN F_result_kind fun _ _ _ _ _ _ us hl => match us, hl with | [_], _ => rfl⟩
  obtain ⟨fd_is_commutative, F_is_commutative⟩ := c.t.d.def_ 29 (d := ⟨("is_commutative", none), "is_commutative", "is_commutative", defArgs s_is_commutative, defBody s_is_commutative, defScope s_is_commutative, [], []⟩) rfl
  have O_is_commutative : ∀ base, FnOk Prg_ w K mg base (L2.CX Prg_ w) 4 _ fd_is_commutative ["name"] (spM (gM K xs) K f_is_commutative) := fun base => fn_ok (g := gM K xs) F_is_commutative (scope_ok t_is_commutative) rfl c_is_commutative fre fun A r => by
    simp only [b_is_commutative, okSts, okSt, okE, okEs, okSrc, and_true, true_and, implies_true]
    try ((repeat' (first | with_reducible refine And.intro ?_ ?_ | with_reducible intro _)) <;> (first | trivial | exact k_COMMUTATIVE _ _ | exact C_signature _ _ (r.mono (by decide))))
  have C_is_commutative : ∀ A base, Room 4 A → CallOk (gM K xs) ⟨Prg_, w, K, mg, base, A⟩ f_is_commutative := fun A base r => ⟨_, fd_is_commutative, _, 4, O_is_commutative base, r, He.glo_ok X G (c.t.d.fact 29 (f := .glo "is_commutative") rfl), F_is_commutative.kp, FunD.bindsN F_is_commutative fun _ _ _ _ _ _ us hl => match us, hl with | [_], _ => rfl⟩
  obtain ⟨fd_choose, F_choose⟩ := c.t.d.def_ 30 (d := ⟨("choose", none), "choose", "choose", defArgs s_choose, defBody s_choose, defScope s_choose, [], []⟩) rfl
  have O_choose : ∀ base, FnOk Prg_ w K mg base (L2.CX Prg_ w) 1 _ fd_choose ["given"] (spM (gM K xs) K f_choose) := fun base => fn_ok (g := gM K xs) F_choose (scope_ok t_choose) rfl c_choose fre fun A r => by
    simp only [b_choose, okSts, okSt, okE, okEs, okSrc, and_true, true_and, implies_true]
    try ((repeat' (first | with_reducible refine And.intro ?_ ?_ | with_reducible intro _)) <;> (first | trivial))
  have C_choose : ∀ A base, Room 1 A → CallOk (gM K xs) ⟨Prg_, w, K, mg, base, A⟩ f_choose := fun A base r => ⟨_, fd_choose, _, 1, O_choose base, r, He.glo_ok X G (c.t.d.fact 30 (f := .glo "choose") rfl), F_choose.kp, FunD.bindsN F_choose fun _ _ _ _ _ _ us hl => match us, hl with | [_], _ => rfl⟩
  obtain ⟨fd_described, F_described⟩ := c.t.d.def_ 31 (d := ⟨("described", none), "described", "described", defArgs s_described, defBody s_described, defScope s_described, [], []⟩) rfl
  have O_described : ∀ base, FnOk Prg_ w K mg base (L2.CX Prg_ w) 3 _ fd_described ["name", "kinds", "given"] (spM (gM K xs) K f_described) := fun base => fn_ok (g := gM K xs) F_described (scope_ok t_described) rfl c_described fre fun A r => by
    simp only [b_described, okSts, okSt, okE, okEs, okSrc, and_true, true_and, implies_true]
    try ((repeat' (first | with_reducible refine And.intro ?_ ?_ | with_reducible intro _)) <;> (first | trivial | exact C_apply_to_list_and_number _ _ (r.mono (by decide)) | exact C_apply_to_truths _ _ (r.mono (by decide)) | exact C_apply_to_list _ _ (r.mono (by decide)) | exact C_apply_to_numbers _ _ (r.mono (by decide)) | exact C_apply_to_texts _ _ (r.mono (by decide)) | exact C_apply_to_text_and_number _ _ (r.mono (by decide)) | exact C_apply_to_lists _ _ (r.mono (by decide)) | exact C_apply_to_number _ _ (r.mono (by decide)) | exact C_apply_to_text _ _ (r.mono (by decide))))
  have C_described : ∀ A base, Room 3 A → CallOk (gM K xs) ⟨Prg_, w, K, mg, base, A⟩ f_described := fun A base r => ⟨_, fd_described, _, 3, O_described base, r, He.glo_ok X G (c.t.d.fact 31 (f := .glo "described") rfl), F_described.kp, FunD.bindsN F_described fun _ _ _ _ _ _ us hl => match us, hl with | [_, _, _], _ => rfl⟩
  obtain ⟨fd_apply, F_apply⟩ := c.t.d.def_ 32 (d := ⟨("apply", none), "apply", "apply", defArgs s_apply, defBody s_apply, defScope s_apply, [], []⟩) rfl
  have O_apply : ∀ base, FnOk Prg_ w K mg base (L2.CX Prg_ w) 4 _ fd_apply ["name", "outcomes"] (spM (gM K xs) K f_apply) := fun base => fn_ok (g := gM K xs) F_apply (scope_ok t_apply) rfl c_apply fre fun A r => by
    simp only [b_apply, e_apply_1, okSts, okSt, okE, okEs, okSrc, and_true, true_and, implies_true]
    try ((repeat' (first | with_reducible refine And.intro ?_ ?_ | with_reducible intro _)) <;> (first | trivial | exact C_signature _ _ (r.mono (by decide)) | exact C_described _ _ (r.mono (by decide)) | exact C_choose _ _ (r.mono (by decide)) | exact C_is_value _ _ (r.mono (by decide))))
  have C_apply : ∀ A base, Room 4 A → CallOk (gM K xs) ⟨Prg_, w, K, mg, base, A⟩ f_apply := fun A base r => ⟨_, fd_apply, _, 4, O_apply base, r, He.glo_ok X G (c.t.d.fact 32 (f := .glo "apply") rfl), F_apply.kp, FunD.bindsN F_apply fun _ _ _ _ _ _ us hl => match us, hl with | [_, _], _ => rfl⟩
  obtain ⟨fd__law_cell, F__law_cell⟩ := c.t.d.def_ 33 (d := ⟨("_law_cell", none), "_law_cell", "_law_cell", defArgs s__law_cell, defBody s__law_cell, defScope s__law_cell, [], []⟩) rfl
  have O__law_cell : ∀ base, FnOk Prg_ w K mg base (L2.CX Prg_ w) 1 _ fd__law_cell ["_law_script", "_law_k"] (spM (gM K xs) K f__law_cell) := fun base => fn_ok (g := gM K xs) F__law_cell (scope_ok t__law_cell) rfl c__law_cell fre fun A r => by
    simp only [b__law_cell, okSts, okSt, okE, okEs, okSrc, and_true, true_and, implies_true]
    try ((repeat' (first | with_reducible refine And.intro ?_ ?_ | with_reducible intro _)) <;> (first | trivial))
  have C__law_cell : ∀ A base, Room 1 A → CallOk (gM K xs) ⟨Prg_, w, K, mg, base, A⟩ f__law_cell := fun A base r => ⟨_, fd__law_cell, _, 1, O__law_cell base, r, He.glo_ok X G (c.t.d.fact 33 (f := .glo "_law_cell") rfl), F__law_cell.kp, FunD.bindsN F__law_cell fun _ _ _ _ _ _ us hl => match us, hl with | [_, _], _ => rfl⟩
  obtain ⟨fd__law_draws, F__law_draws⟩ := c.t.d.def_ 34 (d := ⟨("_law_draws", none), "_law_draws", "_law_draws", defArgs s__law_draws, defBody s__law_draws, defScope s__law_draws, [], []⟩) rfl
  have O__law_draws : ∀ base, FnOk Prg_ w K mg base (L2.CX Prg_ w) 1 _ fd__law_draws ["_law_cell_here", "_law_many", "_law_limit"] (spM (gM K xs) K f__law_draws) := fun base => fn_ok (g := gM K xs) F__law_draws (scope_ok t__law_draws) rfl c__law_draws fre fun A r => by
    simp only [b__law_draws, l__law_draws_1, okSts, okSt, okE, okEs, okSrc, and_true, true_and, implies_true]
    try ((repeat' (first | with_reducible refine And.intro ?_ ?_ | with_reducible intro _)) <;> (first | trivial))
  have C__law_draws : ∀ A base, Room 1 A → CallOk (gM K xs) ⟨Prg_, w, K, mg, base, A⟩ f__law_draws := fun A base r => ⟨_, fd__law_draws, _, 1, O__law_draws base, r, He.glo_ok X G (c.t.d.fact 34 (f := .glo "_law_draws") rfl), F__law_draws.kp, FunD.bindsN F__law_draws fun _ _ _ _ _ _ us hl => match us, hl with | [_, _, _], _ => rfl⟩
  obtain ⟨fd__law_library, F__law_library⟩ := c.t.d.def_ 35 (d := ⟨("_law_library", none), "_law_library", "_law_library", defArgs s__law_library, defBody s__law_library, defScope s__law_library, [], []⟩) rfl
  have O__law_library : ∀ base, FnOk Prg_ w K mg base (L2.CX Prg_ w) 1 _ fd__law_library [] (spM (gM K xs) K f__law_library) := fun base => fn_ok (g := gM K xs) F__law_library (scope_ok t__law_library) rfl c__law_library fre fun A r => by
    simp only [b__law_library, e__law_library_1, okSts, okSt, okE, okEs, okSrc, and_true, true_and, implies_true]
    try ((repeat' (first | with_reducible refine And.intro ?_ ?_ | with_reducible intro _)) <;> (first | trivial))
  have C__law_library : ∀ A base, Room 1 A → CallOk (gM K xs) ⟨Prg_, w, K, mg, base, A⟩ f__law_library := fun A base r => ⟨_, fd__law_library, _, 1, O__law_library base, r, He.glo_ok X G (c.t.d.fact 35 (f := .glo "_law_library") rfl), F__law_library.kp, FunD.bindsN F__law_library fun _ _ _ _ _ _ us hl => match us, hl with | [], _ => rfl⟩
  obtain ⟨fd__law_kind, F__law_kind⟩ := c.t.d.def_ 36 (d := ⟨("_law_kind", none), "_law_kind", "_law_kind", defArgs s__law_kind, defBody s__law_kind, defScope s__law_kind, [], []⟩) rfl
  have O__law_kind : ∀ base, FnOk Prg_ w K mg base (L2.CX Prg_ w) 1 _ fd__law_kind ["_law_letter"] (spM (gM K xs) K f__law_kind) := fun base => fn_ok (g := gM K xs) F__law_kind (scope_ok t__law_kind) rfl c__law_kind fre fun A r => by
    simp only [b__law_kind, okSts, okSt, okE, okEs, okSrc, and_true, true_and, implies_true]
    try ((repeat' (first | with_reducible refine And.intro ?_ ?_ | with_reducible intro _)) <;> (first | trivial))
  have C__law_kind : ∀ A base, Room 1 A → CallOk (gM K xs) ⟨Prg_, w, K, mg, base, A⟩ f__law_kind := fun A base r => ⟨_, fd__law_kind, _, 1, O__law_kind base, r, He.glo_ok X G (c.t.d.fact 36 (f := .glo "_law_kind") rfl), F__law_kind.kp, FunD.bindsN F__law_kind fun _ _ _ _ _ _ us hl => match us, hl with | [_], _ => rfl⟩
  obtain ⟨fd__law_number, F__law_number⟩ := c.t.d.def_ 37 (d := ⟨("_law_number", none), "_law_number", "_law_number", defArgs s__law_number, defBody s__law_number, defScope s__law_number, [], []⟩) rfl
  have O__law_number : ∀ base, FnOk Prg_ w K mg base (L2.CX Prg_ w) 1 _ fd__law_number ["_law_cell_here"] (spM (gM K xs) K f__law_number) := fun base => fn_ok (g := gM K xs) F__law_number (scope_ok t__law_number) rfl c__law_number fre fun A r => by
    simp only [b__law_number, okSts, okSt, okE, okEs, okSrc, and_true, true_and, implies_true]
    try ((repeat' (first | with_reducible refine And.intro ?_ ?_ | with_reducible intro _)) <;> (first | trivial))
  have C__law_number : ∀ A base, Room 1 A → CallOk (gM K xs) ⟨Prg_, w, K, mg, base, A⟩ f__law_number := fun A base r => ⟨_, fd__law_number, _, 1, O__law_number base, r, He.glo_ok X G (c.t.d.fact 37 (f := .glo "_law_number") rfl), F__law_number.kp, FunD.bindsN F__law_number fun _ _ _ _ _ _ us hl => match us, hl with | [_], _ => rfl⟩
  obtain ⟨fd__law_value, F__law_value⟩ := c.t.d.def_ 38 (d := ⟨("_law_value", none), "_law_value", "_law_value", defArgs s__law_value, defBody s__law_value, defScope s__law_value, [], []⟩) rfl
  have O__law_value : ∀ base, FnOk Prg_ w K mg base (L2.CX Prg_ w) 2 _ fd__law_value ["_law_letter", "_law_cell_here"] (spM (gM K xs) K f__law_value) := fun base => fn_ok (g := gM K xs) F__law_value (scope_ok t__law_value) rfl c__law_value fre fun A r => by
    simp only [b__law_value, e__law_value_1, e__law_value_2, e__law_value_3, okSts, okSt, okE, okEs, okSrc, and_true, true_and, implies_true]
    try ((repeat' (first | with_reducible refine And.intro ?_ ?_ | with_reducible intro _)) <;> (first | trivial | exact C__law_number _ _ (r.mono (by decide)) | exact C__law_draws _ _ (r.mono (by decide))))
  have C__law_value : ∀ A base, Room 2 A → CallOk (gM K xs) ⟨Prg_, w, K, mg, base, A⟩ f__law_value := fun A base r => ⟨_, fd__law_value, _, 2, O__law_value base, r, He.glo_ok X G (c.t.d.fact 38 (f := .glo "_law_value") rfl), F__law_value.kp, FunD.bindsN F__law_value fun _ _ _ _ _ _ us hl => match us, hl with | [_, _], _ => rfl⟩
  obtain ⟨fd__law_asked, F__law_asked⟩ := c.t.d.def_ 39 (d := ⟨("_law_asked", none), "_law_asked", "_law_asked", defArgs s__law_asked, defBody s__law_asked, defScope s__law_asked, [], []⟩) rfl
  have O__law_asked : ∀ base, FnOk Prg_ w K mg base (L2.CX Prg_ w) 5 _ fd__law_asked ["_law_which", "_law_name"] (spM (gM K xs) K f__law_asked) := fun base => fn_ok (g := gM K xs) F__law_asked (scope_ok t__law_asked) rfl c__law_asked fre fun A r => by
    simp only [b__law_asked, l__law_asked_1, l__law_asked_2, okSts, okSt, okE, okEs, okSrc, and_true, true_and, implies_true]
    try ((repeat' (first | with_reducible refine And.intro ?_ ?_ | with_reducible intro _)) <;> (first | trivial | exact T_NotFound | exact C_apply _ _ (r.mono (by decide)) | exact C_argument_kinds _ _ (r.mono (by decide)) | exact C_result_kind _ _ (r.mono (by decide)) | exact C_is_commutative _ _ (r.mono (by decide)) | exact rfl | exact X_NotFound.2.1 | exact X_NotFound.2.2.2.1 | exact I_0_LeastError _ _))
  have C__law_asked : ∀ A base, Room 5 A → CallOk (gM K xs) ⟨Prg_, w, K, mg, base, A⟩ f__law_asked := fun A base r => ⟨_, fd__law_asked, _, 5, O__law_asked base, r, He.glo_ok X G (c.t.d.fact 39 (f := .glo "_law_asked") rfl), F__law_asked.kp, FunD.bindsN F__law_asked fun _ _ _ _ _ _ us hl => match us, hl with | [_, _], _ => rfl⟩
  obtain ⟨fd_law, F_law⟩ := c.t.d.def_ 40 (d := ⟨("law", none), "law", "law", defArgs s_law, defBody s_law, defScope s_law, [], []⟩) rfl
  have O_law : ∀ base, FnOk Prg_ w K mg base (L2.CX Prg_ w) 6 _ fd_law ["_law_script"] (spM (gM K xs) K f_law) := fun base => fn_ok (g := gM K xs) F_law (scope_ok t_law) rfl c_law fre fun A r => by
    simp only [b_law, e_law_1, l_law_2, e_law_3, okSts, okSt, okE, okEs, okSrc, and_true, true_and, implies_true]
    try ((repeat' (first | with_reducible refine And.intro ?_ ?_ | with_reducible intro _)) <;> (first | trivial | exact C__law_library _ _ (r.mono (by decide)) | exact C_is_commutative _ _ (r.mono (by decide)) | exact C__law_cell _ _ (r.mono (by decide)) | exact C__law_value _ _ (r.mono (by decide)) | exact C_names _ _ (r.mono (by decide)) | exact C_apply _ _ (r.mono (by decide)) | exact C__law_asked _ _ (r.mono (by decide))))
  have C_law : ∀ A base, Room 6 A → CallOk (gM K xs) ⟨Prg_, w, K, mg, base, A⟩ f_law := fun A base r => ⟨_, fd_law, _, 6, O_law base, r, He.glo_ok X G (c.t.d.fact 40 (f := .glo "law") rfl), F_law.kp, FunD.bindsN F_law fun _ _ _ _ _ _ us hl => match us, hl with | [_], _ => rfl⟩
  have e := hfa.symm.trans (He.glo_ok X G (c.t.d.fact 40 (f := .glo "law") rfl))
  cases e
  exact ⟨fd_law, fun s v => FunD.bindsA (ps := ["_law_script"]) F_law (fun _ _ _ _ _ _ us hl => match us, hl with | [_], _ => rfl) s [v] rfl, fun base => (O_law base).mono (by decide)⟩
end K05

open PySem PySem.W PySem.Calls PyProof.Rows
theorem PySem.Challenge.cw_leastfit_k05_unknown_and_commutative_com_holds : PySem.Challenge.rw_leastfit_k05_unknown_and_commutative_com.Holds := by
  w_on; o_law
  refine HandSHeadRun.head_any (r := OpenLaw.row PySem.Challenge.rw_leastfit_k05_unknown_and_commutative_com) (q := view (OpenLaw.row PySem.Challenge.rw_leastfit_k05_unknown_and_commutative_com).prog [56]) (H := K05.hk) (ob := K05.ob) (M := 20000) (loose := K05.loose) (d := HandSHeadRun.topDef (OpenLaw.row PySem.Challenge.rw_leastfit_k05_unknown_and_commutative_com).prog 56) (kwd := []) K05.ob_eq
    (by kernel_rfl) (fun s => by kernel_rfl) K05.run (by kernel_rfl) (by kernel_rfl) (by kernel_rfl) (by rfl) (by first | assumption | decide +kernel) (by decide +kernel) ⟨rfl, rfl, rfl, rfl, rfl, by decide +kernel⟩ ?hw ?hc
  case hw => w_witness2
  case hc =>
    refine L2.walk_ofE (l := PySem.Challenge.rw_leastfit_k05_unknown_and_commutative_com) (n := 63) (k := 200) (x := "_law_script") (CX := Mini.CXany) rfl (by decide) (by kernel_rfl) ⟨rfl, by decide, by decide⟩ ?F (fun _ _ _ _ z => Mini.any_none z)
    intro w mg fa h Y G hmg0
    obtain ⟨K, KX, c⟩ := Y
    have hmg : mg ("law" : PySem.Str) = some (.ref fa) := by
      have e : (HandSHeadRun.topDef (OpenLaw.row PySem.Challenge.rw_leastfit_k05_unknown_and_commutative_com).prog 56).name = ("law" : PySem.Str) := by kernel_rfl
      rw [← e]
      exact hmg0
    obtain ⟨fd, hb, hF⟩ := K05.facts (w := w) KX G hmg c
    exact ⟨K, fd, _, KX, hb, fun H a ns hl _ hS => Mini.law_sp rfl rfl hl hS (K05.law_true ns hl), fun base _ _ => Mini.FnOk.any (hF base)⟩
end
