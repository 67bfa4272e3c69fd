import PyProof.Rows.All
import Wide.All
import OpenK.AllK
import Wide.FinOn
import HandS.ForMost
import HandS.ForExc
import HandS.TryOnly
import HandS.CallSlots
import HandS.IsInst
import HandS.Style
import HandS.ExcInit
import HandS.Defaults
import HandS.TupAny
import HandS.Conv
import KE.LtSeq
import KE.DatumOrd
import KE.DatumMore
import KE.KTupSum
import KE.IntTextLaws
import HandS.Replace
import HandS.StrMore
import KE.KSuper
import KE.KExcSuper
import KE.KExcIs
import HandS.NestedK
import HandS.WordsExc
import HandS.HeadWalk
import PyProof.SliceStr2
import HandS.Rev
import KE.Datum
import HandS.Strs
import HandS.More
import HandS.ExcField
import HandS.Words
import HandS.Head0
import HandS.Head1
import HandS.Head2
import HandS.HeadEnd
import HandS.HeadHook1
import HandS.HeadHook2
import HandS.HeadHook3
import HandS.HeadHook4
import PySem.Challenge.RW_leastfit_k55_solutions_of_sequences
section
set_option Elab.async false
set_option linter.all false
set_option maxRecDepth 100000
/-! M1: data, what represents data, the frame relation, the shape of readings. -/
namespace Mini
open PySem L2

/-- data: immutable values, lists that nobody changes any more -/
inductive D where
  | non | bl (b : Bool) | int (i : Int) | str (s : List Nat) | tup (ds : List D) | lst (ds : List D)
  /-- a dict with text keys: the keys, the values -/
  | dic (ks : List (List Nat)) (vs : List D)
  /-- an instance of a class of the module that nobody changes any more: its fields -/
  | ob (C : Str) (ns : List Str) (ds : List D)
  /-- what still changes: lists, dicts, instances -/
  | ml (ds : List D) | md (ks : List (List Nat)) (vs : List D) | mo (C : Str) (ns : List Str) (ds : List D)
  deriving Inhabited

abbrev sOf (cs : List Nat) : Str := ⟨cs.toArray⟩
/-- the size that texts, tuples and lists keep to -/
def lim : Nat := 1000000
theorem lim_line : lim ≤ sizeLine := by decide
def okS (cs : List Nat) : Bool := decide (cs.length ≤ lim) && cs.all fun c => decide (c < 1114112)

/-- a tuple of which it is known that it bears no dict of its own -/
def SqU (K : PySem.W.Frag) (H : Hp) (a : Addr) (xs : List V) : Prop :=
  (∃ ob, H a = some (.frz ob (.tup xs)) ∧ ob.dict = none) ∨
    ∃ (o : Obj) (its : Array Value) (n : Nat), K.lookup a = some o ∧ o.cls = .type "tuple" ∧ o.dict = none ∧ o.data = .seq its n ∧ its.size ≤ sizeLine ∧ Vals xs its.toList
theorem SqU.t {K : PySem.W.Frag} {H : Hp} {a : Addr} {xs : List V} (h : SqU K H a xs) : SqT K H a xs := by
  rcases h with ⟨ob, h, _⟩ | ⟨o, its, n, h1, h2, _, h3⟩
  · exact .inl (.inr ⟨ob, h⟩)
  · exact .inr ⟨o, its, n, h1, h2, h3⟩
/-- where a class of the module stands -/
def gad (K : PySem.W.Frag) (C : Str) : Addr := match PySem.W.nsIn K mainGlobals C with
  | some (some (.ref a)) => a
  | _ => 0
/-- what is asked of a class of which there are objects -/
structure ObC (K : PySem.W.Frag) (C : Addr) : Prop where
  cl : Cls K C
  ha : PySem.W.findIn K (.ref C) "__class__" = some (some (.builtin "object.__class__"))
  hn : PySem.W.specialIn K (.builtin "object.__class__") "__get__" = some (some (.builtin "getset_descriptor.__get__"))
  htk : PySem.W.takesIn K (.builtin "object.__class__") = some true
  hm : PySem.W.mroIn K C (.type "object") = some true
  no : ∀ n ∈ ["int", "bool", "str", "tuple", "list", "dict"], PySem.W.kitOne K (.ref C) (.type n) = some false
mutual
inductive Rep (K : PySem.W.Frag) (H : Hp) : V → D → Prop
  | non : Rep K H .non .non
  | bl (b : Bool) : Rep K H (.bl b) (.bl b)
  | int (i : Int) : Rep K H (.int i) (.int i)
  | str {cs : List Nat} : okS cs = true → Rep K H (.str (sOf cs)) (.str cs)
  | tup {a : Addr} {vs : List V} {ds : List D} : SqU K H a vs → Reps K H vs ds → ds.length ≤ lim → Rep K H (.ref a) (.tup ds)
  | lst {a : Addr} {vs : List V} {ds : List D} : SqL K H a vs → Reps K H vs ds → ds.length ≤ lim → Rep K H (.ref a) (.lst ds)
  | dic {a : Addr} {kvs : List (Key × V)} {ks : List (List Nat)} {vs : List V} {ds : List D} : Rd H a (.dK kvs) → kvs.map (·.1) = ks.map (fun k => .inr (sOf k)) → kvs.map (·.2) = vs → Reps K H vs ds → Rep K H (.ref a) (.dic ks ds)
  | ob {a dx : Addr} {fs : List (Str × V)} {C : Str} {ns : List Str} {vs : List V} {ds : List D} : ObC K (gad K C) → H a = some (.ins (gad K C) dx fs) → fs.map (·.1) = ns → fs.map (·.2) = vs → Reps K H vs ds → Rep K H (.ref a) (.ob C ns ds)
inductive Reps (K : PySem.W.Frag) (H : Hp) : List V → List D → Prop
  | nil : Reps K H [] []
  | cons {v : V} {vs : List V} {d : D} {ds : List D} : Rep K H v d → Reps K H vs ds → Reps K H (v :: vs) (d :: ds)
end

section
variable {K : PySem.W.Frag} {H H' H2 : Hp}
theorem sqT_mono {a : Addr} {xs : List V} (e : Same H H') (h : SqT K H a xs) : SqT K H' a xs := by
  rcases h with (h | ⟨o, h⟩) | h
  · exact .inl (.inl (e _ _ h))
  · exact .inl (.inr ⟨o, e _ _ h⟩)
  · exact .inr h
theorem sqU_mono {a : Addr} {xs : List V} (e : Same H H') (h : SqU K H a xs) : SqU K H' a xs := by
  rcases h with ⟨ob, h, hd⟩ | h
  · exact .inl ⟨ob, e _ _ h, hd⟩
  · exact .inr h
theorem rd_mono {a : Addr} {u : HO} (e : Same H H') (h : Rd H a u) : Rd H' a u := h.elim (fun h => .inl (e _ _ h)) fun ⟨o, h⟩ => .inr ⟨o, e _ _ h⟩
mutual
theorem Rep.mono (e : Same H H') : ∀ {v : V} {d : D}, Rep K H v d → Rep K H' v d
  | _, _, .non => .non
  | _, _, .bl b => .bl b
  | _, _, .int i => .int i
  | _, _, .str h => .str h
  | _, _, .tup h r l => .tup (sqU_mono e h) (Reps.mono e r) l
  | _, _, .lst h r l => .lst (Same.seq e h) (Reps.mono e r) l
  | _, _, .dic h hk hv r => .dic (rd_mono e h) hk hv (Reps.mono e r)
  | _, _, .ob o h hk hv r => .ob o (e _ _ h) hk hv (Reps.mono e r)
theorem Reps.mono (e : Same H H') : ∀ {vs : List V} {ds : List D}, Reps K H vs ds → Reps K H' vs ds
  | _, _, .nil => .nil
  | _, _, .cons h r => .cons (Rep.mono e h) (Reps.mono e r)
end
theorem Reps.length : ∀ {vs : List V} {ds : List D}, Reps K H vs ds → vs.length = ds.length
  | _, _, .nil => rfl
  | _, _, .cons _ r => congrArg Nat.succ (Reps.length r)
theorem Reps.get : ∀ {vs : List V} {ds : List D} {i : Nat} {d : D}, Reps K H vs ds → ds[i]? = some d → ∃ v, vs[i]? = some v ∧ Rep K H v d
  | _, _, _, _, .nil, e => by simp at e
  | _, _, 0, _, .cons h _, e => by simp at e; subst e; exact ⟨_, rfl, h⟩
  | _, _, i + 1, d, .cons _ t, e => by
    obtain ⟨u, h1, h2⟩ := Reps.get (i := i) (d := d) t (by simpa using e)
    exact ⟨u, by simpa using h1, h2⟩
theorem Reps.getV : ∀ {vs : List V} {ds : List D} {i : Nat} {v : V}, Reps K H vs ds → vs[i]? = some v → ∃ d, ds[i]? = some d ∧ Rep K H v d
  | _, _, _, _, .nil, e => by simp at e
  | _, _, 0, _, .cons h _, e => by simp at e; subst e; exact ⟨_, rfl, h⟩
  | _, _, i + 1, d, .cons _ t, e => by
    obtain ⟨u, h1, h2⟩ := Reps.getV (i := i) (v := d) t (by simpa using e)
    exact ⟨u, by simpa using h1, h2⟩
theorem Reps.append : ∀ {vs us : List V} {ds es : List D}, Reps K H vs ds → Reps K H us es → Reps K H (vs ++ us) (ds ++ es)
  | _, _, _, _, .nil, s => s
  | _, _, _, _, .cons h r, s => .cons h (Reps.append r s)
theorem Reps.take : ∀ {vs : List V} {ds : List D} (n : Nat), Reps K H vs ds → Reps K H (vs.take n) (ds.take n)
  | _, _, 0, _ => .nil
  | _, _, _ + 1, .nil => .nil
  | _, _, n + 1, .cons h r => .cons h (Reps.take n r)
theorem Reps.drop : ∀ {vs : List V} {ds : List D} (n : Nat), Reps K H vs ds → Reps K H (vs.drop n) (ds.drop n)
  | _, _, 0, r => r
  | _, _, _ + 1, .nil => .nil
  | _, _, n + 1, .cons _ r => Reps.drop n r
theorem Reps.set {v : V} {d : D} (h : Rep K H v d) : ∀ {vs : List V} {ds : List D} (i : Nat), Reps K H vs ds → Reps K H (vs.set i v) (ds.set i d)
  | _, _, _, .nil => .nil
  | _, _, 0, .cons _ r => .cons h r
  | _, _, i + 1, .cons q r => .cons q (Reps.set h i r)
theorem Reps.rev {vs : List V} {ds : List D} (r : Reps K H vs ds) : Reps K H vs.reverse ds.reverse := by
  induction ds generalizing vs with
  | nil => cases r; exact .nil
  | cons d ds ih =>
    cases r with
    | cons h t => rw [List.reverse_cons, List.reverse_cons]; exact Reps.append (ih t) (.cons h .nil)
theorem Reps.dropLast {vs : List V} {ds : List D} (r : Reps K H vs ds) : Reps K H vs.dropLast ds.dropLast := by
  rw [List.dropLast_eq_take, List.dropLast_eq_take, r.length]
  exact Reps.take _ r
theorem Reps.eraseIdx : ∀ {vs : List V} {ds : List D} (i : Nat), Reps K H vs ds → Reps K H (vs.eraseIdx i) (ds.eraseIdx i)
  | _, _, _, .nil => .nil
  | _, _, 0, .cons _ r => r
  | _, _, i + 1, .cons q r => .cons q (Reps.eraseIdx i r)
theorem Reps.ints : ∀ {vs : List V} {is : List Int}, Reps K H vs (is.map D.int) → vs = is.map V.int
  | _, [], .nil => rfl
  | _, i :: is, .cons h r => by cases h; rw [Reps.ints r] <;> rfl
theorem Reps.of_ints : ∀ {is : List Int}, Reps K H (is.map V.int) (is.map D.int)
  | [] => .nil
  | i :: is => .cons (.int i) Reps.of_ints
theorem Reps.bls : ∀ {vs : List V} {is : List Bool}, Reps K H vs (is.map D.bl) → vs = is.map V.bl
  | _, [], .nil => rfl
  | _, i :: is, .cons h r => by cases h; rw [Reps.bls r] <;> rfl
theorem Reps.strs : ∀ {vs : List V} {is : List (List Nat)}, Reps K H vs (is.map D.str) → vs = (is.map sOf).map V.str
  | _, [], .nil => rfl
  | _, i :: is, .cons h r => by cases h; rw [Reps.strs r] <;> rfl
theorem Reps.of_strs : ∀ {is : List (List Nat)}, (∀ i ∈ is, okS i = true) → Reps K H ((is.map sOf).map V.str) (is.map D.str)
  | [], _ => .nil
  | i :: is, h => .cons (.str (h i (List.mem_cons_self ..))) (Reps.of_strs fun j hj => h j (List.mem_cons_of_mem _ hj))
end

/-! ### how heaps grow: H all, Hf what is frozen -/
structure Adv (Hf H Hf' H' : Hp) : Prop where
  same : Same H H'
  f : Same Hf Hf'
  sub : Same Hf' H'
  out : ∀ a o, H a = some o → Hf a = none → Hf' a = none
theorem Adv.refl {Hf H : Hp} (s : Same Hf H) : Adv Hf H Hf H := ⟨Same.refl _, Same.refl _, s, fun _ _ _ h => h⟩
theorem Adv.trans {Hf H Hf1 H1 Hf2 H2 : Hp} (a : Adv Hf H Hf1 H1) (b : Adv Hf1 H1 Hf2 H2) : Adv Hf H Hf2 H2 :=
  ⟨a.same.trans b.same, a.f.trans b.f, b.sub, fun x o h n => b.out x o (a.same _ _ h) (a.out x o h n)⟩
theorem same_upd {H : Hp} {p : Addr} {o : HO} (h : H p = none) : Same H (upd H p o) := fun a u e => by rw [upd_ne (ne_of_none e h)]; exact e
theorem same_upd2 {H H' : Hp} {p : Addr} {o : HO} (s : Same H H') : Same (upd H p o) (upd H' p o) := fun a u e => by
  by_cases h : a = p
  · subst h; rw [upd_same] at e ⊢; exact e
  · rw [upd_ne h] at e ⊢; exact s _ _ e
/-- a new frozen object -/
theorem Adv.new {Hf H : Hp} {p : Addr} {o : HO} (s : Same Hf H) (h : H p = none) : Adv Hf H (upd Hf p o) (upd H p o) :=
  ⟨same_upd h, same_upd (s.free h), same_upd2 s, fun a u e n => by rw [upd_ne (ne_of_none e h)]; exact n⟩
/-- a new object that isn't frozen -/
theorem Adv.new' {Hf H : Hp} {p : Addr} {o : HO} (s : Same Hf H) (h : H p = none) : Adv Hf H Hf (upd H p o) :=
  ⟨same_upd h, Same.refl _, s.trans (same_upd h), fun _ _ _ n => n⟩

/-! ### trees that still change -/
def isTr : D → Bool
  | .ml _ => true
  | .md _ _ => true
  | .mo _ _ _ => true
  | _ => false
mutual
/-- v is the tree t: its nodes are not frozen -/
def TRep (K : PySem.W.Frag) (Hf H : Hp) : D → V → Prop
  | .ml ds, v => ∃ p vs, v = .ref p ∧ H p = some (.lst vs) ∧ Hf p = none ∧ TReps K Hf H ds vs ∧ ds.length ≤ lim
  | .md ks ds, v => ∃ p kvs, v = .ref p ∧ H p = some (.dK kvs) ∧ Hf p = none ∧ kvs.map (·.1) = ks.map (fun k => .inr (sOf k)) ∧ TReps K Hf H ds (kvs.map (·.2))
  | .mo C ns ds, v => ObC K (gad K C) ∧ ∃ p dx fs, v = .ref p ∧ H p = some (.ins (gad K C) dx fs) ∧ Hf p = none ∧ fs.map (·.1) = ns ∧ TReps K Hf H ds (fs.map (·.2))
  | .non, v => Rep K Hf v .non
  | .bl b, v => Rep K Hf v (.bl b)
  | .int i, v => Rep K Hf v (.int i)
  | .str s, v => Rep K Hf v (.str s)
  | .tup ds, v => Rep K Hf v (.tup ds)
  | .lst ds, v => Rep K Hf v (.lst ds)
  | .dic ks ds, v => Rep K Hf v (.dic ks ds)
  | .ob C ns ds, v => Rep K Hf v (.ob C ns ds)
def TReps (K : PySem.W.Frag) (Hf H : Hp) : List D → List V → Prop
  | [], vs => vs = []
  | d :: ds, vs => ∃ v r, vs = v :: r ∧ TRep K Hf H d v ∧ TReps K Hf H ds r
end
mutual
/-- the nodes of the tree -/
def TFoot (H : Hp) : D → V → List Addr
  | .ml ds, v => (match v with
    | .ref p => p :: (match H p with
      | some (.lst vs) => TFoots H ds vs
      | _ => [])
    | _ => [])
  | .md _ ds, v => (match v with
    | .ref p => p :: (match H p with
      | some (.dK kvs) => TFoots H ds (kvs.map (·.2))
      | _ => [])
    | _ => [])
  | .mo _ _ ds, v => (match v with
    | .ref p => p :: (match H p with
      | some (.ins _ _ fs) => TFoots H ds (fs.map (·.2))
      | _ => [])
    | _ => [])
  | _, _ => []
def TFoots (H : Hp) : List D → List V → List Addr
  | [], _ => []
  | d :: ds, vs => (match vs with
    | v :: vs => TFoot H d v ++ TFoots H ds vs
    | [] => [])
end
theorem TRep.of_rep {K : PySem.W.Frag} {Hf H : Hp} {d : D} {v : V} (h : Rep K Hf v d) : TRep K Hf H d v := by
  cases d <;> first | exact h | (cases h; done)
theorem TRep.rep {K : PySem.W.Frag} {Hf H : Hp} {d : D} {v : V} (h : TRep K Hf H d v) (n : isTr d = false) : Rep K Hf v d := by
  cases d <;> first | exact h | (cases n; done)
theorem TFoot.none {H : Hp} {d : D} {v : V} (n : isTr d = false) : TFoot H d v = [] := by
  cases d <;> first | rfl | (cases n; done)
theorem TReps.len {K : PySem.W.Frag} {Hf H : Hp} : ∀ {ds : List D} {vs : List V}, TReps K Hf H ds vs → vs.length = ds.length
  | [], vs, h => by rw [show vs = [] from h]; rfl
  | d :: ds, vs, h => by
    obtain ⟨v, r, rfl, _, h⟩ := h
    rw [List.length_cons, List.length_cons, TReps.len h]
mutual
/-- a node is there, not frozen, no exception's dict -/
theorem TRep.at {K : PySem.W.Frag} {Hf H : Hp} : ∀ {d : D} {v : V}, TRep K Hf H d v → ∀ a ∈ TFoot H d v, (∃ u, H a = some u ∧ ∀ fs, u ≠ .xd fs) ∧ Hf a = none
  | .ml ds, v, h, a, ha => by
    obtain ⟨p, vs, rfl, h1, h2, h3, _⟩ := h
    unfold TFoot at ha
    simp only [h1] at ha
    rcases List.mem_cons.mp ha with rfl | ha
    · exact ⟨⟨_, h1, fun _ z => by cases z⟩, h2⟩
    · exact TReps.at h3 a ha
  | .md ks ds, v, h, a, ha => by
    obtain ⟨p, vs, rfl, h1, h2, _, h3⟩ := h
    unfold TFoot at ha
    simp only [h1] at ha
    rcases List.mem_cons.mp ha with rfl | ha
    · exact ⟨⟨_, h1, fun _ z => by cases z⟩, h2⟩
    · exact TReps.at h3 a ha
  | .mo C ns ds, v, h, a, ha => by
    obtain ⟨_, p, dx, vs, rfl, h1, h2, _, h3⟩ := h
    unfold TFoot at ha
    simp only [h1] at ha
    rcases List.mem_cons.mp ha with rfl | ha
    · exact ⟨⟨_, h1, fun _ z => by cases z⟩, h2⟩
    · exact TReps.at h3 a ha
  | .non, _, _, _, ha => by cases ha
  | .bl _, _, _, _, ha => by cases ha
  | .int _, _, _, _, ha => by cases ha
  | .str _, _, _, _, ha => by cases ha
  | .tup _, _, _, _, ha => by cases ha
  | .lst _, _, _, _, ha => by cases ha
  | .dic _ _, _, _, _, ha => by cases ha
  | .ob _ _ _, _, _, _, ha => by cases ha
theorem TReps.at {K : PySem.W.Frag} {Hf H : Hp} : ∀ {ds : List D} {vs : List V}, TReps K Hf H ds vs → ∀ a ∈ TFoots H ds vs, (∃ u, H a = some u ∧ ∀ fs, u ≠ .xd fs) ∧ Hf a = none
  | [], _, _, _, ha => by cases ha
  | d :: ds, vs, h, a, ha => by
    obtain ⟨v, r, rfl, h1, h2⟩ := h
    rcases List.mem_append.mp (show a ∈ TFoot H d v ++ TFoots H ds r from ha) with ha | ha
    · exact TRep.at h1 a ha
    · exact TReps.at h2 a ha
end
mutual
/-- a tree stays while its nodes stay -/
theorem TRep.mono {K : PySem.W.Frag} {Hf H Hf' H' : Hp} (s : Same Hf Hf') : ∀ {d : D} {v : V}, TRep K Hf H d v → (∀ a ∈ TFoot H d v, (∀ u, H a = some u → H' a = some u) ∧ Hf' a = none) → TRep K Hf' H' d v ∧ TFoot H' d v = TFoot H d v
  | .ml ds, v, h, k => by
    obtain ⟨p, vs, rfl, h1, h2, h3, h4⟩ := h
    have e : TFoot H (.ml ds) (.ref p) = p :: TFoots H ds vs := by unfold TFoot; simp only [h1]
    rw [e] at k ⊢
    obtain ⟨k1, k2⟩ := k p (List.mem_cons_self ..)
    obtain ⟨q1, q2⟩ := TReps.mono s h3 fun a ha => k a (List.mem_cons_of_mem _ ha)
    refine ⟨⟨p, vs, rfl, k1 _ h1, k2, q1, h4⟩, ?_⟩
    unfold TFoot
    simp only [k1 _ h1, q2]
  | .md ks ds, v, h, k => by
    obtain ⟨p, vs, rfl, h1, h2, h4, h3⟩ := h
    have e : TFoot H (.md ks ds) (.ref p) = p :: TFoots H ds (vs.map (·.2)) := by unfold TFoot; simp only [h1]
    rw [e] at k ⊢
    obtain ⟨k1, k2⟩ := k p (List.mem_cons_self ..)
    obtain ⟨q1, q2⟩ := TReps.mono s h3 fun a ha => k a (List.mem_cons_of_mem _ ha)
    refine ⟨⟨p, vs, rfl, k1 _ h1, k2, h4, q1⟩, ?_⟩
    unfold TFoot
    simp only [k1 _ h1, q2]
  | .mo C ns ds, v, h, k => by
    obtain ⟨oc, p, dx, vs, rfl, h1, h2, h4, h3⟩ := h
    have e : TFoot H (.mo C ns ds) (.ref p) = p :: TFoots H ds (vs.map (·.2)) := by unfold TFoot; simp only [h1]
    rw [e] at k ⊢
    obtain ⟨k1, k2⟩ := k p (List.mem_cons_self ..)
    obtain ⟨q1, q2⟩ := TReps.mono s h3 fun a ha => k a (List.mem_cons_of_mem _ ha)
    refine ⟨⟨oc, p, dx, vs, rfl, k1 _ h1, k2, h4, q1⟩, ?_⟩
    unfold TFoot
    simp only [k1 _ h1, q2]
  | .non, _, h, _ => ⟨Rep.mono s h, rfl⟩
  | .bl _, _, h, _ => ⟨Rep.mono s h, rfl⟩
  | .int _, _, h, _ => ⟨Rep.mono s h, rfl⟩
  | .str _, _, h, _ => ⟨Rep.mono s h, rfl⟩
  | .tup _, _, h, _ => ⟨Rep.mono s h, rfl⟩
  | .lst _, _, h, _ => ⟨Rep.mono s h, rfl⟩
  | .dic _ _, _, h, _ => ⟨Rep.mono s h, rfl⟩
  | .ob _ _ _, _, h, _ => ⟨Rep.mono s h, rfl⟩
theorem TReps.mono {K : PySem.W.Frag} {Hf H Hf' H' : Hp} (s : Same Hf Hf') : ∀ {ds : List D} {vs : List V}, TReps K Hf H ds vs → (∀ a ∈ TFoots H ds vs, (∀ u, H a = some u → H' a = some u) ∧ Hf' a = none) → TReps K Hf' H' ds vs ∧ TFoots H' ds vs = TFoots H ds vs
  | [], _, h, _ => ⟨h, rfl⟩
  | d :: ds, vs, h, k => by
    obtain ⟨v, r, rfl, h1, h2⟩ := h
    have k : ∀ a ∈ TFoot H d v ++ TFoots H ds r, (∀ u, H a = some u → H' a = some u) ∧ Hf' a = none := k
    obtain ⟨p1, p2⟩ := TRep.mono s h1 fun a ha => k a (List.mem_append_left _ ha)
    obtain ⟨q1, q2⟩ := TReps.mono s h2 fun a ha => k a (List.mem_append_right _ ha)
    refine ⟨⟨v, r, rfl, p1, q1⟩, ?_⟩
    show TFoot H' d v ++ TFoots H' ds r = TFoot H d v ++ TFoots H ds r
    rw [p2, q2]
end
mutual
/-- the frozen form of a tree -/
def frzD : D → D
  | .ml ds => .lst (frzDs ds)
  | .md ks ds => .dic ks (frzDs ds)
  | .mo C ns ds => .ob C ns (frzDs ds)
  | .non => .non
  | .bl b => .bl b
  | .int i => .int i
  | .str s => .str s
  | .tup ds => .tup ds
  | .lst ds => .lst ds
  | .dic ks ds => .dic ks ds
  | .ob C ns ds => .ob C ns ds
def frzDs : List D → List D
  | [] => []
  | d :: ds => frzD d :: frzDs ds
end
theorem frzDs_len : ∀ ds : List D, (frzDs ds).length = ds.length
  | [] => rfl
  | d :: ds => congrArg Nat.succ (frzDs_len ds)
mutual
theorem TRep.frz {K : PySem.W.Frag} {Hf H Hf' : Hp} (s : Same Hf Hf') : ∀ {d : D} {v : V}, TRep K Hf H d v → (∀ a ∈ TFoot H d v, Hf' a = H a) → Rep K Hf' v (frzD d)
  | .ml ds, v, h, k => by
    obtain ⟨p, vs, rfl, h1, h2, h3, h4⟩ := h
    have e : TFoot H (.ml ds) (.ref p) = p :: TFoots H ds vs := by unfold TFoot; simp only [h1]
    rw [e] at k
    exact .lst (SqL.of ((k p (List.mem_cons_self ..)).trans h1)) (TReps.frz s h3 fun a ha => k a (List.mem_cons_of_mem _ ha)) (by rw [frzDs_len]; exact h4)
  | .md ks ds, v, h, k => by
    obtain ⟨p, vs, rfl, h1, h2, h4, h3⟩ := h
    have e : TFoot H (.md ks ds) (.ref p) = p :: TFoots H ds (vs.map (·.2)) := by unfold TFoot; simp only [h1]
    rw [e] at k
    exact .dic (.inl ((k p (List.mem_cons_self ..)).trans h1)) h4 rfl (TReps.frz s h3 fun a ha => k a (List.mem_cons_of_mem _ ha))
  | .mo C ns ds, v, h, k => by
    obtain ⟨oc, p, dx, vs, rfl, h1, h2, h4, h3⟩ := h
    have e : TFoot H (.mo C ns ds) (.ref p) = p :: TFoots H ds (vs.map (·.2)) := by unfold TFoot; simp only [h1]
    rw [e] at k
    exact .ob oc ((k p (List.mem_cons_self ..)).trans h1) h4 rfl (TReps.frz s h3 fun a ha => k a (List.mem_cons_of_mem _ ha))
  | .non, _, h, _ => Rep.mono s h
  | .bl _, _, h, _ => Rep.mono s h
  | .int _, _, h, _ => Rep.mono s h
  | .str _, _, h, _ => Rep.mono s h
  | .tup _, _, h, _ => Rep.mono s h
  | .lst _, _, h, _ => Rep.mono s h
  | .dic _ _, _, h, _ => Rep.mono s h
  | .ob _ _ _, _, h, _ => Rep.mono s h
theorem TReps.frz {K : PySem.W.Frag} {Hf H Hf' : Hp} (s : Same Hf Hf') : ∀ {ds : List D} {vs : List V}, TReps K Hf H ds vs → (∀ a ∈ TFoots H ds vs, Hf' a = H a) → Reps K Hf' vs (frzDs ds)
  | [], _, h, _ => by rw [h]; exact .nil
  | d :: ds, vs, h, k => by
    obtain ⟨v, r, rfl, h1, h2⟩ := h
    have k : ∀ a ∈ TFoot H d v ++ TFoots H ds r, Hf' a = H a := k
    exact .cons (TRep.frz s h1 fun a ha => k a (List.mem_append_left _ ha)) (TReps.frz s h2 fun a ha => k a (List.mem_append_right _ ha))
end

/-! ### frames -/
inductive Sl where
  | no | val (d : D) | own (ds : List D) | exn (c : Nat) (d : D)
  /-- a tree that still changes -/
  | tr (t : D)
  deriving Inhabited
abbrev En := List Sl
/-- what a slot owns: a list of values, a tree -/
def sKind : Sl → Option Bool
  | .own _ => some false
  | .tr _ => some true
  | _ => none

/-- the entry: what was frozen, all, the lists and trees that are handed in to be changed (slot, address), their kinds, all that may change -/
structure C0 where
  Hf : Hp
  H : Hp
  ps : List (Nat × Addr)
  kd : Nat → Bool
  fs : Addr → Prop
  /-- the exception that is at hand: its address, its dict, its class's number, its field -/
  xa : Addr → Addr → Nat → Str → Prop

/-- what a slot owns -/
def footO (H : Hp) : Option Sl → Option (Option V) → List Addr
  | some (.own _), some (some (.ref p)) => [p]
  | some (.tr t), some (some v) => TFoot H t v
  | _, _ => []
abbrev ft (H : Hp) (ρ : En) (σ : L2.St) (i : Nat) : List Addr := footO H ρ[i]? σ[i]?
def SlotR (K : PySem.W.Frag) (c : C0) (Hf H : Hp) : Sl → Option V → Prop
  | .no, _ => True
  | .val d, o => ∃ v, o = some v ∧ Rep K Hf v d
  | .own ds, o => ∃ p vs, o = some (.ref p) ∧ H p = some (.lst vs) ∧ Hf p = none ∧ Reps K Hf vs ds ∧ ds.length ≤ lim
  | .tr t, o => isTr t = true ∧ ∃ v, o = some v ∧ TRep K Hf H t v ∧ (TFoot H t v).Nodup
  | .exn x d, o => ∃ a dx f v, o = some (.ref a) ∧ c.xa a dx x f ∧ H dx = some (.xd [(f, v)]) ∧ Rep K Hf v d

structure R (K : PySem.W.Frag) (c : C0) (ρ : En) (σ : L2.St) (Hf H : Hp) : Prop where
  len : σ.length = ρ.length
  sl : ∀ (i : Nat) (s : Sl) (o : Option V), ρ[i]? = some s → σ[i]? = some o → SlotR K c Hf H s o
  may : ∀ i a, a ∈ ft H ρ σ i → c.fs a ∨ c.H a = none
  inj : ∀ i j a, a ∈ ft H ρ σ i → a ∈ ft H ρ σ j → i = j
  sub : Same Hf H
  f0 : Same c.Hf Hf
  keep : ∀ a o, c.H a = some o → ¬ c.fs a → H a = some o
  live : ∀ a o, c.H a = some o → ∃ u, H a = some u
  out : ∀ a o, c.H a = some o → c.Hf a = none → ¬ c.fs a → Hf a = none
  par : ∀ i p, (i, p) ∈ c.ps → σ[i]? = some (some (.ref p)) ∧ ∃ s, ρ[i]? = some s ∧ sKind s = some (c.kd i)
/-- no slot owns it -/
def NoOwn (ρ : En) (σ : L2.St) (H : Hp) (p : Addr) : Prop := ∀ j, p ∉ ft H ρ σ j

section
variable {K : PySem.W.Frag} {c : C0} {ρ : En} {σ : L2.St} {Hf H Hf' H' : Hp}
theorem R.at (r : R K c ρ σ Hf H) {i : Nat} {s : Sl} (h : ρ[i]? = some s) : ∃ o, σ[i]? = some o ∧ SlotR K c Hf H s o := by
  have hl := (List.getElem?_eq_some_iff.mp h).1
  have hl2 : i < σ.length := by rw [r.len]; exact hl
  have hs : σ[i]? = some (σ[i]'hl2) := List.getElem?_eq_getElem hl2
  exact ⟨_, hs, r.sl i s _ h hs⟩
theorem R.val (r : R K c ρ σ Hf H) (i : Nat) (d : D) (h : ρ[i]? = some (Sl.val d)) : ∃ v, σ[i]? = some (some v) ∧ Rep K Hf v d := by
  obtain ⟨o, h1, v, rfl, h2⟩ := r.at h
  exact ⟨v, h1, h2⟩
theorem R.own (r : R K c ρ σ Hf H) (i : Nat) (ds : List D) (h : ρ[i]? = some (Sl.own ds)) : ∃ p vs, σ[i]? = some (some (.ref p)) ∧ H p = some (.lst vs) ∧ Hf p = none ∧ Reps K Hf vs ds ∧ ds.length ≤ lim ∧ (c.fs p ∨ c.H p = none) := by
  obtain ⟨o, h1, p, vs, rfl, h2, h3, h4, h5⟩ := r.at h
  exact ⟨p, vs, h1, h2, h3, h4, h5, r.may i p (by show p ∈ footO H ρ[i]? σ[i]?; rw [h, h1]; exact List.mem_singleton.mpr rfl)⟩
theorem R.tre (r : R K c ρ σ Hf H) (i : Nat) (t : D) (h : ρ[i]? = some (Sl.tr t)) : ∃ v, σ[i]? = some (some v) ∧ isTr t = true ∧ TRep K Hf H t v ∧ (TFoot H t v).Nodup ∧ ∀ a ∈ TFoot H t v, c.fs a ∨ c.H a = none := by
  obtain ⟨o, h1, h0, v, rfl, h2, h3⟩ := r.at h
  exact ⟨v, h1, h0, h2, h3, fun a ha => r.may i a (by show a ∈ footO H ρ[i]? σ[i]?; rw [h, h1]; exact ha)⟩
theorem R.exn (r : R K c ρ σ Hf H) (i x : Nat) (d : D) (h : ρ[i]? = some (Sl.exn x d)) : ∃ a dx f v, σ[i]? = some (some (.ref a)) ∧ c.xa a dx x f ∧ H dx = some (.xd [(f, v)]) ∧ Rep K Hf v d := by
  obtain ⟨o, h1, a, dx, f, v, rfl, h2⟩ := r.at h
  exact ⟨a, dx, f, v, h1, h2⟩
theorem ft_own {i : Nat} {ds : List D} {p : Addr} (h : ρ[i]? = some (Sl.own ds)) (s : σ[i]? = some (some (.ref p))) : ft H ρ σ i = [p] := by
  show footO H ρ[i]? σ[i]? = _
  rw [h, s]
  rfl
theorem ft_tr {i : Nat} {t : D} {v : V} (h : ρ[i]? = some (Sl.tr t)) (s : σ[i]? = some (some v)) : ft H ρ σ i = TFoot H t v := by
  show footO H ρ[i]? σ[i]? = _
  rw [h, s]
  rfl
/-- two slots do not own the same list -/
theorem R.inj1 (r : R K c ρ σ Hf H) {i j : Nat} {di dj : List D} {p : Addr} (hi : ρ[i]? = some (Sl.own di)) (hj : ρ[j]? = some (Sl.own dj)) (si : σ[i]? = some (some (.ref p))) (sj : σ[j]? = some (some (.ref p))) : i = j :=
  r.inj i j p (by rw [ft_own hi si]; exact List.mem_singleton.mpr rfl) (by rw [ft_own hj sj]; exact List.mem_singleton.mpr rfl)
/-- what a slot owns is there, not frozen -/
theorem SlotR.fat {s : Sl} {o : Option V} (h : SlotR K c Hf H s o) : ∀ a ∈ footO H (some s) (some o), (∃ u, H a = some u ∧ ∀ fs, u ≠ .xd fs) ∧ Hf a = none := by
  intro a ha
  cases s with
  | no => cases ha
  | val d => cases ha
  | exn x d => cases ha
  | own ds =>
    obtain ⟨p, vs, rfl, h1, h2, _⟩ := h
    cases List.mem_singleton.mp (show a ∈ [p] from ha)
    exact ⟨⟨_, h1, fun _ z => by cases z⟩, h2⟩
  | tr t =>
    obtain ⟨_, v, rfl, h1, _⟩ := h
    exact h1.at a ha
theorem R.fat (r : R K c ρ σ Hf H) {i : Nat} {a : Addr} (h : a ∈ ft H ρ σ i) : (∃ u, H a = some u ∧ ∀ fs, u ≠ .xd fs) ∧ Hf a = none := by
  have h : a ∈ footO H ρ[i]? σ[i]? := h
  cases e : ρ[i]? with
  | none => rw [e] at h; cases h
  | some s =>
    obtain ⟨o, e2, q⟩ := r.at e
    rw [e, e2] at h
    exact q.fat a h
/-- a slot stays while what it owns stays -/
theorem SlotR.mono {s : Sl} {o : Option V} (h : SlotR K c Hf H s o) (sm : Same Hf Hf') (k : ∀ a ∈ footO H (some s) (some o), (∀ u, H a = some u → H' a = some u) ∧ Hf' a = none) (x : ∀ a fs, H a = some (.xd fs) → H' a = some (.xd fs)) :
    SlotR K c Hf' H' s o ∧ footO H' (some s) (some o) = footO H (some s) (some o) := by
  cases s with
  | no => exact ⟨trivial, rfl⟩
  | val d =>
    obtain ⟨v, rfl, h⟩ := h
    exact ⟨⟨v, rfl, h.mono sm⟩, rfl⟩
  | exn y d =>
    obtain ⟨a, dx, f, v, rfl, h1, h2, h3⟩ := h
    exact ⟨⟨a, dx, f, v, rfl, h1, x _ _ h2, h3.mono sm⟩, rfl⟩
  | own ds =>
    obtain ⟨p, vs, rfl, h1, h2, h3, h4⟩ := h
    obtain ⟨k1, k2⟩ := k p (List.mem_singleton.mpr rfl)
    exact ⟨⟨p, vs, rfl, k1 _ h1, k2, h3.mono sm, h4⟩, rfl⟩
  | tr t =>
    obtain ⟨h0, v, rfl, h1, h2⟩ := h
    obtain ⟨q1, q2⟩ := h1.mono sm k
    refine ⟨⟨h0, v, rfl, q1, ?_⟩, q2⟩
    rw [q2]
    exact h2
theorem foot_none {o : Option (Option V)} : footO H none o = [] := rfl
/-- the heap changes where no slot owns anything; what is frozen grows there -/
theorem R.heap (r : R K c ρ σ Hf H) (sm : Same Hf Hf') (sb : Same Hf' H') (k : ∀ i a, a ∈ ft H ρ σ i → (∀ u, H a = some u → H' a = some u) ∧ Hf' a = none) (x : ∀ a fs, H a = some (.xd fs) → H' a = some (.xd fs))
    (hk : ∀ a o, c.H a = some o → ¬ c.fs a → H a = some o → H' a = some o) (hl : ∀ a u, H a = some u → ∃ u, H' a = some u) (ho : ∀ a o, c.H a = some o → c.Hf a = none → ¬ c.fs a → Hf a = none → Hf' a = none) : R K c ρ σ Hf' H' := by
  have key : ∀ i, ft H' ρ σ i = ft H ρ σ i ∧ ∀ s o, ρ[i]? = some s → σ[i]? = some o → SlotR K c Hf' H' s o := fun i => by
    cases e : ρ[i]? with
    | none => exact ⟨by show footO H' ρ[i]? _ = footO H ρ[i]? _; rw [e]; rfl, fun s o z => by cases z⟩
    | some s =>
      obtain ⟨o, e2, q⟩ := r.at e
      have kk := k i
      have e3 : ft H ρ σ i = footO H (some s) (some o) := by show footO H ρ[i]? σ[i]? = _; rw [e, e2]
      rw [e3] at kk
      obtain ⟨q1, q2⟩ := q.mono sm kk x
      refine ⟨by show footO H' ρ[i]? σ[i]? = footO H ρ[i]? σ[i]?; rw [e, e2]; exact q2, fun s' o' z1 z2 => ?_⟩
      cases z1
      rw [e2] at z2
      cases z2
      exact q1
  refine ⟨r.len, fun i s o h1 h2 => (key i).2 s o h1 h2, fun i a h => ?_, fun i j a hi hj => ?_, sb, r.f0.trans sm, fun a o h n => hk a o h n (r.keep a o h n), fun a o h => ?_, fun a o h n m => ho a o h n m (r.out a o h n m), r.par⟩
  · rw [(key i).1] at h; exact r.may i a h
  · rw [(key i).1] at hi; rw [(key j).1] at hj; exact r.inj i j a hi hj
  · obtain ⟨u, h1⟩ := r.live a o h
    exact hl a u h1
theorem R.adv (r : R K c ρ σ Hf H) (a : Adv Hf H Hf' H') : R K c ρ σ Hf' H' :=
  r.heap a.f a.sub (fun i x h => ⟨fun u e => a.same _ _ e, by
    obtain ⟨⟨u, e, _⟩, n⟩ := r.fat h
    exact a.out x u e n⟩) (fun x fs e => a.same _ _ e) (fun x o _ _ e => a.same _ _ e) (fun x u e => ⟨u, a.same _ _ e⟩) fun x o h _ m n => a.out x o (r.keep x o h m) n
theorem ft_set_ne {i j : Nat} {s : Sl} {o : Option V} (h : i ≠ j) : ft H (ρ.set i s) (σ.set i o) j = ft H ρ σ j := by
  show footO H (ρ.set i s)[j]? (σ.set i o)[j]? = footO H ρ[j]? σ[j]?
  rw [List.getElem?_set_ne h, List.getElem?_set_ne h]
theorem ft_set_eq {i : Nat} {s : Sl} {o : Option V} (h : i < ρ.length) (h2 : i < σ.length) : ft H (ρ.set i s) (σ.set i o) i = footO H (some s) (some o) := by
  show footO H (ρ.set i s)[i]? (σ.set i o)[i]? = _
  rw [List.getElem?_set_self h, List.getElem?_set_self h2]
/-- slot i takes something else -/
theorem R.chg (r : R K c ρ σ Hf H) {i : Nat} {s : Sl} {o : Option V} (hs : SlotR K c Hf H s o) (hm : ∀ a ∈ footO H (some s) (some o), (c.fs a ∨ c.H a = none) ∧ ∀ j, j ≠ i → a ∉ ft H ρ σ j)
    (hp : ∀ p, (i, p) ∈ c.ps → o = some (.ref p) ∧ sKind s = some (c.kd i)) : R K c (ρ.set i s) (σ.set i o) Hf H := by
  have hl := r.len
  by_cases hi : i < ρ.length
  · have hi2 : i < σ.length := by rw [hl]; exact hi
    have eq := ft_set_eq (H := H) (s := s) (o := o) hi hi2
    have ne : ∀ {j}, i ≠ j → ft H (ρ.set i s) (σ.set i o) j = ft H ρ σ j := fun h => ft_set_ne h
    refine ⟨by rw [List.length_set, List.length_set]; exact hl, fun j t u h1 h2 => ?_, fun j a h => ?_, fun j k a hj hk => ?_, r.sub, r.f0, r.keep, r.live, r.out, fun j p h => ?_⟩
    · by_cases hj : i = j
      · subst hj
        rw [List.getElem?_set_self hi] at h1
        rw [List.getElem?_set_self hi2] at h2
        cases h1
        cases h2
        exact hs
      · rw [List.getElem?_set_ne hj] at h1 h2
        exact r.sl j t u h1 h2
    · by_cases hj : i = j
      · subst hj
        rw [eq] at h
        exact (hm a h).1
      · rw [ne hj] at h
        exact r.may j a h
    · by_cases h1 : i = j
      · by_cases h2 : i = k
        · exact h1.symm.trans h2
        · subst h1
          rw [eq] at hj
          rw [ne h2] at hk
          exact absurd hk ((hm a hj).2 k fun z => h2 z.symm)
      · by_cases h2 : i = k
        · subst h2
          rw [eq] at hk
          rw [ne h1] at hj
          exact absurd hj ((hm a hk).2 j fun z => h1 z.symm)
        · rw [ne h1] at hj
          rw [ne h2] at hk
          exact r.inj j k a hj hk
    · by_cases hj : i = j
      · subst hj
        obtain ⟨e1, e2⟩ := hp p h
        exact ⟨by rw [List.getElem?_set_self hi2, e1], s, List.getElem?_set_self hi, e2⟩
      · rw [List.getElem?_set_ne hj, List.getElem?_set_ne hj]
        exact r.par j p h
  · have e1 : ρ.set i s = ρ := List.set_eq_of_length_le (by omega)
    have e2 : σ.set i o = σ := List.set_eq_of_length_le (by omega)
    rw [e1, e2]
    exact r
/-- a slot takes a value (it isn't one of the handed things) -/
theorem R.setV (r : R K c ρ σ Hf H) {i : Nat} {v : V} {d : D} (hn : ∀ p, (i, p) ∉ c.ps) (hv : Rep K Hf v d) : R K c (ρ.set i (.val d)) (σ.set i (some v)) Hf H :=
  r.chg ⟨v, rfl, hv⟩ (fun a h => by cases h) fun p h => absurd h (hn p)
/-- a slot takes a new list of its own -/
theorem R.setO (r : R K c ρ σ Hf H) {i : Nat} {p : Addr} {vs : List V} {ds : List D} (hn : ∀ p, (i, p) ∉ c.ps) (hp : H p = some (.lst vs)) (hf : Hf p = none) (hr : Reps K Hf vs ds) (hz : ds.length ≤ lim) (h0 : c.fs p ∨ c.H p = none)
    (hd : NoOwn ρ σ H p) : R K c (ρ.set i (.own ds)) (σ.set i (some (.ref p))) Hf H :=
  r.chg ⟨p, vs, rfl, hp, hf, hr, hz⟩ (fun a h => by
    cases List.mem_singleton.mp (show a ∈ [p] from h)
    exact ⟨h0, fun j _ => hd j⟩) fun p h => absurd h (hn p)
/-- what slot i owns changes: one of its nodes, and what the slot is said to be -/
theorem R.upd1 (r : R K c ρ σ Hf H) {i : Nat} {s s' : Sl} {o : Option V} {p : Addr} {u : HO} (hi : ρ[i]? = some s) (ho : σ[i]? = some o) (hp : p ∈ ft H ρ σ i) (hs : SlotR K c Hf (upd H p u) s' o)
    (hm : ∀ a ∈ footO (upd H p u) (some s') (some o), (c.fs a ∨ c.H a = none) ∧ ∀ j, j ≠ i → a ∉ ft H ρ σ j) (hk : sKind s' = sKind s) : R K c (ρ.set i s') σ Hf (upd H p u) := by
  obtain ⟨⟨u0, hp0, hx⟩, hpf⟩ := r.fat hp
  have hlt := (List.getElem?_eq_some_iff.mp hi).1
  have hl2 : i < σ.length := by rw [r.len]; exact hlt
  have eset : σ.set i o = σ := by
    refine List.ext_getElem? fun j => ?_
    by_cases hj : i = j
    · subst hj; rw [List.getElem?_set_self hl2, ho]
    · rw [List.getElem?_set_ne hj]
  have key : ∀ j, i ≠ j → ft (upd H p u) (ρ.set i s') σ j = ft H ρ σ j ∧ ∀ t v, ρ[j]? = some t → σ[j]? = some v → SlotR K c Hf (upd H p u) t v := fun j hj => by
    have np : p ∉ ft H ρ σ j := fun z => hj (r.inj i j p hp z)
    cases e : ρ[j]? with
    | none => exact ⟨by show footO _ (ρ.set i s')[j]? _ = footO _ ρ[j]? _; rw [List.getElem?_set_ne hj, e]; rfl, fun _ _ z => by cases z⟩
    | some t =>
      obtain ⟨v, e2, q⟩ := r.at e
      have e3 : ft H ρ σ j = footO H (some t) (some v) := by show footO H ρ[j]? σ[j]? = _; rw [e, e2]
      rw [e3] at np
      obtain ⟨q1, q2⟩ := q.mono (Hf' := Hf) (H' := upd H p u) (Same.refl _) (fun a ha => ⟨fun w hw => by rw [upd_ne (fun z => np (by rw [← z]; exact ha))]; exact hw, (q.fat a ha).2⟩) (fun a fs h => by
        rw [upd_ne fun z => ?_]
        · exact h
        · subst z
          rw [hp0] at h
          cases h
          exact hx fs rfl)
      refine ⟨by show footO _ (ρ.set i s')[j]? σ[j]? = footO _ ρ[j]? σ[j]?; rw [List.getElem?_set_ne hj, e, e2]; exact q2, fun t' v' z1 z2 => ?_⟩
      cases z1
      rw [e2] at z2
      cases z2
      exact q1
  have eqi : ft (upd H p u) (ρ.set i s') σ i = footO (upd H p u) (some s') (some o) := by
    show footO _ (ρ.set i s')[i]? σ[i]? = _
    rw [List.getElem?_set_self hlt, ho]
  have pm : c.fs p ∨ c.H p = none := r.may i p hp
  refine ⟨by rw [List.length_set]; exact r.len, fun j t v h1 h2 => ?_, fun j a h => ?_, fun j k a hj hk' => ?_, fun a w h => ?_, r.f0, fun a w h n => ?_, fun a w h => ?_, r.out, fun j q h => ?_⟩
  · by_cases hj : i = j
    · subst hj
      rw [List.getElem?_set_self hlt] at h1
      rw [ho] at h2
      cases h1
      cases h2
      exact hs
    · rw [List.getElem?_set_ne hj] at h1
      exact (key j hj).2 t v h1 h2
  · by_cases hj : i = j
    · subst hj
      rw [eqi] at h
      exact (hm a h).1
    · rw [(key j hj).1] at h
      exact r.may j a h
  · by_cases h1 : i = j
    · by_cases h2 : i = k
      · exact h1.symm.trans h2
      · subst h1
        rw [eqi] at hj
        rw [(key k h2).1] at hk'
        exact absurd hk' ((hm a hj).2 k fun z => h2 z.symm)
    · by_cases h2 : i = k
      · subst h2
        rw [eqi] at hk'
        rw [(key j h1).1] at hj
        exact absurd hj ((hm a hk').2 j fun z => h1 z.symm)
      · rw [(key j h1).1] at hj
        rw [(key k h2).1] at hk'
        exact r.inj j k a hj hk'
  · have ha : a ≠ p := fun z => by subst z; rw [hpf] at h; cases h
    rw [upd_ne ha]; exact r.sub _ _ h
  · have ha : a ≠ p := fun z => by
      subst z
      rcases pm with pm | pm
      · exact n pm
      · rw [h] at pm; cases pm
    rw [upd_ne ha]; exact r.keep a w h n
  · by_cases ha : a = p
    · subst ha; exact ⟨u, upd_same⟩
    · rw [upd_ne ha]; exact r.live a w h
  · obtain ⟨e1, t, e2, e3⟩ := r.par j q h
    refine ⟨e1, ?_⟩
    by_cases hj : i = j
    · subst hj
      rw [hi] at e2
      cases e2
      exact ⟨s', List.getElem?_set_self hlt, hk.trans e3⟩
    · exact ⟨t, by rw [List.getElem?_set_ne hj]; exact e2, e3⟩
/-- an own list changes -/
theorem R.put (r : R K c ρ σ Hf H) {i : Nat} {ds ds' : List D} {p : Addr} {vs' : List V} (hi : ρ[i]? = some (Sl.own ds)) (hp : σ[i]? = some (some (.ref p))) (hr : Reps K Hf vs' ds') (hz : ds'.length ≤ lim) :
    R K c (ρ.set i (.own ds')) σ Hf (upd H p (.lst vs')) := by
  obtain ⟨p', vs, e, h1, h2, h3, _, h4⟩ := r.own i ds hi
  rw [hp] at e
  cases e
  have hm : p ∈ ft H ρ σ i := by rw [ft_own hi hp]; exact List.mem_singleton.mpr rfl
  refine r.upd1 hi hp hm ⟨p, vs', rfl, upd_same, h2, hr, hz⟩ (fun a ha => ?_) rfl
  cases List.mem_singleton.mp (show a ∈ [p] from ha)
  exact ⟨h4, fun j hj z => hj (r.inj j i p z hm)⟩
/-- what was frozen grows by what slot i owns; the slot holds the value -/
theorem R.frzG (r : R K c ρ σ Hf H) {i : Nat} {s : Sl} {v : V} {d : D} (hi : ρ[i]? = some s) (ho : σ[i]? = some (some v)) (hn : ∀ p, (i, p) ∉ c.ps)
    (hf' : Hf' = fun a => if a ∈ ft H ρ σ i then H a else Hf a) (hv : Rep K Hf' v d) : Same Hf Hf' ∧ R K c (ρ.set i (.val d)) σ Hf' H := by
  have sm : Same Hf Hf' := fun a u h => by
    rw [hf']
    by_cases ha : a ∈ ft H ρ σ i
    · rw [(r.fat ha).2] at h; cases h
    · show (if _ then _ else _) = _; rw [if_neg ha]; exact h
  have sb : Same Hf' H := fun a u h => by
    rw [hf'] at h
    have h : (if a ∈ ft H ρ σ i then H a else Hf a) = some u := h
    by_cases ha : a ∈ ft H ρ σ i
    · rw [if_pos ha] at h; exact h
    · rw [if_neg ha] at h; exact r.sub _ _ h
  have hlt := (List.getElem?_eq_some_iff.mp hi).1
  have hl2 : i < σ.length := by rw [r.len]; exact hlt
  have r1 : R K c (ρ.set i .no) σ Hf H := by
    have := r.chg (i := i) (s := .no) (o := some v) trivial (fun a h => by cases h) fun p h => absurd h (hn p)
    have eset : σ.set i (some v) = σ := by
      refine List.ext_getElem? fun j => ?_
      by_cases hj : i = j
      · subst hj; rw [List.getElem?_set_self hl2, ho]
      · rw [List.getElem?_set_ne hj]
    rw [eset] at this
    exact this
  have r2 : R K c (ρ.set i .no) σ Hf' H := r1.heap sm sb (fun j a ha => ⟨fun u e => e, by
    have hj : i ≠ j := fun z => by
      subst z
      have : a ∈ footO H (ρ.set i .no)[i]? σ[i]? := ha
      rw [List.getElem?_set_self hlt] at this
      cases this
    have ha' : a ∈ ft H ρ σ j := by
      have : a ∈ footO H (ρ.set i .no)[j]? σ[j]? := ha
      rw [List.getElem?_set_ne hj] at this
      exact this
    rw [hf']
    show (if _ then _ else _) = _
    rw [if_neg fun z => hj (r.inj i j a z ha')]
    exact (r.fat ha').2⟩) (fun a fs h => h) (fun a o _ _ h => h) (fun a u h => ⟨u, h⟩) fun a o h n m e => by
      rw [hf']
      show (if _ then _ else _) = _
      rw [if_neg fun z => by
        rcases r.may i a z with k | k
        · exact m k
        · rw [h] at k; cases k]
      exact e
  refine ⟨sm, ?_⟩
  have r3 := r2.chg (i := i) (s := .val d) (o := some v) ⟨v, rfl, hv⟩ (fun a h => by cases h) fun p h => absurd h (hn p)
  have e1 : (ρ.set i .no).set i (.val d) = ρ.set i (.val d) := List.set_set ..
  have eset : σ.set i (some v) = σ := by
    refine List.ext_getElem? fun j => ?_
    by_cases hj : i = j
    · subst hj; rw [List.getElem?_set_self hl2, ho]
    · rw [List.getElem?_set_ne hj]
  rw [e1, eset] at r3
  exact r3
/-- an own list (a new one, not handed in) is frozen -/
theorem R.frz (r : R K c ρ σ Hf H) {i : Nat} {ds : List D} (hi : ρ[i]? = some (Sl.own ds)) (hn : ∀ p, (i, p) ∉ c.ps) :
    ∃ p vs, σ[i]? = some (some (.ref p)) ∧ H p = some (.lst vs) ∧ Same Hf (upd Hf p (.lst vs)) ∧ R K c (ρ.set i (.val (.lst ds))) σ (upd Hf p (.lst vs)) H := by
  obtain ⟨p, vs, e, h1, h2, h3, hz, h4⟩ := r.own i ds hi
  have sm : Same Hf (upd Hf p (.lst vs)) := same_upd h2
  obtain ⟨_, q⟩ := r.frzG (Hf' := upd Hf p (.lst vs)) (d := .lst ds) hi e hn (by
    funext a
    rw [ft_own hi e]
    by_cases ha : a = p
    · subst ha; rw [upd_same, if_pos (List.mem_singleton.mpr rfl), h1]
    · rw [upd_ne ha, if_neg fun z => ha (List.mem_singleton.mp z)]) (.lst (SqL.of upd_same) (h3.mono sm) hz)
  exact ⟨p, vs, e, h1, sm, q⟩
end

/-! ### what an evaluation gives -/
/-- a value, or the list that slot i owns -/
inductive Rv where
  | d (d : D) | o (i : Nat)
  deriving Inhabited
def deref (ρ : En) : Rv → Option D
  | .d d => some d
  | .o i => match ρ[i]? with
    | some (.own ds) => some (.lst ds)
    | _ => none
inductive O (β : Type) where
  | ok (a : β) (ρ : En) | exc (c : Nat) (d : D) (ρ : En) | bad
def O.bind {β γ : Type} (x : O β) (f : β → En → O γ) : O γ := match x with
  | .ok a ρ => f a ρ
  | .exc c d ρ => .exc c d ρ
  | .bad => .bad
/-- some d | bad -/
def O.opt {β : Type} (x : Option β) (ρ : En) : O β := match x with
  | some a => .ok a ρ
  | none => .bad

def RvR (K : PySem.W.Frag) (σ : L2.St) (Hf : Hp) (v : V) : Rv → Prop
  | .d d => Rep K Hf v d
  | .o i => σ[i]? = some (some v)
theorem RvR.mono {K : PySem.W.Frag} {σ : L2.St} {Hf Hf' : Hp} {v : V} {rv : Rv} (e : Same Hf Hf') (h : RvR K σ Hf v rv) : RvR K σ Hf' v rv := by
  cases rv with
  | d d => exact Rep.mono e h
  | o i => exact h
/-- represented, or a list that is read on the spot -/
def RepB (K : PySem.W.Frag) (Hf H : Hp) (v : V) (d : D) : Prop := Rep K Hf v d ∨ ∃ p vs ds, v = .ref p ∧ d = .lst ds ∧ H p = some (.lst vs) ∧ Reps K Hf vs ds ∧ ds.length ≤ lim
theorem RvR.deref {K : PySem.W.Frag} {c : C0} {ρ : En} {σ : L2.St} {Hf H : Hp} {v : V} {rv : Rv} {d : D} (r : R K c ρ σ Hf H) (h : RvR K σ Hf v rv) (e : Mini.deref ρ rv = some d) : RepB K Hf H v d := by
  cases rv with
  | d d' => cases e; exact .inl h
  | o i =>
    cases hj : ρ[i]? with
    | none => simp [Mini.deref, hj] at e
    | some sl =>
      cases sl with
      | no => simp [Mini.deref, hj] at e
      | val x => simp [Mini.deref, hj] at e
      | exn _ _ => simp [Mini.deref, hj] at e
      | tr _ => simp [Mini.deref, hj] at e
      | own ds =>
        simp [Mini.deref, hj] at e
        subst e
        obtain ⟨p, vs, e1, h1, _, h3, hz, _⟩ := r.own _ _ hj
        rw [show σ[i]? = some (some v) from h] at e1
        cases e1
        exact .inr ⟨p, vs, ds, rfl, rfl, h1, h3, hz⟩

/-! ### the shape of readings -/
/-- exceptions: their classes by number -/
structure Gx where
  xc : Nat → Addr
  xf : Nat → Str
  n : Nat
def XRep (g : Gx) (K : PySem.W.Frag) (Hf H : Hp) (c : Nat) (d : D) (cls : Value) (dx : Option Addr) : Prop :=
  cls = .ref (g.xc c) ∧ c < g.n ∧ ∃ a v, dx = some a ∧ H a = some (.xd [(g.xf c, v)]) ∧ Rep K Hf v d

section
variable (g : Gx) (K : PySem.W.Frag) (c : C0) (W : WX) (σ : L2.St)
def post {β : Type} (Hf : Hp) (k : β → En → Hp → Hp → Prop) : O β → Prop
  | .ok a ρ => ∀ H' Hf', R K c ρ σ Hf' H' → Same Hf Hf' → k a ρ Hf' H'
  | .exc x d ρ => ∀ cls dx H' Hf', R K c ρ σ Hf' H' → Same Hf Hf' → XRep g K Hf' H' x d cls dx → W cls dx σ H'
  | .bad => False
end
abbrev EvF (β : Type) := En → O β
def rdE (g : Gx) (K : PySem.W.Frag) (c : C0) (W : WX) (e : EvF Rv) : TE := fun σ H Q => ∃ Hf ρ, R K c ρ σ Hf H ∧ post g K c W σ Hf (fun rv _ Hf' H' => ∀ v, RvR K σ Hf' v rv → Q v H') (e ρ)
def rdT (g : Gx) (K : PySem.W.Frag) (c : C0) (W : WX) (e : EvF Bool) : TT := fun σ H Q => ∃ Hf ρ, R K c ρ σ Hf H ∧ post g K c W σ Hf (fun b _ _ H' => Q b H') (e ρ)
inductive RvsR (K : PySem.W.Frag) (σ : L2.St) (Hf : Hp) : List V → List Rv → Prop
  | nil : RvsR K σ Hf [] []
  | cons {v : V} {vs : List V} {r : Rv} {rs : List Rv} : RvR K σ Hf v r → RvsR K σ Hf vs rs → RvsR K σ Hf (v :: vs) (r :: rs)
theorem RvsR.mono {K : PySem.W.Frag} {σ : L2.St} {Hf Hf' : Hp} (e : Same Hf Hf') : ∀ {vs : List V} {rs : List Rv}, RvsR K σ Hf vs rs → RvsR K σ Hf' vs rs
  | _, _, .nil => .nil
  | _, _, .cons h r => .cons (h.mono e) (RvsR.mono e r)
def rdA (g : Gx) (K : PySem.W.Frag) (c : C0) (W : WX) (e : EvF (List Rv)) : TA := fun σ H Q => ∃ Hf ρ, R K c ρ σ Hf H ∧ post g K c W σ Hf (fun rs _ Hf' H' => ∀ vs, RvsR K σ Hf' vs rs → Q vs H') (e ρ)

section
variable {g : Gx} {K : PySem.W.Frag} {c : C0} {W : WX} {σ : L2.St}
theorem post.mono {β : Type} {Hf Hf1 : Hp} {k k' : β → En → Hp → Hp → Prop} {x : O β} (s : Same Hf Hf1) (h : post g K c W σ Hf k x) (hk : ∀ a ρ Hf' H', k a ρ Hf' H' → k' a ρ Hf' H') : post g K c W σ Hf1 k' x := by
  cases x with
  | ok a ρ => exact fun H' Hf' r q => hk _ _ _ _ (h H' Hf' r (s.trans q))
  | exc x d ρ => exact fun cls dx H' Hf' r q => h cls dx H' Hf' r (s.trans q)
  | bad => exact h
/-- the first part of a sequence -/
theorem post.bind {β γ : Type} {Hf : Hp} {x : O β} {f : β → En → O γ} {k : γ → En → Hp → Hp → Prop} {k1 : β → En → Hp → Hp → Prop} (h : post g K c W σ Hf k (x.bind f))
    (hk : ∀ a ρ Hf1 H1, R K c ρ σ Hf1 H1 → Same Hf Hf1 → post g K c W σ Hf1 k (f a ρ) → k1 a ρ Hf1 H1) : post g K c W σ Hf k1 x := by
  cases x with
  | ok a ρ => exact fun H' Hf' r q => hk _ _ _ _ r q (post.mono (k := k) q h fun _ _ _ _ z => z)
  | exc x d ρ => exact h
  | bad => exact h
theorem post.opt {β : Type} {Hf : Hp} {ρ : En} {x : Option β} {k : β → En → Hp → Hp → Prop} (h : post g K c W σ Hf k (O.opt x ρ)) : ∃ a, x = some a ∧ ∀ H' Hf', R K c ρ σ Hf' H' → Same Hf Hf' → k a ρ Hf' H' := by
  cases x with
  | none => exact h.elim
  | some a => exact ⟨a, rfl, h⟩
theorem post.optb {β γ : Type} {Hf : Hp} {ρ : En} {x : Option β} {f : β → En → O γ} {k : γ → En → Hp → Hp → Prop} (h : post g K c W σ Hf k ((O.opt x ρ).bind f)) : ∃ a, x = some a ∧ post g K c W σ Hf k (f a ρ) := by
  cases x with
  | none => exact h.elim
  | some a => exact ⟨a, rfl, h⟩
end

theorem PE_imp {X : Cx} {e : Expr} {t t' : TE} (h : PE X e t) (f : ∀ σ H Q, t' σ H Q → t σ H Q) : PE X e t' := ⟨fun pins s σ H Q I q => h.run pins s σ H Q I (f _ _ _ q)⟩
theorem PT_imp {X : Cx} {e : Expr} {t t' : TT} (h : PT X e t) (f : ∀ σ H Q, t' σ H Q → t σ H Q) : PT X e t' := ⟨fun pins s σ H Q I q => h.run pins s σ H Q I (f _ _ _ q)⟩
theorem PA_imp {X : Cx} {es : List Expr} {t t' : TA} (h : PA X es t) (f : ∀ σ H Q, t' σ H Q → t σ H Q) : PA X es t' := ⟨fun pos pins s σ H Q I q => h.run pos pins s σ H Q I (f _ _ _ q)⟩
theorem PS_imp {X : Cx} {e : Stmt} {t t' : TS} (h : PS X e t) (f : ∀ D σ H, t' D σ H → t D σ H) : PS X e t' := ⟨fun pins s σ H D I q => h.run pins s σ H D I (f _ _ _ q)⟩
theorem PSs_imp {X : Cx} {e : List Stmt} {t t' : TS} (h : PSs X e t) (f : ∀ D σ H, t' D σ H → t D σ H) : PSs X e t' := ⟨fun pins s σ H D I q => h.run pins s σ H D I (f _ _ _ q)⟩

end Mini
end

section
set_option Elab.async false
set_option linter.all false
set_option maxRecDepth 100000
/-! M2: the small language and what it evaluates to. -/
namespace Mini
open PySem L2

/-! ### data: ==, depth, order -/
def b2z (b : Bool) : Int := if b then 1 else 0
mutual
def deq : D → D → Bool
  | .non, .non => true
  | .bl a, .bl b => a == b
  | .bl a, .int j => b2z a == j
  | .int i, .bl b => i == b2z b
  | .int i, .int j => i == j
  | .str x, .str y => x == y
  | .lst xs, .lst ys => deqs xs ys
  | .tup xs, .tup ys => deqs xs ys
  | .dic _ _, .dic _ _ => true
  | .ob _ _ _, .ob _ _ _ => true
  | .ml _, .ml _ => true
  | .md _ _, .md _ _ => true
  | .mo _ _ _, .mo _ _ _ => true
  | _, _ => false
def deqs : List D → List D → Bool
  | [], [] => true
  | x :: xs, y :: ys => deq x y && deqs xs ys
  | _, _ => false
end
mutual
def dep : D → Nat
  | .tup ds => deps ds + 1
  | .lst ds => deps ds + 1
  | .dic _ _ => 1000
  | .ob _ _ _ => 1000
  | .ml _ => 1000
  | .md _ _ => 1000
  | .mo _ _ _ => 1000
  | _ => 0
def deps : List D → Nat
  | [] => 0
  | x :: xs => max (dep x) (deps xs)
end
/-- a == b -/
def eqO (a b : D) : Option Bool := if max (dep a) (dep b) ≤ 60 then some (deq a b) else none
def flatD : D → Bool
  | .tup _ => false
  | .lst _ => false
  | _ => true
/-- x in ds -/
def inO (x : D) (ds : List D) : Option Bool := if max (deps ds) (dep x) ≤ 60 then some (ds.any fun y => deq y x) else none
def dInts : List D → Option (List Int)
  | [] => some []
  | .int i :: r => (dInts r).map (i :: ·)
  | _ :: _ => none
def dStrs : List D → Option (List (List Nat))
  | [] => some []
  | .str i :: r => (dStrs r).map (i :: ·)
  | _ :: _ => none
def dBools : List D → Option (List Bool)
  | [] => some []
  | .bl i :: r => (dBools r).map (i :: ·)
  | _ :: _ => none
mutual
/-- x < y: the first place that differs decides -/
def ltD : D → D → Option Bool
  | .int i, .int j => some (decide (i < j))
  | .bl i, .bl j => some (decide (b2z i < b2z j))
  | .str x, .str y => some (decide (x < y))
  | .tup x, .tup y => ltDs x y
  | .lst x, .lst y => ltDs x y
  | _, _ => none
def ltDs : List D → List D → Option Bool
  | [], ys => some (!ys.isEmpty)
  | _ :: _, [] => some false
  | x :: xs, y :: ys => if deq x y = true then ltDs xs ys else ltD x y
end
def ltG (a b : D) : Option Bool := if max (dep a) (dep b) ≤ 60 then ltD a b else none
def ltO : D → D → Option Bool
  | .int i, .int j => some (decide (i < j))
  | .bl i, .bl j => some (decide (b2z i < b2z j))
  | .str x, .str y => some (decide (x < y))
  | .tup x, .tup y => match dInts x, dInts y with
    | some a, some b => some (HT.lexLt a b)
    | _, _ => ltG (.tup x) (.tup y)
  | .lst x, .lst y => ltG (.lst x) (.lst y)
  | _, _ => none
/-- y occurs in x -/
def subOf (y : List Nat) : List Nat → Bool
  | [] => y.isEmpty
  | c :: x => y.isPrefixOf (c :: x) || subOf y x
def memO (x : D) : D → Option Bool
  | .tup ds => inO x ds
  | .lst ds => inO x ds
  | .str z => match x with
    | .str [c] => some (z.contains c)
    | .str y => some (subOf y z)
    | _ => none
  | _ => none

inductive BOp where
  | add | sub | mul | fdiv | mod | pow
  deriving DecidableEq
def big : Int := 2 ^ 64
def small (i : Int) : Bool := decide (-big < i) && decide (i < big)
def bop : BOp → D → D → Option D
  | .add, .int i, .int j => some (.int (i + j))
  | .add, .str a, .str b => if a.length + b.length ≤ lim then some (.str (a ++ b)) else none
  | .add, .tup a, .tup b => if a.length + b.length ≤ lim then some (.tup (a ++ b)) else none
  | .add, .lst a, .lst b => if a.length + b.length ≤ lim then some (.lst (a ++ b)) else none
  | .sub, .int i, .int j => some (.int (i - j))
  | .mul, .str a, .int n => if -1000 < n ∧ n < 1000 ∧ a.length ≤ 1000 then some (.str (List.replicate n.toNat a).flatten) else none
  | .mul, .int i, .int j => if small i || small j then some (.int (i * j)) else none
  | .fdiv, .int i, .int j => if j ≠ 0 ∧ j.natAbs < 1073741824 then some (.int (i.fdiv j)) else none
  | .mod, .int i, .int j => if j ≠ 0 then some (.int (i.fmod j)) else none
  | .pow, .int i, .int j => if 0 ≤ j ∧ j ≤ 1000 ∧ i.natAbs < 2 ^ 64 then some (.int (i ^ j.toNat)) else none
  | _, _, _ => none
/-- list + list -/
def catD : D → D → Option D
  | .lst a, .lst b => if a.length + b.length ≤ lim then some (.lst (a ++ b)) else none
  | _, _ => none
inductive COp where
  | eq | ne | lt | le | gt | ge | isIn | notIn | is | isNot
  deriving DecidableEq
def cop : COp → D → D → Option Bool
  | .eq, a, b => eqO a b
  | .ne, a, b => (eqO a b).map (!·)
  | .lt, a, b => ltO a b
  | .gt, a, b => match a, b with
    | .int i, .int j => some (decide (j < i))
    | .str i, .str j => some (decide (j < i))
    | _, _ => none
  | .le, .int i, .int j => some (decide (i ≤ j))
  | .le, _, _ => none
  | .ge, .int i, .int j => some (decide (j ≤ i))
  | .ge, _, _ => none
  | .isIn, a, b => memO a b
  | .notIn, a, b => (memO a b).map (!·)
  | .is, a, b => match b with
    | .non => some (match a with | .non => true | _ => false)
    | .bl y => some (match a with | .bl x => x == y | _ => false)
    | _ => none
  | .isNot, a, b => match b with
    | .non => some (match a with | .non => false | _ => true)
    | .bl y => some (match a with | .bl x => !(x == y) | _ => true)
    | _ => none

/-- where a text stands first -/
def idxT (s : List Nat) : List (List Nat) → Option Nat
  | [] => none
  | x :: xs => if x = s then some 0 else (idxT s xs).map (· + 1)

/-! ### built-in functions, methods -/
inductive Ty where
  | int | bool | str | tup | lst | dic | non
  deriving DecidableEq
def isTy : Ty → D → Bool
  | .int, .int _ => true
  | .int, .bl _ => true
  | .bool, .bl _ => true
  | .str, .str _ => true
  | .tup, .tup _ => true
  | .lst, .lst _ => true
  | .dic, .dic _ _ => true
  | _, _ => false
def isDig (c : Nat) : Bool := decide (48 ≤ c) && decide (c ≤ 57)
def digVal (cs : List Nat) : Nat := cs.foldl (fun a c => a * 10 + (c - 48)) 0
/-- the written form of an int -/
def intS (i : Int) : List Nat := if i < 0 then 45 :: TL.numL i.natAbs else TL.numL i.natAbs
/-- the ints in order -/
def insI (x : Int) : List Int → List Int
  | [] => [x]
  | y :: ys => if x ≤ y then x :: y :: ys else y :: insI x ys
def sortI : List Int → List Int
  | [] => []
  | x :: xs => insI x (sortI xs)
inductive BI where
  | len | abs | min2 | max2 | min1 | max1 | sum | all | any | int | str | list | tuple | sorted | dict
  deriving DecidableEq
def maxI : List Int → Option Int
  | [] => none
  | x :: xs => some (xs.foldl max x)
def minI : List Int → Option Int
  | [] => none
  | x :: xs => some (xs.foldl min x)
/-- pairs (text, value) -/
def pairsD : List D → Option (List (List Nat × D))
  | [] => some []
  | .tup [.str k, v] :: r => (pairsD r).map ((k, v) :: ·)
  | _ :: _ => none
/-- what a dict holds at a text -/
def lookD : D → List Nat → Option D
  | .dic ks vs, s => (ks.zip vs).lookup s
  | _, _ => none
/-- what a dict that still changes holds at a text: a value -/
def mdGet : D → List Nat → Option D
  | .md ks ds, s => match (ks.zip ds).lookup s with
    | some d => if isTr d then none else some d
    | none => none
  | _, _ => none
/-- t[s] = d; all values are no trees -/
def mdPut : D → List Nat → D → Option D
  | .md ks ds, s, d => if ds.all (fun d => !isTr d) && (okS s && decide (ks.length < lim)) then (if ks.contains s then some (.md ks (List.zipWith (fun k x => if k = s then d else x) ks ds)) else some (.md (ks ++ [s]) (ds ++ [d]))) else none
  | _, _, _ => none
def bi : BI → List D → Option D
  | .len, [.str x] => some (.int x.length)
  | .len, [.tup x] => some (.int x.length)
  | .len, [.lst x] => some (.int x.length)
  | .abs, [.int i] => some (.int (if i < 0 then -i else i))
  | .max2, [.int i, .int j] => some (.int (if j > i then j else i))
  | .min2, [.int i, .int j] => some (.int (if j < i then j else i))
  | .all, [.lst x] => (dBools x).map fun bs => .bl (bs.all id)
  | .any, [.lst x] => (dBools x).map fun bs => .bl (bs.any id)
  | .sum, [.lst x] => (dInts x).map fun is => .int is.sum
  | .sum, [.tup x] => (dInts x).map fun is => .int is.sum
  | .max1, [.lst x] => (dInts x).bind fun is => (maxI is).map .int
  | .max1, [.tup x] => (dInts x).bind fun is => (maxI is).map .int
  | .min1, [.lst x] => (dInts x).bind fun is => (minI is).map .int
  | .min1, [.tup x] => (dInts x).bind fun is => (minI is).map .int
  | .sorted, [.lst x] => (dInts x).bind fun is => if is.length < 64 then some (.lst ((sortI is).map .int)) else none
  | .sorted, [.tup x] => (dInts x).bind fun is => if is.length < 64 then some (.lst ((sortI is).map .int)) else none
  | .int, [.int i] => some (.int i)
  | .int, [.bl b] => some (.int (b2z b))
  | .int, [.str x] => if x.length ≤ 640 then (match x with
    | 45 :: cs => if cs ≠ [] ∧ cs.all isDig = true then some (.int (-((digVal cs : Nat) : Int))) else none
    | _ => if x ≠ [] ∧ x.all isDig = true then some (.int (digVal x)) else none) else none
  | .str, [.int i] => if i.natAbs < 10 ^ 100 then some (.str (intS i)) else none
  | .list, [.tup x] => some (.lst x)
  | .list, [.lst x] => some (.lst x)
  | .tuple, [.tup x] => some (.tup x)
  | .tuple, [.lst x] => some (.tup x)
  | .dict, [.lst x] => (pairsD x).bind fun ps => if (ps.map (·.1)).Nodup then some (.dic (ps.map (·.1)) (ps.map (·.2))) else none
  | _, _ => none
inductive ME where
  | join | split | startswith | index | count
  deriving DecidableEq
/-- where c stands first -/
def idxC (c : Nat) : List Nat → Option Nat
  | [] => none
  | x :: xs => if x = c then some 0 else (idxC c xs).map (· + 1)
def joinC (s : List Nat) : List (List Nat) → List Nat
  | [] => []
  | [x] => x
  | x :: y :: r => x ++ s ++ joinC s (y :: r)
def splitC (c : Nat) (acc : List Nat) : List Nat → List (List Nat)
  | [] => [acc]
  | x :: xs => if x = c then acc :: splitC c [] xs else splitC c (acc ++ [x]) xs
def me : ME → D → List D → Option D
  | .join, .str s, [.lst x] => match dStrs x with
    | some ys => if (joinC s ys).length ≤ lim then some (.str (joinC s ys)) else none
    | none => none
  | .split, .str s, [.str [c]] => if c < 128 ∧ s.length < lim then some (.lst ((splitC c [] s).map .str)) else none
  | .startswith, .str s, [.str p] => some (.bl (p.isPrefixOf s))
  | .index, .str s, [.str [c]] => (idxC c s).map fun (n : Nat) => D.int (n : Int)
  | _, _, _ => none

/-- methods of tuples -/
inductive TM where
  | index | count
  deriving DecidableEq
def asTu : D → Option (List D)
  | .tup ds => some ds
  | _ => none
def tmD : TM → List D → D → Option D
  | .count, ds, .int k => (dInts ds).map fun is => .int ((is.countP fun y => decide (y = k) : Nat) : Int)
  | .index, ds, .str s => (dStrs ds).bind fun ss => (idxT s ss).map fun (n : Nat) => .int (n : Int)
  | _, _, _ => none
/-! ### items, slices -/
def atD (d : D) (i : Int) : Option D := match d with
  | .tup ds => atI ds i
  | .lst ds => atI ds i
  | .str cs => (atI cs i).map fun c => .str [c]
  | _ => none
def cutL {α : Type} (xs : List α) (lo hi : Option Int) : List α := (xs.drop (HT.sIx xs.length 0 lo)).take (HT.sIx xs.length xs.length hi - HT.sIx xs.length 0 lo)
def cutD (d : D) (lo hi : Option Int) : Option D := match d with
  | .tup ds => some (.tup (cutL ds lo hi))
  | .lst ds => some (.lst (cutL ds lo hi))
  | .str cs => some (.str (cutL cs lo hi))
  | _ => none
def revD : D → Option D
  | .tup ds => some (.tup ds.reverse)
  | .lst ds => some (.lst ds.reverse)
  | .str cs => some (.str cs.reverse)
  | _ => none
/-- list(reversed(x)), x a tuple -/
def lrevD : D → Option D
  | .tup ds => some (.lst ds.reverse)
  | _ => none
def items : D → Option (List D)
  | .tup ds => some ds
  | .lst ds => some ds
  | .str cs => some (cs.map fun c => .str [c])
  | _ => none
def asI : D → Option Int
  | .int i => some i
  | _ => none
def asB : D → Option Bool
  | .bl i => some i
  | _ => none
def asS : D → Option (List Nat)
  | .str i => some i
  | _ => none
def rngOk (i : Int) : Bool := decide (-(2 ^ 62) ≤ i) && decide (i < 2 ^ 62)
def rng (lo hi : Int) : List D := (List.range (hi - lo).toNat).map fun (k : Nat) => D.int (lo + (k : Int))
/-- range(hi, lo, -1) -/
def rngD (hi lo : Int) : List D := (List.range (hi - lo).toNat).map fun (k : Nat) => D.int (hi - (k : Int))

/-! ### the language -/
inductive MR where
  | ok (d : D) (outs : List (List D)) | exc (c : Nat) (d : D) (outs : List (List D)) | bad
  /-- the answer is a new tree -/
  | tre (t : D) (outs : List (List D))
structure CallF where
  name : Str
  /-- which arguments are lists that the def changes -/
  md : List Bool
  /-- the answer is a new list -/
  fr : Bool
  F : List D → MR
inductive Tgt where
  | n (i : Nat) | t (is : List Nat)
  deriving DecidableEq
mutual
inductive E where
  | v (i : Nat) | c (d : D) | g (x : Str) (d : D)
  | gix (x : Str) (t : List (List Nat × D)) (e : E) | gin (neg : Bool) (x : Str) (t : List (List Nat × D)) (e : E)
  /-- X.index(e), X a tuple of texts of the module -/
  | gti (x : Str) (t : List (List Nat)) (e : E)
  /-- sorted(X), X a dict of the module with text keys: ys -/
  | gsd (x : Str) (ys : List (List Nat))
  /-- slot i holds an exception of class c: its field f; isinstance(it, C), which is b -/
  | fld (i c : Nat) (f : Str) | isx (i c : Nat) (C : Str) (b : Bool)
  | bin (o : BOp) (a b : E) | neg (a : E) | not (a : E)
  | cmp (o : COp) (a b : E) | chn (o p : COp) (a b c : E)
  | and (es : List E) | or (es : List E) | ite (t a b : E)
  | tup (es : List E) | lst (es : List E)
  | call (f : CallF) (es : List E)
  | bi (b : BI) (es : List E)
  | me (m : ME) (o : E) (es : List E)
  | tm (m : TM) (o e : E)
  | isi (ts : List Ty) (a : E)
  | ix (a b : E)
  /-- a[b], a dict with text keys -/
  | dix (a b : E) | slLo (a l : E) | slHi (a h : E) | slLH (a l h : E) | rev (a : E) | lrev (a : E)
  /-- slot i's own dict, at b -/
  | dg (i : Nat) (b : E)
  /-- a + b, lists: a new list -/
  | cat (a b : E)
  | pop (i : Nat)
  | lc (t : Tgt) (own : List Nat) (s : Src) (ifs : List E) (elt : E)
inductive Src where
  | it (e : E) | r1 (a : E) | r2 (a b : E) | rd (a b : E)
end

/-- slot i owns a list or a tree -/
def isOwnT (ρ : En) (i : Nat) : Bool := match ρ[i]? with
  | some (.own _) => true
  | some (.tr _) => true
  | _ => false
def setSl (ρ : En) (i : Nat) (s : Sl) : En := ρ.set i s
def wipeE (ρ : En) : List Nat → En
  | [] => ρ
  | v :: vs => (wipeE ρ vs).set v .no
/-- the slots vs as they were in ρ0 -/
def backE (ρ0 ρ : En) : List Nat → En
  | [] => ρ
  | v :: vs => (backE ρ0 ρ vs).set v (ρ0.getD v .no)
/-- none of these slots owns a list -/
def freeE (ρ : En) (vs : List Nat) : Bool := vs.all fun v => match ρ[v]? with
  | some (.own _) => false
  | some (.exn _ _) => false
  | some (.tr _) => false
  | _ => true
/-- a value into a slot that owns no list -/
def setV (ρ : En) (i : Nat) (d : D) : Option En := match ρ[i]? with
  | some (.own _) => none
  | some (.tr _) => none
  | some _ => some (ρ.set i (.val d))
  | none => none
def bindN (ρ : En) : List Nat → List D → Option En
  | [], [] => some ρ
  | i :: is, d :: ds => match setV ρ i d with
    | some ρ => bindN ρ is ds
    | none => none
  | _, _ => none
def bindT (t : Tgt) (d : D) (ρ : En) : Option En := match t with
  | .n i => setV ρ i d
  | .t is => match d with
    | .tup ds => bindN ρ is ds
    | _ => none
def asD : Rv → Option D
  | .d d => some d
  | .o _ => none
def derefs (ρ : En) : List Rv → Option (List D)
  | [] => some []
  | r :: rs => match deref ρ r, derefs ρ rs with
    | some d, some ds => some (d :: ds)
    | _, _ => none
def asDs : List Rv → Option (List D)
  | [] => some []
  | .d d :: rs => (asDs rs).map (d :: ·)
  | .o _ :: _ => none
/-- the arguments by their modes: values; slots of the lists that are handed over -/
def splitA (ρ : En) : List Bool → List Rv → Option (List D × List Nat)
  | [], [] => some ([], [])
  | false :: md, .d d :: rs => match splitA ρ md rs with
    | some (ds, is) => some (d :: ds, is)
    | none => none
  | true :: md, .o i :: rs => match ρ[i]?, splitA ρ md rs with
    | some (.own x), some (ds, is) => some (.lst x :: ds, i :: is)
    | some (.tr t), some (ds, is) => some (t :: ds, i :: is)
    | _, _ => none
  | _, _ => none
def putO (ρ : En) : List Nat → List (List D) → Option En
  | [], [] => some ρ
  | i :: is, x :: xs => match ρ[i]? with
    | some (.own _) => if x.length ≤ lim then putO (ρ.set i (.own x)) is xs else none
    | some (.tr _) => (match x with
      | [t] => putO (ρ.set i (.tr t)) is xs
      | _ => none)
    | _ => none
  | _, _ => none
def nodupB (is : List Nat) : Bool := decide is.Nodup
def callO (f : CallF) (rs : List Rv) (ρ : En) : O Rv := match splitA ρ f.md rs with
  | some (ds, is) => if nodupB is then (match f.F ds with
      | .ok d outs => (match putO ρ is outs with
        | some ρ' => .ok (.d d) ρ'
        | none => .bad)
      | .exc c d outs => (match putO ρ is outs with
        | some ρ' => .exc c d ρ'
        | none => .bad)
      | .bad => .bad
      | .tre _ _ => .bad) else .bad
  | none => .bad
def lcGo (t : Tgt) (vs : List Nat) (body : EvF (Option D)) : List D → List D → EvF (List D)
  | [], acc, ρ => if acc.length ≤ lim then .ok acc ρ else .bad
  | x :: xs, acc, ρ => match bindT t x (wipeE ρ vs) with
    | none => .bad
    | some ρ1 => match body ρ1 with
      | .ok o ρ2 => if freeE ρ2 vs && decide (acc.length < lim) then lcGo t vs body xs (acc ++ o.toList) (backE ρ ρ2 vs) else .bad
      | _ => .bad

/-- a turn of a comprehension -/
def lcBody (ifs : EvF Bool) (elt : EvF Rv) : EvF (Option D) := fun ρ => (ifs ρ).bind fun k ρ => if k = true then (elt ρ).bind fun y ρ => O.opt ((asD y).map some) ρ else .ok none ρ

mutual
def evE : E → EvF Rv
  | .v i, ρ => match ρ[i]? with
    | some (.val d) => .ok (.d d) ρ
    | some (.own _) => .ok (.o i) ρ
    | some (.tr _) => .ok (.o i) ρ
    | _ => .bad
  | .c d, ρ => .ok (.d d) ρ
  | .g _ d, ρ => .ok (.d d) ρ
  | .gix _ t a, ρ => (evE a ρ).bind fun x ρ => (O.opt (asD x) ρ).bind fun x ρ => (O.opt (asS x) ρ).bind fun s ρ => O.opt ((t.lookup s).map .d) ρ
  | .gin n _ t a, ρ => (evE a ρ).bind fun x ρ => (O.opt (asD x) ρ).bind fun x ρ => (O.opt (asS x) ρ).bind fun s ρ => .ok (.d (.bl (if n then !(t.lookup s).isSome else (t.lookup s).isSome))) ρ
  | .gti _ t a, ρ => (evE a ρ).bind fun x ρ => (O.opt (asD x) ρ).bind fun x ρ => (O.opt (asS x) ρ).bind fun s ρ => O.opt (((idxT s t).map fun (n : Nat) => D.int (n : Int)).map .d) ρ
  | .gsd _ ys, ρ => .ok (.d (.lst (ys.map .str))) ρ
  | .fld i c _, ρ => match ρ[i]? with
    | some (.exn y d) => if y = c then .ok (.d d) ρ else .bad
    | _ => .bad
  | .isx i c _ b, ρ => match ρ[i]? with
    | some (.exn y _) => if y = c then .ok (.d (.bl b)) ρ else .bad
    | _ => .bad
  | .bin o a b, ρ => (evE a ρ).bind fun x ρ => (evE b ρ).bind fun y ρ => (O.opt (deref ρ x) ρ).bind fun x ρ => (O.opt (deref ρ y) ρ).bind fun y ρ => O.opt ((bop o x y).map .d) ρ
  | .neg a, ρ => (evE a ρ).bind fun x ρ => (O.opt (asD x) ρ).bind fun x ρ => (O.opt (asI x) ρ).bind fun i ρ => .ok (.d (.int (-i))) ρ
  | .not a, ρ => (evE a ρ).bind fun x ρ => (O.opt (asD x) ρ).bind fun x ρ => (O.opt (asB x) ρ).bind fun b ρ => .ok (.d (.bl (!b))) ρ
  | .cmp o a b, ρ => (evE a ρ).bind fun x ρ => (evE b ρ).bind fun y ρ => (O.opt (deref ρ x) ρ).bind fun x ρ => (O.opt (deref ρ y) ρ).bind fun y ρ => O.opt ((cop o x y).map fun z => .d (.bl z)) ρ
  | .chn o p a b c, ρ => (evE a ρ).bind fun x ρ => (evE b ρ).bind fun y ρ => (O.opt (asD x) ρ).bind fun x ρ => (O.opt (asD y) ρ).bind fun y ρ => (O.opt (cop o x y) ρ).bind fun z ρ =>
      if z = true then (evE c ρ).bind fun w ρ => (O.opt (asD w) ρ).bind fun w ρ => O.opt ((cop p y w).map fun z => .d (.bl z)) ρ else .ok (.d (.bl false)) ρ
  | .and es, ρ => evAnd es ρ
  | .or es, ρ => evOr es ρ
  | .ite t a b, ρ => (evE t ρ).bind fun x ρ => (O.opt (asD x) ρ).bind fun x ρ => (O.opt (asB x) ρ).bind fun k ρ => if k = true then evE a ρ else evE b ρ
  | .tup es, ρ => (evEs es ρ).bind fun xs ρ => (O.opt (asDs xs) ρ).bind fun ds ρ => if ds.length ≤ lim then .ok (.d (.tup ds)) ρ else .bad
  | .lst es, ρ => (evEs es ρ).bind fun xs ρ => (O.opt (asDs xs) ρ).bind fun ds ρ => if ds.length ≤ lim then .ok (.d (.lst ds)) ρ else .bad
  | .call f es, ρ => (evEs es ρ).bind fun xs ρ => callO f xs ρ
  | .bi b es, ρ => (evEs es ρ).bind fun xs ρ => (O.opt (derefs ρ xs) ρ).bind fun ds ρ => O.opt ((bi b ds).map .d) ρ
  | .me m o es, ρ => (evE o ρ).bind fun x ρ => (O.opt (asD x) ρ).bind fun x ρ => (O.opt (asS x) ρ).bind fun s ρ => (evEs es ρ).bind fun xs ρ => (O.opt (derefs ρ xs) ρ).bind fun ds ρ => O.opt ((me m (.str s) ds).map .d) ρ
  | .tm m o a, ρ => (evE o ρ).bind fun x ρ => (O.opt (asD x) ρ).bind fun x ρ => (O.opt (asTu x) ρ).bind fun ds ρ => (evE a ρ).bind fun y ρ => (O.opt (asD y) ρ).bind fun y ρ => O.opt ((tmD m ds y).map .d) ρ
  | .isi ts a, ρ => (evE a ρ).bind fun x ρ => (O.opt (asD x) ρ).bind fun x ρ => .ok (.d (.bl (ts.any fun t => isTy t x))) ρ
  | .dix a b, ρ => (evE a ρ).bind fun x ρ => (evE b ρ).bind fun y ρ => (O.opt (asD x) ρ).bind fun x ρ => (O.opt (asD y) ρ).bind fun y ρ => (O.opt (asS y) ρ).bind fun s ρ => O.opt ((lookD x s).map .d) ρ
  | .dg i b, ρ => if isOwnT ρ i then (evE b ρ).bind fun y ρ => (O.opt (asD y) ρ).bind fun y ρ => (O.opt (asS y) ρ).bind fun s ρ => (match ρ[i]? with
    | some (.tr t) => O.opt ((mdGet t s).map .d) ρ
    | _ => .bad) else .bad
  | .ix a b, ρ => (evE a ρ).bind fun x ρ => (evE b ρ).bind fun y ρ => (O.opt (deref ρ x) ρ).bind fun x ρ => (O.opt (asD y) ρ).bind fun y ρ => (O.opt (asI y) ρ).bind fun i ρ => O.opt ((atD x i).map .d) ρ
  | .slLo a l, ρ => (evE a ρ).bind fun x ρ => (evE l ρ).bind fun y ρ => (O.opt (deref ρ x) ρ).bind fun x ρ => (O.opt (asD y) ρ).bind fun y ρ => (O.opt (asI y) ρ).bind fun i ρ => O.opt ((cutD x (some i) none).map .d) ρ
  | .slHi a h, ρ => (evE a ρ).bind fun x ρ => (evE h ρ).bind fun y ρ => (O.opt (deref ρ x) ρ).bind fun x ρ => (O.opt (asD y) ρ).bind fun y ρ => (O.opt (asI y) ρ).bind fun i ρ => O.opt ((cutD x none (some i)).map .d) ρ
  | .slLH a l h, ρ => (evE a ρ).bind fun x ρ => (evE l ρ).bind fun y ρ => (O.opt (asD y) ρ).bind fun y ρ => (O.opt (asI y) ρ).bind fun i ρ => (evE h ρ).bind fun z ρ =>
      (O.opt (asD z) ρ).bind fun z ρ => (O.opt (asI z) ρ).bind fun j ρ => (O.opt (deref ρ x) ρ).bind fun x ρ => O.opt ((cutD x (some i) (some j)).map .d) ρ
  | .rev a, ρ => (evE a ρ).bind fun x ρ => (O.opt (deref ρ x) ρ).bind fun x ρ => O.opt ((revD x).map .d) ρ
  | .cat a b, ρ => (evE a ρ).bind fun x ρ => (evE b ρ).bind fun y ρ => (O.opt (deref ρ x) ρ).bind fun x ρ => (O.opt (deref ρ y) ρ).bind fun y ρ => O.opt ((catD x y).map .d) ρ
  | .lrev a, ρ => (evE a ρ).bind fun x ρ => (O.opt (asD x) ρ).bind fun x ρ => O.opt ((lrevD x).map .d) ρ
  | .pop i, ρ => match ρ[i]? with
    | some (.own ds) => (match ds.getLast? with
      | some d => .ok (.d d) (ρ.set i (.own ds.dropLast))
      | none => .bad)
    | _ => .bad
  | .lc t own s ifs elt, ρ => (evSrc s ρ).bind fun xs ρ => if freeE ρ own then
      (match lcGo t own (lcBody (evTs ifs) (evE elt)) xs [] ρ with
        | .ok ys ρ' => .ok (.d (.lst ys)) ρ'
        | _ => .bad) else .bad
def evEs : List E → EvF (List Rv)
  | [], ρ => .ok [] ρ
  | e :: es, ρ => (evE e ρ).bind fun x ρ => (evEs es ρ).bind fun xs ρ => .ok (x :: xs) ρ
def evAnd : List E → EvF Rv
  | [], _ => .bad
  | a :: es, ρ => match es with
    | [] => evE a ρ
    | _ :: _ => (evE a ρ).bind fun x ρ => (O.opt (asD x) ρ).bind fun x ρ => (O.opt (asB x) ρ).bind fun k ρ => if k = true then evAnd es ρ else .ok (.d (.bl false)) ρ
def evOr : List E → EvF Rv
  | [], _ => .bad
  | a :: es, ρ => match es with
    | [] => evE a ρ
    | _ :: _ => (evE a ρ).bind fun x ρ => (O.opt (asD x) ρ).bind fun x ρ => (O.opt (asB x) ρ).bind fun k ρ => if k = true then .ok (.d (.bl true)) ρ else evOr es ρ
def evTs : List E → EvF Bool
  | [], ρ => .ok true ρ
  | e :: es, ρ => match es with
    | [] => (evE e ρ).bind fun x ρ => (O.opt (asD x) ρ).bind fun x ρ => (O.opt (asB x) ρ).bind fun k ρ => .ok k ρ
    | _ :: _ => .bad
def evSrc : Src → EvF (List D)
  | .it e, ρ => (evE e ρ).bind fun x ρ => (O.opt (asD x) ρ).bind fun x ρ => O.opt (items x) ρ
  | .r1 a, ρ => (evE a ρ).bind fun x ρ => (O.opt (asD x) ρ).bind fun x ρ => (O.opt (asI x) ρ).bind fun i ρ => if rngOk i then .ok (rng 0 i) ρ else .bad
  | .r2 a b, ρ => (evE a ρ).bind fun x ρ => (evE b ρ).bind fun y ρ => (O.opt (asD x) ρ).bind fun x ρ => (O.opt (asI x) ρ).bind fun i ρ => (O.opt (asD y) ρ).bind fun y ρ => (O.opt (asI y) ρ).bind fun j ρ =>
      if rngOk i && rngOk j then .ok (rng i j) ρ else .bad
  | .rd a b, ρ => (evE a ρ).bind fun x ρ => (evE b ρ).bind fun y ρ => (O.opt (asD x) ρ).bind fun x ρ => (O.opt (asI x) ρ).bind fun i ρ => (O.opt (asD y) ρ).bind fun y ρ => (O.opt (asI y) ρ).bind fun j ρ =>
      if rngOk i && rngOk j then .ok (rngD i j) ρ else .bad
end
/-- as a test -/
def evT (e : E) : EvF Bool := fun ρ => (evE e ρ).bind fun x ρ => (O.opt (asD x) ρ).bind fun x ρ => O.opt (asB x) ρ

/-! ### statements -/
/-- what makes a tree -/
inductive Mk where
  /-- {k: e, ..} -/
  | disp (ks : List (List Nat)) (es : List E)
def evMk : Mk → EvF D
  | .disp ks es, ρ => (evEs es ρ).bind fun xs ρ => (O.opt (asDs xs) ρ).bind fun ds ρ => if ks.length = ds.length then .ok (.md ks ds) ρ else .bad
inductive S where
  | ret (e : E) | retN | retF (e : E)
  | set (i : Nat) (e : E) | setN (i : Nat) (e : E)
  | unp (is : List Nat) (e : E)
  | aug (i : Nat) (sub : Bool) (e : E)
  | ite (t : E) (a b : List S)
  | whl (t : E) (b : List S)
  | for (t : Tgt) (s : Src) (b : List S)
  /-- a new tree; t[k] = e -/
  | setT (i : Nat) (m : Mk) | putD (i : Nat) (k e : E)
  | app (i : Nat) (e : E) | ext (i : Nat) (e : E) | put (i : Nat) (k e : E)
  | exp (e : E)
  | raise (c : Nat) (C : Str) (e : E)
  /-- try: b / except C (as slot n): h; cs: the classes that C catches -/
  | try (b : List S) (cs : List Nat) (C : Str) (n : Option Nat) (h : List S)
  | frz (i : Nat)
  | pas | brk | cnt | nev
inductive Out where
  | nx (ρ : En) | brk (ρ : En) | cnt (ρ : En) | ret (r : Rv) (ρ : En) | new (ds : List D) (ρ : En) | exc (c : Nat) (d : D) (ρ : En) | bad
def O.out {β : Type} (x : O β) (f : β → En → Out) : Out := match x with
  | .ok a ρ => f a ρ
  | .exc c d ρ => .exc c d ρ
  | .bad => .bad
def Out.seq (x : Out) (f : En → Out) : Out := match x with
  | .nx ρ => f ρ
  | o => o
def whlGo (t : EvF Bool) (b : En → Out) : Nat → En → Out
  | 0, _ => .bad
  | n + 1, ρ => (t ρ).out fun k ρ => if k = true then (match b ρ with
      | .nx ρ => whlGo t b n ρ
      | .cnt ρ => whlGo t b n ρ
      | .brk ρ => .nx ρ
      | o => o) else .nx ρ
def forGo (tg : Tgt) (b : En → Out) : List D → En → Out
  | [], ρ => .nx ρ
  | x :: xs, ρ => match bindT tg x ρ with
    | none => .bad
    | some ρ => match b ρ with
      | .nx ρ => forGo tg b xs ρ
      | .cnt ρ => forGo tg b xs ρ
      | .brk ρ => .nx ρ
      | o => o
/-- no slot holds an exception -/
def noX (ρ : En) : Bool := ρ.all fun s => match s with
  | .exn _ _ => false
  | _ => true
def isOwn (ρ : En) (i : Nat) : Bool := match ρ[i]? with
  | some (.own _) => true
  | _ => false
/-- behind an except clause's suite -/
def leaveX (n : Option Nat) (ρ : En) : Option En := match n with
  | none => if noX ρ then some ρ else none
  | some i => if !isOwnT ρ i && noX (ρ.set i .no) then some (ρ.set i .no) else none
def leaveT (n : Option Nat) : Out → Out
  | .nx ρ => (match leaveX n ρ with
    | some ρ => .nx ρ
    | none => .bad)
  | .brk ρ => (match leaveX n ρ with
    | some ρ => .brk ρ
    | none => .bad)
  | .cnt ρ => (match leaveX n ρ with
    | some ρ => .cnt ρ
    | none => .bad)
  | .ret r ρ => (match leaveX n ρ with
    | some ρ => .ret r ρ
    | none => .bad)
  | .new ds ρ => (match leaveX n ρ with
    | some ρ => .new ds ρ
    | none => .bad)
  | _ => .bad
/-- into the suite -/
def enterX (n : Option Nat) (x : Nat) (d : D) (ρ : En) : Option En := if noX ρ then (match n with
  | none => some ρ
  | some i => if isOwnT ρ i then none else (match ρ[i]? with
    | some _ => some (ρ.set i (.exn x d))
    | none => none)) else none
def ixOk (ds : List D) (k : Int) : Option Nat := ixN ds.length k
mutual
def exS (n : Nat) : S → En → Out
  | .ret e, ρ => (evE e ρ).out fun x ρ => .ret x ρ
  | .retN, ρ => .ret (.d .non) ρ
  | .retF e, ρ => (evE e ρ).out fun x ρ => match x with
    | .d (.lst ds) => .new ds ρ
    | _ => .bad
  | .set i e, ρ => (evE e ρ).out fun x ρ => match asD x with
    | some d => (match setV ρ i d with
      | some ρ => .nx ρ
      | none => .bad)
    | none => .bad
  | .setN i e, ρ => (evE e ρ).out fun x ρ => match x with
    | .d (.lst ds) => .nx (ρ.set i (.own ds))
    | _ => .bad
  | .setT i m, ρ => (evMk m ρ).out fun t ρ => .nx (ρ.set i (.tr t))
  | .putD i k e, ρ => (evE e ρ).out fun x ρ => if isOwnT ρ i then (evE k ρ).out fun y ρ => match asD x, asD y, ρ[i]? with
    | some d, some (.str s), some (.tr t) => (match mdPut t s d with
      | some t' => .nx (ρ.set i (.tr t'))
      | none => .bad)
    | _, _, _ => .bad
    else .bad
  | .unp is e, ρ => (evE e ρ).out fun x ρ => match asD x with
    | some (.tup ds) => (match bindN ρ is ds with
      | some ρ => .nx ρ
      | none => .bad)
    | _ => .bad
  | .aug i sub e, ρ => match ρ[i]? with
    | some (.val (.int x)) => (evE e ρ).out fun y ρ => match asD y with
      | some (.int y) => (match setV ρ i (.int (if sub then x - y else x + y)) with
        | some ρ => .nx ρ
        | none => .bad)
      | _ => .bad
    | _ => .bad
  | .ite t a b, ρ => (evT t ρ).out fun k ρ => if k = true then exSs n a ρ else exSs n b ρ
  | .whl t b, ρ => whlGo (evT t) (exSs n b) n ρ
  | .for t s b, ρ => (evSrc s ρ).out fun xs ρ => forGo t (exSs n b) xs ρ
  | .app i e, ρ => if isOwn ρ i then (evE e ρ).out fun x ρ => match asD x, ρ[i]? with
    | some d, some (.own ds) => if ds.length < lim then .nx (ρ.set i (.own (ds ++ [d]))) else .bad
    | _, _ => .bad
    else .bad
  | .ext i e, ρ => if isOwn ρ i then (evE e ρ).out fun x ρ => match asD x, ρ[i]? with
    | some (.lst es), some (.own ds) => if ds.length + es.length ≤ lim then .nx (ρ.set i (.own (ds ++ es))) else .bad
    | _, _ => .bad
    else .bad
  | .put i k e, ρ => (evE e ρ).out fun x ρ => if isOwn ρ i then (evE k ρ).out fun y ρ => match asD x, asD y, ρ[i]? with
    | some d, some (.int k), some (.own ds) => (match ixN ds.length k with
      | some j => .nx (ρ.set i (.own (ds.set j d)))
      | none => .bad)
    | _, _, _ => .bad
    else .bad
  | .exp e, ρ => (evE e ρ).out fun _ ρ => .nx ρ
  | .raise c _ e, ρ => (evE e ρ).out fun x ρ => match asD x with
    | some d => .exc c d ρ
    | none => .bad
  | .try b cs _ m h, ρ => match exSs n b ρ with
    | .exc x d ρ => if cs.contains x then (match enterX m x d ρ with
        | some ρ => leaveT m (exSs n h ρ)
        | none => .bad) else .exc x d ρ
    | o => o
  | .frz i, ρ => match ρ[i]? with
    | some (.own ds) => .nx (ρ.set i (.val (.lst ds)))
    | some (.tr t) => .nx (ρ.set i (.val (frzD t)))
    | _ => .bad
  | .pas, ρ => .nx ρ
  | .brk, ρ => .brk ρ
  | .cnt, ρ => .cnt ρ
  | .nev, _ => .bad
def exSs (n : Nat) : List S → En → Out
  | [], ρ => .nx ρ
  | s :: ss, ρ => (exS n s ρ).seq fun ρ => exSs n ss ρ
end

/-- the call of a def: m places of its names; md: which parameters are lists that it changes; their slots in order -/
def slotsFrom (k : Nat) : List Bool → List Nat
  | [] => []
  | b :: md => if b = true then k :: slotsFrom (k + 1) md else slotsFrom (k + 1) md
def inoutSlots (md : List Bool) : List Nat := slotsFrom 0 md
def startE (m : Nat) : List Bool → List D → Option En
  | [], [] => some (List.replicate m .no)
  | b :: md, d :: ds => match m with
    | 0 => none
    | m + 1 => match startE m md ds with
      | some ρ => (match b, d with
        | false, d => some (.val d :: ρ)
        | true, .lst x => some (.own x :: ρ)
        | true, d => if isTr d then some (.tr d :: ρ) else none)
      | none => none
  | _, _ => none
def outsOf (ρ : En) : List Nat → Option (List (List D))
  | [] => some []
  | i :: is => match ρ[i]?, outsOf ρ is with
    | some (.own x), some r => some (x :: r)
    | some (.tr t), some r => some ([t] :: r)
    | _, _ => none
/-- what a body's end gives the caller (fr: a new list) -/
def finO (md : List Bool) (d : D) (ρ : En) : MR := match outsOf ρ (inoutSlots md) with
  | some r => .ok d r
  | none => .bad
def leaveO (md : List Bool) (fr : Bool) : Out → MR
  | .nx ρ => if fr = true then .bad else finO md .non ρ
  | .ret (.d d) ρ => if fr = true then .bad else finO md d ρ
  | .ret (.o i) ρ => if (inoutSlots md).contains i = true then .bad else (match ρ[i]? with
      | some (.own x) => finO md (.lst x) ρ
      | some (.tr t) => (match outsOf ρ (inoutSlots md) with
        | some r => .tre t r
        | none => .bad)
      | _ => .bad)
  | .new ds ρ => if fr = true then finO md (.lst ds) ρ else .bad
  | .exc c d ρ => (match outsOf ρ (inoutSlots md) with
    | some r => .exc c d r
    | none => .bad)
  | _ => .bad
def runF (n m : Nat) (md : List Bool) (fr : Bool) (b : List S) (ds : List D) : MR := match startE m md ds with
  | some ρ => leaveO md fr (exSs n b ρ)
  | none => .bad

/-! ### a trial -/
example : runF 5 1 [false] false [.ite (.cmp .lt (.v 0) (.c (.int 0))) [.ret (.neg (.v 0))] [], .ret (.v 0)] [.int (-3)] = .ok (.int 3) [] := by rfl
example (i : Int) (h : i < 0) : runF 5 1 [false] false [.ite (.cmp .lt (.v 0) (.c (.int 0))) [.ret (.neg (.v 0))] [], .ret (.v 0)] [.int i] = .ok (.int (-i)) [] := by
  simp [runF, startE, exSs, exS, evT, evE, O.bind, O.opt, O.out, Out.seq, deref, cop, ltO, asD, asB, asI, leaveO, finO, outsOf, inoutSlots, slotsFrom, h]
end Mini
end

section
set_option Elab.async false
set_option linter.all false
set_option maxRecDepth 100000
set_option maxHeartbeats 2000000
/-! MU: new tuples, of which it is known that they bear no dict of their own. -/
namespace Mini
open PySem PySem.Spec PyProof.Rows L2
/-- a new tuple: what may be said of it -/
def NewT (H : Hp) (vs : List V) (Q : VK) : Prop := ∀ (p : Addr) (ob : Obj), H p = none → ob.dict = none → Q (.ref p) (upd H p (.frz ob (.tup vs)))
abbrev tupOb (us : List Value) : Obj := { cls := .type "tuple", data := .seq us.toArray }
section
variable {X : Cx} {pins : List (Addr × Obj)} {σ : L2.St} {H : Hp} {s : Shared} {Q : VK}
theorem new_tup {vs : List V} {us : List Value} (I : L2.Inv X pins σ H s) (rv : Vals vs us) (hl : vs.length ≤ sizeLine) (q : NewT H vs Q) : EP X pins σ Q (.ref s.heap.objs.size) { s with heap := s.heap.push (tupOb us) } :=
  ⟨.ref s.heap.objs.size, _, I.laid (t' := s.toks) (o := .frz (tupOb us) (.tup vs)) (fun _ _ e => Heap.get?_push_of_some _ e) (Nat.le_refl _) ⟨Heap.get?_push_size _ rfl, hl, us, rv, IsTup.new _ _⟩, rfl, q _ _ (I.hok.fresh (Nat.le_refl _)) rfl⟩
/-- t + u of two tuples -/
def rCatU (K : PySem.W.Frag) : R2 := fun x y H Q => ∃ a b vs ws, x = .ref a ∧ y = .ref b ∧ SqT K H a vs ∧ SqT K H b ws ∧ vs.length + ws.length ≤ sizeLine ∧ (vs = [] → Q (.ref b) H) ∧ (vs ≠ [] → ws = [] → Q (.ref a) H) ∧ NewT H (vs ++ ws) Q
theorem op_catU : OpR X (binaryOp .Add) (rCatU X.K) := by
  intro pins s σ H x y v u Q I rx ry ⟨a, b, vs, ws, ex, ey, ha, hb, hz, q0, q1, q2⟩
  subst ex ey
  cases rx
  cases ry
  obtain ⟨us, r1, p1, _⟩ := I.tuple ha
  obtain ⟨zs, r2, p2, _⟩ := I.tuple hb
  by_cases hv : vs = []
  · subst hv
    cases r1
    exact cat_tup0 p1 p2 ⟨.ref b, H, I, rfl, q0 rfl⟩
  · have hlen : us.length + zs.length ≤ sizeLine := by
      rw [← r1.length, ← r2.length]
      exact hz
    exact HT.cat_tup p1 p2 (fun e => hv (r1.nil_iff.mp e)) (fun e => ⟨.ref a, H, I, rfl, q1 hv (r2.nil_iff.mp e)⟩) (fun _ => new_tup I (r1.append r2) (by rw [List.length_append]; exact hz) q2) hlen
/-- t[lo:hi] of a tuple -/
def rSlU (K : PySem.W.Frag) : V → Option Int → Option Int → Hp → VK → Prop := fun x lo hi H Q => ∃ a vs, x = .ref a ∧ SqT K H a vs ∧ (HT.sIx vs.length 0 lo = 0 ∧ HT.sIx vs.length vs.length hi = vs.length → Q (.ref a) H) ∧ NewT H (cutV vs lo hi) Q
theorem sl_tupU : SlR X (rSlU X.K) := by
  intro pins s σ H x v vl vu lo hi sl Q I rx hs pl pu ⟨a, vs, ex, ha, q1, q2⟩
  subst ex
  cases rx
  obtain ⟨us, rv, p1, hz⟩ := I.tuple ha
  have e1 : us.toArray.size = vs.length := by
    rw [List.size_toArray]
    exact rv.length.symm
  refine ⟨"tuple", _, slot_tuple_getitem.lookup, p1.typeIs, ?_⟩
  by_cases hw : HT.sIx vs.length 0 lo = 0 ∧ HT.sIx vs.length vs.length hi = vs.length
  · rw [← e1] at hw
    refine getItem_tuple_whole p1 hs pl pu hw ⟨.ref a, H, I, rfl, q1 ?_⟩
    rw [← e1]
    exact hw
  · refine HT.getItem_tuple_cut p1 hs pl pu (by rw [e1]; exact hw) ?_ (by rw [e1]; exact hz)
    rw [e1]
    exact new_tup I ((rv.drop (HT.sIx vs.length 0 lo)).take (HT.sIx vs.length vs.length hi - HT.sIx vs.length 0 lo)) (Nat.le_trans (cutV_length vs lo hi) hz) q2
/-- tuple(t): a tuple itself, a list's items in a new one -/
theorem call_tupU : CallR X (.type "tuple") (fun xs H Q => ∃ p vs, xs = [.ref p] ∧ ((SqL X.K H p vs ∧ NewT H vs Q) ∨ (SqT X.K H p vs ∧ Q (.ref p) H))) := by
  intro pins s σ H xs us Q I r ⟨p, vs, ex, h⟩
  subst ex
  rw [Vals.ref1 r]
  rcases h with ⟨hq, q⟩ | ⟨hq, q⟩
  · obtain ⟨ws, rv, p1, hz⟩ := I.list hq
    have e1 : ws.toArray.size ≤ sizeLine := by
      rw [List.size_toArray, ← rv.length]
      exact hz
    exact call_tuple_list p1.isList (fun h' hk => new_tup (s := { s with heap := h' }) (I.kept (t' := s.toks) hk) rv hz q) e1
  · obtain ⟨ws, rv, p1, hz⟩ := I.tuple hq
    exact call_tuple_same p1 ⟨.ref p, H, I, rfl, q⟩
/-- (a, b, ..) -/
def tTupU (t : TA) : TE := fun σ H Q => t σ H fun vs H1 => vs.length ≤ sizeLine ∧ NewT H1 vs Q
theorem pe_tupU {es : List Expr} {t : TA} {x1 : Nat} {pos : Pos} (h : PA X es t) : PE X (.Tuple es x1 pos) (tTupU t) := by
  refine ⟨fun pins s σ H Q I hq => wpAny_Tuple_spliced (thn (h.run pos pins s σ H _ I hq) ?_)⟩
  intro us s1 ⟨vs, H1, I1, rv, hz, q⟩
  exact ⟨by rw [← rv.length]; exact hz, new_tup I1 rv hz q⟩
end
/-! ### methods of a tuple -/
section
variable {X : Cx}
/-- what is known of a tuple that is asked for a method -/
def PlT (K : PySem.W.Frag) (H : Hp) (a : Addr) : Prop := (∃ ob vs, H a = some (.frz ob (.tup vs)) ∧ ob.dict = none) ∨ ∃ ob, K.lookup a = some ob ∧ ob.cls = .type "tuple" ∧ ob.dict = none
theorem plt_is {pins : List (Addr × Obj)} {σ : L2.St} {H : Hp} {s : Shared} {a : Addr} (I : L2.Inv X pins σ H s) (h : PlT X.K H a) : s.TypeIs (.ref a) "tuple" ∧ ∀ b, Value.ref a = .ref b → ∃ ob, s.heap.get? b = some ob ∧ ob.dict = none := by
  rcases h with ⟨ob, vs, e, hd⟩ | ⟨ob, e, hc, hd⟩
  · obtain ⟨h1, h2⟩ := (show ObjOk X.prog X.w H s.heap a (.frz ob (.tup vs)) from I.hok a _ e)
    obtain ⟨_, _, _, o', h3, h4, _⟩ := h2
    rw [h1] at h3
    cases h3
    exact ⟨⟨ob, h1, h4⟩, fun b eb => by cases eb; exact ⟨ob, h1, hd⟩⟩
  · have h1 := I.kIn a ob e
    exact ⟨⟨ob, h1, hc⟩, fun b eb => by cases eb; exact ⟨ob, h1, hd⟩⟩
def tTM (K : PySem.W.Frag) (r : V → List V → Hp → VK → Prop) (to : TE) (t : TA) : TE := fun σ H Q => to σ H fun x H1 => (∃ a, x = .ref a ∧ PlT K H1 a) ∧ t σ H1 fun xs H2 => r x xs H2 Q
theorem pe_tm {o e : Expr} {to : TE} {t : TA} {name : Str} {id : String} {apos cpos : Pos} {r : V → List V → Hp → VK → Prop} (slot : Slot "tuple" name id) (hty : typeOf (.builtin id) = pure (.type "method_descriptor")) (hm : MtR X id r) (ho : PE X o to) (ha : PA X [e] t)
    (hbase : attributeBase o name X.env (eval o X.env) = eval o X.env)
    (hfew : ((backTo cpos (starEach [e] X.env)).all (fun x => !x.1) && (backToKw cpos (keywordEach [] X.env)).all (fun x => x.1.isSome) && decide ([e].length + ([] : List Keyword).length + (if ([] : List Keyword).isEmpty then 0 else 1) < 30)) = true)
    (hline : (apos.endLine == cpos.line) = true) (hs : starEach [e] X.env = (false, eval e X.env) :: starEach [] X.env) (hpl : (backTo cpos (starEach [] X.env)).any (·.1) = false) :
    PE X (.Call (.Attribute o name apos) [e] [] cpos) (tTM X.K r to t) := by
  refine ⟨fun pins s σ H Q I h => wpAny_Call_method_late hbase hfew hline rfl (thn (ho.run pins s σ H _ I h) ?_)⟩
  intro v s1 ⟨x, H1, I1, r1, ⟨a, ea, pl⟩, q1⟩
  subst ea
  cases (show v = .ref a from r1)
  obtain ⟨g1, g2⟩ := plt_is I1 pl
  refine ⟨"tuple", id, PySem.F.plainAttrs_tuple, slot, hty, g1, g2, ?_⟩
  have hA := ha.run cpos pins s1 σ H1 _ I1 q1
  rw [hs] at hA ⊢
  have hb : ((false, eval e X.env) :: backTo cpos (starEach [] X.env)).any (·.1) = false := by
    rw [List.any_cons, hpl]
    rfl
  exact Calls.callWith_builtin hb (Calls.evalArgs_plain (thn hA fun us s2 ⟨vs, H2, I2, r2, q2⟩ => hm pins s2 σ H2 (.ref a) vs (.ref a) us Q I2 rfl r2 q2))
end
end Mini
end

section
set_option Elab.async false
set_option linter.all false
set_option maxRecDepth 100000
/-! M3: the operations keep what the evaluator says of them. -/
namespace Mini
open PySem L2

def Post (K : PySem.W.Frag) (Hf H : Hp) (Q : VK) (d : D) : Prop := ∀ v H' Hf', Adv Hf H Hf' H' → Rep K Hf' v d → Q v H'

section
variable {K : PySem.W.Frag} {Hf H : Hp} {v : V} {Q : VK}
theorem Post.now {d : D} (h : Post K Hf H Q d) (s : Same Hf H) (r : Rep K Hf v d) : Q v H := h v H Hf (Adv.refl s) r
theorem RepB.int_ {i : Int} (h : RepB K Hf H v (.int i)) : v = .int i := by
  rcases h with h | ⟨_, _, _, _, e, _⟩
  · cases h; rfl
  · cases e
theorem RepB.bl_ {i : Bool} (h : RepB K Hf H v (.bl i)) : v = .bl i := by
  rcases h with h | ⟨_, _, _, _, e, _⟩
  · cases h; rfl
  · cases e
theorem RepB.non_ (h : RepB K Hf H v .non) : v = .non := by
  rcases h with h | ⟨_, _, _, _, e, _⟩
  · cases h; rfl
  · cases e
theorem RepB.str_ {cs : List Nat} (h : RepB K Hf H v (.str cs)) : v = .str (sOf cs) ∧ okS cs = true := by
  rcases h with h | ⟨_, _, _, _, e, _⟩
  · cases h; exact ⟨rfl, by assumption⟩
  · cases e
theorem RepB.tup_ {ds : List D} (s : Same Hf H) (h : RepB K Hf H v (.tup ds)) : ∃ a vs, v = .ref a ∧ SqT K H a vs ∧ Reps K Hf vs ds ∧ ds.length ≤ lim ∧ Rep K Hf v (.tup ds) := by
  rcases h with h | ⟨_, _, _, _, e, _⟩
  · cases id h with
    | tup a b c => exact ⟨_, _, rfl, sqT_mono s a.t, b, c, h⟩
  · cases e
theorem RepB.lst_ {ds : List D} (s : Same Hf H) (h : RepB K Hf H v (.lst ds)) : ∃ a vs, v = .ref a ∧ SqL K H a vs ∧ Reps K Hf vs ds ∧ ds.length ≤ lim := by
  rcases h with h | ⟨p, vs, ds', e, e2, h1, h2, h3⟩
  · cases h with
    | lst a b c => exact ⟨_, _, rfl, Same.seq s a, b, c⟩
  · cases e2; exact ⟨p, vs, e, SqL.of h1, h2, h3⟩
theorem RepB.dic_ {ks : List (List Nat)} {ds : List D} (h : RepB K Hf H v (.dic ks ds)) : ∃ a kvs, v = .ref a ∧ Rd Hf a (.dK kvs) ∧ kvs.map (·.1) = ks.map (fun k => .inr (sOf k)) ∧ Reps K Hf (kvs.map (·.2)) ds := by
  rcases h with h | ⟨_, _, _, _, e, _⟩
  · cases h with
    | dic h1 h2 h3 h4 =>
      subst h3
      exact ⟨_, _, rfl, h1, h2, h4⟩
  · cases e
theorem RepB.ob2 {C : Str} {ns : List Str} {ds : List D} (h : RepB K Hf H v (.ob C ns ds)) : ∃ a dx fs, v = .ref a ∧ ObC K (gad K C) ∧ Hf a = some (.ins (gad K C) dx fs) := by
  rcases h with h | ⟨_, _, _, _, e, _⟩
  · cases h with
    | ob o h1 h2 h3 h4 => exact ⟨_, _, _, rfl, o, h1⟩
  · cases e
theorem RepB.ob_ {C : Str} {ns : List Str} {ds : List D} (h : RepB K Hf H v (.ob C ns ds)) : ∃ a, v = .ref a := by
  obtain ⟨a, _, _, rfl, _⟩ := h.ob2
  exact ⟨a, rfl⟩
theorem RepB.no {d : D} (h : RepB K Hf H v d) (n : isTr d = true) : False := by
  rcases h with h | ⟨_, _, _, _, e, _⟩
  · cases h <;> cases n
  · subst e
    cases n
theorem sOf_inj' {a b : List Nat} (h : sOf a = sOf b) : a = b := by
  have e : (sOf a).cps.toList = (sOf b).cps.toList := by rw [h]
  simpa [sOf] using e
theorem look_get {s : List Nat} {d : D} : ∀ {ks : List (List Nat)} {ds : List D} {kvs : List (Key × V)}, kvs.map (·.1) = ks.map (fun k => .inr (sOf k)) → Reps K Hf (kvs.map (·.2)) ds → (ks.zip ds).lookup s = some d → ∃ w, valV kvs (.inr (sOf s)) = some w ∧ Rep K Hf w d
  | [], _, _, _, _, e => by cases e
  | k :: ks, [], [], h, _, e => by cases h
  | k :: ks, [], p :: kvs, h, r, e => by cases r
  | k :: ks, d' :: ds, [], h, r, e => by cases h
  | k :: ks, d' :: ds, p :: kvs, h, r, e => by
    rw [List.map_cons, List.map_cons] at h
    obtain ⟨h1, h2⟩ := List.cons.inj h
    rw [List.zip_cons_cons, List.lookup_cons] at e
    rw [List.map_cons] at r
    cases r with
    | cons r1 r2 =>
      by_cases hk : s = k
      · subst hk
        rw [beq_self_eq_true] at e
        cases e
        exact ⟨p.2, valV_pos h1, r1⟩
      · rw [beq_eq_false_iff_ne.mpr hk] at e
        obtain ⟨w, e1, e2⟩ := look_get h2 r2 e
        refine ⟨w, ?_, e2⟩
        rw [valV_neg, e1]
        intro z
        rw [h1] at z
        exact hk (sOf_inj' (Sum.inr.inj z)).symm
theorem RepB.dic_get {x : D} {s : List Nat} {d : D} (h : RepB K Hf H v x) (e : lookD x s = some d) : ∃ p w, v = .ref p ∧ DGet Hf p (.str (sOf s)) (some w) ∧ Rep K Hf w d := by
  cases x with
  | dic ks ds =>
    obtain ⟨a, kvs, rfl, h1, h2, h3⟩ := h.dic_
    obtain ⟨w, e1, e2⟩ := look_get h2 h3 e
    exact ⟨a, w, rfl, .inl ⟨kvs, .inr (sOf s), h1, rfl, e1.symm⟩, e2⟩
  | _ => cases e
theorem DGet.str_mono {a : Addr} {z : Str} {o : Option V} (s : Same Hf H) (h : DGet Hf a (.str z) o) : DGet H a (.str z) o := by
  rcases h with ⟨kvs, k, h1, h2, h3⟩ | ⟨_, _, _, _, e, _⟩
  · exact .inl ⟨kvs, k, rd_mono s h1, h2, h3⟩
  · cases e
theorem okS_len {cs : List Nat} (h : okS cs = true) : cs.length ≤ lim := of_decide_eq_true (Bool.and_eq_true_iff.mp h).1
theorem okS_all {cs : List Nat} (h : okS cs = true) : ∀ c ∈ cs, c < 1114112 := fun c hc => of_decide_eq_true (List.all_eq_true.mp (Bool.and_eq_true_iff.mp h).2 c hc)
theorem okS_mk {cs : List Nat} (h : cs.length ≤ lim) (h2 : ∀ c ∈ cs, c < 1114112) : okS cs = true := Bool.and_eq_true_iff.mpr ⟨decide_eq_true h, List.all_eq_true.mpr fun c hc => decide_eq_true (h2 c hc)⟩
theorem sOf_len (cs : List Nat) : (sOf cs).length = cs.length := by simp [sOf, Str.length]
theorem okS_line {cs : List Nat} (h : okS cs = true) : (sOf cs).length ≤ sizeLine := by rw [sOf_len]; exact Nat.le_trans (okS_len h) lim_line
theorem sOf_inj {a b : List Nat} (h : sOf a = sOf b) : a = b := by
  have e : (sOf a).cps.toList = (sOf b).cps.toList := by rw [h]
  simpa [sOf] using e
theorem sOf_app (a b : List Nat) : sOf a ++ sOf b = sOf (a ++ b) := by
  show Str.append _ _ = _
  simp [Str.append, sOf]
theorem line_lim {n : Nat} (h : n ≤ lim) : n ≤ sizeLine := Nat.le_trans h lim_line
theorem line_lim2 {a b : Nat} (h : a ≤ lim) (h' : b ≤ lim) : a + b ≤ sizeLine := by
  have : lim + lim ≤ sizeLine := by decide
  omega
/-- a new tuple, a new list: frozen at once -/
theorem Post.tup {vs : List V} {ds : List D} (h : Post K Hf H Q (.tup ds)) (s : Same Hf H) (r : Reps K Hf vs ds) (l : ds.length ≤ lim) : NewT H vs Q := fun p ob hp hd =>
  h _ _ _ (Adv.new s hp) (.tup (.inl ⟨ob, upd_same, hd⟩) (r.mono (same_upd (s.free hp))) l)
theorem Post.lst {vs : List V} {ds : List D} (h : Post K Hf H Q (.lst ds)) (s : Same Hf H) (r : Reps K Hf vs ds) (l : ds.length ≤ lim) : ∀ p, H p = none → Q (.ref p) (upd H p (.lst vs)) := fun p hp =>
  h _ _ _ (Adv.new s hp) (.lst (SqL.of upd_same) (r.mono (same_upd (s.free hp))) l)
end

/-! ### == -/
mutual
def py : D → PyData
  | .non => .none
  | .bl b => .bool b
  | .int i => .int i
  | .str s => .str (sOf s)
  | .tup ds => .tuple (pys ds)
  | .lst ds => .list (pys ds)
  | .dic _ _ => .dict []
  | .ob _ _ _ => .dict []
  | .ml _ => .dict []
  | .md _ _ => .dict []
  | .mo _ _ _ => .dict []
def pys : List D → List PyData
  | [] => []
  | d :: ds => py d :: pys ds
end
section
variable {K : PySem.W.Frag} {Hf H : Hp}
theorem dep_in {ds : List D} (h : deps ds + 1 ≤ 100) : deps ds ≤ 100 := by omega
mutual
theorem Rep.dp : ∀ {v : V} {d : D}, Rep K H v d → dep d ≤ 100 → Dp K H v (py d)
  | _, _, .non, _ => .non
  | _, _, .bl b, _ => .bl b
  | _, _, .int i, _ => .int i
  | _, _, .str _, _ => .str _
  | _, _, .tup h r _, hd => .tup h.t (Reps.dp r (dep_in hd))
  | _, _, .lst h r _, hd => .lst h (Reps.dp r (dep_in hd))
  | _, _, .dic h k e r, hd => absurd (show 1000 ≤ 100 from hd) (by decide)
  | _, _, .ob _ h k e r, hd => absurd (show 1000 ≤ 100 from hd) (by decide)
theorem Reps.dp : ∀ {vs : List V} {ds : List D}, Reps K H vs ds → deps ds ≤ 100 → DpAll K H vs (pys ds)
  | _, _, .nil, _ => .nil
  | _, _, .cons h r, hd => .cons (Rep.dp h (Nat.le_trans (Nat.le_max_left _ _) hd)) (Reps.dp r (Nat.le_trans (Nat.le_max_right _ _) hd))
end
theorem RepB.dp {v : V} {d : D} (s : Same Hf H) (h : RepB K Hf H v d) (hd : dep d ≤ 100) : Dp K H v (py d) := by
  rcases h with h | ⟨p, vs, ds, rfl, rfl, h1, h2, _⟩
  · exact (h.mono s).dp hd
  · exact .lst (SqL.of h1) ((h2.mono s).dp (dep_in hd))
mutual
theorem Rep.lay : ∀ {v : V} {d : D}, Rep K H v d → dep d ≤ 100 → (py d).canLay0 = true
  | _, _, .non, _ => rfl
  | _, _, .bl b, _ => rfl
  | _, _, .int i, _ => rfl
  | _, _, .str (cs := cs) h, _ => by
    show PyData.strOk (sOf cs) = true
    unfold PyData.strOk
    have q := okS_all h
    simp only [sOf, List.all_toArray, List.all_eq_true, decide_eq_true_eq]
    exact fun c hc => q c hc
  | _, _, .tup h r _, hd => Reps.lay r (dep_in hd)
  | _, _, .lst h r _, hd => Reps.lay r (dep_in hd)
  | _, _, .dic _ _ _ _, hd => absurd (show 1000 ≤ 100 from hd) (by decide)
  | _, _, .ob _ _ _ _ _, hd => absurd (show 1000 ≤ 100 from hd) (by decide)
theorem Reps.lay : ∀ {vs : List V} {ds : List D}, Reps K H vs ds → deps ds ≤ 100 → PyData.canLayAll0 (pys ds) = true
  | _, _, .nil, _ => rfl
  | _, _, .cons h r, hd => by
    show ((py _).canLay0 && PyData.canLayAll0 (pys _)) = true
    rw [Rep.lay h (Nat.le_trans (Nat.le_max_left _ _) hd), Reps.lay r (Nat.le_trans (Nat.le_max_right _ _) hd)] <;> rfl
end
theorem RepB.lay {v : V} {d : D} (h : RepB K Hf H v d) (hd : dep d ≤ 100) : (py d).canLay0 = true := by
  rcases h with h | ⟨p, vs, ds, rfl, rfl, h1, h2, _⟩
  · exact h.lay hd
  · exact h2.lay (dep_in hd)
end
mutual
theorem dep_py : ∀ d : D, (py d).depth ≤ dep d
  | .non | .bl _ | .int _ | .str _ => Nat.le_refl _
  | .tup ds => by show PyData.depthAll (pys ds) + 1 ≤ deps ds + 1; have := deps_py ds; omega
  | .lst ds => by show PyData.depthAll (pys ds) + 1 ≤ deps ds + 1; have := deps_py ds; omega
  | .dic _ _ | .ob _ _ _ | .ml _ | .md _ _ | .mo _ _ _ => by show _ ≤ 1000; exact Nat.le_trans (show PyData.depth (.dict []) ≤ 1 by decide) (by decide)
theorem deps_py : ∀ ds : List D, PyData.depthAll (pys ds) ≤ deps ds
  | [] => Nat.le_refl _
  | d :: ds => by show max _ _ ≤ max _ _; have := dep_py d; have := deps_py ds; omega
end
theorem lay_cons' {x : PyData} {xs : List PyData} (h : PyData.canLayAll0 (x :: xs) = true) : x.canLay0 = true ∧ PyData.canLayAll0 xs = true := by
  rw [PyData.canLayAll0, Bool.and_eq_true] at h
  exact h
mutual
theorem deq_py : ∀ a b : D, (py a).canLay0 = true → (py b).canLay0 = true → PyData.eqv (py a) (py b) = deq a b
  | .non, .non, _, _ => rfl
  | .bl _, .bl _, _, _ => rfl
  | .bl _, .int _, _, _ => rfl
  | .int _, .bl _, _, _ => rfl
  | .int _, .int _, _, _ => rfl
  | .str x, .str y, _, _ => by
    show (sOf x == sOf y) = (x == y)
    by_cases h : x = y
    · subst h; simp
    · have h2 : ¬ sOf x = sOf y := fun z => h (sOf_inj z)
      rw [beq_eq_false_iff_ne.mpr h, beq_eq_false_iff_ne.mpr h2]
  | .lst xs, .lst ys, h, h' => deqs_py xs ys h h'
  | .tup xs, .tup ys, h, h' => deqs_py xs ys h h'
  | .non, .bl _, _, _ | .non, .int _, _, _ | .non, .str _, _, _ | .non, .lst _, _, _ | .non, .tup _, _, _ => rfl
  | .bl _, .non, _, _ | .bl _, .str _, _, _ | .bl _, .lst _, _, _ | .bl _, .tup _, _, _ => rfl
  | .int _, .non, _, _ | .int _, .str _, _, _ | .int _, .lst _, _, _ | .int _, .tup _, _, _ => rfl
  | .str _, .non, _, _ | .str _, .bl _, _, _ | .str _, .int _, _, _ | .str _, .lst _, _, _ | .str _, .tup _, _, _ => rfl
  | .lst _, .non, _, _ | .lst _, .bl _, _, _ | .lst _, .int _, _, _ | .lst _, .str _, _, _ | .lst _, .tup _, _, _ => rfl
  | .tup _, .non, _, _ | .tup _, .bl _, _, _ | .tup _, .int _, _, _ | .tup _, .str _, _, _ | .tup _, .lst _, _, _ => rfl
  | .dic _ _, _, h, _ => absurd (show false = true from h) Bool.false_ne_true
  | .ob _ _ _, _, h, _ => absurd (show false = true from h) Bool.false_ne_true
  | .ml _, _, h, _ => absurd (show false = true from h) Bool.false_ne_true
  | .md _ _, _, h, _ => absurd (show false = true from h) Bool.false_ne_true
  | .mo _ _ _, _, h, _ => absurd (show false = true from h) Bool.false_ne_true
  | .non, .dic _ _, _, h | .bl _, .dic _ _, _, h | .int _, .dic _ _, _, h | .str _, .dic _ _, _, h | .lst _, .dic _ _, _, h | .tup _, .dic _ _, _, h => absurd (show false = true from h) Bool.false_ne_true
  | .non, .ob _ _ _, _, h | .bl _, .ob _ _ _, _, h | .int _, .ob _ _ _, _, h | .str _, .ob _ _ _, _, h | .lst _, .ob _ _ _, _, h | .tup _, .ob _ _ _, _, h => absurd (show false = true from h) Bool.false_ne_true
  | .non, .ml _, _, h | .bl _, .ml _, _, h | .int _, .ml _, _, h | .str _, .ml _, _, h | .lst _, .ml _, _, h | .tup _, .ml _, _, h => absurd (show false = true from h) Bool.false_ne_true
  | .non, .md _ _, _, h | .bl _, .md _ _, _, h | .int _, .md _ _, _, h | .str _, .md _ _, _, h | .lst _, .md _ _, _, h | .tup _, .md _ _, _, h => absurd (show false = true from h) Bool.false_ne_true
  | .non, .mo _ _ _, _, h | .bl _, .mo _ _ _, _, h | .int _, .mo _ _ _, _, h | .str _, .mo _ _ _, _, h | .lst _, .mo _ _ _, _, h | .tup _, .mo _ _ _, _, h => absurd (show false = true from h) Bool.false_ne_true
theorem deqs_py : ∀ a b : List D, PyData.canLayAll0 (pys a) = true → PyData.canLayAll0 (pys b) = true → PyData.eqvAll (pys a) (pys b) = deqs a b
  | [], [], _, _ => rfl
  | x :: xs, y :: ys, h, h' => by
    show (PyData.eqv (py x) (py y) && PyData.eqvAll (pys xs) (pys ys)) = (deq x y && deqs xs ys)
    rw [deq_py x y (lay_cons' h).1 (lay_cons' h').1, deqs_py xs ys (lay_cons' h).2 (lay_cons' h').2]
  | [], _ :: _, _, _ => rfl
  | _ :: _, [], _, _ => rfl
end

def rB (K : PySem.W.Frag) (f : D → D → Option D) : R2 := fun x y H Q => ∃ Hf a b d, Same Hf H ∧ RepB K Hf H x a ∧ RepB K Hf H y b ∧ f a b = some d ∧ Post K Hf H Q d
section
variable {X : Cx}
theorem op_eqM (hu : X.A.units + 64 < cLine) : OpR X (compareOp .Eq) (rB X.K fun a b => (eqO a b).map .bl) := by
  intro pins s σ H x y v u Q I rx ry h
  obtain ⟨Hf, a, b, d, sm, ha, hb, e, hq⟩ := h
  simp only [eqO] at e
  split at e
  · rename_i hd
    cases e
    obtain ⟨as, r1⟩ := Dp.reads I (py a) x v (ha.dp sm (by omega)) rx
    obtain ⟨bs, r2⟩ := Dp.reads I (py b) y u (hb.dp sm (by omega)) ry
    refine PySem.SeqAt.compareEq_reads r1 r2 (ha.lay (by omega)) (hb.lay (by omega)) (by have := dep_py a; have := dep_py b; omega) ?_
    rw [deq_py a b (ha.lay (by omega)) (hb.lay (by omega))]
    exact ⟨.bl _, H, I, rfl, hq.now sm (.bl _)⟩
  · cases e
theorem op_neM (hu : X.A.units + 64 < cLine) : OpR X (compareOp .NotEq) (rB X.K fun a b => ((eqO a b).map (!·)).map .bl) := by
  intro pins s σ H x y v u Q I rx ry h
  obtain ⟨Hf, a, b, d, sm, ha, hb, e, hq⟩ := h
  simp only [eqO] at e
  split at e
  · rename_i hd
    cases e
    obtain ⟨as, r1⟩ := Dp.reads I (py a) x v (ha.dp sm (by omega)) rx
    obtain ⟨bs, r2⟩ := Dp.reads I (py b) y u (hb.dp sm (by omega)) ry
    refine PySem.SeqAt.compareNe_reads r1 r2 (ha.lay (by omega)) (hb.lay (by omega)) (by have := dep_py a; have := dep_py b; omega) ?_
    rw [deq_py a b (ha.lay (by omega)) (hb.lay (by omega))]
    exact ⟨.bl _, H, I, rfl, hq.now sm (.bl _)⟩
  · cases e

/-! ### arithmetic -/
theorem op_addL : OpR X (binaryOp .Add) (fun x y H Q => ∃ pa pb va vb, x = .ref pa ∧ y = .ref pb ∧ SqL X.K H pa va ∧ SqL X.K H pb vb ∧ va.length + vb.length ≤ sizeLine ∧ ∀ p, H p = none → Q (.ref p) (upd H p (.lst (va ++ vb)))) := by
  intro pins s σ H x y v u Q I rx ry h
  obtain ⟨pa, pb, va, vb, rfl, rfl, sa, sb, hz0, q⟩ := h
  cases rx
  cases ry
  obtain ⟨i1, r1, p1, z1⟩ := I.list sa
  obtain ⟨i2, r2, p2, z2⟩ := I.list sb
  obtain ⟨⟨c1, d1, t1, l1⟩, g1, g2, n1, g3⟩ := p1.isList
  obtain ⟨⟨c2, d2, t2, l2⟩, k1, k2, n2, k3⟩ := p2.isList
  simp only at g2 g3 k2 k3
  subst g2 g3 k2 k3
  have ea : i1.toArray ++ i2.toArray = (i1 ++ i2).toArray := by simp
  have hz : i1.length + i2.length ≤ sizeLine := by
    rw [← r1.length, ← r2.length]
    exact hz0
  refine concat_meets ⟨_, g1, rfl⟩ ⟨_, k1, rfl⟩ noFill_list_add seq_list_add PySem.F.slot_list_add PySem.F.entry_list_add (PySem.F.args_list_add_2 _ _)
    (PyProof.Rows.list_addW pa pb i1.toArray i2.toArray n1 n2 d1 d2 l1 l2 (by simpa using hz)) ⟨g1, k1, ?_⟩
  rw [ea]
  have hp := I.fresh
  have J := I.lnew (t' := s.toks) (r1.append r2) (by rw [List.length_append]; exact hz0)
  exact ⟨.ref _, _, J, rfl, q _ hp⟩
theorem op_addM : OpR X (binaryOp .Add) (rB X.K (bop .add)) := by
  intro pins s σ H x y v u Q I rx ry h
  obtain ⟨Hf, a, b, d, sm, ha, hb, e, hq⟩ := h
  unfold bop at e
  split at e
  · rename_i i j h1
    cases e
    cases ha.int_
    cases hb.int_
    exact op_add pins s σ H _ _ v u Q I rx ry ⟨i, j, rfl, rfl, hq.now sm (.int _)⟩
  · rename_i a b h1
    split at e
    · rename_i hl
      cases e
      obtain ⟨rfl, oa⟩ := ha.str_
      obtain ⟨rfl, ob⟩ := hb.str_
      refine op_add_str pins s σ H _ _ v u Q I rx ry ⟨_, _, rfl, rfl, by rw [sOf_len, sOf_len]; exact line_lim hl, ?_⟩
      rw [sOf_app]
      refine hq.now sm (.str (okS_mk (by rw [List.length_append]; exact hl) fun c hc => ?_))
      rcases List.mem_append.mp hc with hc | hc
      · exact okS_all oa c hc
      · exact okS_all ob c hc
    · cases e
  · rename_i a b h1
    split at e
    · rename_i hl
      cases e
      obtain ⟨pa, va, rfl, sa, ra, la, Ra⟩ := ha.tup_ sm
      obtain ⟨pb, vb, rfl, sb, rb, lb, Rb⟩ := hb.tup_ sm
      refine op_catU pins s σ H _ _ v u Q I rx ry ⟨pa, pb, va, vb, rfl, rfl, sa, sb, by rw [ra.length, rb.length]; exact line_lim hl, fun z => ?_, fun z z2 => ?_, ?_⟩
      · subst z; cases ra; exact hq.now sm Rb
      · subst z2; cases rb; rw [List.append_nil] at hq; exact hq.now sm Ra
      · exact hq.tup sm (ra.append rb) (by rw [List.length_append]; exact hl)
    · cases e
  · rename_i a b h1
    split at e
    · rename_i hl
      cases e
      obtain ⟨pa, va, rfl, sa, ra, la⟩ := ha.lst_ sm
      obtain ⟨pb, vb, rfl, sb, rb, lb⟩ := hb.lst_ sm
      exact op_addL pins s σ H _ _ v u Q I rx ry ⟨pa, pb, va, vb, rfl, rfl, sa, sb, by rw [ra.length, rb.length]; exact line_lim hl, fun p hp => hq.lst sm (ra.append rb) (by rw [List.length_append]; exact hl) _ hp⟩
    · cases e
  all_goals first | (cases e; done) | (simp_all; done)
end
end Mini
end

section
set_option Elab.async false
set_option linter.all false
set_option maxRecDepth 100000
set_option maxHeartbeats 4000000
/-! ML: x < y for tuples and lists of mixed items: only the first place that differs is asked for its order. -/
namespace Mini
open PySem L2
section
open PySem.SeqAt PySem.AutoSeq1 PySem.MeetsSeq PySem.MeetsSeq2 PySem.MeetsSeq3 PySem.SeqRoads2
/-- how the items compare, from the left -/
inductive Lex (A : Around) (s : Shared) : List Value → List Value → Bool → Prop
  | nil {ys : List Value} : Lex A s [] ys (!ys.isEmpty)
  | stop {x : Value} {xs : List Value} : Lex A s (x :: xs) [] false
  | eq {x y : Value} {xs ys : List Value} {k : Bool} : EqAt A s x y true → Lex A s xs ys k → Lex A s (x :: xs) (y :: ys) k
  | ne {x y : Value} {xs ys : List Value} {k : Bool} : EqAt A s x y false → RcLt A s x y k → Lex A s (x :: xs) (y :: ys) k
theorem Lex.fin {A : Around} {s : Shared} {xs ys : List Value} {k : Bool} (h : Lex A s xs ys k) (hz : xs = [] ∨ ys = []) : k = decide (xs.length < ys.length) := by
  cases h with
  | nil => cases ys <;> simp
  | stop => simp
  | eq _ _ => rcases hz with h | h <;> cases h
  | ne _ _ => rcases hz with h | h <;> cases h
theorem lt_tup_meets (l b : Addr) (u v : Array Value) (n n2 : Nat) (dd dd2 : Option Addr) (sl sl2 : Array (Option Value)) (k : Bool) :
    Meets (Builtin.«tuple.__lt__» ⟨[.ref l, .ref b], []⟩)
      (fun A R s => s.heap.get? l = some { cls := .type "tuple", dict := dd, data := .seq u n, slots := sl } ∧ s.heap.get? b = some { cls := .type "tuple", dict := dd2, data := .seq v n2, slots := sl2 } ∧ Lex A.in1 s u.toList v.toList k ∧ R (.ok (.ret (.bool k))) s) :=
  .of_wp fun prog w A R s h => by
    obtain ⟨hp, g, d, tk, os⟩ := s
    obtain ⟨hl, hb, hx, h⟩ := h
    have f2 := AutoSeq1.sub_tuple_tuple
    wp_walk using wpAny_loadPart' hl, wpAny_loadPart' hb, wpAny_forIn_list _ (fun rest c s' => c.1 = none ∧ s' = ⟨hp, g, d, tk, os⟩ ∧ ∃ xs ys, rest = xs.zip ys ∧ Lex A.in1 ⟨hp, g, d, tk, os⟩ xs ys k ∧ decide (xs.length < ys.length) = decide (u.size < v.size)) _
    case turn =>
      rintro ⟨y, x⟩ rest c s' ⟨hc, rfl, xs, ys, hz, hL, hd⟩
      cases hL with
      | nil => cases hz
      | stop => cases hz
      | eq e t =>
        cases hz
        refine wpAny_bind (e prog w _ _ ?_)
        wp_walk
        exact ⟨rfl, rfl, _, _, rfl, t, by rw [← hd]; simp⟩
      | ne e r =>
        cases hz
        refine wpAny_bind (e prog w _ _ ?_)
        show wpAny _ _ (richCompare .Lt y x >>= _) _ _ _
        refine wpAny_bind (r prog w _ _ ?_)
        wp_walk
        exact ⟨_, rfl, h⟩
    case fin =>
      rintro ⟨c1, c2⟩ s' ⟨hc, rfl, xs, ys, hz, hL, hd⟩
      simp only at hc
      subst hc
      have hn : xs = [] ∨ ys = [] := List.zip_eq_nil_iff.mp hz.symm
      have hk := hL.fin hn
      wp_walk
      exact ⟨_, rfl, by rw [hk, hd] at h; simpa [Builtin.Tuple.tupleCompareSizes] using h⟩
    case h =>
      exact ⟨rfl, rfl, _, _, rfl, hx, by simp⟩
theorem lt_loop_meets (l b : Addr) (u v : Array Value) (n n2 : Nat) (dd dd2 : Option Addr) (sl sl2 : Array (Option Value)) (k : Bool) {A0 : Around} {s0 : Shared} :
    ∀ {xs ys : List Value}, Lex A0 s0 xs ys k → ∀ (i : Nat), u.toList.drop i = xs → v.toList.drop i = ys → i ≤ u.size → i ≤ v.size → Meets (Builtin.«list.__eq__.loop» ⟨[.ref l, .ref b, rawInt i, rawInt 0], []⟩)
      (fun A R s => A.in1 = A0 ∧ s = s0 ∧ s.heap.get? l = some { cls := .type "list", dict := dd, data := .seq u n, slots := sl } ∧ s.heap.get? b = some { cls := .type "list", dict := dd2, data := .seq v n2, slots := sl2 } ∧ R (.ok (.ret (.bool k))) s) := by
  intro xs ys hL
  induction hL with
  | @nil ys =>
    intro i hu hv hi hj prog w A R s h
    obtain ⟨rfl, rfl, hl, hb, h⟩ := h
    have e1 : u[((i : Nat) : Int).toNat]? = none := by
      rw [Int.toNat_natCast, ← Array.getElem?_toList, ← List.head?_drop, hu]
      rfl
    obtain ⟨hp, g, d, tk, os⟩ := s
    wp_walk using wpAny_loadPart' hl, wpAny_loadPart' hb
    rw [e1]
    wp_walk using wpAny_loadPart' hl, wpAny_loadPart' hb
    have e2 : (!ys.isEmpty) = decide (u.size < v.size) := by
      have l1 : u.size - i = 0 := by
        have := congrArg List.length hu
        simpa using this
      have l2 : v.size - i = ys.length := by
        have := congrArg List.length hv
        simpa using this
      cases ys with
      | nil =>
        have : ¬ u.size < v.size := by
          simp at l2
          omega
        simp [this]
      | cons a r =>
        have : u.size < v.size := by
          simp at l2
          omega
        simp [this]
    rw [e2] at h
    exact h
  | @stop x xs =>
    intro i hu hv hi hj prog w A R s h
    obtain ⟨rfl, rfl, hl, hb, h⟩ := h
    have e1 : u[((i : Nat) : Int).toNat]? = some x := by
      rw [Int.toNat_natCast, ← Array.getElem?_toList, ← List.head?_drop, hu]
      rfl
    have e2 : v[((i : Nat) : Int).toNat]? = none := by
      rw [Int.toNat_natCast, ← Array.getElem?_toList, ← List.head?_drop, hv]
      rfl
    obtain ⟨hp, g, d, tk, os⟩ := s
    wp_walk using wpAny_loadPart' hl, wpAny_loadPart' hb
    rw [e1, e2]
    wp_walk using wpAny_loadPart' hl, wpAny_loadPart' hb
    have e3 : false = decide (u.size < v.size) := by
      have l1 : u.size - i = xs.length + 1 := by
        have := congrArg List.length hu
        simpa using this
      have l2 : v.size - i = 0 := by
        have := congrArg List.length hv
        simpa using this
      have : ¬ u.size < v.size := by omega
      simp [this]
    rw [e3] at h
    exact h
  | @eq x y xs ys k e t ih =>
    intro i hu hv hi hj prog w A R s h
    obtain ⟨rfl, rfl, hl, hb, h⟩ := h
    have e1 : u[((i : Nat) : Int).toNat]? = some x := by
      rw [Int.toNat_natCast, ← Array.getElem?_toList, ← List.head?_drop, hu]
      rfl
    have e2 : v[((i : Nat) : Int).toNat]? = some y := by
      rw [Int.toNat_natCast, ← Array.getElem?_toList, ← List.head?_drop, hv]
      rfl
    have l1 : u.size - i = xs.length + 1 := by
      have := congrArg List.length hu
      simpa using this
    have l2 : v.size - i = ys.length + 1 := by
      have := congrArg List.length hv
      simpa using this
    have hu' : u.toList.drop (i + 1) = xs := by rw [← List.tail_drop, hu]; rfl
    have hv' : v.toList.drop (i + 1) = ys := by rw [← List.tail_drop, hv]; rfl
    have hc : ((i : Int) + 1) = ((i + 1 : Nat) : Int) := by push_cast; rfl
    obtain ⟨hp, g, d, tk, os⟩ := s
    wp_walk using wpAny_loadPart' hl, wpAny_loadPart' hb
    rw [e1, e2]
    refine wpAny_bind (e prog w _ _ ?_)
    wp_walk
    rw [hc]
    exact ⟨plainId_quiet plain_eq_loop _, codeAny_builtin entry_eq_loop (by
      rw [Around.under_plainId plain_eq_loop _]
      exact ih (i + 1) hu' hv' (by omega) (by omega) prog w A R _ ⟨rfl, rfl, hl, hb, h⟩)⟩
  | @ne x y xs ys k e r =>
    intro i hu hv hi hj prog w A R s h
    obtain ⟨rfl, rfl, hl, hb, h⟩ := h
    have e1 : u[((i : Nat) : Int).toNat]? = some x := by
      rw [Int.toNat_natCast, ← Array.getElem?_toList, ← List.head?_drop, hu]
      rfl
    have e2 : v[((i : Nat) : Int).toNat]? = some y := by
      rw [Int.toNat_natCast, ← Array.getElem?_toList, ← List.head?_drop, hv]
      rfl
    obtain ⟨hp, g, d, tk, os⟩ := s
    wp_walk using wpAny_loadPart' hl, wpAny_loadPart' hb
    rw [e1, e2]
    refine wpAny_bind (e prog w _ _ ?_)
    show wpAny _ _ (Builtin.List.listItems (Value.ref l) >>= _) _ _ _
    refine wpAny_bind ?_
    unfold Builtin.List.listItems
    refine wpAny_bind (wpAny_seqItems hl rfl (wpAny_pure ?_))
    refine wpAny_bind ?_
    refine wpAny_bind (wpAny_seqItems hb rfl (wpAny_pure ?_))
    rw [e1, e2]
    refine wpAny_bind (r prog w _ _ ?_)
    exact wpAny_pure h
theorem lt_list_meets (l b : Addr) (u v : Array Value) (n n2 : Nat) (dd dd2 : Option Addr) (sl sl2 : Array (Option Value)) (k : Bool) :
    Meets (Builtin.«list.__lt__» ⟨[.ref l, .ref b], []⟩)
      (fun A R s => s.heap.get? l = some { cls := .type "list", dict := dd, data := .seq u n, slots := sl } ∧ s.heap.get? b = some { cls := .type "list", dict := dd2, data := .seq v n2, slots := sl2 } ∧ Lex A.in1 s u.toList v.toList k ∧ R (.ok (.ret (.bool k))) s) := by
  intro prog w A R s h
  obtain ⟨hl, hb, hL, h⟩ := h
  have key := lt_loop_meets l b u v n n2 dd dd2 sl sl2 k hL 0 rfl rfl (Nat.zero_le _) (Nat.zero_le _) prog w A R s ⟨rfl, rfl, hl, hb, h⟩
  obtain ⟨hp, g, d, tk, os⟩ := s
  have f3 := AutoSeq1.sub_list_list
  wp_walk using wpAny_loadPart' hl, wpAny_loadPart' hb
  exact ⟨plainId_quiet plain_eq_loop _, codeAny_builtin entry_eq_loop (by
    rw [Around.under_plainId plain_eq_loop _]
    exact key)⟩
theorem rc_tup {A : Around} {s : Shared} {l b : Addr} {u v : Array Value} {k : Bool} (hl : s.heap.IsTuple l u) (hb : s.heap.IsTuple b v) (hu : A.units < cLine) (hL : Lex A.in1 s u.toList v.toList k) : RcLt A s (.ref l) (.ref b) k := fun prog w E Q h => by
  obtain ⟨⟨cls, dd, data, sl⟩, ho, hc, n, hd⟩ := id hl
  obtain ⟨⟨cls2, dd2, data2, sl2⟩, ho2, hc2, n2, hd2⟩ := id hb
  simp only at hc hd hc2 hd2
  subst hc hd hc2 hd2
  have hn : Value.bool k ≠ Value.notImplemented ∧ Q (.bool k) s := ⟨(fun x => nomatch x), h⟩
  exact richCompare_meets_room (op := .Lt) ⟨_, ho, rfl⟩ ⟨_, ho2, rfl⟩ PySem.F.slot_tuple_lt PySem.F.entry_tuple_lt (PySem.F.args_tuple_lt_2 _ _) (lt_tup_meets l b u v n n2 dd dd2 sl sl2 k) ⟨ho, ho2, hL, hn⟩ hu
theorem rc_lst {A : Around} {s : Shared} {l b : Addr} {u v : Array Value} {k : Bool} (hl : s.heap.IsList l u) (hb : s.heap.IsList b v) (hu : A.units < cLine) (hL : Lex A.in1 s u.toList v.toList k) : RcLt A s (.ref l) (.ref b) k := fun prog w E Q h => by
  obtain ⟨⟨cls, dd, data, sl⟩, ho, hc, n, hd⟩ := id hl
  obtain ⟨⟨cls2, dd2, data2, sl2⟩, ho2, hc2, n2, hd2⟩ := id hb
  simp only at hc hd hc2 hd2
  subst hc hd hc2 hd2
  have hn : Value.bool k ≠ Value.notImplemented ∧ Q (.bool k) s := ⟨(fun x => nomatch x), h⟩
  exact richCompare_meets_room (op := .Lt) ⟨_, ho, rfl⟩ ⟨_, ho2, rfl⟩ PySem.F.slot_list_lt PySem.F.entry_list_lt (PySem.F.args_list_lt_2 _ _) (lt_list_meets l b u v n n2 dd dd2 sl sl2 k) ⟨ho, ho2, hL, hn⟩ hu
theorem lay_cons {x : PyData} {xs : List PyData} (h : PyData.canLayAll0 (x :: xs) = true) : x.canLay0 = true ∧ PyData.canLayAll0 xs = true := by
  rw [PyData.canLayAll0, Bool.and_eq_true] at h
  exact h
/-- a < b, for data of this depth -/
def LtOk (n : Nat) : Prop := ∀ (a b : D) (k : Bool) (A : Around) (s : Shared) (va vb : Value) (as bs : List Addr), dep a ≤ n → Reads s.heap va (py a) as → Reads s.heap vb (py b) bs → (py a).canLay0 = true → (py b).canLay0 = true → ltD a b = some k → A.units + min (dep a) (dep b) < cLine → RcLt A s va vb k
theorem lex_Ds {n : Nat} (ih : LtOk n) {A : Around} {s : Shared} {k : Bool} : ∀ (xs ys : List D) (vs ws : List Value) (as bs : List Addr), deps xs ≤ n → ReadsAll s.heap vs (pys xs) as → ReadsAll s.heap ws (pys ys) bs → PyData.canLayAll0 (pys xs) = true → PyData.canLayAll0 (pys ys) = true → ltDs xs ys = some k → A.units + min (deps xs) (deps ys) < cLine → Lex A s vs ws k := by
  intro xs
  induction xs with
  | nil =>
    intro ys vs ws as bs hn ra rb la lb e hu
    cases ra
    cases ys with
    | nil =>
      cases rb
      cases e
      exact .nil
    | cons y ys =>
      cases rb
      cases e
      exact .nil
  | cons x xs ihx =>
    intro ys vs ws as bs hn ra rb la lb e hu
    have hn1 : dep x ≤ n := Nat.le_trans (Nat.le_max_left _ _) hn
    have hn2 : deps xs ≤ n := Nat.le_trans (Nat.le_max_right _ _) hn
    cases ys with
    | nil =>
      cases ra
      cases rb
      cases e
      exact .stop
    | cons y ys =>
      obtain ⟨l1, l2⟩ := lay_cons la
      obtain ⟨m1, m2⟩ := lay_cons lb
      cases ra with
      | cons r rs =>
        cases rb with
        | cons r' rs' =>
          have he := eqAt_reads (py x) (py y) A s _ _ _ _ r r' l1 m1 (by have := room_head hu; have := dep_py x; have := dep_py y; omega)
          rw [deq_py x y l1 m1] at he
          have e : (if deq x y = true then ltDs xs ys else ltD x y) = some k := e
          cases hd : deq x y with
          | true =>
            rw [hd, if_pos rfl] at e
            rw [hd] at he
            exact .eq he (ihx ys _ _ _ _ hn2 rs rs' l2 m2 e (room_tail hu))
          | false =>
            rw [hd, if_neg Bool.false_ne_true] at e
            rw [hd] at he
            exact .ne he (ih x y k A s _ _ _ _ hn1 r r' l1 m1 e (room_head hu))
theorem lt_flat {a b : D} {k : Bool} {A : Around} {s : Shared} {va vb : Value} {as bs : List Addr} (f : flatD a = true) (ra : Reads s.heap va (py a) as) (rb : Reads s.heap vb (py b) bs) (e : ltD a b = some k) : RcLt A s va vb k := by
  cases a with
  | non => cases b <;> cases e
  | tup _ => cases f
  | lst _ => cases f
  | dic _ _ => cases b <;> cases e
  | ob _ _ _ => cases b <;> cases e
  | ml _ => cases b <;> cases e
  | md _ _ => cases b <;> cases e
  | mo _ _ _ => cases b <;> cases e
  | bl i =>
    cases b with
    | bl j =>
      cases ra
      cases rb
      cases e
      intro prog w E Q hq
      exact PyProof.Rows.lt_bool hq
    | _ => cases e
  | int i =>
    cases b with
    | int j =>
      cases ra
      cases rb
      cases e
      intro prog w E Q hq
      exact PySem.P.lt_int hq
    | _ => cases e
  | str i =>
    cases b with
    | str j =>
      cases ra
      cases rb
      cases e
      intro prog w E Q hq
      exact PySem.P.lt_str hq
    | _ => cases e
theorem lt_ok : ∀ n : Nat, LtOk n := by
  intro n
  induction n with
  | zero =>
    intro a b k A s va vb as bs hn ra rb la lb e hu
    cases a with
    | tup ds => exact absurd hn (Nat.not_succ_le_zero _)
    | lst ds => exact absurd hn (Nat.not_succ_le_zero _)
    | _ => exact lt_flat rfl ra rb e
  | succ n ih =>
    intro a b k A s va vb as bs hn ra rb la lb e hu
    cases a with
    | tup xs =>
      cases b with
      | tup ys =>
        cases ra with
        | @tuple l o vs n1 _ as₁ h1 h2 h3 h4 =>
          cases rb with
          | @tuple l' o' vs' n2 _ bs₁ k1 k2 k3 k4 =>
            exact rc_tup ⟨_, h1, h2, _, h3⟩ ⟨_, k1, k2, _, k3⟩ (room_here hu) (lex_Ds ih xs ys _ _ _ _ (Nat.le_of_succ_le_succ hn) h4 k4 la lb e (room_in hu))
      | _ => cases e
    | lst xs =>
      cases b with
      | lst ys =>
        cases ra with
        | @list l o vs n1 _ as₁ h1 h2 h3 h4 =>
          cases rb with
          | @list l' o' vs' n2 _ bs₁ k1 k2 k3 k4 =>
            exact rc_lst ⟨_, h1, h2, _, h3⟩ ⟨_, k1, k2, _, k3⟩ (room_here hu) (lex_Ds ih xs ys _ _ _ _ (Nat.le_of_succ_le_succ hn) h4 k4 la lb e (room_in hu))
      | _ => cases e
    | _ => exact lt_flat rfl ra rb e
end
end Mini
end

section
set_option Elab.async false
set_option linter.all false
set_option maxRecDepth 100000
/-! M4: the other operators. -/
namespace Mini
open PySem L2
section
variable {K : PySem.W.Frag} {Hf H : Hp} {v : V} {Q : VK}
theorem dInts_eq : ∀ {ds : List D} {is : List Int}, dInts ds = some is → ds = is.map .int
  | [], is, h => by cases h; rfl
  | .int i :: r, is, h => by
    have h1 : (dInts r).map (i :: ·) = some is := h
    cases e : dInts r with
    | none => rw [e] at h1; cases h1
    | some js => rw [e] at h1; cases h1; rw [dInts_eq e] <;> rfl
theorem dStrs_eq : ∀ {ds : List D} {is : List (List Nat)}, dStrs ds = some is → ds = is.map .str
  | [], is, h => by cases h; rfl
  | .str i :: r, is, h => by
    have h1 : (dStrs r).map (i :: ·) = some is := h
    cases e : dStrs r with
    | none => rw [e] at h1; cases h1
    | some js => rw [e] at h1; cases h1; rw [dStrs_eq e] <;> rfl
theorem dBools_eq : ∀ {ds : List D} {is : List Bool}, dBools ds = some is → ds = is.map .bl
  | [], is, h => by cases h; rfl
  | .bl i :: r, is, h => by
    have h1 : (dBools r).map (i :: ·) = some is := h
    cases e : dBools r with
    | none => rw [e] at h1; cases h1
    | some js => rw [e] at h1; cases h1; rw [dBools_eq e] <;> rfl
theorem pys_any (x : D) (hx : (py x).canLay0 = true) : ∀ ds : List D, PyData.canLayAll0 (pys ds) = true → ((pys ds).any fun y => PyData.eqv y (py x)) = ds.any fun y => deq y x
  | [], _ => rfl
  | d :: ds, h => by
    show (PyData.eqv (py d) (py x) || (pys ds).any _) = (deq d x || ds.any _)
    rw [deq_py d x (lay_cons' h).1 hx, pys_any x hx ds (lay_cons' h).2]
theorem subOf_iff (y : List Nat) : ∀ x : List Nat, subOf y x = true ↔ ∃ i, i + y.length ≤ x.length ∧ (x.drop i).take y.length = y
  | [] => by
    cases y with
    | nil => simp [subOf]
    | cons a y => simp [subOf]
  | c :: x => by
    have ih := subOf_iff y x
    unfold subOf
    rw [Bool.or_eq_true, ih]
    constructor
    · rintro (h | ⟨i, h1, h2⟩)
      · obtain ⟨t, ht⟩ := List.isPrefixOf_iff_prefix.mp h
        refine ⟨0, ?_, ?_⟩
        · rw [← ht, List.length_append]; omega
        · rw [List.drop_zero, ← ht, List.take_left']; rfl
      · exact ⟨i + 1, by rw [List.length_cons]; omega, by rw [List.drop_succ_cons]; exact h2⟩
    · rintro ⟨i, h1, h2⟩
      cases i with
      | zero =>
        refine .inl (List.isPrefixOf_iff_prefix.mpr ?_)
        rw [List.drop_zero] at h2
        rw [← h2]
        exact List.take_prefix _ _
      | succ i =>
        rw [List.drop_succ_cons] at h2
        rw [List.length_cons] at h1
        exact .inr ⟨i, by omega, h2⟩
theorem sub_occ (y x : List Nat) : (!(Builtin.Str.occurrences (sOf x) (sOf y) 0 (sOf x).length 1).isEmpty) = subOf y x := by
  rw [Bool.eq_iff_iff, PySem.StrLaws.found_iff, subOf_iff]
  simp only [sOf_len, PySem.StrLaws.subAt_eq, beq_iff_eq]
end

theorem omap {α β : Type} {f : α → β} {o : Option α} {d : β} (h : o.map f = some d) : ∃ k, o = some k ∧ f k = d := Option.map_eq_some_iff.mp h
section
variable {X : Cx}
theorem op_inM (hu : X.A.units + 64 < cLine) : OpR X (compareOp .In) (rB X.K fun a b => (memO a b).map .bl) := by
  intro pins s σ H x y v u Q I rx ry h
  obtain ⟨Hf, a, b, d, sm, ha, hb, e0, hq⟩ := h
  obtain ⟨k, e, rfl⟩ := omap e0
  unfold memO at e
  split at e
  · rename_i ds
    unfold inO at e
    split at e
    · rename_i hd
      cases e
      have hda : dep a ≤ 100 := by omega
      have hdb : dep (.tup ds) ≤ 100 := by show deps ds + 1 ≤ 100; omega
      have hla := ha.lay hda
      have hlb := hb.lay hdb
      have l1 := dep_py a
      have l2 := deps_py ds
      obtain ⟨as, r1⟩ := Dp.reads I (py a) x v (ha.dp sm hda) rx
      obtain ⟨bs, r2⟩ := Dp.reads I (py (.tup ds)) y u (hb.dp sm hdb) ry
      refine PySem.SeqAt.in_tuple_reads r2 r1 hlb hla (by omega) ?_
      rw [pys_any a hla ds hlb]
      exact ⟨.bl _, H, I, rfl, hq.now sm (.bl _)⟩
    · cases e
  · rename_i ds
    unfold inO at e
    split at e
    · rename_i hd
      cases e
      have hda : dep a ≤ 100 := by omega
      have hdb : dep (.lst ds) ≤ 100 := by show deps ds + 1 ≤ 100; omega
      have hla := ha.lay hda
      have hlb := hb.lay hdb
      have l1 := dep_py a
      have l2 := deps_py ds
      obtain ⟨as, r1⟩ := Dp.reads I (py a) x v (ha.dp sm hda) rx
      obtain ⟨bs, r2⟩ := Dp.reads I (py (.lst ds)) y u (hb.dp sm hdb) ry
      refine PySem.SeqAt.in_list_reads r2 r1 hlb hla (by omega) ?_
      rw [pys_any a hla ds hlb]
      exact ⟨.bl _, H, I, rfl, hq.now sm (.bl _)⟩
    · cases e
  · rename_i z
    split at e
    · rename_i c
      cases e
      obtain ⟨rfl, oa⟩ := ha.str_
      obtain ⟨rfl, ob⟩ := hb.str_
      refine op_in_sign pins s σ H _ _ v u Q I rx ry ⟨c, sOf z, rfl, rfl, ?_⟩
      have e2 : decide (c ∈ (sOf z).cps.toList) = z.contains c := by
        show decide (c ∈ z) = _
        rw [List.contains_eq_mem]
      rw [e2]
      exact hq.now sm (.bl _)
    · rename_i y' hne
      cases e
      obtain ⟨rfl, oa⟩ := ha.str_
      obtain ⟨rfl, ob⟩ := hb.str_
      refine op_in_str pins s σ H _ _ v u Q I rx ry ⟨_, _, rfl, rfl, ?_⟩
      rw [sub_occ]
      exact hq.now sm (.bl _)
    · cases e
  · cases e
theorem op_notInM (hu : X.A.units + 64 < cLine) : OpR X (compareOp .NotIn) (rB X.K fun a b => ((memO a b).map (!·)).map .bl) := by
  intro pins s σ H x y v u Q I rx ry h
  obtain ⟨Hf, a, b, d, sm, ha, hb, e0, hq⟩ := h
  obtain ⟨k0, e00, rfl⟩ := omap e0
  obtain ⟨k, e, rfl⟩ := omap e00
  unfold memO at e
  split at e
  · rename_i ds
    unfold inO at e
    split at e
    · rename_i hd
      cases e
      have hda : dep a ≤ 100 := by omega
      have hdb : dep (.tup ds) ≤ 100 := by show deps ds + 1 ≤ 100; omega
      have hla := ha.lay hda
      have hlb := hb.lay hdb
      have l1 := dep_py a
      have l2 := deps_py ds
      obtain ⟨as, r1⟩ := Dp.reads I (py a) x v (ha.dp sm hda) rx
      obtain ⟨bs, r2⟩ := Dp.reads I (py (.tup ds)) y u (hb.dp sm hdb) ry
      refine PySem.SeqAt.notIn_tuple_reads r2 r1 hlb hla (by omega) ?_
      rw [pys_any a hla ds hlb]
      exact ⟨.bl _, H, I, rfl, hq.now sm (.bl _)⟩
    · cases e
  · rename_i ds
    unfold inO at e
    split at e
    · rename_i hd
      cases e
      have hda : dep a ≤ 100 := by omega
      have hdb : dep (.lst ds) ≤ 100 := by show deps ds + 1 ≤ 100; omega
      have hla := ha.lay hda
      have hlb := hb.lay hdb
      have l1 := dep_py a
      have l2 := deps_py ds
      obtain ⟨as, r1⟩ := Dp.reads I (py a) x v (ha.dp sm hda) rx
      obtain ⟨bs, r2⟩ := Dp.reads I (py (.lst ds)) y u (hb.dp sm hdb) ry
      refine PySem.SeqAt.notIn_list_reads r2 r1 hlb hla (by omega) ?_
      rw [pys_any a hla ds hlb]
      exact ⟨.bl _, H, I, rfl, hq.now sm (.bl _)⟩
    · cases e
  · rename_i z
    split at e
    · rename_i c
      cases e
      obtain ⟨rfl, oa⟩ := ha.str_
      obtain ⟨rfl, ob⟩ := hb.str_
      refine op_notIn_sign pins s σ H _ _ v u Q I rx ry ⟨c, sOf z, rfl, rfl, ?_⟩
      have e2 : (!decide (c ∈ (sOf z).cps.toList)) = !z.contains c := by
        show (!decide (c ∈ z)) = _
        rw [List.contains_eq_mem]
      rw [e2]
      exact hq.now sm (.bl _)
    · rename_i y' hne
      cases e
      obtain ⟨rfl, oa⟩ := ha.str_
      obtain ⟨rfl, ob⟩ := hb.str_
      refine op_notIn_str pins s σ H _ _ v u Q I rx ry ⟨_, _, rfl, rfl, ?_⟩
      rw [sub_occ]
      exact hq.now sm (.bl _)
    · cases e
  · cases e
theorem lt_G {pins : List (Addr × Obj)} {s : Shared} {σ : L2.St} {H : Hp} {x y : V} {v u : Value} {Q : VK} {a b : D} {k : Bool} (hu : X.A.units + 64 < cLine) (I : L2.Inv X pins σ H s) (ha : dep a ≤ 100 → Dp X.K H x (py a)) (hb : dep b ≤ 100 → Dp X.K H y (py b)) (rx : RelV x v) (ry : RelV y u) (la : dep a ≤ 100 → (py a).canLay0 = true) (lb : dep b ≤ 100 → (py b).canLay0 = true)
    (e : ltG a b = some k) (hq : True → Q (.bl k) H) : wpAny (model X.prog X.w) X.A (compareOp .Lt v u) (EP X pins σ Q) X.xe s := by
  unfold ltG at e
  split at e
  · rename_i hd
    obtain ⟨as, r1⟩ := Dp.reads I (py a) x v (ha (by omega)) rx
    obtain ⟨bs, r2⟩ := Dp.reads I (py b) y u (hb (by omega)) ry
    exact lt_ok _ a b k X.A s v u _ _ (Nat.le_refl _) r1 r2 (la (by omega)) (lb (by omega)) e (by omega) _ _ _ _ ⟨.bl k, H, I, rfl, hq trivial⟩
  · cases e
theorem op_ltM (hu : X.A.units + 64 < cLine) : OpR X (compareOp .Lt) (rB X.K fun a b => (ltO a b).map .bl) := by
  intro pins s σ H x y v u Q I rx ry h
  obtain ⟨Hf, a, b, d, sm, ha, hb, e0, hq⟩ := h
  obtain ⟨k, e, rfl⟩ := omap e0
  unfold ltO at e
  split at e
  · rename_i i j
    cases e
    cases ha.int_
    cases hb.int_
    exact op_lt pins s σ H _ _ v u Q I rx ry ⟨i, j, rfl, rfl, hq.now sm (.bl _)⟩
  · rename_i i j
    cases e
    cases ha.bl_
    cases hb.bl_
    cases (show v = Value.bool i from rx)
    cases (show u = Value.bool j from ry)
    exact PyProof.Rows.lt_bool ⟨.bl _, H, I, rfl, hq.now sm (.bl _)⟩
  · rename_i i j
    cases e
    obtain ⟨rfl, oa⟩ := ha.str_
    obtain ⟨rfl, ob⟩ := hb.str_
    exact op_lt_str pins s σ H _ _ v u Q I rx ry ⟨_, _, rfl, rfl, hq.now sm (.bl _)⟩
  · rename_i i j
    split at e
    · rename_i p q h1 h2
      cases e
      cases dInts_eq h1
      cases dInts_eq h2
      obtain ⟨pa, va, rfl, sa, ra, la, Ra⟩ := ha.tup_ sm
      obtain ⟨pb, vb, rfl, sb, rb, lb, Rb⟩ := hb.tup_ sm
      cases ra.ints
      cases rb.ints
      exact op_ltT (by omega) pins s σ H _ _ v u Q I rx ry ⟨pa, pb, p, q, rfl, rfl, sa, sb, hq.now sm (.bl _)⟩
    · exact lt_G hu I (ha.dp sm) (hb.dp sm) rx ry ha.lay hb.lay e (fun z => hq.now sm (.bl _))
  · exact lt_G hu I (ha.dp sm) (hb.dp sm) rx ry ha.lay hb.lay e (fun z => hq.now sm (.bl _))
  · cases e
theorem op_leM : OpR X (compareOp .LtE) (rB X.K fun a b => (cop .le a b).map .bl) := by
  intro pins s σ H x y v u Q I rx ry h
  obtain ⟨Hf, a, b, d, sm, ha, hb, e0, hq⟩ := h
  obtain ⟨k, e, rfl⟩ := omap e0
  cases a <;> cases b <;> first
    | (cases e; done)
    | (rename_i i j
       cases e
       cases ha.int_
       cases hb.int_
       exact op_le pins s σ H _ _ v u Q I rx ry ⟨i, j, rfl, rfl, hq.now sm (.bl _)⟩)
theorem op_geM : OpR X (compareOp .GtE) (rB X.K fun a b => (cop .ge a b).map .bl) := by
  intro pins s σ H x y v u Q I rx ry h
  obtain ⟨Hf, a, b, d, sm, ha, hb, e0, hq⟩ := h
  obtain ⟨k, e, rfl⟩ := omap e0
  cases a <;> cases b <;> first
    | (cases e; done)
    | (rename_i i j
       cases e
       cases ha.int_
       cases hb.int_
       exact op_ge pins s σ H _ _ v u Q I rx ry ⟨i, j, rfl, rfl, hq.now sm (.bl _)⟩)
theorem op_gtM : OpR X (compareOp .Gt) (rB X.K fun a b => (cop .gt a b).map .bl) := by
  intro pins s σ H x y v u Q I rx ry h
  obtain ⟨Hf, a, b, d, sm, ha, hb, e0, hq⟩ := h
  obtain ⟨k, e, rfl⟩ := omap e0
  cases a <;> cases b <;> first
    | (cases e; done)
    | (rename_i i j
       cases e
       cases ha.int_
       cases hb.int_
       exact op_gt pins s σ H _ _ v u Q I rx ry ⟨i, j, rfl, rfl, hq.now sm (.bl _)⟩)
    | (rename_i i j
       cases e
       obtain ⟨rfl, oa⟩ := ha.str_
       obtain ⟨rfl, ob⟩ := hb.str_
       exact op_gt_str pins s σ H _ _ v u Q I rx ry ⟨_, _, rfl, rfl, hq.now sm (.bl _)⟩)
/-- None or not -/
theorem RepB.isN {K : PySem.W.Frag} {Hf H : Hp} {v : V} {d : D} (h : RepB K Hf H v d) : decide (v = .non) = (match d with | .non => true | _ => false) := by
  rcases h with h | ⟨_, _, _, rfl, rfl, _⟩
  · cases h <;> rfl
  · rfl
theorem op_isM : OpR X (compareOp .Is) (rB X.K fun a b => (cop .is a b).map .bl) := by
  intro pins s σ H x y v u Q I rx ry h
  obtain ⟨Hf, a, b, d, sm, ha, hb, e0, hq⟩ := h
  obtain ⟨k, e, rfl⟩ := omap e0
  cases b
  case non =>
    cases hb.non_
    refine op_isN pins s σ H _ _ v u Q I rx ry ⟨rfl, ?_⟩
    have q := ha.isN
    cases a <;> (cases e; rw [q]; exact hq.now sm (.bl _))
  case bl y' =>
    cases e
    cases hb.bl_
    cases (show u = Value.bool y' from ry)
    have other : (∀ b, x ≠ .bl b) → Q (.bl false) H → wpAny (model X.prog X.w) X.A (compareOp .Is v (.bool y')) (EP X pins σ Q) X.xe s := fun hn q => by
      cases x with
      | bl b => exact absurd rfl (hn b)
      | non => cases rx; exact wpAny_is_other rfl (fun z => nomatch z) ⟨.bl false, H, I, rfl, q⟩
      | ref a => cases rx; exact wpAny_is_other rfl (fun z => nomatch z) ⟨.bl false, H, I, rfl, q⟩
      | ty n => cases rx; exact wpAny_is_other rfl (fun z => nomatch z) ⟨.bl false, H, I, rfl, q⟩
      | int i => obtain ⟨t, rfl⟩ := rx; exact wpAny_is_other rfl (fun z => nomatch z) ⟨.bl false, H, I, rfl, q⟩
      | str i => obtain ⟨t, rfl⟩ := rx; exact wpAny_is_other rfl (fun z => nomatch z) ⟨.bl false, H, I, rfl, q⟩
      | byt i => obtain ⟨t, rfl⟩ := rx; exact wpAny_is_other rfl (fun z => nomatch z) ⟨.bl false, H, I, rfl, q⟩
      | flt i => obtain ⟨t, rfl⟩ := rx; exact wpAny_is_other rfl (fun z => nomatch z) ⟨.bl false, H, I, rfl, q⟩
    cases a with
    | bl b =>
      cases ha.bl_
      refine op_isBl pins s σ H _ _ v _ Q I rx ry ⟨b, y', rfl, rfl, ?_⟩
      have e2 : decide (b = y') = (b == y') := by cases b <;> cases y' <;> rfl
      rw [e2]
      exact hq.now sm (.bl _)
    | non => cases ha.non_; exact other (fun b z => nomatch z) (hq.now sm (.bl _))
    | int i => cases ha.int_; exact other (fun b z => nomatch z) (hq.now sm (.bl _))
    | str i => obtain ⟨rfl, _⟩ := ha.str_; exact other (fun b z => nomatch z) (hq.now sm (.bl _))
    | tup i => obtain ⟨_, _, rfl, _⟩ := ha.tup_ sm; exact other (fun b z => nomatch z) (hq.now sm (.bl _))
    | lst i => obtain ⟨_, _, rfl, _⟩ := ha.lst_ sm; exact other (fun b z => nomatch z) (hq.now sm (.bl _))
    | dic _ _ => obtain ⟨_, _, rfl, _⟩ := ha.dic_; exact other (fun b z => nomatch z) (hq.now sm (.bl _))
    | ob _ _ _ => obtain ⟨_, rfl⟩ := ha.ob_; exact other (fun b z => nomatch z) (hq.now sm (.bl _))
    | ml _ => exact (ha.no rfl).elim
    | md _ _ => exact (ha.no rfl).elim
    | mo _ _ _ => exact (ha.no rfl).elim
  all_goals cases e
theorem op_isNotM : OpR X (compareOp .IsNot) (rB X.K fun a b => (cop .isNot a b).map .bl) := by
  intro pins s σ H x y v u Q I rx ry h
  obtain ⟨Hf, a, b, d, sm, ha, hb, e0, hq⟩ := h
  obtain ⟨k, e, rfl⟩ := omap e0
  cases b
  case non =>
    cases hb.non_
    refine op_notN pins s σ H _ _ v u Q I rx ry ⟨rfl, ?_⟩
    have q := ha.isN
    cases a <;> (cases e; rw [q]; exact hq.now sm (.bl _))
  case bl y' =>
    cases e
    cases hb.bl_
    cases (show u = Value.bool y' from ry)
    have other : (∀ b, x ≠ .bl b) → Q (.bl true) H → wpAny (model X.prog X.w) X.A (compareOp .IsNot v (.bool y')) (EP X pins σ Q) X.xe s := fun hn q => by
      cases x with
      | bl b => exact absurd rfl (hn b)
      | non => cases rx; exact wpAny_isNot_other rfl (fun z => nomatch z) ⟨.bl true, H, I, rfl, q⟩
      | ref a => cases rx; exact wpAny_isNot_other rfl (fun z => nomatch z) ⟨.bl true, H, I, rfl, q⟩
      | ty n => cases rx; exact wpAny_isNot_other rfl (fun z => nomatch z) ⟨.bl true, H, I, rfl, q⟩
      | int i => obtain ⟨t, rfl⟩ := rx; exact wpAny_isNot_other rfl (fun z => nomatch z) ⟨.bl true, H, I, rfl, q⟩
      | str i => obtain ⟨t, rfl⟩ := rx; exact wpAny_isNot_other rfl (fun z => nomatch z) ⟨.bl true, H, I, rfl, q⟩
      | byt i => obtain ⟨t, rfl⟩ := rx; exact wpAny_isNot_other rfl (fun z => nomatch z) ⟨.bl true, H, I, rfl, q⟩
      | flt i => obtain ⟨t, rfl⟩ := rx; exact wpAny_isNot_other rfl (fun z => nomatch z) ⟨.bl true, H, I, rfl, q⟩
    cases a with
    | bl b =>
      cases ha.bl_
      refine op_notBl pins s σ H _ _ v _ Q I rx ry ⟨b, y', rfl, rfl, ?_⟩
      have e2 : (!decide (b = y')) = !(b == y') := by cases b <;> cases y' <;> rfl
      rw [e2]
      exact hq.now sm (.bl _)
    | non => cases ha.non_; exact other (fun b z => nomatch z) (hq.now sm (.bl _))
    | int i => cases ha.int_; exact other (fun b z => nomatch z) (hq.now sm (.bl _))
    | str i => obtain ⟨rfl, _⟩ := ha.str_; exact other (fun b z => nomatch z) (hq.now sm (.bl _))
    | tup i => obtain ⟨_, _, rfl, _⟩ := ha.tup_ sm; exact other (fun b z => nomatch z) (hq.now sm (.bl _))
    | lst i => obtain ⟨_, _, rfl, _⟩ := ha.lst_ sm; exact other (fun b z => nomatch z) (hq.now sm (.bl _))
    | dic _ _ => obtain ⟨_, _, rfl, _⟩ := ha.dic_; exact other (fun b z => nomatch z) (hq.now sm (.bl _))
    | ob _ _ _ => obtain ⟨_, rfl⟩ := ha.ob_; exact other (fun b z => nomatch z) (hq.now sm (.bl _))
    | ml _ => exact (ha.no rfl).elim
    | md _ _ => exact (ha.no rfl).elim
    | mo _ _ _ => exact (ha.no rfl).elim
  all_goals cases e

/-! ### text * int -/
theorem fold_rep {α : Type} (cs : List α) : ∀ (m : Nat) (acc : Array α), List.foldl (fun x1 x2 => x1 ++ x2) acc (List.replicate m cs.toArray) = acc ++ (List.replicate m cs).flatten.toArray
  | 0, acc => by simp
  | m + 1, acc => by
    rw [List.replicate_succ, List.foldl_cons, fold_rep cs m, List.replicate_succ, List.flatten_cons]
    apply Array.toList_inj.mp
    simp
theorem rep_len {α : Type} (cs : List α) (m : Nat) : (List.replicate m cs).flatten.length = m * cs.length := by
  induction m with
  | zero => simp
  | succ m ih => rw [List.replicate_succ, List.flatten_cons, List.length_append, ih, Nat.succ_mul]; omega
theorem op_repS : OpR X (binaryOp .Mult) (fun x y H Q => ∃ (cs : List Nat) (j : Int), x = .str (sOf cs) ∧ y = .int j ∧ (-1000 < j ∧ j < 1000 ∧ cs.length ≤ 1000) ∧ Q (.str (sOf (List.replicate j.toNat cs).flatten)) H) := by
  intro pins s σ H x y v u Q I rx ry h
  obtain ⟨cs, j, rfl, rfl, ⟨h1, h2, h3⟩, q⟩ := h
  obtain ⟨t, rfl⟩ := rx
  obtain ⟨t2, rfl⟩ := ry
  have hl : (sOf cs).length = cs.length := sOf_len cs
  have hz : (List.replicate j.toNat cs).flatten.length ≤ 1000000 := by
    rw [rep_len]
    have : j.toNat * cs.length ≤ 1000 * 1000 := Nat.mul_le_mul (by omega) h3
    omega
  have hzl : (List.replicate j.toNat cs).flatten.length ≤ sizeLine := by rw [sizeLine_eq]; omega
  refine PySem.P.mul_str ?_ (fun h4 h5 => ?_) (fun h4 h5 => ?_) ?_
  · rw [decide_eq_false (by omega), decide_eq_false (by omega)]
    rfl
  · rw [hl]
    have : (1000 : Int) ≤ (2 ^ 63 - 1) / j := by
      rw [Int.le_ediv_iff_mul_le (by omega)]
      omega
    omega
  · rw [hl]
    rw [rep_len, Nat.mul_comm] at hz
    show decide (cs.length * j.toNat > sizeLine) = false
    rw [decide_eq_false_iff_not, sizeLine_eq]
    omega
  · by_cases h4 : j < 1
    · rw [if_pos h4]
      have e : sOf (List.replicate j.toNat cs).flatten = Str.empty := by
        have : j.toNat = 0 := by omega
        rw [this] <;> rfl
      rw [e] at q
      exact ⟨by decide, .str Str.empty, H, I.tok _, ⟨_, rfl⟩, q⟩
    · rw [if_neg h4]
      split
      · rename_i h5
        have e : (List.replicate j.toNat cs).flatten = cs := by
          rcases Bool.or_eq_true_iff.mp h5 with h5 | h5
          · have : j.toNat = 1 := by
              have := beq_iff_eq.mp h5
              omega
            rw [this]
            simp
          · have : cs = [] := List.eq_nil_of_length_eq_zero (by rw [← hl]; exact beq_iff_eq.mp h5)
            subst this
            apply List.eq_nil_of_length_eq_zero
            rw [rep_len] <;> rfl
        rw [e] at q
        exact ⟨.str (sOf cs), H, I, ⟨t, rfl⟩, q⟩
      · have e : (⟨List.foldl (fun x1 x2 => x1 ++ x2) #[] (List.replicate j.toNat (sOf cs).cps)⟩ : Str) = sOf (List.replicate j.toNat cs).flatten := by
          show (⟨_⟩ : Str) = ⟨_⟩
          congr 1
          rw [fold_rep]
          simp
        rw [e]
        exact ⟨by rw [sOf_len]; exact hzl, .str _, H, I.tok _, ⟨_, rfl⟩, q⟩
/-! ### all of them by their names -/
def copP : COp → CmpOp
  | .eq => .Eq | .ne => .NotEq | .lt => .Lt | .le => .LtE | .gt => .Gt | .ge => .GtE | .isIn => .In | .notIn => .NotIn | .is => .Is | .isNot => .IsNot
theorem op_cop (hu : X.A.units + 64 < cLine) (o : COp) : OpR X (compareOp (copP o)) (rB X.K fun a b => (cop o a b).map .bl) := by
  cases o with
  | eq => exact op_eqM hu
  | ne => exact op_neM hu
  | lt => exact op_ltM hu
  | le => exact op_leM
  | gt => exact op_gtM
  | ge => exact op_geM
  | isIn => exact op_inM hu
  | notIn => exact op_notInM hu
  | is => exact op_isM
  | isNot => exact op_isNotM

theorem small_ok {i : Int} (h : small i = true) : -(2 ^ 64) < i ∧ i < 2 ^ 64 := by
  have h2 := Bool.and_eq_true_iff.mp h
  exact ⟨of_decide_eq_true h2.1, of_decide_eq_true h2.2⟩
def bopP : BOp → Operator
  | .add => .Add | .sub => .Sub | .mul => .Mult | .fdiv => .FloorDiv | .mod => .Mod | .pow => .Pow
theorem op_bop (o : BOp) : OpR X (binaryOp (bopP o)) (rB X.K (bop o)) := by
  cases o with
  | add => exact op_addM
  | sub =>
    intro pins s σ H x y v u Q I rx ry h
    obtain ⟨Hf, a, b, d, sm, ha, hb, e, hq⟩ := h
    cases a <;> cases b <;> first
      | (cases e; done)
      | (rename_i i j
         cases e
         cases ha.int_
         cases hb.int_
         exact op_sub pins s σ H _ _ v u Q I rx ry ⟨i, j, rfl, rfl, hq.now sm (.int _)⟩)
  | mul =>
    intro pins s σ H x y v u Q I rx ry h
    obtain ⟨Hf, a, b, d, sm, ha, hb, e, hq⟩ := h
    cases a <;> cases b <;> first
      | (cases e; done)
      | (rename_i i j
         have e : (if small i || small j then some (D.int (i * j)) else none) = some d := e
         split at e
         · rename_i hs
           cases e
           cases ha.int_
           cases hb.int_
           refine op_mul pins s σ H _ _ v u Q I rx ry ⟨i, j, rfl, rfl, ?_, hq.now sm (.int _)⟩
           rcases Bool.or_eq_true_iff.mp hs with h | h
           · exact .inl (small_ok h)
           · exact .inr (small_ok h)
         · cases e)
      | (rename_i cs j
         have e : (if -1000 < j ∧ j < 1000 ∧ cs.length ≤ 1000 then some (D.str (List.replicate j.toNat cs).flatten) else none) = some d := e
         split at e
         · rename_i hs
           cases e
           obtain ⟨rfl, oa⟩ := ha.str_
           cases hb.int_
           refine op_repS pins s σ H _ _ v u Q I rx ry ⟨cs, j, rfl, rfl, hs, hq.now sm (.str (okS_mk ?_ fun c hc => ?_))⟩
           · rw [rep_len]
             have : j.toNat * cs.length ≤ 1000 * 1000 := Nat.mul_le_mul (by omega) hs.2.2
             exact this
           · obtain ⟨l, hl, hc⟩ := List.mem_flatten.mp hc
             rw [List.eq_of_mem_replicate hl] at hc
             exact okS_all oa c hc
         · cases e)
  | fdiv =>
    intro pins s σ H x y v u Q I rx ry h
    obtain ⟨Hf, a, b, d, sm, ha, hb, e, hq⟩ := h
    cases a <;> cases b <;> first
      | (cases e; done)
      | (rename_i i j
         have e : (if j ≠ 0 ∧ j.natAbs < 1073741824 then some (D.int (i.fdiv j)) else none) = some d := e
         split at e
         · rename_i hs
           cases e
           cases ha.int_
           cases hb.int_
           exact op_fdivN pins s σ H _ _ v u Q I rx ry ⟨i, j, rfl, rfl, hs, hq.now sm (.int _)⟩
         · cases e)
  | mod =>
    intro pins s σ H x y v u Q I rx ry h
    obtain ⟨Hf, a, b, d, sm, ha, hb, e, hq⟩ := h
    cases a <;> cases b <;> first
      | (cases e; done)
      | (rename_i i j
         have e : (if j ≠ 0 then some (D.int (i.fmod j)) else none) = some d := e
         split at e
         · rename_i hs
           cases e
           cases ha.int_
           cases hb.int_
           exact op_modN pins s σ H _ _ v u Q I rx ry ⟨i, j, rfl, rfl, hs, hq.now sm (.int _)⟩
         · cases e)
  | pow =>
    intro pins s σ H x y v u Q I rx ry h
    obtain ⟨Hf, a, b, d, sm, ha, hb, e, hq⟩ := h
    cases a <;> cases b <;> first
      | (cases e; done)
      | (rename_i i j
         have e : (if 0 ≤ j ∧ j ≤ 1000 ∧ i.natAbs < 2 ^ 64 then some (D.int (i ^ j.toNat)) else none) = some d := e
         split at e
         · rename_i hs
           cases e
           cases ha.int_
           cases hb.int_
           exact op_pow pins s σ H _ _ v u Q I rx ry ⟨i, j, rfl, rfl, ⟨hs.1, by omega, hs.2.2⟩, hq.now sm (.int _)⟩
         · cases e)
end
end Mini
end

section
set_option Elab.async false
set_option linter.all false
set_option maxRecDepth 100000
set_option maxHeartbeats 2000000
/-! MB: max, min, sum of a tuple of ints. -/
namespace Mini
open PySem L2
section
variable {X : Cx}
theorem fold_maxOf : ∀ (xs : List Int) (x : Int), PySem.W.maxOf x xs = xs.foldl max x
  | [], x => rfl
  | y :: ys, x => by
    show PySem.W.maxOf (if decide (x < y) = true then y else x) ys = ys.foldl max (max x y)
    rw [fold_maxOf ys]
    congr 1
    by_cases h : x < y
    · rw [if_pos (decide_eq_true h), Int.max_eq_right (by omega)]
    · rw [if_neg (by simpa using h), Int.max_eq_left (by omega)]
theorem fold_minOf : ∀ (xs : List Int) (x : Int), PySem.W.minOf x xs = xs.foldl min x
  | [], x => rfl
  | y :: ys, x => by
    show PySem.W.minOf (if decide (y < x) = true then y else x) ys = ys.foldl min (min x y)
    rw [fold_minOf ys]
    congr 1
    by_cases h : y < x
    · rw [if_pos (decide_eq_true h), Int.min_eq_right (by omega)]
    · rw [if_neg (by simpa using h), Int.min_eq_left (by omega)]
theorem holds_int_ {h : Heap} {v : Value} {n : Int} (x : PySem.W.Holds h v n) : ∃ t, v = .int n t := by
  obtain ⟨as, r⟩ := x
  cases r with
  | int _ t => exact ⟨t, rfl⟩
theorem call_maxT (hc : X.calm = true) (hu : X.A.units + 64 < cLine) : CallR X (.builtin "max") (fun vs H Q => ∃ (a : Addr) (x : Int) (xs : List Int), vs = [V.ref a] ∧ SqT X.K H a ((x :: xs).map V.int) ∧ Q (.int (xs.foldl max x)) H) := by
  intro pins s σ H vs us Q I r h
  obtain ⟨a, x, xs, rfl, hs, q⟩ := h
  obtain ⟨its, rv, p, _⟩ := I.tuple hs
  rw [Vals.ref1 r]
  refine PySem.W.max_tuple_datum (α := Int) (I.ok.hd hc) p (PySem.W.HoldAll.of_ints (vs := its) (ns := x :: xs) rv.ints) (by show X.A.units + 1 + 0 < cLine; omega) fun i v h' tk hi hv hk => ?_
  obtain ⟨t, rfl⟩ := holds_int_ hv
  rw [fold_maxOf]
  exact ⟨.int _, H, I.kept hk, ⟨_, rfl⟩, q⟩
theorem call_minT (hc : X.calm = true) (hu : X.A.units + 64 < cLine) : CallR X (.builtin "min") (fun vs H Q => ∃ (a : Addr) (x : Int) (xs : List Int), vs = [V.ref a] ∧ SqT X.K H a ((x :: xs).map V.int) ∧ Q (.int (xs.foldl min x)) H) := by
  intro pins s σ H vs us Q I r h
  obtain ⟨a, x, xs, rfl, hs, q⟩ := h
  obtain ⟨its, rv, p, _⟩ := I.tuple hs
  rw [Vals.ref1 r]
  refine PySem.W.min_tuple_datum (α := Int) (I.ok.hd hc) p (PySem.W.HoldAll.of_ints (vs := its) (ns := x :: xs) rv.ints) (by show X.A.units + 1 + 0 < cLine; omega) fun i v h' tk hi hv hk => ?_
  obtain ⟨t, rfl⟩ := holds_int_ hv
  rw [fold_minOf]
  exact ⟨.int _, H, I.kept hk, ⟨_, rfl⟩, q⟩
theorem call_sumT (hc : X.calm = true) : CallR X (.builtin "sum") (fun vs H Q => ∃ (a : Addr) (ns : List Int), vs = [V.ref a] ∧ SqT X.K H a (ns.map V.int) ∧ Q (.int ns.sum) H) := by
  intro pins s σ H vs us Q I r h
  obtain ⟨a, ns, rfl, hs, q⟩ := h
  obtain ⟨its, rv, p, _⟩ := I.tuple hs
  rw [Vals.ref1 r]
  have hi := rv.ints
  obtain ⟨xs, e⟩ := hi.allInts.items
  have hn : PySem.numsOf (PySem.intItems xs).toList = ns := by rw [← e]; exact hi.numsOf
  rw [PySem.nums_intItems] at hn
  refine PySem.W.ktm_sumG (xs := xs) (I.ok.hd hc) (by rw [← e]; exact p) fun h' tk t' hk => ?_
  rw [PySem.preSum_eq, List.take_of_length_le (by simp), hn]
  exact ⟨.int _, H, I.kept hk, ⟨_, rfl⟩, q⟩
theorem ins_perm (x : Int) : ∀ ys : List Int, (insI x ys).Perm (x :: ys)
  | [] => .refl _
  | y :: ys => by
    unfold insI
    split
    · exact .refl _
    · exact ((ins_perm x ys).cons y).trans (.swap x y ys)
theorem sort_perm : ∀ xs : List Int, (sortI xs).Perm xs
  | [] => .refl _
  | x :: xs => (ins_perm x _).trans ((sort_perm xs).cons x)
theorem ins_pw (x : Int) : ∀ {ys : List Int}, ys.Pairwise (· ≤ ·) → (insI x ys).Pairwise (· ≤ ·)
  | [], _ => List.pairwise_singleton _ _
  | y :: ys, h => by
    obtain ⟨h1, h2⟩ := List.pairwise_cons.mp h
    unfold insI
    split
    · rename_i hxy
      refine List.pairwise_cons.mpr ⟨fun z hz => ?_, h⟩
      rcases List.mem_cons.mp hz with rfl | hz
      · exact hxy
      · have := h1 z hz
        omega
    · rename_i hxy
      refine List.pairwise_cons.mpr ⟨fun z hz => ?_, ins_pw x h2⟩
      rcases List.mem_cons.mp ((ins_perm x ys).mem_iff.mp hz) with rfl | hz
      · omega
      · exact h1 z hz
theorem sort_pw : ∀ xs : List Int, (sortI xs).Pairwise (· ≤ ·)
  | [] => .nil
  | x :: xs => ins_pw x (sort_pw xs)
theorem sort_one {xs ys : List Int} (hp : ys.Perm xs) (hs : ys.Pairwise (· ≤ ·)) : ys = sortI xs :=
  List.Perm.eq_of_pairwise (le := (· ≤ ·)) (fun a b _ _ h1 h2 => by omega) hs (sort_pw xs) (hp.trans (sort_perm xs).symm)
open PySem.Spec PyProof.Rows in
/-- sorted(xs), xs a list or a tuple of ints -/
theorem call_sortI : CallR X (.builtin "sorted") (fun vs H Q => ∃ (a : Addr) (is : List Int), vs = [V.ref a] ∧ (SqL X.K H a (is.map V.int) ∨ SqT X.K H a (is.map V.int)) ∧ is.length < 64 ∧ ∀ p, H p = none → Q (.ref p) (upd H p (.lst ((sortI is).map V.int)))) := by
  intro pins s σ H vs us Q I r ⟨a, is, ev, hs, h64, q⟩
  subst ev
  rw [Vals.ref1 r]
  have key : ∀ (T : String) (its : List Value) (o : Obj) (n : Nat), T = "list" ∨ T = "tuple" → s.heap.get? a = some o → o.cls = .type T → o.data = .seq its.toArray n → IntsAre its is →
      wpAny (model X.prog X.w) X.A (call (.builtin "sorted") [.ref a]) (EP X pins σ Q) X.xe s := by
    intro T its o n hT ho hc hd hi
    have hl : its.length = is.length := hi.length
    have h64' : its.length < 64 := by omega
    refine Calls.call_function_entry PyProof.Rows.kind_sorted PyProof.Rows.plain_sorted PyProof.Rows.entry_sorted (PyProof.Rows.args_sorted1 _) ?_
    unfold Builtin.«sorted»
    refine wpAny_bind (m := checkCount "sorted" 1 1 _) (wpAny_pure ?_)
    refine wpAny_bind (wpAny_collect_seq a hT ho hc hd (fun h' hk => ?_) (by rw [List.size_toArray, sizeLine_eq]; omega))
    have I1 : L2.Inv X pins σ H { s with heap := h' } := I.kept (t' := s.toks) hk
    refine wpAny_bind (wpAny_newList ?_ (by simp only [List.toList_toArray]; rw [sizeLine_eq]; omega))
    have hoL : (h'.push (seqObj "list" its.toArray 0)).get? h'.objs.size = some (seqObj "list" its.toArray 0) := Heap.get?_push_size _ rfl
    show wpAny _ _ _ _ _ { s with heap := h'.push (seqObj "list" its.toArray 0) }
    refine wpAny_bind (wpAny_holding (wpAny_call_entry PyProof.Rows.slot_list_sort ⟨_, hoL, rfl⟩ PyProof.Rows.entry_list_sort (PyProof.Rows.list_sort_tree (s := { s with heap := h'.push (seqObj "list" its.toArray 0) }) hoL hi h64' fun out ns' a1 a2 a3 => ⟨_, rfl, ?_⟩) (PyProof.Rows.args_list_sort _)))
    have e1 := sort_one a2 a3
    subst e1
    obtain ⟨ep, he'⟩ := PyProof.Rows.sortedHeap_at (vs := its) (out := out) hoL
    have hlen : ((sortI is).map V.int).length ≤ sizeLine := by
      rw [List.length_map, a2.length_eq, sizeLine_eq]
      omega
    refine wpAny_pure ⟨_, rfl, .ref h'.objs.size, upd H h'.objs.size (.lst ((sortI is).map V.int)), I1.laid (t' := s.toks) (fun b u e => ?_) (Nat.le_refl _)
      (show ObjOk X.prog X.w _ _ _ (.lst ((sortI is).map V.int)) from ⟨hlen, out.toList, ep, vals_of_ints a1, he'⟩), rfl, q _ (I1.hok.fresh (Nat.le_refl _))⟩
    have hb : b < h'.objs.size := Heap.lt_size e
    rw [PyProof.Rows.sortedHeap_old (Nat.ne_of_lt hb) (by rw [PyProof.Rows.size_push']; exact Nat.lt_succ_of_lt hb)]
    exact Heap.get?_push_of_some _ e
  rcases hs with hs | hs
  · obtain ⟨its, rv, p, _⟩ := I.list hs
    obtain ⟨o, ho, hc, n, hd⟩ := p.isList
    exact key "list" its o n (.inl rfl) ho hc hd rv.ints
  · obtain ⟨its, rv, p, _⟩ := I.tuple hs
    obtain ⟨o, ho, hc, n, hd⟩ := p
    exact key "tuple" its o n (.inr rfl) ho hc hd rv.ints
end
end Mini
end

section
set_option Elab.async false
set_option linter.all false
set_option maxRecDepth 100000
/-! M5: built-in functions. -/
namespace Mini
open PySem L2
inductive RepBs (K : PySem.W.Frag) (Hf H : Hp) : List V → List D → Prop
  | nil : RepBs K Hf H [] []
  | cons {v : V} {vs : List V} {d : D} {ds : List D} : RepB K Hf H v d → RepBs K Hf H vs ds → RepBs K Hf H (v :: vs) (d :: ds)
theorem RvsR.derefs {K : PySem.W.Frag} {c : C0} {ρ : En} {σ : L2.St} {Hf H : Hp} (r : R K c ρ σ Hf H) : ∀ {vs : List V} {rs : List Rv} {ds : List D}, RvsR K σ Hf vs rs → Mini.derefs ρ rs = some ds → RepBs K Hf H vs ds
  | _, _, ds, .nil, e => by cases e; exact .nil
  | _, _, ds, .cons (r := a) (rs := as) h t, e => by
    unfold Mini.derefs at e
    cases e1 : deref ρ a with
    | none => rw [e1] at e; cases e
    | some d =>
      cases e2 : Mini.derefs ρ as with
      | none => rw [e1, e2] at e; cases e
      | some es => rw [e1, e2] at e; cases e; exact .cons (h.deref r e1) (RvsR.derefs r t e2)
theorem RvsR.asDs {K : PySem.W.Frag} {σ : L2.St} {Hf : Hp} : ∀ {vs : List V} {rs : List Rv} {ds : List D}, RvsR K σ Hf vs rs → Mini.asDs rs = some ds → Reps K Hf vs ds
  | _, _, ds, .nil, e => by cases e; exact .nil
  | _, _, ds, .cons (r := .d a) (rs := as) h t, e => by
    have e1 : (Mini.asDs as).map (a :: ·) = some ds := e
    obtain ⟨k, h1, rfl⟩ := omap e1
    exact .cons h (RvsR.asDs t h1)
  | _, _, ds, .cons (r := .o a) (rs := as) h t, e => by cases e
theorem asD_eq {rv : Rv} {d : D} (h : asD rv = some d) : rv = .d d := by
  cases rv with
  | d x => cases h; rfl
  | o i => cases h
theorem asI_eq {x : D} {i : Int} (h : asI x = some i) : x = .int i := by
  cases x <;> cases h; rfl
theorem asB_eq {x : D} {i : Bool} (h : asB x = some i) : x = .bl i := by
  cases x <;> cases h; rfl

def rC (K : PySem.W.Frag) (f : List D → Option D) : List V → Hp → VK → Prop := fun xs H Q => ∃ Hf ds d, Same Hf H ∧ RepBs K Hf H xs ds ∧ f ds = some d ∧ Post K Hf H Q d
def biN : BI → Str
  | .len => "len" | .abs => "abs" | .min2 => "min" | .max2 => "max" | .min1 => "min" | .max1 => "max" | .sum => "sum" | .all => "all" | .any => "any" | .int => "int" | .str => "str" | .list => "list" | .tuple => "tuple" | .sorted => "sorted" | .dict => "dict"
/-- what stands behind the name -/
def biV : BI → Value
  | .len => .builtin "len" | .abs => .builtin "abs" | .min2 => .builtin "min" | .max2 => .builtin "max" | .min1 => .builtin "min" | .max1 => .builtin "max" | .sum => .builtin "sum" | .all => .builtin "all" | .any => .builtin "any"
  | .int => .type "int" | .str => .type "str" | .list => .type "list" | .tuple => .type "tuple" | .sorted => .builtin "sorted" | .dict => .type "dict"

theorem numL_ok {n : Nat} (h : n < 10 ^ 100) : okS (TL.numL n) = true := okS_mk (by
    have := TL.numL_len (k := 100) (by decide) h
    have : (100 : Nat) ≤ lim := by decide
    omega) fun c hc => by
  have := TL.numL_digits n c hc
  omega
theorem str_intS {i : Int} (h : i.natAbs < 10 ^ 100) : (Str.ofString (toString i)) = sOf (intS i) ∧ okS (intS i) = true := by
  cases i with
  | ofNat n =>
    have e : intS (Int.ofNat n) = TL.numL n := by
      unfold intS
      rw [if_neg (by simp)]
      rfl
    rw [e]
    exact ⟨TL.ext_tl (TL.tl_num n), numL_ok h⟩
  | negSucc n =>
    have e : intS (Int.negSucc n) = 45 :: TL.numL (n + 1) := by
      unfold intS
      rw [if_pos (Int.negSucc_lt_zero n)]
      rfl
    rw [e]
    refine ⟨TL.ext_tl ?_, okS_mk ?_ ?_⟩
    · rw [TL.tl_ofString]
      show ("-" ++ Nat.repr (n + 1)).toList.map Char.toNat = _
      rw [String.toList_append, List.map_append]
      show [45] ++ _ = 45 :: TL.numL (n + 1)
      rw [List.singleton_append]
      congr 1
      have q := TL.tl_num (n + 1)
      rw [TL.tl_ofString] at q
      exact q
    · have := TL.numL_len (k := 100) (by decide) (show n + 1 < 10 ^ 100 from h)
      have : (101 : Nat) ≤ lim := by decide
      rw [List.length_cons]
      omega
    · intro c hc
      rcases List.mem_cons.mp hc with rfl | hc
      · decide
      · have := TL.numL_digits _ c hc
        omega
theorem log_small {n : Nat} (h : n < 10 ^ 100) : n.log2 < 1920 := by
  by_cases hz : n = 0
  · subst hz; decide
  · rw [Nat.log2_lt hz]
    exact Nat.lt_of_lt_of_le h (by decide)
theorem digs {x : List Nat} (h : x.all isDig = true) : ∀ c ∈ x, 48 ≤ c ∧ c ≤ 57 := fun c hc => by
  have q := List.all_eq_true.mp h c hc
  unfold isDig at q
  rw [Bool.and_eq_true, decide_eq_true_eq, decide_eq_true_eq] at q
  exact q

section
variable {X : Cx}
theorem c_len : CallR X (.builtin "len") (rC X.K (bi .len)) := by
  intro pins s σ H xs us Q I r h
  obtain ⟨Hf, ds, d, sm, rs, e, hq⟩ := h
  unfold bi at e
  split at e <;> first
    | (cases e; done)
    | (rename_i x hx; cases hx; done)
    | skip
  all_goals first
    | (rename_i x hh
       cases e
       cases rs with
       | cons h t =>
         cases t
         obtain ⟨rfl, oa⟩ := h.str_
         refine call_len_str pins s σ H _ us Q I r ⟨_, rfl, okS_line oa, ?_⟩
         rw [sOf_len]
         exact hq.now sm (.int _))
    | (rename_i x hh
       cases e
       cases rs with
       | cons h t =>
         cases t
         obtain ⟨a, vs, rfl, sa, ra, _⟩ := h.tup_ sm
         refine call_len_seq pins s σ H _ us Q I r ⟨_, _, rfl, .inr sa, ?_⟩
         rw [ra.length]
         exact hq.now sm (.int _))
    | (rename_i x hh
       cases e
       cases rs with
       | cons h t =>
         cases t
         obtain ⟨a, vs, rfl, sa, ra, _⟩ := h.lst_ sm
         refine call_len_seq pins s σ H _ us Q I r ⟨_, _, rfl, .inl sa, ?_⟩
         rw [ra.length]
         exact hq.now sm (.int _))
    | simp_all
theorem c_abs : CallR X (.builtin "abs") (rC X.K (bi .abs)) := by
  intro pins s σ H xs us Q I r h
  obtain ⟨Hf, ds, d, sm, rs, e, hq⟩ := h
  unfold bi at e
  split at e <;> first
    | (cases e; done)
    | (rename_i x hh
       cases e
       cases rs with
       | cons h t =>
         cases t
         cases h.int_
         exact call_abs pins s σ H _ us Q I r ⟨_, rfl, hq.now sm (.int _)⟩)
    | simp_all
theorem c_max2 (hc : X.calm = true) : CallR X (.builtin "max") (rC X.K (bi .max2)) := by
  intro pins s σ H xs us Q I r h
  obtain ⟨Hf, ds, d, sm, rs, e, hq⟩ := h
  unfold bi at e
  split at e <;> first
    | (cases e; done)
    | (rename_i x y hh
       cases e
       cases rs with
       | cons h t =>
         cases t with
         | cons h2 t =>
           cases t
           cases h.int_
           cases h2.int_
           exact call_max2 hc pins s σ H _ us Q I r ⟨_, _, rfl, hq.now sm (.int _)⟩)
    | simp_all
theorem c_min2 (hc : X.calm = true) : CallR X (.builtin "min") (rC X.K (bi .min2)) := by
  intro pins s σ H xs us Q I r h
  obtain ⟨Hf, ds, d, sm, rs, e, hq⟩ := h
  unfold bi at e
  split at e <;> first
    | (cases e; done)
    | (rename_i x y hh
       cases e
       cases rs with
       | cons h t =>
         cases t with
         | cons h2 t =>
           cases t
           cases h.int_
           cases h2.int_
           exact call_min2 hc pins s σ H _ us Q I r ⟨_, _, rfl, hq.now sm (.int _)⟩)
    | simp_all
theorem c_all (hc : X.calm = true) : CallR X (.builtin "all") (rC X.K (bi .all)) := by
  intro pins s σ H xs us Q I r h
  obtain ⟨Hf, ds, d, sm, rs, e, hq⟩ := h
  unfold bi at e
  split at e <;> first
    | (cases e; done)
    | (rename_i x hh
       obtain ⟨bs, hb, rfl⟩ := omap e
       cases dBools_eq hb
       cases rs with
       | cons h t =>
         cases t
         obtain ⟨a, vs, rfl, sa, ra, _⟩ := h.lst_ sm
         cases ra.bls
         exact cr_all hc pins s σ H _ us Q I r ⟨_, bs, rfl, sa, hq.now sm (.bl _)⟩)
    | simp_all
theorem c_any (hc : X.calm = true) : CallR X (.builtin "any") (rC X.K (bi .any)) := by
  intro pins s σ H xs us Q I r h
  obtain ⟨Hf, ds, d, sm, rs, e, hq⟩ := h
  unfold bi at e
  split at e <;> first
    | (cases e; done)
    | (rename_i x hh
       obtain ⟨bs, hb, rfl⟩ := omap e
       cases dBools_eq hb
       cases rs with
       | cons h t =>
         cases t
         obtain ⟨a, vs, rfl, sa, ra, _⟩ := h.lst_ sm
         cases ra.bls
         exact cr_any hc pins s σ H _ us Q I r ⟨_, bs, rfl, sa, hq.now sm (.bl _)⟩)
    | simp_all
theorem c_sum (hc : X.calm = true) : CallR X (.builtin "sum") (rC X.K (bi .sum)) := by
  intro pins s σ H xs us Q I r h
  obtain ⟨Hf, ds, d, sm, rs, e, hq⟩ := h
  unfold bi at e
  split at e <;> first
    | (cases e; done)
    | (rename_i x hh
       obtain ⟨bs, hb, rfl⟩ := omap e
       cases dInts_eq hb
       cases rs with
       | cons h t =>
         cases t
         first
           | (obtain ⟨a, vs, rfl, sa, ra, _, _⟩ := h.tup_ sm
              cases ra.ints
              exact call_sumT hc pins s σ H _ us Q I r ⟨_, bs, rfl, sa, hq.now sm (.int _)⟩)
           | (obtain ⟨a, vs, rfl, sa, ra, _⟩ := h.lst_ sm
              cases ra.ints
              exact cr_sum hc pins s σ H _ us Q I r ⟨_, bs, rfl, sa, hq.now sm (.int _)⟩))
    | simp_all
theorem maxI_of {ns : List Int} {m k : Int} (h : maxI ns = some k) (hm : m ∈ ns) (hb : ∀ y ∈ ns, y ≤ m) : m = k := by
  have fold : ∀ (xs : List Int) (x : Int), xs.foldl max x ∈ x :: xs ∧ ∀ y ∈ x :: xs, y ≤ xs.foldl max x := fun xs => by
    induction xs with
    | nil => intro x; simp
    | cons z zs ih =>
      intro x
      obtain ⟨h1, h2⟩ := ih (max x z)
      rw [List.foldl_cons]
      constructor
      · rcases List.mem_cons.mp h1 with e | h1
        · rw [e]
          rcases Int.le_total x z with q | q
          · rw [Int.max_eq_right q]; simp
          · rw [Int.max_eq_left q]; simp
        · exact List.mem_cons_of_mem _ (List.mem_cons_of_mem _ h1)
      · intro y hy
        have h3 := h2 (max x z) (List.mem_cons_self ..)
        rcases List.mem_cons.mp hy with rfl | hy
        · exact Int.le_trans (Int.le_max_left ..) h3
        · rcases List.mem_cons.mp hy with rfl | hy
          · exact Int.le_trans (Int.le_max_right ..) h3
          · exact h2 y (List.mem_cons_of_mem _ hy)
  cases ns with
  | nil => cases h
  | cons x xs =>
    cases h
    obtain ⟨h1, h2⟩ := fold xs x
    exact Int.le_antisymm (h2 m hm) (hb _ h1)
theorem minI_of {ns : List Int} {m k : Int} (h : minI ns = some k) (hm : m ∈ ns) (hb : ∀ y ∈ ns, m ≤ y) : m = k := by
  have fold : ∀ (xs : List Int) (x : Int), xs.foldl min x ∈ x :: xs ∧ ∀ y ∈ x :: xs, xs.foldl min x ≤ y := fun xs => by
    induction xs with
    | nil => intro x; simp
    | cons z zs ih =>
      intro x
      obtain ⟨h1, h2⟩ := ih (min x z)
      rw [List.foldl_cons]
      constructor
      · rcases List.mem_cons.mp h1 with e | h1
        · rw [e]
          rcases Int.le_total x z with q | q
          · rw [Int.min_eq_left q]; simp
          · rw [Int.min_eq_right q]; simp
        · exact List.mem_cons_of_mem _ (List.mem_cons_of_mem _ h1)
      · intro y hy
        have h3 := h2 (min x z) (List.mem_cons_self ..)
        rcases List.mem_cons.mp hy with rfl | hy
        · exact Int.le_trans h3 (Int.min_le_left ..)
        · rcases List.mem_cons.mp hy with rfl | hy
          · exact Int.le_trans h3 (Int.min_le_right ..)
          · exact h2 y (List.mem_cons_of_mem _ hy)
  cases ns with
  | nil => cases h
  | cons x xs =>
    cases h
    obtain ⟨h1, h2⟩ := fold xs x
    exact Int.le_antisymm (hb _ h1) (h2 m hm)
theorem maxI_ne {ns : List Int} {k : Int} (h : maxI ns = some k) : 0 < ns.length := by
  cases ns with
  | nil => cases h
  | cons _ _ => simp
theorem minI_ne {ns : List Int} {k : Int} (h : minI ns = some k) : 0 < ns.length := by
  cases ns with
  | nil => cases h
  | cons _ _ => simp
theorem c_max1 (hc : X.calm = true) (hu : X.A.units + 64 < cLine) : CallR X (.builtin "max") (rC X.K (bi .max1)) := by
  intro pins s σ H xs us Q I r h
  obtain ⟨Hf, ds, d, sm, rs, e, hq⟩ := h
  unfold bi at e
  split at e <;> first
    | (cases e; done)
    | (rename_i x hh
       obtain ⟨bs, hb, e⟩ := Option.bind_eq_some_iff.mp e
       obtain ⟨k, hk, rfl⟩ := omap e
       cases dInts_eq hb
       cases rs with
       | cons h t =>
         cases t
         first
           | (obtain ⟨a, vs, rfl, sa, ra, _, _⟩ := h.tup_ sm
              cases ra.ints
              cases bs with
              | nil => cases hk
              | cons y ys =>
                cases hk
                exact call_maxT hc hu pins s σ H _ us Q I r ⟨_, y, ys, rfl, sa, hq.now sm (.int _)⟩)
           | (obtain ⟨a, vs, rfl, sa, ra, _⟩ := h.lst_ sm
              cases ra.ints
              refine cr_max hc pins s σ H _ us Q I r ⟨_, bs, rfl, sa, maxI_ne hk, fun m h1 h2 => ?_⟩
              rw [maxI_of hk h1 h2]
              exact hq.now sm (.int _)))
    | simp_all
theorem c_min1 (hc : X.calm = true) (hu : X.A.units + 64 < cLine) : CallR X (.builtin "min") (rC X.K (bi .min1)) := by
  intro pins s σ H xs us Q I r h
  obtain ⟨Hf, ds, d, sm, rs, e, hq⟩ := h
  unfold bi at e
  split at e <;> first
    | (cases e; done)
    | (rename_i x hh
       obtain ⟨bs, hb, e⟩ := Option.bind_eq_some_iff.mp e
       obtain ⟨k, hk, rfl⟩ := omap e
       cases dInts_eq hb
       cases rs with
       | cons h t =>
         cases t
         first
           | (obtain ⟨a, vs, rfl, sa, ra, _, _⟩ := h.tup_ sm
              cases ra.ints
              cases bs with
              | nil => cases hk
              | cons y ys =>
                cases hk
                exact call_minT hc hu pins s σ H _ us Q I r ⟨_, y, ys, rfl, sa, hq.now sm (.int _)⟩)
           | (obtain ⟨a, vs, rfl, sa, ra, _⟩ := h.lst_ sm
              cases ra.ints
              refine cr_min hc pins s σ H _ us Q I r ⟨_, bs, rfl, sa, minI_ne hk, fun m h1 h2 => ?_⟩
              rw [minI_of hk h1 h2]
              exact hq.now sm (.int _)))
    | simp_all
theorem c_str : CallR X (.type "str") (rC X.K (bi .str)) := by
  intro pins s σ H xs us Q I r h
  obtain ⟨Hf, ds, d, sm, rs, e, hq⟩ := h
  unfold bi at e
  split at e <;> first
    | (cases e; done)
    | (rename_i x hh
       split at e
       · rename_i hl
         cases e
         cases rs with
         | cons h t =>
           cases t
           cases h.int_
           obtain ⟨e1, e2⟩ := str_intS hl
           refine call_str_int pins s σ H _ us Q I r ⟨_, rfl, log_small hl, ?_⟩
           rw [e1]
           exact hq.now sm (.str e2)
       · cases e)
    | simp_all
theorem c_list : CallR X (.type "list") (rC X.K (bi .list)) := by
  intro pins s σ H xs us Q I r h
  obtain ⟨Hf, ds, d, sm, rs, e, hq⟩ := h
  unfold bi at e
  split at e <;> first
    | (cases e; done)
    | (rename_i x hh
       cases e
       cases rs with
       | cons h t =>
         cases t
         obtain ⟨a, vs, rfl, sa, ra, hl, _⟩ := h.tup_ sm
         exact call_list_of pins s σ H _ us Q I r ⟨_, _, rfl, .inr sa, hq.lst sm ra hl⟩)
    | (rename_i x hh
       cases e
       cases rs with
       | cons h t =>
         cases t
         obtain ⟨a, vs, rfl, sa, ra, hl⟩ := h.lst_ sm
         exact call_list_of pins s σ H _ us Q I r ⟨_, _, rfl, .inl sa, hq.lst sm ra hl⟩)
    | simp_all
theorem c_tuple : CallR X (.type "tuple") (rC X.K (bi .tuple)) := by
  intro pins s σ H xs us Q I r h
  obtain ⟨Hf, ds, d, sm, rs, e, hq⟩ := h
  unfold bi at e
  split at e <;> first
    | (cases e; done)
    | (rename_i x hh
       cases e
       cases rs with
       | cons h t =>
         cases t
         obtain ⟨a, vs, rfl, sa, ra, hl, Ra⟩ := h.tup_ sm
         exact call_tupU pins s σ H _ us Q I r ⟨_, _, rfl, .inr ⟨sa, hq.now sm Ra⟩⟩)
    | (rename_i x hh
       cases e
       cases rs with
       | cons h t =>
         cases t
         obtain ⟨a, vs, rfl, sa, ra, hl⟩ := h.lst_ sm
         exact call_tupU pins s σ H _ us Q I r ⟨_, _, rfl, .inl ⟨sa, hq.tup sm ra hl⟩⟩)
    | simp_all
theorem c_int : CallR X (.type "int") (rC X.K (bi .int)) := by
  intro pins s σ H xs us Q I r h
  obtain ⟨Hf, ds, d, sm, rs, e, hq⟩ := h
  cases rs with
  | nil => cases e
  | cons h t =>
    rename_i v vs x ds
    cases t with
    | cons _ _ => cases x <;> cases e
    | nil =>
      cases x with
      | non => cases e
      | tup _ => cases e
      | lst _ => cases e
      | dic _ _ => cases e
      | ob _ _ _ => cases e
      | ml _ => cases e
      | md _ _ => cases e
      | mo _ _ _ => cases e
      | int i =>
        cases e
        cases h.int_
        exact call_int1 pins s σ H _ us Q I r (.inl ⟨_, rfl, hq.now sm (.int _)⟩)
      | bl i =>
        cases e
        cases h.bl_
        exact call_int1 pins s σ H _ us Q I r (.inr ⟨_, rfl, hq.now sm (.int _)⟩)
      | str x =>
        obtain ⟨rfl, oa⟩ := h.str_
        have e : (if x.length ≤ 640 then (match x with
          | 45 :: cs => if cs ≠ [] ∧ cs.all isDig = true then some (D.int (-((digVal cs : Nat) : Int))) else none
          | _ => if x ≠ [] ∧ x.all isDig = true then some (.int (digVal x)) else none) else none) = some d := e
        split at e
        · rename_i hl
          split at e
          · rename_i cs _
            split at e
            · rename_i hc
              cases e
              exact call_int_str pins s σ H _ us Q I r ⟨_, _, rfl, PySem.intText_neg (cs := cs) rfl (digs hc.2) hc.1 (by rw [sOf_len]; omega), by rw [sOf_len]; exact hl, hq.now sm (.int _)⟩
            · cases e
          · split at e
            · rename_i hc
              cases e
              exact call_int_str pins s σ H _ us Q I r ⟨_, _, rfl, PySem.intText_digits (digs hc.2) hc.1 (by rw [sOf_len]; omega), by rw [sOf_len]; exact hl, hq.now sm (.int _)⟩
            · cases e
        · cases e
theorem c_sorted : CallR X (.builtin "sorted") (rC X.K (bi .sorted)) := by
  intro pins s σ H xs us Q I r h
  obtain ⟨Hf, ds, d, sm, rs, e, hq⟩ := h
  have fin : ∀ {is : List Int} {v : V}, xs = [v] → (∃ a, v = .ref a ∧ (SqL X.K H a (is.map V.int) ∨ SqT X.K H a (is.map V.int))) → (if is.length < 64 then some (D.lst ((sortI is).map .int)) else none) = some d → wpAny (model X.prog X.w) X.A (call (.builtin "sorted") us) (EP X pins σ Q) X.xe s := fun {is v} ev hv e => by
    subst ev
    obtain ⟨a, rfl, hs⟩ := hv
    split at e
    · rename_i h64
      cases e
      have hz : ((sortI is).map D.int).length ≤ lim := by
        rw [List.length_map, (sort_perm is).length_eq]
        exact Nat.le_trans (Nat.le_of_lt h64) (by decide)
      exact call_sortI pins s σ H _ us Q I r ⟨_, is, rfl, hs, h64, hq.lst sm Reps.of_ints hz⟩
    · cases e
  cases rs with
  | nil => cases e
  | cons h t =>
    rename_i v vs x ds
    cases t with
    | cons _ _ => cases x <;> cases e
    | nil =>
      cases x with
      | tup y =>
        obtain ⟨is, hb, e2⟩ := Option.bind_eq_some_iff.mp (show ((dInts y).bind fun is => if is.length < 64 then some (D.lst ((sortI is).map .int)) else none) = some d from e)
        cases dInts_eq hb
        obtain ⟨a, vs, rfl, sa, ra, _, _⟩ := h.tup_ sm
        cases ra.ints
        exact fin rfl ⟨a, rfl, .inr sa⟩ e2
      | lst y =>
        obtain ⟨is, hb, e2⟩ := Option.bind_eq_some_iff.mp (show ((dInts y).bind fun is => if is.length < 64 then some (D.lst ((sortI is).map .int)) else none) = some d from e)
        cases dInts_eq hb
        obtain ⟨a, vs, rfl, sa, ra, _⟩ := h.lst_ sm
        cases ra.ints
        exact fin rfl ⟨a, rfl, .inl sa⟩ e2
      | _ => cases e
theorem pairs_rep {K : PySem.W.Frag} {Hf : Hp} : ∀ {x : List D} {ps : List (List Nat × D)} {vs : List V}, pairsD x = some ps → Reps K Hf vs x → ∃ (as : List Addr) (kvs : List (Key × V)), vs = as.map V.ref ∧ Paired (fun p kv => SqT K Hf p [kV kv.1, kv.2]) as kvs ∧ kvs.map (·.1) = ps.map (fun p => .inr (sOf p.1)) ∧ Reps K Hf (kvs.map (·.2)) (ps.map (·.2))
  | [], ps, vs, e, r => by
    cases e
    cases r
    exact ⟨[], [], rfl, .nil, rfl, .nil⟩
  | x :: xs, ps, vs, e, r => by
    unfold pairsD at e
    split at e
    · rename_i hh
      cases hh
    · rename_i k v rest hh
      cases hh
      obtain ⟨qs, e1, rfl⟩ := Option.map_eq_some_iff.mp e
      cases r with
      | cons r1 r2 =>
        obtain ⟨as, kvs, rfl, h1, h2, h3⟩ := pairs_rep e1 r2
        cases r1 with
        | tup sa ra la =>
          cases ra with
          | cons ra1 ra2 =>
            cases ra1 with
            | str ok1 =>
              cases ra2 with
              | cons ra3 ra4 =>
                cases ra4
                refine ⟨_ :: as, (.inr (sOf k), _) :: kvs, rfl, .cons sa.t h1, ?_, .cons ra3 h3⟩
                rw [List.map_cons, List.map_cons, h2]
    · cases e
theorem paired_mono {K : PySem.W.Frag} {Hf H : Hp} (s : Same Hf H) : ∀ {as : List Addr} {kvs : List (Key × V)}, Paired (fun p kv => SqT K Hf p [kV kv.1, kv.2]) as kvs → Paired (fun p kv => SqT K H p [kV kv.1, kv.2]) as kvs
  | _, _, .nil => .nil
  | _, _, .cons h r => .cons (sqT_mono s h) (paired_mono s r)
theorem merge_new : ∀ (more acc : List (Key × V)), (acc ++ more).map (·.1) |>.Nodup → mergeK acc more = acc ++ more
  | [], acc, _ => by simp [mergeK]
  | p :: more, acc, h => by
    have hn : valV acc p.1 = none := by
      have hz : p.1 ∉ acc.map (·.1) := by
        rw [List.map_append, List.map_cons] at h
        intro z
        exact (List.nodup_append.mp h).2.2 _ z _ (List.mem_cons_self ..) rfl
      unfold valV
      rw [Option.map_eq_none_iff, List.find?_eq_none]
      intro q hq
      rw [decide_eq_true_eq]
      intro z
      exact hz (z ▸ List.mem_map_of_mem hq)
    show mergeK (putK acc p.1 p.2) more = _
    rw [putK_new p.2 hn, merge_new more (acc ++ [(p.1, p.2)]) (by simpa using h)]
    simp
theorem c_dict (hc : X.calm = true) : CallR X (.type "dict") (rC X.K (bi .dict)) := by
  intro pins s σ H xs us Q I r h
  obtain ⟨Hf, ds, d, sm, rs, e, hq⟩ := h
  cases rs with
  | nil => cases e
  | cons h t =>
    rename_i v vs x ds
    cases t with
    | cons _ _ => cases x <;> cases e
    | nil =>
      cases x with
      | lst y =>
        obtain ⟨ps, hb, e2⟩ := Option.bind_eq_some_iff.mp (show ((pairsD y).bind fun ps => if (ps.map (·.1)).Nodup then some (D.dic (ps.map (·.1)) (ps.map (·.2))) else none) = some d from e)
        split at e2
        · rename_i hnd
          cases e2
          obtain ⟨a, ws, rfl, sa, ra, _⟩ := h.lst_ sm
          obtain ⟨as, kvs, rfl, h1, h2, h3⟩ := pairs_rep hb ra
          have hm : mergeK [] kvs = kvs := by
            have := merge_new kvs [] (by
              rw [List.nil_append, h2]
              have : (ps.map fun p => (Sum.inr (sOf p.1) : Key)) = (ps.map (·.1)).map fun k => Sum.inr (sOf k) := by rw [List.map_map]; rfl
              rw [this]
              exact List.pairwise_map.mpr (hnd.imp fun hab z => hab (sOf_inj' (Sum.inr.inj z))))
            rwa [List.nil_append] at this
          refine call_dictP hc pins s σ H _ us Q I r ⟨a, as, kvs, rfl, sa, paired_mono sm h1, ?_⟩
          rw [hm]
          exact fun p hp => hq _ _ _ (Adv.new sm hp) (.dic (.inl upd_same) (by rw [h2, List.map_map]; rfl) rfl (h3.mono (same_upd (sm.free hp))))
        · cases e2
      | _ => cases e
/-- all of them -/
theorem c_bi (hc : X.calm = true) (hu : X.A.units + 64 < cLine) : ∀ b : BI, CallR X (biV b) (rC X.K (bi b))
  | .len => c_len
  | .abs => c_abs
  | .min2 => c_min2 hc
  | .max2 => c_max2 hc
  | .sum => c_sum hc
  | .all => c_all hc
  | .any => c_any hc
  | .int => c_int
  | .str => c_str
  | .list => c_list
  | .tuple => c_tuple
  | .min1 => c_min1 hc hu
  | .max1 => c_max1 hc hu
  | .sorted => c_sorted
  | .dict => c_dict hc
end
end Mini
end

section
set_option Elab.async false
set_option linter.all false
set_option maxRecDepth 100000
/-! M6: items, slices, methods of texts, isinstance. -/
namespace Mini
open PySem L2
section
variable {K : PySem.W.Frag} {Hf H : Hp}
theorem atI_rep {vs : List V} {ds : List D} {i : Int} {d : D} (r : Reps K Hf vs ds) (h : atI ds i = some d) : ∃ v, atI vs i = some v ∧ Rep K Hf v d := by
  unfold atI at h ⊢
  rw [r.length]
  cases e : ixN ds.length i with
  | none => rw [e] at h; cases h
  | some j =>
    rw [e] at h
    exact r.get (i := j) h
end
def rIxM (K : PySem.W.Frag) : R2 := fun x y H Q => ∃ Hf a i d, Same Hf H ∧ RepB K Hf H x a ∧ y = .int i ∧ atD a i = some d ∧ Post K Hf H Q d
def rSlM (K : PySem.W.Frag) : V → Option Int → Option Int → Hp → VK → Prop := fun x lo hi H Q => ∃ Hf a d, Same Hf H ∧ RepB K Hf H x a ∧ cutD a lo hi = some d ∧ Post K Hf H Q d
def rM (K : PySem.W.Frag) (f : D → List D → Option D) : V → List V → Hp → VK → Prop := fun x xs H Q => ∃ Hf a ds d, Same Hf H ∧ RepB K Hf H x a ∧ RepBs K Hf H xs ds ∧ f a ds = some d ∧ Post K Hf H Q d
theorem cutL_len {α : Type} (xs : List α) (lo hi : Option Int) : (cutL xs lo hi).length ≤ xs.length := by
  unfold cutL
  rw [List.length_take, List.length_drop]
  omega
theorem cutL_mem {α : Type} {xs : List α} {lo hi : Option Int} {x : α} (h : x ∈ cutL xs lo hi) : x ∈ xs := List.mem_of_mem_drop (List.mem_of_mem_take h)
section
variable {X : Cx}
theorem ix_M : IxR X (rIxM X.K) := by
  intro ve se pins s σ H x y v u Q I rx ry h hsub
  obtain ⟨Hf, a, i, d, sm, ha, rfl, e, hq⟩ := h
  cases a with
  | non => cases e
  | dic _ _ => cases e
  | ob _ _ _ => cases e
  | ml _ => cases e
  | md _ _ => cases e
  | mo _ _ _ => cases e
  | bl _ => cases e
  | int _ => cases e
  | str cs =>
    obtain ⟨rfl, oa⟩ := ha.str_
    obtain ⟨c, hc, rfl⟩ := omap e
    refine ix_str ve se pins s σ H _ _ v u Q I rx ry ⟨_, i, c, rfl, rfl, okS_line oa, hc, hq.now sm (.str (okS_mk (by show 1 ≤ lim; decide) fun z hz => ?_))⟩ hsub
    cases List.mem_singleton.mp hz
    obtain ⟨j, _, h2, _⟩ := atI_get hc
    exact okS_all oa _ (List.mem_of_getElem? h2)
  | tup ds =>
    obtain ⟨p, vs, rfl, sa, ra, _, _⟩ := ha.tup_ sm
    obtain ⟨w, h1, h2⟩ := atI_rep ra e
    exact ix_tup ve se pins s σ H _ _ v u Q I rx ry ⟨p, vs, i, w, rfl, rfl, sa, h1, hq.now sm h2⟩ hsub
  | lst ds =>
    obtain ⟨p, vs, rfl, sa, ra, _⟩ := ha.lst_ sm
    obtain ⟨w, h1, h2⟩ := atI_rep ra e
    exact ix_list ve se pins s σ H _ _ v u Q I rx ry ⟨p, vs, i, w, rfl, rfl, sa, h1, hq.now sm h2⟩ hsub
theorem cut_rep {K : PySem.W.Frag} {Hf : Hp} {vs : List V} {ds : List D} (r : Reps K Hf vs ds) (lo hi : Option Int) : Reps K Hf (cutV vs lo hi) (cutL ds lo hi) := by
  unfold cutV cutL
  rw [r.length]
  exact (r.drop _).take _
theorem cut_whole {α : Type} {xs : List α} {lo hi : Option Int} (h : HT.sIx xs.length 0 lo = 0 ∧ HT.sIx xs.length xs.length hi = xs.length) : cutL xs lo hi = xs := by
  unfold cutL
  rw [h.1, h.2]
  simp
theorem sl_M : SlR X (rSlM X.K) := by
  intro pins s σ H x v vl vu lo hi sl Q I rx hs pl pu h
  obtain ⟨Hf, a, d, sm, ha, e, hq⟩ := h
  cases a with
  | non => cases e
  | dic _ _ => cases e
  | ob _ _ _ => cases e
  | ml _ => cases e
  | md _ _ => cases e
  | mo _ _ _ => cases e
  | bl _ => cases e
  | int _ => cases e
  | str cs =>
    cases e
    obtain ⟨rfl, oa⟩ := ha.str_
    refine sl_str pins s σ H _ v vl vu lo hi sl Q I rx hs pl pu ⟨_, rfl, okS_line oa, ?_⟩
    have e : cutS (sOf cs) lo hi = sOf (cutL cs lo hi) := by
      unfold cutS cutL
      rw [sOf_len]
    rw [e]
    exact hq.now sm (.str (okS_mk (Nat.le_trans (cutL_len _ _ _) (okS_len oa)) fun c hc => okS_all oa c (cutL_mem hc)))
  | tup ds =>
    cases e
    obtain ⟨p, vs, rfl, sa, ra, hl, Ra⟩ := ha.tup_ sm
    refine sl_tupU pins s σ H _ v vl vu lo hi sl Q I rx hs pl pu ⟨p, vs, rfl, sa, fun w => ?_, ?_⟩
    · rw [ra.length] at w
      rw [cut_whole w] at hq
      exact hq.now sm Ra
    · exact hq.tup sm (cut_rep ra lo hi) (Nat.le_trans (cutL_len _ _ _) hl)
  | lst ds =>
    cases e
    obtain ⟨p, vs, rfl, sa, ra, hl⟩ := ha.lst_ sm
    exact sl_list pins s σ H _ v vl vu lo hi sl Q I rx hs pl pu ⟨p, vs, rfl, sa, hq.lst sm (cut_rep ra lo hi) (Nat.le_trans (cutL_len _ _ _) hl)⟩

/-! ### methods of texts -/
theorem joinC_str (s : List Nat) : ∀ ys : List (List Nat), Txt.join (sOf s) (ys.map sOf) = sOf (joinC s ys) := fun ys => by
  rw [TL.join_eq]
  refine TL.ext_tl ?_
  rw [TL.tl_join]
  show TL.joinL s ((ys.map sOf).map TL.tl) = joinC s ys
  have e : (ys.map sOf).map TL.tl = ys := by
    rw [List.map_map]
    show ys.map id = ys
    exact List.map_id _
  rw [e]
  induction ys with
  | nil => rfl
  | cons y r ih =>
    cases r with
    | nil => rfl
    | cons z r =>
      show y ++ (s ++ TL.joinL s (z :: r)) = y ++ s ++ joinC s (z :: r)
      rw [List.append_assoc, ih (by
        rw [List.map_map]
        show (z :: r).map id = z :: r
        exact List.map_id _)]
theorem joinC_len (s : List Nat) : ∀ ys : List (List Nat), (ys.map (·.length)).sum + ys.length * s.length ≤ (joinC s ys).length + s.length
  | [] => by simp [joinC]
  | [x] => by simp [joinC]
  | x :: y :: r => by
    have ih := joinC_len s (y :: r)
    have e : (joinC s (x :: y :: r)).length = x.length + s.length + (joinC s (y :: r)).length := by
      show (x ++ s ++ joinC s (y :: r)).length = _
      rw [List.length_append, List.length_append]
    rw [e, List.map_cons, List.sum_cons]
    simp only [List.length_cons] at ih ⊢
    have : (r.length + 1 + 1) * s.length = (r.length + 1) * s.length + s.length := by rw [Nat.add_mul]; omega
    omega
theorem joinC_mem (s : List Nat) : ∀ (ys : List (List Nat)) (c : Nat), c ∈ joinC s ys → c ∈ s ∨ ∃ y ∈ ys, c ∈ y
  | [], c, h => by cases h
  | [x], c, h => .inr ⟨x, List.mem_cons_self .., h⟩
  | x :: y :: r, c, h => by
    have h : c ∈ x ++ s ++ joinC s (y :: r) := h
    rcases List.mem_append.mp h with h | h
    · rcases List.mem_append.mp h with h | h
      · exact .inr ⟨x, List.mem_cons_self .., h⟩
      · exact .inl h
    · rcases joinC_mem s (y :: r) c h with h | ⟨z, h1, h2⟩
      · exact .inl h
      · exact .inr ⟨z, List.mem_cons_of_mem _ h1, h2⟩
theorem reps_ok {K : PySem.W.Frag} {Hf : Hp} : ∀ {vs : List V} {ys : List (List Nat)}, Reps K Hf vs (ys.map .str) → ∀ y ∈ ys, okS y = true
  | _, [], _, y, h => by cases h
  | _, z :: ys, .cons a t, y, h => by
    rcases List.mem_cons.mp h with rfl | h
    · cases a; assumption
    · exact reps_ok t y h
theorem spl_split (c : Nat) : ∀ (l acc : List Nat), TL.spl [c] 0 acc l = splitC c acc l
  | [], acc => TL.spl_nil _ _ _
  | x :: xs, acc => by
    unfold splitC
    by_cases h : x = c
    · subst h
      rw [if_pos rfl, TL.spl_hit (by simp [TL.pre])]
      show acc :: TL.spl [x] 0 [] xs = _
      rw [spl_split x xs []]
    · rw [if_neg h, TL.spl_miss (TL.pre_of_head _ _ h), spl_split c xs]
theorem splitC_len (c : Nat) : ∀ (l acc : List Nat), (splitC c acc l).length ≤ l.length + 1
  | [], acc => by simp [splitC]
  | x :: xs, acc => by
    unfold splitC
    split
    · have := splitC_len c xs []
      simp only [List.length_cons]
      omega
    · have := splitC_len c xs (acc ++ [x])
      simp only [List.length_cons]
      omega
theorem splitC_mem (c : Nat) (P : Nat → Prop) : ∀ (l acc : List Nat), (∀ x ∈ l, P x) → (∀ x ∈ acc, P x) → ∀ y ∈ splitC c acc l, ∀ x ∈ y, P x
  | [], acc, _, h, y, hy => by
    cases List.mem_singleton.mp (show y ∈ [acc] from hy)
    exact h
  | a :: xs, acc, hl, h, y, hy => by
    unfold splitC at hy
    split at hy
    · rcases List.mem_cons.mp hy with rfl | hy
      · exact h
      · exact splitC_mem c P xs [] (fun x hx => hl x (List.mem_cons_of_mem _ hx)) (fun x hx => by cases hx) y hy
    · exact splitC_mem c P xs (acc ++ [a]) (fun x hx => hl x (List.mem_cons_of_mem _ hx)) (fun x hx => by
        rcases List.mem_append.mp hx with hx | hx
        · exact h x hx
        · cases List.mem_singleton.mp hx
          exact hl a (List.mem_cons_self ..)) y hy
theorem splitC_lens (c : Nat) : ∀ (l acc : List Nat), ∀ y ∈ splitC c acc l, y.length ≤ acc.length + l.length
  | [], acc, y, hy => by
    cases List.mem_singleton.mp (show y ∈ [acc] from hy)
    omega
  | a :: xs, acc, y, hy => by
    unfold splitC at hy
    split at hy
    · rcases List.mem_cons.mp hy with rfl | hy
      · omega
      · have := splitC_lens c xs [] y hy
        simp only [List.length_cons, List.length_nil] at this ⊢
        omega
    · have := splitC_lens c xs (acc ++ [a]) y hy
      rw [List.length_append] at this
      simp only [List.length_cons, List.length_nil] at this ⊢
      omega
def meId : ME → String
  | .join => "str.join" | .split => "str.split" | .startswith => "str.startswith" | .index => "str.index" | .count => "str.count"
def meN : ME → Str
  | .join => "join" | .split => "split" | .startswith => "startswith" | .index => "index" | .count => "count"
theorem mt_joinM : MtR X "str.join" (rM X.K (me .join)) := by
  intro pins s σ H x xs v us Q I rx rs h
  obtain ⟨Hf, a, ds, d, sm, ha, hs, e, hq⟩ := h
  unfold me at e
  split at e <;> try (cases e; done)
  all_goals (try (rename_i h0; cases h0; done))
  · rename_i z y _
    split at e
    · rename_i ys hy
      split at e
      · rename_i hl
        cases e
        obtain ⟨rfl, oa⟩ := ha.str_
        cases dStrs_eq hy
        cases hs with
        | cons h t =>
          cases t
          obtain ⟨p, vs, rfl, sa, ra, _⟩ := h.lst_ sm
          have ok := reps_ok ra
          cases ra.strs
          refine mt_join pins s σ H _ _ v us Q I rx rs ⟨_, p, _, rfl, rfl, .inl sa, ?_, ?_⟩
          · rw [List.map_map, List.length_map, sOf_len]
            have e : (ys.map ((fun x => x.length) ∘ sOf)) = ys.map (·.length) := List.map_congr_left fun y _ => sOf_len y
            rw [e]
            have h1 := joinC_len z ys
            have h2 := okS_len oa
            have h3 : lim + lim ≤ 16777216 := by decide
            omega
          · rw [joinC_str]
            refine hq.now sm (.str (okS_mk hl fun c hc => ?_))
            rcases joinC_mem z ys c hc with hc | ⟨y, h1, h2⟩
            · exact okS_all oa c hc
            · exact okS_all (ok y h1) c h2
      · cases e
    · cases e
theorem mt_splitM : MtR X "str.split" (rM X.K (me .split)) := by
  intro pins s σ H x xs v us Q I rx rs h
  obtain ⟨Hf, a, ds, d, sm, ha, hs, e, hq⟩ := h
  unfold me at e
  split at e <;> try (cases e; done)
  all_goals (try (rename_i h0; cases h0; done))
  · rename_i z c _
    split at e
    · rename_i hc
      cases e
      obtain ⟨rfl, oa⟩ := ha.str_
      cases hs with
      | cons h t =>
        cases t
        obtain ⟨rfl, ob⟩ := h.str_
        have hlen : z.length + 2 ≤ sizeLine := by
          have h1 := okS_len oa
          have h3 : lim + 2 ≤ sizeLine := by decide
          omega
        refine mt_split pins s σ H _ _ v us Q I rx rs ⟨_, _, rfl, rfl, by simp [sOf, Str.length], by rw [sOf_len]; exact hlen, ?_⟩
        have e1 : (Txt.split (sOf z) (sOf [c])).map TL.tl = splitC c [] z := by
          rw [TL.split_spl _ _ (by simp [TL.tl]) (TL.kind_ok (by simp [sOf]; omega))]
          exact spl_split c z []
        have e2 : Txt.split (sOf z) (sOf [c]) = (splitC c [] z).map sOf := by
          refine TL.map_tl_inj ?_
          rw [e1, List.map_map]
          show _ = (splitC c [] z).map id
          rw [List.map_id]
        rw [e2]
        have ok : ∀ y ∈ splitC c [] z, okS y = true := fun y hy => okS_mk (by
          have h1 := splitC_lens c z [] y hy
          have h2 := okS_len oa
          rw [List.length_nil] at h1
          omega) (splitC_mem c (· < 1114112) z [] (okS_all oa) (fun x hx => by cases hx) y hy)
        refine hq.lst sm (Reps.of_strs ok) ?_
        rw [List.length_map]
        have h1 := splitC_len c z []
        have h2 := hc.2
        omega
    · cases e
theorem pre_at (p s : List Nat) : Txt.startswith (sOf s) (sOf p) = p.isPrefixOf s := by
  unfold Txt.startswith
  rw [PySem.StrLaws.subAt_eq, sOf_len, sOf_len, Bool.eq_iff_iff, Bool.and_eq_true, decide_eq_true_eq, List.isPrefixOf_iff_prefix]
  simp only [sOf, List.drop_zero, beq_iff_eq]
  constructor
  · rintro ⟨_, h⟩
    rw [← h]
    exact List.take_prefix _ _
  · rintro ⟨t, rfl⟩
    exact ⟨by rw [List.length_append]; omega, by simp⟩
theorem mt_startM : MtR X "str.startswith" (rM X.K (me .startswith)) := by
  intro pins s σ H x xs v us Q I rx rs h
  obtain ⟨Hf, a, ds, d, sm, ha, hs, e, hq⟩ := h
  unfold me at e
  split at e <;> try (cases e; done)
  all_goals (try (rename_i h0; cases h0; done))
  · rename_i z p _
    cases e
    obtain ⟨rfl, oa⟩ := ha.str_
    cases hs with
    | cons h t =>
      cases t
      obtain ⟨rfl, ob⟩ := h.str_
      refine mt_startswith pins s σ H _ _ v us Q I rx rs ⟨_, _, rfl, rfl, ?_⟩
      rw [pre_at]
      exact hq.now sm (.bl _)
theorem idx_at {c : Nat} : ∀ {s : List Nat} {n : Nat}, idxC c s = some n → s[n]? = some c ∧ ∀ k, k < n → s[k]? ≠ some c
  | [], n, h => by cases h
  | x :: xs, n, h => by
    unfold idxC at h
    split at h
    · rename_i e
      cases h
      exact ⟨by rw [e] <;> rfl, fun k hk => absurd hk (Nat.not_lt_zero k)⟩
    · rename_i e
      obtain ⟨m, hm, rfl⟩ := omap h
      obtain ⟨h1, h2⟩ := idx_at hm
      refine ⟨by simpa using h1, fun k hk => ?_⟩
      cases k with
      | zero => simpa using e
      | succ k => simpa using h2 k (by omega)
theorem mt_indexM : MtR X "str.index" (rM X.K (me .index)) := by
  intro pins s σ H x xs v us Q I rx rs h
  obtain ⟨Hf, a, ds, d, sm, ha, hs, e, hq⟩ := h
  unfold me at e
  split at e <;> try (cases e; done)
  all_goals (try (rename_i h0; cases h0; done))
  · rename_i z c _
    obtain ⟨n, hn, rfl⟩ := omap e
    obtain ⟨rfl, oa⟩ := ha.str_
    cases hs with
    | cons h t =>
      cases t
      obtain ⟨rfl, ob⟩ := h.str_
      obtain ⟨h1, h2⟩ := idx_at hn
      rcases PySem.StrLaws.occ_head (sOf z) (sOf [c]) 1 (Nat.le_refl _) with ⟨_, q⟩ | ⟨i, r, eo, q1, q2⟩
      · exact absurd ((PySem.StrLaws.subAt_one (sOf z) c n).mpr h1) (q n)
      · have g1 : z[i]? = some c := (PySem.StrLaws.subAt_one (sOf z) c i).mp q1
        have g2 : i = n := by
          rcases Nat.lt_trichotomy i n with g | g | g
          · exact absurd g1 (h2 i g)
          · exact g
          · exact absurd ((PySem.StrLaws.subAt_one (sOf z) c n).mpr h1) (q2 n g)
        subst g2
        exact mt_sindex pins s σ H _ _ v us Q I rx rs ⟨_, _, i, r, rfl, rfl, eo, hq.now sm (.int _)⟩

/-! ### isinstance -/
def tyD : D → String
  | .non => "NoneType" | .bl _ => "bool" | .int _ => "int" | .str _ => "str" | .tup _ => "tuple" | .lst _ => "list" | .dic _ _ => "dict" | .ob _ _ _ | .ml _ | .md _ _ | .mo _ _ _ => "object"
/-- a datum's class -/
def tyW (K : PySem.W.Frag) : D → Value
  | .ob C _ _ => .ref (gad K C)
  | d => .type (tyD d)
theorem RepB.ty {K : PySem.W.Frag} {Hf H : Hp} {v : V} {d : D} (s : Same Hf H) (h : RepB K Hf H v d) : TyX K H v (tyW K d) := by
  cases d with
  | non => cases h.non_; exact .base .non
  | bl b => cases h.bl_; exact .base (.bl b)
  | int b => cases h.int_; exact .base (.int b)
  | str b => obtain ⟨rfl, _⟩ := h.str_; exact .base (.str _)
  | tup ds =>
    obtain ⟨a, vs, rfl, sa, _⟩ := h.tup_ s
    rcases sa with (sa | ⟨o, sa⟩) | ⟨o, its, n, k1, k2, _⟩
    · exact .base (.tup sa)
    · exact .fTuple sa
    · exact .kTuple k1 k2
  | lst ds =>
    obtain ⟨a, vs, rfl, sa, _⟩ := h.lst_ s
    rcases sa with (sa | ⟨o, sa⟩) | ⟨o, its, n, k1, k2, _⟩
    · exact .base (.lst sa)
    · exact .base (.frz sa)
    · exact .kList k1 k2
  | dic ks ds =>
    obtain ⟨a, kvs, rfl, sa, _⟩ := h.dic_
    rcases rd_mono s sa with sa | ⟨o, sa⟩
    · exact .base (.dK sa)
    · exact .fDict sa
  | ob C ns ds =>
    obtain ⟨a, dx, fs, rfl, o, sa⟩ := h.ob2
    exact .base (.ins (s _ _ sa) o.cl o.ha o.hn o.htk o.hm)
  | ml _ => exact (h.no rfl).elim
  | md _ _ => exact (h.no rfl).elim
  | mo _ _ _ => exact (h.no rfl).elim
def tyN : Ty → String
  | .int => "int" | .bool => "bool" | .str => "str" | .tup => "tuple" | .lst => "list" | .dic => "dict" | .non => "NoneType"
def isTyB (t : Ty) (n : String) : Bool := match t with
  | .int => n == "int" || n == "bool"
  | .bool => n == "bool" | .str => n == "str" | .tup => n == "tuple" | .lst => n == "list" | .dic => n == "dict" | .non => false
theorem isTy_B (t : Ty) (d : D) : isTy t d = isTyB t (tyD d) := by cases t <;> cases d <;> rfl
def tyNames : List String := ["NoneType", "bool", "int", "str", "tuple", "list", "dict"]
theorem tyD_mem (d : D) (h : tyD d ≠ "object") : tyD d ∈ tyNames := by cases d <;> first | exact absurd rfl h | simp [tyNames, tyD]
theorem kit_all : ∀ t ∈ [Ty.int, .bool, .str, .tup, .lst, .dic], ∀ n ∈ tyNames, kitB n (tyN t) = some (isTyB t n) := by decide +kernel
theorem kit_M {K : PySem.W.Frag} {Hf H : Hp} {v : V} (t : Ty) (d : D) (hr : RepB K Hf H v d) (h : t ≠ .non) : PySem.W.kitOne K (tyW K d) (.type (tyN t)) = some (isTy t d) := by
  cases d with
  | ob C ns ds =>
    obtain ⟨_, _, _, _, o, _⟩ := hr.ob2
    have := o.no (tyN t) (by cases t <;> first | exact absurd rfl h | simp [tyN])
    rw [show isTy t (.ob C ns ds) = false by cases t <;> rfl]
    exact this
  | ml _ => exact (hr.no rfl).elim
  | md _ _ => exact (hr.no rfl).elim
  | mo _ _ _ => exact (hr.no rfl).elim
  | non => rw [isTy_B]; exact kit_ty (kit_all t (by cases t <;> first | exact absurd rfl h | simp) _ (tyD_mem .non (by decide)))
  | bl b => rw [isTy_B]; exact kit_ty (kit_all t (by cases t <;> first | exact absurd rfl h | simp) _ (by simp [tyNames, tyD]))
  | int b => rw [isTy_B]; exact kit_ty (kit_all t (by cases t <;> first | exact absurd rfl h | simp) _ (by simp [tyNames, tyD]))
  | str b => rw [isTy_B]; exact kit_ty (kit_all t (by cases t <;> first | exact absurd rfl h | simp) _ (by simp [tyNames, tyD]))
  | tup b => rw [isTy_B]; exact kit_ty (kit_all t (by cases t <;> first | exact absurd rfl h | simp) _ (by simp [tyNames, tyD]))
  | lst b => rw [isTy_B]; exact kit_ty (kit_all t (by cases t <;> first | exact absurd rfl h | simp) _ (by simp [tyNames, tyD]))
  | dic a b => rw [isTy_B]; exact kit_ty (kit_all t (by cases t <;> first | exact absurd rfl h | simp) _ (by simp [tyNames, tyD]))
theorem kits_M {K : PySem.W.Frag} {Hf H : Hp} {v : V} (d : D) (hr : RepB K Hf H v d) : ∀ ts : List Ty, (∀ t ∈ ts, t ≠ .non) → PySem.W.kitAny K (tyW K d) (ts.map fun t => .type (tyN t)) = some (ts.any fun t => isTy t d)
  | [], _ => by cases d <;> rfl
  | t :: ts, h => by
    have ih := kits_M (K := K) d hr ts fun t ht => h t (List.mem_cons_of_mem _ ht)
    refine kitAny_cons (kit_M t d hr (h t (List.mem_cons_self ..))) (fun e => ?_) (fun e => ?_)
    · rw [ih, List.any_cons, e, Bool.false_or]
    · rw [List.any_cons, e, Bool.true_or]
end
end Mini
end

section
set_option Elab.async false
set_option linter.all false
set_option maxRecDepth 100000
set_option maxHeartbeats 2000000
/-! MX: the program's own exceptions: class X(Y): def __init__(self, v): super().__init__('text'); self.f = v. -/
namespace Mini
open PySem L2 NdefX
/-- what __init__ promises -/
def spI (K : PySem.W.Frag) (C : Addr) (f : Str) : Sp := fun vs H Q _ => ∃ (a : Addr) (y : V), vs = [.ref a, y] ∧ H a = some (exo a C none) ∧ ∀ dx, H dx = none → dx ≠ a → Q .non (upd (upd H dx (exd dx [(f, y)])) a (exo a C (some dx)))
theorem upd_self {H : Hp} {a : Addr} {o : HO} (h : H a = some o) : upd H a o = H := by
  funext b
  by_cases hb : b = a
  · rw [hb, upd_same, h]
  · rw [upd_ne hb]
theorem cls_of_oex {K : PySem.W.Frag} {C : Addr} (T : OexC K C) : ∃ cd bm, PySem.W.clsIn K C = some cd ∧ cd.mro = .ref C :: bm ∧ PySem.HandSPX.refsVE bm = true := by
  obtain ⟨nm, q, N, bs, bm, sn, sub, ab, col, dd, k0, k1, k2, k3, k5, hC, hbm⟩ := T.cls
  exact ⟨{ name := nm, bases := bs, mro := .ref C :: bm, ns := N, qualname := q, hasDict := true, slotNames := sn, subclasses := sub, abstract := ab, collection := col, hasDel := false }, bm, by unfold PySem.W.clsIn; rw [hC] <;> rfl, rfl, hbm⟩
theorem mro_of_oex {K : PySem.W.Frag} {C : Addr} {b : Value} {cd : ClassData} {bm : List Value} (h1 : PySem.W.clsIn K C = some cd) (h2 : cd.mro = .ref C :: bm) (h3 : (Value.ref C :: bm).contains b = true) : PySem.W.mroIn K C b = some true := by
  unfold PySem.W.mroIn
  rw [h1, Option.bind_some, h2, h3]
  rfl
theorem drop_own (C : Addr) (l : List Value) : ((Value.ref C :: l).dropWhile (· != .ref C)).drop 1 = l := by
  rw [List.dropWhile_cons, if_neg (by simp)]
  rfl
section
variable {P : Program} {w : World} {A : Around} {E : Value → Shared → Prop} {h : Heap} {g : Array GenState} {d : Drawn} {t : Nat} {os : OsState}
/-- the wrapper of ValueError.__init__, called -/
theorem mw_call {u e t0 C : Addr} {rest : List Value} {Q : Value → Shared → Prop} {nm q : Str} {N : Addr} {bs bm : List Value} {hdct : Bool} {sn : List Str} {sub : List Value} {ab : Bool} {col : Option Bool} {dd : Option Addr} {k0 k1 k2 k3 k5 : Option Value}
    (hC : h.get? C = some (excClassObj nm q C N bs bm hdct sn sub ab col dd k0 k1 k2 k3 k5 "ValueError.__new__")) (he : h.get? e = some (PySem.W.excObj C t0 none .none)) (hu : h.get? u = some (PySem.W.kxs_mw "ValueError.__init__" e)) (hz : rest.length ≤ sizeLine)
    (hq : ∀ h' t1, (∀ b o, b ≠ e → h.get? b = some o → h'.get? b = some o) → h'.get? e = some (PySem.W.excObj C t1 none .none) → Q .none ⟨h', g, d, t, os⟩) :
    wpAny (model P w) A (call (.ref u) rest) Q E ⟨h, g, d, t, os⟩ := by
  refine wpAny_call (codeAny_of_tree ?_)
  show wpAny _ A.in1 (callAny (.ref u) ⟨rest, []⟩) _ _ _
  simp only [callAny]
  refine wpAny_bind (wpAny_load hu ?_)
  simp only [PySem.W.kxs_mw, show (Value.type "method-wrapper" == Value.type "method" || Value.type "method-wrapper" == Value.type "builtin_function_or_method" || Value.type "method-wrapper" == Value.type "method-wrapper") = true by decide, if_true]
  refine PySem.W.KFB.if_so (by decide) ?_
  refine wpAny_bind (PySem.W.check_bound_init PySem.F.excBase_ValueError.toExcCallFacts hC he rfl ?_)
  refine wpAny_bind (wpAny_pure (wpAny_pure ?_))
  refine ⟨PySem.plainId_quiet PySem.F.excBase_ValueError.init.plain _, codeAny_builtin PySem.F.excBase_ValueError.initEntry ?_⟩
  refine PySem.W.exc_init_tree (cls := .ref C) (t0 := t0) (dv := none) (c2 := .none) (c3 := .none) (b4 := .bool false) he hz fun h' k e' _ => hq h' _ k e'
end
theorem init_ok {P : Program} {w : World} {K : PySem.W.Frag} {mg : Str → Option Value} {base : Heap} {CX : CXT} {fI C cc cda : Addr} {name qual f n0 n1 txt file : Str} {params : Arguments} {body : List Stmt} {scope : Scope} {dV kV doc pm ct oc ccl cl : Value} {an od cdd cld : Option Addr} {osl ccs csl : Array (Option Value)}
    {vs : Array Value} {tf : Tok} {ar : Arg} {j : Nat} {p0 p1 p2 p3 p4 p5 q0 q1 q2 q3 : Pos} {k : Nat}
    (T : OexC K C) (lk : K.lookup fI = some ⟨oc, od, .func (PySem.W.ksFn name qual params body scope dV kV doc pm an (.ref cda) ct cc), osl⟩) (hcd : PySem.W.codeIn K (.ref cda) qual = true)
    (hcode : K.lookup cda = some ⟨ccl, cdd, .fields vs, ccs⟩) (hvs : vs[2]? = some (.str file tf)) (hfile : ((P.main.file : Str) == file) = true) (hcell : K.lookup cc = some ⟨cl, cld, .cell (some (.ref C)), csl⟩)
    (S : NScope [n0, n1, "__class__"] [n0, n1] ["__class__"] scope) (hks : scope.names.lookup ("super" : Str) = some .globalImplicit) (hpar : (params.posonlyargs ++ params.args).head? = some ar) (har : ar.arg = n0)
    (hb : body = [.Expr (.Call (.Attribute (.Call (.Name "super" p0) [] [] p1) "__init__" p2) [.Constant (.str txt) j p3] [] p4) p5, .Assign [.Attribute (.Name n0 q0) f q1] (.Name n1 q2) q3])
    (hline : (p2.endLine == p4.line) = true) (hn0 : (n0 == ("__debug__" : Str)) = false ∧ (n0 == ("__classdict__" : Str)) = false) (hn1 : (n1 == ("__debug__" : Str)) = false ∧ (n1 == ("__classdict__" : Str)) = false)
    (hsuper : mg "super" = none) (htop : (P.main.scope.names.lookup ("super" : Str)).isSome = false) (hop : PySem.W.nsIn K cStatics "thirdparty.any" = some none)
    (hal : ∀ cd bm, PySem.W.clsIn K C = some cd → cd.mro = .ref C :: bm → PySem.W.alongIn K "__init__" bm = some (some (.builtin "ValueError.__init__"))) (hve : PySem.W.subIn K (.ref C) (.type "ValueError") = some true) (hno : PySem.W.findIn K (.ref C) f = some none) :
    FnOk P w K mg base CX k fI (PySem.W.ksFn name qual params body scope dV kV doc pm an (.ref cda) ct cc) [n0, n1] (spI K C f) := by
  refine ⟨fun vs H Q E ⟨a, y, e, _⟩ => by rw [e]; rfl, fun A outer s H args us vs' Q E hr e0 hbind r hsp => ?_⟩
  obtain ⟨a, y, rfl, hea, hq⟩ := hsp
  cases r with
  | @cons _ u0 _ ur r0 rr =>
    cases rr with
    | @cons _ u _ ur2 ry rr =>
      cases rr
      obtain rfl : u0 = Value.ref a := r0
      have bs := e0.bs
      have KX : K.In s.heap := e0.mod.kin.keeps fun b o e => (bs b o e).1
      have lim : s.heap.NoLimit := e0.mod.nolimit.keeps fun b o e => (bs b o e).1
      refine ks_codeAny_call_defAt (fd := PySem.W.ksFn name qual params body scope dV kV doc pm an (.ref cda) ct cc) (body := body) (binds := [(n0, .ref a), (n1, u)]) hr.depth (KX _ _ lk) rfl lim (PySem.W.codeRec_of KX hcd) rfl hbind S.nocell (fun x hx => ?_) (fun h₁ hns kp => ?_) S.co S.gen S.kind
      · simp only [List.mem_cons, List.not_mem_nil, or_false] at hx
        rcases hx with rfl | rfl
        · exact S.par n0 (by simp)
        · exact S.par n1 (by simp)
      let F : NF := ⟨name, qual, params, body, scope, [("__class__", cc)], cda⟩
      have hccb := bs _ _ (e0.mod.kin _ _ hcell)
      have look : ∀ x c, ([("__class__", cc)] : List (Str × Addr)).lookup x = some c → x = "__class__" ∧ c = cc := fun x c e => by
        rw [List.lookup_cons] at e
        split at e
        · rename_i hx
          exact ⟨by simpa using hx, (Option.some.inj e).symm⟩
        · cases e
      have CA : CellsAt F.cl ["__class__"] [some (.ref C)] s.heap H := ⟨rfl, fun x c e => by
          obtain ⟨_, rfl⟩ := look x c e
          exact ⟨hccb.2, _, ⟨_, hccb.1, rfl⟩⟩, fun x1 x2 c e1 e2 => (look x1 c e1).1.trans (look x2 c e2).1.symm, fun i x e => by
          cases i with
          | zero =>
            cases e
            refine ⟨cc, rfl, fun v hv => ?_⟩
            cases hv
            exact ⟨.ref C, rfl, ⟨_, hccb.1, rfl⟩⟩
          | succ i => cases i <;> cases e⟩
      have I : Inv (ncx CX P w K mg base [n0, n1, "__class__"] F fI A outer s H E) [] (startF [n0, n1, "__class__"] [.ref a, y] [some (.ref C)]) H { s with heap := h₁, toks := s.toks + 2 } :=
        inv_startN (ps := [n0, n1]) S hr.hd e0 rfl (.cons rfl (.cons ry .nil)) CA hns kp
      have XK : K.In h₁ := KX.keeps kp
      obtain ⟨cd, bm, hcl, hmro, hbm⟩ := cls_of_oex T
      obtain ⟨nm, q, N, bs', bm', sn, sub, ab, col, dd, k0, k1, k2, k3, k5, hCo, _⟩ := T.cls
      obtain ⟨t1, ho⟩ := exo_at I.hok hea
      obtain ⟨oD, hD1, hD2⟩ : ∃ oD, h₁.get? C = some oD ∧ oD.data = .cls cd := by
        unfold PySem.W.clsIn at hcl
        split at hcl
        · rename_i c d cd' sl hk
          cases hcl
          exact ⟨_, XK _ _ hk, rfl⟩
        · cases hcl
      obtain ⟨mb, gb1, gb2⟩ := e0.mod.blt
      have up : ∀ b o, base.get? b = some o → h₁.get? b = some o := fun b o e => kp _ _ (bs b o e).1
      have hmf : (fun x => ([(n0, Value.ref a), (n1, u)] : List (Str × Value)).reverse.lookup x) n0 = some (.ref a) := by
        have nd := S.nd
        have hne : ¬ n0 = n1 := fun z => by rw [z] at nd; simp at nd
        have hb : (n0 == n1) = false := by simpa using hne
        show ([(n1, u), (n0, Value.ref a)] : List (Str × Value)).lookup n0 = _
        rw [List.lookup_cons, hb]
        simp
      have hxC : a ≠ C := fun z => by
        rw [z, hD1] at ho
        have z2 := Option.some.inj ho
        subst z2
        cases hD2
      show wpAt (model P w) (A.deeper (envF F fI s.heap.objs.size)) (.func body (envF F fI s.heap.objs.size)) (execs body (envF F fI s.heap.objs.size)) _ _ _
      have he : eval (.Call (.Attribute (.Call (.Name "super" p0) [] [] p1) "__init__" p2) [.Constant (.str txt) j p3] [] p4) (envF F fI s.heap.objs.size) = (do
          let ov ← attributeBase (.Call (.Name "super" p0) [] [] p1) "__init__" (envF F fI s.heap.objs.size) (eval (.Call (.Name "super" p0) [] [] p1) (envF F fI s.heap.objs.size))
          standAt p2.atName
          let (f, first) ← holding [ov] (getMethod ov "__init__" (plainOf (.Call (.Name "super" p0) [] [] p1) (envF F fI s.heap.objs.size)))
          callWith p4 f first (backTo p4 (starEach [.Constant (.str txt) j p3] (envF F fI s.heap.objs.size))) []) := by
        rw [arm_eval_Call]
        simp only [mcall_line (show methodCallForm ([Expr.Constant (.str txt) j p3].length + ([] : List Keyword).length) (backTo p4 (starEach [.Constant (.str txt) j p3] (envF F fI s.heap.objs.size))) (backToKw p4 (keywordEach [] (envF F fI s.heap.objs.size))) = true from rfl) hline]
        rfl
      conv => arg 4; rw [hb]
      refine ks_wpAt_execs_cons (ks_wpAt_Expr_any (ks_wpAt_MethodCall ?_ he) I.quiet rfl)
      refine ks_wpAt_super_base (f := fI) (cc := cda) (of := ⟨oc, od, .func (PySem.W.ksFn name qual params body scope dV kV doc pm an (.ref cda) ct cc), osl⟩) (oc := ⟨ccl, cdd, .fields vs, ccs⟩) (ar := ar) hks (S.frk _ (by simp)) (by decide) rfl (XK _ _ lk) rfl hpar rfl (XK _ _ hcode) rfl hvs hfile htop ?_
      refine PySem.W.ks_loadName_global S.kind hks (Calls.loadGlobal_builtin (e0.mod.glob.keeps up) hsuper (gb1.keeps up) ((gb2 _ (by decide +kernel)).trans (show bootBuiltins "super" = some (.type "super") by decide +kernel)) ⟨rfl, ?_⟩)
      refine wpAny_loadName_free S.kind (S.frk _ (by simp)) rfl ⟨_, XK _ _ hcell, rfl⟩ ?_
      refine wpAny_loadName_local (v := .ref a) S.kind (by rw [har]; exact S.par n0 (by simp)) hns (by rw [har]; exact hmf) ?_
      obtain ⟨sp, sg, sd, st, so⟩ := s
      refine ks_wpAny_isType_cls hD1 hD2 ⟨rfl, ?_⟩
      refine ks_wpAny_call_super hD1 hD2 ho rfl (fun c e => by cases e) (PySem.W.looks_mroIn XK (mro_of_oex hcl hmro (by simp))) (fun h2 e2 k2 => ?_)
      have XK2 : K.In h2 := XK.keeps k2
      have ho2 := k2 _ _ ho
      refine PySem.W.kxs_getMethod PySem.W.kxs_ValueError e2 (PySem.W.looks_opaque XK2 hop) (l₀ := cd.mro) ((PySem.W.looks_clsIn XK2 hcl).andThen .now) rfl XK2 (by rw [hmro, drop_own]; exact hal cd bm hcl hmro)
        ((PySem.W.InstAt.type (x := a) (od := none) ⟨ho2, rfl, rfl, trivial⟩).andThen (PySem.W.looks_subIn XK2 hve)) hxC (by decide) ?_
      have k3 : ∀ b o, h2.get? b = some o → (h2.push (PySem.W.kxs_mw "ValueError.__init__" a)).get? b = some o := fun b o e => Heap.get?_push_of_some _ e
      have J := I.kept (t' := st + 2 + 1) (h' := h2.push (PySem.W.kxs_mw "ValueError.__init__" a)) fun b o e => k3 b o (k2 b o e)
      refine PySem.W.kxs_callWith (i := "ValueError.__init__") (x := a) rfl ?_
      refine Calls.evalArgs_plain ?_
      show wpAny _ _ (spliced [(false, eval (.Constant (.str txt) j p3) _)]) _ _ _
      refine Calls.spliced_cons (Calls.Constant_str (Calls.spliced_nil ⟨?_, ?_⟩))
      · exact Heap.get?_push_at rfl rfl
      have hCo3 := XK2 _ _ hCo
      refine mw_call (k3 _ _ hCo3) (k3 _ _ ho2) (Heap.get?_push_at rfl rfl) (show (1 : Nat) ≤ sizeLine by rw [sizeLine_eq]; decide) fun h4 t4 k4 ho4 => ?_
      have J2 := (I.kept (t' := st + 2 + 1 + 1) (h' := h2.push (PySem.W.kxs_mw "ValueError.__init__" a)) fun b o e => k3 b o (k2 b o e)).write (t' := st + 2 + 1 + 1) (x := a) (e := a) (o := exo a C none) (by rw [hea]; exact True.intro) (.inl rfl) k4 ⟨_, ho4⟩ (exo_ok ho4)
      rw [upd_self hea] at J2
      refine wpAt_of_wpAny ?_
      have body2 := pss_one (ps_ost (f := f) (pos := q3) (p' := q1) (pe_var (X := ncx CX P w K mg base [n0, n1, "__class__"] F fI A outer ⟨sp, sg, sd, st, so⟩ H E) (i := 0) (x := n0) (pos := q0) rfl (.inl (S.par n0 (by simp))) hn0.1 hn0.2) (pe_var (i := 1) (x := n1) (pos := q2) rfl (.inl (S.par n1 (by simp))) hn1.1 hn1.2) rfl)
      refine wpAny_mono (body2.run [] _ _ H { nx := fun _ H' => Q .non H', rt := Q } J2 ⟨y, rfl, .ref a, rfl, a, C, rfl, T, hno, .inl ⟨hea, fun dx n1 n2 => hq dx n1 n2⟩⟩) (fun fl s' hs => ?_) fun e s' hs => hs
      have fin : ∀ {σ' : L2.St} {H' : Hp} {v : V} {u : Value}, Inv (ncx CX P w K mg base [n0, n1, "__class__"] F fI A outer ⟨sp, sg, sd, st, so⟩ H E) [] σ' H' s' → L2.RelV v u → Q v H' → CE outer P w H ⟨sp, sg, sd, st, so⟩ Q u s' :=
        fun {σ' H' v u} J rv q => ⟨v, H', J.os, J.bare, J.base, J.hok, rv, q⟩
      cases fl with
      | ret u =>
        obtain ⟨v, σ', H', J, rv, q⟩ := hs
        exact fin J rv q
      | next =>
        obtain ⟨σ', H', J, q⟩ := hs
        exact fin (v := V.non) (u := Value.none) J rfl q
      | brk =>
        obtain ⟨_, _, _, q⟩ := hs
        exact False.elim q
      | cont =>
        obtain ⟨_, _, _, q⟩ := hs
        exact False.elim q

/-- C(y): from the contract of its __init__ -/
theorem spI_mk {K : PySem.W.Frag} {C : Addr} {f : Str} {H1 : Hp} {y : V} {Q : L2.XK} (q : ∀ dx, H1 dx = none → Q (.ref C) (some dx) (upd H1 dx (.xd [(f, y)]))) :
    ([y].length ≤ 1000 ∧ ∀ a, H1 a = none → spI K C f (.ref a :: ([y] ++ [])) (upd H1 a (exo a C none)) (fun v H2 => v = .non ∧ ∃ (d : Addr) (fs : List (Str × V)), H2 a = some (exo a C (some d)) ∧ H2 d = some (exd d fs) ∧ H1 d = none ∧ Q (.ref C) (some d) (upd (del H2 a) d (.xd fs))) (fun _ _ _ => False)) := by
  refine ⟨by show (1 : Nat) ≤ 1000; decide, fun a ha => ⟨a, y, rfl, upd_same, fun dx hd hne => ⟨rfl, dx, [(f, y)], upd_same, ?_, ?_, ?_⟩⟩⟩
  · rw [upd_ne hne, upd_same]
  · rw [upd_ne hne] at hd
    exact hd
  · rw [upd_ne hne] at hd
    have e : upd (del (upd (upd (upd H1 a (exo a C none)) dx (exd dx [(f, y)])) a (exo a C (some dx))) a) dx (.xd [(f, y)]) = upd H1 dx (.xd [(f, y)]) := by
      funext b
      by_cases hb : b = dx
      · rw [hb, upd_same, upd_same]
      · rw [upd_ne hb, upd_ne hb]
        by_cases hba : b = a
        · rw [hba, del_same, ha]
        · rw [del_ne hba, upd_ne hba, upd_ne hb, upd_ne hba]
    rw [e]
    exact q dx hd
/-! ### isinstance of a caught exception that has a field -/
/-- what its class must say -/
structure XCl (K : PySem.W.Frag) (D : Addr) : Prop where
  cl : (PySem.W.clsIn K D).isSome = true
  ga : PySem.W.findIn K (.ref D) "__getattribute__" = some (some (.builtin "BaseException.__getattribute__"))
  gt : PySem.W.findIn K (.ref D) "__getattr__" = some none
  be : PySem.W.subIn K (.ref D) (.type "BaseException") = some true
  ca : PySem.W.findIn K (.ref D) "__class__" = some (some (.builtin "object.__class__"))
  cg : PySem.W.specialIn K (.builtin "object.__class__") "__get__" = some (some (.builtin "getset_descriptor.__get__"))
  ct : PySem.W.takesIn K (.builtin "object.__class__") = some true
  ob : PySem.W.mroIn K D (.type "object") = some true
def xclB (K : PySem.W.Frag) (D : Addr) : Bool := (PySem.W.clsIn K D).isSome && (decide (PySem.W.findIn K (.ref D) "__getattribute__" = some (some (.builtin "BaseException.__getattribute__"))) && (decide (PySem.W.findIn K (.ref D) "__getattr__" = some none) &&
  (decide (PySem.W.subIn K (.ref D) (.type "BaseException") = some true) && (decide (PySem.W.findIn K (.ref D) "__class__" = some (some (.builtin "object.__class__"))) && (decide (PySem.W.specialIn K (.builtin "object.__class__") "__get__" = some (some (.builtin "getset_descriptor.__get__"))) &&
  (decide (PySem.W.takesIn K (.builtin "object.__class__") = some true) && decide (PySem.W.mroIn K D (.type "object") = some true)))))))
theorem xclB_ok {K : PySem.W.Frag} {D : Addr} (h : xclB K D = true) : XCl K D := by
  unfold xclB at h
  simp only [Bool.and_eq_true, decide_eq_true_eq] at h
  obtain ⟨h1, h2, h3, h4, h5, h6, h7, h8⟩ := h
  exact ⟨h1, h2, h3, h4, h5, h6, h7, h8⟩
/-- the reading: a the caught exception, dx its dict -/
def rIsX (K : PySem.W.Frag) (D a dx : Addr) : List V → Hp → VK → Prop := fun xs H Q => ∃ (c : V) (cv : Value) (b : Bool) (fs : List (Str × V)), xs = [.ref a, c] ∧ (∀ u, RelV c u → u = cv) ∧ H dx = some (.xd fs) ∧ PySem.W.kitOne K (.ref D) cv = some b ∧ Q (.bl b) H
theorem call_isX {X : Cx} {a dx D : Addr} {oe : Obj} {pn : List (Addr × Obj)} (C : XCl X.K D) (hz : Zc (.ref D) (some dx) oe) (hf : ∃ vs, oe.data = .fields vs) : CallR (X.suite a ((a, oe) :: pn)) (.builtin "isinstance") (rIsX X.K D a dx) := by
  intro pins s σ H xs us Q I r h
  obtain ⟨c, cv, b, fs, rfl, hcv, hd, e, q⟩ := h
  cases r with
  | cons rx rr =>
    cases rr with
    | cons rt rr =>
      cases rr
      cases rx
      have ec := hcv _ rt
      subst ec
      obtain ⟨hget, _⟩ := I.pin (a, oe) (List.mem_append.mpr (.inl List.mem_cons_self))
      obtain ⟨vs, hv⟩ := hf
      have hx : ObjOk X.prog X.w H s.heap dx (.xd fs) := I.hok dx _ hd
      obtain ⟨mA, hns, _⟩ := hx
      obtain ⟨od, ho, _⟩ := lookIn_ns hns
      have J : PySem.W.InstAt s.heap a oe D (some od) := by
        obtain ⟨oc, odd, oda, osl⟩ := oe
        obtain ⟨h1, h2⟩ := hz
        dsimp only at h1 h2 hv
        subst h1 h2 hv
        exact ⟨hget, rfl, rfl, ho⟩
      exact PySem.W.kia_one (PySem.W.kitx_exc C.cl C.ga C.gt C.be C.ca C.cg C.ct C.ob) I.kIn J e (fun z => nomatch z) fun tk => ⟨.bl b, H, I.kept (t' := tk) fun _ _ z => z, rfl, q⟩
end Mini
end

section
set_option Elab.async false
set_option linter.all false
set_option maxRecDepth 100000
set_option maxHeartbeats 2000000
/-! MR: x[::-1] of lists, tuples, texts. -/
namespace Mini
open PySem L2 PyProof.Rows
section
variable {prog : Program} {w : World} {A : Around} {E : Value → Shared → Prop} {s : Shared}
theorem ad_rev (n : Nat) : Builtin.Slice.sliceAdjust none none (-1) (n : Int) = ((n : Int) - 1, -1) := by
  unfold Builtin.Slice.sliceAdjust
  have h1 : ((-1 : Int) < 0) := by omega
  simp only [h1, if_true]
theorem pl_rev (n : Nat) : Builtin.Slice.slicePlaces ((n : Int) - 1) (-1) (-1) = n := by
  unfold Builtin.Slice.slicePlaces
  have h1 : ¬ ((-1 : Int) > 0) := by omega
  simp only [h1, if_false]
  split
  · rw [show (- -1 : Int) = 1 by decide, Int.ediv_one]
    omega
  · omega
theorem fm_congr {α β : Type} {f g : α → Option β} : ∀ {l : List α}, (∀ x ∈ l, f x = g x) → l.filterMap f = l.filterMap g
  | [], _ => rfl
  | x :: l, h => by
    rw [List.filterMap_cons, List.filterMap_cons, h x (List.mem_cons_self ..), fm_congr fun y hy => h y (List.mem_cons_of_mem _ hy)]
theorem sa_rev {sl : Addr} {tk : Tok} {n : Nat} {Q : Int × Int × Nat → Shared → Prop} (hs : s.heap.IsSliceOf sl .none .none (.int (-1) tk)) (h : Q ((n : Int) - 1, -1, n) s) :
    wpAny (model prog w) A (Builtin.Slice.sliceApplied (.ref sl) (pure (n : Int))) Q E s := by
  obtain ⟨os, hos, hcs, hds⟩ := id hs
  unfold Builtin.Slice.sliceApplied Builtin.Slice.sliceFields
  refine wpAny_bind (wpAny_bind (wpAny_field hos hds (x := .none) rfl (wpAny_bind (wpAny_field hos hds (x := .none) rfl (wpAny_bind (wpAny_field hos hds (x := .int (-1) tk) rfl (wpAny_pure ?_)))))))
  refine wpAny_bind (HT.slicePart_ (.int _ _) ?_)
  show wpAny _ _ (if ((-1 : Int) == 0) = true then _ else _) _ _ s
  rw [if_neg (by decide)]
  refine wpAny_bind (HT.slicePart_ .none (wpAny_bind (HT.slicePart_ .none (wpAny_bind (wpAny_pure ?_)))))
  show wpAny _ _ (match Builtin.Slice.sliceAdjust none none (-1) (n : Int) with | (lo, hi) => pure (lo, (-1 : Int), Builtin.Slice.slicePlaces lo hi (-1))) _ _ s
  rw [ad_rev]
  show wpAny _ _ (pure ((n : Int) - 1, (-1 : Int), Builtin.Slice.slicePlaces ((n : Int) - 1) (-1) (-1))) _ _ s
  rw [pl_rev]
  exact wpAny_pure h
theorem pick_rev (xs : Array Value) : ((List.range xs.size).filterMap fun (m : Nat) => xs[(((xs.size : Int) - 1) + (m : Int) * (-1)).toNat]?).toArray = xs.toList.reverse.toArray := by
  have e : ((List.range xs.size).filterMap fun (m : Nat) => xs[(((xs.size : Int) - 1) + (m : Int) * (-1)).toNat]?) = ((List.range xs.size).map fun k => xs.size - 1 - k).filterMap (xs[·]?) := by
    rw [List.filterMap_map]
    refine fm_congr fun m hm => ?_
    have := List.mem_range.mp hm
    have e2 : (((xs.size : Int) - 1) + (m : Int) * (-1)).toNat = xs.size - 1 - m := by omega
    rw [e2]
    rfl
  rw [e, PySem.W.krv_range, List.filterMap_reverse, PySem.W.krv_all]
theorem gi_tup_rev {t sl : Addr} {items : Array Value} {tk : Tok} {Q : Value → Shared → Prop} (ht : IsTup s.heap t items) (hs : s.heap.IsSliceOf sl .none .none (.int (-1) tk))
    (h : Q (.ref s.heap.objs.size) { s with heap := s.heap.push { cls := .type "tuple", data := .seq items.toList.reverse.toArray } })
    (hsz : items.size ≤ sizeLine) : wpAny (model prog w) A (getItem (.ref t) (.ref sl)) Q E s := by
  have hok : sizeOk (.seq items.toList.reverse.toArray) := by
    show items.toList.reverse.toArray.size ≤ sizeLine
    rw [List.size_toArray, List.length_reverse, Array.length_toList]
    exact hsz
  obtain ⟨os, hos, hcs, hds⟩ := id hs
  have hTs : s.TypeIs (.ref sl) "slice" := ⟨os, hos, hcs⟩
  unfold getItem
  try with_reducible refine wpAny_holding ?_
  first | refine wpAny_bind (wpAny_pure ?_) | skip
  refine wpAny_bind (wpAny_sequenceKey ht.typeIs (by decide) ?_)
  refine wpAny_bind (wpAny_callSpecial?_slot (name := Str.ofString "__getitem__") ht.typeIs PyProof.Rows.slot_tuple_getitem
    (wpAny_call_entry PyProof.Rows.slot_tuple_getitem ht.typeIs entry_tuple_getitem ?_ (args_tuple_getitem _ _)))
  show wpAny _ _ (Builtin.Tuple.tupleItemsOf (.ref t) >>= _) _ _ s
  refine wpAny_bind (tupleItemsOf_ ht ?_)
  refine wpAny_bind (wpAny_typeOf hTs ?_)
  rw [if_pos (by decide)]
  refine wpAny_bind (sa_rev hs ?_)
  have hno : ¬ ((((items.size : Int) - 1) == 0 && (-1 : Int) == 1 && items.size == items.size) = true) := by
    intro q
    rw [Bool.and_eq_true, Bool.and_eq_true] at q
    exact absurd q.1.2 (by decide)
  show wpAny _ _ (if (((items.size : Int) - 1) == 0 && (-1 : Int) == 1 && items.size == items.size) = true then _ else _) _ _ s
  rw [if_neg hno, pick_rev]
  first
    | exact wpAny_bind (m := Builtin.Tuple.tupleExact _) (wpAny_newObj_type (wpAny_pure ⟨_, rfl, wpAny_pure h⟩) hok)
    | exact wpAny_bind (m := Builtin.Tuple.tupleExact _) (wpAny_newObj_type (wpAny_bind (wpAny_pure (wpAny_pure ⟨_, rfl, wpAny_pure h⟩))) hok)
    | exact wpAny_bind (wpAny_bind (m := Builtin.Tuple.tupleExact _) (wpAny_newObj_type (wpAny_pure (wpAny_pure ⟨_, rfl, wpAny_pure h⟩)) hok))
    | exact wpAny_bind (wpAny_bind (m := Builtin.Tuple.tupleExact _) (wpAny_newObj_type (wpAny_pure ⟨_, rfl, wpAny_pure h⟩) hok))
theorem gi_str_rev {x : Str} {t tk : Tok} {a : Addr} {Q : Value → Shared → Prop} (hs : s.heap.IsSliceOf a .none .none (.int (-1) tk)) (hz : x.length ≤ sizeLine) (h : ∀ t' k, Q (.str ⟨x.cps.toList.reverse.toArray⟩ t') { s with toks := k }) :
    wpAny (model prog w) A (getItem (.str x t) (.ref a)) Q E s := by
  refine wpAny_getItem_str_slice (l := none) (u := none) (st := some (-1, tk)) hs rfl ?_
  have e : sliceMade x t none none (some (-1, tk)) = .str ⟨((slicePicked x none none (some (-1, tk))).filterMap (x.cps[·]?)).toArray⟩ := by
    unfold sliceMade
    rw [if_neg]
    intro q
    rw [Bool.and_eq_true] at q
    have q1 : ((-1 : Int) == 1) = true := q.1
    exact absurd q1 (by decide)
  have e2 : slicePicked x none none (some (-1, tk)) = (List.range x.cps.size).reverse := by
    show sliceRange ((x.cps.size : Int) - 1) (-1) (-1) = _
    rw [PySem.W.krv_sliceRange, PySem.W.krv_range]
  have e3 : ((List.range x.cps.size).reverse.filterMap (x.cps[·]?)) = x.cps.toList.reverse := by
    rw [List.filterMap_reverse]
    congr 1
    rw [← Array.length_toList]
    have : ∀ l : List Nat, (List.range l.length).filterMap (fun i => l[i]?) = l := fun l => by
      apply List.ext_getElem?
      intro i
      have q : (List.range l.length).filterMap (fun i => l[i]?) = (List.range l.length).map fun i => l.getD i 0 := by
        rw [← List.filterMap_eq_map]
        refine fm_congr fun m hm => ?_
        have hm := List.mem_range.mp hm
        simp [hm]
      rw [q]
      by_cases hi : i < l.length
      · simp [hi]
      · simp [hi]
    have h2 := this x.cps.toList
    simpa using h2
  rw [e, e2, e3]
  exact ⟨by show x.cps.toList.reverse.toArray.size ≤ sizeLine; rw [List.size_toArray, List.length_reverse, Array.length_toList]; exact hz, h _ _⟩
end
def tRevM (K : PySem.W.Frag) (te : TE) : TE := fun σ H Q => te σ H fun x H1 => ∃ Hf a d, Same Hf H1 ∧ RepB K Hf H1 x a ∧ revD a = some d ∧ Post K Hf H1 Q d
theorem pe_revM {X : Cx} {e : Expr} {te : TE} {k : Nat} {p1 p2 p3 pos : Pos} (he : PE X e te) : PE X (.Subscript e (.Slice none none (some (.UnaryOp .USub (.Constant (.int 1) k p1) p2)) p3) pos) (tRevM X.K te) := by
  refine ⟨fun pins s σ H Q I h => ?_⟩
  refine Subscript_ (thn (he.run pins s σ H _ I h) fun v s1 ⟨x, H1, I1, r1, q1⟩ => ?_)
  obtain ⟨Hf, a, d, sm, ha, e, hq⟩ := q1
  have hst : PO X (some (.UnaryOp .USub (.Constant (.int 1) k p1) p2)) (tPart (tUn (rU fun i => .int (-i)) (tC (.int 1)))) := po_some (pe_un un_neg pe_int)
  refine wpAny_Slice (thn (po_none.run pins s1 σ H1 (fun o H2 => o = none ∧ H2 = H1) I1 ⟨rfl, rfl⟩) fun vl s2 ⟨l, H2, I2, pl, el, e2⟩ => ?_)
  subst el e2
  refine thn (po_none.run pins s2 σ H2 (fun o H3 => o = none ∧ H3 = H2) I2 ⟨rfl, rfl⟩) fun vu s3 ⟨u, H3, I3, pu, eu, e3⟩ => ?_
  subst eu e3
  refine thn (hst.run pins s3 σ H3 (fun o H4 => o = some (-1) ∧ H4 = H3) I3 ⟨1, rfl, -1, rfl, rfl, rfl⟩) fun vs s4 ⟨o, H4, I4, ps, eo, e4⟩ => ?_
  subst eo e4
  cases pl
  cases pu
  cases ps with
  | int _ tk =>
  have I5 : Inv X pins σ H4 { s4 with heap := s4.heap.push { cls := .type "slice", data := .fields #[.none, .none, .int (-1) tk] } } := I4.kept (t' := s4.toks) fun b ob q => Heap.get?_push_of_some _ q
  have hsl := Heap.IsSliceOf.new s4.heap .none .none (.int (-1) tk)
  cases a with
  | non => cases e
  | dic _ _ => cases e
  | ob _ _ _ => cases e
  | ml _ => cases e
  | md _ _ => cases e
  | mo _ _ _ => cases e
  | bl _ => cases e
  | int _ => cases e
  | lst ds =>
    cases e
    obtain ⟨p, ws, rfl, sa, ra, hl⟩ := ha.lst_ sm
    cases r1
    obtain ⟨its, r, ht, hz⟩ := I5.list sa
    have hlen := r.length
    show wpAny (model X.prog X.w) X.A (subscriptTail _ _ (.ref p) (.ref s4.heap.objs.size)) _ _ _
    refine tail_any (ops := [.ref p, .ref s4.heap.objs.size]) ht.isList.typeIs (PySem.slot_list_getitem.lookup) ?_ (by with_unfolding_all rfl)
    refine wpAny_getItem_list_slice ht.isList hsl .none .none (.int _ _) (by decide) ?_ (by rw [List.size_toArray]; omega)
    rw [PySem.W.krv_pick]
    refine ⟨.ref _, _, I5.laid (t' := s4.toks) (o := .lst ws.reverse) (fun b ob q => Heap.get?_push_of_some _ q) (Nat.le_refl _) ?_, rfl, hq.lst sm ra.rev (by rw [List.length_reverse]; exact hl) _ (I5.hok.fresh (Nat.le_refl _))⟩
    exact ⟨by rw [List.length_reverse]; exact hz, _, 0, r.reverse, Heap.get?_push_size _ rfl⟩
  | tup ds =>
    cases e
    obtain ⟨p, ws, rfl, sa, ra, hl, _⟩ := ha.tup_ sm
    cases r1
    obtain ⟨its, r, ht, hz⟩ := I5.tuple sa
    have hlen := r.length
    show wpAny (model X.prog X.w) X.A (subscriptTail _ _ (.ref p) (.ref s4.heap.objs.size)) _ _ _
    refine tail_any (ops := [.ref p, .ref s4.heap.objs.size]) ht.typeIs PyProof.Rows.slot_tuple_getitem.lookup ?_ (by with_unfolding_all rfl)
    refine gi_tup_rev ht hsl ?_ (by rw [List.size_toArray]; omega)
    exact new_tup I5 r.reverse (by rw [List.length_reverse]; exact hz) (hq.tup sm ra.rev (by rw [List.length_reverse]; exact hl))
  | str cs =>
    cases e
    obtain ⟨rfl, oa⟩ := ha.str_
    obtain ⟨t, rfl⟩ := r1
    show wpAny (model X.prog X.w) X.A (subscriptTail _ _ (.str (sOf cs) t) (.ref s4.heap.objs.size)) _ _ _
    refine tail_any (ops := [.str (sOf cs) t, .ref s4.heap.objs.size]) (typeIs_str _ _ _) PySem.F.slot_str_getitem.lookup ?_ (by with_unfolding_all rfl)
    refine gi_str_rev hsl (okS_line oa) fun t' k => ?_
    refine ⟨.str (sOf cs.reverse), H4, I5.tok k, ⟨t', by simp [sOf]⟩, hq.now sm (.str (okS_mk (by rw [List.length_reverse]; exact okS_len oa) fun c hc => okS_all oa c (List.mem_reverse.mp hc)))⟩
end Mini
end

section
set_option Elab.async false
set_option linter.all false
set_option maxRecDepth 100000
set_option maxHeartbeats 4000000
/-! MV: list(reversed(x)), list.extend. -/
namespace Mini
open PySem PySem.Spec L2 PyProof.Rows RT
theorem rt_nolen : typeLookup (.type "reversed") "__len__" = pure none := by rw [typeLookup_type, builtinLookup_eq_fast]; kernel_rfl
theorem rt_hint : Slot "reversed" "__length_hint__" "reversed.__length_hint__" :=
  .of (owner := "reversed") (n := "__length_hint__") (by rw [typeLookup_type, builtinLookup_eq_fast]; kernel_rfl) (by decide +kernel) (by decide +kernel) (by decide +kernel)
    (by first | exact .inl (by decide +kernel) | exact .inr (by decide +kernel)) (by rw [isSubtype_type]; kernel_rfl)
theorem rt_hint_entry : entryFor table "reversed.__length_hint__" = some Builtin.«reversed.__length_hint__» := entryFor_of_tree (by kernel_rfl)
theorem rt_hint_args (a : Value) : argsOk "reversed.__length_hint__" ⟨[a], []⟩ := by
  unfold argsOk
  rw [signature?_of (id := "reversed.__length_hint__") (n := ("__length_hint__" : String).toList.reverse.reverse.reverse) (o := ['d', 'e', 's', 'r', 'e', 'v', 'e', 'r']) (by kernel_rfl) owner_rt]
  kernel_rfl
section
variable {prog : Program} {w : World} {A : Around} {E : Value → Shared → Prop} {s : Shared}
theorem rt_split : splitId "reversed.__length_hint__" = some ("reversed", "__length_hint__") := by decide +kernel
theorem hint_rt {it t : Addr} {items : Array Value} {Q : Bool → Shared → Prop} (hit : IsRt s.heap it t ((items.size : Int) - 1)) (ht : IsTup s.heap t items) (hsz : items.size ≤ sizeLine) (hQ : ∀ b tk, Q b { s with toks := tk }) :
    wpAny (model prog w) A (Builtin.List.listLengthHint (.ref it)) Q E s := by
  have hT := hit.typeIs
  obtain ⟨o, ho, hc, hd⟩ := id hit
  have hn := line63
  unfold Builtin.List.listLengthHint
  refine wpAny_bind (wpAny_specialOf hT rt_nolen ?_)
  show wpAny _ A (specialOf (Value.ref it) (Str.ofString "__length_hint__") >>= _) _ _ _
  refine wpAny_bind (wpAny_specialOf hT rt_hint.lookup ?_)
  generalize hid : ("reversed.__length_hint__" : String) = id0
  wp_delta
  rw [show splitId id0 = some ("reversed", "__length_hint__") from by subst hid; exact rt_split]
  subst hid
  refine wpAny_bind (wpAny_isInstance (b := true) hT (by rw [isSubtype_type]; kernel_rfl) ?_)
  refine wpAny_bind (wpAny_rule ?_)
  refine wpAny_bind (wpAny_of_eq (rt_hint.bind _) ?_)
  refine wpAny_bind (wpAny_attempt (wpAny_call_entry rt_hint hT rt_hint_entry ?_ (rt_hint_args _)))
  unfold Builtin.«reversed.__length_hint__»
  refine wpAny_bind (wpAny_of_eq (a := Value.ref it) rfl ?_)
  try dsimp only
  refine wpAny_bind (wpAny_field ho hd (x := .ref t) rfl ?_)
  try dsimp only
  rw [if_neg (show ¬ ((Value.ref t == Value.none) = true) from by simp)]
  refine wpAny_bind (len_tuple ht (by omega) ?_)
  refine wpAny_bind (wpAny_of_eq (a := some ((items.size : Nat) : Int)) rfl ?_)
  try dsimp only
  refine wpAny_bind (wpAny_field (s := { s with toks := s.toks + 1 + 1 }) ho hd (x := rawInt ((items.size : Int) - 1)) rfl ?_)
  show wpAny _ _ (if (items.size : Int) < ((items.size : Int) - 1) + 1 then _ else _) _ _ _
  rw [if_neg (by omega)]
  refine wpAny_bind (wpAny_mkInt ?_)
  refine wpAny_pure ⟨_, rfl, ?_⟩
  refine wpAny_bind (wpAny_of_eq (a := some ((items.size : Int) - 1 + 1)) rfl ?_)
  try dsimp only
  rw [if_neg (by
    have : Builtin.List.listFitsIndex ((items.size : Int) - 1 + 1) = true := by
      unfold Builtin.List.listFitsIndex
      rw [Bool.and_eq_true, decide_eq_true_eq, decide_eq_true_eq]
      omega
    rw [this]
    decide)]
  rw [if_neg (by omega)]
  rw [if_neg (by
    have : Builtin.List.listTooLong ((items.size : Int) - 1 + 1).toNat = false := notLongL (by omega)
    rw [this]
    decide)]
  exact wpAny_pure (hQ _ _)
theorem walks_rt (hh : A.handled = none) (I t : Addr) (hne : t ≠ I) (items : Array Value) (hz : items.size ≤ sizeLine) :
    Walks prog w A I [I, t] [I] items.size (fun i v => items[items.size - 1 - i]? = some v) (fun i h => i ≤ items.size ∧ IsRt h I t ((items.size : Int) - 1 - (i : Int)) ∧ IsTup h t items) where
  sub := fun b hb => by simp at hb; simp [hb]
  frame := fun _ _ _ x hk => ⟨x.1, x.2.1.at fun o e => hk I (by simp) o e, let ⟨o, ho, r⟩ := x.2.2; ⟨o, hk t (by simp) o ho, r⟩⟩
  item := fun i s Q E hi x hQ => by
    have e : (items.size : Int) - 1 - (i : Int) = ((items.size - 1 - i : Nat) : Int) := by omega
    have hit := x.2.1
    rw [e] at hit
    have hx : items[items.size - 1 - i]? = some (items[items.size - 1 - i]'(by omega)) := Array.getElem?_eq_getElem (by omega)
    refine next_rt_item hit x.2.2 hx hz fun h' hit' hs' => ?_
    have e2 : ((items.size - 1 - i : Nat) : Int) - 1 = (items.size : Int) - 1 - ((i + 1 : Nat) : Int) := by omega
    rw [e2] at hit'
    obtain ⟨o, ho, r⟩ := x.2.2
    exact hQ _ h' (s.toks + 1) hx ⟨hi, hit', ⟨o, (hs'.2 t hne).trans ho, r⟩⟩ fun b o hb eo => hs'.extBut b o (fun h => hb (by simp [h])) eo
  done := fun s Q E x hQ => by
    have e : (items.size : Int) - 1 - (items.size : Int) = -1 := by omega
    have hit := x.2.1
    rw [e] at hit
    exact next_rt_end hh hit fun h' he' => hQ h' s.toks fun b o hb eo => he' b o (fun h => hb (by simp [h])) eo
  self := fun _ _ _ _ x hQ => iter_rt x.2.1 hQ
end
section
variable {prog : Program} {w : World} {A : Around} {E : Value → Shared → Prop} {s : Shared} {R : Result → Shared → Prop}
theorem extend_rt (hh : A.in1.handled = none) {I t : Addr} {items : Array Value} (hne : t ≠ I) (hz : items.size ≤ sizeLine) (S : Addr) (res : Value) (c₀ : Nat) (hit : IsRt s.heap I t ((items.size : Int) - 1)) (ht : IsTup s.heap t items) (hSI : S ≠ I) (hSt : S ≠ t)
    (hS : s.heap.get? S = some { cls := .type "list", data := .seq #[] c₀ })
    (hR : ∀ h' tk acc' c', (∀ b o, b ≠ S → b ≠ I → s.heap.get? b = some o → h'.get? b = some o) → h'.get? S = some { cls := .type "list", dict := none, data := .seq acc' c', slots := #[] } →
      ItemsOf (fun i v => items[items.size - 1 - i]? = some v) acc' items.size → R (.ok (.ret res)) { s with heap := h', toks := tk }) :
    wpAny (model prog w) A.in1 (Builtin.List.listExtendWith (.ref S) (.ref I) res)
      (fun fin s' => match fin with | .done f => R (.ok f) s' | .again c' => c'.quiet = true ∧ codeAny (model prog w) A c' R s') (fun e s' => R (.error e) s') s := by
  have W := (walks_rt (prog := prog) (w := w) (A := A.in1) hh I t hne items hz).toS
  have hSf : S ∉ [I, t] := by simp only [List.mem_cons, List.not_mem_nil, or_false, not_or]; exact ⟨hSI, hSt⟩
  have hT := hit.typeIs
  unfold Builtin.List.listExtendWith
  refine wpAny_bind (wpAny_typeOf hT ?_)
  have h1 : Builtin.List.listSameRef (.ref S) (.ref I) = false := by simp [Builtin.List.listSameRef, hSI]
  rw [if_neg (by rw [h1]; decide)]
  refine wpAny_bind (iter_rt hit ?_)
  refine wpAny_bind (wpAny_holding ?_)
  refine hint_rt hit ht hz fun b tk => ?_
  have e0 : (items.size : Int) - 1 - ((0 : Nat) : Int) = (items.size : Int) - 1 := by omega
  have fin : ∀ (h2 : Heap) (c2 : Nat), (∀ b o, b ≠ S → s.heap.get? b = some o → h2.get? b = some o) → h2.get? S = some { cls := .type "list", data := .seq #[] c2 } →
      codeAny (model prog w) A (.builtin "list.extend.loop" ⟨[.ref S, .ref I, res], []⟩) R { s with heap := h2, toks := tk } := fun h2 c2 k e => by
    obtain ⟨ot, hot, rt⟩ := id ht
    have st0 : 0 ≤ items.size ∧ IsRt h2 I t ((items.size : Int) - 1 - ((0 : Nat) : Int)) ∧ IsTup h2 t items := ⟨Nat.zero_le _, by rw [e0]; exact hit.at fun o e => k I o (Ne.symm hSI) e, ⟨ot, k t ot (Ne.symm hSt) hot, rt⟩⟩
    refine codeAny_extend_loopS W hz _ hSf _ items.size 0 _ _ _ rfl (Nat.zero_le _) st0 e (ItemsOf.nil _) fun s' acc' c' hm hS' hacc => ?_
    rw [Moved.eq_with hm]
    refine hR s'.heap s'.toks acc' c' (fun b o hb1 hb2 e => hm.heap b o (fun hmem => ?_) (k b o hb1 e)) hS' hacc
    rcases List.mem_cons.mp hmem with e' | hmem
    · exact hb1 e'
    · exact hb2 (List.mem_singleton.mp hmem)
  cases b with
  | false => exact wpAny_pure ⟨plainId_quiet F.plain_extend_loop _, fin s.heap c₀ (fun _ _ _ e => e) hS⟩
  | true =>
    show wpAny _ A.in1 (rule "list.extend.makes-room" >>= fun _ => Builtin.List.listTouch (.ref S) >>= fun _ => again (.builtin "list.extend.loop" ⟨[.ref S, .ref I, res], []⟩)) _ _ _
    refine wpAny_bind (wpAny_rule ?_)
    refine wpAny_bind ?_
    show wpAny _ A.in1 (updateSeq S (·.push .none) >>= fun _ => updateSeq S (·.pop)) _ _ _
    refine wpAny_bind (wpAny_updateSeq hS rfl ?_)
    have hS₂ := Heap.get?_update_self (Obj.mapSeq (·.push Value.none)) hS rfl
    refine wpAny_updateSeq (hz := by seq_fits) hS₂ rfl ?_
    have hS₃ := Heap.get?_update_self (Obj.mapSeq (·.pop)) hS₂ rfl
    exact wpAny_pure ⟨plainId_quiet F.plain_extend_loop _, fin _ _ (fun b o hb e => (Heap.get?_update_other _ _ (Ne.symm hb)).trans ((Heap.get?_update_other _ _ (Ne.symm hb)).trans e)) hS₃⟩
theorem init_rt (hh : A.in1.handled = none) {I t : Addr} {items : Array Value} (hne : t ≠ I) (hz : items.size ≤ sizeLine) (S : Addr) (hit : IsRt s.heap I t ((items.size : Int) - 1)) (ht : IsTup s.heap t items) (hSI : S ≠ I) (hSt : S ≠ t)
    (hS : s.heap.get? S = some { cls := .type "list", data := .seq #[] })
    (hR : ∀ h' tk acc' c', (∀ b o, b ≠ S → b ≠ I → s.heap.get? b = some o → h'.get? b = some o) → h'.get? S = some { cls := .type "list", dict := none, data := .seq acc' c', slots := #[] } →
      ItemsOf (fun i v => items[items.size - 1 - i]? = some v) acc' items.size → R (.ok (.ret .none)) { s with heap := h', toks := tk }) :
    wpAny (model prog w) A.in1 (Builtin.«list.__init__» ⟨[.ref S, .ref I], []⟩)
      (fun fin s' => match fin with | .done f => R (.ok f) s' | .again c' => c'.quiet = true ∧ codeAny (model prog w) A c' R s') (fun e s' => R (.error e) s') s := by
  show wpAny _ A.in1 (do let old ← Builtin.List.listItems (.ref S); Builtin.List.listUpdate (.ref S) (fun _ => #[]); letGo old.toList.reverse; Builtin.List.listExtendWith (.ref S) (.ref I) .none) _ _ s
  refine wpAny_bind ?_
  unfold Builtin.List.listItems
  refine wpAny_bind (wpAny_seqItems hS rfl (wpAny_pure ?_))
  show wpAny _ A.in1 (updateSeq S (fun _ => #[]) >>= fun _ => letGo (#[] : Array Value).toList.reverse >>= fun _ => Builtin.List.listExtendWith (.ref S) (.ref I) .none) _ _ s
  refine wpAny_bind (wpAny_updateSeq hS rfl ?_)
  have hS₂ := Heap.get?_update_self (Obj.mapSeq (fun _ => (#[] : Array Value))) hS rfl
  have oth : ∀ b o, b ≠ S → s.heap.get? b = some o → (s.heap.update S (Obj.mapSeq (fun _ => (#[] : Array Value)))).get? b = some o :=
    fun b o hb e => (Heap.get?_update_other _ _ (Ne.symm hb)).trans e
  refine wpAny_bind (wpAny_letGo ?_)
  obtain ⟨ot, hot, rt⟩ := id ht
  exact extend_rt (s := { s with heap := s.heap.update S (Obj.mapSeq (fun _ => (#[] : Array Value))) }) hh hne hz S .none _ (hit.at fun o e => oth I o (Ne.symm hSI) e) ⟨ot, oth t ot (Ne.symm hSt) hot, rt⟩ hSI hSt hS₂ fun h' tk acc' c' k e i =>
    hR h' tk acc' c' (fun b o h1 h2 e => k b o h1 h2 (oth b o h1 e)) e i
theorem call_list_rt {Q : Value → Shared → Prop} (hh : A.handled = none) {I t : Addr} {items : Array Value} (hne : t ≠ I) (hz : items.size ≤ sizeLine) (hit : IsRt s.heap I t ((items.size : Int) - 1)) (ht : IsTup s.heap t items)
    (hQ : ∀ h' tk acc' c', (∀ b o, b ≠ I → s.heap.get? b = some o → h'.get? b = some o) → h'.get? s.heap.objs.size = some { cls := .type "list", dict := none, data := .seq acc' c', slots := #[] } →
      ItemsOf (fun i v => items[items.size - 1 - i]? = some v) acc' items.size → Q (.ref s.heap.objs.size) { s with heap := h', toks := tk }) :
    wpAny (model prog w) A (call (.type "list") [.ref I]) Q E s := by
  obtain ⟨oi, hoi, _⟩ := id hit
  obtain ⟨ot, hot, rt⟩ := id ht
  have hSI : s.heap.objs.size ≠ I := Nat.ne_of_gt (Heap.lt_size hoi)
  have hSt : s.heap.objs.size ≠ t := Nat.ne_of_gt (Heap.lt_size hot)
  refine callType_codes (Q₁ := fun obj s₁ => obj = .ref s.heap.objs.size ∧ s₁ = { s with heap := s.heap.push { cls := .type "list", data := .seq #[] } }) F.called_list (F.typeCall_list_1 _) F.entry_list_init
    (code_list_new _ ⟨rfl, rfl⟩) fun obj s₁ h₁ => ?_
  obtain ⟨rfl, rfl⟩ := h₁
  have hS : (s.heap.push { cls := .type "list", data := .seq #[] }).get? s.heap.objs.size = some { cls := .type "list", data := .seq #[] } := Heap.get?_push_size _ rfl
  refine ⟨⟨_, hS, rfl⟩, F.args_list_init_2 _ _, init_rt (A := A.in1) (s := { s with heap := s.heap.push { cls := .type "list", data := .seq #[] } }) hh hne hz _ (hit.at fun o e => Heap.get?_push_of_some _ e) ⟨ot, Heap.get?_push_of_some _ hot, rt⟩ hSI hSt hS fun h' tk acc' c' k e i => ?_⟩
  refine ⟨rfl, hQ h' tk acc' c' (fun b o hb eb => k b o ?_ hb (Heap.get?_push_of_some _ eb)) e i⟩
  exact Nat.ne_of_lt (Heap.lt_size eb)
end
def tLrev (K : PySem.W.Frag) (te : TE) : TE := fun σ H Q => te σ H fun x H1 => ∃ Hf a d, Same Hf H1 ∧ Rep K Hf x a ∧ lrevD a = some d ∧ Post K Hf H1 Q d
section
variable {X : Cx}
theorem pe_lrev {e : Expr} {te : TE} {p p2 pos pos2 : Pos} (hc : X.calm = true) (hg : Gl X "list") (hm : X.mg "list" = none) (hg2 : Gl X "reversed") (hm2 : X.mg "reversed" = none) (he : PE X e te)
    (hs : starEach [e] X.env = (false, eval e X.env) :: starEach [] X.env) :
    PE X (.Call (.Name "list" p) [.Call (.Name "reversed" p2) [e] [] pos2] [] pos) (tLrev X.K te) := by
  have hs2 : starEach [.Call (.Name "reversed" p2) [e] [] pos2] X.env = (false, eval (.Call (.Name "reversed" p2) [e] [] pos2) X.env) :: starEach [] X.env := rfl
  refine ⟨fun pins s σ H Q I h => ?_⟩
  refine Call_ (ld_blt I hg hm boot_list (PyProof.Rows.callWith_type1 (args_cons (Call_ (ld_blt I hg2 hm2 PyProof.Rows.boot_reversed (PyProof.Rows.callWith_type1 (args_cons (thn (he.run pins s σ H _ I h) fun u s1 ⟨v, H1, I1, r1, q1⟩ => args_nil ?_) hs) hs rfl))) hs2) hs2 rfl))
  obtain ⟨Hf, a, d, sm, ra, ed, q⟩ := q1
  cases a with
  | tup ds =>
    cases ed
    cases ra with
    | tup hq rs hl =>
      rename_i a vs
      obtain rfl : u = Value.ref a := r1
      obtain ⟨its, rv, p', hz⟩ := I1.tuple (sqT_mono sm hq.t)
      have hn := line63
      have hlen := rv.length
      have hz' : its.toArray.size ≤ sizeLine := by simp only [List.size_toArray]; omega
      refine call_reversed_tup p' (fun A E Q k => len_tuple p' (by simp only [List.size_toArray] <;> omega) k) (args_nil ?_)
      have k0 : ∀ b o, s1.heap.get? b = some o → (s1.heap.push (rtObj a ((its.toArray.size : Int) - 1))).get? b = some o := fun b o e => Heap.get?_push_of_some _ e
      have I2 : Inv X pins σ H1 { s1 with heap := s1.heap.push (rtObj a ((its.toArray.size : Int) - 1)), toks := s1.toks + 1 + 1 } := I1.kept k0
      obtain ⟨f0, f1, f2, f3, f4, f5⟩ := I1.fpOk (H' := H1) (b := s1.heap.objs.size) (Nat.le_refl _) (I1.hok.fresh (Nat.le_refl _))
      obtain ⟨ot, hot, rt⟩ := id p'
      have hne : a ≠ s1.heap.objs.size := Nat.ne_of_lt (Heap.lt_size hot)
      refine call_list_rt (s := { s1 with heap := s1.heap.push (rtObj a ((its.toArray.size : Int) - 1)), toks := s1.toks + 1 + 1 }) (I1.ok.hd hc) hne hz' ⟨_, Heap.get?_push_size _ rfl, rfl, rfl⟩ (p'.push _) fun h' tk acc c' hk hS hi => ?_
      have hs1 : s1.heap.objs.size ≤ (s1.heap.push (rtObj a ((its.toArray.size : Int) - 1))).objs.size := by simp [Heap.push]
      refine ⟨.ref _, _, I1.laid (t' := tk) (o := .lst vs.reverse) (fun b o e => hk b o (Nat.ne_of_lt (Heap.lt_size e)) (k0 b o e)) hs1 ⟨by rw [List.length_reverse]; exact hz, acc.toList, c', vals_rev rv hi, by rw [Array.toArray_toList]; exact hS⟩, rfl,
        q.lst sm rs.rev (by rw [List.length_reverse]; exact hl) _ (I1.hok.fresh hs1)⟩
  | _ => cases ed
def rExtM (K : PySem.W.Frag) : V → List V → Hp → VK → Prop := fun x vs H Q => ∃ l b xs zs, x = .ref l ∧ vs = [.ref b] ∧ H l = some (.lst xs) ∧ SqL K H b zs ∧ xs.length + zs.length ≤ sizeLine ∧ Q .non (upd H l (.lst (xs ++ zs)))
theorem mt_extM : MtM X "list.extend" (rExtM X.K) := by
  intro pins s σ H x vs v us Q I rx rv h
  obtain ⟨l, b, xs, zs, rfl, rfl, hH, hB, hz, q⟩ := h
  cases rx
  obtain ⟨u, rfl, ru⟩ := rv.one
  cases ru
  obtain ⟨z, its, n, r, hl, e⟩ := I.lstM hH
  obtain ⟨its2, r2, ⟨⟨cls, dd, data, sl⟩, n2, e2, c2, d2, s2⟩, z2⟩ := I.list hB
  simp only at c2 d2 s2
  subst c2 d2 s2
  have hl2 := r2.length
  have hsz : its.toArray.size + its2.toArray.size ≤ sizeLine := by rw [List.size_toArray, List.size_toArray]; omega
  have hlong : ¬ (!its.toArray.isEmpty && Builtin.List.listTooLong (its.toArray.size + its2.toArray.size)) = true := by
    rw [notLongL hsz, Bool.and_false]
    exact Bool.false_ne_true
  refine wpAny_call_entry F.slot_list_extend ⟨_, e, rfl⟩ F.entry_list_extend ?_ (F.args_list_extend_2 _ _)
  unfold Builtin.«list.extend»
  refine wpAny_bind (wpAny_of_eq (a := (Value.ref l, Value.ref b)) rfl ?_)
  show wpAny _ _ (Builtin.List.listExtendWith (.ref l) (.ref b) .none) _ _ s
  unfold Builtin.List.listExtendWith
  refine wpAny_bind (wpAny_typeOf ⟨_, e2, rfl⟩ ?_)
  rw [if_pos (by simp)]
  refine wpAny_bind ?_
  unfold Builtin.List.listItems
  refine wpAny_bind (wpAny_seqItems e2 rfl (wpAny_pure ?_))
  refine wpAny_bind ?_
  refine wpAny_bind (wpAny_seqItems e rfl (wpAny_pure ?_))
  rw [if_neg hlong]
  show wpAny _ _ (updateSeq l (· ++ its2.toArray) >>= fun _ => ret .none) _ _ s
  refine wpAny_bind (wpAny_updateSeq e rfl ?_ (hz := by rw [List.size_toArray]; omega) (_hz' := by rw [Array.size_append]; omega))
  refine wpAny_pure ⟨_, rfl, ?_⟩
  refine ⟨.non, _, I.lset (its' := its ++ its2) hH e (by simp) (r.append r2) ?_, rfl, q⟩
  rw [List.length_append]
  omega
end
end Mini
end

section
set_option Elab.async false
set_option linter.all false
set_option maxRecDepth 100000
set_option maxHeartbeats 2000000
/-! MS: sorted(d), d a dict of the module with text keys. -/
namespace Mini
open PySem PySem.Spec PyProof.Rows L2
theorem lc_anti : ∀ a b : List Nat, ltCps a b = false → ltCps b a = false → a = b
  | [], [], _, _ => rfl
  | [], _ :: _, h, _ => by cases h
  | _ :: _, [], _, h => by cases h
  | a :: r, b :: t, h1, h2 => by
    simp only [ltCps, Bool.or_eq_false_iff, Bool.and_eq_false_iff, decide_eq_false_iff_not, beq_eq_false_iff_ne] at h1 h2
    have e : a = b := by omega
    subst e
    have r1 := h1.2.resolve_left (fun z => z rfl)
    have r2 := h2.2.resolve_left (fun z => z rfl)
    rw [lc_anti r t r1 r2]
theorem lc_trans : ∀ a b c : List Nat, ltCps b a = false → ltCps c b = false → ltCps c a = false
  | [], _, [], _, _ => rfl
  | [], _, _ :: _, _, _ => rfl
  | _ :: _, [], _, h, _ => by cases h
  | _ :: _, _ :: _, [], _, h => by cases h
  | a :: r, b :: t, c :: u, h1, h2 => by
    simp only [ltCps, Bool.or_eq_false_iff, Bool.and_eq_false_iff, decide_eq_false_iff_not, beq_eq_false_iff_ne] at h1 h2 ⊢
    refine ⟨by omega, ?_⟩
    by_cases e : c = a
    · have e1 : b = a := by omega
      have e2 : c = b := by omega
      exact Or.inr (lc_trans r t u (h1.2.resolve_left (fun z => z e1)) (h2.2.resolve_left (fun z => z e2)))
    · exact Or.inl e
def leS (a b : Str) : Prop := ltCps b.cps.toList a.cps.toList = false
theorem rising_le : ∀ (l : List Str) (p : Str), risingS p l = true → (∀ x ∈ l, leS p x) ∧ l.Pairwise leS
  | [], p, _ => ⟨fun x hx => absurd hx List.not_mem_nil, .nil⟩
  | x :: r, p, h => by
    have h : (!ltCps x.cps.toList p.cps.toList && risingS x r) = true := h
    rw [Bool.and_eq_true, Bool.not_eq_true'] at h
    obtain ⟨i1, i2⟩ := rising_le r x h.2
    refine ⟨fun y hy => ?_, List.pairwise_cons.mpr ⟨i1, i2⟩⟩
    rcases List.mem_cons.mp hy with rfl | hy
    · exact h.1
    · exact lc_trans _ _ _ h.1 (i1 y hy)
theorem sorted_le : ∀ {l : List Str}, sortedS l = true → l.Pairwise leS
  | [], _ => .nil
  | x :: r, h => List.pairwise_cons.mpr (rising_le r x h)
theorem str_of_cps {a b : Str} (h : a.cps.toList = b.cps.toList) : a = b := by
  cases a
  cases b
  congr 1
  exact Array.toList_inj.mp h
theorem sorted_one {xs ys : List Str} (hp : xs.Perm ys) (h1 : sortedS xs = true) (h2 : sortedS ys = true) : xs = ys :=
  List.Perm.eq_of_pairwise (le := leS) (fun a b _ _ q1 q2 => str_of_cps (lc_anti _ _ q2 q1)) (sorted_le h1) (sorted_le h2) hp
section
variable {X : Cx} {d : Addr} {es : Array DictEntry} {n : Nat}
/-- the keys of the entries, in their order -/
def keysOf : List DictEntry → Option (List Str)
  | [] => some []
  | e :: es => match e.key, keysOf es with
    | .str x _, some r => some (x :: r)
    | _, _ => none
theorem pairs_of {P : Program} {w : World} : ∀ {es : List DictEntry} {ks : List Str}, keysOf es = some ks → ∃ kvs : List (Str × Value), kvs.map (·.1) = ks ∧ Pairs (strKind P w) es kvs
  | [], ks, h => by cases h; exact ⟨[], rfl, .nil⟩
  | e :: es, ks, h => by
    unfold keysOf at h
    split at h
    · rename_i x t r e1 e2
      cases h
      obtain ⟨kvs, q1, q2⟩ := pairs_of (P := P) (w := w) e2
      exact ⟨(x, e.val) :: kvs, by rw [List.map_cons, q1], .cons (by rw [e1]; exact strKind_is P w x t) rfl q2⟩
    · cases h
theorem kd_dictAt (D : KDict X.K X.w d es n) {ks : List Str} (hk : keysOf es.toList = some ks) (hn : ks.Nodup) {h : Heap} (I : X.K.In h) : ∃ kvs : List (Str × Value), kvs.map (·.1) = ks ∧ h.DictAt (strKind X.prog X.w) d kvs n := by
  obtain ⟨kvs, e, p⟩ := pairs_of (P := X.prog) (w := X.w) hk
  obtain ⟨o, es', ep, h1, h2, h3, h4, _⟩ := PySem.W.mapOf_K (prog := X.prog) I D.at_ D.lit
  have hI := I _ _ D.at_
  rw [hI] at h1
  cases h1
  cases h3
  exact ⟨kvs, e, _, es, hI, h2, rfl, h4, p, by rw [e]; exact hn⟩
theorem call_sortedK (hcalm : X.calm = true) (D : KDict X.K X.w d es n) {ks ys : List Str} (hk : keysOf es.toList = some ks) (hn : ks.Nodup) (hp : ys.Perm ks) (hs : sortedS ys = true) (h64 : ks.length < 64) :
    CallR X (.builtin "sorted") (fun xs H Q => xs = [.ref d] ∧ ∀ p, H p = none → Q (.ref p) (upd H p (.lst (ys.map V.str)))) := by
  intro pins s σ H xs us Q I r q
  obtain ⟨rfl, q⟩ := q
  rw [Vals.ref1 r]
  obtain ⟨kvs, ek, dd⟩ := kd_dictAt D hk hn I.kIn
  have hl : kvs.length = ks.length := by rw [← ek, List.length_map]
  have h16 : kvs.length ≤ sizeLine := by rw [hl, sizeLine_eq]; omega
  refine Calls.call_function_entry PyProof.Rows.kind_sorted PyProof.Rows.plain_sorted PyProof.Rows.entry_sorted (PyProof.Rows.args_sorted1 _) ?_
  unfold Builtin.«sorted»
  refine wpAny_bind (m := checkCount "sorted" 1 1 _) (wpAny_pure ?_)
  refine wpAny_bind (PySem.W.kdu_collect (A := X.A.in1) (PySem.W.kdl_dict (knd := strKind X.prog X.w) (kvs := kvs) (ep := n) D.low) (I.ok.hd hcalm) dd h16 fun h' tk acc hk' hacc => ?_)
  have hal : acc.toList.length = ks.length := by rw [Array.length_toList, hacc.1, hl]
  have hS : StrsAre acc.toList ks := strs_at hal fun j v e => by
    obtain ⟨k, x, e1, e2⟩ := hacc.2 j v (by rw [← Array.getElem?_toList]; exact e)
    have e3 : (kvs.map (·.1))[j]? = some k := by rw [List.getElem?_map, e1]; rfl
    rw [ek] at e3
    obtain ⟨t, ev⟩ := Value.isStrOf_shape (x := k) (v := v) e2
    exact ⟨k, t, e3, ev⟩
  have I1 : L2.Inv X pins σ H { s with heap := h', toks := tk } := I.kept hk'
  refine wpAny_bind (wpAny_newList ?_ (by rw [hal, sizeLine_eq]; omega))
  have hoL : (h'.push (seqObj "list" acc.toList.toArray 0)).get? h'.objs.size = some (seqObj "list" acc.toList.toArray 0) := Heap.get?_push_size _ rfl
  show wpAny _ _ _ _ _ { s with heap := h'.push (seqObj "list" acc.toList.toArray 0), toks := tk }
  have hz : acc.toList.length < 64 := by rw [hal]; exact h64
  refine wpAny_bind (wpAny_holding (wpAny_call_entry slot_list_sort ⟨_, hoL, rfl⟩ entry_list_sort
    (list_sort_treeK strKind_oneLt (s := { s with heap := h'.push (seqObj "list" acc.toList.toArray 0), toks := tk }) hoL hS.keysOf (fun v₁ v₂ rest e => keyKind_strs (by rw [← e]; exact hS)) hz fun st' hp' hs' => ⟨_, rfl, ?_⟩)
    (args_list_sort _)))
  obtain ⟨zs, g1, g2, g3⟩ := sorted_out_str hS hp' hs'
  have ez : zs = ys := sorted_one (g2.trans hp.symm) g3 hs
  subst ez
  obtain ⟨e', he'⟩ := sortedHeap_at (vs := acc.toList) (out := (arrOf st').map (·.2)) hoL
  have hlen : (zs.map V.str).length ≤ sizeLine := by
    rw [List.length_map, g2.length_eq]
    exact Nat.le_trans (Nat.le_of_lt h64) (by decide)
  refine wpAny_pure ⟨_, rfl, .ref h'.objs.size, upd H h'.objs.size (.lst (zs.map V.str)), I1.laid (t' := tk) (fun b u e => ?_) (Nat.le_refl _)
    (show ObjOk X.prog X.w _ _ _ (.lst (zs.map V.str)) from ⟨hlen, ((arrOf st').map (·.2)).toList, e', vals_of_strs g1, by rw [Array.toArray_toList]; exact he'⟩), rfl, q _ (I1.hok.fresh (Nat.le_refl _))⟩
  have hb : b < h'.objs.size := Heap.lt_size e
  rw [sortedHeap_old (Nat.ne_of_lt hb) (by rw [size_push']; exact Nat.lt_succ_of_lt hb)]
  exact Heap.get?_push_of_some _ e
end
section
variable {X : Cx}
/-- t.count(k), ints -/
theorem mt_tcnt (hu : X.A.units + 64 < cLine) : MtR X "tuple.count" (fun x xs H Q => ∃ p, ∃ is : List Int, ∃ k, x = .ref p ∧ xs = [.int k] ∧ SqT X.K H p (is.map V.int) ∧ Q (.int ((is.countP fun y => decide (y = k) : Nat) : Int)) H) := by
  intro pins s σ H x xs v us Q I rx rs ⟨p, is, k, ex, exs, hq, q⟩
  subst ex exs
  cases rx
  obtain ⟨u, rfl, t, rfl⟩ := vals1 rs
  obtain ⟨its, rv, pl, _⟩ := I.tuple hq
  exact PySem.W.count_tuple_datum (α := Int) pl (PySem.W.HoldAll.of_ints (vs := its) (ns := is) rv.ints) (PySem.W.holds_int k t) (by show X.A.units + 1 + 0 < cLine; omega) ⟨.int _, H, I.tok _, ⟨_, rfl⟩, q⟩
end
end Mini
end

section
set_option Elab.async false
set_option linter.all false
set_option maxRecDepth 100000
/-! M7: which expression of the program is which of the small language; what a def promises. -/
namespace Mini
open PySem L2

/-! ### promises -/
/-- the arguments: values, and the lists and trees that the def may change (their addresses: ps; all that they own: fs) -/
inductive ArgR (K : PySem.W.Frag) (Hf H : Hp) : List Bool → List V → List D → List Addr → List Addr → Prop
  | nil : ArgR K Hf H [] [] [] [] []
  | val {md : List Bool} {v : V} {d : D} {vs : List V} {ds : List D} {ps fs : List Addr} : Rep K Hf v d → ArgR K Hf H md vs ds ps fs → ArgR K Hf H (false :: md) (v :: vs) (d :: ds) ps fs
  | own {md : List Bool} {p : Addr} {xs : List V} {x : List D} {vs : List V} {ds : List D} {ps fs : List Addr} : H p = some (.lst xs) → Hf p = none → Reps K Hf xs x → x.length ≤ lim → ArgR K Hf H md vs ds ps fs → p ∉ fs →
      ArgR K Hf H (true :: md) (.ref p :: vs) (.lst x :: ds) (p :: ps) (p :: fs)
  | tr {md : List Bool} {p : Addr} {t : D} {vs : List V} {ds : List D} {ps fs : List Addr} : isTr t = true → TRep K Hf H t (.ref p) → (TFoot H t (.ref p)).Nodup → ArgR K Hf H md vs ds ps fs → (∀ a ∈ TFoot H t (.ref p), a ∉ fs) →
      ArgR K Hf H (true :: md) (.ref p :: vs) (t :: ds) (p :: ps) (TFoot H t (.ref p) ++ fs)
/-- which of the handed things are trees -/
def kindsOf : List Bool → List D → List Bool
  | true :: md, d :: ds => isTr d :: kindsOf md ds
  | false :: md, _ :: ds => kindsOf md ds
  | _, _ => []
inductive OutR (K : PySem.W.Frag) (Hf H : Hp) : List Bool → List Addr → List (List D) → List Addr → Prop
  | nil : OutR K Hf H [] [] [] []
  | own {p : Addr} {xs : List V} {x : List D} {ks : List Bool} {ps fs : List Addr} {r : List (List D)} : H p = some (.lst xs) → Hf p = none → Reps K Hf xs x → x.length ≤ lim → OutR K Hf H ks ps r fs → p ∉ fs → OutR K Hf H (false :: ks) (p :: ps) (x :: r) (p :: fs)
  | tr {p : Addr} {t : D} {ks : List Bool} {ps fs : List Addr} {r : List (List D)} : isTr t = true → TRep K Hf H t (.ref p) → (TFoot H t (.ref p)).Nodup → OutR K Hf H ks ps r fs → (∀ a ∈ TFoot H t (.ref p), a ∉ fs) → OutR K Hf H (true :: ks) (p :: ps) ([t] :: r) (TFoot H t (.ref p) ++ fs)
/-- what stands at fs may change -/
structure AdvM (fs : List Addr) (Hf H Hf' H' : Hp) : Prop where
  keep : ∀ a o, H a = some o → a ∉ fs → H' a = some o
  live : ∀ a o, H a = some o → ∃ u, H' a = some u
  f : Same Hf Hf'
  sub : Same Hf' H'
  out : ∀ a o, H a = some o → Hf a = none → a ∉ fs → Hf' a = none
/-- a new list that nobody else knows, or a value -/
def AnsR (K : PySem.W.Frag) (fr : Bool) (H0 : Hp) (fs0 fs : List Addr) (Hf H : Hp) (v : V) (d : D) : Prop := if fr = true then
  (∃ p xs x, v = .ref p ∧ d = .lst x ∧ H p = some (.lst xs) ∧ Hf p = none ∧ (p ∈ fs0 ∨ H0 p = none) ∧ p ∉ fs ∧ Reps K Hf xs x ∧ x.length ≤ lim) else Rep K Hf v d
/-- a new tree that nobody else knows -/
def NewTr (K : PySem.W.Frag) (H0 : Hp) (fs0 fs : List Addr) (Hf H : Hp) (v : V) (t : D) : Prop := isTr t = true ∧ TRep K Hf H t v ∧ (TFoot H t v).Nodup ∧ ∀ a ∈ TFoot H t v, (a ∈ fs0 ∨ H0 a = none) ∧ a ∉ fs
def spM (g : Gx) (K : PySem.W.Frag) (f : CallF) : Sp := fun vs H Q E => ∃ Hf ds ps fs, Same Hf H ∧ ArgR K Hf H f.md vs ds ps fs ∧ match f.F ds with
  | .ok d outs => ∀ v H' Hf' fs', AdvM fs Hf H Hf' H' → OutR K Hf' H' (kindsOf f.md ds) ps outs fs' → (∀ a ∈ fs', a ∈ fs ∨ H a = none) → AnsR K f.fr H fs fs' Hf' H' v d → Q v H'
  | .exc c d outs => ∀ cls dx H' Hf' fs', AdvM fs Hf H Hf' H' → OutR K Hf' H' (kindsOf f.md ds) ps outs fs' → (∀ a ∈ fs', a ∈ fs ∨ H a = none) → XRep g K Hf' H' c d cls dx → E cls dx H'
  | .tre t outs => ∀ v H' Hf' fs', AdvM fs Hf H Hf' H' → OutR K Hf' H' (kindsOf f.md ds) ps outs fs' → (∀ a ∈ fs', a ∈ fs ∨ H a = none) → NewTr K H fs fs' Hf' H' v t → Q v H'
  | .bad => False
theorem ArgR.len {K : PySem.W.Frag} {Hf H : Hp} {md : List Bool} {vs : List V} {ds : List D} {ps fs : List Addr} (h : ArgR K Hf H md vs ds ps fs) : vs.length = md.length := by
  induction h with
  | nil => rfl
  | val _ _ ih => rw [List.length_cons, List.length_cons, ih]
  | own _ _ _ _ _ _ ih => rw [List.length_cons, List.length_cons, ih]
  | tr _ _ _ _ _ ih => rw [List.length_cons, List.length_cons, ih]

/-! ### what the surroundings are -/
structure Wd where
  P : Program
  w : World
  K : PySem.W.Frag
  mg : Str → Option Value
  base : Heap
  A : Around
abbrev wd (X : Cx) : Wd := ⟨X.prog, X.w, X.K, X.mg, X.base, X.A⟩
def CallOk (g : Gx) (d : Wd) (f : CallF) : Prop := ∃ fa fd ps k, FnOk d.P d.w d.K d.mg d.base (L2.CX d.P d.w) k fa fd ps (spM g d.K f) ∧ Room k d.A ∧ d.mg f.name = some (.ref fa) ∧ PySem.W.keepIn d.K (.ref fa) = true ∧ Binds d.K fd ps []
def GlobOk (d : Wd) (x : Str) (v : D) : Prop := ∃ u w, d.mg x = some u ∧ RelV w u ∧ ∀ H, Rep d.K H w v
/-- isinstance of an exception of the class at D -/
def XIs (d : Wd) (D : Addr) (C : Str) (b : Bool) : Prop := XCl d.K D ∧ ∃ cv : Value, (d.mg C = some cv ∨ (d.mg C = none ∧ bootBuiltins C = some cv)) ∧ (∃ v, RelV v cv ∧ ∀ u, RelV v u → u = cv) ∧ PySem.W.kitOne d.K (.ref D) cv = some b
/-- an exception of the class number x, by its name C, can be made -/
def RaiseOk (g : Gx) (d : Wd) (x : Nat) (C : Str) : Prop := x < g.n ∧ ∃ fI fd ps k, OexC d.K (g.xc x) ∧ PySem.W.findIn d.K (.ref (g.xc x)) "__init__" = some (some (.ref fI)) ∧ PySem.W.typeIn d.K (.ref fI) = some (.type "function") ∧
  FnOk d.P d.w d.K d.mg d.base (L2.CX d.P d.w) k fI fd ps (spI d.K (g.xc x) (g.xf x)) ∧ Room (k + 1) d.A ∧ Binds d.K fd ps [] ∧ d.mg C = some (.ref (g.xc x))
def TabOk (d : Wd) (x : Str) (t : List (List Nat × D)) : Prop := ∃ a es n, d.mg x = some (.ref a) ∧ KDict d.K d.w a es n ∧ ∀ cs, match t.lookup cs with
  | some v => ∃ u w, PySem.W.nsIn d.K a (sOf cs) = some (some u) ∧ RelV w u ∧ ∀ H, Rep d.K H w v
  | none => PySem.W.nsIn d.K a (sOf cs) = some none
/-- a tuple of texts of the module -/
def TtOk (d : Wd) (x : Str) (t : List (List Nat)) : Prop := ∃ (a : Addr) (o : Obj) (its : Array Value) (n : Nat), d.mg x = some (.ref a) ∧ d.K.lookup a = some o ∧ o.cls = .type "tuple" ∧ o.dict = none ∧ o.data = .seq its n ∧ its.size ≤ sizeLine ∧ Vals ((t.map sOf).map V.str) its.toList
/-- the keys of a dict of the module, in order -/
def TksOk (d : Wd) (x : Str) (ys : List (List Nat)) : Prop := ∃ a es n ks, d.mg x = some (.ref a) ∧ KDict d.K d.w a es n ∧ keysOf es.toList = some ks ∧ ks.Nodup ∧ (ys.map sOf).Perm ks ∧ PyProof.Rows.sortedS (ys.map sOf) = true ∧ ks.length < 64 ∧ ∀ y ∈ ys, okS y = true
mutual
def okE (g : Gx) (d : Wd) : E → Prop
  | .v _ | .c _ | .pop _ => True
  | .fld _ c f => g.xf c = f ∧ XfC d.K (g.xc c) ∧ PySem.W.findIn d.K (.ref (g.xc c)) f = some none
  | .isx _ c C b => XIs d (g.xc c) C b
  | .dg _ b => okE g d b
  | .g x v => GlobOk d x v
  | .gix x t e | .gin _ x t e => TabOk d x t ∧ okE g d e
  | .gti x t e => TtOk d x t ∧ okE g d e
  | .gsd x ys => TksOk d x ys
  | .bin _ a b | .cat a b | .cmp _ a b | .tm _ a b | .ix a b | .dix a b | .slLo a b | .slHi a b => okE g d a ∧ okE g d b
  | .neg a | .not a | .isi _ a | .rev a | .lrev a => okE g d a
  | .chn _ _ a b c | .slLH a b c | .ite a b c => okE g d a ∧ okE g d b ∧ okE g d c
  | .and es | .or es | .tup es | .lst es | .bi _ es => okEs g d es
  | .call f es => CallOk g d f ∧ okEs g d es
  | .me _ o es => okE g d o ∧ okEs g d es
  | .lc _ _ s ifs e => okSrc g d s ∧ okEs g d ifs ∧ okE g d e
def okEs (g : Gx) (d : Wd) : List E → Prop
  | [] => True
  | e :: es => okE g d e ∧ okEs g d es
def okSrc (g : Gx) (d : Wd) : Src → Prop
  | .it e | .r1 e => okE g d e
  | .r2 a b | .rd a b => okE g d a ∧ okE g d b
end
def freeNames : List Str := ["len", "abs", "min", "max", "sum", "all", "any", "int", "str", "list", "tuple", "sorted", "isinstance", "range", "bool", "dict", "reversed", "enumerate", "zip", "set", "repr", "super", "ValueError"]
structure Ctx (cm : Bool) (X : Cx) : Prop where
  nd : X.N.Nodup
  fre : ∀ x ∈ freeNames, X.mg x = none
  un : X.A.units + 64 < cLine
  calm : cm = true → X.calm = true
theorem Ctx.blk {cm : Bool} {X : Cx} (h : Ctx cm X) (s : Shared) (H : Hp) (scope : Scope) (ce : PySem.Env) (fp : List Addr) : Ctx cm (X.blk s H scope ce fp) := ⟨h.nd, h.fre, h.un, h.calm⟩

/-! ### the check -/
def visB (sc : Scope) (x : Str) : Bool := (match sc.names.lookup x with
  | some .local => true
  | some .cell => true
  | some .free => true
  | _ => false) && !(x == ("__debug__" : Str)) && !(x == ("__classdict__" : Str))
def glB (sc : Scope) (x : Str) : Bool := (match sc.names.lookup x with
  | some .globalImplicit => true
  | _ => false) && !(x == ("__debug__" : Str)) && !(x == ("__name__" : Str))
def constB : D → Const → Bool
  | .non, .none => true
  | .bl b, .bool c => b == c
  | .int i, .int j => decide (i = j)
  | .str cs, .str s => decide (s.cps.toList = cs) && okS cs
  | _, _ => false
def bopB : BOp → Operator → Bool
  | .add, .Add | .sub, .Sub | .mul, .Mult | .fdiv, .FloorDiv | .mod, .Mod | .pow, .Pow => true
  | _, _ => false
def copB : COp → CmpOp → Bool
  | .eq, .Eq | .ne, .NotEq | .lt, .Lt | .le, .LtE | .gt, .Gt | .ge, .GtE | .isIn, .In | .notIn, .NotIn | .is, .Is | .isNot, .IsNot => true
  | _, _ => false
/-- no star, no slice, no set display -/
def plainB : Expr → Bool
  | .Starred _ _ | .Slice _ _ _ _ | .Set _ _ _ => false
  | _ => true
/-- the base of a method call that needs no super -/
def baseB : Expr → Bool
  | .Call f _ _ _ => (match f with
    | .Name id _ => !(id == ("super" : Str))
    | _ => true)
  | _ => true
def biCalm : BI → Bool
  | .min1 | .max1 | .min2 | .max2 | .sum | .all | .any | .dict => true
  | _ => false
def tmN : TM → Str
  | .index => "index"
  | .count => "count"
def meOk : ME → Bool
  | .count => false
  | _ => true
def tgB (own : Scope) (N : List Str) (sc : Scope) (i : Nat) (e : Expr) : Bool := match e with
  | .Name x _ => decide (N[i]? = some x) && (match sc.names.lookup x with
    | some .local => true
    | some .cell => (match own.names.lookup x with
      | some .cell => true
      | _ => false)
    | _ => false)
  | _ => false
def tgsB (own : Scope) (N : List Str) (sc : Scope) : List Nat → List Expr → Bool
  | [], [] => true
  | i :: is, e :: es => plainB e && tgB own N sc i e && tgsB own N sc is es
  | _, _ => false
def chkT (own : Scope) (N : List Str) (sc : Scope) (t : Tgt) (e : Expr) : Bool := match t with
  | .n i => tgB own N sc i e
  | .t is => (match e with
    | .Tuple es _ _ => tgsB own N sc is es
    | _ => false)
def tyB (t : Ty) (sc : Scope) (e : Expr) : Bool := match e with
  | .Name x _ => decide (x = (tyN t : Str)) && glB sc x && decide (t = .int ∨ t = .bool ∨ t = .str ∨ t = .tup ∨ t = .lst)
  | _ => false
def tysB (sc : Scope) : List Ty → List Expr → Bool
  | [], [] => true
  | t :: ts, e :: es => plainB e && tyB t sc e && tysB sc ts es
  | _, _ => false
def tgOwn : Tgt → List Nat
  | .n i => [i]
  | .t is => is
def ownN (N : List Str) (own : List Nat) : List (Str × Nat) := own.map fun i => (N.getD i Str.empty, i)
mutual
def chkE (cm : Bool) (N : List Str) (sc : Scope) : E → Expr → Bool
  | .v i, e => (match e with
    | .Name x _ => decide (N[i]? = some x) && visB sc x
    | _ => false)
  | .c d, e => (match e with
    | .Constant c _ _ => constB d c
    | _ => false)
  | .g x _, e => (match e with
    | .Name y _ => decide (y = x) && glB sc x
    | _ => false)
  | .gix x _ a, e => (match e with
    | .Subscript p q _ => (match p with
      | .Name y _ => decide (y = x) && glB sc x && plainB q && chkE cm N sc a q
      | _ => false)
    | _ => false)
  | .gin n x _ a, e => (match e with
    | .Compare p ops qs _ => (match ops, qs with
      | [op], [q] => (match q with
        | .Name y _ => decide (y = x) && glB sc x && copB (if n then .notIn else .isIn) op && chkE cm N sc a p
        | _ => false)
      | _, _ => false)
    | _ => false)
  | .gti x _ a, e => (match e with
    | .Call fn ps kws cpos => (match fn, ps, kws with
      | .Attribute ob nm apos, [p], [] => (match ob with
        | .Name y _ => decide (y = x) && glB sc x && decide (nm = ("index" : Str)) && (apos.endLine == cpos.line) && plainB p && chkE cm N sc a p
        | _ => false)
      | _, _, _ => false)
    | _ => false)
  | .gsd x _, e => (match e with
    | .Call fn ps kws _ => (match fn, ps, kws with
      | .Name y _, [q], [] => (match q with
        | .Name z _ => decide (y = ("sorted" : Str)) && decide (z = x) && glB sc y && glB sc x && cm
        | _ => false)
      | _, _, _ => false)
    | _ => false)
  | .fld i _ f, e => (match e with
    | .Attribute ob nm _ => (match ob with
      | .Name x _ => decide (nm = f) && decide (N[i]? = some x) && visB sc x
      | _ => false)
    | _ => false)
  | .isx i _ C _, e => (match e with
    | .Call fn ps kws _ => (match fn, ps, kws with
      | .Name f _, [p, q], [] => (match p, q with
        | .Name y _, .Name z _ => decide (f = ("isinstance" : Str)) && glB sc f && decide (N[i]? = some y) && visB sc y && decide (z = C) && glB sc z
        | _, _ => false)
      | _, _, _ => false)
    | _ => false)
  | .bin o a b, e => (match e with
    | .BinOp p op q _ => bopB o op && chkE cm N sc a p && chkE cm N sc b q
    | _ => false)
  | .neg a, e => (match e with
    | .UnaryOp op p _ => (match op with
      | .USub => chkE cm N sc a p
      | _ => false)
    | _ => false)
  | .not a, e => (match e with
    | .UnaryOp op p _ => (match op with
      | .Not => chkE cm N sc a p
      | _ => false)
    | _ => false)
  | .cmp o a b, e => (match e with
    | .Compare p ops qs _ => (match ops, qs with
      | [op], [q] => copB o op && plainB q && chkE cm N sc a p && chkE cm N sc b q
      | _, _ => false)
    | _ => false)
  | .chn o o2 a b c, e => (match e with
    | .Compare p ops qs _ => (match ops, qs with
      | [op, op2], [q, r] => copB o op && copB o2 op2 && chkE cm N sc a p && chkE cm N sc b q && chkE cm N sc c r && plainB q && plainB r
      | _, _ => false)
    | _ => false)
  | .and es, e => (match e with
    | .BoolOp op ps _ => (match op with
      | .And => chkEs cm N sc es ps
      | _ => false)
    | _ => false)
  | .or es, e => (match e with
    | .BoolOp op ps _ => (match op with
      | .Or => chkEs cm N sc es ps
      | _ => false)
    | _ => false)
  | .ite t a b, e => (match e with
    | .IfExp p q r _ => tOk t && chkE cm N sc t p && chkE cm N sc a q && chkE cm N sc b r
    | _ => false)
  | .tup es, e => (match e with
    | .Tuple ps _ _ => chkEs cm N sc es ps
    | _ => false)
  | .lst es, e => (match e with
    | .List ps _ => chkEs cm N sc es ps
    | _ => false)
  | .call f es, e => (match e with
    | .Call fn ps kws _ => (match fn, kws with
      | .Name x _, [] => decide (x = f.name) && glB sc x && chkEs cm N sc es ps
      | _, _ => false)
    | _ => false)
  | .bi b es, e => (match e with
    | .Call fn ps kws _ => (match fn, kws with
      | .Name x _, [] => decide (x = biN b) && glB sc x && (cm || !biCalm b) && !es.isEmpty && chkEs cm N sc es ps
      | _, _ => false)
    | _ => false)
  | .me m o es, e => (match e with
    | .Call fn ps kws cpos => (match fn, kws with
      | .Attribute ob nm apos, [] => decide (nm = meN m) && baseB ob && (apos.endLine == cpos.line) && meOk m && !es.isEmpty && decide (ps.length < 20) && chkE cm N sc o ob && chkEs cm N sc es ps
      | _, _ => false)
    | _ => false)
  | .tm m o a, e => (match e with
    | .Call fn ps kws cpos => (match fn, ps, kws with
      | .Attribute ob nm apos, [p], [] => decide (nm = tmN m) && baseB ob && (apos.endLine == cpos.line) && plainB p && chkE cm N sc o ob && chkE cm N sc a p
      | _, _, _ => false)
    | _ => false)
  | .isi ts a, e => (match e with
    | .Call fn ps kws _ => (match fn, ps, kws with
      | .Name x _, [p, q], [] => decide (x = ("isinstance" : Str)) && glB sc x && plainB p && plainB q && decide (ts.length < 1000) && chkE cm N sc a p && (match ts with
        | [t] => tyB t sc q
        | _ => (match q with
          | .Tuple qs _ _ => tysB sc ts qs
          | _ => false))
      | _, _, _ => false)
    | _ => false)
  | .ix a b, e => (match e with
    | .Subscript p q _ => plainB q && chkE cm N sc a p && chkE cm N sc b q
    | _ => false)
  | .dix a b, e => (match e with
    | .Subscript p q _ => plainB q && chkE cm N sc a p && chkE cm N sc b q
    | _ => false)
  | .dg i b, e => (match e with
    | .Subscript p q _ => (match p with
      | .Name x _ => decide (N[i]? = some x) && visB sc x && plainB q && chkE cm N sc b q
      | _ => false)
    | _ => false)
  | .slLo a l, e => (match e with
    | .Subscript p q _ => (match q with
      | .Slice lo hi st _ => (match lo, hi, st with
        | some lo, none, none => chkE cm N sc a p && chkE cm N sc l lo
        | _, _, _ => false)
      | _ => false)
    | _ => false)
  | .slHi a h, e => (match e with
    | .Subscript p q _ => (match q with
      | .Slice lo hi st _ => (match lo, hi, st with
        | none, some hi, none => chkE cm N sc a p && chkE cm N sc h hi
        | _, _, _ => false)
      | _ => false)
    | _ => false)
  | .slLH a l h, e => (match e with
    | .Subscript p q _ => (match q with
      | .Slice lo hi st _ => (match lo, hi, st with
        | some lo, some hi, none => chkE cm N sc a p && chkE cm N sc l lo && chkE cm N sc h hi
        | _, _, _ => false)
      | _ => false)
    | _ => false)
  | .rev a, e => (match e with
    | .Subscript p q _ => (match q with
      | .Slice lo hi st _ => (match lo, hi, st with
        | none, none, some (.UnaryOp .USub (.Constant (.int 1) _ _) _) => chkE cm N sc a p
        | _, _, _ => false)
      | _ => false)
    | _ => false)
  | .cat a b, e => (match e with
    | .BinOp p op q _ => bopB .add op && chkE cm N sc a p && chkE cm N sc b q
    | _ => false)
  | .lrev a, e => (match e with
    | .Call fn ps kws _ => (match fn, ps, kws with
      | .Name x _, [q], [] => (match q with
        | .Call fn2 ps2 kws2 _ => (match fn2, ps2, kws2 with
          | .Name y _, [p], [] => decide (x = ("list" : Str)) && decide (y = ("reversed" : Str)) && glB sc x && glB sc y && cm && plainB p && chkE cm N sc a p
          | _, _, _ => false)
        | _ => false)
      | _, _, _ => false)
    | _ => false)
  | .pop i, e => (match e with
    | .Call fn ps kws cpos => (match fn, ps, kws with
      | .Attribute ob nm apos, [], [] => (match ob with
        | .Name x _ => decide (nm = ("pop" : Str)) && (apos.endLine == cpos.line) && decide (N[i]? = some x) && visB sc x
        | _ => false)
      | _, _, _ => false)
    | _ => false)
  | .lc t own s ifs elt, e => (match e with
    | .ListComp x gs scope _ => (match gs with
      | [⟨tg, it, fs, as⟩] => decide (as = 0) && cm && ((tgOwn t).all fun i => own.contains i) && blkC N sc scope (ownN N own) && chkT scope N (relS scope sc) t tg && chkSrc cm N sc s it && tOks ifs && decide (ifs.length ≤ 1) && chkEs cm N (relS scope sc) ifs fs && chkE cm N (relS scope sc) elt x
      | _ => false)
    | _ => false)
def chkEs (cm : Bool) (N : List Str) (sc : Scope) : List E → List Expr → Bool
  | [], ps => (match ps with
    | [] => true
    | _ => false)
  | e :: es, ps => (match ps with
    | [] => false
    | p :: ps => plainB p && chkE cm N sc e p && chkEs cm N sc es ps)
def chkSrc (cm : Bool) (N : List Str) (sc : Scope) : Src → Expr → Bool
  | .it e, p => plainB p && chkE cm N sc e p
  | .r1 a, p => (match p with
    | .Call fn ps kws _ => (match fn, ps, kws with
      | .Name x _, [p], [] => decide (x = ("range" : Str)) && glB sc x && plainB p && chkE cm N sc a p
      | _, _, _ => false)
    | _ => false)
  | .r2 a b, p => (match p with
    | .Call fn ps kws _ => (match fn, ps, kws with
      | .Name x _, [p, q], [] => decide (x = ("range" : Str)) && glB sc x && plainB p && plainB q && chkE cm N sc a p && chkE cm N sc b q
      | _, _, _ => false)
    | _ => false)
  | .rd a b, p => (match p with
    | .Call fn ps kws _ => (match fn, ps, kws with
      | .Name x _, [p, q, t], [] => (match t with
        | .UnaryOp .USub (.Constant (.int 1) _ _) _ => decide (x = ("range" : Str)) && glB sc x && plainB p && plainB q && chkE cm N sc a p && chkE cm N sc b q
        | _ => false)
      | _, _, _ => false)
    | _ => false)
/-- can stand as a test -/
def tOk : E → Bool
  | .ite _ _ _ => false
  | .and es => tOks es
  | .or es => tOks es
  | .not a => tOk a
  | _ => true
def tOks : List E → Bool
  | [] => true
  | e :: es => tOk e && tOks es
end
end Mini
end

section
set_option Elab.async false
set_option linter.all false
set_option maxRecDepth 100000
set_option maxHeartbeats 1000000
/-! M8: an expression of the program that is an expression of the small language evaluates as that one says. -/
namespace Mini
open PySem L2

section
variable {g : Gx} {K : PySem.W.Frag} {c : C0} {W : WX} {σ : L2.St}
theorem post.now {β : Type} {Hf H : Hp} {ρ : En} {a : β} {k : β → En → Hp → Hp → Prop} (h : post g K c W σ Hf k (.ok a ρ)) (r : R K c ρ σ Hf H) : k a ρ Hf H := h H Hf r (Same.refl _)
/-- the reading of a part, from the reading of the whole -/
theorem post.run {γ : Type} {Hf H : Hp} {ρ : En} {e : EvF Rv} {f : Rv → En → O γ} {k : γ → En → Hp → Hp → Prop} {Q : VK} (r : R K c ρ σ Hf H) (h : post g K c W σ Hf k ((e ρ).bind f))
    (hq : ∀ rv ρ1 Hf1 H1 v, R K c ρ1 σ Hf1 H1 → Same Hf Hf1 → RvR K σ Hf1 v rv → post g K c W σ Hf1 k (f rv ρ1) → Q v H1) : rdE g K c W e σ H Q :=
  ⟨Hf, ρ, r, h.bind fun rv ρ1 Hf1 H1 r1 s1 h1 v hv => hq rv ρ1 Hf1 H1 v r1 s1 hv h1⟩
theorem post.runT {γ : Type} {Hf H : Hp} {ρ : En} {e : EvF Bool} {f : Bool → En → O γ} {k : γ → En → Hp → Hp → Prop} {Q : Bool → Hp → Prop} (r : R K c ρ σ Hf H) (h : post g K c W σ Hf k ((e ρ).bind f))
    (hq : ∀ b ρ1 Hf1 H1, R K c ρ1 σ Hf1 H1 → Same Hf Hf1 → post g K c W σ Hf1 k (f b ρ1) → Q b H1) : rdT g K c W e σ H Q :=
  ⟨Hf, ρ, r, h.bind fun b ρ1 Hf1 H1 r1 s1 h1 => hq b ρ1 Hf1 H1 r1 s1 h1⟩
theorem post.runA {γ : Type} {Hf H : Hp} {ρ : En} {e : EvF (List Rv)} {f : List Rv → En → O γ} {k : γ → En → Hp → Hp → Prop} {Q : List V → Hp → Prop} (r : R K c ρ σ Hf H) (h : post g K c W σ Hf k ((e ρ).bind f))
    (hq : ∀ rs ρ1 Hf1 H1 vs, R K c ρ1 σ Hf1 H1 → Same Hf Hf1 → RvsR K σ Hf1 vs rs → post g K c W σ Hf1 k (f rs ρ1) → Q vs H1) : rdA g K c W e σ H Q :=
  ⟨Hf, ρ, r, h.bind fun rs ρ1 Hf1 H1 r1 s1 h1 vs hv => hq rs ρ1 Hf1 H1 vs r1 s1 hv h1⟩
abbrev kE (K : PySem.W.Frag) (σ : L2.St) (Q : VK) : Rv → En → Hp → Hp → Prop := fun rv _ Hf' H' => ∀ v, RvR K σ Hf' v rv → Q v H'
/-- the end by an operation: its answer is what is wanted -/
theorem post.fin {Hf H : Hp} {ρ : En} {o : Option D} {Q : VK} (h : post g K c W σ Hf (kE K σ Q) (O.opt (o.map .d) ρ)) (r : R K c ρ σ Hf H) : ∃ d, o = some d ∧ Post K Hf H Q d := by
  obtain ⟨z, ez, h5⟩ := h.opt
  obtain ⟨d, hd, rfl⟩ := omap ez
  exact ⟨d, hd, fun v H' Hf' adv rep => h5 H' Hf' (r.adv adv) adv.f v rep⟩
theorem post.finB {Hf H : Hp} {ρ : En} {o : Option Bool} {Q : VK} (h : post g K c W σ Hf (kE K σ Q) (O.opt (o.map fun z => .d (.bl z)) ρ)) (r : R K c ρ σ Hf H) : ∃ b, o = some b ∧ Post K Hf H Q (.bl b) := by
  obtain ⟨z, ez, h5⟩ := h.opt
  obtain ⟨d, hd, rfl⟩ := omap ez
  exact ⟨d, hd, fun v H' Hf' adv rep => h5 H' Hf' (r.adv adv) adv.f v rep⟩
theorem post.okd {Hf H : Hp} {ρ : En} {d : D} {Q : VK} (h : post g K c W σ Hf (kE K σ Q) (.ok (.d d) ρ)) (r : R K c ρ σ Hf H) : Post K Hf H Q d := fun v H' Hf' adv rep => h H' Hf' (r.adv adv) adv.f v rep
theorem post.asd {γ : Type} {Hf : Hp} {ρ : En} {rv : Rv} {f : D → En → O γ} {k : γ → En → Hp → Hp → Prop} (h : post g K c W σ Hf k ((O.opt (asD rv) ρ).bind f)) : ∃ d, rv = .d d ∧ post g K c W σ Hf k (f d ρ) := by
  obtain ⟨d, e, h2⟩ := h.optb
  exact ⟨d, asD_eq e, h2⟩
theorem post.asi {γ : Type} {Hf : Hp} {ρ : En} {x : D} {f : Int → En → O γ} {k : γ → En → Hp → Hp → Prop} (h : post g K c W σ Hf k ((O.opt (asI x) ρ).bind f)) : ∃ i, x = .int i ∧ post g K c W σ Hf k (f i ρ) := by
  obtain ⟨d, e, h2⟩ := h.optb
  exact ⟨d, asI_eq e, h2⟩
theorem post.asb {γ : Type} {Hf : Hp} {ρ : En} {x : D} {f : Bool → En → O γ} {k : γ → En → Hp → Hp → Prop} (h : post g K c W σ Hf k ((O.opt (asB x) ρ).bind f)) : ∃ i, x = .bl i ∧ post g K c W σ Hf k (f i ρ) := by
  obtain ⟨d, e, h2⟩ := h.optb
  exact ⟨d, asB_eq e, h2⟩
theorem rep_int {Hf : Hp} {v : V} {i : Int} (h : Rep K Hf v (.int i)) : v = .int i := by cases h; rfl
theorem rep_bl {Hf : Hp} {v : V} {i : Bool} (h : Rep K Hf v (.bl i)) : v = .bl i := by cases h; rfl
/-- a test's reading, from its value's -/
theorem rdT_E {H : Hp} {e : E} {Q : Bool → Hp → Prop} (h : rdT g K c W (evT e) σ H Q) : rdE g K c W (evE e) σ H (fun x H1 => ∃ k, x = .bl k ∧ Q k H1) := by
  obtain ⟨Hf, ρ, r, h⟩ := h
  refine post.run r h fun rv ρ1 Hf1 H1 v r1 s1 hv h1 => ?_
  obtain ⟨d, rfl, h2⟩ := h1.asd
  obtain ⟨b, e, h3⟩ := h2.opt
  cases asB_eq e
  exact ⟨b, rep_bl hv, h3 H1 Hf1 r1 (Same.refl _)⟩
end

theorem and3 {a b : Bool} (h : (a && b) = true) : a = true ∧ b = true := Bool.and_eq_true_iff.mp h
theorem vis_ok {X : Cx} {x : Str} (h : visB X.env.scope x = true) : Vis X.env.scope x ∧ (x == ("__debug__" : Str)) = false ∧ (x == ("__classdict__" : Str)) = false := by
  obtain ⟨h, h3⟩ := and3 h
  obtain ⟨h1, h2⟩ := and3 h
  refine ⟨?_, by simpa using h2, by simpa using h3⟩
  split at h1
  · exact .inl (by assumption)
  · exact .inr (.inl (by assumption))
  · exact .inr (.inr (by assumption))
  · cases h1
theorem gl_ok {X : Cx} {x : Str} (h : glB X.env.scope x = true) : Gl X x ∧ (x == ("__debug__" : Str)) = false ∧ x ≠ "__name__" := by
  obtain ⟨h, h3⟩ := and3 h
  obtain ⟨h1, h2⟩ := and3 h
  refine ⟨?_, by simpa using h2, by simpa using h3⟩
  split at h1
  · assumption
  · cases h1
theorem star_plain {e : Expr} {es : List Expr} {env : PySem.Env} (h : plainB e = true) : starEach (e :: es) env = (false, eval e env) :: starEach es env := by
  cases e <;> first | rfl | cases h
theorem plainIx_of {e : Expr} (h : plainB e = true) : PlainIx e := by
  intro o i
  cases e <;> first | rfl | cases h
theorem notSet_of {e : Expr} {env : PySem.Env} (h : plainB e = true) (x : Value) : foldedSetIterable e env x = pure x := by
  cases e <;> first | rfl | cases h
theorem mark_of {e : Expr} {op : CmpOp} (h : plainB e = true) : behindInMarks op e = false := by
  cases e <;> first | rfl | cases h
theorem base_ok {e : Expr} {name : Str} {env : PySem.Env} {whole : Sem Value} (h : baseB e = true) : attributeBase e name env whole = whole := by
  unfold attributeBase
  cases e <;> try rfl
  rename_i f args kws pos
  cases f <;> try rfl
  rename_i id p
  cases args <;> try rfl
  cases kws <;> try rfl
  have h : (!(id == ("super" : Str))) = true := h
  simp only
  rw [show (id != ("super" : Str)) = true from h]
  rfl
theorem bop_ok {o : BOp} {op : Operator} (h : bopB o op = true) : op = bopP o := by cases o <;> cases op <;> first | rfl | cases h
theorem cop_ok {o : COp} {op : CmpOp} (h : copB o op = true) : op = copP o := by cases o <;> cases op <;> first | rfl | cases h
theorem const_ok {K : PySem.W.Frag} {Hf : Hp} {X : Cx} {d : D} {c : Const} {k : Nat} {pos : Pos} (h : constB d c = true) : ∃ v, PE X (.Constant c k pos) (tC v) ∧ Rep K Hf v d := by
  cases d <;> cases c <;> first | (cases h; done) | skip
  · exact ⟨.non, pe_non, .non⟩
  · rename_i b b'
    have e : b = b' := by simpa [constB] using h
    subst e
    exact ⟨.bl _, pe_bl, .bl _⟩
  · rename_i b b'
    have e : b = b' := by simpa [constB] using h
    subst e
    exact ⟨.int _, pe_int, .int _⟩
  · rename_i cs s
    obtain ⟨h1, h2⟩ := and3 h
    have e : s.cps.toList = cs := of_decide_eq_true h1
    have e2 : s = sOf cs := by rw [← e] <;> rfl
    rw [e2]
    exact ⟨.str _, pe_str, .str h2⟩
end Mini
end

section
set_option Elab.async false
set_option linter.all false
set_option maxRecDepth 100000
set_option maxHeartbeats 1000000
/-! M9: frames behind calls, within comprehensions; what is walked. -/
namespace Mini
open PySem L2

section
variable {K : PySem.W.Frag} {c : C0} {ρ ρ2 : En} {σ σ2 : L2.St} {Hf H Hf' H' Hf0 H0 : Hp}
/-! ### wiped slots -/
theorem wipe_in {i : Nat} : ∀ {vs : List Nat}, i ∈ vs → i < σ.length → (wipe σ vs)[i]? = some none
  | v :: vs, h, hl => by
    show ((wipe σ vs).set v none)[i]? = some none
    by_cases e : v = i
    · subst e
      exact List.getElem?_set_self (by rw [wipe_length]; exact hl)
    · rw [List.getElem?_set_ne e]
      rcases List.mem_cons.mp h with h | h
      · exact absurd h.symm e
      · exact wipe_in h hl
theorem wipeE_length (ρ : En) : ∀ vs : List Nat, (wipeE ρ vs).length = ρ.length
  | [] => rfl
  | v :: vs => by show ((wipeE ρ vs).set v .no).length = _; rw [List.length_set, wipeE_length ρ vs]
theorem wipeE_out {i : Nat} : ∀ {vs : List Nat}, i ∉ vs → (wipeE ρ vs)[i]? = ρ[i]?
  | [], _ => rfl
  | v :: vs, h => by
    show ((wipeE ρ vs).set v .no)[i]? = _
    have hv : v ≠ i := fun e => h (by rw [e]; exact List.mem_cons_self ..)
    rw [List.getElem?_set_ne hv]
    exact wipeE_out fun z => h (List.mem_cons_of_mem _ z)
theorem wipeE_in {i : Nat} : ∀ {vs : List Nat}, i ∈ vs → ∀ s, (wipeE ρ vs)[i]? = some s → s = .no
  | v :: vs, h, s, e => by
    have e : ((wipeE ρ vs).set v .no)[i]? = some s := e
    by_cases hv : v = i
    · subst hv
      have hlt : v < (wipeE ρ vs).length := by
        have := (List.getElem?_eq_some_iff.mp e).1
        rw [List.length_set] at this; exact this
      rw [List.getElem?_set_self hlt] at e
      cases e; rfl
    · rw [List.getElem?_set_ne hv] at e
      rcases List.mem_cons.mp h with h | h
      · exact absurd h.symm hv
      · exact wipeE_in h s e
theorem backE_length (ρ0 ρ : En) : ∀ vs : List Nat, (backE ρ0 ρ vs).length = ρ.length
  | [] => rfl
  | v :: vs => by show ((backE ρ0 ρ vs).set v _).length = _; rw [List.length_set, backE_length ρ0 ρ vs]
theorem backE_out {ρ0 : En} {i : Nat} : ∀ {vs : List Nat}, i ∉ vs → (backE ρ0 ρ vs)[i]? = ρ[i]?
  | [], _ => rfl
  | v :: vs, h => by
    show ((backE ρ0 ρ vs).set v _)[i]? = _
    have hv : v ≠ i := fun e => h (by rw [e]; exact List.mem_cons_self ..)
    rw [List.getElem?_set_ne hv]
    exact backE_out fun z => h (List.mem_cons_of_mem _ z)
theorem backE_in {ρ0 : En} {i : Nat} : ∀ {vs : List Nat}, i ∈ vs → ∀ s, (backE ρ0 ρ vs)[i]? = some s → s = ρ0.getD i .no
  | v :: vs, h, s, e => by
    have e : ((backE ρ0 ρ vs).set v (ρ0.getD v .no))[i]? = some s := e
    by_cases hv : v = i
    · subst hv
      have hlt : v < (backE ρ0 ρ vs).length := by
        have := (List.getElem?_eq_some_iff.mp e).1
        rw [List.length_set] at this; exact this
      rw [List.getElem?_set_self hlt] at e
      cases e; rfl
    · rw [List.getElem?_set_ne hv] at e
      rcases List.mem_cons.mp h with h | h
      · exact absurd h.symm hv
      · exact backE_in h s e
theorem free_not {vs : List Nat} (h : freeE ρ vs = true) {i : Nat} {ds : List D} (e : ρ[i]? = some (Sl.own ds)) : i ∉ vs := fun hi => by
  have q := List.all_eq_true.mp h i hi
  rw [e] at q
  cases q
theorem free_notK {vs : List Nat} (h : freeE ρ vs = true) {i : Nat} {s : Sl} {b : Bool} (e : ρ[i]? = some s) (k : sKind s = some b) : i ∉ vs := fun hi => by
  have q := List.all_eq_true.mp h i hi
  rw [e] at q
  cases s <;> first | (cases k; done) | (cases q; done)
theorem free_notX {vs : List Nat} (h : freeE ρ vs = true) {i x : Nat} {d : D} (e : ρ[i]? = some (Sl.exn x d)) : i ∉ vs := fun hi => by
  have q := List.all_eq_true.mp h i hi
  rw [e] at q
  cases q
theorem ft_wipe {vs : List Nat} {i : Nat} (h : i ∉ vs) : ft H (wipeE ρ vs) (L2.wipe σ vs) i = ft H ρ σ i := by
  show footO H (wipeE ρ vs)[i]? (L2.wipe σ vs)[i]? = footO H ρ[i]? σ[i]?
  rw [wipeE_out h, wipe_out h]
theorem ft_wiped {vs : List Nat} {i : Nat} (h : i ∈ vs) : ft H (wipeE ρ vs) σ i = [] := by
  show footO H (wipeE ρ vs)[i]? σ[i]? = []
  cases e : (wipeE ρ vs)[i]? with
  | none => rfl
  | some s => cases wipeE_in h _ e; rfl
theorem R.wipe (r : R K c ρ σ Hf H) {vs : List Nat} (h : freeE ρ vs = true) : R K c (wipeE ρ vs) (L2.wipe σ vs) Hf H := by
  have mem : ∀ {i a}, a ∈ ft H (wipeE ρ vs) (L2.wipe σ vs) i → i ∉ vs ∧ a ∈ ft H ρ σ i := fun {i a} m => by
    by_cases hi : i ∈ vs
    · rw [ft_wiped hi] at m; cases m
    · rw [ft_wipe hi] at m; exact ⟨hi, m⟩
  refine ⟨by rw [wipe_length, wipeE_length]; exact r.len, fun i s o h1 h2 => ?_, fun i a m => r.may i a (mem m).2, fun i j a m1 m2 => r.inj i j a (mem m1).2 (mem m2).2, r.sub, r.f0, r.keep, r.live, r.out, fun i p hp => ?_⟩
  · by_cases hi : i ∈ vs
    · cases wipeE_in hi _ h1; trivial
    · rw [wipeE_out hi] at h1
      rw [wipe_out hi] at h2
      exact r.sl i s o h1 h2
  · obtain ⟨e1, s, e2, e3⟩ := r.par i p hp
    have hi := free_notK h e2 e3
    exact ⟨by rw [wipe_out hi]; exact e1, s, by rw [wipeE_out hi]; exact e2, e3⟩
/-- back from a block -/
theorem R.back (r0 : R K c ρ σ Hf0 H0) (s0 : Same Hf0 Hf) (r : R K c ρ2 σ2 Hf H) {vs : List Nat} (hw : L2.wipe σ2 vs = L2.wipe σ vs) (h : freeE ρ vs = true) : R K c (backE ρ ρ2 vs) σ Hf H := by
  have hl : σ2.length = σ.length := by rw [← wipe_length σ2 vs, hw, wipe_length]
  have sw : ∀ {i}, i ∉ vs → σ2[i]? = σ[i]? := fun {i} hi => by rw [← wipe_out (σ := σ2) hi, hw, wipe_out hi]
  have inn : ∀ {i s}, i ∈ vs → (backE ρ ρ2 vs)[i]? = some s → s = .no ∨ (ρ[i]? = some s ∧ ∃ d, s = .val d) := fun {i s} hi e => by
    have e2 := backE_in hi _ e
    rw [List.getD_eq_getElem?_getD] at e2
    cases q : ρ[i]? with
    | none => rw [q] at e2; exact .inl e2
    | some z =>
      rw [q] at e2
      have e2 : s = z := e2
      subst e2
      cases s with
      | no => exact .inl rfl
      | val d => exact .inr ⟨rfl, d, rfl⟩
      | own ds => exact absurd hi (free_not h q)
      | exn x d => exact absurd hi (free_notX h q)
      | tr t => exact absurd hi (free_notK h q (b := true) rfl)
  have mem : ∀ {i a}, a ∈ ft H (backE ρ ρ2 vs) σ i → a ∈ ft H ρ2 σ2 i := fun {i a} m => by
    have m : a ∈ footO H (backE ρ ρ2 vs)[i]? σ[i]? := m
    by_cases hi : i ∈ vs
    · cases e : (backE ρ ρ2 vs)[i]? with
      | none => rw [e] at m; cases m
      | some s =>
        rw [e] at m
        rcases inn hi e with rfl | ⟨_, d, rfl⟩ <;> cases m
    · rw [backE_out hi, ← sw hi] at m; exact m
  refine ⟨by rw [backE_length, ← r.len, hl], fun i s o h1 h2 => ?_, fun i a m => r.may i a (mem m), fun i j a m1 m2 => r.inj i j a (mem m1) (mem m2), r.sub, r.f0, r.keep, r.live, r.out, fun i p hp => ?_⟩
  · by_cases hi : i ∈ vs
    · rcases inn hi h1 with rfl | ⟨e, d, rfl⟩
      · trivial
      · obtain ⟨v, e1, e2⟩ := r0.val i d e
        rw [e1] at h2
        cases h2
        exact ⟨v, rfl, e2.mono s0⟩
    · rw [backE_out hi] at h1
      rw [← sw hi] at h2
      exact r.sl i s o h1 h2
  · obtain ⟨e1, s, e2, e3⟩ := r0.par i p hp
    have hi := free_notK h e2 e3
    obtain ⟨_, s2, e4, e5⟩ := r.par i p hp
    exact ⟨e1, s2, by rw [backE_out hi]; exact e4, e5⟩

/-! ### behind a call -/
/-- the slots of what is handed over, their kinds, their addresses, all that they own -/
inductive SlA (ρ : En) (σ : L2.St) (H : Hp) : List Nat → List Bool → List Addr → List Addr → Prop
  | nil : SlA ρ σ H [] [] [] []
  | cons {i : Nat} {p : Addr} {s : Sl} {b : Bool} {is : List Nat} {ks : List Bool} {ps fs : List Addr} : ρ[i]? = some s → sKind s = some b → σ[i]? = some (some (.ref p)) → SlA ρ σ H is ks ps fs → SlA ρ σ H (i :: is) (b :: ks) (p :: ps) (ft H ρ σ i ++ fs)
theorem SlA.slot {is : List Nat} {ks : List Bool} {ps fs : List Addr} (h : SlA ρ σ H is ks ps fs) : ∀ i ∈ is, ∃ s b, ρ[i]? = some s ∧ sKind s = some b := by
  induction h with
  | nil => intro p hp; cases hp
  | cons h1 h2 _ _ ih =>
    intro p hp
    rcases List.mem_cons.mp hp with rfl | hp
    · exact ⟨_, _, h1, h2⟩
    · exact ih p hp
theorem SlA.mem {is : List Nat} {ks : List Bool} {ps fs : List Addr} (h : SlA ρ σ H is ks ps fs) : ∀ a, a ∈ fs ↔ ∃ i ∈ is, a ∈ ft H ρ σ i := by
  induction h with
  | nil => intro a; exact ⟨(fun h => by cases h), (fun ⟨_, h, _⟩ => by cases h)⟩
  | @cons i p s b is ks ps fs h1 h2 h3 _ ih =>
    intro a
    rw [List.mem_append, ih]
    constructor
    · rintro (h | ⟨j, hj, h⟩)
      · exact ⟨i, List.mem_cons_self .., h⟩
      · exact ⟨j, List.mem_cons_of_mem _ hj, h⟩
    · rintro ⟨j, hj, h⟩
      rcases List.mem_cons.mp hj with rfl | hj
      · exact .inl h
      · exact .inr ⟨j, hj, h⟩
theorem putO_len : ∀ {is : List Nat} {xs : List (List D)} {ρ ρ' : En}, putO ρ is xs = some ρ' → ρ'.length = ρ.length
  | [], [], _, _, h => by cases h; rfl
  | [], _ :: _, _, _, h => by cases h
  | _ :: _, [], _, _, h => by cases h
  | i :: is, x :: xs, ρ, ρ', h => by
    unfold putO at h
    split at h
    · split at h
      · rw [putO_len h, List.length_set]
      · cases h
    · split at h
      · rw [putO_len h, List.length_set]
      · cases h
    · cases h
theorem putO_out : ∀ {is : List Nat} {xs : List (List D)} {ρ ρ' : En}, putO ρ is xs = some ρ' → ∀ j, j ∉ is → ρ'[j]? = ρ[j]?
  | [], [], _, _, h, j, _ => by cases h; rfl
  | [], _ :: _, _, _, h, _, _ => by cases h
  | _ :: _, [], _, _, h, _, _ => by cases h
  | i :: is, x :: xs, ρ, ρ', h, j, hj => by
    have ne : i ≠ j := fun e => hj (by rw [e]; exact List.mem_cons_self ..)
    have nt : j ∉ is := fun z => hj (List.mem_cons_of_mem _ z)
    unfold putO at h
    split at h
    · split at h
      · rw [putO_out h j nt, List.getElem?_set_ne ne]
      · cases h
    · split at h
      · rw [putO_out h j nt, List.getElem?_set_ne ne]
      · cases h
    · cases h
/-- what stands in the slots of handed things -/
theorem putO_in (K : PySem.W.Frag) (c : C0) (Hf' H' : Hp) : ∀ {is : List Nat} {ks : List Bool} {ps fs : List Addr} {xs : List (List D)} {fs' : List Addr} {ρ0 ρ ρ' : En}, SlA ρ0 σ H is ks ps fs → OutR K Hf' H' ks ps xs fs' → is.Nodup → (∀ i ∈ is, ρ[i]? = ρ0[i]?) → putO ρ is xs = some ρ' →
    (∀ i ∈ is, ∃ s s' o, ρ0[i]? = some s ∧ ρ'[i]? = some s' ∧ σ[i]? = some o ∧ sKind s' = sKind s ∧ SlotR K c Hf' H' s' o ∧ ∀ a ∈ footO H' (some s') (some o), a ∈ fs') ∧ ∀ i ∈ is, ∀ j ∈ is, ∀ a, a ∈ ft H' ρ' σ i → a ∈ ft H' ρ' σ j → i = j
  | _, _, _, _, _, _, _, _, _, .nil, _, _, _, _ => ⟨(fun i hi => by cases hi), (fun i hi => by cases hi)⟩
  | _, _, _, _, _, _, ρ0, ρ, ρ', .cons (i := i) (p := p) (s := s) (is := is) h1 h2 h3 t, o, nd, hl, e => by
    obtain ⟨n1, n2⟩ := List.nodup_cons.mp nd
    have hi := hl i (List.mem_cons_self ..)
    have hlt : i < ρ.length := (List.getElem?_eq_some_iff.mp (hi.trans h1)).1
    have rest : ∀ {s'}, ∀ j ∈ is, (ρ.set i s')[j]? = ρ0[j]? := fun {s'} j hj => by
      have ne : i ≠ j := fun z => n1 (z ▸ hj)
      rw [List.getElem?_set_ne ne]
      exact hl j (List.mem_cons_of_mem _ hj)
    have both : ∀ {s' : Sl} {fs1 fs2 : List Addr} {xs' : List (List D)}, putO (ρ.set i s') is xs' = some ρ' → sKind s' = sKind s → SlotR K c Hf' H' s' (some (.ref p)) → footO H' (some s') (some (some (.ref p))) = fs1 → (∀ a ∈ fs1, a ∉ fs2) →
        ((∀ j ∈ is, ∃ s s' o, ρ0[j]? = some s ∧ ρ'[j]? = some s' ∧ σ[j]? = some o ∧ sKind s' = sKind s ∧ SlotR K c Hf' H' s' o ∧ ∀ a ∈ footO H' (some s') (some o), a ∈ fs2) ∧ ∀ i ∈ is, ∀ j ∈ is, ∀ a, a ∈ ft H' ρ' σ i → a ∈ ft H' ρ' σ j → i = j) →
        (∀ j ∈ i :: is, ∃ s s' o, ρ0[j]? = some s ∧ ρ'[j]? = some s' ∧ σ[j]? = some o ∧ sKind s' = sKind s ∧ SlotR K c Hf' H' s' o ∧ ∀ a ∈ footO H' (some s') (some o), a ∈ fs1 ++ fs2) ∧ ∀ k ∈ i :: is, ∀ j ∈ i :: is, ∀ a, a ∈ ft H' ρ' σ k → a ∈ ft H' ρ' σ j → k = j := fun {s' fs1 fs2 xs'} e k q f d ih => by
      have ei : ρ'[i]? = some s' := by rw [putO_out e i n1]; exact List.getElem?_set_self hlt
      have fi : ft H' ρ' σ i = fs1 := by show footO H' ρ'[i]? σ[i]? = _; rw [ei, h3]; exact f
      have fj : ∀ j ∈ is, ∀ a ∈ ft H' ρ' σ j, a ∈ fs2 := fun j hj a ha => by
        obtain ⟨_, s2, o2, _, e2, e3, _, _, q⟩ := ih.1 j hj
        refine q a ?_
        have ha : a ∈ footO H' ρ'[j]? σ[j]? := ha
        rw [e2, e3] at ha
        exact ha
      refine ⟨fun j hj => ?_, fun k1 hk j hj a m1 m2 => ?_⟩
      · rcases List.mem_cons.mp hj with rfl | hj
        · exact ⟨s, s', _, h1, ei, h3, k, q, fun a ha => List.mem_append_left _ (by rw [← f]; exact ha)⟩
        · obtain ⟨t, t', o, w1, w2, w3, w4, w5, w6⟩ := ih.1 j hj
          exact ⟨t, t', o, w1, w2, w3, w4, w5, fun a ha => List.mem_append_right _ (w6 a ha)⟩
      · rcases List.mem_cons.mp hk with rfl | hk
        · rcases List.mem_cons.mp hj with rfl | hj
          · rfl
          · rw [fi] at m1
            exact absurd (fj j hj a m2) (d a m1)
        · rcases List.mem_cons.mp hj with rfl | hj
          · rw [fi] at m2
            exact absurd (fj _ ‹k1 ∈ is› a m1) (d a m2)
          · exact ih.2 k1 ‹k1 ∈ is› j hj a m1 m2
    cases o with
    | own k1 k2 k3 k4 k5 k6 =>
      have hs : ∃ y, s = .own y := by cases s <;> first | exact ⟨_, rfl⟩ | (cases h2; done)
      obtain ⟨y, rfl⟩ := hs
      unfold putO at e
      rw [hi, h1] at e
      simp only at e
      rw [if_pos k4] at e
      exact both e rfl ⟨_, _, rfl, k1, k2, k3, k4⟩ (fs1 := [p]) rfl (fun a ha => by cases List.mem_singleton.mp ha; exact k6) (putO_in K c Hf' H' t k5 n2 rest e)
    | tr k1 k2 k3 k4 k5 =>
      have hs : ∃ y, s = .tr y := by cases s <;> first | exact ⟨_, rfl⟩ | (cases h2; done)
      obtain ⟨y, rfl⟩ := hs
      unfold putO at e
      rw [hi, h1] at e
      simp only at e
      exact both e rfl ⟨k1, _, rfl, k2, k3⟩ rfl k5 (putO_in K c Hf' H' t k4 n2 rest e)
theorem R.call {ρ' : En} (r : R K c ρ σ Hf H) {is : List Nat} {ks : List Bool} {ps fs fs' : List Addr} {outs : List (List D)} (A : AdvM fs Hf H Hf' H') (S : SlA ρ σ H is ks ps fs) (nd : is.Nodup) (O : OutR K Hf' H' ks ps outs fs') (hn : ∀ a ∈ fs', a ∈ fs ∨ H a = none) (e : putO ρ is outs = some ρ') : R K c ρ' σ Hf' H' := by
  obtain ⟨inn, dis⟩ := putO_in K c Hf' H' S O nd (fun _ _ => rfl) e
  have away : ∀ {j}, j ∉ is → ∀ a ∈ ft H ρ σ j, a ∉ fs := fun {j} hj a ha hf => by
    obtain ⟨i, hi, h⟩ := (S.mem a).mp hf
    exact hj (r.inj j i a ha h ▸ hi)
  have fsat : ∀ a ∈ fs, (∃ u, H a = some u ∧ ∀ fs, u ≠ .xd fs) ∧ (c.fs a ∨ c.H a = none) := fun a ha => by
    obtain ⟨i, _, h⟩ := (S.mem a).mp ha
    exact ⟨(r.fat h).1, r.may i a h⟩
  have stay : ∀ {j s o}, j ∉ is → ρ[j]? = some s → σ[j]? = some o → SlotR K c Hf' H' s o ∧ footO H' (some s) (some o) = footO H (some s) (some o) := fun {j s o} hj h1 h2 => by
    have f : ft H ρ σ j = footO H (some s) (some o) := by show footO H ρ[j]? σ[j]? = _; rw [h1, h2]
    refine (r.sl j s o h1 h2).mono A.f (fun a ha => ?_) fun a xs h => A.keep _ _ h fun hf => ?_
    · rw [← f] at ha
      obtain ⟨⟨u, q1, _⟩, q2⟩ := r.fat ha
      have na := away hj a ha
      exact ⟨fun w hw => A.keep a w hw na, A.out a u q1 q2 na⟩
    · obtain ⟨⟨u, q1, q2⟩, _⟩ := fsat a hf
      rw [h] at q1
      cases q1
      exact q2 xs rfl
  have fj : ∀ {j}, j ∉ is → ft H' ρ' σ j = ft H ρ σ j := fun {j} hj => by
    show footO H' ρ'[j]? σ[j]? = footO H ρ[j]? σ[j]?
    rw [putO_out e j hj]
    cases h1 : ρ[j]? with
    | none => rfl
    | some s =>
      obtain ⟨o, h2, _⟩ := r.at h1
      rw [h2]
      exact (stay hj h1 h2).2
  have fi : ∀ {i}, i ∈ is → ∀ a ∈ ft H' ρ' σ i, a ∈ fs' := fun {i} hi a ha => by
    obtain ⟨_, s', o, _, e2, e3, _, _, q⟩ := inn i hi
    have ha : a ∈ footO H' ρ'[i]? σ[i]? := ha
    rw [e2, e3] at ha
    exact q a ha
  have apart : ∀ {i j a}, i ∈ is → j ∉ is → a ∈ ft H' ρ' σ i → a ∈ ft H' ρ' σ j → False := fun {i j a} hi hj m1 m2 => by
    rw [fj hj] at m2
    rcases hn a (fi hi a m1) with h | h
    · exact away hj a m2 h
    · obtain ⟨⟨u, q1, _⟩, _⟩ := r.fat m2
      rw [h] at q1; cases q1
  refine ⟨by rw [putO_len e]; exact r.len, fun j s o h1 h2 => ?_, fun j a h => ?_, fun i j a m1 m2 => ?_, A.sub, r.f0.trans A.f, fun a o h n => ?_, fun a o h => ?_, fun a o h n m => ?_, fun j q h => ?_⟩
  · by_cases hj : j ∈ is
    · obtain ⟨_, s', o', _, e2, e3, _, q, _⟩ := inn j hj
      rw [e2] at h1
      rw [e3] at h2
      cases h1
      cases h2
      exact q
    · rw [putO_out e j hj] at h1
      exact (stay hj h1 h2).1
  · by_cases hj : j ∈ is
    · rcases hn a (fi hj a h) with k | k
      · exact (fsat a k).2
      · cases q : c.H a with
        | none => exact .inr rfl
        | some o =>
          obtain ⟨u, q1⟩ := r.live a o q
          rw [k] at q1; cases q1
    · rw [fj hj] at h
      exact r.may j a h
  · by_cases hi : i ∈ is
    · by_cases hj : j ∈ is
      · exact dis i hi j hj a m1 m2
      · exact (apart hi hj m1 m2).elim
    · by_cases hj : j ∈ is
      · exact (apart hj hi m2 m1).elim
      · rw [fj hi] at m1
        rw [fj hj] at m2
        exact r.inj i j a m1 m2
  · refine A.keep _ _ (r.keep a o h n) fun hp => ?_
    rcases (fsat a hp).2 with q | q
    · exact n q
    · rw [h] at q; cases q
  · obtain ⟨u, q⟩ := r.live a o h
    exact A.live a u q
  · refine A.out a o (r.keep a o h m) (r.out a o h n m) fun hp => ?_
    rcases (fsat a hp).2 with q | q
    · exact m q
    · rw [h] at q; cases q
  · obtain ⟨e1, s, e2, e3⟩ := r.par j q h
    refine ⟨e1, ?_⟩
    by_cases hj : j ∈ is
    · obtain ⟨t, t', _, w1, w2, _, w3, _⟩ := inn j hj
      rw [e2] at w1
      cases w1
      exact ⟨t', w2, w3.trans e3⟩
    · exact ⟨s, by rw [putO_out e j hj]; exact e2, e3⟩

/-- the arguments of a call, by their modes -/
theorem splitA_ok (r : R K c ρ σ Hf H) : ∀ {md : List Bool} {rs : List Rv} {vs : List V} {ds : List D} {is : List Nat}, RvsR K σ Hf vs rs → splitA ρ md rs = some (ds, is) → is.Nodup → ∃ ps fs, ArgR K Hf H md vs ds ps fs ∧ SlA ρ σ H is (kindsOf md ds) ps fs
  | [], [], _, ds, is, .nil, e, _ => by cases e; exact ⟨[], [], .nil, .nil⟩
  | [], _ :: _, _, ds, is, _, e, _ => by cases e
  | false :: md, [], _, ds, is, _, e, _ => by cases e
  | true :: md, [], _, ds, is, _, e, _ => by cases e
  | false :: md, .o _ :: _, _, ds, is, _, e, _ => by cases e
  | true :: md, .d _ :: _, _, ds, is, _, e, _ => by cases e
  | false :: md, .d d :: rs, _, ds, is, .cons h t, e, nd => by
    unfold splitA at e
    cases e1 : splitA ρ md rs with
    | none => rw [e1] at e; cases e
    | some z =>
      obtain ⟨ds', is'⟩ := z
      rw [e1] at e
      cases e
      obtain ⟨ps, fs, a1, a2⟩ := splitA_ok r t e1 nd
      exact ⟨ps, fs, .val h a1, a2⟩
  | true :: md, .o i :: rs, _, ds, is, .cons (v := v) h t, e, nd => by
    unfold splitA at e
    have h : σ[i]? = some (some v) := h
    cases e0 : ρ[i]? with
    | none => rw [e0] at e; cases e
    | some sl =>
      cases e1 : splitA ρ md rs with
      | none => rw [e0, e1] at e; cases sl <;> cases e
      | some z =>
        obtain ⟨ds', is'⟩ := z
        rw [e0, e1] at e
        have away : ∀ {ps fs}, is = i :: is' → SlA ρ σ H is' (kindsOf md ds') ps fs → ∀ a ∈ ft H ρ σ i, a ∉ fs := fun {ps fs} ei S a ha hf => by
          obtain ⟨j, hj, q⟩ := (S.mem a).mp hf
          have := r.inj i j a ha q
          rw [ei] at nd
          exact (List.nodup_cons.mp nd).1 (this ▸ hj)
        cases sl with
        | no => cases e
        | val _ => cases e
        | exn _ _ => cases e
        | own x =>
          cases e
          obtain ⟨ps, fs, a1, a2⟩ := splitA_ok r t e1 (List.nodup_cons.mp nd).2
          obtain ⟨p, xs, s1, k1, k2, k3, k4, _⟩ := r.own i x e0
          rw [h] at s1
          cases s1
          have f := ft_own (H := H) e0 h
          have S := SlA.cons (H := H) (b := false) e0 rfl h a2
          rw [f] at S
          exact ⟨p :: ps, p :: fs, .own k1 k2 k3 k4 a1 (away rfl a2 p (by rw [f]; exact List.mem_singleton.mpr rfl)), S⟩
        | tr y =>
          cases e
          obtain ⟨ps, fs, a1, a2⟩ := splitA_ok r t e1 (List.nodup_cons.mp nd).2
          obtain ⟨w, s1, k0, k1, k2, _⟩ := r.tre i y e0
          rw [h] at s1
          cases s1
          have hp : ∃ p, v = .ref p := by
            cases y <;> first | (cases k0; done) | skip
            · obtain ⟨p, _, e, _⟩ := k1; exact ⟨p, e⟩
            · obtain ⟨p, _, e, _⟩ := k1; exact ⟨p, e⟩
            · obtain ⟨_, p, _, _, e, _⟩ := k1; exact ⟨p, e⟩
          obtain ⟨p, rfl⟩ := hp
          have f := ft_tr (H := H) e0 h
          have S := SlA.cons (H := H) (b := true) e0 rfl h a2
          rw [f] at S
          refine ⟨p :: ps, TFoot H y (.ref p) ++ fs, .tr k0 k1 k2 a1 (fun a ha => away rfl a2 a (by rw [f]; exact ha)), ?_⟩
          show SlA ρ σ H (i :: is') (isTr y :: kindsOf md ds') _ _
          rw [k0]
          exact S
end
end Mini
end

section
set_option Elab.async false
set_option linter.all false
set_option maxRecDepth 100000
set_option maxHeartbeats 1000000
/-! M10: targets, what is walked, comprehensions. -/
namespace Mini
open PySem L2

section
variable {K : PySem.W.Frag} {c : C0} {ρ ρ' : En} {σ : L2.St} {Hf H : Hp}
theorem setV_ok {i : Nat} {d : D} {v : V} (r : R K c ρ σ Hf H) (e : setV ρ i d = some ρ') (h : Rep K Hf v d) : R K c ρ' (σ.set i (some v)) Hf H ∧ ρ' = ρ.set i (.val d) ∧ ∃ s, ρ[i]? = some s ∧ sKind s = none := by
  unfold setV at e
  cases q : ρ[i]? with
  | none => rw [q] at e; cases e
  | some s =>
    rw [q] at e
    have hn : sKind s = none := by cases s <;> first | rfl | (cases e; done)
    have e2 : ρ' = ρ.set i (.val d) := by
      cases s with
      | own ds => cases e
      | tr ds => cases e
      | no => cases e; rfl
      | val _ => cases e; rfl
      | exn _ _ => cases e; rfl
    refine ⟨?_, e2, s, rfl, hn⟩
    rw [e2]
    refine r.setV (fun p hp => ?_) h
    obtain ⟨_, s2, h2, h3⟩ := r.par i p hp
    rw [q] at h2
    cases h2
    rw [hn] at h3
    cases h3
def gNs : List Nat → TGs
  | [] => gNil
  | i :: is => gCons (gName i) (gNs is)
def gT (K : PySem.W.Frag) : Tgt → TG
  | .n i => gName i
  | .t is => gTup K is.length (gNs is)
theorem gNs_ok {Q : L2.St → Hp → Prop} : ∀ {is : List Nat} {ρ ρ' : En} {σ : L2.St} {vs : List V} {ds : List D}, R K c ρ σ Hf H → bindN ρ is ds = some ρ' → Reps K Hf vs ds →
    (∀ σ', R K c ρ' σ' Hf H → (∀ own : List Nat, (∀ i ∈ is, i ∈ own) → L2.wipe σ' own = L2.wipe σ own) → Q σ' H) → gNs is vs σ H Q
  | [], ρ, ρ', σ, _, [], r, e, .nil, h => by
    cases e
    exact ⟨rfl, h σ r fun _ _ => rfl⟩
  | [], ρ, ρ', σ, _, _ :: _, r, e, _, h => by cases e
  | _ :: _, ρ, ρ', σ, _, [], r, e, _, h => by cases e
  | i :: is, ρ, ρ', σ, _, d :: ds, r, e, .cons (v := v) (vs := vs) h1 t, h => by
    unfold bindN at e
    cases q : setV ρ i d with
    | none => rw [q] at e; cases e
    | some ρ1 =>
      rw [q] at e
      obtain ⟨r1, _⟩ := setV_ok r q h1
      refine ⟨v, vs, rfl, gNs_ok r1 e t fun σ' r' w => h σ' r' fun own ho => ?_⟩
      rw [w own fun j hj => ho j (List.mem_cons_of_mem _ hj)]
      exact wipe_set (ho i (List.mem_cons_self ..))
where
  wipe_set {i : Nat} {v : V} {σ : L2.St} : ∀ {own : List Nat}, i ∈ own → L2.wipe (σ.set i (some v)) own = L2.wipe σ own := fun {own} h => by
    refine List.ext_getElem? fun j => ?_
    by_cases hj : j ∈ own
    · by_cases hl : j < σ.length
      · rw [wipe_in hj (by rw [List.length_set]; exact hl), wipe_in hj hl]
      · rw [List.getElem?_eq_none (by rw [wipe_length, List.length_set]; omega), List.getElem?_eq_none (by rw [wipe_length]; omega)]
    · rw [wipe_out hj, wipe_out hj, List.getElem?_set_ne fun e => hj (by rw [← e]; exact h)]
theorem gT_ok {Q : L2.St → Hp → Prop} {t : Tgt} {d : D} {v : V} (r : R K c ρ σ Hf H) (e : bindT t d ρ = some ρ') (h : Rep K Hf v d)
    (hq : ∀ σ', R K c ρ' σ' Hf H → (∀ own : List Nat, (∀ i ∈ tgOwn t, i ∈ own) → L2.wipe σ' own = L2.wipe σ own) → Q σ' H) : gT K t v σ H Q := by
  cases t with
  | n i =>
    obtain ⟨r1, _⟩ := setV_ok r e h
    exact hq _ r1 fun own ho => gNs_ok.wipe_set (ho i (List.mem_cons_self ..))
  | t is =>
    cases h with
    | tup h1 h2 h3 =>
      rename_i ds
      refine ⟨_, _, rfl, sqT_mono r.sub h1.t, ?_, gNs_ok r e h2 hq⟩
      have : ∀ {is : List Nat} {ρ ρ' : En} {ds : List D}, bindN ρ is ds = some ρ' → ds.length = is.length := fun {is} => by
        induction is with
        | nil => intro ρ ρ' ds e; cases ds with
          | nil => rfl
          | cons _ _ => cases e
        | cons i is ih => intro ρ ρ' ds e; cases ds with
          | nil => cases e
          | cons d ds =>
            unfold bindN at e
            cases q : setV ρ i d with
            | none => rw [q] at e; cases e
            | some ρ1 => rw [q] at e; rw [List.length_cons, List.length_cons, ih e]
      rw [h2.length]
      exact this e
    | non => cases e
    | bl _ => cases e
    | int _ => cases e
    | str _ => cases e
    | lst _ _ _ => cases e
    | dic _ _ _ _ => cases e
    | ob _ _ _ _ _ => cases e
end
theorem tg_ok {X : Cx} {own : Scope} {i : Nat} {e : Expr} (hN : X.N.Nodup) (h : tgB own X.N X.env.scope i e = true) (hf : ∀ x, own.names.lookup x = some .cell → X.fn x = true) : PG X e (gName i) := by
  unfold tgB at h
  split at h
  · rename_i x pos
    obtain ⟨h1, h2⟩ := and3 h
    have h1 := of_decide_eq_true h1
    split at h2
    · rename_i hl
      exact pg_name hN h1 (.inl hl) (.inr hl)
    · rename_i hl
      split at h2
      · rename_i hc
        exact pg_name hN h1 (.inr hl) (.inl (hf x hc))
      · cases h2
    · cases h2
  · cases h
theorem tgs_ok {X : Cx} {own : Scope} (hN : X.N.Nodup) (hf : ∀ x, own.names.lookup x = some .cell → X.fn x = true) : ∀ {is : List Nat} {es : List Expr}, tgsB own X.N X.env.scope is es = true → PGs X es (gNs is)
  | [], [], _ => pgs_nil
  | [], _ :: _, h => by cases h
  | _ :: _, [], h => by cases h
  | i :: is, e :: es, h => by
    obtain ⟨h, h3⟩ := and3 (show (plainB e && tgB own X.N X.env.scope i e && tgsB own X.N X.env.scope is es) = true from h)
    obtain ⟨h1, h2⟩ := and3 h
    refine pgs_cons (tg_ok hN h2 hf) (tgs_ok hN hf h3) ?_
    cases e <;> first | rfl | cases h1
theorem tgs_each {own : Scope} {N : List Str} {sc : Scope} {env : PySem.Env} : ∀ {is : List Nat} {es : List Expr}, tgsB own N sc is es = true → (assignEach es env).length = is.length ∧ (assignEach es env).findIdx? (·.1) = none
  | [], [], _ => ⟨rfl, rfl⟩
  | [], _ :: _, h => by cases h
  | _ :: _, [], h => by cases h
  | i :: is, e :: es, h => by
    obtain ⟨h, h3⟩ := and3 (show (plainB e && tgB own N sc i e && tgsB own N sc is es) = true from h)
    obtain ⟨h1, h2⟩ := and3 h
    obtain ⟨k1, k2⟩ := tgs_each (env := env) h3
    have e1 : assignEach (e :: es) env = (false, assign e env) :: assignEach es env := by cases e <;> first | rfl | cases h1
    rw [e1]
    exact ⟨by rw [List.length_cons, List.length_cons, k1], by rw [List.findIdx?_cons, k2] <;> rfl⟩
theorem pgT_ok {X : Cx} {own : Scope} {t : Tgt} {e : Expr} (hN : X.N.Nodup) (hc : X.calm = true) (hf : ∀ x, own.names.lookup x = some .cell → X.fn x = true) (h : chkT own X.N X.env.scope t e = true) : PG X e (gT X.K t) := by
  cases t with
  | n i => exact tg_ok hN h hf
  | t is =>
    unfold chkT at h
    simp only at h
    split at h
    · rename_i es k pos
      obtain ⟨k1, k2⟩ := tgs_each (env := X.env) h
      exact pg_tup hc (tgs_ok hN hf h) k1 k2
    · cases h

/-! ### what is walked -/
structure ItOk (K : PySem.W.Frag) (J : It) (xs : List D) (Hf : Hp) : Prop where
  go : ∀ (i : Nat) (H : Hp), Same Hf H → i < xs.length → J.go i H
  yld : ∀ (i : Nat) (H : Hp) (x : V) (H' : Hp), Same Hf H → J.yld i H x H' → i < xs.length → H' = H ∧ ∃ d, xs[i]? = some d ∧ Rep K Hf x d
  stop : ∀ (i : Nat) (H : Hp), Same Hf H → i = xs.length → J.stop i H
section
variable {K : PySem.W.Frag} {Hf : Hp}
theorem it_list {a : Addr} {vs : List V} {ds : List D} (h : SqL K Hf a vs) (r : Reps K Hf vs ds) : ItOk K (Itl K a) ds Hf where
  go := fun i H s hi => by
    obtain ⟨v, hv, _⟩ := r.get (List.getElem?_eq_getElem hi)
    exact ⟨vs, v, Same.seq s h, hv⟩
  yld := fun i H x H' s y hi => by
    obtain ⟨e, y⟩ := y
    have hx := y vs (Same.seq s h)
    obtain ⟨d, hd, q⟩ := r.getV hx
    exact ⟨e, d, hd, q⟩
  stop := fun i H s e => ⟨vs, Same.seq s h, by rw [r.length, e]; exact Nat.le_refl _⟩
theorem it_tup {a : Addr} {vs : List V} {ds : List D} (h : SqT K Hf a vs) (r : Reps K Hf vs ds) : ItOk K (Itt K a) ds Hf where
  go := fun i H s hi => by
    obtain ⟨v, hv, _⟩ := r.get (List.getElem?_eq_getElem hi)
    exact ⟨vs, v, sqT_mono s h, hv⟩
  yld := fun i H x H' s y hi => by
    obtain ⟨e, y⟩ := y
    have hx := y vs (sqT_mono s h)
    obtain ⟨d, hd, q⟩ := r.getV hx
    exact ⟨e, d, hd, q⟩
  stop := fun i H s e => ⟨vs, sqT_mono s h, by rw [r.length, e]; exact Nat.le_refl _⟩
theorem it_str {cs : List Nat} (ok : okS cs = true) : ItOk K (Its (sOf cs)) (cs.map fun c => .str [c]) Hf where
  go := fun i H s hi => by
    rw [List.length_map] at hi
    show i < (sOf cs).cps.size
    simpa [sOf] using hi
  yld := fun i H x H' s y hi => by
    obtain ⟨e, c, h1, rfl⟩ := y
    have h1 : cs[i]? = some c := by simpa [sOf] using h1
    refine ⟨e, .str [c], by rw [List.getElem?_map, h1] <;> rfl, .str (okS_mk (by show 1 ≤ lim; decide) fun z hz => ?_)⟩
    cases List.mem_singleton.mp hz
    exact okS_all ok _ (List.mem_of_getElem? h1)
  stop := fun i H s e => by
    rw [List.length_map] at e
    show (sOf cs).cps.size ≤ i
    simp [sOf, e]
theorem it_rngD {hi lo : Int} : ItOk K (Itc hi (-1) (hi - lo).toNat) (rngD hi lo) Hf where
  go := fun i H s h => by
    show i < (hi - lo).toNat
    simpa [rngD] using h
  yld := fun i H x H' s y h => by
    obtain ⟨e, rfl⟩ := y
    have h : i < (hi - lo).toNat := by simpa [rngD] using h
    refine ⟨e, .int (hi - i), ?_, ?_⟩
    · simp [rngD, List.getElem?_map, List.getElem?_range h]
    · have q : hi + (i : Int) * -1 = hi - i := by omega
      rw [q]
      exact .int _
  stop := fun i H s e => by
    show (hi - lo).toNat ≤ i
    simp [rngD] at e
    omega
theorem it_rng {lo hi : Int} : ItOk K (Itr lo (hi - lo).toNat) (rng lo hi) Hf where
  go := fun i H s h => by
    show i < (hi - lo).toNat
    simpa [rng] using h
  yld := fun i H x H' s y h => by
    obtain ⟨e, rfl⟩ := y
    have h : i < (hi - lo).toNat := by simpa [rng] using h
    refine ⟨e, .int (lo + i), ?_, .int _⟩
    simp [rng, List.getElem?_map, List.getElem?_range h]
  stop := fun i H s e => by
    show (hi - lo).toNat ≤ i
    simp [rng] at e
    omega
end
def rdSrc (g : Gx) (K : PySem.W.Frag) (c : C0) (W : WX) (s : EvF (List D)) : TI := fun σ H Q => ∃ Hf ρ, R K c ρ σ Hf H ∧ post g K c W σ Hf (fun xs _ Hf' H' => ∀ J, ItOk K J xs Hf' → Q J H') (s ρ)
end Mini
end

section
set_option Elab.async false
set_option linter.all false
set_option maxRecDepth 100000
set_option maxHeartbeats 4000000
/-! M11: expressions. -/
namespace Mini
open PySem L2

theorem PT_of {X : Cx} {g : Gx} {c : C0} {W : WX} {e' : E} {e : Expr} (h : PE X e (rdE g X.K c W (evE e'))) (he : ∀ whole, isTrue e X.env whole = (do let v ← whole; standAt e.pos; holding [v] (truthy v))) : PT X e (rdT g X.K c W (evT e')) :=
  PT_imp (pt_val h he) fun σ H Q h => rdT_E h
theorem pe_callS0 {X : Cx} {CX : CXT} {k : Nat} {f : Addr} {fd : FuncData} {ps : List Str} {sp : Sp} {E : L2.St → XK} {x : Str} {p pos : Pos} (F : FnOk X.prog X.w X.K X.mg X.base CX k f fd ps sp) (hr : Room k X.A) (hg : Gl X x) (hm : X.mg x = some (.ref f)) (hk : PySem.W.keepIn X.K (.ref f) = true) (hb : Binds X.K fd ps [])
    (hx : ∀ σ, PassesAt CX X σ (E σ)) (hdb : (x == ("__debug__" : Str)) = false) : PE X (.Call (.Name x p) [] [] pos) (tCallS sp E tNil) := by
  refine ⟨fun pins s σ H Q I h => ?_⟩
  refine wpAny_Call_Name_kw (ld_glob I hg hm ?_ hdb)
  exact PySem.W.callWith_K0 I.kIn hk (run_fnS (us := []) F hr hb (hx σ) I .nil h)
theorem plain_any {g : Gx} {cm : Bool} {N : List Str} {sc : Scope} {env : PySem.Env} {pos : Pos} : ∀ {es' : List E} {es : List Expr}, chkEs cm N sc es' es = true → (backTo pos (starEach es env)).any (·.1) = false
  | es', [], _ => rfl
  | [], _ :: _, h => by cases h
  | e' :: es', e :: es, h => by
    obtain ⟨h, h3⟩ := and3 (show (plainB e && chkE cm N sc e' e && chkEs cm N sc es' es) = true from h)
    obtain ⟨h1, h2⟩ := and3 h
    rw [star_plain h1]
    have ih := plain_any (g := g) (env := env) (pos := pos) h3
    show (false || (backTo pos (starEach es env)).any (·.1)) = false
    rw [ih] <;> rfl
theorem plain_all {cm : Bool} {N : List Str} {sc : Scope} {env : PySem.Env} {pos : Pos} : ∀ {es' : List E} {es : List Expr}, chkEs cm N sc es' es = true → (backTo pos (starEach es env)).all (fun x => !x.1) = true
  | es', [], _ => rfl
  | [], _ :: _, h => by cases h
  | e' :: es', e :: es, h => by
    obtain ⟨h, h3⟩ := and3 (show (plainB e && chkE cm N sc e' e && chkEs cm N sc es' es) = true from h)
    obtain ⟨h1, h2⟩ := and3 h
    rw [star_plain h1]
    have ih := plain_all (env := env) (pos := pos) h3
    show (!false && (backTo pos (starEach es env)).all (fun x => !x.1)) = true
    rw [ih] <;> rfl

section
variable {K : PySem.W.Frag} {c : C0} {ρ ρ' : En} {σ : L2.St} {Hf H Hf' H' : Hp}
theorem R.fresh (r : R K c ρ σ Hf H) {p : Addr} (h : H p = none) : c.H p = none := by
  cases e : c.H p with
  | none => rfl
  | some o =>
    obtain ⟨u, q⟩ := r.live p o e
    rw [h] at q
    cases q
/-- a list that is new and that no slot owns is frozen -/
theorem R.frzN (r : R K c ρ σ Hf H) {p : Addr} {vs : List V} (hp : H p = some (.lst vs)) (hf : Hf p = none) (h0 : c.fs p ∨ c.H p = none) (hd : NoOwn ρ σ H p) :
    R K c ρ σ (upd Hf p (.lst vs)) H :=
  r.heap (same_upd hf) (fun a o h => by
    by_cases ha : a = p
    · subst ha; rw [upd_same] at h; cases h; exact hp
    · rw [upd_ne ha] at h; exact r.sub _ _ h) (fun i a ha => ⟨fun u e => e, by
      rw [upd_ne (fun z => hd i (by rw [← z]; exact ha))]
      exact (r.fat ha).2⟩) (fun a fs e => e) (fun a o _ _ e => e) (fun a u e => ⟨u, e⟩) fun a o h n m e => by
    rw [upd_ne fun z => by
      rcases h0 with h0 | h0
      · exact m (by rw [z]; exact h0)
      · rw [z, h0] at h; cases h]
    exact e
/-- no slot owns what was not there -/
theorem R.none_own (r : R K c ρ σ Hf H) {p : Addr} (h : H p = none) : NoOwn ρ σ H p := fun j m => by
  obtain ⟨⟨u, q, _⟩, _⟩ := r.fat m
  rw [h] at q
  cases q
/-- the same behind the making of it -/
theorem R.none_own' (r : R K c ρ σ Hf H) {p : Addr} {o : HO} (h : H p = none) : NoOwn ρ σ (upd H p o) p := fun j m => by
  have m : p ∈ footO (upd H p o) ρ[j]? σ[j]? := m
  cases h1 : ρ[j]? with
  | none => rw [h1] at m; cases m
  | some s =>
    obtain ⟨w, e3, q⟩ := r.at h1
    have e4 := (q.mono (Hf' := Hf) (H' := upd H p o) (Same.refl _) (fun a ha => ⟨fun u e => same_upd h _ _ e, (q.fat a ha).2⟩) (fun a fs e => same_upd h _ _ e)).2
    rw [h1, e3, e4] at m
    obtain ⟨⟨u, z, _⟩, _⟩ := q.fat _ m
    rw [h] at z
    cases z
/-- what no slot owned behind a call -/
theorem R.callN {ρ' : En} (r : R K c ρ σ Hf H) {is : List Nat} {ks : List Bool} {ps fs fs' : List Addr} {outs : List (List D)} (A : AdvM fs Hf H Hf' H') (S : SlA ρ σ H is ks ps fs) (nd : is.Nodup) (O : OutR K Hf' H' ks ps outs fs') (e : putO ρ is outs = some ρ') {p : Addr} (h : p ∈ fs ∨ H p = none) (hp : p ∉ fs') : NoOwn ρ' σ H' p := fun j m => by
  obtain ⟨inn, _⟩ := putO_in K c Hf' H' S O nd (fun _ _ => rfl) e
  by_cases hj : j ∈ is
  · obtain ⟨_, s', o, _, e2, e3, _, _, q⟩ := inn j hj
    have m : p ∈ footO H' ρ'[j]? σ[j]? := m
    rw [e2, e3] at m
    exact hp (q p m)
  · have m : p ∈ footO H' ρ'[j]? σ[j]? := m
    rw [putO_out e j hj] at m
    cases h1 : ρ[j]? with
    | none => rw [h1] at m; cases m
    | some s =>
      obtain ⟨o, h2, q⟩ := r.at h1
      have f : ft H ρ σ j = footO H (some s) (some o) := by show footO H ρ[j]? σ[j]? = _; rw [h1, h2]
      have away : ∀ a ∈ footO H (some s) (some o), a ∉ fs := fun a ha hf => by
        obtain ⟨i, hi, h⟩ := (S.mem a).mp hf
        exact hj (r.inj j i a (by rw [f]; exact ha) h ▸ hi)
      have k := (q.mono A.f (H' := H') (fun a ha => by
        obtain ⟨⟨u, q1, _⟩, q2⟩ := q.fat a ha
        exact ⟨fun w hw => A.keep a w hw (away a ha), A.out a u q1 q2 (away a ha)⟩) fun a xs h => A.keep _ _ h fun hf => by
          obtain ⟨i, _, h'⟩ := (S.mem a).mp hf
          obtain ⟨⟨u, q1, q2⟩, _⟩ := r.fat h'
          rw [h] at q1
          cases q1
          exact q2 xs rfl).2
      rw [h1, h2, k] at m
      rcases h with h | h
      · exact away p m h
      · rw [← f] at m
        obtain ⟨⟨u, q1, _⟩, _⟩ := r.fat m
        rw [h] at q1
        cases q1
/-- what is handed over, or new, may change -/
theorem R.mayH (r : R K c ρ σ Hf H) {is : List Nat} {ks : List Bool} {ps fs : List Addr} (S : SlA ρ σ H is ks ps fs) {p : Addr} (h : p ∈ fs ∨ H p = none) : c.fs p ∨ c.H p = none := by
  rcases h with h | h
  · obtain ⟨i, _, q⟩ := (S.mem p).mp h
    exact r.may i p q
  · exact .inr (r.fresh h)
end

section
variable {g : Gx} {cm : Bool} {c : C0}
/-- a call's end -/
theorem call_end {K : PySem.W.Frag} {W : WX} {σ : L2.St} {Hf H : Hp} {ρ : En} {f : CallF} {rs : List Rv} {vs : List V} {Q : VK} (r : R K c ρ σ Hf H) (hv : RvsR K σ Hf vs rs) (h : post g K c W σ Hf (kE K σ Q) (callO f rs ρ)) : spM g K f vs H Q (WE W σ) := by
  unfold callO at h
  cases e1 : splitA ρ f.md rs with
  | none => rw [e1] at h; exact h.elim
  | some z =>
    obtain ⟨ds, is⟩ := z
    rw [e1] at h
    simp only at h
    split at h
    · rename_i hn
      have hn : is.Nodup := of_decide_eq_true hn
      obtain ⟨ps, fs, a1, a2⟩ := splitA_ok r hv e1 hn
      refine ⟨Hf, ds, ps, fs, r.sub, a1, ?_⟩
      cases e2 : f.F ds with
      | bad => rw [e2] at h; exact h.elim
      | tre _ _ => rw [e2] at h; exact h.elim
      | ok d outs =>
        rw [e2] at h
        simp only at h
        cases e3 : putO ρ is outs with
        | none => rw [e3] at h; exact h.elim
        | some ρ' =>
          rw [e3] at h
          intro v H' Hf' fs' A O nw ans
          have r' := r.call A a2 hn O nw e3
          unfold AnsR at ans
          split at ans
          · obtain ⟨p, xs, x, rfl, rfl, k1, k2, k3, k6, k4, k5⟩ := ans
            exact h H' _ (r'.frzN k1 k2 (r.mayH a2 k3) (r.callN A a2 hn O e3 k3 k6)) (A.f.trans (same_upd k2)) _ (.lst (SqL.of upd_same) (k4.mono (same_upd k2)) k5)
          · exact h H' Hf' r' A.f v ans
      | exc x d outs =>
        rw [e2] at h
        simp only at h
        cases e3 : putO ρ is outs with
        | none => rw [e3] at h; exact h.elim
        | some ρ' =>
          rw [e3] at h
          intro cls dx H' Hf' fs' A O nw ans
          exact h cls dx H' Hf' (r.call A a2 hn O nw e3) A.f ans
    · exact h.elim
end
end Mini
end

section
set_option Elab.async false
set_option linter.all false
set_option maxRecDepth 100000
set_option maxHeartbeats 4000000
/-! M12: a state as an entry of its own; the turns of a comprehension. -/
namespace Mini
open PySem L2

def snapPs (ρ : En) (σ : L2.St) : List (Nat × Addr) := (List.range ρ.length).filterMap fun i => match (ρ[i]?).bind sKind, σ[i]? with
  | some _, some (some (V.ref p)) => some (i, p)
  | _, _ => none
def snap (c : C0) (ρ : En) (σ : L2.St) (Hf H : Hp) : C0 := ⟨Hf, H, snapPs ρ σ, fun i => ((ρ[i]?).bind sKind).getD false, fun a => ∃ i, a ∈ ft H ρ σ i, c.xa⟩
section
variable {K : PySem.W.Frag} {c : C0} {ρ ρ2 : En} {σ σ2 : L2.St} {Hf H Hf2 H2 : Hp}
theorem mem_snap {i : Nat} {p : Addr} : (i, p) ∈ snapPs ρ σ ↔ (∃ s b, ρ[i]? = some s ∧ sKind s = some b) ∧ σ[i]? = some (some (.ref p)) := by
  unfold snapPs
  rw [List.mem_filterMap]
  constructor
  · rintro ⟨j, _, h⟩
    split at h
    · rename_i b q h1 h2
      cases h
      obtain ⟨s, e1, e2⟩ := Option.bind_eq_some_iff.mp h1
      exact ⟨⟨s, _, e1, e2⟩, h2⟩
    · cases h
  · rintro ⟨⟨s, b, h1, h0⟩, h2⟩
    refine ⟨i, List.mem_range.mpr (List.getElem?_eq_some_iff.mp h1).1, ?_⟩
    rw [h1, h2]
    simp [h0]
theorem R.snap (r : R K c ρ σ Hf H) : R K (Mini.snap c ρ σ Hf H) ρ σ Hf H := by
  refine ⟨r.len, r.sl, fun i a h => .inl ⟨i, h⟩, r.inj, r.sub, Same.refl _, fun a o h _ => h, fun a o h => ⟨o, h⟩, fun a o _ h _ => h, fun i p h => ?_⟩
  obtain ⟨⟨s, b, h1, h2⟩, h3⟩ := mem_snap.mp h
  refine ⟨h3, s, h1, ?_⟩
  show _ = some (((ρ[i]?).bind sKind).getD false)
  rw [h1]
  show _ = some ((sKind s).getD false)
  rw [h2]
  rfl
/-- from the inner entry to the outer one -/
theorem R.lift (r : R K c ρ σ Hf H) (r2 : R K (Mini.snap c ρ σ Hf H) ρ2 σ2 Hf2 H2) : R K c ρ2 σ2 Hf2 H2 := by
  refine ⟨r2.len, r2.sl, fun i a h => ?_, r2.inj, r2.sub, r.f0.trans r2.f0, fun a o h n => ?_, fun a o h => ?_, fun a o h n m => ?_, fun i p h => ?_⟩
  · rcases r2.may i a h with ⟨j, k⟩ | k
    · exact r.may j a k
    · exact .inr (r.fresh k)
  · refine r2.keep a o (r.keep a o h n) fun ⟨i, hi⟩ => ?_
    rcases r.may i a hi with k | k
    · exact n k
    · rw [h] at k; cases k
  · obtain ⟨u, q⟩ := r.live a o h
    exact r2.live a u q
  · refine r2.out a o (r.keep a o h m) (r.out a o h n m) fun ⟨i, hi⟩ => ?_
    rcases r.may i a hi with k | k
    · exact m k
    · rw [h] at k; cases k
  · obtain ⟨h1, s, h2, h3⟩ := r.par i p h
    obtain ⟨h4, t, h5, h6⟩ := r2.par i p (mem_snap.mpr ⟨⟨s, _, h2, h3⟩, h1⟩)
    refine ⟨h4, t, h5, h6.trans ?_⟩
    show some (((ρ[i]?).bind sKind).getD false) = _
    rw [h2]
    show some ((sKind s).getD false) = _
    rw [h3]
    rfl
/-- a list that is new and that no slot owns changes -/
theorem R.mutN (r : R K c ρ σ Hf H) {p : Addr} {o : HO} (hp : ∃ vs, H p = some (.lst vs)) (hf : Hf p = none) (h0 : c.fs p ∨ c.H p = none) (hd : NoOwn ρ σ H p) : R K c ρ σ Hf (upd H p o) :=
  r.heap (Same.refl _) (fun a u h => by
    have ha : a ≠ p := fun z => by subst z; rw [hf] at h; cases h
    rw [upd_ne ha]; exact r.sub _ _ h) (fun i a ha => ⟨fun u e => by
      rw [upd_ne (fun z => hd i (by rw [← z]; exact ha))]
      exact e, (r.fat ha).2⟩) (fun a fs e => by
      rw [upd_ne fun z => by
        obtain ⟨vs, hp⟩ := hp
        rw [z, hp] at e
        cases e]
      exact e) (fun a u h m e => by
      rw [upd_ne fun z => by
        rcases h0 with h0 | h0
        · exact m (by rw [z]; exact h0)
        · rw [z, h0] at h; cases h]
      exact e) (fun a u e => by
      by_cases ha : a = p
      · subst ha; exact ⟨o, upd_same⟩
      · exact ⟨u, by rw [upd_ne ha]; exact e⟩) fun a u _ _ _ e => e
/-- the footprint does not change where a list that no slot owns does -/
theorem NoOwn.upd_ (r : R K c ρ σ Hf H) {p q : Addr} {o : HO} (hd : NoOwn ρ σ H p) (hq : NoOwn ρ σ H q) (hx : ∀ fs, H p ≠ some (.xd fs)) : NoOwn ρ σ (upd H p o) q := fun j m => by
  have m : q ∈ footO (upd H p o) ρ[j]? σ[j]? := m
  cases h1 : ρ[j]? with
  | none => rw [h1] at m; cases m
  | some s =>
    obtain ⟨w, h2, k⟩ := r.at h1
    have f : ft H ρ σ j = footO H (some s) (some w) := by show footO H ρ[j]? σ[j]? = _; rw [h1, h2]
    have := (k.mono (Hf' := Hf) (H' := upd H p o) (Same.refl _) (fun a ha => ⟨fun u e => by
      rw [upd_ne (fun z => hd j (by rw [f, ← z]; exact ha))]
      exact e, (k.fat a ha).2⟩) (fun a fs e => by
      rw [upd_ne fun z => hx fs (by rw [← z]; exact e)]
      exact e)).2
    rw [h1, h2, this, ← f] at m
    exact hq j m
theorem ft_kind {j : Nat} {a : Addr} (h : a ∈ ft H ρ σ j) : ∃ s b, ρ[j]? = some s ∧ sKind s = some b := by
  have h : a ∈ footO H ρ[j]? σ[j]? := h
  cases e : ρ[j]? with
  | none => rw [e] at h; cases h
  | some s =>
    rw [e] at h
    cases s with
    | own ds => exact ⟨_, _, rfl, rfl⟩
    | tr t => exact ⟨_, _, rfl, rfl⟩
    | no => cases h
    | val _ => cases h
    | exn _ _ => cases h
theorem setV_kind {i : Nat} {d : D} (e : setV ρ i d = some ρ2) {j : Nat} {s : Sl} {b : Bool} (h : ρ2[j]? = some s) (k : sKind s = some b) : ρ[j]? = some s := by
  unfold setV at e
  have e2 : ρ2 = ρ.set i (.val d) := by
    cases q : ρ[i]? with
    | none => rw [q] at e; cases e
    | some s =>
      rw [q] at e
      cases s with
      | own ds => cases e
      | tr ds => cases e
      | no => cases e; rfl
      | val _ => cases e; rfl
      | exn _ _ => cases e; rfl
  rw [e2] at h
  by_cases hi : i = j
  · subst hi
    have hlt : i < ρ.length := by
      have := (List.getElem?_eq_some_iff.mp h).1
      rw [List.length_set] at this; exact this
    rw [List.getElem?_set_self hlt] at h
    cases h
    cases k
  · rw [List.getElem?_set_ne hi] at h; exact h
theorem bindN_kind : ∀ {is : List Nat} {ds : List D} {ρ ρ2 : En}, bindN ρ is ds = some ρ2 → ∀ {j : Nat} {s : Sl} {b : Bool}, ρ2[j]? = some s → sKind s = some b → ρ[j]? = some s
  | [], [], _, _, e, _, _, _, h, _ => by cases e; exact h
  | [], _ :: _, _, _, e, _, _, _, _, _ => by cases e
  | _ :: _, [], _, _, e, _, _, _, _, _ => by cases e
  | i :: is, d :: ds, ρ, ρ2, e, j, s, b, h, k => by
    unfold bindN at e
    cases q : setV ρ i d with
    | none => rw [q] at e; cases e
    | some ρ1 => rw [q] at e; exact setV_kind q (bindN_kind e h k) k
theorem bindT_kind {t : Tgt} {d : D} (e : bindT t d ρ = some ρ2) {j : Nat} {s : Sl} {b : Bool} (h : ρ2[j]? = some s) (k : sKind s = some b) : ρ[j]? = some s := by
  cases t with
  | n i => exact setV_kind e h k
  | t is =>
    cases d <;> first | (cases e; done) | exact bindN_kind e h k
theorem wipe_wipe (vs : List Nat) : L2.wipe (L2.wipe σ vs) vs = L2.wipe σ vs := by
  refine List.ext_getElem? fun j => ?_
  by_cases hj : j ∈ vs
  · by_cases hl : j < σ.length
    · rw [wipe_in hj (by rw [wipe_length]; exact hl), wipe_in hj hl]
    · rw [List.getElem?_eq_none (by rw [wipe_length, wipe_length]; omega), List.getElem?_eq_none (by rw [wipe_length]; omega)]
  · rw [wipe_out hj]
theorem free_back {vs : List Nat} (h : freeE ρ vs = true) : freeE (backE ρ ρ2 vs) vs = true := by
  have key : ∀ i ∈ vs, ∀ s, (backE ρ ρ2 vs)[i]? = some s → ρ[i]? = some s ∨ s = .no := fun i hi s e => by
    have e2 := backE_in hi _ e
    rw [List.getD_eq_getElem?_getD] at e2
    cases e3 : ρ[i]? with
    | none => rw [e3] at e2; exact .inr e2
    | some z =>
      rw [e3] at e2
      have e4 : s = z := e2
      exact .inl (by rw [e4])
  refine List.all_eq_true.mpr fun i hi => ?_
  have q := List.all_eq_true.mp h i hi
  split
  · rename_i ds e
    rcases key i hi _ e with k | k
    · rw [k] at q; exact q
    · cases k
  · rename_i x d e
    rcases key i hi _ e with k | k
    · rw [k] at q; exact q
    · cases k
  · rename_i x e
    rcases key i hi _ e with k | k
    · rw [k] at q; exact q
    · cases k
  · rfl
end

abbrev W0 : WX := fun _ _ _ _ => False
/-- no exception is at hand -/
def NoXa (c : C0) : Prop := ∀ a dx x f, ¬ c.xa a dx x f
def rdEx (g : Gx) (K : PySem.W.Frag) (e : EvF Rv) : TE := fun σ H Q => ∃ c : {c : C0 // NoXa c}, rdE g K c.1 W0 e σ H Q
def rdTx (g : Gx) (K : PySem.W.Frag) (e : EvF Bool) : TT := fun σ H Q => ∃ c : {c : C0 // NoXa c}, rdT g K c.1 W0 e σ H Q
theorem PE_ex {X : Cx} {e : Expr} {α : Type} {t : α → TE} (h : ∀ a, PE X e (t a)) : PE X e (fun σ H Q => ∃ a, t a σ H Q) := ⟨fun pins s σ H Q I ⟨a, q⟩ => (h a).run pins s σ H Q I q⟩
theorem PT_ex {X : Cx} {e : Expr} {α : Type} {t : α → TT} (h : ∀ a, PT X e (t a)) : PT X e (fun σ H Q => ∃ a, t a σ H Q) := ⟨fun pins s σ H Q I ⟨a, q⟩ => (h a).run pins s σ H Q I q⟩

theorem lc_end {g : Gx} {K : PySem.W.Frag} {c : C0} {ρ ρ' : En} {σ : L2.St} {Hf H : Hp} {J : It} {xs ys : List D} {own : List Nat} {t : Tgt} {ifs : EvF Bool} {elt : EvF Rv} {Q : VK} {D0 : Addr}
    (hno : NoXa c) (r : R K c ρ σ Hf H) (fr : freeE ρ own = true) (it : ItOk K J xs Hf) (hs : ∀ i ∈ tgOwn t, i ∈ own) (hgo : lcGo t own (lcBody ifs elt) xs [] ρ = .ok ys ρ') (hD : H D0 = none)
    (hq : ∀ H' Hf' vs, R K c ρ' σ Hf' H' → Same Hf Hf' → H' D0 = some (.lst vs) → Hf' D0 = none → NoOwn ρ' σ H' D0 → Reps K Hf' vs ys → ys.length ≤ lim → Q (.ref D0) H') :
    ∃ W : Nat → Nat → Hp → Prop, (∃ m, W 0 m (upd H D0 (.lst []))) ∧ ∀ i m H, W i m H →
      (J.stop i H ∧ Q (.ref D0) H) ∨ (J.go i H ∧ ∃ Nx : Hp → Prop, (∀ H', Nx H' → ∃ m', m' < m ∧ W (i + 1) m' H') ∧ ∀ x H', J.yld i H x H' → gT K t x (L2.wipe σ own) H' fun σ2 H2 => L2.wipe σ2 own = L2.wipe σ own ∧ rdTx g K ifs σ2 H2 fun b H3 =>
        if b = true then rdEx g K elt σ2 H3 fun y H4 => ∃ acc, H4 D0 = some (.lst acc) ∧ acc.length < sizeLine ∧ Nx (upd H4 D0 (.lst (acc ++ [y]))) else Nx H3) := by
  have c0 : c.H D0 = none := r.fresh hD
  let In (i : Nat) (H' : Hp) : Prop := ∃ ρi acc vs Hfi, i ≤ xs.length ∧ lcGo t own (lcBody ifs elt) (xs.drop i) acc ρi = .ok ys ρ' ∧ R K c ρi σ Hfi H' ∧ freeE ρi own = true ∧ H' D0 = some (.lst vs) ∧ Hfi D0 = none ∧ Reps K Hfi vs acc ∧ Same Hf Hfi ∧
    NoOwn ρi σ H' D0
  refine ⟨fun i m H' => m = xs.length - i ∧ In i H', ⟨_, rfl, ρ, [], [], Hf, Nat.zero_le _, hgo, r.adv (Adv.new' r.sub hD), fr, upd_same, r.sub.free hD, .nil, Same.refl _, fun j m => by
    have k := r.adv (Adv.new' r.sub hD (o := .lst []))
    obtain ⟨s, b, e1, e2⟩ := ft_kind m
    have m : D0 ∈ footO (upd H D0 (.lst [])) ρ[j]? σ[j]? := m
    obtain ⟨o, e3, q⟩ := r.at e1
    have e4 := (q.mono (Hf' := Hf) (H' := upd H D0 (.lst [])) (Same.refl _) (fun a ha => ⟨fun u e => same_upd hD _ _ e, (q.fat a ha).2⟩) (fun a fs e => same_upd hD _ _ e)).2
    rw [e1, e3, e4] at m
    obtain ⟨⟨u, z, _⟩, _⟩ := q.fat _ m
    rw [hD] at z
    cases z⟩, ?_⟩
  rintro i m H1 ⟨rfl, ρi, acc, vs, Hfi, hi, hg, ri, fi, d1, d2, d3, sf, dn⟩
  by_cases hlt : i < xs.length
  · refine .inr ⟨it.go i H1 (sf.trans ri.sub) hlt, In (i + 1), fun H' h => ⟨xs.length - (i + 1), by omega, rfl, h⟩, fun x H' y => ?_⟩
    obtain ⟨e, d, hd, hr⟩ := it.yld i H1 x H' (sf.trans ri.sub) y hlt
    subst e
    have hx : xs.drop i = d :: xs.drop (i + 1) := by
      rw [List.drop_eq_getElem_cons hlt]
      have := List.getElem?_eq_getElem hlt
      rw [hd] at this
      cases this
      rfl
    rw [hx] at hg
    unfold lcGo at hg
    cases e1 : bindT t d (wipeE ρi own) with
    | none => rw [e1] at hg; cases hg
    | some ρ1 =>
      rw [e1] at hg
      simp only at hg
      cases e2 : lcBody ifs elt ρ1 with
      | bad => rw [e2] at hg; cases hg
      | exc _ _ _ => rw [e2] at hg; cases hg
      | ok o ρ2 =>
        rw [e2] at hg
        simp only at hg
        split at hg
        · rename_i hck
          obtain ⟨hf2, hl⟩ := and3 hck
          have hl := of_decide_eq_true hl
          refine gT_ok (ri.wipe fi) e1 (hr.mono sf) fun σ2 r1 hw => ⟨by rw [hw own hs, wipe_wipe], ?_⟩
          have hw2 : L2.wipe σ2 own = L2.wipe σ own := by rw [hw own hs, wipe_wipe]
          have rs := r1.snap
          have cD : (Mini.snap c ρ1 σ2 Hfi H').H D0 = some (.lst vs) := d1
          -- behind the body: the entry of the turn, then the outer one
          have fin : ∀ {ρ3 : En} {Hf3 H3 : Hp}, R K (Mini.snap c ρ1 σ2 Hfi H') ρ3 σ2 Hf3 H3 → NoOwn ρ1 σ2 H' D0 →
              R K c (backE ρi ρ3 own) σ Hf3 H3 ∧ H3 D0 = some (.lst vs) ∧ Hf3 D0 = none ∧ NoOwn (backE ρi ρ3 own) σ H3 D0 := fun {ρ3 Hf3 H3} r3 h1 => by
            have np : ¬ (Mini.snap c ρ1 σ2 Hfi H').fs D0 := fun ⟨i, hi⟩ => h1 i hi
            have rl := r1.lift r3
            have rb := ri.back r3.f0 rl hw2 fi
            refine ⟨rb, r3.keep _ _ cD np, r3.out _ _ cD d2 np, fun j m => ?_⟩
            obtain ⟨s, b, e, ek⟩ := ft_kind m
            have hj : j ∉ own := free_notK (free_back fi) e ek
            have sj : σ2[j]? = σ[j]? := by rw [← wipe_out (σ := σ2) hj, hw2, wipe_out hj]
            have m : D0 ∈ footO H3 (backE ρi ρ3 own)[j]? σ[j]? := m
            rw [backE_out hj, ← sj] at m
            rcases r3.may j D0 m with t5 | t5
            · exact np t5
            · rw [cD] at t5; cases t5
          have h1 : NoOwn ρ1 σ2 H' D0 := fun j m => by
            obtain ⟨s, b, e, ek⟩ := ft_kind m
            have e6 := bindT_kind e1 e ek
            by_cases hj : j ∈ own
            · cases wipeE_in hj _ e6; cases ek
            · rw [wipeE_out hj] at e6
              have sj : σ2[j]? = σ[j]? := by rw [← wipe_out (σ := σ2) hj, hw2, wipe_out hj]
              have m : D0 ∈ footO H' ρ1[j]? σ2[j]? := m
              rw [e, sj] at m
              exact dn j (by show D0 ∈ footO H' ρi[j]? σ[j]?; rw [e6]; exact m)
          unfold lcBody at e2
          cases e3 : ifs ρ1 with
          | bad => rw [e3] at e2; cases e2
          | exc _ _ _ => rw [e3] at e2; cases e2
          | ok k ρ3 =>
            rw [e3] at e2
            have e2 : (if k = true then (elt ρ3).bind fun y ρ => O.opt ((asD y).map some) ρ else O.ok none ρ3) = O.ok o ρ2 := e2
            refine ⟨⟨Mini.snap c ρ1 σ2 Hfi H', hno⟩, Hfi, ρ1, rs, ?_⟩
            rw [e3]
            intro H3 Hf3 r3 s3
            cases k with
            | false =>
              rw [if_neg Bool.false_ne_true] at e2 ⊢
              cases e2
              obtain ⟨q1, q2, q3, q4⟩ := fin r3 h1
              exact ⟨_, acc, vs, Hf3, hlt, by simpa using hg, q1, free_back fi, q2, q3, d3.mono s3, sf.trans s3, q4⟩
            | true =>
              rw [if_pos rfl] at e2 ⊢
              cases e4 : elt ρ3 with
              | bad => rw [e4] at e2; cases e2
              | exc _ _ _ => rw [e4] at e2; cases e2
              | ok rv ρ4 =>
                rw [e4] at e2
                have e2 : O.opt ((asD rv).map some) ρ4 = O.ok o ρ2 := e2
                cases e5 : asD rv with
                | none => rw [e5] at e2; cases e2
                | some z =>
                  rw [e5] at e2
                  cases e2
                  cases asD_eq e5
                  refine ⟨⟨Mini.snap c ρ1 σ2 Hfi H', hno⟩, Hf3, ρ3, r3, ?_⟩
                  rw [e4]
                  intro H4 Hf4 r4 s4 v hv
                  obtain ⟨q1, q2, q3, q4⟩ := fin r4 h1
                  have hlen : vs.length = acc.length := d3.length
                  refine ⟨vs, q2, by rw [hlen]; exact Nat.lt_of_lt_of_le hl lim_line, ?_⟩
                  exact ⟨_, acc ++ [z], vs ++ [v], Hf4, hlt, hg, q1.mutN ⟨_, q2⟩ q3 (.inr c0) q4, free_back fi, upd_same, q3, (d3.mono (s3.trans s4)).append (.cons hv .nil), sf.trans (s3.trans s4), NoOwn.upd_ q1 q4 q4 (fun fs z => by rw [q2] at z; cases z)⟩
        · cases hg
  · have e : i = xs.length := by omega
    subst e
    rw [List.drop_length] at hg
    unfold lcGo at hg
    split at hg
    · rename_i hl
      cases hg
      exact .inl ⟨it.stop _ _ (sf.trans ri.sub) rfl, hq H1 Hfi vs ri sf d1 d2 dn d3 hl⟩
    · cases hg
end Mini
end

section
set_option Elab.async false
set_option linter.all false
set_option maxRecDepth 100000
set_option maxHeartbeats 4000000
/-! M13: every expression. -/
namespace Mini
open PySem L2

theorem boot_bi (b : BI) : bootBuiltins (biN b) = some (biV b) := by cases b <;> decide +kernel
theorem boot_tyN (t : Ty) (h : t = .int ∨ t = .bool ∨ t = .str ∨ t = .tup ∨ t = .lst) : bootBuiltins (tyN t : Str) = some (.type (tyN t)) := by
  rcases h with rfl | rfl | rfl | rfl | rfl <;> decide +kernel
theorem biN_free (b : BI) : biN b ∈ freeNames := by cases b <;> decide +kernel
theorem tyN_free (t : Ty) (h : t = .int ∨ t = .bool ∨ t = .str ∨ t = .tup ∨ t = .lst) : (tyN t : Str) ∈ freeNames := by
  rcases h with rfl | rfl | rfl | rfl | rfl <;> decide +kernel
theorem c_biM {X : Cx} {cm : Bool} (hc : cm = true → X.calm = true) (hu : X.A.units + 64 < cLine) (b : BI) (h : (cm || !biCalm b) = true) : CallR X (biV b) (rC X.K (bi b)) := by
  by_cases hb : biCalm b = true
  · rw [hb] at h
    exact c_bi (hc (by simpa using h)) hu b
  · cases b <;> first
      | exact c_len
      | exact c_abs
      | exact c_int
      | exact c_str
      | exact c_list
      | exact c_tuple
      | exact absurd rfl hb
      | exact c_sorted
      | exact absurd rfl hb
theorem pe_biM {X : Cx} {cm : Bool} {b : BI} {e : Expr} {es : List Expr} {t : TA} {p pos : Pos} (hc : cm = true → X.calm = true) (hu : X.A.units + 64 < cLine) (h : (cm || !biCalm b) = true) (hg : Gl X (biN b)) (hm : X.mg (biN b) = none) (ha : PA X (e :: es) t) (hn : biN b ≠ "__name__") (hdb : (biN b == ("__debug__" : Str)) = false)
    (he : starEach (e :: es) X.env = (false, eval e X.env) :: starEach es X.env) (hpl : (backTo pos (starEach es X.env)).any (·.1) = false) : PE X (.Call (.Name (biN b) p) (e :: es) [] pos) (tCB (rC X.K (bi b)) t) := by
  have c := c_biM hc hu b h
  have bt := boot_bi b
  cases b <;> first
    | exact pe_callB c hg hm bt ha hn hdb he hpl
    | exact pe_callTy c hg hm bt ha hn hdb he hpl
theorem mt_meM {X : Cx} (m : ME) (h : meOk m = true) : MtR X (meId m) (rM X.K (me m)) := by
  cases m with
  | join => exact mt_joinM
  | split => exact mt_splitM
  | startswith => exact mt_startM
  | index => exact mt_indexM
  | count => cases h
theorem me_slot (m : ME) (h : meOk m = true) : Slot "str" (meN m) (meId m) ∧ typeOf (.builtin (meId m)) = pure (.type "method_descriptor") := by
  cases m with
  | join => exact ⟨PySem.F.slot_str_join, PySem.F.type_str_join⟩
  | split => exact ⟨PySem.F.slot_str_split, PySem.F.type_str_split⟩
  | startswith => exact ⟨PySem.F.slot_str_startswith, PySem.F.type_str_startswith⟩
  | index => exact ⟨PySem.F.slot_str_index, PySem.F.type_str_index⟩
  | count => cases h
theorem me_str {m : ME} {x : D} {ds : List D} {d : D} (h : me m x ds = some d) : ∃ s, x = .str s := by
  cases x with
  | str s => exact ⟨s, rfl⟩
  | _ => cases m <;> cases h

theorem asS_eq {x : D} {s : List Nat} (h : asS x = some s) : x = .str s := by
  cases x <;> first | (cases h; rfl) | cases h
theorem post.ass {g : Gx} {K : PySem.W.Frag} {c : C0} {W : WX} {σ : L2.St} {γ : Type} {Hf : Hp} {ρ : En} {x : D} {f : List Nat → En → O γ} {k : γ → En → Hp → Hp → Prop} (h : post g K c W σ Hf k ((O.opt (asS x) ρ).bind f)) : ∃ i, x = .str i ∧ post g K c W σ Hf k (f i ρ) := by
  obtain ⟨d, e, h2⟩ := h.optb
  exact ⟨d, asS_eq e, h2⟩
theorem rep_str {K : PySem.W.Frag} {Hf : Hp} {v : V} {i : List Nat} (h : Rep K Hf v (.str i)) : v = .str (sOf i) := by cases h; rfl
section
variable {g : Gx} {cm : Bool} {X : Cx} {c : C0} {W : WX}
theorem po_M {e : Expr} {t : EvF Rv} (h : PE X e (rdE g X.K c W t)) : PO X (some e) (tPart (rdE g X.K c W t)) := po_some h
theorem ty_ok {t : Ty} {e : Expr} (hc : Ctx cm X) (h : tyB t X.env.scope e = true) : PE X e (tC (.ty (tyN t))) ∧ t ≠ .non := by
  unfold tyB at h
  split at h
  · rename_i x pos
    obtain ⟨h, h3⟩ := and3 h
    obtain ⟨h1, h2⟩ := and3 h
    have h1 := of_decide_eq_true h1
    have h3 := of_decide_eq_true h3
    subst h1
    obtain ⟨g1, g2, g3⟩ := gl_ok h2
    refine ⟨pe_bltn g1 (hc.fre _ (tyN_free t h3)) (boot_tyN t h3) rfl g3 g2, fun z => ?_⟩
    subst z
    rcases h3 with h | h | h | h | h <;> cases h
  · cases h
theorem tys_ok (hc : Ctx cm X) : ∀ {ts : List Ty} {es : List Expr}, tysB X.env.scope ts es = true → PA X es (fun _ H Q => Q (ts.map fun t => .ty (tyN t)) H) ∧ ∀ t ∈ ts, t ≠ .non
  | [], [], _ => ⟨PA_imp pa_nil fun _ _ _ h => h, fun t ht => by cases ht⟩
  | [], _ :: _, h => by cases h
  | _ :: _, [], h => by cases h
  | t :: ts, e :: es, h => by
    obtain ⟨h, h3⟩ := and3 (show (plainB e && tyB t X.env.scope e && tysB X.env.scope ts es) = true from h)
    obtain ⟨h1, h2⟩ := and3 h
    obtain ⟨k1, k2⟩ := ty_ok hc h2
    obtain ⟨k3, k4⟩ := tys_ok hc h3
    exact ⟨PA_imp (pa_cons k1 k3 (star_plain h1)) fun _ _ _ h => h, fun u hu => by
      rcases List.mem_cons.mp hu with rfl | hu
      · exact k2
      · exact k4 u hu⟩
end

/-! ### lists of expressions -/
abbrev SE (g : Gx) (X : Cx) (c : C0) (W : WX) (e' : E) (e : Expr) : Prop := PE X e (rdE g X.K c W (evE e')) ∧ (tOk e' = true → PT X e (rdT g X.K c W (evT e')))
inductive AllE (g : Gx) (X : Cx) (c : C0) (W : WX) : List E → List Expr → Prop
  | nil : AllE g X c W [] []
  | cons {e' : E} {e : Expr} {es' : List E} {es : List Expr} : plainB e = true → SE g X c W e' e → AllE g X c W es' es → AllE g X c W (e' :: es') (e :: es)
section
variable {g : Gx} {cm : Bool} {X : Cx} {c : C0} {W : WX} {es' : List E} {es : List Expr} {pos : Pos}
theorem AllE.pa (h : AllE g X c W es' es) : PA X es (rdA g X.K c W (evEs es')) := by
  induction h with
  | nil => exact PA_imp pa_nil fun σ H Q ⟨Hf, ρ, r, h⟩ => (post.now h r) [] .nil
  | cons hp hs _ ih =>
    refine PA_imp (pa_cons hs.1 ih (star_plain hp)) fun σ H Q ⟨Hf, ρ, r, h⟩ => ?_
    unfold evEs at h
    refine post.run r h fun rv ρ1 Hf1 H1 v r1 s1 hv h1 => post.runA r1 h1 fun rvs ρ2 Hf2 H2 vs r2 s2 hvs h2 => ?_
    exact post.now h2 r2 (v :: vs) (.cons (hv.mono s2) hvs)
theorem AllE.any (h : AllE g X c W es' es) {env : PySem.Env} : (backTo pos (starEach es env)).any (·.1) = false := by
  induction h with
  | nil => rfl
  | cons hp _ _ ih =>
    rw [star_plain hp]
    show (false || (backTo pos (starEach _ env)).any (·.1)) = false
    rw [ih] <;> rfl
theorem AllE.all (h : AllE g X c W es' es) {env : PySem.Env} : (backTo pos (starEach es env)).all (fun x => !x.1) = true := by
  induction h with
  | nil => rfl
  | cons hp _ _ ih =>
    rw [star_plain hp]
    show (!false && (backTo pos (starEach _ env)).all (fun x => !x.1)) = true
    rw [ih] <;> rfl
theorem AllE.and (h : AllE g X c W es' es) : PE X (.BoolOp .And es pos) (rdE g X.K c W (evAnd es')) := by
  induction h with
  | nil => exact ⟨fun _ _ _ _ _ _ ⟨_, _, _, h⟩ => h.elim⟩
  | cons hp hs t ih =>
    cases t with
    | nil => exact pe_one hs.1
    | cons _ _ _ =>
      refine PE_imp (pe_and hs.1 ih) fun σ H Q ⟨Hf, ρ, r, h⟩ => ?_
      unfold evAnd at h
      refine post.run r h fun rv ρ1 Hf1 H1 v r1 s1 hv h1 => ?_
      obtain ⟨d, rfl, h2⟩ := h1.asd
      obtain ⟨b, rfl, h3⟩ := h2.asb
      refine ⟨b, rep_bl hv, ?_⟩
      cases b with
      | true =>
        rw [if_pos rfl] at h3 ⊢
        exact ⟨Hf1, ρ1, r1, h3⟩
      | false =>
        rw [if_neg Bool.false_ne_true] at h3 ⊢
        exact (h3.okd r1).now r1.sub (.bl _)
theorem AllE.or (h : AllE g X c W es' es) : PE X (.BoolOp .Or es pos) (rdE g X.K c W (evOr es')) := by
  induction h with
  | nil => exact ⟨fun _ _ _ _ _ _ ⟨_, _, _, h⟩ => h.elim⟩
  | cons hp hs t ih =>
    cases t with
    | nil => exact pe_one hs.1
    | cons _ _ _ =>
      refine PE_imp (pe_or hs.1 ih) fun σ H Q ⟨Hf, ρ, r, h⟩ => ?_
      unfold evOr at h
      refine post.run r h fun rv ρ1 Hf1 H1 v r1 s1 hv h1 => ?_
      obtain ⟨d, rfl, h2⟩ := h1.asd
      obtain ⟨b, rfl, h3⟩ := h2.asb
      refine ⟨b, rep_bl hv, ?_⟩
      cases b with
      | false =>
        rw [if_neg Bool.false_ne_true] at h3 ⊢
        exact ⟨Hf1, ρ1, r1, h3⟩
      | true =>
        rw [if_pos rfl] at h3 ⊢
        exact (h3.okd r1).now r1.sub (.bl _)
/-- the value of an evaluation, as a bool -/
def asT (e : EvF Rv) : EvF Bool := fun ρ => (e ρ).bind fun x ρ => (O.opt (asD x) ρ).bind fun x ρ => O.opt (asB x) ρ
theorem asT_bind {e : EvF Rv} {ρ : En} {β : Type} {f : Bool → En → O β} : (asT e ρ).bind f = (e ρ).bind fun x ρ => (O.opt (asD x) ρ).bind fun x ρ => (O.opt (asB x) ρ).bind f := by
  unfold asT
  cases e ρ with
  | bad => rfl
  | exc _ _ _ => rfl
  | ok rv ρ1 =>
    cases rv with
    | o i => rfl
    | d x => cases x <;> rfl
theorem asT_id {e : EvF Rv} {ρ : En} : asT e ρ = (asT e ρ).bind fun b ρ => .ok b ρ := by
  cases asT e ρ <;> rfl
theorem asT_and {a' b' : E} {qs' : List E} {ρ : En} : asT (evAnd (a' :: b' :: qs')) ρ = (evT a' ρ).bind fun k ρ => if k = true then asT (evAnd (b' :: qs')) ρ else .ok false ρ := by
  show ((evAnd (a' :: b' :: qs') ρ).bind _) = (asT (evE a') ρ).bind _
  rw [asT_bind]
  unfold evAnd
  cases evE a' ρ with
  | bad => rfl
  | exc _ _ _ => rfl
  | ok rv ρ1 =>
    cases rv with
    | o i => rfl
    | d x =>
      cases x with
      | bl b => cases b <;> rfl
      | _ => rfl
theorem AllE.andT (h : AllE g X c W es' es) : tOks es' = true → PW X (.BoolOp .And es pos) (rdT g X.K c W (asT (evAnd es'))) := by
  induction h with
  | nil => exact fun _ => ⟨fun _ _ _ _ _ _ _ ⟨_, _, _, h⟩ => h.elim⟩
  | cons hp hs t ih =>
    intro ht
    obtain ⟨t1, t2⟩ := and3 ht
    cases t with
    | nil => exact pw_and1 (hs.2 t1)
    | cons _ _ _ =>
      have k := pw_and (pos := pos) (hs.2 t1) (ih t2)
      refine ⟨fun wh pins s σ H Q I ⟨Hf, ρ, r, h⟩ => k.run wh pins s σ H Q I ?_⟩
      rw [asT_and] at h
      refine post.runT r h fun b ρ1 Hf1 H1 r1 s1 h1 => ?_
      cases b with
      | true =>
        rw [if_pos rfl] at h1 ⊢
        exact ⟨Hf1, ρ1, r1, h1⟩
      | false =>
        rw [if_neg Bool.false_ne_true] at h1 ⊢
        exact h1.now r1
theorem asT_or {a' b' : E} {qs' : List E} {ρ : En} : asT (evOr (a' :: b' :: qs')) ρ = (evT a' ρ).bind fun k ρ => if k = true then .ok true ρ else asT (evOr (b' :: qs')) ρ := by
  show ((evOr (a' :: b' :: qs') ρ).bind _) = (asT (evE a') ρ).bind _
  rw [asT_bind]
  unfold evOr
  cases evE a' ρ with
  | bad => rfl
  | exc _ _ _ => rfl
  | ok rv ρ1 =>
    cases rv with
    | o i => rfl
    | d x =>
      cases x with
      | bl b => cases b <;> rfl
      | _ => rfl
theorem AllE.orT (h : AllE g X c W es' es) : tOks es' = true → PW X (.BoolOp .Or es pos) (rdT g X.K c W (asT (evOr es'))) := by
  induction h with
  | nil => exact fun _ => ⟨fun _ _ _ _ _ _ _ ⟨_, _, _, h⟩ => h.elim⟩
  | cons hp hs t ih =>
    intro ht
    obtain ⟨t1, t2⟩ := and3 ht
    cases t with
    | nil => exact pw_or1 (hs.2 t1)
    | cons _ _ _ =>
      have k := pw_or (pos := pos) (hs.2 t1) (ih t2)
      refine ⟨fun wh pins s σ H Q I ⟨Hf, ρ, r, h⟩ => k.run wh pins s σ H Q I ?_⟩
      rw [asT_or] at h
      refine post.runT r h fun b ρ1 Hf1 H1 r1 s1 h1 => ?_
      cases b with
      | false =>
        rw [if_neg Bool.false_ne_true] at h1 ⊢
        exact ⟨Hf1, ρ1, r1, h1⟩
      | true =>
        rw [if_pos rfl] at h1 ⊢
        exact h1.now r1
/-! ### comparisons -/
section
variable {K : PySem.W.Frag} {a b d : E} {σ : L2.St} {H : Hp} {Q : VK}
theorem rd_cmp {o : COp} (h : rdE g K c W (evE (.cmp o a b)) σ H Q) : tOp (rB K fun x y => (cop o x y).map .bl) (rdE g K c W (evE a)) (rdE g K c W (evE b)) σ H Q := by
  obtain ⟨Hf, ρ, r, h⟩ := h
  unfold evE at h
  refine post.run r h fun rv ρ1 Hf1 H1 v r1 s1 hv h1 => post.run r1 h1 fun rv2 ρ2 Hf2 H2 v2 r2 s2 hv2 h2 => ?_
  obtain ⟨x, ex, h3⟩ := h2.optb
  obtain ⟨y, ey, h4⟩ := h3.optb
  obtain ⟨z, hd, hp⟩ := h4.finB r2
  exact ⟨Hf2, x, y, .bl z, r2.sub, (hv.mono s2).deref r2 ex, hv2.deref r2 ey, by show (cop o x y).map _ = _; rw [hd]; rfl, hp⟩
theorem rd_chn {o p : COp} (h : rdE g K c W (evE (.chn o p a b d)) σ H Q) : tChain (rB K fun x y => (cop o x y).map .bl) (rB K fun x y => (cop p x y).map .bl) (rdE g K c W (evE a)) (rdE g K c W (evE b)) (rdE g K c W (evE d)) σ H Q := by
  obtain ⟨Hf, ρ, r, h⟩ := h
  unfold evE at h
  refine post.run r h fun rv ρ1 Hf1 H1 v r1 s1 hv h1 => post.run r1 h1 fun rv2 ρ2 Hf2 H2 v2 r2 s2 hv2 h2 => ?_
  obtain ⟨x, rfl, h3⟩ := h2.asd
  obtain ⟨y, rfl, h4⟩ := h3.asd
  obtain ⟨z, ez, h5⟩ := h4.optb
  refine ⟨Hf2, x, y, .bl z, r2.sub, .inl (Rep.mono s2 hv), .inl hv2, by show (cop o x y).map _ = _; rw [ez]; rfl, fun v3 H3 Hf3 ad rep => ?_⟩
  cases rep
  refine ⟨z, rfl, ?_⟩
  cases z with
  | false =>
    rw [if_neg Bool.false_ne_true] at h5 ⊢
    exact h5 H3 Hf3 (r2.adv ad) ad.f _ (.bl _)
  | true =>
    rw [if_pos rfl] at h5 ⊢
    refine post.run (r2.adv ad) (h5.mono ad.f fun _ _ _ _ z => z) fun rv3 ρ3 Hf4 H4 v4 r4 s4 hv4 h6 => ?_
    obtain ⟨w, rfl, h7⟩ := h6.asd
    obtain ⟨t, hd, hp⟩ := h7.finB r4
    exact ⟨Hf4, y, w, .bl t, r4.sub, .inl (Rep.mono (ad.f.trans s4) hv2), .inl hv4, by show (cop p y w).map _ = _; rw [hd]; rfl, hp⟩
end
theorem k_cmp {o : COp} {op : CmpOp} {a b : E} {p q : Expr} (hc : Ctx cm X) (ho : copB o op = true) (hp : plainB q = true) (ha : PE X p (rdE g X.K c W (evE a))) (hb : PE X q (rdE g X.K c W (evE b))) : SE g X c W (.cmp o a b) (.Compare p [op] [q] pos) := by
  cases cop_ok ho
  exact ⟨PE_imp (pe_cmpR (op_cop hc.un o) ha hb (mark_of hp)) fun σ H Q h => rd_cmp h, fun _ => PT_imp (pt_cmpR (op_cop hc.un o) ha hb (mark_of hp)) fun σ H Q h => rd_cmp (rdT_E h)⟩
theorem k_chn {o o2 : COp} {op op2 : CmpOp} {a b d : E} {p q t : Expr} (hc : Ctx cm X) (ho : copB o op = true) (ho2 : copB o2 op2 = true) (hp2 : plainB t = true) (ha : PE X p (rdE g X.K c W (evE a))) (hb : PE X q (rdE g X.K c W (evE b))) (hd : PE X t (rdE g X.K c W (evE d))) :
    SE g X c W (.chn o o2 a b d) (.Compare p [op, op2] [q, t] pos) := by
  cases cop_ok ho
  cases cop_ok ho2
  have hm : lastMarks [copP o, copP o2] [q, t] = false := mark_of (op := copP o2) hp2
  exact ⟨PE_imp (pe_chain (op_cop hc.un o) (op_cop hc.un o2) ha hb hd hm) fun σ H Q h => rd_chn h, fun _ => PT_imp (pt_chain (op_cop hc.un o) (op_cop hc.un o2) ha hb hd hm) fun σ H Q h => rd_chn (rdT_E h)⟩
theorem k_and (h : AllE g X c W es' es) : SE g X c W (.and es') (.BoolOp .And es pos) := ⟨h.and, fun t => (h.andT t).pt⟩
theorem k_or (h : AllE g X c W es' es) : SE g X c W (.or es') (.BoolOp .Or es pos) := ⟨h.or, fun t => (h.orT t).pt⟩
theorem k_ite {t a b : E} {p q s : Expr} (ht : tOk t = true) (h1 : SE g X c W t p) (h2 : SE g X c W a q) (h3 : SE g X c W b s) : SE g X c W (.ite t a b) (.IfExp p q s pos) := by
  refine ⟨PE_imp (pe_ifExp (h1.2 ht) h2.1 h3.1) fun σ H Q ⟨Hf, ρ, r, h⟩ => ?_, fun z => by cases z⟩
  have e : evE (.ite t a b) ρ = (evT t ρ).bind fun k ρ => if k = true then evE a ρ else evE b ρ := by
    show _ = (asT (evE t) ρ).bind _
    rw [asT_bind]
    conv => lhs; unfold evE
  rw [e] at h
  refine post.runT r h fun b ρ1 Hf1 H1 r1 s1 h1 => ?_
  cases b with
  | true =>
    rw [if_pos rfl] at h1 ⊢
    exact ⟨Hf1, ρ1, r1, h1⟩
  | false =>
    rw [if_neg Bool.false_ne_true] at h1 ⊢
    exact ⟨Hf1, ρ1, r1, h1⟩
theorem k_tup {x1} (h : AllE g X c W es' es) : SE g X c W (.tup es') (.Tuple es x1 pos) := by
  have k : PE X (.Tuple es x1 pos) (rdE g X.K c W (evE (.tup es'))) := PE_imp (pe_tupU h.pa) fun σ H Q ⟨Hf, ρ, r, h⟩ => by
    unfold evE at h
    refine post.runA r h fun rvs ρ1 Hf1 H1 vs r1 s1 hvs h1 => ?_
    obtain ⟨ds, ed, h2⟩ := h1.optb
    have rs := hvs.asDs ed
    split at h2
    · rename_i hl
      exact ⟨by rw [rs.length]; exact line_lim hl, (h2.okd r1).tup r1.sub rs hl⟩
    · exact h2.elim
  exact ⟨k, fun _ => PT_of k (by intro _; rfl)⟩
theorem k_lst (h : AllE g X c W es' es) : SE g X c W (.lst es') (.List es pos) := by
  have k : PE X (.List es pos) (rdE g X.K c W (evE (.lst es'))) := PE_imp (pe_lst h.pa) fun σ H Q ⟨Hf, ρ, r, h⟩ => by
    unfold evE at h
    refine post.runA r h fun rvs ρ1 Hf1 H1 vs r1 s1 hvs h1 => ?_
    obtain ⟨ds, ed, h2⟩ := h1.optb
    have rs := hvs.asDs ed
    split at h2
    · rename_i hl
      exact ⟨by rw [rs.length]; exact line_lim hl, (h2.okd r1).lst r1.sub rs hl⟩
    · exact h2.elim
  exact ⟨k, fun _ => PT_of k (by intro _; rfl)⟩
theorem k_call {f : CallF} {p : Pos} (hco : CallOk g (wd X) f) (tk : Takes X W) (hg : glB X.env.scope f.name = true) (h : AllE g X c W es' es) : SE g X c W (.call f es') (.Call (.Name f.name p) es [] pos) := by
  obtain ⟨fa, fd, ps, k, F, rm, hm, hk, hb⟩ := hco
  obtain ⟨g1, g2, _⟩ := gl_ok hg
  have k : PE X (.Call (.Name f.name p) es [] pos) (rdE g X.K c W (evE (.call f es'))) := by
    cases h with
    | nil =>
      refine PE_imp (pe_callS0 F rm g1 hm hk hb (passAt tk) g2) fun σ H Q ⟨Hf, ρ, r, h⟩ => ?_
      exact call_end r .nil h
    | cons hp hs t =>
      refine PE_imp (pe_callS F rm g1 hm hk hb (passAt tk) (AllE.cons hp hs t).pa g2 (star_plain hp) t.any) fun σ H Q ⟨Hf, ρ, r, h⟩ => ?_
      unfold evE at h
      refine post.runA r h fun rvs ρ1 Hf1 H1 vs r1 s1 hvs h1 => ?_
      exact call_end r1 hvs h1
  exact ⟨k, fun _ => PT_of k (by intro _; rfl)⟩
theorem k_bi {b : BI} {p : Pos} (hc : Ctx cm X) (h1 : (cm || !biCalm b) = true) (hg : glB X.env.scope (biN b) = true) (hn : es'.isEmpty = false) (h : AllE g X c W es' es) : SE g X c W (.bi b es') (.Call (.Name (biN b) p) es [] pos) := by
  obtain ⟨g1, g2, g3⟩ := gl_ok hg
  have k : PE X (.Call (.Name (biN b) p) es [] pos) (rdE g X.K c W (evE (.bi b es'))) := by
    cases h with
    | nil => cases hn
    | cons hp hs t =>
      refine PE_imp (pe_biM hc.calm hc.un h1 g1 (hc.fre _ (biN_free b)) (AllE.cons hp hs t).pa g3 g2 (star_plain hp) t.any) fun σ H Q ⟨Hf, ρ, r, h⟩ => ?_
      unfold evE at h
      refine post.runA r h fun rvs ρ1 Hf1 H1 vs r1 s1 hvs h1 => ?_
      obtain ⟨ds, ed, h2⟩ := h1.optb
      obtain ⟨d, hd, hp⟩ := h2.fin r1
      exact ⟨Hf1, ds, d, r1.sub, hvs.derefs r1 ed, hd, hp⟩
  exact ⟨k, fun _ => PT_of k (by intro _; rfl)⟩
theorem k_me {m : ME} {o : E} {ob : Expr} {apos cpos : Pos} (hb : baseB ob = true) (hl : (apos.endLine == cpos.line) = true) (hm : meOk m = true) (hn : es'.isEmpty = false) (hw : es.length < 20) (ho : SE g X c W o ob) (h : AllE g X c W es' es) :
    SE g X c W (.me m o es') (.Call (.Attribute ob (meN m) apos) es [] cpos) := by
  have k : PE X (.Call (.Attribute ob (meN m) apos) es [] cpos) (rdE g X.K c W (evE (.me m o es'))) := by
    cases h with
    | nil => cases hn
    | cons hp hs t =>
      rename_i e' e es' es
      have hfew : ((backTo cpos (starEach (e :: es) X.env)).all (fun x => !x.1) && (backToKw cpos (keywordEach [] X.env)).all (fun x => x.1.isSome)
          && decide ((e :: es).length + ([] : List Keyword).length + (if ([] : List Keyword).isEmpty then 0 else 1) < 30)) = true := by
        rw [(AllE.cons hp hs t).all]
        have : decide ((e :: es).length + ([] : List Keyword).length + (if ([] : List Keyword).isEmpty then 0 else 1) < 30) = true := decide_eq_true (by
          show (e :: es).length + 0 + 0 < 30
          omega)
        rw [this]
        rfl
      refine PE_imp (pe_bm PySem.F.plainAttrs_str (me_slot m hm).1 (me_slot m hm).2 (mt_meM m hm) ho.1 (AllE.cons hp hs t).pa (base_ok hb) hfew hl (star_plain hp) t.any) fun σ H Q ⟨Hf, ρ, r, h⟩ => ?_
      unfold evE at h
      refine post.run r h fun rv ρ1 Hf1 H1 v r1 s1 hv h1 => ?_
      obtain ⟨x, rfl, h1⟩ := h1.asd
      obtain ⟨z, rfl, h1⟩ := h1.ass
      refine ⟨by rw [rep_str hv]; rfl, post.runA r1 h1 fun rvs ρ2 Hf2 H2 vs r2 s2 hvs h2 => ?_⟩
      obtain ⟨ds, ed, h4⟩ := h2.optb
      obtain ⟨d, hd, hp⟩ := h4.fin r2
      exact ⟨Hf2, .str z, ds, d, r2.sub, .inl (Rep.mono s2 hv), hvs.derefs r2 ed, hd, hp⟩
  exact ⟨k, fun _ => PT_of k (by intro _; rfl)⟩
end
end Mini
end

section
set_option Elab.async false
set_option linter.all false
set_option maxRecDepth 100000
/-! MT: trees: the frame rule, dicts that still change. -/
namespace Mini
open PySem L2

/-! ### from here on -/
/-- the same entry, from this state on: what the slots own may change -/
def C0.here (c : C0) (ρ : En) (σ : L2.St) (Hf H : Hp) : C0 := { c with Hf := Hf, H := H, fs := fun a => ∃ i, a ∈ ft H ρ σ i }
section
variable {K : PySem.W.Frag} {c : C0} {ρ ρ1 : En} {σ σ1 : L2.St} {Hf H Hf1 H1 : Hp}
theorem SlotR.xa {c' : C0} (e : c'.xa = c.xa) {s : Sl} {o : Option V} (h : SlotR K c Hf H s o) : SlotR K c' Hf H s o := by
  cases s with
  | exn x d =>
    obtain ⟨a, dx, f, v, h1, h2, h3⟩ := h
    exact ⟨a, dx, f, v, h1, by rw [e]; exact h2, h3⟩
  | no => trivial
  | val d => exact h
  | own d => exact h
  | tr d => exact h
theorem R.here (r : R K c ρ σ Hf H) : R K (c.here ρ σ Hf H) ρ σ Hf H :=
  ⟨r.len, fun i s o h1 h2 => (r.sl i s o h1 h2).xa rfl, fun i a h => .inl ⟨i, h⟩, r.inj, r.sub, Same.refl _, fun _ _ h _ => h, fun _ o h => ⟨o, h⟩, fun _ _ _ h _ => h, r.par⟩
theorem R.back_t (r0 : R K c ρ σ Hf H) (r : R K (c.here ρ σ Hf H) ρ1 σ1 Hf1 H1) : R K c ρ1 σ1 Hf1 H1 := by
  have nf : ∀ a o, c.H a = some o → ¬ c.fs a → ¬ (c.here ρ σ Hf H).fs a := fun a o h n ⟨j, k⟩ => by
    rcases r0.may j a k with z | z
    · exact n z
    · rw [h] at z; cases z
  refine ⟨r.len, fun i s o h1 h2 => (r.sl i s o h1 h2).xa rfl, fun i a h => ?_, r.inj, r.sub, r0.f0.trans r.f0, fun a o h n => r.keep a o (r0.keep a o h n) (nf a o h n), fun a o h => ?_, fun a o h n m => r.out a o (r0.keep a o h m) (r0.out a o h n m) (nf a o h m), r.par⟩
  · rcases r.may i a h with ⟨j, k⟩ | k
    · exact r0.may j a k
    · refine .inr ?_
      cases e : c.H a with
      | none => rfl
      | some o =>
        obtain ⟨u, hu⟩ := r0.live a o e
        rw [show H a = none from k] at hu
        cases hu
  · obtain ⟨u, hu⟩ := r0.live a o h
    exact r.live a u hu
/-- what no slot owns stays -/
theorem R.here_keep (r : R K (c.here ρ σ Hf H) ρ1 σ1 Hf1 H1) {a : Addr} {o : HO} (h : H a = some o) (n : NoOwn ρ σ H a) : H1 a = some o ∧ (Hf a = none → Hf1 a = none) :=
  ⟨r.keep a o h fun ⟨j, k⟩ => n j k, fun e => r.out a o h e fun ⟨j, k⟩ => n j k⟩
theorem post.here {g : Gx} {W : WX} {β : Type} {x : O β} {k : β → En → Hp → Hp → Prop} (r0 : R K c ρ σ Hf H) (h : post g K c W σ Hf k x) : post g K (c.here ρ σ Hf H) W σ Hf (fun a ρ1 Hf1 H1 => ∀ H2 Hf2, R K c ρ1 σ Hf2 H2 → Same Hf1 Hf2 → k a ρ1 Hf2 H2) x := by
  cases x with
  | ok a ρ1 => exact fun H' Hf' r s H2 Hf2 r2 s2 => h H2 Hf2 r2 (s.trans s2)
  | exc x d ρ1 => exact fun cls dx H' Hf' r s => h cls dx H' Hf' (r0.back_t r) s
  | bad => exact h
theorem R.ft_loose (r : R K c ρ σ Hf H) {p : Addr} {o : HO} (hn : NoOwn ρ σ H p) (hx : ∀ fs, H p ≠ some (.xd fs)) : NoOwn ρ σ (upd H p o) p := fun j m => by
  cases e : ρ[j]? with
  | none =>
    have m : p ∈ footO (upd H p o) ρ[j]? σ[j]? := m
    rw [e] at m
    cases m
  | some s =>
    obtain ⟨v, e2, q⟩ := r.at e
    have e3 : ft H ρ σ j = footO H (some s) (some v) := by show footO H ρ[j]? σ[j]? = _; rw [e, e2]
    have nj := hn j
    rw [e3] at nj
    obtain ⟨_, q2⟩ := q.mono (Hf' := Hf) (H' := upd H p o) (Same.refl _) (fun a ha => ⟨fun w hw => by rw [upd_ne fun z => nj (by rw [← z]; exact ha)]; exact hw, (q.fat a ha).2⟩) (fun a fs h => by
      rw [upd_ne fun z => by subst z; exact hx _ h]; exact h)
    have m : p ∈ footO (upd H p o) ρ[j]? σ[j]? := m
    rw [e, e2, q2] at m
    exact nj m
end

/-! ### data that is no tree -/
theorem Rep.ntr {K : PySem.W.Frag} {H : Hp} {v : V} {d : D} (h : Rep K H v d) : isTr d = false := by cases h <;> rfl
section
variable {K : PySem.W.Frag} {Hf : Hp}
theorem TReps.of_reps {H : Hp} : ∀ {ds : List D} {vs : List V}, Reps K Hf vs ds → TReps K Hf H ds vs ∧ TFoots H ds vs = []
  | [], _, .nil => ⟨rfl, rfl⟩
  | d :: ds, _, .cons h r => by
    obtain ⟨q1, q2⟩ := TReps.of_reps (H := H) r
    refine ⟨⟨_, _, rfl, .of_rep h, q1⟩, ?_⟩
    show TFoot H d _ ++ TFoots H ds _ = []
    rw [TFoot.none h.ntr, q2]
    rfl
theorem TReps.reps {H : Hp} : ∀ {ds : List D} {vs : List V}, TReps K Hf H ds vs → (∀ d ∈ ds, isTr d = false) → Reps K Hf vs ds
  | [], _, h, _ => by rw [show _ = [] from h]; exact .nil
  | d :: ds, _, h, n => by
    obtain ⟨v, r, rfl, h1, h2⟩ := h
    exact .cons (h1.rep (n d (List.mem_cons_self ..))) (TReps.reps h2 fun e he => n e (List.mem_cons_of_mem _ he))
end

/-! ### tables with text keys -/
abbrev kOf (k : List Nat) : Key := .inr (sOf k)
theorem kOf_inj {a b : List Nat} : kOf a = kOf b ↔ a = b := ⟨fun h => sOf_inj (Sum.inr.inj h), fun h => by rw [h]⟩
section
variable {K : PySem.W.Frag} {Hf H : Hp}
theorem mlook_get : ∀ {kvs : List (Key × V)} {ks : List (List Nat)} {ds : List D} {s : List Nat} {d : D}, kvs.map (·.1) = ks.map kOf → TReps K Hf H ds (kvs.map (·.2)) → (ks.zip ds).lookup s = some d → ∃ w, valV kvs (kOf s) = some w ∧ TRep K Hf H d w
  | [], [], _, _, _, _, _, e => by cases e
  | _ :: _, [], _, _, _, e1, _, _ => by cases e1
  | [], _ :: _, _, _, _, e1, _, _ => by cases e1
  | _ :: _, _ :: _, [], _, _, _, _, e => by cases e
  | (k1, v1) :: kvs, k :: ks, d1 :: ds, s, d, e1, h, e => by
    obtain ⟨v, r, e3, h1, h2⟩ := h
    cases e3
    rw [List.map_cons, List.map_cons] at e1
    injection e1 with e4 e5
    rw [List.zip_cons_cons, List.lookup_cons] at e
    by_cases hk : s = k
    · subst hk
      rw [beq_self_eq_true] at e
      cases e
      exact ⟨v1, valV_pos e4, h1⟩
    · rw [show (s == k) = false from beq_eq_false_iff_ne.mpr hk] at e
      obtain ⟨w, hw, hr⟩ := mlook_get e5 h2 e
      exact ⟨w, by rw [valV_neg (p := (k1, v1)) (fun z => hk (kOf_inj.mp (z.symm.trans e4)))]; exact hw, hr⟩
theorem put_any : ∀ {kvs : List (Key × V)} {ks : List (List Nat)} {s : List Nat}, kvs.map (·.1) = ks.map kOf → (kvs.any fun kv => decide (kv.1 = kOf s)) = ks.contains s
  | [], [], _, _ => rfl
  | _ :: _, [], _, e1 => by cases e1
  | [], _ :: _, _, e1 => by cases e1
  | (k1, v1) :: kvs, k :: ks, s, e1 => by
    rw [List.map_cons, List.map_cons] at e1
    injection e1 with e4 e5
    rw [List.any_cons, List.contains_cons, put_any e5]
    congr 1
    by_cases hk : s = k
    · subst hk
      rw [beq_self_eq_true]
      exact decide_eq_true e4
    · rw [show (s == k) = false from beq_eq_false_iff_ne.mpr hk]
      exact decide_eq_false fun z => hk (kOf_inj.mp (z.symm.trans e4))
theorem put_map {s : List Nat} {v : V} {d : D} (hv : Rep K Hf v d) : ∀ {kvs : List (Key × V)} {ks : List (List Nat)} {ds : List D}, kvs.map (·.1) = ks.map kOf → Reps K Hf (kvs.map (·.2)) ds →
    (kvs.map fun kv => if kv.1 = kOf s then (kv.1, v) else kv).map (·.1) = ks.map kOf ∧ Reps K Hf ((kvs.map fun kv => if kv.1 = kOf s then (kv.1, v) else kv).map (·.2)) (List.zipWith (fun k x => if k = s then d else x) ks ds)
  | [], [], _, _, h => by cases h; exact ⟨rfl, .nil⟩
  | _ :: _, [], _, e1, _ => by cases e1
  | [], _ :: _, _, e1, _ => by cases e1
  | (k1, v1) :: kvs, k :: ks, ds, e1, h => by
    rw [List.map_cons] at h
    cases h with
    | cons h1 h2 =>
      rename_i d1 ds
      rw [List.map_cons, List.map_cons] at e1
      injection e1 with e4 e5
      obtain ⟨q1, q2⟩ := put_map hv e5 h2
      rw [List.map_cons, List.map_cons, List.map_cons, List.map_cons, List.zipWith_cons_cons, q1]
      have e4 : k1 = kOf k := e4
      by_cases hk : k = s
      · subst hk
        rw [if_pos (show ((k1, v1) : Key × V).1 = kOf k from e4), if_pos rfl]
        exact ⟨by show k1 :: _ = _; rw [e4], .cons hv q2⟩
      · rw [if_neg (show ¬ ((k1, v1) : Key × V).1 = kOf s from fun z => hk (kOf_inj.mp (e4.symm.trans z))), if_neg hk]
        exact ⟨by show k1 :: _ = _; rw [e4], .cons h1 q2⟩
theorem mdPut_md {ks : List (List Nat)} {ds : List D} {s : List Nat} {d t : D} (e : mdPut (.md ks ds) s d = some t) : ds.all (fun d => !isTr d) = true ∧ ks.length < lim ∧ ((ks.contains s = true ∧ t = .md ks (List.zipWith (fun k x => if k = s then d else x) ks ds)) ∨
    (ks.contains s = false ∧ t = .md (ks ++ [s]) (ds ++ [d]))) := by
  have e : (if (ds.all (fun d => !isTr d) && (okS s && decide (ks.length < lim))) = true then (if ks.contains s = true then some (D.md ks (List.zipWith (fun k x => if k = s then d else x) ks ds)) else some (.md (ks ++ [s]) (ds ++ [d]))) else none) = some t := e
  by_cases h : (ds.all (fun d => !isTr d) && (okS s && decide (ks.length < lim))) = true
  · rw [if_pos h] at e
    obtain ⟨h1, h2⟩ := Bool.and_eq_true_iff.mp h
    refine ⟨h1, of_decide_eq_true (Bool.and_eq_true_iff.mp h2).2, ?_⟩
    by_cases hc : ks.contains s = true
    · rw [if_pos hc] at e
      exact .inl ⟨hc, (Option.some.inj e).symm⟩
    · rw [if_neg hc] at e
      exact .inr ⟨by simpa using hc, (Option.some.inj e).symm⟩
  · rw [if_neg h] at e
    cases e
theorem mdGet_md {ks : List (List Nat)} {ds : List D} {s : List Nat} {d : D} (e : mdGet (.md ks ds) s = some d) : (ks.zip ds).lookup s = some d ∧ isTr d = false := by
  have e : (match (ks.zip ds).lookup s with
    | some d => if isTr d = true then none else some d
    | none => none) = some d := e
  cases h : (ks.zip ds).lookup s with
  | none => rw [h] at e; cases e
  | some x =>
    rw [h] at e
    have e : (if isTr x = true then none else some x) = some d := e
    by_cases ht : isTr x = true
    · rw [if_pos ht] at e; cases e
    · rw [if_neg ht] at e
      cases e
      exact ⟨rfl, by simpa using ht⟩
/-- t[s] = d -/
theorem put_ok {kvs : List (Key × V)} {ks : List (List Nat)} {ds : List D} {s : List Nat} {v : V} {d t : D} (hk : kvs.map (·.1) = ks.map kOf) (hr : Reps K Hf (kvs.map (·.2)) ds) (hv : Rep K Hf v d) (e : mdPut (.md ks ds) s d = some t) :
    ∃ ks' ds', t = .md ks' ds' ∧ (putK kvs (kOf s) v).map (·.1) = ks'.map kOf ∧ Reps K Hf ((putK kvs (kOf s) v).map (·.2)) ds' := by
  obtain ⟨_, _, ⟨hc, rfl⟩ | ⟨hc, rfl⟩⟩ := mdPut_md e
  · unfold putK
    rw [put_any hk, if_pos hc]
    obtain ⟨q1, q2⟩ := put_map hv hk hr
    exact ⟨_, _, rfl, q1, q2⟩
  · unfold putK
    rw [put_any hk, hc, if_neg Bool.false_ne_true]
    refine ⟨_, _, rfl, ?_, ?_⟩
    · rw [List.map_append, List.map_append, hk]; rfl
    · rw [List.map_append]; exact hr.append (.cons hv .nil)
end

/-! ### reading a dict that still changes -/
variable {g : Gx} {X : Cx} {c : C0} {W : WX} {b : E} {q : Expr} {pos : Pos}
theorem ownT_ok {K : PySem.W.Frag} {ρ : En} {σ : L2.St} {Hf H : Hp} (r : R K c ρ σ Hf H) {i : Nat} (h : isOwnT ρ i = true) : ∃ v, σ[i]? = some (some v) := by
  unfold isOwnT at h
  split at h
  · rename_i ds e
    obtain ⟨p, vs, e1, _⟩ := r.own i ds e
    exact ⟨_, e1⟩
  · rename_i t e
    obtain ⟨o, e1, _, v, e2, _⟩ := r.at e
    exact ⟨v, by rw [e1, e2]⟩
  · cases h
theorem k_dg (hu : X.A.units + 64 < cLine) {i : Nat} {x : Str} {p2 : Pos} (hN : X.N[i]? = some x) (hv : visB X.env.scope x = true) (hq : plainB q = true) (hb : PE X q (rdE g X.K c W (evE b))) : SE g X c W (.dg i b) (.Subscript (.Name x p2) q pos) := by
  obtain ⟨h3, h4, h5⟩ := vis_ok hv
  have k : PE X (.Subscript (.Name x p2) q pos) (rdE g X.K c W (evE (.dg i b))) := PE_imp (pe_dget (by omega) (pe_var hN h3 h4 h5) hb (plainIx_of hq)) fun σ H Q ⟨Hf, ρ, r, h⟩ => by
    unfold evE at h
    split at h
    · rename_i ho
      obtain ⟨v0, e0⟩ := ownT_ok r ho
      refine ⟨v0, e0, post.run r h fun rv ρ1 Hf1 H1 v r1 s1 hv h1 => ?_⟩
      obtain ⟨y, rfl, h2⟩ := h1.asd
      obtain ⟨s, rfl, h3⟩ := h2.ass
      split at h3
      · rename_i t et
        obtain ⟨d, hd, hp⟩ := h3.fin r1
        obtain ⟨o, e1, _, v1, e2, ht, _⟩ := r1.at et
        rw [e0] at e1
        cases e1
        cases e2
        cases t with
        | md ks ds =>
          obtain ⟨pa, kvs, rfl, g1, g2, g3, g4⟩ := ht
          obtain ⟨e4, nt⟩ := mdGet_md hd
          obtain ⟨w, hw, hr⟩ := mlook_get g3 g4 e4
          have ev2 := rep_str hv
          subst ev2
          refine ⟨pa, w, rfl, ?_, hp.now r1.sub (hr.rep nt)⟩
          have := DGet.k (k := kOf s) g1
          rw [hw] at this
          exact this
        | _ => cases hd
      · exact h3.elim
    · exact h.elim
  exact ⟨k, fun _ => PT_of k (by intro _; rfl)⟩
end Mini
end

section
set_option Elab.async false
set_option linter.all false
set_option maxRecDepth 100000
set_option maxHeartbeats 4000000
/-! M14: the last constructors; every expression. -/
namespace Mini
open PySem L2

section
variable {g : Gx} {cm : Bool} {X : Cx} {c : C0} {W : WX} {es' : List E} {es : List Expr} {pos : Pos} {a : E} {p : Expr}
theorem tys_paired : ∀ ts : List Ty, Paired ClsV (ts.map fun t => V.ty (tyN t)) (ts.map fun t => Value.type (tyN t))
  | [] => .nil
  | t :: ts => .cons (.ty _) (tys_paired ts)
theorem k_isi1 {t : Ty} {q : Expr} {nm : Pos} (hc : Ctx cm X) (hg : glB X.env.scope ("isinstance" : Str) = true) (hp : plainB p = true) (hq : plainB q = true) (hy : tyB t X.env.scope q = true) (ha : PE X p (rdE g X.K c W (evE a))) :
    SE g X c W (.isi [t] a) (.Call (.Name ("isinstance" : Str) nm) [p, q] [] pos) := by
  obtain ⟨g1, g2, g3⟩ := gl_ok hg
  obtain ⟨k1, k2⟩ := ty_ok hc hy
  have k : PE X (.Call (.Name ("isinstance" : Str) nm) [p, q] [] pos) (rdE g X.K c W (evE (.isi [t] a))) := by
    refine PE_imp (pe_callB call_isi g1 (hc.fre _ (by decide +kernel)) (by decide +kernel) (pa_cons ha (pa_cons k1 pa_nil (star_plain hq)) (star_plain hp)) g3 g2 (star_plain hp) (by rw [star_plain hq] <;> rfl)) fun σ H Q ⟨Hf, ρ, r, h⟩ => ?_
    unfold evE at h
    refine post.run r h fun rv ρ1 Hf1 H1 v r1 s1 hv h1 => ?_
    obtain ⟨d, rfl, h2⟩ := h1.asd
    refine ⟨v, .ty (tyN t), tyW X.K d, .type (tyN t), isTy t d, rfl, .ty _, RepB.ty r1.sub (.inl hv), kit_M (Hf := Hf1) (H := H1) (v := v) t d (.inl hv) k2, ?_⟩
    have e : ([t].any fun t => isTy t d) = isTy t d := by simp
    rw [e] at h2
    exact (h2.okd r1).now r1.sub (.bl _)
  exact ⟨k, fun _ => PT_of k (by intro _; rfl)⟩
theorem k_isiT {ts : List Ty} {qs : List Expr} {x1 : Nat} {p2 nm : Pos} (hc : Ctx cm X) (hg : glB X.env.scope ("isinstance" : Str) = true) (hp : plainB p = true) (hl : ts.length < 1000) (hy : tysB X.env.scope ts qs = true) (ha : PE X p (rdE g X.K c W (evE a))) :
    SE g X c W (.isi ts a) (.Call (.Name ("isinstance" : Str) nm) [p, .Tuple qs x1 p2] [] pos) := by
  obtain ⟨g1, g2, g3⟩ := gl_ok hg
  obtain ⟨k1, k2⟩ := tys_ok hc hy
  have k : PE X (.Call (.Name ("isinstance" : Str) nm) [p, .Tuple qs x1 p2] [] pos) (rdE g X.K c W (evE (.isi ts a))) := by
    refine PE_imp (pe_callB call_isiT g1 (hc.fre _ (by decide +kernel)) (by decide +kernel) (pa_cons ha (pa_cons (pe_tup k1) pa_nil rfl) (star_plain hp)) g3 g2 (star_plain hp) rfl) fun σ H Q ⟨Hf, ρ, r, h⟩ => ?_
    unfold evE at h
    refine post.run r h fun rv ρ1 Hf1 H1 v r1 s1 hv h1 => ?_
    obtain ⟨d, rfl, h2⟩ := h1.asd
    refine ⟨by rw [List.length_map, sizeLine_eq]; omega, fun q hq => ?_⟩
    have A : Adv Hf1 H1 Hf1 (upd H1 q (.tup (ts.map fun t => V.ty (tyN t)))) := Adv.new' r1.sub hq
    exact ⟨v, q, _, tyW X.K d, _, _, rfl, upd_same, tys_paired ts, RepB.ty A.sub (.inl hv), kits_M (Hf := Hf1) (H := H1) (v := v) d (.inl hv) ts k2, h2 _ Hf1 (r1.adv A) (Same.refl _) _ (.bl _)⟩
  exact ⟨k, fun _ => PT_of k (by intro _; rfl)⟩
variable {b : E} {q : Expr}
theorem k_ix (hq : plainB q = true) (ha : PE X p (rdE g X.K c W (evE a))) (hb : PE X q (rdE g X.K c W (evE b))) : SE g X c W (.ix a b) (.Subscript p q pos) := by
  have k : PE X (.Subscript p q pos) (rdE g X.K c W (evE (.ix a b))) := PE_imp (pe_ix ix_M ha hb (plainIx_of hq)) fun σ H Q ⟨Hf, ρ, r, h⟩ => by
    unfold evE at h
    refine post.run r h fun rv ρ1 Hf1 H1 v r1 s1 hv h1 => post.run r1 h1 fun rv2 ρ2 Hf2 H2 v2 r2 s2 hv2 h2 => ?_
    obtain ⟨x, ex, h3⟩ := h2.optb
    obtain ⟨y, rfl, h4⟩ := h3.asd
    obtain ⟨i, rfl, h5⟩ := h4.asi
    obtain ⟨d, hd, hp⟩ := h5.fin r2
    exact ⟨Hf2, x, i, d, r2.sub, (hv.mono s2).deref r2 ex, rep_int hv2, hd, hp⟩
  exact ⟨k, fun _ => PT_of k (by intro _; rfl)⟩
theorem k_dix (hu : X.A.units + 64 < cLine) (hq : plainB q = true) (ha : PE X p (rdE g X.K c W (evE a))) (hb : PE X q (rdE g X.K c W (evE b))) : SE g X c W (.dix a b) (.Subscript p q pos) := by
  have k : PE X (.Subscript p q pos) (rdE g X.K c W (evE (.dix a b))) := PE_imp (pe_dget (by omega) ha hb (plainIx_of hq)) fun σ H Q ⟨Hf, ρ, r, h⟩ => by
    unfold evE at h
    refine post.run r h fun rv ρ1 Hf1 H1 v r1 s1 hv h1 => post.run r1 h1 fun rv2 ρ2 Hf2 H2 v2 r2 s2 hv2 h2 => ?_
    obtain ⟨x, rfl, h3⟩ := h2.asd
    obtain ⟨y, rfl, h4⟩ := h3.asd
    obtain ⟨z, rfl, h5⟩ := h4.ass
    obtain ⟨d, hd, hp⟩ := h5.fin r2
    have hv' : RepB X.K Hf2 H2 v x := .inl ((show Rep X.K Hf1 v x from hv).mono s2)
    obtain ⟨pa, w, ev, g1, g2⟩ := hv'.dic_get hd
    have ev2 := rep_str hv2
    subst ev ev2
    exact ⟨pa, w, rfl, DGet.str_mono r2.sub g1, hp.now r2.sub g2⟩
  exact ⟨k, fun _ => PT_of k (by intro _; rfl)⟩
theorem k_slLo {p2 : Pos} (ha : PE X p (rdE g X.K c W (evE a))) (hb : PE X q (rdE g X.K c W (evE b))) : SE g X c W (.slLo a b) (.Subscript p (.Slice (some q) none none p2) pos) := by
  have k : PE X (.Subscript p (.Slice (some q) none none p2) pos) (rdE g X.K c W (evE (.slLo a b))) := PE_imp (pe_slice sl_M ha (po_some hb) po_none) fun σ H Q ⟨Hf, ρ, r, h⟩ => by
    unfold evE at h
    refine post.run r h fun rv ρ1 Hf1 H1 v r1 s1 hv h1 => post.run r1 h1 fun rv2 ρ2 Hf2 H2 v2 r2 s2 hv2 h2 => ?_
    obtain ⟨x, ex, h3⟩ := h2.optb
    obtain ⟨y, rfl, h4⟩ := h3.asd
    obtain ⟨i, rfl, h5⟩ := h4.asi
    obtain ⟨d, hd, hp⟩ := h5.fin r2
    exact ⟨i, rep_int hv2, Hf2, x, d, r2.sub, (hv.mono s2).deref r2 ex, hd, hp⟩
  exact ⟨k, fun _ => PT_of k (by intro _; rfl)⟩
theorem k_slHi {p2 : Pos} (ha : PE X p (rdE g X.K c W (evE a))) (hb : PE X q (rdE g X.K c W (evE b))) : SE g X c W (.slHi a b) (.Subscript p (.Slice none (some q) none p2) pos) := by
  have k : PE X (.Subscript p (.Slice none (some q) none p2) pos) (rdE g X.K c W (evE (.slHi a b))) := PE_imp (pe_slice sl_M ha po_none (po_some hb)) fun σ H Q ⟨Hf, ρ, r, h⟩ => by
    unfold evE at h
    refine post.run r h fun rv ρ1 Hf1 H1 v r1 s1 hv h1 => post.run r1 h1 fun rv2 ρ2 Hf2 H2 v2 r2 s2 hv2 h2 => ?_
    obtain ⟨x, ex, h3⟩ := h2.optb
    obtain ⟨y, rfl, h4⟩ := h3.asd
    obtain ⟨i, rfl, h5⟩ := h4.asi
    obtain ⟨d, hd, hp⟩ := h5.fin r2
    exact ⟨i, rep_int hv2, Hf2, x, d, r2.sub, (hv.mono s2).deref r2 ex, hd, hp⟩
  exact ⟨k, fun _ => PT_of k (by intro _; rfl)⟩
theorem k_slLH {p2 : Pos} {d : E} {t : Expr} (ha : PE X p (rdE g X.K c W (evE a))) (hb : PE X q (rdE g X.K c W (evE b))) (hd : PE X t (rdE g X.K c W (evE d))) : SE g X c W (.slLH a b d) (.Subscript p (.Slice (some q) (some t) none p2) pos) := by
  have k : PE X (.Subscript p (.Slice (some q) (some t) none p2) pos) (rdE g X.K c W (evE (.slLH a b d))) := PE_imp (pe_slice sl_M ha (po_some hb) (po_some hd)) fun σ H Q ⟨Hf, ρ, r, h⟩ => by
    unfold evE at h
    refine post.run r h fun rv ρ1 Hf1 H1 v r1 s1 hv h1 => post.run r1 h1 fun rv2 ρ2 Hf2 H2 v2 r2 s2 hv2 h2 => ?_
    obtain ⟨y, rfl, h4⟩ := h2.asd
    obtain ⟨i, rfl, h5⟩ := h4.asi
    refine ⟨i, rep_int hv2, post.run r2 h5 fun rv3 ρ3 Hf3 H3 v3 r3 s3 hv3 h6 => ?_⟩
    obtain ⟨z, rfl, h7⟩ := h6.asd
    obtain ⟨j, rfl, h8⟩ := h7.asi
    obtain ⟨x, ex, h9⟩ := h8.optb
    obtain ⟨d, hd, hp⟩ := h9.fin r3
    exact ⟨j, rep_int hv3, Hf3, x, d, r3.sub, (hv.mono (s2.trans s3)).deref r3 ex, hd, hp⟩
  exact ⟨k, fun _ => PT_of k (by intro _; rfl)⟩
theorem k_pop {i : Nat} {x : Str} {p2 apos cpos : Pos} (hN : X.N[i]? = some x) (hv : visB X.env.scope x = true) (hl : (apos.endLine == cpos.line) = true) : SE g X c W (.pop i) (.Call (.Attribute (.Name x p2) ("pop" : Str) apos) [] [] cpos) := by
  obtain ⟨h3, h4, h5⟩ := vis_ok hv
  have k : PE X (.Call (.Attribute (.Name x p2) ("pop" : Str) apos) [] [] cpos) (rdE g X.K c W (evE (.pop i))) := by
    refine PE_imp (pe_bm0 PySem.F.plainAttrs_list PySem.F.slot_list_pop PySem.F.type_list_pop mt_pop (pe_var hN h3 h4 h5) rfl hl) fun σ H Q ⟨Hf, ρ, r, h⟩ => ?_
    unfold evE at h
    cases e1 : ρ[i]? with
    | none => rw [e1] at h; exact h.elim
    | some sl =>
      rw [e1] at h
      cases sl with
      | no => exact h.elim
      | val d => exact h.elim
      | exn _ _ => exact h.elim
      | tr _ => exact h.elim
      | own ds =>
        simp only at h
        cases e2 : ds.getLast? with
        | none => rw [e2] at h; exact h.elim
        | some d =>
          rw [e2] at h
          obtain ⟨q, vs, s1, k1, k2, k3, k4, k5⟩ := r.own i ds e1
          rw [List.getLast?_eq_getElem?] at e2
          obtain ⟨y, hy, ry⟩ := k3.get e2
          refine ⟨_, s1, .inl ⟨rfl, vs, SqL.of k1⟩, q, vs, y, rfl, rfl, k1, by rw [k3.length]; exact hy, ?_⟩
          exact h _ Hf (r.put e1 s1 k3.dropLast (by rw [List.length_dropLast]; omega)) (Same.refl _) y ry
  exact ⟨k, fun _ => PT_of k (by intro _; rfl)⟩

/-! ### dicts of the module -/
theorem k_gix {x : Str} {t : List (List Nat × D)} {nm : Pos} (hg : glB X.env.scope x = true) (hq : plainB q = true) (ht : TabOk (wd X) x t) (hb : PE X q (rdE g X.K c W (evE b))) : SE g X c W (.gix x t b) (.Subscript (.Name x nm) q pos) := by
  obtain ⟨g1, g2, g3⟩ := gl_ok hg
  obtain ⟨d, es, n, k1, k2, k3⟩ := ht
  have k : PE X (.Subscript (.Name x nm) q pos) (rdE g X.K c W (evE (.gix x t b))) := PE_imp (pe_ix ix_kdict (pe_glob (v := .ref d) g1 k1 rfl g2) hb (plainIx_of hq)) fun σ H Q ⟨Hf, ρ, r, h⟩ => by
    unfold evE at h
    refine post.run r h fun rv ρ1 Hf1 H1 v r1 s1 hv h1 => ?_
    obtain ⟨y, rfl, h2⟩ := h1.asd
    obtain ⟨z, rfl, h3⟩ := h2.ass
    obtain ⟨y, hy, hp⟩ := h3.fin r1
    have k4 := k3 z
    rw [hy] at k4
    obtain ⟨u, w, e1, e2, e3⟩ := k4
    exact ⟨d, sOf z, w, rfl, rep_str hv, ⟨es, n, u, k2.at_, k2.lit, e1, e2⟩, hp.now r1.sub (e3 _)⟩
  exact ⟨k, fun _ => PT_of k (by intro _; rfl)⟩
theorem idxT_at {s : List Nat} : ∀ {t : List (List Nat)} {n : Nat}, idxT s t = some n → (t.map sOf)[n]? = some (sOf s) ∧ ∀ m, m < n → (t.map sOf)[m]? ≠ some (sOf s)
  | [], n, h => by cases h
  | x :: xs, n, h => by
    unfold idxT at h
    split at h
    · rename_i e
      cases h
      exact ⟨by rw [e]; rfl, fun k hk => absurd hk (Nat.not_lt_zero k)⟩
    · rename_i e
      obtain ⟨m, hm, rfl⟩ := omap h
      obtain ⟨h1, h2⟩ := idxT_at hm
      refine ⟨by simpa using h1, fun k hk => ?_⟩
      cases k with
      | zero =>
        intro z
        exact e (sOf_inj (Option.some.inj z))
      | succ k => exact fun z => h2 k (by omega) (by simpa using z)
theorem k_gti {x : Str} {t : List (List Nat)} {nm apos cpos : Pos} (hg : glB X.env.scope x = true) (hl : (apos.endLine == cpos.line) = true) (hq : plainB q = true) (ht : TtOk (wd X) x t) (hb : PE X q (rdE g X.K c W (evE b))) :
    SE g X c W (.gti x t b) (.Call (.Attribute (.Name x nm) ("index" : Str) apos) [q] [] cpos) := by
  obtain ⟨g1, g2, g3⟩ := gl_ok hg
  obtain ⟨d, o, its, n, k1, k2, k3, k4, k5, k6, k7⟩ := ht
  have k : PE X (.Call (.Attribute (.Name x nm) ("index" : Str) apos) [q] [] cpos) (rdE g X.K c W (evE (.gti x t b))) := by
    refine PE_imp (pe_bm PySem.F.plainAttrs_tuple PySem.F.slot_tuple_index PySem.F.type_tuple_index mt_tup_index (pe_glob (v := .ref d) g1 k1 rfl g2) (pa_cons hb pa_nil (star_plain hq)) (base_ok (e := .Name x nm) rfl) (by rw [star_plain hq] <;> rfl) hl (star_plain hq) rfl) fun σ H Q ⟨Hf, ρ, r, h⟩ => ?_
    unfold evE at h
    refine ⟨.inr (.inl ⟨rfl, o, k2, k3, k4⟩), post.run r h fun rv ρ1 Hf1 H1 v r1 s1 hv h1 => ?_⟩
    obtain ⟨y, rfl, h2⟩ := h1.asd
    obtain ⟨z, rfl, h3⟩ := h2.ass
    obtain ⟨y, hy, hp⟩ := h3.fin r1
    obtain ⟨m, hm, rfl⟩ := omap hy
    obtain ⟨q1, q2⟩ := idxT_at hm
    exact ⟨d, t.map sOf, sOf z, m, rfl, by rw [rep_str hv], .inr ⟨o, its, n, k2, k3, k5, k6, k7⟩, q1, q2, hp.now r1.sub (.int _)⟩
  exact ⟨k, fun _ => PT_of k (by intro _; rfl)⟩
theorem SqU.pl {K : PySem.W.Frag} {H : Hp} {a : Addr} {xs : List V} (h : SqU K H a xs) : PlT K H a := by
  rcases h with ⟨ob, e, hd⟩ | ⟨o, its, n, e, hc, hd, _⟩
  · exact .inl ⟨ob, xs, e, hd⟩
  · exact .inr ⟨o, e, hc, hd⟩
theorem asTu_eq {x : D} {ds : List D} (h : asTu x = some ds) : x = .tup ds := by
  cases x <;> cases h
  rfl
theorem tm_slot : ∀ m : TM, Slot "tuple" (tmN m) (match m with | .index => "tuple.index" | .count => "tuple.count") ∧ typeOf (.builtin (match m with | .index => "tuple.index" | .count => "tuple.count")) = pure (.type "method_descriptor")
  | .index => ⟨PySem.F.slot_tuple_index, PySem.F.type_tuple_index⟩
  | .count => ⟨PySem.F.slot_tuple_count, PySem.F.type_tuple_count⟩
/-- what the methods of tuples tell -/
def rTM (K : PySem.W.Frag) (m : TM) : V → List V → Hp → VK → Prop := fun x xs H Q => ∃ Hf ds v b d, Same Hf H ∧ xs = [v] ∧ Rep K Hf x (.tup ds) ∧ Rep K Hf v b ∧ tmD m ds b = some d ∧ Post K Hf H Q d
theorem mt_tmM (hu : X.A.units + 64 < cLine) (m : TM) : MtR X (match m with | .index => "tuple.index" | .count => "tuple.count") (rTM X.K m) := by
  intro pins s σ H x xs v us Q I rx rs ⟨Hf, ds, w, b, d, sm, exs, hx, hw, ed, hq⟩
  subst exs
  obtain ⟨a, vs, rfl, sa, ra, _, _⟩ := (show RepB X.K Hf H x (.tup ds) from .inl hx).tup_ sm
  cases m with
  | count =>
    cases b with
    | int k =>
      have ed : ((dInts ds).map fun is => D.int ((is.countP fun y => decide (y = k) : Nat) : Int)) = some d := ed
      obtain ⟨is, h1, rfl⟩ := omap ed
      cases dInts_eq h1
      cases ra.ints
      cases rep_int hw
      exact mt_tcnt hu pins s σ H _ _ v us Q I rx rs ⟨_, is, k, rfl, rfl, sa, hq.now sm (.int _)⟩
    | _ => cases ed
  | index =>
    cases b with
    | str z =>
      have ed : ((dStrs ds).bind fun ss => (idxT z ss).map fun (n : Nat) => D.int (n : Int)) = some d := ed
      obtain ⟨ss, h1, h2⟩ := Option.bind_eq_some_iff.mp ed
      obtain ⟨n, h3, rfl⟩ := omap h2
      cases dStrs_eq h1
      cases ra.strs
      obtain ⟨q1, q2⟩ := idxT_at h3
      rw [rep_str hw] at rs
      exact mt_tup_index pins s σ H _ _ v us Q I rx rs ⟨_, ss.map sOf, sOf z, n, rfl, rfl, sa, q1, q2, hq.now sm (.int _)⟩
    | _ => cases ed
theorem k_tm {m : TM} {o : E} {ob : Expr} {apos cpos : Pos} (hc : Ctx cm X) (hb : baseB ob = true) (hl : (apos.endLine == cpos.line) = true) (hq : plainB q = true) (ho : SE g X c W o ob) (ha : PE X q (rdE g X.K c W (evE b))) :
    SE g X c W (.tm m o b) (.Call (.Attribute ob (tmN m) apos) [q] [] cpos) := by
  have k : PE X (.Call (.Attribute ob (tmN m) apos) [q] [] cpos) (rdE g X.K c W (evE (.tm m o b))) := by
    refine PE_imp (pe_tm (tm_slot m).1 (tm_slot m).2 (mt_tmM hc.un m) ho.1 (pa_cons ha pa_nil (star_plain hq)) (base_ok hb) (by rw [star_plain hq] <;> rfl) hl (star_plain hq) rfl) fun σ H Q ⟨Hf, ρ, r, h⟩ => ?_
    unfold evE at h
    refine post.run r h fun rv ρ1 Hf1 H1 v r1 s1 hv h1 => ?_
    obtain ⟨y, rfl, h2⟩ := h1.asd
    obtain ⟨ds, ed, h3⟩ := h2.optb
    cases asTu_eq ed
    cases id (show Rep X.K Hf1 v (.tup ds) from hv) with
    | tup g1 g2 g3 =>
      refine ⟨⟨_, rfl, (sqU_mono r1.sub g1).pl⟩, post.run r1 h3 fun rv2 ρ2 Hf2 H2 v2 r2 s2 hv2 h4 => ?_⟩
      obtain ⟨z, rfl, h5⟩ := h4.asd
      obtain ⟨d, hd, hp⟩ := h5.fin r2
      exact ⟨Hf2, ds, v2, z, d, r2.sub, rfl, Rep.mono s2 hv, hv2, hd, hp⟩
  exact ⟨k, fun _ => PT_of k (by intro _; rfl)⟩
theorem k_gsd {x : Str} {ys : List (List Nat)} {nm p1 pos : Pos} (hc : Ctx cm X) (hcm : cm = true) (hg : glB X.env.scope ("sorted" : Str) = true) (hgx : glB X.env.scope x = true) (ht : TksOk (wd X) x ys) :
    SE g X c W (.gsd x ys) (.Call (.Name ("sorted" : Str) nm) [.Name x p1] [] pos) := by
  obtain ⟨g1, g2, g3⟩ := gl_ok hg
  obtain ⟨h1, h2, h3⟩ := gl_ok hgx
  obtain ⟨d, es, n, ks, k1, kd, k2, k3, k4, k5, k6, k7⟩ := ht
  have k : PE X (.Call (.Name ("sorted" : Str) nm) [.Name x p1] [] pos) (rdE g X.K c W (evE (.gsd x ys))) := by
    refine PE_imp (pe_callB (call_sortedK (hc.calm hcm) kd k2 k3 k4 k5 k6) g1 (hc.fre _ (by decide +kernel)) (by kernel_rfl) (pa_cons (pe_glob (v := .ref d) h1 k1 rfl h2) pa_nil (star_plain (e := .Name x p1) rfl)) g3 g2 (star_plain (e := .Name x p1) rfl) rfl) fun σ H Q ⟨Hf, ρ, r, h⟩ => ?_
    unfold evE at h
    have hl : (ys.map D.str).length ≤ lim := by
      have e := k4.length_eq
      rw [List.length_map] at e
      rw [List.length_map, e]
      exact Nat.le_trans (Nat.le_of_lt k6) (by decide)
    exact ⟨rfl, (h.okd r).lst r.sub (Reps.of_strs k7) hl⟩
  exact ⟨k, fun _ => PT_of k (by intro _; rfl)⟩
theorem rd_gin {x : Str} {t : List (List Nat × D)} {neg : Bool} {K : PySem.W.Frag} {σ : L2.St} {H : Hp} {Q : VK} (h : rdE g K c W (evE (.gin neg x t b)) σ H Q) : rdE g K c W (evE b) σ H fun v H1 => ∃ z, v = .str (sOf z) ∧ Q (.bl (if neg then !(t.lookup z).isSome else (t.lookup z).isSome)) H1 := by
  obtain ⟨Hf, ρ, r, h⟩ := h
  unfold evE at h
  refine post.run r h fun rv ρ1 Hf1 H1 v r1 s1 hv h1 => ?_
  obtain ⟨y, rfl, h2⟩ := h1.asd
  obtain ⟨z, rfl, h3⟩ := h2.ass
  exact ⟨z, rep_str hv, (h3.okd r1).now r1.sub (.bl _)⟩
theorem k_gin {x : Str} {t : List (List Nat × D)} {neg : Bool} {nm : Pos} {op : CmpOp} (hg : glB X.env.scope x = true) (ho : copB (if neg then .notIn else .isIn) op = true) (ht : TabOk (wd X) x t) (hb : PE X q (rdE g X.K c W (evE b))) : SE g X c W (.gin neg x t b) (.Compare q [op] [.Name x nm] pos) := by
  obtain ⟨g1, g2, g3⟩ := gl_ok hg
  obtain ⟨d, es, n, k1, k2, k3⟩ := ht
  have fd : ∀ z, ∃ r, PySem.W.nsIn X.K d (sOf z) = some r ∧ r.isSome = (t.lookup z).isSome := fun z => by
    have k4 := k3 z
    cases e : t.lookup z with
    | none => rw [e] at k4; exact ⟨none, k4, rfl⟩
    | some y =>
      rw [e] at k4
      obtain ⟨u, w, e1, _⟩ := k4
      exact ⟨some u, e1, rfl⟩
  cases cop_ok ho
  cases neg with
  | false =>
    have key : ∀ σ H Q, rdE g X.K c W (evE (.gin false x t b)) σ H Q → tOp (fun x y H Q => ∃ (z : Str) (r : Option Value), x = .str z ∧ y = .ref d ∧ PySem.W.nsIn X.K d z = some r ∧ Q (.bl r.isSome) H) (rdE g X.K c W (evE b)) (tC (.ref d)) σ H Q := fun σ H Q h => by
      obtain ⟨Hf, ρ, r, h⟩ := rd_gin h
      refine ⟨Hf, ρ, r, h.mono (Same.refl _) fun rv ρ1 Hf1 H1 h v hv => ?_⟩
      obtain ⟨z, e, q⟩ := h v hv
      obtain ⟨o, e1, e2⟩ := fd z
      exact ⟨sOf z, o, e, rfl, e1, by rw [e2]; exact q⟩
    exact ⟨PE_imp (pe_cmpR (op_in_kd k2) hb (pe_glob (v := .ref d) g1 k1 rfl g2) rfl) key, fun _ => PT_imp (pt_cmpR (op_in_kd k2) hb (pe_glob (v := .ref d) g1 k1 rfl g2) rfl) fun σ H Q h => key σ H _ (rdT_E h)⟩
  | true =>
    have key : ∀ σ H Q, rdE g X.K c W (evE (.gin true x t b)) σ H Q → tOp (fun x y H Q => ∃ (z : Str) (r : Option Value), x = .str z ∧ y = .ref d ∧ PySem.W.nsIn X.K d z = some r ∧ Q (.bl (!r.isSome)) H) (rdE g X.K c W (evE b)) (tC (.ref d)) σ H Q := fun σ H Q h => by
      obtain ⟨Hf, ρ, r, h⟩ := rd_gin h
      refine ⟨Hf, ρ, r, h.mono (Same.refl _) fun rv ρ1 Hf1 H1 h v hv => ?_⟩
      obtain ⟨z, e, q⟩ := h v hv
      obtain ⟨o, e1, e2⟩ := fd z
      exact ⟨sOf z, o, e, rfl, e1, by rw [e2]; exact q⟩
    exact ⟨PE_imp (pe_cmpR (op_notIn_kd k2) hb (pe_glob (v := .ref d) g1 k1 rfl g2) rfl) key, fun _ => PT_imp (pt_cmpR (op_notIn_kd k2) hb (pe_glob (v := .ref d) g1 k1 rfl g2) rfl) fun σ H Q h => key σ H _ (rdT_E h)⟩
/-! ### what is walked -/
theorem src_it {tg : Expr} (ha : PE X p (rdE g X.K c W (evE a))) : PI X tg p (rdSrc g X.K c W (evSrc (.it a))) := by
  refine ⟨fun pins s σ H Q I ⟨Hf, ρ, r, h⟩ => ?_⟩
  unfold evSrc at h
  cases q : evE a ρ with
  | bad => rw [q] at h; exact h.elim
  | exc x d ρ1 => exact (pi_list ha).run pins s σ H Q I ⟨Hf, ρ, r, by rw [q] at h ⊢; exact h⟩
  | ok rv ρ1 =>
    rw [q] at h
    obtain ⟨d, rfl, h⟩ := post.asd (show post g X.K c W σ Hf _ ((O.opt (asD rv) ρ1).bind fun x ρ => O.opt (items x) ρ) from h)
    cases d with
    | tup ds =>
      refine (pi_tup ha).run pins s σ H Q I ⟨Hf, ρ, r, ?_⟩
      rw [q]
      intro H1 Hf1 r1 s1 v hv
      cases (show Rep X.K Hf1 v (.tup ds) from hv) with
      | tup hq hr hl => exact ⟨_, rfl, ⟨_, sqT_mono r1.sub hq.t⟩, h H1 Hf1 r1 s1 _ (it_tup hq.t hr)⟩
    | lst ds =>
      refine (pi_list ha).run pins s σ H Q I ⟨Hf, ρ, r, ?_⟩
      rw [q]
      intro H1 Hf1 r1 s1 v hv
      cases (show Rep X.K Hf1 v (.lst ds) from hv) with
      | lst hq hr hl => exact ⟨_, rfl, ⟨_, Same.seq r1.sub hq⟩, h H1 Hf1 r1 s1 _ (it_list hq hr)⟩
    | str cs =>
      refine (pi_str ha).run pins s σ H Q I ⟨Hf, ρ, r, ?_⟩
      rw [q]
      intro H1 Hf1 r1 s1 v hv
      cases (show Rep X.K Hf1 v (.str cs) from hv) with
      | str hok => exact ⟨_, rfl, h H1 Hf1 r1 s1 _ (it_str hok)⟩
    | _ => exact h.elim
theorem rng_ok {i : Int} (h : rngOk i = true) : -(2 ^ 62) ≤ i ∧ i < 2 ^ 62 := by
  obtain ⟨h1, h2⟩ := and3 h
  exact ⟨of_decide_eq_true h1, of_decide_eq_true h2⟩
theorem src_r1 {tg : Expr} {nm : Pos} (hc : Ctx cm X) (hg : glB X.env.scope ("range" : Str) = true) (hp : plainB p = true) (ha : PE X p (rdE g X.K c W (evE a))) : PI X tg (.Call (.Name ("range" : Str) nm) [p] [] pos) (rdSrc g X.K c W (evSrc (.r1 a))) := by
  obtain ⟨g1, g2, g3⟩ := gl_ok hg
  have k := pi_range1 (tg := tg) (p := nm) (pos := pos) g1 (hc.fre _ (by decide +kernel)) (pa_cons ha pa_nil (star_plain hp)) (star_plain hp)
  refine ⟨fun pins s σ H Q I ⟨Hf, ρ, r, h⟩ => k.run pins s σ H Q I ?_⟩
  unfold evSrc at h
  refine post.run r h fun rv ρ1 Hf1 H1 v r1 s1 hv h1 => ?_
  obtain ⟨d, rfl, h2⟩ := h1.asd
  obtain ⟨i, rfl, h3⟩ := h2.asi
  split at h3
  · rename_i hr
    obtain ⟨q1, q2⟩ := rng_ok hr
    refine ⟨i, by rw [rep_int hv], q1, q2, h3 H1 Hf1 r1 (Same.refl _) _ ?_⟩
    have := it_rng (K := X.K) (Hf := Hf1) (lo := 0) (hi := i)
    simpa using this
  · exact h3.elim
theorem src_r2 {tg : Expr} {nm : Pos} (hc : Ctx cm X) (hg : glB X.env.scope ("range" : Str) = true) (hp : plainB p = true) (hq : plainB q = true) (ha : PE X p (rdE g X.K c W (evE a))) (hb : PE X q (rdE g X.K c W (evE b))) :
    PI X tg (.Call (.Name ("range" : Str) nm) [p, q] [] pos) (rdSrc g X.K c W (evSrc (.r2 a b))) := by
  obtain ⟨g1, g2, g3⟩ := gl_ok hg
  have k := pi_range2 (tg := tg) (p := nm) (pos := pos) g1 (hc.fre _ (by decide +kernel)) (pa_cons ha (pa_cons hb pa_nil (star_plain hq)) (star_plain hp)) (by rw [star_plain hp, star_plain hq] <;> rfl) (star_plain hq)
  refine ⟨fun pins s σ H Q I ⟨Hf, ρ, r, h⟩ => k.run pins s σ H Q I ?_⟩
  unfold evSrc at h
  refine post.run r h fun rv ρ1 Hf1 H1 v r1 s1 hv h1 => post.run r1 h1 fun rv2 ρ2 Hf2 H2 v2 r2 s2 hv2 h2 => ?_
  obtain ⟨d, rfl, h2⟩ := h2.asd
  obtain ⟨i, rfl, h3⟩ := h2.asi
  obtain ⟨d, rfl, h4⟩ := h3.asd
  obtain ⟨j, rfl, h5⟩ := h4.asi
  split at h5
  · rename_i hr
    obtain ⟨hi, hj⟩ := and3 hr
    obtain ⟨q1, q2⟩ := rng_ok hi
    obtain ⟨q3, q4⟩ := rng_ok hj
    exact ⟨i, j, by rw [rep_int hv, rep_int hv2], ⟨q1, q2, q3, q4⟩, h5 H2 Hf2 r2 (Same.refl _) _ it_rng⟩
  · exact h5.elim

theorem src_rd {tg : Expr} {nm p1 p2 : Pos} {kk : Nat} (hc : Ctx cm X) (hg : glB X.env.scope ("range" : Str) = true) (hp : plainB p = true) (hq : plainB q = true) (ha : PE X p (rdE g X.K c W (evE a))) (hb : PE X q (rdE g X.K c W (evE b))) :
    PI X tg (.Call (.Name ("range" : Str) nm) [p, q, .UnaryOp .USub (.Constant (.int 1) kk p1) p2] [] pos) (rdSrc g X.K c W (evSrc (.rd a b))) := by
  obtain ⟨g1, g2, g3⟩ := gl_ok hg
  have km : PE X (.UnaryOp .USub (.Constant (.int 1) kk p1) p2) (tUn (rU fun i => .int (-i)) (tC (.int 1))) := pe_un un_neg pe_int
  have k := pi_range3 (tg := tg) (p := nm) (pos := pos) g1 (hc.fre _ (by decide +kernel)) (pa_cons ha (pa_cons hb (pa_cons km pa_nil rfl) (star_plain hq)) (star_plain hp)) (by rw [star_plain hp, star_plain hq] <;> rfl) (by rw [star_plain hq] <;> rfl)
  refine ⟨fun pins s σ H Q I ⟨Hf, ρ, r, h⟩ => k.run pins s σ H Q I ?_⟩
  unfold evSrc at h
  refine post.run r h fun rv ρ1 Hf1 H1 v r1 s1 hv h1 => post.run r1 h1 fun rv2 ρ2 Hf2 H2 v2 r2 s2 hv2 h2 => ?_
  obtain ⟨d, rfl, h2⟩ := h2.asd
  obtain ⟨i, rfl, h3⟩ := h2.asi
  obtain ⟨d, rfl, h4⟩ := h3.asd
  obtain ⟨j, rfl, h5⟩ := h4.asi
  split at h5
  · rename_i hr
    obtain ⟨hi, hj⟩ := and3 hr
    obtain ⟨q1, q2⟩ := rng_ok hi
    obtain ⟨q3, q4⟩ := rng_ok hj
    exact ⟨1, rfl, i, j, -1, _, by rw [rep_int hv, rep_int hv2], RgC.neg q1 q2 q3 q4, h5 H2 Hf2 r2 (Same.refl _) _ it_rngD⟩
  · exact h5.elim
theorem k_rev {p1 p2 p3 : Pos} {kk : Nat} (ha : PE X p (rdE g X.K c W (evE a))) : SE g X c W (.rev a) (.Subscript p (.Slice none none (some (.UnaryOp .USub (.Constant (.int 1) kk p1) p2)) p3) pos) := by
  have k : PE X (.Subscript p (.Slice none none (some (.UnaryOp .USub (.Constant (.int 1) kk p1) p2)) p3) pos) (rdE g X.K c W (evE (.rev a))) := PE_imp (pe_revM ha) fun σ H Q ⟨Hf, ρ, r, h⟩ => by
    unfold evE at h
    refine post.run r h fun rv ρ1 Hf1 H1 v r1 s1 hv h1 => ?_
    obtain ⟨x, ex, h2⟩ := h1.optb
    obtain ⟨d, hd, hp⟩ := h2.fin r1
    exact ⟨Hf1, x, d, r1.sub, hv.deref r1 ex, hd, hp⟩
  exact ⟨k, fun _ => PT_of k (by intro _; rfl)⟩
theorem catD_eq {x y d : D} (h : catD x y = some d) : bop .add x y = some d ∧ ∃ a b, x = .lst a ∧ y = .lst b ∧ d = .lst (a ++ b) ∧ a.length + b.length ≤ lim := by
  unfold catD at h
  split at h
  · rename_i a b
    split at h
    · rename_i hl
      cases h
      refine ⟨?_, a, b, rfl, rfl, rfl, hl⟩
      show (if a.length + b.length ≤ lim then some (D.lst (a ++ b)) else none) = _
      rw [if_pos hl]
    · cases h
  · cases h
theorem k_cat (ha : PE X p (rdE g X.K c W (evE a))) (hb : PE X q (rdE g X.K c W (evE b))) : SE g X c W (.cat a b) (.BinOp p .Add q pos) := by
  have k : PE X (.BinOp p .Add q pos) (rdE g X.K c W (evE (.cat a b))) := PE_imp (pe_op (op_bop .add) ha hb) fun σ H Q ⟨Hf, ρ, r, h⟩ => by
    unfold evE at h
    refine post.run r h fun rv ρ1 Hf1 H1 v r1 s1 hv h1 => post.run r1 h1 fun rv2 ρ2 Hf2 H2 v2 r2 s2 hv2 h2 => ?_
    obtain ⟨x, ex, h3⟩ := h2.optb
    obtain ⟨y, ey, h4⟩ := h3.optb
    obtain ⟨d, hd, hp⟩ := h4.fin r2
    exact ⟨Hf2, x, y, d, r2.sub, (hv.mono s2).deref r2 ex, hv2.deref r2 ey, (catD_eq hd).1, hp⟩
  exact ⟨k, fun _ => PT_of k (by intro _; rfl)⟩
theorem k_lrev {nm nm2 pos2 : Pos} (hc : Ctx cm X) (hcm : cm = true) (hg : glB X.env.scope ("list" : Str) = true) (hg2 : glB X.env.scope ("reversed" : Str) = true) (hp : plainB p = true) (ha : PE X p (rdE g X.K c W (evE a))) :
    SE g X c W (.lrev a) (.Call (.Name ("list" : Str) nm) [.Call (.Name ("reversed" : Str) nm2) [p] [] pos2] [] pos) := by
  obtain ⟨g1, _, _⟩ := gl_ok hg
  obtain ⟨g2, _, _⟩ := gl_ok hg2
  have k : PE X (.Call (.Name ("list" : Str) nm) [.Call (.Name ("reversed" : Str) nm2) [p] [] pos2] [] pos) (rdE g X.K c W (evE (.lrev a))) := PE_imp (pe_lrev (hc.calm hcm) g1 (hc.fre _ (by decide +kernel)) g2 (hc.fre _ (by decide +kernel)) ha (star_plain hp)) fun σ H Q ⟨Hf, ρ, r, h⟩ => by
    unfold evE at h
    refine post.run r h fun rv ρ1 Hf1 H1 v r1 s1 hv h1 => ?_
    obtain ⟨x, rfl, h2⟩ := h1.asd
    obtain ⟨d, hd, hp⟩ := h2.fin r1
    exact ⟨Hf1, x, d, r1.sub, hv, hd, hp⟩
  exact ⟨k, fun _ => PT_of k (by intro _; rfl)⟩

/-! ### comprehensions -/
theorem ownN_snd (N : List Str) (own : List Nat) : (ownN N own).map (·.2) = own := by
  unfold ownN
  rw [List.map_map]
  exact List.map_id' own
theorem evTs_pt {ifs' : List E} {ifs : List Expr} (hl : ifs'.length ≤ 1) (ht : tOks ifs' = true) (h : ∀ c, NoXa c → AllE g X c W0 ifs' ifs) : PTs X ifs (rdTx g X.K (evTs ifs')) := by
  have h0 := h ⟨fun _ => none, fun _ => none, [], fun _ => false, fun _ => False, fun _ _ _ _ => False⟩ fun _ _ _ _ z => z
  cases ifs' with
  | nil =>
    cases h0
    exact ⟨fun pins s σ H Q I ⟨c, Hf, ρ, r, h⟩ => pts_nil.run pins s σ H Q I (post.now h r)⟩
  | cons e' r =>
    cases r with
    | cons _ _ => simp at hl
    | nil =>
      cases ifs with
      | nil => cases h0
      | cons e r =>
        cases r with
        | cons _ _ => cases h0 with
          | cons _ _ t => cases t
        | nil =>
          refine pts_one (PT_ex fun c => ?_)
          cases h c.1 c.2 with
          | cons hp hs t =>
            refine PT_imp (hs.2 (and3 ht).1) fun σ H Q ⟨Hf, ρ, r, h⟩ => ⟨Hf, ρ, r, ?_⟩
            have e : evTs [e'] ρ = evT e' ρ := by
              show _ = asT (evE e') ρ
              rw [asT_id, asT_bind]
              unfold evTs
              rfl
            rw [e] at h
            exact h
theorem k_lc {t : Tgt} {own : List Nat} {s : Src} {ifs' : List E} {elt' : E} {tg it elt : Expr} {ifs : List Expr} {scope : Scope} (hc : Ctx cm X) (hno : NoXa c) (hcm : cm = true) (hs : ∀ i ∈ tgOwn t, i ∈ own) (ok : blkC X.N X.env.scope scope (ownN X.N own) = true)
    (ht : chkT scope X.N (relS scope X.env.scope) t tg = true) (hi : PI X tg it (rdSrc g X.K c W (evSrc s))) (hst : ∀ x, foldedSetIterable it X.env x = pure x) (hl : ifs'.length ≤ 1) (hts : tOks ifs' = true)
    (hf : ∀ (s : Shared) (H : Hp) (C : Addr) (cl : List (Str × Addr)) (fp : List Addr) (c : C0), NoXa c → AllE g (X.blk s H scope (compEnvC scope cl C X.env) fp) c W0 ifs' ifs)
    (he : ∀ (s : Shared) (H : Hp) (C : Addr) (cl : List (Str × Addr)) (fp : List Addr) (c : C0), NoXa c → SE g (X.blk s H scope (compEnvC scope cl C X.env) fp) c W0 elt' elt) : SE g X c W (.lc t own s ifs' elt') (.ListComp elt [⟨tg, it, ifs, 0⟩] scope pos) := by
  have k : PE X (.ListComp elt [⟨tg, it, ifs, 0⟩] scope pos) (rdE g X.K c W (evE (.lc t own s ifs' elt'))) := by
    refine PE_imp (pe_lc (g := gT X.K t) (tt := rdTx g X.K (evTs ifs')) (te := rdEx g X.K (evE elt')) (hc.calm hcm) hc.nd hi (blkOk_by ok) (fun s H C cl fp => pgT_ok (X := X.blk s H scope (compEnvC scope cl C X.env) fp) hc.nd (hc.calm hcm) (fun x hx => by
      show (scope.names.lookup x == some .cell) = true
      rw [hx] <;> rfl) ht) (fun s H C cl fp => evTs_pt hl hts (hf s H C cl fp)) (fun s H C cl fp => PE_ex (t := fun c : {c : C0 // NoXa c} => rdE g X.K c.1 W0 (evE elt')) fun c => (he s H C cl fp c.1 c.2).1) hst) fun σ H Q ⟨Hf, ρ, r, h⟩ => ?_
    unfold evE at h
    refine ⟨Hf, ρ, r, h.bind fun xs ρ1 Hf1 H1 r1 s1 h1 J itk D hD => ?_⟩
    rw [ownN_snd]
    split at h1
    · rename_i fr
      split at h1
      · rename_i ys ρ2 hgo
        refine lc_end hno r1 fr itk hs hgo hD fun H' Hf' vs r2 sf d1 d2 dn reps len => ?_
        have sm : Same Hf' (upd Hf' D (.lst vs)) := same_upd d2
        exact h1 H' _ (r2.frzN d1 d2 (.inr (r1.fresh hD)) dn) (sf.trans sm) _ (.lst (SqL.of upd_same) (reps.mono sm) len)
      · exact h1.elim
    · exact h1.elim
  exact ⟨k, fun _ => PT_of k (by intro _; rfl)⟩
end
theorem plainSrc {cm : Bool} {N : List Str} {sc : Scope} {s : Src} {p : Expr} (h : chkSrc cm N sc s p = true) {env : PySem.Env} (x : Value) : foldedSetIterable p env x = pure x := by
  cases s with
  | it e => exact notSet_of (and3 h).1 x
  | r1 a => cases p <;> first | rfl | cases h
  | r2 a b => cases p <;> first | rfl | cases h
  | rd a b => cases p <;> first | rfl | cases h

/-- an exception that is at hand can be read -/
def XaOk (g : Gx) (X : Cx) (a dx : Addr) (x : Nat) (f : Str) : Prop := f = g.xf x ∧ ∃ (X0 : Cx) (oe : Obj) (pn : List (Addr × Obj)), X = X0.suite a ((a, oe) :: pn) ∧ Zc (.ref (g.xc x)) (some dx) oe ∧ ∃ vs, oe.data = .fields vs
structure XOk (g : Gx) (cm : Bool) (X : Cx) (c : C0) : Prop where
  no : cm = true → NoXa c
  ok : ∀ a dx x f, c.xa a dx x f → XaOk g X a dx x f
theorem XOk.of {g : Gx} {cm : Bool} {X : Cx} {c : C0} (h : NoXa c) : XOk g cm X c := ⟨fun _ => h, fun _ _ _ _ z => (h _ _ _ _ z).elim⟩
theorem k_fld {g : Gx} {cm : Bool} {X : Cx} {c : C0} {W : WX} {i x : Nat} {y f : Str} {p2 pos : Pos} (hx : XOk g cm X c) (hN : X.N[i]? = some y) (hv : visB X.env.scope y = true) (hf : g.xf x = f) (T : XfC X.K (g.xc x)) (hno : PySem.W.findIn X.K (.ref (g.xc x)) f = some none) :
    SE g X c W (.fld i x f) (.Attribute (.Name y p2) f pos) := by
  obtain ⟨h3, h4, h5⟩ := vis_ok hv
  have k : PE X (.Attribute (.Name y p2) f pos) (rdE g X.K c W (evE (.fld i x f))) := by
    refine ⟨fun pins s σ H Q I ⟨Hf, ρ, r, h⟩ => ?_⟩
    unfold evE at h
    cases e1 : ρ[i]? with
    | none => rw [e1] at h; exact h.elim
    | some sl =>
      rw [e1] at h
      cases sl with
      | no => exact h.elim
      | val d => exact h.elim
      | own ds => exact h.elim
      | tr _ => exact h.elim
      | exn z d =>
        simp only at h
        split at h
        · rename_i ez
          subst ez
          obtain ⟨a, dx, f', v, s1, xa, k1, k2⟩ := r.exn i z d e1
          obtain ⟨ef, X0, oe, pn, eX, hz, hd⟩ := hx.ok a dx z f' xa
          subst eX
          have P := pe_xf (X := X0) (pn := pn) (pos := pos) (n := f) (te := tVar i) (e := .Name y p2) T hno hz hd (pe_var (pos := p2) hN h3 h4 h5)
          refine P.run pins s σ H Q I ⟨_, s1, rfl, rfl, dx, _, v, rfl, k1, ?_, h H Hf r (Same.refl _) v k2⟩
          rw [ef, hf]
          simp
        · exact h.elim
  exact ⟨k, fun _ => PT_of k (by intro _; rfl)⟩
theorem k_isx {g : Gx} {cm : Bool} {X : Cx} {c : C0} {W : WX} {i x : Nat} {y C : Str} {b : Bool} {p1 p2 nm pos : Pos} (hc : Ctx cm X) (hx : XOk g cm X c) (hg : glB X.env.scope ("isinstance" : Str) = true) (hN : X.N[i]? = some y) (hv : visB X.env.scope y = true) (hC : glB X.env.scope C = true) (T : XIs (wd X) (g.xc x) C b) :
    SE g X c W (.isx i x C b) (.Call (.Name ("isinstance" : Str) nm) [.Name y p1, .Name C p2] [] pos) := by
  obtain ⟨h3, h4, h5⟩ := vis_ok hv
  obtain ⟨g1, g2, g3⟩ := gl_ok hg
  obtain ⟨c1, c2, c3⟩ := gl_ok hC
  obtain ⟨cl, cv, hcv, ⟨v, rv, ru⟩, hk⟩ := T
  have k : PE X (.Call (.Name ("isinstance" : Str) nm) [.Name y p1, .Name C p2] [] pos) (rdE g X.K c W (evE (.isx i x C b))) := by
    refine ⟨fun pins s σ H Q I ⟨Hf, ρ, r, h⟩ => ?_⟩
    unfold evE at h
    cases e1 : ρ[i]? with
    | none => rw [e1] at h; exact h.elim
    | some sl =>
      rw [e1] at h
      cases sl with
      | no => exact h.elim
      | val d => exact h.elim
      | own ds => exact h.elim
      | tr _ => exact h.elim
      | exn z d =>
        simp only at h
        split at h
        · rename_i ez
          subst ez
          obtain ⟨a, dx, f', w, s1, xa, k1, k2⟩ := r.exn i z d e1
          obtain ⟨ef, X0, oe, pn, eX, hz, hd⟩ := hx.ok a dx z f' xa
          subst eX
          have pC : PE (X0.suite a ((a, oe) :: pn)) (.Name C p2) (tC v) := by
            rcases hcv with e | ⟨e, eb⟩
            · exact pe_glob c1 e rv c2
            · exact pe_bltn c1 e eb rv c3 c2
          have P := pe_callB (X := X0.suite a ((a, oe) :: pn)) (pos := pos) (p := nm) (call_isX cl hz hd) g1 (hc.fre _ (by decide +kernel)) (by decide +kernel) (pa_cons (pe_var (pos := p1) hN h3 h4 h5) (pa_cons pC pa_nil rfl) rfl) g3 g2 rfl rfl
          exact P.run pins s σ H Q I ⟨_, s1, v, cv, b, [(f', w)], rfl, ru, k1, hk, (h H Hf r (Same.refl _)) _ (.bl b)⟩
        · exact h.elim
  exact ⟨k, fun _ => PT_of k (by intro _; rfl)⟩
mutual
theorem sE {g : Gx} {cm : Bool} : ∀ (e' : E) {X : Cx} {c : C0} {W : WX} {e : Expr}, Ctx cm X → XOk g cm X c → chkE cm X.N X.env.scope e' e = true → okE g (wd X) e' → Takes X W → SE g X c W e' e
  | .v i, X, c, W, e, hc, hx, hk, ho, tk => by
    unfold chkE at hk
    split at hk
    · rename_i x pos
      obtain ⟨h1, h2⟩ := and3 hk
      obtain ⟨h3, h4, h5⟩ := vis_ok h2
      have k : PE X (.Name x pos) (rdE g X.K c W (evE (.v i))) := PE_imp (pe_var (of_decide_eq_true h1) h3 h4 h5) fun σ H Q ⟨Hf, ρ, r, h⟩ => by
        unfold evE at h
        cases e1 : ρ[i]? with
        | none => rw [e1] at h; exact h.elim
        | some sl =>
          rw [e1] at h
          cases sl with
          | no => exact h.elim
          | val d =>
            obtain ⟨v, s, q⟩ := r.val i d e1
            exact ⟨v, s, post.now h r v q⟩
          | exn _ _ => exact h.elim
          | own ds =>
            obtain ⟨p, vs, s, _⟩ := r.own i ds e1
            exact ⟨_, s, post.now h r _ s⟩
          | tr ds =>
            obtain ⟨p, s, _⟩ := r.tre i ds e1
            exact ⟨_, s, post.now h r _ s⟩
      exact ⟨k, fun _ => PT_of k (by intro _; rfl)⟩
    · cases hk
  | .c d, X, c, W, e, hc, hx, hk, ho, tk => by
    unfold chkE at hk
    split at hk
    · rename_i co kk pos
      obtain ⟨v, p, q⟩ := const_ok (K := X.K) (Hf := fun _ => none) (X := X) (k := kk) (pos := pos) hk
      have k : PE X (.Constant co kk pos) (rdE g X.K c W (evE (.c d))) := PE_imp p fun σ H Q ⟨Hf, ρ, r, h⟩ => post.now h r v (q.mono fun _ _ z => by cases z)
      exact ⟨k, fun _ => PT_of k (by intro _; rfl)⟩
    · cases hk
  | .g x d, X, c, W, e, hc, hx, hk, ho, tk => by
    unfold chkE at hk
    split at hk
    · rename_i y pos
      obtain ⟨h1, h2⟩ := and3 hk
      have h1 := of_decide_eq_true h1
      subst h1
      obtain ⟨g1, g2, g3⟩ := gl_ok h2
      obtain ⟨u, w, k1, k2, k3⟩ := (show GlobOk (wd X) y d from ho)
      have k : PE X (.Name y pos) (rdE g X.K c W (evE (.g y d))) := PE_imp (pe_glob g1 k1 k2 g2) fun σ H Q ⟨Hf, ρ, r, h⟩ => post.now h r w (k3 Hf)
      exact ⟨k, fun _ => PT_of k (by intro _; rfl)⟩
    · cases hk
  | .gix x t a, X, c, W, e, hc, hx, hk, ho, tk => by
    unfold chkE at hk
    split at hk
    · split at hk
      · obtain ⟨hk, h4⟩ := and3 hk
        obtain ⟨hk, h3⟩ := and3 hk
        obtain ⟨h1, h2⟩ := and3 hk
        have h1 := of_decide_eq_true h1
        subst h1
        exact k_gix h2 h3 ho.1 (sE a hc hx h4 ho.2 tk).1
      · cases hk
    · cases hk
  | .gin n x t a, X, c, W, e, hc, hx, hk, ho, tk => by
    unfold chkE at hk
    split at hk
    · split at hk
      · split at hk
        · obtain ⟨hk, h4⟩ := and3 hk
          obtain ⟨hk, h3⟩ := and3 hk
          obtain ⟨h1, h2⟩ := and3 hk
          have h1 := of_decide_eq_true h1
          subst h1
          exact k_gin h2 h3 ho.1 (sE a hc hx h4 ho.2 tk).1
        · cases hk
      · cases hk
    · cases hk
  | .gti x t a, X, c, W, e, hc, hx, hk, ho, tk => by
    unfold chkE at hk
    split at hk
    · split at hk
      · split at hk
        · obtain ⟨hk, h6⟩ := and3 hk
          obtain ⟨hk, h5⟩ := and3 hk
          obtain ⟨hk, h4⟩ := and3 hk
          obtain ⟨hk, h3⟩ := and3 hk
          obtain ⟨h1, h2⟩ := and3 hk
          have h1 := of_decide_eq_true h1
          subst h1
          have h3 := of_decide_eq_true h3
          subst h3
          exact k_gti h2 h4 h5 ho.1 (sE a hc hx h6 ho.2 tk).1
        · cases hk
      · cases hk
    · cases hk
  | .gsd x ys, X, c, W, e, hc, hx, hk, ho, tk => by
    unfold chkE at hk
    split at hk
    · split at hk
      · split at hk
        · obtain ⟨hk, h5⟩ := and3 hk
          obtain ⟨hk, h4⟩ := and3 hk
          obtain ⟨hk, h3⟩ := and3 hk
          obtain ⟨h1, h2⟩ := and3 hk
          have h1 := of_decide_eq_true h1
          have h2 := of_decide_eq_true h2
          subst h1 h2
          exact k_gsd hc h5 h3 h4 ho
        · cases hk
      · cases hk
    · cases hk
  | .fld i x f, X, c, W, e, hc, hx, hk, ho, tk => by
    unfold chkE at hk
    split at hk
    · split at hk
      · obtain ⟨hk, h3⟩ := and3 hk
        obtain ⟨h1, h2⟩ := and3 hk
        have h1 := of_decide_eq_true h1
        subst h1
        exact k_fld hx (of_decide_eq_true h2) h3 ho.1 ho.2.1 ho.2.2
      · cases hk
    · cases hk
  | .isx i x C b, X, c, W, e, hc, hx, hk, ho, tk => by
    unfold chkE at hk
    split at hk
    · split at hk
      · split at hk
        · obtain ⟨hk, h6⟩ := and3 hk
          obtain ⟨hk, h5⟩ := and3 hk
          obtain ⟨hk, h4⟩ := and3 hk
          obtain ⟨hk, h3⟩ := and3 hk
          obtain ⟨h1, h2⟩ := and3 hk
          have h1 := of_decide_eq_true h1
          have h5 := of_decide_eq_true h5
          subst h1 h5
          exact k_isx hc hx h2 (of_decide_eq_true h3) h4 h6 ho
        · cases hk
      · cases hk
    · cases hk
  | .bin o a b, X, c, W, e, hc, hx, hk, ho, tk => by
    unfold chkE at hk
    split at hk
    · rename_i p op q pos
      obtain ⟨hk, h3⟩ := and3 hk
      obtain ⟨h1, h2⟩ := and3 hk
      cases bop_ok h1
      have k : PE X (.BinOp p (bopP o) q pos) (rdE g X.K c W (evE (.bin o a b))) := PE_imp (pe_op (op_bop o) (sE a (c := c) hc hx h2 ho.1 tk).1 (sE b (c := c) hc hx h3 ho.2 tk).1) fun σ H Q ⟨Hf, ρ, r, h⟩ => by
        refine post.run r h fun rv ρ1 Hf1 H1 v r1 s1 hv h1 => post.run r1 h1 fun rv2 ρ2 Hf2 H2 v2 r2 s2 hv2 h2 => ?_
        obtain ⟨x, ex, h3⟩ := h2.optb
        obtain ⟨y, ey, h4⟩ := h3.optb
        obtain ⟨d, hd, hp⟩ := h4.fin r2
        exact ⟨Hf2, x, y, d, r2.sub, (hv.mono s2).deref r2 ex, hv2.deref r2 ey, hd, hp⟩
      exact ⟨k, fun _ => PT_of k (by intro _; rfl)⟩
    · cases hk
  | .neg a, X, c, W, e, hc, hx, hk, ho, tk => by
    unfold chkE at hk
    split at hk
    · rename_i op p pos
      split at hk
      · have k : PE X (.UnaryOp .USub p pos) (rdE g X.K c W (evE (.neg a))) := PE_imp (pe_un un_neg (sE a (c := c) hc hx hk ho tk).1) fun σ H Q ⟨Hf, ρ, r, h⟩ => by
          refine post.run r h fun rv ρ1 Hf1 H1 v r1 s1 hv h1 => ?_
          obtain ⟨d, rfl, h2⟩ := h1.asd
          obtain ⟨i, rfl, h3⟩ := h2.asi
          exact ⟨i, rep_int hv, (h3.okd r1).now r1.sub (.int _)⟩
        exact ⟨k, fun _ => PT_of k (by intro _; rfl)⟩
      · cases hk
    · cases hk
  | .not a, X, c, W, e, hc, hx, hk, ho, tk => by
    unfold chkE at hk
    split at hk
    · rename_i op p pos
      split at hk
      · have ih := sE (g := g) a (c := c) hc hx hk ho tk
        refine ⟨PE_imp (pe_not ih.1) fun σ H Q ⟨Hf, ρ, r, h⟩ => ?_, fun ht => PT_imp (pt_not (ih.2 ht)) fun σ H Q ⟨Hf, ρ, r, h⟩ => ?_⟩
        · refine post.run r h fun rv ρ1 Hf1 H1 v r1 s1 hv h1 => ?_
          obtain ⟨d, rfl, h2⟩ := h1.asd
          obtain ⟨b, rfl, h3⟩ := h2.asb
          exact ⟨b, rep_bl hv, (h3.okd r1).now r1.sub (.bl _)⟩
        · have h : post g X.K c W σ Hf (fun b _ _ H' => Q b H') ((evT a ρ).bind fun b ρ => .ok (!b) ρ) := by
            unfold evT evE at h
            unfold evT
            cases q : evE a ρ with
            | bad => rw [q] at h; exact h
            | exc _ _ _ => rw [q] at h; exact h
            | ok rv ρ1 =>
              rw [q] at h
              cases rv with
              | o i => exact h
              | d x => cases x <;> exact h
          refine post.runT r h fun b ρ1 Hf1 H1 r1 s1 h1 => h1.now r1
      · cases hk
    · cases hk
  | .cmp o a b, X, c, W, e, hc, hx, hk, ho, tk => by
    unfold chkE at hk
    split at hk
    · split at hk
      · obtain ⟨hk, h4⟩ := and3 hk
        obtain ⟨hk, h3⟩ := and3 hk
        obtain ⟨h1, h2⟩ := and3 hk
        exact k_cmp hc h1 h2 (sE a hc hx h3 ho.1 tk).1 (sE b hc hx h4 ho.2 tk).1
      · cases hk
    · cases hk
  | .chn o o2 a b d, X, c, W, e, hc, hx, hk, ho, tk => by
    unfold chkE at hk
    split at hk
    · split at hk
      · obtain ⟨hk, h7⟩ := and3 hk
        obtain ⟨hk, h6⟩ := and3 hk
        obtain ⟨hk, h5⟩ := and3 hk
        obtain ⟨hk, h4⟩ := and3 hk
        obtain ⟨hk, h3⟩ := and3 hk
        obtain ⟨h1, h2⟩ := and3 hk
        exact k_chn hc h1 h2 h7 (sE a hc hx h3 ho.1 tk).1 (sE b hc hx h4 ho.2.1 tk).1 (sE d hc hx h5 ho.2.2 tk).1
      · cases hk
    · cases hk
  | .and es, X, c, W, e, hc, hx, hk, ho, tk => by
    unfold chkE at hk
    split at hk
    · split at hk
      · exact k_and (sEs es hc hx hk ho tk)
      · cases hk
    · cases hk
  | .or es, X, c, W, e, hc, hx, hk, ho, tk => by
    unfold chkE at hk
    split at hk
    · split at hk
      · exact k_or (sEs es hc hx hk ho tk)
      · cases hk
    · cases hk
  | .ite t a b, X, c, W, e, hc, hx, hk, ho, tk => by
    unfold chkE at hk
    split at hk
    · obtain ⟨hk, h4⟩ := and3 hk
      obtain ⟨hk, h3⟩ := and3 hk
      obtain ⟨h1, h2⟩ := and3 hk
      exact k_ite h1 (sE t hc hx h2 ho.1 tk) (sE a hc hx h3 ho.2.1 tk) (sE b hc hx h4 ho.2.2 tk)
    · cases hk
  | .tup es, X, c, W, e, hc, hx, hk, ho, tk => by
    unfold chkE at hk
    split at hk
    · exact k_tup (sEs es hc hx hk ho tk)
    · cases hk
  | .lst es, X, c, W, e, hc, hx, hk, ho, tk => by
    unfold chkE at hk
    split at hk
    · exact k_lst (sEs es hc hx hk ho tk)
    · cases hk
  | .call f es, X, c, W, e, hc, hx, hk, ho, tk => by
    unfold chkE at hk
    split at hk
    · split at hk
      · obtain ⟨hk, h3⟩ := and3 hk
        obtain ⟨h1, h2⟩ := and3 hk
        have h1 := of_decide_eq_true h1
        subst h1
        exact k_call ho.1 tk h2 (sEs es hc hx h3 ho.2 tk)
      · cases hk
    · cases hk
  | .bi b es, X, c, W, e, hc, hx, hk, ho, tk => by
    unfold chkE at hk
    split at hk
    · split at hk
      · obtain ⟨hk, h5⟩ := and3 hk
        obtain ⟨hk, h4⟩ := and3 hk
        obtain ⟨hk, h3⟩ := and3 hk
        obtain ⟨h1, h2⟩ := and3 hk
        have h1 := of_decide_eq_true h1
        subst h1
        exact k_bi hc h3 h2 (by simpa using h4) (sEs es hc hx h5 ho tk)
      · cases hk
    · cases hk
  | .me m o es, X, c, W, e, hc, hx, hk, ho, tk => by
    unfold chkE at hk
    split at hk
    · split at hk
      · obtain ⟨hk, h8⟩ := and3 hk
        obtain ⟨hk, h7⟩ := and3 hk
        obtain ⟨hk, h6⟩ := and3 hk
        obtain ⟨hk, h5⟩ := and3 hk
        obtain ⟨hk, h4⟩ := and3 hk
        obtain ⟨hk, h3⟩ := and3 hk
        obtain ⟨h1, h2⟩ := and3 hk
        have h1 := of_decide_eq_true h1
        subst h1
        exact k_me h2 h3 h4 (by simpa using h5) (of_decide_eq_true h6) (sE o hc hx h7 ho.1 tk) (sEs es hc hx h8 ho.2 tk)
      · cases hk
    · cases hk
  | .tm m o a, X, c, W, e, hc, hx, hk, ho, tk => by
    unfold chkE at hk
    split at hk
    · split at hk
      · obtain ⟨hk, h6⟩ := and3 hk
        obtain ⟨hk, h5⟩ := and3 hk
        obtain ⟨hk, h4⟩ := and3 hk
        obtain ⟨hk, h3⟩ := and3 hk
        obtain ⟨h1, h2⟩ := and3 hk
        have h1 := of_decide_eq_true h1
        subst h1
        exact k_tm hc h2 h3 h4 (sE o hc hx h5 ho.1 tk) (sE a hc hx h6 ho.2 tk).1
      · cases hk
    · cases hk
  | .isi ts a, X, c, W, e, hc, hx, hk, ho, tk => by
    unfold chkE at hk
    split at hk
    · split at hk
      · obtain ⟨hk, h7⟩ := and3 hk
        obtain ⟨hk, h6⟩ := and3 hk
        obtain ⟨hk, h5⟩ := and3 hk
        obtain ⟨hk, h4⟩ := and3 hk
        obtain ⟨hk, h3⟩ := and3 hk
        obtain ⟨h1, h2⟩ := and3 hk
        have h1 := of_decide_eq_true h1
        subst h1
        have h5 := of_decide_eq_true h5
        split at h7
        · exact k_isi1 hc h2 h3 h4 h7 (sE a hc hx h6 ho tk).1
        · split at h7
          · exact k_isiT hc h2 h3 h5 h7 (sE a hc hx h6 ho tk).1
          · cases h7
      · cases hk
    · cases hk
  | .ix a b, X, c, W, e, hc, hx, hk, ho, tk => by
    unfold chkE at hk
    split at hk
    · obtain ⟨hk, h3⟩ := and3 hk
      obtain ⟨h1, h2⟩ := and3 hk
      exact k_ix h1 (sE a hc hx h2 ho.1 tk).1 (sE b hc hx h3 ho.2 tk).1
    · cases hk
  | .dix a b, X, c, W, e, hc, hx, hk, ho, tk => by
    unfold chkE at hk
    split at hk
    · obtain ⟨hk, h3⟩ := and3 hk
      obtain ⟨h1, h2⟩ := and3 hk
      exact k_dix hc.un h1 (sE a hc hx h2 ho.1 tk).1 (sE b hc hx h3 ho.2 tk).1
    · cases hk
  | .dg i b, X, c, W, e, hc, hx, hk, ho, tk => by
    unfold chkE at hk
    split at hk
    · split at hk
      · obtain ⟨hk, h4⟩ := and3 hk
        obtain ⟨hk, h3⟩ := and3 hk
        obtain ⟨h1, h2⟩ := and3 hk
        exact k_dg hc.un (of_decide_eq_true h1) h2 h3 (sE b hc hx h4 ho tk).1
      · cases hk
    · cases hk
  | .slLo a l, X, c, W, e, hc, hx, hk, ho, tk => by
    unfold chkE at hk
    split at hk
    · split at hk
      · split at hk
        · obtain ⟨h1, h2⟩ := and3 hk
          exact k_slLo (sE a hc hx h1 ho.1 tk).1 (sE l hc hx h2 ho.2 tk).1
        · cases hk
      · cases hk
    · cases hk
  | .slHi a l, X, c, W, e, hc, hx, hk, ho, tk => by
    unfold chkE at hk
    split at hk
    · split at hk
      · split at hk
        · obtain ⟨h1, h2⟩ := and3 hk
          exact k_slHi (sE a hc hx h1 ho.1 tk).1 (sE l hc hx h2 ho.2 tk).1
        · cases hk
      · cases hk
    · cases hk
  | .slLH a l h, X, c, W, e, hc, hx, hk, ho, tk => by
    unfold chkE at hk
    split at hk
    · split at hk
      · split at hk
        · obtain ⟨hk, h3⟩ := and3 hk
          obtain ⟨h1, h2⟩ := and3 hk
          exact k_slLH (sE a hc hx h1 ho.1 tk).1 (sE l hc hx h2 ho.2.1 tk).1 (sE h hc hx h3 ho.2.2 tk).1
        · cases hk
      · cases hk
    · cases hk
  | .rev a, X, c, W, e, hc, hx, hk, ho, tk => by
    unfold chkE at hk
    split at hk
    · split at hk
      · split at hk
        · exact k_rev (sE a hc hx hk ho tk).1
        · cases hk
      · cases hk
    · cases hk
  | .cat a b, X, c, W, e, hc, hx, hk, ho, tk => by
    unfold chkE at hk
    split at hk
    · rename_i p op q pos
      obtain ⟨hk, h3⟩ := and3 hk
      obtain ⟨h1, h2⟩ := and3 hk
      cases bop_ok h1
      exact k_cat (sE a (c := c) hc hx h2 ho.1 tk).1 (sE b (c := c) hc hx h3 ho.2 tk).1
    · cases hk
  | .lrev a, X, c, W, e, hc, hx, hk, ho, tk => by
    unfold chkE at hk
    split at hk
    · split at hk
      · split at hk
        · split at hk
          · obtain ⟨hk, h7⟩ := and3 hk
            obtain ⟨hk, h6⟩ := and3 hk
            obtain ⟨hk, h5⟩ := and3 hk
            obtain ⟨hk, h4⟩ := and3 hk
            obtain ⟨hk, h3⟩ := and3 hk
            obtain ⟨h1, h2⟩ := and3 hk
            have h1 := of_decide_eq_true h1
            have h2 := of_decide_eq_true h2
            subst h1 h2
            exact k_lrev hc h5 h3 h4 h6 (sE a hc hx h7 ho tk).1
          · cases hk
        · cases hk
      · cases hk
    · cases hk
  | .pop i, X, c, W, e, hc, hx, hk, ho, tk => by
    unfold chkE at hk
    split at hk
    · split at hk
      · split at hk
        · obtain ⟨hk, h4⟩ := and3 hk
          obtain ⟨hk, h3⟩ := and3 hk
          obtain ⟨h1, h2⟩ := and3 hk
          have h1 := of_decide_eq_true h1
          subst h1
          exact k_pop (of_decide_eq_true h3) h4 h2
        · cases hk
      · cases hk
    · cases hk
  | .lc t own s ifs elt, X, c, W, e, hc, hx, hk, ho, tk => by
    unfold chkE at hk
    split at hk
    · split at hk
      · obtain ⟨hk, h9⟩ := and3 hk
        obtain ⟨hk, h8⟩ := and3 hk
        obtain ⟨hk, h7⟩ := and3 hk
        obtain ⟨hk, h6⟩ := and3 hk
        obtain ⟨hk, h5⟩ := and3 hk
        obtain ⟨hk, h4⟩ := and3 hk
        obtain ⟨hk, h3⟩ := and3 hk
        obtain ⟨hk, h2⟩ := and3 hk
        obtain ⟨h0, h1⟩ := and3 hk
        have h0 := of_decide_eq_true h0
        subst h0
        exact k_lc hc (hx.no h1) h1 (fun i hi => by simpa using List.all_eq_true.mp h2 i hi) h3 h4 (sSrc s hc hx h5 ho.1 tk) (plainSrc h5) (of_decide_eq_true h7) h6
          (fun s H C cl fp c hn => sEs (X := X.blk s H _ (compEnvC _ cl C X.env) fp) ifs (hc.blk ..) (.of hn) h8 ho.2.1 takes0) (fun s H C cl fp c hn => sE (X := X.blk s H _ (compEnvC _ cl C X.env) fp) elt (hc.blk ..) (.of hn) h9 ho.2.2 takes0)
      · cases hk
    · cases hk
theorem sEs {g : Gx} {cm : Bool} : ∀ (es' : List E) {X : Cx} {c : C0} {W : WX} {es : List Expr}, Ctx cm X → XOk g cm X c → chkEs cm X.N X.env.scope es' es = true → okEs g (wd X) es' → Takes X W → AllE g X c W es' es
  | [], X, c, W, es, hc, hx, hk, ho, tk => by
    cases es with
    | nil => exact .nil
    | cons _ _ => cases hk
  | e' :: es', X, c, W, es, hc, hx, hk, ho, tk => by
    cases es with
    | nil => cases hk
    | cons e es =>
      unfold chkEs at hk
      obtain ⟨hk, h3⟩ := and3 hk
      obtain ⟨h1, h2⟩ := and3 hk
      exact .cons h1 (sE e' hc hx h2 ho.1 tk) (sEs es' hc hx h3 ho.2 tk)
theorem sSrc {g : Gx} {cm : Bool} : ∀ (s : Src) {X : Cx} {c : C0} {W : WX} {tg e : Expr}, Ctx cm X → XOk g cm X c → chkSrc cm X.N X.env.scope s e = true → okSrc g (wd X) s → Takes X W → PI X tg e (rdSrc g X.K c W (evSrc s))
  | .it a, X, c, W, tg, e, hc, hx, hk, ho, tk => by
    unfold chkSrc at hk
    exact src_it (sE a hc hx (and3 hk).2 ho tk).1
  | .r1 a, X, c, W, tg, e, hc, hx, hk, ho, tk => by
    unfold chkSrc at hk
    split at hk
    · split at hk
      · obtain ⟨hk, h4⟩ := and3 hk
        obtain ⟨hk, h3⟩ := and3 hk
        obtain ⟨h1, h2⟩ := and3 hk
        have h1 := of_decide_eq_true h1
        subst h1
        exact src_r1 hc h2 h3 (sE a hc hx h4 ho tk).1
      · cases hk
    · cases hk
  | .r2 a b, X, c, W, tg, e, hc, hx, hk, ho, tk => by
    unfold chkSrc at hk
    split at hk
    · split at hk
      · obtain ⟨hk, h6⟩ := and3 hk
        obtain ⟨hk, h5⟩ := and3 hk
        obtain ⟨hk, h4⟩ := and3 hk
        obtain ⟨hk, h3⟩ := and3 hk
        obtain ⟨h1, h2⟩ := and3 hk
        have h1 := of_decide_eq_true h1
        subst h1
        exact src_r2 hc h2 h3 h4 (sE a hc hx h5 ho.1 tk).1 (sE b hc hx h6 ho.2 tk).1
      · cases hk
    · cases hk
  | .rd a b, X, c, W, tg, e, hc, hx, hk, ho, tk => by
    unfold chkSrc at hk
    split at hk
    · split at hk
      · split at hk
        · obtain ⟨hk, h6⟩ := and3 hk
          obtain ⟨hk, h5⟩ := and3 hk
          obtain ⟨hk, h4⟩ := and3 hk
          obtain ⟨hk, h3⟩ := and3 hk
          obtain ⟨h1, h2⟩ := and3 hk
          have h1 := of_decide_eq_true h1
          subst h1
          exact src_rd hc h2 h3 h4 (sE a hc hx h5 ho.1 tk).1 (sE b hc hx h6 ho.2 tk).1
        · cases hk
      · cases hk
    · cases hk
end
end Mini
end

section
set_option Elab.async false
set_option linter.all false
set_option maxRecDepth 100000
set_option maxHeartbeats 4000000
/-! M15: statements: readings and rules. -/
namespace Mini
open PySem L2

/-! ### readings -/
/-- a new list that no slot owns -/
def FrR (K : PySem.W.Frag) (c : C0) (ρ : En) (σ : L2.St) (Hf H : Hp) (v : V) (rv : Rv) : Prop := ∃ p vs ds, v = .ref p ∧ rv = .d (.lst ds) ∧ H p = some (.lst vs) ∧ Hf p = none ∧ (c.fs p ∨ c.H p = none) ∧ NoOwn ρ σ H p ∧ Reps K Hf vs ds ∧ ds.length ≤ lim
section
variable (g : Gx) (K : PySem.W.Frag) (c : C0) (W : WX) (Dn : Ends)
def postS (Hf : Hp) : Out → Prop
  | .nx ρ => ∀ σ' H' Hf', R K c ρ σ' Hf' H' → Same Hf Hf' → Dn.nx σ' H'
  | .brk ρ => ∀ σ' H' Hf', R K c ρ σ' Hf' H' → Same Hf Hf' → Dn.bk σ' H'
  | .cnt ρ => ∀ σ' H' Hf', R K c ρ σ' Hf' H' → Same Hf Hf' → Dn.ct σ' H'
  | .ret rv ρ => ∀ σ' H' Hf' v, R K c ρ σ' Hf' H' → Same Hf Hf' → RvR K σ' Hf' v rv → Dn.rt v H'
  | .exc x d ρ => ∀ cls dx σ' H' Hf', R K c ρ σ' Hf' H' → Same Hf Hf' → XRep g K Hf' H' x d cls dx → W cls dx σ' H'
  | .new ds ρ => ∀ σ' H' Hf' v, R K c ρ σ' Hf' H' → Same Hf Hf' → FrR K c ρ σ' Hf' H' v (.d (.lst ds)) → Dn.rt v H'
  | .bad => False
end
def rdS (g : Gx) (K : PySem.W.Frag) (c : C0) (W : WX) (x : En → Out) : TS := fun Dn σ H => ∃ Hf ρ, R K c ρ σ Hf H ∧ postS g K c W Dn Hf (x ρ)
def rdF (g : Gx) (K : PySem.W.Frag) (c : C0) (W : WX) (e : EvF Rv) : TE := fun σ H Q => ∃ Hf ρ, R K c ρ σ Hf H ∧ post g K c W σ Hf (fun rv ρ' Hf' H' => ∀ v, FrR K c ρ' σ Hf' H' v rv → Q v H') (e ρ)

section
variable {g : Gx} {K : PySem.W.Frag} {c : C0} {W : WX} {Dn : Ends} {σ : L2.St} {Hf H : Hp} {ρ : En}
theorem postS.mono {Hf1 : Hp} {o : Out} (s : Same Hf Hf1) (h : postS g K c W Dn Hf o) : postS g K c W Dn Hf1 o := by
  cases o with
  | bad => exact h
  | nx ρ => exact fun σ' H' Hf' r q => h σ' H' Hf' r (s.trans q)
  | brk ρ => exact fun σ' H' Hf' r q => h σ' H' Hf' r (s.trans q)
  | cnt ρ => exact fun σ' H' Hf' r q => h σ' H' Hf' r (s.trans q)
  | ret rv ρ => exact fun σ' H' Hf' v r q => h σ' H' Hf' v r (s.trans q)
  | exc x d ρ => exact fun cls dx σ' H' Hf' r q => h cls dx σ' H' Hf' r (s.trans q)
  | new ds ρ => exact fun σ' H' Hf' v r q => h σ' H' Hf' v r (s.trans q)
/-- the expression ahead of the rest -/
theorem postS.out {β : Type} {x : O β} {f : β → En → Out} {k1 : β → En → Hp → Hp → Prop} (h : postS g K c W Dn Hf (x.out f)) (hk : ∀ a ρ Hf1 H1, R K c ρ σ Hf1 H1 → Same Hf Hf1 → postS g K c W Dn Hf1 (f a ρ) → k1 a ρ Hf1 H1) : post g K c W σ Hf k1 x := by
  cases x with
  | ok a ρ => exact fun H' Hf' r q => hk _ _ _ _ r q (postS.mono q h)
  | exc x d ρ => exact fun cls dx H' Hf' r q xr => h cls dx σ H' Hf' r q xr
  | bad => exact h
theorem postS.run {e : EvF Rv} {f : Rv → En → Out} {Q : VK} (r : R K c ρ σ Hf H) (h : postS g K c W Dn Hf ((e ρ).out f)) (hq : ∀ rv ρ1 Hf1 H1 v, R K c ρ1 σ Hf1 H1 → Same Hf Hf1 → RvR K σ Hf1 v rv → postS g K c W Dn Hf1 (f rv ρ1) → Q v H1) : rdE g K c W e σ H Q :=
  ⟨Hf, ρ, r, h.out fun rv ρ1 Hf1 H1 r1 s1 h1 v hv => hq rv ρ1 Hf1 H1 v r1 s1 hv h1⟩
theorem postS.runT {e : EvF Bool} {f : Bool → En → Out} {Q : Bool → Hp → Prop} (r : R K c ρ σ Hf H) (h : postS g K c W Dn Hf ((e ρ).out f)) (hq : ∀ b ρ1 Hf1 H1, R K c ρ1 σ Hf1 H1 → Same Hf Hf1 → postS g K c W Dn Hf1 (f b ρ1) → Q b H1) : rdT g K c W e σ H Q :=
  ⟨Hf, ρ, r, h.out fun b ρ1 Hf1 H1 r1 s1 h1 => hq b ρ1 Hf1 H1 r1 s1 h1⟩
theorem postS.runF {e : EvF Rv} {f : Rv → En → Out} {Q : VK} (r : R K c ρ σ Hf H) (h : postS g K c W Dn Hf ((e ρ).out f)) (hq : ∀ rv ρ1 Hf1 H1 v, R K c ρ1 σ Hf1 H1 → Same Hf Hf1 → FrR K c ρ1 σ Hf1 H1 v rv → postS g K c W Dn Hf1 (f rv ρ1) → Q v H1) : rdF g K c W e σ H Q :=
  ⟨Hf, ρ, r, h.out fun rv ρ1 Hf1 H1 r1 s1 h1 v hv => hq rv ρ1 Hf1 H1 v r1 s1 hv h1⟩
end
theorem pss_imp {X : Cx} {sts : List Stmt} {t t' : TS} (h : PSs X sts t) (f : ∀ D σ H, t' D σ H → t D σ H) : PSs X sts t' := PSs_imp h f

structure CtxS (cm : Bool) (X : Cx) : Prop where
  c : Ctx cm X
  fn : ∀ x, X.fn x = true
  own : PassesOwn (model X.prog X.w) X.A X.env X.xe
  stk : X.stack = X.env :: X.outer
  frm : X.env.frame = some X.env.locals

/-! ### simple ones -/
section
variable {g : Gx} {cm : Bool} {X : Cx} {c : C0} {W : WX} {n : Nat} {a : E} {p : Expr} {pos : Pos}
abbrev SS (g : Gx) (X : Cx) (c : C0) (W : WX) (n : Nat) (s : S) (st : Stmt) : Prop := PS X st (rdS g X.K c W (exS n s))
theorem s_ret (ha : PE X p (rdE g X.K c W (evE a))) : SS g X c W n (.ret a) (.Return (some p) pos) :=
  PS_imp (ps_ret ha) fun D σ H ⟨Hf, ρ, r, h⟩ => by
    unfold exS at h
    exact postS.run r h fun rv ρ1 Hf1 H1 v r1 s1 hv h1 => h1 σ H1 Hf1 v r1 (Same.refl _) hv
theorem s_retF (ha : PE X p (rdF g X.K c W (evE a))) : SS g X c W n (.retF a) (.Return (some p) pos) :=
  PS_imp (ps_ret ha) fun D σ H ⟨Hf, ρ, r, h⟩ => by
    unfold exS at h
    refine postS.runF r h fun rv ρ1 Hf1 H1 v r1 s1 hv h1 => ?_
    obtain ⟨q, vs, ds, rfl, rfl, k⟩ := hv
    exact h1 σ H1 Hf1 _ r1 (Same.refl _) ⟨q, vs, ds, rfl, rfl, k⟩
theorem s_retN : SS g X c W n .retN (.Return none pos) :=
  PS_imp ps_retN fun D σ H ⟨Hf, ρ, r, h⟩ => by
    unfold exS at h
    exact h σ H Hf .non r (Same.refl _) .non
/-- a value into a slot -/
theorem set_end {K : PySem.W.Frag} {Dn : Ends} {σ : L2.St} {Hf H : Hp} {ρ : En} {i : Nat} {rv : Rv} {v : V} (r : R K c ρ σ Hf H) (hv : RvR K σ Hf v rv)
    (h : postS g K c W Dn Hf (match asD rv with | some d => (match setV ρ i d with | some ρ => .nx ρ | none => .bad) | none => .bad)) : Dn.nx (σ.set i (some v)) H := by
  cases e : asD rv with
  | none => rw [e] at h; exact h.elim
  | some d =>
    rw [e] at h
    cases asD_eq e
    simp only at h
    cases e2 : setV ρ i d with
    | none => rw [e2] at h; exact h.elim
    | some ρ' =>
      rw [e2] at h
      obtain ⟨r1, _⟩ := setV_ok r e2 hv
      exact h _ H Hf r1 (Same.refl _)
theorem s_set {i : Nat} {x : Str} {px : Pos} (hc : CtxS cm X) (hi : X.N[i]? = some x) (hx : Loc X.env.scope x) (hsw : swapsWith p (some (.Name x px)) pos.line X.env = pure false) (ha : PE X p (rdE g X.K c W (evE a))) :
    SS g X c W n (.set i a) (.Assign [.Name x px] p pos) :=
  PS_imp (ps_set hc.c.nd hi hx ha hsw (.inl (hc.fn x))) fun D σ H ⟨Hf, ρ, r, h⟩ => by
    unfold exS at h
    exact postS.run r h fun rv ρ1 Hf1 H1 v r1 s1 hv h1 => set_end r1 hv h1
theorem s_setN {i : Nat} {x : Str} {px : Pos} (hc : CtxS cm X) (hn : ∀ p, (i, p) ∉ c.ps) (hi : X.N[i]? = some x) (hx : Loc X.env.scope x) (hsw : swapsWith p (some (.Name x px)) pos.line X.env = pure false) (ha : PE X p (rdF g X.K c W (evE a))) :
    SS g X c W n (.setN i a) (.Assign [.Name x px] p pos) :=
  PS_imp (ps_set hc.c.nd hi hx ha hsw (.inl (hc.fn x))) fun D σ H ⟨Hf, ρ, r, h⟩ => by
    unfold exS at h
    refine postS.runF r h fun rv ρ1 Hf1 H1 v r1 s1 hv h1 => ?_
    obtain ⟨q, vs, ds, rfl, rfl, k1, k2, k3, k4, k5, k6⟩ := hv
    exact h1 _ H1 Hf1 (r1.setO hn k1 k2 k5 k6 k3 k4) (Same.refl _)
theorem s_unp {is : List Nat} {es : List Expr} {x1 : Nat} {p2 : Pos} (hc : CtxS cm X) (hcm : cm = true) (ht : tgsB X.env.scope X.N X.env.scope is es = true) (hsw : swapsWithSole [.Tuple es x1 p2] p pos.line X.env = pure false) (hw : swappedStores [.Tuple es x1 p2] p X.env = pure none)
    (ha : PE X p (rdE g X.K c W (evE a))) : SS g X c W n (.unp is a) (.Assign [.Tuple es x1 p2] p pos) := by
  have pg : PG X (.Tuple es x1 p2) (gT X.K (.t is)) := pgT_ok (own := X.env.scope) hc.c.nd (hc.c.calm hcm) (fun x _ => hc.fn x) ht
  refine PS_imp (ps_asg ha pg hsw hw) fun D σ H ⟨Hf, ρ, r, h⟩ => ?_
  unfold exS at h
  refine postS.run r h fun rv ρ1 Hf1 H1 v r1 s1 hv h1 => ?_
  cases e : asD rv with
  | none => rw [e] at h1; exact h1.elim
  | some d =>
    rw [e] at h1
    cases asD_eq e
    cases d with
    | tup ds =>
      simp only at h1
      cases e2 : bindN ρ1 is ds with
      | none => rw [e2] at h1; exact h1.elim
      | some ρ' =>
        rw [e2] at h1
        exact gT_ok (t := .t is) (d := .tup ds) r1 e2 hv fun σ' r' _ => h1 σ' H1 Hf1 r' (Same.refl _)
    | _ => exact h1.elim
theorem s_aug {i : Nat} {sub : Bool} {x : Str} {px : Pos} {op : Operator} (hc : CtxS cm X) (hi : X.N[i]? = some x) (hx : Loc X.env.scope x) (ho : op = if sub then .Sub else .Add) (ha : PE X p (rdE g X.K c W (evE a))) :
    SS g X c W n (.aug i sub a) (.AugAssign (.Name x px) op p pos) := by
  have key : ∀ (f : Int → Int → Int), (∀ x y, f x y = if sub then x - y else x + y) → ∀ D σ H, rdS g X.K c W (exS n (.aug i sub a)) D σ H → tAug i (rdE g X.K c W (evE a)) (ipI f) D σ H := fun f hf D σ H ⟨Hf, ρ, r, h⟩ => by
    unfold exS at h
    split at h
    · rename_i x0 e0
      obtain ⟨v, s, rv⟩ := r.val i _ e0
      cases rep_int rv
      refine ⟨_, s, postS.run r h fun rv ρ1 Hf1 H1 v r1 s1 hv h1 => ?_⟩
      split at h1
      · rename_i y0 e1
        cases asD_eq e1
        refine ⟨x0, y0, rfl, rep_int hv, ?_⟩
        split at h1
        · rename_i ρ' e2
          obtain ⟨r2, _⟩ := setV_ok r1 e2 (v := .int (if sub then x0 - y0 else x0 + y0)) (.int _)
          rw [hf]
          exact h1 _ H1 Hf1 r2 (Same.refl _)
        · exact h1.elim
      · exact h1.elim
    · exact h.elim
  cases sub with
  | false =>
    subst ho
    exact PS_imp (ps_aug hc.c.nd hi hx ha ip_add (.inl (hc.fn x))) fun D σ H h => key _ (fun _ _ => rfl) D σ H h
  | true =>
    subst ho
    exact PS_imp (ps_aug hc.c.nd hi hx ha ip_sub (.inl (hc.fn x))) fun D σ H h => key _ (fun _ _ => rfl) D σ H h
theorem s_exp (hsw : swapsWith p none pos.line X.env = pure false) (ha : PE X p (rdE g X.K c W (evE a))) : SS g X c W n (.exp a) (.Expr p pos) :=
  PS_imp (ps_expr ha hsw) fun D σ H ⟨Hf, ρ, r, h⟩ => by
    unfold exS at h
    exact postS.run r h fun rv ρ1 Hf1 H1 v r1 s1 hv h1 => h1 σ H1 Hf1 r1 (Same.refl _)
theorem s_pas : SS g X c W n .pas (.Pass pos) := PS_imp ps_pass fun D σ H ⟨Hf, ρ, r, h⟩ => h σ H Hf r (Same.refl _)
theorem s_doc {x j} {pos' : Pos} : SS g X c W n .pas (.Expr (.Constant (.str x) j pos) pos') := PS_imp ps_doc fun D σ H ⟨Hf, ρ, r, h⟩ => h σ H Hf r (Same.refl _)
theorem s_brk : SS g X c W n .brk (.Break pos) := PS_imp ps_break fun D σ H ⟨Hf, ρ, r, h⟩ => h σ H Hf r (Same.refl _)
theorem s_cnt : SS g X c W n .cnt (.Continue pos) := PS_imp ps_continue fun D σ H ⟨Hf, ρ, r, h⟩ => h σ H Hf r (Same.refl _)
theorem s_nev {st : Stmt} : SS g X c W n .nev st := PS_imp ps_never fun D σ H ⟨Hf, ρ, r, h⟩ => h
theorem isOwn_ok {ρ : En} {i : Nat} (h : isOwn ρ i = true) : ∃ ds, ρ[i]? = some (Sl.own ds) := by
  unfold isOwn at h
  split at h
  · rename_i ds e
    exact ⟨ds, e⟩
  · cases h
theorem s_app {i : Nat} {x : Str} {p2 apos cpos : Pos} (hi : X.N[i]? = some x) (hv : visB X.env.scope x = true) (hl : (apos.endLine == cpos.line) = true) (hp : plainB p = true) (ha : PE X p (rdE g X.K c W (evE a))) :
    SS g X c W n (.app i a) (.Expr (.Call (.Attribute (.Name x p2) ("append" : Str) apos) [p] [] cpos) pos) := by
  obtain ⟨h3, h4, h5⟩ := vis_ok hv
  have A : AllE g X c W [a] [p] → True := fun _ => trivial
  have hfew : ((backTo cpos (starEach [p] X.env)).all (fun x => !x.1) && (backToKw cpos (keywordEach [] X.env)).all (fun x => x.1.isSome)
      && decide ([p].length + ([] : List Keyword).length + (if ([] : List Keyword).isEmpty then 0 else 1) < 30)) = true := by
    rw [star_plain hp]
    rfl
  refine PS_imp (ps_expr (pe_bm PySem.F.plainAttrs_list PySem.F.slot_list_append PySem.F.type_list_append mt_append (pe_var hi h3 h4 h5) (pa_cons ha pa_nil (star_plain hp)) rfl hfew hl (star_plain hp) rfl) rfl) fun D σ H ⟨Hf, ρ, r, h⟩ => ?_
  unfold exS at h
  split at h
  · rename_i ho
    obtain ⟨ds, e1⟩ := isOwn_ok ho
    obtain ⟨q, vs, s1, k1, k2, k3, k4, k5⟩ := r.own i ds e1
    refine ⟨_, s1, .inl ⟨rfl, vs, SqL.of k1⟩, postS.run r h fun rv ρ1 Hf1 H1 v r1 s2 hv h1 => ?_⟩
    split at h1
    · rename_i d ds1 e2 e3
      cases asD_eq e2
      split at h1
      · rename_i hz
        obtain ⟨q1, vs1, t1, l1, l2, l3, l4, l5⟩ := r1.own i ds1 e3
        rw [s1] at t1
        cases t1
        refine ⟨q, vs1, v, rfl, rfl, l1, by rw [l3.length]; exact Nat.lt_of_lt_of_le hz lim_line, ?_⟩
        exact h1 _ _ Hf1 (r1.put e3 s1 (l3.append (.cons hv .nil)) (by rw [List.length_append]; exact hz)) (Same.refl _)
      · exact h1.elim
    · exact h1.elim
  · exact h.elim
theorem s_ext {i : Nat} {x : Str} {p2 apos cpos : Pos} (hi : X.N[i]? = some x) (hv : visB X.env.scope x = true) (hl : (apos.endLine == cpos.line) = true) (hp : plainB p = true) (ha : PE X p (rdE g X.K c W (evE a))) :
    SS g X c W n (.ext i a) (.Expr (.Call (.Attribute (.Name x p2) ("extend" : Str) apos) [p] [] cpos) pos) := by
  obtain ⟨h3, h4, h5⟩ := vis_ok hv
  have hfew : ((backTo cpos (starEach [p] X.env)).all (fun x => !x.1) && (backToKw cpos (keywordEach [] X.env)).all (fun x => x.1.isSome)
      && decide ([p].length + ([] : List Keyword).length + (if ([] : List Keyword).isEmpty then 0 else 1) < 30)) = true := by
    rw [star_plain hp]
    rfl
  refine PS_imp (ps_expr (pe_bm PySem.F.plainAttrs_list PySem.F.slot_list_extend PySem.F.type_list_extend mt_extM (pe_var hi h3 h4 h5) (pa_cons ha pa_nil (star_plain hp)) rfl hfew hl (star_plain hp) rfl) rfl) fun D σ H ⟨Hf, ρ, r, h⟩ => ?_
  unfold exS at h
  split at h
  · rename_i ho
    obtain ⟨ds, e1⟩ := isOwn_ok ho
    obtain ⟨q, vs, s1, k1, k2, k3, k4, k5⟩ := r.own i ds e1
    refine ⟨_, s1, .inl ⟨rfl, vs, SqL.of k1⟩, postS.run r h fun rv ρ1 Hf1 H1 v r1 s2 hv h1 => ?_⟩
    split at h1
    · rename_i d ds1 e2 e3
      cases asD_eq e2
      split at h1
      · rename_i hz
        obtain ⟨q1, vs1, t1, l1, l2, l3, l4, l5⟩ := r1.own i ds1 e3
        rw [s1] at t1
        cases t1
        cases (show Rep X.K Hf1 v (.lst d) from hv) with
        | lst hq hr hl =>
          refine ⟨q, _, vs1, _, rfl, rfl, l1, Same.seq r1.sub hq, by rw [l3.length, hr.length]; exact Nat.le_trans hz lim_line, ?_⟩
          exact h1 _ _ Hf1 (r1.put e3 s1 (l3.append hr) (by rw [List.length_append]; exact hz)) (Same.refl _)
      · exact h1.elim
    · exact h1.elim
  · exact h.elim
theorem ixN_lt {n : Nat} {k : Int} {j : Nat} (h : ixN n k = some j) : j < n := (ixN_seq h).2.1
theorem s_put {i : Nat} {x : Str} {p2 tp : Pos} {k : E} {q : Expr} (hi : X.N[i]? = some x) (hv : visB X.env.scope x = true) (hsw : swapsWithSole [.Subscript (.Name x p2) q tp] p pos.line X.env = pure false) (hpl : plainB q = true)
    (ha : PE X p (rdE g X.K c W (evE a))) (hk : PE X q (rdE g X.K c W (evE k))) : SS g X c W n (.put i k a) (.Assign [.Subscript (.Name x p2) q tp] p pos) := by
  obtain ⟨h3, h4, h5⟩ := vis_ok hv
  refine PS_imp (ps_asg ha (pg_sub (pe_var hi h3 h4 h5) hk set_list (by intro v; cases q <;> first | rfl | cases hpl)) hsw rfl) fun D σ H ⟨Hf, ρ, r, h⟩ => ?_
  unfold exS at h
  refine postS.run r h fun rv ρ1 Hf1 H1 v r1 s1 hv h1 => ?_
  split at h1
  · rename_i ho
    obtain ⟨ds, e1⟩ := isOwn_ok ho
    obtain ⟨q, vs, t1, k1, k2, k3, k4, k5⟩ := r1.own i ds e1
    refine ⟨_, t1, postS.run r1 h1 fun rv2 ρ2 Hf2 H2 v2 r2 s2 hv2 h2 => ?_⟩
    split at h2
    · rename_i d kk ds2 e2 e3 e4
      cases asD_eq e2
      cases asD_eq e3
      split at h2
      · rename_i j ej
        obtain ⟨q1, vs1, u1, l1, l2, l3, l4, l5⟩ := r2.own i ds2 e4
        rw [t1] at u1
        cases u1
        refine ⟨q, vs1, kk, j, rfl, rep_int hv2, l1, by rw [l3.length]; exact ej, ?_⟩
        exact h2 _ _ Hf2 (r2.put e4 t1 (l3.set (Rep.mono s2 hv) j) (by rw [List.length_set]; exact l4)) (Same.refl _)
      · exact h2.elim
    · exact h2.elim
  · exact h1.elim
end
end Mini
end

section
set_option Elab.async false
set_option linter.all false
set_option maxRecDepth 100000
set_option maxHeartbeats 4000000
/-! M16: loops, new lists, every statement. -/
namespace Mini
open PySem L2

section
variable {g : Gx} {cm : Bool} {X : Cx} {c : C0} {W : WX} {n : Nat} {pos : Pos}
theorem s_ite {t : E} {p : Expr} {a b : List S} {as bs : List Stmt} (ht : PT X p (rdT g X.K c W (evT t))) (ha : PSs X as (rdS g X.K c W (exSs n a))) (hb : PSs X bs (rdS g X.K c W (exSs n b))) : SS g X c W n (.ite t a b) (.If p as bs pos) :=
  PS_imp (ps_if ht ha hb) fun D σ H ⟨Hf, ρ, r, h⟩ => by
    unfold exS at h
    refine postS.runT r h fun k ρ1 Hf1 H1 r1 s1 h1 => ?_
    cases k with
    | true =>
      rw [if_pos rfl] at h1 ⊢
      exact ⟨Hf1, ρ1, r1, h1⟩
    | false =>
      rw [if_neg Bool.false_ne_true] at h1 ⊢
      exact ⟨Hf1, ρ1, r1, h1⟩
theorem s_whl {t : E} {p : Expr} {b : List S} {bs : List Stmt} (hc : CtxS cm X) (ht : PT X p (rdT g X.K c W (evT t))) (hb : PSs X bs (rdS g X.K c W (exSs n b))) : SS g X c W n (.whl t b) (.While p bs [] pos) := by
  refine PS_imp (ps_while hc.own ht hb) fun D σ H ⟨Hf, ρ, r, h⟩ => ?_
  unfold exS at h
  refine ⟨fun m σ H => ∃ Hf ρ, R X.K c ρ σ Hf H ∧ postS g X.K c W D Hf (whlGo (evT t) (exSs n b) m ρ), ⟨n, Hf, ρ, r, h⟩, ?_⟩
  rintro m σ1 H1 ⟨Hf1, ρ1, r1, h1⟩
  cases m with
  | zero => exact h1.elim
  | succ m =>
    unfold whlGo at h1
    refine postS.runT r1 h1 fun k ρ2 Hf2 H2 r2 s2 h2 => ?_
    cases k with
    | false =>
      rw [if_neg Bool.false_ne_true] at h2 ⊢
      exact h2 σ1 H2 Hf2 r2 (Same.refl _)
    | true =>
      rw [if_pos rfl] at h2 ⊢
      refine ⟨fun σ H => ∃ Hf ρ, R X.K c ρ σ Hf H ∧ postS g X.K c W D Hf (whlGo (evT t) (exSs n b) m ρ), fun σ' H' w => ⟨m, Nat.lt_succ_self m, w⟩, Hf2, ρ2, r2, ?_⟩
      cases e : exSs n b ρ2 with
      | bad => rw [e] at h2; exact h2
      | nx ρ3 => rw [e] at h2; exact fun σ' H' Hf' r' s' => ⟨Hf', ρ3, r', postS.mono s' h2⟩
      | cnt ρ3 => rw [e] at h2; exact fun σ' H' Hf' r' s' => ⟨Hf', ρ3, r', postS.mono s' h2⟩
      | brk ρ3 => rw [e] at h2; exact h2
      | ret rv ρ3 => rw [e] at h2; exact h2
      | exc x d ρ3 => rw [e] at h2; exact h2
      | new ds ρ3 => rw [e] at h2; exact h2
theorem s_for {t : Tgt} {s : Src} {tg it : Expr} {b : List S} {bs : List Stmt} (hc : CtxS cm X) (hcm : cm = true) (hi : PI X tg it (rdSrc g X.K c W (evSrc s))) (hst : ∀ x, foldedSetIterable it X.env x = pure x) (ht : chkT X.env.scope X.N X.env.scope t tg = true)
    (hb : PSs X bs (rdS g X.K c W (exSs n b))) : SS g X c W n (.for t s b) (.For tg it bs [] pos) := by
  have pg : PG X tg (gT X.K t) := pgT_ok (own := X.env.scope) hc.c.nd (hc.c.calm hcm) (fun x _ => hc.fn x) ht
  refine PS_imp (ps_for hc.own (hc.c.calm hcm) hi pg hb hst) fun D σ H ⟨Hf, ρ, r, h⟩ => ?_
  unfold exS at h
  refine ⟨Hf, ρ, r, h.out fun xs ρ1 Hf1 H1 r1 s1 h1 J itk => ?_⟩
  let In (i : Nat) (σ : L2.St) (H : Hp) : Prop := ∃ Hfi ρi, i ≤ xs.length ∧ R X.K c ρi σ Hfi H ∧ Same Hf1 Hfi ∧ postS g X.K c W D Hfi (forGo t (exSs n b) (xs.drop i) ρi)
  refine ⟨fun i m σ H => m = xs.length - i ∧ In i σ H, ⟨_, rfl, Hf1, ρ1, Nat.zero_le _, r1, Same.refl _, h1⟩, ?_⟩
  rintro i m σ2 H2 ⟨rfl, Hf2, ρ2, hi, r2, s2, h2⟩
  by_cases hlt : i < xs.length
  · refine .inr ⟨itk.go i H2 (s2.trans r2.sub) hlt, In (i + 1), fun σ' H' w => ⟨xs.length - (i + 1), by omega, rfl, w⟩, fun x H' y => ?_⟩
    obtain ⟨e, d, hd, hr⟩ := itk.yld i H2 x H' (s2.trans r2.sub) y hlt
    subst e
    have hx : xs.drop i = d :: xs.drop (i + 1) := by
      rw [List.drop_eq_getElem_cons hlt]
      have := List.getElem?_eq_getElem hlt
      rw [hd] at this
      cases this
      rfl
    rw [hx] at h2
    unfold forGo at h2
    cases e1 : bindT t d ρ2 with
    | none => rw [e1] at h2; exact h2.elim
    | some ρ3 =>
      rw [e1] at h2
      simp only at h2
      refine gT_ok r2 e1 (hr.mono s2) fun σ3 r3 _ => ⟨Hf2, ρ3, r3, ?_⟩
      cases e : exSs n b ρ3 with
      | bad => rw [e] at h2; exact h2
      | nx ρ4 => rw [e] at h2; exact fun σ' H' Hf' r' s' => ⟨Hf', ρ4, hlt, r', s2.trans s', postS.mono s' h2⟩
      | cnt ρ4 => rw [e] at h2; exact fun σ' H' Hf' r' s' => ⟨Hf', ρ4, hlt, r', s2.trans s', postS.mono s' h2⟩
      | brk ρ4 => rw [e] at h2; exact h2
      | ret rv ρ4 => rw [e] at h2; exact h2
      | exc x d ρ4 => rw [e] at h2; exact h2
      | new ds ρ4 => rw [e] at h2; exact h2
  · have e : i = xs.length := by omega
    subst e
    rw [List.drop_length] at h2
    exact .inl ⟨itk.stop _ _ (s2.trans r2.sub) rfl, h2 σ2 H2 Hf2 r2 (Same.refl _)⟩

/-! ### new lists -/
theorem f_lst {es' : List E} {es : List Expr} (h : AllE g X c W es' es) : PE X (.List es pos) (rdF g X.K c W (evE (.lst es'))) :=
  PE_imp (pe_lst h.pa) fun σ H Q ⟨Hf, ρ, r, h⟩ => by
    unfold evE at h
    refine post.runA r h fun rvs ρ1 Hf1 H1 vs r1 s1 hvs h1 => ?_
    obtain ⟨ds, ed, h2⟩ := h1.optb
    have rs := hvs.asDs ed
    split at h2
    · rename_i hl
      refine ⟨by rw [rs.length]; exact line_lim hl, fun p hp => ?_⟩
      exact h2 _ Hf1 (r1.adv (Adv.new' r1.sub hp)) (Same.refl _) _ ⟨p, vs, ds, rfl, rfl, upd_same, r1.sub.free hp, .inr (r1.fresh hp), r1.none_own' hp, rs, hl⟩
    · exact h2.elim
theorem f_cat {a b : E} {p q : Expr} (ha : PE X p (rdE g X.K c W (evE a))) (hb : PE X q (rdE g X.K c W (evE b))) : PE X (.BinOp p .Add q pos) (rdF g X.K c W (evE (.cat a b))) :=
  PE_imp (pe_op op_addL ha hb) fun σ H Q ⟨Hf, ρ, r, h⟩ => by
    unfold evE at h
    refine post.run r h fun rv ρ1 Hf1 H1 v r1 s1 hv h1 => post.run r1 h1 fun rv2 ρ2 Hf2 H2 v2 r2 s2 hv2 h2 => ?_
    obtain ⟨x, ex, h3⟩ := h2.optb
    obtain ⟨y, ey, h4⟩ := h3.optb
    obtain ⟨z, ez, h5⟩ := h4.opt
    obtain ⟨d, hd, rfl⟩ := omap ez
    obtain ⟨_, xs, ys, rfl, rfl, rfl, hl⟩ := catD_eq hd
    obtain ⟨pa, va, rfl, sa, ra, la⟩ := ((hv.mono s2).deref r2 ex).lst_ r2.sub
    obtain ⟨pb, vb, rfl, sb, rb, lb⟩ := (hv2.deref r2 ey).lst_ r2.sub
    refine ⟨pa, pb, va, vb, rfl, rfl, sa, sb, by rw [ra.length, rb.length]; exact line_lim hl, fun p hp => ?_⟩
    exact h5 _ Hf2 (r2.adv (Adv.new' r2.sub hp)) (Same.refl _) _ ⟨p, _, _, rfl, rfl, upd_same, r2.sub.free hp, .inr (r2.fresh hp), r2.none_own' hp, ra.append rb, by rw [List.length_append]; exact hl⟩
theorem f_list {e' : E} {e : Expr} {p : Pos} (hc : Ctx cm X) (hg : glB X.env.scope ("list" : Str) = true) (h : AllE g X c W [e'] [e]) : PE X (.Call (.Name ("list" : Str) p) [e] [] pos) (rdF g X.K c W (evE (.bi .list [e']))) := by
  obtain ⟨g1, g2, g3⟩ := gl_ok hg
  cases h with
  | cons hp hs t =>
    have A : AllE g X c W [e'] [e] := .cons hp hs t
    refine PE_imp (pe_callTy call_list_of g1 (hc.fre _ (by decide +kernel)) (boot_bi .list) A.pa g3 g2 (star_plain hp) rfl) fun σ H Q ⟨Hf, ρ, r, h⟩ => ?_
    unfold evE at h
    refine post.runA r h fun rvs ρ1 Hf1 H1 vs r1 s1 hvs h1 => ?_
    obtain ⟨ds, ed, h2⟩ := h1.optb
    have rb := hvs.derefs r1 ed
    obtain ⟨z, ez, h3⟩ := h2.opt
    obtain ⟨d, hd, rfl⟩ := omap ez
    have fin : ∀ {ys : List V} {xs : List D}, d = .lst xs → Reps X.K Hf1 ys xs → xs.length ≤ lim → ∀ l, H1 l = none → Q (.ref l) (upd H1 l (.lst ys)) := fun {ys xs} e rs hl l hn => by
      subst e
      exact h3 _ Hf1 (r1.adv (Adv.new' r1.sub hn)) (Same.refl _) _ ⟨l, ys, xs, rfl, rfl, upd_same, r1.sub.free hn, .inr (r1.fresh hn), r1.none_own' hn, rs, hl⟩
    cases rb with
    | nil => cases hd
    | cons h1 t =>
      rename_i v vs x xs
      cases t with
      | cons h2 t2 => cases x <;> cases hd
      | nil =>
        cases x with
        | tup ds =>
          cases hd
          obtain ⟨q, ys, rfl, hq, hr, hl, _⟩ := h1.tup_ r1.sub
          exact ⟨q, ys, rfl, .inr hq, fin rfl hr hl⟩
        | lst ds =>
          cases hd
          obtain ⟨q, ys, rfl, hq, hr, hl⟩ := h1.lst_ r1.sub
          exact ⟨q, ys, rfl, .inl hq, fin rfl hr hl⟩
        | _ => cases hd
theorem call_endF {σ : L2.St} {Hf H : Hp} {ρ : En} {f : CallF} {rs : List Rv} {vs : List V} {Q : VK} (hfr : f.fr = true) (r : R X.K c ρ σ Hf H) (hv : RvsR X.K σ Hf vs rs) (h : post g X.K c W σ Hf (fun rv ρ' Hf' H' => ∀ v, FrR X.K c ρ' σ Hf' H' v rv → Q v H') (callO f rs ρ)) : spM g X.K f vs H Q (WE W σ) := by
  unfold callO at h
  cases e1 : splitA ρ f.md rs with
  | none => rw [e1] at h; exact h.elim
  | some z =>
    obtain ⟨ds, is⟩ := z
    rw [e1] at h
    simp only at h
    split at h
    · rename_i hn
      have hn : is.Nodup := of_decide_eq_true hn
      obtain ⟨ps, fs, a1, a2⟩ := splitA_ok r hv e1 hn
      refine ⟨Hf, ds, ps, fs, r.sub, a1, ?_⟩
      cases e2 : f.F ds with
      | bad => rw [e2] at h; exact h.elim
      | tre _ _ => rw [e2] at h; exact h.elim
      | ok d outs =>
        rw [e2] at h
        simp only at h
        cases e3 : putO ρ is outs with
        | none => rw [e3] at h; exact h.elim
        | some ρ' =>
          rw [e3] at h
          intro v H' Hf' fs' A O nw ans
          have r' := r.call A a2 hn O nw e3
          unfold AnsR at ans
          rw [if_pos hfr] at ans
          obtain ⟨p, xs, x, rfl, rfl, k1, k2, k3, k6, k4, k5⟩ := ans
          exact h H' Hf' r' A.f _ ⟨p, xs, x, rfl, rfl, k1, k2, r.mayH a2 k3, r.callN A a2 hn O e3 k3 k6, k4, k5⟩
      | exc x d outs =>
        rw [e2] at h
        simp only at h
        cases e3 : putO ρ is outs with
        | none => rw [e3] at h; exact h.elim
        | some ρ' =>
          rw [e3] at h
          intro cls dx H' Hf' fs' A O nw ans
          exact h cls dx H' Hf' (r.call A a2 hn O nw e3) A.f ans
    · exact h.elim
theorem f_call {f : CallF} {es' : List E} {es : List Expr} {p : Pos} (hfr : f.fr = true) (hco : CallOk g (wd X) f) (tk : Takes X W) (hg : glB X.env.scope f.name = true) (h : AllE g X c W es' es) : PE X (.Call (.Name f.name p) es [] pos) (rdF g X.K c W (evE (.call f es'))) := by
  obtain ⟨fa, fd, ps, k, F, rm, hm, hk, hb⟩ := hco
  obtain ⟨g1, g2, _⟩ := gl_ok hg
  cases h with
  | nil =>
    refine PE_imp (pe_callS0 F rm g1 hm hk hb (passAt tk) g2) fun σ H Q ⟨Hf, ρ, r, h⟩ => ?_
    exact call_endF hfr r .nil h
  | cons hp hs t =>
    refine PE_imp (pe_callS F rm g1 hm hk hb (passAt tk) (AllE.cons hp hs t).pa g2 (star_plain hp) t.any) fun σ H Q ⟨Hf, ρ, r, h⟩ => ?_
    unfold evE at h
    refine post.runA r h fun rvs ρ1 Hf1 H1 vs r1 s1 hvs h1 => ?_
    exact call_endF hfr r1 hvs h1

/-! ### comprehensions: as new lists, stored -/
section
variable {t : Tgt} {own : List Nat} {s : Src} {ifs' : List E} {elt' : E} {tg it elt : Expr} {ifs : List Expr} {scope : Scope}
theorem lc_read {K : PySem.W.Frag} {σ : L2.St} {Hf H : Hp} {ρ : En} {k : Rv → En → Hp → Hp → Prop} {Q : VK} (hno : NoXa c) (hs : ∀ i ∈ tgOwn t, i ∈ own) (r : R K c ρ σ Hf H) (h : post g K c W σ Hf k (evE (.lc t own s ifs' elt') ρ))
    (hk : ∀ ρ2 Hf2 H2 q vs ys, R K c ρ2 σ Hf2 H2 → H2 q = some (.lst vs) → Hf2 q = none → c.H q = none → NoOwn ρ2 σ H2 q → Reps K Hf2 vs ys → ys.length ≤ lim → post g K c W σ Hf2 k (.ok (.d (.lst ys)) ρ2) → Q (.ref q) H2) :
    tLc (rdSrc g K c W (evSrc s)) (gT K t) (rdTx g K (evTs ifs')) (rdEx g K (evE elt')) own σ H Q := by
  unfold evE at h
  refine ⟨Hf, ρ, r, h.bind fun xs ρ1 Hf1 H1 r1 s1 h1 J itk D hD => ?_⟩
  split at h1
  · rename_i fr
    split at h1
    · rename_i ys ρ2 hgo
      refine lc_end hno r1 fr itk hs hgo hD fun H' Hf' vs r2 sf d1 d2 dn reps len => ?_
      exact hk ρ2 Hf' H' _ vs ys r2 d1 d2 (r1.fresh hD) dn reps len (post.mono sf h1 fun _ _ _ _ z => z)
    · exact h1.elim
  · exact h1.elim
/-- what a comprehension's parts must be -/
structure LcOk (g : Gx) (cm : Bool) (X : Cx) (c : C0) (W : WX) (t : Tgt) (own : List Nat) (s : Src) (ifs' : List E) (elt' : E) (tg it elt : Expr) (ifs : List Expr) (scope : Scope) : Prop where
  cm : cm = true
  no : NoXa c
  hs : ∀ i ∈ tgOwn t, i ∈ own
  ok : blkC X.N X.env.scope scope (ownN X.N own) = true
  ht : chkT scope X.N (relS scope X.env.scope) t tg = true
  hi : PI X tg it (rdSrc g X.K c W (evSrc s))
  hst : ∀ x, foldedSetIterable it X.env x = pure x
  hl : ifs'.length ≤ 1
  hts : tOks ifs' = true
  hf : ∀ (s : Shared) (H : Hp) (C : Addr) (cl : List (Str × Addr)) (fp : List Addr) (c : C0), NoXa c → AllE g (X.blk s H scope (compEnvC scope cl C X.env) fp) c W0 ifs' ifs
  he : ∀ (s : Shared) (H : Hp) (C : Addr) (cl : List (Str × Addr)) (fp : List Addr) (c : C0), NoXa c → SE g (X.blk s H scope (compEnvC scope cl C X.env) fp) c W0 elt' elt
theorem LcOk.pg (L : LcOk g cm X c W t own s ifs' elt' tg it elt ifs scope) (hc : Ctx cm X) (s : Shared) (H : Hp) (C : Addr) (cl : List (Str × Addr)) (fp : List Addr) : PG (X.blk s H scope (compEnvC scope cl C X.env) fp) tg (gT X.K t) :=
  pgT_ok (X := X.blk s H scope (compEnvC scope cl C X.env) fp) hc.nd (hc.calm L.cm) (fun x hx => by
      show (scope.names.lookup x == some .cell) = true
      rw [hx] <;> rfl) L.ht
theorem LcOk.pe (L : LcOk g cm X c W t own s ifs' elt' tg it elt ifs scope) (hc : Ctx cm X) : PE X (.ListComp elt [⟨tg, it, ifs, 0⟩] scope pos) (tLc (rdSrc g X.K c W (evSrc s)) (gT X.K t) (rdTx g X.K (evTs ifs')) (rdEx g X.K (evE elt')) own) := by
  have k := pe_lc (pos := pos) (g := gT X.K t) (tt := rdTx g X.K (evTs ifs')) (te := rdEx g X.K (evE elt')) (hc.calm L.cm) hc.nd L.hi (blkOk_by L.ok) (fun s H C cl fp => L.pg hc s H C cl fp)
    (fun s H C cl fp => evTs_pt L.hl L.hts (L.hf s H C cl fp)) (fun s H C cl fp => PE_ex (t := fun c : {c : C0 // NoXa c} => rdE g X.K c.1 W0 (evE elt')) fun c => (L.he s H C cl fp c.1 c.2).1) L.hst
  rw [ownN_snd] at k
  exact k
theorem LcOk.ps (L : LcOk g cm X c W t own s ifs' elt' tg it elt ifs scope) (hc : Ctx cm X) {i : Nat} {y : Str} {py spos : Pos} (hy : X.N[i]? = some y) (hyl : X.env.scope.names.lookup y = some .local) (hsw : swapsWith (.ListComp elt [⟨tg, it, ifs, 0⟩] scope pos) (some (.Name y py)) spos.line X.env = pure true) :
    PS X (.Assign [.Name y py] (.ListComp elt [⟨tg, it, ifs, 0⟩] scope pos) spos) (tAsg (tLc (rdSrc g X.K c W (evSrc s)) (gT X.K t) (rdTx g X.K (evTs ifs')) (rdEx g X.K (evE elt')) own) (gName i)) := by
  have k := ps_setLc (g := gT X.K t) (tt := rdTx g X.K (evTs ifs')) (te := rdEx g X.K (evE elt')) (hc.calm L.cm) hc.nd hy hyl hsw L.hi (blkOk_by L.ok) (fun s H C cl fp => L.pg hc s H C cl fp)
    (fun s H C cl fp => evTs_pt L.hl L.hts (L.hf s H C cl fp)) (fun s H C cl fp => PE_ex (t := fun c : {c : C0 // NoXa c} => rdE g X.K c.1 W0 (evE elt')) fun c => (L.he s H C cl fp c.1 c.2).1) L.hst
  rw [ownN_snd] at k
  exact k
theorem f_lc (L : LcOk g cm X c W t own s ifs' elt' tg it elt ifs scope) (hc : Ctx cm X) : PE X (.ListComp elt [⟨tg, it, ifs, 0⟩] scope pos) (rdF g X.K c W (evE (.lc t own s ifs' elt'))) :=
  PE_imp (L.pe hc) fun σ H Q ⟨Hf, ρ, r, h⟩ => lc_read L.no L.hs r h fun ρ2 Hf2 H2 D vs ys r2 d1 d2 d3 dn reps len h2 => h2 H2 Hf2 r2 (Same.refl _) _ ⟨D, vs, ys, rfl, rfl, d1, d2, .inr d3, dn, reps, len⟩
/-- the two ways of storing -/
theorem swaps_lc {y : Str} {py : Pos} {line : Nat} {env : PySem.Env} {gs : List Comprehension} : ∃ b, swapsWith (.ListComp elt gs scope pos) (some (.Name y py)) line env = pure b ∧ (b = true → env.scope.names.lookup y = some .local) := by
  refine ⟨_, rfl, fun h => ?_⟩
  obtain ⟨h, _⟩ := and3 h
  obtain ⟨h, _⟩ := and3 h
  obtain ⟨_, h⟩ := and3 h
  exact (show env.kindOf y = some .local by simpa using h)
theorem s_setLc (L : LcOk g cm X c W t own s ifs' elt' tg it elt ifs scope) (hc : CtxS cm X) {i : Nat} {y : Str} {py spos : Pos} (hy : X.N[i]? = some y) (hx : Loc X.env.scope y) :
    SS g X c W n (.set i (.lc t own s ifs' elt')) (.Assign [.Name y py] (.ListComp elt [⟨tg, it, ifs, 0⟩] scope pos) spos) := by
  obtain ⟨b, hb, hl⟩ := swaps_lc (elt := elt) (scope := scope) (pos := pos) (y := y) (py := py) (line := spos.line) (env := X.env) (gs := [⟨tg, it, ifs, 0⟩])
  have fin : ∀ D σ H, rdS g X.K c W (exS n (.set i (.lc t own s ifs' elt'))) D σ H → tAsg (tLc (rdSrc g X.K c W (evSrc s)) (gT X.K t) (rdTx g X.K (evTs ifs')) (rdEx g X.K (evE elt')) own) (gName i) D σ H := fun D σ H ⟨Hf, ρ, r, h⟩ => by
    unfold exS at h
    obtain ⟨Hf', ρ', r', h'⟩ := postS.run (Q := fun v H => D.nx (σ.set i (some v)) H) r h fun rv ρ1 Hf1 H1 v r1 s1 hv h1 => set_end r1 hv h1
    refine lc_read L.no L.hs r' h' fun ρ2 Hf2 H2 D vs ys r2 d1 d2 d3 dn reps len h2 => ?_
    have sm : Same Hf2 (upd Hf2 D (.lst vs)) := same_upd d2
    exact h2 H2 _ (r2.frzN d1 d2 (.inr d3) dn) sm _ (.lst (SqL.of upd_same) (reps.mono sm) len)
  cases b with
  | true => exact PS_imp (L.ps hc.c hy (hl rfl) hb) fin
  | false => exact PS_imp (ps_set hc.c.nd hy hx (L.pe hc.c) hb (.inl (hc.fn y))) fin
theorem s_setNLc (L : LcOk g cm X c W t own s ifs' elt' tg it elt ifs scope) (hc : CtxS cm X) {i : Nat} {y : Str} {py spos : Pos} (hn : ∀ p, (i, p) ∉ c.ps) (hy : X.N[i]? = some y) (hx : Loc X.env.scope y) :
    SS g X c W n (.setN i (.lc t own s ifs' elt')) (.Assign [.Name y py] (.ListComp elt [⟨tg, it, ifs, 0⟩] scope pos) spos) := by
  obtain ⟨b, hb, hl⟩ := swaps_lc (elt := elt) (scope := scope) (pos := pos) (y := y) (py := py) (line := spos.line) (env := X.env) (gs := [⟨tg, it, ifs, 0⟩])
  have fin : ∀ D σ H, rdS g X.K c W (exS n (.setN i (.lc t own s ifs' elt'))) D σ H → tAsg (tLc (rdSrc g X.K c W (evSrc s)) (gT X.K t) (rdTx g X.K (evTs ifs')) (rdEx g X.K (evE elt')) own) (gName i) D σ H := fun D σ H ⟨Hf, ρ, r, h⟩ => by
    unfold exS at h
    obtain ⟨Hf', ρ', r', h'⟩ := postS.runF (Q := fun v H => D.nx (σ.set i (some v)) H) r h fun rv ρ1 Hf1 H1 v r1 s1 hv h1 => by
      obtain ⟨q, vs, ds, rfl, rfl, k1, k2, k3, k4, k5, k6⟩ := hv
      exact h1 _ H1 Hf1 (r1.setO hn k1 k2 k5 k6 k3 k4) (Same.refl _)
    exact lc_read L.no L.hs r' h' fun ρ2 Hf2 H2 D vs ys r2 d1 d2 d3 dn reps len h2 => h2 H2 Hf2 r2 (Same.refl _) _ ⟨D, vs, ys, rfl, rfl, d1, d2, .inr d3, dn, reps, len⟩
  cases b with
  | true => exact PS_imp (L.ps hc.c hy (hl rfl) hb) fin
  | false => exact PS_imp (ps_set hc.c.nd hy hx (L.pe hc.c) hb (.inl (hc.fn y))) fin
end
end
end Mini
end

section
set_option Elab.async false
set_option linter.all false
set_option maxRecDepth 100000
set_option maxHeartbeats 1000000
/-! MW: new trees; stores into them. -/
namespace Mini
open PySem L2
/-- a new tree -/
structure NewTT (K : PySem.W.Frag) (c : C0) (ρ : En) (σ : L2.St) (Hf H : Hp) (v : V) (t : D) : Prop where
  tr : isTr t = true
  rep : TRep K Hf H t v
  nd : (TFoot H t v).Nodup
  at_ : ∀ a ∈ TFoot H t v, (c.fs a ∨ c.H a = none) ∧ NoOwn ρ σ H a
def rdM (g : Gx) (K : PySem.W.Frag) (c : C0) (W : WX) (e : EvF D) : TE := fun σ H Q => ∃ Hf ρ, R K c ρ σ Hf H ∧ post g K c W σ Hf (fun t ρ' Hf' H' => ∀ v, NewTT K c ρ' σ Hf' H' v t → Q v H') (e ρ)
section
variable {g : Gx} {cm : Bool} {X : Cx} {c : C0} {W : WX} {n : Nat} {pos : Pos} {p q : Expr} {a k : E}
theorem postS.runM {K : PySem.W.Frag} {Dn : Ends} {σ : L2.St} {Hf H : Hp} {ρ : En} {e : EvF D} {f : D → En → Out} {Q : VK} (r : R K c ρ σ Hf H) (h : postS g K c W Dn Hf ((e ρ).out f)) (hq : ∀ t ρ1 Hf1 H1 v, R K c ρ1 σ Hf1 H1 → Same Hf Hf1 → NewTT K c ρ1 σ Hf1 H1 v t → postS g K c W Dn Hf1 (f t ρ1) → Q v H1) : rdM g K c W e σ H Q :=
  ⟨Hf, ρ, r, h.out fun rv ρ1 Hf1 H1 r1 s1 h1 v hv => hq rv ρ1 Hf1 H1 v r1 s1 hv h1⟩
/-- x = a new tree -/
theorem s_setT {i : Nat} {x : Str} {px : Pos} {m : Mk} (hc : CtxS cm X) (hn : ∀ p, (i, p) ∉ c.ps) (hi : X.N[i]? = some x) (hx : Loc X.env.scope x) (hsw : swapsWith p (some (.Name x px)) pos.line X.env = pure false) (ha : PE X p (rdM g X.K c W (evMk m))) :
    SS g X c W n (.setT i m) (.Assign [.Name x px] p pos) :=
  PS_imp (ps_set hc.c.nd hi hx ha hsw (.inl (hc.fn x))) fun D σ H ⟨Hf, ρ, r, h⟩ => by
    unfold exS at h
    refine postS.runM r h fun t ρ1 Hf1 H1 v r1 s1 hv h1 => ?_
    exact h1 _ H1 Hf1 (r1.chg ⟨hv.tr, v, rfl, hv.rep, hv.nd⟩ (fun a h => ⟨(hv.at_ a h).1, fun j _ => (hv.at_ a h).2 j⟩) fun p h => absurd h (hn p)) (Same.refl _)
/-- t[k] = e -/
theorem s_putD {i : Nat} {x : Str} {p2 tp : Pos} (hc : CtxS cm X) (hi : X.N[i]? = some x) (hv : visB X.env.scope x = true) (hsw : swapsWith p (some (.Subscript (.Name x p2) q tp)) pos.line X.env = pure false)
    (ha : PE X p (rdE g X.K c W (evE a))) (hk : PE X q (rdE g X.K c W (evE k))) : SS g X c W n (.putD i k a) (.Assign [.Subscript (.Name x p2) q tp] p pos) := by
  obtain ⟨h3, h4, h5⟩ := vis_ok hv
  refine PS_imp (ps_dput (by have := hc.c.un; omega) (pe_var hi h3 h4 h5) hk ha hsw) fun D σ H ⟨Hf, ρ, r, h⟩ => ?_
  unfold exS at h
  refine postS.run r h fun rv ρ1 Hf1 H1 v r1 s1 hv h1 => ?_
  split at h1
  · rename_i ho
    obtain ⟨v0, e0⟩ := ownT_ok r1 ho
    refine ⟨v0, e0, postS.run r1 h1 fun rv2 ρ2 Hf2 H2 v2 r2 s2 hv2 h2 => ?_⟩
    split at h2
    · rename_i d s t e2 e3 e4
      cases asD_eq e2
      cases asD_eq e3
      split at h2
      · rename_i t' et
        obtain ⟨o, e1, _, v1, e5, ht, hnd⟩ := r2.at e4
        rw [e0] at e1
        cases e1
        cases e5
        cases t with
        | md ks ds =>
          obtain ⟨hall, hz, _⟩ := mdPut_md et
          obtain ⟨pa, kvs, rfl, g1, g2, g3, g4⟩ := ht
          have g4 : Reps X.K Hf2 (kvs.map (·.2)) ds := TReps.reps g4 fun d hd => by simpa using List.all_eq_true.mp hall d hd
          have hvr : Rep X.K Hf2 v d := Rep.mono s2 hv
          obtain ⟨ks', ds', rfl, q1, q2⟩ := put_ok g3 g4 hvr et
          have ev2 := rep_str hv2
          subst ev2
          have hlen : kvs.length < sizeLine := by
            have hl : kvs.length = ks.length := by have := congrArg List.length g3; rwa [List.length_map, List.length_map] at this
            rw [hl]; exact Nat.lt_of_lt_of_le hz lim_line
          refine ⟨pa, _, rfl, DPut.k (k := kOf s) g1 hlen, ?_⟩
          have hm : pa ∈ ft H2 ρ2 σ i := by
            show pa ∈ footO H2 ρ2[i]? σ[i]?
            rw [e4, e0]
            show pa ∈ TFoot H2 (.md ks ds) (.ref pa)
            unfold TFoot
            exact List.mem_cons_self ..
          have e6 : TFoot (upd H2 pa (.dK (putK kvs (kOf s) v))) (.md ks' ds') (.ref pa) = [pa] := by
            unfold TFoot
            simp only [upd_same]
            rw [(TReps.of_reps (H := upd H2 pa (.dK (putK kvs (kOf s) v))) q2).2]
          refine h2 _ _ Hf2 (r2.upd1 e4 e0 hm ⟨rfl, _, rfl, ⟨pa, _, rfl, upd_same, g2, q1, (TReps.of_reps q2).1⟩, by rw [e6]; simp⟩ (fun b hb => ?_) rfl) (Same.refl _)
          have hb : b ∈ TFoot (upd H2 pa (.dK (putK kvs (kOf s) v))) (.md ks' ds') (.ref pa) := hb
          rw [e6] at hb
          cases List.mem_singleton.mp hb
          exact ⟨r2.may i _ hm, fun j hj z => hj (r2.inj j i _ z hm)⟩
        | _ => cases et
      · exact h2.elim
    · exact h2.elim
  · exact h1.elim

/-! ### displays -/
def tConst (k : List Nat) : TE := fun _ H Q => Q (.str (sOf k)) H
def tPs (g : Gx) (K : PySem.W.Frag) (xa : Addr → Addr → Nat → Str → Prop) (W : WX) : List (List Nat) → List E → List (TE × TE)
  | k :: ks, e :: es => (tConst k, fun σ H Q => ∃ c : C0, c.xa = xa ∧ rdE g K c W (evE e) σ H Q) :: tPs g K xa W ks es
  | _, _ => []
theorem tPs_run {K : PySem.W.Frag} {σ : L2.St} : ∀ {ks : List (List Nat)} {es : List E} {ρ : En} {Hf H : Hp} {Q : List (V × V) → Hp → Prop}, ks.length = es.length → R K c ρ σ Hf H →
    post g K c W σ Hf (fun rs _ Hf' H' => ∀ vs, RvsR K σ Hf' vs rs → Q ((ks.map fun k => V.str (sOf k)).zip vs) H') (evEs es ρ) → tPairs (tPs g K c.xa W ks es) σ H Q
  | [], [], ρ, Hf, H, Q, _, r, h => by
    unfold evEs at h
    exact h _ Hf r (Same.refl _) [] .nil
  | [], _ :: _, _, _, _, _, e, _, _ => by cases e
  | _ :: _, [], _, _, _, _, e, _, _ => by cases e
  | k :: ks, e :: es, ρ, Hf, H, Q, hl, r, h => by
    unfold evEs at h
    refine ⟨c, rfl, post.run r h fun rv ρ1 Hf1 H1 v r1 s1 hv h1 => ?_⟩
    refine tPs_run (Nat.succ.inj hl) r1 (h1.bind fun rs ρ2 Hf2 H2 r2 s2 h2 vs hvs => ?_)
    exact h2 H2 Hf2 r2 (Same.refl _) (v :: vs) (.cons (hv.mono s2) hvs)
theorem zip_keys : ∀ {ks : List (List Nat)} {vs : List V}, ks.length = vs.length → ((ks.map kOf).zip vs).map (·.1) = ks.map kOf ∧ ((ks.map kOf).zip vs).map (·.2) = vs ∧ (ks.map fun k => V.str (sOf k)).zip vs = ((ks.map kOf).zip vs).map (fun kv => (kV kv.1, kv.2))
  | [], [], _ => ⟨rfl, rfl, rfl⟩
  | [], _ :: _, h => by cases h
  | _ :: _, [], h => by cases h
  | k :: ks, v :: vs, h => by
    obtain ⟨h1, h2, h3⟩ := zip_keys (ks := ks) (vs := vs) (Nat.succ.inj h)
    refine ⟨?_, ?_, ?_⟩
    · rw [List.map_cons, List.zip_cons_cons, List.map_cons, h1]
    · rw [List.map_cons, List.zip_cons_cons, List.map_cons, h2]
    · rw [List.map_cons, List.zip_cons_cons, List.map_cons, List.zip_cons_cons, List.map_cons, h3]
      rfl
/-- an object that no slot owns, that was made since, changes -/
theorem R.loose {K : PySem.W.Frag} {c : C0} {ρ : En} {σ : L2.St} {Hf H : Hp} (r : R K c ρ σ Hf H) {p : Addr} {u o : HO} (hp : H p = some u) (hu : ∀ fs, u ≠ .xd fs) (hf : Hf p = none) (hn : NoOwn ρ σ H p) (hc : c.H p = none) : R K c ρ σ Hf (upd H p o) :=
  r.heap (Same.refl _) (fun a w h => by
    by_cases e : a = p
    · subst e; rw [hf] at h; cases h
    · rw [upd_ne e]; exact r.sub _ _ h) (fun j a ha => ⟨fun w h => by
    rw [upd_ne fun z => by subst z; exact hn j ha]; exact h, (r.fat ha).2⟩) (fun a fs h => by
    rw [upd_ne fun z => by subst z; rw [hp] at h; cases h; exact hu _ rfl]; exact h) (fun a w h _ k => by
    rw [upd_ne fun z => by subst z; rw [hc] at h; cases h]; exact k) (fun a w h => by
    by_cases e : a = p
    · subst e; exact ⟨o, upd_same⟩
    · exact ⟨w, by rw [upd_ne e]; exact h⟩) fun a w h n m e => e
theorem disp_ok {ks : List (List Nat)} {es : List E} {keys : List (Option Expr)} {values : List Expr} (hn : ks.Nodup) (hl : ks.length = es.length) (h0 : keys ≠ []) (h15 : keys.length ≤ 15) (hkl : keys.length = ks.length) (hvl : keys.length = values.length) (hall : keys.all (·.isSome) = true)
    (hp : PPs X pos keys values (tPs g X.K c.xa W ks es)) : PE X (.Dict keys values pos) (rdM g X.K c W (evMk (.disp ks es))) := by
  refine PE_imp (pe_disp hp hall hvl h0 h15) fun σ H Q ⟨Hf, ρ, r, h⟩ p hp0 => ?_
  have r1 := r.adv (Adv.new' (o := .dK []) r.sub hp0)
  have no1 : NoOwn ρ σ (upd H p (.dK [])) p := r.none_own' hp0
  unfold evMk at h
  have h1 := post.here r1 h
  have e0 : (c.here ρ σ Hf (upd H p (.dK []))).xa = c.xa := rfl
  rw [← e0]
  refine tPs_run hl r1.here (post.bind h1 fun rs ρ1 Hf1 H1 r2 s1 h2 vs hvs => ?_)
  obtain ⟨ds, ed, h3⟩ := h2.optb
  split at h3
  · rename_i hz
    obtain ⟨q1, q2⟩ := r2.here_keep (a := p) upd_same no1
    have hfp : Hf1 p = none := q2 (r.sub.free hp0)
    have rs1 := hvs.asDs ed
    have lv : vs.length = ks.length := by rw [rs1.length, hz]
    obtain ⟨z1, z2, z3⟩ := zip_keys (ks := ks) (vs := vs) lv.symm
    have hcp : c.H p = none := r.fresh hp0
    have nop : NoOwn ρ1 σ H1 p := fun j m => by
      rcases r2.may j p m with ⟨i, k⟩ | k
      · exact no1 i k
      · have k : (upd H p (.dK [])) p = none := k
        rw [upd_same] at k; cases k
    refine ⟨q1, (ks.map kOf).zip vs, z3, ?_, ?_⟩
    · rw [List.length_zip, List.length_map]; omega
    · rw [merge_new _ [] (by rw [List.nil_append, z1]; exact List.pairwise_map.mpr (hn.imp fun hab z => hab (kOf_inj.mp z))), List.nil_append]
      have r3 : R X.K c ρ1 σ Hf1 (upd H1 p (.dK ((ks.map kOf).zip vs))) := (r1.back_t r2).loose q1 (fun _ z => by cases z) hfp nop hcp
      have rv : Reps X.K Hf1 (((ks.map kOf).zip vs).map (·.2)) ds := by rw [z2]; exact rs1
      obtain ⟨w1, w2⟩ := TReps.of_reps (H := upd H1 p (.dK ((ks.map kOf).zip vs))) rv
      have e6 : TFoot (upd H1 p (.dK ((ks.map kOf).zip vs))) (.md ks ds) (.ref p) = [p] := by
        unfold TFoot
        simp only [upd_same]
        rw [w2]
      refine h3 _ Hf1 r2 (Same.refl _) _ Hf1 r3 (Same.refl _) _ ⟨rfl, ⟨p, _, rfl, upd_same, hfp, z1, w1⟩, by rw [e6]; simp, fun b hb => ?_⟩
      rw [e6] at hb
      cases List.mem_singleton.mp hb
      exact ⟨.inr hcp, (r1.back_t r2).ft_loose nop fun fs z => by rw [q1] at z; cases z⟩
  · exact h3.elim
end
end Mini
end

section
set_option Elab.async false
set_option linter.all false
set_option maxRecDepth 100000
set_option maxHeartbeats 4000000
/-! M17: every statement; defs. -/
namespace Mini
open PySem L2

/-! ### the check of statements -/
def locB (sc : Scope) (x : Str) : Bool := match sc.names.lookup x with
  | some .local => true
  | some .cell => true
  | _ => false
def noComp : Expr → Bool
  | .ListComp _ _ _ _ | .SetComp _ _ _ _ | .DictComp _ _ _ _ _ => false
  | _ => true
def noTup : Expr → Bool
  | .Tuple _ _ _ => false
  | _ => true
def isLc : E → Bool
  | .lc _ _ _ _ _ => true
  | _ => false
def chkF : E → Bool
  | .lst _ => true
  | .lc _ _ _ _ _ => true
  | .bi b es => (match b, es with
    | .list, [_] => true
    | _, _ => false)
  | .call f _ => f.fr
  | .cat _ _ => true
  | _ => false
def augB : Bool → Operator → Bool
  | false, .Add => true
  | true, .Sub => true
  | _, _ => false
def chkKs : List (List Nat) → List (Option Expr) → Bool
  | [], ps => ps.isEmpty
  | k :: ks, ps => (match ps with
    | some (.Constant c _ _) :: ps => constB (.str k) c && chkKs ks ps
    | _ => false)
def chkMk (cm : Bool) (N : List Str) (sc : Scope) : Mk → Expr → Bool
  | .disp ks es, e => (match e with
    | .Dict ps qs _ => chkKs ks ps && chkEs cm N sc es qs && decide ks.Nodup && decide (ks.length = es.length) && decide (ks.length ≤ 15) && !ks.isEmpty
    | _ => false)
def okMk (g : Gx) (d : Wd) : Mk → Prop
  | .disp _ es => okEs g d es
def frzI : S → Option Nat
  | .frz i => some i
  | _ => none
mutual
def chkS (cm : Bool) (N : List Str) (sc : Scope) (np : Nat) : S → Stmt → Bool
  | .ret a, st => (match st with
    | .Return e _ => (match e with
      | some p => chkE cm N sc a p
      | none => false)
    | _ => false)
  | .retN, st => (match st with
    | .Return e _ => (match e with
      | none => true
      | some _ => false)
    | _ => false)
  | .retF a, st => (match st with
    | .Return e _ => (match e with
      | some p => chkF a && chkE cm N sc a p
      | none => false)
    | _ => false)
  | .set i a, st => (match st with
    | .Assign ts p _ => (match ts with
      | [t] => (match t with
        | .Name x _ => decide (N[i]? = some x) && locB sc x && (isLc a || noComp p) && chkE cm N sc a p
        | _ => false)
      | _ => false)
    | _ => false)
  | .setN i a, st => (match st with
    | .Assign ts p _ => (match ts with
      | [t] => (match t with
        | .Name x _ => decide (N[i]? = some x) && locB sc x && (isLc a || noComp p) && decide (np ≤ i) && chkF a && chkE cm N sc a p
        | _ => false)
      | _ => false)
    | _ => false)
  | .unp is a, st => (match st with
    | .Assign ts p _ => (match ts with
      | [t] => (match t with
        | .Tuple es _ _ => cm && tgsB sc N sc is es && noTup p && chkE cm N sc a p
        | _ => false)
      | _ => false)
    | _ => false)
  | .aug i sub a, st => (match st with
    | .AugAssign t op p _ => (match t with
      | .Name x _ => decide (N[i]? = some x) && locB sc x && augB sub op && chkE cm N sc a p
      | _ => false)
    | _ => false)
  | .ite t a b, st => (match st with
    | .If p as bs _ => tOk t && chkE cm N sc t p && chkSs cm N sc np a as && chkSs cm N sc np b bs
    | _ => false)
  | .whl t b, st => (match st with
    | .While p bs or _ => or.isEmpty && tOk t && chkE cm N sc t p && chkSs cm N sc np b bs
    | _ => false)
  | .for t s b, st => (match st with
    | .For tg it bs or _ => or.isEmpty && cm && chkT sc N sc t tg && chkSrc cm N sc s it && chkSs cm N sc np b bs
    | _ => false)
  | .app i a, st => (match st with
    | .Expr e _ => (match e with
      | .Call fn ps kws cpos => (match fn, ps, kws with
        | .Attribute ob nm apos, [p], [] => (match ob with
          | .Name x _ => decide (nm = ("append" : Str)) && (apos.endLine == cpos.line) && decide (N[i]? = some x) && visB sc x && plainB p && chkE cm N sc a p
          | _ => false)
        | _, _, _ => false)
      | _ => false)
    | _ => false)
  | .ext i a, st => (match st with
    | .Expr e _ => (match e with
      | .Call fn ps kws cpos => (match fn, ps, kws with
        | .Attribute ob nm apos, [p], [] => (match ob with
          | .Name x _ => decide (nm = ("extend" : Str)) && (apos.endLine == cpos.line) && decide (N[i]? = some x) && visB sc x && plainB p && chkE cm N sc a p
          | _ => false)
        | _, _, _ => false)
      | _ => false)
    | _ => false)
  | .put i k a, st => (match st with
    | .Assign ts p _ => (match ts with
      | [t] => (match t with
        | .Subscript ob q _ => (match ob with
          | .Name x _ => decide (N[i]? = some x) && visB sc x && plainB q && chkE cm N sc a p && chkE cm N sc k q
          | _ => false)
        | _ => false)
      | _ => false)
    | _ => false)
  | .putD i k a, st => (match st with
    | .Assign ts p _ => (match ts with
      | [t] => (match t with
        | .Subscript ob q _ => (match ob with
          | .Name x _ => decide (N[i]? = some x) && visB sc x && noComp p && chkE cm N sc a p && chkE cm N sc k q
          | _ => false)
        | _ => false)
      | _ => false)
    | _ => false)
  | .setT i m, st => (match st with
    | .Assign ts p _ => (match ts with
      | [t] => (match t with
        | .Name x _ => decide (N[i]? = some x) && locB sc x && noComp p && decide (np ≤ i) && chkMk cm N sc m p
        | _ => false)
      | _ => false)
    | _ => false)
  | .exp a, st => (match st with
    | .Expr p _ => noComp p && chkE cm N sc a p
    | _ => false)
  | .raise _ C a, st => (match st with
    | .Raise e f _ => (match e, f with
      | some (.Call fn ps kws _), none => (match fn, ps, kws with
        | .Name x _, [p], [] => decide (x = C) && cm && glB sc x && plainB p && chkE cm N sc a p
        | _, _, _ => false)
      | _, _ => false)
    | _ => false)
  | .try b cs C m h, st => (match st with
    | .Try bs hs el fi _ => (match hs, el, fi with
      | [.ExceptHandler ty nm sts _], [], [] => (match ty, sts with
        | some (.Name x _), st :: sts => decide (x = C) && (cm && glB sc x) && (match m, nm with
          | none, none => true
          | some i, some y => decide (N[i]? = some y) && (match sc.names.lookup y with
            | some .local => true
            | _ => false)
          | _, _ => false) && chkSs cm N sc np b bs && chkSs false N sc np h (st :: sts)
        | _, _ => false)
      | _, _, _ => false)
    | _ => false)
  | .frz _, _ => false
  | .pas, st => (match st with
    | .Pass _ => true
    | .Expr e _ => (match e with
      | .Constant c _ _ => (match c with
        | .str _ => true
        | _ => false)
      | _ => false)
    | _ => false)
  | .brk, st => (match st with
    | .Break _ => true
    | _ => false)
  | .cnt, st => (match st with
    | .Continue _ => true
    | _ => false)
  | .nev, _ => true
def chkSs (cm : Bool) (N : List Str) (sc : Scope) (np : Nat) : List S → List Stmt → Bool
  | [], sts => (match sts with
    | [] => true
    | _ :: _ => false)
  | s :: ss, sts => (match frzI s with
    | some i => decide (np ≤ i) && chkSs cm N sc np ss sts
    | none => (match sts with
      | [] => false
      | st :: sts => chkS cm N sc np s st && chkSs cm N sc np ss sts))
end
mutual
def okSt (g : Gx) (d : Wd) : S → Prop
  | .ret a | .retF a | .set _ a | .setN _ a | .unp _ a | .aug _ _ a | .app _ a | .ext _ a | .exp a => okE g d a
  | .raise x C a => RaiseOk g d x C ∧ okE g d a
  | .put _ k a => okE g d k ∧ okE g d a
  | .putD _ k a => okE g d k ∧ okE g d a
  | .setT _ m => okMk g d m
  | .ite t a b => okE g d t ∧ okSts g d a ∧ okSts g d b
  | .whl t b => okE g d t ∧ okSts g d b
  | .for _ s b => okSrc g d s ∧ okSts g d b
  | .try b cs C _ h => okSts g d b ∧ (∀ x, okSts g { d with A := d.A.mark x } h) ∧ ∃ cv, d.mg C = some cv ∧ ∀ x, x < g.n → PySem.W.exmOne d.K (.ref (g.xc x)) cv = some (cs.contains x)
  | .retN | .frz _ | .pas | .brk | .cnt | .nev => True
def okSts (g : Gx) (d : Wd) : List S → Prop
  | [] => True
  | s :: ss => okSt g d s ∧ okSts g d ss
end

theorem noComp_sw {p : Expr} {t : Option Expr} {l : Nat} {env : PySem.Env} (h : noComp p = true) : swapsWith p t l env = pure false := by
  cases p <;> first | rfl | cases h
theorem sw_sub {o q p : Expr} {tp : Pos} {l : Nat} {env : PySem.Env} : swapsWithSole [.Subscript o q tp] p l env = pure false := by cases p <;> rfl
theorem sw_tup {es : List Expr} {x1 : Nat} {p : Expr} {p2 : Pos} {l : Nat} {env : PySem.Env} : swapsWithSole [.Tuple es x1 p2] p l env = pure false := by cases p <;> rfl
theorem st_tup {es : List Expr} {x1 : Nat} {p : Expr} {p2 : Pos} {env : PySem.Env} (h : noTup p = true) : swappedStores [.Tuple es x1 p2] p env = pure none := by
  cases p <;> first | rfl | cases h
theorem loc_ok {sc : Scope} {x : Str} (h : locB sc x = true) : Loc sc x := by
  unfold locB at h
  split at h
  · exact .inl (by assumption)
  · exact .inr (by assumption)
  · cases h
theorem lcOk_of {g : Gx} {cm : Bool} {X : Cx} {c : C0} {W : WX} {t : Tgt} {own : List Nat} {s : Src} {ifs : List E} {elt : E} {e : Expr} (hc : Ctx cm X) (hx : XOk g cm X c) (hk : chkE cm X.N X.env.scope (.lc t own s ifs elt) e = true) (ho : okE g (wd X) (.lc t own s ifs elt)) (tk : Takes X W) :
    ∃ tg it x fs scope pos, e = .ListComp x [⟨tg, it, fs, 0⟩] scope pos ∧ LcOk g cm X c W t own s ifs elt tg it x fs scope := by
  unfold chkE at hk
  split at hk
  · split at hk
    · obtain ⟨hk, h9⟩ := and3 hk
      obtain ⟨hk, h8⟩ := and3 hk
      obtain ⟨hk, h7⟩ := and3 hk
      obtain ⟨hk, h6⟩ := and3 hk
      obtain ⟨hk, h5⟩ := and3 hk
      obtain ⟨hk, h4⟩ := and3 hk
      obtain ⟨hk, h3⟩ := and3 hk
      obtain ⟨hk, h2⟩ := and3 hk
      obtain ⟨h0, h1⟩ := and3 hk
      have h0 := of_decide_eq_true h0
      subst h0
      exact ⟨_, _, _, _, _, _, rfl, h1, hx.no h1, fun i hi => by simpa using List.all_eq_true.mp h2 i hi, h3, h4, sSrc s hc hx h5 ho.1 tk, plainSrc h5, of_decide_eq_true h7, h6,
        fun s H C cl fp c hn => sEs (X := X.blk s H _ (compEnvC _ cl C X.env) fp) ifs (hc.blk ..) (.of hn) h8 ho.2.1 takes0, fun s H C cl fp c hn => sE (X := X.blk s H _ (compEnvC _ cl C X.env) fp) elt (hc.blk ..) (.of hn) h9 ho.2.2 takes0⟩
    · cases hk
  · cases hk
theorem aug_ok {sub : Bool} {op : Operator} (h : augB sub op = true) : op = if sub then .Sub else .Add := by
  cases sub <;> cases op <;> first | rfl | exact absurd h (by decide)
/-- new lists -/
theorem sF {g : Gx} {cm : Bool} {X : Cx} {c : C0} {W : WX} {a : E} {p : Expr} (hc : Ctx cm X) (hx : XOk g cm X c) (hf : chkF a = true) (hk : chkE cm X.N X.env.scope a p = true) (ho : okE g (wd X) a) (tk : Takes X W) : PE X p (rdF g X.K c W (evE a)) := by
  cases a with
  | lst es =>
    unfold chkE at hk
    split at hk
    · exact f_lst (sEs es hc hx hk ho tk)
    · cases hk
  | lc t own s ifs elt =>
    obtain ⟨_, _, _, _, _, _, rfl, L⟩ := lcOk_of (c := c) hc hx hk ho tk
    exact f_lc L hc
  | bi b es =>
    unfold chkF at hf
    simp only at hf
    split at hf
    · unfold chkE at hk
      split at hk
      · split at hk
        · obtain ⟨hk, h5⟩ := and3 hk
          obtain ⟨hk, h4⟩ := and3 hk
          obtain ⟨hk, h3⟩ := and3 hk
          obtain ⟨h1, h2⟩ := and3 hk
          have h1 := of_decide_eq_true h1
          subst h1
          have A := sEs (c := c) _ hc hx h5 ho tk
          cases A with
          | cons hp hs t =>
            cases t
            exact f_list hc h2 (.cons hp hs .nil)
        · cases hk
      · cases hk
    · cases hf
  | cat a b =>
    unfold chkE at hk
    split at hk
    · obtain ⟨hk, h3⟩ := and3 hk
      obtain ⟨h1, h2⟩ := and3 hk
      cases bop_ok h1
      exact f_cat (sE a (c := c) hc hx h2 ho.1 tk).1 (sE b (c := c) hc hx h3 ho.2 tk).1
    · cases hk
  | call f es =>
    unfold chkE at hk
    split at hk
    · split at hk
      · obtain ⟨hk, h3⟩ := and3 hk
        obtain ⟨h1, h2⟩ := and3 hk
        have h1 := of_decide_eq_true h1
        subst h1
        exact f_call hf ho.1 tk h2 (sEs es hc hx h3 ho.2 tk)
      · cases hk
    · cases hk
  | _ => cases hf

theorem XOk.xa {g : Gx} {cm : Bool} {X : Cx} {c c' : C0} (h : XOk g cm X c) (e : c'.xa = c.xa) : XOk g cm X c' := ⟨fun z => by have := h.no z; unfold NoXa at this ⊢; rw [e]; exact this, fun a dx x f z => h.ok a dx x f (by rw [← e]; exact z)⟩
theorem PE_exP {X : Cx} {e : Expr} {ι : Type} {P : ι → Prop} {t : ι → TE} (h : ∀ i, P i → PE X e (t i)) : PE X e (fun σ H Q => ∃ i, P i ∧ t i σ H Q) := ⟨fun pins s σ H Q I ⟨i, hi, q⟩ => (h i hi).run pins s σ H Q I q⟩
theorem const_pe {X : Cx} {k : List Nat} {c : Const} {x1 : Nat} {p : Pos} (h : constB (.str k) c = true) : PE X (.Constant c x1 p) (tConst k) := by
  cases c with
  | str s =>
    obtain ⟨h1, _⟩ := and3 (show (decide (s.cps.toList = k) && okS k) = true from h)
    have h1 := of_decide_eq_true h1
    have e : s = sOf k := by
      obtain ⟨a⟩ := s
      obtain ⟨l⟩ := a
      subst h1
      rfl
    subst e
    exact PE_imp pe_str fun σ H Q h => h
  | _ => cases h
theorem sPs {g : Gx} {cm : Bool} {X : Cx} {c : C0} {W : WX} {pos : Pos} : ∀ {ks : List (List Nat)} {es : List E} {ps : List (Option Expr)} {qs : List Expr}, Ctx cm X → XOk g cm X c → chkKs ks ps = true → chkEs cm X.N X.env.scope es qs = true → okEs g (wd X) es → Takes X W → ks.length = es.length →
    PPs X pos ps qs (tPs g X.K c.xa W ks es) ∧ ps.all (·.isSome) = true ∧ ps.length = ks.length ∧ qs.length = ks.length
  | [], [], ps, qs, hc, hx, h1, h2, ho, tk, hl => by
    have h1 : ps.isEmpty = true := h1
    cases ps with
    | cons _ _ => cases h1
    | nil =>
      unfold chkEs at h2
      cases qs with
      | cons _ _ => cases h2
      | nil => exact ⟨pps_nil, rfl, rfl, rfl⟩
  | [], _ :: _, ps, qs, hc, hx, h1, h2, ho, tk, hl => by cases hl
  | _ :: _, [], ps, qs, hc, hx, h1, h2, ho, tk, hl => by cases hl
  | k :: ks, e :: es, ps, qs, hc, hx, h1, h2, ho, tk, hl => by
    unfold chkKs at h1
    split at h1
    · obtain ⟨h3, h4⟩ := and3 h1
      unfold chkEs at h2
      cases qs with
      | nil => cases h2
      | cons q qs =>
        obtain ⟨h5, h6⟩ := and3 h2
        obtain ⟨h7, h8⟩ := and3 h5
        obtain ⟨k1, k2, k3, k4⟩ := sPs (pos := pos) hc hx h4 h6 ho.2 tk (Nat.succ.inj hl)
        refine ⟨pps_cons (const_pe h3) (PE_exP fun c' e' => (sE e hc (hx.xa e') h8 ho.1 tk).1) k1, ?_, ?_, ?_⟩
        · rw [List.all_cons, k2]; rfl
        · rw [List.length_cons, List.length_cons, k3]
        · rw [List.length_cons, List.length_cons, k4]
    · cases h1
theorem sMk {g : Gx} {cm : Bool} {X : Cx} {c : C0} {W : WX} (m : Mk) {p : Expr} (hc : Ctx cm X) (hx : XOk g cm X c) (hk : chkMk cm X.N X.env.scope m p = true) (ho : okMk g (wd X) m) (tk : Takes X W) : PE X p (rdM g X.K c W (evMk m)) := by
  cases m with
  | disp ks es =>
    cases p with
    | Dict ps qs pos =>
      have hk : (chkKs ks ps && chkEs cm X.N X.env.scope es qs && decide ks.Nodup && decide (ks.length = es.length) && decide (ks.length ≤ 15) && !ks.isEmpty) = true := hk
      obtain ⟨hk, h6⟩ := and3 hk
      obtain ⟨hk, h5⟩ := and3 hk
      obtain ⟨hk, h4⟩ := and3 hk
      obtain ⟨hk, h3⟩ := and3 hk
      obtain ⟨h1, h2⟩ := and3 hk
      have h4 := of_decide_eq_true h4
      have h5 := of_decide_eq_true h5
      obtain ⟨k1, k2, k3, k4⟩ := sPs hc hx h1 h2 ho tk h4
      exact disp_ok (of_decide_eq_true h3) h4 (fun z => by subst z; cases ks with
        | nil => cases h6
        | cons _ _ => cases k3) (by omega) k3 (by omega) k2 k1
    | _ => cases hk
theorem seq_post {g : Gx} {K : PySem.W.Frag} {c : C0} {W : WX} {Dn : Ends} {Hf : Hp} {o : Out} {f : En → Out} (h : postS g K c W Dn Hf (o.seq f)) : postS g K c W { Dn with nx := rdS g K c W f Dn } Hf o := by
  cases o with
  | nx ρ => exact fun σ' H' Hf' r s => ⟨Hf', ρ, r, postS.mono s h⟩
  | brk ρ => exact h
  | cnt ρ => exact h
  | ret rv ρ => exact h
  | exc x d ρ => exact h
  | new ds ρ => exact h
  | bad => exact h
/-! ### except clauses -/
def C0.hand (c : C0) (a dx : Addr) (x : Nat) (f : Str) : C0 := { c with xa := fun a' dx' x' f' => a' = a ∧ dx' = dx ∧ x' = x ∧ f' = f }
theorem CtxS.tr {cm : Bool} {X : Cx} (h : CtxS cm X) {pn : List (Addr × Obj)} {xe : Value → Shared → Prop} (p : PassesOwn (model X.prog X.w) X.A X.env xe) : CtxS cm (X.tr pn xe) := ⟨⟨h.c.nd, h.c.fre, h.c.un, h.c.calm⟩, h.fn, p, h.stk, h.frm⟩
theorem CtxS.suite {cm : Bool} {X : Cx} (h : CtxS cm X) (a : Addr) (pn : List (Addr × Obj)) : CtxS false (X.suite a pn) := ⟨⟨h.c.nd, h.c.fre, h.c.un, fun z => by cases z⟩, h.fn, PassesOwn.never, h.stk, h.frm⟩
theorem XOk.hand {g : Gx} {X : Cx} {c : C0} {a dx : Addr} {x : Nat} {oe : Obj} {pn : List (Addr × Obj)} (hz : Zc (.ref (g.xc x)) (some dx) oe) (hd : ∃ vs, oe.data = .fields vs) : XOk g false (X.suite a ((a, oe) :: pn)) (c.hand a dx x (g.xf x)) :=
  ⟨(fun z => by cases z), fun a' dx' x' f' ⟨e1, e2, e3, e4⟩ => by
    subst e1 e2 e3 e4
    exact ⟨rfl, X, oe, pn, rfl, hz, hd⟩⟩
section
variable {K : PySem.W.Frag} {c : C0} {ρ : En} {σ : L2.St} {Hf H : Hp}
theorem noX_ok (h : noX ρ = true) {i x : Nat} {d : D} (e : ρ[i]? = some (Sl.exn x d)) : False := by
  have q := List.all_eq_true.mp h _ (List.mem_of_getElem? e)
  cases q
theorem R.xa (r : R K c ρ σ Hf H) (h : noX ρ = true) (xa : Addr → Addr → Nat → Str → Prop) : R K { c with xa := xa } ρ σ Hf H := ⟨r.len, fun i s o h1 h2 => by
  have q := r.sl i s o h1 h2
  cases s with
  | exn x d => exact (noX_ok h h1).elim
  | no => trivial
  | val d => exact q
  | own d => exact q
  | tr d => exact q, r.may, r.inj, r.sub, r.f0, r.keep, r.live, r.out, r.par⟩
theorem ownT_no {i : Nat} (h : isOwnT ρ i = false) {s : Sl} {b : Bool} (e : ρ[i]? = some s) : sKind s ≠ some b := fun k => by
  unfold isOwnT at h
  rw [e] at h
  cases s <;> first | (cases k; done) | cases h
theorem own_no {i : Nat} (h : isOwn ρ i = false) {ds : List D} : ρ[i]? ≠ some (Sl.own ds) := fun e => by
  unfold isOwn at h
  rw [e] at h
  cases h
/-- slot i becomes something that owns no list -/
theorem R.slot (r : R K c ρ σ Hf H) {i : Nat} {s : Sl} {o : Option V} (hi : isOwnT ρ i = false) (hs : s = .no ∨ ∃ x d a dx f v, s = .exn x d ∧ o = some (.ref a) ∧ c.xa a dx x f ∧ H dx = some (.xd [(f, v)]) ∧ Rep K Hf v d) : R K c (ρ.set i s) (σ.set i o) Hf H := by
  have hn : ∀ p, (i, p) ∉ c.ps := fun p hp => by
    obtain ⟨_, t, e, k⟩ := r.par i p hp
    exact ownT_no hi e k
  rcases hs with rfl | ⟨x, d, a, dx, f, v, rfl, rfl, k⟩
  · exact r.chg trivial (fun a h => by cases h) fun p h => absurd h (hn p)
  · exact r.chg ⟨a, dx, f, v, rfl, k⟩ (fun a h => by cases h) fun p h => absurd h (hn p)
theorem R.slot0 (r : R K c ρ σ Hf H) {i : Nat} (hi : isOwnT ρ i = false) : R K c (ρ.set i .no) σ Hf H := by
  by_cases hlt : i < σ.length
  · have q := r.slot (o := σ[i]) hi (.inl rfl)
    rw [List.set_getElem_self] at q
    exact q
  · have q := r.slot (o := none) hi (.inl rfl)
    rw [List.set_eq_of_length_le (Nat.le_of_not_lt hlt)] at q
    exact q
end
section
variable {g : Gx} {cm : Bool} {X : Cx} {c : C0} {W : WX} {n : Nat} {pos np pos' : Pos} {b h : List S} {bs sts : List Stmt} {st : Stmt} {cs : List Nat} {C y : Str} {cv : Value} {i : Nat}
/-- how a suite's end ends the whole -/
theorem post_leave {K : PySem.W.Frag} {Dn Dn' : Ends} {Hf : Hp} {a dx : Addr} {x : Nat} {f : Str} {m : Option Nat} {o : Out} (hp : postS g K c W Dn Hf (leaveT m o)) (hrt : Dn'.rt = Dn.rt)
    (hT : ∀ (F F' : L2.St → Hp → Prop), (F = Dn.nx ∧ F' = Dn'.nx) ∨ (F = Dn.bk ∧ F' = Dn'.bk) ∨ (F = Dn.ct ∧ F' = Dn'.ct) → ∀ σ H, (match m with
      | none => F σ H
      | some i => F (σ.set i none) H) → F' σ H) : postS g K (c.hand a dx x f) W0 Dn' Hf o := by
  have lv : ∀ {ρ ρ' : En} {σ : L2.St} {Hf H : Hp}, leaveX m ρ = some ρ' → R K (c.hand a dx x f) ρ σ Hf H → R K c ρ' σ Hf H ∧ (match m with
      | none => R K c ρ' σ Hf H
      | some i => R K c ρ' (σ.set i none) Hf H) := fun {ρ ρ' σ Hf H} e r => by
    unfold leaveX at e
    cases m with
    | none =>
      simp only at e
      split at e
      · rename_i hx
        cases e
        exact ⟨r.xa hx c.xa, r.xa hx c.xa⟩
      · cases e
    | some i =>
      simp only at e
      split at e
      · rename_i hx
        obtain ⟨h1, h2⟩ := and3 hx
        cases e
        have h1 : isOwnT ρ i = false := by simpa using h1
        exact ⟨(r.slot0 h1).xa h2 c.xa, (r.slot (o := none) h1 (.inl rfl)).xa h2 c.xa⟩
      · cases e
  have go : ∀ (F F' : L2.St → Hp → Prop), (F = Dn.nx ∧ F' = Dn'.nx) ∨ (F = Dn.bk ∧ F' = Dn'.bk) ∨ (F = Dn.ct ∧ F' = Dn'.ct) → ∀ {ρ ρ' : En}, leaveX m ρ = some ρ' → (∀ σ' H' Hf', R K c ρ' σ' Hf' H' → Same Hf Hf' → F σ' H') → ∀ σ' H' Hf', R K (c.hand a dx x f) ρ σ' Hf' H' → Same Hf Hf' → F' σ' H' := fun F F' hF {ρ ρ'} e hq σ' H' Hf' r s => by
    obtain ⟨r1, r2⟩ := lv e r
    refine hT F F' hF σ' H' ?_
    cases m with
    | none => exact hq _ _ _ r2 s
    | some i => exact hq _ _ _ r2 s
  cases o with
  | bad => exact hp
  | exc _ _ _ => exact hp.elim
  | nx ρ =>
    simp only [leaveT] at hp
    cases e : leaveX m ρ with
    | none => rw [e] at hp; exact hp.elim
    | some ρ' => rw [e] at hp; exact go _ _ (.inl ⟨rfl, rfl⟩) e hp
  | brk ρ =>
    simp only [leaveT] at hp
    cases e : leaveX m ρ with
    | none => rw [e] at hp; exact hp.elim
    | some ρ' => rw [e] at hp; exact go _ _ (.inr (.inl ⟨rfl, rfl⟩)) e hp
  | cnt ρ =>
    simp only [leaveT] at hp
    cases e : leaveX m ρ with
    | none => rw [e] at hp; exact hp.elim
    | some ρ' => rw [e] at hp; exact go _ _ (.inr (.inr ⟨rfl, rfl⟩)) e hp
  | ret rv ρ =>
    simp only [leaveT] at hp
    cases e : leaveX m ρ with
    | none => rw [e] at hp; exact hp.elim
    | some ρ' =>
      rw [e] at hp
      intro σ' H' Hf' v r s hv
      rw [hrt]
      exact hp σ' H' Hf' v (lv e r).1 s hv
  | new ds ρ =>
    simp only [leaveT] at hp
    cases e : leaveX m ρ with
    | none => rw [e] at hp; exact hp.elim
    | some ρ' =>
      rw [e] at hp
      intro σ' H' Hf' v r s hv
      rw [hrt]
      have e2 : ∀ {j : Nat} {a : Addr}, a ∈ ft H' ρ' σ' j → a ∈ ft H' ρ σ' j := fun {j a} z => by
        unfold leaveX at e
        cases m with
        | none =>
          simp only at e
          split at e
          · cases e; exact z
          · cases e
        | some i =>
          simp only at e
          split at e
          · cases e
            have z : a ∈ footO H' (ρ.set i .no)[j]? σ'[j]? := z
            by_cases hij : i = j
            · subst hij
              by_cases hlt : i < ρ.length
              · rw [List.getElem?_set_self hlt] at z; cases z
              · rw [List.getElem?_eq_none (by rw [List.length_set]; omega)] at z; cases z
            · rw [List.getElem?_set_ne hij] at z; exact z
          · cases e
      obtain ⟨p, vs, d, k1, k2, k3, k4, k5, k6, k7, k8⟩ := hv
      exact hp σ' H' Hf' v (lv e r).1 s ⟨p, vs, d, k1, k2, k3, k4, k5, fun j m => k6 j (e2 m), k7, k8⟩
theorem s_try_only (hc : CtxS cm X) (tk : Takes X W) (hg : Gl X C ∧ (C == ("__debug__" : Str)) = false ∧ C ≠ "__name__") (hm : X.mg C = some cv) (hcs : ∀ x, x < g.n → PySem.W.exmOne X.K (.ref (g.xc x)) cv = some (cs.contains x))
    (hb : ∀ (W : WX) (pn : List (Addr × Obj)) (xe : Value → Shared → Prop), Takes (X.tr pn xe) W → PassesOwn (model X.prog X.w) X.A X.env xe → PSs (X.tr pn xe) bs (rdS g X.K c W (exSs n b)))
    (hu : ∀ (a : Addr) (oe : Obj) (dx : Addr) (x : Nat) (pn : List (Addr × Obj)), Zc (.ref (g.xc x)) (some dx) oe → (∃ vs, oe.data = .fields vs) → PSs (X.suite a ((a, oe) :: pn)) (st :: sts) (rdS g X.K (c.hand a dx x (g.xf x)) W0 (exSs n h))) :
    SS g X c W n (.try b cs C none h) (.Try bs [.ExceptHandler (some (.Name C np)) none (st :: sts) pos'] [] [] pos) := by
  let ts : Addr → Value → Option Addr → TS := fun a cls d D σ H => ∃ x dx, cls = .ref (g.xc x) ∧ d = some dx ∧ rdS g X.K (c.hand a dx x (g.xf x)) W0 (exSs n h) D σ H
  refine PS_imp (ps_try_only (ts := ts) (tb := fun W => rdS g X.K c W (exSs n b)) hc.stk hc.frm (c := cv) ⟨hg.1, hg.2.1, .inl hm⟩ tk hb (fun a oe cls d pn hz hd => ⟨fun pins s σ H D I ⟨x, dx, e1, e2, q⟩ => by
    subst e1 e2
    exact (hu a oe dx x pn hz hd).run pins s σ H D I q⟩)) fun D σ H ⟨Hf, ρ, r, hp⟩ => ⟨Hf, ρ, r, ?_⟩
  unfold exS at hp
  cases eo : exSs n b ρ with
  | bad => rw [eo] at hp; exact hp
  | nx _ => rw [eo] at hp; exact hp
  | brk _ => rw [eo] at hp; exact hp
  | cnt _ => rw [eo] at hp; exact hp
  | ret _ _ => rw [eo] at hp; exact hp
  | new _ _ => rw [eo] at hp; exact hp
  | exc x d ρ1 =>
    rw [eo] at hp
    simp only at hp
    intro cls dx σ' H' Hf' r' s' xr
    obtain ⟨rfl, hn, dA, v, rfl, k1, k2⟩ := id xr
    refine ⟨_, hcs x hn, fun hy a ha => ?_, fun hy => ?_⟩
    · rw [if_pos hy] at hp
      cases ee : enterX none x d ρ1 with
      | none => rw [ee] at hp; exact hp.elim
      | some ρ2 =>
        rw [ee] at hp
        unfold enterX at ee
        split at ee
        · rename_i hx
          cases ee
          refine ⟨x, dA, rfl, rfl, Hf', _, r'.xa hx _, postS.mono s' (post_leave (m := none) hp rfl fun F F' hF σ H q => ?_)⟩
          rcases hF with ⟨rfl, rfl⟩ | ⟨rfl, rfl⟩ | ⟨rfl, rfl⟩ <;> exact q
        · cases ee
    · rw [if_neg (by rw [hy]; decide)] at hp
      exact hp _ _ _ _ _ r' s' xr
theorem s_try_as (hc : CtxS cm X) (tk : Takes X W) (hg : Gl X C ∧ (C == ("__debug__" : Str)) = false ∧ C ≠ "__name__") (hm : X.mg C = some cv) (hcs : ∀ x, x < g.n → PySem.W.exmOne X.K (.ref (g.xc x)) cv = some (cs.contains x)) (hi : X.N[i]? = some y) (hl : X.env.scope.names.lookup y = some .local)
    (hb : ∀ (W : WX) (pn : List (Addr × Obj)) (xe : Value → Shared → Prop), Takes (X.tr pn xe) W → PassesOwn (model X.prog X.w) X.A X.env xe → PSs (X.tr pn xe) bs (rdS g X.K c W (exSs n b)))
    (hu : ∀ (a : Addr) (oe : Obj) (dx : Addr) (x : Nat) (pn : List (Addr × Obj)), Zc (.ref (g.xc x)) (some dx) oe → (∃ vs, oe.data = .fields vs) → PSs (X.suite a ((a, oe) :: pn)) (st :: sts) (rdS g X.K (c.hand a dx x (g.xf x)) W0 (exSs n h))) :
    SS g X c W n (.try b cs C (some i) h) (.Try bs [.ExceptHandler (some (.Name C np)) (some y) (st :: sts) pos'] [] [] pos) := by
  let ts : Addr → Value → Option Addr → TS := fun a cls d D σ H => ∃ x dx, cls = .ref (g.xc x) ∧ d = some dx ∧ rdS g X.K (c.hand a dx x (g.xf x)) W0 (exSs n h) D σ H
  refine PS_imp (ps_try_as (ts := ts) (tb := fun W => rdS g X.K c W (exSs n b)) hc.stk hc.frm hc.c.nd hi hl (c := cv) ⟨hg.1, hg.2.1, .inl hm⟩ tk hb (fun a oe cls d pn hz hd => ⟨fun pins s σ H D I ⟨x, dx, e1, e2, q⟩ => by
    subst e1 e2
    exact (hu a oe dx x pn hz hd).run pins s σ H D I q⟩)) fun D σ H ⟨Hf, ρ, r, hp⟩ => ⟨Hf, ρ, r, ?_⟩
  unfold exS at hp
  cases eo : exSs n b ρ with
  | bad => rw [eo] at hp; exact hp
  | nx _ => rw [eo] at hp; exact hp
  | brk _ => rw [eo] at hp; exact hp
  | cnt _ => rw [eo] at hp; exact hp
  | ret _ _ => rw [eo] at hp; exact hp
  | new _ _ => rw [eo] at hp; exact hp
  | exc x d ρ1 =>
    rw [eo] at hp
    simp only at hp
    intro cls dx σ' H' Hf' r' s' xr
    obtain ⟨rfl, hn, dA, v, rfl, k1, k2⟩ := id xr
    refine ⟨_, hcs x hn, fun hy a ha => ?_, fun hy => ?_⟩
    · rw [if_pos hy] at hp
      cases ee : enterX (some i) x d ρ1 with
      | none => rw [ee] at hp; exact hp.elim
      | some ρ2 =>
        rw [ee] at hp
        unfold enterX at ee
        split at ee
        · rename_i hx
          simp only at ee
          split at ee
          · cases ee
          · rename_i ho
            have ho : isOwnT ρ1 i = false := by simpa using ho
            split at ee
            · cases ee
              have r2 : R X.K (c.hand a dA x (g.xf x)) ρ1 σ' Hf' H' := r'.xa hx _
              refine ⟨x, dA, rfl, rfl, Hf', _, r2.slot (o := some (.ref a)) ho (.inr ⟨x, d, a, dA, g.xf x, v, rfl, rfl, ⟨rfl, rfl, rfl, rfl⟩, k1, k2⟩), postS.mono s' (post_leave (m := some i) hp rfl fun F F' hF σ H q => ?_)⟩
              rcases hF with ⟨rfl, rfl⟩ | ⟨rfl, rfl⟩ | ⟨rfl, rfl⟩ <;> exact q
            · cases ee
        · cases ee
    · rw [if_neg (by rw [hy]; decide)] at hp
      exact hp _ _ _ _ _ r' s' xr
end
theorem s_raise {g : Gx} {cm : Bool} {X : Cx} {c : C0} {W : WX} {n x : Nat} {a : E} {p : Expr} {C : Str} {nm p1 pos : Pos} (hc : CtxS cm X) (hcm : cm = true) (tk : Takes X W) (hg : glB X.env.scope C = true) (hp : plainB p = true) (T : RaiseOk g (wd X) x C) (ha : PE X p (rdE g X.K c W (evE a))) :
    SS g X c W n (.raise x C a) (.Raise (some (.Call (.Name C nm) [p] [] p1)) none pos) := by
  obtain ⟨g1, g2, g3⟩ := gl_ok hg
  obtain ⟨hn, fI, fd, ps, k, T1, T2, T3, T4, T5, T6, T7⟩ := T
  refine PS_imp (ps_raise (hc.c.calm hcm) tk (pmk_oex (p := nm) (pos := p1) T1 T2 T3 T4 T5 T6 .nil passL g1 T7 (pa_cons ha pa_nil (star_plain hp)) g2 (star_plain hp) rfl)) fun D σ H ⟨Hf, ρ, r, h⟩ => ?_
  unfold exS at h
  refine postS.run r h fun rv ρ1 Hf1 H1 v r1 s1 hv h1 => ?_
  cases e : asD rv with
  | none => rw [e] at h1; exact h1.elim
  | some d =>
    rw [e] at h1
    cases asD_eq e
    refine spI_mk (K := X.K) (C := g.xc x) (f := g.xf x) (H1 := H1) (y := v) (Q := fun cls d H' => W cls d σ H') fun dx hd => ?_
    have A : Adv Hf1 H1 Hf1 (upd H1 dx (.xd [(g.xf x, v)])) := Adv.new' r1.sub hd
    exact h1 _ _ σ _ Hf1 (r1.adv A) (Same.refl _) ⟨rfl, hn, dx, v, rfl, upd_same, hv⟩
mutual
theorem sS {g : Gx} {cm : Bool} {np n : Nat} : ∀ (s : S) {X : Cx} {c : C0} {W : WX} {st : Stmt}, CtxS cm X → XOk g cm X c → (∀ i p, (i, p) ∈ c.ps → i < np) → chkS cm X.N X.env.scope np s st = true → okSt g (wd X) s → Takes X W → SS g X c W n s st
  | .ret a, X, c, W, st, hc, hx, hp, hk, ho, tk => by
    unfold chkS at hk
    split at hk
    · split at hk
      · exact s_ret (sE a hc.c hx hk ho tk).1
      · cases hk
    · cases hk
  | .retN, X, c, W, st, hc, hx, hp, hk, ho, tk => by
    unfold chkS at hk
    split at hk
    · split at hk
      · exact s_retN
      · cases hk
    · cases hk
  | .retF a, X, c, W, st, hc, hx, hp, hk, ho, tk => by
    unfold chkS at hk
    split at hk
    · split at hk
      · obtain ⟨h1, h2⟩ := and3 hk
        exact s_retF (sF hc.c hx h1 h2 ho tk)
      · cases hk
    · cases hk
  | .set i a, X, c, W, st, hc, hx, hp, hk, ho, tk => by
    unfold chkS at hk
    split at hk
    · split at hk
      · split at hk
        · obtain ⟨hk, h4⟩ := and3 hk
          obtain ⟨hk, h3⟩ := and3 hk
          obtain ⟨h1, h2⟩ := and3 hk
          have h1 := of_decide_eq_true h1
          rcases Bool.or_eq_true_iff.mp h3 with h3 | h3
          · cases a with
            | lc t own s ifs elt =>
              obtain ⟨_, _, _, _, _, _, rfl, L⟩ := lcOk_of (c := c) hc.c hx h4 ho tk
              exact s_setLc L hc h1 (loc_ok h2)
            | _ => cases h3
          · exact s_set hc h1 (loc_ok h2) (noComp_sw h3) (sE a hc.c hx h4 ho tk).1
        · cases hk
      · cases hk
    · cases hk
  | .setN i a, X, c, W, st, hc, hx, hp, hk, ho, tk => by
    unfold chkS at hk
    split at hk
    · split at hk
      · split at hk
        · obtain ⟨hk, h6⟩ := and3 hk
          obtain ⟨hk, h5⟩ := and3 hk
          obtain ⟨hk, h4⟩ := and3 hk
          obtain ⟨hk, h3⟩ := and3 hk
          obtain ⟨h1, h2⟩ := and3 hk
          have h1 := of_decide_eq_true h1
          have h4 := of_decide_eq_true h4
          have hn : ∀ p, (i, p) ∉ c.ps := fun p z => absurd (hp i p z) (by omega)
          rcases Bool.or_eq_true_iff.mp h3 with h3 | h3
          · cases a with
            | lc t own s ifs elt =>
              obtain ⟨_, _, _, _, _, _, rfl, L⟩ := lcOk_of (c := c) hc.c hx h6 ho tk
              exact s_setNLc L hc hn h1 (loc_ok h2)
            | _ => cases h3
          · exact s_setN hc hn h1 (loc_ok h2) (noComp_sw h3) (sF hc.c hx h5 h6 ho tk)
        · cases hk
      · cases hk
    · cases hk
  | .unp is a, X, c, W, st, hc, hx, hp, hk, ho, tk => by
    unfold chkS at hk
    split at hk
    · split at hk
      · split at hk
        · obtain ⟨hk, h4⟩ := and3 hk
          obtain ⟨hk, h3⟩ := and3 hk
          obtain ⟨h1, h2⟩ := and3 hk
          exact s_unp hc h1 h2 sw_tup (st_tup h3) (sE a hc.c hx h4 ho tk).1
        · cases hk
      · cases hk
    · cases hk
  | .aug i sub a, X, c, W, st, hc, hx, hp, hk, ho, tk => by
    unfold chkS at hk
    split at hk
    · split at hk
      · obtain ⟨hk, h4⟩ := and3 hk
        obtain ⟨hk, h3⟩ := and3 hk
        obtain ⟨h1, h2⟩ := and3 hk
        exact s_aug hc (of_decide_eq_true h1) (loc_ok h2) (aug_ok h3) (sE a hc.c hx h4 ho tk).1
      · cases hk
    · cases hk
  | .ite t a b, X, c, W, st, hc, hx, hp, hk, ho, tk => by
    unfold chkS at hk
    split at hk
    · obtain ⟨hk, h4⟩ := and3 hk
      obtain ⟨hk, h3⟩ := and3 hk
      obtain ⟨h1, h2⟩ := and3 hk
      exact s_ite ((sE t hc.c hx h2 ho.1 tk).2 h1) (sSs a hc hx hp h3 ho.2.1 tk) (sSs b hc hx hp h4 ho.2.2 tk)
    · cases hk
  | .whl t b, X, c, W, st, hc, hx, hp, hk, ho, tk => by
    unfold chkS at hk
    split at hk
    · obtain ⟨hk, h4⟩ := and3 hk
      obtain ⟨hk, h3⟩ := and3 hk
      obtain ⟨h1, h2⟩ := and3 hk
      have h1 := List.isEmpty_iff.mp h1
      subst h1
      exact s_whl hc ((sE t hc.c hx h3 ho.1 tk).2 h2) (sSs b hc hx hp h4 ho.2 tk)
    · cases hk
  | .for t s b, X, c, W, st, hc, hx, hp, hk, ho, tk => by
    unfold chkS at hk
    split at hk
    · obtain ⟨hk, h5⟩ := and3 hk
      obtain ⟨hk, h4⟩ := and3 hk
      obtain ⟨hk, h3⟩ := and3 hk
      obtain ⟨h1, h2⟩ := and3 hk
      have h1 := List.isEmpty_iff.mp h1
      subst h1
      exact s_for hc h2 (sSrc s hc.c hx h4 ho.1 tk) (plainSrc h4) h3 (sSs b hc hx hp h5 ho.2 tk)
    · cases hk
  | .app i a, X, c, W, st, hc, hx, hp, hk, ho, tk => by
    unfold chkS at hk
    split at hk
    · split at hk
      · split at hk
        · split at hk
          · obtain ⟨hk, h6⟩ := and3 hk
            obtain ⟨hk, h5⟩ := and3 hk
            obtain ⟨hk, h4⟩ := and3 hk
            obtain ⟨hk, h3⟩ := and3 hk
            obtain ⟨h1, h2⟩ := and3 hk
            have h1 := of_decide_eq_true h1
            subst h1
            exact s_app (of_decide_eq_true h3) h4 h2 h5 (sE a hc.c hx h6 ho tk).1
          · cases hk
        · cases hk
      · cases hk
    · cases hk
  | .ext i a, X, c, W, st, hc, hx, hp, hk, ho, tk => by
    unfold chkS at hk
    split at hk
    · split at hk
      · split at hk
        · split at hk
          · obtain ⟨hk, h6⟩ := and3 hk
            obtain ⟨hk, h5⟩ := and3 hk
            obtain ⟨hk, h4⟩ := and3 hk
            obtain ⟨hk, h3⟩ := and3 hk
            obtain ⟨h1, h2⟩ := and3 hk
            have h1 := of_decide_eq_true h1
            subst h1
            exact s_ext (of_decide_eq_true h3) h4 h2 h5 (sE a hc.c hx h6 ho tk).1
          · cases hk
        · cases hk
      · cases hk
    · cases hk
  | .put i k a, X, c, W, st, hc, hx, hp, hk, ho, tk => by
    unfold chkS at hk
    split at hk
    · split at hk
      · split at hk
        · split at hk
          · obtain ⟨hk, h5⟩ := and3 hk
            obtain ⟨hk, h4⟩ := and3 hk
            obtain ⟨hk, h3⟩ := and3 hk
            obtain ⟨h1, h2⟩ := and3 hk
            exact s_put (of_decide_eq_true h1) h2 sw_sub h3 (sE a hc.c hx h4 ho.2 tk).1 (sE k hc.c hx h5 ho.1 tk).1
          · cases hk
        · cases hk
      · cases hk
    · cases hk
  | .putD i k a, X, c, W, st, hc, hx, hp, hk, ho, tk => by
    unfold chkS at hk
    split at hk
    · split at hk
      · split at hk
        · split at hk
          · obtain ⟨hk, h5⟩ := and3 hk
            obtain ⟨hk, h4⟩ := and3 hk
            obtain ⟨hk, h3⟩ := and3 hk
            obtain ⟨h1, h2⟩ := and3 hk
            exact s_putD hc (of_decide_eq_true h1) h2 (noComp_sw h3) (sE a hc.c hx h4 ho.2 tk).1 (sE k hc.c hx h5 ho.1 tk).1
          · cases hk
        · cases hk
      · cases hk
    · cases hk
  | .setT i m, X, c, W, st, hc, hx, hp, hk, ho, tk => by
    unfold chkS at hk
    split at hk
    · split at hk
      · split at hk
        · obtain ⟨hk, h5⟩ := and3 hk
          obtain ⟨hk, h4⟩ := and3 hk
          obtain ⟨hk, h3⟩ := and3 hk
          obtain ⟨h1, h2⟩ := and3 hk
          have h4 := of_decide_eq_true h4
          exact s_setT hc (fun p z => absurd (hp i p z) (by omega)) (of_decide_eq_true h1) (loc_ok h2) (noComp_sw h3) (sMk m hc.c hx h5 ho tk)
        · cases hk
      · cases hk
    · cases hk
  | .exp a, X, c, W, st, hc, hx, hp, hk, ho, tk => by
    unfold chkS at hk
    split at hk
    · obtain ⟨h1, h2⟩ := and3 hk
      exact s_exp (noComp_sw h1) (sE a hc.c hx h2 ho tk).1
    · cases hk
  | .raise x C a, X, c, W, st, hc, hx, hp, hk, ho, tk => by
    unfold chkS at hk
    split at hk
    · split at hk
      · split at hk
        · obtain ⟨hk, h5⟩ := and3 hk
          obtain ⟨hk, h4⟩ := and3 hk
          obtain ⟨hk, h3⟩ := and3 hk
          obtain ⟨h1, h2⟩ := and3 hk
          have h1 := of_decide_eq_true h1
          subst h1
          exact s_raise hc h2 tk h3 h4 ho.1 (sE a hc.c hx h5 ho.2 tk).1
        · cases hk
      · cases hk
    · cases hk
  | .try b cs C m h, X, c, W, st, hc, hx, hp, hk, ho, tk => by
    unfold chkS at hk
    split at hk
    · split at hk
      · split at hk
        · obtain ⟨hk, h5⟩ := and3 hk
          obtain ⟨hk, h4⟩ := and3 hk
          obtain ⟨hk, h3⟩ := and3 hk
          obtain ⟨h1, h2⟩ := and3 hk
          have h1 := of_decide_eq_true h1
          subst h1
          obtain ⟨o1, o2, cv, o3, o4⟩ := ho
          have hb : ∀ (W : WX) (pn : List (Addr × Obj)) (xe : Value → Shared → Prop), Takes (X.tr pn xe) W → PassesOwn (model X.prog X.w) X.A X.env xe → PSs (X.tr pn xe) _ (rdS g X.K c W (exSs n b)) := fun W pn xe t p =>
            sSs (X := X.tr pn xe) b (hc.tr p) (.of (hx.no (and3 h2).1)) hp h4 o1 t
          have hu : ∀ (a : Addr) (oe : Obj) (dx : Addr) (x : Nat) (pn : List (Addr × Obj)), Zc (.ref (g.xc x)) (some dx) oe → (∃ vs, oe.data = .fields vs) → PSs (X.suite a ((a, oe) :: pn)) _ (rdS g X.K (c.hand a dx x (g.xf x)) W0 (exSs n h)) := fun a oe dx x pn hz hd =>
            sSs (cm := false) (X := X.suite a ((a, oe) :: pn)) (c := c.hand a dx x (g.xf x)) h (hc.suite a _) (.hand hz hd) hp h5 (o2 _) takes0
          split at h3
          · exact s_try_only hc tk (gl_ok (and3 h2).2) o3 o4 hb hu
          · obtain ⟨h6, h7⟩ := and3 h3
            exact s_try_as hc tk (gl_ok (and3 h2).2) o3 o4 (of_decide_eq_true h6) (by split at h7 <;> first | assumption | cases h7) hb hu
          · cases h3
        · cases hk
      · cases hk
    · cases hk
  | .frz i, X, c, W, st, hc, hx, hp, hk, ho, tk => by
    unfold chkS at hk
    cases hk
  | .pas, X, c, W, st, hc, hx, hp, hk, ho, tk => by
    unfold chkS at hk
    split at hk
    · exact s_pas
    · split at hk
      · split at hk
        · exact s_doc
        · cases hk
      · cases hk
    · cases hk
  | .brk, X, c, W, st, hc, hx, hp, hk, ho, tk => by
    unfold chkS at hk
    split at hk
    · exact s_brk
    · cases hk
  | .cnt, X, c, W, st, hc, hx, hp, hk, ho, tk => by
    unfold chkS at hk
    split at hk
    · exact s_cnt
    · cases hk
  | .nev, X, c, W, st, hc, hx, hp, hk, ho, tk => s_nev
theorem sSs {g : Gx} {cm : Bool} {np n : Nat} : ∀ (ss : List S) {X : Cx} {c : C0} {W : WX} {sts : List Stmt}, CtxS cm X → XOk g cm X c → (∀ i p, (i, p) ∈ c.ps → i < np) → chkSs cm X.N X.env.scope np ss sts = true → okSts g (wd X) ss → Takes X W → PSs X sts (rdS g X.K c W (exSs n ss))
  | [], X, c, W, sts, hc, hx, hp, hk, ho, tk => by
    cases sts with
    | nil => exact PSs_imp pss_nil fun D σ H ⟨Hf, ρ, r, h⟩ => h σ H Hf r (Same.refl _)
    | cons _ _ => cases hk
  | s :: ss, X, c, W, sts, hc, hx, hp, hk, ho, tk => by
    unfold chkSs at hk
    split at hk
    · rename_i i e
      obtain ⟨h1, h2⟩ := and3 hk
      have h1 := of_decide_eq_true h1
      have e2 : s = .frz i := by
        cases s <;> first | (cases e; rfl) | cases e
      subst e2
      refine PSs_imp (sSs (n := n) ss hc hx hp h2 ho.2 tk) fun D σ H ⟨Hf, ρ, r, h⟩ => ?_
      have hn : ∀ p, (i, p) ∉ c.ps := fun p z => absurd (hp i p z) (by omega)
      unfold exSs at h
      unfold exS at h
      split at h
      · rename_i ds e1
        obtain ⟨p, vs, s1, k1, sm, r'⟩ := r.frz e1 hn
        exact ⟨_, _, r', postS.mono sm h⟩
      · rename_i t e1
        obtain ⟨o, e2, ht, v, e3, hr, hnd⟩ := r.at e1
        subst e3
        have ef : ft H ρ σ i = TFoot H t v := by show footO H ρ[i]? σ[i]? = _; rw [e1, e2]; rfl
        have sm : Same Hf (fun a => if a ∈ ft H ρ σ i then H a else Hf a) := fun a u ha => by
          show (if _ then _ else _) = _
          rw [if_neg fun z => by rw [(r.fat z).2] at ha; cases ha]
          exact ha
        obtain ⟨sm, r'⟩ := r.frzG (Hf' := fun a => if a ∈ ft H ρ σ i then H a else Hf a) e1 e2 hn rfl (hr.frz sm fun a ha => by
          show (if _ then _ else _) = _
          rw [if_pos (by rw [ef]; exact ha)])
        exact ⟨_, _, r', postS.mono sm h⟩
      · exact h.elim
    · split at hk
      · cases hk
      · obtain ⟨h1, h2⟩ := and3 hk
        refine PSs_imp (pss_cons (sS (n := n) s hc hx hp h1 ho.1 tk) (sSs (n := n) ss hc hx hp h2 ho.2 tk)) fun D σ H ⟨Hf, ρ, r, h⟩ => ?_
        unfold exSs at h
        exact ⟨Hf, ρ, r, seq_post h⟩
end
end Mini
end

section
set_option Elab.async false
set_option linter.all false
set_option maxRecDepth 100000
set_option maxHeartbeats 4000000
/-! M18: a def keeps what its mirror says. -/
namespace Mini
open PySem L2

theorem zip_inj {α : Type} : ∀ {l : List Nat} {ps : List α} {a b : Nat} {p : α}, ps.Nodup → (a, p) ∈ l.zip ps → (b, p) ∈ l.zip ps → a = b
  | [], _, _, _, _, _, h, _ => by cases h
  | _ :: _, [], _, _, _, _, h, _ => by cases h
  | x :: l, q :: ps, a, b, p, nd, h1, h2 => by
    obtain ⟨n1, n2⟩ := List.nodup_cons.mp nd
    rcases List.mem_cons.mp h1 with e1 | h1 <;> rcases List.mem_cons.mp h2 with e2 | h2
    · cases e1; cases e2; rfl
    · cases e1; exact absurd (List.of_mem_zip h2).2 n1
    · cases e2; exact absurd (List.of_mem_zip h1).2 n1
    · exact zip_inj n2 h1 h2
section
variable {K : PySem.W.Frag} {Hf H : Hp}
theorem start_len : ∀ {md : List Bool} {ds : List D} {m : Nat} {ρ : En}, startE m md ds = some ρ → ρ.length = m ∧ md.length ≤ m
  | [], [], m, ρ, e => by
    have e : some (List.replicate m Sl.no) = some ρ := by cases m <;> exact e
    cases e
    exact ⟨by simp, Nat.zero_le _⟩
  | [], _ :: _, m, ρ, e => by cases m <;> cases e
  | _ :: _, [], m, ρ, e => by cases m <;> cases e
  | b :: md, d :: ds, 0, ρ, e => by cases e
  | b :: md, d :: ds, m + 1, ρ, e => by
    unfold startE at e
    simp only at e
    cases e1 : startE m md ds with
    | none => rw [e1] at e; cases e
    | some ρ1 =>
      rw [e1] at e
      obtain ⟨h1, h2⟩ := start_len e1
      have z : ∃ s, ρ = s :: ρ1 := by
        cases b with
        | false => exact ⟨_, (Option.some.inj e).symm⟩
        | true =>
          cases d <;> first | exact ⟨_, (Option.some.inj e).symm⟩ | exact absurd e (by simp [isTr])
      obtain ⟨s, rfl⟩ := z
      exact ⟨by rw [List.length_cons, h1], by rw [List.length_cons]; omega⟩
def FO (H : Hp) (ρ : En) (vs : List V) (i : Nat) : List Addr := footO H ρ[i]? ((vs[i]?).map some)
theorem FO_succ {s : Sl} {v : V} {ρ : En} {vs : List V} {i : Nat} : FO H (s :: ρ) (v :: vs) (i + 1) = FO H ρ vs i := rfl
theorem start_tr {md : List Bool} {ds : List D} {m : Nat} {ρ : En} {t : D} (h : isTr t = true) (e : startE (m + 1) (true :: md) (t :: ds) = some ρ) : ∃ ρ1, startE m md ds = some ρ1 ∧ ρ = .tr t :: ρ1 := by
  unfold startE at e
  simp only at e
  cases e1 : startE m md ds with
  | none => rw [e1] at e; cases e
  | some ρ1 =>
    rw [e1] at e
    refine ⟨ρ1, rfl, ?_⟩
    cases t <;> first | (cases h; done) | (simp [isTr] at e; exact e.symm)
theorem start_ok : ∀ {md : List Bool} {vs : List V} {ds : List D} {ps fs : List Addr}, ArgR K Hf H md vs ds ps fs → ∀ {m : Nat} {ρ : En} (k0 : Nat), startE m md ds = some ρ →
    (slotsFrom k0 md).length = ps.length ∧ (∀ (c : C0) (i : Nat) (s : Sl), ρ[i]? = some s → s = .no ∨ ∃ v, vs[i]? = some v ∧ SlotR K c Hf H s (some v)) ∧
    (∀ i a, a ∈ FO H ρ vs i → a ∈ fs) ∧ (∀ i j a, a ∈ FO H ρ vs i → a ∈ FO H ρ vs j → i = j) ∧
    (∀ (j : Nat) (p : Addr), (j, p) ∈ (slotsFrom k0 md).zip ps → ∃ i s b, j = k0 + i ∧ i < md.length ∧ ρ[i]? = some s ∧ sKind s = some b ∧ vs[i]? = some (.ref p)) ∧
    (∀ kd : Nat → Bool, (∀ i s b, ρ[i]? = some s → sKind s = some b → kd (k0 + i) = b) → (slotsFrom k0 md).map kd = kindsOf md ds)
  | _, _, _, _, _, .nil, m, ρ, k0, e => by
    have e : some (List.replicate m Sl.no) = some ρ := by cases m <;> exact e
    cases e
    have no : ∀ {i : Nat} {s : Sl}, (List.replicate m Sl.no)[i]? = some s → s = Sl.no := fun {i s} h => by
      rw [List.getElem?_replicate] at h
      split at h
      · exact (Option.some.inj h).symm
      · cases h
    have em : ∀ i, FO H (List.replicate m Sl.no) [] i = [] := fun i => by
      unfold FO
      cases e : (List.replicate m Sl.no)[i]? with
      | none => rfl
      | some s => cases no e; rfl
    refine ⟨rfl, fun c i s h => .inl (no h), fun i a h => ?_, fun i j a h => ?_, (fun j p h => by cases h), fun _ _ => rfl⟩
    · rw [em] at h; cases h
    · rw [em] at h; cases h
  | _, _, _, _, _, .val (md := md) (v := v) (d := d) (vs := vs) (ds := ds) (ps := ps) (fs := fs) hr t, m, ρ, k0, e => by
    cases m with
    | zero => cases e
    | succ m =>
      unfold startE at e
      simp only at e
      cases e1 : startE m md ds with
      | none => rw [e1] at e; cases e
      | some ρ1 =>
        rw [e1] at e
        cases e
        obtain ⟨q1, q2, q3, q4, q5, q6⟩ := start_ok t (k0 + 1) e1
        refine ⟨q1, fun c i s h => ?_, fun i a h => ?_, fun i j a h1 h2 => ?_, fun j p h => ?_, fun kd hk => ?_⟩
        · cases i with
          | zero =>
            cases h
            exact .inr ⟨v, rfl, v, rfl, hr⟩
          | succ i => exact q2 c i s h
        · cases i with
          | zero => cases h
          | succ i => exact q3 i a h
        · cases i with
          | zero => cases h1
          | succ i =>
            cases j with
            | zero => cases h2
            | succ j => exact congrArg Nat.succ (q4 i j a h1 h2)
        · obtain ⟨i, s, b, e, hi, w⟩ := q5 j p h
          exact ⟨i + 1, s, b, by omega, by rw [List.length_cons]; omega, w⟩
        · exact q6 kd fun i s b h k => by
            have := hk (i + 1) s b h k
            rw [← this]
            congr 1
            omega
  | _, _, _, _, _, .own (md := md) (p := p) (xs := xs) (x := x) (vs := vs) (ds := ds) (ps := ps) (fs := fs) h1 h2 h3 h4 t hp, m, ρ, k0, e => by
    cases m with
    | zero => cases e
    | succ m =>
      unfold startE at e
      simp only at e
      cases e1 : startE m md ds with
      | none => rw [e1] at e; cases e
      | some ρ1 =>
        rw [e1] at e
        cases e
        exact go t e1 (s := .own x) (fp := [p]) rfl rfl ⟨p, xs, rfl, h1, h2, h3, h4⟩ (fun a ha => by cases List.mem_singleton.mp ha; exact hp)
  | _, _, _, _, _, .tr (md := md) (p := p) (t := y) (vs := vs) (ds := ds) (ps := ps) (fs := fs) h0 h1 h2 t hp, m, ρ, k0, e => by
    cases m with
    | zero => cases e
    | succ m =>
      obtain ⟨ρ1, e1, rfl⟩ := start_tr h0 e
      have := go t e1 (k0 := k0) (s := .tr y) (p := p) (fp := TFoot H y (.ref p)) (b := true) rfl rfl (fun {c} => ⟨h0, _, rfl, h1, h2⟩) hp
      refine ⟨this.1, this.2.1, this.2.2.1, this.2.2.2.1, this.2.2.2.2.1, fun kd hk => ?_⟩
      show (slotsFrom k0 (true :: md)).map kd = isTr y :: kindsOf md ds
      rw [h0]
      exact this.2.2.2.2.2 kd hk
where
  go {md : List Bool} {vs : List V} {ds : List D} {ps fs fp : List Addr} {p : Addr} {s : Sl} {b : Bool} (t : ArgR K Hf H md vs ds ps fs) {m : Nat} {ρ1 : En} {k0 : Nat} (e1 : startE m md ds = some ρ1) (hk : sKind s = some b) (hf : footO H (some s) (some (some (.ref p))) = fp) (hs : ∀ {c : C0}, SlotR K c Hf H s (some (.ref p))) (hp : ∀ a ∈ fp, a ∉ fs) :
      (slotsFrom k0 (true :: md)).length = (p :: ps).length ∧ (∀ (c : C0) (i : Nat) (u : Sl), (s :: ρ1)[i]? = some u → u = .no ∨ ∃ v, (V.ref p :: vs)[i]? = some v ∧ SlotR K c Hf H u (some v)) ∧
      (∀ i a, a ∈ FO H (s :: ρ1) (.ref p :: vs) i → a ∈ fp ++ fs) ∧ (∀ i j a, a ∈ FO H (s :: ρ1) (.ref p :: vs) i → a ∈ FO H (s :: ρ1) (.ref p :: vs) j → i = j) ∧
      (∀ (j : Nat) (q : Addr), (j, q) ∈ (slotsFrom k0 (true :: md)).zip (p :: ps) → ∃ i u b, j = k0 + i ∧ i < (true :: md).length ∧ (s :: ρ1)[i]? = some u ∧ sKind u = some b ∧ (V.ref p :: vs)[i]? = some (.ref q)) ∧
      (∀ kd : Nat → Bool, (∀ i u b, (s :: ρ1)[i]? = some u → sKind u = some b → kd (k0 + i) = b) → (slotsFrom k0 (true :: md)).map kd = b :: kindsOf md ds) := by
    obtain ⟨q1, q2, q3, q4, q5, q6⟩ := start_ok t (k0 + 1) e1
    have ez : slotsFrom k0 (true :: md) = k0 :: slotsFrom (k0 + 1) md := rfl
    have f0 : FO H (s :: ρ1) (.ref p :: vs) 0 = fp := hf
    rw [ez]
    refine ⟨by rw [List.length_cons, List.length_cons, q1], fun c i u h => ?_, fun i a h => ?_, fun i j a h1 h2 => ?_, fun j q h => ?_, fun kd hk' => ?_⟩
    · cases i with
      | zero =>
        cases h
        exact .inr ⟨_, rfl, hs⟩
      | succ i => exact q2 c i u h
    · cases i with
      | zero => rw [f0] at h; exact List.mem_append_left _ h
      | succ i => exact List.mem_append_right _ (q3 i a h)
    · cases i with
      | zero =>
        cases j with
        | zero => rfl
        | succ j => rw [f0] at h1; exact absurd (q3 j a h2) (hp a h1)
      | succ i =>
        cases j with
        | zero => rw [f0] at h2; exact absurd (q3 i a h1) (hp a h2)
        | succ j => exact congrArg Nat.succ (q4 i j a h1 h2)
    · rcases List.mem_cons.mp h with h | h
      · cases h
        exact ⟨0, s, b, by omega, by rw [List.length_cons]; omega, rfl, hk, rfl⟩
      · obtain ⟨i, u, b', e, hi, w⟩ := q5 j q h
        exact ⟨i + 1, u, b', by omega, by rw [List.length_cons]; omega, w⟩
    · rw [List.map_cons]
      have a1 := hk' 0 s b rfl hk
      rw [Nat.add_zero] at a1
      rw [a1, q6 kd fun i u b h k => by
        have := hk' (i + 1) u b h k
        rw [← this]
        congr 1
        omega]
theorem start_at {N : List Str} {vs : List V} {i : Nat} {v : V} (h : vs[i]? = some v) : (L2.start N vs)[i]? = some (some v) := by
  unfold L2.start
  have hi : i < vs.length := (List.getElem?_eq_some_iff.mp h).1
  rw [List.getElem?_append_left (by rw [List.length_map]; exact hi), List.getElem?_map, h] <;> rfl
/-- the entry of a def -/
abbrev c0Of (md : List Bool) (ρ : En) (Hf H : Hp) (ps fs : List Addr) : C0 := ⟨Hf, H, (inoutSlots md).zip ps, fun i => ((ρ[i]?).bind sKind).getD false, fun a => a ∈ fs, fun _ _ _ _ => False⟩
/-- the frame at the entry -/
theorem R_start {N : List Str} {md : List Bool} {vs : List V} {ds : List D} {ps fs : List Addr} {ρ : En} (s : Same Hf H) (a : ArgR K Hf H md vs ds ps fs) (e : startE N.length md ds = some ρ) :
    R K (c0Of md ρ Hf H ps fs) ρ (L2.start N vs) Hf H := by
  obtain ⟨l1, l2⟩ := start_len e
  obtain ⟨q1, q2, q3, q4, q5, _⟩ := start_ok a 0 e
  have hv := a.len
  have fo : ∀ {i a}, a ∈ ft H ρ (L2.start N vs) i → a ∈ FO H ρ vs i := fun {i a} h => by
    have h : a ∈ footO H ρ[i]? (L2.start N vs)[i]? := h
    cases e2 : ρ[i]? with
    | none => rw [e2] at h; cases h
    | some u =>
      rw [e2] at h
      rcases q2 (c0Of md ρ Hf H ps fs) i u e2 with rfl | ⟨v, k1, _⟩
      · cases h
      · rw [start_at k1] at h
        unfold FO
        rw [e2, k1]
        exact h
  refine ⟨?_, fun i u o h1 h2 => ?_, fun i a h => .inl (q3 i a (fo h)), fun i j a h1 h2 => q4 i j a (fo h1) (fo h2), s, Same.refl _, fun _ _ h _ => h, fun a o h => ⟨o, h⟩, fun _ _ _ h _ => h, fun i p h => ?_⟩
  · unfold L2.start
    rw [List.length_append, List.length_map, List.length_replicate, l1]
    omega
  · rcases q2 (c0Of md ρ Hf H ps fs) i u h1 with rfl | ⟨v, k1, k2⟩
    · trivial
    · rw [start_at k1] at h2
      cases h2
      exact k2
  · obtain ⟨j, u, b, ej, _, k1, k2, k3⟩ := q5 i p h
    rw [Nat.zero_add] at ej
    subst ej
    refine ⟨start_at k3, u, k1, k2.trans ?_⟩
    show some b = some (((ρ[i]?).bind sKind).getD false)
    rw [k1]
    show some b = some ((sKind u).getD false)
    rw [k2]
    rfl
end
section
variable {K : PySem.W.Frag} {c : C0} {ρ : En} {σ : L2.St} {Hf H : Hp}
theorem outs_ok (r : R K c ρ σ Hf H) : ∀ {is : List Nat} {ps : List Addr} {xs : List (List D)}, (∀ z ∈ is.zip ps, z ∈ c.ps) → is.length = ps.length → is.Nodup → outsOf ρ is = some xs → ∃ fs, OutR K Hf H (is.map c.kd) ps xs fs ∧ ∀ a ∈ fs, ∃ i ∈ is, a ∈ ft H ρ σ i
  | [], [], xs, _, _, _, e => by cases e; exact ⟨[], .nil, fun a h => by cases h⟩
  | [], _ :: _, xs, _, l, _, _ => by cases l
  | _ :: _, [], xs, _, l, _, _ => by cases l
  | i :: is, p :: ps, xs, hz, l, nd, e => by
    obtain ⟨n1, n2⟩ := List.nodup_cons.mp nd
    unfold outsOf at e
    cases e1 : ρ[i]? with
    | none => rw [e1] at e; cases e
    | some s =>
      cases e2 : outsOf ρ is with
      | none => rw [e1, e2] at e; cases s <;> cases e
      | some ys =>
        rw [e1, e2] at e
        obtain ⟨fs, q1, q2⟩ := outs_ok r (fun z hz' => hz z (List.mem_cons_of_mem _ hz')) (by simpa using l) n2 e2
        obtain ⟨s1, t, e3, e4⟩ := r.par i p (hz _ (List.mem_cons_self ..))
        rw [e1] at e3
        cases e3
        have dis : ∀ a ∈ ft H ρ σ i, a ∉ fs := fun a ha hf => by
          obtain ⟨j, hj, k⟩ := q2 a hf
          exact n1 (r.inj i j a ha k ▸ hj)
        have sub : ∀ a ∈ ft H ρ σ i ++ fs, ∃ j ∈ i :: is, a ∈ ft H ρ σ j := fun a ha => by
          rcases List.mem_append.mp ha with ha | ha
          · exact ⟨i, List.mem_cons_self .., ha⟩
          · obtain ⟨j, hj, k⟩ := q2 a ha
            exact ⟨j, List.mem_cons_of_mem _ hj, k⟩
        cases s with
        | no => cases e
        | val d => cases e
        | exn _ _ => cases e
        | own x =>
          cases e
          obtain ⟨q, vs, s2, k1, k2, k3, k4, _⟩ := r.own i x e1
          rw [s1] at s2
          cases s2
          have f := ft_own (H := H) e1 s1
          rw [f] at dis sub
          refine ⟨p :: fs, ?_, sub⟩
          rw [List.map_cons, ← Option.some.inj e4]
          exact .own k1 k2 k3 k4 q1 (dis p (List.mem_singleton.mpr rfl))
        | tr x =>
          cases e
          obtain ⟨v, s2, k0, k1, k2, _⟩ := r.tre i x e1
          rw [s1] at s2
          cases s2
          have f := ft_tr (H := H) e1 s1
          rw [f] at dis sub
          refine ⟨_, ?_, sub⟩
          rw [List.map_cons, ← Option.some.inj e4]
          exact .tr k0 k1 k2 q1 dis
end
theorem outsOf_set {i : Nat} {s : Sl} : ∀ {is : List Nat} {ρ : En}, i ∉ is → outsOf (ρ.set i s) is = outsOf ρ is
  | [], _, _ => rfl
  | j :: is, ρ, h => by
    unfold outsOf
    have hj : i ≠ j := fun e => h (by rw [e]; exact List.mem_cons_self ..)
    rw [List.getElem?_set_ne hj, outsOf_set fun z => h (List.mem_cons_of_mem _ z)]
theorem leave_nx {md : List Bool} {fr : Bool} {ρ : En} : leaveO md fr (.nx ρ) = if fr = true then .bad else finO md .non ρ := rfl
theorem leave_d {md : List Bool} {fr : Bool} {d : D} {ρ : En} : leaveO md fr (.ret (.d d) ρ) = if fr = true then .bad else finO md d ρ := rfl
theorem leave_o {md : List Bool} {fr : Bool} {i : Nat} {ρ : En} : leaveO md fr (.ret (.o i) ρ) = if (inoutSlots md).contains i = true then .bad else (match ρ[i]? with
      | some (.own x) => finO md (.lst x) ρ
      | some (.tr t) => (match outsOf ρ (inoutSlots md) with
        | some r => .tre t r
        | none => .bad)
      | _ => .bad) := rfl
theorem leave_x {md : List Bool} {fr : Bool} {c : Nat} {d : D} {ρ : En} : leaveO md fr (.exc c d ρ) = (match outsOf ρ (inoutSlots md) with
    | some r => .exc c d r
    | none => .bad) := rfl
theorem leave_new {md : List Bool} {fr : Bool} {ds : List D} {ρ : En} : leaveO md fr (.new ds ρ) = if fr = true then finO md (.lst ds) ρ else .bad := rfl
theorem fin_some {md : List Bool} {d d' : D} {ρ : En} {r : List (List D)} (h : finO md d ρ = .ok d' r) : d' = d ∧ outsOf ρ (inoutSlots md) = some r := by
  unfold finO at h
  cases e : outsOf ρ (inoutSlots md) with
  | none => rw [e] at h; cases h
  | some r' => rw [e] at h; cases h; exact ⟨rfl, rfl⟩

section
variable {P : Program} {w : World} {K : PySem.W.Frag} {mg : Str → Option Value} {base : Heap} {x qual : Str} {params : Arguments} {body : List Stmt} {scope : Scope} {f : Addr} {fd : FuncData} {g : Gx}
theorem slots_lt : ∀ {md : List Bool} {k i : Nat}, i ∈ slotsFrom k md → i < k + md.length
  | [], k, i, h => by cases h
  | b :: md, k, i, h => by
    unfold slotsFrom at h
    rw [List.length_cons]
    split at h
    · rcases List.mem_cons.mp h with rfl | h
      · omega
      · have := slots_lt h; omega
    · have := slots_lt h; omega
/-- a def that is never called -/
theorem fn_bad {P : Program} {w : World} {K : PySem.W.Frag} {mg : Str → Option Value} {base : Heap} {CX : CXT} {g : Gx} {k : Nat} {a : Addr} {fd : FuncData} {ps : List Str} {f : CallF} (h : ∀ ds, f.F ds = .bad) (hm : f.md.length = ps.length) : FnOk P w K mg base CX k a fd ps (spM g K f) :=
  ⟨fun vs H Q E ⟨_, ds, _, _, _, _, q⟩ => by rw [h ds] at q; exact q.elim, fun A outer s H args us vs Q E _ _ _ _ ⟨_, ds, _, _, _, _, q⟩ => by rw [h ds] at q; exact q.elim⟩
theorem slots_ge : ∀ {md : List Bool} {k i : Nat}, i ∈ slotsFrom k md → k ≤ i
  | [], k, i, h => by cases h
  | b :: md, k, i, h => by
    unfold slotsFrom at h
    split at h
    · rcases List.mem_cons.mp h with rfl | h
      · exact Nat.le_refl _
      · have := slots_ge h; omega
    · have := slots_ge h; omega
theorem slots_nodup : ∀ {md : List Bool} {k : Nat}, (slotsFrom k md).Nodup
  | [], _ => List.nodup_nil
  | b :: md, k => by
    unfold slotsFrom
    split
    · exact List.nodup_cons.mpr ⟨fun h => by have := slots_ge h; omega, slots_nodup⟩
    · exact slots_nodup
/-- THE RULE -/
theorem fn_ok {N ps : List Str} {md : List Bool} {fr : Bool} {n k : Nat} {b : List S} (F : FunD K x qual params body scope [] [] f fd) (hs : FnScope N ps scope) (hm : md.length = ps.length) (hc : chkSs true N scope ps.length b body = true)
    (fre : ∀ y ∈ freeNames, mg y = none) (ho : ∀ A, Room k A → okSts g ⟨P, w, K, mg, base, A⟩ b) : FnOk P w K mg base (L2.CX P w) (k + 1) f fd ps (spM g K ⟨x, md, fr, runF n N.length md fr b⟩) := by
  refine F.ok hs (fun vs H Q E ⟨Hf, ds, ps', _, _, a, _⟩ => by rw [a.len, hm]) fun cdv A outer s H vs Q E hr ⟨Hf, ds, pa, fs, sm, a, h⟩ => ?_
  let X := cxOf (L2.CX P w) P w K mg base N qual scope f cdv A outer s H E
  have h : match runF n N.length md fr b ds with
    | .ok d outs => ∀ v H' Hf' fs', AdvM fs Hf H Hf' H' → OutR K Hf' H' (kindsOf md ds) pa outs fs' → (∀ a ∈ fs', a ∈ fs ∨ H a = none) → AnsR K fr H fs fs' Hf' H' v d → Q v H'
    | .exc c d outs => ∀ cls dx H' Hf' fs', AdvM fs Hf H Hf' H' → OutR K Hf' H' (kindsOf md ds) pa outs fs' → (∀ a ∈ fs', a ∈ fs ∨ H a = none) → XRep g K Hf' H' c d cls dx → E cls dx H'
    | .tre t outs => ∀ v H' Hf' fs', AdvM fs Hf H Hf' H' → OutR K Hf' H' (kindsOf md ds) pa outs fs' → (∀ a ∈ fs', a ∈ fs ∨ H a = none) → NewTr K H fs fs' Hf' H' v t → Q v H'
    | .bad => False := h
  unfold runF at h
  cases es : startE N.length md ds with
  | none => rw [es] at h; exact h.elim
  | some ρ =>
    rw [es] at h
    simp only at h
    have r := R_start sm a es
    obtain ⟨q1, _, _, _, _, q6⟩ := start_ok a 0 es
    have tk : Takes X (fun cls d _ H => E cls d H) := L2.takes_of (X := X) (E := E) rfl rfl rfl rfl
    have cs : CtxS true X := ⟨⟨hs.nd, fre, hr.units, fun _ => rfl⟩, fun _ => rfl, L2.passes_of (X := X) rfl, rfl, rfl⟩
    have hps : ∀ i p, (i, p) ∈ (c0Of md ρ Hf H pa fs).ps → i < ps.length := fun i p hi => by
      have := slots_lt (List.of_mem_zip hi).1
      rw [hm] at this
      omega
    refine ⟨rdS g K (c0Of md ρ Hf H pa fs) (fun cls d _ H => E cls d H) (exSs n b), sSs (n := n) b cs (.of fun _ _ _ _ z => z) hps hc (ho _ hr) tk, Hf, ρ, r, ?_⟩
    have adv : ∀ {ρ' : En} {σ' : L2.St} {Hf' H' : Hp}, R K (c0Of md ρ Hf H pa fs) ρ' σ' Hf' H' → AdvM fs Hf H Hf' H' := fun {ρ' σ' Hf' H'} r' => ⟨r'.keep, r'.live, r'.f0, r'.sub, r'.out⟩
    have kd : (inoutSlots md).map (c0Of md ρ Hf H pa fs).kd = kindsOf md ds := q6 _ fun i s b h k => by
      show ((ρ[0 + i]?).bind sKind).getD false = b
      rw [Nat.zero_add, h]
      show (sKind s).getD false = b
      rw [k]
      rfl
    have outs : ∀ {ρ' : En} {σ' : L2.St} {Hf' H' : Hp} {xs : List (List D)}, R K (c0Of md ρ Hf H pa fs) ρ' σ' Hf' H' → outsOf ρ' (inoutSlots md) = some xs →
        ∃ fs', OutR K Hf' H' (kindsOf md ds) pa xs fs' ∧ (∀ a ∈ fs', a ∈ fs ∨ H a = none) ∧ ∀ a ∈ fs', ∃ i ∈ inoutSlots md, a ∈ ft H' ρ' σ' i := fun {ρ' σ' Hf' H' xs} r' e => by
      obtain ⟨fs', o1, o2⟩ := outs_ok r' (fun z hz => hz) q1 slots_nodup e
      rw [kd] at o1
      exact ⟨fs', o1, fun a ha => by
        obtain ⟨i, _, k⟩ := o2 a ha
        exact r'.may i a k, o2⟩
    cases eo : exSs n b ρ with
    | bad => rw [eo] at h; exact h.elim
    | brk _ => rw [eo] at h; exact h.elim
    | cnt _ => rw [eo] at h; exact h.elim
    | exc c d ρ' =>
      rw [eo] at h
      intro cls dx σ' H' Hf' r' s' xr
      rw [leave_x] at h
      cases e2 : outsOf ρ' (inoutSlots md) with
      | none => rw [e2] at h; exact h.elim
      | some xs =>
        rw [e2] at h
        obtain ⟨fs', o1, o2, _⟩ := outs r' e2
        exact h cls dx H' Hf' fs' (adv r') o1 o2 xr
    | new es ρ' =>
      rw [eo] at h
      intro σ' H' Hf' v r' s' hv
      rw [leave_new] at h
      cases fr with
      | false => exact h.elim
      | true =>
        rw [if_pos rfl] at h
        unfold finO at h
        cases e2 : outsOf ρ' (inoutSlots md) with
        | none => rw [e2] at h; exact h.elim
        | some xs =>
          rw [e2] at h
          obtain ⟨fs', o1, o2, o3⟩ := outs r' e2
          obtain ⟨p, ws, ds', rfl, e3, k1, k2, k3, k6, k4, k5⟩ := hv
          cases e3
          exact h _ H' Hf' fs' (adv r') o1 o2 (by
            unfold AnsR
            rw [if_pos rfl]
            exact ⟨p, ws, _, rfl, rfl, k1, k2, k3, fun hp => by
              obtain ⟨i, _, k⟩ := o3 p hp
              exact k6 i k, k4, k5⟩)
    | nx ρ' =>
      rw [eo] at h
      intro σ' H' Hf' r' s'
      rw [leave_nx] at h
      cases fr with
      | true => exact h.elim
      | false =>
        rw [if_neg Bool.false_ne_true] at h
        unfold finO at h
        cases e2 : outsOf ρ' (inoutSlots md) with
        | none => rw [e2] at h; exact h.elim
        | some xs =>
          rw [e2] at h
          obtain ⟨fs', o1, o2, _⟩ := outs r' e2
          exact h .non H' Hf' fs' (adv r') o1 o2 .non
    | ret rv ρ' =>
      rw [eo] at h
      intro σ' H' Hf' v r' s' hv
      cases rv with
      | d d =>
        rw [leave_d] at h
        cases fr with
        | true => exact h.elim
        | false =>
          rw [if_neg Bool.false_ne_true] at h
          unfold finO at h
          cases e2 : outsOf ρ' (inoutSlots md) with
          | none => rw [e2] at h; exact h.elim
          | some xs =>
            rw [e2] at h
            obtain ⟨fs', o1, o2, _⟩ := outs r' e2
            exact h v H' Hf' fs' (adv r') o1 o2 hv
      | o i =>
        rw [leave_o] at h
        by_cases hi : (inoutSlots md).contains i = true
        · rw [if_pos hi] at h; exact h.elim
        · rw [if_neg hi] at h
          have hi : i ∉ inoutSlots md := by simpa using hi
          have hn : ∀ p, (i, p) ∉ (c0Of md ρ Hf H pa fs).ps := fun p z => hi (List.of_mem_zip z).1
          have hv : σ'[i]? = some (some v) := hv
          cases e1 : ρ'[i]? with
          | none => rw [e1] at h; exact h.elim
          | some sl =>
            rw [e1] at h
            cases sl with
            | no => exact h.elim
            | val _ => exact h.elim
            | exn _ _ => exact h.elim
            | tr y =>
              simp only at h
              cases e2 : outsOf ρ' (inoutSlots md) with
              | none => rw [e2] at h; exact h.elim
              | some xs =>
                rw [e2] at h
                obtain ⟨fs', o1, o2, o3⟩ := outs r' e2
                obtain ⟨w, t1, k0, k1, k2, k3⟩ := r'.tre i y e1
                rw [hv] at t1
                cases t1
                have f := ft_tr (H := H') e1 hv
                refine h v H' Hf' fs' (adv r') o1 o2 ⟨k0, k1, k2, fun a ha => ⟨k3 a ha, fun hf => ?_⟩⟩
                obtain ⟨j, hj, k⟩ := o3 a hf
                exact hi (r'.inj i j a (by rw [f]; exact ha) k ▸ hj)
            | own y =>
              simp only at h
              unfold finO at h
              cases e2 : outsOf ρ' (inoutSlots md) with
              | none => rw [e2] at h; exact h.elim
              | some xs =>
                rw [e2] at h
                cases fr with
                | true =>
                  obtain ⟨fs', o1, o2, o3⟩ := outs r' e2
                  obtain ⟨p, vs', t1, k1, k2, k3, k4, k5⟩ := r'.own i y e1
                  rw [hv] at t1
                  cases t1
                  have f := ft_own (H := H') e1 hv
                  exact h _ H' Hf' fs' (adv r') o1 o2 (by
                    unfold AnsR
                    rw [if_pos rfl]
                    exact ⟨p, vs', y, rfl, rfl, k1, k2, k5, fun hf => by
                      obtain ⟨j, hj, k⟩ := o3 p hf
                      exact hi (r'.inj i j p (by rw [f]; exact List.mem_singleton.mpr rfl) k ▸ hj), k3, k4⟩)
                | false =>
                  obtain ⟨p, vs', t1, k1, sm', r2⟩ := r'.frz e1 hn
                  rw [hv] at t1
                  cases t1
                  obtain ⟨fs', o1, o2, _⟩ := outs r2 (by rw [outsOf_set hi]; exact e2)
                  refine h _ H' _ fs' (adv r2) o1 o2 ?_
                  obtain ⟨u, t2, rp⟩ := r2.val i (.lst y) (List.getElem?_set_self (List.getElem?_eq_some_iff.mp e1).1)
                  rw [hv] at t2
                  cases t2
                  exact rp
end
end Mini
end

section
set_option Elab.async false
set_option linter.all false
set_option maxRecDepth 100000
set_option maxHeartbeats 4000000
/-! M19: constants of the module; the law's end. -/
namespace Mini
open PySem L2

/-- N are the names of a def with the parameters P -/
def scopeB (N P : List Str) (sc : Scope) : Bool := (match sc.kind with
  | .function => true
  | _ => false) && (!sc.isCoroutine && (!sc.isGenerator && (decide (N.Nodup ∧ N.take P.length = P) && (P.all (fun x => locB sc x) && sc.names.all fun y => match y.2 with
  | .free => false
  | _ => true))))
theorem scope_ok {N P : List Str} {sc : Scope} (h : scopeB N P sc = true) : FnScope N P sc := by
  obtain ⟨h1, h⟩ := and3 h
  obtain ⟨h2, h⟩ := and3 h
  obtain ⟨h3, h⟩ := and3 h
  obtain ⟨h4, h⟩ := and3 h
  obtain ⟨h5, h6⟩ := and3 h
  obtain ⟨h7, h8⟩ := of_decide_eq_true h4
  refine ⟨?_, by simpa using h2, by simpa using h3, h7, h8, fun x hx => loc_ok (List.all_eq_true.mp h5 x hx), fun y hy e => ?_⟩
  · split at h1
    · assumption
    · cases h1
  · have q := List.all_eq_true.mp h6 y hy
    rw [e] at q
    cases q
mutual
/-- the value v is the datum d -/
def repB (K : PySem.W.Frag) : D → Value → Bool
  | .non, v => (match v with
    | .none => true
    | _ => false)
  | .bl b, v => (match v with
    | .bool c => b == c
    | _ => false)
  | .int i, v => (match v with
    | .int j _ => decide (j = i)
    | _ => false)
  | .str cs, v => (match v with
    | .str y _ => decide (y = sOf cs) && okS cs
    | _ => false)
  | .tup ds, v => (match v with
    | .ref a => (match K.lookup a with
      | some ⟨c, od, dt, _⟩ => (match c, od, dt with
        | .type c, none, .seq its _ => decide (c = "tuple") && decide (its.size ≤ sizeLine) && decide (ds.length ≤ lim) && repsB K ds its.toList
        | _, _, _ => false)
      | none => false)
    | _ => false)
  | .lst ds, v => (match v with
    | .ref a => (match K.lookup a with
      | some ⟨c, od, dt, _⟩ => (match c, od, dt with
        | .type c, none, .seq its _ => decide (c = "list") && decide (its.size ≤ sizeLine) && decide (ds.length ≤ lim) && repsB K ds its.toList
        | _, _, _ => false)
      | none => false)
    | _ => false)
  | .dic _ _, _ => false
  | .ob _ _ _, _ => false
  | .ml _, _ => false
  | .md _ _, _ => false
  | .mo _ _ _, _ => false
def repsB (K : PySem.W.Frag) : List D → List Value → Bool
  | [], vs => (match vs with
    | [] => true
    | _ :: _ => false)
  | d :: ds, vs => (match vs with
    | [] => false
    | v :: vs => repB K d v && repsB K ds vs)
end
mutual
theorem repB_ok {K : PySem.W.Frag} : ∀ {d : D} {v : Value}, repB K d v = true → ∃ u, RelV u v ∧ ∀ H, Rep K H u d
  | .dic _ _, v, h => by
    unfold repB at h
    cases h
  | .ob _ _ _, v, h => by
    unfold repB at h
    cases h
  | .ml _, v, h => by
    unfold repB at h
    cases h
  | .md _ _, v, h => by
    unfold repB at h
    cases h
  | .mo _ _ _, v, h => by
    unfold repB at h
    cases h
  | .non, v, h => by
    unfold repB at h
    split at h
    · exact ⟨.non, rfl, fun _ => .non⟩
    · cases h
  | .bl b, v, h => by
    unfold repB at h
    split at h
    · rename_i c
      have e : b = c := by simpa using h
      subst e
      exact ⟨.bl b, rfl, fun _ => .bl b⟩
    · cases h
  | .int i, v, h => by
    unfold repB at h
    split at h
    · rename_i j t
      have e := of_decide_eq_true h
      subst e
      exact ⟨.int j, ⟨t, rfl⟩, fun _ => .int j⟩
    · cases h
  | .str cs, v, h => by
    unfold repB at h
    split at h
    · rename_i y t
      obtain ⟨h1, h2⟩ := and3 h
      have e := of_decide_eq_true h1
      subst e
      exact ⟨.str (sOf cs), ⟨t, rfl⟩, fun _ => .str h2⟩
    · cases h
  | .tup ds, v, h => by
    unfold repB at h
    split at h
    · rename_i a
      split at h
      · rename_i c od dt sl q
        split at h
        · rename_i c its n
          obtain ⟨h, h4⟩ := and3 h
          obtain ⟨h, h3⟩ := and3 h
          obtain ⟨h1, h2⟩ := and3 h
          obtain ⟨us, r1, r2⟩ := repsB_ok h4
          have hl : ds.length ≤ lim := of_decide_eq_true h3
          refine ⟨.ref a, rfl, fun H => .tup (.inr ⟨_, its, n, q, congrArg Value.type (of_decide_eq_true h1), rfl, rfl, of_decide_eq_true h2, r1⟩) (r2 H) hl⟩
        · cases h
      · cases h
    · cases h
  | .lst ds, v, h => by
    unfold repB at h
    split at h
    · rename_i a
      split at h
      · rename_i c od dt sl q
        split at h
        · rename_i c its n
          obtain ⟨h, h4⟩ := and3 h
          obtain ⟨h, h3⟩ := and3 h
          obtain ⟨h1, h2⟩ := and3 h
          obtain ⟨us, r1, r2⟩ := repsB_ok h4
          have hl : ds.length ≤ lim := of_decide_eq_true h3
          refine ⟨.ref a, rfl, fun H => .lst (.inr ⟨_, its, n, q, congrArg Value.type (of_decide_eq_true h1), rfl, rfl, of_decide_eq_true h2, r1⟩) (r2 H) hl⟩
        · cases h
      · cases h
    · cases h
theorem repsB_ok {K : PySem.W.Frag} : ∀ {ds : List D} {vs : List Value}, repsB K ds vs = true → ∃ us, Vals us vs ∧ ∀ H, Reps K H us ds
  | [], vs, h => by
    unfold repsB at h
    split at h
    · exact ⟨[], .nil, fun _ => .nil⟩
    · cases h
  | d :: ds, vs, h => by
    unfold repsB at h
    split at h
    · cases h
    · rename_i v vs
      obtain ⟨h1, h2⟩ := and3 h
      obtain ⟨u, r1, r2⟩ := repB_ok h1
      obtain ⟨us, s1, s2⟩ := repsB_ok h2
      exact ⟨u :: us, .cons r1 s1, fun H => .cons (r2 H) (s2 H)⟩
end
def constsB (cs : List (Str × D)) (K : PySem.W.Frag) : Bool := cs.all fun p => match PySem.W.nsIn K mainGlobals p.1 with
  | some (some v) => repB K p.2 v
  | _ => false
theorem glob_of {P : Program} {w : World} {K : PySem.W.Frag} {h : Heap} {mg : Str → Option Value} {base : Heap} {A : Around} {cs : List (Str × D)} {x : Str} {d : D} (X : K.In h) (G : h.Ns mainGlobals mg) (c : constsB cs K = true) (hx : (x, d) ∈ cs) : GlobOk ⟨P, w, K, mg, base, A⟩ x d := by
  have q := List.all_eq_true.mp c _ hx
  split at q
  · rename_i v e
    obtain ⟨u, r1, r2⟩ := repB_ok q
    exact ⟨v, u, PySem.W.mg_of X G e, r1, r2⟩
  · cases q
/-- a tuple of texts -/
theorem tt_of {P : Program} {w : World} {K : PySem.W.Frag} {h : Heap} {mg : Str → Option Value} {base : Heap} {A : Around} {cs : List (Str × D)} {x : Str} {t : List (List Nat)} (X : K.In h) (G : h.Ns mainGlobals mg) (c : constsB cs K = true) (hx : (x, .tup (t.map .str)) ∈ cs) : TtOk ⟨P, w, K, mg, base, A⟩ x t := by
  have q := List.all_eq_true.mp c _ hx
  split at q
  · rename_i v e
    have q : repB K (.tup (t.map .str)) v = true := q
    unfold repB at q
    split at q
    · rename_i a
      split at q
      · rename_i c od dt sl q2
        split at q
        · rename_i c its n
          obtain ⟨h, h4⟩ := and3 q
          obtain ⟨h, h3⟩ := and3 h
          obtain ⟨h1, h2⟩ := and3 h
          obtain ⟨us, r1, r2⟩ := repsB_ok h4
          rw [Reps.strs (r2 fun _ => none)] at r1
          exact ⟨_, _, its, n, PySem.W.mg_of X G e, q2, congrArg Value.type (of_decide_eq_true h1), rfl, rfl, of_decide_eq_true h2, r1⟩
        · cases q
      · cases q
    · cases q
  · cases q
/-- the dict's entries are these -/
def entsB (K : PySem.W.Frag) : List (List Nat × D) → List DictEntry → Bool
  | [], es => (match es with
    | [] => true
    | _ :: _ => false)
  | p :: t, es => (match es with
    | [] => false
    | e :: es => (match e.key with
      | .str y _ => decide (y = sOf p.1)
      | _ => false) && repB K p.2 e.val && entsB K t es)
def tabB (K : PySem.W.Frag) (x : Str) (t : List (List Nat × D)) : Bool := match K.lookup (He.ga K x) with
  | some ⟨_, _, dt, _⟩ => (match dt with
    | .dict es _ => entsB K t es.toList
    | _ => false)
  | none => false
theorem ents_ok {K : PySem.W.Frag} : ∀ {t : List (List Nat × D)} {es : List DictEntry}, entsB K t es = true → (es.any (·.refKey) = false) ∧ ∀ cs, (∃ e v, es.find? (·.key.isStr (sOf cs)) = some e ∧ t.lookup cs = some v ∧ repB K v e.val = true) ∨ (es.find? (·.key.isStr (sOf cs)) = none ∧ t.lookup cs = none)
  | [], [], _ => ⟨rfl, fun cs => .inr ⟨rfl, rfl⟩⟩
  | [], _ :: _, h => by cases h
  | _ :: _, [], h => by cases h
  | (k, v) :: t, e :: es, h => by
    unfold entsB at h
    obtain ⟨h, h3⟩ := and3 h
    obtain ⟨h1, h2⟩ := and3 h
    obtain ⟨q1, q2⟩ := ents_ok h3
    split at h1
    · rename_i y tk ey
      have e1 := of_decide_eq_true h1
      subst e1
      have isS : ∀ cs, e.key.isStr (sOf cs) = decide (cs = k) := fun cs => by
        rw [ey]
        show (sOf k == sOf cs) = _
        by_cases hc : cs = k
        · subst hc
          simp
        · have : sOf k ≠ sOf cs := fun z => hc (sOf_inj z).symm
          rw [decide_eq_false hc]
          simpa using this
      refine ⟨?_, fun cs => ?_⟩
      · rw [List.any_cons, q1]
        unfold DictEntry.refKey
        rw [ey]
        rfl
      · rw [List.find?_cons, isS, List.lookup_cons]
        by_cases hc : cs = k
        · subst hc
          rw [decide_eq_true rfl]
          exact .inl ⟨e, v, rfl, by simp, h2⟩
        · rw [decide_eq_false hc]
          have hb : (cs == k) = false := by simpa using hc
          rw [hb]
          exact q2 cs
    · cases h1
theorem tab_of {P : Program} {w : World} {K : PySem.W.Frag} {h : Heap} {mg : Str → Option Value} {base : Heap} {A : Around} {x : Str} {t : List (List Nat × D)} (X : K.In h) (G : h.Ns mainGlobals mg) (hg : (He.Fa.glo x).ok K = true) (hk : ∃ es n, KDict K w (He.ga K x) es n) (hb : tabB K x t = true) :
    TabOk ⟨P, w, K, mg, base, A⟩ x t := by
  obtain ⟨es, n, k⟩ := hk
  refine ⟨_, es, n, He.glo_ok X G hg, k, fun cs => ?_⟩
  unfold tabB at hb
  rw [k.at_] at hb
  obtain ⟨q1, q2⟩ := ents_ok hb
  rcases q2 cs with ⟨e, v, e1, e2, e3⟩ | ⟨e1, e2⟩
  · rw [e2]
    obtain ⟨u, r1, r2⟩ := repB_ok e3
    refine ⟨e.val, u, ?_, r1, r2⟩
    show PySem.W.nsIn K _ _ = _
    unfold PySem.W.nsIn
    rw [k.at_]
    show (match es.toList.find? (·.key.isStr (sOf cs)) with | some e => _ | none => _) = _
    rw [e1]
  · rw [e2]
    show PySem.W.nsIn K _ _ = _
    unfold PySem.W.nsIn
    rw [k.at_]
    show (match es.toList.find? (·.key.isStr (sOf cs)) with | some e => _ | none => _) = _
    rw [e1, q1]
    rfl
theorem keys_ok {K : PySem.W.Frag} : ∀ {t : List (List Nat × D)} {es : List DictEntry}, entsB K t es = true → keysOf es = some (t.map fun p => sOf p.1)
  | [], [], _ => rfl
  | [], _ :: _, h => by cases h
  | _ :: _, [], h => by cases h
  | (k, v) :: t, e :: es, h => by
    unfold entsB at h
    obtain ⟨h, h3⟩ := and3 h
    obtain ⟨h1, h2⟩ := and3 h
    have ih := keys_ok h3
    split at h1
    · rename_i y tk ey
      have e1 := of_decide_eq_true h1
      subst e1
      unfold keysOf
      rw [ey, ih]
      rfl
    · cases h1
/-- the order of the keys of a dict of the module -/
def ordB (t : List (List Nat × D)) (ys : List (List Nat)) : Bool := decide ((t.map fun p => sOf p.1).Nodup) && decide ((ys.map sOf).isPerm (t.map fun p => sOf p.1)) && PyProof.Rows.sortedS (ys.map sOf) && decide (t.length < 64) && ys.all okS
theorem tks_of {P : Program} {w : World} {K : PySem.W.Frag} {h : Heap} {mg : Str → Option Value} {base : Heap} {A : Around} {x : Str} {t : List (List Nat × D)} {ys : List (List Nat)} (X : K.In h) (G : h.Ns mainGlobals mg) (hg : (He.Fa.glo x).ok K = true) (hk : ∃ es n, KDict K w (He.ga K x) es n) (hb : tabB K x t = true) (ho : ordB t ys = true) :
    TksOk ⟨P, w, K, mg, base, A⟩ x ys := by
  obtain ⟨es, n, k⟩ := hk
  unfold tabB at hb
  rw [k.at_] at hb
  unfold ordB at ho
  obtain ⟨ho, o5⟩ := and3 ho
  obtain ⟨ho, o4⟩ := and3 ho
  obtain ⟨ho, o3⟩ := and3 ho
  obtain ⟨o1, o2⟩ := and3 ho
  refine ⟨_, es, n, t.map fun p => sOf p.1, He.glo_ok X G hg, k, keys_ok hb, of_decide_eq_true o1, List.isPerm_iff.mp (of_decide_eq_true o2), o3, ?_, fun y hy => List.all_eq_true.mp o5 y hy⟩
  rw [List.length_map]
  exact of_decide_eq_true o4
/-- constants and dicts of the module -/
def extraB (cs : List (Str × D)) (ts : List (Str × List (List Nat × D))) (K : PySem.W.Frag) : Bool := constsB cs K && ts.all fun t => tabB K t.1 t.2
def tabsOf (ts : List (Str × List (List Nat × D))) : List He.Tab := ts.map fun t => (fun K => He.ga K t.1, t.2.map fun p => sOf p.1)
theorem free_of {fa : List He.Fa} {fn : List He.DefD} {K : PySem.W.Frag} {h : Heap} {mg : Str → Option Value} (X : K.In h) (G : h.Ns mainGlobals mg) (c : He.SaysD fa fn K) (hf : ∀ y ∈ freeNames, He.Fa.free y ∈ fa) : ∀ y ∈ freeNames, mg y = none := fun y hy => He.free_ok X G (c.facts (hf y hy))
/-- exceptions as they lie behind a call, whatever the program and the world -/
def CXany : CXT := fun outer H s E e s' => ∃ (P : Program) (w : World), L2.CX P w outer H s E e s'
theorem FnOk.any {P : Program} {w : World} {K : PySem.W.Frag} {mg : Str → Option Value} {base : Heap} {k : Nat} {f : Addr} {fd : FuncData} {ps : List Str} {sp : Sp} (F : FnOk P w K mg base (L2.CX P w) k f fd ps sp) : FnOk P w K mg base CXany k f fd ps sp :=
  ⟨F.len, fun A outer s H args us vs Q E hr e0 hb r hsp => codeAny_mono (F.run A outer s H args us vs Q E hr e0 hb r hsp) fun r s' hq => by
    cases r with
    | error e => exact ⟨P, w, hq⟩
    | ok fl => cases fl <;> exact hq⟩
theorem any_none {H : Hp} {s : Shared} {e : Value} {s' : Shared} (h : CXany [] H s (fun _ _ _ => False) e s') : False := by
  obtain ⟨_, _, _, _, _, _, _, _, _, _, _, _, _, _, z⟩ := h
  exact z
/-- the law's promise, from its mirror's answer -/
theorem law_sp {g : Gx} {K : PySem.W.Frag} {f : CallF} {H : Hp} {a : Addr} {ns : List Int} (hm : f.md = [false]) (hf : f.fr = false) (hl : ns.length ≤ 63) (hS : SqL K H a (ns.map V.int)) (h : f.F [.lst (ns.map .int)] = .ok (.bl true) []) :
    spM g K f [.ref a] H (fun v _ => v = .bl true) fun _ _ _ => False := by
  have hz : (ns.map D.int).length ≤ lim := by
    rw [List.length_map]
    exact Nat.le_trans hl (by decide)
  refine ⟨H, [.lst (ns.map .int)], [], [], Same.refl _, by rw [hm]; exact .val (.lst hS Reps.of_ints hz) .nil, ?_⟩
  rw [h]
  intro v H' Hf' fs' _ _ _ ans
  unfold AnsR at ans
  rw [hf, if_neg Bool.false_ne_true] at ans
  exact rep_bl ans
end Mini
end

section
set_option Elab.async false
set_option linter.all false
set_option maxRecDepth 100000
set_option maxHeartbeats 4000000
/-! M20: the program's exception classes behind the top; the hook. -/
namespace Mini
open PySem L2 NdefX

/-- class C(..): def __init__(n0, n1): super().__init__('..'); n0.f = n1 -/
structure XD where
  C : Str
  f : Str
  n0 : Str
  n1 : Str
  qual : Str
  params : Arguments
  body : List Stmt
  scope : Scope
abbrev XW : Type := Option (Str × Str × Arguments × FuncBody × Scope × Addr × List Str × Addr)
def xIni (K : PySem.W.Frag) (C : Str) : Addr := He.ma K (He.ga K C) "__init__"
def xW (K : PySem.W.Frag) (C : Str) : XW := match K.lookup (xIni K C) with
  | some ⟨_, _, .func fd, _⟩ => some (fd.name, fd.qualname, fd.params, fd.body, fd.scope, fd.globals, fd.closure.map (·.1), fd.builtins)
  | _ => none
def XD.val (d : XD) : XW := some ("__init__", d.qual, d.params, .stmts d.body, d.scope, mainGlobals, ["__class__"], builtinsNs)
/-- the class's own object -/
def oexB (K : PySem.W.Frag) (C : Addr) : Bool := (match K.lookup C with
  | some ⟨.type "type", _, .cls cd, sl⟩ => (match cd.mro, sl.toList with
    | .ref C' :: bm, [_, _, _, _, some (.builtin n), _] => decide (C' = C) && (decide (n = "ValueError.__new__") && (!cd.hasDel && (cd.hasDict && (PySem.HandSPX.refsVE bm && decide (PySem.W.alongIn K "__init__" bm = some (some (.builtin "ValueError.__init__")))))))
    | _, _ => false)
  | _ => false) && (decide (PySem.W.findIn K (.ref C) "__setattr__" = some (some (.builtin "object.__setattr__"))) && (decide (PySem.W.subIn K (.ref C) (.type "BaseException") = some true) && (decide (PySem.W.typeIn K (.ref C) = some (.type "type")) && PySem.W.keepIn K (.ref C))))
theorem oexB_ok {K : PySem.W.Frag} {C : Addr} (h : oexB K C = true) : OexC K C ∧ ∀ cd bm, PySem.W.clsIn K C = some cd → cd.mro = .ref C :: bm → PySem.W.alongIn K "__init__" bm = some (some (.builtin "ValueError.__init__")) := by
  obtain ⟨h0, h⟩ := and3 h
  obtain ⟨h1, h⟩ := and3 h
  obtain ⟨h2, h⟩ := and3 h
  obtain ⟨h3, h4⟩ := and3 h
  split at h0
  · rename_i dd cd sl ho
    split at h0
    · rename_i C' bm k0 k1 k2 k3 n k5 hm hs
      obtain ⟨g0, h0⟩ := and3 h0
      obtain ⟨g1, h0⟩ := and3 h0
      obtain ⟨g2, h0⟩ := and3 h0
      obtain ⟨g3, h0⟩ := and3 h0
      obtain ⟨g4, g5⟩ := and3 h0
      have g0 := of_decide_eq_true g0
      have g1 := of_decide_eq_true g1
      subst g0 g1
      obtain ⟨nm, bs, mro, ns, qn, hd, sn, sub, ab, col, del⟩ := cd
      dsimp only at hm g2 g3
      have g2 : del = false := by simpa using g2
      subst hm g2 g3
      have hsl : sl = #[k0, k1, k2, k3, some (.builtin "ValueError.__new__"), k5] := by
        obtain ⟨l⟩ := sl
        simp only at hs
        rw [hs]
      subst hsl
      refine ⟨⟨⟨nm, qn, ns, bs, bm, sn, sub, ab, col, dd, k0, k1, k2, k3, k5, ho, g4⟩, of_decide_eq_true h1, of_decide_eq_true h2, of_decide_eq_true h3, h4⟩, fun cd bm2 e1 e2 => ?_⟩
      unfold PySem.W.clsIn at e1
      rw [ho] at e1
      have e1 := Option.some.inj e1
      subst e1
      have e2 : (Value.ref C' :: bm : List Value) = .ref C' :: bm2 := e2
      cases e2
      exact of_decide_eq_true g5
    · cases h0
  · cases h0
/-- its __init__'s code, its cell -/
def XD.cellB (file : Str) (K : PySem.W.Frag) (d : XD) : Bool := match K.lookup (xIni K d.C) with
  | some ⟨_, _, .func fd, _⟩ => (match fd.defaults with
    | .none => true
    | _ => false) && ((match fd.code with
    | .ref cda => PySem.W.codeIn K (.ref cda) d.qual && (match K.lookup cda with
      | some ⟨_, _, .fields vs, _⟩ => (match (vs[2]? : Option Value) with
        | some (.str fl _) => file == fl
        | _ => false)
      | _ => false)
    | _ => false) && (match fd.closure with
    | [p] => (match K.lookup p.2 with
      | some ⟨_, _, .cell (some (.ref D)), _⟩ => decide (D = He.ga K d.C)
      | _ => false)
    | _ => false))
  | _ => false
def XD.ok (file : Str) (K : PySem.W.Frag) (d : XD) : Bool := oexB K (He.ga K d.C) && (xfB K (He.ga K d.C) && (xclB K (He.ga K d.C) && (d.cellB file K && (decide (PySem.W.findIn K (.ref (He.ga K d.C)) "__init__" = some (some (.ref (xIni K d.C)))) &&
  (decide (PySem.W.typeIn K (.ref (xIni K d.C)) = some (.type "function")) && (decide (PySem.W.findIn K (.ref (He.ga K d.C)) d.f = some none) && (decide (PySem.W.nsIn K cStatics "thirdparty.any" = some none) && (decide (PySem.W.nsIn K mainGlobals d.C = some (some (.ref (He.ga K d.C)))) && decide (PySem.W.subIn K (.ref (He.ga K d.C)) (.type "ValueError") = some true)))))))))
/-- what its text must be -/
def XD.syn (d : XD) : Bool := nscB [d.n0, d.n1, "__class__"] [d.n0, d.n1] ["__class__"] d.scope && (decide (d.scope.names.lookup ("super" : Str) = some .globalImplicit) && ((match (d.params.posonlyargs ++ d.params.args).head? with
    | some ar => decide (ar.arg = d.n0)
    | none => false) && (!(d.n0 == ("__debug__" : Str)) && (!(d.n0 == ("__classdict__" : Str)) && (!(d.n1 == ("__debug__" : Str)) && (!(d.n1 == ("__classdict__" : Str)) && (match d.body with
    | [.Expr (.Call (.Attribute (.Call (.Name s _) [] [] _) i p2) [.Constant (.str _) _ _] [] p4) _, .Assign [.Attribute (.Name a _) f _] (.Name b _) _] => decide (s = ("super" : Str)) && (decide (i = ("__init__" : Str)) && ((p2.endLine == p4.line) && (decide (a = d.n0) && (decide (f = d.f) && decide (b = d.n1)))))
    | _ => false)))))))
def XD.Bnd (d : XD) : Prop := ∀ (kV doc pm : Value) (an : Option Addr) (cdv ct : Value) (cc : Addr) (us : List Value), us.length = 2 → bindArgs (PySem.W.ksFn "__init__" d.qual d.params d.body d.scope .none kV doc pm an cdv ct cc) ⟨us, []⟩ = pure ([d.n0, d.n1].zip us)
theorem xd_init {P : Program} {w : World} {K : PySem.W.Frag} {mg : Str → Option Value} {h : Heap} {d : XD} (X : K.In h) (G : h.Ns mainGlobals mg) (e : xW K d.C = d.val) (c : d.ok P.main.file K = true) (s : d.syn = true) (b : d.Bnd) (hsuper : mg "super" = none) (htop : (P.main.scope.names.lookup ("super" : Str)).isSome = false) :
    OexC K (He.ga K d.C) ∧ XfC K (He.ga K d.C) ∧ XCl K (He.ga K d.C) ∧ PySem.W.findIn K (.ref (He.ga K d.C)) d.f = some none ∧ mg d.C = some (.ref (He.ga K d.C)) ∧ PySem.W.findIn K (.ref (He.ga K d.C)) "__init__" = some (some (.ref (xIni K d.C))) ∧ PySem.W.typeIn K (.ref (xIni K d.C)) = some (.type "function") ∧
      ∃ fd, Binds K fd [d.n0, d.n1] [] ∧ ∀ base, FnOk P w K mg base (L2.CX P w) 1 (xIni K d.C) fd [d.n0, d.n1] (spI K (He.ga K d.C) d.f) := by
  obtain ⟨c1, c⟩ := and3 c
  obtain ⟨c2, c⟩ := and3 c
  obtain ⟨c3, c⟩ := and3 c
  obtain ⟨c4, c⟩ := and3 c
  obtain ⟨c5, c⟩ := and3 c
  obtain ⟨c6, c⟩ := and3 c
  obtain ⟨c7, c⟩ := and3 c
  obtain ⟨c8, c⟩ := and3 c
  obtain ⟨c9, c10⟩ := and3 c
  obtain ⟨T, al⟩ := oexB_ok c1
  refine ⟨T, xfB_ok c2, xclB_ok c3, of_decide_eq_true c7, PySem.W.mg_of X G (of_decide_eq_true c9), of_decide_eq_true c5, of_decide_eq_true c6, ?_⟩
  unfold XD.cellB at c4
  unfold xW at e
  split at c4
  · rename_i oc od fd osl lk
    rw [lk] at e
    obtain ⟨k1, k⟩ := and3 c4
    obtain ⟨k2, k3⟩ := and3 k
    obtain ⟨n1, n2, n3, n4, n5, n6, n7, n8, n9, n10, n11, n12, n13, n14, n15⟩ := fd
    have e2 : (some (n1, n2, n3, n4, n5, n6, n7.map (·.1), n15) : XW) = (some (("__init__" : Str), d.qual, d.params, FuncBody.stmts d.body, d.scope, mainGlobals, [("__class__" : Str)], builtinsNs) : XW) := e
    simp only [Option.some.injEq, Prod.mk.injEq] at e2
    obtain ⟨h1, h2, h3, h4, h5, h6, h7, h8⟩ := e2
    subst h1 h2 h3 h4 h5 h6 h8
    simp only at k1 k2 k3
    split at k3
    · rename_i p
      obtain ⟨pn, cc⟩ := p
      have h7 : [pn] = [("__class__" : Str)] := h7
      cases h7
      split at k3
      · rename_i cl cld D csl hcell
        have k3 := of_decide_eq_true k3
        subst k3
        split at k1
        · split at k2
          · rename_i cda
            obtain ⟨k4, k5⟩ := and3 k2
            split at k5
            · rename_i ccl cdd vs ccs hcode
              split at k5
              · rename_i fl tf hvs
                unfold XD.syn at s
                obtain ⟨s1, s⟩ := and3 s
                obtain ⟨s2, s⟩ := and3 s
                obtain ⟨s3, s⟩ := and3 s
                obtain ⟨s4, s⟩ := and3 s
                obtain ⟨s5, s⟩ := and3 s
                obtain ⟨s6, s⟩ := and3 s
                obtain ⟨s7, s8⟩ := and3 s
                split at s3
                · rename_i ar har
                  have s3 := of_decide_eq_true s3
                  split at s8
                  · rename_i su q0 q1 ini q2 tx q3 q4 q5 q6 sa q7 sf q8 sb q9 q10 hbody
                    obtain ⟨t1, s8⟩ := and3 s8
                    obtain ⟨t2, s8⟩ := and3 s8
                    obtain ⟨t3, s8⟩ := and3 s8
                    obtain ⟨t4, s8⟩ := and3 s8
                    obtain ⟨t5, t6⟩ := and3 s8
                    have t1 := of_decide_eq_true t1
                    have t2 := of_decide_eq_true t2
                    have t4 := of_decide_eq_true t4
                    have t5 := of_decide_eq_true t5
                    have t6 := of_decide_eq_true t6
                    subst t1 t2 t4 t5 t6
                    exact ⟨_, .all fun us hl => b _ _ _ _ _ _ _ us hl, fun base => init_ok T lk k4 hcode hvs k5 hcell (nscope_by s1) (of_decide_eq_true s2) har s3 hbody t3 ⟨by simpa using s4, by simpa using s5⟩ ⟨by simpa using s6, by simpa using s7⟩ hsuper htop (of_decide_eq_true c8) al (of_decide_eq_true c10) (of_decide_eq_true c7)⟩
                  · cases s8
                · cases s3
              · cases k5
            · cases k5
          · cases k2
        · cases k1
      · cases k3
    · cases k3
  · cases c4

/-! ### all of them -/
/-- the classes by number -/
def gM (K : PySem.W.Frag) (xs : List XD) : Gx := ⟨fun i => He.ga K ((xs.map (·.C)).getD i Str.empty), fun i => (xs.map (·.f)).getD i Str.empty, xs.length⟩
theorem gM_c {K : PySem.W.Frag} {xs : List XD} {i : Nat} {d : XD} (h : xs[i]? = some d) : (gM K xs).xc i = He.ga K d.C ∧ (gM K xs).xf i = d.f ∧ i < (gM K xs).n := by
  refine ⟨?_, ?_, (List.getElem?_eq_some_iff.mp h).1⟩
  · show He.ga K ((xs.map (·.C)).getD i Str.empty) = _
    rw [List.getD_eq_getElem?_getD, List.getElem?_map, h]
    rfl
  · show (xs.map (·.f)).getD i Str.empty = _
    rw [List.getD_eq_getElem?_getD, List.getElem?_map, h]
    rfl
/-- except C: which of the classes C catches -/
def catB (K : PySem.W.Frag) (xs : List XD) (c : Str × List Nat) : Bool := decide (PySem.W.nsIn K mainGlobals c.1 = some (some (.ref (He.ga K c.1)))) && (List.range xs.length).all fun i => decide (PySem.W.exmOne K (.ref ((gM K xs).xc i)) (.ref (He.ga K c.1)) = some (c.2.contains i))
/-- isinstance(e, C), e of the class number i: C a class of the program, or ValueError -/
def isiB (K : PySem.W.Frag) (xs : List XD) (c : Nat × Str × Bool) : Bool := decide (c.1 < xs.length) && (if c.2.1 = ("ValueError" : Str) then decide (PySem.W.kitOne K (.ref ((gM K xs).xc c.1)) (.type "ValueError") = some c.2.2) else decide (PySem.W.nsIn K mainGlobals c.2.1 = some (some (.ref (He.ga K c.2.1)))) && decide (PySem.W.kitOne K (.ref ((gM K xs).xc c.1)) (.ref (He.ga K c.2.1)) = some c.2.2))
def excsB (file : Str) (xs : List XD) (cat : List (Str × List Nat)) (isi : List (Nat × Str × Bool)) (K : PySem.W.Frag) : Bool := xs.all (fun d => d.ok file K) && (cat.all (catB K xs) && isi.all (isiB K xs))
theorem cat_ok {K : PySem.W.Frag} {mg : Str → Option Value} {h : Heap} {xs : List XD} {C : Str} {cs : List Nat} (X : K.In h) (G : h.Ns mainGlobals mg) (c : catB K xs (C, cs) = true) :
    ∃ cv, mg C = some cv ∧ ∀ x, x < (gM K xs).n → PySem.W.exmOne K (.ref ((gM K xs).xc x)) cv = some (cs.contains x) := by
  obtain ⟨c1, c2⟩ := and3 c
  refine ⟨_, PySem.W.mg_of X G (of_decide_eq_true c1), fun x hx => ?_⟩
  exact of_decide_eq_true (List.all_eq_true.mp c2 x (List.mem_range.mpr hx))
theorem isi_ok {P : Program} {w : World} {K : PySem.W.Frag} {mg : Str → Option Value} {h : Heap} {base : Heap} {A : Around} {xs : List XD} {i : Nat} {C : Str} {b : Bool} (X : K.In h) (G : h.Ns mainGlobals mg) (hv : mg "ValueError" = none) (cl : ∀ i, i < xs.length → XCl K ((gM K xs).xc i)) (c : isiB K xs (i, C, b) = true) :
    XIs ⟨P, w, K, mg, base, A⟩ ((gM K xs).xc i) C b := by
  obtain ⟨c1, c2⟩ := and3 c
  refine ⟨cl i (of_decide_eq_true c1), ?_⟩
  simp only at c2
  split at c2
  · rename_i e
    subst e
    exact ⟨.type "ValueError", .inr ⟨hv, by decide +kernel⟩, ⟨.ty "ValueError", rfl, fun u hu => hu⟩, of_decide_eq_true c2⟩
  · obtain ⟨c3, c4⟩ := and3 c2
    exact ⟨_, .inl (PySem.W.mg_of X G (of_decide_eq_true c3)), ⟨.ref _, rfl, fun u hu => hu⟩, of_decide_eq_true c4⟩
theorem raise_ok {P : Program} {w : World} {K : PySem.W.Frag} {mg : Str → Option Value} {h : Heap} {base : Heap} {A : Around} {xs : List XD} {i : Nat} {d : XD} (X : K.In h) (G : h.Ns mainGlobals mg) (hi : xs[i]? = some d) (e : xW K d.C = d.val) (c : d.ok P.main.file K = true) (s : d.syn = true) (b : d.Bnd) (hsuper : mg "super" = none) (htop : (P.main.scope.names.lookup ("super" : Str)).isSome = false) (r : Room 2 A) :
    RaiseOk (gM K xs) ⟨P, w, K, mg, base, A⟩ i d.C := by
  obtain ⟨g1, g2, g3⟩ := gM_c (K := K) hi
  obtain ⟨T, _, _, _, m, i1, i2, fd, bd, F⟩ := xd_init (w := w) X G e c s b hsuper htop
  refine ⟨g3, xIni K d.C, fd, _, 1, ?_, ?_, i2, ?_, r, bd, ?_⟩
  · show OexC K ((gM K xs).xc i)
    rw [g1]
    exact T
  · show PySem.W.findIn K (.ref ((gM K xs).xc i)) "__init__" = _
    rw [g1]
    exact i1
  · show FnOk P w K mg base (L2.CX P w) 1 _ fd _ (spI K ((gM K xs).xc i) ((gM K xs).xf i))
    rw [g1, g2]
    exact F base
  · show mg d.C = some (.ref ((gM K xs).xc i))
    rw [g1]
    exact m
/-! ### the hook: what the module's names reach, and the statics -/
/-- those that are not in the mask yet -/
def addB : List Addr → Nat → List Addr → (Nat → List Addr → List Addr) → List Addr
  | [], m, acc, k => k m acc
  | a :: as, m, acc, k => match Nat.beq (Nat.land (Nat.shiftRight m a) 1) 0 with
    | true => HandSHeadRun.frNat (Nat.lor m (Nat.shiftLeft 1 a)) fun m => HandSHeadRun.frNat a fun a => addB as m (a :: acc) k
    | false => addB as m acc k
def refsB (g : Addr → Option Obj) : List Addr → List Addr
  | [] => []
  | a :: as => (match g a with
    | some o => He.refsD o
    | none => []) ++ refsB g as
def goB (g : Addr → Option Obj) : Nat → Nat → List Addr → List Addr → List Addr
  | 0, _, _, all => all
  | n + 1, m, fr, all => addB (refsB g fr) m [] fun m new => goB g n m new (all ++ new)
/-- what the module's names reach in n steps -/
def reach (g : Addr → Option Obj) (n : Nat) : List Addr := goB g n (Nat.shiftLeft 1 mainGlobals) [mainGlobals] [mainGlobals]
abbrev AlM : Type := He.AlX × List XW
def obsM (n : Nat) (fa : List He.Fa) (fn : List He.DefD) (ts : List He.Tab) (ex : PySem.W.Frag → Bool) (xs : List XD) (g : Addr → Option Obj) : AlM :=
  let K := He.frT g (cStatics :: reach g n)
  ((He.obsT fa fn ts K, ex K), xs.map fun d => xW K d.C)
def valM (fn : List He.DefD) (ts : List He.Tab) (xs : List XD) (w : World) : AlM := ((He.valT fn ts w, true), xs.map XD.val)
structure SaysM (fa : List He.Fa) (fn : List He.DefD) (ts : List He.Tab) (ex : PySem.W.Frag → Bool) (xs : List XD) (w : World) (h : Heap) (K : PySem.W.Frag) : Prop where
  t : He.SaysT fa fn ts w K
  more : ex K = true
  xs : ∀ (i : Nat) (d : XD), xs[i]? = some d → xW K d.C = d.val
def hookM (n : Nat) (fa : List He.Fa) (fn : List He.DefD) (ts : List He.Tab) (ex : PySem.W.Frag → Bool) (xs : List XD) : PySem.W.Hook where
  α := AlM
  obs := fun s => obsM n fa fn ts ex xs s.heap.get?
  val := fun w => valM fn ts xs w
  says := fun w h => ∃ K : PySem.W.Frag, K.In h ∧ SaysM fa fn ts ex xs w h K
  of := fun w s e => ⟨_, He.frT_in, by
    have e1 := congrArg (fun z : AlM => z.1.1) e
    have e2 := congrArg (fun z : AlM => z.1.2) e
    have e3 := congrArg (fun z : AlM => z.2) e
    refine ⟨e1, e2, fun i d hi => ?_⟩
    have e4 := congrArg (fun l : List XW => l[i]?) e3
    have e5 : (xs.map fun d => xW (He.frT s.heap.get? (cStatics :: reach s.heap.get? n)) d.C)[i]? = (xs.map XD.val)[i]? := e4
    rw [List.getElem?_map, List.getElem?_map, hi] at e5
    exact Option.some.inj e5⟩
  keeps := fun _ _ _ ⟨K, hK, c⟩ k => ⟨K, PySem.W.Frag.In.keeps hK k, ⟨c.t, c.more, c.xs⟩⟩
theorem obsM_eq {n : Nat} {fa : List He.Fa} {fn : List He.DefD} {ts : List He.Tab} {ex : PySem.W.Frag → Bool} {xs : List XD} {g : Addr → Option Obj} {s : Shared} (h : ∀ a, g a = s.heap.get? a) : obsM n fa fn ts ex xs g = (hookM n fa fn ts ex xs).obs s := by
  have e : g = s.heap.get? := funext h
  rw [e] <;> rfl

/-! ### the run of the top, in two parts -/
section
open PySem.W PySem.Calls PyProof.Rows
def RunA (r : OpenRow) (q : Program) (M : Nat) (loose : List PySem.Str) (w : World) : Prop :=
  ∀ os : OsState, (HandSHeadRun.endF (HandSHeadRun.stepQ (HandSHeadRun.denQ HandSHeadRun.tabQ) r.prog w) M r.prog w os).map (fun s => (HandSHeadRun.looksF r.prog (boot_heap w.params) s.abs, HandSHeadRun.seenQ q loose (importedModules r.prog.main.body) (fun s => xlAt q [] s && recOk r.toRowW.records s) s.abs)) = some (true, openGood q loose)
def RunB (r : OpenRow) (H : Hook) (ob : SharedT → H.α) (M : Nat) (w : World) : Prop :=
  ∀ os : OsState, (HandSHeadRun.endF (HandSHeadRun.stepQ (HandSHeadRun.denQ HandSHeadRun.tabQ) r.prog w) M r.prog w os).map ob = some (H.val w)
theorem run_two {r : OpenRow} {q : Program} {H : Hook} {ob : SharedT → H.α} {M : Nat} {loose : List PySem.Str} {w : World} (h1 : RunA r q M loose w) (h2 : RunB r H ob M w) : HandSHeadRun.RunEq r q H ob M loose w := fun os => by
  have e1 := h1 os
  have e2 := h2 os
  revert e1 e2
  generalize HandSHeadRun.endF (HandSHeadRun.stepQ (HandSHeadRun.denQ HandSHeadRun.tabQ) r.prog w) M r.prog w os = x
  intro e1 e2
  cases x with
  | none => cases e1
  | some s =>
    have e1 := Option.some.inj e1
    have e2 := Option.some.inj e2
    injection e1 with e3 e4
    exact congrArg some (Prod.ext e3 (Prod.ext e4 e2))
end
end Mini
end

section
set_option Elab.async false
set_option linter.all false
set_option maxRecDepth 100000
/-! P0: the evaluator's equations over frames that are written out, for simp. -/
namespace Mini
open PySem L2
/-- a slot that takes a value; one that a comprehension may use -/
def okSl : Option Sl → Bool
  | some (.own _) => false
  | some (.tr _) => false
  | some _ => true
  | none => false
def frSl : Option Sl → Bool
  | some (.own _) => false
  | some (.exn _ _) => false
  | some (.tr _) => false
  | _ => true
/-- a slot that owns no list -/
def sl : Option D → Sl
  | none => .no
  | some d => .val d
@[simp] theorem q_bind_ok {β γ : Type} {a : β} {ρ : En} {f : β → En → O γ} : (O.ok a ρ).bind f = f a ρ := rfl
@[simp] theorem q_out_ok {β : Type} {a : β} {ρ : En} {f : β → En → Out} : (O.ok a ρ).out f = f a ρ := rfl
@[simp] theorem q_bind_exc {β γ : Type} {c : Nat} {d : D} {ρ : En} {f : β → En → O γ} : (O.exc c d ρ : O β).bind f = .exc c d ρ := rfl
@[simp] theorem q_out_exc {β : Type} {c : Nat} {d : D} {ρ : En} {f : β → En → Out} : (O.exc c d ρ : O β).out f = .exc c d ρ := rfl
@[simp] theorem q_seq_ret {x : Rv} {ρ : En} {f : En → Out} : (Out.ret x ρ).seq f = .ret x ρ := rfl
@[simp] theorem q_seq_new {x : List D} {ρ : En} {f : En → Out} : (Out.new x ρ).seq f = .new x ρ := rfl
@[simp] theorem q_seq_brk {ρ : En} {f : En → Out} : (Out.brk ρ).seq f = .brk ρ := rfl
@[simp] theorem q_seq_cnt {ρ : En} {f : En → Out} : (Out.cnt ρ).seq f = .cnt ρ := rfl
@[simp] theorem q_seq_nx {ρ : En} {f : En → Out} : (Out.nx ρ).seq f = f ρ := rfl
@[simp] theorem q_seq_exc {c : Nat} {d : D} {ρ : En} {f : En → Out} : (Out.exc c d ρ).seq f = .exc c d ρ := rfl
@[simp] theorem q_opt_some {β : Type} {a : β} {ρ : En} : O.opt (some a) ρ = .ok a ρ := rfl
@[simp] theorem q_if_t {α : Type} {a b : α} : (if true = true then a else b) = a := rfl
@[simp] theorem q_if_f {α : Type} {a b : α} : (if false = true then a else b) = b := rfl
@[simp] theorem q_ev_v {a : Sl} {r : En} {i : Nat} : evE (.v i) (a :: r) = match (a :: r)[i]? with | some (.val d) => .ok (.d d) (a :: r) | some (.own _) => .ok (.o i) (a :: r) | some (.tr _) => .ok (.o i) (a :: r) | _ => .bad := rfl
@[simp] theorem q_ev_c {a : Sl} {r : En} {d : D} : evE (.c d) (a :: r) = .ok (.d d) (a :: r) := rfl
@[simp] theorem q_ev_g {a : Sl} {r : En} {x : Str} {d : D} : evE (.g x d) (a :: r) = .ok (.d d) (a :: r) := rfl
@[simp] theorem q_ev_gix {a : Sl} {r : En} {x : Str} {t : List (List Nat × D)} {e : E} : evE (.gix x t e) (a :: r) = (evE e (a :: r)).bind fun x ρ => (O.opt (asD x) ρ).bind fun x ρ => (O.opt (asS x) ρ).bind fun s ρ => O.opt ((t.lookup s).map .d) ρ := rfl
@[simp] theorem q_ev_gin {a : Sl} {r : En} {n : Bool} {x : Str} {t : List (List Nat × D)} {e : E} : evE (.gin n x t e) (a :: r) = (evE e (a :: r)).bind fun x ρ => (O.opt (asD x) ρ).bind fun x ρ => (O.opt (asS x) ρ).bind fun s ρ => .ok (.d (.bl (if n then !(t.lookup s).isSome else (t.lookup s).isSome))) ρ := rfl
@[simp] theorem q_ev_bin {a : Sl} {r : En} {o : BOp} {p q : E} : evE (.bin o p q) (a :: r) = (evE p (a :: r)).bind fun x ρ => (evE q ρ).bind fun y ρ => (O.opt (deref ρ x) ρ).bind fun x ρ => (O.opt (deref ρ y) ρ).bind fun y ρ => O.opt ((bop o x y).map .d) ρ := rfl
@[simp] theorem q_ev_cat {a : Sl} {r : En} {p q : E} : evE (.cat p q) (a :: r) = (evE p (a :: r)).bind fun x ρ => (evE q ρ).bind fun y ρ => (O.opt (deref ρ x) ρ).bind fun x ρ => (O.opt (deref ρ y) ρ).bind fun y ρ => O.opt ((catD x y).map .d) ρ := rfl
@[simp] theorem q_cat_l {x y : List D} : catD (.lst x) (.lst y) = if x.length + y.length ≤ lim then some (.lst (x ++ y)) else none := rfl
@[simp] theorem q_ev_neg {a : Sl} {r : En} {p : E} : evE (.neg p) (a :: r) = (evE p (a :: r)).bind fun x ρ => (O.opt (asD x) ρ).bind fun x ρ => (O.opt (asI x) ρ).bind fun i ρ => .ok (.d (.int (-i))) ρ := rfl
@[simp] theorem q_ev_not {a : Sl} {r : En} {p : E} : evE (.not p) (a :: r) = (evE p (a :: r)).bind fun x ρ => (O.opt (asD x) ρ).bind fun x ρ => (O.opt (asB x) ρ).bind fun b ρ => .ok (.d (.bl (!b))) ρ := rfl
@[simp] theorem q_ev_cmp {a : Sl} {r : En} {o : COp} {p q : E} : evE (.cmp o p q) (a :: r) = (evE p (a :: r)).bind fun x ρ => (evE q ρ).bind fun y ρ => (O.opt (deref ρ x) ρ).bind fun x ρ => (O.opt (deref ρ y) ρ).bind fun y ρ => O.opt ((cop o x y).map fun z => .d (.bl z)) ρ := rfl
@[simp] theorem q_ev_chn {a : Sl} {r : En} {o o2 : COp} {p q s : E} : evE (.chn o o2 p q s) (a :: r) = (evE p (a :: r)).bind fun x ρ => (evE q ρ).bind fun y ρ => (O.opt (asD x) ρ).bind fun x ρ => (O.opt (asD y) ρ).bind fun y ρ => (O.opt (cop o x y) ρ).bind fun z ρ => if z = true then (evE s ρ).bind fun w ρ => (O.opt (asD w) ρ).bind fun w ρ => O.opt ((cop o2 y w).map fun z => .d (.bl z)) ρ else .ok (.d (.bl false)) ρ := rfl
@[simp] theorem q_ev_and {a : Sl} {r : En} {es : List E} : evE (.and es) (a :: r) = evAnd es (a :: r) := rfl
@[simp] theorem q_ev_or {a : Sl} {r : En} {es : List E} : evE (.or es) (a :: r) = evOr es (a :: r) := rfl
@[simp] theorem q_ev_ite {a : Sl} {r : En} {t p q : E} : evE (.ite t p q) (a :: r) = (evE t (a :: r)).bind fun x ρ => (O.opt (asD x) ρ).bind fun x ρ => (O.opt (asB x) ρ).bind fun k ρ => if k = true then evE p ρ else evE q ρ := rfl
@[simp] theorem q_ev_tup {a : Sl} {r : En} {es : List E} : evE (.tup es) (a :: r) = (evEs es (a :: r)).bind fun xs ρ => (O.opt (asDs xs) ρ).bind fun ds ρ => if ds.length ≤ lim then .ok (.d (.tup ds)) ρ else .bad := rfl
@[simp] theorem q_ev_lst {a : Sl} {r : En} {es : List E} : evE (.lst es) (a :: r) = (evEs es (a :: r)).bind fun xs ρ => (O.opt (asDs xs) ρ).bind fun ds ρ => if ds.length ≤ lim then .ok (.d (.lst ds)) ρ else .bad := rfl
@[simp] theorem q_ev_call {a : Sl} {r : En} {f : CallF} {es : List E} : evE (.call f es) (a :: r) = (evEs es (a :: r)).bind fun xs ρ => callO f xs ρ := rfl
@[simp] theorem q_ev_bi {a : Sl} {r : En} {b : BI} {es : List E} : evE (.bi b es) (a :: r) = (evEs es (a :: r)).bind fun xs ρ => (O.opt (derefs ρ xs) ρ).bind fun ds ρ => O.opt ((bi b ds).map .d) ρ := rfl
@[simp] theorem q_ev_me {a : Sl} {r : En} {m : ME} {o : E} {es : List E} : evE (.me m o es) (a :: r) = (evE o (a :: r)).bind fun x ρ => (O.opt (asD x) ρ).bind fun x ρ => (O.opt (asS x) ρ).bind fun s ρ => (evEs es ρ).bind fun xs ρ => (O.opt (derefs ρ xs) ρ).bind fun ds ρ => O.opt ((me m (.str s) ds).map .d) ρ := rfl
@[simp] theorem q_ev_isi {a : Sl} {r : En} {ts : List Ty} {p : E} : evE (.isi ts p) (a :: r) = (evE p (a :: r)).bind fun x ρ => (O.opt (asD x) ρ).bind fun x ρ => .ok (.d (.bl (ts.any fun t => isTy t x))) ρ := rfl
@[simp] theorem q_ev_ix {a : Sl} {r : En} {p q : E} : evE (.ix p q) (a :: r) = (evE p (a :: r)).bind fun x ρ => (evE q ρ).bind fun y ρ => (O.opt (deref ρ x) ρ).bind fun x ρ => (O.opt (asD y) ρ).bind fun y ρ => (O.opt (asI y) ρ).bind fun i ρ => O.opt ((atD x i).map .d) ρ := rfl
@[simp] theorem q_ev_dix {a : Sl} {r : En} {p q : E} : evE (.dix p q) (a :: r) = (evE p (a :: r)).bind fun x ρ => (evE q ρ).bind fun y ρ => (O.opt (asD x) ρ).bind fun x ρ => (O.opt (asD y) ρ).bind fun y ρ => (O.opt (asS y) ρ).bind fun s ρ => O.opt ((lookD x s).map .d) ρ := rfl
@[simp] theorem q_ev_dg {a : Sl} {r : En} {i : Nat} {b : E} : evE (.dg i b) (a :: r) = if isOwnT (a :: r) i then (evE b (a :: r)).bind fun y ρ => (O.opt (asD y) ρ).bind fun y ρ => (O.opt (asS y) ρ).bind fun s ρ => (match ρ[i]? with | some (.tr t) => O.opt ((mdGet t s).map .d) ρ | _ => .bad) else .bad := rfl
@[simp] theorem q_mk_disp {a : Sl} {r : En} {ks : List (List Nat)} {es : List E} : evMk (.disp ks es) (a :: r) = (evEs es (a :: r)).bind fun xs ρ => (O.opt (asDs xs) ρ).bind fun ds ρ => if ks.length = ds.length then .ok (.md ks ds) ρ else .bad := rfl
@[simp] theorem q_x_setT {n : Nat} {a : Sl} {r : En} {i : Nat} {m : Mk} : exS n (.setT i m) (a :: r) = (evMk m (a :: r)).out fun t ρ => .nx (ρ.set i (.tr t)) := rfl
@[simp] theorem q_x_putD {n : Nat} {a : Sl} {r : En} {i : Nat} {k e : E} : exS n (.putD i k e) (a :: r) = (evE e (a :: r)).out fun x ρ => if isOwnT ρ i then (evE k ρ).out fun y ρ => (match asD x, asD y, ρ[i]? with | some d, some (.str s), some (.tr t) => (match mdPut t s d with | some t' => .nx (ρ.set i (.tr t')) | none => .bad) | _, _, _ => .bad) else .bad := rfl
@[simp] theorem q_ev_slLo {a : Sl} {r : En} {p q : E} : evE (.slLo p q) (a :: r) = (evE p (a :: r)).bind fun x ρ => (evE q ρ).bind fun y ρ => (O.opt (deref ρ x) ρ).bind fun x ρ => (O.opt (asD y) ρ).bind fun y ρ => (O.opt (asI y) ρ).bind fun i ρ => O.opt ((cutD x (some i) none).map .d) ρ := rfl
@[simp] theorem q_ev_slHi {a : Sl} {r : En} {p q : E} : evE (.slHi p q) (a :: r) = (evE p (a :: r)).bind fun x ρ => (evE q ρ).bind fun y ρ => (O.opt (deref ρ x) ρ).bind fun x ρ => (O.opt (asD y) ρ).bind fun y ρ => (O.opt (asI y) ρ).bind fun i ρ => O.opt ((cutD x none (some i)).map .d) ρ := rfl
@[simp] theorem q_ev_slLH {a : Sl} {r : En} {p l h : E} : evE (.slLH p l h) (a :: r) = (evE p (a :: r)).bind fun x ρ => (evE l ρ).bind fun y ρ => (O.opt (asD y) ρ).bind fun y ρ => (O.opt (asI y) ρ).bind fun i ρ => (evE h ρ).bind fun z ρ => (O.opt (asD z) ρ).bind fun z ρ => (O.opt (asI z) ρ).bind fun j ρ => (O.opt (deref ρ x) ρ).bind fun x ρ => O.opt ((cutD x (some i) (some j)).map .d) ρ := rfl
@[simp] theorem q_ev_rev {a : Sl} {r : En} {p : E} : evE (.rev p) (a :: r) = (evE p (a :: r)).bind fun x ρ => (O.opt (deref ρ x) ρ).bind fun x ρ => O.opt ((revD x).map .d) ρ := rfl
@[simp] theorem q_ev_gti {a : Sl} {r : En} {x : Str} {t : List (List Nat)} {e : E} : evE (.gti x t e) (a :: r) = (evE e (a :: r)).bind fun x ρ => (O.opt (asD x) ρ).bind fun x ρ => (O.opt (asS x) ρ).bind fun s ρ => O.opt (((idxT s t).map fun (n : Nat) => D.int (n : Int)).map .d) ρ := rfl
@[simp] theorem q_ev_gsd {a : Sl} {r : En} {x : Str} {ys : List (List Nat)} : evE (.gsd x ys) (a :: r) = .ok (.d (.lst (ys.map .str))) (a :: r) := rfl
@[simp] theorem q_ev_tm {a : Sl} {r : En} {m : TM} {o e : E} : evE (.tm m o e) (a :: r) = (evE o (a :: r)).bind fun x ρ => (O.opt (asD x) ρ).bind fun x ρ => (O.opt (asTu x) ρ).bind fun ds ρ => (evE e ρ).bind fun y ρ => (O.opt (asD y) ρ).bind fun y ρ => O.opt ((tmD m ds y).map .d) ρ := rfl
@[simp] theorem q_asTu {ds : List D} : asTu (.tup ds) = some ds := rfl
@[simp] theorem q_tm_cnt {ds : List D} {k : Int} : tmD .count ds (.int k) = (dInts ds).map fun is => .int ((is.countP fun y => decide (y = k) : Nat) : Int) := rfl
@[simp] theorem q_bi_sort_l {x : List D} : bi .sorted [.lst x] = (dInts x).bind fun is => if is.length < 64 then some (.lst ((sortI is).map .int)) else none := rfl
@[simp] theorem q_bi_sort_t {x : List D} : bi .sorted [.tup x] = (dInts x).bind fun is => if is.length < 64 then some (.lst ((sortI is).map .int)) else none := rfl
@[simp] theorem q_ev_lrev {a : Sl} {r : En} {p : E} : evE (.lrev p) (a :: r) = (evE p (a :: r)).bind fun x ρ => (O.opt (asD x) ρ).bind fun x ρ => O.opt ((lrevD x).map .d) ρ := rfl
@[simp] theorem q_ev_lc {a : Sl} {r : En} {t : Tgt} {own : List Nat} {s : Src} {ifs : List E} {elt : E} : evE (.lc t own s ifs elt) (a :: r) = (evSrc s (a :: r)).bind fun xs ρ => if freeE ρ own then (match lcGo t own (lcBody (evTs ifs) (evE elt)) xs [] ρ with | .ok ys ρ' => .ok (.d (.lst ys)) ρ' | _ => .bad) else .bad := rfl
@[simp] theorem q_ev_pop {a : Sl} {r : En} {i : Nat} : evE (.pop i) (a :: r) = match (a :: r)[i]? with | some (.own ds) => (match ds.getLast? with | some d => .ok (.d d) ((a :: r).set i (.own ds.dropLast)) | none => .bad) | _ => .bad := rfl
@[simp] theorem q_evs_nil {ρ : En} : evEs [] ρ = .ok [] ρ := rfl
@[simp] theorem q_evs_cons {a : Sl} {r : En} {e : E} {es : List E} : evEs (e :: es) (a :: r) = (evE e (a :: r)).bind fun x ρ => (evEs es ρ).bind fun xs ρ => .ok (x :: xs) ρ := rfl
@[simp] theorem q_and_1 {a : Sl} {r : En} {e : E} : evAnd [e] (a :: r) = evE e (a :: r) := rfl
@[simp] theorem q_and_2 {a : Sl} {r : En} {e e2 : E} {es : List E} : evAnd (e :: e2 :: es) (a :: r) = (evE e (a :: r)).bind fun x ρ => (O.opt (asD x) ρ).bind fun x ρ => (O.opt (asB x) ρ).bind fun k ρ => if k = true then evAnd (e2 :: es) ρ else .ok (.d (.bl false)) ρ := rfl
@[simp] theorem q_or_1 {a : Sl} {r : En} {e : E} : evOr [e] (a :: r) = evE e (a :: r) := rfl
@[simp] theorem q_or_2 {a : Sl} {r : En} {e e2 : E} {es : List E} : evOr (e :: e2 :: es) (a :: r) = (evE e (a :: r)).bind fun x ρ => (O.opt (asD x) ρ).bind fun x ρ => (O.opt (asB x) ρ).bind fun k ρ => if k = true then .ok (.d (.bl true)) ρ else evOr (e2 :: es) ρ := rfl
@[simp] theorem q_ts_nil {ρ : En} : evTs [] ρ = .ok true ρ := rfl
@[simp] theorem q_ts_1 {a : Sl} {r : En} {e : E} : evTs [e] (a :: r) = (evE e (a :: r)).bind fun x ρ => (O.opt (asD x) ρ).bind fun x ρ => (O.opt (asB x) ρ).bind fun k ρ => .ok k ρ := rfl
@[simp] theorem q_src_it {a : Sl} {r : En} {e : E} : evSrc (.it e) (a :: r) = (evE e (a :: r)).bind fun x ρ => (O.opt (asD x) ρ).bind fun x ρ => O.opt (items x) ρ := rfl
@[simp] theorem q_src_r1 {a : Sl} {r : En} {e : E} : evSrc (.r1 e) (a :: r) = (evE e (a :: r)).bind fun x ρ => (O.opt (asD x) ρ).bind fun x ρ => (O.opt (asI x) ρ).bind fun i ρ => if rngOk i then .ok (rng 0 i) ρ else .bad := rfl
@[simp] theorem q_src_r2 {a : Sl} {r : En} {e e2 : E} : evSrc (.r2 e e2) (a :: r) = (evE e (a :: r)).bind fun x ρ => (evE e2 ρ).bind fun y ρ => (O.opt (asD x) ρ).bind fun x ρ => (O.opt (asI x) ρ).bind fun i ρ => (O.opt (asD y) ρ).bind fun y ρ => (O.opt (asI y) ρ).bind fun j ρ => if rngOk i && rngOk j then .ok (rng i j) ρ else .bad := rfl
@[simp] theorem q_src_rd {a : Sl} {r : En} {e e2 : E} : evSrc (.rd e e2) (a :: r) = (evE e (a :: r)).bind fun x ρ => (evE e2 ρ).bind fun y ρ => (O.opt (asD x) ρ).bind fun x ρ => (O.opt (asI x) ρ).bind fun i ρ => (O.opt (asD y) ρ).bind fun y ρ => (O.opt (asI y) ρ).bind fun j ρ => if rngOk i && rngOk j then .ok (rngD i j) ρ else .bad := rfl
@[simp] theorem q_evt {a : Sl} {r : En} {e : E} : evT e (a :: r) = (evE e (a :: r)).bind fun x ρ => (O.opt (asD x) ρ).bind fun x ρ => O.opt (asB x) ρ := rfl
@[simp] theorem q_lcb {a : Sl} {r : En} {ifs : EvF Bool} {elt : EvF Rv} : lcBody ifs elt (a :: r) = (ifs (a :: r)).bind fun k ρ => if k = true then (elt ρ).bind fun y ρ => O.opt ((asD y).map some) ρ else .ok none ρ := rfl
@[simp] theorem q_x_ret {n : Nat} {a : Sl} {r : En} {e : E} : exS n (.ret e) (a :: r) = (evE e (a :: r)).out fun x ρ => .ret x ρ := rfl
@[simp] theorem q_x_retN {n : Nat} {a : Sl} {r : En} : exS n .retN (a :: r) = .ret (.d .non) (a :: r) := rfl
@[simp] theorem q_x_retF {n : Nat} {a : Sl} {r : En} {e : E} : exS n (.retF e) (a :: r) = (evE e (a :: r)).out fun x ρ => match x with | .d (.lst ds) => .new ds ρ | _ => .bad := rfl
@[simp] theorem q_x_set {n : Nat} {a : Sl} {r : En} {i : Nat} {e : E} : exS n (.set i e) (a :: r) = (evE e (a :: r)).out fun x ρ => match asD x with | some d => (match setV ρ i d with | some ρ => .nx ρ | none => .bad) | none => .bad := rfl
@[simp] theorem q_x_setN {n : Nat} {a : Sl} {r : En} {i : Nat} {e : E} : exS n (.setN i e) (a :: r) = (evE e (a :: r)).out fun x ρ => match x with | .d (.lst ds) => .nx (ρ.set i (.own ds)) | _ => .bad := rfl
@[simp] theorem q_x_unp {n : Nat} {a : Sl} {r : En} {is : List Nat} {e : E} : exS n (.unp is e) (a :: r) = (evE e (a :: r)).out fun x ρ => match asD x with | some (.tup ds) => (match bindN ρ is ds with | some ρ => .nx ρ | none => .bad) | _ => .bad := rfl
@[simp] theorem q_x_aug {n : Nat} {a : Sl} {r : En} {i : Nat} {s : Bool} {e : E} : exS n (.aug i s e) (a :: r) = match (a :: r)[i]? with | some (.val (.int x)) => (evE e (a :: r)).out fun y ρ => (match asD y with | some (.int y) => (match setV ρ i (.int (if s then x - y else x + y)) with | some ρ => .nx ρ | none => .bad) | _ => .bad) | _ => .bad := rfl
@[simp] theorem q_x_ite {n : Nat} {a : Sl} {r : En} {t : E} {p q : List S} : exS n (.ite t p q) (a :: r) = (evT t (a :: r)).out fun k ρ => if k = true then exSs n p ρ else exSs n q ρ := rfl
@[simp] theorem q_x_whl {n : Nat} {a : Sl} {r : En} {t : E} {b : List S} : exS n (.whl t b) (a :: r) = whlGo (evT t) (exSs n b) n (a :: r) := rfl
@[simp] theorem q_x_for {n : Nat} {a : Sl} {r : En} {t : Tgt} {s : Src} {b : List S} : exS n (.for t s b) (a :: r) = (evSrc s (a :: r)).out fun xs ρ => forGo t (exSs n b) xs ρ := rfl
@[simp] theorem q_x_app {n : Nat} {a : Sl} {r : En} {i : Nat} {e : E} : exS n (.app i e) (a :: r) = if isOwn (a :: r) i then (evE e (a :: r)).out fun x ρ => (match asD x, ρ[i]? with | some d, some (.own ds) => if ds.length < lim then .nx (ρ.set i (.own (ds ++ [d]))) else .bad | _, _ => .bad) else .bad := rfl
@[simp] theorem q_x_ext {n : Nat} {a : Sl} {r : En} {i : Nat} {e : E} : exS n (.ext i e) (a :: r) = if isOwn (a :: r) i then (evE e (a :: r)).out fun x ρ => (match asD x, ρ[i]? with | some (.lst es), some (.own ds) => if ds.length + es.length ≤ lim then .nx (ρ.set i (.own (ds ++ es))) else .bad | _, _ => .bad) else .bad := rfl
@[simp] theorem q_x_put {n : Nat} {a : Sl} {r : En} {i : Nat} {k e : E} : exS n (.put i k e) (a :: r) = (evE e (a :: r)).out fun x ρ => if isOwn ρ i then (evE k ρ).out fun y ρ => (match asD x, asD y, ρ[i]? with | some d, some (.int k), some (.own ds) => (match ixN ds.length k with | some j => .nx (ρ.set i (.own (ds.set j d))) | none => .bad) | _, _, _ => .bad) else .bad := rfl
@[simp] theorem q_x_exp {n : Nat} {a : Sl} {r : En} {e : E} : exS n (.exp e) (a :: r) = (evE e (a :: r)).out fun _ ρ => .nx ρ := rfl
@[simp] theorem q_x_try {n : Nat} {a : Sl} {r : En} {b h : List S} {cs : List Nat} {C : Str} {m : Option Nat} : exS n (.try b cs C m h) (a :: r) = match exSs n b (a :: r) with | .exc x d ρ => if cs.contains x then (match enterX m x d ρ with | some ρ => leaveT m (exSs n h ρ) | none => .bad) else .exc x d ρ | o => o := rfl
@[simp] theorem q_x_raise {n : Nat} {a : Sl} {r : En} {x : Nat} {C : Str} {e : E} : exS n (.raise x C e) (a :: r) = (evE e (a :: r)).out fun y ρ => match asD y with | some d => .exc x d ρ | none => .bad := rfl
@[simp] theorem q_x_frz {n : Nat} {a : Sl} {r : En} {i : Nat} : exS n (.frz i) (a :: r) = match (a :: r)[i]? with | some (.own ds) => .nx ((a :: r).set i (.val (.lst ds))) | some (.tr t) => .nx ((a :: r).set i (.val (frzD t))) | _ => .bad := rfl
@[simp] theorem q_x_pas {n : Nat} {a : Sl} {r : En} : exS n .pas (a :: r) = .nx (a :: r) := rfl
@[simp] theorem q_x_brk {n : Nat} {a : Sl} {r : En} : exS n .brk (a :: r) = .brk (a :: r) := rfl
@[simp] theorem q_x_cnt {n : Nat} {a : Sl} {r : En} : exS n .cnt (a :: r) = .cnt (a :: r) := rfl
@[simp] theorem q_xs_nil {n : Nat} {ρ : En} : exSs n [] ρ = .nx ρ := rfl
@[simp] theorem q_xs_cons {n : Nat} {a : Sl} {r : En} {s : S} {ss : List S} : exSs n (s :: ss) (a :: r) = (exS n s (a :: r)).seq fun ρ => exSs n ss ρ := rfl
@[simp] theorem q_lv_d {md : List Bool} {d : D} {ρ : En} : leaveO md false (.ret (.d d) ρ) = finO md d ρ := rfl
@[simp] theorem q_lv_nx {md : List Bool} {ρ : En} : leaveO md false (.nx ρ) = finO md .non ρ := rfl
@[simp] theorem q_lv_new {md : List Bool} {ds : List D} {ρ : En} : leaveO md true (.new ds ρ) = finO md (.lst ds) ρ := rfl
@[simp] theorem q_lv_o {md : List Bool} {fr : Bool} {i : Nat} {ρ : En} : leaveO md fr (.ret (.o i) ρ) = if (inoutSlots md).contains i = true then .bad else (match ρ[i]? with | some (.own x) => finO md (.lst x) ρ | some (.tr t) => (match outsOf ρ (inoutSlots md) with | some r => .tre t r | none => .bad) | _ => .bad) := rfl
@[simp] theorem q_lv_exc {md : List Bool} {fr : Bool} {c : Nat} {d : D} {ρ : En} : leaveO md fr (.exc c d ρ) = (match outsOf ρ (inoutSlots md) with | some r => .exc c d r | none => .bad) := rfl
@[simp] theorem q_deref_d {ρ : En} {d : D} : deref ρ (.d d) = some d := rfl
@[simp] theorem q_deref_o {a : Sl} {r : En} {i : Nat} : deref (a :: r) (.o i) = match (a :: r)[i]? with | some (.own ds) => some (.lst ds) | _ => none := rfl
@[simp] theorem q_derefs_nil {ρ : En} : derefs ρ [] = some [] := rfl
@[simp] theorem q_derefs_cons {ρ : En} {x : Rv} {xs : List Rv} : derefs ρ (x :: xs) = match deref ρ x, derefs ρ xs with | some d, some ds => some (d :: ds) | _, _ => none := rfl
@[simp] theorem q_asD_d {d : D} : asD (.d d) = some d := rfl
@[simp] theorem q_asDs_nil : asDs [] = some [] := rfl
@[simp] theorem q_asDs_cons {d : D} {xs : List Rv} : asDs (.d d :: xs) = (asDs xs).map (d :: ·) := rfl
@[simp] theorem q_asI_i {i : Int} : asI (.int i) = some i := rfl
@[simp] theorem q_asB_b {b : Bool} : asB (.bl b) = some b := rfl
@[simp] theorem q_asS_s {s : List Nat} : asS (.str s) = some s := rfl
@[simp] theorem q_bop_add {i j : Int} : bop .add (.int i) (.int j) = some (.int (i + j)) := rfl
@[simp] theorem q_bop_sub {i j : Int} : bop .sub (.int i) (.int j) = some (.int (i - j)) := rfl
@[simp] theorem q_bop_mul {i j : Int} : bop .mul (.int i) (.int j) = if small i || small j then some (.int (i * j)) else none := rfl
@[simp] theorem q_bop_mul_s {i : List Nat} {j : Int} : bop .mul (.str i) (.int j) = if -1000 < j ∧ j < 1000 ∧ i.length ≤ 1000 then some (.str (List.replicate j.toNat i).flatten) else none := rfl
@[simp] theorem q_bop_fdiv {i j : Int} : bop .fdiv (.int i) (.int j) = if j ≠ 0 ∧ j.natAbs < 1073741824 then some (.int (i.fdiv j)) else none := rfl
@[simp] theorem q_bop_mod {i j : Int} : bop .mod (.int i) (.int j) = if j ≠ 0 then some (.int (i.fmod j)) else none := rfl
@[simp] theorem q_bop_pow {i j : Int} : bop .pow (.int i) (.int j) = if 0 ≤ j ∧ j ≤ 1000 ∧ i.natAbs < 2 ^ 64 then some (.int (i ^ j.toNat)) else none := rfl
@[simp] theorem q_bop_add_str {x y : List Nat} : bop .add (.str x) (.str y) = if x.length + y.length ≤ lim then some (.str (x ++ y)) else none := rfl
@[simp] theorem q_bop_add_tup {x y : List D} : bop .add (.tup x) (.tup y) = if x.length + y.length ≤ lim then some (.tup (x ++ y)) else none := rfl
@[simp] theorem q_bop_add_lst {x y : List D} : bop .add (.lst x) (.lst y) = if x.length + y.length ≤ lim then some (.lst (x ++ y)) else none := rfl
@[simp] theorem q_cop_eq {x y : D} : cop .eq x y = eqO x y := rfl
@[simp] theorem q_cop_ne {x y : D} : cop .ne x y = (eqO x y).map (!·) := rfl
@[simp] theorem q_cop_lt_i {i j : Int} : cop .lt (.int i) (.int j) = some (decide (i < j)) := rfl
@[simp] theorem q_cop_lt_b {i j : Bool} : cop .lt (.bl i) (.bl j) = some (decide (b2z i < b2z j)) := rfl
@[simp] theorem q_cop_lt_s {i j : List Nat} : cop .lt (.str i) (.str j) = some (decide (i < j)) := rfl
@[simp] theorem q_cop_gt_i {i j : Int} : cop .gt (.int i) (.int j) = some (decide (j < i)) := rfl
@[simp] theorem q_cop_gt_s {i j : List Nat} : cop .gt (.str i) (.str j) = some (decide (j < i)) := rfl
@[simp] theorem q_cop_le_i {i j : Int} : cop .le (.int i) (.int j) = some (decide (i ≤ j)) := rfl
@[simp] theorem q_cop_ge_i {i j : Int} : cop .ge (.int i) (.int j) = some (decide (j ≤ i)) := rfl
@[simp] theorem q_cop_in {x y : D} : cop .isIn x y = memO x y := rfl
@[simp] theorem q_cop_nin {x y : D} : cop .notIn x y = (memO x y).map (!·) := rfl
@[simp] theorem q_cop_is_n {x : D} : cop .is x .non = some (match x with | .non => true | _ => false) := rfl
@[simp] theorem q_cop_is_b {x : D} {y : Bool} : cop .is x (.bl y) = some (match x with | .bl z => z == y | _ => false) := rfl
@[simp] theorem q_cop_isn_n {x : D} : cop .isNot x .non = some (match x with | .non => false | _ => true) := rfl
@[simp] theorem q_mem_tup {x : D} {ds : List D} : memO x (.tup ds) = inO x ds := rfl
@[simp] theorem q_mem_lst {x : D} {ds : List D} : memO x (.lst ds) = inO x ds := rfl
@[simp] theorem q_mem_1 {c : Nat} {z : List Nat} : memO (.str [c]) (.str z) = some (z.contains c) := rfl
@[simp] theorem q_len_str {x : List Nat} : bi .len [.str x] = some (.int x.length) := rfl
@[simp] theorem q_len_tup {x : List D} : bi .len [.tup x] = some (.int x.length) := rfl
@[simp] theorem q_len_lst {x : List D} : bi .len [.lst x] = some (.int x.length) := rfl
@[simp] theorem q_bi_abs {i : Int} : bi .abs [.int i] = some (.int (if i < 0 then -i else i)) := rfl
@[simp] theorem q_bi_max {i j : Int} : bi .max2 [.int i, .int j] = some (.int (if j > i then j else i)) := rfl
@[simp] theorem q_bi_min {i j : Int} : bi .min2 [.int i, .int j] = some (.int (if j < i then j else i)) := rfl
@[simp] theorem q_bi_all {x : List D} : bi .all [.lst x] = (dBools x).map fun bs => .bl (bs.all id) := rfl
@[simp] theorem q_bi_any {x : List D} : bi .any [.lst x] = (dBools x).map fun bs => .bl (bs.any id) := rfl
@[simp] theorem q_bi_sum {x : List D} : bi .sum [.lst x] = (dInts x).map fun is => .int is.sum := rfl
@[simp] theorem q_bi_int_i {i : Int} : bi .int [.int i] = some (.int i) := rfl
@[simp] theorem q_bi_int_b {b : Bool} : bi .int [.bl b] = some (.int (b2z b)) := rfl
@[simp] theorem q_bi_str_i {i : Int} : bi .str [.int i] = if i.natAbs < 10 ^ 100 then some (.str (intS i)) else none := rfl
@[simp] theorem q_bi_list_t {x : List D} : bi .list [.tup x] = some (.lst x) := rfl
@[simp] theorem q_bi_list_l {x : List D} : bi .list [.lst x] = some (.lst x) := rfl
@[simp] theorem q_bi_sum_t {x : List D} : bi .sum [.tup x] = (dInts x).map fun is => .int is.sum := rfl
@[simp] theorem q_bi_max1_l {x : List D} : bi .max1 [.lst x] = (dInts x).bind fun is => (maxI is).map .int := rfl
@[simp] theorem q_bi_max1_t {x : List D} : bi .max1 [.tup x] = (dInts x).bind fun is => (maxI is).map .int := rfl
@[simp] theorem q_bi_min1_l {x : List D} : bi .min1 [.lst x] = (dInts x).bind fun is => (minI is).map .int := rfl
@[simp] theorem q_bi_min1_t {x : List D} : bi .min1 [.tup x] = (dInts x).bind fun is => (minI is).map .int := rfl
@[simp] theorem q_rev_t {x : List D} : revD (.tup x) = some (.tup x.reverse) := rfl
@[simp] theorem q_rev_l {x : List D} : revD (.lst x) = some (.lst x.reverse) := rfl
@[simp] theorem q_rev_s {x : List Nat} : revD (.str x) = some (.str x.reverse) := rfl
@[simp] theorem q_lrev_t {x : List D} : lrevD (.tup x) = some (.lst x.reverse) := rfl
@[simp] theorem q_bi_tuple_t {x : List D} : bi .tuple [.tup x] = some (.tup x) := rfl
@[simp] theorem q_bi_tuple_l {x : List D} : bi .tuple [.lst x] = some (.tup x) := rfl
@[simp] theorem q_it_tup {x : List D} : items (.tup x) = some x := rfl
@[simp] theorem q_it_lst {x : List D} : items (.lst x) = some x := rfl
@[simp] theorem q_it_str {x : List Nat} : items (.str x) = some (x.map fun c => .str [c]) := rfl
@[simp] theorem q_at_tup {x : List D} {i : Int} : atD (.tup x) i = atI x i := rfl
@[simp] theorem q_at_lst {x : List D} {i : Int} : atD (.lst x) i = atI x i := rfl
@[simp] theorem q_at_str {x : List Nat} {i : Int} : atD (.str x) i = (atI x i).map fun c => .str [c] := rfl
@[simp] theorem q_cut_tup {x : List D} {l h : Option Int} : cutD (.tup x) l h = some (.tup (cutL x l h)) := rfl
@[simp] theorem q_cut_lst {x : List D} {l h : Option Int} : cutD (.lst x) l h = some (.lst (cutL x l h)) := rfl
@[simp] theorem q_cut_str {x : List Nat} {l h : Option Int} : cutD (.str x) l h = some (.str (cutL x l h)) := rfl
@[simp] theorem q_setv {a : Sl} {r : En} {i : Nat} {d : D} : setV (a :: r) i d = if okSl (a :: r)[i]? = true then some ((a :: r).set i (.val d)) else none := by
  unfold setV okSl
  cases (a :: r)[i]? with
  | none => rfl
  | some s => cases s <;> rfl
@[simp] theorem q_okSl_va {d : D} : okSl (some (.val d)) = true := rfl
@[simp] theorem q_frSl_va {d : D} : frSl (some (.val d)) = true := rfl
@[simp] theorem q_okSl_no : okSl (some (.no)) = true := rfl
@[simp] theorem q_frSl_no : frSl (some (.no)) = true := rfl
@[simp] theorem q_okSl_sl {o : Option D} : okSl (some (sl o)) = true := by cases o <;> rfl
@[simp] theorem q_frSl_sl {o : Option D} : frSl (some (sl o)) = true := by cases o <;> rfl
@[simp] theorem q_bn_nil {ρ : En} : bindN ρ [] [] = some ρ := rfl
@[simp] theorem q_bn_cons {a : Sl} {r : En} {i : Nat} {is : List Nat} {d : D} {ds : List D} : bindN (a :: r) (i :: is) (d :: ds) = match setV (a :: r) i d with | some ρ => bindN ρ is ds | none => none := rfl
@[simp] theorem q_bt_n {i : Nat} {d : D} {ρ : En} : bindT (.n i) d ρ = setV ρ i d := rfl
@[simp] theorem q_bt_t {is : List Nat} {ds : List D} {ρ : En} : bindT (.t is) (.tup ds) ρ = bindN ρ is ds := rfl
@[simp] theorem q_own_c {a : Sl} {r : En} {i : Nat} : isOwn (a :: r) i = match (a :: r)[i]? with | some (.own _) => true | _ => false := rfl
@[simp] theorem q_call_c {a : Sl} {r : En} {f : CallF} {xs : List Rv} : callO f xs (a :: r) = match splitA (a :: r) f.md xs with | some (ds, is) => if nodupB is then (match f.F ds with | .ok d outs => (match putO (a :: r) is outs with | some ρ' => .ok (.d d) ρ' | none => .bad) | .exc c d outs => (match putO (a :: r) is outs with | some ρ' => .exc c d ρ' | none => .bad) | .bad => .bad | .tre _ _ => .bad) else .bad | none => .bad := rfl
@[simp] theorem q_sp_nil {ρ : En} : splitA ρ [] [] = some ([], []) := rfl
@[simp] theorem q_sp_d {ρ : En} {md : List Bool} {d : D} {rs : List Rv} : splitA ρ (false :: md) (.d d :: rs) = match splitA ρ md rs with | some (ds, is) => some (d :: ds, is) | none => none := rfl
@[simp] theorem q_sp_o {a : Sl} {r : En} {md : List Bool} {i : Nat} {rs : List Rv} : splitA (a :: r) (true :: md) (.o i :: rs) = match (a :: r)[i]?, splitA (a :: r) md rs with | some (.own x), some (ds, is) => some (.lst x :: ds, i :: is) | some (.tr t), some (ds, is) => some (t :: ds, i :: is) | _, _ => none := rfl
@[simp] theorem q_po_nil {ρ : En} : putO ρ [] [] = some ρ := rfl
@[simp] theorem q_po_cons {a : Sl} {r : En} {i : Nat} {is : List Nat} {x : List D} {xs : List (List D)} : putO (a :: r) (i :: is) (x :: xs) = match (a :: r)[i]? with | some (.own _) => (if x.length ≤ lim then putO ((a :: r).set i (.own x)) is xs else none) | some (.tr _) => (match x with | [t] => putO ((a :: r).set i (.tr t)) is xs | _ => none) | _ => none := rfl
@[simp] theorem q_nd_nil : nodupB [] = true := rfl
@[simp] theorem q_nd_1 {i : Nat} : nodupB [i] = true := by simp [nodupB]
@[simp] theorem q_eq_ii {i j : Int} : eqO (.int i) (.int j) = some (decide (i = j)) := by show some (i == j) = _; by_cases h : i = j <;> simp [h]
@[simp] theorem q_eq_bb {i j : Bool} : eqO (.bl i) (.bl j) = some (i == j) := rfl
@[simp] theorem q_eq_ss {i j : List Nat} : eqO (.str i) (.str j) = some (decide (i = j)) := by show some (i == j) = _; by_cases h : i = j <;> simp [h]
@[simp] theorem q_eq_nn : eqO .non .non = some true := rfl
@[simp] theorem q_eq_is {i : Int} {j : List Nat} : eqO (.int i) (.str j) = some false := rfl
@[simp] theorem q_eq_si {i : Int} {j : List Nat} : eqO (.str j) (.int i) = some false := rfl
@[simp] theorem q_eq_sn {j : List Nat} : eqO (.str j) .non = some false := rfl
@[simp] theorem q_eq_ns {j : List Nat} : eqO .non (.str j) = some false := rfl
@[simp] theorem q_eq_in {i : Int} : eqO (.int i) .non = some false := rfl
@[simp] theorem q_eq_ni {i : Int} : eqO .non (.int i) = some false := rfl
@[simp] theorem q_lc_nil {ρ : En} {t : Tgt} {vs : List Nat} {b : EvF (Option D)} {acc : List D} : lcGo t vs b [] acc ρ = if acc.length ≤ lim then .ok acc ρ else .bad := rfl
@[simp] theorem q_lc_cons {ρ : En} {t : Tgt} {vs : List Nat} {b : EvF (Option D)} {acc : List D} {x : D} {xs : List D} : lcGo t vs b (x :: xs) acc ρ = match bindT t x (wipeE ρ vs) with | none => .bad | some ρ1 => (match b ρ1 with | .ok o ρ2 => if freeE ρ2 vs && decide (acc.length < lim) then lcGo t vs b xs (acc ++ o.toList) (backE ρ ρ2 vs) else .bad | _ => .bad) := rfl
@[simp] theorem q_wipe_1 {ρ : En} {i : Nat} : wipeE ρ [i] = ρ.set i .no := rfl
@[simp] theorem q_back_1 {ρ ρ2 : En} {i : Nat} : backE ρ ρ2 [i] = ρ2.set i (ρ.getD i .no) := rfl
@[simp] theorem q_free_1 {a : Sl} {r : En} {i : Nat} : freeE (a :: r) [i] = frSl (a :: r)[i]? := Bool.and_true _
@[simp] theorem q_at0 {α : Type} {x : α} {l : List α} : atI (x :: l) 0 = some x := by
  unfold atI ixN
  rw [if_pos (Int.le_refl 0), if_pos (by simp <;> omega)]
  rfl
@[simp] theorem q_at1 {α : Type} {x y : α} {l : List α} : atI (x :: y :: l) 1 = some y := by
  unfold atI ixN
  rw [if_pos (by omega), if_pos (by simp <;> omega)]
  rfl
@[simp] theorem q_at2 {α : Type} {x y z : α} {l : List α} : atI (x :: y :: z :: l) 2 = some z := by
  unfold atI ixN
  rw [if_pos (by omega), if_pos (by simp <;> omega)]
  rfl
@[simp] theorem q_at3 {α : Type} {x y z u : α} {l : List α} : atI (x :: y :: z :: u :: l) 3 = some u := by
  unfold atI ixN
  rw [if_pos (by omega), if_pos (by simp <;> omega)]
  rfl
@[simp] theorem q_eq_l0 : eqO (.lst []) (.lst []) = some true := rfl
@[simp] theorem q_eq_t0 : eqO (.tup []) (.tup []) = some true := rfl
@[simp] theorem q_sl_s {d : D} : sl (some d) = .val d := rfl
@[simp] theorem q_fo_nil {ρ : En} {t : Tgt} {b : En → Out} : forGo t b [] ρ = .nx ρ := rfl
theorem q_xs_app {n : Nat} {ss ts : List S} : ∀ {ρ : En}, exSs n (ss ++ ts) ρ = (exSs n ss ρ).seq fun ρ => exSs n ts ρ := by
  induction ss with
  | nil => intro ρ; rfl
  | cons s ss ih =>
    intro ρ
    show (exS n s ρ).seq (fun ρ => exSs n (ss ++ ts) ρ) = ((exS n s ρ).seq fun ρ => exSs n ss ρ).seq fun ρ => exSs n ts ρ
    cases exS n s ρ <;> first | exact ih | rfl
theorem q_for_cons {ρ : En} {t : Tgt} {b : En → Out} {x : D} {xs : List D} : forGo t b (x :: xs) ρ = match bindT t x ρ with | none => .bad | some ρ => (match b ρ with | .nx ρ => forGo t b xs ρ | .cnt ρ => forGo t b xs ρ | .brk ρ => .nx ρ | o => o) := rfl
theorem q_whl_s {n : Nat} {t : EvF Bool} {b : En → Out} {ρ : En} : whlGo t b (n + 1) ρ = (t ρ).out fun k ρ => if k = true then (match b ρ with | .nx ρ => whlGo t b n ρ | .cnt ρ => whlGo t b n ρ | .brk ρ => .nx ρ | o => o) else .nx ρ := rfl
end Mini
end

section
set_option Elab.async false
set_option linter.all false
set_option maxRecDepth 100000
/-! P1: comprehensions whose turns leave the frame as it is. -/
namespace Mini
open PySem L2
theorem set_getD {α : Type} {d : α} : ∀ {l : List α} {i : Nat}, l.set i (l.getD i d) = l
  | [], _ => by simp
  | x :: l, 0 => rfl
  | x :: l, i + 1 => by
    show x :: l.set i (l.getD i d) = x :: l
    rw [set_getD]
theorem set_set' {α : Type} {a b : α} : ∀ {l : List α} {i : Nat}, (l.set i a).set i b = l.set i b
  | [], _ => rfl
  | x :: l, 0 => rfl
  | x :: l, i + 1 => by
    show x :: (l.set i a).set i b = x :: l.set i b
    rw [set_set']
/-- [g(x) for x in xs if f(x)] -/
theorem lc_pure {i : Nat} {ρ : En} {s : Sl} {ifs : EvF Bool} {elt : EvF Rv} {f : D → Bool} {g : D → D} (hi : ρ[i]? = some s) : ∀ {xs acc : List D},
    (∀ x ∈ xs, ifs (ρ.set i (.val x)) = .ok (f x) (ρ.set i (.val x))) → (∀ x ∈ xs, f x = true → elt (ρ.set i (.val x)) = .ok (.d (g x)) (ρ.set i (.val x))) → acc.length + xs.length ≤ lim →
    lcGo (.n i) [i] (lcBody ifs elt) xs acc ρ = .ok (acc ++ (xs.filter f).map g) ρ
  | [], acc, _, _, hz => by
    rw [q_lc_nil, if_pos (by simpa using hz)]
    simp
  | x :: xs, acc, h1, h2, hz => by
    rw [List.length_cons] at hz
    have hlt : i < ρ.length := (List.getElem?_eq_some_iff.mp hi).1
    have eb : bindT (.n i) x (wipeE ρ [i]) = some (ρ.set i (.val x)) := by
      show setV (ρ.set i .no) i x = _
      unfold setV
      rw [List.getElem?_set_self hlt]
      simp only []
      rw [set_set']
    have ef : freeE (ρ.set i (.val x)) [i] = true := by
      show ((match (ρ.set i (Sl.val x))[i]? with
        | some (.own _) => false
        | some (.exn _ _) => false
        | some (.tr _) => false
        | _ => true) && true) = true
      rw [List.getElem?_set_self hlt]
      rfl
    have ek : backE ρ (ρ.set i (.val x)) [i] = ρ := by
      show (ρ.set i (.val x)).set i (ρ.getD i .no) = ρ
      rw [set_set', set_getD]
    have hx := h1 x (List.mem_cons_self ..)
    have ih := fun (a : List D) (ha : a.length + xs.length ≤ lim) => lc_pure (acc := a) hi (fun y hy => h1 y (List.mem_cons_of_mem _ hy)) (fun y hy => h2 y (List.mem_cons_of_mem _ hy)) ha
    have hd : decide (acc.length < lim) = true := decide_eq_true (by omega)
    rw [q_lc_cons, eb]
    simp only []
    cases hf : f x with
    | false =>
      have e : lcBody ifs elt (ρ.set i (.val x)) = .ok none (ρ.set i (.val x)) := by
        unfold lcBody
        rw [hx, q_bind_ok, hf, if_neg Bool.false_ne_true]
      rw [e]
      simp only []
      rw [ef, hd, if_pos (show (true && true) = true from rfl), ek, ih _ (by simp; omega)]
      simp [hf]
    | true =>
      have e : lcBody ifs elt (ρ.set i (.val x)) = .ok (some (g x)) (ρ.set i (.val x)) := by
        unfold lcBody
        rw [hx, q_bind_ok, hf, if_pos rfl, h2 x (List.mem_cons_self ..) hf, q_bind_ok]
        rfl
      rw [e]
      simp only []
      rw [ef, hd, if_pos (show (true && true) = true from rfl), ek, ih _ (by simp; omega)]
      simp [hf]
/-- [g(x) for x in xs] -/
theorem lc_map {i : Nat} {ρ : En} {s : Sl} {elt : EvF Rv} {g : D → D} (hi : ρ[i]? = some s) {xs : List D} (h : ∀ x ∈ xs, elt (ρ.set i (.val x)) = .ok (.d (g x)) (ρ.set i (.val x))) (hz : xs.length ≤ lim) :
    lcGo (.n i) [i] (lcBody (evTs []) elt) xs [] ρ = .ok (xs.map g) ρ := by
  have := lc_pure (f := fun _ => true) (ifs := evTs []) (acc := []) hi (fun x _ => rfl) (fun x hx _ => h x hx) (by simpa using hz)
  rw [this, List.nil_append]
  congr 2
  exact List.filter_eq_self.mpr fun _ _ => rfl
end Mini
end

section
set_option Elab.async false
set_option linter.all false
set_option maxRecDepth 100000
/-! P2: what a body's end satisfies: rules to go through a body, statement by statement. -/
namespace Mini
open PySem L2
/-- the end of b from ρ satisfies Q (structures: nobody is to evaluate them) -/
structure Wp (n : Nat) (b : List S) (ρ : En) (Q : Out → Prop) : Prop where
  get : Q (exSs n b ρ)
structure Wk (n : Nat) (b : List S) (Q : Out → Prop) (o : Out) : Prop where
  get : Q (o.seq fun ρ => exSs n b ρ)
/-- the end of a loop's body: on, out, away -/
def Wl (I B : En → Prop) (Q : Out → Prop) : Out → Prop
  | .nx ρ => I ρ
  | .cnt ρ => I ρ
  | .brk ρ => B ρ
  | .ret r ρ => Q (.ret r ρ)
  | .new ds ρ => Q (.new ds ρ)
  | .exc c d ρ => Q (.exc c d ρ)
  | .bad => False
section
variable {n : Nat} {s : S} {ss A B : List S} {ρ : En} {Q : Out → Prop}
theorem wp_eq {b : List S} : Wp n b ρ Q = Q (exSs n b ρ) := propext ⟨fun h => h.1, fun h => ⟨h⟩⟩
theorem wk_eq {o : Out} : Wk n ss Q o = Q (o.seq fun ρ => exSs n ss ρ) := propext ⟨fun h => h.1, fun h => ⟨h⟩⟩
@[simp] theorem wp_nil : Wp n [] ρ Q = Q (.nx ρ) := wp_eq
theorem wp_cons : Wp n (s :: ss) ρ Q = Wk n ss Q (exS n s ρ) := wp_eq.trans wk_eq.symm
@[simp] theorem wk_nx : Wk n ss Q (.nx ρ) = Wp n ss ρ Q := wk_eq.trans wp_eq.symm
@[simp] theorem wk_ret {r : Rv} : Wk n ss Q (.ret r ρ) = Q (.ret r ρ) := wk_eq
@[simp] theorem wk_new {r : List D} : Wk n ss Q (.new r ρ) = Q (.new r ρ) := wk_eq
@[simp] theorem wk_exc {c : Nat} {d : D} : Wk n ss Q (.exc c d ρ) = Q (.exc c d ρ) := wk_eq
@[simp] theorem wk_brk : Wk n ss Q (.brk ρ) = Q (.brk ρ) := wk_eq
@[simp] theorem wk_cnt : Wk n ss Q (.cnt ρ) = Q (.cnt ρ) := wk_eq
@[simp] theorem wl_nx {I B : En → Prop} : Wl I B Q (.nx ρ) = I ρ := rfl
@[simp] theorem wl_cnt {I B : En → Prop} : Wl I B Q (.cnt ρ) = I ρ := rfl
@[simp] theorem wl_brk {I B : En → Prop} : Wl I B Q (.brk ρ) = B ρ := rfl
@[simp] theorem wl_ret {I B : En → Prop} {r : Rv} : Wl I B Q (.ret r ρ) = Q (.ret r ρ) := rfl
@[simp] theorem wl_new {I B : En → Prop} {r : List D} : Wl I B Q (.new r ρ) = Q (.new r ρ) := rfl
@[simp] theorem wl_exc {I B : En → Prop} {c : Nat} {d : D} : Wl I B Q (.exc c d ρ) = Q (.exc c d ρ) := rfl
theorem wp_hide (k : ∀ ss' Q', ss = ss' → Q = Q' → Wk n ss' Q' (exS n s ρ)) : Wp n (s :: ss) ρ Q := ⟨(k ss Q rfl rfl).1⟩
/-- a fact about the present frame -/
theorem wp_have {P : En → Prop} (h : P ρ) (k : P ρ → Wp n ss ρ Q) : Wp n ss ρ Q := k h
theorem wp_app (h : Wp n A ρ (Wk n ss Q)) : Wp n (A ++ ss) ρ Q := by
  refine ⟨?_⟩
  rw [q_xs_app]
  exact h.1.1
theorem wp_ite {t : E} {b : Bool} {ρ' : En} (h : evT t ρ = .ok b ρ') (h1 : b = true → Wp n (A ++ ss) ρ' Q) (h2 : b = false → Wp n (B ++ ss) ρ' Q) : Wp n (.ite t A B :: ss) ρ Q := by
  have e : exS n (.ite t A B) ρ = if b = true then exSs n A ρ' else exSs n B ρ' := by
    show (evT t ρ).out _ = _
    rw [h]
    rfl
  refine ⟨?_⟩
  show Q ((exS n (.ite t A B) ρ).seq fun ρ => exSs n ss ρ)
  rw [e]
  cases b with
  | true =>
    have := (h1 rfl).1
    rw [q_xs_app] at this
    exact this
  | false =>
    have := (h2 rfl).1
    rw [q_xs_app] at this
    exact this
theorem forGo_wp {t : Tgt} {b : List S} {I : Nat → En → Prop} {Q2 : Out → Prop} {F : En → Out} : ∀ (xs : List D) (k : Nat) {ρ : En}, I k ρ →
    (∀ j x ρ1, xs[j]? = some x → I (k + j) ρ1 → ∃ ρ2, bindT t x ρ1 = some ρ2 ∧ Wp n b ρ2 (Wl (I (k + j + 1)) (fun ρ => Q2 (F ρ)) Q2)) → (∀ ρ1, I (k + xs.length) ρ1 → Q2 (F ρ1)) →
    Q2 ((forGo t (exSs n b) xs ρ).seq F)
  | [], k, ρ, h, _, he => he ρ h
  | x :: xs, k, ρ, h, hs, he => by
    obtain ⟨ρ2, h1, h2⟩ := hs 0 x ρ rfl h
    have next : ∀ ρ3, I (k + 1) ρ3 → Q2 ((forGo t (exSs n b) xs ρ3).seq F) := fun ρ3 h3 =>
      forGo_wp xs (k + 1) h3 (fun j y ρ1 hj hI => by
        have e : k + 1 + j = k + (j + 1) := by omega
        rw [e] at hI ⊢
        exact hs (j + 1) y ρ1 (by rw [List.getElem?_cons_succ]; exact hj) hI) (fun ρ1 hI => he ρ1 (by
        have e : k + 1 + xs.length = k + (x :: xs).length := by rw [List.length_cons]; omega
        rw [e] at hI
        exact hI))
    rw [q_for_cons, h1]
    simp only []
    have h2 := h2.1
    cases hb : exSs n b ρ2 with
    | nx ρ3 => rw [hb] at h2; exact next ρ3 h2
    | cnt ρ3 => rw [hb] at h2; exact next ρ3 h2
    | brk ρ3 => rw [hb] at h2; exact h2
    | ret r ρ3 => rw [hb] at h2; exact h2
    | new r ρ3 => rw [hb] at h2; exact h2
    | exc c d ρ3 => rw [hb] at h2; exact h2
    | bad => rw [hb] at h2; exact h2.elim
theorem wp_for {t : Tgt} {src : Src} {b : List S} {xs : List D} {ρ0 : En} (I : Nat → En → Prop) (hs : evSrc src ρ = .ok xs ρ0) (h0 : I 0 ρ0)
    (hstep : ∀ k x ρ1, xs[k]? = some x → I k ρ1 → ∃ ρ2, bindT t x ρ1 = some ρ2 ∧ Wp n b ρ2 (Wl (I (k + 1)) (fun ρ => Wp n ss ρ Q) Q))
    (hend : ∀ ρ1, I xs.length ρ1 → Wp n ss ρ1 Q) : Wp n (.for t src b :: ss) ρ Q := by
  have e : exS n (.for t src b) ρ = forGo t (exSs n b) xs ρ0 := by
    show (evSrc src ρ).out _ = _
    rw [hs]
    rfl
  refine ⟨?_⟩
  show Q ((exS n (.for t src b) ρ).seq fun ρ => exSs n ss ρ)
  rw [e]
  refine forGo_wp (I := I) xs 0 h0 (fun j x ρ1 hj hI => ?_) (fun ρ1 hI => (hend ρ1 (by rw [Nat.zero_add] at hI; exact hI)).1)
  rw [Nat.zero_add] at hI ⊢
  obtain ⟨ρ2, h1, h2⟩ := hstep j x ρ1 hj hI
  refine ⟨ρ2, h1, ⟨?_⟩⟩
  have h3 := h2.1
  cases hb : exSs n b ρ2 with
  | brk ρ3 => rw [hb] at h3; exact h3.1
  | _ => rw [hb] at h3; exact h3
theorem whl_wp {t : E} {b : List S} {I : Nat → En → Prop} {Q2 : Out → Prop} {F : En → Out}
    (hstep : ∀ m ρ1, I m ρ1 → ∃ c ρ2, evT t ρ1 = .ok c ρ2 ∧ (c = false → Q2 (F ρ2)) ∧ (c = true → Wp n b ρ2 (Wl (fun ρ3 => ∃ m', m' < m ∧ I m' ρ3) (fun ρ => Q2 (F ρ)) Q2))) :
    ∀ (N m : Nat) {ρ : En}, m < N → I m ρ → Q2 ((whlGo (evT t) (exSs n b) N ρ).seq F) := by
  intro N
  induction N with
  | zero => intro m ρ h; omega
  | succ N ih =>
    intro m ρ hm hI
    obtain ⟨c, ρ2, h1, h2, h3⟩ := hstep m ρ hI
    rw [q_whl_s, h1, q_out_ok]
    cases c with
    | false => exact h2 rfl
    | true =>
      have h4 := h3 rfl
      rw [if_pos rfl]
      have h4 := h4.1
      cases hb : exSs n b ρ2 with
      | nx ρ3 =>
        rw [hb] at h4
        obtain ⟨m', h5, h6⟩ := h4
        exact ih m' (by omega) h6
      | cnt ρ3 =>
        rw [hb] at h4
        obtain ⟨m', h5, h6⟩ := h4
        exact ih m' (by omega) h6
      | brk ρ3 => rw [hb] at h4; exact h4
      | ret r ρ3 => rw [hb] at h4; exact h4
      | new r ρ3 => rw [hb] at h4; exact h4
      | exc c d ρ3 => rw [hb] at h4; exact h4
      | bad => rw [hb] at h4; exact h4.elim
theorem wp_whl {t : E} {b : List S} (I : Nat → En → Prop) (m : Nat) (hm : m < n) (h0 : I m ρ)
    (hstep : ∀ m ρ1, I m ρ1 → ∃ c ρ2, evT t ρ1 = .ok c ρ2 ∧ (c = false → Wp n ss ρ2 Q) ∧ (c = true → Wp n b ρ2 (Wl (fun ρ3 => ∃ m', m' < m ∧ I m' ρ3) (fun ρ => Wp n ss ρ Q) Q))) : Wp n (.whl t b :: ss) ρ Q :=
  ⟨whl_wp (Q2 := Q) (F := fun ρ => exSs n ss ρ) (fun m ρ1 hI => by
    obtain ⟨c, ρ2, h1, h2, h3⟩ := hstep m ρ1 hI
    refine ⟨c, ρ2, h1, fun h => (h2 h).1, fun h => ⟨?_⟩⟩
    have h4 := (h3 h).1
    cases hb : exSs n b ρ2 with
    | brk ρ3 => rw [hb] at h4; exact h4.1
    | _ => rw [hb] at h4; exact h4) n m hm h0⟩
end
/-- a def's answer -/
theorem wp_run {n m : Nat} {md : List Bool} {fr : Bool} {b : List S} {ds : List D} {ρ : En} (Q : MR → Prop) (h : startE m md ds = some ρ) (k : Wp n b ρ fun o => Q (leaveO md fr o)) : Q (runF n m md fr b ds) := by
  unfold runF
  rw [h]
  exact k.1
end Mini
end

section
set_option Elab.async false
set_option linter.all false
set_option maxRecDepth 100000
set_option maxHeartbeats 0
namespace K55
open PySem L2 Mini
abbrev g_NUMBER_LIMIT : D := .int 1000000
abbrev g_TEXT_LIMIT : D := .int 30
abbrev g_LIST_LIMIT : D := .int 12
abbrev g_TEXT_CHARACTERS : D := .str [32, 48, 49, 50, 51, 52, 53, 54, 55, 56, 57, 97, 98, 99, 100, 101, 102, 103, 104, 105, 106, 107, 108, 109, 110, 111, 112, 113, 114, 115, 116, 117, 118, 119, 120, 121, 122]
abbrev g_DIGITS : D := .str [48, 49, 50, 51, 52, 53, 54, 55, 56, 57]
def t_SIGNATURES : List (List Nat × D) := [([97, 98, 115], .tup [.str [110, 117, 109, 98, 101, 114], .str [110, 117, 109, 98, 101, 114]]), ([97, 100, 100], .tup [.str [110, 117, 109, 98, 101, 114], .str [110, 117, 109, 98, 101, 114], .str [110, 117, 109, 98, 101, 114]]), ([97, 100, 100, 95, 101, 97, 99, 104], .tup [.str [108, 105, 115, 116], .str [110, 117, 109, 98, 101, 114], .str [108, 105, 115, 116]]), ([97, 112, 112, 101, 110, 100], .tup [.str [108, 105, 115, 116], .str [110, 117, 109, 98, 101, 114], .str [108, 105, 115, 116]]), ([97, 116], .tup [.str [108, 105, 115, 116], .str [110, 117, 109, 98, 101, 114], .str [110, 117, 109, 98, 101, 114]]), ([98, 111, 116, 104], .tup [.str [116, 114, 117, 116, 104], .str [116, 114, 117, 116, 104], .str [116, 114, 117, 116, 104]]), ([99, 104, 111, 111, 115, 101, 95, 108, 105, 115, 116], .tup [.str [116, 114, 117, 116, 104], .str [108, 105, 115, 116], .str [108, 105, 115, 116], .str [108, 105, 115, 116]]), ([99, 104, 111, 111, 115, 101, 95, 110, 117, 109, 98, 101, 114], .tup [.str [116, 114, 117, 116, 104], .str [110, 117, 109, 98, 101, 114], .str [110, 117, 109, 98, 101, 114], .str [110, 117, 109, 98, 101, 114]]), ([99, 104, 111, 111, 115, 101, 95, 116, 101, 120, 116], .tup [.str [116, 114, 117, 116, 104], .str [116, 101, 120, 116], .str [116, 101, 120, 116], .str [116, 101, 120, 116]]), ([99, 111, 110, 99, 97, 116], .tup [.str [116, 101, 120, 116], .str [116, 101, 120, 116], .str [116, 101, 120, 116]]), ([99, 111, 110, 116, 97, 105, 110, 115], .tup [.str [116, 101, 120, 116], .str [116, 101, 120, 116], .str [116, 114, 117, 116, 104]]), ([99, 111, 117, 110, 116, 95, 111, 102], .tup [.str [108, 105, 115, 116], .str [110, 117, 109, 98, 101, 114], .str [110, 117, 109, 98, 101, 114]]), ([100, 105, 115, 116, 105, 110, 99, 116], .tup [.str [108, 105, 115, 116], .str [108, 105, 115, 116]]), ([100, 105, 118, 105, 100, 101], .tup [.str [110, 117, 109, 98, 101, 114], .str [110, 117, 109, 98, 101, 114], .str [110, 117, 109, 98, 101, 114]]), ([100, 111, 117, 98, 108, 101], .tup [.str [110, 117, 109, 98, 101, 114], .str [110, 117, 109, 98, 101, 114]]), ([100, 114, 111, 112], .tup [.str [108, 105, 115, 116], .str [110, 117, 109, 98, 101, 114], .str [108, 105, 115, 116]]), ([101, 105, 116, 104, 101, 114], .tup [.str [116, 114, 117, 116, 104], .str [116, 114, 117, 116, 104], .str [116, 114, 117, 116, 104]]), ([101, 113, 117, 97, 108], .tup [.str [110, 117, 109, 98, 101, 114], .str [110, 117, 109, 98, 101, 114], .str [116, 114, 117, 116, 104]]), ([102, 105, 114, 115, 116], .tup [.str [108, 105, 115, 116], .str [110, 117, 109, 98, 101, 114]]), ([103, 114, 101, 97, 116, 101, 115, 116], .tup [.str [108, 105, 115, 116], .str [110, 117, 109, 98, 101, 114]]), ([104, 97, 108, 102], .tup [.str [110, 117, 109, 98, 101, 114], .str [110, 117, 109, 98, 101, 114]]), ([105, 115, 95, 101, 109, 112, 116, 121], .tup [.str [108, 105, 115, 116], .str [116, 114, 117, 116, 104]]), ([105, 115, 95, 101, 118, 101, 110], .tup [.str [110, 117, 109, 98, 101, 114], .str [116, 114, 117, 116, 104]]), ([106, 111, 105, 110], .tup [.str [108, 105, 115, 116], .str [108, 105, 115, 116], .str [108, 105, 115, 116]]), ([107, 101, 101, 112, 95, 97, 98, 111, 118, 101], .tup [.str [108, 105, 115, 116], .str [110, 117, 109, 98, 101, 114], .str [108, 105, 115, 116]]), ([107, 101, 101, 112, 95, 101, 118, 101, 110], .tup [.str [108, 105, 115, 116], .str [108, 105, 115, 116]]), ([108, 97, 115, 116], .tup [.str [108, 105, 115, 116], .str [110, 117, 109, 98, 101, 114]]), ([108, 101, 97, 115, 116], .tup [.str [108, 105, 115, 116], .str [110, 117, 109, 98, 101, 114]]), ([108, 101, 110, 103, 116, 104], .tup [.str [116, 101, 120, 116], .str [110, 117, 109, 98, 101, 114]]), ([108, 101, 115, 115], .tup [.str [110, 117, 109, 98, 101, 114], .str [110, 117, 109, 98, 101, 114], .str [116, 114, 117, 116, 104]]), ([109, 97, 120], .tup [.str [110, 117, 109, 98, 101, 114], .str [110, 117, 109, 98, 101, 114], .str [110, 117, 109, 98, 101, 114]]), ([109, 105, 110], .tup [.str [110, 117, 109, 98, 101, 114], .str [110, 117, 109, 98, 101, 114], .str [110, 117, 109, 98, 101, 114]]), ([109, 111, 100], .tup [.str [110, 117, 109, 98, 101, 114], .str [110, 117, 109, 98, 101, 114], .str [110, 117, 109, 98, 101, 114]]), ([109, 117, 108], .tup [.str [110, 117, 109, 98, 101, 114], .str [110, 117, 109, 98, 101, 114], .str [110, 117, 109, 98, 101, 114]]), ([110, 101, 103], .tup [.str [110, 117, 109, 98, 101, 114], .str [110, 117, 109, 98, 101, 114]]), ([110, 101, 103, 97, 116, 101], .tup [.str [116, 114, 117, 116, 104], .str [116, 114, 117, 116, 104]]), ([110, 117, 109, 98, 101, 114, 95, 116, 101, 120, 116], .tup [.str [110, 117, 109, 98, 101, 114], .str [116, 101, 120, 116]]), ([112, 114, 101, 112, 101, 110, 100], .tup [.str [110, 117, 109, 98, 101, 114], .str [108, 105, 115, 116], .str [108, 105, 115, 116]]), ([112, 114, 111, 100, 117, 99, 116], .tup [.str [108, 105, 115, 116], .str [110, 117, 109, 98, 101, 114]]), ([114, 101, 112, 101, 97, 116], .tup [.str [116, 101, 120, 116], .str [110, 117, 109, 98, 101, 114], .str [116, 101, 120, 116]]), ([114, 101, 115, 116], .tup [.str [108, 105, 115, 116], .str [108, 105, 115, 116]]), ([114, 101, 118, 101, 114, 115, 101], .tup [.str [108, 105, 115, 116], .str [108, 105, 115, 116]]), ([114, 101, 118, 101, 114, 115, 101, 95, 116, 101, 120, 116], .tup [.str [116, 101, 120, 116], .str [116, 101, 120, 116]]), ([114, 117, 110, 110, 105, 110, 103], .tup [.str [108, 105, 115, 116], .str [108, 105, 115, 116]]), ([115, 97, 109, 101, 95, 108, 105, 115, 116], .tup [.str [108, 105, 115, 116], .str [108, 105, 115, 116], .str [116, 114, 117, 116, 104]]), ([115, 97, 109, 101, 95, 116, 101, 120, 116], .tup [.str [116, 101, 120, 116], .str [116, 101, 120, 116], .str [116, 114, 117, 116, 104]]), ([115, 105, 122, 101], .tup [.str [108, 105, 115, 116], .str [110, 117, 109, 98, 101, 114]]), ([115, 107, 105, 112], .tup [.str [116, 101, 120, 116], .str [110, 117, 109, 98, 101, 114], .str [116, 101, 120, 116]]), ([115, 111, 114, 116], .tup [.str [108, 105, 115, 116], .str [108, 105, 115, 116]]), ([115, 116, 97, 114, 116], .tup [.str [116, 101, 120, 116], .str [110, 117, 109, 98, 101, 114], .str [116, 101, 120, 116]]), ([115, 117, 98], .tup [.str [110, 117, 109, 98, 101, 114], .str [110, 117, 109, 98, 101, 114], .str [110, 117, 109, 98, 101, 114]]), ([115, 117, 109], .tup [.str [108, 105, 115, 116], .str [110, 117, 109, 98, 101, 114]]), ([116, 97, 107, 101], .tup [.str [108, 105, 115, 116], .str [110, 117, 109, 98, 101, 114], .str [108, 105, 115, 116]]), ([116, 101, 120, 116, 95, 110, 117, 109, 98, 101, 114], .tup [.str [116, 101, 120, 116], .str [110, 117, 109, 98, 101, 114]]), ([117, 112, 95, 116, 111], .tup [.str [110, 117, 109, 98, 101, 114], .str [108, 105, 115, 116]]), ([119, 111, 114, 100, 115], .tup [.str [116, 101, 120, 116], .str [110, 117, 109, 98, 101, 114]]), ([122, 105, 112, 95, 97, 100, 100], .tup [.str [108, 105, 115, 116], .str [108, 105, 115, 116], .str [108, 105, 115, 116]])]
def y_SIGNATURES : List (List Nat) := [[97, 98, 115], [97, 100, 100], [97, 100, 100, 95, 101, 97, 99, 104], [97, 112, 112, 101, 110, 100], [97, 116], [98, 111, 116, 104], [99, 104, 111, 111, 115, 101, 95, 108, 105, 115, 116], [99, 104, 111, 111, 115, 101, 95, 110, 117, 109, 98, 101, 114], [99, 104, 111, 111, 115, 101, 95, 116, 101, 120, 116], [99, 111, 110, 99, 97, 116], [99, 111, 110, 116, 97, 105, 110, 115], [99, 111, 117, 110, 116, 95, 111, 102], [100, 105, 115, 116, 105, 110, 99, 116], [100, 105, 118, 105, 100, 101], [100, 111, 117, 98, 108, 101], [100, 114, 111, 112], [101, 105, 116, 104, 101, 114], [101, 113, 117, 97, 108], [102, 105, 114, 115, 116], [103, 114, 101, 97, 116, 101, 115, 116], [104, 97, 108, 102], [105, 115, 95, 101, 109, 112, 116, 121], [105, 115, 95, 101, 118, 101, 110], [106, 111, 105, 110], [107, 101, 101, 112, 95, 97, 98, 111, 118, 101], [107, 101, 101, 112, 95, 101, 118, 101, 110], [108, 97, 115, 116], [108, 101, 97, 115, 116], [108, 101, 110, 103, 116, 104], [108, 101, 115, 115], [109, 97, 120], [109, 105, 110], [109, 111, 100], [109, 117, 108], [110, 101, 103], [110, 101, 103, 97, 116, 101], [110, 117, 109, 98, 101, 114, 95, 116, 101, 120, 116], [112, 114, 101, 112, 101, 110, 100], [112, 114, 111, 100, 117, 99, 116], [114, 101, 112, 101, 97, 116], [114, 101, 115, 116], [114, 101, 118, 101, 114, 115, 101], [114, 101, 118, 101, 114, 115, 101, 95, 116, 101, 120, 116], [114, 117, 110, 110, 105, 110, 103], [115, 97, 109, 101, 95, 108, 105, 115, 116], [115, 97, 109, 101, 95, 116, 101, 120, 116], [115, 105, 122, 101], [115, 107, 105, 112], [115, 111, 114, 116], [115, 116, 97, 114, 116], [115, 117, 98], [115, 117, 109], [116, 97, 107, 101], [116, 101, 120, 116, 95, 110, 117, 109, 98, 101, 114], [117, 112, 95, 116, 111], [119, 111, 114, 100, 115], [122, 105, 112, 95, 97, 100, 100]]

def N_distinct : List Str := ["numbers", "kept", "number"]
def l_distinct_1 : List S := [.ite (.cmp .notIn (.v 2) (.v 1))
    [.app 1 (.v 2)]
    []]
def b_distinct : List S := [.setN 1 (.lst []),
  .for (.n 2) (.it (.v 0)) l_distinct_1,
  .ret (.bi .tuple [.v 1])]
def f_distinct : CallF := ⟨"distinct", [false], false, runF 1000000 3 [false] false b_distinct⟩
theorem md_distinct : f_distinct.md = [false] := rfl

def N_product : List Str := ["numbers", "result", "number"]
def l_product_1 : List S := [.set 1 (.bin .mul (.v 1) (.v 2))]
def b_product : List S := [.set 1 (.c (.int 1)),
  .for (.n 2) (.it (.v 0)) l_product_1,
  .ret (.v 1)]
def f_product : CallF := ⟨"product", [false], false, runF 1000000 3 [false] false b_product⟩
theorem md_product : f_product.md = [false] := rfl

def N_running : List Str := ["numbers", "sums", "total", "number"]
def l_running_1 : List S := [.set 2 (.bin .add (.v 2) (.v 3)),
  .app 1 (.v 2)]
def b_running : List S := [.setN 1 (.lst []),
  .set 2 (.c (.int 0)),
  .for (.n 3) (.it (.v 0)) l_running_1,
  .ret (.bi .tuple [.v 1])]
def f_running : CallF := ⟨"running", [false], false, runF 1000000 4 [false] false b_running⟩
theorem md_running : f_running.md = [false] := rfl

def N_extreme : List Str := ["name", "numbers"]
def b_extreme : List S := [.ite (.cmp .eq (.bi .len [.v 1]) (.c (.int 0)))
    [.ret (.c (.non))]
    [],
  .ite (.cmp .eq (.v 0) (.c (.str [102, 105, 114, 115, 116])))
    [.ret (.ix (.v 1) (.c (.int 0)))]
    [],
  .ite (.cmp .eq (.v 0) (.c (.str [108, 97, 115, 116])))
    [.ret (.ix (.v 1) (.neg (.c (.int 1))))]
    [],
  .ite (.cmp .eq (.v 0) (.c (.str [103, 114, 101, 97, 116, 101, 115, 116])))
    [.ret (.bi .max1 [.v 1])]
    [],
  .ret (.bi .min1 [.v 1])]
def f_extreme : CallF := ⟨"extreme", [false, false], false, runF 1000000 2 [false, false] false b_extreme⟩
theorem md_extreme : f_extreme.md = [false, false] := rfl

def N_rest : List Str := ["numbers"]
def b_rest : List S := [.ite (.cmp .eq (.bi .len [.v 0]) (.c (.int 0)))
    [.ret (.c (.non))]
    [],
  .ret (.slLo (.v 0) (.c (.int 1)))]
def f_rest : CallF := ⟨"rest", [false], false, runF 1000000 1 [false] false b_rest⟩
theorem md_rest : f_rest.md = [false] := rfl

def N_item : List Str := ["numbers", "index"]
def b_item : List S := [.ite (.or [.cmp .lt (.v 1) (.c (.int 0)), .cmp .ge (.v 1) (.bi .len [.v 0])])
    [.ret (.c (.non))]
    [],
  .ret (.ix (.v 0) (.v 1))]
def f_item : CallF := ⟨"item", [false, false], false, runF 1000000 2 [false, false] false b_item⟩
theorem md_item : f_item.md = [false, false] := rfl

def N_apply_to_list : List Str := ["name", "numbers", "number"]
def e_apply_to_list_1 : List E := [.cmp .eq (.bin .mod (.bi .int [.v 2]) (.c (.int 2))) (.c (.int 0))]
def e_apply_to_list_2 : E := .v 2
def b_apply_to_list : List S := [.ite (.cmp .isIn (.v 0) (.tup [.c (.str [102, 105, 114, 115, 116]), .c (.str [108, 97, 115, 116]), .c (.str [103, 114, 101, 97, 116, 101, 115, 116]), .c (.str [108, 101, 97, 115, 116])]))
    [.ret (.call f_extreme [.v 0, .v 1])]
    [],
  .ite (.cmp .eq (.v 0) (.c (.str [100, 105, 115, 116, 105, 110, 99, 116])))
    [.ret (.call f_distinct [.v 1])]
    [],
  .ite (.cmp .eq (.v 0) (.c (.str [105, 115, 95, 101, 109, 112, 116, 121])))
    [.ret (.cmp .eq (.bi .len [.v 1]) (.c (.int 0)))]
    [],
  .ite (.cmp .eq (.v 0) (.c (.str [107, 101, 101, 112, 95, 101, 118, 101, 110])))
    [.ret (.bi .tuple [.lc (.n 2) [2] (.it (.v 1)) e_apply_to_list_1 e_apply_to_list_2])]
    [],
  .ite (.cmp .eq (.v 0) (.c (.str [112, 114, 111, 100, 117, 99, 116])))
    [.ret (.call f_product [.v 1])]
    [],
  .ite (.cmp .eq (.v 0) (.c (.str [114, 101, 115, 116])))
    [.ret (.call f_rest [.v 1])]
    [],
  .ite (.cmp .eq (.v 0) (.c (.str [114, 101, 118, 101, 114, 115, 101])))
    [.ret (.rev (.v 1))]
    [],
  .ite (.cmp .eq (.v 0) (.c (.str [114, 117, 110, 110, 105, 110, 103])))
    [.ret (.call f_running [.v 1])]
    [],
  .ite (.cmp .eq (.v 0) (.c (.str [115, 105, 122, 101])))
    [.ret (.bi .len [.v 1])]
    [],
  .ite (.cmp .eq (.v 0) (.c (.str [115, 111, 114, 116])))
    [.ret (.bi .tuple [.bi .sorted [.v 1]])]
    [],
  .ret (.bi .sum [.v 1])]
def f_apply_to_list : CallF := ⟨"apply_to_list", [false, false], false, runF 1000000 3 [false, false] false b_apply_to_list⟩
theorem md_apply_to_list : f_apply_to_list.md = [false, false] := rfl

def N_apply_to_list_and_number : List Str := ["name", "numbers", "number", "one"]
def e_apply_to_list_and_number_1 : E := .bin .add (.v 3) (.v 2)
def e_apply_to_list_and_number_2 : List E := [.cmp .eq (.v 3) (.v 2)]
def e_apply_to_list_and_number_3 : E := .v 3
def e_apply_to_list_and_number_4 : List E := [.cmp .gt (.v 3) (.v 2)]
def e_apply_to_list_and_number_5 : E := .v 3
def b_apply_to_list_and_number : List S := [.ite (.cmp .eq (.v 0) (.c (.str [97, 100, 100, 95, 101, 97, 99, 104])))
    [.ret (.bi .tuple [.lc (.n 3) [3] (.it (.v 1)) [] e_apply_to_list_and_number_1])]
    [],
  .ite (.cmp .eq (.v 0) (.c (.str [97, 112, 112, 101, 110, 100])))
    [.ret (.bin .add (.v 1) (.tup [.v 2]))]
    [],
  .ite (.cmp .eq (.v 0) (.c (.str [97, 116])))
    [.ret (.call f_item [.v 1, .v 2])]
    [],
  .ite (.cmp .eq (.v 0) (.c (.str [99, 111, 117, 110, 116, 95, 111, 102])))
    [.ret (.bi .len [.lc (.n 3) [3] (.it (.v 1)) e_apply_to_list_and_number_2 e_apply_to_list_and_number_3])]
    [],
  .ite (.cmp .eq (.v 0) (.c (.str [100, 114, 111, 112])))
    [.ret (.slLo (.v 1) (.bi .max2 [.c (.int 0), .v 2]))]
    [],
  .ite (.cmp .eq (.v 0) (.c (.str [107, 101, 101, 112, 95, 97, 98, 111, 118, 101])))
    [.ret (.bi .tuple [.lc (.n 3) [3] (.it (.v 1)) e_apply_to_list_and_number_4 e_apply_to_list_and_number_5])]
    [],
  .ret (.slHi (.v 1) (.bi .max2 [.c (.int 0), .v 2]))]
def f_apply_to_list_and_number : CallF := ⟨"apply_to_list_and_number", [false, false, false], false, runF 1000000 4 [false, false, false] false b_apply_to_list_and_number⟩
theorem md_apply_to_list_and_number : f_apply_to_list_and_number.md = [false, false, false] := rfl

def N_apply_to_lists : List Str := ["name", "first", "second", "k"]
def e_apply_to_lists_1 : E := .bin .add (.ix (.v 1) (.v 3)) (.ix (.v 2) (.v 3))
def b_apply_to_lists : List S := [.ite (.cmp .eq (.v 0) (.c (.str [106, 111, 105, 110])))
    [.ret (.bin .add (.v 1) (.v 2))]
    [],
  .ite (.cmp .eq (.v 0) (.c (.str [115, 97, 109, 101, 95, 108, 105, 115, 116])))
    [.ret (.cmp .eq (.v 1) (.v 2))]
    [],
  .ret (.bi .tuple [.lc (.n 3) [3] (.r1 (.bi .min2 [.bi .len [.v 1], .bi .len [.v 2]])) [] e_apply_to_lists_1])]
def f_apply_to_lists : CallF := ⟨"apply_to_lists", [false, false, false], false, runF 1000000 4 [false, false, false] false b_apply_to_lists⟩
theorem md_apply_to_lists : f_apply_to_lists.md = [false, false, false] := rfl

def N_floor_quotient : List Str := ["first", "second"]
def b_floor_quotient : List S := [.ite (.cmp .eq (.v 1) (.c (.int 0)))
    [.ret (.c (.non))]
    [],
  .ret (.bin .fdiv (.v 0) (.v 1))]
def f_floor_quotient : CallF := ⟨"floor_quotient", [false, false], false, runF 1000000 2 [false, false] false b_floor_quotient⟩
theorem md_floor_quotient : f_floor_quotient.md = [false, false] := rfl

def N_remainder : List Str := ["first", "second"]
def b_remainder : List S := [.ite (.cmp .eq (.v 1) (.c (.int 0)))
    [.ret (.c (.non))]
    [],
  .ret (.bin .sub (.v 0) (.bin .mul (.v 1) (.bin .fdiv (.v 0) (.v 1))))]
def f_remainder : CallF := ⟨"remainder", [false, false], false, runF 1000000 2 [false, false] false b_remainder⟩
theorem md_remainder : f_remainder.md = [false, false] := rfl

def N_digits_of : List Str := ["number"]
def b_digits_of : List S := [.ite (.cmp .lt (.v 0) (.c (.int 0)))
    [.ret (.c (.non))]
    [],
  .ret (.bi .str [.v 0])]
def f_digits_of : CallF := ⟨"digits_of", [false], false, runF 1000000 1 [false] false b_digits_of⟩
theorem md_digits_of : f_digits_of.md = [false] := rfl

def N_numbers_up_to : List Str := ["number", "k"]
def e_numbers_up_to_1 : E := .bin .add (.v 1) (.c (.int 1))
def b_numbers_up_to : List S := [.ite (.cmp .gt (.v 0) (.c (.int 12)))
    [.ret (.c (.non))]
    [],
  .ret (.bi .tuple [.lc (.n 1) [1] (.r1 (.bi .max2 [.c (.int 0), .v 0])) [] e_numbers_up_to_1])]
def f_numbers_up_to : CallF := ⟨"numbers_up_to", [false], false, runF 1000000 2 [false] false b_numbers_up_to⟩
theorem md_numbers_up_to : f_numbers_up_to.md = [false] := rfl

def N_apply_to_number : List Str := ["name", "number"]
def b_apply_to_number : List S := [.ite (.cmp .eq (.v 0) (.c (.str [97, 98, 115])))
    [.ret (.bi .abs [.v 1])]
    [],
  .ite (.cmp .eq (.v 0) (.c (.str [100, 111, 117, 98, 108, 101])))
    [.ret (.bin .mul (.c (.int 2)) (.v 1))]
    [],
  .ite (.cmp .eq (.v 0) (.c (.str [104, 97, 108, 102])))
    [.ret (.bin .fdiv (.v 1) (.c (.int 2)))]
    [],
  .ite (.cmp .eq (.v 0) (.c (.str [105, 115, 95, 101, 118, 101, 110])))
    [.ret (.cmp .eq (.bin .mod (.bi .int [.v 1]) (.c (.int 2))) (.c (.int 0)))]
    [],
  .ite (.cmp .eq (.v 0) (.c (.str [110, 101, 103])))
    [.ret (.neg (.v 1))]
    [],
  .ite (.cmp .eq (.v 0) (.c (.str [110, 117, 109, 98, 101, 114, 95, 116, 101, 120, 116])))
    [.ret (.call f_digits_of [.v 1])]
    [],
  .ret (.call f_numbers_up_to [.v 1])]
def f_apply_to_number : CallF := ⟨"apply_to_number", [false, false], false, runF 1000000 2 [false, false] false b_apply_to_number⟩
theorem md_apply_to_number : f_apply_to_number.md = [false, false] := rfl

def N_apply_to_numbers : List Str := ["name", "first", "second"]
def b_apply_to_numbers : List S := [.ite (.cmp .eq (.v 0) (.c (.str [97, 100, 100])))
    [.ret (.bin .add (.v 1) (.v 2))]
    [],
  .ite (.cmp .eq (.v 0) (.c (.str [100, 105, 118, 105, 100, 101])))
    [.ret (.call f_floor_quotient [.v 1, .v 2])]
    [],
  .ite (.cmp .eq (.v 0) (.c (.str [101, 113, 117, 97, 108])))
    [.ret (.cmp .eq (.v 1) (.v 2))]
    [],
  .ite (.cmp .eq (.v 0) (.c (.str [108, 101, 115, 115])))
    [.ret (.cmp .lt (.v 1) (.v 2))]
    [],
  .ite (.cmp .eq (.v 0) (.c (.str [109, 97, 120])))
    [.ret (.bi .max2 [.v 1, .v 2])]
    [],
  .ite (.cmp .eq (.v 0) (.c (.str [109, 105, 110])))
    [.ret (.bi .min2 [.v 1, .v 2])]
    [],
  .ite (.cmp .eq (.v 0) (.c (.str [109, 111, 100])))
    [.ret (.call f_remainder [.v 1, .v 2])]
    [],
  .ite (.cmp .eq (.v 0) (.c (.str [109, 117, 108])))
    [.ret (.bin .mul (.v 1) (.v 2))]
    [],
  .ret (.bin .sub (.v 1) (.v 2))]
def f_apply_to_numbers : CallF := ⟨"apply_to_numbers", [false, false, false], false, runF 1000000 3 [false, false, false] false b_apply_to_numbers⟩
theorem md_apply_to_numbers : f_apply_to_numbers.md = [false, false, false] := rfl

def N_apply_to_truths : List Str := ["name", "given"]
def b_apply_to_truths : List S := [.ite (.cmp .eq (.v 0) (.c (.str [98, 111, 116, 104])))
    [.ret (.and [.ix (.v 1) (.c (.int 0)), .ix (.v 1) (.c (.int 1))])]
    [],
  .ite (.cmp .eq (.v 0) (.c (.str [101, 105, 116, 104, 101, 114])))
    [.ret (.or [.ix (.v 1) (.c (.int 0)), .ix (.v 1) (.c (.int 1))])]
    [],
  .ret (.not (.ix (.v 1) (.c (.int 0))))]
def f_apply_to_truths : CallF := ⟨"apply_to_truths", [false, false], false, runF 1000000 2 [false, false] false b_apply_to_truths⟩
theorem md_apply_to_truths : f_apply_to_truths.md = [false, false] := rfl

def N_is_number : List Str := ["value"]
def b_is_number : List S := [.ret (.and [.isi [.int] (.v 0), .not (.isi [.bool] (.v 0)), .chn .le .le (.neg (.g "NUMBER_LIMIT" g_NUMBER_LIMIT)) (.v 0) (.g "NUMBER_LIMIT" g_NUMBER_LIMIT)])]
def f_is_number : CallF := ⟨"is_number", [false], false, runF 1000000 1 [false] false b_is_number⟩
theorem md_is_number : f_is_number.md = [false] := rfl

def N_is_text : List Str := ["value", "char"]
def e_is_text_1 : E := .cmp .isIn (.v 1) (.g "TEXT_CHARACTERS" g_TEXT_CHARACTERS)
def b_is_text : List S := [.ite (.or [.not (.isi [.str] (.v 0)), .cmp .gt (.bi .len [.v 0]) (.g "TEXT_LIMIT" g_TEXT_LIMIT)])
    [.ret (.c (.bl false))]
    [],
  .ret (.bi .all [.lc (.n 1) [1] (.it (.v 0)) [] e_is_text_1])]
def f_is_text : CallF := ⟨"is_text", [false], false, runF 1000000 2 [false] false b_is_text⟩
theorem md_is_text : f_is_text.md = [false] := rfl

def N_is_list : List Str := ["value", "one"]
def e_is_list_1 : E := .call f_is_number [.v 1]
def b_is_list : List S := [.ret (.and [.isi [.tup] (.v 0), .cmp .le (.bi .len [.v 0]) (.g "LIST_LIMIT" g_LIST_LIMIT), .bi .all [.lc (.n 1) [1] (.it (.v 0)) [] e_is_list_1]])]
def f_is_list : CallF := ⟨"is_list", [false], false, runF 1000000 2 [false] false b_is_list⟩
theorem md_is_list : f_is_list.md = [false] := rfl

def N_is_value : List Str := ["kind", "value"]
def b_is_value : List S := [.ite (.cmp .eq (.v 0) (.c (.str [110, 117, 109, 98, 101, 114])))
    [.ret (.call f_is_number [.v 1])]
    [],
  .ite (.cmp .eq (.v 0) (.c (.str [116, 114, 117, 116, 104])))
    [.ret (.isi [.bool] (.v 1))]
    [],
  .ite (.cmp .eq (.v 0) (.c (.str [116, 101, 120, 116])))
    [.ret (.call f_is_text [.v 1])]
    [],
  .ret (.call f_is_list [.v 1])]
def f_is_value : CallF := ⟨"is_value", [false, false], false, runF 1000000 2 [false, false] false b_is_value⟩
theorem md_is_value : f_is_value.md = [false, false] := rfl

def N_copies : List Str := ["text", "count"]
def b_copies : List S := [.ite (.or [.cmp .lt (.v 1) (.c (.int 0)), .cmp .gt (.bin .mul (.bi .len [.v 0]) (.v 1)) (.g "TEXT_LIMIT" g_TEXT_LIMIT)])
    [.ret (.c (.non))]
    [],
  .ite (.cmp .eq (.v 0) (.c (.str [])))
    [.ret (.c (.str []))]
    [],
  .ret (.bin .mul (.v 0) (.v 1))]
def f_copies : CallF := ⟨"copies", [false, false], false, runF 1000000 2 [false, false] false b_copies⟩
theorem md_copies : f_copies.md = [false, false] := rfl

def N_number_of : List Str := ["text", "char"]
def e_number_of_1 : E := .cmp .isIn (.v 1) (.g "DIGITS" g_DIGITS)
def b_number_of : List S := [.ite (.or [.cmp .eq (.v 0) (.c (.str [])), .not (.bi .all [.lc (.n 1) [1] (.it (.v 0)) [] e_number_of_1]), .and [.cmp .eq (.ix (.v 0) (.c (.int 0))) (.c (.str [48])), .cmp .ne (.v 0) (.c (.str [48]))]])
    [.ret (.c (.non))]
    [],
  .ret (.bi .int [.v 0])]
def f_number_of : CallF := ⟨"number_of", [false], false, runF 1000000 2 [false] false b_number_of⟩
theorem md_number_of : f_number_of.md = [false] := rfl

def N_apply_to_text : List Str := ["name", "text", "word"]
def e_apply_to_text_1 : List E := [.cmp .ne (.v 2) (.c (.str []))]
def e_apply_to_text_2 : E := .v 2
def b_apply_to_text : List S := [.ite (.cmp .eq (.v 0) (.c (.str [108, 101, 110, 103, 116, 104])))
    [.ret (.bi .len [.v 1])]
    [],
  .ite (.cmp .eq (.v 0) (.c (.str [114, 101, 118, 101, 114, 115, 101, 95, 116, 101, 120, 116])))
    [.ret (.rev (.v 1))]
    [],
  .ite (.cmp .eq (.v 0) (.c (.str [116, 101, 120, 116, 95, 110, 117, 109, 98, 101, 114])))
    [.ret (.call f_number_of [.v 1])]
    [],
  .ret (.bi .len [.lc (.n 2) [2] (.it (.me .split (.v 1) [.c (.str [32])])) e_apply_to_text_1 e_apply_to_text_2])]
def f_apply_to_text : CallF := ⟨"apply_to_text", [false, false], false, runF 1000000 3 [false, false] false b_apply_to_text⟩
theorem md_apply_to_text : f_apply_to_text.md = [false, false] := rfl

def N_apply_to_text_and_number : List Str := ["name", "text", "number"]
def b_apply_to_text_and_number : List S := [.ite (.cmp .eq (.v 0) (.c (.str [114, 101, 112, 101, 97, 116])))
    [.ret (.call f_copies [.v 1, .v 2])]
    [],
  .ite (.cmp .eq (.v 0) (.c (.str [115, 107, 105, 112])))
    [.ret (.slLo (.v 1) (.bi .max2 [.c (.int 0), .v 2]))]
    [],
  .ret (.slHi (.v 1) (.bi .max2 [.c (.int 0), .v 2]))]
def f_apply_to_text_and_number : CallF := ⟨"apply_to_text_and_number", [false, false, false], false, runF 1000000 3 [false, false, false] false b_apply_to_text_and_number⟩
theorem md_apply_to_text_and_number : f_apply_to_text_and_number.md = [false, false, false] := rfl

def N_apply_to_texts : List Str := ["name", "first", "second"]
def b_apply_to_texts : List S := [.ite (.cmp .eq (.v 0) (.c (.str [99, 111, 110, 99, 97, 116])))
    [.ret (.bin .add (.v 1) (.v 2))]
    [],
  .ite (.cmp .eq (.v 0) (.c (.str [99, 111, 110, 116, 97, 105, 110, 115])))
    [.ret (.cmp .isIn (.v 2) (.v 1))]
    [],
  .ret (.cmp .eq (.v 1) (.v 2))]
def f_apply_to_texts : CallF := ⟨"apply_to_texts", [false, false, false], false, runF 1000000 3 [false, false, false] false b_apply_to_texts⟩
theorem md_apply_to_texts : f_apply_to_texts.md = [false, false, false] := rfl

def N_signature : List Str := ["name"]
def b_signature : List S := [.ite (.gin true "SIGNATURES" t_SIGNATURES (.v 0))
    [.raise 0 "NotFound" (.v 0)]
    [],
  .ret (.gix "SIGNATURES" t_SIGNATURES (.v 0))]
def f_signature : CallF := ⟨"signature", [false], false, runF 1000000 1 [false] false b_signature⟩
theorem md_signature : f_signature.md = [false] := rfl

def N_argument_kinds : List Str := ["name"]
def b_argument_kinds : List S := [.ret (.bi .list [.slHi (.call f_signature [.v 0]) (.neg (.c (.int 1)))])]
def f_argument_kinds : CallF := ⟨"argument_kinds", [false], false, runF 1000000 1 [false] false b_argument_kinds⟩
theorem md_argument_kinds : f_argument_kinds.md = [false] := rfl

def N_choose : List Str := ["given"]
def b_choose : List S := [.ite (.cmp .is (.ix (.v 0) (.c (.int 0))) (.c (.non)))
    [.ret (.c (.non))]
    [],
  .ite (.ix (.v 0) (.c (.int 0)))
    [.ret (.ix (.v 0) (.c (.int 1)))]
    [],
  .ret (.ix (.v 0) (.c (.int 2)))]
def f_choose : CallF := ⟨"choose", [false], false, runF 1000000 1 [false] false b_choose⟩
theorem md_choose : f_choose.md = [false] := rfl

def N_described : List Str := ["name", "kinds", "given"]
def b_described : List S := [.ite (.cmp .eq (.ix (.v 1) (.c (.int 0))) (.c (.str [116, 114, 117, 116, 104])))
    [.ret (.call f_apply_to_truths [.v 0, .v 2])]
    [],
  .ite (.cmp .eq (.bi .len [.v 1]) (.c (.int 1)))
    [.ite (.cmp .eq (.ix (.v 1) (.c (.int 0))) (.c (.str [110, 117, 109, 98, 101, 114])))
        [.ret (.call f_apply_to_number [.v 0, .ix (.v 2) (.c (.int 0))])]
        [],
      .ite (.cmp .eq (.ix (.v 1) (.c (.int 0))) (.c (.str [116, 101, 120, 116])))
        [.ret (.call f_apply_to_text [.v 0, .ix (.v 2) (.c (.int 0))])]
        [],
      .ret (.call f_apply_to_list [.v 0, .ix (.v 2) (.c (.int 0))])]
    [],
  .ite (.cmp .eq (.v 0) (.c (.str [112, 114, 101, 112, 101, 110, 100])))
    [.ret (.bin .add (.tup [.ix (.v 2) (.c (.int 0))]) (.ix (.v 2) (.c (.int 1))))]
    [],
  .ite (.cmp .eq (.ix (.v 1) (.c (.int 0))) (.c (.str [110, 117, 109, 98, 101, 114])))
    [.ret (.call f_apply_to_numbers [.v 0, .ix (.v 2) (.c (.int 0)), .ix (.v 2) (.c (.int 1))])]
    [],
  .ite (.and [.cmp .eq (.ix (.v 1) (.c (.int 0))) (.c (.str [116, 101, 120, 116])), .cmp .eq (.ix (.v 1) (.c (.int 1))) (.c (.str [116, 101, 120, 116]))])
    [.ret (.call f_apply_to_texts [.v 0, .ix (.v 2) (.c (.int 0)), .ix (.v 2) (.c (.int 1))])]
    [],
  .ite (.cmp .eq (.ix (.v 1) (.c (.int 0))) (.c (.str [116, 101, 120, 116])))
    [.ret (.call f_apply_to_text_and_number [.v 0, .ix (.v 2) (.c (.int 0)), .ix (.v 2) (.c (.int 1))])]
    [],
  .ite (.cmp .eq (.ix (.v 1) (.c (.int 1))) (.c (.str [108, 105, 115, 116])))
    [.ret (.call f_apply_to_lists [.v 0, .ix (.v 2) (.c (.int 0)), .ix (.v 2) (.c (.int 1))])]
    [],
  .ret (.call f_apply_to_list_and_number [.v 0, .ix (.v 2) (.c (.int 0)), .ix (.v 2) (.c (.int 1))])]
def f_described : CallF := ⟨"described", [false, false, false], false, runF 1000000 3 [false, false, false] false b_described⟩
theorem md_described : f_described.md = [false, false, false] := rfl

def N_apply : List Str := ["name", "outcomes", "kinds", "given", "result", "one"]
def e_apply_1 : E := .cmp .is (.v 5) (.c (.non))
def b_apply : List S := [.set 2 (.call f_signature [.v 0]),
  .set 3 (.bi .list [.v 1]),
  .ite (.cmp .eq (.bi .len [.v 3]) (.c (.int 3)))
    [.ret (.call f_choose [.v 3])]
    [],
  .ite (.bi .any [.lc (.n 5) [5] (.it (.v 3)) [] e_apply_1])
    [.ret (.c (.non))]
    [],
  .set 4 (.call f_described [.v 0, .slHi (.v 2) (.neg (.c (.int 1))), .v 3]),
  .ite (.not (.call f_is_value [.ix (.v 2) (.neg (.c (.int 1))), .v 4]))
    [.ret (.c (.non))]
    [],
  .ret (.v 4)]
def f_apply : CallF := ⟨"apply", [false, false], false, runF 1000000 6 [false, false] false b_apply⟩
theorem md_apply : f_apply.md = [false, false] := rfl

def N_placed : List Str := ["others", "index", "value"]
def b_placed : List S := [.ret (.bin .add (.bin .add (.bi .list [.slHi (.v 0) (.v 1)]) (.lst [.v 2])) (.bi .list [.slLo (.v 0) (.v 1)]))]
def f_placed : CallF := ⟨"placed", [false, false, false], false, runF 1000000 3 [false, false, false] false b_placed⟩
theorem md_placed : f_placed.md = [false, false, false] := rfl

def N_differences : List Str := ["numbers", "result", "before", "number"]
def l_differences_1 : List S := [.app 1 (.bin .sub (.v 3) (.v 2)),
  .set 2 (.v 3)]
def b_differences : List S := [.setN 1 (.lst []),
  .set 2 (.c (.int 0)),
  .for (.n 3) (.it (.v 0)) l_differences_1,
  .ret (.bi .tuple [.v 1])]
def f_differences : CallF := ⟨"differences", [false], false, runF 1000000 4 [false] false b_differences⟩
theorem md_differences : f_differences.md = [false] := rfl

def N_sequence_guess : List Str := ["name", "index", "others", "result"]
def b_sequence_guess : List S := [.ite (.cmp .eq (.v 0) (.c (.str [97, 112, 112, 101, 110, 100])))
    [.ite (.cmp .eq (.bi .len [.v 3]) (.c (.int 0)))
        [.ret (.c (.non))]
        [],
      .ret (.ite (.cmp .eq (.v 1) (.c (.int 0))) (.slHi (.v 3) (.neg (.c (.int 1)))) (.ix (.v 3) (.neg (.c (.int 1)))))]
    [],
  .ite (.cmp .eq (.v 0) (.c (.str [112, 114, 101, 112, 101, 110, 100])))
    [.ite (.cmp .eq (.bi .len [.v 3]) (.c (.int 0)))
        [.ret (.c (.non))]
        [],
      .ret (.ite (.cmp .eq (.v 1) (.c (.int 0))) (.ix (.v 3) (.c (.int 0))) (.slLo (.v 3) (.c (.int 1))))]
    [],
  .ite (.cmp .gt (.bi .len [.ix (.v 2) (.c (.int 0))]) (.bi .len [.v 3]))
    [.ret (.c (.non))]
    [],
  .ite (.cmp .eq (.v 1) (.c (.int 0)))
    [.ret (.slHi (.v 3) (.bin .sub (.bi .len [.v 3]) (.bi .len [.ix (.v 2) (.c (.int 0))])))]
    [],
  .ret (.slLo (.v 3) (.bi .len [.ix (.v 2) (.c (.int 0))]))]
def f_sequence_guess : CallF := ⟨"sequence_guess", [false, false, false, false], false, runF 1000000 4 [false, false, false, false] false b_sequence_guess⟩
theorem md_sequence_guess : f_sequence_guess.md = [false, false, false, false] := rfl

def N_number_guess : List Str := ["name", "index", "others", "result"]
def b_number_guess : List S := [.ite (.cmp .eq (.v 0) (.c (.str [110, 101, 103])))
    [.ret (.neg (.v 3))]
    [],
  .ite (.cmp .eq (.v 0) (.c (.str [100, 111, 117, 98, 108, 101])))
    [.ret (.bin .fdiv (.v 3) (.c (.int 2)))]
    [],
  .ite (.cmp .eq (.v 0) (.c (.str [97, 100, 100])))
    [.ret (.bin .sub (.v 3) (.ix (.v 2) (.c (.int 0))))]
    [],
  .ite (.cmp .eq (.v 1) (.c (.int 0)))
    [.ret (.bin .add (.v 3) (.ix (.v 2) (.c (.int 0))))]
    [],
  .ret (.bin .sub (.ix (.v 2) (.c (.int 0))) (.v 3))]
def f_number_guess : CallF := ⟨"number_guess", [false, false, false, false], false, runF 1000000 4 [false, false, false, false] false b_number_guess⟩
theorem md_number_guess : f_number_guess.md = [false, false, false, false] := rfl

def N_single_guess : List Str := ["name", "others", "result", "number"]
def e_single_guess_1 : E := .bin .sub (.v 3) (.ix (.v 1) (.c (.int 0)))
def b_single_guess : List S := [.ite (.cmp .eq (.v 0) (.c (.str [114, 117, 110, 110, 105, 110, 103])))
    [.ret (.call f_differences [.v 2])]
    [],
  .ite (.cmp .eq (.v 0) (.c (.str [97, 100, 100, 95, 101, 97, 99, 104])))
    [.ret (.bi .tuple [.lc (.n 3) [3] (.it (.v 2)) [] e_single_guess_1])]
    [],
  .ite (.cmp .eq (.v 0) (.c (.str [110, 117, 109, 98, 101, 114, 95, 116, 101, 120, 116])))
    [.ret (.call f_apply [.c (.str [116, 101, 120, 116, 95, 110, 117, 109, 98, 101, 114]), .lst [.v 2]])]
    [],
  .ite (.cmp .eq (.v 0) (.c (.str [116, 101, 120, 116, 95, 110, 117, 109, 98, 101, 114])))
    [.ret (.call f_apply [.c (.str [110, 117, 109, 98, 101, 114, 95, 116, 101, 120, 116]), .lst [.v 2]])]
    [],
  .ret (.rev (.v 2))]
def f_single_guess : CallF := ⟨"single_guess", [false, false, false], false, runF 1000000 4 [false, false, false] false b_single_guess⟩
theorem md_single_guess : f_single_guess.md = [false, false, false] := rfl

def N_guess : List Str := ["name", "index", "others", "result"]
def b_guess : List S := [.ite (.cmp .isIn (.v 0) (.tup [.c (.str [97, 100, 100]), .c (.str [115, 117, 98]), .c (.str [110, 101, 103]), .c (.str [100, 111, 117, 98, 108, 101])]))
    [.ret (.lst [.call f_number_guess [.v 0, .v 1, .v 2, .v 3]])]
    [],
  .ite (.cmp .isIn (.v 0) (.tup [.c (.str [99, 111, 110, 99, 97, 116]), .c (.str [106, 111, 105, 110]), .c (.str [97, 112, 112, 101, 110, 100]), .c (.str [112, 114, 101, 112, 101, 110, 100])]))
    [.ret (.lst [.call f_sequence_guess [.v 0, .v 1, .v 2, .v 3]])]
    [],
  .ite (.cmp .isIn (.v 0) (.tup [.c (.str [114, 101, 118, 101, 114, 115, 101]), .c (.str [114, 101, 118, 101, 114, 115, 101, 95, 116, 101, 120, 116]), .c (.str [114, 117, 110, 110, 105, 110, 103]), .c (.str [110, 117, 109, 98, 101, 114, 95, 116, 101, 120, 116]), .c (.str [116, 101, 120, 116, 95, 110, 117, 109, 98, 101, 114])]))
    [.ret (.lst [.call f_single_guess [.v 0, .v 2, .v 3]])]
    [],
  .ite (.and [.cmp .eq (.v 0) (.c (.str [97, 100, 100, 95, 101, 97, 99, 104])), .cmp .eq (.v 1) (.c (.int 0))])
    [.ret (.lst [.call f_single_guess [.v 0, .v 2, .v 3]])]
    [],
  .ret (.c (.non))]
def f_guess : CallF := ⟨"guess", [false, false, false, false], false, runF 1000000 4 [false, false, false, false] false b_guess⟩
theorem md_guess : f_guess.md = [false, false, false, false] := rfl

def N_solutions : List Str := ["name", "index", "others", "result", "kind", "found", "values", "value"]
def e_solutions_1 : List E := [.and [.cmp .isNot (.v 7) (.c (.non)), .call f_is_value [.v 4, .v 7]]]
def e_solutions_2 : E := .v 7
def e_solutions_3 : List E := [.cmp .eq (.call f_apply [.v 0, .call f_placed [.v 2, .v 1, .v 7]]) (.v 3)]
def e_solutions_4 : E := .v 7
def b_solutions : List S := [.set 4 (.ix (.call f_argument_kinds [.v 0]) (.v 1)),
  .set 5 (.lst [.c (.bl false), .c (.bl true)]),
  .ite (.cmp .ne (.v 4) (.c (.str [116, 114, 117, 116, 104])))
    [.set 5 (.call f_guess [.v 0, .v 1, .v 2, .v 3])]
    [],
  .ite (.cmp .is (.v 5) (.c (.non)))
    [.ret (.c (.non))]
    [],
  .set 6 (.lc (.n 7) [7] (.it (.v 5)) e_solutions_1 e_solutions_2),
  .ret (.lc (.n 7) [7] (.it (.v 6)) e_solutions_3 e_solutions_4)]
def f_solutions : CallF := ⟨"solutions", [false, false, false, false], false, runF 1000000 8 [false, false, false, false] false b_solutions⟩
theorem md_solutions : f_solutions.md = [false, false, false, false] := rfl

def N__law_mix : List Str := ["_law_cell", "_law_number_here"]
def b__law_mix : List S := [.set 1 (.bin .mod (.bi .int [.v 0]) (.c (.int 2147483647))),
  .set 1 (.bin .mod (.bi .int [.bin .add (.bin .mul (.v 1) (.c (.int 48271))) (.c (.int 11))]) (.c (.int 2147483647))),
  .ret (.bin .mod (.bi .int [.bin .add (.bin .mul (.v 1) (.c (.int 69621))) (.c (.int 5))]) (.c (.int 2147483629)))]
def f__law_mix : CallF := ⟨"_law_mix", [false], false, runF 1000000 2 [false] false b__law_mix⟩
theorem md__law_mix : f__law_mix.md = [false] := rfl

def N__law_number : List Str := ["_law_cell", "_law_first"]
def b__law_number : List S := [.ite (.cmp .ge (.v 0) (.bin .pow (.c (.int 10)) (.c (.int 18))))
    [.ret (.v 0)]
    [],
  .set 1 (.call f__law_mix [.v 0]),
  .ret (.bin .add (.bin .mul (.v 1) (.c (.int 2147483629))) (.call f__law_mix [.bin .add (.v 1) (.v 0)]))]
def f__law_number : CallF := ⟨"_law_number", [false], false, runF 1000000 2 [false] false b__law_number⟩
theorem md__law_number : f__law_number.md = [false] := rfl

def N__law_state : List Str := ["_law_script"]
def b__law_state : List S := [.retF (.lst [.c (.int 0), .bi .list [.v 0], .c (.int 0), .bin .add (.c (.int 1)) (.bi .len [.v 0])])]
def f__law_state : CallF := ⟨"_law_state", [false], true, runF 1000000 1 [false] true b__law_state⟩
theorem md__law_state : f__law_state.md = [false] := rfl

def N__law_draw : List Str := ["_law_state_here", "_law_many", "_law_value"]
def b__law_draw : List S := [.ite (.and [.cmp .lt (.ix (.v 0) (.c (.int 0))) (.v 1), .cmp .lt (.ix (.v 0) (.c (.int 2))) (.bi .len [.ix (.v 0) (.c (.int 1))])])
    [.put 0 (.c (.int 0)) (.call f__law_number [.ix (.ix (.v 0) (.c (.int 1))) (.ix (.v 0) (.c (.int 2)))]),
      .put 0 (.c (.int 2)) (.bin .add (.ix (.v 0) (.c (.int 2))) (.c (.int 1)))]
    [],
  .ite (.cmp .eq (.ix (.v 0) (.c (.int 0))) (.c (.int 0)))
    [.put 0 (.c (.int 3)) (.bin .mod (.bi .int [.bin .add (.bin .mul (.ix (.v 0) (.c (.int 3))) (.c (.int 48271))) (.c (.int 7))]) (.c (.int 2147483647))),
      .ret (.bin .mod (.bi .int [.bin .fdiv (.ix (.v 0) (.c (.int 3))) (.c (.int 11))]) (.v 1))]
    [],
  .set 2 (.bin .mod (.bi .int [.ix (.v 0) (.c (.int 0))]) (.v 1)),
  .put 0 (.c (.int 0)) (.bin .fdiv (.ix (.v 0) (.c (.int 0))) (.v 1)),
  .ret (.v 2)]
def f__law_draw : CallF := ⟨"_law_draw", [true, false], false, runF 1000000 3 [true, false] false b__law_draw⟩
theorem md__law_draw : f__law_draw.md = [true, false] := rfl

def N__law_clip : List Str := ["_law_value"]
def b__law_clip : List S := [.ite (.or [.isi [.bool] (.v 0), .cmp .is (.v 0) (.c (.non))])
    [.ret (.v 0)]
    [],
  .ite (.isi [.int] (.v 0))
    [.ret (.ite (.chn .le .le (.neg (.c (.int 1000000))) (.v 0) (.c (.int 1000000))) (.v 0) (.c (.non)))]
    [],
  .ite (.isi [.str] (.v 0))
    [.ret (.ite (.cmp .le (.bi .len [.v 0]) (.c (.int 30))) (.v 0) (.c (.non)))]
    [],
  .ret (.ite (.cmp .le (.bi .len [.v 0]) (.c (.int 12))) (.v 0) (.c (.non)))]
def f__law_clip : CallF := ⟨"_law_clip", [false], false, runF 1000000 1 [false] false b__law_clip⟩
theorem md__law_clip : f__law_clip.md = [false] := rfl

def N__law_kind : List Str := ["_law_value"]
def b__law_kind : List S := [.ite (.isi [.bool] (.v 0))
    [.ret (.c (.str [116, 114, 117, 116, 104]))]
    [],
  .ite (.isi [.int] (.v 0))
    [.ret (.c (.str [110, 117, 109, 98, 101, 114]))]
    [],
  .ite (.isi [.str] (.v 0))
    [.ret (.c (.str [116, 101, 120, 116]))]
    [],
  .ret (.c (.str [108, 105, 115, 116]))]
def f__law_kind : CallF := ⟨"_law_kind", [false], false, runF 1000000 1 [false] false b__law_kind⟩
theorem md__law_kind : f__law_kind.md = [false] := rfl

def N__law_same : List Str := ["_law_first", "_law_second"]
def b__law_same : List S := [.ite (.or [.cmp .is (.v 0) (.c (.non)), .cmp .is (.v 1) (.c (.non))])
    [.ret (.and [.cmp .is (.v 0) (.c (.non)), .cmp .is (.v 1) (.c (.non))])]
    [],
  .ret (.and [.cmp .eq (.call f__law_kind [.v 0]) (.call f__law_kind [.v 1]), .cmp .eq (.v 0) (.v 1)])]
def f__law_same : CallF := ⟨"_law_same", [false, false], false, runF 1000000 2 [false, false] false b__law_same⟩
theorem md__law_same : f__law_same.md = [false, false] := rfl

def N__law_digits : List Str := ["_law_text", "_law_char"]
def l__law_digits_1 : List S := [.ite (.cmp .notIn (.v 1) (.c (.str [48, 49, 50, 51, 52, 53, 54, 55, 56, 57])))
    [.ret (.c (.non))]
    []]
def b__law_digits : List S := [.ite (.or [.cmp .eq (.v 0) (.c (.str [])), .and [.cmp .eq (.ix (.v 0) (.c (.int 0))) (.c (.str [48])), .cmp .ne (.v 0) (.c (.str [48]))]])
    [.ret (.c (.non))]
    [],
  .for (.n 1) (.it (.v 0)) l__law_digits_1,
  .ret (.ite (.and [.cmp .lt (.bi .len [.v 0]) (.c (.int 8)), .cmp .le (.bi .int [.v 0]) (.c (.int 1000000))]) (.bi .int [.v 0]) (.c (.non)))]
def f__law_digits : CallF := ⟨"_law_digits", [false], false, runF 1000000 2 [false] false b__law_digits⟩
theorem md__law_digits : f__law_digits.md = [false] := rfl

def N__law_applied : List Str := ["_law_name", "_law_given", "_law_sums", "_law_moved", "_law_k", "_law_n"]
def e__law_applied_1 : E := .bi .sum [.slHi (.ix (.v 1) (.c (.int 0))) (.bin .add (.v 4) (.c (.int 1)))]
def e__law_applied_2 : E := .chn .le .le (.neg (.c (.int 1000000))) (.v 5) (.c (.int 1000000))
def e__law_applied_3 : E := .bin .add (.v 5) (.ix (.v 1) (.c (.int 1)))
def e__law_applied_4 : E := .chn .le .le (.neg (.c (.int 1000000))) (.v 5) (.c (.int 1000000))
def b__law_applied : List S := [.ite (.or [.cmp .eq (.v 0) (.c (.str [99, 111, 110, 99, 97, 116])), .cmp .eq (.v 0) (.c (.str [106, 111, 105, 110]))])
    [.ret (.call f__law_clip [.bin .add (.ix (.v 1) (.c (.int 0))) (.ix (.v 1) (.c (.int 1)))])]
    [],
  .ite (.cmp .eq (.v 0) (.c (.str [97, 112, 112, 101, 110, 100])))
    [.ret (.call f__law_clip [.bin .add (.ix (.v 1) (.c (.int 0))) (.tup [.ix (.v 1) (.c (.int 1))])])]
    [],
  .ite (.cmp .eq (.v 0) (.c (.str [112, 114, 101, 112, 101, 110, 100])))
    [.ret (.call f__law_clip [.bin .add (.tup [.ix (.v 1) (.c (.int 0))]) (.ix (.v 1) (.c (.int 1)))])]
    [],
  .ite (.or [.cmp .eq (.v 0) (.c (.str [114, 101, 118, 101, 114, 115, 101])), .cmp .eq (.v 0) (.c (.str [114, 101, 118, 101, 114, 115, 101, 95, 116, 101, 120, 116]))])
    [.ret (.rev (.ix (.v 1) (.c (.int 0))))]
    [],
  .ite (.cmp .eq (.v 0) (.c (.str [114, 117, 110, 110, 105, 110, 103])))
    [.set 2 (.lc (.n 4) [4] (.r1 (.bi .len [.ix (.v 1) (.c (.int 0))])) [] e__law_applied_1),
      .ret (.ite (.cmp .isIn (.c (.bl false)) (.lc (.n 5) [5] (.it (.v 2)) [] e__law_applied_2)) (.c (.non)) (.bi .tuple [.v 2]))]
    [],
  .ite (.cmp .eq (.v 0) (.c (.str [97, 100, 100, 95, 101, 97, 99, 104])))
    [.set 3 (.lc (.n 5) [5] (.it (.ix (.v 1) (.c (.int 0)))) [] e__law_applied_3),
      .ret (.ite (.cmp .isIn (.c (.bl false)) (.lc (.n 5) [5] (.it (.v 3)) [] e__law_applied_4)) (.c (.non)) (.bi .tuple [.v 3]))]
    [],
  .ite (.cmp .eq (.v 0) (.c (.str [110, 117, 109, 98, 101, 114, 95, 116, 101, 120, 116])))
    [.ret (.ite (.cmp .ge (.ix (.v 1) (.c (.int 0))) (.c (.int 0))) (.bi .str [.ix (.v 1) (.c (.int 0))]) (.c (.non)))]
    [],
  .ret (.call f__law_digits [.ix (.v 1) (.c (.int 0))])]
def f__law_applied : CallF := ⟨"_law_applied", [false, false], false, runF 1000000 6 [false, false] false b__law_applied⟩
theorem md__law_applied : f__law_applied.md = [false, false] := rfl

def N__law_kinds : List Str := ["_law_name", "_law_table"]
def b__law_kinds : List S := [.setT 1 (.disp [[99, 111, 110, 99, 97, 116], [106, 111, 105, 110]] [.tup [.c (.str [116, 101, 120, 116]), .c (.str [116, 101, 120, 116]), .c (.str [116, 101, 120, 116])], .tup [.c (.str [108, 105, 115, 116]), .c (.str [108, 105, 115, 116]), .c (.str [108, 105, 115, 116])]]),
  .putD 1 (.c (.str [97, 112, 112, 101, 110, 100])) (.tup [.c (.str [108, 105, 115, 116]), .c (.str [110, 117, 109, 98, 101, 114]), .c (.str [108, 105, 115, 116])]),
  .putD 1 (.c (.str [112, 114, 101, 112, 101, 110, 100])) (.tup [.c (.str [110, 117, 109, 98, 101, 114]), .c (.str [108, 105, 115, 116]), .c (.str [108, 105, 115, 116])]),
  .putD 1 (.c (.str [114, 101, 118, 101, 114, 115, 101])) (.tup [.c (.str [108, 105, 115, 116]), .c (.str [108, 105, 115, 116])]),
  .putD 1 (.c (.str [114, 101, 118, 101, 114, 115, 101, 95, 116, 101, 120, 116])) (.tup [.c (.str [116, 101, 120, 116]), .c (.str [116, 101, 120, 116])]),
  .putD 1 (.c (.str [114, 117, 110, 110, 105, 110, 103])) (.tup [.c (.str [108, 105, 115, 116]), .c (.str [108, 105, 115, 116])]),
  .putD 1 (.c (.str [97, 100, 100, 95, 101, 97, 99, 104])) (.tup [.c (.str [108, 105, 115, 116]), .c (.str [110, 117, 109, 98, 101, 114]), .c (.str [108, 105, 115, 116])]),
  .putD 1 (.c (.str [110, 117, 109, 98, 101, 114, 95, 116, 101, 120, 116])) (.tup [.c (.str [110, 117, 109, 98, 101, 114]), .c (.str [116, 101, 120, 116])]),
  .putD 1 (.c (.str [116, 101, 120, 116, 95, 110, 117, 109, 98, 101, 114])) (.tup [.c (.str [116, 101, 120, 116]), .c (.str [110, 117, 109, 98, 101, 114])]),
  .ret (.dg 1 (.v 0))]
def f__law_kinds : CallF := ⟨"_law_kinds", [false], false, runF 1000000 2 [false] false b__law_kinds⟩
theorem md__law_kinds : f__law_kinds.md = [false] := rfl

def N__law_long : List Str := ["_law_state_here", "_law_kind_here", "_law_k"]
def e__law_long_1 (X : CallF) : E := .call X [.v 0, .c (.str [110, 117, 109, 98, 101, 114])]
def e__law_long_2 (X : CallF) : E := .ix (.c (.str [97, 98, 32, 48, 49, 57, 122])) (.call f__law_draw [.v 0, .c (.int 7)])
def b__law_long (X : CallF) : List S := [.ite (.cmp .eq (.v 1) (.c (.str [110, 117, 109, 98, 101, 114])))
    [.ret (.ite (.cmp .eq (.call f__law_draw [.v 0, .c (.int 3)]) (.c (.int 0))) (.bin .sub (.call f__law_draw [.v 0, .c (.int 2000001)]) (.c (.int 1000000))) (.bin .sub (.call f__law_draw [.v 0, .c (.int 12)]) (.c (.int 3))))]
    [],
  .ite (.cmp .eq (.v 1) (.c (.str [108, 105, 115, 116])))
    [.ret (.bi .tuple [.lc (.n 2) [2] (.r1 (.call f__law_draw [.v 0, .c (.int 8)])) [] (e__law_long_1 X)])]
    [],
  .ite (.cmp .eq (.call f__law_draw [.v 0, .c (.int 3)]) (.c (.int 0)))
    [.ret (.bi .str [.call f__law_draw [.v 0, .c (.int 1200000)]])]
    [],
  .ret (.me .join (.c (.str [])) [.lc (.n 2) [2] (.r1 (.call f__law_draw [.v 0, .c (.int 16)])) [] (e__law_long_2 X)])]
def F__law_long : Nat → List D → MR
  | 0 => fun _ => .bad
  | n + 1 => runF 1000000 3 [true, false] false (b__law_long ⟨"_law_long", [true, false], false, F__law_long n⟩)
def f__law_long (n : Nat) : CallF := ⟨"_law_long", [true, false], false, F__law_long n⟩
theorem md__law_long (n : Nat) : (f__law_long n).md = [true, false] := rfl
theorem ff__law_long (n : Nat) : (f__law_long n).F = F__law_long n := rfl
theorem fs__law_long (n : Nat) : F__law_long (n + 1) = runF 1000000 3 [true, false] false (b__law_long (f__law_long n)) := rfl
theorem fe__law_long (n : Nat) : f__law_long (n + 1) = ⟨"_law_long", [true, false], false, runF 1000000 N__law_long.length [true, false] false (b__law_long (f__law_long n))⟩ := rfl

def N__law_changed : List Str := ["_law_state_here", "_law_value", "_law_at", "_law_middle"]
def b__law_changed : List S := [.ite (.isi [.int] (.v 1))
    [.ret (.ite (.cmp .gt (.v 1) (.c (.int 0))) (.bin .sub (.v 1) (.c (.int 1))) (.bin .add (.v 1) (.c (.int 1))))]
    [],
  .ite (.cmp .eq (.bi .len [.v 1]) (.c (.int 0)))
    [.ret (.ite (.isi [.str] (.v 1)) (.c (.str [97])) (.tup [.c (.int 0)]))]
    [],
  .set 2 (.call f__law_draw [.v 0, .bi .len [.v 1]]),
  .set 3 (.ite (.isi [.str] (.v 1)) (.c (.str [113])) (.tup [.bin .add (.bin .fdiv (.ix (.v 1) (.v 2)) (.c (.int 2))) (.c (.int 1))])),
  .ret (.bin .add (.bin .add (.slHi (.v 1) (.v 2)) (.v 3)) (.slLo (.v 1) (.bin .add (.v 2) (.c (.int 1)))))]
def f__law_changed : CallF := ⟨"_law_changed", [true, false], false, runF 1000000 4 [true, false] false b__law_changed⟩
theorem md__law_changed : f__law_changed.md = [true, false] := rfl

def N__law_is_solution : List Str := ["_law_name", "_law_index", "_law_others", "_law_result", "_law_value", "_law_given"]
def b__law_is_solution : List S := [.ite (.or [.cmp .is (.v 4) (.c (.non)), .cmp .ne (.call f__law_kind [.v 4]) (.ix (.call f__law_kinds [.v 0]) (.v 1)), .not (.call f__law_same [.call f__law_clip [.v 4], .v 4])])
    [.ret (.c (.bl false))]
    [],
  .set 5 (.bin .add (.bin .add (.bi .list [.slHi (.v 2) (.v 1)]) (.lst [.v 4])) (.bi .list [.slLo (.v 2) (.v 1)])),
  .ret (.call f__law_same [.call f__law_applied [.v 0, .v 5], .v 3])]
def f__law_is_solution : CallF := ⟨"_law_is_solution", [false, false, false, false, false], false, runF 1000000 6 [false, false, false, false, false] false b__law_is_solution⟩
theorem md__law_is_solution : f__law_is_solution.md = [false, false, false, false, false] := rfl

def N__law_told : List Str := ["_law_state_here", "_law_name", "_law_kinds_here", "_law_index", "_law_given", "_law_others", "_law_result", "_law_way", "_law_actual", "_law_value", "_law_due", "_law_kind_here"]
def e__law_told_1 : E := .call (f__law_long 45) [.v 0, .v 11]
def l__law_told_2 : List S := [.ite (.not (.call f__law_is_solution [.v 1, .v 3, .v 5, .v 6, .v 9]))
    [.ret (.c (.bl false))]
    []]
def b__law_told : List S := [.set 2 (.call f__law_kinds [.v 1]),
  .set 3 (.ite (.cmp .eq (.v 1) (.c (.str [97, 100, 100, 95, 101, 97, 99, 104]))) (.c (.int 0)) (.call f__law_draw [.v 0, .bin .sub (.bi .len [.v 2]) (.c (.int 1))])),
  .set 4 (.lc (.n 11) [11] (.it (.slHi (.v 2) (.neg (.c (.int 1))))) [] e__law_told_1),
  .set 5 (.bin .add (.slHi (.v 4) (.v 3)) (.slLo (.v 4) (.bin .add (.v 3) (.c (.int 1))))),
  .set 6 (.call f__law_applied [.v 1, .v 4]),
  .set 7 (.call f__law_draw [.v 0, .c (.int 3)]),
  .ite (.or [.cmp .is (.v 6) (.c (.non)), .cmp .eq (.v 7) (.c (.int 1))])
    [.set 6 (.call (f__law_long 45) [.v 0, .ix (.v 2) (.neg (.c (.int 1)))])]
    [.ite (.cmp .eq (.v 7) (.c (.int 2)))
        [.set 6 (.call f__law_changed [.v 0, .v 6])]
        []],
  .set 8 (.call f_solutions [.v 1, .v 3, .bi .list [.v 5], .v 6]),
  .ite (.or [.not (.isi [.lst] (.v 8)), .cmp .gt (.bi .len [.v 8]) (.c (.int 1))])
    [.ret (.c (.bl false))]
    [],
  .for (.n 9) (.it (.v 8)) l__law_told_2,
  .set 10 (.call f__law_is_solution [.v 1, .v 3, .v 5, .v 6, .ix (.v 4) (.v 3)]),
  .ret (.or [.not (.v 10), .and [.cmp .eq (.bi .len [.v 8]) (.c (.int 1)), .call f__law_same [.ix (.v 8) (.c (.int 0)), .ix (.v 4) (.v 3)]]])]
def f__law_told : CallF := ⟨"_law_told", [true, false], false, runF 1000000 12 [true, false] false b__law_told⟩
theorem md__law_told : f__law_told.md = [true, false] := rfl

def N_law : List Str := ["_law_script", "_law_state_here", "_law_names", "_law_k"]
def l_law_1 : List S := [.ite (.not (.call f__law_told [.v 1, .ix (.v 2) (.call f__law_draw [.v 1, .c (.int 10)])]))
    [.ret (.c (.bl false))]
    []]
def b_law : List S := [.setN 1 (.call f__law_state [.v 0]),
  .set 2 (.lst [.c (.str [99, 111, 110, 99, 97, 116]), .c (.str [106, 111, 105, 110]), .c (.str [97, 112, 112, 101, 110, 100]), .c (.str [112, 114, 101, 112, 101, 110, 100]), .c (.str [114, 101, 118, 101, 114, 115, 101]), .c (.str [114, 101, 118, 101, 114, 115, 101, 95, 116, 101, 120, 116])]),
  .set 2 (.bin .add (.v 2) (.lst [.c (.str [114, 117, 110, 110, 105, 110, 103]), .c (.str [97, 100, 100, 95, 101, 97, 99, 104]), .c (.str [110, 117, 109, 98, 101, 114, 95, 116, 101, 120, 116]), .c (.str [116, 101, 120, 116, 95, 110, 117, 109, 98, 101, 114])])),
  .for (.n 3) (.r1 (.c (.int 3))) l_law_1,
  .ret (.c (.bl true))]
def f_law : CallF := ⟨"law", [false], false, runF 1000000 4 [false] false b_law⟩
theorem md_law : f_law.md = [false] := rfl
end K55
end

section
set_option Elab.async false
set_option linter.all false
set_option maxRecDepth 100000
set_option maxHeartbeats 2000000
namespace K55
open PySem L2 Mini
/-! ### cells and draws -/
theorem at_ints {ns : List Int} {k : Int} (h0 : 0 ≤ k) (h1 : k < ns.length) : ∃ c, atI (ns.map D.int) k = some (.int c) := by
  have h2 : k.toNat < ns.length := by omega
  refine ⟨ns[k.toNat], ?_⟩
  unfold atI ixN
  rw [if_pos h0, List.length_map, if_pos h1]
  simp [h2]
theorem smalls : small 48271 = true ∧ small 69621 = true ∧ small 16807 = true ∧ small 31 = true := by decide
theorem fm (x : Int) {many : Int} (h : 0 < many) : 0 ≤ x.fmod many ∧ x.fmod many < many := by
  rw [Int.fmod_eq_emod_of_nonneg _ (Int.le_of_lt h)]
  exact ⟨Int.emod_nonneg _ (by omega), Int.emod_lt_of_pos _ h⟩
/-- the frame of _law_draws -/
def dEn (c many lim' : Int) (acc : List Int) (rest : Int) (k mx : Option D) : En := [.val (.int c), .val (.int many), .val (.int lim'), .own (acc.map .int), .val (.int rest), sl k, sl mx]
def aI (c : Int) : Int := if c < 0 then -c else c
theorem rng_map (n : Int) : rng 0 n = ((List.range n.toNat).map fun (k : Nat) => (k : Int)).map D.int := by
  unfold rng
  rw [List.map_map, Int.sub_zero]
  refine List.map_congr_left fun k _ => ?_
  show D.int (0 + (k : Int)) = D.int k
  rw [Int.zero_add]
end K55
end

section
set_option Elab.async false
set_option linter.all false
set_option maxRecDepth 100000
set_option maxHeartbeats 2000000
namespace K55
open PySem L2 Mini
/-! ### values: what the program's tests say of any thing -/
def inR (i : Int) : Bool := decide (-1000000 ≤ i) && decide (i ≤ 1000000)
theorem inR_of {n : Int} (h1 : -1000000 ≤ n) (h2 : n ≤ 1000000) : inR n = true := by simp [inR, h1, h2]
theorem inR_iff {n : Int} : inR n = true ↔ -1000000 ≤ n ∧ n ≤ 1000000 := by simp [inR]
def abc : List Nat := [32, 48, 49, 50, 51, 52, 53, 54, 55, 56, 57, 97, 98, 99, 100, 101, 102, 103, 104, 105, 106, 107, 108, 109, 110, 111, 112, 113, 114, 115, 116, 117, 118, 119, 120, 121, 122]
def isNum : D → Bool
  | .int i => inR i
  | _ => false
def isTru : D → Bool
  | .bl _ => true
  | _ => false
def isTxt : D → Bool
  | .str cs => decide (cs.length ≤ 30) && cs.all fun c => decide (c ∈ abc)
  | _ => false
def isLst : D → Bool
  | .tup ds => decide (ds.length ≤ 12) && ds.all isNum
  | _ => false
abbrev kN : List Nat := [110, 117, 109, 98, 101, 114]
abbrev kT : List Nat := [116, 114, 117, 116, 104]
abbrev kS : List Nat := [116, 101, 120, 116]
abbrev kL : List Nat := [108, 105, 115, 116]
def isVal (k : List Nat) (d : D) : Bool := if k = kN then isNum d else if k = kT then isTru d else if k = kS then isTxt d else isLst d
def kindOf (d : D) : Option (List Nat) := if isNum d then some kN else if isTru d then some kT else if isTxt d then some kS else if isLst d then some kL else none
theorem F_isn (d : D) : f_is_number.F [d] = .ok (.bl (isNum d)) [] := by
  cases d with
  | int i =>
    by_cases h : -1000000 ≤ i
    · by_cases h2 : i ≤ 1000000
      · simp [f_is_number, b_is_number, runF, startE, finO, outsOf, inoutSlots, slotsFrom, lim, List.replicate, isTy, isNum, inR, h, h2]
      · simp [f_is_number, b_is_number, runF, startE, finO, outsOf, inoutSlots, slotsFrom, lim, List.replicate, isTy, isNum, inR, h, h2]
    · simp [f_is_number, b_is_number, runF, startE, finO, outsOf, inoutSlots, slotsFrom, lim, List.replicate, isTy, isNum, inR, h]
  | _ => rfl
theorem dBools_map : ∀ bs : List Bool, dBools (bs.map .bl) = some bs
  | [] => rfl
  | b :: bs => by
    show (dBools (bs.map .bl)).map (b :: ·) = _
    rw [dBools_map bs]
    rfl
theorem bi_all_map (bs : List Bool) : Mini.bi .all [.lst (bs.map .bl)] = some (.bl (bs.all id)) := by
  rw [q_bi_all, dBools_map]
  rfl
theorem bi_any_map (bs : List Bool) : Mini.bi .any [.lst (bs.map .bl)] = some (.bl (bs.any id)) := by
  rw [q_bi_any, dBools_map]
  rfl
/-- all([f(x) for x in xs]) -/
theorem all_lc {α : Type} {xs : List α} {f : α → Bool} : Mini.bi .all [.lst (xs.map fun x => D.bl (f x))] = some (.bl (xs.all f)) := by
  have h := bi_all_map (xs.map f)
  rw [List.map_map] at h
  have e : (D.bl ∘ f) = fun x => D.bl (f x) := rfl
  rw [e] at h
  rw [h]
  simp [List.all_map]
theorem any_lc {α : Type} {xs : List α} {f : α → Bool} : Mini.bi .any [.lst (xs.map fun x => D.bl (f x))] = some (.bl (xs.any f)) := by
  have h := bi_any_map (xs.map f)
  rw [List.map_map] at h
  have e : (D.bl ∘ f) = fun x => D.bl (f x) := rfl
  rw [e] at h
  rw [h]
  simp [List.any_map]
/-- a comprehension over items that come from a list -/
theorem lc_of {α : Type} {i : Nat} {ρ : En} {s : Sl} {elt : EvF Rv} {a : α → D} {g : α → D} (hi : ρ[i]? = some s) {xs : List α} (h : ∀ x ∈ xs, elt (ρ.set i (.val (a x))) = .ok (.d (g x)) (ρ.set i (.val (a x)))) (hz : xs.length ≤ lim) :
    lcGo (.n i) [i] (lcBody (evTs []) elt) (xs.map a) [] ρ = .ok (xs.map g) ρ := by
  have key : ∀ (xs : List α) (acc : List D), (∀ x ∈ xs, elt (ρ.set i (.val (a x))) = .ok (.d (g x)) (ρ.set i (.val (a x)))) → acc.length + xs.length ≤ lim → lcGo (.n i) [i] (lcBody (evTs []) elt) (xs.map a) acc ρ = .ok (acc ++ xs.map g) ρ := by
    intro xs
    induction xs with
    | nil =>
      intro acc _ hz
      have := lc_pure (f := fun _ => true) (g := id) (ifs := evTs []) (elt := elt) (acc := acc) (xs := []) hi (fun x hx => by cases hx) (fun x hx => by cases hx) hz
      simpa using this
    | cons x xs ih =>
      intro acc h hz
      rw [List.length_cons] at hz
      have h1 := lc_pure (f := fun _ => true) (g := fun _ => g x) (ifs := evTs []) (elt := elt) (acc := acc) (xs := [a x]) hi (fun y hy => rfl) (fun y hy _ => by
        cases List.mem_singleton.mp hy
        exact h x (List.mem_cons_self ..)) (by rw [List.length_singleton]; omega)
      have h2 := ih (acc ++ [g x]) (fun y hy => h y (List.mem_cons_of_mem _ hy)) (by rw [List.length_append, List.length_singleton]; omega)
      rw [List.map_cons]
      rw [q_lc_cons] at h1 ⊢
      revert h1
      cases bindT (.n i) (a x) (wipeE ρ [i]) with
      | none => intro h1; cases h1
      | some ρ1 =>
        simp only []
        cases lcBody (evTs []) elt ρ1 with
        | bad => intro h1; cases h1
        | exc _ _ _ => intro h1; cases h1
        | ok o ρ2 =>
          simp only []
          split
          · rw [q_lc_nil]
            split
            · intro h1
              simp at h1
              obtain ⟨e1, e2⟩ := h1
              have e3 : backE ρ ρ2 [i] = ρ := by simpa using e2
              rw [e1, e3]
              show lcGo _ _ _ _ (acc ++ [g x]) ρ = _
              rw [h2]
              simp
            · intro h1; cases h1
          · intro h1; cases h1
  have := key xs [] h (by simpa using hz)
  rw [this, List.nil_append]
theorem F_ist (d : D) : f_is_text.F [d] = .ok (.bl (isTxt d)) [] := by
  cases d with
  | str cs =>
    by_cases h : (30 : Int) < (cs.length : Int)
    · have h2 : ¬ cs.length ≤ 30 := by omega
      simp [f_is_text, b_is_text, runF, startE, finO, outsOf, inoutSlots, slotsFrom, lim, List.replicate, isTy, isTxt, h, h2]
    · have h2 : cs.length ≤ 30 := by omega
      have e : lcGo (.n 1) [1] (lcBody (evTs []) (evE e_is_text_1)) (cs.map fun c => .str [c]) [] [.val (.str cs), .no] = .ok (cs.map fun c => .bl (decide (c ∈ abc))) [.val (.str cs), .no] := by
        refine lc_of (s := .no) rfl (fun c hc => ?_) (Nat.le_trans h2 (by decide))
        simp [e_is_text_1, runF, startE, finO, outsOf, inoutSlots, slotsFrom, lim, List.replicate, abc]
      have e2 := all_lc (xs := cs) (f := fun c => decide (c ∈ abc))
      simp [f_is_text, b_is_text, runF, startE, finO, outsOf, inoutSlots, slotsFrom, lim, List.replicate, isTy, isTxt, h, h2, e, e2, -q_bi_all]
  | _ => rfl
theorem F_isl (d : D) : f_is_list.F [d] = .ok (.bl (isLst d)) [] := by
  cases d with
  | tup ds =>
    by_cases h : (ds.length : Int) ≤ 12
    · have h2 : ds.length ≤ 12 := by omega
      have e : lcGo (.n 1) [1] (lcBody (evTs []) (evE e_is_list_1)) ds [] [.val (.tup ds), .no] = .ok (ds.map fun d => .bl (isNum d)) [.val (.tup ds), .no] := by
        refine lc_map (s := .no) rfl (fun c hc => ?_) (Nat.le_trans h2 (by decide))
        simp [e_is_list_1, runF, startE, finO, outsOf, inoutSlots, slotsFrom, lim, List.replicate, md_is_number, F_isn]
      have e2 := all_lc (xs := ds) (f := isNum)
      simp [f_is_list, b_is_list, runF, startE, finO, outsOf, inoutSlots, slotsFrom, lim, List.replicate, isTy, isLst, h, h2, e, e2, -q_bi_all]
    · have h2 : ¬ ds.length ≤ 12 := by omega
      simp [f_is_list, b_is_list, runF, startE, finO, outsOf, inoutSlots, slotsFrom, lim, List.replicate, isTy, isLst, h, h2]
  | _ => rfl
theorem F_isv (k : List Nat) (d : D) : f_is_value.F [.str k, d] = .ok (.bl (isVal k d)) [] := by
  by_cases h1 : k = kN
  · subst h1
    simp [f_is_value, b_is_value, runF, startE, finO, outsOf, inoutSlots, slotsFrom, lim, List.replicate, md_is_number, F_isn, isVal]
  · by_cases h2 : k = kT
    · subst h2
      cases d <;> rfl
    · by_cases h3 : k = kS
      · subst h3
        simp [f_is_value, b_is_value, runF, startE, finO, outsOf, inoutSlots, slotsFrom, lim, List.replicate, md_is_text, F_ist, isVal]
      · simp [f_is_value, b_is_value, runF, startE, finO, outsOf, inoutSlots, slotsFrom, lim, List.replicate, md_is_list, F_isl, isVal, h1, h2, h3]
theorem deq_refl : ∀ d : D, deq d d = true
  | .non => rfl
  | .bl b => by simp [deq]
  | .int b => by simp [deq]
  | .str b => by simp [deq]
  | .tup ds => by
    have := deqs_refl ds
    simpa [deq] using this
  | .lst ds => by
    have := deqs_refl ds
    simpa [deq] using this
  | .dic _ _ => rfl
  | .ob _ _ _ => rfl
  | .ml _ => rfl
  | .md _ _ => rfl
  | .mo _ _ _ => rfl
where deqs_refl : ∀ ds : List D, deqs ds ds = true
  | [] => rfl
  | d :: ds => by
    have h1 := deq_refl d
    have h2 := deqs_refl ds
    simp [deqs, h1, h2]
theorem eq_refl' {d : D} (h : dep d ≤ 60) : eqO d d = some true := by
  unfold eqO
  rw [if_pos (by omega), deq_refl]
end K55
end

section
set_option Elab.async false
set_option linter.all false
set_option maxRecDepth 100000
set_option maxHeartbeats 4000000
namespace K55
open PySem L2 Mini
/-! ### small things -/
theorem at_ex {α : Type} {xs : List α} {k : Int} (h0 : 0 ≤ k) (h1 : k < xs.length) : ∃ x ∈ xs, atI xs k = some x := by
  have h2 : k.toNat < xs.length := by omega
  refine ⟨xs[k.toNat], List.getElem_mem h2, ?_⟩
  unfold atI ixN
  rw [if_pos h0, if_pos h1]
  simp [h2]
theorem at_nat {α : Type} {xs : List α} {k : Nat} {x : α} (h : xs[k]? = some x) : atI xs (k : Int) = some x := by
  have h2 : k < xs.length := (List.getElem?_eq_some_iff.mp h).1
  unfold atI ixN
  rw [if_pos (by omega), if_pos (by omega)]
  simpa using h
theorem aI_nn (c : Int) : 0 ≤ aI c := by unfold aI; split <;> omega
theorem joinC_signs : ∀ cs : List Nat, joinC [] (cs.map fun c => [c]) = cs
  | [] => rfl
  | [c] => rfl
  | c :: d :: r => by
    show [c] ++ [] ++ joinC [] ((d :: r).map fun c => [c]) = _
    rw [joinC_signs (d :: r)]
    rfl
theorem dStrs_map : ∀ cs : List (List Nat), dStrs (cs.map .str) = some cs
  | [] => rfl
  | c :: r => by
    show (dStrs (r.map .str)).map (c :: ·) = _
    rw [dStrs_map r]
    rfl
theorem me_join {s : List Nat} {x : List D} {ys : List (List Nat)} (h : dStrs x = some ys) (hz : (joinC s ys).length ≤ 1000000) : me .join (.str s) [.lst x] = some (.str (joinC s ys)) := by
  show (match dStrs x with
    | some ys => if (joinC s ys).length ≤ lim then some (D.str (joinC s ys)) else none
    | none => none) = _
  rw [h]
  exact if_pos hz
/-- ''.join([f(x) for x in xs]), each one sign -/
theorem join_signs {α : Type} {xs : List α} {f : α → Nat} (h : xs.length ≤ 1000000) : me .join (.str []) [.lst (xs.map fun x => D.str [f x])] = some (.str (xs.map f)) := by
  have e : (xs.map fun x => D.str [f x]) = ((xs.map f).map fun c => [c]).map D.str := by
    rw [List.map_map, List.map_map]
    rfl
  rw [e, me_join (dStrs_map _) (by rw [joinC_signs, List.length_map]; exact h), joinC_signs]
/-! ### letters, values -/
def letters : List Nat := [110, 116, 115, 108]
def isV (l : Nat) (d : D) : Bool := if l = 110 then isNum d else if l = 116 then isTru d else if l = 115 then isTxt d else isLst d
def kL_ (l : Nat) : List Nat := if l = 110 then kN else if l = 116 then kT else if l = 115 then kS else kL
theorem fd4 {c : Int} (h : 0 ≤ c) (k : Int) (hk : 0 < k) : 0 ≤ c.fdiv k := Int.fdiv_nonneg h (by omega)
def nums8 : List D := [.int 1000000, .int (-1000000), .int 999999, .int 500000, .int 500001, .int (-500000), .int 1000, .int (-1000)]
def sg8 : List Nat := [97, 32, 98, 48, 32, 57, 122, 49]
def pk8 (k : Int) : Nat := sg8.getD (k.fmod 8).toNat 0
theorem pk8_at {k : Int} : atI sg8 (k.fmod 8) = some (pk8 k) := by
  have z := fm k (many := 8) (by omega)
  unfold pk8
  have : k.fmod 8 = 0 ∨ k.fmod 8 = 1 ∨ k.fmod 8 = 2 ∨ k.fmod 8 = 3 ∨ k.fmod 8 = 4 ∨ k.fmod 8 = 5 ∨ k.fmod 8 = 6 ∨ k.fmod 8 = 7 := by omega
  rcases this with e | e | e | e | e | e | e | e <;> (rw [e]; rfl)
theorem pk8_mem (k : Int) : pk8 k ∈ abc := by
  have z := fm k (many := 8) (by omega)
  unfold pk8
  have : k.fmod 8 = 0 ∨ k.fmod 8 = 1 ∨ k.fmod 8 = 2 ∨ k.fmod 8 = 3 ∨ k.fmod 8 = 4 ∨ k.fmod 8 = 5 ∨ k.fmod 8 = 6 ∨ k.fmod 8 = 7 := by omega
  rcases this with e | e | e | e | e | e | e | e <;> (rw [e]; decide)
def cnt8 : List D := [.int 0, .int 1, .int 2, .int 3, .int 5, .int 15, .int 16, .int 30]
def cnt9 : List D := [.int 0, .int 1, .int 2, .int 3, .int 4, .int 6, .int 11, .int 12]
theorem isLst_of {vs : List Int} (h : vs.length ≤ 12) (h2 : ∀ v ∈ vs, inR v = true) : isLst (.tup (vs.map .int)) = true := by
  show (decide ((vs.map D.int).length ≤ 12) && (vs.map D.int).all isNum) = true
  rw [Bool.and_eq_true, decide_eq_true_eq, List.all_eq_true]
  refine ⟨by rw [List.length_map]; exact h, fun x hx => ?_⟩
  obtain ⟨k, hk, rfl⟩ := List.mem_map.mp hx
  exact h2 k hk
/-! ### the library -/
def libL : List (List Nat × List Nat × Nat) := ([([97, 98, 115], [110], 110), ([97, 100, 100], [110, 110], 110), ([97, 100, 100, 95, 101, 97, 99, 104], [108, 110], 108), ([97, 112, 112, 101, 110, 100], [108, 110], 108), ([97, 116], [108, 110], 110), ([98, 111, 116, 104], [116, 116], 116), ([99, 104, 111, 111, 115, 101, 95, 108, 105, 115, 116], [116, 108, 108], 108), ([99, 104, 111, 111, 115, 101, 95, 110, 117, 109, 98, 101, 114], [116, 110, 110], 110), ([99, 104, 111, 111, 115, 101, 95, 116, 101, 120, 116], [116, 115, 115], 115), ([99, 111, 110, 99, 97, 116], [115, 115], 115), ([99, 111, 110, 116, 97, 105, 110, 115], [115, 115], 116), ([99, 111, 117, 110, 116, 95, 111, 102], [108, 110], 110), ([100, 105, 115, 116, 105, 110, 99, 116], [108], 108), ([100, 105, 118, 105, 100, 101], [110, 110], 110), ([100, 111, 117, 98, 108, 101], [110], 110), ([100, 114, 111, 112], [108, 110], 108), ([101, 105, 116, 104, 101, 114], [116, 116], 116), ([101, 113, 117, 97, 108], [110, 110], 116), ([102, 105, 114, 115, 116], [108], 110), ([103, 114, 101, 97, 116, 101, 115, 116], [108], 110)] : List (List Nat × List Nat × Nat)) ++ ([([104, 97, 108, 102], [110], 110), ([105, 115, 95, 101, 109, 112, 116, 121], [108], 116), ([105, 115, 95, 101, 118, 101, 110], [110], 116), ([106, 111, 105, 110], [108, 108], 108), ([107, 101, 101, 112, 95, 97, 98, 111, 118, 101], [108, 110], 108), ([107, 101, 101, 112, 95, 101, 118, 101, 110], [108], 108), ([108, 97, 115, 116], [108], 110), ([108, 101, 97, 115, 116], [108], 110), ([108, 101, 110, 103, 116, 104], [115], 110), ([108, 101, 115, 115], [110, 110], 116), ([109, 97, 120], [110, 110], 110), ([109, 105, 110], [110, 110], 110), ([109, 111, 100], [110, 110], 110), ([109, 117, 108], [110, 110], 110), ([110, 101, 103], [110], 110), ([110, 101, 103, 97, 116, 101], [116], 116), ([110, 117, 109, 98, 101, 114, 95, 116, 101, 120, 116], [110], 115), ([112, 114, 101, 112, 101, 110, 100], [110, 108], 108), ([112, 114, 111, 100, 117, 99, 116], [108], 110), ([114, 101, 112, 101, 97, 116], [115, 110], 115)] : List (List Nat × List Nat × Nat)) ++ ([([114, 101, 115, 116], [108], 108), ([114, 101, 118, 101, 114, 115, 101], [108], 108), ([114, 101, 118, 101, 114, 115, 101, 95, 116, 101, 120, 116], [115], 115), ([114, 117, 110, 110, 105, 110, 103], [108], 108), ([115, 97, 109, 101, 95, 108, 105, 115, 116], [108, 108], 116), ([115, 97, 109, 101, 95, 116, 101, 120, 116], [115, 115], 116), ([115, 105, 122, 101], [108], 110), ([115, 107, 105, 112], [115, 110], 115), ([115, 111, 114, 116], [108], 108), ([115, 116, 97, 114, 116], [115, 110], 115), ([115, 117, 98], [110, 110], 110), ([115, 117, 109], [108], 110), ([116, 97, 107, 101], [108, 110], 108), ([116, 101, 120, 116, 95, 110, 117, 109, 98, 101, 114], [115], 110), ([117, 112, 95, 116, 111], [110], 108), ([119, 111, 114, 100, 115], [115], 110), ([122, 105, 112, 95, 97, 100, 100], [108, 108], 108)] : List (List Nat × List Nat × Nat))
def rowD (r : List Nat × List Nat × Nat) : D := .lst [.str r.1, .str r.2.1, .str [r.2.2]]
theorem isV_dep {l : Nat} {v : D} (h : isV l v = true) : dep v ≤ 1 := by
  cases v with
  | tup ds =>
    have hl : isLst (.tup ds) = true := by
      unfold isV at h
      split at h
      · cases h
      · split at h
        · cases h
        · split at h
          · cases h
          · exact h
    have h2 : (decide (ds.length ≤ 12) && ds.all isNum) = true := hl
    rw [Bool.and_eq_true, List.all_eq_true] at h2
    have : ∀ ds : List D, (∀ x ∈ ds, isNum x = true) → deps ds ≤ 0 := by
      intro ds
      induction ds with
      | nil => intro _; exact Nat.le_refl _
      | cons d ds ih =>
        intro hh
        have h3 := ih fun x hx => hh x (List.mem_cons_of_mem _ hx)
        have h4 := hh d (List.mem_cons_self ..)
        have h5 : dep d = 0 := by cases d <;> first | rfl | cases h4
        show max (dep d) (deps ds) ≤ 0
        omega
    have := this ds h2.2
    show deps ds + 1 ≤ 1
    omega
  | lst ds =>
    unfold isV at h
    split at h
    · cases h
    · split at h
      · cases h
      · split at h
        · cases h
        · cases h
  | dic _ _ | ob _ _ _ | ml _ | md _ _ | mo _ _ _ =>
    unfold isV at h
    split at h
    · cases h
    · split at h
      · cases h
      · split at h
        · cases h
        · cases h
  | _ => exact Nat.zero_le _
mutual
theorem deq_comm : ∀ a b : D, deq a b = deq b a
  | .non, b => by cases b <;> rfl
  | .bl x, b => by cases b <;> first | rfl | exact Bool.beq_comm
  | .int x, b => by cases b <;> first | rfl | exact Bool.beq_comm
  | .str x, b => by cases b <;> first | rfl | exact Bool.beq_comm
  | .tup xs, b => by
    cases b with
    | tup ys => exact deqs_comm xs ys
    | _ => rfl
  | .lst xs, b => by
    cases b with
    | lst ys => exact deqs_comm xs ys
    | _ => rfl
  | .dic _ _, b => by cases b <;> rfl
  | .ob _ _ _, b => by cases b <;> rfl
  | .ml _, b => by cases b <;> rfl
  | .md _ _, b => by cases b <;> rfl
  | .mo _ _ _, b => by cases b <;> rfl
theorem deqs_comm : ∀ a b : List D, deqs a b = deqs b a
  | [], [] => rfl
  | [], _ :: _ => rfl
  | _ :: _, [] => rfl
  | x :: xs, y :: ys => by
    show (deq x y && deqs xs ys) = (deq y x && deqs ys xs)
    rw [deq_comm x y, deqs_comm xs ys]
end
end K55
end

section
set_option Elab.async false
set_option linter.all false
set_option maxRecDepth 100000
set_option maxHeartbeats 4000000
namespace K55
open PySem L2 Mini
/-! ### comprehensions with a test over items that come from a list -/
theorem lc_sel {α : Type} {i : Nat} {ρ : En} {s : Sl} {ifs : EvF Bool} {elt : EvF Rv} {a : α → D} {g : α → D} {f : α → Bool} (hi : ρ[i]? = some s) {xs : List α} (h1 : ∀ x ∈ xs, ifs (ρ.set i (.val (a x))) = .ok (f x) (ρ.set i (.val (a x))))
    (h : ∀ x ∈ xs, f x = true → elt (ρ.set i (.val (a x))) = .ok (.d (g x)) (ρ.set i (.val (a x)))) (hz : xs.length ≤ lim) :
    lcGo (.n i) [i] (lcBody ifs elt) (xs.map a) [] ρ = .ok ((xs.filter f).map g) ρ := by
  have key : ∀ (xs : List α) (acc : List D), (∀ x ∈ xs, ifs (ρ.set i (.val (a x))) = .ok (f x) (ρ.set i (.val (a x)))) → (∀ x ∈ xs, f x = true → elt (ρ.set i (.val (a x))) = .ok (.d (g x)) (ρ.set i (.val (a x)))) → acc.length + xs.length ≤ lim →
      lcGo (.n i) [i] (lcBody ifs elt) (xs.map a) acc ρ = .ok (acc ++ (xs.filter f).map g) ρ := by
    intro xs
    induction xs with
    | nil =>
      intro acc _ _ hz
      have := lc_pure (f := fun _ => true) (g := id) (ifs := ifs) (elt := elt) (acc := acc) (xs := []) hi (fun x hx => by cases hx) (fun x hx => by cases hx) hz
      simpa using this
    | cons x xs ih =>
      intro acc h1 h hz
      rw [List.length_cons] at hz
      have h1' := lc_pure (f := fun _ => f x) (g := fun _ => g x) (ifs := ifs) (elt := elt) (acc := acc) (xs := [a x]) hi (fun y hy => by
        cases List.mem_singleton.mp hy
        exact h1 x (List.mem_cons_self ..)) (fun y hy hf => by
        cases List.mem_singleton.mp hy
        exact h x (List.mem_cons_self ..) hf) (by rw [List.length_singleton]; omega)
      have e : ((([a x] : List D).filter fun _ => f x).map fun _ => g x) = if f x = true then [g x] else [] := by
        cases hf : f x <;> rfl
      rw [e] at h1'
      have h2 := ih (acc ++ if f x = true then [g x] else []) (fun y hy => h1 y (List.mem_cons_of_mem _ hy)) (fun y hy => h y (List.mem_cons_of_mem _ hy)) (by
        rw [List.length_append]
        split
        · rw [List.length_singleton]; omega
        · rw [List.length_nil]; omega)
      have e3 : ((x :: xs).filter f).map g = (if f x = true then [g x] else []) ++ (xs.filter f).map g := by
        cases hf : f x
        · rw [List.filter_cons_of_neg (by rw [hf]; exact Bool.false_ne_true)]; rfl
        · rw [List.filter_cons_of_pos hf]; rfl
      rw [List.map_cons, e3, ← List.append_assoc]
      rw [q_lc_cons] at h1' ⊢
      revert h1'
      cases bindT (.n i) (a x) (wipeE ρ [i]) with
      | none => intro h1; cases h1
      | some ρ1 =>
        simp only []
        cases lcBody ifs elt ρ1 with
        | bad => intro h1; cases h1
        | exc _ _ _ => intro h1; cases h1
        | ok o ρ2 =>
          simp only []
          split
          · rw [q_lc_nil]
            split
            · intro h1
              simp only [O.ok.injEq] at h1
              obtain ⟨e1, e2⟩ := h1
              rw [e1, e2]
              exact h2
            · intro h1; cases h1
          · intro h1; cases h1
  have := key xs [] h1 h (by simpa using hz)
  rw [this, List.nil_append]
/-- range(z), z not negative -/
theorem rngOk_of {z : Int} (h0 : 0 ≤ z) (h1 : z ≤ 1000000) : rngOk z = true := by
  unfold rngOk
  rw [Bool.and_eq_true, decide_eq_true_eq, decide_eq_true_eq]
  omega
theorem rng_nat (n : Nat) : rng 0 (n : Int) = (List.range n).map fun (k : Nat) => D.int (k : Int) := by
  rw [rng_map, List.map_map, Int.toNat_natCast]
  rfl
theorem small_of {i : Int} (h : inR i = true) : small i = true := by
  obtain ⟨h1, h2⟩ := inR_iff.mp h
  have hb : big = 18446744073709551616 := by decide
  unfold small
  rw [hb, Bool.and_eq_true, decide_eq_true_eq, decide_eq_true_eq]
  omega
/-! ### numbers -/
def upTo (n : Nat) : D := .tup ((List.range n).map fun (k : Nat) => D.int ((k : Int) + 1))
def num1 (s : List Nat) (i : Int) : D :=
  if s = [97, 98, 115] then .int (if i < 0 then -i else i) else if s = [100, 111, 117, 98, 108, 101] then .int (2 * i) else if s = [104, 97, 108, 102] then .int (i.fdiv 2) else if s = [105, 115, 95, 101, 118, 101, 110] then .bl (decide (i.fmod 2 = 0)) else if s = [110, 101, 103] then .int (-i)
  else if s = [110, 117, 109, 98, 101, 114, 95, 116, 101, 120, 116] then (if i < 0 then .non else .str (intS i)) else if 12 < i then .non else upTo i.toNat
def num2 (s : List Nat) (i j : Int) : D :=
  if s = [97, 100, 100] then .int (i + j) else if s = [100, 105, 118, 105, 100, 101] then (if j = 0 then .non else .int (i.fdiv j)) else if s = [101, 113, 117, 97, 108] then .bl (decide (i = j)) else if s = [108, 101, 115, 115] then .bl (decide (i < j)) else if s = [109, 97, 120] then .int (max i j) else if s = [109, 105, 110] then .int (min i j)
  else if s = [109, 111, 100] then (if j = 0 then .non else .int (i - j * i.fdiv j)) else if s = [109, 117, 108] then .int (i * j) else .int (i - j)
def nums1 : List (List Nat) := [[97, 98, 115], [100, 111, 117, 98, 108, 101], [104, 97, 108, 102], [105, 115, 95, 101, 118, 101, 110], [110, 101, 103], [110, 117, 109, 98, 101, 114, 95, 116, 101, 120, 116], [117, 112, 95, 116, 111]]
def nums2 : List (List Nat) := [[97, 100, 100], [100, 105, 118, 105, 100, 101], [101, 113, 117, 97, 108], [108, 101, 115, 115], [109, 97, 120], [109, 105, 110], [109, 111, 100], [109, 117, 108], [115, 117, 98]]
theorem P_digits {i : Int} (h : inR i = true) : f_digits_of.F [.int i] = .ok (if i < 0 then .non else .str (intS i)) [] := by
  have hb : i.natAbs < 10 ^ 100 := by
    obtain ⟨h1, h2⟩ := inR_iff.mp h
    exact Nat.lt_of_le_of_lt (m := 1000000) (by omega) (by decide)
  by_cases h0 : i < 0
  · simp [f_digits_of, b_digits_of, runF, startE, finO, outsOf, inoutSlots, slotsFrom, lim, List.replicate, h0]
  · simp [f_digits_of, b_digits_of, runF, startE, finO, outsOf, inoutSlots, slotsFrom, lim, List.replicate, h0, hb]
theorem upTo_lc {e : E} {n i : Nat} {x : Sl} {ρ : En} (he : evE e = evE (.bin .add (.v i) (.c (.int 1)))) (hn : n ≤ 1000) (hρ : ρ[i]? = some .no) (h0 : 0 < i) :
    lcGo (.n i) [i] (lcBody (evTs []) (evE e)) (rng 0 (n : Int)) [] ρ = .ok ((List.range n).map fun (k : Nat) => D.int ((k : Int) + 1)) ρ := by
  rw [rng_nat]
  refine lc_of (s := .no) hρ (fun k hk => ?_) (by rw [List.length_range]; exact Nat.le_trans hn (by decide))
  rw [he]
  have hlt : i < ρ.length := (List.getElem?_eq_some_iff.mp hρ).1
  cases ρ with
  | nil => cases hlt
  | cons a r =>
    obtain ⟨j, rfl⟩ : ∃ j, i = j + 1 := ⟨i - 1, by omega⟩
    have hj : j < r.length := by simpa using hlt
    simp [runF, startE, finO, outsOf, inoutSlots, slotsFrom, lim, List.replicate, hj]
theorem up_go {i z : Int} {w : List D} (h : ¬ 12 < i) (hm : Mini.bi .max2 [.int 0, .int i] = some (.int z)) (hr : rngOk z = true) (e : lcGo (.n 1) [1] (lcBody (evTs []) (evE e_numbers_up_to_1)) (rng 0 z) [] [.val (.int i), .no] = .ok w [.val (.int i), .no]) :
    f_numbers_up_to.F [.int i] = .ok (.tup w) [] := by
  simp [f_numbers_up_to, b_numbers_up_to, runF, startE, finO, outsOf, inoutSlots, slotsFrom, lim, List.replicate, h, hm, hr, e, -q_lc_cons, -q_lc_nil, -q_bi_max]
theorem P_upto {i : Int} (h : inR i = true) : f_numbers_up_to.F [.int i] = .ok (if 12 < i then .non else upTo i.toNat) [] := by
  by_cases h0 : 12 < i
  · simp [f_numbers_up_to, b_numbers_up_to, runF, startE, finO, outsOf, inoutSlots, slotsFrom, lim, List.replicate, h0]
  · rw [if_neg h0]
    refine up_go h0 (z := (i.toNat : Nat)) ?_ (rngOk_of (by omega) (by omega)) (upTo_lc (i := 1) (x := .no) rfl (by omega) rfl (by omega))
    rw [q_bi_max]
    congr 2
    split <;> omega
theorem two_i {i : Int} : 2 * i = i * 2 := by omega
theorem p1_go {dg up : CallF} {s : List Nat} {i : Int} (m1 : dg.md = [false]) (h1 : dg.F [.int i] = .ok (if i < 0 then .non else .str (intS i)) []) (m2 : up.md = [false]) (h2 : up.F [.int i] = .ok (if 12 < i then .non else upTo i.toNat) []) (hs : s ∈ nums1) :
    leaveO [false, false] false (exSs 1000000 [.ite (.cmp .eq (.v 0) (.c (.str [97, 98, 115]))) [.ret (.bi .abs [.v 1])] [], .ite (.cmp .eq (.v 0) (.c (.str [100, 111, 117, 98, 108, 101]))) [.ret (.bin .mul (.c (.int 2)) (.v 1))] [], .ite (.cmp .eq (.v 0) (.c (.str [104, 97, 108, 102]))) [.ret (.bin .fdiv (.v 1) (.c (.int 2)))] [],
      .ite (.cmp .eq (.v 0) (.c (.str [105, 115, 95, 101, 118, 101, 110]))) [.ret (.cmp .eq (.bin .mod (.bi .int [.v 1]) (.c (.int 2))) (.c (.int 0)))] [], .ite (.cmp .eq (.v 0) (.c (.str [110, 101, 103]))) [.ret (.neg (.v 1))] [], .ite (.cmp .eq (.v 0) (.c (.str [110, 117, 109, 98, 101, 114, 95, 116, 101, 120, 116]))) [.ret (.call dg [.v 1])] [], .ret (.call up [.v 1])] [.val (.str s), .val (.int i)]) = .ok (num1 s i) [] := by
  have s2 : small 2 = true := by decide
  simp only [nums1, List.mem_cons, List.not_mem_nil, or_false] at hs
  rcases hs with rfl | rfl | rfl | rfl | rfl | rfl | rfl
  · simp [runF, startE, finO, outsOf, inoutSlots, slotsFrom, lim, List.replicate, num1]
  · simp [runF, startE, finO, outsOf, inoutSlots, slotsFrom, lim, List.replicate, num1, s2]
  · simp [runF, startE, finO, outsOf, inoutSlots, slotsFrom, lim, List.replicate, num1]
  · simp [runF, startE, finO, outsOf, inoutSlots, slotsFrom, lim, List.replicate, num1]
  · simp [runF, startE, finO, outsOf, inoutSlots, slotsFrom, lim, List.replicate, num1]
  · simp [runF, startE, finO, outsOf, inoutSlots, slotsFrom, lim, List.replicate, num1, m1, h1]
  · simp [runF, startE, finO, outsOf, inoutSlots, slotsFrom, lim, List.replicate, num1, m2, h2]
theorem P_number {s : List Nat} {i : Int} (hs : s ∈ nums1) (h : inR i = true) : f_apply_to_number.F [.str s, .int i] = .ok (num1 s i) [] := p1_go (dg := f_digits_of) (up := f_numbers_up_to) rfl (P_digits h) rfl (P_upto h) hs
theorem max_i {i j : Int} : (if j > i then j else i) = max i j := by
  split <;> omega
theorem min_i {i j : Int} : (if j < i then j else i) = min i j := by
  split <;> omega
theorem P_quot {i j : Int} (h : inR j = true) : f_floor_quotient.F [.int i, .int j] = .ok (if j = 0 then .non else .int (i.fdiv j)) [] := by
  have hb : j.natAbs < 1073741824 := by have := inR_iff.mp h; omega
  by_cases h0 : j = 0
  · simp [f_floor_quotient, b_floor_quotient, runF, startE, finO, outsOf, inoutSlots, slotsFrom, lim, List.replicate, h0]
  · simp [f_floor_quotient, b_floor_quotient, runF, startE, finO, outsOf, inoutSlots, slotsFrom, lim, List.replicate, h0, hb]
theorem P_rem {i j : Int} (h : inR j = true) : f_remainder.F [.int i, .int j] = .ok (if j = 0 then .non else .int (i - j * i.fdiv j)) [] := by
  have hb : j.natAbs < 1073741824 := by have := inR_iff.mp h; omega
  have hs := small_of h
  by_cases h0 : j = 0
  · simp [f_remainder, b_remainder, runF, startE, finO, outsOf, inoutSlots, slotsFrom, lim, List.replicate, h0]
  · simp [f_remainder, b_remainder, runF, startE, finO, outsOf, inoutSlots, slotsFrom, lim, List.replicate, h0, hb, hs]
theorem p2_go {fq rm : CallF} {s : List Nat} {i j : Int} (hi : small i = true) (m1 : fq.md = [false, false]) (h1 : fq.F [.int i, .int j] = .ok (if j = 0 then .non else .int (i.fdiv j)) []) (m2 : rm.md = [false, false]) (h2 : rm.F [.int i, .int j] = .ok (if j = 0 then .non else .int (i - j * i.fdiv j)) []) (hs : s ∈ nums2) :
    leaveO [false, false, false] false (exSs 1000000 [.ite (.cmp .eq (.v 0) (.c (.str [97, 100, 100]))) [.ret (.bin .add (.v 1) (.v 2))] [], .ite (.cmp .eq (.v 0) (.c (.str [100, 105, 118, 105, 100, 101]))) [.ret (.call fq [.v 1, .v 2])] [], .ite (.cmp .eq (.v 0) (.c (.str [101, 113, 117, 97, 108]))) [.ret (.cmp .eq (.v 1) (.v 2))] [],
      .ite (.cmp .eq (.v 0) (.c (.str [108, 101, 115, 115]))) [.ret (.cmp .lt (.v 1) (.v 2))] [], .ite (.cmp .eq (.v 0) (.c (.str [109, 97, 120]))) [.ret (.bi .max2 [.v 1, .v 2])] [], .ite (.cmp .eq (.v 0) (.c (.str [109, 105, 110]))) [.ret (.bi .min2 [.v 1, .v 2])] [],
      .ite (.cmp .eq (.v 0) (.c (.str [109, 111, 100]))) [.ret (.call rm [.v 1, .v 2])] [], .ite (.cmp .eq (.v 0) (.c (.str [109, 117, 108]))) [.ret (.bin .mul (.v 1) (.v 2))] [], .ret (.bin .sub (.v 1) (.v 2))] [.val (.str s), .val (.int i), .val (.int j)]) = .ok (num2 s i j) [] := by
  simp only [nums2, List.mem_cons, List.not_mem_nil, or_false] at hs
  rcases hs with rfl | rfl | rfl | rfl | rfl | rfl | rfl | rfl | rfl
  · simp [runF, startE, finO, outsOf, inoutSlots, slotsFrom, lim, List.replicate, num2]
  · simp [runF, startE, finO, outsOf, inoutSlots, slotsFrom, lim, List.replicate, num2, m1, h1]
  · simp [runF, startE, finO, outsOf, inoutSlots, slotsFrom, lim, List.replicate, num2]
  · simp [runF, startE, finO, outsOf, inoutSlots, slotsFrom, lim, List.replicate, num2]
  · simp [runF, startE, finO, outsOf, inoutSlots, slotsFrom, lim, List.replicate, num2, ← max_i]
  · simp [runF, startE, finO, outsOf, inoutSlots, slotsFrom, lim, List.replicate, num2, ← min_i]
  · simp [runF, startE, finO, outsOf, inoutSlots, slotsFrom, lim, List.replicate, num2, m2, h2]
  · simp [runF, startE, finO, outsOf, inoutSlots, slotsFrom, lim, List.replicate, num2, hi]
  · simp [runF, startE, finO, outsOf, inoutSlots, slotsFrom, lim, List.replicate, num2]
theorem P_numbers {s : List Nat} {i j : Int} (hs : s ∈ nums2) (hi : inR i = true) (hj : inR j = true) : f_apply_to_numbers.F [.str s, .int i, .int j] = .ok (num2 s i j) [] := p2_go (fq := f_floor_quotient) (rm := f_remainder) (small_of hi) rfl (P_quot hj) rfl (P_rem hj) hs
end K55
end

section
set_option Elab.async false
set_option linter.all false
set_option maxRecDepth 100000
set_option maxHeartbeats 4000000
namespace K55
open PySem L2 Mini
theorem in_strs (s : List Nat) (L : List (List Nat)) : inO (.str s) (L.map .str) = some (decide (s ∈ L)) := by
  unfold inO
  have hd : deps (L.map D.str) = 0 := by
    induction L with
    | nil => rfl
    | cons x L ih =>
      show max 0 (deps (L.map D.str)) = 0
      rw [ih]
      rfl
  rw [if_pos (by rw [hd]; show max 0 0 ≤ 60; decide)]
  clear hd
  congr 1
  rw [List.any_map]
  induction L with
  | nil => rfl
  | cons x L ih =>
    rw [List.any_cons, ih]
    show ((x == s) || _) = _
    by_cases h : x = s
    · simp [h]
    · have h' : ¬ s = x := fun z => h z.symm
      simp [h, h']
theorem run_eq {n m : Nat} {md : List Bool} {fr : Bool} {b : List S} {ds : List D} {ρ : En} (h : startE m md ds = some ρ) : runF n m md fr b ds = leaveO md fr (exSs n b ρ) := by
  unfold runF
  rw [h]
/-! ### numbers, the law's way -/
theorem ln_p0 {s : List Nat} {ds : List D} {i j : Int} (h0 : atI ds 0 = some (.int i)) (h1 : atI ds ((ds.length : Int) - 1) = some (.int j)) (hp : cop .isIn (.str s) (.lst [.str [100, 105, 118, 105, 100, 101], .str [109, 111, 100]]) = some false) :
    exSs 1000000 [.set 2 (.ix (.v 1) (.c (.int 0))), .set 3 (.ix (.v 1) (.bin .sub (.bi .len [.v 1]) (.c (.int 1)))), .ite (.and [.cmp .isIn (.v 0) (.lst [.c (.str [100, 105, 118, 105, 100, 101]), .c (.str [109, 111, 100])]), .cmp .eq (.v 3) (.c (.int 0))]) [.ret (.c (.non))] []]
      [.val (.str s), .val (.lst ds), .no, .no, .no] = .nx [.val (.str s), .val (.lst ds), .val (.int i), .val (.int j), .no] := by
  simp [runF, startE, finO, outsOf, inoutSlots, slotsFrom, lim, List.replicate, h0, h1, hp, -q_cop_in, -q_mem_lst]
theorem ln_p1 {s : List Nat} {ds : List D} {i j : Int} (h0 : atI ds 0 = some (.int i)) (h1 : atI ds ((ds.length : Int) - 1) = some (.int j)) (hp : cop .isIn (.str s) (.lst [.str [100, 105, 118, 105, 100, 101], .str [109, 111, 100]]) = some true) :
    exSs 1000000 [.set 2 (.ix (.v 1) (.c (.int 0))), .set 3 (.ix (.v 1) (.bin .sub (.bi .len [.v 1]) (.c (.int 1)))), .ite (.and [.cmp .isIn (.v 0) (.lst [.c (.str [100, 105, 118, 105, 100, 101]), .c (.str [109, 111, 100])]), .cmp .eq (.v 3) (.c (.int 0))]) [.ret (.c (.non))] []]
      [.val (.str s), .val (.lst ds), .no, .no, .no] = if j = 0 then .ret (.d .non) [.val (.str s), .val (.lst ds), .val (.int i), .val (.int j), .no] else .nx [.val (.str s), .val (.lst ds), .val (.int i), .val (.int j), .no] := by
  by_cases hj : j = 0
  · subst hj
    simp [runF, startE, finO, outsOf, inoutSlots, slotsFrom, lim, List.replicate, h0, h1, hp, -q_cop_in, -q_mem_lst]
  · simp [runF, startE, finO, outsOf, inoutSlots, slotsFrom, lim, List.replicate, h0, h1, hp, hj, -q_cop_in, -q_mem_lst]
theorem ch_no {s k : List Nat} {A ss : List S} {r : En} (h : s ≠ k) : exSs 1000000 (.ite (.cmp .eq (.v 0) (.c (.str k))) A [] :: ss) (.val (.str s) :: r) = exSs 1000000 ss (.val (.str s) :: r) := by
  simp [runF, startE, finO, outsOf, inoutSlots, slotsFrom, lim, List.replicate, h]
theorem ch_yes {s : List Nat} {A ss : List S} {r : En} : exSs 1000000 (.ite (.cmp .eq (.v 0) (.c (.str s))) A [] :: ss) (.val (.str s) :: r) = (exSs 1000000 A (.val (.str s) :: r)).seq fun ρ => exSs 1000000 ss ρ := by
  simp [runF, startE, finO, outsOf, inoutSlots, slotsFrom, lim, List.replicate]
theorem lv_ret {A ss : List S} {md : List Bool} {ρ ρ' : En} {d : D} (h : exSs 1000000 A ρ = .ret (.d d) ρ') : leaveO md false ((exSs 1000000 A ρ).seq fun ρ => exSs 1000000 ss ρ) = finO md d ρ' := by
  rw [h]
  rfl
theorem q_ret_of {A ss : List S} {ρ ρ' : En} {x : Rv} (h : exSs 1000000 A ρ = .ret x ρ') : ((exSs 1000000 A ρ).seq fun ρ => exSs 1000000 ss ρ) = .ret x ρ' := by
  rw [h]
  rfl
def notK (s : List Nat) : S → Bool
  | .ite (.cmp .eq (.v 0) (.c (.str k))) _ [] => decide (s ≠ k)
  | _ => false
theorem notK_ok {s : List Nat} {t : S} (h : notK s t = true) : ∃ k A, t = .ite (.cmp .eq (.v 0) (.c (.str k))) A [] ∧ s ≠ k := by
  unfold notK at h
  split at h
  · exact ⟨_, _, rfl, of_decide_eq_true h⟩
  · cases h
theorem pre_ok {s : List Nat} {pre : List S} (h : pre.all (notK s) = true) : ∀ t ∈ pre, ∃ k A, t = .ite (.cmp .eq (.v 0) (.c (.str k))) A [] ∧ s ≠ k := fun t ht => notK_ok (List.all_eq_true.mp h t ht)
theorem chain_end {s : List Nat} {b pre post : List S} {r : En} (hb : b = pre ++ post) (hp : pre.all (notK s) = true) : exSs 1000000 b (.val (.str s) :: r) = exSs 1000000 post (.val (.str s) :: r) := by
  rw [hb]
  clear hb
  induction pre with
  | nil => rfl
  | cons t pre ih =>
    obtain ⟨k, A, rfl, hk⟩ := pre_ok hp _ (List.mem_cons_self ..)
    rw [List.cons_append, ch_no hk]
    rw [List.all_cons, Bool.and_eq_true] at hp
    exact ih hp.2
theorem chain_hit {s : List Nat} {b pre post A : List S} {r ρ' : En} {x : Rv} (hb : b = pre ++ .ite (.cmp .eq (.v 0) (.c (.str s))) A [] :: post) (hp : pre.all (notK s) = true) (he : exSs 1000000 A (.val (.str s) :: r) = .ret x ρ') : exSs 1000000 b (.val (.str s) :: r) = .ret x ρ' := by
  rw [chain_end hb hp, ch_yes]
  exact q_ret_of he
theorem ret_of {e : E} {ρ : En} {d : D} (h : evE e ρ = .ok (.d d) ρ) : exSs 1000000 [.ret e] ρ = .ret (.d d) ρ := by
  rw [show exSs 1000000 [.ret e] ρ = ((evE e ρ).out fun x ρ => .ret x ρ).seq fun ρ => exSs 1000000 [] ρ from rfl, h, q_out_ok, q_seq_ret]
theorem fin0 {s : List Nat} {r : En} {d : D} : leaveO [false, false] false (.ret (.d d) (.val (.str s) :: r)) = .ok d [] := rfl
end K55
end

section
set_option Elab.async false
set_option linter.all false
set_option maxRecDepth 100000
set_option maxHeartbeats 4000000
namespace K55
open PySem L2 Mini
/-! ### texts -/
def wst (p : Nat) : List Nat → Nat
  | [] => 0
  | c :: cs => (if c ≠ 32 ∧ p = 32 then 1 else 0) + wst c cs
def numOk (x : List Nat) : Bool := !x.isEmpty && x.all isDig && (decide (x.headD 0 ≠ 48) || decide (x = [48]))
def inS (y x : List Nat) : Bool := match y with
  | [c] => x.contains c
  | y => subOf y x
def txt1 (s : List Nat) (x : List Nat) : D :=
  if s = [108, 101, 110, 103, 116, 104] then .int (x.length : Int) else if s = [114, 101, 118, 101, 114, 115, 101, 95, 116, 101, 120, 116] then .str x.reverse else if s = [116, 101, 120, 116, 95, 110, 117, 109, 98, 101, 114] then (if numOk x = true then .int (digVal x : Nat) else .non) else .int (wst 32 x : Nat)
def txt2 (s : List Nat) (x y : List Nat) : D := if s = [99, 111, 110, 99, 97, 116] then .str (x ++ y) else if s = [99, 111, 110, 116, 97, 105, 110, 115] then .bl (inS y x) else .bl (decide (x = y))
def rep (x : List Nat) (n : Int) : D := if n < 0 ∨ 30 < (x.length : Int) * n then .non else .str (List.replicate n.toNat x).flatten
def txtn (s : List Nat) (x : List Nat) (n : Int) : D := if s = [114, 101, 112, 101, 97, 116] then rep x n else if s = [115, 107, 105, 112] then .str (x.drop n.toNat) else .str (x.take n.toNat)
def txts1 : List (List Nat) := [[108, 101, 110, 103, 116, 104], [114, 101, 118, 101, 114, 115, 101, 95, 116, 101, 120, 116], [116, 101, 120, 116, 95, 110, 117, 109, 98, 101, 114], [119, 111, 114, 100, 115]]
def txts2 : List (List Nat) := [[99, 111, 110, 99, 97, 116], [99, 111, 110, 116, 97, 105, 110, 115], [115, 97, 109, 101, 95, 116, 101, 120, 116]]
def txtsn : List (List Nat) := [[114, 101, 112, 101, 97, 116], [115, 107, 105, 112], [115, 116, 97, 114, 116]]
theorem flat_nil (n : Nat) : (List.replicate n ([] : List Nat)).flatten = [] := by
  induction n with
  | zero => rfl
  | succ n ih => rw [List.replicate_succ, List.flatten_cons, ih]; rfl
theorem copies_a {X : D} {n m p : Int} (hl : Mini.bi .len [X] = some (.int m)) (hp : bop .mul (.int m) (.int n) = some (.int p)) (h : n < 0 ∨ 30 < p) : f_copies.F [X, .int n] = .ok .non [] := by
  by_cases h0 : n < 0
  · simp [f_copies, b_copies, runF, startE, finO, outsOf, inoutSlots, slotsFrom, lim, List.replicate, h0]
  · have h1 : 30 < p := by omega
    simp [f_copies, b_copies, runF, startE, finO, outsOf, inoutSlots, slotsFrom, lim, List.replicate, h0, hl, hp, h1, -q_len_str, -q_bop_mul]
theorem copies_b {X W : D} {n m p : Int} {b : Bool} (hl : Mini.bi .len [X] = some (.int m)) (hp : bop .mul (.int m) (.int n) = some (.int p)) (h0 : ¬ n < 0) (h1 : ¬ 30 < p) (hx : eqO X (.str []) = some b) (hw : b = false → bop .mul X (.int n) = some W) : f_copies.F [X, .int n] = .ok (if b = true then .str [] else W) [] := by
  cases b with
  | true => simp [f_copies, b_copies, runF, startE, finO, outsOf, inoutSlots, slotsFrom, lim, List.replicate, h0, hl, hp, h1, hx, -q_len_str, -q_bop_mul]
  | false =>
    have hw := hw rfl
    simp [f_copies, b_copies, runF, startE, finO, outsOf, inoutSlots, slotsFrom, lim, List.replicate, h0, hl, hp, h1, hx, hw, -q_len_str, -q_bop_mul]
theorem P_copies {x : List Nat} {n : Int} (hx : x.length ≤ 30) (hn : inR n = true) : f_copies.F [.str x, .int n] = .ok (rep x n) [] := by
  have hl : Mini.bi .len [.str x] = some (.int (x.length : Int)) := rfl
  have hp : bop .mul (.int (x.length : Int)) (.int n) = some (.int ((x.length : Int) * n)) := by
    rw [q_bop_mul, small_of hn, Bool.or_true, if_pos rfl]
  by_cases h : n < 0 ∨ 30 < (x.length : Int) * n
  · rw [copies_a hl hp h, rep, if_pos h]
  · rw [rep, if_neg h]
    have h0 : ¬ n < 0 := fun z => h (Or.inl z)
    have h1 : ¬ 30 < (x.length : Int) * n := fun z => h (Or.inr z)
    have hx' : eqO (.str x) (.str []) = some (decide (x = [])) := q_eq_ss
    rw [copies_b (W := .str (List.replicate n.toNat x).flatten) hl hp h0 h1 hx' fun hb => ?_]
    · by_cases hz : x = []
      · rw [if_pos (decide_eq_true hz), hz, flat_nil]
      · rw [if_neg (by rw [decide_eq_false hz]; decide)]
    · have hz : x ≠ [] := of_decide_eq_false hb
      have hlen : 1 ≤ x.length := by cases x with
        | nil => exact absurd rfl hz
        | cons c x => rw [List.length_cons]; omega
      have hle : 1 * n ≤ (x.length : Int) * n := Int.mul_le_mul_of_nonneg_right (by omega) (by omega)
      rw [q_bop_mul_s, if_pos ⟨by omega, by omega, by omega⟩]
theorem dig_in (c : Nat) : ([48, 49, 50, 51, 52, 53, 54, 55, 56, 57] : List Nat).contains c = isDig c := by
  unfold isDig
  rw [Bool.eq_iff_iff, List.contains_iff_mem, Bool.and_eq_true, decide_eq_true_eq, decide_eq_true_eq]
  simp only [List.mem_cons, List.not_mem_nil, or_false]
  omega
theorem int_dig {x : List Nat} (h0 : x ≠ []) (hd : x.all isDig = true) (hl : x.length ≤ 640) : Mini.bi .int [.str x] = some (.int (digVal x : Nat)) := by
  have key : ∀ c cs, x = c :: cs → isDig c = true := fun c cs e => by
    rw [e, List.all_cons, Bool.and_eq_true] at hd
    exact hd.1
  have q : Mini.bi .int [.str x] = (if x.length ≤ 640 then (match x with
    | 45 :: cs => if cs ≠ [] ∧ cs.all isDig = true then some (.int (-((digVal cs : Nat) : Int))) else none
    | _ => if x ≠ [] ∧ x.all isDig = true then some (.int (digVal x)) else none) else none) := rfl
  rw [q, if_pos hl]
  split
  · rename_i cs
    have := key 45 cs rfl
    cases this
  · rw [if_pos ⟨h0, hd⟩]
theorem no_a : f_number_of.F [.str []] = .ok .non [] := by rfl
theorem no_b {c : Nat} {cs : List Nat} {bs : List D} {p : Bool} (e : lcGo (.n 1) [1] (lcBody (evTs []) (evE e_number_of_1)) ((c :: cs).map fun c => .str [c]) [] [.val (.str (c :: cs)), .no] = .ok bs [.val (.str (c :: cs)), .no])
    (ha : Mini.bi .all [.lst bs] = some (.bl p)) (h : p = false ∨ (c = 48 ∧ cs ≠ [])) : f_number_of.F [.str (c :: cs)] = .ok .non [] := by
  rw [List.map_cons] at e
  cases p with
  | false => simp [f_number_of, b_number_of, runF, startE, finO, outsOf, inoutSlots, slotsFrom, lim, List.replicate, e, ha, -q_lc_cons, -q_lc_nil, -q_bi_all]
  | true =>
    obtain ⟨rfl, h2⟩ := h.resolve_left (by decide)
    simp [f_number_of, b_number_of, runF, startE, finO, outsOf, inoutSlots, slotsFrom, lim, List.replicate, e, ha, h2, -q_lc_cons, -q_lc_nil, -q_bi_all]
theorem no_c {c : Nat} {cs : List Nat} {bs : List D} {v : Int} (e : lcGo (.n 1) [1] (lcBody (evTs []) (evE e_number_of_1)) ((c :: cs).map fun c => .str [c]) [] [.val (.str (c :: cs)), .no] = .ok bs [.val (.str (c :: cs)), .no])
    (ha : Mini.bi .all [.lst bs] = some (.bl true)) (h : c = 48 → cs = []) (hi : Mini.bi .int [.str (c :: cs)] = some (.int v)) : f_number_of.F [.str (c :: cs)] = .ok (.int v) [] := by
  rw [List.map_cons] at e
  by_cases hc : c = 48
  · have hn := h hc
    subst hc
    subst hn
    rw [List.map_nil] at e
    simp [f_number_of, b_number_of, runF, startE, finO, outsOf, inoutSlots, slotsFrom, lim, List.replicate, e, ha, hi, -q_lc_cons, -q_lc_nil, -q_bi_all]
  · simp [f_number_of, b_number_of, runF, startE, finO, outsOf, inoutSlots, slotsFrom, lim, List.replicate, e, ha, hc, hi, -q_lc_cons, -q_lc_nil, -q_bi_all]
theorem P_numof {x : List Nat} (hx : x.length ≤ 30) : f_number_of.F [.str x] = .ok (if numOk x = true then .int (digVal x : Nat) else .non) [] := by
  cases x with
  | nil => exact no_a
  | cons c cs =>
    have e : lcGo (.n 1) [1] (lcBody (evTs []) (evE e_number_of_1)) ((c :: cs).map fun c => .str [c]) [] [.val (.str (c :: cs)), .no] = .ok ((c :: cs).map fun c => .bl (isDig c)) [.val (.str (c :: cs)), .no] := by
      refine lc_of (s := .no) rfl (fun d hd => ?_) (Nat.le_trans hx (by decide))
      have := dig_in d
      simp [e_number_of_1, runF, startE, finO, outsOf, inoutSlots, slotsFrom, lim, List.replicate] at this ⊢
      rw [← this]
    have ha := all_lc (xs := c :: cs) (f := isDig)
    have hok : numOk (c :: cs) = ((c :: cs).all isDig && (decide (c ≠ 48) || decide (c :: cs = [48]))) := rfl
    by_cases hd : (c :: cs).all isDig = true
    · rw [hd] at ha
      by_cases hc : c = 48 ∧ cs ≠ []
      · rw [no_b e ha (Or.inr hc), hok, hd, if_neg]
        obtain ⟨rfl, h2⟩ := hc
        simp [h2]
      · have hc' : c = 48 → cs = [] := fun z => Decidable.by_contra fun z2 => hc ⟨z, z2⟩
        rw [no_c e ha hc' (int_dig (by simp) hd (by omega)), hok, hd, if_pos]
        by_cases z : c = 48
        · rw [z, hc' z]; rfl
        · simp [z]
    · rw [Bool.not_eq_true] at hd
      rw [hd] at ha
      rw [no_b e ha (Or.inl rfl), hok, hd, if_neg]
      rw [Bool.false_and]
      exact Bool.false_ne_true
theorem wst_ne {p q : Nat} (hp : p ≠ 32) (hq : q ≠ 32) (x : List Nat) : wst p x = wst q x := by
  cases x with
  | nil => rfl
  | cons c x => simp [wst, hp, hq]
theorem spl_wst : ∀ (x acc : List Nat), ((splitC 32 acc x).filter fun w => !decide (w = [])).length = if acc = [] then wst 32 x else 1 + wst 0 x := by
  intro x
  induction x with
  | nil =>
    intro acc
    cases acc <;> simp [splitC, wst]
  | cons c x ih =>
    intro acc
    by_cases hc : c = 32
    · subst hc
      have e : splitC 32 acc (32 :: x) = acc :: splitC 32 [] x := by simp [splitC]
      rw [e]
      cases acc with
      | nil => simp [ih, wst]
      | cons a acc => simp [ih, wst]; omega
    · have e : splitC 32 acc (c :: x) = splitC 32 (acc ++ [c]) x := by simp [splitC, hc]
      rw [e, ih]
      have w := wst_ne (p := c) (q := 0) hc (by decide) x
      cases acc <;> simp [wst, hc, w]
theorem t1_words {x : List Nat} {ws : List D} {ys : List (List Nat)} (hsp : me .split (.str x) [.str [32]] = some (.lst (ys.map .str)))
    (e : lcGo (.n 2) [2] (lcBody (evTs e_apply_to_text_1) (evE e_apply_to_text_2)) (ys.map .str) [] [.val (.str [119, 111, 114, 100, 115]), .val (.str x), .no] = .ok ws [.val (.str [119, 111, 114, 100, 115]), .val (.str x), .no]) :
    f_apply_to_text.F [.str [119, 111, 114, 100, 115], .str x] = .ok (.int (ws.length : Int)) [] := by
  simp [f_apply_to_text, b_apply_to_text, runF, startE, finO, outsOf, inoutSlots, slotsFrom, lim, List.replicate, hsp, e, -q_lc_cons, -q_lc_nil]
theorem t1_num {no : CallF} {x : List Nat} {v : D} (m : no.md = [false]) (h : no.F [.str x] = .ok v []) {rest : List S} {A B : E} :
    leaveO [false, false] false (exSs 1000000 (.ite (.cmp .eq (.v 0) (.c (.str [108, 101, 110, 103, 116, 104]))) [.ret A] [] :: .ite (.cmp .eq (.v 0) (.c (.str [114, 101, 118, 101, 114, 115, 101, 95, 116, 101, 120, 116]))) [.ret B] [] :: .ite (.cmp .eq (.v 0) (.c (.str [116, 101, 120, 116, 95, 110, 117, 109, 98, 101, 114]))) [.ret (.call no [.v 1])] [] :: rest) [.val (.str [116, 101, 120, 116, 95, 110, 117, 109, 98, 101, 114]), .val (.str x), .no]) = .ok v [] := by
  simp [runF, startE, finO, outsOf, inoutSlots, slotsFrom, lim, List.replicate, m, h]
theorem P_text {s x : List Nat} (hs : s ∈ txts1) (hx : x.length ≤ 30) : f_apply_to_text.F [.str s, .str x] = .ok (txt1 s x) [] := by
  simp only [txts1, List.mem_cons, List.not_mem_nil, or_false] at hs
  rcases hs with rfl | rfl | rfl | rfl
  · simp [f_apply_to_text, b_apply_to_text, runF, startE, finO, outsOf, inoutSlots, slotsFrom, lim, List.replicate, txt1]
  · simp [f_apply_to_text, b_apply_to_text, runF, startE, finO, outsOf, inoutSlots, slotsFrom, lim, List.replicate, txt1]
  · exact t1_num (no := f_number_of) rfl (P_numof hx)
  · have hsp : me .split (.str x) [.str [32]] = some (.lst ((splitC 32 [] x).map .str)) := if_pos ⟨by decide, Nat.lt_of_le_of_lt hx (by decide)⟩
    have hlen : ∀ (y acc : List Nat), (splitC 32 acc y).length ≤ y.length + 1 := by
      intro y
      induction y with
      | nil => intro acc; exact Nat.le_refl _
      | cons c y ih =>
        intro acc
        by_cases hc : c = 32
        · have e : splitC 32 acc (c :: y) = acc :: splitC 32 [] y := by simp [splitC, hc]
          rw [e, List.length_cons, List.length_cons]
          have := ih []
          omega
        · have e : splitC 32 acc (c :: y) = splitC 32 (acc ++ [c]) y := by simp [splitC, hc]
          rw [e, List.length_cons]
          have := ih (acc ++ [c])
          omega
    have e : lcGo (.n 2) [2] (lcBody (evTs e_apply_to_text_1) (evE e_apply_to_text_2)) ((splitC 32 [] x).map .str) [] [.val (.str [119, 111, 114, 100, 115]), .val (.str x), .no] = .ok (((splitC 32 [] x).filter fun w => !decide (w = [])).map .str) [.val (.str [119, 111, 114, 100, 115]), .val (.str x), .no] := by
      refine lc_sel (s := .no) rfl (fun w hw => ?_) (fun w hw hf => ?_) ?_
      · simp [e_apply_to_text_1, runF, startE, finO, outsOf, inoutSlots, slotsFrom, lim, List.replicate]
      · simp [e_apply_to_text_2, runF, startE, finO, outsOf, inoutSlots, slotsFrom, lim, List.replicate]
      · have := hlen x []
        show _ ≤ 1000000
        omega
    rw [t1_words hsp e, List.length_map, spl_wst, if_pos rfl]
    rfl
theorem P_texts {s x y : List Nat} (hs : s ∈ txts2) (hx : x.length ≤ 30) (hy : y.length ≤ 30) : f_apply_to_texts.F [.str s, .str x, .str y] = .ok (txt2 s x y) [] := by
  have hz : x.length + y.length ≤ 1000000 := by omega
  have hm : memO (.str y) (.str x) = some (inS y x) := by
    unfold inS
    split
    · rfl
    · rename_i h
      cases y with
      | nil => rfl
      | cons c y =>
        cases y with
        | nil => exact absurd rfl (h c)
        | cons d y => rfl
  have hm' : cop .isIn (.str y) (.str x) = some (inS y x) := hm
  simp only [txts2, List.mem_cons, List.not_mem_nil, or_false] at hs
  rcases hs with rfl | rfl | rfl
  · simp [f_apply_to_texts, b_apply_to_texts, runF, startE, finO, outsOf, inoutSlots, slotsFrom, lim, List.replicate, txt2, hz]
  · simp [f_apply_to_texts, b_apply_to_texts, runF, startE, finO, outsOf, inoutSlots, slotsFrom, lim, List.replicate, txt2, hm', -q_cop_in, -q_mem_1]
  · simp [f_apply_to_texts, b_apply_to_texts, runF, startE, finO, outsOf, inoutSlots, slotsFrom, lim, List.replicate, txt2]
theorem cut_hi {α : Type} {xs : List α} {n : Nat} : cutL xs none (some (n : Int)) = xs.take n := by
  unfold cutL
  have h2 : HT.sIx xs.length 0 none = 0 := rfl
  have h1 : HT.sIx xs.length xs.length (some (n : Int)) = min n xs.length := by
    simp [HT.sIx]
    omega
  rw [h1, h2, List.drop_zero, Nat.sub_zero]
  rcases Nat.le_total n xs.length with h | h
  · rw [Nat.min_eq_left h]
  · rw [Nat.min_eq_right h, List.take_length, List.take_of_length_le h]
theorem cut_lo {α : Type} {xs : List α} {n : Nat} : cutL xs (some (n : Int)) none = xs.drop n := by
  unfold cutL
  have h2 : HT.sIx xs.length xs.length none = xs.length := rfl
  have h1 : HT.sIx xs.length 0 (some (n : Int)) = min n xs.length := by
    simp [HT.sIx]
    omega
  rw [h1, h2]
  rcases Nat.le_total n xs.length with h | h
  · rw [Nat.min_eq_left h, List.take_of_length_le (by rw [List.length_drop]; omega)]
  · rw [Nat.min_eq_right h, List.drop_length, List.drop_of_length_le h, List.take_nil]
theorem max0 {n : Int} : Mini.bi .max2 [.int 0, .int n] = some (.int (n.toNat : Nat)) := by
  rw [q_bi_max]
  congr 2
  split <;> omega
theorem tn_skip {x w : List Nat} {n z : Int} (hm : Mini.bi .max2 [.int 0, .int n] = some (.int z)) (hc : cutL x (some z) none = w) : f_apply_to_text_and_number.F [.str [115, 107, 105, 112], .str x, .int n] = .ok (.str w) [] := by
  simp [f_apply_to_text_and_number, b_apply_to_text_and_number, runF, startE, finO, outsOf, inoutSlots, slotsFrom, lim, List.replicate, hm, hc, -q_bi_max]
theorem tn_start {x w : List Nat} {n z : Int} (hm : Mini.bi .max2 [.int 0, .int n] = some (.int z)) (hc : cutL x none (some z) = w) : f_apply_to_text_and_number.F [.str [115, 116, 97, 114, 116], .str x, .int n] = .ok (.str w) [] := by
  simp [f_apply_to_text_and_number, b_apply_to_text_and_number, runF, startE, finO, outsOf, inoutSlots, slotsFrom, lim, List.replicate, hm, hc, -q_bi_max]
theorem tn_rep {cp : CallF} {x : List Nat} {n : Int} {v : D} (m : cp.md = [false, false]) (h : cp.F [.str x, .int n] = .ok v []) {rest : List S} :
    leaveO [false, false, false] false (exSs 1000000 (.ite (.cmp .eq (.v 0) (.c (.str [114, 101, 112, 101, 97, 116]))) [.ret (.call cp [.v 1, .v 2])] [] :: rest) [.val (.str [114, 101, 112, 101, 97, 116]), .val (.str x), .val (.int n)]) = .ok v [] := by
  simp [runF, startE, finO, outsOf, inoutSlots, slotsFrom, lim, List.replicate, m, h]
theorem P_textn {s x : List Nat} {n : Int} (hs : s ∈ txtsn) (hx : x.length ≤ 30) (hn : inR n = true) : f_apply_to_text_and_number.F [.str s, .str x, .int n] = .ok (txtn s x n) [] := by
  simp only [txtsn, List.mem_cons, List.not_mem_nil, or_false] at hs
  rcases hs with rfl | rfl | rfl
  · exact tn_rep (cp := f_copies) rfl (P_copies hx hn)
  · exact tn_skip max0 cut_lo
  · exact tn_start max0 cut_hi
end K55
end

section
set_option Elab.async false
set_option linter.all false
set_option maxRecDepth 100000
set_option maxHeartbeats 4000000
namespace K55
open PySem L2 Mini
/-! ### lists: what the components give -/
abbrev tI (a : List Int) : D := .tup (a.map .int)
def dst (seen : List Int) : List Int → List Int
  | [] => []
  | x :: xs => (if x ∈ seen then [] else [x]) ++ dst (x :: seen) xs
def runS (t : Int) : List Int → List Int
  | [] => []
  | x :: xs => (t + x) :: runS (t + x) xs
def oI : Option Int → D
  | none => .non
  | some i => .int i
def lst1 (s : List Nat) (a : List Int) : D :=
  if s = [102, 105, 114, 115, 116] then oI a.head? else if s = [108, 97, 115, 116] then oI a.getLast? else if s = [103, 114, 101, 97, 116, 101, 115, 116] then oI (maxI a) else if s = [108, 101, 97, 115, 116] then oI (minI a) else if s = [100, 105, 115, 116, 105, 110, 99, 116] then tI (dst [] a) else if s = [105, 115, 95, 101, 109, 112, 116, 121] then .bl (decide (a = []))
  else if s = [107, 101, 101, 112, 95, 101, 118, 101, 110] then tI (a.filter fun i => decide (i.fmod 2 = 0)) else if s = [112, 114, 111, 100, 117, 99, 116] then .int (a.foldl (· * ·) 1) else if s = [114, 101, 115, 116] then (if a = [] then .non else tI (a.drop 1)) else if s = [114, 101, 118, 101, 114, 115, 101] then tI a.reverse
  else if s = [114, 117, 110, 110, 105, 110, 103] then tI (runS 0 a) else if s = [115, 105, 122, 101] then .int (a.length : Int) else if s = [115, 111, 114, 116] then tI (sortI a) else .int a.sum
def zipS (a b : List Int) : List Int := (List.range (min a.length b.length)).map fun k => a.getD k 0 + b.getD k 0
def lst2 (s : List Nat) (a b : List Int) : D := if s = [106, 111, 105, 110] then tI (a ++ b) else if s = [115, 97, 109, 101, 95, 108, 105, 115, 116] then .bl (decide (a = b)) else tI (zipS a b)
def itemS (a : List Int) (n : Int) : D := if n < 0 ∨ (a.length : Int) ≤ n then .non else .int (a.getD n.toNat 0)
def lstn (s : List Nat) (a : List Int) (n : Int) : D :=
  if s = [97, 100, 100, 95, 101, 97, 99, 104] then tI (a.map (· + n)) else if s = [97, 112, 112, 101, 110, 100] then tI (a ++ [n]) else if s = [97, 116] then itemS a n else if s = [99, 111, 117, 110, 116, 95, 111, 102] then .int ((a.countP fun y => decide (y = n) : Nat) : Int) else if s = [100, 114, 111, 112] then tI (a.drop n.toNat)
  else if s = [107, 101, 101, 112, 95, 97, 98, 111, 118, 101] then tI (a.filter fun i => decide (n < i)) else tI (a.take n.toNat)
def lstsx : List (List Nat) := [[102, 105, 114, 115, 116], [108, 97, 115, 116], [103, 114, 101, 97, 116, 101, 115, 116], [108, 101, 97, 115, 116]]
def lsts1 : List (List Nat) := [[100, 105, 115, 116, 105, 110, 99, 116], [105, 115, 95, 101, 109, 112, 116, 121], [107, 101, 101, 112, 95, 101, 118, 101, 110], [112, 114, 111, 100, 117, 99, 116], [114, 101, 115, 116], [114, 101, 118, 101, 114, 115, 101], [114, 117, 110, 110, 105, 110, 103], [115, 105, 122, 101], [115, 111, 114, 116], [115, 117, 109]]
def lsts2 : List (List Nat) := [[106, 111, 105, 110], [115, 97, 109, 101, 95, 108, 105, 115, 116], [122, 105, 112, 95, 97, 100, 100]]
def lstsn : List (List Nat) := [[97, 100, 100, 95, 101, 97, 99, 104], [97, 112, 112, 101, 110, 100], [97, 116], [99, 111, 117, 110, 116, 95, 111, 102], [100, 114, 111, 112], [107, 101, 101, 112, 95, 97, 98, 111, 118, 101], [116, 97, 107, 101]]
/-! ### small things -/
theorem dInts_map : ∀ a : List Int, dInts (a.map .int) = some a
  | [] => rfl
  | x :: a => by
    show (dInts (a.map .int)).map (x :: ·) = _
    rw [dInts_map a]
    rfl
theorem len_tI (a : List Int) : Mini.bi .len [tI a] = some (.int (a.length : Int)) := by rw [q_len_tup, List.length_map]
theorem deps_ints : ∀ a : List Int, deps (a.map .int) = 0
  | [] => rfl
  | x :: a => by
    show max 0 (deps (a.map .int)) = 0
    rw [deps_ints a]
    rfl
theorem in_ints (x : Int) (a : List Int) : inO (.int x) (a.map .int) = some (decide (x ∈ a)) := by
  unfold inO
  rw [if_pos (by rw [deps_ints]; show max 0 0 ≤ 60; decide)]
  congr 1
  rw [List.any_map]
  induction a with
  | nil => rfl
  | cons y a ih =>
    rw [List.any_cons, ih]
    show ((y == x) || _) = _
    by_cases h : y = x
    · simp [h]
    · have h' : ¬ x = y := fun z => h z.symm
      simp [h, h']
theorem deqs_ints : ∀ a b : List Int, deqs (a.map .int) (b.map .int) = decide (a = b)
  | [], [] => rfl
  | [], _ :: _ => rfl
  | _ :: _, [] => rfl
  | x :: a, y :: b => by
    show ((x == y) && deqs (a.map .int) (b.map .int)) = _
    rw [deqs_ints a b]
    by_cases h : x = y
    · simp [h]
    · simp [h]
theorem eq_tI (a b : List Int) : eqO (tI a) (tI b) = some (decide (a = b)) := by
  unfold eqO
  rw [if_pos]
  · show some (deqs _ _) = _
    rw [deqs_ints]
  · show max (deps (a.map .int) + 1) (deps (b.map .int) + 1) ≤ 60
    rw [deps_ints, deps_ints]
    decide
theorem at_tI {a : List Int} {k : Nat} (h : k < a.length) : atI (a.map D.int) (k : Int) = some (.int (a.getD k 0)) := by
  refine at_nat ?_
  rw [List.getElem?_map, List.getD_eq_getElem?_getD, List.getElem?_eq_getElem h]
  rfl
/-! ### one list, the package's way -/
theorem ex_none {s : List Nat} {X : D} (hl : Mini.bi .len [X] = some (.int 0)) : f_extreme.F [.str s, X] = .ok .non [] := by
  simp [f_extreme, b_extreme, runF, startE, finO, outsOf, inoutSlots, slotsFrom, lim, List.replicate, hl]
theorem ex_first {X W : D} {m : Int} (hm : m ≠ 0) (hl : Mini.bi .len [X] = some (.int m)) (h : atD X 0 = some W) : f_extreme.F [.str [102, 105, 114, 115, 116], X] = .ok W [] := by
  simp [f_extreme, b_extreme, runF, startE, finO, outsOf, inoutSlots, slotsFrom, lim, List.replicate, hl, hm, h]
theorem ex_last {X W : D} {m : Int} (hm : m ≠ 0) (hl : Mini.bi .len [X] = some (.int m)) (h : atD X (-1) = some W) : f_extreme.F [.str [108, 97, 115, 116], X] = .ok W [] := by
  simp [f_extreme, b_extreme, runF, startE, finO, outsOf, inoutSlots, slotsFrom, lim, List.replicate, hl, hm, h]
theorem ex_gr {X W : D} {m : Int} (hm : m ≠ 0) (hl : Mini.bi .len [X] = some (.int m)) (h : Mini.bi .max1 [X] = some W) : f_extreme.F [.str [103, 114, 101, 97, 116, 101, 115, 116], X] = .ok W [] := by
  simp [f_extreme, b_extreme, runF, startE, finO, outsOf, inoutSlots, slotsFrom, lim, List.replicate, hl, hm, h]
theorem ex_le {X W : D} {m : Int} (hm : m ≠ 0) (hl : Mini.bi .len [X] = some (.int m)) (h : Mini.bi .min1 [X] = some W) : f_extreme.F [.str [108, 101, 97, 115, 116], X] = .ok W [] := by
  simp [f_extreme, b_extreme, runF, startE, finO, outsOf, inoutSlots, slotsFrom, lim, List.replicate, hl, hm, h]
theorem at_last {α : Type} : ∀ {a : List α} {x : α}, a.getLast? = some x → atI a (-1) = some x := by
  intro a x h
  have hne : a ≠ [] := fun z => by rw [z] at h; cases h
  have hlen : 0 < a.length := List.length_pos_iff.mpr hne
  rw [List.getLast?_eq_getElem?] at h
  unfold atI ixN
  rw [if_neg (by omega), if_pos (by omega)]
  have e : (-1 + (a.length : Int)).toNat = a.length - 1 := by omega
  show a[(-1 + (a.length : Int)).toNat]? = _
  rw [e, h]
theorem P_extreme {s : List Nat} {a : List Int} (hs : s ∈ lstsx) : f_extreme.F [.str s, tI a] = .ok (lst1 s a) [] := by
  cases a with
  | nil =>
    rw [ex_none rfl]
    simp only [lstsx, List.mem_cons, List.not_mem_nil, or_false] at hs
    rcases hs with rfl | rfl | rfl | rfl <;> rfl
  | cons x a =>
    have hm : ((x :: a).length : Int) ≠ 0 := by rw [List.length_cons]; omega
    have hl := len_tI (x :: a)
    simp only [lstsx, List.mem_cons, List.not_mem_nil, or_false] at hs
    rcases hs with rfl | rfl | rfl | rfl
    · exact ex_first hm hl q_at0
    · obtain ⟨y, hy⟩ : ∃ y, (x :: a).getLast? = some y := by
        cases h : (x :: a).getLast? with
        | none => rw [List.getLast?_eq_none_iff] at h; cases h
        | some y => exact ⟨y, rfl⟩
      have e : lst1 [108, 97, 115, 116] (x :: a) = .int y := by
        show oI (x :: a).getLast? = _
        rw [hy]
        rfl
      rw [e]
      refine ex_last hm hl (at_last ?_)
      rw [List.getLast?_map, hy]
      rfl
    · refine ex_gr hm hl ?_
      rw [q_bi_max1_t, dInts_map]
      rfl
    · refine ex_le hm hl ?_
      rw [q_bi_min1_t, dInts_map]
      rfl
theorem dst_congr : ∀ (xs s1 s2 : List Int), (∀ z, z ∈ s1 ↔ z ∈ s2) → dst s1 xs = dst s2 xs := by
  intro xs
  induction xs with
  | nil => intro _ _ _; rfl
  | cons x xs ih =>
    intro s1 s2 h
    show (if x ∈ s1 then [] else [x]) ++ dst (x :: s1) xs = (if x ∈ s2 then [] else [x]) ++ dst (x :: s2) xs
    rw [ih (x :: s1) (x :: s2) (fun z => by rw [List.mem_cons, List.mem_cons, h z])]
    congr 1
    simp only [h x]
theorem db_go {X : D} {x : Int} {K : List D} {p : Bool} (hp : cop .notIn (.int x) (.lst K) = some p) (hl : K.length < 1000000) : exSs 1000000 l_distinct_1 [.val X, .own K, .val (.int x)] = .nx [.val X, .own (if p = true then K ++ [.int x] else K), .val (.int x)] := by
  cases p <;> simp [l_distinct_1, runF, startE, finO, outsOf, inoutSlots, slotsFrom, lim, List.replicate, hp, hl, -q_cop_nin, -q_mem_lst]
theorem dl_go {X : D} : ∀ (xs ks : List Int) (o : Option D), ks.length + xs.length ≤ 1000000 → ∃ o', forGo (.n 2) (exSs 1000000 l_distinct_1) (xs.map .int) [.val X, .own (ks.map .int), sl o] = .nx [.val X, .own ((ks ++ dst ks xs).map .int), sl o'] := by
  intro xs
  induction xs with
  | nil => intro ks o _; exact ⟨o, by rw [List.map_nil, q_fo_nil]; simp [dst]⟩
  | cons x xs ih =>
    intro ks o hz
    rw [List.length_cons] at hz
    have hp : cop .notIn (.int x) (.lst (ks.map .int)) = some (!decide (x ∈ ks)) := by
      rw [q_cop_nin, q_mem_lst, in_ints]
      rfl
    have hb := db_go (X := X) hp (by rw [List.length_map]; omega)
    have hbind : bindT (.n 2) (.int x) [.val X, .own (ks.map .int), sl o] = some [.val X, .own (ks.map .int), .val (.int x)] := by cases o <;> rfl
    rw [List.map_cons, q_for_cons, hbind]
    simp only []
    rw [hb]
    simp only []
    by_cases h : x ∈ ks
    · rw [if_neg (by simp [h])]
      obtain ⟨o', e⟩ := ih ks (some (.int x)) (by omega)
      refine ⟨o', e.trans ?_⟩
      show Out.nx [_, .own ((ks ++ dst ks xs).map .int), _] = .nx [_, .own ((ks ++ ((if x ∈ ks then [] else [x]) ++ dst (x :: ks) xs)).map .int), _]
      rw [if_pos h, List.nil_append, dst_congr xs (x :: ks) ks fun z => ⟨fun hz => (List.mem_cons.mp hz).elim (fun e => e ▸ h) id, fun hz => List.mem_cons_of_mem _ hz⟩]
    · rw [if_pos (by simp [h])]
      have e0 : ks.map D.int ++ [.int x] = (ks ++ [x]).map .int := by rw [List.map_append]; rfl
      rw [e0]
      obtain ⟨o', e⟩ := ih (ks ++ [x]) (some (.int x)) (by rw [List.length_append, List.length_singleton]; omega)
      refine ⟨o', e.trans ?_⟩
      show Out.nx [_, .own ((ks ++ [x] ++ dst (ks ++ [x]) xs).map .int), _] = .nx [_, .own ((ks ++ ((if x ∈ ks then [] else [x]) ++ dst (x :: ks) xs)).map .int), _]
      rw [if_neg h, dst_congr xs (ks ++ [x]) (x :: ks) fun z => by simp [or_comm], List.append_assoc]
theorem di_end {X : D} {xs K : List D} {o : Option D} (hi : items X = some xs) (e : forGo (.n 2) (exSs 1000000 l_distinct_1) xs [.val X, .own [], .no] = .nx [.val X, .own K, sl o]) : f_distinct.F [X] = .ok (.tup K) [] := by
  cases o <;> simp [f_distinct, b_distinct, runF, startE, finO, outsOf, inoutSlots, slotsFrom, lim, List.replicate, hi, e, sl, -q_fo_nil]
theorem P_distinct {a : List Int} (ha : a.length ≤ 12) : f_distinct.F [tI a] = .ok (tI (dst [] a)) [] := by
  obtain ⟨o, e⟩ := dl_go (X := tI a) a [] none (by rw [List.length_nil]; omega)
  exact di_end rfl e
theorem pl_go {X : D} : ∀ (xs : List Int) (r : Int) (o : Option D), (∀ x ∈ xs, inR x = true) → ∃ o', forGo (.n 2) (exSs 1000000 l_product_1) (xs.map .int) [.val X, .val (.int r), sl o] = .nx [.val X, .val (.int (xs.foldl (· * ·) r)), sl o'] := by
  intro xs
  induction xs with
  | nil => intro r o _; exact ⟨o, rfl⟩
  | cons x xs ih =>
    intro r o h
    have hs := small_of (h x (List.mem_cons_self ..))
    have hb : exSs 1000000 l_product_1 [.val X, .val (.int r), .val (.int x)] = .nx [.val X, .val (.int (r * x)), .val (.int x)] := by
      simp [l_product_1, runF, startE, finO, outsOf, inoutSlots, slotsFrom, lim, List.replicate, hs]
    have hbind : bindT (.n 2) (.int x) [.val X, .val (.int r), sl o] = some [.val X, .val (.int r), .val (.int x)] := by cases o <;> rfl
    rw [List.map_cons, q_for_cons, hbind]
    simp only []
    rw [hb]
    exact ih (r * x) (some (.int x)) fun y hy => h y (List.mem_cons_of_mem _ hy)
theorem pr_end {X : D} {xs : List D} {r : Int} {o : Option D} (hi : items X = some xs) (e : forGo (.n 2) (exSs 1000000 l_product_1) xs [.val X, .val (.int 1), .no] = .nx [.val X, .val (.int r), sl o]) : f_product.F [X] = .ok (.int r) [] := by
  cases o <;> simp [f_product, b_product, runF, startE, finO, outsOf, inoutSlots, slotsFrom, lim, List.replicate, hi, e, sl, -q_fo_nil]
theorem P_product {a : List Int} (h : ∀ x ∈ a, inR x = true) : f_product.F [tI a] = .ok (.int (a.foldl (· * ·) 1)) [] := by
  obtain ⟨o, e⟩ := pl_go (X := tI a) a 1 none h
  exact pr_end rfl e
theorem rl_go {X : D} : ∀ (xs ks : List Int) (t : Int) (o : Option D), ks.length + xs.length ≤ 1000000 → ∃ t' o', forGo (.n 3) (exSs 1000000 l_running_1) (xs.map .int) [.val X, .own (ks.map .int), .val (.int t), sl o] = .nx [.val X, .own ((ks ++ runS t xs).map .int), .val (.int t'), sl o'] := by
  intro xs
  induction xs with
  | nil => intro ks t o _; exact ⟨t, o, by rw [List.map_nil, q_fo_nil]; simp [runS]⟩
  | cons x xs ih =>
    intro ks t o hz
    rw [List.length_cons] at hz
    have hb : ∀ K : List D, K.length < 1000000 → exSs 1000000 l_running_1 [.val X, .own K, .val (.int t), .val (.int x)] = .nx [.val X, .own (K ++ [.int (t + x)]), .val (.int (t + x)), .val (.int x)] := fun K hl => by
      simp [l_running_1, runF, startE, finO, outsOf, inoutSlots, slotsFrom, lim, List.replicate, hl]
    have hbind : bindT (.n 3) (.int x) [.val X, .own (ks.map .int), .val (.int t), sl o] = some [.val X, .own (ks.map .int), .val (.int t), .val (.int x)] := by cases o <;> rfl
    rw [List.map_cons, q_for_cons, hbind]
    simp only []
    rw [hb _ (by rw [List.length_map]; omega)]
    simp only []
    have e0 : ks.map D.int ++ [.int (t + x)] = (ks ++ [t + x]).map .int := by rw [List.map_append]; rfl
    rw [e0]
    obtain ⟨t', o', e⟩ := ih (ks ++ [t + x]) (t + x) (some (.int x)) (by rw [List.length_append, List.length_singleton]; omega)
    refine ⟨t', o', e.trans ?_⟩
    rw [List.append_assoc]
    rfl
theorem ru_end {X : D} {xs K : List D} {t : Int} {o : Option D} (hi : items X = some xs) (e : forGo (.n 3) (exSs 1000000 l_running_1) xs [.val X, .own [], .val (.int 0), .no] = .nx [.val X, .own K, .val (.int t), sl o]) : f_running.F [X] = .ok (.tup K) [] := by
  cases o <;> simp [f_running, b_running, runF, startE, finO, outsOf, inoutSlots, slotsFrom, lim, List.replicate, hi, e, sl, -q_fo_nil]
theorem P_running {a : List Int} (ha : a.length ≤ 12) : f_running.F [tI a] = .ok (tI (runS 0 a)) [] := by
  obtain ⟨t, o, e⟩ := rl_go (X := tI a) a [] 0 none (by rw [List.length_nil]; omega)
  exact ru_end rfl e
theorem re_a {X : D} (hl : Mini.bi .len [X] = some (.int 0)) : f_rest.F [X] = .ok .non [] := by
  simp [f_rest, b_rest, runF, startE, finO, outsOf, inoutSlots, slotsFrom, lim, List.replicate, hl]
theorem re_b {X W : D} {m : Int} (hl : Mini.bi .len [X] = some (.int m)) (hm : m ≠ 0) (h : cutD X (some 1) none = some W) : f_rest.F [X] = .ok W [] := by
  simp [f_rest, b_rest, runF, startE, finO, outsOf, inoutSlots, slotsFrom, lim, List.replicate, hl, hm, h]
theorem cut_1 {a : List Int} : cutD (tI a) (some 1) none = some (tI (a.drop 1)) := by
  show some (D.tup (cutL (a.map D.int) (some ((1 : Nat) : Int)) none)) = _
  rw [cut_lo, ← List.map_drop]
theorem P_rest {a : List Int} : f_rest.F [tI a] = .ok (if a = [] then .non else tI (a.drop 1)) [] := by
  by_cases h : a = []
  · rw [if_pos h, h]
    exact re_a rfl
  · rw [if_neg h]
    refine re_b (len_tI a) ?_ cut_1
    have := List.length_pos_iff.mpr h
    omega
end K55
end

section
set_option Elab.async false
set_option linter.all false
set_option maxRecDepth 100000
set_option maxHeartbeats 4000000
namespace K55
open PySem L2 Mini
theorem al_yes {ex : CallF} {s : List Nat} {a v : D} {rest : List S} (m : ex.md = [false, false]) (h : ex.F [.str s, a] = .ok v []) (hin : cop .isIn (.str s) (.tup [.str [102, 105, 114, 115, 116], .str [108, 97, 115, 116], .str [103, 114, 101, 97, 116, 101, 115, 116], .str [108, 101, 97, 115, 116]]) = some true) :
    leaveO [false, false] false (exSs 1000000 (.ite (.cmp .isIn (.v 0) (.tup [.c (.str [102, 105, 114, 115, 116]), .c (.str [108, 97, 115, 116]), .c (.str [103, 114, 101, 97, 116, 101, 115, 116]), .c (.str [108, 101, 97, 115, 116])])) [.ret (.call ex [.v 0, .v 1])] [] :: rest) [.val (.str s), .val a, .no]) = .ok v [] := by
  simp [runF, startE, finO, outsOf, inoutSlots, slotsFrom, lim, List.replicate, m, h, hin, -q_cop_in, -q_mem_tup]
theorem al_no {s : List Nat} {a : D} {A : List S} {rest : List S} (hin : cop .isIn (.str s) (.tup [.str [102, 105, 114, 115, 116], .str [108, 97, 115, 116], .str [103, 114, 101, 97, 116, 101, 115, 116], .str [108, 101, 97, 115, 116]]) = some false) :
    exSs 1000000 (.ite (.cmp .isIn (.v 0) (.tup [.c (.str [102, 105, 114, 115, 116]), .c (.str [108, 97, 115, 116]), .c (.str [103, 114, 101, 97, 116, 101, 115, 116]), .c (.str [108, 101, 97, 115, 116])])) A [] :: rest) [.val (.str s), .val a, .no] = exSs 1000000 rest [.val (.str s), .val a, .no] := by
  simp [runF, startE, finO, outsOf, inoutSlots, slotsFrom, lim, List.replicate, hin, -q_cop_in, -q_mem_tup]
theorem P_listx {s : List Nat} {a : List Int} (hs : s ∈ lstsx) : f_apply_to_list.F [.str s, tI a] = .ok (lst1 s a) [] := by
  have hin : cop .isIn (.str s) (.tup [.str [102, 105, 114, 115, 116], .str [108, 97, 115, 116], .str [103, 114, 101, 97, 116, 101, 115, 116], .str [108, 101, 97, 115, 116]]) = some true := by
    rw [← decide_eq_true hs]
    exact in_strs s lstsx
  exact al_yes (ex := f_extreme) rfl (P_extreme hs) hin
def bA : List S := b_apply_to_list.drop 1
def rA (s : List Nat) (a : D) : MR := leaveO [false, false] false (exSs 1000000 bA [.val (.str s), .val a, .no])
theorem la_split : b_apply_to_list = b_apply_to_list.take 1 ++ bA := rfl
theorem la_0 {s : List Nat} {a : D} (hs : s ∉ lstsx) : f_apply_to_list.F [.str s, a] = rA s a := by
  have hin : cop .isIn (.str s) (.tup [.str [102, 105, 114, 115, 116], .str [108, 97, 115, 116], .str [103, 114, 101, 97, 116, 101, 115, 116], .str [108, 101, 97, 115, 116]]) = some false := by
    rw [← decide_eq_false hs]
    exact in_strs s lstsx
  simp only [f_apply_to_list]
  refine (run_eq (ρ := [.val (.str s), .val a, .no]) (by simp only [startE, List.replicate])).trans ?_
  have s1 : exSs 1000000 (b_apply_to_list.take 1) [.val (.str s), .val a, .no] = .nx [.val (.str s), .val a, .no] := al_no hin
  rw [la_split, q_xs_app, s1, q_seq_nx]
  unfold rA
  rfl
theorem rA_yes {s : List Nat} {a d : D} {pre post A : List S} {ρ' : En} (hb : bA = pre ++ .ite (.cmp .eq (.v 0) (.c (.str s))) A [] :: post) (hp : pre.all (notK s) = true)
    (he : exSs 1000000 A [.val (.str s), .val a, .no] = .ret (.d d) [.val (.str s), .val a, .no]) : rA s a = .ok d [] := by
  unfold rA
  rw [chain_hit hb hp he, fin0]
theorem call1 {f : CallF} {s : List Nat} {a d : D} (m : f.md = [false]) (h : f.F [a] = .ok d []) : exSs 1000000 [.ret (.call f [.v 1])] [.val (.str s), .val a, .no] = .ret (.d d) [.val (.str s), .val a, .no] := by
  simp [runF, startE, finO, outsOf, inoutSlots, slotsFrom, lim, List.replicate, m, h]
theorem ev_test {s : List Nat} {a : D} {i : Int} : evTs e_apply_to_list_1 [.val (.str s), .val a, .val (.int i)] = .ok (decide (i.fmod 2 = 0)) [.val (.str s), .val a, .val (.int i)] := by
  simp [e_apply_to_list_1, runF, startE, finO, outsOf, inoutSlots, slotsFrom, lim, List.replicate]
theorem ev_el {s : List Nat} {a z : D} : evE e_apply_to_list_2 [.val (.str s), .val a, .val z] = .ok (.d z) [.val (.str s), .val a, .val z] := by
  simp [e_apply_to_list_2, runF, startE, finO, outsOf, inoutSlots, slotsFrom, lim, List.replicate]
theorem ev_go {s : List Nat} {X : D} {xs ws : List D} (hi : items X = some xs) (e : lcGo (.n 2) [2] (lcBody (evTs e_apply_to_list_1) (evE e_apply_to_list_2)) xs [] [.val (.str s), .val X, .no] = .ok ws [.val (.str s), .val X, .no]) :
    evE (.bi .tuple [.lc (.n 2) [2] (.it (.v 1)) e_apply_to_list_1 e_apply_to_list_2]) [.val (.str s), .val X, .no] = .ok (.d (.tup ws)) [.val (.str s), .val X, .no] := by
  simp [runF, startE, finO, outsOf, inoutSlots, slotsFrom, lim, List.replicate, hi, e, -q_lc_cons, -q_lc_nil]
theorem len_ev {s : List Nat} {X : D} {m : Int} (hl : Mini.bi .len [X] = some (.int m)) : evE (.cmp .eq (.bi .len [.v 1]) (.c (.int 0))) [.val (.str s), .val X, .no] = .ok (.d (.bl (decide (m = 0)))) [.val (.str s), .val X, .no] := by
  simp [runF, startE, finO, outsOf, inoutSlots, slotsFrom, lim, List.replicate, hl]
theorem len_ev2 {s : List Nat} {X : D} {m : Int} (hl : Mini.bi .len [X] = some (.int m)) : evE (.bi .len [.v 1]) [.val (.str s), .val X, .no] = .ok (.d (.int m)) [.val (.str s), .val X, .no] := by
  simp [runF, startE, finO, outsOf, inoutSlots, slotsFrom, lim, List.replicate, hl]
theorem rev_ev {s : List Nat} {X W : D} (hl : revD X = some W) : evE (.rev (.v 1)) [.val (.str s), .val X, .no] = .ok (.d W) [.val (.str s), .val X, .no] := by
  simp [runF, startE, finO, outsOf, inoutSlots, slotsFrom, lim, List.replicate, hl]
theorem sort_ev {s : List Nat} {X : D} {ws : List D} (hl : Mini.bi .sorted [X] = some (.lst ws)) : evE (.bi .tuple [.bi .sorted [.v 1]]) [.val (.str s), .val X, .no] = .ok (.d (.tup ws)) [.val (.str s), .val X, .no] := by
  simp [runF, startE, finO, outsOf, inoutSlots, slotsFrom, lim, List.replicate, hl]
theorem sum_ev {s : List Nat} {X W : D} (hl : Mini.bi .sum [X] = some W) : evE (.bi .sum [.v 1]) [.val (.str s), .val X, .no] = .ok (.d W) [.val (.str s), .val X, .no] := by
  simp [runF, startE, finO, outsOf, inoutSlots, slotsFrom, lim, List.replicate, hl]
theorem sort_tI {a : List Int} (ha : a.length ≤ 12) : Mini.bi .sorted [tI a] = some (.lst ((sortI a).map .int)) := by
  rw [q_bi_sort_t, dInts_map]
  show (if a.length < 64 then _ else _) = _
  rw [if_pos (by omega)]
theorem sum_tI {a : List Int} : Mini.bi .sum [tI a] = some (.int a.sum) := by
  rw [q_bi_sum_t, dInts_map]
  rfl
theorem len0_iff (a : List Int) : decide ((a.length : Int) = 0) = decide (a = []) := by
  rw [decide_eq_decide, ← List.length_eq_zero_iff]
  omega
theorem P_list1 {s : List Nat} {a : List Int} (hs : s ∈ lsts1) (ha : a.length ≤ 12) (h : ∀ x ∈ a, inR x = true) : f_apply_to_list.F [.str s, tI a] = .ok (lst1 s a) [] := by
  have hn : s ∉ lstsx := by
    simp only [lsts1, List.mem_cons, List.not_mem_nil, or_false] at hs
    rcases hs with rfl | rfl | rfl | rfl | rfl | rfl | rfl | rfl | rfl | rfl <;> decide
  rw [la_0 hn]
  simp only [lsts1, List.mem_cons, List.not_mem_nil, or_false] at hs
  rcases hs with rfl | rfl | rfl | rfl | rfl | rfl | rfl | rfl | rfl | rfl
  · exact rA_yes (pre := bA.take 0) (post := bA.drop 1) (ρ' := []) rfl rfl (call1 (f := f_distinct) rfl (P_distinct ha))
  · refine (rA_yes (pre := bA.take 1) (post := bA.drop 2) (ρ' := []) rfl rfl (ret_of (len_ev (len_tI a)))).trans ?_
    rw [len0_iff]
    rfl
  · have e : lcGo (.n 2) [2] (lcBody (evTs e_apply_to_list_1) (evE e_apply_to_list_2)) (a.map .int) [] [.val (.str [107, 101, 101, 112, 95, 101, 118, 101, 110]), .val (tI a), .no] = .ok ((a.filter fun i => decide (i.fmod 2 = 0)).map .int) [.val (.str [107, 101, 101, 112, 95, 101, 118, 101, 110]), .val (tI a), .no] :=
      lc_sel (s := .no) rfl (fun k hk => ev_test) (fun k hk _ => ev_el) (by show _ ≤ 1000000; omega)
    exact rA_yes (pre := bA.take 2) (post := bA.drop 3) (ρ' := []) rfl rfl (ret_of (ev_go rfl e))
  · exact rA_yes (pre := bA.take 3) (post := bA.drop 4) (ρ' := []) rfl rfl (call1 (f := f_product) rfl (P_product h))
  · exact rA_yes (pre := bA.take 4) (post := bA.drop 5) (ρ' := []) rfl rfl (call1 (f := f_rest) rfl P_rest)
  · refine (rA_yes (pre := bA.take 5) (post := bA.drop 6) (ρ' := []) rfl rfl (ret_of (rev_ev q_rev_t))).trans ?_
    rw [← List.map_reverse]
    rfl
  · exact rA_yes (pre := bA.take 6) (post := bA.drop 7) (ρ' := []) rfl rfl (call1 (f := f_running) rfl (P_running ha))
  · exact rA_yes (pre := bA.take 7) (post := bA.drop 8) (ρ' := []) rfl rfl (ret_of (len_ev2 (len_tI a)))
  · exact rA_yes (pre := bA.take 8) (post := bA.drop 9) (ρ' := []) rfl rfl (ret_of (sort_ev (sort_tI ha)))
  · unfold rA
    rw [chain_end (b := bA) (pre := bA.take 9) (post := bA.drop 9) rfl rfl]
    have : exSs 1000000 [.ret (.bi .sum [.v 1])] [.val (.str [115, 117, 109]), .val (tI a), .no] = _ := ret_of (sum_ev sum_tI)
    exact congrArg (leaveO [false, false] false) this
/-! ### two lists -/
theorem zip_go {X Y : D} {w : List D} {m n z : Int} (hl1 : Mini.bi .len [X] = some (.int m)) (hl2 : Mini.bi .len [Y] = some (.int n)) (hm : Mini.bi .min2 [.int m, .int n] = some (.int z)) (hr : rngOk z = true)
    (e : lcGo (.n 3) [3] (lcBody (evTs []) (evE e_apply_to_lists_1)) (rng 0 z) [] [.val (.str [122, 105, 112, 95, 97, 100, 100]), .val X, .val Y, .no] = .ok w [.val (.str [122, 105, 112, 95, 97, 100, 100]), .val X, .val Y, .no]) :
    f_apply_to_lists.F [.str [122, 105, 112, 95, 97, 100, 100], X, Y] = .ok (.tup w) [] := by
  simp [f_apply_to_lists, b_apply_to_lists, runF, startE, finO, outsOf, inoutSlots, slotsFrom, lim, List.replicate, hl1, hl2, hm, hr, e, -q_lc_cons, -q_lc_nil, -q_len_tup, -q_len_str, -q_len_lst, -q_bi_min]
theorem zip_el {s : List Nat} {X Y : D} {z i j : Int} (a1 : atD X z = some (.int i)) (a2 : atD Y z = some (.int j)) : evE e_apply_to_lists_1 [.val (.str s), .val X, .val Y, .val (.int z)] = .ok (.d (.int (i + j))) [.val (.str s), .val X, .val Y, .val (.int z)] := by
  simp [e_apply_to_lists_1, runF, startE, finO, outsOf, inoutSlots, slotsFrom, lim, List.replicate, a1, a2]
theorem min_len (m n : Nat) : Mini.bi .min2 [.int (m : Int), .int (n : Int)] = some (.int ((min m n : Nat) : Int)) := by
  show some (D.int (if ((n : Nat) : Int) < ((m : Nat) : Int) then _ else _)) = _
  congr 2
  split <;> omega
theorem zipS_map (a b : List Int) : (zipS a b).map D.int = (List.range (min a.length b.length)).map fun k => .int (a.getD k 0 + b.getD k 0) := by
  unfold zipS
  rw [List.map_map]
  rfl
theorem P_zip {a b : List Int} (ha : a.length ≤ 12) (hb : b.length ≤ 12) : f_apply_to_lists.F [.str [122, 105, 112, 95, 97, 100, 100], tI a, tI b] = .ok (tI (zipS a b)) [] := by
  have e : lcGo (.n 3) [3] (lcBody (evTs []) (evE e_apply_to_lists_1)) (rng 0 ((min a.length b.length : Nat) : Int)) [] [.val (.str [122, 105, 112, 95, 97, 100, 100]), .val (tI a), .val (tI b), .no] = .ok ((zipS a b).map .int) [.val (.str [122, 105, 112, 95, 97, 100, 100]), .val (tI a), .val (tI b), .no] := by
    rw [rng_nat, zipS_map]
    refine lc_of (s := .no) rfl (fun k hk => ?_) (by rw [List.length_range]; show min _ _ ≤ 1000000; omega)
    have hk := List.mem_range.mp hk
    exact zip_el (at_tI (by omega)) (at_tI (by omega))
  exact zip_go (len_tI a) (len_tI b) (min_len _ _) (rngOk_of (by omega) (by omega)) e
theorem jn_go {X Y W : D} (h : bop .add X Y = some W) : f_apply_to_lists.F [.str [106, 111, 105, 110], X, Y] = .ok W [] := by
  simp [f_apply_to_lists, b_apply_to_lists, runF, startE, finO, outsOf, inoutSlots, slotsFrom, lim, List.replicate, h]
theorem sm_go {X Y : D} {p : Bool} (h : cop .eq X Y = some p) {J Z : E} : leaveO [false, false, false] false (exSs 1000000 [.ite (.cmp .eq (.v 0) (.c (.str [106, 111, 105, 110]))) [.ret J] [], .ite (.cmp .eq (.v 0) (.c (.str [115, 97, 109, 101, 95, 108, 105, 115, 116]))) [.ret (.cmp .eq (.v 1) (.v 2))] [], .ret Z] [.val (.str [115, 97, 109, 101, 95, 108, 105, 115, 116]), .val X, .val Y, .no]) = .ok (.bl p) [] := by
  rw [ch_no (by decide), ch_yes, ret_of (d := .bl p)]
  · rfl
  · show evE (.cmp .eq (.v 1) (.v 2)) [.val (.str [115, 97, 109, 101, 95, 108, 105, 115, 116]), .val X, .val Y, .no] = _
    simp [runF, startE, finO, outsOf, inoutSlots, slotsFrom, lim, List.replicate, h, -q_cop_eq]
theorem add_tI {a b : List Int} (h : a.length + b.length ≤ 1000000) : bop .add (tI a) (tI b) = some (tI (a ++ b)) := by
  rw [q_bop_add_tup, if_pos (by rw [List.length_map, List.length_map]; exact h), ← List.map_append]
theorem P_lists {s : List Nat} {a b : List Int} (hs : s ∈ lsts2) (ha : a.length ≤ 12) (hb : b.length ≤ 12) : f_apply_to_lists.F [.str s, tI a, tI b] = .ok (lst2 s a b) [] := by
  simp only [lsts2, List.mem_cons, List.not_mem_nil, or_false] at hs
  rcases hs with rfl | rfl | rfl
  · exact jn_go (add_tI (by omega))
  · exact sm_go (eq_tI a b)
  · exact P_zip ha hb
/-! ### a list and a number -/
theorem it_a {X : D} {m n : Int} (hl : Mini.bi .len [X] = some (.int m)) (h : n < 0 ∨ m ≤ n) : f_item.F [X, .int n] = .ok .non [] := by
  by_cases h0 : n < 0
  · simp [f_item, b_item, runF, startE, finO, outsOf, inoutSlots, slotsFrom, lim, List.replicate, h0]
  · have h1 : m ≤ n := by omega
    simp [f_item, b_item, runF, startE, finO, outsOf, inoutSlots, slotsFrom, lim, List.replicate, h0, h1, hl]
theorem it_b {X W : D} {m n : Int} (hl : Mini.bi .len [X] = some (.int m)) (h0 : ¬ n < 0) (h1 : ¬ m ≤ n) (hw : atD X n = some W) : f_item.F [X, .int n] = .ok W [] := by
  simp [f_item, b_item, runF, startE, finO, outsOf, inoutSlots, slotsFrom, lim, List.replicate, h0, h1, hl, hw]
theorem P_item {a : List Int} {n : Int} : f_item.F [tI a, .int n] = .ok (itemS a n) [] := by
  unfold itemS
  by_cases h : n < 0 ∨ (a.length : Int) ≤ n
  · rw [if_pos h]
    exact it_a (len_tI a) h
  · rw [if_neg h]
    have h0 : ¬ n < 0 := fun z => h (Or.inl z)
    have h1 : ¬ (a.length : Int) ≤ n := fun z => h (Or.inr z)
    refine it_b (len_tI a) h0 h1 ?_
    have e : n = ((n.toNat : Nat) : Int) := by omega
    have := at_tI (a := a) (k := n.toNat) (by omega)
    rw [← e] at this
    exact this
def bI : List S := b_apply_to_list_and_number
abbrev eI (s : List Nat) (X : D) (n : Int) : En := [.val (.str s), .val X, .val (.int n), .no]
theorem fin3 {s : List Nat} {r : En} {d : D} : leaveO [false, false, false] false (.ret (.d d) (.val (.str s) :: r)) = .ok d [] := rfl
theorem li_yes {s : List Nat} {X d : D} {n : Int} {pre post : List S} {e : E} (hb : bI = pre ++ .ite (.cmp .eq (.v 0) (.c (.str s))) [.ret e] [] :: post) (hp : pre.all (notK s) = true)
    (he : evE e (eI s X n) = .ok (.d d) (eI s X n)) : f_apply_to_list_and_number.F [.str s, X, .int n] = .ok d [] := by
  simp only [f_apply_to_list_and_number]
  refine (run_eq (ρ := eI s X n) (by simp only [startE, List.replicate])).trans ?_
  have : exSs 1000000 bI (eI s X n) = _ := chain_hit hb hp (ret_of he)
  show leaveO _ _ (exSs 1000000 bI (eI s X n)) = _
  rw [this, fin3]
theorem li_end {s : List Nat} {X d : D} {n : Int} {pre : List S} {e : E} (hb : bI = pre ++ [.ret e]) (hp : pre.all (notK s) = true)
    (he : evE e (eI s X n) = .ok (.d d) (eI s X n)) : f_apply_to_list_and_number.F [.str s, X, .int n] = .ok d [] := by
  simp only [f_apply_to_list_and_number]
  refine (run_eq (ρ := eI s X n) (by simp only [startE, List.replicate])).trans ?_
  have : exSs 1000000 bI (eI s X n) = _ := chain_end hb hp
  show leaveO _ _ (exSs 1000000 bI (eI s X n)) = _
  rw [this, ret_of he, fin3]
theorem lc_ev {s : List Nat} {X : D} {n : Int} {ifs : List E} {el : E} {xs ws : List D} (hi : items X = some xs) (e : lcGo (.n 3) [3] (lcBody (evTs ifs) (evE el)) xs [] (eI s X n) = .ok ws (eI s X n)) :
    evE (.bi .tuple [.lc (.n 3) [3] (.it (.v 1)) ifs el]) (eI s X n) = .ok (.d (.tup ws)) (eI s X n) := by
  simp [runF, startE, finO, outsOf, inoutSlots, slotsFrom, lim, List.replicate, hi, e, -q_lc_cons, -q_lc_nil]
theorem lc_len {s : List Nat} {X : D} {n : Int} {ifs : List E} {el : E} {xs ws : List D} (hi : items X = some xs) (e : lcGo (.n 3) [3] (lcBody (evTs ifs) (evE el)) xs [] (eI s X n) = .ok ws (eI s X n)) :
    evE (.bi .len [.lc (.n 3) [3] (.it (.v 1)) ifs el]) (eI s X n) = .ok (.d (.int (ws.length : Int))) (eI s X n) := by
  simp [runF, startE, finO, outsOf, inoutSlots, slotsFrom, lim, List.replicate, hi, e, -q_lc_cons, -q_lc_nil]
theorem ap_ev {s : List Nat} {X W : D} {n : Int} (h : bop .add X (.tup [.int n]) = some W) : evE (.bin .add (.v 1) (.tup [.v 2])) (eI s X n) = .ok (.d W) (eI s X n) := by
  simp [runF, startE, finO, outsOf, inoutSlots, slotsFrom, lim, List.replicate, h]
theorem itm_ev {f : CallF} {s : List Nat} {X W : D} {n : Int} (m : f.md = [false, false]) (h : f.F [X, .int n] = .ok W []) : evE (.call f [.v 1, .v 2]) (eI s X n) = .ok (.d W) (eI s X n) := by
  simp [runF, startE, finO, outsOf, inoutSlots, slotsFrom, lim, List.replicate, m, h]
theorem lo_ev {s : List Nat} {X W : D} {n z : Int} (hm : Mini.bi .max2 [.int 0, .int n] = some (.int z)) (hc : cutD X (some z) none = some W) : evE (.slLo (.v 1) (.bi .max2 [.c (.int 0), .v 2])) (eI s X n) = .ok (.d W) (eI s X n) := by
  simp [runF, startE, finO, outsOf, inoutSlots, slotsFrom, lim, List.replicate, hm, hc, -q_bi_max]
theorem hi_ev {s : List Nat} {X W : D} {n z : Int} (hm : Mini.bi .max2 [.int 0, .int n] = some (.int z)) (hc : cutD X none (some z) = some W) : evE (.slHi (.v 1) (.bi .max2 [.c (.int 0), .v 2])) (eI s X n) = .ok (.d W) (eI s X n) := by
  simp [runF, startE, finO, outsOf, inoutSlots, slotsFrom, lim, List.replicate, hm, hc, -q_bi_max]
theorem ae_el {s : List Nat} {X : D} {n i : Int} : evE e_apply_to_list_and_number_1 [.val (.str s), .val X, .val (.int n), .val (.int i)] = .ok (.d (.int (i + n))) [.val (.str s), .val X, .val (.int n), .val (.int i)] := by
  simp [e_apply_to_list_and_number_1, runF, startE, finO, outsOf, inoutSlots, slotsFrom, lim, List.replicate]
theorem co_test {s : List Nat} {X : D} {n i : Int} : evTs e_apply_to_list_and_number_2 [.val (.str s), .val X, .val (.int n), .val (.int i)] = .ok (decide (i = n)) [.val (.str s), .val X, .val (.int n), .val (.int i)] := by
  simp [e_apply_to_list_and_number_2, runF, startE, finO, outsOf, inoutSlots, slotsFrom, lim, List.replicate]
theorem ka_test {s : List Nat} {X : D} {n i : Int} : evTs e_apply_to_list_and_number_4 [.val (.str s), .val X, .val (.int n), .val (.int i)] = .ok (decide (n < i)) [.val (.str s), .val X, .val (.int n), .val (.int i)] := by
  simp [e_apply_to_list_and_number_4, runF, startE, finO, outsOf, inoutSlots, slotsFrom, lim, List.replicate]
theorem v3_el {s : List Nat} {X z : D} {n : Int} : evE (.v 3) [.val (.str s), .val X, .val (.int n), .val z] = .ok (.d z) [.val (.str s), .val X, .val (.int n), .val z] := by
  simp [runF, startE, finO, outsOf, inoutSlots, slotsFrom, lim, List.replicate]
theorem cut_loI {a : List Int} {n : Nat} : cutD (tI a) (some (n : Int)) none = some (tI (a.drop n)) := by
  show some (D.tup (cutL (a.map D.int) (some (n : Int)) none)) = _
  rw [cut_lo, ← List.map_drop]
theorem cut_hiI {a : List Int} {n : Nat} : cutD (tI a) none (some (n : Int)) = some (tI (a.take n)) := by
  show some (D.tup (cutL (a.map D.int) none (some (n : Int)))) = _
  rw [cut_hi, ← List.map_take]
theorem P_listn {s : List Nat} {a : List Int} {n : Int} (hs : s ∈ lstsn) (ha : a.length ≤ 12) : f_apply_to_list_and_number.F [.str s, tI a, .int n] = .ok (lstn s a n) [] := by
  have hz : a.length ≤ lim := by show _ ≤ 1000000; omega
  simp only [lstsn, List.mem_cons, List.not_mem_nil, or_false] at hs
  rcases hs with rfl | rfl | rfl | rfl | rfl | rfl | rfl
  · have e : lcGo (.n 3) [3] (lcBody (evTs []) (evE e_apply_to_list_and_number_1)) (a.map .int) [] (eI [97, 100, 100, 95, 101, 97, 99, 104] (tI a) n) = .ok ((a.map (· + n)).map .int) (eI [97, 100, 100, 95, 101, 97, 99, 104] (tI a) n) := by
      rw [List.map_map]
      exact lc_of (s := .no) rfl (fun k hk => ae_el) hz
    exact li_yes (pre := bI.take 0) (post := bI.drop 1) rfl rfl (lc_ev rfl e)
  · exact li_yes (pre := bI.take 1) (post := bI.drop 2) rfl rfl (ap_ev (add_tI (b := [n]) (by rw [List.length_singleton]; omega)))
  · exact li_yes (pre := bI.take 2) (post := bI.drop 3) rfl rfl (itm_ev (f := f_item) rfl P_item)
  · have e : lcGo (.n 3) [3] (lcBody (evTs e_apply_to_list_and_number_2) (evE e_apply_to_list_and_number_3)) (a.map .int) [] (eI [99, 111, 117, 110, 116, 95, 111, 102] (tI a) n) = .ok ((a.filter fun i => decide (i = n)).map .int) (eI [99, 111, 117, 110, 116, 95, 111, 102] (tI a) n) :=
      lc_sel (s := .no) rfl (fun k hk => co_test) (fun k hk _ => v3_el) hz
    refine (li_yes (pre := bI.take 3) (post := bI.drop 4) rfl rfl (lc_len rfl e)).trans ?_
    rw [List.length_map, ← List.countP_eq_length_filter]
    rfl
  · exact li_yes (pre := bI.take 4) (post := bI.drop 5) rfl rfl (lo_ev max0 cut_loI)
  · have e : lcGo (.n 3) [3] (lcBody (evTs e_apply_to_list_and_number_4) (evE e_apply_to_list_and_number_5)) (a.map .int) [] (eI [107, 101, 101, 112, 95, 97, 98, 111, 118, 101] (tI a) n) = .ok ((a.filter fun i => decide (n < i)).map .int) (eI [107, 101, 101, 112, 95, 97, 98, 111, 118, 101] (tI a) n) :=
      lc_sel (s := .no) rfl (fun k hk => ka_test) (fun k hk _ => v3_el) hz
    exact li_yes (pre := bI.take 5) (post := bI.drop 6) rfl rfl (lc_ev rfl e)
  · exact li_end (pre := bI.take 6) rfl rfl (hi_ev max0 cut_hiI)
end K55
end

section
set_option Elab.async false
set_option linter.all false
set_option maxRecDepth 100000
set_option maxHeartbeats 4000000
namespace K55
open PySem L2 Mini
/-! ### what a component gives ahead of the last check -/
def intsD (ds : List D) : List Int := (dInts ds).getD []
def mean (s : List Nat) : List D → D
  | [.int i] => num1 s i
  | [.int i, .int j] => num2 s i j
  | [.bl p] => .bl (!p)
  | [.bl p, .bl q] => if s = [98, 111, 116, 104] then .bl (p && q) else .bl (p || q)
  | [.str x] => txt1 s x
  | [.str x, .str y] => txt2 s x y
  | [.str x, .int n] => txtn s x n
  | [.tup a] => lst1 s (intsD a)
  | [.tup a, .tup b] => lst2 s (intsD a) (intsD b)
  | [.tup a, .int n] => lstn s (intsD a) n
  | [.int i, .tup a] => tI (i :: intsD a)
  | _ => .non
theorem intsD_map (a : List Int) : intsD (a.map .int) = a := by
  unfold intsD
  rw [dInts_map]
  rfl
/-! ### apply, in general -/
theorem cut_m1 {α : Type} (xs : List α) (x : α) : cutL (xs ++ [x]) none (some (-1)) = xs := by
  unfold cutL
  have h2 : HT.sIx (xs ++ [x]).length 0 none = 0 := rfl
  have h1 : HT.sIx (xs ++ [x]).length (xs ++ [x]).length (some (-1)) = xs.length := by
    simp [HT.sIx]
    omega
  rw [h1, h2, List.drop_zero, Nat.sub_zero, List.take_left]
theorem at_m1 {α : Type} (xs : List α) (x : α) : atI (xs ++ [x]) (-1) = some x := by
  simp [atI, ixN]
  have h1 : (1 : Int) ≤ (xs.length : Int) + 1 := by omega
  have h2 : (-1 + ((xs.length : Int) + 1)).toNat = xs.length := by omega
  rw [if_pos h1, h2]
  simp
theorem F_sig {s : List Nat} {v : D} (h : t_SIGNATURES.lookup s = some v) : f_signature.F [.str s] = .ok v [] := by
  have hs : ∀ (c : Nat) (t : List (List Nat × D)), t.lookup s = some v → leaveO [false] false (exSs 1000000 [.ite (.gin true "SIGNATURES" t (.v 0)) [.raise c "NotFound" (.v 0)] [], .ret (.gix "SIGNATURES" t (.v 0))] [.val (.str s)]) = .ok v [] := fun c t ht => by
    simp [runF, startE, finO, outsOf, inoutSlots, slotsFrom, lim, List.replicate, ht]
  exact hs _ _ h
theorem sig_of : ∀ r ∈ libL, t_SIGNATURES.lookup r.1 = some (.tup ((r.2.1.map fun l => D.str (kL_ l)) ++ [.str (kL_ r.2.2)])) := by
  have h : libL.map (fun r => t_SIGNATURES.lookup r.1) = libL.map (fun r => some (D.tup ((r.2.1.map fun l => D.str (kL_ l)) ++ [.str (kL_ r.2.2)]))) := by kernel_rfl
  exact List.map_inj_left.mp h
def bAp (sg ch de iv : CallF) : List S := [.set 2 (.call sg [.v 0]), .set 3 (.bi .list [.v 1]), .ite (.cmp .eq (.bi .len [.v 3]) (.c (.int 3))) [.ret (.call ch [.v 3])] [], .ite (.bi .any [.lc (.n 5) [5] (.it (.v 3)) [] e_apply_1]) [.ret (.c (.non))] [],
      .set 4 (.call de [.v 0, .slHi (.v 2) (.neg (.c (.int 1))), .v 3]), .ite (.not (.call iv [.ix (.v 2) (.neg (.c (.int 1))), .v 4])) [.ret (.c (.non))] [], .ret (.v 4)]
theorem ap_go {sg ch de iv : CallF} {s : List Nat} {ks ds : List D} {kr : List Nat} {X r : D} {q : Bool} (hX : Mini.bi .list [X] = some (.lst ds)) (m1 : sg.md = [false]) (h1 : sg.F [.str s] = .ok (.tup (ks ++ [.str kr])) []) (hl : ds.length ≠ 3)
    (ha : lcGo (.n 5) [5] (lcBody (evTs []) (evE e_apply_1)) ds [] [.val (.str s), .val X, .val (.tup (ks ++ [.str kr])), .val (.lst ds), .no, .no] = .ok (ds.map fun _ => .bl false) [.val (.str s), .val X, .val (.tup (ks ++ [.str kr])), .val (.lst ds), .no, .no])
    (hb : Mini.bi .any [.lst (ds.map fun _ => .bl false)] = some (.bl false)) (m3 : de.md = [false, false, false]) (h3 : de.F [.str s, .tup ks, .lst ds] = .ok r []) (m4 : iv.md = [false, false]) (h4 : iv.F [.str kr, r] = .ok (.bl q) []) :
    leaveO [false, false] false (exSs 1000000 (bAp sg ch de iv) [.val (.str s), .val X, .no, .no, .no, .no]) = .ok (if q = true then r else .non) [] := by
  have hl' : ¬ ((ds.length : Nat) : Int) = 3 := by omega
  have c1 := cut_m1 ks (D.str kr)
  have c2 := at_m1 ks (D.str kr)
  generalize ks ++ [D.str kr] = sk at h1 ha c1 c2
  generalize (ds.map fun _ => D.bl false) = fs at ha hb
  cases q with
  | true => simp [bAp, runF, startE, finO, outsOf, inoutSlots, slotsFrom, lim, List.replicate, hX, m1, h1, hl', ha, hb, m3, h3, m4, h4, c1, c2, -q_lc_cons, -q_lc_nil, -q_bi_any, -q_bi_list_l, -q_bi_list_t]
  | false => simp [bAp, runF, startE, finO, outsOf, inoutSlots, slotsFrom, lim, List.replicate, hX, m1, h1, hl', ha, hb, m3, h3, m4, h4, c1, c2, -q_lc_cons, -q_lc_nil, -q_bi_any, -q_bi_list_l, -q_bi_list_t]
theorem ap_non {sg ch de iv : CallF} {s : List Nat} {v X : D} {ds ns : List D} (hX : Mini.bi .list [X] = some (.lst ds)) (m1 : sg.md = [false]) (h1 : sg.F [.str s] = .ok v []) (hl : ds.length ≠ 3)
    (ha : lcGo (.n 5) [5] (lcBody (evTs []) (evE e_apply_1)) ds [] [.val (.str s), .val X, .val v, .val (.lst ds), .no, .no] = .ok ns [.val (.str s), .val X, .val v, .val (.lst ds), .no, .no])
    (hb : Mini.bi .any [.lst ns] = some (.bl true)) :
    leaveO [false, false] false (exSs 1000000 (bAp sg ch de iv) [.val (.str s), .val X, .no, .no, .no, .no]) = .ok .non [] := by
  have hl' : ¬ ((ds.length : Nat) : Int) = 3 := by omega
  simp [bAp, runF, startE, finO, outsOf, inoutSlots, slotsFrom, lim, List.replicate, hX, m1, h1, hl', ha, hb, -q_lc_cons, -q_lc_nil, -q_bi_any, -q_bi_list_l, -q_bi_list_t]
theorem ap_three {sg ch de iv : CallF} {s : List Nat} {v w X a b c : D} (hX : Mini.bi .list [X] = some (.lst [a, b, c])) (m1 : sg.md = [false]) (h1 : sg.F [.str s] = .ok v []) (m2 : ch.md = [false]) (h2 : ch.F [.lst [a, b, c]] = .ok w []) :
    leaveO [false, false] false (exSs 1000000 (bAp sg ch de iv) [.val (.str s), .val X, .no, .no, .no, .no]) = .ok w [] := by
  simp [bAp, runF, startE, finO, outsOf, inoutSlots, slotsFrom, lim, List.replicate, hX, m1, h1, m2, h2, -q_bi_list_l, -q_bi_list_t]
def isNon : D → Bool
  | .non => true
  | _ => false
theorem is_non (d : D) : cop .is d .non = some (isNon d) := by cases d <;> rfl
theorem na_lc {s : List Nat} {X v : D} {ds : List D} (hz : ds.length ≤ 100) : lcGo (.n 5) [5] (lcBody (evTs []) (evE e_apply_1)) ds [] [.val (.str s), .val X, .val v, .val (.lst ds), .no, .no] = .ok (ds.map fun d => .bl (isNon d)) [.val (.str s), .val X, .val v, .val (.lst ds), .no, .no] := by
  refine lc_map (s := .no) rfl (fun x hx => ?_) (Nat.le_trans hz (by decide))
  have := is_non x
  simp [e_apply_1, runF, startE, finO, outsOf, inoutSlots, slotsFrom, lim, List.replicate, this, -q_cop_is_n]
theorem F_apply {s : List Nat} {ks ds : List D} {kr : List Nat} {X r : D} (hX : Mini.bi .list [X] = some (.lst ds)) (hs : t_SIGNATURES.lookup s = some (.tup (ks ++ [.str kr]))) (hl : ds.length ≠ 3) (hz : ds.length ≤ 100) (hn : ∀ d ∈ ds, isNon d = false)
    (hd : f_described.F [.str s, .tup ks, .lst ds] = .ok r []) : f_apply.F [.str s, X] = .ok (if isVal kr r = true then r else .non) [] := by
  have em : (ds.map fun d => D.bl (isNon d)) = ds.map fun _ => .bl false := List.map_congr_left fun d hd => by rw [hn d hd]
  have ha := na_lc (s := s) (X := X) (v := .tup (ks ++ [.str kr])) hz
  rw [em] at ha
  have hb : Mini.bi .any [.lst (ds.map fun _ => .bl false)] = some (.bl false) := by
    rw [any_lc]
    congr 2
    rw [List.any_eq_false]
    intro x _
    decide
  exact ap_go (ch := f_choose) hX rfl (F_sig hs) hl ha hb rfl hd rfl (F_isv kr r)
theorem F_apply_non {s : List Nat} {ds : List D} {X v : D} (hX : Mini.bi .list [X] = some (.lst ds)) (hs : t_SIGNATURES.lookup s = some v) (hl : ds.length ≠ 3) (hz : ds.length ≤ 100) (hn : ∃ d ∈ ds, isNon d = true) : f_apply.F [.str s, X] = .ok .non [] := by
  have ha := na_lc (s := s) (X := X) (v := v) hz
  have hb : Mini.bi .any [.lst (ds.map fun d => .bl (isNon d))] = some (.bl true) := by
    rw [any_lc]
    congr 2
    rw [List.any_eq_true]
    exact hn
  exact ap_non (ch := f_choose) (de := f_described) (iv := f_is_value) hX rfl (F_sig hs) hl ha hb
def chosen : D → D → D → D
  | .bl true, b, _ => b
  | .bl false, _, c => c
  | _, _, _ => .non
theorem F_choose {a b c : D} (h : isNon a = true ∨ isTru a = true) : f_choose.F [.lst [a, b, c]] = .ok (chosen a b c) [] := by
  cases a with
  | non => simp [f_choose, b_choose, runF, startE, finO, outsOf, inoutSlots, slotsFrom, lim, List.replicate, chosen]
  | bl p => cases p <;> simp [f_choose, b_choose, runF, startE, finO, outsOf, inoutSlots, slotsFrom, lim, List.replicate, chosen]
  | _ => rcases h with h | h <;> cases h
theorem F_apply3 {s : List Nat} {X v a b c : D} (hX : Mini.bi .list [X] = some (.lst [a, b, c])) (hs : t_SIGNATURES.lookup s = some v) (h : isNon a = true ∨ isTru a = true) : f_apply.F [.str s, X] = .ok (chosen a b c) [] :=
  ap_three (ch := f_choose) (de := f_described) (iv := f_is_value) hX rfl (F_sig hs) rfl (F_choose h)
/-! ### described -/
def bDe (f1 f2 f3 fo fn ft fs fl fz : CallF) : List S := [.ite (.cmp .eq (.ix (.v 1) (.c (.int 0))) (.c (.str [116, 114, 117, 116, 104]))) [.ret (.call f1 [.v 0, .v 2])] [],
      .ite (.cmp .eq (.bi .len [.v 1]) (.c (.int 1))) [.ite (.cmp .eq (.ix (.v 1) (.c (.int 0))) (.c (.str [110, 117, 109, 98, 101, 114]))) [.ret (.call f2 [.v 0, .ix (.v 2) (.c (.int 0))])] [],
        .ite (.cmp .eq (.ix (.v 1) (.c (.int 0))) (.c (.str [116, 101, 120, 116]))) [.ret (.call f3 [.v 0, .ix (.v 2) (.c (.int 0))])] [], .ret (.call fo [.v 0, .ix (.v 2) (.c (.int 0))])] [],
      .ite (.cmp .eq (.v 0) (.c (.str [112, 114, 101, 112, 101, 110, 100]))) [.ret (.bin .add (.tup [.ix (.v 2) (.c (.int 0))]) (.ix (.v 2) (.c (.int 1))))] [],
      .ite (.cmp .eq (.ix (.v 1) (.c (.int 0))) (.c (.str [110, 117, 109, 98, 101, 114]))) [.ret (.call fn [.v 0, .ix (.v 2) (.c (.int 0)), .ix (.v 2) (.c (.int 1))])] [],
      .ite (.and [.cmp .eq (.ix (.v 1) (.c (.int 0))) (.c (.str [116, 101, 120, 116])), .cmp .eq (.ix (.v 1) (.c (.int 1))) (.c (.str [116, 101, 120, 116]))]) [.ret (.call ft [.v 0, .ix (.v 2) (.c (.int 0)), .ix (.v 2) (.c (.int 1))])] [],
      .ite (.cmp .eq (.ix (.v 1) (.c (.int 0))) (.c (.str [116, 101, 120, 116]))) [.ret (.call fs [.v 0, .ix (.v 2) (.c (.int 0)), .ix (.v 2) (.c (.int 1))])] [],
      .ite (.cmp .eq (.ix (.v 1) (.c (.int 1))) (.c (.str [108, 105, 115, 116]))) [.ret (.call fl [.v 0, .ix (.v 2) (.c (.int 0)), .ix (.v 2) (.c (.int 1))])] [],
      .ret (.call fz [.v 0, .ix (.v 2) (.c (.int 0)), .ix (.v 2) (.c (.int 1))])]
section
variable {f1 f2 f3 fo fn ft fs fl fz : CallF} {s : List Nat} {a b r : D}
abbrev rDe (f1 f2 f3 fo fn ft fs fl fz : CallF) (s : List Nat) (ks ds : List D) : MR := leaveO [false, false, false] false (exSs 1000000 (bDe f1 f2 f3 fo fn ft fs fl fz) [.val (.str s), .val (.tup ks), .val (.lst ds)])
theorem de_t {ks ds : List D} (m : f1.md = [false, false]) (h : f1.F [.str s, .lst ds] = .ok r []) : rDe f1 f2 f3 fo fn ft fs fl fz s (.str kT :: ks) ds = .ok r [] := by
  simp [rDe, bDe, runF, startE, finO, outsOf, inoutSlots, slotsFrom, lim, List.replicate, m, h]
theorem de_n (m : f2.md = [false, false]) (h : f2.F [.str s, a] = .ok r []) : rDe f1 f2 f3 fo fn ft fs fl fz s [.str kN] [a] = .ok r [] := by
  simp [rDe, bDe, runF, startE, finO, outsOf, inoutSlots, slotsFrom, lim, List.replicate, m, h]
theorem de_s (m : f3.md = [false, false]) (h : f3.F [.str s, a] = .ok r []) : rDe f1 f2 f3 fo fn ft fs fl fz s [.str kS] [a] = .ok r [] := by
  simp [rDe, bDe, runF, startE, finO, outsOf, inoutSlots, slotsFrom, lim, List.replicate, m, h]
theorem de_l (m : fo.md = [false, false]) (h : fo.F [.str s, a] = .ok r []) : rDe f1 f2 f3 fo fn ft fs fl fz s [.str kL] [a] = .ok r [] := by
  simp [rDe, bDe, runF, startE, finO, outsOf, inoutSlots, slotsFrom, lim, List.replicate, m, h]
theorem de_p (h : bop .add (.tup [a]) b = some r) : rDe f1 f2 f3 fo fn ft fs fl fz [112, 114, 101, 112, 101, 110, 100] [.str kN, .str kL] [a, b] = .ok r [] := by
  simp [rDe, bDe, runF, startE, finO, outsOf, inoutSlots, slotsFrom, lim, List.replicate, h]
theorem de_nn {k : List Nat} (hs : s ≠ [112, 114, 101, 112, 101, 110, 100]) (m : fn.md = [false, false, false]) (h : fn.F [.str s, a, b] = .ok r []) : rDe f1 f2 f3 fo fn ft fs fl fz s [.str kN, .str k] [a, b] = .ok r [] := by
  simp [rDe, bDe, runF, startE, finO, outsOf, inoutSlots, slotsFrom, lim, List.replicate, hs, m, h]
theorem de_ss (hs : s ≠ [112, 114, 101, 112, 101, 110, 100]) (m : ft.md = [false, false, false]) (h : ft.F [.str s, a, b] = .ok r []) : rDe f1 f2 f3 fo fn ft fs fl fz s [.str kS, .str kS] [a, b] = .ok r [] := by
  simp [rDe, bDe, runF, startE, finO, outsOf, inoutSlots, slotsFrom, lim, List.replicate, hs, m, h]
theorem de_sn (hs : s ≠ [112, 114, 101, 112, 101, 110, 100]) (m : fs.md = [false, false, false]) (h : fs.F [.str s, a, b] = .ok r []) : rDe f1 f2 f3 fo fn ft fs fl fz s [.str kS, .str kN] [a, b] = .ok r [] := by
  simp [rDe, bDe, runF, startE, finO, outsOf, inoutSlots, slotsFrom, lim, List.replicate, hs, m, h]
theorem de_ll (hs : s ≠ [112, 114, 101, 112, 101, 110, 100]) (m : fl.md = [false, false, false]) (h : fl.F [.str s, a, b] = .ok r []) : rDe f1 f2 f3 fo fn ft fs fl fz s [.str kL, .str kL] [a, b] = .ok r [] := by
  simp [rDe, bDe, runF, startE, finO, outsOf, inoutSlots, slotsFrom, lim, List.replicate, hs, m, h]
theorem de_ln (hs : s ≠ [112, 114, 101, 112, 101, 110, 100]) (m : fz.md = [false, false, false]) (h : fz.F [.str s, a, b] = .ok r []) : rDe f1 f2 f3 fo fn ft fs fl fz s [.str kL, .str kN] [a, b] = .ok r [] := by
  simp [rDe, bDe, runF, startE, finO, outsOf, inoutSlots, slotsFrom, lim, List.replicate, hs, m, h]
end
theorem F_de {s : List Nat} {ks ds : List D} {r : D} (h : rDe f_apply_to_truths f_apply_to_number f_apply_to_text f_apply_to_list f_apply_to_numbers f_apply_to_texts f_apply_to_text_and_number f_apply_to_lists f_apply_to_list_and_number s ks ds = .ok r []) :
    f_described.F [.str s, .tup ks, .lst ds] = .ok r [] := h
theorem t_both {p q : Bool} : f_apply_to_truths.F [.str [98, 111, 116, 104], .lst [.bl p, .bl q]] = .ok (.bl (p && q)) [] := by
  cases p <;> cases q <;> rfl
theorem t_either {p q : Bool} : f_apply_to_truths.F [.str [101, 105, 116, 104, 101, 114], .lst [.bl p, .bl q]] = .ok (.bl (p || q)) [] := by
  cases p <;> cases q <;> rfl
theorem t_negate {p : Bool} : f_apply_to_truths.F [.str [110, 101, 103, 97, 116, 101], .lst [.bl p]] = .ok (.bl (!p)) [] := by
  cases p <;> rfl
/-! ### rows -/
def okR (s ls : List Nat) : Bool :=
  if ls = [110] then nums1.contains s else if ls = [110, 110] then nums2.contains s else if ls = [116] then s == [110, 101, 103, 97, 116, 101] else if ls = [116, 116] then [[98, 111, 116, 104], [101, 105, 116, 104, 101, 114]].contains s else if ls = [115] then txts1.contains s
  else if ls = [115, 115] then txts2.contains s else if ls = [115, 110] then txtsn.contains s else if ls = [108] then (lstsx ++ lsts1).contains s else if ls = [108, 108] then lsts2.contains s else if ls = [108, 110] then lstsn.contains s
  else if ls = [110, 108] then s == [112, 114, 101, 112, 101, 110, 100] else ls.length == 3 && ls.headD 0 == 116
def okRow (r : List Nat × List Nat × Nat) : Bool := okR r.1 r.2.1
theorem rows_ok : ∀ r ∈ libL, okRow r = true := by decide +kernel
end K55
end

section
set_option Elab.async false
set_option linter.all false
set_option maxRecDepth 100000
set_option maxHeartbeats 4000000
namespace K55
open PySem L2 Mini
/-! ### arguments -/
def AllV : List Nat → List D → Prop
  | [], [] => True
  | l :: ls, d :: ds => isV l d = true ∧ AllV ls ds
  | _, _ => False
theorem all_1 {l : Nat} {ds : List D} (h : AllV [l] ds) : ∃ a, ds = [a] ∧ isV l a = true := by
  cases ds with
  | nil => exact h.elim
  | cons a ds =>
    cases ds with
    | nil => exact ⟨a, rfl, h.1⟩
    | cons b ds => exact h.2.elim
theorem all_2 {l l' : Nat} {ds : List D} (h : AllV [l, l'] ds) : ∃ a b, ds = [a, b] ∧ isV l a = true ∧ isV l' b = true := by
  cases ds with
  | nil => exact h.elim
  | cons a ds =>
    obtain ⟨b, rfl, hb⟩ := all_1 h.2
    exact ⟨a, b, rfl, h.1, hb⟩
theorem isN {d : D} (h : isV 110 d = true) : ∃ i, d = .int i ∧ inR i = true := by
  cases d with
  | int i => exact ⟨i, rfl, h⟩
  | _ => cases h
theorem isT {d : D} (h : isV 116 d = true) : ∃ i, d = .bl i := by
  cases d with
  | bl i => exact ⟨i, rfl⟩
  | _ => cases h
theorem isS {d : D} (h : isV 115 d = true) : ∃ cs, d = .str cs ∧ cs.length ≤ 30 ∧ ∀ c ∈ cs, c ∈ abc := by
  cases d with
  | str cs =>
    have h : (decide (cs.length ≤ 30) && cs.all fun c => decide (c ∈ abc)) = true := h
    rw [Bool.and_eq_true, decide_eq_true_eq, List.all_eq_true] at h
    exact ⟨cs, rfl, h.1, fun c hc => of_decide_eq_true (h.2 c hc)⟩
  | _ => cases h
theorem isL {d : D} (h : isV 108 d = true) : ∃ a : List Int, d = tI a ∧ a.length ≤ 12 ∧ ∀ i ∈ a, inR i = true := by
  cases d with
  | tup ds =>
    have h : (decide (ds.length ≤ 12) && ds.all isNum) = true := h
    rw [Bool.and_eq_true, decide_eq_true_eq] at h
    have key : ∀ ds : List D, ds.all isNum = true → ∃ a : List Int, ds = a.map .int ∧ ∀ i ∈ a, inR i = true := by
      intro ds
      induction ds with
      | nil => exact fun _ => ⟨[], rfl, fun i hi => absurd hi (List.not_mem_nil)⟩
      | cons d ds ih =>
        intro h
        rw [List.all_cons, Bool.and_eq_true] at h
        obtain ⟨a, rfl, ha⟩ := ih h.2
        cases d with
        | int i => exact ⟨i :: a, rfl, fun j hj => (List.mem_cons.mp hj).elim (fun e => e ▸ h.1) (ha j)⟩
        | _ => cases h.1
    obtain ⟨a, rfl, ha⟩ := key ds h.2
    exact ⟨a, rfl, by rw [← List.length_map (f := D.int)]; exact h.1, ha⟩
  | _ => cases h
/-! ### results -/
theorem dig_abc {c : Nat} (h : 48 ≤ c ∧ c ≤ 57) : c ∈ abc := by
  have : c = 48 ∨ c = 49 ∨ c = 50 ∨ c = 51 ∨ c = 52 ∨ c = 53 ∨ c = 54 ∨ c = 55 ∨ c = 56 ∨ c = 57 := by omega
  rcases this with rfl | rfl | rfl | rfl | rfl | rfl | rfl | rfl | rfl | rfl <;> decide
theorem intS_abc {i : Int} (h : ¬ i < 0) : ∀ c ∈ intS i, c ∈ abc := by
  intro c hc
  unfold intS at hc
  rw [if_neg h] at hc
  have := TL.numL_digits _ c hc
  exact dig_abc (by omega)
theorem flat_ok {n : Nat} {x : List Nat} (hx : ∀ c ∈ x, c ∈ abc) : ∀ c ∈ (List.replicate n x).flatten, c ∈ abc := by
  intro c hc
  obtain ⟨l, hl, hc⟩ := List.mem_flatten.mp hc
  rw [(List.mem_replicate.mp hl).2] at hc
  exact hx c hc
/-- the check of the end -/
def fin (l : Nat) (d : D) : D := if isV l d = true then d else .non
theorem fin_not {l : Nat} {d : D} (h : isV l d = false) : fin l d = .non := by
  unfold fin
  rw [if_neg (by rw [h]; exact Bool.false_ne_true)]
theorem fin_non {l : Nat} : fin l .non = .non := by
  unfold fin
  split <;> rfl
theorem up_fin {i : Int} : fin 108 (upTo (min 13 i.toNat)) = fin 108 (num1 [117, 112, 95, 116, 111] i) := by
  show _ = fin 108 (if 12 < i then .non else upTo i.toNat)
  by_cases h : 12 < i
  · rw [if_pos h, fin_non]
    refine fin_not ?_
    show (decide (((List.range (min 13 i.toNat)).map fun (k : Nat) => D.int ((k : Int) + 1)).length ≤ 12) && _) = false
    rw [List.length_map, List.length_range, decide_eq_false (by omega)]
    rfl
  · rw [if_neg h, Nat.min_eq_right (by omega)]
theorem rep_fin {x : List Nat} {n : Int} (hx : x.length ≤ 30) : fin 115 (if n < 0 then .non else .str (List.replicate (min n.toNat 31) x).flatten) = fin 115 (rep x n) := by
  unfold rep
  by_cases h0 : n < 0
  · rw [if_pos h0, if_pos (Or.inl h0)]
  · rw [if_neg h0]
    by_cases hz : x = []
    · subst hz
      rw [flat_nil, if_neg, flat_nil]
      rintro (z | z)
      · exact h0 z
      · rw [List.length_nil] at z
        simp at z
    · have hlen : 1 ≤ x.length := List.length_pos_iff.mpr hz
      have hle : 1 * n ≤ (x.length : Int) * n := Int.mul_le_mul_of_nonneg_right (by omega) (by omega)
      by_cases h1 : 30 < (x.length : Int) * n
      · rw [if_pos (Or.inr h1), fin_non]
        refine fin_not ?_
        show (decide ((List.replicate (min n.toNat 31) x).flatten.length ≤ 30) && _) = false
        rw [List.length_flatten, List.map_replicate, List.sum_replicate_nat, decide_eq_false]
        · rfl
        · rcases Nat.le_total n.toNat 31 with h | h
          · rw [Nat.min_eq_left h]
            have e : ((x.length : Int) * n) = ((n.toNat * x.length : Nat) : Int) := by
              rw [Int.natCast_mul, Int.toNat_of_nonneg (by omega), Int.mul_comm]
            omega
          · rw [Nat.min_eq_right h]
            omega
      · rw [if_neg fun z => z.elim h0 h1, Nat.min_eq_left (by omega)]
theorem row_res : ∀ r ∈ libL, r.2.2 ∈ letters ∧ (r.1 = [117, 112, 95, 116, 111] → r.2.2 = 108) ∧ (r.1 = [114, 101, 112, 101, 97, 116] → r.2.2 = 115) ∧ (∀ l ∈ r.2.1, l ∈ letters) := by decide +kernel
end K55
end

section
set_option Elab.async false
set_option linter.all false
set_option maxRecDepth 100000
set_option maxHeartbeats 4000000
namespace K55
open PySem L2 Mini
abbrev kindL (ls : List Nat) : List D := ls.map fun l => D.str (kL_ l)
theorem sub_no {L : List (List Nat)} {s : List Nat} (hs : s ∈ L) (h : ∀ t ∈ L, t ∉ [[98, 111, 116, 104], [101, 105, 116, 104, 101, 114], [110, 101, 103, 97, 116, 101], [112, 114, 101, 112, 101, 110, 100]]) : s ∉ [[98, 111, 116, 104], [101, 105, 116, 104, 101, 114], [110, 101, 103, 97, 116, 101], [112, 114, 101, 112, 101, 110, 100]] ∧ s ≠ [112, 114, 101, 112, 101, 110, 100] :=
  ⟨h s hs, fun e => h s hs (by rw [e]; decide)⟩
theorem mean_l (s : List Nat) (a : List Int) : mean s [tI a] = lst1 s a := by
  show lst1 s (intsD (a.map .int)) = _
  rw [intsD_map]
theorem mean_ll (s : List Nat) (a b : List Int) : mean s [tI a, tI b] = lst2 s a b := by
  show lst2 s (intsD (a.map .int)) (intsD (b.map .int)) = _
  rw [intsD_map, intsD_map]
theorem mean_ln (s : List Nat) (a : List Int) (n : Int) : mean s [tI a, .int n] = lstn s a n := by
  show lstn s (intsD (a.map .int)) n = _
  rw [intsD_map]
theorem mean_nl (s : List Nat) (a : List Int) (n : Int) : mean s [.int n, tI a] = tI (n :: a) := by
  show tI (n :: intsD (a.map .int)) = _
  rw [intsD_map]
/-! ### both applies, in one -/
def Args : List Nat → List D → Prop
  | [], [] => True
  | l :: ls, d :: ds => (isNon d = true ∨ isV l d = true) ∧ Args ls ds
  | _, _ => False
theorem args_len : ∀ {ls : List Nat} {ds : List D}, Args ls ds → ds.length = ls.length
  | [], [], _ => rfl
  | l :: ls, d :: ds, h => by rw [List.length_cons, List.length_cons, args_len h.2]
  | [], _ :: _, h => h.elim
  | _ :: _, [], h => h.elim
theorem isV_non {l : Nat} {d : D} (h : isV l d = true) : isNon d = false := by
  cases d with
  | non =>
    unfold isV at h
    split at h
    · cases h
    · split at h
      · cases h
      · split at h <;> cases h
  | _ => rfl
theorem args_or : ∀ {ls : List Nat} {ds : List D}, Args ls ds → (∃ d ∈ ds, isNon d = true) ∨ AllV ls ds
  | [], [], _ => Or.inr trivial
  | l :: ls, d :: ds, h => by
    rcases h.1 with h1 | h1
    · exact Or.inl ⟨d, List.mem_cons_self .., h1⟩
    · rcases args_or h.2 with ⟨x, hx, h2⟩ | h2
      · exact Or.inl ⟨x, List.mem_cons_of_mem _ hx, h2⟩
      · exact Or.inr ⟨h1, h2⟩
  | [], _ :: _, h => h.elim
  | _ :: _, [], h => h.elim
theorem all_non : ∀ {ls : List Nat} {ds : List D}, AllV ls ds → ∀ d ∈ ds, isNon d = false
  | [], [], _ => fun d hd => absurd hd List.not_mem_nil
  | l :: ls, d :: ds, h => fun x hx => (List.mem_cons.mp hx).elim (fun e => e ▸ isV_non h.1) (all_non h.2 x)
  | [], _ :: _, h => h.elim
  | _ :: _, [], h => h.elim
theorem isVal_L {l : Nat} (h : l ∈ letters) (d : D) : isVal (kL_ l) d = isV l d := by
  simp only [letters, List.mem_cons, List.not_mem_nil, or_false] at h
  rcases h with rfl | rfl | rfl | rfl <;> rfl
theorem lens : ∀ r ∈ libL, r.2.1.length ≤ 3 := by decide +kernel
theorem rows3 : ∀ r ∈ libL, r.2.1.length = 3 → r.2.1 = [116, r.2.2, r.2.2] := by decide +kernel
end K55
end

section
set_option Elab.async false
set_option linter.all false
set_option maxRecDepth 100000
set_option maxHeartbeats 1000000
/-! k55: the ten components: what apply gives. -/
namespace K55
open PySem L2 Mini
def rowK : List (List Nat × List Nat × Nat) := [([99, 111, 110, 99, 97, 116], [115, 115], 115), ([106, 111, 105, 110], [108, 108], 108), ([97, 112, 112, 101, 110, 100], [108, 110], 108), ([112, 114, 101, 112, 101, 110, 100], [110, 108], 108), ([114, 101, 118, 101, 114, 115, 101], [108], 108), ([114, 101, 118, 101, 114, 115, 101, 95, 116, 101, 120, 116], [115], 115), ([114, 117, 110, 110, 105, 110, 103], [108], 108), ([97, 100, 100, 95, 101, 97, 99, 104], [108, 110], 108), ([110, 117, 109, 98, 101, 114, 95, 116, 101, 120, 116], [110], 115), ([116, 101, 120, 116, 95, 110, 117, 109, 98, 101, 114], [115], 110)]
theorem rowK_lib : ∀ r ∈ rowK, r ∈ libL := by decide +kernel
theorem rowK_let : ∀ r ∈ rowK, r.2.2 ∈ letters ∧ r.2.1.length ≤ 2 := by decide +kernel
/-- what apply gives on values -/
def ap (r : List Nat × List Nat × Nat) (ds : List D) : D := fin r.2.2 (mean r.1 ds)
theorem de_row {r : List Nat × List Nat × Nat} (hr : r ∈ rowK) {ds : List D} (hv : AllV r.2.1 ds) : f_described.F [.str r.1, .tup (r.2.1.map fun l => .str (kL_ l)), .lst ds] = .ok (mean r.1 ds) [] := by
  simp only [rowK, List.mem_cons, List.not_mem_nil, or_false] at hr
  rcases hr with rfl | rfl | rfl | rfl | rfl | rfl | rfl | rfl | rfl | rfl
  · obtain ⟨a, b, rfl, ha, hb⟩ := all_2 hv
    obtain ⟨x, rfl, hx, _⟩ := isS ha
    obtain ⟨y, rfl, hy, _⟩ := isS hb
    exact F_de (de_ss (by decide) rfl (P_texts (by decide) hx hy))
  · obtain ⟨a, b, rfl, ha, hb⟩ := all_2 hv
    obtain ⟨x, rfl, hx, _⟩ := isL ha
    obtain ⟨y, rfl, hy, _⟩ := isL hb
    rw [mean_ll]
    exact F_de (de_ll (by decide) rfl (P_lists (by decide) hx hy))
  · obtain ⟨a, b, rfl, ha, hb⟩ := all_2 hv
    obtain ⟨x, rfl, hx, _⟩ := isL ha
    obtain ⟨y, rfl, hy⟩ := isN hb
    rw [mean_ln]
    exact F_de (de_ln (by decide) rfl (P_listn (by decide) hx))
  · obtain ⟨a, b, rfl, ha, hb⟩ := all_2 hv
    obtain ⟨x, rfl, hx⟩ := isN ha
    obtain ⟨y, rfl, hy, _⟩ := isL hb
    rw [mean_nl]
    exact F_de (de_p (add_tI (a := [x]) (b := y) (by show 1 + y.length ≤ _; omega)))
  · obtain ⟨a, rfl, ha⟩ := all_1 hv
    obtain ⟨x, rfl, hx, h⟩ := isL ha
    rw [mean_l]
    exact F_de (de_l rfl (P_list1 (by decide) hx h))
  · obtain ⟨a, rfl, ha⟩ := all_1 hv
    obtain ⟨x, rfl, hx, h⟩ := isS ha
    exact F_de (de_s rfl (P_text (by decide) hx))
  · obtain ⟨a, rfl, ha⟩ := all_1 hv
    obtain ⟨x, rfl, hx, h⟩ := isL ha
    rw [mean_l]
    exact F_de (de_l rfl (P_list1 (by decide) hx h))
  · obtain ⟨a, b, rfl, ha, hb⟩ := all_2 hv
    obtain ⟨x, rfl, hx, _⟩ := isL ha
    obtain ⟨y, rfl, hy⟩ := isN hb
    rw [mean_ln]
    exact F_de (de_ln (by decide) rfl (P_listn (by decide) hx))
  · obtain ⟨a, rfl, ha⟩ := all_1 hv
    obtain ⟨x, rfl, hx⟩ := isN ha
    exact F_de (de_n rfl (P_number (by decide) hx))
  · obtain ⟨a, rfl, ha⟩ := all_1 hv
    obtain ⟨x, rfl, hx, h⟩ := isS ha
    exact F_de (de_s rfl (P_text (by decide) hx))
theorem allV_len : ∀ {ls : List Nat} {ds : List D}, AllV ls ds → ds.length = ls.length
  | [], [], _ => rfl
  | [], _ :: _, h => h.elim
  | _ :: _, [], h => h.elim
  | _ :: _, _ :: _, h => congrArg Nat.succ (allV_len h.2)
theorem P_ap {r : List Nat × List Nat × Nat} (hr : r ∈ rowK) {ds : List D} (hv : AllV r.2.1 ds) {X : D} (hX : Mini.bi .list [X] = some (.lst ds)) : f_apply.F [.str r.1, X] = .ok (ap r ds) [] := by
  obtain ⟨h1, h2⟩ := rowK_let r hr
  have hl := allV_len hv
  rw [F_apply hX (sig_of r (rowK_lib r hr)) (by omega) (by omega) (all_non hv) (de_row hr hv), isVal_L h1]
  rfl
end K55
end

section
set_option Elab.async false
set_option linter.all false
set_option maxRecDepth 100000
set_option maxHeartbeats 4000000
namespace K55
open PySem L2 Mini
def vl_differences_1 : List S := [.app 1 (.bin .sub (.v 3) (.v 2)),
  .set 2 (.v 3)]
def v_differences : List S := [.setN 1 (.lst []),
  .set 2 (.c (.int 0)),
  .for (.n 3) (.it (.v 0)) (vl_differences_1),
  .ret (.bi .tuple [.v 1])]
theorem v_differences_eq : b_differences = v_differences := rfl
def v_sequence_guess : List S := [.ite (.cmp .eq (.v 0) (.c (.str [97, 112, 112, 101, 110, 100])))
    [.ite (.cmp .eq (.bi .len [.v 3]) (.c (.int 0)))
        [.ret (.c (.non))]
        [],
      .ret (.ite (.cmp .eq (.v 1) (.c (.int 0))) (.slHi (.v 3) (.neg (.c (.int 1)))) (.ix (.v 3) (.neg (.c (.int 1)))))]
    [],
  .ite (.cmp .eq (.v 0) (.c (.str [112, 114, 101, 112, 101, 110, 100])))
    [.ite (.cmp .eq (.bi .len [.v 3]) (.c (.int 0)))
        [.ret (.c (.non))]
        [],
      .ret (.ite (.cmp .eq (.v 1) (.c (.int 0))) (.ix (.v 3) (.c (.int 0))) (.slLo (.v 3) (.c (.int 1))))]
    [],
  .ite (.cmp .gt (.bi .len [.ix (.v 2) (.c (.int 0))]) (.bi .len [.v 3]))
    [.ret (.c (.non))]
    [],
  .ite (.cmp .eq (.v 1) (.c (.int 0)))
    [.ret (.slHi (.v 3) (.bin .sub (.bi .len [.v 3]) (.bi .len [.ix (.v 2) (.c (.int 0))])))]
    [],
  .ret (.slLo (.v 3) (.bi .len [.ix (.v 2) (.c (.int 0))]))]
theorem v_sequence_guess_eq : b_sequence_guess = v_sequence_guess := rfl
def ve_single_guess_1 : E := .bin .sub (.v 3) (.ix (.v 1) (.c (.int 0)))
def v_single_guess (x_differences : CallF) (x_apply : CallF) : List S := [.ite (.cmp .eq (.v 0) (.c (.str [114, 117, 110, 110, 105, 110, 103])))
    [.ret (.call x_differences [.v 2])]
    [],
  .ite (.cmp .eq (.v 0) (.c (.str [97, 100, 100, 95, 101, 97, 99, 104])))
    [.ret (.bi .tuple [.lc (.n 3) [3] (.it (.v 2)) [] (ve_single_guess_1)])]
    [],
  .ite (.cmp .eq (.v 0) (.c (.str [110, 117, 109, 98, 101, 114, 95, 116, 101, 120, 116])))
    [.ret (.call x_apply [.c (.str [116, 101, 120, 116, 95, 110, 117, 109, 98, 101, 114]), .lst [.v 2]])]
    [],
  .ite (.cmp .eq (.v 0) (.c (.str [116, 101, 120, 116, 95, 110, 117, 109, 98, 101, 114])))
    [.ret (.call x_apply [.c (.str [110, 117, 109, 98, 101, 114, 95, 116, 101, 120, 116]), .lst [.v 2]])]
    [],
  .ret (.rev (.v 2))]
theorem v_single_guess_eq : b_single_guess = v_single_guess f_differences f_apply := rfl
def v_guess (x_number_guess : CallF) (x_sequence_guess : CallF) (x_single_guess : CallF) : List S := [.ite (.cmp .isIn (.v 0) (.tup [.c (.str [97, 100, 100]), .c (.str [115, 117, 98]), .c (.str [110, 101, 103]), .c (.str [100, 111, 117, 98, 108, 101])]))
    [.ret (.lst [.call x_number_guess [.v 0, .v 1, .v 2, .v 3]])]
    [],
  .ite (.cmp .isIn (.v 0) (.tup [.c (.str [99, 111, 110, 99, 97, 116]), .c (.str [106, 111, 105, 110]), .c (.str [97, 112, 112, 101, 110, 100]), .c (.str [112, 114, 101, 112, 101, 110, 100])]))
    [.ret (.lst [.call x_sequence_guess [.v 0, .v 1, .v 2, .v 3]])]
    [],
  .ite (.cmp .isIn (.v 0) (.tup [.c (.str [114, 101, 118, 101, 114, 115, 101]), .c (.str [114, 101, 118, 101, 114, 115, 101, 95, 116, 101, 120, 116]), .c (.str [114, 117, 110, 110, 105, 110, 103]), .c (.str [110, 117, 109, 98, 101, 114, 95, 116, 101, 120, 116]), .c (.str [116, 101, 120, 116, 95, 110, 117, 109, 98, 101, 114])]))
    [.ret (.lst [.call x_single_guess [.v 0, .v 2, .v 3]])]
    [],
  .ite (.and [.cmp .eq (.v 0) (.c (.str [97, 100, 100, 95, 101, 97, 99, 104])), .cmp .eq (.v 1) (.c (.int 0))])
    [.ret (.lst [.call x_single_guess [.v 0, .v 2, .v 3]])]
    [],
  .ret (.c (.non))]
theorem v_guess_eq : b_guess = v_guess f_number_guess f_sequence_guess f_single_guess := rfl
def v_placed : List S := [.ret (.bin .add (.bin .add (.bi .list [.slHi (.v 0) (.v 1)]) (.lst [.v 2])) (.bi .list [.slLo (.v 0) (.v 1)]))]
theorem v_placed_eq : b_placed = v_placed := rfl
def v_argument_kinds (x_signature : CallF) : List S := [.ret (.bi .list [.slHi (.call x_signature [.v 0]) (.neg (.c (.int 1)))])]
theorem v_argument_kinds_eq : b_argument_kinds = v_argument_kinds f_signature := rfl
def ve_solutions_1 (x_is_value : CallF) : List E := [.and [.cmp .isNot (.v 7) (.c (.non)), .call x_is_value [.v 4, .v 7]]]
def ve_solutions_2 : E := .v 7
def ve_solutions_3 (x_apply : CallF) (x_placed : CallF) : List E := [.cmp .eq (.call x_apply [.v 0, .call x_placed [.v 2, .v 1, .v 7]]) (.v 3)]
def ve_solutions_4 : E := .v 7
def v_solutions (x_argument_kinds : CallF) (x_guess : CallF) (x_is_value : CallF) (x_apply : CallF) (x_placed : CallF) : List S := [.set 4 (.ix (.call x_argument_kinds [.v 0]) (.v 1)),
  .set 5 (.lst [.c (.bl false), .c (.bl true)]),
  .ite (.cmp .ne (.v 4) (.c (.str [116, 114, 117, 116, 104])))
    [.set 5 (.call x_guess [.v 0, .v 1, .v 2, .v 3])]
    [],
  .ite (.cmp .is (.v 5) (.c (.non)))
    [.ret (.c (.non))]
    [],
  .set 6 (.lc (.n 7) [7] (.it (.v 5)) (ve_solutions_1 x_is_value) (ve_solutions_2)),
  .ret (.lc (.n 7) [7] (.it (.v 6)) (ve_solutions_3 x_apply x_placed) (ve_solutions_4))]
theorem v_solutions_eq : b_solutions = v_solutions f_argument_kinds f_guess f_is_value f_apply f_placed := rfl
def v__law_same (x__law_kind : CallF) : List S := [.ite (.or [.cmp .is (.v 0) (.c (.non)), .cmp .is (.v 1) (.c (.non))])
    [.ret (.and [.cmp .is (.v 0) (.c (.non)), .cmp .is (.v 1) (.c (.non))])]
    [],
  .ret (.and [.cmp .eq (.call x__law_kind [.v 0]) (.call x__law_kind [.v 1]), .cmp .eq (.v 0) (.v 1)])]
theorem v__law_same_eq : b__law_same = v__law_same f__law_kind := rfl
def ve__law_applied_1 : E := .bi .sum [.slHi (.ix (.v 1) (.c (.int 0))) (.bin .add (.v 4) (.c (.int 1)))]
def ve__law_applied_2 : E := .chn .le .le (.neg (.c (.int 1000000))) (.v 5) (.c (.int 1000000))
def ve__law_applied_3 : E := .bin .add (.v 5) (.ix (.v 1) (.c (.int 1)))
def ve__law_applied_4 : E := .chn .le .le (.neg (.c (.int 1000000))) (.v 5) (.c (.int 1000000))
def v__law_applied (x__law_clip : CallF) (x__law_digits : CallF) : List S := [.ite (.or [.cmp .eq (.v 0) (.c (.str [99, 111, 110, 99, 97, 116])), .cmp .eq (.v 0) (.c (.str [106, 111, 105, 110]))])
    [.ret (.call x__law_clip [.bin .add (.ix (.v 1) (.c (.int 0))) (.ix (.v 1) (.c (.int 1)))])]
    [],
  .ite (.cmp .eq (.v 0) (.c (.str [97, 112, 112, 101, 110, 100])))
    [.ret (.call x__law_clip [.bin .add (.ix (.v 1) (.c (.int 0))) (.tup [.ix (.v 1) (.c (.int 1))])])]
    [],
  .ite (.cmp .eq (.v 0) (.c (.str [112, 114, 101, 112, 101, 110, 100])))
    [.ret (.call x__law_clip [.bin .add (.tup [.ix (.v 1) (.c (.int 0))]) (.ix (.v 1) (.c (.int 1)))])]
    [],
  .ite (.or [.cmp .eq (.v 0) (.c (.str [114, 101, 118, 101, 114, 115, 101])), .cmp .eq (.v 0) (.c (.str [114, 101, 118, 101, 114, 115, 101, 95, 116, 101, 120, 116]))])
    [.ret (.rev (.ix (.v 1) (.c (.int 0))))]
    [],
  .ite (.cmp .eq (.v 0) (.c (.str [114, 117, 110, 110, 105, 110, 103])))
    [.set 2 (.lc (.n 4) [4] (.r1 (.bi .len [.ix (.v 1) (.c (.int 0))])) [] (ve__law_applied_1)),
      .ret (.ite (.cmp .isIn (.c (.bl false)) (.lc (.n 5) [5] (.it (.v 2)) [] (ve__law_applied_2))) (.c (.non)) (.bi .tuple [.v 2]))]
    [],
  .ite (.cmp .eq (.v 0) (.c (.str [97, 100, 100, 95, 101, 97, 99, 104])))
    [.set 3 (.lc (.n 5) [5] (.it (.ix (.v 1) (.c (.int 0)))) [] (ve__law_applied_3)),
      .ret (.ite (.cmp .isIn (.c (.bl false)) (.lc (.n 5) [5] (.it (.v 3)) [] (ve__law_applied_4))) (.c (.non)) (.bi .tuple [.v 3]))]
    [],
  .ite (.cmp .eq (.v 0) (.c (.str [110, 117, 109, 98, 101, 114, 95, 116, 101, 120, 116])))
    [.ret (.ite (.cmp .ge (.ix (.v 1) (.c (.int 0))) (.c (.int 0))) (.bi .str [.ix (.v 1) (.c (.int 0))]) (.c (.non)))]
    [],
  .ret (.call x__law_digits [.ix (.v 1) (.c (.int 0))])]
theorem v__law_applied_eq : b__law_applied = v__law_applied f__law_clip f__law_digits := rfl
def ve__law_long_1 (X : CallF) : E := .call X [.v 0, .c (.str [110, 117, 109, 98, 101, 114])]
def ve__law_long_2 (x__law_draw : CallF) : E := .ix (.c (.str [97, 98, 32, 48, 49, 57, 122])) (.call x__law_draw [.v 0, .c (.int 7)])
def v__law_long (x__law_draw : CallF) (X : CallF) : List S := [.ite (.cmp .eq (.v 1) (.c (.str [110, 117, 109, 98, 101, 114])))
    [.ret (.ite (.cmp .eq (.call x__law_draw [.v 0, .c (.int 3)]) (.c (.int 0))) (.bin .sub (.call x__law_draw [.v 0, .c (.int 2000001)]) (.c (.int 1000000))) (.bin .sub (.call x__law_draw [.v 0, .c (.int 12)]) (.c (.int 3))))]
    [],
  .ite (.cmp .eq (.v 1) (.c (.str [108, 105, 115, 116])))
    [.ret (.bi .tuple [.lc (.n 2) [2] (.r1 (.call x__law_draw [.v 0, .c (.int 8)])) [] (ve__law_long_1 X)])]
    [],
  .ite (.cmp .eq (.call x__law_draw [.v 0, .c (.int 3)]) (.c (.int 0)))
    [.ret (.bi .str [.call x__law_draw [.v 0, .c (.int 1200000)]])]
    [],
  .ret (.me .join (.c (.str [])) [.lc (.n 2) [2] (.r1 (.call x__law_draw [.v 0, .c (.int 16)])) [] (ve__law_long_2 x__law_draw)])]
theorem v__law_long_eq (X : CallF) : b__law_long X = v__law_long f__law_draw X := rfl
def v__law_changed (x__law_draw : CallF) : List S := [.ite (.isi [.int] (.v 1))
    [.ret (.ite (.cmp .gt (.v 1) (.c (.int 0))) (.bin .sub (.v 1) (.c (.int 1))) (.bin .add (.v 1) (.c (.int 1))))]
    [],
  .ite (.cmp .eq (.bi .len [.v 1]) (.c (.int 0)))
    [.ret (.ite (.isi [.str] (.v 1)) (.c (.str [97])) (.tup [.c (.int 0)]))]
    [],
  .set 2 (.call x__law_draw [.v 0, .bi .len [.v 1]]),
  .set 3 (.ite (.isi [.str] (.v 1)) (.c (.str [113])) (.tup [.bin .add (.bin .fdiv (.ix (.v 1) (.v 2)) (.c (.int 2))) (.c (.int 1))])),
  .ret (.bin .add (.bin .add (.slHi (.v 1) (.v 2)) (.v 3)) (.slLo (.v 1) (.bin .add (.v 2) (.c (.int 1)))))]
theorem v__law_changed_eq : b__law_changed = v__law_changed f__law_draw := rfl
def v__law_is_solution (x__law_kind : CallF) (x__law_kinds : CallF) (x__law_same : CallF) (x__law_clip : CallF) (x__law_applied : CallF) : List S := [.ite (.or [.cmp .is (.v 4) (.c (.non)), .cmp .ne (.call x__law_kind [.v 4]) (.ix (.call x__law_kinds [.v 0]) (.v 1)), .not (.call x__law_same [.call x__law_clip [.v 4], .v 4])])
    [.ret (.c (.bl false))]
    [],
  .set 5 (.bin .add (.bin .add (.bi .list [.slHi (.v 2) (.v 1)]) (.lst [.v 4])) (.bi .list [.slLo (.v 2) (.v 1)])),
  .ret (.call x__law_same [.call x__law_applied [.v 0, .v 5], .v 3])]
theorem v__law_is_solution_eq : b__law_is_solution = v__law_is_solution f__law_kind f__law_kinds f__law_same f__law_clip f__law_applied := rfl
def ve__law_told_1 (x__law_long : CallF) : E := .call x__law_long [.v 0, .v 11]
def vl__law_told_2 (x__law_is_solution : CallF) : List S := [.ite (.not (.call x__law_is_solution [.v 1, .v 3, .v 5, .v 6, .v 9]))
    [.ret (.c (.bl false))]
    []]
def v__law_told (x__law_kinds : CallF) (x__law_draw : CallF) (x__law_long : CallF) (x__law_applied : CallF) (x__law_changed : CallF) (x_solutions : CallF) (x__law_is_solution : CallF) (x__law_same : CallF) : List S := [.set 2 (.call x__law_kinds [.v 1]),
  .set 3 (.ite (.cmp .eq (.v 1) (.c (.str [97, 100, 100, 95, 101, 97, 99, 104]))) (.c (.int 0)) (.call x__law_draw [.v 0, .bin .sub (.bi .len [.v 2]) (.c (.int 1))])),
  .set 4 (.lc (.n 11) [11] (.it (.slHi (.v 2) (.neg (.c (.int 1))))) [] (ve__law_told_1 x__law_long)),
  .set 5 (.bin .add (.slHi (.v 4) (.v 3)) (.slLo (.v 4) (.bin .add (.v 3) (.c (.int 1))))),
  .set 6 (.call x__law_applied [.v 1, .v 4]),
  .set 7 (.call x__law_draw [.v 0, .c (.int 3)]),
  .ite (.or [.cmp .is (.v 6) (.c (.non)), .cmp .eq (.v 7) (.c (.int 1))])
    [.set 6 (.call x__law_long [.v 0, .ix (.v 2) (.neg (.c (.int 1)))])]
    [.ite (.cmp .eq (.v 7) (.c (.int 2)))
        [.set 6 (.call x__law_changed [.v 0, .v 6])]
        []],
  .set 8 (.call x_solutions [.v 1, .v 3, .bi .list [.v 5], .v 6]),
  .ite (.or [.not (.isi [.lst] (.v 8)), .cmp .gt (.bi .len [.v 8]) (.c (.int 1))])
    [.ret (.c (.bl false))]
    [],
  .for (.n 9) (.it (.v 8)) (vl__law_told_2 x__law_is_solution),
  .set 10 (.call x__law_is_solution [.v 1, .v 3, .v 5, .v 6, .ix (.v 4) (.v 3)]),
  .ret (.or [.not (.v 10), .and [.cmp .eq (.bi .len [.v 8]) (.c (.int 1)), .call x__law_same [.ix (.v 8) (.c (.int 0)), .ix (.v 4) (.v 3)]]])]
theorem v__law_told_eq : b__law_told = v__law_told f__law_kinds f__law_draw (f__law_long 45) f__law_applied f__law_changed f_solutions f__law_is_solution f__law_same := rfl
def vl_law_1 (x__law_told : CallF) (x__law_draw : CallF) : List S := [.ite (.not (.call x__law_told [.v 1, .ix (.v 2) (.call x__law_draw [.v 1, .c (.int 10)])]))
    [.ret (.c (.bl false))]
    []]
def v_law (x__law_state : CallF) (x__law_told : CallF) (x__law_draw : CallF) : List S := [.setN 1 (.call x__law_state [.v 0]),
  .set 2 (.lst [.c (.str [99, 111, 110, 99, 97, 116]), .c (.str [106, 111, 105, 110]), .c (.str [97, 112, 112, 101, 110, 100]), .c (.str [112, 114, 101, 112, 101, 110, 100]), .c (.str [114, 101, 118, 101, 114, 115, 101]), .c (.str [114, 101, 118, 101, 114, 115, 101, 95, 116, 101, 120, 116])]),
  .set 2 (.bin .add (.v 2) (.lst [.c (.str [114, 117, 110, 110, 105, 110, 103]), .c (.str [97, 100, 100, 95, 101, 97, 99, 104]), .c (.str [110, 117, 109, 98, 101, 114, 95, 116, 101, 120, 116]), .c (.str [116, 101, 120, 116, 95, 110, 117, 109, 98, 101, 114])])),
  .for (.n 3) (.r1 (.c (.int 3))) (vl_law_1 x__law_told x__law_draw),
  .ret (.c (.bl true))]
theorem v_law_eq : b_law = v_law f__law_state f__law_told f__law_draw := rfl
end K55
end

section
set_option Elab.async false
set_option linter.all false
set_option maxRecDepth 100000
set_option maxHeartbeats 1000000
namespace K55
open PySem L2 Mini
/-! ### numerals -/
theorem num_dig (n : Nat) : ∀ c ∈ TL.numL n, isDig c = true := fun c hc => by
  have := TL.numL_digits n c hc
  unfold isDig
  simp
  omega
theorem digVal_num (n : Nat) : digVal (TL.numL n) = n := by
  have v := TL.numL_val n
  unfold NumText.digitsVal at v
  exact v
/-- the first digit -/
theorem num_head {n : Nat} (h : 0 < n) : ∃ c cs, TL.numL n = c :: cs ∧ c ≠ 48 := by
  induction n using Nat.strongRecOn with
  | _ n ih =>
    by_cases h1 : n < 10
    · exact ⟨48 + n, [], TL.numL_lt h1, by omega⟩
    · obtain ⟨c, cs, e, hc⟩ := ih (n / 10) (by omega) (by omega)
      exact ⟨c, cs ++ [48 + n % 10], by rw [TL.numL_step (by omega), e, List.cons_append], hc⟩
theorem num_zero : TL.numL 0 = [48] := TL.numL_lt (by decide)
/-- a beginning's value is not greater -/
theorem digVal_app (xs : List Nat) (c : Nat) : digVal (xs ++ [c]) = digVal xs * 10 + (c - 48) := by
  unfold digVal
  rw [List.foldl_append]
  rfl
theorem num_back (c0 : Nat) (h0 : isDig c0 = true) (h1 : c0 ≠ 48) : ∀ (n : Nat) (xs : List Nat), xs.length = n → (∀ c ∈ xs, isDig c = true) → TL.numL (digVal (c0 :: xs)) = c0 :: xs ∧ 1 ≤ digVal (c0 :: xs) := by
  have d0 : 48 ≤ c0 ∧ c0 ≤ 57 := by
    unfold isDig at h0
    simpa using h0
  have e0 : digVal [c0] = c0 - 48 := by
    show 0 * 10 + (c0 - 48) = _
    omega
  intro n
  induction n with
  | zero =>
    intro xs hx _
    have : xs = [] := List.eq_nil_of_length_eq_zero hx
    subst this
    rw [e0]
    refine ⟨?_, by omega⟩
    rw [TL.numL_lt (by omega)]
    congr 1
    omega
  | succ n ih =>
    intro xs hx hd
    have hne : xs ≠ [] := fun z => by subst z; simp at hx
    obtain ⟨ys, c, rfl⟩ : ∃ ys c, xs = ys ++ [c] := ⟨xs.dropLast, xs.getLast hne, (List.dropLast_concat_getLast hne).symm⟩
    have hc := hd c (by simp)
    have d1 : 48 ≤ c ∧ c ≤ 57 := by
      unfold isDig at hc
      simpa using hc
    obtain ⟨i1, i2⟩ := ih ys (by simpa using hx) fun x hx' => hd x (List.mem_append_left _ hx')
    have e : digVal (c0 :: (ys ++ [c])) = digVal (c0 :: ys) * 10 + (c - 48) := digVal_app (c0 :: ys) c
    rw [e]
    refine ⟨?_, by omega⟩
    rw [TL.numL_step (by omega)]
    have q1 : (digVal (c0 :: ys) * 10 + (c - 48)) / 10 = digVal (c0 :: ys) := by omega
    have q2 : 48 + (digVal (c0 :: ys) * 10 + (c - 48)) % 10 = c := by omega
    rw [q1, q2, i1]
    rfl
theorem digVal_big {c0 : Nat} (h0 : isDig c0 = true) (h1 : c0 ≠ 48) : ∀ (n : Nat) (xs : List Nat), xs.length = n → 10 ^ n ≤ digVal (c0 :: xs) := by
  have d0 : 48 ≤ c0 ∧ c0 ≤ 57 := by
    unfold isDig at h0
    simpa using h0
  intro n
  induction n with
  | zero =>
    intro xs hx
    have : xs = [] := List.eq_nil_of_length_eq_zero hx
    subst this
    show 1 ≤ 0 * 10 + (c0 - 48)
    omega
  | succ n ih =>
    intro xs hx
    have hne : xs ≠ [] := fun z => by subst z; simp at hx
    obtain ⟨ys, c, rfl⟩ : ∃ ys c, xs = ys ++ [c] := ⟨xs.dropLast, xs.getLast hne, (List.dropLast_concat_getLast hne).symm⟩
    have e : digVal (c0 :: (ys ++ [c])) = digVal (c0 :: ys) * 10 + (c - 48) := digVal_app (c0 :: ys) c
    have := ih ys (by simpa using hx)
    rw [e, Nat.pow_succ]
    omega
theorem len7 {c0 : Nat} {xs : List Nat} (h0 : isDig c0 = true) (h1 : c0 ≠ 48) (h : digVal (c0 :: xs) ≤ 1000000) : (c0 :: xs).length ≤ 7 := by
  rcases Nat.lt_or_ge xs.length 7 with z | z
  · rw [List.length_cons]; omega
  · have a := digVal_big h0 h1 xs.length xs rfl
    have b : 10 ^ 7 ≤ 10 ^ xs.length := Nat.pow_le_pow_right (by omega) z
    omega

/-! ### what the law's small defs give -/
theorem clip_s {X : D} {m : Int} (h1 : isTy .bool X = false) (h2 : isTy .int X = false) (h3 : isTy .str X = true) (hn : cop .is X .non = some false) (hl : Mini.bi .len [X] = some (.int m)) : f__law_clip.F [X] = .ok (if m ≤ 30 then X else .non) [] := by
  by_cases h : m ≤ 30 <;> simp [f__law_clip, b__law_clip, runF, startE, finO, outsOf, inoutSlots, slotsFrom, lim, List.replicate, h1, h2, h3, hn, hl, h, -q_cop_is_n]
theorem clip_l {X : D} {m : Int} (h1 : isTy .bool X = false) (h2 : isTy .int X = false) (h3 : isTy .str X = false) (hn : cop .is X .non = some false) (hl : Mini.bi .len [X] = some (.int m)) : f__law_clip.F [X] = .ok (if m ≤ 12 then X else .non) [] := by
  by_cases h : m ≤ 12 <;> simp [f__law_clip, b__law_clip, runF, startE, finO, outsOf, inoutSlots, slotsFrom, lim, List.replicate, h1, h2, h3, hn, hl, h, -q_cop_is_n]
theorem clip_n {i : Int} (h : inR i = true) : f__law_clip.F [.int i] = .ok (.int i) [] := by
  have h := inR_iff.mp h
  have e1 : isTy .bool (.int i) = false := rfl
  have e2 : isTy .int (.int i) = true := rfl
  simp [f__law_clip, b__law_clip, runF, startE, finO, outsOf, inoutSlots, slotsFrom, lim, List.replicate, h.1, h.2, e1, e2]
theorem digits_go {X : D} {x : List Nat} {m v : Int} {c0 : Nat} {b : Bool} (hi : items X = some (x.map fun c => .str [c])) (he : eqO X (.str []) = some false) (hb : eqO X (.str [48]) = some b) (hat : atD X 0 = some (.str [c0])) (hl : Mini.bi .len [X] = some (.int m))
    (hint : x.all isDig = true → Mini.bi .int [X] = some (.int v)) : f__law_digits.F [X] = .ok (if c0 = 48 ∧ b = false then .non else if x.all isDig = true then (if m < 8 ∧ v ≤ 1000000 then .int v else .non) else .non) [] := by
  show runF 1000000 2 [false] false b__law_digits [X] = _
  refine wp_run (ρ := [.val X, .no]) (fun r => r = .ok (if c0 = 48 ∧ b = false then .non else if x.all isDig = true then (if m < 8 ∧ v ≤ 1000000 then .int v else .non) else .non) []) (by simp only [startE, List.replicate]) ?_
  unfold b__law_digits
  refine wp_ite (ρ' := _) (b := decide (c0 = 48 ∧ b = false)) (by cases b <;> by_cases h : c0 = 48 <;> simp [runF, startE, finO, outsOf, inoutSlots, slotsFrom, lim, List.replicate, he, hb, hat, h] <;> rfl) (fun h => ?_) (fun h => ?_)
  · have h := of_decide_eq_true h
    rw [List.cons_append, wp_cons]
    simp [runF, startE, finO, outsOf, inoutSlots, slotsFrom, lim, List.replicate, h]
  · have h := of_decide_eq_false h
    rw [if_neg h, List.nil_append]
    refine wp_for (xs := x.map fun c => .str [c]) (ρ0 := _) (fun k ρ => (∃ o, ρ = [.val X, sl o]) ∧ ∀ c ∈ x.take k, isDig c = true) (by simp [runF, startE, finO, outsOf, inoutSlots, slotsFrom, lim, List.replicate, hi]; rfl) ⟨⟨none, rfl⟩, by simp⟩ ?_ ?_
    · rintro k y ρ1 hy ⟨⟨o, rfl⟩, hd⟩
      rw [List.getElem?_map] at hy
      obtain ⟨c, hc, rfl⟩ := Option.map_eq_some_iff.mp hy
      refine ⟨_, by simp [runF, startE, finO, outsOf, inoutSlots, slotsFrom, lim, List.replicate]; rfl, ?_⟩
      unfold l__law_digits_1
      have hm : memO (.str [c]) (.str [48, 49, 50, 51, 52, 53, 54, 55, 56, 57]) = some (isDig c) := by
        show some _ = _
        rw [dig_in]
      rw [wp_cons]
      by_cases hdc : isDig c = true
      · simp [runF, startE, finO, outsOf, inoutSlots, slotsFrom, lim, List.replicate, cop, hm, hdc]
        refine ⟨⟨some _, rfl⟩, fun z hz => ?_⟩
        rw [List.take_add_one, hc] at hz
        rcases List.mem_append.mp hz with hz | hz
        · exact hd z hz
        · simp at hz
          rw [hz]; exact hdc
      · have hdc : isDig c = false := by simpa using hdc
        have hall : ¬ x.all isDig = true := fun z => by
          rw [List.all_eq_true] at z
          rw [z c (List.mem_of_getElem? hc)] at hdc
          cases hdc
        simp only [Bool.not_eq_true] at hall
        simp [runF, startE, finO, outsOf, inoutSlots, slotsFrom, lim, List.replicate, cop, hm, hdc, hall]
    · rintro ρ1 ⟨⟨o, rfl⟩, hd⟩
      rw [List.length_map, List.take_length] at hd
      have hall : x.all isDig = true := List.all_eq_true.mpr hd
      have hv := hint hall
      rw [wp_cons]
      by_cases h8 : m < 8 <;> by_cases hv2 : v ≤ 1000000 <;> simp [runF, startE, finO, outsOf, inoutSlots, slotsFrom, lim, List.replicate, hl, hv, hall, h8, hv2]
end K55
end

section
set_option Elab.async false
set_option linter.all false
set_option maxRecDepth 100000
set_option maxHeartbeats 1000000
namespace K55
open PySem L2 Mini
/-! ### shapes -/
def Sh (l : Nat) : D → Prop
  | .int _ => l = 110
  | .str cs => l = 115 ∧ cs.length ≤ 1000
  | .tup ds => l = 108 ∧ ∃ a : List Int, ds = a.map .int ∧ a.length ≤ 1000
  | _ => False
theorem sh_n {i : Int} : Sh 110 (.int i) := rfl
theorem sh_s {x : List Nat} (h : x.length ≤ 1000) : Sh 115 (.str x) := ⟨rfl, h⟩
theorem sh_l {a : List Int} (h : a.length ≤ 1000) : Sh 108 (tI a) := ⟨rfl, a, rfl, h⟩
theorem sh_cases {l : Nat} {d : D} (h : Sh l d) : (l = 110 ∧ ∃ i, d = .int i) ∨ (l = 115 ∧ ∃ x, d = .str x ∧ x.length ≤ 1000) ∨ (l = 108 ∧ ∃ a, d = tI a ∧ a.length ≤ 1000) := by
  cases d with
  | int i => exact .inl ⟨h, i, rfl⟩
  | str x => exact .inr (.inl ⟨h.1, x, rfl, h.2⟩)
  | tup ds =>
    obtain ⟨h1, a, rfl, h2⟩ := h
    exact .inr (.inr ⟨h1, a, rfl, h2⟩)
  | _ => exact h.elim
theorem sh_of {l : Nat} (hl : l = 110 ∨ l = 115 ∨ l = 108) {d : D} (h : isV l d = true) : Sh l d := by
  rcases hl with rfl | rfl | rfl
  · obtain ⟨i, rfl, _⟩ := isN h
    exact rfl
  · obtain ⟨x, rfl, hx, _⟩ := isS h
    exact sh_s (by omega)
  · obtain ⟨a, rfl, ha, _⟩ := isL h
    exact sh_l (by omega)
theorem deps_int : ∀ a : List Int, deps (a.map D.int) = 0
  | [] => rfl
  | i :: a => by
    show max (dep (.int i)) (deps (a.map .int)) = 0
    rw [deps_int a]
    rfl
theorem sh_dep {l : Nat} {d : D} (h : Sh l d) : dep d ≤ 1 := by
  rcases sh_cases h with ⟨_, i, rfl⟩ | ⟨_, x, rfl, _⟩ | ⟨_, a, rfl, _⟩
  · exact Nat.zero_le _
  · exact Nat.zero_le _
  · show deps (a.map .int) + 1 ≤ 1
    rw [deps_int]
    decide
theorem deqs_inj : ∀ {a b : List Int}, deqs (a.map D.int) (b.map D.int) = true → a = b
  | [], [], _ => rfl
  | [], _ :: _, h => by cases h
  | _ :: _, [], h => by cases h
  | i :: a, j :: b, h => by
    have h : ((i == j) && deqs (a.map D.int) (b.map D.int)) = true := h
    obtain ⟨h1, h2⟩ := Bool.and_eq_true_iff.mp h
    rw [eq_of_beq h1, deqs_inj h2]
theorem deq_sh {l : Nat} {a b : D} (ha : Sh l a) (hb : Sh l b) (h : deq a b = true) : a = b := by
  rcases sh_cases ha with ⟨rfl, i, rfl⟩ | ⟨rfl, x, rfl, _⟩ | ⟨rfl, p, rfl, _⟩
  · rcases sh_cases hb with ⟨_, j, rfl⟩ | ⟨z, _⟩ | ⟨z, _⟩
    · have h : (i == j) = true := h
      rw [eq_of_beq h]
    · cases z
    · cases z
  · rcases sh_cases hb with ⟨z, _⟩ | ⟨_, y, rfl, _⟩ | ⟨z, _⟩
    · cases z
    · have h : (x == y) = true := h
      rw [eq_of_beq h]
    · cases z
  · rcases sh_cases hb with ⟨z, _⟩ | ⟨z, _⟩ | ⟨_, q, rfl, _⟩
    · cases z
    · cases z
    · have h : deqs (p.map D.int) (q.map D.int) = true := h
      have e : p = q := deqs_inj h
      rw [e]
theorem eqO_sh {l l' : Nat} {a b : D} (ha : Sh l a) (hb : Sh l' b) : eqO a b = some (deq a b) := by
  unfold eqO
  rw [if_pos (by have := sh_dep ha; have := sh_dep hb; omega)]
theorem sh_non {l : Nat} {d : D} (h : Sh l d) : cop .is d .non = some false ∧ cop .isNot d .non = some true := by
  cases d <;> first | exact ⟨rfl, rfl⟩ | exact h.elim
theorem F_kind {l : Nat} {d : D} (h : Sh l d) : f__law_kind.F [d] = .ok (.str (kL_ l)) [] := by
  rcases sh_cases h with ⟨rfl, i, rfl⟩ | ⟨rfl, x, rfl, _⟩ | ⟨rfl, p, rfl, _⟩ <;> rfl
theorem same_go {xk : CallF} {a b : D} {k : List Nat} {q : Bool} (m : xk.md = [false]) (ha : xk.F [a] = .ok (.str k) []) (hb : xk.F [b] = .ok (.str k) []) (na : cop .is a .non = some false) (nb : cop .is b .non = some false) (h : eqO a b = some q) :
    runF 1000000 2 [false, false] false (v__law_same xk) [a, b] = .ok (.bl q) [] := by
  simp [v__law_same, runF, startE, finO, outsOf, inoutSlots, slotsFrom, lim, List.replicate, m, ha, hb, na, nb, h, -q_cop_is_n]
theorem F_same {l : Nat} {a b : D} (ha : Sh l a) (hb : Sh l b) : f__law_same.F [a, b] = .ok (.bl (deq a b)) [] :=
  same_go (xk := f__law_kind) rfl (F_kind ha) (F_kind hb) (sh_non ha).1 (sh_non hb).1 (eqO_sh ha hb)
theorem same_non {xk : CallF} {b : D} (nb : cop .is b .non = some false) : runF 1000000 2 [false, false] false (v__law_same xk) [.non, b] = .ok (.bl false) [] := by
  have e : cop .is .non .non = some true := rfl
  simp [v__law_same, runF, startE, finO, outsOf, inoutSlots, slotsFrom, lim, List.replicate, nb, e, -q_cop_is_n]
theorem F_same_non {l : Nat} {b : D} (hb : Sh l b) : f__law_same.F [.non, b] = .ok (.bl false) [] := same_non (xk := f__law_kind) (sh_non hb).1
theorem F_clip {l : Nat} (hl : l = 110 ∨ l = 115 ∨ l = 108) {d : D} (h : isV l d = true) : f__law_clip.F [d] = .ok d [] := by
  rcases hl with rfl | rfl | rfl
  · obtain ⟨i, rfl, hi⟩ := isN h
    exact clip_n hi
  · obtain ⟨x, rfl, hx, _⟩ := isS h
    rw [clip_s (X := .str x) (m := (x.length : Int)) rfl rfl rfl rfl rfl, if_pos (by omega)]
  · obtain ⟨a, rfl, ha, _⟩ := isL h
    rw [clip_l (X := tI a) (m := ((a.map D.int).length : Int)) rfl rfl rfl rfl rfl, if_pos (by rw [List.length_map]; omega)]
theorem F_kinds {r : List Nat × List Nat × Nat} (hr : r ∈ rowK) : f__law_kinds.F [.str r.1] = .ok (.tup ((r.2.1.map fun l => D.str (kL_ l)) ++ [.str (kL_ r.2.2)])) [] := by
  simp only [rowK, List.mem_cons, List.not_mem_nil, or_false] at hr
  rcases hr with rfl | rfl | rfl | rfl | rfl | rfl | rfl | rfl | rfl | rfl <;> kernel_rfl
/-! ### what passes the last check -/
theorem fin_s {z : List Nat} (h : ∀ c ∈ z, c ∈ abc) : fin 115 (.str z) = if (z.length : Int) ≤ 30 then .str z else .non := by
  have e : isV 115 (.str z) = decide (z.length ≤ 30) := by
    show (decide (z.length ≤ 30) && z.all fun c => decide (c ∈ abc)) = _
    rw [List.all_eq_true.mpr fun c hc => decide_eq_true (h c hc), Bool.and_true]
  unfold fin
  rw [e]
  by_cases hz : z.length ≤ 30
  · rw [if_pos (decide_eq_true hz), if_pos (by omega)]
  · rw [if_neg (by simpa using hz), if_neg (by omega)]
theorem isV_l (a : List Int) : isV 108 (tI a) = (decide (a.length ≤ 12) && a.all inR) := by
  show (decide ((a.map D.int).length ≤ 12) && (a.map D.int).all isNum) = _
  rw [List.length_map, List.all_map]
  rfl
theorem fin_l {a : List Int} (h : ∀ i ∈ a, inR i = true) : fin 108 (tI a) = if (a.length : Int) ≤ 12 then tI a else .non := by
  unfold fin
  rw [isV_l, List.all_eq_true.mpr h, Bool.and_true]
  by_cases hz : a.length ≤ 12
  · rw [if_pos (decide_eq_true hz), if_pos (by omega)]
  · rw [if_neg (by simpa using hz), if_neg (by omega)]
theorem fin_l2 {a : List Int} (h : a.length ≤ 12) : fin 108 (tI a) = if a.all inR = true then tI a else .non := by
  unfold fin
  rw [isV_l, decide_eq_true h, Bool.true_and]
theorem fin_n {i : Int} : fin 110 (.int i) = if inR i = true then .int i else .non := rfl
end K55
end

section
set_option Elab.async false
set_option linter.all false
set_option maxRecDepth 100000
set_option maxHeartbeats 1000000
namespace K55
open PySem L2 Mini
/-! ### _law_applied -/
section
variable {xc xd : CallF} {A B W V : D}
abbrev rLA (xc xd : CallF) (s : List Nat) (ds : List D) : MR := runF 1000000 6 [false, false] false (v__law_applied xc xd) [.str s, .lst ds]
theorem la_cat {s : List Nat} (hs : s = [99, 111, 110, 99, 97, 116] ∨ s = [106, 111, 105, 110]) (h : bop .add A B = some W) (m : xc.md = [false]) (hc : xc.F [W] = .ok V []) : rLA xc xd s [A, B] = .ok V [] := by
  rcases hs with rfl | rfl <;> simp [v__law_applied, runF, startE, finO, outsOf, inoutSlots, slotsFrom, lim, List.replicate, h, m, hc]
theorem la_app (h : bop .add A (.tup [B]) = some W) (m : xc.md = [false]) (hc : xc.F [W] = .ok V []) : rLA xc xd [97, 112, 112, 101, 110, 100] [A, B] = .ok V [] := by
  simp [v__law_applied, runF, startE, finO, outsOf, inoutSlots, slotsFrom, lim, List.replicate, h, m, hc]
theorem la_pre (h : bop .add (.tup [A]) B = some W) (m : xc.md = [false]) (hc : xc.F [W] = .ok V []) : rLA xc xd [112, 114, 101, 112, 101, 110, 100] [A, B] = .ok V [] := by
  simp [v__law_applied, runF, startE, finO, outsOf, inoutSlots, slotsFrom, lim, List.replicate, h, m, hc]
theorem la_rev {s : List Nat} (hs : s = [114, 101, 118, 101, 114, 115, 101] ∨ s = [114, 101, 118, 101, 114, 115, 101, 95, 116, 101, 120, 116]) (h : revD A = some W) : rLA xc xd s [A] = .ok W [] := by
  rcases hs with rfl | rfl <;> simp [v__law_applied, runF, startE, finO, outsOf, inoutSlots, slotsFrom, lim, List.replicate, h]
theorem la_num {i : Int} {w : List Nat} (h : Mini.bi .str [.int i] = some (.str w)) : rLA xc xd [110, 117, 109, 98, 101, 114, 95, 116, 101, 120, 116] [.int i] = .ok (if 0 ≤ i then .str w else .non) [] := by
  by_cases h0 : 0 ≤ i <;> simp [v__law_applied, runF, startE, finO, outsOf, inoutSlots, slotsFrom, lim, List.replicate, h, h0]
theorem la_txt (m : xd.md = [false]) (hc : xd.F [A] = .ok V []) : rLA xc xd [116, 101, 120, 116, 95, 110, 117, 109, 98, 101, 114] [A] = .ok V [] := by
  simp [v__law_applied, runF, startE, finO, outsOf, inoutSlots, slotsFrom, lim, List.replicate, m, hc]
theorem la_run {m : Int} {b : Bool} {ws bs : List D} (hl : Mini.bi .len [A] = some (.int m)) (hr : rngOk m = true) (e1 : lcGo (.n 4) [4] (lcBody (evTs []) (evE ve__law_applied_1)) (rng 0 m) [] [.val (.str [114, 117, 110, 110, 105, 110, 103]), .val (.lst [A]), .no, .no, .no, .no] = .ok ws [.val (.str [114, 117, 110, 110, 105, 110, 103]), .val (.lst [A]), .no, .no, .no, .no])
    (e2 : lcGo (.n 5) [5] (lcBody (evTs []) (evE ve__law_applied_2)) ws [] [.val (.str [114, 117, 110, 110, 105, 110, 103]), .val (.lst [A]), .val (.lst ws), .no, .no, .no] = .ok bs [.val (.str [114, 117, 110, 110, 105, 110, 103]), .val (.lst [A]), .val (.lst ws), .no, .no, .no])
    (hb : inO (.bl false) bs = some b) : rLA xc xd [114, 117, 110, 110, 105, 110, 103] [A] = .ok (if b = true then .non else .tup ws) [] := by
  cases b <;> simp [v__law_applied, runF, startE, finO, outsOf, inoutSlots, slotsFrom, lim, List.replicate, hl, hr, e1, e2, hb, -q_lc_cons, -q_lc_nil]
theorem la_add {xs ws bs : List D} {b : Bool} (hi : items A = some xs) (e1 : lcGo (.n 5) [5] (lcBody (evTs []) (evE ve__law_applied_3)) xs [] [.val (.str [97, 100, 100, 95, 101, 97, 99, 104]), .val (.lst [A, B]), .no, .no, .no, .no] = .ok ws [.val (.str [97, 100, 100, 95, 101, 97, 99, 104]), .val (.lst [A, B]), .no, .no, .no, .no])
    (e2 : lcGo (.n 5) [5] (lcBody (evTs []) (evE ve__law_applied_4)) ws [] [.val (.str [97, 100, 100, 95, 101, 97, 99, 104]), .val (.lst [A, B]), .no, .val (.lst ws), .no, .no] = .ok bs [.val (.str [97, 100, 100, 95, 101, 97, 99, 104]), .val (.lst [A, B]), .no, .val (.lst ws), .no, .no])
    (hb : inO (.bl false) bs = some b) : rLA xc xd [97, 100, 100, 95, 101, 97, 99, 104] [A, B] = .ok (if b = true then .non else .tup ws) [] := by
  cases b <;> simp [v__law_applied, runF, startE, finO, outsOf, inoutSlots, slotsFrom, lim, List.replicate, hi, e1, e2, hb, -q_lc_cons, -q_lc_nil]
end
theorem in_false : ∀ bs : List Bool, inO (.bl false) (bs.map .bl) = some (!bs.all id) := by
  intro bs
  have hd : ∀ bs : List Bool, deps (bs.map D.bl) = 0 := by
    intro bs
    induction bs with
    | nil => rfl
    | cons b bs ih =>
      show max (dep (.bl b)) (deps (bs.map .bl)) = 0
      rw [ih]
      rfl
  unfold inO
  rw [hd, if_pos (by decide)]
  congr 1
  induction bs with
  | nil => rfl
  | cons b bs ih =>
    rw [List.map_cons, List.any_cons, ih, List.all_cons]
    cases b <;> rfl
theorem run_map : ∀ (a : List Int) (t : Int), runS t a = (List.range a.length).map fun k => t + (a.take (k + 1)).sum
  | [], _ => rfl
  | x :: a, t => by
    show (t + x) :: runS (t + x) a = _
    rw [run_map a (t + x), List.length_cons, List.range_succ_eq_map, List.map_cons, List.map_map]
    congr 1
    · simp
    · refine List.map_congr_left fun k _ => ?_
      show _ = t + ((x :: a).take (k + 1 + 1)).sum
      rw [List.take_succ_cons, List.sum_cons]
      omega
theorem F_digits {x : List Nat} (hx : x.length ≤ 30) : f__law_digits.F [.str x] = .ok (fin 110 (if numOk x = true then .int (digVal x : Nat) else .non)) [] := by
  cases x with
  | nil => rfl
  | cons c0 cs =>
    have hi : items (.str (c0 :: cs)) = some ((c0 :: cs).map fun c => .str [c]) := rfl
    have he : eqO (.str (c0 :: cs)) (.str []) = some false := rfl
    have hb : eqO (.str (c0 :: cs)) (.str [48]) = some (decide (c0 :: cs = [48])) := by
      show some ((c0 :: cs) == [48]) = _
      congr 1
      by_cases z : c0 :: cs = [48]
      · rw [z]; rfl
      · rw [decide_eq_false z]; exact beq_eq_false_iff_ne.mpr z
    have hat : atD (.str (c0 :: cs)) 0 = some (.str [c0]) := by
      show (atI (c0 :: cs) 0).map _ = _
      rw [q_at0]
      rfl
    rw [digits_go hi he hb hat rfl fun h => int_dig (by simp) h (by omega)]
    have e : numOk (c0 :: cs) = ((c0 :: cs).all isDig && (decide (c0 ≠ 48) || decide (c0 :: cs = [48]))) := rfl
    rw [e]
    by_cases h1 : c0 = 48 ∧ decide (c0 :: cs = [48]) = false
    · rw [if_pos h1, h1.2, decide_eq_false (fun z => z h1.1), Bool.or_self, Bool.and_false, if_neg Bool.false_ne_true, fin_non]
    · rw [if_neg h1]
      have e2 : (decide (c0 ≠ 48) || decide (c0 :: cs = [48])) = true := by
        by_cases h2 : c0 = 48
        · cases h3 : decide (c0 :: cs = [48]) with
          | true => rw [Bool.or_true]
          | false => exact absurd ⟨h2, h3⟩ h1
        · rw [decide_eq_true h2, Bool.true_or]
      rw [e2, Bool.and_true]
      cases hall : (c0 :: cs).all isDig with
      | false => rw [if_neg Bool.false_ne_true, if_neg Bool.false_ne_true, fin_non]
      | true =>
        rw [if_pos rfl, if_pos rfl, fin_n]
        by_cases hv : digVal (c0 :: cs) ≤ 1000000
        · have hR : inR ((digVal (c0 :: cs) : Nat) : Int) = true := inR_of (by omega) (by omega)
          rw [hR, if_pos rfl, if_pos]
          refine ⟨?_, by omega⟩
          by_cases h2 : c0 = 48
          · have : c0 :: cs = [48] := by
              subst h2
              simpa using e2
            rw [this]
            decide
          · have := len7 (List.all_eq_true.mp hall c0 (List.mem_cons_self ..)) h2 hv
            omega
        · rw [if_neg fun z => hv (by omega), if_neg]
          intro z
          have := inR_iff.mp z
          omega
theorem F_lap {r : List Nat × List Nat × Nat} (hr : r ∈ rowK) {ds : List D} (hv : AllV r.2.1 ds) : f__law_applied.F [.str r.1, .lst ds] = .ok (ap r ds) [] := by
  simp only [rowK, List.mem_cons, List.not_mem_nil, or_false] at hr
  show rLA f__law_clip f__law_digits r.1 ds = _
  rcases hr with rfl | rfl | rfl | rfl | rfl | rfl | rfl | rfl | rfl | rfl
  · obtain ⟨a, b, rfl, ha, hb⟩ := all_2 hv
    obtain ⟨x, rfl, hx, hc⟩ := isS ha
    obtain ⟨y, rfl, hy, hd⟩ := isS hb
    have e : ap ([99, 111, 110, 99, 97, 116], [115, 115], 115) [.str x, .str y] = fin 115 (.str (x ++ y)) := rfl
    have hin : ∀ c ∈ x ++ y, c ∈ abc := fun c hc' => (List.mem_append.mp hc').elim (hc c) (hd c)
    rw [e, fin_s hin]
    exact la_cat (.inl rfl) (by show (if x.length + y.length ≤ lim then _ else _) = _; rw [if_pos (by show _ ≤ 1000000; omega)]) rfl (clip_s rfl rfl rfl rfl rfl)
  · obtain ⟨a, b, rfl, ha, hb⟩ := all_2 hv
    obtain ⟨x, rfl, hx, hc⟩ := isL ha
    obtain ⟨y, rfl, hy, hd⟩ := isL hb
    have e : ap ([106, 111, 105, 110], [108, 108], 108) [tI x, tI y] = fin 108 (tI (x ++ y)) := by unfold ap; rw [mean_ll]; rfl
    have hin : ∀ c ∈ x ++ y, inR c = true := fun c hc' => (List.mem_append.mp hc').elim (hc c) (hd c)
    rw [e, fin_l hin]
    have := clip_l (X := tI (x ++ y)) (m := (((x ++ y).map D.int).length : Int)) rfl rfl rfl rfl rfl
    rw [List.length_map] at this
    exact la_cat (.inr rfl) (add_tI (by omega)) rfl this
  · obtain ⟨a, b, rfl, ha, hb⟩ := all_2 hv
    obtain ⟨x, rfl, hx, hc⟩ := isL ha
    obtain ⟨n, rfl, hn⟩ := isN hb
    have e : ap ([97, 112, 112, 101, 110, 100], [108, 110], 108) [tI x, .int n] = fin 108 (tI (x ++ [n])) := by unfold ap; rw [mean_ln]; rfl
    have hin : ∀ c ∈ x ++ [n], inR c = true := fun c hc' => (List.mem_append.mp hc').elim (hc c) (fun z => by rw [List.mem_singleton.mp z]; exact hn)
    rw [e, fin_l hin]
    have := clip_l (X := tI (x ++ [n])) (m := (((x ++ [n]).map D.int).length : Int)) rfl rfl rfl rfl rfl
    rw [List.length_map] at this
    exact la_app (add_tI (b := [n]) (by show x.length + 1 ≤ _; omega)) rfl this
  · obtain ⟨a, b, rfl, ha, hb⟩ := all_2 hv
    obtain ⟨n, rfl, hn⟩ := isN ha
    obtain ⟨x, rfl, hx, hc⟩ := isL hb
    have e : ap ([112, 114, 101, 112, 101, 110, 100], [110, 108], 108) [.int n, tI x] = fin 108 (tI (n :: x)) := by unfold ap; rw [mean_nl]
    have hin : ∀ c ∈ n :: x, inR c = true := fun c hc' => (List.mem_cons.mp hc').elim (fun z => by rw [z]; exact hn) (hc c)
    rw [e, fin_l hin]
    have := clip_l (X := tI (n :: x)) (m := (((n :: x).map D.int).length : Int)) rfl rfl rfl rfl rfl
    rw [List.length_map] at this
    exact la_pre (add_tI (a := [n]) (by show 1 + x.length ≤ _; omega)) rfl this
  · obtain ⟨a, rfl, ha⟩ := all_1 hv
    obtain ⟨x, rfl, hx, hc⟩ := isL ha
    have e : ap ([114, 101, 118, 101, 114, 115, 101], [108], 108) [tI x] = fin 108 (tI x.reverse) := by unfold ap; rw [mean_l]; rfl
    rw [e, fin_l (fun i hi => hc i (List.mem_reverse.mp hi)), if_pos (by rw [List.length_reverse]; omega)]
    exact la_rev (.inl rfl) (by show some (D.tup (x.map D.int).reverse) = _; rw [← List.map_reverse])
  · obtain ⟨a, rfl, ha⟩ := all_1 hv
    obtain ⟨x, rfl, hx, hc⟩ := isS ha
    have e : ap ([114, 101, 118, 101, 114, 115, 101, 95, 116, 101, 120, 116], [115], 115) [.str x] = fin 115 (.str x.reverse) := rfl
    rw [e, fin_s (fun i hi => hc i (List.mem_reverse.mp hi)), if_pos (by rw [List.length_reverse]; omega)]
    exact la_rev (.inr rfl) rfl
  · obtain ⟨a, rfl, ha⟩ := all_1 hv
    obtain ⟨x, rfl, hx, hc⟩ := isL ha
    have e : ap ([114, 117, 110, 110, 105, 110, 103], [108], 108) [tI x] = fin 108 (tI (runS 0 x)) := by unfold ap; rw [mean_l]; rfl
    have hrl : (runS 0 x).length ≤ 12 := by rw [run_map, List.length_map, List.length_range]; exact hx
    rw [e, fin_l2 hrl]
    have hl : Mini.bi .len [tI x] = some (.int (x.length : Int)) := by
      show some (D.int ((x.map D.int).length : Int)) = _
      rw [List.length_map]
    have e1 : lcGo (.n 4) [4] (lcBody (evTs []) (evE ve__law_applied_1)) (rng 0 (x.length : Int)) [] [.val (.str [114, 117, 110, 110, 105, 110, 103]), .val (.lst [tI x]), .no, .no, .no, .no] = .ok ((runS 0 x).map .int) [.val (.str [114, 117, 110, 110, 105, 110, 103]), .val (.lst [tI x]), .no, .no, .no, .no] := by
      rw [rng_nat, run_map, List.map_map]
      refine lc_of (s := .no) rfl (fun k _ => ?_) (by rw [List.length_range]; show _ ≤ 1000000; omega)
      have hc2 := cut_hiI (a := x) (n := k + 1)
      have hs := sum_tI (a := x.take (k + 1))
      have e3 : ((k + 1 : Nat) : Int) = (k : Int) + 1 := by omega
      rw [e3] at hc2
      generalize tI x = X at hc2
      generalize tI (x.take (k + 1)) = Y at hc2 hs
      generalize (k : Int) = z at hc2
      simp [ve__law_applied_1, runF, startE, finO, outsOf, inoutSlots, slotsFrom, lim, List.replicate, hc2, hs]
    have e2 : lcGo (.n 5) [5] (lcBody (evTs []) (evE ve__law_applied_2)) ((runS 0 x).map .int) [] [.val (.str [114, 117, 110, 110, 105, 110, 103]), .val (.lst [tI x]), .val (.lst ((runS 0 x).map .int)), .no, .no, .no] = .ok (((runS 0 x).map inR).map .bl) [.val (.str [114, 117, 110, 110, 105, 110, 103]), .val (.lst [tI x]), .val (.lst ((runS 0 x).map .int)), .no, .no, .no] := by
      rw [List.map_map]
      refine lc_of (s := .no) rfl (fun k _ => ?_) (by show _ ≤ 1000000; omega)
      by_cases h1 : -1000000 ≤ k <;> by_cases h2 : k ≤ 1000000 <;> simp [ve__law_applied_2, runF, startE, finO, outsOf, inoutSlots, slotsFrom, lim, List.replicate, inR, h1, h2]
    have := la_run (xc := f__law_clip) (xd := f__law_digits) hl (rngOk_of (by omega) (by omega)) e1 e2 (in_false _)
    rw [this]
    have e4 : ((runS 0 x).map inR).all id = (runS 0 x).all inR := by rw [List.all_map]; rfl
    rw [e4]
    cases (runS 0 x).all inR <;> rfl
  · obtain ⟨a, b, rfl, ha, hb⟩ := all_2 hv
    obtain ⟨x, rfl, hx, hc⟩ := isL ha
    obtain ⟨n, rfl, hn⟩ := isN hb
    have e : ap ([97, 100, 100, 95, 101, 97, 99, 104], [108, 110], 108) [tI x, .int n] = fin 108 (tI (x.map (· + n))) := by unfold ap; rw [mean_ln]; rfl
    rw [e, fin_l2 (by rw [List.length_map]; exact hx)]
    have e1 : lcGo (.n 5) [5] (lcBody (evTs []) (evE ve__law_applied_3)) (x.map .int) [] [.val (.str [97, 100, 100, 95, 101, 97, 99, 104]), .val (.lst [tI x, .int n]), .no, .no, .no, .no] = .ok ((x.map (· + n)).map .int) [.val (.str [97, 100, 100, 95, 101, 97, 99, 104]), .val (.lst [tI x, .int n]), .no, .no, .no, .no] := by
      rw [List.map_map]
      refine lc_of (s := .no) rfl (fun k _ => ?_) (by show _ ≤ 1000000; omega)
      generalize tI x = X
      simp [ve__law_applied_3, runF, startE, finO, outsOf, inoutSlots, slotsFrom, lim, List.replicate]
    have e2 : lcGo (.n 5) [5] (lcBody (evTs []) (evE ve__law_applied_4)) ((x.map (· + n)).map .int) [] [.val (.str [97, 100, 100, 95, 101, 97, 99, 104]), .val (.lst [tI x, .int n]), .no, .val (.lst ((x.map (· + n)).map .int)), .no, .no] = .ok (((x.map (· + n)).map inR).map .bl) [.val (.str [97, 100, 100, 95, 101, 97, 99, 104]), .val (.lst [tI x, .int n]), .no, .val (.lst ((x.map (· + n)).map .int)), .no, .no] := by
      rw [List.map_map (g := D.bl)]
      generalize tI x = X
      have hlen : (x.map (· + n)).length ≤ 12 := by rw [List.length_map]; exact hx
      generalize x.map (· + n) = w at hlen
      refine lc_of (s := .no) rfl (fun k _ => ?_) (by show _ ≤ 1000000; omega)
      by_cases h1 : -1000000 ≤ k <;> by_cases h2 : k ≤ 1000000 <;> simp [ve__law_applied_4, runF, startE, finO, outsOf, inoutSlots, slotsFrom, lim, List.replicate, inR, h1, h2]
    have := la_add (xc := f__law_clip) (xd := f__law_digits) (A := tI x) (B := .int n) rfl e1 e2 (in_false _)
    rw [this]
    have e4 : ((x.map (· + n)).map inR).all id = (x.map (· + n)).all inR := by rw [List.all_map]; rfl
    rw [e4]
    cases (x.map (· + n)).all inR <;> rfl
  · obtain ⟨a, rfl, ha⟩ := all_1 hv
    obtain ⟨i, rfl, hi⟩ := isN ha
    have e : ap ([110, 117, 109, 98, 101, 114, 95, 116, 101, 120, 116], [110], 115) [.int i] = fin 115 (if i < 0 then .non else .str (intS i)) := rfl
    have hR := inR_iff.mp hi
    rw [e, la_num (w := intS i) (by show (if i.natAbs < 10 ^ 100 then _ else _) = _; rw [if_pos]; exact Nat.lt_of_le_of_lt (show i.natAbs ≤ 1000000 by omega) (by decide))]
    by_cases h0 : 0 ≤ i
    · rw [if_pos h0, if_neg (by omega), fin_s (intS_abc (by omega)), if_pos]
      have : intS i = TL.numL i.natAbs := if_neg (by omega)
      rw [this]
      have := TL.numL_len (n := i.natAbs) (k := 7) (by decide) (by omega)
      omega
    · rw [if_neg h0, if_pos (by omega), fin_non]
  · obtain ⟨a, rfl, ha⟩ := all_1 hv
    obtain ⟨x, rfl, hx, hc⟩ := isS ha
    have e : ap ([116, 101, 120, 116, 95, 110, 117, 109, 98, 101, 114], [115], 110) [.str x] = fin 110 (if numOk x = true then .int (digVal x : Nat) else .non) := rfl
    rw [e]
    exact la_txt rfl (F_digits hx)
end K55
end

section
set_option Elab.async false
set_option linter.all false
set_option maxRecDepth 100000
set_option maxHeartbeats 1000000
namespace K55
open PySem L2 Mini
/-! ### guesses -/
abbrev lAdd : List D := [.str [97, 100, 100], .str [115, 117, 98], .str [110, 101, 103], .str [100, 111, 117, 98, 108, 101]]
abbrev lSeq : List D := [.str [99, 111, 110, 99, 97, 116], .str [106, 111, 105, 110], .str [97, 112, 112, 101, 110, 100], .str [112, 114, 101, 112, 101, 110, 100]]
abbrev lSin : List D := [.str [114, 101, 118, 101, 114, 115, 101], .str [114, 101, 118, 101, 114, 115, 101, 95, 116, 101, 120, 116], .str [114, 117, 110, 110, 105, 110, 103], .str [110, 117, 109, 98, 101, 114, 95, 116, 101, 120, 116], .str [116, 101, 120, 116, 95, 110, 117, 109, 98, 101, 114]]
section
variable {xn xs xg xd xa : CallF} {s : List Nat} {k : Int} {O R g W A : D}
theorem gu_seq (h1 : inO (.str s) lAdd = some false) (h2 : inO (.str s) lSeq = some true) (m : xs.md = [false, false, false, false]) (h : xs.F [.str s, .int k, O, R] = .ok g []) :
    runF 1000000 4 [false, false, false, false] false (v_guess xn xs xg) [.str s, .int k, O, R] = .ok (.lst [g]) [] := by
  simp [v_guess, runF, startE, finO, outsOf, inoutSlots, slotsFrom, lim, List.replicate, h1, h2, m, h]
theorem gu_sin (h1 : inO (.str s) lAdd = some false) (h2 : inO (.str s) lSeq = some false) (h3 : inO (.str s) lSin = some true) (m : xg.md = [false, false, false]) (h : xg.F [.str s, O, R] = .ok g []) :
    runF 1000000 4 [false, false, false, false] false (v_guess xn xs xg) [.str s, .int k, O, R] = .ok (.lst [g]) [] := by
  simp [v_guess, runF, startE, finO, outsOf, inoutSlots, slotsFrom, lim, List.replicate, h1, h2, h3, m, h]
theorem gu_each (h1 : inO (.str [97, 100, 100, 95, 101, 97, 99, 104]) lAdd = some false) (h2 : inO (.str [97, 100, 100, 95, 101, 97, 99, 104]) lSeq = some false) (h3 : inO (.str [97, 100, 100, 95, 101, 97, 99, 104]) lSin = some false) (m : xg.md = [false, false, false]) (h : xg.F [.str [97, 100, 100, 95, 101, 97, 99, 104], O, R] = .ok g []) :
    runF 1000000 4 [false, false, false, false] false (v_guess xn xs xg) [.str [97, 100, 100, 95, 101, 97, 99, 104], .int 0, O, R] = .ok (.lst [g]) [] := by
  simp [v_guess, runF, startE, finO, outsOf, inoutSlots, slotsFrom, lim, List.replicate, h1, h2, h3, m, h]
abbrev rSQ (s : List Nat) (k : Int) (O R : D) : MR := runF 1000000 4 [false, false, false, false] false v_sequence_guess [.str s, .int k, O, R]
theorem sq_cat0 {m n : Int} (hs : s = [99, 111, 110, 99, 97, 116] ∨ s = [106, 111, 105, 110]) (hm : Mini.bi .len [A] = some (.int m)) (hn : Mini.bi .len [R] = some (.int n)) (hw : m ≤ n → cutD R none (some (n - m)) = some W) : rSQ s 0 (.lst [A]) R = .ok (if n < m then .non else W) [] := by
  by_cases h : n < m
  · rcases hs with rfl | rfl <;> simp [v_sequence_guess, runF, startE, finO, outsOf, inoutSlots, slotsFrom, lim, List.replicate, hm, hn, h]
  · rcases hs with rfl | rfl <;> simp [v_sequence_guess, runF, startE, finO, outsOf, inoutSlots, slotsFrom, lim, List.replicate, hm, hn, h, hw (by omega)]
theorem sq_cat1 {m n : Int} (hs : s = [99, 111, 110, 99, 97, 116] ∨ s = [106, 111, 105, 110]) (hm : Mini.bi .len [A] = some (.int m)) (hn : Mini.bi .len [R] = some (.int n)) (hw : m ≤ n → cutD R (some m) none = some W) : rSQ s 1 (.lst [A]) R = .ok (if n < m then .non else W) [] := by
  by_cases h : n < m
  · rcases hs with rfl | rfl <;> simp [v_sequence_guess, runF, startE, finO, outsOf, inoutSlots, slotsFrom, lim, List.replicate, hm, hn, h]
  · rcases hs with rfl | rfl <;> simp [v_sequence_guess, runF, startE, finO, outsOf, inoutSlots, slotsFrom, lim, List.replicate, hm, hn, h, hw (by omega)]
theorem sq_none {n : Int} (hs : s = [97, 112, 112, 101, 110, 100] ∨ s = [112, 114, 101, 112, 101, 110, 100]) (hn : Mini.bi .len [R] = some (.int n)) (h : n = 0) : rSQ s k O R = .ok .non [] := by
  rcases hs with rfl | rfl <;> simp [v_sequence_guess, runF, startE, finO, outsOf, inoutSlots, slotsFrom, lim, List.replicate, hn, h]
theorem sq_app0 {n : Int} (hn : Mini.bi .len [R] = some (.int n)) (h : n ≠ 0) (hw : cutD R none (some (-1)) = some W) : rSQ [97, 112, 112, 101, 110, 100] 0 O R = .ok W [] := by
  simp [v_sequence_guess, runF, startE, finO, outsOf, inoutSlots, slotsFrom, lim, List.replicate, hn, h, hw]
theorem sq_app1 {n : Int} (hn : Mini.bi .len [R] = some (.int n)) (h : n ≠ 0) (hw : atD R (-1) = some W) : rSQ [97, 112, 112, 101, 110, 100] 1 O R = .ok W [] := by
  simp [v_sequence_guess, runF, startE, finO, outsOf, inoutSlots, slotsFrom, lim, List.replicate, hn, h, hw]
theorem sq_pre0 {n : Int} (hn : Mini.bi .len [R] = some (.int n)) (h : n ≠ 0) (hw : atD R 0 = some W) : rSQ [112, 114, 101, 112, 101, 110, 100] 0 O R = .ok W [] := by
  simp [v_sequence_guess, runF, startE, finO, outsOf, inoutSlots, slotsFrom, lim, List.replicate, hn, h, hw]
theorem sq_pre1 {n : Int} (hn : Mini.bi .len [R] = some (.int n)) (h : n ≠ 0) (hw : cutD R (some 1) none = some W) : rSQ [112, 114, 101, 112, 101, 110, 100] 1 O R = .ok W [] := by
  simp [v_sequence_guess, runF, startE, finO, outsOf, inoutSlots, slotsFrom, lim, List.replicate, hn, h, hw]
abbrev rSG (xd xa : CallF) (s : List Nat) (O R : D) : MR := runF 1000000 4 [false, false, false] false (v_single_guess xd xa) [.str s, O, R]
theorem sg_run (m : xd.md = [false]) (h : xd.F [R] = .ok W []) : rSG xd xa [114, 117, 110, 110, 105, 110, 103] O R = .ok W [] := by
  simp [v_single_guess, runF, startE, finO, outsOf, inoutSlots, slotsFrom, lim, List.replicate, m, h]
theorem sg_each {ys ws : List D} (hi : items R = some ys) (e : lcGo (.n 3) [3] (lcBody (evTs []) (evE ve_single_guess_1)) ys [] [.val (.str [97, 100, 100, 95, 101, 97, 99, 104]), .val O, .val R, .no] = .ok ws [.val (.str [97, 100, 100, 95, 101, 97, 99, 104]), .val O, .val R, .no]) : rSG xd xa [97, 100, 100, 95, 101, 97, 99, 104] O R = .ok (.tup ws) [] := by
  simp [v_single_guess, runF, startE, finO, outsOf, inoutSlots, slotsFrom, lim, List.replicate, hi, e, -q_lc_cons, -q_lc_nil]
theorem sg_num (m : xa.md = [false, false]) (h : xa.F [.str [116, 101, 120, 116, 95, 110, 117, 109, 98, 101, 114], .lst [R]] = .ok W []) : rSG xd xa [110, 117, 109, 98, 101, 114, 95, 116, 101, 120, 116] O R = .ok W [] := by
  simp [v_single_guess, runF, startE, finO, outsOf, inoutSlots, slotsFrom, lim, List.replicate, m, h]
theorem sg_txt (m : xa.md = [false, false]) (h : xa.F [.str [110, 117, 109, 98, 101, 114, 95, 116, 101, 120, 116], .lst [R]] = .ok W []) : rSG xd xa [116, 101, 120, 116, 95, 110, 117, 109, 98, 101, 114] O R = .ok W [] := by
  simp [v_single_guess, runF, startE, finO, outsOf, inoutSlots, slotsFrom, lim, List.replicate, m, h]
theorem sg_rev (hs : s = [114, 101, 118, 101, 114, 115, 101] ∨ s = [114, 101, 118, 101, 114, 115, 101, 95, 116, 101, 120, 116]) (h : revD R = some W) : rSG xd xa s O R = .ok W [] := by
  rcases hs with rfl | rfl <;> simp [v_single_guess, runF, startE, finO, outsOf, inoutSlots, slotsFrom, lim, List.replicate, h]
end
/-! ### differences -/
def dif (t : Int) : List Int → List Int
  | [] => []
  | x :: xs => (x - t) :: dif x xs
theorem dif_run : ∀ (a : List Int) (t : Int), dif t (runS t a) = a
  | [], _ => rfl
  | x :: a, t => by
    show (t + x - t) :: dif (t + x) (runS (t + x) a) = _
    rw [dif_run a (t + x)]
    congr 1
    omega
theorem dif_len : ∀ (a : List Int) (t : Int), (dif t a).length = a.length
  | [], _ => rfl
  | x :: a, t => congrArg Nat.succ (dif_len a x)
theorem dif_go {X : D} : ∀ (z acc : List Int) (t : Int) (o : Option D), acc.length + z.length ≤ 1000 → ∃ t' o', forGo (.n 3) (exSs 1000000 vl_differences_1) (z.map .int) [.val X, .own (acc.map .int), .val (.int t), sl o] = .nx [.val X, .own ((acc ++ dif t z).map .int), .val (.int t'), sl o']
  | [], acc, t, o, _ => ⟨t, o, by simp [dif, forGo]⟩
  | x :: z, acc, t, o, h => by
    rw [List.length_cons] at h
    obtain ⟨t', o', e⟩ := dif_go (X := X) z (acc ++ [x - t]) x (some (.int x)) (by rw [List.length_append, List.length_singleton]; omega)
    refine ⟨t', o', ?_⟩
    rw [List.map_cons, q_for_cons]
    have hl : acc.length < 1000000 := by omega
    have e2 : exSs 1000000 vl_differences_1 [.val X, .own (acc.map .int), .val (.int t), .val (.int x)] = .nx [.val X, .own ((acc ++ [x - t]).map .int), .val (.int x), .val (.int x)] := by
      simp [vl_differences_1, runF, startE, finO, outsOf, inoutSlots, slotsFrom, lim, List.replicate, hl]
    have e3 : bindT (.n 3) (.int x) [.val X, .own (acc.map .int), .val (.int t), sl o] = some [.val X, .own (acc.map .int), .val (.int t), .val (.int x)] := by
      cases o <;> rfl
    rw [e3]
    simp only []
    rw [e2]
    simp only []
    have e4 : acc ++ dif t (x :: z) = acc ++ [x - t] ++ dif x z := by rw [List.append_assoc]; rfl
    rw [e4]
    exact e
theorem F_dif {z : List Int} (h : z.length ≤ 1000) : f_differences.F [tI z] = .ok (tI (dif 0 z)) [] := by
  obtain ⟨t', o', e⟩ := dif_go (X := tI z) z [] 0 none (by simpa using h)
  have hi : items (tI z) = some (z.map .int) := rfl
  rw [List.nil_append, List.map_nil] at e
  show runF 1000000 4 [false] false v_differences [tI z] = _
  generalize tI z = X at e hi
  have e : forGo (.n 3) (exSs 1000000 vl_differences_1) (z.map .int) [.val X, .own [], .val (.int 0), .no] = .nx [.val X, .own ((dif 0 z).map .int), .val (.int t'), sl o'] := e
  simp [v_differences, runF, startE, finO, outsOf, inoutSlots, slotsFrom, lim, List.replicate, hi, e]
end K55
end

section
set_option Elab.async false
set_option linter.all false
set_option maxRecDepth 100000
set_option maxHeartbeats 1000000
namespace K55
open PySem L2 Mini
/-! ### every row's guess -/
def insD (os : List D) (k : Nat) (x : D) : List D := os.take k ++ x :: os.drop k
structure Gs (r : List Nat × List Nat × Nat) (k : Nat) (os : List D) (R g : D) : Prop where
  run : f_guess.F [.str r.1, .int k, .lst os, R] = .ok (.lst [g]) []
  hit : ∀ x, AllV r.2.1 (insD os k x) → isV r.2.2 R = true → R = mean r.1 (insD os k x) → g = x
theorem lenI {a : List Int} : Mini.bi .len [tI a] = some (.int (a.length : Int)) := by
  show some (D.int ((a.map D.int).length : Int)) = _
  rw [List.length_map]
theorem lenS {a : List Nat} : Mini.bi .len [.str a] = some (.int (a.length : Int)) := rfl
theorem cut_hs {a : List Nat} {n : Nat} {z : Int} (h : z = (n : Int)) : cutD (.str a) none (some z) = some (.str (a.take n)) := by
  subst h
  show some (D.str (cutL a none (some (n : Int)))) = _
  rw [cut_hi]
theorem cut_ls {a : List Nat} {n : Nat} : cutD (.str a) (some (n : Int)) none = some (.str (a.drop n)) := by
  show some (D.str (cutL a (some (n : Int)) none)) = _
  rw [cut_lo]
theorem cut_hI {a : List Int} {n : Nat} {z : Int} (h : z = (n : Int)) : cutD (tI a) none (some z) = some (tI (a.take n)) := by
  subst h
  exact cut_hiI
theorem tI_inj {a b : List Int} (h : tI a = tI b) : a = b := by
  injection h with h
  exact (List.map_inj_right (fun x y e => by injection e)).mp h
section
variable {O R g : D}
theorem g_seq {s : List Nat} {k : Nat} (hs : s = [99, 111, 110, 99, 97, 116] ∨ s = [106, 111, 105, 110] ∨ s = [97, 112, 112, 101, 110, 100] ∨ s = [112, 114, 101, 112, 101, 110, 100]) (h : rSQ s k (.lst [O]) R = .ok g []) : f_guess.F [.str s, .int k, .lst [O], R] = .ok (.lst [g]) [] := by
  rcases hs with rfl | rfl | rfl | rfl <;> exact gu_seq (xn := f_number_guess) (xs := f_sequence_guess) (xg := f_single_guess) rfl rfl rfl h
theorem g_sin {s : List Nat} {OS : D} (hs : s = [114, 101, 118, 101, 114, 115, 101] ∨ s = [114, 101, 118, 101, 114, 115, 101, 95, 116, 101, 120, 116] ∨ s = [114, 117, 110, 110, 105, 110, 103] ∨ s = [110, 117, 109, 98, 101, 114, 95, 116, 101, 120, 116] ∨ s = [116, 101, 120, 116, 95, 110, 117, 109, 98, 101, 114]) (h : rSG f_differences f_apply s OS R = .ok g []) : f_guess.F [.str s, .int 0, OS, R] = .ok (.lst [g]) [] := by
  rcases hs with rfl | rfl | rfl | rfl | rfl <;> exact gu_sin (xn := f_number_guess) (xs := f_sequence_guess) (xg := f_single_guess) rfl rfl rfl rfl h
end
theorem gs_concat0 {y z : List Nat} (hz : z.length ≤ 30) : ∃ g, Gs ([99, 111, 110, 99, 97, 116], [115, 115], 115) 0 [.str y] (.str z) g := by
  refine ⟨_, g_seq (k := 0) (.inl rfl) (sq_cat0 (W := .str (z.take (z.length - y.length))) (.inl rfl) lenS lenS fun h => cut_hs (by omega)), fun x hv _ e => ?_⟩
  obtain ⟨a, b, e1, ha, hb⟩ := all_2 hv
  cases e1
  obtain ⟨x, rfl, hx, _⟩ := isS ha
  have e : D.str z = .str (x ++ y) := e
  cases e
  rw [if_neg (by rw [List.length_append]; omega)]
  congr 1
  rw [List.length_append, Nat.add_sub_cancel]
  exact List.take_left
theorem gs_concat1 {y z : List Nat} (hz : z.length ≤ 30) : ∃ g, Gs ([99, 111, 110, 99, 97, 116], [115, 115], 115) 1 [.str y] (.str z) g := by
  refine ⟨_, g_seq (k := 1) (.inl rfl) (sq_cat1 (W := .str (z.drop y.length)) (.inl rfl) lenS lenS fun h => cut_ls), fun x hv _ e => ?_⟩
  obtain ⟨a, b, e1, ha, hb⟩ := all_2 hv
  cases e1
  obtain ⟨x, rfl, hx, _⟩ := isS hb
  have e : D.str z = .str (y ++ x) := e
  cases e
  rw [if_neg (by rw [List.length_append]; omega)]
  congr 1
  exact List.drop_left
theorem gs_join0 {y z : List Int} (hz : z.length ≤ 12) : ∃ g, Gs ([106, 111, 105, 110], [108, 108], 108) 0 [tI y] (tI z) g := by
  refine ⟨_, g_seq (k := 0) (.inr (.inl rfl)) (sq_cat0 (W := tI (z.take (z.length - y.length))) (.inr rfl) lenI lenI fun h => cut_hI (by omega)), fun x hv _ e => ?_⟩
  obtain ⟨a, b, e1, ha, hb⟩ := all_2 hv
  cases e1
  obtain ⟨x, rfl, hx, _⟩ := isL ha
  have e : tI z = mean [106, 111, 105, 110] [tI x, tI y] := e
  rw [mean_ll] at e
  have e : z = x ++ y := tI_inj e
  subst e
  rw [if_neg (by rw [List.length_append]; omega), List.length_append, Nat.add_sub_cancel, List.take_left]
theorem gs_join1 {y z : List Int} (hz : z.length ≤ 12) : ∃ g, Gs ([106, 111, 105, 110], [108, 108], 108) 1 [tI y] (tI z) g := by
  refine ⟨_, g_seq (k := 1) (.inr (.inl rfl)) (sq_cat1 (W := tI (z.drop y.length)) (.inr rfl) lenI lenI fun h => cut_loI), fun x hv _ e => ?_⟩
  obtain ⟨a, b, e1, ha, hb⟩ := all_2 hv
  cases e1
  obtain ⟨x, rfl, hx, _⟩ := isL hb
  have e : tI z = mean [106, 111, 105, 110] [tI y, tI x] := e
  rw [mean_ll] at e
  have e : z = y ++ x := tI_inj e
  subst e
  rw [if_neg (by rw [List.length_append]; omega), List.drop_left]
theorem gs_append0 {n : Int} {z : List Int} (hz : z.length ≤ 12) : ∃ g, Gs ([97, 112, 112, 101, 110, 100], [108, 110], 108) 0 [.int n] (tI z) g := by
  rcases List.eq_nil_or_concat z with rfl | ⟨w, m, rfl⟩
  · refine ⟨_, g_seq (k := 0) (.inr (.inr (.inl rfl))) (sq_none (.inl rfl) lenI rfl), fun x hv _ e => ?_⟩
    obtain ⟨a, b, e1, ha, hb⟩ := all_2 hv
    cases e1
    obtain ⟨x, rfl, hx, _⟩ := isL ha
    have e : tI [] = mean [97, 112, 112, 101, 110, 100] [tI x, .int n] := e
    rw [mean_ln] at e
    have e : [] = x ++ [n] := tI_inj e
    cases x <;> cases e
  · rw [List.concat_eq_append]
    refine ⟨tI w, g_seq (k := 0) (.inr (.inr (.inl rfl))) (sq_app0 lenI (by rw [List.length_append, List.length_singleton]; omega) ?_), fun x hv _ e => ?_⟩
    · show some (D.tup (cutL ((w ++ [m]).map D.int) none (some (-1)))) = _
      rw [List.map_append, List.map_singleton, cut_m1]
    · obtain ⟨a, b, e1, ha, hb⟩ := all_2 hv
      cases e1
      obtain ⟨x, rfl, hx, _⟩ := isL ha
      have e : tI (w ++ [m]) = mean [97, 112, 112, 101, 110, 100] [tI x, .int n] := e
      rw [mean_ln] at e
      have e : w ++ [m] = x ++ [n] := tI_inj e
      rw [(List.append_inj' e rfl).1]
theorem gs_append1 {y z : List Int} (hz : z.length ≤ 12) : ∃ g, Gs ([97, 112, 112, 101, 110, 100], [108, 110], 108) 1 [tI y] (tI z) g := by
  rcases List.eq_nil_or_concat z with rfl | ⟨w, m, rfl⟩
  · refine ⟨_, g_seq (k := 1) (.inr (.inr (.inl rfl))) (sq_none (.inl rfl) lenI rfl), fun x hv _ e => ?_⟩
    obtain ⟨a, b, e1, ha, hb⟩ := all_2 hv
    cases e1
    obtain ⟨n, rfl, hx⟩ := isN hb
    have e : tI [] = mean [97, 112, 112, 101, 110, 100] [tI y, .int n] := e
    rw [mean_ln] at e
    have e : [] = y ++ [n] := tI_inj e
    cases y <;> cases e
  · rw [List.concat_eq_append]
    refine ⟨.int m, g_seq (k := 1) (.inr (.inr (.inl rfl))) (sq_app1 lenI (by rw [List.length_append, List.length_singleton]; omega) ?_), fun x hv _ e => ?_⟩
    · show atI ((w ++ [m]).map D.int) (-1) = _
      rw [List.map_append, List.map_singleton, at_m1]
    · obtain ⟨a, b, e1, ha, hb⟩ := all_2 hv
      cases e1
      obtain ⟨n, rfl, hx⟩ := isN hb
      have e : tI (w ++ [m]) = mean [97, 112, 112, 101, 110, 100] [tI y, .int n] := e
      rw [mean_ln] at e
      have e : w ++ [m] = y ++ [n] := tI_inj e
      have := (List.append_inj' e rfl).2
      cases this
      rfl
theorem gs_prepend0 {y z : List Int} (hz : z.length ≤ 12) : ∃ g, Gs ([112, 114, 101, 112, 101, 110, 100], [110, 108], 108) 0 [tI y] (tI z) g := by
  cases z with
  | nil =>
    refine ⟨_, g_seq (k := 0) (.inr (.inr (.inr rfl))) (sq_none (.inr rfl) lenI rfl), fun x hv _ e => ?_⟩
    obtain ⟨a, b, e1, ha, hb⟩ := all_2 hv
    cases e1
    obtain ⟨n, rfl, hx⟩ := isN ha
    have e : tI [] = mean [112, 114, 101, 112, 101, 110, 100] [.int n, tI y] := e
    rw [mean_nl] at e
    cases tI_inj e
  | cons m w =>
    refine ⟨.int m, g_seq (k := 0) (.inr (.inr (.inr rfl))) (sq_pre0 lenI (by rw [List.length_cons]; omega) ?_), fun x hv _ e => ?_⟩
    · show atI (D.int m :: w.map D.int) 0 = _
      rw [q_at0]
    · obtain ⟨a, b, e1, ha, hb⟩ := all_2 hv
      cases e1
      obtain ⟨n, rfl, hx⟩ := isN ha
      have e : tI (m :: w) = mean [112, 114, 101, 112, 101, 110, 100] [.int n, tI y] := e
      rw [mean_nl] at e
      cases tI_inj e
      rfl
theorem gs_prepend1 {n : Int} {z : List Int} (hz : z.length ≤ 12) : ∃ g, Gs ([112, 114, 101, 112, 101, 110, 100], [110, 108], 108) 1 [.int n] (tI z) g := by
  cases z with
  | nil =>
    refine ⟨_, g_seq (k := 1) (.inr (.inr (.inr rfl))) (sq_none (.inr rfl) lenI rfl), fun x hv _ e => ?_⟩
    obtain ⟨a, b, e1, ha, hb⟩ := all_2 hv
    cases e1
    obtain ⟨y, rfl, hx, _⟩ := isL hb
    have e : tI [] = mean [112, 114, 101, 112, 101, 110, 100] [.int n, tI y] := e
    rw [mean_nl] at e
    cases tI_inj e
  | cons m w =>
    refine ⟨tI w, g_seq (k := 1) (.inr (.inr (.inr rfl))) (sq_pre1 lenI (by rw [List.length_cons]; omega) (cut_loI (n := 1))), fun x hv _ e => ?_⟩
    obtain ⟨a, b, e1, ha, hb⟩ := all_2 hv
    cases e1
    obtain ⟨y, rfl, hx, _⟩ := isL hb
    have e : tI (m :: w) = mean [112, 114, 101, 112, 101, 110, 100] [.int n, tI y] := e
    rw [mean_nl] at e
    cases tI_inj e
    rfl
theorem gs_reverse {z : List Int} : ∃ g, Gs ([114, 101, 118, 101, 114, 115, 101], [108], 108) 0 [] (tI z) g := by
  refine ⟨tI z.reverse, g_sin (.inl rfl) (sg_rev (.inl rfl) (by show some (D.tup (z.map D.int).reverse) = _; rw [← List.map_reverse])), fun x hv _ e => ?_⟩
  obtain ⟨a, e1, ha⟩ := all_1 hv
  cases e1
  obtain ⟨y, rfl, hx, _⟩ := isL ha
  have e : tI z = mean [114, 101, 118, 101, 114, 115, 101] [tI y] := e
  rw [mean_l] at e
  have e : z = y.reverse := tI_inj e
  rw [e, List.reverse_reverse]
theorem gs_reverse_text {z : List Nat} : ∃ g, Gs ([114, 101, 118, 101, 114, 115, 101, 95, 116, 101, 120, 116], [115], 115) 0 [] (.str z) g := by
  refine ⟨.str z.reverse, g_sin (.inr (.inl rfl)) (sg_rev (.inr rfl) rfl), fun x hv _ e => ?_⟩
  obtain ⟨a, e1, ha⟩ := all_1 hv
  cases e1
  obtain ⟨y, rfl, hx, _⟩ := isS ha
  have e : D.str z = .str y.reverse := e
  cases e
  rw [List.reverse_reverse]
theorem gs_running {z : List Int} (hz : z.length ≤ 12) : ∃ g, Gs ([114, 117, 110, 110, 105, 110, 103], [108], 108) 0 [] (tI z) g := by
  refine ⟨tI (dif 0 z), g_sin (.inr (.inr (.inl rfl))) (sg_run rfl (F_dif (by omega))), fun x hv _ e => ?_⟩
  obtain ⟨a, e1, ha⟩ := all_1 hv
  cases e1
  obtain ⟨y, rfl, hx, _⟩ := isL ha
  have e : tI z = mean [114, 117, 110, 110, 105, 110, 103] [tI y] := e
  rw [mean_l] at e
  have e : z = runS 0 y := tI_inj e
  rw [e, dif_run]
theorem gs_add_each {n : Int} {z : List Int} (hz : z.length ≤ 12) : ∃ g, Gs ([97, 100, 100, 95, 101, 97, 99, 104], [108, 110], 108) 0 [.int n] (tI z) g := by
  have e1 : lcGo (.n 3) [3] (lcBody (evTs []) (evE ve_single_guess_1)) (z.map .int) [] [.val (.str [97, 100, 100, 95, 101, 97, 99, 104]), .val (.lst [.int n]), .val (tI z), .no] = .ok ((z.map (· - n)).map .int) [.val (.str [97, 100, 100, 95, 101, 97, 99, 104]), .val (.lst [.int n]), .val (tI z), .no] := by
    rw [List.map_map]
    generalize tI z = X
    refine lc_of (s := .no) rfl (fun k _ => ?_) (by show _ ≤ 1000000; omega)
    simp [ve_single_guess_1, runF, startE, finO, outsOf, inoutSlots, slotsFrom, lim, List.replicate]
  refine ⟨tI (z.map (· - n)), gu_each (xn := f_number_guess) (xs := f_sequence_guess) (xg := f_single_guess) rfl rfl rfl rfl (sg_each (xd := f_differences) (xa := f_apply) (R := tI z) rfl e1), fun x hv _ e => ?_⟩
  obtain ⟨a, b, e1, ha, hb⟩ := all_2 hv
  cases e1
  obtain ⟨y, rfl, hx, _⟩ := isL ha
  have e : tI z = mean [97, 100, 100, 95, 101, 97, 99, 104] [tI y, .int n] := e
  rw [mean_ln] at e
  have e : z = y.map (· + n) := tI_inj e
  rw [e, List.map_map]
  congr 1
  have : ((fun x => x - n) ∘ fun x => x + n) = id := funext fun i => by show i + n - n = i; omega
  rw [this, List.map_id]
theorem gs_number_text {z : List Nat} (hz : isV 115 (.str z) = true) : ∃ g, Gs ([110, 117, 109, 98, 101, 114, 95, 116, 101, 120, 116], [110], 115) 0 [] (.str z) g := by
  refine ⟨_, g_sin (.inr (.inr (.inr (.inl rfl)))) (sg_num rfl (P_ap (r := ([116, 101, 120, 116, 95, 110, 117, 109, 98, 101, 114], [115], 110)) (by decide) (ds := [.str z]) ⟨hz, trivial⟩ rfl)), fun x hv _ e => ?_⟩
  obtain ⟨a, e1, ha⟩ := all_1 hv
  cases e1
  obtain ⟨i, rfl, hi⟩ := isN ha
  have e : D.str z = (if i < 0 then .non else .str (intS i)) := e
  by_cases h0 : i < 0
  · rw [if_pos h0] at e; cases e
  · rw [if_neg h0] at e
    cases e
    have e2 : intS i = TL.numL i.natAbs := if_neg h0
    show fin 110 (if numOk (intS i) = true then .int (digVal (intS i) : Nat) else .non) = _
    rw [e2]
    have hok : numOk (TL.numL i.natAbs) = true := by
      unfold numOk
      have hall : (TL.numL i.natAbs).all isDig = true := List.all_eq_true.mpr (num_dig _)
      by_cases hz : i.natAbs = 0
      · rw [hz, num_zero]; rfl
      · obtain ⟨c, cs, e3, hc⟩ := num_head (n := i.natAbs) (by omega)
        rw [hall, e3, decide_eq_true (show (c :: cs).headD 0 ≠ 48 from hc)]
        rfl
    rw [hok, if_pos rfl, digVal_num, fin_n]
    have e4 : ((i.natAbs : Nat) : Int) = i := by omega
    rw [e4, hi, if_pos rfl]
theorem gs_text_number {i : Int} (hi : isV 110 (.int i) = true) : ∃ g, Gs ([116, 101, 120, 116, 95, 110, 117, 109, 98, 101, 114], [115], 110) 0 [] (.int i) g := by
  refine ⟨_, g_sin (.inr (.inr (.inr (.inr rfl)))) (sg_txt rfl (P_ap (r := ([110, 117, 109, 98, 101, 114, 95, 116, 101, 120, 116], [110], 115)) (by decide) (ds := [.int i]) ⟨hi, trivial⟩ rfl)), fun x hv _ e => ?_⟩
  obtain ⟨a, e1, ha⟩ := all_1 hv
  cases e1
  obtain ⟨x, rfl, hx, hc⟩ := isS ha
  have e : D.int i = (if numOk x = true then .int (digVal x : Nat) else .non) := e
  by_cases hok : numOk x = true
  · rw [if_pos hok] at e
    cases e
    show fin 115 (if ((digVal x : Nat) : Int) < 0 then .non else .str (intS ((digVal x : Nat) : Int))) = _
    rw [if_neg (by omega)]
    have e2 : intS ((digVal x : Nat) : Int) = TL.numL (digVal x) := if_neg (by omega)
    have e3 : TL.numL (digVal x) = x := by
      cases x with
      | nil => cases hok
      | cons c cs =>
        have hok : (((c :: cs).all isDig) && (decide (c ≠ 48) || decide (c :: cs = [48]))) = true := hok
        obtain ⟨h1, h2⟩ := Bool.and_eq_true_iff.mp hok
        have h1 := List.all_eq_true.mp h1
        by_cases h48 : c = 48
        · have : c :: cs = [48] := by
            subst h48
            simpa using h2
          rw [this]
          exact num_zero
        · exact (num_back c (h1 c (List.mem_cons_self ..)) h48 cs.length cs rfl fun d hd => h1 d (List.mem_cons_of_mem _ hd)).1
    rw [e2, e3, fin_s hc, if_pos (by omega)]
  · rw [if_neg hok] at e; cases e
end K55
end

section
set_option Elab.async false
set_option linter.all false
set_option maxRecDepth 100000
set_option maxHeartbeats 1000000
namespace K55
open PySem L2 Mini
/-! ### where the argument stands -/
inductive Pos : List Nat × List Nat × Nat → Nat → List D → Nat → Prop
  | one {s : List Nat} {l lr : Nat} : Pos (s, [l], lr) 0 [] l
  | fst {s : List Nat} {l l' lr : Nat} {o : D} : isV l' o = true → Pos (s, [l, l'], lr) 0 [o] l
  | snd {s : List Nat} {l l' lr : Nat} {o : D} : isV l o = true → s ≠ [97, 100, 100, 95, 101, 97, 99, 104] → Pos (s, [l, l'], lr) 1 [o] l'
section
variable {r : List Nat × List Nat × Nat} {k : Nat} {os : List D} {lk : Nat} {R g v : D}
theorem Pos.all (h : Pos r k os lk) (hv : isV lk v = true) : AllV r.2.1 (insD os k v) := by
  cases h with
  | one => exact ⟨hv, trivial⟩
  | fst ho => exact ⟨hv, ho, trivial⟩
  | snd ho _ => exact ⟨ho, hv, trivial⟩
theorem rowK_lk : ∀ r ∈ rowK, (∀ l ∈ r.2.1, l = 110 ∨ l = 115 ∨ l = 108) ∧ (r.2.2 = 110 ∨ r.2.2 = 115 ∨ r.2.2 = 108) := by decide +kernel
theorem Pos.three (hr : r ∈ rowK) (h : Pos r k os lk) : lk = 110 ∨ lk = 115 ∨ lk = 108 := by
  have := (rowK_lk r hr).1
  cases h with
  | one => exact this _ (List.mem_cons_self ..)
  | fst _ => exact this _ (List.mem_cons_self ..)
  | snd _ _ => exact this _ (List.mem_cons_of_mem _ (List.mem_cons_self ..))
theorem guess_all (hr : r ∈ rowK) (h : Pos r k os lk) (hR : isV r.2.2 R = true) : ∃ g, Gs r k os R g := by
  simp only [rowK, List.mem_cons, List.not_mem_nil, or_false] at hr
  rcases hr with rfl | rfl | rfl | rfl | rfl | rfl | rfl | rfl | rfl | rfl
  · obtain ⟨z, rfl, hz, _⟩ := isS hR
    cases h with
    | fst ho => obtain ⟨y, rfl, _⟩ := isS ho; exact gs_concat0 hz
    | snd ho _ => obtain ⟨y, rfl, _⟩ := isS ho; exact gs_concat1 hz
  · obtain ⟨z, rfl, hz, _⟩ := isL hR
    cases h with
    | fst ho => obtain ⟨y, rfl, _⟩ := isL ho; exact gs_join0 hz
    | snd ho _ => obtain ⟨y, rfl, _⟩ := isL ho; exact gs_join1 hz
  · obtain ⟨z, rfl, hz, _⟩ := isL hR
    cases h with
    | fst ho => obtain ⟨y, rfl, _⟩ := isN ho; exact gs_append0 hz
    | snd ho _ => obtain ⟨y, rfl, _⟩ := isL ho; exact gs_append1 hz
  · obtain ⟨z, rfl, hz, _⟩ := isL hR
    cases h with
    | fst ho => obtain ⟨y, rfl, _⟩ := isL ho; exact gs_prepend0 hz
    | snd ho _ => obtain ⟨y, rfl, _⟩ := isN ho; exact gs_prepend1 hz
  · obtain ⟨z, rfl, hz, _⟩ := isL hR
    cases h
    exact gs_reverse
  · obtain ⟨z, rfl, hz, _⟩ := isS hR
    cases h
    exact gs_reverse_text
  · obtain ⟨z, rfl, hz, _⟩ := isL hR
    cases h
    exact gs_running hz
  · obtain ⟨z, rfl, hz, _⟩ := isL hR
    cases h with
    | fst ho => obtain ⟨y, rfl, _⟩ := isN ho; exact gs_add_each hz
    | snd ho hn => exact absurd rfl hn
  · cases h
    obtain ⟨z, rfl, hz, _⟩ := isS hR
    exact gs_number_text hR
  · cases h
    obtain ⟨z, rfl, hz⟩ := isN hR
    exact gs_text_number hR
theorem F_placed (h : Pos r k os lk) : f_placed.F [.lst os, .int k, v] = .ok (.lst (insD os k v)) [] := by
  cases h <;> kernel_rfl
theorem F_ak (hr : r ∈ rowK) : f_argument_kinds.F [.str r.1] = .ok (.lst (r.2.1.map fun l => .str (kL_ l))) [] := by
  simp only [rowK, List.mem_cons, List.not_mem_nil, or_false] at hr
  rcases hr with rfl | rfl | rfl | rfl | rfl | rfl | rfl | rfl | rfl | rfl <;> kernel_rfl
theorem Pos.kd (h : Pos r k os lk) : atD (.lst (r.2.1.map fun l => .str (kL_ l))) (k : Int) = some (.str (kL_ lk)) := by
  cases h <;> rfl
theorem Pos.kd2 {q : D} (h : Pos r k os lk) : atD (.tup ((r.2.1.map fun l => .str (kL_ l)) ++ [q])) (k : Int) = some (.str (kL_ lk)) := by
  cases h <;> rfl
theorem ap_sh (hr : r ∈ rowK) (ds : List D) : ap r ds = .non ∨ isV r.2.2 (ap r ds) = true := by
  unfold ap fin
  split
  · rename_i h; exact .inr h
  · exact .inl rfl
theorem eq_ap (hr : r ∈ rowK) {ds : List D} (hR : isV r.2.2 R = true) : eqO (ap r ds) R = some (deq (ap r ds) R) := by
  unfold eqO
  rw [if_pos]
  have h1 := isV_dep hR
  have h2 : dep (ap r ds) ≤ 1 := by
    rcases ap_sh hr ds with h | h
    · rw [h]; exact Nat.zero_le _
    · exact isV_dep h
  omega
end
/-! ### solutions -/
section
variable {xa xg xi xp xl : CallF} {s kd : List Nat} {k : Int} {O R K g w P : D} {q : Bool}
abbrev rSol (xa xg xi xp xl : CallF) (s : List Nat) (k : Int) (O R : D) : MR := runF 1000000 8 [false, false, false, false] false (v_solutions xa xg xi xp xl) [.str s, .int k, O, R]
theorem sol_non (m1 : xa.md = [false]) (h1 : xa.F [.str s] = .ok K []) (h2 : atD K k = some (.str kd)) (h3 : kd ≠ [116, 114, 117, 116, 104]) (m2 : xg.md = [false, false, false, false]) (h4 : xg.F [.str s, .int k, O, R] = .ok (.lst [g]) []) (h5 : cop .isNot g .non = some false) :
    rSol xa xg xi xp xl s k O R = .ok (.lst []) [] := by
  have e0 : cop .is (.lst [g]) .non = some false := rfl
  simp [v_solutions, ve_solutions_1, ve_solutions_2, ve_solutions_3, ve_solutions_4, runF, startE, finO, outsOf, inoutSlots, slotsFrom, lim, List.replicate, e0, m1, h1, h2, h3, m2, h4, h5, -q_cop_is_n, -q_cop_isn_n]
theorem sol_no (m1 : xa.md = [false]) (h1 : xa.F [.str s] = .ok K []) (h2 : atD K k = some (.str kd)) (h3 : kd ≠ [116, 114, 117, 116, 104]) (m2 : xg.md = [false, false, false, false]) (h4 : xg.F [.str s, .int k, O, R] = .ok (.lst [g]) []) (h5 : cop .isNot g .non = some true)
    (m3 : xi.md = [false, false]) (h6 : xi.F [.str kd, g] = .ok (.bl false) []) : rSol xa xg xi xp xl s k O R = .ok (.lst []) [] := by
  have e0 : cop .is (.lst [g]) .non = some false := rfl
  simp [v_solutions, ve_solutions_1, ve_solutions_2, ve_solutions_3, ve_solutions_4, runF, startE, finO, outsOf, inoutSlots, slotsFrom, lim, List.replicate, e0, m1, h1, h2, h3, m2, h4, h5, m3, h6, -q_cop_is_n, -q_cop_isn_n]
theorem sol_yes (m1 : xa.md = [false]) (h1 : xa.F [.str s] = .ok K []) (h2 : atD K k = some (.str kd)) (h3 : kd ≠ [116, 114, 117, 116, 104]) (m2 : xg.md = [false, false, false, false]) (h4 : xg.F [.str s, .int k, O, R] = .ok (.lst [g]) []) (h5 : cop .isNot g .non = some true)
    (m3 : xi.md = [false, false]) (h6 : xi.F [.str kd, g] = .ok (.bl true) []) (m4 : xl.md = [false, false, false]) (h7 : xl.F [O, .int k, g] = .ok P []) (m5 : xp.md = [false, false]) (h8 : xp.F [.str s, P] = .ok w []) (h9 : eqO w R = some q) :
    rSol xa xg xi xp xl s k O R = .ok (.lst (if q = true then [g] else [])) [] := by
  have e0 : cop .is (.lst [g]) .non = some false := rfl
  cases q <;> simp [v_solutions, ve_solutions_1, ve_solutions_2, ve_solutions_3, ve_solutions_4, runF, startE, finO, outsOf, inoutSlots, slotsFrom, lim, List.replicate, e0, m1, h1, h2, h3, m2, h4, h5, m3, h6, m4, h7, m5, h8, h9, -q_cop_is_n, -q_cop_isn_n]
end
theorem F_sol {r : List Nat × List Nat × Nat} {k : Nat} {os : List D} {lk : Nat} {R g : D} (hr : r ∈ rowK) (hp : Pos r k os lk) (hR : isV r.2.2 R = true) (hg : Gs r k os R g) :
    f_solutions.F [.str r.1, .int k, .lst os, R] = .ok (.lst (if isV lk g = true ∧ deq (ap r (insD os k g)) R = true then [g] else [])) [] := by
  show rSol f_argument_kinds f_guess f_is_value f_apply f_placed r.1 k (.lst os) R = _
  have hlk := hp.three hr
  have hne : kL_ lk ≠ [116, 114, 117, 116, 104] := by rcases hlk with rfl | rfl | rfl <;> decide
  have hlet : lk ∈ letters := by rcases hlk with rfl | rfl | rfl <;> decide
  have hv := F_isv (kL_ lk) g
  rw [isVal_L hlet] at hv
  cases hi : isV lk g with
  | false =>
    rw [hi] at hv
    rw [if_neg fun z => Bool.false_ne_true z.1]
    cases hn : isNon g with
    | true =>
      have : cop .isNot g .non = some false := by cases g <;> first | rfl | cases hn
      exact sol_non rfl (F_ak hr) hp.kd hne rfl hg.run this
    | false =>
      have : cop .isNot g .non = some true := by cases g <;> first | rfl | cases hn
      exact sol_no rfl (F_ak hr) hp.kd hne rfl hg.run this rfl hv
  | true =>
    rw [hi] at hv
    have := sh_non (sh_of hlk hi)
    rw [sol_yes rfl (F_ak hr) hp.kd hne rfl hg.run this.2 rfl hv rfl (F_placed hp) rfl (P_ap hr (hp.all hi) rfl) (eq_ap hr hR)]
    by_cases hd : deq (ap r (insD os k g)) R = true
    · rw [if_pos hd, if_pos ⟨rfl, hd⟩]
    · rw [if_neg hd, if_neg fun z => hd z.2]
/-! ### _law_is_solution -/
section
variable {xk xn xs xc xa : CallF} {s kd : List Nat} {k : Int} {os o1 o2 : List D} {R K w v : D} {q : Bool}
theorem is_go (hn : cop .is v .non = some false) (m1 : xk.md = [false]) (h1 : xk.F [v] = .ok (.str kd) []) (m2 : xn.md = [false]) (h2 : xn.F [.str s] = .ok K []) (h3 : atD K k = some (.str kd)) (m3 : xc.md = [false]) (h4 : xc.F [v] = .ok v [])
    (m4 : xs.md = [false, false]) (h5 : xs.F [v, v] = .ok (.bl true) []) (c1 : cutL os none (some k) = o1) (c2 : cutL os (some k) none = o2) (hz : o1.length + 1 + o2.length ≤ 1000000) (m5 : xa.md = [false, false])
    (h6 : xa.F [.str s, .lst (o1 ++ v :: o2)] = .ok w []) (h7 : xs.F [w, R] = .ok (.bl q) []) :
    runF 1000000 6 [false, false, false, false, false] false (v__law_is_solution xk xn xs xc xa) [.str s, .int k, .lst os, R, v] = .ok (.bl q) [] := by
  have z1 : o1.length + 1 ≤ 1000000 := by omega
  simp [v__law_is_solution, runF, startE, finO, outsOf, inoutSlots, slotsFrom, lim, List.replicate, hn, m1, h1, m2, h2, h3, m3, h4, m4, h5, c1, c2, hz, z1, m5, h6, h7, -q_cop_is_n]
end
theorem F_iss {r : List Nat × List Nat × Nat} {k : Nat} {os : List D} {lk : Nat} {R v : D} (hr : r ∈ rowK) (hp : Pos r k os lk) (hR : isV r.2.2 R = true) (hv : isV lk v = true) :
    f__law_is_solution.F [.str r.1, .int k, .lst os, R, v] = .ok (.bl (deq (ap r (insD os k v)) R)) [] := by
  have hlk := hp.three hr
  have sv := sh_of hlk hv
  have sR := sh_of (rowK_lk r hr).2 hR
  have hs := F_same sv sv
  rw [deq_refl] at hs
  have hw : f__law_same.F [ap r (insD os k v), R] = .ok (.bl (deq (ap r (insD os k v)) R)) [] := by
    rcases ap_sh hr (insD os k v) with h | h
    · rw [h, F_same_non sR]
      cases R <;> first | rfl | cases sR
    · exact F_same (sh_of (rowK_lk r hr).2 h) sR
  have hl := F_lap hr (hp.all hv)
  have e : ∃ o1 o2, cutL os none (some (k : Int)) = o1 ∧ cutL os (some (k : Int)) none = o2 ∧ o1.length + 1 + o2.length ≤ 1000000 ∧ insD os k v = o1 ++ v :: o2 := by
    cases hp with
    | one => exact ⟨[], [], rfl, rfl, by decide, rfl⟩
    | fst ho => exact ⟨[], [_], rfl, rfl, by show 0 + 1 + 1 ≤ 1000000; decide, rfl⟩
    | snd ho _ => exact ⟨[_], [], rfl, rfl, by show 1 + 1 + 0 ≤ 1000000; decide, rfl⟩
  obtain ⟨o1, o2, c1, c2, hz, e⟩ := e
  rw [e] at hl hw ⊢
  exact is_go (xk := f__law_kind) (xn := f__law_kinds) (xs := f__law_same) (xc := f__law_clip) (xa := f__law_applied) (sh_non sv).1 rfl (F_kind sv) rfl (F_kinds hr) hp.kd2 rfl (F_clip hlk hv) rfl hs c1 c2 hz rfl hl hw
end K55
end

section
set_option Elab.async false
set_option linter.all false
set_option maxRecDepth 100000
set_option maxHeartbeats 2000000
namespace K55
open PySem L2 Mini
/-! ### draws -/
def mix (c : Int) : Int := ((((c.fmod 2147483647) * 48271 + 11).fmod 2147483647) * 69621 + 5).fmod 2147483629
def numb (c : Int) : Int := if 1000000000000000000 ≤ c then c else mix c * 2147483629 + mix (mix c + c)
theorem small_lit : small 48271 = true ∧ small 69621 = true ∧ small 2147483629 = true ∧ small 2 = true := by decide
theorem F_mix (c : Int) : f__law_mix.F [.int c] = .ok (.int (mix c)) [] := by
  simp [f__law_mix, b__law_mix, runF, startE, finO, outsOf, inoutSlots, slotsFrom, lim, List.replicate, mix, small_lit]
theorem F_number (c : Int) : f__law_number.F [.int c] = .ok (.int (numb c)) [] := by
  by_cases h : 1000000000000000000 ≤ c
  · simp [f__law_number, b__law_number, runF, startE, finO, outsOf, inoutSlots, slotsFrom, lim, List.replicate, numb, small_lit, h, F_mix, md__law_mix]
  · simp [f__law_number, b__law_number, runF, startE, finO, outsOf, inoutSlots, slotsFrom, lim, List.replicate, numb, small_lit, h, F_mix, md__law_mix]
def st (a : Int) (cells : List Int) (p m : Int) : List D := [.int a, .lst (cells.map .int), .int p, .int m]
theorem st_len {a p m : Int} {cells : List Int} : (st a cells p m).length = 4 := rfl
theorem ix0 {a b c d : D} : atI [a, b, c, d] 0 = some a := rfl
theorem ix1 {a b c d : D} : atI [a, b, c, d] 1 = some b := rfl
theorem ix2 {a b c d : D} : atI [a, b, c, d] 2 = some c := rfl
theorem ix3 {a b c d : D} : atI [a, b, c, d] 3 = some d := rfl
theorem jx0 : ixN 4 0 = some 0 := rfl
theorem jx2 : ixN 4 2 = some 2 := rfl
theorem jx3 : ixN 4 3 = some 3 := rfl
theorem at_cells {cells : List Int} {p : Int} (h0 : 0 ≤ p) (h1 : p < cells.length) : ∃ c, atI (cells.map D.int) p = some (.int c) := by
  have h2 : p.toNat < cells.length := by omega
  refine ⟨cells[p.toNat], ?_⟩
  unfold atI ixN
  rw [if_pos h0, List.length_map, if_pos h1]
  simp [h2]
def rollM (m : Int) : Int := (m * 48271 + 7).fmod 2147483647
theorem draw_ok (a : Int) (cells : List Int) (p m : Int) {many : Int} (hp : 0 ≤ p) (hm : 0 < many) (hM : many.natAbs < 1073741824) :
    ∃ v a' p' m', f__law_draw.F [.lst (st a cells p m), .int many] = .ok (.int v) [st a' cells p' m'] ∧ 0 ≤ v ∧ v < many ∧ 0 ≤ p' := by
  have hn : many ≠ 0 := by omega
  by_cases h1 : a < many ∧ p < cells.length
  · obtain ⟨h1, h2⟩ := h1
    obtain ⟨c, hc⟩ := at_cells hp h2
    by_cases h3 : numb c = 0
    · refine ⟨((rollM m).fdiv 11).fmod many, 0, p + 1, rollM m, ?_, (fm _ hm).1, (fm _ hm).2, by omega⟩
      simp [f__law_draw, b__law_draw, runF, startE, finO, outsOf, inoutSlots, slotsFrom, lim, List.replicate, st, ix0, ix1, ix2, ix3, jx0, jx2, jx3, h1, h2, hc, F_number, md__law_number, h3, small_lit, rollM, hn]
    · refine ⟨(numb c).fmod many, (numb c).fdiv many, p + 1, m, ?_, (fm _ hm).1, (fm _ hm).2, by omega⟩
      simp [f__law_draw, b__law_draw, runF, startE, finO, outsOf, inoutSlots, slotsFrom, lim, List.replicate, st, ix0, ix1, ix2, ix3, jx0, jx2, jx3, h1, h2, hc, F_number, md__law_number, h3, small_lit, rollM, hn, hM]
  · have h1 : a < many → ¬ p < cells.length := fun x y => h1 ⟨x, y⟩
    by_cases h3 : a = 0
    · refine ⟨((rollM m).fdiv 11).fmod many, 0, p, rollM m, ?_, (fm _ hm).1, (fm _ hm).2, hp⟩
      subst h3
      have h2 := h1 hm
      simp [f__law_draw, b__law_draw, runF, startE, finO, outsOf, inoutSlots, slotsFrom, lim, List.replicate, st, ix0, ix1, ix2, ix3, jx0, jx2, jx3, hm, h2, F_number, md__law_number, small_lit, rollM, hn]
    · refine ⟨a.fmod many, a.fdiv many, p, m, ?_, (fm _ hm).1, (fm _ hm).2, hp⟩
      by_cases h4 : a < many
      · have h2 := h1 h4
        simp [f__law_draw, b__law_draw, runF, startE, finO, outsOf, inoutSlots, slotsFrom, lim, List.replicate, st, ix0, ix1, ix2, ix3, jx0, jx2, jx3, h4, h2, F_number, md__law_number, h3, small_lit, rollM, hn, hM]
      · simp [f__law_draw, b__law_draw, runF, startE, finO, outsOf, inoutSlots, slotsFrom, lim, List.replicate, st, ix0, ix1, ix2, ix3, jx0, jx2, jx3, h4, F_number, md__law_number, h3, small_lit, rollM, hn, hM]
end K55
end

section
set_option Elab.async false
set_option linter.all false
set_option maxRecDepth 100000
set_option maxHeartbeats 1000000
namespace K55
open PySem L2 Mini
/-! ### drawing -/
/-- the first k numbers -/
theorem rng_ex {m : Int} (h0 : 0 ≤ m) : ∃ xs : List Int, rng 0 m = xs.map .int ∧ xs.length = m.toNat ∧ ∀ k ∈ xs, 0 ≤ k ∧ k < m := by
  refine ⟨_, rng_map m, by simp, fun k hk => ?_⟩
  obtain ⟨j, hj, rfl⟩ := List.mem_map.mp hk
  have := List.mem_range.mp hj
  omega
/-- lengths, as ints that the kernel does not unfold -/
theorem len_s {ks : List Nat} (h : ks.length ≤ 1000) : ∃ z : Int, rngOk z = true ∧ Mini.bi .len [.str ks] = some (.int z) ∧ rng 0 z = (List.range ks.length).map fun (k : Nat) => D.int (k : Nat) :=
  ⟨((ks.length : Nat) : Int), rngOk_of (by omega) (by omega), rfl, by rw [rng_map, List.map_map]; rfl⟩
theorem len_l {ks : List D} (h : ks.length ≤ 1000) : ∃ z : Int, rngOk z = true ∧ Mini.bi .len [.lst ks] = some (.int z) ∧ rng 0 z = (List.range ks.length).map fun (k : Nat) => D.int (k : Nat) :=
  ⟨((ks.length : Nat) : Int), rngOk_of (by omega) (by omega), rfl, by rw [rng_map, List.map_map]; rfl⟩
def Dr (S : List D) : Prop := ∃ (a : Int) (cells : List Int) (p m : Int), S = st a cells p m ∧ 0 ≤ p
def DrawOk (xd : CallF) : Prop := xd.md = [true, false] ∧ ∀ S, Dr S → ∀ many : Int, 0 < many → many < 1073741824 → ∃ v S', xd.F [.lst S, .int many] = .ok (.int v) [S'] ∧ 0 ≤ v ∧ v < many ∧ Dr S'
theorem Dr.len {S : List D} (h : Dr S) : S.length ≤ 1000000 := by
  obtain ⟨a, cells, p, m, rfl, _⟩ := h
  rw [st_len]
  decide
theorem draw_dr : DrawOk f__law_draw := ⟨rfl, fun S ⟨a, cells, p, m, e, hp⟩ many h0 h1 => by
  subst e
  obtain ⟨v, a', p', m', e, v0, v1, hp'⟩ := draw_ok a cells p m hp (many := many) h0 (by omega)
  exact ⟨v, _, e, v0, v1, a', cells, p', m', rfl, hp'⟩⟩
/-- a comprehension whose elements draw -/
theorem lc_draw {i : Nat} {Fr : List D → En} {elt : EvF Rv} {P : D → D → Prop} (hi : ∀ S, (Fr S)[i]? = some .no) : ∀ (xs : List D), (∀ x ∈ xs, ∀ S, Dr S → ∃ y S', elt ((Fr S).set i (.val x)) = .ok (.d y) ((Fr S').set i (.val x)) ∧ P x y ∧ Dr S') →
    ∀ (acc : List D) (S : List D), Dr S → acc.length + xs.length ≤ 1000000 → ∃ ys S', lcGo (.n i) [i] (lcBody (evTs []) elt) xs acc (Fr S) = .ok (acc ++ ys) (Fr S') ∧ Dr S' ∧ ys.length = xs.length ∧ ∀ (j : Nat) (x y : D), xs[j]? = some x → ys[j]? = some y → P x y
  | [], _, acc, S, hS, hz => ⟨[], S, by
    rw [q_lc_nil, if_pos (by show _ ≤ 1000000; simpa using hz), List.append_nil], hS, rfl, fun j x y h => by cases h⟩
  | x :: xs, h, acc, S, hS, hz => by
    rw [List.length_cons] at hz
    obtain ⟨y, S1, e1, p1, d1⟩ := h x (List.mem_cons_self ..) S hS
    obtain ⟨ys, S2, e2, d2, l2, p2⟩ := lc_draw hi xs (fun z hz => h z (List.mem_cons_of_mem _ hz)) (acc ++ [y]) S1 d1 (by rw [List.length_append, List.length_singleton]; omega)
    have lt : ∀ S, i < (Fr S).length := fun S => (List.getElem?_eq_some_iff.mp (hi S)).1
    refine ⟨y :: ys, S2, ?_, d2, by rw [List.length_cons, List.length_cons, l2], fun j a b ha hb => ?_⟩
    · rw [q_lc_cons]
      have w : wipeE (Fr S) [i] = (Fr S).set i .no := rfl
      have b1 : bindT (.n i) x (wipeE (Fr S) [i]) = some ((Fr S).set i (.val x)) := by
        rw [w]
        show setV _ i x = _
        unfold setV
        rw [List.getElem?_set_self (lt S)]
        simp only []
        rw [List.set_set]
      have b2 : lcBody (evTs []) elt ((Fr S).set i (.val x)) = .ok (some y) ((Fr S1).set i (.val x)) := by
        show ((elt ((Fr S).set i (.val x))).bind _) = _
        rw [e1]
        rfl
      have b3 : freeE ((Fr S1).set i (.val x)) [i] = true := by
        unfold freeE
        rw [List.all_cons, List.getElem?_set_self (lt S1)]
        rfl
      have b4 : backE (Fr S) ((Fr S1).set i (.val x)) [i] = Fr S1 := by
        show ((Fr S1).set i (.val x)).set i ((Fr S).getD i .no) = _
        have : (Fr S).getD i .no = .no := by rw [List.getD_eq_getElem?_getD, hi S]; rfl
        rw [this, List.set_set]
        refine List.ext_getElem? fun j => ?_
        by_cases hj : i = j
        · subst hj; rw [List.getElem?_set_self (lt S1), hi S1]
        · rw [List.getElem?_set_ne hj]
      rw [b1]
      simp only []
      rw [b2]
      simp only []
      rw [b3, b4, Bool.true_and, if_pos (decide_eq_true (show acc.length < lim by show _ < 1000000; omega))]
      have e3 : acc ++ (some y).toList = acc ++ [y] := rfl
      rw [e3, e2, List.append_assoc]
      rfl
    · cases j with
      | zero => cases ha; cases hb; exact p1
      | succ j => exact p2 j a b (by simpa using ha) (by simpa using hb)
section
variable {xd X : CallF} {S : List D}
abbrev rLong (xd X : CallF) (S : List D) (k : List Nat) : MR := runF 1000000 3 [true, false] false (v__law_long xd X) [.lst S, .str k]
theorem long_n (hd : DrawOk xd) (hS : Dr S) : ∃ i S', rLong xd X S [110, 117, 109, 98, 101, 114] = .ok (.int i) [S'] ∧ inR i = true ∧ Dr S' := by
  obtain ⟨m, hd⟩ := hd
  obtain ⟨v1, S1, e1, a1, b1, d1⟩ := hd S hS 3 (by decide) (by decide)
  by_cases h : v1 = 0
  · obtain ⟨v2, S2, e2, a2, b2, d2⟩ := hd S1 d1 2000001 (by decide) (by decide)
    refine ⟨v2 - 1000000, S2, ?_, inR_of (by omega) (by omega), d2⟩
    subst h
    simp [v__law_long, runF, startE, finO, outsOf, inoutSlots, slotsFrom, lim, List.replicate, m, e1, e2, d1.len, d2.len]
  · obtain ⟨v2, S2, e2, a2, b2, d2⟩ := hd S1 d1 12 (by decide) (by decide)
    refine ⟨v2 - 3, S2, ?_, inR_of (by omega) (by omega), d2⟩
    simp [v__law_long, runF, startE, finO, outsOf, inoutSlots, slotsFrom, lim, List.replicate, m, e1, e2, h, d1.len, d2.len]
theorem long_l (hd : DrawOk xd) (hS : Dr S) (mX : X.md = [true, false]) (hX : ∀ S, Dr S → ∃ i S', X.F [.lst S, .str [110, 117, 109, 98, 101, 114]] = .ok (.int i) [S'] ∧ inR i = true ∧ Dr S') : ∃ d S', rLong xd X S [108, 105, 115, 116] = .ok d [S'] ∧ isV 108 d = true ∧ Dr S' := by
  obtain ⟨m, hd⟩ := hd
  obtain ⟨v1, S1, e1, a1, b1, d1⟩ := hd S hS 8 (by decide) (by decide)
  obtain ⟨xs, x1, x2, x3⟩ := rng_ex a1
  obtain ⟨ys, S2, e2, d2, l2, p2⟩ := lc_draw (i := 2) (Fr := fun S => [.own S, .val (.str [108, 105, 115, 116]), .no]) (elt := evE (ve__law_long_1 X)) (P := fun _ y => ∃ i, y = .int i ∧ inR i = true) (fun _ => rfl) (xs.map .int) (fun x _ S hS => by
    obtain ⟨i, S', e, hi, d⟩ := hX S hS
    exact ⟨.int i, S', by simp [ve__law_long_1, runF, startE, finO, outsOf, inoutSlots, slotsFrom, lim, List.replicate, mX, e, d.len], ⟨i, rfl, hi⟩, d⟩) [] S1 d1 (by rw [List.length_map]; show 0 + _ ≤ _; omega)
  rw [List.nil_append] at e2
  have hys : ∃ a : List Int, ys = a.map .int ∧ ∀ i ∈ a, inR i = true := by
    have key : ∀ ys : List D, (∀ y ∈ ys, ∃ i, y = .int i ∧ inR i = true) → ∃ a : List Int, ys = a.map .int ∧ ∀ i ∈ a, inR i = true := by
      intro ys
      induction ys with
      | nil => exact fun _ => ⟨[], rfl, fun i hi => absurd hi (List.not_mem_nil)⟩
      | cons y ys ih =>
        intro h
        obtain ⟨a, rfl, ha⟩ := ih fun z hz => h z (List.mem_cons_of_mem _ hz)
        obtain ⟨i, rfl, hi⟩ := h y (List.mem_cons_self ..)
        exact ⟨i :: a, rfl, fun j hj => (List.mem_cons.mp hj).elim (fun e => e ▸ hi) (ha j)⟩
    refine key ys fun y hy => ?_
    obtain ⟨j, hj, e⟩ := List.mem_iff_getElem.mp hy
    have hj2 : j < (xs.map D.int).length := by rw [← l2]; exact hj
    exact p2 j _ y (List.getElem?_eq_getElem hj2) (by rw [List.getElem?_eq_getElem hj, e])
  obtain ⟨a, rfl, ha⟩ := hys
  rw [List.length_map, List.length_map] at l2
  have hr : rngOk v1 = true := rngOk_of a1 (by omega)
  refine ⟨tI a, S2, ?_, ?_, d2⟩
  · simp [v__law_long, runF, startE, finO, outsOf, inoutSlots, slotsFrom, lim, List.replicate, m, e1, hr, x1, e2, d1.len, d2.len, -q_lc_cons, -q_lc_nil]
  · rw [isV_l, List.all_eq_true.mpr ha, Bool.and_true]
    exact decide_eq_true (by omega)
theorem num_text {i : Int} (h0 : 0 ≤ i) (h1 : i < 10000000) : Mini.bi .str [.int i] = some (.str (intS i)) ∧ isV 115 (.str (intS i)) = true := by
  refine ⟨?_, ?_⟩
  · show (if i.natAbs < 10 ^ 100 then _ else _) = _
    rw [if_pos]
    exact Nat.lt_of_lt_of_le (show i.natAbs < 10000000 by omega) (by decide)
  · show (decide ((intS i).length ≤ 30) && (intS i).all fun c => decide (c ∈ abc)) = true
    have e2 : intS i = TL.numL i.natAbs := if_neg (by omega)
    have := TL.numL_len (n := i.natAbs) (k := 7) (by decide) (by omega)
    rw [List.all_eq_true.mpr fun c hc => decide_eq_true (intS_abc (by omega) c hc), Bool.and_true]
    refine decide_eq_true ?_
    rw [e2]
    omega
theorem sgn_at {v : Int} (h0 : 0 ≤ v) (h1 : v < 7) : ∃ c, atI [97, 98, 32, 48, 49, 57, 122] v = some c ∧ c ∈ abc := by
  obtain ⟨c, hc, e⟩ := at_ex (xs := ([97, 98, 32, 48, 49, 57, 122] : List Nat)) h0 (by simpa using h1)
  exact ⟨c, e, (show ∀ c ∈ ([97, 98, 32, 48, 49, 57, 122] : List Nat), c ∈ abc by decide) c hc⟩
theorem long_s (hd : DrawOk xd) (hS : Dr S) : ∃ d S', rLong xd X S [116, 101, 120, 116] = .ok d [S'] ∧ isV 115 d = true ∧ Dr S' := by
  obtain ⟨m, hd⟩ := hd
  obtain ⟨v1, S1, e1, a1, b1, d1⟩ := hd S hS 3 (by decide) (by decide)
  by_cases h : v1 = 0
  · obtain ⟨v2, S2, e2, a2, b2, d2⟩ := hd S1 d1 1200000 (by decide) (by decide)
    obtain ⟨n1, n2⟩ := num_text a2 (by omega)
    refine ⟨.str (intS v2), S2, ?_, n2, d2⟩
    subst h
    simp [v__law_long, runF, startE, finO, outsOf, inoutSlots, slotsFrom, lim, List.replicate, m, e1, e2, n1, d1.len, d2.len]
  · obtain ⟨v2, S2, e2, a2, b2, d2⟩ := hd S1 d1 16 (by decide) (by decide)
    obtain ⟨xs, x1, x2, x3⟩ := rng_ex a2
    obtain ⟨ys, S3, e3, d3, l3, p3⟩ := lc_draw (i := 2) (Fr := fun S => [.own S, .val (.str [116, 101, 120, 116]), .no]) (elt := evE (ve__law_long_2 xd)) (P := fun _ y => ∃ c, y = .str [c] ∧ c ∈ abc) (fun _ => rfl) (xs.map .int) (fun x _ S hS => by
      obtain ⟨v, S', e, a, b, d⟩ := hd S hS 7 (by decide) (by decide)
      obtain ⟨c, ec, hc⟩ := sgn_at a b
      exact ⟨.str [c], S', by simp [ve__law_long_2, runF, startE, finO, outsOf, inoutSlots, slotsFrom, lim, List.replicate, m, e, ec, d.len], ⟨c, rfl, hc⟩, d⟩) [] S2 d2 (by rw [List.length_map]; show 0 + _ ≤ _; omega)
    rw [List.nil_append] at e3
    have hys : ∃ a : List Nat, ys = a.map (fun c => .str [c]) ∧ ∀ c ∈ a, c ∈ abc := by
      have key : ∀ ys : List D, (∀ y ∈ ys, ∃ c, y = .str [c] ∧ c ∈ abc) → ∃ a : List Nat, ys = a.map (fun c => .str [c]) ∧ ∀ c ∈ a, c ∈ abc := by
        intro ys
        induction ys with
        | nil => exact fun _ => ⟨[], rfl, fun i hi => absurd hi (List.not_mem_nil)⟩
        | cons y ys ih =>
          intro h
          obtain ⟨a, rfl, ha⟩ := ih fun z hz => h z (List.mem_cons_of_mem _ hz)
          obtain ⟨i, rfl, hi⟩ := h y (List.mem_cons_self ..)
          exact ⟨i :: a, rfl, fun j hj => (List.mem_cons.mp hj).elim (fun e => e ▸ hi) (ha j)⟩
      refine key ys fun y hy => ?_
      obtain ⟨j, hj, e⟩ := List.mem_iff_getElem.mp hy
      have hj2 : j < (xs.map D.int).length := by rw [← l3]; exact hj
      exact p3 j _ y (List.getElem?_eq_getElem hj2) (by rw [List.getElem?_eq_getElem hj, e])
    obtain ⟨a, rfl, ha⟩ := hys
    rw [List.length_map, List.length_map] at l3
    have hr : rngOk v2 = true := rngOk_of a2 (by omega)
    have ej : me .join (.str []) [.lst (a.map fun c => D.str [c])] = some (.str (a.map id)) := join_signs (xs := a) (f := id) (by omega)
    rw [List.map_id] at ej
    refine ⟨.str a, S3, ?_, ?_, d3⟩
    · simp [v__law_long, runF, startE, finO, outsOf, inoutSlots, slotsFrom, lim, List.replicate, m, e1, e2, h, hr, x1, e3, ej, d1.len, d2.len, d3.len, -q_lc_cons, -q_lc_nil]
    · show (decide (a.length ≤ 30) && a.all fun c => decide (c ∈ abc)) = true
      rw [List.all_eq_true.mpr fun c hc => decide_eq_true (ha c hc), Bool.and_true]
      exact decide_eq_true (by omega)
end
theorem F_long {l : Nat} (hl : l = 110 ∨ l = 115 ∨ l = 108) {S : List D} (hS : Dr S) : ∃ d S', (f__law_long 45).F [.lst S, .str (kL_ l)] = .ok d [S'] ∧ isV l d = true ∧ Dr S' := by
  rcases hl with rfl | rfl | rfl
  · obtain ⟨i, S', e, h1, h2⟩ := long_n (X := f__law_long 44) draw_dr hS
    exact ⟨.int i, S', e, h1, h2⟩
  · exact long_s (X := f__law_long 44) draw_dr hS
  · exact long_l (X := f__law_long 44) draw_dr hS rfl fun S hS => long_n (X := f__law_long 43) draw_dr hS
end K55
end

section
set_option Elab.async false
set_option linter.all false
set_option maxRecDepth 100000
set_option maxHeartbeats 1000000
namespace K55
open PySem L2 Mini
/-! ### _law_changed -/
section
variable {xd : CallF} {S S' : List D} {X A B C M W W2 : D} {n v : Int}
abbrev rCh (xd : CallF) (S : List D) (X : D) : MR := runF 1000000 4 [true, false] false (v__law_changed xd) [.lst S, X]
theorem ch_int {i : Int} (h : isTy .int (.int i) = true) : rCh xd S (.int i) = .ok (.int (if i > 0 then i - 1 else i + 1)) [S] := by
  by_cases h0 : i > 0 <;> simp [v__law_changed, runF, startE, finO, outsOf, inoutSlots, slotsFrom, lim, List.replicate, h, h0]
theorem ch_empty {b : Bool} (h : isTy .int X = false) (hl : Mini.bi .len [X] = some (.int 0)) (hs : isTy .str X = b) : rCh xd S X = .ok (if b = true then .str [97] else .tup [.int 0]) [S] := by
  cases b <;> simp [v__law_changed, runF, startE, finO, outsOf, inoutSlots, slotsFrom, lim, List.replicate, h, hl, hs]
theorem ch_str (m : xd.md = [true, false]) (h : isTy .int X = false) (hl : Mini.bi .len [X] = some (.int n)) (hn : n ≠ 0) (hs : isTy .str X = true) (e : xd.F [.lst S, .int n] = .ok (.int v) [S']) (hz : S'.length ≤ 1000000)
    (h1 : cutD X none (some v) = some A) (h2 : bop .add A (.str [113]) = some W) (h3 : cutD X (some (v + 1)) none = some B) (h4 : bop .add W B = some W2) : rCh xd S X = .ok W2 [S'] := by
  simp [v__law_changed, runF, startE, finO, outsOf, inoutSlots, slotsFrom, lim, List.replicate, m, h, hl, hn, hs, e, hz, h1, h2, h3, h4]
theorem ch_tup {y : Int} (m : xd.md = [true, false]) (h : isTy .int X = false) (hl : Mini.bi .len [X] = some (.int n)) (hn : n ≠ 0) (hs : isTy .str X = false) (e : xd.F [.lst S, .int n] = .ok (.int v) [S']) (hz : S'.length ≤ 1000000)
    (ha : atD X v = some (.int y)) (h1 : cutD X none (some v) = some A) (h2 : bop .add A (.tup [.int (y.fdiv 2 + 1)]) = some W) (h3 : cutD X (some (v + 1)) none = some B) (h4 : bop .add W B = some W2) : rCh xd S X = .ok W2 [S'] := by
  simp [v__law_changed, runF, startE, finO, outsOf, inoutSlots, slotsFrom, lim, List.replicate, m, h, hl, hn, hs, e, hz, ha, h1, h2, h3, h4]
end
theorem add_st {a b : List Nat} (h : a.length + b.length ≤ 1000000) : bop .add (.str a) (.str b) = some (.str (a ++ b)) := by
  show (if a.length + b.length ≤ lim then _ else _) = _
  rw [if_pos (show a.length + b.length ≤ lim from h)]
theorem F_changed {l : Nat} (hl : l = 110 ∨ l = 115 ∨ l = 108) {d : D} (h : isV l d = true) {S : List D} (hS : Dr S) : ∃ d' S', f__law_changed.F [.lst S, d] = .ok d' [S'] ∧ isV l d' = true ∧ Dr S' := by
  obtain ⟨m, hd⟩ := draw_dr
  rcases hl with rfl | rfl | rfl
  · obtain ⟨i, rfl, hi⟩ := isN h
    have := inR_iff.mp hi
    refine ⟨_, S, ch_int (xd := f__law_draw) rfl, ?_, hS⟩
    show inR _ = true
    split
    · exact inR_of (by omega) (by omega)
    · exact inR_of (by omega) (by omega)
  · obtain ⟨x, rfl, hx, hc⟩ := isS h
    cases x with
    | nil => exact ⟨_, S, ch_empty (xd := f__law_draw) (X := .str []) rfl rfl rfl, rfl, hS⟩
    | cons c0 cs =>
      obtain ⟨v, S', e, v0, v1, d⟩ := hd S hS (((c0 :: cs).length : Nat) : Int) (by rw [List.length_cons]; omega) (by omega)
      obtain ⟨j, rfl⟩ : ∃ j : Nat, v = (j : Int) := ⟨v.toNat, by omega⟩
      have hj : j < (c0 :: cs).length := by omega
      have ej : ((j : Int) + 1) = ((j + 1 : Nat) : Int) := by omega
      refine ⟨.str (((c0 :: cs).take j ++ [113]) ++ (c0 :: cs).drop (j + 1)), S', ch_str (xd := f__law_draw) (n := (((c0 :: cs).length : Nat) : Int)) rfl rfl rfl (by rw [List.length_cons]; omega) rfl e d.len (cut_hs rfl) (add_st ?_) (by rw [ej]; exact cut_ls) (add_st ?_), ?_, d⟩
      · rw [List.length_take, List.length_singleton]; omega
      · rw [List.length_append, List.length_take, List.length_drop, List.length_singleton]; omega
      · show (decide (_ ≤ 30) && _) = true
        rw [Bool.and_eq_true, List.all_eq_true]
        refine ⟨decide_eq_true ?_, fun c hm => decide_eq_true ?_⟩
        · rw [List.length_append, List.length_append, List.length_take, List.length_drop, List.length_singleton]; omega
        · rcases List.mem_append.mp hm with hm | hm
          · rcases List.mem_append.mp hm with hm | hm
            · exact hc c (List.mem_of_mem_take hm)
            · rw [List.mem_singleton.mp hm]; decide
          · exact hc c (List.mem_of_mem_drop hm)
  · obtain ⟨x, rfl, hx, hc⟩ := isL h
    cases x with
    | nil => exact ⟨_, S, ch_empty (xd := f__law_draw) (X := tI []) rfl rfl rfl, by rfl, hS⟩
    | cons c0 cs =>
      obtain ⟨v, S', e, v0, v1, d⟩ := hd S hS (((c0 :: cs).length : Nat) : Int) (by rw [List.length_cons]; omega) (by omega)
      obtain ⟨j, rfl⟩ : ∃ j : Nat, v = (j : Int) := ⟨v.toNat, by omega⟩
      have hj : j < (c0 :: cs).length := by omega
      have ej : ((j : Int) + 1) = ((j + 1 : Nat) : Int) := by omega
      obtain ⟨y, hy⟩ : ∃ y, (c0 :: cs)[j]? = some y := ⟨_, List.getElem?_eq_getElem hj⟩
      have hym := inR_iff.mp (hc y (List.mem_of_getElem? hy))
      have hat : atD (tI (c0 :: cs)) (j : Int) = some (.int y) := by
        show atI ((c0 :: cs).map D.int) (j : Int) = _
        exact at_nat (by rw [List.getElem?_map, hy]; rfl)
      have hf := Int.mul_fdiv_add_fmod y 2
      have hf2 := fm y (many := 2) (by omega)
      refine ⟨tI (((c0 :: cs).take j ++ [y.fdiv 2 + 1]) ++ (c0 :: cs).drop (j + 1)), S', ch_tup (xd := f__law_draw) (n := (((c0 :: cs).length : Nat) : Int)) rfl rfl lenI (by rw [List.length_cons]; omega) rfl e d.len hat (cut_hI rfl) (add_tI (b := [y.fdiv 2 + 1]) ?_) (by rw [ej]; exact cut_loI) (add_tI ?_), ?_, d⟩
      · rw [List.length_take, List.length_singleton]; omega
      · rw [List.length_append, List.length_take, List.length_drop, List.length_singleton]; omega
      · rw [isV_l, Bool.and_eq_true, List.all_eq_true]
        refine ⟨decide_eq_true ?_, fun c hm => ?_⟩
        · rw [List.length_append, List.length_append, List.length_take, List.length_drop, List.length_singleton]; omega
        · rcases List.mem_append.mp hm with hm | hm
          · rcases List.mem_append.mp hm with hm | hm
            · exact hc c (List.mem_of_mem_take hm)
            · rw [List.mem_singleton.mp hm]
              exact inR_of (by omega) (by omega)
          · exact hc c (List.mem_of_mem_drop hm)
end K55
end

section
set_option Elab.async false
set_option linter.all false
set_option maxRecDepth 100000
set_option maxHeartbeats 1000000
namespace K55
open PySem L2 Mini
/-! ### _law_told -/
def Fine_ : Out → Prop := fun o => ∃ S ρ, o = .ret (.d (.bl true)) (.own S :: ρ) ∧ Dr S
theorem ap_hit {r : List Nat × List Nat × Nat} (hr : r ∈ rowK) {ds : List D} {R : D} (hR : isV r.2.2 R = true) (h : deq (ap r ds) R = true) : R = mean r.1 ds := by
  have sR := sh_of (rowK_lk r hr).2 hR
  unfold ap fin at h
  split at h
  · rename_i hi
    exact (deq_sh (sh_of (rowK_lk r hr).2 hi) sR h).symm
  · cases R <;> first | exact sR.elim | cases h
section
variable {xd xl xa xc xs xi xm : CallF} {r : List Nat × List Nat × Nat} {k : Nat} {os ds : List D} {lk : Nat} {R x K : D} {T : List D} {way : Int}
def tC (xs xi xm : CallF) : List S := [.set 8 (.call xs [.v 1, .v 3, .bi .list [.v 5], .v 6]),
  .ite (.or [.not (.isi [.lst] (.v 8)), .cmp .gt (.bi .len [.v 8]) (.c (.int 1))])
    [.ret (.c (.bl false))]
    [],
  .for (.n 9) (.it (.v 8)) (vl__law_told_2 xi),
  .set 10 (.call xi [.v 1, .v 3, .v 5, .v 6, .ix (.v 4) (.v 3)]),
  .ret (.or [.not (.v 10), .and [.cmp .eq (.bi .len [.v 8]) (.c (.int 1)), .call xm [.ix (.v 8) (.c (.int 0)), .ix (.v 4) (.v 3)]]])]
theorem told_c (hr : r ∈ rowK) (hp : Pos r k os lk) (hx : isV lk x = true) (hat : atI ds (k : Int) = some x) (hR : isV r.2.2 R = true)
    (ms : xs.md = [false, false, false, false]) (Hs : ∃ g, (∀ x, AllV r.2.1 (insD os k x) → isV r.2.2 R = true → R = mean r.1 (insD os k x) → g = x) ∧ xs.F [.str r.1, .int k, .lst os, R] = .ok (.lst (if isV lk g = true ∧ deq (ap r (insD os k g)) R = true then [g] else [])) [])
    (mi : xi.md = [false, false, false, false, false]) (Hi : ∀ v, isV lk v = true → xi.F [.str r.1, .int k, .lst os, R, v] = .ok (.bl (deq (ap r (insD os k v)) R)) [])
    (mm : xm.md = [false, false]) (Hm : xm.F [x, x] = .ok (.bl true) []) (hS : Dr T) :
    Wp 1000000 (tC xs xi xm) [.own T, .val (.str r.1), .val K, .val (.int k), .val (.lst ds), .val (.lst os), .val R, .val (.int way), .no, .no, .no, .no] Fine_ := by
  obtain ⟨g, hit, hs⟩ := Hs
  have hq := Hi x hx
  generalize hkk : (k : Int) = kk at hat hs hq Hi ⊢
  by_cases hc : isV lk g = true ∧ deq (ap r (insD os k g)) R = true
  · rw [if_pos hc] at hs
    have hig := Hi g hc.1
    rw [hc.2] at hig
    have t1 : isTy .lst (.lst [g]) = true := rfl
    unfold tC
    refine wp_hide fun ss_ Q_ hs_ hq_ => ?_
    simp [runF, startE, finO, outsOf, inoutSlots, slotsFrom, lim, List.replicate, ms, hs]
    subst hs_ hq_
    refine wp_hide fun ss_ Q_ hs_ hq_ => ?_
    simp [runF, startE, finO, outsOf, inoutSlots, slotsFrom, lim, List.replicate, t1]
    subst hs_ hq_
    refine wp_hide fun ss_ Q_ hs_ hq_ => ?_
    simp [runF, startE, finO, outsOf, inoutSlots, slotsFrom, lim, List.replicate, vl__law_told_2, mi, hig, forGo]
    subst hs_ hq_
    cases hb : deq (ap r (insD os k x)) R with
    | false =>
      rw [hb] at hq
      refine wp_hide fun ss_ Q_ hs_ hq_ => ?_
      simp [runF, startE, finO, outsOf, inoutSlots, slotsFrom, lim, List.replicate, mi, hq, hat]
      subst hs_ hq_
      rw [wp_cons]
      simp [runF, startE, finO, outsOf, inoutSlots, slotsFrom, lim, List.replicate]
      exact ⟨T, _, rfl, hS⟩
    | true =>
      rw [hb] at hq
      have e := hit x (hp.all hx) hR (ap_hit hr hR hb)
      subst e
      refine wp_hide fun ss_ Q_ hs_ hq_ => ?_
      simp [runF, startE, finO, outsOf, inoutSlots, slotsFrom, lim, List.replicate, mi, hq, hat]
      subst hs_ hq_
      rw [wp_cons]
      simp [runF, startE, finO, outsOf, inoutSlots, slotsFrom, lim, List.replicate, mm, Hm, hat]
      exact ⟨T, _, rfl, hS⟩
  · rw [if_neg hc] at hs
    have hb : deq (ap r (insD os k x)) R = false := by
      cases hb : deq (ap r (insD os k x)) R with
      | false => rfl
      | true =>
        have e := hit x (hp.all hx) hR (ap_hit hr hR hb)
        subst e
        exact absurd ⟨hx, hb⟩ hc
    rw [hb] at hq
    have t1 : isTy .lst (.lst []) = true := rfl
    unfold tC
    refine wp_hide fun ss_ Q_ hs_ hq_ => ?_
    simp [runF, startE, finO, outsOf, inoutSlots, slotsFrom, lim, List.replicate, ms, hs]
    subst hs_ hq_
    refine wp_hide fun ss_ Q_ hs_ hq_ => ?_
    simp [runF, startE, finO, outsOf, inoutSlots, slotsFrom, lim, List.replicate, t1]
    subst hs_ hq_
    refine wp_hide fun ss_ Q_ hs_ hq_ => ?_
    simp [runF, startE, finO, outsOf, inoutSlots, slotsFrom, lim, List.replicate, vl__law_told_2, mi, forGo]
    subst hs_ hq_
    refine wp_hide fun ss_ Q_ hs_ hq_ => ?_
    simp [runF, startE, finO, outsOf, inoutSlots, slotsFrom, lim, List.replicate, mi, hq, hat]
    subst hs_ hq_
    rw [wp_cons]
    simp [runF, startE, finO, outsOf, inoutSlots, slotsFrom, lim, List.replicate]
    exact ⟨T, _, rfl, hS⟩
end
end K55
end

section
set_option Elab.async false
set_option linter.all false
set_option maxRecDepth 100000
set_option maxHeartbeats 1000000
namespace K55
open PySem L2 Mini
structure Cal (xd xl xa xc xs xi xm : CallF) (r : List Nat × List Nat × Nat) : Prop where
  d : DrawOk xd
  ml : xl.md = [true, false]
  l : ∀ l, (l = 110 ∨ l = 115 ∨ l = 108) → ∀ S, Dr S → ∃ d S', xl.F [.lst S, .str (kL_ l)] = .ok d [S'] ∧ isV l d = true ∧ Dr S'
  ma : xa.md = [false, false]
  a : ∀ ds, AllV r.2.1 ds → xa.F [.str r.1, .lst ds] = .ok (ap r ds) []
  mc : xc.md = [true, false]
  c : ∀ d, isV r.2.2 d = true → ∀ S, Dr S → ∃ d' S', xc.F [.lst S, d] = .ok d' [S'] ∧ isV r.2.2 d' = true ∧ Dr S'
  ms : xs.md = [false, false, false, false]
  s : ∀ {k : Nat} {os : List D} {lk : Nat} {R : D}, Pos r k os lk → isV r.2.2 R = true → ∃ g, (∀ x, AllV r.2.1 (insD os k x) → isV r.2.2 R = true → R = mean r.1 (insD os k x) → g = x) ∧ xs.F [.str r.1, .int k, .lst os, R] = .ok (.lst (if isV lk g = true ∧ deq (ap r (insD os k g)) R = true then [g] else [])) []
  mi : xi.md = [false, false, false, false, false]
  i : ∀ {k : Nat} {os : List D} {lk : Nat} {R : D}, Pos r k os lk → isV r.2.2 R = true → ∀ v, isV lk v = true → xi.F [.str r.1, .int k, .lst os, R, v] = .ok (.bl (deq (ap r (insD os k v)) R)) []
  mm : xm.md = [false, false]
  m : ∀ l, (l = 110 ∨ l = 115 ∨ l = 108) → ∀ d, isV l d = true → xm.F [d, d] = .ok (.bl true) []
section
variable {xd xl xa xc xs xi xm : CallF} {r : List Nat × List Nat × Nat} {k : Nat} {os ds : List D} {lk : Nat} {x K : D} {T : List D}
def tB (xd xl xa xc xs xi xm : CallF) : List S := .set 6 (.call xa [.v 1, .v 4]) :: .set 7 (.call xd [.v 0, .c (.int 3)]) :: .ite (.or [.cmp .is (.v 6) (.c (.non)), .cmp .eq (.v 7) (.c (.int 1))])
    [.set 6 (.call xl [.v 0, .ix (.v 2) (.neg (.c (.int 1)))])]
    [.ite (.cmp .eq (.v 7) (.c (.int 2)))
        [.set 6 (.call xc [.v 0, .v 6])]
        []] :: tC xs xi xm
theorem told_b (hr : r ∈ rowK) (C : Cal xd xl xa xc xs xi xm r) (hp : Pos r k os lk) (hv : AllV r.2.1 ds) (hx : isV lk x = true) (hat : atI ds (k : Int) = some x) (hK : atD K (-1) = some (.str (kL_ r.2.2))) (hT : Dr T) :
    Wp 1000000 (tB xd xl xa xc xs xi xm) [.own T, .val (.str r.1), .val K, .val (.int k), .val (.lst ds), .val (.lst os), .no, .no, .no, .no, .no, .no] Fine_ := by
  have hl3 := (rowK_lk r hr).2
  have ha := C.a ds hv
  obtain ⟨md, hd⟩ := C.d
  obtain ⟨w, T1, e1, a1, b1, d1⟩ := hd T hT 3 (by decide) (by decide)
  have fin : ∀ (R : D) (T : List D) (w : Int), isV r.2.2 R = true → Dr T → Wp 1000000 (tC xs xi xm) [.own T, .val (.str r.1), .val K, .val (.int k), .val (.lst ds), .val (.lst os), .val R, .val (.int w), .no, .no, .no, .no] Fine_ := fun R T w hR hT =>
    told_c hr hp hx hat hR C.ms (C.s hp hR) C.mi (C.i hp hR) C.mm (C.m lk (hp.three hr) x hx) hT
  generalize hkk : (k : Int) = kk at fin ⊢
  unfold tB
  have hW := ap_sh hr ds
  generalize ap r ds = W at ha hW
  refine wp_hide fun ss_ Q_ hs_ hq_ => ?_
  simp [runF, startE, finO, outsOf, inoutSlots, slotsFrom, lim, List.replicate, C.ma, ha]
  subst hs_ hq_
  refine wp_hide fun ss_ Q_ hs_ hq_ => ?_
  simp [runF, startE, finO, outsOf, inoutSlots, slotsFrom, lim, List.replicate, md, e1, d1.len]
  subst hs_ hq_
  have long : ∀ ρ0 : En, ρ0 = [.own T1, .val (.str r.1), .val K, .val (.int kk), .val (.lst ds), .val (.lst os), .val W, .val (.int w), .no, .no, .no, .no] → Wp 1000000 (.set 6 (.call xl [.v 0, .ix (.v 2) (.neg (.c (.int 1)))]) :: tC xs xi xm) ρ0 Fine_ := by
    rintro ρ0 rfl
    obtain ⟨R, T2, e2, hR, d2⟩ := C.l r.2.2 hl3 T1 d1
    refine wp_hide fun ss_ Q_ hs_ hq_ => ?_
    simp [runF, startE, finO, outsOf, inoutSlots, slotsFrom, lim, List.replicate, C.ml, e2, hK, d2.len]
    subst hs_ hq_
    exact fin R T2 w hR d2
  rcases hW with rfl | hW
  · refine wp_ite (ρ' := _) (b := true) (by simp [runF, startE, finO, outsOf, inoutSlots, slotsFrom, lim, List.replicate]; rfl) (fun _ => ?_) (fun h => by cases h)
    exact long _ rfl
  · have hn := (sh_non (sh_of hl3 hW)).1
    refine wp_ite (ρ' := _) (b := decide (w = 1)) (by simp [runF, startE, finO, outsOf, inoutSlots, slotsFrom, lim, List.replicate, hn, -q_cop_is_n]; rfl) (fun _ => ?_) (fun h1 => ?_)
    · exact long _ rfl
    · rw [List.cons_append, List.nil_append]
      refine wp_ite (ρ' := _) (b := decide (w = 2)) (by simp [runF, startE, finO, outsOf, inoutSlots, slotsFrom, lim, List.replicate]; rfl) (fun _ => ?_) (fun h2 => ?_)
      · rw [List.cons_append, List.nil_append]
        obtain ⟨R, T2, e2, hR, d2⟩ := C.c W hW T1 d1
        refine wp_hide fun ss_ Q_ hs_ hq_ => ?_
        simp [runF, startE, finO, outsOf, inoutSlots, slotsFrom, lim, List.replicate, C.mc, e2, d2.len]
        subst hs_ hq_
        exact fin R T2 w hR d2
      · rw [List.nil_append]
        exact fin W T1 w hW d1
end
end K55
end

section
set_option Elab.async false
set_option linter.all false
set_option maxRecDepth 100000
set_option maxHeartbeats 1000000
namespace K55
open PySem L2 Mini
section
variable {xk xd xl xa xc xs xi xm : CallF} {s : List Nat} {l l' lr : Nat} {K : D} {T : List D}
theorem told_1 (hr : (s, [l], lr) ∈ rowK) (C : Cal xd xl xa xc xs xi xm (s, [l], lr)) (hs : s ≠ [97, 100, 100, 95, 101, 97, 99, 104]) (hl : l = 110 ∨ l = 115 ∨ l = 108) (mk : xk.md = [false]) (hk : xk.F [.str s] = .ok K []) (hlen : Mini.bi .len [K] = some (.int 2)) (hcut : cutD K none (some (-1)) = some (.tup [.str (kL_ l)]))
    (hK : atD K (-1) = some (.str (kL_ lr))) (hT : Dr T) : Wp 1000000 (v__law_told xk xd xl xa xc xs xi xm) [.own T, .val (.str s), .no, .no, .no, .no, .no, .no, .no, .no, .no, .no] Fine_ := by
  obtain ⟨md, hd⟩ := C.d
  obtain ⟨v, T1, e1, a1, b1, d1⟩ := hd T hT 1 (by decide) (by decide)
  obtain rfl : v = 0 := by omega
  obtain ⟨a, T2, e2, ha, d2⟩ := C.l l hl T1 d1
  have ml := C.ml
  have fin := told_b (k := 0) (x := a) (ds := [a]) (K := K) hr C Pos.one ⟨ha, trivial⟩ ha rfl hK d2
  have c1 : cutL [a] none (some 0) = [] := rfl
  have c2 : cutL [a] (some 1) none = [] := rfl
  unfold v__law_told
  refine wp_hide fun ss_ Q_ hs_ hq_ => ?_
  simp [runF, startE, finO, outsOf, inoutSlots, slotsFrom, lim, List.replicate, mk, hk]
  subst hs_ hq_
  refine wp_hide fun ss_ Q_ hs_ hq_ => ?_
  simp [runF, startE, finO, outsOf, inoutSlots, slotsFrom, lim, List.replicate, hs, md, hlen, e1, d1.len]
  subst hs_ hq_
  refine wp_hide fun ss_ Q_ hs_ hq_ => ?_
  simp [runF, startE, finO, outsOf, inoutSlots, slotsFrom, lim, List.replicate, hcut, ve__law_told_1, ml, e2, d2.len]
  subst hs_ hq_
  refine wp_hide fun ss_ Q_ hs_ hq_ => ?_
  simp [runF, startE, finO, outsOf, inoutSlots, slotsFrom, lim, List.replicate, c1, c2]
  subst hs_ hq_
  exact fin
theorem told_2 (hr : (s, [l, l'], lr) ∈ rowK) (C : Cal xd xl xa xc xs xi xm (s, [l, l'], lr)) (hl : l = 110 ∨ l = 115 ∨ l = 108) (hl' : l' = 110 ∨ l' = 115 ∨ l' = 108) (mk : xk.md = [false]) (hk : xk.F [.str s] = .ok K []) (hlen : Mini.bi .len [K] = some (.int 3)) (hcut : cutD K none (some (-1)) = some (.tup [.str (kL_ l), .str (kL_ l')]))
    (hK : atD K (-1) = some (.str (kL_ lr))) (hT : Dr T) : Wp 1000000 (v__law_told xk xd xl xa xc xs xi xm) [.own T, .val (.str s), .no, .no, .no, .no, .no, .no, .no, .no, .no, .no] Fine_ := by
  obtain ⟨md, hd⟩ := C.d
  have ml := C.ml
  unfold v__law_told
  refine wp_hide fun ss_ Q_ hs_ hq_ => ?_
  simp [runF, startE, finO, outsOf, inoutSlots, slotsFrom, lim, List.replicate, mk, hk]
  subst hs_ hq_
  have rest : ∀ (v : Int) (T1 : List D), 0 ≤ v → v < 2 → (v = 1 → s ≠ [97, 100, 100, 95, 101, 97, 99, 104]) → Dr T1 → ∀ ss, ss = (v__law_told xk xd xl xa xc xs xi xm).drop 2 → Wp 1000000 ss [.own T1, .val (.str s), .val K, .val (.int v), .no, .no, .no, .no, .no, .no, .no, .no] Fine_ := by
    intro v T1 v0 v1 vs d1 ss hss
    obtain ⟨a, T2, e2, ha, d2⟩ := C.l l hl T1 d1
    obtain ⟨b, T3, e3, hb, d3⟩ := C.l l' hl' T2 d2
    subst hss
    unfold v__law_told
    simp only [List.drop]
    refine wp_hide fun ss_ Q_ hs_ hq_ => ?_
    simp [runF, startE, finO, outsOf, inoutSlots, slotsFrom, lim, List.replicate, hcut, ve__law_told_1, ml, e2, e3, d2.len, d3.len]
    subst hs_ hq_
    by_cases h : v = 0
    · subst h
      have fin := told_b (k := 0) (x := a) (ds := [a, b]) (K := K) hr C (Pos.fst hb) ⟨ha, hb, trivial⟩ ha rfl hK d3
      have c1 : cutL [a, b] none (some 0) = [] := rfl
      have c2 : cutL [a, b] (some 1) none = [b] := rfl
      refine wp_hide fun ss_ Q_ hs_ hq_ => ?_
      simp [runF, startE, finO, outsOf, inoutSlots, slotsFrom, lim, List.replicate, c1, c2]
      subst hs_ hq_
      exact fin
    · obtain rfl : v = 1 := by omega
      have fin := told_b (k := 1) (x := b) (ds := [a, b]) (K := K) hr C (Pos.snd ha (vs rfl)) ⟨ha, hb, trivial⟩ hb rfl hK d3
      have c1 : cutL [a, b] none (some 1) = [a] := rfl
      have c2 : cutL [a, b] (some 2) none = [] := rfl
      refine wp_hide fun ss_ Q_ hs_ hq_ => ?_
      simp [runF, startE, finO, outsOf, inoutSlots, slotsFrom, lim, List.replicate, c1, c2]
      subst hs_ hq_
      exact fin
  by_cases hs : s = [97, 100, 100, 95, 101, 97, 99, 104]
  · refine wp_hide fun ss_ Q_ hs_ hq_ => ?_
    simp [runF, startE, finO, outsOf, inoutSlots, slotsFrom, lim, List.replicate, hs]
    subst hs_ hq_
    exact hs ▸ rest 0 T (by omega) (by omega) (fun z => by omega) hT _ rfl
  · obtain ⟨v, T1, e1, a1, b1, d1⟩ := hd T hT 2 (by decide) (by decide)
    refine wp_hide fun ss_ Q_ hs_ hq_ => ?_
    simp [runF, startE, finO, outsOf, inoutSlots, slotsFrom, lim, List.replicate, hs, md, hlen, e1, d1.len]
    subst hs_ hq_
    exact rest v T1 a1 b1 (fun _ => hs) d1 _ rfl
end
theorem cal (r : List Nat × List Nat × Nat) (hr : r ∈ rowK) : Cal f__law_draw (f__law_long 45) f__law_applied f__law_changed f_solutions f__law_is_solution f__law_same r where
  d := draw_dr
  ml := rfl
  l := fun l hl S hS => F_long hl hS
  ma := rfl
  a := fun ds hv => F_lap hr hv
  mc := rfl
  c := fun d hd S hS => F_changed (rowK_lk r hr).2 hd hS
  ms := rfl
  s := fun hp hR => by
    obtain ⟨g, hg⟩ := guess_all hr hp hR
    exact ⟨g, hg.hit, F_sol hr hp hR hg⟩
  mi := rfl
  i := fun hp hR v hv => F_iss hr hp hR hv
  mm := rfl
  m := fun l hl d hd => by
    have := F_same (sh_of hl hd) (sh_of hl hd)
    rw [deq_refl] at this
    exact this
theorem F_told {r : List Nat × List Nat × Nat} (hr : r ∈ rowK) {T : List D} (hT : Dr T) : ∃ T', f__law_told.F [.lst T, .str r.1] = .ok (.bl true) [T'] ∧ Dr T' := by
  have key : Wp 1000000 (v__law_told f__law_kinds f__law_draw (f__law_long 45) f__law_applied f__law_changed f_solutions f__law_is_solution f__law_same) [.own T, .val (.str r.1), .no, .no, .no, .no, .no, .no, .no, .no, .no, .no] Fine_ := by
    have C := cal r hr
    have hk := F_kinds hr
    simp only [rowK, List.mem_cons, List.not_mem_nil, or_false] at hr
    rcases hr with rfl | rfl | rfl | rfl | rfl | rfl | rfl | rfl | rfl | rfl
    · exact told_2 (by decide) C (by decide) (by decide) rfl hk rfl rfl rfl hT
    · exact told_2 (by decide) C (by decide) (by decide) rfl hk rfl rfl rfl hT
    · exact told_2 (by decide) C (by decide) (by decide) rfl hk rfl rfl rfl hT
    · exact told_2 (by decide) C (by decide) (by decide) rfl hk rfl rfl rfl hT
    · exact told_1 (by decide) C (by decide) (by decide) rfl hk rfl rfl rfl hT
    · exact told_1 (by decide) C (by decide) (by decide) rfl hk rfl rfl rfl hT
    · exact told_1 (by decide) C (by decide) (by decide) rfl hk rfl rfl rfl hT
    · exact told_2 (by decide) C (by decide) (by decide) rfl hk rfl rfl rfl hT
    · exact told_1 (by decide) C (by decide) (by decide) rfl hk rfl rfl rfl hT
    · exact told_1 (by decide) C (by decide) (by decide) rfl hk rfl rfl rfl hT
  have := key.get
  obtain ⟨S, ρ, e, hS⟩ := this
  refine ⟨S, ?_, hS⟩
  show leaveO [true, false] false (exSs 1000000 (v__law_told f__law_kinds f__law_draw (f__law_long 45) f__law_applied f__law_changed f_solutions f__law_is_solution f__law_same) [.own T, .val (.str r.1), .no, .no, .no, .no, .no, .no, .no, .no, .no, .no]) = _
  rw [e]
  rfl
/-! ### the law -/
theorem names_at {v : Int} (h0 : 0 ≤ v) (h1 : v < 10) : ∃ r ∈ rowK, atI (rowK.map fun r => D.str r.1) v = some (.str r.1) := by
  obtain ⟨d, hd, e⟩ := at_ex (xs := rowK.map fun r => D.str r.1) h0 (by simpa [rowK] using h1)
  obtain ⟨r, hr, rfl⟩ := List.mem_map.mp hd
  exact ⟨r, hr, e⟩
section
variable {xs xt xd : CallF} {ns : List Int}
theorem law_go (ms : xs.md = [false]) (Hs : ∃ T, xs.F [.lst (ns.map .int)] = .ok (.lst T) [] ∧ Dr T) (mt : xt.md = [true, false]) (Ht : ∀ r ∈ rowK, ∀ T, Dr T → ∃ T', xt.F [.lst T, .str r.1] = .ok (.bl true) [T'] ∧ Dr T') (hd : DrawOk xd) :
    Wp 1000000 (v_law xs xt xd) [.val (.lst (ns.map .int)), .no, .no, .no] (fun o => ∃ ρ, o = .ret (.d (.bl true)) ρ) := by
  obtain ⟨T, e, hT⟩ := Hs
  obtain ⟨md, hd⟩ := hd
  unfold v_law
  refine wp_hide fun ss_ Q_ hs_ hq_ => ?_
  simp [runF, startE, finO, outsOf, inoutSlots, slotsFrom, lim, List.replicate, ms, e, hT.len]
  subst hs_ hq_
  refine wp_hide fun ss_ Q_ hs_ hq_ => ?_
  simp [runF, startE, finO, outsOf, inoutSlots, slotsFrom, lim, List.replicate]
  subst hs_ hq_
  refine wp_hide fun ss_ Q_ hs_ hq_ => ?_
  simp [runF, startE, finO, outsOf, inoutSlots, slotsFrom, lim, List.replicate]
  subst hs_ hq_
  refine wp_for (xs := [.int 0, .int 1, .int 2]) (ρ0 := _) (fun _ ρ => ∃ (T : List D) (o : Option D), Dr T ∧ ρ = [.val (.lst (ns.map .int)), .own T, .val (.lst (rowK.map fun r => D.str r.1)), sl o]) (by rfl) ⟨T, none, hT, rfl⟩ ?_ ?_
  · rintro k x ρ1 hx ⟨T, o, hT, rfl⟩
    refine ⟨_, by simp [runF, startE, finO, outsOf, inoutSlots, slotsFrom, lim, List.replicate]; rfl, ?_⟩
    obtain ⟨v, T1, e1, a1, b1, d1⟩ := hd T hT 10 (by decide) (by decide)
    obtain ⟨r, hr, hat⟩ := names_at a1 b1
    obtain ⟨T2, e2, d2⟩ := Ht r hr T1 d1
    generalize (rowK.map fun r => D.str r.1) = L at hat ⊢
    unfold vl_law_1
    rw [wp_cons]
    simp [runF, startE, finO, outsOf, inoutSlots, slotsFrom, lim, List.replicate, md, e1, hat, mt, e2, d1.len, d2.len]
    exact ⟨T2, d2, rfl, some _, rfl⟩
  · rintro ρ1 ⟨T, o, hT, rfl⟩
    rw [wp_cons]
    simp [runF, startE, finO, outsOf, inoutSlots, slotsFrom, lim, List.replicate]
end
theorem law_true (ns : List Int) (hl : ns.length ≤ 63) : f_law.F [.lst (ns.map .int)] = .ok (.bl true) [] := by
  show runF 1000000 4 [false] false (v_law f__law_state f__law_told f__law_draw) [.lst (ns.map .int)] = _
  refine wp_run (ρ := [.val (.lst (ns.map .int)), .no, .no, .no]) (fun r => r = .ok (.bl true) []) (by simp only [startE, List.replicate]) ?_
  have hs : ∃ T, f__law_state.F [.lst (ns.map .int)] = .ok (.lst T) [] ∧ Dr T := by
    refine ⟨_, ?_, 0, ns, 0, 1 + (ns.map D.int).length, rfl, by omega⟩
    simp [f__law_state, b__law_state, runF, startE, finO, outsOf, inoutSlots, slotsFrom, lim, List.replicate, st]
  have := law_go (xs := f__law_state) (xt := f__law_told) (xd := f__law_draw) rfl hs rfl (fun r hr T hT => F_told hr hT) draw_dr
  obtain ⟨ρ, e⟩ := this.get
  refine ⟨?_⟩
  rw [e]
  rfl
end K55
end

section
set_option Elab.async false
set_option linter.all false
set_option maxRecDepth 100000
set_option maxHeartbeats 0
namespace K55
open PySem L2 Mini
abbrev Prg_ : Program := PySem.Challenge.pw_leastfit_k55_solutions_of_sequences
def top (i : Nat) : Stmt := Prg_.main.body.getD i (.Pass ⟨0, 0, 0, 0⟩)
abbrev s_distinct : Stmt := top 4
theorem c_distinct : chkSs true N_distinct (defScope s_distinct) 1 b_distinct (defBody s_distinct) = true := by decide +kernel
theorem t_distinct : scopeB N_distinct ["numbers"] (defScope s_distinct) = true := by decide +kernel
abbrev s_product : Stmt := top 5
theorem c_product : chkSs true N_product (defScope s_product) 1 b_product (defBody s_product) = true := by decide +kernel
theorem t_product : scopeB N_product ["numbers"] (defScope s_product) = true := by decide +kernel
abbrev s_running : Stmt := top 6
theorem c_running : chkSs true N_running (defScope s_running) 1 b_running (defBody s_running) = true := by decide +kernel
theorem t_running : scopeB N_running ["numbers"] (defScope s_running) = true := by decide +kernel
abbrev s_extreme : Stmt := top 7
theorem c_extreme : chkSs true N_extreme (defScope s_extreme) 2 b_extreme (defBody s_extreme) = true := by decide +kernel
theorem t_extreme : scopeB N_extreme ["name", "numbers"] (defScope s_extreme) = true := by decide +kernel
abbrev s_rest : Stmt := top 8
theorem c_rest : chkSs true N_rest (defScope s_rest) 1 b_rest (defBody s_rest) = true := by decide +kernel
theorem t_rest : scopeB N_rest ["numbers"] (defScope s_rest) = true := by decide +kernel
abbrev s_item : Stmt := top 9
theorem c_item : chkSs true N_item (defScope s_item) 2 b_item (defBody s_item) = true := by decide +kernel
theorem t_item : scopeB N_item ["numbers", "index"] (defScope s_item) = true := by decide +kernel
abbrev s_apply_to_list : Stmt := top 10
theorem c_apply_to_list : chkSs true N_apply_to_list (defScope s_apply_to_list) 2 b_apply_to_list (defBody s_apply_to_list) = true := by decide +kernel
theorem t_apply_to_list : scopeB N_apply_to_list ["name", "numbers"] (defScope s_apply_to_list) = true := by decide +kernel
abbrev s_apply_to_list_and_number : Stmt := top 11
theorem c_apply_to_list_and_number : chkSs true N_apply_to_list_and_number (defScope s_apply_to_list_and_number) 3 b_apply_to_list_and_number (defBody s_apply_to_list_and_number) = true := by decide +kernel
theorem t_apply_to_list_and_number : scopeB N_apply_to_list_and_number ["name", "numbers", "number"] (defScope s_apply_to_list_and_number) = true := by decide +kernel
abbrev s_apply_to_lists : Stmt := top 12
theorem c_apply_to_lists : chkSs true N_apply_to_lists (defScope s_apply_to_lists) 3 b_apply_to_lists (defBody s_apply_to_lists) = true := by decide +kernel
theorem t_apply_to_lists : scopeB N_apply_to_lists ["name", "first", "second"] (defScope s_apply_to_lists) = true := by decide +kernel
abbrev s_floor_quotient : Stmt := top 14
theorem c_floor_quotient : chkSs true N_floor_quotient (defScope s_floor_quotient) 2 b_floor_quotient (defBody s_floor_quotient) = true := by decide +kernel
theorem t_floor_quotient : scopeB N_floor_quotient ["first", "second"] (defScope s_floor_quotient) = true := by decide +kernel
abbrev s_remainder : Stmt := top 15
theorem c_remainder : chkSs true N_remainder (defScope s_remainder) 2 b_remainder (defBody s_remainder) = true := by decide +kernel
theorem t_remainder : scopeB N_remainder ["first", "second"] (defScope s_remainder) = true := by decide +kernel
abbrev s_digits_of : Stmt := top 16
theorem c_digits_of : chkSs true N_digits_of (defScope s_digits_of) 1 b_digits_of (defBody s_digits_of) = true := by decide +kernel
theorem t_digits_of : scopeB N_digits_of ["number"] (defScope s_digits_of) = true := by decide +kernel
abbrev s_numbers_up_to : Stmt := top 17
theorem c_numbers_up_to : chkSs true N_numbers_up_to (defScope s_numbers_up_to) 1 b_numbers_up_to (defBody s_numbers_up_to) = true := by decide +kernel
theorem t_numbers_up_to : scopeB N_numbers_up_to ["number"] (defScope s_numbers_up_to) = true := by decide +kernel
abbrev s_apply_to_number : Stmt := top 18
theorem c_apply_to_number : chkSs true N_apply_to_number (defScope s_apply_to_number) 2 b_apply_to_number (defBody s_apply_to_number) = true := by decide +kernel
theorem t_apply_to_number : scopeB N_apply_to_number ["name", "number"] (defScope s_apply_to_number) = true := by decide +kernel
abbrev s_apply_to_numbers : Stmt := top 19
theorem c_apply_to_numbers : chkSs true N_apply_to_numbers (defScope s_apply_to_numbers) 3 b_apply_to_numbers (defBody s_apply_to_numbers) = true := by decide +kernel
theorem t_apply_to_numbers : scopeB N_apply_to_numbers ["name", "first", "second"] (defScope s_apply_to_numbers) = true := by decide +kernel
abbrev s_apply_to_truths : Stmt := top 20
theorem c_apply_to_truths : chkSs true N_apply_to_truths (defScope s_apply_to_truths) 2 b_apply_to_truths (defBody s_apply_to_truths) = true := by decide +kernel
theorem t_apply_to_truths : scopeB N_apply_to_truths ["name", "given"] (defScope s_apply_to_truths) = true := by decide +kernel
abbrev s_is_number : Stmt := top 27
theorem c_is_number : chkSs true N_is_number (defScope s_is_number) 1 b_is_number (defBody s_is_number) = true := by decide +kernel
theorem t_is_number : scopeB N_is_number ["value"] (defScope s_is_number) = true := by decide +kernel
abbrev s_is_text : Stmt := top 28
theorem c_is_text : chkSs true N_is_text (defScope s_is_text) 1 b_is_text (defBody s_is_text) = true := by decide +kernel
theorem t_is_text : scopeB N_is_text ["value"] (defScope s_is_text) = true := by decide +kernel
abbrev s_is_list : Stmt := top 29
theorem c_is_list : chkSs true N_is_list (defScope s_is_list) 1 b_is_list (defBody s_is_list) = true := by decide +kernel
theorem t_is_list : scopeB N_is_list ["value"] (defScope s_is_list) = true := by decide +kernel
abbrev s_is_value : Stmt := top 30
theorem c_is_value : chkSs true N_is_value (defScope s_is_value) 2 b_is_value (defBody s_is_value) = true := by decide +kernel
theorem t_is_value : scopeB N_is_value ["kind", "value"] (defScope s_is_value) = true := by decide +kernel
abbrev s_copies : Stmt := top 32
theorem c_copies : chkSs true N_copies (defScope s_copies) 2 b_copies (defBody s_copies) = true := by decide +kernel
theorem t_copies : scopeB N_copies ["text", "count"] (defScope s_copies) = true := by decide +kernel
abbrev s_number_of : Stmt := top 33
theorem c_number_of : chkSs true N_number_of (defScope s_number_of) 1 b_number_of (defBody s_number_of) = true := by decide +kernel
theorem t_number_of : scopeB N_number_of ["text"] (defScope s_number_of) = true := by decide +kernel
abbrev s_apply_to_text : Stmt := top 34
theorem c_apply_to_text : chkSs true N_apply_to_text (defScope s_apply_to_text) 2 b_apply_to_text (defBody s_apply_to_text) = true := by decide +kernel
theorem t_apply_to_text : scopeB N_apply_to_text ["name", "text"] (defScope s_apply_to_text) = true := by decide +kernel
abbrev s_apply_to_text_and_number : Stmt := top 35
theorem c_apply_to_text_and_number : chkSs true N_apply_to_text_and_number (defScope s_apply_to_text_and_number) 3 b_apply_to_text_and_number (defBody s_apply_to_text_and_number) = true := by decide +kernel
theorem t_apply_to_text_and_number : scopeB N_apply_to_text_and_number ["name", "text", "number"] (defScope s_apply_to_text_and_number) = true := by decide +kernel
abbrev s_apply_to_texts : Stmt := top 36
theorem c_apply_to_texts : chkSs true N_apply_to_texts (defScope s_apply_to_texts) 3 b_apply_to_texts (defBody s_apply_to_texts) = true := by decide +kernel
theorem t_apply_to_texts : scopeB N_apply_to_texts ["name", "first", "second"] (defScope s_apply_to_texts) = true := by decide +kernel
abbrev s_signature : Stmt := top 39
theorem c_signature : chkSs true N_signature (defScope s_signature) 1 b_signature (defBody s_signature) = true := by decide +kernel
theorem t_signature : scopeB N_signature ["name"] (defScope s_signature) = true := by decide +kernel
abbrev s_argument_kinds : Stmt := top 40
theorem c_argument_kinds : chkSs true N_argument_kinds (defScope s_argument_kinds) 1 b_argument_kinds (defBody s_argument_kinds) = true := by decide +kernel
theorem t_argument_kinds : scopeB N_argument_kinds ["name"] (defScope s_argument_kinds) = true := by decide +kernel
abbrev s_choose : Stmt := top 41
theorem c_choose : chkSs true N_choose (defScope s_choose) 1 b_choose (defBody s_choose) = true := by decide +kernel
theorem t_choose : scopeB N_choose ["given"] (defScope s_choose) = true := by decide +kernel
abbrev s_described : Stmt := top 42
theorem c_described : chkSs true N_described (defScope s_described) 3 b_described (defBody s_described) = true := by decide +kernel
theorem t_described : scopeB N_described ["name", "kinds", "given"] (defScope s_described) = true := by decide +kernel
abbrev s_apply : Stmt := top 43
theorem c_apply : chkSs true N_apply (defScope s_apply) 2 b_apply (defBody s_apply) = true := by decide +kernel
theorem t_apply : scopeB N_apply ["name", "outcomes"] (defScope s_apply) = true := by decide +kernel
abbrev s_placed : Stmt := top 45
theorem c_placed : chkSs true N_placed (defScope s_placed) 3 b_placed (defBody s_placed) = true := by decide +kernel
theorem t_placed : scopeB N_placed ["others", "index", "value"] (defScope s_placed) = true := by decide +kernel
abbrev s_differences : Stmt := top 46
theorem c_differences : chkSs true N_differences (defScope s_differences) 1 b_differences (defBody s_differences) = true := by decide +kernel
theorem t_differences : scopeB N_differences ["numbers"] (defScope s_differences) = true := by decide +kernel
abbrev s_sequence_guess : Stmt := top 47
theorem c_sequence_guess : chkSs true N_sequence_guess (defScope s_sequence_guess) 4 b_sequence_guess (defBody s_sequence_guess) = true := by decide +kernel
theorem t_sequence_guess : scopeB N_sequence_guess ["name", "index", "others", "result"] (defScope s_sequence_guess) = true := by decide +kernel
abbrev s_number_guess : Stmt := top 48
theorem c_number_guess : chkSs true N_number_guess (defScope s_number_guess) 4 b_number_guess (defBody s_number_guess) = true := by decide +kernel
theorem t_number_guess : scopeB N_number_guess ["name", "index", "others", "result"] (defScope s_number_guess) = true := by decide +kernel
abbrev s_single_guess : Stmt := top 49
theorem c_single_guess : chkSs true N_single_guess (defScope s_single_guess) 3 b_single_guess (defBody s_single_guess) = true := by decide +kernel
theorem t_single_guess : scopeB N_single_guess ["name", "others", "result"] (defScope s_single_guess) = true := by decide +kernel
abbrev s_guess : Stmt := top 50
theorem c_guess : chkSs true N_guess (defScope s_guess) 4 b_guess (defBody s_guess) = true := by decide +kernel
theorem t_guess : scopeB N_guess ["name", "index", "others", "result"] (defScope s_guess) = true := by decide +kernel
abbrev s_solutions : Stmt := top 51
theorem c_solutions : chkSs true N_solutions (defScope s_solutions) 4 b_solutions (defBody s_solutions) = true := by decide +kernel
theorem t_solutions : scopeB N_solutions ["name", "index", "others", "result"] (defScope s_solutions) = true := by decide +kernel
abbrev s__law_mix : Stmt := top 53
theorem c__law_mix : chkSs true N__law_mix (defScope s__law_mix) 1 b__law_mix (defBody s__law_mix) = true := by decide +kernel
theorem t__law_mix : scopeB N__law_mix ["_law_cell"] (defScope s__law_mix) = true := by decide +kernel
abbrev s__law_number : Stmt := top 54
theorem c__law_number : chkSs true N__law_number (defScope s__law_number) 1 b__law_number (defBody s__law_number) = true := by decide +kernel
theorem t__law_number : scopeB N__law_number ["_law_cell"] (defScope s__law_number) = true := by decide +kernel
abbrev s__law_state : Stmt := top 55
theorem c__law_state : chkSs true N__law_state (defScope s__law_state) 1 b__law_state (defBody s__law_state) = true := by decide +kernel
theorem t__law_state : scopeB N__law_state ["_law_script"] (defScope s__law_state) = true := by decide +kernel
abbrev s__law_draw : Stmt := top 56
theorem c__law_draw : chkSs true N__law_draw (defScope s__law_draw) 2 b__law_draw (defBody s__law_draw) = true := by decide +kernel
theorem t__law_draw : scopeB N__law_draw ["_law_state_here", "_law_many"] (defScope s__law_draw) = true := by decide +kernel
abbrev s__law_clip : Stmt := top 57
theorem c__law_clip : chkSs true N__law_clip (defScope s__law_clip) 1 b__law_clip (defBody s__law_clip) = true := by decide +kernel
theorem t__law_clip : scopeB N__law_clip ["_law_value"] (defScope s__law_clip) = true := by decide +kernel
abbrev s__law_kind : Stmt := top 58
theorem c__law_kind : chkSs true N__law_kind (defScope s__law_kind) 1 b__law_kind (defBody s__law_kind) = true := by decide +kernel
theorem t__law_kind : scopeB N__law_kind ["_law_value"] (defScope s__law_kind) = true := by decide +kernel
abbrev s__law_same : Stmt := top 59
theorem c__law_same : chkSs true N__law_same (defScope s__law_same) 2 b__law_same (defBody s__law_same) = true := by decide +kernel
theorem t__law_same : scopeB N__law_same ["_law_first", "_law_second"] (defScope s__law_same) = true := by decide +kernel
abbrev s__law_digits : Stmt := top 61
theorem c__law_digits : chkSs true N__law_digits (defScope s__law_digits) 1 b__law_digits (defBody s__law_digits) = true := by decide +kernel
theorem t__law_digits : scopeB N__law_digits ["_law_text"] (defScope s__law_digits) = true := by decide +kernel
abbrev s__law_applied : Stmt := top 60
theorem c__law_applied : chkSs true N__law_applied (defScope s__law_applied) 2 b__law_applied (defBody s__law_applied) = true := by decide +kernel
theorem t__law_applied : scopeB N__law_applied ["_law_name", "_law_given"] (defScope s__law_applied) = true := by decide +kernel
abbrev s__law_kinds : Stmt := top 62
theorem c__law_kinds : chkSs true N__law_kinds (defScope s__law_kinds) 1 b__law_kinds (defBody s__law_kinds) = true := by decide +kernel
theorem t__law_kinds : scopeB N__law_kinds ["_law_name"] (defScope s__law_kinds) = true := by decide +kernel
abbrev s__law_long : Stmt := top 63
theorem c__law_long (F : List D → MR) : chkSs true N__law_long (defScope s__law_long) 2 (b__law_long ⟨"_law_long", [true, false], false, F⟩) (defBody s__law_long) = true := by kernel_rfl
theorem t__law_long : scopeB N__law_long ["_law_state_here", "_law_kind_here"] (defScope s__law_long) = true := by decide +kernel
abbrev s__law_changed : Stmt := top 64
theorem c__law_changed : chkSs true N__law_changed (defScope s__law_changed) 2 b__law_changed (defBody s__law_changed) = true := by decide +kernel
theorem t__law_changed : scopeB N__law_changed ["_law_state_here", "_law_value"] (defScope s__law_changed) = true := by decide +kernel
abbrev s__law_is_solution : Stmt := top 65
theorem c__law_is_solution : chkSs true N__law_is_solution (defScope s__law_is_solution) 5 b__law_is_solution (defBody s__law_is_solution) = true := by decide +kernel
theorem t__law_is_solution : scopeB N__law_is_solution ["_law_name", "_law_index", "_law_others", "_law_result", "_law_value"] (defScope s__law_is_solution) = true := by decide +kernel
abbrev s__law_told : Stmt := top 66
theorem c__law_told : chkSs true N__law_told (defScope s__law_told) 2 b__law_told (defBody s__law_told) = true := by decide +kernel
theorem t__law_told : scopeB N__law_told ["_law_state_here", "_law_name"] (defScope s__law_told) = true := by decide +kernel
abbrev s_law : Stmt := top 67
theorem c_law : chkSs true N_law (defScope s_law) 1 b_law (defBody s_law) = true := by decide +kernel
theorem t_law : scopeB N_law ["_law_script"] (defScope s_law) = true := by decide +kernel

def fn : List He.DefD := ([⟨("distinct", none), "distinct", "distinct", defArgs s_distinct, defBody s_distinct, defScope s_distinct, [], []⟩, ⟨("product", none), "product", "product", defArgs s_product, defBody s_product, defScope s_product, [], []⟩, ⟨("running", none), "running", "running", defArgs s_running, defBody s_running, defScope s_running, [], []⟩, ⟨("extreme", none), "extreme", "extreme", defArgs s_extreme, defBody s_extreme, defScope s_extreme, [], []⟩, ⟨("rest", none), "rest", "rest", defArgs s_rest, defBody s_rest, defScope s_rest, [], []⟩, ⟨("item", none), "item", "item", defArgs s_item, defBody s_item, defScope s_item, [], []⟩, ⟨("apply_to_list", none), "apply_to_list", "apply_to_list", defArgs s_apply_to_list, defBody s_apply_to_list, defScope s_apply_to_list, [], []⟩, ⟨("apply_to_list_and_number", none), "apply_to_list_and_number", "apply_to_list_and_number", defArgs s_apply_to_list_and_number, defBody s_apply_to_list_and_number, defScope s_apply_to_list_and_number, [], []⟩, ⟨("apply_to_lists", none), "apply_to_lists", "apply_to_lists", defArgs s_apply_to_lists, defBody s_apply_to_lists, defScope s_apply_to_lists, [], []⟩, ⟨("floor_quotient", none), "floor_quotient", "floor_quotient", defArgs s_floor_quotient, defBody s_floor_quotient, defScope s_floor_quotient, [], []⟩, ⟨("remainder", none), "remainder", "remainder", defArgs s_remainder, defBody s_remainder, defScope s_remainder, [], []⟩, ⟨("digits_of", none), "digits_of", "digits_of", defArgs s_digits_of, defBody s_digits_of, defScope s_digits_of, [], []⟩, ⟨("numbers_up_to", none), "numbers_up_to", "numbers_up_to", defArgs s_numbers_up_to, defBody s_numbers_up_to, defScope s_numbers_up_to, [], []⟩, ⟨("apply_to_number", none), "apply_to_number", "apply_to_number", defArgs s_apply_to_number, defBody s_apply_to_number, defScope s_apply_to_number, [], []⟩, ⟨("apply_to_numbers", none), "apply_to_numbers", "apply_to_numbers", defArgs s_apply_to_numbers, defBody s_apply_to_numbers, defScope s_apply_to_numbers, [], []⟩, ⟨("apply_to_truths", none), "apply_to_truths", "apply_to_truths", defArgs s_apply_to_truths, defBody s_apply_to_truths, defScope s_apply_to_truths, [], []⟩, ⟨("is_number", none), "is_number", "is_number", defArgs s_is_number, defBody s_is_number, defScope s_is_number, [], []⟩, ⟨("is_text", none), "is_text", "is_text", defArgs s_is_text, defBody s_is_text, defScope s_is_text, [], []⟩, ⟨("is_list", none), "is_list", "is_list", defArgs s_is_list, defBody s_is_list, defScope s_is_list, [], []⟩, ⟨("is_value", none), "is_value", "is_value", defArgs s_is_value, defBody s_is_value, defScope s_is_value, [], []⟩, ⟨("copies", none), "copies", "copies", defArgs s_copies, defBody s_copies, defScope s_copies, [], []⟩, ⟨("number_of", none), "number_of", "number_of", defArgs s_number_of, defBody s_number_of, defScope s_number_of, [], []⟩, ⟨("apply_to_text", none), "apply_to_text", "apply_to_text", defArgs s_apply_to_text, defBody s_apply_to_text, defScope s_apply_to_text, [], []⟩, ⟨("apply_to_text_and_number", none), "apply_to_text_and_number", "apply_to_text_and_number", defArgs s_apply_to_text_and_number, defBody s_apply_to_text_and_number, defScope s_apply_to_text_and_number, [], []⟩, ⟨("apply_to_texts", none), "apply_to_texts", "apply_to_texts", defArgs s_apply_to_texts, defBody s_apply_to_texts, defScope s_apply_to_texts, [], []⟩, ⟨("signature", none), "signature", "signature", defArgs s_signature, defBody s_signature, defScope s_signature, [], []⟩, ⟨("argument_kinds", none), "argument_kinds", "argument_kinds", defArgs s_argument_kinds, defBody s_argument_kinds, defScope s_argument_kinds, [], []⟩, ⟨("choose", none), "choose", "choose", defArgs s_choose, defBody s_choose, defScope s_choose, [], []⟩, ⟨("described", none), "described", "described", defArgs s_described, defBody s_described, defScope s_described, [], []⟩, ⟨("apply", none), "apply", "apply", defArgs s_apply, defBody s_apply, defScope s_apply, [], []⟩] : List He.DefD) ++ ([⟨("placed", none), "placed", "placed", defArgs s_placed, defBody s_placed, defScope s_placed, [], []⟩, ⟨("differences", none), "differences", "differences", defArgs s_differences, defBody s_differences, defScope s_differences, [], []⟩, ⟨("sequence_guess", none), "sequence_guess", "sequence_guess", defArgs s_sequence_guess, defBody s_sequence_guess, defScope s_sequence_guess, [], []⟩, ⟨("number_guess", none), "number_guess", "number_guess", defArgs s_number_guess, defBody s_number_guess, defScope s_number_guess, [], []⟩, ⟨("single_guess", none), "single_guess", "single_guess", defArgs s_single_guess, defBody s_single_guess, defScope s_single_guess, [], []⟩, ⟨("guess", none), "guess", "guess", defArgs s_guess, defBody s_guess, defScope s_guess, [], []⟩, ⟨("solutions", none), "solutions", "solutions", defArgs s_solutions, defBody s_solutions, defScope s_solutions, [], []⟩, ⟨("_law_mix", none), "_law_mix", "_law_mix", defArgs s__law_mix, defBody s__law_mix, defScope s__law_mix, [], []⟩, ⟨("_law_number", none), "_law_number", "_law_number", defArgs s__law_number, defBody s__law_number, defScope s__law_number, [], []⟩, ⟨("_law_state", none), "_law_state", "_law_state", defArgs s__law_state, defBody s__law_state, defScope s__law_state, [], []⟩, ⟨("_law_draw", none), "_law_draw", "_law_draw", defArgs s__law_draw, defBody s__law_draw, defScope s__law_draw, [], []⟩, ⟨("_law_clip", none), "_law_clip", "_law_clip", defArgs s__law_clip, defBody s__law_clip, defScope s__law_clip, [], []⟩, ⟨("_law_kind", none), "_law_kind", "_law_kind", defArgs s__law_kind, defBody s__law_kind, defScope s__law_kind, [], []⟩, ⟨("_law_same", none), "_law_same", "_law_same", defArgs s__law_same, defBody s__law_same, defScope s__law_same, [], []⟩, ⟨("_law_digits", none), "_law_digits", "_law_digits", defArgs s__law_digits, defBody s__law_digits, defScope s__law_digits, [], []⟩, ⟨("_law_applied", none), "_law_applied", "_law_applied", defArgs s__law_applied, defBody s__law_applied, defScope s__law_applied, [], []⟩, ⟨("_law_kinds", none), "_law_kinds", "_law_kinds", defArgs s__law_kinds, defBody s__law_kinds, defScope s__law_kinds, [], []⟩, ⟨("_law_long", none), "_law_long", "_law_long", defArgs s__law_long, defBody s__law_long, defScope s__law_long, [], []⟩, ⟨("_law_changed", none), "_law_changed", "_law_changed", defArgs s__law_changed, defBody s__law_changed, defScope s__law_changed, [], []⟩, ⟨("_law_is_solution", none), "_law_is_solution", "_law_is_solution", defArgs s__law_is_solution, defBody s__law_is_solution, defScope s__law_is_solution, [], []⟩, ⟨("_law_told", none), "_law_told", "_law_told", defArgs s__law_told, defBody s__law_told, defScope s__law_told, [], []⟩, ⟨("law", none), "law", "law", defArgs s_law, defBody s_law, defScope s_law, [], []⟩] : List He.DefD)
def cs : List (Str × D) := ([("NUMBER_LIMIT", g_NUMBER_LIMIT), ("TEXT_LIMIT", g_TEXT_LIMIT), ("LIST_LIMIT", g_LIST_LIMIT), ("TEXT_CHARACTERS", g_TEXT_CHARACTERS), ("DIGITS", g_DIGITS)] : List (Str × D))
def fa : List He.Fa := (([.glo "distinct", .glo "product", .glo "running", .glo "extreme", .glo "rest", .glo "item", .glo "apply_to_list", .glo "apply_to_list_and_number", .glo "apply_to_lists", .glo "floor_quotient", .glo "remainder", .glo "digits_of", .glo "numbers_up_to", .glo "apply_to_number", .glo "apply_to_numbers", .glo "apply_to_truths", .glo "is_number", .glo "is_text", .glo "is_list", .glo "is_value", .glo "copies", .glo "number_of", .glo "apply_to_text", .glo "apply_to_text_and_number", .glo "apply_to_texts", .glo "signature", .glo "argument_kinds", .glo "choose", .glo "described", .glo "apply"] : List He.Fa) ++ ([.glo "placed", .glo "differences", .glo "sequence_guess", .glo "number_guess", .glo "single_guess", .glo "guess", .glo "solutions", .glo "_law_mix", .glo "_law_number", .glo "_law_state", .glo "_law_draw", .glo "_law_clip", .glo "_law_kind", .glo "_law_same", .glo "_law_digits", .glo "_law_applied", .glo "_law_kinds", .glo "_law_long", .glo "_law_changed", .glo "_law_is_solution", .glo "_law_told", .glo "law", .glo "SIGNATURES"] : List He.Fa)) ++ freeNames.map .free
def ts : List (Str × List (List Nat × D)) := [("SIGNATURES", t_SIGNATURES)]
def sx_NotFound : Stmt := match top 2 with
  | .ClassDef _ _ _ b _ _ _ _ _ _ _ => b.getD 0 (.Pass ⟨0, 0, 0, 0⟩)
  | s => s
def x_NotFound : XD := ⟨"NotFound", "name", "self", "name", "NotFound.__init__", defArgs sx_NotFound, defBody sx_NotFound, defScope sx_NotFound⟩
theorem xs_NotFound : x_NotFound.syn = true := by decide +kernel
theorem xb_NotFound : x_NotFound.Bnd := fun _ _ _ _ _ _ _ us hl => match us, hl with | [_, _], _ => rfl
def xs : List XD := [x_NotFound]
def cat : List (Str × List Nat) := []
def isi : List (Nat × Str × Bool) := []
def exB (K : PySem.W.Frag) : Bool := extraB cs ts K && excsB Prg_.main.file xs cat isi K
theorem noSuper : (Prg_.main.scope.names.lookup ("super" : Str)).isSome = false := by decide +kernel
abbrev Rw : PySem.W.OpenRow := PySem.W.OpenLaw.row PySem.Challenge.rw_leastfit_k55_solutions_of_sequences
abbrev hk : PySem.W.Hook := hookM 4 fa fn (tabsOf ts) exB xs
def ob (s : PySem.W.SharedT) : AlM := obsM 4 fa fn (tabsOf ts) exB xs (HandSHeadRun.getT s)
theorem ob_eq (s : PySem.W.SharedT) : ob s = hk.obs s.abs := obsM_eq (HandSHeadRun.getT_eq s)
def loose : List Str := (["LeastError", "NotFound", "distinct", "product", "running", "extreme", "rest", "item", "apply_to_list", "apply_to_list_and_number", "apply_to_lists", "floor_quotient", "remainder", "digits_of", "numbers_up_to", "apply_to_number", "apply_to_numbers", "apply_to_truths", "NUMBER_LIMIT", "TEXT_LIMIT", "LIST_LIMIT", "TEXT_CHARACTERS", "DIGITS", "is_number", "is_text", "is_list", "is_value", "copies", "number_of", "apply_to_text"] : List Str) ++ (["apply_to_text_and_number", "apply_to_texts", "SIGNATURES", "signature", "argument_kinds", "choose", "described", "apply", "placed", "differences", "sequence_guess", "number_guess", "single_guess", "guess", "solutions", "_law_mix", "_law_number", "_law_state", "_law_draw", "_law_clip", "_law_kind", "_law_same", "_law_applied", "_law_digits", "_law_kinds", "_law_long", "_law_changed", "_law_is_solution", "_law_told"] : List Str)
theorem runFA (w : World) : RunA Rw (PySem.W.view Rw.prog [67]) 20000 loose (w.withFollow "special-get-raises" false) := by
  intro os
  kernel_rfl
theorem runFB (w : World) : RunB Rw hk ob 20000 (w.withFollow "special-get-raises" false) := by
  intro os
  kernel_rfl
theorem runF (w : World) : HandSHeadRun.RunEq Rw (PySem.W.view Rw.prog [67]) hk ob 20000 loose (w.withFollow "special-get-raises" false) := run_two (runFA w) (runFB w)
theorem runTA (w : World) : RunA Rw (PySem.W.view Rw.prog [67]) 20000 loose (w.withFollow "special-get-raises" true) := by
  intro os
  kernel_rfl
theorem runTB (w : World) : RunB Rw hk ob 20000 (w.withFollow "special-get-raises" true) := by
  intro os
  kernel_rfl
theorem runT (w : World) : HandSHeadRun.RunEq Rw (PySem.W.view Rw.prog [67]) hk ob 20000 loose (w.withFollow "special-get-raises" true) := run_two (runTA w) (runTB w)
theorem run (w : World) : HandSHeadRun.RunEq Rw (PySem.W.view Rw.prog [67]) hk ob 20000 loose w := PySem.W.byRow2 "special-get-raises" (P := fun w => HandSHeadRun.RunEq Rw (PySem.W.view Rw.prog [67]) hk ob 20000 loose w) runF runT w

theorem facts {w : World} {K : PySem.W.Frag} {h : Heap} {mg : Str → Option Value} {f : Addr} (X : K.In h) (G : h.Ns mainGlobals mg) (hfa : mg ("law" : Str) = some (.ref f)) (c : SaysM fa fn (tabsOf ts) exB xs w h K) :
    ∃ fd : FuncData, (∀ (s : Shared) (v : Value), BindsTo s fd ⟨[v], []⟩ [("_law_script", v)]) ∧ ∀ base : Heap, FnOk Prg_ w K mg base (L2.CX Prg_ w) 200 f fd ["_law_script"] (spM (gM K xs) K f_law) := by
  obtain ⟨cm1, cm2⟩ := and3 c.more
  obtain ⟨cx1, cx2⟩ := and3 cm2
  obtain ⟨cx2, cx3⟩ := and3 cx2
  have fre : ∀ y ∈ freeNames, mg y = none := free_of X G c.t.d fun y hy => List.mem_append_right _ (List.mem_map_of_mem hy)
  have k_NUMBER_LIMIT : ∀ A base, GlobOk ⟨Prg_, w, K, mg, base, A⟩ "NUMBER_LIMIT" g_NUMBER_LIMIT := fun A base => glob_of X G (and3 cm1).1 (by simp [cs])
  have k_TEXT_LIMIT : ∀ A base, GlobOk ⟨Prg_, w, K, mg, base, A⟩ "TEXT_LIMIT" g_TEXT_LIMIT := fun A base => glob_of X G (and3 cm1).1 (by simp [cs])
  have k_LIST_LIMIT : ∀ A base, GlobOk ⟨Prg_, w, K, mg, base, A⟩ "LIST_LIMIT" g_LIST_LIMIT := fun A base => glob_of X G (and3 cm1).1 (by simp [cs])
  have k_TEXT_CHARACTERS : ∀ A base, GlobOk ⟨Prg_, w, K, mg, base, A⟩ "TEXT_CHARACTERS" g_TEXT_CHARACTERS := fun A base => glob_of X G (and3 cm1).1 (by simp [cs])
  have k_DIGITS : ∀ A base, GlobOk ⟨Prg_, w, K, mg, base, A⟩ "DIGITS" g_DIGITS := fun A base => glob_of X G (and3 cm1).1 (by simp [cs])
  have k_SIGNATURES : ∀ A base, TabOk ⟨Prg_, w, K, mg, base, A⟩ "SIGNATURES" t_SIGNATURES := fun A base => tab_of X G (c.t.d.fact 52 (f := .glo "SIGNATURES") rfl) (c.t.tab 0 (t := (fun K => He.ga K "SIGNATURES", t_SIGNATURES.map fun p => sOf p.1)) rfl) (List.all_eq_true.mp (and3 cm1).2 ("SIGNATURES", t_SIGNATURES) (by simp [ts]))
  have ok_NotFound := List.all_eq_true.mp cx1 x_NotFound (List.mem_of_getElem? (i := 0) rfl)
  have R_NotFound : ∀ A base, Room 2 A → RaiseOk (gM K xs) ⟨Prg_, w, K, mg, base, A⟩ 0 "NotFound" := fun A base r => raise_ok X G (xs := xs) (i := 0) (d := x_NotFound) rfl (c.xs 0 _ rfl) ok_NotFound xs_NotFound xb_NotFound (fre _ (by decide +kernel)) noSuper r
  have X_NotFound := xd_init (P := Prg_) (w := w) X G (c.xs 0 _ rfl) ok_NotFound xs_NotFound xb_NotFound (fre _ (by decide +kernel)) noSuper
  obtain ⟨fd_distinct, F_distinct⟩ := c.t.d.def_ 0 (d := ⟨("distinct", none), "distinct", "distinct", defArgs s_distinct, defBody s_distinct, defScope s_distinct, [], []⟩) rfl
  have O_distinct : ∀ base, FnOk Prg_ w K mg base (L2.CX Prg_ w) 1 _ fd_distinct ["numbers"] (spM (gM K xs) K f_distinct) := fun base => fn_ok (g := gM K xs) F_distinct (scope_ok t_distinct) rfl c_distinct fre fun A r => by
    simp only [b_distinct, l_distinct_1, okSts, okSt, okMk, okE, okEs, okSrc, and_true, true_and, implies_true]
    try ((repeat' (first | with_reducible refine And.intro ?_ ?_ | with_reducible intro _)) <;> (first | trivial))
  have C_distinct : ∀ A base, Room 1 A → CallOk (gM K xs) ⟨Prg_, w, K, mg, base, A⟩ f_distinct := fun A base r => ⟨_, fd_distinct, _, 1, O_distinct base, r, He.glo_ok X G (c.t.d.fact 0 (f := .glo "distinct") rfl), F_distinct.kp, FunD.bindsN F_distinct fun _ _ _ _ _ _ us hl => match us, hl with | [_], _ => rfl⟩
  obtain ⟨fd_product, F_product⟩ := c.t.d.def_ 1 (d := ⟨("product", none), "product", "product", defArgs s_product, defBody s_product, defScope s_product, [], []⟩) rfl
  have O_product : ∀ base, FnOk Prg_ w K mg base (L2.CX Prg_ w) 1 _ fd_product ["numbers"] (spM (gM K xs) K f_product) := fun base => fn_ok (g := gM K xs) F_product (scope_ok t_product) rfl c_product fre fun A r => by
    simp only [b_product, l_product_1, okSts, okSt, okMk, okE, okEs, okSrc, and_true, true_and, implies_true]
    try ((repeat' (first | with_reducible refine And.intro ?_ ?_ | with_reducible intro _)) <;> (first | trivial))
  have C_product : ∀ A base, Room 1 A → CallOk (gM K xs) ⟨Prg_, w, K, mg, base, A⟩ f_product := fun A base r => ⟨_, fd_product, _, 1, O_product base, r, He.glo_ok X G (c.t.d.fact 1 (f := .glo "product") rfl), F_product.kp, FunD.bindsN F_product fun _ _ _ _ _ _ us hl => match us, hl with | [_], _ => rfl⟩
  obtain ⟨fd_running, F_running⟩ := c.t.d.def_ 2 (d := ⟨("running", none), "running", "running", defArgs s_running, defBody s_running, defScope s_running, [], []⟩) rfl
  have O_running : ∀ base, FnOk Prg_ w K mg base (L2.CX Prg_ w) 1 _ fd_running ["numbers"] (spM (gM K xs) K f_running) := fun base => fn_ok (g := gM K xs) F_running (scope_ok t_running) rfl c_running fre fun A r => by
    simp only [b_running, l_running_1, okSts, okSt, okMk, okE, okEs, okSrc, and_true, true_and, implies_true]
    try ((repeat' (first | with_reducible refine And.intro ?_ ?_ | with_reducible intro _)) <;> (first | trivial))
  have C_running : ∀ A base, Room 1 A → CallOk (gM K xs) ⟨Prg_, w, K, mg, base, A⟩ f_running := fun A base r => ⟨_, fd_running, _, 1, O_running base, r, He.glo_ok X G (c.t.d.fact 2 (f := .glo "running") rfl), F_running.kp, FunD.bindsN F_running fun _ _ _ _ _ _ us hl => match us, hl with | [_], _ => rfl⟩
  obtain ⟨fd_extreme, F_extreme⟩ := c.t.d.def_ 3 (d := ⟨("extreme", none), "extreme", "extreme", defArgs s_extreme, defBody s_extreme, defScope s_extreme, [], []⟩) rfl
  have O_extreme : ∀ base, FnOk Prg_ w K mg base (L2.CX Prg_ w) 1 _ fd_extreme ["name", "numbers"] (spM (gM K xs) K f_extreme) := fun base => fn_ok (g := gM K xs) F_extreme (scope_ok t_extreme) rfl c_extreme fre fun A r => by
    simp only [b_extreme, okSts, okSt, okMk, okE, okEs, okSrc, and_true, true_and, implies_true]
    try ((repeat' (first | with_reducible refine And.intro ?_ ?_ | with_reducible intro _)) <;> (first | trivial))
  have C_extreme : ∀ A base, Room 1 A → CallOk (gM K xs) ⟨Prg_, w, K, mg, base, A⟩ f_extreme := fun A base r => ⟨_, fd_extreme, _, 1, O_extreme base, r, He.glo_ok X G (c.t.d.fact 3 (f := .glo "extreme") rfl), F_extreme.kp, FunD.bindsN F_extreme fun _ _ _ _ _ _ us hl => match us, hl with | [_, _], _ => rfl⟩
  obtain ⟨fd_rest, F_rest⟩ := c.t.d.def_ 4 (d := ⟨("rest", none), "rest", "rest", defArgs s_rest, defBody s_rest, defScope s_rest, [], []⟩) rfl
  have O_rest : ∀ base, FnOk Prg_ w K mg base (L2.CX Prg_ w) 1 _ fd_rest ["numbers"] (spM (gM K xs) K f_rest) := fun base => fn_ok (g := gM K xs) F_rest (scope_ok t_rest) rfl c_rest fre fun A r => by
    simp only [b_rest, okSts, okSt, okMk, okE, okEs, okSrc, and_true, true_and, implies_true]
    try ((repeat' (first | with_reducible refine And.intro ?_ ?_ | with_reducible intro _)) <;> (first | trivial))
  have C_rest : ∀ A base, Room 1 A → CallOk (gM K xs) ⟨Prg_, w, K, mg, base, A⟩ f_rest := fun A base r => ⟨_, fd_rest, _, 1, O_rest base, r, He.glo_ok X G (c.t.d.fact 4 (f := .glo "rest") rfl), F_rest.kp, FunD.bindsN F_rest fun _ _ _ _ _ _ us hl => match us, hl with | [_], _ => rfl⟩
  obtain ⟨fd_item, F_item⟩ := c.t.d.def_ 5 (d := ⟨("item", none), "item", "item", defArgs s_item, defBody s_item, defScope s_item, [], []⟩) rfl
  have O_item : ∀ base, FnOk Prg_ w K mg base (L2.CX Prg_ w) 1 _ fd_item ["numbers", "index"] (spM (gM K xs) K f_item) := fun base => fn_ok (g := gM K xs) F_item (scope_ok t_item) rfl c_item fre fun A r => by
    simp only [b_item, okSts, okSt, okMk, okE, okEs, okSrc, and_true, true_and, implies_true]
    try ((repeat' (first | with_reducible refine And.intro ?_ ?_ | with_reducible intro _)) <;> (first | trivial))
  have C_item : ∀ A base, Room 1 A → CallOk (gM K xs) ⟨Prg_, w, K, mg, base, A⟩ f_item := fun A base r => ⟨_, fd_item, _, 1, O_item base, r, He.glo_ok X G (c.t.d.fact 5 (f := .glo "item") rfl), F_item.kp, FunD.bindsN F_item fun _ _ _ _ _ _ us hl => match us, hl with | [_, _], _ => rfl⟩
  obtain ⟨fd_apply_to_list, F_apply_to_list⟩ := c.t.d.def_ 6 (d := ⟨("apply_to_list", none), "apply_to_list", "apply_to_list", defArgs s_apply_to_list, defBody s_apply_to_list, defScope s_apply_to_list, [], []⟩) rfl
  have O_apply_to_list : ∀ base, FnOk Prg_ w K mg base (L2.CX Prg_ w) 2 _ fd_apply_to_list ["name", "numbers"] (spM (gM K xs) K f_apply_to_list) := fun base => fn_ok (g := gM K xs) F_apply_to_list (scope_ok t_apply_to_list) rfl c_apply_to_list fre fun A r => by
    simp only [b_apply_to_list, e_apply_to_list_1, e_apply_to_list_2, okSts, okSt, okMk, okE, okEs, okSrc, and_true, true_and, implies_true]
    try ((repeat' (first | with_reducible refine And.intro ?_ ?_ | with_reducible intro _)) <;> (first | trivial | exact C_extreme _ _ (r.mono (by decide)) | exact C_distinct _ _ (r.mono (by decide)) | exact C_product _ _ (r.mono (by decide)) | exact C_rest _ _ (r.mono (by decide)) | exact C_running _ _ (r.mono (by decide))))
  have C_apply_to_list : ∀ A base, Room 2 A → CallOk (gM K xs) ⟨Prg_, w, K, mg, base, A⟩ f_apply_to_list := fun A base r => ⟨_, fd_apply_to_list, _, 2, O_apply_to_list base, r, He.glo_ok X G (c.t.d.fact 6 (f := .glo "apply_to_list") rfl), F_apply_to_list.kp, FunD.bindsN F_apply_to_list fun _ _ _ _ _ _ us hl => match us, hl with | [_, _], _ => rfl⟩
  obtain ⟨fd_apply_to_list_and_number, F_apply_to_list_and_number⟩ := c.t.d.def_ 7 (d := ⟨("apply_to_list_and_number", none), "apply_to_list_and_number", "apply_to_list_and_number", defArgs s_apply_to_list_and_number, defBody s_apply_to_list_and_number, defScope s_apply_to_list_and_number, [], []⟩) rfl
  have O_apply_to_list_and_number : ∀ base, FnOk Prg_ w K mg base (L2.CX Prg_ w) 2 _ fd_apply_to_list_and_number ["name", "numbers", "number"] (spM (gM K xs) K f_apply_to_list_and_number) := fun base => fn_ok (g := gM K xs) F_apply_to_list_and_number (scope_ok t_apply_to_list_and_number) rfl c_apply_to_list_and_number fre fun A r => by
    simp only [b_apply_to_list_and_number, e_apply_to_list_and_number_1, e_apply_to_list_and_number_2, e_apply_to_list_and_number_3, e_apply_to_list_and_number_4, e_apply_to_list_and_number_5, okSts, okSt, okMk, okE, okEs, okSrc, and_true, true_and, implies_true]
    try ((repeat' (first | with_reducible refine And.intro ?_ ?_ | with_reducible intro _)) <;> (first | trivial | exact C_item _ _ (r.mono (by decide))))
  have C_apply_to_list_and_number : ∀ A base, Room 2 A → CallOk (gM K xs) ⟨Prg_, w, K, mg, base, A⟩ f_apply_to_list_and_number := fun A base r => ⟨_, fd_apply_to_list_and_number, _, 2, O_apply_to_list_and_number base, r, He.glo_ok X G (c.t.d.fact 7 (f := .glo "apply_to_list_and_number") rfl), F_apply_to_list_and_number.kp, FunD.bindsN F_apply_to_list_and_number fun _ _ _ _ _ _ us hl => match us, hl with | [_, _, _], _ => rfl⟩
  obtain ⟨fd_apply_to_lists, F_apply_to_lists⟩ := c.t.d.def_ 8 (d := ⟨("apply_to_lists", none), "apply_to_lists", "apply_to_lists", defArgs s_apply_to_lists, defBody s_apply_to_lists, defScope s_apply_to_lists, [], []⟩) rfl
  have O_apply_to_lists : ∀ base, FnOk Prg_ w K mg base (L2.CX Prg_ w) 1 _ fd_apply_to_lists ["name", "first", "second"] (spM (gM K xs) K f_apply_to_lists) := fun base => fn_ok (g := gM K xs) F_apply_to_lists (scope_ok t_apply_to_lists) rfl c_apply_to_lists fre fun A r => by
    simp only [b_apply_to_lists, e_apply_to_lists_1, okSts, okSt, okMk, okE, okEs, okSrc, and_true, true_and, implies_true]
    try ((repeat' (first | with_reducible refine And.intro ?_ ?_ | with_reducible intro _)) <;> (first | trivial))
  have C_apply_to_lists : ∀ A base, Room 1 A → CallOk (gM K xs) ⟨Prg_, w, K, mg, base, A⟩ f_apply_to_lists := fun A base r => ⟨_, fd_apply_to_lists, _, 1, O_apply_to_lists base, r, He.glo_ok X G (c.t.d.fact 8 (f := .glo "apply_to_lists") rfl), F_apply_to_lists.kp, FunD.bindsN F_apply_to_lists fun _ _ _ _ _ _ us hl => match us, hl with | [_, _, _], _ => rfl⟩
  obtain ⟨fd_floor_quotient, F_floor_quotient⟩ := c.t.d.def_ 9 (d := ⟨("floor_quotient", none), "floor_quotient", "floor_quotient", defArgs s_floor_quotient, defBody s_floor_quotient, defScope s_floor_quotient, [], []⟩) rfl
  have O_floor_quotient : ∀ base, FnOk Prg_ w K mg base (L2.CX Prg_ w) 1 _ fd_floor_quotient ["first", "second"] (spM (gM K xs) K f_floor_quotient) := fun base => fn_ok (g := gM K xs) F_floor_quotient (scope_ok t_floor_quotient) rfl c_floor_quotient fre fun A r => by
    simp only [b_floor_quotient, okSts, okSt, okMk, okE, okEs, okSrc, and_true, true_and, implies_true]
    try ((repeat' (first | with_reducible refine And.intro ?_ ?_ | with_reducible intro _)) <;> (first | trivial))
  have C_floor_quotient : ∀ A base, Room 1 A → CallOk (gM K xs) ⟨Prg_, w, K, mg, base, A⟩ f_floor_quotient := fun A base r => ⟨_, fd_floor_quotient, _, 1, O_floor_quotient base, r, He.glo_ok X G (c.t.d.fact 9 (f := .glo "floor_quotient") rfl), F_floor_quotient.kp, FunD.bindsN F_floor_quotient fun _ _ _ _ _ _ us hl => match us, hl with | [_, _], _ => rfl⟩
  obtain ⟨fd_remainder, F_remainder⟩ := c.t.d.def_ 10 (d := ⟨("remainder", none), "remainder", "remainder", defArgs s_remainder, defBody s_remainder, defScope s_remainder, [], []⟩) rfl
  have O_remainder : ∀ base, FnOk Prg_ w K mg base (L2.CX Prg_ w) 1 _ fd_remainder ["first", "second"] (spM (gM K xs) K f_remainder) := fun base => fn_ok (g := gM K xs) F_remainder (scope_ok t_remainder) rfl c_remainder fre fun A r => by
    simp only [b_remainder, okSts, okSt, okMk, okE, okEs, okSrc, and_true, true_and, implies_true]
    try ((repeat' (first | with_reducible refine And.intro ?_ ?_ | with_reducible intro _)) <;> (first | trivial))
  have C_remainder : ∀ A base, Room 1 A → CallOk (gM K xs) ⟨Prg_, w, K, mg, base, A⟩ f_remainder := fun A base r => ⟨_, fd_remainder, _, 1, O_remainder base, r, He.glo_ok X G (c.t.d.fact 10 (f := .glo "remainder") rfl), F_remainder.kp, FunD.bindsN F_remainder fun _ _ _ _ _ _ us hl => match us, hl with | [_, _], _ => rfl⟩
  obtain ⟨fd_digits_of, F_digits_of⟩ := c.t.d.def_ 11 (d := ⟨("digits_of", none), "digits_of", "digits_of", defArgs s_digits_of, defBody s_digits_of, defScope s_digits_of, [], []⟩) rfl
  have O_digits_of : ∀ base, FnOk Prg_ w K mg base (L2.CX Prg_ w) 1 _ fd_digits_of ["number"] (spM (gM K xs) K f_digits_of) := fun base => fn_ok (g := gM K xs) F_digits_of (scope_ok t_digits_of) rfl c_digits_of fre fun A r => by
    simp only [b_digits_of, okSts, okSt, okMk, okE, okEs, okSrc, and_true, true_and, implies_true]
    try ((repeat' (first | with_reducible refine And.intro ?_ ?_ | with_reducible intro _)) <;> (first | trivial))
  have C_digits_of : ∀ A base, Room 1 A → CallOk (gM K xs) ⟨Prg_, w, K, mg, base, A⟩ f_digits_of := fun A base r => ⟨_, fd_digits_of, _, 1, O_digits_of base, r, He.glo_ok X G (c.t.d.fact 11 (f := .glo "digits_of") rfl), F_digits_of.kp, FunD.bindsN F_digits_of fun _ _ _ _ _ _ us hl => match us, hl with | [_], _ => rfl⟩
  obtain ⟨fd_numbers_up_to, F_numbers_up_to⟩ := c.t.d.def_ 12 (d := ⟨("numbers_up_to", none), "numbers_up_to", "numbers_up_to", defArgs s_numbers_up_to, defBody s_numbers_up_to, defScope s_numbers_up_to, [], []⟩) rfl
  have O_numbers_up_to : ∀ base, FnOk Prg_ w K mg base (L2.CX Prg_ w) 1 _ fd_numbers_up_to ["number"] (spM (gM K xs) K f_numbers_up_to) := fun base => fn_ok (g := gM K xs) F_numbers_up_to (scope_ok t_numbers_up_to) rfl c_numbers_up_to fre fun A r => by
    simp only [b_numbers_up_to, e_numbers_up_to_1, okSts, okSt, okMk, okE, okEs, okSrc, and_true, true_and, implies_true]
    try ((repeat' (first | with_reducible refine And.intro ?_ ?_ | with_reducible intro _)) <;> (first | trivial))
  have C_numbers_up_to : ∀ A base, Room 1 A → CallOk (gM K xs) ⟨Prg_, w, K, mg, base, A⟩ f_numbers_up_to := fun A base r => ⟨_, fd_numbers_up_to, _, 1, O_numbers_up_to base, r, He.glo_ok X G (c.t.d.fact 12 (f := .glo "numbers_up_to") rfl), F_numbers_up_to.kp, FunD.bindsN F_numbers_up_to fun _ _ _ _ _ _ us hl => match us, hl with | [_], _ => rfl⟩
  obtain ⟨fd_apply_to_number, F_apply_to_number⟩ := c.t.d.def_ 13 (d := ⟨("apply_to_number", none), "apply_to_number", "apply_to_number", defArgs s_apply_to_number, defBody s_apply_to_number, defScope s_apply_to_number, [], []⟩) rfl
  have O_apply_to_number : ∀ base, FnOk Prg_ w K mg base (L2.CX Prg_ w) 2 _ fd_apply_to_number ["name", "number"] (spM (gM K xs) K f_apply_to_number) := fun base => fn_ok (g := gM K xs) F_apply_to_number (scope_ok t_apply_to_number) rfl c_apply_to_number fre fun A r => by
    simp only [b_apply_to_number, okSts, okSt, okMk, okE, okEs, okSrc, and_true, true_and, implies_true]
    try ((repeat' (first | with_reducible refine And.intro ?_ ?_ | with_reducible intro _)) <;> (first | trivial | exact C_numbers_up_to _ _ (r.mono (by decide)) | exact C_digits_of _ _ (r.mono (by decide))))
  have C_apply_to_number : ∀ A base, Room 2 A → CallOk (gM K xs) ⟨Prg_, w, K, mg, base, A⟩ f_apply_to_number := fun A base r => ⟨_, fd_apply_to_number, _, 2, O_apply_to_number base, r, He.glo_ok X G (c.t.d.fact 13 (f := .glo "apply_to_number") rfl), F_apply_to_number.kp, FunD.bindsN F_apply_to_number fun _ _ _ _ _ _ us hl => match us, hl with | [_, _], _ => rfl⟩
  obtain ⟨fd_apply_to_numbers, F_apply_to_numbers⟩ := c.t.d.def_ 14 (d := ⟨("apply_to_numbers", none), "apply_to_numbers", "apply_to_numbers", defArgs s_apply_to_numbers, defBody s_apply_to_numbers, defScope s_apply_to_numbers, [], []⟩) rfl
  have O_apply_to_numbers : ∀ base, FnOk Prg_ w K mg base (L2.CX Prg_ w) 2 _ fd_apply_to_numbers ["name", "first", "second"] (spM (gM K xs) K f_apply_to_numbers) := fun base => fn_ok (g := gM K xs) F_apply_to_numbers (scope_ok t_apply_to_numbers) rfl c_apply_to_numbers fre fun A r => by
    simp only [b_apply_to_numbers, okSts, okSt, okMk, okE, okEs, okSrc, and_true, true_and, implies_true]
    try ((repeat' (first | with_reducible refine And.intro ?_ ?_ | with_reducible intro _)) <;> (first | trivial | exact C_floor_quotient _ _ (r.mono (by decide)) | exact C_remainder _ _ (r.mono (by decide))))
  have C_apply_to_numbers : ∀ A base, Room 2 A → CallOk (gM K xs) ⟨Prg_, w, K, mg, base, A⟩ f_apply_to_numbers := fun A base r => ⟨_, fd_apply_to_numbers, _, 2, O_apply_to_numbers base, r, He.glo_ok X G (c.t.d.fact 14 (f := .glo "apply_to_numbers") rfl), F_apply_to_numbers.kp, FunD.bindsN F_apply_to_numbers fun _ _ _ _ _ _ us hl => match us, hl with | [_, _, _], _ => rfl⟩
  obtain ⟨fd_apply_to_truths, F_apply_to_truths⟩ := c.t.d.def_ 15 (d := ⟨("apply_to_truths", none), "apply_to_truths", "apply_to_truths", defArgs s_apply_to_truths, defBody s_apply_to_truths, defScope s_apply_to_truths, [], []⟩) rfl
  have O_apply_to_truths : ∀ base, FnOk Prg_ w K mg base (L2.CX Prg_ w) 1 _ fd_apply_to_truths ["name", "given"] (spM (gM K xs) K f_apply_to_truths) := fun base => fn_ok (g := gM K xs) F_apply_to_truths (scope_ok t_apply_to_truths) rfl c_apply_to_truths fre fun A r => by
    simp only [b_apply_to_truths, okSts, okSt, okMk, okE, okEs, okSrc, and_true, true_and, implies_true]
    try ((repeat' (first | with_reducible refine And.intro ?_ ?_ | with_reducible intro _)) <;> (first | trivial))
  have C_apply_to_truths : ∀ A base, Room 1 A → CallOk (gM K xs) ⟨Prg_, w, K, mg, base, A⟩ f_apply_to_truths := fun A base r => ⟨_, fd_apply_to_truths, _, 1, O_apply_to_truths base, r, He.glo_ok X G (c.t.d.fact 15 (f := .glo "apply_to_truths") rfl), F_apply_to_truths.kp, FunD.bindsN F_apply_to_truths fun _ _ _ _ _ _ us hl => match us, hl with | [_, _], _ => rfl⟩
  obtain ⟨fd_is_number, F_is_number⟩ := c.t.d.def_ 16 (d := ⟨("is_number", none), "is_number", "is_number", defArgs s_is_number, defBody s_is_number, defScope s_is_number, [], []⟩) rfl
  have O_is_number : ∀ base, FnOk Prg_ w K mg base (L2.CX Prg_ w) 1 _ fd_is_number ["value"] (spM (gM K xs) K f_is_number) := fun base => fn_ok (g := gM K xs) F_is_number (scope_ok t_is_number) rfl c_is_number fre fun A r => by
    simp only [b_is_number, okSts, okSt, okMk, okE, okEs, okSrc, and_true, true_and, implies_true]
    try ((repeat' (first | with_reducible refine And.intro ?_ ?_ | with_reducible intro _)) <;> (first | trivial | exact k_NUMBER_LIMIT _ _))
  have C_is_number : ∀ A base, Room 1 A → CallOk (gM K xs) ⟨Prg_, w, K, mg, base, A⟩ f_is_number := fun A base r => ⟨_, fd_is_number, _, 1, O_is_number base, r, He.glo_ok X G (c.t.d.fact 16 (f := .glo "is_number") rfl), F_is_number.kp, FunD.bindsN F_is_number fun _ _ _ _ _ _ us hl => match us, hl with | [_], _ => rfl⟩
  obtain ⟨fd_is_text, F_is_text⟩ := c.t.d.def_ 17 (d := ⟨("is_text", none), "is_text", "is_text", defArgs s_is_text, defBody s_is_text, defScope s_is_text, [], []⟩) rfl
  have O_is_text : ∀ base, FnOk Prg_ w K mg base (L2.CX Prg_ w) 1 _ fd_is_text ["value"] (spM (gM K xs) K f_is_text) := fun base => fn_ok (g := gM K xs) F_is_text (scope_ok t_is_text) rfl c_is_text fre fun A r => by
    simp only [b_is_text, e_is_text_1, okSts, okSt, okMk, okE, okEs, okSrc, and_true, true_and, implies_true]
    try ((repeat' (first | with_reducible refine And.intro ?_ ?_ | with_reducible intro _)) <;> (first | trivial | exact k_TEXT_LIMIT _ _ | exact k_TEXT_CHARACTERS _ _))
  have C_is_text : ∀ A base, Room 1 A → CallOk (gM K xs) ⟨Prg_, w, K, mg, base, A⟩ f_is_text := fun A base r => ⟨_, fd_is_text, _, 1, O_is_text base, r, He.glo_ok X G (c.t.d.fact 17 (f := .glo "is_text") rfl), F_is_text.kp, FunD.bindsN F_is_text fun _ _ _ _ _ _ us hl => match us, hl with | [_], _ => rfl⟩
  obtain ⟨fd_is_list, F_is_list⟩ := c.t.d.def_ 18 (d := ⟨("is_list", none), "is_list", "is_list", defArgs s_is_list, defBody s_is_list, defScope s_is_list, [], []⟩) rfl
  have O_is_list : ∀ base, FnOk Prg_ w K mg base (L2.CX Prg_ w) 2 _ fd_is_list ["value"] (spM (gM K xs) K f_is_list) := fun base => fn_ok (g := gM K xs) F_is_list (scope_ok t_is_list) rfl c_is_list fre fun A r => by
    simp only [b_is_list, e_is_list_1, okSts, okSt, okMk, okE, okEs, okSrc, and_true, true_and, implies_true]
    try ((repeat' (first | with_reducible refine And.intro ?_ ?_ | with_reducible intro _)) <;> (first | trivial | exact k_LIST_LIMIT _ _ | exact C_is_number _ _ (r.mono (by decide))))
  have C_is_list : ∀ A base, Room 2 A → CallOk (gM K xs) ⟨Prg_, w, K, mg, base, A⟩ f_is_list := fun A base r => ⟨_, fd_is_list, _, 2, O_is_list base, r, He.glo_ok X G (c.t.d.fact 18 (f := .glo "is_list") rfl), F_is_list.kp, FunD.bindsN F_is_list fun _ _ _ _ _ _ us hl => match us, hl with | [_], _ => rfl⟩
  obtain ⟨fd_is_value, F_is_value⟩ := c.t.d.def_ 19 (d := ⟨("is_value", none), "is_value", "is_value", defArgs s_is_value, defBody s_is_value, defScope s_is_value, [], []⟩) rfl
  have O_is_value : ∀ base, FnOk Prg_ w K mg base (L2.CX Prg_ w) 3 _ fd_is_value ["kind", "value"] (spM (gM K xs) K f_is_value) := fun base => fn_ok (g := gM K xs) F_is_value (scope_ok t_is_value) rfl c_is_value fre fun A r => by
    simp only [b_is_value, okSts, okSt, okMk, okE, okEs, okSrc, and_true, true_and, implies_true]
    try ((repeat' (first | with_reducible refine And.intro ?_ ?_ | with_reducible intro _)) <;> (first | trivial | exact C_is_list _ _ (r.mono (by decide)) | exact C_is_number _ _ (r.mono (by decide)) | exact C_is_text _ _ (r.mono (by decide))))
  have C_is_value : ∀ A base, Room 3 A → CallOk (gM K xs) ⟨Prg_, w, K, mg, base, A⟩ f_is_value := fun A base r => ⟨_, fd_is_value, _, 3, O_is_value base, r, He.glo_ok X G (c.t.d.fact 19 (f := .glo "is_value") rfl), F_is_value.kp, FunD.bindsN F_is_value fun _ _ _ _ _ _ us hl => match us, hl with | [_, _], _ => rfl⟩
  obtain ⟨fd_copies, F_copies⟩ := c.t.d.def_ 20 (d := ⟨("copies", none), "copies", "copies", defArgs s_copies, defBody s_copies, defScope s_copies, [], []⟩) rfl
  have O_copies : ∀ base, FnOk Prg_ w K mg base (L2.CX Prg_ w) 1 _ fd_copies ["text", "count"] (spM (gM K xs) K f_copies) := fun base => fn_ok (g := gM K xs) F_copies (scope_ok t_copies) rfl c_copies fre fun A r => by
    simp only [b_copies, okSts, okSt, okMk, okE, okEs, okSrc, and_true, true_and, implies_true]
    try ((repeat' (first | with_reducible refine And.intro ?_ ?_ | with_reducible intro _)) <;> (first | trivial | exact k_TEXT_LIMIT _ _))
  have C_copies : ∀ A base, Room 1 A → CallOk (gM K xs) ⟨Prg_, w, K, mg, base, A⟩ f_copies := fun A base r => ⟨_, fd_copies, _, 1, O_copies base, r, He.glo_ok X G (c.t.d.fact 20 (f := .glo "copies") rfl), F_copies.kp, FunD.bindsN F_copies fun _ _ _ _ _ _ us hl => match us, hl with | [_, _], _ => rfl⟩
  obtain ⟨fd_number_of, F_number_of⟩ := c.t.d.def_ 21 (d := ⟨("number_of", none), "number_of", "number_of", defArgs s_number_of, defBody s_number_of, defScope s_number_of, [], []⟩) rfl
  have O_number_of : ∀ base, FnOk Prg_ w K mg base (L2.CX Prg_ w) 1 _ fd_number_of ["text"] (spM (gM K xs) K f_number_of) := fun base => fn_ok (g := gM K xs) F_number_of (scope_ok t_number_of) rfl c_number_of fre fun A r => by
    simp only [b_number_of, e_number_of_1, okSts, okSt, okMk, okE, okEs, okSrc, and_true, true_and, implies_true]
    try ((repeat' (first | with_reducible refine And.intro ?_ ?_ | with_reducible intro _)) <;> (first | trivial | exact k_DIGITS _ _))
  have C_number_of : ∀ A base, Room 1 A → CallOk (gM K xs) ⟨Prg_, w, K, mg, base, A⟩ f_number_of := fun A base r => ⟨_, fd_number_of, _, 1, O_number_of base, r, He.glo_ok X G (c.t.d.fact 21 (f := .glo "number_of") rfl), F_number_of.kp, FunD.bindsN F_number_of fun _ _ _ _ _ _ us hl => match us, hl with | [_], _ => rfl⟩
  obtain ⟨fd_apply_to_text, F_apply_to_text⟩ := c.t.d.def_ 22 (d := ⟨("apply_to_text", none), "apply_to_text", "apply_to_text", defArgs s_apply_to_text, defBody s_apply_to_text, defScope s_apply_to_text, [], []⟩) rfl
  have O_apply_to_text : ∀ base, FnOk Prg_ w K mg base (L2.CX Prg_ w) 2 _ fd_apply_to_text ["name", "text"] (spM (gM K xs) K f_apply_to_text) := fun base => fn_ok (g := gM K xs) F_apply_to_text (scope_ok t_apply_to_text) rfl c_apply_to_text fre fun A r => by
    simp only [b_apply_to_text, e_apply_to_text_1, e_apply_to_text_2, okSts, okSt, okMk, okE, okEs, okSrc, and_true, true_and, implies_true]
    try ((repeat' (first | with_reducible refine And.intro ?_ ?_ | with_reducible intro _)) <;> (first | trivial | exact C_number_of _ _ (r.mono (by decide))))
  have C_apply_to_text : ∀ A base, Room 2 A → CallOk (gM K xs) ⟨Prg_, w, K, mg, base, A⟩ f_apply_to_text := fun A base r => ⟨_, fd_apply_to_text, _, 2, O_apply_to_text base, r, He.glo_ok X G (c.t.d.fact 22 (f := .glo "apply_to_text") rfl), F_apply_to_text.kp, FunD.bindsN F_apply_to_text fun _ _ _ _ _ _ us hl => match us, hl with | [_, _], _ => rfl⟩
  obtain ⟨fd_apply_to_text_and_number, F_apply_to_text_and_number⟩ := c.t.d.def_ 23 (d := ⟨("apply_to_text_and_number", none), "apply_to_text_and_number", "apply_to_text_and_number", defArgs s_apply_to_text_and_number, defBody s_apply_to_text_and_number, defScope s_apply_to_text_and_number, [], []⟩) rfl
  have O_apply_to_text_and_number : ∀ base, FnOk Prg_ w K mg base (L2.CX Prg_ w) 2 _ fd_apply_to_text_and_number ["name", "text", "number"] (spM (gM K xs) K f_apply_to_text_and_number) := fun base => fn_ok (g := gM K xs) F_apply_to_text_and_number (scope_ok t_apply_to_text_and_number) rfl c_apply_to_text_and_number fre fun A r => by
    simp only [b_apply_to_text_and_number, okSts, okSt, okMk, okE, okEs, okSrc, and_true, true_and, implies_true]
    try ((repeat' (first | with_reducible refine And.intro ?_ ?_ | with_reducible intro _)) <;> (first | trivial | exact C_copies _ _ (r.mono (by decide))))
  have C_apply_to_text_and_number : ∀ A base, Room 2 A → CallOk (gM K xs) ⟨Prg_, w, K, mg, base, A⟩ f_apply_to_text_and_number := fun A base r => ⟨_, fd_apply_to_text_and_number, _, 2, O_apply_to_text_and_number base, r, He.glo_ok X G (c.t.d.fact 23 (f := .glo "apply_to_text_and_number") rfl), F_apply_to_text_and_number.kp, FunD.bindsN F_apply_to_text_and_number fun _ _ _ _ _ _ us hl => match us, hl with | [_, _, _], _ => rfl⟩
  obtain ⟨fd_apply_to_texts, F_apply_to_texts⟩ := c.t.d.def_ 24 (d := ⟨("apply_to_texts", none), "apply_to_texts", "apply_to_texts", defArgs s_apply_to_texts, defBody s_apply_to_texts, defScope s_apply_to_texts, [], []⟩) rfl
  have O_apply_to_texts : ∀ base, FnOk Prg_ w K mg base (L2.CX Prg_ w) 1 _ fd_apply_to_texts ["name", "first", "second"] (spM (gM K xs) K f_apply_to_texts) := fun base => fn_ok (g := gM K xs) F_apply_to_texts (scope_ok t_apply_to_texts) rfl c_apply_to_texts fre fun A r => by
    simp only [b_apply_to_texts, okSts, okSt, okMk, okE, okEs, okSrc, and_true, true_and, implies_true]
    try ((repeat' (first | with_reducible refine And.intro ?_ ?_ | with_reducible intro _)) <;> (first | trivial))
  have C_apply_to_texts : ∀ A base, Room 1 A → CallOk (gM K xs) ⟨Prg_, w, K, mg, base, A⟩ f_apply_to_texts := fun A base r => ⟨_, fd_apply_to_texts, _, 1, O_apply_to_texts base, r, He.glo_ok X G (c.t.d.fact 24 (f := .glo "apply_to_texts") rfl), F_apply_to_texts.kp, FunD.bindsN F_apply_to_texts fun _ _ _ _ _ _ us hl => match us, hl with | [_, _, _], _ => rfl⟩
  obtain ⟨fd_signature, F_signature⟩ := c.t.d.def_ 25 (d := ⟨("signature", none), "signature", "signature", defArgs s_signature, defBody s_signature, defScope s_signature, [], []⟩) rfl
  have O_signature : ∀ base, FnOk Prg_ w K mg base (L2.CX Prg_ w) 3 _ fd_signature ["name"] (spM (gM K xs) K f_signature) := fun base => fn_ok (g := gM K xs) F_signature (scope_ok t_signature) rfl c_signature fre fun A r => by
    simp only [b_signature, okSts, okSt, okMk, okE, okEs, okSrc, and_true, true_and, implies_true]
    try ((repeat' (first | with_reducible refine And.intro ?_ ?_ | with_reducible intro _)) <;> (first | trivial | exact k_SIGNATURES _ _ | exact R_NotFound _ _ (r.mono (by decide))))
  have C_signature : ∀ A base, Room 3 A → CallOk (gM K xs) ⟨Prg_, w, K, mg, base, A⟩ f_signature := fun A base r => ⟨_, fd_signature, _, 3, O_signature base, r, He.glo_ok X G (c.t.d.fact 25 (f := .glo "signature") rfl), F_signature.kp, FunD.bindsN F_signature fun _ _ _ _ _ _ us hl => match us, hl with | [_], _ => rfl⟩
  obtain ⟨fd_argument_kinds, F_argument_kinds⟩ := c.t.d.def_ 26 (d := ⟨("argument_kinds", none), "argument_kinds", "argument_kinds", defArgs s_argument_kinds, defBody s_argument_kinds, defScope s_argument_kinds, [], []⟩) rfl
  have O_argument_kinds : ∀ base, FnOk Prg_ w K mg base (L2.CX Prg_ w) 4 _ fd_argument_kinds ["name"] (spM (gM K xs) K f_argument_kinds) := fun base => fn_ok (g := gM K xs) F_argument_kinds (scope_ok t_argument_kinds) rfl c_argument_kinds fre fun A r => by
    simp only [b_argument_kinds, okSts, okSt, okMk, okE, okEs, okSrc, and_true, true_and, implies_true]
    try ((repeat' (first | with_reducible refine And.intro ?_ ?_ | with_reducible intro _)) <;> (first | trivial | exact C_signature _ _ (r.mono (by decide))))
  have C_argument_kinds : ∀ A base, Room 4 A → CallOk (gM K xs) ⟨Prg_, w, K, mg, base, A⟩ f_argument_kinds := fun A base r => ⟨_, fd_argument_kinds, _, 4, O_argument_kinds base, r, He.glo_ok X G (c.t.d.fact 26 (f := .glo "argument_kinds") rfl), F_argument_kinds.kp, FunD.bindsN F_argument_kinds fun _ _ _ _ _ _ us hl => match us, hl with | [_], _ => rfl⟩
  obtain ⟨fd_choose, F_choose⟩ := c.t.d.def_ 27 (d := ⟨("choose", none), "choose", "choose", defArgs s_choose, defBody s_choose, defScope s_choose, [], []⟩) rfl
  have O_choose : ∀ base, FnOk Prg_ w K mg base (L2.CX Prg_ w) 1 _ fd_choose ["given"] (spM (gM K xs) K f_choose) := fun base => fn_ok (g := gM K xs) F_choose (scope_ok t_choose) rfl c_choose fre fun A r => by
    simp only [b_choose, okSts, okSt, okMk, okE, okEs, okSrc, and_true, true_and, implies_true]
    try ((repeat' (first | with_reducible refine And.intro ?_ ?_ | with_reducible intro _)) <;> (first | trivial))
  have C_choose : ∀ A base, Room 1 A → CallOk (gM K xs) ⟨Prg_, w, K, mg, base, A⟩ f_choose := fun A base r => ⟨_, fd_choose, _, 1, O_choose base, r, He.glo_ok X G (c.t.d.fact 27 (f := .glo "choose") rfl), F_choose.kp, FunD.bindsN F_choose fun _ _ _ _ _ _ us hl => match us, hl with | [_], _ => rfl⟩
  obtain ⟨fd_described, F_described⟩ := c.t.d.def_ 28 (d := ⟨("described", none), "described", "described", defArgs s_described, defBody s_described, defScope s_described, [], []⟩) rfl
  have O_described : ∀ base, FnOk Prg_ w K mg base (L2.CX Prg_ w) 3 _ fd_described ["name", "kinds", "given"] (spM (gM K xs) K f_described) := fun base => fn_ok (g := gM K xs) F_described (scope_ok t_described) rfl c_described fre fun A r => by
    simp only [b_described, okSts, okSt, okMk, okE, okEs, okSrc, and_true, true_and, implies_true]
    try ((repeat' (first | with_reducible refine And.intro ?_ ?_ | with_reducible intro _)) <;> (first | trivial | exact C_apply_to_list_and_number _ _ (r.mono (by decide)) | exact C_apply_to_truths _ _ (r.mono (by decide)) | exact C_apply_to_list _ _ (r.mono (by decide)) | exact C_apply_to_numbers _ _ (r.mono (by decide)) | exact C_apply_to_texts _ _ (r.mono (by decide)) | exact C_apply_to_text_and_number _ _ (r.mono (by decide)) | exact C_apply_to_lists _ _ (r.mono (by decide)) | exact C_apply_to_number _ _ (r.mono (by decide)) | exact C_apply_to_text _ _ (r.mono (by decide))))
  have C_described : ∀ A base, Room 3 A → CallOk (gM K xs) ⟨Prg_, w, K, mg, base, A⟩ f_described := fun A base r => ⟨_, fd_described, _, 3, O_described base, r, He.glo_ok X G (c.t.d.fact 28 (f := .glo "described") rfl), F_described.kp, FunD.bindsN F_described fun _ _ _ _ _ _ us hl => match us, hl with | [_, _, _], _ => rfl⟩
  obtain ⟨fd_apply, F_apply⟩ := c.t.d.def_ 29 (d := ⟨("apply", none), "apply", "apply", defArgs s_apply, defBody s_apply, defScope s_apply, [], []⟩) rfl
  have O_apply : ∀ base, FnOk Prg_ w K mg base (L2.CX Prg_ w) 4 _ fd_apply ["name", "outcomes"] (spM (gM K xs) K f_apply) := fun base => fn_ok (g := gM K xs) F_apply (scope_ok t_apply) rfl c_apply fre fun A r => by
    simp only [b_apply, e_apply_1, okSts, okSt, okMk, okE, okEs, okSrc, and_true, true_and, implies_true]
    try ((repeat' (first | with_reducible refine And.intro ?_ ?_ | with_reducible intro _)) <;> (first | trivial | exact C_signature _ _ (r.mono (by decide)) | exact C_described _ _ (r.mono (by decide)) | exact C_choose _ _ (r.mono (by decide)) | exact C_is_value _ _ (r.mono (by decide))))
  have C_apply : ∀ A base, Room 4 A → CallOk (gM K xs) ⟨Prg_, w, K, mg, base, A⟩ f_apply := fun A base r => ⟨_, fd_apply, _, 4, O_apply base, r, He.glo_ok X G (c.t.d.fact 29 (f := .glo "apply") rfl), F_apply.kp, FunD.bindsN F_apply fun _ _ _ _ _ _ us hl => match us, hl with | [_, _], _ => rfl⟩
  obtain ⟨fd_placed, F_placed⟩ := c.t.d.def_ 30 (d := ⟨("placed", none), "placed", "placed", defArgs s_placed, defBody s_placed, defScope s_placed, [], []⟩) rfl
  have O_placed : ∀ base, FnOk Prg_ w K mg base (L2.CX Prg_ w) 1 _ fd_placed ["others", "index", "value"] (spM (gM K xs) K f_placed) := fun base => fn_ok (g := gM K xs) F_placed (scope_ok t_placed) rfl c_placed fre fun A r => by
    simp only [b_placed, okSts, okSt, okMk, okE, okEs, okSrc, and_true, true_and, implies_true]
    try ((repeat' (first | with_reducible refine And.intro ?_ ?_ | with_reducible intro _)) <;> (first | trivial))
  have C_placed : ∀ A base, Room 1 A → CallOk (gM K xs) ⟨Prg_, w, K, mg, base, A⟩ f_placed := fun A base r => ⟨_, fd_placed, _, 1, O_placed base, r, He.glo_ok X G (c.t.d.fact 30 (f := .glo "placed") rfl), F_placed.kp, FunD.bindsN F_placed fun _ _ _ _ _ _ us hl => match us, hl with | [_, _, _], _ => rfl⟩
  obtain ⟨fd_differences, F_differences⟩ := c.t.d.def_ 31 (d := ⟨("differences", none), "differences", "differences", defArgs s_differences, defBody s_differences, defScope s_differences, [], []⟩) rfl
  have O_differences : ∀ base, FnOk Prg_ w K mg base (L2.CX Prg_ w) 1 _ fd_differences ["numbers"] (spM (gM K xs) K f_differences) := fun base => fn_ok (g := gM K xs) F_differences (scope_ok t_differences) rfl c_differences fre fun A r => by
    simp only [b_differences, l_differences_1, okSts, okSt, okMk, okE, okEs, okSrc, and_true, true_and, implies_true]
    try ((repeat' (first | with_reducible refine And.intro ?_ ?_ | with_reducible intro _)) <;> (first | trivial))
  have C_differences : ∀ A base, Room 1 A → CallOk (gM K xs) ⟨Prg_, w, K, mg, base, A⟩ f_differences := fun A base r => ⟨_, fd_differences, _, 1, O_differences base, r, He.glo_ok X G (c.t.d.fact 31 (f := .glo "differences") rfl), F_differences.kp, FunD.bindsN F_differences fun _ _ _ _ _ _ us hl => match us, hl with | [_], _ => rfl⟩
  obtain ⟨fd_sequence_guess, F_sequence_guess⟩ := c.t.d.def_ 32 (d := ⟨("sequence_guess", none), "sequence_guess", "sequence_guess", defArgs s_sequence_guess, defBody s_sequence_guess, defScope s_sequence_guess, [], []⟩) rfl
  have O_sequence_guess : ∀ base, FnOk Prg_ w K mg base (L2.CX Prg_ w) 1 _ fd_sequence_guess ["name", "index", "others", "result"] (spM (gM K xs) K f_sequence_guess) := fun base => fn_ok (g := gM K xs) F_sequence_guess (scope_ok t_sequence_guess) rfl c_sequence_guess fre fun A r => by
    simp only [b_sequence_guess, okSts, okSt, okMk, okE, okEs, okSrc, and_true, true_and, implies_true]
    try ((repeat' (first | with_reducible refine And.intro ?_ ?_ | with_reducible intro _)) <;> (first | trivial))
  have C_sequence_guess : ∀ A base, Room 1 A → CallOk (gM K xs) ⟨Prg_, w, K, mg, base, A⟩ f_sequence_guess := fun A base r => ⟨_, fd_sequence_guess, _, 1, O_sequence_guess base, r, He.glo_ok X G (c.t.d.fact 32 (f := .glo "sequence_guess") rfl), F_sequence_guess.kp, FunD.bindsN F_sequence_guess fun _ _ _ _ _ _ us hl => match us, hl with | [_, _, _, _], _ => rfl⟩
  obtain ⟨fd_number_guess, F_number_guess⟩ := c.t.d.def_ 33 (d := ⟨("number_guess", none), "number_guess", "number_guess", defArgs s_number_guess, defBody s_number_guess, defScope s_number_guess, [], []⟩) rfl
  have O_number_guess : ∀ base, FnOk Prg_ w K mg base (L2.CX Prg_ w) 1 _ fd_number_guess ["name", "index", "others", "result"] (spM (gM K xs) K f_number_guess) := fun base => fn_ok (g := gM K xs) F_number_guess (scope_ok t_number_guess) rfl c_number_guess fre fun A r => by
    simp only [b_number_guess, okSts, okSt, okMk, okE, okEs, okSrc, and_true, true_and, implies_true]
    try ((repeat' (first | with_reducible refine And.intro ?_ ?_ | with_reducible intro _)) <;> (first | trivial))
  have C_number_guess : ∀ A base, Room 1 A → CallOk (gM K xs) ⟨Prg_, w, K, mg, base, A⟩ f_number_guess := fun A base r => ⟨_, fd_number_guess, _, 1, O_number_guess base, r, He.glo_ok X G (c.t.d.fact 33 (f := .glo "number_guess") rfl), F_number_guess.kp, FunD.bindsN F_number_guess fun _ _ _ _ _ _ us hl => match us, hl with | [_, _, _, _], _ => rfl⟩
  obtain ⟨fd_single_guess, F_single_guess⟩ := c.t.d.def_ 34 (d := ⟨("single_guess", none), "single_guess", "single_guess", defArgs s_single_guess, defBody s_single_guess, defScope s_single_guess, [], []⟩) rfl
  have O_single_guess : ∀ base, FnOk Prg_ w K mg base (L2.CX Prg_ w) 5 _ fd_single_guess ["name", "others", "result"] (spM (gM K xs) K f_single_guess) := fun base => fn_ok (g := gM K xs) F_single_guess (scope_ok t_single_guess) rfl c_single_guess fre fun A r => by
    simp only [b_single_guess, e_single_guess_1, okSts, okSt, okMk, okE, okEs, okSrc, and_true, true_and, implies_true]
    try ((repeat' (first | with_reducible refine And.intro ?_ ?_ | with_reducible intro _)) <;> (first | trivial | exact C_differences _ _ (r.mono (by decide)) | exact C_apply _ _ (r.mono (by decide))))
  have C_single_guess : ∀ A base, Room 5 A → CallOk (gM K xs) ⟨Prg_, w, K, mg, base, A⟩ f_single_guess := fun A base r => ⟨_, fd_single_guess, _, 5, O_single_guess base, r, He.glo_ok X G (c.t.d.fact 34 (f := .glo "single_guess") rfl), F_single_guess.kp, FunD.bindsN F_single_guess fun _ _ _ _ _ _ us hl => match us, hl with | [_, _, _], _ => rfl⟩
  obtain ⟨fd_guess, F_guess⟩ := c.t.d.def_ 35 (d := ⟨("guess", none), "guess", "guess", defArgs s_guess, defBody s_guess, defScope s_guess, [], []⟩) rfl
  have O_guess : ∀ base, FnOk Prg_ w K mg base (L2.CX Prg_ w) 6 _ fd_guess ["name", "index", "others", "result"] (spM (gM K xs) K f_guess) := fun base => fn_ok (g := gM K xs) F_guess (scope_ok t_guess) rfl c_guess fre fun A r => by
    simp only [b_guess, okSts, okSt, okMk, okE, okEs, okSrc, and_true, true_and, implies_true]
    try ((repeat' (first | with_reducible refine And.intro ?_ ?_ | with_reducible intro _)) <;> (first | trivial | exact C_number_guess _ _ (r.mono (by decide)) | exact C_sequence_guess _ _ (r.mono (by decide)) | exact C_single_guess _ _ (r.mono (by decide))))
  have C_guess : ∀ A base, Room 6 A → CallOk (gM K xs) ⟨Prg_, w, K, mg, base, A⟩ f_guess := fun A base r => ⟨_, fd_guess, _, 6, O_guess base, r, He.glo_ok X G (c.t.d.fact 35 (f := .glo "guess") rfl), F_guess.kp, FunD.bindsN F_guess fun _ _ _ _ _ _ us hl => match us, hl with | [_, _, _, _], _ => rfl⟩
  obtain ⟨fd_solutions, F_solutions⟩ := c.t.d.def_ 36 (d := ⟨("solutions", none), "solutions", "solutions", defArgs s_solutions, defBody s_solutions, defScope s_solutions, [], []⟩) rfl
  have O_solutions : ∀ base, FnOk Prg_ w K mg base (L2.CX Prg_ w) 7 _ fd_solutions ["name", "index", "others", "result"] (spM (gM K xs) K f_solutions) := fun base => fn_ok (g := gM K xs) F_solutions (scope_ok t_solutions) rfl c_solutions fre fun A r => by
    simp only [b_solutions, e_solutions_1, e_solutions_2, e_solutions_3, e_solutions_4, okSts, okSt, okMk, okE, okEs, okSrc, and_true, true_and, implies_true]
    try ((repeat' (first | with_reducible refine And.intro ?_ ?_ | with_reducible intro _)) <;> (first | trivial | exact C_argument_kinds _ _ (r.mono (by decide)) | exact C_guess _ _ (r.mono (by decide)) | exact C_is_value _ _ (r.mono (by decide)) | exact C_apply _ _ (r.mono (by decide)) | exact C_placed _ _ (r.mono (by decide))))
  have C_solutions : ∀ A base, Room 7 A → CallOk (gM K xs) ⟨Prg_, w, K, mg, base, A⟩ f_solutions := fun A base r => ⟨_, fd_solutions, _, 7, O_solutions base, r, He.glo_ok X G (c.t.d.fact 36 (f := .glo "solutions") rfl), F_solutions.kp, FunD.bindsN F_solutions fun _ _ _ _ _ _ us hl => match us, hl with | [_, _, _, _], _ => rfl⟩
  obtain ⟨fd__law_mix, F__law_mix⟩ := c.t.d.def_ 37 (d := ⟨("_law_mix", none), "_law_mix", "_law_mix", defArgs s__law_mix, defBody s__law_mix, defScope s__law_mix, [], []⟩) rfl
  have O__law_mix : ∀ base, FnOk Prg_ w K mg base (L2.CX Prg_ w) 1 _ fd__law_mix ["_law_cell"] (spM (gM K xs) K f__law_mix) := fun base => fn_ok (g := gM K xs) F__law_mix (scope_ok t__law_mix) rfl c__law_mix fre fun A r => by
    simp only [b__law_mix, okSts, okSt, okMk, okE, okEs, okSrc, and_true, true_and, implies_true]
    try ((repeat' (first | with_reducible refine And.intro ?_ ?_ | with_reducible intro _)) <;> (first | trivial))
  have C__law_mix : ∀ A base, Room 1 A → CallOk (gM K xs) ⟨Prg_, w, K, mg, base, A⟩ f__law_mix := fun A base r => ⟨_, fd__law_mix, _, 1, O__law_mix base, r, He.glo_ok X G (c.t.d.fact 37 (f := .glo "_law_mix") rfl), F__law_mix.kp, FunD.bindsN F__law_mix fun _ _ _ _ _ _ us hl => match us, hl with | [_], _ => rfl⟩
  obtain ⟨fd__law_number, F__law_number⟩ := c.t.d.def_ 38 (d := ⟨("_law_number", none), "_law_number", "_law_number", defArgs s__law_number, defBody s__law_number, defScope s__law_number, [], []⟩) rfl
  have O__law_number : ∀ base, FnOk Prg_ w K mg base (L2.CX Prg_ w) 2 _ fd__law_number ["_law_cell"] (spM (gM K xs) K f__law_number) := fun base => fn_ok (g := gM K xs) F__law_number (scope_ok t__law_number) rfl c__law_number fre fun A r => by
    simp only [b__law_number, okSts, okSt, okMk, okE, okEs, okSrc, and_true, true_and, implies_true]
    try ((repeat' (first | with_reducible refine And.intro ?_ ?_ | with_reducible intro _)) <;> (first | trivial | exact C__law_mix _ _ (r.mono (by decide))))
  have C__law_number : ∀ A base, Room 2 A → CallOk (gM K xs) ⟨Prg_, w, K, mg, base, A⟩ f__law_number := fun A base r => ⟨_, fd__law_number, _, 2, O__law_number base, r, He.glo_ok X G (c.t.d.fact 38 (f := .glo "_law_number") rfl), F__law_number.kp, FunD.bindsN F__law_number fun _ _ _ _ _ _ us hl => match us, hl with | [_], _ => rfl⟩
  obtain ⟨fd__law_state, F__law_state⟩ := c.t.d.def_ 39 (d := ⟨("_law_state", none), "_law_state", "_law_state", defArgs s__law_state, defBody s__law_state, defScope s__law_state, [], []⟩) rfl
  have O__law_state : ∀ base, FnOk Prg_ w K mg base (L2.CX Prg_ w) 1 _ fd__law_state ["_law_script"] (spM (gM K xs) K f__law_state) := fun base => fn_ok (g := gM K xs) F__law_state (scope_ok t__law_state) rfl c__law_state fre fun A r => by
    simp only [b__law_state, okSts, okSt, okMk, okE, okEs, okSrc, and_true, true_and, implies_true]
    try ((repeat' (first | with_reducible refine And.intro ?_ ?_ | with_reducible intro _)) <;> (first | trivial))
  have C__law_state : ∀ A base, Room 1 A → CallOk (gM K xs) ⟨Prg_, w, K, mg, base, A⟩ f__law_state := fun A base r => ⟨_, fd__law_state, _, 1, O__law_state base, r, He.glo_ok X G (c.t.d.fact 39 (f := .glo "_law_state") rfl), F__law_state.kp, FunD.bindsN F__law_state fun _ _ _ _ _ _ us hl => match us, hl with | [_], _ => rfl⟩
  obtain ⟨fd__law_draw, F__law_draw⟩ := c.t.d.def_ 40 (d := ⟨("_law_draw", none), "_law_draw", "_law_draw", defArgs s__law_draw, defBody s__law_draw, defScope s__law_draw, [], []⟩) rfl
  have O__law_draw : ∀ base, FnOk Prg_ w K mg base (L2.CX Prg_ w) 3 _ fd__law_draw ["_law_state_here", "_law_many"] (spM (gM K xs) K f__law_draw) := fun base => fn_ok (g := gM K xs) F__law_draw (scope_ok t__law_draw) rfl c__law_draw fre fun A r => by
    simp only [b__law_draw, okSts, okSt, okMk, okE, okEs, okSrc, and_true, true_and, implies_true]
    try ((repeat' (first | with_reducible refine And.intro ?_ ?_ | with_reducible intro _)) <;> (first | trivial | exact C__law_number _ _ (r.mono (by decide))))
  have C__law_draw : ∀ A base, Room 3 A → CallOk (gM K xs) ⟨Prg_, w, K, mg, base, A⟩ f__law_draw := fun A base r => ⟨_, fd__law_draw, _, 3, O__law_draw base, r, He.glo_ok X G (c.t.d.fact 40 (f := .glo "_law_draw") rfl), F__law_draw.kp, FunD.bindsN F__law_draw fun _ _ _ _ _ _ us hl => match us, hl with | [_, _], _ => rfl⟩
  obtain ⟨fd__law_clip, F__law_clip⟩ := c.t.d.def_ 41 (d := ⟨("_law_clip", none), "_law_clip", "_law_clip", defArgs s__law_clip, defBody s__law_clip, defScope s__law_clip, [], []⟩) rfl
  have O__law_clip : ∀ base, FnOk Prg_ w K mg base (L2.CX Prg_ w) 1 _ fd__law_clip ["_law_value"] (spM (gM K xs) K f__law_clip) := fun base => fn_ok (g := gM K xs) F__law_clip (scope_ok t__law_clip) rfl c__law_clip fre fun A r => by
    simp only [b__law_clip, okSts, okSt, okMk, okE, okEs, okSrc, and_true, true_and, implies_true]
    try ((repeat' (first | with_reducible refine And.intro ?_ ?_ | with_reducible intro _)) <;> (first | trivial))
  have C__law_clip : ∀ A base, Room 1 A → CallOk (gM K xs) ⟨Prg_, w, K, mg, base, A⟩ f__law_clip := fun A base r => ⟨_, fd__law_clip, _, 1, O__law_clip base, r, He.glo_ok X G (c.t.d.fact 41 (f := .glo "_law_clip") rfl), F__law_clip.kp, FunD.bindsN F__law_clip fun _ _ _ _ _ _ us hl => match us, hl with | [_], _ => rfl⟩
  obtain ⟨fd__law_kind, F__law_kind⟩ := c.t.d.def_ 42 (d := ⟨("_law_kind", none), "_law_kind", "_law_kind", defArgs s__law_kind, defBody s__law_kind, defScope s__law_kind, [], []⟩) rfl
  have O__law_kind : ∀ base, FnOk Prg_ w K mg base (L2.CX Prg_ w) 1 _ fd__law_kind ["_law_value"] (spM (gM K xs) K f__law_kind) := fun base => fn_ok (g := gM K xs) F__law_kind (scope_ok t__law_kind) rfl c__law_kind fre fun A r => by
    simp only [b__law_kind, okSts, okSt, okMk, okE, okEs, okSrc, and_true, true_and, implies_true]
    try ((repeat' (first | with_reducible refine And.intro ?_ ?_ | with_reducible intro _)) <;> (first | trivial))
  have C__law_kind : ∀ A base, Room 1 A → CallOk (gM K xs) ⟨Prg_, w, K, mg, base, A⟩ f__law_kind := fun A base r => ⟨_, fd__law_kind, _, 1, O__law_kind base, r, He.glo_ok X G (c.t.d.fact 42 (f := .glo "_law_kind") rfl), F__law_kind.kp, FunD.bindsN F__law_kind fun _ _ _ _ _ _ us hl => match us, hl with | [_], _ => rfl⟩
  obtain ⟨fd__law_same, F__law_same⟩ := c.t.d.def_ 43 (d := ⟨("_law_same", none), "_law_same", "_law_same", defArgs s__law_same, defBody s__law_same, defScope s__law_same, [], []⟩) rfl
  have O__law_same : ∀ base, FnOk Prg_ w K mg base (L2.CX Prg_ w) 2 _ fd__law_same ["_law_first", "_law_second"] (spM (gM K xs) K f__law_same) := fun base => fn_ok (g := gM K xs) F__law_same (scope_ok t__law_same) rfl c__law_same fre fun A r => by
    simp only [b__law_same, okSts, okSt, okMk, okE, okEs, okSrc, and_true, true_and, implies_true]
    try ((repeat' (first | with_reducible refine And.intro ?_ ?_ | with_reducible intro _)) <;> (first | trivial | exact C__law_kind _ _ (r.mono (by decide))))
  have C__law_same : ∀ A base, Room 2 A → CallOk (gM K xs) ⟨Prg_, w, K, mg, base, A⟩ f__law_same := fun A base r => ⟨_, fd__law_same, _, 2, O__law_same base, r, He.glo_ok X G (c.t.d.fact 43 (f := .glo "_law_same") rfl), F__law_same.kp, FunD.bindsN F__law_same fun _ _ _ _ _ _ us hl => match us, hl with | [_, _], _ => rfl⟩
  obtain ⟨fd__law_digits, F__law_digits⟩ := c.t.d.def_ 44 (d := ⟨("_law_digits", none), "_law_digits", "_law_digits", defArgs s__law_digits, defBody s__law_digits, defScope s__law_digits, [], []⟩) rfl
  have O__law_digits : ∀ base, FnOk Prg_ w K mg base (L2.CX Prg_ w) 1 _ fd__law_digits ["_law_text"] (spM (gM K xs) K f__law_digits) := fun base => fn_ok (g := gM K xs) F__law_digits (scope_ok t__law_digits) rfl c__law_digits fre fun A r => by
    simp only [b__law_digits, l__law_digits_1, okSts, okSt, okMk, okE, okEs, okSrc, and_true, true_and, implies_true]
    try ((repeat' (first | with_reducible refine And.intro ?_ ?_ | with_reducible intro _)) <;> (first | trivial))
  have C__law_digits : ∀ A base, Room 1 A → CallOk (gM K xs) ⟨Prg_, w, K, mg, base, A⟩ f__law_digits := fun A base r => ⟨_, fd__law_digits, _, 1, O__law_digits base, r, He.glo_ok X G (c.t.d.fact 44 (f := .glo "_law_digits") rfl), F__law_digits.kp, FunD.bindsN F__law_digits fun _ _ _ _ _ _ us hl => match us, hl with | [_], _ => rfl⟩
  obtain ⟨fd__law_applied, F__law_applied⟩ := c.t.d.def_ 45 (d := ⟨("_law_applied", none), "_law_applied", "_law_applied", defArgs s__law_applied, defBody s__law_applied, defScope s__law_applied, [], []⟩) rfl
  have O__law_applied : ∀ base, FnOk Prg_ w K mg base (L2.CX Prg_ w) 2 _ fd__law_applied ["_law_name", "_law_given"] (spM (gM K xs) K f__law_applied) := fun base => fn_ok (g := gM K xs) F__law_applied (scope_ok t__law_applied) rfl c__law_applied fre fun A r => by
    simp only [b__law_applied, e__law_applied_1, e__law_applied_2, e__law_applied_3, e__law_applied_4, okSts, okSt, okMk, okE, okEs, okSrc, and_true, true_and, implies_true]
    try ((repeat' (first | with_reducible refine And.intro ?_ ?_ | with_reducible intro _)) <;> (first | trivial | exact C__law_digits _ _ (r.mono (by decide)) | exact C__law_clip _ _ (r.mono (by decide))))
  have C__law_applied : ∀ A base, Room 2 A → CallOk (gM K xs) ⟨Prg_, w, K, mg, base, A⟩ f__law_applied := fun A base r => ⟨_, fd__law_applied, _, 2, O__law_applied base, r, He.glo_ok X G (c.t.d.fact 45 (f := .glo "_law_applied") rfl), F__law_applied.kp, FunD.bindsN F__law_applied fun _ _ _ _ _ _ us hl => match us, hl with | [_, _], _ => rfl⟩
  obtain ⟨fd__law_kinds, F__law_kinds⟩ := c.t.d.def_ 46 (d := ⟨("_law_kinds", none), "_law_kinds", "_law_kinds", defArgs s__law_kinds, defBody s__law_kinds, defScope s__law_kinds, [], []⟩) rfl
  have O__law_kinds : ∀ base, FnOk Prg_ w K mg base (L2.CX Prg_ w) 1 _ fd__law_kinds ["_law_name"] (spM (gM K xs) K f__law_kinds) := fun base => fn_ok (g := gM K xs) F__law_kinds (scope_ok t__law_kinds) rfl c__law_kinds fre fun A r => by
    simp only [b__law_kinds, okSts, okSt, okMk, okE, okEs, okSrc, and_true, true_and, implies_true]
    try ((repeat' (first | with_reducible refine And.intro ?_ ?_ | with_reducible intro _)) <;> (first | trivial))
  have C__law_kinds : ∀ A base, Room 1 A → CallOk (gM K xs) ⟨Prg_, w, K, mg, base, A⟩ f__law_kinds := fun A base r => ⟨_, fd__law_kinds, _, 1, O__law_kinds base, r, He.glo_ok X G (c.t.d.fact 46 (f := .glo "_law_kinds") rfl), F__law_kinds.kp, FunD.bindsN F__law_kinds fun _ _ _ _ _ _ us hl => match us, hl with | [_], _ => rfl⟩
  obtain ⟨fd__law_long, F__law_long⟩ := c.t.d.def_ 47 (d := ⟨("_law_long", none), "_law_long", "_law_long", defArgs s__law_long, defBody s__law_long, defScope s__law_long, [], []⟩) rfl
  have O__law_long : ∀ n base, FnOk Prg_ w K mg base (L2.CX Prg_ w) (4 + n) (He.fAd K ("_law_long", none)) fd__law_long ["_law_state_here", "_law_kind_here"] (spM (gM K xs) K (f__law_long n)) := fun n => by
    induction n with
    | zero => exact fun base => fn_bad (fun _ => rfl) rfl
    | succ n ih =>
      intro base
      rw [fe__law_long]
      refine fn_ok (g := gM K xs) F__law_long (scope_ok t__law_long) rfl (c__law_long _) fre fun A r => ?_
      have S : CallOk (gM K xs) ⟨Prg_, w, K, mg, base, A⟩ (f__law_long n) := ⟨_, fd__law_long, _, 4 + n, ih base, r, He.glo_ok X G (c.t.d.fact 47 (f := .glo "_law_long") rfl), F__law_long.kp, FunD.bindsN F__law_long fun _ _ _ _ _ _ us hl => match us, hl with | [_, _], _ => rfl⟩
      simp only [b__law_long, e__law_long_1, e__law_long_2, okSts, okSt, okMk, okE, okEs, okSrc, and_true, true_and, implies_true]
      try ((repeat' (first | with_reducible refine And.intro ?_ ?_ | with_reducible intro _)) <;> (first | trivial | exact C__law_draw _ _ (r.mono (by exact Nat.le_trans (by decide) (Nat.le_add_right 4 n))) | exact S))
  have C__law_long : ∀ A base, Room 49 A → CallOk (gM K xs) ⟨Prg_, w, K, mg, base, A⟩ (f__law_long 45) := fun A base r => ⟨_, fd__law_long, _, 49, O__law_long 45 base, r, He.glo_ok X G (c.t.d.fact 47 (f := .glo "_law_long") rfl), F__law_long.kp, FunD.bindsN F__law_long fun _ _ _ _ _ _ us hl => match us, hl with | [_, _], _ => rfl⟩
  obtain ⟨fd__law_changed, F__law_changed⟩ := c.t.d.def_ 48 (d := ⟨("_law_changed", none), "_law_changed", "_law_changed", defArgs s__law_changed, defBody s__law_changed, defScope s__law_changed, [], []⟩) rfl
  have O__law_changed : ∀ base, FnOk Prg_ w K mg base (L2.CX Prg_ w) 4 _ fd__law_changed ["_law_state_here", "_law_value"] (spM (gM K xs) K f__law_changed) := fun base => fn_ok (g := gM K xs) F__law_changed (scope_ok t__law_changed) rfl c__law_changed fre fun A r => by
    simp only [b__law_changed, okSts, okSt, okMk, okE, okEs, okSrc, and_true, true_and, implies_true]
    try ((repeat' (first | with_reducible refine And.intro ?_ ?_ | with_reducible intro _)) <;> (first | trivial | exact C__law_draw _ _ (r.mono (by decide))))
  have C__law_changed : ∀ A base, Room 4 A → CallOk (gM K xs) ⟨Prg_, w, K, mg, base, A⟩ f__law_changed := fun A base r => ⟨_, fd__law_changed, _, 4, O__law_changed base, r, He.glo_ok X G (c.t.d.fact 48 (f := .glo "_law_changed") rfl), F__law_changed.kp, FunD.bindsN F__law_changed fun _ _ _ _ _ _ us hl => match us, hl with | [_, _], _ => rfl⟩
  obtain ⟨fd__law_is_solution, F__law_is_solution⟩ := c.t.d.def_ 49 (d := ⟨("_law_is_solution", none), "_law_is_solution", "_law_is_solution", defArgs s__law_is_solution, defBody s__law_is_solution, defScope s__law_is_solution, [], []⟩) rfl
  have O__law_is_solution : ∀ base, FnOk Prg_ w K mg base (L2.CX Prg_ w) 3 _ fd__law_is_solution ["_law_name", "_law_index", "_law_others", "_law_result", "_law_value"] (spM (gM K xs) K f__law_is_solution) := fun base => fn_ok (g := gM K xs) F__law_is_solution (scope_ok t__law_is_solution) rfl c__law_is_solution fre fun A r => by
    simp only [b__law_is_solution, okSts, okSt, okMk, okE, okEs, okSrc, and_true, true_and, implies_true]
    try ((repeat' (first | with_reducible refine And.intro ?_ ?_ | with_reducible intro _)) <;> (first | trivial | exact C__law_same _ _ (r.mono (by decide)) | exact C__law_applied _ _ (r.mono (by decide)) | exact C__law_kind _ _ (r.mono (by decide)) | exact C__law_kinds _ _ (r.mono (by decide)) | exact C__law_clip _ _ (r.mono (by decide))))
  have C__law_is_solution : ∀ A base, Room 3 A → CallOk (gM K xs) ⟨Prg_, w, K, mg, base, A⟩ f__law_is_solution := fun A base r => ⟨_, fd__law_is_solution, _, 3, O__law_is_solution base, r, He.glo_ok X G (c.t.d.fact 49 (f := .glo "_law_is_solution") rfl), F__law_is_solution.kp, FunD.bindsN F__law_is_solution fun _ _ _ _ _ _ us hl => match us, hl with | [_, _, _, _, _], _ => rfl⟩
  obtain ⟨fd__law_told, F__law_told⟩ := c.t.d.def_ 50 (d := ⟨("_law_told", none), "_law_told", "_law_told", defArgs s__law_told, defBody s__law_told, defScope s__law_told, [], []⟩) rfl
  have O__law_told : ∀ base, FnOk Prg_ w K mg base (L2.CX Prg_ w) 50 _ fd__law_told ["_law_state_here", "_law_name"] (spM (gM K xs) K f__law_told) := fun base => fn_ok (g := gM K xs) F__law_told (scope_ok t__law_told) rfl c__law_told fre fun A r => by
    simp only [b__law_told, e__law_told_1, l__law_told_2, okSts, okSt, okMk, okE, okEs, okSrc, and_true, true_and, implies_true]
    try ((repeat' (first | with_reducible refine And.intro ?_ ?_ | with_reducible intro _)) <;> (first | trivial | exact C__law_kinds _ _ (r.mono (by decide)) | exact C__law_applied _ _ (r.mono (by decide)) | exact C__law_draw _ _ (r.mono (by decide)) | exact C_solutions _ _ (r.mono (by decide)) | exact C__law_is_solution _ _ (r.mono (by decide)) | exact C__law_long _ _ (r.mono (by decide)) | exact C__law_changed _ _ (r.mono (by decide)) | exact C__law_same _ _ (r.mono (by decide))))
  have C__law_told : ∀ A base, Room 50 A → CallOk (gM K xs) ⟨Prg_, w, K, mg, base, A⟩ f__law_told := fun A base r => ⟨_, fd__law_told, _, 50, O__law_told base, r, He.glo_ok X G (c.t.d.fact 50 (f := .glo "_law_told") rfl), F__law_told.kp, FunD.bindsN F__law_told fun _ _ _ _ _ _ us hl => match us, hl with | [_, _], _ => rfl⟩
  obtain ⟨fd_law, F_law⟩ := c.t.d.def_ 51 (d := ⟨("law", none), "law", "law", defArgs s_law, defBody s_law, defScope s_law, [], []⟩) rfl
  have O_law : ∀ base, FnOk Prg_ w K mg base (L2.CX Prg_ w) 51 _ fd_law ["_law_script"] (spM (gM K xs) K f_law) := fun base => fn_ok (g := gM K xs) F_law (scope_ok t_law) rfl c_law fre fun A r => by
    simp only [b_law, l_law_1, okSts, okSt, okMk, okE, okEs, okSrc, and_true, true_and, implies_true]
    try ((repeat' (first | with_reducible refine And.intro ?_ ?_ | with_reducible intro _)) <;> (first | trivial | exact C__law_state _ _ (r.mono (by decide)) | exact C__law_told _ _ (r.mono (by decide)) | exact C__law_draw _ _ (r.mono (by decide))))
  have C_law : ∀ A base, Room 51 A → CallOk (gM K xs) ⟨Prg_, w, K, mg, base, A⟩ f_law := fun A base r => ⟨_, fd_law, _, 51, O_law base, r, He.glo_ok X G (c.t.d.fact 51 (f := .glo "law") rfl), F_law.kp, FunD.bindsN F_law fun _ _ _ _ _ _ us hl => match us, hl with | [_], _ => rfl⟩
  have e := hfa.symm.trans (He.glo_ok X G (c.t.d.fact 51 (f := .glo "law") rfl))
  cases e
  exact ⟨fd_law, fun s v => FunD.bindsA (ps := ["_law_script"]) F_law (fun _ _ _ _ _ _ us hl => match us, hl with | [_], _ => rfl) s [v] rfl, fun base => (O_law base).mono (by decide)⟩
end K55

open PySem PySem.W PySem.Calls PyProof.Rows
theorem PySem.Challenge.cw_leastfit_k55_solutions_of_sequences_holds : PySem.Challenge.rw_leastfit_k55_solutions_of_sequences.Holds := by
  w_on; o_law
  refine HandSHeadRun.head_any (r := OpenLaw.row PySem.Challenge.rw_leastfit_k55_solutions_of_sequences) (q := view (OpenLaw.row PySem.Challenge.rw_leastfit_k55_solutions_of_sequences).prog [67]) (H := K55.hk) (ob := K55.ob) (M := 20000) (loose := K55.loose) (d := HandSHeadRun.topDef (OpenLaw.row PySem.Challenge.rw_leastfit_k55_solutions_of_sequences).prog 67) (kwd := []) K55.ob_eq
    (by kernel_rfl) (fun s => by kernel_rfl) K55.run (by kernel_rfl) (by kernel_rfl) (by kernel_rfl) (by rfl) (by first | assumption | decide +kernel) (by decide +kernel) ⟨rfl, rfl, rfl, rfl, rfl, by decide +kernel⟩ ?hw ?hc
  case hw => w_witness2
  case hc =>
    refine L2.walk_ofE (l := PySem.Challenge.rw_leastfit_k55_solutions_of_sequences) (n := 63) (k := 200) (x := "_law_script") (CX := Mini.CXany) rfl (by decide) (by kernel_rfl) ⟨rfl, by decide, by decide⟩ ?F (fun _ _ _ _ z => Mini.any_none z)
    intro w mg fa h Y G hmg0
    obtain ⟨K, KX, c⟩ := Y
    have hmg : mg ("law" : PySem.Str) = some (.ref fa) := by
      have e : (HandSHeadRun.topDef (OpenLaw.row PySem.Challenge.rw_leastfit_k55_solutions_of_sequences).prog 67).name = ("law" : PySem.Str) := by kernel_rfl
      rw [← e]
      exact hmg0
    obtain ⟨fd, hb, hF⟩ := K55.facts (w := w) KX G hmg c
    exact ⟨K, fd, _, KX, hb, fun H a ns hl _ hS => Mini.law_sp rfl rfl hl hS (K55.law_true ns hl), fun base _ _ => Mini.FnOk.any (hF base)⟩
end
