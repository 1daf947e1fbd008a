import PyProof.Rows.All
import Wide.All
import OpenK.AllK
import Wide.FinOn
import HandS.ForMost
import HandS.ForExc
import HandS.Flow
import HandS.IsInst
import HandS.TupAny
import HandS.TupLe
import HandS.Wide
import HandS.Style
import HandS.Deep
import HandS.SetFor
import HandS.Strs
import HandS.SetKeys
import KE.DataMinMax
import PyProof.EnumMake
import KE.GoesMore
import HandS.Comp
import HandS.ExcOwn
import HandS.WordsExc
import PySem.Challenge.RW_shutways_k34_rank_papers_looked_at
set_option Elab.async false
set_option linter.all false
set_option maxRecDepth 100000
/-! A1: an abstract world over the hand layer: values with their tuples inside (AV), mutable objects by address (AO, AH), and how they stand in the tracked heap (Rep, Rel). -/
namespace Aw
open PySem PySem.Spec PyProof.Rows L2

inductive AV where
  | non | bl (b : Bool) | int (i : Int) | str (x : Str) | ref (a : Addr) | raw (v : V) | tup (xs : List AV)
  /-- a list that nobody changes (the script), by its items -/
  | fl (xs : List AV)
  /-- a tuple of the module's own -/
  | st (xs : List AV)

/-- a list that stands still -/
def SqF (K : PySem.W.Frag) (H : Hp) (a : Addr) (vs : List V) : Prop := (∃ o, H a = some (.frz o (.lst vs))) ∨ SqL K (fun _ => none) a vs
mutual
def Rep (K : PySem.W.Frag) (H : Hp) : AV → V → Prop
  | .non, v => v = .non
  | .bl b, v => v = .bl b
  | .int i, v => v = .int i
  | .str x, v => v = .str x
  | .ref a, v => v = .ref a
  | .raw u, v => v = u
  | .tup xs, v => ∃ a vs, v = .ref a ∧ H a = some (.tup vs) ∧ Reps K H xs vs
  | .st xs, v => ∃ a vs, v = .ref a ∧ SqT K (fun _ => none) a vs ∧ Reps K H xs vs
  | .fl xs, v => ∃ a vs, v = .ref a ∧ SqF K H a vs ∧ Reps K H xs vs
def Reps (K : PySem.W.Frag) (H : Hp) : List AV → List V → Prop
  | [], vs => vs = []
  | x :: xs, vs => ∃ v r, vs = v :: r ∧ Rep K H x v ∧ Reps K H xs r
end

/-- what never changes stays -/
structure Keep (H H' : Hp) : Prop where
  tup : ∀ b xs, H b = some (.tup xs) → H' b = some (.tup xs)
  frz : ∀ b o u, H b = some (.frz o u) → H' b = some (.frz o u)
theorem Keep.refl (H : Hp) : Keep H H := ⟨fun _ _ h => h, fun _ _ _ h => h⟩
theorem Keep.trans {H H1 H2 : Hp} (a : Keep H H1) (b : Keep H1 H2) : Keep H H2 := ⟨fun c xs h => b.tup c xs (a.tup c xs h), fun c o u h => b.frz c o u (a.frz c o u h)⟩
theorem Keep.new {H : Hp} {p : Addr} {o : HO} (h : H p = none) : Keep H (upd H p o) :=
  ⟨fun b xs e => by rw [upd_ne (ne_of_none e h)]; exact e, fun b ob u e => by rw [upd_ne (ne_of_none e h)]; exact e⟩
theorem mut_ne {H : Hp} {p b : Addr} {u : HO} (m : Mut (H p)) (e : H b = some u) (n : ¬ Mut (some u)) : b ≠ p := fun z => by
  subst z; rw [e] at m; exact n m
theorem Keep.put {H : Hp} {p : Addr} {o : HO} (m : Mut (H p)) : Keep H (upd H p o) :=
  ⟨fun b xs e => by rw [upd_ne (mut_ne m e fun z => z)]; exact e, fun b ob u e => by rw [upd_ne (mut_ne m e fun z => z)]; exact e⟩
section
variable {K : PySem.W.Frag} {H H' : Hp}
theorem Keep.sqT (k : Keep H H') {a : Addr} {xs : List V} (h : SqT K H a xs) : SqT K H' a xs := by
  rcases h with (h | ⟨o, h⟩) | h
  · exact .inl (.inl (k.tup _ _ h))
  · exact .inl (.inr ⟨o, k.frz _ _ _ h⟩)
  · exact .inr h
theorem Keep.sqF (k : Keep H H') {a : Addr} {xs : List V} (h : SqF K H a xs) : SqF K H' a xs := by
  rcases h with ⟨o, h⟩ | h
  · exact .inl ⟨o, k.frz _ _ _ h⟩
  · exact .inr h
theorem SqF.sqL {a : Addr} {xs : List V} (h : SqF K H a xs) : SqL K H a xs := by
  rcases h with ⟨o, h⟩ | (h | ⟨o, h⟩) | h
  · exact .inl (.inr ⟨o, h⟩)
  · cases h
  · cases h
  · exact .inr h
theorem SqF.of {a : Addr} {xs : List V} (h : SqL K H a xs) (h' : ∀ ys, H a ≠ some (.lst ys)) : SqF K H a xs := by
  rcases h with (h | ⟨o, h⟩) | h
  · exact (h' _ h).elim
  · exact .inl ⟨o, h⟩
  · exact .inr (.inr h)
mutual
theorem Rep.keep (k : Keep H H') : ∀ {x : AV} {v : V}, Rep K H x v → Rep K H' x v
  | .non, _, h => h
  | .bl _, _, h => h
  | .int _, _, h => h
  | .str _, _, h => h
  | .ref _, _, h => h
  | .raw _, _, h => h
  | .tup xs, v, ⟨a, vs, e, t, r⟩ => ⟨a, vs, e, k.tup _ _ t, Reps.keep k r⟩
  | .st xs, v, ⟨a, vs, e, t, r⟩ => ⟨a, vs, e, t, Reps.keep k r⟩
  | .fl xs, v, ⟨a, vs, e, t, r⟩ => ⟨a, vs, e, k.sqF t, Reps.keep k r⟩
theorem Reps.keep (k : Keep H H') : ∀ {xs : List AV} {vs : List V}, Reps K H xs vs → Reps K H' xs vs
  | [], _, h => h
  | _ :: _, _, ⟨v, r, e, h1, h2⟩ => ⟨v, r, e, Rep.keep k h1, Reps.keep k h2⟩
end
theorem Reps.length : ∀ {xs : List AV} {vs : List V}, Reps K H xs vs → vs.length = xs.length
  | [], _, h => by cases (show _ = [] from h); rfl
  | _ :: _, _, ⟨v, r, e, _, h2⟩ => by subst e; simp [Reps.length h2]
theorem Reps.get : ∀ {xs : List AV} {vs : List V}, Reps K H xs vs → ∀ {i : Nat} {x : AV}, xs[i]? = some x → ∃ v, vs[i]? = some v ∧ Rep K H x v
  | [], _, h, i, x, e => by simp at e
  | _ :: _, _, ⟨v, r, q, h1, h2⟩, 0, x, e => by subst q; simp at e; subst e; exact ⟨v, rfl, h1⟩
  | _ :: _, _, ⟨v, r, q, h1, h2⟩, i + 1, x, e => by
    subst q
    obtain ⟨w, a, b⟩ := Reps.get h2 (i := i) (x := x) (by simpa using e)
    exact ⟨w, by simpa using a, b⟩
theorem Reps.getV : ∀ {xs : List AV} {vs : List V}, Reps K H xs vs → ∀ {i : Nat} {v : V}, vs[i]? = some v → ∃ x, xs[i]? = some x ∧ Rep K H x v
  | [], _, h, i, x, e => by cases (show _ = [] from h); simp at e
  | y :: _, _, ⟨v, r, q, h1, h2⟩, 0, x, e => by subst q; simp at e; subst e; exact ⟨y, rfl, h1⟩
  | _ :: _, _, ⟨v, r, q, h1, h2⟩, i + 1, x, e => by
    subst q
    obtain ⟨w, a, b⟩ := Reps.getV h2 (i := i) (v := x) (by simpa using e)
    exact ⟨w, by simpa using a, b⟩
theorem Reps.append : ∀ {xs : List AV} {vs : List V} {ys : List AV} {ws : List V}, Reps K H xs vs → Reps K H ys ws → Reps K H (xs ++ ys) (vs ++ ws)
  | [], _, _, _, h, h' => by cases (show _ = [] from h); exact h'
  | _ :: _, _, _, _, ⟨v, r, e, h1, h2⟩, h' => by subst e; exact ⟨v, _, rfl, h1, Reps.append h2 h'⟩
theorem Reps.one {x : AV} {v : V} (h : Rep K H x v) : Reps K H [x] [v] := ⟨v, [], rfl, h, rfl⟩
theorem Reps.nil_ : Reps K H [] [] := rfl
theorem Reps.cons_ {x : AV} {v : V} {xs : List AV} {vs : List V} (h : Rep K H x v) (h' : Reps K H xs vs) : Reps K H (x :: xs) (v :: vs) := ⟨v, vs, rfl, h, h'⟩
theorem Reps.set : ∀ {xs : List AV} {vs : List V} (i : Nat) {x : AV} {v : V}, Reps K H xs vs → Rep K H x v → Reps K H (xs.set i x) (vs.set i v)
  | [], _, i, _, _, h, _ => by cases (show _ = [] from h); exact rfl
  | _ :: _, _, 0, _, _, ⟨v, r, e, h1, h2⟩, h' => by subst e; exact ⟨_, _, rfl, h', h2⟩
  | _ :: _, _, i + 1, _, _, ⟨v, r, e, h1, h2⟩, h' => by subst e; exact ⟨_, _, rfl, h1, Reps.set i h2 h'⟩
theorem Reps.take : ∀ {xs : List AV} {vs : List V} (n : Nat), Reps K H xs vs → Reps K H (xs.take n) (vs.take n)
  | _, _, 0, h => by rw [List.take_zero, List.take_zero]; exact rfl
  | [], _, _ + 1, h => by cases (show _ = [] from h); exact rfl
  | _ :: _, _, n + 1, ⟨v, r, e, h1, h2⟩ => by subst e; exact ⟨_, _, rfl, h1, Reps.take n h2⟩
theorem Reps.drop : ∀ {xs : List AV} {vs : List V} (n : Nat), Reps K H xs vs → Reps K H (xs.drop n) (vs.drop n)
  | _, _, 0, h => h
  | [], _, _ + 1, h => by cases (show _ = [] from h); exact rfl
  | _ :: _, _, n + 1, ⟨v, r, e, h1, h2⟩ => by subst e; exact Reps.drop n h2
theorem Reps.eraseIdx : ∀ {xs : List AV} {vs : List V} (n : Nat), Reps K H xs vs → Reps K H (xs.eraseIdx n) (vs.eraseIdx n)
  | [], _, _, h => by cases (show _ = [] from h); exact rfl
  | _ :: _, _, 0, ⟨v, r, e, h1, h2⟩ => by subst e; exact h2
  | _ :: _, _, n + 1, ⟨v, r, e, h1, h2⟩ => by subst e; exact ⟨_, _, rfl, h1, Reps.eraseIdx n h2⟩
theorem Reps.dropLast : ∀ {xs : List AV} {vs : List V}, Reps K H xs vs → Reps K H xs.dropLast vs.dropLast
  | [], _, h => by cases (show _ = [] from h); exact rfl
  | [_], _, ⟨v, r, e, h1, h2⟩ => by subst e; cases (show r = [] from h2); exact rfl
  | _ :: _ :: _, _, ⟨v, r, e, h1, h2⟩ => by
    subst e
    obtain ⟨v2, r2, e2, h3, h4⟩ := h2
    subst e2
    exact ⟨v, _, rfl, h1, Reps.dropLast ⟨v2, r2, rfl, h3, h4⟩⟩
theorem Reps.reverse : ∀ {xs : List AV} {vs : List V}, Reps K H xs vs → Reps K H xs.reverse vs.reverse
  | [], _, h => by cases (show _ = [] from h); exact rfl
  | _ :: _, _, ⟨v, r, e, h1, h2⟩ => by subst e; rw [List.reverse_cons, List.reverse_cons]; exact (Reps.reverse h2).append (Reps.one h1)
theorem Reps.ints : ∀ (ns : List Int), Reps K H (ns.map AV.int) (ns.map V.int)
  | [] => rfl
  | n :: ns => ⟨_, _, rfl, rfl, Reps.ints ns⟩
theorem Reps.ints_inv : ∀ {ns : List Int} {vs : List V}, Reps K H (ns.map AV.int) vs → vs = ns.map V.int
  | [], _, h => h
  | n :: ns, _, ⟨v, r, e, h1, h2⟩ => by
    subst e
    cases (show v = V.int n from h1)
    rw [Reps.ints_inv h2]
    rfl
theorem Reps.strs_inv : ∀ {ns : List Str} {vs : List V}, Reps K H (ns.map AV.str) vs → vs = ns.map V.str
  | [], _, h => h
  | n :: ns, _, ⟨v, r, e, h1, h2⟩ => by
    subst e
    cases (show v = V.str n from h1)
    rw [Reps.strs_inv h2]
    rfl
end

/-- an object made of others, told by what it holds: its footprint is F -/
structure Box where
  rel : PySem.W.Frag → Hp → Addr → (Addr → Prop) → Prop
  loc : ∀ {K H H' a F}, rel K H a F → (∀ c, F c → H' c = H c) → Keep H H' → rel K H' a F
  foot : ∀ {K H a F c}, rel K H a F → F c → Mut (H c)

inductive AO where
  | lst (xs : List AV)
  | dK (kvs : List (Key × AV))
  | dT (kvs : List (List Key × AV))
  | ins (C : Addr) (fs : List (Str × AV))
  | hraw (o : HO)
  | box (B : Box)

abbrev AH := Addr → Option AO
def put (A : AH) (p : Addr) (o : AO) : AH := fun b => if b = p then some o else A b
theorem put_same {A : AH} {p : Addr} {o : AO} : put A p o p = some o := if_pos rfl
theorem put_ne {A : AH} {p b : Addr} {o : AO} (h : b ≠ p) : put A p o b = A b := if_neg h
theorem put_put {A : AH} {p : Addr} {o u : AO} : put (put A p o) p u = put A p u := by
  funext b; unfold put; split <;> rfl
theorem put_comm {A : AH} {p q : Addr} {o u : AO} (h : p ≠ q) : put (put A p o) q u = put (put A q u) p o := by
  funext b; unfold put
  by_cases e : b = q
  · subst e
    rw [if_pos rfl, if_neg (fun z => h z.symm), if_pos rfl]
  · rw [if_neg e]
    by_cases e' : b = p
    · rw [if_pos e', if_pos e']
    · rw [if_neg e', if_neg e', if_neg e]
theorem ane {A : AH} {a b : Addr} {o : AO} (h : A a = some o) (h' : A b = none) : a ≠ b := fun z => by subst z; rw [h] at h'; cases h'
theorem ane' {A : AH} {a b : Addr} {o : AO} (h : A a = some o) (h' : A b = none) : b ≠ a := (ane h h').symm

abbrev RepKs {κ : Type} (K : PySem.W.Frag) (H : Hp) : List (κ × AV) → List (κ × V) → Prop := Paired fun p q => p.1 = q.1 ∧ Rep K H p.2 q.2
theorem RepKs.keep {κ : Type} {K : PySem.W.Frag} {H H' : Hp} (k : Keep H H') {a : List (κ × AV)} {b : List (κ × V)} (h : RepKs K H a b) : RepKs K H' a b :=
  Paired.mapP h fun _ _ z => ⟨z.1, z.2.keep k⟩

/-- how an object stands at a, F its footprint -/
def OR (K : PySem.W.Frag) (H : Hp) (a : Addr) (F : Addr → Prop) : AO → Prop
  | .lst xs => (∀ c, F c ↔ c = a) ∧ ∃ vs, H a = some (.lst vs) ∧ Reps K H xs vs
  | .dK kvs => (∀ c, F c ↔ c = a) ∧ ∃ ws, H a = some (.dK ws) ∧ RepKs K H kvs ws
  | .dT kvs => (∀ c, F c ↔ c = a) ∧ ∃ ws, H a = some (.dT ws) ∧ RepKs K H kvs ws
  | .ins C fs => (∀ c, F c ↔ c = a) ∧ ∃ dx ws, H a = some (.ins C dx ws) ∧ RepKs K H fs ws
  | .hraw o => (∀ c, F c ↔ c = a) ∧ H a = some o ∧ Mut (some o)
  | .box B => F a ∧ B.rel K H a F

theorem OR.mut {K : PySem.W.Frag} {H : Hp} {a : Addr} {F : Addr → Prop} {o : AO} (h : OR K H a F o) {c : Addr} (hc : F c) : Mut (H c) := by
  cases o with
  | lst xs => obtain ⟨f, vs, e, _⟩ := h; cases (f c).mp hc; rw [e]; trivial
  | dK xs => obtain ⟨f, vs, e, _⟩ := h; cases (f c).mp hc; rw [e]; trivial
  | dT xs => obtain ⟨f, vs, e, _⟩ := h; cases (f c).mp hc; rw [e]; trivial
  | ins C fs => obtain ⟨f, dx, vs, e, _⟩ := h; cases (f c).mp hc; rw [e]; trivial
  | hraw o => obtain ⟨f, e, m⟩ := h; cases (f c).mp hc; rw [e]; exact m
  | box B => exact B.foot h.2 hc
theorem OR.self {K : PySem.W.Frag} {H : Hp} {a : Addr} {F : Addr → Prop} {o : AO} (h : OR K H a F o) : F a := by
  cases o with
  | lst xs => exact (h.1 a).mpr rfl
  | dK xs => exact (h.1 a).mpr rfl
  | dT xs => exact (h.1 a).mpr rfl
  | ins C fs => exact (h.1 a).mpr rfl
  | hraw o => exact (h.1 a).mpr rfl
  | box B => exact h.1
theorem OR.stay {K : PySem.W.Frag} {H H' : Hp} {a : Addr} {F : Addr → Prop} {o : AO} (h : OR K H a F o) (k : Keep H H') (s : ∀ c, F c → H' c = H c) : OR K H' a F o := by
  cases o with
  | lst xs => obtain ⟨f, vs, e, r⟩ := h; exact ⟨f, vs, (s a ((f a).mpr rfl)).trans e, r.keep k⟩
  | dK xs => obtain ⟨f, vs, e, r⟩ := h; exact ⟨f, vs, (s a ((f a).mpr rfl)).trans e, r.keep k⟩
  | dT xs => obtain ⟨f, vs, e, r⟩ := h; exact ⟨f, vs, (s a ((f a).mpr rfl)).trans e, r.keep k⟩
  | ins C fs => obtain ⟨f, dx, vs, e, r⟩ := h; exact ⟨f, dx, vs, (s a ((f a).mpr rfl)).trans e, r.keep k⟩
  | hraw o => obtain ⟨f, e, m⟩ := h; exact ⟨f, (s a ((f a).mpr rfl)).trans e, m⟩
  | box B => exact ⟨h.1, B.loc h.2 s k⟩

/-- the abstract heap stands in the tracked one -/
def Rel (K : PySem.W.Frag) (A : AH) (H : Hp) : Prop :=
  ∃ F : Addr → Addr → Prop, (∀ a o, A a = some o → OR K H a (F a) o) ∧ ∀ a b o u c, A a = some o → A b = some u → F a c → F b c → a = b

section
variable {K : PySem.W.Frag} {A A' : AH} {H H' : Hp} {p : Addr} {o o' : AO}
theorem Rel.less (r : Rel K A H) (h : ∀ a o, A' a = some o → A a = some o) : Rel K A' H := by
  obtain ⟨F, r1, r2⟩ := r
  exact ⟨F, fun a o e => r1 a o (h a o e), fun a b o u c e1 e2 => r2 a b o u c (h a o e1) (h b u e2)⟩
/-- simple objects: the footprint is the address -/
def simple : AO → Bool
  | .box _ => false
  | _ => true
theorem OR.simple_iff {K : PySem.W.Frag} {H : Hp} {a : Addr} {F : Addr → Prop} {o : AO} (h : OR K H a F o) (s : simple o = true) : ∀ c, F c ↔ c = a := by
  cases o <;> first | exact h.1 | cases s
/-- a simple object is written -/
theorem Rel.write {ho : HO} (r : Rel K A H) (e : A p = some o) (s : simple o = true) (new : ∀ F : Addr → Prop, (∀ c, F c ↔ c = p) → Keep H (upd H p ho) → OR K (upd H p ho) p F o') : Rel K (put A p o') (upd H p ho) := by
  obtain ⟨F, r1, r2⟩ := r
  have hp := (r1 p o e).simple_iff s
  have k : Keep H (upd H p ho) := Keep.put ((r1 p o e).mut ((hp p).mpr rfl))
  refine ⟨F, fun a u h => ?_, fun a b u v c h1 h2 f1 f2 => ?_⟩
  · by_cases ha : a = p
    · subst ha
      rw [put_same] at h; cases h
      exact new (F a) hp k
    · rw [put_ne ha] at h
      refine (r1 a u h).stay k fun c hc => upd_ne fun z => ha ?_
      subst z
      exact r2 a c u o c h e hc ((hp c).mpr rfl)
  · by_cases ha : a = p
    · by_cases hb : b = p
      · rw [ha, hb]
      · rw [put_ne hb] at h2
        subst ha
        exact r2 a b o v c e h2 f1 f2
    · rw [put_ne ha] at h1
      by_cases hb : b = p
      · subst hb
        exact r2 a b u o c h1 e f1 f2
      · rw [put_ne hb] at h2
        exact r2 a b u v c h1 h2 f1 f2
/-- a new object is laid -/
theorem Rel.new {ho : HO} (r : Rel K A H) (e : H p = none) (new : ∀ F : Addr → Prop, (∀ c, F c ↔ c = p) → Keep H (upd H p ho) → OR K (upd H p ho) p F o') : Rel K (put A p o') (upd H p ho) := by
  obtain ⟨F, r1, r2⟩ := r
  have k : Keep H (upd H p ho) := Keep.new e
  have nf : ∀ a u c, A a = some u → F a c → c ≠ p := fun a u c h f z => by
    have m := (r1 a u h).mut f
    rw [z, e] at m
    exact m
  refine ⟨fun a c => if a = p then c = p else F a c, fun a u h => ?_, fun a b u v c h1 h2 f1 f2 => ?_⟩
  · by_cases ha : a = p
    · subst ha
      rw [put_same] at h; cases h
      exact new _ (fun c => by simp) k
    · rw [put_ne ha] at h
      have q := (r1 a u h).stay k fun c hc => upd_ne (nf a u c h hc)
      have eF : (fun c => if a = p then c = p else F a c) = F a := by funext c; rw [if_neg ha]
      show OR K (upd H p ho) a (fun c => if a = p then c = p else F a c) u
      rw [eF]; exact q
  · by_cases ha : a = p
    · by_cases hb : b = p
      · rw [ha, hb]
      · rw [put_ne hb] at h2
        rw [if_pos ha] at f1
        rw [if_neg hb] at f2
        exact absurd f1 (nf b v c h2 f2)
    · rw [put_ne ha] at h1
      rw [if_neg ha] at f1
      by_cases hb : b = p
      · rw [if_pos hb] at f2
        exact absurd f2 (nf a u c h1 f1)
      · rw [put_ne hb] at h2
        rw [if_neg hb] at f2
        exact r2 a b u v c h1 h2 f1 f2
/-- only what never changes and the footprints matter -/
theorem Rel.stay (r : Rel K A H) (k : Keep H H') (s : ∀ b, Mut (H b) → H' b = H b) : Rel K A H' := by
  obtain ⟨F, r1, r2⟩ := r
  exact ⟨F, fun a o e => (r1 a o e).stay k fun c hc => s c ((r1 a o e).mut hc), r2⟩
/-- something else is laid -/
theorem Rel.lay {ho : HO} (r : Rel K A H) (e : H p = none) : Rel K A (upd H p ho) :=
  r.stay (Keep.new e) fun b m => upd_ne fun z => by rw [z, e] at m; exact m
theorem Rel.at (r : Rel K A H) (e : A p = some o) : ∃ F, OR K H p F o := by
  obtain ⟨F, r1, _⟩ := r
  exact ⟨F p, r1 p o e⟩
theorem Rel.gone (r : Rel K A H) (e : H p = none) : A p = none := by
  cases q : A p with
  | none => rfl
  | some o =>
    obtain ⟨F, h⟩ := r.at q
    have m := h.mut h.self
    rw [e] at m
    exact m.elim
end
end Aw

set_option Elab.async false
set_option linter.all false
set_option maxRecDepth 100000
set_option maxHeartbeats 100000
/-! A2: what code does in the abstract world: judgements over the hand layer's, and the rules for names, operators, tests, calls, blocks. -/
namespace Aw
open PySem PySem.Spec PyProof.Rows L2

abbrev ASt := List (Option AV)
abbrev AK := AV → AH → Prop
abbrev AX := Value → ASt → AH → Prop
abbrev ATE := AX → ASt → AH → AK → Prop
abbrev ATT := AX → ASt → AH → (Bool → AH → Prop) → Prop
abbrev ATA := AX → ASt → AH → (List AV → AH → Prop) → Prop
abbrev ATG := AX → AV → ASt → AH → (ASt → AH → Prop) → Prop
structure AEnds where
  nx : ASt → AH → Prop
  rt : AK
  bk : ASt → AH → Prop := fun _ _ => False
  ct : ASt → AH → Prop := fun _ _ => False
abbrev ATS := AX → AEnds → ASt → AH → Prop

def RepO (K : PySem.W.Frag) (H : Hp) : Option AV → Option V → Prop
  | none, _ => True
  | some x, some v => Rep K H x v
  | some _, none => False
abbrev Sts (K : PySem.W.Frag) (H : Hp) : ASt → L2.St → Prop := Paired (RepO K H)
section
variable {K : PySem.W.Frag} {H H' : Hp} {a : ASt} {σ : L2.St}
theorem RepO.keep (k : Keep H H') : ∀ {x : Option AV} {v : Option V}, RepO K H x v → RepO K H' x v
  | none, _, _ => trivial
  | some _, some _, h => Rep.keep k h
  | some _, none, h => h
theorem Sts.keep (s : Sts K H a σ) (k : Keep H H') : Sts K H' a σ := Paired.mapP s fun _ _ z => z.keep k
theorem Sts.get (s : Sts K H a σ) {i : Nat} {x : AV} (e : a[i]? = some (some x)) : ∃ v, σ[i]? = some (some v) ∧ Rep K H x v := by
  obtain ⟨b, e1, r⟩ := paired_get s e
  cases b with
  | none => exact r.elim
  | some v => exact ⟨v, e1, r⟩
theorem Paired.setP {α β : Type} {G : α → β → Prop} {x : α} {y : β} (r : G x y) : ∀ {l : List α} {m : List β} (i : Nat), Paired G l m → Paired G (l.set i x) (m.set i y)
  | _, _, _, .nil => .nil
  | _, _, 0, .cons _ t => .cons r t
  | _, _, i + 1, .cons q t => .cons q (Paired.setP r i t)
theorem Sts.set (s : Sts K H a σ) {x : AV} {v : V} (r : Rep K H x v) (i : Nat) : Sts K H (a.set i (some x)) (σ.set i (some v)) := Paired.setP (G := RepO K H) (x := some x) (y := some v) r i s
theorem Sts.unset (s : Sts K H a σ) (i : Nat) : Sts K H (a.set i none) (σ.set i none) := Paired.setP (G := RepO K H) (x := none) (y := none) trivial i s
end

structure ExOk (K : PySem.W.Frag) (W : WX) (e : AX) (H : Hp) : Prop where
  to : ∀ cls a' A' d σ' H', Rel K A' H' → Sts K H' a' σ' → Keep H H' → e cls a' A' → W cls d σ' H'
theorem ExOk.keep {K : PySem.W.Frag} {W : WX} {e : AX} {H H' : Hp} (x : ExOk K W e H) (k : Keep H H') : ExOk K W e H' := ⟨fun cls a' A' d σ' H'' r s k' q => x.to cls a' A' d σ' H'' r s (k.trans k') q⟩
theorem ExOk.no {K : PySem.W.Frag} {W : WX} {H : Hp} : ExOk K W (fun _ _ _ => False) H := ⟨fun _ _ _ _ _ _ _ _ _ q => q.elim⟩

/-- an abstract reading, as a reading of the layer -/
def Low (K : PySem.W.Frag) (W : WX) {α β : Type} (R : Hp → α → β → Prop) (T : AX → ASt → AH → (α → AH → Prop) → Prop) : L2.St → Hp → (β → Hp → Prop) → Prop := fun σ H Q =>
  ∃ a A k e, Rel K A H ∧ Sts K H a σ ∧ T e a A k ∧ (∀ v A' u H', Rel K A' H' → R H' v u → Keep H H' → k v A' → Q u H') ∧ ExOk K W e H
structure EndsOk (K : PySem.W.Frag) (D' : AEnds) (D : Ends) (H : Hp) : Prop where
  nx : ∀ a' A' σ' H', Rel K A' H' → Sts K H' a' σ' → Keep H H' → D'.nx a' A' → D.nx σ' H'
  rt : ∀ v A' u H', Rel K A' H' → Rep K H' v u → Keep H H' → D'.rt v A' → D.rt u H'
  bk : ∀ a' A' σ' H', Rel K A' H' → Sts K H' a' σ' → Keep H H' → D'.bk a' A' → D.bk σ' H'
  ct : ∀ a' A' σ' H', Rel K A' H' → Sts K H' a' σ' → Keep H H' → D'.ct a' A' → D.ct σ' H'
theorem EndsOk.keep {K : PySem.W.Frag} {D' : AEnds} {D : Ends} {H H' : Hp} (x : EndsOk K D' D H) (k : Keep H H') : EndsOk K D' D H' :=
  ⟨fun a A σ G r s k' q => x.nx a A σ G r s (k.trans k') q, fun v A u G r s k' q => x.rt v A u G r s (k.trans k') q, fun a A σ G r s k' q => x.bk a A σ G r s (k.trans k') q, fun a A σ G r s k' q => x.ct a A σ G r s (k.trans k') q⟩
def LowS (K : PySem.W.Frag) (W : WX) (T : ATS) : TS := fun D σ H => ∃ a A D' e, Rel K A H ∧ Sts K H a σ ∧ T e D' a A ∧ EndsOk K D' D H ∧ ExOk K W e H
def LowG (K : PySem.W.Frag) (W : WX) (T : ATG) : TG := fun v σ H Q => ∃ x a A k e, Rel K A H ∧ Sts K H a σ ∧ Rep K H x v ∧ T e x a A k ∧ (∀ a' A' σ' H', Rel K A' H' → Sts K H' a' σ' → Keep H H' → k a' A' → Q σ' H') ∧ ExOk K W e H

abbrev REq {α : Type} : Hp → α → α → Prop := fun _ x y => x = y
def Mid (K : PySem.W.Frag) {α β : Type} (R : Hp → α → β → Prop) (H : Hp) (k : α → AH → Prop) : β → Hp → Prop := fun u H1 => ∃ v A1, Rel K A1 H1 ∧ R H1 v u ∧ Keep H H1 ∧ k v A1
theorem Low.mid {K : PySem.W.Frag} {W : WX} {α β : Type} {R : Hp → α → β → Prop} {T : AX → ASt → AH → (α → AH → Prop) → Prop} {σ : L2.St} {H : Hp} {a : ASt} {A : AH} {k : α → AH → Prop} {e : AX} (r : Rel K A H) (s : Sts K H a σ) (t : T e a A k) (x : ExOk K W e H) :
    Low K W R T σ H (Mid K R H k) := ⟨a, A, k, e, r, s, t, fun v A' u H' r' p' k' q => ⟨v, A', r', p', k', q⟩, x⟩
/-! ### by the kind of a value -/
def onBl (P : Bool → Prop) (v : AV) : Prop := match v with
  | .bl b => P b
  | _ => False
def onRef (P : Addr → Prop) (v : AV) : Prop := match v with
  | .ref b => P b
  | _ => False
def onInt (P : Int → Prop) (v : AV) : Prop := match v with
  | .int b => P b
  | _ => False
def onStr (P : Str → Prop) (v : AV) : Prop := match v with
  | .str b => P b
  | _ => False
def onTup (P : List AV → Prop) (v : AV) : Prop := match v with
  | .tup b => P b
  | _ => False
theorem onBl_e {P : Bool → Prop} {v : AV} (h : onBl P v) : ∃ b, v = .bl b ∧ P b := by cases v <;> first | exact h.elim | exact ⟨_, rfl, h⟩
theorem onRef_e {P : Addr → Prop} {v : AV} (h : onRef P v) : ∃ b, v = .ref b ∧ P b := by cases v <;> first | exact h.elim | exact ⟨_, rfl, h⟩
theorem onInt_e {P : Int → Prop} {v : AV} (h : onInt P v) : ∃ b, v = .int b ∧ P b := by cases v <;> first | exact h.elim | exact ⟨_, rfl, h⟩
theorem onStr_e {P : Str → Prop} {v : AV} (h : onStr P v) : ∃ b, v = .str b ∧ P b := by cases v <;> first | exact h.elim | exact ⟨_, rfl, h⟩
theorem onTup_e {P : List AV → Prop} {v : AV} (h : onTup P v) : ∃ b, v = .tup b ∧ P b := by cases v <;> first | exact h.elim | exact ⟨_, rfl, h⟩
/-! ### the judgements -/
abbrev AE (X : Cx) (W : WX) (ex : Expr) (T : ATE) : Prop := PE X ex (Low X.K W (Rep X.K) T)
abbrev AT (X : Cx) (W : WX) (ex : Expr) (T : ATT) : Prop := PT X ex (Low X.K W REq T)
abbrev AW (X : Cx) (W : WX) (ex : Expr) (T : ATT) : Prop := PW X ex (Low X.K W REq T)
abbrev AA (X : Cx) (W : WX) (es : List Expr) (T : ATA) : Prop := PA X es (Low X.K W (Reps X.K) T)
abbrev AS (X : Cx) (W : WX) (st : Stmt) (T : ATS) : Prop := PS X st (LowS X.K W T)
abbrev ASs (X : Cx) (W : WX) (sts : List Stmt) (T : ATS) : Prop := PSs X sts (LowS X.K W T)
abbrev AG (X : Cx) (W : WX) (tg : Expr) (T : ATG) : Prop := PG X tg (LowG X.K W T)

section
variable {X : Cx} {W : WX} {ex a b c : Expr} {pos : Pos} {Ta Tb Tc : ATE} {tA tB' : ATT}
theorem pe_low {t t' : TE} (h : PE X ex t) (i : ∀ σ H Q, t' σ H Q → t σ H Q) : PE X ex t' := ⟨fun pins s σ H Q I q => h.run pins s σ H Q I (i σ H Q q)⟩
theorem pt_low {t t' : TT} (h : PT X ex t) (i : ∀ σ H Q, t' σ H Q → t σ H Q) : PT X ex t' := ⟨fun pins s σ H Q I q => h.run pins s σ H Q I (i σ H Q q)⟩
theorem pw_low {t t' : TT} (h : PW X ex t) (i : ∀ σ H Q, t' σ H Q → t σ H Q) : PW X ex t' := ⟨fun wh pins s σ H Q I q => h.run wh pins s σ H Q I (i σ H Q q)⟩
theorem pa_low {es : List Expr} {t t' : TA} (h : PA X es t) (i : ∀ σ H Q, t' σ H Q → t σ H Q) : PA X es t' := ⟨fun ps pins s σ H Q I q => h.run ps pins s σ H Q I (i σ H Q q)⟩
theorem ps_low {st : Stmt} {t t' : TS} (h : PS X st t) (i : ∀ D σ H, t' D σ H → t D σ H) : PS X st t' := ⟨fun pins s σ H D I q => h.run pins s σ H D I (i D σ H q)⟩
theorem pss_low {st : List Stmt} {t t' : TS} (h : PSs X st t) (i : ∀ D σ H, t' D σ H → t D σ H) : PSs X st t' := ⟨fun pins s σ H D I q => h.run pins s σ H D I (i D σ H q)⟩
theorem pg_low {t t' : TG} (h : PG X ex t) (i : ∀ v σ H Q, t' v σ H Q → t v σ H Q) : PG X ex t' := ⟨fun pins s σ H v u Q I r q => h.run pins s σ H v u Q I r (i v σ H Q q)⟩

/-! ### names, constants -/
def aVar (i : Nat) : ATE := fun _ a A k => match a[i]? with
  | some (some v) => k v A
  | _ => False
def aC (v : AV) : ATE := fun _ _ A k => k v A
theorem ae_pe_var {i : Nat} (h : PE X ex (tVar i)) : AE X W ex (aVar i) := pe_low h fun σ H Q ⟨a, A, k, e, r, s, t, c, x⟩ => by
  unfold aVar at t
  split at t
  · rename_i v q
    obtain ⟨u, e1, r1⟩ := s.get q
    exact ⟨u, e1, c v A u H r r1 (Keep.refl H) t⟩
  · exact t.elim
theorem av (i : Nat) {x : Str} {pos : Pos} (hN : X.N[i]? = some x := by rfl) (hv : Vis X.env.scope x := by first | exact Or.inl rfl | exact Or.inr (Or.inl rfl) | exact Or.inr (Or.inr rfl)) (hd : (x == ("__debug__" : Str)) = false := by decide)
    (hcd : (x == ("__classdict__" : Str)) = false := by decide) : AE X W (.Name x pos) (aVar i) := ae_pe_var (pe_var hN hv hd hcd)
theorem ae_const {v : V} {x : AV} (h : PE X ex (tC v)) (hr : ∀ H, Rep X.K H x v) : AE X W ex (aC x) := pe_low h fun σ H Q ⟨a, A, k, e, r, s, t, c, _⟩ => c x A v H r (hr H) (Keep.refl H) t
theorem ae_int {i : Int} {j} : AE X W (.Constant (.int i) j pos) (aC (.int i)) := ae_const pe_int fun _ => rfl
theorem ae_bl {i : Bool} {j} : AE X W (.Constant (.bool i) j pos) (aC (.bl i)) := ae_const pe_bl fun _ => rfl
theorem ae_non {j} : AE X W (.Constant .none j pos) (aC .non) := ae_const pe_non fun _ => rfl
theorem ae_str {x : Str} {j} : AE X W (.Constant (.str x) j pos) (aC (.str x)) := ae_const pe_str fun _ => rfl
theorem ae_glob {x : Str} {v : V} {u : Value} {y : AV} (hm : X.mg x = some u) (r : RelV v u) (hr : ∀ H, Rep X.K H y v) (hg : Gl X x := by rfl) (hd : (x == ("__debug__" : Str)) = false := by decide) : AE X W (.Name x pos) (aC y) := ae_const (pe_glob hg hm r hd) hr

/-! ### two values, one value -/
abbrev AR2 := AV → AV → AH → AK → Prop
abbrev AR1 := AV → AH → AK → Prop
abbrev ARn := List AV → AH → AK → Prop
def LowR (K : PySem.W.Frag) (R : AR2) : R2 := fun x y H Q => ∃ ax ay A k, Rel K A H ∧ Rep K H ax x ∧ Rep K H ay y ∧ R ax ay A k ∧ ∀ v A' u H', Rel K A' H' → Rep K H' v u → Keep H H' → k v A' → Q u H'
def Low1 (K : PySem.W.Frag) (R : AR1) : V → Hp → VK → Prop := fun x H Q => ∃ ax A k, Rel K A H ∧ Rep K H ax x ∧ R ax A k ∧ ∀ v A' u H', Rel K A' H' → Rep K H' v u → Keep H H' → k v A' → Q u H'
def LowC (K : PySem.W.Frag) (R : ARn) : List V → Hp → VK → Prop := fun xs H Q => ∃ ax A k, Rel K A H ∧ Reps K H ax xs ∧ R ax A k ∧ ∀ v A' u H', Rel K A' H' → Rep K H' v u → Keep H H' → k v A' → Q u H'
abbrev AOp (X : Cx) (f : Value → Value → Sem Value) (R : AR2) : Prop := OpR X f (LowR X.K R)
abbrev AUn (X : Cx) (f : Value → Sem Value) (R : AR1) : Prop := UnR X f (Low1 X.K R)
abbrev ACall (X : Cx) (f : Value) (R : ARn) : Prop := CallR X f (LowC X.K R)
theorem opR_low {f : Value → Value → Sem Value} {r r' : R2} (h : OpR X f r) (i : ∀ x y H Q, r' x y H Q → r x y H Q) : OpR X f r' := fun pins s σ H x y v u Q I rx ry q => h pins s σ H x y v u Q I rx ry (i x y H Q q)
theorem callR_low {f : Value} {r r' : List V → Hp → VK → Prop} (h : CallR X f r) (i : ∀ xs H Q, r' xs H Q → r xs H Q) : CallR X f r' := fun pins s σ H xs us Q I rx q => h pins s σ H xs us Q I rx (i xs H Q q)
def aOp (R : AR2) (Ta Tb : ATE) : ATE := fun e a A k => Ta e a A fun x A1 => Tb e a A1 fun y A2 => R x y A2 k
theorem low_op {R : AR2} {σ : L2.St} {H : Hp} {Q : VK} (h : Low X.K W (Rep X.K) (aOp R Ta Tb) σ H Q) : tOp (LowR X.K R) (Low X.K W (Rep X.K) Ta) (Low X.K W (Rep X.K) Tb) σ H Q := by
  obtain ⟨a, A, k, e, r, s, t, c, x⟩ := h
  refine ⟨a, A, _, e, r, s, t, fun x1 A1 u1 H1 r1 p1 k1 t1 => ?_, x⟩
  refine ⟨a, A1, _, e, r1, s.keep k1, t1, fun x2 A2 u2 H2 r2 p2 k2 t2 => ?_, x.keep k1⟩
  exact ⟨x1, x2, A2, k, r2, p1.keep k2, p2, t2, fun v A' u H' r' p' k' q => c v A' u H' r' p' ((k1.trans k2).trans k') q⟩
theorem ae_op {op : Operator} {R : AR2} (ho : AOp X (binaryOp op) R) (ha : AE X W a Ta) (hb : AE X W b Tb) : AE X W (.BinOp a op b pos) (aOp R Ta Tb) := pe_low (pe_op ho ha hb) fun _ _ _ h => low_op h
theorem ae_cmp {op : CmpOp} {R : AR2} (ho : AOp X (compareOp op) R) (ha : AE X W a Ta) (hb : AE X W b Tb) (hm : behindInMarks op b = false := by rfl) : AE X W (.Compare a [op] [b] pos) (aOp R Ta Tb) := pe_low (pe_cmpR ho ha hb hm) fun _ _ _ h => low_op h
def aUn (R : AR1) (Ta : ATE) : ATE := fun e a A k => Ta e a A fun x A1 => R x A1 k
theorem ae_un {op : UnaryOp} {R : AR1} (ho : AUn X (unaryOp op) R) (ha : AE X W a Ta) : AE X W (.UnaryOp op a pos) (aUn R Ta) := pe_low (pe_un ho ha) fun σ H Q ⟨a, A, k, e, r, s, t, c, x⟩ =>
  ⟨a, A, _, e, r, s, t, fun x1 A1 u1 H1 r1 p1 k1 t1 => ⟨x1, A1, k, r1, p1, t1, fun v A' u H' r' p' k' q => c v A' u H' r' p' (k1.trans k') q⟩, x⟩
/-- two comparisons -/
def aChain (R R' : AR2) (Ta Tb Tc : ATE) : ATE := fun e a A k => Ta e a A fun x A1 => Tb e a A1 fun y A2 => R x y A2 fun z A3 => onBl (fun b => if b = true then Tc e a A3 fun w A4 => R' y w A4 k else k (.bl false) A3) z
theorem ae_chain {op op' : CmpOp} {R R' : AR2} (ho : AOp X (compareOp op) R) (ho' : AOp X (compareOp op') R') (ha : AE X W a Ta) (hb : AE X W b Tb) (hc : AE X W c Tc) (hm : lastMarks [op, op'] [b, c] = false := by rfl) : AE X W (.Compare a [op, op'] [b, c] pos) (aChain R R' Ta Tb Tc) :=
  pe_low (pe_chain ho ho' ha hb hc hm) fun σ H Q ⟨a, A, k, e, r, s, t, cc, x⟩ => by
    refine ⟨a, A, _, e, r, s, t, fun x1 A1 u1 H1 r1 p1 k1 t1 => ?_, x⟩
    refine ⟨a, A1, _, e, r1, s.keep k1, t1, fun x2 A2 u2 H2 r2 p2 k2 t2 => ?_, x.keep k1⟩
    refine ⟨x1, x2, A2, _, r2, p1.keep k2, p2, t2, fun v A3 u H3 r3 p3 k3 q => ?_⟩
    obtain ⟨b, rfl, q'⟩ := onBl_e q
    cases b with
    | true =>
      refine ⟨true, p3, ?_⟩
      rw [if_pos rfl] at q' ⊢
      refine ⟨a, A3, _, e, r3, s.keep ((k1.trans k2).trans k3), q', fun x4 A4 u4 H4 r4 p4 k4 t4 => ?_, x.keep ((k1.trans k2).trans k3)⟩
      exact ⟨x2, x4, A4, k, r4, p2.keep (k3.trans k4), p4, t4, fun v A' u H' r' p' k' q => cc v A' u H' r' p' ((((k1.trans k2).trans k3).trans k4).trans k') q⟩
    | false =>
      refine ⟨false, p3, ?_⟩
      rw [if_neg (by decide)] at q' ⊢
      exact cc (.bl false) A3 (.bl false) H3 r3 rfl ((k1.trans k2).trans k3) q'

/-! ### truth -/
def aB (T : ATE) : ATT := fun e a A k => T e a A fun x A1 => onBl (fun b => k b A1) x
/-- an expression whose value is True or False, as a test -/
theorem at_val {ex : Expr} {T : ATE} (h : AE X W ex T) (he : ∀ whole, isTrue ex X.env whole = (do let v ← whole; standAt ex.pos; holding [v] (truthy v)) := by intro _; rfl) : AT X W ex (aB T) :=
  pt_low (pt_val h he) fun σ H Q ⟨a, A, k, e, r, s, t, c, x⟩ => ⟨a, A, _, e, r, s, t, fun x1 A1 u1 H1 r1 p1 k1 t1 => by
    obtain ⟨b, rfl, t2⟩ := onBl_e t1
    exact ⟨b, p1, c b A1 b H1 r1 rfl k1 t2⟩, x⟩
theorem at_cmp {op : CmpOp} {R : AR2} (ho : AOp X (compareOp op) R) (ha : AE X W a Ta) (hb : AE X W b Tb) (hm : behindInMarks op b = false := by rfl) : AT X W (.Compare a [op] [b] pos) (aB (aOp R Ta Tb)) :=
  pt_low (pt_cmpR ho ha hb hm) fun σ H Q ⟨a, A, k, e, r, s, t, c, x⟩ => by
    refine ⟨a, A, _, e, r, s, t, fun x1 A1 u1 H1 r1 p1 k1 t1 => ?_, x⟩
    refine ⟨a, A1, _, e, r1, s.keep k1, t1, fun x2 A2 u2 H2 r2 p2 k2 t2 => ?_, x.keep k1⟩
    refine ⟨x1, x2, A2, _, r2, p1.keep k2, p2, t2, fun v A' u H' r' p' k' q => ?_⟩
    obtain ⟨b, rfl, q'⟩ := onBl_e q
    exact ⟨b, p', c b A' b H' r' rfl ((k1.trans k2).trans k') q'⟩
theorem at_chain {op op' : CmpOp} {R R' : AR2} (ho : AOp X (compareOp op) R) (ho' : AOp X (compareOp op') R') (ha : AE X W a Ta) (hb : AE X W b Tb) (hc : AE X W c Tc) (hm : lastMarks [op, op'] [b, c] = false := by rfl) : AT X W (.Compare a [op, op'] [b, c] pos) (aB (aChain R R' Ta Tb Tc)) :=
  pt_low (pt_chain ho ho' ha hb hc hm) fun σ H Q ⟨a, A, k, e, r, s, t, cc, x⟩ => by
    refine ⟨a, A, _, e, r, s, t, fun x1 A1 u1 H1 r1 p1 k1 t1 => ?_, x⟩
    refine ⟨a, A1, _, e, r1, s.keep k1, t1, fun x2 A2 u2 H2 r2 p2 k2 t2 => ?_, x.keep k1⟩
    refine ⟨x1, x2, A2, _, r2, p1.keep k2, p2, t2, fun v A3 u H3 r3 p3 k3 q => ?_⟩
    obtain ⟨b, rfl, q'⟩ := onBl_e q
    cases b with
    | true =>
      refine ⟨true, p3, ?_⟩
      rw [if_pos rfl] at q' ⊢
      refine ⟨a, A3, _, e, r3, s.keep ((k1.trans k2).trans k3), q', fun x4 A4 u4 H4 r4 p4 k4 t4 => ?_, x.keep ((k1.trans k2).trans k3)⟩
      refine ⟨x2, x4, A4, _, r4, p2.keep (k3.trans k4), p4, t4, fun v A' u H' r' p' k' q => ?_⟩
      obtain ⟨b, rfl, q'⟩ := onBl_e q
      exact ⟨b, p', cc b A' b H' r' rfl ((((k1.trans k2).trans k3).trans k4).trans k') q'⟩
    | false =>
      refine ⟨false, p3, ?_⟩
      rw [if_neg (by decide)] at q' ⊢
      exact ⟨false, rfl, cc false A3 false H3 r3 rfl ((k1.trans k2).trans k3) q'⟩
def aAnd (t u : ATT) : ATT := fun e a A k => t e a A fun b A1 => if b = true then u e a A1 k else k false A1
def aOr (t u : ATT) : ATT := fun e a A k => t e a A fun b A1 => if b = true then k true A1 else u e a A1 k
def aNot (t : ATT) : ATT := fun e a A k => t e a A fun b A1 => k (!b) A1
theorem at_not (h : AT X W a tA) : AT X W (.UnaryOp .Not a pos) (aNot tA) := pt_low (pt_not h) fun σ H Q ⟨a, A, k, e, r, s, t, c, x⟩ =>
  ⟨a, A, _, e, r, s, t, fun b A1 b' H1 r1 p1 k1 t1 => c _ A1 _ H1 r1 (by rw [p1]) k1 t1, x⟩
variable {rest : List Expr}
theorem aw_and1 (h : AT X W a tA) : AW X W (.BoolOp .And [a] pos) tA := pw_low (pw_and1 h) fun _ _ _ q => q
theorem aw_or1 (h : AT X W a tA) : AW X W (.BoolOp .Or [a] pos) tA := pw_low (pw_or1 h) fun _ _ _ q => q
theorem aw_and (ha : AT X W a tA) (hb : AW X W (.BoolOp .And (b :: rest) pos) tB') : AW X W (.BoolOp .And (a :: b :: rest) pos) (aAnd tA tB') := pw_low (pw_and ha hb) fun σ H Q ⟨a, A, k, e, r, s, t, c, x⟩ => by
  refine ⟨a, A, _, e, r, s, t, fun b A1 b' H1 r1 p1 k1 t1 => ?_, x⟩
  obtain rfl : b = b' := p1
  cases b with
  | true => rw [if_pos rfl] at t1 ⊢; exact ⟨a, A1, k, e, r1, s.keep k1, t1, fun v A' u H' r' p' k' q => c v A' u H' r' p' (k1.trans k') q, x.keep k1⟩
  | false => rw [if_neg (by decide)] at t1 ⊢; exact c false A1 false H1 r1 rfl k1 t1
theorem aw_or (ha : AT X W a tA) (hb : AW X W (.BoolOp .Or (b :: rest) pos) tB') : AW X W (.BoolOp .Or (a :: b :: rest) pos) (aOr tA tB') := pw_low (pw_or ha hb) fun σ H Q ⟨a, A, k, e, r, s, t, c, x⟩ => by
  refine ⟨a, A, _, e, r, s, t, fun b A1 b' H1 r1 p1 k1 t1 => ?_, x⟩
  obtain rfl : b = b' := p1
  cases b with
  | true => rw [if_pos rfl] at t1 ⊢; exact c true A1 true H1 r1 rfl k1 t1
  | false => rw [if_neg (by decide)] at t1 ⊢; exact ⟨a, A1, k, e, r1, s.keep k1, t1, fun v A' u H' r' p' k' q => c v A' u H' r' p' (k1.trans k') q, x.keep k1⟩
theorem aw_at {ex : Expr} {T : ATT} (h : AW X W ex T) : AT X W ex T := h.pt
/-- and, or, not as values -/
def aAndV (Ta Tb : ATE) : ATE := fun e a A k => Ta e a A fun x A1 => onBl (fun b => if b = true then Tb e a A1 k else k (.bl false) A1) x
def aOrV (Ta Tb : ATE) : ATE := fun e a A k => Ta e a A fun x A1 => onBl (fun b => if b = true then k (.bl true) A1 else Tb e a A1 k) x
def aNotV (Ta : ATE) : ATE := fun e a A k => Ta e a A fun x A1 => onBl (fun b => k (.bl (!b)) A1) x
theorem ae_one {op} (h : AE X W a Ta) : AE X W (.BoolOp op [a] pos) Ta := pe_low (pe_one h) fun _ _ _ q => q
theorem ae_and (ha : AE X W a Ta) (hb : AE X W (.BoolOp .And (b :: rest) pos) Tb) : AE X W (.BoolOp .And (a :: b :: rest) pos) (aAndV Ta Tb) := pe_low (pe_and ha hb) fun σ H Q ⟨a, A, k, e, r, s, t, c, x⟩ => by
  refine ⟨a, A, _, e, r, s, t, fun v A1 u H1 r1 p1 k1 t1 => ?_, x⟩
  obtain ⟨b, rfl, t2⟩ := onBl_e t1
  cases b with
  | true => rw [if_pos rfl] at t2; exact ⟨true, p1, by rw [if_pos rfl]; exact ⟨a, A1, k, e, r1, s.keep k1, t2, fun v A' u H' r' p' k' q => c v A' u H' r' p' (k1.trans k') q, x.keep k1⟩⟩
  | false => rw [if_neg (by decide)] at t2; exact ⟨false, p1, by rw [if_neg (by decide)]; exact c (.bl false) A1 (.bl false) H1 r1 rfl k1 t2⟩
theorem ae_or (ha : AE X W a Ta) (hb : AE X W (.BoolOp .Or (b :: rest) pos) Tb) : AE X W (.BoolOp .Or (a :: b :: rest) pos) (aOrV Ta Tb) := pe_low (pe_or ha hb) fun σ H Q ⟨a, A, k, e, r, s, t, c, x⟩ => by
  refine ⟨a, A, _, e, r, s, t, fun v A1 u H1 r1 p1 k1 t1 => ?_, x⟩
  obtain ⟨b, rfl, t2⟩ := onBl_e t1
  cases b with
  | false => rw [if_neg (by decide)] at t2; exact ⟨false, p1, by rw [if_neg (by decide)]; exact ⟨a, A1, k, e, r1, s.keep k1, t2, fun v A' u H' r' p' k' q => c v A' u H' r' p' (k1.trans k') q, x.keep k1⟩⟩
  | true => rw [if_pos rfl] at t2; exact ⟨true, p1, by rw [if_pos rfl]; exact c (.bl true) A1 (.bl true) H1 r1 rfl k1 t2⟩
theorem ae_not (ha : AE X W a Ta) : AE X W (.UnaryOp .Not a pos) (aNotV Ta) := pe_low (pe_not ha) fun σ H Q ⟨a, A, k, e, r, s, t, c, x⟩ => by
  refine ⟨a, A, _, e, r, s, t, fun v A1 u H1 r1 p1 k1 t1 => ?_, x⟩
  obtain ⟨b, rfl, t2⟩ := onBl_e t1
  exact ⟨b, p1, c (.bl !b) A1 (.bl !b) H1 r1 rfl k1 t2⟩
def aIfE (t : ATT) (Ta Tb : ATE) : ATE := fun e a A k => t e a A fun b A1 => if b = true then Ta e a A1 k else Tb e a A1 k
theorem ae_ifExp (hc : AT X W c tA) (ha : AE X W a Ta) (hb : AE X W b Tb) : AE X W (.IfExp c a b pos) (aIfE tA Ta Tb) := pe_low (pe_ifExp hc ha hb) fun σ H Q ⟨a, A, k, e, r, s, t, c, x⟩ => by
  refine ⟨a, A, _, e, r, s, t, fun b A1 b' H1 r1 p1 k1 t1 => ?_, x⟩
  obtain rfl : b = b' := p1
  cases b with
  | true => rw [if_pos rfl] at t1 ⊢; exact ⟨a, A1, k, e, r1, s.keep k1, t1, fun v A' u H' r' p' k' q => c v A' u H' r' p' (k1.trans k') q, x.keep k1⟩
  | false => rw [if_neg (by decide)] at t1 ⊢; exact ⟨a, A1, k, e, r1, s.keep k1, t1, fun v A' u H' r' p' k' q => c v A' u H' r' p' (k1.trans k') q, x.keep k1⟩

/-! ### argument lists, tuples, lists -/
def aNil : ATA := fun _ _ A k => k [] A
def aCons (T : ATE) (Tr : ATA) : ATA := fun e a A k => T e a A fun x A1 => Tr e a A1 fun xs A2 => k (x :: xs) A2
theorem aa_nil : AA X W [] aNil := pa_low pa_nil fun σ H Q ⟨a, A, k, e, r, s, t, c, x⟩ => c [] A [] H r rfl (Keep.refl H) t
theorem aa_cons {es : List Expr} {Tr : ATA} (ha : AE X W a Ta) (hr : AA X W es Tr) (hs : starEach (a :: es) X.env = (false, eval a X.env) :: starEach es X.env := by rfl) : AA X W (a :: es) (aCons Ta Tr) :=
  pa_low (pa_cons ha hr hs) fun σ H Q ⟨a, A, k, e, r, s, t, c, x⟩ => by
    refine ⟨a, A, _, e, r, s, t, fun x1 A1 u1 H1 r1 p1 k1 t1 => ?_, x⟩
    refine ⟨a, A1, _, e, r1, s.keep k1, t1, fun x2 A2 u2 H2 r2 p2 k2 t2 => ?_, x.keep k1⟩
    exact c _ A2 _ H2 r2 (Reps.cons_ (p1.keep k2) p2) (k1.trans k2) t2
def aTup (T : ATA) : ATE := fun e a A k => T e a A fun xs A1 => xs.length ≤ sizeLine ∧ k (.tup xs) A1
def aLst (T : ATA) : ATE := fun e a A k => T e a A fun xs A1 => xs.length ≤ sizeLine ∧ ∀ p, A1 p = none → k (.ref p) (put A1 p (.lst xs))
theorem Rel.newL {K : PySem.W.Frag} {A : AH} {H : Hp} {p : Addr} {xs : List AV} {vs : List V} (r : Rel K A H) (e : H p = none) (q : Reps K H xs vs) : Rel K (put A p (.lst xs)) (upd H p (.lst vs)) :=
  r.new e fun _ f k => ⟨f, vs, upd_same, q.keep k⟩
theorem ae_tup {es : List Expr} {T : ATA} {x1} (h : AA X W es T) : AE X W (.Tuple es x1 pos) (aTup T) := pe_low (pe_tup h) fun σ H Q ⟨a, A, k, e, r, s, t, c, x⟩ => by
  refine ⟨a, A, _, e, r, s, t, fun xs A1 us H1 r1 p1 k1 t1 => ?_, x⟩
  refine ⟨by rw [p1.length]; exact t1.1, fun p hp => ?_⟩
  exact c (.tup xs) A1 _ _ (r1.lay hp) ⟨p, us, rfl, upd_same, p1.keep (Keep.new hp)⟩ (k1.trans (Keep.new hp)) t1.2
theorem ae_lst {es : List Expr} {T : ATA} (h : AA X W es T) : AE X W (.List es pos) (aLst T) := pe_low (pe_lst h) fun σ H Q ⟨a, A, k, e, r, s, t, c, x⟩ => by
  refine ⟨a, A, _, e, r, s, t, fun xs A1 us H1 r1 p1 k1 t1 => ?_, x⟩
  refine ⟨by rw [p1.length]; exact t1.1, fun p hp => ?_⟩
  exact c (.ref p) _ _ _ (r1.newL hp p1) rfl (k1.trans (Keep.new hp)) (t1.2 p (r1.gone hp))

/-! ### built-in functions -/
def aCB (R : ARn) (T : ATA) : ATE := fun e a A k => T e a A fun xs A1 => R xs A1 k
theorem low_cb {R : ARn} {T : ATA} {σ : L2.St} {H : Hp} {Q : VK} (h : Low X.K W (Rep X.K) (aCB R T) σ H Q) : tCB (LowC X.K R) (Low X.K W (Reps X.K) T) σ H Q := by
  obtain ⟨a, A, k, e, r, s, t, c, x⟩ := h
  exact ⟨a, A, _, e, r, s, t, fun xs A1 us H1 r1 p1 k1 t1 => ⟨xs, A1, k, r1, p1, t1, fun v A' u H' r' p' k' q => c v A' u H' r' p' (k1.trans k') q⟩, x⟩
variable {es : List Expr} {x : Str} {p : Pos}
theorem ae_callB {id : String} {R : ARn} {T : ATA} (hc : ACall X (.builtin id) R) (hm : X.mg x = none) (hv : bootBuiltins x = some (.builtin id)) (ha : AA X W (a :: es) T) (hg : Gl X x := by rfl) (hn : x ≠ "__name__" := by decide) (hdb : (x == ("__debug__" : Str)) = false := by decide)
    (he : starEach (a :: es) X.env = (false, eval a X.env) :: starEach es X.env := by rfl) (hpl : (backTo pos (starEach es X.env)).any (·.1) = false := by rfl) : AE X W (.Call (.Name x p) (a :: es) [] pos) (aCB R T) :=
  pe_low (pe_callB hc hg hm hv ha hn hdb he hpl) fun _ _ _ h => low_cb h
theorem ae_callTy {id : String} {R : ARn} {T : ATA} (hc : ACall X (.type id) R) (hm : X.mg x = none) (hv : bootBuiltins x = some (.type id)) (ha : AA X W (a :: es) T) (hg : Gl X x := by rfl) (hn : x ≠ "__name__" := by decide) (hdb : (x == ("__debug__" : Str)) = false := by decide)
    (he : starEach (a :: es) X.env = (false, eval a X.env) :: starEach es X.env := by rfl) (hpl : (backTo pos (starEach es X.env)).any (·.1) = false := by rfl) : AE X W (.Call (.Name x p) (a :: es) [] pos) (aCB R T) :=
  pe_low (pe_callTy hc hg hm hv ha hn hdb he hpl) fun _ _ _ h => low_cb h
end

/-! ### a def's promise in the abstract world -/
abbrev ASp := List AV → AH → AK → (Value → AH → Prop) → Prop
def LSp (K : PySem.W.Frag) (sp : ASp) : Sp := fun vs H Q E => ∃ xs A k e, Rel K A H ∧ Reps K H xs vs ∧ sp xs A k e ∧ (∀ v A' u H', Rel K A' H' → Rep K H' v u → Keep H H' → k v A' → Q u H') ∧
  ∀ cls A' d H', Rel K A' H' → Keep H H' → e cls A' → E cls d H'

section
variable {X : Cx} {W : WX} {a o : Expr} {es : List Expr} {pos p apos : Pos} {Ta : ATE} {T : ATA} {k : Nat} {f C : Addr} {fd : FuncData} {ps : List Str} {sp : ASp} {x m : Str}
abbrev Fo (X : Cx) (k : Nat) (f : Addr) (fd : FuncData) (ps : List Str) (sp : ASp) : Prop := FnOk X.prog X.w X.K X.mg X.base (L2.CX X.prog X.w) k f fd ps (LSp X.K sp)
def aCall (sp : ASp) (T : ATA) : ATE := fun e a A k => T e a A fun xs A1 => sp xs A1 k fun cls A2 => e cls a A2
theorem low_call {σ : L2.St} {H : Hp} {Q : VK} (h : Low X.K W (Rep X.K) (aCall sp T) σ H Q) : tCallS (LSp X.K sp) (WE W) (Low X.K W (Reps X.K) T) σ H Q := by
  obtain ⟨a, A, k, e, r, s, t, c, x⟩ := h
  refine ⟨a, A, _, e, r, s, t, fun xs A1 us H1 r1 p1 k1 t1 => ?_, x⟩
  exact ⟨xs, A1, k, _, r1, p1, t1, fun v A' u H' r' p' k' q => c v A' u H' r' p' (k1.trans k') q, fun cls A' d H' r' k' q => x.to cls a A' d σ H' r' (s.keep (k1.trans k')) (k1.trans k') q⟩
theorem ae_call (F : Fo X k f fd ps sp) (hr : Room k X.A) (hm : X.mg x = some (.ref f)) (hk : PySem.W.keepIn X.K (.ref f) = true) (hb : Binds X.K fd ps []) (tk : Takes X W) (ha : AA X W (a :: es) T) (hg : Gl X x := by rfl)
    (hdb : (x == ("__debug__" : Str)) = false := by decide) (he : starEach (a :: es) X.env = (false, eval a X.env) :: starEach es X.env := by rfl) (hpl : (backTo pos (starEach es X.env)).any (·.1) = false := by rfl) :
    AE X W (.Call (.Name x p) (a :: es) [] pos) (aCall sp T) := pe_low (pe_callS F hr hg hm hk hb (fun σ => passAt tk σ) ha hdb he hpl) fun _ _ _ h => low_call h
theorem ae_call0 (F : Fo X k f fd ps sp) (hr : Room k X.A) (hm : X.mg x = some (.ref f)) (hk : PySem.W.keepIn X.K (.ref f) = true) (hb : Binds X.K fd ps []) (tk : Takes X W) (hg : Gl X x := by rfl)
    (hdb : (x == ("__debug__" : Str)) = false := by decide) : AE X W (.Call (.Name x p) [] [] pos) (aCall sp aNil) := by
  refine ⟨fun pins s σ H Q I h => ?_⟩
  have h' := low_call h
  obtain ⟨a, A, k, e, r, s', t, c, x⟩ := h
  refine wpAny_Call_Name_kw (ld_glob I hg hm ?_ hdb)
  refine PySem.W.callWith_K0 I.kIn hk (run_fnS (us := []) F hr hb (passAt tk σ) I .nil ?_)
  exact ⟨[], A, k, _, r, rfl, t, c, fun cls A' d H' r' k' q => x.to cls a A' d σ H' r' (s'.keep k') k' q⟩
/-- o.m(..) -/
def aMeth (C : Addr) (m : Str) (sp : ASp) (Ta : ATE) (T : ATA) : ATE := fun e a A k => Ta e a A fun x A1 => onRef (fun q => (∃ fs, A1 q = some (.ins C fs) ∧ fs.lookup m = none) ∧ T e a A1 fun xs A2 => sp (.ref q :: xs) A2 k fun cls A3 => e cls a A3) x
theorem lookup_rep {K : PySem.W.Frag} {H : Hp} {m : Str} : ∀ {fs : List (Str × AV)} {ws : List (Str × V)}, RepKs K H fs ws → (fs.lookup m = none → ws.lookup m = none) ∧ ∀ v, fs.lookup m = some v → ∃ u, ws.lookup m = some u ∧ Rep K H v u := by
  intro fs ws h
  induction h with
  | nil => exact ⟨fun _ => rfl, fun v e => by cases e⟩
  | @cons p q ps qs h t ih =>
    obtain ⟨n1, v1⟩ := p
    obtain ⟨n2, v2⟩ := q
    obtain ⟨e1, r1⟩ := h
    cases (show n1 = n2 from e1)
    simp only [List.lookup_cons]
    cases q : (m == n1) with
    | true => exact ⟨fun z => by simp at z, fun v z => by simp at z; subst z; exact ⟨v2, rfl, r1⟩⟩
    | false => exact ih
theorem Rel.ins {K : PySem.W.Frag} {A : AH} {H : Hp} {q C : Addr} {fs : List (Str × AV)} (r : Rel K A H) (e : A q = some (.ins C fs)) : ∃ dx ws, H q = some (.ins C dx ws) ∧ RepKs K H fs ws := by
  obtain ⟨F, _, dx, ws, h, rk⟩ := r.at e
  exact ⟨dx, ws, h, rk⟩
theorem ae_meth {pl : Sem Bool} (c : Cls X.K C) (hm : Meth X.K C m f) (F : Fo X k f fd ps sp) (hr : Room k X.A) (hb : Binds X.K fd ps []) (tk : Takes X W) (ho : AE X W o Ta) (ha : AA X W (a :: es) T)
    (hst : starEach (a :: es) X.env = (false, eval a X.env) :: starEach es X.env := by rfl) (hpl : (backTo pos (starEach es X.env)).any (·.1) = false := by rfl)
    (ht : eval (.Call (.Attribute o m apos) (a :: es) [] pos) X.env = (do
      let ov ← eval o X.env
      standAt apos.atName
      let (f, first) ← holding [ov] (getMethod ov m pl)
      callWith pos f first (backTo pos (starEach (a :: es) X.env)) (backToKw pos (keywordEach [] X.env))) := by rfl) :
    AE X W (.Call (.Attribute o m apos) (a :: es) [] pos) (aMeth C m sp Ta T) := by
  refine ⟨fun pins s σ H Q I h => ?_⟩
  obtain ⟨st, A, k, e, r, ss, t, cc, x⟩ := h
  refine PySem.W.methodCall_KW (pl := pl) (thn (ho.run pins s σ H _ I (Low.mid r ss t x)) fun u s1 ⟨y, H1, I1, rx, v, A1, r1, p1, k1, t1⟩ => ?_) ht
  obtain ⟨q, rfl, ⟨fs, ef, lf⟩, t1'⟩ := onRef_e t1
  obtain rfl : y = V.ref q := p1
  obtain rfl : u = Value.ref q := rx
  · obtain ⟨dx, ws, hq, rk⟩ := r1.ins ef
    refine getmeth_ok I1 hq c hm ((lookup_rep rk).1 lf) ?_
    refine PySem.W.callWith_K (first := [.ref q]) (h₀ := X.base) I.ok.mod.kin hm.kp (thn (ha.run pos pins s1 σ H1 _ I1 (Low.mid r1 (ss.keep k1) t1' (x.keep k1))) fun us s2 ⟨vs, H2, I2, rv, xs, A2, r2, p2, k2, t2⟩ => ⟨I2.kIn, ?_⟩) hst hpl
    refine run_fnS (us := .ref q :: us) (vs := .ref q :: vs) F hr hb (passAt tk σ) I2 (.cons rfl rv) ?_
    exact ⟨_, A2, k, _, r2, Reps.cons_ (x := .ref q) rfl p2, t2, fun v A' u H' r' p' k' q => cc v A' u H' r' p' ((k1.trans k2).trans k') q, fun cls A' d H' r' k' q => x.to cls st A' d σ H' r' (ss.keep ((k1.trans k2).trans k')) ((k1.trans k2).trans k') q⟩
theorem ae_meth0 {pl : Sem Bool} (c : Cls X.K C) (hm : Meth X.K C m f) (F : Fo X k f fd ps sp) (hr : Room k X.A) (hb : Binds X.K fd ps []) (tk : Takes X W) (ho : AE X W o Ta)
    (ht : eval (.Call (.Attribute o m apos) [] [] pos) X.env = (do
      let ov ← eval o X.env
      standAt apos.atName
      let (f, first) ← holding [ov] (getMethod ov m pl)
      callWith pos f first (backTo pos (starEach [] X.env)) (backToKw pos (keywordEach [] X.env))) := by rfl) :
    AE X W (.Call (.Attribute o m apos) [] [] pos) (aMeth C m sp Ta aNil) := by
  refine ⟨fun pins s σ H Q I h => ?_⟩
  obtain ⟨st, A, k, e, r, ss, t, cc, x⟩ := h
  refine PySem.W.methodCall_KW (pl := pl) (thn (ho.run pins s σ H _ I (Low.mid r ss t x)) fun u s1 ⟨y, H1, I1, rx, v, A1, r1, p1, k1, t1⟩ => ?_) ht
  obtain ⟨q, rfl, ⟨fs, ef, lf⟩, t1'⟩ := onRef_e t1
  obtain rfl : y = V.ref q := p1
  obtain rfl : u = Value.ref q := rx
  · obtain ⟨dx, ws, hq, rk⟩ := r1.ins ef
    refine getmeth_ok I1 hq c hm ((lookup_rep rk).1 lf) ?_
    refine PySem.W.callWith_K0 (first := [.ref q]) I1.kIn hm.kp (run_fnS (us := [.ref q]) (vs := [.ref q]) F hr hb (passAt tk σ) I1 (.cons rfl .nil) ?_)
    exact ⟨_, A1, k, _, r1, Reps.cons_ (x := .ref q) rfl Reps.nil_, t1', fun v A' u H' r' p' k' q => cc v A' u H' r' p' (k1.trans k') q, fun cls A' d H' r' k' q => x.to cls st A' d σ H' r' (ss.keep (k1.trans k')) (k1.trans k') q⟩
/-- C(..) -/
def aMake (C : Addr) (sp : ASp) (T : ATA) : ATE := fun e a A k => T e a A fun xs A1 => ∀ q, A1 q = none → sp (.ref q :: xs) (put A1 q (.ins C [])) (fun _ A2 => k (.ref q) A2) fun cls A2 => e cls a A2
theorem run_makeS {pins : List (Addr × Obj)} {σ : L2.St} {H : Hp} {s : Shared} {Q : VK} {us : List Value} {vs : List V} {sp : Sp} {E : L2.St → XK} (M : Mk X.K C f) (F : FnOk X.prog X.w X.K X.mg X.base (L2.CX X.prog X.w) k f fd ps sp) (hr : Room (k + 1) X.A) (hb : Binds X.K fd ps [])
    (hx : PassesAt (L2.CX X.prog X.w) X σ (E σ)) (I : Inv X pins σ H s) (r : Vals vs us)
    (h : ∀ x dx, H x = none → H dx = none → dx ≠ x → sp (.ref x :: vs) (upd (upd H dx (.own x)) x (.ins C dx [])) (fun v H2 => v = .non ∧ Q (.ref x) H2) (E σ)) :
    wpAny (model X.prog X.w) X.A (call (.ref C) us) (EP X pins σ Q) X.xe s := by
  have hq := h (s.heap.objs.size + 1) s.heap.objs.size (I.hok.fresh (Nat.le_succ _)) (I.hok.fresh (Nat.le_refl _)) (Nat.ne_of_lt (Nat.lt_succ_self _))
  have I2 := Inv.made (C := C) I
  have r2 : Vals (V.ref (s.heap.objs.size + 1) :: vs) (Value.ref (s.heap.objs.size + 1) :: us) := .cons rfl r
  have hl : (Value.ref (s.heap.objs.size + 1) :: us).length = ps.length := by
    have e := r2.length
    rw [F.len _ _ _ _ hq] at e
    exact e.symm
  have b := hb _ (Value.ref (s.heap.objs.size + 1) :: us) I2.kIn (by rw [List.append_nil]; exact hl)
  rw [List.append_nil] at b
  refine wpAny_call (make_map (f := f) I.kIn M.makes M.init (beq_iff_eq.mp M.fn) (codeAny_mono (F.run _ X.stack _ _ ⟨Value.ref (s.heap.objs.size + 1) :: us, []⟩ (Value.ref (s.heap.objs.size + 1) :: us) _ _ (E σ) (hr.make C us [])
    (I2.env0.make C us []) b r2 hq) fun r s' hq' => ?_))
  cases r with
  | error e => exact hx pins _ _ e s' I2 hq'
  | ok fl =>
    cases fl with
    | ret u =>
      obtain ⟨v, H', I3, rv, ev, q3⟩ := I2.after hq'
      subst ev
      exact ⟨rv, ⟨V.ref (s.heap.objs.size + 1), H', I3, rfl, q3⟩⟩
    | next => exact False.elim hq'
    | brk => exact False.elim hq'
    | cont => exact False.elim hq'
/-- an __init__'s promise gives None back -/
def GivesNone (sp : ASp) : Prop := ∀ xs A k e, sp xs A k e → sp xs A (fun v A' => v = .non ∧ k .non A') e
theorem made_rel {K : PySem.W.Frag} {A : AH} {H : Hp} {x dx : Addr} (r : Rel K A H) (hx : H x = none) (hd : H dx = none) (ne : dx ≠ x) : Rel K (put A x (.ins C [])) (upd (upd H dx (.own x)) x (.ins C dx [])) :=
  (r.lay (ho := .own x) hd).new (by rw [upd_ne (Ne.symm ne)]; exact hx) fun F f k => ⟨f, dx, [], upd_same, .nil⟩
theorem made_keep {H : Hp} {x dx : Addr} (hx : H x = none) (hd : H dx = none) (ne : dx ≠ x) : Keep H (upd (upd H dx (.own x)) x (.ins C dx [])) :=
  (Keep.new hd).trans (Keep.new (by rw [upd_ne (Ne.symm ne)]; exact hx))
theorem ae_make (M : Mk X.K C f) (F : Fo X k f fd ps sp) (gn : GivesNone sp) (hr : Room (k + 1) X.A) (hm : X.mg x = some (.ref C)) (hb : Binds X.K fd ps []) (tk : Takes X W) (ha : AA X W (a :: es) T) (hg : Gl X x := by rfl)
    (hdb : (x == ("__debug__" : Str)) = false := by decide) (he : starEach (a :: es) X.env = (false, eval a X.env) :: starEach es X.env := by rfl) (hpl : (backTo pos (starEach es X.env)).any (·.1) = false := by rfl) :
    AE X W (.Call (.Name x p) (a :: es) [] pos) (aMake C sp T) := by
  refine ⟨fun pins s σ H Q I h => ?_⟩
  obtain ⟨st, A, k, e, r, ss, t, cc, x⟩ := h
  refine wpAny_Call_Name_kw (ld_glob I hg hm ?_ hdb)
  refine PySem.W.callWith_K (h₀ := X.base) I.ok.mod.kin M.kp (thn (ha.run pos pins s σ H _ I (Low.mid r ss t x)) fun us s1 ⟨vs, H1, I1, rv, xs, A1, r1, p1, k1, t1⟩ => ⟨I1.kIn, ?_⟩) he hpl
  refine run_makeS (E := WE W) M F hr hb (passAt tk σ) I1 rv fun q' dx hx hd ne => ?_
  have kk := made_keep (C := C) hx hd ne
  exact ⟨_, _, _, _, made_rel (C := C) r1 hx hd ne, Reps.cons_ (x := .ref q') rfl (p1.keep kk), gn _ _ _ _ (t1 q' (r1.gone hx)), fun v A' u H' r' p' k' q => by
    obtain ⟨ev, q⟩ := q
    subst ev
    exact ⟨p', cc (.ref q') A' (.ref q') H' r' rfl ((k1.trans kk).trans k') q⟩, fun cls A' d H' r' k' q => x.to cls st A' d σ H' r' (ss.keep ((k1.trans kk).trans k')) ((k1.trans kk).trans k') q⟩
theorem ae_make0 (M : Mk X.K C f) (F : Fo X k f fd ps sp) (gn : GivesNone sp) (hr : Room (k + 1) X.A) (hm : X.mg x = some (.ref C)) (hb : Binds X.K fd ps []) (tk : Takes X W) (hg : Gl X x := by rfl)
    (hdb : (x == ("__debug__" : Str)) = false := by decide) : AE X W (.Call (.Name x p) [] [] pos) (aMake C sp aNil) := by
  refine ⟨fun pins s σ H Q I h => ?_⟩
  obtain ⟨st, A, k, e, r, ss, t, cc, x⟩ := h
  refine wpAny_Call_Name_kw (ld_glob I hg hm ?_ hdb)
  refine PySem.W.callWith_K0 I.kIn M.kp (run_makeS (E := WE W) (us := []) M F hr hb (passAt tk σ) I .nil fun q' dx hx hd ne => ?_)
  have kk := made_keep (C := C) hx hd ne
  exact ⟨_, _, _, _, made_rel (C := C) r hx hd ne, Reps.cons_ (x := .ref q') rfl Reps.nil_, gn _ _ _ _ (t q' (r.gone hx)), fun v A' u H' r' p' k' q => by
    obtain ⟨ev, q⟩ := q
    subst ev
    exact ⟨p', cc (.ref q') A' (.ref q') H' r' rfl (kk.trans k') q⟩, fun cls A' d H' r' k' q => x.to cls st A' d σ H' r' (ss.keep (kk.trans k')) (kk.trans k') q⟩
end
end Aw

set_option Elab.async false
set_option linter.all false
set_option maxRecDepth 100000
set_option maxHeartbeats 200000
/-! A3: statements, targets, loops, raise and try, comprehensions, a def. -/
namespace Aw
open PySem PySem.Spec PyProof.Rows L2
section
variable {X : Cx} {W : WX} {a c o ex tg : Expr} {st : Stmt} {rest : List Stmt} {T U : ATS} {Ta Tb : ATE} {G : ATG} {pos : Pos}
/-! ### blocks -/
def aNext : ATS := fun _ D a A => D.nx a A
def aSeq (T U : ATS) : ATS := fun e D a A => T e { D with nx := U e D } a A
theorem ass_nil : ASs X W [] aNext := pss_low pss_nil fun D σ H ⟨a, A, D', e, r, s, t, n, x⟩ => n.nx a A σ H r s (Keep.refl H) t
theorem ass_cons (h1 : AS X W st T) (h2 : ASs X W rest U) : ASs X W (st :: rest) (aSeq T U) := pss_low (pss_cons h1 h2) fun D σ H ⟨a, A, D', e, r, s, t, n, x⟩ =>
  ⟨a, A, _, e, r, s, t, ⟨fun a' A' σ' H' r' s' k' q => ⟨a', A', D', e, r', s', q, n.keep k', x.keep k'⟩, n.rt, n.bk, n.ct⟩, x⟩
theorem ass_one (h1 : AS X W st T) : ASs X W [st] T := pss_low (pss_one h1) fun _ _ _ h => h
def aBreak : ATS := fun _ D a A => D.bk a A
def aCont : ATS := fun _ D a A => D.ct a A
theorem as_pass : AS X W (.Pass pos) aNext := ps_low ps_pass fun D σ H ⟨a, A, D', e, r, s, t, n, x⟩ => n.nx a A σ H r s (Keep.refl H) t
theorem as_break : AS X W (.Break pos) aBreak := ps_low ps_break fun D σ H ⟨a, A, D', e, r, s, t, n, x⟩ => n.bk a A σ H r s (Keep.refl H) t
theorem as_continue : AS X W (.Continue pos) aCont := ps_low ps_continue fun D σ H ⟨a, A, D', e, r, s, t, n, x⟩ => n.ct a A σ H r s (Keep.refl H) t
def aDrop (T : ATE) : ATS := fun e D a A => T e a A fun _ A1 => D.nx a A1
theorem as_expr (h : AE X W ex Ta) (hs : swapsWith ex none pos.line X.env = pure false := by rfl) : AS X W (.Expr ex pos) (aDrop Ta) := ps_low (ps_expr h hs) fun D σ H ⟨a, A, D', e, r, s, t, n, x⟩ =>
  ⟨a, A, _, e, r, s, t, fun v A' u H' r' p' k' q => n.nx a A' σ H' r' (s.keep k') k' q, x⟩
def aRet (T : ATE) : ATS := fun e D a A => T e a A D.rt
theorem as_ret (h : AE X W ex Ta) : AS X W (.Return (some ex) pos) (aRet Ta) := ps_low (ps_ret h) fun D σ H ⟨a, A, D', e, r, s, t, n, x⟩ => ⟨a, A, _, e, r, s, t, n.rt, x⟩
def aRetN : ATS := fun _ D _ A => D.rt .non A
theorem as_retN : AS X W (.Return none pos) aRetN := ps_low ps_retN fun D σ H ⟨a, A, D', e, r, s, t, n, x⟩ => n.rt .non A .non H r rfl (Keep.refl H) t
def aIf (t : ATT) (T U : ATS) : ATS := fun e D a A => t e a A fun b A1 => if b = true then T e D a A1 else U e D a A1
theorem as_if {p q : List Stmt} {t : ATT} (hc : AT X W c t) (ha : ASs X W p T) (hb : ASs X W q U) : AS X W (.If c p q pos) (aIf t T U) := ps_low (ps_if hc ha hb) fun D σ H ⟨a, A, D', e, r, s, t, n, x⟩ => by
  refine ⟨a, A, _, e, r, s, t, fun b A1 b' H1 r1 p1 k1 t1 => ?_, x⟩
  obtain rfl : b = b' := p1
  cases b with
  | true => rw [if_pos rfl] at t1 ⊢; exact ⟨a, A1, D', e, r1, s.keep k1, t1, n.keep k1, x.keep k1⟩
  | false => rw [if_neg (by decide)] at t1 ⊢; exact ⟨a, A1, D', e, r1, s.keep k1, t1, n.keep k1, x.keep k1⟩
def aNever : ATS := fun _ _ _ _ => False
theorem as_never : AS X W st aNever := ps_low ps_never fun D σ H ⟨a, A, D', e, r, s, t, n, x⟩ => t

/-! ### targets -/
def aGName (i : Nat) : ATG := fun _ v a A k => k (a.set i (some v)) A
theorem ag_name {i : Nat} {x : Str} (hN : X.N.Nodup) (hi : X.N[i]? = some x := by rfl) (hx : Loc X.env.scope x := by first | exact Or.inl rfl | exact Or.inr rfl) (hf : X.fn x = true ∨ X.env.scope.names.lookup x = some .local := by first | exact .inl rfl | exact .inr rfl) : AG X W (.Name x pos) (aGName i) :=
  pg_low (pg_name hN hi hx hf) fun v σ H Q ⟨x, a, A, k, e, r, s, p, t, c, ex⟩ => c _ A _ H r (s.set p i) (Keep.refl H) t
abbrev ATGs := AX → List AV → ASt → AH → (ASt → AH → Prop) → Prop
def LowGs (K : PySem.W.Frag) (W : WX) (T : ATGs) : TGs := fun vs σ H Q => ∃ xs a A k e, Rel K A H ∧ Sts K H a σ ∧ Reps K H xs vs ∧ T e xs a A k ∧ (∀ a' A' σ' H', Rel K A' H' → Sts K H' a' σ' → Keep H H' → k a' A' → Q σ' H') ∧ ExOk K W e H
abbrev AGs (X : Cx) (W : WX) (ts : List Expr) (T : ATGs) : Prop := PGs X ts (LowGs X.K W T)
theorem pgs_low {ts : List Expr} {t t' : TGs} (h : PGs X ts t) (i : ∀ v σ H Q, t' v σ H Q → t v σ H Q) : PGs X ts t' := ⟨fun pins s σ H v u Q I r q => h.run pins s σ H v u Q I r (i v σ H Q q)⟩
def aGNil : ATGs := fun _ vs a A k => vs = [] ∧ k a A
def aGCons (G : ATG) (U : ATGs) : ATGs := fun e vs a A k => match vs with
  | [] => False
  | v :: r => G e v a A fun a' A' => U e r a' A' k
theorem ags_nil : AGs X W [] aGNil := pgs_low pgs_nil fun vs σ H Q ⟨xs, a, A, k, e, r, s, p, t, c, ex⟩ => by
  obtain ⟨z, t⟩ := t
  subst z
  exact ⟨p, c a A σ H r s (Keep.refl H) t⟩
theorem ags_cons {ts : List Expr} {U : ATGs} (h1 : AG X W tg G) (h2 : AGs X W ts U) (hs : (assignEach (tg :: ts) X.env).map (·.2) = assign tg X.env :: (assignEach ts X.env).map (·.2) := by rfl) : AGs X W (tg :: ts) (aGCons G U) :=
  pgs_low (pgs_cons h1 h2 hs) fun vs σ H Q ⟨xs, a, A, k, e, r, s, p, t, c, ex⟩ => by
    cases xs with
    | nil => exact t.elim
    | cons x xs =>
      obtain ⟨v, r', e1, p1, p2⟩ := p
      refine ⟨v, r', e1, x, a, A, _, e, r, s, p1, t, fun a1 A1 σ1 H1 r1 s1 k1 t1 => ?_, ex⟩
      exact ⟨xs, a1, A1, k, e, r1, s1, p2.keep k1, t1, fun a' A' σ' H' r' s' k' q => c a' A' σ' H' r' s' (k1.trans k') q, ex.keep k1⟩
def aGTup (n : Nat) (U : ATGs) : ATG := fun e v a A k => onTup (fun xs => xs.length = n ∧ U e xs a A k) v
theorem ag_tup {es : List Expr} {kk : Nat} {U : ATGs} {n : Nat} (hc : X.calm = true) (h : AGs X W es U) (hn : (assignEach es X.env).length = n := by rfl) (hst : (assignEach es X.env).findIdx? (·.1) = none := by rfl) : AG X W (.Tuple es kk pos) (aGTup n U) :=
  pg_low (pg_tup hc h hn hst) fun v σ H Q ⟨x, a, A, k, e, r, s, p, t, c, ex⟩ => by
    obtain ⟨xs, rfl, hl, t'⟩ := onTup_e t
    obtain ⟨q, vs, e1, ht, rs⟩ := p
    exact ⟨q, vs, e1, .of ht, by rw [rs.length]; exact hl, xs, a, A, k, e, r, s, rs, t', c, ex⟩
/-- o[i] = v by values -/
abbrev AR3 := AV → AV → AV → AH → (AH → Prop) → Prop
def Low3 (K : PySem.W.Frag) (R : AR3) : TSet := fun o i v H Q => ∃ ao ai av A k, Rel K A H ∧ Rep K H ao o ∧ Rep K H ai i ∧ Rep K H av v ∧ R ao ai av A k ∧ ∀ A' H', Rel K A' H' → Keep H H' → k A' → Q H'
abbrev ASet (X : Cx) (R : AR3) : Prop := PSet X (Low3 X.K R)
def aGSub (To Ti : ATE) (R : AR3) : ATG := fun e v a A k => To e a A fun o A1 => Ti e a A1 fun i A2 => R o i v A2 fun A3 => k a A3
theorem ag_sub {i : Expr} {R : AR3} (ho : AE X W o Ta) (hi : AE X W i Tb) (hs : ASet X R)
    (ha : ∀ v, assign (.Subscript o i pos) X.env v = (do
      let ov ← holding [v] (eval o X.env)
      let iv ← holding [v, ov] (eval i X.env)
      standAt pos
      holding [v, ov, iv] (setItem ov iv v)
      release [v, ov, iv] []) := by intro _; rfl) : AG X W (.Subscript o i pos) (aGSub Ta Tb R) := pg_low (pg_sub ho hi hs ha) fun v σ H Q ⟨x, a, A, k, e, r, s, p, t, c, ex⟩ => by
  refine ⟨a, A, _, e, r, s, t, fun x1 A1 u1 H1 r1 p1 k1 t1 => ?_, ex⟩
  refine ⟨a, A1, _, e, r1, s.keep k1, t1, fun x2 A2 u2 H2 r2 p2 k2 t2 => ?_, ex.keep k1⟩
  exact ⟨x1, x2, x, A2, _, r2, p1.keep k2, p2, p.keep (k1.trans k2), t2, fun A3 H3 r3 k3 q => c a A3 σ H3 r3 (s.keep ((k1.trans k2).trans k3)) ((k1.trans k2).trans k3) q⟩

/-! ### stores -/
def aAsg (T : ATE) (G : ATG) : ATS := fun e D a A => T e a A fun x A1 => G e x a A1 D.nx
theorem low_asg {D : Ends} {σ : L2.St} {H : Hp} (h : LowS X.K W (aAsg Ta G) D σ H) : tAsg (Low X.K W (Rep X.K) Ta) (LowG X.K W G) D σ H := by
  obtain ⟨a, A, D', e, r, s, t, n, x⟩ := h
  exact ⟨a, A, _, e, r, s, t, fun v A1 u H1 r1 p1 k1 t1 => ⟨v, a, A1, _, e, r1, s.keep k1, p1, t1, fun a' A' σ' H' r' s' k' q => n.nx a' A' σ' H' r' s' (k1.trans k') q, x.keep k1⟩, x⟩
theorem as_asg (he : AE X W ex Ta) (hg : AG X W tg G) (hs : swapsWithSole [tg] ex pos.line X.env = pure false := by rfl) (hw : swappedStores [tg] ex X.env = pure none := by rfl)
    (h1 : (assignEach [tg] X.env).map (·.2) = [assign tg X.env] := by rfl) : AS X W (.Assign [tg] ex pos) (aAsg Ta G) := ps_low (ps_asg he hg hs hw h1) fun _ _ _ h => low_asg h
theorem as_set {i : Nat} {x : Str} {pos' : Pos} (hN : X.N.Nodup) (he : AE X W ex Ta) (hi : X.N[i]? = some x := by rfl) (hx : Loc X.env.scope x := by first | exact Or.inl rfl | exact Or.inr rfl) (hs : swapsWith ex (some (.Name x pos')) pos.line X.env = pure false := by rfl)
    (hf : X.fn x = true ∨ X.env.scope.names.lookup x = some .local := by first | exact .inl rfl | exact .inr rfl) : AS X W (.Assign [.Name x pos'] ex pos) (aAsg Ta (aGName i)) :=
  ps_low (ps_set hN hi hx he hs hf) fun D σ H h => by
    obtain ⟨a, A, D', e, r, s, t, n, x⟩ := h
    exact ⟨a, A, _, e, r, s, t, fun v A1 u H1 r1 p1 k1 t1 => n.nx _ A1 _ H1 r1 ((s.keep k1).set p1 i) k1 t1, x⟩
/-- a, b = x, y -/
def aPar (i j : Nat) (T : ATA) : ATS := fun e D a A => T e a A fun vs A1 => match vs with
  | [v, w] => D.nx ((a.set i (some v)).set j (some w)) A1
  | _ => False
/-- o.f = e -/
def aFldS (C : Addr) (f : Str) (To Tv : ATE) : ATS := fun e D a A => Tv e a A fun y A1 => To e a A1 fun x A2 => onRef (fun q => match A2 q with
  | some (.ins C' fs) => C' = C ∧ fs.length < 1000 ∧ D.nx a (put A2 q (.ins C (putFA f y fs)))
  | _ => False) x
where
  putFA (f : Str) (v : AV) : List (Str × AV) → List (Str × AV)
    | [] => [(f, v)]
    | (g, w) :: r => if g = f then (g, v) :: r else (g, w) :: putFA f v r
end
abbrev putFA := aFldS.putFA
theorem putF_rep {K : PySem.W.Frag} {H : Hp} {f : Str} {v : AV} {u : V} (r : Rep K H v u) : ∀ {fs : List (Str × AV)} {ws : List (Str × V)}, RepKs K H fs ws → RepKs K H (putFA f v fs) (putF f u ws) := by
  intro fs ws h
  induction h with
  | nil => exact .cons ⟨rfl, r⟩ .nil
  | @cons p q ps qs h t ih =>
    obtain ⟨n1, v1⟩ := p
    obtain ⟨n2, v2⟩ := q
    obtain ⟨e1, r1⟩ := h
    cases (show n1 = n2 from e1)
    show RepKs K H (if n1 = f then (n1, v) :: ps else (n1, v1) :: putFA f v ps) (if n1 = f then (n1, u) :: qs else (n1, v2) :: putF f u qs)
    by_cases z : n1 = f
    · rw [if_pos z, if_pos z]; exact .cons ⟨rfl, r⟩ t
    · rw [if_neg z, if_neg z]; exact .cons ⟨rfl, r1⟩ ih
theorem RepKs.length {κ : Type} {K : PySem.W.Frag} {H : Hp} {a : List (κ × AV)} {b : List (κ × V)} (h : RepKs K H a b) : b.length = a.length := (Paired.length h).symm
theorem Rel.putI {K : PySem.W.Frag} {A : AH} {H : Hp} {q C dx : Addr} {fs gs : List (Str × AV)} {ws : List (Str × V)} (r : Rel K A H) (e : A q = some (.ins C fs)) (rk : RepKs K H gs ws) : Rel K (put A q (.ins C gs)) (upd H q (.ins C dx ws)) :=
  r.write e rfl fun _ f k => ⟨f, dx, ws, upd_same, rk.keep k⟩
section
variable {X : Cx} {W : WX} {a c o ex tg value : Expr} {st : Stmt} {rest : List Stmt} {T U : ATS} {Ta Tb : ATE} {G : ATG} {pos : Pos} {C : Addr} {f : Str}
theorem as_fld {pos' : Pos} (cl : Cls X.K C) (na : NoAttr X.K C f) (ho : AE X W o Ta) (hv : AE X W value Tb) (hs : swapsWith value (some (.Attribute o f pos')) pos.line X.env = pure false := by rfl) : AS X W (.Assign [.Attribute o f pos'] value pos) (aFldS C f Ta Tb) :=
  ps_low (ps_fld ho hv hs) fun D σ H ⟨a, A, D', e, r, s, t, n, x⟩ => by
    refine ⟨a, A, _, e, r, s, t, fun y A1 u1 H1 r1 p1 k1 t1 => ?_, x⟩
    refine ⟨a, A1, _, e, r1, s.keep k1, t1, fun v A2 u2 H2 r2 p2 k2 t2 => ?_, x.keep k1⟩
    obtain ⟨q, rfl, t3⟩ := onRef_e t2
    split at t3
    · rename_i C' fs eq
      obtain ⟨rfl, hl, t3⟩ := t3
      obtain ⟨dx, ws, hq, rk⟩ := r2.ins eq
      have kk := Keep.put (H := H2) (p := q) (o := .ins C' dx (putF f u1 ws)) (by rw [hq]; trivial)
      refine ⟨q, C', dx, ws, p2, hq, cl, na, by rw [rk.length]; exact hl, ?_⟩
      exact n.nx a _ σ _ (r2.putI eq (putF_rep (p1.keep k2) rk)) (s.keep ((k1.trans k2).trans kk)) ((k1.trans k2).trans kk) t3
    · exact t3.elim
/-- x op= e -/
abbrev AIp (X : Cx) (op : Operator) (R : AR2) : Prop := PIp X op (LowR X.K R)
def aAug (i : Nat) (T : ATE) (R : AR2) : ATS := fun e D a A => aVar i e a A fun x _ => T e a A fun y A1 => R x y A1 fun z A2 => D.nx (a.set i (some z)) A2
theorem as_aug {i : Nat} {x : Str} {op : Operator} {R : AR2} {pos' : Pos} (hN : X.N.Nodup) (he : AE X W ex Ta) (ho : AIp X op R) (hi : X.N[i]? = some x := by rfl) (hx : Loc X.env.scope x := by first | exact Or.inl rfl | exact Or.inr rfl)
    (hf : X.fn x = true ∨ X.env.scope.names.lookup x = some .local := by first | exact .inl rfl | exact .inr rfl) : AS X W (.AugAssign (.Name x pos') op ex pos) (aAug i Ta R) := ps_low (ps_aug hN hi hx he ho hf) fun D σ H ⟨a, A, D', e, r, s, t, n, x⟩ => by
  unfold aAug aVar at t
  split at t
  · rename_i v q
    obtain ⟨u, e1, r1⟩ := s.get q
    refine ⟨u, e1, a, A, _, e, r, s, t, fun y A1 u1 H1 r1' p1 k1 t1 => ?_, x⟩
    exact ⟨v, y, A1, _, r1', r1.keep k1, p1, t1, fun z A2 u2 H2 r2 p2 k2 q => n.nx _ A2 _ H2 r2 ((s.keep (k1.trans k2)).set p2 i) (k1.trans k2) q⟩
  · exact t.elim
def aAugS (To Ti Te : ATE) (Rg Ro : AR2) (Rs : AR3) : ATS := fun e D a A => To e a A fun o A1 => Ti e a A1 fun i A2 => Rg o i A2 fun x A3 => Te e a A3 fun y A4 => Ro x y A4 fun z A5 => Rs o i z A5 fun A6 => D.nx a A6
abbrev AGet (X : Cx) (R : AR2) : Prop := PGet X (LowR X.K R)
theorem as_augS {o i ex : Expr} {To Ti Te : ATE} {Rg Ro : AR2} {Rs : AR3} {op : Operator} {tpos : Pos} (ho : AE X W o To) (hi : AE X W i Ti) (hg : AGet X Rg) (he : AE X W ex Te) (hp : AIp X op Ro) (hs : ASet X Rs)
    (ha : ∀ ov iv new, augStore i ov iv new = (do holding [new, ov, iv] (setItem ov iv new); release [new, ov, iv] []; pure .next) := by intros; rfl) : AS X W (.AugAssign (.Subscript o i tpos) op ex pos) (aAugS To Ti Te Rg Ro Rs) :=
  ps_low (ps_augS ho hi hg he hp hs ha) fun D σ H ⟨a, A, D', e, r, s, t, n, x⟩ => by
    refine ⟨a, A, _, e, r, s, t, fun x1 A1 u1 H1 r1 p1 k1 t1 => ?_, x⟩
    refine ⟨a, A1, _, e, r1, s.keep k1, t1, fun x2 A2 u2 H2 r2 p2 k2 t2 => ?_, x.keep k1⟩
    refine ⟨x1, x2, A2, _, r2, p1.keep k2, p2, t2, fun x3 A3 u3 H3 r3 p3 k3 t3 => ?_⟩
    have k13 := (k1.trans k2).trans k3
    refine ⟨a, A3, _, e, r3, s.keep k13, t3, fun x4 A4 u4 H4 r4 p4 k4 t4 => ?_, x.keep k13⟩
    refine ⟨x3, x4, A4, _, r4, p3.keep k4, p4, t4, fun x5 A5 u5 H5 r5 p5 k5 t5 => ?_⟩
    have k25 := (k3.trans k4).trans k5
    exact ⟨x1, x2, x5, A5, _, r5, p1.keep (k2.trans k25), p2.keep k25, p5, t5, fun A6 H6 r6 k6 q => n.nx a A6 σ H6 r6 (s.keep ((k1.trans (k2.trans k25)).trans k6)) ((k1.trans (k2.trans k25)).trans k6) q⟩
/-- o.f -/
def aFld (f : Str) (To : ATE) : ATE := fun e a A k => To e a A fun x A1 => onRef (fun q => match A1 q with
  | some (.ins _ fs) => (match fs.lookup f with
    | some v => k v A1
    | none => False)
  | _ => False) x
/-- what the classes of the text allow: every one that stands in the world has no attribute of the name, and a plain head -/
def aFldC (C : Addr) (f : Str) (To : ATE) : ATE := fun e a A k => To e a A fun x A1 => onRef (fun q => match A1 q with
  | some (.ins C' fs) => C' = C ∧ (match fs.lookup f with
    | some v => k v A1
    | none => False)
  | _ => False) x
theorem ae_fld {apos : Pos} (cl : Cls X.K C) (na : NoAttr X.K C f) (ho : AE X W o Ta) (hb : attributeBase o f X.env (eval o X.env) = eval o X.env := by rfl) : AE X W (.Attribute o f apos) (aFldC C f Ta) := pe_low (pe_fld ho hb) fun σ H Q ⟨a, A, k, e, r, s, t, c, x⟩ => by
  refine ⟨a, A, _, e, r, s, t, fun v A1 u1 H1 r1 p1 k1 t1 => ?_, x⟩
  obtain ⟨q, rfl, t2⟩ := onRef_e t1
  split at t2
  · rename_i C' fs eq
    obtain ⟨rfl, t2⟩ := t2
    obtain ⟨dx, ws, hq, rk⟩ := r1.ins eq
    split at t2
    · rename_i v ev
      obtain ⟨u, eu, ru⟩ := (lookup_rep rk).2 v ev
      exact ⟨q, C', dx, ws, u, p1, hq, cl, na, eu, c v A1 u H1 r1 ru k1 t2⟩
    · exact t2.elim
  · exact t2.elim
/-- o.f op= e -/
def aFldAug (C : Addr) (f : Str) (To Tv : ATE) (R : AR2) : ATS := fun e D a A => To e a A fun x A1 => onRef (fun q => match A1 q with
  | some (.ins C' fs) => C' = C ∧ (match fs.lookup f with
    | some v => Tv e a A1 fun y A2 => R v y A2 fun z A3 => (match A3 q with
      | some (.ins C'' gs) => C'' = C ∧ gs.length < 1000 ∧ D.nx a (put A3 q (.ins C (putFA f z gs)))
      | _ => False)
    | none => False)
  | _ => False) x
theorem as_fldaug {op : Operator} {tpos : Pos} {R : AR2} (cl : Cls X.K C) (na : NoAttr X.K C f) (ho : AE X W o Ta) (hv : AE X W value Tb) (hop : AIp X op R) : AS X W (.AugAssign (.Attribute o f tpos) op value pos) (aFldAug C f Ta Tb R) :=
  ps_low (ps_fldaug ho hv hop) fun D σ H ⟨a, A, D', e, r, s, t, n, x⟩ => by
    refine ⟨a, A, _, e, r, s, t, fun v A1 u1 H1 r1 p1 k1 t1 => ?_, x⟩
    obtain ⟨q, rfl, t2⟩ := onRef_e t1
    split at t2
    · rename_i C' fs eq
      obtain ⟨rfl, t2⟩ := t2
      obtain ⟨dx, ws, hq, rk⟩ := r1.ins eq
      split at t2
      · rename_i v ev
        obtain ⟨u, eu, ru⟩ := (lookup_rep rk).2 v ev
        refine ⟨q, C', dx, ws, u, p1, hq, cl, na, eu, ?_⟩
        refine ⟨a, A1, _, e, r1, s.keep k1, t2, fun y A2 u2 H2 r2 p2 k2 t3 => ?_, x.keep k1⟩
        refine ⟨v, y, A2, _, r2, ru.keep k2, p2, t3, fun z A3 u3 H3 r3 p3 k3 t4 => ?_⟩
        split at t4
        · rename_i C'' gs eq3
          obtain ⟨rfl, hl, t4⟩ := t4
          obtain ⟨dx3, ws3, hq3, rk3⟩ := r3.ins eq3
          have kk := Keep.put (H := H3) (p := q) (o := .ins C'' dx3 (putF f u3 ws3)) (by rw [hq3]; trivial)
          refine ⟨dx3, ws3, hq3, by rw [rk3.length]; exact hl, ?_⟩
          exact n.nx a _ σ _ (r3.putI eq3 (putF_rep p3 rk3)) (s.keep (((k1.trans k2).trans k3).trans kk)) (((k1.trans k2).trans k3).trans kk) t4
        · exact t4.elim
      · exact t2.elim
    · exact t2.elim

/-! ### loops -/
structure AIt where
  xs : List AV
  ok : AH → Prop
def ItOk (K : PySem.W.Frag) (H0 : Hp) (ia : AIt) (J : It) : Prop := ∀ i A H, Keep H0 H → Rel K A H → ia.ok A → (ia.xs.length ≤ i → J.stop i H) ∧ ∀ x, ia.xs[i]? = some x → J.go i H ∧ ∀ v H', J.yld i H v H' → Rel K A H' ∧ Keep H H' ∧ Rep K H' x v
abbrev ATI := AX → ASt → AH → (AIt → AH → Prop) → Prop
abbrev AI (X : Cx) (W : WX) (tg ex : Expr) (T : ATI) : Prop := PI X tg ex (Low X.K W (ItOk X.K) T)
theorem pi_low {t t' : TI} (h : PI X tg ex t) (i : ∀ σ H R, t' σ H R → t σ H R) : PI X tg ex t' := ⟨fun pins s σ H Q I q => h.run pins s σ H Q I (i σ H Q q)⟩
def aLoop (ok : AH → Prop) (G : ATG) (T : ATS) (e : AX) (D : AEnds) : List AV → ASt → AH → Prop
  | [] => fun a A => ok A ∧ D.nx a A
  | x :: xs => fun a A => ok A ∧ G e x a A fun a2 A2 => T e { nx := aLoop ok G T e D xs, rt := D.rt, bk := D.nx, ct := aLoop ok G T e D xs } a2 A2
theorem aLoop_ok {ok : AH → Prop} {G : ATG} {T : ATS} {e : AX} {D : AEnds} : ∀ {xs : List AV} {a : ASt} {A : AH}, aLoop ok G T e D xs a A → ok A
  | [], _, _, h => h.1
  | _ :: _, _, _, h => h.1
def aFor (Ti : ATI) (G : ATG) (T : ATS) : ATS := fun e D a A => Ti e a A fun it A1 => aLoop it.ok G T e D it.xs a A1
theorem as_for {iter : Expr} {body : List Stmt} {Ti : ATI} (hp : PassesOwn (model X.prog X.w) X.A X.env X.xe) (hc : X.calm = true) (hi : AI X W tg iter Ti) (hg : AG X W tg G) (hb : ASs X W body T)
    (hs : ∀ x, foldedSetIterable iter X.env x = pure x := by intro _; rfl) : AS X W (.For tg iter body [] pos) (aFor Ti G T) := ps_low (ps_for hp hc hi hg hb hs) fun D σ H ⟨a, A, D', e, r, s, t, n, x⟩ => by
  refine ⟨a, A, _, e, r, s, t, fun ia A1 J H1 r1 p1 k1 t1 => ?_, x⟩
  refine ⟨fun i m σ2 H2 => m = ia.xs.length - i ∧ i ≤ ia.xs.length ∧ Keep H1 H2 ∧ ∃ a2 A2, Rel X.K A2 H2 ∧ Sts X.K H2 a2 σ2 ∧ aLoop ia.ok G T e D' (ia.xs.drop i) a2 A2, ⟨_, rfl, Nat.zero_le _, Keep.refl _, a, A1, r1, s.keep k1, t1⟩, ?_⟩
  rintro i m σ2 H2 ⟨rfl, hi, kk, a2, A2, r2, s2, t2⟩
  obtain ⟨q1, q2⟩ := p1 i A2 H2 kk r2 (aLoop_ok t2)
  have k2 := k1.trans kk
  by_cases hlt : i < ia.xs.length
  · have hx : ia.xs[i]? = some ia.xs[i] := List.getElem?_eq_getElem hlt
    obtain ⟨g1, g2⟩ := q2 _ hx
    rw [List.drop_eq_getElem_cons hlt] at t2
    obtain ⟨_, t3⟩ := t2
    refine .inr ⟨g1, fun σ' H' => ia.xs.length - (i + 1) < ia.xs.length - i ∧ i + 1 ≤ ia.xs.length ∧ Keep H1 H' ∧ ∃ a2 A2, Rel X.K A2 H' ∧ Sts X.K H' a2 σ' ∧ aLoop ia.ok G T e D' (ia.xs.drop (i + 1)) a2 A2, fun σ' H' w => ⟨_, w.1, rfl, w.2⟩, fun v H3 y => ?_⟩
    obtain ⟨r3, k3, p3⟩ := g2 v H3 y
    refine ⟨_, a2, A2, _, e, r3, s2.keep k3, p3, t3, fun a4 A4 σ4 H4 r4 s4 k4 t4 => ?_, x.keep (k2.trans k3)⟩
    have k24 := (k2.trans k3).trans k4
    refine ⟨a4, A4, _, e, r4, s4, t4, ⟨fun a5 A5 σ5 H5 r5 s5 k5 q => ⟨by omega, hlt, ((kk.trans k3).trans k4).trans k5, a5, A5, r5, s5, q⟩, (n.keep k24).rt, fun a5 A5 σ5 H5 r5 s5 k5 q => (n.keep k24).nx a5 A5 σ5 H5 r5 s5 k5 q, fun a5 A5 σ5 H5 r5 s5 k5 q => ⟨by omega, hlt, ((kk.trans k3).trans k4).trans k5, a5, A5, r5, s5, q⟩⟩, x.keep k24⟩
  · have e1 : ia.xs.drop i = [] := List.drop_eq_nil_of_le (by omega)
    rw [e1] at t2
    exact .inl ⟨q1 (by omega), n.nx a2 A2 σ2 H2 r2 s2 k2 t2.2⟩
/-- a loop by an invariant -/
theorem loop_inv {ok : AH → Prop} {G : ATG} {T : ATS} {e : AX} {D : AEnds} {xs : List AV} {a : ASt} {A : AH} (Pv : Nat → ASt → AH → Prop) (h0 : Pv 0 a A) (hok : ∀ i a A, i ≤ xs.length → Pv i a A → ok A)
    (hs : ∀ i x a A, xs[i]? = some x → Pv i a A → ∀ D' : AEnds, D'.rt = D.rt → D'.bk = D.nx → (∀ a A, Pv (i + 1) a A → D'.nx a A) → (∀ a A, Pv (i + 1) a A → D'.ct a A) → G e x a A fun a2 A2 => T e D' a2 A2)
    (hd : ∀ a A, Pv xs.length a A → D.nx a A) : aLoop ok G T e D xs a A := by
  have main : ∀ (n i : Nat) a A, n = xs.length - i → i ≤ xs.length → Pv i a A → aLoop ok G T e D (xs.drop i) a A := by
    intro n
    induction n with
    | zero =>
      intro i a A hn hi p
      have ei : i = xs.length := by omega
      subst ei
      rw [List.drop_length]
      exact ⟨hok _ a A (Nat.le_refl _) p, hd a A p⟩
    | succ n ih =>
      intro i a A hn hi p
      have hlt : i < xs.length := by omega
      rw [List.drop_eq_getElem_cons hlt]
      exact ⟨hok i a A hi p, hs i _ a A (List.getElem?_eq_getElem hlt) p _ rfl rfl (fun a A q => ih (i + 1) a A (by omega) hlt q) fun a A q => ih (i + 1) a A (by omega) hlt q⟩
  have m := main _ 0 a A rfl (Nat.zero_le _) h0
  simpa using m
def aWhile (t : ATT) (T : ATS) : ATS := fun e D a A => ∃ V : Nat → ASt → AH → Prop, (∃ m, V m a A) ∧ ∀ m a A, V m a A → t e a A fun b A1 => if b = true then ∃ N : ASt → AH → Prop, (∀ a' A', N a' A' → ∃ m', m' < m ∧ V m' a' A') ∧ T e { nx := N, rt := D.rt, bk := D.nx, ct := N } a A1 else D.nx a A1
theorem as_while {body : List Stmt} {t : ATT} (hp : PassesOwn (model X.prog X.w) X.A X.env X.xe) (hc : AT X W c t) (hb : ASs X W body T) : AS X W (.While c body [] pos) (aWhile t T) := ps_low (ps_while hp hc hb) fun D σ H ⟨a, A, D', e, r, s, t, n, x⟩ => by
  obtain ⟨V, ⟨m0, v0⟩, turn⟩ := t
  refine ⟨fun m σ2 H2 => Keep H H2 ∧ ∃ a2 A2, Rel X.K A2 H2 ∧ Sts X.K H2 a2 σ2 ∧ V m a2 A2, ⟨m0, Keep.refl _, a, A, r, s, v0⟩, ?_⟩
  rintro m σ2 H2 ⟨kk, a2, A2, r2, s2, v2⟩
  refine ⟨a2, A2, _, e, r2, s2, turn m a2 A2 v2, fun b A3 b' H3 r3 p3 k3 t3 => ?_, x.keep kk⟩
  obtain rfl : b = b' := p3
  have k13 := kk.trans k3
  cases b with
  | true =>
    rw [if_pos rfl] at t3 ⊢
    obtain ⟨N, hN, t4⟩ := t3
    refine ⟨fun σ' H' => ∃ m', m' < m ∧ Keep H H' ∧ ∃ a2 A2, Rel X.K A2 H' ∧ Sts X.K H' a2 σ' ∧ V m' a2 A2, fun σ' H' h => h, ?_⟩
    have fin : ∀ a' A' σ' H', Rel X.K A' H' → Sts X.K H' a' σ' → Keep H3 H' → N a' A' → ∃ m', m' < m ∧ Keep H H' ∧ ∃ a2 A2, Rel X.K A2 H' ∧ Sts X.K H' a2 σ' ∧ V m' a2 A2 := fun a' A' σ' H' r' s' k' q => by
      obtain ⟨m', hm, v'⟩ := hN a' A' q
      exact ⟨m', hm, k13.trans k', a', A', r', s', v'⟩
    exact ⟨a2, A3, _, e, r3, s2.keep k3, t4, ⟨fin, (n.keep k13).rt, fun a5 A5 σ5 H5 r5 s5 k5 q => (n.keep k13).nx a5 A5 σ5 H5 r5 s5 k5 q, fin⟩, x.keep k13⟩
  | false =>
    rw [if_neg (by decide)] at t3 ⊢
    exact n.nx a2 A3 σ2 H3 r3 (s2.keep k3) k13 t3

/-! ### raise, try -/
def aRaise (C : Addr) : ATS := fun e _ a A => e (.ref C) a A
theorem as_raise (hc : X.calm = true) (tk : Takes X W) (h : PMk X ex (fun _ H Q => Q (.ref C) none H)) : AS X W (.Raise (some ex) none pos) (aRaise C) := ps_low (ps_raise hc tk h) fun D σ H ⟨a, A, D', e, r, s, t, n, x⟩ => x.to _ a A none σ H r s (Keep.refl H) t
def aTryAs (K : PySem.W.Frag) (c : Value) (i : Nat) (T : ATS) (Ts : Addr → Value → ATS) : ATS := fun e D a A => T (fun cls a' A' => ∃ b, PySem.W.exmOne K cls c = some b ∧
  (b = true → ∀ q, A' q = none → Ts q cls (fun _ _ _ => False) { nx := fun a2 A2 => D.nx (a2.set i none) A2, rt := D.rt, bk := fun a2 A2 => D.bk (a2.set i none) A2, ct := fun a2 A2 => D.ct (a2.set i none) A2 } (a'.set i (some (.raw (.ref q)))) A') ∧ (b = false → e cls a' A')) D a A
def aTry (K : PySem.W.Frag) (c : Value) (T : ATS) (Ts : Addr → Value → ATS) : ATS := fun e D a A => T (fun cls a' A' => ∃ b, PySem.W.exmOne K cls c = some b ∧
  (b = true → ∀ q, A' q = none → Ts q cls (fun _ _ _ => False) D a' A') ∧ (b = false → e cls a' A')) D a A
end
abbrev W0 : WX := fun _ _ _ _ => False
section
variable {X : Cx} {W : WX} {x n : Str} {c : Value} {i : Nat} {body suite : List Stmt} {b₀ : Stmt} {np pos pos' : Pos} {T : ATS} {Ts : Addr → Value → ATS}
theorem as_try_as (hs : X.stack = X.env :: X.outer) (hf : X.env.frame = some X.env.locals) (hN : X.N.Nodup) (hi : X.N[i]? = some n) (hln : X.env.kindOf n = some .local) (hc : Names X x c) (tk : Takes X W)
    (hb : ∀ (V : WX) (pn : List (Addr × Obj)) (xe : Value → Shared → Prop), Takes (X.tr pn xe) V → PassesOwn (model X.prog X.w) X.A X.env xe → ASs (X.tr pn xe) V body T)
    (hsu : ∀ (a : Addr) (oe : Obj) (cls : Value) (d : Option Addr) (pn : List (Addr × Obj)), Zc cls d oe → (∃ vs, oe.data = .fields vs) → ASs (X.suite a ((a, oe) :: pn)) W0 (b₀ :: suite) (Ts a cls)) :
    AS X W (.Try body [.ExceptHandler (some (.Name x np)) (some n) (b₀ :: suite) pos'] [] [] pos) (aTryAs X.K c i T Ts) :=
  ps_low (ps_try_as (tb := fun V => LowS X.K V T) (ts := fun q cls d => LowS X.K W0 (Ts q cls)) hs hf hN hi hln hc tk hb hsu) fun D σ H ⟨a, A, D', e, r, s, t, nn, x⟩ => by
    refine ⟨a, A, D', _, r, s, t, nn, ⟨fun cls a' A' d σ' H' r' s' k' q => ?_⟩⟩
    obtain ⟨b, hb1, h1, h2⟩ := q
    refine ⟨b, hb1, fun hb q hq => ?_, fun hb => x.to cls a' A' d σ' H' r' s' k' (h2 hb)⟩
    have n' := nn.keep k'
    exact ⟨_, A', _, _, r', s'.set (x := .raw (.ref q)) rfl i, h1 hb q (r'.gone hq), ⟨fun a5 A5 σ5 H5 r5 s5 k5 q => n'.nx _ A5 _ H5 r5 (s5.unset i) k5 q, n'.rt, fun a5 A5 σ5 H5 r5 s5 k5 q => n'.bk _ A5 _ H5 r5 (s5.unset i) k5 q, fun a5 A5 σ5 H5 r5 s5 k5 q => n'.ct _ A5 _ H5 r5 (s5.unset i) k5 q⟩, ExOk.no⟩
theorem as_try (hs : X.stack = X.env :: X.outer) (hf : X.env.frame = some X.env.locals) (hc : Names X x c) (tk : Takes X W)
    (hb : ∀ (V : WX) (pn : List (Addr × Obj)) (xe : Value → Shared → Prop), Takes (X.tr pn xe) V → PassesOwn (model X.prog X.w) X.A X.env xe → ASs (X.tr pn xe) V body T)
    (hsu : ∀ (a : Addr) (oe : Obj) (cls : Value) (d : Option Addr) (pn : List (Addr × Obj)), Zc cls d oe → (∃ vs, oe.data = .fields vs) → ASs (X.suite a ((a, oe) :: pn)) W0 (b₀ :: suite) (Ts a cls)) :
    AS X W (.Try body [.ExceptHandler (some (.Name x np)) none (b₀ :: suite) pos'] [] [] pos) (aTry X.K c T Ts) :=
  ps_low (ps_try_only (tb := fun V => LowS X.K V T) (ts := fun q cls d => LowS X.K W0 (Ts q cls)) hs hf hc tk hb hsu) fun D σ H ⟨a, A, D', e, r, s, t, nn, x⟩ => by
    refine ⟨a, A, D', _, r, s, t, nn, ⟨fun cls a' A' d σ' H' r' s' k' q => ?_⟩⟩
    obtain ⟨b, hb1, h1, h2⟩ := q
    exact ⟨b, hb1, fun hb q hq => ⟨_, A', _, _, r', s', h1 hb q (r'.gone hq), nn.keep k', ExOk.no⟩, fun hb => x.to cls a' A' d σ' H' r' s' k' (h2 hb)⟩
end

/-! ### a def -/
def startA (N : List Str) (xs : List AV) : ASt := xs.map some ++ List.replicate (N.length - xs.length) none
theorem start_sts {K : PySem.W.Frag} {H : Hp} {N : List Str} {xs : List AV} {vs : List V} (r : Reps K H xs vs) : Sts K H (startA N xs) (L2.start N vs) := by
  unfold startA L2.start
  rw [r.length]
  generalize N.length - xs.length = m
  have rep : ∀ m, Sts K H (List.replicate m none) (List.replicate m none) := by
    intro m
    induction m with
    | zero => exact .nil
    | succ m ih => exact .cons trivial ih
  have go : ∀ {xs : List AV} {vs : List V}, Reps K H xs vs → Sts K H (xs.map some ++ List.replicate m none) (vs.map some ++ List.replicate m none) := by
    intro xs
    induction xs with
    | nil => intro vs h; cases (show vs = [] from h); exact rep m
    | cons x xs ih =>
      intro vs h
      obtain ⟨v, r, e, h1, h2⟩ := h
      subst e
      exact .cons h1 (ih h2)
  exact go r
theorem fun_okA {P : Program} {w : World} {K : PySem.W.Frag} {mg : Str → Option Value} {base : Heap} {x qual : Str} {st : Stmt} {f : Addr} {fd : FuncData} {N ps : List Str} {k : Nat} {sp : ASp} {T : ATS} (F : Fun K x qual st f fd) (S : FnScope N ps (defScope st))
    (len : ∀ xs A k e, sp xs A k e → xs.length = ps.length)
    (hbody : ∀ (cdv : Value) (A : Around) (outer : List Env) (s : Shared) (H : Hp) (E : XK), Room k (A.deeper (envOfC qual (defScope st) s.heap.objs.size f cdv)) →
      ASs (cxOf (L2.CX P w) P w K mg base N qual (defScope st) f cdv A outer s H E) (fun cls d _ H => E cls d H) (defBody st) T)
    (read : ∀ xs A k e, sp xs A k e → T (fun cls _ A' => e cls A') { nx := fun _ A' => k .non A', rt := k } (startA N xs) A) :
    FnOk P w K mg base (L2.CX P w) (k + 1) f fd ps (LSp K sp) := by
  refine F.okX S (fun vs H Q E h => ?_) (fun cdv A outer s H vs Q E hr h => ?_)
  · obtain ⟨xs, A, k, e, r, rs, q, _⟩ := h
    rw [rs.length]
    exact len xs A k e q
  · refine ⟨_, hbody cdv A outer s H E hr, ?_⟩
    obtain ⟨xs, A1, k1, e1, r, rs, q, c, ex⟩ := h
    exact ⟨_, A1, _, _, r, start_sts rs, read xs A1 k1 e1 q, ⟨fun a' A' σ' H' r' s' k' q => c .non A' .non H' r' rfl k' q, c, fun _ _ _ _ _ _ _ q => q.elim, fun _ _ _ _ _ _ _ q => q.elim⟩, ⟨fun cls a' A' d σ' H' r' s' k' q => ex cls A' d H' r' k' q⟩⟩
end Aw

set_option Elab.async false
set_option linter.all false
set_option maxRecDepth 100000
set_option maxHeartbeats 400000
/-! A4: operators, comparisons, subscripts, dicts, lists and the built-in functions, in the abstract world. -/
namespace Aw
open PySem PySem.Spec PyProof.Rows L2
section
variable {K : PySem.W.Frag} {A : AH} {H : Hp}
theorem Rep.int_ {i : Int} {v : V} (h : Rep K H (.int i) v) : v = .int i := h
theorem Rep.str_ {i : Str} {v : V} (h : Rep K H (.str i) v) : v = .str i := h
theorem Rep.ref_ {i : Addr} {v : V} (h : Rep K H (.ref i) v) : v = .ref i := h
theorem Rep.bl_ {i : Bool} {v : V} (h : Rep K H (.bl i) v) : v = .bl i := h
theorem Rep.non_ {v : V} (h : Rep K H .non v) : v = .non := h
theorem Rep.tup_ {xs : List AV} {v : V} (h : Rep K H (.tup xs) v) : ∃ a vs, v = .ref a ∧ H a = some (.tup vs) ∧ Reps K H xs vs := h
theorem sqt_none {a : Addr} {vs : List V} (h : SqT K (fun _ => none) a vs) : SqT K H a vs := by
  rcases h with (h | ⟨o, h⟩) | h
  · cases h
  · cases h
  · exact .inr h
theorem Rel.lst {p : Addr} {xs : List AV} (r : Rel K A H) (e : A p = some (.lst xs)) : ∃ vs, H p = some (.lst vs) ∧ Reps K H xs vs := by
  obtain ⟨F, _, vs, h, rs⟩ := r.at e
  exact ⟨vs, h, rs⟩
theorem Rel.dK {p : Addr} {xs : List (Key × AV)} (r : Rel K A H) (e : A p = some (.dK xs)) : ∃ vs, H p = some (.dK vs) ∧ RepKs K H xs vs := by
  obtain ⟨F, _, vs, h, rs⟩ := r.at e
  exact ⟨vs, h, rs⟩
theorem Rel.dT {p : Addr} {xs : List (List Key × AV)} (r : Rel K A H) (e : A p = some (.dT xs)) : ∃ vs, H p = some (.dT vs) ∧ RepKs K H xs vs := by
  obtain ⟨F, _, vs, h, rs⟩ := r.at e
  exact ⟨vs, h, rs⟩
theorem Rel.putL {p : Addr} {xs ys : List AV} {ws : List V} (r : Rel K A H) (e : A p = some (.lst xs)) (q : Reps K H ys ws) : Rel K (put A p (.lst ys)) (upd H p (.lst ws)) :=
  r.write e rfl fun _ f k => ⟨f, ws, upd_same, q.keep k⟩
theorem Rel.putD {p : Addr} {xs ys : List (Key × AV)} {ws : List (Key × V)} (r : Rel K A H) (e : A p = some (.dK xs)) (q : RepKs K H ys ws) : Rel K (put A p (.dK ys)) (upd H p (.dK ws)) :=
  r.write e rfl fun _ f k => ⟨f, ws, upd_same, q.keep k⟩
theorem Rel.newD {p : Addr} {ys : List (Key × AV)} {ws : List (Key × V)} (r : Rel K A H) (e : H p = none) (q : RepKs K H ys ws) : Rel K (put A p (.dK ys)) (upd H p (.dK ws)) :=
  r.new e fun _ f k => ⟨f, ws, upd_same, q.keep k⟩
end

/-- what may be read as a list -/
def asL (A : AH) : AV → Option (List AV)
  | .fl xs => some xs
  | .ref p => match A p with
    | some (.lst xs) => some xs
    | _ => none
  | _ => none
theorem asL_ref {A : AH} {p : Addr} {xs : List AV} (h : A p = some (.lst xs)) : asL A (.ref p) = some xs := by simp [asL, h]
theorem asL_of {K : PySem.W.Frag} {A : AH} {H : Hp} {x : AV} {v : V} {xs : List AV} (r : Rel K A H) (h : asL A x = some xs) (p : Rep K H x v) : ∃ a vs, v = .ref a ∧ SqL K H a vs ∧ Reps K H xs vs := by
  cases x with
  | fl ys =>
    cases h
    obtain ⟨a, vs, e, s, q⟩ := p
    exact ⟨a, vs, e, s.sqL, q⟩
  | ref q =>
    have h' : (match A q with
      | some (.lst xs) => some xs
      | _ => none) = some xs := h
    split at h'
    · rename_i xs' e
      cases h'
      obtain ⟨vs, h1, h2⟩ := r.lst e
      exact ⟨q, vs, p, .of h1, h2⟩
    · cases h'
  | non => cases h
  | bl _ => cases h
  | int _ => cases h
  | str _ => cases h
  | raw _ => cases h
  | tup _ => cases h
  | st _ => cases h
/-- a list or a tuple -/
def asS (A : AH) : AV → Option (List AV)
  | .tup xs => some xs
  | .st xs => some xs
  | x => asL A x
theorem asS_of {K : PySem.W.Frag} {A : AH} {H : Hp} {x : AV} {v : V} {xs : List AV} (r : Rel K A H) (h : asS A x = some xs) (p : Rep K H x v) : ∃ a vs, v = .ref a ∧ (SqL K H a vs ∨ SqT K H a vs) ∧ Reps K H xs vs := by
  unfold asS at h
  split at h
  · cases h
    obtain ⟨a, vs, e, s, q⟩ := p.tup_
    exact ⟨a, vs, e, .inr (.of s), q⟩
  · cases h
    obtain ⟨a, vs, e, s, q⟩ := p
    exact ⟨a, vs, e, .inr (sqt_none s), q⟩
  · obtain ⟨a, vs, e, s, q⟩ := asL_of r h p
    exact ⟨a, vs, e, .inl s, q⟩

/-! ### ints -/
def rI2 (C : Int → Int → Prop) (g : Int → Int → AV) : AR2 := fun x y A k => onInt (fun i => onInt (fun j => C i j ∧ k (g i j) A) y) x
section
variable {X : Cx}
theorem aop_I {f : Value → Value → Sem Value} {C : Int → Int → Prop} {g : Int → Int → V} {g' : Int → Int → AV} (h : OpR X f (rI C g)) (hg : ∀ K H i j, Rep K H (g' i j) (g i j)) : AOp X f (rI2 C g') := opR_low h fun x y H Q ⟨ax, ay, A, k, r, p, q, t, c⟩ => by
  obtain ⟨i, rfl, t1⟩ := onInt_e t
  obtain ⟨j, rfl, hc, t2⟩ := onInt_e t1
  exact ⟨i, j, p, q, hc, c _ A _ H r (hg _ _ _ _) (Keep.refl H) t2⟩
theorem aop_I0 {f : Value → Value → Sem Value} {g : Int → Int → V} {g' : Int → Int → AV} (h : OpR X f (rI0 g)) (hg : ∀ K H i j, Rep K H (g' i j) (g i j)) : AOp X f (rI2 (fun _ _ => True) g') := opR_low h fun x y H Q ⟨ax, ay, A, k, r, p, q, t, c⟩ => by
  obtain ⟨i, rfl, t1⟩ := onInt_e t
  obtain ⟨j, rfl, hc, t2⟩ := onInt_e t1
  exact ⟨i, j, p, q, c _ A _ H r (hg _ _ _ _) (Keep.refl H) t2⟩
abbrev rSubA : AR2 := rI2 (fun _ _ => True) fun i j => .int (i - j)
theorem o_sub : AOp X (binaryOp .Sub) rSubA := aop_I0 op_sub fun _ _ _ _ => rfl
abbrev rMulA : AR2 := rI2 CMulW fun i j => .int (i * j)
theorem o_mul : AOp X (binaryOp .Mult) rMulA := aop_I op_mulW fun _ _ _ _ => rfl
abbrev rDivA : AR2 := rI2 CDivW fun i j => .int (i / j)
theorem o_div : AOp X (binaryOp .FloorDiv) rDivA := aop_I op_fdivW fun _ _ _ _ => rfl
abbrev rModA : AR2 := rI2 (fun _ j => 0 < j) fun i j => .int (i % j)
theorem o_mod : AOp X (binaryOp .Mod) rModA := aop_I op_mod fun _ _ _ _ => rfl
abbrev rPowA : AR2 := rI2 CPow fun i j => .int (i ^ j.toNat)
theorem o_pow : AOp X (binaryOp .Pow) rPowA := aop_I op_pow fun _ _ _ _ => rfl
abbrev rCmpA (p : Int → Int → Bool) : AR2 := rI2 (fun _ _ => True) fun i j => .bl (p i j)
abbrev rLtI : AR2 := rCmpA fun i j => decide (i < j)
abbrev rLeI : AR2 := rCmpA fun i j => decide (i ≤ j)
abbrev rGtI : AR2 := rCmpA fun i j => decide (j < i)
abbrev rGeI : AR2 := rCmpA fun i j => decide (j ≤ i)
theorem o_le : AOp X (compareOp .LtE) rLeI := aop_I0 op_le fun _ _ _ _ => rfl
theorem o_ge : AOp X (compareOp .GtE) rGeI := aop_I0 op_ge fun _ _ _ _ => rfl
theorem o_ltI : AOp X (compareOp .Lt) rLtI := aop_I0 op_lt fun _ _ _ _ => rfl
theorem o_gtI : AOp X (compareOp .Gt) rGtI := aop_I0 op_gt fun _ _ _ _ => rfl
abbrev rNegA : AR1 := fun x A k => onInt (fun i => k (.int (-i)) A) x
theorem o_neg : AUn X (unaryOp .USub) rNegA := fun pins s σ H x v Q I rx ⟨ax, A, k, r, p, t, c⟩ => by
  obtain ⟨i, rfl, t⟩ := onInt_e t
  exact un_neg pins s σ H x v Q I rx ⟨i, p, c (.int (-i)) A _ H r rfl (Keep.refl H) t⟩

/-! ### + -/
def rAddA : AR2 := fun x y A k => match x, y with
  | .int i, .int j => k (.int (i + j)) A
  | .str s, .str t => s.length + t.length ≤ sizeLine ∧ k (.str (s ++ t)) A
  | .tup xs, .tup ys => xs.length + ys.length ≤ sizeLine ∧ k (.tup (xs ++ ys)) A
  | .ref a, .ref b => (match A a, A b with
    | some (.lst xs), some (.lst ys) => xs.length + ys.length ≤ sizeLine ∧ ∀ p, A p = none → k (.ref p) (put A p (.lst (xs ++ ys)))
    | _, _ => False)
  | _, _ => False
theorem o_add : AOp X (binaryOp .Add) rAddA := opR_low ((op_add.or op_add_str).or (op_catA.or op_cat)) fun x y H Q ⟨ax, ay, A, k, r, p, q, t, c⟩ => by
  unfold rAddA at t
  split at t
  · rename_i i j
    exact .inl (.inl ⟨i, j, p, q, c (.int (i + j)) A _ H r rfl (Keep.refl H) t⟩)
  · rename_i i j
    exact .inl (.inr ⟨i, j, p, q, t.1, c (.str (i ++ j)) A _ H r rfl (Keep.refl H) t.2⟩)
  · rename_i xs ys
    obtain ⟨a, vs, e1, s1, q1⟩ := p.tup_
    obtain ⟨b, ws, e2, s2, q2⟩ := q.tup_
    refine .inr (.inl ⟨a, b, vs, ws, e1, e2, .of s1, .of s2, by rw [q1.length, q2.length]; exact t.1, fun z => ?_, fun _ z => ?_, fun _ _ p' hp => ?_⟩)
    · subst z
      have e : xs = [] := by
        cases xs with
        | nil => rfl
        | cons x xs => have := q1.length; simp at this
      subst e
      exact c (.tup ys) A _ H r ⟨b, ws, rfl, s2, q2⟩ (Keep.refl H) t.2
    · subst z
      have e : ys = [] := by
        cases ys with
        | nil => rfl
        | cons x xs => have := q2.length; simp at this
      subst e
      rw [List.append_nil] at t
      exact c (.tup xs) A _ H r ⟨a, vs, rfl, s1, q1⟩ (Keep.refl H) t.2
    · have kk := Keep.new (o := .tup (vs ++ ws)) hp
      exact c (.tup (xs ++ ys)) A _ _ (r.lay hp) ⟨p', _, rfl, upd_same, (q1.append q2).keep kk⟩ kk t.2
  · rename_i a b
    split at t
    · rename_i xs ys ea eb
      obtain ⟨vs, h1, q1⟩ := r.lst ea
      obtain ⟨ws, h2, q2⟩ := r.lst eb
      refine .inr (.inr ⟨a, b, vs, ws, p, q, h1, h2, by rw [q1.length, q2.length]; exact t.1, fun p' hp => ?_⟩)
      exact c (.ref p') _ _ _ (r.newL hp (q1.append q2)) rfl (Keep.new hp) (t.2 p' (r.gone hp))
    · exact t.elim
  · exact t.elim

/-! ### == -/
mutual
inductive AD (A : AH) : AV → PyData → Prop
  | non : AD A .non .none
  | bl (b : Bool) : AD A (.bl b) (.bool b)
  | int (i : Int) : AD A (.int i) (.int i)
  | str (x : Str) : AD A (.str x) (.str x)
  | tup {xs : List AV} {ds : List PyData} : ADs A xs ds → AD A (.tup xs) (.tuple ds)
  | lst {x : AV} {xs : List AV} {ds : List PyData} : asL A x = some xs → ADs A xs ds → AD A x (.list ds)
inductive ADs (A : AH) : List AV → List PyData → Prop
  | nil : ADs A [] []
  | cons {x : AV} {xs : List AV} {d : PyData} {ds : List PyData} : AD A x d → ADs A xs ds → ADs A (x :: xs) (d :: ds)
end
mutual
theorem AD.dp {K : PySem.W.Frag} {A : AH} {H : Hp} (r : Rel K A H) : ∀ (d : PyData) (x : AV) (v : V), AD A x d → Rep K H x v → Dp K H v d
  | .none, _, _, h, p => by
    cases h
    cases p.non_
    exact .non
  | .bool b, _, _, h, p => by
    cases h
    cases p.bl_
    exact .bl b
  | .int i, _, _, h, p => by
    cases h
    cases p.int_
    exact .int i
  | .str i, _, _, h, p => by
    cases h
    cases p.str_
    exact .str i
  | .tuple ds, _, _, h, p => by
    cases h with
    | tup ha =>
      obtain ⟨a, vs, e, s, q⟩ := p.tup_
      subst e
      exact .tup (.of s) (AD.dps r ds _ _ ha q)
  | .list ds, _, _, h, p => by
    cases h with
    | lst e ha =>
      obtain ⟨a, vs, e, s, q⟩ := asL_of r e p
      subst e
      exact .lst s (AD.dps r ds _ _ ha q)
  | .dict _, _, _, h, _ => by cases h
theorem AD.dps {K : PySem.W.Frag} {A : AH} {H : Hp} (r : Rel K A H) : ∀ (ds : List PyData) (xs : List AV) (vs : List V), ADs A xs ds → Reps K H xs vs → DpAll K H vs ds
  | [], _, _, h, p => by
    cases h
    cases (show _ = [] from p)
    exact .nil
  | d :: ds, _, _, h, p => by
    cases h with
    | cons h1 h2 =>
      obtain ⟨v, r', e, p1, p2⟩ := p
      subst e
      exact .cons (AD.dp r d _ _ h1 p1) (AD.dps r ds _ _ h2 p2)
end
def rDeepA (f : Bool → Bool) : AR2 := fun x y A k => ∃ d e, AD A x d ∧ AD A y e ∧ SeqAt.shaped d = true ∧ SeqAt.shaped e = true ∧ k (.bl (f (PyData.eqv d e))) A
def rEqN (f : Bool → Bool) : AR2 := fun x y A k => match x, y with
  | .int i, .int j => k (.bl (f (decide (i = j)))) A
  | .str i, .str j => k (.bl (f (decide (i = j)))) A
  | .bl i, .bl j => k (.bl (f (decide (i = j)))) A
  | .non, .non => k (.bl (f true)) A
  | .str _, .non => k (.bl (f false)) A
  | .non, .str _ => k (.bl (f false)) A
  | .int _, .non => k (.bl (f false)) A
  | .non, .int _ => k (.bl (f false)) A
  | x, y => rDeepA f x y A k
abbrev rEqA : AR2 := rEqN id
abbrev rNeA : AR2 := rEqN not
theorem dec_inj {α : Type} {β : Type} [DecidableEq α] [DecidableEq β] {g : α → β} (hg : ∀ a b, g a = g b → a = b) (a b : α) : decide (g a = g b) = decide (a = b) := by
  by_cases h : a = b
  · subst h; simp
  · rw [decide_eq_false h, decide_eq_false fun z => h (hg _ _ z)]
theorem low_eqN (f : Bool → Bool) {x y : V} {H : Hp} {Q : VK} (h : LowR X.K (rEqN f) x y H Q) :
    (scal x y = true ∧ Q (.bl (f (decide (x = y)))) H) ∨ ∃ d e, Dp X.K H x d ∧ Dp X.K H y e ∧ SeqAt.shaped d = true ∧ SeqAt.shaped e = true ∧ Q (.bl (f (PyData.eqv d e))) H := by
  obtain ⟨ax, ay, A, k, r, p, q, t, c⟩ := h
  unfold rEqN at t
  split at t
  · rename_i i j
    cases p.int_; cases q.int_
    exact .inl ⟨rfl, by rw [dec_inj (g := V.int) (fun _ _ z => V.int.inj z)]; exact c (.bl _) A _ H r rfl (Keep.refl H) t⟩
  · rename_i i j
    cases p.str_; cases q.str_
    exact .inl ⟨rfl, by rw [dec_inj (g := V.str) (fun _ _ z => V.str.inj z)]; exact c (.bl _) A _ H r rfl (Keep.refl H) t⟩
  · rename_i i j
    cases p.bl_; cases q.bl_
    exact .inl ⟨rfl, by rw [dec_inj (g := V.bl) (fun _ _ z => V.bl.inj z)]; exact c (.bl _) A _ H r rfl (Keep.refl H) t⟩
  · cases p.non_; cases q.non_
    exact .inl ⟨rfl, c (.bl (f true)) A _ H r rfl (Keep.refl H) t⟩
  · cases p.str_; cases q.non_
    exact .inl ⟨rfl, c (.bl (f false)) A _ H r rfl (Keep.refl H) t⟩
  · cases p.non_; cases q.str_
    exact .inl ⟨rfl, c (.bl (f false)) A _ H r rfl (Keep.refl H) t⟩
  · cases p.int_; cases q.non_
    exact .inl ⟨rfl, c (.bl (f false)) A _ H r rfl (Keep.refl H) t⟩
  · cases p.non_; cases q.int_
    exact .inl ⟨rfl, c (.bl (f false)) A _ H r rfl (Keep.refl H) t⟩
  · obtain ⟨d, e, h1, h2, h3, h4, t⟩ := t
    exact .inr ⟨d, e, AD.dp r d _ _ h1 p, AD.dp r e _ _ h2 q, h3, h4, c (.bl (f (PyData.eqv d e))) A _ H r rfl (Keep.refl H) t⟩
theorem o_eq (hu : X.A.units + 64 < cLine) : AOp X (compareOp .Eq) rEqA := opR_low (op_eq.or (op_eqD hu)) fun x y H Q h => low_eqN id h
theorem o_ne (hu : X.A.units + 64 < cLine) : AOp X (compareOp .NotEq) rNeA := opR_low (op_ne.or (op_neD hu)) fun x y H Q h => low_eqN not h
/-! ### is None -/
def isNonA : AV → Bool
  | .non => true
  | .raw .non => true
  | _ => false
def rIsA (f : Bool → Bool) : AR2 := fun x y A k => match y with
  | .non => k (.bl (f (isNonA x))) A
  | _ => False
theorem isNon_rep {K : PySem.W.Frag} {H : Hp} {x : AV} {v : V} (p : Rep K H x v) : decide (v = .non) = isNonA x := by
  cases x with
  | non => cases p.non_; rfl
  | bl b => cases p.bl_; rfl
  | int b => cases p.int_; rfl
  | str b => cases p.str_; rfl
  | ref b => cases p.ref_; rfl
  | raw u =>
    have e : v = u := p
    rw [e]
    cases u <;> rfl
  | tup xs => obtain ⟨a, vs, e, _⟩ := p; subst e; rfl
  | fl xs => obtain ⟨a, vs, e, _⟩ := p; subst e; rfl
  | st xs => obtain ⟨a, vs, e, _⟩ := p; subst e; rfl
theorem o_is : AOp X (compareOp .Is) (rIsA id) := opR_low op_isN fun x y H Q ⟨ax, ay, A, k, r, p, q, t, c⟩ => by
  unfold rIsA at t
  split at t
  · exact ⟨q, by rw [isNon_rep p]; exact c (.bl _) A _ H r rfl (Keep.refl H) t⟩
  · exact t.elim
theorem o_isnot : AOp X (compareOp .IsNot) (rIsA not) := opR_low op_notN fun x y H Q ⟨ax, ay, A, k, r, p, q, t, c⟩ => by
  unfold rIsA at t
  split at t
  · exact ⟨q, by rw [isNon_rep p]; exact c (.bl (!isNonA ax)) A _ H r rfl (Keep.refl H) t⟩
  · exact t.elim
/-! ### < of ints, of tuples of ints -/
def allInts : List AV → Option (List Int)
  | [] => some []
  | .int i :: r => (allInts r).map (i :: ·)
  | _ => none
theorem allInts_eq : ∀ {xs : List AV} {ns : List Int}, allInts xs = some ns → xs = ns.map AV.int
  | [], _, h => by cases h; rfl
  | .int i :: r, _, h => by
    unfold allInts at h
    obtain ⟨m, h1, h2⟩ := Option.map_eq_some_iff.mp h
    subst h2
    rw [allInts_eq h1]
    rfl
  | .non :: _, _, h => by cases h
  | .bl _ :: _, _, h => by cases h
  | .str _ :: _, _, h => by cases h
  | .ref _ :: _, _, h => by cases h
  | .raw _ :: _, _, h => by cases h
  | .tup _ :: _, _, h => by cases h
  | .fl _ :: _, _, h => by cases h
  | .st _ :: _, _, h => by cases h
theorem allInts_map : ∀ ns : List Int, allInts (ns.map AV.int) = some ns
  | [] => rfl
  | n :: ns => by
    show (allInts (ns.map AV.int)).map (n :: ·) = _
    rw [allInts_map ns]
    rfl
def rLtA : AR2 := fun x y A k => match x, y with
  | .int i, .int j => k (.bl (decide (i < j))) A
  | .tup xs, .tup ys => (match allInts xs, allInts ys with
    | some ns, some ms => k (.bl (HT.lexLt ns ms)) A
    | _, _ => False)
  | _, _ => False
theorem o_lt (hu : X.A.units < cLine) : AOp X (compareOp .Lt) rLtA := opR_low (op_lt.or (op_ltT hu)) fun x y H Q ⟨ax, ay, A, k, r, p, q, t, c⟩ => by
  unfold rLtA at t
  split at t
  · rename_i i j
    exact .inl ⟨i, j, p, q, c (.bl _) A _ H r rfl (Keep.refl H) t⟩
  · rename_i xs ys
    split at t
    · rename_i ns ms e1 e2
      cases allInts_eq e1
      cases allInts_eq e2
      obtain ⟨a, vs, ea, s1, q1⟩ := p.tup_
      obtain ⟨b, ws, eb, s2, q2⟩ := q.tup_
      rw [q1.ints_inv] at s1
      rw [q2.ints_inv] at s2
      exact .inr ⟨a, b, ns, ms, ea, eb, .of s1, .of s2, c (.bl _) A _ H r rfl (Keep.refl H) t⟩
    · exact t.elim
  · exact t.elim
end
end Aw

set_option Elab.async false
set_option linter.all false
set_option maxRecDepth 100000
set_option maxHeartbeats 400000
/-! A5: dicts, subscripts, slices, membership, methods of lists and dicts. -/
namespace Aw
open PySem PySem.Spec PyProof.Rows L2
/-! ### tables -/
section
variable {κ : Type} [DecidableEq κ]
def valA (kvs : List (κ × AV)) (k : κ) : Option AV := (kvs.find? fun kv => decide (kv.1 = k)).map (·.2)
def putA (kvs : List (κ × AV)) (k : κ) (v : AV) : List (κ × AV) := if (kvs.any fun kv => decide (kv.1 = k)) = true then kvs.map (fun kv => if kv.1 = k then (kv.1, v) else kv) else kvs ++ [(k, v)]
def dropA (kvs : List (κ × AV)) (k : κ) : List (κ × AV) := kvs.filter fun kv => decide (kv.1 ≠ k)
variable {K : PySem.W.Frag} {H : Hp} {kvs : List (κ × AV)} {ws : List (κ × V)}
theorem RepKs.val (r : RepKs K H kvs ws) (k : κ) : (valA kvs k = none → valV ws k = none) ∧ ∀ v, valA kvs k = some v → ∃ u, valV ws k = some u ∧ Rep K H v u := by
  induction r with
  | nil => exact ⟨fun _ => rfl, fun v e => by cases e⟩
  | @cons p q ps qs h t ih =>
    obtain ⟨e1, r1⟩ := h
    have hA : valA (p :: ps) k = if p.1 = k then some p.2 else valA ps k := by
      unfold valA
      rw [List.find?_cons]
      by_cases e : p.1 = k <;> simp [e]
    by_cases e : p.1 = k
    · rw [hA, if_pos e, valV_pos (p := q) (e1.symm.trans e)]
      exact ⟨fun z => (by cases z), fun v z => (by cases z; exact ⟨_, rfl, r1⟩)⟩
    · rw [hA, if_neg e, valV_neg (p := q) (fun z => e (e1.trans z))]
      exact ih
theorem RepKs.anyk (r : RepKs K H kvs ws) (k : κ) : (kvs.any fun kv => decide (kv.1 = k)) = ws.any fun kv => decide (kv.1 = k) := by
  induction r with
  | nil => rfl
  | cons h t ih => rw [List.any_cons, List.any_cons, ih, h.1]
theorem RepKs.app {l : List (κ × AV)} {m : List (κ × V)} {p : κ × AV} {q : κ × V} (h : RepKs K H l m) (e : p.1 = q.1 ∧ Rep K H p.2 q.2) : RepKs K H (l ++ [p]) (m ++ [q]) := by
  induction h with
  | nil => exact .cons e .nil
  | cons h t ih => exact .cons h ih
theorem RepKs.put (r : RepKs K H kvs ws) (k : κ) {y : AV} {u : V} (ry : Rep K H y u) : RepKs K H (putA kvs k y) (putK ws k u) := by
  unfold putA putK
  rw [r.anyk k]
  by_cases e : (ws.any fun kv => decide (kv.1 = k)) = true
  · rw [if_pos e, if_pos e]
    clear e
    induction r with
    | nil => exact .nil
    | @cons p q ps qs h t ih =>
      rw [List.map_cons, List.map_cons]
      refine .cons ?_ ih
      by_cases z : p.1 = k
      · rw [if_pos z, if_pos (h.1.symm.trans z)]; exact ⟨h.1, ry⟩
      · rw [if_neg z, if_neg (fun y => z (h.1.trans y))]; exact h
  · rw [if_neg e, if_neg e]; exact r.app ⟨rfl, ry⟩
theorem RepKs.drop (r : RepKs K H kvs ws) (k : κ) : RepKs K H (dropA kvs k) (dropK ws k) := by
  unfold dropA dropK
  induction r with
  | nil => exact .nil
  | @cons p q ps qs h t ih =>
    rw [List.filter_cons, List.filter_cons]
    by_cases e : p.1 = k
    · rw [if_neg (by simp [e]), if_neg (by simp [h.1.symm.trans e])]; exact ih
    · rw [if_pos (by simp [e]), if_pos (by simp; exact fun z => e (h.1.trans z))]; exact .cons h ih
end
/-- keys -/
def keyA : AV → Option Key
  | .int i => some (.inl i)
  | .str s => some (.inr s)
  | _ => none
theorem keyA_rep {K : PySem.W.Frag} {H : Hp} {x : AV} {k : Key} {v : V} (h : keyA x = some k) (p : Rep K H x v) : v = kV k := by
  cases x <;> first | (cases h; done) | (cases h; exact p)
def keysA : List AV → Option (List Key)
  | [] => some []
  | x :: r => match keyA x, keysA r with
    | some k, some ks => some (k :: ks)
    | _, _ => none
theorem keysA_rep {K : PySem.W.Frag} {H : Hp} : ∀ {xs : List AV} {ks : List Key} {vs : List V}, keysA xs = some ks → Reps K H xs vs → vs = ks.map kV
  | [], _, _, h, p => by cases h; exact p
  | x :: r, ks, _, h, ⟨v, r', e, p1, p2⟩ => by
    subst e
    unfold keysA at h
    split at h
    · rename_i k ks' e1 e2
      cases h
      rw [keyA_rep e1 p1, keysA_rep e2 p2]
      rfl
    · cases h
/-- what a dict holds at a key: none where it is no dict or no key of its kind -/
def dget (A : AH) (p : Addr) (y : AV) : Option (Option AV) := match A p, y with
  | some (.dK kvs), .int i => some (valA kvs (.inl i))
  | some (.dK kvs), .str s => some (valA kvs (.inr s))
  | some (.dT kvs), .tup ks => (match keysA ks with
    | some k => some (valA kvs k)
    | none => none)
  | _, _ => none
theorem dget_rep {K : PySem.W.Frag} {A : AH} {H : Hp} {p : Addr} {y : AV} {v : V} {o : Option AV} (r : Rel K A H) (h : dget A p y = some o) (q : Rep K H y v) :
    (o = none → DGet H p v none) ∧ ∀ x, o = some x → ∃ u, DGet H p v (some u) ∧ Rep K H x u := by
  have main : ∀ (kvs : List (Key × AV)) (k : Key), A p = some (.dK kvs) → v = kV k → o = valA kvs k → (o = none → DGet H p v none) ∧ ∀ x, o = some x → ∃ u, DGet H p v (some u) ∧ Rep K H x u := by
    intro kvs k e ev eo
    obtain ⟨ws, h1, h2⟩ := r.dK e
    subst ev
    obtain ⟨n1, n2⟩ := h2.val k
    refine ⟨fun z => ?_, fun x z => ?_⟩
    · rw [eo] at z
      have g := DGet.k (k := k) h1
      rw [n1 z] at g
      exact g
    · rw [eo] at z
      obtain ⟨u, e1, e2⟩ := n2 x z
      have g := DGet.k (k := k) h1
      rw [e1] at g
      exact ⟨u, g, e2⟩
  unfold dget at h
  split at h
  · rename_i kvs i e
    cases h
    exact main kvs (.inl i) e q rfl
  · rename_i kvs i e
    cases h
    exact main kvs (.inr i) e q rfl
  · rename_i kvs ks e
    split at h
    · rename_i k ek
      cases h
      obtain ⟨ws, h1, h2⟩ := r.dT e
      obtain ⟨b, vs, e1, hb, rs⟩ := q.tup_
      subst e1
      rw [keysA_rep ek rs] at hb
      obtain ⟨n1, n2⟩ := h2.val k
      refine ⟨fun z => ?_, fun x z => ?_⟩
      · have g := DGet.t (k := k) h1 hb
        rw [n1 z] at g
        exact g
      · obtain ⟨u, e1, e2⟩ := n2 x z
        have g := DGet.t (k := k) h1 hb
        rw [e1] at g
        exact ⟨u, g, e2⟩
    · cases h
  · cases h
/-- the heap behind p[y] = v -/
def dput (A : AH) (p : Addr) (y v : AV) : Option AH := match A p, y with
  | some (.dK kvs), .int i => if kvs.length < sizeLine then some (put A p (.dK (putA kvs (.inl i) v))) else none
  | some (.dK kvs), .str s => if kvs.length < sizeLine then some (put A p (.dK (putA kvs (.inr s) v))) else none
  | some (.dT kvs), .tup ks => (match keysA ks with
    | some k => if kvs.length < sizeLine then some (put A p (.dT (putA kvs k v))) else none
    | none => none)
  | _, _ => none
theorem dput_rep {K : PySem.W.Frag} {A A' : AH} {H : Hp} {p : Addr} {y x : AV} {v u : V} (r : Rel K A H) (h : dput A p y x = some A') (q : Rep K H y v) (qx : Rep K H x u) : ∃ H', DPut H p v u H' ∧ Rel K A' H' ∧ Keep H H' := by
  have main : ∀ (kvs : List (Key × AV)) (k : Key), A p = some (.dK kvs) → v = kV k → kvs.length < sizeLine → A' = put A p (.dK (putA kvs k x)) → ∃ H', DPut H p v u H' ∧ Rel K A' H' ∧ Keep H H' := by
    intro kvs k e ev hl eA
    obtain ⟨ws, h1, h2⟩ := r.dK e
    subst ev
    refine ⟨_, DPut.k (k := k) h1 (by rw [h2.length]; exact hl), ?_, Keep.put (by rw [h1]; trivial)⟩
    rw [eA]
    exact r.putD e (h2.put k qx)
  unfold dput at h
  split at h
  · rename_i kvs i e
    split at h
    · rename_i hl; cases h; exact main kvs (.inl i) e q hl rfl
    · cases h
  · rename_i kvs i e
    split at h
    · rename_i hl; cases h; exact main kvs (.inr i) e q hl rfl
    · cases h
  · rename_i kvs ks e
    split at h
    · rename_i k ek
      split at h
      · rename_i hl
        cases h
        obtain ⟨ws, h1, h2⟩ := r.dT e
        obtain ⟨b, vs, e1, hb, rs⟩ := q.tup_
        subst e1
        rw [keysA_rep ek rs] at hb
        refine ⟨_, DPut.t (k := k) h1 hb (by rw [h2.length]; exact hl), ?_, Keep.put (by rw [h1]; trivial)⟩
        exact r.write e rfl fun _ f kk => ⟨f, _, upd_same, (h2.put k qx).keep kk⟩
      · cases h
    · cases h
  · cases h

/-! ### x[i] -/
def rIxA : AR2 := fun x y A k => match x with
  | .str s => onInt (fun i => s.length ≤ sizeLine ∧ (match atI s.cps.toList i with
    | some c => k (.str ⟨#[c]⟩) A
    | none => False)) y
  | x => (match asS A x with
    | some xs => onInt (fun i => match atI xs i with
      | some v => k v A
      | none => False) y
    | none => onRef (fun p => match dget A p y with
      | some (some v) => k v A
      | _ => False) x)
section
variable {X : Cx}
theorem atI_rep {K : PySem.W.Frag} {H : Hp} {xs : List AV} {vs : List V} {i : Int} {x : AV} (r : Reps K H xs vs) (h : atI xs i = some x) : ∃ v, atI vs i = some v ∧ Rep K H x v := by
  unfold atI at h ⊢
  rw [r.length]
  obtain ⟨j, h1, h2⟩ := Option.bind_eq_some_iff.mp h
  obtain ⟨v, e1, e2⟩ := r.get h2
  exact ⟨v, by rw [h1]; exact e1, e2⟩
theorem ix_dict (hu : X.A.units + 1 < cLine) : IxR X (fun x y H Q => ∃ a v, x = .ref a ∧ DGet H a y (some v) ∧ Q v H) := by
  intro value slice pins s σ H x y v u Q I rx ry ⟨a, z, ex, g, q⟩ hs
  subst ex
  cases (show v = Value.ref a from rx)
  have hT := dict_typeIs I g
  have hg : wpAny (model X.prog X.w) X.A (getItem (.ref a) u) (EP X pins σ Q) X.xe s := d_getItem hu I g ry fun w' s' I' r' => ⟨z, H, I', r', q⟩
  unfold subscriptTail
  refine wpAny_bind ?_
  rw [getitemInPython_of_ne hT.not_modules]
  refine wpAny_bind (wpAny_specialOf hT PySem.F.slot_dict_getitem.lookup ?_)
  have last : wpAny (model X.prog X.w) X.A (subscripted slice false (.ref a) u) (fun r s₃ => wpAny (model X.prog X.w) X.A (letTemporaryGo value (.ref a) r >>= fun _ => pure r) (EP X pins σ Q) X.xe s₃) X.xe s := by
    rw [hs]
    exact wpAny_operating (wpAny_mono hg (fun r s₃ h₃ => wpAny_bind (wpAny_letTemporaryGo (wpAny_pure h₃))) fun _ _ x => x)
  first
    | exact wpAny_pure (wpAny_bind last)
    | exact wpAny_bind (wpAny_pure (wpAny_bind last))
    | exact wpAny_bind last
theorem ixR_low {r r' : R2} (h : IxR X r) (i : ∀ x y H Q, r' x y H Q → r x y H Q) : IxR X r' := fun value slice pins s σ H x y v u Q I rx ry q hs => h value slice pins s σ H x y v u Q I rx ry (i x y H Q q) hs
abbrev AIx (X : Cx) (R : AR2) : Prop := IxR X (LowR X.K R)
theorem o_ix (hu : X.A.units + 1 < cLine) : AIx X rIxA := ixR_low (ix_seq.or (ix_dict hu)) fun x y H Q ⟨ax, ay, A, k, r, p, q, t, c⟩ => by
  unfold rIxA at t
  split at t
  · rename_i s
    obtain ⟨i, rfl, hl, t1⟩ := onInt_e t
    split at t1
    · rename_i ch e
      exact .inl (.inr (.inr ⟨s, i, ch, p, q, hl, e, c (.str ⟨#[ch]⟩) A _ H r rfl (Keep.refl H) t1⟩))
    · exact t1.elim
  · split at t
    · rename_i xs e
      obtain ⟨i, rfl, t1⟩ := onInt_e t
      split at t1
      · rename_i v ev
        obtain ⟨a, vs, e1, s, rs⟩ := asS_of r e p
        obtain ⟨u, e2, ru⟩ := atI_rep rs ev
        have qq := c v A u H r ru (Keep.refl H) t1
        rcases s with s | s
        · exact .inl (.inl ⟨a, vs, i, u, e1, q, s, e2, qq⟩)
        · exact .inl (.inr (.inl ⟨a, vs, i, u, e1, q, s, e2, qq⟩))
      · exact t1.elim
    · obtain ⟨a, rfl, t1⟩ := onRef_e t
      split at t1
      · rename_i v ev
        obtain ⟨u, g, ru⟩ := (dget_rep r ev q).2 v rfl
        exact .inr ⟨a, u, p, g, c v A u H r ru (Keep.refl H) t1⟩
      · exact t1.elim
theorem ae_ix {a b : Expr} {pos : Pos} {W : WX} {Ta Tb : ATE} {R : AR2} (hr : AIx X R) (ha : AE X W a Ta) (hb : AE X W b Tb) (hs : PlainIx b := by intro _ _; rfl) : AE X W (.Subscript a b pos) (aOp R Ta Tb) := pe_low (pe_ix hr ha hb hs) fun _ _ _ h => low_op h
theorem g_dict (hu : X.A.units + 1 < cLine) : PGet X (fun x y H Q => ∃ a v, x = .ref a ∧ DGet H a y (some v) ∧ Q v H) := by
  intro pins s σ H x y v u Q I rx ry ⟨a, z, ex, g, q⟩
  subst ex
  cases (show v = Value.ref a from rx)
  exact d_getItem hu I g ry fun w' s' I' r' => ⟨z, H, I', r', q⟩

/-! ### x[i] = v -/
def rSetA : AR3 := fun o i v A k => onRef (fun p => match A p with
  | some (.lst xs) => onInt (fun z => match ixN xs.length z with
    | some j => k (put A p (.lst (xs.set j v)))
    | none => False) i
  | _ => (match dput A p i v with
    | some A' => k A'
    | none => False)) o
theorem set_dict (hu : X.A.units + 1 < cLine) : PSet X (fun o i v H Q => ∃ a H', o = .ref a ∧ DPut H a i v H' ∧ Q H') := by
  intro pins s σ H o i v ov iv u Q I ro ri rv ⟨a, H', eo, g, q⟩
  subst eo
  cases (show ov = Value.ref a from ro)
  exact d_setItem hu I g ri rv fun s' I' => ⟨H', I', q⟩
theorem pset_or {r r' : TSet} (h : PSet X r) (h' : PSet X r') : PSet X (fun o i v H Q => r o i v H Q ∨ r' o i v H Q) := by
  intro pins s σ H o i v ov iv u Q I ro ri rv q
  rcases q with q | q
  · exact h pins s σ H o i v ov iv u Q I ro ri rv q
  · exact h' pins s σ H o i v ov iv u Q I ro ri rv q
theorem pset_low {r r' : TSet} (h : PSet X r) (z : ∀ o i v H Q, r' o i v H Q → r o i v H Q) : PSet X r' := fun pins s σ H o i v ov iv u Q I ro ri rv q => h pins s σ H o i v ov iv u Q I ro ri rv (z o i v H Q q)
theorem o_set (hu : X.A.units + 1 < cLine) : ASet X rSetA := pset_low (pset_or set_list (set_dict hu)) fun o i v H Q ⟨ao, ai, av, A, k, r, po, pi, pv, t, c⟩ => by
  obtain ⟨p, rfl, t1⟩ := onRef_e t
  split at t1
  · rename_i xs e
    obtain ⟨z, rfl, t2⟩ := onInt_e t1
    split at t2
    · rename_i j ej
      obtain ⟨vs, h1, rs⟩ := r.lst e
      have kk := Keep.put (H := H) (p := p) (o := .lst (vs.set j v)) (by rw [h1]; trivial)
      exact .inl ⟨p, vs, z, j, po, pi, h1, by rw [rs.length]; exact ej, c _ _ (r.putL e (rs.set j pv)) kk t2⟩
    · exact t2.elim
  · split at t1
    · rename_i A' e
      obtain ⟨H', g, r', kk⟩ := dput_rep r e pi pv
      exact .inr ⟨p, H', po, g, c A' H' r' kk t1⟩
    · exact t1.elim

/-! ### in -/
def flatA : AV → Bool
  | .non => true
  | .bl _ => true
  | .int _ => true
  | .str _ => true
  | _ => false
/-- == of flat values -/
def eqF : AV → AV → Bool
  | .non, .non => true
  | .bl a, .bl b => a == b
  | .bl a, .int b => (if a then 1 else 0) == b
  | .int a, .bl b => a == (if b then 1 else 0)
  | .int a, .int b => a == b
  | .str a, .str b => a == b
  | _, _ => false
def inA (x : AV) (xs : List AV) : Bool := xs.any fun y => eqF y x
theorem flat_rep {K : PySem.W.Frag} {H : Hp} {x : AV} {v : V} (h : flatA x = true) (p : Rep K H x v) : flatV v = true := by
  cases x <;> first | (cases h; done) | (rw [show v = _ from p]; rfl)
theorem eqF_rep {K : PySem.W.Frag} {H : Hp} {x y : AV} {v u : V} (hx : flatA x = true) (hy : flatA y = true) (p : Rep K H x v) (q : Rep K H y u) : eqV u v = eqF y x := by
  cases x <;> first | (cases hx; done) | (rw [show v = _ from p]; cases y <;> first | (cases hy; done) | (rw [show u = _ from q]; rfl))
theorem inA_rep {K : PySem.W.Frag} {H : Hp} {x : AV} {v : V} (hx : flatA x = true) (p : Rep K H x v) : ∀ {xs : List AV} {vs : List V}, xs.all flatA = true → Reps K H xs vs → vs.all flatV = true ∧ inV v vs = inA x xs
  | [], _, _, r => by cases (show _ = [] from r); exact ⟨rfl, rfl⟩
  | y :: xs, _, h, ⟨u, r', e, p1, p2⟩ => by
    subst e
    rw [List.all_cons, Bool.and_eq_true] at h
    obtain ⟨i1, i2⟩ := inA_rep hx p h.2 p2
    refine ⟨by rw [List.all_cons, flat_rep h.1 p1, i1]; rfl, ?_⟩
    unfold inV inA at *
    rw [List.any_cons, List.any_cons, eqF_rep hx h.1 p p1, i2]
def rInA (f : Bool → Bool) : AR2 := fun x y A k => match y with
  | .str s => onStr (fun c => match c with
    | ⟨⟨[a]⟩⟩ => k (.bl (f (decide (a ∈ s.cps.toList)))) A
    | _ => False) x
  | y => (match asS A y with
    | some ys => (flatA x = true ∧ ys.all flatA = true ∧ k (.bl (f (inA x ys))) A) ∨
        (∃ d e, AD A x d ∧ ADs A ys e ∧ SeqAt.shaped d = true ∧ SeqAt.shaped (.list e) = true ∧ asL A y = some ys ∧ k (.bl (f (e.any fun z => PyData.eqv z d))) A)
    | none => onRef (fun p => match dget A p x with
      | some o => k (.bl (f o.isSome)) A
      | none => False) y)
theorem low_in (f : Bool → Bool) {x y : V} {H : Hp} {Q : VK} (h : LowR X.K (rInA f) x y H Q) :
    ((∃ (c : Nat) (z : Str), x = .str ⟨#[c]⟩ ∧ y = .str z ∧ Q (.bl (f (decide (c ∈ z.cps.toList)))) H) ∨ (∃ p xs, y = .ref p ∧ (SqL X.K H p xs ∨ SqT X.K H p xs) ∧ flatV x = true ∧ xs.all flatV = true ∧ Q (.bl (f (inV x xs))) H)) ∨
    (∃ d ds, Dp X.K H x d ∧ Dp X.K H y (.list ds) ∧ SeqAt.shaped d = true ∧ SeqAt.shaped (.list ds) = true ∧ Q (.bl (f (ds.any fun z => PyData.eqv z d))) H) ∨ (∃ a o, y = .ref a ∧ DGet H a x o ∧ Q (.bl (f o.isSome)) H) := by
  obtain ⟨ax, ay, A, k, r, p, q, t, c⟩ := h
  unfold rInA at t
  split at t
  · rename_i s
    obtain ⟨ch, rfl, t1⟩ := onStr_e t
    split at t1
    · rename_i a
      exact .inl (.inl ⟨a, s, p, q, c (.bl _) A _ H r rfl (Keep.refl H) t1⟩)
    · exact t1.elim
  · split at t
    · rename_i ys e
      rcases t with ⟨h1, h2, t⟩ | ⟨d, ds, h1, h2, h3, h4, h5, t⟩
      · obtain ⟨a, vs, e1, s, rs⟩ := asS_of r e q
        obtain ⟨i1, i2⟩ := inA_rep h1 p h2 rs
        exact .inl (.inr ⟨a, vs, e1, s, flat_rep h1 p, i1, by rw [i2]; exact c (.bl _) A _ H r rfl (Keep.refl H) t⟩)
      · exact .inr (.inl ⟨d, ds, AD.dp r d _ _ h1 p, AD.dp r (.list ds) _ _ (.lst h5 h2) q, h3, h4, c (.bl _) A _ H r rfl (Keep.refl H) t⟩)
    · obtain ⟨a, rfl, t1⟩ := onRef_e t
      split at t1
      · rename_i o e
        refine .inr (.inr ?_)
        cases o with
        | none => exact ⟨a, none, q, (dget_rep r e p).1 rfl, c (.bl (f false)) A _ H r rfl (Keep.refl H) t1⟩
        | some z =>
          obtain ⟨u, g, _⟩ := (dget_rep r e p).2 z rfl
          exact ⟨a, some u, q, g, c (.bl (f true)) A _ H r rfl (Keep.refl H) t1⟩
      · exact t1.elim
theorem op_dict_in (hu : X.A.units + 1 < cLine) : OpR X (compareOp .In) (fun x y H Q => ∃ a o, y = .ref a ∧ DGet H a x o ∧ Q (.bl (id o.isSome)) H) := by
  intro pins s σ H x y v u Q I rx ry ⟨a, o, ey, g, q⟩
  subst ey
  cases (show u = Value.ref a from ry)
  exact d_in hu I g rx fun s' I' => ⟨.bl o.isSome, H, I', rfl, q⟩
theorem op_dict_notIn (hu : X.A.units + 1 < cLine) : OpR X (compareOp .NotIn) (fun x y H Q => ∃ a o, y = .ref a ∧ DGet H a x o ∧ Q (.bl (!o.isSome)) H) := by
  intro pins s σ H x y v u Q I rx ry ⟨a, o, ey, g, q⟩
  subst ey
  cases (show u = Value.ref a from ry)
  exact d_notIn hu I g rx fun s' I' => ⟨.bl (!o.isSome), H, I', rfl, q⟩
theorem o_in (hu : X.A.units + 65 < cLine) : AOp X (compareOp .In) (rInA id) := opR_low ((op_in_sign.or op_in_seq).or ((op_inD hu).or (op_dict_in (by omega)))) fun x y H Q h => low_in id h
theorem o_notin (hu : X.A.units + 65 < cLine) : AOp X (compareOp .NotIn) (rInA not) := opR_low ((op_notIn_sign.or op_notIn_seq).or ((op_notInD hu).or (op_dict_notIn (by omega)))) fun x y H Q h => low_in not h
end
end Aw

set_option Elab.async false
set_option linter.all false
set_option maxRecDepth 100000
set_option maxHeartbeats 400000
/-! A6: slices, built-in functions, methods of built-in types. -/
namespace Aw
open PySem PySem.Spec PyProof.Rows L2
/-! ### slices -/
def cutA (xs : List AV) (lo hi : Option Int) : List AV := (xs.drop (HT.sIx xs.length 0 lo)).take (HT.sIx xs.length xs.length hi - HT.sIx xs.length 0 lo)
theorem cutA_rep {K : PySem.W.Frag} {H : Hp} {xs : List AV} {vs : List V} (r : Reps K H xs vs) (lo hi : Option Int) : Reps K H (cutA xs lo hi) (cutV vs lo hi) := by
  unfold cutA cutV
  rw [r.length]
  exact (r.drop _).take _
theorem cutA_all (xs : List AV) (lo hi : Option Int) (h : HT.sIx xs.length 0 lo = 0 ∧ HT.sIx xs.length xs.length hi = xs.length) : cutA xs lo hi = xs := by
  unfold cutA
  rw [h.1, h.2]
  simp
abbrev ATO := AX → ASt → AH → (Option Int → AH → Prop) → Prop
abbrev AO_ (X : Cx) (W : WX) (e : Option Expr) (T : ATO) : Prop := PO X e (Low X.K W REq T)
def aNoPart : ATO := fun _ _ A k => k none A
def aPart (T : ATE) : ATO := fun e a A k => T e a A fun x A1 => onInt (fun i => k (some i) A1) x
def rSlA (x : AV) (lo hi : Option Int) (A : AH) (k : AK) : Prop := match x with
  | .str s => s.length ≤ sizeLine ∧ k (.str (cutS s lo hi)) A
  | .tup xs => k (.tup (cutA xs lo hi)) A
  | x => (match asL A x with
    | some xs => ∀ p, A p = none → k (.ref p) (put A p (.lst (cutA xs lo hi)))
    | none => False)
def aSl (T : ATE) (Tl Th : ATO) : ATE := fun e a A k => T e a A fun x A1 => Tl e a A1 fun l A2 => Th e a A2 fun h A3 => rSlA x l h A3 k
section
variable {X : Cx} {W : WX} {ex a b c o : Expr} {pos : Pos} {Ta Tb Tc : ATE}
theorem po_low {e : Option Expr} {t t' : TO} (h : PO X e t) (i : ∀ σ H Q, t' σ H Q → t σ H Q) : PO X e t' := ⟨fun pins s σ H Q I q => h.run pins s σ H Q I (i σ H Q q)⟩
theorem ao_none : AO_ X W none aNoPart := po_low po_none fun σ H Q ⟨a, A, k, e, r, s, t, c, x⟩ => c none A none H r rfl (Keep.refl H) t
theorem ao_some (h : AE X W ex Ta) : AO_ X W (some ex) (aPart Ta) := po_low (po_some h) fun σ H Q ⟨a, A, k, e, r, s, t, c, x⟩ => ⟨a, A, _, e, r, s, t, fun v A1 u H1 r1 p1 k1 t1 => by
  obtain ⟨i, rfl, t2⟩ := onInt_e t1
  exact ⟨i, p1, c (some i) A1 (some i) H1 r1 rfl k1 t2⟩, x⟩
def LowSl (K : PySem.W.Frag) : V → Option Int → Option Int → Hp → VK → Prop := fun x lo hi H Q => ∃ ax A k, Rel K A H ∧ Rep K H ax x ∧ rSlA ax lo hi A k ∧ ∀ v A' u H', Rel K A' H' → Rep K H' v u → Keep H H' → k v A' → Q u H'
theorem slR_low {r r' : V → Option Int → Option Int → Hp → VK → Prop} (h : SlR X r) (i : ∀ x lo hi H Q, r' x lo hi H Q → r x lo hi H Q) : SlR X r' := fun pins s σ H x v vl vu lo hi sl Q I rx hs pl pu q => h pins s σ H x v vl vu lo hi sl Q I rx hs pl pu (i x lo hi H Q q)
theorem o_sl : SlR X (LowSl X.K) := slR_low (sl_str.or (sl_tupA.or sl_list)) fun x lo hi H Q ⟨ax, A, k, r, p, t, c⟩ => by
  unfold rSlA at t
  split at t
  · rename_i s
    exact .inl ⟨s, p, t.1, c (.str _) A _ H r rfl (Keep.refl H) t.2⟩
  · rename_i xs
    obtain ⟨b, vs, e1, hb, rs⟩ := p.tup_
    refine .inr (.inl ⟨b, vs, e1, .of hb, fun h => ?_, fun h q hq => ?_⟩)
    · rw [rs.length] at h
      rw [cutA_all xs lo hi h] at t
      exact c (.tup xs) A _ H r ⟨b, vs, rfl, hb, rs⟩ (Keep.refl H) t
    · have kk := Keep.new (o := .tup (cutV vs lo hi)) hq
      exact c (.tup (cutA xs lo hi)) A _ _ (r.lay hq) ⟨q, _, rfl, upd_same, (cutA_rep rs lo hi).keep kk⟩ kk t
  · split at t
    · rename_i xs e
      obtain ⟨b, vs, e1, hb, rs⟩ := asL_of r e p
      exact .inr (.inr ⟨b, vs, e1, hb, fun q hq => c (.ref q) _ _ _ (r.newL hq (cutA_rep rs lo hi)) rfl (Keep.new hq) (t q (r.gone hq))⟩)
    · exact t.elim
theorem ae_slice {lo hi : Option Expr} {p2 : Pos} {Tl Th : ATO} (he : AE X W ex Ta) (hl : AO_ X W lo Tl) (hh : AO_ X W hi Th) : AE X W (.Subscript ex (.Slice lo hi none p2) pos) (aSl Ta Tl Th) := pe_low (pe_slice o_sl he hl hh) fun σ H Q ⟨a, A, k, e, r, s, t, c, x⟩ => by
  refine ⟨a, A, _, e, r, s, t, fun v A1 u H1 r1 p1 k1 t1 => ?_, x⟩
  refine ⟨a, A1, _, e, r1, s.keep k1, t1, fun l A2 l' H2 r2 p2 k2 t2 => ?_, x.keep k1⟩
  obtain rfl : l = l' := p2
  refine ⟨a, A2, _, e, r2, s.keep (k1.trans k2), t2, fun h A3 h' H3 r3 p3 k3 t3 => ?_, x.keep (k1.trans k2)⟩
  obtain rfl : h = h' := p3
  exact ⟨v, A3, k, r3, p1.keep (k2.trans k3), t3, fun v A' u H' r' p' k' q => c v A' u H' r' p' (((k1.trans k2).trans k3).trans k') q⟩
/-- xs[::-1] -/
def aRev (T : ATE) : ATE := fun e a A k => T e a A fun x A1 => match asL A1 x with
  | some xs => ∀ p, A1 p = none → k (.ref p) (put A1 p (.lst xs.reverse))
  | none => False
theorem ae_rev {k : Nat} {p1 p2 p3 : Pos} (he : AE X W ex Ta) : AE X W (.Subscript ex (.Slice none none (some (.UnaryOp .USub (.Constant (.int 1) k p1) p2)) p3) pos) (aRev Ta) := pe_low (pe_revL he) fun σ H Q ⟨a, A, k, e, r, s, t, c, x⟩ => by
  refine ⟨a, A, _, e, r, s, t, fun v A1 u H1 r1 p1 k1 t1 => ?_, x⟩
  split at t1
  · rename_i xs e1
    obtain ⟨b, vs, e2, hb, rs⟩ := asL_of r1 e1 p1
    exact ⟨b, vs, e2, hb, fun q hq => c (.ref q) _ _ _ (r1.newL hq rs.reverse) rfl (k1.trans (Keep.new hq)) (t1 q (r1.gone hq))⟩
  · exact t1.elim
end

/-! ### built-in functions -/
theorem reps1 {K : PySem.W.Frag} {H : Hp} {x : AV} {vs : List V} (h : Reps K H [x] vs) : ∃ v, vs = [v] ∧ Rep K H x v := by
  obtain ⟨v, r, e, p, q⟩ := h
  cases (show r = [] from q)
  exact ⟨v, e, p⟩
theorem reps2 {K : PySem.W.Frag} {H : Hp} {x y : AV} {vs : List V} (h : Reps K H [x, y] vs) : ∃ v w, vs = [v, w] ∧ Rep K H x v ∧ Rep K H y w := by
  obtain ⟨v, r, e, p, q⟩ := h
  obtain ⟨w, e2, p2⟩ := reps1 q
  subst e2
  exact ⟨v, w, e, p, p2⟩
def on1 (P : AV → Prop) (xs : List AV) : Prop := match xs with
  | [x] => P x
  | _ => False
def on2 (P : AV → AV → Prop) (xs : List AV) : Prop := match xs with
  | [x, y] => P x y
  | _ => False
theorem on1_e {P : AV → Prop} {xs : List AV} (h : on1 P xs) : ∃ x, xs = [x] ∧ P x := by
  match xs, h with
  | [x], h => exact ⟨x, rfl, h⟩
theorem on2_e {P : AV → AV → Prop} {xs : List AV} (h : on2 P xs) : ∃ x y, xs = [x, y] ∧ P x y := by
  match xs, h with
  | [x, y], h => exact ⟨x, y, rfl, h⟩
section
variable {X : Cx}
/-- len -/
def lenA (A : AH) (x : AV) : Option Nat := match x with
  | .str s => if s.length ≤ sizeLine then some s.length else none
  | x => (match asS A x with
    | some xs => some xs.length
    | none => (match x with
      | .ref p => (match A p with
        | some (.dK kvs) => some kvs.length
        | _ => none)
      | _ => none))
def rLenA : ARn := fun xs A k => on1 (fun x => match lenA A x with
  | some n => k (.int n) A
  | none => False) xs
theorem b_len : ACall X (.builtin "len") rLenA := callR_low (call_len.or call_lenD) fun xs H Q ⟨ax, A, k, r, p, t, c⟩ => by
  obtain ⟨x, rfl, t1⟩ := on1_e t
  obtain ⟨v, rfl, q⟩ := reps1 p
  split at t1
  · rename_i n e
    have fin := c (.int n) A (.int n) H r rfl (Keep.refl H) t1
    unfold lenA at e
    split at e
    · rename_i s
      split at e
      · rename_i hl
        cases e
        exact .inl ⟨_, s.length, rfl, by rw [q.str_]; exact ⟨hl, rfl⟩, fin⟩
      · cases e
    · split at e
      · rename_i xs e1
        cases e
        obtain ⟨b, vs, e2, hb, rs⟩ := asS_of r e1 q
        refine .inl ⟨_, xs.length, rfl, ?_, fin⟩
        rw [e2]
        rcases hb with hb | hb
        · exact .inl ⟨vs, hb, rs.length.symm⟩
        · exact .inr ⟨vs, hb, rs.length.symm⟩
      · split at e
        · rename_i a hs0 h0
          split at e
          · rename_i kvs e1
            cases e
            obtain ⟨ws, h1, h2⟩ := r.dK e1
            refine .inr ⟨a, ws, by rw [q.ref_], h1, ?_⟩
            rw [h2.length]
            exact fin
          · cases e
        · cases e
  · exact t1.elim
/-- list(xs), tuple(xs) -/
def rListA : ARn := fun xs A k => on1 (fun x => match asS A x with
  | some ys => ∀ p, A p = none → k (.ref p) (put A p (.lst ys))
  | none => False) xs
theorem b_list : ACall X (.type "list") rListA := callR_low call_list_of fun xs H Q ⟨ax, A, k, r, p, t, c⟩ => by
  obtain ⟨x, rfl, t1⟩ := on1_e t
  obtain ⟨v, rfl, q⟩ := reps1 p
  split at t1
  · rename_i ys e
    obtain ⟨b, vs, e2, hb, rs⟩ := asS_of r e q
    exact ⟨b, vs, by rw [e2], hb, fun l hl => c (.ref l) _ _ _ (r.newL hl rs) rfl (Keep.new hl) (t1 l (r.gone hl))⟩
  · exact t1.elim
def rTupleA : ARn := fun xs A k => on1 (fun x => match x with
  | .tup ys => k (.tup ys) A
  | x => (match asL A x with
    | some ys => k (.tup ys) A
    | none => False)) xs
theorem b_tuple : ACall X (.type "tuple") rTupleA := callR_low call_tuple_of fun xs H Q ⟨ax, A, k, r, p, t, c⟩ => by
  obtain ⟨x, rfl, t1⟩ := on1_e t
  obtain ⟨v, rfl, q⟩ := reps1 p
  split at t1
  · rename_i ys
    obtain ⟨b, vs, e1, hb, rs⟩ := q.tup_
    exact ⟨b, vs, by rw [e1], .inr ⟨.of hb, c (.tup ys) A _ H r ⟨b, vs, rfl, hb, rs⟩ (Keep.refl H) t1⟩⟩
  · split at t1
    · rename_i ys e
      obtain ⟨b, vs, e2, hb, rs⟩ := asL_of r e q
      refine ⟨b, vs, by rw [e2], .inl ⟨hb, fun l hl => ?_⟩⟩
      have kk := Keep.new (o := .tup vs) hl
      exact c (.tup ys) A _ _ (r.lay hl) ⟨l, vs, rfl, upd_same, rs.keep kk⟩ kk t1
    · exact t1.elim
/-- int(b), int(n) -/
def rIntA : ARn := fun xs A k => on1 (fun x => match x with
  | .int i => k (.int i) A
  | .bl b => k (.int (if b then 1 else 0)) A
  | _ => False) xs
theorem b_int : ACall X (.type "int") rIntA := callR_low call_int1 fun xs H Q ⟨ax, A, k, r, p, t, c⟩ => by
  obtain ⟨x, rfl, t1⟩ := on1_e t
  obtain ⟨v, rfl, q⟩ := reps1 p
  split at t1
  · rename_i i
    exact .inl ⟨i, by rw [q.int_], c (.int i) A _ H r rfl (Keep.refl H) t1⟩
  · rename_i b
    exact .inr ⟨b, by rw [q.bl_], c (.int _) A _ H r rfl (Keep.refl H) t1⟩
  · exact t1.elim
/-- abs(n) -/
def rAbsA : ARn := fun xs A k => on1 (onInt fun i => k (.int (if i < 0 then -i else i)) A) xs
theorem b_abs : ACall X (.builtin "abs") rAbsA := callR_low call_abs fun xs H Q ⟨ax, A, k, r, p, t, c⟩ => by
  obtain ⟨x, rfl, t1⟩ := on1_e t
  obtain ⟨v, rfl, q⟩ := reps1 p
  obtain ⟨i, rfl, t2⟩ := onInt_e t1
  exact ⟨i, by rw [q.int_], c (.int _) A _ H r rfl (Keep.refl H) t2⟩
/-- sorted of ints, of a set of ints -/
def rSortedA : ARn := fun xs A k => on1 (fun x => match asS A x with
  | some ys => (match allInts ys with
    | some ns => (∃ zs, asL A x = some zs) ∧ ns.length < 64 ∧ ∀ ns' : List Int, ns'.Perm ns → ns'.Pairwise (· ≤ ·) → ∀ p, A p = none → k (.ref p) (put A p (.lst (ns'.map AV.int)))
    | none => False)
  | none => False) xs
theorem b_sorted : ACall X (.builtin "sorted") rSortedA := callR_low cr_sorted fun xs H Q ⟨ax, A, k, r, p, t, c⟩ => by
  obtain ⟨x, rfl, t1⟩ := on1_e t
  obtain ⟨v, rfl, q⟩ := reps1 p
  split at t1
  · rename_i ys e
    split at t1
    · rename_i ns en
      obtain ⟨⟨zs, ez⟩, h64, t2⟩ := t1
      cases allInts_eq en
      obtain ⟨b, vs, e2, hb, rs⟩ := asL_of r ez q
      have e3 : zs = ns.map AV.int := by
        have z : asS A x = some zs := by
          unfold asS
          split
          · cases ez
          · cases ez
          · exact ez
        rw [z] at e
        exact Option.some.inj e
      subst e3
      rw [rs.ints_inv] at hb
      exact ⟨b, ns, by rw [e2], hb, h64, fun ns' l h1 h2 hl => c (.ref l) _ _ _ (r.newL hl (Reps.ints ns')) rfl (Keep.new hl) (t2 ns' h1 h2 l (r.gone hl))⟩
    · exact t1.elim
  · exact t1.elim
/-- max(m, n), min(m, n) -/
def rMax2A : ARn := fun xs A k => on2 (fun x y => onInt (fun i => onInt (fun j => k (.int (if j > i then j else i)) A) y) x) xs
theorem b_max2 (hc : X.calm = true) : ACall X (.builtin "max") rMax2A := callR_low (call_max2 hc) fun xs H Q ⟨ax, A, k, r, p, t, c⟩ => by
  obtain ⟨x, y, rfl, t1⟩ := on2_e t
  obtain ⟨v, w, rfl, q1, q2⟩ := reps2 p
  obtain ⟨i, rfl, t2⟩ := onInt_e t1
  obtain ⟨j, rfl, t3⟩ := onInt_e t2
  exact ⟨i, j, by rw [q1.int_, q2.int_], c (.int _) A _ H r rfl (Keep.refl H) t3⟩
def rMin2A : ARn := fun xs A k => on2 (fun x y => onInt (fun i => onInt (fun j => k (.int (if j < i then j else i)) A) y) x) xs
theorem b_min2 (hc : X.calm = true) : ACall X (.builtin "min") rMin2A := callR_low (call_min2 hc) fun xs H Q ⟨ax, A, k, r, p, t, c⟩ => by
  obtain ⟨x, y, rfl, t1⟩ := on2_e t
  obtain ⟨v, w, rfl, q1, q2⟩ := reps2 p
  obtain ⟨i, rfl, t2⟩ := onInt_e t1
  obtain ⟨j, rfl, t3⟩ := onInt_e t2
  exact ⟨i, j, by rw [q1.int_, q2.int_], c (.int _) A _ H r rfl (Keep.refl H) t3⟩
/-- min, max of a list or a tuple of data that are alike -/
def rBestA (f : PyData → List PyData → PyData) : ARn := fun xs A k => on1 (fun x => match asS A x with
  | some ys => ∃ d ds, ADs A ys (d :: ds) ∧ PySem.W.AlikeAll (d :: ds) ∧ PyData.depthAll (d :: ds) ≤ 60 ∧ ∀ (i : Nat) y, ys[i]? = some y → AD A y (f d ds) → k y A
  | none => False) xs
end
end Aw

set_option Elab.async false
set_option linter.all false
set_option maxRecDepth 100000
set_option maxHeartbeats 4000000
/-! A7: set of a list of ints, and what is sorted of it; min and max; isinstance; dict of pairs. -/
namespace Aw
open PySem PySem.Spec PyProof.Rows L2
section
variable {P : Program} {w : World} {A : Around} {E : Value → Shared → Prop} {s : Shared}
abbrev noSet (w : World) : Obj := { cls := .type "set", dict := none, data := .set #[] 0 (.fresh 0 0 (!w.params.followText "set-order")) }
/-- set(l), l a list of ints -/
theorem set_of_list {l : Addr} {items : Array Value} (ns : List Int) {Q : Value → Shared → Prop} (hh : A.handled = none) (hl : s.heap.IsList l items) (hit : IntsAre items.toList ns) (hb : ns.length + 1 < scanBound)
    (h : ∀ (h' : Heap) (tk c : Nat), SetR w h' s.heap.objs.size (fun j => decide (j ∈ ns)) c → c ≤ ns.length → (∀ b o, s.heap.get? b = some o → h'.get? b = some o) → Q (.ref s.heap.objs.size) { s with heap := h', toks := tk }) :
    wpAny (model P w) A (call (.type "set") [.ref l]) Q E s := by
  have sz : items.size = ns.length := by
    have q := IntsAre.length hit
    rwa [Array.length_toList] at q
  obtain ⟨c, tl, hmro⟩ := F.called_set.mro
  have hmade := F.called_set.made
  have hsub := F.called_set.sub
  refine wpAny_call (codeAny_of_tree ?_)
  show wpAny _ _ (callAny (.type "set") _) _ _ _
  refine wpAny_pure ⟨Code.quiet_builtin _ (by decide +kernel), codeAny_builtin F.entry_type_call ?_⟩
  rw [Around.under_plain (weight_type_call_type "set" [.ref l] []) rfl]
  have h1 := F.called_set.notType
  have h2 := F.called_set.canCreate
  have hct := F.typeCall_set_1 (.ref l)
  repeat (any_goals (first | assumption | wp_step))
  refine codeAny_mono (code_set_led1 (.ref l) (E := E) (Q₁ := fun obj s₁ => obj = .ref s.heap.objs.size ∧ s₁ = { s with heap := s.heap.push (noSet w) }) ⟨rfl, rfl⟩) fun r s₁ hr => ?_
  match r, hr with
  | .error e, hr => exact hr
  | .ok .next, hr => exact hr.elim
  | .ok .brk, hr => exact hr.elim
  | .ok .cont, hr => exact hr.elim
  | .ok (.ret obj), hr =>
    obtain ⟨rfl, rfl⟩ := hr
    have hS : (s.heap.push (noSet w)).get? s.heap.objs.size = some (noSet w) := Heap.get?_push_size _ rfl
    have hT : Shared.TypeIs { s with heap := s.heap.push (noSet w) } (.ref s.heap.objs.size) "set" := ⟨_, hS, rfl⟩
    have hli := F.called_set.init.lookup
    have hbi := F.called_set.init.bind (.ref s.heap.objs.size)
    repeat (any_goals (first | assumption | wp_step))
    refine codeAny_mono (codeAny_call_builtin (R := wants (fun r s₂ => r = .none ∧ ∃ h' tk c, s₂ = { s with heap := h', toks := tk } ∧ SetR w h' s.heap.objs.size (fun j => decide (j ∈ ns)) c ∧ c ≤ ns.length ∧
        (∀ b o, s.heap.get? b = some o → h'.get? b = some o)) E) F.called_set.init.plain F.entry_set_init (check_set_init_1 hT ?_)) fun r₂ s₂ hr₂ => ?_
    · obtain ⟨⟨ocls, odict, odata, oslots⟩, hol, hcl, nl, hdl⟩ := hl
      simp only at hcl hdl
      subst hcl
      subst hdl
      have hol' : (s.heap.push (noSet w)).get? l = some { cls := .type "list", dict := odict, data := .seq items nl, slots := oslots } := Heap.get?_push_of_some _ hol
      have hsls := F.sub_list_set
      have hslf := F.sub_list_frozenset
      have hne : (Value.type "list" == Value.type "dict") = false := by decide
      have hl1 : (s.heap.push (noSet w)).IsList l items := ⟨_, hol', rfl, nl, rfl⟩
      unfold Builtin.«set.__init__» noKeywords Builtin.Frozenset.updateFrom
      generalize hPI : pyIter = PI
      wp_walk
      subst hPI
      refine wpAny_pyIter_list hl1 (wpAny_bind (wpAny_runValue ?_))
      have lt := Heap.lt_size hol
      have neI : l ≠ (s.heap.push (noSet w)).objs.size := by
        rw [Heap.size_push]; exact Nat.ne_of_lt (Nat.lt_succ_of_lt lt)
      have nS : s.heap.objs.size ∉ [(s.heap.push (noSet w)).objs.size, l] := by
        rw [Heap.size_push]
        simp only [List.mem_cons, List.mem_singleton, List.not_mem_nil, or_false, not_or]
        exact ⟨Nat.ne_of_lt (Nat.lt_succ_self _), Nat.ne_of_gt lt⟩
      have vals : ∀ (i : Nat) (v : Value), items[i]? = some v → ∃ k t, ns[i]? = some k ∧ v = .int k t := fun i v hv => by
        have hi : i < ns.length := by rw [← sz]; exact (Array.getElem?_eq_some_iff.mp hv).1
        obtain ⟨t, e⟩ := PyProof.Rows.IntsAre.int_at hit i v (by rw [Array.getElem?_toList]; exact hv)
        refine ⟨ns[i], t, List.getElem?_eq_getElem hi, ?_⟩
        rw [e, List.getD_eq_getElem?_getD, List.getElem?_eq_getElem hi] <;> rfl
      refine set_update_ints ((Walks.list (A := A.in1.in1.in1) (by simp [hh]) _ l neI items).toS) s.heap.objs.size nS ns sz hb vals (items.size - 0) 0 _ (by omega) (Nat.zero_le _)
        ⟨⟨_, Heap.get?_push_size _ rfl, rfl, rfl⟩, (hl1.push _)⟩ ⟨0, Nat.le_refl 0, setR_new_at (Heap.get?_push_of_some _ hS)⟩ fun s' c' hm hc' hS' => ?_
      obtain ⟨h', g2, d', tk', os'⟩ := s'
      obtain rfl : g2 = s.gens := hm.gens
      obtain rfl : d' = s.drawn := hm.drawn
      obtain rfl : os' = s.os := hm.os
      show wpAny _ _ _ _ _ _
      refine wpAny_pure ?_
      show wpAny _ _ (ret Value.none) _ _ _
      rw [sz] at hc'
      refine wpAny_pure ⟨rfl, h', tk', c', rfl, hS', hc', fun b o e => ?_⟩
      have lb : b < s.heap.objs.size := Heap.lt_size e
      refine hm.heap b o ?_ (Heap.get?_push_of_some _ (Heap.get?_push_of_some _ e))
      simp only [List.mem_cons, List.mem_singleton, List.not_mem_nil, or_false, not_or]
      exact ⟨Nat.ne_of_lt lb, by rw [Heap.size_push]; exact Nat.ne_of_lt (Nat.lt_succ_of_lt lb)⟩
    · match r₂, hr₂ with
      | .error e, hr₂ => exact hr₂
      | .ok .next, hr₂ => exact hr₂.elim
      | .ok .brk, hr₂ => exact hr₂.elim
      | .ok .cont, hr₂ => exact hr₂.elim
      | .ok (.ret r), hr₂ =>
        obtain ⟨rfl, h', tk, c', rfl, hS', hc', hk'⟩ := hr₂
        repeat (any_goals (first | assumption | wp_step))
        exact h _ _ _ hS' hc' hk'
end
end Aw

set_option Elab.async false
set_option linter.all false
set_option maxRecDepth 100000
set_option maxHeartbeats 400000
/-! A8: sets, sorted, min and max, isinstance, dict of pairs, str, and the methods of lists and dicts. -/
namespace Aw
open PySem PySem.Spec PyProof.Rows L2
section
variable {X : Cx} {W : WX} {ex : Expr}
theorem ae_imp {T T' : ATE} (h : AE X W ex T) (i : ∀ e a A k, T' e a A k → T e a A k) : AE X W ex T' := pe_low h fun σ H Q ⟨a, A, k, e, r, s, t, c, x⟩ => ⟨a, A, k, e, r, s, i e a A k t, c, x⟩
end
/-! ### sorting, told -/
def insI (x : Int) : List Int → List Int
  | [] => [x]
  | y :: r => if x ≤ y then x :: y :: r else y :: insI x r
def sortI (xs : List Int) : List Int := xs.foldr insI []
theorem insI_perm (x : Int) : ∀ xs : List Int, (insI x xs).Perm (x :: xs)
  | [] => .refl _
  | y :: r => by
    unfold insI
    split
    · exact .refl _
    · exact ((insI_perm x r).cons y).trans (.swap x y r)
theorem sortI_perm : ∀ xs : List Int, (sortI xs).Perm xs
  | [] => .refl _
  | x :: r => (insI_perm x (sortI r)).trans ((sortI_perm r).cons x)
theorem insI_mem {x z : Int} {xs : List Int} : z ∈ insI x xs ↔ z = x ∨ z ∈ xs := by
  rw [(insI_perm x xs).mem_iff, List.mem_cons]
theorem insI_sorted (x : Int) : ∀ xs : List Int, xs.Pairwise (· ≤ ·) → (insI x xs).Pairwise (· ≤ ·)
  | [], _ => List.pairwise_singleton _ _
  | y :: r, h => by
    unfold insI
    have h' := List.pairwise_cons.mp h
    split
    · rename_i hx
      refine List.pairwise_cons.mpr ⟨fun z hz => ?_, h⟩
      rcases List.mem_cons.mp hz with e | hz
      · subst e; exact hx
      · exact Int.le_trans hx (h'.1 z hz)
    · rename_i hx
      refine List.pairwise_cons.mpr ⟨fun z hz => ?_, insI_sorted x r h'.2⟩
      rcases insI_mem.mp hz with e | hz
      · subst e; omega
      · exact h'.1 z hz
theorem sortI_sorted : ∀ xs : List Int, (sortI xs).Pairwise (· ≤ ·)
  | [] => .nil
  | x :: r => insI_sorted x _ (sortI_sorted r)
theorem sortI_uniq {xs ys : List Int} (h : ys.Perm xs) (s : ys.Pairwise (· ≤ ·)) : ys = sortI xs :=
  List.Perm.eq_of_pairwise (fun a b _ _ h1 h2 => Int.le_antisymm h1 h2) s (sortI_sorted xs) (h.trans (sortI_perm xs).symm)
theorem sortI_mem {z : Int} {xs : List Int} : z ∈ sortI xs ↔ z ∈ xs := (sortI_perm xs).mem_iff
theorem sortI_length (xs : List Int) : (sortI xs).length = xs.length := (sortI_perm xs).length_eq
/-- rising, each once -/
def dedI : List Int → List Int
  | [] => []
  | x :: r => if x ∈ dedI r then dedI r else x :: dedI r
theorem dedI_mem {z : Int} : ∀ {xs : List Int}, z ∈ dedI xs ↔ z ∈ xs
  | [] => .rfl
  | x :: r => by
    unfold dedI
    have ih := dedI_mem (z := z) (xs := r)
    split
    · rename_i h
      rw [ih, List.mem_cons]
      exact ⟨.inr, fun h' => h'.elim (fun e => by subst e; exact dedI_mem.mp h) id⟩
    · rw [List.mem_cons, List.mem_cons, ih]
theorem dedI_nodup : ∀ xs : List Int, (dedI xs).Nodup
  | [] => .nil
  | x :: r => by
    unfold dedI
    split
    · exact dedI_nodup r
    · rename_i h; exact List.nodup_cons.mpr ⟨h, dedI_nodup r⟩
theorem dedI_length : ∀ xs : List Int, (dedI xs).length ≤ xs.length
  | [] => Nat.le_refl _
  | x :: r => by
    have := dedI_length r
    unfold dedI
    split
    · rw [List.length_cons]; omega
    · rw [List.length_cons, List.length_cons]; omega
theorem dedI_of_nodup : ∀ {xs : List Int}, xs.Nodup → dedI xs = xs
  | [], _ => rfl
  | x :: r, h => by
    have h' := List.nodup_cons.mp h
    have ih := dedI_of_nodup h'.2
    unfold dedI
    rw [ih, if_neg h'.1]
theorem dedI_lt : ∀ {xs : List Int}, ¬ xs.Nodup → (dedI xs).length < xs.length
  | [], h => (h .nil).elim
  | x :: r, h => by
    unfold dedI
    split
    · have := dedI_length r
      rw [List.length_cons]; omega
    · rename_i hx
      have hr : ¬ r.Nodup := fun z => h (List.nodup_cons.mpr ⟨fun m => hx (dedI_mem.mpr m), z⟩)
      have := dedI_lt hr
      rw [List.length_cons, List.length_cons]; omega
abbrev setI (xs : List Int) : List Int := sortI (dedI xs)
theorem setI_mem {z : Int} {xs : List Int} : z ∈ setI xs ↔ z ∈ xs := sortI_mem.trans dedI_mem
theorem setI_lt (xs : List Int) : (setI xs).Pairwise (· < ·) := by
  have h1 := sortI_sorted (dedI xs)
  have h2 : (setI xs).Nodup := (sortI_perm (dedI xs)).nodup_iff.mpr (dedI_nodup xs)
  exact (h1.and h2).imp fun ⟨a, b⟩ => by omega
theorem nodup_len {a b : List Int} (ha : a.Nodup) (hb : b.Nodup) (h : ∀ z, z ∈ a ↔ z ∈ b) : a.Perm b := (List.perm_ext_iff_of_nodup ha hb).mpr h
theorem lt_nodup {xs : List Int} (h : xs.Pairwise (· < ·)) : xs.Nodup := h.imp fun h e => by omega
theorem setI_uniq {xs ys : List Int} (s : ys.Pairwise (· < ·)) (h : ∀ z, z ∈ ys ↔ z ∈ xs) : ys = setI xs :=
  sortI_uniq (nodup_len (lt_nodup s) (dedI_nodup xs) fun z => (h z).trans dedI_mem.symm) (s.imp fun h => by omega)
section
variable {X : Cx}
/-- set(l) -/
def rSetOf (w : World) : ARn := fun xs A k => on1 (fun x => match asL A x with
  | some ys => (match allInts ys with
    | some ns => ns.length < 4000 ∧ ∀ p, A p = none → k (.ref p) (put A p (.hraw (SetO w p (fun j => decide (j ∈ ns)) (dedI ns).length)))
    | none => False)
  | none => False) xs
theorem cr_setL (hc : X.calm = true) : CallR X (.type "set") (fun xs H Q => ∃ a ns, xs = [V.ref a] ∧ SqL X.K H a (ns.map V.int) ∧ ns.length < 4000 ∧ ∀ p, H p = none → Q (.ref p) (upd H p (SetO X.w p (fun j => decide (j ∈ ns)) (dedI ns).length))) := by
  intro pins s σ H xs us Q I r ⟨a, ns, ex, hs, hl, q⟩
  subst ex
  obtain ⟨its, rv, pl, _⟩ := I.list hs
  rw [Vals.ref1 r]
  have hit : IntsAre its.toArray.toList ns := by simpa using rv.ints
  refine set_of_list ns (I.ok.hd hc) pl.isList hit (by unfold scanBound; omega) fun h' tk c R hcl k => ?_
  have hn : H s.heap.objs.size = none := I.hok.fresh (Nat.le_refl _)
  have ec : c = (dedI ns).length := by
    obtain ⟨o, es, ep, t, ho, _, hd, _, nd, hm, _, _, hz, _⟩ := id R
    have pm : (es.toList.map keyOf).Perm (dedI ns) := nodup_len nd (dedI_nodup ns) fun z => by rw [← hm z, dedI_mem]; simp
    rw [← hz, ← pm.length_eq]
    simp
  subst ec
  exact ⟨.ref _, _, I.laid (t' := tk) k (Nat.le_refl _) (setO_new R), rfl, q _ hn⟩
theorem b_set (hc : X.calm = true) : ACall X (.type "set") (rSetOf X.w) := callR_low (cr_setL hc) fun xs H Q ⟨ax, A, k, r, p, t, c⟩ => by
  obtain ⟨x, rfl, t1⟩ := on1_e t
  obtain ⟨v, rfl, q⟩ := reps1 p
  split at t1
  · rename_i ys e
    split at t1
    · rename_i ns en
      cases allInts_eq en
      obtain ⟨b, vs, e2, hb, rs⟩ := asL_of r e q
      rw [rs.ints_inv] at hb
      exact ⟨b, ns, by rw [e2], hb, t1.1, fun l hl => c (.ref l) _ _ _ (r.new (o' := .hraw (SetO X.w l (fun j => decide (j ∈ ns)) (dedI ns).length)) hl fun F f k => ⟨f, upd_same, trivial⟩) rfl (Keep.new hl) (t1.2 l (r.gone hl))⟩
    · exact t1.elim
  · exact t1.elim
/-- sorted of a set -/
def rSortedS_ (w : World) : ARn := fun xs A k => on1 (onRef fun a => ∃ S n, A a = some (.hraw (SetO w a S n)) ∧ n < 64 ∧ ∀ ns : List Int, ns.Pairwise (· < ·) → (∀ z : Int, z ∈ ns ↔ S z = true) → ns.length = n → ∀ p, A p = none → k (.ref p) (put A p (.lst (ns.map AV.int)))) xs
theorem b_sortedS (hc : X.calm = true) : ACall X (.builtin "sorted") (rSortedS_ X.w) := callR_low (cr_sortedSet hc) fun xs H Q ⟨ax, A, k, r, p, t, c⟩ => by
  obtain ⟨x, rfl, t1⟩ := on1_e t
  obtain ⟨v, rfl, q⟩ := reps1 p
  obtain ⟨a, rfl, S, n, e, h64, t2⟩ := onRef_e t1
  obtain ⟨F, _, h1, _⟩ := r.at e
  exact ⟨a, S, n, by rw [q.ref_], h1, h64, fun ns l h2 h3 h4 hl => c (.ref l) _ _ _ (r.newL hl (Reps.ints ns)) rfl (Keep.new hl) (t2 ns h2 h3 h4 l (r.gone hl))⟩
/-- len of a set -/
def rLenS_ (w : World) : ARn := fun xs A k => on1 (onRef fun a => ∃ S n, A a = some (.hraw (SetO w a S n)) ∧ n < 2 ^ 60 ∧ k (.int (n : Nat)) A) xs
theorem b_lenS : ACall X (.builtin "len") (rLenS_ X.w) := by
  intro pins s σ H xs us Q I rr ⟨ax, A, k, r, p, t, c⟩
  obtain ⟨x, rfl, t1⟩ := on1_e t
  obtain ⟨v, rfl, q⟩ := reps1 p
  obtain ⟨a, rfl, S, n, e, hn, t2⟩ := onRef_e t1
  obtain ⟨F, _, h1, _⟩ := r.at e
  cases q.ref_
  rw [Vals.ref1 rr]
  obtain ⟨o, es, ep, tt, ho, hx, hd, _, _, hb, hf, hs⟩ := (setO_get I h1).setOf (P := X.prog)
  refine PySem.call_len_set ho hx hd hf (by omega) ?_
  rw [hs]
  exact ⟨.int (n : Nat), H, I.tok _, ⟨_, rfl⟩, c (.int (n : Nat)) A _ H r rfl (Keep.refl H) t2⟩
theorem callR_or {f : Value} {R R' : ARn} (h : ACall X f R) (h' : ACall X f R') : ACall X f (fun xs A k => R xs A k ∨ R' xs A k) := callR_low (CallR.or h h') fun xs H Q ⟨ax, A, k, r, p, t, c⟩ => by
  rcases t with t | t
  · exact .inl ⟨ax, A, k, r, p, t, c⟩
  · exact .inr ⟨ax, A, k, r, p, t, c⟩
/-- sorted, told -/
def rSortA : ARn := fun xs A k => on1 (fun x => match asL A x with
  | some ys => (match allInts ys with
    | some ns => ns.length < 64 ∧ ∀ p, A p = none → k (.ref p) (put A p (.lst ((sortI ns).map AV.int)))
    | none => False)
  | none => False) xs
theorem b_sort : ACall X (.builtin "sorted") rSortA := callR_low b_sorted fun xs H Q ⟨ax, A, k, r, p, t, c⟩ => ⟨ax, A, k, r, p, by
  obtain ⟨x, rfl, t1⟩ := on1_e t
  split at t1
  · rename_i ys e
    split at t1
    · rename_i ns en
      have e2 : asS A x = some ys := by
        unfold asS
        split
        · cases e
        · cases e
        · exact e
      show rSortedA [x] A k
      show (match asS A x with
        | some ys => (match allInts ys with
          | some ns => (∃ zs, asL A x = some zs) ∧ ns.length < 64 ∧ ∀ ns' : List Int, ns'.Perm ns → ns'.Pairwise (· ≤ ·) → ∀ p, A p = none → k (.ref p) (put A p (.lst (ns'.map AV.int)))
          | none => False)
        | none => False)
      rw [e2]
      show (match allInts ys with
          | some ns => (∃ zs, asL A x = some zs) ∧ ns.length < 64 ∧ ∀ ns' : List Int, ns'.Perm ns → ns'.Pairwise (· ≤ ·) → ∀ p, A p = none → k (.ref p) (put A p (.lst (ns'.map AV.int)))
          | none => False)
      rw [en]
      exact ⟨⟨ys, e⟩, t1.1, fun ns' h1 h2 => by rw [sortI_uniq h1 h2]; exact t1.2⟩
    · exact t1.elim
  · exact t1.elim, c⟩
/-- sorted(set(l)): the rising list, each once -/
def aSortedSet (T : ATE) : ATE := fun e a A k => T e a A fun x A1 => match asL A1 x with
  | some ys => (match allInts ys with
    | some ns => ns.length < 64 ∧ ∀ p, A1 p = none → k (.ref p) (put A1 p (.lst ((setI ns).map AV.int)))
    | none => False)
  | none => False
/-- len(set(l)) -/
def aLenSet (T : ATE) : ATE := fun e a A k => T e a A fun x A1 => match asL A1 x with
  | some ys => (match allInts ys with
    | some ns => ns.length < 4000 ∧ k (.int (dedI ns).length) A1
    | none => False)
  | none => False
end
/-- fewer objects may be told -/
structure Less (A' A : AH) : Prop where
  to : ∀ a o, A' a = some o → A a = some o
section
variable {X : Cx} {W : WX} {a : Expr} {pos pos' p p' : Pos} {Ta : ATE}
theorem ae_less {T T' : ATE} {ex : Expr} (h : AE X W ex T) (i : ∀ e a A k, T' e a A k → T e a A (fun v A1 => ∃ A2, (∀ b o, A2 b = some o → A1 b = some o) ∧ k v A2)) : AE X W ex T' := pe_low h fun σ H Q ⟨a, A, k, e, r, s, t, c, x⟩ =>
  ⟨a, A, _, e, r, s, i e a A k t, fun v A' u H' r' p' k' ⟨A2, l, q⟩ => c v A2 u H' (r'.less l) p' k' q, x⟩
theorem put_less {A : AH} {p : Addr} {o : AO} (h : A p = none) : ∀ b u, A b = some u → put A p o b = some u := fun b u e => by rw [put_ne (ane e h)]; exact e
theorem ae_sortedSet (hc : X.calm = true) (h1 : X.mg "sorted" = none) (h2 : X.mg "set" = none) (ha : AE X W a Ta) (g1 : Gl X "sorted" := by rfl) (g2 : Gl X "set" := by rfl)
    (s1 : starEach [.Call (.Name "set" p') [a] [] pos'] X.env = (false, eval (.Call (.Name "set" p') [a] [] pos') X.env) :: starEach [] X.env := by rfl) (s2 : starEach [a] X.env = (false, eval a X.env) :: starEach [] X.env := by rfl) :
    AE X W (.Call (.Name "sorted" p) [.Call (.Name "set" p') [a] [] pos'] [] pos) (aSortedSet Ta) :=
  pe_low (pe_callB (cr_sortedSet hc) g1 h1 (by decide +kernel) (pa_cons (pe_callTy (cr_setL hc) g2 h2 (by decide +kernel) (pa_cons ha pa_nil s2) (he := s2)) pa_nil s1) (he := s1)) fun σ H Q ⟨st, A, k, e, r, s, t, c, x⟩ => by
    refine ⟨st, A, _, e, r, s, t, fun v A1 u H1 r1 p1 k1 t1 => ?_, x⟩
    split at t1
    · rename_i ys e1
      split at t1
      · rename_i ns en
        cases allInts_eq en
        obtain ⟨b, vs, e2, hb, rs⟩ := asL_of r1 e1 p1
        rw [rs.ints_inv] at hb
        refine ⟨b, ns, by rw [e2], hb, by omega, fun q hq => ⟨q, _, _, rfl, upd_same, Nat.lt_of_le_of_lt (dedI_length ns) t1.1, fun ms l m1 m2 m3 hl => ?_⟩⟩
        rw [setI_uniq (xs := ns) m1 (fun z => (m2 z).trans (by simp))]
        have kk := Keep.new (o := SetO X.w q (fun j => decide (j ∈ ns)) (dedI ns).length) hq
        have hl' : H1 l = none := by
          by_cases z : l = q
          · rw [z]; exact hq
          · rw [upd_ne z] at hl; exact hl
        exact c (.ref l) _ _ _ ((r1.lay hq).newL hl (Reps.ints _)) rfl ((k1.trans kk).trans (Keep.new hl)) (t1.2 l (r1.gone hl'))
      · exact t1.elim
    · exact t1.elim
theorem ae_lenSet (hc : X.calm = true) (h1 : X.mg "len" = none) (h2 : X.mg "set" = none) (ha : AE X W a Ta) (g1 : Gl X "len" := by rfl) (g2 : Gl X "set" := by rfl)
    (s1 : starEach [.Call (.Name "set" p') [a] [] pos'] X.env = (false, eval (.Call (.Name "set" p') [a] [] pos') X.env) :: starEach [] X.env := by rfl) (s2 : starEach [a] X.env = (false, eval a X.env) :: starEach [] X.env := by rfl) :
    AE X W (.Call (.Name "len" p) [.Call (.Name "set" p') [a] [] pos'] [] pos) (aLenSet Ta) :=
  pe_low (pe_callB b_lenS g1 h1 (by decide +kernel) (pa_cons (pe_callTy (cr_setL hc) g2 h2 (by decide +kernel) (pa_cons ha pa_nil s2) (he := s2)) pa_nil s1) (he := s1)) fun σ H Q ⟨st, A, k, e, r, s, t, c, x⟩ => by
    refine ⟨st, A, _, e, r, s, t, fun v A1 u H1 r1 p1 k1 t1 => ?_, x⟩
    split at t1
    · rename_i ys e1
      split at t1
      · rename_i ns en
        cases allInts_eq en
        obtain ⟨b, vs, e2, hb, rs⟩ := asL_of r1 e1 p1
        rw [rs.ints_inv] at hb
        refine ⟨b, ns, by rw [e2], hb, t1.1, fun q hq => ?_⟩
        have kk := Keep.new (o := SetO X.w q (fun j => decide (j ∈ ns)) (dedI ns).length) hq
        refine ⟨[.ref q], put A1 q (.hraw (SetO X.w q (fun j => decide (j ∈ ns)) (dedI ns).length)), fun v A2 => A2 = put A1 q (.hraw (SetO X.w q (fun j => decide (j ∈ ns)) (dedI ns).length)) ∧ k v A1, r1.new (o' := .hraw (SetO X.w q (fun j => decide (j ∈ ns)) (dedI ns).length)) hq (fun F f k => ⟨f, upd_same, trivial⟩), Reps.one rfl, ⟨_, _, put_same, ?_, rfl, t1.2⟩, fun v A' u H' r' p' k' q' => c v A1 u H' (r'.less (by rw [q'.1]; exact put_less (r1.gone hq))) p' ((k1.trans kk).trans k') q'.2⟩
        have := dedI_length ns
        omega
      · exact t1.elim
    · exact t1.elim
end
end Aw

set_option Elab.async false
set_option linter.all false
set_option maxRecDepth 100000
set_option maxHeartbeats 400000
/-! A9: min and max, isinstance, all, dict of pairs, str, methods of lists and dicts. -/
namespace Aw
open PySem PySem.Spec PyProof.Rows L2
theorem Vals.getU : ∀ {xs : List V} {us : List Value} {i : Nat} {u : Value}, Vals xs us → us[i]? = some u → ∃ x, xs[i]? = some x ∧ RelV x u
  | _, _, _, _, .nil, e => by simp at e
  | _, _, 0, _, .cons r _, e => by simp at e; subst e; exact ⟨_, rfl, r⟩
  | _, _, i + 1, u, .cons _ t, e => by
    obtain ⟨x, h1, h2⟩ := Vals.getU (i := i) (u := u) t (by simpa using e)
    exact ⟨x, by simpa using h1, h2⟩
theorem DpAll.at_ {K : PySem.W.Frag} {H : Hp} : ∀ {vs : List V} {ds : List PyData} {i : Nat} {v : V}, DpAll K H vs ds → vs[i]? = some v → ∃ d, ds[i]? = some d ∧ Dp K H v d
  | _, _, _, _, .nil, e => by simp at e
  | _, _, 0, _, .cons r _, e => by simp at e; subst e; exact ⟨_, rfl, r⟩
  | _, _, i + 1, v, .cons _ t, e => by
    obtain ⟨d, h1, h2⟩ := DpAll.at_ (i := i) (v := v) t (by simpa using e)
    exact ⟨d, by simpa using h1, h2⟩
theorem ADs.at_ {A : AH} : ∀ {xs : List AV} {ds : List PyData} {i : Nat} {x : AV}, ADs A xs ds → xs[i]? = some x → ∃ d, ds[i]? = some d ∧ AD A x d
  | _, _, _, _, .nil, e => by simp at e
  | _, _, 0, _, .cons r _, e => by simp at e; subst e; exact ⟨_, rfl, r⟩
  | _, _, i + 1, x, .cons _ t, e => by
    obtain ⟨d, h1, h2⟩ := ADs.at_ (i := i) (x := x) t (by simpa using e)
    exact ⟨d, by simpa using h1, h2⟩
theorem canLay_at : ∀ {ds : List PyData} {i : Nat} {d : PyData}, PyData.canLayAll0 ds = true → ds[i]? = some d → d.canLay0 = true
  | [], _, _, _, e => by simp at e
  | x :: r, 0, d, h, e => by simp at e; subst e; simp [PyData.canLayAll0] at h; exact h.1
  | x :: r, i + 1, d, h, e => by simp [PyData.canLayAll0] at h; exact canLay_at h.2 (by simpa using e)
/-- the least (the greatest) item of a list or a tuple of data that are alike -/
def rBest (f : PyData → List PyData → PyData) : ARn := fun xs A k => on1 (fun x => match asS A x with
  | some ys => ∃ d ds, ADs A ys (d :: ds) ∧ PySem.W.AlikeAll (d :: ds) ∧ PyData.canLayAll0 (d :: ds) = true ∧ PyData.depthAll (d :: ds) ≤ 60 ∧ ∀ (i : Nat) y, ys[i]? = some y → (d :: ds)[i]? = some (f d ds) → k y A
  | none => False) xs
section
variable {X : Cx}
def rBestL (K : PySem.W.Frag) (f : PyData → List PyData → PyData) : List V → Hp → VK → Prop := fun xs H Q => ∃ a vs d ds, xs = [.ref a] ∧ (SqL K H a vs ∨ SqT K H a vs) ∧ DpAll K H vs (d :: ds) ∧ PySem.W.AlikeAll (d :: ds) ∧ PyData.canLayAll0 (d :: ds) = true ∧ PyData.depthAll (d :: ds) ≤ 60 ∧
  ∀ (i : Nat) v, vs[i]? = some v → (d :: ds)[i]? = some (f d ds) → Q v H
theorem best_fin {pins : List (Addr × Obj)} {σ : L2.St} {H : Hp} {s : Shared} {Q : VK} {vs : List V} {its : List Value} {ds : List PyData} {g : PyData} (I : Inv X pins σ H s) (rv : Vals vs its) (hd : DpAll X.K H vs ds) (hl : PyData.canLayAll0 ds = true)
    (q : ∀ (i : Nat) v, vs[i]? = some v → ds[i]? = some g → Q v H) {i : Nat} {v : Value} {h' : Heap} {tk : Nat} {bs : List Addr} (hi : its[i]? = some v) (r : Reads h' v g bs) (hk : ∀ b o, s.heap.get? b = some o → h'.get? b = some o) :
    EP X pins σ Q v { s with heap := h', toks := tk } := by
  obtain ⟨x, e1, r1⟩ := Vals.getU rv hi
  obtain ⟨d, e2, h2⟩ := DpAll.at_ hd e1
  obtain ⟨as, r2⟩ := Dp.reads I d x v h2 r1
  have e3 := SeqAt.Reads.unique d g v as bs (canLay_at hl e2) (PyProof.Rows.Reads.keeps hk r2) r
  subst e3
  exact ⟨x, H, I.kept hk, r1, q i x e1 e2⟩
theorem cr_minD (hc : X.calm = true) (hu : X.A.units + 64 < cLine) : CallR X (.builtin "min") (rBestL X.K PySem.W.minD) := by
  intro pins s σ H xs us Q I r ⟨a, vs, d, ds, ex, hs, hd, ha, hl, hz, q⟩
  subst ex
  rw [Vals.ref1 r]
  rcases hs with hs | hs
  · obtain ⟨its, rv, pl, _⟩ := I.list hs
    obtain ⟨as, rd⟩ := Dp.readsAll I _ _ _ hd rv
    exact PySem.W.min_list_data (I.ok.hd hc) pl.isList (by simpa using rd) ha (by omega) fun i v h' tk bs hi r' hk => best_fin I rv hd hl q (by simpa using hi) r' hk
  · obtain ⟨its, rv, pl, _⟩ := I.tuple hs
    obtain ⟨as, rd⟩ := Dp.readsAll I _ _ _ hd rv
    exact PySem.W.min_tuple_data (I.ok.hd hc) pl (by simpa using rd) ha (by omega) fun i v h' tk bs hi r' hk => best_fin I rv hd hl q (by simpa using hi) r' hk
theorem cr_maxD (hc : X.calm = true) (hu : X.A.units + 64 < cLine) : CallR X (.builtin "max") (rBestL X.K PySem.W.maxD) := by
  intro pins s σ H xs us Q I r ⟨a, vs, d, ds, ex, hs, hd, ha, hl, hz, q⟩
  subst ex
  rw [Vals.ref1 r]
  rcases hs with hs | hs
  · obtain ⟨its, rv, pl, _⟩ := I.list hs
    obtain ⟨as, rd⟩ := Dp.readsAll I _ _ _ hd rv
    exact PySem.W.max_list_data (I.ok.hd hc) pl.isList (by simpa using rd) ha (by omega) fun i v h' tk bs hi r' hk => best_fin I rv hd hl q (by simpa using hi) r' hk
  · obtain ⟨its, rv, pl, _⟩ := I.tuple hs
    obtain ⟨as, rd⟩ := Dp.readsAll I _ _ _ hd rv
    exact PySem.W.max_tuple_data (I.ok.hd hc) pl (by simpa using rd) ha (by omega) fun i v h' tk bs hi r' hk => best_fin I rv hd hl q (by simpa using hi) r' hk
theorem low_best {f : PyData → List PyData → PyData} {xs : List V} {H : Hp} {Q : VK} (h : LowC X.K (rBest f) xs H Q) : rBestL X.K f xs H Q := by
  obtain ⟨ax, A, k, r, p, t, c⟩ := h
  obtain ⟨x, rfl, t1⟩ := on1_e t
  obtain ⟨v, rfl, q⟩ := reps1 p
  split at t1
  · rename_i ys e
    obtain ⟨d, ds, h1, h2, h3, h4, t2⟩ := t1
    obtain ⟨b, vs, e2, hb, rs⟩ := asS_of r e q
    refine ⟨b, vs, d, ds, by rw [e2], hb, AD.dps r _ _ _ h1 rs, h2, h3, h4, fun i v hv hg => ?_⟩
    obtain ⟨y, ey, ry⟩ := rs.getV hv
    exact c y A v H r ry (Keep.refl H) (t2 i y ey hg)
  · exact t1.elim
theorem b_min (hc : X.calm = true) (hu : X.A.units + 64 < cLine) : ACall X (.builtin "min") (rBest PySem.W.minD) := callR_low (cr_minD hc hu) fun _ _ _ h => low_best h
theorem b_max (hc : X.calm = true) (hu : X.A.units + 64 < cLine) : ACall X (.builtin "max") (rBest PySem.W.maxD) := callR_low (cr_maxD hc hu) fun _ _ _ h => low_best h
end
/-! ### isinstance -/
inductive Ty0 where
  | non | bl | int | str | tup | lst | dct
  deriving DecidableEq
def Ty0.name : Ty0 → String
  | .non => "NoneType"
  | .bl => "bool"
  | .int => "int"
  | .str => "str"
  | .tup => "tuple"
  | .lst => "list"
  | .dct => "dict"
def Ty0.sub (a b : Ty0) : Bool := decide (a = b) || (decide (a = .bl) && decide (b = .int))
theorem kit0 (a b : Ty0) (hb : b ≠ .non) : kitB a.name b.name = some (a.sub b) := by
  cases a <;> cases b <;> first | exact absurd rfl hb | decide +kernel
def tyOf (n : String) : Option Ty0 := if n = "int" then some .int else if n = "bool" then some .bl else if n = "str" then some .str else if n = "tuple" then some .tup else if n = "list" then some .lst else if n = "dict" then some .dct else none
theorem tyOf_name {n : String} {b : Ty0} (h : tyOf n = some b) : n = b.name ∧ b ≠ .non := by
  unfold tyOf at h
  repeat' (split at h; · rename_i e; cases h; exact ⟨e, by decide⟩)
  cases h
def tyA (A : AH) : AV → Option Ty0
  | .non => some .non
  | .bl _ => some .bl
  | .int _ => some .int
  | .str _ => some .str
  | .tup _ => some .tup
  | .st _ => some .tup
  | .fl _ => some .lst
  | .ref p => match A p with
    | some (.lst _) => some .lst
    | some (.dK _) => some .dct
    | some (.dT _) => some .dct
    | _ => none
  | .raw _ => none
theorem tyA_rep {K : PySem.W.Frag} {A : AH} {H : Hp} {x : AV} {v : V} {a : Ty0} (r : Rel K A H) (h : tyA A x = some a) (p : Rep K H x v) : TyX K H v (.type a.name) := by
  cases x with
  | non => cases h; cases p.non_; exact .base .non
  | bl b => cases h; cases p.bl_; exact .base (.bl b)
  | int b => cases h; cases p.int_; exact .base (.int b)
  | str b => cases h; cases p.str_; exact .base (.str b)
  | tup xs => cases h; obtain ⟨q, vs, e, hq, _⟩ := p.tup_; subst e; exact .base (.tup hq)
  | st xs =>
    cases h
    obtain ⟨q, vs, e, hq, _⟩ := p
    subst e
    rcases hq with (z | ⟨o, z⟩) | ⟨o, its, n, e1, e2, _⟩
    · cases z
    · cases z
    · exact .kTuple e1 e2
  | fl xs =>
    cases h
    obtain ⟨q, vs, e, hq, _⟩ := p
    subst e
    rcases hq with ⟨o, z⟩ | (z | ⟨o, z⟩) | ⟨o, its, n, e1, e2, _⟩
    · exact .base (.frz z)
    · cases z
    · cases z
    · exact .kList e1 e2
  | raw _ => cases h
  | ref q =>
    cases p.ref_
    have h' : (match A q with
      | some (.lst _) => some .lst
      | some (.dK _) => some .dct
      | some (.dT _) => some .dct
      | _ => (none : Option Ty0)) = some a := h
    split at h'
    · rename_i xs e
      cases h'
      obtain ⟨vs, h1, _⟩ := r.lst e
      exact .base (.lst h1)
    · rename_i xs e
      cases h'
      obtain ⟨vs, h1, _⟩ := r.dK e
      exact .base (.dK h1)
    · rename_i xs e
      cases h'
      obtain ⟨vs, h1, _⟩ := r.dT e
      exact .base (.dT h1)
    · cases h'
def rIsiA : ARn := fun xs A k => on2 (fun x c => match c with
  | .raw (.ty n) => (match tyA A x, tyOf n with
    | some a, some b => k (.bl (a.sub b)) A
    | _, _ => False)
  | _ => False) xs
section
variable {X : Cx}
theorem b_isi : ACall X (.builtin "isinstance") rIsiA := callR_low call_isi fun xs H Q ⟨ax, A, k, r, p, t, c⟩ => by
  obtain ⟨x, y, rfl, t1⟩ := on2_e t
  obtain ⟨v, w, rfl, q1, q2⟩ := reps2 p
  split at t1
  · rename_i n
    split at t1
    · rename_i a b ea eb
      obtain ⟨en, nb⟩ := tyOf_name eb
      refine ⟨v, .ty n, _, _, a.sub b, by rw [show w = V.ty n from q2], .ty n, tyA_rep r ea q1, ?_, c (.bl (a.sub b)) A _ H r rfl (Keep.refl H) t1⟩
      rw [en]
      exact kit_ty (kit0 a b nb)
    · exact t1.elim
  · exact t1.elim
theorem ae_ty {W : WX} {x : Str} {n : String} {pos : Pos} (hm : X.mg x = none) (hv : bootBuiltins x = some (.type n)) (hg : Gl X x := by rfl) (hn : x ≠ "__name__" := by decide) (hd : (x == ("__debug__" : Str)) = false := by decide) : AE X W (.Name x pos) (aC (.raw (.ty n))) :=
  ae_const (v := .ty n) (pe_bltn hg hm hv rfl hn hd) fun _ => rfl
/-! ### all -/
def allBls : List AV → Option (List Bool)
  | [] => some []
  | .bl i :: r => (allBls r).map (i :: ·)
  | _ => none
theorem allBls_rep {K : PySem.W.Frag} {H : Hp} : ∀ {xs : List AV} {bs : List Bool} {vs : List V}, allBls xs = some bs → Reps K H xs vs → vs = bs.map V.bl
  | [], _, _, h, p => by cases h; exact p
  | x :: r, bs, _, h, ⟨v, r', e, p1, p2⟩ => by
    subst e
    unfold allBls at h
    split at h
    · rename_i z; cases z
    · rename_i b r'' z
      cases z
      obtain ⟨m, h1, h2⟩ := Option.map_eq_some_iff.mp h
      subst h2
      rw [allBls_rep h1 p2, p1.bl_]
      rfl
    · cases h
def rAllA : ARn := fun xs A k => on1 (fun x => match asL A x with
  | some ys => (match allBls ys with
    | some bs => k (.bl (bs.all id)) A
    | none => False)
  | none => False) xs
theorem b_all (hc : X.calm = true) : ACall X (.builtin "all") rAllA := callR_low (cr_all hc) fun xs H Q ⟨ax, A, k, r, p, t, c⟩ => by
  obtain ⟨x, rfl, t1⟩ := on1_e t
  obtain ⟨v, rfl, q⟩ := reps1 p
  split at t1
  · rename_i ys e
    split at t1
    · rename_i bs eb
      obtain ⟨b, vs, e2, hb, rs⟩ := asL_of r e q
      rw [allBls_rep eb rs] at hb
      exact ⟨b, bs, by rw [e2], hb, c (.bl _) A _ H r rfl (Keep.refl H) t1⟩
    · exact t1.elim
  · exact t1.elim
/-! ### dict of pairs -/
def pairsA : List AV → Option (List (Key × AV))
  | [] => some []
  | .tup [x, v] :: r => (match keyA x, pairsA r with
    | some k, some ps => some ((k, v) :: ps)
    | _, _ => none)
  | _ => none
def mergeA (kvs more : List (Key × AV)) : List (Key × AV) := more.foldl (fun acc kv => putA acc kv.1 kv.2) kvs
theorem mergeA_rep {K : PySem.W.Frag} {H : Hp} : ∀ {more : List (Key × AV)} {mw : List (Key × V)} {kvs : List (Key × AV)} {ws : List (Key × V)}, RepKs K H more mw → RepKs K H kvs ws → RepKs K H (mergeA kvs more) (mergeK ws mw) := by
  intro more mw kvs ws h
  induction h generalizing kvs ws with
  | nil => exact fun h => h
  | @cons p q ps qs e t ih =>
    intro h'
    refine ih ?_
    have h2 := h'.put p.1 e.2
    show RepKs K H (putA kvs p.1 p.2) (putK ws q.1 q.2)
    rw [← e.1]
    exact h2
theorem pairsA_rep {K : PySem.W.Frag} {H : Hp} : ∀ {xs : List AV} {kvs : List (Key × AV)} {vs : List V}, pairsA xs = some kvs → Reps K H xs vs → ∃ (ps : List Addr) (ws : List (Key × V)), vs = ps.map V.ref ∧ Paired (fun p (kv : Key × V) => SqT K H p [kV kv.1, kv.2]) ps ws ∧ RepKs K H kvs ws
  | [], _, _, h, p => by cases h; exact ⟨[], [], p, .nil, .nil⟩
  | x :: r, kvs, _, h, ⟨v, r', e, p1, p2⟩ => by
    subst e
    unfold pairsA at h
    split at h
    · rename_i z; cases z
    · rename_i x' v' r'' z
      cases z
      split at h
      · rename_i k ps e1 e2
        cases h
        obtain ⟨qs, ws, e3, h3, h4⟩ := pairsA_rep e2 p2
        obtain ⟨a, us, e5, hq, rs⟩ := p1.tup_
        obtain ⟨u, w, e6, q1, q2⟩ := reps2 rs
        subst e6
        rw [keyA_rep e1 q1] at hq
        exact ⟨a :: qs, (k, w) :: ws, by rw [e3, e5]; rfl, .cons (.of hq) h3, .cons ⟨rfl, q2⟩ h4⟩
      · cases h
    · cases h
def rDictA : ARn := fun xs A k => on1 (fun x => match asL A x with
  | some ys => (match pairsA ys with
    | some kvs => ∀ p, A p = none → k (.ref p) (put A p (.dK (mergeA [] kvs)))
    | none => False)
  | none => False) xs
theorem b_dict (hc : X.calm = true) : ACall X (.type "dict") rDictA := callR_low (call_dictP hc) fun xs H Q ⟨ax, A, k, r, p, t, c⟩ => by
  obtain ⟨x, rfl, t1⟩ := on1_e t
  obtain ⟨v, rfl, q⟩ := reps1 p
  split at t1
  · rename_i ys e
    split at t1
    · rename_i kvs eb
      obtain ⟨b, vs, e2, hb, rs⟩ := asL_of r e q
      obtain ⟨ps, ws, e3, h3, h4⟩ := pairsA_rep eb rs
      rw [e3] at hb
      exact ⟨b, ps, ws, by rw [e2], hb, h3, fun l hl => c (.ref l) _ _ _ (r.newD hl (mergeA_rep h4 .nil)) rfl (Keep.new hl) (t1 l (r.gone hl))⟩
    · exact t1.elim
  · exact t1.elim
/-- str(n) -/
def rStrA : ARn := fun xs A k => on1 (onInt fun i => i.natAbs.log2 < 1920 ∧ k (.str (toString i)) A) xs
theorem b_str : ACall X (.type "str") rStrA := callR_low call_str_int fun xs H Q ⟨ax, A, k, r, p, t, c⟩ => by
  obtain ⟨x, rfl, t1⟩ := on1_e t
  obtain ⟨v, rfl, q⟩ := reps1 p
  obtain ⟨i, rfl, hz, t2⟩ := onInt_e t1
  exact ⟨i, by rw [q.int_], hz, c (.str _) A _ H r rfl (Keep.refl H) t2⟩
end
/-! ### {} -/
section
variable {X : Cx} {W : WX} {pos : Pos}
def aDictK : ATE := fun _ _ A k => ∀ p, A p = none → k (.ref p) (put A p (.dK []))
def aDictT : ATE := fun _ _ A k => ∀ p, A p = none → k (.ref p) (put A p (.dT []))
theorem ae_dictK : AE X W (.Dict [] [] pos) aDictK := pe_low pe_dnewK fun σ H Q ⟨a, A, k, e, r, s, t, c, x⟩ => fun p hp => c (.ref p) _ _ _ (r.newD hp .nil) rfl (Keep.new hp) (t p (r.gone hp))
theorem ae_dictT : AE X W (.Dict [] [] pos) aDictT := pe_low pe_dnewT fun σ H Q ⟨a, A, k, e, r, s, t, c, x⟩ => fun p hp => c (.ref p) _ _ _ (r.new (o' := .dT []) hp fun _ f kk => ⟨f, [], upd_same, .nil⟩) rfl (Keep.new hp) (t p (r.gone hp))
end
end Aw

set_option Elab.async false
set_option linter.all false
set_option maxRecDepth 100000
set_option maxHeartbeats 1000000
/-! A10: enumerate over a tuple. -/
namespace Aw
open PySem PySem.Spec PyProof.Rows L2
open AutoSeq1 (wpAny_loadPart')

theorem meets_enum_tup (l : Addr) (ol : Obj) (items : Array Value) (n : Nat) (hc : ol.cls = .type "tuple") (hd : ol.data = .seq items n) :
    Meets (Builtin.«enumerate.__new__» ⟨[.type "enumerate", .ref l], []⟩) (fun _ R s => s.heap.get? l = some ol ∧
      R (.ok (.ret (.ref (s.heap.push { cls := .type "tuple_iterator", data := .fields #[.ref l, .int 0 0] }).objs.size)))
        { s with heap := (s.heap.push { cls := .type "tuple_iterator", data := .fields #[.ref l, .int 0 0] }).push { cls := .type "enumerate", data := .fields #[.none, .bool false, .ref s.heap.objs.size, rawInt 0, .none, .none] } }) :=
  .of_wp fun prog w A R s h => by
    obtain ⟨hp, g, d, tk, os⟩ := s; obtain ⟨hl, h⟩ := h
    have hsub := sub_enumerate
    have hL : Heap.IsTuple (Shared.heap ⟨hp, g, d, tk, os⟩) l items := ⟨_, hl, hc, n, hd⟩
    wp_walk using wpAny_loadPart' hl
    refine wpAny_stack_any fun st => wpAny_pure ?_
    split
    · rename_i c _ _ _ _ _
      cases (c == Value.type "enumerate")
      · wp_walk using wpAny_loadPart' hl, wpAny_pyIter_tuple hL
        exact ⟨_, rfl, h⟩
      · wp_walk using wpAny_loadPart' hl, wpAny_pyIter_tuple hL
        exact ⟨_, rfl, h⟩
    · wp_walk using wpAny_loadPart' hl, wpAny_pyIter_tuple hL
      exact ⟨_, rfl, h⟩
theorem call_enum_tup {prog : Program} {w : World} {A : Around} {E : Value → Shared → Prop} {s : Shared} {l : Addr} {items : Array Value} {Q : Value → Shared → Prop} (hL : s.heap.IsTuple l items)
    (h : ∀ h', IsEnum h' (s.heap.objs.size + 1) s.heap.objs.size 0 .none → h'.IsTupleIter s.heap.objs.size l 0 → h'.objs.size = s.heap.objs.size + 2 →
      (∀ b o, s.heap.get? b = some o → h'.get? b = some o) → Q (.ref (s.heap.objs.size + 1)) { s with heap := h' }) :
    wpAny (model prog w) A (call (.type "enumerate") [.ref l]) Q E s := by
  obtain ⟨ol, hl, hc, n, hd⟩ := hL
  refine callType_new F.called_enumerate (by decide) (F.typeCall_enumerate_1 _) (F.newCall_enumerate_1 _) (fun obj => F.args_object_init_2 obj _) F.entry_enumerate_new
    (meets_enum_tup l ol items n hc hd) ⟨hl, ?_⟩
  have hz : (s.heap.push { cls := .type "tuple_iterator", data := .fields #[.ref l, .int 0 0] }).objs.size = s.heap.objs.size + 1 := Heap.size_push ..
  show _ ∧ _
  rw [hz]
  have he : IsEnum ((s.heap.push { cls := .type "tuple_iterator", data := .fields #[.ref l, .int 0 0] }).push
      { cls := .type "enumerate", data := .fields #[.none, .bool false, .ref s.heap.objs.size, rawInt 0, .none, .none] }) (s.heap.objs.size + 1) s.heap.objs.size 0 .none := by
    have := Heap.get?_push_size (s.heap.push { cls := .type "tuple_iterator", data := .fields #[.ref l, .int 0 0] })
      (o := { cls := .type "enumerate", data := .fields #[.none, .bool false, .ref s.heap.objs.size, rawInt 0, .none, .none] }) rfl
    rw [hz] at this; exact this
  exact ⟨⟨_, he, rfl⟩, h _ he ⟨_, Heap.get?_push_of_some _ (Heap.get?_push_size _ rfl), rfl, rfl⟩ (by rw [Heap.size_push, hz]) fun b o x => Heap.get?_push_of_some _ (Heap.get?_push_of_some _ x)⟩
/-- the tuple at a, each item in a new pair -/
def IteT (K : PySem.W.Frag) (a : Addr) : It :=
  ⟨fun i H => ∃ (xs : List V) (x : V), SqT K H a xs ∧ xs[i]? = some x, fun i H v H' => ∃ T x, v = .ref T ∧ H T = none ∧ H' = upd H T (.tup [.int (i : Nat), x]) ∧ ∀ xs, SqT K H a xs → xs[i]? = some x, fun i H => ∃ xs : List V, SqT K H a xs ∧ xs.length ≤ i⟩
theorem turn_enumT {P : Program} {w : World} {K : PySem.W.Frag} {elts : List Expr} {kk : Nat} {tpos : Pos} (a e it : Addr) :
    Turn P w K (.Tuple elts kk tpos) (IteT K a) [e, it] e (fun i h => (∃ old, IsEnum h e it ((i : Nat) : Int) old) ∧ h.IsTupleIter it a i ∧ e ≠ it) where
  mem := by simp
  obj := fun i h st b hb => by
    obtain ⟨⟨old, he⟩, ⟨o, ho, hc, hd⟩, _⟩ := st
    have e' : b = e ∨ b = it := by simpa using hb
    rcases e' with z | z
    · rw [z]; exact ⟨_, he, fun v q => nomatch q⟩
    · rw [z]; exact ⟨o, ho, fun v q => by rw [hd] at q; cases q⟩
  keep := fun i h h' st k => let ⟨⟨old, he⟩, hi, hne⟩ := st; ⟨⟨old, k e (by simp) _ he⟩, hi.at fun o q => k it (by simp) o q, hne⟩
  item := by
    intro X hP hw hK hc i pins s σ H E I hf st hg
    subst hP hw hK
    obtain ⟨⟨old, he⟩, hit, hne⟩ := st
    obtain ⟨xs, x, hq, hx⟩ := hg
    obtain ⟨its, rv, p, hz⟩ := I.tuple hq
    obtain ⟨u, hu, ru⟩ := rv.get hx
    have hel : e < s.heap.objs.size := Heap.lt_size he
    have hil : it < s.heap.objs.size := by obtain ⟨_, q, _⟩ := hit; exact Heap.lt_size q
    have pT : s.heap.IsTuple a its.toArray := p
    have hae : a ≠ e := fun z => by
      obtain ⟨o, ho, hoc, _⟩ := pT
      rw [z, he] at ho; cases ho; exact absurd (Value.type.inj hoc) (by decide)
    have hai : a ≠ it := fun z => by
      obtain ⟨o, ho, hoc, _⟩ := pT
      obtain ⟨o', ho', hoc', _⟩ := hit
      rw [z, ho'] at ho; cases ho; rw [hoc'] at hoc; exact absurd (Value.type.inj hoc) (by decide)
    have hil' : i < its.toArray.size := by
      have := (List.getElem?_eq_some_iff.mp hu).1
      simpa using this
    refine wpAny_pyNext_enum_itemD (Draws.tuple (by exact I.ok.hd hc) it a hai its.toArray) he ⟨hit, pT⟩ hil' hne (by simp [hne, Ne.symm hae]) fun y h' tk hy ho st' hT hsz hk => ?_
    have hyu : y = u := by
      have h1 : its[i]? = some y := by simpa using hy
      rw [hu] at h1; exact (Option.some.inj h1).symm
    subst hyu
    refine ⟨_, rfl, wpAny_letOwnedTupleGo_enum (s := { s with heap := h', toks := tk + 1 }) ho fun h'' he' sb => ?_⟩
    have hT2 : h''.get? s.heap.objs.size = some { cls := .type "tuple", data := .seq #[.int i tk, y] } := (sb.2 _ (Nat.ne_of_gt hel)).trans hT
    have new : ObjOk X.prog X.w (upd H s.heap.objs.size (.tup [.int (i : Nat), x])) h'' s.heap.objs.size (.tup [.int (i : Nat), x]) :=
      ⟨by show 2 ≤ sizeLine; decide, [.int i tk, y], .cons ⟨_, rfl⟩ (.cons ru .nil), ⟨_, hT2, rfl, _, rfl⟩⟩
    have I1 : Inv X pins σ (upd H s.heap.objs.size (.tup [.int (i : Nat), x])) { s with heap := h'', toks := tk + 1 } :=
      I.turnedNew (ch := [e, it]) (fun b ob hb q => (sb.2 b (fun z => hb (by simp [z]))).trans (hk b ob (fun z => hb (by simp [z])) (fun z => hb (by simp [z])) q)) hf (Nat.le_refl _) new
    refine ⟨.ref s.heap.objs.size, _, I1, rfl, ⟨_, x, rfl, I.hok.fresh (Nat.le_refl _), rfl, fun ys hy => by rw [I.tuple_inj hy hq]; exact hx⟩, ⟨⟨y, ?_⟩, st'.1.at fun o q => (sb.2 it (Ne.symm hne)).trans q, hne⟩, fun b hb => ?_⟩
    · have e1 : ((i + 1 : Nat) : Int) = (i : Int) + 1 := by omega
      rw [e1]; exact he'
    · have hb' : b < s.heap.objs.size := by
        have e' : b = e ∨ b = it := by simpa using hb
        rcases e' with z | z
        · rw [z]; exact hel
        · rw [z]; exact hil
      rw [upd_ne (Nat.ne_of_lt hb')]
      exact (hf b hb).1
  done := by
    intro X hP hw hK hc i pins s σ H E I hf st hg
    subst hP hw hK
    obtain ⟨⟨old, he⟩, hit, hne⟩ := st
    obtain ⟨xs, hq, hx⟩ := hg
    obtain ⟨its, rv, p, hz⟩ := I.tuple hq
    obtain ⟨f0, f1, f2, f3, f4, f5⟩ := hf it (by simp)
    have pT : s.heap.IsTuple a its.toArray := p
    have hl := rv.length
    have hT : s.TypeIs (.ref e) "enumerate" := ⟨_, he, rfl⟩
    unfold pyNext
    refine wpAny_bind (wpAny_attempt (wpAny_callSpecial?_slot (name := Str.ofString "__next__") hT F.slot_enumerate_next
      (wpAny_call_entry F.slot_enumerate_next hT F.entry_enumerate_next ?_ (F.args_enumerate_next_1 _))))
    show wpAny _ _ (field (.ref e) 2 >>= _) _ _ _
    refine wpAny_bind (wpAny_field he rfl (x := .ref it) rfl ?_)
    refine wpAny_bind (wpAny_nextOf_tuple_end (by exact I.ok.hd hc) hit pT (by simp; omega) fun h' x eb hx' => ?_)
    obtain ⟨o, ho, hc'⟩ := hx'
    refine wpAny_bind (wpAny_isInstance (T := "StopIteration") (b := true) ⟨o, ho, hc'⟩ isSubtype_stop ?_)
    exact wpAny_pure ⟨rfl, I.turned (t' := s.toks) (fun b o hb q => eb b o hb q) f0 f1 f3 f4 f5⟩
  self := fun A i s Q E st h => let ⟨⟨_, he⟩, _⟩ := st; wpAny_pyIter_enum he h
def iEnumT (K : PySem.W.Frag) (ta : TA) : TI := fun σ H R => ta σ H fun vs H1 => ∃ a xs, vs = [.ref a] ∧ ((SqL K H1 a xs ∧ R (Ite K a) H1) ∨ (SqT K H1 a xs ∧ R (IteT K a) H1))
theorem pi_enumLT {X : Cx} {e : Expr} {ta : TA} {p pos tpos : Pos} {elts : List Expr} {kk : Nat} (hg : Gl X "enumerate") (hm : X.mg "enumerate" = none) (ha : PA X [e] ta) (hs : starEach [e] X.env = [(false, eval e X.env)] := by rfl) :
    PI X (.Tuple elts kk tpos) (.Call (.Name "enumerate" p) [e] [] pos) (iEnumT X.K ta) := by
  refine ⟨fun pins s σ H R I h => ?_⟩
  refine Call_ (ld_blt I hg hm boot_enumerate (PyProof.Rows.callWith_type1 (thn (ha.run pos pins s σ H _ I h) fun us s1 ⟨vs, H1, I1, r1, q1⟩ => ?_) hs rfl))
  obtain ⟨a, xs, ex, q⟩ := q1
  subst ex
  cases r1 with
  | cons r rr =>
    cases rr
    cases r
    have end_ : ∀ (h' : Heap) (b : Addr), b ∈ [s1.heap.objs.size + 1, s1.heap.objs.size] → FpOk X pins H1 b := fun h' b hb => by
      have e' : b = s1.heap.objs.size + 1 ∨ b = s1.heap.objs.size := by simpa using hb
      have hle : s1.heap.objs.size ≤ b := by
        rcases e' with z | z
        · rw [z]; exact Nat.le_add_right _ _
        · rw [z]; exact Nat.le_refl _
      exact I1.fpOk hle (I1.hok.fresh hle)
    rcases q with ⟨hq, q⟩ | ⟨hq, q⟩
    · obtain ⟨its, rv, p', hz⟩ := I1.list hq
      refine call_enumerate_list p'.isList fun h' he hit hsz hk => wpAny_pyIter_enum he ?_
      have I2 : Inv X pins σ H1 { s1 with heap := h' } := I1.kept (t' := s1.toks) hk
      exact ⟨s1.heap.objs.size + 1, [s1.heap.objs.size + 1, s1.heap.objs.size], _, _, H1, rfl, I2, turn_enum a (s1.heap.objs.size + 1) s1.heap.objs.size, ⟨⟨.none, he⟩, hit, Nat.succ_ne_self _⟩, end_ h', q⟩
    · obtain ⟨its, rv, p', hz⟩ := I1.tuple hq
      refine call_enum_tup (show s1.heap.IsTuple a its.toArray from p') fun h' he hit hsz hk => wpAny_pyIter_enum he ?_
      have I2 : Inv X pins σ H1 { s1 with heap := h' } := I1.kept (t' := s1.toks) hk
      exact ⟨s1.heap.objs.size + 1, [s1.heap.objs.size + 1, s1.heap.objs.size], _, _, H1, rfl, I2, turn_enumT a (s1.heap.objs.size + 1) s1.heap.objs.size, ⟨⟨.none, he⟩, hit, Nat.succ_ne_self _⟩, end_ h', q⟩
end Aw

set_option Elab.async false
set_option linter.all false
set_option maxRecDepth 100000
set_option maxHeartbeats 400000
/-! A11: methods of built-ins, things to iterate over, comprehensions. -/
namespace Aw
open PySem PySem.Spec PyProof.Rows L2
section
variable {X : Cx} {W : WX} {ex o a tg : Expr} {pos : Pos} {Ta Tb Te : ATE} {T : ATA} {es : List Expr}
/-! ### methods -/
def LowM (K : PySem.W.Frag) (R : AV → ARn) : V → List V → Hp → VK → Prop := fun x xs H Q => ∃ ax axs A k, Rel K A H ∧ Rep K H ax x ∧ Reps K H axs xs ∧ R ax axs A k ∧ ∀ v A' u H', Rel K A' H' → Rep K H' v u → Keep H H' → k v A' → Q u H'
abbrev AMt (X : Cx) (id : String) (R : AV → ARn) : Prop := MtR X id (LowM X.K R)
theorem mtR_low {id : String} {r r' : V → List V → Hp → VK → Prop} (h : MtR X id r) (i : ∀ x xs H Q, r' x xs H Q → r x xs H Q) : MtR X id r' := fun pins s σ H x xs v us Q I rx rs q => h pins s σ H x xs v us Q I rx rs (i x xs H Q q)
def isTA (t : String) (x : AV) (A : AH) : Prop := match x with
  | .str _ => t = "str"
  | .ref p => (match A p with
    | some (.lst _) => t = "list"
    | some (.dK _) => t = "dict"
    | some (.dT _) => t = "dict"
    | _ => False)
  | _ => False
theorem isTA_rep {K : PySem.W.Frag} {A : AH} {H : Hp} {t : String} {x : AV} {v : V} (r : Rel K A H) (p : Rep K H x v) (h : isTA t x A) : tyV K t v H := by
  unfold isTA at h
  split at h
  · rw [p.str_]; exact h
  · rw [p.ref_]
    split at h
    · rename_i e
      obtain ⟨vs, hq, _⟩ := r.lst e
      exact .inl ⟨h, vs, .of hq⟩
    · rename_i e
      obtain ⟨vs, hq, _⟩ := r.dK e
      exact .inr (.inr (.inl ⟨h, .inl ⟨vs, hq⟩⟩))
    · rename_i e
      obtain ⟨vs, hq, _⟩ := r.dT e
      exact .inr (.inr (.inl ⟨h, .inr ⟨vs, hq⟩⟩))
    · exact h.elim
  · exact h.elim
def aBM (t : String) (R : AV → ARn) (To : ATE) (T : ATA) : ATE := fun e a A k => To e a A fun x A1 => isTA t x A1 ∧ T e a A1 fun xs A2 => R x xs A2 k
theorem ae_bm0 {name : Str} {id t : String} {apos cpos : Pos} {R : AV → ARn} (pa : PlainAttrs t) (slot : Slot t name id) (hty : typeOf (.builtin id) = pure (.type "method_descriptor")) (hm : AMt X id R) (ho : AE X W o Ta)
    (hbase : attributeBase o name X.env (eval o X.env) = eval o X.env := by rfl) (hline : (apos.endLine == cpos.line) = true := by rfl) : AE X W (.Call (.Attribute o name apos) [] [] cpos) (aBM t R Ta aNil) :=
  pe_low (pe_bm0 pa slot hty hm ho hbase hline) fun σ H Q ⟨a, A, k, e, r, s, t, c, x⟩ =>
    ⟨a, A, _, e, r, s, t, fun v A1 u1 H1 r1 p1 k1 t1 => ⟨isTA_rep r1 p1 t1.1, v, [], A1, k, r1, p1, Reps.nil_, t1.2, fun v A' u H' r' p' k' q => c v A' u H' r' p' (k1.trans k') q⟩, x⟩
theorem ae_bm {name : Str} {id t : String} {apos cpos : Pos} {R : AV → ARn} (pa : PlainAttrs t) (slot : Slot t name id) (hty : typeOf (.builtin id) = pure (.type "method_descriptor")) (hm : AMt X id R) (ho : AE X W o Ta) (ha : AA X W (a :: es) T)
    (hbase : attributeBase o name X.env (eval o X.env) = eval o X.env := by rfl)
    (hfew : ((backTo cpos (starEach (a :: es) X.env)).all (fun x => !x.1) && (backToKw cpos (keywordEach [] X.env)).all (fun x => x.1.isSome)
      && decide ((a :: es).length + ([] : List Keyword).length + (if ([] : List Keyword).isEmpty then 0 else 1) < 30)) = true := by rfl)
    (hline : (apos.endLine == cpos.line) = true := by rfl) (hs : starEach (a :: es) X.env = (false, eval a X.env) :: starEach es X.env := by rfl) (hplain : (backTo cpos (starEach es X.env)).any (·.1) = false := by rfl) :
    AE X W (.Call (.Attribute o name apos) (a :: es) [] cpos) (aBM t R Ta T) :=
  pe_low (pe_bm pa slot hty hm ho ha hbase hfew hline hs hplain) fun σ H Q ⟨a, A, k, e, r, s, t, c, x⟩ =>
    ⟨a, A, _, e, r, s, t, fun v A1 u1 H1 r1 p1 k1 t1 => ⟨isTA_rep r1 p1 t1.1, a, A1, _, e, r1, s.keep k1, t1.2, fun xs A2 us H2 r2 p2 k2 t2 => ⟨v, xs, A2, k, r2, p1.keep k2, p2, t2, fun v A' u H' r' p' k' q => c v A' u H' r' p' ((k1.trans k2).trans k') q⟩, x.keep k1⟩, x⟩
/-- a list's method -/
def onLst (P : Addr → List AV → Prop) (x : AV) (A : AH) : Prop := match x with
  | .ref p => (match A p with
    | some (.lst xs) => P p xs
    | _ => False)
  | _ => False
theorem onLst_e {P : Addr → List AV → Prop} {x : AV} {A : AH} (h : onLst P x A) : ∃ p xs, x = .ref p ∧ A p = some (.lst xs) ∧ P p xs := by
  unfold onLst at h
  split at h
  · rename_i p
    split at h
    · rename_i xs e
      exact ⟨p, xs, rfl, e, h⟩
    · exact h.elim
  · exact h.elim
theorem lst_put {A : AH} {H : Hp} {K : PySem.W.Frag} {p : Addr} {xs ys : List AV} {vs : List V} (hq : H p = some (.lst vs)) : Mut (H p) := by rw [hq]; trivial
def rAppendA : AV → ARn := fun x ys A k => onLst (fun p xs => on1 (fun y => xs.length < sizeLine ∧ k .non (put A p (.lst (xs ++ [y])))) ys) x A
theorem m_append : AMt X "list.append" rAppendA := mtR_low (mt_append : MtR X _ _) fun v vs H Q ⟨x, xs, A, k, r, p, ps, t, c⟩ => by
  obtain ⟨q, zs, rfl, e, t1⟩ := onLst_e t
  obtain ⟨y, rfl, hz, t2⟩ := on1_e t1
  obtain ⟨u, rfl, pu⟩ := reps1 ps
  obtain ⟨ws, hq, rs⟩ := r.lst e
  exact ⟨q, ws, u, p, rfl, hq, by rw [rs.length]; exact hz, c .non _ .non _ (r.putL e (rs.append (Reps.one pu))) rfl (Keep.put (by rw [hq]; trivial)) t2⟩
def rExtendA : AV → ARn := fun x ys A k => onLst (fun p xs => on1 (fun y => onLst (fun _ zs => xs.length + zs.length ≤ sizeLine ∧ k .non (put A p (.lst (xs ++ zs)))) y A) ys) x A
theorem m_extend : AMt X "list.extend" rExtendA := mtR_low (mt_extend : MtR X _ _) fun v vs H Q ⟨x, xs, A, k, r, p, ps, t, c⟩ => by
  obtain ⟨q, zs, rfl, e, t1⟩ := onLst_e t
  obtain ⟨y, rfl, t2⟩ := on1_e t1
  obtain ⟨b, ys, rfl, e2, hz, t3⟩ := onLst_e t2
  obtain ⟨u, rfl, pu⟩ := reps1 ps
  obtain ⟨ws, hq, rs⟩ := r.lst e
  obtain ⟨ws2, hq2, rs2⟩ := r.lst e2
  exact ⟨q, b, ws, ws2, p, by rw [pu.ref_], hq, hq2, by rw [rs.length, rs2.length]; exact hz, c .non _ .non _ (r.putL e (rs.append rs2)) rfl (Keep.put (by rw [hq]; trivial)) t3⟩
def rPopA : AV → ARn := fun x ys A k => onLst (fun p xs => ys = [] ∧ match xs[xs.length - 1]? with
  | some y => k y (put A p (.lst xs.dropLast))
  | none => False) x A
theorem m_pop : AMt X "list.pop" rPopA := mtR_low (mt_pop : MtR X _ _) fun v vs H Q ⟨x, xs, A, k, r, p, ps, t, c⟩ => by
  obtain ⟨q, zs, rfl, e, rfl, t1⟩ := onLst_e t
  obtain ⟨ws, hq, rs⟩ := r.lst e
  split at t1
  · rename_i y ey
    obtain ⟨w, ew, pw⟩ := rs.get ey
    rw [← rs.length] at ew
    have kk := Keep.put (H := H) (p := q) (o := .lst ws.dropLast) (by rw [hq]; trivial)
    exact ⟨q, ws, w, p, ps, hq, ew, c y _ w _ (r.putL e rs.dropLast) (pw.keep kk) kk t1⟩
  · exact t1.elim
def rPopAtA : AV → ARn := fun x ys A k => onLst (fun p xs => on1 (onInt fun i => -(2 ^ 63) ≤ i ∧ i < 2 ^ 63 ∧ ∃ j y, seqIndex? i xs.length = some j ∧ xs[j]? = some y ∧ k y (put A p (.lst (xs.eraseIdx j)))) ys) x A
theorem m_popAt : AMt X "list.pop" rPopAtA := mtR_low (mt_popAt : MtR X _ _) fun v vs H Q ⟨x, xs, A, k, r, p, ps, t, c⟩ => by
  obtain ⟨q, zs, rfl, e, t1⟩ := onLst_e t
  obtain ⟨y, rfl, t2⟩ := on1_e t1
  obtain ⟨i, rfl, h1, h2, j, z, h3, h4, t3⟩ := onInt_e t2
  obtain ⟨u, rfl, pu⟩ := reps1 ps
  obtain ⟨ws, hq, rs⟩ := r.lst e
  obtain ⟨w, ew, pw⟩ := rs.get h4
  have kk := Keep.put (H := H) (p := q) (o := .lst (ws.eraseIdx j)) (by rw [hq]; trivial)
  exact ⟨q, ws, i, j, w, p, by rw [pu.int_], hq, h1, h2, by rw [rs.length]; exact h3, ew, c z _ w _ (r.putL e (rs.eraseIdx j)) (pw.keep kk) kk t3⟩
def rReverseA : AV → ARn := fun x ys A k => onLst (fun p xs => ys = [] ∧ k .non (put A p (.lst xs.reverse))) x A
theorem m_reverse : AMt X "list.reverse" rReverseA := mtR_low (mt_reverse : MtR X _ _) fun v vs H Q ⟨x, xs, A, k, r, p, ps, t, c⟩ => by
  obtain ⟨q, zs, rfl, e, rfl, t1⟩ := onLst_e t
  obtain ⟨ws, hq, rs⟩ := r.lst e
  exact ⟨q, ws, p, ps, hq, c .non _ .non _ (r.putL e rs.reverse) rfl (Keep.put (by rw [hq]; trivial)) t1⟩
def rClearA : AV → ARn := fun x ys A k => onLst (fun p xs => ys = [] ∧ k .non (put A p (.lst []))) x A
theorem m_clear : AMt X "list.clear" rClearA := mtR_low (mt_clear : MtR X _ _) fun v vs H Q ⟨x, xs, A, k, r, p, ps, t, c⟩ => by
  obtain ⟨q, zs, rfl, e, rfl, t1⟩ := onLst_e t
  obtain ⟨ws, hq, rs⟩ := r.lst e
  exact ⟨q, ws, p, ps, hq, c .non _ .non _ (r.putL e Reps.nil_) rfl (Keep.put (by rw [hq]; trivial)) t1⟩

/-! ### what a loop goes over -/
def seqIt (A : AH) (x : AV) : Option AIt := match x with
  | .ref p => (match A p with
    | some (.lst xs) => some ⟨xs, fun A' => A' p = some (.lst xs)⟩
    | _ => none)
  | .tup xs => some ⟨xs, fun _ => True⟩
  | .st xs => some ⟨xs, fun _ => True⟩
  | .fl xs => some ⟨xs, fun _ => True⟩
  | _ => none
def iSeq (K : PySem.W.Frag) (tl : TE) : TI := fun σ H R => tl σ H fun x H1 => ∃ a, x = .ref a ∧ (((∃ xs, SqL K H1 a xs) ∧ R (Itl K a) H1) ∨ ((∃ xs, SqT K H1 a xs) ∧ R (Itt K a) H1))
theorem pi_seq {l : Expr} {tl : TE} (hl : PE X l tl) : PI X tg l (iSeq X.K tl) := by
  refine ⟨fun pins s σ H R I h => ?_⟩
  refine thn (hl.run pins s σ H _ I h) fun v s1 ⟨x, H1, I1, r1, q1⟩ => ?_
  obtain ⟨a, e, q⟩ := q1
  subst e
  cases r1
  have fp : ∀ b ∈ [s1.heap.objs.size], FpOk X pins H1 b := fun b hb => by
    have e : b = s1.heap.objs.size := by simpa using hb
    subst e
    exact I1.fpOk (Nat.le_refl _) (I1.hok.fresh (Nat.le_refl _))
  rcases q with ⟨⟨xs, hq⟩, q⟩ | ⟨⟨xs, hq⟩, q⟩
  · obtain ⟨its, rv, p, hz⟩ := I1.list hq
    refine wpAny_pyIter_list p.isList ?_
    exact ⟨s1.heap.objs.size, [s1.heap.objs.size], _, _, H1, rfl, I1.kept (t' := s1.toks) fun b o e => Heap.get?_push_of_some _ e, turn_list a _, ⟨_, Heap.get?_push_size _ rfl, rfl, rfl⟩, fp, q⟩
  · obtain ⟨its, rv, p, hz⟩ := I1.tuple hq
    refine wpAny_pyIter_tuple (show s1.heap.IsTuple a its.toArray from p) ?_
    exact ⟨s1.heap.objs.size, [s1.heap.objs.size], _, _, H1, rfl, I1.kept (t' := s1.toks) fun b o e => Heap.get?_push_of_some _ e, turn_tuple a _, ⟨_, Heap.get?_push_size _ rfl, rfl, rfl⟩, fp, q⟩
theorem seqIt_L {K : PySem.W.Frag} {H0 : Hp} {a : Addr} {xs : List AV} {ok : AH → Prop} (h : ∀ A H, Keep H0 H → Rel K A H → ok A → ∃ vs, SqL K H a vs ∧ Reps K H xs vs) : ItOk K H0 ⟨xs, ok⟩ (Itl K a) := fun i A H k r o => by
  obtain ⟨vs, hq, rs⟩ := h A H k r o
  refine ⟨fun hi => ⟨vs, hq, by rw [rs.length]; exact hi⟩, fun x hx => ?_⟩
  obtain ⟨v, hv, pv⟩ := rs.get hx
  refine ⟨⟨vs, v, hq, hv⟩, fun y H' hy => ?_⟩
  obtain ⟨e, hy⟩ := hy
  subst e
  have e2 : vs[i]? = some y := hy vs hq
  rw [hv] at e2; cases e2
  exact ⟨r, Keep.refl _, pv⟩
theorem seqIt_T {K : PySem.W.Frag} {H0 : Hp} {a : Addr} {xs : List AV} {ok : AH → Prop} (h : ∀ A H, Keep H0 H → Rel K A H → ok A → ∃ vs, SqT K H a vs ∧ Reps K H xs vs) : ItOk K H0 ⟨xs, ok⟩ (Itt K a) := fun i A H k r o => by
  obtain ⟨vs, hq, rs⟩ := h A H k r o
  refine ⟨fun hi => ⟨vs, hq, by rw [rs.length]; exact hi⟩, fun x hx => ?_⟩
  obtain ⟨v, hv, pv⟩ := rs.get hx
  refine ⟨⟨vs, v, hq, hv⟩, fun y H' hy => ?_⟩
  obtain ⟨e, hy⟩ := hy
  subst e
  have e2 : vs[i]? = some y := hy vs hq
  rw [hv] at e2; cases e2
  exact ⟨r, Keep.refl _, pv⟩
def aIter (T : ATE) : ATI := fun e a A k => T e a A fun x A1 => match seqIt A1 x with
  | some it => k it A1
  | none => False
theorem ai_seq (h : AE X W ex Ta) : AI X W tg ex (aIter Ta) := pi_low (pi_seq h) fun σ H R ⟨a, A, k, e, r, s, t, c, x⟩ => by
  refine ⟨a, A, _, e, r, s, t, fun v A1 u H1 r1 p1 k1 t1 => ?_, x⟩
  split at t1
  · rename_i it ei
    unfold seqIt at ei
    split at ei
    · rename_i p
      split at ei
      · rename_i xs e1
        cases ei
        obtain ⟨vs, hq, rs⟩ := r1.lst e1
        rw [p1.ref_]
        refine ⟨p, rfl, .inl ⟨⟨vs, .of hq⟩, c _ A1 _ H1 r1 ?_ k1 t1⟩⟩
        exact seqIt_L fun A2 H2 k2 r2 o => by
          obtain ⟨vs2, hq2, rs2⟩ := r2.lst o
          exact ⟨vs2, .of hq2, rs2⟩
      · cases ei
    · rename_i xs
      cases ei
      obtain ⟨b, vs, e1, hq, rs⟩ := p1.tup_
      refine ⟨b, e1, .inr ⟨⟨vs, .of hq⟩, c _ A1 _ H1 r1 ?_ k1 t1⟩⟩
      exact seqIt_T fun A2 H2 k2 r2 o => ⟨vs, .of (k2.tup _ _ hq), rs.keep k2⟩
    · rename_i xs
      cases ei
      obtain ⟨b, vs, e1, hq, rs⟩ := p1
      refine ⟨b, e1, .inr ⟨⟨vs, sqt_none hq⟩, c _ A1 _ H1 r1 ?_ k1 t1⟩⟩
      exact seqIt_T fun A2 H2 k2 r2 o => ⟨vs, sqt_none hq, rs.keep k2⟩
    · rename_i xs
      cases ei
      obtain ⟨b, vs, e1, hq, rs⟩ := p1
      refine ⟨b, e1, .inl ⟨⟨vs, hq.sqL⟩, c _ A1 _ H1 r1 ?_ k1 t1⟩⟩
      exact seqIt_L fun A2 H2 k2 r2 o => ⟨vs, (k2.sqF hq).sqL, rs.keep k2⟩
    · cases ei
  · exact t1.elim
def rngA (lo : Int) (n : Nat) : List AV := (List.range n).map fun (i : Nat) => AV.int (lo + (i : Nat))
theorem rngA_ok {K : PySem.W.Frag} {H0 : Hp} {lo : Int} {n : Nat} : ItOk K H0 ⟨rngA lo n, fun _ => True⟩ (Itr lo n) := fun i A H k r o => by
  refine ⟨fun hi => by
    have h2 : (rngA lo n).length ≤ i := hi
    simp only [rngA, List.length_map, List.length_range] at h2
    exact h2, fun x hx => ?_⟩
  have hi : i < n := by
    have := (List.getElem?_eq_some_iff.mp hx).1
    simpa [rngA] using this
  have hx2 : x = .int (lo + (i : Nat)) := by
    simp [rngA, hi] at hx
    exact hx.symm
  refine ⟨hi, fun y H' hy => ?_⟩
  obtain ⟨e1, e2⟩ := hy
  subst e1 e2 hx2
  exact ⟨r, Keep.refl _, rfl⟩
def aRng1 (T : ATA) : ATI := fun e a A k => T e a A fun xs A1 => on1 (onInt fun j => -(2 ^ 62) ≤ j ∧ j < 2 ^ 62 ∧ k ⟨rngA 0 j.toNat, fun _ => True⟩ A1) xs
def aRng2 (T : ATA) : ATI := fun e a A k => T e a A fun xs A1 => on2 (fun x y => onInt (fun i => onInt (fun j => (-(2 ^ 62) ≤ i ∧ i < 2 ^ 62 ∧ -(2 ^ 62) ≤ j ∧ j < 2 ^ 62) ∧ k ⟨rngA i (j - i).toNat, fun _ => True⟩ A1) y) x) xs
theorem ai_range1 {p : Pos} (hm : X.mg "range" = none) (ha : AA X W [a] T) (hg : Gl X "range" := by rfl) (hs : starEach [a] X.env = [(false, eval a X.env)] := by rfl) : AI X W tg (.Call (.Name "range" p) [a] [] pos) (aRng1 T) :=
  pi_low (pi_range1 hg hm ha hs) fun σ H R ⟨a, A, k, e, r, s, t, c, x⟩ => ⟨a, A, _, e, r, s, t, fun xs A1 us H1 r1 p1 k1 t1 => by
    obtain ⟨v, rfl, t2⟩ := on1_e t1
    obtain ⟨j, rfl, h1, h2, t3⟩ := onInt_e t2
    obtain ⟨u, rfl, pu⟩ := reps1 p1
    exact ⟨j, by rw [pu.int_], h1, h2, c _ A1 _ H1 r1 rngA_ok k1 t3⟩, x⟩
theorem ai_range2 {b : Expr} {p : Pos} (hm : X.mg "range" = none) (ha : AA X W [a, b] T) (hg : Gl X "range" := by rfl) (hs : starEach [a, b] X.env = [(false, eval a X.env), (false, eval b X.env)] := by rfl) (hs2 : starEach [b] X.env = [(false, eval b X.env)] := by rfl) : AI X W tg (.Call (.Name "range" p) [a, b] [] pos) (aRng2 T) :=
  pi_low (pi_range2 hg hm ha hs hs2) fun σ H R ⟨a, A, k, e, r, s, t, c, x⟩ => ⟨a, A, _, e, r, s, t, fun xs A1 us H1 r1 p1 k1 t1 => by
    obtain ⟨v, w, rfl, t2⟩ := on2_e t1
    obtain ⟨i, rfl, t3⟩ := onInt_e t2
    obtain ⟨j, rfl, h1, t4⟩ := onInt_e t3
    obtain ⟨u, u2, rfl, pu, pu2⟩ := reps2 p1
    exact ⟨i, j, by rw [pu.int_, pu2.int_], h1, c _ A1 _ H1 r1 rngA_ok k1 t4⟩, x⟩
def enumA : Nat → List AV → List AV
  | _, [] => []
  | n, x :: xs => .tup [.int (n : Nat), x] :: enumA (n + 1) xs
theorem enumA_length : ∀ (xs : List AV) (n : Nat), (enumA n xs).length = xs.length
  | [], _ => rfl
  | _ :: xs, n => by simp [enumA, enumA_length xs]
theorem enumA_get : ∀ (xs : List AV) (n i : Nat) (y : AV), (enumA n xs)[i]? = some y → ∃ x, xs[i]? = some x ∧ y = .tup [.int ((n + i : Nat)), x]
  | [], _, i, y, h => by simp [enumA] at h
  | x :: xs, n, 0, y, h => by simp [enumA] at h; exact ⟨x, rfl, h.symm⟩
  | x :: xs, n, i + 1, y, h => by
    obtain ⟨z, e1, e2⟩ := enumA_get xs (n + 1) i y (by simpa [enumA] using h)
    exact ⟨z, by simpa using e1, by rw [e2]; congr 3; omega⟩
def aEnum (T : ATA) : ATI := fun e a A k => T e a A fun xs A1 => on1 (fun x => match seqIt A1 x with
  | some it => k ⟨enumA 0 it.xs, it.ok⟩ A1
  | none => False) xs
theorem pair_rep {K : PySem.W.Frag} {A : AH} {H : Hp} {p : Addr} {x y : AV} {u v : V} (r : Rel K A H) (hp : H p = none) (h1 : Rep K H x u) (h2 : Rep K H y v) : Rel K A (upd H p (.tup [u, v])) ∧ Keep H (upd H p (.tup [u, v])) ∧ Rep K (upd H p (.tup [u, v])) (.tup [x, y]) (.ref p) :=
  ⟨r.lay hp, Keep.new hp, p, [u, v], rfl, upd_same, Reps.cons_ (h1.keep (Keep.new hp)) (Reps.one (h2.keep (Keep.new hp)))⟩
theorem ai_enum {p tpos : Pos} {elts : List Expr} {kk : Nat} (hm : X.mg "enumerate" = none) (ha : AA X W [a] T) (hg : Gl X "enumerate" := by rfl) (hs : starEach [a] X.env = [(false, eval a X.env)] := by rfl) :
    AI X W (.Tuple elts kk tpos) (.Call (.Name "enumerate" p) [a] [] pos) (aEnum T) :=
  pi_low (pi_enumLT hg hm ha hs) fun σ H R ⟨a, A, k, e, r, s, t, c, x⟩ => ⟨a, A, _, e, r, s, t, fun xs A1 us H1 r1 p1 k1 t1 => by
    obtain ⟨v, rfl, t2⟩ := on1_e t1
    obtain ⟨u, rfl, pu⟩ := reps1 p1
    have mkL : ∀ {b : Addr} {xs : List AV} {ok : AH → Prop}, (∀ A H, Keep H1 H → Rel X.K A H → ok A → ∃ vs, SqL X.K H b vs ∧ Reps X.K H xs vs) → ItOk X.K H1 ⟨enumA 0 xs, ok⟩ (Ite X.K b) := fun h i A2 H2 k2 r2 o => by
      obtain ⟨vs, hq, rs⟩ := h A2 H2 k2 r2 o
      refine ⟨fun hi => ⟨vs, hq, by rw [rs.length]; simpa [enumA_length] using hi⟩, fun y hy => ?_⟩
      obtain ⟨z, hz, rfl⟩ := enumA_get _ _ _ _ hy
      obtain ⟨w, hw, pw⟩ := rs.get hz
      refine ⟨⟨vs, w, hq, hw⟩, fun y H' hy => ?_⟩
      obtain ⟨T, x', rfl, hT, rfl, hx⟩ := hy
      have e2 : vs[i]? = some x' := hx vs hq
      rw [hw] at e2; cases e2
      rw [Nat.zero_add]
      exact pair_rep r2 hT (show Rep X.K H2 (.int (i : Nat)) (.int (i : Nat)) from rfl) pw
    have mkT : ∀ {b : Addr} {xs : List AV} {ok : AH → Prop}, (∀ A H, Keep H1 H → Rel X.K A H → ok A → ∃ vs, SqT X.K H b vs ∧ Reps X.K H xs vs) → ItOk X.K H1 ⟨enumA 0 xs, ok⟩ (IteT X.K b) := fun h i A2 H2 k2 r2 o => by
      obtain ⟨vs, hq, rs⟩ := h A2 H2 k2 r2 o
      refine ⟨fun hi => ⟨vs, hq, by rw [rs.length]; simpa [enumA_length] using hi⟩, fun y hy => ?_⟩
      obtain ⟨z, hz, rfl⟩ := enumA_get _ _ _ _ hy
      obtain ⟨w, hw, pw⟩ := rs.get hz
      refine ⟨⟨vs, w, hq, hw⟩, fun y H' hy => ?_⟩
      obtain ⟨T, x', rfl, hT, rfl, hx⟩ := hy
      have e2 : vs[i]? = some x' := hx vs hq
      rw [hw] at e2; cases e2
      rw [Nat.zero_add]
      exact pair_rep r2 hT (show Rep X.K H2 (.int (i : Nat)) (.int (i : Nat)) from rfl) pw
    split at t2
    · rename_i it ei
      unfold seqIt at ei
      split at ei
      · rename_i p
        split at ei
        · rename_i xs e1
          cases ei
          obtain ⟨vs, hq, rs⟩ := r1.lst e1
          rw [pu.ref_]
          refine ⟨p, vs, rfl, .inl ⟨.of hq, c _ A1 _ H1 r1 ?_ k1 t2⟩⟩
          exact mkL fun A2 H2 k2 r2 o => by
            obtain ⟨vs2, hq2, rs2⟩ := r2.lst o
            exact ⟨vs2, .of hq2, rs2⟩
        · cases ei
      · rename_i xs
        cases ei
        obtain ⟨b, vs, e1, hq, rs⟩ := pu.tup_
        rw [e1]
        refine ⟨b, vs, rfl, .inr ⟨.of hq, c _ A1 _ H1 r1 ?_ k1 t2⟩⟩
        exact mkT fun A2 H2 k2 r2 o => ⟨vs, .of (k2.tup _ _ hq), rs.keep k2⟩
      · rename_i xs
        cases ei
        obtain ⟨b, vs, e1, hq, rs⟩ := pu
        rw [e1]
        refine ⟨b, vs, rfl, .inr ⟨sqt_none hq, c _ A1 _ H1 r1 ?_ k1 t2⟩⟩
        exact mkT fun A2 H2 k2 r2 o => ⟨vs, sqt_none hq, rs.keep k2⟩
      · rename_i xs
        cases ei
        obtain ⟨b, vs, e1, hq, rs⟩ := pu
        rw [e1]
        refine ⟨b, vs, rfl, .inl ⟨hq.sqL, c _ A1 _ H1 r1 ?_ k1 t2⟩⟩
        exact mkL fun A2 H2 k2 r2 o => ⟨vs, (k2.sqF hq).sqL, rs.keep k2⟩
      · cases ei
    · exact t2.elim, x⟩
end
end Aw

set_option Elab.async false
set_option linter.all false
set_option maxRecDepth 100000
set_option maxHeartbeats 400000
/-! A12: list comprehensions. -/
namespace Aw
open PySem PySem.Spec PyProof.Rows L2
def wipeA (a : ASt) : List Nat → ASt
  | [] => a
  | i :: vs => (wipeA a vs).set i none
theorem Sts.wipe {K : PySem.W.Frag} {H : Hp} {a : ASt} {σ : L2.St} (s : Sts K H a σ) : ∀ vs : List Nat, Sts K H (wipeA a vs) (L2.wipe σ vs)
  | [] => s
  | i :: vs => (s.wipe vs).unset i
theorem wipe_set {σ : L2.St} {i : Nat} {x : Option V} : ∀ {vs : List Nat}, i ∈ vs → L2.wipe (σ.set i x) vs = L2.wipe σ vs := by
  have out : ∀ (vs : List Nat), (L2.wipe (σ.set i x) vs) = (L2.wipe σ vs).set i ((L2.wipe (σ.set i x) vs)[i]?.getD none) := by
    intro vs
    induction vs with
    | nil =>
      show σ.set i x = σ.set i (((σ.set i x)[i]?).getD none)
      by_cases h : i < σ.length
      · rw [List.getElem?_set_self h]; rfl
      · rw [List.set_eq_of_length_le (by omega), List.set_eq_of_length_le (by omega)]
    | cons j vs ih =>
      show (L2.wipe (σ.set i x) vs).set j none = ((L2.wipe σ vs).set j none).set i (((L2.wipe (σ.set i x) vs).set j none)[i]?.getD none)
      by_cases e : j = i
      · subst e
        rw [ih, List.set_set, List.set_set]
        by_cases h : j < (L2.wipe σ vs).length
        · rw [List.getElem?_set_self h]; rfl
        · rw [List.set_eq_of_length_le (by omega), List.set_eq_of_length_le (by omega)]
      · rw [List.getElem?_set_ne e, List.set_comm _ _ e, ← ih]
  intro vs h
  induction vs with
  | nil => cases h
  | cons j vs ih =>
    show (L2.wipe (σ.set i x) vs).set j none = (L2.wipe σ vs).set j none
    by_cases e : j = i
    · subst e
      rw [out vs, List.set_set]
    · rcases List.mem_cons.mp h with z | z
      · exact absurd z.symm e
      · rw [ih z]
def LowGw (K : PySem.W.Frag) (W : WX) (vs : List Nat) (T : ATG) : TG := fun v σ H Q => ∃ x a A k e, Rel K A H ∧ Sts K H a σ ∧ Rep K H x v ∧ T e x a A k ∧ (∀ a' A' σ' H', Rel K A' H' → Sts K H' a' σ' → Keep H H' → L2.wipe σ' vs = L2.wipe σ vs → k a' A' → Q σ' H') ∧ ExOk K W e H
def LowGsw (K : PySem.W.Frag) (W : WX) (vs : List Nat) (T : ATGs) : TGs := fun us σ H Q => ∃ xs a A k e, Rel K A H ∧ Sts K H a σ ∧ Reps K H xs us ∧ T e xs a A k ∧ (∀ a' A' σ' H', Rel K A' H' → Sts K H' a' σ' → Keep H H' → L2.wipe σ' vs = L2.wipe σ vs → k a' A' → Q σ' H') ∧ ExOk K W e H
abbrev AGw (X : Cx) (W : WX) (vs : List Nat) (tg : Expr) (T : ATG) : Prop := PG X tg (LowGw X.K W vs T)
abbrev AGsw (X : Cx) (W : WX) (vs : List Nat) (ts : List Expr) (T : ATGs) : Prop := PGs X ts (LowGsw X.K W vs T)
section
variable {X : Cx} {W : WX} {tg ex elt iter c : Expr} {pos : Pos} {G : ATG} {vs : List Nat} {Ti : ATI} {Te : ATE} {tt : ATT}
theorem agw_name {i : Nat} {x : Str} (hN : X.N.Nodup) (hw : i ∈ vs := by decide) (hi : X.N[i]? = some x := by rfl) (hx : Loc X.env.scope x := by first | exact Or.inl rfl | exact Or.inr rfl) (hf : X.fn x = true ∨ X.env.scope.names.lookup x = some .local := by first | exact .inl rfl | exact .inr rfl) : AGw X W vs (.Name x pos) (aGName i) :=
  pg_low (pg_name hN hi hx hf) fun v σ H Q ⟨x, a, A, k, e, r, s, p, t, c, ex⟩ => c _ A _ H r (s.set p i) (Keep.refl H) (wipe_set hw) t
theorem agsw_nil : AGsw X W vs [] aGNil := pgs_low pgs_nil fun us σ H Q ⟨xs, a, A, k, e, r, s, p, t, c, ex⟩ => by
  obtain ⟨z, t⟩ := t
  subst z
  exact ⟨p, c a A σ H r s (Keep.refl H) rfl t⟩
theorem agsw_cons {ts : List Expr} {U : ATGs} (h1 : AGw X W vs tg G) (h2 : AGsw X W vs ts U) (hs : (assignEach (tg :: ts) X.env).map (·.2) = assign tg X.env :: (assignEach ts X.env).map (·.2) := by rfl) : AGsw X W vs (tg :: ts) (aGCons G U) :=
  pgs_low (pgs_cons h1 h2 hs) fun us σ H Q ⟨xs, a, A, k, e, r, s, p, t, c, ex⟩ => by
    cases xs with
    | nil => exact t.elim
    | cons x xs =>
      obtain ⟨v, r', e1, p1, p2⟩ := p
      refine ⟨v, r', e1, x, a, A, _, e, r, s, p1, t, fun a1 A1 σ1 H1 r1 s1 k1 w1 t1 => ?_, ex⟩
      exact ⟨xs, a1, A1, k, e, r1, s1, p2.keep k1, t1, fun a' A' σ' H' r' s' k' w' q => c a' A' σ' H' r' s' (k1.trans k') (w'.trans w1) q, ex.keep k1⟩
theorem agw_tup {es : List Expr} {kk : Nat} {U : ATGs} {n : Nat} (hc : X.calm = true) (h : AGsw X W vs es U) (hn : (assignEach es X.env).length = n := by rfl) (hst : (assignEach es X.env).findIdx? (·.1) = none := by rfl) : AGw X W vs (.Tuple es kk pos) (aGTup n U) :=
  pg_low (pg_tup hc h hn hst) fun v σ H Q ⟨x, a, A, k, e, r, s, p, t, c, ex⟩ => by
    obtain ⟨xs, rfl, hl, t'⟩ := onTup_e t
    obtain ⟨q, us, e1, ht, rs⟩ := p
    exact ⟨q, us, e1, .of ht, by rw [rs.length]; exact hl, xs, a, A, k, e, r, s, rs, t', c, ex⟩
/-! ### tests -/
abbrev ATs (X : Cx) (W : WX) (ifs : List Expr) (T : ATT) : Prop := PTs X ifs (Low X.K W REq T)
def aYes : ATT := fun _ _ A k => k true A
theorem ats_nil : ATs X W [] aYes := ⟨fun pins s σ H Q I ⟨a, A, k, e, r, st, t, c, x⟩ => (pts_nil (X := X)).run pins s σ H Q I (c true A true H r rfl (Keep.refl H) t)⟩
theorem ats_one {t : ATT} (h : AT X W c t) : ATs X W [c] t := pts_one h
/-! ### one clause -/
abbrev noX : AX := fun _ _ _ => False
def aLcGo (ok : AH → Prop) (G : ATG) (tt : ATT) (Te : ATE) (a0 : ASt) (D : Addr) (k : AK) : List AV → AH → Prop
  | [], A => ok A ∧ k (.ref D) A
  | x :: xs, A => ok A ∧ G noX x a0 A fun a2 A2 => tt noX a2 A2 fun b A3 => if b = true then Te noX a2 A3 fun y A4 => (match A4 D with
      | some (.lst acc) => acc.length < sizeLine ∧ aLcGo ok G tt Te a0 D k xs (put A4 D (.lst (acc ++ [y])))
      | _ => False)
    else aLcGo ok G tt Te a0 D k xs A3
theorem aLcGo_ok {ok : AH → Prop} {G : ATG} {tt : ATT} {Te : ATE} {a0 : ASt} {D : Addr} {k : AK} : ∀ {xs : List AV} {A : AH}, aLcGo ok G tt Te a0 D k xs A → ok A
  | [], _, h => h.1
  | _ :: _, _, h => h.1
def aLc (Ti : ATI) (G : ATG) (tt : ATT) (Te : ATE) (vs : List Nat) : ATE := fun e a A k => Ti e a A fun it A1 => ∀ D, A1 D = none → aLcGo it.ok G tt Te (wipeA a vs) D k it.xs (put A1 D (.lst []))
theorem low_lc {σ : L2.St} {H : Hp} {Q : VK} (h : Low X.K W (Rep X.K) (aLc Ti G tt Te vs) σ H Q) : tLc (Low X.K W (ItOk X.K) Ti) (LowGw X.K W0 vs G) (Low X.K W0 REq tt) (Low X.K W0 (Rep X.K) Te) vs σ H Q := by
  obtain ⟨a, A, k, e, r, s, t, c, x⟩ := h
  refine ⟨a, A, _, e, r, s, t, fun ia A1 J H1 r1 p1 k1 t1 => fun D hD => ?_, x⟩
  have t2 := t1 D (r1.gone hD)
  have kD := Keep.new (o := .lst []) hD
  have rD := r1.newL hD (Reps.nil_ (K := X.K) (H := H1))
  refine ⟨fun i m H2 => m = ia.xs.length - i ∧ i ≤ ia.xs.length ∧ Keep H1 H2 ∧ ∃ A2, Rel X.K A2 H2 ∧ aLcGo ia.ok G tt Te (wipeA a vs) D k (ia.xs.drop i) A2, ⟨_, rfl, Nat.zero_le _, kD, _, rD, t2⟩, ?_⟩
  rintro i m H2 ⟨rfl, hi, kk, A2, r2, t2⟩
  obtain ⟨q1, q2⟩ := p1 i A2 H2 kk r2 (aLcGo_ok t2)
  have k2 := k1.trans kk
  by_cases hlt : i < ia.xs.length
  · have hx : ia.xs[i]? = some ia.xs[i] := List.getElem?_eq_getElem hlt
    obtain ⟨g1, g2⟩ := q2 _ hx
    rw [List.drop_eq_getElem_cons hlt] at t2
    obtain ⟨_, t3⟩ := t2
    refine .inr ⟨g1, fun H' => ia.xs.length - (i + 1) < ia.xs.length - i ∧ i + 1 ≤ ia.xs.length ∧ Keep H1 H' ∧ ∃ A2, Rel X.K A2 H' ∧ aLcGo ia.ok G tt Te (wipeA a vs) D k (ia.xs.drop (i + 1)) A2, fun H' w => ⟨_, w.1, rfl, w.2⟩, fun v H3 y => ?_⟩
    obtain ⟨r3, k3, p3⟩ := g2 v H3 y
    have k03 := k2.trans k3
    refine ⟨_, wipeA a vs, A2, _, noX, r3, (s.keep k03).wipe vs, p3, t3, fun a4 A4 σ4 H4 r4 s4 k4 w4 t4 => ⟨?_, ?_⟩, ExOk.no⟩
    · rw [w4]
      have idem : ∀ (us : List Nat), (∀ i ∈ us, i ∈ vs) → L2.wipe (L2.wipe σ us) vs = L2.wipe σ vs := by
        intro us
        induction us with
        | nil => intro _; rfl
        | cons j us ih =>
          intro h
          show L2.wipe ((L2.wipe σ us).set j none) vs = _
          rw [wipe_set (h j (by simp))]
          exact ih fun i hi => h i (List.mem_cons_of_mem _ hi)
      exact idem vs fun _ h => h
    refine ⟨a4, A4, _, noX, r4, s4, t4, fun b A5 b' H5 r5 p5 k5 t5 => ?_, ExOk.no⟩
    obtain rfl : b = b' := p5
    have k35 := k4.trans k5
    cases b with
    | true =>
      rw [if_pos rfl] at t5 ⊢
      refine ⟨a4, A5, _, noX, r5, s4.keep k5, t5, fun z A6 u H6 r6 p6 k6 t6 => ?_, ExOk.no⟩
      split at t6
      · rename_i acc eD
        obtain ⟨ws, hq, rs⟩ := r6.lst eD
        have kF := Keep.put (H := H6) (p := D) (o := .lst (ws ++ [u])) (by rw [hq]; trivial)
        refine ⟨ws, hq, by rw [rs.length]; exact t6.1, by omega, hlt, ((((kk.trans k3).trans k35).trans k6).trans kF), _, r6.putL eD (rs.append (Reps.one p6)), t6.2⟩
      · exact t6.elim
    | false =>
      rw [if_neg (by decide)] at t5 ⊢
      exact ⟨by omega, hlt, ((kk.trans k3).trans k35), A5, r5, t5⟩
  · have e1 : ia.xs.drop i = [] := List.drop_eq_nil_of_le (by omega)
    rw [e1] at t2
    exact .inl ⟨q1 (by omega), c (.ref D) A2 (.ref D) H2 r2 rfl k2 t2.2⟩
theorem ae_lc {ifs : List Expr} {scope : Scope} {own : List (Str × Nat)} (hc : X.calm = true) (hN : X.N.Nodup) (hi : AI X W tg iter Ti) (ok : blkC X.N X.env.scope scope own = true)
    (hg : ∀ (s : Shared) (H : Hp) (C : Addr) (cl : List (Str × Addr)) (fp : List Addr), AGw (X.blk s H scope (compEnvC scope cl C X.env) fp) W0 (own.map (·.2)) tg G)
    (ht : ∀ (s : Shared) (H : Hp) (C : Addr) (cl : List (Str × Addr)) (fp : List Addr), ATs (X.blk s H scope (compEnvC scope cl C X.env) fp) W0 ifs tt)
    (he : ∀ (s : Shared) (H : Hp) (C : Addr) (cl : List (Str × Addr)) (fp : List Addr), AE (X.blk s H scope (compEnvC scope cl C X.env) fp) W0 elt Te) (hs : ∀ x, foldedSetIterable iter X.env x = pure x := by intro _; rfl) :
    AE X W (.ListComp elt [⟨tg, iter, ifs, 0⟩] scope pos) (aLc Ti G tt Te (own.map (·.2))) := pe_low (pe_lc hc hN hi (blkOk_by ok) hg ht he hs) fun _ _ _ h => low_lc h
theorem as_setLc {i : Nat} {y : Str} {py spos : Pos} {ifs : List Expr} {scope : Scope} {own : List (Str × Nat)} (hc : X.calm = true) (hN : X.N.Nodup) (hi : AI X W tg iter Ti) (ok : blkC X.N X.env.scope scope own = true)
    (hg : ∀ (s : Shared) (H : Hp) (C : Addr) (cl : List (Str × Addr)) (fp : List Addr), AGw (X.blk s H scope (compEnvC scope cl C X.env) fp) W0 (own.map (·.2)) tg G)
    (ht : ∀ (s : Shared) (H : Hp) (C : Addr) (cl : List (Str × Addr)) (fp : List Addr), ATs (X.blk s H scope (compEnvC scope cl C X.env) fp) W0 ifs tt)
    (he : ∀ (s : Shared) (H : Hp) (C : Addr) (cl : List (Str × Addr)) (fp : List Addr), AE (X.blk s H scope (compEnvC scope cl C X.env) fp) W0 elt Te)
    (hsw : swapsWith (.ListComp elt [⟨tg, iter, ifs, 0⟩] scope pos) (some (.Name y py)) spos.line X.env = pure true) (hy : X.N[i]? = some y := by rfl) (hyl : X.env.scope.names.lookup y = some .local := by rfl) (hs : ∀ x, foldedSetIterable iter X.env x = pure x := by intro _; rfl) :
    AS X W (.Assign [.Name y py] (.ListComp elt [⟨tg, iter, ifs, 0⟩] scope pos) spos) (aAsg (aLc Ti G tt Te (own.map (·.2))) (aGName i)) :=
  ps_low (ps_setLc hc hN hy hyl hsw hi (blkOk_by ok) hg ht he hs) fun D σ H ⟨a, A, D', e, r, s, t, n, x⟩ => by
    refine low_lc (σ := σ) (H := H) (Q := fun v H1 => gName i v σ H1 D.nx) ⟨a, A, _, e, r, s, t, fun v A' u H' r' p' k' q => ?_, x⟩
    exact n.nx _ A' _ H' r' ((s.keep k').set p' i) k' q
end
end Aw

set_option Elab.async false
set_option linter.all false
set_option maxRecDepth 100000
set_option maxHeartbeats 400000
/-! A13: small things that the printed walks use. -/
namespace Aw
open PySem PySem.Spec PyProof.Rows L2
theorem bt_len : bootBuiltins "len" = some (.builtin "len") := by decide +kernel
theorem bt_all : bootBuiltins "all" = some (.builtin "all") := by decide +kernel
theorem bt_min : bootBuiltins "min" = some (.builtin "min") := by decide +kernel
theorem bt_max : bootBuiltins "max" = some (.builtin "max") := by decide +kernel
theorem bt_abs : bootBuiltins "abs" = some (.builtin "abs") := by decide +kernel
theorem bt_sorted : bootBuiltins "sorted" = some (.builtin "sorted") := by decide +kernel
theorem bt_isinstance : bootBuiltins "isinstance" = some (.builtin "isinstance") := by decide +kernel
theorem bt_list : bootBuiltins "list" = some (.type "list") := by decide +kernel
theorem bt_tuple : bootBuiltins "tuple" = some (.type "tuple") := by decide +kernel
theorem bt_int : bootBuiltins "int" = some (.type "int") := by decide +kernel
theorem bt_bool : bootBuiltins "bool" = some (.type "bool") := by decide +kernel
theorem bt_str : bootBuiltins "str" = some (.type "str") := by decide +kernel
theorem bt_dict : bootBuiltins "dict" = some (.type "dict") := by decide +kernel
theorem bt_set : bootBuiltins "set" = some (.type "set") := by decide +kernel
theorem hu_0 {k : Nat} {A : Around} (h : Room k A) : A.units < cLine := by have := h.un; omega
theorem hu_1 {k : Nat} {A : Around} (h : Room k A) : A.units + 1 < cLine := by have := h.un; omega
theorem hu_64 {k : Nat} {A : Around} (h : Room k A) : A.units + 64 < cLine := by have := h.un; omega
theorem hu_65 {k : Nat} {A : Around} (h : Room k A) : A.units + 65 < cLine := by have := h.un; omega
theorem tk00 {X : Cx} : Takes X W0 := fun u s' ⟨_, _, _, _, _, _, _, _, _, _, _, _, _, _, _, _, w⟩ => w.elim
section
variable {X : Cx} {W : WX}
theorem ae_gint {x : Str} {n : Int} {pos : Pos} (h : ∃ t, X.mg x = some (.int n t)) (hg : Gl X x := by rfl) (hd : (x == ("__debug__" : Str)) = false := by decide) : AE X W (.Name x pos) (aC (.int n)) := by
  obtain ⟨t, e⟩ := h
  exact ae_glob (v := .int n) e ⟨t, rfl⟩ (fun _ => rfl) hg hd
/-- an own exception class, made with a text -/
structure ECl (K : PySem.W.Frag) (mg : Str → Option Value) (x : Str) (C : Addr) : Prop where
  ex : PySem.W.excIn K C [.type "ValueError", .type "Exception", .type "BaseException", .type "object"] "ValueError.__new__" = true
  g : mg x = some (.ref C)
  kp : PySem.W.keepIn K (.ref C) = true
  sb : PySem.W.subIn K (.ref C) (.type "BaseException") = some true
  ty : PySem.W.typeIn K (.ref C) = some (.type "type")
theorem as_raiseX {x m : Str} {j : Nat} {p p2 pos pos' : Pos} {C : Addr} (hc : X.calm = true) (tk : Takes X W) (E : ECl X.K X.mg x C) (hg : Gl X x := by rfl) (hdb : (x == ("__debug__" : Str)) = false := by decide) :
    AS X W (.Raise (some (.Call (.Name x p) [.Constant (.str m) j p2] [] pos)) none pos') (aRaise C) := as_raise hc tk (pmk_own PySem.F.excBase_ValueError E.ex E.g E.kp (raises_own E.sb E.ty) hg hdb)
end
end Aw

set_option Elab.async false
set_option linter.all false
set_option maxRecDepth 100000
set_option maxHeartbeats 400000
/-! A14: reading the printed walks. -/
namespace Aw
open PySem PySem.Spec PyProof.Rows L2
theorem aVar0 {e : AX} {x : AV} {r : ASt} {A : AH} {k : AK} : aVar 0 e (some x :: r) A k = k x A := id rfl
theorem aVarS {i : Nat} {e : AX} {x : Option AV} {r : ASt} {A : AH} {k : AK} : aVar (i + 1) e (x :: r) A k = aVar i e r A k := id rfl
def onO {α : Type} (o : Option α) (P : α → Prop) : Prop := match o with
  | some v => P v
  | none => False
theorem onO_some {α : Type} {v : α} {P : α → Prop} : onO (some v) P = P v := id rfl
theorem onO_i {α : Type} {o : Option α} {v : α} {P : α → Prop} (h : o = some v) (p : P v) : onO o P := by subst h; exact p
/-! ### subscripts -/
theorem e_ixr {p : Addr} {i : Int} {A : AH} {k : AK} : rIxA (.ref p) (.int i) A k = (match A p with
    | some (.lst xs) => onO (atI xs i) fun v => k v A
    | some (.dK kvs) => onO (valA kvs (.inl i)) fun v => k v A
    | _ => False) := by
  unfold rIxA asS asL dget
  cases h : A p with
  | none => simp [h, onRef]
  | some o =>
    cases o with
    | lst xs => simp only [h, onInt, onO]; cases atI xs i <;> rfl
    | dK kvs => simp only [h, onRef, onO]; cases valA kvs (.inl i) <;> rfl
    | _ => simp [h, onRef]
theorem e_ixt {xs : List AV} {i : Int} {A : AH} {k : AK} : rIxA (.tup xs) (.int i) A k = onO (atI xs i) fun v => k v A := by
  unfold rIxA asS onInt onO
  cases h : atI xs i <;> simp [h]
theorem e_ixs {xs : List AV} {i : Int} {A : AH} {k : AK} : rIxA (.st xs) (.int i) A k = onO (atI xs i) fun v => k v A := by
  unfold rIxA asS onInt onO
  cases h : atI xs i <;> simp [h]
theorem e_ixf {xs : List AV} {i : Int} {A : AH} {k : AK} : rIxA (.fl xs) (.int i) A k = onO (atI xs i) fun v => k v A := by
  unfold rIxA asS asL onInt onO
  cases h : atI xs i <;> simp [h]
theorem e_at0 {α : Type} {x : α} {r : List α} : atI (x :: r) 0 = some x := by
  unfold atI ixN
  have : (0 : Int) < ((x :: r).length : Int) := by simp only [List.length_cons]; omega
  rw [if_pos (by decide), if_pos this]
  rfl
theorem e_at1 {α : Type} {x y : α} {r : List α} : atI (x :: y :: r) 1 = some y := by
  unfold atI ixN
  have : (1 : Int) < ((x :: y :: r).length : Int) := by simp only [List.length_cons]; omega
  rw [if_pos (by decide), if_pos this]
  rfl
theorem e_at2 {α : Type} {x y z : α} {r : List α} : atI (x :: y :: z :: r) 2 = some z := by
  unfold atI ixN
  have : (2 : Int) < ((x :: y :: z :: r).length : Int) := by simp only [List.length_cons]; omega
  rw [if_pos (by decide), if_pos this]
  rfl
theorem at_n {α : Type} {xs : List α} {n : Nat} {x : α} (h : xs[n]? = some x) : atI xs (n : Int) = some x := by
  have hl := (List.getElem?_eq_some_iff.mp h).1
  unfold atI ixN
  rw [if_pos (by omega), if_pos (by omega)]
  exact h
theorem at_i {α : Type} {xs : List α} {i : Int} (h0 : 0 ≤ i) (h : i < xs.length) : ∃ x, xs[i.toNat]? = some x ∧ atI xs i = some x := by
  have hl : i.toNat < xs.length := by omega
  refine ⟨xs[i.toNat], List.getElem?_eq_getElem hl, ?_⟩
  have := at_n (List.getElem?_eq_getElem hl)
  rwa [Int.toNat_of_nonneg h0] at this
theorem ixN_n {n j : Nat} (h : j < n) : ixN n (j : Int) = some j := by
  unfold ixN
  rw [if_pos (by omega), if_pos (by omega)]
  rfl
/-! ### stores -/
theorem e_setr {p : Addr} {i : Int} {v : AV} {A : AH} {k : AH → Prop} : rSetA (.ref p) (.int i) v A k = (match A p with
    | some (.lst xs) => onO (ixN xs.length i) fun j => k (put A p (.lst (xs.set j v)))
    | some (.dK kvs) => kvs.length < sizeLine ∧ k (put A p (.dK (putA kvs (.inl i) v)))
    | _ => False) := by
  unfold rSetA onRef dput
  cases h : A p with
  | none => simp [h]
  | some o =>
    cases o with
    | lst xs => simp only [h, onInt, onO]; cases ixN xs.length i <;> rfl
    | dK kvs =>
      simp only [h]
      by_cases z : kvs.length < sizeLine <;> simp [z]
    | _ => simp [h]
theorem e_ix2_0 : ixN 2 0 = some 0 := by decide
theorem e_ix2_1 : ixN 2 1 = some 1 := by decide
theorem e_ix3_0 : ixN 3 0 = some 0 := by decide
theorem e_ix3_1 : ixN 3 1 = some 1 := by decide
theorem e_ix3_2 : ixN 3 2 = some 2 := by decide
/-! ### + -/
theorem e_addI {i j : Int} {A : AH} {k : AK} : rAddA (.int i) (.int j) A k = k (.int (i + j)) A := id rfl
theorem e_addS {i j : Str} {A : AH} {k : AK} : rAddA (.str i) (.str j) A k = (i.length + j.length ≤ sizeLine ∧ k (.str (i ++ j)) A) := id rfl
theorem e_addT {i j : List AV} {A : AH} {k : AK} : rAddA (.tup i) (.tup j) A k = (i.length + j.length ≤ sizeLine ∧ k (.tup (i ++ j)) A) := id rfl
theorem e_addL {a b : Addr} {A : AH} {k : AK} : rAddA (.ref a) (.ref b) A k = (match A a, A b with
    | some (.lst xs), some (.lst ys) => xs.length + ys.length ≤ sizeLine ∧ ∀ p, A p = none → k (.ref p) (put A p (.lst (xs ++ ys)))
    | _, _ => False) := rfl
/-! ### comparisons -/
theorem e_eqI {f : Bool → Bool} {i j : Int} {A : AH} {k : AK} : rEqN f (.int i) (.int j) A k = k (.bl (f (decide (i = j)))) A := id rfl
theorem e_eqS {f : Bool → Bool} {i j : Str} {A : AH} {k : AK} : rEqN f (.str i) (.str j) A k = k (.bl (f (decide (i = j)))) A := id rfl
theorem e_eqB {f : Bool → Bool} {i j : Bool} {A : AH} {k : AK} : rEqN f (.bl i) (.bl j) A k = k (.bl (f (decide (i = j)))) A := id rfl
theorem e_eqT {f : Bool → Bool} {i j : List AV} {A : AH} {k : AK} : rEqN f (.tup i) (.tup j) A k = rDeepA f (.tup i) (.tup j) A k := id rfl
theorem e_eqR {f : Bool → Bool} {i j : Addr} {A : AH} {k : AK} : rEqN f (.ref i) (.ref j) A k = rDeepA f (.ref i) (.ref j) A k := id rfl
theorem e_ltI {i j : Int} {A : AH} {k : AK} : rLtA (.int i) (.int j) A k = k (.bl (decide (i < j))) A := id rfl
theorem e_isN {f : Bool → Bool} {x : AV} {A : AH} {k : AK} : rIsA f x .non A k = k (.bl (f (isNonA x))) A := id rfl
/-! ### len, list, isinstance, int, all -/
theorem e_lenR {p : Addr} {A : AH} {k : AK} : rLenA [.ref p] A k = (match A p with
    | some (.lst xs) => k (.int (xs.length : Nat)) A
    | some (.dK kvs) => k (.int (kvs.length : Nat)) A
    | _ => False) := by
  unfold rLenA on1 lenA asS asL
  cases h : A p with
  | none => simp [h]
  | some o => cases o <;> simp [h]
theorem e_lenT {xs : List AV} {A : AH} {k : AK} : rLenA [.tup xs] A k = k (.int (xs.length : Nat)) A := id rfl
theorem e_lenF {xs : List AV} {A : AH} {k : AK} : rLenA [.fl xs] A k = k (.int (xs.length : Nat)) A := id rfl
theorem e_listR {p : Addr} {A : AH} {k : AK} : rListA [.ref p] A k = (match A p with
    | some (.lst xs) => ∀ q, A q = none → k (.ref q) (put A q (.lst xs))
    | _ => False) := by
  unfold rListA on1 asS asL
  cases h : A p with
  | none => simp [h]
  | some o => cases o <;> simp [h]
theorem e_listT {xs : List AV} {A : AH} {k : AK} : rListA [.tup xs] A k = ∀ q, A q = none → k (.ref q) (put A q (.lst xs)) := id rfl
theorem e_isi {x : AV} {n : String} {b : Ty0} {A : AH} {k : AK} (hb : tyOf n = some b) : rIsiA [x, .raw (.ty n)] A k = onO (tyA A x) fun a => k (.bl (a.sub b)) A := by
  unfold rIsiA on2
  simp only [hb]
  cases tyA A x <;> rfl
theorem ty_int : tyOf "int" = some .int := by decide
theorem ty_bool : tyOf "bool" = some .bl := by decide
theorem ty_str : tyOf "str" = some .str := by decide
theorem ty_tuple : tyOf "tuple" = some .tup := by decide
theorem ty_list : tyOf "list" = some .lst := by decide
theorem ty_dict : tyOf "dict" = some .dct := by decide
theorem e_isi_int {x : AV} {A : AH} {k : AK} : rIsiA [x, .raw (.ty "int")] A k = onO (tyA A x) fun a => k (.bl (a.sub .int)) A := e_isi ty_int
theorem e_isi_bool {x : AV} {A : AH} {k : AK} : rIsiA [x, .raw (.ty "bool")] A k = onO (tyA A x) fun a => k (.bl (a.sub .bl)) A := e_isi ty_bool
theorem e_isi_str {x : AV} {A : AH} {k : AK} : rIsiA [x, .raw (.ty "str")] A k = onO (tyA A x) fun a => k (.bl (a.sub .str)) A := e_isi ty_str
theorem e_isi_tuple {x : AV} {A : AH} {k : AK} : rIsiA [x, .raw (.ty "tuple")] A k = onO (tyA A x) fun a => k (.bl (a.sub .tup)) A := e_isi ty_tuple
theorem e_isi_list {x : AV} {A : AH} {k : AK} : rIsiA [x, .raw (.ty "list")] A k = onO (tyA A x) fun a => k (.bl (a.sub .lst)) A := e_isi ty_list
theorem e_intI {i : Int} {A : AH} {k : AK} : rIntA [.int i] A k = k (.int i) A := id rfl
theorem e_intB {i : Bool} {A : AH} {k : AK} : rIntA [.bl i] A k = k (.int (if i then 1 else 0)) A := id rfl
/-! ### loops go over -/
theorem e_seqR {p : Addr} {A : AH} {xs : List AV} (h : A p = some (.lst xs)) : seqIt A (.ref p) = some ⟨xs, fun A' => A' p = some (.lst xs)⟩ := by simp [seqIt, h]
theorem e_seqT {xs : List AV} {A : AH} : seqIt A (.tup xs) = some ⟨xs, fun _ => True⟩ := id rfl
theorem e_seqF {xs : List AV} {A : AH} : seqIt A (.fl xs) = some ⟨xs, fun _ => True⟩ := id rfl
/-! ### slices -/
theorem e_slT {xs : List AV} {lo hi : Option Int} {A : AH} {k : AK} : rSlA (.tup xs) lo hi A k = k (.tup (cutA xs lo hi)) A := id rfl
theorem e_slF {xs : List AV} {lo hi : Option Int} {A : AH} {k : AK} : rSlA (.fl xs) lo hi A k = ∀ p, A p = none → k (.ref p) (put A p (.lst (cutA xs lo hi))) := id rfl
theorem e_slR {p : Addr} {lo hi : Option Int} {A : AH} {k : AK} : rSlA (.ref p) lo hi A k = (match A p with
    | some (.lst xs) => ∀ q, A q = none → k (.ref q) (put A q (.lst (cutA xs lo hi)))
    | _ => False) := by
  unfold rSlA asL
  cases h : A p with
  | none => simp [h]
  | some o => cases o <;> simp [h]
/-! ### methods -/
theorem e_app {p : Addr} {y : AV} {A : AH} {k : AK} {xs : List AV} (h : A p = some (.lst xs)) : rAppendA (.ref p) [y] A k = (xs.length < sizeLine ∧ k .non (put A p (.lst (xs ++ [y])))) := by
  simp [rAppendA, onLst, h, on1]
theorem e_isL {p : Addr} {A : AH} : isTA "list" (.ref p) A = (match A p with
    | some (.lst _) => True
    | _ => False) := by
  unfold isTA
  cases h : A p with
  | none => simp [h]
  | some o => cases o <;> simp [h]
/-! ### in -/
theorem e_inT {f : Bool → Bool} {x : AV} {ys : List AV} {A : AH} {k : AK} (h1 : flatA x = true) (h2 : ys.all flatA = true) (h : k (.bl (f (inA x ys))) A) : rInA f x (.tup ys) A k := .inl ⟨h1, h2, h⟩
theorem e_inL {f : Bool → Bool} {x : AV} {p : Addr} {ys : List AV} {A : AH} {k : AK} (hA : A p = some (.lst ys)) (h1 : flatA x = true) (h2 : ys.all flatA = true) (h : k (.bl (f (inA x ys))) A) : rInA f x (.ref p) A k := by
  unfold rInA asS asL
  simp only [hA]
  exact .inl ⟨h1, h2, h⟩
theorem e_inD {f : Bool → Bool} {i : Int} {p : Addr} {kvs : List (Key × AV)} {A : AH} {k : AK} (hA : A p = some (.dK kvs)) : rInA f (.int i) (.ref p) A k = k (.bl (f (valA kvs (.inl i)).isSome)) A := by
  unfold rInA asS asL onRef dget
  simp only [hA]
theorem flat_ints (ns : List Int) : (ns.map AV.int).all flatA = true := by
  rw [List.all_map]
  exact List.all_eq_true.mpr fun _ _ => rfl
theorem inA_ints {i : Int} {ns : List Int} : inA (.int i) (ns.map AV.int) = decide (i ∈ ns) := by
  induction ns with
  | nil => rfl
  | cons n ns ih =>
    show (eqF (.int n) (.int i) || inA (.int i) (ns.map AV.int)) = _
    rw [ih]
    show ((n == i) || decide (i ∈ ns)) = _
    by_cases h : n = i
    · subst h; simp
    · have : ¬ i = n := fun z => h z.symm
      simp [h, this]
/-! ### heaps: what stays -/
/-- all that stood stands, but what stands at p -/
def Ext (A A' : AH) : Prop := ∀ b o, A b = some o → A' b = some o
def ExtB (p : Addr) (A A' : AH) : Prop := ∀ b o, b ≠ p → A b = some o → A' b = some o
theorem Ext.refl (A : AH) : Ext A A := fun _ _ h => h
theorem Ext.trans {A B C : AH} (h : Ext A B) (h' : Ext B C) : Ext A C := fun b o e => h' b o (h b o e)
theorem Ext.new {A : AH} {p : Addr} {o : AO} (h : A p = none) : Ext A (put A p o) := fun b u e => by rw [put_ne (ane e h)]; exact e
theorem ExtB.refl {p : Addr} (A : AH) : ExtB p A A := fun _ _ _ h => h
theorem ExtB.trans {p : Addr} {A B C : AH} (h : ExtB p A B) (h' : ExtB p B C) : ExtB p A C := fun b o n e => h' b o n (h b o n e)
theorem ExtB.wr {p : Addr} {A : AH} {o : AO} : ExtB p A (put A p o) := fun b u n e => by rw [put_ne n]; exact e
theorem Ext.b {p : Addr} {A B : AH} (h : Ext A B) : ExtB p A B := fun b o _ e => h b o e
theorem ExtB.gone {p q : Addr} {A B : AH} (h : ExtB p A B) (n : q ≠ p) (e : B q = none) : A q = none := by
  cases z : A q with
  | none => rfl
  | some o => rw [h q o n z] at e; cases e
theorem Ext.gone {q : Addr} {A B : AH} (h : Ext A B) (e : B q = none) : A q = none := by
  cases z : A q with
  | none => rfl
  | some o => rw [h q o z] at e; cases e
/-- what is put where nothing stood -/
theorem Ext.putn {A B : AH} {p : Addr} {o : AO} (h : Ext A B) (n : A p = none) : Ext A (put B p o) := fun b u e => by rw [put_ne (ane e n)]; exact h b u e
theorem ExtB.putn {A B : AH} {p q : Addr} {o : AO} (h : ExtB q A B) (n : A p = none) : ExtB q A (put B p o) := fun b u ne e => by rw [put_ne (ane e n)]; exact h b u ne e
end Aw

set_option Elab.async false
set_option linter.all false
set_option maxRecDepth 100000
set_option maxHeartbeats 400000
/-! A15: comprehensions by an invariant, data. -/
namespace Aw
open PySem PySem.Spec PyProof.Rows L2
theorem lc_inv {ok : AH → Prop} {G : ATG} {tt : ATT} {Te : ATE} {a0 : ASt} {D : Addr} {k : AK} {xs : List AV} {A : AH} (Pv : Nat → List AV → AH → Prop) (hl : xs.length ≤ sizeLine) (hD : A D = some (.lst [])) (h0 : Pv 0 [] A)
    (hok : ∀ i acc A, i ≤ xs.length → A D = some (.lst acc) → Pv i acc A → ok A)
    (hs : ∀ i x acc A (Y : AV → AH → Prop) (N : AH → Prop), xs[i]? = some x → A D = some (.lst acc) → Pv i acc A →
      (∀ y A', A' D = some (.lst acc) → Pv (i + 1) (acc ++ [y]) (put A' D (.lst (acc ++ [y]))) → Y y A') → (∀ A', A' D = some (.lst acc) → Pv (i + 1) acc A' → N A') →
      G noX x a0 A fun a2 A2 => tt noX a2 A2 fun b A3 => if b = true then Te noX a2 A3 Y else N A3)
    (hd : ∀ acc A, A D = some (.lst acc) → Pv xs.length acc A → k (.ref D) A) : aLcGo ok G tt Te a0 D k xs A := by
  have main : ∀ (n i : Nat) acc A, n = xs.length - i → i ≤ xs.length → acc.length ≤ i → A D = some (.lst acc) → Pv i acc A → aLcGo ok G tt Te a0 D k (xs.drop i) A := by
    intro n
    induction n with
    | zero =>
      intro i acc A hn hi ha hD p
      have ei : i = xs.length := by omega
      subst ei
      rw [List.drop_length]
      exact ⟨hok _ acc A (Nat.le_refl _) hD p, hd acc A hD p⟩
    | succ n ih =>
      intro i acc A hn hi ha hD p
      have hlt : i < xs.length := by omega
      rw [List.drop_eq_getElem_cons hlt]
      refine ⟨hok i acc A hi hD p, ?_⟩
      refine hs i _ acc A (fun y A4 => match A4 D with
        | some (.lst acc) => acc.length < sizeLine ∧ aLcGo ok G tt Te a0 D k (xs.drop (i + 1)) (put A4 D (.lst (acc ++ [y])))
        | _ => False) (fun A3 => aLcGo ok G tt Te a0 D k (xs.drop (i + 1)) A3) (List.getElem?_eq_getElem hlt) hD p (fun y A' e q => ?_) (fun A' e q => ?_)
      · simp only [e]
        exact ⟨by omega, ih (i + 1) (acc ++ [y]) _ (by omega) hlt (by simp; omega) put_same q⟩
      · exact ih (i + 1) acc A' (by omega) hlt (by omega) e q
  have m := main _ 0 [] A rfl (Nat.zero_le _) (Nat.le_refl _) hD h0
  simpa using m
/-! ### data -/
def Dat (A : AH) (n : Nat) (x : AV) : Prop := ∃ d, AD A x d ∧ d.canLay0 = true ∧ d.depth ≤ n
def Dats (A : AH) (n : Nat) (xs : List AV) (ds : List PyData) : Prop := ADs A xs ds ∧ PyData.canLayAll0 ds = true ∧ PyData.depthAll ds ≤ n
theorem Dats.of {A : AH} {n : Nat} : ∀ {xs : List AV}, (∀ x ∈ xs, Dat A n x) → ∃ ds, Dats A n xs ds
  | [], _ => ⟨[], .nil, rfl, Nat.zero_le _⟩
  | x :: xs, h => by
    obtain ⟨d, h1, h2, h3⟩ := h x (by simp)
    obtain ⟨ds, g1, g2, g3⟩ := Dats.of (xs := xs) fun y hy => h y (List.mem_cons_of_mem _ hy)
    exact ⟨d :: ds, .cons h1 g1, by rw [PyData.canLayAll0, h2, g2]; rfl, by rw [PyData.depthAll]; omega⟩
theorem Dat.int {A : AH} {n : Nat} (i : Int) : Dat A n (.int i) := ⟨_, .int i, rfl, Nat.zero_le _⟩
theorem Dat.bl {A : AH} {n : Nat} (i : Bool) : Dat A n (.bl i) := ⟨_, .bl i, rfl, Nat.zero_le _⟩
theorem Dat.non {A : AH} {n : Nat} : Dat A n .non := ⟨_, .non, rfl, Nat.zero_le _⟩
theorem Dat.str {A : AH} {n : Nat} {x : Str} (h : PyData.canLay0 (.str x) = true) : Dat A n (.str x) := ⟨_, .str x, h, Nat.zero_le _⟩
theorem Dat.tup {A : AH} {n : Nat} {xs : List AV} (h : ∀ x ∈ xs, Dat A n x) : Dat A (n + 1) (.tup xs) := by
  obtain ⟨ds, g1, g2, g3⟩ := Dats.of h
  exact ⟨.tuple ds, .tup g1, g2, by rw [PyData.depth]; omega⟩
theorem Dat.lst {A : AH} {n : Nat} {x : AV} {xs : List AV} (e : asL A x = some xs) (h : ∀ x ∈ xs, Dat A n x) : Dat A (n + 1) x := by
  obtain ⟨ds, g1, g2, g3⟩ := Dats.of h
  exact ⟨.list ds, .lst e g1, g2, by rw [PyData.depth]; omega⟩
theorem Dat.mono {A : AH} {n m : Nat} {x : AV} (h : Dat A n x) (l : n ≤ m) : Dat A m x := let ⟨d, a, b, c⟩ := h; ⟨d, a, b, Nat.le_trans c l⟩
/-- alike in two places -/
def Same2 (A : AH) (n : Nat) (x y : AV) : Prop := ∃ d, AD A x d ∧ AD A y d ∧ d.canLay0 = true ∧ d.depth ≤ n
theorem Dat.same {A : AH} {n : Nat} {x : AV} (h : Dat A n x) : Same2 A n x x := let ⟨d, a, b, c⟩ := h; ⟨d, a, a, b, c⟩
theorem Same2.lst {A : AH} {n : Nat} {x y : AV} {xs : List AV} (e : asL A x = some xs) (e' : asL A y = some xs) (h : ∀ x ∈ xs, Dat A n x) : Same2 A (n + 1) x y := by
  obtain ⟨ds, g1, g2, g3⟩ := Dats.of h
  exact ⟨.list ds, .lst e g1, .lst e' g1, g2, by rw [PyData.depth]; omega⟩
theorem Same2.tup2 {A : AH} {n : Nat} {x y u v : AV} (h : Same2 A n x u) (h' : Same2 A n y v) : Same2 A (n + 1) (.tup [x, y]) (.tup [u, v]) := by
  obtain ⟨d, a1, a2, a3, a4⟩ := h
  obtain ⟨e, b1, b2, b3, b4⟩ := h'
  exact ⟨.tuple [d, e], .tup (.cons a1 (.cons b1 .nil)), .tup (.cons a2 (.cons b2 .nil)), by rw [PyData.canLay0, PyData.canLayAll0, PyData.canLayAll0, PyData.canLayAll0, a3, b3]; rfl, by rw [PyData.depth, PyData.depthAll, PyData.depthAll, PyData.depthAll]; omega⟩
theorem shaped_of {d : PyData} (h : d.canLay0 = true) (h' : d.depth ≤ 64) : SeqAt.shaped d = true := by
  unfold SeqAt.shaped
  rw [h, decide_eq_true h']
  rfl
theorem e_same {f : Bool → Bool} {A : AH} {x y : AV} {k : AK} (h : Same2 A 64 x y) (q : k (.bl (f true)) A) : rDeepA f x y A k := by
  obtain ⟨d, h1, h2, h3, h4⟩ := h
  refine ⟨d, d, h1, h2, shaped_of h3 h4, shaped_of h3 h4, ?_⟩
  rw [show PyData.eqv d d = true from SeqAt.eqv_refl d h3]
  exact q
/-- a list held against [] -/
theorem e_nil {f : Bool → Bool} {A : AH} {x y : AV} {xs : List AV} {k : AK} (e : asL A x = some xs) (e' : asL A y = some []) (h : ∀ x ∈ xs, Dat A 63 x) (q : k (.bl (f (decide (xs = [])))) A) : rDeepA f x y A k := by
  obtain ⟨ds, g1, g2, g3⟩ := Dats.of h
  refine ⟨.list ds, .list [], .lst e g1, .lst e' .nil, shaped_of g2 (by rw [PyData.depth]; omega), by decide, ?_⟩
  have : PyData.eqv (.list ds) (.list []) = decide (xs = []) := by
    rw [PyData.eqv]
    cases g1 with
    | nil => rfl
    | cons _ _ => rfl
  rw [this]
  exact q
theorem eqvAll_ints : ∀ ns ms : List Int, PyData.eqvAll (ns.map PyData.int) (ms.map PyData.int) = decide (ns = ms)
  | [], [] => by rfl
  | [], _ :: _ => by rfl
  | _ :: _, [] => by rfl
  | n :: ns, m :: ms => by
    show (PyData.eqv (.int n) (.int m) && PyData.eqvAll (ns.map PyData.int) (ms.map PyData.int)) = _
    rw [eqvAll_ints ns ms, PyData.eqv]
    by_cases h : n = m <;> by_cases h' : ns = ms <;> simp [h, h']
theorem ads_ints {A : AH} : ∀ ns : List Int, ADs A (ns.map AV.int) (ns.map PyData.int)
  | [] => .nil
  | n :: ns => .cons (.int n) (ads_ints ns)
theorem ints_lay : ∀ ns : List Int, PyData.canLayAll0 (ns.map PyData.int) = true ∧ PyData.depthAll (ns.map PyData.int) = 0
  | [] => ⟨rfl, rfl⟩
  | n :: ns => by
    obtain ⟨a, b⟩ := ints_lay ns
    exact ⟨by show (PyData.canLay0 (.int n) && _) = true; rw [a]; rfl, by show max (PyData.depth (.int n)) _ = 0; rw [b]; rfl⟩
/-- tuples of ints -/
theorem e_tupI {f : Bool → Bool} {A : AH} {ns ms : List Int} {k : AK} (q : k (.bl (f (decide (ns = ms)))) A) : rDeepA f (.tup (ns.map AV.int)) (.tup (ms.map AV.int)) A k := by
  obtain ⟨a, b⟩ := ints_lay ns
  obtain ⟨a', b'⟩ := ints_lay ms
  refine ⟨.tuple (ns.map PyData.int), .tuple (ms.map PyData.int), .tup (ads_ints ns), .tup (ads_ints ms), shaped_of a (by rw [PyData.depth, b]; omega), shaped_of a' (by rw [PyData.depth, b']; omega), ?_⟩
  rw [PyData.eqv, eqvAll_ints]
  exact q
theorem e_tup2 {f : Bool → Bool} {A : AH} {a b c d : Int} {k : AK} (q : k (.bl (f (decide (a = c ∧ b = d)))) A) : rDeepA f (.tup [.int a, .int b]) (.tup [.int c, .int d]) A k := by
  refine e_tupI (ns := [a, b]) (ms := [c, d]) ?_
  have : decide ([a, b] = [c, d]) = decide (a = c ∧ b = d) := by simp
  rw [this]
  exact q
/-- least and greatest of ints -/
theorem alike_ints (ns : List Int) : PySem.W.AlikeAll (ns.map PyData.int) := by
  refine ⟨fun x hx y hy => ?_, fun x hx => ?_⟩
  · obtain ⟨a, _, rfl⟩ := List.mem_map.mp hx
    obtain ⟨b, _, rfl⟩ := List.mem_map.mp hy
    rfl
  · obtain ⟨a, _, rfl⟩ := List.mem_map.mp hx
    intro z; cases z
theorem e_best {f : PyData → List PyData → PyData} {A : AH} {x : AV} {n m : Int} {ns : List Int} {k : AK} (e : asS A x = some ((n :: ns).map AV.int)) (hf : f (.int n) (ns.map PyData.int) = .int m) (q : k (.int m) A) : rBest f [x] A k := by
  unfold rBest on1
  simp only [e]
  refine ⟨.int n, ns.map PyData.int, ads_ints (n :: ns), alike_ints (n :: ns), (ints_lay (n :: ns)).1, by have := (ints_lay (n :: ns)).2; show PyData.depthAll ((n :: ns).map PyData.int) ≤ 60; omega, fun i y h1 h2 => ?_⟩
  rw [hf] at h2
  have h3 : ((n :: ns).map PyData.int)[i]? = some (.int m) := h2
  rw [List.getElem?_map] at h1 h3
  cases z : (n :: ns)[i]? with
  | none => rw [z] at h1; cases h1
  | some j =>
    rw [z] at h1 h3
    cases h3
    cases h1
    exact q
theorem e_min {A : AH} {x : AV} {n : Int} {ns : List Int} {k : AK} (e : asS A x = some ((n :: ns).map AV.int)) (q : k (.int (ns.foldl min n)) A) : rBest PySem.W.minD [x] A k := e_best e (PySem.W.minD_ints n ns) q
theorem e_max {A : AH} {x : AV} {n : Int} {ns : List Int} {k : AK} (e : asS A x = some ((n :: ns).map AV.int)) (q : k (.int (ns.foldl max n)) A) : rBest PySem.W.maxD [x] A k := e_best e (PySem.W.maxD_ints n ns) q
/-! ### all -/
theorem allBls_map : ∀ bs : List Bool, allBls (bs.map AV.bl) = some bs
  | [] => rfl
  | b :: bs => by
    show (allBls (bs.map AV.bl)).map (b :: ·) = _
    rw [allBls_map bs]
    rfl
theorem e_all {p : Addr} {bs : List Bool} {A : AH} {k : AK} (h : A p = some (.lst (bs.map AV.bl))) (q : k (.bl (bs.all id)) A) : rAllA [.ref p] A k := by
  unfold rAllA on1 asL
  simp only [h, allBls_map]
  exact q
/-! ### sets, sorted -/
theorem e_lenSet {T : ATE} {e : AX} {a : ASt} {A : AH} {k : AK} : aLenSet T e a A k = T e a A fun x A1 => onO (asL A1 x) fun ys => onO (allInts ys) fun ns => ns.length < 4000 ∧ k (.int (dedI ns).length) A1 := by
  unfold aLenSet
  congr 1
  funext x A1
  cases asL A1 x with
  | none => rfl
  | some ys => simp only [onO]; cases allInts ys <;> rfl
theorem e_sortedSet {T : ATE} {e : AX} {a : ASt} {A : AH} {k : AK} : aSortedSet T e a A k = T e a A fun x A1 => onO (asL A1 x) fun ys => onO (allInts ys) fun ns => ns.length < 64 ∧ ∀ p, A1 p = none → k (.ref p) (put A1 p (.lst ((setI ns).map AV.int))) := by
  unfold aSortedSet
  congr 1
  funext x A1
  cases asL A1 x with
  | none => rfl
  | some ys => simp only [onO]; cases allInts ys <;> rfl
theorem e_sort {p : Addr} {ns : List Int} {A : AH} {k : AK} (h : A p = some (.lst (ns.map AV.int))) (hl : ns.length < 64) (q : ∀ p, A p = none → k (.ref p) (put A p (.lst ((sortI ns).map AV.int)))) : rSortA [.ref p] A k := by
  unfold rSortA on1 asL
  simp only [h, allInts_map]
  exact ⟨hl, q⟩
theorem sortI_of {ns : List Int} (h : ns.Pairwise (· ≤ ·)) : sortI ns = ns := (sortI_uniq (List.Perm.refl _) h).symm
/-! ### one step -/
theorem x_seq {T U : ATS} {e : AX} {a : ASt} {A : AH} {D : AEnds} : aSeq T U e D a A = (T e { D with nx := U e D } a A) := id rfl
theorem x_next  {e : AX} {a : ASt} {A : AH} {D : AEnds} : aNext e D a A = (D.nx a A) := id rfl
theorem x_break  {e : AX} {a : ASt} {A : AH} {D : AEnds} : aBreak e D a A = (D.bk a A) := id rfl
theorem x_cont  {e : AX} {a : ASt} {A : AH} {D : AEnds} : aCont e D a A = (D.ct a A) := id rfl
theorem x_drop {T : ATE} {e : AX} {a : ASt} {A : AH} {D : AEnds} : aDrop T e D a A = (T e a A fun _ A1 => D.nx a A1) := id rfl
theorem x_ret {T : ATE} {e : AX} {a : ASt} {A : AH} {D : AEnds} : aRet T e D a A = (T e a A D.rt) := id rfl
theorem x_retN  {e : AX} {a : ASt} {A : AH} {D : AEnds} : aRetN e D a A = (D.rt .non A) := id rfl
theorem x_if {t : ATT} {T U : ATS} {e : AX} {a : ASt} {A : AH} {D : AEnds} : aIf t T U e D a A = (t e a A fun b A1 => if b = true then T e D a A1 else U e D a A1) := id rfl
theorem x_asg {T : ATE} {G : ATG} {e : AX} {a : ASt} {A : AH} {D : AEnds} : aAsg T G e D a A = (T e a A fun x A1 => G e x a A1 D.nx) := id rfl
theorem x_for {Ti : ATI} {G : ATG} {T : ATS} {e : AX} {a : ASt} {A : AH} {D : AEnds} : aFor Ti G T e D a A = (Ti e a A fun it A1 => aLoop it.ok G T e D it.xs a A1) := id rfl
theorem x_raise {C : Addr} {e : AX} {a : ASt} {A : AH} {D : AEnds} : aRaise C e D a A = (e (.ref C) a A) := id rfl
theorem x_gname {i : Nat} {v : AV} {k : ASt → AH → Prop} {e : AX} {a : ASt} {A : AH} : aGName i e v a A k = (k (a.set i (some v)) A) := id rfl
theorem x_gnil {vs : List AV} {k : ASt → AH → Prop} {e : AX} {a : ASt} {A : AH} : aGNil e vs a A k = ((vs = [] ∧ k a A)) := id rfl
theorem x_gcons {G : ATG} {U : ATGs} {v : AV} {r : List AV} {k : ASt → AH → Prop} {e : AX} {a : ASt} {A : AH} : aGCons G U e (v :: r) a A k = (G e v a A fun a' A' => U e r a' A' k) := id rfl
theorem x_gtup {n : Nat} {U : ATGs} {xs : List AV} {k : ASt → AH → Prop} {e : AX} {a : ASt} {A : AH} : aGTup n U e (.tup xs) a A k = ((xs.length = n ∧ U e xs a A k)) := id rfl
theorem x_gsub {To Ti : ATE} {R : AR3} {v : AV} {k : ASt → AH → Prop} {e : AX} {a : ASt} {A : AH} : aGSub To Ti R e v a A k = (To e a A fun o A1 => Ti e a A1 fun i A2 => R o i v A2 fun A3 => k a A3) := id rfl
theorem x_c {v : AV} {e : AX} {a : ASt} {A : AH} {k : AK} : aC v e a A k = (k v A) := id rfl
theorem x_op {R : AR2} {Ta Tb : ATE} {e : AX} {a : ASt} {A : AH} {k : AK} : aOp R Ta Tb e a A k = (Ta e a A fun x A1 => Tb e a A1 fun y A2 => R x y A2 k) := id rfl
theorem x_un {R : AR1} {Ta : ATE} {e : AX} {a : ASt} {A : AH} {k : AK} : aUn R Ta e a A k = (Ta e a A fun x A1 => R x A1 k) := id rfl
theorem x_chain {R R' : AR2} {Ta Tb Tc : ATE} {e : AX} {a : ASt} {A : AH} {k : AK} : aChain R R' Ta Tb Tc e a A k = (Ta e a A fun x A1 => Tb e a A1 fun y A2 => R x y A2 fun z A3 => onBl (fun b => if b = true then Tc e a A3 fun w A4 => R' y w A4 k else k (.bl false) A3) z) := id rfl
theorem x_cb {R : ARn} {T : ATA} {e : AX} {a : ASt} {A : AH} {k : AK} : aCB R T e a A k = (T e a A fun xs A1 => R xs A1 k) := id rfl
theorem x_call {sp : ASp} {T : ATA} {e : AX} {a : ASt} {A : AH} {k : AK} : aCall sp T e a A k = (T e a A fun xs A1 => sp xs A1 k fun cls A2 => e cls a A2) := id rfl
theorem x_bm {t : String} {R : AV → ARn} {To : ATE} {T : ATA} {e : AX} {a : ASt} {A : AH} {k : AK} : aBM t R To T e a A k = (To e a A fun x A1 => isTA t x A1 ∧ T e a A1 fun xs A2 => R x xs A2 k) := id rfl
theorem x_tup {T : ATA} {e : AX} {a : ASt} {A : AH} {k : AK} : aTup T e a A k = (T e a A fun xs A1 => xs.length ≤ sizeLine ∧ k (.tup xs) A1) := id rfl
theorem x_lst {T : ATA} {e : AX} {a : ASt} {A : AH} {k : AK} : aLst T e a A k = (T e a A fun xs A1 => xs.length ≤ sizeLine ∧ ∀ p, A1 p = none → k (.ref p) (put A1 p (.lst xs))) := id rfl
theorem x_andV {Ta Tb : ATE} {e : AX} {a : ASt} {A : AH} {k : AK} : aAndV Ta Tb e a A k = (Ta e a A fun x A1 => onBl (fun b => if b = true then Tb e a A1 k else k (.bl false) A1) x) := id rfl
theorem x_orV {Ta Tb : ATE} {e : AX} {a : ASt} {A : AH} {k : AK} : aOrV Ta Tb e a A k = (Ta e a A fun x A1 => onBl (fun b => if b = true then k (.bl true) A1 else Tb e a A1 k) x) := id rfl
theorem x_notV {Ta : ATE} {e : AX} {a : ASt} {A : AH} {k : AK} : aNotV Ta e a A k = (Ta e a A fun x A1 => onBl (fun b => k (.bl (!b)) A1) x) := id rfl
theorem x_ifE {t : ATT} {Ta Tb : ATE} {e : AX} {a : ASt} {A : AH} {k : AK} : aIfE t Ta Tb e a A k = (t e a A fun b A1 => if b = true then Ta e a A1 k else Tb e a A1 k) := id rfl
theorem x_sl {T : ATE} {Tl Th : ATO} {e : AX} {a : ASt} {A : AH} {k : AK} : aSl T Tl Th e a A k = (T e a A fun x A1 => Tl e a A1 fun l A2 => Th e a A2 fun h A3 => rSlA x l h A3 k) := id rfl
theorem x_lc {Ti : ATI} {G : ATG} {tt : ATT} {Te : ATE} {vs : List Nat} {e : AX} {a : ASt} {A : AH} {k : AK} : aLc Ti G tt Te vs e a A k = (Ti e a A fun it A1 => ∀ D, A1 D = none → aLcGo it.ok G tt Te (wipeA a vs) D k it.xs (put A1 D (.lst []))) := id rfl
theorem x_dictK  {e : AX} {a : ASt} {A : AH} {k : AK} : aDictK e a A k = (∀ p, A p = none → k (.ref p) (put A p (.dK []))) := id rfl
theorem x_dictT  {e : AX} {a : ASt} {A : AH} {k : AK} : aDictT e a A k = (∀ p, A p = none → k (.ref p) (put A p (.dT []))) := id rfl
theorem x_rev {T : ATE} {e : AX} {a : ASt} {A : AH} {k : AK} : aRev T e a A k = (T e a A fun x A1 => match asL A1 x with | some xs => ∀ p, A1 p = none → k (.ref p) (put A1 p (.lst xs.reverse)) | none => False) := id rfl
theorem x_b {T : ATE} {k : Bool → AH → Prop} {e : AX} {a : ASt} {A : AH} : aB T e a A k = (T e a A fun x A1 => onBl (fun b => k b A1) x) := id rfl
theorem x_and {t u : ATT} {k : Bool → AH → Prop} {e : AX} {a : ASt} {A : AH} : aAnd t u e a A k = (t e a A fun b A1 => if b = true then u e a A1 k else k false A1) := id rfl
theorem x_or {t u : ATT} {k : Bool → AH → Prop} {e : AX} {a : ASt} {A : AH} : aOr t u e a A k = (t e a A fun b A1 => if b = true then k true A1 else u e a A1 k) := id rfl
theorem x_not {t : ATT} {k : Bool → AH → Prop} {e : AX} {a : ASt} {A : AH} : aNot t e a A k = (t e a A fun b A1 => k (!b) A1) := id rfl
theorem x_yes {k : Bool → AH → Prop} {e : AX} {a : ASt} {A : AH} : aYes e a A k = (k true A) := id rfl
theorem x_nil {k : List AV → AH → Prop} {e : AX} {a : ASt} {A : AH} : aNil e a A k = (k [] A) := id rfl
theorem x_cons {T : ATE} {Tr : ATA} {k : List AV → AH → Prop} {e : AX} {a : ASt} {A : AH} : aCons T Tr e a A k = (T e a A fun x A1 => Tr e a A1 fun xs A2 => k (x :: xs) A2) := id rfl
theorem x_part {T : ATE} {k : Option Int → AH → Prop} {e : AX} {a : ASt} {A : AH} : aPart T e a A k = (T e a A fun x A1 => onInt (fun i => k (some i) A1) x) := id rfl
theorem x_noPart {k : Option Int → AH → Prop} {e : AX} {a : ASt} {A : AH} : aNoPart e a A k = (k none A) := id rfl
theorem x_iter {T : ATE} {k : AIt → AH → Prop} {e : AX} {a : ASt} {A : AH} : aIter T e a A k = (T e a A fun x A1 => onO (seqIt A1 x) fun it => k it A1) := by
  unfold aIter
  congr 1
  funext xs A1
  cases seqIt A1 xs <;> rfl
theorem x_rng1 {T : ATA} {k : AIt → AH → Prop} {e : AX} {a : ASt} {A : AH} : aRng1 T e a A k = (T e a A fun xs A1 => on1 (onInt fun j => -(2 ^ 62) ≤ j ∧ j < 2 ^ 62 ∧ k ⟨rngA 0 j.toNat, fun _ => True⟩ A1) xs) := id rfl
theorem x_rng2 {T : ATA} {k : AIt → AH → Prop} {e : AX} {a : ASt} {A : AH} : aRng2 T e a A k = (T e a A fun xs A1 => on2 (fun x y => onInt (fun i => onInt (fun j => (-(2 ^ 62) ≤ i ∧ i < 2 ^ 62 ∧ -(2 ^ 62) ≤ j ∧ j < 2 ^ 62) ∧ k ⟨rngA i (j - i).toNat, fun _ => True⟩ A1) y) x) xs) := id rfl
theorem x_enum {T : ATA} {k : AIt → AH → Prop} {e : AX} {a : ASt} {A : AH} : aEnum T e a A k = (T e a A fun xs A1 => on1 (fun x => onO (seqIt A1 x) fun it => k ⟨enumA 0 it.xs, it.ok⟩ A1) xs) := by
  unfold aEnum
  congr 1
  funext xs A1
  congr 1
  funext x
  cases seqIt A1 x <;> rfl
end Aw

set_option Elab.async false
set_option linter.all false
set_option maxRecDepth 100000
set_option maxHeartbeats 400000
/-! A16: dicts. -/
namespace Aw
open PySem PySem.Spec PyProof.Rows L2
section
variable {κ : Type} [DecidableEq κ] {kvs : List (κ × AV)} {k j : κ} {v : AV}
theorem valA_nil : valA ([] : List (κ × AV)) k = none := rfl
theorem valA_cons {p : κ × AV} : valA (p :: kvs) k = if p.1 = k then some p.2 else valA kvs k := by
  unfold valA
  by_cases h : p.1 = k
  · simp [List.find?, h]
  · simp [List.find?, h]
theorem valA_app {l : List (κ × AV)} : valA (kvs ++ l) k = (valA kvs k).or (valA l k) := by
  induction kvs with
  | nil => rfl
  | cons p r ih =>
    rw [List.cons_append, valA_cons, valA_cons, ih]
    split <;> rfl
theorem any_iff : (kvs.any fun kv => decide (kv.1 = k)) = (valA kvs k).isSome := by
  induction kvs with
  | nil => rfl
  | cons p r ih =>
    rw [List.any_cons, valA_cons, ih]
    by_cases h : p.1 = k <;> simp [h]
theorem valA_map {f : AV → AV} : valA (kvs.map fun kv => if kv.1 = j then (kv.1, v) else kv) k = if k = j then (valA kvs k).map (fun _ => v) else valA kvs k := by
  induction kvs with
  | nil => simp [valA_nil]
  | cons p r ih =>
    rw [List.map_cons, valA_cons, valA_cons, ih]
    by_cases h : p.1 = j
    · by_cases h2 : k = j
      · subst h2; simp [h]
      · have : ¬ j = k := fun z => h2 z.symm
        simp [h, h2, this]
    · by_cases h2 : k = j
      · subst h2; simp [h]
      · simp [h, h2]
theorem valA_putA : valA (putA kvs j v) k = if k = j then some v else valA kvs k := by
  unfold putA
  rw [any_iff]
  split
  · rename_i h
    rw [valA_map (f := id)]
    by_cases e : k = j
    · subst e
      obtain ⟨u, hu⟩ := Option.isSome_iff_exists.mp h
      simp [hu]
    · simp [e]
  · rename_i h
    rw [valA_app, valA_cons, valA_nil]
    have hn : valA kvs j = none := by
      cases z : valA kvs j with
      | none => rfl
      | some u => rw [z] at h; exact absurd rfl h
    by_cases e : k = j
    · subst e; simp [hn]
    · have : ¬ j = k := fun z => e z.symm
      simp [e, this]
theorem length_putA : (putA kvs j v).length ≤ kvs.length + 1 := by
  unfold putA
  split
  · rw [List.length_map]; omega
  · rw [List.length_append]; simp
end
theorem of_eqR {f : Bool → Bool} {i j : Addr} {A : AH} {k : AK} (h : rDeepA f (.ref i) (.ref j) A k) : rEqN f (.ref i) (.ref j) A k := h
theorem of_eqT {f : Bool → Bool} {i j : List AV} {A : AH} {k : AK} (h : rDeepA f (.tup i) (.tup j) A k) : rEqN f (.tup i) (.tup j) A k := h
theorem take_succ_map {α β : Type} {f : α → β} {xs : List α} {i : Nat} {x : α} (h : xs[i]? = some x) : (xs.take (i + 1)).map f = (xs.take i).map f ++ [f x] := by
  rw [List.take_add_one, h, List.map_append]
  rfl
/-- a comprehension that reads alone -/
theorem lc_map {ok : AH → Prop} {G : ATG} {tt : ATT} {Te : ATE} {a0 : ASt} {D : Addr} {k : AK} {xs : List AV} {A : AH} (f : AV → AV) (hl : xs.length ≤ sizeLine) (hok : ∀ o, ok (put A D o))
    (hs : ∀ x ∈ xs, ∀ (o : AO) (Y : AV → AH → Prop) (N : AH → Prop), Y (f x) (put A D o) → G noX x a0 (put A D o) fun a2 A2 => tt noX a2 A2 fun b A3 => if b = true then Te noX a2 A3 Y else N A3)
    (hd : k (.ref D) (put A D (.lst (xs.map f)))) : aLcGo ok G tt Te a0 D k xs (put A D (.lst [])) := by
  refine lc_inv (fun i acc A' => acc = (xs.take i).map f ∧ ∃ o, A' = put A D o) hl put_same ⟨rfl, _, rfl⟩ (fun i acc A' _ _ h => ?_) (fun i x acc A' Y N hx hD h hY hN => ?_) (fun acc A' hD h => ?_)
  · obtain ⟨_, o, rfl⟩ := h
    exact hok o
  · obtain ⟨h1, o, rfl⟩ := h
    refine hs x (List.mem_of_getElem? hx) o Y N (hY _ _ hD ⟨by rw [take_succ_map hx, h1], _, put_put⟩)
  · obtain ⟨h1, o, rfl⟩ := h
    rw [List.take_length] at h1
    rw [put_same] at hD
    cases hD
    subst h1
    exact hd
theorem e_tupleR {p : Addr} {xs : List AV} {A : AH} {k : AK} (h : A p = some (.lst xs)) : rTupleA [.ref p] A k = k (.tup xs) A := by
  unfold rTupleA on1
  simp only [asL_ref h]
theorem e_tupleT {xs : List AV} {A : AH} {k : AK} : rTupleA [.tup xs] A k = k (.tup xs) A := id rfl
theorem wipe_l {a : ASt} {i : Nat} {vs : List Nat} : wipeA a (i :: vs) = (wipeA a vs).set i none := rfl
theorem wipe_n {a : ASt} : wipeA a [] = a := rfl
theorem cut_hi {xs : List AV} {n : Nat} (h : n ≤ xs.length) : cutA xs none (some (n : Int)) = xs.take n := by
  unfold cutA
  have e1 : HT.sIx xs.length 0 none = 0 := rfl
  have e2 : HT.sIx xs.length xs.length (some (n : Int)) = n := by
    rw [HT.sIx_nat]
    omega
  rw [e1, e2]
  simp
theorem cut_lo {xs : List AV} {n : Nat} (h : n ≤ xs.length) : cutA xs (some (n : Int)) none = xs.drop n := by
  unfold cutA
  have e2 : HT.sIx xs.length 0 (some (n : Int)) = n := by
    rw [HT.sIx_nat]
    omega
  have e1 : HT.sIx xs.length xs.length none = xs.length := rfl
  rw [e1, e2, List.take_of_length_le (by rw [List.length_drop]; omega)]
theorem length_putA_old {κ : Type} [DecidableEq κ] {kvs : List (κ × AV)} {j : κ} {v : AV} (h : (valA kvs j).isSome = true) : (putA kvs j v).length = kvs.length := by
  unfold putA
  rw [any_iff, if_pos h, List.length_map]
theorem e_dictR {p : Addr} {xs : List AV} {kvs : List (Key × AV)} {A : AH} {k : AK} (h : A p = some (.lst xs)) (h2 : pairsA xs = some kvs) : rDictA [.ref p] A k = ∀ q, A q = none → k (.ref q) (put A q (.dK (mergeA [] kvs))) := by
  unfold rDictA on1
  simp only [asL_ref h, h2]
theorem merge_val {more kvs : List (Key × AV)} {z : Key} (h : z ∈ more.map (·.1) ∨ (valA kvs z).isSome = true) (P : AV → Prop) (hm : ∀ kv ∈ more, P kv.2) (hk : ∀ v, valA kvs z = some v → P v) : ∃ v, valA (mergeA kvs more) z = some v ∧ P v := by
  induction more generalizing kvs with
  | nil =>
    rcases h with h | h
    · cases h
    · obtain ⟨v, hv⟩ := Option.isSome_iff_exists.mp h
      exact ⟨v, hv, hk v hv⟩
  | cons m r ih =>
    refine ih (kvs := putA kvs m.1 m.2) ?_ (fun kv hkv => hm kv (List.mem_cons_of_mem _ hkv)) fun v hv => ?_
    · rw [valA_putA]
      by_cases e : z = m.1
      · right; simp [e]
      · simp only [e, if_false]
        rcases h with h | h
        · rcases List.mem_cons.mp h with h | h
          · exact (e h).elim
          · exact .inl h
        · exact .inr h
    · rw [valA_putA] at hv
      by_cases e : z = m.1
      · simp only [e, if_true] at hv; cases hv; exact hm m (by simp)
      · simp only [e, if_false] at hv; exact hk v hv
theorem merge_len {more kvs : List (Key × AV)} : (mergeA kvs more).length ≤ kvs.length + more.length := by
  induction more generalizing kvs with
  | nil => exact Nat.le_refl _
  | cons m r ih =>
    have h1 := ih (kvs := putA kvs m.1 m.2)
    have h2 := length_putA (kvs := kvs) (j := m.1) (v := m.2)
    show (mergeA (putA kvs m.1 m.2) r).length ≤ _
    rw [List.length_cons]; omega
end Aw

set_option Elab.async false
set_option linter.all false
set_option maxRecDepth 100000
set_option maxHeartbeats 1000000
namespace K34
open PySem PySem.Spec PyProof.Rows L2 Aw
def top (i : Nat) : Stmt := PySem.Challenge.pw_shutways_k34_rank_papers_looked_at.main.body.getD i (.Pass ⟨0, 0, 0, 0⟩)
abbrev s_is_whole : Stmt := top 1
abbrev s_is_row : Stmt := top 2
abbrev s_ranks_in : Stmt := top 3
abbrev s_is_ranked : Stmt := top 4
abbrev s_is_within : Stmt := top 13
abbrev s_need_bridges : Stmt := top 14
abbrev s_tie_of : Stmt := top 15
abbrev s_make_net : Stmt := top 16
abbrev s__law_row : Stmt := top 19
abbrev s__law_take : Stmt := top 20
abbrev s__law_net : Stmt := top 21
abbrev s__law_made_ways : Stmt := top 22
abbrev s__law_fitted : Stmt := top 23
abbrev s__law_spoilt : Stmt := top 24
abbrev s__law_whole : Stmt := top 25
abbrev s__law_due : Stmt := top 26
abbrev s_law : Stmt := top 27
/-- the addresses of the classes -/
structure Cl where
  NoNet : Addr
abbrev N_is_whole : List Str := ["thing"]
def r_is_whole (c : Cl) : ATS :=
  (aRet (aAndV (aCB rIsiA (aCons (aVar 0) (aCons (aC (.raw (.ty "int"))) aNil))) (aNotV (aCB rIsiA (aCons (aVar 0) (aCons (aC (.raw (.ty "bool"))) aNil))))))
def p_is_whole (c : Cl) : ASp := fun xs A k e => xs.length = 1 ∧ r_is_whole c (fun cls _ A' => e cls A') { nx := fun _ A' => k .non A', rt := k } (startA N_is_whole xs) A
abbrev N_is_within : List Str := ["thing", "least", "most"]
def r_is_within (c : Cl) : ATS :=
  (aRet (aAndV (aCB rIsiA (aCons (aVar 0) (aCons (aC (.raw (.ty "int"))) aNil))) (aAndV (aNotV (aCB rIsiA (aCons (aVar 0) (aCons (aC (.raw (.ty "bool"))) aNil)))) (aChain rLeI rLeI (aVar 1) (aVar 0) (aVar 2)))))
def p_is_within (c : Cl) : ASp := fun xs A k e => xs.length = 3 ∧ r_is_within c (fun cls _ A' => e cls A') { nx := fun _ A' => k .non A', rt := k } (startA N_is_within xs) A
abbrev N__law_row : List Str := ["cell"]
def r__law_row (c : Cl) : ATS :=
  (aRet (aLst (aCons (aVar 0) (aCons (aOp rModA (aVar 0) (aC (.int 2147483587))) aNil))))
def p__law_row (c : Cl) : ASp := fun xs A k e => xs.length = 1 ∧ r__law_row c (fun cls _ A' => e cls A') { nx := fun _ A' => k .non A', rt := k } (startA N__law_row xs) A
abbrev N__law_take : List Str := ["row", "many", "told"]
def r__law_take (c : Cl) : ATS :=
  (aSeq (aIf (aB (aOp rGtI (aOp rIxA (aVar 0) (aC (.int 0))) (aOp rPowA (aC (.int 10)) (aC (.int 18))))) (aSeq (aAsg (aOp rModA (aOp rIxA (aVar 0) (aC (.int 0))) (aVar 1)) (aGName 2))
    (aSeq (aAsg (aOp rDivA (aOp rIxA (aVar 0) (aC (.int 0))) (aVar 1)) (aGSub (aVar 0) (aC (.int 0)) rSetA))
    (aRet (aVar 2)))) aNext)
    (aSeq (aAsg (aOp rModA (aOp rAddA (aOp rAddA (aOp rMulA (aOp rIxA (aVar 0) (aC (.int 1))) (aOp rIxA (aVar 0) (aC (.int 1)))) (aOp rMulA (aC (.int 69621)) (aOp rIxA (aVar 0) (aC (.int 1))))) (aC (.int 12345))) (aC (.int 2147483587))) (aGSub (aVar 0) (aC (.int 1)) rSetA))
    (aRet (aOp rModA (aOp rDivA (aOp rIxA (aVar 0) (aC (.int 1))) (aC (.int 8))) (aVar 1)))))
def p__law_take (c : Cl) : ASp := fun xs A k e => xs.length = 2 ∧ r__law_take c (fun cls _ A' => e cls A') { nx := fun _ A' => k .non A', rt := k } (startA N__law_take xs) A
abbrev N__law_whole : List Str := ["thing"]
def r__law_whole (c : Cl) : ATS :=
  (aRet (aAndV (aCB rIsiA (aCons (aVar 0) (aCons (aC (.raw (.ty "int"))) aNil))) (aNotV (aCB rIsiA (aCons (aVar 0) (aCons (aC (.raw (.ty "bool"))) aNil))))))
def p__law_whole (c : Cl) : ASp := fun xs A k e => xs.length = 1 ∧ r__law_whole c (fun cls _ A' => e cls A') { nx := fun _ A' => k .non A', rt := k } (startA N__law_whole xs) A
abbrev N_is_row : List Str := ["thing", "part"]
def r_is_row (c : Cl) : ATS :=
  (aRet (aAndV (aCB rIsiA (aCons (aVar 0) (aCons (aC (.raw (.ty "tuple"))) aNil))) (aAndV (aOp rEqA (aCB rLenA (aCons (aVar 0) aNil)) (aC (.int 3))) (aCB rAllA (aCons (aLc (aIter (aVar 0)) (aGName 1) aYes (aCall (p_is_whole c) (aCons (aVar 1) aNil)) [1]) aNil)))))
def p_is_row (c : Cl) : ASp := fun xs A k e => xs.length = 1 ∧ r_is_row c (fun cls _ A' => e cls A') { nx := fun _ A' => k .non A', rt := k } (startA N_is_row xs) A
abbrev N_need_bridges : List Str := ["bridges", "spot", "number"]
def r_need_bridges (c : Cl) : ATS :=
  (aSeq (aIf (aOr (aNot (aB (aCB rIsiA (aCons (aVar 0) (aCons (aC (.raw (.ty "list"))) aNil))))) (aNot (aB (aChain rLeI rLeI (aC (.int 1)) (aCB rLenA (aCons (aVar 0) aNil)) (aC (.int 10)))))) (aRaise c.NoNet) aNext)
    (aFor (aEnum (aCons (aVar 0) aNil)) (aGTup 2 (aGCons (aGName 1) (aGCons (aGName 2) aGNil)))
    (aIf (aOr (aNot (aB (aCall (p_is_within c) (aCons (aVar 2) (aCons (aC (.int 0)) (aCons (aC (.int 999)) aNil)))))) (aB (aOp (rInA id) (aVar 2) (aSl (aVar 0) aNoPart (aPart (aVar 1)))))) (aRaise c.NoNet) aNext)))
def p_need_bridges (c : Cl) : ASp := fun xs A k e => xs.length = 1 ∧ r_need_bridges c (fun cls _ A' => e cls A') { nx := fun _ A' => k .non A', rt := k } (startA N_need_bridges xs) A
abbrev N_tie_of : List Str := ["bridges", "thing", "number"]
def r_tie_of (c : Cl) : ATS :=
  (aSeq (aIf (aOr (aNot (aB (aCB rIsiA (aCons (aVar 1) (aCons (aC (.raw (.ty "tuple"))) aNil))))) (aOr (aB (aOp rNeA (aCB rLenA (aCons (aVar 1) aNil)) (aC (.int 3)))) (aNot (aB (aCall (p_is_within c) (aCons (aOp rIxA (aVar 1) (aC (.int 2))) (aCons (aC (.int 1)) (aCons (aC (.int 1000)) aNil)))))))) (aRaise c.NoNet) aNext)
    (aSeq (aFor (aIter (aSl (aVar 1) aNoPart (aPart (aC (.int 2))))) (aGName 2)
    (aIf (aOr (aNot (aB (aCall (p_is_within c) (aCons (aVar 2) (aCons (aC (.int 0)) (aCons (aC (.int 999)) aNil)))))) (aB (aOp (rInA not) (aVar 2) (aVar 0)))) (aRaise c.NoNet) aNext))
    (aSeq (aIf (aB (aOp rEqA (aOp rIxA (aVar 1) (aC (.int 0))) (aOp rIxA (aVar 1) (aC (.int 1))))) (aRaise c.NoNet) aNext)
    (aRet (aTup (aCons (aCB (rBest PySem.W.minD) (aCons (aSl (aVar 1) aNoPart (aPart (aC (.int 2)))) aNil)) (aCons (aCB (rBest PySem.W.maxD) (aCons (aSl (aVar 1) aNoPart (aPart (aC (.int 2)))) aNil)) (aCons (aOp rIxA (aVar 1) (aC (.int 2))) aNil))))))))
def p_tie_of (c : Cl) : ASp := fun xs A k e => xs.length = 2 ∧ r_tie_of c (fun cls _ A' => e cls A') { nx := fun _ A' => k .non A', rt := k } (startA N_tie_of xs) A
abbrev N__law_made_ways : List Str := ["row", "net", "ways", "many", "place", "tie", "ends", "child", "way"]
def r__law_made_ways (c : Cl) : ATS :=
  (aSeq (aAsg (aLst aNil) (aGName 2))
    (aSeq (aAsg (aCall (p__law_take c) (aCons (aVar 0) (aCons (aC (.int 4)) aNil))) (aGName 3))
    (aSeq (aFor (aEnum (aCons (aOp rIxA (aVar 1) (aC (.int 1))) aNil)) (aGTup 2 (aGCons (aGName 4) (aGCons (aGName 5) aGNil)))
    (aIf (aB (aOp rEqA (aCall (p__law_take c) (aCons (aVar 0) (aCons (aC (.int 2)) aNil))) (aC (.int 0)))) (aSeq (aAsg (aLst (aCons (aOp rIxA (aVar 5) (aC (.int 0))) (aCons (aOp rIxA (aVar 5) (aC (.int 1))) aNil))) (aGName 6))
    (aSeq (aAsg (aCall (p__law_take c) (aCons (aVar 0) (aCons (aC (.int 2)) aNil))) (aGName 7))
    (aIf (aOr (aB (aOp rEqA (aVar 3) (aC (.int 0)))) (aB (aOp (rInA not) (aOp rIxA (aVar 6) (aVar 7)) (aLc (aIter (aVar 2)) (aGName 8) aYes (aOp rIxA (aVar 8) (aC (.int 1))) [8])))) (aDrop (aBM "list" rAppendA (aVar 2) (aCons (aTup (aCons (aVar 4) (aCons (aOp rIxA (aVar 6) (aVar 7)) (aCons (aOp rIxA (aVar 6) (aOp rSubA (aC (.int 1)) (aVar 7))) aNil)))) aNil))) aNext))) aNext))
    (aRet (aVar 2)))))
def p__law_made_ways (c : Cl) : ASp := fun xs A k e => xs.length = 2 ∧ r__law_made_ways c (fun cls _ A' => e cls A') { nx := fun _ A' => k .non A', rt := k } (startA N__law_made_ways xs) A
abbrev N__law_fitted : List Str := ["row", "net", "ways", "costs", "k", "place", "child", "parent", "root", "some", "bridge"]
def r__law_fitted (c : Cl) : ATS :=
  (aSeq (aAsg (aCB rDictA (aCons (aLc (aIter (aOp rIxA (aVar 1) (aC (.int 0)))) (aGName 10) aYes (aTup (aCons (aVar 10) (aCons (aOp rSubA (aCall (p__law_take c) (aCons (aVar 0) (aCons (aC (.int 6)) aNil))) (aC (.int 2))) aNil))) [10]) aNil)) (aGName 3))
    (aSeq (aFor (aRng1 (aCons (aOp rMulA (aCall (p__law_take c) (aCons (aVar 0) (aCons (aC (.int 4)) aNil))) (aC (.int 2))) aNil)) (aGName 4)
    (aFor (aIter (aVar 2)) (aGTup 3 (aGCons (aGName 5) (aGCons (aGName 6) (aGCons (aGName 7) aGNil))))
    (aAsg (aOp rAddA (aOp rIxA (aVar 3) (aVar 7)) (aOp rIxA (aOp rIxA (aOp rIxA (aVar 1) (aC (.int 1))) (aVar 5)) (aC (.int 2)))) (aGSub (aVar 3) (aVar 6) rSetA))))
    (aSeq (aAsg (aOp rSubA (aCall (p__law_take c) (aCons (aVar 0) (aCons (aC (.int 1000)) aNil))) (aC (.int 300))) (aGName 8))
    (aSeq (aAsg (aLst aNil) (aGName 9))
    (aSeq (aFor (aIter (aOp rIxA (aVar 1) (aC (.int 0)))) (aGName 10)
    (aDrop (aBM "list" rAppendA (aVar 9) (aCons (aTup (aCons (aVar 10) (aCons (aOp rAddA (aVar 8) (aCB rIntA (aCons (aOp rEqA (aCall (p__law_take c) (aCons (aVar 0) (aCons (aC (.int 12)) aNil))) (aC (.int 0))) aNil))) (aCons (aOp rIxA (aVar 3) (aVar 10)) aNil)))) aNil))))
    (aRet (aVar 9)))))))
def p__law_fitted (c : Cl) : ASp := fun xs A k e => xs.length = 3 ∧ r__law_fitted c (fun cls _ A' => e cls A') { nx := fun _ A' => k .non A', rt := k } (startA N__law_fitted xs) A
abbrev N__law_spoilt : List Str := ["row", "net", "some", "at", "one", "bad", "way"]
def r__law_spoilt (c : Cl) : ATS :=
  (aSeq (aAsg (aCall (p__law_take c) (aCons (aVar 0) (aCons (aCB rLenA (aCons (aVar 2) aNil)) aNil))) (aGName 3))
    (aSeq (aAsg (aOp rIxA (aVar 2) (aVar 3)) (aGName 4))
    (aSeq (aAsg (aLst (aCons (aTup (aCons (aOp rIxA (aVar 4) (aC (.int 0))) (aCons (aC (.bl true)) (aCons (aOp rIxA (aVar 4) (aC (.int 2))) aNil)))) (aCons (aTup (aCons (aOp rIxA (aVar 4) (aC (.int 0))) (aCons (aC (.str "1")) (aCons (aOp rIxA (aVar 4) (aC (.int 2))) aNil)))) (aCons (aC .non) (aCons (aSl (aVar 4) aNoPart (aPart (aC (.int 2)))) (aCons (aOp rAddA (aVar 4) (aTup (aCons (aC (.int 0)) aNil))) (aCons (aCB rListA (aCons (aVar 4) aNil)) (aCons (aTup (aCons (aOp rIxA (aVar 4) (aC (.int 0))) (aCons (aOp rIxA (aVar 4) (aC (.int 1))) (aCons (aC .non) aNil)))) aNil)))))))) (aGName 5))
    (aSeq (aAsg (aOp rAddA (aVar 5) (aLst (aCons (aTup (aCons (aOp rAddA (aOp rIxA (aVar 4) (aC (.int 0))) (aC (.int 1))) (aCons (aOp rIxA (aVar 4) (aC (.int 1))) (aCons (aOp rIxA (aVar 4) (aC (.int 2))) aNil)))) (aCons (aTup (aCons (aUn rNegA (aC (.int 1))) (aCons (aC (.int 0)) (aCons (aC (.int 0)) aNil)))) (aCons (aTup (aCons (aC (.bl true)) (aCons (aOp rIxA (aVar 4) (aC (.int 1))) (aCons (aOp rIxA (aVar 4) (aC (.int 2))) aNil)))) aNil))))) (aGName 5))
    (aSeq (aAsg (aCall (p__law_take c) (aCons (aVar 0) (aCons (aC (.int 6)) aNil))) (aGName 6))
    (aSeq (aIf (aB (aOp rEqA (aVar 6) (aC (.int 0)))) (aRet (aOp rAddA (aSl (aVar 2) aNoPart (aPart (aVar 3))) (aSl (aVar 2) (aPart (aOp rAddA (aVar 3) (aC (.int 1)))) aNoPart))) aNext)
    (aSeq (aIf (aB (aOp rEqA (aVar 6) (aC (.int 1)))) (aRet (aOp rAddA (aOp rAddA (aSl (aVar 2) aNoPart (aPart (aVar 3))) (aLst (aCons (aOp rIxA (aVar 5) (aCall (p__law_take c) (aCons (aVar 0) (aCons (aC (.int 10)) aNil)))) aNil))) (aSl (aVar 2) (aPart (aOp rAddA (aVar 3) (aC (.int 1)))) aNoPart))) aNext)
    (aSeq (aIf (aB (aOp rEqA (aVar 6) (aC (.int 2)))) (aRet (aOp rAddA (aOp rAddA (aSl (aVar 2) aNoPart (aPart (aVar 3))) (aLst (aCons (aVar 4) aNil))) (aSl (aVar 2) (aPart (aVar 3)) aNoPart))) aNext)
    (aSeq (aIf (aB (aOp rEqA (aVar 6) (aC (.int 3)))) (aRet (aRev (aVar 2))) aNext)
    (aRet (aVar 2)))))))))))
def p__law_spoilt (c : Cl) : ASp := fun xs A k e => xs.length = 3 ∧ r__law_spoilt c (fun cls _ A' => e cls A') { nx := fun _ A' => k .non A', rt := k } (startA N__law_spoilt xs) A
abbrev N__law_due : List Str := ["net", "ways", "some", "ranks", "ahead", "row", "place", "child", "parent", "part", "way"]
def r__law_due (c : Cl) : ATS :=
  (aSeq (aAsg aDictK (aGName 3))
    (aSeq (aAsg (aLst aNil) (aGName 4))
    (aSeq (aFor (aIter (aVar 2)) (aGName 5)
    (aSeq (aIf (aOr (aNot (aB (aCB rIsiA (aCons (aVar 5) (aCons (aC (.raw (.ty "tuple"))) aNil))))) (aOr (aB (aOp rNeA (aCB rLenA (aCons (aVar 5) aNil)) (aC (.int 3)))) (aB (aOp rNeA (aLc (aIter (aVar 5)) (aGName 9) (aNot (aB (aCall (p__law_whole c) (aCons (aVar 9) aNil)))) (aVar 9) [9]) (aLst aNil))))) (aRet (aC (.bl false))) aNext)
    (aSeq (aIf (aOr (aB (aOp (rInA not) (aOp rIxA (aVar 5) (aC (.int 0))) (aOp rIxA (aVar 0) (aC (.int 0))))) (aAnd (aB (aOp rNeA (aVar 4) (aLst aNil))) (aB (aOp rGeI (aOp rIxA (aVar 4) (aUn rNegA (aC (.int 1)))) (aOp rIxA (aVar 5) (aC (.int 0))))))) (aRet (aC (.bl false))) aNext)
    (aSeq (aDrop (aBM "list" rAppendA (aVar 4) (aCons (aOp rIxA (aVar 5) (aC (.int 0))) aNil)))
    (aAsg (aSl (aVar 5) (aPart (aC (.int 1))) aNoPart) (aGSub (aVar 3) (aOp rIxA (aVar 5) (aC (.int 0))) rSetA))))))
    (aSeq (aIf (aB (aOp rLtA (aLenSet (aLc (aIter (aVar 1)) (aGName 10) aYes (aOp rIxA (aVar 10) (aC (.int 1))) [10])) (aCB rLenA (aCons (aVar 1) aNil)))) (aRet (aC (.bl false))) aNext)
    (aSeq (aFor (aIter (aVar 1)) (aGTup 3 (aGCons (aGName 6) (aGCons (aGName 7) (aGCons (aGName 8) aGNil))))
    (aSeq (aIf (aOr (aB (aOp (rInA not) (aVar 7) (aVar 3))) (aOr (aB (aOp (rInA not) (aVar 8) (aVar 3))) (aB (aOp rNeA (aOp rIxA (aOp rIxA (aVar 3) (aVar 7)) (aC (.int 0))) (aOp rIxA (aOp rIxA (aVar 3) (aVar 8)) (aC (.int 0))))))) (aRet (aC (.bl false))) aNext)
    (aIf (aB (aOp rNeA (aOp rSubA (aOp rIxA (aOp rIxA (aVar 3) (aVar 7)) (aC (.int 1))) (aOp rIxA (aOp rIxA (aVar 3) (aVar 8)) (aC (.int 1)))) (aOp rIxA (aOp rIxA (aOp rIxA (aVar 0) (aC (.int 1))) (aVar 6)) (aC (.int 2))))) (aRet (aC (.bl false))) aNext)))
    (aRet (aC (.bl true))))))))
def p__law_due (c : Cl) : ASp := fun xs A k e => xs.length = 3 ∧ r__law_due c (fun cls _ A' => e cls A') { nx := fun _ A' => k .non A', rt := k } (startA N__law_due xs) A
abbrev N_ranks_in : List Str := ["net", "some", "ranks", "last", "row"]
def r_ranks_in (c : Cl) : ATS :=
  (aSeq (aAsg aDictK (aGName 2))
    (aSeq (aAsg (aUn rNegA (aC (.int 1))) (aGName 3))
    (aSeq (aFor (aIter (aVar 1)) (aGName 4)
    (aSeq (aIf (aOr (aNot (aB (aCall (p_is_row c) (aCons (aVar 4) aNil)))) (aOr (aB (aOp (rInA not) (aOp rIxA (aVar 4) (aC (.int 0))) (aOp rIxA (aVar 0) (aC (.int 0))))) (aB (aOp rLeI (aOp rIxA (aVar 4) (aC (.int 0))) (aVar 3))))) (aRet (aC .non)) aNext)
    (aSeq (aAsg (aOp rIxA (aVar 4) (aC (.int 0))) (aGName 3))
    (aAsg (aTup (aCons (aOp rIxA (aVar 4) (aC (.int 1))) (aCons (aOp rIxA (aVar 4) (aC (.int 2))) aNil))) (aGSub (aVar 2) (aVar 3) rSetA)))))
    (aRet (aVar 2)))))
def p_ranks_in (c : Cl) : ASp := fun xs A k e => xs.length = 2 ∧ r_ranks_in c (fun cls _ A' => e cls A') { nx := fun _ A' => k .non A', rt := k } (startA N_ranks_in xs) A
abbrev N_make_net : List Str := ["bridges", "ties", "thing"]
def r_make_net (c : Cl) : ATS :=
  (aSeq (aDrop (aCall (p_need_bridges c) (aCons (aVar 0) aNil)))
    (aSeq (aIf (aOr (aNot (aB (aCB rIsiA (aCons (aVar 1) (aCons (aC (.raw (.ty "list"))) aNil))))) (aB (aOp rGtI (aCB rLenA (aCons (aVar 1) aNil)) (aC (.int 16))))) (aRaise c.NoNet) aNext)
    (aRet (aTup (aCons (aCB rTupleA (aCons (aCB rSortA (aCons (aVar 0) aNil)) aNil)) (aCons (aCB rTupleA (aCons (aLc (aIter (aVar 1)) (aGName 2) aYes (aCall (p_tie_of c) (aCons (aVar 0) (aCons (aVar 2) aNil))) [2]) aNil)) aNil))))))
def p_make_net (c : Cl) : ASp := fun xs A k e => xs.length = 2 ∧ r_make_net c (fun cls _ A' => e cls A') { nx := fun _ A' => k .non A', rt := k } (startA N_make_net xs) A
abbrev N_is_ranked : List Str := ["net", "ways", "some", "ranks", "children", "place", "child", "parent", "root", "cost"]
def r_is_ranked (c : Cl) : ATS :=
  (aSeq (aAsg (aCall (p_ranks_in c) (aCons (aVar 0) (aCons (aVar 2) aNil))) (aGName 3))
    (aSeq (aIf (aB (aOp (rIsA id) (aVar 3) (aC .non))) (aRet (aC (.bl false))) aNext)
    (aSeq (aAsg aDictK (aGName 4))
    (aSeq (aFor (aIter (aVar 1)) (aGTup 3 (aGCons (aGName 5) (aGCons (aGName 6) (aGCons (aGName 7) aGNil))))
    (aSeq (aIf (aOr (aB (aOp (rInA not) (aVar 6) (aVar 3))) (aOr (aB (aOp (rInA not) (aVar 7) (aVar 3))) (aB (aOp (rInA id) (aVar 6) (aVar 4))))) (aRet (aC (.bl false))) aNext)
    (aSeq (aAsg (aC (.bl true)) (aGSub (aVar 4) (aVar 6) rSetA))
    (aSeq (aAsg (aOp rIxA (aVar 3) (aVar 7)) (aGTup 2 (aGCons (aGName 8) (aGCons (aGName 9) aGNil))))
    (aIf (aB (aOp rNeA (aOp rIxA (aVar 3) (aVar 6)) (aTup (aCons (aVar 8) (aCons (aOp rAddA (aVar 9) (aOp rIxA (aOp rIxA (aOp rIxA (aVar 0) (aC (.int 1))) (aVar 5)) (aC (.int 2)))) aNil))))) (aRet (aC (.bl false))) aNext)))))
    (aRet (aC (.bl true)))))))
def p_is_ranked (c : Cl) : ASp := fun xs A k e => xs.length = 3 ∧ r_is_ranked c (fun cls _ A' => e cls A') { nx := fun _ A' => k .non A', rt := k } (startA N_is_ranked xs) A
abbrev N__law_net : List Str := ["row", "many", "step", "bridges", "ties", "k", "one", "other", "cost"]
def r__law_net (c : Cl) : ATS :=
  (aSeq (aAsg (aOp rAddA (aC (.int 1)) (aCall (p__law_take c) (aCons (aVar 0) (aCons (aC (.int 6)) aNil)))) (aGName 1))
    (aSeq (aAsg (aOp rIxA (aLst (aCons (aC (.int 1)) (aCons (aC (.int 3)) (aCons (aC (.int 10)) (aCons (aC (.int 100)) aNil))))) (aCall (p__law_take c) (aCons (aVar 0) (aCons (aC (.int 4)) aNil)))) (aGName 2))
    (aSeq (aAsg (aLc (aRng1 (aCons (aVar 1) aNil)) (aGName 5) aYes (aOp rAddA (aOp rMulA (aVar 2) (aOp rAddA (aVar 5) (aCall (p__law_take c) (aCons (aVar 0) (aCons (aC (.int 2)) aNil))))) (aOp rIxA (aLst (aCons (aC (.int 0)) (aCons (aC (.int 7)) aNil))) (aOp rDivA (aVar 2) (aC (.int 100))))) [5]) (aGName 3))
    (aSeq (aAsg (aSortedSet (aVar 3)) (aGName 3))
    (aSeq (aAsg (aLst aNil) (aGName 4))
    (aSeq (aFor (aRng1 (aCons (aCall (p__law_take c) (aCons (aVar 0) (aCons (aC (.int 10)) aNil))) aNil)) (aGName 5)
    (aSeq (aAsg (aOp rIxA (aVar 3) (aCall (p__law_take c) (aCons (aVar 0) (aCons (aCB rLenA (aCons (aVar 3) aNil)) aNil)))) (aGName 6))
    (aSeq (aAsg (aOp rIxA (aVar 3) (aCall (p__law_take c) (aCons (aVar 0) (aCons (aCB rLenA (aCons (aVar 3) aNil)) aNil)))) (aGName 7))
    (aSeq (aAsg (aOp rIxA (aLst (aCons (aC (.int 1)) (aCons (aC (.int 1)) (aCons (aC (.int 2)) (aCons (aOp rAddA (aC (.int 1)) (aCall (p__law_take c) (aCons (aVar 0) (aCons (aC (.int 4)) aNil)))) (aCons (aOp rAddA (aC (.int 1)) (aCall (p__law_take c) (aCons (aVar 0) (aCons (aC (.int 1000)) aNil)))) aNil)))))) (aCall (p__law_take c) (aCons (aVar 0) (aCons (aC (.int 5)) aNil)))) (aGName 8))
    (aIf (aB (aOp rNeA (aVar 6) (aVar 7))) (aDrop (aBM "list" rAppendA (aVar 4) (aCons (aTup (aCons (aVar 6) (aCons (aVar 7) (aCons (aVar 8) aNil)))) aNil))) aNext)))))
    (aSeq (aFor (aRng2 (aCons (aC (.int 1)) (aCons (aCB rLenA (aCons (aVar 3) aNil)) aNil))) (aGName 5)
    (aIf (aB (aOp rGtI (aCall (p__law_take c) (aCons (aVar 0) (aCons (aC (.int 4)) aNil))) (aC (.int 0)))) (aDrop (aBM "list" rAppendA (aVar 4) (aCons (aTup (aCons (aOp rIxA (aVar 3) (aCall (p__law_take c) (aCons (aVar 0) (aCons (aVar 5) aNil)))) (aCons (aOp rIxA (aVar 3) (aVar 5)) (aCons (aOp rAddA (aC (.int 1)) (aCall (p__law_take c) (aCons (aVar 0) (aCons (aC (.int 3)) aNil)))) aNil)))) aNil))) aNext))
    (aRet (aCall (p_make_net c) (aCons (aVar 3) (aCons (aVar 4) aNil)))))))))))
def p__law_net (c : Cl) : ASp := fun xs A k e => xs.length = 1 ∧ r__law_net c (fun cls _ A' => e cls A') { nx := fun _ A' => k .non A', rt := k } (startA N__law_net xs) A
abbrev N_law : List Str := ["script", "cell", "row", "net", "ways", "some", "handed", "told"]
def r_law (c : Cl) : ATS :=
  (aSeq (aFor (aIter (aOp rAddA (aSl (aVar 0) aNoPart (aPart (aC (.int 30)))) (aLst (aCons (aC (.int 0)) aNil)))) (aGName 1)
    (aSeq (aAsg (aCall (p__law_row c) (aCons (aVar 1) aNil)) (aGName 2))
    (aSeq (aAsg (aCall (p__law_net c) (aCons (aVar 2) aNil)) (aGName 3))
    (aSeq (aAsg (aCall (p__law_made_ways c) (aCons (aVar 2) (aCons (aVar 3) aNil))) (aGName 4))
    (aSeq (aAsg (aCall (p__law_spoilt c) (aCons (aVar 2) (aCons (aVar 3) (aCons (aCall (p__law_fitted c) (aCons (aVar 2) (aCons (aVar 3) (aCons (aVar 4) aNil)))) aNil)))) (aGName 5))
    (aSeq (aAsg (aTup (aCons (aCB rListA (aCons (aVar 4) aNil)) (aCons (aCB rListA (aCons (aVar 5) aNil)) aNil))) (aGName 6))
    (aSeq (aAsg (aCall (p_is_ranked c) (aCons (aVar 3) (aCons (aOp rIxA (aVar 6) (aC (.int 0))) (aCons (aOp rIxA (aVar 6) (aC (.int 1))) aNil)))) (aGName 7))
    (aIf (aOr (aNot (aB (aCB rIsiA (aCons (aVar 7) (aCons (aC (.raw (.ty "bool"))) aNil))))) (aOr (aB (aOp rNeA (aVar 7) (aCall (p__law_due c) (aCons (aVar 3) (aCons (aVar 4) (aCons (aVar 5) aNil)))))) (aB (aOp rNeA (aVar 6) (aTup (aCons (aVar 4) (aCons (aVar 5) aNil))))))) (aRet (aC (.bl false))) aNext))))))))
    (aRet (aC (.bl true))))
def p_law (c : Cl) : ASp := fun xs A k e => xs.length = 1 ∧ r_law c (fun cls _ A' => e cls A') { nx := fun _ A' => k .non A', rt := k } (startA N_law xs) A
structure Ad where
  c : Cl
  f_is_whole : Addr
  d_is_whole : FuncData
  f_is_row : Addr
  d_is_row : FuncData
  f_ranks_in : Addr
  d_ranks_in : FuncData
  f_is_ranked : Addr
  d_is_ranked : FuncData
  f_is_within : Addr
  d_is_within : FuncData
  f_need_bridges : Addr
  d_need_bridges : FuncData
  f_tie_of : Addr
  d_tie_of : FuncData
  f_make_net : Addr
  d_make_net : FuncData
  f__law_row : Addr
  d__law_row : FuncData
  f__law_take : Addr
  d__law_take : FuncData
  f__law_net : Addr
  d__law_net : FuncData
  f__law_made_ways : Addr
  d__law_made_ways : FuncData
  f__law_fitted : Addr
  d__law_fitted : FuncData
  f__law_spoilt : Addr
  d__law_spoilt : FuncData
  f__law_whole : Addr
  d__law_whole : FuncData
  f__law_due : Addr
  d__law_due : FuncData
  f_law : Addr
  d_law : FuncData
structure Txt (K : PySem.W.Frag) (mg : Str → Option Value) (d : Ad) : Prop where
  m_is_whole : mg "is_whole" = some (.ref d.f_is_whole)
  k_is_whole : PySem.W.keepIn K (.ref d.f_is_whole) = true
  F_is_whole : Fun K "is_whole" "is_whole" s_is_whole d.f_is_whole d.d_is_whole
  b_is_whole : Binds K d.d_is_whole ["thing"] []
  m_is_row : mg "is_row" = some (.ref d.f_is_row)
  k_is_row : PySem.W.keepIn K (.ref d.f_is_row) = true
  F_is_row : Fun K "is_row" "is_row" s_is_row d.f_is_row d.d_is_row
  b_is_row : Binds K d.d_is_row ["thing"] []
  m_ranks_in : mg "ranks_in" = some (.ref d.f_ranks_in)
  k_ranks_in : PySem.W.keepIn K (.ref d.f_ranks_in) = true
  F_ranks_in : Fun K "ranks_in" "ranks_in" s_ranks_in d.f_ranks_in d.d_ranks_in
  b_ranks_in : Binds K d.d_ranks_in ["net", "some"] []
  m_is_ranked : mg "is_ranked" = some (.ref d.f_is_ranked)
  k_is_ranked : PySem.W.keepIn K (.ref d.f_is_ranked) = true
  F_is_ranked : Fun K "is_ranked" "is_ranked" s_is_ranked d.f_is_ranked d.d_is_ranked
  b_is_ranked : Binds K d.d_is_ranked ["net", "ways", "some"] []
  m_is_within : mg "is_within" = some (.ref d.f_is_within)
  k_is_within : PySem.W.keepIn K (.ref d.f_is_within) = true
  F_is_within : Fun K "is_within" "is_within" s_is_within d.f_is_within d.d_is_within
  b_is_within : Binds K d.d_is_within ["thing", "least", "most"] []
  m_need_bridges : mg "need_bridges" = some (.ref d.f_need_bridges)
  k_need_bridges : PySem.W.keepIn K (.ref d.f_need_bridges) = true
  F_need_bridges : Fun K "need_bridges" "need_bridges" s_need_bridges d.f_need_bridges d.d_need_bridges
  b_need_bridges : Binds K d.d_need_bridges ["bridges"] []
  m_tie_of : mg "tie_of" = some (.ref d.f_tie_of)
  k_tie_of : PySem.W.keepIn K (.ref d.f_tie_of) = true
  F_tie_of : Fun K "tie_of" "tie_of" s_tie_of d.f_tie_of d.d_tie_of
  b_tie_of : Binds K d.d_tie_of ["bridges", "thing"] []
  m_make_net : mg "make_net" = some (.ref d.f_make_net)
  k_make_net : PySem.W.keepIn K (.ref d.f_make_net) = true
  F_make_net : Fun K "make_net" "make_net" s_make_net d.f_make_net d.d_make_net
  b_make_net : Binds K d.d_make_net ["bridges", "ties"] []
  m__law_row : mg "_law_row" = some (.ref d.f__law_row)
  k__law_row : PySem.W.keepIn K (.ref d.f__law_row) = true
  F__law_row : Fun K "_law_row" "_law_row" s__law_row d.f__law_row d.d__law_row
  b__law_row : Binds K d.d__law_row ["cell"] []
  m__law_take : mg "_law_take" = some (.ref d.f__law_take)
  k__law_take : PySem.W.keepIn K (.ref d.f__law_take) = true
  F__law_take : Fun K "_law_take" "_law_take" s__law_take d.f__law_take d.d__law_take
  b__law_take : Binds K d.d__law_take ["row", "many"] []
  m__law_net : mg "_law_net" = some (.ref d.f__law_net)
  k__law_net : PySem.W.keepIn K (.ref d.f__law_net) = true
  F__law_net : Fun K "_law_net" "_law_net" s__law_net d.f__law_net d.d__law_net
  b__law_net : Binds K d.d__law_net ["row"] []
  m__law_made_ways : mg "_law_made_ways" = some (.ref d.f__law_made_ways)
  k__law_made_ways : PySem.W.keepIn K (.ref d.f__law_made_ways) = true
  F__law_made_ways : Fun K "_law_made_ways" "_law_made_ways" s__law_made_ways d.f__law_made_ways d.d__law_made_ways
  b__law_made_ways : Binds K d.d__law_made_ways ["row", "net"] []
  m__law_fitted : mg "_law_fitted" = some (.ref d.f__law_fitted)
  k__law_fitted : PySem.W.keepIn K (.ref d.f__law_fitted) = true
  F__law_fitted : Fun K "_law_fitted" "_law_fitted" s__law_fitted d.f__law_fitted d.d__law_fitted
  b__law_fitted : Binds K d.d__law_fitted ["row", "net", "ways"] []
  m__law_spoilt : mg "_law_spoilt" = some (.ref d.f__law_spoilt)
  k__law_spoilt : PySem.W.keepIn K (.ref d.f__law_spoilt) = true
  F__law_spoilt : Fun K "_law_spoilt" "_law_spoilt" s__law_spoilt d.f__law_spoilt d.d__law_spoilt
  b__law_spoilt : Binds K d.d__law_spoilt ["row", "net", "some"] []
  m__law_whole : mg "_law_whole" = some (.ref d.f__law_whole)
  k__law_whole : PySem.W.keepIn K (.ref d.f__law_whole) = true
  F__law_whole : Fun K "_law_whole" "_law_whole" s__law_whole d.f__law_whole d.d__law_whole
  b__law_whole : Binds K d.d__law_whole ["thing"] []
  m__law_due : mg "_law_due" = some (.ref d.f__law_due)
  k__law_due : PySem.W.keepIn K (.ref d.f__law_due) = true
  F__law_due : Fun K "_law_due" "_law_due" s__law_due d.f__law_due d.d__law_due
  b__law_due : Binds K d.d__law_due ["net", "ways", "some"] []
  m_law : mg "law" = some (.ref d.f_law)
  k_law : PySem.W.keepIn K (.ref d.f_law) = true
  F_law : Fun K "law" "law" s_law d.f_law d.d_law
  b_law : Binds K d.d_law ["script"] []
  n_all : mg "all" = none
  n_bool : mg "bool" = none
  n_dict : mg "dict" = none
  n_enumerate : mg "enumerate" = none
  n_int : mg "int" = none
  n_isinstance : mg "isinstance" = none
  n_len : mg "len" = none
  n_list : mg "list" = none
  n_max : mg "max" = none
  n_min : mg "min" = none
  n_range : mg "range" = none
  n_set : mg "set" = none
  n_sorted : mg "sorted" = none
  n_tuple : mg "tuple" = none
  g_MOST_BRIDGES : ∃ t, mg "MOST_BRIDGES" = some (.int 10 t)
  g_MOST_COST : ∃ t, mg "MOST_COST" = some (.int 1000 t)
  g_MOST_NUMBER : ∃ t, mg "MOST_NUMBER" = some (.int 999 t)
  g_MOST_TIES : ∃ t, mg "MOST_TIES" = some (.int 16 t)
  e_NoNet : ECl K mg "NoNet" d.c.NoNet
section
variable {P : Program} {w : World} {K : PySem.W.Frag} {mg : Str → Option Value} {base : Heap} {d : Ad}
theorem sc_is_whole : FnScope N_is_whole ["thing"] (defScope s_is_whole) := ⟨rfl, rfl, rfl, by decide +kernel, rfl, by decide +kernel, by decide +kernel⟩
theorem ok_is_whole (T : Txt K mg d) : FnOk P w K mg base (L2.CX P w) 1 d.f_is_whole d.d_is_whole ["thing"] (LSp K (p_is_whole d.c)) := by
  refine fun_okA T.F_is_whole sc_is_whole (fun xs A k e h => h.1) (fun cdv A outer s H E hr => ?_) (fun xs A k e h => h.2)
  have tk : Takes (cxOf (L2.CX P w) P w K mg base N_is_whole "is_whole" (defScope s_is_whole) d.f_is_whole cdv A outer s H E) (fun cls d _ H => E cls d H) := takes_of rfl rfl rfl rfl
  have ps : PassesOwn (model (cxOf (L2.CX P w) P w K mg base N_is_whole "is_whole" (defScope s_is_whole) d.f_is_whole cdv A outer s H E).prog (cxOf (L2.CX P w) P w K mg base N_is_whole "is_whole" (defScope s_is_whole) d.f_is_whole cdv A outer s H E).w) (cxOf (L2.CX P w) P w K mg base N_is_whole "is_whole" (defScope s_is_whole) d.f_is_whole cdv A outer s H E).A (cxOf (L2.CX P w) P w K mg base N_is_whole "is_whole" (defScope s_is_whole) d.f_is_whole cdv A outer s H E).env (cxOf (L2.CX P w) P w K mg base N_is_whole "is_whole" (defScope s_is_whole) d.f_is_whole cdv A outer s H E).xe := passes_of rfl
  unfold r_is_whole
  exact (ass_one (as_ret (ae_and (ae_callB b_isi T.n_isinstance bt_isinstance (aa_cons (av 0) (aa_cons (ae_ty T.n_int bt_int) aa_nil))) (ae_one (ae_not (ae_callB b_isi T.n_isinstance bt_isinstance (aa_cons (av 0) (aa_cons (ae_ty T.n_bool bt_bool) aa_nil))))))))
theorem sc_is_within : FnScope N_is_within ["thing", "least", "most"] (defScope s_is_within) := ⟨rfl, rfl, rfl, by decide +kernel, rfl, by decide +kernel, by decide +kernel⟩
theorem ok_is_within (T : Txt K mg d) : FnOk P w K mg base (L2.CX P w) 1 d.f_is_within d.d_is_within ["thing", "least", "most"] (LSp K (p_is_within d.c)) := by
  refine fun_okA T.F_is_within sc_is_within (fun xs A k e h => h.1) (fun cdv A outer s H E hr => ?_) (fun xs A k e h => h.2)
  have tk : Takes (cxOf (L2.CX P w) P w K mg base N_is_within "is_within" (defScope s_is_within) d.f_is_within cdv A outer s H E) (fun cls d _ H => E cls d H) := takes_of rfl rfl rfl rfl
  have ps : PassesOwn (model (cxOf (L2.CX P w) P w K mg base N_is_within "is_within" (defScope s_is_within) d.f_is_within cdv A outer s H E).prog (cxOf (L2.CX P w) P w K mg base N_is_within "is_within" (defScope s_is_within) d.f_is_within cdv A outer s H E).w) (cxOf (L2.CX P w) P w K mg base N_is_within "is_within" (defScope s_is_within) d.f_is_within cdv A outer s H E).A (cxOf (L2.CX P w) P w K mg base N_is_within "is_within" (defScope s_is_within) d.f_is_within cdv A outer s H E).env (cxOf (L2.CX P w) P w K mg base N_is_within "is_within" (defScope s_is_within) d.f_is_within cdv A outer s H E).xe := passes_of rfl
  unfold r_is_within
  exact (ass_one (as_ret (ae_and (ae_callB b_isi T.n_isinstance bt_isinstance (aa_cons (av 0) (aa_cons (ae_ty T.n_int bt_int) aa_nil))) (ae_and (ae_not (ae_callB b_isi T.n_isinstance bt_isinstance (aa_cons (av 0) (aa_cons (ae_ty T.n_bool bt_bool) aa_nil)))) (ae_one (ae_chain o_le o_le (av 1) (av 0) (av 2)))))))
theorem sc__law_row : FnScope N__law_row ["cell"] (defScope s__law_row) := ⟨rfl, rfl, rfl, by decide +kernel, rfl, by decide +kernel, by decide +kernel⟩
theorem ok__law_row (T : Txt K mg d) : FnOk P w K mg base (L2.CX P w) 1 d.f__law_row d.d__law_row ["cell"] (LSp K (p__law_row d.c)) := by
  refine fun_okA T.F__law_row sc__law_row (fun xs A k e h => h.1) (fun cdv A outer s H E hr => ?_) (fun xs A k e h => h.2)
  have tk : Takes (cxOf (L2.CX P w) P w K mg base N__law_row "_law_row" (defScope s__law_row) d.f__law_row cdv A outer s H E) (fun cls d _ H => E cls d H) := takes_of rfl rfl rfl rfl
  have ps : PassesOwn (model (cxOf (L2.CX P w) P w K mg base N__law_row "_law_row" (defScope s__law_row) d.f__law_row cdv A outer s H E).prog (cxOf (L2.CX P w) P w K mg base N__law_row "_law_row" (defScope s__law_row) d.f__law_row cdv A outer s H E).w) (cxOf (L2.CX P w) P w K mg base N__law_row "_law_row" (defScope s__law_row) d.f__law_row cdv A outer s H E).A (cxOf (L2.CX P w) P w K mg base N__law_row "_law_row" (defScope s__law_row) d.f__law_row cdv A outer s H E).env (cxOf (L2.CX P w) P w K mg base N__law_row "_law_row" (defScope s__law_row) d.f__law_row cdv A outer s H E).xe := passes_of rfl
  unfold r__law_row
  exact (ass_one (as_ret (ae_lst (aa_cons (av 0) (aa_cons (ae_op o_mod (av 0) ae_int) aa_nil)))))
theorem sc__law_take : FnScope N__law_take ["row", "many"] (defScope s__law_take) := ⟨rfl, rfl, rfl, by decide +kernel, rfl, by decide +kernel, by decide +kernel⟩
theorem ok__law_take (T : Txt K mg d) : FnOk P w K mg base (L2.CX P w) 1 d.f__law_take d.d__law_take ["row", "many"] (LSp K (p__law_take d.c)) := by
  refine fun_okA T.F__law_take sc__law_take (fun xs A k e h => h.1) (fun cdv A outer s H E hr => ?_) (fun xs A k e h => h.2)
  have tk : Takes (cxOf (L2.CX P w) P w K mg base N__law_take "_law_take" (defScope s__law_take) d.f__law_take cdv A outer s H E) (fun cls d _ H => E cls d H) := takes_of rfl rfl rfl rfl
  have ps : PassesOwn (model (cxOf (L2.CX P w) P w K mg base N__law_take "_law_take" (defScope s__law_take) d.f__law_take cdv A outer s H E).prog (cxOf (L2.CX P w) P w K mg base N__law_take "_law_take" (defScope s__law_take) d.f__law_take cdv A outer s H E).w) (cxOf (L2.CX P w) P w K mg base N__law_take "_law_take" (defScope s__law_take) d.f__law_take cdv A outer s H E).A (cxOf (L2.CX P w) P w K mg base N__law_take "_law_take" (defScope s__law_take) d.f__law_take cdv A outer s H E).env (cxOf (L2.CX P w) P w K mg base N__law_take "_law_take" (defScope s__law_take) d.f__law_take cdv A outer s H E).xe := passes_of rfl
  unfold r__law_take
  exact (ass_cons (as_if (at_cmp o_gtI (ae_ix (o_ix (hu_1 hr)) (av 0) ae_int) (ae_op o_pow ae_int ae_int)) (ass_cons (as_set sc__law_take.nd (ae_op o_mod (ae_ix (o_ix (hu_1 hr)) (av 0) ae_int) (av 1)))
    (ass_cons (as_asg (ae_op o_div (ae_ix (o_ix (hu_1 hr)) (av 0) ae_int) (av 1)) (ag_sub (av 0) ae_int (o_set (hu_1 hr))))
    (ass_one (as_ret (av 2))))) ass_nil)
    (ass_cons (as_asg (ae_op o_mod (ae_op o_add (ae_op o_add (ae_op o_mul (ae_ix (o_ix (hu_1 hr)) (av 0) ae_int) (ae_ix (o_ix (hu_1 hr)) (av 0) ae_int)) (ae_op o_mul ae_int (ae_ix (o_ix (hu_1 hr)) (av 0) ae_int))) ae_int) ae_int) (ag_sub (av 0) ae_int (o_set (hu_1 hr))))
    (ass_one (as_ret (ae_op o_mod (ae_op o_div (ae_ix (o_ix (hu_1 hr)) (av 0) ae_int) ae_int) (av 1))))))
theorem sc__law_whole : FnScope N__law_whole ["thing"] (defScope s__law_whole) := ⟨rfl, rfl, rfl, by decide +kernel, rfl, by decide +kernel, by decide +kernel⟩
theorem ok__law_whole (T : Txt K mg d) : FnOk P w K mg base (L2.CX P w) 1 d.f__law_whole d.d__law_whole ["thing"] (LSp K (p__law_whole d.c)) := by
  refine fun_okA T.F__law_whole sc__law_whole (fun xs A k e h => h.1) (fun cdv A outer s H E hr => ?_) (fun xs A k e h => h.2)
  have tk : Takes (cxOf (L2.CX P w) P w K mg base N__law_whole "_law_whole" (defScope s__law_whole) d.f__law_whole cdv A outer s H E) (fun cls d _ H => E cls d H) := takes_of rfl rfl rfl rfl
  have ps : PassesOwn (model (cxOf (L2.CX P w) P w K mg base N__law_whole "_law_whole" (defScope s__law_whole) d.f__law_whole cdv A outer s H E).prog (cxOf (L2.CX P w) P w K mg base N__law_whole "_law_whole" (defScope s__law_whole) d.f__law_whole cdv A outer s H E).w) (cxOf (L2.CX P w) P w K mg base N__law_whole "_law_whole" (defScope s__law_whole) d.f__law_whole cdv A outer s H E).A (cxOf (L2.CX P w) P w K mg base N__law_whole "_law_whole" (defScope s__law_whole) d.f__law_whole cdv A outer s H E).env (cxOf (L2.CX P w) P w K mg base N__law_whole "_law_whole" (defScope s__law_whole) d.f__law_whole cdv A outer s H E).xe := passes_of rfl
  unfold r__law_whole
  exact (ass_one (as_ret (ae_and (ae_callB b_isi T.n_isinstance bt_isinstance (aa_cons (av 0) (aa_cons (ae_ty T.n_int bt_int) aa_nil))) (ae_one (ae_not (ae_callB b_isi T.n_isinstance bt_isinstance (aa_cons (av 0) (aa_cons (ae_ty T.n_bool bt_bool) aa_nil))))))))
theorem sc_is_row : FnScope N_is_row ["thing"] (defScope s_is_row) := ⟨rfl, rfl, rfl, by decide +kernel, rfl, by decide +kernel, by decide +kernel⟩
theorem ok_is_row (T : Txt K mg d) : FnOk P w K mg base (L2.CX P w) 2 d.f_is_row d.d_is_row ["thing"] (LSp K (p_is_row d.c)) := by
  refine fun_okA T.F_is_row sc_is_row (fun xs A k e h => h.1) (fun cdv A outer s H E hr => ?_) (fun xs A k e h => h.2)
  have tk : Takes (cxOf (L2.CX P w) P w K mg base N_is_row "is_row" (defScope s_is_row) d.f_is_row cdv A outer s H E) (fun cls d _ H => E cls d H) := takes_of rfl rfl rfl rfl
  have ps : PassesOwn (model (cxOf (L2.CX P w) P w K mg base N_is_row "is_row" (defScope s_is_row) d.f_is_row cdv A outer s H E).prog (cxOf (L2.CX P w) P w K mg base N_is_row "is_row" (defScope s_is_row) d.f_is_row cdv A outer s H E).w) (cxOf (L2.CX P w) P w K mg base N_is_row "is_row" (defScope s_is_row) d.f_is_row cdv A outer s H E).A (cxOf (L2.CX P w) P w K mg base N_is_row "is_row" (defScope s_is_row) d.f_is_row cdv A outer s H E).env (cxOf (L2.CX P w) P w K mg base N_is_row "is_row" (defScope s_is_row) d.f_is_row cdv A outer s H E).xe := passes_of rfl
  unfold r_is_row
  exact (ass_one (as_ret (ae_and (ae_callB b_isi T.n_isinstance bt_isinstance (aa_cons (av 0) (aa_cons (ae_ty T.n_tuple bt_tuple) aa_nil))) (ae_and (ae_cmp (o_eq (hu_64 hr)) (ae_callB b_len T.n_len bt_len (aa_cons (av 0) aa_nil)) ae_int) (ae_one (ae_callB (b_all rfl) T.n_all bt_all (aa_cons (ae_lc (own := [("part", 1)]) rfl sc_is_row.nd (ai_seq (av 0)) (by rfl) (fun _ _ _ _ _ => (agw_name sc_is_row.nd)) (fun _ _ _ _ _ => ats_nil) (fun _ _ _ _ _ => (ae_call (ok_is_whole T) (hr.mono (by decide)) T.m_is_whole T.k_is_whole T.b_is_whole tk00 (aa_cons (av 1) aa_nil)))) aa_nil)))))))
theorem sc_need_bridges : FnScope N_need_bridges ["bridges"] (defScope s_need_bridges) := ⟨rfl, rfl, rfl, by decide +kernel, rfl, by decide +kernel, by decide +kernel⟩
theorem ok_need_bridges (T : Txt K mg d) : FnOk P w K mg base (L2.CX P w) 2 d.f_need_bridges d.d_need_bridges ["bridges"] (LSp K (p_need_bridges d.c)) := by
  refine fun_okA T.F_need_bridges sc_need_bridges (fun xs A k e h => h.1) (fun cdv A outer s H E hr => ?_) (fun xs A k e h => h.2)
  have tk : Takes (cxOf (L2.CX P w) P w K mg base N_need_bridges "need_bridges" (defScope s_need_bridges) d.f_need_bridges cdv A outer s H E) (fun cls d _ H => E cls d H) := takes_of rfl rfl rfl rfl
  have ps : PassesOwn (model (cxOf (L2.CX P w) P w K mg base N_need_bridges "need_bridges" (defScope s_need_bridges) d.f_need_bridges cdv A outer s H E).prog (cxOf (L2.CX P w) P w K mg base N_need_bridges "need_bridges" (defScope s_need_bridges) d.f_need_bridges cdv A outer s H E).w) (cxOf (L2.CX P w) P w K mg base N_need_bridges "need_bridges" (defScope s_need_bridges) d.f_need_bridges cdv A outer s H E).A (cxOf (L2.CX P w) P w K mg base N_need_bridges "need_bridges" (defScope s_need_bridges) d.f_need_bridges cdv A outer s H E).env (cxOf (L2.CX P w) P w K mg base N_need_bridges "need_bridges" (defScope s_need_bridges) d.f_need_bridges cdv A outer s H E).xe := passes_of rfl
  unfold r_need_bridges
  exact (ass_cons (as_if (aw_at (aw_or (at_not (at_val (ae_callB b_isi T.n_isinstance bt_isinstance (aa_cons (av 0) (aa_cons (ae_ty T.n_list bt_list) aa_nil))))) (aw_or1 (at_not (at_chain o_le o_le ae_int (ae_callB b_len T.n_len bt_len (aa_cons (av 0) aa_nil)) (ae_gint T.g_MOST_BRIDGES)))))) (ass_one (as_raiseX rfl tk T.e_NoNet)) ass_nil)
    (ass_one (as_for ps rfl (ai_enum T.n_enumerate (aa_cons (av 0) aa_nil)) (ag_tup rfl (ags_cons (ag_name sc_need_bridges.nd) (ags_cons (ag_name sc_need_bridges.nd) ags_nil)))
    (ass_one (as_if (aw_at (aw_or (at_not (at_val (ae_call (ok_is_within T) (hr.mono (by decide)) T.m_is_within T.k_is_within T.b_is_within tk (aa_cons (av 2) (aa_cons ae_int (aa_cons (ae_gint T.g_MOST_NUMBER) aa_nil)))))) (aw_or1 (at_cmp (o_in (hu_65 hr)) (av 2) (ae_slice (av 0) ao_none (ao_some (av 1))))))) (ass_one (as_raiseX rfl tk T.e_NoNet)) ass_nil)))))
theorem sc_tie_of : FnScope N_tie_of ["bridges", "thing"] (defScope s_tie_of) := ⟨rfl, rfl, rfl, by decide +kernel, rfl, by decide +kernel, by decide +kernel⟩
theorem ok_tie_of (T : Txt K mg d) : FnOk P w K mg base (L2.CX P w) 2 d.f_tie_of d.d_tie_of ["bridges", "thing"] (LSp K (p_tie_of d.c)) := by
  refine fun_okA T.F_tie_of sc_tie_of (fun xs A k e h => h.1) (fun cdv A outer s H E hr => ?_) (fun xs A k e h => h.2)
  have tk : Takes (cxOf (L2.CX P w) P w K mg base N_tie_of "tie_of" (defScope s_tie_of) d.f_tie_of cdv A outer s H E) (fun cls d _ H => E cls d H) := takes_of rfl rfl rfl rfl
  have ps : PassesOwn (model (cxOf (L2.CX P w) P w K mg base N_tie_of "tie_of" (defScope s_tie_of) d.f_tie_of cdv A outer s H E).prog (cxOf (L2.CX P w) P w K mg base N_tie_of "tie_of" (defScope s_tie_of) d.f_tie_of cdv A outer s H E).w) (cxOf (L2.CX P w) P w K mg base N_tie_of "tie_of" (defScope s_tie_of) d.f_tie_of cdv A outer s H E).A (cxOf (L2.CX P w) P w K mg base N_tie_of "tie_of" (defScope s_tie_of) d.f_tie_of cdv A outer s H E).env (cxOf (L2.CX P w) P w K mg base N_tie_of "tie_of" (defScope s_tie_of) d.f_tie_of cdv A outer s H E).xe := passes_of rfl
  unfold r_tie_of
  exact (ass_cons (as_if (aw_at (aw_or (at_not (at_val (ae_callB b_isi T.n_isinstance bt_isinstance (aa_cons (av 1) (aa_cons (ae_ty T.n_tuple bt_tuple) aa_nil))))) (aw_or (at_cmp (o_ne (hu_64 hr)) (ae_callB b_len T.n_len bt_len (aa_cons (av 1) aa_nil)) ae_int) (aw_or1 (at_not (at_val (ae_call (ok_is_within T) (hr.mono (by decide)) T.m_is_within T.k_is_within T.b_is_within tk (aa_cons (ae_ix (o_ix (hu_1 hr)) (av 1) ae_int) (aa_cons ae_int (aa_cons (ae_gint T.g_MOST_COST) aa_nil)))))))))) (ass_one (as_raiseX rfl tk T.e_NoNet)) ass_nil)
    (ass_cons (as_for ps rfl (ai_seq (ae_slice (av 1) ao_none (ao_some ae_int))) (ag_name sc_tie_of.nd)
    (ass_one (as_if (aw_at (aw_or (at_not (at_val (ae_call (ok_is_within T) (hr.mono (by decide)) T.m_is_within T.k_is_within T.b_is_within tk (aa_cons (av 2) (aa_cons ae_int (aa_cons (ae_gint T.g_MOST_NUMBER) aa_nil)))))) (aw_or1 (at_cmp (o_notin (hu_65 hr)) (av 2) (av 0))))) (ass_one (as_raiseX rfl tk T.e_NoNet)) ass_nil)))
    (ass_cons (as_if (at_cmp (o_eq (hu_64 hr)) (ae_ix (o_ix (hu_1 hr)) (av 1) ae_int) (ae_ix (o_ix (hu_1 hr)) (av 1) ae_int)) (ass_one (as_raiseX rfl tk T.e_NoNet)) ass_nil)
    (ass_one (as_ret (ae_tup (aa_cons (ae_callB (b_min rfl (hu_64 hr)) T.n_min bt_min (aa_cons (ae_slice (av 1) ao_none (ao_some ae_int)) aa_nil)) (aa_cons (ae_callB (b_max rfl (hu_64 hr)) T.n_max bt_max (aa_cons (ae_slice (av 1) ao_none (ao_some ae_int)) aa_nil)) (aa_cons (ae_ix (o_ix (hu_1 hr)) (av 1) ae_int) aa_nil)))))))))
theorem sc__law_made_ways : FnScope N__law_made_ways ["row", "net"] (defScope s__law_made_ways) := ⟨rfl, rfl, rfl, by decide +kernel, rfl, by decide +kernel, by decide +kernel⟩
theorem ok__law_made_ways (T : Txt K mg d) : FnOk P w K mg base (L2.CX P w) 2 d.f__law_made_ways d.d__law_made_ways ["row", "net"] (LSp K (p__law_made_ways d.c)) := by
  refine fun_okA T.F__law_made_ways sc__law_made_ways (fun xs A k e h => h.1) (fun cdv A outer s H E hr => ?_) (fun xs A k e h => h.2)
  have tk : Takes (cxOf (L2.CX P w) P w K mg base N__law_made_ways "_law_made_ways" (defScope s__law_made_ways) d.f__law_made_ways cdv A outer s H E) (fun cls d _ H => E cls d H) := takes_of rfl rfl rfl rfl
  have ps : PassesOwn (model (cxOf (L2.CX P w) P w K mg base N__law_made_ways "_law_made_ways" (defScope s__law_made_ways) d.f__law_made_ways cdv A outer s H E).prog (cxOf (L2.CX P w) P w K mg base N__law_made_ways "_law_made_ways" (defScope s__law_made_ways) d.f__law_made_ways cdv A outer s H E).w) (cxOf (L2.CX P w) P w K mg base N__law_made_ways "_law_made_ways" (defScope s__law_made_ways) d.f__law_made_ways cdv A outer s H E).A (cxOf (L2.CX P w) P w K mg base N__law_made_ways "_law_made_ways" (defScope s__law_made_ways) d.f__law_made_ways cdv A outer s H E).env (cxOf (L2.CX P w) P w K mg base N__law_made_ways "_law_made_ways" (defScope s__law_made_ways) d.f__law_made_ways cdv A outer s H E).xe := passes_of rfl
  unfold r__law_made_ways
  exact (ass_cons (as_set sc__law_made_ways.nd (ae_lst aa_nil))
    (ass_cons (as_set sc__law_made_ways.nd (ae_call (ok__law_take T) (hr.mono (by decide)) T.m__law_take T.k__law_take T.b__law_take tk (aa_cons (av 0) (aa_cons ae_int aa_nil))))
    (ass_cons (as_for ps rfl (ai_enum T.n_enumerate (aa_cons (ae_ix (o_ix (hu_1 hr)) (av 1) ae_int) aa_nil)) (ag_tup rfl (ags_cons (ag_name sc__law_made_ways.nd) (ags_cons (ag_name sc__law_made_ways.nd) ags_nil)))
    (ass_one (as_if (at_cmp (o_eq (hu_64 hr)) (ae_call (ok__law_take T) (hr.mono (by decide)) T.m__law_take T.k__law_take T.b__law_take tk (aa_cons (av 0) (aa_cons ae_int aa_nil))) ae_int) (ass_cons (as_set sc__law_made_ways.nd (ae_lst (aa_cons (ae_ix (o_ix (hu_1 hr)) (av 5) ae_int) (aa_cons (ae_ix (o_ix (hu_1 hr)) (av 5) ae_int) aa_nil))))
    (ass_cons (as_set sc__law_made_ways.nd (ae_call (ok__law_take T) (hr.mono (by decide)) T.m__law_take T.k__law_take T.b__law_take tk (aa_cons (av 0) (aa_cons ae_int aa_nil))))
    (ass_one (as_if (aw_at (aw_or (at_cmp (o_eq (hu_64 hr)) (av 3) ae_int) (aw_or1 (at_cmp (o_notin (hu_65 hr)) (ae_ix (o_ix (hu_1 hr)) (av 6) (av 7)) (ae_lc (own := [("way", 8)]) rfl sc__law_made_ways.nd (ai_seq (av 2)) (by rfl) (fun _ _ _ _ _ => (agw_name sc__law_made_ways.nd)) (fun _ _ _ _ _ => ats_nil) (fun _ _ _ _ _ => (ae_ix (o_ix (hu_1 hr)) (av 8) ae_int))))))) (ass_one (as_expr (ae_bm PySem.F.plainAttrs_list PySem.F.slot_list_append PySem.F.type_list_append m_append (av 2) (aa_cons (ae_tup (aa_cons (av 4) (aa_cons (ae_ix (o_ix (hu_1 hr)) (av 6) (av 7)) (aa_cons (ae_ix (o_ix (hu_1 hr)) (av 6) (ae_op o_sub ae_int (av 7))) aa_nil)))) aa_nil)))) ass_nil)))) ass_nil)))
    (ass_one (as_ret (av 2))))))
theorem sc__law_fitted : FnScope N__law_fitted ["row", "net", "ways"] (defScope s__law_fitted) := ⟨rfl, rfl, rfl, by decide +kernel, rfl, by decide +kernel, by decide +kernel⟩
theorem ok__law_fitted (T : Txt K mg d) : FnOk P w K mg base (L2.CX P w) 2 d.f__law_fitted d.d__law_fitted ["row", "net", "ways"] (LSp K (p__law_fitted d.c)) := by
  refine fun_okA T.F__law_fitted sc__law_fitted (fun xs A k e h => h.1) (fun cdv A outer s H E hr => ?_) (fun xs A k e h => h.2)
  have tk : Takes (cxOf (L2.CX P w) P w K mg base N__law_fitted "_law_fitted" (defScope s__law_fitted) d.f__law_fitted cdv A outer s H E) (fun cls d _ H => E cls d H) := takes_of rfl rfl rfl rfl
  have ps : PassesOwn (model (cxOf (L2.CX P w) P w K mg base N__law_fitted "_law_fitted" (defScope s__law_fitted) d.f__law_fitted cdv A outer s H E).prog (cxOf (L2.CX P w) P w K mg base N__law_fitted "_law_fitted" (defScope s__law_fitted) d.f__law_fitted cdv A outer s H E).w) (cxOf (L2.CX P w) P w K mg base N__law_fitted "_law_fitted" (defScope s__law_fitted) d.f__law_fitted cdv A outer s H E).A (cxOf (L2.CX P w) P w K mg base N__law_fitted "_law_fitted" (defScope s__law_fitted) d.f__law_fitted cdv A outer s H E).env (cxOf (L2.CX P w) P w K mg base N__law_fitted "_law_fitted" (defScope s__law_fitted) d.f__law_fitted cdv A outer s H E).xe := passes_of rfl
  unfold r__law_fitted
  exact (ass_cons (as_set sc__law_fitted.nd (ae_callTy (b_dict rfl) T.n_dict bt_dict (aa_cons (ae_lc (own := [("bridge", 10)]) rfl sc__law_fitted.nd (ai_seq (ae_ix (o_ix (hu_1 hr)) (av 1) ae_int)) (by rfl) (fun _ _ _ _ _ => (agw_name sc__law_fitted.nd)) (fun _ _ _ _ _ => ats_nil) (fun _ _ _ _ _ => (ae_tup (aa_cons (av 10) (aa_cons (ae_op o_sub (ae_call (ok__law_take T) (hr.mono (by decide)) T.m__law_take T.k__law_take T.b__law_take tk00 (aa_cons (av 0) (aa_cons ae_int aa_nil))) ae_int) aa_nil))))) aa_nil)))
    (ass_cons (as_for ps rfl (ai_range1 T.n_range (aa_cons (ae_op o_mul (ae_call (ok__law_take T) (hr.mono (by decide)) T.m__law_take T.k__law_take T.b__law_take tk (aa_cons (av 0) (aa_cons ae_int aa_nil))) ae_int) aa_nil)) (ag_name sc__law_fitted.nd)
    (ass_one (as_for ps rfl (ai_seq (av 2)) (ag_tup rfl (ags_cons (ag_name sc__law_fitted.nd) (ags_cons (ag_name sc__law_fitted.nd) (ags_cons (ag_name sc__law_fitted.nd) ags_nil))))
    (ass_one (as_asg (ae_op o_add (ae_ix (o_ix (hu_1 hr)) (av 3) (av 7)) (ae_ix (o_ix (hu_1 hr)) (ae_ix (o_ix (hu_1 hr)) (ae_ix (o_ix (hu_1 hr)) (av 1) ae_int) (av 5)) ae_int)) (ag_sub (av 3) (av 6) (o_set (hu_1 hr))))))))
    (ass_cons (as_set sc__law_fitted.nd (ae_op o_sub (ae_call (ok__law_take T) (hr.mono (by decide)) T.m__law_take T.k__law_take T.b__law_take tk (aa_cons (av 0) (aa_cons ae_int aa_nil))) ae_int))
    (ass_cons (as_set sc__law_fitted.nd (ae_lst aa_nil))
    (ass_cons (as_for ps rfl (ai_seq (ae_ix (o_ix (hu_1 hr)) (av 1) ae_int)) (ag_name sc__law_fitted.nd)
    (ass_one (as_expr (ae_bm PySem.F.plainAttrs_list PySem.F.slot_list_append PySem.F.type_list_append m_append (av 9) (aa_cons (ae_tup (aa_cons (av 10) (aa_cons (ae_op o_add (av 8) (ae_callTy b_int T.n_int bt_int (aa_cons (ae_cmp (o_eq (hu_64 hr)) (ae_call (ok__law_take T) (hr.mono (by decide)) T.m__law_take T.k__law_take T.b__law_take tk (aa_cons (av 0) (aa_cons ae_int aa_nil))) ae_int) aa_nil))) (aa_cons (ae_ix (o_ix (hu_1 hr)) (av 3) (av 10)) aa_nil)))) aa_nil)))))
    (ass_one (as_ret (av 9))))))))
theorem sc__law_spoilt : FnScope N__law_spoilt ["row", "net", "some"] (defScope s__law_spoilt) := ⟨rfl, rfl, rfl, by decide +kernel, rfl, by decide +kernel, by decide +kernel⟩
theorem ok__law_spoilt (T : Txt K mg d) : FnOk P w K mg base (L2.CX P w) 2 d.f__law_spoilt d.d__law_spoilt ["row", "net", "some"] (LSp K (p__law_spoilt d.c)) := by
  refine fun_okA T.F__law_spoilt sc__law_spoilt (fun xs A k e h => h.1) (fun cdv A outer s H E hr => ?_) (fun xs A k e h => h.2)
  have tk : Takes (cxOf (L2.CX P w) P w K mg base N__law_spoilt "_law_spoilt" (defScope s__law_spoilt) d.f__law_spoilt cdv A outer s H E) (fun cls d _ H => E cls d H) := takes_of rfl rfl rfl rfl
  have ps : PassesOwn (model (cxOf (L2.CX P w) P w K mg base N__law_spoilt "_law_spoilt" (defScope s__law_spoilt) d.f__law_spoilt cdv A outer s H E).prog (cxOf (L2.CX P w) P w K mg base N__law_spoilt "_law_spoilt" (defScope s__law_spoilt) d.f__law_spoilt cdv A outer s H E).w) (cxOf (L2.CX P w) P w K mg base N__law_spoilt "_law_spoilt" (defScope s__law_spoilt) d.f__law_spoilt cdv A outer s H E).A (cxOf (L2.CX P w) P w K mg base N__law_spoilt "_law_spoilt" (defScope s__law_spoilt) d.f__law_spoilt cdv A outer s H E).env (cxOf (L2.CX P w) P w K mg base N__law_spoilt "_law_spoilt" (defScope s__law_spoilt) d.f__law_spoilt cdv A outer s H E).xe := passes_of rfl
  unfold r__law_spoilt
  exact (ass_cons (as_set sc__law_spoilt.nd (ae_call (ok__law_take T) (hr.mono (by decide)) T.m__law_take T.k__law_take T.b__law_take tk (aa_cons (av 0) (aa_cons (ae_callB b_len T.n_len bt_len (aa_cons (av 2) aa_nil)) aa_nil))))
    (ass_cons (as_set sc__law_spoilt.nd (ae_ix (o_ix (hu_1 hr)) (av 2) (av 3)))
    (ass_cons (as_set sc__law_spoilt.nd (ae_lst (aa_cons (ae_tup (aa_cons (ae_ix (o_ix (hu_1 hr)) (av 4) ae_int) (aa_cons ae_bl (aa_cons (ae_ix (o_ix (hu_1 hr)) (av 4) ae_int) aa_nil)))) (aa_cons (ae_tup (aa_cons (ae_ix (o_ix (hu_1 hr)) (av 4) ae_int) (aa_cons ae_str (aa_cons (ae_ix (o_ix (hu_1 hr)) (av 4) ae_int) aa_nil)))) (aa_cons ae_non (aa_cons (ae_slice (av 4) ao_none (ao_some ae_int)) (aa_cons (ae_op o_add (av 4) (ae_tup (aa_cons ae_int aa_nil))) (aa_cons (ae_callTy b_list T.n_list bt_list (aa_cons (av 4) aa_nil)) (aa_cons (ae_tup (aa_cons (ae_ix (o_ix (hu_1 hr)) (av 4) ae_int) (aa_cons (ae_ix (o_ix (hu_1 hr)) (av 4) ae_int) (aa_cons ae_non aa_nil)))) aa_nil)))))))))
    (ass_cons (as_set sc__law_spoilt.nd (ae_op o_add (av 5) (ae_lst (aa_cons (ae_tup (aa_cons (ae_op o_add (ae_ix (o_ix (hu_1 hr)) (av 4) ae_int) ae_int) (aa_cons (ae_ix (o_ix (hu_1 hr)) (av 4) ae_int) (aa_cons (ae_ix (o_ix (hu_1 hr)) (av 4) ae_int) aa_nil)))) (aa_cons (ae_tup (aa_cons (ae_un o_neg ae_int) (aa_cons ae_int (aa_cons ae_int aa_nil)))) (aa_cons (ae_tup (aa_cons ae_bl (aa_cons (ae_ix (o_ix (hu_1 hr)) (av 4) ae_int) (aa_cons (ae_ix (o_ix (hu_1 hr)) (av 4) ae_int) aa_nil)))) aa_nil))))))
    (ass_cons (as_set sc__law_spoilt.nd (ae_call (ok__law_take T) (hr.mono (by decide)) T.m__law_take T.k__law_take T.b__law_take tk (aa_cons (av 0) (aa_cons ae_int aa_nil))))
    (ass_cons (as_if (at_cmp (o_eq (hu_64 hr)) (av 6) ae_int) (ass_one (as_ret (ae_op o_add (ae_slice (av 2) ao_none (ao_some (av 3))) (ae_slice (av 2) (ao_some (ae_op o_add (av 3) ae_int)) ao_none)))) ass_nil)
    (ass_cons (as_if (at_cmp (o_eq (hu_64 hr)) (av 6) ae_int) (ass_one (as_ret (ae_op o_add (ae_op o_add (ae_slice (av 2) ao_none (ao_some (av 3))) (ae_lst (aa_cons (ae_ix (o_ix (hu_1 hr)) (av 5) (ae_call (ok__law_take T) (hr.mono (by decide)) T.m__law_take T.k__law_take T.b__law_take tk (aa_cons (av 0) (aa_cons ae_int aa_nil)))) aa_nil))) (ae_slice (av 2) (ao_some (ae_op o_add (av 3) ae_int)) ao_none)))) ass_nil)
    (ass_cons (as_if (at_cmp (o_eq (hu_64 hr)) (av 6) ae_int) (ass_one (as_ret (ae_op o_add (ae_op o_add (ae_slice (av 2) ao_none (ao_some (av 3))) (ae_lst (aa_cons (av 4) aa_nil))) (ae_slice (av 2) (ao_some (av 3)) ao_none)))) ass_nil)
    (ass_cons (as_if (at_cmp (o_eq (hu_64 hr)) (av 6) ae_int) (ass_one (as_ret (ae_rev (av 2)))) ass_nil)
    (ass_one (as_ret (av 2))))))))))))
theorem sc__law_due : FnScope N__law_due ["net", "ways", "some"] (defScope s__law_due) := ⟨rfl, rfl, rfl, by decide +kernel, rfl, by decide +kernel, by decide +kernel⟩
theorem ok__law_due (T : Txt K mg d) : FnOk P w K mg base (L2.CX P w) 2 d.f__law_due d.d__law_due ["net", "ways", "some"] (LSp K (p__law_due d.c)) := by
  refine fun_okA T.F__law_due sc__law_due (fun xs A k e h => h.1) (fun cdv A outer s H E hr => ?_) (fun xs A k e h => h.2)
  have tk : Takes (cxOf (L2.CX P w) P w K mg base N__law_due "_law_due" (defScope s__law_due) d.f__law_due cdv A outer s H E) (fun cls d _ H => E cls d H) := takes_of rfl rfl rfl rfl
  have ps : PassesOwn (model (cxOf (L2.CX P w) P w K mg base N__law_due "_law_due" (defScope s__law_due) d.f__law_due cdv A outer s H E).prog (cxOf (L2.CX P w) P w K mg base N__law_due "_law_due" (defScope s__law_due) d.f__law_due cdv A outer s H E).w) (cxOf (L2.CX P w) P w K mg base N__law_due "_law_due" (defScope s__law_due) d.f__law_due cdv A outer s H E).A (cxOf (L2.CX P w) P w K mg base N__law_due "_law_due" (defScope s__law_due) d.f__law_due cdv A outer s H E).env (cxOf (L2.CX P w) P w K mg base N__law_due "_law_due" (defScope s__law_due) d.f__law_due cdv A outer s H E).xe := passes_of rfl
  unfold r__law_due
  exact (ass_cons (as_set sc__law_due.nd ae_dictK)
    (ass_cons (as_set sc__law_due.nd (ae_lst aa_nil))
    (ass_cons (as_for ps rfl (ai_seq (av 2)) (ag_name sc__law_due.nd)
    (ass_cons (as_if (aw_at (aw_or (at_not (at_val (ae_callB b_isi T.n_isinstance bt_isinstance (aa_cons (av 5) (aa_cons (ae_ty T.n_tuple bt_tuple) aa_nil))))) (aw_or (at_cmp (o_ne (hu_64 hr)) (ae_callB b_len T.n_len bt_len (aa_cons (av 5) aa_nil)) ae_int) (aw_or1 (at_cmp (o_ne (hu_64 hr)) (ae_lc (own := [("part", 9)]) rfl sc__law_due.nd (ai_seq (av 5)) (by rfl) (fun _ _ _ _ _ => (agw_name sc__law_due.nd)) (fun _ _ _ _ _ => (ats_one (at_not (at_val (ae_call (ok__law_whole T) (hr.mono (by decide)) T.m__law_whole T.k__law_whole T.b__law_whole tk00 (aa_cons (av 9) aa_nil)))))) (fun _ _ _ _ _ => (av 9))) (ae_lst aa_nil)))))) (ass_one (as_ret ae_bl)) ass_nil)
    (ass_cons (as_if (aw_at (aw_or (at_cmp (o_notin (hu_65 hr)) (ae_ix (o_ix (hu_1 hr)) (av 5) ae_int) (ae_ix (o_ix (hu_1 hr)) (av 0) ae_int)) (aw_or1 (aw_at (aw_and (at_cmp (o_ne (hu_64 hr)) (av 4) (ae_lst aa_nil)) (aw_and1 (at_cmp o_ge (ae_ix (o_ix (hu_1 hr)) (av 4) (ae_un o_neg ae_int)) (ae_ix (o_ix (hu_1 hr)) (av 5) ae_int)))))))) (ass_one (as_ret ae_bl)) ass_nil)
    (ass_cons (as_expr (ae_bm PySem.F.plainAttrs_list PySem.F.slot_list_append PySem.F.type_list_append m_append (av 4) (aa_cons (ae_ix (o_ix (hu_1 hr)) (av 5) ae_int) aa_nil)))
    (ass_one (as_asg (ae_slice (av 5) (ao_some ae_int) ao_none) (ag_sub (av 3) (ae_ix (o_ix (hu_1 hr)) (av 5) ae_int) (o_set (hu_1 hr)))))))))
    (ass_cons (as_if (at_cmp (o_lt (hu_0 hr)) (ae_lenSet rfl T.n_len T.n_set (ae_lc (own := [("way", 10)]) rfl sc__law_due.nd (ai_seq (av 1)) (by rfl) (fun _ _ _ _ _ => (agw_name sc__law_due.nd)) (fun _ _ _ _ _ => ats_nil) (fun _ _ _ _ _ => (ae_ix (o_ix (hu_1 hr)) (av 10) ae_int)))) (ae_callB b_len T.n_len bt_len (aa_cons (av 1) aa_nil))) (ass_one (as_ret ae_bl)) ass_nil)
    (ass_cons (as_for ps rfl (ai_seq (av 1)) (ag_tup rfl (ags_cons (ag_name sc__law_due.nd) (ags_cons (ag_name sc__law_due.nd) (ags_cons (ag_name sc__law_due.nd) ags_nil))))
    (ass_cons (as_if (aw_at (aw_or (at_cmp (o_notin (hu_65 hr)) (av 7) (av 3)) (aw_or (at_cmp (o_notin (hu_65 hr)) (av 8) (av 3)) (aw_or1 (at_cmp (o_ne (hu_64 hr)) (ae_ix (o_ix (hu_1 hr)) (ae_ix (o_ix (hu_1 hr)) (av 3) (av 7)) ae_int) (ae_ix (o_ix (hu_1 hr)) (ae_ix (o_ix (hu_1 hr)) (av 3) (av 8)) ae_int)))))) (ass_one (as_ret ae_bl)) ass_nil)
    (ass_one (as_if (at_cmp (o_ne (hu_64 hr)) (ae_op o_sub (ae_ix (o_ix (hu_1 hr)) (ae_ix (o_ix (hu_1 hr)) (av 3) (av 7)) ae_int) (ae_ix (o_ix (hu_1 hr)) (ae_ix (o_ix (hu_1 hr)) (av 3) (av 8)) ae_int)) (ae_ix (o_ix (hu_1 hr)) (ae_ix (o_ix (hu_1 hr)) (ae_ix (o_ix (hu_1 hr)) (av 0) ae_int) (av 6)) ae_int)) (ass_one (as_ret ae_bl)) ass_nil))))
    (ass_one (as_ret ae_bl)))))))
theorem sc_ranks_in : FnScope N_ranks_in ["net", "some"] (defScope s_ranks_in) := ⟨rfl, rfl, rfl, by decide +kernel, rfl, by decide +kernel, by decide +kernel⟩
theorem ok_ranks_in (T : Txt K mg d) : FnOk P w K mg base (L2.CX P w) 3 d.f_ranks_in d.d_ranks_in ["net", "some"] (LSp K (p_ranks_in d.c)) := by
  refine fun_okA T.F_ranks_in sc_ranks_in (fun xs A k e h => h.1) (fun cdv A outer s H E hr => ?_) (fun xs A k e h => h.2)
  have tk : Takes (cxOf (L2.CX P w) P w K mg base N_ranks_in "ranks_in" (defScope s_ranks_in) d.f_ranks_in cdv A outer s H E) (fun cls d _ H => E cls d H) := takes_of rfl rfl rfl rfl
  have ps : PassesOwn (model (cxOf (L2.CX P w) P w K mg base N_ranks_in "ranks_in" (defScope s_ranks_in) d.f_ranks_in cdv A outer s H E).prog (cxOf (L2.CX P w) P w K mg base N_ranks_in "ranks_in" (defScope s_ranks_in) d.f_ranks_in cdv A outer s H E).w) (cxOf (L2.CX P w) P w K mg base N_ranks_in "ranks_in" (defScope s_ranks_in) d.f_ranks_in cdv A outer s H E).A (cxOf (L2.CX P w) P w K mg base N_ranks_in "ranks_in" (defScope s_ranks_in) d.f_ranks_in cdv A outer s H E).env (cxOf (L2.CX P w) P w K mg base N_ranks_in "ranks_in" (defScope s_ranks_in) d.f_ranks_in cdv A outer s H E).xe := passes_of rfl
  unfold r_ranks_in
  exact (ass_cons (as_set sc_ranks_in.nd ae_dictK)
    (ass_cons (as_set sc_ranks_in.nd (ae_un o_neg ae_int))
    (ass_cons (as_for ps rfl (ai_seq (av 1)) (ag_name sc_ranks_in.nd)
    (ass_cons (as_if (aw_at (aw_or (at_not (at_val (ae_call (ok_is_row T) (hr.mono (by decide)) T.m_is_row T.k_is_row T.b_is_row tk (aa_cons (av 4) aa_nil)))) (aw_or (at_cmp (o_notin (hu_65 hr)) (ae_ix (o_ix (hu_1 hr)) (av 4) ae_int) (ae_ix (o_ix (hu_1 hr)) (av 0) ae_int)) (aw_or1 (at_cmp o_le (ae_ix (o_ix (hu_1 hr)) (av 4) ae_int) (av 3)))))) (ass_one (as_ret ae_non)) ass_nil)
    (ass_cons (as_set sc_ranks_in.nd (ae_ix (o_ix (hu_1 hr)) (av 4) ae_int))
    (ass_one (as_asg (ae_tup (aa_cons (ae_ix (o_ix (hu_1 hr)) (av 4) ae_int) (aa_cons (ae_ix (o_ix (hu_1 hr)) (av 4) ae_int) aa_nil))) (ag_sub (av 2) (av 3) (o_set (hu_1 hr))))))))
    (ass_one (as_ret (av 2))))))
theorem sc_make_net : FnScope N_make_net ["bridges", "ties"] (defScope s_make_net) := ⟨rfl, rfl, rfl, by decide +kernel, rfl, by decide +kernel, by decide +kernel⟩
theorem ok_make_net (T : Txt K mg d) : FnOk P w K mg base (L2.CX P w) 3 d.f_make_net d.d_make_net ["bridges", "ties"] (LSp K (p_make_net d.c)) := by
  refine fun_okA T.F_make_net sc_make_net (fun xs A k e h => h.1) (fun cdv A outer s H E hr => ?_) (fun xs A k e h => h.2)
  have tk : Takes (cxOf (L2.CX P w) P w K mg base N_make_net "make_net" (defScope s_make_net) d.f_make_net cdv A outer s H E) (fun cls d _ H => E cls d H) := takes_of rfl rfl rfl rfl
  have ps : PassesOwn (model (cxOf (L2.CX P w) P w K mg base N_make_net "make_net" (defScope s_make_net) d.f_make_net cdv A outer s H E).prog (cxOf (L2.CX P w) P w K mg base N_make_net "make_net" (defScope s_make_net) d.f_make_net cdv A outer s H E).w) (cxOf (L2.CX P w) P w K mg base N_make_net "make_net" (defScope s_make_net) d.f_make_net cdv A outer s H E).A (cxOf (L2.CX P w) P w K mg base N_make_net "make_net" (defScope s_make_net) d.f_make_net cdv A outer s H E).env (cxOf (L2.CX P w) P w K mg base N_make_net "make_net" (defScope s_make_net) d.f_make_net cdv A outer s H E).xe := passes_of rfl
  unfold r_make_net
  exact (ass_cons (as_expr (ae_call (ok_need_bridges T) (hr.mono (by decide)) T.m_need_bridges T.k_need_bridges T.b_need_bridges tk (aa_cons (av 0) aa_nil)))
    (ass_cons (as_if (aw_at (aw_or (at_not (at_val (ae_callB b_isi T.n_isinstance bt_isinstance (aa_cons (av 1) (aa_cons (ae_ty T.n_list bt_list) aa_nil))))) (aw_or1 (at_cmp o_gtI (ae_callB b_len T.n_len bt_len (aa_cons (av 1) aa_nil)) (ae_gint T.g_MOST_TIES))))) (ass_one (as_raiseX rfl tk T.e_NoNet)) ass_nil)
    (ass_one (as_ret (ae_tup (aa_cons (ae_callTy b_tuple T.n_tuple bt_tuple (aa_cons (ae_callB b_sort T.n_sorted bt_sorted (aa_cons (av 0) aa_nil)) aa_nil)) (aa_cons (ae_callTy b_tuple T.n_tuple bt_tuple (aa_cons (ae_lc (own := [("thing", 2)]) rfl sc_make_net.nd (ai_seq (av 1)) (by rfl) (fun _ _ _ _ _ => (agw_name sc_make_net.nd)) (fun _ _ _ _ _ => ats_nil) (fun _ _ _ _ _ => (ae_call (ok_tie_of T) (hr.mono (by decide)) T.m_tie_of T.k_tie_of T.b_tie_of tk00 (aa_cons (av 0) (aa_cons (av 2) aa_nil))))) aa_nil)) aa_nil)))))))
theorem sc_is_ranked : FnScope N_is_ranked ["net", "ways", "some"] (defScope s_is_ranked) := ⟨rfl, rfl, rfl, by decide +kernel, rfl, by decide +kernel, by decide +kernel⟩
theorem ok_is_ranked (T : Txt K mg d) : FnOk P w K mg base (L2.CX P w) 4 d.f_is_ranked d.d_is_ranked ["net", "ways", "some"] (LSp K (p_is_ranked d.c)) := by
  refine fun_okA T.F_is_ranked sc_is_ranked (fun xs A k e h => h.1) (fun cdv A outer s H E hr => ?_) (fun xs A k e h => h.2)
  have tk : Takes (cxOf (L2.CX P w) P w K mg base N_is_ranked "is_ranked" (defScope s_is_ranked) d.f_is_ranked cdv A outer s H E) (fun cls d _ H => E cls d H) := takes_of rfl rfl rfl rfl
  have ps : PassesOwn (model (cxOf (L2.CX P w) P w K mg base N_is_ranked "is_ranked" (defScope s_is_ranked) d.f_is_ranked cdv A outer s H E).prog (cxOf (L2.CX P w) P w K mg base N_is_ranked "is_ranked" (defScope s_is_ranked) d.f_is_ranked cdv A outer s H E).w) (cxOf (L2.CX P w) P w K mg base N_is_ranked "is_ranked" (defScope s_is_ranked) d.f_is_ranked cdv A outer s H E).A (cxOf (L2.CX P w) P w K mg base N_is_ranked "is_ranked" (defScope s_is_ranked) d.f_is_ranked cdv A outer s H E).env (cxOf (L2.CX P w) P w K mg base N_is_ranked "is_ranked" (defScope s_is_ranked) d.f_is_ranked cdv A outer s H E).xe := passes_of rfl
  unfold r_is_ranked
  exact (ass_cons (as_set sc_is_ranked.nd (ae_call (ok_ranks_in T) (hr.mono (by decide)) T.m_ranks_in T.k_ranks_in T.b_ranks_in tk (aa_cons (av 0) (aa_cons (av 2) aa_nil))))
    (ass_cons (as_if (at_cmp o_is (av 3) ae_non) (ass_one (as_ret ae_bl)) ass_nil)
    (ass_cons (as_set sc_is_ranked.nd ae_dictK)
    (ass_cons (as_for ps rfl (ai_seq (av 1)) (ag_tup rfl (ags_cons (ag_name sc_is_ranked.nd) (ags_cons (ag_name sc_is_ranked.nd) (ags_cons (ag_name sc_is_ranked.nd) ags_nil))))
    (ass_cons (as_if (aw_at (aw_or (at_cmp (o_notin (hu_65 hr)) (av 6) (av 3)) (aw_or (at_cmp (o_notin (hu_65 hr)) (av 7) (av 3)) (aw_or1 (at_cmp (o_in (hu_65 hr)) (av 6) (av 4)))))) (ass_one (as_ret ae_bl)) ass_nil)
    (ass_cons (as_asg ae_bl (ag_sub (av 4) (av 6) (o_set (hu_1 hr))))
    (ass_cons (as_asg (ae_ix (o_ix (hu_1 hr)) (av 3) (av 7)) (ag_tup rfl (ags_cons (ag_name sc_is_ranked.nd) (ags_cons (ag_name sc_is_ranked.nd) ags_nil))))
    (ass_one (as_if (at_cmp (o_ne (hu_64 hr)) (ae_ix (o_ix (hu_1 hr)) (av 3) (av 6)) (ae_tup (aa_cons (av 8) (aa_cons (ae_op o_add (av 9) (ae_ix (o_ix (hu_1 hr)) (ae_ix (o_ix (hu_1 hr)) (ae_ix (o_ix (hu_1 hr)) (av 0) ae_int) (av 5)) ae_int)) aa_nil)))) (ass_one (as_ret ae_bl)) ass_nil))))))
    (ass_one (as_ret ae_bl))))))
theorem sc__law_net : FnScope N__law_net ["row"] (defScope s__law_net) := ⟨rfl, rfl, rfl, by decide +kernel, rfl, by decide +kernel, by decide +kernel⟩
theorem ok__law_net (T : Txt K mg d) : FnOk P w K mg base (L2.CX P w) 4 d.f__law_net d.d__law_net ["row"] (LSp K (p__law_net d.c)) := by
  refine fun_okA T.F__law_net sc__law_net (fun xs A k e h => h.1) (fun cdv A outer s H E hr => ?_) (fun xs A k e h => h.2)
  have tk : Takes (cxOf (L2.CX P w) P w K mg base N__law_net "_law_net" (defScope s__law_net) d.f__law_net cdv A outer s H E) (fun cls d _ H => E cls d H) := takes_of rfl rfl rfl rfl
  have ps : PassesOwn (model (cxOf (L2.CX P w) P w K mg base N__law_net "_law_net" (defScope s__law_net) d.f__law_net cdv A outer s H E).prog (cxOf (L2.CX P w) P w K mg base N__law_net "_law_net" (defScope s__law_net) d.f__law_net cdv A outer s H E).w) (cxOf (L2.CX P w) P w K mg base N__law_net "_law_net" (defScope s__law_net) d.f__law_net cdv A outer s H E).A (cxOf (L2.CX P w) P w K mg base N__law_net "_law_net" (defScope s__law_net) d.f__law_net cdv A outer s H E).env (cxOf (L2.CX P w) P w K mg base N__law_net "_law_net" (defScope s__law_net) d.f__law_net cdv A outer s H E).xe := passes_of rfl
  unfold r__law_net
  exact (ass_cons (as_set sc__law_net.nd (ae_op o_add ae_int (ae_call (ok__law_take T) (hr.mono (by decide)) T.m__law_take T.k__law_take T.b__law_take tk (aa_cons (av 0) (aa_cons ae_int aa_nil)))))
    (ass_cons (as_set sc__law_net.nd (ae_ix (o_ix (hu_1 hr)) (ae_lst (aa_cons ae_int (aa_cons ae_int (aa_cons ae_int (aa_cons ae_int aa_nil))))) (ae_call (ok__law_take T) (hr.mono (by decide)) T.m__law_take T.k__law_take T.b__law_take tk (aa_cons (av 0) (aa_cons ae_int aa_nil)))))
    (ass_cons (as_setLc (own := [("k", 5)]) rfl sc__law_net.nd (ai_range1 T.n_range (aa_cons (av 1) aa_nil)) (by rfl) (fun _ _ _ _ _ => (agw_name sc__law_net.nd)) (fun _ _ _ _ _ => ats_nil) (fun _ _ _ _ _ => (ae_op o_add (ae_op o_mul (av 2) (ae_op o_add (av 5) (ae_call (ok__law_take T) (hr.mono (by decide)) T.m__law_take T.k__law_take T.b__law_take tk00 (aa_cons (av 0) (aa_cons ae_int aa_nil))))) (ae_ix (o_ix (hu_1 hr)) (ae_lst (aa_cons ae_int (aa_cons ae_int aa_nil))) (ae_op o_div (av 2) ae_int)))) (sw_true rfl rfl rfl rfl))
    (ass_cons (as_set sc__law_net.nd (ae_sortedSet rfl T.n_sorted T.n_set (av 3)))
    (ass_cons (as_set sc__law_net.nd (ae_lst aa_nil))
    (ass_cons (as_for ps rfl (ai_range1 T.n_range (aa_cons (ae_call (ok__law_take T) (hr.mono (by decide)) T.m__law_take T.k__law_take T.b__law_take tk (aa_cons (av 0) (aa_cons ae_int aa_nil))) aa_nil)) (ag_name sc__law_net.nd)
    (ass_cons (as_set sc__law_net.nd (ae_ix (o_ix (hu_1 hr)) (av 3) (ae_call (ok__law_take T) (hr.mono (by decide)) T.m__law_take T.k__law_take T.b__law_take tk (aa_cons (av 0) (aa_cons (ae_callB b_len T.n_len bt_len (aa_cons (av 3) aa_nil)) aa_nil)))))
    (ass_cons (as_set sc__law_net.nd (ae_ix (o_ix (hu_1 hr)) (av 3) (ae_call (ok__law_take T) (hr.mono (by decide)) T.m__law_take T.k__law_take T.b__law_take tk (aa_cons (av 0) (aa_cons (ae_callB b_len T.n_len bt_len (aa_cons (av 3) aa_nil)) aa_nil)))))
    (ass_cons (as_set sc__law_net.nd (ae_ix (o_ix (hu_1 hr)) (ae_lst (aa_cons ae_int (aa_cons ae_int (aa_cons ae_int (aa_cons (ae_op o_add ae_int (ae_call (ok__law_take T) (hr.mono (by decide)) T.m__law_take T.k__law_take T.b__law_take tk (aa_cons (av 0) (aa_cons ae_int aa_nil)))) (aa_cons (ae_op o_add ae_int (ae_call (ok__law_take T) (hr.mono (by decide)) T.m__law_take T.k__law_take T.b__law_take tk (aa_cons (av 0) (aa_cons ae_int aa_nil)))) aa_nil)))))) (ae_call (ok__law_take T) (hr.mono (by decide)) T.m__law_take T.k__law_take T.b__law_take tk (aa_cons (av 0) (aa_cons ae_int aa_nil)))))
    (ass_one (as_if (at_cmp (o_ne (hu_64 hr)) (av 6) (av 7)) (ass_one (as_expr (ae_bm PySem.F.plainAttrs_list PySem.F.slot_list_append PySem.F.type_list_append m_append (av 4) (aa_cons (ae_tup (aa_cons (av 6) (aa_cons (av 7) (aa_cons (av 8) aa_nil)))) aa_nil)))) ass_nil))))))
    (ass_cons (as_for ps rfl (ai_range2 T.n_range (aa_cons ae_int (aa_cons (ae_callB b_len T.n_len bt_len (aa_cons (av 3) aa_nil)) aa_nil))) (ag_name sc__law_net.nd)
    (ass_one (as_if (at_cmp o_gtI (ae_call (ok__law_take T) (hr.mono (by decide)) T.m__law_take T.k__law_take T.b__law_take tk (aa_cons (av 0) (aa_cons ae_int aa_nil))) ae_int) (ass_one (as_expr (ae_bm PySem.F.plainAttrs_list PySem.F.slot_list_append PySem.F.type_list_append m_append (av 4) (aa_cons (ae_tup (aa_cons (ae_ix (o_ix (hu_1 hr)) (av 3) (ae_call (ok__law_take T) (hr.mono (by decide)) T.m__law_take T.k__law_take T.b__law_take tk (aa_cons (av 0) (aa_cons (av 5) aa_nil)))) (aa_cons (ae_ix (o_ix (hu_1 hr)) (av 3) (av 5)) (aa_cons (ae_op o_add ae_int (ae_call (ok__law_take T) (hr.mono (by decide)) T.m__law_take T.k__law_take T.b__law_take tk (aa_cons (av 0) (aa_cons ae_int aa_nil)))) aa_nil)))) aa_nil)))) ass_nil)))
    (ass_one (as_ret (ae_call (ok_make_net T) (hr.mono (by decide)) T.m_make_net T.k_make_net T.b_make_net tk (aa_cons (av 3) (aa_cons (av 4) aa_nil))))))))))))
theorem sc_law : FnScope N_law ["script"] (defScope s_law) := ⟨rfl, rfl, rfl, by decide +kernel, rfl, by decide +kernel, by decide +kernel⟩
theorem ok_law (T : Txt K mg d) : FnOk P w K mg base (L2.CX P w) 5 d.f_law d.d_law ["script"] (LSp K (p_law d.c)) := by
  refine fun_okA T.F_law sc_law (fun xs A k e h => h.1) (fun cdv A outer s H E hr => ?_) (fun xs A k e h => h.2)
  have tk : Takes (cxOf (L2.CX P w) P w K mg base N_law "law" (defScope s_law) d.f_law cdv A outer s H E) (fun cls d _ H => E cls d H) := takes_of rfl rfl rfl rfl
  have ps : PassesOwn (model (cxOf (L2.CX P w) P w K mg base N_law "law" (defScope s_law) d.f_law cdv A outer s H E).prog (cxOf (L2.CX P w) P w K mg base N_law "law" (defScope s_law) d.f_law cdv A outer s H E).w) (cxOf (L2.CX P w) P w K mg base N_law "law" (defScope s_law) d.f_law cdv A outer s H E).A (cxOf (L2.CX P w) P w K mg base N_law "law" (defScope s_law) d.f_law cdv A outer s H E).env (cxOf (L2.CX P w) P w K mg base N_law "law" (defScope s_law) d.f_law cdv A outer s H E).xe := passes_of rfl
  unfold r_law
  exact (ass_cons (as_for ps rfl (ai_seq (ae_op o_add (ae_slice (av 0) ao_none (ao_some ae_int)) (ae_lst (aa_cons ae_int aa_nil)))) (ag_name sc_law.nd)
    (ass_cons (as_set sc_law.nd (ae_call (ok__law_row T) (hr.mono (by decide)) T.m__law_row T.k__law_row T.b__law_row tk (aa_cons (av 1) aa_nil)))
    (ass_cons (as_set sc_law.nd (ae_call (ok__law_net T) (hr.mono (by decide)) T.m__law_net T.k__law_net T.b__law_net tk (aa_cons (av 2) aa_nil)))
    (ass_cons (as_set sc_law.nd (ae_call (ok__law_made_ways T) (hr.mono (by decide)) T.m__law_made_ways T.k__law_made_ways T.b__law_made_ways tk (aa_cons (av 2) (aa_cons (av 3) aa_nil))))
    (ass_cons (as_set sc_law.nd (ae_call (ok__law_spoilt T) (hr.mono (by decide)) T.m__law_spoilt T.k__law_spoilt T.b__law_spoilt tk (aa_cons (av 2) (aa_cons (av 3) (aa_cons (ae_call (ok__law_fitted T) (hr.mono (by decide)) T.m__law_fitted T.k__law_fitted T.b__law_fitted tk (aa_cons (av 2) (aa_cons (av 3) (aa_cons (av 4) aa_nil)))) aa_nil)))))
    (ass_cons (as_set sc_law.nd (ae_tup (aa_cons (ae_callTy b_list T.n_list bt_list (aa_cons (av 4) aa_nil)) (aa_cons (ae_callTy b_list T.n_list bt_list (aa_cons (av 5) aa_nil)) aa_nil))))
    (ass_cons (as_set sc_law.nd (ae_call (ok_is_ranked T) (hr.mono (by decide)) T.m_is_ranked T.k_is_ranked T.b_is_ranked tk (aa_cons (av 3) (aa_cons (ae_ix (o_ix (hu_1 hr)) (av 6) ae_int) (aa_cons (ae_ix (o_ix (hu_1 hr)) (av 6) ae_int) aa_nil)))))
    (ass_one (as_if (aw_at (aw_or (at_not (at_val (ae_callB b_isi T.n_isinstance bt_isinstance (aa_cons (av 7) (aa_cons (ae_ty T.n_bool bt_bool) aa_nil))))) (aw_or (at_cmp (o_ne (hu_64 hr)) (av 7) (ae_call (ok__law_due T) (hr.mono (by decide)) T.m__law_due T.k__law_due T.b__law_due tk (aa_cons (av 3) (aa_cons (av 4) (aa_cons (av 5) aa_nil))))) (aw_or1 (at_cmp (o_ne (hu_64 hr)) (av 6) (ae_tup (aa_cons (av 4) (aa_cons (av 5) aa_nil)))))))) (ass_one (as_ret ae_bl)) ass_nil)))))))))
    (ass_one (as_ret ae_bl)))
end
end K34

set_option Elab.async false
set_option linter.all false
set_option maxRecDepth 100000
set_option maxHeartbeats 400000
namespace K34
open PySem PySem.Spec PyProof.Rows L2 Aw
/-! ### the row of draws -/
theorem pow1018 : CPow 10 18 := by unfold CPow; decide
theorem cmul31 {a b : Int} (ha : 0 ≤ a) (ha2 : a < 2147483587) (hb : 0 ≤ b) (hb2 : b < 2147483587) : CMulW a b :=
  wide_mul (a := 31) (b := 31) (by omega) (by omega) (by omega) (by omega) (by omega)
theorem cdiv31 {a m : Int} (hm : 0 < m) (h : m < 2147483648) : CDivW a m := wide_div (b := 31) hm (by omega) (by omega) (by omega)
/-- a row of draws at p -/
def RowAt (A : AH) (p : Addr) : Prop := ∃ a b : Int, A p = some (.lst [.int a, .int b]) ∧ 0 ≤ b ∧ b < 2147483587
/-- all that stood stands, but at p, where a row of draws stands -/
structure Drawn (p : Addr) (A A' : AH) : Prop where
  ext : ExtB p A A'
  row : RowAt A' p
theorem RowAt.put {A : AH} {p : Addr} {a b : Int} (h : 0 ≤ b) (h' : b < 2147483587) : RowAt (put A p (.lst [.int a, .int b])) p := ⟨a, b, put_same, h, h'⟩
theorem q_take {c : Cl} {p : Addr} {m : Int} {A : AH} {k : AK} {e : Value → AH → Prop} (hA : RowAt A p) (hm : 0 < m) (hm2 : m < 2147483648)
    (h : ∀ (t : Int) A', 0 ≤ t → t < m → Drawn p A A' → k (.int t) A') : p__law_take c [.ref p, .int m] A k e := by
  obtain ⟨a, b, hA, hb, hb2⟩ := hA
  refine ⟨rfl, ?_⟩
  show r__law_take c _ _ [some (.ref p), some (.int m), none] A
  unfold r__law_take
  simp only [x_seq, x_next, x_break, x_cont, x_drop, x_ret, x_retN, x_if, x_asg, x_for, x_raise, x_gname, x_gnil, x_gcons, x_gtup, x_gsub, x_c, x_op, x_un, x_chain, x_cb, x_call, x_bm, x_tup, x_lst, x_andV, x_orV, x_notV, x_ifE, x_sl, x_lc, x_dictK, x_dictT, x_rev, x_b, x_and, x_or, x_not, x_yes, x_nil, x_cons, x_part, x_noPart, x_iter, x_rng1, x_rng2, x_enum, aVar0, aVarS, onBl, onInt, onRef, onStr, onTup, on1, on2, List.set_cons_zero, List.set_cons_succ, rI2, rSubA, rMulA, rDivA, rModA, rPowA, rLeI, rGeI, rLtI, rGtI, rNegA, e_ixr, e_ixt, e_ixs, e_ixf, e_at0, e_at1, e_at2, onO_some, e_setr, e_ix2_0, e_ix2_1, e_ix3_0, e_ix3_1, e_ix3_2, e_addI, e_addT, e_addL, e_eqI, e_eqS, e_eqB, e_eqT, e_eqR, e_ltI, e_isN, e_lenR, e_lenT, e_lenF, e_listR, e_listT, e_isi_int, e_isi_bool, e_isi_str, e_isi_tuple, e_isi_list, e_intI, e_intB, e_seqT, e_seqF, e_slT, e_slF, e_slR, e_isL, put_same, put_put, List.length_cons, List.length_nil, Nat.zero_add, Nat.reduceAdd, true_and, and_true, if_true, e_tupleT, wipe_l, wipe_n, rEqA, rNeA, rCmpA, hA]
  refine ⟨pow1018, ?_⟩
  have e1 : ∀ x : Int, 0 ≤ x % 2147483587 ∧ x % 2147483587 < 2147483587 := fun x => ⟨Int.emod_nonneg _ (by decide), Int.emod_lt_of_pos _ (by decide)⟩
  have e2 : ∀ x : Int, 0 ≤ x % m ∧ x % m < m := fun x => ⟨Int.emod_nonneg _ (by omega), Int.emod_lt_of_pos _ hm⟩
  split
  · exact ⟨hm, cdiv31 hm hm2, h _ _ (e2 _).1 (e2 _).2 ⟨.wr, .put hb hb2⟩⟩
  · exact ⟨cmul31 hb hb2 hb hb2, cmul31 (by decide) (by decide) hb hb2, by decide, cdiv31 (by decide) (by decide), hm, h _ _ (e2 _).1 (e2 _).2 ⟨.wr, .put (e1 _).1 (e1 _).2⟩⟩
theorem q_row {c : Cl} {n : Int} {A : AH} {k : AK} {e : Value → AH → Prop} (h : ∀ p, A p = none → k (.ref p) (put A p (.lst [.int n, .int (n % 2147483587)]))) : p__law_row c [.int n] A k e := by
  refine ⟨rfl, ?_⟩
  show r__law_row c _ _ [some (.int n)] A
  unfold r__law_row
  simp only [x_seq, x_next, x_break, x_cont, x_drop, x_ret, x_retN, x_if, x_asg, x_for, x_raise, x_gname, x_gnil, x_gcons, x_gtup, x_gsub, x_c, x_op, x_un, x_chain, x_cb, x_call, x_bm, x_tup, x_lst, x_andV, x_orV, x_notV, x_ifE, x_sl, x_lc, x_dictK, x_dictT, x_rev, x_b, x_and, x_or, x_not, x_yes, x_nil, x_cons, x_part, x_noPart, x_iter, x_rng1, x_rng2, x_enum, aVar0, aVarS, onBl, onInt, onRef, onStr, onTup, on1, on2, List.set_cons_zero, List.set_cons_succ, rI2, rSubA, rMulA, rDivA, rModA, rPowA, rLeI, rGeI, rLtI, rGtI, rNegA, e_ixr, e_ixt, e_ixs, e_ixf, e_at0, e_at1, e_at2, onO_some, e_setr, e_ix2_0, e_ix2_1, e_ix3_0, e_ix3_1, e_ix3_2, e_addI, e_addT, e_addL, e_eqI, e_eqS, e_eqB, e_eqT, e_eqR, e_ltI, e_isN, e_lenR, e_lenT, e_lenF, e_listR, e_listT, e_isi_int, e_isi_bool, e_isi_str, e_isi_tuple, e_isi_list, e_intI, e_intB, e_seqT, e_seqF, e_slT, e_slF, e_slR, e_isL, put_same, put_put, List.length_cons, List.length_nil, Nat.zero_add, Nat.reduceAdd, true_and, and_true, if_true, e_tupleT, wipe_l, wipe_n, rEqA, rNeA, rCmpA]
  exact ⟨by decide, by decide, h⟩
/-! ### whole numbers -/
def whole : AV → Bool
  | .int _ => true
  | _ => false
theorem whole_ty {A : AH} {x : AV} {t : Ty0} (h : tyA A x = some t) : (t.sub .int && !(t.sub .bl)) = whole x := by
  cases x with
  | int i => cases h; rfl
  | ref p =>
    have h' : (match A p with
      | some (.lst _) => some .lst
      | some (.dK _) => some .dct
      | some (.dT _) => some .dct
      | _ => (none : Option Ty0)) = some t := h
    split at h' <;> cases h' <;> rfl
  | raw _ => cases h
  | _ => cases h; rfl
theorem q_whole {c : Cl} {x : AV} {t : Ty0} {A : AH} {k : AK} {e : Value → AH → Prop} (ht : tyA A x = some t) (h : k (.bl (whole x)) A) : p_is_whole c [x] A k e := by
  refine ⟨rfl, ?_⟩
  show r_is_whole c _ _ [some x] A
  unfold r_is_whole
  rw [← whole_ty ht] at h
  simp only [x_seq, x_next, x_break, x_cont, x_drop, x_ret, x_retN, x_if, x_asg, x_for, x_raise, x_gname, x_gnil, x_gcons, x_gtup, x_gsub, x_c, x_op, x_un, x_chain, x_cb, x_call, x_bm, x_tup, x_lst, x_andV, x_orV, x_notV, x_ifE, x_sl, x_lc, x_dictK, x_dictT, x_rev, x_b, x_and, x_or, x_not, x_yes, x_nil, x_cons, x_part, x_noPart, x_iter, x_rng1, x_rng2, x_enum, aVar0, aVarS, onBl, onInt, onRef, onStr, onTup, on1, on2, List.set_cons_zero, List.set_cons_succ, rI2, rSubA, rMulA, rDivA, rModA, rPowA, rLeI, rGeI, rLtI, rGtI, rNegA, e_ixr, e_ixt, e_ixs, e_ixf, e_at0, e_at1, e_at2, onO_some, e_setr, e_ix2_0, e_ix2_1, e_ix3_0, e_ix3_1, e_ix3_2, e_addI, e_addT, e_addL, e_eqI, e_eqS, e_eqB, e_eqT, e_eqR, e_ltI, e_isN, e_lenR, e_lenT, e_lenF, e_listR, e_listT, e_isi_int, e_isi_bool, e_isi_str, e_isi_tuple, e_isi_list, e_intI, e_intB, e_seqT, e_seqF, e_slT, e_slF, e_slR, e_isL, put_same, put_put, List.length_cons, List.length_nil, Nat.zero_add, Nat.reduceAdd, true_and, and_true, if_true, e_tupleT, wipe_l, wipe_n, rEqA, rNeA, rCmpA, ht]
  cases z : t.sub .int <;> simp only [z, Bool.false_and, Bool.true_and] at h ⊢ <;> exact h
theorem q_lwhole {c : Cl} {x : AV} {t : Ty0} {A : AH} {k : AK} {e : Value → AH → Prop} (ht : tyA A x = some t) (h : k (.bl (whole x)) A) : p__law_whole c [x] A k e := q_whole (c := c) ht h
theorem q_within {c : Cl} {n lo hi : Int} {A : AH} {k : AK} {e : Value → AH → Prop} (h1 : lo ≤ n) (h2 : n ≤ hi) (h : k (.bl true) A) : p_is_within c [.int n, .int lo, .int hi] A k e := by
  refine ⟨rfl, ?_⟩
  show r_is_within c _ _ [some (.int n), some (.int lo), some (.int hi)] A
  unfold r_is_within
  simp only [x_seq, x_next, x_break, x_cont, x_drop, x_ret, x_retN, x_if, x_asg, x_for, x_raise, x_gname, x_gnil, x_gcons, x_gtup, x_gsub, x_c, x_op, x_un, x_chain, x_cb, x_call, x_bm, x_tup, x_lst, x_andV, x_orV, x_notV, x_ifE, x_sl, x_lc, x_dictK, x_dictT, x_rev, x_b, x_and, x_or, x_not, x_yes, x_nil, x_cons, x_part, x_noPart, x_iter, x_rng1, x_rng2, x_enum, aVar0, aVarS, onBl, onInt, onRef, onStr, onTup, on1, on2, List.set_cons_zero, List.set_cons_succ, rI2, rSubA, rMulA, rDivA, rModA, rPowA, rLeI, rGeI, rLtI, rGtI, rNegA, e_ixr, e_ixt, e_ixs, e_ixf, e_at0, e_at1, e_at2, onO_some, e_setr, e_ix2_0, e_ix2_1, e_ix3_0, e_ix3_1, e_ix3_2, e_addI, e_addT, e_addL, e_eqI, e_eqS, e_eqB, e_eqT, e_eqR, e_ltI, e_isN, e_lenR, e_lenT, e_lenF, e_listR, e_listT, e_isi_int, e_isi_bool, e_isi_str, e_isi_tuple, e_isi_list, e_intI, e_intB, e_seqT, e_seqF, e_slT, e_slF, e_slR, e_isL, put_same, put_put, List.length_cons, List.length_nil, Nat.zero_add, Nat.reduceAdd, true_and, and_true, if_true, e_tupleT, wipe_l, wipe_n, rEqA, rNeA, rCmpA, tyA, Ty0.sub, h1, h2]
  simpa using h
end K34

set_option Elab.async false
set_option linter.all false
set_option maxRecDepth 100000
set_option maxHeartbeats 400000
namespace K34
open PySem PySem.Spec PyProof.Rows L2 Aw
/-! ### what stands in a list of rows -/
def Prim (x : AV) : Prop := (∃ i, x = .int i) ∨ (∃ b, x = .bl b) ∨ x = .non ∨ x = .str "1"
theorem Prim.ty {x : AV} (h : Prim x) (A : AH) : ∃ t, tyA A x = some t := by
  rcases h with ⟨i, rfl⟩ | ⟨i, rfl⟩ | rfl | rfl <;> exact ⟨_, rfl⟩
theorem Prim.dat {x : AV} (h : Prim x) (A : AH) (n : Nat) : Dat A n x := by
  rcases h with ⟨i, rfl⟩ | ⟨i, rfl⟩ | rfl | rfl
  · exact .int i
  · exact .bl i
  · exact .non
  · exact .str (by decide +kernel)
def Item (A : AH) (x : AV) : Prop := x = .non ∨ (∃ xs, x = .tup xs ∧ xs.length ≤ 10 ∧ ∀ y ∈ xs, Prim y) ∨ ∃ (q : Addr) (ns : List Int), x = .ref q ∧ A q = some (.lst (ns.map AV.int))
theorem Item.keep {A B : AH} {x : AV} (h : Item A x) (s : Ext A B) : Item B x := by
  rcases h with h | h | ⟨q, ns, h1, h2⟩
  · exact .inl h
  · exact .inr (.inl h)
  · exact .inr (.inr ⟨q, ns, h1, s q _ h2⟩)
def rowB : AV → Bool
  | .tup [.int _, .int _, .int _] => true
  | _ => false
theorem rowB_tup {xs : List AV} : rowB (.tup xs) = (decide (xs.length = 3) && xs.all whole) := by
  unfold rowB
  match xs with
  | [] => rfl
  | [_] => simp
  | [_, _] => simp
  | [a, b, c] => cases a <;> first | rfl | (cases b <;> first | rfl | (cases c <;> rfl))
  | _ :: _ :: _ :: _ :: r => simp
theorem lenS {n : Nat} (h : n ≤ 100000) : n ≤ sizeLine := Nat.le_trans h (by rw [sizeLine_eq]; decide)
theorem take_map {α β : Type} {f : α → β} {xs : List α} {i : Nat} {x : α} (h : xs[i]? = some x) : (xs.take (i + 1)).map f = (xs.take i).map f ++ [f x] := by
  rw [List.take_add_one, h, List.map_append]
  rfl
theorem q_is_row {c : Cl} {x : AV} {A : AH} {k : AK} {e : Value → AH → Prop} (hx : Item A x) (h : ∀ A', Ext A A' → k (.bl (rowB x)) A') : p_is_row c [x] A k e := by
  refine ⟨rfl, ?_⟩
  show r_is_row c _ _ [some x, none] A
  unfold r_is_row
  rcases hx with rfl | ⟨xs, rfl, hl, hp⟩ | ⟨q, ns, rfl, hq⟩
  · simp only [x_seq, x_next, x_break, x_cont, x_drop, x_ret, x_retN, x_if, x_asg, x_for, x_raise, x_gname, x_gnil, x_gcons, x_gtup, x_gsub, x_c, x_op, x_un, x_chain, x_cb, x_call, x_bm, x_tup, x_lst, x_andV, x_orV, x_notV, x_ifE, x_sl, x_lc, x_dictK, x_dictT, x_rev, x_b, x_and, x_or, x_not, x_yes, x_nil, x_cons, x_part, x_noPart, x_iter, x_rng1, x_rng2, x_enum, aVar0, aVarS, onBl, onInt, onRef, onStr, onTup, on1, on2, List.set_cons_zero, List.set_cons_succ, rI2, rSubA, rMulA, rDivA, rModA, rPowA, rLeI, rGeI, rLtI, rGtI, rNegA, e_ixr, e_ixt, e_ixs, e_ixf, e_at0, e_at1, e_at2, onO_some, e_setr, e_ix2_0, e_ix2_1, e_ix3_0, e_ix3_1, e_ix3_2, e_addI, e_addT, e_addL, e_eqI, e_eqS, e_eqB, e_eqT, e_eqR, e_ltI, e_isN, e_lenR, e_lenT, e_lenF, e_listR, e_listT, e_isi_int, e_isi_bool, e_isi_str, e_isi_tuple, e_isi_list, e_intI, e_intB, e_seqT, e_seqF, e_slT, e_slF, e_slR, e_isL, put_same, put_put, List.length_cons, List.length_nil, Nat.zero_add, Nat.reduceAdd, true_and, and_true, if_true, e_tupleT, wipe_l, wipe_n, rEqA, rNeA, rCmpA, tyA, Ty0.sub]
    exact h A (.refl A)
  · simp only [x_seq, x_next, x_break, x_cont, x_drop, x_ret, x_retN, x_if, x_asg, x_for, x_raise, x_gname, x_gnil, x_gcons, x_gtup, x_gsub, x_c, x_op, x_un, x_chain, x_cb, x_call, x_bm, x_tup, x_lst, x_andV, x_orV, x_notV, x_ifE, x_sl, x_lc, x_dictK, x_dictT, x_rev, x_b, x_and, x_or, x_not, x_yes, x_nil, x_cons, x_part, x_noPart, x_iter, x_rng1, x_rng2, x_enum, aVar0, aVarS, onBl, onInt, onRef, onStr, onTup, on1, on2, List.set_cons_zero, List.set_cons_succ, rI2, rSubA, rMulA, rDivA, rModA, rPowA, rLeI, rGeI, rLtI, rGtI, rNegA, e_ixr, e_ixt, e_ixs, e_ixf, e_at0, e_at1, e_at2, onO_some, e_setr, e_ix2_0, e_ix2_1, e_ix3_0, e_ix3_1, e_ix3_2, e_addI, e_addT, e_addL, e_eqI, e_eqS, e_eqB, e_eqT, e_eqR, e_ltI, e_isN, e_lenR, e_lenT, e_lenF, e_listR, e_listT, e_isi_int, e_isi_bool, e_isi_str, e_isi_tuple, e_isi_list, e_intI, e_intB, e_seqT, e_seqF, e_slT, e_slF, e_slR, e_isL, put_same, put_put, List.length_cons, List.length_nil, Nat.zero_add, Nat.reduceAdd, true_and, and_true, if_true, e_tupleT, wipe_l, wipe_n, rEqA, rNeA, rCmpA, tyA, Ty0.sub]
    have e0 : rowB (.tup xs) = (decide (xs.length = 3) && xs.all whole) := rowB_tup
    by_cases h3 : xs.length = 3
    · simp [h3]
      intro D hD
      refine lc_inv (fun i acc A' => acc = (xs.take i).map (fun y => AV.bl (whole y)) ∧ Ext A A') (lenS (by omega)) put_same ⟨rfl, .new hD⟩ (fun _ _ _ _ _ _ => trivial) (fun i y acc A2 Y N hy hD2 hP hY hN => ?_) (fun acc A2 hD2 hP => ?_)
      · obtain ⟨h1, h2⟩ := hP
        obtain ⟨t, ht⟩ := (hp y (List.mem_of_getElem? hy)).ty A2
        simp only [x_seq, x_next, x_break, x_cont, x_drop, x_ret, x_retN, x_if, x_asg, x_for, x_raise, x_gname, x_gnil, x_gcons, x_gtup, x_gsub, x_c, x_op, x_un, x_chain, x_cb, x_call, x_bm, x_tup, x_lst, x_andV, x_orV, x_notV, x_ifE, x_sl, x_lc, x_dictK, x_dictT, x_rev, x_b, x_and, x_or, x_not, x_yes, x_nil, x_cons, x_part, x_noPart, x_iter, x_rng1, x_rng2, x_enum, aVar0, aVarS, onBl, onInt, onRef, onStr, onTup, on1, on2, List.set_cons_zero, List.set_cons_succ, rI2, rSubA, rMulA, rDivA, rModA, rPowA, rLeI, rGeI, rLtI, rGtI, rNegA, e_ixr, e_ixt, e_ixs, e_ixf, e_at0, e_at1, e_at2, onO_some, e_setr, e_ix2_0, e_ix2_1, e_ix3_0, e_ix3_1, e_ix3_2, e_addI, e_addT, e_addL, e_eqI, e_eqS, e_eqB, e_eqT, e_eqR, e_ltI, e_isN, e_lenR, e_lenT, e_lenF, e_listR, e_listT, e_isi_int, e_isi_bool, e_isi_str, e_isi_tuple, e_isi_list, e_intI, e_intB, e_seqT, e_seqF, e_slT, e_slF, e_slR, e_isL, put_same, put_put, List.length_cons, List.length_nil, Nat.zero_add, Nat.reduceAdd, true_and, and_true, if_true, e_tupleT, wipe_l, wipe_n, rEqA, rNeA, rCmpA, wipeA]
        refine q_whole ht (hY _ _ hD2 ⟨by rw [take_map hy, h1], h2.putn hD⟩)
      · obtain ⟨h1, h2⟩ := hP
        rw [List.take_length] at h1
        refine e_all (bs := xs.map whole) (by rw [hD2, h1, List.map_map]; rfl) ?_
        have := h _ h2
        rw [e0, h3] at this
        simpa [List.all_map] using this
    · have e1 : decide ((xs.length : Int) = 3) = false := by simp; omega
      simp [e1]
      have := h A (.refl A)
      rw [e0] at this
      simpa [h3] using this
  · simp only [x_seq, x_next, x_break, x_cont, x_drop, x_ret, x_retN, x_if, x_asg, x_for, x_raise, x_gname, x_gnil, x_gcons, x_gtup, x_gsub, x_c, x_op, x_un, x_chain, x_cb, x_call, x_bm, x_tup, x_lst, x_andV, x_orV, x_notV, x_ifE, x_sl, x_lc, x_dictK, x_dictT, x_rev, x_b, x_and, x_or, x_not, x_yes, x_nil, x_cons, x_part, x_noPart, x_iter, x_rng1, x_rng2, x_enum, aVar0, aVarS, onBl, onInt, onRef, onStr, onTup, on1, on2, List.set_cons_zero, List.set_cons_succ, rI2, rSubA, rMulA, rDivA, rModA, rPowA, rLeI, rGeI, rLtI, rGtI, rNegA, e_ixr, e_ixt, e_ixs, e_ixf, e_at0, e_at1, e_at2, onO_some, e_setr, e_ix2_0, e_ix2_1, e_ix3_0, e_ix3_1, e_ix3_2, e_addI, e_addT, e_addL, e_eqI, e_eqS, e_eqB, e_eqT, e_eqR, e_ltI, e_isN, e_lenR, e_lenT, e_lenF, e_listR, e_listT, e_isi_int, e_isi_bool, e_isi_str, e_isi_tuple, e_isi_list, e_intI, e_intB, e_seqT, e_seqF, e_slT, e_slF, e_slR, e_isL, put_same, put_put, List.length_cons, List.length_nil, Nat.zero_add, Nat.reduceAdd, true_and, and_true, if_true, e_tupleT, wipe_l, wipe_n, rEqA, rNeA, rCmpA, tyA, Ty0.sub, hq]
    exact h A (.refl A)
end K34

set_option Elab.async false
set_option linter.all false
set_option maxRecDepth 100000
set_option maxHeartbeats 400000
namespace K34
open PySem PySem.Spec PyProof.Rows L2 Aw
/-! ### the rows read -/
abbrev R3 := Int × Int × Int
def rowT : AV → Option R3
  | .tup [.int a, .int b, .int c] => some (a, b, c)
  | _ => none
theorem rowT_B {x : AV} : (rowB x = true → ∃ a b c, x = .tup [.int a, .int b, .int c] ∧ rowT x = some (a, b, c)) ∧ (rowB x = false → rowT x = none) := by
  unfold rowB rowT
  split
  · exact ⟨fun _ => ⟨_, _, _, rfl, rfl⟩, fun h => by cases h⟩
  · rename_i hn
    refine ⟨fun h => (by cases h), fun _ => ?_⟩
    first | rfl | (split <;> first | rfl | exact (hn _ _ _ rfl).elim)
def ranksF (bs : List Int) : List AV → Int → List R3 → Option (List R3)
  | [], _, rs => some rs
  | x :: xs, last, rs => match rowT x with
    | some (a, b, c) => if a ∈ bs ∧ last < a then ranksF bs xs a (rs ++ [(a, b, c)]) else none
    | none => none
def kvF (r : R3) : Key × AV := (.inl r.1, .tup [.int r.2.1, .int r.2.2])
theorem putA_new {rs : List R3} {a b c : Int} (h : ∀ r ∈ rs, r.1 < a) : putA (rs.map kvF) (.inl a) (.tup [.int b, .int c]) = (rs ++ [(a, b, c)]).map kvF := by
  unfold putA
  rw [if_neg]
  · rw [List.map_append]; rfl
  · intro z
    rw [List.any_eq_true] at z
    obtain ⟨p, hp, e⟩ := z
    obtain ⟨r, hr, rfl⟩ := List.mem_map.mp hp
    have := h r hr
    have e2 : (Sum.inl r.1 : Key) = .inl a := by simpa [kvF] using e
    cases e2
    omega
theorem lenS' {n : Nat} (h : n < 100000) : n < sizeLine := Nat.lt_of_lt_of_le h (by rw [sizeLine_eq]; decide)
/-- a net -/
def netV (bs : List Int) (ts : List R3) : AV := .tup [.tup (bs.map AV.int), .tup (ts.map fun t => .tup [.int t.1, .int t.2.1, .int t.2.2])]
theorem wkv {A : AH} {d : Addr} {o u : AO} : put (put A d o) d u = put A d u := put_put
theorem q_ranks_in {c : Cl} {bs : List Int} {ts : List R3} {s : Addr} {xs : List AV} {A : AH} {k : AK} {e : Value → AH → Prop} (hs : A s = some (.lst xs)) (hl : xs.length ≤ 100) (hx : ∀ x ∈ xs, Item A x)
    (h : ∀ A' v, Ext A A' → (match ranksF bs xs (-1) [] with
      | none => v = .non
      | some rs => ∃ d, v = .ref d ∧ A d = none ∧ A' d = some (.dK (rs.map kvF))) → k v A') : p_ranks_in c [netV bs ts, .ref s] A k e := by
  refine ⟨rfl, ?_⟩
  show r_ranks_in c _ _ [some (netV bs ts), some (.ref s), none, none, none] A
  unfold r_ranks_in
  simp only [x_seq, x_next, x_break, x_cont, x_drop, x_ret, x_retN, x_if, x_asg, x_for, x_raise, x_gname, x_gnil, x_gcons, x_gtup, x_gsub, x_c, x_op, x_un, x_chain, x_cb, x_call, x_bm, x_tup, x_lst, x_andV, x_orV, x_notV, x_ifE, x_sl, x_lc, x_dictK, x_dictT, x_rev, x_b, x_and, x_or, x_not, x_yes, x_nil, x_cons, x_part, x_noPart, x_iter, x_rng1, x_rng2, x_enum, aVar0, aVarS, onBl, onInt, onRef, onStr, onTup, on1, on2, List.set_cons_zero, List.set_cons_succ, rI2, rSubA, rMulA, rDivA, rModA, rPowA, rLeI, rGeI, rLtI, rGtI, rNegA, e_ixr, e_ixt, e_ixs, e_ixf, e_at0, e_at1, e_at2, onO_some, e_setr, e_ix2_0, e_ix2_1, e_ix3_0, e_ix3_1, e_ix3_2, e_addI, e_addT, e_addL, e_eqI, e_eqS, e_eqB, e_eqT, e_eqR, e_ltI, e_isN, e_lenR, e_lenT, e_lenF, e_listR, e_listT, e_isi_int, e_isi_bool, e_isi_str, e_isi_tuple, e_isi_list, e_intI, e_intB, e_seqT, e_seqF, e_slT, e_slF, e_slR, e_isL, put_same, put_put, List.length_cons, List.length_nil, Nat.zero_add, Nat.reduceAdd, true_and, and_true, if_true, e_tupleT, wipe_l, wipe_n, rEqA, rNeA, rCmpA]
  intro d hd
  have hs1 : ∀ o, put A d o s = some (.lst xs) := fun o => by rw [put_ne (ane hs hd)]; exact hs
  simp only [x_seq, x_next, x_break, x_cont, x_drop, x_ret, x_retN, x_if, x_asg, x_for, x_raise, x_gname, x_gnil, x_gcons, x_gtup, x_gsub, x_c, x_op, x_un, x_chain, x_cb, x_call, x_bm, x_tup, x_lst, x_andV, x_orV, x_notV, x_ifE, x_sl, x_lc, x_dictK, x_dictT, x_rev, x_b, x_and, x_or, x_not, x_yes, x_nil, x_cons, x_part, x_noPart, x_iter, x_rng1, x_rng2, x_enum, aVar0, aVarS, onBl, onInt, onRef, onStr, onTup, on1, on2, List.set_cons_zero, List.set_cons_succ, rI2, rSubA, rMulA, rDivA, rModA, rPowA, rLeI, rGeI, rLtI, rGtI, rNegA, e_ixr, e_ixt, e_ixs, e_ixf, e_at0, e_at1, e_at2, onO_some, e_setr, e_ix2_0, e_ix2_1, e_ix3_0, e_ix3_1, e_ix3_2, e_addI, e_addT, e_addL, e_eqI, e_eqS, e_eqB, e_eqT, e_eqR, e_ltI, e_isN, e_lenR, e_lenT, e_lenF, e_listR, e_listT, e_isi_int, e_isi_bool, e_isi_str, e_isi_tuple, e_isi_list, e_intI, e_intB, e_seqT, e_seqF, e_slT, e_slF, e_slR, e_isL, put_same, put_put, List.length_cons, List.length_nil, Nat.zero_add, Nat.reduceAdd, true_and, and_true, if_true, e_tupleT, wipe_l, wipe_n, rEqA, rNeA, rCmpA, e_seqR (hs1 _)]
  refine loop_inv (fun i a A' => ∃ rs last r, a = [some (netV bs ts), some (.ref s), some (.ref d), some (.int last), r] ∧ A' d = some (.dK (rs.map kvF)) ∧ Ext A A' ∧ (∀ r ∈ rs, r.1 ≤ last) ∧
      ranksF bs xs (-1) [] = ranksF bs (xs.drop i) last rs ∧ rs.length ≤ i) ?_ ?_ ?_ ?_
  · exact ⟨[], -1, none, rfl, put_same, .new hd, by simp, rfl, Nat.le_refl _⟩
  · rintro i a A' hi ⟨rs, last, r, rfl, h1, h2, _⟩
    exact h2 s _ hs
  · rintro i x a A' hx' ⟨rs, last, r, rfl, h1, h2, h3, h4, h5⟩ D' hrt hbk hnx hct
    have hit := (hx x (List.mem_of_getElem? hx')).keep h2
    have hil := (List.getElem?_eq_some_iff.mp hx').1
    have hdr : xs.drop i = x :: xs.drop (i + 1) := by
      rw [List.drop_eq_getElem_cons hil, (List.getElem?_eq_some_iff.mp hx').2]
    rw [hdr] at h4
    simp only [x_seq, x_next, x_break, x_cont, x_drop, x_ret, x_retN, x_if, x_asg, x_for, x_raise, x_gname, x_gnil, x_gcons, x_gtup, x_gsub, x_c, x_op, x_un, x_chain, x_cb, x_call, x_bm, x_tup, x_lst, x_andV, x_orV, x_notV, x_ifE, x_sl, x_lc, x_dictK, x_dictT, x_rev, x_b, x_and, x_or, x_not, x_yes, x_nil, x_cons, x_part, x_noPart, x_iter, x_rng1, x_rng2, x_enum, aVar0, aVarS, onBl, onInt, onRef, onStr, onTup, on1, on2, List.set_cons_zero, List.set_cons_succ, rI2, rSubA, rMulA, rDivA, rModA, rPowA, rLeI, rGeI, rLtI, rGtI, rNegA, e_ixr, e_ixt, e_ixs, e_ixf, e_at0, e_at1, e_at2, onO_some, e_setr, e_ix2_0, e_ix2_1, e_ix3_0, e_ix3_1, e_ix3_2, e_addI, e_addT, e_addL, e_eqI, e_eqS, e_eqB, e_eqT, e_eqR, e_ltI, e_isN, e_lenR, e_lenT, e_lenF, e_listR, e_listT, e_isi_int, e_isi_bool, e_isi_str, e_isi_tuple, e_isi_list, e_intI, e_intB, e_seqT, e_seqF, e_slT, e_slF, e_slR, e_isL, put_same, put_put, List.length_cons, List.length_nil, Nat.zero_add, Nat.reduceAdd, true_and, and_true, if_true, e_tupleT, wipe_l, wipe_n, rEqA, rNeA, rCmpA]
    refine q_is_row hit fun A2 s2 => ?_
    have fin : ∀ A3, Ext A A3 → ranksF bs xs (-1) [] = none → D'.rt .non A3 := fun A3 s3 hn => by
      rw [hrt]
      exact h A3 .non s3 (by rw [hn])
    cases hb : rowB x with
    | false =>
      simp
      refine fin A2 (h2.trans s2) ?_
      rw [h4, ranksF, rowT_B.2 hb]
    | true =>
      obtain ⟨ra, rb, rc, rfl, hT⟩ := rowT_B.1 hb
      have hd2 : A2 d = some (.dK (rs.map kvF)) := s2 d _ h1
      rw [ranksF, hT] at h4
      simp [x_seq, x_next, x_break, x_cont, x_drop, x_ret, x_retN, x_if, x_asg, x_for, x_raise, x_gname, x_gnil, x_gcons, x_gtup, x_gsub, x_c, x_op, x_un, x_chain, x_cb, x_call, x_bm, x_tup, x_lst, x_andV, x_orV, x_notV, x_ifE, x_sl, x_lc, x_dictK, x_dictT, x_rev, x_b, x_and, x_or, x_not, x_yes, x_nil, x_cons, x_part, x_noPart, x_iter, x_rng1, x_rng2, x_enum, aVar0, aVarS, onBl, onInt, onRef, onStr, onTup, on1, on2, List.set_cons_zero, List.set_cons_succ, rI2, rSubA, rMulA, rDivA, rModA, rPowA, rLeI, rGeI, rLtI, rGtI, rNegA, e_ixr, e_ixt, e_ixs, e_ixf, e_at0, e_at1, e_at2, onO_some, e_setr, e_ix2_0, e_ix2_1, e_ix3_0, e_ix3_1, e_ix3_2, e_addI, e_addT, e_addL, e_eqI, e_eqS, e_eqB, e_eqT, e_eqR, e_ltI, e_isN, e_lenR, e_lenT, e_lenF, e_listR, e_listT, e_isi_int, e_isi_bool, e_isi_str, e_isi_tuple, e_isi_list, e_intI, e_intB, e_seqT, e_seqF, e_slT, e_slF, e_slR, e_isL, put_same, put_put, List.length_cons, List.length_nil, Nat.zero_add, Nat.reduceAdd, true_and, and_true, if_true, e_tupleT, wipe_l, wipe_n, rEqA, rNeA, rCmpA, netV]
      refine e_inT rfl (flat_ints bs) ?_
      simp only [inA_ints, x_seq, x_next, x_break, x_cont, x_drop, x_ret, x_retN, x_if, x_asg, x_for, x_raise, x_gname, x_gnil, x_gcons, x_gtup, x_gsub, x_c, x_op, x_un, x_chain, x_cb, x_call, x_bm, x_tup, x_lst, x_andV, x_orV, x_notV, x_ifE, x_sl, x_lc, x_dictK, x_dictT, x_rev, x_b, x_and, x_or, x_not, x_yes, x_nil, x_cons, x_part, x_noPart, x_iter, x_rng1, x_rng2, x_enum, aVar0, aVarS, onBl, onInt, onRef, onStr, onTup, on1, on2, List.set_cons_zero, List.set_cons_succ, rI2, rSubA, rMulA, rDivA, rModA, rPowA, rLeI, rGeI, rLtI, rGtI, rNegA, e_ixr, e_ixt, e_ixs, e_ixf, e_at0, e_at1, e_at2, onO_some, e_setr, e_ix2_0, e_ix2_1, e_ix3_0, e_ix3_1, e_ix3_2, e_addI, e_addT, e_addL, e_eqI, e_eqS, e_eqB, e_eqT, e_eqR, e_ltI, e_isN, e_lenR, e_lenT, e_lenF, e_listR, e_listT, e_isi_int, e_isi_bool, e_isi_str, e_isi_tuple, e_isi_list, e_intI, e_intB, e_seqT, e_seqF, e_slT, e_slF, e_slR, e_isL, put_same, put_put, List.length_cons, List.length_nil, Nat.zero_add, Nat.reduceAdd, true_and, and_true, if_true, e_tupleT, wipe_l, wipe_n, rEqA, rNeA, rCmpA]
      by_cases m1 : ra ∈ bs
      · by_cases m2 : ra ≤ last
        · simp [m1, m2]
          refine fin A2 (h2.trans s2) ?_
          rw [h4]
          exact if_neg (by omega)
        · simp [m1, m2, hd2]
          refine ⟨lenS (by decide), lenS' (by omega), ?_⟩
          refine hnx _ _ ⟨rs ++ [(ra, rb, rc)], ra, _, rfl, ?_, ?_, ?_, ?_, ?_⟩
          · rw [put_same, putA_new fun r hr => by have := h3 r hr; omega]
          · exact (h2.trans s2).putn hd
          · intro r hr
            rcases List.mem_append.mp hr with hr | hr
            · have := h3 r hr; omega
            · rw [List.mem_singleton.mp hr]; exact Int.le_refl _
          · rw [h4]; exact if_pos ⟨m1, by omega⟩
          · rw [List.length_append]; simp; omega
      · simp [m1]
        refine fin A2 (h2.trans s2) ?_
        rw [h4]
        exact if_neg (fun z => m1 z.1)
  · rintro a A' ⟨rs, last, r, rfl, h1, h2, h3, h4, h5⟩
    rw [List.drop_length] at h4
    simp only [x_seq, x_next, x_break, x_cont, x_drop, x_ret, x_retN, x_if, x_asg, x_for, x_raise, x_gname, x_gnil, x_gcons, x_gtup, x_gsub, x_c, x_op, x_un, x_chain, x_cb, x_call, x_bm, x_tup, x_lst, x_andV, x_orV, x_notV, x_ifE, x_sl, x_lc, x_dictK, x_dictT, x_rev, x_b, x_and, x_or, x_not, x_yes, x_nil, x_cons, x_part, x_noPart, x_iter, x_rng1, x_rng2, x_enum, aVar0, aVarS, onBl, onInt, onRef, onStr, onTup, on1, on2, List.set_cons_zero, List.set_cons_succ, rI2, rSubA, rMulA, rDivA, rModA, rPowA, rLeI, rGeI, rLtI, rGtI, rNegA, e_ixr, e_ixt, e_ixs, e_ixf, e_at0, e_at1, e_at2, onO_some, e_setr, e_ix2_0, e_ix2_1, e_ix3_0, e_ix3_1, e_ix3_2, e_addI, e_addT, e_addL, e_eqI, e_eqS, e_eqB, e_eqT, e_eqR, e_ltI, e_isN, e_lenR, e_lenT, e_lenF, e_listR, e_listT, e_isi_int, e_isi_bool, e_isi_str, e_isi_tuple, e_isi_list, e_intI, e_intB, e_seqT, e_seqF, e_slT, e_slF, e_slR, e_isL, put_same, put_put, List.length_cons, List.length_nil, Nat.zero_add, Nat.reduceAdd, true_and, and_true, if_true, e_tupleT, wipe_l, wipe_n, rEqA, rNeA, rCmpA]
    refine h A' _ h2 ?_
    rw [h4]
    exact ⟨d, rfl, hd, h1⟩
end K34

set_option Elab.async false
set_option linter.all false
set_option maxRecDepth 100000
set_option maxHeartbeats 400000
namespace K34
open PySem PySem.Spec PyProof.Rows L2 Aw
/-! ### is_ranked -/
abbrev Way := Nat × Int × Int
def wayV (w : Way) : AV := .tup [.int (w.1 : Nat), .int w.2.1, .int w.2.2]
def look (rs : List R3) (z : Int) : Option (Int × Int) := (rs.find? fun r => decide (r.1 = z)).map (·.2)
theorem val_look (rs : List R3) (z : Int) : valA (rs.map kvF) (.inl z) = (look rs z).map fun p => .tup [.int p.1, .int p.2] := by
  induction rs with
  | nil => rfl
  | cons r rs ih =>
    rw [List.map_cons, valA_cons, ih]
    unfold look
    show (if (Sum.inl r.1 : Key) = .inl z then _ else _) = _
    by_cases h : r.1 = z
    · subst h; simp [kvF]
    · have : ¬ ((Sum.inl r.1 : Key) = .inl z) := fun q => h (by cases q; rfl)
      simp [h, this]
def tieW (ts : List R3) (p : Nat) : Int := match ts[p]? with
  | some t => t.2.2
  | none => 0
def condW (ts : List R3) (rs : List R3) (w : Way) : Bool := match look rs w.2.1, look rs w.2.2 with
  | some a, some b => decide (a.1 = b.1 ∧ a.2 = b.2 + tieW ts w.1)
  | _, _ => false
def rankW (ts rs : List R3) : List Way → List Int → Bool
  | [], _ => true
  | w :: r, seen => condW ts rs w && (!decide (w.2.1 ∈ seen) && rankW ts rs r (w.2.1 :: seen))
def rankedF (bs : List Int) (ts : List R3) (ws : List Way) (xs : List AV) : Bool := match ranksF bs xs (-1) [] with
  | none => false
  | some rs => rankW ts rs ws []
theorem net_tie {ts : List R3} {p : Nat} (h : p < ts.length) : atI (ts.map fun t => AV.tup [.int t.1, .int t.2.1, .int t.2.2]) (p : Int) = some (.tup [.int ts[p].1, .int ts[p].2.1, .int (tieW ts p)]) := by
  refine at_n ?_
  rw [List.getElem?_map, List.getElem?_eq_getElem h]
  unfold tieW
  rw [List.getElem?_eq_getElem h]
  rfl
theorem q_is_ranked {c : Cl} {bs : List Int} {ts : List R3} {w s : Addr} {ws : List Way} {xs : List AV} {A : AH} {k : AK} {e : Value → AH → Prop} (hw : A w = some (.lst (ws.map wayV))) (hs : A s = some (.lst xs)) (hl : xs.length ≤ 100) (hlw : ws.length ≤ 100)
    (hx : ∀ x ∈ xs, Item A x) (hp : ∀ v ∈ ws, v.1 < ts.length) (h : ∀ A', Ext A A' → k (.bl (rankedF bs ts ws xs)) A') : p_is_ranked c [netV bs ts, .ref w, .ref s] A k e := by
  refine ⟨rfl, ?_⟩
  show r_is_ranked c _ _ [some (netV bs ts), some (.ref w), some (.ref s), none, none, none, none, none, none, none] A
  unfold r_is_ranked
  simp only [x_seq, x_next, x_break, x_cont, x_drop, x_ret, x_retN, x_if, x_asg, x_for, x_raise, x_gname, x_gnil, x_gcons, x_gtup, x_gsub, x_c, x_op, x_un, x_chain, x_cb, x_call, x_bm, x_tup, x_lst, x_andV, x_orV, x_notV, x_ifE, x_sl, x_lc, x_dictK, x_dictT, x_rev, x_b, x_and, x_or, x_not, x_yes, x_nil, x_cons, x_part, x_noPart, x_iter, x_rng1, x_rng2, x_enum, aVar0, aVarS, onBl, onInt, onRef, onStr, onTup, on1, on2, List.set_cons_zero, List.set_cons_succ, rI2, rSubA, rMulA, rDivA, rModA, rPowA, rLeI, rGeI, rLtI, rGtI, rNegA, e_ixr, e_ixt, e_ixs, e_ixf, e_at0, e_at1, e_at2, onO_some, e_setr, e_ix2_0, e_ix2_1, e_ix3_0, e_ix3_1, e_ix3_2, e_addI, e_addT, e_addL, e_eqI, e_eqS, e_eqB, e_eqT, e_eqR, e_ltI, e_isN, e_lenR, e_lenT, e_lenF, e_listR, e_listT, e_isi_int, e_isi_bool, e_isi_str, e_isi_tuple, e_isi_list, e_intI, e_intB, e_seqT, e_seqF, e_slT, e_slF, e_slR, e_isL, put_same, put_put, List.length_cons, List.length_nil, Nat.zero_add, Nat.reduceAdd, true_and, and_true, if_true, e_tupleT, wipe_l, wipe_n, rEqA, rNeA, rCmpA]
  refine q_ranks_in hs hl hx fun A1 v s1 hv => ?_
  cases hr : ranksF bs xs (-1) [] with
  | none =>
    rw [hr] at hv
    subst hv
    simp only [x_seq, x_next, x_break, x_cont, x_drop, x_ret, x_retN, x_if, x_asg, x_for, x_raise, x_gname, x_gnil, x_gcons, x_gtup, x_gsub, x_c, x_op, x_un, x_chain, x_cb, x_call, x_bm, x_tup, x_lst, x_andV, x_orV, x_notV, x_ifE, x_sl, x_lc, x_dictK, x_dictT, x_rev, x_b, x_and, x_or, x_not, x_yes, x_nil, x_cons, x_part, x_noPart, x_iter, x_rng1, x_rng2, x_enum, aVar0, aVarS, onBl, onInt, onRef, onStr, onTup, on1, on2, List.set_cons_zero, List.set_cons_succ, rI2, rSubA, rMulA, rDivA, rModA, rPowA, rLeI, rGeI, rLtI, rGtI, rNegA, e_ixr, e_ixt, e_ixs, e_ixf, e_at0, e_at1, e_at2, onO_some, e_setr, e_ix2_0, e_ix2_1, e_ix3_0, e_ix3_1, e_ix3_2, e_addI, e_addT, e_addL, e_eqI, e_eqS, e_eqB, e_eqT, e_eqR, e_ltI, e_isN, e_lenR, e_lenT, e_lenF, e_listR, e_listT, e_isi_int, e_isi_bool, e_isi_str, e_isi_tuple, e_isi_list, e_intI, e_intB, e_seqT, e_seqF, e_slT, e_slF, e_slR, e_isL, put_same, put_put, List.length_cons, List.length_nil, Nat.zero_add, Nat.reduceAdd, true_and, and_true, if_true, e_tupleT, wipe_l, wipe_n, rEqA, rNeA, rCmpA, isNonA, id]
    have := h A1 s1
    unfold rankedF at this
    rw [hr] at this
    exact this
  | some rs =>
    rw [hr] at hv
    obtain ⟨d, rfl, hd, hd1⟩ := hv
    simp only [x_seq, x_next, x_break, x_cont, x_drop, x_ret, x_retN, x_if, x_asg, x_for, x_raise, x_gname, x_gnil, x_gcons, x_gtup, x_gsub, x_c, x_op, x_un, x_chain, x_cb, x_call, x_bm, x_tup, x_lst, x_andV, x_orV, x_notV, x_ifE, x_sl, x_lc, x_dictK, x_dictT, x_rev, x_b, x_and, x_or, x_not, x_yes, x_nil, x_cons, x_part, x_noPart, x_iter, x_rng1, x_rng2, x_enum, aVar0, aVarS, onBl, onInt, onRef, onStr, onTup, on1, on2, List.set_cons_zero, List.set_cons_succ, rI2, rSubA, rMulA, rDivA, rModA, rPowA, rLeI, rGeI, rLtI, rGtI, rNegA, e_ixr, e_ixt, e_ixs, e_ixf, e_at0, e_at1, e_at2, onO_some, e_setr, e_ix2_0, e_ix2_1, e_ix3_0, e_ix3_1, e_ix3_2, e_addI, e_addT, e_addL, e_eqI, e_eqS, e_eqB, e_eqT, e_eqR, e_ltI, e_isN, e_lenR, e_lenT, e_lenF, e_listR, e_listT, e_isi_int, e_isi_bool, e_isi_str, e_isi_tuple, e_isi_list, e_intI, e_intB, e_seqT, e_seqF, e_slT, e_slF, e_slR, e_isL, put_same, put_put, List.length_cons, List.length_nil, Nat.zero_add, Nat.reduceAdd, true_and, and_true, if_true, e_tupleT, wipe_l, wipe_n, rEqA, rNeA, rCmpA, isNonA, id]
    simp
    intro g hg
    have hw1 := s1 w _ hw
    have hwg : ∀ o, put A1 g o w = some (.lst (ws.map wayV)) := fun o => by rw [put_ne (ane hw1 hg)]; exact hw1
    simp only [x_seq, x_next, x_break, x_cont, x_drop, x_ret, x_retN, x_if, x_asg, x_for, x_raise, x_gname, x_gnil, x_gcons, x_gtup, x_gsub, x_c, x_op, x_un, x_chain, x_cb, x_call, x_bm, x_tup, x_lst, x_andV, x_orV, x_notV, x_ifE, x_sl, x_lc, x_dictK, x_dictT, x_rev, x_b, x_and, x_or, x_not, x_yes, x_nil, x_cons, x_part, x_noPart, x_iter, x_rng1, x_rng2, x_enum, aVar0, aVarS, onBl, onInt, onRef, onStr, onTup, on1, on2, List.set_cons_zero, List.set_cons_succ, rI2, rSubA, rMulA, rDivA, rModA, rPowA, rLeI, rGeI, rLtI, rGtI, rNegA, e_ixr, e_ixt, e_ixs, e_ixf, e_at0, e_at1, e_at2, onO_some, e_setr, e_ix2_0, e_ix2_1, e_ix3_0, e_ix3_1, e_ix3_2, e_addI, e_addT, e_addL, e_eqI, e_eqS, e_eqB, e_eqT, e_eqR, e_ltI, e_isN, e_lenR, e_lenT, e_lenF, e_listR, e_listT, e_isi_int, e_isi_bool, e_isi_str, e_isi_tuple, e_isi_list, e_intI, e_intB, e_seqT, e_seqF, e_slT, e_slF, e_slR, e_isL, put_same, put_put, List.length_cons, List.length_nil, Nat.zero_add, Nat.reduceAdd, true_and, and_true, if_true, e_tupleT, wipe_l, wipe_n, rEqA, rNeA, rCmpA, e_seqR (hwg _)]
    have eF : rankedF bs ts ws xs = rankW ts rs ws [] := by unfold rankedF; rw [hr]
    refine loop_inv (fun i a A' => ∃ chs seen r1 r2 r3 r4 r5, a = [some (netV bs ts), some (.ref w), some (.ref s), some (.ref d), some (.ref g), r1, r2, r3, r4, r5] ∧ A' g = some (.dK chs) ∧ A' d = some (.dK (rs.map kvF)) ∧ A' w = some (.lst (ws.map wayV)) ∧ Ext A A' ∧
      (∀ z, (valA chs (.inl z)).isSome = decide (z ∈ seen)) ∧ rankW ts rs ws [] = rankW ts rs (ws.drop i) seen ∧ chs.length ≤ i) ?_ ?_ ?_ ?_
    · exact ⟨[], [], none, none, none, none, none, rfl, put_same, by rw [put_ne (ane hd1 hg)]; exact hd1, hwg _, s1.putn (s1.gone hg), fun z => by simp [valA_nil], rfl, Nat.le_refl _⟩
    · rintro i a A' hi ⟨chs, seen, r1, r2, r3, r4, r5, rfl, h1, h2, h3, h4, h5, h6, h7⟩
      exact h3
    · rintro i x a A' hx' ⟨chs, seen, r1, r2, r3, r4, r5, rfl, h1, h2, h3, h4, h5, h6, h7⟩ D' hrt hbk hnx hct
      rw [List.getElem?_map] at hx'
      obtain ⟨⟨pl, ch, pa⟩, hy, rfl⟩ := Option.map_eq_some_iff.mp hx'
      have hil := (List.getElem?_eq_some_iff.mp hy).1
      have hdr : ws.drop i = (pl, ch, pa) :: ws.drop (i + 1) := by
        rw [List.drop_eq_getElem_cons hil, (List.getElem?_eq_some_iff.mp hy).2]
      have hpl : pl < ts.length := hp _ (List.mem_of_getElem? hy)
      rw [hdr, rankW] at h6
      have fin : ∀ A3, Ext A A3 → rankW ts rs ws [] = false → D'.rt (.bl false) A3 := fun A3 s3 hn => by
        rw [hrt]
        have := h A3 s3
        rw [eF, hn] at this
        exact this
      unfold wayV
      have hdg : d ≠ g := ane hd1 hg
      have hpd : ∀ o, put A' g o d = some (.dK (rs.map kvF)) := fun o => by rw [put_ne hdg]; exact h2
      simp only [x_seq, x_next, x_break, x_cont, x_drop, x_ret, x_retN, x_if, x_asg, x_for, x_raise, x_gname, x_gnil, x_gcons, x_gtup, x_gsub, x_c, x_op, x_un, x_chain, x_cb, x_call, x_bm, x_tup, x_lst, x_andV, x_orV, x_notV, x_ifE, x_sl, x_lc, x_dictK, x_dictT, x_rev, x_b, x_and, x_or, x_not, x_yes, x_nil, x_cons, x_part, x_noPart, x_iter, x_rng1, x_rng2, x_enum, aVar0, aVarS, onBl, onInt, onRef, onStr, onTup, on1, on2, List.set_cons_zero, List.set_cons_succ, rI2, rSubA, rMulA, rDivA, rModA, rPowA, rLeI, rGeI, rLtI, rGtI, rNegA, e_ixr, e_ixt, e_ixs, e_ixf, e_at0, e_at1, e_at2, onO_some, e_setr, e_ix2_0, e_ix2_1, e_ix3_0, e_ix3_1, e_ix3_2, e_addI, e_addT, e_addL, e_eqI, e_eqS, e_eqB, e_eqT, e_eqR, e_ltI, e_isN, e_lenR, e_lenT, e_lenF, e_listR, e_listT, e_isi_int, e_isi_bool, e_isi_str, e_isi_tuple, e_isi_list, e_intI, e_intB, e_seqT, e_seqF, e_slT, e_slF, e_slR, e_isL, put_same, put_put, List.length_cons, List.length_nil, Nat.zero_add, Nat.reduceAdd, true_and, and_true, if_true, e_tupleT, wipe_l, wipe_n, rEqA, rNeA, rCmpA, e_inD h2, e_inD h1, h1, hpd, val_look, id]
      cases l1 : look rs ch with
      | none =>
        simp
        exact fin A' h4 (by rw [h6, condW]; simp [l1])
      | some p =>
        cases l2 : look rs pa with
        | none =>
          simp
          exact fin A' h4 (by rw [h6, condW]; simp [l1, l2])
        | some q =>
          by_cases m : ch ∈ seen
          · simp [h5, m]
            exact fin A' h4 (by rw [h6]; simp [m])
          · simp [h5, m]
            refine ⟨lenS' (by omega), ?_⟩
            simp [x_seq, x_next, x_break, x_cont, x_drop, x_ret, x_retN, x_if, x_asg, x_for, x_raise, x_gname, x_gnil, x_gcons, x_gtup, x_gsub, x_c, x_op, x_un, x_chain, x_cb, x_call, x_bm, x_tup, x_lst, x_andV, x_orV, x_notV, x_ifE, x_sl, x_lc, x_dictK, x_dictT, x_rev, x_b, x_and, x_or, x_not, x_yes, x_nil, x_cons, x_part, x_noPart, x_iter, x_rng1, x_rng2, x_enum, aVar0, aVarS, onBl, onInt, onRef, onStr, onTup, on1, on2, List.set_cons_zero, List.set_cons_succ, rI2, rSubA, rMulA, rDivA, rModA, rPowA, rLeI, rGeI, rLtI, rGtI, rNegA, e_ixr, e_ixt, e_ixs, e_ixf, e_at0, e_at1, e_at2, onO_some, e_setr, e_ix2_0, e_ix2_1, e_ix3_0, e_ix3_1, e_ix3_2, e_addI, e_addT, e_addL, e_eqI, e_eqS, e_eqB, e_eqT, e_eqR, e_ltI, e_isN, e_lenR, e_lenT, e_lenF, e_listR, e_listT, e_isi_int, e_isi_bool, e_isi_str, e_isi_tuple, e_isi_list, e_intI, e_intB, e_seqT, e_seqF, e_slT, e_slF, e_slR, e_isL, put_same, put_put, List.length_cons, List.length_nil, Nat.zero_add, Nat.reduceAdd, true_and, and_true, if_true, e_tupleT, wipe_l, wipe_n, rEqA, rNeA, rCmpA, hpd, val_look, l1, netV, net_tie hpl]
            refine ⟨lenS (by decide), e_tup2 ?_⟩
            have hA3 : Ext A (put A' g (.dK (putA chs (.inl ch) (.bl true)))) := h4.putn (s1.gone hg)
            by_cases hc : p.1 = q.1 ∧ p.2 = q.2 + tieW ts pl
            · simp [hc]
              refine hnx _ _ ⟨_, ch :: seen, _, _, _, _, _, rfl, put_same, hpd _, ?_, hA3, ?_, ?_, ?_⟩
              · rw [put_ne (ane hw1 hg)]; exact h3
              · intro z
                rw [valA_putA]
                by_cases e1 : z = ch
                · subst e1; simp
                · have : ¬ ((Sum.inl z : Key) = .inl ch) := fun q => e1 (by cases q; rfl)
                  simp [this, e1, h5]
              · rw [h6, condW]
                simp [l1, l2, hc, m]
              · have := length_putA (kvs := chs) (j := (.inl ch : Key)) (v := .bl true)
                omega
            · simp [hc]
              exact fin _ hA3 (by rw [h6, condW]; simp [l1, l2, hc])
    · rintro a A' ⟨chs, seen, r1, r2, r3, r4, r5, rfl, h1, h2, h3, h4, h5, h6, h7⟩
      rw [List.length_map, List.drop_length, rankW] at h6
      simp only [x_seq, x_next, x_break, x_cont, x_drop, x_ret, x_retN, x_if, x_asg, x_for, x_raise, x_gname, x_gnil, x_gcons, x_gtup, x_gsub, x_c, x_op, x_un, x_chain, x_cb, x_call, x_bm, x_tup, x_lst, x_andV, x_orV, x_notV, x_ifE, x_sl, x_lc, x_dictK, x_dictT, x_rev, x_b, x_and, x_or, x_not, x_yes, x_nil, x_cons, x_part, x_noPart, x_iter, x_rng1, x_rng2, x_enum, aVar0, aVarS, onBl, onInt, onRef, onStr, onTup, on1, on2, List.set_cons_zero, List.set_cons_succ, rI2, rSubA, rMulA, rDivA, rModA, rPowA, rLeI, rGeI, rLtI, rGtI, rNegA, e_ixr, e_ixt, e_ixs, e_ixf, e_at0, e_at1, e_at2, onO_some, e_setr, e_ix2_0, e_ix2_1, e_ix3_0, e_ix3_1, e_ix3_2, e_addI, e_addT, e_addL, e_eqI, e_eqS, e_eqB, e_eqT, e_eqR, e_ltI, e_isN, e_lenR, e_lenT, e_lenF, e_listR, e_listT, e_isi_int, e_isi_bool, e_isi_str, e_isi_tuple, e_isi_list, e_intI, e_intB, e_seqT, e_seqF, e_slT, e_slF, e_slR, e_isL, put_same, put_put, List.length_cons, List.length_nil, Nat.zero_add, Nat.reduceAdd, true_and, and_true, if_true, e_tupleT, wipe_l, wipe_n, rEqA, rNeA, rCmpA]
      have := h A' h4
      rw [eF, h6] at this
      exact this
end K34

set_option Elab.async false
set_option linter.all false
set_option maxRecDepth 100000
set_option maxHeartbeats 400000
namespace K34
open PySem PySem.Spec PyProof.Rows L2 Aw
theorem rankW_eq {ts rs : List R3} : ∀ {ws : List Way} {seen : List Int}, rankW ts rs ws seen = (decide ((ws.map (·.2.1)).Nodup ∧ ∀ z ∈ ws.map (·.2.1), z ∉ seen) && ws.all (condW ts rs))
  | [], seen => by simp [rankW]
  | w :: r, seen => by
    rw [rankW, rankW_eq, List.all_cons, List.map_cons]
    cases hc : condW ts rs w with
    | false => simp
    | true =>
      cases ha : r.all (condW ts rs) with
      | false => simp
      | true =>
        simp only [Bool.true_and, Bool.and_true]
        by_cases m : w.2.1 ∈ seen
        · simp [m]
        · rw [← decide_not, ← Bool.decide_and]
          apply decide_eq_decide.mpr
          rw [List.nodup_cons]
          constructor
          · rintro ⟨_, h2, h3⟩
            refine ⟨⟨fun h4 => ?_, h2⟩, fun z hz => ?_⟩
            · have := h3 _ h4; simp at this
            · rcases List.mem_cons.mp hz with rfl | hz
              · exact m
              · exact fun h5 => h3 z hz (List.mem_cons_of_mem _ h5)
          · rintro ⟨⟨h1, h2⟩, h3⟩
            refine ⟨m, h2, fun z hz h4 => ?_⟩
            rcases List.mem_cons.mp h4 with rfl | h4
            · exact h1 hz
            · exact h3 z (List.mem_cons_of_mem _ hz) h4
def lastR (rs : List R3) : Int := match rs.getLast? with
  | some r => r.1
  | none => -1
theorem atI_last {α : Type} {xs : List α} {x : α} (h : xs.getLast? = some x) : atI xs (-1) = some x := by
  unfold atI ixN
  have hl : 0 < xs.length := by
    cases xs with
    | nil => cases h
    | cons a r => simp
  rw [if_neg (by decide), if_pos (by omega), List.getLast?_eq_getElem?] at *
  show xs[(-1 + (xs.length : Int)).toNat]? = _
  rw [show (-1 + (xs.length : Int)).toNat = xs.length - 1 by omega]
  exact h
/-- what _law_due finds no whole number -/
theorem q_parts {c : Cl} {xs : List AV} {A : AH} {k : AK} {v0 v1 v2 v3 v4 v5 v6 v7 v8 v10 : Option AV} (hp : ∀ y ∈ xs, Prim y) (hl : xs.length ≤ 10)
    (h : ∀ (D : Addr) A', Ext A A' → A D = none → A' D = some (.lst (xs.filter fun y => !whole y)) → k (.ref D) A') :
    ∀ D, A D = none → aLcGo (fun _ => True) (aGName 9) (aNot (aB (aCall (p__law_whole c) (aCons (aVar 9) aNil)))) (aVar 9) [v0, v1, v2, v3, v4, v5, v6, v7, v8, none, v10] D k xs (put A D (.lst [])) := by
  intro D hD
  refine lc_inv (fun i acc A' => acc = (xs.take i).filter (fun y => !whole y) ∧ Ext A A') (lenS (by omega)) put_same ⟨rfl, .new hD⟩ (fun _ _ _ _ _ _ => trivial) (fun i y acc A2 Y N hy hD2 hP hY hN => ?_) (fun acc A2 hD2 hP => ?_)
  · obtain ⟨h1, h2⟩ := hP
    obtain ⟨t, ht⟩ := (hp y (List.mem_of_getElem? hy)).ty A2
    simp only [x_seq, x_next, x_break, x_cont, x_drop, x_ret, x_retN, x_if, x_asg, x_for, x_raise, x_gname, x_gnil, x_gcons, x_gtup, x_gsub, x_c, x_op, x_un, x_chain, x_cb, x_call, x_bm, x_tup, x_lst, x_andV, x_orV, x_notV, x_ifE, x_sl, x_lc, x_dictK, x_dictT, x_rev, x_b, x_and, x_or, x_not, x_yes, x_nil, x_cons, x_part, x_noPart, x_iter, x_rng1, x_rng2, x_enum, aVar0, aVarS, onBl, onInt, onRef, onStr, onTup, on1, on2, List.set_cons_zero, List.set_cons_succ, rI2, rSubA, rMulA, rDivA, rModA, rPowA, rLeI, rGeI, rLtI, rGtI, rNegA, e_ixr, e_ixt, e_ixs, e_ixf, e_at0, e_at1, e_at2, onO_some, e_setr, e_ix2_0, e_ix2_1, e_ix3_0, e_ix3_1, e_ix3_2, e_addI, e_addT, e_addL, e_eqI, e_eqS, e_eqB, e_eqT, e_eqR, e_ltI, e_isN, e_lenR, e_lenT, e_lenF, e_listR, e_listT, e_isi_int, e_isi_bool, e_isi_str, e_isi_tuple, e_isi_list, e_intI, e_intB, e_seqT, e_seqF, e_slT, e_slF, e_slR, e_isL, put_same, put_put, List.length_cons, List.length_nil, Nat.zero_add, Nat.reduceAdd, true_and, and_true, if_true, e_tupleT, wipe_l, wipe_n, rEqA, rNeA, rCmpA]
    have et : (xs.take (i + 1)).filter (fun y => !whole y) = (xs.take i).filter (fun y => !whole y) ++ [y].filter (fun y => !whole y) := by
      rw [List.take_add_one, hy, List.filter_append]; rfl
    refine q_lwhole ht ?_
    cases hw : whole y with
    | true =>
      simp [hw] at et ⊢
      exact hN _ hD2 ⟨by rw [et, h1], h2⟩
    | false =>
      simp [hw, x_seq, x_next, x_break, x_cont, x_drop, x_ret, x_retN, x_if, x_asg, x_for, x_raise, x_gname, x_gnil, x_gcons, x_gtup, x_gsub, x_c, x_op, x_un, x_chain, x_cb, x_call, x_bm, x_tup, x_lst, x_andV, x_orV, x_notV, x_ifE, x_sl, x_lc, x_dictK, x_dictT, x_rev, x_b, x_and, x_or, x_not, x_yes, x_nil, x_cons, x_part, x_noPart, x_iter, x_rng1, x_rng2, x_enum, aVar0, aVarS, onBl, onInt, onRef, onStr, onTup, on1, on2, List.set_cons_zero, List.set_cons_succ, rI2, rSubA, rMulA, rDivA, rModA, rPowA, rLeI, rGeI, rLtI, rGtI, rNegA, e_ixr, e_ixt, e_ixs, e_ixf, e_at0, e_at1, e_at2, onO_some, e_setr, e_ix2_0, e_ix2_1, e_ix3_0, e_ix3_1, e_ix3_2, e_addI, e_addT, e_addL, e_eqI, e_eqS, e_eqB, e_eqT, e_eqR, e_ltI, e_isN, e_lenR, e_lenT, e_lenF, e_listR, e_listT, e_isi_int, e_isi_bool, e_isi_str, e_isi_tuple, e_isi_list, e_intI, e_intB, e_seqT, e_seqF, e_slT, e_slF, e_slR, e_isL, put_same, put_put, List.length_cons, List.length_nil, Nat.zero_add, Nat.reduceAdd, true_and, and_true, if_true, e_tupleT, wipe_l, wipe_n, rEqA, rNeA, rCmpA] at et ⊢
      exact hY _ _ hD2 ⟨by rw [et, h1], h2.putn hD⟩
  · obtain ⟨h1, h2⟩ := hP
    rw [List.take_length] at h1
    exact h D A2 h2 hD (by rw [hD2, h1])
end K34

set_option Elab.async false
set_option linter.all false
set_option maxRecDepth 100000
set_option maxHeartbeats 400000
namespace K34
open PySem PySem.Spec PyProof.Rows L2 Aw
theorem rowB_parts {xs : List AV} : rowB (.tup xs) = (decide (xs.length = 3) && decide (xs.filter (fun y => !whole y) = [])) := by
  rw [rowB_tup]
  congr 1
  rw [Bool.eq_iff_iff]
  simp [List.filter_eq_nil_iff]
theorem q_due {c : Cl} {bs : List Int} {ts : List R3} {w s : Addr} {ws : List Way} {xs : List AV} {A : AH} {k : AK} {e : Value → AH → Prop} (hw : A w = some (.lst (ws.map wayV))) (hs : A s = some (.lst xs)) (hl : xs.length ≤ 100) (hlw : ws.length ≤ 100)
    (hx : ∀ x ∈ xs, Item A x) (hp : ∀ v ∈ ws, v.1 < ts.length) (hb : ∀ b ∈ bs, 0 ≤ b) (h : ∀ A', Ext A A' → k (.bl (rankedF bs ts ws xs)) A') : p__law_due c [netV bs ts, .ref w, .ref s] A k e := by
  refine ⟨rfl, ?_⟩
  show r__law_due c _ _ [some (netV bs ts), some (.ref w), some (.ref s), none, none, none, none, none, none, none, none] A
  unfold r__law_due
  simp only [x_seq, x_next, x_break, x_cont, x_drop, x_ret, x_retN, x_if, x_asg, x_for, x_raise, x_gname, x_gnil, x_gcons, x_gtup, x_gsub, x_c, x_op, x_un, x_chain, x_cb, x_call, x_bm, x_tup, x_lst, x_andV, x_orV, x_notV, x_ifE, x_sl, x_lc, x_dictK, x_dictT, x_rev, x_b, x_and, x_or, x_not, x_yes, x_nil, x_cons, x_part, x_noPart, x_iter, x_rng1, x_rng2, x_enum, aVar0, aVarS, onBl, onInt, onRef, onStr, onTup, on1, on2, List.set_cons_zero, List.set_cons_succ, rI2, rSubA, rMulA, rDivA, rModA, rPowA, rLeI, rGeI, rLtI, rGtI, rNegA, e_ixr, e_ixt, e_ixs, e_ixf, e_at0, e_at1, e_at2, onO_some, e_setr, e_ix2_0, e_ix2_1, e_ix3_0, e_ix3_1, e_ix3_2, e_addI, e_addT, e_addL, e_eqI, e_eqS, e_eqB, e_eqT, e_eqR, e_ltI, e_isN, e_lenR, e_lenT, e_lenF, e_listR, e_listT, e_isi_int, e_isi_bool, e_isi_str, e_isi_tuple, e_isi_list, e_intI, e_intB, e_seqT, e_seqF, e_slT, e_slF, e_slR, e_isL, put_same, put_put, List.length_cons, List.length_nil, Nat.zero_add, Nat.reduceAdd, true_and, and_true, if_true, e_tupleT, wipe_l, wipe_n, rEqA, rNeA, rCmpA]
  intro d hd
  refine ⟨lenS (by decide), fun g hg => ?_⟩
  have hdg : d ≠ g := fun z => by subst z; rw [put_same] at hg; cases hg
  have hg0 : A g = none := by rw [put_ne hdg.symm] at hg; exact hg
  have hs1 : put (put A d (.dK [])) g (.lst []) s = some (.lst xs) := by rw [put_ne (ane hs hg0), put_ne (ane hs hd)]; exact hs
  have hw1 : put (put A d (.dK [])) g (.lst []) w = some (.lst (ws.map wayV)) := by rw [put_ne (ane hw hg0), put_ne (ane hw hd)]; exact hw
  simp only [x_seq, x_next, x_break, x_cont, x_drop, x_ret, x_retN, x_if, x_asg, x_for, x_raise, x_gname, x_gnil, x_gcons, x_gtup, x_gsub, x_c, x_op, x_un, x_chain, x_cb, x_call, x_bm, x_tup, x_lst, x_andV, x_orV, x_notV, x_ifE, x_sl, x_lc, x_dictK, x_dictT, x_rev, x_b, x_and, x_or, x_not, x_yes, x_nil, x_cons, x_part, x_noPart, x_iter, x_rng1, x_rng2, x_enum, aVar0, aVarS, onBl, onInt, onRef, onStr, onTup, on1, on2, List.set_cons_zero, List.set_cons_succ, rI2, rSubA, rMulA, rDivA, rModA, rPowA, rLeI, rGeI, rLtI, rGtI, rNegA, e_ixr, e_ixt, e_ixs, e_ixf, e_at0, e_at1, e_at2, onO_some, e_setr, e_ix2_0, e_ix2_1, e_ix3_0, e_ix3_1, e_ix3_2, e_addI, e_addT, e_addL, e_eqI, e_eqS, e_eqB, e_eqT, e_eqR, e_ltI, e_isN, e_lenR, e_lenT, e_lenF, e_listR, e_listT, e_isi_int, e_isi_bool, e_isi_str, e_isi_tuple, e_isi_list, e_intI, e_intB, e_seqT, e_seqF, e_slT, e_slF, e_slR, e_isL, put_same, put_put, List.length_cons, List.length_nil, Nat.zero_add, Nat.reduceAdd, true_and, and_true, if_true, e_tupleT, wipe_l, wipe_n, rEqA, rNeA, rCmpA, e_seqR hs1]
  have hx0 : Ext A (put (put A d (.dK [])) g (.lst [])) := ((Ext.refl A).putn hd).putn hg0
  refine loop_inv (fun i a A' => ∃ rs r5 r9, a = [some (netV bs ts), some (.ref w), some (.ref s), some (.ref d), some (.ref g), r5, none, none, none, r9, none] ∧ A' d = some (.dK (rs.map kvF)) ∧ A' g = some (.lst (rs.map fun r => .int r.1)) ∧ Ext A A' ∧ (∀ r ∈ rs, r.1 ≤ lastR rs) ∧
      ranksF bs xs (-1) [] = ranksF bs (xs.drop i) (lastR rs) rs ∧ rs.length ≤ i) ?_ ?_ ?_ ?_
  · exact ⟨[], none, none, rfl, by rw [put_ne hdg, put_same]; rfl, put_same, hx0, by simp, rfl, Nat.le_refl _⟩
  · rintro i a A' hi ⟨rs, r5, r9, rfl, h1, h2, h3, _⟩
    exact h3 s _ hs
  · rintro i x a A' hx' ⟨rs, r5, r9, rfl, h1, h2, h3, h4, h5, h6⟩ D' hrt hbk hnx hct
    have hit := (hx x (List.mem_of_getElem? hx')).keep h3
    have hil := (List.getElem?_eq_some_iff.mp hx').1
    have hdr : xs.drop i = x :: xs.drop (i + 1) := by
      rw [List.drop_eq_getElem_cons hil, (List.getElem?_eq_some_iff.mp hx').2]
    rw [hdr, ranksF] at h5
    have fin : ∀ A3, Ext A A3 → ranksF bs xs (-1) [] = none → D'.rt (.bl false) A3 := fun A3 s3 hn => by
      rw [hrt]
      have := h A3 s3
      unfold rankedF at this
      rw [hn] at this
      exact this
    have hno : ∀ A3, Ext A A3 → rowB x = false → D'.rt (.bl false) A3 := fun A3 s3 hn => fin A3 s3 (by rw [h5, rowT_B.2 hn])
    simp only [x_seq, x_next, x_break, x_cont, x_drop, x_ret, x_retN, x_if, x_asg, x_for, x_raise, x_gname, x_gnil, x_gcons, x_gtup, x_gsub, x_c, x_op, x_un, x_chain, x_cb, x_call, x_bm, x_tup, x_lst, x_andV, x_orV, x_notV, x_ifE, x_sl, x_lc, x_dictK, x_dictT, x_rev, x_b, x_and, x_or, x_not, x_yes, x_nil, x_cons, x_part, x_noPart, x_iter, x_rng1, x_rng2, x_enum, aVar0, aVarS, onBl, onInt, onRef, onStr, onTup, on1, on2, List.set_cons_zero, List.set_cons_succ, rI2, rSubA, rMulA, rDivA, rModA, rPowA, rLeI, rGeI, rLtI, rGtI, rNegA, e_ixr, e_ixt, e_ixs, e_ixf, e_at0, e_at1, e_at2, onO_some, e_setr, e_ix2_0, e_ix2_1, e_ix3_0, e_ix3_1, e_ix3_2, e_addI, e_addT, e_addL, e_eqI, e_eqS, e_eqB, e_eqT, e_eqR, e_ltI, e_isN, e_lenR, e_lenT, e_lenF, e_listR, e_listT, e_isi_int, e_isi_bool, e_isi_str, e_isi_tuple, e_isi_list, e_intI, e_intB, e_seqT, e_seqF, e_slT, e_slF, e_slR, e_isL, put_same, put_put, List.length_cons, List.length_nil, Nat.zero_add, Nat.reduceAdd, true_and, and_true, if_true, e_tupleT, wipe_l, wipe_n, rEqA, rNeA, rCmpA]
    rcases hit with rfl | ⟨ps, rfl, hpl, hpp⟩ | ⟨q, ns, rfl, hq⟩
    · simp [x_seq, x_next, x_break, x_cont, x_drop, x_ret, x_retN, x_if, x_asg, x_for, x_raise, x_gname, x_gnil, x_gcons, x_gtup, x_gsub, x_c, x_op, x_un, x_chain, x_cb, x_call, x_bm, x_tup, x_lst, x_andV, x_orV, x_notV, x_ifE, x_sl, x_lc, x_dictK, x_dictT, x_rev, x_b, x_and, x_or, x_not, x_yes, x_nil, x_cons, x_part, x_noPart, x_iter, x_rng1, x_rng2, x_enum, aVar0, aVarS, onBl, onInt, onRef, onStr, onTup, on1, on2, List.set_cons_zero, List.set_cons_succ, rI2, rSubA, rMulA, rDivA, rModA, rPowA, rLeI, rGeI, rLtI, rGtI, rNegA, e_ixr, e_ixt, e_ixs, e_ixf, e_at0, e_at1, e_at2, onO_some, e_setr, e_ix2_0, e_ix2_1, e_ix3_0, e_ix3_1, e_ix3_2, e_addI, e_addT, e_addL, e_eqI, e_eqS, e_eqB, e_eqT, e_eqR, e_ltI, e_isN, e_lenR, e_lenT, e_lenF, e_listR, e_listT, e_isi_int, e_isi_bool, e_isi_str, e_isi_tuple, e_isi_list, e_intI, e_intB, e_seqT, e_seqF, e_slT, e_slF, e_slR, e_isL, put_same, put_put, List.length_cons, List.length_nil, Nat.zero_add, Nat.reduceAdd, true_and, and_true, if_true, e_tupleT, wipe_l, wipe_n, rEqA, rNeA, rCmpA, tyA, Ty0.sub]
      exact hno A' h3 rfl
    · simp only [x_seq, x_next, x_break, x_cont, x_drop, x_ret, x_retN, x_if, x_asg, x_for, x_raise, x_gname, x_gnil, x_gcons, x_gtup, x_gsub, x_c, x_op, x_un, x_chain, x_cb, x_call, x_bm, x_tup, x_lst, x_andV, x_orV, x_notV, x_ifE, x_sl, x_lc, x_dictK, x_dictT, x_rev, x_b, x_and, x_or, x_not, x_yes, x_nil, x_cons, x_part, x_noPart, x_iter, x_rng1, x_rng2, x_enum, aVar0, aVarS, onBl, onInt, onRef, onStr, onTup, on1, on2, List.set_cons_zero, List.set_cons_succ, rI2, rSubA, rMulA, rDivA, rModA, rPowA, rLeI, rGeI, rLtI, rGtI, rNegA, e_ixr, e_ixt, e_ixs, e_ixf, e_at0, e_at1, e_at2, onO_some, e_setr, e_ix2_0, e_ix2_1, e_ix3_0, e_ix3_1, e_ix3_2, e_addI, e_addT, e_addL, e_eqI, e_eqS, e_eqB, e_eqT, e_eqR, e_ltI, e_isN, e_lenR, e_lenT, e_lenF, e_listR, e_listT, e_isi_int, e_isi_bool, e_isi_str, e_isi_tuple, e_isi_list, e_intI, e_intB, e_seqT, e_seqF, e_slT, e_slF, e_slR, e_isL, put_same, put_put, List.length_cons, List.length_nil, Nat.zero_add, Nat.reduceAdd, true_and, and_true, if_true, e_tupleT, wipe_l, wipe_n, rEqA, rNeA, rCmpA, tyA, Ty0.sub]
      simp only [decide_true, Bool.true_or, Bool.not_true, Bool.false_eq_true, if_false]
      by_cases h3l : ps.length = 3
      · obtain ⟨p1, p2, p3, rfl⟩ : ∃ p1 p2 p3, ps = [p1, p2, p3] := by
          match ps, h3l with
          | [a, b, c], _ => exact ⟨a, b, c, rfl⟩
        simp only [Nat.zero_add, Nat.reduceAdd, List.length_cons, List.length_nil, Int.cast_ofNat_Int, decide_true, id, Bool.not_true, Bool.false_eq_true, if_false, wipeA, List.set_cons_succ, List.set_cons_zero]
        refine q_parts hpp hpl fun D A2 s2 hD hD2 => ⟨lenS (by decide), fun p hp0 => ?_⟩
        have hDp : D ≠ p := ane hD2 hp0
        refine of_eqR (e_nil (asL_ref (by rw [put_ne hDp]; exact hD2)) (asL_ref put_same) (fun y hy => (hpp y (List.mem_filter.mp hy).1).dat _ _) ?_)
        have hA2 : Ext A (put A2 p (.lst [])) := (h3.trans s2).putn ((h3.trans s2).gone hp0)
        have hg2 : put A2 p (.lst []) g = some (.lst (rs.map fun r => .int r.1)) := by rw [put_ne (ane (s2 g _ h2) hp0)]; exact s2 g _ h2
        have hd2 : put A2 p (.lst []) d = some (.dK (rs.map kvF)) := by rw [put_ne (ane (s2 d _ h1) hp0)]; exact s2 d _ h1
        generalize put A2 p (.lst []) = A3 at hA2 hg2 hd2
        by_cases hf : [p1, p2, p3].filter (fun y => !whole y) = []
        · simp only [hf, decide_true, Bool.not_true, Bool.false_eq_true, if_false]
          have hwh : whole p1 = true ∧ whole p2 = true ∧ whole p3 = true := by simpa [List.filter_eq_nil_iff] using hf
          obtain ⟨a, rfl⟩ : ∃ a, p1 = .int a := by
            cases p1 <;> first | exact ⟨_, rfl⟩ | (have := hwh.1; cases this)
          obtain ⟨b, rfl⟩ : ∃ a, p2 = .int a := by
            cases p2 <;> first | exact ⟨_, rfl⟩ | (have := hwh.2.1; cases this)
          obtain ⟨c', rfl⟩ : ∃ a, p3 = .int a := by
            cases p3 <;> first | exact ⟨_, rfl⟩ | (have := hwh.2.2; cases this)
          simp only [x_seq, x_next, x_break, x_cont, x_drop, x_ret, x_retN, x_if, x_asg, x_for, x_raise, x_gname, x_gnil, x_gcons, x_gtup, x_gsub, x_c, x_op, x_un, x_chain, x_cb, x_call, x_bm, x_tup, x_lst, x_andV, x_orV, x_notV, x_ifE, x_sl, x_lc, x_dictK, x_dictT, x_rev, x_b, x_and, x_or, x_not, x_yes, x_nil, x_cons, x_part, x_noPart, x_iter, x_rng1, x_rng2, x_enum, aVar0, aVarS, onBl, onInt, onRef, onStr, onTup, on1, on2, List.set_cons_zero, List.set_cons_succ, rI2, rSubA, rMulA, rDivA, rModA, rPowA, rLeI, rGeI, rLtI, rGtI, rNegA, e_ixr, e_ixt, e_ixs, e_ixf, e_at0, e_at1, e_at2, onO_some, e_setr, e_ix2_0, e_ix2_1, e_ix3_0, e_ix3_1, e_ix3_2, e_addI, e_addT, e_addL, e_eqI, e_eqS, e_eqB, e_eqT, e_eqR, e_ltI, e_isN, e_lenR, e_lenT, e_lenF, e_listR, e_listT, e_isi_int, e_isi_bool, e_isi_str, e_isi_tuple, e_isi_list, e_intI, e_intB, e_seqT, e_seqF, e_slT, e_slF, e_slR, e_isL, put_same, put_put, List.length_cons, List.length_nil, Nat.zero_add, Nat.reduceAdd, true_and, and_true, if_true, e_tupleT, wipe_l, wipe_n, rEqA, rNeA, rCmpA, netV]
          refine e_inT rfl (flat_ints bs) ?_
          simp only [inA_ints, x_seq, x_next, x_break, x_cont, x_drop, x_ret, x_retN, x_if, x_asg, x_for, x_raise, x_gname, x_gnil, x_gcons, x_gtup, x_gsub, x_c, x_op, x_un, x_chain, x_cb, x_call, x_bm, x_tup, x_lst, x_andV, x_orV, x_notV, x_ifE, x_sl, x_lc, x_dictK, x_dictT, x_rev, x_b, x_and, x_or, x_not, x_yes, x_nil, x_cons, x_part, x_noPart, x_iter, x_rng1, x_rng2, x_enum, aVar0, aVarS, onBl, onInt, onRef, onStr, onTup, on1, on2, List.set_cons_zero, List.set_cons_succ, rI2, rSubA, rMulA, rDivA, rModA, rPowA, rLeI, rGeI, rLtI, rGtI, rNegA, e_ixr, e_ixt, e_ixs, e_ixf, e_at0, e_at1, e_at2, onO_some, e_setr, e_ix2_0, e_ix2_1, e_ix3_0, e_ix3_1, e_ix3_2, e_addI, e_addT, e_addL, e_eqI, e_eqS, e_eqB, e_eqT, e_eqR, e_ltI, e_isN, e_lenR, e_lenT, e_lenF, e_listR, e_listT, e_isi_int, e_isi_bool, e_isi_str, e_isi_tuple, e_isi_list, e_intI, e_intB, e_seqT, e_seqF, e_slT, e_slF, e_slR, e_isL, put_same, put_put, List.length_cons, List.length_nil, Nat.zero_add, Nat.reduceAdd, true_and, and_true, if_true, e_tupleT, wipe_l, wipe_n, rEqA, rNeA, rCmpA]
          have hrF : ranksF bs xs (-1) [] = if a ∈ bs ∧ lastR rs < a then ranksF bs (xs.drop (i + 1)) a (rs ++ [(a, b, c')]) else none := h5
          by_cases m1 : a ∈ bs
          · simp only [m1, decide_true, Bool.not_true, Bool.false_eq_true, if_false]
            refine ⟨lenS (by decide), fun p hp1 => ?_⟩
            have hgp := ane hg2 hp1
            refine e_nil (asL_ref (by rw [put_ne hgp]; exact hg2)) (asL_ref put_same) (fun y hy => ?_) ?_
            · obtain ⟨r, _, rfl⟩ := List.mem_map.mp hy
              exact .int _
            have hA4 : Ext A (put A3 p (.lst [])) := hA2.putn (hA2.gone hp1)
            have hg3 : put A3 p (.lst []) g = some (.lst (rs.map fun r => .int r.1)) := by rw [put_ne hgp]; exact hg2
            have hd3 : put A3 p (.lst []) d = some (.dK (rs.map kvF)) := by rw [put_ne (ane hd2 hp1)]; exact hd2
            generalize put A3 p (.lst []) = A4 at hA4 hg3 hd3
            have ecut : cutA [AV.int a, AV.int b, AV.int c'] (some 1) none = [.int b, .int c'] := rfl
            have hdA : ∀ o, put A4 g o d = some (.dK (rs.map kvF)) := fun o => by rw [put_ne hdg]; exact hd3
            have go : lastR rs < a → D'.nx [some (netV bs ts), some (.ref w), some (.ref s), some (.ref d), some (.ref g), some (.tup [.int a, .int b, .int c']), none, none, none, r9, none]
                (put (put A4 g (.lst (rs.map (fun r => .int r.1) ++ [.int a]))) d (.dK (putA (rs.map kvF) (.inl a) (.tup [.int b, .int c'])))) := fun hlt => by
              have eL : lastR (rs ++ [(a, b, c')]) = a := by unfold lastR; rw [List.getLast?_concat]
              refine hnx _ _ ⟨rs ++ [(a, b, c')], _, _, rfl, ?_, ?_, ?_, ?_, ?_, ?_⟩
              · rw [put_same, putA_new fun r hr => by have := h4 r hr; omega]
              · rw [put_ne hdg.symm, put_same, List.map_append]; rfl
              · exact (hA4.putn hg0).putn hd
              · rw [eL]
                intro r hr
                rcases List.mem_append.mp hr with hr | hr
                · have := h4 r hr; omega
                · rw [List.mem_singleton.mp hr]; exact Int.le_refl _
              · rw [eL, hrF]; exact if_pos ⟨m1, hlt⟩
              · rw [List.length_append]; simp; omega
            have hlA : (rs.map fun r => AV.int r.1).length < sizeLine := by rw [List.length_map]; exact lenS' (by omega)
            have hlD : (rs.map kvF).length < sizeLine := by rw [List.length_map]; exact lenS' (by omega)
            cases hrs : rs.getLast? with
            | none =>
              have er : rs = [] := by simpa using hrs
              simp only [er, List.map_nil, decide_true, Bool.not_true, Bool.false_eq_true, if_false]
              subst er
              simp only [x_seq, x_next, x_break, x_cont, x_drop, x_ret, x_retN, x_if, x_asg, x_for, x_raise, x_gname, x_gnil, x_gcons, x_gtup, x_gsub, x_c, x_op, x_un, x_chain, x_cb, x_call, x_bm, x_tup, x_lst, x_andV, x_orV, x_notV, x_ifE, x_sl, x_lc, x_dictK, x_dictT, x_rev, x_b, x_and, x_or, x_not, x_yes, x_nil, x_cons, x_part, x_noPart, x_iter, x_rng1, x_rng2, x_enum, aVar0, aVarS, onBl, onInt, onRef, onStr, onTup, on1, on2, List.set_cons_zero, List.set_cons_succ, rI2, rSubA, rMulA, rDivA, rModA, rPowA, rLeI, rGeI, rLtI, rGtI, rNegA, e_ixr, e_ixt, e_ixs, e_ixf, e_at0, e_at1, e_at2, onO_some, e_setr, e_ix2_0, e_ix2_1, e_ix3_0, e_ix3_1, e_ix3_2, e_addI, e_addT, e_addL, e_eqI, e_eqS, e_eqB, e_eqT, e_eqR, e_ltI, e_isN, e_lenR, e_lenT, e_lenF, e_listR, e_listT, e_isi_int, e_isi_bool, e_isi_str, e_isi_tuple, e_isi_list, e_intI, e_intB, e_seqT, e_seqF, e_slT, e_slF, e_slR, e_isL, put_same, put_put, List.length_cons, List.length_nil, Nat.zero_add, Nat.reduceAdd, true_and, and_true, if_true, e_tupleT, wipe_l, wipe_n, rEqA, rNeA, rCmpA, hg3, e_app hg3, hdA, ecut, hlA, hlD]
              refine go ?_
              have := hb a m1
              show (-1 : Int) < a
              omega
            | some r =>
              have en : decide (rs.map (fun r => AV.int r.1) = []) = false := by
                cases rs with
                | nil => cases hrs
                | cons _ _ => rfl
              have eLa : lastR rs = r.1 := by unfold lastR; rw [hrs]
              have eat : atI (rs.map fun r => AV.int r.1) (-1) = some (.int r.1) := atI_last (by rw [List.getLast?_map, hrs]; rfl)
              simp only [en, Bool.not_false, if_true, x_seq, x_next, x_break, x_cont, x_drop, x_ret, x_retN, x_if, x_asg, x_for, x_raise, x_gname, x_gnil, x_gcons, x_gtup, x_gsub, x_c, x_op, x_un, x_chain, x_cb, x_call, x_bm, x_tup, x_lst, x_andV, x_orV, x_notV, x_ifE, x_sl, x_lc, x_dictK, x_dictT, x_rev, x_b, x_and, x_or, x_not, x_yes, x_nil, x_cons, x_part, x_noPart, x_iter, x_rng1, x_rng2, x_enum, aVar0, aVarS, onBl, onInt, onRef, onStr, onTup, on1, on2, List.set_cons_zero, List.set_cons_succ, rI2, rSubA, rMulA, rDivA, rModA, rPowA, rLeI, rGeI, rLtI, rGtI, rNegA, e_ixr, e_ixt, e_ixs, e_ixf, e_at0, e_at1, e_at2, onO_some, e_setr, e_ix2_0, e_ix2_1, e_ix3_0, e_ix3_1, e_ix3_2, e_addI, e_addT, e_addL, e_eqI, e_eqS, e_eqB, e_eqT, e_eqR, e_ltI, e_isN, e_lenR, e_lenT, e_lenF, e_listR, e_listT, e_isi_int, e_isi_bool, e_isi_str, e_isi_tuple, e_isi_list, e_intI, e_intB, e_seqT, e_seqF, e_slT, e_slF, e_slR, e_isL, put_same, put_put, List.length_cons, List.length_nil, Nat.zero_add, Nat.reduceAdd, true_and, and_true, if_true, e_tupleT, wipe_l, wipe_n, rEqA, rNeA, rCmpA, hg3, eat]
              by_cases m2 : a ≤ r.1
              · simp only [m2, decide_true, if_true]
                exact fin _ hA4 (by rw [hrF]; exact if_neg fun z => by omega)
              · simp only [m2, decide_false, Bool.false_eq_true, if_false, x_seq, x_next, x_break, x_cont, x_drop, x_ret, x_retN, x_if, x_asg, x_for, x_raise, x_gname, x_gnil, x_gcons, x_gtup, x_gsub, x_c, x_op, x_un, x_chain, x_cb, x_call, x_bm, x_tup, x_lst, x_andV, x_orV, x_notV, x_ifE, x_sl, x_lc, x_dictK, x_dictT, x_rev, x_b, x_and, x_or, x_not, x_yes, x_nil, x_cons, x_part, x_noPart, x_iter, x_rng1, x_rng2, x_enum, aVar0, aVarS, onBl, onInt, onRef, onStr, onTup, on1, on2, List.set_cons_zero, List.set_cons_succ, rI2, rSubA, rMulA, rDivA, rModA, rPowA, rLeI, rGeI, rLtI, rGtI, rNegA, e_ixr, e_ixt, e_ixs, e_ixf, e_at0, e_at1, e_at2, onO_some, e_setr, e_ix2_0, e_ix2_1, e_ix3_0, e_ix3_1, e_ix3_2, e_addI, e_addT, e_addL, e_eqI, e_eqS, e_eqB, e_eqT, e_eqR, e_ltI, e_isN, e_lenR, e_lenT, e_lenF, e_listR, e_listT, e_isi_int, e_isi_bool, e_isi_str, e_isi_tuple, e_isi_list, e_intI, e_intB, e_seqT, e_seqF, e_slT, e_slF, e_slR, e_isL, put_same, put_put, List.length_cons, List.length_nil, Nat.zero_add, Nat.reduceAdd, true_and, and_true, if_true, e_tupleT, wipe_l, wipe_n, rEqA, rNeA, rCmpA, hg3, e_app hg3, hdA, ecut, hlA, hlD]
                exact go (by omega)
          · simp only [m1, decide_false, Bool.not_false, if_true]
            exact fin _ hA2 (by rw [hrF]; exact if_neg fun z => m1 z.1)
        · simp only [hf, decide_false, Bool.not_false, if_true]
          exact hno _ hA2 (by rw [rowB_parts]; simp [hf])
      · have e1 : decide ((ps.length : Int) = 3) = false := by simp; omega
        simp only [e1, Bool.not_false, if_true]
        exact hno A' h3 (by rw [rowB_parts]; simp [h3l])
    · simp [x_seq, x_next, x_break, x_cont, x_drop, x_ret, x_retN, x_if, x_asg, x_for, x_raise, x_gname, x_gnil, x_gcons, x_gtup, x_gsub, x_c, x_op, x_un, x_chain, x_cb, x_call, x_bm, x_tup, x_lst, x_andV, x_orV, x_notV, x_ifE, x_sl, x_lc, x_dictK, x_dictT, x_rev, x_b, x_and, x_or, x_not, x_yes, x_nil, x_cons, x_part, x_noPart, x_iter, x_rng1, x_rng2, x_enum, aVar0, aVarS, onBl, onInt, onRef, onStr, onTup, on1, on2, List.set_cons_zero, List.set_cons_succ, rI2, rSubA, rMulA, rDivA, rModA, rPowA, rLeI, rGeI, rLtI, rGtI, rNegA, e_ixr, e_ixt, e_ixs, e_ixf, e_at0, e_at1, e_at2, onO_some, e_setr, e_ix2_0, e_ix2_1, e_ix3_0, e_ix3_1, e_ix3_2, e_addI, e_addT, e_addL, e_eqI, e_eqS, e_eqB, e_eqT, e_eqR, e_ltI, e_isN, e_lenR, e_lenT, e_lenF, e_listR, e_listT, e_isi_int, e_isi_bool, e_isi_str, e_isi_tuple, e_isi_list, e_intI, e_intB, e_seqT, e_seqF, e_slT, e_slF, e_slR, e_isL, put_same, put_put, List.length_cons, List.length_nil, Nat.zero_add, Nat.reduceAdd, true_and, and_true, if_true, e_tupleT, wipe_l, wipe_n, rEqA, rNeA, rCmpA, tyA, Ty0.sub, hq]
      exact hno A' h3 rfl
  · rintro a A' ⟨rs, r5, r9, rfl, h1, h2, h3, h4, h5, h6⟩
    rw [List.drop_length, ranksF] at h5
    have hw2 := h3 w _ hw
    have eF : rankedF bs ts ws xs = rankW ts rs ws [] := by unfold rankedF; rw [h5]
    simp only [x_seq, x_next, x_break, x_cont, x_drop, x_ret, x_retN, x_if, x_asg, x_for, x_raise, x_gname, x_gnil, x_gcons, x_gtup, x_gsub, x_c, x_op, x_un, x_chain, x_cb, x_call, x_bm, x_tup, x_lst, x_andV, x_orV, x_notV, x_ifE, x_sl, x_lc, x_dictK, x_dictT, x_rev, x_b, x_and, x_or, x_not, x_yes, x_nil, x_cons, x_part, x_noPart, x_iter, x_rng1, x_rng2, x_enum, aVar0, aVarS, onBl, onInt, onRef, onStr, onTup, on1, on2, List.set_cons_zero, List.set_cons_succ, rI2, rSubA, rMulA, rDivA, rModA, rPowA, rLeI, rGeI, rLtI, rGtI, rNegA, e_ixr, e_ixt, e_ixs, e_ixf, e_at0, e_at1, e_at2, onO_some, e_setr, e_ix2_0, e_ix2_1, e_ix3_0, e_ix3_1, e_ix3_2, e_addI, e_addT, e_addL, e_eqI, e_eqS, e_eqB, e_eqT, e_eqR, e_ltI, e_isN, e_lenR, e_lenT, e_lenF, e_listR, e_listT, e_isi_int, e_isi_bool, e_isi_str, e_isi_tuple, e_isi_list, e_intI, e_intB, e_seqT, e_seqF, e_slT, e_slF, e_slR, e_isL, put_same, put_put, List.length_cons, List.length_nil, Nat.zero_add, Nat.reduceAdd, true_and, and_true, if_true, e_tupleT, wipe_l, wipe_n, rEqA, rNeA, rCmpA, e_lenSet, e_seqR hw2, wipeA]
    intro D hD
    refine lc_map (fun x => match x with | .tup [_, y, _] => y | y => y) (lenS (by rw [List.length_map]; omega)) (fun o => by rw [put_ne (ane hw2 hD)]; exact hw2) (fun x hx o Y N hY => ?_) ?_
    · obtain ⟨v, hv, rfl⟩ := List.mem_map.mp hx
      unfold wayV at hY ⊢
      simp only [x_seq, x_next, x_break, x_cont, x_drop, x_ret, x_retN, x_if, x_asg, x_for, x_raise, x_gname, x_gnil, x_gcons, x_gtup, x_gsub, x_c, x_op, x_un, x_chain, x_cb, x_call, x_bm, x_tup, x_lst, x_andV, x_orV, x_notV, x_ifE, x_sl, x_lc, x_dictK, x_dictT, x_rev, x_b, x_and, x_or, x_not, x_yes, x_nil, x_cons, x_part, x_noPart, x_iter, x_rng1, x_rng2, x_enum, aVar0, aVarS, onBl, onInt, onRef, onStr, onTup, on1, on2, List.set_cons_zero, List.set_cons_succ, rI2, rSubA, rMulA, rDivA, rModA, rPowA, rLeI, rGeI, rLtI, rGtI, rNegA, e_ixr, e_ixt, e_ixs, e_ixf, e_at0, e_at1, e_at2, onO_some, e_setr, e_ix2_0, e_ix2_1, e_ix3_0, e_ix3_1, e_ix3_2, e_addI, e_addT, e_addL, e_eqI, e_eqS, e_eqB, e_eqT, e_eqR, e_ltI, e_isN, e_lenR, e_lenT, e_lenF, e_listR, e_listT, e_isi_int, e_isi_bool, e_isi_str, e_isi_tuple, e_isi_list, e_intI, e_intB, e_seqT, e_seqF, e_slT, e_slF, e_slR, e_isL, put_same, put_put, List.length_cons, List.length_nil, Nat.zero_add, Nat.reduceAdd, true_and, and_true, if_true, e_tupleT, wipe_l, wipe_n, rEqA, rNeA, rCmpA]
      exact hY
    · have eC : (ws.map wayV).map (fun x => match x with | .tup [_, y, _] => y | y => y) = (ws.map (·.2.1)).map AV.int := by
        rw [List.map_map, List.map_map]; rfl
      rw [eC]
      have hwD : put A' D (.lst ((ws.map (·.2.1)).map AV.int)) w = some (.lst (ws.map wayV)) := by rw [put_ne (ane hw2 hD)]; exact hw2
      have hxD : Ext A (put A' D (.lst ((ws.map (·.2.1)).map AV.int))) := h3.putn (h3.gone hD)
      have hdD : put A' D (.lst ((ws.map (·.2.1)).map AV.int)) d = some (.dK (rs.map kvF)) := by rw [put_ne (ane h1 hD)]; exact h1
      rw [asL_ref put_same]
      generalize put A' D (.lst ((ws.map (·.2.1)).map AV.int)) = A2 at hwD hxD hdD
      simp only [x_seq, x_next, x_break, x_cont, x_drop, x_ret, x_retN, x_if, x_asg, x_for, x_raise, x_gname, x_gnil, x_gcons, x_gtup, x_gsub, x_c, x_op, x_un, x_chain, x_cb, x_call, x_bm, x_tup, x_lst, x_andV, x_orV, x_notV, x_ifE, x_sl, x_lc, x_dictK, x_dictT, x_rev, x_b, x_and, x_or, x_not, x_yes, x_nil, x_cons, x_part, x_noPart, x_iter, x_rng1, x_rng2, x_enum, aVar0, aVarS, onBl, onInt, onRef, onStr, onTup, on1, on2, List.set_cons_zero, List.set_cons_succ, rI2, rSubA, rMulA, rDivA, rModA, rPowA, rLeI, rGeI, rLtI, rGtI, rNegA, e_ixr, e_ixt, e_ixs, e_ixf, e_at0, e_at1, e_at2, onO_some, e_setr, e_ix2_0, e_ix2_1, e_ix3_0, e_ix3_1, e_ix3_2, e_addI, e_addT, e_addL, e_eqI, e_eqS, e_eqB, e_eqT, e_eqR, e_ltI, e_isN, e_lenR, e_lenT, e_lenF, e_listR, e_listT, e_isi_int, e_isi_bool, e_isi_str, e_isi_tuple, e_isi_list, e_intI, e_intB, e_seqT, e_seqF, e_slT, e_slF, e_slR, e_isL, put_same, put_put, List.length_cons, List.length_nil, Nat.zero_add, Nat.reduceAdd, true_and, and_true, if_true, e_tupleT, wipe_l, wipe_n, rEqA, rNeA, rCmpA, allInts_map, hwD, List.length_map, e_seqR hwD]
      refine ⟨by omega, ?_⟩
      by_cases hn : (ws.map (·.2.1)).Nodup
      · rw [dedI_of_nodup hn]
        have e1 : decide ((((ws.map (·.2.1)).length : Nat) : Int) < (ws.length : Nat)) = false := by simp
        simp only [e1, Bool.false_eq_true, if_false]
        have eR : rankedF bs ts ws xs = ws.all (condW ts rs) := by rw [eF, rankW_eq]; simp [hn]
        refine loop_inv (fun i a A' => ∃ q5 q6 q7 q8 q9 q10, a = [some (netV bs ts), some (.ref w), some (.ref s), some (.ref d), some (.ref g), q5, q6, q7, q8, q9, q10] ∧ A' = A2 ∧ ∀ v ∈ ws.take i, condW ts rs v = true) ?_ ?_ ?_ ?_
        · exact ⟨_, _, _, _, _, _, rfl, rfl, by simp⟩
        · rintro i a A' hi ⟨q5, q6, q7, q8, q9, q10, rfl, rfl, _⟩
          exact hwD
        · rintro i x a A' hx' ⟨q5, q6, q7, q8, q9, q10, rfl, rfl, hP⟩ D' hrt hbk hnx hct
          rw [List.getElem?_map] at hx'
          obtain ⟨⟨pl, ch, pa⟩, hy, rfl⟩ := Option.map_eq_some_iff.mp hx'
          have hm := List.mem_of_getElem? hy
          have hpl : pl < ts.length := hp _ hm
          have fin : condW ts rs (pl, ch, pa) = false → D'.rt (.bl false) A' := fun hn => by
            rw [hrt]
            have := h A' hxD
            rw [eR] at this
            rw [show ws.all (condW ts rs) = false from ?_] at this
            · exact this
            · rw [List.all_eq_false]
              exact ⟨_, hm, by rw [hn]; decide⟩
          have nxt : condW ts rs (pl, ch, pa) = true → ∀ q6 q7 q8, D'.nx [some (netV bs ts), some (.ref w), some (.ref s), some (.ref d), some (.ref g), q5, q6, q7, q8, q9, q10] A' := fun hn q6 q7 q8 => by
            refine hnx _ _ ⟨_, _, _, _, _, _, rfl, rfl, fun v hv => ?_⟩
            rw [List.take_add_one, hy] at hv
            rcases List.mem_append.mp hv with hv | hv
            · exact hP v hv
            · rw [show v = (pl, ch, pa) by simpa using hv]; exact hn
          unfold wayV
          simp only [x_seq, x_next, x_break, x_cont, x_drop, x_ret, x_retN, x_if, x_asg, x_for, x_raise, x_gname, x_gnil, x_gcons, x_gtup, x_gsub, x_c, x_op, x_un, x_chain, x_cb, x_call, x_bm, x_tup, x_lst, x_andV, x_orV, x_notV, x_ifE, x_sl, x_lc, x_dictK, x_dictT, x_rev, x_b, x_and, x_or, x_not, x_yes, x_nil, x_cons, x_part, x_noPart, x_iter, x_rng1, x_rng2, x_enum, aVar0, aVarS, onBl, onInt, onRef, onStr, onTup, on1, on2, List.set_cons_zero, List.set_cons_succ, rI2, rSubA, rMulA, rDivA, rModA, rPowA, rLeI, rGeI, rLtI, rGtI, rNegA, e_ixr, e_ixt, e_ixs, e_ixf, e_at0, e_at1, e_at2, onO_some, e_setr, e_ix2_0, e_ix2_1, e_ix3_0, e_ix3_1, e_ix3_2, e_addI, e_addT, e_addL, e_eqI, e_eqS, e_eqB, e_eqT, e_eqR, e_ltI, e_isN, e_lenR, e_lenT, e_lenF, e_listR, e_listT, e_isi_int, e_isi_bool, e_isi_str, e_isi_tuple, e_isi_list, e_intI, e_intB, e_seqT, e_seqF, e_slT, e_slF, e_slR, e_isL, put_same, put_put, List.length_cons, List.length_nil, Nat.zero_add, Nat.reduceAdd, true_and, and_true, if_true, e_tupleT, wipe_l, wipe_n, rEqA, rNeA, rCmpA, e_inD hdD, hdD, val_look, id]
          cases l1 : look rs ch with
          | none =>
            simp
            exact fin (by rw [condW]; simp [l1])
          | some p =>
            cases l2 : look rs pa with
            | none =>
              simp
              exact fin (by rw [condW]; simp [l1, l2])
            | some q =>
              simp only [x_seq, x_next, x_break, x_cont, x_drop, x_ret, x_retN, x_if, x_asg, x_for, x_raise, x_gname, x_gnil, x_gcons, x_gtup, x_gsub, x_c, x_op, x_un, x_chain, x_cb, x_call, x_bm, x_tup, x_lst, x_andV, x_orV, x_notV, x_ifE, x_sl, x_lc, x_dictK, x_dictT, x_rev, x_b, x_and, x_or, x_not, x_yes, x_nil, x_cons, x_part, x_noPart, x_iter, x_rng1, x_rng2, x_enum, aVar0, aVarS, onBl, onInt, onRef, onStr, onTup, on1, on2, List.set_cons_zero, List.set_cons_succ, rI2, rSubA, rMulA, rDivA, rModA, rPowA, rLeI, rGeI, rLtI, rGtI, rNegA, e_ixr, e_ixt, e_ixs, e_ixf, e_at0, e_at1, e_at2, onO_some, e_setr, e_ix2_0, e_ix2_1, e_ix3_0, e_ix3_1, e_ix3_2, e_addI, e_addT, e_addL, e_eqI, e_eqS, e_eqB, e_eqT, e_eqR, e_ltI, e_isN, e_lenR, e_lenT, e_lenF, e_listR, e_listT, e_isi_int, e_isi_bool, e_isi_str, e_isi_tuple, e_isi_list, e_intI, e_intB, e_seqT, e_seqF, e_slT, e_slF, e_slR, e_isL, put_same, put_put, List.length_cons, List.length_nil, Nat.zero_add, Nat.reduceAdd, true_and, and_true, if_true, e_tupleT, wipe_l, wipe_n, rEqA, rNeA, rCmpA, netV, net_tie hpl, hdD, val_look, l1, l2, Option.map_some, Option.isSome_some, Bool.not_true, Bool.false_eq_true, if_false]
              by_cases c1 : p.1 = q.1
              · by_cases c2 : p.2 - q.2 = tieW ts pl
                · simp [c1, c2]
                  exact nxt (by rw [condW]; simp [l1, l2, c1]; omega) _ _ _
                · simp [c1, c2]
                  exact fin (by rw [condW]; simp [l1, l2, c1]; omega)
              · simp [c1]
                exact fin (by rw [condW]; simp [l1, l2, c1])
        · rintro a A' ⟨q5, q6, q7, q8, q9, q10, rfl, rfl, hP⟩
          rw [List.length_map, List.take_length] at hP
          simp only [x_seq, x_next, x_break, x_cont, x_drop, x_ret, x_retN, x_if, x_asg, x_for, x_raise, x_gname, x_gnil, x_gcons, x_gtup, x_gsub, x_c, x_op, x_un, x_chain, x_cb, x_call, x_bm, x_tup, x_lst, x_andV, x_orV, x_notV, x_ifE, x_sl, x_lc, x_dictK, x_dictT, x_rev, x_b, x_and, x_or, x_not, x_yes, x_nil, x_cons, x_part, x_noPart, x_iter, x_rng1, x_rng2, x_enum, aVar0, aVarS, onBl, onInt, onRef, onStr, onTup, on1, on2, List.set_cons_zero, List.set_cons_succ, rI2, rSubA, rMulA, rDivA, rModA, rPowA, rLeI, rGeI, rLtI, rGtI, rNegA, e_ixr, e_ixt, e_ixs, e_ixf, e_at0, e_at1, e_at2, onO_some, e_setr, e_ix2_0, e_ix2_1, e_ix3_0, e_ix3_1, e_ix3_2, e_addI, e_addT, e_addL, e_eqI, e_eqS, e_eqB, e_eqT, e_eqR, e_ltI, e_isN, e_lenR, e_lenT, e_lenF, e_listR, e_listT, e_isi_int, e_isi_bool, e_isi_str, e_isi_tuple, e_isi_list, e_intI, e_intB, e_seqT, e_seqF, e_slT, e_slF, e_slR, e_isL, put_same, put_put, List.length_cons, List.length_nil, Nat.zero_add, Nat.reduceAdd, true_and, and_true, if_true, e_tupleT, wipe_l, wipe_n, rEqA, rNeA, rCmpA]
          have := h A' hxD
          rw [eR, List.all_eq_true.mpr hP] at this
          exact this
      · have e1 : decide ((((dedI (ws.map (·.2.1))).length : Nat) : Int) < (ws.length : Nat)) = true := by
          have := dedI_lt hn
          rw [List.length_map] at this
          simp; omega
        simp only [e1, if_true]
        have := h A2 hxD
        rw [eF, rankW_eq] at this
        simpa [hn] using this
end K34

set_option Elab.async false
set_option linter.all false
set_option maxRecDepth 100000
set_option maxHeartbeats 400000
namespace K34
open PySem PySem.Spec PyProof.Rows L2 Aw
/-! ### make_net -/
structure BsOk (bs : List Int) : Prop where
  one : 1 ≤ bs.length
  ten : bs.length ≤ 10
  rng : ∀ b ∈ bs, 0 ≤ b ∧ b ≤ 999
  nd : bs.Nodup
theorem q_need {c : Cl} {bs : List Int} {p : Addr} {A : AH} {k : AK} {e : Value → AH → Prop} (hA : A p = some (.lst (bs.map AV.int))) (B : BsOk bs) (h : ∀ A', Ext A A' → k .non A') : p_need_bridges c [.ref p] A k e := by
  refine ⟨rfl, ?_⟩
  show r_need_bridges c _ _ [some (.ref p), none, none] A
  unfold r_need_bridges
  have h1 := B.one
  have h2 := B.ten
  simp only [x_seq, x_next, x_break, x_cont, x_drop, x_ret, x_retN, x_if, x_asg, x_for, x_raise, x_gname, x_gnil, x_gcons, x_gtup, x_gsub, x_c, x_op, x_un, x_chain, x_cb, x_call, x_bm, x_tup, x_lst, x_andV, x_orV, x_notV, x_ifE, x_sl, x_lc, x_dictK, x_dictT, x_rev, x_b, x_and, x_or, x_not, x_yes, x_nil, x_cons, x_part, x_noPart, x_iter, x_rng1, x_rng2, x_enum, aVar0, aVarS, onBl, onInt, onRef, onStr, onTup, on1, on2, List.set_cons_zero, List.set_cons_succ, rI2, rSubA, rMulA, rDivA, rModA, rPowA, rLeI, rGeI, rLtI, rGtI, rNegA, e_ixr, e_ixt, e_ixs, e_ixf, e_at0, e_at1, e_at2, onO_some, e_setr, e_ix2_0, e_ix2_1, e_ix3_0, e_ix3_1, e_ix3_2, e_addI, e_addT, e_addL, e_eqI, e_eqS, e_eqB, e_eqT, e_eqR, e_ltI, e_isN, e_lenR, e_lenT, e_lenF, e_listR, e_listT, e_isi_int, e_isi_bool, e_isi_str, e_isi_tuple, e_isi_list, e_intI, e_intB, e_seqT, e_seqF, e_slT, e_slF, e_slR, e_isL, put_same, put_put, List.length_cons, List.length_nil, Nat.zero_add, Nat.reduceAdd, true_and, and_true, if_true, e_tupleT, wipe_l, wipe_n, rEqA, rNeA, rCmpA, tyA, Ty0.sub, hA, e_seqR hA, List.length_map]
  simp [show (1 : Int) ≤ (bs.length : Nat) by omega, show ((bs.length : Nat) : Int) ≤ 10 by omega]
  refine loop_inv (fun i a A' => ∃ r1 r2, a = [some (.ref p), r1, r2] ∧ Ext A A') ⟨_, _, rfl, .refl A⟩ ?_ ?_ ?_
  · rintro i a A' hi ⟨r1, r2, rfl, s⟩
    exact s p _ hA
  · rintro i x a A' hx ⟨r1, r2, rfl, s⟩ D' hrt hbk hnx hct
    obtain ⟨y, hy, rfl⟩ := enumA_get _ _ _ _ hx
    rw [List.getElem?_map] at hy
    obtain ⟨b, hb, rfl⟩ := Option.map_eq_some_iff.mp hy
    have hbm := List.mem_of_getElem? hb
    have hil := (List.getElem?_eq_some_iff.mp hb).1
    rw [Nat.zero_add]
    simp only [x_seq, x_next, x_break, x_cont, x_drop, x_ret, x_retN, x_if, x_asg, x_for, x_raise, x_gname, x_gnil, x_gcons, x_gtup, x_gsub, x_c, x_op, x_un, x_chain, x_cb, x_call, x_bm, x_tup, x_lst, x_andV, x_orV, x_notV, x_ifE, x_sl, x_lc, x_dictK, x_dictT, x_rev, x_b, x_and, x_or, x_not, x_yes, x_nil, x_cons, x_part, x_noPart, x_iter, x_rng1, x_rng2, x_enum, aVar0, aVarS, onBl, onInt, onRef, onStr, onTup, on1, on2, List.set_cons_zero, List.set_cons_succ, rI2, rSubA, rMulA, rDivA, rModA, rPowA, rLeI, rGeI, rLtI, rGtI, rNegA, e_ixr, e_ixt, e_ixs, e_ixf, e_at0, e_at1, e_at2, onO_some, e_setr, e_ix2_0, e_ix2_1, e_ix3_0, e_ix3_1, e_ix3_2, e_addI, e_addT, e_addL, e_eqI, e_eqS, e_eqB, e_eqT, e_eqR, e_ltI, e_isN, e_lenR, e_lenT, e_lenF, e_listR, e_listT, e_isi_int, e_isi_bool, e_isi_str, e_isi_tuple, e_isi_list, e_intI, e_intB, e_seqT, e_seqF, e_slT, e_slF, e_slR, e_isL, put_same, put_put, List.length_cons, List.length_nil, Nat.zero_add, Nat.reduceAdd, true_and, and_true, if_true, e_tupleT, wipe_l, wipe_n, rEqA, rNeA, rCmpA]
    refine q_within (B.rng b hbm).1 (B.rng b hbm).2 ?_
    simp only [x_seq, x_next, x_break, x_cont, x_drop, x_ret, x_retN, x_if, x_asg, x_for, x_raise, x_gname, x_gnil, x_gcons, x_gtup, x_gsub, x_c, x_op, x_un, x_chain, x_cb, x_call, x_bm, x_tup, x_lst, x_andV, x_orV, x_notV, x_ifE, x_sl, x_lc, x_dictK, x_dictT, x_rev, x_b, x_and, x_or, x_not, x_yes, x_nil, x_cons, x_part, x_noPart, x_iter, x_rng1, x_rng2, x_enum, aVar0, aVarS, onBl, onInt, onRef, onStr, onTup, on1, on2, List.set_cons_zero, List.set_cons_succ, rI2, rSubA, rMulA, rDivA, rModA, rPowA, rLeI, rGeI, rLtI, rGtI, rNegA, e_ixr, e_ixt, e_ixs, e_ixf, e_at0, e_at1, e_at2, onO_some, e_setr, e_ix2_0, e_ix2_1, e_ix3_0, e_ix3_1, e_ix3_2, e_addI, e_addT, e_addL, e_eqI, e_eqS, e_eqB, e_eqT, e_eqR, e_ltI, e_isN, e_lenR, e_lenT, e_lenF, e_listR, e_listT, e_isi_int, e_isi_bool, e_isi_str, e_isi_tuple, e_isi_list, e_intI, e_intB, e_seqT, e_seqF, e_slT, e_slF, e_slR, e_isL, put_same, put_put, List.length_cons, List.length_nil, Nat.zero_add, Nat.reduceAdd, true_and, and_true, if_true, e_tupleT, wipe_l, wipe_n, rEqA, rNeA, rCmpA, s p _ hA, Bool.not_true, Bool.false_eq_true, if_false]
    intro q hq
    rw [cut_hi (by rw [List.length_map]; omega), ← List.map_take]
    refine e_inL put_same rfl (flat_ints _) ?_
    rw [inA_ints]
    have hn : b ∉ bs.take i := fun z => by
      obtain ⟨j, hj⟩ := List.mem_iff_getElem?.mp z
      have hji : j < i := by
        have := (List.getElem?_eq_some_iff.mp hj).1
        rw [List.length_take] at this
        omega
      rw [List.getElem?_take_of_lt hji] at hj
      have hjl := (List.getElem?_eq_some_iff.mp hj).1
      have := List.pairwise_iff_getElem.mp B.nd j i hjl hil hji
      rw [(List.getElem?_eq_some_iff.mp hj).2, (List.getElem?_eq_some_iff.mp hb).2] at this
      exact this rfl
    simp only [hn, decide_false, id, Bool.false_eq_true, if_false]
    exact hnx _ _ ⟨_, _, rfl, s.putn (s.gone hq)⟩
  · rintro a A' ⟨r1, r2, rfl, s⟩
    simp only [x_seq, x_next, x_break, x_cont, x_drop, x_ret, x_retN, x_if, x_asg, x_for, x_raise, x_gname, x_gnil, x_gcons, x_gtup, x_gsub, x_c, x_op, x_un, x_chain, x_cb, x_call, x_bm, x_tup, x_lst, x_andV, x_orV, x_notV, x_ifE, x_sl, x_lc, x_dictK, x_dictT, x_rev, x_b, x_and, x_or, x_not, x_yes, x_nil, x_cons, x_part, x_noPart, x_iter, x_rng1, x_rng2, x_enum, aVar0, aVarS, onBl, onInt, onRef, onStr, onTup, on1, on2, List.set_cons_zero, List.set_cons_succ, rI2, rSubA, rMulA, rDivA, rModA, rPowA, rLeI, rGeI, rLtI, rGtI, rNegA, e_ixr, e_ixt, e_ixs, e_ixf, e_at0, e_at1, e_at2, onO_some, e_setr, e_ix2_0, e_ix2_1, e_ix3_0, e_ix3_1, e_ix3_2, e_addI, e_addT, e_addL, e_eqI, e_eqS, e_eqB, e_eqT, e_eqR, e_ltI, e_isN, e_lenR, e_lenT, e_lenF, e_listR, e_listT, e_isi_int, e_isi_bool, e_isi_str, e_isi_tuple, e_isi_list, e_intI, e_intB, e_seqT, e_seqF, e_slT, e_slF, e_slR, e_isL, put_same, put_put, List.length_cons, List.length_nil, Nat.zero_add, Nat.reduceAdd, true_and, and_true, if_true, e_tupleT, wipe_l, wipe_n, rEqA, rNeA, rCmpA]
    exact h A' s
/-- a tie as it is handed in -/
def tieV (t : R3) : AV := .tup [.int t.1, .int t.2.1, .int t.2.2]
structure TieOk (bs : List Int) (t : R3) : Prop where
  l : t.1 ∈ bs
  r : t.2.1 ∈ bs
  ne : t.1 ≠ t.2.1
  lo : 1 ≤ t.2.2
  hi : t.2.2 ≤ 1000
def norm (t : R3) : R3 := (min t.1 t.2.1, max t.1 t.2.1, t.2.2)
theorem q_tie {c : Cl} {bs : List Int} {t : R3} {p : Addr} {A : AH} {k : AK} {e : Value → AH → Prop} (hA : A p = some (.lst (bs.map AV.int))) (B : BsOk bs) (T : TieOk bs t) (h : k (tieV (norm t)) A) : p_tie_of c [.ref p, tieV t] A k e := by
  refine ⟨rfl, ?_⟩
  show r_tie_of c _ _ [some (.ref p), some (tieV t), none] A
  unfold r_tie_of
  obtain ⟨a, b, w⟩ := t
  obtain ⟨ha, hb, hne, hlo, hhi⟩ := T
  simp only at ha hb hne hlo hhi
  unfold tieV
  simp only [x_seq, x_next, x_break, x_cont, x_drop, x_ret, x_retN, x_if, x_asg, x_for, x_raise, x_gname, x_gnil, x_gcons, x_gtup, x_gsub, x_c, x_op, x_un, x_chain, x_cb, x_call, x_bm, x_tup, x_lst, x_andV, x_orV, x_notV, x_ifE, x_sl, x_lc, x_dictK, x_dictT, x_rev, x_b, x_and, x_or, x_not, x_yes, x_nil, x_cons, x_part, x_noPart, x_iter, x_rng1, x_rng2, x_enum, aVar0, aVarS, onBl, onInt, onRef, onStr, onTup, on1, on2, List.set_cons_zero, List.set_cons_succ, rI2, rSubA, rMulA, rDivA, rModA, rPowA, rLeI, rGeI, rLtI, rGtI, rNegA, e_ixr, e_ixt, e_ixs, e_ixf, e_at0, e_at1, e_at2, onO_some, e_setr, e_ix2_0, e_ix2_1, e_ix3_0, e_ix3_1, e_ix3_2, e_addI, e_addT, e_addL, e_eqI, e_eqS, e_eqB, e_eqT, e_eqR, e_ltI, e_isN, e_lenR, e_lenT, e_lenF, e_listR, e_listT, e_isi_int, e_isi_bool, e_isi_str, e_isi_tuple, e_isi_list, e_intI, e_intB, e_seqT, e_seqF, e_slT, e_slF, e_slR, e_isL, put_same, put_put, List.length_cons, List.length_nil, Nat.zero_add, Nat.reduceAdd, true_and, and_true, if_true, e_tupleT, wipe_l, wipe_n, rEqA, rNeA, rCmpA, tyA, Ty0.sub, Int.cast_ofNat_Int]
  simp
  refine q_within hlo hhi ?_
  have ecut : cutA [AV.int a, AV.int b, AV.int w] none (some 2) = [.int a, .int b] := rfl
  simp only [x_seq, x_next, x_break, x_cont, x_drop, x_ret, x_retN, x_if, x_asg, x_for, x_raise, x_gname, x_gnil, x_gcons, x_gtup, x_gsub, x_c, x_op, x_un, x_chain, x_cb, x_call, x_bm, x_tup, x_lst, x_andV, x_orV, x_notV, x_ifE, x_sl, x_lc, x_dictK, x_dictT, x_rev, x_b, x_and, x_or, x_not, x_yes, x_nil, x_cons, x_part, x_noPart, x_iter, x_rng1, x_rng2, x_enum, aVar0, aVarS, onBl, onInt, onRef, onStr, onTup, on1, on2, List.set_cons_zero, List.set_cons_succ, rI2, rSubA, rMulA, rDivA, rModA, rPowA, rLeI, rGeI, rLtI, rGtI, rNegA, e_ixr, e_ixt, e_ixs, e_ixf, e_at0, e_at1, e_at2, onO_some, e_setr, e_ix2_0, e_ix2_1, e_ix3_0, e_ix3_1, e_ix3_2, e_addI, e_addT, e_addL, e_eqI, e_eqS, e_eqB, e_eqT, e_eqR, e_ltI, e_isN, e_lenR, e_lenT, e_lenF, e_listR, e_listT, e_isi_int, e_isi_bool, e_isi_str, e_isi_tuple, e_isi_list, e_intI, e_intB, e_seqT, e_seqF, e_slT, e_slF, e_slR, e_isL, put_same, put_put, List.length_cons, List.length_nil, Nat.zero_add, Nat.reduceAdd, true_and, and_true, if_true, e_tupleT, wipe_l, wipe_n, rEqA, rNeA, rCmpA, ecut]
  refine loop_inv (fun i a' A' => ∃ r, a' = [some (.ref p), some (.tup [.int a, .int b, .int w]), r] ∧ A' = A) ⟨_, rfl, rfl⟩ (fun _ _ _ _ _ => trivial) ?_ ?_
  · rintro i x a' A' hx ⟨r, rfl, rfl⟩ D' hrt hbk hnx hct
    obtain ⟨n, hn, rfl⟩ : ∃ n, n ∈ bs ∧ x = .int n := by
      have := List.mem_of_getElem? hx
      rcases List.mem_cons.mp this with rfl | h2
      · exact ⟨a, ha, rfl⟩
      · rw [List.mem_singleton.mp h2]; exact ⟨b, hb, rfl⟩
    simp only [x_seq, x_next, x_break, x_cont, x_drop, x_ret, x_retN, x_if, x_asg, x_for, x_raise, x_gname, x_gnil, x_gcons, x_gtup, x_gsub, x_c, x_op, x_un, x_chain, x_cb, x_call, x_bm, x_tup, x_lst, x_andV, x_orV, x_notV, x_ifE, x_sl, x_lc, x_dictK, x_dictT, x_rev, x_b, x_and, x_or, x_not, x_yes, x_nil, x_cons, x_part, x_noPart, x_iter, x_rng1, x_rng2, x_enum, aVar0, aVarS, onBl, onInt, onRef, onStr, onTup, on1, on2, List.set_cons_zero, List.set_cons_succ, rI2, rSubA, rMulA, rDivA, rModA, rPowA, rLeI, rGeI, rLtI, rGtI, rNegA, e_ixr, e_ixt, e_ixs, e_ixf, e_at0, e_at1, e_at2, onO_some, e_setr, e_ix2_0, e_ix2_1, e_ix3_0, e_ix3_1, e_ix3_2, e_addI, e_addT, e_addL, e_eqI, e_eqS, e_eqB, e_eqT, e_eqR, e_ltI, e_isN, e_lenR, e_lenT, e_lenF, e_listR, e_listT, e_isi_int, e_isi_bool, e_isi_str, e_isi_tuple, e_isi_list, e_intI, e_intB, e_seqT, e_seqF, e_slT, e_slF, e_slR, e_isL, put_same, put_put, List.length_cons, List.length_nil, Nat.zero_add, Nat.reduceAdd, true_and, and_true, if_true, e_tupleT, wipe_l, wipe_n, rEqA, rNeA, rCmpA]
    refine q_within (B.rng n hn).1 (B.rng n hn).2 ?_
    simp only [x_seq, x_next, x_break, x_cont, x_drop, x_ret, x_retN, x_if, x_asg, x_for, x_raise, x_gname, x_gnil, x_gcons, x_gtup, x_gsub, x_c, x_op, x_un, x_chain, x_cb, x_call, x_bm, x_tup, x_lst, x_andV, x_orV, x_notV, x_ifE, x_sl, x_lc, x_dictK, x_dictT, x_rev, x_b, x_and, x_or, x_not, x_yes, x_nil, x_cons, x_part, x_noPart, x_iter, x_rng1, x_rng2, x_enum, aVar0, aVarS, onBl, onInt, onRef, onStr, onTup, on1, on2, List.set_cons_zero, List.set_cons_succ, rI2, rSubA, rMulA, rDivA, rModA, rPowA, rLeI, rGeI, rLtI, rGtI, rNegA, e_ixr, e_ixt, e_ixs, e_ixf, e_at0, e_at1, e_at2, onO_some, e_setr, e_ix2_0, e_ix2_1, e_ix3_0, e_ix3_1, e_ix3_2, e_addI, e_addT, e_addL, e_eqI, e_eqS, e_eqB, e_eqT, e_eqR, e_ltI, e_isN, e_lenR, e_lenT, e_lenF, e_listR, e_listT, e_isi_int, e_isi_bool, e_isi_str, e_isi_tuple, e_isi_list, e_intI, e_intB, e_seqT, e_seqF, e_slT, e_slF, e_slR, e_isL, put_same, put_put, List.length_cons, List.length_nil, Nat.zero_add, Nat.reduceAdd, true_and, and_true, if_true, e_tupleT, wipe_l, wipe_n, rEqA, rNeA, rCmpA, Bool.not_true, Bool.false_eq_true, if_false]
    refine e_inL hA rfl (flat_ints _) ?_
    rw [inA_ints]
    simp only [hn, decide_true, Bool.not_true, Bool.false_eq_true, if_false]
    exact hnx _ _ ⟨_, rfl, rfl⟩
  · rintro a' A' ⟨r, rfl, rfl⟩
    simp only [x_seq, x_next, x_break, x_cont, x_drop, x_ret, x_retN, x_if, x_asg, x_for, x_raise, x_gname, x_gnil, x_gcons, x_gtup, x_gsub, x_c, x_op, x_un, x_chain, x_cb, x_call, x_bm, x_tup, x_lst, x_andV, x_orV, x_notV, x_ifE, x_sl, x_lc, x_dictK, x_dictT, x_rev, x_b, x_and, x_or, x_not, x_yes, x_nil, x_cons, x_part, x_noPart, x_iter, x_rng1, x_rng2, x_enum, aVar0, aVarS, onBl, onInt, onRef, onStr, onTup, on1, on2, List.set_cons_zero, List.set_cons_succ, rI2, rSubA, rMulA, rDivA, rModA, rPowA, rLeI, rGeI, rLtI, rGtI, rNegA, e_ixr, e_ixt, e_ixs, e_ixf, e_at0, e_at1, e_at2, onO_some, e_setr, e_ix2_0, e_ix2_1, e_ix3_0, e_ix3_1, e_ix3_2, e_addI, e_addT, e_addL, e_eqI, e_eqS, e_eqB, e_eqT, e_eqR, e_ltI, e_isN, e_lenR, e_lenT, e_lenF, e_listR, e_listT, e_isi_int, e_isi_bool, e_isi_str, e_isi_tuple, e_isi_list, e_intI, e_intB, e_seqT, e_seqF, e_slT, e_slF, e_slR, e_isL, put_same, put_put, List.length_cons, List.length_nil, Nat.zero_add, Nat.reduceAdd, true_and, and_true, if_true, e_tupleT, wipe_l, wipe_n, rEqA, rNeA, rCmpA, ecut, hne, id, decide_false, Bool.false_eq_true, if_false]
    refine e_min (n := a) (ns := [b]) rfl ?_
    refine e_max (n := a) (ns := [b]) rfl ?_
    exact ⟨lenS (by decide), h⟩
theorem BsOk.sort {bs : List Int} (B : BsOk bs) : BsOk (sortI bs) :=
  ⟨by rw [sortI_length]; exact B.one, by rw [sortI_length]; exact B.ten, fun b hb => B.rng b (sortI_mem.mp hb), (sortI_perm bs).nodup_iff.mpr B.nd⟩
theorem q_make_net {c : Cl} {bs : List Int} {ts : List R3} {p q : Addr} {A : AH} {k : AK} {e : Value → AH → Prop} (hA : A p = some (.lst (bs.map AV.int))) (hq : A q = some (.lst (ts.map tieV))) (B : BsOk bs) (T : ∀ t ∈ ts, TieOk bs t) (hl : ts.length ≤ 16)
    (h : ∀ A', Ext A A' → k (netV (sortI bs) (ts.map norm)) A') : p_make_net c [.ref p, .ref q] A k e := by
  refine ⟨rfl, ?_⟩
  show r_make_net c _ _ [some (.ref p), some (.ref q), none] A
  unfold r_make_net
  simp only [x_seq, x_next, x_break, x_cont, x_drop, x_ret, x_retN, x_if, x_asg, x_for, x_raise, x_gname, x_gnil, x_gcons, x_gtup, x_gsub, x_c, x_op, x_un, x_chain, x_cb, x_call, x_bm, x_tup, x_lst, x_andV, x_orV, x_notV, x_ifE, x_sl, x_lc, x_dictK, x_dictT, x_rev, x_b, x_and, x_or, x_not, x_yes, x_nil, x_cons, x_part, x_noPart, x_iter, x_rng1, x_rng2, x_enum, aVar0, aVarS, onBl, onInt, onRef, onStr, onTup, on1, on2, List.set_cons_zero, List.set_cons_succ, rI2, rSubA, rMulA, rDivA, rModA, rPowA, rLeI, rGeI, rLtI, rGtI, rNegA, e_ixr, e_ixt, e_ixs, e_ixf, e_at0, e_at1, e_at2, onO_some, e_setr, e_ix2_0, e_ix2_1, e_ix3_0, e_ix3_1, e_ix3_2, e_addI, e_addT, e_addL, e_eqI, e_eqS, e_eqB, e_eqT, e_eqR, e_ltI, e_isN, e_lenR, e_lenT, e_lenF, e_listR, e_listT, e_isi_int, e_isi_bool, e_isi_str, e_isi_tuple, e_isi_list, e_intI, e_intB, e_seqT, e_seqF, e_slT, e_slF, e_slR, e_isL, put_same, put_put, List.length_cons, List.length_nil, Nat.zero_add, Nat.reduceAdd, true_and, and_true, if_true, e_tupleT, wipe_l, wipe_n, rEqA, rNeA, rCmpA]
  refine q_need hA B fun A1 s1 => ?_
  have hp1 := s1 p _ hA
  have hq1 := s1 q _ hq
  simp only [x_seq, x_next, x_break, x_cont, x_drop, x_ret, x_retN, x_if, x_asg, x_for, x_raise, x_gname, x_gnil, x_gcons, x_gtup, x_gsub, x_c, x_op, x_un, x_chain, x_cb, x_call, x_bm, x_tup, x_lst, x_andV, x_orV, x_notV, x_ifE, x_sl, x_lc, x_dictK, x_dictT, x_rev, x_b, x_and, x_or, x_not, x_yes, x_nil, x_cons, x_part, x_noPart, x_iter, x_rng1, x_rng2, x_enum, aVar0, aVarS, onBl, onInt, onRef, onStr, onTup, on1, on2, List.set_cons_zero, List.set_cons_succ, rI2, rSubA, rMulA, rDivA, rModA, rPowA, rLeI, rGeI, rLtI, rGtI, rNegA, e_ixr, e_ixt, e_ixs, e_ixf, e_at0, e_at1, e_at2, onO_some, e_setr, e_ix2_0, e_ix2_1, e_ix3_0, e_ix3_1, e_ix3_2, e_addI, e_addT, e_addL, e_eqI, e_eqS, e_eqB, e_eqT, e_eqR, e_ltI, e_isN, e_lenR, e_lenT, e_lenF, e_listR, e_listT, e_isi_int, e_isi_bool, e_isi_str, e_isi_tuple, e_isi_list, e_intI, e_intB, e_seqT, e_seqF, e_slT, e_slF, e_slR, e_isL, put_same, put_put, List.length_cons, List.length_nil, Nat.zero_add, Nat.reduceAdd, true_and, and_true, if_true, e_tupleT, wipe_l, wipe_n, rEqA, rNeA, rCmpA, tyA, Ty0.sub, hq1, List.length_map]
  have e1 : decide ((16 : Int) < (ts.length : Nat)) = false := by simp; omega
  have e2 : (decide (Ty0.lst = Ty0.lst) || decide (Ty0.lst = Ty0.bl) && decide (Ty0.lst = Ty0.int)) = true := rfl
  simp only [e1, Bool.not_true, Bool.false_eq_true, if_false, decide_true, Bool.true_or]
  refine e_sort hp1 (by have := B.ten; omega) fun r hr => ?_
  simp only [x_seq, x_next, x_break, x_cont, x_drop, x_ret, x_retN, x_if, x_asg, x_for, x_raise, x_gname, x_gnil, x_gcons, x_gtup, x_gsub, x_c, x_op, x_un, x_chain, x_cb, x_call, x_bm, x_tup, x_lst, x_andV, x_orV, x_notV, x_ifE, x_sl, x_lc, x_dictK, x_dictT, x_rev, x_b, x_and, x_or, x_not, x_yes, x_nil, x_cons, x_part, x_noPart, x_iter, x_rng1, x_rng2, x_enum, aVar0, aVarS, onBl, onInt, onRef, onStr, onTup, on1, on2, List.set_cons_zero, List.set_cons_succ, rI2, rSubA, rMulA, rDivA, rModA, rPowA, rLeI, rGeI, rLtI, rGtI, rNegA, e_ixr, e_ixt, e_ixs, e_ixf, e_at0, e_at1, e_at2, onO_some, e_setr, e_ix2_0, e_ix2_1, e_ix3_0, e_ix3_1, e_ix3_2, e_addI, e_addT, e_addL, e_eqI, e_eqS, e_eqB, e_eqT, e_eqR, e_ltI, e_isN, e_lenR, e_lenT, e_lenF, e_listR, e_listT, e_isi_int, e_isi_bool, e_isi_str, e_isi_tuple, e_isi_list, e_intI, e_intB, e_seqT, e_seqF, e_slT, e_slF, e_slR, e_isL, put_same, put_put, List.length_cons, List.length_nil, Nat.zero_add, Nat.reduceAdd, true_and, and_true, if_true, e_tupleT, wipe_l, wipe_n, rEqA, rNeA, rCmpA, e_tupleR put_same]
  have hx1 : Ext A1 (put A1 r (.lst ((sortI bs).map AV.int))) := .new hr
  have hp2 := hx1 p _ hp1
  have hq2 := hx1 q _ hq1
  have s2 := s1.trans hx1
  generalize put A1 r (.lst ((sortI bs).map AV.int)) = A2 at hx1 hp2 hq2 s2
  simp only [x_seq, x_next, x_break, x_cont, x_drop, x_ret, x_retN, x_if, x_asg, x_for, x_raise, x_gname, x_gnil, x_gcons, x_gtup, x_gsub, x_c, x_op, x_un, x_chain, x_cb, x_call, x_bm, x_tup, x_lst, x_andV, x_orV, x_notV, x_ifE, x_sl, x_lc, x_dictK, x_dictT, x_rev, x_b, x_and, x_or, x_not, x_yes, x_nil, x_cons, x_part, x_noPart, x_iter, x_rng1, x_rng2, x_enum, aVar0, aVarS, onBl, onInt, onRef, onStr, onTup, on1, on2, List.set_cons_zero, List.set_cons_succ, rI2, rSubA, rMulA, rDivA, rModA, rPowA, rLeI, rGeI, rLtI, rGtI, rNegA, e_ixr, e_ixt, e_ixs, e_ixf, e_at0, e_at1, e_at2, onO_some, e_setr, e_ix2_0, e_ix2_1, e_ix3_0, e_ix3_1, e_ix3_2, e_addI, e_addT, e_addL, e_eqI, e_eqS, e_eqB, e_eqT, e_eqR, e_ltI, e_isN, e_lenR, e_lenT, e_lenF, e_listR, e_listT, e_isi_int, e_isi_bool, e_isi_str, e_isi_tuple, e_isi_list, e_intI, e_intB, e_seqT, e_seqF, e_slT, e_slF, e_slR, e_isL, put_same, put_put, List.length_cons, List.length_nil, Nat.zero_add, Nat.reduceAdd, true_and, and_true, if_true, e_tupleT, wipe_l, wipe_n, rEqA, rNeA, rCmpA, e_seqR hq2]
  intro D hD
  refine lc_map (fun x => match x with | .tup [.int a, .int b, w] => .tup [.int (min a b), .int (max a b), w] | y => y) (lenS (by rw [List.length_map]; omega)) (fun o => by rw [put_ne (ane hq2 hD)]; exact hq2) (fun x hx o Y N hY => ?_) ?_
  · obtain ⟨t, ht, rfl⟩ := List.mem_map.mp hx
    simp only [x_seq, x_next, x_break, x_cont, x_drop, x_ret, x_retN, x_if, x_asg, x_for, x_raise, x_gname, x_gnil, x_gcons, x_gtup, x_gsub, x_c, x_op, x_un, x_chain, x_cb, x_call, x_bm, x_tup, x_lst, x_andV, x_orV, x_notV, x_ifE, x_sl, x_lc, x_dictK, x_dictT, x_rev, x_b, x_and, x_or, x_not, x_yes, x_nil, x_cons, x_part, x_noPart, x_iter, x_rng1, x_rng2, x_enum, aVar0, aVarS, onBl, onInt, onRef, onStr, onTup, on1, on2, List.set_cons_zero, List.set_cons_succ, rI2, rSubA, rMulA, rDivA, rModA, rPowA, rLeI, rGeI, rLtI, rGtI, rNegA, e_ixr, e_ixt, e_ixs, e_ixf, e_at0, e_at1, e_at2, onO_some, e_setr, e_ix2_0, e_ix2_1, e_ix3_0, e_ix3_1, e_ix3_2, e_addI, e_addT, e_addL, e_eqI, e_eqS, e_eqB, e_eqT, e_eqR, e_ltI, e_isN, e_lenR, e_lenT, e_lenF, e_listR, e_listT, e_isi_int, e_isi_bool, e_isi_str, e_isi_tuple, e_isi_list, e_intI, e_intB, e_seqT, e_seqF, e_slT, e_slF, e_slR, e_isL, put_same, put_put, List.length_cons, List.length_nil, Nat.zero_add, Nat.reduceAdd, true_and, and_true, if_true, e_tupleT, wipe_l, wipe_n, rEqA, rNeA, rCmpA]
    exact q_tie (by rw [put_ne (ane hp2 hD)]; exact hp2) B (T t ht) hY
  · have eC : (ts.map tieV).map (fun x => match x with | .tup [.int a, .int b, w] => .tup [.int (min a b), .int (max a b), w] | y => y) = (ts.map norm).map tieV := by
      rw [List.map_map, List.map_map]; rfl
    rw [eC]
    simp only [x_seq, x_next, x_break, x_cont, x_drop, x_ret, x_retN, x_if, x_asg, x_for, x_raise, x_gname, x_gnil, x_gcons, x_gtup, x_gsub, x_c, x_op, x_un, x_chain, x_cb, x_call, x_bm, x_tup, x_lst, x_andV, x_orV, x_notV, x_ifE, x_sl, x_lc, x_dictK, x_dictT, x_rev, x_b, x_and, x_or, x_not, x_yes, x_nil, x_cons, x_part, x_noPart, x_iter, x_rng1, x_rng2, x_enum, aVar0, aVarS, onBl, onInt, onRef, onStr, onTup, on1, on2, List.set_cons_zero, List.set_cons_succ, rI2, rSubA, rMulA, rDivA, rModA, rPowA, rLeI, rGeI, rLtI, rGtI, rNegA, e_ixr, e_ixt, e_ixs, e_ixf, e_at0, e_at1, e_at2, onO_some, e_setr, e_ix2_0, e_ix2_1, e_ix3_0, e_ix3_1, e_ix3_2, e_addI, e_addT, e_addL, e_eqI, e_eqS, e_eqB, e_eqT, e_eqR, e_ltI, e_isN, e_lenR, e_lenT, e_lenF, e_listR, e_listT, e_isi_int, e_isi_bool, e_isi_str, e_isi_tuple, e_isi_list, e_intI, e_intB, e_seqT, e_seqF, e_slT, e_slF, e_slR, e_isL, put_same, put_put, List.length_cons, List.length_nil, Nat.zero_add, Nat.reduceAdd, true_and, and_true, if_true, e_tupleT, wipe_l, wipe_n, rEqA, rNeA, rCmpA, e_tupleR put_same]
    exact ⟨lenS (by decide), h _ (s2.putn (s2.gone hD))⟩
end K34

set_option Elab.async false
set_option linter.all false
set_option maxRecDepth 100000
set_option maxHeartbeats 400000
namespace K34
open PySem PySem.Spec PyProof.Rows L2 Aw
theorem rngA_get {lo : Int} {n i : Nat} {x : AV} (h : (rngA lo n)[i]? = some x) : i < n ∧ x = .int (lo + (i : Nat)) := by
  have hi : i < n := by
    have := (List.getElem?_eq_some_iff.mp h).1
    simpa [rngA] using this
  refine ⟨hi, ?_⟩
  simp [rngA, hi] at h
  exact h.symm
theorem rngA_length {lo : Int} {n : Nat} : (rngA lo n).length = n := by simp [rngA]
/-! ### what drawing leaves -/
section
variable {p q : Addr} {A B C : AH} {o : AO}
theorem Drawn.refl (h : RowAt A p) : Drawn p A A := ⟨.refl A, h⟩
theorem Drawn.trans (h : Drawn p A B) (h' : Drawn p B C) : Drawn p A C := ⟨h.ext.trans h'.ext, h'.row⟩
theorem RowAt.ne (h : RowAt A p) (e : A q = none) : q ≠ p := fun z => by
  subst z
  obtain ⟨a, b, h, _⟩ := h
  rw [h] at e; cases e
theorem Drawn.putn (h : Drawn p A B) (e : A q = none) (n : q ≠ p) : Drawn p A (put B q o) := by
  refine ⟨h.ext.putn e, ?_⟩
  obtain ⟨a, b, h1, h2⟩ := h.row
  exact ⟨a, b, by rw [put_ne n.symm]; exact h1, h2⟩
theorem Drawn.new (h : Drawn p A B) (e : B q = none) : Drawn p A (put B q o) := h.putn (h.ext.gone (h.row.ne e) e) (h.row.ne e)
theorem Drawn.at (h : Drawn p A B) (e : A q = some o) (n : q ≠ p) : B q = some o := h.ext q o n e
end
/-- an index drawn -/
theorem ix_draw {xs : List AV} {t : Int} {k : AV → Prop} (h0 : 0 ≤ t) (h1 : t < xs.length) (h : ∀ x ∈ xs, k x) : onO (atI xs t) k := by
  obtain ⟨x, h2, h3⟩ := at_i h0 h1
  exact onO_i h3 (h x (List.mem_of_getElem? h2))
theorem ix_ints {xs : List Int} {t : Int} {k : AV → Prop} (h0 : 0 ≤ t) (h1 : t < xs.length) (h : ∀ x ∈ xs, k (.int x)) : onO (atI (xs.map AV.int) t) k :=
  ix_draw h0 (by rw [List.length_map]; exact h1) fun x hx => by
    obtain ⟨y, hy, rfl⟩ := List.mem_map.mp hx
    exact h y hy
structure NetOk (bs : List Int) (ts : List R3) : Prop where
  one : 1 ≤ bs.length
  six : bs.length ≤ 6
  rng : ∀ b ∈ bs, 0 ≤ b ∧ b ≤ 999
  inc : bs.Pairwise (· < ·)
  ties : ∀ t ∈ ts, t.1 ∈ bs ∧ t.2.1 ∈ bs
  few : ts.length ≤ 16
theorem q_net {c : Cl} {p : Addr} {A : AH} {k : AK} {e : Value → AH → Prop} (hA : RowAt A p) (h : ∀ A' bs ts, Drawn p A A' → NetOk bs ts → k (netV bs ts) A') : p__law_net c [.ref p] A k e := by
  refine ⟨rfl, ?_⟩
  show r__law_net c _ _ [some (.ref p), none, none, none, none, none, none, none, none] A
  unfold r__law_net
  simp only [x_seq, x_next, x_break, x_cont, x_drop, x_ret, x_retN, x_if, x_asg, x_for, x_raise, x_gname, x_gnil, x_gcons, x_gtup, x_gsub, x_c, x_op, x_un, x_chain, x_cb, x_call, x_bm, x_tup, x_lst, x_andV, x_orV, x_notV, x_ifE, x_sl, x_lc, x_dictK, x_dictT, x_rev, x_b, x_and, x_or, x_not, x_yes, x_nil, x_cons, x_part, x_noPart, x_iter, x_rng1, x_rng2, x_enum, aVar0, aVarS, onBl, onInt, onRef, onStr, onTup, on1, on2, List.set_cons_zero, List.set_cons_succ, rI2, rSubA, rMulA, rDivA, rModA, rPowA, rLeI, rGeI, rLtI, rGtI, rNegA, e_ixr, e_ixt, e_ixs, e_ixf, e_at0, e_at1, e_at2, onO_some, e_setr, e_ix2_0, e_ix2_1, e_ix3_0, e_ix3_1, e_ix3_2, e_addI, e_addT, e_addL, e_eqI, e_eqS, e_eqB, e_eqT, e_eqR, e_ltI, e_isN, e_lenR, e_lenT, e_lenF, e_listR, e_listT, e_isi_int, e_isi_bool, e_isi_str, e_isi_tuple, e_isi_list, e_intI, e_intB, e_seqT, e_seqF, e_slT, e_slF, e_slR, e_isL, put_same, put_put, List.length_cons, List.length_nil, Nat.zero_add, Nat.reduceAdd, true_and, and_true, if_true, e_tupleT, wipe_l, wipe_n, rEqA, rNeA, rCmpA]
  refine q_take hA (by decide) (by decide) fun m A1 hm0 hm1 d1 => ?_
  simp only [x_seq, x_next, x_break, x_cont, x_drop, x_ret, x_retN, x_if, x_asg, x_for, x_raise, x_gname, x_gnil, x_gcons, x_gtup, x_gsub, x_c, x_op, x_un, x_chain, x_cb, x_call, x_bm, x_tup, x_lst, x_andV, x_orV, x_notV, x_ifE, x_sl, x_lc, x_dictK, x_dictT, x_rev, x_b, x_and, x_or, x_not, x_yes, x_nil, x_cons, x_part, x_noPart, x_iter, x_rng1, x_rng2, x_enum, aVar0, aVarS, onBl, onInt, onRef, onStr, onTup, on1, on2, List.set_cons_zero, List.set_cons_succ, rI2, rSubA, rMulA, rDivA, rModA, rPowA, rLeI, rGeI, rLtI, rGtI, rNegA, e_ixr, e_ixt, e_ixs, e_ixf, e_at0, e_at1, e_at2, onO_some, e_setr, e_ix2_0, e_ix2_1, e_ix3_0, e_ix3_1, e_ix3_2, e_addI, e_addT, e_addL, e_eqI, e_eqS, e_eqB, e_eqT, e_eqR, e_ltI, e_isN, e_lenR, e_lenT, e_lenF, e_listR, e_listT, e_isi_int, e_isi_bool, e_isi_str, e_isi_tuple, e_isi_list, e_intI, e_intB, e_seqT, e_seqF, e_slT, e_slF, e_slR, e_isL, put_same, put_put, List.length_cons, List.length_nil, Nat.zero_add, Nat.reduceAdd, true_and, and_true, if_true, e_tupleT, wipe_l, wipe_n, rEqA, rNeA, rCmpA]
  refine ⟨lenS (by decide), fun q hq => ?_⟩
  have d2 : Drawn p A (put A1 q (.lst [.int 1, .int 3, .int 10, .int 100])) := d1.new hq
  have hqp := d1.row.ne hq
  refine q_take d2.row (by decide) (by decide) fun t A2 ht0 ht1 d3 => ?_
  have hq2 := d3.at put_same hqp
  simp only [x_seq, x_next, x_break, x_cont, x_drop, x_ret, x_retN, x_if, x_asg, x_for, x_raise, x_gname, x_gnil, x_gcons, x_gtup, x_gsub, x_c, x_op, x_un, x_chain, x_cb, x_call, x_bm, x_tup, x_lst, x_andV, x_orV, x_notV, x_ifE, x_sl, x_lc, x_dictK, x_dictT, x_rev, x_b, x_and, x_or, x_not, x_yes, x_nil, x_cons, x_part, x_noPart, x_iter, x_rng1, x_rng2, x_enum, aVar0, aVarS, onBl, onInt, onRef, onStr, onTup, on1, on2, List.set_cons_zero, List.set_cons_succ, rI2, rSubA, rMulA, rDivA, rModA, rPowA, rLeI, rGeI, rLtI, rGtI, rNegA, e_ixr, e_ixt, e_ixs, e_ixf, e_at0, e_at1, e_at2, onO_some, e_setr, e_ix2_0, e_ix2_1, e_ix3_0, e_ix3_1, e_ix3_2, e_addI, e_addT, e_addL, e_eqI, e_eqS, e_eqB, e_eqT, e_eqR, e_ltI, e_isN, e_lenR, e_lenT, e_lenF, e_listR, e_listT, e_isi_int, e_isi_bool, e_isi_str, e_isi_tuple, e_isi_list, e_intI, e_intB, e_seqT, e_seqF, e_slT, e_slF, e_slR, e_isL, put_same, put_put, List.length_cons, List.length_nil, Nat.zero_add, Nat.reduceAdd, true_and, and_true, if_true, e_tupleT, wipe_l, wipe_n, rEqA, rNeA, rCmpA, hq2]
  refine ix_ints (xs := [1, 3, 10, 100]) ht0 (by simpa using ht1) fun st hst => ?_
  have hs : 1 ≤ st ∧ st ≤ 100 := by
    simp at hst
    omega
  clear hst
  have d4 := d2.trans d3
  clear d1 d2 d3 hq2 hqp hq hA
  refine ⟨by omega, by omega, fun D hD => ?_⟩
  have hDp := d4.row.ne hD
  have hDA := d4.ext.gone hDp hD
  refine lc_inv (fun i acc A' => ∃ ns : List Int, acc = ns.map AV.int ∧ (∀ n ∈ ns, 0 ≤ n ∧ n ≤ 999) ∧ ns.length = i ∧ Drawn p A A') (lenS (by rw [rngA_length]; omega)) put_same ⟨[], rfl, by simp, rfl, d4.new hD⟩ (fun _ _ _ _ _ _ => trivial) (fun i x acc A3 Y N hx hD3 hP hY hN => ?_) (fun acc A3 hD3 hP => ?_)
  · obtain ⟨ns, rfl, hr, hl, d5⟩ := hP
    obtain ⟨hi, rfl⟩ := rngA_get hx
    simp only [x_seq, x_next, x_break, x_cont, x_drop, x_ret, x_retN, x_if, x_asg, x_for, x_raise, x_gname, x_gnil, x_gcons, x_gtup, x_gsub, x_c, x_op, x_un, x_chain, x_cb, x_call, x_bm, x_tup, x_lst, x_andV, x_orV, x_notV, x_ifE, x_sl, x_lc, x_dictK, x_dictT, x_rev, x_b, x_and, x_or, x_not, x_yes, x_nil, x_cons, x_part, x_noPart, x_iter, x_rng1, x_rng2, x_enum, aVar0, aVarS, onBl, onInt, onRef, onStr, onTup, on1, on2, List.set_cons_zero, List.set_cons_succ, rI2, rSubA, rMulA, rDivA, rModA, rPowA, rLeI, rGeI, rLtI, rGtI, rNegA, e_ixr, e_ixt, e_ixs, e_ixf, e_at0, e_at1, e_at2, onO_some, e_setr, e_ix2_0, e_ix2_1, e_ix3_0, e_ix3_1, e_ix3_2, e_addI, e_addT, e_addL, e_eqI, e_eqS, e_eqB, e_eqT, e_eqR, e_ltI, e_isN, e_lenR, e_lenT, e_lenF, e_listR, e_listT, e_isi_int, e_isi_bool, e_isi_str, e_isi_tuple, e_isi_list, e_intI, e_intB, e_seqT, e_seqF, e_slT, e_slF, e_slR, e_isL, put_same, put_put, List.length_cons, List.length_nil, Nat.zero_add, Nat.reduceAdd, true_and, and_true, if_true, e_tupleT, wipe_l, wipe_n, rEqA, rNeA, rCmpA]
    refine q_take d5.row (by decide) (by decide) fun u A4 hu0 hu1 d6 => ?_
    simp only [x_seq, x_next, x_break, x_cont, x_drop, x_ret, x_retN, x_if, x_asg, x_for, x_raise, x_gname, x_gnil, x_gcons, x_gtup, x_gsub, x_c, x_op, x_un, x_chain, x_cb, x_call, x_bm, x_tup, x_lst, x_andV, x_orV, x_notV, x_ifE, x_sl, x_lc, x_dictK, x_dictT, x_rev, x_b, x_and, x_or, x_not, x_yes, x_nil, x_cons, x_part, x_noPart, x_iter, x_rng1, x_rng2, x_enum, aVar0, aVarS, onBl, onInt, onRef, onStr, onTup, on1, on2, List.set_cons_zero, List.set_cons_succ, rI2, rSubA, rMulA, rDivA, rModA, rPowA, rLeI, rGeI, rLtI, rGtI, rNegA, e_ixr, e_ixt, e_ixs, e_ixf, e_at0, e_at1, e_at2, onO_some, e_setr, e_ix2_0, e_ix2_1, e_ix3_0, e_ix3_1, e_ix3_2, e_addI, e_addT, e_addL, e_eqI, e_eqS, e_eqB, e_eqT, e_eqR, e_ltI, e_isN, e_lenR, e_lenT, e_lenF, e_listR, e_listT, e_isi_int, e_isi_bool, e_isi_str, e_isi_tuple, e_isi_list, e_intI, e_intB, e_seqT, e_seqF, e_slT, e_slF, e_slR, e_isL, put_same, put_put, List.length_cons, List.length_nil, Nat.zero_add, Nat.reduceAdd, true_and, and_true, if_true, e_tupleT, wipe_l, wipe_n, rEqA, rNeA, rCmpA]
    have hb1 : 0 ≤ 0 + (i : Int) + u ∧ 0 + (i : Int) + u ≤ 6 := by omega
    have hb2 : 0 ≤ st * (0 + (i : Int) + u) := Int.mul_nonneg (by omega) hb1.1
    have hb3 : st * (0 + (i : Int) + u) ≤ 600 := Int.le_trans (Int.mul_le_mul hs.2 hb1.2 hb1.1 (by decide)) (by decide)
    refine ⟨cmul31 (by omega) (by omega) hb1.1 (by omega), lenS (by decide), fun r hr1 => ?_⟩
    refine ⟨cdiv31 (by decide) (by decide), ?_⟩
    refine ix_ints (xs := [0, 7]) (Int.ediv_nonneg (by omega) (by decide)) (by show st / 100 < 2; omega) fun v hv => ?_
    have hv2 : 0 ≤ v ∧ v ≤ 7 := by simp at hv; omega
    simp only [x_seq, x_next, x_break, x_cont, x_drop, x_ret, x_retN, x_if, x_asg, x_for, x_raise, x_gname, x_gnil, x_gcons, x_gtup, x_gsub, x_c, x_op, x_un, x_chain, x_cb, x_call, x_bm, x_tup, x_lst, x_andV, x_orV, x_notV, x_ifE, x_sl, x_lc, x_dictK, x_dictT, x_rev, x_b, x_and, x_or, x_not, x_yes, x_nil, x_cons, x_part, x_noPart, x_iter, x_rng1, x_rng2, x_enum, aVar0, aVarS, onBl, onInt, onRef, onStr, onTup, on1, on2, List.set_cons_zero, List.set_cons_succ, rI2, rSubA, rMulA, rDivA, rModA, rPowA, rLeI, rGeI, rLtI, rGtI, rNegA, e_ixr, e_ixt, e_ixs, e_ixf, e_at0, e_at1, e_at2, onO_some, e_setr, e_ix2_0, e_ix2_1, e_ix3_0, e_ix3_1, e_ix3_2, e_addI, e_addT, e_addL, e_eqI, e_eqS, e_eqB, e_eqT, e_eqR, e_ltI, e_isN, e_lenR, e_lenT, e_lenF, e_listR, e_listT, e_isi_int, e_isi_bool, e_isi_str, e_isi_tuple, e_isi_list, e_intI, e_intB, e_seqT, e_seqF, e_slT, e_slF, e_slR, e_isL, put_same, put_put, List.length_cons, List.length_nil, Nat.zero_add, Nat.reduceAdd, true_and, and_true, if_true, e_tupleT, wipe_l, wipe_n, rEqA, rNeA, rCmpA]
    have d7 := d5.trans d6
    have hDr : D ≠ r := ane (d6.at hD3 hDp) hr1
    refine hY _ _ (by rw [put_ne hDr]; exact d6.at hD3 hDp) ⟨ns ++ [st * (0 + (i : Int) + u) + v], by rw [List.map_append]; rfl, ?_, by simp [hl], (d7.new hr1).putn hDA hDp⟩
    intro n hn
    rcases List.mem_append.mp hn with hn | hn
    · exact hr n hn
    · rw [List.mem_singleton.mp hn]; omega
  · obtain ⟨ns, rfl, hr, hl, d5⟩ := hP
    rw [rngA_length] at hl
    simp only [x_seq, x_next, x_break, x_cont, x_drop, x_ret, x_retN, x_if, x_asg, x_for, x_raise, x_gname, x_gnil, x_gcons, x_gtup, x_gsub, x_c, x_op, x_un, x_chain, x_cb, x_call, x_bm, x_tup, x_lst, x_andV, x_orV, x_notV, x_ifE, x_sl, x_lc, x_dictK, x_dictT, x_rev, x_b, x_and, x_or, x_not, x_yes, x_nil, x_cons, x_part, x_noPart, x_iter, x_rng1, x_rng2, x_enum, aVar0, aVarS, onBl, onInt, onRef, onStr, onTup, on1, on2, List.set_cons_zero, List.set_cons_succ, rI2, rSubA, rMulA, rDivA, rModA, rPowA, rLeI, rGeI, rLtI, rGtI, rNegA, e_ixr, e_ixt, e_ixs, e_ixf, e_at0, e_at1, e_at2, onO_some, e_setr, e_ix2_0, e_ix2_1, e_ix3_0, e_ix3_1, e_ix3_2, e_addI, e_addT, e_addL, e_eqI, e_eqS, e_eqB, e_eqT, e_eqR, e_ltI, e_isN, e_lenR, e_lenT, e_lenF, e_listR, e_listT, e_isi_int, e_isi_bool, e_isi_str, e_isi_tuple, e_isi_list, e_intI, e_intB, e_seqT, e_seqF, e_slT, e_slF, e_slR, e_isL, put_same, put_put, List.length_cons, List.length_nil, Nat.zero_add, Nat.reduceAdd, true_and, and_true, if_true, e_tupleT, wipe_l, wipe_n, rEqA, rNeA, rCmpA, e_sortedSet, asL_ref hD3, allInts_map]
    refine ⟨by omega, fun b hb => ⟨lenS (by decide), fun y hy => ?_⟩⟩
    have hbp := d5.row.ne hb
    have hbA := d5.ext.gone hbp hb
    have d6 : Drawn p A (put A3 b (.lst ((setI ns).map AV.int))) := d5.new hb
    have hyp := d6.row.ne hy
    have hyA := d6.ext.gone hyp hy
    have hby : b ≠ y := ane put_same hy
    have d7 : Drawn p A (put (put A3 b (.lst ((setI ns).map AV.int))) y (.lst [])) := d6.new hy
    have hb2 : put (put A3 b (.lst ((setI ns).map AV.int))) y (.lst []) b = some (.lst ((setI ns).map AV.int)) := by rw [put_ne hby, put_same]
    have hy2 : put (put A3 b (.lst ((setI ns).map AV.int))) y (.lst []) y = some (.lst []) := put_same
    generalize put (put A3 b (.lst ((setI ns).map AV.int))) y (.lst []) = A4 at d7 hb2 hy2
    have hne : ns ≠ [] := fun z => by rw [z] at hl; simp at hl; omega
    have hbs1 : 1 ≤ (setI ns).length := by
      cases ns with
      | nil => exact (hne rfl).elim
      | cons n r =>
        have : n ∈ setI (n :: r) := setI_mem.mpr (by simp)
        exact List.length_pos_of_mem this
    have hbs6 : (setI ns).length ≤ 6 := by
      have h1 := dedI_length ns
      rw [sortI_length]; omega
    have hbr : ∀ b ∈ setI ns, 0 ≤ b ∧ b ≤ 999 := fun b hb => hr b (setI_mem.mp hb)
    have hbi := setI_lt ns
    generalize setI ns = bs at hb2 hbs1 hbs6 hbr hbi
    have B : BsOk bs := ⟨hbs1, by omega, hbr, lt_nodup hbi⟩
    clear d5 d6 hl hr hD3 hD hDp hDA d4 hb hy hne
    refine q_take d7.row (by decide) (by decide) fun u A5 hu0 hu1 d8 => ?_
    have d9 := d7.trans d8
    have hb5 := d8.at hb2 hbp
    have hy5 := d8.at hy2 hyp
    clear d7 d8 hb2 hy2
    simp only [x_seq, x_next, x_break, x_cont, x_drop, x_ret, x_retN, x_if, x_asg, x_for, x_raise, x_gname, x_gnil, x_gcons, x_gtup, x_gsub, x_c, x_op, x_un, x_chain, x_cb, x_call, x_bm, x_tup, x_lst, x_andV, x_orV, x_notV, x_ifE, x_sl, x_lc, x_dictK, x_dictT, x_rev, x_b, x_and, x_or, x_not, x_yes, x_nil, x_cons, x_part, x_noPart, x_iter, x_rng1, x_rng2, x_enum, aVar0, aVarS, onBl, onInt, onRef, onStr, onTup, on1, on2, List.set_cons_zero, List.set_cons_succ, rI2, rSubA, rMulA, rDivA, rModA, rPowA, rLeI, rGeI, rLtI, rGtI, rNegA, e_ixr, e_ixt, e_ixs, e_ixf, e_at0, e_at1, e_at2, onO_some, e_setr, e_ix2_0, e_ix2_1, e_ix3_0, e_ix3_1, e_ix3_2, e_addI, e_addT, e_addL, e_eqI, e_eqS, e_eqB, e_eqT, e_eqR, e_ltI, e_isN, e_lenR, e_lenT, e_lenF, e_listR, e_listT, e_isi_int, e_isi_bool, e_isi_str, e_isi_tuple, e_isi_list, e_intI, e_intB, e_seqT, e_seqF, e_slT, e_slF, e_slR, e_isL, put_same, put_put, List.length_cons, List.length_nil, Nat.zero_add, Nat.reduceAdd, true_and, and_true, if_true, e_tupleT, wipe_l, wipe_n, rEqA, rNeA, rCmpA]
    refine ⟨by omega, by omega, ?_⟩
    refine loop_inv (fun i a A' => ∃ (ts : List R3) (r5 r6 r7 r8 : Option AV), a = [some (.ref p), some (.int (1 + m)), some (.int st), some (.ref b), some (.ref y), r5, r6, r7, r8] ∧ A' b = some (.lst (bs.map AV.int)) ∧ A' y = some (.lst (ts.map tieV)) ∧ (∀ t ∈ ts, TieOk bs t) ∧ ts.length ≤ i ∧ Drawn p A A') ?_ (fun _ _ _ _ _ => trivial) ?_ ?_
    · exact ⟨[], _, _, _, _, rfl, hb5, hy5, by simp, Nat.le_refl _, d9⟩
    · rintro i x a A' hx ⟨ts, r5, r6, r7, r8, rfl, h1, h2, h3, h4, h5⟩ D' hrt hbk hnx hct
      have hil := (rngA_get hx).1
      have hblen : (0 : Int) < (bs.length : Nat) := by omega
      simp only [x_seq, x_next, x_break, x_cont, x_drop, x_ret, x_retN, x_if, x_asg, x_for, x_raise, x_gname, x_gnil, x_gcons, x_gtup, x_gsub, x_c, x_op, x_un, x_chain, x_cb, x_call, x_bm, x_tup, x_lst, x_andV, x_orV, x_notV, x_ifE, x_sl, x_lc, x_dictK, x_dictT, x_rev, x_b, x_and, x_or, x_not, x_yes, x_nil, x_cons, x_part, x_noPart, x_iter, x_rng1, x_rng2, x_enum, aVar0, aVarS, onBl, onInt, onRef, onStr, onTup, on1, on2, List.set_cons_zero, List.set_cons_succ, rI2, rSubA, rMulA, rDivA, rModA, rPowA, rLeI, rGeI, rLtI, rGtI, rNegA, e_ixr, e_ixt, e_ixs, e_ixf, e_at0, e_at1, e_at2, onO_some, e_setr, e_ix2_0, e_ix2_1, e_ix3_0, e_ix3_1, e_ix3_2, e_addI, e_addT, e_addL, e_eqI, e_eqS, e_eqB, e_eqT, e_eqR, e_ltI, e_isN, e_lenR, e_lenT, e_lenF, e_listR, e_listT, e_isi_int, e_isi_bool, e_isi_str, e_isi_tuple, e_isi_list, e_intI, e_intB, e_seqT, e_seqF, e_slT, e_slF, e_slR, e_isL, put_same, put_put, List.length_cons, List.length_nil, Nat.zero_add, Nat.reduceAdd, true_and, and_true, if_true, e_tupleT, wipe_l, wipe_n, rEqA, rNeA, rCmpA, h1, List.length_map]
      refine q_take h5.row hblen (by omega) fun t1 B1 g0 g1 e1 => ?_
      have h1b := e1.at h1 hbp
      simp only [x_seq, x_next, x_break, x_cont, x_drop, x_ret, x_retN, x_if, x_asg, x_for, x_raise, x_gname, x_gnil, x_gcons, x_gtup, x_gsub, x_c, x_op, x_un, x_chain, x_cb, x_call, x_bm, x_tup, x_lst, x_andV, x_orV, x_notV, x_ifE, x_sl, x_lc, x_dictK, x_dictT, x_rev, x_b, x_and, x_or, x_not, x_yes, x_nil, x_cons, x_part, x_noPart, x_iter, x_rng1, x_rng2, x_enum, aVar0, aVarS, onBl, onInt, onRef, onStr, onTup, on1, on2, List.set_cons_zero, List.set_cons_succ, rI2, rSubA, rMulA, rDivA, rModA, rPowA, rLeI, rGeI, rLtI, rGtI, rNegA, e_ixr, e_ixt, e_ixs, e_ixf, e_at0, e_at1, e_at2, onO_some, e_setr, e_ix2_0, e_ix2_1, e_ix3_0, e_ix3_1, e_ix3_2, e_addI, e_addT, e_addL, e_eqI, e_eqS, e_eqB, e_eqT, e_eqR, e_ltI, e_isN, e_lenR, e_lenT, e_lenF, e_listR, e_listT, e_isi_int, e_isi_bool, e_isi_str, e_isi_tuple, e_isi_list, e_intI, e_intB, e_seqT, e_seqF, e_slT, e_slF, e_slR, e_isL, put_same, put_put, List.length_cons, List.length_nil, Nat.zero_add, Nat.reduceAdd, true_and, and_true, if_true, e_tupleT, wipe_l, wipe_n, rEqA, rNeA, rCmpA, h1b, List.length_map]
      refine ix_ints g0 g1 fun one ho => ?_
      refine q_take e1.row hblen (by omega) fun t2 B2 g2 g3 e2 => ?_
      have h1c := e2.at h1b hbp
      simp only [x_seq, x_next, x_break, x_cont, x_drop, x_ret, x_retN, x_if, x_asg, x_for, x_raise, x_gname, x_gnil, x_gcons, x_gtup, x_gsub, x_c, x_op, x_un, x_chain, x_cb, x_call, x_bm, x_tup, x_lst, x_andV, x_orV, x_notV, x_ifE, x_sl, x_lc, x_dictK, x_dictT, x_rev, x_b, x_and, x_or, x_not, x_yes, x_nil, x_cons, x_part, x_noPart, x_iter, x_rng1, x_rng2, x_enum, aVar0, aVarS, onBl, onInt, onRef, onStr, onTup, on1, on2, List.set_cons_zero, List.set_cons_succ, rI2, rSubA, rMulA, rDivA, rModA, rPowA, rLeI, rGeI, rLtI, rGtI, rNegA, e_ixr, e_ixt, e_ixs, e_ixf, e_at0, e_at1, e_at2, onO_some, e_setr, e_ix2_0, e_ix2_1, e_ix3_0, e_ix3_1, e_ix3_2, e_addI, e_addT, e_addL, e_eqI, e_eqS, e_eqB, e_eqT, e_eqR, e_ltI, e_isN, e_lenR, e_lenT, e_lenF, e_listR, e_listT, e_isi_int, e_isi_bool, e_isi_str, e_isi_tuple, e_isi_list, e_intI, e_intB, e_seqT, e_seqF, e_slT, e_slF, e_slR, e_isL, put_same, put_put, List.length_cons, List.length_nil, Nat.zero_add, Nat.reduceAdd, true_and, and_true, if_true, e_tupleT, wipe_l, wipe_n, rEqA, rNeA, rCmpA, h1c]
      refine ix_ints g2 g3 fun two hw => ?_
      refine q_take e2.row (by decide) (by decide) fun t3 B3 g4 g5 e3 => ?_
      simp only [x_seq, x_next, x_break, x_cont, x_drop, x_ret, x_retN, x_if, x_asg, x_for, x_raise, x_gname, x_gnil, x_gcons, x_gtup, x_gsub, x_c, x_op, x_un, x_chain, x_cb, x_call, x_bm, x_tup, x_lst, x_andV, x_orV, x_notV, x_ifE, x_sl, x_lc, x_dictK, x_dictT, x_rev, x_b, x_and, x_or, x_not, x_yes, x_nil, x_cons, x_part, x_noPart, x_iter, x_rng1, x_rng2, x_enum, aVar0, aVarS, onBl, onInt, onRef, onStr, onTup, on1, on2, List.set_cons_zero, List.set_cons_succ, rI2, rSubA, rMulA, rDivA, rModA, rPowA, rLeI, rGeI, rLtI, rGtI, rNegA, e_ixr, e_ixt, e_ixs, e_ixf, e_at0, e_at1, e_at2, onO_some, e_setr, e_ix2_0, e_ix2_1, e_ix3_0, e_ix3_1, e_ix3_2, e_addI, e_addT, e_addL, e_eqI, e_eqS, e_eqB, e_eqT, e_eqR, e_ltI, e_isN, e_lenR, e_lenT, e_lenF, e_listR, e_listT, e_isi_int, e_isi_bool, e_isi_str, e_isi_tuple, e_isi_list, e_intI, e_intB, e_seqT, e_seqF, e_slT, e_slF, e_slR, e_isL, put_same, put_put, List.length_cons, List.length_nil, Nat.zero_add, Nat.reduceAdd, true_and, and_true, if_true, e_tupleT, wipe_l, wipe_n, rEqA, rNeA, rCmpA]
      refine q_take e3.row (by decide) (by decide) fun t4 B4 g6 g7 e4 => ?_
      simp only [x_seq, x_next, x_break, x_cont, x_drop, x_ret, x_retN, x_if, x_asg, x_for, x_raise, x_gname, x_gnil, x_gcons, x_gtup, x_gsub, x_c, x_op, x_un, x_chain, x_cb, x_call, x_bm, x_tup, x_lst, x_andV, x_orV, x_notV, x_ifE, x_sl, x_lc, x_dictK, x_dictT, x_rev, x_b, x_and, x_or, x_not, x_yes, x_nil, x_cons, x_part, x_noPart, x_iter, x_rng1, x_rng2, x_enum, aVar0, aVarS, onBl, onInt, onRef, onStr, onTup, on1, on2, List.set_cons_zero, List.set_cons_succ, rI2, rSubA, rMulA, rDivA, rModA, rPowA, rLeI, rGeI, rLtI, rGtI, rNegA, e_ixr, e_ixt, e_ixs, e_ixf, e_at0, e_at1, e_at2, onO_some, e_setr, e_ix2_0, e_ix2_1, e_ix3_0, e_ix3_1, e_ix3_2, e_addI, e_addT, e_addL, e_eqI, e_eqS, e_eqB, e_eqT, e_eqR, e_ltI, e_isN, e_lenR, e_lenT, e_lenF, e_listR, e_listT, e_isi_int, e_isi_bool, e_isi_str, e_isi_tuple, e_isi_list, e_intI, e_intB, e_seqT, e_seqF, e_slT, e_slF, e_slR, e_isL, put_same, put_put, List.length_cons, List.length_nil, Nat.zero_add, Nat.reduceAdd, true_and, and_true, if_true, e_tupleT, wipe_l, wipe_n, rEqA, rNeA, rCmpA]
      refine ⟨lenS (by decide), fun q hq => ?_⟩
      have e5 := ((e1.trans e2).trans e3).trans e4
      have hqp := e5.row.ne hq
      have e6 : Drawn p A' (put B4 q (.lst [.int 1, .int 1, .int 2, .int (1 + t3), .int (1 + t4)])) := e5.new hq
      have hqb := ane (e5.at h1 hbp) hq
      have hqy := ane (e5.at h2 hyp) hq
      refine q_take e6.row (by decide) (by decide) fun t5 B5 g8 g9 e7 => ?_
      simp only [x_seq, x_next, x_break, x_cont, x_drop, x_ret, x_retN, x_if, x_asg, x_for, x_raise, x_gname, x_gnil, x_gcons, x_gtup, x_gsub, x_c, x_op, x_un, x_chain, x_cb, x_call, x_bm, x_tup, x_lst, x_andV, x_orV, x_notV, x_ifE, x_sl, x_lc, x_dictK, x_dictT, x_rev, x_b, x_and, x_or, x_not, x_yes, x_nil, x_cons, x_part, x_noPart, x_iter, x_rng1, x_rng2, x_enum, aVar0, aVarS, onBl, onInt, onRef, onStr, onTup, on1, on2, List.set_cons_zero, List.set_cons_succ, rI2, rSubA, rMulA, rDivA, rModA, rPowA, rLeI, rGeI, rLtI, rGtI, rNegA, e_ixr, e_ixt, e_ixs, e_ixf, e_at0, e_at1, e_at2, onO_some, e_setr, e_ix2_0, e_ix2_1, e_ix3_0, e_ix3_1, e_ix3_2, e_addI, e_addT, e_addL, e_eqI, e_eqS, e_eqB, e_eqT, e_eqR, e_ltI, e_isN, e_lenR, e_lenT, e_lenF, e_listR, e_listT, e_isi_int, e_isi_bool, e_isi_str, e_isi_tuple, e_isi_list, e_intI, e_intB, e_seqT, e_seqF, e_slT, e_slF, e_slR, e_isL, put_same, put_put, List.length_cons, List.length_nil, Nat.zero_add, Nat.reduceAdd, true_and, and_true, if_true, e_tupleT, wipe_l, wipe_n, rEqA, rNeA, rCmpA, e7.at put_same hqp]
      refine ix_ints (xs := [1, 1, 2, 1 + t3, 1 + t4]) g8 (by simpa using g9) fun cost hc => ?_
      have hc2 : 1 ≤ cost ∧ cost ≤ 1000 := by
        simp at hc
        omega
      have e8 := h5.trans (e6.trans e7)
      have h1d := (e6.trans e7).at h1 hbp
      have h2d := (e6.trans e7).at h2 hyp
      by_cases hot : one = two
      · simp only [hot, decide_true, Bool.not_true, Bool.false_eq_true, if_false]
        exact hnx _ _ ⟨ts, _, _, _, _, rfl, h1d, h2d, h3, by omega, e8⟩
      · simp only [hot, decide_false, Bool.not_false, if_true, x_seq, x_next, x_break, x_cont, x_drop, x_ret, x_retN, x_if, x_asg, x_for, x_raise, x_gname, x_gnil, x_gcons, x_gtup, x_gsub, x_c, x_op, x_un, x_chain, x_cb, x_call, x_bm, x_tup, x_lst, x_andV, x_orV, x_notV, x_ifE, x_sl, x_lc, x_dictK, x_dictT, x_rev, x_b, x_and, x_or, x_not, x_yes, x_nil, x_cons, x_part, x_noPart, x_iter, x_rng1, x_rng2, x_enum, aVar0, aVarS, onBl, onInt, onRef, onStr, onTup, on1, on2, List.set_cons_zero, List.set_cons_succ, rI2, rSubA, rMulA, rDivA, rModA, rPowA, rLeI, rGeI, rLtI, rGtI, rNegA, e_ixr, e_ixt, e_ixs, e_ixf, e_at0, e_at1, e_at2, onO_some, e_setr, e_ix2_0, e_ix2_1, e_ix3_0, e_ix3_1, e_ix3_2, e_addI, e_addT, e_addL, e_eqI, e_eqS, e_eqB, e_eqT, e_eqR, e_ltI, e_isN, e_lenR, e_lenT, e_lenF, e_listR, e_listT, e_isi_int, e_isi_bool, e_isi_str, e_isi_tuple, e_isi_list, e_intI, e_intB, e_seqT, e_seqF, e_slT, e_slF, e_slR, e_isL, put_same, put_put, List.length_cons, List.length_nil, Nat.zero_add, Nat.reduceAdd, true_and, and_true, if_true, e_tupleT, wipe_l, wipe_n, rEqA, rNeA, rCmpA, h2d, e_app h2d]
        refine ⟨lenS (by decide), by rw [List.length_map]; exact lenS' (by omega), ?_⟩
        refine hnx _ _ ⟨ts ++ [(one, two, cost)], _, _, _, _, rfl, by rw [put_ne hby]; exact h1d, by rw [put_same, List.map_append]; rfl, ?_, by simp; omega, e8.putn hyA hyp⟩
        intro t ht
        rcases List.mem_append.mp ht with ht | ht
        · exact h3 t ht
        · rw [List.mem_singleton.mp ht]; exact ⟨ho, hw, hot, hc2.1, hc2.2⟩
    · rintro a A' ⟨ts, r5, r6, r7, r8, rfl, h1, h2, h3, h4, h5⟩
      rw [rngA_length] at h4
      simp only [x_seq, x_next, x_break, x_cont, x_drop, x_ret, x_retN, x_if, x_asg, x_for, x_raise, x_gname, x_gnil, x_gcons, x_gtup, x_gsub, x_c, x_op, x_un, x_chain, x_cb, x_call, x_bm, x_tup, x_lst, x_andV, x_orV, x_notV, x_ifE, x_sl, x_lc, x_dictK, x_dictT, x_rev, x_b, x_and, x_or, x_not, x_yes, x_nil, x_cons, x_part, x_noPart, x_iter, x_rng1, x_rng2, x_enum, aVar0, aVarS, onBl, onInt, onRef, onStr, onTup, on1, on2, List.set_cons_zero, List.set_cons_succ, rI2, rSubA, rMulA, rDivA, rModA, rPowA, rLeI, rGeI, rLtI, rGtI, rNegA, e_ixr, e_ixt, e_ixs, e_ixf, e_at0, e_at1, e_at2, onO_some, e_setr, e_ix2_0, e_ix2_1, e_ix3_0, e_ix3_1, e_ix3_2, e_addI, e_addT, e_addL, e_eqI, e_eqS, e_eqB, e_eqT, e_eqR, e_ltI, e_isN, e_lenR, e_lenT, e_lenF, e_listR, e_listT, e_isi_int, e_isi_bool, e_isi_str, e_isi_tuple, e_isi_list, e_intI, e_intB, e_seqT, e_seqF, e_slT, e_slF, e_slR, e_isL, put_same, put_put, List.length_cons, List.length_nil, Nat.zero_add, Nat.reduceAdd, true_and, and_true, if_true, e_tupleT, wipe_l, wipe_n, rEqA, rNeA, rCmpA, h1, List.length_map]
      refine ⟨⟨by decide, by decide, by omega, by omega⟩, ?_⟩
      have hts : ts.length ≤ 10 := by omega
      refine loop_inv (fun i a A2 => ∃ (ts : List R3) (r5 r6 r7 r8 : Option AV), a = [some (.ref p), some (.int (1 + m)), some (.int st), some (.ref b), some (.ref y), r5, r6, r7, r8] ∧ A2 b = some (.lst (bs.map AV.int)) ∧ A2 y = some (.lst (ts.map tieV)) ∧ (∀ t ∈ ts, TieOk bs t) ∧ ts.length ≤ 10 + i ∧ Drawn p A A2) ?_ (fun _ _ _ _ _ => trivial) ?_ ?_
      · exact ⟨ts, _, _, _, _, rfl, h1, h2, h3, by omega, h5⟩
      · rintro i x a A' hx ⟨ts, r5, r6, r7, r8, rfl, h1, h2, h3, h4, h5⟩ D' hrt hbk hnx hct
        obtain ⟨hil, rfl⟩ := rngA_get hx
        simp only [x_seq, x_next, x_break, x_cont, x_drop, x_ret, x_retN, x_if, x_asg, x_for, x_raise, x_gname, x_gnil, x_gcons, x_gtup, x_gsub, x_c, x_op, x_un, x_chain, x_cb, x_call, x_bm, x_tup, x_lst, x_andV, x_orV, x_notV, x_ifE, x_sl, x_lc, x_dictK, x_dictT, x_rev, x_b, x_and, x_or, x_not, x_yes, x_nil, x_cons, x_part, x_noPart, x_iter, x_rng1, x_rng2, x_enum, aVar0, aVarS, onBl, onInt, onRef, onStr, onTup, on1, on2, List.set_cons_zero, List.set_cons_succ, rI2, rSubA, rMulA, rDivA, rModA, rPowA, rLeI, rGeI, rLtI, rGtI, rNegA, e_ixr, e_ixt, e_ixs, e_ixf, e_at0, e_at1, e_at2, onO_some, e_setr, e_ix2_0, e_ix2_1, e_ix3_0, e_ix3_1, e_ix3_2, e_addI, e_addT, e_addL, e_eqI, e_eqS, e_eqB, e_eqT, e_eqR, e_ltI, e_isN, e_lenR, e_lenT, e_lenF, e_listR, e_listT, e_isi_int, e_isi_bool, e_isi_str, e_isi_tuple, e_isi_list, e_intI, e_intB, e_seqT, e_seqF, e_slT, e_slF, e_slR, e_isL, put_same, put_put, List.length_cons, List.length_nil, Nat.zero_add, Nat.reduceAdd, true_and, and_true, if_true, e_tupleT, wipe_l, wipe_n, rEqA, rNeA, rCmpA]
        refine q_take h5.row (by decide) (by decide) fun t1 B1 g0 g1 e1 => ?_
        simp only [x_seq, x_next, x_break, x_cont, x_drop, x_ret, x_retN, x_if, x_asg, x_for, x_raise, x_gname, x_gnil, x_gcons, x_gtup, x_gsub, x_c, x_op, x_un, x_chain, x_cb, x_call, x_bm, x_tup, x_lst, x_andV, x_orV, x_notV, x_ifE, x_sl, x_lc, x_dictK, x_dictT, x_rev, x_b, x_and, x_or, x_not, x_yes, x_nil, x_cons, x_part, x_noPart, x_iter, x_rng1, x_rng2, x_enum, aVar0, aVarS, onBl, onInt, onRef, onStr, onTup, on1, on2, List.set_cons_zero, List.set_cons_succ, rI2, rSubA, rMulA, rDivA, rModA, rPowA, rLeI, rGeI, rLtI, rGtI, rNegA, e_ixr, e_ixt, e_ixs, e_ixf, e_at0, e_at1, e_at2, onO_some, e_setr, e_ix2_0, e_ix2_1, e_ix3_0, e_ix3_1, e_ix3_2, e_addI, e_addT, e_addL, e_eqI, e_eqS, e_eqB, e_eqT, e_eqR, e_ltI, e_isN, e_lenR, e_lenT, e_lenF, e_listR, e_listT, e_isi_int, e_isi_bool, e_isi_str, e_isi_tuple, e_isi_list, e_intI, e_intB, e_seqT, e_seqF, e_slT, e_slF, e_slR, e_isL, put_same, put_put, List.length_cons, List.length_nil, Nat.zero_add, Nat.reduceAdd, true_and, and_true, if_true, e_tupleT, wipe_l, wipe_n, rEqA, rNeA, rCmpA]
        have h1b := e1.at h1 hbp
        have h2b := e1.at h2 hyp
        by_cases hz : 0 < t1
        · simp only [hz, decide_true, if_true, x_seq, x_next, x_break, x_cont, x_drop, x_ret, x_retN, x_if, x_asg, x_for, x_raise, x_gname, x_gnil, x_gcons, x_gtup, x_gsub, x_c, x_op, x_un, x_chain, x_cb, x_call, x_bm, x_tup, x_lst, x_andV, x_orV, x_notV, x_ifE, x_sl, x_lc, x_dictK, x_dictT, x_rev, x_b, x_and, x_or, x_not, x_yes, x_nil, x_cons, x_part, x_noPart, x_iter, x_rng1, x_rng2, x_enum, aVar0, aVarS, onBl, onInt, onRef, onStr, onTup, on1, on2, List.set_cons_zero, List.set_cons_succ, rI2, rSubA, rMulA, rDivA, rModA, rPowA, rLeI, rGeI, rLtI, rGtI, rNegA, e_ixr, e_ixt, e_ixs, e_ixf, e_at0, e_at1, e_at2, onO_some, e_setr, e_ix2_0, e_ix2_1, e_ix3_0, e_ix3_1, e_ix3_2, e_addI, e_addT, e_addL, e_eqI, e_eqS, e_eqB, e_eqT, e_eqR, e_ltI, e_isN, e_lenR, e_lenT, e_lenF, e_listR, e_listT, e_isi_int, e_isi_bool, e_isi_str, e_isi_tuple, e_isi_list, e_intI, e_intB, e_seqT, e_seqF, e_slT, e_slF, e_slR, e_isL, put_same, put_put, List.length_cons, List.length_nil, Nat.zero_add, Nat.reduceAdd, true_and, and_true, if_true, e_tupleT, wipe_l, wipe_n, rEqA, rNeA, rCmpA, h2b]
          refine q_take e1.row (by omega) (by omega) fun t2 B2 g2 g3 e2 => ?_
          have h1c := e2.at h1b hbp
          have h2c := e2.at h2b hyp
          simp only [x_seq, x_next, x_break, x_cont, x_drop, x_ret, x_retN, x_if, x_asg, x_for, x_raise, x_gname, x_gnil, x_gcons, x_gtup, x_gsub, x_c, x_op, x_un, x_chain, x_cb, x_call, x_bm, x_tup, x_lst, x_andV, x_orV, x_notV, x_ifE, x_sl, x_lc, x_dictK, x_dictT, x_rev, x_b, x_and, x_or, x_not, x_yes, x_nil, x_cons, x_part, x_noPart, x_iter, x_rng1, x_rng2, x_enum, aVar0, aVarS, onBl, onInt, onRef, onStr, onTup, on1, on2, List.set_cons_zero, List.set_cons_succ, rI2, rSubA, rMulA, rDivA, rModA, rPowA, rLeI, rGeI, rLtI, rGtI, rNegA, e_ixr, e_ixt, e_ixs, e_ixf, e_at0, e_at1, e_at2, onO_some, e_setr, e_ix2_0, e_ix2_1, e_ix3_0, e_ix3_1, e_ix3_2, e_addI, e_addT, e_addL, e_eqI, e_eqS, e_eqB, e_eqT, e_eqR, e_ltI, e_isN, e_lenR, e_lenT, e_lenF, e_listR, e_listT, e_isi_int, e_isi_bool, e_isi_str, e_isi_tuple, e_isi_list, e_intI, e_intB, e_seqT, e_seqF, e_slT, e_slF, e_slR, e_isL, put_same, put_put, List.length_cons, List.length_nil, Nat.zero_add, Nat.reduceAdd, true_and, and_true, if_true, e_tupleT, wipe_l, wipe_n, rEqA, rNeA, rCmpA, h1c]
          have hk : 1 + i < bs.length := by omega
          have ht2 : t2.toNat < bs.length := by omega
          have et2 : atI (bs.map AV.int) t2 = some (.int bs[t2.toNat]) := by
            have := at_n (xs := bs.map AV.int) (n := t2.toNat) (x := .int bs[t2.toNat]) (by rw [List.getElem?_map, List.getElem?_eq_getElem ht2]; rfl)
            rwa [Int.toNat_of_nonneg g2] at this
          have ek : atI (bs.map AV.int) (1 + (i : Int)) = some (.int bs[1 + i]) := by
            have := at_n (xs := bs.map AV.int) (n := 1 + i) (x := .int bs[1 + i]) (by rw [List.getElem?_map, List.getElem?_eq_getElem hk]; rfl)
            rwa [show ((1 + i : Nat) : Int) = 1 + (i : Int) by omega] at this
          simp only [et2, ek, onO_some]
          refine q_take e2.row (by decide) (by decide) fun t3 B3 g4 g5 e3 => ?_
          have h1d := e3.at h1c hbp
          have h2d := e3.at h2c hyp
          simp only [x_seq, x_next, x_break, x_cont, x_drop, x_ret, x_retN, x_if, x_asg, x_for, x_raise, x_gname, x_gnil, x_gcons, x_gtup, x_gsub, x_c, x_op, x_un, x_chain, x_cb, x_call, x_bm, x_tup, x_lst, x_andV, x_orV, x_notV, x_ifE, x_sl, x_lc, x_dictK, x_dictT, x_rev, x_b, x_and, x_or, x_not, x_yes, x_nil, x_cons, x_part, x_noPart, x_iter, x_rng1, x_rng2, x_enum, aVar0, aVarS, onBl, onInt, onRef, onStr, onTup, on1, on2, List.set_cons_zero, List.set_cons_succ, rI2, rSubA, rMulA, rDivA, rModA, rPowA, rLeI, rGeI, rLtI, rGtI, rNegA, e_ixr, e_ixt, e_ixs, e_ixf, e_at0, e_at1, e_at2, onO_some, e_setr, e_ix2_0, e_ix2_1, e_ix3_0, e_ix3_1, e_ix3_2, e_addI, e_addT, e_addL, e_eqI, e_eqS, e_eqB, e_eqT, e_eqR, e_ltI, e_isN, e_lenR, e_lenT, e_lenF, e_listR, e_listT, e_isi_int, e_isi_bool, e_isi_str, e_isi_tuple, e_isi_list, e_intI, e_intB, e_seqT, e_seqF, e_slT, e_slF, e_slR, e_isL, put_same, put_put, List.length_cons, List.length_nil, Nat.zero_add, Nat.reduceAdd, true_and, and_true, if_true, e_tupleT, wipe_l, wipe_n, rEqA, rNeA, rCmpA, e_app h2d]
          refine ⟨lenS (by decide), by rw [List.length_map]; exact lenS' (by omega), ?_⟩
          refine hnx _ _ ⟨ts ++ [(bs[t2.toNat], bs[1 + i], 1 + t3)], _, _, _, _, rfl, by rw [put_ne hby]; exact h1d, by rw [put_same, List.map_append]; rfl, ?_, by simp; omega, ((h5.trans e1).trans (e2.trans e3)).putn hyA hyp⟩
          intro t ht
          rcases List.mem_append.mp ht with ht | ht
          · exact h3 t ht
          · rw [List.mem_singleton.mp ht]
            have hlt := List.pairwise_iff_getElem.mp hbi t2.toNat (1 + i) ht2 hk (by omega)
            refine ⟨List.getElem_mem _, List.getElem_mem _, ?_, ?_, ?_⟩ <;> (simp only; omega)
        · simp only [hz, decide_false, Bool.false_eq_true, if_false]
          exact hnx _ _ ⟨ts, _, _, _, _, rfl, h1b, h2b, h3, by omega, h5.trans e1⟩
      · rintro a A' ⟨ts, r5, r6, r7, r8, rfl, h1, h2, h3, h4, h5⟩
        rw [rngA_length] at h4
        simp only [x_seq, x_next, x_break, x_cont, x_drop, x_ret, x_retN, x_if, x_asg, x_for, x_raise, x_gname, x_gnil, x_gcons, x_gtup, x_gsub, x_c, x_op, x_un, x_chain, x_cb, x_call, x_bm, x_tup, x_lst, x_andV, x_orV, x_notV, x_ifE, x_sl, x_lc, x_dictK, x_dictT, x_rev, x_b, x_and, x_or, x_not, x_yes, x_nil, x_cons, x_part, x_noPart, x_iter, x_rng1, x_rng2, x_enum, aVar0, aVarS, onBl, onInt, onRef, onStr, onTup, on1, on2, List.set_cons_zero, List.set_cons_succ, rI2, rSubA, rMulA, rDivA, rModA, rPowA, rLeI, rGeI, rLtI, rGtI, rNegA, e_ixr, e_ixt, e_ixs, e_ixf, e_at0, e_at1, e_at2, onO_some, e_setr, e_ix2_0, e_ix2_1, e_ix3_0, e_ix3_1, e_ix3_2, e_addI, e_addT, e_addL, e_eqI, e_eqS, e_eqB, e_eqT, e_eqR, e_ltI, e_isN, e_lenR, e_lenT, e_lenF, e_listR, e_listT, e_isi_int, e_isi_bool, e_isi_str, e_isi_tuple, e_isi_list, e_intI, e_intB, e_seqT, e_seqF, e_slT, e_slF, e_slR, e_isL, put_same, put_put, List.length_cons, List.length_nil, Nat.zero_add, Nat.reduceAdd, true_and, and_true, if_true, e_tupleT, wipe_l, wipe_n, rEqA, rNeA, rCmpA]
        refine q_make_net h1 h2 B h3 (by omega) fun A6 s6 => ?_
        have e6 : Drawn p A A6 := by
          refine ⟨h5.ext.trans s6.b, ?_⟩
          obtain ⟨a, b, z1, z2⟩ := h5.row
          exact ⟨a, b, s6 p _ z1, z2⟩
        refine h A6 _ _ e6 ⟨?_, ?_, ?_, ?_, ?_, ?_⟩
        · rw [sortI_length]; exact hbs1
        · rw [sortI_length]; exact hbs6
        · exact fun b hb => hbr b (sortI_mem.mp hb)
        · rw [sortI_of (hbi.imp fun h => by omega)]; exact hbi
        · intro t ht
          obtain ⟨t', ht', rfl⟩ := List.mem_map.mp ht
          obtain ⟨z1, z2, _⟩ := h3 t' ht'
          refine ⟨sortI_mem.mpr ?_, sortI_mem.mpr ?_⟩
          · unfold norm
            simp only
            rcases Int.le_total t'.1 t'.2.1 with z | z
            · rw [Int.min_eq_left z]; exact z1
            · rw [Int.min_eq_right z]; exact z2
          · unfold norm
            simp only
            rcases Int.le_total t'.1 t'.2.1 with z | z
            · rw [Int.max_eq_right z]; exact z2
            · rw [Int.max_eq_left z]; exact z1
        · rw [List.length_map]; omega
end K34

set_option Elab.async false
set_option linter.all false
set_option maxRecDepth 100000
set_option maxHeartbeats 400000
namespace K34
open PySem PySem.Spec PyProof.Rows L2 Aw
def WaysOk (bs : List Int) (ts : List R3) (ws : List Way) : Prop := ∀ w ∈ ws, w.1 < ts.length ∧ w.2.1 ∈ bs ∧ w.2.2 ∈ bs
theorem q_made {c : Cl} {bs : List Int} {ts : List R3} {p : Addr} {A : AH} {k : AK} {e : Value → AH → Prop} (hA : RowAt A p) (N : NetOk bs ts)
    (h : ∀ y A' ws, Drawn p A A' → A y = none → y ≠ p → A' y = some (.lst (ws.map wayV)) → WaysOk bs ts ws → ws.length ≤ 16 → k (.ref y) A') : p__law_made_ways c [.ref p, netV bs ts] A k e := by
  refine ⟨rfl, ?_⟩
  show r__law_made_ways c _ _ [some (.ref p), some (netV bs ts), none, none, none, none, none, none, none] A
  unfold r__law_made_ways
  simp only [x_seq, x_next, x_break, x_cont, x_drop, x_ret, x_retN, x_if, x_asg, x_for, x_raise, x_gname, x_gnil, x_gcons, x_gtup, x_gsub, x_c, x_op, x_un, x_chain, x_cb, x_call, x_bm, x_tup, x_lst, x_andV, x_orV, x_notV, x_ifE, x_sl, x_lc, x_dictK, x_dictT, x_rev, x_b, x_and, x_or, x_not, x_yes, x_nil, x_cons, x_part, x_noPart, x_iter, x_rng1, x_rng2, x_enum, aVar0, aVarS, onBl, onInt, onRef, onStr, onTup, on1, on2, List.set_cons_zero, List.set_cons_succ, rI2, rSubA, rMulA, rDivA, rModA, rPowA, rLeI, rGeI, rLtI, rGtI, rNegA, e_ixr, e_ixt, e_ixs, e_ixf, e_at0, e_at1, e_at2, onO_some, e_setr, e_ix2_0, e_ix2_1, e_ix3_0, e_ix3_1, e_ix3_2, e_addI, e_addT, e_addL, e_eqI, e_eqS, e_eqB, e_eqT, e_eqR, e_ltI, e_isN, e_lenR, e_lenT, e_lenF, e_listR, e_listT, e_isi_int, e_isi_bool, e_isi_str, e_isi_tuple, e_isi_list, e_intI, e_intB, e_seqT, e_seqF, e_slT, e_slF, e_slR, e_isL, put_same, put_put, List.length_cons, List.length_nil, Nat.zero_add, Nat.reduceAdd, true_and, and_true, if_true, e_tupleT, wipe_l, wipe_n, rEqA, rNeA, rCmpA]
  refine ⟨lenS (by decide), fun y hy => ?_⟩
  have hyp := hA.ne hy
  have d1 : Drawn p A (put A y (.lst [])) := (Drawn.refl hA).new hy
  refine q_take d1.row (by decide) (by decide) fun m A1 hm0 hm1 d2 => ?_
  have hy1 := d2.at put_same hyp
  have d3 := d1.trans d2
  clear d1 d2
  simp only [x_seq, x_next, x_break, x_cont, x_drop, x_ret, x_retN, x_if, x_asg, x_for, x_raise, x_gname, x_gnil, x_gcons, x_gtup, x_gsub, x_c, x_op, x_un, x_chain, x_cb, x_call, x_bm, x_tup, x_lst, x_andV, x_orV, x_notV, x_ifE, x_sl, x_lc, x_dictK, x_dictT, x_rev, x_b, x_and, x_or, x_not, x_yes, x_nil, x_cons, x_part, x_noPart, x_iter, x_rng1, x_rng2, x_enum, aVar0, aVarS, onBl, onInt, onRef, onStr, onTup, on1, on2, List.set_cons_zero, List.set_cons_succ, rI2, rSubA, rMulA, rDivA, rModA, rPowA, rLeI, rGeI, rLtI, rGtI, rNegA, e_ixr, e_ixt, e_ixs, e_ixf, e_at0, e_at1, e_at2, onO_some, e_setr, e_ix2_0, e_ix2_1, e_ix3_0, e_ix3_1, e_ix3_2, e_addI, e_addT, e_addL, e_eqI, e_eqS, e_eqB, e_eqT, e_eqR, e_ltI, e_isN, e_lenR, e_lenT, e_lenF, e_listR, e_listT, e_isi_int, e_isi_bool, e_isi_str, e_isi_tuple, e_isi_list, e_intI, e_intB, e_seqT, e_seqF, e_slT, e_slF, e_slR, e_isL, put_same, put_put, List.length_cons, List.length_nil, Nat.zero_add, Nat.reduceAdd, true_and, and_true, if_true, e_tupleT, wipe_l, wipe_n, rEqA, rNeA, rCmpA, netV]
  refine loop_inv (fun i a A' => ∃ (ws : List Way) (r4 r5 r6 r7 r8 : Option AV), a = [some (.ref p), some (netV bs ts), some (.ref y), some (.int m), r4, r5, r6, r7, r8] ∧ A' y = some (.lst (ws.map wayV)) ∧ WaysOk bs ts ws ∧ ws.length ≤ i ∧ Drawn p A A') ?_ (fun _ _ _ _ _ => trivial) ?_ ?_
  · exact ⟨[], _, _, _, _, _, rfl, hy1, (fun _ h => by cases h), Nat.le_refl _, d3⟩
  · rintro i x a A' hx ⟨ws, r4, r5, r6, r7, r8, rfl, h1, h2, h3, h4⟩ D' hrt hbk hnx hct
    obtain ⟨z, hz, rfl⟩ := enumA_get _ _ _ _ hx
    rw [List.getElem?_map] at hz
    obtain ⟨t, ht, rfl⟩ := Option.map_eq_some_iff.mp hz
    have hil := (List.getElem?_eq_some_iff.mp ht).1
    obtain ⟨hl, hr⟩ := N.ties t (List.mem_of_getElem? ht)
    have hfew := N.few
    rw [Nat.zero_add]
    simp only [x_seq, x_next, x_break, x_cont, x_drop, x_ret, x_retN, x_if, x_asg, x_for, x_raise, x_gname, x_gnil, x_gcons, x_gtup, x_gsub, x_c, x_op, x_un, x_chain, x_cb, x_call, x_bm, x_tup, x_lst, x_andV, x_orV, x_notV, x_ifE, x_sl, x_lc, x_dictK, x_dictT, x_rev, x_b, x_and, x_or, x_not, x_yes, x_nil, x_cons, x_part, x_noPart, x_iter, x_rng1, x_rng2, x_enum, aVar0, aVarS, onBl, onInt, onRef, onStr, onTup, on1, on2, List.set_cons_zero, List.set_cons_succ, rI2, rSubA, rMulA, rDivA, rModA, rPowA, rLeI, rGeI, rLtI, rGtI, rNegA, e_ixr, e_ixt, e_ixs, e_ixf, e_at0, e_at1, e_at2, onO_some, e_setr, e_ix2_0, e_ix2_1, e_ix3_0, e_ix3_1, e_ix3_2, e_addI, e_addT, e_addL, e_eqI, e_eqS, e_eqB, e_eqT, e_eqR, e_ltI, e_isN, e_lenR, e_lenT, e_lenF, e_listR, e_listT, e_isi_int, e_isi_bool, e_isi_str, e_isi_tuple, e_isi_list, e_intI, e_intB, e_seqT, e_seqF, e_slT, e_slF, e_slR, e_isL, put_same, put_put, List.length_cons, List.length_nil, Nat.zero_add, Nat.reduceAdd, true_and, and_true, if_true, e_tupleT, wipe_l, wipe_n, rEqA, rNeA, rCmpA]
    refine q_take h4.row (by decide) (by decide) fun t1 B1 g0 g1 e1 => ?_
    simp only [x_seq, x_next, x_break, x_cont, x_drop, x_ret, x_retN, x_if, x_asg, x_for, x_raise, x_gname, x_gnil, x_gcons, x_gtup, x_gsub, x_c, x_op, x_un, x_chain, x_cb, x_call, x_bm, x_tup, x_lst, x_andV, x_orV, x_notV, x_ifE, x_sl, x_lc, x_dictK, x_dictT, x_rev, x_b, x_and, x_or, x_not, x_yes, x_nil, x_cons, x_part, x_noPart, x_iter, x_rng1, x_rng2, x_enum, aVar0, aVarS, onBl, onInt, onRef, onStr, onTup, on1, on2, List.set_cons_zero, List.set_cons_succ, rI2, rSubA, rMulA, rDivA, rModA, rPowA, rLeI, rGeI, rLtI, rGtI, rNegA, e_ixr, e_ixt, e_ixs, e_ixf, e_at0, e_at1, e_at2, onO_some, e_setr, e_ix2_0, e_ix2_1, e_ix3_0, e_ix3_1, e_ix3_2, e_addI, e_addT, e_addL, e_eqI, e_eqS, e_eqB, e_eqT, e_eqR, e_ltI, e_isN, e_lenR, e_lenT, e_lenF, e_listR, e_listT, e_isi_int, e_isi_bool, e_isi_str, e_isi_tuple, e_isi_list, e_intI, e_intB, e_seqT, e_seqF, e_slT, e_slF, e_slR, e_isL, put_same, put_put, List.length_cons, List.length_nil, Nat.zero_add, Nat.reduceAdd, true_and, and_true, if_true, e_tupleT, wipe_l, wipe_n, rEqA, rNeA, rCmpA]
    have hy2 := e1.at h1 hyp
    by_cases hz1 : t1 = 0
    · simp only [hz1, decide_true, if_true, x_seq, x_next, x_break, x_cont, x_drop, x_ret, x_retN, x_if, x_asg, x_for, x_raise, x_gname, x_gnil, x_gcons, x_gtup, x_gsub, x_c, x_op, x_un, x_chain, x_cb, x_call, x_bm, x_tup, x_lst, x_andV, x_orV, x_notV, x_ifE, x_sl, x_lc, x_dictK, x_dictT, x_rev, x_b, x_and, x_or, x_not, x_yes, x_nil, x_cons, x_part, x_noPart, x_iter, x_rng1, x_rng2, x_enum, aVar0, aVarS, onBl, onInt, onRef, onStr, onTup, on1, on2, List.set_cons_zero, List.set_cons_succ, rI2, rSubA, rMulA, rDivA, rModA, rPowA, rLeI, rGeI, rLtI, rGtI, rNegA, e_ixr, e_ixt, e_ixs, e_ixf, e_at0, e_at1, e_at2, onO_some, e_setr, e_ix2_0, e_ix2_1, e_ix3_0, e_ix3_1, e_ix3_2, e_addI, e_addT, e_addL, e_eqI, e_eqS, e_eqB, e_eqT, e_eqR, e_ltI, e_isN, e_lenR, e_lenT, e_lenF, e_listR, e_listT, e_isi_int, e_isi_bool, e_isi_str, e_isi_tuple, e_isi_list, e_intI, e_intB, e_seqT, e_seqF, e_slT, e_slF, e_slR, e_isL, put_same, put_put, List.length_cons, List.length_nil, Nat.zero_add, Nat.reduceAdd, true_and, and_true, if_true, e_tupleT, wipe_l, wipe_n, rEqA, rNeA, rCmpA, id]
      refine ⟨lenS (by decide), fun q hq => ?_⟩
      have hqp := e1.row.ne hq
      have hqy := ane hy2 hq
      have e2 : Drawn p A' (put B1 q (.lst [.int t.1, .int t.2.1])) := e1.new hq
      refine q_take e2.row (by decide) (by decide) fun t2 B2 g2 g3 e3 => ?_
      have hq2 := e3.at put_same hqp
      have hy3 := (e2.trans e3).at h1 hyp
      have e4 := h4.trans (e2.trans e3)
      simp only [x_seq, x_next, x_break, x_cont, x_drop, x_ret, x_retN, x_if, x_asg, x_for, x_raise, x_gname, x_gnil, x_gcons, x_gtup, x_gsub, x_c, x_op, x_un, x_chain, x_cb, x_call, x_bm, x_tup, x_lst, x_andV, x_orV, x_notV, x_ifE, x_sl, x_lc, x_dictK, x_dictT, x_rev, x_b, x_and, x_or, x_not, x_yes, x_nil, x_cons, x_part, x_noPart, x_iter, x_rng1, x_rng2, x_enum, aVar0, aVarS, onBl, onInt, onRef, onStr, onTup, on1, on2, List.set_cons_zero, List.set_cons_succ, rI2, rSubA, rMulA, rDivA, rModA, rPowA, rLeI, rGeI, rLtI, rGtI, rNegA, e_ixr, e_ixt, e_ixs, e_ixf, e_at0, e_at1, e_at2, onO_some, e_setr, e_ix2_0, e_ix2_1, e_ix3_0, e_ix3_1, e_ix3_2, e_addI, e_addT, e_addL, e_eqI, e_eqS, e_eqB, e_eqT, e_eqR, e_ltI, e_isN, e_lenR, e_lenT, e_lenF, e_listR, e_listT, e_isi_int, e_isi_bool, e_isi_str, e_isi_tuple, e_isi_list, e_intI, e_intB, e_seqT, e_seqF, e_slT, e_slF, e_slR, e_isL, put_same, put_put, List.length_cons, List.length_nil, Nat.zero_add, Nat.reduceAdd, true_and, and_true, if_true, e_tupleT, wipe_l, wipe_n, rEqA, rNeA, rCmpA]
      have fin : ∀ B3, Drawn p A B3 → B3 y = some (.lst (ws.map wayV)) → B3 q = some (.lst [.int t.1, .int t.2.1]) → ∃ ch pa : Int, ch ∈ bs ∧ pa ∈ bs ∧ (atI [AV.int t.1, AV.int t.2.1] t2 = some (.int ch)) ∧ (atI [AV.int t.1, AV.int t.2.1] (1 - t2) = some (.int pa)) := by
        intro B3 _ _ _
        have : t2 = 0 ∨ t2 = 1 := by omega
        rcases this with rfl | rfl
        · exact ⟨t.1, t.2.1, hl, hr, e_at0, by rw [show (1 : Int) - 0 = 1 from rfl]; exact e_at1⟩
        · exact ⟨t.2.1, t.1, hr, hl, e_at1, by rw [show (1 : Int) - 1 = 0 from rfl]; exact e_at0⟩
      obtain ⟨ch, pa, hch, hpa, ec, ep⟩ := fin B2 e4 hy3 hq2
      have app : ∀ B3 r8, Drawn p A B3 → B3 y = some (.lst (ws.map wayV)) → D'.nx [some (.ref p), some (netV bs ts), some (.ref y), some (.int m), some (.int (i : Nat)), some (.tup [.int t.1, .int t.2.1, .int t.2.2]), some (.ref q), some (.int t2), r8] (put B3 y (.lst (ws.map wayV ++ [.tup [.int (i : Nat), .int ch, .int pa]]))) := fun B3 r8 q1 q2 => by
        refine hnx _ _ ⟨ws ++ [(i, ch, pa)], _, _, _, _, _, rfl, by rw [put_same, List.map_append]; rfl, ?_, by simp; omega, q1.putn hy hyp⟩
        intro w hw
        rcases List.mem_append.mp hw with hw | hw
        · exact h2 w hw
        · rw [List.mem_singleton.mp hw]; exact ⟨hil, hch, hpa⟩
      by_cases hm : m = 0
      · simp only [hm, decide_true, if_true, x_seq, x_next, x_break, x_cont, x_drop, x_ret, x_retN, x_if, x_asg, x_for, x_raise, x_gname, x_gnil, x_gcons, x_gtup, x_gsub, x_c, x_op, x_un, x_chain, x_cb, x_call, x_bm, x_tup, x_lst, x_andV, x_orV, x_notV, x_ifE, x_sl, x_lc, x_dictK, x_dictT, x_rev, x_b, x_and, x_or, x_not, x_yes, x_nil, x_cons, x_part, x_noPart, x_iter, x_rng1, x_rng2, x_enum, aVar0, aVarS, onBl, onInt, onRef, onStr, onTup, on1, on2, List.set_cons_zero, List.set_cons_succ, rI2, rSubA, rMulA, rDivA, rModA, rPowA, rLeI, rGeI, rLtI, rGtI, rNegA, e_ixr, e_ixt, e_ixs, e_ixf, e_at0, e_at1, e_at2, onO_some, e_setr, e_ix2_0, e_ix2_1, e_ix3_0, e_ix3_1, e_ix3_2, e_addI, e_addT, e_addL, e_eqI, e_eqS, e_eqB, e_eqT, e_eqR, e_ltI, e_isN, e_lenR, e_lenT, e_lenF, e_listR, e_listT, e_isi_int, e_isi_bool, e_isi_str, e_isi_tuple, e_isi_list, e_intI, e_intB, e_seqT, e_seqF, e_slT, e_slF, e_slR, e_isL, put_same, put_put, List.length_cons, List.length_nil, Nat.zero_add, Nat.reduceAdd, true_and, and_true, if_true, e_tupleT, wipe_l, wipe_n, rEqA, rNeA, rCmpA, hq2, hy3, ec, ep, e_app hy3]
        refine ⟨lenS (by decide), by rw [List.length_map]; exact lenS' (by omega), ?_⟩
        have := app B2 r8 e4 hy3
        rw [hm] at this
        exact this
      · simp only [hm, decide_false, Bool.false_eq_true, if_false, x_seq, x_next, x_break, x_cont, x_drop, x_ret, x_retN, x_if, x_asg, x_for, x_raise, x_gname, x_gnil, x_gcons, x_gtup, x_gsub, x_c, x_op, x_un, x_chain, x_cb, x_call, x_bm, x_tup, x_lst, x_andV, x_orV, x_notV, x_ifE, x_sl, x_lc, x_dictK, x_dictT, x_rev, x_b, x_and, x_or, x_not, x_yes, x_nil, x_cons, x_part, x_noPart, x_iter, x_rng1, x_rng2, x_enum, aVar0, aVarS, onBl, onInt, onRef, onStr, onTup, on1, on2, List.set_cons_zero, List.set_cons_succ, rI2, rSubA, rMulA, rDivA, rModA, rPowA, rLeI, rGeI, rLtI, rGtI, rNegA, e_ixr, e_ixt, e_ixs, e_ixf, e_at0, e_at1, e_at2, onO_some, e_setr, e_ix2_0, e_ix2_1, e_ix3_0, e_ix3_1, e_ix3_2, e_addI, e_addT, e_addL, e_eqI, e_eqS, e_eqB, e_eqT, e_eqR, e_ltI, e_isN, e_lenR, e_lenT, e_lenF, e_listR, e_listT, e_isi_int, e_isi_bool, e_isi_str, e_isi_tuple, e_isi_list, e_intI, e_intB, e_seqT, e_seqF, e_slT, e_slF, e_slR, e_isL, put_same, put_put, List.length_cons, List.length_nil, Nat.zero_add, Nat.reduceAdd, true_and, and_true, if_true, e_tupleT, wipe_l, wipe_n, rEqA, rNeA, rCmpA, hq2, ec, e_seqR hy3]
        intro D hD
        have hyD : ∀ o, put B2 D o y = some (.lst (ws.map wayV)) := fun o => by rw [put_ne (ane hy3 hD)]; exact hy3
        have hqD : ∀ o, put B2 D o q = some (.lst [.int t.1, .int t.2.1]) := fun o => by rw [put_ne (ane hq2 hD)]; exact hq2
        refine lc_map (fun x => match x with | .tup [_, y, _] => y | y => y) (lenS (by rw [List.length_map]; omega)) hyD (fun x hx o Y N hY => ?_) ?_
        · obtain ⟨v, hv, rfl⟩ := List.mem_map.mp hx
          unfold wayV at hY ⊢
          simp only [x_seq, x_next, x_break, x_cont, x_drop, x_ret, x_retN, x_if, x_asg, x_for, x_raise, x_gname, x_gnil, x_gcons, x_gtup, x_gsub, x_c, x_op, x_un, x_chain, x_cb, x_call, x_bm, x_tup, x_lst, x_andV, x_orV, x_notV, x_ifE, x_sl, x_lc, x_dictK, x_dictT, x_rev, x_b, x_and, x_or, x_not, x_yes, x_nil, x_cons, x_part, x_noPart, x_iter, x_rng1, x_rng2, x_enum, aVar0, aVarS, onBl, onInt, onRef, onStr, onTup, on1, on2, List.set_cons_zero, List.set_cons_succ, rI2, rSubA, rMulA, rDivA, rModA, rPowA, rLeI, rGeI, rLtI, rGtI, rNegA, e_ixr, e_ixt, e_ixs, e_ixf, e_at0, e_at1, e_at2, onO_some, e_setr, e_ix2_0, e_ix2_1, e_ix3_0, e_ix3_1, e_ix3_2, e_addI, e_addT, e_addL, e_eqI, e_eqS, e_eqB, e_eqT, e_eqR, e_ltI, e_isN, e_lenR, e_lenT, e_lenF, e_listR, e_listT, e_isi_int, e_isi_bool, e_isi_str, e_isi_tuple, e_isi_list, e_intI, e_intB, e_seqT, e_seqF, e_slT, e_slF, e_slR, e_isL, put_same, put_put, List.length_cons, List.length_nil, Nat.zero_add, Nat.reduceAdd, true_and, and_true, if_true, e_tupleT, wipe_l, wipe_n, rEqA, rNeA, rCmpA]
          exact hY
        · have eC : (ws.map wayV).map (fun x => match x with | .tup [_, y, _] => y | y => y) = (ws.map (·.2.1)).map AV.int := by
            rw [List.map_map, List.map_map]; rfl
          rw [eC]
          refine e_inL put_same rfl (flat_ints _) ?_
          have e5 : Drawn p A (put B2 D (.lst ((ws.map (·.2.1)).map AV.int))) := e4.new hD
          rw [inA_ints]
          by_cases hin : ch ∈ ws.map (·.2.1)
          · simp only [hin, decide_true, Bool.not_true, Bool.false_eq_true, if_false]
            exact hnx _ _ ⟨ws, _, _, _, _, _, rfl, hyD _, h2, by omega, e5⟩
          · simp only [hin, decide_false, Bool.not_false, if_true, hyD, hqD, x_seq, x_next, x_break, x_cont, x_drop, x_ret, x_retN, x_if, x_asg, x_for, x_raise, x_gname, x_gnil, x_gcons, x_gtup, x_gsub, x_c, x_op, x_un, x_chain, x_cb, x_call, x_bm, x_tup, x_lst, x_andV, x_orV, x_notV, x_ifE, x_sl, x_lc, x_dictK, x_dictT, x_rev, x_b, x_and, x_or, x_not, x_yes, x_nil, x_cons, x_part, x_noPart, x_iter, x_rng1, x_rng2, x_enum, aVar0, aVarS, onBl, onInt, onRef, onStr, onTup, on1, on2, List.set_cons_zero, List.set_cons_succ, rI2, rSubA, rMulA, rDivA, rModA, rPowA, rLeI, rGeI, rLtI, rGtI, rNegA, e_ixr, e_ixt, e_ixs, e_ixf, e_at0, e_at1, e_at2, onO_some, e_setr, e_ix2_0, e_ix2_1, e_ix3_0, e_ix3_1, e_ix3_2, e_addI, e_addT, e_addL, e_eqI, e_eqS, e_eqB, e_eqT, e_eqR, e_ltI, e_isN, e_lenR, e_lenT, e_lenF, e_listR, e_listT, e_isi_int, e_isi_bool, e_isi_str, e_isi_tuple, e_isi_list, e_intI, e_intB, e_seqT, e_seqF, e_slT, e_slF, e_slR, e_isL, put_same, put_put, List.length_cons, List.length_nil, Nat.zero_add, Nat.reduceAdd, true_and, and_true, if_true, e_tupleT, wipe_l, wipe_n, rEqA, rNeA, rCmpA, ec, ep, e_app (hyD _)]
            refine ⟨lenS (by decide), by rw [List.length_map]; exact lenS' (by omega), ?_⟩
            exact app _ _ e5 (hyD _)
    · simp only [hz1, decide_false, id, Bool.false_eq_true, if_false]
      exact hnx _ _ ⟨ws, _, _, _, _, _, rfl, hy2, h2, by omega, h4.trans e1⟩
  · rintro a A' ⟨ws, r4, r5, r6, r7, r8, rfl, h1, h2, h3, h4⟩
    rw [enumA_length, List.length_map] at h3
    simp only [x_seq, x_next, x_break, x_cont, x_drop, x_ret, x_retN, x_if, x_asg, x_for, x_raise, x_gname, x_gnil, x_gcons, x_gtup, x_gsub, x_c, x_op, x_un, x_chain, x_cb, x_call, x_bm, x_tup, x_lst, x_andV, x_orV, x_notV, x_ifE, x_sl, x_lc, x_dictK, x_dictT, x_rev, x_b, x_and, x_or, x_not, x_yes, x_nil, x_cons, x_part, x_noPart, x_iter, x_rng1, x_rng2, x_enum, aVar0, aVarS, onBl, onInt, onRef, onStr, onTup, on1, on2, List.set_cons_zero, List.set_cons_succ, rI2, rSubA, rMulA, rDivA, rModA, rPowA, rLeI, rGeI, rLtI, rGtI, rNegA, e_ixr, e_ixt, e_ixs, e_ixf, e_at0, e_at1, e_at2, onO_some, e_setr, e_ix2_0, e_ix2_1, e_ix3_0, e_ix3_1, e_ix3_2, e_addI, e_addT, e_addL, e_eqI, e_eqS, e_eqB, e_eqT, e_eqR, e_ltI, e_isN, e_lenR, e_lenT, e_lenF, e_listR, e_listT, e_isi_int, e_isi_bool, e_isi_str, e_isi_tuple, e_isi_list, e_intI, e_intB, e_seqT, e_seqF, e_slT, e_slF, e_slR, e_isL, put_same, put_put, List.length_cons, List.length_nil, Nat.zero_add, Nat.reduceAdd, true_and, and_true, if_true, e_tupleT, wipe_l, wipe_n, rEqA, rNeA, rCmpA]
    have := N.few
    exact h y A' ws h4 hy hyp h1 h2 (by omega)
end K34

set_option Elab.async false
set_option linter.all false
set_option maxRecDepth 100000
set_option maxHeartbeats 400000
namespace K34
open PySem PySem.Spec PyProof.Rows L2 Aw
def costsOk (bs : List Int) (kvs : List (Key × AV)) : Prop := ∀ z ∈ bs, ∃ v, valA kvs (.inl z) = some v ∧ ∃ i, v = .int i
def Rows3 (xs : List AV) : Prop := ∀ x ∈ xs, ∃ a b c : Int, x = .tup [.int a, .int b, .int c]
theorem costs_put {bs : List Int} {kvs : List (Key × AV)} {j i : Int} (h : costsOk bs kvs) : costsOk bs (putA kvs (.inl j) (.int i)) := by
  intro z hz
  rw [valA_putA]
  by_cases e : (Sum.inl z : Key) = .inl j
  · rw [if_pos e]; exact ⟨_, rfl, i, rfl⟩
  · rw [if_neg e]; exact h z hz
theorem pairs_of : ∀ (vs : List (Int × Int)), pairsA (vs.map fun v => AV.tup [.int v.1, .int v.2]) = some (vs.map fun v => (.inl v.1, .int v.2))
  | [] => rfl
  | v :: r => by
    show (match keyA (.int v.1), pairsA (r.map fun v => AV.tup [.int v.1, .int v.2]) with
      | some k, some ps => some ((k, AV.int v.2) :: ps)
      | _, _ => none) = _
    rw [pairs_of r]
    rfl
theorem q_fitted {c : Cl} {bs : List Int} {ts : List R3} {ws : List Way} {p w : Addr} {A : AH} {k : AK} {e : Value → AH → Prop} (hA : RowAt A p) (N : NetOk bs ts) (hw : A w = some (.lst (ws.map wayV))) (hwp : w ≠ p) (hW : WaysOk bs ts ws) (hlw : ws.length ≤ 16)
    (h : ∀ y A' xs, Drawn p A A' → A y = none → y ≠ p → A' y = some (.lst xs) → Rows3 xs → xs.length = bs.length → k (.ref y) A') : p__law_fitted c [.ref p, netV bs ts, .ref w] A k e := by
  refine ⟨rfl, ?_⟩
  show r__law_fitted c _ _ [some (.ref p), some (netV bs ts), some (.ref w), none, none, none, none, none, none, none, none] A
  unfold r__law_fitted
  simp only [x_seq, x_next, x_break, x_cont, x_drop, x_ret, x_retN, x_if, x_asg, x_for, x_raise, x_gname, x_gnil, x_gcons, x_gtup, x_gsub, x_c, x_op, x_un, x_chain, x_cb, x_call, x_bm, x_tup, x_lst, x_andV, x_orV, x_notV, x_ifE, x_sl, x_lc, x_dictK, x_dictT, x_rev, x_b, x_and, x_or, x_not, x_yes, x_nil, x_cons, x_part, x_noPart, x_iter, x_rng1, x_rng2, x_enum, aVar0, aVarS, onBl, onInt, onRef, onStr, onTup, on1, on2, List.set_cons_zero, List.set_cons_succ, rI2, rSubA, rMulA, rDivA, rModA, rPowA, rLeI, rGeI, rLtI, rGtI, rNegA, e_ixr, e_ixt, e_ixs, e_ixf, e_at0, e_at1, e_at2, onO_some, e_setr, e_ix2_0, e_ix2_1, e_ix3_0, e_ix3_1, e_ix3_2, e_addI, e_addT, e_addL, e_eqI, e_eqS, e_eqB, e_eqT, e_eqR, e_ltI, e_isN, e_lenR, e_lenT, e_lenF, e_listR, e_listT, e_isi_int, e_isi_bool, e_isi_str, e_isi_tuple, e_isi_list, e_intI, e_intB, e_seqT, e_seqF, e_slT, e_slF, e_slR, e_isL, put_same, put_put, List.length_cons, List.length_nil, Nat.zero_add, Nat.reduceAdd, true_and, and_true, if_true, e_tupleT, wipe_l, wipe_n, rEqA, rNeA, rCmpA, netV]
  intro D hD
  have hDp := hA.ne hD
  have h6 := N.six
  refine lc_inv (fun i acc A' => ∃ vs : List (Int × Int), acc = vs.map (fun v => AV.tup [.int v.1, .int v.2]) ∧ vs.map (·.1) = bs.take i ∧ Drawn p A A') (lenS (by rw [List.length_map]; omega)) put_same ⟨[], rfl, rfl, (Drawn.refl hA).new hD⟩ (fun _ _ _ _ _ _ => trivial) (fun i x acc A3 Y N' hx hD3 hP hY hN => ?_) (fun acc A3 hD3 hP => ?_)
  · obtain ⟨vs, rfl, h1, d1⟩ := hP
    rw [List.getElem?_map] at hx
    obtain ⟨b, hb, rfl⟩ := Option.map_eq_some_iff.mp hx
    simp only [x_seq, x_next, x_break, x_cont, x_drop, x_ret, x_retN, x_if, x_asg, x_for, x_raise, x_gname, x_gnil, x_gcons, x_gtup, x_gsub, x_c, x_op, x_un, x_chain, x_cb, x_call, x_bm, x_tup, x_lst, x_andV, x_orV, x_notV, x_ifE, x_sl, x_lc, x_dictK, x_dictT, x_rev, x_b, x_and, x_or, x_not, x_yes, x_nil, x_cons, x_part, x_noPart, x_iter, x_rng1, x_rng2, x_enum, aVar0, aVarS, onBl, onInt, onRef, onStr, onTup, on1, on2, List.set_cons_zero, List.set_cons_succ, rI2, rSubA, rMulA, rDivA, rModA, rPowA, rLeI, rGeI, rLtI, rGtI, rNegA, e_ixr, e_ixt, e_ixs, e_ixf, e_at0, e_at1, e_at2, onO_some, e_setr, e_ix2_0, e_ix2_1, e_ix3_0, e_ix3_1, e_ix3_2, e_addI, e_addT, e_addL, e_eqI, e_eqS, e_eqB, e_eqT, e_eqR, e_ltI, e_isN, e_lenR, e_lenT, e_lenF, e_listR, e_listT, e_isi_int, e_isi_bool, e_isi_str, e_isi_tuple, e_isi_list, e_intI, e_intB, e_seqT, e_seqF, e_slT, e_slF, e_slR, e_isL, put_same, put_put, List.length_cons, List.length_nil, Nat.zero_add, Nat.reduceAdd, true_and, and_true, if_true, e_tupleT, wipe_l, wipe_n, rEqA, rNeA, rCmpA]
    refine q_take d1.row (by decide) (by decide) fun u A4 hu0 hu1 d2 => ?_
    simp only [x_seq, x_next, x_break, x_cont, x_drop, x_ret, x_retN, x_if, x_asg, x_for, x_raise, x_gname, x_gnil, x_gcons, x_gtup, x_gsub, x_c, x_op, x_un, x_chain, x_cb, x_call, x_bm, x_tup, x_lst, x_andV, x_orV, x_notV, x_ifE, x_sl, x_lc, x_dictK, x_dictT, x_rev, x_b, x_and, x_or, x_not, x_yes, x_nil, x_cons, x_part, x_noPart, x_iter, x_rng1, x_rng2, x_enum, aVar0, aVarS, onBl, onInt, onRef, onStr, onTup, on1, on2, List.set_cons_zero, List.set_cons_succ, rI2, rSubA, rMulA, rDivA, rModA, rPowA, rLeI, rGeI, rLtI, rGtI, rNegA, e_ixr, e_ixt, e_ixs, e_ixf, e_at0, e_at1, e_at2, onO_some, e_setr, e_ix2_0, e_ix2_1, e_ix3_0, e_ix3_1, e_ix3_2, e_addI, e_addT, e_addL, e_eqI, e_eqS, e_eqB, e_eqT, e_eqR, e_ltI, e_isN, e_lenR, e_lenT, e_lenF, e_listR, e_listT, e_isi_int, e_isi_bool, e_isi_str, e_isi_tuple, e_isi_list, e_intI, e_intB, e_seqT, e_seqF, e_slT, e_slF, e_slR, e_isL, put_same, put_put, List.length_cons, List.length_nil, Nat.zero_add, Nat.reduceAdd, true_and, and_true, if_true, e_tupleT, wipe_l, wipe_n, rEqA, rNeA, rCmpA]
    refine ⟨lenS (by decide), hY _ _ (d2.at hD3 hDp) ⟨vs ++ [(b, u - 2)], by rw [List.map_append]; rfl, ?_, (d1.trans d2).putn hD hDp⟩⟩
    rw [List.map_append, h1, List.take_add_one, hb]
    rfl
  · obtain ⟨vs, rfl, h1, d1⟩ := hP
    rw [List.length_map, List.take_length] at h1
    rw [e_dictR hD3 (pairs_of vs)]
    intro g hg
    have hgp := d1.row.ne hg
    have hgA := d1.ext.gone hgp hg
    have hc0 : costsOk bs (mergeA [] (vs.map fun v => (.inl v.1, .int v.2))) := by
      intro z hz
      refine merge_val (.inl ?_) (fun v => ∃ i, v = .int i) (fun kv hkv => ?_) (fun v hv => by cases hv)
      · rw [← h1] at hz
        obtain ⟨v, hv, rfl⟩ := List.mem_map.mp hz
        exact List.mem_map.mpr ⟨_, List.mem_map.mpr ⟨v, hv, rfl⟩, rfl⟩
      · obtain ⟨v, _, rfl⟩ := List.mem_map.mp hkv
        exact ⟨_, rfl⟩
    have hl0 : (mergeA [] (vs.map fun v => ((.inl v.1 : Key), AV.int v.2))).length ≤ 6 := by
      have h2 := merge_len (more := vs.map fun v => ((.inl v.1 : Key), AV.int v.2)) (kvs := [])
      have h3 : vs.length = bs.length := by rw [← h1, List.length_map]
      rw [List.length_map] at h2
      simp at h2
      omega
    have d2 : Drawn p A (put A3 g (.dK (mergeA [] (vs.map fun v => (.inl v.1, .int v.2))))) := d1.new hg
    generalize mergeA [] (vs.map fun v => ((.inl v.1 : Key), AV.int v.2)) = kvs at hc0 hl0 d2
    refine q_take d2.row (by decide) (by decide) fun m A4 hm0 hm1 d3 => ?_
    have hg4 := d3.at put_same hgp
    have d4 := d2.trans d3
    clear d1 d2 d3 hD3
    simp only [x_seq, x_next, x_break, x_cont, x_drop, x_ret, x_retN, x_if, x_asg, x_for, x_raise, x_gname, x_gnil, x_gcons, x_gtup, x_gsub, x_c, x_op, x_un, x_chain, x_cb, x_call, x_bm, x_tup, x_lst, x_andV, x_orV, x_notV, x_ifE, x_sl, x_lc, x_dictK, x_dictT, x_rev, x_b, x_and, x_or, x_not, x_yes, x_nil, x_cons, x_part, x_noPart, x_iter, x_rng1, x_rng2, x_enum, aVar0, aVarS, onBl, onInt, onRef, onStr, onTup, on1, on2, List.set_cons_zero, List.set_cons_succ, rI2, rSubA, rMulA, rDivA, rModA, rPowA, rLeI, rGeI, rLtI, rGtI, rNegA, e_ixr, e_ixt, e_ixs, e_ixf, e_at0, e_at1, e_at2, onO_some, e_setr, e_ix2_0, e_ix2_1, e_ix3_0, e_ix3_1, e_ix3_2, e_addI, e_addT, e_addL, e_eqI, e_eqS, e_eqB, e_eqT, e_eqR, e_ltI, e_isN, e_lenR, e_lenT, e_lenF, e_listR, e_listT, e_isi_int, e_isi_bool, e_isi_str, e_isi_tuple, e_isi_list, e_intI, e_intB, e_seqT, e_seqF, e_slT, e_slF, e_slR, e_isL, put_same, put_put, List.length_cons, List.length_nil, Nat.zero_add, Nat.reduceAdd, true_and, and_true, if_true, e_tupleT, wipe_l, wipe_n, rEqA, rNeA, rCmpA]
    refine ⟨cmul31 hm0 (by omega) (by decide) (by decide), by omega, by omega, ?_⟩
    refine loop_inv (fun i a A' => ∃ (kvs : List (Key × AV)) (r4 r5 r6 r7 : Option AV), a = [some (.ref p), some (netV bs ts), some (.ref w), some (.ref g), r4, r5, r6, r7, none, none, none] ∧ A' g = some (.dK kvs) ∧ costsOk bs kvs ∧ kvs.length ≤ 6 ∧ Drawn p A A') ⟨kvs, _, _, _, _, rfl, hg4, hc0, hl0, d4⟩ (fun _ _ _ _ _ => trivial) ?_ ?_
    · rintro i x a A' hx ⟨kvs, r4, r5, r6, r7, rfl, h1, h2, h3, h4⟩ D' hrt hbk hnx hct
      obtain ⟨hi, rfl⟩ := rngA_get hx
      have hw4 := h4.at hw hwp
      simp only [x_seq, x_next, x_break, x_cont, x_drop, x_ret, x_retN, x_if, x_asg, x_for, x_raise, x_gname, x_gnil, x_gcons, x_gtup, x_gsub, x_c, x_op, x_un, x_chain, x_cb, x_call, x_bm, x_tup, x_lst, x_andV, x_orV, x_notV, x_ifE, x_sl, x_lc, x_dictK, x_dictT, x_rev, x_b, x_and, x_or, x_not, x_yes, x_nil, x_cons, x_part, x_noPart, x_iter, x_rng1, x_rng2, x_enum, aVar0, aVarS, onBl, onInt, onRef, onStr, onTup, on1, on2, List.set_cons_zero, List.set_cons_succ, rI2, rSubA, rMulA, rDivA, rModA, rPowA, rLeI, rGeI, rLtI, rGtI, rNegA, e_ixr, e_ixt, e_ixs, e_ixf, e_at0, e_at1, e_at2, onO_some, e_setr, e_ix2_0, e_ix2_1, e_ix3_0, e_ix3_1, e_ix3_2, e_addI, e_addT, e_addL, e_eqI, e_eqS, e_eqB, e_eqT, e_eqR, e_ltI, e_isN, e_lenR, e_lenT, e_lenF, e_listR, e_listT, e_isi_int, e_isi_bool, e_isi_str, e_isi_tuple, e_isi_list, e_intI, e_intB, e_seqT, e_seqF, e_slT, e_slF, e_slR, e_isL, put_same, put_put, List.length_cons, List.length_nil, Nat.zero_add, Nat.reduceAdd, true_and, and_true, if_true, e_tupleT, wipe_l, wipe_n, rEqA, rNeA, rCmpA, e_seqR hw4]
      refine loop_inv (fun j a A2 => ∃ (kvs : List (Key × AV)) (r4 r5 r6 r7 : Option AV), a = [some (.ref p), some (netV bs ts), some (.ref w), some (.ref g), r4, r5, r6, r7, none, none, none] ∧ A2 g = some (.dK kvs) ∧ costsOk bs kvs ∧ kvs.length ≤ 6 ∧ Drawn p A A2) ⟨kvs, _, _, _, _, rfl, h1, h2, h3, h4⟩ ?_ ?_ ?_
      · rintro j a A2 hj ⟨kvs, r4, r5, r6, r7, rfl, h1, h2, h3, h4⟩
        exact h4.at hw hwp
      · rintro j x a A2 hx ⟨kvs, r4, r5, r6, r7, rfl, h1, h2, h3, h4⟩ D'' hrt' hbk' hnx' hct'
        obtain ⟨⟨pl, ch, pa⟩, hy, rfl⟩ := List.mem_map.mp (List.mem_of_getElem? hx)
        obtain ⟨hpl, hch, hpa⟩ := hW _ hy
        simp only at hpl hch hpa
        obtain ⟨_, hv, iv, rfl⟩ := h2 pa hpa
        have hsome : (valA kvs (.inl ch)).isSome = true := by
          obtain ⟨_, hv2, _⟩ := h2 ch hch
          rw [hv2]; rfl
        unfold wayV
        simp only [x_seq, x_next, x_break, x_cont, x_drop, x_ret, x_retN, x_if, x_asg, x_for, x_raise, x_gname, x_gnil, x_gcons, x_gtup, x_gsub, x_c, x_op, x_un, x_chain, x_cb, x_call, x_bm, x_tup, x_lst, x_andV, x_orV, x_notV, x_ifE, x_sl, x_lc, x_dictK, x_dictT, x_rev, x_b, x_and, x_or, x_not, x_yes, x_nil, x_cons, x_part, x_noPart, x_iter, x_rng1, x_rng2, x_enum, aVar0, aVarS, onBl, onInt, onRef, onStr, onTup, on1, on2, List.set_cons_zero, List.set_cons_succ, rI2, rSubA, rMulA, rDivA, rModA, rPowA, rLeI, rGeI, rLtI, rGtI, rNegA, e_ixr, e_ixt, e_ixs, e_ixf, e_at0, e_at1, e_at2, onO_some, e_setr, e_ix2_0, e_ix2_1, e_ix3_0, e_ix3_1, e_ix3_2, e_addI, e_addT, e_addL, e_eqI, e_eqS, e_eqB, e_eqT, e_eqR, e_ltI, e_isN, e_lenR, e_lenT, e_lenF, e_listR, e_listT, e_isi_int, e_isi_bool, e_isi_str, e_isi_tuple, e_isi_list, e_intI, e_intB, e_seqT, e_seqF, e_slT, e_slF, e_slR, e_isL, put_same, put_put, List.length_cons, List.length_nil, Nat.zero_add, Nat.reduceAdd, true_and, and_true, if_true, e_tupleT, wipe_l, wipe_n, rEqA, rNeA, rCmpA, h1, hv, netV, net_tie hpl]
        exact ⟨lenS' (by omega), hnx' _ _ ⟨_, _, _, _, _, rfl, put_same, costs_put h2, by rw [length_putA_old hsome]; exact h3, h4.putn hgA hgp⟩⟩
      · rintro a A2 ⟨kvs, r4, r5, r6, r7, rfl, h1, h2, h3, h4⟩
        exact hnx _ _ ⟨kvs, _, _, _, _, rfl, h1, h2, h3, h4⟩
    · rintro a A' ⟨kvs, r4, r5, r6, r7, rfl, h1, h2, h3, h4⟩
      simp only [x_seq, x_next, x_break, x_cont, x_drop, x_ret, x_retN, x_if, x_asg, x_for, x_raise, x_gname, x_gnil, x_gcons, x_gtup, x_gsub, x_c, x_op, x_un, x_chain, x_cb, x_call, x_bm, x_tup, x_lst, x_andV, x_orV, x_notV, x_ifE, x_sl, x_lc, x_dictK, x_dictT, x_rev, x_b, x_and, x_or, x_not, x_yes, x_nil, x_cons, x_part, x_noPart, x_iter, x_rng1, x_rng2, x_enum, aVar0, aVarS, onBl, onInt, onRef, onStr, onTup, on1, on2, List.set_cons_zero, List.set_cons_succ, rI2, rSubA, rMulA, rDivA, rModA, rPowA, rLeI, rGeI, rLtI, rGtI, rNegA, e_ixr, e_ixt, e_ixs, e_ixf, e_at0, e_at1, e_at2, onO_some, e_setr, e_ix2_0, e_ix2_1, e_ix3_0, e_ix3_1, e_ix3_2, e_addI, e_addT, e_addL, e_eqI, e_eqS, e_eqB, e_eqT, e_eqR, e_ltI, e_isN, e_lenR, e_lenT, e_lenF, e_listR, e_listT, e_isi_int, e_isi_bool, e_isi_str, e_isi_tuple, e_isi_list, e_intI, e_intB, e_seqT, e_seqF, e_slT, e_slF, e_slR, e_isL, put_same, put_put, List.length_cons, List.length_nil, Nat.zero_add, Nat.reduceAdd, true_and, and_true, if_true, e_tupleT, wipe_l, wipe_n, rEqA, rNeA, rCmpA]
      refine q_take h4.row (by decide) (by decide) fun r A5 hr0 hr1 d5 => ?_
      have hg5 := d5.at h1 hgp
      simp only [x_seq, x_next, x_break, x_cont, x_drop, x_ret, x_retN, x_if, x_asg, x_for, x_raise, x_gname, x_gnil, x_gcons, x_gtup, x_gsub, x_c, x_op, x_un, x_chain, x_cb, x_call, x_bm, x_tup, x_lst, x_andV, x_orV, x_notV, x_ifE, x_sl, x_lc, x_dictK, x_dictT, x_rev, x_b, x_and, x_or, x_not, x_yes, x_nil, x_cons, x_part, x_noPart, x_iter, x_rng1, x_rng2, x_enum, aVar0, aVarS, onBl, onInt, onRef, onStr, onTup, on1, on2, List.set_cons_zero, List.set_cons_succ, rI2, rSubA, rMulA, rDivA, rModA, rPowA, rLeI, rGeI, rLtI, rGtI, rNegA, e_ixr, e_ixt, e_ixs, e_ixf, e_at0, e_at1, e_at2, onO_some, e_setr, e_ix2_0, e_ix2_1, e_ix3_0, e_ix3_1, e_ix3_2, e_addI, e_addT, e_addL, e_eqI, e_eqS, e_eqB, e_eqT, e_eqR, e_ltI, e_isN, e_lenR, e_lenT, e_lenF, e_listR, e_listT, e_isi_int, e_isi_bool, e_isi_str, e_isi_tuple, e_isi_list, e_intI, e_intB, e_seqT, e_seqF, e_slT, e_slF, e_slR, e_isL, put_same, put_put, List.length_cons, List.length_nil, Nat.zero_add, Nat.reduceAdd, true_and, and_true, if_true, e_tupleT, wipe_l, wipe_n, rEqA, rNeA, rCmpA]
      refine ⟨lenS (by decide), fun y hy => ?_⟩
      have hyp := d5.row.ne hy
      have d6 := h4.trans d5
      have hyA := d6.ext.gone hyp hy
      have hgy := ane hg5 hy
      have d7 : Drawn p A (put A5 y (.lst [])) := d6.new hy
      simp only [x_seq, x_next, x_break, x_cont, x_drop, x_ret, x_retN, x_if, x_asg, x_for, x_raise, x_gname, x_gnil, x_gcons, x_gtup, x_gsub, x_c, x_op, x_un, x_chain, x_cb, x_call, x_bm, x_tup, x_lst, x_andV, x_orV, x_notV, x_ifE, x_sl, x_lc, x_dictK, x_dictT, x_rev, x_b, x_and, x_or, x_not, x_yes, x_nil, x_cons, x_part, x_noPart, x_iter, x_rng1, x_rng2, x_enum, aVar0, aVarS, onBl, onInt, onRef, onStr, onTup, on1, on2, List.set_cons_zero, List.set_cons_succ, rI2, rSubA, rMulA, rDivA, rModA, rPowA, rLeI, rGeI, rLtI, rGtI, rNegA, e_ixr, e_ixt, e_ixs, e_ixf, e_at0, e_at1, e_at2, onO_some, e_setr, e_ix2_0, e_ix2_1, e_ix3_0, e_ix3_1, e_ix3_2, e_addI, e_addT, e_addL, e_eqI, e_eqS, e_eqB, e_eqT, e_eqR, e_ltI, e_isN, e_lenR, e_lenT, e_lenF, e_listR, e_listT, e_isi_int, e_isi_bool, e_isi_str, e_isi_tuple, e_isi_list, e_intI, e_intB, e_seqT, e_seqF, e_slT, e_slF, e_slR, e_isL, put_same, put_put, List.length_cons, List.length_nil, Nat.zero_add, Nat.reduceAdd, true_and, and_true, if_true, e_tupleT, wipe_l, wipe_n, rEqA, rNeA, rCmpA, netV]
      refine loop_inv (fun i a A' => ∃ (xs : List AV) (r10 : Option AV), a = [some (.ref p), some (netV bs ts), some (.ref w), some (.ref g), r4, r5, r6, r7, some (.int (r - 300)), some (.ref y), r10] ∧ A' g = some (.dK kvs) ∧ A' y = some (.lst xs) ∧ Rows3 xs ∧ xs.length = i ∧ Drawn p A A')
        ⟨[], _, rfl, by rw [put_ne hgy]; exact hg5, put_same, (fun _ h => by cases h), rfl, d7⟩ (fun _ _ _ _ _ => trivial) ?_ ?_
      · rintro i x a A' hx ⟨xs, r10, rfl, h1, h5, h6, h7, h8⟩ D' hrt hbk hnx hct
        obtain ⟨b, hb, rfl⟩ := List.mem_map.mp (List.mem_of_getElem? hx)
        have hil := (List.getElem?_eq_some_iff.mp hx).1
        rw [List.length_map] at hil
        obtain ⟨_, hv, iv, rfl⟩ := h2 b hb
        simp only [x_seq, x_next, x_break, x_cont, x_drop, x_ret, x_retN, x_if, x_asg, x_for, x_raise, x_gname, x_gnil, x_gcons, x_gtup, x_gsub, x_c, x_op, x_un, x_chain, x_cb, x_call, x_bm, x_tup, x_lst, x_andV, x_orV, x_notV, x_ifE, x_sl, x_lc, x_dictK, x_dictT, x_rev, x_b, x_and, x_or, x_not, x_yes, x_nil, x_cons, x_part, x_noPart, x_iter, x_rng1, x_rng2, x_enum, aVar0, aVarS, onBl, onInt, onRef, onStr, onTup, on1, on2, List.set_cons_zero, List.set_cons_succ, rI2, rSubA, rMulA, rDivA, rModA, rPowA, rLeI, rGeI, rLtI, rGtI, rNegA, e_ixr, e_ixt, e_ixs, e_ixf, e_at0, e_at1, e_at2, onO_some, e_setr, e_ix2_0, e_ix2_1, e_ix3_0, e_ix3_1, e_ix3_2, e_addI, e_addT, e_addL, e_eqI, e_eqS, e_eqB, e_eqT, e_eqR, e_ltI, e_isN, e_lenR, e_lenT, e_lenF, e_listR, e_listT, e_isi_int, e_isi_bool, e_isi_str, e_isi_tuple, e_isi_list, e_intI, e_intB, e_seqT, e_seqF, e_slT, e_slF, e_slR, e_isL, put_same, put_put, List.length_cons, List.length_nil, Nat.zero_add, Nat.reduceAdd, true_and, and_true, if_true, e_tupleT, wipe_l, wipe_n, rEqA, rNeA, rCmpA, h5]
        refine q_take h8.row (by decide) (by decide) fun u B1 g0 g1 e1 => ?_
        have hg6 := e1.at h1 hgp
        have hy6 := e1.at h5 hyp
        simp only [x_seq, x_next, x_break, x_cont, x_drop, x_ret, x_retN, x_if, x_asg, x_for, x_raise, x_gname, x_gnil, x_gcons, x_gtup, x_gsub, x_c, x_op, x_un, x_chain, x_cb, x_call, x_bm, x_tup, x_lst, x_andV, x_orV, x_notV, x_ifE, x_sl, x_lc, x_dictK, x_dictT, x_rev, x_b, x_and, x_or, x_not, x_yes, x_nil, x_cons, x_part, x_noPart, x_iter, x_rng1, x_rng2, x_enum, aVar0, aVarS, onBl, onInt, onRef, onStr, onTup, on1, on2, List.set_cons_zero, List.set_cons_succ, rI2, rSubA, rMulA, rDivA, rModA, rPowA, rLeI, rGeI, rLtI, rGtI, rNegA, e_ixr, e_ixt, e_ixs, e_ixf, e_at0, e_at1, e_at2, onO_some, e_setr, e_ix2_0, e_ix2_1, e_ix3_0, e_ix3_1, e_ix3_2, e_addI, e_addT, e_addL, e_eqI, e_eqS, e_eqB, e_eqT, e_eqR, e_ltI, e_isN, e_lenR, e_lenT, e_lenF, e_listR, e_listT, e_isi_int, e_isi_bool, e_isi_str, e_isi_tuple, e_isi_list, e_intI, e_intB, e_seqT, e_seqF, e_slT, e_slF, e_slR, e_isL, put_same, put_put, List.length_cons, List.length_nil, Nat.zero_add, Nat.reduceAdd, true_and, and_true, if_true, e_tupleT, wipe_l, wipe_n, rEqA, rNeA, rCmpA, hg6, hv, e_app hy6]
        refine ⟨lenS (by decide), lenS' (by omega), ?_⟩
        refine hnx _ _ ⟨xs ++ [.tup [.int b, .int (r - 300 + if id (decide (u = 0)) = true then 1 else 0), .int iv]], _, rfl, by rw [put_ne hgy]; exact hg6, put_same, ?_, by simp [h7], (h8.trans e1).putn hyA hyp⟩
        intro x hx
        rcases List.mem_append.mp hx with hx | hx
        · exact h6 x hx
        · rw [List.mem_singleton.mp hx]; exact ⟨_, _, _, rfl⟩
      · rintro a A' ⟨xs, r10, rfl, h1, h5, h6, h7, h8⟩
        rw [List.length_map] at h7
        simp only [x_seq, x_next, x_break, x_cont, x_drop, x_ret, x_retN, x_if, x_asg, x_for, x_raise, x_gname, x_gnil, x_gcons, x_gtup, x_gsub, x_c, x_op, x_un, x_chain, x_cb, x_call, x_bm, x_tup, x_lst, x_andV, x_orV, x_notV, x_ifE, x_sl, x_lc, x_dictK, x_dictT, x_rev, x_b, x_and, x_or, x_not, x_yes, x_nil, x_cons, x_part, x_noPart, x_iter, x_rng1, x_rng2, x_enum, aVar0, aVarS, onBl, onInt, onRef, onStr, onTup, on1, on2, List.set_cons_zero, List.set_cons_succ, rI2, rSubA, rMulA, rDivA, rModA, rPowA, rLeI, rGeI, rLtI, rGtI, rNegA, e_ixr, e_ixt, e_ixs, e_ixf, e_at0, e_at1, e_at2, onO_some, e_setr, e_ix2_0, e_ix2_1, e_ix3_0, e_ix3_1, e_ix3_2, e_addI, e_addT, e_addL, e_eqI, e_eqS, e_eqB, e_eqT, e_eqR, e_ltI, e_isN, e_lenR, e_lenT, e_lenF, e_listR, e_listT, e_isi_int, e_isi_bool, e_isi_str, e_isi_tuple, e_isi_list, e_intI, e_intB, e_seqT, e_seqF, e_slT, e_slF, e_slR, e_isL, put_same, put_put, List.length_cons, List.length_nil, Nat.zero_add, Nat.reduceAdd, true_and, and_true, if_true, e_tupleT, wipe_l, wipe_n, rEqA, rNeA, rCmpA]
        exact h y A' xs h8 hyA hyp h5 h6 h7
end K34

set_option Elab.async false
set_option linter.all false
set_option maxRecDepth 100000
set_option maxHeartbeats 400000
namespace K34
open PySem PySem.Spec PyProof.Rows L2 Aw
theorem prim_tup {A : AH} {xs : List AV} (hl : xs.length ≤ 10) (h : ∀ y ∈ xs, Prim y) : Item A (.tup xs) := .inr (.inl ⟨xs, rfl, hl, h⟩)
theorem Item.draw {p : Addr} {A B : AH} {x : AV} (h : Item A x) (d : Drawn p A B) (n : RowAt A p) : Item B x := by
  rcases h with h | h | ⟨q, ns, h1, h2⟩
  · exact .inl h
  · exact .inr (.inl h)
  · by_cases e : q = p
    · subst e
      obtain ⟨a, b, h3, _⟩ := d.row
      exact .inr (.inr ⟨q, [a, b], h1, h3⟩)
    · exact .inr (.inr ⟨q, ns, h1, d.at h2 e⟩)
theorem cut_mem {xs : List AV} {lo hi : Option Int} {x : AV} (h : x ∈ cutA xs lo hi) : x ∈ xs := List.mem_of_mem_drop (List.mem_of_mem_take h)
theorem cut_len {xs : List AV} {lo hi : Option Int} : (cutA xs lo hi).length ≤ xs.length := by
  unfold cutA
  rw [List.length_take, List.length_drop]
  omega
theorem q_spoilt {c : Cl} {net : AV} {xs : List AV} {p s : Addr} {A : AH} {k : AK} {e : Value → AH → Prop} (hA : RowAt A p) (hs : A s = some (.lst xs)) (hsp : s ≠ p) (hx : Rows3 xs) (h1 : 1 ≤ xs.length) (h6 : xs.length ≤ 6)
    (h : ∀ y A' xs, Drawn p A A' → y ≠ p → A' y = some (.lst xs) → (∀ x ∈ xs, Item A' x) → xs.length ≤ 20 → k (.ref y) A') : p__law_spoilt c [.ref p, net, .ref s] A k e := by
  refine ⟨rfl, ?_⟩
  show r__law_spoilt c _ _ [some (.ref p), some net, some (.ref s), none, none, none, none] A
  unfold r__law_spoilt
  simp only [x_seq, x_next, x_break, x_cont, x_drop, x_ret, x_retN, x_if, x_asg, x_for, x_raise, x_gname, x_gnil, x_gcons, x_gtup, x_gsub, x_c, x_op, x_un, x_chain, x_cb, x_call, x_bm, x_tup, x_lst, x_andV, x_orV, x_notV, x_ifE, x_sl, x_lc, x_dictK, x_dictT, x_rev, x_b, x_and, x_or, x_not, x_yes, x_nil, x_cons, x_part, x_noPart, x_iter, x_rng1, x_rng2, x_enum, aVar0, aVarS, onBl, onInt, onRef, onStr, onTup, on1, on2, List.set_cons_zero, List.set_cons_succ, rI2, rSubA, rMulA, rDivA, rModA, rPowA, rLeI, rGeI, rLtI, rGtI, rNegA, e_ixr, e_ixt, e_ixs, e_ixf, e_at0, e_at1, e_at2, onO_some, e_setr, e_ix2_0, e_ix2_1, e_ix3_0, e_ix3_1, e_ix3_2, e_addI, e_addT, e_addL, e_eqI, e_eqS, e_eqB, e_eqT, e_eqR, e_ltI, e_isN, e_lenR, e_lenT, e_lenF, e_listR, e_listT, e_isi_int, e_isi_bool, e_isi_str, e_isi_tuple, e_isi_list, e_intI, e_intB, e_seqT, e_seqF, e_slT, e_slF, e_slR, e_isL, put_same, put_put, List.length_cons, List.length_nil, Nat.zero_add, Nat.reduceAdd, true_and, and_true, if_true, e_tupleT, wipe_l, wipe_n, rEqA, rNeA, rCmpA, hs]
  refine q_take hA (by omega) (by omega) fun at_ A1 h10 h11 d1 => ?_
  have hs1 := d1.at hs hsp
  simp only [x_seq, x_next, x_break, x_cont, x_drop, x_ret, x_retN, x_if, x_asg, x_for, x_raise, x_gname, x_gnil, x_gcons, x_gtup, x_gsub, x_c, x_op, x_un, x_chain, x_cb, x_call, x_bm, x_tup, x_lst, x_andV, x_orV, x_notV, x_ifE, x_sl, x_lc, x_dictK, x_dictT, x_rev, x_b, x_and, x_or, x_not, x_yes, x_nil, x_cons, x_part, x_noPart, x_iter, x_rng1, x_rng2, x_enum, aVar0, aVarS, onBl, onInt, onRef, onStr, onTup, on1, on2, List.set_cons_zero, List.set_cons_succ, rI2, rSubA, rMulA, rDivA, rModA, rPowA, rLeI, rGeI, rLtI, rGtI, rNegA, e_ixr, e_ixt, e_ixs, e_ixf, e_at0, e_at1, e_at2, onO_some, e_setr, e_ix2_0, e_ix2_1, e_ix3_0, e_ix3_1, e_ix3_2, e_addI, e_addT, e_addL, e_eqI, e_eqS, e_eqB, e_eqT, e_eqR, e_ltI, e_isN, e_lenR, e_lenT, e_lenF, e_listR, e_listT, e_isi_int, e_isi_bool, e_isi_str, e_isi_tuple, e_isi_list, e_intI, e_intB, e_seqT, e_seqF, e_slT, e_slF, e_slR, e_isL, put_same, put_put, List.length_cons, List.length_nil, Nat.zero_add, Nat.reduceAdd, true_and, and_true, if_true, e_tupleT, wipe_l, wipe_n, rEqA, rNeA, rCmpA, hs1]
  obtain ⟨x, hxm, hxe⟩ := at_i h10 h11
  obtain ⟨a, b, c', rfl⟩ := hx x (List.mem_of_getElem? hxm)
  have ecut : cutA [AV.int a, AV.int b, AV.int c'] none (some 2) = [.int a, .int b] := rfl
  simp only [hxe, onO_some, x_seq, x_next, x_break, x_cont, x_drop, x_ret, x_retN, x_if, x_asg, x_for, x_raise, x_gname, x_gnil, x_gcons, x_gtup, x_gsub, x_c, x_op, x_un, x_chain, x_cb, x_call, x_bm, x_tup, x_lst, x_andV, x_orV, x_notV, x_ifE, x_sl, x_lc, x_dictK, x_dictT, x_rev, x_b, x_and, x_or, x_not, x_yes, x_nil, x_cons, x_part, x_noPart, x_iter, x_rng1, x_rng2, x_enum, aVar0, aVarS, onBl, onInt, onRef, onStr, onTup, on1, on2, List.set_cons_zero, List.set_cons_succ, rI2, rSubA, rMulA, rDivA, rModA, rPowA, rLeI, rGeI, rLtI, rGtI, rNegA, e_ixr, e_ixt, e_ixs, e_ixf, e_at0, e_at1, e_at2, onO_some, e_setr, e_ix2_0, e_ix2_1, e_ix3_0, e_ix3_1, e_ix3_2, e_addI, e_addT, e_addL, e_eqI, e_eqS, e_eqB, e_eqT, e_eqR, e_ltI, e_isN, e_lenR, e_lenT, e_lenF, e_listR, e_listT, e_isi_int, e_isi_bool, e_isi_str, e_isi_tuple, e_isi_list, e_intI, e_intB, e_seqT, e_seqF, e_slT, e_slF, e_slR, e_isL, put_same, put_put, List.length_cons, List.length_nil, Nat.zero_add, Nat.reduceAdd, true_and, and_true, if_true, e_tupleT, wipe_l, wipe_n, rEqA, rNeA, rCmpA, ecut, List.cons_append, List.nil_append]
  refine ⟨lenS (by decide), lenS (by decide), lenS (by decide), lenS (by decide), fun q hq => ⟨lenS (by decide), lenS (by decide), fun b1 hb1 => ⟨lenS (by decide), lenS (by decide), lenS (by decide), lenS (by decide), fun b2 hb2 => ?_⟩⟩⟩
  have d2 : Drawn p A (put A1 q (.lst [.int a, .int b, .int c'])) := d1.new hq
  have hqb := ane put_same hb1
  have hqp := d1.row.ne hq
  have hs2 : put A1 q (.lst [.int a, .int b, .int c']) s = some (.lst xs) := by rw [put_ne (ane hs1 hq)]; exact hs1
  have hq2 : put A1 q (.lst [.int a, .int b, .int c']) q = some (.lst [.int a, .int b, .int c']) := put_same
  generalize put A1 q (.lst [.int a, .int b, .int c']) = A2 at *
  have hbp := d2.row.ne hb1
  have d3 : Drawn p A (put A2 b1 (.lst [.tup [.int a, .bl true, .int c'], .tup [.int a, .str (Str.ofString "1"), .int c'], .non, .tup [.int a, .int b], .tup [.int a, .int b, .int c', .int 0], .ref q, .tup [.int a, .int b, .non]])) := d2.new hb1
  have hs3 : put A2 b1 (.lst [.tup [.int a, .bl true, .int c'], .tup [.int a, .str (Str.ofString "1"), .int c'], .non, .tup [.int a, .int b], .tup [.int a, .int b, .int c', .int 0], .ref q, .tup [.int a, .int b, .non]]) s = some (.lst xs) := by rw [put_ne (ane hs2 hb1)]; exact hs2
  have hq3 : put A2 b1 (.lst [.tup [.int a, .bl true, .int c'], .tup [.int a, .str (Str.ofString "1"), .int c'], .non, .tup [.int a, .int b], .tup [.int a, .int b, .int c', .int 0], .ref q, .tup [.int a, .int b, .non]]) q = some (.lst [.int a, .int b, .int c']) := by rw [put_ne hqb]; exact hq2
  have hb3 : put A2 b1 (.lst [.tup [.int a, .bl true, .int c'], .tup [.int a, .str (Str.ofString "1"), .int c'], .non, .tup [.int a, .int b], .tup [.int a, .int b, .int c', .int 0], .ref q, .tup [.int a, .int b, .non]]) b1 = some (.lst [.tup [.int a, .bl true, .int c'], .tup [.int a, .str (Str.ofString "1"), .int c'], .non, .tup [.int a, .int b], .tup [.int a, .int b, .int c', .int 0], .ref q, .tup [.int a, .int b, .non]]) := put_same
  generalize put A2 b1 (.lst [.tup [.int a, .bl true, .int c'], .tup [.int a, .str (Str.ofString "1"), .int c'], .non, .tup [.int a, .int b], .tup [.int a, .int b, .int c', .int 0], .ref q, .tup [.int a, .int b, .non]]) = A3 at *
  simp only [put_ne (ane hb3 hb2), hb3, put_same, List.cons_append, List.nil_append, List.length_cons, List.length_nil, Nat.zero_add, Nat.reduceAdd]
  refine ⟨lenS (by decide), fun g hg => ?_⟩
  have d4 : Drawn p A (put A3 b2 (.lst [.tup [.int (a + 1), .int b, .int c'], .tup [.int (-1), .int 0, .int 0], .tup [.bl true, .int b, .int c']])) := d3.new hb2
  have hs4 : put A3 b2 (.lst [.tup [.int (a + 1), .int b, .int c'], .tup [.int (-1), .int 0, .int 0], .tup [.bl true, .int b, .int c']]) s = some (.lst xs) := by rw [put_ne (ane hs3 hb2)]; exact hs3
  have hq4 : put A3 b2 (.lst [.tup [.int (a + 1), .int b, .int c'], .tup [.int (-1), .int 0, .int 0], .tup [.bl true, .int b, .int c']]) q = some (.lst [.int a, .int b, .int c']) := by rw [put_ne (ane hq3 hb2)]; exact hq3
  generalize put A3 b2 (.lst [.tup [.int (a + 1), .int b, .int c'], .tup [.int (-1), .int 0, .int 0], .tup [.bl true, .int b, .int c']]) = A4 at *
  have d5 := d4.new (o := .lst [.tup [.int a, .bl true, .int c'], .tup [.int a, .str (Str.ofString "1"), .int c'], .non, .tup [.int a, .int b], .tup [.int a, .int b, .int c', .int 0], .ref q, .tup [.int a, .int b, .non], .tup [.int (a + 1), .int b, .int c'], .tup [.int (-1), .int 0, .int 0], .tup [.bl true, .int b, .int c']]) hg
  have hgp := d4.row.ne hg
  refine q_take d5.row (by decide) (by decide) fun way A6 hw0 hw1 d6 => ?_
  have hg6 := d6.at put_same hgp
  have hs6 := d6.at (o := .lst xs) (by rw [put_ne (ane hs4 hg)]; exact hs4) hsp
  have hq6 := d6.at (o := .lst [.int a, .int b, .int c']) (by rw [put_ne (ane hq4 hg)]; exact hq4) hqp
  have d7 := d5.trans d6
  clear d1 d2 d3 d4 d5 d6
  have hrow : ∀ B, ∀ x ∈ xs, Item B x := fun B x hxx => by
    obtain ⟨a, b, c, rfl⟩ := hx x hxx
    refine prim_tup (by simp) fun y hy => ?_
    simp at hy
    rcases hy with rfl | rfl | rfl <;> exact .inl ⟨_, rfl⟩
  have p3 : ∀ B (x y z : AV), Prim x → Prim y → Prim z → Item B (.tup [x, y, z]) := fun B x y z h1 h2 h3 => prim_tup (by simp) fun w hw => by
    simp at hw
    rcases hw with rfl | rfl | rfl <;> assumption
  have pi : ∀ i, Prim (.int i) := fun i => .inl ⟨i, rfl⟩
  simp only [x_seq, x_next, x_break, x_cont, x_drop, x_ret, x_retN, x_if, x_asg, x_for, x_raise, x_gname, x_gnil, x_gcons, x_gtup, x_gsub, x_c, x_op, x_un, x_chain, x_cb, x_call, x_bm, x_tup, x_lst, x_andV, x_orV, x_notV, x_ifE, x_sl, x_lc, x_dictK, x_dictT, x_rev, x_b, x_and, x_or, x_not, x_yes, x_nil, x_cons, x_part, x_noPart, x_iter, x_rng1, x_rng2, x_enum, aVar0, aVarS, onBl, onInt, onRef, onStr, onTup, on1, on2, List.set_cons_zero, List.set_cons_succ, rI2, rSubA, rMulA, rDivA, rModA, rPowA, rLeI, rGeI, rLtI, rGtI, rNegA, e_ixr, e_ixt, e_ixs, e_ixf, e_at0, e_at1, e_at2, onO_some, e_setr, e_ix2_0, e_ix2_1, e_ix3_0, e_ix3_1, e_ix3_2, e_addI, e_addT, e_addL, e_eqI, e_eqS, e_eqB, e_eqT, e_eqR, e_ltI, e_isN, e_lenR, e_lenT, e_lenF, e_listR, e_listT, e_isi_int, e_isi_bool, e_isi_str, e_isi_tuple, e_isi_list, e_intI, e_intB, e_seqT, e_seqF, e_slT, e_slF, e_slR, e_isL, put_same, put_put, List.length_cons, List.length_nil, Nat.zero_add, Nat.reduceAdd, true_and, and_true, if_true, e_tupleT, wipe_l, wipe_n, rEqA, rNeA, rCmpA, id]
  by_cases w0 : way = 0
  · simp only [w0, decide_true, if_true, hs6]
    intro q1 hq1
    have hs7 : ∀ o, put A6 q1 o s = some (.lst xs) := fun o => by rw [put_ne (ane hs6 hq1)]; exact hs6
    simp only [hs7]
    intro q2 hq2'
    have hqq : q1 ≠ q2 := ane put_same hq2'
    simp only [put_ne hqq, put_same]
    have l1 := cut_len (xs := xs) (lo := none) (hi := some at_)
    have l2 := cut_len (xs := xs) (lo := some (at_ + 1)) (hi := none)
    refine ⟨lenS (by omega), fun y hy => ?_⟩
    have e1 := (d7.new (o := .lst (cutA xs none (some at_))) hq1)
    have e2 := e1.new (o := .lst (cutA xs (some (at_ + 1)) none)) hq2'
    refine h y _ _ (e2.new hy) (e2.row.ne hy) put_same (fun x hxx => ?_) (by rw [List.length_append]; omega)
    rcases List.mem_append.mp hxx with hxx | hxx <;> exact hrow _ x (cut_mem hxx)
  · simp only [w0, decide_false, Bool.false_eq_true, if_false]
    by_cases w1 : way = 1
    · simp only [w1, decide_true, if_true, hs6]
      intro q1 hq1
      have hs7 : ∀ o, put A6 q1 o s = some (.lst xs) := fun o => by rw [put_ne (ane hs6 hq1)]; exact hs6
      have hg7 : ∀ o, put A6 q1 o g = A6 g := fun o => put_ne (ane hg6 hq1)
      have e1 := (d7.new (o := .lst (cutA xs none (some at_))) hq1)
      have hqp1 := d7.row.ne hq1
      refine q_take e1.row (by decide) (by decide) fun u A8 hu0 hu1 d8 => ?_
      have hg8 := d8.at ((hg7 _).trans hg6) hgp
      have hs8 := d8.at (hs7 _) hsp
      have hq8 := d8.at put_same hqp1
      have hqq8 := d8.at (o := .lst [.int a, .int b, .int c']) (by rw [put_ne (ane hq6 hq1)]; exact hq6) hqp
      have e2 := e1.trans d8
      simp only [x_seq, x_next, x_break, x_cont, x_drop, x_ret, x_retN, x_if, x_asg, x_for, x_raise, x_gname, x_gnil, x_gcons, x_gtup, x_gsub, x_c, x_op, x_un, x_chain, x_cb, x_call, x_bm, x_tup, x_lst, x_andV, x_orV, x_notV, x_ifE, x_sl, x_lc, x_dictK, x_dictT, x_rev, x_b, x_and, x_or, x_not, x_yes, x_nil, x_cons, x_part, x_noPart, x_iter, x_rng1, x_rng2, x_enum, aVar0, aVarS, onBl, onInt, onRef, onStr, onTup, on1, on2, List.set_cons_zero, List.set_cons_succ, rI2, rSubA, rMulA, rDivA, rModA, rPowA, rLeI, rGeI, rLtI, rGtI, rNegA, e_ixr, e_ixt, e_ixs, e_ixf, e_at0, e_at1, e_at2, onO_some, e_setr, e_ix2_0, e_ix2_1, e_ix3_0, e_ix3_1, e_ix3_2, e_addI, e_addT, e_addL, e_eqI, e_eqS, e_eqB, e_eqT, e_eqR, e_ltI, e_isN, e_lenR, e_lenT, e_lenF, e_listR, e_listT, e_isi_int, e_isi_bool, e_isi_str, e_isi_tuple, e_isi_list, e_intI, e_intB, e_seqT, e_seqF, e_slT, e_slF, e_slR, e_isL, put_same, put_put, List.length_cons, List.length_nil, Nat.zero_add, Nat.reduceAdd, true_and, and_true, if_true, e_tupleT, wipe_l, wipe_n, rEqA, rNeA, rCmpA, hg8]
      refine ix_draw hu0 (by simpa using hu1) fun z hz => ?_
      have hzi : ∀ B, B q = some (.lst [.int a, .int b, .int c']) → Item B z := fun B hB => by
        simp at hz
        have ht : Prim (.bl true) := .inr (.inl ⟨_, rfl⟩)
        have hn : Prim .non := .inr (.inr (.inl rfl))
        have ho : Prim (.str (Str.ofString "1")) := .inr (.inr (.inr rfl))
        rcases hz with rfl | rfl | rfl | rfl | rfl | rfl | rfl | rfl | rfl | rfl
        · exact p3 _ _ _ _ (pi _) ht (pi _)
        · exact p3 _ _ _ _ (pi _) ho (pi _)
        · exact .inl rfl
        · refine prim_tup (by simp) fun w hw => ?_
          simp at hw
          rcases hw with rfl | rfl <;> exact pi _
        · refine prim_tup (by simp) fun w hw => ?_
          simp at hw
          rcases hw with rfl | rfl | rfl | rfl <;> exact pi _
        · exact .inr (.inr ⟨q, [a, b, c'], rfl, hB⟩)
        · exact p3 _ _ _ _ (pi _) (pi _) hn
        · exact p3 _ _ _ _ (pi _) (pi _) (pi _)
        · exact p3 _ _ _ _ (pi _) (pi _) (pi _)
        · exact p3 _ _ _ _ ht (pi _) (pi _)
      refine ⟨lenS (by decide), fun r hr => ?_⟩
      have hq1r := ane hq8 hr
      simp only [put_ne hq1r, hq8, put_same, List.length_cons, List.length_nil, Nat.zero_add]
      have l1 := cut_len (xs := xs) (lo := none) (hi := some at_)
      have l2 := cut_len (xs := xs) (lo := some (at_ + 1)) (hi := none)
      refine ⟨lenS (by omega), fun r2 hr2 => ?_⟩
      have e3 := e2.new (o := .lst [z]) hr
      have hs9 : put A8 r (.lst [z]) s = some (.lst xs) := by rw [put_ne (ane hs8 hr)]; exact hs8
      have hq9 : put A8 r (.lst [z]) q = some (.lst [.int a, .int b, .int c']) := by rw [put_ne (ane hqq8 hr)]; exact hqq8
      simp only [put_ne (ane hs9 hr2), hs9]
      have e4 := e3.new (o := .lst (cutA xs none (some at_) ++ [z])) hr2
      have hq10 : put (put A8 r (.lst [z])) r2 (.lst (cutA xs none (some at_) ++ [z])) q = some (.lst [.int a, .int b, .int c']) := by rw [put_ne (ane hq9 hr2)]; exact hq9
      have hr10 : put (put A8 r (.lst [z])) r2 (.lst (cutA xs none (some at_) ++ [z])) r2 = some (.lst (cutA xs none (some at_) ++ [z])) := put_same
      generalize put (put A8 r (.lst [z])) r2 (.lst (cutA xs none (some at_) ++ [z])) = A10 at e4 hq10 hr10
      intro r3 hr3
      simp only [put_ne (ane hr10 hr3), hr10, put_same]
      refine ⟨lenS (by rw [List.length_append]; simp; omega), fun y hy => ?_⟩
      have e5 := e4.new (o := .lst (cutA xs (some (at_ + 1)) none)) hr3
      have hq11 : put A10 r3 (.lst (cutA xs (some (at_ + 1)) none)) q = some (.lst [.int a, .int b, .int c']) := by rw [put_ne (ane hq10 hr3)]; exact hq10
      refine h y _ _ (e5.new hy) (e5.row.ne hy) put_same (fun x hxx => ?_) (by simp; omega)
      rcases List.mem_append.mp hxx with hxx | hxx
      · rcases List.mem_append.mp hxx with hxx | hxx
        · exact hrow _ x (cut_mem hxx)
        · rw [List.mem_singleton.mp hxx]
          exact hzi _ (by rw [put_ne (ane hq11 hy)]; exact hq11)
      · exact hrow _ x (cut_mem hxx)
    · simp only [w1, decide_false, Bool.false_eq_true, if_false]
      by_cases w2 : way = 2
      · simp only [w2, decide_true, if_true, hs6]
        intro q1 hq1
        refine ⟨lenS (by decide), fun r hr => ?_⟩
        have hq1r := ane put_same hr
        simp only [put_ne hq1r, put_same, List.length_cons, List.length_nil, Nat.zero_add]
        have l1 := cut_len (xs := xs) (lo := none) (hi := some at_)
        have l2 := cut_len (xs := xs) (lo := some at_) (hi := none)
        refine ⟨lenS (by omega), fun r2 hr2 => ?_⟩
        have e1 := (d7.new (o := .lst (cutA xs none (some at_))) hq1)
        have e3 := e1.new (o := .lst [.tup [.int a, .int b, .int c']]) hr
        have hs9 : put (put A6 q1 (.lst (cutA xs none (some at_)))) r (.lst [.tup [.int a, .int b, .int c']]) s = some (.lst xs) := by
          have h7 : put A6 q1 (.lst (cutA xs none (some at_))) s = some (.lst xs) := by rw [put_ne (ane hs6 hq1)]; exact hs6
          rw [put_ne (ane h7 hr)]; exact h7
        simp only [put_ne (ane hs9 hr2), hs9]
        have e4 := e3.new (o := .lst (cutA xs none (some at_) ++ [.tup [.int a, .int b, .int c']])) hr2
        intro r3 hr3
        simp only [put_ne (ane put_same hr3), put_same]
        refine ⟨lenS (by rw [List.length_append]; simp; omega), fun y hy => ?_⟩
        have e5 := e4.new (o := .lst (cutA xs (some at_) none)) hr3
        refine h y _ _ (e5.new hy) (e5.row.ne hy) put_same (fun x hxx => ?_) (by simp; omega)
        rcases List.mem_append.mp hxx with hxx | hxx
        · rcases List.mem_append.mp hxx with hxx | hxx
          · exact hrow _ x (cut_mem hxx)
          · rw [List.mem_singleton.mp hxx]
            exact p3 _ _ _ _ (pi _) (pi _) (pi _)
        · exact hrow _ x (cut_mem hxx)
      · simp only [w2, decide_false, Bool.false_eq_true, if_false]
        by_cases w3 : way = 3
        · simp only [w3, decide_true, if_true, asL_ref hs6]
          intro y hy
          exact h y _ _ (d7.new hy) (d7.row.ne hy) put_same (fun x hxx => hrow _ x (List.mem_reverse.mp hxx)) (by rw [List.length_reverse]; omega)
        · simp only [w3, decide_false, Bool.false_eq_true, if_false]
          exact h s A6 xs d7 hsp hs6 (hrow A6) (by omega)
end K34

set_option Elab.async false
set_option linter.all false
set_option maxRecDepth 100000
set_option maxHeartbeats 400000
namespace K34
open PySem PySem.Spec PyProof.Rows L2 Aw
theorem Item.dat {A : AH} {x : AV} (h : Item A x) : Dat A 1 x := by
  rcases h with rfl | ⟨xs, rfl, _, hp⟩ | ⟨q, ns, rfl, hq⟩
  · exact .non
  · exact .tup fun y hy => (hp y hy).dat A 0
  · refine .lst (asL_ref hq) fun y hy => ?_
    obtain ⟨n, _, rfl⟩ := List.mem_map.mp hy
    exact .int n
theorem Same2.mono {A : AH} {n m : Nat} {x y : AV} (h : Same2 A n x y) (l : n ≤ m) : Same2 A m x y := let ⟨d, a, b, c, e⟩ := h; ⟨d, a, b, c, Nat.le_trans e l⟩
theorem way_dat {A : AH} {ws : List Way} {x : AV} (h : x ∈ ws.map wayV) : Dat A 1 x := by
  obtain ⟨w, _, rfl⟩ := List.mem_map.mp h
  refine .tup fun y hy => ?_
  simp at hy
  rcases hy with rfl | rfl | rfl <;> exact .int _
theorem q_law {c : Cl} {ns : List Int} {A : AH} (hl : ns.length ≤ 63) : p_law c [.fl (ns.map AV.int)] A (fun v _ => v = .bl true) (fun _ _ => False) := by
  refine ⟨rfl, ?_⟩
  show r_law c _ _ [some (.fl (ns.map AV.int)), none, none, none, none, none, none, none] A
  unfold r_law
  simp only [x_seq, x_next, x_break, x_cont, x_drop, x_ret, x_retN, x_if, x_asg, x_for, x_raise, x_gname, x_gnil, x_gcons, x_gtup, x_gsub, x_c, x_op, x_un, x_chain, x_cb, x_call, x_bm, x_tup, x_lst, x_andV, x_orV, x_notV, x_ifE, x_sl, x_lc, x_dictK, x_dictT, x_rev, x_b, x_and, x_or, x_not, x_yes, x_nil, x_cons, x_part, x_noPart, x_iter, x_rng1, x_rng2, x_enum, aVar0, aVarS, onBl, onInt, onRef, onStr, onTup, on1, on2, List.set_cons_zero, List.set_cons_succ, rI2, rSubA, rMulA, rDivA, rModA, rPowA, rLeI, rGeI, rLtI, rGtI, rNegA, e_ixr, e_ixt, e_ixs, e_ixf, e_at0, e_at1, e_at2, onO_some, e_setr, e_ix2_0, e_ix2_1, e_ix3_0, e_ix3_1, e_ix3_2, e_addI, e_addT, e_addL, e_eqI, e_eqS, e_eqB, e_eqT, e_eqR, e_ltI, e_isN, e_lenR, e_lenT, e_lenF, e_listR, e_listT, e_isi_int, e_isi_bool, e_isi_str, e_isi_tuple, e_isi_list, e_intI, e_intB, e_seqT, e_seqF, e_slT, e_slF, e_slR, e_isL, put_same, put_put, List.length_cons, List.length_nil, Nat.zero_add, Nat.reduceAdd, true_and, and_true, if_true, e_tupleT, wipe_l, wipe_n, rEqA, rNeA, rCmpA]
  intro q hq
  refine ⟨lenS (by decide), fun r hr => ?_⟩
  have hqr := ane put_same hr
  simp only [put_ne hqr, put_same, List.length_cons, List.length_nil, Nat.zero_add]
  have hcut : cutA (ns.map AV.int) none (some 30) = (ns.take 30).map AV.int := by
    rw [List.map_take]
    unfold cutA
    rw [show (30 : Int) = ((30 : Nat) : Int) from rfl, HT.sIx_nat, show HT.sIx (ns.map AV.int).length 0 none = 0 from rfl, List.drop_zero, Nat.sub_zero]
    rw [Nat.min_def]
    split
    · rfl
    · rw [List.take_of_length_le (Nat.le_refl _), List.take_of_length_le (by omega)]
  rw [hcut]
  have hms : (ns.take 30).map AV.int ++ [.int 0] = (ns.take 30 ++ [0]).map AV.int := by rw [List.map_append]; rfl
  have hml : (ns.take 30 ++ [0]).length ≤ 31 := by rw [List.length_append, List.length_take]; simp; omega
  refine ⟨lenS (by rw [List.length_map, List.length_take]; omega), fun l hl0 => ?_⟩
  rw [hms]
  generalize ns.take 30 ++ [0] = ms at hml
  simp only [onO_some, e_seqR put_same]
  generalize put (put A q (.lst ((ns.take 30).map AV.int))) r (.lst [.int 0]) = A1 at *
  refine loop_inv (fun i a A' => ∃ v1 v2 v3 v4 v5 v6 v7, a = [some (.fl (ns.map AV.int)), v1, v2, v3, v4, v5, v6, v7] ∧ A' l = some (.lst (ms.map AV.int))) ⟨_, _, _, _, _, _, _, rfl, put_same⟩ ?_ ?_ ?_
  · rintro i a A' hi ⟨v1, v2, v3, v4, v5, v6, v7, rfl, h⟩
    exact h
  · rintro i x a A' hx ⟨v1, v2, v3, v4, v5, v6, v7, rfl, hL⟩ D' hrt hbk hnx hct
    obtain ⟨n, _, rfl⟩ := List.mem_map.mp (List.mem_of_getElem? hx)
    simp only [x_seq, x_next, x_break, x_cont, x_drop, x_ret, x_retN, x_if, x_asg, x_for, x_raise, x_gname, x_gnil, x_gcons, x_gtup, x_gsub, x_c, x_op, x_un, x_chain, x_cb, x_call, x_bm, x_tup, x_lst, x_andV, x_orV, x_notV, x_ifE, x_sl, x_lc, x_dictK, x_dictT, x_rev, x_b, x_and, x_or, x_not, x_yes, x_nil, x_cons, x_part, x_noPart, x_iter, x_rng1, x_rng2, x_enum, aVar0, aVarS, onBl, onInt, onRef, onStr, onTup, on1, on2, List.set_cons_zero, List.set_cons_succ, rI2, rSubA, rMulA, rDivA, rModA, rPowA, rLeI, rGeI, rLtI, rGtI, rNegA, e_ixr, e_ixt, e_ixs, e_ixf, e_at0, e_at1, e_at2, onO_some, e_setr, e_ix2_0, e_ix2_1, e_ix3_0, e_ix3_1, e_ix3_2, e_addI, e_addT, e_addL, e_eqI, e_eqS, e_eqB, e_eqT, e_eqR, e_ltI, e_isN, e_lenR, e_lenT, e_lenF, e_listR, e_listT, e_isi_int, e_isi_bool, e_isi_str, e_isi_tuple, e_isi_list, e_intI, e_intB, e_seqT, e_seqF, e_slT, e_slF, e_slR, e_isL, put_same, put_put, List.length_cons, List.length_nil, Nat.zero_add, Nat.reduceAdd, true_and, and_true, if_true, e_tupleT, wipe_l, wipe_n, rEqA, rNeA, rCmpA]
    refine q_row fun p hp => ?_
    have hpl := ane hL hp
    have hA0 : RowAt (put A' p (.lst [.int n, .int (n % 2147483587)])) p := .put (Int.emod_nonneg _ (by decide)) (Int.emod_lt_of_pos _ (by decide))
    have hL0 : put A' p (.lst [.int n, .int (n % 2147483587)]) l = some (.lst (ms.map AV.int)) := by rw [put_ne hpl]; exact hL
    generalize put A' p (.lst [.int n, .int (n % 2147483587)]) = A0 at hA0 hL0
    refine q_net hA0 fun A2 bs ts d1 N => ?_
    refine q_made d1.row N fun w A3 ws d2 hw0 hwp hw hW hlw => ?_
    refine q_fitted d2.row N hw hwp hW hlw fun s A4 xs0 d3 hs0 hsp hs hx3 hxl => ?_
    refine q_spoilt d3.row hs hsp hx3 (by have := N.one; omega) (by have := N.six; omega) fun y A5 xs d4 hyp hy hI hlx => ?_
    have hw5 := (d3.trans d4).at hw hwp
    have hL5 := (((d1.trans d2).trans d3).trans d4).at hL0 hpl
    simp only [x_seq, x_next, x_break, x_cont, x_drop, x_ret, x_retN, x_if, x_asg, x_for, x_raise, x_gname, x_gnil, x_gcons, x_gtup, x_gsub, x_c, x_op, x_un, x_chain, x_cb, x_call, x_bm, x_tup, x_lst, x_andV, x_orV, x_notV, x_ifE, x_sl, x_lc, x_dictK, x_dictT, x_rev, x_b, x_and, x_or, x_not, x_yes, x_nil, x_cons, x_part, x_noPart, x_iter, x_rng1, x_rng2, x_enum, aVar0, aVarS, onBl, onInt, onRef, onStr, onTup, on1, on2, List.set_cons_zero, List.set_cons_succ, rI2, rSubA, rMulA, rDivA, rModA, rPowA, rLeI, rGeI, rLtI, rGtI, rNegA, e_ixr, e_ixt, e_ixs, e_ixf, e_at0, e_at1, e_at2, onO_some, e_setr, e_ix2_0, e_ix2_1, e_ix3_0, e_ix3_1, e_ix3_2, e_addI, e_addT, e_addL, e_eqI, e_eqS, e_eqB, e_eqT, e_eqR, e_ltI, e_isN, e_lenR, e_lenT, e_lenF, e_listR, e_listT, e_isi_int, e_isi_bool, e_isi_str, e_isi_tuple, e_isi_list, e_intI, e_intB, e_seqT, e_seqF, e_slT, e_slF, e_slR, e_isL, put_same, put_put, List.length_cons, List.length_nil, Nat.zero_add, Nat.reduceAdd, true_and, and_true, if_true, e_tupleT, wipe_l, wipe_n, rEqA, rNeA, rCmpA, hw5]
    intro h1 hh1
    have hy6 : put A5 h1 (.lst (ws.map wayV)) y = some (.lst xs) := by rw [put_ne (ane hy hh1)]; exact hy
    simp only [hy6]
    intro h2 hh2
    have e6 : Ext A5 (put A5 h1 (.lst (ws.map wayV))) := .new hh1
    have e7 : Ext A5 (put (put A5 h1 (.lst (ws.map wayV))) h2 (.lst xs)) := e6.trans (.new hh2)
    have h17 : put (put A5 h1 (.lst (ws.map wayV))) h2 (.lst xs) h1 = some (.lst (ws.map wayV)) := by rw [put_ne (ane put_same hh2)]; exact put_same
    have h27 : put (put A5 h1 (.lst (ws.map wayV))) h2 (.lst xs) h2 = some (.lst xs) := put_same
    generalize put (put A5 h1 (.lst (ws.map wayV))) h2 (.lst xs) = A7 at e7 h17 h27
    refine ⟨lenS (by decide), ?_⟩
    have hp7 : ∀ v ∈ ws, v.1 < ts.length := fun v hv => (hW v hv).1
    refine q_is_ranked h17 h27 (by omega) (by omega) (fun x hx => (hI x hx).keep e7) hp7 fun A8 s8 => ?_
    have e8 := e7.trans s8
    simp only [x_seq, x_next, x_break, x_cont, x_drop, x_ret, x_retN, x_if, x_asg, x_for, x_raise, x_gname, x_gnil, x_gcons, x_gtup, x_gsub, x_c, x_op, x_un, x_chain, x_cb, x_call, x_bm, x_tup, x_lst, x_andV, x_orV, x_notV, x_ifE, x_sl, x_lc, x_dictK, x_dictT, x_rev, x_b, x_and, x_or, x_not, x_yes, x_nil, x_cons, x_part, x_noPart, x_iter, x_rng1, x_rng2, x_enum, aVar0, aVarS, onBl, onInt, onRef, onStr, onTup, on1, on2, List.set_cons_zero, List.set_cons_succ, rI2, rSubA, rMulA, rDivA, rModA, rPowA, rLeI, rGeI, rLtI, rGtI, rNegA, e_ixr, e_ixt, e_ixs, e_ixf, e_at0, e_at1, e_at2, onO_some, e_setr, e_ix2_0, e_ix2_1, e_ix3_0, e_ix3_1, e_ix3_2, e_addI, e_addT, e_addL, e_eqI, e_eqS, e_eqB, e_eqT, e_eqR, e_ltI, e_isN, e_lenR, e_lenT, e_lenF, e_listR, e_listT, e_isi_int, e_isi_bool, e_isi_str, e_isi_tuple, e_isi_list, e_intI, e_intB, e_seqT, e_seqF, e_slT, e_slF, e_slR, e_isL, put_same, put_put, List.length_cons, List.length_nil, Nat.zero_add, Nat.reduceAdd, true_and, and_true, if_true, e_tupleT, wipe_l, wipe_n, rEqA, rNeA, rCmpA, tyA, Ty0.sub]
    refine q_due (e8 w _ hw5) (e8 y _ hy) (by omega) (by omega) (fun x hx => (hI x hx).keep e8) hp7 (fun b hb => (N.rng b hb).1) fun A9 s9 => ?_
    have e9 := e8.trans s9
    simp only [x_seq, x_next, x_break, x_cont, x_drop, x_ret, x_retN, x_if, x_asg, x_for, x_raise, x_gname, x_gnil, x_gcons, x_gtup, x_gsub, x_c, x_op, x_un, x_chain, x_cb, x_call, x_bm, x_tup, x_lst, x_andV, x_orV, x_notV, x_ifE, x_sl, x_lc, x_dictK, x_dictT, x_rev, x_b, x_and, x_or, x_not, x_yes, x_nil, x_cons, x_part, x_noPart, x_iter, x_rng1, x_rng2, x_enum, aVar0, aVarS, onBl, onInt, onRef, onStr, onTup, on1, on2, List.set_cons_zero, List.set_cons_succ, rI2, rSubA, rMulA, rDivA, rModA, rPowA, rLeI, rGeI, rLtI, rGtI, rNegA, e_ixr, e_ixt, e_ixs, e_ixf, e_at0, e_at1, e_at2, onO_some, e_setr, e_ix2_0, e_ix2_1, e_ix3_0, e_ix3_1, e_ix3_2, e_addI, e_addT, e_addL, e_eqI, e_eqS, e_eqB, e_eqT, e_eqR, e_ltI, e_isN, e_lenR, e_lenT, e_lenF, e_listR, e_listT, e_isi_int, e_isi_bool, e_isi_str, e_isi_tuple, e_isi_list, e_intI, e_intB, e_seqT, e_seqF, e_slT, e_slF, e_slR, e_isL, put_same, put_put, List.length_cons, List.length_nil, Nat.zero_add, Nat.reduceAdd, true_and, and_true, if_true, e_tupleT, wipe_l, wipe_n, rEqA, rNeA, rCmpA, decide_true, Bool.not_true, Bool.false_eq_true, if_false, Bool.true_or, Bool.false_or, decide_false, id]
    refine ⟨lenS (by decide), ?_⟩
    have eL := e7.trans (s8.trans s9)
    refine e_same ?_ ?_
    · refine Same2.mono (n := 3) ?_ (by decide)
      exact Same2.tup2 (Same2.lst (asL_ref (s9 _ _ (s8 _ _ h17))) (asL_ref (e9 w _ hw5)) fun x hx => way_dat hx) (Same2.lst (asL_ref (s9 _ _ (s8 _ _ h27))) (asL_ref (e9 y _ hy)) fun x hx => ((hI x hx).keep e9).dat)
    · simp only [Bool.not_true, Bool.false_eq_true, if_false]
      exact hnx _ _ ⟨_, _, _, _, _, _, _, rfl, eL l _ hL5⟩
  · rintro a A' ⟨v1, v2, v3, v4, v5, v6, v7, rfl, h⟩
    simp only [x_seq, x_next, x_break, x_cont, x_drop, x_ret, x_retN, x_if, x_asg, x_for, x_raise, x_gname, x_gnil, x_gcons, x_gtup, x_gsub, x_c, x_op, x_un, x_chain, x_cb, x_call, x_bm, x_tup, x_lst, x_andV, x_orV, x_notV, x_ifE, x_sl, x_lc, x_dictK, x_dictT, x_rev, x_b, x_and, x_or, x_not, x_yes, x_nil, x_cons, x_part, x_noPart, x_iter, x_rng1, x_rng2, x_enum, aVar0, aVarS, onBl, onInt, onRef, onStr, onTup, on1, on2, List.set_cons_zero, List.set_cons_succ, rI2, rSubA, rMulA, rDivA, rModA, rPowA, rLeI, rGeI, rLtI, rGtI, rNegA, e_ixr, e_ixt, e_ixs, e_ixf, e_at0, e_at1, e_at2, onO_some, e_setr, e_ix2_0, e_ix2_1, e_ix3_0, e_ix3_1, e_ix3_2, e_addI, e_addT, e_addL, e_eqI, e_eqS, e_eqB, e_eqT, e_eqR, e_ltI, e_isN, e_lenR, e_lenT, e_lenF, e_listR, e_listT, e_isi_int, e_isi_bool, e_isi_str, e_isi_tuple, e_isi_list, e_intI, e_intB, e_seqT, e_seqF, e_slT, e_slF, e_slR, e_isL, put_same, put_put, List.length_cons, List.length_nil, Nat.zero_add, Nat.reduceAdd, true_and, and_true, if_true, e_tupleT, wipe_l, wipe_n, rEqA, rNeA, rCmpA]
end K34

set_option Elab.async false
set_option linter.all false
set_option maxRecDepth 100000
namespace K34
open PySem PySem.Spec PyProof.Rows L2 Aw
/-- the promise of law: at most 63 ints are handed in, True comes out -/
def spLaw (K : PySem.W.Frag) : Sp := fun vs H Q _ => ∃ (a : Addr) (ns : List Int), vs = [.ref a] ∧ SqF K H a (ns.map V.int) ∧ ns.length ≤ 63 ∧ ∀ H', Q (.bl true) H'
theorem sp_law {K : PySem.W.Frag} (c : Cl) {vs : List V} {H : Hp} {Q : VK} {E : XK} (h : spLaw K vs H Q E) : LSp K (p_law c) vs H Q E := by
  obtain ⟨a, ns, rfl, hS, hl, k⟩ := h
  refine ⟨[.fl (ns.map AV.int)], fun _ => none, fun v _ => v = .bl true, fun _ _ => False, ⟨fun _ _ => False, fun a o e => (by cases e), fun a b o u c e => (by cases e)⟩, Reps.one ⟨a, _, rfl, hS, Reps.ints ns⟩, q_law hl, fun v A' u H' _ p _ q => ?_, fun _ _ _ _ _ _ z => z.elim⟩
  subst q
  rw [p.bl_]
  exact k H'
theorem all_mk {l : PySem.W.OpenLaw} {w : World} {K : PySem.W.Frag} {h : Heap} {mg : Str → Option Value} {fa f0 f1 f2 f3 f4 f5 f6 f7 f8 f9 f10 f11 f12 f13 f14 f15 f16 C_NoNet : Addr} (X : K.In h) (G : h.Ns mainGlobals mg) (hfa : mg "law" = some (.ref fa))
    {od0 od1 od2 od3 od4 od5 od6 od7 od8 od9 od10 od11 od12 od13 od14 od15 od16 an0 an1 an2 an3 an4 an5 an6 an7 an8 an9 an10 an11 an12 an13 an14 an15 an16 : Option Addr} {sl0 sl1 sl2 sl3 sl4 sl5 sl6 sl7 sl8 sl9 sl10 sl11 sl12 sl13 sl14 sl15 sl16 : Array (Option Value)} {oc0 oc1 oc2 oc3 oc4 oc5 oc6 oc7 oc8 oc9 oc10 oc11 oc12 oc13 oc14 oc15 oc16 kV0 kV1 kV2 kV3 kV4 kV5 kV6 kV7 kV8 kV9 kV10 kV11 kV12 kV13 kV14 kV15 kV16 dc0 dc1 dc2 dc3 dc4 dc5 dc6 dc7 dc8 dc9 dc10 dc11 dc12 dc13 dc14 dc15 dc16 pm0 pm1 pm2 pm3 pm4 pm5 pm6 pm7 pm8 pm9 pm10 pm11 pm12 pm13 pm14 pm15 pm16 cd0 cd1 cd2 cd3 cd4 cd5 cd6 cd7 cd8 cd9 cd10 cd11 cd12 cd13 cd14 cd15 cd16 ct0 ct1 ct2 ct3 ct4 ct5 ct6 ct7 ct8 ct9 ct10 ct11 ct12 ct13 ct14 ct15 ct16 : Value} {tk_MOST_BRIDGES tk_MOST_COST tk_MOST_NUMBER tk_MOST_TIES : Tok}
    (a0 : PySem.W.nsIn K mainGlobals "is_whole" = some (some (.ref f0))) (l0 : K.lookup f0 = some ⟨oc0, od0, .func (PySem.W.fnOf "is_whole" "is_whole" (defArgs s_is_whole) (defBody s_is_whole) (defScope s_is_whole) .none kV0 dc0 pm0 an0 cd0 ct0), sl0⟩) (c0 : PySem.W.codeIn K cd0 "is_whole" = true) (k0 : PySem.W.keepIn K (.ref f0) = true)
    (a1 : PySem.W.nsIn K mainGlobals "is_row" = some (some (.ref f1))) (l1 : K.lookup f1 = some ⟨oc1, od1, .func (PySem.W.fnOf "is_row" "is_row" (defArgs s_is_row) (defBody s_is_row) (defScope s_is_row) .none kV1 dc1 pm1 an1 cd1 ct1), sl1⟩) (c1 : PySem.W.codeIn K cd1 "is_row" = true) (k1 : PySem.W.keepIn K (.ref f1) = true)
    (a2 : PySem.W.nsIn K mainGlobals "ranks_in" = some (some (.ref f2))) (l2 : K.lookup f2 = some ⟨oc2, od2, .func (PySem.W.fnOf "ranks_in" "ranks_in" (defArgs s_ranks_in) (defBody s_ranks_in) (defScope s_ranks_in) .none kV2 dc2 pm2 an2 cd2 ct2), sl2⟩) (c2 : PySem.W.codeIn K cd2 "ranks_in" = true) (k2 : PySem.W.keepIn K (.ref f2) = true)
    (a3 : PySem.W.nsIn K mainGlobals "is_ranked" = some (some (.ref f3))) (l3 : K.lookup f3 = some ⟨oc3, od3, .func (PySem.W.fnOf "is_ranked" "is_ranked" (defArgs s_is_ranked) (defBody s_is_ranked) (defScope s_is_ranked) .none kV3 dc3 pm3 an3 cd3 ct3), sl3⟩) (c3 : PySem.W.codeIn K cd3 "is_ranked" = true) (k3 : PySem.W.keepIn K (.ref f3) = true)
    (a4 : PySem.W.nsIn K mainGlobals "is_within" = some (some (.ref f4))) (l4 : K.lookup f4 = some ⟨oc4, od4, .func (PySem.W.fnOf "is_within" "is_within" (defArgs s_is_within) (defBody s_is_within) (defScope s_is_within) .none kV4 dc4 pm4 an4 cd4 ct4), sl4⟩) (c4 : PySem.W.codeIn K cd4 "is_within" = true) (k4 : PySem.W.keepIn K (.ref f4) = true)
    (a5 : PySem.W.nsIn K mainGlobals "need_bridges" = some (some (.ref f5))) (l5 : K.lookup f5 = some ⟨oc5, od5, .func (PySem.W.fnOf "need_bridges" "need_bridges" (defArgs s_need_bridges) (defBody s_need_bridges) (defScope s_need_bridges) .none kV5 dc5 pm5 an5 cd5 ct5), sl5⟩) (c5 : PySem.W.codeIn K cd5 "need_bridges" = true) (k5 : PySem.W.keepIn K (.ref f5) = true)
    (a6 : PySem.W.nsIn K mainGlobals "tie_of" = some (some (.ref f6))) (l6 : K.lookup f6 = some ⟨oc6, od6, .func (PySem.W.fnOf "tie_of" "tie_of" (defArgs s_tie_of) (defBody s_tie_of) (defScope s_tie_of) .none kV6 dc6 pm6 an6 cd6 ct6), sl6⟩) (c6 : PySem.W.codeIn K cd6 "tie_of" = true) (k6 : PySem.W.keepIn K (.ref f6) = true)
    (a7 : PySem.W.nsIn K mainGlobals "make_net" = some (some (.ref f7))) (l7 : K.lookup f7 = some ⟨oc7, od7, .func (PySem.W.fnOf "make_net" "make_net" (defArgs s_make_net) (defBody s_make_net) (defScope s_make_net) .none kV7 dc7 pm7 an7 cd7 ct7), sl7⟩) (c7 : PySem.W.codeIn K cd7 "make_net" = true) (k7 : PySem.W.keepIn K (.ref f7) = true)
    (a8 : PySem.W.nsIn K mainGlobals "_law_row" = some (some (.ref f8))) (l8 : K.lookup f8 = some ⟨oc8, od8, .func (PySem.W.fnOf "_law_row" "_law_row" (defArgs s__law_row) (defBody s__law_row) (defScope s__law_row) .none kV8 dc8 pm8 an8 cd8 ct8), sl8⟩) (c8 : PySem.W.codeIn K cd8 "_law_row" = true) (k8 : PySem.W.keepIn K (.ref f8) = true)
    (a9 : PySem.W.nsIn K mainGlobals "_law_take" = some (some (.ref f9))) (l9 : K.lookup f9 = some ⟨oc9, od9, .func (PySem.W.fnOf "_law_take" "_law_take" (defArgs s__law_take) (defBody s__law_take) (defScope s__law_take) .none kV9 dc9 pm9 an9 cd9 ct9), sl9⟩) (c9 : PySem.W.codeIn K cd9 "_law_take" = true) (k9 : PySem.W.keepIn K (.ref f9) = true)
    (a10 : PySem.W.nsIn K mainGlobals "_law_net" = some (some (.ref f10))) (l10 : K.lookup f10 = some ⟨oc10, od10, .func (PySem.W.fnOf "_law_net" "_law_net" (defArgs s__law_net) (defBody s__law_net) (defScope s__law_net) .none kV10 dc10 pm10 an10 cd10 ct10), sl10⟩) (c10 : PySem.W.codeIn K cd10 "_law_net" = true) (k10 : PySem.W.keepIn K (.ref f10) = true)
    (a11 : PySem.W.nsIn K mainGlobals "_law_made_ways" = some (some (.ref f11))) (l11 : K.lookup f11 = some ⟨oc11, od11, .func (PySem.W.fnOf "_law_made_ways" "_law_made_ways" (defArgs s__law_made_ways) (defBody s__law_made_ways) (defScope s__law_made_ways) .none kV11 dc11 pm11 an11 cd11 ct11), sl11⟩) (c11 : PySem.W.codeIn K cd11 "_law_made_ways" = true) (k11 : PySem.W.keepIn K (.ref f11) = true)
    (a12 : PySem.W.nsIn K mainGlobals "_law_fitted" = some (some (.ref f12))) (l12 : K.lookup f12 = some ⟨oc12, od12, .func (PySem.W.fnOf "_law_fitted" "_law_fitted" (defArgs s__law_fitted) (defBody s__law_fitted) (defScope s__law_fitted) .none kV12 dc12 pm12 an12 cd12 ct12), sl12⟩) (c12 : PySem.W.codeIn K cd12 "_law_fitted" = true) (k12 : PySem.W.keepIn K (.ref f12) = true)
    (a13 : PySem.W.nsIn K mainGlobals "_law_spoilt" = some (some (.ref f13))) (l13 : K.lookup f13 = some ⟨oc13, od13, .func (PySem.W.fnOf "_law_spoilt" "_law_spoilt" (defArgs s__law_spoilt) (defBody s__law_spoilt) (defScope s__law_spoilt) .none kV13 dc13 pm13 an13 cd13 ct13), sl13⟩) (c13 : PySem.W.codeIn K cd13 "_law_spoilt" = true) (k13 : PySem.W.keepIn K (.ref f13) = true)
    (a14 : PySem.W.nsIn K mainGlobals "_law_whole" = some (some (.ref f14))) (l14 : K.lookup f14 = some ⟨oc14, od14, .func (PySem.W.fnOf "_law_whole" "_law_whole" (defArgs s__law_whole) (defBody s__law_whole) (defScope s__law_whole) .none kV14 dc14 pm14 an14 cd14 ct14), sl14⟩) (c14 : PySem.W.codeIn K cd14 "_law_whole" = true) (k14 : PySem.W.keepIn K (.ref f14) = true)
    (a15 : PySem.W.nsIn K mainGlobals "_law_due" = some (some (.ref f15))) (l15 : K.lookup f15 = some ⟨oc15, od15, .func (PySem.W.fnOf "_law_due" "_law_due" (defArgs s__law_due) (defBody s__law_due) (defScope s__law_due) .none kV15 dc15 pm15 an15 cd15 ct15), sl15⟩) (c15 : PySem.W.codeIn K cd15 "_law_due" = true) (k15 : PySem.W.keepIn K (.ref f15) = true)
    (a16 : PySem.W.nsIn K mainGlobals "law" = some (some (.ref f16))) (l16 : K.lookup f16 = some ⟨oc16, od16, .func (PySem.W.fnOf "law" "law" (defArgs s_law) (defBody s_law) (defScope s_law) .none kV16 dc16 pm16 an16 cd16 ct16), sl16⟩) (c16 : PySem.W.codeIn K cd16 "law" = true) (k16 : PySem.W.keepIn K (.ref f16) = true)
    (eb_NoNet : PySem.W.nsIn K mainGlobals "NoNet" = some (some (.ref C_NoNet))) (ea_NoNet : PySem.W.excIn K C_NoNet [.type "ValueError", .type "Exception", .type "BaseException", .type "object"] "ValueError.__new__" = true) (ec_NoNet : PySem.W.keepIn K (.ref C_NoNet) = true) (ed_NoNet : PySem.W.subIn K (.ref C_NoNet) (.type "BaseException") = some true) (ee_NoNet : PySem.W.typeIn K (.ref C_NoNet) = some (.type "type"))
    (g_MOST_BRIDGES : PySem.W.nsIn K mainGlobals "MOST_BRIDGES" = some (some (.int 10 tk_MOST_BRIDGES)))
    (g_MOST_COST : PySem.W.nsIn K mainGlobals "MOST_COST" = some (some (.int 1000 tk_MOST_COST)))
    (g_MOST_NUMBER : PySem.W.nsIn K mainGlobals "MOST_NUMBER" = some (some (.int 999 tk_MOST_NUMBER)))
    (g_MOST_TIES : PySem.W.nsIn K mainGlobals "MOST_TIES" = some (some (.int 16 tk_MOST_TIES)))
    (z_all : PySem.W.nsIn K mainGlobals "all" = some none)
    (z_bool : PySem.W.nsIn K mainGlobals "bool" = some none)
    (z_dict : PySem.W.nsIn K mainGlobals "dict" = some none)
    (z_enumerate : PySem.W.nsIn K mainGlobals "enumerate" = some none)
    (z_int : PySem.W.nsIn K mainGlobals "int" = some none)
    (z_isinstance : PySem.W.nsIn K mainGlobals "isinstance" = some none)
    (z_len : PySem.W.nsIn K mainGlobals "len" = some none)
    (z_list : PySem.W.nsIn K mainGlobals "list" = some none)
    (z_max : PySem.W.nsIn K mainGlobals "max" = some none)
    (z_min : PySem.W.nsIn K mainGlobals "min" = some none)
    (z_range : PySem.W.nsIn K mainGlobals "range" = some none)
    (z_set : PySem.W.nsIn K mainGlobals "set" = some none)
    (z_sorted : PySem.W.nsIn K mainGlobals "sorted" = some none)
    (z_tuple : PySem.W.nsIn K mainGlobals "tuple" = some none)
    : ∃ fd : FuncData, (∀ (s : Shared) (v : Value), BindsTo s fd ⟨[v], []⟩ [("script", v)]) ∧ ∀ base : Heap, K.In base → base.Ns mainGlobals mg → FnOk l.prog w K mg base (L2.CX l.prog w) 5 fa fd ["script"] (spLaw K) := by
  have e := hfa.symm.trans (PySem.W.mg_of X G a16)
  cases e
  have F0 := fun_mk (st := s_is_whole) l0 c0 k0
  have F1 := fun_mk (st := s_is_row) l1 c1 k1
  have F2 := fun_mk (st := s_ranks_in) l2 c2 k2
  have F3 := fun_mk (st := s_is_ranked) l3 c3 k3
  have F4 := fun_mk (st := s_is_within) l4 c4 k4
  have F5 := fun_mk (st := s_need_bridges) l5 c5 k5
  have F6 := fun_mk (st := s_tie_of) l6 c6 k6
  have F7 := fun_mk (st := s_make_net) l7 c7 k7
  have F8 := fun_mk (st := s__law_row) l8 c8 k8
  have F9 := fun_mk (st := s__law_take) l9 c9 k9
  have F10 := fun_mk (st := s__law_net) l10 c10 k10
  have F11 := fun_mk (st := s__law_made_ways) l11 c11 k11
  have F12 := fun_mk (st := s__law_fitted) l12 c12 k12
  have F13 := fun_mk (st := s__law_spoilt) l13 c13 k13
  have F14 := fun_mk (st := s__law_whole) l14 c14 k14
  have F15 := fun_mk (st := s__law_due) l15 c15 k15
  have F16 := fun_mk (st := s_law) l16 c16 k16
  have b0 := F0.binds (ps := ["thing"]) fun _ _ _ _ _ _ us hl => match us, hl with | [_], _ => rfl
  have b1 := F1.binds (ps := ["thing"]) fun _ _ _ _ _ _ us hl => match us, hl with | [_], _ => rfl
  have b2 := F2.binds (ps := ["net", "some"]) fun _ _ _ _ _ _ us hl => match us, hl with | [_, _], _ => rfl
  have b3 := F3.binds (ps := ["net", "ways", "some"]) fun _ _ _ _ _ _ us hl => match us, hl with | [_, _, _], _ => rfl
  have b4 := F4.binds (ps := ["thing", "least", "most"]) fun _ _ _ _ _ _ us hl => match us, hl with | [_, _, _], _ => rfl
  have b5 := F5.binds (ps := ["bridges"]) fun _ _ _ _ _ _ us hl => match us, hl with | [_], _ => rfl
  have b6 := F6.binds (ps := ["bridges", "thing"]) fun _ _ _ _ _ _ us hl => match us, hl with | [_, _], _ => rfl
  have b7 := F7.binds (ps := ["bridges", "ties"]) fun _ _ _ _ _ _ us hl => match us, hl with | [_, _], _ => rfl
  have b8 := F8.binds (ps := ["cell"]) fun _ _ _ _ _ _ us hl => match us, hl with | [_], _ => rfl
  have b9 := F9.binds (ps := ["row", "many"]) fun _ _ _ _ _ _ us hl => match us, hl with | [_, _], _ => rfl
  have b10 := F10.binds (ps := ["row"]) fun _ _ _ _ _ _ us hl => match us, hl with | [_], _ => rfl
  have b11 := F11.binds (ps := ["row", "net"]) fun _ _ _ _ _ _ us hl => match us, hl with | [_, _], _ => rfl
  have b12 := F12.binds (ps := ["row", "net", "ways"]) fun _ _ _ _ _ _ us hl => match us, hl with | [_, _, _], _ => rfl
  have b13 := F13.binds (ps := ["row", "net", "some"]) fun _ _ _ _ _ _ us hl => match us, hl with | [_, _, _], _ => rfl
  have b14 := F14.binds (ps := ["thing"]) fun _ _ _ _ _ _ us hl => match us, hl with | [_], _ => rfl
  have b15 := F15.binds (ps := ["net", "ways", "some"]) fun _ _ _ _ _ _ us hl => match us, hl with | [_, _, _], _ => rfl
  have b16 := F16.binds (ps := ["script"]) fun _ _ _ _ _ _ us hl => match us, hl with | [_], _ => rfl
  have T : Txt K mg { c := { NoNet := C_NoNet }, f_is_whole := f0, d_is_whole := PySem.W.fnOf "is_whole" "is_whole" (defArgs s_is_whole) (defBody s_is_whole) (defScope s_is_whole) .none kV0 dc0 pm0 an0 cd0 ct0, f_is_row := f1, d_is_row := PySem.W.fnOf "is_row" "is_row" (defArgs s_is_row) (defBody s_is_row) (defScope s_is_row) .none kV1 dc1 pm1 an1 cd1 ct1, f_ranks_in := f2, d_ranks_in := PySem.W.fnOf "ranks_in" "ranks_in" (defArgs s_ranks_in) (defBody s_ranks_in) (defScope s_ranks_in) .none kV2 dc2 pm2 an2 cd2 ct2, f_is_ranked := f3, d_is_ranked := PySem.W.fnOf "is_ranked" "is_ranked" (defArgs s_is_ranked) (defBody s_is_ranked) (defScope s_is_ranked) .none kV3 dc3 pm3 an3 cd3 ct3, f_is_within := f4, d_is_within := PySem.W.fnOf "is_within" "is_within" (defArgs s_is_within) (defBody s_is_within) (defScope s_is_within) .none kV4 dc4 pm4 an4 cd4 ct4, f_need_bridges := f5, d_need_bridges := PySem.W.fnOf "need_bridges" "need_bridges" (defArgs s_need_bridges) (defBody s_need_bridges) (defScope s_need_bridges) .none kV5 dc5 pm5 an5 cd5 ct5, f_tie_of := f6, d_tie_of := PySem.W.fnOf "tie_of" "tie_of" (defArgs s_tie_of) (defBody s_tie_of) (defScope s_tie_of) .none kV6 dc6 pm6 an6 cd6 ct6, f_make_net := f7, d_make_net := PySem.W.fnOf "make_net" "make_net" (defArgs s_make_net) (defBody s_make_net) (defScope s_make_net) .none kV7 dc7 pm7 an7 cd7 ct7, f__law_row := f8, d__law_row := PySem.W.fnOf "_law_row" "_law_row" (defArgs s__law_row) (defBody s__law_row) (defScope s__law_row) .none kV8 dc8 pm8 an8 cd8 ct8, f__law_take := f9, d__law_take := PySem.W.fnOf "_law_take" "_law_take" (defArgs s__law_take) (defBody s__law_take) (defScope s__law_take) .none kV9 dc9 pm9 an9 cd9 ct9, f__law_net := f10, d__law_net := PySem.W.fnOf "_law_net" "_law_net" (defArgs s__law_net) (defBody s__law_net) (defScope s__law_net) .none kV10 dc10 pm10 an10 cd10 ct10, f__law_made_ways := f11, d__law_made_ways := PySem.W.fnOf "_law_made_ways" "_law_made_ways" (defArgs s__law_made_ways) (defBody s__law_made_ways) (defScope s__law_made_ways) .none kV11 dc11 pm11 an11 cd11 ct11, f__law_fitted := f12, d__law_fitted := PySem.W.fnOf "_law_fitted" "_law_fitted" (defArgs s__law_fitted) (defBody s__law_fitted) (defScope s__law_fitted) .none kV12 dc12 pm12 an12 cd12 ct12, f__law_spoilt := f13, d__law_spoilt := PySem.W.fnOf "_law_spoilt" "_law_spoilt" (defArgs s__law_spoilt) (defBody s__law_spoilt) (defScope s__law_spoilt) .none kV13 dc13 pm13 an13 cd13 ct13, f__law_whole := f14, d__law_whole := PySem.W.fnOf "_law_whole" "_law_whole" (defArgs s__law_whole) (defBody s__law_whole) (defScope s__law_whole) .none kV14 dc14 pm14 an14 cd14 ct14, f__law_due := f15, d__law_due := PySem.W.fnOf "_law_due" "_law_due" (defArgs s__law_due) (defBody s__law_due) (defScope s__law_due) .none kV15 dc15 pm15 an15 cd15 ct15, f_law := fa, d_law := PySem.W.fnOf "law" "law" (defArgs s_law) (defBody s_law) (defScope s_law) .none kV16 dc16 pm16 an16 cd16 ct16 } :=
    { m_is_whole := PySem.W.mg_of X G a0, k_is_whole := k0, F_is_whole := F0, b_is_whole := b0, m_is_row := PySem.W.mg_of X G a1, k_is_row := k1, F_is_row := F1, b_is_row := b1, m_ranks_in := PySem.W.mg_of X G a2, k_ranks_in := k2, F_ranks_in := F2, b_ranks_in := b2, m_is_ranked := PySem.W.mg_of X G a3, k_is_ranked := k3, F_is_ranked := F3, b_is_ranked := b3, m_is_within := PySem.W.mg_of X G a4, k_is_within := k4, F_is_within := F4, b_is_within := b4, m_need_bridges := PySem.W.mg_of X G a5, k_need_bridges := k5, F_need_bridges := F5, b_need_bridges := b5, m_tie_of := PySem.W.mg_of X G a6, k_tie_of := k6, F_tie_of := F6, b_tie_of := b6, m_make_net := PySem.W.mg_of X G a7, k_make_net := k7, F_make_net := F7, b_make_net := b7, m__law_row := PySem.W.mg_of X G a8, k__law_row := k8, F__law_row := F8, b__law_row := b8, m__law_take := PySem.W.mg_of X G a9, k__law_take := k9, F__law_take := F9, b__law_take := b9, m__law_net := PySem.W.mg_of X G a10, k__law_net := k10, F__law_net := F10, b__law_net := b10, m__law_made_ways := PySem.W.mg_of X G a11, k__law_made_ways := k11, F__law_made_ways := F11, b__law_made_ways := b11, m__law_fitted := PySem.W.mg_of X G a12, k__law_fitted := k12, F__law_fitted := F12, b__law_fitted := b12, m__law_spoilt := PySem.W.mg_of X G a13, k__law_spoilt := k13, F__law_spoilt := F13, b__law_spoilt := b13, m__law_whole := PySem.W.mg_of X G a14, k__law_whole := k14, F__law_whole := F14, b__law_whole := b14, m__law_due := PySem.W.mg_of X G a15, k__law_due := k15, F__law_due := F15, b__law_due := b15, m_law := PySem.W.mg_of X G a16, k_law := k16, F_law := F16, b_law := b16, n_all := PySem.W.mg_none_of X G z_all, n_bool := PySem.W.mg_none_of X G z_bool, n_dict := PySem.W.mg_none_of X G z_dict, n_enumerate := PySem.W.mg_none_of X G z_enumerate, n_int := PySem.W.mg_none_of X G z_int, n_isinstance := PySem.W.mg_none_of X G z_isinstance, n_len := PySem.W.mg_none_of X G z_len, n_list := PySem.W.mg_none_of X G z_list, n_max := PySem.W.mg_none_of X G z_max, n_min := PySem.W.mg_none_of X G z_min, n_range := PySem.W.mg_none_of X G z_range, n_set := PySem.W.mg_none_of X G z_set, n_sorted := PySem.W.mg_none_of X G z_sorted, n_tuple := PySem.W.mg_none_of X G z_tuple, g_MOST_BRIDGES := ⟨_, PySem.W.mg_of X G g_MOST_BRIDGES⟩, g_MOST_COST := ⟨_, PySem.W.mg_of X G g_MOST_COST⟩, g_MOST_NUMBER := ⟨_, PySem.W.mg_of X G g_MOST_NUMBER⟩, g_MOST_TIES := ⟨_, PySem.W.mg_of X G g_MOST_TIES⟩, e_NoNet := ⟨ea_NoNet, PySem.W.mg_of X G eb_NoNet, ec_NoNet, ed_NoNet, ee_NoNet⟩ }
  exact ⟨PySem.W.fnOf "law" "law" (defArgs s_law) (defBody s_law) (defScope s_law) .none kV16 dc16 pm16 an16 cd16 ct16, fun s v => .of_eq rfl, fun base _ _ => (ok_law T).imp fun _ _ _ _ q => sp_law _ q⟩
theorem walk {l : PySem.W.OpenLaw} {q : Program} {loose : List Str} {XP : (Str → Option Value) → Heap → Prop} {YP : World → Heap → Prop} {d : DefRec} {K : Params → PySem.W.Frag} (hn : l.most = some 63) (hdf : d.params.defaults = [])
    (hY : ∀ (w : World) (h : Heap), YP w h → (K w.params).In h)
    (F : ∀ (w : World) (mg : Str → Option Value) (fa : Addr) (h : Heap), (K w.params).In h → h.Ns mainGlobals mg → mg d.name = some (.ref fa) →
      ∃ fd : FuncData, (∀ (s : Shared) (u : Value), BindsTo s fd ⟨[u], []⟩ [("script", u)]) ∧ ∀ base : Heap, (K w.params).In base → base.Ns mainGlobals mg → FnOk l.prog w (K w.params) mg base (L2.CX l.prog w) 5 fa fd ["script"] (spLaw (K w.params))) :
    PySem.W.WalkO q loose XP YP l.row.toRowW d [] (fun f vs => PySem.call f vs) :=
  L2.walk_of (n := 63) (k := 5) (x := "script") (CX := fun w => L2.CX l.prog w) (sp := fun w => spLaw (K w.params)) hn (by decide) hdf ⟨rfl, by decide, by decide⟩ hY F
    (fun _ H a ns hl hO hS => ⟨a, ns, rfl, SqF.of hS (fun ys e => by rcases hO a with z | ⟨o, xs, z⟩ <;> rw [z] at e <;> cases e), hl, fun _ => rfl⟩) fun _ _ _ _ _ ⟨_, _, _, _, _, _, _, _, _, _, _, _, z⟩ => z
end K34
open PySem PySem.W PyProof.Rows
set_option maxRecDepth 100000 in
set_option maxHeartbeats 0 in
theorem PySem.Challenge.cw_shutways_k34_rank_papers_looked_at_holds : PySem.Challenge.rw_shutways_k34_rank_papers_looked_at.Holds := by
  w_on; o_law; k_head; (case hw => w_witness2)
  k_fill
  refine K34.walk (l := PySem.Challenge.rw_shutways_k34_rank_papers_looked_at) rfl rfl (fun w h Y => PySem.W.kIn_of Y) ?F
  case F =>
    intro w mg fa h KX G hmg
    refine' K34.all_mk KX G hmg ?a0 ?l0 ?c0 ?k0 ?a1 ?l1 ?c1 ?k1 ?a2 ?l2 ?c2 ?k2 ?a3 ?l3 ?c3 ?k3 ?a4 ?l4 ?c4 ?k4 ?a5 ?l5 ?c5 ?k5 ?a6 ?l6 ?c6 ?k6 ?a7 ?l7 ?c7 ?k7 ?a8 ?l8 ?c8 ?k8 ?a9 ?l9 ?c9 ?k9 ?a10 ?l10 ?c10 ?k10 ?a11 ?l11 ?c11 ?k11 ?a12 ?l12 ?c12 ?k12 ?a13 ?l13 ?c13 ?k13 ?a14 ?l14 ?c14 ?k14 ?a15 ?l15 ?c15 ?k15 ?a16 ?l16 ?c16 ?k16 ?eb_NoNet ?ea_NoNet ?ec_NoNet ?ed_NoNet ?ee_NoNet ?g_MOST_BRIDGES ?g_MOST_COST ?g_MOST_NUMBER ?g_MOST_TIES ?z_all ?z_bool ?z_dict ?z_enumerate ?z_int ?z_isinstance ?z_len ?z_list ?z_max ?z_min ?z_range ?z_set ?z_sorted ?z_tuple
    (case a0 => k_is)
    (case l0 => k_is)
    (case c0 => k_is)
    (case k0 => k_is)
    (case a1 => k_is)
    (case l1 => k_is)
    (case c1 => k_is)
    (case k1 => k_is)
    (case a2 => k_is)
    (case l2 => k_is)
    (case c2 => k_is)
    (case k2 => k_is)
    (case a3 => k_is)
    (case l3 => k_is)
    (case c3 => k_is)
    (case k3 => k_is)
    (case a4 => k_is)
    (case l4 => k_is)
    (case c4 => k_is)
    (case k4 => k_is)
    (case a5 => k_is)
    (case l5 => k_is)
    (case c5 => k_is)
    (case k5 => k_is)
    (case a6 => k_is)
    (case l6 => k_is)
    (case c6 => k_is)
    (case k6 => k_is)
    (case a7 => k_is)
    (case l7 => k_is)
    (case c7 => k_is)
    (case k7 => k_is)
    (case a8 => k_is)
    (case l8 => k_is)
    (case c8 => k_is)
    (case k8 => k_is)
    (case a9 => k_is)
    (case l9 => k_is)
    (case c9 => k_is)
    (case k9 => k_is)
    (case a10 => k_is)
    (case l10 => k_is)
    (case c10 => k_is)
    (case k10 => k_is)
    (case a11 => k_is)
    (case l11 => k_is)
    (case c11 => k_is)
    (case k11 => k_is)
    (case a12 => k_is)
    (case l12 => k_is)
    (case c12 => k_is)
    (case k12 => k_is)
    (case a13 => k_is)
    (case l13 => k_is)
    (case c13 => k_is)
    (case k13 => k_is)
    (case a14 => k_is)
    (case l14 => k_is)
    (case c14 => k_is)
    (case k14 => k_is)
    (case a15 => k_is)
    (case l15 => k_is)
    (case c15 => k_is)
    (case k15 => k_is)
    (case a16 => k_is)
    (case l16 => k_is)
    (case c16 => k_is)
    (case k16 => k_is)
    (case eb_NoNet => k_is)
    (case ea_NoNet => k_exc)
    (case ec_NoNet => k_is)
    (case ed_NoNet => k_is)
    (case ee_NoNet => k_is)
    (case g_MOST_BRIDGES => k_is)
    (case g_MOST_COST => k_is)
    (case g_MOST_NUMBER => k_is)
    (case g_MOST_TIES => k_is)
    (case z_all => k_is)
    (case z_bool => k_is)
    (case z_dict => k_is)
    (case z_enumerate => k_is)
    (case z_int => k_is)
    (case z_isinstance => k_is)
    (case z_len => k_is)
    (case z_list => k_is)
    (case z_max => k_is)
    (case z_min => k_is)
    (case z_range => k_is)
    (case z_set => k_is)
    (case z_sorted => k_is)
    (case z_tuple => k_is)

