import PyProof.Rows.All
import HandS.ForMost
import HandS.Exc
import HandS.TryOnly
import HandS.ExcOwn
import HandS.WordsExc
import HandS.Wide
import HandS.Deep
import PyProof.FactsAll.bool
import HandS.TupAny
import HandS.TupLe
import HandS.SortInts
import KE.SortData
import HandS.IsInst
import HandS.Style
import HandS.Dict
import HandS.Text
import HandS.Small
import HandS.More
import PyProof.ReprRoads
import KE.DatumOrd
import HandS.Conv
import HandS.SortKw
import HandS.Zip
import HandS.Words
import HandS.Codes
import PyProof.Rows.ReprOcc
import PySem.Challenge.RW_hourcoin_k04_two_lots
set_option Elab.async false
set_option linter.all false
set_option maxRecDepth 100000
set_option maxHeartbeats 4000000
/-! DL, part A: deep values (tuples as values), the heap of lists, what they stand for -/
namespace DL
open PySem PySem.Spec PyProof.Rows L2

inductive D where
  | non | bl (b : Bool) | int (i : Int) | str (x : Str) | ref (a : Addr) | tup (xs : List D) | kt (xs : List D) | fl (xs : List D)

inductive DO where
  | lst (xs : List D)
  | dK (kvs : List (Key × D))
  | dT (kvs : List (List Key × D))
  | ins (c : Nat) (fs : List (Str × D))

abbrev DH := Addr → Option DO
def up (h : DH) (a : Addr) (o : DO) : DH := fun b => if b = a then some o else h b
theorem up_same {h : DH} {a : Addr} {o : DO} : up h a o a = some o := by unfold up; rw [if_pos rfl]
theorem up_ne {h : DH} {a b : Addr} {o : DO} (n : b ≠ a) : up h a o b = h b := by unfold up; rw [if_neg n]
theorem up_up {h : DH} {a : Addr} {o u : DO} : up (up h a o) a u = up h a u := by
  funext b; unfold up; split <;> rfl

abbrev DSt := List (Option D)

/-- a frozen list -/
def FL (K : PySem.W.Frag) (H : Hp) (a : Addr) (xs : List V) : Prop :=
  (∃ o, H a = some (.frz o (.lst xs))) ∨
    ∃ (o : Obj) (its : Array Value) (n : Nat), K.lookup a = some o ∧ o.cls = .type "list" ∧ o.dict = none ∧ o.data = .seq its n ∧ its.size ≤ sizeLine ∧ Vals xs its.toList
theorem FL.seq {K : PySem.W.Frag} {H : Hp} {a : Addr} {xs : List V} (h : FL K H a xs) : SqL K H a xs := by
  rcases h with ⟨o, h⟩ | h
  · exact .inl (.inr ⟨o, h⟩)
  · exact .inr h

mutual
inductive RD (K : PySem.W.Frag) (H : Hp) : V → D → Prop
  | non : RD K H .non .non
  | bl (b : Bool) : RD K H (.bl b) (.bl b)
  | int (i : Int) : RD K H (.int i) (.int i)
  | str (x : Str) : RD K H (.str x) (.str x)
  | ref (a : Addr) : RD K H (.ref a) (.ref a)
  | tup {a : Addr} {vs : List V} {ds : List D} : H a = some (.tup vs) → RDs K H vs ds → RD K H (.ref a) (.tup ds)
  | kt {a : Addr} {vs : List V} {ds : List D} : SqT K H a vs → RDs K H vs ds → RD K H (.ref a) (.kt ds)
  | fl {a : Addr} {vs : List V} {ds : List D} : FL K H a vs → RDs K H vs ds → RD K H (.ref a) (.fl ds)
inductive RDs (K : PySem.W.Frag) (H : Hp) : List V → List D → Prop
  | nil : RDs K H [] []
  | cons {v : V} {vs : List V} {d : D} {ds : List D} : RD K H v d → RDs K H vs ds → RDs K H (v :: vs) (d :: ds)
end

/-- what a step keeps: tuples and what is frozen -/
structure Le (H H' : Hp) : Prop where
  t : ∀ a xs, H a = some (.tup xs) → H' a = some (.tup xs)
  f : ∀ a o u, H a = some (.frz o u) → H' a = some (.frz o u)
theorem Le.refl {H : Hp} : Le H H := ⟨fun _ _ h => h, fun _ _ _ h => h⟩
theorem Le.trans {H H1 H2 : Hp} (a : Le H H1) (b : Le H1 H2) : Le H H2 := ⟨fun x y h => b.t x y (a.t x y h), fun x y z h => b.f x y z (a.f x y z h)⟩
theorem Le.new {H : Hp} {p : Addr} {o : HO} (n : H p = none) : Le H (upd H p o) :=
  ⟨fun a xs h => by rw [upd_ne (ne_of_none h n)]; exact h, fun a u xs h => by rw [upd_ne (ne_of_none h n)]; exact h⟩
theorem Le.mut {H : Hp} {p : Addr} {o : HO} (m : Mut (H p)) : Le H (upd H p o) :=
  ⟨fun a xs h => by
    have e : a ≠ p := fun z => by subst z; rw [h] at m; exact m
    rw [upd_ne e]; exact h, fun a u xs h => by
    have e : a ≠ p := fun z => by subst z; rw [h] at m; exact m
    rw [upd_ne e]; exact h⟩
theorem Le.sqT {K : PySem.W.Frag} {H H' : Hp} (l : Le H H') {a : Addr} {xs : List V} (h : SqT K H a xs) : SqT K H' a xs := by
  rcases h with (h | ⟨o, h⟩) | h
  · exact .inl (.inl (l.t _ _ h))
  · exact .inl (.inr ⟨o, l.f _ _ _ h⟩)
  · exact .inr h
theorem Le.fl {K : PySem.W.Frag} {H H' : Hp} (l : Le H H') {a : Addr} {xs : List V} (h : FL K H a xs) : FL K H' a xs := by
  rcases h with ⟨o, h⟩ | h
  · exact .inl ⟨o, l.f _ _ _ h⟩
  · exact .inr h
mutual
theorem RD.le {K : PySem.W.Frag} {H H' : Hp} (l : Le H H') : ∀ {d : D} {v : V}, RD K H v d → RD K H' v d
  | .non, _, .non => .non
  | .bl _, _, .bl b => .bl b
  | .int _, _, .int b => .int b
  | .str _, _, .str b => .str b
  | .ref _, _, .ref b => .ref b
  | .tup _, _, .tup s r => .tup (l.t _ _ s) (RDs.le l r)
  | .kt _, _, .kt s r => .kt (l.sqT s) (RDs.le l r)
  | .fl _, _, .fl s r => .fl (l.fl s) (RDs.le l r)
theorem RDs.le {K : PySem.W.Frag} {H H' : Hp} (l : Le H H') : ∀ {ds : List D} {vs : List V}, RDs K H vs ds → RDs K H' vs ds
  | [], _, .nil => .nil
  | _ :: _, _, .cons a b => .cons (RD.le l a) (RDs.le l b)
end
section
variable {K : PySem.W.Frag} {H H' : Hp}
theorem RDs.length : ∀ {vs : List V} {ds : List D}, RDs K H vs ds → vs.length = ds.length
  | _, _, .nil => rfl
  | _, _, .cons _ b => congrArg (· + 1) b.length
theorem RDs.get : ∀ {vs : List V} {ds : List D} {i : Nat} {d : D}, RDs K H vs ds → ds[i]? = some d → ∃ v, vs[i]? = some v ∧ RD K H v d
  | _, _, _, _, .nil, h => by simp at h
  | _, _, 0, _, .cons a _, h => by simp at h; subst h; exact ⟨_, rfl, a⟩
  | _, _, i + 1, _, .cons _ b, h => by
    obtain ⟨v, h1, h2⟩ := RDs.get (i := i) b (by simpa using h)
    exact ⟨v, by simpa using h1, h2⟩
theorem RDs.getV : ∀ {vs : List V} {ds : List D} {i : Nat} {v : V}, RDs K H vs ds → vs[i]? = some v → ∃ d, ds[i]? = some d ∧ RD K H v d
  | _, _, _, _, .nil, h => by simp at h
  | _, _, 0, _, .cons a _, h => by simp at h; subst h; exact ⟨_, rfl, a⟩
  | _, _, i + 1, _, .cons _ b, h => by
    obtain ⟨v, h1, h2⟩ := RDs.getV (i := i) b (by simpa using h)
    exact ⟨v, by simpa using h1, h2⟩
theorem RDs.append : ∀ {vs ws : List V} {ds es : List D}, RDs K H vs ds → RDs K H ws es → RDs K H (vs ++ ws) (ds ++ es)
  | _, _, _, _, .nil, h => h
  | _, _, _, _, .cons a b, h => .cons a (b.append h)
theorem RDs.take : ∀ {vs : List V} {ds : List D} (n : Nat), RDs K H vs ds → RDs K H (vs.take n) (ds.take n)
  | _, _, 0, _ => .nil
  | _, _, _ + 1, .nil => .nil
  | _, _, n + 1, .cons a b => .cons a (b.take n)
theorem RDs.drop : ∀ {vs : List V} {ds : List D} (n : Nat), RDs K H vs ds → RDs K H (vs.drop n) (ds.drop n)
  | _, _, 0, h => h
  | _, _, _ + 1, .nil => .nil
  | _, _, n + 1, .cons _ b => b.drop n
theorem RDs.set {v : V} {d : D} (r : RD K H v d) : ∀ {vs : List V} {ds : List D} (n : Nat), RDs K H vs ds → RDs K H (vs.set n v) (ds.set n d)
  | _, _, _, .nil => .nil
  | _, _, 0, .cons _ b => .cons r b
  | _, _, n + 1, .cons a b => .cons a (b.set r n)
theorem RDs.reverse {vs : List V} {ds : List D} (h : RDs K H vs ds) : RDs K H vs.reverse ds.reverse := by
  induction vs generalizing ds with
  | nil => cases h; exact .nil
  | cons v vs ih =>
    cases h with
    | cons a b =>
      rw [List.reverse_cons, List.reverse_cons]
      exact (ih b).append (.cons a .nil)
theorem RDs.one {vs : List V} {d : D} (h : RDs K H vs [d]) : ∃ v, vs = [v] ∧ RD K H v d := by
  cases h with
  | cons a b => cases b; exact ⟨_, rfl, a⟩
theorem RDs.two {vs : List V} {d e : D} (h : RDs K H vs [d, e]) : ∃ v w, vs = [v, w] ∧ RD K H v d ∧ RD K H w e := by
  cases h with
  | cons a b =>
    obtain ⟨w, rfl, c⟩ := b.one
    exact ⟨_, _, rfl, a, c⟩
theorem RDs.nil_iff {vs : List V} {ds : List D} (h : RDs K H vs ds) : vs = [] ↔ ds = [] := by
  cases h <;> simp
end

/-- the classes' addresses -/
abbrev CA := Nat → Addr

/-- pairs with the same keys, the values related -/
def RPs {κ : Type} (K : PySem.W.Frag) (H : Hp) : List (κ × V) → List (κ × D) → Prop := Paired fun p q => p.1 = q.1 ∧ RD K H p.2 q.2
abbrev RFs (K : PySem.W.Frag) (H : Hp) : List (Str × V) → List (Str × D) → Prop := RPs K H
def RO (K : PySem.W.Frag) (C : CA) (H : Hp) (a : Addr) : DO → Prop
  | .lst ds => ∃ vs, H a = some (.lst vs) ∧ RDs K H vs ds
  | .dK kvs => ∃ gs, H a = some (.dK gs) ∧ RPs K H gs kvs
  | .dT kvs => ∃ gs, H a = some (.dT gs) ∧ RPs K H gs kvs
  | .ins c fs => ∃ dx gs, H a = some (.ins (C c) dx gs) ∧ RFs K H gs fs
/-- the heaps -/
def RH (K : PySem.W.Frag) (C : CA) (H : Hp) (h : DH) : Prop := ∀ a o, h a = some o → RO K C H a o
/-- the slots -/
def RS (K : PySem.W.Frag) (H : Hp) (σ : L2.St) (s : DSt) : Prop := σ.length = s.length ∧ ∀ (i : Nat) (d : D), s[i]? = some (some d) → ∃ v, σ[i]? = some (some v) ∧ RD K H v d

section
variable {K : PySem.W.Frag} {C : CA} {H H' : Hp} {h h' : DH} {σ : L2.St} {s : DSt} {a p : Addr} {o : DO}
theorem RPs.le {κ : Type} (l : Le H H') {gs : List (κ × V)} {fs : List (κ × D)} (r : RPs K H gs fs) : RPs K H' gs fs := Paired.mapP r fun _ _ z => ⟨z.1, z.2.le l⟩
theorem RO.le (l : Le H H') (r : RO K C H a o) (e : H' a = H a) : RO K C H' a o := by
  cases o with
  | lst ds => obtain ⟨vs, h1, h2⟩ := r; exact ⟨vs, e.trans h1, h2.le l⟩
  | dK ds => obtain ⟨vs, h1, h2⟩ := r; exact ⟨vs, e.trans h1, h2.le l⟩
  | dT ds => obtain ⟨vs, h1, h2⟩ := r; exact ⟨vs, e.trans h1, h2.le l⟩
  | ins c fs => obtain ⟨dx, gs, h1, h2⟩ := r; exact ⟨dx, gs, e.trans h1, h2.le l⟩
theorem RO.there (r : RO K C H a o) : ∃ u, H a = some u := by
  cases o with
  | lst ds => obtain ⟨vs, h1, _⟩ := r; exact ⟨_, h1⟩
  | dK ds => obtain ⟨vs, h1, _⟩ := r; exact ⟨_, h1⟩
  | dT ds => obtain ⟨vs, h1, _⟩ := r; exact ⟨_, h1⟩
  | ins c fs => obtain ⟨dx, gs, h1, _⟩ := r; exact ⟨_, h1⟩
theorem RO.mut (r : RO K C H a o) : Mut (H a) := by
  cases o with
  | lst ds => obtain ⟨vs, h1, _⟩ := r; rw [h1]; exact trivial
  | dK ds => obtain ⟨vs, h1, _⟩ := r; rw [h1]; exact trivial
  | dT ds => obtain ⟨vs, h1, _⟩ := r; rw [h1]; exact trivial
  | ins c fs => obtain ⟨dx, gs, h1, _⟩ := r; rw [h1]; exact trivial
theorem RH.free (r : RH K C H h) (n : H p = none) : h p = none := by
  cases e : h p with
  | none => rfl
  | some o => obtain ⟨u, q⟩ := (r p o e).there; rw [n] at q; cases q
/-- a new untracked-by-h object (a tuple) -/
theorem RH.side {u : HO} (r : RH K C H h) (n : H p = none) : RH K C (upd H p u) h := fun a o e => by
  have q := r a o e
  refine q.le (Le.new n) (upd_ne ?_)
  obtain ⟨w, z⟩ := q.there
  exact ne_of_none z n
theorem RH.new {u : HO} (r : RH K C H h) (n : H p = none) (w : RO K C (upd H p u) p o) : RH K C (upd H p u) (up h p o) := fun a x e => by
  by_cases z : a = p
  · subst z; rw [up_same] at e; cases e; exact w
  · rw [up_ne z] at e
    exact r.side n a x e
theorem RH.put {u : HO} (r : RH K C H h) (m : Mut (H p)) (w : RO K C (upd H p u) p o) : RH K C (upd H p u) (up h p o) := fun a x e => by
  by_cases z : a = p
  · subst z; rw [up_same] at e; cases e; exact w
  · rw [up_ne z] at e
    exact (r a x e).le (Le.mut m) (upd_ne z)
theorem RS.le (l : Le H H') (r : RS K H σ s) : RS K H' σ s := ⟨r.1, fun i d e => by
  obtain ⟨v, h1, h2⟩ := r.2 i d e
  exact ⟨v, h1, h2.le l⟩⟩
theorem RS.set {v : V} {d : D} (r : RS K H σ s) (i : Nat) (x : RD K H v d) : RS K H (σ.set i (some v)) (s.set i (some d)) := ⟨by rw [List.length_set, List.length_set]; exact r.1, fun j e q => by
  by_cases z : i = j
  · subst z
    by_cases hl : i < s.length
    · rw [List.getElem?_set_self hl] at q
      cases q
      exact ⟨v, List.getElem?_set_self (by rw [r.1]; exact hl), x⟩
    · rw [List.getElem?_eq_none (by rw [List.length_set]; omega)] at q; cases q
  · rw [List.getElem?_set_ne z] at q
    obtain ⟨w, h1, h2⟩ := r.2 j e q
    exact ⟨w, by rw [List.getElem?_set_ne z]; exact h1, h2⟩⟩
end

/-- a step: tuples stay, what h does not know stays and stays unknown -/
structure Ste (H : Hp) (h : DH) (H' : Hp) (h' : DH) : Prop where
  le : Le H H'
  fr : ∀ a o, h a = none → H a = some o → H' a = some o
  dm : ∀ a o, h a = none → H a = some o → h' a = none
theorem Ste.refl {H : Hp} {h : DH} : Ste H h H h := ⟨.refl, fun _ _ _ e => e, fun _ _ e _ => e⟩
theorem Ste.trans {H H1 H2 : Hp} {h h1 h2 : DH} (a : Ste H h H1 h1) (b : Ste H1 h1 H2 h2) : Ste H h H2 h2 :=
  ⟨a.le.trans b.le, fun x o n e => b.fr x o (a.dm x o n e) (a.fr x o n e), fun x o n e => b.dm x o (a.dm x o n e) (a.fr x o n e)⟩
theorem Ste.new {H : Hp} {h : DH} {p : Addr} {o : HO} {u : DO} (n : H p = none) : Ste H h (upd H p o) (up h p u) :=
  ⟨Le.new n, fun a x _ e => by rw [upd_ne (ne_of_none e n)]; exact e, fun a x na e => by rw [up_ne (ne_of_none e n)]; exact na⟩
theorem Ste.side {H : Hp} {h : DH} {p : Addr} {o : HO} (n : H p = none) : Ste H h (upd H p o) h :=
  ⟨Le.new n, fun a x _ e => by rw [upd_ne (ne_of_none e n)]; exact e, fun a x na _ => na⟩
theorem Ste.mut {H : Hp} {h : DH} {p : Addr} {o : HO} {u w : DO} (k : h p = some w) (m : Mut (H p)) : Ste H h (upd H p o) (up h p u) := by
  have ne : ∀ a, h a = none → a ≠ p := fun a n z => by subst z; rw [k] at n; cases n
  exact ⟨Le.mut m, fun a x n e => by rw [upd_ne (ne a n)]; exact e, fun a x n _ => by rw [up_ne (ne a n)]; exact n⟩

/-! ### pairs -/
section
variable {κ : Type} [DecidableEq κ] {K : PySem.W.Frag} {H : Hp}
def dget (kvs : List (κ × D)) (k : κ) : Option D := (kvs.find? fun kv => decide (kv.1 = k)).map (·.2)
def dput (kvs : List (κ × D)) (k : κ) (v : D) : List (κ × D) :=
  if kvs.any (fun kv => decide (kv.1 = k)) then kvs.map fun kv => if kv.1 = k then (kv.1, v) else kv else kvs ++ [(k, v)]
def ddrop (kvs : List (κ × D)) (k : κ) : List (κ × D) := kvs.filter fun kv => decide (kv.1 ≠ k)
theorem RPs.length {gs : List (κ × V)} {fs : List (κ × D)} (r : RPs K H gs fs) : gs.length = fs.length := Paired.length r
theorem RPs.get {k : κ} : ∀ {gs : List (κ × V)} {fs : List (κ × D)}, RPs K H gs fs → (∀ d, dget fs k = some d → ∃ v, valV gs k = some v ∧ RD K H v d) ∧ (dget fs k = none → valV gs k = none)
  | _, _, .nil => ⟨fun d e => by simp [dget] at e, fun _ => rfl⟩
  | (j, v) :: gs, (j', d') :: fs, .cons ⟨e1, r1⟩ t => by
    have e1 : j = j' := e1
    subst e1
    have ih := RPs.get (k := k) t
    by_cases e : j = k
    · subst e
      refine ⟨fun d q => ?_, fun q => ?_⟩
      · simp [dget] at q
        subst q
        exact ⟨v, by simp [valV], r1⟩
      · simp [dget] at q
    · have h1 : dget ((j, d') :: fs) k = dget fs k := by simp [dget, List.find?_cons, e]
      have h2 : valV ((j, v) :: gs) k = valV gs k := by simp [valV, List.find?_cons, e]
      rw [h1, h2]
      exact ih
theorem RPs.any {k : κ} : ∀ {gs : List (κ × V)} {fs : List (κ × D)}, RPs K H gs fs → (gs.any fun kv => decide (kv.1 = k)) = fs.any fun kv => decide (kv.1 = k)
  | _, _, .nil => rfl
  | (j, v) :: gs, (j', d') :: fs, .cons ⟨e1, r1⟩ t => by
    have e1 : j = j' := e1
    subst e1
    rw [List.any_cons, List.any_cons, RPs.any t]
theorem RPs.repl {k : κ} {v : V} {d : D} (rv : RD K H v d) : ∀ {gs : List (κ × V)} {fs : List (κ × D)}, RPs K H gs fs → RPs K H (gs.map fun kv => if kv.1 = k then (kv.1, v) else kv) (fs.map fun kv => if kv.1 = k then (kv.1, d) else kv)
  | _, _, .nil => .nil
  | (j, v') :: gs, (j', d') :: fs, .cons ⟨e1, r1⟩ t => by
    have e1 : j = j' := e1
    subst e1
    rw [List.map_cons, List.map_cons]
    refine .cons ?_ (RPs.repl rv t)
    by_cases e : j = k
    · rw [if_pos e, if_pos e]; exact ⟨rfl, rv⟩
    · rw [if_neg e, if_neg e]; exact ⟨rfl, r1⟩
theorem RPs.app : ∀ {gs gs' : List (κ × V)} {fs fs' : List (κ × D)}, RPs K H gs fs → RPs K H gs' fs' → RPs K H (gs ++ gs') (fs ++ fs')
  | _, _, _, _, .nil, r => r
  | _, _, _, _, .cons a t, r => .cons a (RPs.app t r)
theorem RPs.put {k : κ} {v : V} {d : D} (rv : RD K H v d) {gs : List (κ × V)} {fs : List (κ × D)} (r : RPs K H gs fs) : RPs K H (putK gs k v) (dput fs k d) := by
  unfold putK dput
  rw [RPs.any r]
  split
  · exact RPs.repl rv r
  · exact RPs.app r (.cons ⟨rfl, rv⟩ .nil)
theorem RPs.drop {k : κ} : ∀ {gs : List (κ × V)} {fs : List (κ × D)}, RPs K H gs fs → RPs K H (dropK gs k) (ddrop fs k)
  | _, _, .nil => .nil
  | (j, v) :: gs, (j', d') :: fs, .cons ⟨e1, r1⟩ t => by
    have e1 : j = j' := e1
    subst e1
    have ih := RPs.drop (k := k) t
    unfold dropK ddrop at ih ⊢
    rw [List.filter_cons, List.filter_cons]
    by_cases e : j = k
    · simpa [e] using ih
    · simp only [ne_eq, e, not_false_eq_true, decide_true, if_true]
      exact .cons ⟨rfl, r1⟩ ih
end

def wipeD (s : DSt) : List Nat → DSt
  | [] => s
  | v :: vs => (wipeD s vs).set v none
theorem RS.wipe {K : PySem.W.Frag} {H : Hp} {σ : L2.St} {s : DSt} (r : RS K H σ s) : ∀ vs, RS K H (wipe σ vs) (wipeD s vs)
  | [] => r
  | v :: vs => by
    have q := RS.wipe r vs
    refine ⟨by unfold L2.wipe wipeD; rw [List.length_set, List.length_set]; exact q.1, fun j e z => ?_⟩
    unfold wipeD at z
    unfold L2.wipe
    by_cases y : v = j
    · subst y
      by_cases hl : v < (wipeD s vs).length
      · rw [List.getElem?_set_self hl] at z; cases z
      · rw [List.getElem?_eq_none (by rw [List.length_set]; omega)] at z; cases z
    · rw [List.getElem?_set_ne y] at z
      obtain ⟨w, h1, h2⟩ := q.2 j e z
      exact ⟨w, by rw [List.getElem?_set_ne y]; exact h1, h2⟩
end DL

/-! DL, part A2: a truth on the left of + and - -/
namespace DL
open PySem PySem.Spec PyProof.Rows L2
theorem bi_add (b : Bool) (i : Int) (u : Tok) : Gives (Builtin.«int.__add__» ⟨[.bool b, .int i u], []⟩) (.int ((if b = true then (1 : Int) else 0) + i)) :=
  .of_wp fun M A E s Q h => by
    obtain ⟨hp, g, d, tk, os⟩ := s
    wp_walk
    exact ⟨_, rfl, h⟩
theorem bi_sub (b : Bool) (i : Int) (u : Tok) : Gives (Builtin.«int.__sub__» ⟨[.bool b, .int i u], []⟩) (.int ((if b = true then (1 : Int) else 0) - i)) :=
  .of_wp fun M A E s Q h => by
    obtain ⟨hp, g, d, tk, os⟩ := s
    wp_walk
    exact ⟨_, rfl, h⟩
section
variable {X : Cx}
theorem op_bi_add : OpR X (binaryOp .Add) (fun x y H Q => ∃ b i, x = .bl b ∧ y = .int i ∧ Q (.int (b2i b + i)) H) := by
  intro pins s σ H x y v u Q I rx ry ⟨b, i, ex, ey, q⟩
  subst ex ey
  cases rx
  obtain ⟨t, rfl⟩ := ry
  exact binaryOp_left_gives (op := .Add) (T := "bool") (U := "int") (by decide) (PySem.typeIs_bool s b) (fun s' => typeIs_int s' i t) F.fills_bool_add F.fills_int_add F.sub_int_bool F.slot_bool_add F.slot_int_radd F.entry_int_add (F.args_int_add_2 _ _) (bi_add b i t) trivial
    ⟨.int (b2i b + i), H, I.tok _, ⟨_, rfl⟩, q⟩
theorem op_bi_sub : OpR X (binaryOp .Sub) (fun x y H Q => ∃ b i, x = .bl b ∧ y = .int i ∧ Q (.int (b2i b - i)) H) := by
  intro pins s σ H x y v u Q I rx ry ⟨b, i, ex, ey, q⟩
  subst ex ey
  cases rx
  obtain ⟨t, rfl⟩ := ry
  exact binaryOp_left_gives (op := .Sub) (T := "bool") (U := "int") (by decide) (PySem.typeIs_bool s b) (fun s' => typeIs_int s' i t) F.fills_bool_sub F.fills_int_sub F.sub_int_bool F.slot_bool_sub F.slot_int_rsub F.entry_int_sub (F.args_int_sub_2 _ _) (bi_sub b i t) trivial
    ⟨.int (b2i b - i), H, I.tok _, ⟨_, rfl⟩, q⟩
end
end DL

/-! DL, part B: lifts; operators and comparisons by values -/
namespace DL
open PySem PySem.Spec PyProof.Rows L2

abbrev QD := D → DH → Prop
/-- an exception of the program's own: its class, its fields -/
structure Exn where
  cls : Nat
  fs : List (Str × D)
abbrev XD := Exn → DH → Prop
abbrev SXD := Exn → DSt → DH → Prop

def LQ (K : PySem.W.Frag) (C : CA) (H : Hp) (h₀ : DH) (Q : VK) (d : D) (h : DH) : Prop := ∀ v H', Ste H h₀ H' h → RD K H' v d → RH K C H' h → Q v H'
theorem LQ.le {K : PySem.W.Frag} {C : CA} {H H1 : Hp} {h₀ h₁ : DH} {Q : VK} {d : D} {h : DH} (x : LQ K C H h₀ Q d h) (l : Ste H h₀ H1 h₁) : LQ K C H1 h₁ Q d h := fun v H' l' r rh => x v H' (l.trans l') r rh
theorem LQ.here {K : PySem.W.Frag} {C : CA} {H : Hp} {Q : VK} {d : D} {h : DH} (x : LQ K C H h Q d h) {v : V} (r : RD K H v d) (rh : RH K C H h) : Q v H := x v H .refl r rh

def OpD (X : Cx) (C : CA) (f : Value → Value → Sem Value) (w : D → D → DH → QD → Prop) : Prop :=
  OpR X f (fun x y H Q => ∃ d e h Q0, RD X.K H x d ∧ RD X.K H y e ∧ RH X.K C H h ∧ w d e h Q0 ∧ ∀ r h', Q0 r h' → LQ X.K C H h Q r h')
def UnD (X : Cx) (C : CA) (f : Value → Sem Value) (w : D → DH → QD → Prop) : Prop :=
  UnR X f (fun x H Q => ∃ d h Q0, RD X.K H x d ∧ RH X.K C H h ∧ w d h Q0 ∧ ∀ r h', Q0 r h' → LQ X.K C H h Q r h')
def CallD (X : Cx) (C : CA) (f : Value) (w : List D → DH → QD → Prop) : Prop :=
  CallR X f (fun xs H Q => ∃ ds h Q0, RDs X.K H xs ds ∧ RH X.K C H h ∧ w ds h Q0 ∧ ∀ r h', Q0 r h' → LQ X.K C H h Q r h')

/-! ### data -/
mutual
inductive DPy (h : DH) : D → PyData → Prop
  | non : DPy h .non .none
  | bl (b : Bool) : DPy h (.bl b) (.bool b)
  | int (i : Int) : DPy h (.int i) (.int i)
  | str (x : Str) : DPy h (.str x) (.str x)
  | tup {ds : List D} {ps : List PyData} : DPys h ds ps → DPy h (.tup ds) (.tuple ps)
  | kt {ds : List D} {ps : List PyData} : DPys h ds ps → DPy h (.kt ds) (.tuple ps)
  | fl {ds : List D} {ps : List PyData} : DPys h ds ps → DPy h (.fl ds) (.list ps)
  | lst {a : Addr} {ds : List D} {ps : List PyData} : h a = some (.lst ds) → DPys h ds ps → DPy h (.ref a) (.list ps)
inductive DPys (h : DH) : List D → List PyData → Prop
  | nil : DPys h [] []
  | cons {d : D} {ds : List D} {p : PyData} {ps : List PyData} : DPy h d p → DPys h ds ps → DPys h (d :: ds) (p :: ps)
end
section
variable {K : PySem.W.Frag} {C : CA} {H : Hp} {h : DH}
mutual
theorem DPy.dp (rh : RH K C H h) : ∀ {d : D} {p : PyData} {v : V}, DPy h d p → RD K H v d → Dp K H v p
  | .non, _, _, .non, .non => .non
  | .bl _, _, _, .bl _, .bl _ => .bl _
  | .int _, _, _, .int _, .int _ => .int _
  | .str _, _, _, .str _, .str _ => .str _
  | .tup _, _, _, .tup a, .tup s r => .tup (.inl (.inl s)) (DPys.dp rh a r)
  | .kt _, _, _, .kt a, .kt s r => .tup s (DPys.dp rh a r)
  | .fl _, _, _, .fl a, .fl s r => .lst s.seq (DPys.dp rh a r)
  | .ref _, _, _, .lst e a, .ref _ => by
    obtain ⟨vs, h1, h2⟩ := rh _ _ e
    exact .lst (.inl (.inl h1)) (DPys.dp rh a h2)
theorem DPys.dp (rh : RH K C H h) : ∀ {ds : List D} {ps : List PyData} {vs : List V}, DPys h ds ps → RDs K H vs ds → DpAll K H vs ps
  | [], _, _, .nil, .nil => .nil
  | _ :: _, _, _, .cons a b, .cons r s => .cons (DPy.dp rh a r) (DPys.dp rh b s)
end
end
-- pure data
mutual
def toPy : D → PyData
  | .non => .none
  | .bl b => .bool b
  | .int i => .int i
  | .str x => .str x
  | .tup ds => .tuple (toPys ds)
  | .kt ds => .tuple (toPys ds)
  | .fl ds => .list (toPys ds)
  | .ref _ => .none
def toPys : List D → List PyData
  | [] => []
  | d :: ds => toPy d :: toPys ds
end
mutual
def pure? : D → Bool
  | .non => true
  | .bl _ => true
  | .int _ => true
  | .str _ => true
  | .tup ds => pures? ds
  | .kt ds => pures? ds
  | .fl ds => pures? ds
  | .ref _ => false
def pures? : List D → Bool
  | [] => true
  | d :: ds => pure? d && pures? ds
end
mutual
theorem DPy.of {h : DH} : ∀ d : D, pure? d = true → DPy h d (toPy d)
  | .non, _ => by rw [toPy]; exact .non
  | .bl b, _ => by rw [toPy]; exact .bl b
  | .int b, _ => by rw [toPy]; exact .int b
  | .str b, _ => by rw [toPy]; exact .str b
  | .tup ds, e => by rw [toPy]; exact .tup (DPys.of ds (by rw [pure?] at e; exact e))
  | .kt ds, e => by rw [toPy]; exact .kt (DPys.of ds (by rw [pure?] at e; exact e))
  | .fl ds, e => by rw [toPy]; exact .fl (DPys.of ds (by rw [pure?] at e; exact e))
  | .ref a, e => by rw [pure?] at e; cases e
theorem DPys.of {h : DH} : ∀ ds : List D, pures? ds = true → DPys h ds (toPys ds)
  | [], _ => by rw [toPys]; exact .nil
  | d :: ds, e => by
    rw [pures?, Bool.and_eq_true] at e
    rw [toPys]
    exact .cons (DPy.of d e.1) (DPys.of ds e.2)
end

/-! ### operators -/
def wAdd (x y : D) (h : DH) (Q : QD) : Prop := match x, y with
  | .int i, .int j => Q (.int (i + j)) h
  | .int i, .bl b => Q (.int (i + b2i b)) h
  | .bl b, .int i => Q (.int (b2i b + i)) h
  | .str i, .str j => i.length + j.length ≤ 16777216 ∧ Q (.str (i ++ j)) h
  | .tup xs, .tup ys => xs.length + ys.length ≤ 16777216 ∧ Q (.tup (xs ++ ys)) h
  | .ref a, .ref b => match h a, h b with
    | some (.lst xs), some (.lst ys) => xs.length + ys.length ≤ 16777216 ∧ ∀ p, h p = none → Q (.ref p) (up h p (.lst (xs ++ ys)))
    | _, _ => False
  | _, _ => False
def wI2 (C : Int → Int → Prop) (g : Int → Int → Int) (x y : D) (h : DH) (Q : QD) : Prop := match x, y with
  | .int i, .int j => C i j ∧ Q (.int (g i j)) h
  | _, _ => False
abbrev wSub := wI2 (fun _ _ => True) (fun i j => i - j)
def wSubX (x y : D) (h : DH) (Q : QD) : Prop := match x, y with
  | .int i, .int j => Q (.int (i - j)) h
  | .bl b, .int i => Q (.int (b2i b - i)) h
  | _, _ => False
def wMul (x y : D) (h : DH) (Q : QD) : Prop := match x, y with
  | .int i, .int j => CMul i j ∧ Q (.int (i * j)) h
  | .ref a, .int k => match h a with
    | some (.lst xs) => (-(2 ^ 63) ≤ k ∧ k < 2 ^ 63 ∧ xs.length * k.toNat ≤ 16777216) ∧ ∀ p, h p = none → Q (.ref p) (up h p (.lst (List.replicate k.toNat xs).flatten))
    | _ => False
  | _, _ => False
def CFdiv (i j : Int) : Prop := 0 < j ∧ j < 1073741824
abbrev wFdiv := wI2 CFdiv (fun i j => i / j)
abbrev wMod := wI2 (fun _ j => 0 < j) (fun i j => i % j)
abbrev wPow := wI2 CPow (fun i j => i ^ j.toNat)
abbrev wBAnd := wI2 (fun _ _ => True) Builtin.bitAnd
abbrev wShr := wI2 (fun _ j => 0 ≤ j) (fun i j => i / 2 ^ j.toNat)
def wBin (op : Operator) : D → D → DH → QD → Prop := match op with
  | .Add => wAdd
  | .Sub => wSubX
  | .Mult => wMul
  | .FloorDiv => wFdiv
  | .Mod => wMod
  | .Pow => wPow
  | .BitAnd => wBAnd
  | .RShift => wShr
  | _ => fun _ _ _ _ => False

section
variable {X : Cx} {C : CA}
theorem i2_ok {f : Value → Value → Sem Value} {P : Int → Int → Prop} {P' : Int → Int → Prop} {g : Int → Int → Int} (o : OpR X f (rI P' fun i j => .int (g i j))) (hp : ∀ i j, P i j → P' i j) : OpD X C f (wI2 P g) := by
  intro pins s σ H x y v u Q I rx ry ⟨d, e, h, Q0, rd, re, rh, hw, hq⟩
  unfold wI2 at hw
  split at hw
  · cases rd; cases re
    exact o pins s σ H _ _ v u Q I rx ry ⟨_, _, rfl, rfl, hp _ _ hw.1, (hq _ _ hw.2).here (.int _) rh⟩
  · exact hw.elim
theorem i2_ok0 {f : Value → Value → Sem Value} {g : Int → Int → Int} (o : OpR X f (rI0 fun i j => .int (g i j))) : OpD X C f (wI2 (fun _ _ => True) g) := by
  intro pins s σ H x y v u Q I rx ry ⟨d, e, h, Q0, rd, re, rh, hw, hq⟩
  unfold wI2 at hw
  split at hw
  · cases rd; cases re
    exact o pins s σ H _ _ v u Q I rx ry ⟨_, _, rfl, rfl, (hq _ _ hw.2).here (.int _) rh⟩
  · exact hw.elim
theorem add_ok : OpD X C (binaryOp .Add) wAdd := by
  intro pins s σ H x y v u Q I rx ry ⟨d, e, h, Q0, rd, re, rh, hw, hq⟩
  have hs := sizeLine_eq
  unfold wAdd at hw
  split at hw
  · cases rd; cases re
    exact op_add pins s σ H _ _ v u Q I rx ry ⟨_, _, rfl, rfl, (hq _ _ hw).here (.int _) rh⟩
  · cases rd; cases re
    exact op_add_ib pins s σ H _ _ v u Q I rx ry ⟨_, _, rfl, rfl, (hq _ _ hw).here (.int _) rh⟩
  · cases rd; cases re
    exact op_bi_add pins s σ H _ _ v u Q I rx ry ⟨_, _, rfl, rfl, (hq _ _ hw).here (.int _) rh⟩
  · cases rd; cases re
    exact op_add_str pins s σ H _ _ v u Q I rx ry ⟨_, _, rfl, rfl, by omega, (hq _ _ hw.2).here (.str _) rh⟩
  · cases rd with
    | tup s1 r1 =>
      cases re with
      | tup s2 r2 =>
        have l1 := r1.length
        have l2 := r2.length
        refine op_catA pins s σ H _ _ v u Q I rx ry ⟨_, _, _, _, rfl, rfl, .inl (.inl s1), .inl (.inl s2), by omega, ?_⟩
        have fin : ∀ p, H p = none → ∀ zs, RDs X.K H zs _ → Q (.ref p) (upd H p (.tup zs)) := fun p hp zs rz =>
          (hq _ _ hw.2) (.ref p) _ (Ste.side hp) (.tup upd_same (rz.le (Le.new hp))) (rh.side hp)
        have q2 := (hq _ _ hw.2)
        refine ⟨fun e0 => ?_, fun _ e0 => ?_, fun _ _ p hp => fin p hp _ (r1.append r2)⟩
        · have e1 := (r1.nil_iff).mp e0
          subst e1
          exact q2.here (.tup s2 r2) rh
        · have e1 := (r2.nil_iff).mp e0
          subst e1
          rw [List.append_nil] at q2
          exact q2.here (.tup s1 r1) rh
  · cases rd; cases re
    split at hw
    · rename_i a b xs ys ha hb
      obtain ⟨vs, h1, r1⟩ := rh _ _ ha
      obtain ⟨ws, h2, r2⟩ := rh _ _ hb
      have l1 := r1.length
      have l2 := r2.length
      refine op_cat pins s σ H _ _ v u Q I rx ry ⟨_, _, _, _, rfl, rfl, h1, h2, by omega, fun p hp => ?_⟩
      exact (hq _ _ (hw.2 p (rh.free hp))) (.ref p) _ (Ste.new hp) (.ref p) (rh.new hp ⟨_, upd_same, (r1.append r2).le (Le.new hp)⟩)
    · exact hw.elim
  · exact hw.elim
theorem sub_ok : OpD X C (binaryOp .Sub) wSubX := by
  intro pins s σ H x y v u Q I rx ry ⟨d, e, h, Q0, rd, re, rh, hw, hq⟩
  unfold wSubX at hw
  split at hw
  · cases rd; cases re
    exact op_sub pins s σ H _ _ v u Q I rx ry ⟨_, _, rfl, rfl, (hq _ _ hw).here (.int _) rh⟩
  · cases rd; cases re
    exact op_bi_sub pins s σ H _ _ v u Q I rx ry ⟨_, _, rfl, rfl, (hq _ _ hw).here (.int _) rh⟩
  · exact hw.elim
theorem RDs.rep {K : PySem.W.Frag} {H : Hp} {vs : List V} {ds : List D} (r : RDs K H vs ds) : ∀ n : Nat, RDs K H (List.replicate n vs).flatten (List.replicate n ds).flatten
  | 0 => .nil
  | n + 1 => by
    rw [List.replicate_succ, List.replicate_succ, List.flatten_cons, List.flatten_cons]
    exact r.append (r.rep n)
theorem mul_ok : OpD X C (binaryOp .Mult) wMul := by
  intro pins s σ H x y v u Q I rx ry ⟨d, e, h, Q0, rd, re, rh, hw, hq⟩
  have hs := sizeLine_eq
  unfold wMul at hw
  split at hw
  · cases rd; cases re
    exact op_mul pins s σ H _ _ v u Q I rx ry ⟨_, _, rfl, rfl, hw.1, (hq _ _ hw.2).here (.int _) rh⟩
  · cases rd; cases re
    split at hw
    · rename_i a k _ xs ha
      obtain ⟨vs, h1, r1⟩ := rh _ _ ha
      have l1 := r1.length
      refine op_rep pins s σ H _ _ v u Q I rx ry ⟨_, _, _, rfl, rfl, h1, hw.1.1, hw.1.2.1, by rw [l1, hs]; exact hw.1.2.2, fun p hp => ?_⟩
      exact (hq _ _ (hw.2 p (rh.free hp))) (.ref p) _ (Ste.new hp) (.ref p) (rh.new hp ⟨_, upd_same, (r1.rep _).le (Le.new hp)⟩)
    · exact hw.elim
  · exact hw.elim
theorem bin_ok : ∀ op : Operator, OpD X C (binaryOp op) (wBin op)
  | .Add => add_ok
  | .Sub => sub_ok
  | .Mult => mul_ok
  | .FloorDiv => i2_ok (P' := CDiv) op_fdiv fun _ _ h => h
  | .Mod => i2_ok op_mod fun _ _ h => h
  | .Pow => i2_ok op_pow fun _ _ h => h
  | .BitAnd => i2_ok0 op_and
  | .RShift => i2_ok op_shr fun _ _ h => h
  | .MatMult | .Div | .LShift | .BitOr | .BitXor => by
    all_goals
      intro pins s σ H x y v u Q I rx ry ⟨d, e, h, Q0, rd, re, rh, hw, hq⟩
      exact hw.elim
theorem ibin_ok : OpD X C (inplaceOp .Add) (wI2 (fun _ _ => True) (fun i j => i + j)) := i2_ok0 iop_add
theorem isub_ok : OpD X C (inplaceOp .Sub) wSub := i2_ok0 iop_sub
end
end DL

/-! DL, part C: comparisons, subscripts, slices, stores, by values -/
namespace DL
open PySem PySem.Spec PyProof.Rows L2

/-! ### comparisons -/
def wEqG (neg : Bool) (x y : D) (h : DH) (Q : QD) : Prop := ∃ d e, DPy h x d ∧ DPy h y e ∧ SeqAt.shaped d = true ∧ SeqAt.shaped e = true ∧ Q (.bl (neg ^^ PyData.eqv d e)) h
def wEq (neg : Bool) (x y : D) (h : DH) (Q : QD) : Prop := match x, y with
  | .int i, .int j => Q (.bl (neg ^^ decide (i = j))) h
  | .str i, .str j => Q (.bl (neg ^^ decide (i = j))) h
  | .bl i, .bl j => Q (.bl (neg ^^ decide (i = j))) h
  | .tup xs, .tup [] => Q (.bl (neg ^^ xs.isEmpty)) h
  | x, y => wEqG neg x y h Q
/-- ints, or data that are alike -/
def wLt (x y : D) (h : DH) (Q : QD) : Prop := match x, y with
  | .int i, .int j => Q (.bl (decide (i < j))) h
  | x, y => ∃ d e, DPy h x d ∧ DPy h y e ∧ PySem.W.alike d e = true ∧ d ≠ .none ∧ min d.depth e.depth ≤ 60 ∧ Q (.bl (PySem.W.dataLt d e)) h
def wCI (p : Int → Int → Bool) (x y : D) (h : DH) (Q : QD) : Prop := match x, y with
  | .int i, .int j => Q (.bl (p i j)) h
  | _, _ => False
def flatD : D → Bool
  | .non => true
  | .bl _ => true
  | .int _ => true
  | .str _ => true
  | _ => false
def eqD : D → D → Bool
  | .non, .non => true
  | .bl a, .bl b => a == b
  | .bl a, .int b => (if a then 1 else 0) == b
  | .int a, .bl b => a == (if b then 1 else 0)
  | .int a, .int b => a == b
  | .str a, .str b => a == b
  | _, _ => false
def inD (x : D) (xs : List D) : Bool := xs.any fun y => eqD y x
def keyD : Key → D
  | .inl i => .int i
  | .inr x => .str x
def asKey : D → Option Key
  | .int i => some (.inl i)
  | .str x => some (.inr x)
  | _ => none
def asKeys : List D → Option (List Key)
  | [] => some []
  | d :: ds => match asKey d, asKeys ds with
    | some k, some ks => some (k :: ks)
    | _, _ => none
/-- what a dict holds under a key -/
def dlook (h : DH) (a : Addr) (k : D) : Option (Option D) := match h a with
  | some (.dK kvs) => (asKey k).map (dget kvs)
  | some (.dT kvs) => match k with
    | .tup ds => (asKeys ds).map (dget kvs)
    | _ => none
  | _ => none
def wIn (neg : Bool) (x y : D) (h : DH) (Q : QD) : Prop := match y with
  | .tup ys => flatD x = true ∧ ys.all flatD = true ∧ Q (.bl (neg ^^ inD x ys)) h
  | .kt ys => flatD x = true ∧ ys.all flatD = true ∧ Q (.bl (neg ^^ inD x ys)) h
  | .str j => match x with
    | .str i => Q (.bl (neg ^^ !(Builtin.Str.occurrences j i 0 j.length 1).isEmpty)) h
    | _ => False
  | .ref a => match h a with
    | some (.lst _) => ∃ d ds, DPy h x d ∧ DPy h (.ref a) (.list ds) ∧ SeqAt.shaped d = true ∧ SeqAt.shaped (.list ds) = true ∧ Q (.bl (neg ^^ ds.any fun z => PyData.eqv z d)) h
    | some (.dK _) | some (.dT _) => match dlook h a x with
      | some o => Q (.bl (neg ^^ o.isSome)) h
      | none => False
    | _ => False
  | _ => False
def isNon : D → Bool
  | .non => true
  | _ => false
def wIs (neg : Bool) (x y : D) (h : DH) (Q : QD) : Prop := match x, y with
  | .bl a, .bl b => Q (.bl (neg ^^ decide (a = b))) h
  | x, .non => Q (.bl (neg ^^ isNon x)) h
  | _, _ => False
def wCmp (op : CmpOp) : D → D → DH → QD → Prop := match op with
  | .Eq => wEq false
  | .NotEq => wEq true
  | .Lt => wLt
  | .LtE => wCI fun i j => decide (i ≤ j)
  | .Gt => wCI fun i j => decide (j < i)
  | .GtE => wCI fun i j => decide (j ≤ i)
  | .In => wIn false
  | .NotIn => wIn true
  | .Is => wIs false
  | .IsNot => wIs true

section
variable {X : Cx} {C : CA}
theorem nx_t (b : Bool) : (true ^^ b) = !b := by cases b <;> rfl
theorem nx_f (b : Bool) : (false ^^ b) = b := by cases b <;> rfl
theorem eqG_ok (hu : X.A.units + 64 < cLine) : ∀ neg, OpD X C (compareOp (if neg = true then .NotEq else .Eq)) (wEqG neg) := by
  intro neg pins s σ H x y v u Q I rx ry ⟨d, e, h, Q0, rd, re, rh, ⟨p, q, hp, hq', s1, s2, hw⟩, hq⟩
  cases neg with
  | true => exact op_neD hu pins s σ H _ _ v u Q I rx ry ⟨p, q, hp.dp rh rd, hq'.dp rh re, s1, s2, by rw [← nx_t]; exact (hq _ _ hw).here (.bl _) rh⟩
  | false => exact op_eqD hu pins s σ H _ _ v u Q I rx ry ⟨p, q, hp.dp rh rd, hq'.dp rh re, s1, s2, by rw [← nx_f (PyData.eqv p q)]; exact (hq _ _ hw).here (.bl _) rh⟩
/-- a tuple of whatever there is, held against the tuple of none -/
theorem eqT0_ok (hu : X.A.units + 64 < cLine) {pins : List (Addr × Obj)} {σ : L2.St} {s : Shared} {H : Hp} {x y : V} {v u : Value} {xs : List D} {Q : V → Hp → Prop} (I : Inv X pins σ H s) (rx : RelV x v) (ry : RelV y u) (rd : RD X.K H x (.tup xs)) (re : RD X.K H y (.tup []))
    (neg : Bool) (q : Q (.bl (neg ^^ xs.isEmpty)) H) : wpAny (model X.prog X.w) X.A (compareOp (if neg = true then .NotEq else .Eq) v u) (EP X pins σ Q) X.xe s := by
  cases rd with
  | tup h1 h2 =>
    cases re with
    | tup h3 h4 =>
      cases h4
      cases rx
      cases ry
      obtain ⟨its, rv, ⟨o, ho, hc, n, hd⟩, _⟩ := I.tuple (.inl (.inl h1))
      obtain ⟨its2, rv2, ⟨o2, ho2, hc2, n2, hd2⟩, _⟩ := I.tuple (.inl (.inl h3))
      cases rv2
      have l : xs.isEmpty = its.isEmpty := by
        have e1 := h2.length
        have e2 := rv.length
        cases xs <;> cases its <;> simp_all
      rw [l] at q
      have hl : s.heap.IsTuple _ its.toArray := ⟨_, ho, hc, _, hd⟩
      have hl2 : s.heap.IsTuple _ ([] : List Value).toArray := ⟨_, ho2, hc2, _, hd2⟩
      have e : (((List.range (min its.toArray.size ([] : List Value).toArray.size)).all fun _ => true) && its.toArray.size == ([] : List Value).toArray.size) = its.isEmpty := by
        cases its <;> simp
      cases neg with
      | true =>
        refine SeqAt.RcNeAt.tuples (e := fun _ => true) hl hl2 (by omega) (fun j h1 h2 => absurd h2 (by simp)) X.prog X.w X.xe _ ?_
        rw [e]
        exact ⟨.bl _, H, I, rfl, by rw [← nx_t]; exact q⟩
      | false =>
        refine SeqAt.RcAt.tuples (e := fun _ => true) hl hl2 (by omega) (fun j h1 h2 => absurd h2 (by simp)) X.prog X.w X.xe _ ?_
        rw [e]
        exact ⟨.bl _, H, I, rfl, by rw [← nx_f its.isEmpty]; exact q⟩
theorem eq_ok (hu : X.A.units + 64 < cLine) : ∀ neg, OpD X C (compareOp (if neg = true then .NotEq else .Eq)) (wEq neg) := by
  intro neg pins s σ H x y v u Q I rx ry ⟨d, e, h, Q0, rd, re, rh, hw, hq⟩
  unfold wEq at hw
  split at hw
  · cases rd; cases re
    cases neg with
    | true => exact op_ne pins s σ H _ _ v u Q I rx ry ⟨rfl, by have z := (hq _ _ hw).here (.bl _) rh; rw [nx_t] at z; simpa using z⟩
    | false => exact op_eq pins s σ H _ _ v u Q I rx ry ⟨rfl, by have z := (hq _ _ hw).here (.bl _) rh; rw [nx_f] at z; simpa using z⟩
  · cases rd; cases re
    cases neg with
    | true => exact op_ne pins s σ H _ _ v u Q I rx ry ⟨rfl, by have z := (hq _ _ hw).here (.bl _) rh; rw [nx_t] at z; simpa using z⟩
    | false => exact op_eq pins s σ H _ _ v u Q I rx ry ⟨rfl, by have z := (hq _ _ hw).here (.bl _) rh; rw [nx_f] at z; simpa using z⟩
  · cases rd; cases re
    cases neg with
    | true => exact op_ne pins s σ H _ _ v u Q I rx ry ⟨rfl, by have z := (hq _ _ hw).here (.bl _) rh; rw [nx_t] at z; simpa using z⟩
    | false => exact op_eq pins s σ H _ _ v u Q I rx ry ⟨rfl, by have z := (hq _ _ hw).here (.bl _) rh; rw [nx_f] at z; simpa using z⟩
  · exact eqT0_ok hu I rx ry rd re neg ((hq _ _ hw).here (.bl _) rh)
  · exact eqG_ok hu neg pins s σ H x y v u Q I rx ry ⟨d, e, h, Q0, rd, re, rh, hw, hq⟩
theorem lt_ok (hu : X.A.units + 64 < cLine) : OpD X C (compareOp .Lt) wLt := by
  intro pins s σ H x y v u Q I rx ry ⟨d, e, h, Q0, rd, re, rh, hw, hq⟩
  unfold wLt at hw
  split at hw
  · cases rd; cases re
    exact op_lt pins s σ H _ _ v u Q I rx ry ⟨_, _, rfl, rfl, (hq _ _ hw).here (.bl _) rh⟩
  · obtain ⟨p, q, hp, hq', al, nn, dp, hw⟩ := hw
    obtain ⟨as, r1⟩ := Dp.reads I p x v (hp.dp rh rd) rx
    obtain ⟨bs, r2⟩ := Dp.reads I q y u (hq'.dp rh re) ry
    have z := PySem.W.rcLt_alike p q X.A s v u as bs r1 r2 al nn (by omega) X.prog X.w X.xe (EP X pins σ Q) ⟨.bl _, H, I, rfl, (hq _ _ hw).here (.bl _) rh⟩
    exact z
theorem ci_ok {op : CmpOp} {p : Int → Int → Bool} (o : OpR X (compareOp op) (rI0 fun i j => .bl (p i j))) : OpD X C (compareOp op) (wCI p) := by
  intro pins s σ H x y v u Q I rx ry ⟨d, e, h, Q0, rd, re, rh, hw, hq⟩
  unfold wCI at hw
  split at hw
  · cases rd; cases re
    exact o pins s σ H _ _ v u Q I rx ry ⟨_, _, rfl, rfl, (hq _ _ hw).here (.bl _) rh⟩
  · exact hw.elim
theorem RD.flat {K : PySem.W.Frag} {H : Hp} {d : D} {v : V} (r : RD K H v d) (f : flatD d = true) : flatV v = true := by
  cases r <;> first | rfl | exact absurd f Bool.false_ne_true
theorem RDs.flat {K : PySem.W.Frag} {H : Hp} : ∀ {ds : List D} {vs : List V}, RDs K H vs ds → ds.all flatD = true → vs.all flatV = true
  | _, _, .nil, _ => rfl
  | _, _, .cons a b, f => by
    rw [List.all_cons, Bool.and_eq_true] at f ⊢
    exact ⟨a.flat f.1, b.flat f.2⟩
theorem RD.eqV {K : PySem.W.Frag} {H : Hp} {d e : D} {v w : V} (r : RD K H v d) (q : RD K H w e) (f : flatD d = true) (g : flatD e = true) : L2.eqV v w = eqD d e := by
  cases r <;> first | exact absurd f Bool.false_ne_true | (cases q <;> first | rfl | exact absurd g Bool.false_ne_true)
theorem RDs.inV {K : PySem.W.Frag} {H : Hp} {d : D} {v : V} (r : RD K H v d) (f : flatD d = true) : ∀ {ds : List D} {vs : List V}, RDs K H vs ds → ds.all flatD = true → L2.inV v vs = inD d ds
  | _, _, .nil, _ => rfl
  | _, _, .cons a b, g => by
    rw [List.all_cons, Bool.and_eq_true] at g
    have ih := RDs.inV r f b g.2
    unfold L2.inV inD at ih ⊢
    rw [List.any_cons, List.any_cons, ih, a.eqV r g.1 f]
theorem keyD_rd {K : PySem.W.Frag} {H : Hp} {d : D} {v : V} {k : Key} (r : RD K H v d) (e : asKey d = some k) : v = kV k := by
  cases r <;> simp [asKey] at e <;> subst e <;> rfl
theorem keysD_rd {K : PySem.W.Frag} {H : Hp} : ∀ {ds : List D} {vs : List V} {ks : List Key}, RDs K H vs ds → asKeys ds = some ks → vs = ks.map kV
  | _, _, ks, .nil, e => by
    have e' : some ([] : List Key) = some ks := e
    cases e'; rfl
  | d :: ds, _, ks, .cons a b, e => by
    unfold asKeys at e
    split at e
    · rename_i k ks' h1 h2
      cases e
      rw [keyD_rd a h1, keysD_rd b h2]; rfl
    · cases e
theorem dlook_get {K : PySem.W.Frag} {H : Hp} {h : DH} {a : Addr} {k : D} {o : Option D} {v : V} (rh : RH K C H h) (r : RD K H v k) (e : dlook h a k = some o) :
    ∃ r', DGet H a v r' ∧ (∀ d, o = some d → ∃ x, r' = some x ∧ RD K H x d) ∧ (o = none → r' = none) := by
  unfold dlook at e
  split at e
  · rename_i kvs ha
    obtain ⟨gs, h1, r1⟩ := rh _ _ ha
    cases hk : asKey k with
    | none => rw [hk] at e; cases e
    | some kk =>
      rw [hk] at e
      cases e
      rw [keyD_rd r hk]
      exact ⟨_, .k h1, fun d q => by obtain ⟨x, hx, rx⟩ := (RPs.get (k := kk) r1).1 d q; exact ⟨x, hx, rx⟩, (RPs.get (k := kk) r1).2⟩
  · rename_i kvs ha
    obtain ⟨gs, h1, r1⟩ := rh _ _ ha
    split at e
    · rename_i ds
      cases r with
      | @tup b vs _ hb rv =>
        cases hk : asKeys ds with
        | none => rw [hk] at e; cases e
        | some kk =>
          rw [hk] at e
          cases e
          rw [keysD_rd rv hk] at hb
          exact ⟨_, .t h1 hb, fun d q => by obtain ⟨x, hx, rx⟩ := (RPs.get (k := kk) r1).1 d q; exact ⟨x, hx, rx⟩, (RPs.get (k := kk) r1).2⟩
    · cases e
  · cases e
end
end DL

namespace DL
open PySem PySem.Spec PyProof.Rows L2
section
variable {X : Cx} {C : CA}
theorem d_inR (hu : X.A.units + 1 < cLine) : OpR X (compareOp .In) (fun y x H Q => ∃ a o, x = .ref a ∧ DGet H a y o ∧ Q (.bl o.isSome) H) := by
  intro pins s σ H y x iv u Q I ry rx ⟨a, o, ex, g, q⟩
  subst ex
  cases rx
  exact d_in hu I g ry fun s3 I3 => ⟨.bl o.isSome, H, I3, rfl, q⟩
theorem d_notInR (hu : X.A.units + 1 < cLine) : OpR X (compareOp .NotIn) (fun y x H Q => ∃ a o, x = .ref a ∧ DGet H a y o ∧ Q (.bl (!o.isSome)) H) := by
  intro pins s σ H y x iv u Q I ry rx ⟨a, o, ex, g, q⟩
  subst ex
  cases rx
  exact d_notIn hu I g ry fun s3 I3 => ⟨.bl (!o.isSome), H, I3, rfl, q⟩
theorem some_eq {o : Option D} {r : Option V} {K : PySem.W.Frag} {H : Hp} (h1 : ∀ d, o = some d → ∃ x, r = some x ∧ RD K H x d) (h2 : o = none → r = none) : r.isSome = o.isSome := by
  cases o with
  | none => rw [h2 rfl]; rfl
  | some d => obtain ⟨x, e, _⟩ := h1 d rfl; rw [e]; rfl
theorem in_ok (hu : X.A.units + 65 < cLine) : ∀ neg, OpD X C (compareOp (if neg = true then .NotIn else .In)) (wIn neg) := by
  intro neg pins s σ H x y v u Q I rx ry ⟨d, e, h, Q0, rd, re, rh, hw, hq⟩
  unfold wIn at hw
  have tupc : ∀ {p : Addr} {vs : List V} {ys : List D}, y = .ref p → SqT X.K H p vs → RDs X.K H vs ys → flatD d = true ∧ ys.all flatD = true ∧ Q0 (.bl (neg ^^ inD d ys)) h →
      wpAny (model X.prog X.w) X.A (compareOp (if neg = true then .NotIn else .In) v u) (EP X pins σ Q) X.xe s := by
    intro p vs ys ey sq r hw
    subst ey
    obtain ⟨f1, f2, hw⟩ := hw
    have z := (hq _ _ hw).here (.bl _) rh
    have e1 := RDs.inV rd f1 r f2
    cases neg with
    | true => exact op_notIn_seq pins s σ H _ _ v u Q I rx ry ⟨_, _, rfl, .inr sq, rd.flat f1, r.flat f2, by rw [nx_t] at z; simpa [e1] using z⟩
    | false => exact op_in_seq pins s σ H _ _ v u Q I rx ry ⟨_, _, rfl, .inr sq, rd.flat f1, r.flat f2, by rw [nx_f] at z; simpa [e1] using z⟩
  split at hw
  · cases re with
    | tup s1 r1 => exact tupc rfl (.inl (.inl s1)) r1 hw
  · cases re with
    | kt s1 r1 => exact tupc rfl s1 r1 hw
  · split at hw
    · cases rd; cases re
      have z := (hq _ _ hw).here (.bl _) rh
      cases neg with
      | true => exact L2.op_notin_str pins s σ H _ _ v u Q I rx ry ⟨_, _, rfl, rfl, by rw [nx_t] at z; exact z⟩
      | false => exact op_in_str pins s σ H _ _ v u Q I rx ry ⟨_, _, rfl, rfl, by rw [nx_f] at z; exact z⟩
    · exact hw.elim
  · cases re
    split at hw
    · obtain ⟨p, ps, h1, h2, s1, s2, hw⟩ := hw
      have z := (hq _ _ hw).here (.bl _) rh
      cases neg with
      | true => exact op_notInD hu pins s σ H _ _ v u Q I rx ry ⟨p, ps, h1.dp rh rd, h2.dp rh (.ref _), s1, s2, by rw [nx_t] at z; exact z⟩
      | false => exact op_inD hu pins s σ H _ _ v u Q I rx ry ⟨p, ps, h1.dp rh rd, h2.dp rh (.ref _), s1, s2, by rw [nx_f] at z; exact z⟩
    · split at hw
      · rename_i o ho
        obtain ⟨r, g, g1, g2⟩ := dlook_get rh rd ho
        have z := (hq _ _ hw).here (.bl _) rh
        rw [← some_eq g1 g2] at z
        cases neg with
        | true => exact d_notInR (by omega) pins s σ H _ _ v u Q I rx ry ⟨_, _, rfl, g, by rw [nx_t] at z; exact z⟩
        | false => exact d_inR (by omega) pins s σ H _ _ v u Q I rx ry ⟨_, _, rfl, g, by rw [nx_f] at z; exact z⟩
      · exact hw.elim
    · split at hw
      · rename_i o ho
        obtain ⟨r, g, g1, g2⟩ := dlook_get rh rd ho
        have z := (hq _ _ hw).here (.bl _) rh
        rw [← some_eq g1 g2] at z
        cases neg with
        | true => exact d_notInR (by omega) pins s σ H _ _ v u Q I rx ry ⟨_, _, rfl, g, by rw [nx_t] at z; exact z⟩
        | false => exact d_inR (by omega) pins s σ H _ _ v u Q I rx ry ⟨_, _, rfl, g, by rw [nx_f] at z; exact z⟩
      · exact hw.elim
    · exact hw.elim
  · exact hw.elim
theorem is_ok : ∀ neg, OpD X C (compareOp (if neg = true then .IsNot else .Is)) (wIs neg) := by
  intro neg pins s σ H x y v u Q I rx ry ⟨d, e, h, Q0, rd, re, rh, hw, hq⟩
  unfold wIs at hw
  split at hw
  · cases rd; cases re
    have z := (hq _ _ hw).here (.bl _) rh
    cases neg with
    | true => exact op_notBl pins s σ H _ _ v u Q I rx ry ⟨_, _, rfl, rfl, by rw [nx_t] at z; exact z⟩
    | false => exact op_isBl pins s σ H _ _ v u Q I rx ry ⟨_, _, rfl, rfl, by rw [nx_f] at z; exact z⟩
  · cases re
    have z := (hq _ _ hw).here (.bl _) rh
    have e1 : decide (x = V.non) = isNon d := by cases rd <;> rfl
    cases neg with
    | true => exact op_notN pins s σ H _ _ v u Q I rx ry ⟨rfl, by rw [nx_t] at z; rw [e1]; exact z⟩
    | false => exact op_isN pins s σ H _ _ v u Q I rx ry ⟨rfl, by rw [nx_f] at z; rw [e1]; exact z⟩
  · exact hw.elim
theorem cmp_ok (hu : X.A.units + 65 < cLine) : ∀ op : CmpOp, OpD X C (compareOp op) (wCmp op)
  | .Eq => eq_ok (by omega) false
  | .NotEq => eq_ok (by omega) true
  | .Lt => lt_ok (by omega)
  | .LtE => ci_ok op_le
  | .Gt => ci_ok op_gt
  | .GtE => ci_ok op_ge
  | .In => in_ok hu false
  | .NotIn => in_ok hu true
  | .Is => is_ok false
  | .IsNot => is_ok true
def wNeg (d : D) (h : DH) (Q : QD) : Prop := match d with
  | .int i => Q (.int (-i)) h
  | _ => False
theorem neg_ok : UnD X C (unaryOp .USub) wNeg := by
  intro pins s σ H x v Q I rx ⟨d, h, Q0, rd, rh, hw, hq⟩
  unfold wNeg at hw
  split at hw
  · cases rd
    exact un_neg pins s σ H _ v Q I rx ⟨_, rfl, (hq _ _ hw).here (.int _) rh⟩
  · exact hw.elim
end
end DL

namespace DL
open PySem PySem.Spec PyProof.Rows L2
/-! ### subscripts, slices, stores by values -/
def wAt (xs : List D) (y : D) (h : DH) (Q : QD) : Prop := match y with
  | .int i => match atI xs i with
    | some v => Q v h
    | none => False
  | _ => False
def wKey (h : DH) (a : Addr) (y : D) (Q : QD) : Prop := match dlook h a y with
  | some (some v) => Q v h
  | _ => False
def wIdx (x y : D) (h : DH) (Q : QD) : Prop := match x with
  | .tup xs => wAt xs y h Q
  | .kt xs => wAt xs y h Q
  | .fl xs => wAt xs y h Q
  | .str z => match y with
    | .int i => z.length ≤ 16777216 ∧ match atI z.cps.toList i with
      | some c => Q (.str ⟨#[c]⟩) h
      | none => False
    | _ => False
  | .ref a => match h a with
    | some (.lst xs) => wAt xs y h Q
    | some (.dK _) => wKey h a y Q
    | some (.dT _) => wKey h a y Q
    | _ => False
  | _ => False
def wSet (x y v : D) (h : DH) (Q : DH → Prop) : Prop := match x with
  | .ref a => match h a with
    | some (.lst xs) => match y with
      | .int i => match ixN xs.length i with
        | some j => Q (up h a (.lst (xs.set j v)))
        | none => False
      | _ => False
    | some (.dK kvs) => match asKey y with
      | some k => kvs.length < 16777216 ∧ Q (up h a (.dK (dput kvs k v)))
      | none => False
    | some (.dT kvs) => match y with
      | .tup ds => match asKeys ds with
        | some k => kvs.length < 16777216 ∧ Q (up h a (.dT (dput kvs k v)))
        | none => False
      | _ => False
    | _ => False
  | _ => False
def cutD {α : Type} (xs : List α) (lo hi : Option Int) : List α := (xs.drop (HT.sIx xs.length 0 lo)).take (HT.sIx xs.length xs.length hi - HT.sIx xs.length 0 lo)
def wSlc (x : D) (lo hi : Option Int) (h : DH) (Q : QD) : Prop := match x with
  | .tup xs => Q (.tup (cutD xs lo hi)) h
  | .fl xs => ∀ p, h p = none → Q (.ref p) (up h p (.lst (cutD xs lo hi)))
  | .str z => z.length ≤ 16777216 ∧ Q (.str (cutS z lo hi)) h
  | .ref a => match h a with
    | some (.lst xs) => ∀ p, h p = none → Q (.ref p) (up h p (.lst (cutD xs lo hi)))
    | _ => False
  | _ => False
section
variable {X : Cx} {C : CA}
theorem RDs.atI {K : PySem.W.Frag} {H : Hp} {vs : List V} {ds : List D} {i : Int} {d : D} (r : RDs K H vs ds) (e : L2.atI ds i = some d) : ∃ v, L2.atI vs i = some v ∧ RD K H v d := by
  unfold L2.atI at e ⊢
  rw [r.length]
  cases q : ixN ds.length i with
  | none => rw [q] at e; cases e
  | some j =>
    rw [q] at e
    exact r.get e
theorem ix_dict (hu : X.A.units + 1 < cLine) : IxR X (fun x y H Q => ∃ a v, x = .ref a ∧ DGet H a y (some v) ∧ Q v H) := by
  intro value slice pins s σ H x y v u Q I rx ry ⟨a, w, ex, g, q⟩ hs
  subst ex
  cases rx
  have hT := dict_typeIs I g
  unfold subscriptTail
  refine wpAny_bind ?_
  rw [getitemInPython_of_ne hT.not_modules]
  refine wpAny_bind (wpAny_specialOf hT PySem.F.slot_dict_getitem.lookup ?_)
  have fin : wpAny (model X.prog X.w) X.A (subscripted slice false (.ref a) u) (fun r s₃ => wpAny (model X.prog X.w) X.A (letTemporaryGo value (.ref a) r >>= fun _ => pure r) (EP X pins σ Q) X.xe s₃) X.xe s := by
    rw [hs]
    exact wpAny_operating (d_getItem hu I g ry fun w' s3 I3 rw' => wpAny_bind (wpAny_letTemporaryGo (wpAny_pure ⟨w, H, I3, rw', q⟩)))
  first
    | exact wpAny_pure (wpAny_bind fin)
    | exact wpAny_bind (wpAny_pure (wpAny_bind fin))
    | exact wpAny_bind fin
def IxD (X : Cx) (C : CA) (w : D → D → DH → QD → Prop) : Prop :=
  IxR X (fun x y H Q => ∃ d e h Q0, RD X.K H x d ∧ RD X.K H y e ∧ RH X.K C H h ∧ w d e h Q0 ∧ ∀ r h', Q0 r h' → LQ X.K C H h Q r h')
theorem idx_ok (hu : X.A.units + 1 < cLine) : IxD X C wIdx := by
  intro value slice pins s σ H x y v u Q I rx ry ⟨d, e, h, Q0, rd, re, rh, hw, hq⟩ hs
  have hz := sizeLine_eq
  unfold wIdx at hw
  have tup : ∀ {p : Addr} {vs : List V} {ys : List D}, x = .ref p → SqT X.K H p vs → RDs X.K H vs ys → wAt ys e h Q0 →
      wpAny (model X.prog X.w) X.A (subscriptTail value slice v u) (EP X pins σ Q) X.xe s := by
    intro p vs ys ex sq r hw
    subst ex
    unfold wAt at hw
    split at hw
    · cases re
      split at hw
      · rename_i i w e1
        obtain ⟨z, e2, rz⟩ := r.atI e1
        exact ix_tup value slice pins s σ H _ _ v u Q I rx ry ⟨_, _, _, _, rfl, rfl, sq, e2, (hq _ _ hw).here rz rh⟩ hs
      · exact hw.elim
    · exact hw.elim
  have lst : ∀ {p : Addr} {vs : List V} {ys : List D}, x = .ref p → SqL X.K H p vs → RDs X.K H vs ys → wAt ys e h Q0 →
      wpAny (model X.prog X.w) X.A (subscriptTail value slice v u) (EP X pins σ Q) X.xe s := by
    intro p vs ys ex sq r hw
    subst ex
    unfold wAt at hw
    split at hw
    · cases re
      split at hw
      · rename_i i w e1
        obtain ⟨z, e2, rz⟩ := r.atI e1
        exact ix_list value slice pins s σ H _ _ v u Q I rx ry ⟨_, _, _, _, rfl, rfl, sq, e2, (hq _ _ hw).here rz rh⟩ hs
      · exact hw.elim
    · exact hw.elim
  have dct : ∀ {p : Addr}, x = .ref p → wKey h p e Q0 →
      wpAny (model X.prog X.w) X.A (subscriptTail value slice v u) (EP X pins σ Q) X.xe s := by
    intro p ex hw
    subst ex
    unfold wKey at hw
    split at hw
    · rename_i w e1
      obtain ⟨r, g, g1, g2⟩ := dlook_get rh re e1
      obtain ⟨z, e2, rz⟩ := g1 _ rfl
      subst e2
      exact ix_dict hu value slice pins s σ H _ _ v u Q I rx ry ⟨_, _, rfl, g, (hq _ _ hw).here rz rh⟩ hs
    · exact hw.elim
  split at hw
  · cases rd with
    | tup s1 r1 => exact tup rfl (.inl (.inl s1)) r1 hw
  · cases rd with
    | kt s1 r1 => exact tup rfl s1 r1 hw
  · cases rd with
    | fl s1 r1 => exact lst rfl s1.seq r1 hw
  · cases rd
    split at hw
    · cases re
      obtain ⟨h1, hw⟩ := hw
      split at hw
      · rename_i i c e1
        exact ix_str value slice pins s σ H _ _ v u Q I rx ry ⟨_, _, _, rfl, rfl, by omega, e1, (hq _ _ hw).here (.str _) rh⟩ hs
      · exact hw.elim
    · exact hw.elim
  · cases rd
    split at hw
    · rename_i xs ha
      obtain ⟨vs, h1, r1⟩ := rh _ _ ha
      exact lst rfl (.inl (.inl h1)) r1 hw
    · exact dct rfl hw
    · exact dct rfl hw
    · exact hw.elim
  · exact hw.elim
/-- stores by values -/
def SetD (X : Cx) (C : CA) (w : D → D → D → DH → (DH → Prop) → Prop) : Prop :=
  PSet X (fun o i v H Q => ∃ d e f h Q0, RD X.K H o d ∧ RD X.K H i e ∧ RD X.K H v f ∧ RH X.K C H h ∧ w d e f h Q0 ∧ ∀ h', Q0 h' → ∀ H', Ste H h H' h' → RH X.K C H' h' → Q H')
theorem set_ok (hu : X.A.units + 1 < cLine) : SetD X C wSet := by
  intro pins s σ H o i v ov iv u Q I ro ri rv ⟨d, e, f, h, Q0, rd, re, rf, rh, hw, hq⟩
  have hz := sizeLine_eq
  unfold wSet at hw
  split at hw
  · rename_i a
    cases rd
    split at hw
    · rename_i xs ha
      obtain ⟨vs, h1, r1⟩ := rh _ _ ha
      have m : Mut (H a) := by rw [h1]; exact trivial
      split at hw
      · cases re
        split at hw
        · rename_i k j e1
          rw [← r1.length] at e1
          exact set_list pins s σ H _ _ v ov iv u Q I ro ri rv ⟨_, _, _, _, rfl, rfl, h1, e1, hq _ hw _ (Ste.mut ha m) (rh.put m ⟨_, upd_same, (r1.set rf j).le (Le.mut m)⟩)⟩
        · exact hw.elim
      · exact hw.elim
    · rename_i kvs ha
      obtain ⟨gs, h1, r1⟩ := rh _ _ ha
      have m : Mut (H a) := by rw [h1]; exact trivial
      split at hw
      · rename_i k hk
        obtain ⟨hl, hw⟩ := hw
        have ek := keyD_rd re hk
        subst ek
        have l1 := r1.length
        exact set_dict hu pins s σ H _ _ v ov iv u Q I ro ri rv ⟨_, _, rfl, .k h1 (by omega), hq _ hw _ (Ste.mut ha m) (rh.put m ⟨_, upd_same, (r1.put rf).le (Le.mut m)⟩)⟩
      · exact hw.elim
    · rename_i kvs ha
      obtain ⟨gs, h1, r1⟩ := rh _ _ ha
      have m : Mut (H a) := by rw [h1]; exact trivial
      split at hw
      · cases re with
        | tup hb rb =>
          split at hw
          · rename_i ds k hk
            obtain ⟨hl, hw⟩ := hw
            have ek := keysD_rd rb hk
            subst ek
            have l1 := r1.length
            exact set_dict hu pins s σ H _ _ v ov iv u Q I ro ri rv ⟨_, _, rfl, .t h1 hb (by omega), hq _ hw _ (Ste.mut ha m) (rh.put m ⟨_, upd_same, (r1.put rf).le (Le.mut m)⟩)⟩
          · exact hw.elim
      · exact hw.elim
    · exact hw.elim
  · exact hw.elim
/-- slices by values -/
def SlcD (X : Cx) (C : CA) (w : D → Option Int → Option Int → DH → QD → Prop) : Prop :=
  SlR X (fun x lo hi H Q => ∃ d h Q0, RD X.K H x d ∧ RH X.K C H h ∧ w d lo hi h Q0 ∧ ∀ r h', Q0 r h' → LQ X.K C H h Q r h')
theorem RDs.cut {K : PySem.W.Frag} {H : Hp} {vs : List V} {ds : List D} (r : RDs K H vs ds) (lo hi : Option Int) : RDs K H (cutV vs lo hi) (cutD ds lo hi) := by
  unfold cutV cutD
  rw [r.length]
  exact (r.drop _).take _
theorem cut_whole (ds : List D) (lo hi : Option Int) (h : HT.sIx ds.length 0 lo = 0 ∧ HT.sIx ds.length ds.length hi = ds.length) : cutD ds lo hi = ds := by
  unfold cutD
  rw [h.1, h.2, List.drop_zero, Nat.sub_zero, List.take_length]
theorem slc_ok : SlcD X C wSlc := by
  intro pins s σ H x v vl vu lo hi sl Q I rx hs pl pu ⟨d, h, Q0, rd, rh, hw, hq⟩
  have hz := sizeLine_eq
  unfold wSlc at hw
  split at hw
  · cases rd with
    | tup s1 r1 =>
      refine sl_tupA pins s σ H _ v vl vu lo hi sl Q I rx hs pl pu ⟨_, _, rfl, .inl (.inl s1), fun hw' => ?_, fun _ p hp => ?_⟩
      · rw [r1.length] at hw'
        rw [cut_whole _ _ _ hw'] at hw
        exact (hq _ _ hw).here (.tup s1 r1) rh
      · exact (hq _ _ hw) (.ref p) _ (Ste.side hp) (.tup upd_same ((r1.cut lo hi).le (Le.new hp))) (rh.side hp)
  · cases rd with
    | fl s1 r1 =>
      exact sl_list pins s σ H _ v vl vu lo hi sl Q I rx hs pl pu ⟨_, _, rfl, s1.seq, fun p hp => (hq _ _ (hw p (rh.free hp))) (.ref p) _ (Ste.new hp) (.ref p) (rh.new hp ⟨_, upd_same, (r1.cut lo hi).le (Le.new hp)⟩)⟩
  · cases rd
    exact sl_str pins s σ H _ v vl vu lo hi sl Q I rx hs pl pu ⟨_, rfl, by omega, (hq _ _ hw.2).here (.str _) rh⟩
  · cases rd
    split at hw
    · rename_i a xs ha
      obtain ⟨vs, h1, r1⟩ := rh _ _ ha
      exact sl_list pins s σ H _ v vl vu lo hi sl Q I rx hs pl pu ⟨_, _, rfl, .inl (.inl h1), fun p hp => (hq _ _ (hw p (rh.free hp))) (.ref p) _ (Ste.new hp) (.ref p) (rh.new hp ⟨_, upd_same, (r1.cut lo hi).le (Le.new hp)⟩)⟩
    · exact hw.elim
  · exact hw.elim
end
end DL

/-! DL, part D: built-in functions by values -/
namespace DL
open PySem PySem.Spec PyProof.Rows L2

inductive Blt where
  | len | abs | max | min | sum | sorted | list | tuple | int | str | repr | all | any | bool
  deriving DecidableEq

def iL (ns : List Int) : List D := ns.map .int
def bL (bs : List Bool) : List D := bs.map .bl
/-- the items of what is a list or a tuple -/
def seqOf (x : D) (h : DH) : Option (List D) := match x with
  | .tup xs => some xs
  | .kt xs => some xs
  | .fl xs => some xs
  | .ref a => match h a with
    | some (.lst xs) => some xs
    | _ => none
  | _ => none
def lstOf (x : D) (h : DH) : Option (List D) := match x with
  | .fl xs => some xs
  | .ref a => match h a with
    | some (.lst xs) => some xs
    | _ => none
  | _ => none
def wLen (x : D) (h : DH) (Q : QD) : Prop := match x with
  | .str z => z.length ≤ 16777216 ∧ Q (.int z.length) h
  | .ref a => match h a with
    | some (.lst xs) => Q (.int xs.length) h
    | some (.dK kvs) => Q (.int kvs.length) h
    | _ => False
  | x => match seqOf x h with
    | some xs => Q (.int xs.length) h
    | none => False
def wSorted (x : D) (h : DH) (Q : QD) : Prop := match lstOf x h with
  | some xs => ∃ enc : D → PyData, (∀ d ∈ xs, DPy h d (enc d)) ∧ PySem.W.AllAlike (xs.map enc) ∧ PySem.W.Sortable (xs.map enc) ∧ (∀ d ∈ xs, (enc d).depth ≤ 60) ∧ xs.length ≤ 16777216 ∧
      ∀ p, h p = none → Q (.ref p) (up h p (.lst (xs.mergeSort (PySem.W.dataLe false enc))))
  | none => match x with
    | .ref a => match h a with
      | some (.dK kvs) => ∃ ks : List Int, kvs.map (·.1) = ks.map Sum.inl ∧ ks.length < 64 ∧ ∀ (ys : List Int) p, ys.Perm ks → ys.Pairwise (· ≤ ·) → h p = none → Q (.ref p) (up h p (.lst (iL ys)))
      | _ => False
    | _ => False
def kPy : Key → PyData
  | .inl i => .int i
  | .inr x => .str x
/-! data as repr shows them: dicts of ints and texts, too -/
mutual
inductive DRp (h : DH) : D → PyData → Prop
  | non : DRp h .non .none
  | bl (b : Bool) : DRp h (.bl b) (.bool b)
  | int (i : Int) : DRp h (.int i) (.int i)
  | str (x : Str) : DRp h (.str x) (.str x)
  | tup {xs : List D} {ps : List PyData} : DRps h xs ps → DRp h (.tup xs) (.tuple ps)
  | lst {a : Addr} {xs : List D} {ps : List PyData} : h a = some (.lst xs) → DRps h xs ps → DRp h (.ref a) (.list ps)
  | dct {a : Addr} {kvs : List (Key × D)} {ps : List (PyData × PyData)} : h a = some (.dK kvs) → DRks h kvs ps → DRp h (.ref a) (.dict ps)
inductive DRps (h : DH) : List D → List PyData → Prop
  | nil : DRps h [] []
  | cons {d : D} {xs : List D} {p : PyData} {ps : List PyData} : DRp h d p → DRps h xs ps → DRps h (d :: xs) (p :: ps)
inductive DRks (h : DH) : List (Key × D) → List (PyData × PyData) → Prop
  | nil : DRks h [] []
  | cons {k : Key} {d : D} {kvs : List (Key × D)} {p : PyData} {ps : List (PyData × PyData)} : DRp h d p → DRks h kvs ps → DRks h ((k, d) :: kvs) ((kPy k, p) :: ps)
end
def wRepr (x : D) (h : DH) (Q : QD) : Prop := ∃ p : PyData, (DPy h x p ∨ DRp h x p) ∧ p.showable = true ∧ p.depth ≤ 60 ∧ p.shown.length ≤ 16777216 ∧ Q (.str p.shown) h
def wB (b : Blt) (xs : List D) (h : DH) (Q : QD) : Prop := match b, xs with
  | .len, [x] => wLen x h Q
  | .abs, [.int i] => Q (.int (if i < 0 then -i else i)) h
  | .max, [.int i, .int j] => Q (.int (if j > i then j else i)) h
  | .min, [.int i, .int j] => Q (.int (if j < i then j else i)) h
  | .max, [x] => match lstOf x h with
    | some xs => ∃ ns, xs = iL ns ∧ 0 < ns.length ∧ ∀ m, m ∈ ns → (∀ y, y ∈ ns → y ≤ m) → Q (.int m) h
    | none => False
  | .min, [x] => match lstOf x h with
    | some xs => ∃ ns, xs = iL ns ∧ 0 < ns.length ∧ ∀ m, m ∈ ns → (∀ y, y ∈ ns → m ≤ y) → Q (.int m) h
    | none => False
  | .sum, [x] => match lstOf x h with
    | some xs => ∃ ns, xs = iL ns ∧ Q (.int ns.sum) h
    | none => False
  | .all, [x] => match lstOf x h with
    | some xs => ∃ bs, xs = bL bs ∧ Q (.bl (bs.all id)) h
    | none => False
  | .any, [x] => match lstOf x h with
    | some xs => ∃ bs, xs = bL bs ∧ Q (.bl (bs.any id)) h
    | none => False
  | .sorted, [x] => wSorted x h Q
  | .list, [x] => match seqOf x h with
    | some xs => ∀ p, h p = none → Q (.ref p) (up h p (.lst xs))
    | none => False
  | .tuple, [.tup xs] => Q (.tup xs) h
  | .tuple, [x] => match lstOf x h with
    | some xs => Q (.tup xs) h
    | none => False
  | .int, [.int i] => Q (.int i) h
  | .int, [.bl b] => Q (.int (if b then 1 else 0)) h
  | .int, [.str a] => ∃ n, PySem.intText? a = some n ∧ a.length ≤ 640 ∧ Q (.int n) h
  | .str, [.int i] => i.natAbs.log2 < 1920 ∧ Q (.str (toString i)) h
  | .repr, [x] => wRepr x h Q
  | .bool, [.int i] => Q (.bl (i != 0)) h
  | .bool, [.bl b] => Q (.bl b) h
  | _, _ => False

def Blt.name : Blt → Str
  | .len => "len" | .abs => "abs" | .max => "max" | .min => "min" | .sum => "sum" | .sorted => "sorted" | .list => "list" | .tuple => "tuple" | .int => "int" | .str => "str" | .repr => "repr" | .all => "all" | .any => "any" | .bool => "bool"
def Blt.isTy : Blt → Bool
  | .list | .tuple | .int | .str | .bool => true
  | _ => false
def Blt.id : Blt → String
  | .len => "len" | .abs => "abs" | .max => "max" | .min => "min" | .sum => "sum" | .sorted => "sorted" | .list => "list" | .tuple => "tuple" | .int => "int" | .str => "str" | .repr => "repr" | .all => "all" | .any => "any" | .bool => "bool"
def Blt.val (b : Blt) : Value := if b.isTy then .type b.id else .builtin b.id

section
variable {X : Cx} {C : CA} {K : PySem.W.Frag} {H : Hp} {h : DH}
theorem iL_rd : ∀ {ns : List Int} {vs : List V}, RDs K H vs (iL ns) → vs = ns.map V.int
  | [], _, r => by cases r; rfl
  | n :: ns, _, r => by
    cases r with
    | cons a b => cases a; rw [iL_rd b]; rfl
theorem bL_rd : ∀ {ns : List Bool} {vs : List V}, RDs K H vs (bL ns) → vs = ns.map V.bl
  | [], _, r => by cases r; rfl
  | n :: ns, _, r => by
    cases r with
    | cons a b => cases a; rw [bL_rd b]; rfl
theorem lstOf_rd {x : D} {xs : List D} {v : V} (rh : RH K C H h) (r : RD K H v x) (e : lstOf x h = some xs) : ∃ p vs, v = .ref p ∧ SqL K H p vs ∧ RDs K H vs xs := by
  unfold lstOf at e
  split at e
  · cases e
    cases r with
    | fl s r => exact ⟨_, _, rfl, s.seq, r⟩
  · cases r
    split at e
    · rename_i ys ha
      cases e
      obtain ⟨vs, h1, r1⟩ := rh _ _ ha
      exact ⟨_, _, rfl, .inl (.inl h1), r1⟩
    · cases e
  · cases e
theorem seqOf_rd {x : D} {xs : List D} {v : V} (rh : RH K C H h) (r : RD K H v x) (e : seqOf x h = some xs) : ∃ p vs, v = .ref p ∧ (SqL K H p vs ∨ SqT K H p vs) ∧ RDs K H vs xs := by
  unfold seqOf at e
  split at e
  · cases e
    cases r with
    | tup s r => exact ⟨_, _, rfl, .inr (.inl (.inl s)), r⟩
  · cases e
    cases r with
    | kt s r => exact ⟨_, _, rfl, .inr s, r⟩
  · cases e
    cases r with
    | fl s r => exact ⟨_, _, rfl, .inl s.seq, r⟩
  · cases r
    split at e
    · rename_i ys ha
      cases e
      obtain ⟨vs, h1, r1⟩ := rh _ _ ha
      exact ⟨_, _, rfl, .inl (.inl (.inl h1)), r1⟩
    · cases e
  · cases e
theorem d_lenR : CallR X (.builtin "len") (fun xs H Q => ∃ a kvs, xs = [.ref a] ∧ H a = some (.dK kvs) ∧ Q (.int kvs.length) H) := by
  intro pins s σ H xs us Q I r ⟨a, kvs, e, ha, q⟩
  subst e
  obtain rfl := Vals.ref1 r
  exact d_len I (.inl ha) fun t s' I' => ⟨.int kvs.length, H, I', ⟨_, rfl⟩, q⟩
theorem len_ok {d : D} {v : V} {us : List Value} {pins : List (Addr × Obj)} {s : Shared} {σ : L2.St} {Q : VK} {Q0 : QD} (I : Inv X pins σ H s) (rv : Vals [v] us) (rd : RD X.K H v d) (rh : RH X.K C H h) (hw : wLen d h Q0) (hq : ∀ r h', Q0 r h' → LQ X.K C H h Q r h') :
    wpAny (model X.prog X.w) X.A (call (.builtin "len") us) (EP X pins σ Q) X.xe s := by
  have hz := sizeLine_eq
  unfold wLen at hw
  split at hw
  · cases rd
    exact call_len pins s σ H _ us Q I rv ⟨_, _, rfl, ⟨by omega, rfl⟩, (hq _ _ hw.2).here (.int _) rh⟩
  · split at hw
    · rename_i a xs ha
      cases rd
      obtain ⟨vs, h1, r1⟩ := rh _ _ ha
      exact call_len pins s σ H _ us Q I rv ⟨_, _, rfl, .inl ⟨vs, .inl (.inl h1), r1.length.symm⟩, (hq _ _ hw).here (.int _) rh⟩
    · rename_i a xs ha
      cases rd
      obtain ⟨vs, h1, r1⟩ := rh _ _ ha
      exact d_lenR pins s σ H _ us Q I rv ⟨_, _, rfl, h1, by have e := r1.length; rw [e]; exact (hq _ _ hw).here (.int _) rh⟩
    · exact hw.elim
  · split at hw
    · rename_i xs hx
      obtain ⟨p, vs, rfl, hs, r1⟩ := seqOf_rd rh rd hx
      exact call_len pins s σ H _ us Q I rv ⟨_, _, rfl, hs.elim (fun z => .inl ⟨vs, z, r1.length.symm⟩) (fun z => .inr ⟨vs, z, r1.length.symm⟩), (hq _ _ hw).here (.int _) rh⟩
    · exact hw.elim
theorem each_of {its : List Value} : ∀ {vs : List V} {xs : List D}, Vals vs its → RDs K H vs xs → PySem.W.EachIs (fun u d => ∃ v, RelV v u ∧ RD K H v d) its xs := by
  induction its with
  | nil => intro vs xs a b; cases a; cases b; exact .nil
  | cons u us ih =>
    intro vs xs a b
    cases a with
    | cons a1 a2 =>
      cases b with
      | cons b1 b2 => exact .cons ⟨_, a1, b1⟩ (ih a2 b2)
theorem of_each : ∀ {its : List Value} {xs : List D}, PySem.W.EachIs (fun u d => ∃ v, RelV v u ∧ RD K H v d) its xs → ∃ vs, Vals vs its ∧ RDs K H vs xs
  | _, _, .nil => ⟨[], .nil, .nil⟩
  | _, _, .cons ⟨v, a, b⟩ t => by
    obtain ⟨vs, c, d⟩ := of_each t
    exact ⟨v :: vs, .cons a c, .cons b d⟩
theorem rds_iL {K : PySem.W.Frag} {H : Hp} : ∀ ys : List Int, RDs K H (ys.map V.int) (iL ys)
  | [] => .nil
  | y :: ys => .cons (.int y) (rds_iL ys)
theorem rps_keys {κ : Type} [DecidableEq κ] {K : PySem.W.Frag} {H : Hp} : ∀ {gs : List (κ × V)} {fs : List (κ × D)}, RPs K H gs fs → gs.map (·.1) = fs.map (·.1)
  | _, _, .nil => rfl
  | _, _, .cons a b => by rw [List.map_cons, List.map_cons, rps_keys b, a.1]
theorem sorted_ok (hc : X.calm = true) (hu : X.A.units + 62 < cLine) {d : D} {v : V} {us : List Value} {pins : List (Addr × Obj)} {s : Shared} {σ : L2.St} {Q : VK} {Q0 : QD} (I : Inv X pins σ H s) (rv : Vals [v] us) (rd : RD X.K H v d) (rh : RH X.K C H h) (hw : wSorted d h Q0) (hq : ∀ r h', Q0 r h' → LQ X.K C H h Q r h') :
    wpAny (model X.prog X.w) X.A (call (.builtin "sorted") us) (EP X pins σ Q) X.xe s := by
  have hz := sizeLine_eq
  unfold wSorted at hw
  split at hw
  · rename_i xs hx
    obtain ⟨enc, hd, ha, hs, hdp, hl, hw⟩ := hw
    obtain ⟨p, vs, rfl, sq, r1⟩ := lstOf_rd rh rd hx
    obtain ⟨its, rv2, pl, hz2⟩ := I.list sq
    rw [Vals.ref1 rv]
    have e := each_of rv2 r1
    have er : PySem.W.EachIs (fun v b => ∃ as, Reads s.heap v (enc b) as) its xs := (PySem.W.each_mem e).mono fun u b ⟨⟨v, rv, rd⟩, hb⟩ => Dp.reads I _ _ _ ((hd b hb).dp rh rd) rv
    refine PySem.W.sorted_data (R := fun u d => ∃ v, RelV v u ∧ RD X.K H v d) pl.isList e er ha hs (by omega) (fun b hb => by have := hdp b hb; omega) fun out ho eo => ?_
    obtain ⟨ws, w1, w2⟩ := of_each eo
    obtain ⟨ep, he'⟩ := PyProof.Rows.sortedAll_at s.heap its out.toArray
    have hn : H (s.heap.objs.size + 1) = none := I.hok.fresh (Nat.le_succ _)
    refine ⟨.ref _, upd H (s.heap.objs.size + 1) (.lst ws), I.laid (t' := s.toks) (fun _ _ => PyProof.Rows.sortedAll_old) (Nat.le_succ _) ⟨?_, out, ep, w1, he'⟩, rfl, ?_⟩
    · have := w1.length; omega
    · exact (hq _ _ (hw _ (rh.free hn))) _ _ (Ste.new hn) (.ref _) (rh.new hn ⟨_, upd_same, w2.le (Le.new hn)⟩)
  · split at hw
    · rename_i a
      split at hw
      · rename_i kvs e
        obtain ⟨ks, e1, e2, hw⟩ := hw
        cases rd
        obtain ⟨gs, hg, r1⟩ := rh _ _ e
        exact call_sortedDI hc pins s σ H _ us Q I rv ⟨_, gs, ks, rfl, .inl hg, by rw [← e1]; exact rps_keys r1, e2, fun ys q pm srt hn => (hq _ _ (hw ys q pm srt (rh.free hn))) _ _ (Ste.new hn) (.ref _) (rh.new hn ⟨ys.map V.int, upd_same, rds_iL ys⟩)⟩
      · exact hw.elim
    · exact hw.elim
theorem reads_scal {hp : Heap} {u : Value} {p : PyData} {as : List Addr} (r : Reads hp u p as) (n : ∀ a, u ≠ .ref a) : (p = .none ∧ u = .none) ∨ (∃ b, p = .bool b ∧ u = .bool b) ∨ (∃ i t, p = .int i ∧ u = .int i t) ∨ ∃ x t, p = .str x ∧ u = .str x t := by
  cases r with
  | none => exact .inl ⟨rfl, rfl⟩
  | bool b => exact .inr (.inl ⟨b, rfl, rfl⟩)
  | int i t => exact .inr (.inr (.inl ⟨i, t, rfl, rfl⟩))
  | str x t => exact .inr (.inr (.inr ⟨x, t, rfl, rfl⟩))
  | _ => exact absurd rfl (n _)
mutual
theorem DPy.nd {h : DH} : ∀ {d : D} {p : PyData}, DPy h d p → p.hasDict = false
  | .non, _, .non => by simp only [PyData.hasDict]
  | .bl _, _, .bl _ => by simp only [PyData.hasDict]
  | .int _, _, .int _ => by simp only [PyData.hasDict]
  | .str _, _, .str _ => by simp only [PyData.hasDict]
  | .tup _, _, .tup a => by simp only [PyData.hasDict]; exact DPys.nd a
  | .kt _, _, .kt a => by simp only [PyData.hasDict]; exact DPys.nd a
  | .fl _, _, .fl a => by simp only [PyData.hasDict]; exact DPys.nd a
  | .ref _, _, .lst _ a => by simp only [PyData.hasDict]; exact DPys.nd a
theorem DPys.nd {h : DH} : ∀ {ds : List D} {ps : List PyData}, DPys h ds ps → PyData.hasDictAll ps = false
  | _, _, .nil => by simp only [PyData.hasDictAll]
  | _, _, .cons a b => by simp only [PyData.hasDictAll, Bool.or_eq_false_iff]; exact ⟨DPy.nd a, DPys.nd b⟩
end
theorem nsm {pins : List (Addr × Obj)} {s : Shared} {σ : L2.St} (sm : ∃ u, X.K.lookup sysModules = some u) (I : Inv X pins σ H s) {a : Addr} {o : HO} (e : H a = some o) : a ≠ sysModules := fun z => by
  subst z
  obtain ⟨u, hu⟩ := sm
  have := (I.bs _ _ (I.mod.kin _ _ hu)).2
  rw [e] at this
  cases this
theorem kPy_reads {hp : Heap} {k : Key} {v : Value} (e : keyIs k v = true) : Reads hp v (kPy k) [] := by
  rcases keyIs_shape e with ⟨i, t, rfl, rfl⟩ | ⟨x, t, rfl, rfl⟩
  · exact .int i t
  · exact .str x t
mutual
theorem DRp.reads {pins : List (Addr × Obj)} {s : Shared} {σ : L2.St} (sm : ∃ u, X.K.lookup sysModules = some u) (I : Inv X pins σ H s) (rh : RH X.K C H h) : ∀ {d : D} {p : PyData}, DRp h d p → ∀ {v : V} {u : Value}, RD X.K H v d → RelV v u → ∃ as, Reads s.heap u p as ∧ sysModules ∉ as
  | _, _, .non, _, _, r, rv => by
    cases r; cases rv
    exact ⟨_, .none, by simp⟩
  | _, _, .bl b, _, _, r, rv => by
    cases r; cases rv
    exact ⟨_, .bool b, by simp⟩
  | _, _, .int i, _, _, r, rv => by
    cases r
    obtain ⟨t, rfl⟩ := rv
    exact ⟨_, .int i t, by simp⟩
  | _, _, .str x, _, _, r, rv => by
    cases r
    obtain ⟨t, rfl⟩ := rv
    exact ⟨_, .str x t, by simp⟩
  | _, _, .tup a, _, _, r, rv => by
    cases r with
    | tup hs hr =>
      cases rv
      obtain ⟨its, rv, ⟨o, ho, hc, n, hd⟩, _⟩ := I.tuple (.inl (.inl hs))
      obtain ⟨as, q, hn⟩ := DRps.reads sm I rh a hr rv
      exact ⟨_, .tuple ho hc hd q, hn⟩
  | _, _, .lst ha a, _, _, r, rv => by
    cases r
    cases rv
    obtain ⟨vs, h1, h2⟩ := rh _ _ ha
    obtain ⟨its, rv, ⟨o, n, ho, hc, _, hd⟩, _⟩ := I.list (.inl (.inl h1))
    obtain ⟨as, q, hn⟩ := DRps.reads sm I rh a h2 rv
    refine ⟨_, .list ho hc hd q, fun z => ?_⟩
    rcases List.mem_cons.mp z with z | z
    · exact nsm sm I h1 z.symm
    · exact hn z
  | _, _, .dct ha a, _, _, r, rv => by
    cases r
    cases rv
    obtain ⟨gs, h1, h2⟩ := rh _ _ ha
    obtain ⟨_, _, va, ra, o, es, ep, ho, hx, hd, _, hp, _⟩ := (show ObjOk X.prog X.w H s.heap _ (.dK gs) from I.hok _ _ h1)
    obtain ⟨as, bs, q1, q2, n1, n2⟩ := DRks.reads sm I rh a h2 ra hp
    refine ⟨_, .dict ho hx.1 hd q1 q2, fun z => ?_⟩
    rcases List.mem_append.mp z with z | z
    · rcases List.mem_cons.mp z with z | z
      · exact nsm sm I h1 z.symm
      · exact n1 z
    · exact n2 z
theorem DRps.reads {pins : List (Addr × Obj)} {s : Shared} {σ : L2.St} (sm : ∃ u, X.K.lookup sysModules = some u) (I : Inv X pins σ H s) (rh : RH X.K C H h) : ∀ {ds : List D} {ps : List PyData}, DRps h ds ps → ∀ {vs : List V} {us : List Value}, RDs X.K H vs ds → Vals vs us → ∃ as, ReadsAll s.heap us ps as ∧ sysModules ∉ as
  | _, _, .nil, _, _, r, rv => by
    cases r; cases rv
    exact ⟨_, .nil, by simp⟩
  | _, _, .cons a b, _, _, r, rv => by
    cases r with
    | cons r1 r2 =>
      cases rv with
      | cons v1 v2 =>
        obtain ⟨as, q1, n1⟩ := DRp.reads sm I rh a r1 v1
        obtain ⟨bs, q2, n2⟩ := DRps.reads sm I rh b r2 v2
        exact ⟨_, .cons q1 q2, fun z => (List.mem_append.mp z).elim n1 n2⟩
theorem DRks.reads {pins : List (Addr × Obj)} {s : Shared} {σ : L2.St} (sm : ∃ u, X.K.lookup sysModules = some u) (I : Inv X pins σ H s) (rh : RH X.K C H h) : ∀ {kvs : List (Key × D)} {ps : List (PyData × PyData)}, DRks h kvs ps → ∀ {gs : List (Key × V)} {va : List (Key × Value)} {es : List DictEntry}, RPs X.K H gs kvs → KV gs va → Pairs (mixKind X.prog X.w) es va →
    ∃ as bs, ReadsAll s.heap (es.map (·.key)) (ps.map (·.1)) as ∧ ReadsAll s.heap (es.map (·.val)) (ps.map (·.2)) bs ∧ sysModules ∉ as ∧ sysModules ∉ bs
  | _, _, .nil, _, _, _, r, rv, pr => by
    cases r; cases rv; cases pr
    exact ⟨_, _, .nil, .nil, by simp, by simp⟩
  | _, _, .cons a b, _, _, _, r, rv, pr => by
    cases r with
    | cons r1 r2 =>
      cases rv with
      | cons v1 v2 =>
        cases pr with
        | cons k1 e1 p2 =>
          obtain ⟨bs, q1, n1⟩ := DRp.reads sm I rh a r1.2 v1.2
          obtain ⟨cs, ds, q2, q3, n2, n3⟩ := DRks.reads sm I rh b r2 v2 p2
          have k0 := r1.1
          have k1' := v1.1
          rw [← k1', k0] at k1
          rw [← e1] at q1
          refine ⟨_, _, .cons (kPy_reads k1) q2, .cons q1 q3, fun z => ?_, fun z => (List.mem_append.mp z).elim n1 n3⟩
          exact (List.mem_append.mp z).elim (by simp) n2
end
theorem repr_ok (hu : X.A.units + 62 < cLine) (sm : ∃ u, X.K.lookup sysModules = some u) (hg : X.A.guards = some []) {d : D} {v : V} {us : List Value} {pins : List (Addr × Obj)} {s : Shared} {σ : L2.St} {Q : VK} {Q0 : QD} (I : Inv X pins σ H s) (rv : Vals [v] us) (rd : RD X.K H v d) (rh : RH X.K C H h) (hw : wRepr d h Q0) (hq : ∀ r h', Q0 r h' → LQ X.K C H h Q r h') :
    wpAny (model X.prog X.w) X.A (call (.builtin "repr") us) (EP X pins σ Q) X.xe s := by
  have hz := sizeLine_eq
  obtain ⟨p, hp, hs, hd, hl, hw⟩ := hw
  obtain ⟨u, rfl, ru⟩ := vals1 rv
  obtain ⟨as, r, hn⟩ : ∃ as, Reads s.heap u p as ∧ (p.hasDict = true → sysModules ∉ as) := by
    rcases hp with hp | hp
    · obtain ⟨as, r⟩ := Dp.reads I p v u (hp.dp rh rd) ru
      exact ⟨as, r, fun e => by rw [hp.nd] at e; cases e⟩
    · obtain ⟨as, r, n⟩ := hp.reads sm I rh rd ru
      exact ⟨as, r, fun _ => n⟩
  have q := (hq _ _ hw).here (.str _) rh
  by_cases n : ∃ a, u = .ref a
  · obtain ⟨a, rfl⟩ := n
    exact repr_of_reads' r hs hn hg (by omega) (fun _ _ e => e) (fun h' u tk k => ⟨.str _, H, I.kept k, ⟨_, rfl⟩, q⟩) (by omega)
  · have n' : ∀ a, u ≠ .ref a := fun a e => n ⟨a, e⟩
    rcases reads_scal r n' with ⟨rfl, rfl⟩ | ⟨b, rfl, rfl⟩ | ⟨i, t, rfl, rfl⟩ | ⟨x, t, rfl, rfl⟩
    · exact P.repr_of_none ⟨.str _, H, I.tok _, ⟨_, rfl⟩, q⟩
    · exact P.repr_of_bool ⟨.str _, H, I.tok _, ⟨_, rfl⟩, q⟩
    · exact P.repr_of_int (by simpa [PyData.showable] using hs) ⟨.str _, H, I.tok _, ⟨_, rfl⟩, q⟩
    · exact P.repr_of_str ⟨.str _, H, I.tok _, ⟨_, rfl⟩, q⟩ (by simp only [PyData.shown] at hl; omega)
end
end DL

/-! DL, part E: the built-in functions together; methods of built-in types -/
namespace DL
open PySem PySem.Spec PyProof.Rows L2
section
variable {X : Cx} {C : CA}
/-- what a body must have around -/
structure Rm (X : Cx) : Prop where
  u : X.A.units + 200 < cLine
  g : X.A.guards = some []
  c : X.calm = true
  sm : ∃ u, X.K.lookup sysModules = some u
theorem blt_ok (R : Rm X) : ∀ b : Blt, CallD X C b.val (wB b) := by
  intro b pins s σ H xs us Q I rv ⟨ds, h, Q0, rd, rh, hw, hq⟩
  have hz := sizeLine_eq
  have hu := R.u
  unfold wB at hw
  split at hw
  · obtain ⟨v, rfl, r⟩ := rd.one
    exact len_ok I rv r rh hw hq
  · obtain ⟨v, rfl, r⟩ := rd.one
    cases r
    exact call_abs pins s σ H _ us Q I rv ⟨_, rfl, (hq _ _ hw).here (.int _) rh⟩
  · obtain ⟨v, w, rfl, r, r'⟩ := rd.two
    cases r; cases r'
    exact call_max2 R.c pins s σ H _ us Q I rv ⟨_, _, rfl, (hq _ _ hw).here (.int _) rh⟩
  · obtain ⟨v, w, rfl, r, r'⟩ := rd.two
    cases r; cases r'
    exact call_min2 R.c pins s σ H _ us Q I rv ⟨_, _, rfl, (hq _ _ hw).here (.int _) rh⟩
  · obtain ⟨v, rfl, r⟩ := rd.one
    split at hw
    · rename_i ys hy
      obtain ⟨ns, e, hn, hw⟩ := hw
      subst e
      obtain ⟨p, vs, rfl, sq, r1⟩ := lstOf_rd rh r hy
      rw [iL_rd r1] at sq
      exact cr_max R.c pins s σ H _ us Q I rv ⟨_, _, rfl, sq, hn, fun m h1 h2 => (hq _ _ (hw m h1 h2)).here (.int _) rh⟩
    · exact hw.elim
  · obtain ⟨v, rfl, r⟩ := rd.one
    split at hw
    · rename_i ys hy
      obtain ⟨ns, e, hn, hw⟩ := hw
      subst e
      obtain ⟨p, vs, rfl, sq, r1⟩ := lstOf_rd rh r hy
      rw [iL_rd r1] at sq
      exact cr_min R.c pins s σ H _ us Q I rv ⟨_, _, rfl, sq, hn, fun m h1 h2 => (hq _ _ (hw m h1 h2)).here (.int _) rh⟩
    · exact hw.elim
  · obtain ⟨v, rfl, r⟩ := rd.one
    split at hw
    · rename_i ys hy
      obtain ⟨ns, e, hw⟩ := hw
      subst e
      obtain ⟨p, vs, rfl, sq, r1⟩ := lstOf_rd rh r hy
      rw [iL_rd r1] at sq
      exact cr_sum R.c pins s σ H _ us Q I rv ⟨_, _, rfl, sq, (hq _ _ hw).here (.int _) rh⟩
    · exact hw.elim
  · obtain ⟨v, rfl, r⟩ := rd.one
    split at hw
    · rename_i ys hy
      obtain ⟨ns, e, hw⟩ := hw
      subst e
      obtain ⟨p, vs, rfl, sq, r1⟩ := lstOf_rd rh r hy
      rw [bL_rd r1] at sq
      exact cr_all R.c pins s σ H _ us Q I rv ⟨_, _, rfl, sq, (hq _ _ hw).here (.bl _) rh⟩
    · exact hw.elim
  · obtain ⟨v, rfl, r⟩ := rd.one
    split at hw
    · rename_i ys hy
      obtain ⟨ns, e, hw⟩ := hw
      subst e
      obtain ⟨p, vs, rfl, sq, r1⟩ := lstOf_rd rh r hy
      rw [bL_rd r1] at sq
      exact cr_any R.c pins s σ H _ us Q I rv ⟨_, _, rfl, sq, (hq _ _ hw).here (.bl _) rh⟩
    · exact hw.elim
  · obtain ⟨v, rfl, r⟩ := rd.one
    exact sorted_ok R.c (by omega) I rv r rh hw hq
  · obtain ⟨v, rfl, r⟩ := rd.one
    split at hw
    · rename_i ys hy
      obtain ⟨p, vs, rfl, sq, r1⟩ := seqOf_rd rh r hy
      exact call_list_of pins s σ H _ us Q I rv ⟨_, _, rfl, sq, fun l hl => (hq _ _ (hw l (rh.free hl))) _ _ (Ste.new hl) (.ref _) (rh.new hl ⟨_, upd_same, r1.le (Le.new hl)⟩)⟩
    · exact hw.elim
  · obtain ⟨v, rfl, r⟩ := rd.one
    cases r with
    | tup s1 r1 => exact call_tuple_of pins s σ H _ us Q I rv ⟨_, _, rfl, .inr ⟨.inl (.inl s1), (hq _ _ hw).here (.tup s1 r1) rh⟩⟩
  · obtain ⟨v, rfl, r⟩ := rd.one
    split at hw
    · rename_i ys hy
      obtain ⟨p, vs, rfl, sq, r1⟩ := lstOf_rd rh r hy
      exact call_tuple_of pins s σ H _ us Q I rv ⟨_, _, rfl, .inl ⟨sq, fun l hl => (hq _ _ hw) _ _ (Ste.side hl) (.tup upd_same (r1.le (Le.new hl))) (rh.side hl)⟩⟩
    · exact hw.elim
  · obtain ⟨v, rfl, r⟩ := rd.one
    cases r
    exact call_int1 pins s σ H _ us Q I rv (.inl ⟨_, rfl, (hq _ _ hw).here (.int _) rh⟩)
  · obtain ⟨v, rfl, r⟩ := rd.one
    cases r
    exact call_int1 pins s σ H _ us Q I rv (.inr ⟨_, rfl, (hq _ _ hw).here (.int _) rh⟩)
  · obtain ⟨v, rfl, r⟩ := rd.one
    cases r
    obtain ⟨n, h1, h2, hw⟩ := hw
    exact call_int_str pins s σ H _ us Q I rv ⟨_, _, rfl, h1, h2, (hq _ _ hw).here (.int _) rh⟩
  · obtain ⟨v, rfl, r⟩ := rd.one
    cases r
    exact call_str_int pins s σ H _ us Q I rv ⟨_, rfl, hw.1, (hq _ _ hw.2).here (.str _) rh⟩
  · obtain ⟨v, rfl, r⟩ := rd.one
    exact repr_ok (by omega) R.sm R.g I rv r rh hw hq
  · obtain ⟨v, rfl, r⟩ := rd.one
    cases r
    exact call_bool1 pins s σ H _ us Q I rv (.inl ⟨_, rfl, (hq _ _ hw).here (.bl _) rh⟩)
  · obtain ⟨v, rfl, r⟩ := rd.one
    cases r
    exact call_bool1 pins s σ H _ us Q I rv (.inr ⟨_, rfl, (hq _ _ hw).here (.bl _) rh⟩)
  · exact hw.elim
end

/-! ### methods of built-in types -/
inductive Mtd where
  | append | extend | pop | reverse | clear | insert | get | join | split | partition | upper
  deriving DecidableEq
def Mtd.ty : Mtd → String
  | .get => "dict"
  | .join | .split | .partition | .upper => "str"
  | _ => "list"
def Mtd.name : Mtd → Str
  | .append => "append" | .extend => "extend" | .pop => "pop" | .reverse => "reverse" | .clear => "clear" | .insert => "insert" | .get => "get" | .join => "join" | .split => "split" | .partition => "partition" | .upper => "upper"
def Mtd.id : Mtd → String
  | .append => "list.append" | .extend => "list.extend" | .pop => "list.pop" | .reverse => "list.reverse" | .clear => "list.clear" | .insert => "list.insert" | .get => "dict.get" | .join => "str.join" | .split => "str.split" | .partition => "str.partition" | .upper => "str.upper"
/-- of what type the receiver must be -/
def tyD (T : String) (d : D) (h : DH) : Prop := match d with
  | .str _ => T = "str"
  | .ref a => match h a with
    | some (.lst _) => T = "list"
    | some (.dK _) => T = "dict"
    | some (.dT _) => T = "dict"
    | _ => False
  | _ => False
def sL (xs : List Str) : List D := xs.map .str
def wML (m : Mtd) (a : Addr) (ys : List D) (xs : List D) (h : DH) (Q : QD) : Prop := match m, xs with
  | .append, [x] => ys.length < 16777216 ∧ Q .non (up h a (.lst (ys ++ [x])))
  | .extend, [.ref b] => match h b with
    | some (.lst zs) => ys.length + zs.length ≤ 16777216 ∧ Q .non (up h a (.lst (ys ++ zs)))
    | _ => False
  | .pop, [] => match ys[ys.length - 1]? with
    | some y => Q y (up h a (.lst ys.dropLast))
    | none => False
  | .pop, [.int i] => (-(2 ^ 63) ≤ i ∧ i < 2 ^ 63) ∧ match seqIndex? i ys.length with
    | some k => match ys[k]? with
      | some y => Q y (up h a (.lst (ys.eraseIdx k)))
      | none => False
    | none => False
  | .reverse, [] => Q .non (up h a (.lst ys.reverse))
  | .clear, [] => Q .non (up h a (.lst []))
  | .insert, [.int i, y] => (ys.length < 16777216 ∧ 0 ≤ i ∧ i < 2 ^ 63) ∧ Q .non (up h a (.lst (ys.take i.toNat ++ [y] ++ ys.drop i.toNat)))
  | _, _ => False
def wMD (m : Mtd) (a : Addr) (xs : List D) (h : DH) (Q : QD) : Prop := match m, xs with
  | .get, [k] => match dlook h a k with
    | some o => Q (o.getD .non) h
    | none => False
  | .get, [k, e] => match dlook h a k with
    | some o => Q (o.getD e) h
    | none => False
  | _, _ => False
def wMS (m : Mtd) (z : Str) (xs : List D) (h : DH) (Q : QD) : Prop := match m, xs with
  | .join, [x] => match seqOf x h with
    | some ys => ∃ ss, ys = sL ss ∧ (ss.map (·.length)).sum + ss.length * z.length ≤ 16777216 ∧ Q (.str (Str.join z ss)) h
    | none => False
  | .split, [.str b] => (b.length == 0) = false ∧ z.length + 2 ≤ 16777216 ∧ ∀ p, h p = none → Q (.ref p) (up h p (.lst (sL (Txt.split z b))))
  | .partition, [.str b] => (b.length == 0) = false ∧ z.length ≤ 16777216 ∧ Q (.tup [.str (Txt.partition z b).1, .str (Txt.partition z b).2.1, .str (Txt.partition z b).2.2]) h
  | .upper, [] => z.length ≤ 5592405 ∧ Q (.str (Txt.upper z)) h
  | _, _ => False
def wM (m : Mtd) (d : D) (xs : List D) (h : DH) (Q : QD) : Prop := match d with
  | .ref a => match h a with
    | some (.lst ys) => wML m a ys xs h Q
    | some (.dK _) => wMD m a xs h Q
    | some (.dT _) => wMD m a xs h Q
    | _ => False
  | .str z => wMS m z xs h Q
  | _ => False
section
variable {X : Cx} {C : CA} {K : PySem.W.Frag} {H : Hp} {h : DH}
theorem tyD_rd {T : String} {d : D} {v : V} (rh : RH K C H h) (r : RD K H v d) (t : tyD T d h) : tyV K T v H := by
  unfold tyD at t
  split at t
  · cases r; exact t
  · cases r
    split at t
    · rename_i ys ha
      obtain ⟨vs, h1, _⟩ := rh _ _ ha
      exact .inl ⟨t, vs, .inl (.inl h1)⟩
    · rename_i ys ha
      obtain ⟨vs, h1, _⟩ := rh _ _ ha
      exact .inr (.inr (.inl ⟨t, .inl ⟨_, h1⟩⟩))
    · rename_i ys ha
      obtain ⟨vs, h1, _⟩ := rh _ _ ha
      exact .inr (.inr (.inl ⟨t, .inr ⟨_, h1⟩⟩))
    · exact t.elim
  · exact t.elim
theorem sL_rd : ∀ {ns : List Str} {vs : List V}, RDs K H vs (sL ns) → vs = ns.map V.str
  | [], _, r => by cases r; rfl
  | n :: ns, _, r => by
    cases r with
    | cons a b => cases a; rw [sL_rd b]; rfl
theorem rd_sL : ∀ ns : List Str, RDs K H (ns.map V.str) (sL ns)
  | [] => .nil
  | n :: ns => .cons (.str n) (rd_sL ns)
theorem mt_get1 (hu : X.A.units + 1 < cLine) : MtR X "dict.get" (fun x xs H Q => ∃ a y o, x = .ref a ∧ xs = [y] ∧ DGet H a y o ∧ Q (o.getD .non) H) := by
  intro pins s σ H x xs v us Q I rx rv ⟨a, y, o, e1, e2, g, q⟩
  subst e1 e2
  cases rx
  obtain ⟨u, rfl, ru⟩ := vals1 rv
  exact d_get1 hu I g ru fun w' s3 I3 rw' => ⟨_, H, I3, rw', q⟩
theorem mt_get2 (hu : X.A.units + 1 < cLine) : MtR X "dict.get" (fun x xs H Q => ∃ a y z o, x = .ref a ∧ xs = [y, z] ∧ DGet H a y o ∧ Q (o.getD z) H) := by
  intro pins s σ H x xs v us Q I rx rv ⟨a, y, z, o, e1, e2, g, q⟩
  subst e1 e2
  cases rx
  obtain ⟨u, u', rfl, ru, ru'⟩ := vals2 rv
  exact d_get2 hu I g ru ru' fun w' s3 I3 rw' => ⟨_, H, I3, rw', q⟩
def MtD (X : Cx) (C : CA) (id : String) (w : D → List D → DH → QD → Prop) : Prop :=
  MtR X id (fun x xs H Q => ∃ d ds h Q0, RD X.K H x d ∧ RDs X.K H xs ds ∧ RH X.K C H h ∧ w d ds h Q0 ∧ ∀ r h', Q0 r h' → LQ X.K C H h Q r h')
theorem RDs.dropLast : ∀ {vs : List V} {ds : List D}, RDs K H vs ds → RDs K H vs.dropLast ds.dropLast
  | _, _, .nil => .nil
  | _, _, .cons _ .nil => .nil
  | _, _, .cons a (.cons b t) => .cons a (RDs.dropLast (.cons b t))
theorem RDs.eraseIdx : ∀ {vs : List V} {ds : List D} (k : Nat), RDs K H vs ds → RDs K H (vs.eraseIdx k) (ds.eraseIdx k)
  | _, _, _, .nil => .nil
  | _, _, 0, .cons _ t => t
  | _, _, k + 1, .cons a t => .cons a (RDs.eraseIdx k t)
theorem getD_rd {o : Option D} {r : Option V} {e : D} {z : V} (g1 : ∀ d, o = some d → ∃ x, r = some x ∧ RD K H x d) (g2 : o = none → r = none) (re : RD K H z e) : RD K H (r.getD z) (o.getD e) := by
  cases o with
  | none => rw [g2 rfl]; exact re
  | some d => obtain ⟨x, e1, r1⟩ := g1 d rfl; rw [e1]; exact r1
theorem md_ok (R : Rm X) {m : Mtd} {a : Addr} {xs : List V} {v : Value} {us : List Value} {ds : List D} {pins : List (Addr × Obj)} {s : Shared} {σ : L2.St} {Q : VK} {Q0 : QD} (I : Inv X pins σ H s) (rx : RelV (.ref a) v) (rv : Vals xs us) (rds : RDs X.K H xs ds) (rh : RH X.K C H h)
  (hw : wMD m a ds h Q0) (hq : ∀ r h', Q0 r h' → LQ X.K C H h Q r h') : wpAny (model X.prog X.w) X.A (call (.builtin m.id) (v :: us)) (EP X pins σ Q) X.xe s := by
  have hu := R.u
  unfold wMD at hw
  split at hw
  · obtain ⟨y, rfl, ry⟩ := rds.one
    split at hw
    · rename_i o ho
      obtain ⟨r, g, g1, g2⟩ := dlook_get rh ry ho
      exact mt_get1 (by omega) pins s σ H _ _ v us Q I rx rv ⟨_, _, _, rfl, rfl, g, (hq _ _ hw).here (getD_rd g1 g2 .non) rh⟩
    · exact hw.elim
  · obtain ⟨y, z, rfl, ry, rz⟩ := rds.two
    split at hw
    · rename_i o ho
      obtain ⟨r, g, g1, g2⟩ := dlook_get rh ry ho
      exact mt_get2 (by omega) pins s σ H _ _ v us Q I rx rv ⟨_, _, _, _, rfl, rfl, g, (hq _ _ hw).here (getD_rd g1 g2 rz) rh⟩
    · exact hw.elim
  · exact hw.elim
theorem mtd_ok (R : Rm X) : ∀ m : Mtd, MtD X C m.id (wM m) := by
  intro m pins s σ H x xs v us Q I rx rv ⟨d, ds, h, Q0, rd, rds, rh, hw, hq⟩
  have hz := sizeLine_eq
  have hu := R.u
  unfold wM at hw
  split at hw
  · rename_i a
    split at hw
    · rename_i ys ha
      cases rd
      obtain ⟨vs, h1, r1⟩ := rh _ _ ha
      have mu : Mut (H a) := by rw [h1]; exact trivial
      have l1 := r1.length
      unfold wML at hw
      split at hw
      · obtain ⟨y, rfl, ry⟩ := rds.one
        exact mt_append pins s σ H _ _ v us Q I rx rv ⟨_, _, _, rfl, rfl, h1, by omega, (hq _ _ hw.2) _ _ (Ste.mut ha mu) .non (rh.put mu ⟨_, upd_same, (r1.append (.cons ry .nil)).le (Le.mut mu)⟩)⟩
      · split at hw
        · rename_i zs hb
          obtain ⟨y, rfl, ry⟩ := rds.one
          cases ry
          obtain ⟨ws, h2, r2⟩ := rh _ _ hb
          have l2 := r2.length
          exact mt_extend pins s σ H _ _ v us Q I rx rv ⟨_, _, _, _, rfl, rfl, h1, h2, by omega, (hq _ _ hw.2) _ _ (Ste.mut ha mu) .non (rh.put mu ⟨_, upd_same, (r1.append r2).le (Le.mut mu)⟩)⟩
        · exact hw.elim
      · split at hw
        · rename_i y hy
          cases rds
          rw [← l1] at hy
          obtain ⟨z, h3, rz⟩ := r1.get hy
          exact mt_pop pins s σ H _ _ v us Q I rx rv ⟨_, _, _, rfl, rfl, h1, h3, (hq _ _ hw) _ _ (Ste.mut ha mu) (rz.le (Le.mut mu)) (rh.put mu ⟨_, upd_same, r1.dropLast.le (Le.mut mu)⟩)⟩
        · exact hw.elim
      · obtain ⟨⟨i1, i2⟩, hw⟩ := hw
        split at hw
        · rename_i k hk
          split at hw
          · rename_i y hy
            obtain ⟨w, rfl, ry⟩ := rds.one
            cases ry
            obtain ⟨z, h3, rz⟩ := r1.get hy
            rw [← l1] at hk
            exact mt_popAt pins s σ H _ _ v us Q I rx rv ⟨_, _, _, _, _, rfl, rfl, h1, i1, i2, hk, h3, (hq _ _ hw) _ _ (Ste.mut ha mu) (rz.le (Le.mut mu)) (rh.put mu ⟨_, upd_same, (r1.eraseIdx k).le (Le.mut mu)⟩)⟩
          · exact hw.elim
        · exact hw.elim
      · cases rds
        exact mt_reverse pins s σ H _ _ v us Q I rx rv ⟨_, _, rfl, rfl, h1, (hq _ _ hw) _ _ (Ste.mut ha mu) .non (rh.put mu ⟨_, upd_same, r1.reverse.le (Le.mut mu)⟩)⟩
      · cases rds
        exact mt_clear pins s σ H _ _ v us Q I rx rv ⟨_, _, rfl, rfl, h1, (hq _ _ hw) _ _ (Ste.mut ha mu) .non (rh.put mu ⟨_, upd_same, .nil⟩)⟩
      · obtain ⟨y, z, rfl, ry, rz⟩ := rds.two
        cases ry
        obtain ⟨⟨i1, i2, i3⟩, hw⟩ := hw
        exact mt_insert pins s σ H _ _ v us Q I rx rv ⟨_, _, _, _, rfl, rfl, h1, by omega, i2, i3, (hq _ _ hw) _ _ (Ste.mut ha mu) .non (rh.put mu ⟨_, upd_same, (((r1.take _).append (.cons rz .nil)).append (r1.drop _)).le (Le.mut mu)⟩)⟩
      · exact hw.elim
    · cases rd
      exact md_ok R I rx rv rds rh hw hq
    · cases rd
      exact md_ok R I rx rv rds rh hw hq
    · exact hw.elim
  · cases rd
    unfold wMS at hw
    split at hw
    · split at hw
      · rename_i ys hy
        obtain ⟨ss, e, hs, hw⟩ := hw
        subst e
        obtain ⟨y, rfl, ry⟩ := rds.one
        obtain ⟨p, vs, rfl, sq, r1⟩ := seqOf_rd rh ry hy
        rw [sL_rd r1] at sq
        exact mt_join pins s σ H _ _ v us Q I rx rv ⟨_, _, _, rfl, rfl, sq, hs, by rw [TL.join_eq]; exact (hq _ _ hw).here (.str _) rh⟩
      · exact hw.elim
    · obtain ⟨y, rfl, ry⟩ := rds.one
      cases ry
      obtain ⟨i1, i2, hw⟩ := hw
      exact mt_split pins s σ H _ _ v us Q I rx rv ⟨_, _, rfl, rfl, i1, by omega, fun p hp => (hq _ _ (hw p (rh.free hp))) _ _ (Ste.new hp) (.ref _) (rh.new hp ⟨_, upd_same, rd_sL _⟩)⟩
    · obtain ⟨y, rfl, ry⟩ := rds.one
      cases ry
      obtain ⟨i1, i2, hw⟩ := hw
      exact mt_partition pins s σ H _ _ v us Q I rx rv ⟨_, _, rfl, rfl, i1, by omega, fun p hp => (hq _ _ hw) _ _ (Ste.side hp) (.tup upd_same (.cons (.str _) (.cons (.str _) (.cons (.str _) .nil)))) (rh.side hp)⟩
    · cases rds
      exact mt_upper pins s σ H _ _ v us Q I rx rv ⟨_, rfl, rfl, hw.1, (hq _ _ hw.2).here (.str _) rh⟩
    · exact hw.elim
  · exact hw.elim
end
end DL

/-! DL, part E2: t[::-1] of lists and tuples -/
namespace DL
open PySem PySem.Spec PyProof.Rows L2

theorem back_adj (n : Nat) : Builtin.Slice.sliceAdjust none none (-1) (n : Int) = ((n : Int) - 1, -1) := rfl
theorem back_cnt (n : Nat) : Builtin.Slice.slicePlaces ((n : Int) - 1) (-1) (-1) = n := by
  unfold Builtin.Slice.slicePlaces
  rw [if_neg (by omega)]
  by_cases h : ((n : Int) - 1) > -1
  · rw [if_pos h]
    have e : (-(-1 : Int)) = 1 := rfl
    rw [e, Int.ediv_one]
    omega
  · rw [if_neg h]
    omega
theorem back_pick (xs : List Value) : (List.range xs.toArray.size).filterMap (fun (m : Nat) => xs.toArray[(((xs.toArray.size : Nat) : Int) - 1 + (m : Int) * (-1)).toNat]?) = xs.reverse := by
  rw [List.size_toArray]
  have key : ∀ k, k ≤ xs.length → (List.range k).filterMap (fun (m : Nat) => xs.toArray[((xs.length : Int) - 1 + (m : Int) * (-1)).toNat]?) = xs.reverse.take k := by
    intro k
    induction k with
    | zero => intro _; rfl
    | succ k ih =>
      intro hk
      have hl : k < xs.reverse.length := by rw [List.length_reverse]; omega
      have e1 : ((xs.length : Int) - 1 + (k : Int) * (-1)).toNat = xs.length - 1 - k := by omega
      have e2 : xs.toArray[xs.length - 1 - k]? = xs.reverse[k]? := by
        rw [List.getElem?_toArray, List.getElem?_reverse (by omega)]
      rw [List.range_succ, List.filterMap_append, ih (by omega), List.take_add_one]
      congr 1
      rw [List.filterMap_cons, e1, e2, List.getElem?_eq_getElem hl]
      rfl
  rw [key _ (Nat.le_refl _), ← List.length_reverse, List.take_length]
section
variable {prog : Program} {w : World} {A : Around} {E : Value → Shared → Prop} {s : Shared}
theorem back_app {sl : Addr} {vs : Value} {n : Nat} {Q : Int × Int × Nat → Shared → Prop} (hs : s.heap.IsSliceOf sl .none .none vs) (ps : IsPart vs (some (-1))) (h : Q ((n : Int) - 1, -1, n) s) :
    wpAny (model prog w) A (Builtin.Slice.sliceApplied (.ref sl) (pure (n : Int))) Q E s := by
  obtain ⟨os, h1, h2, h3⟩ := hs
  unfold Builtin.Slice.sliceApplied Builtin.Slice.sliceFields
  refine wpAny_bind (wpAny_bind (wpAny_field h1 h3 (x := .none) rfl ?_))
  refine wpAny_bind (wpAny_field h1 h3 (x := .none) rfl ?_)
  refine wpAny_bind (wpAny_field h1 h3 (x := vs) rfl (wpAny_pure ?_))
  refine wpAny_bind (HT.slicePart_ ps ?_)
  show wpAny _ _ (if ((-1 : Int) == 0) = true then _ else _) _ _ s
  rw [if_neg (by decide)]
  refine wpAny_bind (slicePart_none ?_)
  refine wpAny_bind (slicePart_none ?_)
  refine wpAny_bind (wpAny_pure ?_)
  show wpAny _ _ (match Builtin.Slice.sliceAdjust none none (-1) (n : Int) with | (lo, hi) => pure (lo, (-1 : Int), Builtin.Slice.slicePlaces lo hi (-1))) _ _ s
  rw [back_adj]
  show wpAny _ _ (pure ((n : Int) - 1, (-1 : Int), Builtin.Slice.slicePlaces ((n : Int) - 1) (-1) (-1))) _ _ s
  rw [back_cnt]
  exact wpAny_pure h
theorem back_tup {t sl : Addr} {its : List Value} {vs : Value} {Q : Value → Shared → Prop} (ht : IsTup s.heap t its.toArray) (hs : s.heap.IsSliceOf sl .none .none vs) (ps : IsPart vs (some (-1))) (hz : its.length ≤ sizeLine)
    (h : Q (.ref s.heap.objs.size) { s with heap := s.heap.push { cls := .type "tuple", data := .seq its.reverse.toArray } }) : wpAny (model prog w) A (getItem (.ref t) (.ref sl)) Q E s := by
  have hk : sizeOk (.seq its.reverse.toArray) := by
    show its.reverse.toArray.size ≤ sizeLine
    rw [List.size_toArray, List.length_reverse]
    exact hz
  have hT : s.TypeIs (.ref sl) "slice" := let ⟨os, h1, h2, _⟩ := hs; ⟨os, h1, h2⟩
  unfold getItem
  try with_reducible refine wpAny_holding ?_
  first | refine wpAny_bind (wpAny_pure ?_) | skip
  refine wpAny_bind (wpAny_sequenceKey ht.typeIs (by decide) (wpAny_bind (wpAny_callSpecial?_slot (name := Str.ofString "__getitem__") ht.typeIs PyProof.Rows.slot_tuple_getitem (wpAny_call_entry PyProof.Rows.slot_tuple_getitem ht.typeIs entry_tuple_getitem ?_ (args_tuple_getitem _ _)))))
  show wpAny _ _ (Builtin.Tuple.tupleItemsOf (.ref t) >>= _) _ _ s
  refine wpAny_bind (tupleItemsOf_ ht (wpAny_bind (wpAny_typeOf hT ?_)))
  rw [if_pos (by decide)]
  refine wpAny_bind (back_app hs ps ?_)
  show wpAny _ _ (if ((((its.toArray.size : Nat) : Int) - 1) == 0 && (-1 : Int) == 1 && its.toArray.size == its.toArray.size) = true then _ else _) _ _ s
  rw [if_neg (by
    intro q
    rw [Bool.and_eq_true, Bool.and_eq_true] at q
    exact absurd q.1.2 (by decide)), back_pick]
  first
    | exact wpAny_bind (m := Builtin.Tuple.tupleExact _) (wpAny_newObj_type (wpAny_pure ⟨_, rfl, wpAny_pure h⟩) hk)
    | exact wpAny_bind (m := Builtin.Tuple.tupleExact _) (wpAny_newObj_type (wpAny_bind (wpAny_pure (wpAny_pure ⟨_, rfl, wpAny_pure h⟩))) hk)
    | exact wpAny_bind (wpAny_bind (m := Builtin.Tuple.tupleExact _) (wpAny_newObj_type (wpAny_pure (wpAny_pure ⟨_, rfl, wpAny_pure h⟩)) hk))
    | exact wpAny_bind (wpAny_bind (m := Builtin.Tuple.tupleExact _) (wpAny_newObj_type (wpAny_pure ⟨_, rfl, wpAny_pure h⟩) hk))
end
section
variable {X : Cx} {pos : Pos}
/-- a text turned about -/
def revS (z : Str) : Str := ⟨((Builtin.Str.strSliceIndices none none (-1) z.length).filterMap (z.cps[·]?)).toArray⟩
/-- e[::-1] of a text, a list or a tuple -/
def tBack (K : PySem.W.Frag) (te : TE) : TE := fun σ H Q => te σ H fun x H1 => (∃ z, x = .str z ∧ (revS z).length ≤ sizeLine ∧ Q (.str (revS z)) H1) ∨ ∃ a xs, x = .ref a ∧ ((SqL K H1 a xs ∧ ∀ p, H1 p = none → Q (.ref p) (upd H1 p (.lst xs.reverse))) ∨ (SqT K H1 a xs ∧ ∀ p, H1 p = none → Q (.ref p) (upd H1 p (.tup xs.reverse))))
theorem pe_back {e : Expr} {te : TE} {k : Nat} {p1 p2 p3 : Pos} (he : PE X e te) : PE X (.Subscript e (.Slice none none (some (.UnaryOp .USub (.Constant (.int 1) k p1) p2)) p3) pos) (tBack X.K te) := by
  refine ⟨fun pins s σ H Q I h => Subscript_ (thn (he.run pins s σ H _ I h) fun v s1 ⟨x, H1, I1, r1, q⟩ => ?_)⟩
  have step : PO X (some (.UnaryOp .USub (.Constant (.int 1) k p1) p2)) (tPart (tUn (rU fun i => .int (-i)) (tC (.int 1)))) := po_some (pe_un un_neg pe_int)
  refine wpAny_Slice (thn (po_none.run pins s1 σ H1 (fun o H2 => o = none ∧ H2 = H1) I1 ⟨rfl, rfl⟩) fun v1 s2 ⟨o1, H2, I2, g1, z1, y1⟩ => ?_)
  subst z1 y1
  refine thn (po_none.run pins s2 σ H2 (fun o H3 => o = none ∧ H3 = H2) I2 ⟨rfl, rfl⟩) fun v2 s3 ⟨o2, H3, I3, g2, z2, y2⟩ => ?_
  subst z2 y2
  refine thn (step.run pins s3 σ H3 (fun o H4 => o = some (-1) ∧ H4 = H3) I3 ⟨1, rfl, -1, rfl, rfl, rfl⟩) fun v3 s4 ⟨o3, H4, I4, g3, z3, y3⟩ => ?_
  subst z3 y3
  have n1 : v1 = .none := by cases g1; rfl
  have n2 : v2 = .none := by cases g2; rfl
  subst n1 n2
  have I5 : Inv X pins σ H4 { s4 with heap := s4.heap.push { cls := .type "slice", data := .fields #[.none, .none, v3] } } := I4.kept (t' := s4.toks) fun _ _ z => Heap.get?_push_of_some _ z
  show wpAny (model X.prog X.w) X.A (subscriptTail e (.Slice none none (some (.UnaryOp .USub (.Constant (.int 1) k p1) p2)) p3) v (.ref s4.heap.objs.size)) (EP X pins σ Q) X.xe _
  rcases q with ⟨z, ex, hz, q⟩ | ⟨a, xs, ex, q⟩
  · subst ex
    obtain ⟨t, rfl⟩ := r1
    cases g3 with
    | int _ tk =>
      refine tail_any (ops := [.str z t, .ref s4.heap.objs.size]) (typeIs_str _ z t) PySem.F.slot_str_getitem.lookup ?_ (by with_unfolding_all rfl)
      refine wpAny_getItem_str_slice (l := none) (u := none) (st := some (-1, tk)) ⟨_, Heap.get?_push_size _ rfl, rfl, rfl⟩ rfl ?_
      exact ⟨hz, .str _, _, I5.tok _, ⟨_, rfl⟩, q⟩
  · subst ex
    cases r1
    rcases q with ⟨hx, q⟩ | ⟨hx, q⟩
    · obtain ⟨its, r, ht, hz⟩ := I5.list hx
      have hlen := r.length
      refine tail_any (ops := [.ref a, .ref s4.heap.objs.size]) ht.isList.typeIs (PySem.slot_list_getitem.lookup) ?_ (by with_unfolding_all rfl)
      refine wpAny_getItem_list_slice ht.isList (Heap.IsSliceOf.new _ .none .none v3) g1 g2 g3 (by decide) ?_ (by rw [List.size_toArray]; omega)
      rw [PySem.W.krv_pick]
      refine ⟨.ref _, _, I5.laid (t' := s4.toks) (o := .lst xs.reverse) (fun _ _ z => Heap.get?_push_of_some _ z) (Nat.le_refl _) ?_, rfl, q _ (I5.hok.fresh (Nat.le_refl _))⟩
      refine ⟨?_, _, 0, r.reverse, Heap.get?_push_size _ rfl⟩
      rw [List.length_reverse]
      exact hz
    · obtain ⟨its, r, ht, hz⟩ := I5.tuple hx
      have hlen := r.length
      refine tail_any (ops := [.ref a, .ref s4.heap.objs.size]) ht.typeIs (PyProof.Rows.slot_tuple_getitem.lookup) ?_ (by with_unfolding_all rfl)
      refine back_tup ht (Heap.IsSliceOf.new _ .none .none v3) g3 (by omega) ?_
      refine ⟨.ref _, _, I5.laid (t' := s4.toks) (o := .tup xs.reverse) (fun _ _ z => Heap.get?_push_of_some _ z) (Nat.le_refl _) ?_, rfl, q _ (I5.hok.fresh (Nat.le_refl _))⟩
      refine ⟨?_, _, r.reverse, IsTup.new _ _⟩
      rw [List.length_reverse]
      exact hz
end
end DL

/-! DL, part E3: min(xs, default=d); list(range(a, b)) -/
namespace DL
open PySem PySem.Spec PyProof.Rows L2

theorem minOf_spec : ∀ (ys : List Int) (y : Int), PySem.W.minOf y ys ∈ y :: ys ∧ ∀ z ∈ y :: ys, PySem.W.minOf y ys ≤ z
  | [], y => ⟨by simp [PySem.W.minOf], fun z hz => by
      have : z = y := by simpa using hz
      subst this
      exact Int.le_refl _⟩
  | x :: ys, y => by
    have e : PySem.W.minOf y (x :: ys) = PySem.W.minOf (if decide (x < y) = true then x else y) ys := rfl
    have ih := minOf_spec ys (if decide (x < y) = true then x else y)
    rw [e]
    by_cases g : x < y
    · rw [if_pos (decide_eq_true g)] at ih ⊢
      refine ⟨List.mem_cons_of_mem _ ih.1, fun z hz => ?_⟩
      rcases List.mem_cons.mp hz with rfl | hz
      · have := ih.2 x (by simp)
        omega
      · exact ih.2 z hz
    · rw [if_neg (by simpa using g)] at ih ⊢
      refine ⟨?_, fun z hz => ?_⟩
      · rcases List.mem_cons.mp ih.1 with q | q
        · rw [q]; simp
        · exact List.mem_cons_of_mem _ (List.mem_cons_of_mem _ q)
      · rcases List.mem_cons.mp hz with rfl | hz
        · exact ih.2 z (by simp)
        · rcases List.mem_cons.mp hz with rfl | hz
          · have := ih.2 y (by simp)
            omega
          · exact ih.2 z (List.mem_cons_of_mem _ hz)
theorem holds_ints {h : Heap} : ∀ {ns : List Int} {us : List Value}, Vals (ns.map V.int) us → PySem.W.HoldAll h us ns
  | [], _, .nil => ⟨_, .nil⟩
  | n :: ns, _, .cons r rs => by
    obtain ⟨t, rfl⟩ := r
    obtain ⟨as, q⟩ := holds_ints (h := h) rs
    exact ⟨_, .cons (.int n t) q⟩
section
variable {X : Cx}
def rMinD (K : PySem.W.Frag) : List V → List V → Hp → VK → Prop := fun xs zs H Q => ∃ p ns z, xs = [.ref p] ∧ SqL K H p (ns.map V.int) ∧ zs = [z] ∧ (ns = [] → Q z H) ∧ ∀ m, m ∈ ns → (∀ y, y ∈ ns → m ≤ y) → Q (.int m) H
theorem cr_minD (hc : X.calm = true) (hu : X.A.units + 64 < cLine) : CallRK X (.builtin "min") [Str.ofString "default"] (rMinD X.K) := by
  intro pins s σ H xs zs us ws Q I r rz ⟨p, ns, z, ex, sq, ez, h0, hm⟩
  subst ex ez
  obtain ⟨its, rv, pl, _⟩ := I.list sq
  rw [Vals.ref1 r]
  obtain ⟨w1, rfl, e1⟩ := vals1 rz
  refine PySem.W.min_list_datum_default (α := Int) (xs := ns) (I.ok.hd hc) pl.isList ?_ ?_ (fun e h' tk hk => ⟨z, H, I.kept (t' := tk) hk, e1, h0 e⟩) fun y ys i v h' tk e hi hv hk => ?_
  · exact holds_ints (by simpa using rv)
  · show X.A.units + 1 + PySem.W.Datum.depth Int < cLine
    have : PySem.W.Datum.depth Int ≤ 8 := by decide
    omega
  · obtain ⟨as, rd⟩ := hv
    have sp := minOf_spec ys y
    rw [← e] at sp
    have : ∃ t, v = .int (PySem.W.minOf y ys) t := by
      cases rd with
      | int _ t => exact ⟨t, rfl⟩
    obtain ⟨t, rfl⟩ := this
    exact ⟨.int _, H, I.kept (t' := tk) hk, ⟨t, rfl⟩, hm _ sp.1 sp.2⟩
end
end DL

/-! DL, part F: the core syntax and its meaning -/
namespace DL
open PySem PySem.Spec PyProof.Rows L2

mutual
inductive CT where
  | nam (i : Nat)
  | tup (ts : CTs)
inductive CTs where
  | nil
  | cons (t : CT) (ts : CTs)
end
mutual
inductive CE where
  | non | bl (b : Bool) | int (i : Int) | str (x : Str) | var (i : Nat) | glb (i : Nat)
  | bin (op : Operator) (a b : CE) | neg (a : CE) | no (a : CE) | and (a b : CE) | or (a b : CE)
  | cmp (op : CmpOp) (a b : CE) | chn (op op' : CmpOp) (a b c : CE) | ife (t a b : CE)
  | tup (es : CEs) | lst (es : CEs) | dnew
  | idx (a i : CE) | slc (a : CE) (lo hi : CO)
  | call (f : Nat) (es : CEs) | blt (f : Blt) (es : CEs) | mtd (m : Mtd) (o : CE) (es : CEs)
  | isi (a : CE) (T : String)
  | comp (own : List (Str × Nat)) (t : CT) (it : CI) (test : CO) (e : CE)
  | dis (ks : List Key) (es : CEs) | rev (a : CE)
  /-- min(a, default=d); list(range(a, b)) -/
  | mnd (a d : CE) | lrg (a b : CE)
inductive CEs where
  | nil
  | cons (e : CE) (es : CEs)
inductive CO where
  | none
  | some (e : CE)
inductive CI where
  | any (e : CE) | rng1 (e : CE) | rng2 (a b : CE) | zip (a b : CE) | enm (a : CE)
end
mutual
inductive CS where
  | set (i : Nat) (e : CE) | unp (ts : CTs) (e : CE) | par2 (i j : Nat) (a b : CE) | par3 (i j k : Nat) (a b c : CE)
  | put (o k e : CE) | aug (i : Nat) (op : Operator) (e : CE)
  | exp (e : CE) | ret (e : CE) | retN | ife (c : CE) (a b : CSs) | for (t : CT) (it : CI) (b : CSs) | whl (c : CE) (b : CSs) | pas
  /-- what is never reached -/
  | nev
inductive CSs where
  | nil
  | cons (c : CS) (cs : CSs)
end

/-- what is walked -/
inductive DIt where
  | lst (a : Addr) | fix (xs : List D) | rng (lo : Int) (n : Nat) | str (x : Str) | zip (p q : DIt) | enm (p : DIt)
/-- none: not known; some none: it stops -/
def nextD : DIt → Nat → DH → Option (Option D)
  | .lst a, i, h => match h a with
    | some (.lst xs) => some xs[i]?
    | _ => none
  | .fix xs, i, _ => some xs[i]?
  | .rng lo n, i, _ => some (if i < n then some (.int (lo + i)) else none)
  | .str x, i, _ => some (x.cps[i]?.map fun c => .str ⟨#[c]⟩)
  | .zip p q, i, h => match nextD p i h, nextD q i h with
    | some (some x), some (some y) => some (some (.tup [x, y]))
    | some none, some _ => some none
    | some _, some none => some none
    | _, _ => none
  | .enm p, i, h => match nextD p i h with
    | some (some x) => some (some (.tup [.int i, x]))
    | r => r

/-- the meaning of a call of a def -/
abbrev Fns := Nat → List D → DH → QD → XD → Prop

def CTs.len : CTs → Nat
  | .nil => 0
  | .cons _ ts => ts.len + 1

mutual
/-- a store to a target -/
def wTg : CT → D → DSt → DH → (DSt → DH → Prop) → Prop
  | .nam i => fun d s h Q => Q (s.set i (some d)) h
  | .tup ts => fun d s h Q => match seqOf d h with
    | some ds => ds.length = ts.len ∧ wTgs ts ds s h Q
    | none => False
def wTgs : CTs → List D → DSt → DH → (DSt → DH → Prop) → Prop
  | .nil => fun ds s h Q => ds = [] ∧ Q s h
  | .cons t ts => fun ds s h Q => match ds with
    | d :: r => wTg t d s h fun s' h' => wTgs ts r s' h' Q
    | [] => False
end
mutual
/-- the slots of a target -/
def CT.slots : CT → List Nat
  | .nam i => [i]
  | .tup ts => ts.slots
def CTs.slots : CTs → List Nat
  | .nil => []
  | .cons t ts => t.slots ++ ts.slots
end
/-- the type of a value, as isinstance asks -/
def tyOf (d : D) (h : DH) : Option String := match d with
  | .non => some "NoneType"
  | .bl _ => some "bool"
  | .int _ => some "int"
  | .str _ => some "str"
  | .tup _ => some "tuple"
  | .kt _ => some "tuple"
  | .fl _ => some "list"
  | .ref a => match h a with
    | some (.lst _) => some "list"
    | some (.dK _) => some "dict"
    | some (.dT _) => some "dict"
    | _ => none
def isTy (a b : String) : Bool := a == b || (a == "bool" && b == "int")
def wIsi (T : String) (d : D) (h : DH) (Q : QD) : Prop := match tyOf d h with
  | some t => Q (.bl (isTy t T)) h
  | none => False

def isSeqL (d : D) (h : DH) : Option DIt := match d with
  | .fl xs => some (.fix xs)
  | .ref a => match h a with
    | some (.lst _) => some (.lst a)
    | _ => none
  | _ => none
def isSeqT (d : D) : Option DIt := match d with
  | .tup xs => some (.fix xs)
  | .kt xs => some (.fix xs)
  | _ => none
def iAny (d : D) (h : DH) (R : DIt → DH → Prop) : Prop := match d with
  | .str x => R (.str x) h
  | d => match isSeqL d h with
    | some J => R J h
    | none => match isSeqT d with
      | some J => R J h
      | none => False
def iRng (i j : Int) (h : DH) (R : DIt → DH → Prop) : Prop := (-(2 ^ 62) ≤ i ∧ i < 2 ^ 62 ∧ -(2 ^ 62) ≤ j ∧ j < 2 ^ 62) ∧ R (.rng i (j - i).toNat) h
def iZp (d e : D) (h : DH) (R : DIt → DH → Prop) : Prop := match isSeqL d h, isSeqL e h with
  | some J, some J' => R (.zip J J') h
  | _, _ => match isSeqT d, isSeqT e with
    | some J, some J' => R (.zip J J') h
    | _, _ => False
def iEn (d : D) (h : DH) (R : DIt → DH → Prop) : Prop := match isSeqL d h with
  | some J => R (.enm J) h
  | none => False

/-- a loop: W by the turn, a measure and the state -/
def wLoop (J : DIt) (tg : D → DSt → DH → (DSt → DH → Prop) → Prop) (body : DSt → DH → (DSt → DH → Prop) → Prop) (s : DSt) (h : DH) (nx : DSt → DH → Prop) : Prop :=
  ∃ W : Nat → Nat → DSt → DH → Prop, (∃ m, W 0 m s h) ∧ ∀ i m s h, W i m s h → match nextD J i h with
    | none => False
    | some none => nx s h
    | some (some d) => ∃ N : DSt → DH → Prop, (∀ s' h', N s' h' → ∃ m', m' < m ∧ W (i + 1) m' s' h') ∧ tg d s h fun s2 h2 => body s2 h2 N
/-- a comprehension: W by the turn, a measure, the heap and what is made so far -/
def wComp (J : DIt) (turn : D → DH → (Bool → DSt → DH → Prop) → Prop) (elt : DSt → DH → QD → Prop) (h : DH) (Q : QD) : Prop :=
  ∃ W : Nat → Nat → DH → List D → Prop, (∃ m, W 0 m h []) ∧ ∀ i m h acc, W i m h acc → match nextD J i h with
    | none => False
    | some none => ∀ p, h p = none → Q (.ref p) (up h p (.lst acc))
    | some (some d) => ∃ N : DH → List D → Prop, (∀ h' acc', N h' acc' → ∃ m', m' < m ∧ W (i + 1) m' h' acc') ∧
        turn d h fun b s2 h2 => if b = true then elt s2 h2 fun y h3 => acc.length < 16777216 ∧ N h3 (acc ++ [y]) else N h2 acc
def wWhile (c : DSt → DH → (Bool → DH → Prop) → Prop) (body : DSt → DH → (DSt → DH → Prop) → Prop) (s : DSt) (h : DH) (nx : DSt → DH → Prop) : Prop :=
  ∃ W : Nat → DSt → DH → Prop, (∃ m, W m s h) ∧ ∀ m s h, W m s h → c s h fun b h1 => if b = true then ∃ N : DSt → DH → Prop, (∀ s' h', N s' h' → ∃ m', m' < m ∧ W m' s' h') ∧ body s h1 N else nx s h1

/-- a value that is a truth -/
def asB (Q : Bool → DH → Prop) : QD := fun d h => match d with
  | .bl b => Q b h
  | _ => False

/-- the pairs of a display put in, from the left -/
def dputs (ks : List Key) (ds : List D) : List (Key × D) := (ks.zip ds).foldl (fun acc kv => dput acc kv.1 kv.2) []
def wMnd (x d : D) (h : DH) (Q : QD) : Prop := match lstOf x h with
  | some xs => ∃ ns, xs = iL ns ∧ (ns = [] → Q d h) ∧ ∀ m, m ∈ ns → (∀ y, y ∈ ns → m ≤ y) → Q (.int m) h
  | none => False
def rgD (a b : Int) : List D := (List.range (b - a).toNat).map fun i => .int (a + (i : Nat))
def wLrg (x y : D) (h : DH) (Q : QD) : Prop := match x, y with
  | .int i, .int j => RgOk i j ∧ ∀ p, h p = none → Q (.ref p) (up h p (.lst (rgD i j)))
  | _, _ => False
def wRev (x : D) (h : DH) (Q : QD) : Prop := match x with
  | .str z => (revS z).length ≤ 16777216 ∧ Q (.str (revS z)) h
  | .tup xs => Q (.tup xs.reverse) h
  | x => match lstOf x h with
    | some xs => ∀ p, h p = none → Q (.ref p) (up h p (.lst xs.reverse))
    | none => False
mutual
def wE (gl : List D) (F : Fns) : CE → DSt → DH → QD → XD → Prop
  | .non => fun _ h Q _ => Q .non h
  | .bl b => fun _ h Q _ => Q (.bl b) h
  | .int i => fun _ h Q _ => Q (.int i) h
  | .str x => fun _ h Q _ => Q (.str x) h
  | .var i => fun s h Q _ => match s[i]? with
    | some (some d) => Q d h
    | _ => False
  | .glb i => fun _ h Q _ => match gl[i]? with
    | some d => Q d h
    | none => False
  | .bin op a b => fun s h Q E => wE gl F a s h (fun x h1 => wE gl F b s h1 (fun y h2 => wBin op x y h2 Q) E) E
  | .neg a => fun s h Q E => wE gl F a s h (fun x h1 => wNeg x h1 Q) E
  | .no a => fun s h Q E => wE gl F a s h (asB fun b h1 => Q (.bl (!b)) h1) E
  | .and a b => fun s h Q E => wE gl F a s h (asB fun c h1 => if c = true then wE gl F b s h1 (asB fun c' h2 => Q (.bl c') h2) E else Q (.bl false) h1) E
  | .or a b => fun s h Q E => wE gl F a s h (asB fun c h1 => if c = true then Q (.bl true) h1 else wE gl F b s h1 (asB fun c' h2 => Q (.bl c') h2) E) E
  | .cmp op a b => fun s h Q E => wE gl F a s h (fun x h1 => wE gl F b s h1 (fun y h2 => wCmp op x y h2 Q) E) E
  | .chn op op' a b c => fun s h Q E => wE gl F a s h (fun x h1 => wE gl F b s h1 (fun y h2 => wCmp op x y h2 (asB fun k h3 => if k = true then wE gl F c s h3 (fun z h4 => wCmp op' y z h4 Q) E else Q (.bl false) h3)) E) E
  | .ife t a b => fun s h Q E => wE gl F t s h (asB fun c h1 => if c = true then wE gl F a s h1 Q E else wE gl F b s h1 Q E) E
  | .tup es => fun s h Q E => wEs gl F es s h (fun ds h1 => ds.length ≤ 16777216 ∧ Q (.tup ds) h1) E
  | .lst es => fun s h Q E => wEs gl F es s h (fun ds h1 => ds.length ≤ 16777216 ∧ ∀ p, h1 p = none → Q (.ref p) (up h1 p (.lst ds))) E
  | .dnew => fun _ h Q _ => (∀ p, h p = none → Q (.ref p) (up h p (.dK []))) ∨ (∀ p, h p = none → Q (.ref p) (up h p (.dT [])))
  | .idx a i => fun s h Q E => wE gl F a s h (fun x h1 => wE gl F i s h1 (fun y h2 => wIdx x y h2 Q) E) E
  | .slc a lo hi => fun s h Q E => wE gl F a s h (fun x h1 => wO gl F lo s h1 (fun l h2 => wO gl F hi s h2 (fun u h3 => wSlc x l u h3 Q) E) E) E
  | .call f es => fun s h Q E => wEs gl F es s h (fun ds h1 => F f ds h1 Q E) E
  | .blt f es => fun s h Q E => wEs gl F es s h (fun ds h1 => wB f ds h1 Q) E
  | .mtd m o es => fun s h Q E => wE gl F o s h (fun x h1 => tyD m.ty x h1 ∧ wEs gl F es s h1 (fun ds h2 => wM m x ds h2 Q) E) E
  | .isi a T => fun s h Q E => wE gl F a s h (fun x h1 => wIsi T x h1 Q) E
  | .comp own t it test e => fun s h Q E => wI gl F it s h (fun J h1 => wComp J (fun d h2 R => wTg t d (wipeD s (own.map (·.2))) h2 fun s2 h3 => wT gl F test s2 h3 fun b h4 => R b s2 h4) (fun s2 h2 R => wE gl F e s2 h2 R fun _ _ => False) h1 Q) E
  | .dis ks es => fun s h Q E => ∀ p, h p = none → wEs gl F es s (up h p (.dK [])) (fun ds h2 => h2 p = some (.dK []) ∧ Q (.ref p) (up h2 p (.dK (dputs ks ds)))) E
  | .rev a => fun s h Q E => wE gl F a s h (fun x h1 => wRev x h1 Q) E
  | .mnd a d => fun s h Q E => wE gl F a s h (fun x h1 => wE gl F d s h1 (fun y h2 => wMnd x y h2 Q) E) E
  | .lrg a b => fun s h Q E => wE gl F a s h (fun x h1 => wE gl F b s h1 (fun y h2 => wLrg x y h2 Q) E) E
def wEs (gl : List D) (F : Fns) : CEs → DSt → DH → (List D → DH → Prop) → XD → Prop
  | .nil => fun _ h Q _ => Q [] h
  | .cons e es => fun s h Q E => wE gl F e s h (fun x h1 => wEs gl F es s h1 (fun xs h2 => Q (x :: xs) h2) E) E
/-- a part of a slice -/
def wO (gl : List D) (F : Fns) : CO → DSt → DH → (Option Int → DH → Prop) → XD → Prop
  | .none => fun _ h Q _ => Q none h
  | .some e => fun s h Q E => wE gl F e s h (fun x h1 => match x with
    | .int i => Q (some i) h1
    | _ => False) E
/-- a comprehension's test -/
def wT (gl : List D) (F : Fns) : CO → DSt → DH → (Bool → DH → Prop) → Prop
  | .none => fun _ h Q => Q true h
  | .some e => fun s h Q => wE gl F e s h (asB Q) fun _ _ => False
def wI (gl : List D) (F : Fns) : CI → DSt → DH → (DIt → DH → Prop) → XD → Prop
  | .any e => fun s h R E => wE gl F e s h (fun d h1 => iAny d h1 R) E
  | .rng1 e => fun s h R E => wE gl F e s h (fun d h1 => match d with
    | .int j => iRng 0 j h1 R
    | _ => False) E
  | .rng2 a b => fun s h R E => wE gl F a s h (fun d h1 => wE gl F b s h1 (fun e h2 => match d, e with
    | .int i, .int j => iRng i j h2 R
    | _, _ => False) E) E
  | .zip a b => fun s h R E => wE gl F a s h (fun d h1 => wE gl F b s h1 (fun e h2 => iZp d e h2 R) E) E
  | .enm a => fun s h R E => wE gl F a s h (fun d h1 => iEn d h1 R) E
end

mutual
def wS (gl : List D) (F : Fns) (rt : QD) (ex : SXD) : CS → DSt → DH → (DSt → DH → Prop) → Prop
  | .set i e => fun s h nx => wE gl F e s h (fun d h1 => nx (s.set i (some d)) h1) fun x h' => ex x s h'
  | .unp ts e => fun s h nx => wE gl F e s h (fun d h1 => wTg (.tup ts) d s h1 nx) fun x h' => ex x s h'
  | .par2 i j a b => fun s h nx => wE gl F a s h (fun d h1 => wE gl F b s h1 (fun e h2 => nx ((s.set i (some d)).set j (some e)) h2) fun x h' => ex x s h') fun x h' => ex x s h'
  | .par3 i j k a b c => fun s h nx => wE gl F a s h (fun d h1 => wE gl F b s h1 (fun e h2 => wE gl F c s h2 (fun f h3 => nx (((s.set i (some d)).set j (some e)).set k (some f)) h3) fun x h' => ex x s h') fun x h' => ex x s h') fun x h' => ex x s h'
  | .put o k e => fun s h nx => wE gl F e s h (fun v h1 => wE gl F o s h1 (fun x h2 => wE gl F k s h2 (fun y h3 => wSet x y v h3 fun h4 => nx s h4) fun x h' => ex x s h') fun x h' => ex x s h') fun x h' => ex x s h'
  | .aug i op e => fun s h nx => match s[i]? with
    | some (some d) => wE gl F e s h (fun v h1 => (match op with
      | .Add => wI2 (fun _ _ => True) (fun i j => i + j) d v h1 fun z h2 => nx (s.set i (some z)) h2
      | .Sub => wSub d v h1 fun z h2 => nx (s.set i (some z)) h2
      | _ => False)) fun x h' => ex x s h'
    | _ => False
  | .exp e => fun s h nx => wE gl F e s h (fun _ h1 => nx s h1) fun x h' => ex x s h'
  | .ret e => fun s h nx => wE gl F e s h rt fun x h' => ex x s h'
  | .retN => fun s h nx => rt .non h
  | .ife c a b => fun s h nx => wE gl F c s h (asB fun k h1 => if k = true then wSs gl F rt ex a s h1 nx else wSs gl F rt ex b s h1 nx) fun x h' => ex x s h'
  | .for t it b => fun s h nx => wI gl F it s h (fun J h1 => wLoop J (wTg t) (wSs gl F rt ex b) s h1 nx) fun x h' => ex x s h'
  | .whl c b => fun s h nx => wWhile (fun s h Q => wE gl F c s h (asB Q) fun x h' => ex x s h') (wSs gl F rt ex b) s h nx
  | .pas => fun s h nx => nx s h
  | .nev => fun _ _ _ => False
def wSs (gl : List D) (F : Fns) (rt : QD) (ex : SXD) : CSs → DSt → DH → (DSt → DH → Prop) → Prop
  | .nil => fun s h nx => nx s h
  | .cons c cs => fun s h nx => wS gl F rt ex c s h fun s1 h1 => wSs gl F rt ex cs s1 h1 nx
end
end DL

/-! DL, part G: defs with guards told; the check; judgements -/
namespace DL
open PySem PySem.Spec PyProof.Rows L2

/-- an exception as it flies -/
def RX (K : PySem.W.Frag) (C : CA) (H : Hp) (x : Exn) (cls : Value) (d : Option Addr) : Prop :=
  cls = .ref (C x.cls) ∧ match d with
    | none => x.fs = []
    | some dx => ∃ gs, H dx = some (.xd gs) ∧ RPs K H gs x.fs

/-! ### defs -/
structure FnG (P : Program) (w : World) (K : PySem.W.Frag) (mg : Str → Option Value) (base : Heap) (k : Nat) (f : Addr) (fd : FuncData) (ps : List Str) (sp : Sp) : Prop where
  len : ∀ vs H Q E, sp vs H Q E → vs.length = ps.length
  run : ∀ (A : Around) (outer : List Env) (s : Shared) (H : Hp) (args : Args) (us : List Value) (vs : List V) (Q : VK) (E : XK), Room k A → A.guards = some [] → Env0 P w K mg base A outer s H → BindsTo s fd args (ps.zip us) → Vals vs us → sp vs H Q E →
    codeAny (model P w) A (.call (.ref f) args) (CR (L2.CX P w) outer P w H s Q E) s
theorem FnG.mono {P : Program} {w : World} {K : PySem.W.Frag} {mg : Str → Option Value} {base : Heap} {j k : Nat} {f : Addr} {fd : FuncData} {ps : List Str} {sp : Sp} (F : FnG P w K mg base j f fd ps sp) (h : j ≤ k) : FnG P w K mg base k f fd ps sp :=
  ⟨F.len, fun A outer s H args us vs Q E hr => F.run A outer s H args us vs Q E (hr.mono h)⟩
theorem deeper_guards (A : Around) (env : Env) : (A.deeper env).guards = A.guards := rfl

/-- a def of the text, by its body -/
theorem fnG_of {P : Program} {w : World} {K : PySem.W.Frag} {mg : Str → Option Value} {base : Heap} {k : Nat} {f : Addr} {name qual : Str} {params : Arguments} {body : List Stmt} {scope : Scope} {dV kV doc pm cdv ct oc : Value} {an od : Option Addr}
    {osl : Array (Option Value)} {N ps : List Str} {sp : Sp} (lk : K.lookup f = some ⟨oc, od, .func (PySem.W.fnOf name qual params body scope dV kV doc pm an cdv ct), osl⟩) (hcd : PySem.W.codeIn K cdv qual = true) (S : FnScope N ps scope)
    (len : ∀ vs H Q E, sp vs H Q E → vs.length = ps.length)
    (hbody : ∀ (A : Around) (outer : List Env) (s : Shared) (H : Hp) (vs : List V) (Q : VK) (E : XK), Room k (A.deeper (envOfC qual scope s.heap.objs.size f cdv)) → A.guards = some [] → sp vs H Q E →
      ∃ t, PSs (cxOf (L2.CX P w) P w K mg base N qual scope f cdv A outer s H E) body t ∧ t { nx := fun _ H' => Q .non H', rt := Q } (start N vs) H) :
    FnG P w K mg base (k + 1) f (PySem.W.fnOf name qual params body scope dV kV doc pm an cdv ct) ps sp := by
  refine ⟨len, fun A outer s H args us vs Q E hr hg e0 hb r hsp => ?_⟩
  have hl := len _ _ _ _ hsp
  have KX : K.In s.heap := e0.mod.kin.keeps fun b o e => (e0.bs b o e).1
  have lim : s.heap.NoLimit := e0.mod.nolimit.keeps fun b o e => (e0.bs b o e).1
  have hkind : ∀ y ∈ ps.zip us, scope.names.lookup y.1 = some .local ∨ (scope.names.lookup y.1 = some .cell ∧ ((cellsFrom (s.heap.objs.size + 1) scope.names []).lookup y.1).isSome = true) := fun ⟨n, v⟩ hy => by
    rcases S.par n (List.of_mem_zip hy).1 with q | q
    · exact .inl q
    · exact .inr ⟨q, PySem.W.cellsFrom_some _ _ _ (.inl q)⟩
  refine codeAny_call_function hr.depth (KX _ _ lk) rfl S.co S.gen rfl (PySem.W.codeRec_of KX hcd) (hb _ _ _ _ ?_)
  refine wpAny_newFunctionEnv_cells S.kind hkind fun env he s1 x => ?_
  subst he
  refine ⟨lim.keeps x.toInCall.keep, codeAny_func ?_⟩
  obtain ⟨t, ht, hq⟩ := hbody A outer s H vs Q E (hr.deeper _) hg hsp
  have I : Inv (cxOf (L2.CX P w) P w K mg base N qual scope f cdv A outer s H E) [] (start N vs) H s1 := inv_start S hr.hd e0 hl r x
  refine wpAny_mono (ht.run [] s1 (start N vs) H _ I hq) (fun fl s' hs => ?_) fun e s' hs => hs
  have fin : ∀ {σ' : L2.St} {H' : Hp} {v : V} {u : Value}, Inv (cxOf (L2.CX P w) P w K mg base N qual scope f cdv A outer s H E) [] σ' H' s' → RelV v u → Q v H' → L2.CE outer P w H s Q u s' :=
    fun {σ' H' v u} J rv q => ⟨v, H', J.os, J.bare, J.base, J.hok, rv, q⟩
  cases fl with
  | ret u =>
    obtain ⟨v, σ', H', J, rv, q⟩ := hs
    exact fin J rv q
  | next =>
    obtain ⟨σ', H', J, q⟩ := hs
    exact fin (v := V.non) (u := Value.none) J rfl q
  | brk =>
    obtain ⟨_, _, _, q⟩ := hs
    exact False.elim q
  | cont =>
    obtain ⟨_, _, _, q⟩ := hs
    exact False.elim q

section
variable {X : Cx} {k : Nat} {f : Addr} {fd : FuncData} {ps : List Str} {sp : Sp} {E : L2.St → XK} {x : Str} {p pos : Pos} {e : Expr} {es : List Expr} {t : TA}
theorem run_fnG {pins : List (Addr × Obj)} {σ : L2.St} {H : Hp} {s : Shared} {Q : VK} {us : List Value} {vs : List V} {E : XK} (F : FnG X.prog X.w X.K X.mg X.base k f fd ps sp) (hr : Room k X.A) (hg : X.A.guards = some []) (hb : Binds X.K fd ps []) (hx : PassesAt (L2.CX X.prog X.w) X σ E)
    (I : Inv X pins σ H s) (r : Vals vs us) (h : sp vs H Q E) : wpAny (model X.prog X.w) X.A (call (.ref f) us) (EP X pins σ Q) X.xe s := by
  have hl : us.length = ps.length := by rw [← r.length]; exact F.len _ _ _ _ h
  have b := hb s us I.kIn (by rw [List.append_nil]; exact hl)
  rw [List.append_nil] at b
  refine wpAny_call (codeAny_mono (F.run X.A X.stack s H ⟨us, []⟩ us vs Q E hr hg I.env0 b r h) fun r s' hq => ?_)
  cases r with
  | error e => exact hx pins H s e s' I hq
  | ok fl =>
    cases fl with
    | ret u => exact I.after hq
    | next => exact False.elim hq
    | brk => exact False.elim hq
    | cont => exact False.elim hq
theorem pe_callG (F : FnG X.prog X.w X.K X.mg X.base k f fd ps sp) (hr : Room k X.A) (hgu : X.A.guards = some []) (hg : Gl X x) (hm : X.mg x = some (.ref f)) (hk : PySem.W.keepIn X.K (.ref f) = true) (hb : Binds X.K fd ps []) (hx : ∀ σ, PassesAt (L2.CX X.prog X.w) X σ (E σ))
    (ha : PA X (e :: es) t) (hdb : (x == ("__debug__" : Str)) = false) (he : starEach (e :: es) X.env = (false, eval e X.env) :: starEach es X.env) (hpl : (backTo pos (starEach es X.env)).any (·.1) = false) :
    PE X (.Call (.Name x p) (e :: es) [] pos) (tCallS sp E t) := by
  refine ⟨fun pins s σ H Q I h => ?_⟩
  refine wpAny_Call_Name_kw (ld_glob I hg hm ?_ hdb)
  refine PySem.W.callWith_K (h₀ := X.base) I.ok.mod.kin hk (thn (ha.run pos pins s σ H _ I h) fun us s1 ⟨vs, H1, I1, r, q⟩ => ⟨I1.kIn, ?_⟩) he hpl
  exact run_fnG F hr hgu hb (hx σ) I1 r q
theorem pe_callG0 (F : FnG X.prog X.w X.K X.mg X.base k f fd ps sp) (hr : Room k X.A) (hgu : X.A.guards = some []) (hg : Gl X x) (hm : X.mg x = some (.ref f)) (hk : PySem.W.keepIn X.K (.ref f) = true) (hb : Binds X.K fd ps []) (hx : ∀ σ, PassesAt (L2.CX X.prog X.w) X σ (E σ))
    (hdb : (x == ("__debug__" : Str)) = false) : PE X (.Call (.Name x p) [] [] pos) (tCallS sp E tNil) := by
  refine ⟨fun pins s σ H Q I h => ?_⟩
  refine wpAny_Call_Name_kw (ld_glob I hg hm ?_ hdb)
  exact PySem.W.callWith_K0 I.kIn hk (run_fnG (us := []) F hr hgu hb (hx σ) I .nil h)
end

/-! ### the check -/
structure Gx where
  N : List Str
  sc : Scope
  fns : List Str
  cns : List Str
  bls : List Str
def visB (sc : Scope) (x : Str) : Bool := match sc.names.lookup x with
  | some .local => true
  | some .cell => true
  | some .free => true
  | _ => false
def locB (sc : Scope) (x : Str) : Bool := match sc.names.lookup x with
  | some .local => true
  | some .cell => true
  | _ => false
def lclB (sc : Scope) (x : Str) : Bool := match sc.names.lookup x with
  | some .local => true
  | _ => false
def glB (sc : Scope) (x : Str) : Bool := match sc.names.lookup x with
  | some .globalImplicit => true
  | _ => false
def okN (x : Str) : Bool := !(x == ("__debug__" : Str)) && !(x == ("__classdict__" : Str)) && !(x == ("__name__" : Str))
def notStar : Expr → Bool
  | .Starred _ _ => false
  | _ => true
def notSet : Expr → Bool
  | .Set _ _ _ => false
  | _ => true
def notSlice : Expr → Bool
  | .Slice _ _ _ _ => false
  | _ => true
def notCall0 : Expr → Bool
  | .Call _ [] _ _ => false
  | _ => true
def notComp : Expr → Bool
  | .ListComp _ _ _ _ => false
  | .SetComp _ _ _ _ => false
  | .DictComp _ _ _ _ _ => false
  | _ => true
def isTupE : Expr → Bool
  | .Tuple _ _ _ => true
  | _ => false
mutual
def chkT (N : List Str) (sc : Scope) (lc : Bool) : CT → Expr → Bool
  | .nam i => fun e => match e with
    | .Name x _ => N[i]? == some x && (if lc then lclB sc x else locB sc x) && okN x
    | _ => false
  | .tup ts => fun e => match e with
    | .Tuple es _ _ => chkTs N sc lc ts es
    | _ => false
def chkTs (N : List Str) (sc : Scope) (lc : Bool) : CTs → List Expr → Bool
  | .nil => fun es => match es with
    | [] => true
    | _ => false
  | .cons t ts => fun es => match es with
    | e :: r => notStar e && chkT N sc lc t e && chkTs N sc lc ts r
    | _ => false
end
def chkK : List Key → List (Option Expr) → Bool
  | [] => fun es => match es with
    | [] => true
    | _ => false
  | .inl i :: r => fun es => match es with
    | some (.Constant (.int j) _ _) :: t => j == i && chkK r t
    | _ => false
  | .inr x :: r => fun es => match es with
    | some (.Constant (.str y) _ _) :: t => y == x && chkK r t
    | _ => false
mutual
def chk (Γ : Gx) : CE → Expr → Bool
  | .non => fun e => match e with
    | .Constant .none _ _ => true
    | _ => false
  | .bl b => fun e => match e with
    | .Constant (.bool c) _ _ => c == b
    | _ => false
  | .int i => fun e => match e with
    | .Constant (.int j) _ _ => j == i
    | _ => false
  | .str x => fun e => match e with
    | .Constant (.str y) _ _ => y == x
    | _ => false
  | .var i => fun e => match e with
    | .Name x _ => Γ.N[i]? == some x && visB Γ.sc x && okN x
    | _ => false
  | .glb i => fun e => match e with
    | .Name x _ => Γ.cns[i]? == some x && glB Γ.sc x && okN x
    | _ => false
  | .bin op a b => fun e => match e with
    | .BinOp l o r _ => o == op && chk Γ a l && chk Γ b r
    | _ => false
  | .neg a => fun e => match e with
    | .UnaryOp .USub x _ => chk Γ a x
    | _ => false
  | .no a => fun e => match e with
    | .UnaryOp .Not x _ => chk Γ a x
    | _ => false
  | .and a b => fun e => match e with
    | .BoolOp .And (x :: y :: r) pos => chk Γ a x && (match r with
      | [] => chk Γ b y
      | z :: r' => chk Γ b (.BoolOp .And (y :: z :: r') pos))
    | _ => false
  | .or a b => fun e => match e with
    | .BoolOp .Or (x :: y :: r) pos => chk Γ a x && (match r with
      | [] => chk Γ b y
      | z :: r' => chk Γ b (.BoolOp .Or (y :: z :: r') pos))
    | _ => false
  | .cmp op a b => fun e => match e with
    | .Compare l [o] [r] _ => o == op && chk Γ a l && chk Γ b r && notSet r
    | _ => false
  | .chn op op' a b c => fun e => match e with
    | .Compare l [o, o'] [m, r] _ => o == op && o' == op' && chk Γ a l && chk Γ b m && chk Γ c r && notSet r
    | _ => false
  | .ife t a b => fun e => match e with
    | .IfExp u l r _ => chk Γ t u && chk Γ a l && chk Γ b r
    | _ => false
  | .tup es => fun e => match e with
    | .Tuple xs _ _ => chks Γ es xs
    | _ => false
  | .lst es => fun e => match e with
    | .List xs _ => chks Γ es xs
    | _ => false
  | .dnew => fun e => match e with
    | .Dict [] [] _ => true
    | _ => false
  | .idx a i => fun e => match e with
    | .Subscript x y _ => chk Γ a x && chk Γ i y && notSlice y
    | _ => false
  | .slc a lo hi => fun e => match e with
    | .Subscript x (.Slice l u none _) _ => chk Γ a x && chkO Γ lo l && chkO Γ hi u
    | _ => false
  | .call f es => fun e => match e with
    | .Call (.Name x _) xs [] _ => Γ.fns[f]? == some x && glB Γ.sc x && okN x && chks Γ es xs
    | _ => false
  | .blt f es => fun e => match e with
    | .Call (.Name x _) (y :: xs) [] _ => x == f.name && glB Γ.sc x && Γ.bls.contains x && chks Γ es (y :: xs)
    | _ => false
  | .mtd m o es => fun e => match e with
    | .Call (.Attribute x n ap) xs [] cp => n == m.name && chk Γ o x && chks Γ es xs && notCall0 x && ap.endLine == cp.line && decide (xs.length < 29)
    | _ => false
  | .isi a T => fun e => match e with
    | .Call (.Name f _) [x, .Name t _] [] _ => f == ("isinstance" : Str) && glB Γ.sc f && Γ.bls.contains f && t == Str.ofString T && glB Γ.sc t && Γ.bls.contains t && ["int", "bool", "str", "tuple", "list", "dict"].contains T && chk Γ a x
    | _ => false
  | .comp own t it test el => fun e => match e with
    | .ListComp elt [⟨tg, iter, ifs, 0⟩] scope _ => blkC Γ.N Γ.sc scope own && t.slots.all (fun i => (own.map (·.2)).contains i) && chkT Γ.N (relS scope Γ.sc) true t tg && chkI Γ it tg iter && notSet iter &&
        (match ifs with
          | [] => chkO { Γ with sc := relS scope Γ.sc } test none
          | [c] => chkO { Γ with sc := relS scope Γ.sc } test (some c)
          | _ => false) && chk { Γ with sc := relS scope Γ.sc } el elt
    | _ => false
  | .dis ks es => fun e => match e with
    | .Dict keys vals _ => chkK ks keys && chks Γ es vals && keys.length == vals.length && !ks.isEmpty && decide (ks.length ≤ 15)
    | _ => false
  | .rev a => fun e => match e with
    | .Subscript x (.Slice none none (some (.UnaryOp .USub (.Constant (.int i) _ _) _)) _) _ => i == 1 && chk Γ a x
    | _ => false
  | .mnd a d => fun e => match e with
    | .Call (.Name f _) [x] [⟨some k, y, _⟩] _ => f == ("min" : Str) && glB Γ.sc f && Γ.bls.contains f && k == ("default" : Str) && notStar x && chk Γ a x && chk Γ d y
    | _ => false
  | .lrg a b => fun e => match e with
    | .Call (.Name f _) [.Call (.Name g _) [x, y] [] _] [] _ => f == ("list" : Str) && glB Γ.sc f && Γ.bls.contains f && g == ("range" : Str) && glB Γ.sc g && Γ.bls.contains g && notStar x && notStar y && chk Γ a x && chk Γ b y
    | _ => false
def chks (Γ : Gx) : CEs → List Expr → Bool
  | .nil => fun es => match es with
    | [] => true
    | _ => false
  | .cons c cs => fun es => match es with
    | e :: r => notStar e && chk Γ c e && chks Γ cs r
    | _ => false
def chkO (Γ : Gx) : CO → Option Expr → Bool
  | .none => fun o => match o with
    | none => true
    | _ => false
  | .some c => fun o => match o with
    | some e => chk Γ c e
    | _ => false
def chkI (Γ : Gx) : CI → Expr → Expr → Bool
  | .any c => fun _ e => chk Γ c e
  | .rng1 c => fun _ e => match e with
    | .Call (.Name x _) [y] [] _ => x == ("range" : Str) && glB Γ.sc x && Γ.bls.contains x && notStar y && chk Γ c y
    | _ => false
  | .rng2 c d => fun _ e => match e with
    | .Call (.Name x _) [y, z] [] _ => x == ("range" : Str) && glB Γ.sc x && Γ.bls.contains x && notStar y && notStar z && chk Γ c y && chk Γ d z
    | _ => false
  | .zip c d => fun t e => match e with
    | .Call (.Name x _) [y, z] [] _ => isTupE t && x == ("zip" : Str) && glB Γ.sc x && Γ.bls.contains x && notStar y && notStar z && chk Γ c y && chk Γ d z
    | _ => false
  | .enm c => fun t e => match e with
    | .Call (.Name x _) [y] [] _ => isTupE t && x == ("enumerate" : Str) && glB Γ.sc x && Γ.bls.contains x && notStar y && chk Γ c y
    | _ => false
end
end DL

/-! DL, part H: expressions are sound -/
namespace DL
open PySem PySem.Spec PyProof.Rows L2

structure Lv where
  K : PySem.W.Frag
  C : CA
  H0 : Hp
  h0 : DH
  EX : SXD
/-- no exception -/
abbrev Lv.nx (L : Lv) : Lv := { L with EX := fun _ _ _ => False }

def Lx (L : Lv) (w : DSt → DH → QD → XD → Prop) : TE := fun σ H Q => ∃ s h Q0, Ste L.H0 L.h0 H h ∧ RS L.K H σ s ∧ RH L.K L.C H h ∧ w s h Q0 (fun x h' => L.EX x s h') ∧ ∀ d h', Q0 d h' → LQ L.K L.C H h Q d h'
def Lt (L : Lv) (w : DSt → DH → QD → XD → Prop) : TT := fun σ H Q => ∃ s h Q0, Ste L.H0 L.h0 H h ∧ RS L.K H σ s ∧ RH L.K L.C H h ∧ w s h (asB Q0) (fun x h' => L.EX x s h') ∧ ∀ b h', Q0 b h' → ∀ H', Ste H h H' h' → RH L.K L.C H' h' → Q b H'
def La (L : Lv) (w : DSt → DH → (List D → DH → Prop) → XD → Prop) : TA := fun σ H Q => ∃ s h Q0, Ste L.H0 L.h0 H h ∧ RS L.K H σ s ∧ RH L.K L.C H h ∧ w s h Q0 (fun x h' => L.EX x s h') ∧ ∀ ds h', Q0 ds h' → ∀ vs H', Ste H h H' h' → RDs L.K H' vs ds → RH L.K L.C H' h' → Q vs H'
def Lo (L : Lv) (w : DSt → DH → (Option Int → DH → Prop) → XD → Prop) : TO := fun σ H Q => ∃ s h Q0, Ste L.H0 L.h0 H h ∧ RS L.K H σ s ∧ RH L.K L.C H h ∧ w s h Q0 (fun x h' => L.EX x s h') ∧ ∀ o h', Q0 o h' → ∀ H', Ste H h H' h' → RH L.K L.C H' h' → Q o H'
/-- the iterator of the layer below does what this one says, from the heap H1 on -/
def ItR (L : Lv) (H1 : Hp) (J : DIt) (Jh : It) : Prop := ∀ i H h, Le H1 H → RH L.K L.C H h → match nextD J i h with
  | none => True
  | some none => Jh.stop i H
  | some (some d) => Jh.go i H ∧ ∀ x H', Jh.yld i H x H' → Ste H h H' h ∧ RD L.K H' x d ∧ RH L.K L.C H' h
def Li (L : Lv) (w : DSt → DH → (DIt → DH → Prop) → XD → Prop) : TI := fun σ H R => ∃ s h R0, Ste L.H0 L.h0 H h ∧ RS L.K H σ s ∧ RH L.K L.C H h ∧ w s h R0 (fun x h' => L.EX x s h') ∧ ∀ J h', R0 J h' → ∀ Jh H', Ste H h H' h' → RH L.K L.C H' h' → ItR L H' J Jh → R Jh H'

/-- the wish about exceptions -/
def Wx (L : Lv) : WX := fun cls d σ H => ∃ x s h, Ste L.H0 L.h0 H h ∧ RX L.K L.C H x cls d ∧ RS L.K H σ s ∧ RH L.K L.C H h ∧ L.EX x s h
/-- a def's promise from its meaning -/
def spL (K : PySem.W.Frag) (C : CA) (w : List D → DH → QD → XD → Prop) : Sp := fun vs H Q E => ∃ ds h Q0 E0, RDs K H vs ds ∧ RH K C H h ∧ w ds h Q0 E0 ∧ (∀ d h', Q0 d h' → LQ K C H h Q d h') ∧
  ∀ x h', E0 x h' → ∀ cls d H', Ste H h H' h' → RX K C H' x cls d → RH K C H' h' → E cls d H'

/-- what the names of the text stand for -/
structure Tab (P : Program) (w : World) (K : PySem.W.Frag) (mg : Str → Option Value) (base : Heap) (C : CA) (k : Nat) (fns cns bls : List Str) (gl : List D) (F : Fns) : Prop where
  fn : ∀ (i : Nat) (x : Str), fns[i]? = some x → ∃ f fd ps, mg x = some (.ref f) ∧ PySem.W.keepIn K (.ref f) = true ∧ FnG P w K mg base k f fd ps (spL K C (F i)) ∧ Binds K fd ps []
  cn : ∀ (i : Nat) (x : Str), cns[i]? = some x → ∃ v u d, gl[i]? = some d ∧ mg x = some u ∧ RelV v u ∧ ∀ H, RD K H v d
  bl : ∀ x, x ∈ bls → mg x = none
structure XO (Γ : Gx) (L : Lv) (k : Nat) (gl : List D) (F : Fns) (X : Cx) : Prop where
  N : X.N = Γ.N
  sc : X.env.scope = Γ.sc
  nd : X.N.Nodup
  K : X.K = L.K
  rm : Rm X
  room : Room k X.A
  tab : Tab X.prog X.w X.K X.mg X.base L.C k Γ.fns Γ.cns Γ.bls gl F
  tk : Takes X (Wx L)

section
variable {X : Cx} {e : Expr} {t t' : TE}
theorem PE.imp (h : PE X e t) (i : ∀ σ H Q, t' σ H Q → t σ H Q) : PE X e t' := ⟨fun pins s σ H Q I q => h.run pins s σ H Q I (i σ H Q q)⟩
theorem PT.imp {t t' : TT} (h : PT X e t) (i : ∀ σ H Q, t' σ H Q → t σ H Q) : PT X e t' := ⟨fun pins s σ H Q I q => h.run pins s σ H Q I (i σ H Q q)⟩
theorem PW.imp {t t' : TT} (h : PW X e t) (i : ∀ σ H Q, t' σ H Q → t σ H Q) : PW X e t' := ⟨fun wh pins s σ H Q I q => h.run wh pins s σ H Q I (i σ H Q q)⟩
theorem PA.imp {es : List Expr} {t t' : TA} (h : PA X es t) (i : ∀ σ H Q, t' σ H Q → t σ H Q) : PA X es t' := ⟨fun p pins s σ H Q I q => h.run p pins s σ H Q I (i σ H Q q)⟩
theorem PI.imp {tg : Expr} {t t' : TI} (h : PI X tg e t) (i : ∀ σ H Q, t' σ H Q → t σ H Q) : PI X tg e t' := ⟨fun pins s σ H Q I q => h.run pins s σ H Q I (i σ H Q q)⟩
end

/-- what the soundness of an expression is -/
structure Snd (L : Lv) (gl : List D) (F : Fns) (X : Cx) (c : CE) (e : Expr) : Prop where
  pe : PE X e (Lx L (wE gl F c))
  pt : PT X e (Lt L (wE gl F c))
  pw : ∀ op vs pos, e = .BoolOp op vs pos → PW X e (Lt L (wE gl F c))

section
variable {Γ : Gx} {L : Lv} {k : Nat} {gl : List D} {F : Fns} {X : Cx} {c : CE} {e : Expr}
theorem Snd.of (h : PE X e (Lx L (wE gl F c))) (he : ∀ whole, isTrue e X.env whole = (do let v ← whole; standAt e.pos; holding [v] (truthy v))) (hb : ∀ op vs pos, e ≠ .BoolOp op vs pos) : Snd L gl F X c e := by
  refine ⟨h, PT.imp (pt_val h he) fun σ H Q ⟨s, h, Q0, le, rs, rh, hw, hq⟩ => ⟨s, h, asB Q0, le, rs, rh, hw, fun d h' q v H' l rd rh' => ?_⟩, fun op vs pos q => absurd q (hb _ _ _)⟩
  unfold asB at q
  split at q
  · cases rd
    exact ⟨_, rfl, hq _ _ q _ l rh'⟩
  · exact q.elim
theorem asB_rd {K : PySem.W.Frag} {H : Hp} {Q : Bool → DH → Prop} {d : D} {v : V} {h : DH} (r : RD K H v d) (q : asB Q d h) : ∃ b, v = .bl b ∧ d = .bl b ∧ Q b h := by
  unfold asB at q
  split at q
  · cases r
    exact ⟨_, rfl, rfl, q⟩
  · exact q.elim
theorem okN_1 {x : Str} (h : okN x = true) : (x == ("__debug__" : Str)) = false := by
  unfold okN at h
  cases q : (x == ("__debug__" : Str)) with
  | false => rfl
  | true => rw [q] at h; simp at h
theorem okN_2 {x : Str} (h : okN x = true) : (x == ("__classdict__" : Str)) = false := by
  unfold okN at h
  cases q : (x == ("__classdict__" : Str)) with
  | false => rfl
  | true => rw [q] at h; simp at h
theorem visB_ok {sc : Scope} {x : Str} (h : visB sc x = true) : Vis sc x := by
  unfold visB at h
  split at h
  · exact .inl (by assumption)
  · exact .inr (.inl (by assumption))
  · exact .inr (.inr (by assumption))
  · cases h
theorem glB_ok {sc : Scope} {x : Str} (h : glB sc x = true) : sc.names.lookup x = some .globalImplicit := by
  unfold glB at h
  split at h
  · assumption
  · cases h
theorem XO.glo (O : XO Γ L k gl F X) {x : Str} (h : glB Γ.sc x = true) : Gl X x := by
  show X.env.scope.names.lookup x = some .globalImplicit
  rw [O.sc]; exact glB_ok h
theorem XO.blo (O : XO Γ L k gl F X) {x : Str} (h : Γ.bls.contains x = true) : X.mg x = none := O.tab.bl x (by simpa using h)
theorem nomarkS {b : Expr} {op : CmpOp} (h : notSet b = true) : behindInMarks op b = false := by
  cases b <;> first | rfl | exact absurd h Bool.false_ne_true
theorem nofold {b : Expr} {env : Env} (h : notSet b = true) : ∀ x, foldedSetIterable b env x = pure x := by
  intro x
  cases b <;> first | rfl | exact absurd h Bool.false_ne_true
theorem star1 {e : Expr} {es : List Expr} {env : Env} (h : notStar e = true) : starEach (e :: es) env = (false, eval e env) :: starEach es env := by
  cases e <;> first | rfl | exact absurd h Bool.false_ne_true
theorem plainIx {b : Expr} (h : notSlice b = true) : PlainIx b := by
  intro o i
  cases b <;> first | rfl | exact absurd h Bool.false_ne_true
theorem ab_of {o : Expr} {a : Str} {env : Env} {w : Sem Value} (h : notCall0 o = true) : attributeBase o a env w = w := by
  cases o with
  | Call f args kw pos =>
    cases args with
    | nil => exact absurd h Bool.false_ne_true
    | cons x xs => cases f <;> rfl
  | _ => rfl
theorem chks_star {Γ : Gx} : ∀ {cs : CEs} {es : List Expr}, chks Γ cs es = true → es.all notStar = true
  | .nil, [], _ => rfl
  | .nil, _ :: _, h => by simp [chks] at h
  | .cons _ _, [], h => by simp [chks] at h
  | .cons c cs, e :: es, h => by
    simp only [chks, Bool.and_eq_true] at h
    rw [List.all_cons, Bool.and_eq_true]
    exact ⟨h.1.1, chks_star h.2⟩
theorem stars_plain {env : Env} {pos : Pos} : ∀ {es : List Expr}, es.all notStar = true → (backTo pos (starEach es env)).any (·.1) = false
  | [], _ => rfl
  | e :: es, h => by
    rw [List.all_cons, Bool.and_eq_true] at h
    rw [star1 h.1]
    show (false || (backTo pos (starEach es env)).any (·.1)) = false
    rw [stars_plain h.2]; rfl
theorem stars_all {env : Env} {pos : Pos} : ∀ {es : List Expr}, es.all notStar = true → (backTo pos (starEach es env)).all (fun x => !x.1) = true
  | [], _ => rfl
  | e :: es, h => by
    rw [List.all_cons, Bool.and_eq_true] at h
    rw [star1 h.1]
    show (true && (backTo pos (starEach es env)).all (fun x => !x.1)) = true
    rw [stars_all h.2]; rfl
end

/-! ### iterators -/
section
variable {L : Lv} {H1 : Hp}
theorem itr_lst {a : Addr} {K : PySem.W.Frag} (hK : K = L.K) : ItR L H1 (.lst a) (Itl K a) := by
  subst hK
  intro i H h l rh
  unfold nextD
  split
  · trivial
  · rename_i e
    split at e
    · rename_i xs ha
      have e : xs[i]? = none := Option.some.inj e
      obtain ⟨vs, h1, r1⟩ := rh _ _ ha
      refine ⟨vs, .inl (.inl h1), ?_⟩
      have := r1.length
      have := List.getElem?_eq_none_iff.mp e
      omega
    · cases e
  · rename_i d e
    split at e
    · rename_i xs ha
      have e : xs[i]? = some d := Option.some.inj e
      obtain ⟨vs, h1, r1⟩ := rh _ _ ha
      obtain ⟨v, e2, rv⟩ := r1.get e
      refine ⟨⟨vs, v, .inl (.inl h1), e2⟩, fun x H' ⟨e3, y⟩ => ?_⟩
      subst e3
      have e4 := y vs (.inl (.inl h1))
      rw [e2] at e4; cases e4
      exact ⟨.refl, rv, rh⟩
    · cases e
theorem itr_fixL {a : Addr} {K : PySem.W.Frag} {vs : List V} {xs : List D} (hK : K = L.K) (s : FL L.K H1 a vs) (r : RDs L.K H1 vs xs) : ItR L H1 (.fix xs) (Itl K a) := by
  subst hK
  intro i H h l rh
  unfold nextD
  have s' := (l.fl s).seq
  have r' := r.le l
  split
  · trivial
  · rename_i e
    have e : xs[i]? = none := Option.some.inj e
    refine ⟨vs, s', ?_⟩
    have := r'.length
    have := List.getElem?_eq_none_iff.mp e
    omega
  · rename_i d e
    have e : xs[i]? = some d := Option.some.inj e
    obtain ⟨v, e2, rv⟩ := r'.get e
    refine ⟨⟨vs, v, s', e2⟩, fun x H' ⟨e3, y⟩ => ?_⟩
    subst e3
    have e4 := y vs s'
    rw [e2] at e4; cases e4
    exact ⟨.refl, rv, rh⟩
theorem itr_fixT {a : Addr} {K : PySem.W.Frag} {vs : List V} {xs : List D} (hK : K = L.K) (s : SqT L.K H1 a vs) (r : RDs L.K H1 vs xs) : ItR L H1 (.fix xs) (Itt K a) := by
  subst hK
  intro i H h l rh
  unfold nextD
  have s' := l.sqT s
  have r' := r.le l
  split
  · trivial
  · rename_i e
    have e : xs[i]? = none := Option.some.inj e
    refine ⟨vs, s', ?_⟩
    have := r'.length
    have := List.getElem?_eq_none_iff.mp e
    omega
  · rename_i d e
    have e : xs[i]? = some d := Option.some.inj e
    obtain ⟨v, e2, rv⟩ := r'.get e
    refine ⟨⟨vs, v, s', e2⟩, fun x H' ⟨e3, y⟩ => ?_⟩
    subst e3
    have e4 := y vs s'
    rw [e2] at e4; cases e4
    exact ⟨.refl, rv, rh⟩
theorem itr_rng {lo : Int} {n : Nat} : ItR L H1 (.rng lo n) (Itr lo n) := by
  intro i H h l rh
  unfold nextD
  by_cases q : i < n
  · rw [if_pos q]
    exact ⟨q, fun x H' ⟨e1, e2⟩ => by subst e1 e2; exact ⟨.refl, .int _, rh⟩⟩
  · rw [if_neg q]
    exact Nat.le_of_not_lt q
theorem itr_str {x : Str} : ItR L H1 (.str x) (Its x) := by
  intro i H h l rh
  unfold nextD
  cases e : x.cps[i]? with
  | none =>
    show x.cps.size ≤ i
    exact Array.getElem?_eq_none_iff.mp e
  | some c =>
    refine ⟨?_, fun v H' ⟨e1, c', e2, e3⟩ => ?_⟩
    · exact (Array.getElem?_eq_some_iff.mp e).1
    · subst e1 e3
      rw [e] at e2; cases e2
      exact ⟨.refl, .str _, rh⟩
/-- lists at an address: what a list-like walked thing knows -/
def LSrc (L : Lv) (H1 : Hp) (J : DIt) (a : Addr) : Prop := ∀ i H h, Le H1 H → RH L.K L.C H h → match nextD J i h with
  | none => True
  | some none => ∃ vs, SqL L.K H a vs ∧ vs.length ≤ i
  | some (some d) => ∃ vs v, SqL L.K H a vs ∧ vs[i]? = some v ∧ RD L.K H v d
def TSrc (L : Lv) (H1 : Hp) (J : DIt) (a : Addr) : Prop := ∀ i H h, Le H1 H → RH L.K L.C H h → match nextD J i h with
  | none => True
  | some none => ∃ vs, SqT L.K H a vs ∧ vs.length ≤ i
  | some (some d) => ∃ vs v, SqT L.K H a vs ∧ vs[i]? = some v ∧ RD L.K H v d
theorem isSeqL_rd {d : D} {h : DH} {J : DIt} {v : V} {H : Hp} (rh : RH L.K L.C H h) (r : RD L.K H v d) (e : isSeqL d h = some J) : ∃ a vs, v = .ref a ∧ SqL L.K H a vs ∧ ∀ H1, Le H H1 → ItR L H1 J (Itl L.K a) ∧ LSrc L H1 J a := by
  unfold isSeqL at e
  split at e
  · cases e
    cases r with
    | fl s r =>
      refine ⟨_, _, rfl, s.seq, fun H1 l => ⟨itr_fixL rfl (l.fl s) (r.le l), fun i H h l2 rh => ?_⟩⟩
      have s' := (l2.fl (l.fl s)).seq
      have r' := (r.le l).le l2
      unfold nextD
      split
      · trivial
      · rename_i e
        have := r'.length
        have := List.getElem?_eq_none_iff.mp (Option.some.inj e)
        exact ⟨_, s', by omega⟩
      · rename_i d e
        obtain ⟨v, e2, rv⟩ := r'.get (Option.some.inj e)
        exact ⟨_, v, s', e2, rv⟩
  · cases r
    split at e
    · rename_i xs ha
      cases e
      obtain ⟨vs, h1, r1⟩ := rh _ _ ha
      refine ⟨_, vs, rfl, .inl (.inl h1), fun H1 l => ⟨itr_lst rfl, fun i H h l2 rh => ?_⟩⟩
      unfold nextD
      split
      · trivial
      · rename_i e
        split at e
        · rename_i ys ha
          obtain ⟨vs, h1, r1⟩ := rh _ _ ha
          have := r1.length
          have := List.getElem?_eq_none_iff.mp (Option.some.inj e)
          exact ⟨vs, .inl (.inl h1), by omega⟩
        · cases e
      · rename_i d e
        split at e
        · rename_i ys ha
          obtain ⟨vs, h1, r1⟩ := rh _ _ ha
          obtain ⟨v, e2, rv⟩ := r1.get (Option.some.inj e)
          exact ⟨vs, v, .inl (.inl h1), e2, rv⟩
        · cases e
    · cases e
  · cases e
theorem isSeqT_rd {d : D} {J : DIt} {v : V} {H : Hp} (r : RD L.K H v d) (e : isSeqT d = some J) : ∃ a vs, v = .ref a ∧ SqT L.K H a vs ∧ ∀ H1, Le H H1 → ItR L H1 J (Itt L.K a) ∧ TSrc L H1 J a := by
  have go : ∀ {a : Addr} {vs : List V} {xs : List D}, SqT L.K H a vs → RDs L.K H vs xs → ∀ H1, Le H H1 → ItR L H1 (.fix xs) (Itt L.K a) ∧ TSrc L H1 (.fix xs) a := by
    intro a vs xs s r H1 l
    refine ⟨itr_fixT rfl (l.sqT s) (r.le l), fun i H h l2 rh => ?_⟩
    have s' := l2.sqT (l.sqT s)
    have r' := (r.le l).le l2
    unfold nextD
    split
    · trivial
    · rename_i e
      have := r'.length
      have := List.getElem?_eq_none_iff.mp (Option.some.inj e)
      exact ⟨_, s', by omega⟩
    · rename_i d e
      obtain ⟨v, e2, rv⟩ := r'.get (Option.some.inj e)
      exact ⟨_, v, s', e2, rv⟩
  unfold isSeqT at e
  split at e
  · cases e
    cases r with
    | tup s r => exact ⟨_, _, rfl, .inl (.inl s), go (.inl (.inl s)) r⟩
  · cases e
    cases r with
    | kt s r => exact ⟨_, _, rfl, s, go s r⟩
  · cases e
theorem itr_enm {J : DIt} {a : Addr} (s : LSrc L H1 J a) : ItR L H1 (.enm J) (Ite L.K a) := by
  intro i H h l rh
  have q := s i H h l rh
  unfold nextD
  split
  · trivial
  · rename_i e
    split at e
    · cases e
    · rw [e] at q
      exact q
  · rename_i d e
    split at e
    · rename_i z hz
      rw [hz] at q
      cases e
      obtain ⟨vs, v, s1, e1, rv⟩ := q
      refine ⟨⟨vs, v, s1, e1⟩, fun x H' ⟨T, y, ex, nT, eH, f⟩ => ?_⟩
      subst ex eH
      have e4 := f vs s1
      rw [e1] at e4; cases e4
      exact ⟨Ste.side nT, .tup upd_same (.cons (.int _) (.cons (rv.le (Le.new nT)) .nil)), rh.side nT⟩
    · rename_i hz
      exact absurd e (hz d)
theorem LSrc.any {J : DIt} {a : Addr} (s : LSrc L H1 J a) {i : Nat} {H : Hp} {h : DH} {r : Option D} (l : Le H1 H) (rh : RH L.K L.C H h) (e : nextD J i h = some r) : ∃ vs, SqL L.K H a vs := by
  have q := s i H h l rh
  rw [e] at q
  cases r with
  | none => exact ⟨_, q.choose_spec.1⟩
  | some d => exact ⟨_, q.choose_spec.choose_spec.1⟩
theorem itr_zipL {J J' : DIt} {a b : Addr} (s : LSrc L H1 J a) (s' : LSrc L H1 J' b) : ItR L H1 (.zip J J') (Itz L.K a b) := by
  intro i H h l rh
  have q := s i H h l rh
  have q' := s' i H h l rh
  unfold nextD
  split
  · trivial
  · rename_i e
    split at e
    · cases e
    · rename_i e1 e2
      obtain ⟨ys, hy⟩ := s'.any l rh e2
      rw [e1] at q
      obtain ⟨vs, s1, hl⟩ := q
      exact ⟨vs, ys, s1, hy, .inl hl⟩
    · rename_i e1 e2
      obtain ⟨xs, hx⟩ := s.any l rh e1
      rw [e2] at q'
      obtain ⟨vs, s1, hl⟩ := q'
      exact ⟨xs, vs, hx, s1, .inr hl⟩
    · cases e
  · rename_i d e
    split at e
    · rename_i z z' e1 e2
      rw [e1] at q
      rw [e2] at q'
      cases e
      obtain ⟨vs, v, s1, f1, rv⟩ := q
      obtain ⟨ws, u, s2, f2, ru⟩ := q'
      refine ⟨⟨vs, ws, v, u, s1, s2, f1, f2⟩, fun x H' ⟨T, y, y', ex, nT, eH, g1, g2⟩ => ?_⟩
      subst ex eH
      have e4 := g1 vs s1
      rw [f1] at e4; cases e4
      have e5 := g2 ws s2
      rw [f2] at e5; cases e5
      exact ⟨Ste.side nT, .tup upd_same (.cons (rv.le (Le.new nT)) (.cons (ru.le (Le.new nT)) .nil)), rh.side nT⟩
    · cases e
    · cases e
    · cases e
theorem TSrc.any {J : DIt} {a : Addr} (s : TSrc L H1 J a) {i : Nat} {H : Hp} {h : DH} {r : Option D} (l : Le H1 H) (rh : RH L.K L.C H h) (e : nextD J i h = some r) : ∃ vs, SqT L.K H a vs := by
  have q := s i H h l rh
  rw [e] at q
  cases r with
  | none => exact ⟨_, q.choose_spec.1⟩
  | some d => exact ⟨_, q.choose_spec.choose_spec.1⟩
theorem itr_zipT {J J' : DIt} {a b : Addr} (s : TSrc L H1 J a) (s' : TSrc L H1 J' b) : ItR L H1 (.zip J J') (RZ.ItzT L.K a b) := by
  intro i H h l rh
  have q := s i H h l rh
  have q' := s' i H h l rh
  unfold nextD
  split
  · trivial
  · rename_i e
    split at e
    · cases e
    · rename_i e1 e2
      obtain ⟨ys, hy⟩ := s'.any l rh e2
      rw [e1] at q
      obtain ⟨vs, s1, hl⟩ := q
      exact ⟨vs, ys, s1, hy, .inl hl⟩
    · rename_i e1 e2
      obtain ⟨xs, hx⟩ := s.any l rh e1
      rw [e2] at q'
      obtain ⟨vs, s1, hl⟩ := q'
      exact ⟨xs, vs, hx, s1, .inr hl⟩
    · cases e
  · rename_i d e
    split at e
    · rename_i z z' e1 e2
      rw [e1] at q
      rw [e2] at q'
      cases e
      obtain ⟨vs, v, s1, f1, rv⟩ := q
      obtain ⟨ws, u, s2, f2, ru⟩ := q'
      refine ⟨⟨vs, ws, v, u, s1, s2, f1, f2⟩, fun x H' ⟨T, y, y', ex, nT, eH, g1, g2⟩ => ?_⟩
      subst ex eH
      have e4 := g1 vs s1
      rw [f1] at e4; cases e4
      have e5 := g2 ws s2
      rw [f2] at e5; cases e5
      exact ⟨Ste.side nT, .tup upd_same (.cons (rv.le (Le.new nT)) (.cons (ru.le (Le.new nT)) .nil)), rh.side nT⟩
    · cases e
    · cases e
    · cases e
end
end DL

/-! DL, part I: the rules for the core expressions -/
namespace DL
open PySem PySem.Spec PyProof.Rows L2
section
variable {Γ : Gx} {L : Lv} {k : Nat} {gl : List D} {F : Fns} {X : Cx} {a b c : CE} {e l r m : Expr} {pos : Pos}

theorem lx_pure {w : DSt → DH → QD → XD → Prop} {d : D} {v : V} (hw : ∀ s h Q E, w s h Q E → Q d h) (hr : ∀ H, RD L.K H v d) : ∀ σ H Q, Lx L w σ H Q → tC v σ H Q := fun σ H Q ⟨s, h, Q0, le, rs, rh, q, hq⟩ =>
  (hq _ _ (hw _ _ _ _ q)).here (hr H) rh
theorem snd_non {j : Nat} : Snd L gl F X .non (.Constant .none j pos) := .of (PE.imp pe_non (lx_pure (fun s h Q E q => by simpa only [wE] using q) fun _ => .non)) (fun _ => rfl) (fun _ _ _ q => nomatch q)
theorem snd_bl {j : Nat} {b : Bool} : Snd L gl F X (.bl b) (.Constant (.bool b) j pos) := .of (PE.imp pe_bl (lx_pure (fun s h Q E q => by simpa only [wE] using q) fun _ => .bl b)) (fun _ => rfl) (fun _ _ _ q => nomatch q)
theorem snd_int {j : Nat} {i : Int} : Snd L gl F X (.int i) (.Constant (.int i) j pos) := .of (PE.imp pe_int (lx_pure (fun s h Q E q => by simpa only [wE] using q) fun _ => .int i)) (fun _ => rfl) (fun _ _ _ q => nomatch q)
theorem snd_str {j : Nat} {x : Str} : Snd L gl F X (.str x) (.Constant (.str x) j pos) := .of (PE.imp pe_str (lx_pure (fun s h Q E q => by simpa only [wE] using q) fun _ => .str x)) (fun _ => rfl) (fun _ _ _ q => nomatch q)
theorem snd_var (O : XO Γ L k gl F X) {i : Nat} {x : Str} (hN : Γ.N[i]? = some x) (hv : visB Γ.sc x = true) (hn : okN x = true) : Snd L gl F X (.var i) (.Name x pos) := by
  refine .of (PE.imp (pe_var (by rw [O.N]; exact hN) (by rw [O.sc]; exact visB_ok hv) (okN_1 hn) (okN_2 hn)) fun σ H Q ⟨s, h, Q0, le, rs, rh, q, hq⟩ => ?_) (fun _ => rfl) (fun _ _ _ q => nomatch q)
  simp only [wE] at q
  split at q
  · rename_i d hd
    obtain ⟨v, h1, h2⟩ := rs.2 i d hd
    exact ⟨v, h1, (hq _ _ q).here h2 rh⟩
  · exact q.elim
theorem snd_glb (O : XO Γ L k gl F X) {i : Nat} {x : Str} (hN : Γ.cns[i]? = some x) (hv : glB Γ.sc x = true) (hn : okN x = true) : Snd L gl F X (.glb i) (.Name x pos) := by
  obtain ⟨v, u, d, hd, hm, rv, rd⟩ := O.tab.cn i x hN
  refine .of (PE.imp (pe_glob (O.glo hv) hm rv (okN_1 hn)) (lx_pure (d := d) (fun s h Q E q => ?_) fun H => by rw [← O.K]; exact rd H)) (fun _ => rfl) (fun _ _ _ q => nomatch q)
  simp only [wE] at q
  rw [hd] at q
  exact q
theorem snd_bin (O : XO Γ L k gl F X) {op : Operator} (ha : Snd L gl F X a l) (hb : Snd L gl F X b r) : Snd L gl F X (.bin op a b) (.BinOp l op r pos) := by
  refine .of (PE.imp (pe_op (bin_ok (C := L.C) op) ha.pe hb.pe) fun σ H Q ⟨s, h, Q0, le, rs, rh, q, hq⟩ => ?_) (fun _ => rfl) (fun _ _ _ q => nomatch q)
  simp only [wE] at q
  refine ⟨s, h, _, le, rs, rh, q, fun d1 h1 q1 v1 H1 l1 r1 rh1 => ⟨s, h1, _, le.trans l1, rs.le l1.le, rh1, q1, fun d2 h2 q2 v2 H2 l2 r2 rh2 => ?_⟩⟩
  rw [O.K]
  exact ⟨d1, d2, h2, Q0, r1.le l2.le, r2, rh2, q2, fun z h' q' => (hq z h' q').le (l1.trans l2)⟩
theorem snd_cmp (O : XO Γ L k gl F X) {op : CmpOp} (ha : Snd L gl F X a l) (hb : Snd L gl F X b r) (hs : notSet r = true) : Snd L gl F X (.cmp op a b) (.Compare l [op] [r] pos) := by
  have hu : X.A.units + 65 < cLine := by have := O.rm.u; omega
  refine ⟨PE.imp (pe_cmpR (cmp_ok (C := L.C) hu op) ha.pe hb.pe (nomarkS hs)) fun σ H Q ⟨s, h, Q0, le, rs, rh, q, hq⟩ => ?_, PT.imp (pt_cmpR (cmp_ok (C := L.C) hu op) ha.pe hb.pe (nomarkS hs)) fun σ H Q ⟨s, h, Q0, le, rs, rh, q, hq⟩ => ?_, fun _ _ _ q => nomatch q⟩
  · simp only [wE] at q
    refine ⟨s, h, _, le, rs, rh, q, fun d1 h1 q1 v1 H1 l1 r1 rh1 => ⟨s, h1, _, le.trans l1, rs.le l1.le, rh1, q1, fun d2 h2 q2 v2 H2 l2 r2 rh2 => ?_⟩⟩
    rw [O.K]
    exact ⟨d1, d2, h2, Q0, r1.le l2.le, r2, rh2, q2, fun z h' q' => (hq z h' q').le (l1.trans l2)⟩
  · simp only [wE] at q
    refine ⟨s, h, _, le, rs, rh, q, fun d1 h1 q1 v1 H1 l1 r1 rh1 => ⟨s, h1, _, le.trans l1, rs.le l1.le, rh1, q1, fun d2 h2 q2 v2 H2 l2 r2 rh2 => ?_⟩⟩
    rw [O.K]
    refine ⟨d1, d2, h2, asB Q0, r1.le l2.le, r2, rh2, q2, fun z h' q' v3 H3 l3 r3 rh3 => ?_⟩
    obtain ⟨b, rfl, rfl, q4⟩ := asB_rd r3 q'
    exact ⟨b, rfl, hq b h' q4 H3 ((l1.trans l2).trans l3) rh3⟩
theorem snd_neg (O : XO Γ L k gl F X) (ha : Snd L gl F X a l) : Snd L gl F X (.neg a) (.UnaryOp .USub l pos) := by
  refine .of (PE.imp (pe_un (neg_ok (C := L.C)) ha.pe) fun σ H Q ⟨s, h, Q0, le, rs, rh, q, hq⟩ => ?_) (fun _ => rfl) (fun _ _ _ q => nomatch q)
  simp only [wE] at q
  refine ⟨s, h, _, le, rs, rh, q, fun d1 h1 q1 v1 H1 l1 r1 rh1 => ?_⟩
  rw [O.K]
  exact ⟨d1, h1, Q0, r1, rh1, q1, fun z h' q' => (hq z h' q').le l1⟩
theorem snd_no (ha : Snd L gl F X a l) : Snd L gl F X (.no a) (.UnaryOp .Not l pos) := by
  refine ⟨PE.imp (pe_not ha.pe) fun σ H Q ⟨s, h, Q0, le, rs, rh, q, hq⟩ => ?_, PT.imp (pt_not ha.pt) fun σ H Q ⟨s, h, Q0, le, rs, rh, q, hq⟩ => ?_, fun _ _ _ q => nomatch q⟩
  · simp only [wE] at q
    refine ⟨s, h, _, le, rs, rh, q, fun d1 h1 q1 v1 H1 l1 r1 rh1 => ?_⟩
    obtain ⟨b, rfl, rfl, q2⟩ := asB_rd r1 q1
    exact ⟨b, rfl, (hq _ _ q2) _ _ l1 (.bl _) rh1⟩
  · simp only [wE] at q
    exact ⟨s, h, _, le, rs, rh, q, fun b h1 q1 H1 l1 rh1 => hq _ _ q1 _ l1 rh1⟩
theorem and_pe {rest : List Expr} (ha : Snd L gl F X a l) (hb : PE X (.BoolOp .And (r :: rest) pos) (Lx L (wE gl F b))) : PE X (.BoolOp .And (l :: r :: rest) pos) (Lx L (wE gl F (.and a b))) := by
  refine PE.imp (pe_and ha.pe hb) fun σ H Q ⟨s, h, Q0, le, rs, rh, q, hq⟩ => ?_
  simp only [wE] at q
  refine ⟨s, h, _, le, rs, rh, q, fun d1 h1 q1 v1 H1 l1 r1 rh1 => ?_⟩
  obtain ⟨b1, rfl, rfl, q2⟩ := asB_rd r1 q1
  refine ⟨b1, rfl, ?_⟩
  cases b1 with
  | false => exact (hq _ _ q2) _ _ l1 (.bl _) rh1
  | true =>
    refine ⟨s, h1, _, le.trans l1, rs.le l1.le, rh1, q2, fun d2 h2 q3 v2 H2 l2 r2 rh2 => ?_⟩
    obtain ⟨b2, rfl, rfl, q4⟩ := asB_rd r2 q3
    exact (hq _ _ q4) _ _ (l1.trans l2) (.bl _) rh2
theorem or_pe {rest : List Expr} (ha : Snd L gl F X a l) (hb : PE X (.BoolOp .Or (r :: rest) pos) (Lx L (wE gl F b))) : PE X (.BoolOp .Or (l :: r :: rest) pos) (Lx L (wE gl F (.or a b))) := by
  refine PE.imp (pe_or ha.pe hb) fun σ H Q ⟨s, h, Q0, le, rs, rh, q, hq⟩ => ?_
  simp only [wE] at q
  refine ⟨s, h, _, le, rs, rh, q, fun d1 h1 q1 v1 H1 l1 r1 rh1 => ?_⟩
  obtain ⟨b1, rfl, rfl, q2⟩ := asB_rd r1 q1
  refine ⟨b1, rfl, ?_⟩
  cases b1 with
  | true => exact (hq _ _ q2) _ _ l1 (.bl _) rh1
  | false =>
    refine ⟨s, h1, _, le.trans l1, rs.le l1.le, rh1, q2, fun d2 h2 q3 v2 H2 l2 r2 rh2 => ?_⟩
    obtain ⟨b2, rfl, rfl, q4⟩ := asB_rd r2 q3
    exact (hq _ _ q4) _ _ (l1.trans l2) (.bl _) rh2
theorem and_pw {rest : List Expr} (ha : Snd L gl F X a l) (hb : PW X (.BoolOp .And (r :: rest) pos) (Lt L (wE gl F b))) : PW X (.BoolOp .And (l :: r :: rest) pos) (Lt L (wE gl F (.and a b))) := by
  refine PW.imp (pw_and ha.pt hb) fun σ H Q ⟨s, h, Q0, le, rs, rh, q, hq⟩ => ?_
  simp only [wE] at q
  have q : wE gl F a s h (asB fun c h1 => if c = true then wE gl F b s h1 (asB Q0) (fun x h' => L.EX x s h') else Q0 false h1) (fun x h' => L.EX x s h') := q
  refine ⟨s, h, _, le, rs, rh, q, fun b1 h1 q1 H1 l1 rh1 => ?_⟩
  cases b1 with
  | false => exact hq _ _ q1 _ l1 rh1
  | true => exact ⟨s, h1, Q0, le.trans l1, rs.le l1.le, rh1, q1, fun b2 h2 q3 H2 l2 rh2 => hq _ _ q3 _ (l1.trans l2) rh2⟩
theorem or_pw {rest : List Expr} (ha : Snd L gl F X a l) (hb : PW X (.BoolOp .Or (r :: rest) pos) (Lt L (wE gl F b))) : PW X (.BoolOp .Or (l :: r :: rest) pos) (Lt L (wE gl F (.or a b))) := by
  refine PW.imp (pw_or ha.pt hb) fun σ H Q ⟨s, h, Q0, le, rs, rh, q, hq⟩ => ?_
  simp only [wE] at q
  have q : wE gl F a s h (asB fun c h1 => if c = true then Q0 true h1 else wE gl F b s h1 (asB Q0) (fun x h' => L.EX x s h')) (fun x h' => L.EX x s h') := q
  refine ⟨s, h, _, le, rs, rh, q, fun b1 h1 q1 H1 l1 rh1 => ?_⟩
  cases b1 with
  | true => exact hq _ _ q1 _ l1 rh1
  | false => exact ⟨s, h1, Q0, le.trans l1, rs.le l1.le, rh1, q1, fun b2 h2 q3 H2 l2 rh2 => hq _ _ q3 _ (l1.trans l2) rh2⟩
theorem snd_and1 (ha : Snd L gl F X a l) (hb : Snd L gl F X b r) : Snd L gl F X (.and a b) (.BoolOp .And [l, r] pos) :=
  have w := and_pw (pos := pos) ha (pw_and1 hb.pt)
  ⟨and_pe ha (pe_one hb.pe), w.pt, fun _ _ _ q => by cases q; exact w⟩
theorem snd_and2 {rest : List Expr} (ha : Snd L gl F X a l) (hb : Snd L gl F X b (.BoolOp .And (r :: m :: rest) pos)) : Snd L gl F X (.and a b) (.BoolOp .And (l :: r :: m :: rest) pos) :=
  have w := and_pw (pos := pos) ha (hb.pw _ _ _ rfl)
  ⟨and_pe ha hb.pe, w.pt, fun _ _ _ q => by cases q; exact w⟩
theorem snd_or1 (ha : Snd L gl F X a l) (hb : Snd L gl F X b r) : Snd L gl F X (.or a b) (.BoolOp .Or [l, r] pos) :=
  have w := or_pw (pos := pos) ha (pw_or1 hb.pt)
  ⟨or_pe ha (pe_one hb.pe), w.pt, fun _ _ _ q => by cases q; exact w⟩
theorem snd_or2 {rest : List Expr} (ha : Snd L gl F X a l) (hb : Snd L gl F X b (.BoolOp .Or (r :: m :: rest) pos)) : Snd L gl F X (.or a b) (.BoolOp .Or (l :: r :: m :: rest) pos) :=
  have w := or_pw (pos := pos) ha (hb.pw _ _ _ rfl)
  ⟨or_pe ha hb.pe, w.pt, fun _ _ _ q => by cases q; exact w⟩
theorem lastM {op op' : CmpOp} {m r : Expr} (h : notSet r = true) : lastMarks [op, op'] [m, r] = false := by
  show behindInMarks op' r = false
  exact nomarkS h
theorem snd_chn (O : XO Γ L k gl F X) {op op' : CmpOp} (ha : Snd L gl F X a l) (hb : Snd L gl F X b m) (hc : Snd L gl F X c r) (hs : notSet r = true) : Snd L gl F X (.chn op op' a b c) (.Compare l [op, op'] [m, r] pos) := by
  have hu : X.A.units + 65 < cLine := by have := O.rm.u; omega
  have core : ∀ {σ : L2.St} {H : Hp} {Q : VK} {s : DSt} {h : DH} {Q0 : QD}, Ste L.H0 L.h0 H h → RS L.K H σ s → RH L.K L.C H h → wE gl F (.chn op op' a b c) s h Q0 (fun x h' => L.EX x s h') → (∀ d h', Q0 d h' → LQ L.K L.C H h Q d h') →
      tChain (fun x y H Q => ∃ d e h Q0, RD X.K H x d ∧ RD X.K H y e ∧ RH X.K L.C H h ∧ wCmp op d e h Q0 ∧ ∀ r h', Q0 r h' → LQ X.K L.C H h Q r h') (fun x y H Q => ∃ d e h Q0, RD X.K H x d ∧ RD X.K H y e ∧ RH X.K L.C H h ∧ wCmp op' d e h Q0 ∧ ∀ r h', Q0 r h' → LQ X.K L.C H h Q r h') (Lx L (wE gl F a)) (Lx L (wE gl F b)) (Lx L (wE gl F c)) σ H Q := by
    intro σ H Q s h Q0 le rs rh q hq
    simp only [wE] at q
    refine ⟨s, h, _, le, rs, rh, q, fun d1 h1 q1 v1 H1 l1 r1 rh1 => ⟨s, h1, _, le.trans l1, rs.le l1.le, rh1, q1, fun d2 h2 q2 v2 H2 l2 r2 rh2 => ?_⟩⟩
    rw [O.K]
    refine ⟨d1, d2, h2, _, r1.le l2.le, r2, rh2, q2, fun z h3 q3 v3 H3 l3 r3 rh3 => ?_⟩
    obtain ⟨b1, rfl, rfl, q4⟩ := asB_rd r3 q3
    refine ⟨b1, rfl, ?_⟩
    cases b1 with
    | false => exact (hq _ _ q4) _ _ ((l1.trans l2).trans l3) (.bl _) rh3
    | true =>
      refine ⟨s, h3, _, (le.trans l1).trans (l2.trans l3), (rs.le l1.le).le (l2.le.trans l3.le), rh3, q4, fun d4 h4 q5 v4 H4 l4 r4 rh4 => ?_⟩
      exact ⟨d2, d4, h4, Q0, (r2.le l3.le).le l4.le, r4, rh4, q5, fun z h' q' => (hq z h' q').le (((l1.trans l2).trans l3).trans l4)⟩
  refine ⟨PE.imp (pe_chain (cmp_ok (C := L.C) hu op) (cmp_ok (C := L.C) hu op') ha.pe hb.pe hc.pe (lastM hs)) fun σ H Q ⟨s, h, Q0, le, rs, rh, q, hq⟩ => core le rs rh q hq,
    PT.imp (pt_chain (cmp_ok (C := L.C) hu op) (cmp_ok (C := L.C) hu op') ha.pe hb.pe hc.pe (lastM hs)) fun σ H Q ⟨s, h, Q0, le, rs, rh, q, hq⟩ => core le rs rh q (fun d h' q1 v H' l r rh' => ?_), fun _ _ _ q => nomatch q⟩
  obtain ⟨b1, rfl, rfl, q4⟩ := asB_rd r q1
  exact ⟨b1, rfl, hq _ _ q4 _ l rh'⟩
theorem snd_ife {t : CE} {u : Expr} (ht : Snd L gl F X t u) (ha : Snd L gl F X a l) (hb : Snd L gl F X b r) : PE X (.IfExp u l r pos) (Lx L (wE gl F (.ife t a b))) := by
  refine PE.imp (pe_ifExp ht.pt ha.pe hb.pe) fun σ H Q ⟨s, h, Q0, le, rs, rh, q, hq⟩ => ?_
  simp only [wE] at q
  refine ⟨s, h, _, le, rs, rh, q, fun b1 h1 q1 H1 l1 rh1 => ?_⟩
  cases b1 with
  | true => exact ⟨s, h1, Q0, le.trans l1, rs.le l1.le, rh1, q1, fun d h' q' => (hq d h' q').le l1⟩
  | false => exact ⟨s, h1, Q0, le.trans l1, rs.le l1.le, rh1, q1, fun d h' q' => (hq d h' q').le l1⟩
end
end DL

/-! DL, part J: displays, subscripts, calls -/
namespace DL
open PySem PySem.Spec PyProof.Rows L2
section
variable {Γ : Gx} {L : Lv} {k : Nat} {gl : List D} {F : Fns} {X : Cx} {a b c : CE} {es : CEs} {e l r m : Expr} {xs : List Expr} {pos apos : Pos}
theorem snd_ife2 {t : CE} {u : Expr} (ht : Snd L gl F X t u) (ha : Snd L gl F X a l) (hb : Snd L gl F X b r) : Snd L gl F X (.ife t a b) (.IfExp u l r pos) := by
  refine ⟨snd_ife ht ha hb, ⟨fun pins s0 σ H Q I ⟨s, h, Q0, le, rs, rh, q, hq⟩ => ?_⟩, fun _ _ _ q => nomatch q⟩
  simp only [wE] at q
  show wpAny (model X.prog X.w) X.A (isTrue u X.env (eval u X.env) >>= fun b => if b = true then isTrue l X.env (eval l X.env) else isTrue r X.env (eval r X.env)) _ _ _
  have q : wE gl F t s h (asB fun c h1 => if c = true then wE gl F a s h1 (asB Q0) (fun x h' => L.EX x s h') else wE gl F b s h1 (asB Q0) (fun x h' => L.EX x s h')) (fun x h' => L.EX x s h') := q
  have w := ht.pt.run pins s0 σ H (fun b0 H1 => if b0 = true then Lt L (wE gl F a) σ H1 Q else Lt L (wE gl F b) σ H1 Q) I ⟨s, h, _, le, rs, rh, q, fun b1 h1 q1 H1 l1 rh1 => by
    cases b1 with
    | true => exact ⟨s, h1, Q0, le.trans l1, rs.le l1.le, rh1, q1, fun d h' q' H' l' rh' => hq d h' q' H' (l1.trans l') rh'⟩
    | false => exact ⟨s, h1, Q0, le.trans l1, rs.le l1.le, rh1, q1, fun d h' q' H' l' rh' => hq d h' q' H' (l1.trans l') rh'⟩⟩
  refine wpAny_bind (thn w fun b1 s1 ⟨H1, I1, q1⟩ => ?_)
  cases b1 with
  | true => exact ha.pt.run pins s1 σ H1 Q I1 q1
  | false => exact hb.pt.run pins s1 σ H1 Q I1 q1

/-! lists of expressions -/
theorem la_nil : PA X [] (La L (wEs gl F .nil)) := PA.imp pa_nil fun σ H Q ⟨s, h, Q0, le, rs, rh, q, hq⟩ => by
  simp only [wEs] at q
  exact hq _ _ q [] H .refl .nil rh
theorem la_cons (hn : notStar e = true) (ha : PE X e (Lx L (wE gl F a))) (hr : PA X xs (La L (wEs gl F es))) : PA X (e :: xs) (La L (wEs gl F (.cons a es))) := by
  refine PA.imp (pa_cons ha hr (star1 hn)) fun σ H Q ⟨s, h, Q0, le, rs, rh, q, hq⟩ => ?_
  simp only [wEs] at q
  refine ⟨s, h, _, le, rs, rh, q, fun d1 h1 q1 v1 H1 l1 r1 rh1 => ⟨s, h1, _, le.trans l1, rs.le l1.le, rh1, q1, fun ds h2 q2 vs H2 l2 r2 rh2 => ?_⟩⟩
  exact hq _ _ q2 (v1 :: vs) H2 (l1.trans l2) (.cons (r1.le l2.le) r2) rh2
theorem snd_tup {j : Nat} (h : PA X xs (La L (wEs gl F es))) : Snd L gl F X (.tup es) (.Tuple xs j pos) := by
  refine .of (PE.imp (pe_tup h) fun σ H Q ⟨s, h, Q0, le, rs, rh, q, hq⟩ => ?_) (fun _ => rfl) (fun _ _ _ q => nomatch q)
  simp only [wE] at q
  have hz := sizeLine_eq
  refine ⟨s, h, _, le, rs, rh, q, fun ds h1 q1 vs H1 l1 r1 rh1 => ⟨by rw [r1.length]; have := q1.1; omega, fun p hp => ?_⟩⟩
  exact hq _ _ q1.2 (.ref p) _ (l1.trans (Ste.side hp)) (.tup upd_same (r1.le (Le.new hp))) (rh1.side hp)
theorem snd_lst (h : PA X xs (La L (wEs gl F es))) : Snd L gl F X (.lst es) (.List xs pos) := by
  refine .of (PE.imp (pe_lst h) fun σ H Q ⟨s, h, Q0, le, rs, rh, q, hq⟩ => ?_) (fun _ => rfl) (fun _ _ _ q => nomatch q)
  simp only [wE] at q
  have hz := sizeLine_eq
  refine ⟨s, h, _, le, rs, rh, q, fun ds h1 q1 vs H1 l1 r1 rh1 => ⟨by rw [r1.length]; have := q1.1; omega, fun p hp => ?_⟩⟩
  exact hq _ _ (q1.2 p (rh1.free hp)) (.ref p) _ (l1.trans (Ste.new hp)) (.ref p) (rh1.new hp ⟨vs, upd_same, r1.le (Le.new hp)⟩)
theorem pe_dnew2 : PE X (.Dict [] [] pos) (fun σ H Q => tDNewK σ H Q ∨ tDNewT σ H Q) := ⟨fun pins s σ H Q I h => h.elim (pe_dnewK.run pins s σ H Q I) (pe_dnewT.run pins s σ H Q I)⟩
theorem snd_dnew : Snd L gl F X .dnew (.Dict [] [] pos) := by
  refine .of (PE.imp pe_dnew2 fun σ H Q ⟨s, h, Q0, le, rs, rh, q, hq⟩ => ?_) (fun _ => rfl) (fun _ _ _ q => nomatch q)
  simp only [wE] at q
  rcases q with q | q
  · exact .inl fun p hp => hq _ _ (q p (rh.free hp)) (.ref p) _ (Ste.new hp) (.ref p) (rh.new hp ⟨[], upd_same, .nil⟩)
  · exact .inr fun p hp => hq _ _ (q p (rh.free hp)) (.ref p) _ (Ste.new hp) (.ref p) (rh.new hp ⟨[], upd_same, .nil⟩)
theorem snd_rev (O : XO Γ L k gl F X) (ha : Snd L gl F X a l) {kk : Nat} {p1 p2 p3 : Pos} : Snd L gl F X (.rev a) (.Subscript l (.Slice none none (some (.UnaryOp .USub (.Constant (.int 1) kk p1) p2)) p3) pos) := by
  refine .of (PE.imp (pe_back ha.pe) fun σ H Q ⟨s, h, Q0, le, rs, rh, q, hq⟩ => ?_) (fun _ => rfl) (fun _ _ _ q => nomatch q)
  simp only [wE] at q
  refine ⟨s, h, _, le, rs, rh, q, fun d1 h1 q1 v1 H1 l1 r1 rh1 => ?_⟩
  rw [O.K]
  unfold wRev at q1
  have hz := sizeLine_eq
  split at q1
  · cases r1
    exact .inl ⟨_, rfl, by omega, (hq _ _ q1.2) (.str _) _ l1 (.str _) rh1⟩
  · cases r1 with
    | tup sq r => exact .inr ⟨_, _, rfl, .inr ⟨.inl (.inl sq), fun p hp => hq _ _ q1 (.ref p) _ (l1.trans (Ste.side hp)) (.tup upd_same (r.reverse.le (Le.new hp))) (rh1.side hp)⟩⟩
  · split at q1
    · rename_i xs e
      obtain ⟨p, vs, rfl, sq, r⟩ := lstOf_rd rh1 r1 e
      exact .inr ⟨p, vs, rfl, .inl ⟨sq, fun p hp => hq _ _ (q1 p (rh1.free hp)) (.ref p) _ (l1.trans (Ste.new hp)) (.ref p) (rh1.new hp ⟨vs.reverse, upd_same, r.reverse.le (Le.new hp)⟩)⟩⟩
    · exact q1.elim
theorem rps_merge {K : PySem.W.Frag} {H : Hp} : ∀ (ks : List Key) {vs : List V} {ds : List D} {gs : List (Key × V)} {fs : List (Key × D)}, RDs K H vs ds → RPs K H gs fs → RPs K H (mergeK gs (ks.zip vs)) ((ks.zip ds).foldl (fun acc kv => dput acc kv.1 kv.2) fs)
  | [], _, _, _, _, _, r => r
  | _ :: _, _, _, _, _, .nil, r => r
  | k :: ks, _, _, _, _, .cons a b, r => rps_merge ks b (RPs.put a r)
def SndsP (Γ : Gx) (L : Lv) (gl : List D) (F : Fns) (X : Cx) : CEs → Prop
  | .nil => True
  | .cons c cs => (∀ e, chk Γ c e = true → Snd L gl F X c e) ∧ SndsP Γ L gl F X cs
theorem pps_ok (O : XO Γ L k gl F X) : ∀ (es : CEs) (ks : List Key) (keys : List (Option Expr)) (vals : List Expr), SndsP Γ L gl F X es → chkK ks keys = true → keys.length = vals.length → chks Γ es vals = true → ∃ trs, PPs X pos keys vals trs ∧ ks.length = keys.length ∧ keys.all (·.isSome) = true ∧
    ∀ σ H Q, (∃ s h Q0, Ste L.H0 L.h0 H h ∧ RS L.K H σ s ∧ RH L.K L.C H h ∧ wEs gl F es s h Q0 (fun x h' => L.EX x s h') ∧ ∀ ds h', Q0 ds h' → ∀ (vs : List V) H', Ste H h H' h' → RDs L.K H' vs ds → RH L.K L.C H' h' → Q ((ks.zip vs).map fun p => (kV p.1, p.2)) H') → tPairs trs σ H Q
  | .nil, ks, keys, [], _, hk, hl, _ => by
    have : keys = [] := List.length_eq_zero_iff.mp hl
    subst this
    have : ks = [] := by
      cases ks with
      | nil => rfl
      | cons k r => cases k <;> simp [chkK] at hk
    subst this
    refine ⟨[], pps_nil, rfl, rfl, fun σ H Q ⟨s, h, Q0, le, rs, rh, q, hq⟩ => ?_⟩
    simp only [wEs] at q
    exact hq _ _ q [] H .refl .nil rh
  | .nil, _, _, _ :: _, _, _, _, h => by simp [chks] at h
  | .cons _ _, _, _, [], _, _, _, h => by simp [chks] at h
  | .cons c cs, ks, keys, v :: r, S, hk, hl, h => by
    simp only [chks, Bool.and_eq_true] at h
    have go : ∀ (kk : Key) (kr : List Key) (ke : Expr) (kt : List (Option Expr)), ks = kk :: kr → keys = some ke :: kt → PE X ke (tC (kV kk)) → chkK kr kt = true → ∃ trs, PPs X pos keys (v :: r) trs ∧ ks.length = keys.length ∧ keys.all (·.isSome) = true ∧
        ∀ σ H Q, (∃ s h Q0, Ste L.H0 L.h0 H h ∧ RS L.K H σ s ∧ RH L.K L.C H h ∧ wEs gl F (.cons c cs) s h Q0 (fun x h' => L.EX x s h') ∧ ∀ ds h', Q0 ds h' → ∀ (vs : List V) H', Ste H h H' h' → RDs L.K H' vs ds → RH L.K L.C H' h' → Q ((ks.zip vs).map fun p => (kV p.1, p.2)) H') → tPairs trs σ H Q := by
      intro kk kr ke kt e1 e2 pk hk'
      subst e1 e2
      obtain ⟨trs, P, hl2, ha, conv⟩ := pps_ok O cs kr kt r S.2 hk' (by simpa using hl) h.2
      refine ⟨_, pps_cons pk (S.1 v h.1.2).pe P, by simp [hl2], by simpa using ha, fun σ H Q ⟨s, h0, Q0, le, rs, rh, q, hq⟩ => ?_⟩
      simp only [wEs] at q
      show tC (kV kk) σ H _
      show Lx L (wE gl F c) σ H _
      refine ⟨s, h0, _, le, rs, rh, q, fun d h1 q1 w H1 l1 r1 rh1 => conv _ _ _ ⟨s, h1, _, le.trans l1, rs.le l1.le, rh1, q1, fun ds h2 q2 vs H2 l2 r2 rh2 => ?_⟩⟩
      exact hq _ _ q2 (w :: vs) H2 (l1.trans l2) (.cons (r1.le l2.le) r2) rh2
    cases ks with
    | nil =>
      cases keys with
      | nil => cases hl
      | cons _ _ => simp [chkK] at hk
    | cons kk kr =>
      cases kk with
      | inl i =>
        simp only [chkK] at hk
        split at hk
        · rename_i j c1 p1 t
          simp only [Bool.and_eq_true] at hk
          have e := beq_iff_eq.mp hk.1
          subst e
          exact go (.inl j) kr _ t rfl rfl pe_int hk.2
        · cases hk
      | inr z =>
        simp only [chkK] at hk
        split at hk
        · rename_i y c1 p1 t
          simp only [Bool.and_eq_true] at hk
          have e := beq_iff_eq.mp hk.1
          subst e
          exact go (.inr y) kr _ t rfl rfl pe_str hk.2
        · cases hk
theorem snd_dis (O : XO Γ L k gl F X) {ks : List Key} {keys : List (Option Expr)} {vals : List Expr} (S : SndsP Γ L gl F X es) (hk : chkK ks keys = true) (hv : chks Γ es vals = true) (hl : keys.length = vals.length) (h0 : ks.isEmpty = false) (h15 : ks.length ≤ 15) : Snd L gl F X (.dis ks es) (.Dict keys vals pos) := by
  obtain ⟨trs, P, hl2, ha, conv⟩ := pps_ok (pos := pos) O es ks keys vals S hk hl hv
  have hne : keys ≠ [] := fun z => by
    subst z
    have : ks = [] := List.length_eq_zero_iff.mp hl2
    subst this
    cases h0
  refine .of (PE.imp (pe_disp P ha hl hne (by omega)) fun σ H Q ⟨s, h, Q0, le, rs, rh, q, hq⟩ => ?_) (fun _ => rfl) (fun _ _ _ q => nomatch q)
  simp only [wE] at q
  intro p hp
  have rh1 := rh.new (u := .dK []) (o := .dK []) hp ⟨[], upd_same, .nil⟩
  have st := Ste.new (o := .dK []) (u := .dK []) hp (h := h)
  refine conv _ _ _ ⟨s, _, _, le.trans st, rs.le st.le, rh1, q p (rh.free hp), fun ds h2 q2 vs H2 l2 r2 rh2 => ?_⟩
  obtain ⟨q2, q3⟩ := q2
  obtain ⟨gs, e2, r3⟩ := rh2 _ _ q2
  cases r3
  have mu : Mut (H2 p) := by rw [e2]; exact trivial
  refine ⟨e2, ks.zip vs, rfl, by rw [List.length_zip]; omega, ?_⟩
  exact hq _ _ q3 (.ref p) _ ((st.trans l2).trans (Ste.mut q2 mu)) (.ref p) (rh2.put mu ⟨_, upd_same, RPs.le (Le.mut mu) (rps_merge ks r2 .nil)⟩)
theorem snd_idx (O : XO Γ L k gl F X) (ha : Snd L gl F X a l) (hb : Snd L gl F X b r) (hs : notSlice r = true) : Snd L gl F X (.idx a b) (.Subscript l r pos) := by
  have hu : X.A.units + 1 < cLine := by have := O.rm.u; omega
  refine .of (PE.imp (pe_ix (idx_ok (C := L.C) hu) ha.pe hb.pe (plainIx hs)) fun σ H Q ⟨s, h, Q0, le, rs, rh, q, hq⟩ => ?_) (fun _ => rfl) (fun _ _ _ q => nomatch q)
  simp only [wE] at q
  refine ⟨s, h, _, le, rs, rh, q, fun d1 h1 q1 v1 H1 l1 r1 rh1 => ⟨s, h1, _, le.trans l1, rs.le l1.le, rh1, q1, fun d2 h2 q2 v2 H2 l2 r2 rh2 => ?_⟩⟩
  rw [O.K]
  exact ⟨d1, d2, h2, Q0, r1.le l2.le, r2, rh2, q2, fun z h' q' => (hq z h' q').le (l1.trans l2)⟩
theorem lo_none : PO X none (Lo L (wO gl F .none)) := ⟨fun pins s0 σ H Q I ⟨s, h, Q0, le, rs, rh, q, hq⟩ => po_none.run pins s0 σ H Q I (by simp only [wO] at q; exact hq _ _ q H .refl rh)⟩
theorem lo_some (ha : PE X e (Lx L (wE gl F a))) : PO X (some e) (Lo L (wO gl F (.some a))) := ⟨fun pins s0 σ H Q I ⟨s, h, Q0, le, rs, rh, q, hq⟩ => (po_some ha).run pins s0 σ H Q I (by
  simp only [wO] at q
  refine ⟨s, h, _, le, rs, rh, q, fun d1 h1 q1 v1 H1 l1 r1 rh1 => ?_⟩
  split at q1
  · cases r1
    exact ⟨_, rfl, hq _ _ q1 H1 l1 rh1⟩
  · exact q1.elim)⟩
theorem snd_slc (O : XO Γ L k gl F X) {lo hi : CO} {el eh : Option Expr} {p2 : Pos} (ha : Snd L gl F X a l) (hl : PO X el (Lo L (wO gl F lo))) (hh : PO X eh (Lo L (wO gl F hi))) : Snd L gl F X (.slc a lo hi) (.Subscript l (.Slice el eh none p2) pos) := by
  refine .of (PE.imp (pe_slice (slc_ok (C := L.C)) ha.pe hl hh) fun σ H Q ⟨s, h, Q0, le, rs, rh, q, hq⟩ => ?_) (fun _ => rfl) (fun _ _ _ q => nomatch q)
  simp only [wE] at q
  refine ⟨s, h, _, le, rs, rh, q, fun d1 h1 q1 v1 H1 l1 r1 rh1 => ⟨s, h1, _, le.trans l1, rs.le l1.le, rh1, q1, fun o2 h2 q2 H2 l2 rh2 => ⟨s, h2, _, (le.trans l1).trans l2, (rs.le l1.le).le l2.le, rh2, q2, fun o3 h3 q3 H3 l3 rh3 => ?_⟩⟩⟩
  rw [O.K]
  exact ⟨d1, h3, Q0, (r1.le l2.le).le l3.le, rh3, q3, fun z h' q' => (hq z h' q').le ((l1.trans l2).trans l3)⟩

/-! calls -/
theorem snd_call (O : XO Γ L k gl F X) {i : Nat} {x : Str} {y : Expr} {ys : List Expr} (hN : Γ.fns[i]? = some x) (hv : glB Γ.sc x = true) (hn : okN x = true) (hst : (y :: ys).all notStar = true) (ha : PA X (y :: ys) (La L (wEs gl F es))) : Snd L gl F X (.call i es) (.Call (.Name x apos) (y :: ys) [] pos) := by
  obtain ⟨f, fd, ps, hm, hk, hf, hb⟩ := O.tab.fn i x hN
  rw [List.all_cons, Bool.and_eq_true] at hst
  refine .of (PE.imp (pe_callG hf O.room O.rm.g (O.glo hv) hm hk hb (passAt O.tk) ha (okN_1 hn) (star1 hst.1) (stars_plain hst.2)) fun σ H Q ⟨s, h, Q0, le, rs, rh, q, hq⟩ => ?_) (fun _ => rfl) (fun _ _ _ q => nomatch q)
  simp only [wE] at q
  refine ⟨s, h, _, le, rs, rh, q, fun ds h1 q1 vs H1 l1 r1 rh1 => ?_⟩
  rw [O.K]
  exact ⟨ds, h1, Q0, _, r1, rh1, q1, fun d h' q' => (hq d h' q').le l1, fun x h' ex cls d H' l' rx rh' => ⟨x, s, h', (le.trans l1).trans l', rx, (rs.le l1.le).le l'.le, rh', ex⟩⟩
theorem snd_call0 (O : XO Γ L k gl F X) {i : Nat} {x : Str} (hN : Γ.fns[i]? = some x) (hv : glB Γ.sc x = true) (hn : okN x = true) : Snd L gl F X (.call i .nil) (.Call (.Name x apos) [] [] pos) := by
  obtain ⟨f, fd, ps, hm, hk, hf, hb⟩ := O.tab.fn i x hN
  refine .of (PE.imp (pe_callG0 hf O.room O.rm.g (O.glo hv) hm hk hb (passAt O.tk) (okN_1 hn)) fun σ H Q ⟨s, h, Q0, le, rs, rh, q, hq⟩ => ?_) (fun _ => rfl) (fun _ _ _ q => nomatch q)
  simp only [wE, wEs] at q
  show spL X.K L.C (F i) [] H Q _
  rw [O.K]
  exact ⟨[], h, Q0, _, .nil, rh, q, hq, fun x h' ex cls d H' l' rx rh' => ⟨x, s, h', le.trans l', rx, rs.le l'.le, rh', ex⟩⟩
theorem boot_blt : ∀ f : Blt, bootBuiltins f.name = some f.val := by
  intro f
  cases f <;> decide +kernel
theorem ok_blt : ∀ f : Blt, f.name ≠ ("__name__" : Str) ∧ (f.name == ("__debug__" : Str)) = false := by
  intro f
  cases f <;> decide
theorem blt_conv (O : XO Γ L k gl F X) {f : Blt} : ∀ σ H Q, Lx L (wE gl F (.blt f es)) σ H Q → tCB (fun xs H Q => ∃ ds h Q0, RDs X.K H xs ds ∧ RH X.K L.C H h ∧ wB f ds h Q0 ∧ ∀ r h', Q0 r h' → LQ X.K L.C H h Q r h') (La L (wEs gl F es)) σ H Q := fun σ H Q ⟨s, h, Q0, le, rs, rh, q, hq⟩ => by
  simp only [wE] at q
  refine ⟨s, h, _, le, rs, rh, q, fun ds h1 q1 vs H1 l1 r1 rh1 => ?_⟩
  rw [O.K]
  exact ⟨ds, h1, Q0, r1, rh1, q1, fun d h' q' => (hq d h' q').le l1⟩
theorem snd_blt (O : XO Γ L k gl F X) {f : Blt} {y : Expr} {ys : List Expr} (hv : glB Γ.sc f.name = true) (hm : Γ.bls.contains f.name = true) (hst : (y :: ys).all notStar = true) (ha : PA X (y :: ys) (La L (wEs gl F es))) : Snd L gl F X (.blt f es) (.Call (.Name f.name apos) (y :: ys) [] pos) := by
  rw [List.all_cons, Bool.and_eq_true] at hst
  have hb := boot_blt f
  have hc := blt_ok (C := L.C) O.rm f
  refine .of ?_ (fun _ => rfl) (fun _ _ _ q => nomatch q)
  cases hi : f.isTy with
  | true =>
    have e : f.val = .type f.id := by unfold Blt.val; rw [hi]; rfl
    rw [e] at hb hc
    exact PE.imp (pe_callTy hc (O.glo hv) (O.blo hm) hb ha (ok_blt f).1 (ok_blt f).2 (star1 hst.1) (stars_plain hst.2)) (blt_conv O)
  | false =>
    have e : f.val = .builtin f.id := by unfold Blt.val; rw [hi]; rfl
    rw [e] at hb hc
    exact PE.imp (pe_callB hc (O.glo hv) (O.blo hm) hb ha (ok_blt f).1 (ok_blt f).2 (star1 hst.1) (stars_plain hst.2)) (blt_conv O)

/-! ### min(a, default=d); list(range(a, b)) -/
theorem snd_mnd (O : XO Γ L k gl F X) {x y : Expr} {d : CE} {f kn : Str} {kp : Pos} (ef : f = ("min" : Str)) (ek : kn = ("default" : Str)) (hv : glB Γ.sc f = true) (hm : Γ.bls.contains f = true) (hn : notStar x = true) (ha : Snd L gl F X a x) (hd : Snd L gl F X d y) : Snd L gl F X (.mnd a d) (.Call (.Name f apos) [x] [⟨some kn, y, kp⟩] pos) := by
  subst ef ek
  have hu : X.A.units + 64 < cLine := by have := O.rm.u; omega
  refine .of (PE.imp (pe_callBK (cr_minD O.rm.c hu) (O.glo hv) (O.blo hm) (boot_blt .min) (pa_cons ha.pe pa_nil (star1 hn)) (pk_cons hd.pe pk_nil) (by decide) (by decide) (by rw [star1 hn]; rfl) (by rw [star1 hn]; rfl)) fun σ H Q ⟨s, h, Q0, le, rs, rh, q, hq⟩ => ?_) (fun _ => rfl) (fun _ _ _ q => nomatch q)
  simp only [wE] at q
  refine ⟨s, h, _, le, rs, rh, q, fun d1 h1 q1 v1 H1 l1 r1 rh1 => ⟨s, h1, _, le.trans l1, rs.le l1.le, rh1, q1, fun d2 h2 q2 v2 H2 l2 r2 rh2 => ?_⟩⟩
  rw [O.K]
  unfold wMnd at q2
  split at q2
  · rename_i xs e
    obtain ⟨ns, en, h0, hmn⟩ := q2
    subst en
    obtain ⟨p, vs, rfl, sq, rr⟩ := lstOf_rd rh2 (r1.le l2.le) e
    rw [iL_rd rr] at sq
    exact ⟨p, ns, v2, rfl, sq, rfl, fun e => hq _ _ (h0 e) v2 H2 (l1.trans l2) r2 rh2, fun m m1 m2 => hq _ _ (hmn m m1 m2) (.int m) H2 (l1.trans l2) (.int m) rh2⟩
  · exact q2.elim
theorem rds_rg {K : PySem.W.Frag} {H : Hp} {i j : Int} : RDs K H (rgV i j) (rgD i j) := by
  unfold rgV rgD
  generalize List.range (j - i).toNat = l
  induction l with
  | nil => exact .nil
  | cons n l ih => exact .cons (.int _) ih
theorem snd_lrg (O : XO Γ L k gl F X) {x y : Expr} {b : CE} {f g : Str} {p1 p2 : Pos} (ef : f = ("list" : Str)) (eg : g = ("range" : Str)) (hv : glB Γ.sc f = true) (hm : Γ.bls.contains f = true) (hv2 : glB Γ.sc g = true) (hm2 : Γ.bls.contains g = true) (hx : notStar x = true) (hy : notStar y = true) (ha : Snd L gl F X a x) (hb : Snd L gl F X b y) : Snd L gl F X (.lrg a b) (.Call (.Name f apos) [.Call (.Name g p1) [x, y] [] p2] [] pos) := by
  subst ef eg
  refine .of (PE.imp (pe_listRg O.rm.c (O.glo hv) (O.blo hm) (prg_2 (O.glo hv2) (O.blo hm2) ha.pe hb.pe (star1 hx) (star1 hy) (stars_plain (by rw [List.all_cons, hy]; rfl)))) fun σ H Q ⟨s, h, Q0, le, rs, rh, q, hq⟩ => ?_) (fun _ => rfl) (fun _ _ _ q => nomatch q)
  simp only [wE] at q
  refine ⟨s, h, _, le, rs, rh, q, fun d1 h1 q1 v1 H1 l1 r1 rh1 => ⟨s, h1, _, le.trans l1, rs.le l1.le, rh1, q1, fun d2 h2 q2 v2 H2 l2 r2 rh2 => ?_⟩⟩
  unfold wLrg at q2
  split at q2
  · cases r1
    cases r2
    exact ⟨_, _, rfl, rfl, q2.1, fun p hp => hq _ _ (q2.2 p (rh2.free hp)) (.ref p) _ ((l1.trans l2).trans (Ste.new hp)) (.ref p) (rh2.new hp ⟨_, upd_same, rds_rg⟩)⟩
  · exact q2.elim
/-! methods of built-in types -/
theorem pa_mtd : ∀ m : Mtd, PlainAttrs m.ty
  | .get => PySem.F.plainAttrs_dict
  | .join | .split | .partition | .upper => PySem.F.plainAttrs_str
  | .append | .extend | .pop | .reverse | .clear | .insert => PySem.F.plainAttrs_list
theorem slot_mtd : ∀ m : Mtd, Slot m.ty m.name m.id
  | .get => PySem.F.slot_dict_get
  | .join => PySem.F.slot_str_join
  | .split => PySem.F.slot_str_split
  | .partition => PySem.F.slot_str_partition
  | .upper => PySem.F.slot_str_upper
  | .append => PySem.F.slot_list_append
  | .extend => PySem.F.slot_list_extend
  | .pop => PySem.F.slot_list_pop
  | .reverse => PySem.F.slot_list_reverse
  | .clear => PySem.F.slot_list_clear
  | .insert => PySem.F.slot_list_insert
theorem type_mtd : ∀ m : Mtd, typeOf (.builtin m.id) = pure (.type "method_descriptor")
  | .get => PySem.F.type_dict_get
  | .join => PySem.F.type_str_join
  | .split => PySem.F.type_str_split
  | .partition => PySem.F.type_str_partition
  | .upper => PySem.F.type_str_upper
  | .append => PySem.F.type_list_append
  | .extend => PySem.F.type_list_extend
  | .pop => PySem.F.type_list_pop
  | .reverse => PySem.F.type_list_reverse
  | .clear => PySem.F.type_list_clear
  | .insert => PySem.F.type_list_insert
theorem snd_mtd (O : XO Γ L k gl F X) {f : Mtd} {y : Expr} {ys : List Expr} (ho : Snd L gl F X a l) (hst : (y :: ys).all notStar = true) (ha : PA X (y :: ys) (La L (wEs gl F es))) (hc : notCall0 l = true) (hl : (apos.endLine == pos.line) = true) (h30 : (y :: ys).length < 29) :
    Snd L gl F X (.mtd f a es) (.Call (.Attribute l f.name apos) (y :: ys) [] pos) := by
  have hst' := hst
  rw [List.all_cons, Bool.and_eq_true] at hst'
  have few : ((backTo pos (starEach (y :: ys) X.env)).all (fun x => !x.1) && (backToKw pos (keywordEach [] X.env)).all (fun x => x.1.isSome)
      && decide ((y :: ys).length + ([] : List Keyword).length + (if ([] : List Keyword).isEmpty then 0 else 1) < 30)) = true := by
    rw [stars_all hst]
    have z : (y :: ys).length + ([] : List Keyword).length + (if ([] : List Keyword).isEmpty then 0 else 1) < 30 := by
      show (y :: ys).length + 0 + 0 < 30
      omega
    rw [decide_eq_true z]
    rfl
  refine .of (PE.imp (pe_bm (pa_mtd f) (slot_mtd f) (type_mtd f) (mtd_ok (C := L.C) O.rm f) ho.pe ha (ab_of hc) few hl (star1 hst'.1) (stars_plain hst'.2)) fun σ H Q ⟨s, h, Q0, le, rs, rh, q, hq⟩ => ?_) (fun _ => rfl) (fun _ _ _ q => nomatch q)
  simp only [wE] at q
  refine ⟨s, h, _, le, rs, rh, q, fun d1 h1 q1 v1 H1 l1 r1 rh1 => ?_⟩
  obtain ⟨ty, q1⟩ := q1
  refine ⟨by rw [O.K]; exact tyD_rd rh1 r1 ty, s, h1, _, le.trans l1, rs.le l1.le, rh1, q1, fun ds h2 q2 vs H2 l2 r2 rh2 => ?_⟩
  rw [O.K]
  exact ⟨d1, ds, h2, Q0, r1.le l2.le, r2, rh2, q2, fun d h' q' => (hq d h' q').le (l1.trans l2)⟩
theorem snd_mtd0 (O : XO Γ L k gl F X) {f : Mtd} (ho : Snd L gl F X a l) (hc : notCall0 l = true) (hl : (apos.endLine == pos.line) = true) :
    Snd L gl F X (.mtd f a .nil) (.Call (.Attribute l f.name apos) [] [] pos) := by
  refine .of (PE.imp (pe_bm0 (pa_mtd f) (slot_mtd f) (type_mtd f) (mtd_ok (C := L.C) O.rm f) ho.pe (ab_of hc) hl) fun σ H Q ⟨s, h, Q0, le, rs, rh, q, hq⟩ => ?_) (fun _ => rfl) (fun _ _ _ q => nomatch q)
  simp only [wE, wEs] at q
  refine ⟨s, h, _, le, rs, rh, q, fun d1 h1 q1 v1 H1 l1 r1 rh1 => ?_⟩
  obtain ⟨ty, q1⟩ := q1
  refine ⟨by rw [O.K]; exact tyD_rd rh1 r1 ty, ?_⟩
  rw [O.K]
  exact ⟨d1, [], h1, Q0, r1, .nil, rh1, q1, fun d h' q' => (hq d h' q').le l1⟩

/-! isinstance -/
def isiTs : List String := ["int", "bool", "str", "tuple", "list", "dict"]
theorem boot_ty : ∀ T ∈ isiTs, bootBuiltins (Str.ofString T) = some (.type T) := by decide +kernel
theorem ok_ty : ∀ T ∈ isiTs, (Str.ofString T) ≠ ("__name__" : Str) ∧ (Str.ofString T == ("__debug__" : Str)) = false := by decide +kernel
theorem kit_all : ∀ T ∈ isiTs, ∀ t ∈ ["NoneType", "bool", "int", "str", "tuple", "list", "dict"], kitB t T = some (isTy t T) := by decide +kernel
theorem tyOf_rd {K : PySem.W.Frag} {C : CA} {H : Hp} {h : DH} {d : D} {v : V} {t : String} (rh : RH K C H h) (r : RD K H v d) (e : tyOf d h = some t) : TyX K H v (.type t) ∧ t ∈ ["NoneType", "bool", "int", "str", "tuple", "list", "dict"] := by
  unfold tyOf at e
  split at e
  · cases e; cases r; exact ⟨.base .non, by decide⟩
  · cases e; cases r; exact ⟨.base (.bl _), by decide⟩
  · cases e; cases r; exact ⟨.base (.int _), by decide⟩
  · cases e; cases r; exact ⟨.base (.str _), by decide⟩
  · cases e
    cases r with
    | tup s r => exact ⟨.base (.tup s), by decide⟩
  · cases e
    cases r with
    | kt s r =>
      refine ⟨?_, by decide⟩
      rcases s with (s | ⟨o, s⟩) | ⟨o, its, n, s, hc, _⟩
      · exact .base (.tup s)
      · exact .fTuple s
      · exact .kTuple s hc
  · cases e
    cases r with
    | fl s r =>
      refine ⟨?_, by decide⟩
      rcases s with ⟨o, s⟩ | ⟨o, its, n, s, hc, _⟩
      · exact .base (.frz s)
      · exact .kList s hc
  · cases r
    split at e
    · rename_i ha
      cases e
      obtain ⟨vs, h1, _⟩ := rh _ _ ha
      exact ⟨.base (.lst h1), by decide⟩
    · rename_i ha
      cases e
      obtain ⟨vs, h1, _⟩ := rh _ _ ha
      exact ⟨.base (.dK h1), by decide⟩
    · rename_i ha
      cases e
      obtain ⟨vs, h1, _⟩ := rh _ _ ha
      exact ⟨.base (.dT h1), by decide⟩
    · cases e
theorem snd_isi (O : XO Γ L k gl F X) {T : String} {p2 : Pos} (hT : T ∈ isiTs) (hv : glB Γ.sc "isinstance" = true) (hm : Γ.bls.contains ("isinstance" : Str) = true) (hv2 : glB Γ.sc (Str.ofString T) = true) (hm2 : Γ.bls.contains (Str.ofString T) = true) (hs : notStar l = true) (ha : Snd L gl F X a l) :
    Snd L gl F X (.isi a T) (.Call (.Name "isinstance" apos) [l, .Name (Str.ofString T) p2] [] pos) := by
  have ht : PE X (.Name (Str.ofString T) p2) (tC (.ty T)) := pe_bltn (O.glo hv2) (O.blo hm2) (boot_ty T hT) rfl (ok_ty T hT).1 (ok_ty T hT).2
  refine .of (PE.imp (pe_callB call_isi (O.glo hv) (O.blo hm) (by decide +kernel) (pa_cons ha.pe (pa_cons ht pa_nil (star1 rfl)) (star1 hs)) (by decide) (by decide) (star1 hs) (stars_plain rfl)) fun σ H Q ⟨s, h, Q0, le, rs, rh, q, hq⟩ => ?_) (fun _ => rfl) (fun _ _ _ q => nomatch q)
  simp only [wE] at q
  refine ⟨s, h, _, le, rs, rh, q, fun d1 h1 q1 v1 H1 l1 r1 rh1 => ?_⟩
  unfold wIsi at q1
  split at q1
  · rename_i t ht
    obtain ⟨ty, tm⟩ := tyOf_rd rh1 r1 ht
    exact ⟨_, _, _, _, _, rfl, .ty T, by rw [O.K]; exact ty, kit_ty (kit_all T hT t tm), (hq _ _ q1) _ _ l1 (.bl _) rh1⟩
  · exact q1.elim
end
end DL

/-! DL, part K: targets, what is walked, comprehensions, all expressions -/
namespace DL
open PySem PySem.Spec PyProof.Rows L2

/-! ### targets -/
def Agr (is : List Nat) (σ σ' : L2.St) : Prop := σ'.length = σ.length ∧ ∀ j, j ∉ is → σ'[j]? = σ[j]?
theorem Agr.refl {is : List Nat} {σ : L2.St} : Agr is σ σ := ⟨rfl, fun _ _ => rfl⟩
theorem Agr.trans {is js : List Nat} {σ σ1 σ2 : L2.St} (a : Agr is σ σ1) (b : Agr js σ1 σ2) : Agr (is ++ js) σ σ2 := ⟨b.1.trans a.1, fun j h => by
  rw [List.mem_append, not_or] at h
  exact (b.2 j h.2).trans (a.2 j h.1)⟩
theorem wipe_at {σ : L2.St} {vs : List Nat} {j : Nat} (h : j ∈ vs) (hl : j < σ.length) : (wipe σ vs)[j]? = some none := by
  induction vs with
  | nil => exact absurd h (by simp)
  | cons v vs ih =>
    unfold L2.wipe
    by_cases e : v = j
    · subst e
      exact List.getElem?_set_self (by rw [wipe_length]; exact hl)
    · rw [List.getElem?_set_ne e]
      rcases List.mem_cons.mp h with q | q
      · exact absurd q.symm e
      · exact ih q
theorem Agr.wipe {is vs : List Nat} {σ σ2 : L2.St} (a : Agr is (wipe σ vs) σ2) (h : ∀ j ∈ is, j ∈ vs) : wipe σ2 vs = wipe σ vs := by
  have hl : σ2.length = σ.length := by rw [a.1, wipe_length]
  refine List.ext_getElem? fun j => ?_
  by_cases hj : j ∈ vs
  · by_cases hlt : j < σ.length
    · rw [wipe_at hj (by omega), wipe_at hj hlt]
    · rw [List.getElem?_eq_none (by rw [wipe_length]; omega), List.getElem?_eq_none (by rw [wipe_length]; omega)]
  · rw [wipe_out hj]
    exact a.2 j fun z => hj (h j z)

def Lg (L : Lv) (is : List Nat) (w : D → DSt → DH → (DSt → DH → Prop) → Prop) : TG := fun v σ H Q => ∃ d s h Q0, Ste L.H0 L.h0 H h ∧ RD L.K H v d ∧ RS L.K H σ s ∧ RH L.K L.C H h ∧ w d s h Q0 ∧
  ∀ s' h', Q0 s' h' → ∀ σ' H', Ste H h H' h' → Agr is σ σ' → RS L.K H' σ' s' → RH L.K L.C H' h' → Q σ' H'
def Lgs (L : Lv) (is : List Nat) (w : List D → DSt → DH → (DSt → DH → Prop) → Prop) : TGs := fun vs σ H Q => ∃ ds s h Q0, Ste L.H0 L.h0 H h ∧ RDs L.K H vs ds ∧ RS L.K H σ s ∧ RH L.K L.C H h ∧ w ds s h Q0 ∧
  ∀ s' h', Q0 s' h' → ∀ σ' H', Ste H h H' h' → Agr is σ σ' → RS L.K H' σ' s' → RH L.K L.C H' h' → Q σ' H'
section
variable {L : Lv} {X : Cx} {N : List Str} {sc : Scope}
theorem PG.imp {e : Expr} {t t' : TG} (h : PG X e t) (i : ∀ v σ H Q, t' v σ H Q → t v σ H Q) : PG X e t' := ⟨fun pins s σ H v u Q I r q => h.run pins s σ H v u Q I r (i v σ H Q q)⟩
theorem PGs.imp {e : List Expr} {t t' : TGs} (h : PGs X e t) (i : ∀ v σ H Q, t' v σ H Q → t v σ H Q) : PGs X e t' := ⟨fun pins s σ H v u Q I r q => h.run pins s σ H v u Q I r (i v σ H Q q)⟩
theorem assign1 {e : Expr} {es : List Expr} {env : Env} (h : notStar e = true) : assignEach (e :: es) env = (false, assign e env) :: assignEach es env := by
  cases e <;> first | rfl | exact absurd h Bool.false_ne_true
theorem chkTs_len {lc : Bool} : ∀ {ts : CTs} {es : List Expr} {env : Env}, chkTs N sc lc ts es = true → (assignEach es env).length = ts.len ∧ (assignEach es env).findIdx? (·.1) = none
  | .nil, [], _, _ => ⟨rfl, rfl⟩
  | .nil, _ :: _, _, h => by simp [chkTs] at h
  | .cons _ _, [], _, h => by simp [chkTs] at h
  | .cons t ts, e :: es, env, h => by
    simp only [chkTs, Bool.and_eq_true] at h
    obtain ⟨h1, h2⟩ := chkTs_len (env := env) h.2
    rw [assign1 h.1.1]
    refine ⟨by rw [List.length_cons, h1]; rfl, ?_⟩
    rw [List.findIdx?_cons, h2]
    rfl
theorem wTgs_len : ∀ {ts : CTs} {ds : List D} {s : DSt} {h : DH} {Q : DSt → DH → Prop}, wTgs ts ds s h Q → (∀ Q', wTgs ts ds s h Q' → True) ∧ (ts = .nil → ds = [])
  | .nil, ds, s, h, Q, q => by
    simp only [wTgs] at q
    exact ⟨fun _ _ => trivial, fun _ => q.1⟩
  | .cons t ts, ds, s, h, Q, q => ⟨fun _ _ => trivial, fun e => by cases e⟩
end
def CTs.fits : CTs → List D → Prop
  | .nil, ds => ds = []
  | .cons _ ts, ds => ∃ d r, ds = d :: r ∧ ts.fits r
theorem fits_len : ∀ {ts : CTs} {ds : List D}, ts.fits ds → ds.length = ts.len
  | .nil, ds, h => by
    have h : ds = [] := h
    subst h; rfl
  | .cons t ts, ds, h => by
    obtain ⟨d, r, rfl, h⟩ := h
    show r.length + 1 = ts.len + 1
    rw [fits_len h]
/-- a store of targets one after another, with its length said first -/
theorem wTgs_fits : ∀ (ts : CTs) (n : Nat) (ds : List D), ds.length = n → (ts.len = n) → ts.fits ds
  | .nil, n, ds, h, e => by
    have e : 0 = n := e
    exact List.length_eq_zero_iff.mp (by omega)
  | .cons t ts, n, [], h, e => by
    have e : ts.len + 1 = n := e
    simp at h
    omega
  | .cons t ts, n, d :: r, h, e => ⟨d, r, rfl, wTgs_fits ts (n - 1) r (by simp at h; omega) (by have e : ts.len + 1 = n := e; omega)⟩
section
variable {L : Lv} {X : Cx} {N : List Str} {sc : Scope} {lc : Bool}
mutual
theorem pg_ok (hN : X.N = N) (hsc : X.env.scope = sc) (nd : X.N.Nodup) (hK : X.K = L.K) (hc : X.calm = true) (hf : lc = true ∨ ∀ x, X.fn x = true) : ∀ (t : CT) (e : Expr), chkT N sc lc t e = true → PG X e (Lg L t.slots (wTg t))
  | .nam i, e, h => by
    cases e with
    | Name x pos =>
      simp only [chkT, Bool.and_eq_true] at h
      obtain ⟨⟨h1, h2⟩, h3⟩ := h
      have hi : X.N[i]? = some x := by rw [hN]; simpa using h1
      have hx : Loc X.env.scope x ∧ (X.fn x = true ∨ X.env.scope.names.lookup x = some .local) := by
        rw [hsc]
        cases lc with
        | true =>
          rw [if_pos rfl] at h2
          unfold lclB at h2
          split at h2
          · exact ⟨.inl (by assumption), .inr (by assumption)⟩
          · cases h2
        | false =>
          rw [if_neg Bool.false_ne_true] at h2
          have hf' : X.fn x = true := by
            rcases hf with z | z
            · cases z
            · exact z x
          unfold locB at h2
          split at h2
          · exact ⟨.inl (by assumption), .inl hf'⟩
          · exact ⟨.inr (by assumption), .inl hf'⟩
          · cases h2
      refine PG.imp (pg_name nd hi hx.1 hx.2) fun v σ H Q ⟨d, s, h, Q0, le, rd, rs, rh, hw, hq⟩ => ?_
      simp only [wTg] at hw
      refine hq _ _ hw _ H .refl ⟨List.length_set, fun j hj => ?_⟩ (rs.set i rd) rh
      have : i ≠ j := fun z => hj (by subst z; simp [CT.slots])
      rw [List.getElem?_set_ne this]
    | _ => simp [chkT] at h
  | .tup ts, e, h => by
    cases e with
    | Tuple es k pos =>
      simp only [chkT] at h
      obtain ⟨hl, hst⟩ := chkTs_len (env := X.env) h
      have hs := pgs_ok hN hsc nd hK hc hf ts es h
      have h1 : PG X (.Tuple es k pos) (gTup X.K ts.len (Lgs L ts.slots (wTgs ts))) := pg_tup hc hs hl hst
      have h2 : PG X (.Tuple es k pos) (gLst X.K ts.len (Lgs L ts.slots (wTgs ts))) := pg_lst hc hs hl hst
      have h3 : PG X (.Tuple es k pos) (fun v σ H Q => gTup X.K ts.len (Lgs L ts.slots (wTgs ts)) v σ H Q ∨ gLst X.K ts.len (Lgs L ts.slots (wTgs ts)) v σ H Q) :=
        ⟨fun pins s σ H v u Q I r q => q.elim (h1.run pins s σ H v u Q I r) (h2.run pins s σ H v u Q I r)⟩
      refine PG.imp h3 fun v σ H Q ⟨d, s, h, Q0, le, rd, rs, rh, hw, hq⟩ => ?_
      simp only [wTg] at hw
      split at hw
      · rename_i ds hd
        obtain ⟨hlen, hw⟩ := hw
        obtain ⟨p, vs, rfl, sq, r1⟩ := seqOf_rd rh rd hd
        have body : Lgs L ts.slots (wTgs ts) vs σ H Q := ⟨ds, s, h, Q0, le, r1, rs, rh, hw, hq⟩
        have hvl : vs.length = ts.len := by rw [r1.length]; exact hlen
        rw [hK]
        rcases sq with sq | sq
        · exact .inr ⟨p, vs, rfl, sq, hvl, body⟩
        · exact .inl ⟨p, vs, rfl, sq, hvl, body⟩
      · exact hw.elim
    | _ => simp [chkT] at h
theorem pgs_ok (hN : X.N = N) (hsc : X.env.scope = sc) (nd : X.N.Nodup) (hK : X.K = L.K) (hc : X.calm = true) (hf : lc = true ∨ ∀ x, X.fn x = true) : ∀ (ts : CTs) (es : List Expr), chkTs N sc lc ts es = true → PGs X es (Lgs L ts.slots (wTgs ts))
  | .nil, [], _ => PGs.imp pgs_nil fun vs σ H Q ⟨ds, s, h, Q0, le, rd, rs, rh, hw, hq⟩ => by
    simp only [wTgs] at hw
    obtain ⟨e, hw⟩ := hw
    subst e
    cases rd
    exact ⟨rfl, hq _ _ hw σ H .refl .refl rs rh⟩
  | .nil, _ :: _, h => by simp [chkTs] at h
  | .cons _ _, [], h => by simp [chkTs] at h
  | .cons t ts, e :: es, h => by
    simp only [chkTs, Bool.and_eq_true] at h
    have h1 := pg_ok hN hsc nd hK hc hf t e h.1.2
    have h2 := pgs_ok hN hsc nd hK hc hf ts es h.2
    refine PGs.imp (pgs_cons h1 h2 (by rw [assign1 h.1.1]; rfl)) fun vs σ H Q ⟨ds, s, h, Q0, le, rd, rs, rh, hw, hq⟩ => ?_
    simp only [wTgs] at hw
    split at hw
    · rename_i d r
      cases rd with
      | cons r1 r2 =>
        refine ⟨_, _, rfl, d, s, h, _, le, r1, rs, rh, hw, fun s' h' q σ' H' l ag rs' rh' => ?_⟩
        exact ⟨r, s', h', Q0, le.trans l, r2.le l.le, rs', rh', q, fun s2 h2 q2 σ2 H2 l2 ag2 rs2 rh2 => hq s2 h2 q2 σ2 H2 (l.trans l2) (ag.trans ag2) rs2 rh2⟩
    · exact hw.elim
end
end
end DL

/-! DL, part L: what is walked, comprehensions, all expressions -/
namespace DL
open PySem PySem.Spec PyProof.Rows L2
section
variable {Γ : Gx} {L : Lv} {k : Nat} {gl : List D} {F : Fns} {X : Cx} {a b c : CE} {es : CEs} {e l r m tg : Expr} {xs : List Expr} {pos apos : Pos}
/-- over the value of an expression: a list, a tuple, a text -/
theorem pi_any {te : TE} (he : PE X e te) : PI X tg e (fun σ H R => te σ H fun x H1 => (∃ a, x = .ref a ∧ (∃ xs, SqL X.K H1 a xs) ∧ R (Itl X.K a) H1) ∨ (∃ a, x = .ref a ∧ (∃ xs, SqT X.K H1 a xs) ∧ R (Itt X.K a) H1) ∨ ∃ z, x = .str z ∧ R (Its z) H1) := by
  refine ⟨fun pins s σ H R I h => ?_⟩
  refine thn (he.run pins s σ H _ I h) fun v s1 ⟨y, H1, I1, r1, q⟩ => ?_
  rcases q with ⟨a, ex, ⟨xs, hq⟩, q⟩ | ⟨a, ex, ⟨xs, hq⟩, q⟩ | ⟨x, ex, q⟩
  · subst ex
    cases r1
    obtain ⟨its, rv, p, hz⟩ := I1.list hq
    refine wpAny_pyIter_list p.isList ?_
    exact pi_one (tk := s1.toks) I1 _ (turn_list a _) ⟨_, Heap.get?_push_size _ rfl, rfl, rfl⟩ q
  · subst ex
    cases r1
    obtain ⟨its, rv, p, hz⟩ := I1.tuple hq
    refine wpAny_pyIter_tuple (show s1.heap.IsTuple a its.toArray from p) ?_
    exact pi_one (tk := s1.toks) I1 _ (turn_tuple a _) ⟨_, Heap.get?_push_size _ rfl, rfl, rfl⟩ q
  · subst ex
    obtain ⟨t, rfl⟩ := r1
    cases ha : x.cps.all (· < 128)
    · exact wpAny_pyIter_wide ha (pi_one (tk := s1.toks) I1 _ (turn_str _ x t "str_iterator" (.inr rfl)) ⟨_, Heap.get?_push_size _ rfl, rfl, rfl⟩ q)
    · exact wpAny_pyIter_ascii ha (pi_one (tk := s1.toks) I1 _ (turn_str _ x t "str_ascii_iterator" (.inl rfl)) ⟨_, Heap.get?_push_size _ rfl, rfl, rfl⟩ q)
theorem li_any (O : XO Γ L k gl F X) (ha : Snd L gl F X a e) : PI X tg e (Li L (wI gl F (.any a))) := by
  refine PI.imp (pi_any ha.pe) fun σ H R ⟨s, h, R0, le, rs, rh, q, hq⟩ => ?_
  simp only [wI] at q
  refine ⟨s, h, _, le, rs, rh, q, fun d h1 q1 v H1 l1 r1 rh1 => ?_⟩
  unfold iAny at q1
  rw [O.K]
  split at q1
  · cases r1
    exact .inr (.inr ⟨_, rfl, hq _ _ q1 _ H1 l1 rh1 itr_str⟩)
  · split at q1
    · rename_i J hJ
      obtain ⟨p, vs, rfl, sq, f⟩ := isSeqL_rd rh1 r1 hJ
      exact .inl ⟨p, rfl, ⟨vs, sq⟩, hq _ _ q1 _ H1 l1 rh1 (f H1 .refl).1⟩
    · split at q1
      · rename_i J hJ
        obtain ⟨p, vs, rfl, sq, f⟩ := isSeqT_rd r1 hJ
        exact .inr (.inl ⟨p, rfl, ⟨vs, sq⟩, hq _ _ q1 _ H1 l1 rh1 (f H1 .refl).1⟩)
      · exact q1.elim
theorem li_rng1 (O : XO Γ L k gl F X) (hv : glB Γ.sc "range" = true) (hm : Γ.bls.contains ("range" : Str) = true) (hs : notStar l = true) (ha : Snd L gl F X a l) : PI X tg (.Call (.Name "range" apos) [l] [] pos) (Li L (wI gl F (.rng1 a))) := by
  refine PI.imp (pi_range1 (O.glo hv) (O.blo hm) (pa_cons ha.pe pa_nil (star1 hs)) (star1 hs)) fun σ H R ⟨s, h, R0, le, rs, rh, q, hq⟩ => ?_
  simp only [wI] at q
  refine ⟨s, h, _, le, rs, rh, q, fun d h1 q1 v H1 l1 r1 rh1 => ?_⟩
  split at q1
  · cases r1
    obtain ⟨⟨_, _, b1, b2⟩, q1⟩ := q1
    refine ⟨_, rfl, b1, b2, ?_⟩
    rw [Int.sub_zero] at q1
    exact hq _ _ q1 _ H1 l1 rh1 itr_rng
  · exact q1.elim
theorem li_rng2 (O : XO Γ L k gl F X) (hv : glB Γ.sc "range" = true) (hm : Γ.bls.contains ("range" : Str) = true) (hs : notStar l = true) (hs2 : notStar r = true) (ha : Snd L gl F X a l) (hb : Snd L gl F X b r) : PI X tg (.Call (.Name "range" apos) [l, r] [] pos) (Li L (wI gl F (.rng2 a b))) := by
  refine PI.imp (pi_range2 (O.glo hv) (O.blo hm) (pa_cons ha.pe (pa_cons hb.pe pa_nil (star1 hs2)) (star1 hs)) (by rw [star1 hs, star1 hs2]; rfl) (star1 hs2)) fun σ H R ⟨s, h, R0, le, rs, rh, q, hq⟩ => ?_
  simp only [wI] at q
  refine ⟨s, h, _, le, rs, rh, q, fun d h1 q1 v H1 l1 r1 rh1 => ⟨s, h1, _, le.trans l1, rs.le l1.le, rh1, q1, fun d2 h2 q2 v2 H2 l2 r2 rh2 => ?_⟩⟩
  split at q2
  · cases r1; cases r2
    exact ⟨_, _, rfl, q2.1, hq _ _ q2.2 _ H2 (l1.trans l2) rh2 itr_rng⟩
  · exact q2.elim
theorem li_zip (O : XO Γ L k gl F X) {elts : List Expr} {kk : Nat} {tpos : Pos} (hv : glB Γ.sc "zip" = true) (hm : Γ.bls.contains ("zip" : Str) = true) (hs : notStar l = true) (hs2 : notStar r = true) (ha : Snd L gl F X a l) (hb : Snd L gl F X b r) : PI X (.Tuple elts kk tpos) (.Call (.Name "zip" apos) [l, r] [] pos) (Li L (wI gl F (.zip a b))) := by
  refine PI.imp (RZ.pi_zipA (O.glo hv) (O.blo hm) (pa_cons ha.pe (pa_cons hb.pe pa_nil (star1 hs2)) (star1 hs)) (star1 hs) (by rw [star1 hs2]; rfl)) fun σ H R ⟨s, h, R0, le, rs, rh, q, hq⟩ => ?_
  simp only [wI] at q
  refine ⟨s, h, _, le, rs, rh, q, fun d h1 q1 v H1 l1 r1 rh1 => ⟨s, h1, _, le.trans l1, rs.le l1.le, rh1, q1, fun d2 h2 q2 v2 H2 l2 r2 rh2 => ?_⟩⟩
  unfold iZp at q2
  rw [O.K]
  split at q2
  · rename_i J J' e1 e2
    obtain ⟨p, vs, rfl, s1, f1⟩ := isSeqL_rd rh2 (r1.le l2.le) e1
    obtain ⟨p', vs', rfl, s2, f2⟩ := isSeqL_rd rh2 r2 e2
    exact ⟨p, p', vs, vs', rfl, .inl ⟨s1, s2, hq _ _ q2 _ H2 (l1.trans l2) rh2 (itr_zipL (f1 H2 .refl).2 (f2 H2 .refl).2)⟩⟩
  · split at q2
    · rename_i J J' e1 e2
      obtain ⟨p, vs, rfl, s1, f1⟩ := isSeqT_rd (r1.le l2.le) e1
      obtain ⟨p', vs', rfl, s2, f2⟩ := isSeqT_rd r2 e2
      exact ⟨p, p', vs, vs', rfl, .inr ⟨s1, s2, hq _ _ q2 _ H2 (l1.trans l2) rh2 (itr_zipT (f1 H2 .refl).2 (f2 H2 .refl).2)⟩⟩
    · exact q2.elim
theorem li_enm (O : XO Γ L k gl F X) {elts : List Expr} {kk : Nat} {tpos : Pos} (hv : glB Γ.sc "enumerate" = true) (hm : Γ.bls.contains ("enumerate" : Str) = true) (hs : notStar l = true) (ha : Snd L gl F X a l) : PI X (.Tuple elts kk tpos) (.Call (.Name "enumerate" apos) [l] [] pos) (Li L (wI gl F (.enm a))) := by
  refine PI.imp (pi_enum (O.glo hv) (O.blo hm) (pa_cons ha.pe pa_nil (star1 hs)) (star1 hs)) fun σ H R ⟨s, h, R0, le, rs, rh, q, hq⟩ => ?_
  simp only [wI] at q
  refine ⟨s, h, _, le, rs, rh, q, fun d h1 q1 v H1 l1 r1 rh1 => ?_⟩
  unfold iEn at q1
  split at q1
  · rename_i J hJ
    obtain ⟨p, vs, rfl, sq, f⟩ := isSeqL_rd rh1 r1 hJ
    rw [O.K]
    exact ⟨p, vs, rfl, sq, hq _ _ q1 _ H1 l1 rh1 (itr_enm (f H1 .refl).2)⟩
  · exact q1.elim

/-! ### comprehensions -/
theorem XO.blk (O : XO Γ L k gl F X) {s : Shared} {H : Hp} {scope : Scope} {C : Addr} {cl : List (Str × Addr)} {fp : List Addr} : XO { Γ with sc := relS scope Γ.sc } L.nx k gl F (X.blk s H scope (compEnvC scope cl C X.env) fp) where
  N := O.N
  sc := by show relS scope X.env.scope = _; rw [O.sc]
  nd := O.nd
  K := O.K
  rm := ⟨O.rm.u, O.rm.g, O.rm.c, O.rm.sm⟩
  room := O.room
  tab := O.tab
  tk := fun u s' ⟨_, _, _, _, _, _, _, _, _, _, _, _, _, _, _, _, w⟩ => by
    obtain ⟨_, _, _, _, _, _, _, q⟩ := w
    exact q.elim
def Ltt (L : Lv) (w : DSt → DH → (Bool → DH → Prop) → Prop) : TT := fun σ H Q => ∃ s h Q0, Ste L.H0 L.h0 H h ∧ RS L.K H σ s ∧ RH L.K L.C H h ∧ w s h Q0 ∧ ∀ b h', Q0 b h' → ∀ H', Ste H h H' h' → RH L.K L.C H' h' → Q b H'
theorem ltt_none : PTs X [] (Ltt L (wT gl F .none)) := ⟨fun pins s0 σ H Q I ⟨s, h, Q0, le, rs, rh, q, hq⟩ => pts_nil.run pins s0 σ H Q I (by simp only [wT] at q; exact hq _ _ q H .refl rh)⟩
theorem ltt_some (hc : PT X e (Lt L.nx (wE gl F a))) : PTs X [e] (Ltt L (wT gl F (.some a))) := ⟨fun pins s0 σ H Q I ⟨s, h, Q0, le, rs, rh, q, hq⟩ => (pts_one hc).run pins s0 σ H Q I (by
  simp only [wT] at q
  exact ⟨s, h, Q0, le, rs, rh, q, hq⟩)⟩
theorem comp_conv {own : List (Str × Nat)} {t : CT} {test : CO} {el : CE} {it : CI} (hsub : ∀ j ∈ t.slots, j ∈ own.map (·.2)) : ∀ σ H Q, Lx L (wE gl F (.comp own t it test el)) σ H Q →
    tLc (Li L (wI gl F it)) (Lg L t.slots (wTg t)) (Ltt L (wT gl F test)) (Lx L.nx (wE gl F el)) (own.map (·.2)) σ H Q := by
  intro σ H Q ⟨s, h, Q0, le, rs, rh, q, hq⟩
  simp only [wE] at q
  refine ⟨s, h, _, le, rs, rh, q, fun J h1 q1 Jh H1 l1 rh1 itr D nD => ?_⟩
  obtain ⟨W, ⟨m0, w0⟩, turn⟩ := q1
  -- the layer below: the new list stands at D, unknown above
  refine ⟨fun i m H2 => ∃ h2 acc vs, Ste H1 h1 H2 h2 ∧ RH L.K L.C H2 h2 ∧ h2 D = none ∧ H2 D = some (.lst vs) ∧ RDs L.K H2 vs acc ∧ W i m h2 acc, ⟨m0, h1, [], [], Ste.side nD, rh1.side nD, rh1.free nD, upd_same, .nil, w0⟩, fun i m H2 ⟨h2, acc, vs, l2, rh2, dn, hD, rv, w⟩ => ?_⟩
  have tn := turn i m h2 acc w
  have ir := itr i H2 h2 l2.le rh2
  split at tn
  · exact tn.elim
  · rename_i e
    rw [e] at ir
    refine .inl ⟨ir, ?_⟩
    -- D becomes known
    have st : Ste H2 h2 H2 (up h2 D (.lst acc)) → True := fun _ => trivial
    have q2 := hq _ _ (tn D dn)
    refine q2 (.ref D) H2 ⟨(l1.le.trans l2.le), fun x o n e2 => (l1.trans l2).fr x o n e2, fun x o n e2 => ?_⟩ (.ref D) fun x o e2 => ?_
    · have hx : x ≠ D := fun z => by
        subst z
        have z1 := l1.fr x o n e2
        rw [nD] at z1; cases z1
      rw [up_ne hx]
      exact (l1.trans l2).dm x o n e2
    · by_cases hx : x = D
      · subst hx; rw [up_same] at e2; cases e2
        exact ⟨vs, hD, rv⟩
      · rw [up_ne hx] at e2
        exact rh2 x o e2
  · rename_i d e
    rw [e] at ir
    obtain ⟨N, hN, tn⟩ := tn
    refine .inr ⟨ir.1, fun H' => ∃ h' acc' vs', Ste H1 h1 H' h' ∧ RH L.K L.C H' h' ∧ h' D = none ∧ H' D = some (.lst vs') ∧ RDs L.K H' vs' acc' ∧ N h' acc', fun H' ⟨h', acc', vs', a1, a2, a3, a4, a5, a6⟩ => ?_, fun x H' y => ?_⟩
    · obtain ⟨m', hm, w'⟩ := hN h' acc' a6
      exact ⟨m', hm, h', acc', vs', a1, a2, a3, a4, a5, w'⟩
    · obtain ⟨l3, rd, rh3⟩ := ir.2 x H' y
      have leH : Ste L.H0 L.h0 H' h2 := ((le.trans l1).trans l2).trans l3
      have rsW : RS L.K H' (wipe σ (own.map (·.2))) (wipeD s (own.map (·.2))) := (((rs.le l1.le).le l2.le).le l3.le).wipe _
      refine ⟨d, _, h2, _, leH, rd, rsW, rh3, tn, fun s2 h3 q3 σ2 H3 l4 ag rs3 rh4 => ⟨ag.wipe hsub, ?_⟩⟩
      refine ⟨s2, h3, _, leH.trans l4, rs3, rh4, q3, fun b h4 q4 H4 l5 rh5 => ?_⟩
      have lD : Ste H2 h2 H4 h4 := (l3.trans l4).trans l5
      have dn4 : h4 D = none := lD.dm D _ dn hD
      have hD4 : H4 D = some (.lst vs) := lD.fr D _ dn hD
      cases b with
      | false =>
        exact ⟨h4, acc, vs, (l2.trans lD), rh5, dn4, hD4, rv.le lD.le, q4⟩
      | true =>
        refine ⟨s2, h4, _, (leH.trans l4).trans l5, rs3.le l5.le, rh5, q4, fun y h5 q5 v H5 l6 r5 rh6 => ?_⟩
        obtain ⟨hl, q5⟩ := q5
        have dn5 : h5 D = none := l6.dm D _ dn4 hD4
        have hD5 : H5 D = some (.lst vs) := l6.fr D _ dn4 hD4
        have rv5 := (rv.le lD.le).le l6.le
        have hz := sizeLine_eq
        have mu : Mut (H5 D) := by rw [hD5]; exact trivial
        refine ⟨vs, hD5, by rw [rv5.length]; omega, h5, acc ++ [y], vs ++ [v], ?_, ?_, dn5, upd_same, (rv5.append (.cons r5 .nil)).le (Le.mut mu), q5⟩
        · have lT : Ste H1 h1 H5 h5 := (l2.trans lD).trans l6
          refine ⟨lT.le.trans (Le.mut mu), fun x o n e2 => ?_, lT.dm⟩
          have hx : x ≠ D := fun z => by subst z; rw [nD] at e2; cases e2
          rw [upd_ne hx]
          exact lT.fr x o n e2
        · intro x o e2
          have hx : x ≠ D := fun z => by subst z; rw [dn5] at e2; cases e2
          exact (rh6 x o e2).le (Le.mut mu) (upd_ne hx)
theorem sub_of {t : CT} {own : List (Str × Nat)} (h : t.slots.all (fun i => (own.map (·.2)).contains i) = true) : ∀ j ∈ t.slots, j ∈ own.map (·.2) := fun j hj => by
  have := List.all_eq_true.mp h j hj
  simpa using this
theorem snd_comp (O : XO Γ L k gl F X) {own : List (Str × Nat)} {t : CT} {test : CO} {el : CE} {it : CI} {elt iter : Expr} {ifs : List Expr} {scope : Scope} (hb : blkC Γ.N Γ.sc scope own = true) (hsub : t.slots.all (fun i => (own.map (·.2)).contains i) = true)
    (ht : chkT Γ.N (relS scope Γ.sc) true t tg = true) (hi : PI X tg iter (Li L (wI gl F it))) (hns : notSet iter = true)
    (htt : ∀ (s : Shared) (H : Hp) (C : Addr) (cl : List (Str × Addr)) (fp : List Addr), PTs (X.blk s H scope (compEnvC scope cl C X.env) fp) ifs (Ltt L (wT gl F test)))
    (he : ∀ (s : Shared) (H : Hp) (C : Addr) (cl : List (Str × Addr)) (fp : List Addr), PE (X.blk s H scope (compEnvC scope cl C X.env) fp) elt (Lx L.nx (wE gl F el))) :
    Snd L gl F X (.comp own t it test el) (.ListComp elt [⟨tg, iter, ifs, 0⟩] scope pos) := by
  refine .of (PE.imp (pe_lc O.rm.c O.nd hi (blkOk_by (by rw [O.N, O.sc]; exact hb)) (fun s H C cl fp => ?_) htt he (nofold hns)) (comp_conv (sub_of hsub))) (fun _ => rfl) (fun _ _ _ q => nomatch q)
  have O' := O.blk (s := s) (H := H) (scope := scope) (C := C) (cl := cl) (fp := fp)
  exact pg_ok (N := Γ.N) (sc := relS scope Γ.sc) (lc := true) (L := L) O'.N O'.sc O'.nd O'.K O'.rm.c (.inl rfl) t tg ht
end
end DL

/-! DL, part M: all expressions -/
namespace DL
open PySem PySem.Spec PyProof.Rows L2
section
variable {k : Nat} {gl : List D} {F : Fns}
mutual
theorem snd : ∀ (c : CE) {Γ : Gx} {L : Lv} {X : Cx} (_ : XO Γ L k gl F X) (e : Expr), chk Γ c e = true → Snd L gl F X c e
  | .non, Γ, L, X, O, e, h => by
    simp only [chk] at h
    split at h
    · exact snd_non
    · cases h
  | .bl b, Γ, L, X, O, e, h => by
    simp only [chk] at h
    split at h
    · have e := beq_iff_eq.mp h; subst e; exact snd_bl
    · cases h
  | .int i, Γ, L, X, O, e, h => by
    simp only [chk] at h
    split at h
    · have e := beq_iff_eq.mp h; subst e; exact snd_int
    · cases h
  | .str x, Γ, L, X, O, e, h => by
    simp only [chk] at h
    split at h
    · have e := beq_iff_eq.mp h; subst e; exact snd_str
    · cases h
  | .var i, Γ, L, X, O, e, h => by
    simp only [chk] at h
    split at h
    · simp only [Bool.and_eq_true] at h
      exact snd_var O (by simpa using h.1.1) h.1.2 h.2
    · cases h
  | .glb i, Γ, L, X, O, e, h => by
    simp only [chk] at h
    split at h
    · simp only [Bool.and_eq_true] at h
      exact snd_glb O (by simpa using h.1.1) h.1.2 h.2
    · cases h
  | .bin op a b, Γ, L, X, O, e, h => by
    simp only [chk] at h
    split at h
    · simp only [Bool.and_eq_true] at h
      have e := beq_iff_eq.mp h.1.1
      subst e
      exact snd_bin O (snd a O _ h.1.2) (snd b O _ h.2)
    · cases h
  | .neg a, Γ, L, X, O, e, h => by
    simp only [chk] at h
    split at h
    · exact snd_neg O (snd a O _ h)
    · cases h
  | .no a, Γ, L, X, O, e, h => by
    simp only [chk] at h
    split at h
    · exact snd_no (snd a O _ h)
    · cases h
  | .and a b, Γ, L, X, O, e, h => by
    simp only [chk] at h
    split at h
    · rename_i x y r pos
      rw [Bool.and_eq_true] at h
      obtain ⟨h1, h2⟩ := h
      split at h2
      · exact snd_and1 (snd a O _ h1) (snd b O _ h2)
      · exact snd_and2 (snd a O _ h1) (snd b O _ h2)
    · cases h
  | .or a b, Γ, L, X, O, e, h => by
    simp only [chk] at h
    split at h
    · rename_i x y r pos
      rw [Bool.and_eq_true] at h
      obtain ⟨h1, h2⟩ := h
      split at h2
      · exact snd_or1 (snd a O _ h1) (snd b O _ h2)
      · exact snd_or2 (snd a O _ h1) (snd b O _ h2)
    · cases h
  | .cmp op a b, Γ, L, X, O, e, h => by
    simp only [chk] at h
    split at h
    · simp only [Bool.and_eq_true] at h
      have e := beq_iff_eq.mp h.1.1.1
      subst e
      exact snd_cmp O (snd a O _ h.1.1.2) (snd b O _ h.1.2) h.2
    · cases h
  | .chn op op' a b c, Γ, L, X, O, e, h => by
    simp only [chk] at h
    split at h
    · simp only [Bool.and_eq_true] at h
      obtain ⟨⟨⟨⟨⟨h1, h2⟩, h3⟩, h4⟩, h5⟩, h6⟩ := h
      have e := beq_iff_eq.mp h1
      have e2 := beq_iff_eq.mp h2
      subst e e2
      exact snd_chn O (snd a O _ h3) (snd b O _ h4) (snd c O _ h5) h6
    · cases h
  | .ife t a b, Γ, L, X, O, e, h => by
    simp only [chk] at h
    split at h
    · simp only [Bool.and_eq_true] at h
      exact snd_ife2 (snd t O _ h.1.1) (snd a O _ h.1.2) (snd b O _ h.2)
    · cases h
  | .tup es, Γ, L, X, O, e, h => by
    simp only [chk] at h
    split at h
    · exact snd_tup (snds es O _ h)
    · cases h
  | .lst es, Γ, L, X, O, e, h => by
    simp only [chk] at h
    split at h
    · exact snd_lst (snds es O _ h)
    · cases h
  | .dnew, Γ, L, X, O, e, h => by
    simp only [chk] at h
    split at h
    · exact snd_dnew
    · cases h
  | .idx a i, Γ, L, X, O, e, h => by
    simp only [chk] at h
    split at h
    · simp only [Bool.and_eq_true] at h
      exact snd_idx O (snd a O _ h.1.1) (snd i O _ h.1.2) h.2
    · cases h
  | .slc a lo hi, Γ, L, X, O, e, h => by
    simp only [chk] at h
    split at h
    · simp only [Bool.and_eq_true] at h
      exact snd_slc O (snd a O _ h.1.1) (sndO lo O _ h.1.2) (sndO hi O _ h.2)
    · cases h
  | .call f es, Γ, L, X, O, e, h => by
    simp only [chk] at h
    split at h
    · rename_i x p xs pos
      simp only [Bool.and_eq_true] at h
      obtain ⟨⟨⟨h1, h2⟩, h3⟩, h4⟩ := h
      cases xs with
      | nil =>
        cases es with
        | nil => exact snd_call0 O (by simpa using h1) h2 h3
        | cons c cs => simp [chks] at h4
      | cons y ys => exact snd_call O (by simpa using h1) h2 h3 (chks_star h4) (snds es O _ h4)
    · cases h
  | .blt f es, Γ, L, X, O, e, h => by
    simp only [chk] at h
    split at h
    · simp only [Bool.and_eq_true] at h
      obtain ⟨⟨⟨h1, h2⟩, h3⟩, h4⟩ := h
      have e := beq_iff_eq.mp h1
      subst e
      exact snd_blt O h2 h3 (chks_star h4) (snds es O _ h4)
    · cases h
  | .mtd m o es, Γ, L, X, O, e, h => by
    simp only [chk] at h
    split at h
    · rename_i x n ap xs cp
      simp only [Bool.and_eq_true] at h
      obtain ⟨⟨⟨⟨⟨h1, h2⟩, h3⟩, h4⟩, h5⟩, h6⟩ := h
      have e := beq_iff_eq.mp h1
      subst e
      cases xs with
      | nil =>
        cases es with
        | nil => exact snd_mtd0 O (snd o O _ h2) h4 h5
        | cons c cs => simp [chks] at h3
      | cons y ys => exact snd_mtd O (snd o O _ h2) (chks_star h3) (snds es O _ h3) h4 h5 (by simpa using h6)
    · cases h
  | .isi a T, Γ, L, X, O, e, h => by
    simp only [chk] at h
    split at h
    · rename_i f p1 x t p2 pos
      simp only [Bool.and_eq_true] at h
      obtain ⟨⟨⟨⟨⟨⟨⟨h1, h2⟩, h3⟩, h4⟩, h5⟩, h6⟩, h7⟩, h8⟩ := h
      have e := beq_iff_eq.mp h1
      have e2 := beq_iff_eq.mp h4
      subst e e2
      have hT : T ∈ isiTs := by simpa [isiTs] using h7
      have hx := snd a O _ h8
      by_cases hs : notStar x = true
      · exact snd_isi O hT h2 h3 h5 h6 hs hx
      · cases x with
        | Starred y p => cases a <;> simp [chk] at h8
        | _ => exact absurd rfl hs
    · cases h
  | .comp own t it test el, Γ, L, X, O, e, h => by
    simp only [chk] at h
    split at h
    · rename_i elt tg iter ifs scope pos
      simp only [Bool.and_eq_true] at h
      obtain ⟨⟨⟨⟨⟨⟨h1, h2⟩, h3⟩, h4⟩, h5⟩, h6⟩, h7⟩ := h
      refine snd_comp O h1 h2 h3 (sndI it O _ _ h4) h5 (fun s H C cl fp => ?_) fun s H C cl fp => (snd el (O.blk (s := s) (H := H) (scope := scope) (C := C) (cl := cl) (fp := fp)) _ h7).pe
      cases test with
      | none =>
        split at h6
        · exact ltt_none
        · simp [chkO] at h6
        · cases h6
      | some c =>
        split at h6
        · simp [chkO] at h6
        · simp only [chkO] at h6
          exact ltt_some (snd c (O.blk (s := s) (H := H) (scope := scope) (C := C) (cl := cl) (fp := fp)) _ h6).pt
        · cases h6
    · cases h
  | .rev a, Γ, L, X, O, e, h => by
    simp only [chk] at h
    split at h
    · simp only [Bool.and_eq_true] at h
      have e := beq_iff_eq.mp h.1
      subst e
      exact snd_rev O (snd a O _ h.2)
    · cases h
  | .mnd a d, Γ, L, X, O, e, h => by
    simp only [chk] at h
    split at h
    · simp only [Bool.and_eq_true] at h
      obtain ⟨⟨⟨⟨⟨⟨h1, h2⟩, h3⟩, h4⟩, h5⟩, h6⟩, h7⟩ := h
      exact snd_mnd O (beq_iff_eq.mp h1) (beq_iff_eq.mp h4) h2 h3 h5 (snd a O _ h6) (snd d O _ h7)
    · cases h
  | .lrg a b, Γ, L, X, O, e, h => by
    simp only [chk] at h
    split at h
    · simp only [Bool.and_eq_true] at h
      obtain ⟨⟨⟨⟨⟨⟨⟨⟨⟨h1, h2⟩, h3⟩, h4⟩, h5⟩, h6⟩, h7⟩, h8⟩, h9⟩, h10⟩ := h
      exact snd_lrg O (beq_iff_eq.mp h1) (beq_iff_eq.mp h4) h2 h3 h5 h6 h7 h8 (snd a O _ h9) (snd b O _ h10)
    · cases h
  | .dis ks es, Γ, L, X, O, e, h => by
    simp only [chk] at h
    split at h
    · simp only [Bool.and_eq_true, beq_iff_eq, decide_eq_true_eq, Bool.not_eq_true'] at h
      obtain ⟨⟨⟨⟨h1, h2⟩, h3⟩, h4⟩, h5⟩ := h
      exact snd_dis O (sndE es O) h1 h2 h3 h4 h5
    · cases h
theorem sndE : ∀ (cs : CEs) {Γ : Gx} {L : Lv} {X : Cx} (_ : XO Γ L k gl F X), SndsP Γ L gl F X cs
  | .nil, Γ, L, X, O => trivial
  | .cons c cs, Γ, L, X, O => ⟨fun e h => snd c O e h, sndE cs O⟩
theorem snds : ∀ (cs : CEs) {Γ : Gx} {L : Lv} {X : Cx} (_ : XO Γ L k gl F X) (es : List Expr), chks Γ cs es = true → PA X es (La L (wEs gl F cs))
  | .nil, Γ, L, X, O, es, h => by
    simp only [chks] at h
    split at h
    · exact la_nil
    · cases h
  | .cons c cs, Γ, L, X, O, es, h => by
    simp only [chks] at h
    split at h
    · simp only [Bool.and_eq_true] at h
      exact la_cons h.1.1 (snd c O _ h.1.2).pe (snds cs O _ h.2)
    · cases h
theorem sndO : ∀ (o : CO) {Γ : Gx} {L : Lv} {X : Cx} (_ : XO Γ L k gl F X) (e : Option Expr), chkO Γ o e = true → PO X e (Lo L (wO gl F o))
  | .none, Γ, L, X, O, e, h => by
    simp only [chkO] at h
    split at h
    · exact lo_none
    · cases h
  | .some c, Γ, L, X, O, e, h => by
    simp only [chkO] at h
    split at h
    · exact lo_some (snd c O _ h).pe
    · cases h
theorem sndI : ∀ (it : CI) {Γ : Gx} {L : Lv} {X : Cx} (_ : XO Γ L k gl F X) (tg e : Expr), chkI Γ it tg e = true → PI X tg e (Li L (wI gl F it))
  | .any c, Γ, L, X, O, tg, e, h => by
    simp only [chkI] at h
    exact li_any O (snd c O _ h)
  | .rng1 c, Γ, L, X, O, tg, e, h => by
    simp only [chkI] at h
    split at h
    · simp only [Bool.and_eq_true] at h
      obtain ⟨⟨⟨⟨h1, h2⟩, h3⟩, h4⟩, h5⟩ := h
      have e := beq_iff_eq.mp h1
      subst e
      exact li_rng1 O h2 h3 h4 (snd c O _ h5)
    · cases h
  | .rng2 c d, Γ, L, X, O, tg, e, h => by
    simp only [chkI] at h
    split at h
    · simp only [Bool.and_eq_true] at h
      obtain ⟨⟨⟨⟨⟨⟨h1, h2⟩, h3⟩, h4⟩, h5⟩, h6⟩, h7⟩ := h
      have e := beq_iff_eq.mp h1
      subst e
      exact li_rng2 O h2 h3 h4 h5 (snd c O _ h6) (snd d O _ h7)
    · cases h
  | .zip c d, Γ, L, X, O, tg, e, h => by
    simp only [chkI] at h
    split at h
    · simp only [Bool.and_eq_true] at h
      obtain ⟨⟨⟨⟨⟨⟨⟨h0, h1⟩, h2⟩, h3⟩, h4⟩, h5⟩, h6⟩, h7⟩ := h
      have e := beq_iff_eq.mp h1
      subst e
      cases tg with
      | Tuple elts kk tpos => exact li_zip O h2 h3 h4 h5 (snd c O _ h6) (snd d O _ h7)
      | _ => exact absurd h0 Bool.false_ne_true
    · cases h
  | .enm c, Γ, L, X, O, tg, e, h => by
    simp only [chkI] at h
    split at h
    · simp only [Bool.and_eq_true] at h
      obtain ⟨⟨⟨⟨⟨h0, h1⟩, h2⟩, h3⟩, h4⟩, h5⟩ := h
      have e := beq_iff_eq.mp h1
      subst e
      cases tg with
      | Tuple elts kk tpos => exact li_enm O h2 h3 h4 (snd c O _ h5)
      | _ => exact absurd h0 Bool.false_ne_true
    · cases h
end
end
end DL

/-! DL, part N: statements -/
namespace DL
open PySem PySem.Spec PyProof.Rows L2

/-! ### the check -/
def lineOf : Expr → Nat
  | .ListComp _ _ _ p => p.line
  | _ => 0
/-- a comprehension's value that is stored by the block itself -/
def swapB (sc : Scope) (x : Str) (p : Pos) : Expr → Bool
  | .ListComp _ _ scope vp => lclB sc x && (p.line == vp.line) && !(scope.names.any fun (n, k) => n == x && (k == .local || k == .cell))
  | _ => false
def isLC : Expr → Bool
  | .ListComp _ _ _ _ => true
  | _ => false
def notLcl (sc : Scope) : Expr → Bool
  | .Name x _ => !lclB sc x
  | _ => true
def noSwap (sc : Scope) (ts : List Expr) : Expr → Bool
  | .Tuple vs _ _ => !(ts.length == 2 || ts.length == 3) || vs.all (foldedForSure 8) || ts.any (notLcl sc)
  | _ => true
def nmB (N : List Str) (sc : Scope) (i : Nat) (x : Str) : Bool := N[i]? == some x && lclB sc x
mutual
def chkS (Γ : Gx) : CS → Stmt → Bool
  | .set i c => fun st => match st with
    | .Assign [.Name x p] v _ => Γ.N[i]? == some x && locB Γ.sc x && chk Γ c v && (notComp v || isLC v)
    | _ => false
  | .unp ts c => fun st => match st with
    | .Assign [.Tuple es _ _] v _ => chkTs Γ.N Γ.sc false ts es && chk Γ c v && noSwap Γ.sc es v
    | _ => false
  | .par2 i j a b => fun st => match st with
    | .Assign [.Tuple [.Name x px, .Name y py] _ _] (.Tuple [u, v] _ _) _ => nmB Γ.N Γ.sc i x && nmB Γ.N Γ.sc j y && i != j && py.line == px.line && notStar u && notStar v && !([u, v].all (foldedForSure 8)) && !([u, v].all (constantsAlone 8)) && chk Γ a u && chk Γ b v
    | _ => false
  | .par3 i j l a b c => fun st => match st with
    | .Assign [.Tuple [.Name x px, .Name y py, .Name z pz] _ _] (.Tuple [u, v, w] _ _) _ => (nmB Γ.N Γ.sc i x && nmB Γ.N Γ.sc j y && nmB Γ.N Γ.sc l z) && (i != j && i != l && j != l) && (py.line == px.line && pz.line == px.line) && (notStar u && notStar v && notStar w) && !([u, v, w].all (foldedForSure 8)) && !([u, v, w].all (constantsAlone 8)) && (chk Γ a u && chk Γ b v && chk Γ c w)
    | _ => false
  | .put o k e => fun st => match st with
    | .Assign [.Subscript x y _] v _ => chk Γ e v && chk Γ o x && chk Γ k y && notSlice y && notComp v
    | _ => false
  | .aug i op e => fun st => match st with
    | .AugAssign (.Name x _) o v _ => Γ.N[i]? == some x && locB Γ.sc x && o == op && (op == .Add || op == .Sub) && chk Γ e v
    | _ => false
  | .exp e => fun st => match st with
    | .Expr v _ => chk Γ e v && notComp v
    | _ => false
  | .ret e => fun st => match st with
    | .Return (some v) _ => chk Γ e v
    | _ => false
  | .retN => fun st => match st with
    | .Return none _ => true
    | _ => false
  | .ife c a b => fun st => match st with
    | .If t x y _ => chk Γ c t && chkSs Γ a x && chkSs Γ b y
    | _ => false
  | .for t it b => fun st => match st with
    | .For tg iter body [] _ => chkT Γ.N Γ.sc false t tg && chkI Γ it tg iter && notSet iter && chkSs Γ b body
    | _ => false
  | .whl c b => fun st => match st with
    | .While t body [] _ => chk Γ c t && chkSs Γ b body
    | _ => false
  | .pas => fun st => match st with
    | .Pass _ => true
    | _ => false
  | .nev => fun _ => true
def chkSs (Γ : Gx) : CSs → List Stmt → Bool
  | .nil => fun ss => match ss with
    | [] => true
    | _ => false
  | .cons c cs => fun ss => match ss with
    | s :: r => chkS Γ c s && chkSs Γ cs r
    | _ => false
end

/-! ### readings -/
def Ls (L : Lv) (w : QD → SXD → DSt → DH → (DSt → DH → Prop) → Prop) : TS := fun E σ H => ∃ s h nx rt, Ste L.H0 L.h0 H h ∧ RS L.K H σ s ∧ RH L.K L.C H h ∧ w rt L.EX s h nx ∧
  (∀ s' h', nx s' h' → ∀ σ' H', Ste H h H' h' → RS L.K H' σ' s' → RH L.K L.C H' h' → E.nx σ' H') ∧ ∀ d h', rt d h' → LQ L.K L.C H h E.rt d h'
structure SO (Γ : Gx) (L : Lv) (k : Nat) (gl : List D) (F : Fns) (X : Cx) : Prop extends XO Γ L k gl F X where
  hs : X.stack = X.env :: X.outer
  hf : X.env.frame = some X.env.locals
  po : PassesOwn (model X.prog X.w) X.A X.env X.xe
  fnA : ∀ x, X.fn x = true
  kd : Γ.sc.kind = .function

section
variable {Γ : Gx} {L : Lv} {k : Nat} {gl : List D} {F : Fns} {X : Cx} {a b c : CE} {e l r : Expr} {st : Stmt} {pos : Pos}
theorem PS.imp {t t' : TS} (h : PS X st t) (i : ∀ E σ H, t' E σ H → t E σ H) : PS X st t' := ⟨fun pins s σ H E I q => h.run pins s σ H E I (i E σ H q)⟩
theorem PSs.imp {st : List Stmt} {t t' : TS} (h : PSs X st t) (i : ∀ E σ H, t' E σ H → t E σ H) : PSs X st t' := ⟨fun pins s σ H E I q => h.run pins s σ H E I (i E σ H q)⟩
theorem noswap {v : Expr} {t : Option Expr} {n : Nat} {env : Env} (h : notComp v = true) : swapsWith v t n env = pure false := by
  cases v <;> first | rfl | exact absurd h Bool.false_ne_true
theorem noswap1 {v t : Expr} {n : Nat} {env : Env} (h : notComp v = true) : swapsWithSole [t] v n env = pure false := noswap h
theorem noswapT {v : Expr} {es : List Expr} {kt : Nat} {pt : Pos} {n : Nat} {env : Env} : swapsWithSole [.Tuple es kt pt] v n env = pure false := by
  cases v <;> rfl
theorem XO.loc (O : XO Γ L k gl F X) {i : Nat} {x : Str} (h1 : (Γ.N[i]? == some x) = true) (h2 : locB Γ.sc x = true) : X.N[i]? = some x ∧ Loc X.env.scope x := by
  refine ⟨by rw [O.N]; simpa using h1, ?_⟩
  rw [O.sc]
  unfold locB at h2
  split at h2
  · exact .inl (by assumption)
  · exact .inr (by assumption)
  · cases h2
theorem lclB_ok {sc : Scope} {x : Str} (h : lclB sc x = true) : sc.names.lookup x = some .local := by
  unfold lclB at h
  split at h
  · assumption
  · cases h
theorem set_conv {i : Nat} : ∀ E σ H, Ls L (fun rt ex => wS gl F rt ex (.set i c)) E σ H → tAsg (Lx L (wE gl F c)) (gName i) E σ H := by
  intro E σ H ⟨s, h, nx, rt, le, rs, rh, q, hn, hr⟩
  simp only [wS] at q
  exact ⟨s, h, _, le, rs, rh, q, fun d h1 q1 v H1 l1 r1 rh1 => hn _ _ q1 _ H1 l1 ((rs.le l1.le).set i r1) rh1⟩
theorem snd_set (O : SO Γ L k gl F X) {i : Nat} {x : Str} {p : Pos} {v : Expr} (h1 : (Γ.N[i]? == some x) = true) (h2 : locB Γ.sc x = true) (hv : chk Γ c v = true) (hc : (notComp v || isLC v) = true) : PS X (.Assign [.Name x p] v pos) (Ls L (fun rt ex => wS gl F rt ex (.set i c))) := by
  obtain ⟨hi, hx⟩ := O.loc h1 h2
  have S := snd c O.toXO v hv
  rw [Bool.or_eq_true] at hc
  rcases hc with hc | hc
  · exact PS.imp (ps_set O.nd hi hx S.pe (noswap hc) (.inl (O.fnA x))) set_conv
  · cases v with
    | ListComp elt gs scope vp =>
      by_cases hb : swapB Γ.sc x p (.ListComp elt gs scope vp) = true
      · -- the block stores it
        cases c with
        | comp own t it test el =>
          simp only [chk] at hv
          split at hv
          · rename_i elt tg iter ifs scope pos e
            cases e
            simp only [Bool.and_eq_true] at hv
            obtain ⟨⟨⟨⟨⟨⟨g1, g2⟩, g3⟩, g4⟩, g5⟩, g6⟩, g7⟩ := hv
            simp only [swapB, Bool.and_eq_true, Bool.not_eq_true'] at hb
            obtain ⟨⟨b1, b2⟩, b3⟩ := hb
            have hl : X.env.scope.names.lookup x = some .local := by rw [O.sc]; exact lclB_ok b1
            have hsw := sw_true (elt := elt) (gs := [⟨tg, iter, ifs, 0⟩]) (scope := scope) (pos := vp) (py := p) (y := x) (l := pos.line) (env := X.env) (by rw [O.sc]; exact O.kd) hl b2 b3
            have htt : ∀ (s : Shared) (H : Hp) (C : Addr) (cl : List (Str × Addr)) (fp : List Addr), PTs (X.blk s H scope (compEnvC scope cl C X.env) fp) ifs (Ltt L (wT gl F test)) := fun s H C cl fp => by
              cases test with
              | none =>
                split at g6
                · exact ltt_none
                · simp [chkO] at g6
                · cases g6
              | some c =>
                split at g6
                · simp [chkO] at g6
                · simp only [chkO] at g6
                  exact ltt_some (snd c (O.toXO.blk (s := s) (H := H) (scope := scope) (C := C) (cl := cl) (fp := fp)) _ g6).pt
                · cases g6
            refine PS.imp (ps_setLc (g := Lg L t.slots (wTg t)) O.rm.c O.nd hi hl hsw (sndI it O.toXO _ _ g4) (blkOk_by (by rw [O.N, O.sc]; exact g1)) (fun s H C cl fp => ?_) htt (fun s H C cl fp => (snd el (O.toXO.blk (s := s) (H := H) (scope := scope) (C := C) (cl := cl) (fp := fp)) _ g7).pe) (nofold g5)) fun E σ H q => ?_
            · have O' := O.toXO.blk (s := s) (H := H) (scope := scope) (C := C) (cl := cl) (fp := fp)
              exact pg_ok (N := Γ.N) (sc := relS scope Γ.sc) (lc := true) (L := L) O'.N O'.sc O'.nd O'.K O'.rm.c (.inl rfl) t tg g3
            · have z := set_conv E σ H q
              exact comp_conv (sub_of g2) σ H _ z
          · cases hv
        | _ => simp [chk] at hv
      · -- it does not
        refine PS.imp (ps_set O.nd hi hx S.pe ?_ (.inl (O.fnA x))) set_conv
        have hk : X.env.scope.kind = .function := by rw [O.sc]; exact O.kd
        unfold swapsWith
        simp only
        have e1 : (X.env.kindOf x == some .local) = lclB Γ.sc x := by
          show (X.env.scope.names.lookup x == some .local) = _
          rw [O.sc]
          unfold lclB
          cases Γ.sc.names.lookup x with
          | none => rfl
          | some z => cases z <;> rfl
        have hb' : (X.env.blockKind == .function && X.env.kindOf x == some .local && p.line == (Expr.ListComp elt gs scope vp).pos.line && !(scope.names.any fun (n, k) => n == x && (k == .local || k == .cell))) = false := by
          rw [e1]
          have : (lclB Γ.sc x && (p.line == vp.line) && !(scope.names.any fun (n, k) => n == x && (k == .local || k == .cell))) = false := by
            rw [← Bool.not_eq_true]
            exact hb
          cases q : (X.env.blockKind == ScopeKind.function) with
          | false => rfl
          | true =>
            rw [Bool.true_and]
            exact this
        show (pure _ : Sem Bool) = pure false
        rw [hb']
    | _ => exact absurd hc Bool.false_ne_true

theorem few_names {env : Env} {es : List Expr} {line : Nat} (h : es.any (notLcl env.scope) = true) : (es.filterMap fun | .Name id pos => if env.kindOf id == some .local && pos.line == line then some id else none | _ => none).length < es.length := by
  induction es with
  | nil => cases h
  | cons e es ih =>
    have le : (es.filterMap fun | .Name id pos => if env.kindOf id == some .local && pos.line == line then some id else none | _ => none).length ≤ es.length := List.length_filterMap_le _ _
    rw [List.any_cons, Bool.or_eq_true] at h
    rw [List.filterMap_cons]
    rcases h with h | h
    · cases e with
      | Name x p =>
        have hx : (env.kindOf x == some .local) = false := by
          show (env.scope.names.lookup x == some .local) = false
          simp only [notLcl, lclB, Bool.not_eq_true'] at h
          cases q : env.scope.names.lookup x with
          | none => rfl
          | some k =>
            rw [q] at h
            cases k <;> first | rfl | cases h
        have e1 : (if (env.kindOf x == some .local && p.line == line) = true then some x else none) = none := by rw [hx]; rfl
        simp only [e1]
        exact Nat.lt_succ_of_le le
      | _ => exact Nat.lt_succ_of_le le
    · have := ih h
      split
      · rw [List.length_cons]; omega
      · rw [List.length_cons, List.length_cons]; omega
theorem unp_hw {es vs : List Expr} {kt pt} {v : Expr} {env : Env} {sc : Scope} (hsc : env.scope = sc) (h : noSwap sc es v = true) : swappedStores [.Tuple es kt pt] v env = pure none := by
  subst hsc
  cases v with
  | Tuple vs k p =>
    simp only [noSwap, Bool.or_eq_true] at h
    unfold swappedStores
    simp only
    split
    · rfl
    · rename_i hn
      split
      · rfl
      · split
        · rfl
        · rename_i hm
          have hall : vs.all (foldedForSure 8) = true := by
            rcases h with (h | h) | h
            · exfalso
              apply hn
              rw [h]; rfl
            · exact h
            · exfalso
              apply hm
              have := few_names (line := (es.head?.map (·.pos.line)).getD 0) h
              rw [Bool.or_eq_true]
              left
              rw [bne_iff_ne]
              exact Nat.ne_of_lt this
          rw [hall]; rfl
  | _ => rfl
theorem set1_conv {ts : CTs} : ∀ E σ H, Ls L (fun rt ex => wS gl F rt ex (.unp ts c)) E σ H → tAsg (Lx L (wE gl F c)) (Lg L (CT.tup ts).slots (wTg (.tup ts))) E σ H := by
  intro E σ H ⟨s, h, nx, rt, le, rs, rh, q, hn, hr⟩
  simp only [wS] at q
  exact ⟨s, h, _, le, rs, rh, q, fun d h1 q1 v H1 l1 r1 rh1 => ⟨d, s, h1, nx, le.trans l1, r1, rs.le l1.le, rh1, q1, fun s' h' q2 σ' H' l2 _ rs2 rh2 => hn _ _ q2 _ H' (l1.trans l2) rs2 rh2⟩⟩
theorem snd_unp (O : SO Γ L k gl F X) {ts : CTs} {es : List Expr} {kt : Nat} {pt : Pos} {v : Expr} (h1 : chkTs Γ.N Γ.sc false ts es = true) (hv : chk Γ c v = true) (hs : noSwap Γ.sc es v = true) :
    PS X (.Assign [.Tuple es kt pt] v pos) (Ls L (fun rt ex => wS gl F rt ex (.unp ts c))) := by
  have S := snd c O.toXO v hv
  have G : PG X (.Tuple es kt pt) (Lg L (CT.tup ts).slots (wTg (.tup ts))) := pg_ok O.N O.sc O.nd O.K O.rm.c (.inr O.fnA) (.tup ts) _ (by simp only [chkT]; exact h1)
  exact PS.imp (ps_asg S.pe G noswapT (unp_hw (vs := []) O.sc hs)) set1_conv
theorem par_hw {x y : Str} {px py pt : Pos} {kt k2 : Nat} {pt2 : Pos} {u v : Expr} {env : Env} (hk : env.scope.kind = .function) (hx : env.scope.names.lookup x = some .local) (hy : env.scope.names.lookup y = some .local) (hne : x ≠ y) (hl : (py.line == px.line) = true)
    (hu : notStar u = true) (hv : notStar v = true) (hf : [u, v].all (foldedForSure 8) = false) (hc : [u, v].all (constantsAlone 8) = false) :
    swappedStores [.Tuple [.Name x px, .Name y py] kt pt] (.Tuple [u, v] k2 pt2) env = pure (some [x, y]) := by
  have kx : env.kindOf x = some .local := hx
  have ky : env.kindOf y = some .local := hy
  have hb : env.blockKind = .function := by unfold Env.blockKind; rw [hk]; rfl
  have hl' : py.line = px.line := by simpa using hl
  unfold swappedStores
  simp only [hb, kx, ky, hf, hc, List.any_cons, List.any_nil]
  split
  · rename_i z
    exact absurd z Bool.false_ne_true
  split
  · exact absurd hu Bool.false_ne_true
  split
  · exact absurd hv Bool.false_ne_true
  simp [Expr.pos, hl', List.eraseDups_cons, hne, Ne.symm hne, kx, ky]
theorem par3_hw {x y z : Str} {px py pz pt : Pos} {kt k2 : Nat} {pt2 : Pos} {u v w : Expr} {env : Env} (hk : env.scope.kind = .function) (hx : env.scope.names.lookup x = some .local) (hy : env.scope.names.lookup y = some .local) (hz : env.scope.names.lookup z = some .local)
    (h1 : x ≠ y) (h2 : x ≠ z) (h3 : y ≠ z) (l1 : (py.line == px.line) = true) (l2 : (pz.line == px.line) = true)
    (hu : notStar u = true) (hv : notStar v = true) (hw : notStar w = true) (hf : [u, v, w].all (foldedForSure 8) = false) (hc : [u, v, w].all (constantsAlone 8) = false) :
    swappedStores [.Tuple [.Name x px, .Name y py, .Name z pz] kt pt] (.Tuple [u, v, w] k2 pt2) env = pure (some [x, y, z]) := by
  have kx : env.kindOf x = some .local := hx
  have ky : env.kindOf y = some .local := hy
  have kz : env.kindOf z = some .local := hz
  have hb : env.blockKind = .function := by unfold Env.blockKind; rw [hk]; rfl
  have l1' : py.line = px.line := by simpa using l1
  have l2' : pz.line = px.line := by simpa using l2
  unfold swappedStores
  simp only [hb, kx, ky, kz, hf, hc, List.any_cons, List.any_nil]
  split
  · rename_i z
    exact absurd z Bool.false_ne_true
  split
  · exact absurd hu Bool.false_ne_true
  split
  · exact absurd hv Bool.false_ne_true
  split
  · exact absurd hw Bool.false_ne_true
  simp [Expr.pos, l1', l2', List.eraseDups_cons, h1, h2, h3, Ne.symm h1, Ne.symm h2, Ne.symm h3, kx, ky, kz]
theorem nmB_ok {i : Nat} {x : Str} (O : SO Γ L k gl F X) (h : nmB Γ.N Γ.sc i x = true) : X.N[i]? = some x ∧ X.env.scope.names.lookup x = some .local := by
  rw [nmB, Bool.and_eq_true] at h
  exact ⟨by rw [O.N]; simpa using h.1, by rw [O.sc]; exact lclB_ok h.2⟩
theorem snd_par2 (O : SO Γ L k gl F X) {i j : Nat} {x y : Str} {u v : Expr} {px py pt pt2 : Pos} {kt k2 : Nat} (h1 : nmB Γ.N Γ.sc i x = true) (h2 : nmB Γ.N Γ.sc j y = true) (h3 : (i != j) = true) (h4 : (py.line == px.line) = true) (h5 : notStar u = true) (h6 : notStar v = true)
    (h7 : (!([u, v].all (foldedForSure 8))) = true) (h8 : (!([u, v].all (constantsAlone 8))) = true) (h9 : chk Γ a u = true) (h10 : chk Γ b v = true) :
    PS X (.Assign [.Tuple [.Name x px, .Name y py] kt pt] (.Tuple [u, v] k2 pt2) pos) (Ls L (fun rt ex => wS gl F rt ex (.par2 i j a b))) := by
  obtain ⟨hi, hx⟩ := nmB_ok O h1
  obtain ⟨hj, hy⟩ := nmB_ok O h2
  have hij : i ≠ j := by simpa using h3
  have hne : x ≠ y := fun z => by
    subst z
    exact hij ((List.getElem?_inj (List.getElem?_eq_some_iff.mp hi).1 O.nd).mp (hi.trans hj.symm))
  have S1 := snd a O.toXO u h9
  have S2 := snd b O.toXO v h10
  have P : PA X [u, v] (La L (wEs gl F (.cons a (.cons b .nil)))) := snds _ O.toXO [u, v] (by simp [chks, h5, h6, h9, h10])
  refine PS.imp (ps_par O.rm.c O.nd hi hj hij hx hy P (par_hw (by rw [O.sc]; exact O.kd) hx hy hne h4 h5 h6 (by rw [Bool.not_eq_true'] at h7; exact h7) (by rw [Bool.not_eq_true'] at h8; exact h8))) ?_
  intro E σ H ⟨s, h, nx, rt, le, rs, rh, q, hn, hr⟩
  simp only [wS] at q
  refine ⟨s, h, fun ds h' => match ds with | [d, e] => nx ((s.set i (some d)).set j (some e)) h' | _ => False, le, rs, rh, ?_, fun ds h1 q1 vs H1 l1 r1 rh1 => ?_⟩
  · simp only [wEs]
    exact q
  · dsimp only at q1
    split at q1
    · cases r1 with
      | cons r1 r2 =>
        cases r2 with
        | cons r2 r3 =>
          cases r3
          exact ⟨_, _, rfl, hn _ _ q1 _ H1 l1 (((rs.le l1.le).set i r1).set j r2) rh1⟩
    · exact q1.elim
theorem snd_par3 (O : SO Γ L k gl F X) {i j l : Nat} {x y z : Str} {u v w : Expr} {px py pz pt pt2 : Pos} {kt k2 : Nat} (h1 : nmB Γ.N Γ.sc i x = true) (h2 : nmB Γ.N Γ.sc j y = true) (h2' : nmB Γ.N Γ.sc l z = true) (h3 : (i != j) = true) (h3' : (i != l) = true) (h3'' : (j != l) = true)
    (h4 : (py.line == px.line) = true) (h4' : (pz.line == px.line) = true) (h5 : notStar u = true) (h6 : notStar v = true) (h6' : notStar w = true)
    (h7 : (!([u, v, w].all (foldedForSure 8))) = true) (h8 : (!([u, v, w].all (constantsAlone 8))) = true) (h9 : chk Γ a u = true) (h10 : chk Γ b v = true) (h11 : chk Γ c w = true) :
    PS X (.Assign [.Tuple [.Name x px, .Name y py, .Name z pz] kt pt] (.Tuple [u, v, w] k2 pt2) pos) (Ls L (fun rt ex => wS gl F rt ex (.par3 i j l a b c))) := by
  obtain ⟨hi, hx⟩ := nmB_ok O h1
  obtain ⟨hj, hy⟩ := nmB_ok O h2
  obtain ⟨hl, hz⟩ := nmB_ok O h2'
  have hij : i ≠ j := by simpa using h3
  have hil : i ≠ l := by simpa using h3'
  have hjl : j ≠ l := by simpa using h3''
  have nd : ∀ {p q : Nat} {x y : Str}, X.N[p]? = some x → X.N[q]? = some y → p ≠ q → x ≠ y := fun hp hq n z => by
    subst z
    exact n ((List.getElem?_inj (List.getElem?_eq_some_iff.mp hp).1 O.nd).mp (hp.trans hq.symm))
  have P : PA X [u, v, w] (La L (wEs gl F (.cons a (.cons b (.cons c .nil))))) := snds _ O.toXO [u, v, w] (by simp [chks, h5, h6, h6', h9, h10, h11])
  refine PS.imp (ps_par3 O.rm.c O.nd hi hj hl hij hil hjl hx hy hz P (par3_hw (by rw [O.sc]; exact O.kd) hx hy hz (nd hi hj hij) (nd hi hl hil) (nd hj hl hjl) h4 h4' h5 h6 h6' (by rw [Bool.not_eq_true'] at h7; exact h7) (by rw [Bool.not_eq_true'] at h8; exact h8))) ?_
  intro E σ H ⟨s, h, nx, rt, le, rs, rh, q, hn, hr⟩
  simp only [wS] at q
  refine ⟨s, h, fun ds h' => match ds with | [d, e, f] => nx (((s.set i (some d)).set j (some e)).set l (some f)) h' | _ => False, le, rs, rh, ?_, fun ds h1 q1 vs H1 l1 r1 rh1 => ?_⟩
  · simp only [wEs]
    exact q
  · dsimp only at q1
    split at q1
    · cases r1 with
      | cons r1 r2 =>
        cases r2 with
        | cons r2 r3 =>
          cases r3 with
          | cons r3 r4 =>
            cases r4
            exact ⟨_, _, _, rfl, hn _ _ q1 _ H1 l1 ((((rs.le l1.le).set i r1).set j r2).set l r3) rh1⟩
    · exact q1.elim
theorem snd_put (O : SO Γ L k gl F X) {x y v : Expr} {p : Pos} (h1 : chk Γ c v = true) (h2 : chk Γ a x = true) (h3 : chk Γ b y = true) (h4 : notSlice y = true) (h5 : notComp v = true) : PS X (.Assign [.Subscript x y p] v pos) (Ls L (fun rt ex => wS gl F rt ex (.put a b c))) := by
  have S := snd c O.toXO v h1
  have S1 := snd a O.toXO x h2
  have S2 := snd b O.toXO y h3
  have hu : X.A.units + 1 < cLine := by have := O.rm.u; omega
  refine PS.imp (ps_asg S.pe (pg_sub S1.pe S2.pe (set_ok (C := L.C) hu) (fun w => ?_)) (noswap1 h5)) ?_
  · cases y <;> first | rfl | exact absurd h4 Bool.false_ne_true
  · intro E σ H ⟨s, h, nx, rt, le, rs, rh, q, hn, hr⟩
    simp only [wS] at q
    refine ⟨s, h, _, le, rs, rh, q, fun d h1 q1 v1 H1 l1 r1 rh1 => ⟨s, h1, _, le.trans l1, rs.le l1.le, rh1, q1, fun e h2 q2 v2 H2 l2 r2 rh2 => ⟨s, h2, _, (le.trans l1).trans l2, (rs.le l1.le).le l2.le, rh2, q2, fun f h3 q3 v3 H3 l3 r3 rh3 => ?_⟩⟩⟩
    rw [O.K]
    exact ⟨e, f, d, h3, _, r2.le l3.le, r3, (r1.le l2.le).le l3.le, rh3, q3, fun h4 q4 H4 l4 rh4 => hn _ _ q4 _ H4 (((l1.trans l2).trans l3).trans l4) ((((rs.le l1.le).le l2.le).le l3.le).le l4.le) rh4⟩
theorem snd_aug (O : SO Γ L k gl F X) {i : Nat} {x : Str} {p : Pos} {op : Operator} {v : Expr} (h1 : (Γ.N[i]? == some x) = true) (h2 : locB Γ.sc x = true) (h3 : (op == .Add || op == .Sub) = true) (h4 : chk Γ c v = true) : PS X (.AugAssign (.Name x p) op v pos) (Ls L (fun rt ex => wS gl F rt ex (.aug i op c))) := by
  obtain ⟨hi, hx⟩ := O.loc h1 h2
  have S := snd c O.toXO v h4
  rw [Bool.or_eq_true] at h3
  rcases h3 with h3 | h3 <;> have e := beq_iff_eq.mp h3 <;> subst e
  · refine PS.imp (ps_aug O.nd hi hx S.pe ip_add (.inl (O.fnA x))) fun E σ H ⟨s, h, nx, rt, le, rs, rh, q, hn, hr⟩ => ?_
    simp only [wS] at q
    split at q
    · rename_i d hd
      obtain ⟨x, ex, rx⟩ := rs.2 _ _ hd
      refine ⟨x, ex, s, h, _, le, rs, rh, q, fun e h1 q1 v H1 l1 r1 rh1 => ?_⟩
      unfold wI2 at q1
      split at q1
      · cases rx; cases r1
        exact ⟨_, _, rfl, rfl, hn _ _ q1.2 _ H1 l1 ((rs.le l1.le).set i (.int _)) rh1⟩
      · exact q1.elim
    · exact q.elim
  · refine PS.imp (ps_aug O.nd hi hx S.pe ip_sub (.inl (O.fnA x))) fun E σ H ⟨s, h, nx, rt, le, rs, rh, q, hn, hr⟩ => ?_
    simp only [wS] at q
    split at q
    · rename_i d hd
      obtain ⟨x, ex, rx⟩ := rs.2 _ _ hd
      refine ⟨x, ex, s, h, _, le, rs, rh, q, fun e h1 q1 v H1 l1 r1 rh1 => ?_⟩
      unfold wSub wI2 at q1
      split at q1
      · cases rx; cases r1
        exact ⟨_, _, rfl, rfl, hn _ _ q1.2 _ H1 l1 ((rs.le l1.le).set i (.int _)) rh1⟩
      · exact q1.elim
    · exact q.elim
theorem Ls.step {w : QD → SXD → DSt → DH → (DSt → DH → Prop) → Prop} {E : Ends} {H H1 : Hp} {σ1 : L2.St} {h h1 : DH} {s1 : DSt} {nx : DSt → DH → Prop} {rt : QD} (le : Ste L.H0 L.h0 H h) (l : Ste H h H1 h1) (rs : RS L.K H1 σ1 s1) (rh : RH L.K L.C H1 h1) (q : w rt L.EX s1 h1 nx)
    (hn : ∀ s' h', nx s' h' → ∀ σ' H', Ste H h H' h' → RS L.K H' σ' s' → RH L.K L.C H' h' → E.nx σ' H') (hr : ∀ d h', rt d h' → LQ L.K L.C H h E.rt d h') : Ls L w E σ1 H1 :=
  ⟨s1, h1, nx, rt, le.trans l, rs, rh, q, fun s' h' n σ' H' l' => hn s' h' n σ' H' (l.trans l'), fun d h' r => (hr d h' r).le l⟩
end

section
variable {k : Nat} {gl : List D} {F : Fns}
mutual
theorem sndS : ∀ (c : CS) {Γ : Gx} {L : Lv} {X : Cx} (_ : SO Γ L k gl F X) (st : Stmt), chkS Γ c st = true → PS X st (Ls L (fun rt ex => wS gl F rt ex c))
  | .set i c, Γ, L, X, O, st, h => by
    simp only [chkS] at h
    split at h
    · simp only [Bool.and_eq_true] at h
      exact snd_set O h.1.1.1 h.1.1.2 h.1.2 h.2
    · cases h
  | .unp ts c, Γ, L, X, O, st, h => by
    simp only [chkS] at h
    split at h
    · simp only [Bool.and_eq_true] at h
      exact snd_unp O h.1.1 h.1.2 h.2
    · cases h
  | .par2 i j a b, Γ, L, X, O, st, h => by
    simp only [chkS] at h
    split at h
    · simp only [Bool.and_eq_true] at h
      obtain ⟨⟨⟨⟨⟨⟨⟨⟨⟨h1, h2⟩, h3⟩, h4⟩, h5⟩, h6⟩, h7⟩, h8⟩, h9⟩, h10⟩ := h
      exact snd_par2 O h1 h2 h3 h4 h5 h6 h7 h8 h9 h10
    · cases h
  | .par3 i j l a b c, Γ, L, X, O, st, h => by
    simp only [chkS] at h
    split at h
    · simp only [Bool.and_eq_true] at h
      obtain ⟨⟨⟨⟨⟨⟨⟨⟨h1, h2⟩, h3⟩, ⟨h4, h5⟩, h6⟩, h7, h8⟩, ⟨h9, h10⟩, h11⟩, h12⟩, h13⟩, ⟨h14, h15⟩, h16⟩ := h
      exact snd_par3 O h1 h2 h3 h4 h5 h6 h7 h8 h9 h10 h11 h12 h13 h14 h15 h16
    · cases h
  | .put o i e, Γ, L, X, O, st, h => by
    simp only [chkS] at h
    split at h
    · simp only [Bool.and_eq_true] at h
      exact snd_put O h.1.1.1.1 h.1.1.1.2 h.1.1.2 h.1.2 h.2
    · cases h
  | .aug i op e, Γ, L, X, O, st, h => by
    simp only [chkS] at h
    split at h
    · simp only [Bool.and_eq_true] at h
      obtain ⟨⟨⟨⟨h1, h2⟩, h3⟩, h4⟩, h5⟩ := h
      have e := beq_iff_eq.mp h3
      subst e
      exact snd_aug O h1 h2 h4 h5
    · cases h
  | .exp e, Γ, L, X, O, st, h => by
    simp only [chkS] at h
    split at h
    · simp only [Bool.and_eq_true] at h
      refine PS.imp (ps_expr (snd e O.toXO _ h.1).pe (noswap h.2)) fun E σ H ⟨s, h, nx, rt, le, rs, rh, q, hn, hr⟩ => ?_
      simp only [wS] at q
      exact ⟨s, h, _, le, rs, rh, q, fun d h1 q1 v H1 l1 r1 rh1 => hn _ _ q1 _ H1 l1 (rs.le l1.le) rh1⟩
    · cases h
  | .ret e, Γ, L, X, O, st, h => by
    simp only [chkS] at h
    split at h
    · refine PS.imp (ps_ret (snd e O.toXO _ h).pe) fun E σ H ⟨s, h, nx, rt, le, rs, rh, q, hn, hr⟩ => ?_
      simp only [wS] at q
      exact ⟨s, h, _, le, rs, rh, q, hr⟩
    · cases h
  | .retN, Γ, L, X, O, st, h => by
    simp only [chkS] at h
    split at h
    · refine PS.imp ps_retN fun E σ H ⟨s, h, nx, rt, le, rs, rh, q, hn, hr⟩ => ?_
      simp only [wS] at q
      exact (hr _ _ q).here .non rh
    · cases h
  | .ife c a b, Γ, L, X, O, st, h => by
    simp only [chkS] at h
    split at h
    · simp only [Bool.and_eq_true] at h
      refine PS.imp (ps_if (snd c O.toXO _ h.1.1).pt (sndSs a O _ h.1.2) (sndSs b O _ h.2)) fun E σ H ⟨s, h, nx, rt, le, rs, rh, q, hn, hr⟩ => ?_
      simp only [wS] at q
      refine ⟨s, h, _, le, rs, rh, q, fun k h1 q1 H1 l1 rh1 => ?_⟩
      cases k with
      | true => exact Ls.step (w := fun rt ex => wSs gl F rt ex a) le l1 (rs.le l1.le) rh1 q1 hn hr
      | false => exact Ls.step (w := fun rt ex => wSs gl F rt ex b) le l1 (rs.le l1.le) rh1 q1 hn hr
    · cases h
  | .for t it b, Γ, L, X, O, st, h => by
    simp only [chkS] at h
    split at h
    · rename_i tg iter body pos
      simp only [Bool.and_eq_true] at h
      obtain ⟨⟨⟨h1, h2⟩, h3⟩, h4⟩ := h
      have G : PG X tg (Lg L t.slots (wTg t)) := pg_ok O.N O.sc O.nd O.K O.rm.c (.inr O.fnA) t _ h1
      refine PS.imp (ps_for O.po O.rm.c (sndI it O.toXO tg iter h2) G (sndSs b O _ h4) (nofold h3)) fun E σ H ⟨s, h, nx, rt, le, rs, rh, q, hn, hr⟩ => ?_
      simp only [wS] at q
      refine ⟨s, h, _, le, rs, rh, q, fun J h1 q1 Jh H1 l1 rh1 itr => ?_⟩
      obtain ⟨W, ⟨m0, w0⟩, turn⟩ := q1
      refine ⟨fun i m σ' H' => ∃ s' h', Ste H1 h1 H' h' ∧ RS L.K H' σ' s' ∧ RH L.K L.C H' h' ∧ W i m s' h', ⟨m0, s, h1, .refl, rs.le l1.le, rh1, w0⟩, fun i m σ' H' ⟨s', h', l2, rs2, rh2, w⟩ => ?_⟩
      have tn := turn i m s' h' w
      have ir := itr i H' h' l2.le rh2
      split at tn
      · exact tn.elim
      · rename_i e
        rw [e] at ir
        exact .inl ⟨ir, hn _ _ tn _ H' (l1.trans l2) rs2 rh2⟩
      · rename_i d e
        rw [e] at ir
        obtain ⟨N, hN, tn⟩ := tn
        refine .inr ⟨ir.1, fun σ3 H3 => ∃ s3 h3, Ste H1 h1 H3 h3 ∧ RS L.K H3 σ3 s3 ∧ RH L.K L.C H3 h3 ∧ N s3 h3, fun σ3 H3 ⟨s3, h3, a1, a2, a3, a4⟩ => ?_, fun x H3 y => ?_⟩
        · obtain ⟨m', hm, w'⟩ := hN s3 h3 a4
          exact ⟨m', hm, s3, h3, a1, a2, a3, w'⟩
        · obtain ⟨l3, rd, rh3⟩ := ir.2 x H3 y
          have l03 := (l1.trans l2).trans l3
          refine ⟨d, s', h', _, le.trans l03, rd, rs2.le l3.le, rh3, tn, fun s4 h4 q4 σ4 H4 l4 ag rs4 rh4 => ?_⟩
          exact ⟨s4, h4, N, rt, le.trans (l03.trans l4), rs4, rh4, q4, fun s5 h5 n5 σ5 H5 l5 rs5 rh5 => ⟨s5, h5, ((l2.trans l3).trans l4).trans l5, rs5, rh5, n5⟩, fun d h' r => (hr d h' r).le (l03.trans l4)⟩
    · cases h
  | .whl c b, Γ, L, X, O, st, h => by
    simp only [chkS] at h
    split at h
    · simp only [Bool.and_eq_true] at h
      refine PS.imp (ps_while O.po (snd c O.toXO _ h.1).pt (sndSs b O _ h.2)) fun E σ H ⟨s, h, nx, rt, le, rs, rh, q, hn, hr⟩ => ?_
      simp only [wS] at q
      obtain ⟨W, ⟨m0, w0⟩, turn⟩ := q
      refine ⟨fun m σ' H' => ∃ s' h', Ste H h H' h' ∧ RS L.K H' σ' s' ∧ RH L.K L.C H' h' ∧ W m s' h', ⟨m0, s, h, .refl, rs, rh, w0⟩, fun m σ' H' ⟨s', h', l2, rs2, rh2, w⟩ => ?_⟩
      refine ⟨s', h', _, le.trans l2, rs2, rh2, turn m s' h' w, fun k h3 q3 H3 l3 rh3 => ?_⟩
      cases k with
      | true =>
        rw [if_pos rfl] at q3 ⊢
        obtain ⟨N, hN, q3⟩ := q3
        refine ⟨fun σ4 H4 => ∃ s4 h4, Ste H h H4 h4 ∧ RS L.K H4 σ4 s4 ∧ RH L.K L.C H4 h4 ∧ N s4 h4, fun σ4 H4 ⟨s4, h4, a1, a2, a3, a4⟩ => ?_, ?_⟩
        · obtain ⟨m', hm, w'⟩ := hN s4 h4 a4
          exact ⟨m', hm, s4, h4, a1, a2, a3, w'⟩
        · exact ⟨s', h3, N, rt, le.trans (l2.trans l3), rs2.le l3.le, rh3, q3, fun s5 h5 n5 σ5 H5 l5 rs5 rh5 => ⟨s5, h5, (l2.trans l3).trans l5, rs5, rh5, n5⟩, fun d h' r => (hr d h' r).le (l2.trans l3)⟩
      | false =>
        rw [if_neg Bool.false_ne_true] at q3 ⊢
        exact hn _ _ q3 _ H3 (l2.trans l3) (rs2.le l3.le) rh3
    · cases h
  | .pas, Γ, L, X, O, st, h => by
    simp only [chkS] at h
    split at h
    · refine PS.imp ps_pass fun E σ H ⟨s, h, nx, rt, le, rs, rh, q, hn, hr⟩ => ?_
      simp only [wS] at q
      exact hn _ _ q _ H .refl rs rh
    · cases h
  | .nev, Γ, L, X, O, st, h => ⟨fun pins s σ H D I ⟨_, _, _, _, _, _, _, q, _⟩ => by simp only [wS] at q⟩
theorem sndSs : ∀ (cs : CSs) {Γ : Gx} {L : Lv} {X : Cx} (_ : SO Γ L k gl F X) (st : List Stmt), chkSs Γ cs st = true → PSs X st (Ls L (fun rt ex => wSs gl F rt ex cs))
  | .nil, Γ, L, X, O, st, h => by
    simp only [chkSs] at h
    split at h
    · refine PSs.imp pss_nil fun E σ H ⟨s, h, nx, rt, le, rs, rh, q, hn, hr⟩ => ?_
      simp only [wSs] at q
      exact hn _ _ q _ H .refl rs rh
    · cases h
  | .cons c cs, Γ, L, X, O, st, h => by
    simp only [chkSs] at h
    split at h
    · simp only [Bool.and_eq_true] at h
      refine PSs.imp (pss_cons (sndS c O _ h.1) (sndSs cs O _ h.2)) fun E σ H ⟨s, h, nx, rt, le, rs, rh, q, hn, hr⟩ => ?_
      simp only [wSs] at q
      exact ⟨s, h, _, rt, le, rs, rh, q, fun s1 h1 q1 σ1 H1 l1 rs1 rh1 => Ls.step (w := fun rt ex => wSs gl F rt ex cs) le l1 rs1 rh1 q1 hn hr, hr⟩
    · cases h
end
end
end DL

/-! DL, part P: the defs of a text, level by level; the law's call -/
namespace DL
open PySem PySem.Spec PyProof.Rows L2

/-! ### defs -/
structure Dfn where
  x : Str
  N : List Str
  ar : Nat
  body : CSs
/-- what the defs mean, n calls deep -/
def run (gl : List D) (ds : List Dfn) : Nat → Fns
  | 0 => fun _ _ _ _ _ => False
  | n + 1 => fun i vs h Q E => match ds[i]? with
    | some d => vs.length = d.ar ∧ wSs gl (run gl ds n) Q (fun x _ h' => E x h') d.body (vs.map some ++ List.replicate (d.N.length - d.ar) none) h (fun _ h' => Q .non h')
    | none => False

def distB : List Str → Bool
  | [] => true
  | x :: r => !r.contains x && distB r
theorem distB_ok : ∀ {l : List Str}, distB l = true → l.Nodup
  | [], _ => List.nodup_nil
  | x :: r, h => by
    simp only [distB, Bool.and_eq_true, Bool.not_eq_true'] at h
    refine List.nodup_cons.mpr ⟨fun z => ?_, distB_ok h.2⟩
    have := h.1
    simp [z] at this
/-- a def's slots are its scope's -/
def scB (N : List Str) (ar : Nat) (sc : Scope) : Bool :=
  sc.kind == .function && !sc.isCoroutine && !sc.isGenerator && distB N && decide (ar ≤ N.length) && (N.take ar).all (locB sc) && sc.names.all (fun y => !(y.2 == .free))
theorem locB_ok {sc : Scope} {x : Str} (h : locB sc x = true) : sc.names.lookup x = some .local ∨ sc.names.lookup x = some .cell := by
  unfold locB at h
  split at h
  · exact .inl (by assumption)
  · exact .inr (by assumption)
  · cases h
theorem scB_ok {N : List Str} {ar : Nat} {sc : Scope} (h : scB N ar sc = true) : FnScope N (N.take ar) sc ∧ ar ≤ N.length := by
  simp only [scB, Bool.and_eq_true, Bool.not_eq_true', decide_eq_true_eq] at h
  obtain ⟨⟨⟨⟨⟨⟨h1, h2⟩, h3⟩, h4⟩, h5⟩, h6⟩, h7⟩ := h
  refine ⟨⟨by simpa using h1, h2, h3, distB_ok h4, by rw [List.length_take, Nat.min_eq_left h5], fun x hx => locB_ok (List.all_eq_true.mp h6 x hx), fun y hy e => ?_⟩, h5⟩
  have q := List.all_eq_true.mp h7 y hy
  rw [e] at q
  cases q

theorem RS.start {K : PySem.W.Frag} {H : Hp} {vs : List V} {xs : List D} {n : Nat} (r : RDs K H vs xs) : RS K H (vs.map some ++ List.replicate n none) (xs.map some ++ List.replicate n none) := by
  refine ⟨by simp [r.length], fun i d e => ?_⟩
  have hi : i < (xs.map some).length := by
    refine Nat.lt_of_not_le fun z => ?_
    rw [List.getElem?_append_right z, List.getElem?_replicate] at e
    split at e <;> cases e
  rw [List.getElem?_append_left hi, List.getElem?_map] at e
  cases q : xs[i]? with
  | none => rw [q] at e; cases e
  | some z =>
    rw [q] at e
    have e : some (some z) = some (some d) := e
    cases e
    obtain ⟨v, e2, rv⟩ := r.get q
    refine ⟨v, ?_, rv⟩
    rw [List.getElem?_append_left (by rw [List.length_map, r.length]; simpa using hi), List.getElem?_map, e2]
    rfl
/-- the def at a place of the text -/
structure DefAt (Γf : List Str → Scope → Gx) (K : PySem.W.Frag) (mg : Str → Option Value) (d : Dfn) (st : Stmt) : Prop where
  ex : ∃ f fd, mg d.x = some (.ref f) ∧ Fun K d.x d.x st f fd ∧ Binds K fd (d.N.take d.ar) []
  sc : scB d.N d.ar (defScope st) = true
  ck : chkSs (Γf d.N (defScope st)) d.body (defBody st) = true

section
variable {P : Program} {w : World} {K : PySem.W.Frag} {mg : Str → Option Value} {base : Heap} {C : CA} {gl : List D} {ds : List Dfn} {sts : Nat → Stmt} {cns bls : List Str}
theorem fn_lvl {n : Nat} (sm : ∃ u, K.lookup sysModules = some u) (T : Tab P w K mg base C n (ds.map (·.x)) cns bls gl (run gl ds n)) {i : Nat} {d : Dfn} (hd : ds[i]? = some d) {st : Stmt} {f : Addr} {fd : FuncData} (F : Fun K d.x d.x st f fd) (sc : scB d.N d.ar (defScope st) = true)
    (ck : chkSs ⟨d.N, defScope st, ds.map (·.x), cns, bls⟩ d.body (defBody st) = true) : FnG P w K mg base (n + 1) f fd (d.N.take d.ar) (spL K C (run gl ds (n + 1) i)) := by
  obtain ⟨S, hl⟩ := scB_ok sc
  obtain ⟨oc, od, kV, doc, pm, an, cdv, ct, osl, rfl, lk, hcd⟩ := F.ex
  have hrun : run gl ds (n + 1) i = fun vs h Q E => vs.length = d.ar ∧ wSs gl (run gl ds n) Q (fun x _ h' => E x h') d.body (vs.map some ++ List.replicate (d.N.length - d.ar) none) h (fun _ h' => Q .non h') := by
    funext vs h Q E
    show (match ds[i]? with | some d => _ | none => _) = _
    rw [hd]
  rw [hrun]
  refine fnG_of lk hcd S (fun vs H Q E ⟨xs, h, Q0, E0, r, rh, q, _⟩ => ?_) fun A outer s H vs Q E hr hg ⟨xs, h, Q0, E0, r, rh, q, hq, hx⟩ => ?_
  · rw [r.length, q.1, List.length_take, Nat.min_eq_left hl]
  · have hu := hr.un
    have O : SO ⟨d.N, defScope st, ds.map (·.x), cns, bls⟩ ⟨K, C, H, h, fun x _ h' => E0 x h'⟩ n gl (run gl ds n) (cxOf (L2.CX P w) P w K mg base d.N d.x (defScope st) f cdv A outer s H E) :=
      { N := rfl, sc := rfl, nd := S.nd, K := rfl, rm := ⟨by show (A.deeper _).units + 200 < _; omega, hg, rfl, sm⟩, room := hr, tab := T
        tk := (takes_of rfl rfl rfl rfl).imp fun cls x σ H' ⟨e, s', h', st', rx, rs, rh', q'⟩ => hx e h' q' cls x H' st' rx rh'
        hs := rfl, hf := rfl, po := passes_of rfl, fnA := fun _ => rfl, kd := S.kind }
    refine ⟨_, sndSs d.body O _ ck, xs.map some ++ List.replicate (d.N.length - d.ar) none, h, _, Q0, .refl, ?_, rh, q.2, fun s' h' nx σ' H' l rs rh' => ?_, hq⟩
    · have e : L2.start d.N vs = vs.map some ++ List.replicate (d.N.length - d.ar) none := by
        unfold L2.start
        rw [r.length, q.1]
      rw [e]
      exact RS.start r
    · exact hq _ _ nx _ _ l .non rh'
theorem tab_all (sm : ∃ u, K.lookup sysModules = some u) (hc : ∀ (i : Nat) (x : Str), cns[i]? = some x → ∃ v u d, gl[i]? = some d ∧ mg x = some u ∧ RelV v u ∧ ∀ H, RD K H v d) (hb : ∀ x, x ∈ bls → mg x = none)
    (hd : ∀ (i : Nat) (d : Dfn), ds[i]? = some d → ∃ st, DefAt (fun N sc => ⟨N, sc, ds.map (·.x), cns, bls⟩) K mg d st) : ∀ n, Tab P w K mg base C n (ds.map (·.x)) cns bls gl (run gl ds n)
  | 0 => ⟨fun i x e => by
      obtain ⟨d, e1, rfl⟩ := List.getElem?_map .. ▸ e |> Option.map_eq_some_iff.mp
      obtain ⟨st, D⟩ := hd i d e1
      obtain ⟨f, fd, e2, F, B⟩ := D.ex
      refine ⟨f, fd, _, e2, F.kp, ⟨fun vs H Q E ⟨_, _, _, _, _, _, q, _⟩ => q.elim, fun A outer s H args us vs Q E _ _ _ _ _ ⟨_, _, _, _, _, _, q, _⟩ => q.elim⟩, B⟩, hc, hb⟩
  | n + 1 => ⟨fun i x e => by
      obtain ⟨d, e1, rfl⟩ := List.getElem?_map .. ▸ e |> Option.map_eq_some_iff.mp
      obtain ⟨st, D⟩ := hd i d e1
      obtain ⟨f, fd, e2, F, B⟩ := D.ex
      exact ⟨f, fd, _, e2, F.kp, fn_lvl sm (tab_all sm hc hb hd n) e1 F D.sc D.ck, B⟩, hc, hb⟩
end

/-! ### the law's call -/
section
variable {P : Program} {w : World} {K : PySem.W.Frag} {C : CA} {W : List D → DH → QD → XD → Prop} {mg mb : Str → Option Value} {k : Nat} {fa a : Addr} {fd : FuncData} {x : Str} {s₁ : Shared} {vs : List Value} {ns : List Int}
/-- the heap as the law meets it: the script frozen, where it is not one of the module's things -/
def scriptHp (K : PySem.W.Frag) (a : Addr) (o : Obj) (us : List V) : Hp := fun b => if b = a then (match K.lookup a with
  | none => some (.frz o (.lst us))
  | some _ => none) else none
theorem scriptHp_some {o : Obj} {us : List V} {b : Addr} {t : HO} (e : scriptHp K a o us b = some t) : b = a ∧ K.lookup a = none ∧ t = .frz o (.lst us) := by
  unfold scriptHp at e
  by_cases hb : b = a
  · rw [if_pos hb] at e
    split at e
    · rename_i hk
      exact ⟨hb, hk, (Option.some.inj e).symm⟩
    · cases e
  · rw [if_neg hb] at e
    cases e
theorem top_call (kin : K.In s₁.heap) (gns : s₁.heap.Ns mainGlobals mg) (bns : s₁.heap.Ns builtinsNs mb) (bok : ∀ x : Str, x ≠ "__name__" → mb x = bootBuiltins x) (nol : s₁.heap.NoLimit) (gen : s₁.gens = #[])
    (at' : s₁.heap.get? a = some { cls := .type "list", data := .seq vs.toArray }) (hints : IntsAre vs ns) (len : ns.length ≤ sizeLine) (room : Room k callerA)
    (F : ∀ base : Heap, K.In base → base.Ns mainGlobals mg → FnG P w K mg base k fa fd [x] (spL K C (fun ds h Q E => W ds h Q E))) (bind : ∀ (s : Shared) (u : Value), BindsTo s fd ⟨[u], []⟩ [(x, u)])
    (goal : W [.fl (ns.map .int)] (fun _ => none) (fun d _ => d = .bl true) fun _ _ => False) :
    codeAny (model P w) callerA (.call (.ref fa) ⟨[.ref a], []⟩) (fun r s' => r = .ok (.ret (.bool true)) ∧ OldK s₁.heap s'.heap ∧ s'.os = s₁.os ∧ AllBare s'.gens) s₁ := by
  have rel := vals_ints hints
  have lenV := hints.length
  let ob : Obj := { cls := .type "list", data := .seq vs.toArray }
  let H := scriptHp K a ob (ns.map V.int)
  have only : ∀ {b : Addr} {t : HO}, H b = some t → b = a ∧ K.lookup a = none ∧ t = .frz ob (.lst (ns.map V.int)) := fun e => scriptHp_some e
  -- what is not the script is not hidden
  have free : ∀ {b : Addr} {o : Obj}, s₁.heap.get? b = some o → (b = a → K.lookup a = none → o = ob → False) → (hidT s₁.heap H).get? b = some o := fun {b o} e ne => by
    refine hidT_get e ?_
    cases q : H b with
    | none => rfl
    | some t =>
      obtain ⟨rfl, k1, _⟩ := only q
      rw [at'] at e
      exact (ne rfl k1 (Option.some.inj e).symm).elim
  have spaces : ∀ {b : Addr} {m : Str → Option Value}, s₁.heap.Ns b m → (hidT s₁.heap H).Ns b m := fun {b m} ⟨o, es, ep, e, d, r⟩ =>
    ⟨o, es, ep, free e (fun _ _ z => by rw [z] at d; cases d), d, r⟩
  have kinB : K.In (hidT s₁.heap H) := fun b o e => free (kin b o e) fun z k1 _ => by rw [z, k1] at e; cases e
  obtain ⟨mc, lim1, lim2⟩ := nol
  have envs : Env0 P w K mg (hidT s₁.heap H) callerA [] s₁ H :=
    { frames := rfl
      mod := ⟨kinB, spaces gns, ⟨mb, spaces bns, bok⟩, ⟨mc, spaces lim1, lim2⟩⟩
      bs := fun _ _ e => of_hidT e
      bsz := Nat.le_of_eq (hidT_size _ _)
      funs := trivial
      frf := fun b m => nomatch m
      hok := fun b t e => by
        obtain ⟨rfl, _, rfl⟩ := only e
        refine ⟨at', ?_, vs, _, rel, at'⟩
        rw [List.length_map]
        exact len
      bare := .of_eq gen }
  have known : FL K H a (ns.map V.int) := by
    cases q : K.lookup a with
    | none =>
      refine .inl ⟨ob, ?_⟩
      show scriptHp K a ob _ a = _
      unfold scriptHp
      rw [if_pos rfl, q]
    | some o =>
      have e := kin a o q
      rw [at'] at e
      cases e
      refine .inr ⟨_, vs.toArray, _, q, rfl, rfl, rfl, ?_, ?_⟩
      · rw [List.size_toArray, lenV]
        exact len
      · simpa using rel
  have ints2 : ∀ l : List Int, RDs K H (l.map V.int) (l.map D.int) := fun l => by
    induction l with
    | nil => exact .nil
    | cons i r ih => exact .cons (.int i) ih
  have wish : spL K C (fun ds h Q E => W ds h Q E) [.ref a] H (fun v _ => v = .bl true) fun _ _ _ => False :=
    ⟨[.fl (ns.map .int)], fun _ => none, _, _, .cons (.fl known (ints2 ns)) .nil, fun _ _ e => (nomatch e), goal, fun d h' q v H' _ r _ => by
      have q : d = .bl true := q
      subst q
      cases r
      rfl, fun _ _ z => z.elim⟩
  refine codeAny_mono ((F _ kinB (spaces gns)).run callerA [] s₁ H ⟨[.ref a], []⟩ [.ref a] [.ref a] _ _ room rfl envs (bind s₁ (.ref a)) (.cons rfl .nil) wish) fun r s' h => ?_
  cases r with
  | error e =>
    obtain ⟨_, _, _, _, _, _, _, _, _, _, _, _, z⟩ := h
    exact z.elim
  | ok fl =>
    cases fl with
    | ret u =>
      obtain ⟨v, H', os, bare, un, hok', r', q'⟩ := h
      have q' : v = .bl true := q'
      subst q'
      have ru : u = Value.bool true := r'
      subst ru
      refine ⟨rfl, OldK.of_keep fun b o e => ?_, os, bare⟩
      cases q : H b with
      | none => exact un.keep b o e q (fun z => nomatch z) (fun z => nomatch z)
      | some t =>
        obtain ⟨rfl, _, rfl⟩ := only q
        have z := (hok' _ _ (un.frzs _ _ _ q)).1
        rw [at'] at e
        cases e
        exact z
    | next => exact False.elim h
    | brk => exact False.elim h
    | cont => exact False.elim h
end
end DL

/-! DL, part Q: a law's end -/
namespace DL
open PySem PySem.Spec PyProof.Rows L2

theorem sm2 {K : PySem.W.Frag} {oc : Value} {od : Option Addr} {dt : _} {sl : Array (Option Value)} (h : K.lookup sysModules = some ⟨oc, od, dt, sl⟩) : ∃ u, K.lookup sysModules = some u := ⟨_, h⟩
theorem sm3 {K : PySem.W.Frag} (h : (K.lookup sysModules).isSome = true) : ∃ u, K.lookup sysModules = some u := Option.isSome_iff_exists.mp h
/-- a def as the top has left it -/
def DefIn (K : PySem.W.Frag) (x : Str) (s : Stmt) : Prop := ∃ (f : Addr) (oc kV dc pm cd ct : Value) (od an : Option Addr) (sl : Array (Option Value)),
  PySem.W.nsIn K mainGlobals x = some (some (.ref f)) ∧ K.lookup f = some ⟨oc, od, .func (PySem.W.fnOf x x (defArgs s) (defBody s) (defScope s) .none kV dc pm an cd ct), sl⟩ ∧ PySem.W.codeIn K cd x = true ∧ PySem.W.keepIn K (.ref f) = true
/-- a constant as the top has left it -/
def CnIn (K : PySem.W.Frag) (x : Str) (d : D) : Prop := ∃ (u : Value) (v : V), PySem.W.nsIn K mainGlobals x = some (some u) ∧ RelV v u ∧ ∀ H, RD K H v d
def NoIn (K : PySem.W.Frag) (x : Str) : Prop := PySem.W.nsIn K mainGlobals x = some none
theorem cn_tup {K : PySem.W.Frag} {x : Str} {a : Addr} {od : Option Addr} {n : Nat} {sl : Array (Option Value)} {its : Array Value} {vs : List V} {ds : List D} (h1 : PySem.W.nsIn K mainGlobals x = some (some (.ref a))) (h2 : K.lookup a = some ⟨.type "tuple", od, .seq its n, sl⟩) (h3 : its.size ≤ sizeLine) (h4 : Vals vs its.toList) (h5 : ∀ H, RDs K H vs ds) : CnIn K x (.kt ds) :=
  ⟨.ref a, .ref a, h1, rfl, fun H => .kt (.inr ⟨_, its, n, h2, rfl, rfl, h3, h4⟩) (h5 H)⟩
section
variable {K : PySem.W.Frag} {h : Heap} {mg : Str → Option Value} {x : Str} {s : Stmt}
theorem DefIn.mk' (X : K.In h) (G : h.Ns mainGlobals mg) (D : DefIn K x s) : ∃ f fd, mg x = some (.ref f) ∧ Fun K x x s f fd := by
  obtain ⟨f, oc, kV, dc, pm, cd, ct, od, an, sl, h1, h2, h3, h4⟩ := D
  exact ⟨f, _, PySem.W.mg_of X G h1, fun_mk h2 h3 h4⟩
theorem CnIn.mk' {d : D} (X : K.In h) (G : h.Ns mainGlobals mg) (D : CnIn K x d) : ∃ v u, mg x = some u ∧ RelV v u ∧ ∀ H, RD K H v d := by
  obtain ⟨u, v, h1, h2, h3⟩ := D
  exact ⟨v, u, PySem.W.mg_of X G h1, h2, h3⟩
theorem NoIn.mk' (X : K.In h) (G : h.Ns mainGlobals mg) (D : NoIn K x) : mg x = none := PySem.W.mg_none_of X G D
end
section
variable {P : Program} {w : World} {K : PySem.W.Frag} {mg : Str → Option Value} {C : CA} {gl : List D} {ds : List Dfn} {cns bls : List Str}
/-- the law's own def, at a level -/
theorem law_fd {i : Nat} {d : Dfn} {fa : Addr} (n : Nat) (sm : ∃ u, K.lookup sysModules = some u) (hi : ds[i]? = some d) (hfa : mg d.x = some (.ref fa)) (h1 : d.N.take d.ar = ([("script" : Str)] : List Str))
    (hc : ∀ (i : Nat) (x : Str), cns[i]? = some x → ∃ v u d, gl[i]? = some d ∧ mg x = some u ∧ RelV v u ∧ ∀ H, RD K H v d) (hb : ∀ x, x ∈ bls → mg x = none)
    (hd : ∀ (i : Nat) (d : Dfn), ds[i]? = some d → ∃ st, DefAt (fun N sc => ⟨N, sc, ds.map (·.x), cns, bls⟩) K mg d st)
    (st : Stmt) (hst : DefIn K d.x st) (hsc : scB d.N d.ar (defScope st) = true) (hck : chkSs ⟨d.N, defScope st, ds.map (·.x), cns, bls⟩ d.body (defBody st) = true) (X : ∃ h, K.In h ∧ h.Ns mainGlobals mg)
    (bind : ∀ (kV doc pm : Value) (an : Option Addr) (cdv ct u : Value), bindArgs (PySem.W.fnOf d.x d.x (defArgs st) (defBody st) (defScope st) .none kV doc pm an cdv ct) ⟨[u], []⟩ = pure [(("script" : Str), u)]) :
    ∃ fd : FuncData, (∀ (s : Shared) (u : Value), BindsTo s fd ⟨[u], []⟩ [("script", u)]) ∧ ∀ base : Heap, FnG P w K mg base (n + 1) fa fd ["script"] (spL K C (run gl ds (n + 1) i)) := by
  obtain ⟨h, X, G⟩ := X
  obtain ⟨f, fd, e, F⟩ := hst.mk' X G
  rw [hfa] at e
  cases e
  refine ⟨fd, fun s u => ?_, fun base => ?_⟩
  · obtain ⟨oc, od, kV, doc, pm, an, cdv, ct, osl, rfl, lk, hcd⟩ := F.ex
    exact .of_eq (bind kV doc pm an cdv ct u)
  · have q := fn_lvl (P := P) (w := w) (base := base) (C := C) sm (tab_all sm hc hb hd n) hi F hsc hck
    rw [h1] at q
    exact q
end
/-- the goal that the head leaves, from what the defs mean -/
theorem law_end {l : PySem.W.OpenLaw} {n k i : Nat} {q : Program} {loose : List Str} {XP : (Str → Option Value) → Heap → Prop} {YP : World → Heap → Prop} {d : DefRec} {K : Params → PySem.W.Frag} {C : World → CA} {gl : List D} {ds : List Dfn}
    (hn : l.most = some n) (hn2 : n ≤ sizeLine) (hdf : d.params.defaults = []) (room : Room k callerA) (hY : ∀ (w : World) (h : Heap), YP w h → (K w.params).In h)
    (F : ∀ (w : World) (mg : Str → Option Value) (fa : Addr) (h : Heap), (K w.params).In h → h.Ns mainGlobals mg → mg d.name = some (.ref fa) →
      ∃ fd : FuncData, (∀ (s : Shared) (u : Value), BindsTo s fd ⟨[u], []⟩ [("script", u)]) ∧ ∀ base : Heap, FnG l.prog w (K w.params) mg base k fa fd ["script"] (spL (K w.params) (C w) (run gl ds k i)))
    (goal : ∀ ns : List Int, ns.length ≤ n → run gl ds k i [.fl (ns.map .int)] (fun _ => none) (fun d _ => d = .bl true) fun _ _ => False) : PySem.W.WalkO q loose XP YP l.row.toRowW d [] (fun f vs => PySem.call f vs) := by
  refine Att.attach_call hn hdf fun w s₀ s₁ mg mb fa o pm cd doc a vs ns G Y ho hd hcd hmg hobj hints hlen hg => ?_
  obtain ⟨fd, hb, hF⟩ := F w mg fa _ (hY w _ Y) G.T.g hmg
  exact top_call (hY w _ Y) G.T.g G.T.b G.T.builtins G.T.nolimit hg hobj hints (Nat.le_trans hlen hn2) room (fun base _ _ => hF base) hb (goal ns hlen)
end DL

/-! DL, part U: words for the plain side -/
namespace DL
open PySem L2

theorem up_at {h : DH} {p : Addr} {o : DO} : up h p o p = some o := up_same
theorem up_off {h : DH} {p q : Addr} {o : DO} (n : q ≠ p) : up h p o q = h q := up_ne n
/-- all that stood stands -/
def Ext (h h' : DH) : Prop := ∀ a o, h a = some o → h' a = some o
/-- all but p that stood stands -/
def Ex1 (p : Addr) (h h' : DH) : Prop := ∀ a o, a ≠ p → h a = some o → h' a = some o
theorem Ext.refl {h : DH} : Ext h h := fun _ _ e => e
theorem Ext.trans {h h1 h2 : DH} (a : Ext h h1) (b : Ext h1 h2) : Ext h h2 := fun x o e => b x o (a x o e)
theorem Ext.new {h : DH} {p : Addr} {o : DO} (n : h p = none) : Ext h (up h p o) := fun a u e => by
  have : a ≠ p := fun z => by subst z; rw [n] at e; cases e
  rw [up_off this]; exact e
theorem Ext.ex1 {p : Addr} {h h' : DH} (a : Ext h h') : Ex1 p h h' := fun x o _ e => a x o e
theorem Ex1.refl {p : Addr} {h : DH} : Ex1 p h h := fun _ _ _ e => e
theorem Ex1.trans {p : Addr} {h h1 h2 : DH} (a : Ex1 p h h1) (b : Ex1 p h1 h2) : Ex1 p h h2 := fun x o n e => b x o n (a x o n e)
theorem Ex1.put {p : Addr} {h : DH} {o : DO} : Ex1 p h (up h p o) := fun a u n e => by rw [up_off n]; exact e
/-- what is new is none of those that stood -/
theorem Ext.isnew {h : DH} {p a : Addr} {o : DO} (n : h p = none) (e : h a = some o) : a ≠ p := fun z => by subst z; rw [n] at e; cases e

/-! ### meaning, step by step -/
section
variable {gl : List D} {F : Fns} {rt : QD} {ex : SXD} {s : DSt} {h : DH} {nx : DSt → DH → Prop} {cs a b : CSs} {c : CS} {e o k t x y : CE} {i : Nat} {E : XD} {Q : QD}
theorem ss_nil : wSs gl F rt ex .nil s h nx = nx s h := by simp only [wSs]
theorem ss_cons : wSs gl F rt ex (.cons c cs) s h nx = wS gl F rt ex c s h fun s1 h1 => wSs gl F rt ex cs s1 h1 nx := by simp only [wSs]
theorem s_ife : wS gl F rt ex (.ife t a b) s h nx = wE gl F t s h (asB fun k h1 => if k = true then wSs gl F rt ex a s h1 nx else wSs gl F rt ex b s h1 nx) fun x h' => ex x s h' := by simp only [wS]
end
/-! ### the meaning, case by case -/
def wV (o : Option (Option D)) (h : DH) (Q : QD) : Prop := match o with
  | some (some d) => Q d h
  | _ => False
def wG (o : Option D) (h : DH) (Q : QD) : Prop := match o with
  | some d => Q d h
  | _ => False
theorem wV_some {d : D} {h : DH} {Q : QD} : wV (some (some d)) h Q = Q d h := by rw [wV]
theorem wG_some {d : D} {h : DH} {Q : QD} : wG (some d) h Q = Q d h := by rw [wG]
section
variable {gl : List D} {F : Fns} {s : DSt} {h : DH} {Q : QD} {E : XD}
theorem e_var {i : Nat} : wE gl F (.var i) s h Q E = wV s[i]? h Q := by rw [wE]; rfl
theorem e_non  : wE gl F (.non) s h Q E = (fun _ h Q _ => Q .non h) s h Q E := by rw [wE]
theorem e_bl {b : Bool} : wE gl F (.bl b) s h Q E = (fun _ h Q _ => Q (.bl b) h) s h Q E := by rw [wE]
theorem e_int {i : Int} : wE gl F (.int i) s h Q E = (fun _ h Q _ => Q (.int i) h) s h Q E := by rw [wE]
theorem e_str {x : Str} : wE gl F (.str x) s h Q E = (fun _ h Q _ => Q (.str x) h) s h Q E := by rw [wE]
theorem e_glb {i : Nat} : wE gl F (.glb i) s h Q E = (fun _ h Q _ => wG gl[i]? h Q) s h Q E := by rw [wE]; first | rfl | (cases gl[i]? <;> rfl)
theorem e_bin {op : Operator} {a b : CE} : wE gl F (.bin op a b) s h Q E = (fun s h Q E => wE gl F a s h (fun x h1 => wE gl F b s h1 (fun y h2 => wBin op x y h2 Q) E) E) s h Q E := by rw [wE]
theorem e_neg {a : CE} : wE gl F (.neg a) s h Q E = (fun s h Q E => wE gl F a s h (fun x h1 => wNeg x h1 Q) E) s h Q E := by rw [wE]
theorem e_no {a : CE} : wE gl F (.no a) s h Q E = (fun s h Q E => wE gl F a s h (asB fun b h1 => Q (.bl (!b)) h1) E) s h Q E := by rw [wE]
theorem e_and {a b : CE} : wE gl F (.and a b) s h Q E = (fun s h Q E => wE gl F a s h (asB fun c h1 => if c = true then wE gl F b s h1 (asB fun c' h2 => Q (.bl c') h2) E else Q (.bl false) h1) E) s h Q E := by rw [wE]
theorem e_or {a b : CE} : wE gl F (.or a b) s h Q E = (fun s h Q E => wE gl F a s h (asB fun c h1 => if c = true then Q (.bl true) h1 else wE gl F b s h1 (asB fun c' h2 => Q (.bl c') h2) E) E) s h Q E := by rw [wE]
theorem e_cmp {op : CmpOp} {a b : CE} : wE gl F (.cmp op a b) s h Q E = (fun s h Q E => wE gl F a s h (fun x h1 => wE gl F b s h1 (fun y h2 => wCmp op x y h2 Q) E) E) s h Q E := by rw [wE]
theorem e_chn {op op' : CmpOp} {a b c : CE} : wE gl F (.chn op op' a b c) s h Q E = (fun s h Q E => wE gl F a s h (fun x h1 => wE gl F b s h1 (fun y h2 => wCmp op x y h2 (asB fun k h3 => if k = true then wE gl F c s h3 (fun z h4 => wCmp op' y z h4 Q) E else Q (.bl false) h3)) E) E) s h Q E := by rw [wE]
theorem e_ife {t a b : CE} : wE gl F (.ife t a b) s h Q E = (fun s h Q E => wE gl F t s h (asB fun c h1 => if c = true then wE gl F a s h1 Q E else wE gl F b s h1 Q E) E) s h Q E := by rw [wE]
theorem e_tup {es : CEs} : wE gl F (.tup es) s h Q E = (fun s h Q E => wEs gl F es s h (fun ds h1 => ds.length ≤ 16777216 ∧ Q (.tup ds) h1) E) s h Q E := by rw [wE]
theorem e_lst {es : CEs} : wE gl F (.lst es) s h Q E = (fun s h Q E => wEs gl F es s h (fun ds h1 => ds.length ≤ 16777216 ∧ ∀ p, h1 p = none → Q (.ref p) (up h1 p (.lst ds))) E) s h Q E := by rw [wE]
theorem e_dnew  : wE gl F (.dnew) s h Q E = (fun _ h Q _ => (∀ p, h p = none → Q (.ref p) (up h p (.dK []))) ∨ (∀ p, h p = none → Q (.ref p) (up h p (.dT [])))) s h Q E := by rw [wE]
theorem e_idx {a i : CE} : wE gl F (.idx a i) s h Q E = (fun s h Q E => wE gl F a s h (fun x h1 => wE gl F i s h1 (fun y h2 => wIdx x y h2 Q) E) E) s h Q E := by rw [wE]
theorem e_slc {a : CE} {lo hi : CO} : wE gl F (.slc a lo hi) s h Q E = (fun s h Q E => wE gl F a s h (fun x h1 => wO gl F lo s h1 (fun l h2 => wO gl F hi s h2 (fun u h3 => wSlc x l u h3 Q) E) E) E) s h Q E := by rw [wE]
theorem e_call {f : Nat} {es : CEs} : wE gl F (.call f es) s h Q E = (fun s h Q E => wEs gl F es s h (fun ds h1 => F f ds h1 Q E) E) s h Q E := by rw [wE]
theorem e_blt {f : Blt} {es : CEs} : wE gl F (.blt f es) s h Q E = (fun s h Q E => wEs gl F es s h (fun ds h1 => wB f ds h1 Q) E) s h Q E := by rw [wE]
theorem e_mtd {m : Mtd} {o : CE} {es : CEs} : wE gl F (.mtd m o es) s h Q E = (fun s h Q E => wE gl F o s h (fun x h1 => tyD m.ty x h1 ∧ wEs gl F es s h1 (fun ds h2 => wM m x ds h2 Q) E) E) s h Q E := by rw [wE]
theorem e_isi {a : CE} {T : String} : wE gl F (.isi a T) s h Q E = (fun s h Q E => wE gl F a s h (fun x h1 => wIsi T x h1 Q) E) s h Q E := by rw [wE]
theorem e_dis {ks : List Key} {es : CEs} : wE gl F (.dis ks es) s h Q E = ∀ p, h p = none → wEs gl F es s (up h p (.dK [])) (fun ds h2 => h2 p = some (.dK []) ∧ Q (.ref p) (up h2 p (.dK (dputs ks ds)))) E := by rw [wE]
theorem e_mnd {a d : CE} : wE gl F (.mnd a d) s h Q E = wE gl F a s h (fun x h1 => wE gl F d s h1 (fun y h2 => wMnd x y h2 Q) E) E := by rw [wE]
theorem e_lrg {a b : CE} : wE gl F (.lrg a b) s h Q E = wE gl F a s h (fun x h1 => wE gl F b s h1 (fun y h2 => wLrg x y h2 Q) E) E := by rw [wE]
theorem e_rev {a : CE} : wE gl F (.rev a) s h Q E = wE gl F a s h (fun x h1 => wRev x h1 Q) E := by rw [wE]
theorem e_comp {own : List (Str × Nat)} {t : CT} {it : CI} {test : CO} {e : CE} : wE gl F (.comp own t it test e) s h Q E = (fun s h Q E => wI gl F it s h (fun J h1 => wComp J (fun d h2 R => wTg t d (wipeD s (own.map (·.2))) h2 fun s2 h3 => wT gl F test s2 h3 fun b h4 => R b s2 h4) (fun s2 h2 R => wE gl F e s2 h2 R fun _ _ => False) h1 Q) E) s h Q E := by rw [wE]
end
theorem asB_bl {Q : Bool → DH → Prop} {b : Bool} {h : DH} : asB Q (.bl b) h = Q b h := by rw [asB]
theorem dec_ite {p : Prop} [Decidable p] {A B : Prop} (h1 : p → A) (h2 : ¬ p → B) : if decide p = true then A else B := by
  by_cases h : p
  · rw [decide_eq_true h, if_pos rfl]; exact h1 h
  · rw [decide_eq_false h, if_neg Bool.false_ne_true]; exact h2 h

theorem ixN_eq {n : Nat} {i : Int} : ixN n i = if 0 ≤ i then (if i < n then some i.toNat else none) else if -(n : Int) ≤ i then some (i + n).toNat else none := rfl
section
variable {x y z u v w : D} {xs : List D} {h : DH} {Q : QD}
theorem wAt_0 : wAt (x :: xs) (.int 0) h Q = Q x h := by
  simp [wAt, L2.atI, ixN_eq]
theorem wAt_1 : wAt (x :: y :: xs) (.int 1) h Q = Q y h := by
  have : (1 : Int) < ((xs.length + 1 + 1 : Nat) : Int) := by omega
  simp [wAt, L2.atI, ixN_eq]
  rw [if_pos (by omega)]
  rfl
theorem wAt_2 : wAt (x :: y :: z :: xs) (.int 2) h Q = Q z h := by
  simp [wAt, L2.atI, ixN_eq]
  rw [if_pos (by omega)]
  rfl
theorem wAt_3 : wAt (x :: y :: z :: u :: xs) (.int 3) h Q = Q u h := by
  simp [wAt, L2.atI, ixN_eq]
  rw [if_pos (by omega)]
  rfl
theorem ix30 : ixN 3 0 = some 0 := rfl
theorem ix31 : ixN 3 1 = some 1 := rfl
theorem ix32 : ixN 3 2 = some 2 := rfl
end
theorem ndec_ite {p : Prop} [Decidable p] {A B : Prop} (h1 : ¬ p → A) (h2 : p → B) : if (!decide p) = true then A else B := by
  by_cases h : p
  · rw [decide_eq_true h]; exact h2 h
  · rw [decide_eq_false h]; exact h1 h
theorem wIsi_eq {x : D} {h : DH} {Q : QD} {t T : String} (e : tyOf x h = some t) : wIsi T x h Q = Q (.bl (isTy t T)) h := by
  unfold wIsi
  simp only [e]
/-- a def's rest -/
abbrev go (gl : List D) (ds : List Dfn) (n : Nat) (Q : QD) (E : XD) (b : CSs) (s : DSt) (h : DH) : Prop := wSs gl (run gl ds n) Q (fun x _ h' => E x h') b s h fun _ h' => Q .non h'
/-! ### ints in lists -/
theorem iL_get {xs : List Int} {j : Nat} : (iL xs)[j]? = (xs[j]?).map D.int := by unfold iL; rw [List.getElem?_map]
theorem iL_len {xs : List Int} : (iL xs).length = xs.length := by unfold iL; rw [List.length_map]
theorem iL_nil : iL [] = [] := rfl
theorem iL_cons {x : Int} {xs : List Int} : iL (x :: xs) = .int x :: iL xs := rfl
theorem iL_app {xs ys : List Int} : iL (xs ++ ys) = iL xs ++ iL ys := by unfold iL; rw [List.map_append]
theorem ix_nat {n j : Nat} (h : j < n) : ixN n (j : Int) = some j := by
  unfold L2.ixN
  rw [if_pos (by omega), if_pos (by omega), Int.toNat_natCast]
theorem ix_int {n : Nat} {i : Int} (h0 : 0 ≤ i) (h : i < n) : ixN n i = some i.toNat := by
  unfold L2.ixN
  rw [if_pos h0, if_pos h]
theorem ix_neg {n : Nat} {i : Int} (h0 : i < 0) (h : -(n : Int) ≤ i) : ixN n i = some (i + n).toNat := by
  unfold L2.ixN
  rw [if_neg (by omega), if_pos h]
theorem wAt_iL {xs : List Int} {i : Int} {h : DH} {Q : QD} (h0 : 0 ≤ i) (hl : i < xs.length) (q : ∀ v, v ∈ xs → xs[i.toNat]? = some v → Q (.int v) h) : wAt (iL xs) (.int i) h Q := by
  unfold wAt
  have hi : i.toNat < xs.length := by omega
  have e : atI (iL xs) i = some (.int xs[i.toNat]) := by
    unfold L2.atI
    rw [iL_len, ix_int h0 hl]
    show (iL xs)[i.toNat]? = _
    rw [iL_get, List.getElem?_eq_getElem hi]
    rfl
  simp only [e]
  exact q _ (List.getElem_mem hi) (List.getElem?_eq_getElem hi)
theorem wAt_at {xs : List D} {i : Int} {h : DH} {Q : QD} (h0 : 0 ≤ i) (hl : i < xs.length) (q : ∀ v, v ∈ xs → xs[i.toNat]? = some v → Q v h) : wAt xs (.int i) h Q := by
  unfold wAt
  have hi : i.toNat < xs.length := by omega
  have e : atI xs i = some xs[i.toNat] := by
    unfold L2.atI
    rw [ix_int h0 hl]
    show xs[i.toNat]? = _
    rw [List.getElem?_eq_getElem hi]
  simp only [e]
  exact q _ (List.getElem_mem hi) (List.getElem?_eq_getElem hi)
/-- equality of lists of ints -/
theorem eqv_ints : ∀ xs ys : List Int, PyData.eqvAll (xs.map .int) (ys.map .int) = decide (xs = ys)
  | [], [] => rfl
  | [], y :: ys => by simp [PyData.eqvAll]
  | x :: xs, [] => by simp [PyData.eqvAll]
  | x :: xs, y :: ys => by
    rw [List.map_cons, List.map_cons, PyData.eqvAll, eqv_ints xs ys, PyData.eqv]
    by_cases h : x = y
    · simp [h]
    · simp [h]
theorem dpys_ints {h : DH} : ∀ xs : List Int, DPys h (iL xs) (xs.map .int)
  | [] => .nil
  | x :: xs => .cons (.int x) (dpys_ints xs)
theorem lay_ints : ∀ xs : List Int, PyData.canLayAll0 (xs.map .int) = true
  | [] => rfl
  | x :: xs => by rw [List.map_cons, PyData.canLayAll0, lay_ints xs, PyData.canLay0]; rfl
theorem depth_ints : ∀ xs : List Int, PyData.depthAll (xs.map .int) ≤ 1
  | [] => by simp [PyData.depthAll]
  | x :: xs => by
    have := depth_ints xs
    rw [List.map_cons, PyData.depthAll, PyData.depth]
    omega
theorem shaped_ints (xs : List Int) : SeqAt.shaped (.list (xs.map .int)) = true := by
  unfold SeqAt.shaped
  rw [PyData.canLay0, lay_ints, Bool.true_and, decide_eq_true_eq, PyData.depth]
  have := depth_ints xs
  omega
theorem wEq_ints {neg : Bool} {a b : Addr} {xs ys : List Int} {h : DH} {Q : QD} (ha : h a = some (.lst (iL xs))) (hb : h b = some (.lst (iL ys))) (q : Q (.bl (neg ^^ decide (xs = ys))) h) : wEq neg (.ref a) (.ref b) h Q := by
  show wEqG neg _ _ h Q
  refine ⟨.list (xs.map .int), .list (ys.map .int), .lst ha (dpys_ints xs), .lst hb (dpys_ints ys), shaped_ints xs, shaped_ints ys, ?_⟩
  rw [PyData.eqv, eqv_ints]
  exact q

/-! ### loops -/
section
variable {tg : D → DSt → DH → (DSt → DH → Prop) → Prop} {body : DSt → DH → (DSt → DH → Prop) → Prop} {s : DSt} {h : DH} {nx : DSt → DH → Prop}
theorem loop_rng {lo : Int} {n : Nat} (P : Nat → DSt → DH → Prop) (h0 : P 0 s h) (step : ∀ i s h, i < n → P i s h → tg (.int (lo + i)) s h fun s2 h2 => body s2 h2 (P (i + 1))) (fin : ∀ s h, P n s h → nx s h) : wLoop (.rng lo n) tg body s h nx := by
  refine ⟨fun i m s h => i ≤ n ∧ m = n - i ∧ P i s h, ⟨n, Nat.zero_le _, rfl, h0⟩, fun i m s h ⟨hi, hm, p⟩ => ?_⟩
  by_cases q : i < n
  · simp only [nextD, if_pos q]
    exact ⟨P (i + 1), fun s' h' p' => ⟨n - (i + 1), by omega, by omega, rfl, p'⟩, step i s h q p⟩
  · simp only [nextD, if_neg q]
    have : i = n := by omega
    subst this
    exact fin _ _ p
theorem loop_fix {xs : List D} (P : Nat → DSt → DH → Prop) (h0 : P 0 s h) (step : ∀ i d s h, xs[i]? = some d → P i s h → tg d s h fun s2 h2 => body s2 h2 (P (i + 1))) (fin : ∀ s h, P xs.length s h → nx s h) : wLoop (.fix xs) tg body s h nx := by
  refine ⟨fun i m s h => i ≤ xs.length ∧ m = xs.length - i ∧ P i s h, ⟨xs.length, Nat.zero_le _, rfl, h0⟩, fun i m s h ⟨hi, hm, p⟩ => ?_⟩
  by_cases q : i < xs.length
  · simp only [nextD, List.getElem?_eq_getElem q]
    exact ⟨P (i + 1), fun s' h' p' => ⟨xs.length - (i + 1), by omega, by omega, rfl, p'⟩, step i _ s h (List.getElem?_eq_getElem q) p⟩
  · simp only [nextD, List.getElem?_eq_none (Nat.le_of_not_lt q)]
    have : i = xs.length := by omega
    subst this
    exact fin _ _ p
theorem loop_lst {a : Addr} {xs : List D} (P : Nat → DSt → DH → Prop) (h0 : P 0 s h) (ha : ∀ i s h, P i s h → h a = some (.lst xs)) (step : ∀ i d s h, xs[i]? = some d → P i s h → tg d s h fun s2 h2 => body s2 h2 (P (i + 1))) (fin : ∀ s h, P xs.length s h → nx s h) : wLoop (.lst a) tg body s h nx := by
  refine ⟨fun i m s h => i ≤ xs.length ∧ m = xs.length - i ∧ P i s h, ⟨xs.length, Nat.zero_le _, rfl, h0⟩, fun i m s h ⟨hi, hm, p⟩ => ?_⟩
  have hx := ha i s h p
  by_cases q : i < xs.length
  · simp only [nextD, hx, List.getElem?_eq_getElem q]
    exact ⟨P (i + 1), fun s' h' p' => ⟨xs.length - (i + 1), by omega, by omega, rfl, p'⟩, step i _ s h (List.getElem?_eq_getElem q) p⟩
  · simp only [nextD, hx, List.getElem?_eq_none (Nat.le_of_not_lt q)]
    have : i = xs.length := by omega
    subst this
    exact fin _ _ p
end
section
variable {turn : D → DH → (Bool → DSt → DH → Prop) → Prop} {elt : DSt → DH → QD → Prop} {h : DH} {Q : QD}
theorem comp_rng {lo : Int} {n : Nat} (P : Nat → DH → List D → Prop) (h0 : P 0 h [])
    (step : ∀ i h acc, i < n → P i h acc → turn (.int (lo + i)) h fun b s2 h2 => if b = true then elt s2 h2 fun y h3 => acc.length < 16777216 ∧ P (i + 1) h3 (acc ++ [y]) else P (i + 1) h2 acc) (fin : ∀ h acc p, P n h acc → h p = none → Q (.ref p) (up h p (.lst acc))) : wComp (.rng lo n) turn elt h Q := by
  refine ⟨fun i m h acc => i ≤ n ∧ m = n - i ∧ P i h acc, ⟨n, Nat.zero_le _, rfl, h0⟩, fun i m h acc ⟨hi, hm, p⟩ => ?_⟩
  by_cases q : i < n
  · simp only [nextD, if_pos q]
    exact ⟨P (i + 1), fun s' h' p' => ⟨n - (i + 1), by omega, by omega, rfl, p'⟩, step i h acc q p⟩
  · simp only [nextD, if_neg q]
    have : i = n := by omega
    subst this
    exact fun p' hp => fin _ _ p' p hp
theorem comp_fix {xs : List D} (P : Nat → DH → List D → Prop) (h0 : P 0 h [])
    (step : ∀ i d h acc, xs[i]? = some d → P i h acc → turn d h fun b s2 h2 => if b = true then elt s2 h2 fun y h3 => acc.length < 16777216 ∧ P (i + 1) h3 (acc ++ [y]) else P (i + 1) h2 acc) (fin : ∀ h acc p, P xs.length h acc → h p = none → Q (.ref p) (up h p (.lst acc))) : wComp (.fix xs) turn elt h Q := by
  refine ⟨fun i m h acc => i ≤ xs.length ∧ m = xs.length - i ∧ P i h acc, ⟨xs.length, Nat.zero_le _, rfl, h0⟩, fun i m h acc ⟨hi, hm, p⟩ => ?_⟩
  by_cases q : i < xs.length
  · simp only [nextD, List.getElem?_eq_getElem q]
    exact ⟨P (i + 1), fun s' h' p' => ⟨xs.length - (i + 1), by omega, by omega, rfl, p'⟩, step i _ h acc (List.getElem?_eq_getElem q) p⟩
  · simp only [nextD, List.getElem?_eq_none (Nat.le_of_not_lt q)]
    have : i = xs.length := by omega
    subst this
    exact fun p' hp => fin _ _ p' p hp
theorem comp_lst {a : Addr} {xs : List D} (P : Nat → DH → List D → Prop) (h0 : P 0 h []) (ha : ∀ i h acc, P i h acc → h a = some (.lst xs))
    (step : ∀ i d h acc, xs[i]? = some d → P i h acc → turn d h fun b s2 h2 => if b = true then elt s2 h2 fun y h3 => acc.length < 16777216 ∧ P (i + 1) h3 (acc ++ [y]) else P (i + 1) h2 acc) (fin : ∀ h acc p, P xs.length h acc → h p = none → Q (.ref p) (up h p (.lst acc))) : wComp (.lst a) turn elt h Q := by
  refine ⟨fun i m h acc => i ≤ xs.length ∧ m = xs.length - i ∧ P i h acc, ⟨xs.length, Nat.zero_le _, rfl, h0⟩, fun i m h acc ⟨hi, hm, p⟩ => ?_⟩
  have hx := ha i h acc p
  by_cases q : i < xs.length
  · simp only [nextD, hx, List.getElem?_eq_getElem q]
    exact ⟨P (i + 1), fun s' h' p' => ⟨xs.length - (i + 1), by omega, by omega, rfl, p'⟩, step i _ h acc (List.getElem?_eq_getElem q) p⟩
  · simp only [nextD, hx, List.getElem?_eq_none (Nat.le_of_not_lt q)]
    have : i = xs.length := by omega
    subst this
    exact fun p' hp => fin _ _ p' p hp
end
end DL

/-! DL, part V: pairs of ints, lists of such lists -/
namespace DL
open PySem L2

theorem Ext.fresh {h0 h : DH} {p : Addr} {o : DO} (x : Ext h0 h) (n : h0 p = none) : Ext h0 (up h p o) := fun a u e => by
  have : a ≠ p := fun z => by subst z; rw [n] at e; cases e
  rw [up_off this]; exact x a u e
theorem Ext.free {h0 h : DH} {p : Addr} (x : Ext h0 h) (n : h p = none) : h0 p = none := by
  cases e : h0 p with
  | none => rfl
  | some o => rw [x p o e] at n; cases n
theorem Ex1.fresh {p : Addr} {h0 h : DH} {r : Addr} {o : DO} (x : Ex1 p h0 h) (n : h0 r = none) : Ex1 p h0 (up h r o) := fun a u na e => by
  have : a ≠ r := fun z => by subst z; rw [n] at e; cases e
  rw [up_off this]; exact x a u na e
theorem Ex1.free {p : Addr} {h0 h : DH} {r : Addr} (x : Ex1 p h0 h) (n : h r = none) (np : r ≠ p) : h0 r = none := by
  cases e : h0 r with
  | none => rfl
  | some o => rw [x r o np e] at n; cases n
theorem wIn_ints {neg : Bool} {a : Addr} {fs : List Int} {x : Int} {h : DH} {Q : QD} (e : h a = some (.lst (iL fs))) (q : Q (.bl (neg ^^ (fs.map PyData.int).any fun z => PyData.eqv z (.int x))) h) : wIn neg (.int x) (.ref a) h Q := by
  unfold wIn
  simp only [e]
  refine ⟨.int x, fs.map .int, .int x, .lst e (dpys_ints fs), ?_, shaped_ints fs, q⟩
  unfold SeqAt.shaped
  rw [PyData.canLay0, PyData.depth]
  rfl
/-- what is a list of ints at one place -/
theorem iL_mem {fs : List Int} {j : Nat} {d : D} (e : (iL fs)[j]? = some d) : ∃ x, fs[j]? = some x ∧ d = .int x := by
  rw [iL_get] at e
  cases q : fs[j]? with
  | none => rw [q] at e; cases e
  | some x => rw [q] at e; exact ⟨x, rfl, (Option.some.inj e).symm⟩
theorem wEqG_same {neg : Bool} {x y : D} {d : PyData} {h : DH} {Q : QD} (a : DPy h x d) (b : DPy h y d) (s : SeqAt.shaped d = true) (q : Q (.bl (neg ^^ true)) h) : wEqG neg x y h Q := by
  refine ⟨d, d, a, b, s, s, ?_⟩
  have e := SeqAt.eqv_refl d (SeqAt.canLay_of_shaped s)
  rw [e]
  exact q
abbrev IP := Int × Int
def ipD (p : IP) : D := .tup [.int p.1, .int p.2]
def ipP (p : IP) : PyData := .tuple [.int p.1, .int p.2]
def pL (ps : List IP) : List D := ps.map ipD
theorem pL_len {ps : List IP} : (pL ps).length = ps.length := by unfold pL; rw [List.length_map]
theorem pL_app {ps qs : List IP} : pL (ps ++ qs) = pL ps ++ pL qs := by unfold pL; rw [List.map_append]
theorem pL_get {ps : List IP} {j : Nat} : (pL ps)[j]? = (ps[j]?).map ipD := by unfold pL; rw [List.getElem?_map]
theorem pL_nil : pL [] = [] := rfl
theorem pL_one {x y : Int} : pL [(x, y)] = [.tup [.int x, .int y]] := rfl
theorem eqv_pr (p q : IP) : PyData.eqv (ipP p) (ipP q) = decide (p = q) := by
  obtain ⟨a, b⟩ := p
  obtain ⟨c, d⟩ := q
  simp only [ipP, PyData.eqv, PyData.eqvAll]
  by_cases h : a = c <;> by_cases h' : b = d <;> simp [h, h']
theorem eqv_prs : ∀ xs ys : List IP, PyData.eqvAll (xs.map ipP) (ys.map ipP) = decide (xs = ys)
  | [], [] => rfl
  | [], y :: ys => by simp [PyData.eqvAll]
  | x :: xs, [] => by simp [PyData.eqvAll]
  | x :: xs, y :: ys => by
    rw [List.map_cons, List.map_cons, PyData.eqvAll, eqv_prs xs ys, eqv_pr]
    by_cases h : x = y
    · simp [h]
    · simp [h]
theorem dpys_prs {h : DH} : ∀ xs : List IP, DPys h (pL xs) (xs.map ipP)
  | [] => .nil
  | x :: xs => .cons (.tup (.cons (.int _) (.cons (.int _) .nil))) (dpys_prs xs)
theorem lay_prs : ∀ xs : List IP, PyData.canLayAll0 (xs.map ipP) = true
  | [] => rfl
  | x :: xs => by rw [List.map_cons, PyData.canLayAll0, lay_prs xs]; rfl
theorem depth_prs : ∀ xs : List IP, PyData.depthAll (xs.map ipP) ≤ 4
  | [] => by simp [PyData.depthAll]
  | x :: xs => by
    have := depth_prs xs
    have e : (ipP x).depth ≤ 4 := by
      simp only [ipP, PyData.depth, PyData.depthAll]
      omega
    rw [List.map_cons, PyData.depthAll]
    omega
theorem shaped_prs (xs : List IP) : SeqAt.shaped (.list (xs.map ipP)) = true := by
  unfold SeqAt.shaped
  rw [PyData.canLay0, lay_prs, Bool.true_and, decide_eq_true_eq, PyData.depth]
  have := depth_prs xs
  omega
theorem pL_mem {ps : List IP} {j : Nat} {d : D} (e : (pL ps)[j]? = some d) : ∃ x, ps[j]? = some x ∧ d = ipD x := by
  rw [pL_get] at e
  cases q : ps[j]? with
  | none => rw [q] at e; cases e
  | some x => rw [q] at e; exact ⟨x, rfl, (Option.some.inj e).symm⟩
theorem wEq_prs {neg : Bool} {a b : Addr} {xs ys : List IP} {h : DH} {Q : QD} (ha : h a = some (.lst (pL xs))) (hb : h b = some (.lst (pL ys))) (q : Q (.bl (neg ^^ decide (xs = ys))) h) : wEq neg (.ref a) (.ref b) h Q := by
  show wEqG neg _ _ h Q
  refine ⟨.list (xs.map ipP), .list (ys.map ipP), .lst ha (dpys_prs xs), .lst hb (dpys_prs ys), shaped_prs xs, shaped_prs ys, ?_⟩
  rw [PyData.eqv, eqv_prs]
  exact q

/-! ### sorted pairs -/
def le2 (a b : IP) : Prop := a.1 < b.1 ∨ (a.1 = b.1 ∧ a.2 ≤ b.2)
def fstD : D → Int
  | .tup [.int a, .int _] => a
  | _ => 0
def sndD : D → Int
  | .tup [.int _, .int b] => b
  | _ => 0
theorem ipD_back {d : D} {ps : List IP} (h : d ∈ pL ps) : ipD (fstD d, sndD d) = d := by
  obtain ⟨p, _, rfl⟩ := List.mem_map.mp h
  rfl
theorem wSorted_prs {S : Addr} {ps : List IP} {h : DH} {Q : QD} (e : h S = some (.lst (pL ps))) (hn : ps.length ≤ 16777216) (q : ∀ p qs, h p = none → qs.Perm ps → qs.Pairwise le2 → Q (.ref p) (up h p (.lst (pL qs)))) : wSorted (.ref S) h Q := by
  unfold wSorted
  simp only [lstOf, e]
  refine ⟨fun d => .tuple [.int (fstD d), .int (sndD d)], fun d hd => ?_, PySem.W.AllAlike.of fun b b' => rfl, PySem.W.Sortable.tuples fun b => ⟨_, _, rfl⟩, fun d hd => ?_, by rw [pL_len]; exact hn, fun p hp => ?_⟩
  · have := ipD_back hd
    rw [← this]
    exact .tup (.cons (.int _) (.cons (.int _) .nil))
  · simp only [PyData.depth, PyData.depthAll]
    omega
  · have hle := PySem.W.dataLe_ii fstD sndD
    rw [hle]
    let le : D → D → Bool := fun p q => decide (fstD p < fstD q ∨ (fstD p = fstD q ∧ sndD p ≤ sndD q))
    have perm : ((pL ps).mergeSort le).Perm (pL ps) := List.mergeSort_perm _ _
    have srt := List.pairwise_mergeSort (le := le) (by intro a b c; simp [le]; omega) (by intro a b; simp [le]; omega) (pL ps)
    have key : pL (((pL ps).mergeSort le).map fun d => (fstD d, sndD d)) = (pL ps).mergeSort le := by
      unfold pL
      rw [List.map_map]
      refine (List.map_congr_left fun d hd => ?_).trans (List.map_id _)
      exact ipD_back (perm.mem_iff.mp hd)
    have g := q p (((pL ps).mergeSort le).map fun d => (fstD d, sndD d)) hp ?_ ?_
    · rw [key] at g
      exact g
    · have := perm.map fun d => (fstD d, sndD d)
      refine this.trans ?_
      unfold pL
      rw [List.map_map]
      have : (List.map ((fun d => (fstD d, sndD d)) ∘ ipD) ps) = ps := (List.map_congr_left fun _ _ => rfl).trans (List.map_id _)
      rw [this]
    · rw [List.pairwise_map]
      refine srt.imp fun {a b} z => ?_
      simpa [le, le2] using z

/-! ### what is walked, said by a list -/
section
variable {J : DIt} {xs : List D} {turn : D → DH → (Bool → DSt → DH → Prop) → Prop} {elt : DSt → DH → QD → Prop} {h : DH} {Q : QD}
theorem comp_gen (P : Nat → DH → List D → Prop) (h0 : P 0 h []) (hx : ∀ i h acc, i ≤ xs.length → P i h acc → nextD J i h = some xs[i]?)
    (step : ∀ i d h acc, xs[i]? = some d → P i h acc → turn d h fun b s2 h2 => if b = true then elt s2 h2 fun y h3 => acc.length < 16777216 ∧ P (i + 1) h3 (acc ++ [y]) else P (i + 1) h2 acc) (fin : ∀ h acc p, P xs.length h acc → h p = none → Q (.ref p) (up h p (.lst acc))) : wComp J turn elt h Q := by
  refine ⟨fun i m h acc => i ≤ xs.length ∧ m = xs.length - i ∧ P i h acc, ⟨xs.length, Nat.zero_le _, rfl, h0⟩, fun i m h acc ⟨hi, hm, p⟩ => ?_⟩
  have e := hx i h acc hi p
  by_cases q : i < xs.length
  · simp only [e, List.getElem?_eq_getElem q]
    exact ⟨P (i + 1), fun s' h' p' => ⟨xs.length - (i + 1), by omega, by omega, rfl, p'⟩, step i _ h acc (List.getElem?_eq_getElem q) p⟩
  · simp only [e, List.getElem?_eq_none (Nat.le_of_not_lt q)]
    have : i = xs.length := by omega
    subst this
    exact fun p' hp => fin _ _ p' p hp
end
theorem loop_gen {J : DIt} {xs : List D} {tg : D → DSt → DH → (DSt → DH → Prop) → Prop} {body : DSt → DH → (DSt → DH → Prop) → Prop} {s : DSt} {h : DH} {nx : DSt → DH → Prop} (P : Nat → DSt → DH → Prop) (h0 : P 0 s h) (hx : ∀ i s h, i ≤ xs.length → P i s h → nextD J i h = some xs[i]?)
    (step : ∀ i d s h, xs[i]? = some d → P i s h → tg d s h fun s2 h2 => body s2 h2 (P (i + 1))) (fin : ∀ s h, P xs.length s h → nx s h) : wLoop J tg body s h nx := by
  refine ⟨fun i m s h => i ≤ xs.length ∧ m = xs.length - i ∧ P i s h, ⟨xs.length, Nat.zero_le _, rfl, h0⟩, fun i m s h ⟨hi, hm, p⟩ => ?_⟩
  have e := hx i s h hi p
  by_cases q : i < xs.length
  · simp only [e, List.getElem?_eq_getElem q]
    exact ⟨P (i + 1), fun s' h' p' => ⟨xs.length - (i + 1), by omega, by omega, rfl, p'⟩, step i _ s h (List.getElem?_eq_getElem q) p⟩
  · simp only [e, List.getElem?_eq_none (Nat.le_of_not_lt q)]
    have : i = xs.length := by omega
    subst this
    exact fin _ _ p
/-- a list with its places -/
def enmD (xs : List D) : List D := xs.mapIdx fun i x => .tup [.int i, x]
theorem next_enm {a : Addr} {xs : List D} {i : Nat} {h : DH} (ha : h a = some (.lst xs)) : nextD (.enm (.lst a)) i h = some (enmD xs)[i]? := by
  simp only [nextD, ha, enmD, List.getElem?_mapIdx]
  cases xs[i]? <;> rfl
/-- two lists side by side -/
def zipD (xs ys : List D) : List D := (xs.zip ys).map fun p => .tup [p.1, p.2]
theorem next_zip {a b : Addr} {xs ys : List D} {i : Nat} {h : DH} (ha : h a = some (.lst xs)) (hb : h b = some (.lst ys)) : nextD (.zip (.lst a) (.lst b)) i h = some (zipD xs ys)[i]? := by
  simp only [nextD, ha, hb, zipD, List.getElem?_map]
  by_cases h1 : i < xs.length
  · by_cases h2 : i < ys.length
    · have h3 : i < (xs.zip ys).length := by rw [List.length_zip]; omega
      simp [List.getElem?_eq_getElem h1, List.getElem?_eq_getElem h2, List.getElem?_eq_getElem h3]
    · have h3 : ¬ i < (xs.zip ys).length := by rw [List.length_zip]; omega
      simp [List.getElem?_eq_getElem h1, List.getElem?_eq_none (Nat.le_of_not_lt h2), List.getElem?_eq_none (Nat.le_of_not_lt h3)]
  · have h3 : ¬ i < (xs.zip ys).length := by rw [List.length_zip]; omega
    rw [List.getElem?_eq_none (Nat.le_of_not_lt h1), List.getElem?_eq_none (Nat.le_of_not_lt h3)]
    cases ys[i]? <;> rfl

/-! ### lists of lists of pairs -/
def gP (gs : List (List IP)) : List PyData := gs.map fun g => .list (g.map ipP)
structure Grp (h : DH) (F : Addr) (as : List Addr) (gs : List (List IP)) : Prop where
  top : h F = some (.lst (as.map .ref))
  len : as.length = gs.length
  at' : ∀ (j : Nat) (a : Addr) (g : List IP), as[j]? = some a → gs[j]? = some g → h a = some (.lst (pL g))
  nd : as.Nodup
  nF : F ∉ as
theorem Grp.ext {h h' : DH} {F : Addr} {as : List Addr} {gs : List (List IP)} (G : Grp h F as gs) (x : Ext h h') : Grp h' F as gs :=
  ⟨x _ _ G.top, G.len, fun j a g e1 e2 => x _ _ (G.at' j a g e1 e2), G.nd, G.nF⟩
theorem dpys_gs {h : DH} : ∀ (as : List Addr) (gs : List (List IP)), as.length = gs.length → (∀ (j : Nat) (a : Addr) (g : List IP), as[j]? = some a → gs[j]? = some g → h a = some (.lst (pL g))) → DPys h (as.map .ref) (gP gs)
  | [], [], _, _ => .nil
  | [], g :: gs, e, _ => by cases e
  | a :: as, [], e, _ => by cases e
  | a :: as, g :: gs, e, f => .cons (.lst (f 0 a g rfl rfl) (dpys_prs g)) (dpys_gs as gs (by simpa using e) fun j b c e1 e2 => f (j + 1) b c e1 e2)
theorem lay_gs : ∀ gs : List (List IP), PyData.canLayAll0 (gP gs) = true
  | [] => rfl
  | g :: gs => by
    show PyData.canLayAll0 (.list (g.map ipP) :: gP gs) = true
    rw [PyData.canLayAll0, lay_gs gs, PyData.canLay0, lay_prs]; rfl
theorem depth_gs : ∀ gs : List (List IP), PyData.depthAll (gP gs) ≤ 8
  | [] => by simp [gP, PyData.depthAll]
  | g :: gs => by
    have := depth_gs gs
    have := depth_prs g
    show PyData.depthAll (.list (g.map ipP) :: gP gs) ≤ 8
    rw [PyData.depthAll, PyData.depth]
    omega
theorem shaped_gs (gs : List (List IP)) : SeqAt.shaped (.list (gP gs)) = true := by
  unfold SeqAt.shaped
  rw [PyData.canLay0, lay_gs, Bool.true_and, decide_eq_true_eq, PyData.depth]
  have := depth_gs gs
  omega
theorem eqv_gs : ∀ xs ys : List (List IP), PyData.eqvAll (gP xs) (gP ys) = decide (xs = ys)
  | [], [] => rfl
  | [], y :: ys => by simp [gP, PyData.eqvAll]
  | x :: xs, [] => by simp [gP, PyData.eqvAll]
  | x :: xs, y :: ys => by
    show PyData.eqvAll (.list (x.map ipP) :: gP xs) (.list (y.map ipP) :: gP ys) = _
    rw [PyData.eqvAll, eqv_gs xs ys, PyData.eqv, eqv_prs]
    by_cases h : x = y
    · simp [h]
    · simp [h]
theorem wEq_gs {neg : Bool} {a b : Addr} {as bs : List Addr} {xs ys : List (List IP)} {h : DH} {Q : QD} (ha : Grp h a as xs) (hb : Grp h b bs ys) (q : Q (.bl (neg ^^ decide (xs = ys))) h) : wEq neg (.ref a) (.ref b) h Q := by
  show wEqG neg _ _ h Q
  refine ⟨.list (gP xs), .list (gP ys), .lst ha.top (dpys_gs _ _ ha.len ha.at'), .lst hb.top (dpys_gs _ _ hb.len hb.at'), shaped_gs xs, shaped_gs ys, ?_⟩
  rw [PyData.eqv, eqv_gs]
  exact q
theorem grp_nil {h : DH} {F : Addr} (e : h F = some (.lst [])) : Grp h F [] [] := ⟨e, rfl, fun j a g e => by simp at e, List.nodup_nil, by simp⟩
theorem atI_last {α : Type} {xs : List α} {x : α} : atI (xs ++ [x]) (-1) = some x := by
  unfold L2.atI
  rw [ix_neg (by omega) (by rw [List.length_append, List.length_singleton]; omega)]
  show (xs ++ [x])[_]? = _
  have : ((-1 : Int) + ((xs ++ [x]).length : Int)).toNat = xs.length := by rw [List.length_append, List.length_singleton]; omega
  rw [this]
  simp
theorem wAt_last {xs : List D} {x : D} {h : DH} {Q : QD} : wAt (xs ++ [x]) (.int (-1)) h Q = Q x h := by
  unfold wAt
  simp only [atI_last]
theorem wAt_nat {xs : List D} {x : D} {h : DH} {Q : QD} {i : Int} {j : Nat} (hi : i = j) (e : xs[j]? = some x) : wAt xs (.int i) h Q = Q x h := by
  unfold wAt
  have hl := (List.getElem?_eq_some_iff.mp e).1
  have : atI xs i = some x := by
    unfold L2.atI
    rw [hi, ix_nat hl]
    exact e
  simp only [this]
/-- add to the last group -/
theorem Grp.grow {h : DH} {F a : Addr} {as : List Addr} {gs : List (List IP)} {g : List IP} {s : IP} (G : Grp h F (as ++ [a]) (gs ++ [g])) : Grp (up h a (.lst (pL g ++ [ipD s]))) F (as ++ [a]) (gs ++ [g ++ [s]]) := by
  have l : as.length = gs.length := by have := G.len; simpa using this
  have nFa : F ≠ a := fun z => G.nF (by subst z; simp)
  refine ⟨by rw [up_off nFa]; exact G.top, by simp [l], fun j b c e1 e2 => ?_, G.nd, G.nF⟩
  by_cases hj : j < as.length
  · rw [List.getElem?_append_left hj] at e1
    rw [List.getElem?_append_left (by omega)] at e2
    have nb : b ≠ a := fun z => by
      subst z
      have := G.nd
      rw [List.nodup_append] at this
      exact this.2.2 _ (List.mem_of_getElem? e1) _ (by simp) rfl
    rw [up_off nb]
    exact G.at' j b c (by rw [List.getElem?_append_left hj]; exact e1) (by rw [List.getElem?_append_left (by omega)]; exact e2)
  · rw [List.getElem?_append_right (by omega)] at e1
    rw [List.getElem?_append_right (by omega)] at e2
    have hz : j - as.length = 0 := by
      have := (List.getElem?_eq_some_iff.mp e1).1
      simp at this
      omega
    rw [hz] at e1
    rw [← l, hz] at e2
    have e1 : a = b := by simpa using e1
    have e2 : g ++ [s] = c := by simpa using e2
    subst e1 e2
    rw [up_at, pL_app]
    rfl
/-- a new group -/
theorem Grp.add {h : DH} {F p : Addr} {as : List Addr} {gs : List (List IP)} {g : List IP} {h1 : DH} (G : Grp h F as gs) (n : h p = none) (e : h1 p = some (.lst (pL g))) (x : Ext h h1) : Grp (up h1 F (.lst (as.map .ref ++ [.ref p]))) F (as ++ [p]) (gs ++ [g]) := by
  have l := G.len
  have nFp : p ≠ F := fun z => by subst z; rw [G.top] at n; cases n
  have npa : p ∉ as := fun z => by
    obtain ⟨j, hj, e2⟩ := List.getElem_of_mem z
    have := G.at' j p gs[j] (by rw [List.getElem?_eq_getElem hj, e2]) (List.getElem?_eq_getElem (by omega))
    rw [this] at n; cases n
  have nFa : ∀ b ∈ as, b ≠ F := fun b hb z => G.nF (by subst z; exact hb)
  refine ⟨by rw [up_at, List.map_append]; rfl, by simp [l], fun j b c e1 e2 => ?_, ?_, ?_⟩
  · by_cases hj : j < as.length
    · rw [List.getElem?_append_left hj] at e1
      rw [List.getElem?_append_left (by omega)] at e2
      rw [up_off (nFa b (List.mem_of_getElem? e1))]
      exact x _ _ (G.at' j b c e1 e2)
    · rw [List.getElem?_append_right (by omega)] at e1
      rw [List.getElem?_append_right (by omega)] at e2
      have hz : j - as.length = 0 := by
        have := (List.getElem?_eq_some_iff.mp e1).1
        simp at this
        omega
      rw [hz] at e1
      rw [← l, hz] at e2
      have e1 : p = b := by simpa using e1
      have e2 : g = c := by simpa using e2
      subst e1 e2
      rw [up_off nFp]
      exact e
  · rw [List.nodup_append]
    exact ⟨G.nd, by simp, fun b hb c hc z => by
      have : c = p := by simpa using hc
      subst this z
      exact npa hb⟩
  · intro z
    rcases List.mem_append.mp z with z | z
    · exact G.nF z
    · have z : F = p := by simpa using z
      exact nFp z.symm
end DL

/-! DL, part W: spells of a lot; where a rest is broken -/
namespace DL
open PySem L2

structure OK (g : Int) (gs : List (List IP)) : Prop where
  ne : ∀ A ∈ gs, A ≠ []
  inn : ∀ A ∈ gs, ∀ (k : Nat) (x y : IP), A[k]? = some x → A[k + 1]? = some y → y.1 - x.2 < g
  out : ∀ (j : Nat) (A B : List IP) (x y : IP), gs[j]? = some A → gs[j + 1]? = some B → A.getLast? = some x → B.head? = some y → ¬ (y.1 - x.2 < g)
theorem OK.nil {g : Int} : OK g [] := ⟨by simp, by simp, by simp⟩
theorem OK.tail {g : Int} {A : List IP} {gs : List (List IP)} (o : OK g (A :: gs)) : OK g gs :=
  ⟨fun B hB => o.ne B (List.mem_cons_of_mem _ hB), fun B hB => o.inn B (List.mem_cons_of_mem _ hB), fun j B C x y e1 e2 => o.out (j + 1) B C x y e1 e2⟩
theorem OK.one {g : Int} {s : IP} : OK g [[s]] := by
  refine ⟨by simp, fun A hA k x y e1 e2 => ?_, fun j A B x y e1 e2 => by simp at e2⟩
  have : A = [s] := by simpa using hA
  subst this
  simp at e2
theorem OK.grow {g : Int} {gs : List (List IP)} {A : List IP} {x s : IP} (o : OK g (gs ++ [A ++ [x]])) (l : s.1 - x.2 < g) : OK g (gs ++ [A ++ [x] ++ [s]]) := by
  refine ⟨fun B hB => ?_, fun B hB k u v e1 e2 => ?_, fun j B C u v e1 e2 e3 e4 => ?_⟩
  · rcases List.mem_append.mp hB with z | z
    · exact o.ne B (by simp [z])
    · have : B = A ++ [x] ++ [s] := by simpa using z
      subst this; simp
  · rcases List.mem_append.mp hB with z | z
    · exact o.inn B (by simp [z]) k u v e1 e2
    · have : B = A ++ [x] ++ [s] := by simpa using z
      subst this
      by_cases hk : k + 1 < (A ++ [x]).length
      · rw [List.getElem?_append_left hk] at e2
        rw [List.getElem?_append_left (by omega)] at e1
        exact o.inn (A ++ [x]) (by simp) k u v e1 e2
      · have hk2 : k + 1 = (A ++ [x]).length := by
          have := (List.getElem?_eq_some_iff.mp e2).1
          simp at this hk ⊢
          omega
        rw [hk2] at e2
        have e2 : s = v := by simpa using e2
        have hk3 : k = A.length := by simp at hk2; omega
        subst hk3
        have e1 : x = u := by simpa using e1
        subst e1 e2
        exact l
  · by_cases hj : j + 1 < gs.length
    · rw [List.getElem?_append_left hj] at e2
      rw [List.getElem?_append_left (by omega)] at e1
      exact o.out j B C u v (by rw [List.getElem?_append_left (by omega)]; exact e1) (by rw [List.getElem?_append_left hj]; exact e2) e3 e4
    · have hj2 : j + 1 = gs.length := by
        have := (List.getElem?_eq_some_iff.mp e2).1
        simp at this hj ⊢
        omega
      have hj3 : (gs ++ [A ++ [x]])[j + 1]? = some (A ++ [x]) := by rw [hj2]; simp
      rw [hj2] at e2
      have e2 : A ++ [x] ++ [s] = C := by simpa using e2
      subst e2
      rw [List.getElem?_append_left (by omega)] at e1
      refine o.out j B (A ++ [x]) u v (by rw [List.getElem?_append_left (by omega)]; exact e1) hj3 e3 ?_
      cases A with
      | nil => exact e4
      | cons z zs => exact e4
theorem OK.add {g : Int} {gs : List (List IP)} {A : List IP} {x s : IP} (o : OK g (gs ++ [A ++ [x]])) (l : ¬ (s.1 - x.2 < g)) : OK g (gs ++ [A ++ [x]] ++ [[s]]) := by
  refine ⟨fun B hB => ?_, fun B hB k u v e1 e2 => ?_, fun j B C u v e1 e2 e3 e4 => ?_⟩
  · rcases List.mem_append.mp hB with z | z
    · exact o.ne B z
    · have : B = [s] := by simpa using z
      subst this; simp
  · rcases List.mem_append.mp hB with z | z
    · exact o.inn B z k u v e1 e2
    · have : B = [s] := by simpa using z
      subst this
      simp at e2
  · by_cases hj : j + 1 < (gs ++ [A ++ [x]]).length
    · rw [List.getElem?_append_left hj] at e2
      rw [List.getElem?_append_left (by omega)] at e1
      exact o.out j B C u v e1 e2 e3 e4
    · have hj2 : j + 1 = (gs ++ [A ++ [x]]).length := by
        have := (List.getElem?_eq_some_iff.mp e2).1
        simp at this hj ⊢
        omega
      have hj3 : j = gs.length := by simp at hj2; omega
      rw [hj2] at e2
      have e2 : [s] = C := by simpa using e2
      subst e2 hj3
      have e1 : A ++ [x] = B := by simpa using e1
      subst e1
      have e3 : x = u := by simpa using e3
      have e4 : s = v := by simpa using e4
      subst e3 e4
      exact l
theorem len_flat {gs : List (List IP)} (h : ∀ A ∈ gs, A ≠ []) : gs.length ≤ gs.flatten.length := by
  induction gs with
  | nil => simp
  | cons A gs ih =>
    have := ih fun B hB => h B (by simp [hB])
    have : 0 < A.length := List.length_pos_iff.mpr (h A (by simp))
    rw [List.flatten_cons, List.length_append, List.length_cons]
    omega
theorem snoc {α : Type} {l : List α} (h : l ≠ []) : ∃ r x, l = r ++ [x] := ⟨l.dropLast, l.getLast h, (List.dropLast_concat_getLast h).symm⟩
/-- rising, none empty, apart -/
structure Lot (l : List IP) : Prop where
  pos : ∀ x ∈ l, x.1 < x.2
  ris : l.Pairwise fun x y => x.2 < y.1
theorem Lot.tail {x : IP} {l : List IP} (h : Lot (x :: l)) : Lot l := ⟨fun y hy => h.pos y (List.mem_cons_of_mem _ hy), (List.pairwise_cons.mp h.ris).2⟩
theorem Lot.right {a b : List IP} (h : Lot (a ++ b)) : Lot b := ⟨fun y hy => h.pos y (List.mem_append_right _ hy), (List.pairwise_append.mp h.ris).2.1⟩
theorem Lot.left {a b : List IP} (h : Lot (a ++ b)) : Lot a := ⟨fun y hy => h.pos y (List.mem_append_left _ hy), (List.pairwise_append.mp h.ris).1⟩
def inn (A : List IP) (m : Int) : Prop := ∃ x ∈ A, x.1 ≤ m ∧ m < x.2
/-- how many minutes of it lie ahead of m -/
def ahd (m : Int) : List IP → Int
  | [] => 0
  | x :: r => (if x.1 ≤ m then (if m < x.2 then m else x.2) - x.1 else 0) + ahd m r
theorem ahd_0 {m : Int} : ∀ {l : List IP}, (∀ x ∈ l, m < x.1) → ahd m l = 0
  | [], _ => rfl
  | x :: r, h => by
    have h1 := h x (by simp)
    rw [ahd, if_neg (by omega), ahd_0 fun y hy => h y (List.mem_cons_of_mem _ hy)]
    rfl
/-- begin, how many ahead, the last end -/
abbrev Stt := Option Int × Int × Option Int
def nov (long : Int) (l : Option Int) (f : Int) : Bool := match l with
  | none => true
  | some l => decide (long ≤ f - l)
def stp (long m : Int) (s : Stt) (x : IP) : Stt :=
  if x.1 ≤ m then
    (if nov long s.2.2 x.1 then some x.1 else s.1, (if nov long s.2.2 x.1 then 0 else s.2.1) + (if m < x.2 then m else x.2) - x.1, some x.2)
  else s
theorem stp_skip {long m : Int} : ∀ {l : List IP} {s : Stt}, (∀ x ∈ l, m < x.1) → l.foldl (stp long m) s = s
  | [], _, _ => rfl
  | x :: r, s, h => by
    have h1 := h x (by simp)
    have e : stp long m s x = s := by unfold stp; rw [if_neg (by omega)]
    rw [List.foldl_cons, e]
    exact stp_skip fun y hy => h y (List.mem_cons_of_mem _ hy)
theorem rise {x : IP} {r : List IP} {m : Int} (h : Lot (x :: r)) (g : m < x.1) : ∀ y ∈ r, m < y.1 := fun y hy => by
  have := (List.pairwise_cons.mp h.ris).1 y hy
  have := h.pos x (by simp)
  omega
/-- within a spell -/
theorem stp_cont {long m : Int} : ∀ {A : List IP} {b : Option Int} {a l : Int}, Lot A → (∀ y, A.head? = some y → y.1 - l < long) → (∀ (k : Nat) (x y : IP), A[k]? = some x → A[k + 1]? = some y → y.1 - x.2 < long) →
    (A.foldl (stp long m) (b, a, some l)).1 = b ∧ (A.foldl (stp long m) (b, a, some l)).2.1 = a + ahd m A
  | [], b, a, l, _, _, _ => ⟨rfl, by rw [ahd]; show a = a + 0; omega⟩
  | x :: r, b, a, l, hl, h1, h2 => by
    have g1 := h1 x rfl
    rw [List.foldl_cons]
    by_cases g : x.1 ≤ m
    · have e : stp long m (b, a, some l) x = (b, a + (if m < x.2 then m else x.2) - x.1, some x.2) := by
        unfold stp
        rw [if_pos g]
        have : nov long (some l) x.1 = false := by unfold nov; exact decide_eq_false (by omega)
        simp only [this, Bool.false_eq_true, ↓reduceIte]
      rw [e]
      have ih := stp_cont (long := long) (m := m) (A := r) (b := b) (a := a + (if m < x.2 then m else x.2) - x.1) (l := x.2) hl.tail (fun y hy => by
        cases r with
        | nil => cases hy
        | cons z r => exact h2 0 x y rfl hy) (fun k u v e1 e2 => h2 (k + 1) u v e1 e2)
      refine ⟨ih.1, ih.2.trans ?_⟩
      rw [ahd, if_pos g]
      omega
    · have hr := rise hl (by omega : m < x.1)
      have e : stp long m (b, a, some l) x = (b, a, some l) := by unfold stp; rw [if_neg g]
      rw [e, stp_skip hr, ahd, if_neg g, ahd_0 hr]
      exact ⟨rfl, by show a = a + (0 + 0); omega⟩
/-- a spell that begins -/
theorem stp_beg {long m : Int} {x : IP} {r : List IP} {s : Stt} (hl : Lot (x :: r)) (h1 : nov long s.2.2 x.1 = true) (h2 : ∀ (k : Nat) (u v : IP), (x :: r)[k]? = some u → (x :: r)[k + 1]? = some v → v.1 - u.2 < long) (g : x.1 ≤ m) :
    ((x :: r).foldl (stp long m) s).1 = some x.1 ∧ ((x :: r).foldl (stp long m) s).2.1 = ahd m (x :: r) := by
  rw [List.foldl_cons]
  have e : stp long m s x = (some x.1, 0 + (if m < x.2 then m else x.2) - x.1, some x.2) := by
    unfold stp
    rw [if_pos g]
    simp only [h1, ↓reduceIte]
  rw [e]
  have ih := stp_cont (long := long) (m := m) (A := r) (b := some x.1) (a := 0 + (if m < x.2 then m else x.2) - x.1) (l := x.2) hl.tail (fun y hy => by
    cases r with
    | nil => cases hy
    | cons z r => exact h2 0 x y rfl hy) (fun k u v e1 e2 => h2 (k + 1) u v e1 e2)
  refine ⟨ih.1, ih.2.trans ?_⟩
  rw [ahd, if_pos g]
  omega
theorem stp_last {long m : Int} : ∀ {A : List IP} {s : Stt} {x : IP}, (∀ x ∈ A, x.1 ≤ m) → A.getLast? = some x → (A.foldl (stp long m) s).2.2 = some x.2
  | [], _, _, _, e => by cases e
  | [y], s, x, h, e => by
    have e : y = x := by simpa using e
    subst e
    show (stp long m s y).2.2 = _
    unfold stp
    rw [if_pos (h y (by simp))]
  | y :: z :: r, s, x, h, e => by
    rw [List.foldl_cons]
    exact stp_last (A := z :: r) (fun w hw => h w (List.mem_cons_of_mem _ hw)) (by rw [List.getLast?_cons_cons] at e; exact e)
def beg : List IP → Int
  | [] => 0
  | x :: _ => x.1
theorem last_mem {α : Type} {l : List α} {x : α} (e : l.getLast? = some x) : x ∈ l := List.mem_of_getLast? e
/-- what a minute's state is -/
theorem st_at {long m : Int} : ∀ {gs : List (List IP)} {s : Stt} {j : Nat} {A : List IP}, OK long gs → Lot gs.flatten → (∀ x, gs.flatten.head? = some x → nov long s.2.2 x.1 = true) → gs[j]? = some A → inn A m →
    (gs.flatten.foldl (stp long m) s).1 = some (beg A) ∧ (gs.flatten.foldl (stp long m) s).2.1 = ahd m A
  | [], _, _, _, _, _, _, e, _ => by simp at e
  | B :: gs, s, 0, A, o, hl, h1, e, ⟨w, hw, w1, w2⟩ => by
    have e : B = A := by simpa using e
    subst e
    rw [List.flatten_cons] at hl h1 ⊢
    cases B with
    | nil => cases hw
    | cons x r =>
      rw [List.foldl_append]
      have hx : x.1 ≤ m := by
        rcases List.mem_cons.mp hw with rfl | hw
        · exact w1
        · have := (List.pairwise_cons.mp hl.left.ris).1 w hw
          have := hl.left.pos x (by simp)
          omega
      have ih := stp_beg (long := long) (m := m) (s := s) hl.left (h1 x rfl) (o.inn _ (by simp)) hx
      rw [stp_skip (l := gs.flatten) fun y hy => by
        have := (List.pairwise_append.mp hl.ris).2.2 w hw y hy
        omega]
      exact ih
  | B :: gs, s, j + 1, A, o, hl, h1, e, ⟨w, hw, w1, w2⟩ => by
    have e : gs[j]? = some A := by simpa using e
    rw [List.flatten_cons] at hl h1 ⊢
    rw [List.foldl_append]
    have nB := o.ne B (by simp)
    have hA : w ∈ gs.flatten := List.mem_flatten.mpr ⟨A, List.mem_of_getElem? e, hw⟩
    refine st_at o.tail hl.right (fun x hx => ?_) e ⟨w, hw, w1, w2⟩
    obtain ⟨r, y, rfl⟩ : ∃ r y, B = r ++ [y] := ⟨B.dropLast, B.getLast nB, (List.dropLast_concat_getLast nB).symm⟩
    have hlast : (r ++ [y]).getLast? = some y := by simp
    rw [stp_last (x := y) (fun z hz => by
      have h3 := (List.pairwise_append.mp hl.ris).2.2 z hz w hA
      have := hl.left.pos z hz
      omega) hlast]
    cases gs with
    | nil => cases hx
    | cons C gs =>
      have nC := o.ne C (by simp)
      cases C with
      | nil => exact absurd rfl nC
      | cons c C =>
        rw [List.flatten_cons] at hx
        have hx : c = x := by simpa using hx
        subst hx
        have := o.out 0 _ _ y c rfl rfl hlast rfl
        unfold nov
        exact decide_eq_true (by omega)
theorem stp_inv {long m : Int} {s : Stt} {x : IP} (i : s.2.2 ≠ none → s.1 ≠ none) : ((stp long m s x).2.2 ≠ none → (stp long m s x).1 ≠ none) ∧ (s.2.2 ≠ none → (stp long m s x).2.2 ≠ none) ∧ (x.1 ≤ m → (stp long m s x).2.2 ≠ none) := by
  unfold stp
  by_cases g : x.1 ≤ m
  · rw [if_pos g]
    refine ⟨fun _ => ?_, fun _ => by simp, fun _ => by simp⟩
    obtain ⟨b, a, l⟩ := s
    cases l with
    | none => simp [nov]
    | some l =>
      have := i (by simp)
      by_cases q : nov long (some l) x.1 = true
      · simp [q]
      · simp [q]
        exact this
  · rw [if_neg g]
    exact ⟨i, id, fun z => absurd z g⟩
theorem stp_some {long m : Int} : ∀ {l : List IP} {s : Stt}, (s.2.2 ≠ none → s.1 ≠ none) → (s.2.2 ≠ none ∨ ∃ x ∈ l, x.1 ≤ m) → (l.foldl (stp long m) s).1 ≠ none
  | [], s, i, h => i (h.resolve_right fun ⟨x, hx, _⟩ => by cases hx)
  | x :: r, s, i, h => by
    obtain ⟨a, b, c⟩ := stp_inv (long := long) (m := m) (x := x) i
    rw [List.foldl_cons]
    refine stp_some a ?_
    rcases h with h | ⟨y, hy, g⟩
    · exact .inl (b h)
    · rcases List.mem_cons.mp hy with rfl | hy
      · exact .inl (c g)
      · exact .inr ⟨y, hy, g⟩
structure RT where
  w : Bool
  lim : Int
  long : Int
/-- is it broken in a spell; in a lot -/
def brk (r : RT) (A : List IP) (m : Int) : Bool := if r.w then decide (r.lim ≤ ahd m A) else decide (r.lim ≤ m - beg A)
def stt (long : Int) (lot : List IP) (m : Int) : Stt := lot.foldl (stp long m) (none, 0, none)
def brkL (r : RT) (lot : List IP) (m : Int) : Bool := if r.w then decide (r.lim ≤ (stt r.long lot m).2.1) else decide (r.lim ≤ m - ((stt r.long lot m).1).getD 0)
theorem brk_at {r : RT} {gs : List (List IP)} {lot : List IP} {m : Int} {j : Nat} {A : List IP} (o : OK r.long gs) (fl : gs.flatten = lot) (hl : Lot lot) (e : gs[j]? = some A) (i : inn A m) : brkL r lot m = brk r A m ∧ (stt r.long lot m).1 = some (beg A) := by
  have := st_at (long := r.long) (m := m) (s := (none, 0, none)) o (by rw [fl]; exact hl) (fun x _ => rfl) e i
  rw [fl] at this
  unfold brkL brk stt
  rw [this.1, this.2]
  exact ⟨rfl, rfl⟩
def wornW (lim : Int) : List IP → Int → Option Int
  | [], _ => none
  | x :: r, a => if lim < a + x.2 - x.1 then some (x.1 + lim - a) else wornW lim r (a + x.2 - x.1)
def wornL (least : Int) : List IP → Option Int
  | [] => none
  | x :: r => if least < x.2 then some (if x.1 < least then least else x.1) else wornL least r
def worn (r : RT) (A : List IP) : Option Int := if r.w then wornW r.lim A 0 else wornL (beg A + r.lim) A
def Fst (C : Int → Prop) : Option Int → Prop
  | none => ∀ m, ¬ C m
  | some m => C m ∧ ∀ m', C m' → m ≤ m'
theorem inn_cons {x : IP} {r : List IP} {m : Int} : inn (x :: r) m ↔ (x.1 ≤ m ∧ m < x.2) ∨ inn r m := by
  unfold inn
  constructor
  · rintro ⟨y, hy, h⟩
    rcases List.mem_cons.mp hy with rfl | hy
    · exact .inl h
    · exact .inr ⟨y, hy, h⟩
  · rintro (h | ⟨y, hy, h⟩)
    · exact ⟨x, by simp, h⟩
    · exact ⟨y, List.mem_cons_of_mem _ hy, h⟩
theorem inn_gt {x : IP} {r : List IP} {m : Int} (hl : Lot (x :: r)) (h : inn r m) : x.2 < m := by
  obtain ⟨y, hy, h1, h2⟩ := h
  have := (List.pairwise_cons.mp hl.ris).1 y hy
  omega
theorem ahd_gt {x : IP} {r : List IP} {m : Int} (hl : Lot (x :: r)) (g : m ≤ x.2) : ahd m r = 0 := ahd_0 fun y hy => by
  have := (List.pairwise_cons.mp hl.ris).1 y hy
  omega
theorem wornW_spec {lim : Int} : ∀ {A : List IP} {a : Int}, Lot A → a ≤ lim → Fst (fun m => inn A m ∧ lim ≤ a + ahd m A) (wornW lim A a)
  | [], a, _, _ => fun m ⟨⟨y, hy, _⟩, _⟩ => by cases hy
  | x :: r, a, hl, h => by
    have hp := hl.pos x (by simp)
    unfold wornW
    by_cases g : lim < a + x.2 - x.1
    · rw [if_pos g]
      refine ⟨⟨inn_cons.mpr (.inl ⟨by omega, by omega⟩), ?_⟩, fun m' ⟨i, q⟩ => ?_⟩
      · rw [ahd, if_pos (by omega), if_pos (by omega), ahd_gt hl (by omega)]
        omega
      · rcases inn_cons.mp i with i | i
        · rw [ahd, if_pos i.1, if_pos i.2, ahd_gt hl (by omega)] at q
          omega
        · have := inn_gt hl i
          omega
    · rw [if_neg g]
      have ih := wornW_spec (lim := lim) (A := r) (a := a + x.2 - x.1) hl.tail (by omega)
      have key : ∀ m, (inn (x :: r) m ∧ lim ≤ a + ahd m (x :: r)) ↔ (inn r m ∧ lim ≤ a + x.2 - x.1 + ahd m r) := fun m => by
        constructor
        · rintro ⟨i, q⟩
          rcases inn_cons.mp i with i | i
          · rw [ahd, if_pos i.1, if_pos i.2, ahd_gt hl (by omega)] at q
            omega
          · have := inn_gt hl i
            rw [ahd, if_pos (by omega), if_neg (by omega)] at q
            exact ⟨i, by omega⟩
        · rintro ⟨i, q⟩
          have := inn_gt hl i
          refine ⟨inn_cons.mpr (.inr i), ?_⟩
          rw [ahd, if_pos (by omega), if_neg (by omega)]
          omega
      cases q : wornW lim r (a + x.2 - x.1) with
      | none =>
        rw [q] at ih
        exact fun m z => ih m ((key m).mp z)
      | some m =>
        rw [q] at ih
        exact ⟨(key m).mpr ih.1, fun m' z => ih.2 m' ((key m').mp z)⟩
theorem wornL_spec {least : Int} : ∀ {A : List IP}, Lot A → Fst (fun m => inn A m ∧ least ≤ m) (wornL least A)
  | [], _ => fun m ⟨⟨y, hy, _⟩, _⟩ => by cases hy
  | x :: r, hl => by
    have hp := hl.pos x (by simp)
    unfold wornL
    by_cases g : least < x.2
    · rw [if_pos g]
      refine ⟨⟨inn_cons.mpr (.inl ?_), ?_⟩, fun m' ⟨i, q⟩ => ?_⟩
      · split <;> omega
      · split <;> omega
      · rcases inn_cons.mp i with i | i
        · split <;> omega
        · have := inn_gt hl i
          split <;> omega
    · rw [if_neg g]
      have ih := wornL_spec (least := least) (A := r) hl.tail
      have key : ∀ m, (inn (x :: r) m ∧ least ≤ m) ↔ (inn r m ∧ least ≤ m) := fun m => by
        constructor
        · rintro ⟨i, q⟩
          rcases inn_cons.mp i with i | i
          · omega
          · exact ⟨i, q⟩
        · rintro ⟨i, q⟩
          exact ⟨inn_cons.mpr (.inr i), q⟩
      cases q : wornL least r with
      | none =>
        rw [q] at ih
        exact fun m z => ih m ((key m).mp z)
      | some m =>
        rw [q] at ih
        exact ⟨(key m).mpr ih.1, fun m' z => ih.2 m' ((key m').mp z)⟩
theorem worn_spec {r : RT} {A : List IP} (hl : Lot A) (h : 0 ≤ r.lim) : Fst (fun m => inn A m ∧ brk r A m = true) (worn r A) := by
  unfold worn brk
  cases r.w with
  | true =>
    simp only [if_true, decide_eq_true_eq]
    have := wornW_spec (lim := r.lim) (A := A) (a := 0) hl h
    simpa using this
  | false =>
    simp only [Bool.false_eq_true, if_false, decide_eq_true_eq]
    have := wornL_spec (least := beg A + r.lim) hl
    have e : ∀ m, (beg A + r.lim ≤ m) = (r.lim ≤ m - beg A) := fun m => propext ⟨fun _ => by omega, fun _ => by omega⟩
    simp only [e] at this
    exact this
theorem stt_some {long m : Int} {lot : List IP} (h : inn lot m) : ∃ b, (stt long lot m).1 = some b := by
  obtain ⟨x, hx, g, _⟩ := h
  have := stp_some (long := long) (m := m) (l := lot) (s := (none, 0, none)) (fun z => absurd rfl z) (.inr ⟨x, hx, g⟩)
  exact Option.ne_none_iff_exists'.mp this
/-- the first broken one -/
abbrev Br := Option (Int × Nat × Int)
def Best (C : Nat → Int → Prop) (b : Nat → Int → Int) : Br → Prop
  | none => ∀ n m, ¬ C n m
  | some (m, n, k) => C n m ∧ k = b n m ∧ ∀ n' m', C n' m' → m < m' ∨ (m = m' ∧ n ≤ n')
theorem Best.uniq {C : Nat → Int → Prop} {b : Nat → Int → Int} : ∀ {r r' : Br}, Best C b r → Best C b r' → r = r'
  | none, none, _, _ => rfl
  | none, some (m, n, k), h, h' => absurd h'.1 (h n m)
  | some (m, n, k), none, h, h' => absurd h.1 (h' n m)
  | some (m, n, k), some (m', n', k'), h, h' => by
    have a := h.2.2 n' m' h'.1
    have c := h'.2.2 n m h.1
    have e1 : m = m' := by omega
    have e2 : n = n' := by omega
    subst e1 e2
    rw [h.2.1, h'.2.1]
theorem Best.congr {C C' : Nat → Int → Prop} {b : Nat → Int → Int} (e : ∀ n m, C n m ↔ C' n m) : ∀ {r : Br}, Best C b r → Best C' b r
  | none, h => fun n m z => h n m ((e n m).mpr z)
  | some (m, n, k), h => ⟨(e n m).mp h.1, h.2.1, fun n' m' z => h.2.2 n' m' ((e n' m').mpr z)⟩
def stepB (N : Nat) (k : Int) (res : Br) (w : Option Int) : Br := match w with
  | none => res
  | some m => match res with
    | none => some (m, N, k)
    | some (m', n', k') => if m < m' then some (m, N, k) else some (m', n', k')
theorem Best.step {C : Nat → Int → Prop} {b : Nat → Int → Int} {N : Nat} {k : Int} {G : Int → Prop} {w : Option Int} (hw : Fst G w) (hN : ∀ n m, C n m → n ≤ N) (hb : ∀ m, G m → k = b N m) : ∀ {res : Br}, Best C b res → Best (fun n m => C n m ∨ (n = N ∧ G m)) b (stepB N k res w) := by
  intro res h
  cases w with
  | none =>
    refine Best.congr (fun n m => ⟨.inl, fun z => z.resolve_right fun ⟨_, g⟩ => hw m g⟩) ?_
    cases res <;> exact h
  | some m =>
    obtain ⟨g, least⟩ := hw
    cases res with
    | none =>
      refine ⟨.inr ⟨rfl, g⟩, hb m g, fun n' m' z => ?_⟩
      rcases z with z | ⟨rfl, z⟩
      · exact absurd z (h n' m')
      · have := least m' z
        omega
    | some t =>
      obtain ⟨m1, n1, k1⟩ := t
      show Best _ b (if m < m1 then some (m, N, k) else some (m1, n1, k1))
      split
      · rename_i q
        refine ⟨.inr ⟨rfl, g⟩, hb m g, fun n' m' z => ?_⟩
        rcases z with z | ⟨rfl, z⟩
        · have := h.2.2 n' m' z
          omega
        · have := least m' z
          omega
      · rename_i q
        refine ⟨.inl h.1, h.2.1, fun n' m' z => ?_⟩
        rcases z with z | ⟨rfl, z⟩
        · exact h.2.2 n' m' z
        · have := least m' z
          have := hN _ _ h.1
          omega
/-- scaled -/
def scP (base unit : Int) (x : IP) : IP := (base + unit * x.1, base + unit * x.2)
theorem split_map {α β : Type} {f : α → β} : ∀ {gs : List (List β)} {l : List α}, gs.flatten = l.map f → ∃ hs : List (List α), gs = hs.map (List.map f) ∧ hs.flatten = l
  | [], l, e => by
    have : l = [] := by simpa using e.symm
    exact ⟨[], rfl, this.symm⟩
  | g :: gs, l, e => by
    rw [List.flatten_cons] at e
    obtain ⟨l1, l2, e1, e2, e3⟩ := List.map_eq_append_iff.mp e.symm
    obtain ⟨hs, h1, h2⟩ := split_map (f := f) (gs := gs) (l := l2) e3.symm
    exact ⟨l1 :: hs, by rw [List.map_cons, e2, ← h1], by rw [List.flatten_cons, h2, e1]⟩
theorem mul_cut {u a b : Int} (hu : 0 < u) : u * a < u * b ↔ a < b := ⟨fun h => Int.lt_of_mul_lt_mul_left h (Int.le_of_lt hu), fun h => Int.mul_lt_mul_of_pos_left h hu⟩
theorem OK.unscale {base u g : Int} (hu : 0 < u) {gs : List (List IP)} (o : OK (u * g) (gs.map (List.map (scP base u)))) : OK g gs := by
  refine ⟨fun A hA z => o.ne _ (List.mem_map.mpr ⟨A, hA, rfl⟩) (by rw [z]; rfl), fun A hA k x y e1 e2 => ?_, fun j A B x y e1 e2 e3 e4 => ?_⟩
  · have := o.inn _ (List.mem_map.mpr ⟨A, hA, rfl⟩) k (scP base u x) (scP base u y) (by rw [List.getElem?_map, e1]; rfl) (by rw [List.getElem?_map, e2]; rfl)
    refine (mul_cut hu).mp ?_
    have e : u * (y.1 - x.2) = u * y.1 - u * x.2 := Int.mul_sub ..
    simp only [scP] at this
    omega
  · have := o.out j (A.map (scP base u)) (B.map (scP base u)) (scP base u x) (scP base u y) (by rw [List.getElem?_map, e1]; rfl) (by rw [List.getElem?_map, e2]; rfl) (by rw [List.getLast?_map, e3]; rfl) (by rw [List.head?_map, e4]; rfl)
    intro z
    refine this ?_
    have z := (mul_cut hu).mpr z
    have e : u * (y.1 - x.2) = u * y.1 - u * x.2 := Int.mul_sub ..
    simp only [scP]
    omega
def scR (u : Int) (r : RT) : RT := ⟨r.w, u * r.lim, u * r.long⟩
theorem wornW_sc {base u lim : Int} (hu : 0 < u) : ∀ {A : List IP} {a : Int}, wornW (u * lim) (A.map (scP base u)) (u * a) = (wornW lim A a).map fun m => base + u * m
  | [], _ => rfl
  | x :: r, a => by
    rw [List.map_cons, wornW, wornW]
    have e : u * a + (scP base u x).2 - (scP base u x).1 = u * (a + x.2 - x.1) := by
      simp only [scP, Int.mul_sub, Int.mul_add]
      omega
    rw [e]
    by_cases g : lim < a + x.2 - x.1
    · rw [if_pos g, if_pos ((mul_cut hu).mpr g)]
      have : (scP base u x).1 + u * lim - u * a = base + u * (x.1 + lim - a) := by
        simp only [scP, Int.mul_sub, Int.mul_add]
        omega
      rw [this]
      rfl
    · rw [if_neg g, if_neg fun z => g ((mul_cut hu).mp z)]
      exact wornW_sc hu
theorem wornL_sc {base u least : Int} (hu : 0 < u) : ∀ {A : List IP}, wornL (base + u * least) (A.map (scP base u)) = (wornL least A).map fun m => base + u * m
  | [] => rfl
  | x :: r => by
    rw [List.map_cons, wornL, wornL]
    have c2 := mul_cut (a := least) (b := x.2) hu
    have c1 := mul_cut (a := x.1) (b := least) hu
    by_cases g : least < x.2
    · have g' : base + u * least < (scP base u x).2 := by
        have := c2.mpr g
        simp only [scP]
        omega
      rw [if_pos g, if_pos g']
      have e1 : (scP base u x).1 = base + u * x.1 := rfl
      by_cases q : x.1 < least
      · have := c1.mpr q
        rw [if_pos q, if_pos (by rw [e1]; omega)]
        rfl
      · rw [if_neg q, if_neg fun z => q (c1.mp (by rw [e1] at z; omega))]
        rfl
    · have g' : ¬ (base + u * least < (scP base u x).2) := fun z => by
        simp only [scP] at z
        exact g (c2.mp (by omega))
      rw [if_neg g, if_neg g']
      exact wornL_sc hu
theorem worn_sc {base u : Int} (hu : 0 < u) {r : RT} {A : List IP} (ne : A ≠ []) : worn (scR u r) (A.map (scP base u)) = (worn r A).map fun m => base + u * m := by
  unfold worn scR
  cases r.w with
  | true =>
    simp only [if_true]
    have := wornW_sc (base := base) (u := u) (lim := r.lim) hu (A := A) (a := 0)
    rw [Int.mul_zero] at this
    exact this
  | false =>
    simp only [Bool.false_eq_true, if_false]
    cases A with
    | nil => exact absurd rfl ne
    | cons x t =>
      have := wornL_sc (base := base) (u := u) (least := x.1 + r.lim) hu (A := x :: t)
      have e : beg ((x :: t).map (scP base u)) + u * r.lim = base + u * (x.1 + r.lim) := by
        show base + u * x.1 + u * r.lim = _
        rw [Int.mul_add]
        omega
      rw [e]
      exact this
end DL

/-! DL, part X: what repr shows; tuples of a text and two ints -/
namespace DL
open PySem L2
/-- short things -/
structure Shw (d : PyData) (w : Nat) : Prop where
  s : d.showable = true
  l : d.leavesShort 40 = true
  w : d.weight ≤ w
structure Shws (ds : List PyData) (w : Nat) : Prop where
  s : PyData.showableAll ds = true
  l : PyData.leavesShortAll 40 ds = true
  w : PyData.weightAll ds ≤ w
theorem Shw.mono {d : PyData} {w w' : Nat} (h : Shw d w) (l : w ≤ w') : Shw d w' := ⟨h.s, h.l, Nat.le_trans h.w l⟩
theorem shw_int {i : Int} (h : i.natAbs < 10 ^ 31) : Shw (.int i) 120 := by
  have h2 : i.natAbs.log2 < 110 := by
    by_cases z : i.natAbs = 0
    · rw [z]; decide
    · exact (Nat.log2_lt z).mpr (Nat.lt_of_lt_of_le h (by decide))
  refine ⟨?_, ?_, ?_⟩
  · rw [PyData.showable, decide_eq_true_eq]
    omega
  · rw [PyData.leavesShort, decide_eq_true_eq, PyData.shown]
    have := int_text_length_le10 (a := i) (k := 31) (by decide) h
    rw [ofString_length]
    omega
  · rw [PyData.weight]
    split <;> omega
theorem shw_non : Shw .none 0 := ⟨rfl, rfl, by rw [PyData.weight]; exact Nat.le_refl _⟩
theorem shw_bl {b : Bool} : Shw (.bool b) 0 := ⟨rfl, rfl, by rw [PyData.weight]; exact Nat.le_refl _⟩
theorem shw_str {x : Str} (h : ∀ c ∈ x.cps.toList, c < 16 ^ 8) : Shw (.str x) x.length := ⟨rfl, by rw [PyData.leavesShort, List.all_eq_true]; exact fun c hc => decide_eq_true (h c hc), by rw [PyData.weight]; exact Nat.le_refl _⟩
theorem shws_nil : Shws [] 0 := ⟨rfl, rfl, by rw [PyData.weightAll]; exact Nat.le_refl _⟩
theorem shws_cons {d : PyData} {ds : List PyData} {a b : Nat} (x : Shw d a) (y : Shws ds b) : Shws (d :: ds) (a + 1 + b) := ⟨by rw [PyData.showableAll, x.s, y.s]; rfl, by rw [PyData.leavesShortAll, x.l, y.l]; rfl, by rw [PyData.weightAll]; have := x.w; have := y.w; omega⟩
theorem shw_tup {ds : List PyData} {a : Nat} (x : Shws ds a) : Shw (.tuple ds) a := ⟨by rw [PyData.showable]; exact x.s, by rw [PyData.leavesShort]; exact x.l, by rw [PyData.weight]; exact x.w⟩
theorem shw_lst {ds : List PyData} {a : Nat} (x : Shws ds a) : Shw (.list ds) a := ⟨by rw [PyData.showable]; exact x.s, by rw [PyData.leavesShort]; exact x.l, by rw [PyData.weight]; exact x.w⟩
theorem repr_shw {x : D} {p : PyData} {w : Nat} {h : DH} {Q : QD} (d : DPy h x p ∨ DRp h x p) (s : Shw p w) (hw : w ≤ 300000) (dp : p.depth ≤ 60) (q : Q (.str p.shown) h) : wRepr x h Q := by
  refine ⟨p, d, s.s, dp, ?_, q⟩
  have h1 := PyData.shown_le 40 (by decide) p s.l
  have := s.w
  omega
end DL

/-! DL, part Y: things of any form -/
namespace DL
open PySem L2
/-- all stands but what is in S -/
def ExS (S : Addr → Prop) (h h' : DH) : Prop := ∀ a o, ¬ S a → h a = some o → h' a = some o
/-- p alone -/
def One (p : Addr) : Addr → Prop := fun a => a = p
theorem one {p : Addr} : One p p := rfl
theorem ExS.refl {S : Addr → Prop} {h : DH} : ExS S h h := fun _ _ _ e => e
theorem ExS.trans {S : Addr → Prop} {h h1 h2 : DH} (a : ExS S h h1) (b : ExS S h1 h2) : ExS S h h2 := fun x o n e => b x o n (a x o n e)
theorem Ext.exS {S : Addr → Prop} {h h' : DH} (a : Ext h h') : ExS S h h' := fun x o _ e => a x o e
theorem Ex1.exS {S : Addr → Prop} {p : Addr} {h h' : DH} (a : Ex1 p h h') (hp : S p) : ExS S h h' := fun x o n e => a x o (fun z => n (z ▸ hp)) e
theorem ExS.put {S : Addr → Prop} {p : Addr} {h : DH} {o : DO} (hp : S p) : ExS S h (up h p o) := fun x u n e => by
  have : x ≠ p := fun z => by subst z; exact n hp
  rw [up_off this]; exact e
mutual
inductive Tg (S : Addr → Prop) (h : DH) : D → PyData → Prop
  | non : Tg S h .non .none
  | bl (b : Bool) : Tg S h (.bl b) (.bool b)
  | int (i : Int) : Tg S h (.int i) (.int i)
  | str (x : Str) : Tg S h (.str x) (.str x)
  | tup {xs : List D} {ps : List PyData} : Tgs S h xs ps → Tg S h (.tup xs) (.tuple ps)
  | lst {a : Addr} {xs : List D} {ps : List PyData} : ¬ S a → h a = some (.lst xs) → Tgs S h xs ps → Tg S h (.ref a) (.list ps)
  | dct {a : Addr} {kvs : List (Key × D)} {ps : List (PyData × PyData)} : ¬ S a → h a = some (.dK kvs) → Tgk S h kvs ps → Tg S h (.ref a) (.dict ps)
inductive Tgs (S : Addr → Prop) (h : DH) : List D → List PyData → Prop
  | nil : Tgs S h [] []
  | cons {d : D} {xs : List D} {p : PyData} {ps : List PyData} : Tg S h d p → Tgs S h xs ps → Tgs S h (d :: xs) (p :: ps)
inductive Tgk (S : Addr → Prop) (h : DH) : List (Key × D) → List (PyData × PyData) → Prop
  | nil : Tgk S h [] []
  | cons {k : Key} {d : D} {kvs : List (Key × D)} {p : PyData} {ps : List (PyData × PyData)} : Tg S h d p → Tgk S h kvs ps → Tgk S h ((k, d) :: kvs) ((kPy k, p) :: ps)
end
mutual
theorem Tg.ex {S : Addr → Prop} {h h' : DH} (x : ExS S h h') : ∀ {d : D} {p : PyData}, Tg S h d p → Tg S h' d p
  | _, _, .non => .non
  | _, _, .bl b => .bl b
  | _, _, .int i => .int i
  | _, _, .str x => .str x
  | _, _, .tup a => .tup (Tgs.ex x a)
  | _, _, .lst n e a => .lst n (x _ _ n e) (Tgs.ex x a)
  | _, _, .dct n e a => .dct n (x _ _ n e) (Tgk.ex x a)
theorem Tgs.ex {S : Addr → Prop} {h h' : DH} (x : ExS S h h') : ∀ {ds : List D} {ps : List PyData}, Tgs S h ds ps → Tgs S h' ds ps
  | _, _, .nil => .nil
  | _, _, .cons a b => .cons (Tg.ex x a) (Tgs.ex x b)
theorem Tgk.ex {S : Addr → Prop} {h h' : DH} (x : ExS S h h') : ∀ {ds : List (Key × D)} {ps : List (PyData × PyData)}, Tgk S h ds ps → Tgk S h' ds ps
  | _, _, .nil => .nil
  | _, _, .cons a b => .cons (Tg.ex x a) (Tgk.ex x b)
end
mutual
theorem Tg.drp {S : Addr → Prop} {h : DH} : ∀ {d : D} {p : PyData}, Tg S h d p → DRp h d p
  | _, _, .non => .non
  | _, _, .bl b => .bl b
  | _, _, .int i => .int i
  | _, _, .str x => .str x
  | _, _, .tup a => .tup (Tgs.drp a)
  | _, _, .lst _ e a => .lst e (Tgs.drp a)
  | _, _, .dct _ e a => .dct e (Tgk.drp a)
theorem Tgs.drp {S : Addr → Prop} {h : DH} : ∀ {ds : List D} {ps : List PyData}, Tgs S h ds ps → DRps h ds ps
  | _, _, .nil => .nil
  | _, _, .cons a b => .cons (Tg.drp a) (Tgs.drp b)
theorem Tgk.drp {S : Addr → Prop} {h : DH} : ∀ {ds : List (Key × D)} {ps : List (PyData × PyData)}, Tgk S h ds ps → DRks h ds ps
  | _, _, .nil => .nil
  | _, _, .cons a b => .cons (Tg.drp a) (Tgk.drp b)
end
/-- a thing, of a weight and a depth -/
def Thg (S : Addr → Prop) (h : DH) (w k : Nat) (d : D) : Prop := ∃ p, Tg S h d p ∧ Shw p w ∧ p.depth ≤ k
def Thgs (S : Addr → Prop) (h : DH) (w k : Nat) (ds : List D) : Prop := ∃ ps, Tgs S h ds ps ∧ Shws ps w ∧ PyData.depthAll ps ≤ k
section
variable {S : Addr → Prop} {h h' : DH} {w k w' k' : Nat} {d : D} {ds es : List D} {Q : QD}
theorem Thg.ex (t : Thg S h w k d) (x : ExS S h h') : Thg S h' w k d := let ⟨p, a, b, c⟩ := t; ⟨p, a.ex x, b, c⟩
theorem Thgs.ex (t : Thgs S h w k ds) (x : ExS S h h') : Thgs S h' w k ds := let ⟨p, a, b, c⟩ := t; ⟨p, a.ex x, b, c⟩
theorem Thg.mono (t : Thg S h w k d) (l : w ≤ w') (m : k ≤ k') : Thg S h w' k' d := let ⟨p, a, b, c⟩ := t; ⟨p, a, b.mono l, Nat.le_trans c m⟩
theorem Thgs.mono (t : Thgs S h w k ds) (l : w ≤ w') (m : k ≤ k') : Thgs S h w' k' ds := let ⟨p, a, b, c⟩ := t; ⟨p, a, ⟨b.s, b.l, Nat.le_trans b.w l⟩, Nat.le_trans c m⟩
theorem thg_non : Thg S h 0 1 .non := ⟨_, .non, shw_non, by simp [PyData.depth]⟩
theorem thg_bl {b : Bool} : Thg S h 0 1 (.bl b) := ⟨_, .bl b, shw_bl, by simp [PyData.depth]⟩
theorem thg_int {i : Int} (z : i.natAbs < 10 ^ 31) : Thg S h 120 1 (.int i) := ⟨_, .int i, shw_int z, by simp [PyData.depth]⟩
/-- all signs are such as there are -/
def okS (x : Str) : Prop := ∀ c ∈ x.cps.toList, c < 0x110000
theorem thg_str {x : Str} (z : okS x) (l : x.length ≤ w) : Thg S h w 1 (.str x) := ⟨_, .str x, (shw_str fun c hc => Nat.lt_trans (z c hc) (by decide)).mono l, by simp [PyData.depth]⟩
theorem thgs_nil : Thgs S h 0 0 [] := ⟨_, .nil, shws_nil, by simp [PyData.depthAll]⟩
theorem thgs_cons {a b m n : Nat} (x : Thg S h a m d) (y : Thgs S h b n ds) : Thgs S h (a + 1 + b) (max m n) (d :: ds) := by
  obtain ⟨p, x1, x2, x3⟩ := x
  obtain ⟨ps, y1, y2, y3⟩ := y
  exact ⟨p :: ps, .cons x1 y1, shws_cons x2 y2, by rw [PyData.depthAll]; omega⟩
theorem thg_tup (x : Thgs S h w k ds) : Thg S h w (k + 1) (.tup ds) := by
  obtain ⟨ps, y1, y2, y3⟩ := x
  exact ⟨_, .tup y1, shw_tup y2, by rw [PyData.depth]; omega⟩
theorem thg_lst {a : Addr} (n : ¬ S a) (e : h a = some (.lst ds)) (x : Thgs S h w k ds) : Thg S h w (k + 1) (.ref a) := by
  obtain ⟨ps, y1, y2, y3⟩ := x
  exact ⟨_, .lst n e y1, shw_lst y2, by rw [PyData.depth]; omega⟩
theorem thg_dnew {a : Addr} (n : ¬ S a) (e : h a = some (.dK [])) : Thg S h 0 2 (.ref a) :=
  ⟨_, .dct n e .nil, ⟨by decide +kernel, by decide +kernel, by decide +kernel⟩, by simp [PyData.depth, PyData.depthKv]⟩
/-- the repr of a thing -/
theorem Thg.repr (t : Thg S h w k d) (hw : w ≤ 300000) (hk : k ≤ 60) (q : ∀ p, Tg S h d p → Q (.str p.shown) h) : wRepr d h Q := by
  obtain ⟨p, a, b, c⟩ := t
  exact repr_shw (.inr a.drp) b hw (by omega) (q p a)
theorem Tgs.len {ds : List D} {ps : List PyData} : Tgs S h ds ps → ds.length = ps.length
  | .nil => rfl
  | .cons _ b => congrArg (· + 1) b.len
end
mutual
/-- what is shown is told by the thing -/
theorem Tg.uniq {S : Addr → Prop} {h : DH} : ∀ {d : D} {p q : PyData}, Tg S h d p → Tg S h d q → p = q
  | _, _, _, .non, .non => rfl
  | _, _, _, .bl _, .bl _ => rfl
  | _, _, _, .int _, .int _ => rfl
  | _, _, _, .str _, .str _ => rfl
  | _, _, _, .tup a, .tup b => congrArg PyData.tuple (Tgs.uniq a b)
  | _, _, _, .lst _ e a, .lst _ f b => by
    rw [e] at f
    cases f
    exact congrArg PyData.list (Tgs.uniq a b)
  | _, _, _, .lst _ e _, .dct _ f _ => by rw [e] at f; cases f
  | _, _, _, .dct _ e _, .lst _ f _ => by rw [e] at f; cases f
  | _, _, _, .dct _ e a, .dct _ f b => by
    rw [e] at f
    cases f
    exact congrArg PyData.dict (Tgk.uniq a b)
theorem Tgs.uniq {S : Addr → Prop} {h : DH} : ∀ {d : List D} {p q : List PyData}, Tgs S h d p → Tgs S h d q → p = q
  | _, _, _, .nil, .nil => rfl
  | _, _, _, .cons a b, .cons c d => by rw [Tg.uniq a c, Tgs.uniq b d]
theorem Tgk.uniq {S : Addr → Prop} {h : DH} : ∀ {d : List (Key × D)} {p q : List (PyData × PyData)}, Tgk S h d p → Tgk S h d q → p = q
  | _, _, _, .nil, .nil => rfl
  | _, _, _, .cons a b, .cons c d => by rw [Tg.uniq a c, Tgk.uniq b d]
end
section
variable {S : Addr → Prop} {h h' : DH} {w k : Nat} {d : D} {ds es : List D}
/-- of what form a thing is -/
theorem Thg.form (t : Thg S h w k d) : d = .non ∨ (∃ b, d = .bl b) ∨ (∃ i, d = .int i) ∨ (∃ x, d = .str x) ∨ (∃ xs, d = .tup xs ∧ Thgs S h w k xs) ∨ (∃ a xs, d = .ref a ∧ ¬ S a ∧ h a = some (.lst xs)) ∨ ∃ a xs, d = .ref a ∧ ¬ S a ∧ h a = some (.dK xs) := by
  obtain ⟨p, a, b, c⟩ := t
  cases a with
  | non => exact .inl rfl
  | bl b => exact .inr (.inl ⟨_, rfl⟩)
  | int b => exact .inr (.inr (.inl ⟨_, rfl⟩))
  | str b => exact .inr (.inr (.inr (.inl ⟨_, rfl⟩)))
  | @tup xs ps x =>
    refine .inr (.inr (.inr (.inr (.inl ⟨_, rfl, ps, x, ⟨?_, ?_, ?_⟩, ?_⟩))))
    · have := b.s; rw [PyData.showable] at this; exact this
    · have := b.l; rw [PyData.leavesShort] at this; exact this
    · have := b.w; rw [PyData.weight] at this; exact this
    · rw [PyData.depth] at c; omega
  | lst n e x => exact .inr (.inr (.inr (.inr (.inr (.inl ⟨_, _, rfl, n, e⟩)))))
  | dct n e x => exact .inr (.inr (.inr (.inr (.inr (.inr ⟨_, _, rfl, n, e⟩)))))
theorem Thg.form2 (t : Thg S h w k d) : d = .non ∨ (∃ b, d = .bl b) ∨ (∃ i, d = .int i) ∨ (∃ x, d = .str x) ∨ (∃ xs, d = .tup xs ∧ Thgs S h w k xs) ∨ (∃ a xs, d = .ref a ∧ ¬ S a ∧ h a = some (.lst xs) ∧ Thgs S h w k xs) ∨ ∃ a xs, d = .ref a ∧ ¬ S a ∧ h a = some (.dK xs) := by
  obtain ⟨p, a, b, c⟩ := t
  cases a with
  | non => exact .inl rfl
  | bl b => exact .inr (.inl ⟨_, rfl⟩)
  | int b => exact .inr (.inr (.inl ⟨_, rfl⟩))
  | str b => exact .inr (.inr (.inr (.inl ⟨_, rfl⟩)))
  | @tup xs ps x =>
    refine .inr (.inr (.inr (.inr (.inl ⟨_, rfl, ps, x, ⟨?_, ?_, ?_⟩, ?_⟩))))
    · have := b.s; rw [PyData.showable] at this; exact this
    · have := b.l; rw [PyData.leavesShort] at this; exact this
    · have := b.w; rw [PyData.weight] at this; exact this
    · rw [PyData.depth] at c; omega
  | @lst a xs ps n e x =>
    refine .inr (.inr (.inr (.inr (.inr (.inl ⟨_, _, rfl, n, e, ps, x, ⟨?_, ?_, ?_⟩, ?_⟩)))))
    · have := b.s; rw [PyData.showable] at this; exact this
    · have := b.l; rw [PyData.leavesShort] at this; exact this
    · have := b.w; rw [PyData.weight] at this; exact this
    · rw [PyData.depth] at c; omega
  | dct n e x => exact .inr (.inr (.inr (.inr (.inr (.inr ⟨_, _, rfl, n, e⟩)))))
theorem Thgs.cons (t : Thgs S h w k (d :: ds)) : Thg S h w k d ∧ Thgs S h w k ds := by
  obtain ⟨ps, a, b, c⟩ := t
  cases a with
  | @cons _ _ p ps a1 a2 =>
    have h1 := b.s
    have h2 := b.l
    have h3 := b.w
    rw [PyData.showableAll, Bool.and_eq_true] at h1
    rw [PyData.leavesShortAll, Bool.and_eq_true] at h2
    rw [PyData.weightAll] at h3
    rw [PyData.depthAll] at c
    exact ⟨⟨p, a1, ⟨h1.1, h2.1, by omega⟩, by omega⟩, ⟨ps, a2, ⟨h1.2, h2.2, by omega⟩, by omega⟩⟩
theorem Thgs.mem {ds : List D} : Thgs S h w k ds → ∀ d ∈ ds, Thg S h w k d := by
  induction ds with
  | nil => intro _ d hd; cases hd
  | cons x r ih =>
    intro t d hd
    obtain ⟨a, b⟩ := t.cons
    rcases List.mem_cons.mp hd with rfl | hd
    · exact a
    · exact ih b d hd
end
/-- a list of things: each of a weight and a depth -/
def All (S : Addr → Prop) (h : DH) (w k : Nat) (ds : List D) : Prop := ∀ d ∈ ds, Thg S h w k d
section
variable {S : Addr → Prop} {h h' : DH} {w k w' k' : Nat} {d : D} {ds es : List D}
theorem All.ex (t : All S h w k ds) (x : ExS S h h') : All S h' w k ds := fun d hd => (t d hd).ex x
theorem All.nil : All S h w k [] := fun _ hd => by cases hd
theorem All.cons (t : Thg S h w k d) (u : All S h w k ds) : All S h w k (d :: ds) := fun e he => by
  rcases List.mem_cons.mp he with rfl | he
  · exact t
  · exact u e he
theorem All.app (t : All S h w k ds) (u : All S h w k es) : All S h w k (ds ++ es) := fun e he => (List.mem_append.mp he).elim (t e) (u e)
theorem All.mono (t : All S h w k ds) (l : w ≤ w') (m : k ≤ k') : All S h w' k' ds := fun d hd => (t d hd).mono l m
theorem All.cut (t : All S h w k ds) {a b : Option Int} : All S h w k (cutD ds a b) := fun d hd => t d (List.mem_of_mem_drop (List.mem_of_mem_take hd))
theorem All.rev (t : All S h w k ds) : All S h w k ds.reverse := fun d hd => t d (List.mem_reverse.mp hd)
/-- together -/
theorem All.thgs : ∀ {ds : List D} (t : All S h w k ds), Thgs S h (ds.length * (w + 1)) k ds
  | [], _ => ⟨[], .nil, ⟨rfl, rfl, by rw [PyData.weightAll]; omega⟩, by simp [PyData.depthAll]⟩
  | d :: ds, t => by
    have a := t d (by simp)
    have b := All.thgs (ds := ds) fun e he => t e (List.mem_cons_of_mem _ he)
    have e : (d :: ds).length * (w + 1) = w + 1 + ds.length * (w + 1) := by rw [List.length_cons, Nat.add_mul, Nat.one_mul]; omega
    rw [e]
    have := thgs_cons (a := w) (m := k) a b
    rw [Nat.max_self] at this
    exact this
theorem Thgs.all (t : Thgs S h w k ds) : All S h w k ds := fun d hd => t.mem d hd
end
/-! ### things that are written out -/
mutual
def litD : D → Bool
  | .non => true
  | .bl _ => true
  | .int i => decide (i.natAbs < 10 ^ 31)
  | .str x => x.cps.toList.all fun c => decide (c < 16 ^ 8)
  | .tup xs => litDs xs
  | _ => false
def litDs : List D → Bool
  | [] => true
  | d :: ds => litD d && litDs ds
end
mutual
def litP : D → PyData
  | .non => .none
  | .bl b => .bool b
  | .int i => .int i
  | .str x => .str x
  | .tup xs => .tuple (litPs xs)
  | _ => .none
def litPs : List D → List PyData
  | [] => []
  | d :: ds => litP d :: litPs ds
end
mutual
theorem lit_tg {S : Addr → Prop} {h : DH} : ∀ {d : D}, litD d = true → Tg S h d (litP d) ∧ (litP d).showable = true ∧ (litP d).leavesShort 40 = true
  | .non, _ => by rw [litP]; exact ⟨.non, shw_non.s, shw_non.l⟩
  | .bl b, _ => by rw [litP]; exact ⟨.bl b, shw_bl.s, shw_bl.l⟩
  | .int i, e => by
    rw [litD, decide_eq_true_eq] at e
    rw [litP]
    exact ⟨.int i, (shw_int e).s, (shw_int e).l⟩
  | .str x, e => by
    rw [litD, List.all_eq_true] at e
    rw [litP]
    have := shw_str (x := x) fun c hc => of_decide_eq_true (e c hc)
    exact ⟨.str x, this.s, this.l⟩
  | .tup xs, e => by
    rw [litD] at e
    rw [litP, PyData.showable, PyData.leavesShort]
    obtain ⟨a, b, c⟩ := lits_tg (S := S) (h := h) e
    exact ⟨.tup a, b, c⟩
  | .ref _, e => by simp [litD] at e
  | .kt _, e => by simp [litD] at e
  | .fl _, e => by simp [litD] at e
theorem lits_tg {S : Addr → Prop} {h : DH} : ∀ {ds : List D}, litDs ds = true → Tgs S h ds (litPs ds) ∧ PyData.showableAll (litPs ds) = true ∧ PyData.leavesShortAll 40 (litPs ds) = true
  | [], _ => by rw [litPs]; exact ⟨.nil, rfl, rfl⟩
  | d :: ds, e => by
    rw [litDs, Bool.and_eq_true] at e
    obtain ⟨a, b, c⟩ := lit_tg (S := S) (h := h) e.1
    obtain ⟨a', b', c'⟩ := lits_tg (S := S) (h := h) e.2
    rw [litPs, PyData.showableAll, PyData.leavesShortAll, b, b', c, c']
    exact ⟨.cons a a', rfl, rfl⟩
end
theorem lit_thg {S : Addr → Prop} {h : DH} {w k : Nat} {d : D} (e : (litD d && decide ((litP d).weight ≤ w) && decide ((litP d).depth ≤ k)) = true) : Thg S h w k d := by
  rw [Bool.and_eq_true, Bool.and_eq_true, decide_eq_true_eq, decide_eq_true_eq] at e
  obtain ⟨a, b, c⟩ := lit_tg (S := S) (h := h) e.1.1
  exact ⟨_, a, ⟨b, c, e.1.2⟩, e.2⟩
theorem lit_all {S : Addr → Prop} {h : DH} {w k : Nat} {ds : List D} (e : (ds.all fun d => litD d && decide ((litP d).weight ≤ w) && decide ((litP d).depth ≤ k)) = true) : All S h w k ds := fun d hd => lit_thg (List.all_eq_true.mp e d hd)
theorem weight_len : ∀ ps : List PyData, ps.length ≤ PyData.weightAll ps
  | [] => Nat.zero_le _
  | p :: ps => by
    have := weight_len ps
    rw [PyData.weightAll, List.length_cons]
    omega
theorem Thgs.lenw {S : Addr → Prop} {h : DH} {w k : Nat} {ds : List D} (t : Thgs S h w k ds) : ds.length ≤ w := by
  obtain ⟨ps, a, b, _⟩ := t
  rw [a.len]
  exact Nat.le_trans (weight_len ps) b.w
end DL

/-! DL, part Z: texts: their signs, their lengths -/
namespace DL
open PySem L2
theorem cps_app {x y : Str} : (x ++ y).cps = x.cps ++ y.cps := rfl
theorem len_app {x y : Str} : (x ++ y).length = x.length + y.length := by
  show (x ++ y).cps.size = x.cps.size + y.cps.size
  rw [cps_app, Array.size_append]
theorem okS_app {x y : Str} (a : okS x) (b : okS y) : okS (x ++ y) := fun c hc => by
  rw [cps_app, Array.toList_append] at hc
  exact (List.mem_append.mp hc).elim (a c) (b c)
theorem okS_pick {x : Str} {l : List Nat} (a : okS x) : okS ⟨(l.filterMap (x.cps[·]?)).toArray⟩ := fun c hc => by
  have hc : c ∈ l.filterMap (x.cps[·]?) := by simpa using hc
  obtain ⟨i, _, e⟩ := List.mem_filterMap.mp hc
  refine a c ?_
  rw [← Array.getElem?_toList] at e
  exact List.mem_of_getElem? e
theorem okS_slice {x : Str} {lo hi : Option Int} (a : okS x) : okS (PySem.Txt.slice x lo hi) := by
  unfold PySem.Txt.slice
  split
  · exact a
  · exact okS_pick a
theorem okS_cut {x : Str} {lo hi : Option Int} (a : okS x) : okS (cutS x lo hi) := by
  rw [C8.cutS_slice]
  exact okS_slice a
theorem len_cut {x : Str} {lo hi : Option Int} : (cutS x lo hi).length ≤ x.length := by
  rw [C8.cutS_slice]
  exact PySem.Txt.slice_le x lo hi
theorem okS_one {c : Nat} (h : c < 0x110000) : okS ⟨#[c]⟩ := fun d hd => by
  have : d = c := by simpa using hd
  rw [this]
  exact h
theorem wIdx_str {z : Str} {i : Int} {h : DH} {Q : QD} (hz : okS z) (h0 : 0 ≤ i) (hl : i < z.length) (l : z.length ≤ 16777216) (q : ∀ c, c < 0x110000 → Q (.str ⟨#[c]⟩) h) : wIdx (.str z) (.int i) h Q := by
  unfold wIdx
  refine ⟨l, ?_⟩
  have hi : i.toNat < z.cps.toList.length := by
    rw [Array.length_toList]
    have : z.length = z.cps.size := rfl
    omega
  have e : L2.atI z.cps.toList i = some z.cps.toList[i.toNat] := by
    unfold L2.atI
    rw [ix_int h0 (by rw [Array.length_toList]; exact hl)]
    show z.cps.toList[i.toNat]? = _
    rw [List.getElem?_eq_getElem hi]
  simp only [e]
  exact q _ (hz _ (List.getElem_mem hi))
theorem cutD_map {α β : Type} {f : α → β} {l : List α} {a b : Option Int} : cutD (l.map f) a b = (cutD l a b).map f := by
  unfold cutD
  rw [List.length_map, List.map_take, List.map_drop]
theorem cutD_mem {α : Type} {l : List α} {a b : Option Int} {x : α} (h : x ∈ cutD l a b) : x ∈ l := List.mem_of_mem_drop (List.mem_of_mem_take h)
theorem cutD_len {α : Type} {l : List α} {a b : Option Int} : (cutD l a b).length ≤ l.length := by
  unfold cutD
  rw [List.length_take, List.length_drop]
  omega
section
variable {S : Addr → Prop} {h : DH} {w k : Nat} {ds : List D}
theorem thg_tupA (m : Nat) (t : All S h w k ds) (l : ds.length ≤ m) : Thg S h (m * (w + 1)) (k + 1) (.tup ds) := (thg_tup t.thgs).mono (Nat.mul_le_mul_right _ l) (Nat.le_refl _)
theorem thg_lstA {a : Addr} (m : Nat) (n : ¬ S a) (e : h a = some (.lst ds)) (t : All S h w k ds) (l : ds.length ≤ m) : Thg S h (m * (w + 1)) (k + 1) (.ref a) := (thg_lst n e t.thgs).mono (Nat.mul_le_mul_right _ l) (Nat.le_refl _)
end
/-! ### weights of parts -/
theorem Thgs.split {S : Addr → Prop} {h : DH} {w k : Nat} {d : D} {ds : List D} (t : Thgs S h w k (d :: ds)) : ∃ a b, Thg S h a k d ∧ Thgs S h b k ds ∧ a + 1 + b ≤ w := by
  obtain ⟨ps, a, b, c⟩ := t
  cases a with
  | @cons _ _ p ps a1 a2 =>
    have h1 := b.s
    have h2 := b.l
    have h3 := b.w
    rw [PyData.showableAll, Bool.and_eq_true] at h1
    rw [PyData.leavesShortAll, Bool.and_eq_true] at h2
    rw [PyData.weightAll] at h3
    rw [PyData.depthAll] at c
    exact ⟨p.weight, PyData.weightAll ps, ⟨p, a1, ⟨h1.1, h2.1, Nat.le_refl _⟩, by omega⟩, ⟨ps, a2, ⟨h1.2, h2.2, Nat.le_refl _⟩, by omega⟩, by omega⟩
theorem Thgs.add {S : Addr → Prop} {h : DH} {a b w k : Nat} {d : D} {ds : List D} (x : Thg S h a k d) (y : Thgs S h b k ds) (l : a + 1 + b ≤ w) : Thgs S h w k (d :: ds) := by
  have := thgs_cons x y
  rw [Nat.max_self] at this
  exact this.mono l (Nat.le_refl _)
theorem Thgs.sub {S : Addr → Prop} {h : DH} {k : Nat} {xs ys : List D} (l : xs.Sublist ys) : ∀ {w : Nat}, Thgs S h w k ys → Thgs S h w k xs := by
  induction l with
  | slnil => exact id
  | cons a _ ih => exact fun t => ih t.cons.2
  | cons_cons a _ ih =>
    intro w t
    obtain ⟨u, v, tu, tv, l⟩ := t.split
    exact Thgs.add tu (ih tv) l
theorem Thgs.cut {S : Addr → Prop} {h : DH} {w k : Nat} {xs : List D} {a b : Option Int} (t : Thgs S h w k xs) : Thgs S h w k (cutD xs a b) :=
  t.sub (by unfold cutD; exact (List.take_sublist _ _).trans (List.drop_sublist _ _))
theorem Thgs.app {S : Addr → Prop} {h : DH} {k : Nat} {ys : List D} {b : Nat} (u : Thgs S h b k ys) : ∀ {xs : List D} {a : Nat}, Thgs S h a k xs → Thgs S h (a + b) k (xs ++ ys)
  | [], a, _ => u.mono (by omega) (Nat.le_refl _)
  | x :: xs, a, t => by
    obtain ⟨p, q, tp, tq, l⟩ := t.split
    exact Thgs.add tp (Thgs.app u tq) (by omega)
theorem Thgs.one {S : Addr → Prop} {h : DH} {a k : Nat} {d : D} (t : Thg S h a k d) : Thgs S h (a + 1) k [d] := Thgs.add t (thgs_nil.mono (Nat.le_refl _) (Nat.zero_le _)) (by omega)
theorem Thgs.rev {S : Addr → Prop} {h : DH} {k : Nat} : ∀ {xs : List D} {a : Nat}, Thgs S h a k xs → Thgs S h a k xs.reverse
  | [], _, t => t
  | x :: xs, a, t => by
    obtain ⟨p, q, tp, tq, l⟩ := t.split
    rw [List.reverse_cons]
    exact (Thgs.app (Thgs.one tp) (Thgs.rev tq)).mono (by omega) (Nat.le_refl _)
/-! ### how great the whole numbers of a thing are -/
mutual
def bdB (N : Nat) : D → Bool
  | .int i => decide (i.natAbs ≤ N)
  | .tup xs => bdBs N xs
  | .str x => x.cps.toList.all fun c => decide (c < 0x110000)
  | _ => true
def bdBs (N : Nat) : List D → Bool
  | [] => true
  | d :: ds => bdB N d && bdBs N ds
end
theorem bdBs_all {N : Nat} : ∀ {ds : List D}, bdBs N ds = ds.all (bdB N)
  | [] => by rw [bdBs]; rfl
  | d :: ds => by rw [bdBs, List.all_cons, bdBs_all]
theorem bdB_tup {N : Nat} {ds : List D} : bdB N (.tup ds) = true ↔ ∀ d ∈ ds, bdB N d = true := by rw [bdB, bdBs_all, List.all_eq_true]
theorem bdB_str {N : Nat} {x : Str} : bdB N (.str x) = true ↔ okS x := by
  rw [bdB, List.all_eq_true]
  unfold okS
  simp
theorem okS_strOk {x : Str} (h : okS x) : PyData.strOk x = true := by
  unfold PyData.strOk
  rw [Array.all_eq_true_iff_forall_mem]
  intro c hc
  exact decide_eq_true (h c (by simpa using hc))
mutual
theorem bdB_mono {N M : Nat} (l : N ≤ M) : ∀ {d : D}, bdB N d = true → bdB M d = true
  | .int i, h => by rw [bdB, decide_eq_true_eq] at *; omega
  | .tup xs, h => by rw [bdB] at *; exact bdBs_mono l h
  | .str x, h => by rw [bdB] at *; exact h
  | .non, _ | .bl _, _ | .ref _, _ | .kt _, _ | .fl _, _ => by rw [bdB] <;> simp
theorem bdBs_mono {N M : Nat} (l : N ≤ M) : ∀ {ds : List D}, bdBs N ds = true → bdBs M ds = true
  | [], _ => by rw [bdBs]
  | d :: ds, h => by
    rw [bdBs, Bool.and_eq_true] at *
    exact ⟨bdB_mono l h.1, bdBs_mono l h.2⟩
end
theorem okS_of (s : String) : okS (Str.ofString s) := fun c hc => by
  rw [PyProof.Rows.signs_ofString] at hc
  obtain ⟨d, _, rfl⟩ := List.mem_map.mp hc
  have z : d.toNat < 0x110000 := by
    rcases d.valid with z | z
    · exact Nat.lt_trans z (by decide)
    · exact z.2
  exact z
theorem tex_int {i : Int} (h : i.natAbs < 10 ^ 20) : okS (Str.ofString (toString i)) ∧ (Str.ofString (toString i)).length ≤ 21 := by
  refine ⟨okS_of _, ?_⟩
  have := int_text_length_le10 (a := i) (k := 20) (by decide) h
  rw [ofString_length]
  omega
theorem tex_int2 {i : Int} (h : i.natAbs < 10 ^ 31) : okS (Str.ofString (toString i)) ∧ (Str.ofString (toString i)).length ≤ 32 := by
  refine ⟨okS_of _, ?_⟩
  have := int_text_length_le10 (a := i) (k := 31) (by decide) h
  rw [ofString_length]
  omega
end DL

/-! DL, part T: stretches put together; lots -/
namespace DL
open PySem L2
theorem mx (i j : Int) : (if j > i then j else i) = max i j := by split <;> omega
theorem mn (i j : Int) : (if j < i then j else i) = min i j := by split <;> omega
def mrg (acc : List IP) (s : IP) : List IP := match acc.getLast? with
  | some l => if s.1 ≤ l.2 then acc.dropLast ++ [(l.1, max l.2 s.2)] else acc ++ [s]
  | none => acc ++ [s]
theorem mrg_nil {s : IP} : mrg [] s = [s] := rfl
theorem mrg_join {r : List IP} {l s : IP} (h : s.1 ≤ l.2) : mrg (r ++ [l]) s = r ++ [(l.1, max l.2 s.2)] := by
  unfold mrg
  rw [List.getLast?_concat]
  simp only [if_pos h, List.dropLast_concat]
theorem mrg_add {r : List IP} {l s : IP} (h : ¬ s.1 ≤ l.2) : mrg (r ++ [l]) s = r ++ [l] ++ [s] := by
  unfold mrg
  rw [List.getLast?_concat]
  simp only [if_neg h]
theorem mrg_len {acc : List IP} {s : IP} : (mrg acc s).length ≤ acc.length + 1 := by
  by_cases h : acc = []
  · subst h; simp [mrg]
  · obtain ⟨r, l, rfl⟩ := snoc h
    by_cases z : s.1 ≤ l.2
    · rw [mrg_join z]; simp
    · rw [mrg_add z]; simp
theorem fold_len {qs : List IP} : (qs.foldl mrg []).length ≤ qs.length := by
  have : ∀ (qs acc : List IP), (qs.foldl mrg acc).length ≤ acc.length + qs.length := by
    intro qs
    induction qs with
    | nil => intro acc; simp
    | cons q qs ih =>
      intro acc
      have h1 := ih (mrg acc q)
      have h2 := @mrg_len acc q
      rw [List.foldl_cons, List.length_cons]
      omega
  have := this qs []
  simpa using this
theorem ix_last {xs : List D} {x : D} : ixN (xs ++ [x]).length (-1) = some xs.length := by
  rw [ix_neg (by omega) (by rw [List.length_append, List.length_singleton]; omega)]
  congr 1
  rw [List.length_append, List.length_singleton]
  omega
theorem set_last {xs : List D} {x v : D} : (xs ++ [x]).set xs.length v = xs ++ [v] := by
  rw [List.set_append_right _ _ (Nat.le_refl _), Nat.sub_self]
  rfl

theorem mrg_lot {acc : List IP} {s : IP} (hl : Lot acc) (hs : s.1 < s.2) (hm : ∀ x ∈ acc, x.1 ≤ s.1) : Lot (mrg acc s) ∧ (∀ m, inn (mrg acc s) m ↔ inn acc m ∨ (s.1 ≤ m ∧ m < s.2)) ∧ ∀ t : IP, s.1 ≤ t.1 → ∀ x ∈ mrg acc s, x.1 ≤ t.1 := by
  by_cases h : acc = []
  · subst h
    rw [mrg_nil]
    refine ⟨⟨fun x hx => by rw [List.mem_singleton.mp hx]; exact hs, List.pairwise_singleton _ _⟩, fun m => ?_, fun t ht x hx => by rw [List.mem_singleton.mp hx]; exact ht⟩
    rw [inn_cons]
    constructor
    · rintro (z | ⟨y, hy, _⟩)
      · exact .inr z
      · cases hy
    · rintro (⟨y, hy, _⟩ | z)
      · cases hy
      · exact .inl z
  · obtain ⟨r, l, rfl⟩ := snoc h
    have hlm := hm l (by simp)
    have pl := hl.pos l (by simp)
    have app : ∀ (u : List IP) (m : Int), inn (r ++ u) m ↔ inn r m ∨ inn u m := fun u m => by
      unfold inn
      constructor
      · rintro ⟨y, hy, z⟩
        rcases List.mem_append.mp hy with hy | hy
        · exact .inl ⟨y, hy, z⟩
        · exact .inr ⟨y, hy, z⟩
      · rintro (⟨y, hy, z⟩ | ⟨y, hy, z⟩)
        · exact ⟨y, List.mem_append_left _ hy, z⟩
        · exact ⟨y, List.mem_append_right _ hy, z⟩
    have one : ∀ (u : IP) (m : Int), inn [u] m ↔ u.1 ≤ m ∧ m < u.2 := fun u m => by
      rw [inn_cons]
      constructor
      · rintro (z | ⟨y, hy, _⟩)
        · exact z
        · cases hy
      · exact .inl
    by_cases z : s.1 ≤ l.2
    · rw [mrg_join z]
      have pw := List.pairwise_append.mp hl.ris
      refine ⟨⟨fun x hx => ?_, List.pairwise_append.mpr ⟨pw.1, List.pairwise_singleton _ _, fun x hx y hy => ?_⟩⟩, fun m => ?_, fun t ht x hx => ?_⟩
      · rcases List.mem_append.mp hx with hx | hx
        · exact hl.pos x (List.mem_append_left _ hx)
        · rw [List.mem_singleton.mp hx]
          show l.1 < max l.2 s.2
          omega
      · rw [List.mem_singleton.mp hy]
        exact pw.2.2 x hx l (by simp)
      · rw [app, app, one, one]
        show (inn r m ∨ l.1 ≤ m ∧ m < max l.2 s.2) ↔ ((inn r m ∨ l.1 ≤ m ∧ m < l.2) ∨ s.1 ≤ m ∧ m < s.2)
        constructor
        · rintro (q | q)
          · exact .inl (.inl q)
          · by_cases w : m < l.2
            · exact .inl (.inr ⟨q.1, w⟩)
            · exact .inr (by omega)
        · rintro ((q | q) | q)
          · exact .inl q
          · exact .inr (by omega)
          · exact .inr (by omega)
      · rcases List.mem_append.mp hx with hx | hx
        · have := hm x (List.mem_append_left _ hx)
          omega
        · rw [List.mem_singleton.mp hx]
          show l.1 ≤ t.1
          omega
    · rw [mrg_add z]
      refine ⟨⟨fun x hx => ?_, List.pairwise_append.mpr ⟨hl.ris, List.pairwise_singleton _ _, fun x hx y hy => ?_⟩⟩, fun m => ?_, fun t ht x hx => ?_⟩
      · rcases List.mem_append.mp hx with hx | hx
        · exact hl.pos x hx
        · rw [List.mem_singleton.mp hx]
          exact hs
      · rw [List.mem_singleton.mp hy]
        rcases List.mem_append.mp hx with hx | hx
        · have := (List.pairwise_append.mp hl.ris).2.2 x hx l (by simp)
          omega
        · rw [List.mem_singleton.mp hx]
          omega
      · have app2 : inn (r ++ [l] ++ [s]) m ↔ inn (r ++ [l]) m ∨ inn [s] m := by
          unfold inn
          constructor
          · rintro ⟨y, hy, z⟩
            rcases List.mem_append.mp hy with hy | hy
            · exact .inl ⟨y, hy, z⟩
            · exact .inr ⟨y, hy, z⟩
          · rintro (⟨y, hy, z⟩ | ⟨y, hy, z⟩)
            · exact ⟨y, List.mem_append_left _ hy, z⟩
            · exact ⟨y, List.mem_append_right _ hy, z⟩
        rw [app2, one]
      · rcases List.mem_append.mp hx with hx | hx
        · have := hm x hx
          omega
        · rw [List.mem_singleton.mp hx]
          exact ht
theorem fold_lot : ∀ {qs acc : List IP}, Lot acc → (∀ x ∈ qs, x.1 < x.2) → qs.Pairwise le2 → (∀ x ∈ acc, ∀ q ∈ qs, x.1 ≤ q.1) → Lot (qs.foldl mrg acc) ∧ ∀ m, inn (qs.foldl mrg acc) m ↔ inn acc m ∨ inn qs m
  | [], acc, hl, _, _, _ => ⟨hl, fun m => ⟨.inl, fun z => z.elim id fun ⟨y, hy, _⟩ => by cases hy⟩⟩
  | s :: qs, acc, hl, hp, hs, hm => by
    obtain ⟨a, b, c⟩ := mrg_lot hl (hp s (by simp)) fun x hx => hm x hx s (by simp)
    have hs' := List.pairwise_cons.mp hs
    obtain ⟨d, e⟩ := fold_lot (qs := qs) a (fun x hx => hp x (List.mem_cons_of_mem _ hx)) hs'.2 fun x hx q hq => by
      refine c q ?_ x hx
      have := hs'.1 q hq
      unfold le2 at this
      omega
    rw [List.foldl_cons]
    refine ⟨d, fun m => ?_⟩
    rw [e m, b m, inn_cons]
    constructor
    · rintro ((z | z) | z)
      · exact .inl z
      · exact .inr (.inl z)
      · exact .inr (.inr z)
    · rintro (z | z | z)
      · exact .inl (.inl z)
      · exact .inl (.inr z)
      · exact .inr z
theorem fold_self : ∀ {qs acc : List IP}, Lot (acc ++ qs) → qs.foldl mrg acc = acc ++ qs
  | [], acc, _ => by simp
  | s :: qs, acc, hl => by
    have e : mrg acc s = acc ++ [s] := by
      by_cases h : acc = []
      · subst h; rfl
      · obtain ⟨r, l, rfl⟩ := snoc h
        refine mrg_add ?_
        have := (List.pairwise_append.mp hl.ris).2.2 l (by simp) s (by simp)
        omega
    rw [List.foldl_cons, e, fold_self (by rw [List.append_assoc]; exact hl), List.append_assoc]
    rfl
theorem le2_anti {a b : IP} (h : le2 a b) (h' : le2 b a) : a = b := by
  unfold le2 at h h'
  obtain ⟨a1, a2⟩ := a
  obtain ⟨b1, b2⟩ := b
  simp only at h h'
  have e1 : a1 = b1 := by omega
  have e2 : a2 = b2 := by omega
  rw [e1, e2]
theorem srt_uniq : ∀ {l l' : List IP}, l.Perm l' → l.Pairwise le2 → l'.Pairwise le2 → l = l'
  | [], l', p, _, _ => by rw [List.perm_nil.mp p.symm]
  | x :: l, [], p, _, _ => by cases List.perm_nil.mp p
  | x :: l, y :: l', p, h, h' => by
    have e : x = y := by
      have hx : x ∈ y :: l' := p.mem_iff.mp (by simp)
      have hy : y ∈ x :: l := p.mem_iff.mpr (by simp)
      rcases List.mem_cons.mp hx with z | z
      · exact z
      · rcases List.mem_cons.mp hy with w | w
        · exact w.symm
        · exact le2_anti ((List.pairwise_cons.mp h).1 y w) ((List.pairwise_cons.mp h').1 x z)
    subst e
    rw [srt_uniq (List.Perm.cons_inv p) (List.pairwise_cons.mp h).2 (List.pairwise_cons.mp h').2]
theorem lot_srt {l : List IP} (h : Lot l) : l.Pairwise le2 := by
  refine h.ris.imp_of_mem fun {x y} hx hy z => ?_
  have := h.pos x hx
  exact .inl (by omega)
/-! ### what a lot is, said of things -/
def strD : D → Bool
  | .tup [x, y] => match x, y with
    | .int a, .int b => decide (a < b)
    | _, _ => false
  | _ => false
def lotB : Option Int → List D → Bool
  | _, [] => true
  | last, d :: r => match d with
    | .tup [x, y] => match x, y with
      | .int a, .int b => decide (a < b) && ((match last with | none => true | some l => decide (l < a)) && lotB (some b) r)
      | _, _ => false
    | _ => false
theorem strD_ip {d : D} (h : strD d = true) : ∃ p : IP, d = ipD p ∧ p.1 < p.2 := by
  unfold strD at h
  split at h
  · split at h
    · exact ⟨(_, _), rfl, of_decide_eq_true h⟩
    · cases h
  · cases h
theorem all_ip : ∀ {xs : List D}, xs.all strD = true → ∃ ps : List IP, xs = pL ps ∧ ∀ p ∈ ps, p.1 < p.2
  | [], _ => ⟨[], rfl, by simp⟩
  | d :: xs, h => by
    rw [List.all_cons, Bool.and_eq_true] at h
    obtain ⟨p, rfl, hp⟩ := strD_ip h.1
    obtain ⟨ps, rfl, hps⟩ := all_ip h.2
    refine ⟨p :: ps, rfl, fun q hq => ?_⟩
    rcases List.mem_cons.mp hq with rfl | hq
    · exact hp
    · exact hps q hq
theorem lotB_str : ∀ {xs : List D} {last : Option Int}, lotB last xs = true → xs.all strD = true
  | [], _, _ => rfl
  | d :: xs, last, h => by
    unfold lotB at h
    split at h
    · split at h
      · rw [Bool.and_eq_true, Bool.and_eq_true] at h
        rw [List.all_cons, lotB_str h.2.2, Bool.and_true]
        exact h.1
      · cases h
    · cases h
def adj (ps : List IP) : List Bool := (ps.zip (ps.drop 1)).map fun p => decide (p.1.2 < p.2.1)
theorem lotB_adj : ∀ {ps : List IP}, (∀ p ∈ ps, p.1 < p.2) → lotB none (pL ps) = (adj ps).all id
  | [], _ => rfl
  | [x], h => by
    have := h x (by simp)
    show (decide (x.1 < x.2) && (true && true)) = true
    rw [decide_eq_true this]
    rfl
  | x :: y :: r, h => by
    have h1 := h x (by simp)
    have h2 := h y (by simp)
    have ih := lotB_adj (ps := y :: r) fun p hp => h p (List.mem_cons_of_mem _ hp)
    have e1 : lotB none (pL (x :: y :: r)) = (decide (x.1 < x.2) && (true && (decide (y.1 < y.2) && (decide (x.2 < y.1) && lotB (some y.2) (pL r))))) := rfl
    have e2 : lotB none (pL (y :: r)) = (decide (y.1 < y.2) && (true && lotB (some y.2) (pL r))) := rfl
    have e3 : adj (x :: y :: r) = decide (x.2 < y.1) :: adj (y :: r) := rfl
    rw [e2, decide_eq_true h2] at ih
    rw [e1, e3, List.all_cons, ← ih, decide_eq_true h1, decide_eq_true h2]
    simp
theorem lotB_lot {l : List IP} (h : Lot l) : lotB none (pL l) = true := by
  rw [lotB_adj h.pos, List.all_eq_true]
  intro b hb
  obtain ⟨p, hp, rfl⟩ := List.mem_map.mp hb
  obtain ⟨j, hj, e⟩ := List.getElem_of_mem hp
  rw [List.getElem_zip] at e
  have hj1 : j < l.length := by rw [List.length_zip] at hj; omega
  have hj2 : j + 1 < l.length := by rw [List.length_zip, List.length_drop] at hj; omega
  have := List.pairwise_iff_getElem.mp h.ris j (j + 1) hj1 hj2 (by omega)
  rw [← e]
  refine decide_eq_true ?_
  have e2 : (l.drop 1)[j]'(by rw [List.length_zip] at hj; omega) = l[j + 1] := by
    rw [List.getElem_drop]
    congr 1
    omega
  show l[j].2 < ((l.drop 1)[j]'(by rw [List.length_zip] at hj; omega)).1
  rw [e2]
  exact this
end DL

/-! DL, part R: behind the last end; until when one rests -/
namespace DL
open PySem L2
/-- all minutes of some stretches -/
def tot (A : List IP) : Int := (A.map fun x => x.2 - x.1).sum
theorem ahd_tot {m : Int} : ∀ {A : List IP}, (∀ x ∈ A, x.1 ≤ m ∧ x.2 ≤ m) → ahd m A = tot A
  | [], _ => rfl
  | x :: r, h => by
    have h1 := h x (by simp)
    rw [ahd, if_pos h1.1, if_neg (by omega), ahd_tot fun y hy => h y (List.mem_cons_of_mem _ hy)]
    unfold tot
    rw [List.map_cons, List.sum_cons]
/-- the state behind a lot -/
theorem st_end {long m : Int} : ∀ {gs : List (List IP)} {s : Stt} {A : List IP}, OK long gs → Lot gs.flatten → (∀ x, gs.flatten.head? = some x → nov long s.2.2 x.1 = true) → gs.getLast? = some A → (∀ x ∈ gs.flatten, x.1 ≤ m) →
    (gs.flatten.foldl (stp long m) s).1 = some (beg A) ∧ (gs.flatten.foldl (stp long m) s).2.1 = ahd m A ∧ ∀ x, A.getLast? = some x → (gs.flatten.foldl (stp long m) s).2.2 = some x.2
  | [], _, _, _, _, _, e, _ => by cases e
  | [B], s, A, o, hl, h1, e, hm => by
    have e : B = A := by simpa using e
    subst e
    have fl : [B].flatten = B := by simp
    rw [fl] at hl h1 hm ⊢
    cases B with
    | nil => exact absurd rfl (o.ne [] (by simp))
    | cons x r =>
      obtain ⟨a, b⟩ := stp_beg (long := long) (m := m) (s := s) hl (h1 x rfl) (o.inn _ (by simp)) (hm x (by simp))
      exact ⟨a, b, fun y hy => stp_last hm hy⟩
  | B :: C :: gs, s, A, o, hl, h1, e, hm => by
    rw [List.getLast?_cons_cons] at e
    rw [List.flatten_cons] at hl h1 hm ⊢
    rw [List.foldl_append]
    have nB := o.ne B (by simp)
    refine st_end o.tail hl.right (fun x hx => ?_) e fun x hx => hm x (List.mem_append_right _ hx)
    obtain ⟨r, y, rfl⟩ : ∃ r y, B = r ++ [y] := ⟨B.dropLast, B.getLast nB, (List.dropLast_concat_getLast nB).symm⟩
    have hlast : (r ++ [y]).getLast? = some y := by simp
    rw [stp_last (x := y) (fun z hz => hm z (List.mem_append_left _ hz)) hlast]
    have nC := o.ne C (by simp)
    cases C with
    | nil => exact absurd rfl nC
    | cons c C =>
      rw [List.flatten_cons] at hx
      have hx : c = x := by simpa using hx
      subst hx
      have := o.out 0 _ _ y c rfl rfl hlast rfl
      unfold nov
      exact decide_eq_true (by omega)
/-- a minute of work behind a spell: is a rest broken by it -/
def bar (r : RT) (a b e m : Int) : Bool := decide (m - e < r.long) && (if r.w then decide (r.lim ≤ a) else decide (r.lim ≤ m - b))
theorem brk_bar {r : RT} {L : List IP} {a b e m : Int} (hs : stt r.long L m = (some b, a, some e)) (hr : 1 ≤ r.lim) : brkL r (L ++ [(m, m + 1)]) m = bar r a b e m := by
  have st : stt r.long (L ++ [(m, m + 1)]) m = stp r.long m (some b, a, some e) (m, m + 1) := by
    unfold stt at hs ⊢
    rw [List.foldl_append, hs]
    rfl
  unfold brkL bar
  rw [st]
  unfold stp
  rw [if_pos (Int.le_refl m)]
  have i1 : (if m < m + 1 then m else m + 1) = m := if_pos (by omega)
  simp only [i1]
  by_cases g : m - e < r.long
  · have : nov r.long (some e) m = false := by unfold nov; exact decide_eq_false (by omega)
    simp only [this, Bool.false_eq_true, ↓reduceIte, decide_eq_true g, Bool.true_and]
    have : a + m - m = a := by omega
    rw [this]
    rfl
  · have : nov r.long (some e) m = true := by unfold nov; exact decide_eq_true (by omega)
    simp only [this, ↓reduceIte, decide_eq_false g, Bool.false_and]
    have h1 : decide (r.lim ≤ 0 + m - m) = false := decide_eq_false (by omega)
    have h2 : decide (r.lim ≤ m - (some m).getD 0) = false := decide_eq_false (by show ¬ r.lim ≤ m - m; omega)
    rw [h1, h2]
    split <;> rfl
/-! ### sweeps -/
abbrev Bq := (Int → Bool) × Int
structure Bar (e : Int) (q : Bq) : Prop where
  lt : ∀ m, q.1 m = true → m - e < q.2
  up : ∀ m m', q.1 m = true → m ≤ m' → m' - e < q.2 → q.1 m' = true
def swp (e : Int) (m : Int) (q : Bq) : Int := if q.1 m then e + q.2 else m
section
variable {e : Int}
theorem swp_le {W : Int} : ∀ {l : List Bq} {m : Int}, (∀ q ∈ l, Bar e q) → (∀ q ∈ l, q.1 W = false) → m ≤ W → l.foldl (swp e) m ≤ W ∧ m ≤ l.foldl (swp e) m
  | [], m, _, _, h => ⟨h, Int.le_refl _⟩
  | q :: l, m, hb, hw, h => by
    have b := hb q (by simp)
    have w := hw q (by simp)
    have s : swp e m q ≤ W ∧ m ≤ swp e m q := by
      unfold swp
      cases g : q.1 m with
      | false => exact ⟨h, Int.le_refl _⟩
      | true =>
        have l1 := b.lt m g
        have l2 : ¬ W - e < q.2 := fun z => by
          have := b.up m W g h z
          rw [w] at this
          cases this
        rw [if_pos rfl]
        omega
    have ih := swp_le (W := W) (l := l) (m := swp e m q) (fun x hx => hb x (List.mem_cons_of_mem _ hx)) (fun x hx => hw x (List.mem_cons_of_mem _ hx)) s.1
    rw [List.foldl_cons]
    exact ⟨ih.1, Int.le_trans s.2 ih.2⟩
theorem swp_up : ∀ {l : List Bq} {m : Int}, (∀ q ∈ l, Bar e q) → m ≤ l.foldl (swp e) m
  | [], m, _ => Int.le_refl _
  | q :: l, m, hb => by
    have ih := swp_up (l := l) (m := swp e m q) fun x hx => hb x (List.mem_cons_of_mem _ hx)
    rw [List.foldl_cons]
    refine Int.le_trans ?_ ih
    unfold swp
    cases g : q.1 m with
    | false => exact Int.le_refl _
    | true =>
      have := (hb q (by simp)).lt m g
      rw [if_pos rfl]
      omega
theorem swp_or : ∀ {l : List Bq} {m : Int}, (∀ q ∈ l, Bar e q) → (l.foldl (swp e) m = m ∧ ∀ q ∈ l, q.1 m = false) ∨ ∃ q ∈ l, m - e < q.2 ∧ q.2 ≤ l.foldl (swp e) m - e
  | [], m, _ => .inl ⟨rfl, fun _ h => by cases h⟩
  | q :: l, m, hb => by
    have hb' : ∀ x ∈ l, Bar e x := fun x hx => hb x (List.mem_cons_of_mem _ hx)
    rw [List.foldl_cons]
    unfold swp
    cases g : q.1 m with
    | false =>
      rw [if_neg Bool.false_ne_true]
      rcases swp_or (l := l) (m := m) hb' with ⟨a, b⟩ | ⟨x, hx, a, b⟩
      · refine .inl ⟨a, fun x hx => ?_⟩
        rcases List.mem_cons.mp hx with rfl | hx
        · exact g
        · exact b x hx
      · exact .inr ⟨x, List.mem_cons_of_mem _ hx, a, b⟩
    | true =>
      rw [if_pos rfl]
      have := swp_up (l := l) (m := e + q.2) hb'
      exact .inr ⟨q, by simp, (hb q (by simp)).lt m g, by show q.2 ≤ l.foldl (swp e) (e + q.2) - e; omega⟩
def cnt (e m : Int) (l : List Bq) : Nat := l.countP fun q => decide (m - e < q.2)
theorem cnt_le {m m' : Int} (h : m ≤ m') : ∀ l : List Bq, cnt e m' l ≤ cnt e m l
  | [] => Nat.le_refl _
  | q :: l => by
    have ih := cnt_le h l
    unfold cnt at ih ⊢
    rw [List.countP_cons, List.countP_cons]
    by_cases g : m' - e < q.2
    · rw [decide_eq_true g, decide_eq_true (by omega : m - e < q.2)]
      omega
    · rw [decide_eq_false g]
      simp only [Bool.false_eq_true, ↓reduceIte]
      omega
theorem cnt_lt {m m' : Int} (h : m ≤ m') {x : Bq} : ∀ {l : List Bq}, x ∈ l → m - e < x.2 → x.2 ≤ m' - e → cnt e m' l < cnt e m l
  | [], hx, _, _ => by cases hx
  | q :: l, hx, a, b => by
    have le := cnt_le (e := e) h l
    unfold cnt at le ⊢
    rw [List.countP_cons, List.countP_cons]
    rcases List.mem_cons.mp hx with rfl | hx
    · rw [decide_eq_false (by omega : ¬ m' - e < x.2), decide_eq_true a]
      simp only [Bool.false_eq_true, ↓reduceIte]
      omega
    · have ih := cnt_lt h hx a b
      unfold cnt at ih
      by_cases g : m' - e < q.2
      · rw [decide_eq_true g, decide_eq_true (by omega : m - e < q.2)]
        omega
      · rw [decide_eq_false g]
        simp only [Bool.false_eq_true, ↓reduceIte]
        omega
def itr (e : Int) (l : List Bq) (m : Int) : Nat → Int
  | 0 => m
  | n + 1 => l.foldl (swp e) (itr e l m n)
theorem itr_or {l : List Bq} (hb : ∀ q ∈ l, Bar e q) {m : Int} : ∀ n, (∀ q ∈ l, q.1 (itr e l m n) = false) ∨ cnt e (itr e l m n) l + n ≤ l.length
  | 0 => .inr (by rw [Nat.add_zero]; exact List.countP_le_length)
  | n + 1 => by
    rw [itr]
    rcases swp_or (l := l) (m := itr e l m n) hb with ⟨a, b⟩ | ⟨x, hx, a, b⟩
    · exact .inl (by rw [a]; exact b)
    · rcases itr_or hb (m := m) n with h | h
      · left
        have : l.foldl (swp e) (itr e l m n) = itr e l m n := by
          have := swp_le (W := itr e l m n) hb h (Int.le_refl _)
          omega
        rw [this]
        exact h
      · right
        have := cnt_lt (e := e) (swp_up (l := l) (m := itr e l m n) hb) hx a b
        omega
/-- after so many turns as there are rests none bars any more, and it is the least minute -/
theorem itr_fin {l : List Bq} (hb : ∀ q ∈ l, Bar e q) {m W : Int} (h0 : m ≤ W) (hw : ∀ q ∈ l, q.1 W = false) (least : ∀ k, m ≤ k → k < W → ∃ q ∈ l, q.1 k = true) : itr e l m l.length = W := by
  have le : ∀ n, itr e l m n ≤ W ∧ m ≤ itr e l m n := by
    intro n
    induction n with
    | zero => exact ⟨h0, Int.le_refl _⟩
    | succ n ih =>
      have := swp_le (W := W) hb hw ih.1
      rw [itr]
      omega
  have un : ∀ q ∈ l, q.1 (itr e l m l.length) = false := by
    rcases itr_or hb (m := m) l.length with h | h
    · exact h
    · intro q hq
      have c0 : cnt e (itr e l m l.length) l = 0 := by omega
      cases g : q.1 (itr e l m l.length) with
      | false => rfl
      | true =>
        have := (hb q hq).lt _ g
        have := List.countP_eq_zero.mp c0 q hq
        simp only [decide_eq_true_eq] at this
        omega
  have := le l.length
  by_cases g : itr e l m l.length < W
  · obtain ⟨q, hq, z⟩ := least _ this.2 g
    rw [un q hq] at z
    cases z
  · omega
end
theorem bar_Bar {r : RT} {a b e : Int} : Bar e (bar r a b e, r.long) := by
  refine ⟨fun m h => ?_, fun m m' h l l2 => ?_⟩
  · unfold bar at h
    simp only [Bool.and_eq_true, decide_eq_true_eq] at h
    exact h.1
  · unfold bar at h ⊢
    simp only [Bool.and_eq_true] at h ⊢
    refine ⟨decide_eq_true l2, ?_⟩
    cases hw : r.w with
    | true => rw [hw] at h; exact h.2
    | false =>
      rw [hw] at h
      have := of_decide_eq_true h.2
      exact decide_eq_true (by omega)
/-- the last spell of a lot -/
def Lst (lot : List IP) (g : Int) (A : List IP) : Prop := ∃ gs, OK g gs ∧ gs.flatten = lot ∧ gs.getLast? = some A
theorem lot_le {l : List IP} {x y : IP} (h : Lot (l ++ [x])) (hy : y ∈ l ++ [x]) : y.1 < x.2 ∧ y.2 ≤ x.2 := by
  have p := h.pos y hy
  have p2 := h.pos x (by simp)
  rcases List.mem_append.mp hy with hy | hy
  · have := (List.pairwise_append.mp h.ris).2.2 y hy x (by simp)
    omega
  · rw [List.mem_singleton.mp hy] at p ⊢
    omega
theorem Lst.last {l : List IP} {x : IP} {g : Int} {A : List IP} (h : Lst (l ++ [x]) g A) : ∃ A', A = A' ++ [x] := by
  obtain ⟨gs, ok, fl, la⟩ := h
  obtain ⟨g0, rfl⟩ : ∃ g0, gs = g0 ++ [A] := by
    obtain ⟨r, y, rfl⟩ := snoc (l := gs) (fun z => by subst z; cases la)
    refine ⟨r, ?_⟩
    have : y = A := by simpa using la
    rw [this]
  obtain ⟨r, y, rfl⟩ := snoc (ok.ne A (by simp))
  refine ⟨r, ?_⟩
  rw [List.flatten_append] at fl
  have e : (g0.flatten ++ r) ++ [y] = l ++ [x] := by rw [← fl]; simp
  have := (List.append_inj' e rfl).2
  simp only [List.cons.injEq, and_true] at this
  rw [this]
theorem Lst.state {l : List IP} {x : IP} {g m : Int} {A : List IP} (h : Lst (l ++ [x]) g A) (hl : Lot (l ++ [x])) (hm : x.2 ≤ m) : stt g (l ++ [x]) m = (some (beg A), tot A, some x.2) := by
  obtain ⟨A', eA⟩ := h.last
  obtain ⟨gs, ok, fl, la⟩ := h
  have le : ∀ y ∈ gs.flatten, y.1 ≤ m ∧ y.2 ≤ m := fun y hy => by
    rw [fl] at hy
    have := lot_le hl hy
    omega
  obtain ⟨a, b, c⟩ := st_end (long := g) (m := m) (s := (none, 0, none)) ok (by rw [fl]; exact hl) (fun _ _ => rfl) la fun y hy => (le y hy).1
  have c := c x (by rw [eA]; simp)
  have mem : ∀ y ∈ A, y ∈ gs.flatten := fun y hy => List.mem_flatten.mpr ⟨A, List.mem_of_getLast? la, hy⟩
  rw [ahd_tot fun y hy => le y (mem y hy)] at b
  unfold stt
  rw [fl] at a b c
  exact Prod.ext a (Prod.ext b c)
theorem Lst.bar {l : List IP} {x : IP} {r : RT} {m : Int} {A : List IP} (h : Lst (l ++ [x]) r.long A) (hl : Lot (l ++ [x])) (hm : x.2 ≤ m) (h1 : 1 ≤ r.lim) : brkL r (l ++ [x] ++ [(m, m + 1)]) m = bar r (tot A) (beg A) x.2 m :=
  brk_bar (h.state hl hm) h1
theorem tot_sc {base u : Int} : ∀ {A : List IP}, tot (A.map (scP base u)) = u * tot A
  | [] => by unfold tot; simp
  | x :: r => by
    have ih := tot_sc (base := base) (u := u) (A := r)
    unfold tot at ih ⊢
    rw [List.map_cons, List.map_cons, List.sum_cons, ih, List.map_cons, List.sum_cons, Int.mul_add, Int.mul_sub]
    show base + u * x.2 - (base + u * x.1) + _ = _
    omega
theorem mul_le {u a b : Int} (hu : 0 < u) : u * a ≤ u * b ↔ a ≤ b := ⟨fun h => Int.le_of_mul_le_mul_left h hu, fun h => Int.mul_le_mul_of_nonneg_left h (Int.le_of_lt hu)⟩
/-- how much lies ahead is not above the minute -/
theorem stp_ahd {long m : Int} (hm : 0 ≤ m) : ∀ {l : List IP} {s : Stt}, Lot l → (∀ x ∈ l, 0 ≤ x.1) → s.2.1 ≤ m → 0 ≤ s.2.1 → (∀ y, s.2.2 = some y → s.2.1 ≤ y ∧ ∀ x ∈ l, y < x.1) → (s.2.2 = none → s.2.1 = 0) → (l.foldl (stp long m) s).2.1 ≤ m ∧ 0 ≤ (l.foldl (stp long m) s).2.1
  | [], s, _, _, h, h0, _, _ => ⟨h, h0⟩
  | x :: r, (b, a, l), hl, hp, h, h0, hy, hn => by
    rw [List.foldl_cons]
    have px := hp x (by simp)
    have lx := hl.pos x (by simp)
    have rx := (List.pairwise_cons.mp hl.ris).1
    unfold stp
    by_cases g : x.1 ≤ m
    · rw [if_pos g]
      have ax : a ≤ x.1 := by
        cases l with
        | none => have := hn rfl; simp only at this; omega
        | some y =>
          have := hy y rfl
          have := this.2 x (by simp)
          simp only at *
          omega
      simp only at h0
      refine stp_ahd hm hl.tail (fun y hy => hp y (List.mem_cons_of_mem _ hy)) ?_ ?_ (fun y e => ?_) (fun e => by cases e)
      · show (if _ then 0 else a) + (if m < x.2 then m else x.2) - x.1 ≤ m
        split <;> split <;> omega
      · show 0 ≤ (if _ then 0 else a) + (if m < x.2 then m else x.2) - x.1
        split <;> split <;> omega
      · have e : x.2 = y := by simpa using e
        subst e
        refine ⟨?_, rx⟩
        show (if _ then 0 else a) + (if m < x.2 then m else x.2) - x.1 ≤ x.2
        split <;> split <;> omega
    · rw [if_neg g]
      exact stp_ahd hm hl.tail (fun y hy => hp y (List.mem_cons_of_mem _ hy)) h h0 (fun y e => ⟨(hy y e).1, fun z hz => (hy y e).2 z (List.mem_cons_of_mem _ hz)⟩) hn
theorem stt_ahd {long m : Int} {l : List IP} (hm : 0 ≤ m) (hl : Lot l) (hp : ∀ x ∈ l, 0 ≤ x.1) : (stt long l m).2.1 ≤ m ∧ 0 ≤ (stt long l m).2.1 :=
  stp_ahd hm hl hp hm (Int.le_refl _) (fun y e => by cases e) fun _ => rfl
/-- far behind a lot no rest is broken -/
theorem brk_far {r : RT} {l : List IP} {x : IP} {m : Int} (hr : 1 ≤ r.lim) (hm : ∀ y ∈ l ++ [x], y.1 ≤ m) (g : r.long ≤ m - x.2) : brkL r (l ++ [x] ++ [(m, m + 1)]) m = false := by
  have la : (stt r.long (l ++ [x]) m).2.2 = some x.2 := stp_last hm (by simp)
  have st : stt r.long (l ++ [x] ++ [(m, m + 1)]) m = stp r.long m (stt r.long (l ++ [x]) m) (m, m + 1) := by
    unfold stt
    rw [List.foldl_append]
    rfl
  unfold brkL
  rw [st]
  unfold stp
  rw [if_pos (Int.le_refl m)]
  have i1 : (if m < m + 1 then m else m + 1) = m := if_pos (by omega)
  simp only [i1, la]
  have : nov r.long (some x.2) m = true := by unfold nov; exact decide_eq_true (by omega)
  simp only [this, ↓reduceIte]
  have h1 : decide (r.lim ≤ 0 + m - m) = false := decide_eq_false (by omega)
  have h2 : decide (r.lim ≤ m - (some m).getD 0) = false := decide_eq_false (by show ¬ r.lim ≤ m - m; omega)
  rw [h1, h2]
  split <;> rfl
/-! ### how long the last stretch may last -/
theorem stp_same {long m m' : Int} : ∀ {l : List IP} {s : Stt}, (∀ y ∈ l, y.1 ≤ m ∧ y.2 ≤ m ∧ y.1 ≤ m' ∧ y.2 ≤ m') → l.foldl (stp long m) s = l.foldl (stp long m') s
  | [], _, _ => rfl
  | y :: r, s, h => by
    have hy := h y (by simp)
    have e : stp long m s y = stp long m' s y := by
      unfold stp
      rw [if_pos hy.1, if_pos hy.2.2.1]
      have i1 : (if m < y.2 then m else y.2) = y.2 := if_neg (by omega)
      have i2 : (if m' < y.2 then m' else y.2) = y.2 := if_neg (by omega)
      rw [i1, i2]
    rw [List.foldl_cons, List.foldl_cons, e]
    exact stp_same fun z hz => h z (List.mem_cons_of_mem _ hz)
/-- to ahead of which minute -/
def led (r : RT) (A : List IP) (e : Int) : Int := if r.w then e + r.lim - tot A else beg A + r.lim
theorem Lst.go {l : List IP} {x : IP} {r : RT} {m : Int} {A : List IP} (h : Lst (l ++ [x]) r.long A) (hl : Lot (l ++ [x])) (hm : x.1 ≤ m) : brkL r (l ++ [(x.1, m + 1)]) m = decide (led r A x.2 ≤ m) := by
  have st := h.state hl (Int.le_refl x.2)
  have px := hl.pos x (by simp)
  have le : ∀ y ∈ l, y.1 ≤ m ∧ y.2 ≤ m ∧ y.1 ≤ x.2 ∧ y.2 ≤ x.2 := fun y hy => by
    have h1 := hl.pos y (by simp [hy])
    have h2 := (List.pairwise_append.mp hl.ris).2.2 y hy x (by simp)
    omega
  unfold stt at st
  rw [List.foldl_append, ← stp_same le] at st
  have e2 : stt r.long (l ++ [(x.1, m + 1)]) m = stp r.long m (l.foldl (stp r.long m) (none, 0, none)) (x.1, m + 1) := by
    unfold stt
    rw [List.foldl_append]
    rfl
  unfold brkL
  rw [e2]
  generalize l.foldl (stp r.long m) (none, 0, none) = s at *
  have st : stp r.long x.2 s x = (some (beg A), tot A, some x.2) := st
  unfold stp at st ⊢
  rw [if_pos (by omega : x.1 ≤ x.2), if_neg (by omega : ¬ x.2 < x.2)] at st
  rw [if_pos hm]
  have i1 : (if m < m + 1 then m else m + 1) = m := if_pos (by omega)
  simp only [i1]
  have s1 := congrArg Prod.fst st
  have s2 := congrArg (fun z => z.2.1) st
  simp only at s1 s2
  rw [s1]
  unfold led
  cases r.w with
  | true =>
    simp only [↓reduceIte]
    refine decide_eq_decide.mpr ?_
    constructor <;> intro z <;> omega
  | false =>
    simp only [Bool.false_eq_true, ↓reduceIte, Option.getD_some]
    refine decide_eq_decide.mpr ?_
    constructor <;> intro z <;> omega
theorem Lst.led_ge {l : List IP} {x : IP} {r : RT} {A : List IP} (h : Lst (l ++ [x]) r.long A) (hl : Lot (l ++ [x])) (un : ∀ m, inn (l ++ [x]) m → brkL r (l ++ [x]) m = false) : x.2 ≤ led r A x.2 := by
  have px := hl.pos x (by simp)
  have := h.go (m := x.2 - 1) hl (by omega)
  have ex : (x.1, x.2 - 1 + 1) = x := Prod.ext rfl (by show x.2 - 1 + 1 = x.2; omega)
  rw [ex, un (x.2 - 1) ⟨x, by simp, by omega, by omega⟩] at this
  have := of_decide_eq_false this.symm
  omega
theorem ok_ex (g : Int) : ∀ l : List IP, ∃ gs, OK g gs ∧ gs.flatten = l.reverse
  | [] => ⟨[], .nil, rfl⟩
  | s :: l => by
    obtain ⟨gs, ok, fl⟩ := ok_ex g l
    rw [List.reverse_cons, ← fl]
    by_cases e : gs = []
    · subst e
      exact ⟨[[s]], .one, rfl⟩
    · obtain ⟨g0, A, rfl⟩ := snoc e
      obtain ⟨A', y, rfl⟩ := snoc (ok.ne A (by simp))
      by_cases c : s.1 - y.2 < g
      · exact ⟨_, ok.grow c, by simp⟩
      · exact ⟨_, ok.add c, by simp⟩
theorem lst_ex (g : Int) (l : List IP) (x : IP) : ∃ A, Lst (l ++ [x]) g A := by
  obtain ⟨gs, ok, fl⟩ := ok_ex g (l ++ [x]).reverse
  rw [List.reverse_reverse] at fl
  have ne : gs ≠ [] := fun z => by
    subst z
    simp at fl
  obtain ⟨g0, A, rfl⟩ := snoc ne
  exact ⟨A, _, ok, fl, by simp⟩
end DL

/-! DL, part S: two lots: their minutes -/
namespace DL
open PySem L2
theorem inn_nil {m : Int} : ¬ inn [] m := fun ⟨_, h, _⟩ => by cases h
theorem inn_app {A B : List IP} {m : Int} : inn (A ++ B) m ↔ inn A m ∨ inn B m := by
  unfold inn
  constructor
  · rintro ⟨y, hy, z⟩
    rcases List.mem_append.mp hy with hy | hy
    · exact .inl ⟨y, hy, z⟩
    · exact .inr ⟨y, hy, z⟩
  · rintro (⟨y, hy, z⟩ | ⟨y, hy, z⟩)
    · exact ⟨y, List.mem_append_left _ hy, z⟩
    · exact ⟨y, List.mem_append_right _ hy, z⟩
theorem inn_one {x : IP} {m : Int} : inn [x] m ↔ x.1 ≤ m ∧ m < x.2 := by
  rw [inn_cons]
  exact ⟨fun h => h.elim id fun z => absurd z inn_nil, .inl⟩
theorem lot_gt {x : IP} {r : List IP} {m : Int} (h : Lot (x :: r)) (i : inn r m) : x.2 < m := inn_gt h i
theorem lot_uniq : ∀ {A B : List IP}, Lot A → Lot B → (∀ m, inn A m ↔ inn B m) → A = B
  | [], [], _, _, _ => rfl
  | [], y :: B, _, hB, h => by
    have := hB.pos y (by simp)
    exact absurd ((h y.1).mpr ⟨y, by simp, by omega, this⟩) inn_nil
  | x :: A, [], hA, _, h => by
    have := hA.pos x (by simp)
    exact absurd ((h x.1).mp ⟨x, by simp, by omega, this⟩) inn_nil
  | x :: A, y :: B, hA, hB, h => by
    have px := hA.pos x (by simp)
    have py := hB.pos y (by simp)
    have e1 : x.1 = y.1 := by
      have a : y.1 ≤ x.1 := by
        rcases inn_cons.mp ((h x.1).mp (inn_cons.mpr (.inl ⟨by omega, px⟩))) with z | z
        · exact z.1
        · have := lot_gt hB z; omega
      have b : x.1 ≤ y.1 := by
        rcases inn_cons.mp ((h y.1).mpr (inn_cons.mpr (.inl ⟨by omega, py⟩))) with z | z
        · exact z.1
        · have := lot_gt hA z; omega
      omega
    have e2 : x.2 = y.2 := by
      have a : ¬ x.2 < y.2 := fun z => by
        rcases inn_cons.mp ((h x.2).mpr (inn_cons.mpr (.inl ⟨by omega, z⟩))) with w | w
        · omega
        · have := lot_gt hA w; omega
      have b : ¬ y.2 < x.2 := fun z => by
        rcases inn_cons.mp ((h y.2).mp (inn_cons.mpr (.inl ⟨by omega, z⟩))) with w | w
        · omega
        · have := lot_gt hB w; omega
      omega
    have e : x = y := Prod.ext e1 e2
    subst e
    rw [lot_uniq hA.tail hB.tail fun m => ?_]
    constructor
    · intro i
      rcases inn_cons.mp ((h m).mp (inn_cons.mpr (.inr i))) with z | z
      · have := lot_gt hA i; omega
      · exact z
    · intro i
      rcases inn_cons.mp ((h m).mpr (inn_cons.mpr (.inr i))) with z | z
      · have := lot_gt hB i; omega
      · exact z
/-! ### minutes one by one -/
def rgI (a b : Int) : List Int := (List.range (b - a).toNat).map fun i => a + (i : Nat)
theorem rgI_mem {a b m : Int} : m ∈ rgI a b ↔ a ≤ m ∧ m < b := by
  unfold rgI
  rw [List.mem_map]
  constructor
  · rintro ⟨i, hi, rfl⟩
    have := List.mem_range.mp hi
    omega
  · rintro ⟨h1, h2⟩
    exact ⟨(m - a).toNat, List.mem_range.mpr (by omega), by omega⟩
theorem rgI_srt {a b : Int} : (rgI a b).Pairwise (· < ·) := by
  unfold rgI
  rw [List.pairwise_map]
  exact List.pairwise_lt_range.imp fun {i j} h => by omega
theorem rgI_len {a b : Int} : (rgI a b).length = (b - a).toNat := by unfold rgI; rw [List.length_map, List.length_range]
theorem rgD_iL {a b : Int} : rgD a b = iL (rgI a b) := by
  unfold rgD rgI iL
  rw [List.map_map]
  rfl
def mins (A : List IP) : List Int := A.flatMap fun x => rgI x.1 x.2
theorem mins_mem {A : List IP} {m : Int} : m ∈ mins A ↔ inn A m := by
  unfold mins inn
  rw [List.mem_flatMap]
  constructor
  · rintro ⟨x, hx, h⟩
    exact ⟨x, hx, rgI_mem.mp h⟩
  · rintro ⟨x, hx, h⟩
    exact ⟨x, hx, rgI_mem.mpr h⟩
theorem mins_srt : ∀ {A : List IP}, Lot A → (mins A).Pairwise (· < ·)
  | [], _ => List.Pairwise.nil
  | x :: A, h => by
    have e : mins (x :: A) = rgI x.1 x.2 ++ mins A := rfl
    rw [e, List.pairwise_append]
    refine ⟨rgI_srt, mins_srt h.tail, fun a ha b hb => ?_⟩
    have := (rgI_mem.mp ha).2
    have := lot_gt h (mins_mem.mp hb)
    omega
theorem mins_len : ∀ {A : List IP}, (∀ x ∈ A, x.1 < x.2) → ((mins A).length : Int) = tot A
  | [], _ => rfl
  | x :: A, h => by
    have e : mins (x :: A) = rgI x.1 x.2 ++ mins A := rfl
    have ih := mins_len (A := A) fun y hy => h y (List.mem_cons_of_mem _ hy)
    have hx := h x (by simp)
    have t : tot (x :: A) = (x.2 - x.1) + tot A := by unfold tot; rw [List.map_cons, List.sum_cons]
    rw [e, List.length_append, rgI_len, t, ← ih]
    omega
theorem srt_mem : ∀ {l l' : List Int}, l.Pairwise (· < ·) → l'.Pairwise (· < ·) → (∀ m, m ∈ l ↔ m ∈ l') → l = l'
  | [], [], _, _, _ => rfl
  | [], y :: l', _, _, h => by have := (h y).mpr (by simp); cases this
  | x :: l, [], _, _, h => by have := (h x).mp (by simp); cases this
  | x :: l, y :: l', hl, hl', h => by
    have a := List.pairwise_cons.mp hl
    have b := List.pairwise_cons.mp hl'
    have e : x = y := by
      rcases List.mem_cons.mp ((h x).mp (by simp)) with z | z
      · exact z
      · rcases List.mem_cons.mp ((h y).mpr (by simp)) with w | w
        · exact w.symm
        · have := a.1 y w
          have := b.1 x z
          omega
    subst e
    rw [srt_mem a.2 b.2 fun m => ?_]
    constructor
    · intro i
      rcases List.mem_cons.mp ((h m).mp (List.mem_cons_of_mem _ i)) with z | z
      · have := a.1 m i; omega
      · exact z
    · intro i
      rcases List.mem_cons.mp ((h m).mpr (List.mem_cons_of_mem _ i)) with z | z
      · have := b.1 m i; omega
      · exact z
/-- the minutes of a part -/
theorem mins_part {A R : List IP} {p : Int → Bool} (hA : Lot A) (hR : Lot R) (h : ∀ m, inn R m ↔ inn A m ∧ p m = true) : mins R = (mins A).filter p := by
  refine srt_mem (mins_srt hR) ((mins_srt hA).filter _) fun m => ?_
  rw [mins_mem, h, List.mem_filter, mins_mem]
theorem tot_parts {A R S : List IP} {p : Int → Bool} (hA : Lot A) (hR : Lot R) (hS : Lot S) (h1 : ∀ m, inn R m ↔ inn A m ∧ p m = true) (h2 : ∀ m, inn S m ↔ inn A m ∧ p m = false) : tot R + tot S = tot A := by
  rw [← mins_len hA.pos, ← mins_len hR.pos, ← mins_len hS.pos, mins_part hA hR h1, mins_part (p := fun m => !p m) hA hS (fun m => by rw [h2]; simp)]
  have := List.length_eq_countP_add_countP p (l := mins A)
  rw [← List.countP_eq_length_filter, ← List.countP_eq_length_filter]
  have e : (mins A).countP (fun m => !p m) = (mins A).countP (fun a => decide ¬p a = true) := by
    congr 1
    funext a
    cases p a <;> rfl
  rw [e]
  omega
end DL

namespace Qk04
open PySem DL
abbrev pw : Program := PySem.Challenge.pw_hourcoin_k04_two_lots
def st (j : Nat) : Stmt := pw.main.body.getD j (.Pass ⟨0, 0, 0, 0⟩)
def fns : List Str := ["common", "both", "around", "without", "minutes_in", "_law_feed", "_law_draw", "_law_minute", "_law_lot", "_law_has", "_law_is_lot", "_law_right", "_law_crowd", "_law_minutes", "_law_crowd_right", "law"]
def cns : List Str := []
def bls : List Str := ["max", "min", "len", "sum", "list", "abs", "range", "any", "isinstance", "all", "tuple", "zip", "bool"]
def gl : List D := []
/- common: 0 one, 1 other, 2 first, 3 behind -/
abbrev b0_4 : CSs := .cons (.ret (.tup (.cons (.var 2) (.cons (.var 3) .nil)))) .nil
abbrev b0_3 : CSs := .cons (.ret .non) .nil
abbrev b0_2 : CSs := .cons (.ife (.cmp .Lt (.var 2) (.var 3)) b0_4 .nil) b0_3
abbrev b0_1 : CSs := .cons (.set 3 (.blt .min (.cons (.idx (.var 0) (.int 1)) (.cons (.idx (.var 1) (.int 1)) .nil)))) b0_2
abbrev b0 : CSs := .cons (.set 2 (.blt .max (.cons (.idx (.var 0) (.int 0)) (.cons (.idx (.var 1) (.int 0)) .nil)))) b0_1
def d0 : Dfn := ⟨"common", ["one", "other", "first", "behind"], 2, b0⟩
/- both: 0 one, 1 other, 2 found, 3 at, 4 stretch, 5 k -/
abbrev b1_7 : CSs := .cons (.aug 3 .Add (.int 1)) .nil
abbrev b1_9 : CSs := .cons (.aug 5 .Add (.int 1)) .nil
abbrev b1_8 : CSs := .cons (.exp (.mtd .append (.var 2) (.cons (.call 0 (.cons (.var 4) (.cons (.idx (.var 1) (.var 5)) .nil))) .nil))) b1_9
abbrev b1_6 : CSs := .cons (.whl (.and (.cmp .Lt (.var 5) (.blt .len (.cons (.var 1) .nil))) (.cmp .Lt (.idx (.idx (.var 1) (.var 5)) (.int 0)) (.idx (.var 4) (.int 1)))) b1_8) .nil
abbrev b1_5 : CSs := .cons (.set 5 (.var 3)) b1_6
abbrev b1_4 : CSs := .cons (.whl (.and (.cmp .Lt (.var 3) (.blt .len (.cons (.var 1) .nil))) (.cmp .LtE (.idx (.idx (.var 1) (.var 3)) (.int 1)) (.idx (.var 4) (.int 0)))) b1_7) b1_5
abbrev b1_3 : CSs := .cons (.ret (.var 2)) .nil
abbrev b1_2 : CSs := .cons (.for (.nam 4) (.any (.var 0)) b1_4) b1_3
abbrev b1_1 : CSs := .cons (.set 3 (.int 0)) b1_2
abbrev b1 : CSs := .cons (.set 2 (.lst .nil)) b1_1
def d1 : Dfn := ⟨"both", ["one", "other", "found", "at", "stretch", "k"], 2, b1⟩
/- around: 0 lot, 1 first, 2 behind, 3 found, 4 here, 5 one -/
abbrev b2_8 : CSs := .cons (.exp (.mtd .append (.var 3) (.cons (.tup (.cons (.var 4) (.cons (.blt .min (.cons (.idx (.var 5) (.int 0)) (.cons (.var 2) .nil))) .nil))) .nil))) .nil
abbrev b2_9 : CSs := .cons (.ret (.var 3)) .nil
abbrev b2_7 : CSs := .cons (.ife (.cmp .GtE (.var 4) (.var 2)) b2_9 .nil) .nil
abbrev b2_6 : CSs := .cons (.set 4 (.blt .max (.cons (.var 4) (.cons (.idx (.var 5) (.int 1)) .nil)))) b2_7
abbrev b2_5 : CSs := .cons (.ife (.cmp .Lt (.var 4) (.idx (.var 5) (.int 0))) b2_8 .nil) b2_6
abbrev b2_10 : CSs := .cons (.exp (.mtd .append (.var 3) (.cons (.tup (.cons (.var 4) (.cons (.var 2) .nil))) .nil))) .nil
abbrev b2_4 : CSs := .cons (.ret (.var 3)) .nil
abbrev b2_3 : CSs := .cons (.ife (.cmp .Lt (.var 4) (.var 2)) b2_10 .nil) b2_4
abbrev b2_2 : CSs := .cons (.for (.nam 5) (.any (.var 0)) b2_5) b2_3
abbrev b2_1 : CSs := .cons (.set 4 (.var 1)) b2_2
abbrev b2 : CSs := .cons (.set 3 (.lst .nil)) b2_1
def d2 : Dfn := ⟨"around", ["lot", "first", "behind", "found", "here", "one"], 3, b2⟩
/- without: 0 one, 1 other -/
abbrev b3_2 : CSs := .cons (.ret (.lst .nil)) .nil
abbrev b3_1 : CSs := .cons (.ret (.call 1 (.cons (.var 0) (.cons (.call 2 (.cons (.var 1) (.cons (.idx (.idx (.var 0) (.int 0)) (.int 0)) (.cons (.idx (.idx (.var 0) (.neg (.int 1))) (.int 1)) .nil)))) .nil)))) .nil
abbrev b3 : CSs := .cons (.ife (.cmp .Eq (.var 0) (.lst .nil)) b3_2 .nil) b3_1
def d3 : Dfn := ⟨"without", ["one", "other"], 2, b3⟩
/- minutes_in: 0 lot, 1 first, 2 behind -/
abbrev b4 : CSs := .cons (.ret (.blt .sum (.cons (.comp [("first", 1), ("behind", 2)] (.tup (.cons (.nam 1) (.cons (.nam 2) .nil))) (.any (.var 0)) .none (.bin .Sub (.var 2) (.var 1))) .nil))) .nil
def d4 : Dfn := ⟨"minutes_in", ["lot", "first", "behind"], 1, b4⟩
/- _law_feed: 0 script -/
abbrev b5 : CSs := .cons (.ret (.lst (.cons (.blt .list (.cons (.slc (.var 0) .none (.some (.int 63))) .nil)) (.cons (.int 0) (.cons (.int 0) .nil))))) .nil
def d5 : Dfn := ⟨"_law_feed", ["script"], 1, b5⟩
/- _law_draw: 0 feed, 1 many, 2 digit, 3 at, 4 cell, 5 number, 6 again -/
abbrev b6_11 : CSs := .cons (.ret (.var 2)) .nil
abbrev b6_10 : CSs := .cons (.put (.var 0) (.int 2) (.bin .FloorDiv (.idx (.var 0) (.int 2)) (.var 1))) b6_11
abbrev b6_9 : CSs := .cons (.set 2 (.bin .Mod (.idx (.var 0) (.int 2)) (.var 1))) b6_10
abbrev b6_12 : CSs := .cons (.set 4 (.idx (.idx (.var 0) (.int 0)) (.bin .Mod (.var 3) (.blt .len (.cons (.idx (.var 0) (.int 0)) .nil))))) .nil
abbrev b6_14 : CSs := .cons (.ret (.bin .Mod (.blt .abs (.cons (.var 4) .nil)) (.var 1))) .nil
abbrev b6_13 : CSs := .cons (.put (.var 0) (.int 2) (.bin .FloorDiv (.blt .abs (.cons (.var 4) .nil)) (.var 1))) b6_14
abbrev b6_16 : CSs := .cons (.set 5 (.bin .Mod (.var 5) (.int 4294967311))) .nil
abbrev b6_15 : CSs := .cons (.set 5 (.bin .Add (.bin .Add (.bin .Add (.bin .Mult (.var 5) (.var 5)) (.bin .Mult (.int 69621) (.var 5))) (.var 3)) (.var 6))) b6_16
abbrev b6_8 : CSs := .cons (.ret (.bin .Mod (.bin .FloorDiv (.var 5) (.int 32)) (.var 1))) .nil
abbrev b6_7 : CSs := .cons (.for (.nam 6) (.rng1 (.int 3)) b6_15) b6_8
abbrev b6_6 : CSs := .cons (.set 5 (.bin .Mod (.bin .Mult (.bin .Add (.bin .Add (.bin .Mod (.var 4) (.int 4294967311)) (.bin .Mult (.int 65539) (.var 3))) (.int 17)) (.int 48271)) (.int 4294967311))) b6_7
abbrev b6_5 : CSs := .cons (.ife (.and (.cmp .Lt (.var 3) (.blt .len (.cons (.idx (.var 0) (.int 0)) .nil))) (.cmp .GtE (.blt .abs (.cons (.var 4) .nil)) (.bin .Pow (.int 10) (.int 18)))) b6_13 .nil) b6_6
abbrev b6_4 : CSs := .cons (.ife (.cmp .NotEq (.idx (.var 0) (.int 0)) (.lst .nil)) b6_12 .nil) b6_5
abbrev b6_3 : CSs := .cons (.set 4 (.bin .Add (.bin .Mult (.var 3) (.var 3)) (.int 5))) b6_4
abbrev b6_2 : CSs := .cons (.put (.var 0) (.int 1) (.bin .Add (.var 3) (.int 1))) b6_3
abbrev b6_1 : CSs := .cons (.set 3 (.idx (.var 0) (.int 1))) b6_2
abbrev b6 : CSs := .cons (.ife (.cmp .Gt (.idx (.var 0) (.int 2)) (.int 0)) b6_9 .nil) b6_1
def d6 : Dfn := ⟨"_law_draw", ["feed", "many", "digit", "at", "cell", "number", "again"], 2, b6⟩
/- _law_minute: 0 feed, 1 way, 2 far -/
abbrev b7_7 : CSs := .cons (.ret (.call 6 (.cons (.var 0) (.cons (.int 3000) .nil)))) .nil
abbrev b7_8 : CSs := .cons (.set 2 (.bin .Sub (.bin .Add (.bin .Sub (.var 2) (.bin .Mod (.var 2) (.int 1440))) (.call 6 (.cons (.var 0) (.cons (.int 5) .nil)))) (.int 2))) .nil
abbrev b7_9 : CSs := .cons (.set 2 (.bin .Sub (.bin .Add (.bin .Sub (.var 2) (.bin .Mod (.var 2) (.int 10080))) (.call 6 (.cons (.var 0) (.cons (.int 5) .nil)))) (.int 2))) .nil
abbrev b7_10 : CSs := .cons (.set 2 (.bin .Sub (.int 999999359) (.call 6 (.cons (.var 0) (.cons (.int 3) .nil))))) .nil
abbrev b7_6 : CSs := .cons (.ret (.blt .min (.cons (.int 999999359) (.cons (.blt .max (.cons (.int 0) (.cons (.var 2) .nil))) .nil)))) .nil
abbrev b7_5 : CSs := .cons (.ife (.cmp .Eq (.var 1) (.int 3)) b7_10 .nil) b7_6
abbrev b7_4 : CSs := .cons (.ife (.cmp .Eq (.var 1) (.int 2)) b7_9 .nil) b7_5
abbrev b7_3 : CSs := .cons (.ife (.cmp .Eq (.var 1) (.int 1)) b7_8 .nil) b7_4
abbrev b7_2 : CSs := .cons (.ife (.cmp .Eq (.var 1) (.int 0)) b7_7 .nil) b7_3
abbrev b7_1 : CSs := .cons (.set 2 (.bin .Add (.bin .Mult (.call 6 (.cons (.var 0) (.cons (.bin .Pow (.int 10) (.int 5)) .nil))) (.bin .Pow (.int 10) (.int 4))) (.call 6 (.cons (.var 0) (.cons (.bin .Pow (.int 10) (.int 4)) .nil))))) b7_2
abbrev b7 : CSs := .cons (.set 1 (.call 6 (.cons (.var 0) (.cons (.int 5) .nil)))) b7_1
def d7 : Dfn := ⟨"_law_minute", ["feed", "way", "far"], 1, b7⟩
/- _law_lot: 0 feed, 1 begin, 2 step, 3 found, 4 here, 5 k, 6 first -/
abbrev b8_6 : CSs := .cons (.exp (.mtd .append (.var 3) (.cons (.tup (.cons (.var 6) (.cons (.var 4) .nil))) .nil))) .nil
abbrev b8_5 : CSs := .cons (.set 4 (.bin .Add (.bin .Add (.var 6) (.int 1)) (.call 6 (.cons (.var 0) (.cons (.var 2) .nil))))) b8_6
abbrev b8_4 : CSs := .cons (.set 6 (.bin .Add (.bin .Add (.var 4) (.int 1)) (.call 6 (.cons (.var 0) (.cons (.var 2) .nil))))) b8_5
abbrev b8_3 : CSs := .cons (.ret (.var 3)) .nil
abbrev b8_2 : CSs := .cons (.for (.nam 5) (.rng1 (.call 6 (.cons (.var 0) (.cons (.int 9) .nil)))) b8_4) b8_3
abbrev b8_1 : CSs := .cons (.set 4 (.var 1)) b8_2
abbrev b8 : CSs := .cons (.set 3 (.lst .nil)) b8_1
def d8 : Dfn := ⟨"_law_lot", ["feed", "begin", "step", "found", "here", "k", "first"], 3, b8⟩
/- _law_has: 0 lot, 1 minute, 2 first, 3 behind -/
abbrev b9 : CSs := .cons (.ret (.blt .any (.cons (.comp [("first", 2), ("behind", 3)] (.tup (.cons (.nam 2) (.cons (.nam 3) .nil))) (.any (.var 0)) .none (.chn .LtE .Lt (.var 2) (.var 1) (.var 3))) .nil))) .nil
def d9 : Dfn := ⟨"_law_has", ["lot", "minute", "first", "behind"], 2, b9⟩
/- _law_is_lot: 0 thing, 1 one, 2 first, 3 behind, 4 other -/
abbrev b10_3 : CSs := .cons (.ret (.bl false)) .nil
abbrev b10_4 : CSs := .cons (.ret (.bl false)) .nil
abbrev b10_2 : CSs := .cons (.ret (.blt .all (.cons (.comp [("one", 1), ("other", 4)] (.tup (.cons (.nam 1) (.cons (.nam 4) .nil))) (.zip (.var 0) (.slc (.var 0) (.some (.int 1)) .none)) .none (.cmp .Lt (.idx (.var 1) (.int 1)) (.idx (.var 4) (.int 0)))) .nil))) .nil
abbrev b10_1 : CSs := .cons (.ife (.no (.blt .all (.cons (.comp [("first", 2), ("behind", 3)] (.tup (.cons (.nam 2) (.cons (.nam 3) .nil))) (.any (.var 0)) .none (.cmp .Lt (.var 2) (.var 3))) .nil))) b10_4 .nil) b10_2
abbrev b10 : CSs := .cons (.ife (.or (.no (.isi (.var 0) "list")) (.no (.blt .all (.cons (.comp [("one", 1)] (.nam 1) (.any (.var 0)) .none (.isi (.var 1) "tuple")) .nil)))) b10_3 .nil) b10_1
def d10 : Dfn := ⟨"_law_is_lot", ["thing", "one", "first", "behind", "other"], 1, b10⟩
/- _law_right: 0 one, 1 other, 2 kept, 3 shared, 4 left, 5 bounds, 6 first, 7 behind, 8 minute, 9 here, 10 there, 11 size, 12 before -/
abbrev b11_14 : CSs := .cons (.ret (.bl false)) .nil
abbrev b11_15 : CSs := .cons (.exp (.mtd .extend (.var 5) (.cons (.lst (.cons (.var 6) (.cons (.var 7) (.cons (.bin .Sub (.var 6) (.int 1)) (.cons (.bin .Sub (.var 7) (.int 1)) .nil))))) .nil))) .nil
abbrev b11_20 : CSs := .cons (.ret (.bl false)) .nil
abbrev b11_21 : CSs := .cons (.ret (.bl false)) .nil
abbrev b11_19 : CSs := .cons (.ife (.cmp .NotEq (.call 9 (.cons (.var 4) (.cons (.var 8) .nil))) (.and (.var 9) (.no (.var 10)))) b11_21 .nil) .nil
abbrev b11_18 : CSs := .cons (.ife (.cmp .NotEq (.call 9 (.cons (.var 3) (.cons (.var 8) .nil))) (.and (.var 9) (.var 10))) b11_20 .nil) b11_19
abbrev b11_17 : CSs := .cons (.set 10 (.call 9 (.cons (.var 1) (.cons (.var 8) .nil)))) b11_18
abbrev b11_16 : CSs := .cons (.set 9 (.call 9 (.cons (.var 0) (.cons (.var 8) .nil)))) b11_17
abbrev b11_22 : CSs := .cons (.ret (.bl false)) .nil
abbrev b11_23 : CSs := .cons (.ret (.bl false)) .nil
abbrev b11_24 : CSs := .cons (.ret (.bl false)) .nil
abbrev b11_13 : CSs := .cons (.ret (.cmp .Eq (.tup (.cons (.call 1 (.cons (.var 0) (.cons (.var 1) .nil))) (.cons (.call 3 (.cons (.var 0) (.cons (.var 1) .nil))) .nil))) (.var 12))) .nil
abbrev b11_12 : CSs := .cons (.exp (.mtd .append (.var 4) (.cons (.tup (.cons (.int 0) (.cons (.int 1) .nil))) .nil))) b11_13
abbrev b11_11 : CSs := .cons (.exp (.mtd .append (.var 3) (.cons (.tup (.cons (.int 0) (.cons (.int 1) .nil))) .nil))) b11_12
abbrev b11_10 : CSs := .cons (.set 12 (.tup (.cons (.blt .list (.cons (.var 3) .nil)) (.cons (.blt .list (.cons (.var 4) .nil)) .nil)))) b11_11
abbrev b11_9 : CSs := .cons (.ife (.cmp .NotEq (.bin .Add (.call 4 (.cons (.var 3) .nil)) (.call 4 (.cons (.var 4) .nil))) (.var 11)) b11_24 .nil) b11_10
abbrev b11_8 : CSs := .cons (.ife (.cmp .NotEq (.var 11) (.blt .sum (.cons (.comp [("first", 6), ("behind", 7)] (.tup (.cons (.nam 6) (.cons (.nam 7) .nil))) (.any (.var 0)) .none (.bin .Sub (.var 7) (.var 6))) .nil))) b11_23 .nil) b11_9
abbrev b11_7 : CSs := .cons (.ife (.isi (.var 11) "bool") b11_22 .nil) b11_8
abbrev b11_6 : CSs := .cons (.set 11 (.call 4 (.cons (.var 0) .nil))) b11_7
abbrev b11_5 : CSs := .cons (.for (.nam 8) (.any (.var 5)) b11_16) b11_6
abbrev b11_4 : CSs := .cons (.for (.tup (.cons (.nam 6) (.cons (.nam 7) .nil))) (.any (.bin .Add (.bin .Add (.bin .Add (.var 0) (.var 1)) (.var 3)) (.var 4))) b11_15) b11_5
abbrev b11_3 : CSs := .cons (.set 5 (.lst .nil)) b11_4
abbrev b11_2 : CSs := .cons (.ife (.or (.cmp .NotEq (.tup (.cons (.var 0) (.cons (.var 1) .nil))) (.var 2)) (.or (.no (.call 10 (.cons (.var 3) .nil))) (.no (.call 10 (.cons (.var 4) .nil))))) b11_14 .nil) b11_3
abbrev b11_1 : CSs := .cons (.par2 3 4 (.call 1 (.cons (.var 0) (.cons (.var 1) .nil))) (.call 3 (.cons (.var 0) (.cons (.var 1) .nil)))) b11_2
abbrev b11 : CSs := .cons (.set 2 (.tup (.cons (.blt .list (.cons (.var 0) .nil)) (.cons (.blt .list (.cons (.var 1) .nil)) .nil)))) b11_1
def d11 : Dfn := ⟨"_law_right", ["one", "other", "kept", "shared", "left", "bounds", "first", "behind", "minute", "here", "there", "size", "before"], 2, b11⟩
/- _law_crowd: 0 feed, 1 begin, 2 found, 3 here, 4 k, 5 first -/
abbrev b12_6 : CSs := .cons (.exp (.mtd .append (.var 2) (.cons (.tup (.cons (.var 5) (.cons (.var 3) .nil))) .nil))) .nil
abbrev b12_5 : CSs := .cons (.set 3 (.bin .Add (.bin .Add (.var 5) (.int 1)) (.call 6 (.cons (.var 0) (.cons (.int 3) .nil))))) b12_6
abbrev b12_4 : CSs := .cons (.set 5 (.bin .Add (.bin .Add (.var 3) (.int 1)) (.call 6 (.cons (.var 0) (.cons (.int 4) .nil))))) b12_5
abbrev b12_3 : CSs := .cons (.ret (.var 2)) .nil
abbrev b12_2 : CSs := .cons (.for (.nam 4) (.rng1 (.bin .Add (.int 20) (.call 6 (.cons (.var 0) (.cons (.int 41) .nil))))) b12_4) b12_3
abbrev b12_1 : CSs := .cons (.set 3 (.var 1)) b12_2
abbrev b12 : CSs := .cons (.set 2 (.lst .nil)) b12_1
def d12 : Dfn := ⟨"_law_crowd", ["feed", "begin", "found", "here", "k", "first"], 2, b12⟩
/- _law_minutes: 0 lot, 1 found, 2 first, 3 behind -/
abbrev b13_3 : CSs := .cons (.exp (.mtd .extend (.var 1) (.cons (.lrg (.var 2) (.var 3)) .nil))) .nil
abbrev b13_2 : CSs := .cons (.ret (.var 1)) .nil
abbrev b13_1 : CSs := .cons (.for (.tup (.cons (.nam 2) (.cons (.nam 3) .nil))) (.any (.var 0)) b13_3) b13_2
abbrev b13 : CSs := .cons (.set 1 (.lst .nil)) b13_1
def d13 : Dfn := ⟨"_law_minutes", ["lot", "found", "first", "behind"], 1, b13⟩
/- _law_crowd_right: 0 feed, 1 begin, 2 one, 3 other, 4 mine, 5 theirs, 6 shared, 7 left, 8 minute -/
abbrev b14_10 : CSs := .cons (.set 1 (.bin .Mod (.call 7 (.cons (.var 0) .nil)) (.int 999000000))) .nil
abbrev b14_11 : CSs := .cons (.ret (.bl false)) .nil
abbrev b14_12 : CSs := .cons (.ret (.bl false)) .nil
abbrev b14_13 : CSs := .cons (.ret (.bl false)) .nil
abbrev b14_9 : CSs := .cons (.ret (.and (.cmp .Eq (.call 4 (.cons (.var 2) .nil)) (.blt .len (.cons (.var 4) .nil))) (.cmp .Eq (.call 3 (.cons (.var 2) (.cons (.blt .list (.cons (.var 2) .nil)) .nil))) (.lst .nil)))) .nil
abbrev b14_8 : CSs := .cons (.ife (.cmp .NotEq (.call 13 (.cons (.var 7) .nil)) (.comp [("minute", 8)] (.nam 8) (.any (.var 4)) (.some (.cmp .NotIn (.var 8) (.var 5))) (.var 8))) b14_13 .nil) b14_9
abbrev b14_7 : CSs := .cons (.ife (.cmp .NotEq (.call 13 (.cons (.var 6) .nil)) (.comp [("minute", 8)] (.nam 8) (.any (.var 4)) (.some (.cmp .In (.var 8) (.var 5))) (.var 8))) b14_12 .nil) b14_8
abbrev b14_6 : CSs := .cons (.ife (.or (.no (.call 10 (.cons (.var 6) .nil))) (.no (.call 10 (.cons (.var 7) .nil)))) b14_11 .nil) b14_7
abbrev b14_5 : CSs := .cons (.par2 6 7 (.call 1 (.cons (.var 2) (.cons (.var 3) .nil))) (.call 3 (.cons (.var 2) (.cons (.var 3) .nil)))) b14_6
abbrev b14_4 : CSs := .cons (.unp (.cons (.nam 4) (.cons (.nam 5) .nil)) (.tup (.cons (.call 13 (.cons (.var 2) .nil)) (.cons (.call 13 (.cons (.var 3) .nil)) .nil)))) b14_5
abbrev b14_3 : CSs := .cons (.set 3 (.call 12 (.cons (.var 0) (.cons (.bin .Add (.var 1) (.call 6 (.cons (.var 0) (.cons (.int 9) .nil)))) .nil)))) b14_4
abbrev b14_2 : CSs := .cons (.set 2 (.call 12 (.cons (.var 0) (.cons (.var 1) .nil)))) b14_3
abbrev b14_1 : CSs := .cons (.ife (.cmp .Eq (.call 6 (.cons (.var 0) (.cons (.int 2) .nil))) (.int 0)) b14_10 .nil) b14_2
abbrev b14 : CSs := .cons (.set 1 (.bin .Sub (.int 0) (.call 6 (.cons (.var 0) (.cons (.int 200) .nil))))) b14_1
def d14 : Dfn := ⟨"_law_crowd_right", ["feed", "begin", "one", "other", "mine", "theirs", "shared", "left", "minute"], 1, b14⟩
/- law: 0 script, 1 feed, 2 k, 3 step, 4 begin, 5 one, 6 other -/
abbrev b15_11 : CSs := .cons (.set 6 (.lst (.cons (.idx (.var 5) (.neg (.int 1))) .nil))) .nil
abbrev b15_12 : CSs := .cons (.ret (.bl false)) .nil
abbrev b15_13 : CSs := .cons (.ret (.bl false)) .nil
abbrev b15_10 : CSs := .cons (.ife (.or (.no (.call 11 (.cons (.var 5) (.cons (.blt .list (.cons (.var 5) .nil)) .nil)))) (.no (.call 11 (.cons (.var 5) (.cons (.lst .nil) .nil))))) b15_13 .nil) .nil
abbrev b15_9 : CSs := .cons (.ife (.or (.no (.call 11 (.cons (.var 5) (.cons (.var 6) .nil)))) (.no (.call 11 (.cons (.var 6) (.cons (.var 5) .nil))))) b15_12 .nil) b15_10
abbrev b15_8 : CSs := .cons (.ife (.and (.cmp .Eq (.call 6 (.cons (.var 1) (.cons (.int 5) .nil))) (.int 0)) (.cmp .NotEq (.var 5) (.lst .nil))) b15_11 .nil) b15_9
abbrev b15_7 : CSs := .cons (.set 6 (.call 8 (.cons (.var 1) (.cons (.bin .Add (.var 4) (.call 6 (.cons (.var 1) (.cons (.bin .Add (.int 1) (.bin .Mult (.int 2) (.var 3))) .nil)))) (.cons (.var 3) .nil))))) b15_8
abbrev b15_6 : CSs := .cons (.set 5 (.call 8 (.cons (.var 1) (.cons (.var 4) (.cons (.var 3) .nil))))) b15_7
abbrev b15_5 : CSs := .cons (.set 4 (.idx (.var 4) (.call 6 (.cons (.var 1) (.cons (.int 3) .nil))))) b15_6
abbrev b15_4 : CSs := .cons (.set 4 (.lst (.cons (.call 6 (.cons (.var 1) (.cons (.int 5) .nil))) (.cons (.bin .Mod (.call 7 (.cons (.var 1) .nil)) (.int 999000000)) (.cons (.bin .Sub (.int 0) (.call 6 (.cons (.var 1) (.cons (.int 90) .nil)))) .nil))))) b15_5
abbrev b15_3 : CSs := .cons (.set 3 (.idx (.lst (.cons (.int 1) (.cons (.int 3) (.cons (.int 40) (.cons (.int 5000) .nil))))) (.call 6 (.cons (.var 1) (.cons (.int 4) .nil))))) b15_4
abbrev b15_2 : CSs := .cons (.ret (.and (.call 14 (.cons (.var 1) .nil)) (.cmp .Eq (.call 4 (.cons (.lst .nil) .nil)) (.int 0)))) .nil
abbrev b15_1 : CSs := .cons (.for (.nam 2) (.rng1 (.blt .max (.cons (.int 3) (.cons (.blt .min (.cons (.blt .len (.cons (.idx (.var 1) (.int 0)) .nil)) (.cons (.int 4) .nil))) .nil)))) b15_3) b15_2
abbrev b15 : CSs := .cons (.set 1 (.call 5 (.cons (.var 0) .nil))) b15_1
def d15 : Dfn := ⟨"law", ["script", "feed", "k", "step", "begin", "one", "other"], 1, b15⟩
def ds : List Dfn := [d0, d1, d2, d3, d4, d5, d6, d7, d8, d9, d10, d11, d12, d13, d14, d15]
theorem fns_eq : ds.map (·.x) = fns := rfl
abbrev Γ (N : List Str) (sc : Scope) : Gx := ⟨N, sc, fns, cns, bls⟩
theorem s0 : scB d0.N d0.ar (L2.defScope (st 1)) = true := by decide +kernel
theorem c0 : chkSs (Γ d0.N (L2.defScope (st 1))) b0 (L2.defBody (st 1)) = true := by decide +kernel
theorem s1 : scB d1.N d1.ar (L2.defScope (st 2)) = true := by decide +kernel
theorem c1 : chkSs (Γ d1.N (L2.defScope (st 2))) b1 (L2.defBody (st 2)) = true := by decide +kernel
theorem s2 : scB d2.N d2.ar (L2.defScope (st 3)) = true := by decide +kernel
theorem c2 : chkSs (Γ d2.N (L2.defScope (st 3))) b2 (L2.defBody (st 3)) = true := by decide +kernel
theorem s3 : scB d3.N d3.ar (L2.defScope (st 4)) = true := by decide +kernel
theorem c3 : chkSs (Γ d3.N (L2.defScope (st 4))) b3 (L2.defBody (st 4)) = true := by decide +kernel
theorem s4 : scB d4.N d4.ar (L2.defScope (st 5)) = true := by decide +kernel
theorem c4 : chkSs (Γ d4.N (L2.defScope (st 5))) b4 (L2.defBody (st 5)) = true := by decide +kernel
theorem s5 : scB d5.N d5.ar (L2.defScope (st 7)) = true := by decide +kernel
theorem c5 : chkSs (Γ d5.N (L2.defScope (st 7))) b5 (L2.defBody (st 7)) = true := by decide +kernel
theorem s6 : scB d6.N d6.ar (L2.defScope (st 8)) = true := by decide +kernel
theorem c6 : chkSs (Γ d6.N (L2.defScope (st 8))) b6 (L2.defBody (st 8)) = true := by decide +kernel
theorem s7 : scB d7.N d7.ar (L2.defScope (st 9)) = true := by decide +kernel
theorem c7 : chkSs (Γ d7.N (L2.defScope (st 9))) b7 (L2.defBody (st 9)) = true := by decide +kernel
theorem s8 : scB d8.N d8.ar (L2.defScope (st 10)) = true := by decide +kernel
theorem c8 : chkSs (Γ d8.N (L2.defScope (st 10))) b8 (L2.defBody (st 10)) = true := by decide +kernel
theorem s9 : scB d9.N d9.ar (L2.defScope (st 11)) = true := by decide +kernel
theorem c9 : chkSs (Γ d9.N (L2.defScope (st 11))) b9 (L2.defBody (st 11)) = true := by decide +kernel
theorem s10 : scB d10.N d10.ar (L2.defScope (st 12)) = true := by decide +kernel
theorem c10 : chkSs (Γ d10.N (L2.defScope (st 12))) b10 (L2.defBody (st 12)) = true := by decide +kernel
theorem s11 : scB d11.N d11.ar (L2.defScope (st 13)) = true := by decide +kernel
theorem c11 : chkSs (Γ d11.N (L2.defScope (st 13))) b11 (L2.defBody (st 13)) = true := by decide +kernel
theorem s12 : scB d12.N d12.ar (L2.defScope (st 14)) = true := by decide +kernel
theorem c12 : chkSs (Γ d12.N (L2.defScope (st 14))) b12 (L2.defBody (st 14)) = true := by decide +kernel
theorem s13 : scB d13.N d13.ar (L2.defScope (st 15)) = true := by decide +kernel
theorem c13 : chkSs (Γ d13.N (L2.defScope (st 15))) b13 (L2.defBody (st 15)) = true := by decide +kernel
theorem s14 : scB d14.N d14.ar (L2.defScope (st 16)) = true := by decide +kernel
theorem c14 : chkSs (Γ d14.N (L2.defScope (st 16))) b14 (L2.defBody (st 16)) = true := by decide +kernel
theorem s15 : scB d15.N d15.ar (L2.defScope (st 17)) = true := by decide +kernel
theorem c15 : chkSs (Γ d15.N (L2.defScope (st 17))) b15 (L2.defBody (st 17)) = true := by decide +kernel
theorem e0 {n : Nat} {h : DH} {Q : QD} {E : XD} {x0 x1 : D} (q : wSs gl (run gl ds n) Q (fun x _ h' => E x h') b0 [some x0, some x1, none, none] h fun _ h' => Q .non h') : run gl ds (n + 1) 0 [x0, x1] h Q E := ⟨rfl, q⟩
theorem e1 {n : Nat} {h : DH} {Q : QD} {E : XD} {x0 x1 : D} (q : wSs gl (run gl ds n) Q (fun x _ h' => E x h') b1 [some x0, some x1, none, none, none, none] h fun _ h' => Q .non h') : run gl ds (n + 1) 1 [x0, x1] h Q E := ⟨rfl, q⟩
theorem e2 {n : Nat} {h : DH} {Q : QD} {E : XD} {x0 x1 x2 : D} (q : wSs gl (run gl ds n) Q (fun x _ h' => E x h') b2 [some x0, some x1, some x2, none, none, none] h fun _ h' => Q .non h') : run gl ds (n + 1) 2 [x0, x1, x2] h Q E := ⟨rfl, q⟩
theorem e3 {n : Nat} {h : DH} {Q : QD} {E : XD} {x0 x1 : D} (q : wSs gl (run gl ds n) Q (fun x _ h' => E x h') b3 [some x0, some x1] h fun _ h' => Q .non h') : run gl ds (n + 1) 3 [x0, x1] h Q E := ⟨rfl, q⟩
theorem e4 {n : Nat} {h : DH} {Q : QD} {E : XD} {x0 : D} (q : wSs gl (run gl ds n) Q (fun x _ h' => E x h') b4 [some x0, none, none] h fun _ h' => Q .non h') : run gl ds (n + 1) 4 [x0] h Q E := ⟨rfl, q⟩
theorem e5 {n : Nat} {h : DH} {Q : QD} {E : XD} {x0 : D} (q : wSs gl (run gl ds n) Q (fun x _ h' => E x h') b5 [some x0] h fun _ h' => Q .non h') : run gl ds (n + 1) 5 [x0] h Q E := ⟨rfl, q⟩
theorem e6 {n : Nat} {h : DH} {Q : QD} {E : XD} {x0 x1 : D} (q : wSs gl (run gl ds n) Q (fun x _ h' => E x h') b6 [some x0, some x1, none, none, none, none, none] h fun _ h' => Q .non h') : run gl ds (n + 1) 6 [x0, x1] h Q E := ⟨rfl, q⟩
theorem e7 {n : Nat} {h : DH} {Q : QD} {E : XD} {x0 : D} (q : wSs gl (run gl ds n) Q (fun x _ h' => E x h') b7 [some x0, none, none] h fun _ h' => Q .non h') : run gl ds (n + 1) 7 [x0] h Q E := ⟨rfl, q⟩
theorem e8 {n : Nat} {h : DH} {Q : QD} {E : XD} {x0 x1 x2 : D} (q : wSs gl (run gl ds n) Q (fun x _ h' => E x h') b8 [some x0, some x1, some x2, none, none, none, none] h fun _ h' => Q .non h') : run gl ds (n + 1) 8 [x0, x1, x2] h Q E := ⟨rfl, q⟩
theorem e9 {n : Nat} {h : DH} {Q : QD} {E : XD} {x0 x1 : D} (q : wSs gl (run gl ds n) Q (fun x _ h' => E x h') b9 [some x0, some x1, none, none] h fun _ h' => Q .non h') : run gl ds (n + 1) 9 [x0, x1] h Q E := ⟨rfl, q⟩
theorem e10 {n : Nat} {h : DH} {Q : QD} {E : XD} {x0 : D} (q : wSs gl (run gl ds n) Q (fun x _ h' => E x h') b10 [some x0, none, none, none, none] h fun _ h' => Q .non h') : run gl ds (n + 1) 10 [x0] h Q E := ⟨rfl, q⟩
theorem e11 {n : Nat} {h : DH} {Q : QD} {E : XD} {x0 x1 : D} (q : wSs gl (run gl ds n) Q (fun x _ h' => E x h') b11 [some x0, some x1, none, none, none, none, none, none, none, none, none, none, none] h fun _ h' => Q .non h') : run gl ds (n + 1) 11 [x0, x1] h Q E := ⟨rfl, q⟩
theorem e12 {n : Nat} {h : DH} {Q : QD} {E : XD} {x0 x1 : D} (q : wSs gl (run gl ds n) Q (fun x _ h' => E x h') b12 [some x0, some x1, none, none, none, none] h fun _ h' => Q .non h') : run gl ds (n + 1) 12 [x0, x1] h Q E := ⟨rfl, q⟩
theorem e13 {n : Nat} {h : DH} {Q : QD} {E : XD} {x0 : D} (q : wSs gl (run gl ds n) Q (fun x _ h' => E x h') b13 [some x0, none, none, none] h fun _ h' => Q .non h') : run gl ds (n + 1) 13 [x0] h Q E := ⟨rfl, q⟩
theorem e14 {n : Nat} {h : DH} {Q : QD} {E : XD} {x0 : D} (q : wSs gl (run gl ds n) Q (fun x _ h' => E x h') b14 [some x0, none, none, none, none, none, none, none, none] h fun _ h' => Q .non h') : run gl ds (n + 1) 14 [x0] h Q E := ⟨rfl, q⟩
theorem e15 {n : Nat} {h : DH} {Q : QD} {E : XD} {x0 : D} (q : wSs gl (run gl ds n) Q (fun x _ h' => E x h') b15 [some x0, none, none, none, none, none, none] h fun _ h' => Q .non h') : run gl ds (n + 1) 15 [x0] h Q E := ⟨rfl, q⟩
section
open PySem.Spec PyProof.Rows L2
variable {P : Program} {w : World} {K : PySem.W.Frag} {h : Heap} {mg : Str → Option Value} {C : CA} {fa : Addr}
theorem fd_all (n : Nat) (X : K.In h) (G : h.Ns mainGlobals mg) (hfa : mg "law" = some (.ref fa)) (sm : ∃ u, K.lookup sysModules = some u) 
    {f0 : Addr} {oc0 kV0 dc0 pm0 cd0 ct0 : Value} {od0 an0 : Option Addr} {sl0 : Array (Option Value)} (qa0 : PySem.W.nsIn K mainGlobals "common" = some (some (.ref f0))) (ql0 : K.lookup f0 = some ⟨oc0, od0, .func (PySem.W.fnOf "common" "common" (defArgs (st 1)) (defBody (st 1)) (defScope (st 1)) .none kV0 dc0 pm0 an0 cd0 ct0), sl0⟩) (qc0 : PySem.W.codeIn K cd0 "common" = true) (qk0 : PySem.W.keepIn K (.ref f0) = true)
    {f1 : Addr} {oc1 kV1 dc1 pm1 cd1 ct1 : Value} {od1 an1 : Option Addr} {sl1 : Array (Option Value)} (qa1 : PySem.W.nsIn K mainGlobals "both" = some (some (.ref f1))) (ql1 : K.lookup f1 = some ⟨oc1, od1, .func (PySem.W.fnOf "both" "both" (defArgs (st 2)) (defBody (st 2)) (defScope (st 2)) .none kV1 dc1 pm1 an1 cd1 ct1), sl1⟩) (qc1 : PySem.W.codeIn K cd1 "both" = true) (qk1 : PySem.W.keepIn K (.ref f1) = true)
    {f2 : Addr} {oc2 kV2 dc2 pm2 cd2 ct2 : Value} {od2 an2 : Option Addr} {sl2 : Array (Option Value)} (qa2 : PySem.W.nsIn K mainGlobals "around" = some (some (.ref f2))) (ql2 : K.lookup f2 = some ⟨oc2, od2, .func (PySem.W.fnOf "around" "around" (defArgs (st 3)) (defBody (st 3)) (defScope (st 3)) .none kV2 dc2 pm2 an2 cd2 ct2), sl2⟩) (qc2 : PySem.W.codeIn K cd2 "around" = true) (qk2 : PySem.W.keepIn K (.ref f2) = true)
    {f3 : Addr} {oc3 kV3 dc3 pm3 cd3 ct3 : Value} {od3 an3 : Option Addr} {sl3 : Array (Option Value)} (qa3 : PySem.W.nsIn K mainGlobals "without" = some (some (.ref f3))) (ql3 : K.lookup f3 = some ⟨oc3, od3, .func (PySem.W.fnOf "without" "without" (defArgs (st 4)) (defBody (st 4)) (defScope (st 4)) .none kV3 dc3 pm3 an3 cd3 ct3), sl3⟩) (qc3 : PySem.W.codeIn K cd3 "without" = true) (qk3 : PySem.W.keepIn K (.ref f3) = true)
    {f4 : Addr} {oc4 kV4 dc4 pm4 cd4 ct4 : Value} {od4 an4 : Option Addr} {sl4 : Array (Option Value)} (qa4 : PySem.W.nsIn K mainGlobals "minutes_in" = some (some (.ref f4))) (ql4 : K.lookup f4 = some ⟨oc4, od4, .func (PySem.W.fnOf "minutes_in" "minutes_in" (defArgs (st 5)) (defBody (st 5)) (defScope (st 5)) .none kV4 dc4 pm4 an4 cd4 ct4), sl4⟩) (qc4 : PySem.W.codeIn K cd4 "minutes_in" = true) (qk4 : PySem.W.keepIn K (.ref f4) = true)
    {f5 : Addr} {oc5 kV5 dc5 pm5 cd5 ct5 : Value} {od5 an5 : Option Addr} {sl5 : Array (Option Value)} (qa5 : PySem.W.nsIn K mainGlobals "_law_feed" = some (some (.ref f5))) (ql5 : K.lookup f5 = some ⟨oc5, od5, .func (PySem.W.fnOf "_law_feed" "_law_feed" (defArgs (st 7)) (defBody (st 7)) (defScope (st 7)) .none kV5 dc5 pm5 an5 cd5 ct5), sl5⟩) (qc5 : PySem.W.codeIn K cd5 "_law_feed" = true) (qk5 : PySem.W.keepIn K (.ref f5) = true)
    {f6 : Addr} {oc6 kV6 dc6 pm6 cd6 ct6 : Value} {od6 an6 : Option Addr} {sl6 : Array (Option Value)} (qa6 : PySem.W.nsIn K mainGlobals "_law_draw" = some (some (.ref f6))) (ql6 : K.lookup f6 = some ⟨oc6, od6, .func (PySem.W.fnOf "_law_draw" "_law_draw" (defArgs (st 8)) (defBody (st 8)) (defScope (st 8)) .none kV6 dc6 pm6 an6 cd6 ct6), sl6⟩) (qc6 : PySem.W.codeIn K cd6 "_law_draw" = true) (qk6 : PySem.W.keepIn K (.ref f6) = true)
    {f7 : Addr} {oc7 kV7 dc7 pm7 cd7 ct7 : Value} {od7 an7 : Option Addr} {sl7 : Array (Option Value)} (qa7 : PySem.W.nsIn K mainGlobals "_law_minute" = some (some (.ref f7))) (ql7 : K.lookup f7 = some ⟨oc7, od7, .func (PySem.W.fnOf "_law_minute" "_law_minute" (defArgs (st 9)) (defBody (st 9)) (defScope (st 9)) .none kV7 dc7 pm7 an7 cd7 ct7), sl7⟩) (qc7 : PySem.W.codeIn K cd7 "_law_minute" = true) (qk7 : PySem.W.keepIn K (.ref f7) = true)
    {f8 : Addr} {oc8 kV8 dc8 pm8 cd8 ct8 : Value} {od8 an8 : Option Addr} {sl8 : Array (Option Value)} (qa8 : PySem.W.nsIn K mainGlobals "_law_lot" = some (some (.ref f8))) (ql8 : K.lookup f8 = some ⟨oc8, od8, .func (PySem.W.fnOf "_law_lot" "_law_lot" (defArgs (st 10)) (defBody (st 10)) (defScope (st 10)) .none kV8 dc8 pm8 an8 cd8 ct8), sl8⟩) (qc8 : PySem.W.codeIn K cd8 "_law_lot" = true) (qk8 : PySem.W.keepIn K (.ref f8) = true)
    {f9 : Addr} {oc9 kV9 dc9 pm9 cd9 ct9 : Value} {od9 an9 : Option Addr} {sl9 : Array (Option Value)} (qa9 : PySem.W.nsIn K mainGlobals "_law_has" = some (some (.ref f9))) (ql9 : K.lookup f9 = some ⟨oc9, od9, .func (PySem.W.fnOf "_law_has" "_law_has" (defArgs (st 11)) (defBody (st 11)) (defScope (st 11)) .none kV9 dc9 pm9 an9 cd9 ct9), sl9⟩) (qc9 : PySem.W.codeIn K cd9 "_law_has" = true) (qk9 : PySem.W.keepIn K (.ref f9) = true)
    {f10 : Addr} {oc10 kV10 dc10 pm10 cd10 ct10 : Value} {od10 an10 : Option Addr} {sl10 : Array (Option Value)} (qa10 : PySem.W.nsIn K mainGlobals "_law_is_lot" = some (some (.ref f10))) (ql10 : K.lookup f10 = some ⟨oc10, od10, .func (PySem.W.fnOf "_law_is_lot" "_law_is_lot" (defArgs (st 12)) (defBody (st 12)) (defScope (st 12)) .none kV10 dc10 pm10 an10 cd10 ct10), sl10⟩) (qc10 : PySem.W.codeIn K cd10 "_law_is_lot" = true) (qk10 : PySem.W.keepIn K (.ref f10) = true)
    {f11 : Addr} {oc11 kV11 dc11 pm11 cd11 ct11 : Value} {od11 an11 : Option Addr} {sl11 : Array (Option Value)} (qa11 : PySem.W.nsIn K mainGlobals "_law_right" = some (some (.ref f11))) (ql11 : K.lookup f11 = some ⟨oc11, od11, .func (PySem.W.fnOf "_law_right" "_law_right" (defArgs (st 13)) (defBody (st 13)) (defScope (st 13)) .none kV11 dc11 pm11 an11 cd11 ct11), sl11⟩) (qc11 : PySem.W.codeIn K cd11 "_law_right" = true) (qk11 : PySem.W.keepIn K (.ref f11) = true)
    {f12 : Addr} {oc12 kV12 dc12 pm12 cd12 ct12 : Value} {od12 an12 : Option Addr} {sl12 : Array (Option Value)} (qa12 : PySem.W.nsIn K mainGlobals "_law_crowd" = some (some (.ref f12))) (ql12 : K.lookup f12 = some ⟨oc12, od12, .func (PySem.W.fnOf "_law_crowd" "_law_crowd" (defArgs (st 14)) (defBody (st 14)) (defScope (st 14)) .none kV12 dc12 pm12 an12 cd12 ct12), sl12⟩) (qc12 : PySem.W.codeIn K cd12 "_law_crowd" = true) (qk12 : PySem.W.keepIn K (.ref f12) = true)
    {f13 : Addr} {oc13 kV13 dc13 pm13 cd13 ct13 : Value} {od13 an13 : Option Addr} {sl13 : Array (Option Value)} (qa13 : PySem.W.nsIn K mainGlobals "_law_minutes" = some (some (.ref f13))) (ql13 : K.lookup f13 = some ⟨oc13, od13, .func (PySem.W.fnOf "_law_minutes" "_law_minutes" (defArgs (st 15)) (defBody (st 15)) (defScope (st 15)) .none kV13 dc13 pm13 an13 cd13 ct13), sl13⟩) (qc13 : PySem.W.codeIn K cd13 "_law_minutes" = true) (qk13 : PySem.W.keepIn K (.ref f13) = true)
    {f14 : Addr} {oc14 kV14 dc14 pm14 cd14 ct14 : Value} {od14 an14 : Option Addr} {sl14 : Array (Option Value)} (qa14 : PySem.W.nsIn K mainGlobals "_law_crowd_right" = some (some (.ref f14))) (ql14 : K.lookup f14 = some ⟨oc14, od14, .func (PySem.W.fnOf "_law_crowd_right" "_law_crowd_right" (defArgs (st 16)) (defBody (st 16)) (defScope (st 16)) .none kV14 dc14 pm14 an14 cd14 ct14), sl14⟩) (qc14 : PySem.W.codeIn K cd14 "_law_crowd_right" = true) (qk14 : PySem.W.keepIn K (.ref f14) = true)
    {f15 : Addr} {oc15 kV15 dc15 pm15 cd15 ct15 : Value} {od15 an15 : Option Addr} {sl15 : Array (Option Value)} (qa15 : PySem.W.nsIn K mainGlobals "law" = some (some (.ref f15))) (ql15 : K.lookup f15 = some ⟨oc15, od15, .func (PySem.W.fnOf "law" "law" (defArgs (st 17)) (defBody (st 17)) (defScope (st 17)) .none kV15 dc15 pm15 an15 cd15 ct15), sl15⟩) (qc15 : PySem.W.codeIn K cd15 "law" = true) (qk15 : PySem.W.keepIn K (.ref f15) = true)
    (Z0 : PySem.W.nsIn K mainGlobals "max" = some none)
    (Z1 : PySem.W.nsIn K mainGlobals "min" = some none)
    (Z2 : PySem.W.nsIn K mainGlobals "len" = some none)
    (Z3 : PySem.W.nsIn K mainGlobals "sum" = some none)
    (Z4 : PySem.W.nsIn K mainGlobals "list" = some none)
    (Z5 : PySem.W.nsIn K mainGlobals "abs" = some none)
    (Z6 : PySem.W.nsIn K mainGlobals "range" = some none)
    (Z7 : PySem.W.nsIn K mainGlobals "any" = some none)
    (Z8 : PySem.W.nsIn K mainGlobals "isinstance" = some none)
    (Z9 : PySem.W.nsIn K mainGlobals "all" = some none)
    (Z10 : PySem.W.nsIn K mainGlobals "tuple" = some none)
    (Z11 : PySem.W.nsIn K mainGlobals "zip" = some none)
    (Z12 : PySem.W.nsIn K mainGlobals "bool" = some none) :
    ∃ fd : FuncData, (∀ (s : Shared) (u : Value), BindsTo s fd ⟨[u], []⟩ [("script", u)]) ∧ ∀ base : Heap, FnG P w K mg base (n + 1) fa fd ["script"] (spL K C (run gl ds (n + 1) 15)) := by
  have D0 : DefIn K "common" (st 1) := ⟨_, _, _, _, _, _, _, _, _, _, qa0, ql0, qc0, qk0⟩
  have D1 : DefIn K "both" (st 2) := ⟨_, _, _, _, _, _, _, _, _, _, qa1, ql1, qc1, qk1⟩
  have D2 : DefIn K "around" (st 3) := ⟨_, _, _, _, _, _, _, _, _, _, qa2, ql2, qc2, qk2⟩
  have D3 : DefIn K "without" (st 4) := ⟨_, _, _, _, _, _, _, _, _, _, qa3, ql3, qc3, qk3⟩
  have D4 : DefIn K "minutes_in" (st 5) := ⟨_, _, _, _, _, _, _, _, _, _, qa4, ql4, qc4, qk4⟩
  have D5 : DefIn K "_law_feed" (st 7) := ⟨_, _, _, _, _, _, _, _, _, _, qa5, ql5, qc5, qk5⟩
  have D6 : DefIn K "_law_draw" (st 8) := ⟨_, _, _, _, _, _, _, _, _, _, qa6, ql6, qc6, qk6⟩
  have D7 : DefIn K "_law_minute" (st 9) := ⟨_, _, _, _, _, _, _, _, _, _, qa7, ql7, qc7, qk7⟩
  have D8 : DefIn K "_law_lot" (st 10) := ⟨_, _, _, _, _, _, _, _, _, _, qa8, ql8, qc8, qk8⟩
  have D9 : DefIn K "_law_has" (st 11) := ⟨_, _, _, _, _, _, _, _, _, _, qa9, ql9, qc9, qk9⟩
  have D10 : DefIn K "_law_is_lot" (st 12) := ⟨_, _, _, _, _, _, _, _, _, _, qa10, ql10, qc10, qk10⟩
  have D11 : DefIn K "_law_right" (st 13) := ⟨_, _, _, _, _, _, _, _, _, _, qa11, ql11, qc11, qk11⟩
  have D12 : DefIn K "_law_crowd" (st 14) := ⟨_, _, _, _, _, _, _, _, _, _, qa12, ql12, qc12, qk12⟩
  have D13 : DefIn K "_law_minutes" (st 15) := ⟨_, _, _, _, _, _, _, _, _, _, qa13, ql13, qc13, qk13⟩
  have D14 : DefIn K "_law_crowd_right" (st 16) := ⟨_, _, _, _, _, _, _, _, _, _, qa14, ql14, qc14, qk14⟩
  have D15 : DefIn K "law" (st 17) := ⟨_, _, _, _, _, _, _, _, _, _, qa15, ql15, qc15, qk15⟩
  refine law_fd (cns := cns) (bls := bls) n sm (i := 15) (d := d15) rfl hfa rfl (fun i x e => ?_) (fun x hx => ?_) (fun i d e => ?_) (st 17) D15 s15 c15 ⟨h, X, G⟩ (fun _ _ _ _ _ _ _ => rfl)
  · match i, e with
    | n + 0, e => cases e
  · unfold bls at hx
    simp only [List.mem_cons, List.not_mem_nil, or_false] at hx
    rcases hx with rfl | rfl | rfl | rfl | rfl | rfl | rfl | rfl | rfl | rfl | rfl | rfl | rfl
    · exact NoIn.mk' X G Z0
    · exact NoIn.mk' X G Z1
    · exact NoIn.mk' X G Z2
    · exact NoIn.mk' X G Z3
    · exact NoIn.mk' X G Z4
    · exact NoIn.mk' X G Z5
    · exact NoIn.mk' X G Z6
    · exact NoIn.mk' X G Z7
    · exact NoIn.mk' X G Z8
    · exact NoIn.mk' X G Z9
    · exact NoIn.mk' X G Z10
    · exact NoIn.mk' X G Z11
    · exact NoIn.mk' X G Z12
  · match i, e with
    | 0, e => cases e; obtain ⟨f, fd, e1, F⟩ := D0.mk' X G; exact ⟨st 1, ⟨f, fd, e1, F, F.binds fun _ _ _ _ _ _ us hl => match us, hl with | [_, _], _ => rfl⟩, s0, c0⟩
    | 1, e => cases e; obtain ⟨f, fd, e1, F⟩ := D1.mk' X G; exact ⟨st 2, ⟨f, fd, e1, F, F.binds fun _ _ _ _ _ _ us hl => match us, hl with | [_, _], _ => rfl⟩, s1, c1⟩
    | 2, e => cases e; obtain ⟨f, fd, e1, F⟩ := D2.mk' X G; exact ⟨st 3, ⟨f, fd, e1, F, F.binds fun _ _ _ _ _ _ us hl => match us, hl with | [_, _, _], _ => rfl⟩, s2, c2⟩
    | 3, e => cases e; obtain ⟨f, fd, e1, F⟩ := D3.mk' X G; exact ⟨st 4, ⟨f, fd, e1, F, F.binds fun _ _ _ _ _ _ us hl => match us, hl with | [_, _], _ => rfl⟩, s3, c3⟩
    | 4, e => cases e; obtain ⟨f, fd, e1, F⟩ := D4.mk' X G; exact ⟨st 5, ⟨f, fd, e1, F, F.binds fun _ _ _ _ _ _ us hl => match us, hl with | [_], _ => rfl⟩, s4, c4⟩
    | 5, e => cases e; obtain ⟨f, fd, e1, F⟩ := D5.mk' X G; exact ⟨st 7, ⟨f, fd, e1, F, F.binds fun _ _ _ _ _ _ us hl => match us, hl with | [_], _ => rfl⟩, s5, c5⟩
    | 6, e => cases e; obtain ⟨f, fd, e1, F⟩ := D6.mk' X G; exact ⟨st 8, ⟨f, fd, e1, F, F.binds fun _ _ _ _ _ _ us hl => match us, hl with | [_, _], _ => rfl⟩, s6, c6⟩
    | 7, e => cases e; obtain ⟨f, fd, e1, F⟩ := D7.mk' X G; exact ⟨st 9, ⟨f, fd, e1, F, F.binds fun _ _ _ _ _ _ us hl => match us, hl with | [_], _ => rfl⟩, s7, c7⟩
    | 8, e => cases e; obtain ⟨f, fd, e1, F⟩ := D8.mk' X G; exact ⟨st 10, ⟨f, fd, e1, F, F.binds fun _ _ _ _ _ _ us hl => match us, hl with | [_, _, _], _ => rfl⟩, s8, c8⟩
    | 9, e => cases e; obtain ⟨f, fd, e1, F⟩ := D9.mk' X G; exact ⟨st 11, ⟨f, fd, e1, F, F.binds fun _ _ _ _ _ _ us hl => match us, hl with | [_, _], _ => rfl⟩, s9, c9⟩
    | 10, e => cases e; obtain ⟨f, fd, e1, F⟩ := D10.mk' X G; exact ⟨st 12, ⟨f, fd, e1, F, F.binds fun _ _ _ _ _ _ us hl => match us, hl with | [_], _ => rfl⟩, s10, c10⟩
    | 11, e => cases e; obtain ⟨f, fd, e1, F⟩ := D11.mk' X G; exact ⟨st 13, ⟨f, fd, e1, F, F.binds fun _ _ _ _ _ _ us hl => match us, hl with | [_, _], _ => rfl⟩, s11, c11⟩
    | 12, e => cases e; obtain ⟨f, fd, e1, F⟩ := D12.mk' X G; exact ⟨st 14, ⟨f, fd, e1, F, F.binds fun _ _ _ _ _ _ us hl => match us, hl with | [_, _], _ => rfl⟩, s12, c12⟩
    | 13, e => cases e; obtain ⟨f, fd, e1, F⟩ := D13.mk' X G; exact ⟨st 15, ⟨f, fd, e1, F, F.binds fun _ _ _ _ _ _ us hl => match us, hl with | [_], _ => rfl⟩, s13, c13⟩
    | 14, e => cases e; obtain ⟨f, fd, e1, F⟩ := D14.mk' X G; exact ⟨st 16, ⟨f, fd, e1, F, F.binds fun _ _ _ _ _ _ us hl => match us, hl with | [_], _ => rfl⟩, s14, c14⟩
    | 15, e => cases e; obtain ⟨f, fd, e1, F⟩ := D15.mk' X G; exact ⟨st 17, ⟨f, fd, e1, F, F.binds fun _ _ _ _ _ _ us hl => match us, hl with | [_], _ => rfl⟩, s15, c15⟩
    | n + 16, e => cases e
end
end Qk04

namespace Qk04
open PySem DL L2
theorem draw {n : Nat} {p c : Addr} {xs : List Int} {at' left many : Int} {h : DH} {Q : QD} {E : XD} (hp : h p = some (.lst [.ref c, .int at', .int left])) (hc : h c = some (.lst (iL xs))) (hpc : c ≠ p) (h0 : 0 ≤ at') (hb : at' < 1000000) (hm : 0 < many) (hm2 : many < 1073741824)
    (q : ∀ d at2 left2 h2, 0 ≤ d → d < many → 0 ≤ at2 → at2 ≤ at' + 1 → h2 p = some (.lst [.ref c, .int at2, .int left2]) → Ex1 p h h2 → Q (.int d) h2) : run gl ds (n + 1) 6 [.ref p, .int many] h Q E := by
  refine e6 ?_
  ((try simp only [e_var, wV_some, wG_some, e_non, e_bl, e_int, e_str, e_glb, e_bin, e_neg, e_no, e_and, e_or, e_cmp, e_chn, e_ife, e_tup, e_lst, e_dnew, e_idx, e_slc, e_call, e_blt, e_mtd, e_isi, e_dis, e_rev, wRev, e_mnd, e_lrg, wMnd, wLrg, e_comp, wEs, wO, wT, wI, wS, wTg, wTgs, CTs.len, asB_bl, wBin, wCmp, wAdd, wSubX, wI2, wMul, wEq, wLt, wCI, wIs, DL.isNon, wNeg, wIdx, wSlc, wB, wLen, seqOf, lstOf, wIsi, tyOf, isTy, wM, wML, tyD, Mtd.ty, iAny, isSeqL, isSeqT, iRng, wSet, List.getElem?_cons_zero, List.getElem?_cons_succ, List.set_cons_zero, List.set_cons_succ, List.length_cons, List.length_nil, wAt_0, wAt_1, wAt_2, wAt_3, Nat.reduceAdd, ix30, ix31, ix32, up_at, Bool.false_eq_true, ↓reduceIte, decide_true, String.reduceBEq, Bool.and_false, Bool.false_and, Bool.or_false, Bool.false_or, true_and, beq_self_eq_true, Bool.true_or, Bool.or_true, Bool.not_true, Bool.not_false, Bool.false_xor, Bool.true_xor, wipeD, List.map_cons, List.map_nil, wTgs, CTs.len]); rw [ss_cons]; simp only [e_var, wV_some, wG_some, e_non, e_bl, e_int, e_str, e_glb, e_bin, e_neg, e_no, e_and, e_or, e_cmp, e_chn, e_ife, e_tup, e_lst, e_dnew, e_idx, e_slc, e_call, e_blt, e_mtd, e_isi, e_dis, e_rev, wRev, e_mnd, e_lrg, wMnd, wLrg, e_comp, wEs, wO, wT, wI, wS, wTg, wTgs, CTs.len, asB_bl, wBin, wCmp, wAdd, wSubX, wI2, wMul, wEq, wLt, wCI, wIs, DL.isNon, wNeg, wIdx, wSlc, wB, wLen, seqOf, lstOf, wIsi, tyOf, isTy, wM, wML, tyD, Mtd.ty, iAny, isSeqL, isSeqT, iRng, wSet, List.getElem?_cons_zero, List.getElem?_cons_succ, List.set_cons_zero, List.set_cons_succ, List.length_cons, List.length_nil, wAt_0, wAt_1, wAt_2, wAt_3, Nat.reduceAdd, ix30, ix31, ix32, up_at, Bool.false_eq_true, ↓reduceIte, decide_true, String.reduceBEq, Bool.and_false, Bool.false_and, Bool.or_false, Bool.false_or, true_and, beq_self_eq_true, Bool.true_or, Bool.or_true, Bool.not_true, Bool.not_false, Bool.false_xor, Bool.true_xor, wipeD, List.map_cons, List.map_nil, wTgs, CTs.len, hp])
  refine dec_ite (fun g => ?_) fun g => ?_
  · ((try simp only [e_var, wV_some, wG_some, e_non, e_bl, e_int, e_str, e_glb, e_bin, e_neg, e_no, e_and, e_or, e_cmp, e_chn, e_ife, e_tup, e_lst, e_dnew, e_idx, e_slc, e_call, e_blt, e_mtd, e_isi, e_dis, e_rev, wRev, e_mnd, e_lrg, wMnd, wLrg, e_comp, wEs, wO, wT, wI, wS, wTg, wTgs, CTs.len, asB_bl, wBin, wCmp, wAdd, wSubX, wI2, wMul, wEq, wLt, wCI, wIs, DL.isNon, wNeg, wIdx, wSlc, wB, wLen, seqOf, lstOf, wIsi, tyOf, isTy, wM, wML, tyD, Mtd.ty, iAny, isSeqL, isSeqT, iRng, wSet, List.getElem?_cons_zero, List.getElem?_cons_succ, List.set_cons_zero, List.set_cons_succ, List.length_cons, List.length_nil, wAt_0, wAt_1, wAt_2, wAt_3, Nat.reduceAdd, ix30, ix31, ix32, up_at, Bool.false_eq_true, ↓reduceIte, decide_true, String.reduceBEq, Bool.and_false, Bool.false_and, Bool.or_false, Bool.false_or, true_and, beq_self_eq_true, Bool.true_or, Bool.or_true, Bool.not_true, Bool.not_false, Bool.false_xor, Bool.true_xor, wipeD, List.map_cons, List.map_nil, wTgs, CTs.len]); rw [ss_cons]; simp only [e_var, wV_some, wG_some, e_non, e_bl, e_int, e_str, e_glb, e_bin, e_neg, e_no, e_and, e_or, e_cmp, e_chn, e_ife, e_tup, e_lst, e_dnew, e_idx, e_slc, e_call, e_blt, e_mtd, e_isi, e_dis, e_rev, wRev, e_mnd, e_lrg, wMnd, wLrg, e_comp, wEs, wO, wT, wI, wS, wTg, wTgs, CTs.len, asB_bl, wBin, wCmp, wAdd, wSubX, wI2, wMul, wEq, wLt, wCI, wIs, DL.isNon, wNeg, wIdx, wSlc, wB, wLen, seqOf, lstOf, wIsi, tyOf, isTy, wM, wML, tyD, Mtd.ty, iAny, isSeqL, isSeqT, iRng, wSet, List.getElem?_cons_zero, List.getElem?_cons_succ, List.set_cons_zero, List.set_cons_succ, List.length_cons, List.length_nil, wAt_0, wAt_1, wAt_2, wAt_3, Nat.reduceAdd, ix30, ix31, ix32, up_at, Bool.false_eq_true, ↓reduceIte, decide_true, String.reduceBEq, Bool.and_false, Bool.false_and, Bool.or_false, Bool.false_or, true_and, beq_self_eq_true, Bool.true_or, Bool.or_true, Bool.not_true, Bool.not_false, Bool.false_xor, Bool.true_xor, wipeD, List.map_cons, List.map_nil, wTgs, CTs.len, hp])
    refine ⟨hm, ?_⟩
    ((try simp only [e_var, wV_some, wG_some, e_non, e_bl, e_int, e_str, e_glb, e_bin, e_neg, e_no, e_and, e_or, e_cmp, e_chn, e_ife, e_tup, e_lst, e_dnew, e_idx, e_slc, e_call, e_blt, e_mtd, e_isi, e_dis, e_rev, wRev, e_mnd, e_lrg, wMnd, wLrg, e_comp, wEs, wO, wT, wI, wS, wTg, wTgs, CTs.len, asB_bl, wBin, wCmp, wAdd, wSubX, wI2, wMul, wEq, wLt, wCI, wIs, DL.isNon, wNeg, wIdx, wSlc, wB, wLen, seqOf, lstOf, wIsi, tyOf, isTy, wM, wML, tyD, Mtd.ty, iAny, isSeqL, isSeqT, iRng, wSet, List.getElem?_cons_zero, List.getElem?_cons_succ, List.set_cons_zero, List.set_cons_succ, List.length_cons, List.length_nil, wAt_0, wAt_1, wAt_2, wAt_3, Nat.reduceAdd, ix30, ix31, ix32, up_at, Bool.false_eq_true, ↓reduceIte, decide_true, String.reduceBEq, Bool.and_false, Bool.false_and, Bool.or_false, Bool.false_or, true_and, beq_self_eq_true, Bool.true_or, Bool.or_true, Bool.not_true, Bool.not_false, Bool.false_xor, Bool.true_xor, wipeD, List.map_cons, List.map_nil, wTgs, CTs.len]); rw [ss_cons]; simp only [e_var, wV_some, wG_some, e_non, e_bl, e_int, e_str, e_glb, e_bin, e_neg, e_no, e_and, e_or, e_cmp, e_chn, e_ife, e_tup, e_lst, e_dnew, e_idx, e_slc, e_call, e_blt, e_mtd, e_isi, e_dis, e_rev, wRev, e_mnd, e_lrg, wMnd, wLrg, e_comp, wEs, wO, wT, wI, wS, wTg, wTgs, CTs.len, asB_bl, wBin, wCmp, wAdd, wSubX, wI2, wMul, wEq, wLt, wCI, wIs, DL.isNon, wNeg, wIdx, wSlc, wB, wLen, seqOf, lstOf, wIsi, tyOf, isTy, wM, wML, tyD, Mtd.ty, iAny, isSeqL, isSeqT, iRng, wSet, List.getElem?_cons_zero, List.getElem?_cons_succ, List.set_cons_zero, List.set_cons_succ, List.length_cons, List.length_nil, wAt_0, wAt_1, wAt_2, wAt_3, Nat.reduceAdd, ix30, ix31, ix32, up_at, Bool.false_eq_true, ↓reduceIte, decide_true, String.reduceBEq, Bool.and_false, Bool.false_and, Bool.or_false, Bool.false_or, true_and, beq_self_eq_true, Bool.true_or, Bool.or_true, Bool.not_true, Bool.not_false, Bool.false_xor, Bool.true_xor, wipeD, List.map_cons, List.map_nil, wTgs, CTs.len, hp])
    refine ⟨⟨hm, hm2⟩, ?_⟩
    ((try simp only [e_var, wV_some, wG_some, e_non, e_bl, e_int, e_str, e_glb, e_bin, e_neg, e_no, e_and, e_or, e_cmp, e_chn, e_ife, e_tup, e_lst, e_dnew, e_idx, e_slc, e_call, e_blt, e_mtd, e_isi, e_dis, e_rev, wRev, e_mnd, e_lrg, wMnd, wLrg, e_comp, wEs, wO, wT, wI, wS, wTg, wTgs, CTs.len, asB_bl, wBin, wCmp, wAdd, wSubX, wI2, wMul, wEq, wLt, wCI, wIs, DL.isNon, wNeg, wIdx, wSlc, wB, wLen, seqOf, lstOf, wIsi, tyOf, isTy, wM, wML, tyD, Mtd.ty, iAny, isSeqL, isSeqT, iRng, wSet, List.getElem?_cons_zero, List.getElem?_cons_succ, List.set_cons_zero, List.set_cons_succ, List.length_cons, List.length_nil, wAt_0, wAt_1, wAt_2, wAt_3, Nat.reduceAdd, ix30, ix31, ix32, up_at, Bool.false_eq_true, ↓reduceIte, decide_true, String.reduceBEq, Bool.and_false, Bool.false_and, Bool.or_false, Bool.false_or, true_and, beq_self_eq_true, Bool.true_or, Bool.or_true, Bool.not_true, Bool.not_false, Bool.false_xor, Bool.true_xor, wipeD, List.map_cons, List.map_nil, wTgs, CTs.len]); rw [ss_cons]; simp only [e_var, wV_some, wG_some, e_non, e_bl, e_int, e_str, e_glb, e_bin, e_neg, e_no, e_and, e_or, e_cmp, e_chn, e_ife, e_tup, e_lst, e_dnew, e_idx, e_slc, e_call, e_blt, e_mtd, e_isi, e_dis, e_rev, wRev, e_mnd, e_lrg, wMnd, wLrg, e_comp, wEs, wO, wT, wI, wS, wTg, wTgs, CTs.len, asB_bl, wBin, wCmp, wAdd, wSubX, wI2, wMul, wEq, wLt, wCI, wIs, DL.isNon, wNeg, wIdx, wSlc, wB, wLen, seqOf, lstOf, wIsi, tyOf, isTy, wM, wML, tyD, Mtd.ty, iAny, isSeqL, isSeqT, iRng, wSet, List.getElem?_cons_zero, List.getElem?_cons_succ, List.set_cons_zero, List.set_cons_succ, List.length_cons, List.length_nil, wAt_0, wAt_1, wAt_2, wAt_3, Nat.reduceAdd, ix30, ix31, ix32, up_at, Bool.false_eq_true, ↓reduceIte, decide_true, String.reduceBEq, Bool.and_false, Bool.false_and, Bool.or_false, Bool.false_or, true_and, beq_self_eq_true, Bool.true_or, Bool.or_true, Bool.not_true, Bool.not_false, Bool.false_xor, Bool.true_xor, wipeD, List.map_cons, List.map_nil, wTgs, CTs.len])
    exact q _ _ _ _ (Int.emod_nonneg _ (by omega)) (Int.emod_lt_of_pos _ hm) h0 (by omega) up_at Ex1.put
  · ((try simp only [e_var, wV_some, wG_some, e_non, e_bl, e_int, e_str, e_glb, e_bin, e_neg, e_no, e_and, e_or, e_cmp, e_chn, e_ife, e_tup, e_lst, e_dnew, e_idx, e_slc, e_call, e_blt, e_mtd, e_isi, e_dis, e_rev, wRev, e_mnd, e_lrg, wMnd, wLrg, e_comp, wEs, wO, wT, wI, wS, wTg, wTgs, CTs.len, asB_bl, wBin, wCmp, wAdd, wSubX, wI2, wMul, wEq, wLt, wCI, wIs, DL.isNon, wNeg, wIdx, wSlc, wB, wLen, seqOf, lstOf, wIsi, tyOf, isTy, wM, wML, tyD, Mtd.ty, iAny, isSeqL, isSeqT, iRng, wSet, List.getElem?_cons_zero, List.getElem?_cons_succ, List.set_cons_zero, List.set_cons_succ, List.length_cons, List.length_nil, wAt_0, wAt_1, wAt_2, wAt_3, Nat.reduceAdd, ix30, ix31, ix32, up_at, Bool.false_eq_true, ↓reduceIte, decide_true, String.reduceBEq, Bool.and_false, Bool.false_and, Bool.or_false, Bool.false_or, true_and, beq_self_eq_true, Bool.true_or, Bool.or_true, Bool.not_true, Bool.not_false, Bool.false_xor, Bool.true_xor, wipeD, List.map_cons, List.map_nil, wTgs, CTs.len]); rw [ss_nil])
    ((try simp only [e_var, wV_some, wG_some, e_non, e_bl, e_int, e_str, e_glb, e_bin, e_neg, e_no, e_and, e_or, e_cmp, e_chn, e_ife, e_tup, e_lst, e_dnew, e_idx, e_slc, e_call, e_blt, e_mtd, e_isi, e_dis, e_rev, wRev, e_mnd, e_lrg, wMnd, wLrg, e_comp, wEs, wO, wT, wI, wS, wTg, wTgs, CTs.len, asB_bl, wBin, wCmp, wAdd, wSubX, wI2, wMul, wEq, wLt, wCI, wIs, DL.isNon, wNeg, wIdx, wSlc, wB, wLen, seqOf, lstOf, wIsi, tyOf, isTy, wM, wML, tyD, Mtd.ty, iAny, isSeqL, isSeqT, iRng, wSet, List.getElem?_cons_zero, List.getElem?_cons_succ, List.set_cons_zero, List.set_cons_succ, List.length_cons, List.length_nil, wAt_0, wAt_1, wAt_2, wAt_3, Nat.reduceAdd, ix30, ix31, ix32, up_at, Bool.false_eq_true, ↓reduceIte, decide_true, String.reduceBEq, Bool.and_false, Bool.false_and, Bool.or_false, Bool.false_or, true_and, beq_self_eq_true, Bool.true_or, Bool.or_true, Bool.not_true, Bool.not_false, Bool.false_xor, Bool.true_xor, wipeD, List.map_cons, List.map_nil, wTgs, CTs.len]); rw [ss_cons]; simp only [e_var, wV_some, wG_some, e_non, e_bl, e_int, e_str, e_glb, e_bin, e_neg, e_no, e_and, e_or, e_cmp, e_chn, e_ife, e_tup, e_lst, e_dnew, e_idx, e_slc, e_call, e_blt, e_mtd, e_isi, e_dis, e_rev, wRev, e_mnd, e_lrg, wMnd, wLrg, e_comp, wEs, wO, wT, wI, wS, wTg, wTgs, CTs.len, asB_bl, wBin, wCmp, wAdd, wSubX, wI2, wMul, wEq, wLt, wCI, wIs, DL.isNon, wNeg, wIdx, wSlc, wB, wLen, seqOf, lstOf, wIsi, tyOf, isTy, wM, wML, tyD, Mtd.ty, iAny, isSeqL, isSeqT, iRng, wSet, List.getElem?_cons_zero, List.getElem?_cons_succ, List.set_cons_zero, List.set_cons_succ, List.length_cons, List.length_nil, wAt_0, wAt_1, wAt_2, wAt_3, Nat.reduceAdd, ix30, ix31, ix32, up_at, Bool.false_eq_true, ↓reduceIte, decide_true, String.reduceBEq, Bool.and_false, Bool.false_and, Bool.or_false, Bool.false_or, true_and, beq_self_eq_true, Bool.true_or, Bool.or_true, Bool.not_true, Bool.not_false, Bool.false_xor, Bool.true_xor, wipeD, List.map_cons, List.map_nil, wTgs, CTs.len, hp])
    ((try simp only [e_var, wV_some, wG_some, e_non, e_bl, e_int, e_str, e_glb, e_bin, e_neg, e_no, e_and, e_or, e_cmp, e_chn, e_ife, e_tup, e_lst, e_dnew, e_idx, e_slc, e_call, e_blt, e_mtd, e_isi, e_dis, e_rev, wRev, e_mnd, e_lrg, wMnd, wLrg, e_comp, wEs, wO, wT, wI, wS, wTg, wTgs, CTs.len, asB_bl, wBin, wCmp, wAdd, wSubX, wI2, wMul, wEq, wLt, wCI, wIs, DL.isNon, wNeg, wIdx, wSlc, wB, wLen, seqOf, lstOf, wIsi, tyOf, isTy, wM, wML, tyD, Mtd.ty, iAny, isSeqL, isSeqT, iRng, wSet, List.getElem?_cons_zero, List.getElem?_cons_succ, List.set_cons_zero, List.set_cons_succ, List.length_cons, List.length_nil, wAt_0, wAt_1, wAt_2, wAt_3, Nat.reduceAdd, ix30, ix31, ix32, up_at, Bool.false_eq_true, ↓reduceIte, decide_true, String.reduceBEq, Bool.and_false, Bool.false_and, Bool.or_false, Bool.false_or, true_and, beq_self_eq_true, Bool.true_or, Bool.or_true, Bool.not_true, Bool.not_false, Bool.false_xor, Bool.true_xor, wipeD, List.map_cons, List.map_nil, wTgs, CTs.len]); rw [ss_cons]; simp only [e_var, wV_some, wG_some, e_non, e_bl, e_int, e_str, e_glb, e_bin, e_neg, e_no, e_and, e_or, e_cmp, e_chn, e_ife, e_tup, e_lst, e_dnew, e_idx, e_slc, e_call, e_blt, e_mtd, e_isi, e_dis, e_rev, wRev, e_mnd, e_lrg, wMnd, wLrg, e_comp, wEs, wO, wT, wI, wS, wTg, wTgs, CTs.len, asB_bl, wBin, wCmp, wAdd, wSubX, wI2, wMul, wEq, wLt, wCI, wIs, DL.isNon, wNeg, wIdx, wSlc, wB, wLen, seqOf, lstOf, wIsi, tyOf, isTy, wM, wML, tyD, Mtd.ty, iAny, isSeqL, isSeqT, iRng, wSet, List.getElem?_cons_zero, List.getElem?_cons_succ, List.set_cons_zero, List.set_cons_succ, List.length_cons, List.length_nil, wAt_0, wAt_1, wAt_2, wAt_3, Nat.reduceAdd, ix30, ix31, ix32, up_at, Bool.false_eq_true, ↓reduceIte, decide_true, String.reduceBEq, Bool.and_false, Bool.false_and, Bool.or_false, Bool.false_or, true_and, beq_self_eq_true, Bool.true_or, Bool.or_true, Bool.not_true, Bool.not_false, Bool.false_xor, Bool.true_xor, wipeD, List.map_cons, List.map_nil, wTgs, CTs.len, hp])
    ((try simp only [e_var, wV_some, wG_some, e_non, e_bl, e_int, e_str, e_glb, e_bin, e_neg, e_no, e_and, e_or, e_cmp, e_chn, e_ife, e_tup, e_lst, e_dnew, e_idx, e_slc, e_call, e_blt, e_mtd, e_isi, e_dis, e_rev, wRev, e_mnd, e_lrg, wMnd, wLrg, e_comp, wEs, wO, wT, wI, wS, wTg, wTgs, CTs.len, asB_bl, wBin, wCmp, wAdd, wSubX, wI2, wMul, wEq, wLt, wCI, wIs, DL.isNon, wNeg, wIdx, wSlc, wB, wLen, seqOf, lstOf, wIsi, tyOf, isTy, wM, wML, tyD, Mtd.ty, iAny, isSeqL, isSeqT, iRng, wSet, List.getElem?_cons_zero, List.getElem?_cons_succ, List.set_cons_zero, List.set_cons_succ, List.length_cons, List.length_nil, wAt_0, wAt_1, wAt_2, wAt_3, Nat.reduceAdd, ix30, ix31, ix32, up_at, Bool.false_eq_true, ↓reduceIte, decide_true, String.reduceBEq, Bool.and_false, Bool.false_and, Bool.or_false, Bool.false_or, true_and, beq_self_eq_true, Bool.true_or, Bool.or_true, Bool.not_true, Bool.not_false, Bool.false_xor, Bool.true_xor, wipeD, List.map_cons, List.map_nil, wTgs, CTs.len]); rw [ss_cons]; simp only [e_var, wV_some, wG_some, e_non, e_bl, e_int, e_str, e_glb, e_bin, e_neg, e_no, e_and, e_or, e_cmp, e_chn, e_ife, e_tup, e_lst, e_dnew, e_idx, e_slc, e_call, e_blt, e_mtd, e_isi, e_dis, e_rev, wRev, e_mnd, e_lrg, wMnd, wLrg, e_comp, wEs, wO, wT, wI, wS, wTg, wTgs, CTs.len, asB_bl, wBin, wCmp, wAdd, wSubX, wI2, wMul, wEq, wLt, wCI, wIs, DL.isNon, wNeg, wIdx, wSlc, wB, wLen, seqOf, lstOf, wIsi, tyOf, isTy, wM, wML, tyD, Mtd.ty, iAny, isSeqL, isSeqT, iRng, wSet, List.getElem?_cons_zero, List.getElem?_cons_succ, List.set_cons_zero, List.set_cons_succ, List.length_cons, List.length_nil, wAt_0, wAt_1, wAt_2, wAt_3, Nat.reduceAdd, ix30, ix31, ix32, up_at, Bool.false_eq_true, ↓reduceIte, decide_true, String.reduceBEq, Bool.and_false, Bool.false_and, Bool.or_false, Bool.false_or, true_and, beq_self_eq_true, Bool.true_or, Bool.or_true, Bool.not_true, Bool.not_false, Bool.false_xor, Bool.true_xor, wipeD, List.map_cons, List.map_nil, wTgs, CTs.len])
    refine ⟨.inl ⟨by omega, by omega⟩, ?_⟩
    generalize hh : up h p (DO.lst [D.ref c, D.int (at' + 1), D.int left]) = h1
    have hp1 : h1 p = some (.lst [.ref c, .int (at' + 1), .int left]) := by rw [← hh, up_at]
    have hx1 : Ex1 p h h1 := by rw [← hh]; exact Ex1.put
    have hc1 : h1 c = some (.lst (iL xs)) := hx1 _ _ hpc hc
    have tail : ∀ (cell : Int) (h2 : DH), Ext h1 h2 → go gl ds n Q E b6_5 [some (.ref p), some (.int many), none, some (.int at'), some (.int cell), none, none] h2 := by
      intro cell h2 x
      have hp2 := x _ _ hp1
      have hc2 := x _ _ hc1
      unfold go
      ((try simp only [e_var, wV_some, wG_some, e_non, e_bl, e_int, e_str, e_glb, e_bin, e_neg, e_no, e_and, e_or, e_cmp, e_chn, e_ife, e_tup, e_lst, e_dnew, e_idx, e_slc, e_call, e_blt, e_mtd, e_isi, e_dis, e_rev, wRev, e_mnd, e_lrg, wMnd, wLrg, e_comp, wEs, wO, wT, wI, wS, wTg, wTgs, CTs.len, asB_bl, wBin, wCmp, wAdd, wSubX, wI2, wMul, wEq, wLt, wCI, wIs, DL.isNon, wNeg, wIdx, wSlc, wB, wLen, seqOf, lstOf, wIsi, tyOf, isTy, wM, wML, tyD, Mtd.ty, iAny, isSeqL, isSeqT, iRng, wSet, List.getElem?_cons_zero, List.getElem?_cons_succ, List.set_cons_zero, List.set_cons_succ, List.length_cons, List.length_nil, wAt_0, wAt_1, wAt_2, wAt_3, Nat.reduceAdd, ix30, ix31, ix32, up_at, Bool.false_eq_true, ↓reduceIte, decide_true, String.reduceBEq, Bool.and_false, Bool.false_and, Bool.or_false, Bool.false_or, true_and, beq_self_eq_true, Bool.true_or, Bool.or_true, Bool.not_true, Bool.not_false, Bool.false_xor, Bool.true_xor, wipeD, List.map_cons, List.map_nil, wTgs, CTs.len]); rw [ss_cons]; simp only [e_var, wV_some, wG_some, e_non, e_bl, e_int, e_str, e_glb, e_bin, e_neg, e_no, e_and, e_or, e_cmp, e_chn, e_ife, e_tup, e_lst, e_dnew, e_idx, e_slc, e_call, e_blt, e_mtd, e_isi, e_dis, e_rev, wRev, e_mnd, e_lrg, wMnd, wLrg, e_comp, wEs, wO, wT, wI, wS, wTg, wTgs, CTs.len, asB_bl, wBin, wCmp, wAdd, wSubX, wI2, wMul, wEq, wLt, wCI, wIs, DL.isNon, wNeg, wIdx, wSlc, wB, wLen, seqOf, lstOf, wIsi, tyOf, isTy, wM, wML, tyD, Mtd.ty, iAny, isSeqL, isSeqT, iRng, wSet, List.getElem?_cons_zero, List.getElem?_cons_succ, List.set_cons_zero, List.set_cons_succ, List.length_cons, List.length_nil, wAt_0, wAt_1, wAt_2, wAt_3, Nat.reduceAdd, ix30, ix31, ix32, up_at, Bool.false_eq_true, ↓reduceIte, decide_true, String.reduceBEq, Bool.and_false, Bool.false_and, Bool.or_false, Bool.false_or, true_and, beq_self_eq_true, Bool.true_or, Bool.or_true, Bool.not_true, Bool.not_false, Bool.false_xor, Bool.true_xor, wipeD, List.map_cons, List.map_nil, wTgs, CTs.len, hp2, hc2])
      have last : go gl ds n Q E b6_6 [some (.ref p), some (.int many), none, some (.int at'), some (.int cell), none, none] h2 := by
        unfold go
        ((try simp only [e_var, wV_some, wG_some, e_non, e_bl, e_int, e_str, e_glb, e_bin, e_neg, e_no, e_and, e_or, e_cmp, e_chn, e_ife, e_tup, e_lst, e_dnew, e_idx, e_slc, e_call, e_blt, e_mtd, e_isi, e_dis, e_rev, wRev, e_mnd, e_lrg, wMnd, wLrg, e_comp, wEs, wO, wT, wI, wS, wTg, wTgs, CTs.len, asB_bl, wBin, wCmp, wAdd, wSubX, wI2, wMul, wEq, wLt, wCI, wIs, DL.isNon, wNeg, wIdx, wSlc, wB, wLen, seqOf, lstOf, wIsi, tyOf, isTy, wM, wML, tyD, Mtd.ty, iAny, isSeqL, isSeqT, iRng, wSet, List.getElem?_cons_zero, List.getElem?_cons_succ, List.set_cons_zero, List.set_cons_succ, List.length_cons, List.length_nil, wAt_0, wAt_1, wAt_2, wAt_3, Nat.reduceAdd, ix30, ix31, ix32, up_at, Bool.false_eq_true, ↓reduceIte, decide_true, String.reduceBEq, Bool.and_false, Bool.false_and, Bool.or_false, Bool.false_or, true_and, beq_self_eq_true, Bool.true_or, Bool.or_true, Bool.not_true, Bool.not_false, Bool.false_xor, Bool.true_xor, wipeD, List.map_cons, List.map_nil, wTgs, CTs.len]); rw [ss_cons]; simp only [e_var, wV_some, wG_some, e_non, e_bl, e_int, e_str, e_glb, e_bin, e_neg, e_no, e_and, e_or, e_cmp, e_chn, e_ife, e_tup, e_lst, e_dnew, e_idx, e_slc, e_call, e_blt, e_mtd, e_isi, e_dis, e_rev, wRev, e_mnd, e_lrg, wMnd, wLrg, e_comp, wEs, wO, wT, wI, wS, wTg, wTgs, CTs.len, asB_bl, wBin, wCmp, wAdd, wSubX, wI2, wMul, wEq, wLt, wCI, wIs, DL.isNon, wNeg, wIdx, wSlc, wB, wLen, seqOf, lstOf, wIsi, tyOf, isTy, wM, wML, tyD, Mtd.ty, iAny, isSeqL, isSeqT, iRng, wSet, List.getElem?_cons_zero, List.getElem?_cons_succ, List.set_cons_zero, List.set_cons_succ, List.length_cons, List.length_nil, wAt_0, wAt_1, wAt_2, wAt_3, Nat.reduceAdd, ix30, ix31, ix32, up_at, Bool.false_eq_true, ↓reduceIte, decide_true, String.reduceBEq, Bool.and_false, Bool.false_and, Bool.or_false, Bool.false_or, true_and, beq_self_eq_true, Bool.true_or, Bool.or_true, Bool.not_true, Bool.not_false, Bool.false_xor, Bool.true_xor, wipeD, List.map_cons, List.map_nil, wTgs, CTs.len])
        refine ⟨by omega, .inl ⟨by omega, by omega⟩, .inr ⟨by omega, by omega⟩, by omega, ?_⟩
        ((try simp only [e_var, wV_some, wG_some, e_non, e_bl, e_int, e_str, e_glb, e_bin, e_neg, e_no, e_and, e_or, e_cmp, e_chn, e_ife, e_tup, e_lst, e_dnew, e_idx, e_slc, e_call, e_blt, e_mtd, e_isi, e_dis, e_rev, wRev, e_mnd, e_lrg, wMnd, wLrg, e_comp, wEs, wO, wT, wI, wS, wTg, wTgs, CTs.len, asB_bl, wBin, wCmp, wAdd, wSubX, wI2, wMul, wEq, wLt, wCI, wIs, DL.isNon, wNeg, wIdx, wSlc, wB, wLen, seqOf, lstOf, wIsi, tyOf, isTy, wM, wML, tyD, Mtd.ty, iAny, isSeqL, isSeqT, iRng, wSet, List.getElem?_cons_zero, List.getElem?_cons_succ, List.set_cons_zero, List.set_cons_succ, List.length_cons, List.length_nil, wAt_0, wAt_1, wAt_2, wAt_3, Nat.reduceAdd, ix30, ix31, ix32, up_at, Bool.false_eq_true, ↓reduceIte, decide_true, String.reduceBEq, Bool.and_false, Bool.false_and, Bool.or_false, Bool.false_or, true_and, beq_self_eq_true, Bool.true_or, Bool.or_true, Bool.not_true, Bool.not_false, Bool.false_xor, Bool.true_xor, wipeD, List.map_cons, List.map_nil, wTgs, CTs.len]); rw [ss_cons]; simp only [e_var, wV_some, wG_some, e_non, e_bl, e_int, e_str, e_glb, e_bin, e_neg, e_no, e_and, e_or, e_cmp, e_chn, e_ife, e_tup, e_lst, e_dnew, e_idx, e_slc, e_call, e_blt, e_mtd, e_isi, e_dis, e_rev, wRev, e_mnd, e_lrg, wMnd, wLrg, e_comp, wEs, wO, wT, wI, wS, wTg, wTgs, CTs.len, asB_bl, wBin, wCmp, wAdd, wSubX, wI2, wMul, wEq, wLt, wCI, wIs, DL.isNon, wNeg, wIdx, wSlc, wB, wLen, seqOf, lstOf, wIsi, tyOf, isTy, wM, wML, tyD, Mtd.ty, iAny, isSeqL, isSeqT, iRng, wSet, List.getElem?_cons_zero, List.getElem?_cons_succ, List.set_cons_zero, List.set_cons_succ, List.length_cons, List.length_nil, wAt_0, wAt_1, wAt_2, wAt_3, Nat.reduceAdd, ix30, ix31, ix32, up_at, Bool.false_eq_true, ↓reduceIte, decide_true, String.reduceBEq, Bool.and_false, Bool.false_and, Bool.or_false, Bool.false_or, true_and, beq_self_eq_true, Bool.true_or, Bool.or_true, Bool.not_true, Bool.not_false, Bool.false_xor, Bool.true_xor, wipeD, List.map_cons, List.map_nil, wTgs, CTs.len])
        refine ⟨⟨by omega, by omega, by omega, by omega⟩, ?_⟩
        refine loop_rng (fun i s h => ∃ num z, 0 ≤ num ∧ num < 4294967311 ∧ s = [some (.ref p), some (.int many), none, some (.int at'), some (.int cell), some (.int num), z] ∧ h = h2) ⟨_, none, Int.emod_nonneg _ (by omega), Int.emod_lt_of_pos _ (by omega), rfl, rfl⟩ ?_ ?_
        · rintro i s h hi ⟨num, z, n0, n1, rfl, rfl⟩
          (try simp only [e_var, wV_some, wG_some, e_non, e_bl, e_int, e_str, e_glb, e_bin, e_neg, e_no, e_and, e_or, e_cmp, e_chn, e_ife, e_tup, e_lst, e_dnew, e_idx, e_slc, e_call, e_blt, e_mtd, e_isi, e_dis, e_rev, wRev, e_mnd, e_lrg, wMnd, wLrg, e_comp, wEs, wO, wT, wI, wS, wTg, wTgs, CTs.len, asB_bl, wBin, wCmp, wAdd, wSubX, wI2, wMul, wEq, wLt, wCI, wIs, DL.isNon, wNeg, wIdx, wSlc, wB, wLen, seqOf, lstOf, wIsi, tyOf, isTy, wM, wML, tyD, Mtd.ty, iAny, isSeqL, isSeqT, iRng, wSet, List.getElem?_cons_zero, List.getElem?_cons_succ, List.set_cons_zero, List.set_cons_succ, List.length_cons, List.length_nil, wAt_0, wAt_1, wAt_2, wAt_3, Nat.reduceAdd, ix30, ix31, ix32, up_at, Bool.false_eq_true, ↓reduceIte, decide_true, String.reduceBEq, Bool.and_false, Bool.false_and, Bool.or_false, Bool.false_or, true_and, beq_self_eq_true, Bool.true_or, Bool.or_true, Bool.not_true, Bool.not_false, Bool.false_xor, Bool.true_xor, wipeD, List.map_cons, List.map_nil, wTgs, CTs.len])
          ((try simp only [e_var, wV_some, wG_some, e_non, e_bl, e_int, e_str, e_glb, e_bin, e_neg, e_no, e_and, e_or, e_cmp, e_chn, e_ife, e_tup, e_lst, e_dnew, e_idx, e_slc, e_call, e_blt, e_mtd, e_isi, e_dis, e_rev, wRev, e_mnd, e_lrg, wMnd, wLrg, e_comp, wEs, wO, wT, wI, wS, wTg, wTgs, CTs.len, asB_bl, wBin, wCmp, wAdd, wSubX, wI2, wMul, wEq, wLt, wCI, wIs, DL.isNon, wNeg, wIdx, wSlc, wB, wLen, seqOf, lstOf, wIsi, tyOf, isTy, wM, wML, tyD, Mtd.ty, iAny, isSeqL, isSeqT, iRng, wSet, List.getElem?_cons_zero, List.getElem?_cons_succ, List.set_cons_zero, List.set_cons_succ, List.length_cons, List.length_nil, wAt_0, wAt_1, wAt_2, wAt_3, Nat.reduceAdd, ix30, ix31, ix32, up_at, Bool.false_eq_true, ↓reduceIte, decide_true, String.reduceBEq, Bool.and_false, Bool.false_and, Bool.or_false, Bool.false_or, true_and, beq_self_eq_true, Bool.true_or, Bool.or_true, Bool.not_true, Bool.not_false, Bool.false_xor, Bool.true_xor, wipeD, List.map_cons, List.map_nil, wTgs, CTs.len]); rw [ss_cons]; simp only [e_var, wV_some, wG_some, e_non, e_bl, e_int, e_str, e_glb, e_bin, e_neg, e_no, e_and, e_or, e_cmp, e_chn, e_ife, e_tup, e_lst, e_dnew, e_idx, e_slc, e_call, e_blt, e_mtd, e_isi, e_dis, e_rev, wRev, e_mnd, e_lrg, wMnd, wLrg, e_comp, wEs, wO, wT, wI, wS, wTg, wTgs, CTs.len, asB_bl, wBin, wCmp, wAdd, wSubX, wI2, wMul, wEq, wLt, wCI, wIs, DL.isNon, wNeg, wIdx, wSlc, wB, wLen, seqOf, lstOf, wIsi, tyOf, isTy, wM, wML, tyD, Mtd.ty, iAny, isSeqL, isSeqT, iRng, wSet, List.getElem?_cons_zero, List.getElem?_cons_succ, List.set_cons_zero, List.set_cons_succ, List.length_cons, List.length_nil, wAt_0, wAt_1, wAt_2, wAt_3, Nat.reduceAdd, ix30, ix31, ix32, up_at, Bool.false_eq_true, ↓reduceIte, decide_true, String.reduceBEq, Bool.and_false, Bool.false_and, Bool.or_false, Bool.false_or, true_and, beq_self_eq_true, Bool.true_or, Bool.or_true, Bool.not_true, Bool.not_false, Bool.false_xor, Bool.true_xor, wipeD, List.map_cons, List.map_nil, wTgs, CTs.len])
          refine ⟨.inl ⟨by omega, by omega⟩, .inl ⟨by omega, by omega⟩, ?_⟩
          ((try simp only [e_var, wV_some, wG_some, e_non, e_bl, e_int, e_str, e_glb, e_bin, e_neg, e_no, e_and, e_or, e_cmp, e_chn, e_ife, e_tup, e_lst, e_dnew, e_idx, e_slc, e_call, e_blt, e_mtd, e_isi, e_dis, e_rev, wRev, e_mnd, e_lrg, wMnd, wLrg, e_comp, wEs, wO, wT, wI, wS, wTg, wTgs, CTs.len, asB_bl, wBin, wCmp, wAdd, wSubX, wI2, wMul, wEq, wLt, wCI, wIs, DL.isNon, wNeg, wIdx, wSlc, wB, wLen, seqOf, lstOf, wIsi, tyOf, isTy, wM, wML, tyD, Mtd.ty, iAny, isSeqL, isSeqT, iRng, wSet, List.getElem?_cons_zero, List.getElem?_cons_succ, List.set_cons_zero, List.set_cons_succ, List.length_cons, List.length_nil, wAt_0, wAt_1, wAt_2, wAt_3, Nat.reduceAdd, ix30, ix31, ix32, up_at, Bool.false_eq_true, ↓reduceIte, decide_true, String.reduceBEq, Bool.and_false, Bool.false_and, Bool.or_false, Bool.false_or, true_and, beq_self_eq_true, Bool.true_or, Bool.or_true, Bool.not_true, Bool.not_false, Bool.false_xor, Bool.true_xor, wipeD, List.map_cons, List.map_nil, wTgs, CTs.len]); rw [ss_cons]; simp only [e_var, wV_some, wG_some, e_non, e_bl, e_int, e_str, e_glb, e_bin, e_neg, e_no, e_and, e_or, e_cmp, e_chn, e_ife, e_tup, e_lst, e_dnew, e_idx, e_slc, e_call, e_blt, e_mtd, e_isi, e_dis, e_rev, wRev, e_mnd, e_lrg, wMnd, wLrg, e_comp, wEs, wO, wT, wI, wS, wTg, wTgs, CTs.len, asB_bl, wBin, wCmp, wAdd, wSubX, wI2, wMul, wEq, wLt, wCI, wIs, DL.isNon, wNeg, wIdx, wSlc, wB, wLen, seqOf, lstOf, wIsi, tyOf, isTy, wM, wML, tyD, Mtd.ty, iAny, isSeqL, isSeqT, iRng, wSet, List.getElem?_cons_zero, List.getElem?_cons_succ, List.set_cons_zero, List.set_cons_succ, List.length_cons, List.length_nil, wAt_0, wAt_1, wAt_2, wAt_3, Nat.reduceAdd, ix30, ix31, ix32, up_at, Bool.false_eq_true, ↓reduceIte, decide_true, String.reduceBEq, Bool.and_false, Bool.false_and, Bool.or_false, Bool.false_or, true_and, beq_self_eq_true, Bool.true_or, Bool.or_true, Bool.not_true, Bool.not_false, Bool.false_xor, Bool.true_xor, wipeD, List.map_cons, List.map_nil, wTgs, CTs.len])
          refine ⟨by omega, ?_⟩
          ((try simp only [e_var, wV_some, wG_some, e_non, e_bl, e_int, e_str, e_glb, e_bin, e_neg, e_no, e_and, e_or, e_cmp, e_chn, e_ife, e_tup, e_lst, e_dnew, e_idx, e_slc, e_call, e_blt, e_mtd, e_isi, e_dis, e_rev, wRev, e_mnd, e_lrg, wMnd, wLrg, e_comp, wEs, wO, wT, wI, wS, wTg, wTgs, CTs.len, asB_bl, wBin, wCmp, wAdd, wSubX, wI2, wMul, wEq, wLt, wCI, wIs, DL.isNon, wNeg, wIdx, wSlc, wB, wLen, seqOf, lstOf, wIsi, tyOf, isTy, wM, wML, tyD, Mtd.ty, iAny, isSeqL, isSeqT, iRng, wSet, List.getElem?_cons_zero, List.getElem?_cons_succ, List.set_cons_zero, List.set_cons_succ, List.length_cons, List.length_nil, wAt_0, wAt_1, wAt_2, wAt_3, Nat.reduceAdd, ix30, ix31, ix32, up_at, Bool.false_eq_true, ↓reduceIte, decide_true, String.reduceBEq, Bool.and_false, Bool.false_and, Bool.or_false, Bool.false_or, true_and, beq_self_eq_true, Bool.true_or, Bool.or_true, Bool.not_true, Bool.not_false, Bool.false_xor, Bool.true_xor, wipeD, List.map_cons, List.map_nil, wTgs, CTs.len]); rw [ss_nil])
          exact ⟨_, _, Int.emod_nonneg _ (by omega), Int.emod_lt_of_pos _ (by omega), rfl, rfl⟩
        · rintro s h ⟨num, z, n0, n1, rfl, rfl⟩
          ((try simp only [e_var, wV_some, wG_some, e_non, e_bl, e_int, e_str, e_glb, e_bin, e_neg, e_no, e_and, e_or, e_cmp, e_chn, e_ife, e_tup, e_lst, e_dnew, e_idx, e_slc, e_call, e_blt, e_mtd, e_isi, e_dis, e_rev, wRev, e_mnd, e_lrg, wMnd, wLrg, e_comp, wEs, wO, wT, wI, wS, wTg, wTgs, CTs.len, asB_bl, wBin, wCmp, wAdd, wSubX, wI2, wMul, wEq, wLt, wCI, wIs, DL.isNon, wNeg, wIdx, wSlc, wB, wLen, seqOf, lstOf, wIsi, tyOf, isTy, wM, wML, tyD, Mtd.ty, iAny, isSeqL, isSeqT, iRng, wSet, List.getElem?_cons_zero, List.getElem?_cons_succ, List.set_cons_zero, List.set_cons_succ, List.length_cons, List.length_nil, wAt_0, wAt_1, wAt_2, wAt_3, Nat.reduceAdd, ix30, ix31, ix32, up_at, Bool.false_eq_true, ↓reduceIte, decide_true, String.reduceBEq, Bool.and_false, Bool.false_and, Bool.or_false, Bool.false_or, true_and, beq_self_eq_true, Bool.true_or, Bool.or_true, Bool.not_true, Bool.not_false, Bool.false_xor, Bool.true_xor, wipeD, List.map_cons, List.map_nil, wTgs, CTs.len]); rw [ss_cons]; simp only [e_var, wV_some, wG_some, e_non, e_bl, e_int, e_str, e_glb, e_bin, e_neg, e_no, e_and, e_or, e_cmp, e_chn, e_ife, e_tup, e_lst, e_dnew, e_idx, e_slc, e_call, e_blt, e_mtd, e_isi, e_dis, e_rev, wRev, e_mnd, e_lrg, wMnd, wLrg, e_comp, wEs, wO, wT, wI, wS, wTg, wTgs, CTs.len, asB_bl, wBin, wCmp, wAdd, wSubX, wI2, wMul, wEq, wLt, wCI, wIs, DL.isNon, wNeg, wIdx, wSlc, wB, wLen, seqOf, lstOf, wIsi, tyOf, isTy, wM, wML, tyD, Mtd.ty, iAny, isSeqL, isSeqT, iRng, wSet, List.getElem?_cons_zero, List.getElem?_cons_succ, List.set_cons_zero, List.set_cons_succ, List.length_cons, List.length_nil, wAt_0, wAt_1, wAt_2, wAt_3, Nat.reduceAdd, ix30, ix31, ix32, up_at, Bool.false_eq_true, ↓reduceIte, decide_true, String.reduceBEq, Bool.and_false, Bool.false_and, Bool.or_false, Bool.false_or, true_and, beq_self_eq_true, Bool.true_or, Bool.or_true, Bool.not_true, Bool.not_false, Bool.false_xor, Bool.true_xor, wipeD, List.map_cons, List.map_nil, wTgs, CTs.len])
          refine ⟨⟨by omega, by omega⟩, hm, ?_⟩
          exact q _ _ _ _ (Int.emod_nonneg _ (by omega)) (Int.emod_lt_of_pos _ hm) (by omega : 0 ≤ at' + 1) (by omega) hp2 (hx1.trans x.ex1)
      refine dec_ite (fun g1 => ?_) fun g1 => ?_
      · refine ⟨⟨by omega, by omega, by decide⟩, ?_⟩
        refine dec_ite (fun g2 => ?_) fun g2 => ?_
        · ((try simp only [e_var, wV_some, wG_some, e_non, e_bl, e_int, e_str, e_glb, e_bin, e_neg, e_no, e_and, e_or, e_cmp, e_chn, e_ife, e_tup, e_lst, e_dnew, e_idx, e_slc, e_call, e_blt, e_mtd, e_isi, e_dis, e_rev, wRev, e_mnd, e_lrg, wMnd, wLrg, e_comp, wEs, wO, wT, wI, wS, wTg, wTgs, CTs.len, asB_bl, wBin, wCmp, wAdd, wSubX, wI2, wMul, wEq, wLt, wCI, wIs, DL.isNon, wNeg, wIdx, wSlc, wB, wLen, seqOf, lstOf, wIsi, tyOf, isTy, wM, wML, tyD, Mtd.ty, iAny, isSeqL, isSeqT, iRng, wSet, List.getElem?_cons_zero, List.getElem?_cons_succ, List.set_cons_zero, List.set_cons_succ, List.length_cons, List.length_nil, wAt_0, wAt_1, wAt_2, wAt_3, Nat.reduceAdd, ix30, ix31, ix32, up_at, Bool.false_eq_true, ↓reduceIte, decide_true, String.reduceBEq, Bool.and_false, Bool.false_and, Bool.or_false, Bool.false_or, true_and, beq_self_eq_true, Bool.true_or, Bool.or_true, Bool.not_true, Bool.not_false, Bool.false_xor, Bool.true_xor, wipeD, List.map_cons, List.map_nil, wTgs, CTs.len]); rw [ss_cons]; simp only [e_var, wV_some, wG_some, e_non, e_bl, e_int, e_str, e_glb, e_bin, e_neg, e_no, e_and, e_or, e_cmp, e_chn, e_ife, e_tup, e_lst, e_dnew, e_idx, e_slc, e_call, e_blt, e_mtd, e_isi, e_dis, e_rev, wRev, e_mnd, e_lrg, wMnd, wLrg, e_comp, wEs, wO, wT, wI, wS, wTg, wTgs, CTs.len, asB_bl, wBin, wCmp, wAdd, wSubX, wI2, wMul, wEq, wLt, wCI, wIs, DL.isNon, wNeg, wIdx, wSlc, wB, wLen, seqOf, lstOf, wIsi, tyOf, isTy, wM, wML, tyD, Mtd.ty, iAny, isSeqL, isSeqT, iRng, wSet, List.getElem?_cons_zero, List.getElem?_cons_succ, List.set_cons_zero, List.set_cons_succ, List.length_cons, List.length_nil, wAt_0, wAt_1, wAt_2, wAt_3, Nat.reduceAdd, ix30, ix31, ix32, up_at, Bool.false_eq_true, ↓reduceIte, decide_true, String.reduceBEq, Bool.and_false, Bool.false_and, Bool.or_false, Bool.false_or, true_and, beq_self_eq_true, Bool.true_or, Bool.or_true, Bool.not_true, Bool.not_false, Bool.false_xor, Bool.true_xor, wipeD, List.map_cons, List.map_nil, wTgs, CTs.len, hp2])
          refine ⟨⟨hm, hm2⟩, ?_⟩
          ((try simp only [e_var, wV_some, wG_some, e_non, e_bl, e_int, e_str, e_glb, e_bin, e_neg, e_no, e_and, e_or, e_cmp, e_chn, e_ife, e_tup, e_lst, e_dnew, e_idx, e_slc, e_call, e_blt, e_mtd, e_isi, e_dis, e_rev, wRev, e_mnd, e_lrg, wMnd, wLrg, e_comp, wEs, wO, wT, wI, wS, wTg, wTgs, CTs.len, asB_bl, wBin, wCmp, wAdd, wSubX, wI2, wMul, wEq, wLt, wCI, wIs, DL.isNon, wNeg, wIdx, wSlc, wB, wLen, seqOf, lstOf, wIsi, tyOf, isTy, wM, wML, tyD, Mtd.ty, iAny, isSeqL, isSeqT, iRng, wSet, List.getElem?_cons_zero, List.getElem?_cons_succ, List.set_cons_zero, List.set_cons_succ, List.length_cons, List.length_nil, wAt_0, wAt_1, wAt_2, wAt_3, Nat.reduceAdd, ix30, ix31, ix32, up_at, Bool.false_eq_true, ↓reduceIte, decide_true, String.reduceBEq, Bool.and_false, Bool.false_and, Bool.or_false, Bool.false_or, true_and, beq_self_eq_true, Bool.true_or, Bool.or_true, Bool.not_true, Bool.not_false, Bool.false_xor, Bool.true_xor, wipeD, List.map_cons, List.map_nil, wTgs, CTs.len]); rw [ss_cons]; simp only [e_var, wV_some, wG_some, e_non, e_bl, e_int, e_str, e_glb, e_bin, e_neg, e_no, e_and, e_or, e_cmp, e_chn, e_ife, e_tup, e_lst, e_dnew, e_idx, e_slc, e_call, e_blt, e_mtd, e_isi, e_dis, e_rev, wRev, e_mnd, e_lrg, wMnd, wLrg, e_comp, wEs, wO, wT, wI, wS, wTg, wTgs, CTs.len, asB_bl, wBin, wCmp, wAdd, wSubX, wI2, wMul, wEq, wLt, wCI, wIs, DL.isNon, wNeg, wIdx, wSlc, wB, wLen, seqOf, lstOf, wIsi, tyOf, isTy, wM, wML, tyD, Mtd.ty, iAny, isSeqL, isSeqT, iRng, wSet, List.getElem?_cons_zero, List.getElem?_cons_succ, List.set_cons_zero, List.set_cons_succ, List.length_cons, List.length_nil, wAt_0, wAt_1, wAt_2, wAt_3, Nat.reduceAdd, ix30, ix31, ix32, up_at, Bool.false_eq_true, ↓reduceIte, decide_true, String.reduceBEq, Bool.and_false, Bool.false_and, Bool.or_false, Bool.false_or, true_and, beq_self_eq_true, Bool.true_or, Bool.or_true, Bool.not_true, Bool.not_false, Bool.false_xor, Bool.true_xor, wipeD, List.map_cons, List.map_nil, wTgs, CTs.len])
          refine ⟨hm, ?_⟩
          exact q _ _ _ _ (Int.emod_nonneg _ (by omega)) (Int.emod_lt_of_pos _ hm) (by omega : 0 ≤ at' + 1) (by omega) up_at ((hx1.trans x.ex1).trans Ex1.put)
        · ((try simp only [e_var, wV_some, wG_some, e_non, e_bl, e_int, e_str, e_glb, e_bin, e_neg, e_no, e_and, e_or, e_cmp, e_chn, e_ife, e_tup, e_lst, e_dnew, e_idx, e_slc, e_call, e_blt, e_mtd, e_isi, e_dis, e_rev, wRev, e_mnd, e_lrg, wMnd, wLrg, e_comp, wEs, wO, wT, wI, wS, wTg, wTgs, CTs.len, asB_bl, wBin, wCmp, wAdd, wSubX, wI2, wMul, wEq, wLt, wCI, wIs, DL.isNon, wNeg, wIdx, wSlc, wB, wLen, seqOf, lstOf, wIsi, tyOf, isTy, wM, wML, tyD, Mtd.ty, iAny, isSeqL, isSeqT, iRng, wSet, List.getElem?_cons_zero, List.getElem?_cons_succ, List.set_cons_zero, List.set_cons_succ, List.length_cons, List.length_nil, wAt_0, wAt_1, wAt_2, wAt_3, Nat.reduceAdd, ix30, ix31, ix32, up_at, Bool.false_eq_true, ↓reduceIte, decide_true, String.reduceBEq, Bool.and_false, Bool.false_and, Bool.or_false, Bool.false_or, true_and, beq_self_eq_true, Bool.true_or, Bool.or_true, Bool.not_true, Bool.not_false, Bool.false_xor, Bool.true_xor, wipeD, List.map_cons, List.map_nil, wTgs, CTs.len]); rw [ss_nil])
          exact last
      · ((try simp only [e_var, wV_some, wG_some, e_non, e_bl, e_int, e_str, e_glb, e_bin, e_neg, e_no, e_and, e_or, e_cmp, e_chn, e_ife, e_tup, e_lst, e_dnew, e_idx, e_slc, e_call, e_blt, e_mtd, e_isi, e_dis, e_rev, wRev, e_mnd, e_lrg, wMnd, wLrg, e_comp, wEs, wO, wT, wI, wS, wTg, wTgs, CTs.len, asB_bl, wBin, wCmp, wAdd, wSubX, wI2, wMul, wEq, wLt, wCI, wIs, DL.isNon, wNeg, wIdx, wSlc, wB, wLen, seqOf, lstOf, wIsi, tyOf, isTy, wM, wML, tyD, Mtd.ty, iAny, isSeqL, isSeqT, iRng, wSet, List.getElem?_cons_zero, List.getElem?_cons_succ, List.set_cons_zero, List.set_cons_succ, List.length_cons, List.length_nil, wAt_0, wAt_1, wAt_2, wAt_3, Nat.reduceAdd, ix30, ix31, ix32, up_at, Bool.false_eq_true, ↓reduceIte, decide_true, String.reduceBEq, Bool.and_false, Bool.false_and, Bool.or_false, Bool.false_or, true_and, beq_self_eq_true, Bool.true_or, Bool.or_true, Bool.not_true, Bool.not_false, Bool.false_xor, Bool.true_xor, wipeD, List.map_cons, List.map_nil, wTgs, CTs.len]); rw [ss_nil])
        exact last
    ((try simp only [e_var, wV_some, wG_some, e_non, e_bl, e_int, e_str, e_glb, e_bin, e_neg, e_no, e_and, e_or, e_cmp, e_chn, e_ife, e_tup, e_lst, e_dnew, e_idx, e_slc, e_call, e_blt, e_mtd, e_isi, e_dis, e_rev, wRev, e_mnd, e_lrg, wMnd, wLrg, e_comp, wEs, wO, wT, wI, wS, wTg, wTgs, CTs.len, asB_bl, wBin, wCmp, wAdd, wSubX, wI2, wMul, wEq, wLt, wCI, wIs, DL.isNon, wNeg, wIdx, wSlc, wB, wLen, seqOf, lstOf, wIsi, tyOf, isTy, wM, wML, tyD, Mtd.ty, iAny, isSeqL, isSeqT, iRng, wSet, List.getElem?_cons_zero, List.getElem?_cons_succ, List.set_cons_zero, List.set_cons_succ, List.length_cons, List.length_nil, wAt_0, wAt_1, wAt_2, wAt_3, Nat.reduceAdd, ix30, ix31, ix32, up_at, Bool.false_eq_true, ↓reduceIte, decide_true, String.reduceBEq, Bool.and_false, Bool.false_and, Bool.or_false, Bool.false_or, true_and, beq_self_eq_true, Bool.true_or, Bool.or_true, Bool.not_true, Bool.not_false, Bool.false_xor, Bool.true_xor, wipeD, List.map_cons, List.map_nil, wTgs, CTs.len]); rw [ss_cons]; simp only [e_var, wV_some, wG_some, e_non, e_bl, e_int, e_str, e_glb, e_bin, e_neg, e_no, e_and, e_or, e_cmp, e_chn, e_ife, e_tup, e_lst, e_dnew, e_idx, e_slc, e_call, e_blt, e_mtd, e_isi, e_dis, e_rev, wRev, e_mnd, e_lrg, wMnd, wLrg, e_comp, wEs, wO, wT, wI, wS, wTg, wTgs, CTs.len, asB_bl, wBin, wCmp, wAdd, wSubX, wI2, wMul, wEq, wLt, wCI, wIs, DL.isNon, wNeg, wIdx, wSlc, wB, wLen, seqOf, lstOf, wIsi, tyOf, isTy, wM, wML, tyD, Mtd.ty, iAny, isSeqL, isSeqT, iRng, wSet, List.getElem?_cons_zero, List.getElem?_cons_succ, List.set_cons_zero, List.set_cons_succ, List.length_cons, List.length_nil, wAt_0, wAt_1, wAt_2, wAt_3, Nat.reduceAdd, ix30, ix31, ix32, up_at, Bool.false_eq_true, ↓reduceIte, decide_true, String.reduceBEq, Bool.and_false, Bool.false_and, Bool.or_false, Bool.false_or, true_and, beq_self_eq_true, Bool.true_or, Bool.or_true, Bool.not_true, Bool.not_false, Bool.false_xor, Bool.true_xor, wipeD, List.map_cons, List.map_nil, wTgs, CTs.len, hp1, hc1])
    refine ⟨by omega, fun r hr => ?_⟩
    have er : Ext h1 (up h1 r (.lst [])) := Ext.new hr
    refine wEq_ints (xs := xs) (ys := []) (er _ _ hc1) up_at ?_
    simp only [asB_bl, Bool.true_xor]
    by_cases g1 : xs = []
    · rw [decide_eq_true g1]
      simp only [Bool.not_true, Bool.false_eq_true, ↓reduceIte]
      ((try simp only [e_var, wV_some, wG_some, e_non, e_bl, e_int, e_str, e_glb, e_bin, e_neg, e_no, e_and, e_or, e_cmp, e_chn, e_ife, e_tup, e_lst, e_dnew, e_idx, e_slc, e_call, e_blt, e_mtd, e_isi, e_dis, e_rev, wRev, e_mnd, e_lrg, wMnd, wLrg, e_comp, wEs, wO, wT, wI, wS, wTg, wTgs, CTs.len, asB_bl, wBin, wCmp, wAdd, wSubX, wI2, wMul, wEq, wLt, wCI, wIs, DL.isNon, wNeg, wIdx, wSlc, wB, wLen, seqOf, lstOf, wIsi, tyOf, isTy, wM, wML, tyD, Mtd.ty, iAny, isSeqL, isSeqT, iRng, wSet, List.getElem?_cons_zero, List.getElem?_cons_succ, List.set_cons_zero, List.set_cons_succ, List.length_cons, List.length_nil, wAt_0, wAt_1, wAt_2, wAt_3, Nat.reduceAdd, ix30, ix31, ix32, up_at, Bool.false_eq_true, ↓reduceIte, decide_true, String.reduceBEq, Bool.and_false, Bool.false_and, Bool.or_false, Bool.false_or, true_and, beq_self_eq_true, Bool.true_or, Bool.or_true, Bool.not_true, Bool.not_false, Bool.false_xor, Bool.true_xor, wipeD, List.map_cons, List.map_nil, wTgs, CTs.len]); rw [ss_nil])
      exact tail _ _ er
    · rw [decide_eq_false g1]
      simp only [Bool.not_false, ↓reduceIte]
      have hl : 0 < xs.length := List.length_pos_iff.mpr g1
      ((try simp only [e_var, wV_some, wG_some, e_non, e_bl, e_int, e_str, e_glb, e_bin, e_neg, e_no, e_and, e_or, e_cmp, e_chn, e_ife, e_tup, e_lst, e_dnew, e_idx, e_slc, e_call, e_blt, e_mtd, e_isi, e_dis, e_rev, wRev, e_mnd, e_lrg, wMnd, wLrg, e_comp, wEs, wO, wT, wI, wS, wTg, wTgs, CTs.len, asB_bl, wBin, wCmp, wAdd, wSubX, wI2, wMul, wEq, wLt, wCI, wIs, DL.isNon, wNeg, wIdx, wSlc, wB, wLen, seqOf, lstOf, wIsi, tyOf, isTy, wM, wML, tyD, Mtd.ty, iAny, isSeqL, isSeqT, iRng, wSet, List.getElem?_cons_zero, List.getElem?_cons_succ, List.set_cons_zero, List.set_cons_succ, List.length_cons, List.length_nil, wAt_0, wAt_1, wAt_2, wAt_3, Nat.reduceAdd, ix30, ix31, ix32, up_at, Bool.false_eq_true, ↓reduceIte, decide_true, String.reduceBEq, Bool.and_false, Bool.false_and, Bool.or_false, Bool.false_or, true_and, beq_self_eq_true, Bool.true_or, Bool.or_true, Bool.not_true, Bool.not_false, Bool.false_xor, Bool.true_xor, wipeD, List.map_cons, List.map_nil, wTgs, CTs.len]); rw [ss_cons]; simp only [e_var, wV_some, wG_some, e_non, e_bl, e_int, e_str, e_glb, e_bin, e_neg, e_no, e_and, e_or, e_cmp, e_chn, e_ife, e_tup, e_lst, e_dnew, e_idx, e_slc, e_call, e_blt, e_mtd, e_isi, e_dis, e_rev, wRev, e_mnd, e_lrg, wMnd, wLrg, e_comp, wEs, wO, wT, wI, wS, wTg, wTgs, CTs.len, asB_bl, wBin, wCmp, wAdd, wSubX, wI2, wMul, wEq, wLt, wCI, wIs, DL.isNon, wNeg, wIdx, wSlc, wB, wLen, seqOf, lstOf, wIsi, tyOf, isTy, wM, wML, tyD, Mtd.ty, iAny, isSeqL, isSeqT, iRng, wSet, List.getElem?_cons_zero, List.getElem?_cons_succ, List.set_cons_zero, List.set_cons_succ, List.length_cons, List.length_nil, wAt_0, wAt_1, wAt_2, wAt_3, Nat.reduceAdd, ix30, ix31, ix32, up_at, Bool.false_eq_true, ↓reduceIte, decide_true, String.reduceBEq, Bool.and_false, Bool.false_and, Bool.or_false, Bool.false_or, true_and, beq_self_eq_true, Bool.true_or, Bool.or_true, Bool.not_true, Bool.not_false, Bool.false_xor, Bool.true_xor, wipeD, List.map_cons, List.map_nil, wTgs, CTs.len, er _ _ hp1, er _ _ hc1])
      rw [iL_len]
      refine ⟨by omega, ?_⟩
      refine wAt_iL (Int.emod_nonneg _ (by omega)) (Int.emod_lt_of_pos _ (by omega)) fun v _ _ => ?_
      ((try simp only [e_var, wV_some, wG_some, e_non, e_bl, e_int, e_str, e_glb, e_bin, e_neg, e_no, e_and, e_or, e_cmp, e_chn, e_ife, e_tup, e_lst, e_dnew, e_idx, e_slc, e_call, e_blt, e_mtd, e_isi, e_dis, e_rev, wRev, e_mnd, e_lrg, wMnd, wLrg, e_comp, wEs, wO, wT, wI, wS, wTg, wTgs, CTs.len, asB_bl, wBin, wCmp, wAdd, wSubX, wI2, wMul, wEq, wLt, wCI, wIs, DL.isNon, wNeg, wIdx, wSlc, wB, wLen, seqOf, lstOf, wIsi, tyOf, isTy, wM, wML, tyD, Mtd.ty, iAny, isSeqL, isSeqT, iRng, wSet, List.getElem?_cons_zero, List.getElem?_cons_succ, List.set_cons_zero, List.set_cons_succ, List.length_cons, List.length_nil, wAt_0, wAt_1, wAt_2, wAt_3, Nat.reduceAdd, ix30, ix31, ix32, up_at, Bool.false_eq_true, ↓reduceIte, decide_true, String.reduceBEq, Bool.and_false, Bool.false_and, Bool.or_false, Bool.false_or, true_and, beq_self_eq_true, Bool.true_or, Bool.or_true, Bool.not_true, Bool.not_false, Bool.false_xor, Bool.true_xor, wipeD, List.map_cons, List.map_nil, wTgs, CTs.len]); rw [ss_nil])
      exact tail _ _ er
def Fd (p c : Addr) (B : Int) (h : DH) : Prop := ∃ xs at' left, h p = some (.lst [.ref c, .int at', .int left]) ∧ h c = some (.lst (iL xs)) ∧ c ≠ p ∧ 0 ≤ at' ∧ at' ≤ B
section
variable {n : Nat} {p c r : Addr} {B B' : Int} {h h' : DH} {Q : QD} {E : XD}
theorem Fd.mono (f : Fd p c B h) (l : B ≤ B') : Fd p c B' h := by
  obtain ⟨xs, a, b, h1, h2, h3, h4, h5⟩ := f
  exact ⟨xs, a, b, h1, h2, h3, h4, by omega⟩
theorem Fd.ext (f : Fd p c B h) (x : Ext h h') : Fd p c B h' := by
  obtain ⟨xs, a, b, h1, h2, h3, h4, h5⟩ := f
  exact ⟨xs, a, b, x _ _ h1, x _ _ h2, h3, h4, h5⟩
theorem Fd.np (f : Fd p c B h) (n : h r = none) : r ≠ p := by
  obtain ⟨xs, a, b, e, _⟩ := f
  exact fun z => Ext.isnew n e z.symm
theorem Fd.nc (f : Fd p c B h) (n : h r = none) : r ≠ c := by
  obtain ⟨xs, a, b, _, e, _⟩ := f
  exact fun z => Ext.isnew n e z.symm
theorem Fd.put (f : Fd p c B h) {o : DO} (n1 : r ≠ p) (n2 : r ≠ c) : Fd p c B (up h r o) := by
  obtain ⟨xs, a, b, h1, h2, h3, h4, h5⟩ := f
  exact ⟨xs, a, b, by rw [up_off n1.symm]; exact h1, by rw [up_off n2.symm]; exact h2, h3, h4, h5⟩
theorem drawF {many : Int} (f : Fd p c B h) (hb : B < 999999) (hm : 0 < many) (hm2 : many < 1073741824) (q : ∀ d h2, 0 ≤ d → d < many → Fd p c (B + 1) h2 → Ex1 p h h2 → Q (.int d) h2) : run gl ds (n + 1) 6 [.ref p, .int many] h Q E := by
  obtain ⟨xs, a, b, h1, h2, h3, h4, h5⟩ := f
  exact draw h1 h2 h3 h4 (by omega) hm hm2 fun d a2 b2 h' d0 d1 a0 a1 e x => q d h' d0 d1 ⟨xs, a2, b2, e, x _ _ h3 h2, h3, a0, by omega⟩ x
/-- one of a list of ints that is made here, by a draw -/
theorem pick {xs : List Int} (f : Fd p c B h) (hb : B < 999999) (hl : 0 < xs.length) (hl2 : xs.length < 1000) {R : D → DH → Prop} (nr : h r = none) {k : Int} (hk : k = xs.length)
    (q : ∀ v h4, v ∈ xs → Fd p c (B + 1) h4 → Ex1 p (up h r (.lst (iL xs))) h4 → R (.int v) h4) : run gl ds (n + 1) 6 [.ref p, .int k] (up h r (.lst (iL xs))) (fun y h4 => wIdx (.ref r) y h4 R) E := by
  have f2 := f.ext (Ext.new (o := .lst (iL xs)) nr)
  refine drawF f2 (by omega) (by omega) (by omega) fun d h4 d0 d1 f4 x4 => ?_
  have e : h4 r = some (.lst (iL xs)) := x4 _ _ (f.np nr) up_at
  (try simp only [e_var, wV_some, wG_some, e_non, e_bl, e_int, e_str, e_glb, e_bin, e_neg, e_no, e_and, e_or, e_cmp, e_chn, e_ife, e_tup, e_lst, e_dnew, e_idx, e_slc, e_call, e_blt, e_mtd, e_isi, e_dis, e_rev, wRev, e_mnd, e_lrg, wMnd, wLrg, e_comp, wEs, wO, wT, wI, wS, wTg, wTgs, CTs.len, asB_bl, wBin, wCmp, wAdd, wSubX, wI2, wMul, wEq, wLt, wCI, wIs, DL.isNon, wNeg, wIdx, wSlc, wB, wLen, seqOf, lstOf, wIsi, tyOf, isTy, wM, wML, tyD, Mtd.ty, iAny, isSeqL, isSeqT, iRng, wSet, List.getElem?_cons_zero, List.getElem?_cons_succ, List.set_cons_zero, List.set_cons_succ, List.length_cons, List.length_nil, wAt_0, wAt_1, wAt_2, wAt_3, Nat.reduceAdd, ix30, ix31, ix32, up_at, Bool.false_eq_true, ↓reduceIte, decide_true, String.reduceBEq, Bool.and_false, Bool.false_and, Bool.or_false, Bool.false_or, true_and, beq_self_eq_true, Bool.true_or, Bool.or_true, Bool.not_true, Bool.not_false, Bool.false_xor, Bool.true_xor, wipeD, List.map_cons, List.map_nil, wTgs, CTs.len, e])
  exact wAt_iL d0 (by omega) fun v hv _ => q v h4 hv f4 x4
end
theorem feed {n : Nat} {h : DH} {Q : QD} {E : XD} {ns : List Int} (q : ∀ p c h2, Fd p c 0 h2 → (∃ xs, h2 p = some (.lst [.ref c, .int 0, .int 0]) ∧ h2 c = some (.lst (iL xs)) ∧ xs.length ≤ 63) → Q (.ref p) h2) : run gl ds (n + 1) 5 [.fl (ns.map .int)] h Q E := by
  refine e5 ?_
  ((try simp only [e_var, wV_some, wG_some, e_non, e_bl, e_int, e_str, e_glb, e_bin, e_neg, e_no, e_and, e_or, e_cmp, e_chn, e_ife, e_tup, e_lst, e_dnew, e_idx, e_slc, e_call, e_blt, e_mtd, e_isi, e_dis, e_rev, wRev, e_mnd, e_lrg, wMnd, wLrg, e_comp, wEs, wO, wT, wI, wS, wTg, wTgs, CTs.len, asB_bl, wBin, wCmp, wAdd, wSubX, wI2, wMul, wEq, wLt, wCI, wIs, DL.isNon, wNeg, wIdx, wSlc, wB, wLen, seqOf, lstOf, wIsi, tyOf, isTy, wM, wML, tyD, Mtd.ty, iAny, isSeqL, isSeqT, iRng, wSet, List.getElem?_cons_zero, List.getElem?_cons_succ, List.set_cons_zero, List.set_cons_succ, List.length_cons, List.length_nil, wAt_0, wAt_1, wAt_2, wAt_3, Nat.reduceAdd, ix30, ix31, ix32, up_at, Bool.false_eq_true, ↓reduceIte, decide_true, String.reduceBEq, Bool.and_false, Bool.false_and, Bool.or_false, Bool.false_or, true_and, beq_self_eq_true, Bool.true_or, Bool.or_true, Bool.not_true, Bool.not_false, Bool.false_xor, Bool.true_xor, wipeD, List.map_cons, List.map_nil, wTgs, CTs.len]); rw [ss_cons]; simp only [e_var, wV_some, wG_some, e_non, e_bl, e_int, e_str, e_glb, e_bin, e_neg, e_no, e_and, e_or, e_cmp, e_chn, e_ife, e_tup, e_lst, e_dnew, e_idx, e_slc, e_call, e_blt, e_mtd, e_isi, e_dis, e_rev, wRev, e_mnd, e_lrg, wMnd, wLrg, e_comp, wEs, wO, wT, wI, wS, wTg, wTgs, CTs.len, asB_bl, wBin, wCmp, wAdd, wSubX, wI2, wMul, wEq, wLt, wCI, wIs, DL.isNon, wNeg, wIdx, wSlc, wB, wLen, seqOf, lstOf, wIsi, tyOf, isTy, wM, wML, tyD, Mtd.ty, iAny, isSeqL, isSeqT, iRng, wSet, List.getElem?_cons_zero, List.getElem?_cons_succ, List.set_cons_zero, List.set_cons_succ, List.length_cons, List.length_nil, wAt_0, wAt_1, wAt_2, wAt_3, Nat.reduceAdd, ix30, ix31, ix32, up_at, Bool.false_eq_true, ↓reduceIte, decide_true, String.reduceBEq, Bool.and_false, Bool.false_and, Bool.or_false, Bool.false_or, true_and, beq_self_eq_true, Bool.true_or, Bool.or_true, Bool.not_true, Bool.not_false, Bool.false_xor, Bool.true_xor, wipeD, List.map_cons, List.map_nil, wTgs, CTs.len])
  intro c1 n1 c2 n2
  refine ⟨by omega, fun p np => ?_⟩
  have hcp : c2 ≠ p := fun z => by subst z; rw [up_at] at np; cases np
  have e1 : cutD (ns.map D.int) none (some 63) = iL (cutD ns none (some 63)) := by
    unfold cutD iL
    rw [List.length_map, List.map_take, List.map_drop]
  have e2 : up (up (up h c1 (.lst (cutD (ns.map D.int) none (some 63)))) c2 (.lst (cutD (ns.map D.int) none (some 63)))) p (.lst [.ref c2, .int 0, .int 0]) c2 = some (.lst (iL (cutD ns none (some 63)))) := by
    rw [up_off hcp, up_at, e1]
  refine q _ _ _ ⟨_, 0, 0, up_at, e2, hcp, by omega, by omega⟩ ⟨_, up_at, e2, ?_⟩
  unfold cutD
  rw [List.length_take]
  have : HT.sIx ns.length ns.length (some 63) ≤ 63 := by
    show (if (63 : Int) < 0 then ((63 : Int) + (ns.length : Int)).toNat else min (63 : Int).toNat ns.length) ≤ 63
    rw [if_neg (by omega)]
    omega
  have e0 : HT.sIx ns.length 0 none = 0 := rfl
  omega
theorem minute {n : Nat} {P c : Addr} {B : Int} {h : DH} {Q : QD} {E : XD} (f : Fd P c B h) (hb : B < 900000) (q : ∀ m h2, 0 ≤ m → m ≤ 999999359 → Fd P c (B + 6) h2 → Ex1 P h h2 → Q (.int m) h2) : run gl ds (n + 2) 7 [.ref P] h Q E := by
  refine e7 ?_
  have p5 : (10 : Int) ^ Int.toNat 5 = 100000 := rfl
  have p4 : (10 : Int) ^ Int.toNat 4 = 10000 := rfl
  have t6 : ∀ (way far : Int) h2, Fd P c (B + 6) h2 → Ex1 P h h2 → go gl ds (n + 1) Q E b7_6 [some (.ref P), some (.int way), some (.int far)] h2 := by
    intro way far h2 f2 x2
    unfold go
    ((try simp only [e_var, wV_some, wG_some, e_non, e_bl, e_int, e_str, e_glb, e_bin, e_neg, e_no, e_and, e_or, e_cmp, e_chn, e_ife, e_tup, e_lst, e_dnew, e_idx, e_slc, e_call, e_blt, e_mtd, e_isi, e_dis, e_rev, wRev, e_mnd, e_lrg, wMnd, wLrg, e_comp, wEs, wO, wT, wI, wS, wTg, wTgs, CTs.len, asB_bl, wBin, wCmp, wAdd, wSubX, wI2, wMul, wEq, wLt, wCI, wIs, DL.isNon, wNeg, wIdx, wSlc, wB, wLen, seqOf, lstOf, wIsi, tyOf, isTy, wM, wML, tyD, Mtd.ty, iAny, isSeqL, isSeqT, iRng, wSet, List.getElem?_cons_zero, List.getElem?_cons_succ, List.set_cons_zero, List.set_cons_succ, List.length_cons, List.length_nil, wAt_0, wAt_1, wAt_2, wAt_3, Nat.reduceAdd, ix30, ix31, ix32, up_at, Bool.false_eq_true, ↓reduceIte, decide_true, String.reduceBEq, Bool.and_false, Bool.false_and, Bool.or_false, Bool.false_or, true_and, beq_self_eq_true, Bool.true_or, Bool.or_true, Bool.not_true, Bool.not_false, Bool.false_xor, Bool.true_xor, wipeD, List.map_cons, List.map_nil, wTgs, CTs.len]); rw [ss_cons]; simp only [e_var, wV_some, wG_some, e_non, e_bl, e_int, e_str, e_glb, e_bin, e_neg, e_no, e_and, e_or, e_cmp, e_chn, e_ife, e_tup, e_lst, e_dnew, e_idx, e_slc, e_call, e_blt, e_mtd, e_isi, e_dis, e_rev, wRev, e_mnd, e_lrg, wMnd, wLrg, e_comp, wEs, wO, wT, wI, wS, wTg, wTgs, CTs.len, asB_bl, wBin, wCmp, wAdd, wSubX, wI2, wMul, wEq, wLt, wCI, wIs, DL.isNon, wNeg, wIdx, wSlc, wB, wLen, seqOf, lstOf, wIsi, tyOf, isTy, wM, wML, tyD, Mtd.ty, iAny, isSeqL, isSeqT, iRng, wSet, List.getElem?_cons_zero, List.getElem?_cons_succ, List.set_cons_zero, List.set_cons_succ, List.length_cons, List.length_nil, wAt_0, wAt_1, wAt_2, wAt_3, Nat.reduceAdd, ix30, ix31, ix32, up_at, Bool.false_eq_true, ↓reduceIte, decide_true, String.reduceBEq, Bool.and_false, Bool.false_and, Bool.or_false, Bool.false_or, true_and, beq_self_eq_true, Bool.true_or, Bool.or_true, Bool.not_true, Bool.not_false, Bool.false_xor, Bool.true_xor, wipeD, List.map_cons, List.map_nil, wTgs, CTs.len])
    refine q _ _ ?_ ?_ f2 x2
    · split <;> (try split) <;> omega
    · split <;> (try split) <;> omega
  have t5 : ∀ (way far : Int) h2, Fd P c (B + 5) h2 → Ex1 P h h2 → go gl ds (n + 1) Q E b7_5 [some (.ref P), some (.int way), some (.int far)] h2 := by
    intro way far h2 f2 x2
    unfold go
    ((try simp only [e_var, wV_some, wG_some, e_non, e_bl, e_int, e_str, e_glb, e_bin, e_neg, e_no, e_and, e_or, e_cmp, e_chn, e_ife, e_tup, e_lst, e_dnew, e_idx, e_slc, e_call, e_blt, e_mtd, e_isi, e_dis, e_rev, wRev, e_mnd, e_lrg, wMnd, wLrg, e_comp, wEs, wO, wT, wI, wS, wTg, wTgs, CTs.len, asB_bl, wBin, wCmp, wAdd, wSubX, wI2, wMul, wEq, wLt, wCI, wIs, DL.isNon, wNeg, wIdx, wSlc, wB, wLen, seqOf, lstOf, wIsi, tyOf, isTy, wM, wML, tyD, Mtd.ty, iAny, isSeqL, isSeqT, iRng, wSet, List.getElem?_cons_zero, List.getElem?_cons_succ, List.set_cons_zero, List.set_cons_succ, List.length_cons, List.length_nil, wAt_0, wAt_1, wAt_2, wAt_3, Nat.reduceAdd, ix30, ix31, ix32, up_at, Bool.false_eq_true, ↓reduceIte, decide_true, String.reduceBEq, Bool.and_false, Bool.false_and, Bool.or_false, Bool.false_or, true_and, beq_self_eq_true, Bool.true_or, Bool.or_true, Bool.not_true, Bool.not_false, Bool.false_xor, Bool.true_xor, wipeD, List.map_cons, List.map_nil, wTgs, CTs.len]); rw [ss_cons]; simp only [e_var, wV_some, wG_some, e_non, e_bl, e_int, e_str, e_glb, e_bin, e_neg, e_no, e_and, e_or, e_cmp, e_chn, e_ife, e_tup, e_lst, e_dnew, e_idx, e_slc, e_call, e_blt, e_mtd, e_isi, e_dis, e_rev, wRev, e_mnd, e_lrg, wMnd, wLrg, e_comp, wEs, wO, wT, wI, wS, wTg, wTgs, CTs.len, asB_bl, wBin, wCmp, wAdd, wSubX, wI2, wMul, wEq, wLt, wCI, wIs, DL.isNon, wNeg, wIdx, wSlc, wB, wLen, seqOf, lstOf, wIsi, tyOf, isTy, wM, wML, tyD, Mtd.ty, iAny, isSeqL, isSeqT, iRng, wSet, List.getElem?_cons_zero, List.getElem?_cons_succ, List.set_cons_zero, List.set_cons_succ, List.length_cons, List.length_nil, wAt_0, wAt_1, wAt_2, wAt_3, Nat.reduceAdd, ix30, ix31, ix32, up_at, Bool.false_eq_true, ↓reduceIte, decide_true, String.reduceBEq, Bool.and_false, Bool.false_and, Bool.or_false, Bool.false_or, true_and, beq_self_eq_true, Bool.true_or, Bool.or_true, Bool.not_true, Bool.not_false, Bool.false_xor, Bool.true_xor, wipeD, List.map_cons, List.map_nil, wTgs, CTs.len])
    refine dec_ite (fun g => ?_) fun g => ?_
    · ((try simp only [e_var, wV_some, wG_some, e_non, e_bl, e_int, e_str, e_glb, e_bin, e_neg, e_no, e_and, e_or, e_cmp, e_chn, e_ife, e_tup, e_lst, e_dnew, e_idx, e_slc, e_call, e_blt, e_mtd, e_isi, e_dis, e_rev, wRev, e_mnd, e_lrg, wMnd, wLrg, e_comp, wEs, wO, wT, wI, wS, wTg, wTgs, CTs.len, asB_bl, wBin, wCmp, wAdd, wSubX, wI2, wMul, wEq, wLt, wCI, wIs, DL.isNon, wNeg, wIdx, wSlc, wB, wLen, seqOf, lstOf, wIsi, tyOf, isTy, wM, wML, tyD, Mtd.ty, iAny, isSeqL, isSeqT, iRng, wSet, List.getElem?_cons_zero, List.getElem?_cons_succ, List.set_cons_zero, List.set_cons_succ, List.length_cons, List.length_nil, wAt_0, wAt_1, wAt_2, wAt_3, Nat.reduceAdd, ix30, ix31, ix32, up_at, Bool.false_eq_true, ↓reduceIte, decide_true, String.reduceBEq, Bool.and_false, Bool.false_and, Bool.or_false, Bool.false_or, true_and, beq_self_eq_true, Bool.true_or, Bool.or_true, Bool.not_true, Bool.not_false, Bool.false_xor, Bool.true_xor, wipeD, List.map_cons, List.map_nil, wTgs, CTs.len]); rw [ss_cons]; simp only [e_var, wV_some, wG_some, e_non, e_bl, e_int, e_str, e_glb, e_bin, e_neg, e_no, e_and, e_or, e_cmp, e_chn, e_ife, e_tup, e_lst, e_dnew, e_idx, e_slc, e_call, e_blt, e_mtd, e_isi, e_dis, e_rev, wRev, e_mnd, e_lrg, wMnd, wLrg, e_comp, wEs, wO, wT, wI, wS, wTg, wTgs, CTs.len, asB_bl, wBin, wCmp, wAdd, wSubX, wI2, wMul, wEq, wLt, wCI, wIs, DL.isNon, wNeg, wIdx, wSlc, wB, wLen, seqOf, lstOf, wIsi, tyOf, isTy, wM, wML, tyD, Mtd.ty, iAny, isSeqL, isSeqT, iRng, wSet, List.getElem?_cons_zero, List.getElem?_cons_succ, List.set_cons_zero, List.set_cons_succ, List.length_cons, List.length_nil, wAt_0, wAt_1, wAt_2, wAt_3, Nat.reduceAdd, ix30, ix31, ix32, up_at, Bool.false_eq_true, ↓reduceIte, decide_true, String.reduceBEq, Bool.and_false, Bool.false_and, Bool.or_false, Bool.false_or, true_and, beq_self_eq_true, Bool.true_or, Bool.or_true, Bool.not_true, Bool.not_false, Bool.false_xor, Bool.true_xor, wipeD, List.map_cons, List.map_nil, wTgs, CTs.len])
      refine drawF f2 (by omega) (by omega) (by omega) fun d h3 _ _ f3 x3 => ?_
      ((try simp only [e_var, wV_some, wG_some, e_non, e_bl, e_int, e_str, e_glb, e_bin, e_neg, e_no, e_and, e_or, e_cmp, e_chn, e_ife, e_tup, e_lst, e_dnew, e_idx, e_slc, e_call, e_blt, e_mtd, e_isi, e_dis, e_rev, wRev, e_mnd, e_lrg, wMnd, wLrg, e_comp, wEs, wO, wT, wI, wS, wTg, wTgs, CTs.len, asB_bl, wBin, wCmp, wAdd, wSubX, wI2, wMul, wEq, wLt, wCI, wIs, DL.isNon, wNeg, wIdx, wSlc, wB, wLen, seqOf, lstOf, wIsi, tyOf, isTy, wM, wML, tyD, Mtd.ty, iAny, isSeqL, isSeqT, iRng, wSet, List.getElem?_cons_zero, List.getElem?_cons_succ, List.set_cons_zero, List.set_cons_succ, List.length_cons, List.length_nil, wAt_0, wAt_1, wAt_2, wAt_3, Nat.reduceAdd, ix30, ix31, ix32, up_at, Bool.false_eq_true, ↓reduceIte, decide_true, String.reduceBEq, Bool.and_false, Bool.false_and, Bool.or_false, Bool.false_or, true_and, beq_self_eq_true, Bool.true_or, Bool.or_true, Bool.not_true, Bool.not_false, Bool.false_xor, Bool.true_xor, wipeD, List.map_cons, List.map_nil, wTgs, CTs.len]); rw [ss_nil])
      exact t6 _ _ _ (f3.mono (by omega)) (x2.trans x3)
    · ((try simp only [e_var, wV_some, wG_some, e_non, e_bl, e_int, e_str, e_glb, e_bin, e_neg, e_no, e_and, e_or, e_cmp, e_chn, e_ife, e_tup, e_lst, e_dnew, e_idx, e_slc, e_call, e_blt, e_mtd, e_isi, e_dis, e_rev, wRev, e_mnd, e_lrg, wMnd, wLrg, e_comp, wEs, wO, wT, wI, wS, wTg, wTgs, CTs.len, asB_bl, wBin, wCmp, wAdd, wSubX, wI2, wMul, wEq, wLt, wCI, wIs, DL.isNon, wNeg, wIdx, wSlc, wB, wLen, seqOf, lstOf, wIsi, tyOf, isTy, wM, wML, tyD, Mtd.ty, iAny, isSeqL, isSeqT, iRng, wSet, List.getElem?_cons_zero, List.getElem?_cons_succ, List.set_cons_zero, List.set_cons_succ, List.length_cons, List.length_nil, wAt_0, wAt_1, wAt_2, wAt_3, Nat.reduceAdd, ix30, ix31, ix32, up_at, Bool.false_eq_true, ↓reduceIte, decide_true, String.reduceBEq, Bool.and_false, Bool.false_and, Bool.or_false, Bool.false_or, true_and, beq_self_eq_true, Bool.true_or, Bool.or_true, Bool.not_true, Bool.not_false, Bool.false_xor, Bool.true_xor, wipeD, List.map_cons, List.map_nil, wTgs, CTs.len]); rw [ss_nil])
      exact t6 _ _ _ (f2.mono (by omega)) x2
  have t4 : ∀ (way far : Int) h2, Fd P c (B + 4) h2 → Ex1 P h h2 → go gl ds (n + 1) Q E b7_4 [some (.ref P), some (.int way), some (.int far)] h2 := by
    intro way far h2 f2 x2
    unfold go
    ((try simp only [e_var, wV_some, wG_some, e_non, e_bl, e_int, e_str, e_glb, e_bin, e_neg, e_no, e_and, e_or, e_cmp, e_chn, e_ife, e_tup, e_lst, e_dnew, e_idx, e_slc, e_call, e_blt, e_mtd, e_isi, e_dis, e_rev, wRev, e_mnd, e_lrg, wMnd, wLrg, e_comp, wEs, wO, wT, wI, wS, wTg, wTgs, CTs.len, asB_bl, wBin, wCmp, wAdd, wSubX, wI2, wMul, wEq, wLt, wCI, wIs, DL.isNon, wNeg, wIdx, wSlc, wB, wLen, seqOf, lstOf, wIsi, tyOf, isTy, wM, wML, tyD, Mtd.ty, iAny, isSeqL, isSeqT, iRng, wSet, List.getElem?_cons_zero, List.getElem?_cons_succ, List.set_cons_zero, List.set_cons_succ, List.length_cons, List.length_nil, wAt_0, wAt_1, wAt_2, wAt_3, Nat.reduceAdd, ix30, ix31, ix32, up_at, Bool.false_eq_true, ↓reduceIte, decide_true, String.reduceBEq, Bool.and_false, Bool.false_and, Bool.or_false, Bool.false_or, true_and, beq_self_eq_true, Bool.true_or, Bool.or_true, Bool.not_true, Bool.not_false, Bool.false_xor, Bool.true_xor, wipeD, List.map_cons, List.map_nil, wTgs, CTs.len]); rw [ss_cons]; simp only [e_var, wV_some, wG_some, e_non, e_bl, e_int, e_str, e_glb, e_bin, e_neg, e_no, e_and, e_or, e_cmp, e_chn, e_ife, e_tup, e_lst, e_dnew, e_idx, e_slc, e_call, e_blt, e_mtd, e_isi, e_dis, e_rev, wRev, e_mnd, e_lrg, wMnd, wLrg, e_comp, wEs, wO, wT, wI, wS, wTg, wTgs, CTs.len, asB_bl, wBin, wCmp, wAdd, wSubX, wI2, wMul, wEq, wLt, wCI, wIs, DL.isNon, wNeg, wIdx, wSlc, wB, wLen, seqOf, lstOf, wIsi, tyOf, isTy, wM, wML, tyD, Mtd.ty, iAny, isSeqL, isSeqT, iRng, wSet, List.getElem?_cons_zero, List.getElem?_cons_succ, List.set_cons_zero, List.set_cons_succ, List.length_cons, List.length_nil, wAt_0, wAt_1, wAt_2, wAt_3, Nat.reduceAdd, ix30, ix31, ix32, up_at, Bool.false_eq_true, ↓reduceIte, decide_true, String.reduceBEq, Bool.and_false, Bool.false_and, Bool.or_false, Bool.false_or, true_and, beq_self_eq_true, Bool.true_or, Bool.or_true, Bool.not_true, Bool.not_false, Bool.false_xor, Bool.true_xor, wipeD, List.map_cons, List.map_nil, wTgs, CTs.len])
    refine dec_ite (fun g => ?_) fun g => ?_
    · ((try simp only [e_var, wV_some, wG_some, e_non, e_bl, e_int, e_str, e_glb, e_bin, e_neg, e_no, e_and, e_or, e_cmp, e_chn, e_ife, e_tup, e_lst, e_dnew, e_idx, e_slc, e_call, e_blt, e_mtd, e_isi, e_dis, e_rev, wRev, e_mnd, e_lrg, wMnd, wLrg, e_comp, wEs, wO, wT, wI, wS, wTg, wTgs, CTs.len, asB_bl, wBin, wCmp, wAdd, wSubX, wI2, wMul, wEq, wLt, wCI, wIs, DL.isNon, wNeg, wIdx, wSlc, wB, wLen, seqOf, lstOf, wIsi, tyOf, isTy, wM, wML, tyD, Mtd.ty, iAny, isSeqL, isSeqT, iRng, wSet, List.getElem?_cons_zero, List.getElem?_cons_succ, List.set_cons_zero, List.set_cons_succ, List.length_cons, List.length_nil, wAt_0, wAt_1, wAt_2, wAt_3, Nat.reduceAdd, ix30, ix31, ix32, up_at, Bool.false_eq_true, ↓reduceIte, decide_true, String.reduceBEq, Bool.and_false, Bool.false_and, Bool.or_false, Bool.false_or, true_and, beq_self_eq_true, Bool.true_or, Bool.or_true, Bool.not_true, Bool.not_false, Bool.false_xor, Bool.true_xor, wipeD, List.map_cons, List.map_nil, wTgs, CTs.len]); rw [ss_cons]; simp only [e_var, wV_some, wG_some, e_non, e_bl, e_int, e_str, e_glb, e_bin, e_neg, e_no, e_and, e_or, e_cmp, e_chn, e_ife, e_tup, e_lst, e_dnew, e_idx, e_slc, e_call, e_blt, e_mtd, e_isi, e_dis, e_rev, wRev, e_mnd, e_lrg, wMnd, wLrg, e_comp, wEs, wO, wT, wI, wS, wTg, wTgs, CTs.len, asB_bl, wBin, wCmp, wAdd, wSubX, wI2, wMul, wEq, wLt, wCI, wIs, DL.isNon, wNeg, wIdx, wSlc, wB, wLen, seqOf, lstOf, wIsi, tyOf, isTy, wM, wML, tyD, Mtd.ty, iAny, isSeqL, isSeqT, iRng, wSet, List.getElem?_cons_zero, List.getElem?_cons_succ, List.set_cons_zero, List.set_cons_succ, List.length_cons, List.length_nil, wAt_0, wAt_1, wAt_2, wAt_3, Nat.reduceAdd, ix30, ix31, ix32, up_at, Bool.false_eq_true, ↓reduceIte, decide_true, String.reduceBEq, Bool.and_false, Bool.false_and, Bool.or_false, Bool.false_or, true_and, beq_self_eq_true, Bool.true_or, Bool.or_true, Bool.not_true, Bool.not_false, Bool.false_xor, Bool.true_xor, wipeD, List.map_cons, List.map_nil, wTgs, CTs.len])
      refine ⟨by omega, ?_⟩
      refine drawF f2 (by omega) (by omega) (by omega) fun d h3 _ _ f3 x3 => ?_
      (try simp only [e_var, wV_some, wG_some, e_non, e_bl, e_int, e_str, e_glb, e_bin, e_neg, e_no, e_and, e_or, e_cmp, e_chn, e_ife, e_tup, e_lst, e_dnew, e_idx, e_slc, e_call, e_blt, e_mtd, e_isi, e_dis, e_rev, wRev, e_mnd, e_lrg, wMnd, wLrg, e_comp, wEs, wO, wT, wI, wS, wTg, wTgs, CTs.len, asB_bl, wBin, wCmp, wAdd, wSubX, wI2, wMul, wEq, wLt, wCI, wIs, DL.isNon, wNeg, wIdx, wSlc, wB, wLen, seqOf, lstOf, wIsi, tyOf, isTy, wM, wML, tyD, Mtd.ty, iAny, isSeqL, isSeqT, iRng, wSet, List.getElem?_cons_zero, List.getElem?_cons_succ, List.set_cons_zero, List.set_cons_succ, List.length_cons, List.length_nil, wAt_0, wAt_1, wAt_2, wAt_3, Nat.reduceAdd, ix30, ix31, ix32, up_at, Bool.false_eq_true, ↓reduceIte, decide_true, String.reduceBEq, Bool.and_false, Bool.false_and, Bool.or_false, Bool.false_or, true_and, beq_self_eq_true, Bool.true_or, Bool.or_true, Bool.not_true, Bool.not_false, Bool.false_xor, Bool.true_xor, wipeD, List.map_cons, List.map_nil, wTgs, CTs.len])
      ((try simp only [e_var, wV_some, wG_some, e_non, e_bl, e_int, e_str, e_glb, e_bin, e_neg, e_no, e_and, e_or, e_cmp, e_chn, e_ife, e_tup, e_lst, e_dnew, e_idx, e_slc, e_call, e_blt, e_mtd, e_isi, e_dis, e_rev, wRev, e_mnd, e_lrg, wMnd, wLrg, e_comp, wEs, wO, wT, wI, wS, wTg, wTgs, CTs.len, asB_bl, wBin, wCmp, wAdd, wSubX, wI2, wMul, wEq, wLt, wCI, wIs, DL.isNon, wNeg, wIdx, wSlc, wB, wLen, seqOf, lstOf, wIsi, tyOf, isTy, wM, wML, tyD, Mtd.ty, iAny, isSeqL, isSeqT, iRng, wSet, List.getElem?_cons_zero, List.getElem?_cons_succ, List.set_cons_zero, List.set_cons_succ, List.length_cons, List.length_nil, wAt_0, wAt_1, wAt_2, wAt_3, Nat.reduceAdd, ix30, ix31, ix32, up_at, Bool.false_eq_true, ↓reduceIte, decide_true, String.reduceBEq, Bool.and_false, Bool.false_and, Bool.or_false, Bool.false_or, true_and, beq_self_eq_true, Bool.true_or, Bool.or_true, Bool.not_true, Bool.not_false, Bool.false_xor, Bool.true_xor, wipeD, List.map_cons, List.map_nil, wTgs, CTs.len]); rw [ss_nil])
      exact t5 _ _ _ (f3.mono (by omega)) (x2.trans x3)
    · ((try simp only [e_var, wV_some, wG_some, e_non, e_bl, e_int, e_str, e_glb, e_bin, e_neg, e_no, e_and, e_or, e_cmp, e_chn, e_ife, e_tup, e_lst, e_dnew, e_idx, e_slc, e_call, e_blt, e_mtd, e_isi, e_dis, e_rev, wRev, e_mnd, e_lrg, wMnd, wLrg, e_comp, wEs, wO, wT, wI, wS, wTg, wTgs, CTs.len, asB_bl, wBin, wCmp, wAdd, wSubX, wI2, wMul, wEq, wLt, wCI, wIs, DL.isNon, wNeg, wIdx, wSlc, wB, wLen, seqOf, lstOf, wIsi, tyOf, isTy, wM, wML, tyD, Mtd.ty, iAny, isSeqL, isSeqT, iRng, wSet, List.getElem?_cons_zero, List.getElem?_cons_succ, List.set_cons_zero, List.set_cons_succ, List.length_cons, List.length_nil, wAt_0, wAt_1, wAt_2, wAt_3, Nat.reduceAdd, ix30, ix31, ix32, up_at, Bool.false_eq_true, ↓reduceIte, decide_true, String.reduceBEq, Bool.and_false, Bool.false_and, Bool.or_false, Bool.false_or, true_and, beq_self_eq_true, Bool.true_or, Bool.or_true, Bool.not_true, Bool.not_false, Bool.false_xor, Bool.true_xor, wipeD, List.map_cons, List.map_nil, wTgs, CTs.len]); rw [ss_nil])
      exact t5 _ _ _ (f2.mono (by omega)) x2
  have t3 : ∀ (way far : Int) h2, Fd P c (B + 3) h2 → Ex1 P h h2 → go gl ds (n + 1) Q E b7_3 [some (.ref P), some (.int way), some (.int far)] h2 := by
    intro way far h2 f2 x2
    unfold go
    ((try simp only [e_var, wV_some, wG_some, e_non, e_bl, e_int, e_str, e_glb, e_bin, e_neg, e_no, e_and, e_or, e_cmp, e_chn, e_ife, e_tup, e_lst, e_dnew, e_idx, e_slc, e_call, e_blt, e_mtd, e_isi, e_dis, e_rev, wRev, e_mnd, e_lrg, wMnd, wLrg, e_comp, wEs, wO, wT, wI, wS, wTg, wTgs, CTs.len, asB_bl, wBin, wCmp, wAdd, wSubX, wI2, wMul, wEq, wLt, wCI, wIs, DL.isNon, wNeg, wIdx, wSlc, wB, wLen, seqOf, lstOf, wIsi, tyOf, isTy, wM, wML, tyD, Mtd.ty, iAny, isSeqL, isSeqT, iRng, wSet, List.getElem?_cons_zero, List.getElem?_cons_succ, List.set_cons_zero, List.set_cons_succ, List.length_cons, List.length_nil, wAt_0, wAt_1, wAt_2, wAt_3, Nat.reduceAdd, ix30, ix31, ix32, up_at, Bool.false_eq_true, ↓reduceIte, decide_true, String.reduceBEq, Bool.and_false, Bool.false_and, Bool.or_false, Bool.false_or, true_and, beq_self_eq_true, Bool.true_or, Bool.or_true, Bool.not_true, Bool.not_false, Bool.false_xor, Bool.true_xor, wipeD, List.map_cons, List.map_nil, wTgs, CTs.len]); rw [ss_cons]; simp only [e_var, wV_some, wG_some, e_non, e_bl, e_int, e_str, e_glb, e_bin, e_neg, e_no, e_and, e_or, e_cmp, e_chn, e_ife, e_tup, e_lst, e_dnew, e_idx, e_slc, e_call, e_blt, e_mtd, e_isi, e_dis, e_rev, wRev, e_mnd, e_lrg, wMnd, wLrg, e_comp, wEs, wO, wT, wI, wS, wTg, wTgs, CTs.len, asB_bl, wBin, wCmp, wAdd, wSubX, wI2, wMul, wEq, wLt, wCI, wIs, DL.isNon, wNeg, wIdx, wSlc, wB, wLen, seqOf, lstOf, wIsi, tyOf, isTy, wM, wML, tyD, Mtd.ty, iAny, isSeqL, isSeqT, iRng, wSet, List.getElem?_cons_zero, List.getElem?_cons_succ, List.set_cons_zero, List.set_cons_succ, List.length_cons, List.length_nil, wAt_0, wAt_1, wAt_2, wAt_3, Nat.reduceAdd, ix30, ix31, ix32, up_at, Bool.false_eq_true, ↓reduceIte, decide_true, String.reduceBEq, Bool.and_false, Bool.false_and, Bool.or_false, Bool.false_or, true_and, beq_self_eq_true, Bool.true_or, Bool.or_true, Bool.not_true, Bool.not_false, Bool.false_xor, Bool.true_xor, wipeD, List.map_cons, List.map_nil, wTgs, CTs.len])
    refine dec_ite (fun g => ?_) fun g => ?_
    · ((try simp only [e_var, wV_some, wG_some, e_non, e_bl, e_int, e_str, e_glb, e_bin, e_neg, e_no, e_and, e_or, e_cmp, e_chn, e_ife, e_tup, e_lst, e_dnew, e_idx, e_slc, e_call, e_blt, e_mtd, e_isi, e_dis, e_rev, wRev, e_mnd, e_lrg, wMnd, wLrg, e_comp, wEs, wO, wT, wI, wS, wTg, wTgs, CTs.len, asB_bl, wBin, wCmp, wAdd, wSubX, wI2, wMul, wEq, wLt, wCI, wIs, DL.isNon, wNeg, wIdx, wSlc, wB, wLen, seqOf, lstOf, wIsi, tyOf, isTy, wM, wML, tyD, Mtd.ty, iAny, isSeqL, isSeqT, iRng, wSet, List.getElem?_cons_zero, List.getElem?_cons_succ, List.set_cons_zero, List.set_cons_succ, List.length_cons, List.length_nil, wAt_0, wAt_1, wAt_2, wAt_3, Nat.reduceAdd, ix30, ix31, ix32, up_at, Bool.false_eq_true, ↓reduceIte, decide_true, String.reduceBEq, Bool.and_false, Bool.false_and, Bool.or_false, Bool.false_or, true_and, beq_self_eq_true, Bool.true_or, Bool.or_true, Bool.not_true, Bool.not_false, Bool.false_xor, Bool.true_xor, wipeD, List.map_cons, List.map_nil, wTgs, CTs.len]); rw [ss_cons]; simp only [e_var, wV_some, wG_some, e_non, e_bl, e_int, e_str, e_glb, e_bin, e_neg, e_no, e_and, e_or, e_cmp, e_chn, e_ife, e_tup, e_lst, e_dnew, e_idx, e_slc, e_call, e_blt, e_mtd, e_isi, e_dis, e_rev, wRev, e_mnd, e_lrg, wMnd, wLrg, e_comp, wEs, wO, wT, wI, wS, wTg, wTgs, CTs.len, asB_bl, wBin, wCmp, wAdd, wSubX, wI2, wMul, wEq, wLt, wCI, wIs, DL.isNon, wNeg, wIdx, wSlc, wB, wLen, seqOf, lstOf, wIsi, tyOf, isTy, wM, wML, tyD, Mtd.ty, iAny, isSeqL, isSeqT, iRng, wSet, List.getElem?_cons_zero, List.getElem?_cons_succ, List.set_cons_zero, List.set_cons_succ, List.length_cons, List.length_nil, wAt_0, wAt_1, wAt_2, wAt_3, Nat.reduceAdd, ix30, ix31, ix32, up_at, Bool.false_eq_true, ↓reduceIte, decide_true, String.reduceBEq, Bool.and_false, Bool.false_and, Bool.or_false, Bool.false_or, true_and, beq_self_eq_true, Bool.true_or, Bool.or_true, Bool.not_true, Bool.not_false, Bool.false_xor, Bool.true_xor, wipeD, List.map_cons, List.map_nil, wTgs, CTs.len])
      refine ⟨by omega, ?_⟩
      refine drawF f2 (by omega) (by omega) (by omega) fun d h3 _ _ f3 x3 => ?_
      (try simp only [e_var, wV_some, wG_some, e_non, e_bl, e_int, e_str, e_glb, e_bin, e_neg, e_no, e_and, e_or, e_cmp, e_chn, e_ife, e_tup, e_lst, e_dnew, e_idx, e_slc, e_call, e_blt, e_mtd, e_isi, e_dis, e_rev, wRev, e_mnd, e_lrg, wMnd, wLrg, e_comp, wEs, wO, wT, wI, wS, wTg, wTgs, CTs.len, asB_bl, wBin, wCmp, wAdd, wSubX, wI2, wMul, wEq, wLt, wCI, wIs, DL.isNon, wNeg, wIdx, wSlc, wB, wLen, seqOf, lstOf, wIsi, tyOf, isTy, wM, wML, tyD, Mtd.ty, iAny, isSeqL, isSeqT, iRng, wSet, List.getElem?_cons_zero, List.getElem?_cons_succ, List.set_cons_zero, List.set_cons_succ, List.length_cons, List.length_nil, wAt_0, wAt_1, wAt_2, wAt_3, Nat.reduceAdd, ix30, ix31, ix32, up_at, Bool.false_eq_true, ↓reduceIte, decide_true, String.reduceBEq, Bool.and_false, Bool.false_and, Bool.or_false, Bool.false_or, true_and, beq_self_eq_true, Bool.true_or, Bool.or_true, Bool.not_true, Bool.not_false, Bool.false_xor, Bool.true_xor, wipeD, List.map_cons, List.map_nil, wTgs, CTs.len])
      ((try simp only [e_var, wV_some, wG_some, e_non, e_bl, e_int, e_str, e_glb, e_bin, e_neg, e_no, e_and, e_or, e_cmp, e_chn, e_ife, e_tup, e_lst, e_dnew, e_idx, e_slc, e_call, e_blt, e_mtd, e_isi, e_dis, e_rev, wRev, e_mnd, e_lrg, wMnd, wLrg, e_comp, wEs, wO, wT, wI, wS, wTg, wTgs, CTs.len, asB_bl, wBin, wCmp, wAdd, wSubX, wI2, wMul, wEq, wLt, wCI, wIs, DL.isNon, wNeg, wIdx, wSlc, wB, wLen, seqOf, lstOf, wIsi, tyOf, isTy, wM, wML, tyD, Mtd.ty, iAny, isSeqL, isSeqT, iRng, wSet, List.getElem?_cons_zero, List.getElem?_cons_succ, List.set_cons_zero, List.set_cons_succ, List.length_cons, List.length_nil, wAt_0, wAt_1, wAt_2, wAt_3, Nat.reduceAdd, ix30, ix31, ix32, up_at, Bool.false_eq_true, ↓reduceIte, decide_true, String.reduceBEq, Bool.and_false, Bool.false_and, Bool.or_false, Bool.false_or, true_and, beq_self_eq_true, Bool.true_or, Bool.or_true, Bool.not_true, Bool.not_false, Bool.false_xor, Bool.true_xor, wipeD, List.map_cons, List.map_nil, wTgs, CTs.len]); rw [ss_nil])
      exact t4 _ _ _ (f3.mono (by omega)) (x2.trans x3)
    · ((try simp only [e_var, wV_some, wG_some, e_non, e_bl, e_int, e_str, e_glb, e_bin, e_neg, e_no, e_and, e_or, e_cmp, e_chn, e_ife, e_tup, e_lst, e_dnew, e_idx, e_slc, e_call, e_blt, e_mtd, e_isi, e_dis, e_rev, wRev, e_mnd, e_lrg, wMnd, wLrg, e_comp, wEs, wO, wT, wI, wS, wTg, wTgs, CTs.len, asB_bl, wBin, wCmp, wAdd, wSubX, wI2, wMul, wEq, wLt, wCI, wIs, DL.isNon, wNeg, wIdx, wSlc, wB, wLen, seqOf, lstOf, wIsi, tyOf, isTy, wM, wML, tyD, Mtd.ty, iAny, isSeqL, isSeqT, iRng, wSet, List.getElem?_cons_zero, List.getElem?_cons_succ, List.set_cons_zero, List.set_cons_succ, List.length_cons, List.length_nil, wAt_0, wAt_1, wAt_2, wAt_3, Nat.reduceAdd, ix30, ix31, ix32, up_at, Bool.false_eq_true, ↓reduceIte, decide_true, String.reduceBEq, Bool.and_false, Bool.false_and, Bool.or_false, Bool.false_or, true_and, beq_self_eq_true, Bool.true_or, Bool.or_true, Bool.not_true, Bool.not_false, Bool.false_xor, Bool.true_xor, wipeD, List.map_cons, List.map_nil, wTgs, CTs.len]); rw [ss_nil])
      exact t4 _ _ _ (f2.mono (by omega)) x2
  ((try simp only [e_var, wV_some, wG_some, e_non, e_bl, e_int, e_str, e_glb, e_bin, e_neg, e_no, e_and, e_or, e_cmp, e_chn, e_ife, e_tup, e_lst, e_dnew, e_idx, e_slc, e_call, e_blt, e_mtd, e_isi, e_dis, e_rev, wRev, e_mnd, e_lrg, wMnd, wLrg, e_comp, wEs, wO, wT, wI, wS, wTg, wTgs, CTs.len, asB_bl, wBin, wCmp, wAdd, wSubX, wI2, wMul, wEq, wLt, wCI, wIs, DL.isNon, wNeg, wIdx, wSlc, wB, wLen, seqOf, lstOf, wIsi, tyOf, isTy, wM, wML, tyD, Mtd.ty, iAny, isSeqL, isSeqT, iRng, wSet, List.getElem?_cons_zero, List.getElem?_cons_succ, List.set_cons_zero, List.set_cons_succ, List.length_cons, List.length_nil, wAt_0, wAt_1, wAt_2, wAt_3, Nat.reduceAdd, ix30, ix31, ix32, up_at, Bool.false_eq_true, ↓reduceIte, decide_true, String.reduceBEq, Bool.and_false, Bool.false_and, Bool.or_false, Bool.false_or, true_and, beq_self_eq_true, Bool.true_or, Bool.or_true, Bool.not_true, Bool.not_false, Bool.false_xor, Bool.true_xor, wipeD, List.map_cons, List.map_nil, wTgs, CTs.len]); rw [ss_cons]; simp only [e_var, wV_some, wG_some, e_non, e_bl, e_int, e_str, e_glb, e_bin, e_neg, e_no, e_and, e_or, e_cmp, e_chn, e_ife, e_tup, e_lst, e_dnew, e_idx, e_slc, e_call, e_blt, e_mtd, e_isi, e_dis, e_rev, wRev, e_mnd, e_lrg, wMnd, wLrg, e_comp, wEs, wO, wT, wI, wS, wTg, wTgs, CTs.len, asB_bl, wBin, wCmp, wAdd, wSubX, wI2, wMul, wEq, wLt, wCI, wIs, DL.isNon, wNeg, wIdx, wSlc, wB, wLen, seqOf, lstOf, wIsi, tyOf, isTy, wM, wML, tyD, Mtd.ty, iAny, isSeqL, isSeqT, iRng, wSet, List.getElem?_cons_zero, List.getElem?_cons_succ, List.set_cons_zero, List.set_cons_succ, List.length_cons, List.length_nil, wAt_0, wAt_1, wAt_2, wAt_3, Nat.reduceAdd, ix30, ix31, ix32, up_at, Bool.false_eq_true, ↓reduceIte, decide_true, String.reduceBEq, Bool.and_false, Bool.false_and, Bool.or_false, Bool.false_or, true_and, beq_self_eq_true, Bool.true_or, Bool.or_true, Bool.not_true, Bool.not_false, Bool.false_xor, Bool.true_xor, wipeD, List.map_cons, List.map_nil, wTgs, CTs.len])
  refine drawF f (by omega) (by omega) (by omega) fun way h2 w0 w1 f2 x2 => ?_
  ((try simp only [e_var, wV_some, wG_some, e_non, e_bl, e_int, e_str, e_glb, e_bin, e_neg, e_no, e_and, e_or, e_cmp, e_chn, e_ife, e_tup, e_lst, e_dnew, e_idx, e_slc, e_call, e_blt, e_mtd, e_isi, e_dis, e_rev, wRev, e_mnd, e_lrg, wMnd, wLrg, e_comp, wEs, wO, wT, wI, wS, wTg, wTgs, CTs.len, asB_bl, wBin, wCmp, wAdd, wSubX, wI2, wMul, wEq, wLt, wCI, wIs, DL.isNon, wNeg, wIdx, wSlc, wB, wLen, seqOf, lstOf, wIsi, tyOf, isTy, wM, wML, tyD, Mtd.ty, iAny, isSeqL, isSeqT, iRng, wSet, List.getElem?_cons_zero, List.getElem?_cons_succ, List.set_cons_zero, List.set_cons_succ, List.length_cons, List.length_nil, wAt_0, wAt_1, wAt_2, wAt_3, Nat.reduceAdd, ix30, ix31, ix32, up_at, Bool.false_eq_true, ↓reduceIte, decide_true, String.reduceBEq, Bool.and_false, Bool.false_and, Bool.or_false, Bool.false_or, true_and, beq_self_eq_true, Bool.true_or, Bool.or_true, Bool.not_true, Bool.not_false, Bool.false_xor, Bool.true_xor, wipeD, List.map_cons, List.map_nil, wTgs, CTs.len]); rw [ss_cons]; simp only [e_var, wV_some, wG_some, e_non, e_bl, e_int, e_str, e_glb, e_bin, e_neg, e_no, e_and, e_or, e_cmp, e_chn, e_ife, e_tup, e_lst, e_dnew, e_idx, e_slc, e_call, e_blt, e_mtd, e_isi, e_dis, e_rev, wRev, e_mnd, e_lrg, wMnd, wLrg, e_comp, wEs, wO, wT, wI, wS, wTg, wTgs, CTs.len, asB_bl, wBin, wCmp, wAdd, wSubX, wI2, wMul, wEq, wLt, wCI, wIs, DL.isNon, wNeg, wIdx, wSlc, wB, wLen, seqOf, lstOf, wIsi, tyOf, isTy, wM, wML, tyD, Mtd.ty, iAny, isSeqL, isSeqT, iRng, wSet, List.getElem?_cons_zero, List.getElem?_cons_succ, List.set_cons_zero, List.set_cons_succ, List.length_cons, List.length_nil, wAt_0, wAt_1, wAt_2, wAt_3, Nat.reduceAdd, ix30, ix31, ix32, up_at, Bool.false_eq_true, ↓reduceIte, decide_true, String.reduceBEq, Bool.and_false, Bool.false_and, Bool.or_false, Bool.false_or, true_and, beq_self_eq_true, Bool.true_or, Bool.or_true, Bool.not_true, Bool.not_false, Bool.false_xor, Bool.true_xor, wipeD, List.map_cons, List.map_nil, wTgs, CTs.len, p5, p4])
  refine ⟨⟨by omega, by omega, by decide⟩, ?_⟩
  refine drawF f2 (by omega) (by omega) (by omega) fun u h3 u0 u1 f3 x3 => ?_
  (try simp only [e_var, wV_some, wG_some, e_non, e_bl, e_int, e_str, e_glb, e_bin, e_neg, e_no, e_and, e_or, e_cmp, e_chn, e_ife, e_tup, e_lst, e_dnew, e_idx, e_slc, e_call, e_blt, e_mtd, e_isi, e_dis, e_rev, wRev, e_mnd, e_lrg, wMnd, wLrg, e_comp, wEs, wO, wT, wI, wS, wTg, wTgs, CTs.len, asB_bl, wBin, wCmp, wAdd, wSubX, wI2, wMul, wEq, wLt, wCI, wIs, DL.isNon, wNeg, wIdx, wSlc, wB, wLen, seqOf, lstOf, wIsi, tyOf, isTy, wM, wML, tyD, Mtd.ty, iAny, isSeqL, isSeqT, iRng, wSet, List.getElem?_cons_zero, List.getElem?_cons_succ, List.set_cons_zero, List.set_cons_succ, List.length_cons, List.length_nil, wAt_0, wAt_1, wAt_2, wAt_3, Nat.reduceAdd, ix30, ix31, ix32, up_at, Bool.false_eq_true, ↓reduceIte, decide_true, String.reduceBEq, Bool.and_false, Bool.false_and, Bool.or_false, Bool.false_or, true_and, beq_self_eq_true, Bool.true_or, Bool.or_true, Bool.not_true, Bool.not_false, Bool.false_xor, Bool.true_xor, wipeD, List.map_cons, List.map_nil, wTgs, CTs.len, p4])
  refine ⟨⟨by omega, by omega, by decide⟩, .inl ⟨by omega, by omega⟩, ⟨by omega, by omega, by decide⟩, ?_⟩
  refine drawF f3 (by omega) (by omega) (by omega) fun v h4 v0 v1 f4 x4 => ?_
  ((try simp only [e_var, wV_some, wG_some, e_non, e_bl, e_int, e_str, e_glb, e_bin, e_neg, e_no, e_and, e_or, e_cmp, e_chn, e_ife, e_tup, e_lst, e_dnew, e_idx, e_slc, e_call, e_blt, e_mtd, e_isi, e_dis, e_rev, wRev, e_mnd, e_lrg, wMnd, wLrg, e_comp, wEs, wO, wT, wI, wS, wTg, wTgs, CTs.len, asB_bl, wBin, wCmp, wAdd, wSubX, wI2, wMul, wEq, wLt, wCI, wIs, DL.isNon, wNeg, wIdx, wSlc, wB, wLen, seqOf, lstOf, wIsi, tyOf, isTy, wM, wML, tyD, Mtd.ty, iAny, isSeqL, isSeqT, iRng, wSet, List.getElem?_cons_zero, List.getElem?_cons_succ, List.set_cons_zero, List.set_cons_succ, List.length_cons, List.length_nil, wAt_0, wAt_1, wAt_2, wAt_3, Nat.reduceAdd, ix30, ix31, ix32, up_at, Bool.false_eq_true, ↓reduceIte, decide_true, String.reduceBEq, Bool.and_false, Bool.false_and, Bool.or_false, Bool.false_or, true_and, beq_self_eq_true, Bool.true_or, Bool.or_true, Bool.not_true, Bool.not_false, Bool.false_xor, Bool.true_xor, wipeD, List.map_cons, List.map_nil, wTgs, CTs.len]); rw [ss_cons]; simp only [e_var, wV_some, wG_some, e_non, e_bl, e_int, e_str, e_glb, e_bin, e_neg, e_no, e_and, e_or, e_cmp, e_chn, e_ife, e_tup, e_lst, e_dnew, e_idx, e_slc, e_call, e_blt, e_mtd, e_isi, e_dis, e_rev, wRev, e_mnd, e_lrg, wMnd, wLrg, e_comp, wEs, wO, wT, wI, wS, wTg, wTgs, CTs.len, asB_bl, wBin, wCmp, wAdd, wSubX, wI2, wMul, wEq, wLt, wCI, wIs, DL.isNon, wNeg, wIdx, wSlc, wB, wLen, seqOf, lstOf, wIsi, tyOf, isTy, wM, wML, tyD, Mtd.ty, iAny, isSeqL, isSeqT, iRng, wSet, List.getElem?_cons_zero, List.getElem?_cons_succ, List.set_cons_zero, List.set_cons_succ, List.length_cons, List.length_nil, wAt_0, wAt_1, wAt_2, wAt_3, Nat.reduceAdd, ix30, ix31, ix32, up_at, Bool.false_eq_true, ↓reduceIte, decide_true, String.reduceBEq, Bool.and_false, Bool.false_and, Bool.or_false, Bool.false_or, true_and, beq_self_eq_true, Bool.true_or, Bool.or_true, Bool.not_true, Bool.not_false, Bool.false_xor, Bool.true_xor, wipeD, List.map_cons, List.map_nil, wTgs, CTs.len])
  refine dec_ite (fun g => ?_) fun g => ?_
  · ((try simp only [e_var, wV_some, wG_some, e_non, e_bl, e_int, e_str, e_glb, e_bin, e_neg, e_no, e_and, e_or, e_cmp, e_chn, e_ife, e_tup, e_lst, e_dnew, e_idx, e_slc, e_call, e_blt, e_mtd, e_isi, e_dis, e_rev, wRev, e_mnd, e_lrg, wMnd, wLrg, e_comp, wEs, wO, wT, wI, wS, wTg, wTgs, CTs.len, asB_bl, wBin, wCmp, wAdd, wSubX, wI2, wMul, wEq, wLt, wCI, wIs, DL.isNon, wNeg, wIdx, wSlc, wB, wLen, seqOf, lstOf, wIsi, tyOf, isTy, wM, wML, tyD, Mtd.ty, iAny, isSeqL, isSeqT, iRng, wSet, List.getElem?_cons_zero, List.getElem?_cons_succ, List.set_cons_zero, List.set_cons_succ, List.length_cons, List.length_nil, wAt_0, wAt_1, wAt_2, wAt_3, Nat.reduceAdd, ix30, ix31, ix32, up_at, Bool.false_eq_true, ↓reduceIte, decide_true, String.reduceBEq, Bool.and_false, Bool.false_and, Bool.or_false, Bool.false_or, true_and, beq_self_eq_true, Bool.true_or, Bool.or_true, Bool.not_true, Bool.not_false, Bool.false_xor, Bool.true_xor, wipeD, List.map_cons, List.map_nil, wTgs, CTs.len]); rw [ss_cons]; simp only [e_var, wV_some, wG_some, e_non, e_bl, e_int, e_str, e_glb, e_bin, e_neg, e_no, e_and, e_or, e_cmp, e_chn, e_ife, e_tup, e_lst, e_dnew, e_idx, e_slc, e_call, e_blt, e_mtd, e_isi, e_dis, e_rev, wRev, e_mnd, e_lrg, wMnd, wLrg, e_comp, wEs, wO, wT, wI, wS, wTg, wTgs, CTs.len, asB_bl, wBin, wCmp, wAdd, wSubX, wI2, wMul, wEq, wLt, wCI, wIs, DL.isNon, wNeg, wIdx, wSlc, wB, wLen, seqOf, lstOf, wIsi, tyOf, isTy, wM, wML, tyD, Mtd.ty, iAny, isSeqL, isSeqT, iRng, wSet, List.getElem?_cons_zero, List.getElem?_cons_succ, List.set_cons_zero, List.set_cons_succ, List.length_cons, List.length_nil, wAt_0, wAt_1, wAt_2, wAt_3, Nat.reduceAdd, ix30, ix31, ix32, up_at, Bool.false_eq_true, ↓reduceIte, decide_true, String.reduceBEq, Bool.and_false, Bool.false_and, Bool.or_false, Bool.false_or, true_and, beq_self_eq_true, Bool.true_or, Bool.or_true, Bool.not_true, Bool.not_false, Bool.false_xor, Bool.true_xor, wipeD, List.map_cons, List.map_nil, wTgs, CTs.len])
    refine drawF f4 (by omega) (by omega) (by omega) fun d h5 d0 d1 f5 x5 => ?_
    exact q _ _ d0 (by omega) (f5.mono (by omega)) (((x2.trans x3).trans x4).trans x5)
  · ((try simp only [e_var, wV_some, wG_some, e_non, e_bl, e_int, e_str, e_glb, e_bin, e_neg, e_no, e_and, e_or, e_cmp, e_chn, e_ife, e_tup, e_lst, e_dnew, e_idx, e_slc, e_call, e_blt, e_mtd, e_isi, e_dis, e_rev, wRev, e_mnd, e_lrg, wMnd, wLrg, e_comp, wEs, wO, wT, wI, wS, wTg, wTgs, CTs.len, asB_bl, wBin, wCmp, wAdd, wSubX, wI2, wMul, wEq, wLt, wCI, wIs, DL.isNon, wNeg, wIdx, wSlc, wB, wLen, seqOf, lstOf, wIsi, tyOf, isTy, wM, wML, tyD, Mtd.ty, iAny, isSeqL, isSeqT, iRng, wSet, List.getElem?_cons_zero, List.getElem?_cons_succ, List.set_cons_zero, List.set_cons_succ, List.length_cons, List.length_nil, wAt_0, wAt_1, wAt_2, wAt_3, Nat.reduceAdd, ix30, ix31, ix32, up_at, Bool.false_eq_true, ↓reduceIte, decide_true, String.reduceBEq, Bool.and_false, Bool.false_and, Bool.or_false, Bool.false_or, true_and, beq_self_eq_true, Bool.true_or, Bool.or_true, Bool.not_true, Bool.not_false, Bool.false_xor, Bool.true_xor, wipeD, List.map_cons, List.map_nil, wTgs, CTs.len]); rw [ss_nil])
    exact t3 _ _ _ (f4.mono (by omega)) ((x2.trans x3).trans x4)
theorem iL_snoc {bs : List Int} {b : Int} : iL bs ++ [D.int b] = iL (bs ++ [b]) := by rw [iL_app]; rfl
theorem minin {n : Nat} {h : DH} {Q : QD} {E : XD} {a : Addr} {A : List IP} (ha : h a = some (.lst (pL A))) (ln : A.length < 100000) (q : ∀ h2, Ext h h2 → Q (.int (tot A)) h2) : run gl ds (n + 1) 4 [.ref a] h Q E := by
  refine e4 ?_
  ((try simp only [e_var, wV_some, wG_some, e_non, e_bl, e_int, e_str, e_glb, e_bin, e_neg, e_no, e_and, e_or, e_cmp, e_chn, e_ife, e_tup, e_lst, e_dnew, e_idx, e_slc, e_call, e_blt, e_mtd, e_isi, e_dis, e_rev, wRev, e_mnd, e_lrg, wMnd, wLrg, e_comp, wEs, wO, wT, wI, wS, wTg, wTgs, CTs.len, asB_bl, wBin, wCmp, wAdd, wSubX, wI2, wMul, wEq, wLt, wCI, wIs, DL.isNon, wNeg, wIdx, wSlc, wB, wLen, seqOf, lstOf, wIsi, tyOf, isTy, wM, wML, tyD, Mtd.ty, iAny, isSeqL, isSeqT, iRng, wSet, List.getElem?_cons_zero, List.getElem?_cons_succ, List.set_cons_zero, List.set_cons_succ, List.length_cons, List.length_nil, wAt_0, wAt_1, wAt_2, wAt_3, Nat.reduceAdd, ix30, ix31, ix32, up_at, Bool.false_eq_true, ↓reduceIte, decide_true, String.reduceBEq, Bool.and_false, Bool.false_and, Bool.or_false, Bool.false_or, true_and, beq_self_eq_true, Bool.true_or, Bool.or_true, Bool.not_true, Bool.not_false, Bool.false_xor, Bool.true_xor, wipeD, List.map_cons, List.map_nil, wTgs, CTs.len]); rw [ss_cons]; simp only [e_var, wV_some, wG_some, e_non, e_bl, e_int, e_str, e_glb, e_bin, e_neg, e_no, e_and, e_or, e_cmp, e_chn, e_ife, e_tup, e_lst, e_dnew, e_idx, e_slc, e_call, e_blt, e_mtd, e_isi, e_dis, e_rev, wRev, e_mnd, e_lrg, wMnd, wLrg, e_comp, wEs, wO, wT, wI, wS, wTg, wTgs, CTs.len, asB_bl, wBin, wCmp, wAdd, wSubX, wI2, wMul, wEq, wLt, wCI, wIs, DL.isNon, wNeg, wIdx, wSlc, wB, wLen, seqOf, lstOf, wIsi, tyOf, isTy, wM, wML, tyD, Mtd.ty, iAny, isSeqL, isSeqT, iRng, wSet, List.getElem?_cons_zero, List.getElem?_cons_succ, List.set_cons_zero, List.set_cons_succ, List.length_cons, List.length_nil, wAt_0, wAt_1, wAt_2, wAt_3, Nat.reduceAdd, ix30, ix31, ix32, up_at, Bool.false_eq_true, ↓reduceIte, decide_true, String.reduceBEq, Bool.and_false, Bool.false_and, Bool.or_false, Bool.false_or, true_and, beq_self_eq_true, Bool.true_or, Bool.or_true, Bool.not_true, Bool.not_false, Bool.false_xor, Bool.true_xor, wipeD, List.map_cons, List.map_nil, wTgs, CTs.len, ha])
  refine comp_lst (a := a) (xs := pL A) (fun i h' acc => h' = h ∧ acc = iL ((A.take i).map fun x => x.2 - x.1)) ⟨rfl, rfl⟩ (fun _ _ _ ⟨e, _⟩ => by rw [e]; exact ha) ?_ ?_
  · rintro i d h' acc hd ⟨rfl, rfl⟩
    obtain ⟨x, ex, rfl⟩ := pL_mem hd
    have hi := (List.getElem?_eq_some_iff.mp ex).1
    (try simp only [e_var, wV_some, wG_some, e_non, e_bl, e_int, e_str, e_glb, e_bin, e_neg, e_no, e_and, e_or, e_cmp, e_chn, e_ife, e_tup, e_lst, e_dnew, e_idx, e_slc, e_call, e_blt, e_mtd, e_isi, e_dis, e_rev, wRev, e_mnd, e_lrg, wMnd, wLrg, e_comp, wEs, wO, wT, wI, wS, wTg, wTgs, CTs.len, asB_bl, wBin, wCmp, wAdd, wSubX, wI2, wMul, wEq, wLt, wCI, wIs, DL.isNon, wNeg, wIdx, wSlc, wB, wLen, seqOf, lstOf, wIsi, tyOf, isTy, wM, wML, tyD, Mtd.ty, iAny, isSeqL, isSeqT, iRng, wSet, List.getElem?_cons_zero, List.getElem?_cons_succ, List.set_cons_zero, List.set_cons_succ, List.length_cons, List.length_nil, wAt_0, wAt_1, wAt_2, wAt_3, Nat.reduceAdd, ix30, ix31, ix32, up_at, Bool.false_eq_true, ↓reduceIte, decide_true, String.reduceBEq, Bool.and_false, Bool.false_and, Bool.or_false, Bool.false_or, true_and, beq_self_eq_true, Bool.true_or, Bool.or_true, Bool.not_true, Bool.not_false, Bool.false_xor, Bool.true_xor, wipeD, List.map_cons, List.map_nil, wTgs, CTs.len, ipD])
    refine ⟨by rw [iL_len, List.length_map, List.length_take]; omega, ?_⟩
    have z : iL ((A.take i).map fun x => x.2 - x.1) ++ [D.int (x.2 - x.1)] = iL ((A.take (i + 1)).map fun x => x.2 - x.1) := by
      rw [iL_snoc, List.take_add_one, ex, List.map_append]
      rfl
    rw [z]
  · rintro h' acc p ⟨rfl, rfl⟩ np
    (try simp only [e_var, wV_some, wG_some, e_non, e_bl, e_int, e_str, e_glb, e_bin, e_neg, e_no, e_and, e_or, e_cmp, e_chn, e_ife, e_tup, e_lst, e_dnew, e_idx, e_slc, e_call, e_blt, e_mtd, e_isi, e_dis, e_rev, wRev, e_mnd, e_lrg, wMnd, wLrg, e_comp, wEs, wO, wT, wI, wS, wTg, wTgs, CTs.len, asB_bl, wBin, wCmp, wAdd, wSubX, wI2, wMul, wEq, wLt, wCI, wIs, DL.isNon, wNeg, wIdx, wSlc, wB, wLen, seqOf, lstOf, wIsi, tyOf, isTy, wM, wML, tyD, Mtd.ty, iAny, isSeqL, isSeqT, iRng, wSet, List.getElem?_cons_zero, List.getElem?_cons_succ, List.set_cons_zero, List.set_cons_succ, List.length_cons, List.length_nil, wAt_0, wAt_1, wAt_2, wAt_3, Nat.reduceAdd, ix30, ix31, ix32, up_at, Bool.false_eq_true, ↓reduceIte, decide_true, String.reduceBEq, Bool.and_false, Bool.false_and, Bool.or_false, Bool.false_or, true_and, beq_self_eq_true, Bool.true_or, Bool.or_true, Bool.not_true, Bool.not_false, Bool.false_xor, Bool.true_xor, wipeD, List.map_cons, List.map_nil, wTgs, CTs.len])
    refine ⟨_, rfl, ?_⟩
    rw [pL_len, List.take_length]
    exact q _ (Ext.new np)
theorem bL_snoc {bs : List Bool} {b : Bool} : bL bs ++ [D.bl b] = bL (bs ++ [b]) := by unfold bL; rw [List.map_append]; rfl
theorem bL_len {bs : List Bool} : (bL bs).length = bs.length := by unfold bL; rw [List.length_map]
def inx (m : Int) (x : IP) : Bool := decide (x.1 ≤ m) && decide (m < x.2)
def innb (A : List IP) (m : Int) : Bool := A.any (inx m)
theorem innb_iff {A : List IP} {m : Int} : innb A m = true ↔ inn A m := by
  unfold innb inn inx
  rw [List.any_eq_true]
  simp
section
variable {n : Nat} {h : DH} {Q : QD} {E : XD} {a : Addr} {A : List IP} {m : Int}
theorem hasmin (ha : h a = some (.lst (pL A))) (ln : A.length < 100000) (q : ∀ h2, Ext h h2 → Q (.bl (innb A m)) h2) : run gl ds (n + 1) 9 [.ref a, .int m] h Q E := by
  refine e9 ?_
  ((try simp only [e_var, wV_some, wG_some, e_non, e_bl, e_int, e_str, e_glb, e_bin, e_neg, e_no, e_and, e_or, e_cmp, e_chn, e_ife, e_tup, e_lst, e_dnew, e_idx, e_slc, e_call, e_blt, e_mtd, e_isi, e_dis, e_rev, wRev, e_mnd, e_lrg, wMnd, wLrg, e_comp, wEs, wO, wT, wI, wS, wTg, wTgs, CTs.len, asB_bl, wBin, wCmp, wAdd, wSubX, wI2, wMul, wEq, wLt, wCI, wIs, DL.isNon, wNeg, wIdx, wSlc, wB, wLen, seqOf, lstOf, wIsi, tyOf, isTy, wM, wML, tyD, Mtd.ty, iAny, isSeqL, isSeqT, iRng, wSet, List.getElem?_cons_zero, List.getElem?_cons_succ, List.set_cons_zero, List.set_cons_succ, List.length_cons, List.length_nil, wAt_0, wAt_1, wAt_2, wAt_3, Nat.reduceAdd, ix30, ix31, ix32, up_at, Bool.false_eq_true, ↓reduceIte, decide_true, String.reduceBEq, Bool.and_false, Bool.false_and, Bool.or_false, Bool.false_or, true_and, beq_self_eq_true, Bool.true_or, Bool.or_true, Bool.not_true, Bool.not_false, Bool.false_xor, Bool.true_xor, wipeD, List.map_cons, List.map_nil, wTgs, CTs.len]); rw [ss_cons]; simp only [e_var, wV_some, wG_some, e_non, e_bl, e_int, e_str, e_glb, e_bin, e_neg, e_no, e_and, e_or, e_cmp, e_chn, e_ife, e_tup, e_lst, e_dnew, e_idx, e_slc, e_call, e_blt, e_mtd, e_isi, e_dis, e_rev, wRev, e_mnd, e_lrg, wMnd, wLrg, e_comp, wEs, wO, wT, wI, wS, wTg, wTgs, CTs.len, asB_bl, wBin, wCmp, wAdd, wSubX, wI2, wMul, wEq, wLt, wCI, wIs, DL.isNon, wNeg, wIdx, wSlc, wB, wLen, seqOf, lstOf, wIsi, tyOf, isTy, wM, wML, tyD, Mtd.ty, iAny, isSeqL, isSeqT, iRng, wSet, List.getElem?_cons_zero, List.getElem?_cons_succ, List.set_cons_zero, List.set_cons_succ, List.length_cons, List.length_nil, wAt_0, wAt_1, wAt_2, wAt_3, Nat.reduceAdd, ix30, ix31, ix32, up_at, Bool.false_eq_true, ↓reduceIte, decide_true, String.reduceBEq, Bool.and_false, Bool.false_and, Bool.or_false, Bool.false_or, true_and, beq_self_eq_true, Bool.true_or, Bool.or_true, Bool.not_true, Bool.not_false, Bool.false_xor, Bool.true_xor, wipeD, List.map_cons, List.map_nil, wTgs, CTs.len, ha])
  refine comp_lst (a := a) (xs := pL A) (fun i h' acc => h' = h ∧ acc = bL ((A.take i).map (inx m))) ⟨rfl, rfl⟩ (fun _ _ _ ⟨e, _⟩ => by rw [e]; exact ha) ?_ ?_
  · rintro i d h' acc hd ⟨rfl, rfl⟩
    obtain ⟨x, ex, rfl⟩ := pL_mem hd
    have hi := (List.getElem?_eq_some_iff.mp ex).1
    have fin : ∀ b, b = inx m x → (bL ((A.take i).map (inx m))).length < 16777216 ∧ h' = h' ∧ bL ((A.take i).map (inx m)) ++ [D.bl b] = bL ((A.take (i + 1)).map (inx m)) := by
      intro b e
      subst e
      refine ⟨by rw [bL_len, List.length_map, List.length_take]; omega, rfl, ?_⟩
      rw [bL_snoc, List.take_add_one, ex, List.map_append]
      rfl
    (try simp only [e_var, wV_some, wG_some, e_non, e_bl, e_int, e_str, e_glb, e_bin, e_neg, e_no, e_and, e_or, e_cmp, e_chn, e_ife, e_tup, e_lst, e_dnew, e_idx, e_slc, e_call, e_blt, e_mtd, e_isi, e_dis, e_rev, wRev, e_mnd, e_lrg, wMnd, wLrg, e_comp, wEs, wO, wT, wI, wS, wTg, wTgs, CTs.len, asB_bl, wBin, wCmp, wAdd, wSubX, wI2, wMul, wEq, wLt, wCI, wIs, DL.isNon, wNeg, wIdx, wSlc, wB, wLen, seqOf, lstOf, wIsi, tyOf, isTy, wM, wML, tyD, Mtd.ty, iAny, isSeqL, isSeqT, iRng, wSet, List.getElem?_cons_zero, List.getElem?_cons_succ, List.set_cons_zero, List.set_cons_succ, List.length_cons, List.length_nil, wAt_0, wAt_1, wAt_2, wAt_3, Nat.reduceAdd, ix30, ix31, ix32, up_at, Bool.false_eq_true, ↓reduceIte, decide_true, String.reduceBEq, Bool.and_false, Bool.false_and, Bool.or_false, Bool.false_or, true_and, beq_self_eq_true, Bool.true_or, Bool.or_true, Bool.not_true, Bool.not_false, Bool.false_xor, Bool.true_xor, wipeD, List.map_cons, List.map_nil, wTgs, CTs.len, ipD])
    refine dec_ite (fun g => ?_) fun g => ?_
    · have := fin (decide (m < x.2)) (by unfold inx; rw [decide_eq_true g, Bool.true_and])
      simpa using this
    · have := fin false (by unfold inx; rw [decide_eq_false g, Bool.false_and])
      simpa using this
  · rintro h' acc p ⟨rfl, rfl⟩ np
    (try simp only [e_var, wV_some, wG_some, e_non, e_bl, e_int, e_str, e_glb, e_bin, e_neg, e_no, e_and, e_or, e_cmp, e_chn, e_ife, e_tup, e_lst, e_dnew, e_idx, e_slc, e_call, e_blt, e_mtd, e_isi, e_dis, e_rev, wRev, e_mnd, e_lrg, wMnd, wLrg, e_comp, wEs, wO, wT, wI, wS, wTg, wTgs, CTs.len, asB_bl, wBin, wCmp, wAdd, wSubX, wI2, wMul, wEq, wLt, wCI, wIs, DL.isNon, wNeg, wIdx, wSlc, wB, wLen, seqOf, lstOf, wIsi, tyOf, isTy, wM, wML, tyD, Mtd.ty, iAny, isSeqL, isSeqT, iRng, wSet, List.getElem?_cons_zero, List.getElem?_cons_succ, List.set_cons_zero, List.set_cons_succ, List.length_cons, List.length_nil, wAt_0, wAt_1, wAt_2, wAt_3, Nat.reduceAdd, ix30, ix31, ix32, up_at, Bool.false_eq_true, ↓reduceIte, decide_true, String.reduceBEq, Bool.and_false, Bool.false_and, Bool.or_false, Bool.false_or, true_and, beq_self_eq_true, Bool.true_or, Bool.or_true, Bool.not_true, Bool.not_false, Bool.false_xor, Bool.true_xor, wipeD, List.map_cons, List.map_nil, wTgs, CTs.len])
    refine ⟨_, rfl, ?_⟩
    rw [pL_len, List.take_length, List.any_map]
    exact q _ (Ext.new np)
end
end Qk04

namespace Qk04
open PySem DL L2
def Both (A B R : List IP) : Prop := Lot R ∧ ∀ m, inn R m ↔ inn A m ∧ inn B m
section
variable {n : Nat} {h : DH} {Q : QD} {E : XD}
theorem common {s t : IP} (hl : (if t.1 > s.1 then t.1 else s.1) < (if t.2 < s.2 then t.2 else s.2)) (q : Q (.tup [.int (if t.1 > s.1 then t.1 else s.1), .int (if t.2 < s.2 then t.2 else s.2)]) h) : run gl ds (n + 1) 0 [ipD s, ipD t] h Q E := by
  refine e0 ?_
  unfold ipD
  ((try simp only [e_var, wV_some, wG_some, e_non, e_bl, e_int, e_str, e_glb, e_bin, e_neg, e_no, e_and, e_or, e_cmp, e_chn, e_ife, e_tup, e_lst, e_dnew, e_idx, e_slc, e_call, e_blt, e_mtd, e_isi, e_dis, e_rev, wRev, e_mnd, e_lrg, wMnd, wLrg, e_comp, wEs, wO, wT, wI, wS, wTg, wTgs, CTs.len, asB_bl, wBin, wCmp, wAdd, wSubX, wI2, wMul, wEq, wLt, wCI, wIs, DL.isNon, wNeg, wIdx, wSlc, wB, wLen, seqOf, lstOf, wIsi, tyOf, isTy, wM, wML, tyD, Mtd.ty, iAny, isSeqL, isSeqT, iRng, wSet, List.getElem?_cons_zero, List.getElem?_cons_succ, List.set_cons_zero, List.set_cons_succ, List.length_cons, List.length_nil, wAt_0, wAt_1, wAt_2, wAt_3, Nat.reduceAdd, ix30, ix31, ix32, up_at, Bool.false_eq_true, ↓reduceIte, decide_true, String.reduceBEq, Bool.and_false, Bool.false_and, Bool.or_false, Bool.false_or, true_and, beq_self_eq_true, Bool.true_or, Bool.or_true, Bool.not_true, Bool.not_false, Bool.false_xor, Bool.true_xor, wipeD, List.map_cons, List.map_nil, wTgs, CTs.len]); rw [ss_cons]; simp only [e_var, wV_some, wG_some, e_non, e_bl, e_int, e_str, e_glb, e_bin, e_neg, e_no, e_and, e_or, e_cmp, e_chn, e_ife, e_tup, e_lst, e_dnew, e_idx, e_slc, e_call, e_blt, e_mtd, e_isi, e_dis, e_rev, wRev, e_mnd, e_lrg, wMnd, wLrg, e_comp, wEs, wO, wT, wI, wS, wTg, wTgs, CTs.len, asB_bl, wBin, wCmp, wAdd, wSubX, wI2, wMul, wEq, wLt, wCI, wIs, DL.isNon, wNeg, wIdx, wSlc, wB, wLen, seqOf, lstOf, wIsi, tyOf, isTy, wM, wML, tyD, Mtd.ty, iAny, isSeqL, isSeqT, iRng, wSet, List.getElem?_cons_zero, List.getElem?_cons_succ, List.set_cons_zero, List.set_cons_succ, List.length_cons, List.length_nil, wAt_0, wAt_1, wAt_2, wAt_3, Nat.reduceAdd, ix30, ix31, ix32, up_at, Bool.false_eq_true, ↓reduceIte, decide_true, String.reduceBEq, Bool.and_false, Bool.false_and, Bool.or_false, Bool.false_or, true_and, beq_self_eq_true, Bool.true_or, Bool.or_true, Bool.not_true, Bool.not_false, Bool.false_xor, Bool.true_xor, wipeD, List.map_cons, List.map_nil, wTgs, CTs.len])
  ((try simp only [e_var, wV_some, wG_some, e_non, e_bl, e_int, e_str, e_glb, e_bin, e_neg, e_no, e_and, e_or, e_cmp, e_chn, e_ife, e_tup, e_lst, e_dnew, e_idx, e_slc, e_call, e_blt, e_mtd, e_isi, e_dis, e_rev, wRev, e_mnd, e_lrg, wMnd, wLrg, e_comp, wEs, wO, wT, wI, wS, wTg, wTgs, CTs.len, asB_bl, wBin, wCmp, wAdd, wSubX, wI2, wMul, wEq, wLt, wCI, wIs, DL.isNon, wNeg, wIdx, wSlc, wB, wLen, seqOf, lstOf, wIsi, tyOf, isTy, wM, wML, tyD, Mtd.ty, iAny, isSeqL, isSeqT, iRng, wSet, List.getElem?_cons_zero, List.getElem?_cons_succ, List.set_cons_zero, List.set_cons_succ, List.length_cons, List.length_nil, wAt_0, wAt_1, wAt_2, wAt_3, Nat.reduceAdd, ix30, ix31, ix32, up_at, Bool.false_eq_true, ↓reduceIte, decide_true, String.reduceBEq, Bool.and_false, Bool.false_and, Bool.or_false, Bool.false_or, true_and, beq_self_eq_true, Bool.true_or, Bool.or_true, Bool.not_true, Bool.not_false, Bool.false_xor, Bool.true_xor, wipeD, List.map_cons, List.map_nil, wTgs, CTs.len]); rw [ss_cons]; simp only [e_var, wV_some, wG_some, e_non, e_bl, e_int, e_str, e_glb, e_bin, e_neg, e_no, e_and, e_or, e_cmp, e_chn, e_ife, e_tup, e_lst, e_dnew, e_idx, e_slc, e_call, e_blt, e_mtd, e_isi, e_dis, e_rev, wRev, e_mnd, e_lrg, wMnd, wLrg, e_comp, wEs, wO, wT, wI, wS, wTg, wTgs, CTs.len, asB_bl, wBin, wCmp, wAdd, wSubX, wI2, wMul, wEq, wLt, wCI, wIs, DL.isNon, wNeg, wIdx, wSlc, wB, wLen, seqOf, lstOf, wIsi, tyOf, isTy, wM, wML, tyD, Mtd.ty, iAny, isSeqL, isSeqT, iRng, wSet, List.getElem?_cons_zero, List.getElem?_cons_succ, List.set_cons_zero, List.set_cons_succ, List.length_cons, List.length_nil, wAt_0, wAt_1, wAt_2, wAt_3, Nat.reduceAdd, ix30, ix31, ix32, up_at, Bool.false_eq_true, ↓reduceIte, decide_true, String.reduceBEq, Bool.and_false, Bool.false_and, Bool.or_false, Bool.false_or, true_and, beq_self_eq_true, Bool.true_or, Bool.or_true, Bool.not_true, Bool.not_false, Bool.false_xor, Bool.true_xor, wipeD, List.map_cons, List.map_nil, wTgs, CTs.len])
  ((try simp only [e_var, wV_some, wG_some, e_non, e_bl, e_int, e_str, e_glb, e_bin, e_neg, e_no, e_and, e_or, e_cmp, e_chn, e_ife, e_tup, e_lst, e_dnew, e_idx, e_slc, e_call, e_blt, e_mtd, e_isi, e_dis, e_rev, wRev, e_mnd, e_lrg, wMnd, wLrg, e_comp, wEs, wO, wT, wI, wS, wTg, wTgs, CTs.len, asB_bl, wBin, wCmp, wAdd, wSubX, wI2, wMul, wEq, wLt, wCI, wIs, DL.isNon, wNeg, wIdx, wSlc, wB, wLen, seqOf, lstOf, wIsi, tyOf, isTy, wM, wML, tyD, Mtd.ty, iAny, isSeqL, isSeqT, iRng, wSet, List.getElem?_cons_zero, List.getElem?_cons_succ, List.set_cons_zero, List.set_cons_succ, List.length_cons, List.length_nil, wAt_0, wAt_1, wAt_2, wAt_3, Nat.reduceAdd, ix30, ix31, ix32, up_at, Bool.false_eq_true, ↓reduceIte, decide_true, String.reduceBEq, Bool.and_false, Bool.false_and, Bool.or_false, Bool.false_or, true_and, beq_self_eq_true, Bool.true_or, Bool.or_true, Bool.not_true, Bool.not_false, Bool.false_xor, Bool.true_xor, wipeD, List.map_cons, List.map_nil, wTgs, CTs.len]); rw [ss_cons]; simp only [e_var, wV_some, wG_some, e_non, e_bl, e_int, e_str, e_glb, e_bin, e_neg, e_no, e_and, e_or, e_cmp, e_chn, e_ife, e_tup, e_lst, e_dnew, e_idx, e_slc, e_call, e_blt, e_mtd, e_isi, e_dis, e_rev, wRev, e_mnd, e_lrg, wMnd, wLrg, e_comp, wEs, wO, wT, wI, wS, wTg, wTgs, CTs.len, asB_bl, wBin, wCmp, wAdd, wSubX, wI2, wMul, wEq, wLt, wCI, wIs, DL.isNon, wNeg, wIdx, wSlc, wB, wLen, seqOf, lstOf, wIsi, tyOf, isTy, wM, wML, tyD, Mtd.ty, iAny, isSeqL, isSeqT, iRng, wSet, List.getElem?_cons_zero, List.getElem?_cons_succ, List.set_cons_zero, List.set_cons_succ, List.length_cons, List.length_nil, wAt_0, wAt_1, wAt_2, wAt_3, Nat.reduceAdd, ix30, ix31, ix32, up_at, Bool.false_eq_true, ↓reduceIte, decide_true, String.reduceBEq, Bool.and_false, Bool.false_and, Bool.or_false, Bool.false_or, true_and, beq_self_eq_true, Bool.true_or, Bool.or_true, Bool.not_true, Bool.not_false, Bool.false_xor, Bool.true_xor, wipeD, List.map_cons, List.map_nil, wTgs, CTs.len])
  rw [decide_eq_true hl]
  (try simp only [e_var, wV_some, wG_some, e_non, e_bl, e_int, e_str, e_glb, e_bin, e_neg, e_no, e_and, e_or, e_cmp, e_chn, e_ife, e_tup, e_lst, e_dnew, e_idx, e_slc, e_call, e_blt, e_mtd, e_isi, e_dis, e_rev, wRev, e_mnd, e_lrg, wMnd, wLrg, e_comp, wEs, wO, wT, wI, wS, wTg, wTgs, CTs.len, asB_bl, wBin, wCmp, wAdd, wSubX, wI2, wMul, wEq, wLt, wCI, wIs, DL.isNon, wNeg, wIdx, wSlc, wB, wLen, seqOf, lstOf, wIsi, tyOf, isTy, wM, wML, tyD, Mtd.ty, iAny, isSeqL, isSeqT, iRng, wSet, List.getElem?_cons_zero, List.getElem?_cons_succ, List.set_cons_zero, List.set_cons_succ, List.length_cons, List.length_nil, wAt_0, wAt_1, wAt_2, wAt_3, Nat.reduceAdd, ix30, ix31, ix32, up_at, Bool.false_eq_true, ↓reduceIte, decide_true, String.reduceBEq, Bool.and_false, Bool.false_and, Bool.or_false, Bool.false_or, true_and, beq_self_eq_true, Bool.true_or, Bool.or_true, Bool.not_true, Bool.not_false, Bool.false_xor, Bool.true_xor, wipeD, List.map_cons, List.map_nil, wTgs, CTs.len])
  ((try simp only [e_var, wV_some, wG_some, e_non, e_bl, e_int, e_str, e_glb, e_bin, e_neg, e_no, e_and, e_or, e_cmp, e_chn, e_ife, e_tup, e_lst, e_dnew, e_idx, e_slc, e_call, e_blt, e_mtd, e_isi, e_dis, e_rev, wRev, e_mnd, e_lrg, wMnd, wLrg, e_comp, wEs, wO, wT, wI, wS, wTg, wTgs, CTs.len, asB_bl, wBin, wCmp, wAdd, wSubX, wI2, wMul, wEq, wLt, wCI, wIs, DL.isNon, wNeg, wIdx, wSlc, wB, wLen, seqOf, lstOf, wIsi, tyOf, isTy, wM, wML, tyD, Mtd.ty, iAny, isSeqL, isSeqT, iRng, wSet, List.getElem?_cons_zero, List.getElem?_cons_succ, List.set_cons_zero, List.set_cons_succ, List.length_cons, List.length_nil, wAt_0, wAt_1, wAt_2, wAt_3, Nat.reduceAdd, ix30, ix31, ix32, up_at, Bool.false_eq_true, ↓reduceIte, decide_true, String.reduceBEq, Bool.and_false, Bool.false_and, Bool.or_false, Bool.false_or, true_and, beq_self_eq_true, Bool.true_or, Bool.or_true, Bool.not_true, Bool.not_false, Bool.false_xor, Bool.true_xor, wipeD, List.map_cons, List.map_nil, wTgs, CTs.len]); rw [ss_cons]; simp only [e_var, wV_some, wG_some, e_non, e_bl, e_int, e_str, e_glb, e_bin, e_neg, e_no, e_and, e_or, e_cmp, e_chn, e_ife, e_tup, e_lst, e_dnew, e_idx, e_slc, e_call, e_blt, e_mtd, e_isi, e_dis, e_rev, wRev, e_mnd, e_lrg, wMnd, wLrg, e_comp, wEs, wO, wT, wI, wS, wTg, wTgs, CTs.len, asB_bl, wBin, wCmp, wAdd, wSubX, wI2, wMul, wEq, wLt, wCI, wIs, DL.isNon, wNeg, wIdx, wSlc, wB, wLen, seqOf, lstOf, wIsi, tyOf, isTy, wM, wML, tyD, Mtd.ty, iAny, isSeqL, isSeqT, iRng, wSet, List.getElem?_cons_zero, List.getElem?_cons_succ, List.set_cons_zero, List.set_cons_succ, List.length_cons, List.length_nil, wAt_0, wAt_1, wAt_2, wAt_3, Nat.reduceAdd, ix30, ix31, ix32, up_at, Bool.false_eq_true, ↓reduceIte, decide_true, String.reduceBEq, Bool.and_false, Bool.false_and, Bool.or_false, Bool.false_or, true_and, beq_self_eq_true, Bool.true_or, Bool.or_true, Bool.not_true, Bool.not_false, Bool.false_xor, Bool.true_xor, wipeD, List.map_cons, List.map_nil, wTgs, CTs.len])
  exact ⟨by omega, q⟩
/-- what is laid down so far: of stretch s, up to place k -/
structure Bst (A B : List IP) (i k : Nat) (s : IP) (R : List IP) : Prop where
  l : Lot R
  m : ∀ m, inn R m ↔ (inn (A.take i) m ∧ inn B m) ∨ (inn [s] m ∧ inn (B.take k) m)
  g : ∀ x ∈ R, ∀ p, s.1 ≤ p → (∀ (j : Nat) (y : IP), j < k → B[j]? = some y → y.2 < p) → x.2 < p
  e : ∀ x ∈ R, x.2 ≤ s.2
  n : R.length ≤ i * B.length + k
theorem Bst.step {A B : List IP} {i k : Nat} {s t : IP} {R : List IP} (hs : s.1 < s.2) (hB : Lot B) (b : Bst A B i k s R) (et : B[k]? = some t) (t1 : s.1 < t.2) (t2 : t.1 < s.2) :
    (if t.1 > s.1 then t.1 else s.1) < (if t.2 < s.2 then t.2 else s.2) ∧ Bst A B i (k + 1) s (R ++ [((if t.1 > s.1 then t.1 else s.1), (if t.2 < s.2 then t.2 else s.2))]) := by
  have pt := hB.pos t (List.mem_of_getElem? et)
  have lt : (if t.1 > s.1 then t.1 else s.1) < (if t.2 < s.2 then t.2 else s.2) := by split <;> split <;> omega
  have f1 : s.1 ≤ (if t.1 > s.1 then t.1 else s.1) ∧ t.1 ≤ (if t.1 > s.1 then t.1 else s.1) := by split <;> omega
  have f2 : (if t.2 < s.2 then t.2 else s.2) ≤ s.2 ∧ (if t.2 < s.2 then t.2 else s.2) ≤ t.2 := by split <;> omega
  have f3 : ∀ m, (if t.1 > s.1 then t.1 else s.1) ≤ m ↔ s.1 ≤ m ∧ t.1 ≤ m := fun m => by split <;> omega
  have f4 : ∀ m, m < (if t.2 < s.2 then t.2 else s.2) ↔ m < s.2 ∧ m < t.2 := fun m => by split <;> omega
  generalize (if t.1 > s.1 then t.1 else s.1) = lo at *
  generalize (if t.2 < s.2 then t.2 else s.2) = hi at *
  have before : ∀ x ∈ R, x.2 < lo := fun x hx => b.g x hx lo f1.1 fun j y hj ey => by
    have := List.pairwise_iff_getElem.mp hB.ris j k (List.getElem?_eq_some_iff.mp ey).1 (List.getElem?_eq_some_iff.mp et).1 hj
    rw [(List.getElem?_eq_some_iff.mp ey).2, (List.getElem?_eq_some_iff.mp et).2] at this
    omega
  refine ⟨lt, ⟨fun x hx => ?_, List.pairwise_append.mpr ⟨b.l.ris, List.pairwise_singleton _ _, fun x hx y hy => ?_⟩⟩, fun m => ?_, fun x hx p hp hj => ?_, fun x hx => ?_, ?_⟩
  · rcases List.mem_append.mp hx with hx | hx
    · exact b.l.pos x hx
    · rw [List.mem_singleton.mp hx]; exact lt
  · rw [List.mem_singleton.mp hy]
    exact before x hx
  · rw [inn_app, b.m m, List.take_add_one, et, inn_app, inn_one, inn_one]
    have : inn (some t).toList m ↔ t.1 ≤ m ∧ m < t.2 := inn_one
    rw [this]
    have := f3 m
    have := f4 m
    constructor
    · rintro ((z | z) | z)
      · exact .inl z
      · exact .inr ⟨z.1, .inl z.2⟩
      · have z1 := (f3 m).mp z.1
        have z2 := (f4 m).mp z.2
        exact .inr ⟨⟨z1.1, z2.1⟩, .inr ⟨z1.2, z2.2⟩⟩
    · rintro (z | ⟨z, w | w⟩)
      · exact .inl (.inl z)
      · exact .inl (.inr ⟨z, w⟩)
      · exact .inr ⟨(f3 m).mpr ⟨z.1, w.1⟩, (f4 m).mpr ⟨z.2, w.2⟩⟩
  · rcases List.mem_append.mp hx with hx | hx
    · exact b.g x hx p hp fun j y hj' ey => hj j y (by omega) ey
    · rw [List.mem_singleton.mp hx]
      have := hj k t (by omega) et
      show hi < p
      omega
  · rcases List.mem_append.mp hx with hx | hx
    · exact b.e x hx
    · rw [List.mem_singleton.mp hx]; exact f2.1
  · rw [List.length_append, List.length_singleton]
    have := b.n
    omega
theorem both {aA bA : Addr} {A B : List IP} (hA : Lot A) (hB : Lot B) (lA : A.length ≤ 1000) (lB : B.length ≤ 1000) (h1 : h aA = some (.lst (pL A))) (h2 : h bA = some (.lst (pL B)))
    (q : ∀ F R h2, h F = none → Ext h h2 → h2 F = some (.lst (pL R)) → Both A B R → R.length ≤ A.length * B.length → Q (.ref F) h2) : run gl ds (n + 2) 1 [.ref aA, .ref bA] h Q E := by
  refine e1 ?_
  ((try simp only [e_var, wV_some, wG_some, e_non, e_bl, e_int, e_str, e_glb, e_bin, e_neg, e_no, e_and, e_or, e_cmp, e_chn, e_ife, e_tup, e_lst, e_dnew, e_idx, e_slc, e_call, e_blt, e_mtd, e_isi, e_dis, e_rev, wRev, e_mnd, e_lrg, wMnd, wLrg, e_comp, wEs, wO, wT, wI, wS, wTg, wTgs, CTs.len, asB_bl, wBin, wCmp, wAdd, wSubX, wI2, wMul, wEq, wLt, wCI, wIs, DL.isNon, wNeg, wIdx, wSlc, wB, wLen, seqOf, lstOf, wIsi, tyOf, isTy, wM, wML, tyD, Mtd.ty, iAny, isSeqL, isSeqT, iRng, wSet, List.getElem?_cons_zero, List.getElem?_cons_succ, List.set_cons_zero, List.set_cons_succ, List.length_cons, List.length_nil, wAt_0, wAt_1, wAt_2, wAt_3, Nat.reduceAdd, ix30, ix31, ix32, up_at, Bool.false_eq_true, ↓reduceIte, decide_true, String.reduceBEq, Bool.and_false, Bool.false_and, Bool.or_false, Bool.false_or, true_and, beq_self_eq_true, Bool.true_or, Bool.or_true, Bool.not_true, Bool.not_false, Bool.false_xor, Bool.true_xor, wipeD, List.map_cons, List.map_nil, wTgs, CTs.len]); rw [ss_cons]; simp only [e_var, wV_some, wG_some, e_non, e_bl, e_int, e_str, e_glb, e_bin, e_neg, e_no, e_and, e_or, e_cmp, e_chn, e_ife, e_tup, e_lst, e_dnew, e_idx, e_slc, e_call, e_blt, e_mtd, e_isi, e_dis, e_rev, wRev, e_mnd, e_lrg, wMnd, wLrg, e_comp, wEs, wO, wT, wI, wS, wTg, wTgs, CTs.len, asB_bl, wBin, wCmp, wAdd, wSubX, wI2, wMul, wEq, wLt, wCI, wIs, DL.isNon, wNeg, wIdx, wSlc, wB, wLen, seqOf, lstOf, wIsi, tyOf, isTy, wM, wML, tyD, Mtd.ty, iAny, isSeqL, isSeqT, iRng, wSet, List.getElem?_cons_zero, List.getElem?_cons_succ, List.set_cons_zero, List.set_cons_succ, List.length_cons, List.length_nil, wAt_0, wAt_1, wAt_2, wAt_3, Nat.reduceAdd, ix30, ix31, ix32, up_at, Bool.false_eq_true, ↓reduceIte, decide_true, String.reduceBEq, Bool.and_false, Bool.false_and, Bool.or_false, Bool.false_or, true_and, beq_self_eq_true, Bool.true_or, Bool.or_true, Bool.not_true, Bool.not_false, Bool.false_xor, Bool.true_xor, wipeD, List.map_cons, List.map_nil, wTgs, CTs.len])
  refine ⟨by omega, fun F nF => ?_⟩
  have eF : up h F (.lst []) F = some (.lst (pL [])) := up_at
  have y0 := Ext.new (o := .lst []) nF
  have n1 : aA ≠ F := Ext.isnew nF h1
  have n2 : bA ≠ F := Ext.isnew nF h2
  generalize up h F (.lst []) = h0 at *
  ((try simp only [e_var, wV_some, wG_some, e_non, e_bl, e_int, e_str, e_glb, e_bin, e_neg, e_no, e_and, e_or, e_cmp, e_chn, e_ife, e_tup, e_lst, e_dnew, e_idx, e_slc, e_call, e_blt, e_mtd, e_isi, e_dis, e_rev, wRev, e_mnd, e_lrg, wMnd, wLrg, e_comp, wEs, wO, wT, wI, wS, wTg, wTgs, CTs.len, asB_bl, wBin, wCmp, wAdd, wSubX, wI2, wMul, wEq, wLt, wCI, wIs, DL.isNon, wNeg, wIdx, wSlc, wB, wLen, seqOf, lstOf, wIsi, tyOf, isTy, wM, wML, tyD, Mtd.ty, iAny, isSeqL, isSeqT, iRng, wSet, List.getElem?_cons_zero, List.getElem?_cons_succ, List.set_cons_zero, List.set_cons_succ, List.length_cons, List.length_nil, wAt_0, wAt_1, wAt_2, wAt_3, Nat.reduceAdd, ix30, ix31, ix32, up_at, Bool.false_eq_true, ↓reduceIte, decide_true, String.reduceBEq, Bool.and_false, Bool.false_and, Bool.or_false, Bool.false_or, true_and, beq_self_eq_true, Bool.true_or, Bool.or_true, Bool.not_true, Bool.not_false, Bool.false_xor, Bool.true_xor, wipeD, List.map_cons, List.map_nil, wTgs, CTs.len]); rw [ss_cons]; simp only [e_var, wV_some, wG_some, e_non, e_bl, e_int, e_str, e_glb, e_bin, e_neg, e_no, e_and, e_or, e_cmp, e_chn, e_ife, e_tup, e_lst, e_dnew, e_idx, e_slc, e_call, e_blt, e_mtd, e_isi, e_dis, e_rev, wRev, e_mnd, e_lrg, wMnd, wLrg, e_comp, wEs, wO, wT, wI, wS, wTg, wTgs, CTs.len, asB_bl, wBin, wCmp, wAdd, wSubX, wI2, wMul, wEq, wLt, wCI, wIs, DL.isNon, wNeg, wIdx, wSlc, wB, wLen, seqOf, lstOf, wIsi, tyOf, isTy, wM, wML, tyD, Mtd.ty, iAny, isSeqL, isSeqT, iRng, wSet, List.getElem?_cons_zero, List.getElem?_cons_succ, List.set_cons_zero, List.set_cons_succ, List.length_cons, List.length_nil, wAt_0, wAt_1, wAt_2, wAt_3, Nat.reduceAdd, ix30, ix31, ix32, up_at, Bool.false_eq_true, ↓reduceIte, decide_true, String.reduceBEq, Bool.and_false, Bool.false_and, Bool.or_false, Bool.false_or, true_and, beq_self_eq_true, Bool.true_or, Bool.or_true, Bool.not_true, Bool.not_false, Bool.false_xor, Bool.true_xor, wipeD, List.map_cons, List.map_nil, wTgs, CTs.len])
  ((try simp only [e_var, wV_some, wG_some, e_non, e_bl, e_int, e_str, e_glb, e_bin, e_neg, e_no, e_and, e_or, e_cmp, e_chn, e_ife, e_tup, e_lst, e_dnew, e_idx, e_slc, e_call, e_blt, e_mtd, e_isi, e_dis, e_rev, wRev, e_mnd, e_lrg, wMnd, wLrg, e_comp, wEs, wO, wT, wI, wS, wTg, wTgs, CTs.len, asB_bl, wBin, wCmp, wAdd, wSubX, wI2, wMul, wEq, wLt, wCI, wIs, DL.isNon, wNeg, wIdx, wSlc, wB, wLen, seqOf, lstOf, wIsi, tyOf, isTy, wM, wML, tyD, Mtd.ty, iAny, isSeqL, isSeqT, iRng, wSet, List.getElem?_cons_zero, List.getElem?_cons_succ, List.set_cons_zero, List.set_cons_succ, List.length_cons, List.length_nil, wAt_0, wAt_1, wAt_2, wAt_3, Nat.reduceAdd, ix30, ix31, ix32, up_at, Bool.false_eq_true, ↓reduceIte, decide_true, String.reduceBEq, Bool.and_false, Bool.false_and, Bool.or_false, Bool.false_or, true_and, beq_self_eq_true, Bool.true_or, Bool.or_true, Bool.not_true, Bool.not_false, Bool.false_xor, Bool.true_xor, wipeD, List.map_cons, List.map_nil, wTgs, CTs.len]); rw [ss_cons]; simp only [e_var, wV_some, wG_some, e_non, e_bl, e_int, e_str, e_glb, e_bin, e_neg, e_no, e_and, e_or, e_cmp, e_chn, e_ife, e_tup, e_lst, e_dnew, e_idx, e_slc, e_call, e_blt, e_mtd, e_isi, e_dis, e_rev, wRev, e_mnd, e_lrg, wMnd, wLrg, e_comp, wEs, wO, wT, wI, wS, wTg, wTgs, CTs.len, asB_bl, wBin, wCmp, wAdd, wSubX, wI2, wMul, wEq, wLt, wCI, wIs, DL.isNon, wNeg, wIdx, wSlc, wB, wLen, seqOf, lstOf, wIsi, tyOf, isTy, wM, wML, tyD, Mtd.ty, iAny, isSeqL, isSeqT, iRng, wSet, List.getElem?_cons_zero, List.getElem?_cons_succ, List.set_cons_zero, List.set_cons_succ, List.length_cons, List.length_nil, wAt_0, wAt_1, wAt_2, wAt_3, Nat.reduceAdd, ix30, ix31, ix32, up_at, Bool.false_eq_true, ↓reduceIte, decide_true, String.reduceBEq, Bool.and_false, Bool.false_and, Bool.or_false, Bool.false_or, true_and, beq_self_eq_true, Bool.true_or, Bool.or_true, Bool.not_true, Bool.not_false, Bool.false_xor, Bool.true_xor, wipeD, List.map_cons, List.map_nil, wTgs, CTs.len, y0 _ _ h1])
  refine loop_lst (a := aA) (xs := pL A) (fun i s h' => ∃ at' x4 x5 R, s = [some (.ref aA), some (.ref bA), some (.ref F), some (.int ((at' : Nat) : Int)), x4, x5] ∧ at' ≤ B.length ∧ Ext h h' ∧ h' F = some (.lst (pL R)) ∧ Lot R ∧ (∀ m, inn R m ↔ inn (A.take i) m ∧ inn B m) ∧ R.length ≤ i * B.length ∧ (∀ (j : Nat) (y s : IP), j < at' → B[j]? = some y → A[i]? = some s → y.2 ≤ s.1) ∧ (∀ x ∈ R, ∀ (s : IP), A[i]? = some s → x.2 < s.1))
    ⟨0, _, _, [], rfl, by omega, y0, eF, ⟨by simp, List.Pairwise.nil⟩, fun m => by simp [inn], by simp, fun j y s hj => by omega, by simp⟩ (fun _ _ _ ⟨_, _, _, _, _, _, x, _⟩ => x _ _ h1) ?_ ?_
  · rintro i d s h' hd ⟨at', x4, x5, R, rfl, la, x, eF, lR, mR, nR, low, gR⟩
    obtain ⟨s, es, rfl⟩ := pL_mem hd
    have ps := hA.pos s (List.mem_of_getElem? es)
    have low := fun j y hj ey => low j y s hj ey es
    have gR := fun x hx => gR x hx s es
    have hi := (List.getElem?_eq_some_iff.mp es).1
    have after : ∀ (s2 : IP), A[i + 1]? = some s2 → s.2 < s2.1 := fun s2 e2 => by
      have := List.pairwise_iff_getElem.mp hA.ris i (i + 1) hi (List.getElem?_eq_some_iff.mp e2).1 (by omega)
      rw [(List.getElem?_eq_some_iff.mp es).2, (List.getElem?_eq_some_iff.mp e2).2] at this
      exact this
    (try simp only [e_var, wV_some, wG_some, e_non, e_bl, e_int, e_str, e_glb, e_bin, e_neg, e_no, e_and, e_or, e_cmp, e_chn, e_ife, e_tup, e_lst, e_dnew, e_idx, e_slc, e_call, e_blt, e_mtd, e_isi, e_dis, e_rev, wRev, e_mnd, e_lrg, wMnd, wLrg, e_comp, wEs, wO, wT, wI, wS, wTg, wTgs, CTs.len, asB_bl, wBin, wCmp, wAdd, wSubX, wI2, wMul, wEq, wLt, wCI, wIs, DL.isNon, wNeg, wIdx, wSlc, wB, wLen, seqOf, lstOf, wIsi, tyOf, isTy, wM, wML, tyD, Mtd.ty, iAny, isSeqL, isSeqT, iRng, wSet, List.getElem?_cons_zero, List.getElem?_cons_succ, List.set_cons_zero, List.set_cons_succ, List.length_cons, List.length_nil, wAt_0, wAt_1, wAt_2, wAt_3, Nat.reduceAdd, ix30, ix31, ix32, up_at, Bool.false_eq_true, ↓reduceIte, decide_true, String.reduceBEq, Bool.and_false, Bool.false_and, Bool.or_false, Bool.false_or, true_and, beq_self_eq_true, Bool.true_or, Bool.or_true, Bool.not_true, Bool.not_false, Bool.false_xor, Bool.true_xor, wipeD, List.map_cons, List.map_nil, wTgs, CTs.len])
    ((try simp only [e_var, wV_some, wG_some, e_non, e_bl, e_int, e_str, e_glb, e_bin, e_neg, e_no, e_and, e_or, e_cmp, e_chn, e_ife, e_tup, e_lst, e_dnew, e_idx, e_slc, e_call, e_blt, e_mtd, e_isi, e_dis, e_rev, wRev, e_mnd, e_lrg, wMnd, wLrg, e_comp, wEs, wO, wT, wI, wS, wTg, wTgs, CTs.len, asB_bl, wBin, wCmp, wAdd, wSubX, wI2, wMul, wEq, wLt, wCI, wIs, DL.isNon, wNeg, wIdx, wSlc, wB, wLen, seqOf, lstOf, wIsi, tyOf, isTy, wM, wML, tyD, Mtd.ty, iAny, isSeqL, isSeqT, iRng, wSet, List.getElem?_cons_zero, List.getElem?_cons_succ, List.set_cons_zero, List.set_cons_succ, List.length_cons, List.length_nil, wAt_0, wAt_1, wAt_2, wAt_3, Nat.reduceAdd, ix30, ix31, ix32, up_at, Bool.false_eq_true, ↓reduceIte, decide_true, String.reduceBEq, Bool.and_false, Bool.false_and, Bool.or_false, Bool.false_or, true_and, beq_self_eq_true, Bool.true_or, Bool.or_true, Bool.not_true, Bool.not_false, Bool.false_xor, Bool.true_xor, wipeD, List.map_cons, List.map_nil, wTgs, CTs.len]); rw [ss_cons]; simp only [e_var, wV_some, wG_some, e_non, e_bl, e_int, e_str, e_glb, e_bin, e_neg, e_no, e_and, e_or, e_cmp, e_chn, e_ife, e_tup, e_lst, e_dnew, e_idx, e_slc, e_call, e_blt, e_mtd, e_isi, e_dis, e_rev, wRev, e_mnd, e_lrg, wMnd, wLrg, e_comp, wEs, wO, wT, wI, wS, wTg, wTgs, CTs.len, asB_bl, wBin, wCmp, wAdd, wSubX, wI2, wMul, wEq, wLt, wCI, wIs, DL.isNon, wNeg, wIdx, wSlc, wB, wLen, seqOf, lstOf, wIsi, tyOf, isTy, wM, wML, tyD, Mtd.ty, iAny, isSeqL, isSeqT, iRng, wSet, List.getElem?_cons_zero, List.getElem?_cons_succ, List.set_cons_zero, List.set_cons_succ, List.length_cons, List.length_nil, wAt_0, wAt_1, wAt_2, wAt_3, Nat.reduceAdd, ix30, ix31, ix32, up_at, Bool.false_eq_true, ↓reduceIte, decide_true, String.reduceBEq, Bool.and_false, Bool.false_and, Bool.or_false, Bool.false_or, true_and, beq_self_eq_true, Bool.true_or, Bool.or_true, Bool.not_true, Bool.not_false, Bool.false_xor, Bool.true_xor, wipeD, List.map_cons, List.map_nil, wTgs, CTs.len])
    -- the first while
    refine ⟨fun w s' h'' => ∃ at' : Nat, s' = [some (.ref aA), some (.ref bA), some (.ref F), some (.int (at' : Int)), some (ipD s), x5] ∧ w = B.length - at' ∧ at' ≤ B.length ∧ Ext h h'' ∧ h'' F = some (.lst (pL R)) ∧ ∀ (j : Nat) (y : IP), j < at' → B[j]? = some y → y.2 ≤ s.1, ⟨_, at', rfl, rfl, la, x, eF, low⟩, ?_⟩
    rintro w s' h'' ⟨at', rfl, rfl, la, x, eF, low⟩
    (try simp only [e_var, wV_some, wG_some, e_non, e_bl, e_int, e_str, e_glb, e_bin, e_neg, e_no, e_and, e_or, e_cmp, e_chn, e_ife, e_tup, e_lst, e_dnew, e_idx, e_slc, e_call, e_blt, e_mtd, e_isi, e_dis, e_rev, wRev, e_mnd, e_lrg, wMnd, wLrg, e_comp, wEs, wO, wT, wI, wS, wTg, wTgs, CTs.len, asB_bl, wBin, wCmp, wAdd, wSubX, wI2, wMul, wEq, wLt, wCI, wIs, DL.isNon, wNeg, wIdx, wSlc, wB, wLen, seqOf, lstOf, wIsi, tyOf, isTy, wM, wML, tyD, Mtd.ty, iAny, isSeqL, isSeqT, iRng, wSet, List.getElem?_cons_zero, List.getElem?_cons_succ, List.set_cons_zero, List.set_cons_succ, List.length_cons, List.length_nil, wAt_0, wAt_1, wAt_2, wAt_3, Nat.reduceAdd, ix30, ix31, ix32, up_at, Bool.false_eq_true, ↓reduceIte, decide_true, String.reduceBEq, Bool.and_false, Bool.false_and, Bool.or_false, Bool.false_or, true_and, beq_self_eq_true, Bool.true_or, Bool.or_true, Bool.not_true, Bool.not_false, Bool.false_xor, Bool.true_xor, wipeD, List.map_cons, List.map_nil, wTgs, CTs.len, x _ _ h2])
    rw [pL_len]
    have second : (∀ t, B[at']? = some t → s.1 < t.2) → wSs gl (DL.run gl ds (n + 1)) Q (fun x _ h' => E x h') b1_5 [some (.ref aA), some (.ref bA), some (.ref F), some (.int ((at' : Nat) : Int)), some (ipD s), x5] h''
        fun s h' => ∃ at' x4 x5 R, s = [some (.ref aA), some (.ref bA), some (.ref F), some (.int ((at' : Nat) : Int)), x4, x5] ∧ at' ≤ B.length ∧ Ext h h' ∧ h' F = some (.lst (pL R)) ∧ Lot R ∧ (∀ m, inn R m ↔ inn (A.take (i + 1)) m ∧ inn B m) ∧ R.length ≤ (i + 1) * B.length ∧ (∀ (j : Nat) (y s : IP), j < at' → B[j]? = some y → A[i + 1]? = some s → y.2 ≤ s.1) ∧ (∀ x ∈ R, ∀ (s : IP), A[i + 1]? = some s → x.2 < s.1) := by
      intro up1
      ((try simp only [e_var, wV_some, wG_some, e_non, e_bl, e_int, e_str, e_glb, e_bin, e_neg, e_no, e_and, e_or, e_cmp, e_chn, e_ife, e_tup, e_lst, e_dnew, e_idx, e_slc, e_call, e_blt, e_mtd, e_isi, e_dis, e_rev, wRev, e_mnd, e_lrg, wMnd, wLrg, e_comp, wEs, wO, wT, wI, wS, wTg, wTgs, CTs.len, asB_bl, wBin, wCmp, wAdd, wSubX, wI2, wMul, wEq, wLt, wCI, wIs, DL.isNon, wNeg, wIdx, wSlc, wB, wLen, seqOf, lstOf, wIsi, tyOf, isTy, wM, wML, tyD, Mtd.ty, iAny, isSeqL, isSeqT, iRng, wSet, List.getElem?_cons_zero, List.getElem?_cons_succ, List.set_cons_zero, List.set_cons_succ, List.length_cons, List.length_nil, wAt_0, wAt_1, wAt_2, wAt_3, Nat.reduceAdd, ix30, ix31, ix32, up_at, Bool.false_eq_true, ↓reduceIte, decide_true, String.reduceBEq, Bool.and_false, Bool.false_and, Bool.or_false, Bool.false_or, true_and, beq_self_eq_true, Bool.true_or, Bool.or_true, Bool.not_true, Bool.not_false, Bool.false_xor, Bool.true_xor, wipeD, List.map_cons, List.map_nil, wTgs, CTs.len]); rw [ss_cons]; simp only [e_var, wV_some, wG_some, e_non, e_bl, e_int, e_str, e_glb, e_bin, e_neg, e_no, e_and, e_or, e_cmp, e_chn, e_ife, e_tup, e_lst, e_dnew, e_idx, e_slc, e_call, e_blt, e_mtd, e_isi, e_dis, e_rev, wRev, e_mnd, e_lrg, wMnd, wLrg, e_comp, wEs, wO, wT, wI, wS, wTg, wTgs, CTs.len, asB_bl, wBin, wCmp, wAdd, wSubX, wI2, wMul, wEq, wLt, wCI, wIs, DL.isNon, wNeg, wIdx, wSlc, wB, wLen, seqOf, lstOf, wIsi, tyOf, isTy, wM, wML, tyD, Mtd.ty, iAny, isSeqL, isSeqT, iRng, wSet, List.getElem?_cons_zero, List.getElem?_cons_succ, List.set_cons_zero, List.set_cons_succ, List.length_cons, List.length_nil, wAt_0, wAt_1, wAt_2, wAt_3, Nat.reduceAdd, ix30, ix31, ix32, up_at, Bool.false_eq_true, ↓reduceIte, decide_true, String.reduceBEq, Bool.and_false, Bool.false_and, Bool.or_false, Bool.false_or, true_and, beq_self_eq_true, Bool.true_or, Bool.or_true, Bool.not_true, Bool.not_false, Bool.false_xor, Bool.true_xor, wipeD, List.map_cons, List.map_nil, wTgs, CTs.len])
      ((try simp only [e_var, wV_some, wG_some, e_non, e_bl, e_int, e_str, e_glb, e_bin, e_neg, e_no, e_and, e_or, e_cmp, e_chn, e_ife, e_tup, e_lst, e_dnew, e_idx, e_slc, e_call, e_blt, e_mtd, e_isi, e_dis, e_rev, wRev, e_mnd, e_lrg, wMnd, wLrg, e_comp, wEs, wO, wT, wI, wS, wTg, wTgs, CTs.len, asB_bl, wBin, wCmp, wAdd, wSubX, wI2, wMul, wEq, wLt, wCI, wIs, DL.isNon, wNeg, wIdx, wSlc, wB, wLen, seqOf, lstOf, wIsi, tyOf, isTy, wM, wML, tyD, Mtd.ty, iAny, isSeqL, isSeqT, iRng, wSet, List.getElem?_cons_zero, List.getElem?_cons_succ, List.set_cons_zero, List.set_cons_succ, List.length_cons, List.length_nil, wAt_0, wAt_1, wAt_2, wAt_3, Nat.reduceAdd, ix30, ix31, ix32, up_at, Bool.false_eq_true, ↓reduceIte, decide_true, String.reduceBEq, Bool.and_false, Bool.false_and, Bool.or_false, Bool.false_or, true_and, beq_self_eq_true, Bool.true_or, Bool.or_true, Bool.not_true, Bool.not_false, Bool.false_xor, Bool.true_xor, wipeD, List.map_cons, List.map_nil, wTgs, CTs.len]); rw [ss_cons]; simp only [e_var, wV_some, wG_some, e_non, e_bl, e_int, e_str, e_glb, e_bin, e_neg, e_no, e_and, e_or, e_cmp, e_chn, e_ife, e_tup, e_lst, e_dnew, e_idx, e_slc, e_call, e_blt, e_mtd, e_isi, e_dis, e_rev, wRev, e_mnd, e_lrg, wMnd, wLrg, e_comp, wEs, wO, wT, wI, wS, wTg, wTgs, CTs.len, asB_bl, wBin, wCmp, wAdd, wSubX, wI2, wMul, wEq, wLt, wCI, wIs, DL.isNon, wNeg, wIdx, wSlc, wB, wLen, seqOf, lstOf, wIsi, tyOf, isTy, wM, wML, tyD, Mtd.ty, iAny, isSeqL, isSeqT, iRng, wSet, List.getElem?_cons_zero, List.getElem?_cons_succ, List.set_cons_zero, List.set_cons_succ, List.length_cons, List.length_nil, wAt_0, wAt_1, wAt_2, wAt_3, Nat.reduceAdd, ix30, ix31, ix32, up_at, Bool.false_eq_true, ↓reduceIte, decide_true, String.reduceBEq, Bool.and_false, Bool.false_and, Bool.or_false, Bool.false_or, true_and, beq_self_eq_true, Bool.true_or, Bool.or_true, Bool.not_true, Bool.not_false, Bool.false_xor, Bool.true_xor, wipeD, List.map_cons, List.map_nil, wTgs, CTs.len])
      have b0 : Bst A B i at' s R := by
        refine ⟨lR, fun m => ?_, fun y hy p hp _ => by have := gR y hy; omega, fun y hy => by have := gR y hy; omega, by omega⟩
        rw [mR m, inn_one]
        constructor
        · exact .inl
        · rintro (z | ⟨z, y, hy, w⟩)
          · exact z
          · obtain ⟨j, hj, ej⟩ := List.getElem_of_mem hy
            rw [List.length_take] at hj
            rw [List.getElem_take] at ej
            have := low j y (by omega) (by rw [← ej]; exact List.getElem?_eq_getElem (by omega))
            omega
      refine ⟨fun w s' h'' => ∃ (k : Nat) (R : List IP), s' = [some (.ref aA), some (.ref bA), some (.ref F), some (.int ((at' : Nat) : Int)), some (ipD s), some (.int ((k : Nat) : Int))] ∧ w = B.length - k ∧ at' ≤ k ∧ k ≤ B.length ∧ Ext h h'' ∧ h'' F = some (.lst (pL R)) ∧ Bst A B i k s R, ⟨_, at', R, rfl, rfl, Nat.le_refl _, la, x, eF, b0⟩, ?_⟩
      rintro w s' h3 ⟨k, R, rfl, rfl, ak, lk, x, eF, b⟩
      (try simp only [e_var, wV_some, wG_some, e_non, e_bl, e_int, e_str, e_glb, e_bin, e_neg, e_no, e_and, e_or, e_cmp, e_chn, e_ife, e_tup, e_lst, e_dnew, e_idx, e_slc, e_call, e_blt, e_mtd, e_isi, e_dis, e_rev, wRev, e_mnd, e_lrg, wMnd, wLrg, e_comp, wEs, wO, wT, wI, wS, wTg, wTgs, CTs.len, asB_bl, wBin, wCmp, wAdd, wSubX, wI2, wMul, wEq, wLt, wCI, wIs, DL.isNon, wNeg, wIdx, wSlc, wB, wLen, seqOf, lstOf, wIsi, tyOf, isTy, wM, wML, tyD, Mtd.ty, iAny, isSeqL, isSeqT, iRng, wSet, List.getElem?_cons_zero, List.getElem?_cons_succ, List.set_cons_zero, List.set_cons_succ, List.length_cons, List.length_nil, wAt_0, wAt_1, wAt_2, wAt_3, Nat.reduceAdd, ix30, ix31, ix32, up_at, Bool.false_eq_true, ↓reduceIte, decide_true, String.reduceBEq, Bool.and_false, Bool.false_and, Bool.or_false, Bool.false_or, true_and, beq_self_eq_true, Bool.true_or, Bool.or_true, Bool.not_true, Bool.not_false, Bool.false_xor, Bool.true_xor, wipeD, List.map_cons, List.map_nil, wTgs, CTs.len, x _ _ h2])
      rw [pL_len]
      -- the end of the second while
      have fin : (∀ t, B[k]? = some t → s.2 ≤ t.1) → ∃ a' x4 x5 R', [some (.ref aA), some (.ref bA), some (.ref F), some (.int ((at' : Nat) : Int)), some (ipD s), some (.int ((k : Nat) : Int))] = [some (.ref aA), some (.ref bA), some (.ref F), some (.int ((a' : Nat) : Int)), x4, x5] ∧ a' ≤ B.length ∧ Ext h h3 ∧ h3 F = some (.lst (pL R')) ∧ Lot R' ∧ (∀ m, inn R' m ↔ inn (A.take (i + 1)) m ∧ inn B m) ∧ R'.length ≤ (i + 1) * B.length ∧ (∀ (j : Nat) (y s : IP), j < a' → B[j]? = some y → A[i + 1]? = some s → y.2 ≤ s.1) ∧ (∀ x ∈ R', ∀ (s : IP), A[i + 1]? = some s → x.2 < s.1) := by
        intro over
        refine ⟨at', _, _, R, rfl, la, x, eF, b.l, fun m => ?_, ?_, fun j y s2 hj ey e2 => ?_, fun y hy s2 e2 => ?_⟩
        · rw [b.m m, List.take_add_one, es, inn_app, inn_one]
          have e1 : inn (some s).toList m ↔ s.1 ≤ m ∧ m < s.2 := inn_one
          rw [e1]
          constructor
          · rintro (z | ⟨z, y, hy, w⟩)
            · exact ⟨.inl z.1, z.2⟩
            · exact ⟨.inr z, y, List.mem_of_mem_take hy, w⟩
          · rintro ⟨z | z, y, hy, w⟩
            · exact .inl ⟨z, y, hy, w⟩
            · refine .inr ⟨z, y, ?_, w⟩
              obtain ⟨j, hj, ej⟩ := List.getElem_of_mem hy
              have jk : j < k := by
                refine Nat.not_le.mp fun q => ?_
                have hk : k < B.length := by omega
                have o := over B[k] (List.getElem?_eq_getElem hk)
                by_cases g : k = j
                · subst g
                  rw [ej] at o
                  omega
                · have := List.pairwise_iff_getElem.mp hB.ris k j hk hj (by omega)
                  have := hB.pos B[k] (List.getElem_mem hk)
                  rw [ej] at *
                  omega
              rw [← ej]
              exact List.mem_take_iff_getElem.mpr ⟨j, by omega, rfl⟩
        · have := b.n
          rw [Nat.add_mul]
          omega
        · have := low j y hj ey
          have := after s2 e2
          omega
        · have := b.e y hy
          have := after s2 e2
          omega
      refine dec_ite (fun g => ?_) fun g => ?_
      · have hk : k < B.length := by omega
        have et : B[k]? = some B[k] := List.getElem?_eq_getElem hk
        generalize B[k] = t at et
        have ep : (pL B)[k]? = some (ipD t) := by rw [pL_get, et]; rfl
        rw [wAt_nat (i := ((k : Nat) : Int)) (j := k) rfl ep]
        unfold ipD
        (try simp only [e_var, wV_some, wG_some, e_non, e_bl, e_int, e_str, e_glb, e_bin, e_neg, e_no, e_and, e_or, e_cmp, e_chn, e_ife, e_tup, e_lst, e_dnew, e_idx, e_slc, e_call, e_blt, e_mtd, e_isi, e_dis, e_rev, wRev, e_mnd, e_lrg, wMnd, wLrg, e_comp, wEs, wO, wT, wI, wS, wTg, wTgs, CTs.len, asB_bl, wBin, wCmp, wAdd, wSubX, wI2, wMul, wEq, wLt, wCI, wIs, DL.isNon, wNeg, wIdx, wSlc, wB, wLen, seqOf, lstOf, wIsi, tyOf, isTy, wM, wML, tyD, Mtd.ty, iAny, isSeqL, isSeqT, iRng, wSet, List.getElem?_cons_zero, List.getElem?_cons_succ, List.set_cons_zero, List.set_cons_succ, List.length_cons, List.length_nil, wAt_0, wAt_1, wAt_2, wAt_3, Nat.reduceAdd, ix30, ix31, ix32, up_at, Bool.false_eq_true, ↓reduceIte, decide_true, String.reduceBEq, Bool.and_false, Bool.false_and, Bool.or_false, Bool.false_or, true_and, beq_self_eq_true, Bool.true_or, Bool.or_true, Bool.not_true, Bool.not_false, Bool.false_xor, Bool.true_xor, wipeD, List.map_cons, List.map_nil, wTgs, CTs.len])
        refine dec_ite (fun g2 => ?_) fun g2 => ?_
        · have st2 : s.1 < t.2 := by
            by_cases q : k = at'
            · subst q
              exact up1 t et
            · have ha : at' < B.length := by omega
              have := up1 B[at'] (List.getElem?_eq_getElem ha)
              have := List.pairwise_iff_getElem.mp hB.ris at' k ha hk (by omega)
              rw [(List.getElem?_eq_some_iff.mp et).2] at this
              have := hB.pos t (List.mem_of_getElem? et)
              omega
          obtain ⟨lt, b2⟩ := b.step ps hB et st2 g2
          refine ⟨fun s' h'' => ∃ R, s' = [some (.ref aA), some (.ref bA), some (.ref F), some (.int ((at' : Nat) : Int)), some (.tup [.int s.1, .int s.2]), some (.int (((k + 1 : Nat) : Nat) : Int))] ∧ Ext h h'' ∧ h'' F = some (.lst (pL R)) ∧ Bst A B i (k + 1) s R, ?_, ?_⟩
          · rintro s' h4 ⟨R, rfl, x4, eF, b⟩
            exact ⟨B.length - (k + 1), by omega, k + 1, R, rfl, rfl, by omega, by omega, x4, eF, b⟩
          · have nn := b.n
            have sm : R.length ≤ 2000000 := by
              have : i * B.length ≤ 1000 * 1000 := Nat.mul_le_mul (by omega) lB
              omega
            ((try simp only [e_var, wV_some, wG_some, e_non, e_bl, e_int, e_str, e_glb, e_bin, e_neg, e_no, e_and, e_or, e_cmp, e_chn, e_ife, e_tup, e_lst, e_dnew, e_idx, e_slc, e_call, e_blt, e_mtd, e_isi, e_dis, e_rev, wRev, e_mnd, e_lrg, wMnd, wLrg, e_comp, wEs, wO, wT, wI, wS, wTg, wTgs, CTs.len, asB_bl, wBin, wCmp, wAdd, wSubX, wI2, wMul, wEq, wLt, wCI, wIs, DL.isNon, wNeg, wIdx, wSlc, wB, wLen, seqOf, lstOf, wIsi, tyOf, isTy, wM, wML, tyD, Mtd.ty, iAny, isSeqL, isSeqT, iRng, wSet, List.getElem?_cons_zero, List.getElem?_cons_succ, List.set_cons_zero, List.set_cons_succ, List.length_cons, List.length_nil, wAt_0, wAt_1, wAt_2, wAt_3, Nat.reduceAdd, ix30, ix31, ix32, up_at, Bool.false_eq_true, ↓reduceIte, decide_true, String.reduceBEq, Bool.and_false, Bool.false_and, Bool.or_false, Bool.false_or, true_and, beq_self_eq_true, Bool.true_or, Bool.or_true, Bool.not_true, Bool.not_false, Bool.false_xor, Bool.true_xor, wipeD, List.map_cons, List.map_nil, wTgs, CTs.len]); rw [ss_cons]; simp only [e_var, wV_some, wG_some, e_non, e_bl, e_int, e_str, e_glb, e_bin, e_neg, e_no, e_and, e_or, e_cmp, e_chn, e_ife, e_tup, e_lst, e_dnew, e_idx, e_slc, e_call, e_blt, e_mtd, e_isi, e_dis, e_rev, wRev, e_mnd, e_lrg, wMnd, wLrg, e_comp, wEs, wO, wT, wI, wS, wTg, wTgs, CTs.len, asB_bl, wBin, wCmp, wAdd, wSubX, wI2, wMul, wEq, wLt, wCI, wIs, DL.isNon, wNeg, wIdx, wSlc, wB, wLen, seqOf, lstOf, wIsi, tyOf, isTy, wM, wML, tyD, Mtd.ty, iAny, isSeqL, isSeqT, iRng, wSet, List.getElem?_cons_zero, List.getElem?_cons_succ, List.set_cons_zero, List.set_cons_succ, List.length_cons, List.length_nil, wAt_0, wAt_1, wAt_2, wAt_3, Nat.reduceAdd, ix30, ix31, ix32, up_at, Bool.false_eq_true, ↓reduceIte, decide_true, String.reduceBEq, Bool.and_false, Bool.false_and, Bool.or_false, Bool.false_or, true_and, beq_self_eq_true, Bool.true_or, Bool.or_true, Bool.not_true, Bool.not_false, Bool.false_xor, Bool.true_xor, wipeD, List.map_cons, List.map_nil, wTgs, CTs.len, x _ _ h2, eF])
            rw [wAt_nat (i := ((k : Nat) : Int)) (j := k) rfl ep]
            refine common lt ?_
            (try simp only [e_var, wV_some, wG_some, e_non, e_bl, e_int, e_str, e_glb, e_bin, e_neg, e_no, e_and, e_or, e_cmp, e_chn, e_ife, e_tup, e_lst, e_dnew, e_idx, e_slc, e_call, e_blt, e_mtd, e_isi, e_dis, e_rev, wRev, e_mnd, e_lrg, wMnd, wLrg, e_comp, wEs, wO, wT, wI, wS, wTg, wTgs, CTs.len, asB_bl, wBin, wCmp, wAdd, wSubX, wI2, wMul, wEq, wLt, wCI, wIs, DL.isNon, wNeg, wIdx, wSlc, wB, wLen, seqOf, lstOf, wIsi, tyOf, isTy, wM, wML, tyD, Mtd.ty, iAny, isSeqL, isSeqT, iRng, wSet, List.getElem?_cons_zero, List.getElem?_cons_succ, List.set_cons_zero, List.set_cons_succ, List.length_cons, List.length_nil, wAt_0, wAt_1, wAt_2, wAt_3, Nat.reduceAdd, ix30, ix31, ix32, up_at, Bool.false_eq_true, ↓reduceIte, decide_true, String.reduceBEq, Bool.and_false, Bool.false_and, Bool.or_false, Bool.false_or, true_and, beq_self_eq_true, Bool.true_or, Bool.or_true, Bool.not_true, Bool.not_false, Bool.false_xor, Bool.true_xor, wipeD, List.map_cons, List.map_nil, wTgs, CTs.len, eF])
            rw [pL_len]
            refine ⟨by omega, ?_⟩
            ((try simp only [e_var, wV_some, wG_some, e_non, e_bl, e_int, e_str, e_glb, e_bin, e_neg, e_no, e_and, e_or, e_cmp, e_chn, e_ife, e_tup, e_lst, e_dnew, e_idx, e_slc, e_call, e_blt, e_mtd, e_isi, e_dis, e_rev, wRev, e_mnd, e_lrg, wMnd, wLrg, e_comp, wEs, wO, wT, wI, wS, wTg, wTgs, CTs.len, asB_bl, wBin, wCmp, wAdd, wSubX, wI2, wMul, wEq, wLt, wCI, wIs, DL.isNon, wNeg, wIdx, wSlc, wB, wLen, seqOf, lstOf, wIsi, tyOf, isTy, wM, wML, tyD, Mtd.ty, iAny, isSeqL, isSeqT, iRng, wSet, List.getElem?_cons_zero, List.getElem?_cons_succ, List.set_cons_zero, List.set_cons_succ, List.length_cons, List.length_nil, wAt_0, wAt_1, wAt_2, wAt_3, Nat.reduceAdd, ix30, ix31, ix32, up_at, Bool.false_eq_true, ↓reduceIte, decide_true, String.reduceBEq, Bool.and_false, Bool.false_and, Bool.or_false, Bool.false_or, true_and, beq_self_eq_true, Bool.true_or, Bool.or_true, Bool.not_true, Bool.not_false, Bool.false_xor, Bool.true_xor, wipeD, List.map_cons, List.map_nil, wTgs, CTs.len]); rw [ss_cons]; simp only [e_var, wV_some, wG_some, e_non, e_bl, e_int, e_str, e_glb, e_bin, e_neg, e_no, e_and, e_or, e_cmp, e_chn, e_ife, e_tup, e_lst, e_dnew, e_idx, e_slc, e_call, e_blt, e_mtd, e_isi, e_dis, e_rev, wRev, e_mnd, e_lrg, wMnd, wLrg, e_comp, wEs, wO, wT, wI, wS, wTg, wTgs, CTs.len, asB_bl, wBin, wCmp, wAdd, wSubX, wI2, wMul, wEq, wLt, wCI, wIs, DL.isNon, wNeg, wIdx, wSlc, wB, wLen, seqOf, lstOf, wIsi, tyOf, isTy, wM, wML, tyD, Mtd.ty, iAny, isSeqL, isSeqT, iRng, wSet, List.getElem?_cons_zero, List.getElem?_cons_succ, List.set_cons_zero, List.set_cons_succ, List.length_cons, List.length_nil, wAt_0, wAt_1, wAt_2, wAt_3, Nat.reduceAdd, ix30, ix31, ix32, up_at, Bool.false_eq_true, ↓reduceIte, decide_true, String.reduceBEq, Bool.and_false, Bool.false_and, Bool.or_false, Bool.false_or, true_and, beq_self_eq_true, Bool.true_or, Bool.or_true, Bool.not_true, Bool.not_false, Bool.false_xor, Bool.true_xor, wipeD, List.map_cons, List.map_nil, wTgs, CTs.len])
            ((try simp only [e_var, wV_some, wG_some, e_non, e_bl, e_int, e_str, e_glb, e_bin, e_neg, e_no, e_and, e_or, e_cmp, e_chn, e_ife, e_tup, e_lst, e_dnew, e_idx, e_slc, e_call, e_blt, e_mtd, e_isi, e_dis, e_rev, wRev, e_mnd, e_lrg, wMnd, wLrg, e_comp, wEs, wO, wT, wI, wS, wTg, wTgs, CTs.len, asB_bl, wBin, wCmp, wAdd, wSubX, wI2, wMul, wEq, wLt, wCI, wIs, DL.isNon, wNeg, wIdx, wSlc, wB, wLen, seqOf, lstOf, wIsi, tyOf, isTy, wM, wML, tyD, Mtd.ty, iAny, isSeqL, isSeqT, iRng, wSet, List.getElem?_cons_zero, List.getElem?_cons_succ, List.set_cons_zero, List.set_cons_succ, List.length_cons, List.length_nil, wAt_0, wAt_1, wAt_2, wAt_3, Nat.reduceAdd, ix30, ix31, ix32, up_at, Bool.false_eq_true, ↓reduceIte, decide_true, String.reduceBEq, Bool.and_false, Bool.false_and, Bool.or_false, Bool.false_or, true_and, beq_self_eq_true, Bool.true_or, Bool.or_true, Bool.not_true, Bool.not_false, Bool.false_xor, Bool.true_xor, wipeD, List.map_cons, List.map_nil, wTgs, CTs.len]); rw [ss_nil])
            refine ⟨_, ?_, x.fresh nF, by rw [up_at, pL_app]; rfl, b2⟩
            rfl
        · ((try simp only [e_var, wV_some, wG_some, e_non, e_bl, e_int, e_str, e_glb, e_bin, e_neg, e_no, e_and, e_or, e_cmp, e_chn, e_ife, e_tup, e_lst, e_dnew, e_idx, e_slc, e_call, e_blt, e_mtd, e_isi, e_dis, e_rev, wRev, e_mnd, e_lrg, wMnd, wLrg, e_comp, wEs, wO, wT, wI, wS, wTg, wTgs, CTs.len, asB_bl, wBin, wCmp, wAdd, wSubX, wI2, wMul, wEq, wLt, wCI, wIs, DL.isNon, wNeg, wIdx, wSlc, wB, wLen, seqOf, lstOf, wIsi, tyOf, isTy, wM, wML, tyD, Mtd.ty, iAny, isSeqL, isSeqT, iRng, wSet, List.getElem?_cons_zero, List.getElem?_cons_succ, List.set_cons_zero, List.set_cons_succ, List.length_cons, List.length_nil, wAt_0, wAt_1, wAt_2, wAt_3, Nat.reduceAdd, ix30, ix31, ix32, up_at, Bool.false_eq_true, ↓reduceIte, decide_true, String.reduceBEq, Bool.and_false, Bool.false_and, Bool.or_false, Bool.false_or, true_and, beq_self_eq_true, Bool.true_or, Bool.or_true, Bool.not_true, Bool.not_false, Bool.false_xor, Bool.true_xor, wipeD, List.map_cons, List.map_nil, wTgs, CTs.len]); rw [ss_nil])
          exact fin fun t' et' => by
            rw [et] at et'
            cases et'
            omega
      · ((try simp only [e_var, wV_some, wG_some, e_non, e_bl, e_int, e_str, e_glb, e_bin, e_neg, e_no, e_and, e_or, e_cmp, e_chn, e_ife, e_tup, e_lst, e_dnew, e_idx, e_slc, e_call, e_blt, e_mtd, e_isi, e_dis, e_rev, wRev, e_mnd, e_lrg, wMnd, wLrg, e_comp, wEs, wO, wT, wI, wS, wTg, wTgs, CTs.len, asB_bl, wBin, wCmp, wAdd, wSubX, wI2, wMul, wEq, wLt, wCI, wIs, DL.isNon, wNeg, wIdx, wSlc, wB, wLen, seqOf, lstOf, wIsi, tyOf, isTy, wM, wML, tyD, Mtd.ty, iAny, isSeqL, isSeqT, iRng, wSet, List.getElem?_cons_zero, List.getElem?_cons_succ, List.set_cons_zero, List.set_cons_succ, List.length_cons, List.length_nil, wAt_0, wAt_1, wAt_2, wAt_3, Nat.reduceAdd, ix30, ix31, ix32, up_at, Bool.false_eq_true, ↓reduceIte, decide_true, String.reduceBEq, Bool.and_false, Bool.false_and, Bool.or_false, Bool.false_or, true_and, beq_self_eq_true, Bool.true_or, Bool.or_true, Bool.not_true, Bool.not_false, Bool.false_xor, Bool.true_xor, wipeD, List.map_cons, List.map_nil, wTgs, CTs.len]); rw [ss_nil])
        exact fin fun t et => by
          have := (List.getElem?_eq_some_iff.mp et).1
          omega
    refine dec_ite (fun g => ?_) fun g => ?_
    · have hk : at' < B.length := by omega
      have et : B[at']? = some B[at'] := List.getElem?_eq_getElem hk
      generalize B[at'] = t at et
      have ep : (pL B)[at']? = some (ipD t) := by rw [pL_get, et]; rfl
      rw [wAt_nat (i := ((at' : Nat) : Int)) (j := at') rfl ep]
      unfold ipD
      (try simp only [e_var, wV_some, wG_some, e_non, e_bl, e_int, e_str, e_glb, e_bin, e_neg, e_no, e_and, e_or, e_cmp, e_chn, e_ife, e_tup, e_lst, e_dnew, e_idx, e_slc, e_call, e_blt, e_mtd, e_isi, e_dis, e_rev, wRev, e_mnd, e_lrg, wMnd, wLrg, e_comp, wEs, wO, wT, wI, wS, wTg, wTgs, CTs.len, asB_bl, wBin, wCmp, wAdd, wSubX, wI2, wMul, wEq, wLt, wCI, wIs, DL.isNon, wNeg, wIdx, wSlc, wB, wLen, seqOf, lstOf, wIsi, tyOf, isTy, wM, wML, tyD, Mtd.ty, iAny, isSeqL, isSeqT, iRng, wSet, List.getElem?_cons_zero, List.getElem?_cons_succ, List.set_cons_zero, List.set_cons_succ, List.length_cons, List.length_nil, wAt_0, wAt_1, wAt_2, wAt_3, Nat.reduceAdd, ix30, ix31, ix32, up_at, Bool.false_eq_true, ↓reduceIte, decide_true, String.reduceBEq, Bool.and_false, Bool.false_and, Bool.or_false, Bool.false_or, true_and, beq_self_eq_true, Bool.true_or, Bool.or_true, Bool.not_true, Bool.not_false, Bool.false_xor, Bool.true_xor, wipeD, List.map_cons, List.map_nil, wTgs, CTs.len])
      refine dec_ite (fun g2 => ?_) fun g2 => ?_
      · refine ⟨fun s' h3 => s' = [some (.ref aA), some (.ref bA), some (.ref F), some (.int (((at' + 1 : Nat) : Nat) : Int)), some (.tup [.int s.1, .int s.2]), x5] ∧ h3 = h'', ?_, ?_⟩
        · rintro s' h3 ⟨rfl, rfl⟩
          refine ⟨B.length - (at' + 1), by omega, at' + 1, rfl, rfl, by omega, x, eF, fun j y hj ey => ?_⟩
          by_cases q : j = at'
          · subst q
            rw [et] at ey
            cases ey
            exact g2
          · exact low j y (by omega) ey
        · ((try simp only [e_var, wV_some, wG_some, e_non, e_bl, e_int, e_str, e_glb, e_bin, e_neg, e_no, e_and, e_or, e_cmp, e_chn, e_ife, e_tup, e_lst, e_dnew, e_idx, e_slc, e_call, e_blt, e_mtd, e_isi, e_dis, e_rev, wRev, e_mnd, e_lrg, wMnd, wLrg, e_comp, wEs, wO, wT, wI, wS, wTg, wTgs, CTs.len, asB_bl, wBin, wCmp, wAdd, wSubX, wI2, wMul, wEq, wLt, wCI, wIs, DL.isNon, wNeg, wIdx, wSlc, wB, wLen, seqOf, lstOf, wIsi, tyOf, isTy, wM, wML, tyD, Mtd.ty, iAny, isSeqL, isSeqT, iRng, wSet, List.getElem?_cons_zero, List.getElem?_cons_succ, List.set_cons_zero, List.set_cons_succ, List.length_cons, List.length_nil, wAt_0, wAt_1, wAt_2, wAt_3, Nat.reduceAdd, ix30, ix31, ix32, up_at, Bool.false_eq_true, ↓reduceIte, decide_true, String.reduceBEq, Bool.and_false, Bool.false_and, Bool.or_false, Bool.false_or, true_and, beq_self_eq_true, Bool.true_or, Bool.or_true, Bool.not_true, Bool.not_false, Bool.false_xor, Bool.true_xor, wipeD, List.map_cons, List.map_nil, wTgs, CTs.len]); rw [ss_cons]; simp only [e_var, wV_some, wG_some, e_non, e_bl, e_int, e_str, e_glb, e_bin, e_neg, e_no, e_and, e_or, e_cmp, e_chn, e_ife, e_tup, e_lst, e_dnew, e_idx, e_slc, e_call, e_blt, e_mtd, e_isi, e_dis, e_rev, wRev, e_mnd, e_lrg, wMnd, wLrg, e_comp, wEs, wO, wT, wI, wS, wTg, wTgs, CTs.len, asB_bl, wBin, wCmp, wAdd, wSubX, wI2, wMul, wEq, wLt, wCI, wIs, DL.isNon, wNeg, wIdx, wSlc, wB, wLen, seqOf, lstOf, wIsi, tyOf, isTy, wM, wML, tyD, Mtd.ty, iAny, isSeqL, isSeqT, iRng, wSet, List.getElem?_cons_zero, List.getElem?_cons_succ, List.set_cons_zero, List.set_cons_succ, List.length_cons, List.length_nil, wAt_0, wAt_1, wAt_2, wAt_3, Nat.reduceAdd, ix30, ix31, ix32, up_at, Bool.false_eq_true, ↓reduceIte, decide_true, String.reduceBEq, Bool.and_false, Bool.false_and, Bool.or_false, Bool.false_or, true_and, beq_self_eq_true, Bool.true_or, Bool.or_true, Bool.not_true, Bool.not_false, Bool.false_xor, Bool.true_xor, wipeD, List.map_cons, List.map_nil, wTgs, CTs.len])
          ((try simp only [e_var, wV_some, wG_some, e_non, e_bl, e_int, e_str, e_glb, e_bin, e_neg, e_no, e_and, e_or, e_cmp, e_chn, e_ife, e_tup, e_lst, e_dnew, e_idx, e_slc, e_call, e_blt, e_mtd, e_isi, e_dis, e_rev, wRev, e_mnd, e_lrg, wMnd, wLrg, e_comp, wEs, wO, wT, wI, wS, wTg, wTgs, CTs.len, asB_bl, wBin, wCmp, wAdd, wSubX, wI2, wMul, wEq, wLt, wCI, wIs, DL.isNon, wNeg, wIdx, wSlc, wB, wLen, seqOf, lstOf, wIsi, tyOf, isTy, wM, wML, tyD, Mtd.ty, iAny, isSeqL, isSeqT, iRng, wSet, List.getElem?_cons_zero, List.getElem?_cons_succ, List.set_cons_zero, List.set_cons_succ, List.length_cons, List.length_nil, wAt_0, wAt_1, wAt_2, wAt_3, Nat.reduceAdd, ix30, ix31, ix32, up_at, Bool.false_eq_true, ↓reduceIte, decide_true, String.reduceBEq, Bool.and_false, Bool.false_and, Bool.or_false, Bool.false_or, true_and, beq_self_eq_true, Bool.true_or, Bool.or_true, Bool.not_true, Bool.not_false, Bool.false_xor, Bool.true_xor, wipeD, List.map_cons, List.map_nil, wTgs, CTs.len]); rw [ss_nil])
          first
            | exact ⟨rfl, rfl⟩
            | rfl
      · exact second fun t' et' => by
          rw [et] at et'
          cases et'
          omega
    · exact second fun t et => by
        have := (List.getElem?_eq_some_iff.mp et).1
        omega
  · rintro s h' ⟨at', x4, x5, R, rfl, la, x, eF, lR, mR, nR, low, gR⟩
    rw [pL_len, List.take_length] at *
    ((try simp only [e_var, wV_some, wG_some, e_non, e_bl, e_int, e_str, e_glb, e_bin, e_neg, e_no, e_and, e_or, e_cmp, e_chn, e_ife, e_tup, e_lst, e_dnew, e_idx, e_slc, e_call, e_blt, e_mtd, e_isi, e_dis, e_rev, wRev, e_mnd, e_lrg, wMnd, wLrg, e_comp, wEs, wO, wT, wI, wS, wTg, wTgs, CTs.len, asB_bl, wBin, wCmp, wAdd, wSubX, wI2, wMul, wEq, wLt, wCI, wIs, DL.isNon, wNeg, wIdx, wSlc, wB, wLen, seqOf, lstOf, wIsi, tyOf, isTy, wM, wML, tyD, Mtd.ty, iAny, isSeqL, isSeqT, iRng, wSet, List.getElem?_cons_zero, List.getElem?_cons_succ, List.set_cons_zero, List.set_cons_succ, List.length_cons, List.length_nil, wAt_0, wAt_1, wAt_2, wAt_3, Nat.reduceAdd, ix30, ix31, ix32, up_at, Bool.false_eq_true, ↓reduceIte, decide_true, String.reduceBEq, Bool.and_false, Bool.false_and, Bool.or_false, Bool.false_or, true_and, beq_self_eq_true, Bool.true_or, Bool.or_true, Bool.not_true, Bool.not_false, Bool.false_xor, Bool.true_xor, wipeD, List.map_cons, List.map_nil, wTgs, CTs.len]); rw [ss_cons]; simp only [e_var, wV_some, wG_some, e_non, e_bl, e_int, e_str, e_glb, e_bin, e_neg, e_no, e_and, e_or, e_cmp, e_chn, e_ife, e_tup, e_lst, e_dnew, e_idx, e_slc, e_call, e_blt, e_mtd, e_isi, e_dis, e_rev, wRev, e_mnd, e_lrg, wMnd, wLrg, e_comp, wEs, wO, wT, wI, wS, wTg, wTgs, CTs.len, asB_bl, wBin, wCmp, wAdd, wSubX, wI2, wMul, wEq, wLt, wCI, wIs, DL.isNon, wNeg, wIdx, wSlc, wB, wLen, seqOf, lstOf, wIsi, tyOf, isTy, wM, wML, tyD, Mtd.ty, iAny, isSeqL, isSeqT, iRng, wSet, List.getElem?_cons_zero, List.getElem?_cons_succ, List.set_cons_zero, List.set_cons_succ, List.length_cons, List.length_nil, wAt_0, wAt_1, wAt_2, wAt_3, Nat.reduceAdd, ix30, ix31, ix32, up_at, Bool.false_eq_true, ↓reduceIte, decide_true, String.reduceBEq, Bool.and_false, Bool.false_and, Bool.or_false, Bool.false_or, true_and, beq_self_eq_true, Bool.true_or, Bool.or_true, Bool.not_true, Bool.not_false, Bool.false_xor, Bool.true_xor, wipeD, List.map_cons, List.map_nil, wTgs, CTs.len])
    exact q F R h' nF x eF ⟨lR, mR⟩ nR
end
end Qk04

namespace Qk04
open PySem DL L2
theorem mx (i j : Int) : (if j > i then j else i) = max i j := by split <;> omega
theorem mn (i j : Int) : (if j < i then j else i) = min i j := by split <;> omega
section
variable {n : Nat} {h : DH} {Q : QD} {E : XD}
def Arnd (L : List IP) (fi be : Int) (R : List IP) : Prop := Lot R ∧ ∀ m, inn R m ↔ fi ≤ m ∧ m < be ∧ ¬ inn L m
structure Ast (L : List IP) (fi be : Int) (i : Nat) (he : Int) (R : List IP) : Prop where
  l : Lot R
  m : ∀ m, inn R m ↔ fi ≤ m ∧ m < he ∧ ¬ inn L m
  e : ∀ x ∈ R, x.2 < he
  f : fi ≤ he ∧ he < be
  i1 : he = fi ∨ ∀ y ∈ L.drop i, he < y.1
  i2 : ∀ y ∈ L.take i, y.2 ≤ he
  n : R.length ≤ i
theorem around {aL : Addr} {L : List IP} {fi be : Int} (hL : Lot L) (lL : L.length ≤ 100000) (fb : fi < be) (h1 : h aL = some (.lst (pL L)))
    (q : ∀ F R h2, h F = none → Ext h h2 → h2 F = some (.lst (pL R)) → Arnd L fi be R → R.length ≤ L.length + 1 → Q (.ref F) h2) : run gl ds (n + 1) 2 [.ref aL, .int fi, .int be] h Q E := by
  refine e2 ?_
  ((try simp only [e_var, wV_some, wG_some, e_non, e_bl, e_int, e_str, e_glb, e_bin, e_neg, e_no, e_and, e_or, e_cmp, e_chn, e_ife, e_tup, e_lst, e_dnew, e_idx, e_slc, e_call, e_blt, e_mtd, e_isi, e_dis, e_rev, wRev, e_mnd, e_lrg, wMnd, wLrg, e_comp, wEs, wO, wT, wI, wS, wTg, wTgs, CTs.len, asB_bl, wBin, wCmp, wAdd, wSubX, wI2, wMul, wEq, wLt, wCI, wIs, DL.isNon, wNeg, wIdx, wSlc, wB, wLen, seqOf, lstOf, wIsi, tyOf, isTy, wM, wML, tyD, Mtd.ty, iAny, isSeqL, isSeqT, iRng, wSet, List.getElem?_cons_zero, List.getElem?_cons_succ, List.set_cons_zero, List.set_cons_succ, List.length_cons, List.length_nil, wAt_0, wAt_1, wAt_2, wAt_3, Nat.reduceAdd, ix30, ix31, ix32, up_at, Bool.false_eq_true, ↓reduceIte, decide_true, String.reduceBEq, Bool.and_false, Bool.false_and, Bool.or_false, Bool.false_or, true_and, beq_self_eq_true, Bool.true_or, Bool.or_true, Bool.not_true, Bool.not_false, Bool.false_xor, Bool.true_xor, wipeD, List.map_cons, List.map_nil, wTgs, CTs.len]); rw [ss_cons]; simp only [e_var, wV_some, wG_some, e_non, e_bl, e_int, e_str, e_glb, e_bin, e_neg, e_no, e_and, e_or, e_cmp, e_chn, e_ife, e_tup, e_lst, e_dnew, e_idx, e_slc, e_call, e_blt, e_mtd, e_isi, e_dis, e_rev, wRev, e_mnd, e_lrg, wMnd, wLrg, e_comp, wEs, wO, wT, wI, wS, wTg, wTgs, CTs.len, asB_bl, wBin, wCmp, wAdd, wSubX, wI2, wMul, wEq, wLt, wCI, wIs, DL.isNon, wNeg, wIdx, wSlc, wB, wLen, seqOf, lstOf, wIsi, tyOf, isTy, wM, wML, tyD, Mtd.ty, iAny, isSeqL, isSeqT, iRng, wSet, List.getElem?_cons_zero, List.getElem?_cons_succ, List.set_cons_zero, List.set_cons_succ, List.length_cons, List.length_nil, wAt_0, wAt_1, wAt_2, wAt_3, Nat.reduceAdd, ix30, ix31, ix32, up_at, Bool.false_eq_true, ↓reduceIte, decide_true, String.reduceBEq, Bool.and_false, Bool.false_and, Bool.or_false, Bool.false_or, true_and, beq_self_eq_true, Bool.true_or, Bool.or_true, Bool.not_true, Bool.not_false, Bool.false_xor, Bool.true_xor, wipeD, List.map_cons, List.map_nil, wTgs, CTs.len])
  refine ⟨by omega, fun F nF => ?_⟩
  have eF : up h F (.lst []) F = some (.lst (pL [])) := up_at
  have y0 := Ext.new (o := .lst []) nF
  have n1 : aL ≠ F := Ext.isnew nF h1
  generalize up h F (.lst []) = h0 at *
  ((try simp only [e_var, wV_some, wG_some, e_non, e_bl, e_int, e_str, e_glb, e_bin, e_neg, e_no, e_and, e_or, e_cmp, e_chn, e_ife, e_tup, e_lst, e_dnew, e_idx, e_slc, e_call, e_blt, e_mtd, e_isi, e_dis, e_rev, wRev, e_mnd, e_lrg, wMnd, wLrg, e_comp, wEs, wO, wT, wI, wS, wTg, wTgs, CTs.len, asB_bl, wBin, wCmp, wAdd, wSubX, wI2, wMul, wEq, wLt, wCI, wIs, DL.isNon, wNeg, wIdx, wSlc, wB, wLen, seqOf, lstOf, wIsi, tyOf, isTy, wM, wML, tyD, Mtd.ty, iAny, isSeqL, isSeqT, iRng, wSet, List.getElem?_cons_zero, List.getElem?_cons_succ, List.set_cons_zero, List.set_cons_succ, List.length_cons, List.length_nil, wAt_0, wAt_1, wAt_2, wAt_3, Nat.reduceAdd, ix30, ix31, ix32, up_at, Bool.false_eq_true, ↓reduceIte, decide_true, String.reduceBEq, Bool.and_false, Bool.false_and, Bool.or_false, Bool.false_or, true_and, beq_self_eq_true, Bool.true_or, Bool.or_true, Bool.not_true, Bool.not_false, Bool.false_xor, Bool.true_xor, wipeD, List.map_cons, List.map_nil, wTgs, CTs.len]); rw [ss_cons]; simp only [e_var, wV_some, wG_some, e_non, e_bl, e_int, e_str, e_glb, e_bin, e_neg, e_no, e_and, e_or, e_cmp, e_chn, e_ife, e_tup, e_lst, e_dnew, e_idx, e_slc, e_call, e_blt, e_mtd, e_isi, e_dis, e_rev, wRev, e_mnd, e_lrg, wMnd, wLrg, e_comp, wEs, wO, wT, wI, wS, wTg, wTgs, CTs.len, asB_bl, wBin, wCmp, wAdd, wSubX, wI2, wMul, wEq, wLt, wCI, wIs, DL.isNon, wNeg, wIdx, wSlc, wB, wLen, seqOf, lstOf, wIsi, tyOf, isTy, wM, wML, tyD, Mtd.ty, iAny, isSeqL, isSeqT, iRng, wSet, List.getElem?_cons_zero, List.getElem?_cons_succ, List.set_cons_zero, List.set_cons_succ, List.length_cons, List.length_nil, wAt_0, wAt_1, wAt_2, wAt_3, Nat.reduceAdd, ix30, ix31, ix32, up_at, Bool.false_eq_true, ↓reduceIte, decide_true, String.reduceBEq, Bool.and_false, Bool.false_and, Bool.or_false, Bool.false_or, true_and, beq_self_eq_true, Bool.true_or, Bool.or_true, Bool.not_true, Bool.not_false, Bool.false_xor, Bool.true_xor, wipeD, List.map_cons, List.map_nil, wTgs, CTs.len])
  ((try simp only [e_var, wV_some, wG_some, e_non, e_bl, e_int, e_str, e_glb, e_bin, e_neg, e_no, e_and, e_or, e_cmp, e_chn, e_ife, e_tup, e_lst, e_dnew, e_idx, e_slc, e_call, e_blt, e_mtd, e_isi, e_dis, e_rev, wRev, e_mnd, e_lrg, wMnd, wLrg, e_comp, wEs, wO, wT, wI, wS, wTg, wTgs, CTs.len, asB_bl, wBin, wCmp, wAdd, wSubX, wI2, wMul, wEq, wLt, wCI, wIs, DL.isNon, wNeg, wIdx, wSlc, wB, wLen, seqOf, lstOf, wIsi, tyOf, isTy, wM, wML, tyD, Mtd.ty, iAny, isSeqL, isSeqT, iRng, wSet, List.getElem?_cons_zero, List.getElem?_cons_succ, List.set_cons_zero, List.set_cons_succ, List.length_cons, List.length_nil, wAt_0, wAt_1, wAt_2, wAt_3, Nat.reduceAdd, ix30, ix31, ix32, up_at, Bool.false_eq_true, ↓reduceIte, decide_true, String.reduceBEq, Bool.and_false, Bool.false_and, Bool.or_false, Bool.false_or, true_and, beq_self_eq_true, Bool.true_or, Bool.or_true, Bool.not_true, Bool.not_false, Bool.false_xor, Bool.true_xor, wipeD, List.map_cons, List.map_nil, wTgs, CTs.len]); rw [ss_cons]; simp only [e_var, wV_some, wG_some, e_non, e_bl, e_int, e_str, e_glb, e_bin, e_neg, e_no, e_and, e_or, e_cmp, e_chn, e_ife, e_tup, e_lst, e_dnew, e_idx, e_slc, e_call, e_blt, e_mtd, e_isi, e_dis, e_rev, wRev, e_mnd, e_lrg, wMnd, wLrg, e_comp, wEs, wO, wT, wI, wS, wTg, wTgs, CTs.len, asB_bl, wBin, wCmp, wAdd, wSubX, wI2, wMul, wEq, wLt, wCI, wIs, DL.isNon, wNeg, wIdx, wSlc, wB, wLen, seqOf, lstOf, wIsi, tyOf, isTy, wM, wML, tyD, Mtd.ty, iAny, isSeqL, isSeqT, iRng, wSet, List.getElem?_cons_zero, List.getElem?_cons_succ, List.set_cons_zero, List.set_cons_succ, List.length_cons, List.length_nil, wAt_0, wAt_1, wAt_2, wAt_3, Nat.reduceAdd, ix30, ix31, ix32, up_at, Bool.false_eq_true, ↓reduceIte, decide_true, String.reduceBEq, Bool.and_false, Bool.false_and, Bool.or_false, Bool.false_or, true_and, beq_self_eq_true, Bool.true_or, Bool.or_true, Bool.not_true, Bool.not_false, Bool.false_xor, Bool.true_xor, wipeD, List.map_cons, List.map_nil, wTgs, CTs.len, y0 _ _ h1])
  refine loop_lst (a := aL) (xs := pL L) (fun i s h' => ∃ he x5 R, s = [some (.ref aL), some (.int fi), some (.int be), some (.ref F), some (.int he), x5] ∧ Ext h h' ∧ h' F = some (.lst (pL R)) ∧ Ast L fi be i he R)
    ⟨fi, _, [], rfl, y0, eF, ⟨⟨by simp, List.Pairwise.nil⟩, fun m => ⟨fun z => absurd z inn_nil, fun z => by omega⟩, by simp, ⟨Int.le_refl _, fb⟩, .inl rfl, by simp, by simp⟩⟩ (fun _ _ _ ⟨_, _, _, _, x, _⟩ => x _ _ h1) ?_ ?_
  · rintro i d s h' hd ⟨he, x5, R, rfl, x, eF, b⟩
    obtain ⟨s, es, rfl⟩ := pL_mem hd
    have ms := List.mem_of_getElem? es
    have ps := hL.pos s ms
    obtain ⟨hi, ei⟩ := List.getElem?_eq_some_iff.mp es
    have later : ∀ y ∈ L.drop (i + 1), s.2 < y.1 := fun y hy => by
      obtain ⟨j, hj, ej⟩ := List.getElem_of_mem hy
      rw [List.length_drop] at hj
      rw [List.getElem_drop] at ej
      have := List.pairwise_iff_getElem.mp hL.ris i (i + 1 + j) hi (by omega) (by omega)
      rw [ei, ej] at this
      exact this
    have split : ∀ y ∈ L, y ∈ L.take i ∨ y = s ∨ y ∈ L.drop (i + 1) := fun y hy => by
      have : L = L.take i ++ s :: L.drop (i + 1) := by
        rw [← ei, List.getElem_cons_drop, List.take_append_drop]
      rw [this] at hy
      rcases List.mem_append.mp hy with z | z
      · exact .inl z
      · rcases List.mem_cons.mp z with z | z
        · exact .inr (.inl z)
        · exact .inr (.inr z)
    -- not in the lot between here and the stretch
    have gap : ∀ m, he ≤ m → m < s.1 → ¬ inn L m := fun m m1 m2 ⟨y, hy, y1, y2⟩ => by
      rcases split y hy with z | z | z
      · have := b.i2 y z; omega
      · subst z; omega
      · have := later y z; omega
    have sin : ∀ m, s.1 ≤ m → m < s.2 → inn L m := fun m m1 m2 => ⟨s, ms, m1, m2⟩
    have i2' : ∀ y ∈ L.take (i + 1), y.2 ≤ max he s.2 := fun y hy => by
      rw [List.take_add_one, es] at hy
      rcases List.mem_append.mp hy with z | z
      · have := b.i2 y z; omega
      · have : y = s := by simpa using z
        subst this; omega
    have i1' : max he s.2 = fi ∨ ∀ y ∈ L.drop (i + 1), max he s.2 < y.1 := by
      by_cases g : he < s.2
      · right
        intro y hy
        have := later y hy
        omega
      · rcases b.i1 with z | z
        · left
          omega
        · right
          intro y hy
          have h1 := z s (by rw [List.drop_eq_getElem_cons hi, ei]; simp)
          omega
    have bf := b.f
    have next : ∀ (R' : List IP) h2, Ext h h2 → h2 F = some (.lst (pL R')) → Lot R' → (∀ m, inn R' m ↔ fi ≤ m ∧ m < max he s.2 ∧ m < be ∧ ¬ inn L m) → (∀ x ∈ R', x.2 < max he s.2) → R'.length ≤ i + 1 →
        wSs gl (DL.run gl ds n) Q (fun x _ h' => E x h') b2_6 [some (.ref aL), some (.int fi), some (.int be), some (.ref F), some (.int he), some (ipD s)] h2 fun s h' => ∃ he x5 R, s = [some (.ref aL), some (.int fi), some (.int be), some (.ref F), some (.int he), x5] ∧ Ext h h' ∧ h' F = some (.lst (pL R)) ∧ Ast L fi be (i + 1) he R := by
      intro R' h2 x eF lR mR eR nR
      unfold ipD
      ((try simp only [e_var, wV_some, wG_some, e_non, e_bl, e_int, e_str, e_glb, e_bin, e_neg, e_no, e_and, e_or, e_cmp, e_chn, e_ife, e_tup, e_lst, e_dnew, e_idx, e_slc, e_call, e_blt, e_mtd, e_isi, e_dis, e_rev, wRev, e_mnd, e_lrg, wMnd, wLrg, e_comp, wEs, wO, wT, wI, wS, wTg, wTgs, CTs.len, asB_bl, wBin, wCmp, wAdd, wSubX, wI2, wMul, wEq, wLt, wCI, wIs, DL.isNon, wNeg, wIdx, wSlc, wB, wLen, seqOf, lstOf, wIsi, tyOf, isTy, wM, wML, tyD, Mtd.ty, iAny, isSeqL, isSeqT, iRng, wSet, List.getElem?_cons_zero, List.getElem?_cons_succ, List.set_cons_zero, List.set_cons_succ, List.length_cons, List.length_nil, wAt_0, wAt_1, wAt_2, wAt_3, Nat.reduceAdd, ix30, ix31, ix32, up_at, Bool.false_eq_true, ↓reduceIte, decide_true, String.reduceBEq, Bool.and_false, Bool.false_and, Bool.or_false, Bool.false_or, true_and, beq_self_eq_true, Bool.true_or, Bool.or_true, Bool.not_true, Bool.not_false, Bool.false_xor, Bool.true_xor, wipeD, List.map_cons, List.map_nil, wTgs, CTs.len]); rw [ss_cons]; simp only [e_var, wV_some, wG_some, e_non, e_bl, e_int, e_str, e_glb, e_bin, e_neg, e_no, e_and, e_or, e_cmp, e_chn, e_ife, e_tup, e_lst, e_dnew, e_idx, e_slc, e_call, e_blt, e_mtd, e_isi, e_dis, e_rev, wRev, e_mnd, e_lrg, wMnd, wLrg, e_comp, wEs, wO, wT, wI, wS, wTg, wTgs, CTs.len, asB_bl, wBin, wCmp, wAdd, wSubX, wI2, wMul, wEq, wLt, wCI, wIs, DL.isNon, wNeg, wIdx, wSlc, wB, wLen, seqOf, lstOf, wIsi, tyOf, isTy, wM, wML, tyD, Mtd.ty, iAny, isSeqL, isSeqT, iRng, wSet, List.getElem?_cons_zero, List.getElem?_cons_succ, List.set_cons_zero, List.set_cons_succ, List.length_cons, List.length_nil, wAt_0, wAt_1, wAt_2, wAt_3, Nat.reduceAdd, ix30, ix31, ix32, up_at, Bool.false_eq_true, ↓reduceIte, decide_true, String.reduceBEq, Bool.and_false, Bool.false_and, Bool.or_false, Bool.false_or, true_and, beq_self_eq_true, Bool.true_or, Bool.or_true, Bool.not_true, Bool.not_false, Bool.false_xor, Bool.true_xor, wipeD, List.map_cons, List.map_nil, wTgs, CTs.len])
      rw [mx]
      ((try simp only [e_var, wV_some, wG_some, e_non, e_bl, e_int, e_str, e_glb, e_bin, e_neg, e_no, e_and, e_or, e_cmp, e_chn, e_ife, e_tup, e_lst, e_dnew, e_idx, e_slc, e_call, e_blt, e_mtd, e_isi, e_dis, e_rev, wRev, e_mnd, e_lrg, wMnd, wLrg, e_comp, wEs, wO, wT, wI, wS, wTg, wTgs, CTs.len, asB_bl, wBin, wCmp, wAdd, wSubX, wI2, wMul, wEq, wLt, wCI, wIs, DL.isNon, wNeg, wIdx, wSlc, wB, wLen, seqOf, lstOf, wIsi, tyOf, isTy, wM, wML, tyD, Mtd.ty, iAny, isSeqL, isSeqT, iRng, wSet, List.getElem?_cons_zero, List.getElem?_cons_succ, List.set_cons_zero, List.set_cons_succ, List.length_cons, List.length_nil, wAt_0, wAt_1, wAt_2, wAt_3, Nat.reduceAdd, ix30, ix31, ix32, up_at, Bool.false_eq_true, ↓reduceIte, decide_true, String.reduceBEq, Bool.and_false, Bool.false_and, Bool.or_false, Bool.false_or, true_and, beq_self_eq_true, Bool.true_or, Bool.or_true, Bool.not_true, Bool.not_false, Bool.false_xor, Bool.true_xor, wipeD, List.map_cons, List.map_nil, wTgs, CTs.len]); rw [ss_cons]; simp only [e_var, wV_some, wG_some, e_non, e_bl, e_int, e_str, e_glb, e_bin, e_neg, e_no, e_and, e_or, e_cmp, e_chn, e_ife, e_tup, e_lst, e_dnew, e_idx, e_slc, e_call, e_blt, e_mtd, e_isi, e_dis, e_rev, wRev, e_mnd, e_lrg, wMnd, wLrg, e_comp, wEs, wO, wT, wI, wS, wTg, wTgs, CTs.len, asB_bl, wBin, wCmp, wAdd, wSubX, wI2, wMul, wEq, wLt, wCI, wIs, DL.isNon, wNeg, wIdx, wSlc, wB, wLen, seqOf, lstOf, wIsi, tyOf, isTy, wM, wML, tyD, Mtd.ty, iAny, isSeqL, isSeqT, iRng, wSet, List.getElem?_cons_zero, List.getElem?_cons_succ, List.set_cons_zero, List.set_cons_succ, List.length_cons, List.length_nil, wAt_0, wAt_1, wAt_2, wAt_3, Nat.reduceAdd, ix30, ix31, ix32, up_at, Bool.false_eq_true, ↓reduceIte, decide_true, String.reduceBEq, Bool.and_false, Bool.false_and, Bool.or_false, Bool.false_or, true_and, beq_self_eq_true, Bool.true_or, Bool.or_true, Bool.not_true, Bool.not_false, Bool.false_xor, Bool.true_xor, wipeD, List.map_cons, List.map_nil, wTgs, CTs.len])
      refine dec_ite (fun g => ?_) fun g => ?_
      · ((try simp only [e_var, wV_some, wG_some, e_non, e_bl, e_int, e_str, e_glb, e_bin, e_neg, e_no, e_and, e_or, e_cmp, e_chn, e_ife, e_tup, e_lst, e_dnew, e_idx, e_slc, e_call, e_blt, e_mtd, e_isi, e_dis, e_rev, wRev, e_mnd, e_lrg, wMnd, wLrg, e_comp, wEs, wO, wT, wI, wS, wTg, wTgs, CTs.len, asB_bl, wBin, wCmp, wAdd, wSubX, wI2, wMul, wEq, wLt, wCI, wIs, DL.isNon, wNeg, wIdx, wSlc, wB, wLen, seqOf, lstOf, wIsi, tyOf, isTy, wM, wML, tyD, Mtd.ty, iAny, isSeqL, isSeqT, iRng, wSet, List.getElem?_cons_zero, List.getElem?_cons_succ, List.set_cons_zero, List.set_cons_succ, List.length_cons, List.length_nil, wAt_0, wAt_1, wAt_2, wAt_3, Nat.reduceAdd, ix30, ix31, ix32, up_at, Bool.false_eq_true, ↓reduceIte, decide_true, String.reduceBEq, Bool.and_false, Bool.false_and, Bool.or_false, Bool.false_or, true_and, beq_self_eq_true, Bool.true_or, Bool.or_true, Bool.not_true, Bool.not_false, Bool.false_xor, Bool.true_xor, wipeD, List.map_cons, List.map_nil, wTgs, CTs.len]); rw [ss_cons]; simp only [e_var, wV_some, wG_some, e_non, e_bl, e_int, e_str, e_glb, e_bin, e_neg, e_no, e_and, e_or, e_cmp, e_chn, e_ife, e_tup, e_lst, e_dnew, e_idx, e_slc, e_call, e_blt, e_mtd, e_isi, e_dis, e_rev, wRev, e_mnd, e_lrg, wMnd, wLrg, e_comp, wEs, wO, wT, wI, wS, wTg, wTgs, CTs.len, asB_bl, wBin, wCmp, wAdd, wSubX, wI2, wMul, wEq, wLt, wCI, wIs, DL.isNon, wNeg, wIdx, wSlc, wB, wLen, seqOf, lstOf, wIsi, tyOf, isTy, wM, wML, tyD, Mtd.ty, iAny, isSeqL, isSeqT, iRng, wSet, List.getElem?_cons_zero, List.getElem?_cons_succ, List.set_cons_zero, List.set_cons_succ, List.length_cons, List.length_nil, wAt_0, wAt_1, wAt_2, wAt_3, Nat.reduceAdd, ix30, ix31, ix32, up_at, Bool.false_eq_true, ↓reduceIte, decide_true, String.reduceBEq, Bool.and_false, Bool.false_and, Bool.or_false, Bool.false_or, true_and, beq_self_eq_true, Bool.true_or, Bool.or_true, Bool.not_true, Bool.not_false, Bool.false_xor, Bool.true_xor, wipeD, List.map_cons, List.map_nil, wTgs, CTs.len])
        refine q F R' h2 nF x eF ⟨lR, fun m => ?_⟩ (by omega)
        rw [mR m]
        constructor
        · exact fun z => ⟨z.1, z.2.2.1, z.2.2.2⟩
        · exact fun z => ⟨z.1, by omega, z.2.1, z.2.2⟩
      · ((try simp only [e_var, wV_some, wG_some, e_non, e_bl, e_int, e_str, e_glb, e_bin, e_neg, e_no, e_and, e_or, e_cmp, e_chn, e_ife, e_tup, e_lst, e_dnew, e_idx, e_slc, e_call, e_blt, e_mtd, e_isi, e_dis, e_rev, wRev, e_mnd, e_lrg, wMnd, wLrg, e_comp, wEs, wO, wT, wI, wS, wTg, wTgs, CTs.len, asB_bl, wBin, wCmp, wAdd, wSubX, wI2, wMul, wEq, wLt, wCI, wIs, DL.isNon, wNeg, wIdx, wSlc, wB, wLen, seqOf, lstOf, wIsi, tyOf, isTy, wM, wML, tyD, Mtd.ty, iAny, isSeqL, isSeqT, iRng, wSet, List.getElem?_cons_zero, List.getElem?_cons_succ, List.set_cons_zero, List.set_cons_succ, List.length_cons, List.length_nil, wAt_0, wAt_1, wAt_2, wAt_3, Nat.reduceAdd, ix30, ix31, ix32, up_at, Bool.false_eq_true, ↓reduceIte, decide_true, String.reduceBEq, Bool.and_false, Bool.false_and, Bool.or_false, Bool.false_or, true_and, beq_self_eq_true, Bool.true_or, Bool.or_true, Bool.not_true, Bool.not_false, Bool.false_xor, Bool.true_xor, wipeD, List.map_cons, List.map_nil, wTgs, CTs.len]); rw [ss_nil])
        ((try simp only [e_var, wV_some, wG_some, e_non, e_bl, e_int, e_str, e_glb, e_bin, e_neg, e_no, e_and, e_or, e_cmp, e_chn, e_ife, e_tup, e_lst, e_dnew, e_idx, e_slc, e_call, e_blt, e_mtd, e_isi, e_dis, e_rev, wRev, e_mnd, e_lrg, wMnd, wLrg, e_comp, wEs, wO, wT, wI, wS, wTg, wTgs, CTs.len, asB_bl, wBin, wCmp, wAdd, wSubX, wI2, wMul, wEq, wLt, wCI, wIs, DL.isNon, wNeg, wIdx, wSlc, wB, wLen, seqOf, lstOf, wIsi, tyOf, isTy, wM, wML, tyD, Mtd.ty, iAny, isSeqL, isSeqT, iRng, wSet, List.getElem?_cons_zero, List.getElem?_cons_succ, List.set_cons_zero, List.set_cons_succ, List.length_cons, List.length_nil, wAt_0, wAt_1, wAt_2, wAt_3, Nat.reduceAdd, ix30, ix31, ix32, up_at, Bool.false_eq_true, ↓reduceIte, decide_true, String.reduceBEq, Bool.and_false, Bool.false_and, Bool.or_false, Bool.false_or, true_and, beq_self_eq_true, Bool.true_or, Bool.or_true, Bool.not_true, Bool.not_false, Bool.false_xor, Bool.true_xor, wipeD, List.map_cons, List.map_nil, wTgs, CTs.len]); rw [ss_nil])
        refine ⟨max he s.2, _, R', rfl, x, eF, lR, fun m => ?_, eR, ⟨by omega, by omega⟩, i1', i2', nR⟩
        rw [mR m]
        constructor
        · exact fun z => ⟨z.1, z.2.1, z.2.2.2⟩
        · exact fun z => ⟨z.1, z.2.1, by omega, z.2.2⟩
    (try simp only [e_var, wV_some, wG_some, e_non, e_bl, e_int, e_str, e_glb, e_bin, e_neg, e_no, e_and, e_or, e_cmp, e_chn, e_ife, e_tup, e_lst, e_dnew, e_idx, e_slc, e_call, e_blt, e_mtd, e_isi, e_dis, e_rev, wRev, e_mnd, e_lrg, wMnd, wLrg, e_comp, wEs, wO, wT, wI, wS, wTg, wTgs, CTs.len, asB_bl, wBin, wCmp, wAdd, wSubX, wI2, wMul, wEq, wLt, wCI, wIs, DL.isNon, wNeg, wIdx, wSlc, wB, wLen, seqOf, lstOf, wIsi, tyOf, isTy, wM, wML, tyD, Mtd.ty, iAny, isSeqL, isSeqT, iRng, wSet, List.getElem?_cons_zero, List.getElem?_cons_succ, List.set_cons_zero, List.set_cons_succ, List.length_cons, List.length_nil, wAt_0, wAt_1, wAt_2, wAt_3, Nat.reduceAdd, ix30, ix31, ix32, up_at, Bool.false_eq_true, ↓reduceIte, decide_true, String.reduceBEq, Bool.and_false, Bool.false_and, Bool.or_false, Bool.false_or, true_and, beq_self_eq_true, Bool.true_or, Bool.or_true, Bool.not_true, Bool.not_false, Bool.false_xor, Bool.true_xor, wipeD, List.map_cons, List.map_nil, wTgs, CTs.len])
    ((try simp only [e_var, wV_some, wG_some, e_non, e_bl, e_int, e_str, e_glb, e_bin, e_neg, e_no, e_and, e_or, e_cmp, e_chn, e_ife, e_tup, e_lst, e_dnew, e_idx, e_slc, e_call, e_blt, e_mtd, e_isi, e_dis, e_rev, wRev, e_mnd, e_lrg, wMnd, wLrg, e_comp, wEs, wO, wT, wI, wS, wTg, wTgs, CTs.len, asB_bl, wBin, wCmp, wAdd, wSubX, wI2, wMul, wEq, wLt, wCI, wIs, DL.isNon, wNeg, wIdx, wSlc, wB, wLen, seqOf, lstOf, wIsi, tyOf, isTy, wM, wML, tyD, Mtd.ty, iAny, isSeqL, isSeqT, iRng, wSet, List.getElem?_cons_zero, List.getElem?_cons_succ, List.set_cons_zero, List.set_cons_succ, List.length_cons, List.length_nil, wAt_0, wAt_1, wAt_2, wAt_3, Nat.reduceAdd, ix30, ix31, ix32, up_at, Bool.false_eq_true, ↓reduceIte, decide_true, String.reduceBEq, Bool.and_false, Bool.false_and, Bool.or_false, Bool.false_or, true_and, beq_self_eq_true, Bool.true_or, Bool.or_true, Bool.not_true, Bool.not_false, Bool.false_xor, Bool.true_xor, wipeD, List.map_cons, List.map_nil, wTgs, CTs.len]); rw [ss_cons]; simp only [e_var, wV_some, wG_some, e_non, e_bl, e_int, e_str, e_glb, e_bin, e_neg, e_no, e_and, e_or, e_cmp, e_chn, e_ife, e_tup, e_lst, e_dnew, e_idx, e_slc, e_call, e_blt, e_mtd, e_isi, e_dis, e_rev, wRev, e_mnd, e_lrg, wMnd, wLrg, e_comp, wEs, wO, wT, wI, wS, wTg, wTgs, CTs.len, asB_bl, wBin, wCmp, wAdd, wSubX, wI2, wMul, wEq, wLt, wCI, wIs, DL.isNon, wNeg, wIdx, wSlc, wB, wLen, seqOf, lstOf, wIsi, tyOf, isTy, wM, wML, tyD, Mtd.ty, iAny, isSeqL, isSeqT, iRng, wSet, List.getElem?_cons_zero, List.getElem?_cons_succ, List.set_cons_zero, List.set_cons_succ, List.length_cons, List.length_nil, wAt_0, wAt_1, wAt_2, wAt_3, Nat.reduceAdd, ix30, ix31, ix32, up_at, Bool.false_eq_true, ↓reduceIte, decide_true, String.reduceBEq, Bool.and_false, Bool.false_and, Bool.or_false, Bool.false_or, true_and, beq_self_eq_true, Bool.true_or, Bool.or_true, Bool.not_true, Bool.not_false, Bool.false_xor, Bool.true_xor, wipeD, List.map_cons, List.map_nil, wTgs, CTs.len])
    unfold ipD at *
    (try simp only [e_var, wV_some, wG_some, e_non, e_bl, e_int, e_str, e_glb, e_bin, e_neg, e_no, e_and, e_or, e_cmp, e_chn, e_ife, e_tup, e_lst, e_dnew, e_idx, e_slc, e_call, e_blt, e_mtd, e_isi, e_dis, e_rev, wRev, e_mnd, e_lrg, wMnd, wLrg, e_comp, wEs, wO, wT, wI, wS, wTg, wTgs, CTs.len, asB_bl, wBin, wCmp, wAdd, wSubX, wI2, wMul, wEq, wLt, wCI, wIs, DL.isNon, wNeg, wIdx, wSlc, wB, wLen, seqOf, lstOf, wIsi, tyOf, isTy, wM, wML, tyD, Mtd.ty, iAny, isSeqL, isSeqT, iRng, wSet, List.getElem?_cons_zero, List.getElem?_cons_succ, List.set_cons_zero, List.set_cons_succ, List.length_cons, List.length_nil, wAt_0, wAt_1, wAt_2, wAt_3, Nat.reduceAdd, ix30, ix31, ix32, up_at, Bool.false_eq_true, ↓reduceIte, decide_true, String.reduceBEq, Bool.and_false, Bool.false_and, Bool.or_false, Bool.false_or, true_and, beq_self_eq_true, Bool.true_or, Bool.or_true, Bool.not_true, Bool.not_false, Bool.false_xor, Bool.true_xor, wipeD, List.map_cons, List.map_nil, wTgs, CTs.len])
    refine dec_ite (fun g => ?_) fun g => ?_
    · ((try simp only [e_var, wV_some, wG_some, e_non, e_bl, e_int, e_str, e_glb, e_bin, e_neg, e_no, e_and, e_or, e_cmp, e_chn, e_ife, e_tup, e_lst, e_dnew, e_idx, e_slc, e_call, e_blt, e_mtd, e_isi, e_dis, e_rev, wRev, e_mnd, e_lrg, wMnd, wLrg, e_comp, wEs, wO, wT, wI, wS, wTg, wTgs, CTs.len, asB_bl, wBin, wCmp, wAdd, wSubX, wI2, wMul, wEq, wLt, wCI, wIs, DL.isNon, wNeg, wIdx, wSlc, wB, wLen, seqOf, lstOf, wIsi, tyOf, isTy, wM, wML, tyD, Mtd.ty, iAny, isSeqL, isSeqT, iRng, wSet, List.getElem?_cons_zero, List.getElem?_cons_succ, List.set_cons_zero, List.set_cons_succ, List.length_cons, List.length_nil, wAt_0, wAt_1, wAt_2, wAt_3, Nat.reduceAdd, ix30, ix31, ix32, up_at, Bool.false_eq_true, ↓reduceIte, decide_true, String.reduceBEq, Bool.and_false, Bool.false_and, Bool.or_false, Bool.false_or, true_and, beq_self_eq_true, Bool.true_or, Bool.or_true, Bool.not_true, Bool.not_false, Bool.false_xor, Bool.true_xor, wipeD, List.map_cons, List.map_nil, wTgs, CTs.len]); rw [ss_cons]; simp only [e_var, wV_some, wG_some, e_non, e_bl, e_int, e_str, e_glb, e_bin, e_neg, e_no, e_and, e_or, e_cmp, e_chn, e_ife, e_tup, e_lst, e_dnew, e_idx, e_slc, e_call, e_blt, e_mtd, e_isi, e_dis, e_rev, wRev, e_mnd, e_lrg, wMnd, wLrg, e_comp, wEs, wO, wT, wI, wS, wTg, wTgs, CTs.len, asB_bl, wBin, wCmp, wAdd, wSubX, wI2, wMul, wEq, wLt, wCI, wIs, DL.isNon, wNeg, wIdx, wSlc, wB, wLen, seqOf, lstOf, wIsi, tyOf, isTy, wM, wML, tyD, Mtd.ty, iAny, isSeqL, isSeqT, iRng, wSet, List.getElem?_cons_zero, List.getElem?_cons_succ, List.set_cons_zero, List.set_cons_succ, List.length_cons, List.length_nil, wAt_0, wAt_1, wAt_2, wAt_3, Nat.reduceAdd, ix30, ix31, ix32, up_at, Bool.false_eq_true, ↓reduceIte, decide_true, String.reduceBEq, Bool.and_false, Bool.false_and, Bool.or_false, Bool.false_or, true_and, beq_self_eq_true, Bool.true_or, Bool.or_true, Bool.not_true, Bool.not_false, Bool.false_xor, Bool.true_xor, wipeD, List.map_cons, List.map_nil, wTgs, CTs.len, eF])
      rw [pL_len]
      have nn := b.n
      rw [mn]
      refine ⟨by omega, by omega, ?_⟩
      ((try simp only [e_var, wV_some, wG_some, e_non, e_bl, e_int, e_str, e_glb, e_bin, e_neg, e_no, e_and, e_or, e_cmp, e_chn, e_ife, e_tup, e_lst, e_dnew, e_idx, e_slc, e_call, e_blt, e_mtd, e_isi, e_dis, e_rev, wRev, e_mnd, e_lrg, wMnd, wLrg, e_comp, wEs, wO, wT, wI, wS, wTg, wTgs, CTs.len, asB_bl, wBin, wCmp, wAdd, wSubX, wI2, wMul, wEq, wLt, wCI, wIs, DL.isNon, wNeg, wIdx, wSlc, wB, wLen, seqOf, lstOf, wIsi, tyOf, isTy, wM, wML, tyD, Mtd.ty, iAny, isSeqL, isSeqT, iRng, wSet, List.getElem?_cons_zero, List.getElem?_cons_succ, List.set_cons_zero, List.set_cons_succ, List.length_cons, List.length_nil, wAt_0, wAt_1, wAt_2, wAt_3, Nat.reduceAdd, ix30, ix31, ix32, up_at, Bool.false_eq_true, ↓reduceIte, decide_true, String.reduceBEq, Bool.and_false, Bool.false_and, Bool.or_false, Bool.false_or, true_and, beq_self_eq_true, Bool.true_or, Bool.or_true, Bool.not_true, Bool.not_false, Bool.false_xor, Bool.true_xor, wipeD, List.map_cons, List.map_nil, wTgs, CTs.len]); rw [ss_nil])
      have ep : pL R ++ [.tup [.int he, .int (min s.1 be)]] = pL (R ++ [(he, min s.1 be)]) := by rw [pL_app]; rfl
      rw [ep]
      refine next (R ++ [(he, min s.1 be)]) _ (x.fresh nF) up_at ⟨fun y hy => ?_, List.pairwise_append.mpr ⟨b.l.ris, List.pairwise_singleton _ _, fun y hy z hz => ?_⟩⟩ (fun m => ?_) (fun y hy => ?_) (by rw [List.length_append, List.length_singleton]; omega)
      · rcases List.mem_append.mp hy with hy | hy
        · exact b.l.pos y hy
        · rw [List.mem_singleton.mp hy]
          show he < min s.1 be
          omega
      · rw [List.mem_singleton.mp hz]
        exact b.e y hy
      · rw [inn_app, b.m m, inn_one]
        constructor
        · rintro (z | z)
          · exact ⟨z.1, by omega, by omega, z.2.2⟩
          · have z1 : he ≤ m := z.1
            have z2 : m < min s.1 be := z.2
            exact ⟨by omega, by omega, by omega, gap m z1 (by omega)⟩
        · rintro ⟨z1, z2, z3, z4⟩
          by_cases g2 : m < he
          · exact .inl ⟨z1, g2, z4⟩
          · right
            have : m < s.1 := Int.not_le.mp fun w => z4 (sin m w (by omega))
            exact ⟨by show he ≤ m; omega, by show m < min s.1 be; omega⟩
      · rcases List.mem_append.mp hy with hy | hy
        · have := b.e y hy; omega
        · rw [List.mem_singleton.mp hy]
          show min s.1 be < max he s.2
          omega
    · ((try simp only [e_var, wV_some, wG_some, e_non, e_bl, e_int, e_str, e_glb, e_bin, e_neg, e_no, e_and, e_or, e_cmp, e_chn, e_ife, e_tup, e_lst, e_dnew, e_idx, e_slc, e_call, e_blt, e_mtd, e_isi, e_dis, e_rev, wRev, e_mnd, e_lrg, wMnd, wLrg, e_comp, wEs, wO, wT, wI, wS, wTg, wTgs, CTs.len, asB_bl, wBin, wCmp, wAdd, wSubX, wI2, wMul, wEq, wLt, wCI, wIs, DL.isNon, wNeg, wIdx, wSlc, wB, wLen, seqOf, lstOf, wIsi, tyOf, isTy, wM, wML, tyD, Mtd.ty, iAny, isSeqL, isSeqT, iRng, wSet, List.getElem?_cons_zero, List.getElem?_cons_succ, List.set_cons_zero, List.set_cons_succ, List.length_cons, List.length_nil, wAt_0, wAt_1, wAt_2, wAt_3, Nat.reduceAdd, ix30, ix31, ix32, up_at, Bool.false_eq_true, ↓reduceIte, decide_true, String.reduceBEq, Bool.and_false, Bool.false_and, Bool.or_false, Bool.false_or, true_and, beq_self_eq_true, Bool.true_or, Bool.or_true, Bool.not_true, Bool.not_false, Bool.false_xor, Bool.true_xor, wipeD, List.map_cons, List.map_nil, wTgs, CTs.len]); rw [ss_nil])
      refine next R _ x eF b.l (fun m => ?_) (fun y hy => by have := b.e y hy; omega) (by have := b.n; omega)
      rw [b.m m]
      constructor
      · exact fun z => ⟨z.1, by omega, by omega, z.2.2⟩
      · rintro ⟨z1, z2, z3, z4⟩
        refine ⟨z1, Int.not_le.mp fun w => z4 (sin m (by omega) (by omega)), z4⟩
  · rintro s h' ⟨he, x5, R, rfl, x, eF, b⟩
    rw [pL_len] at b
    have bf := b.f
    have i2 := b.i2
    rw [List.take_length] at i2
    have nn := b.n
    ((try simp only [e_var, wV_some, wG_some, e_non, e_bl, e_int, e_str, e_glb, e_bin, e_neg, e_no, e_and, e_or, e_cmp, e_chn, e_ife, e_tup, e_lst, e_dnew, e_idx, e_slc, e_call, e_blt, e_mtd, e_isi, e_dis, e_rev, wRev, e_mnd, e_lrg, wMnd, wLrg, e_comp, wEs, wO, wT, wI, wS, wTg, wTgs, CTs.len, asB_bl, wBin, wCmp, wAdd, wSubX, wI2, wMul, wEq, wLt, wCI, wIs, DL.isNon, wNeg, wIdx, wSlc, wB, wLen, seqOf, lstOf, wIsi, tyOf, isTy, wM, wML, tyD, Mtd.ty, iAny, isSeqL, isSeqT, iRng, wSet, List.getElem?_cons_zero, List.getElem?_cons_succ, List.set_cons_zero, List.set_cons_succ, List.length_cons, List.length_nil, wAt_0, wAt_1, wAt_2, wAt_3, Nat.reduceAdd, ix30, ix31, ix32, up_at, Bool.false_eq_true, ↓reduceIte, decide_true, String.reduceBEq, Bool.and_false, Bool.false_and, Bool.or_false, Bool.false_or, true_and, beq_self_eq_true, Bool.true_or, Bool.or_true, Bool.not_true, Bool.not_false, Bool.false_xor, Bool.true_xor, wipeD, List.map_cons, List.map_nil, wTgs, CTs.len]); rw [ss_cons]; simp only [e_var, wV_some, wG_some, e_non, e_bl, e_int, e_str, e_glb, e_bin, e_neg, e_no, e_and, e_or, e_cmp, e_chn, e_ife, e_tup, e_lst, e_dnew, e_idx, e_slc, e_call, e_blt, e_mtd, e_isi, e_dis, e_rev, wRev, e_mnd, e_lrg, wMnd, wLrg, e_comp, wEs, wO, wT, wI, wS, wTg, wTgs, CTs.len, asB_bl, wBin, wCmp, wAdd, wSubX, wI2, wMul, wEq, wLt, wCI, wIs, DL.isNon, wNeg, wIdx, wSlc, wB, wLen, seqOf, lstOf, wIsi, tyOf, isTy, wM, wML, tyD, Mtd.ty, iAny, isSeqL, isSeqT, iRng, wSet, List.getElem?_cons_zero, List.getElem?_cons_succ, List.set_cons_zero, List.set_cons_succ, List.length_cons, List.length_nil, wAt_0, wAt_1, wAt_2, wAt_3, Nat.reduceAdd, ix30, ix31, ix32, up_at, Bool.false_eq_true, ↓reduceIte, decide_true, String.reduceBEq, Bool.and_false, Bool.false_and, Bool.or_false, Bool.false_or, true_and, beq_self_eq_true, Bool.true_or, Bool.or_true, Bool.not_true, Bool.not_false, Bool.false_xor, Bool.true_xor, wipeD, List.map_cons, List.map_nil, wTgs, CTs.len])
    rw [decide_eq_true bf.2]
    ((try simp only [e_var, wV_some, wG_some, e_non, e_bl, e_int, e_str, e_glb, e_bin, e_neg, e_no, e_and, e_or, e_cmp, e_chn, e_ife, e_tup, e_lst, e_dnew, e_idx, e_slc, e_call, e_blt, e_mtd, e_isi, e_dis, e_rev, wRev, e_mnd, e_lrg, wMnd, wLrg, e_comp, wEs, wO, wT, wI, wS, wTg, wTgs, CTs.len, asB_bl, wBin, wCmp, wAdd, wSubX, wI2, wMul, wEq, wLt, wCI, wIs, DL.isNon, wNeg, wIdx, wSlc, wB, wLen, seqOf, lstOf, wIsi, tyOf, isTy, wM, wML, tyD, Mtd.ty, iAny, isSeqL, isSeqT, iRng, wSet, List.getElem?_cons_zero, List.getElem?_cons_succ, List.set_cons_zero, List.set_cons_succ, List.length_cons, List.length_nil, wAt_0, wAt_1, wAt_2, wAt_3, Nat.reduceAdd, ix30, ix31, ix32, up_at, Bool.false_eq_true, ↓reduceIte, decide_true, String.reduceBEq, Bool.and_false, Bool.false_and, Bool.or_false, Bool.false_or, true_and, beq_self_eq_true, Bool.true_or, Bool.or_true, Bool.not_true, Bool.not_false, Bool.false_xor, Bool.true_xor, wipeD, List.map_cons, List.map_nil, wTgs, CTs.len]); rw [ss_cons]; simp only [e_var, wV_some, wG_some, e_non, e_bl, e_int, e_str, e_glb, e_bin, e_neg, e_no, e_and, e_or, e_cmp, e_chn, e_ife, e_tup, e_lst, e_dnew, e_idx, e_slc, e_call, e_blt, e_mtd, e_isi, e_dis, e_rev, wRev, e_mnd, e_lrg, wMnd, wLrg, e_comp, wEs, wO, wT, wI, wS, wTg, wTgs, CTs.len, asB_bl, wBin, wCmp, wAdd, wSubX, wI2, wMul, wEq, wLt, wCI, wIs, DL.isNon, wNeg, wIdx, wSlc, wB, wLen, seqOf, lstOf, wIsi, tyOf, isTy, wM, wML, tyD, Mtd.ty, iAny, isSeqL, isSeqT, iRng, wSet, List.getElem?_cons_zero, List.getElem?_cons_succ, List.set_cons_zero, List.set_cons_succ, List.length_cons, List.length_nil, wAt_0, wAt_1, wAt_2, wAt_3, Nat.reduceAdd, ix30, ix31, ix32, up_at, Bool.false_eq_true, ↓reduceIte, decide_true, String.reduceBEq, Bool.and_false, Bool.false_and, Bool.or_false, Bool.false_or, true_and, beq_self_eq_true, Bool.true_or, Bool.or_true, Bool.not_true, Bool.not_false, Bool.false_xor, Bool.true_xor, wipeD, List.map_cons, List.map_nil, wTgs, CTs.len, eF])
    rw [pL_len]
    refine ⟨by omega, by omega, ?_⟩
    ((try simp only [e_var, wV_some, wG_some, e_non, e_bl, e_int, e_str, e_glb, e_bin, e_neg, e_no, e_and, e_or, e_cmp, e_chn, e_ife, e_tup, e_lst, e_dnew, e_idx, e_slc, e_call, e_blt, e_mtd, e_isi, e_dis, e_rev, wRev, e_mnd, e_lrg, wMnd, wLrg, e_comp, wEs, wO, wT, wI, wS, wTg, wTgs, CTs.len, asB_bl, wBin, wCmp, wAdd, wSubX, wI2, wMul, wEq, wLt, wCI, wIs, DL.isNon, wNeg, wIdx, wSlc, wB, wLen, seqOf, lstOf, wIsi, tyOf, isTy, wM, wML, tyD, Mtd.ty, iAny, isSeqL, isSeqT, iRng, wSet, List.getElem?_cons_zero, List.getElem?_cons_succ, List.set_cons_zero, List.set_cons_succ, List.length_cons, List.length_nil, wAt_0, wAt_1, wAt_2, wAt_3, Nat.reduceAdd, ix30, ix31, ix32, up_at, Bool.false_eq_true, ↓reduceIte, decide_true, String.reduceBEq, Bool.and_false, Bool.false_and, Bool.or_false, Bool.false_or, true_and, beq_self_eq_true, Bool.true_or, Bool.or_true, Bool.not_true, Bool.not_false, Bool.false_xor, Bool.true_xor, wipeD, List.map_cons, List.map_nil, wTgs, CTs.len]); rw [ss_nil])
    ((try simp only [e_var, wV_some, wG_some, e_non, e_bl, e_int, e_str, e_glb, e_bin, e_neg, e_no, e_and, e_or, e_cmp, e_chn, e_ife, e_tup, e_lst, e_dnew, e_idx, e_slc, e_call, e_blt, e_mtd, e_isi, e_dis, e_rev, wRev, e_mnd, e_lrg, wMnd, wLrg, e_comp, wEs, wO, wT, wI, wS, wTg, wTgs, CTs.len, asB_bl, wBin, wCmp, wAdd, wSubX, wI2, wMul, wEq, wLt, wCI, wIs, DL.isNon, wNeg, wIdx, wSlc, wB, wLen, seqOf, lstOf, wIsi, tyOf, isTy, wM, wML, tyD, Mtd.ty, iAny, isSeqL, isSeqT, iRng, wSet, List.getElem?_cons_zero, List.getElem?_cons_succ, List.set_cons_zero, List.set_cons_succ, List.length_cons, List.length_nil, wAt_0, wAt_1, wAt_2, wAt_3, Nat.reduceAdd, ix30, ix31, ix32, up_at, Bool.false_eq_true, ↓reduceIte, decide_true, String.reduceBEq, Bool.and_false, Bool.false_and, Bool.or_false, Bool.false_or, true_and, beq_self_eq_true, Bool.true_or, Bool.or_true, Bool.not_true, Bool.not_false, Bool.false_xor, Bool.true_xor, wipeD, List.map_cons, List.map_nil, wTgs, CTs.len]); rw [ss_cons]; simp only [e_var, wV_some, wG_some, e_non, e_bl, e_int, e_str, e_glb, e_bin, e_neg, e_no, e_and, e_or, e_cmp, e_chn, e_ife, e_tup, e_lst, e_dnew, e_idx, e_slc, e_call, e_blt, e_mtd, e_isi, e_dis, e_rev, wRev, e_mnd, e_lrg, wMnd, wLrg, e_comp, wEs, wO, wT, wI, wS, wTg, wTgs, CTs.len, asB_bl, wBin, wCmp, wAdd, wSubX, wI2, wMul, wEq, wLt, wCI, wIs, DL.isNon, wNeg, wIdx, wSlc, wB, wLen, seqOf, lstOf, wIsi, tyOf, isTy, wM, wML, tyD, Mtd.ty, iAny, isSeqL, isSeqT, iRng, wSet, List.getElem?_cons_zero, List.getElem?_cons_succ, List.set_cons_zero, List.set_cons_succ, List.length_cons, List.length_nil, wAt_0, wAt_1, wAt_2, wAt_3, Nat.reduceAdd, ix30, ix31, ix32, up_at, Bool.false_eq_true, ↓reduceIte, decide_true, String.reduceBEq, Bool.and_false, Bool.false_and, Bool.or_false, Bool.false_or, true_and, beq_self_eq_true, Bool.true_or, Bool.or_true, Bool.not_true, Bool.not_false, Bool.false_xor, Bool.true_xor, wipeD, List.map_cons, List.map_nil, wTgs, CTs.len])
    have ep : pL R ++ [.tup [.int he, .int be]] = pL (R ++ [(he, be)]) := by rw [pL_app]; rfl
    rw [ep]
    refine q F (R ++ [(he, be)]) _ nF (x.fresh nF) up_at ⟨⟨fun y hy => ?_, List.pairwise_append.mpr ⟨b.l.ris, List.pairwise_singleton _ _, fun y hy z hz => ?_⟩⟩, fun m => ?_⟩ (by rw [List.length_append, List.length_singleton]; omega)
    · rcases List.mem_append.mp hy with hy | hy
      · exact b.l.pos y hy
      · rw [List.mem_singleton.mp hy]
        exact bf.2
    · rw [List.mem_singleton.mp hz]
      exact b.e y hy
    · rw [inn_app, b.m m, inn_one]
      constructor
      · rintro (z | z)
        · exact ⟨z.1, by omega, z.2.2⟩
        · have z1 : he ≤ m := z.1
          have z2 : m < be := z.2
          refine ⟨by omega, z2, fun ⟨y, hy, y1, y2⟩ => ?_⟩
          have := i2 y hy
          omega
      · rintro ⟨z1, z2, z3⟩
        by_cases g2 : m < he
        · exact .inl ⟨z1, g2, z3⟩
        · exact .inr ⟨by show he ≤ m; omega, z2⟩
end
def Wout (A B R : List IP) : Prop := Lot R ∧ ∀ m, inn R m ↔ inn A m ∧ ¬ inn B m
section
variable {n : Nat} {h : DH} {Q : QD} {E : XD}
theorem without {aA bA : Addr} {A B : List IP} (hA : Lot A) (hB : Lot B) (lA : A.length ≤ 1000) (lB : B.length ≤ 900) (h1 : h aA = some (.lst (pL A))) (h2 : h bA = some (.lst (pL B)))
    (q : ∀ F R h2, h F = none → Ext h h2 → h2 F = some (.lst (pL R)) → Wout A B R → R.length ≤ A.length * (B.length + 1) → Q (.ref F) h2) : run gl ds (n + 3) 3 [.ref aA, .ref bA] h Q E := by
  refine e3 ?_
  ((try simp only [e_var, wV_some, wG_some, e_non, e_bl, e_int, e_str, e_glb, e_bin, e_neg, e_no, e_and, e_or, e_cmp, e_chn, e_ife, e_tup, e_lst, e_dnew, e_idx, e_slc, e_call, e_blt, e_mtd, e_isi, e_dis, e_rev, wRev, e_mnd, e_lrg, wMnd, wLrg, e_comp, wEs, wO, wT, wI, wS, wTg, wTgs, CTs.len, asB_bl, wBin, wCmp, wAdd, wSubX, wI2, wMul, wEq, wLt, wCI, wIs, DL.isNon, wNeg, wIdx, wSlc, wB, wLen, seqOf, lstOf, wIsi, tyOf, isTy, wM, wML, tyD, Mtd.ty, iAny, isSeqL, isSeqT, iRng, wSet, List.getElem?_cons_zero, List.getElem?_cons_succ, List.set_cons_zero, List.set_cons_succ, List.length_cons, List.length_nil, wAt_0, wAt_1, wAt_2, wAt_3, Nat.reduceAdd, ix30, ix31, ix32, up_at, Bool.false_eq_true, ↓reduceIte, decide_true, String.reduceBEq, Bool.and_false, Bool.false_and, Bool.or_false, Bool.false_or, true_and, beq_self_eq_true, Bool.true_or, Bool.or_true, Bool.not_true, Bool.not_false, Bool.false_xor, Bool.true_xor, wipeD, List.map_cons, List.map_nil, wTgs, CTs.len]); rw [ss_cons]; simp only [e_var, wV_some, wG_some, e_non, e_bl, e_int, e_str, e_glb, e_bin, e_neg, e_no, e_and, e_or, e_cmp, e_chn, e_ife, e_tup, e_lst, e_dnew, e_idx, e_slc, e_call, e_blt, e_mtd, e_isi, e_dis, e_rev, wRev, e_mnd, e_lrg, wMnd, wLrg, e_comp, wEs, wO, wT, wI, wS, wTg, wTgs, CTs.len, asB_bl, wBin, wCmp, wAdd, wSubX, wI2, wMul, wEq, wLt, wCI, wIs, DL.isNon, wNeg, wIdx, wSlc, wB, wLen, seqOf, lstOf, wIsi, tyOf, isTy, wM, wML, tyD, Mtd.ty, iAny, isSeqL, isSeqT, iRng, wSet, List.getElem?_cons_zero, List.getElem?_cons_succ, List.set_cons_zero, List.set_cons_succ, List.length_cons, List.length_nil, wAt_0, wAt_1, wAt_2, wAt_3, Nat.reduceAdd, ix30, ix31, ix32, up_at, Bool.false_eq_true, ↓reduceIte, decide_true, String.reduceBEq, Bool.and_false, Bool.false_and, Bool.or_false, Bool.false_or, true_and, beq_self_eq_true, Bool.true_or, Bool.or_true, Bool.not_true, Bool.not_false, Bool.false_xor, Bool.true_xor, wipeD, List.map_cons, List.map_nil, wTgs, CTs.len])
  refine ⟨by omega, fun r nr => ?_⟩
  have y := Ext.new (o := .lst []) nr
  refine wEq_prs (xs := A) (ys := []) (y _ _ h1) up_at ?_
  have h1' := y _ _ h1
  have h2' := y _ _ h2
  have fr : ∀ p, up h r (.lst []) p = none → h p = none := fun p np => y.free np
  generalize up h r (.lst []) = h3 at *
  (try simp only [e_var, wV_some, wG_some, e_non, e_bl, e_int, e_str, e_glb, e_bin, e_neg, e_no, e_and, e_or, e_cmp, e_chn, e_ife, e_tup, e_lst, e_dnew, e_idx, e_slc, e_call, e_blt, e_mtd, e_isi, e_dis, e_rev, wRev, e_mnd, e_lrg, wMnd, wLrg, e_comp, wEs, wO, wT, wI, wS, wTg, wTgs, CTs.len, asB_bl, wBin, wCmp, wAdd, wSubX, wI2, wMul, wEq, wLt, wCI, wIs, DL.isNon, wNeg, wIdx, wSlc, wB, wLen, seqOf, lstOf, wIsi, tyOf, isTy, wM, wML, tyD, Mtd.ty, iAny, isSeqL, isSeqT, iRng, wSet, List.getElem?_cons_zero, List.getElem?_cons_succ, List.set_cons_zero, List.set_cons_succ, List.length_cons, List.length_nil, wAt_0, wAt_1, wAt_2, wAt_3, Nat.reduceAdd, ix30, ix31, ix32, up_at, Bool.false_eq_true, ↓reduceIte, decide_true, String.reduceBEq, Bool.and_false, Bool.false_and, Bool.or_false, Bool.false_or, true_and, beq_self_eq_true, Bool.true_or, Bool.or_true, Bool.not_true, Bool.not_false, Bool.false_xor, Bool.true_xor, wipeD, List.map_cons, List.map_nil, wTgs, CTs.len])
  refine dec_ite (fun g => ?_) fun g => ?_
  · ((try simp only [e_var, wV_some, wG_some, e_non, e_bl, e_int, e_str, e_glb, e_bin, e_neg, e_no, e_and, e_or, e_cmp, e_chn, e_ife, e_tup, e_lst, e_dnew, e_idx, e_slc, e_call, e_blt, e_mtd, e_isi, e_dis, e_rev, wRev, e_mnd, e_lrg, wMnd, wLrg, e_comp, wEs, wO, wT, wI, wS, wTg, wTgs, CTs.len, asB_bl, wBin, wCmp, wAdd, wSubX, wI2, wMul, wEq, wLt, wCI, wIs, DL.isNon, wNeg, wIdx, wSlc, wB, wLen, seqOf, lstOf, wIsi, tyOf, isTy, wM, wML, tyD, Mtd.ty, iAny, isSeqL, isSeqT, iRng, wSet, List.getElem?_cons_zero, List.getElem?_cons_succ, List.set_cons_zero, List.set_cons_succ, List.length_cons, List.length_nil, wAt_0, wAt_1, wAt_2, wAt_3, Nat.reduceAdd, ix30, ix31, ix32, up_at, Bool.false_eq_true, ↓reduceIte, decide_true, String.reduceBEq, Bool.and_false, Bool.false_and, Bool.or_false, Bool.false_or, true_and, beq_self_eq_true, Bool.true_or, Bool.or_true, Bool.not_true, Bool.not_false, Bool.false_xor, Bool.true_xor, wipeD, List.map_cons, List.map_nil, wTgs, CTs.len]); rw [ss_cons]; simp only [e_var, wV_some, wG_some, e_non, e_bl, e_int, e_str, e_glb, e_bin, e_neg, e_no, e_and, e_or, e_cmp, e_chn, e_ife, e_tup, e_lst, e_dnew, e_idx, e_slc, e_call, e_blt, e_mtd, e_isi, e_dis, e_rev, wRev, e_mnd, e_lrg, wMnd, wLrg, e_comp, wEs, wO, wT, wI, wS, wTg, wTgs, CTs.len, asB_bl, wBin, wCmp, wAdd, wSubX, wI2, wMul, wEq, wLt, wCI, wIs, DL.isNon, wNeg, wIdx, wSlc, wB, wLen, seqOf, lstOf, wIsi, tyOf, isTy, wM, wML, tyD, Mtd.ty, iAny, isSeqL, isSeqT, iRng, wSet, List.getElem?_cons_zero, List.getElem?_cons_succ, List.set_cons_zero, List.set_cons_succ, List.length_cons, List.length_nil, wAt_0, wAt_1, wAt_2, wAt_3, Nat.reduceAdd, ix30, ix31, ix32, up_at, Bool.false_eq_true, ↓reduceIte, decide_true, String.reduceBEq, Bool.and_false, Bool.false_and, Bool.or_false, Bool.false_or, true_and, beq_self_eq_true, Bool.true_or, Bool.or_true, Bool.not_true, Bool.not_false, Bool.false_xor, Bool.true_xor, wipeD, List.map_cons, List.map_nil, wTgs, CTs.len])
    refine ⟨by omega, fun F nF => ?_⟩
    subst g
    exact q F [] _ (fr F nF) (y.trans (Ext.new nF)) up_at ⟨⟨by simp, List.Pairwise.nil⟩, fun m => ⟨fun z => absurd z inn_nil, fun z => absurd z.1 inn_nil⟩⟩ (by simp)
  · ((try simp only [e_var, wV_some, wG_some, e_non, e_bl, e_int, e_str, e_glb, e_bin, e_neg, e_no, e_and, e_or, e_cmp, e_chn, e_ife, e_tup, e_lst, e_dnew, e_idx, e_slc, e_call, e_blt, e_mtd, e_isi, e_dis, e_rev, wRev, e_mnd, e_lrg, wMnd, wLrg, e_comp, wEs, wO, wT, wI, wS, wTg, wTgs, CTs.len, asB_bl, wBin, wCmp, wAdd, wSubX, wI2, wMul, wEq, wLt, wCI, wIs, DL.isNon, wNeg, wIdx, wSlc, wB, wLen, seqOf, lstOf, wIsi, tyOf, isTy, wM, wML, tyD, Mtd.ty, iAny, isSeqL, isSeqT, iRng, wSet, List.getElem?_cons_zero, List.getElem?_cons_succ, List.set_cons_zero, List.set_cons_succ, List.length_cons, List.length_nil, wAt_0, wAt_1, wAt_2, wAt_3, Nat.reduceAdd, ix30, ix31, ix32, up_at, Bool.false_eq_true, ↓reduceIte, decide_true, String.reduceBEq, Bool.and_false, Bool.false_and, Bool.or_false, Bool.false_or, true_and, beq_self_eq_true, Bool.true_or, Bool.or_true, Bool.not_true, Bool.not_false, Bool.false_xor, Bool.true_xor, wipeD, List.map_cons, List.map_nil, wTgs, CTs.len]); rw [ss_nil])
    obtain ⟨l0, xl, el⟩ := snoc g
    obtain ⟨xf, l1, ef⟩ : ∃ xf l1, A = xf :: l1 := by
      cases A with
      | nil => exact absurd rfl g
      | cons a b => exact ⟨a, b, rfl⟩
    have hf : h3 aA = some (.lst (.tup [.int xf.1, .int xf.2] :: pL l1)) := by rw [h1', ef]; rfl
    have hl : h3 aA = some (.lst (pL l0 ++ [.tup [.int xl.1, .int xl.2]])) := by rw [h1', el, pL_app]; rfl
    have inA : ∀ m, inn A m → xf.1 ≤ m ∧ m < xl.2 := fun m ⟨z, hz, z1, z2⟩ => by
      have a1 : xf.1 ≤ z.1 := by
        rw [ef] at hz
        rcases List.mem_cons.mp hz with w | w
        · rw [w]; omega
        · have h4 := (List.pairwise_cons.mp (ef ▸ hA).ris).1 z w
          have h5 := hA.pos xf (by rw [ef]; simp)
          omega
      have a2 := lot_le (el ▸ hA) (el ▸ hz)
      omega
    have px : xf.1 < xl.2 := by
      have p := hA.pos xf (by rw [ef]; simp)
      have := inA xf.1 ⟨xf, by rw [ef]; simp, by omega, p⟩
      omega
    have eqL : (D.tup [.int xf.1, .int xf.2] :: pL l1) = pL l0 ++ [.tup [.int xl.1, .int xl.2]] := by
      rw [hf] at hl
      simpa using hl
    ((try simp only [e_var, wV_some, wG_some, e_non, e_bl, e_int, e_str, e_glb, e_bin, e_neg, e_no, e_and, e_or, e_cmp, e_chn, e_ife, e_tup, e_lst, e_dnew, e_idx, e_slc, e_call, e_blt, e_mtd, e_isi, e_dis, e_rev, wRev, e_mnd, e_lrg, wMnd, wLrg, e_comp, wEs, wO, wT, wI, wS, wTg, wTgs, CTs.len, asB_bl, wBin, wCmp, wAdd, wSubX, wI2, wMul, wEq, wLt, wCI, wIs, DL.isNon, wNeg, wIdx, wSlc, wB, wLen, seqOf, lstOf, wIsi, tyOf, isTy, wM, wML, tyD, Mtd.ty, iAny, isSeqL, isSeqT, iRng, wSet, List.getElem?_cons_zero, List.getElem?_cons_succ, List.set_cons_zero, List.set_cons_succ, List.length_cons, List.length_nil, wAt_0, wAt_1, wAt_2, wAt_3, Nat.reduceAdd, ix30, ix31, ix32, up_at, Bool.false_eq_true, ↓reduceIte, decide_true, String.reduceBEq, Bool.and_false, Bool.false_and, Bool.or_false, Bool.false_or, true_and, beq_self_eq_true, Bool.true_or, Bool.or_true, Bool.not_true, Bool.not_false, Bool.false_xor, Bool.true_xor, wipeD, List.map_cons, List.map_nil, wTgs, CTs.len]); rw [ss_cons]; simp only [e_var, wV_some, wG_some, e_non, e_bl, e_int, e_str, e_glb, e_bin, e_neg, e_no, e_and, e_or, e_cmp, e_chn, e_ife, e_tup, e_lst, e_dnew, e_idx, e_slc, e_call, e_blt, e_mtd, e_isi, e_dis, e_rev, wRev, e_mnd, e_lrg, wMnd, wLrg, e_comp, wEs, wO, wT, wI, wS, wTg, wTgs, CTs.len, asB_bl, wBin, wCmp, wAdd, wSubX, wI2, wMul, wEq, wLt, wCI, wIs, DL.isNon, wNeg, wIdx, wSlc, wB, wLen, seqOf, lstOf, wIsi, tyOf, isTy, wM, wML, tyD, Mtd.ty, iAny, isSeqL, isSeqT, iRng, wSet, List.getElem?_cons_zero, List.getElem?_cons_succ, List.set_cons_zero, List.set_cons_succ, List.length_cons, List.length_nil, wAt_0, wAt_1, wAt_2, wAt_3, Nat.reduceAdd, ix30, ix31, ix32, up_at, Bool.false_eq_true, ↓reduceIte, decide_true, String.reduceBEq, Bool.and_false, Bool.false_and, Bool.or_false, Bool.false_or, true_and, beq_self_eq_true, Bool.true_or, Bool.or_true, Bool.not_true, Bool.not_false, Bool.false_xor, Bool.true_xor, wipeD, List.map_cons, List.map_nil, wTgs, CTs.len, hf])
    rw [eqL, wAt_last]
    (try simp only [e_var, wV_some, wG_some, e_non, e_bl, e_int, e_str, e_glb, e_bin, e_neg, e_no, e_and, e_or, e_cmp, e_chn, e_ife, e_tup, e_lst, e_dnew, e_idx, e_slc, e_call, e_blt, e_mtd, e_isi, e_dis, e_rev, wRev, e_mnd, e_lrg, wMnd, wLrg, e_comp, wEs, wO, wT, wI, wS, wTg, wTgs, CTs.len, asB_bl, wBin, wCmp, wAdd, wSubX, wI2, wMul, wEq, wLt, wCI, wIs, DL.isNon, wNeg, wIdx, wSlc, wB, wLen, seqOf, lstOf, wIsi, tyOf, isTy, wM, wML, tyD, Mtd.ty, iAny, isSeqL, isSeqT, iRng, wSet, List.getElem?_cons_zero, List.getElem?_cons_succ, List.set_cons_zero, List.set_cons_succ, List.length_cons, List.length_nil, wAt_0, wAt_1, wAt_2, wAt_3, Nat.reduceAdd, ix30, ix31, ix32, up_at, Bool.false_eq_true, ↓reduceIte, decide_true, String.reduceBEq, Bool.and_false, Bool.false_and, Bool.or_false, Bool.false_or, true_and, beq_self_eq_true, Bool.true_or, Bool.or_true, Bool.not_true, Bool.not_false, Bool.false_xor, Bool.true_xor, wipeD, List.map_cons, List.map_nil, wTgs, CTs.len])
    refine around hB (by omega) px h2' fun G RG h4 nG x4 eG ar lG => ?_
    (try simp only [e_var, wV_some, wG_some, e_non, e_bl, e_int, e_str, e_glb, e_bin, e_neg, e_no, e_and, e_or, e_cmp, e_chn, e_ife, e_tup, e_lst, e_dnew, e_idx, e_slc, e_call, e_blt, e_mtd, e_isi, e_dis, e_rev, wRev, e_mnd, e_lrg, wMnd, wLrg, e_comp, wEs, wO, wT, wI, wS, wTg, wTgs, CTs.len, asB_bl, wBin, wCmp, wAdd, wSubX, wI2, wMul, wEq, wLt, wCI, wIs, DL.isNon, wNeg, wIdx, wSlc, wB, wLen, seqOf, lstOf, wIsi, tyOf, isTy, wM, wML, tyD, Mtd.ty, iAny, isSeqL, isSeqT, iRng, wSet, List.getElem?_cons_zero, List.getElem?_cons_succ, List.set_cons_zero, List.set_cons_succ, List.length_cons, List.length_nil, wAt_0, wAt_1, wAt_2, wAt_3, Nat.reduceAdd, ix30, ix31, ix32, up_at, Bool.false_eq_true, ↓reduceIte, decide_true, String.reduceBEq, Bool.and_false, Bool.false_and, Bool.or_false, Bool.false_or, true_and, beq_self_eq_true, Bool.true_or, Bool.or_true, Bool.not_true, Bool.not_false, Bool.false_xor, Bool.true_xor, wipeD, List.map_cons, List.map_nil, wTgs, CTs.len])
    refine both hA ar.1 lA (by omega) (x4 _ _ h1') eG fun F R h5 nF x5 eF bo lR => ?_
    refine q F R h5 (fr F (x4.free nF)) ((y.trans x4).trans x5) eF ⟨bo.1, fun m => ?_⟩ (Nat.le_trans lR (Nat.mul_le_mul_left _ lG))
    rw [bo.2 m, ar.2 m]
    constructor
    · exact fun z => ⟨z.1, z.2.2.2⟩
    · exact fun z => ⟨z.1, (inA m z.1).1, (inA m z.1).2, z.2⟩
end
end Qk04

namespace Qk04
open PySem DL L2
theorem shaped_two (A B : List IP) : SeqAt.shaped (.tuple [.list (A.map ipP), .list (B.map ipP)]) = true := by
  unfold SeqAt.shaped
  have a := depth_prs A
  have b := depth_prs B
  rw [Bool.and_eq_true]
  refine ⟨?_, ?_⟩
  · simp only [PyData.canLay0, PyData.canLayAll0, lay_prs, Bool.and_self]
  · rw [decide_eq_true_eq]
    simp only [PyData.depth, PyData.depthAll]
    omega
theorem dpy_two {h : DH} {a b : Addr} {A B : List IP} (h1 : h a = some (.lst (pL A))) (h2 : h b = some (.lst (pL B))) : DPy h (.tup [.ref a, .ref b]) (.tuple [.list (A.map ipP), .list (B.map ipP)]) := .tup (.cons (.lst h1 (dpys_prs A)) (.cons (.lst h2 (dpys_prs B)) .nil))
section
variable {n : Nat} {h : DH} {Q : QD} {E : XD}
theorem islot {a : Addr} {R : List IP} (e : h a = some (.lst (pL R))) (hl : Lot R) (ln : R.length ≤ 100000) (q : ∀ h2, Ext h h2 → Q (.bl true) h2) : run gl ds (n + 1) 10 [.ref a] h Q E := by
  refine e10 ?_
  ((try simp only [e_var, wV_some, wG_some, e_non, e_bl, e_int, e_str, e_glb, e_bin, e_neg, e_no, e_and, e_or, e_cmp, e_chn, e_ife, e_tup, e_lst, e_dnew, e_idx, e_slc, e_call, e_blt, e_mtd, e_isi, e_dis, e_rev, wRev, e_mnd, e_lrg, wMnd, wLrg, e_comp, wEs, wO, wT, wI, wS, wTg, wTgs, CTs.len, asB_bl, wBin, wCmp, wAdd, wSubX, wI2, wMul, wEq, wLt, wCI, wIs, DL.isNon, wNeg, wIdx, wSlc, wB, wLen, seqOf, lstOf, wIsi, tyOf, isTy, wM, wML, tyD, Mtd.ty, iAny, isSeqL, isSeqT, iRng, wSet, List.getElem?_cons_zero, List.getElem?_cons_succ, List.set_cons_zero, List.set_cons_succ, List.length_cons, List.length_nil, wAt_0, wAt_1, wAt_2, wAt_3, Nat.reduceAdd, ix30, ix31, ix32, up_at, Bool.false_eq_true, ↓reduceIte, decide_true, String.reduceBEq, Bool.and_false, Bool.false_and, Bool.or_false, Bool.false_or, true_and, beq_self_eq_true, Bool.true_or, Bool.or_true, Bool.not_true, Bool.not_false, Bool.false_xor, Bool.true_xor, wipeD, List.map_cons, List.map_nil, wTgs, CTs.len]); rw [ss_cons]; simp only [e_var, wV_some, wG_some, e_non, e_bl, e_int, e_str, e_glb, e_bin, e_neg, e_no, e_and, e_or, e_cmp, e_chn, e_ife, e_tup, e_lst, e_dnew, e_idx, e_slc, e_call, e_blt, e_mtd, e_isi, e_dis, e_rev, wRev, e_mnd, e_lrg, wMnd, wLrg, e_comp, wEs, wO, wT, wI, wS, wTg, wTgs, CTs.len, asB_bl, wBin, wCmp, wAdd, wSubX, wI2, wMul, wEq, wLt, wCI, wIs, DL.isNon, wNeg, wIdx, wSlc, wB, wLen, seqOf, lstOf, wIsi, tyOf, isTy, wM, wML, tyD, Mtd.ty, iAny, isSeqL, isSeqT, iRng, wSet, List.getElem?_cons_zero, List.getElem?_cons_succ, List.set_cons_zero, List.set_cons_succ, List.length_cons, List.length_nil, wAt_0, wAt_1, wAt_2, wAt_3, Nat.reduceAdd, ix30, ix31, ix32, up_at, Bool.false_eq_true, ↓reduceIte, decide_true, String.reduceBEq, Bool.and_false, Bool.false_and, Bool.or_false, Bool.false_or, true_and, beq_self_eq_true, Bool.true_or, Bool.or_true, Bool.not_true, Bool.not_false, Bool.false_xor, Bool.true_xor, wipeD, List.map_cons, List.map_nil, wTgs, CTs.len, e])
  refine comp_lst (a := a) (xs := pL R) (fun i h' acc => h' = h ∧ acc = bL ((R.take i).map fun _ => true)) ⟨rfl, rfl⟩ (fun _ _ _ ⟨z, _⟩ => by rw [z]; exact e) ?_ ?_
  · rintro i d h' acc hd ⟨rfl, rfl⟩
    obtain ⟨x, ex, rfl⟩ := pL_mem hd
    have hi := (List.getElem?_eq_some_iff.mp ex).1
    (try simp only [e_var, wV_some, wG_some, e_non, e_bl, e_int, e_str, e_glb, e_bin, e_neg, e_no, e_and, e_or, e_cmp, e_chn, e_ife, e_tup, e_lst, e_dnew, e_idx, e_slc, e_call, e_blt, e_mtd, e_isi, e_dis, e_rev, wRev, e_mnd, e_lrg, wMnd, wLrg, e_comp, wEs, wO, wT, wI, wS, wTg, wTgs, CTs.len, asB_bl, wBin, wCmp, wAdd, wSubX, wI2, wMul, wEq, wLt, wCI, wIs, DL.isNon, wNeg, wIdx, wSlc, wB, wLen, seqOf, lstOf, wIsi, tyOf, isTy, wM, wML, tyD, Mtd.ty, iAny, isSeqL, isSeqT, iRng, wSet, List.getElem?_cons_zero, List.getElem?_cons_succ, List.set_cons_zero, List.set_cons_succ, List.length_cons, List.length_nil, wAt_0, wAt_1, wAt_2, wAt_3, Nat.reduceAdd, ix30, ix31, ix32, up_at, Bool.false_eq_true, ↓reduceIte, decide_true, String.reduceBEq, Bool.and_false, Bool.false_and, Bool.or_false, Bool.false_or, true_and, beq_self_eq_true, Bool.true_or, Bool.or_true, Bool.not_true, Bool.not_false, Bool.false_xor, Bool.true_xor, wipeD, List.map_cons, List.map_nil, wTgs, CTs.len, ipD])
    have z : bL ((R.take i).map fun _ => true) ++ [D.bl true] = bL ((R.take (i + 1)).map fun _ => true) := by
      rw [bL_snoc, List.take_add_one, ex, List.map_append]
      rfl
    rw [z]
    refine ⟨by rw [bL_len, List.length_map, List.length_take]; omega, ?_⟩
    first
      | exact ⟨rfl, rfl⟩
      | rfl
  · rintro h' acc p ⟨rfl, rfl⟩ np
    rw [pL_len, List.take_length]
    have x1 := Ext.new (o := .lst (bL (R.map fun _ => true))) np
    have e := x1 _ _ e
    (try simp only [e_var, wV_some, wG_some, e_non, e_bl, e_int, e_str, e_glb, e_bin, e_neg, e_no, e_and, e_or, e_cmp, e_chn, e_ife, e_tup, e_lst, e_dnew, e_idx, e_slc, e_call, e_blt, e_mtd, e_isi, e_dis, e_rev, wRev, e_mnd, e_lrg, wMnd, wLrg, e_comp, wEs, wO, wT, wI, wS, wTg, wTgs, CTs.len, asB_bl, wBin, wCmp, wAdd, wSubX, wI2, wMul, wEq, wLt, wCI, wIs, DL.isNon, wNeg, wIdx, wSlc, wB, wLen, seqOf, lstOf, wIsi, tyOf, isTy, wM, wML, tyD, Mtd.ty, iAny, isSeqL, isSeqT, iRng, wSet, List.getElem?_cons_zero, List.getElem?_cons_succ, List.set_cons_zero, List.set_cons_succ, List.length_cons, List.length_nil, wAt_0, wAt_1, wAt_2, wAt_3, Nat.reduceAdd, ix30, ix31, ix32, up_at, Bool.false_eq_true, ↓reduceIte, decide_true, String.reduceBEq, Bool.and_false, Bool.false_and, Bool.or_false, Bool.false_or, true_and, beq_self_eq_true, Bool.true_or, Bool.or_true, Bool.not_true, Bool.not_false, Bool.false_xor, Bool.true_xor, wipeD, List.map_cons, List.map_nil, wTgs, CTs.len])
    refine ⟨_, rfl, ?_⟩
    rw [List.all_map]
    have al : R.all (id ∘ fun _ => true) = true := List.all_eq_true.mpr fun _ _ => rfl
    rw [al]
    generalize up h' p (.lst (bL (R.map fun _ => true))) = h1 at *
    (try simp only [e_var, wV_some, wG_some, e_non, e_bl, e_int, e_str, e_glb, e_bin, e_neg, e_no, e_and, e_or, e_cmp, e_chn, e_ife, e_tup, e_lst, e_dnew, e_idx, e_slc, e_call, e_blt, e_mtd, e_isi, e_dis, e_rev, wRev, e_mnd, e_lrg, wMnd, wLrg, e_comp, wEs, wO, wT, wI, wS, wTg, wTgs, CTs.len, asB_bl, wBin, wCmp, wAdd, wSubX, wI2, wMul, wEq, wLt, wCI, wIs, DL.isNon, wNeg, wIdx, wSlc, wB, wLen, seqOf, lstOf, wIsi, tyOf, isTy, wM, wML, tyD, Mtd.ty, iAny, isSeqL, isSeqT, iRng, wSet, List.getElem?_cons_zero, List.getElem?_cons_succ, List.set_cons_zero, List.set_cons_succ, List.length_cons, List.length_nil, wAt_0, wAt_1, wAt_2, wAt_3, Nat.reduceAdd, ix30, ix31, ix32, up_at, Bool.false_eq_true, ↓reduceIte, decide_true, String.reduceBEq, Bool.and_false, Bool.false_and, Bool.or_false, Bool.false_or, true_and, beq_self_eq_true, Bool.true_or, Bool.or_true, Bool.not_true, Bool.not_false, Bool.false_xor, Bool.true_xor, wipeD, List.map_cons, List.map_nil, wTgs, CTs.len])
    ((try simp only [e_var, wV_some, wG_some, e_non, e_bl, e_int, e_str, e_glb, e_bin, e_neg, e_no, e_and, e_or, e_cmp, e_chn, e_ife, e_tup, e_lst, e_dnew, e_idx, e_slc, e_call, e_blt, e_mtd, e_isi, e_dis, e_rev, wRev, e_mnd, e_lrg, wMnd, wLrg, e_comp, wEs, wO, wT, wI, wS, wTg, wTgs, CTs.len, asB_bl, wBin, wCmp, wAdd, wSubX, wI2, wMul, wEq, wLt, wCI, wIs, DL.isNon, wNeg, wIdx, wSlc, wB, wLen, seqOf, lstOf, wIsi, tyOf, isTy, wM, wML, tyD, Mtd.ty, iAny, isSeqL, isSeqT, iRng, wSet, List.getElem?_cons_zero, List.getElem?_cons_succ, List.set_cons_zero, List.set_cons_succ, List.length_cons, List.length_nil, wAt_0, wAt_1, wAt_2, wAt_3, Nat.reduceAdd, ix30, ix31, ix32, up_at, Bool.false_eq_true, ↓reduceIte, decide_true, String.reduceBEq, Bool.and_false, Bool.false_and, Bool.or_false, Bool.false_or, true_and, beq_self_eq_true, Bool.true_or, Bool.or_true, Bool.not_true, Bool.not_false, Bool.false_xor, Bool.true_xor, wipeD, List.map_cons, List.map_nil, wTgs, CTs.len]); rw [ss_nil])
    ((try simp only [e_var, wV_some, wG_some, e_non, e_bl, e_int, e_str, e_glb, e_bin, e_neg, e_no, e_and, e_or, e_cmp, e_chn, e_ife, e_tup, e_lst, e_dnew, e_idx, e_slc, e_call, e_blt, e_mtd, e_isi, e_dis, e_rev, wRev, e_mnd, e_lrg, wMnd, wLrg, e_comp, wEs, wO, wT, wI, wS, wTg, wTgs, CTs.len, asB_bl, wBin, wCmp, wAdd, wSubX, wI2, wMul, wEq, wLt, wCI, wIs, DL.isNon, wNeg, wIdx, wSlc, wB, wLen, seqOf, lstOf, wIsi, tyOf, isTy, wM, wML, tyD, Mtd.ty, iAny, isSeqL, isSeqT, iRng, wSet, List.getElem?_cons_zero, List.getElem?_cons_succ, List.set_cons_zero, List.set_cons_succ, List.length_cons, List.length_nil, wAt_0, wAt_1, wAt_2, wAt_3, Nat.reduceAdd, ix30, ix31, ix32, up_at, Bool.false_eq_true, ↓reduceIte, decide_true, String.reduceBEq, Bool.and_false, Bool.false_and, Bool.or_false, Bool.false_or, true_and, beq_self_eq_true, Bool.true_or, Bool.or_true, Bool.not_true, Bool.not_false, Bool.false_xor, Bool.true_xor, wipeD, List.map_cons, List.map_nil, wTgs, CTs.len]); rw [ss_cons]; simp only [e_var, wV_some, wG_some, e_non, e_bl, e_int, e_str, e_glb, e_bin, e_neg, e_no, e_and, e_or, e_cmp, e_chn, e_ife, e_tup, e_lst, e_dnew, e_idx, e_slc, e_call, e_blt, e_mtd, e_isi, e_dis, e_rev, wRev, e_mnd, e_lrg, wMnd, wLrg, e_comp, wEs, wO, wT, wI, wS, wTg, wTgs, CTs.len, asB_bl, wBin, wCmp, wAdd, wSubX, wI2, wMul, wEq, wLt, wCI, wIs, DL.isNon, wNeg, wIdx, wSlc, wB, wLen, seqOf, lstOf, wIsi, tyOf, isTy, wM, wML, tyD, Mtd.ty, iAny, isSeqL, isSeqT, iRng, wSet, List.getElem?_cons_zero, List.getElem?_cons_succ, List.set_cons_zero, List.set_cons_succ, List.length_cons, List.length_nil, wAt_0, wAt_1, wAt_2, wAt_3, Nat.reduceAdd, ix30, ix31, ix32, up_at, Bool.false_eq_true, ↓reduceIte, decide_true, String.reduceBEq, Bool.and_false, Bool.false_and, Bool.or_false, Bool.false_or, true_and, beq_self_eq_true, Bool.true_or, Bool.or_true, Bool.not_true, Bool.not_false, Bool.false_xor, Bool.true_xor, wipeD, List.map_cons, List.map_nil, wTgs, CTs.len, e])
    refine comp_lst (a := a) (xs := pL R) (fun i h' acc => h' = h1 ∧ acc = bL ((R.take i).map fun x => decide (x.1 < x.2))) ⟨rfl, rfl⟩ (fun _ _ _ ⟨z, _⟩ => by rw [z]; exact e) ?_ ?_
    · rintro i d h' acc hd ⟨rfl, rfl⟩
      obtain ⟨x, ex, rfl⟩ := pL_mem hd
      have hi := (List.getElem?_eq_some_iff.mp ex).1
      (try simp only [e_var, wV_some, wG_some, e_non, e_bl, e_int, e_str, e_glb, e_bin, e_neg, e_no, e_and, e_or, e_cmp, e_chn, e_ife, e_tup, e_lst, e_dnew, e_idx, e_slc, e_call, e_blt, e_mtd, e_isi, e_dis, e_rev, wRev, e_mnd, e_lrg, wMnd, wLrg, e_comp, wEs, wO, wT, wI, wS, wTg, wTgs, CTs.len, asB_bl, wBin, wCmp, wAdd, wSubX, wI2, wMul, wEq, wLt, wCI, wIs, DL.isNon, wNeg, wIdx, wSlc, wB, wLen, seqOf, lstOf, wIsi, tyOf, isTy, wM, wML, tyD, Mtd.ty, iAny, isSeqL, isSeqT, iRng, wSet, List.getElem?_cons_zero, List.getElem?_cons_succ, List.set_cons_zero, List.set_cons_succ, List.length_cons, List.length_nil, wAt_0, wAt_1, wAt_2, wAt_3, Nat.reduceAdd, ix30, ix31, ix32, up_at, Bool.false_eq_true, ↓reduceIte, decide_true, String.reduceBEq, Bool.and_false, Bool.false_and, Bool.or_false, Bool.false_or, true_and, beq_self_eq_true, Bool.true_or, Bool.or_true, Bool.not_true, Bool.not_false, Bool.false_xor, Bool.true_xor, wipeD, List.map_cons, List.map_nil, wTgs, CTs.len, ipD])
      have z : bL ((R.take i).map fun x => decide (x.1 < x.2)) ++ [D.bl (decide (x.1 < x.2))] = bL ((R.take (i + 1)).map fun x => decide (x.1 < x.2)) := by
        rw [bL_snoc, List.take_add_one, ex, List.map_append]
        rfl
      rw [z]
      refine ⟨by rw [bL_len, List.length_map, List.length_take]; omega, ?_⟩
      first
        | exact ⟨rfl, rfl⟩
        | rfl
    · rintro h' acc p ⟨rfl, rfl⟩ np
      rw [pL_len, List.take_length]
      have x2 := Ext.new (o := .lst (bL (R.map fun x => decide (x.1 < x.2)))) np
      have e := x2 _ _ e
      (try simp only [e_var, wV_some, wG_some, e_non, e_bl, e_int, e_str, e_glb, e_bin, e_neg, e_no, e_and, e_or, e_cmp, e_chn, e_ife, e_tup, e_lst, e_dnew, e_idx, e_slc, e_call, e_blt, e_mtd, e_isi, e_dis, e_rev, wRev, e_mnd, e_lrg, wMnd, wLrg, e_comp, wEs, wO, wT, wI, wS, wTg, wTgs, CTs.len, asB_bl, wBin, wCmp, wAdd, wSubX, wI2, wMul, wEq, wLt, wCI, wIs, DL.isNon, wNeg, wIdx, wSlc, wB, wLen, seqOf, lstOf, wIsi, tyOf, isTy, wM, wML, tyD, Mtd.ty, iAny, isSeqL, isSeqT, iRng, wSet, List.getElem?_cons_zero, List.getElem?_cons_succ, List.set_cons_zero, List.set_cons_succ, List.length_cons, List.length_nil, wAt_0, wAt_1, wAt_2, wAt_3, Nat.reduceAdd, ix30, ix31, ix32, up_at, Bool.false_eq_true, ↓reduceIte, decide_true, String.reduceBEq, Bool.and_false, Bool.false_and, Bool.or_false, Bool.false_or, true_and, beq_self_eq_true, Bool.true_or, Bool.or_true, Bool.not_true, Bool.not_false, Bool.false_xor, Bool.true_xor, wipeD, List.map_cons, List.map_nil, wTgs, CTs.len])
      refine ⟨_, rfl, ?_⟩
      rw [List.all_map]
      have al : R.all (id ∘ fun x => decide (x.1 < x.2)) = true := List.all_eq_true.mpr fun x hx => decide_eq_true (hl.pos x hx)
      rw [al]
      generalize up h' p (.lst (bL (R.map fun x => decide (x.1 < x.2)))) = h2 at *
      (try simp only [e_var, wV_some, wG_some, e_non, e_bl, e_int, e_str, e_glb, e_bin, e_neg, e_no, e_and, e_or, e_cmp, e_chn, e_ife, e_tup, e_lst, e_dnew, e_idx, e_slc, e_call, e_blt, e_mtd, e_isi, e_dis, e_rev, wRev, e_mnd, e_lrg, wMnd, wLrg, e_comp, wEs, wO, wT, wI, wS, wTg, wTgs, CTs.len, asB_bl, wBin, wCmp, wAdd, wSubX, wI2, wMul, wEq, wLt, wCI, wIs, DL.isNon, wNeg, wIdx, wSlc, wB, wLen, seqOf, lstOf, wIsi, tyOf, isTy, wM, wML, tyD, Mtd.ty, iAny, isSeqL, isSeqT, iRng, wSet, List.getElem?_cons_zero, List.getElem?_cons_succ, List.set_cons_zero, List.set_cons_succ, List.length_cons, List.length_nil, wAt_0, wAt_1, wAt_2, wAt_3, Nat.reduceAdd, ix30, ix31, ix32, up_at, Bool.false_eq_true, ↓reduceIte, decide_true, String.reduceBEq, Bool.and_false, Bool.false_and, Bool.or_false, Bool.false_or, true_and, beq_self_eq_true, Bool.true_or, Bool.or_true, Bool.not_true, Bool.not_false, Bool.false_xor, Bool.true_xor, wipeD, List.map_cons, List.map_nil, wTgs, CTs.len])
      ((try simp only [e_var, wV_some, wG_some, e_non, e_bl, e_int, e_str, e_glb, e_bin, e_neg, e_no, e_and, e_or, e_cmp, e_chn, e_ife, e_tup, e_lst, e_dnew, e_idx, e_slc, e_call, e_blt, e_mtd, e_isi, e_dis, e_rev, wRev, e_mnd, e_lrg, wMnd, wLrg, e_comp, wEs, wO, wT, wI, wS, wTg, wTgs, CTs.len, asB_bl, wBin, wCmp, wAdd, wSubX, wI2, wMul, wEq, wLt, wCI, wIs, DL.isNon, wNeg, wIdx, wSlc, wB, wLen, seqOf, lstOf, wIsi, tyOf, isTy, wM, wML, tyD, Mtd.ty, iAny, isSeqL, isSeqT, iRng, wSet, List.getElem?_cons_zero, List.getElem?_cons_succ, List.set_cons_zero, List.set_cons_succ, List.length_cons, List.length_nil, wAt_0, wAt_1, wAt_2, wAt_3, Nat.reduceAdd, ix30, ix31, ix32, up_at, Bool.false_eq_true, ↓reduceIte, decide_true, String.reduceBEq, Bool.and_false, Bool.false_and, Bool.or_false, Bool.false_or, true_and, beq_self_eq_true, Bool.true_or, Bool.or_true, Bool.not_true, Bool.not_false, Bool.false_xor, Bool.true_xor, wipeD, List.map_cons, List.map_nil, wTgs, CTs.len]); rw [ss_nil])
      ((try simp only [e_var, wV_some, wG_some, e_non, e_bl, e_int, e_str, e_glb, e_bin, e_neg, e_no, e_and, e_or, e_cmp, e_chn, e_ife, e_tup, e_lst, e_dnew, e_idx, e_slc, e_call, e_blt, e_mtd, e_isi, e_dis, e_rev, wRev, e_mnd, e_lrg, wMnd, wLrg, e_comp, wEs, wO, wT, wI, wS, wTg, wTgs, CTs.len, asB_bl, wBin, wCmp, wAdd, wSubX, wI2, wMul, wEq, wLt, wCI, wIs, DL.isNon, wNeg, wIdx, wSlc, wB, wLen, seqOf, lstOf, wIsi, tyOf, isTy, wM, wML, tyD, Mtd.ty, iAny, isSeqL, isSeqT, iRng, wSet, List.getElem?_cons_zero, List.getElem?_cons_succ, List.set_cons_zero, List.set_cons_succ, List.length_cons, List.length_nil, wAt_0, wAt_1, wAt_2, wAt_3, Nat.reduceAdd, ix30, ix31, ix32, up_at, Bool.false_eq_true, ↓reduceIte, decide_true, String.reduceBEq, Bool.and_false, Bool.false_and, Bool.or_false, Bool.false_or, true_and, beq_self_eq_true, Bool.true_or, Bool.or_true, Bool.not_true, Bool.not_false, Bool.false_xor, Bool.true_xor, wipeD, List.map_cons, List.map_nil, wTgs, CTs.len]); rw [ss_cons]; simp only [e_var, wV_some, wG_some, e_non, e_bl, e_int, e_str, e_glb, e_bin, e_neg, e_no, e_and, e_or, e_cmp, e_chn, e_ife, e_tup, e_lst, e_dnew, e_idx, e_slc, e_call, e_blt, e_mtd, e_isi, e_dis, e_rev, wRev, e_mnd, e_lrg, wMnd, wLrg, e_comp, wEs, wO, wT, wI, wS, wTg, wTgs, CTs.len, asB_bl, wBin, wCmp, wAdd, wSubX, wI2, wMul, wEq, wLt, wCI, wIs, DL.isNon, wNeg, wIdx, wSlc, wB, wLen, seqOf, lstOf, wIsi, tyOf, isTy, wM, wML, tyD, Mtd.ty, iAny, isSeqL, isSeqT, iRng, wSet, List.getElem?_cons_zero, List.getElem?_cons_succ, List.set_cons_zero, List.set_cons_succ, List.length_cons, List.length_nil, wAt_0, wAt_1, wAt_2, wAt_3, Nat.reduceAdd, ix30, ix31, ix32, up_at, Bool.false_eq_true, ↓reduceIte, decide_true, String.reduceBEq, Bool.and_false, Bool.false_and, Bool.or_false, Bool.false_or, true_and, beq_self_eq_true, Bool.true_or, Bool.or_true, Bool.not_true, Bool.not_false, Bool.false_xor, Bool.true_xor, wipeD, List.map_cons, List.map_nil, wTgs, CTs.len, e])
      intro r nr
      have x3 := Ext.new (o := .lst (cutD (pL R) (some 1) none)) nr
      have er := up_at (h := h2) (p := r) (o := .lst (cutD (pL R) (some 1) none))
      have e := x3 _ _ e
      have ec : cutD (pL R) (some 1) none = pL (R.drop 1) := by
        unfold cutD
        have e1 : HT.sIx (pL R).length (pL R).length none = (pL R).length := rfl
        have e2 : HT.sIx (pL R).length 0 (some 1) = min 1 (pL R).length := rfl
        rw [e1, e2]
        cases R with
        | nil => rfl
        | cons x r =>
          have : min 1 (pL (x :: r)).length = 1 := by rw [pL_len]; simp
          rw [this]
          exact List.take_of_length_le (by simp [pL])
      rw [ec] at er x3 e
      rw [ec]
      have xx := (x1.trans x2).trans x3
      generalize up h2 r (.lst (pL (R.drop 1))) = h3 at *
      (try simp only [e_var, wV_some, wG_some, e_non, e_bl, e_int, e_str, e_glb, e_bin, e_neg, e_no, e_and, e_or, e_cmp, e_chn, e_ife, e_tup, e_lst, e_dnew, e_idx, e_slc, e_call, e_blt, e_mtd, e_isi, e_dis, e_rev, wRev, e_mnd, e_lrg, wMnd, wLrg, e_comp, wEs, wO, wT, wI, wS, wTg, wTgs, CTs.len, asB_bl, wBin, wCmp, wAdd, wSubX, wI2, wMul, wEq, wLt, wCI, wIs, DL.isNon, wNeg, wIdx, wSlc, wB, wLen, seqOf, lstOf, wIsi, tyOf, isTy, wM, wML, tyD, Mtd.ty, iAny, isSeqL, isSeqT, iRng, wSet, List.getElem?_cons_zero, List.getElem?_cons_succ, List.set_cons_zero, List.set_cons_succ, List.length_cons, List.length_nil, wAt_0, wAt_1, wAt_2, wAt_3, Nat.reduceAdd, ix30, ix31, ix32, up_at, Bool.false_eq_true, ↓reduceIte, decide_true, String.reduceBEq, Bool.and_false, Bool.false_and, Bool.or_false, Bool.false_or, true_and, beq_self_eq_true, Bool.true_or, Bool.or_true, Bool.not_true, Bool.not_false, Bool.false_xor, Bool.true_xor, wipeD, List.map_cons, List.map_nil, wTgs, CTs.len, iZp, e, er])
      refine comp_gen (xs := zipD (pL R) (pL (R.drop 1))) (fun i h' acc => h' = h3 ∧ acc = bL ((adj R).take i)) ⟨rfl, rfl⟩ (fun i h' acc _ ⟨z, _⟩ => by rw [z]; exact next_zip e er) ?_ ?_
      · rintro i d h' acc hd ⟨rfl, rfl⟩
        unfold zipD at hd
        rw [List.getElem?_map] at hd
        obtain ⟨⟨u, v⟩, ez, rfl⟩ := Option.map_eq_some_iff.mp hd
        have ez2 := List.getElem?_zip_eq_some.mp ez
        obtain ⟨x, ex, rfl⟩ := pL_mem ez2.1
        obtain ⟨y, ey, rfl⟩ := pL_mem ez2.2
        have ea : (adj R)[i]? = some (decide (x.2 < y.1)) := by
          unfold adj
          rw [List.getElem?_map, List.getElem?_zip_eq_some (z := (x, y)) |>.mpr ⟨ex, ey⟩]
          rfl
        have hi := (List.getElem?_eq_some_iff.mp ex).1
        (try simp only [e_var, wV_some, wG_some, e_non, e_bl, e_int, e_str, e_glb, e_bin, e_neg, e_no, e_and, e_or, e_cmp, e_chn, e_ife, e_tup, e_lst, e_dnew, e_idx, e_slc, e_call, e_blt, e_mtd, e_isi, e_dis, e_rev, wRev, e_mnd, e_lrg, wMnd, wLrg, e_comp, wEs, wO, wT, wI, wS, wTg, wTgs, CTs.len, asB_bl, wBin, wCmp, wAdd, wSubX, wI2, wMul, wEq, wLt, wCI, wIs, DL.isNon, wNeg, wIdx, wSlc, wB, wLen, seqOf, lstOf, wIsi, tyOf, isTy, wM, wML, tyD, Mtd.ty, iAny, isSeqL, isSeqT, iRng, wSet, List.getElem?_cons_zero, List.getElem?_cons_succ, List.set_cons_zero, List.set_cons_succ, List.length_cons, List.length_nil, wAt_0, wAt_1, wAt_2, wAt_3, Nat.reduceAdd, ix30, ix31, ix32, up_at, Bool.false_eq_true, ↓reduceIte, decide_true, String.reduceBEq, Bool.and_false, Bool.false_and, Bool.or_false, Bool.false_or, true_and, beq_self_eq_true, Bool.true_or, Bool.or_true, Bool.not_true, Bool.not_false, Bool.false_xor, Bool.true_xor, wipeD, List.map_cons, List.map_nil, wTgs, CTs.len, ipD])
        have z : bL ((adj R).take i) ++ [D.bl (decide (x.2 < y.1))] = bL ((adj R).take (i + 1)) := by
          rw [bL_snoc, List.take_add_one, ea]
          rfl
        rw [z]
        refine ⟨by rw [bL_len, List.length_take]; omega, ?_⟩
        first
          | exact ⟨rfl, rfl⟩
          | rfl
      · rintro h' acc p ⟨rfl, rfl⟩ np
        have el : (zipD (pL R) (pL (R.drop 1))).length = (adj R).length := by
          unfold zipD adj
          rw [List.length_map, List.length_map, List.length_zip, List.length_zip, pL_len, pL_len]
        rw [el, List.take_length]
        (try simp only [e_var, wV_some, wG_some, e_non, e_bl, e_int, e_str, e_glb, e_bin, e_neg, e_no, e_and, e_or, e_cmp, e_chn, e_ife, e_tup, e_lst, e_dnew, e_idx, e_slc, e_call, e_blt, e_mtd, e_isi, e_dis, e_rev, wRev, e_mnd, e_lrg, wMnd, wLrg, e_comp, wEs, wO, wT, wI, wS, wTg, wTgs, CTs.len, asB_bl, wBin, wCmp, wAdd, wSubX, wI2, wMul, wEq, wLt, wCI, wIs, DL.isNon, wNeg, wIdx, wSlc, wB, wLen, seqOf, lstOf, wIsi, tyOf, isTy, wM, wML, tyD, Mtd.ty, iAny, isSeqL, isSeqT, iRng, wSet, List.getElem?_cons_zero, List.getElem?_cons_succ, List.set_cons_zero, List.set_cons_succ, List.length_cons, List.length_nil, wAt_0, wAt_1, wAt_2, wAt_3, Nat.reduceAdd, ix30, ix31, ix32, up_at, Bool.false_eq_true, ↓reduceIte, decide_true, String.reduceBEq, Bool.and_false, Bool.false_and, Bool.or_false, Bool.false_or, true_and, beq_self_eq_true, Bool.true_or, Bool.or_true, Bool.not_true, Bool.not_false, Bool.false_xor, Bool.true_xor, wipeD, List.map_cons, List.map_nil, wTgs, CTs.len])
        refine ⟨_, rfl, ?_⟩
        have := lotB_lot hl
        rw [lotB_adj hl.pos] at this
        rw [this]
        exact q _ (xx.trans (Ext.new np))
theorem both_b {A B R : List IP} (b : Both A B R) (m : Int) : innb R m = (innb A m && innb B m) := by
  rw [Bool.eq_iff_iff, Bool.and_eq_true, innb_iff, innb_iff, innb_iff]
  exact b.2 m
theorem wout_b {A B R : List IP} (b : Wout A B R) (m : Int) : innb R m = (innb A m && !innb B m) := by
  rw [Bool.eq_iff_iff, Bool.and_eq_true, Bool.not_eq_true', innb_iff, innb_iff, b.2 m, ← Bool.not_eq_true, innb_iff]
theorem tot_two {A B R S : List IP} (hA : Lot A) (b : Both A B R) (w : Wout A B S) : tot R + tot S = tot A :=
  tot_parts (p := innb B) hA b.1 w.1 (fun m => by rw [b.2 m, innb_iff]) (fun m => by rw [w.2 m, ← Bool.not_eq_true, innb_iff])
end
section
variable {n : Nat} {h : DH} {Q : QD} {E : XD}
theorem right {aA bA : Addr} {A B : List IP} (hA : Lot A) (hB : Lot B) (lA : A.length ≤ 60) (lB : B.length ≤ 60) (h1 : h aA = some (.lst (pL A))) (h2 : h bA = some (.lst (pL B))) (q : ∀ h2, Ext h h2 → Q (.bl true) h2) : run gl ds (n + 4) 11 [.ref aA, .ref bA] h Q E := by
  refine e11 ?_
  ((try simp only [e_var, wV_some, wG_some, e_non, e_bl, e_int, e_str, e_glb, e_bin, e_neg, e_no, e_and, e_or, e_cmp, e_chn, e_ife, e_tup, e_lst, e_dnew, e_idx, e_slc, e_call, e_blt, e_mtd, e_isi, e_dis, e_rev, wRev, e_mnd, e_lrg, wMnd, wLrg, e_comp, wEs, wO, wT, wI, wS, wTg, wTgs, CTs.len, asB_bl, wBin, wCmp, wAdd, wSubX, wI2, wMul, wEq, wLt, wCI, wIs, DL.isNon, wNeg, wIdx, wSlc, wB, wLen, seqOf, lstOf, wIsi, tyOf, isTy, wM, wML, tyD, Mtd.ty, iAny, isSeqL, isSeqT, iRng, wSet, List.getElem?_cons_zero, List.getElem?_cons_succ, List.set_cons_zero, List.set_cons_succ, List.length_cons, List.length_nil, wAt_0, wAt_1, wAt_2, wAt_3, Nat.reduceAdd, ix30, ix31, ix32, up_at, Bool.false_eq_true, ↓reduceIte, decide_true, String.reduceBEq, Bool.and_false, Bool.false_and, Bool.or_false, Bool.false_or, true_and, beq_self_eq_true, Bool.true_or, Bool.or_true, Bool.not_true, Bool.not_false, Bool.false_xor, Bool.true_xor, wipeD, List.map_cons, List.map_nil, wTgs, CTs.len]); rw [ss_cons]; simp only [e_var, wV_some, wG_some, e_non, e_bl, e_int, e_str, e_glb, e_bin, e_neg, e_no, e_and, e_or, e_cmp, e_chn, e_ife, e_tup, e_lst, e_dnew, e_idx, e_slc, e_call, e_blt, e_mtd, e_isi, e_dis, e_rev, wRev, e_mnd, e_lrg, wMnd, wLrg, e_comp, wEs, wO, wT, wI, wS, wTg, wTgs, CTs.len, asB_bl, wBin, wCmp, wAdd, wSubX, wI2, wMul, wEq, wLt, wCI, wIs, DL.isNon, wNeg, wIdx, wSlc, wB, wLen, seqOf, lstOf, wIsi, tyOf, isTy, wM, wML, tyD, Mtd.ty, iAny, isSeqL, isSeqT, iRng, wSet, List.getElem?_cons_zero, List.getElem?_cons_succ, List.set_cons_zero, List.set_cons_succ, List.length_cons, List.length_nil, wAt_0, wAt_1, wAt_2, wAt_3, Nat.reduceAdd, ix30, ix31, ix32, up_at, Bool.false_eq_true, ↓reduceIte, decide_true, String.reduceBEq, Bool.and_false, Bool.false_and, Bool.or_false, Bool.false_or, true_and, beq_self_eq_true, Bool.true_or, Bool.or_true, Bool.not_true, Bool.not_false, Bool.false_xor, Bool.true_xor, wipeD, List.map_cons, List.map_nil, wTgs, CTs.len, h1])
  intro K1 nK1
  have y1 := Ext.new (o := .lst (pL A)) nK1
  have eK1 := up_at (h := h) (p := K1) (o := .lst (pL A))
  have g1 := y1 _ _ h1
  have g2 := y1 _ _ h2
  have x := y1
  generalize up h K1 (.lst (pL A)) = h3 at *
  (try simp only [e_var, wV_some, wG_some, e_non, e_bl, e_int, e_str, e_glb, e_bin, e_neg, e_no, e_and, e_or, e_cmp, e_chn, e_ife, e_tup, e_lst, e_dnew, e_idx, e_slc, e_call, e_blt, e_mtd, e_isi, e_dis, e_rev, wRev, e_mnd, e_lrg, wMnd, wLrg, e_comp, wEs, wO, wT, wI, wS, wTg, wTgs, CTs.len, asB_bl, wBin, wCmp, wAdd, wSubX, wI2, wMul, wEq, wLt, wCI, wIs, DL.isNon, wNeg, wIdx, wSlc, wB, wLen, seqOf, lstOf, wIsi, tyOf, isTy, wM, wML, tyD, Mtd.ty, iAny, isSeqL, isSeqT, iRng, wSet, List.getElem?_cons_zero, List.getElem?_cons_succ, List.set_cons_zero, List.set_cons_succ, List.length_cons, List.length_nil, wAt_0, wAt_1, wAt_2, wAt_3, Nat.reduceAdd, ix30, ix31, ix32, up_at, Bool.false_eq_true, ↓reduceIte, decide_true, String.reduceBEq, Bool.and_false, Bool.false_and, Bool.or_false, Bool.false_or, true_and, beq_self_eq_true, Bool.true_or, Bool.or_true, Bool.not_true, Bool.not_false, Bool.false_xor, Bool.true_xor, wipeD, List.map_cons, List.map_nil, wTgs, CTs.len, g2])
  intro K2 nK2
  have y2 := Ext.new (o := .lst (pL B)) nK2
  have eK2 := up_at (h := h3) (p := K2) (o := .lst (pL B))
  have eK1 := y2 _ _ eK1
  have g1 := y2 _ _ g1
  have g2 := y2 _ _ g2
  have x := x.trans y2
  generalize up h3 K2 (.lst (pL B)) = h4 at *
  refine ⟨by omega, ?_⟩
  ((try simp only [e_var, wV_some, wG_some, e_non, e_bl, e_int, e_str, e_glb, e_bin, e_neg, e_no, e_and, e_or, e_cmp, e_chn, e_ife, e_tup, e_lst, e_dnew, e_idx, e_slc, e_call, e_blt, e_mtd, e_isi, e_dis, e_rev, wRev, e_mnd, e_lrg, wMnd, wLrg, e_comp, wEs, wO, wT, wI, wS, wTg, wTgs, CTs.len, asB_bl, wBin, wCmp, wAdd, wSubX, wI2, wMul, wEq, wLt, wCI, wIs, DL.isNon, wNeg, wIdx, wSlc, wB, wLen, seqOf, lstOf, wIsi, tyOf, isTy, wM, wML, tyD, Mtd.ty, iAny, isSeqL, isSeqT, iRng, wSet, List.getElem?_cons_zero, List.getElem?_cons_succ, List.set_cons_zero, List.set_cons_succ, List.length_cons, List.length_nil, wAt_0, wAt_1, wAt_2, wAt_3, Nat.reduceAdd, ix30, ix31, ix32, up_at, Bool.false_eq_true, ↓reduceIte, decide_true, String.reduceBEq, Bool.and_false, Bool.false_and, Bool.or_false, Bool.false_or, true_and, beq_self_eq_true, Bool.true_or, Bool.or_true, Bool.not_true, Bool.not_false, Bool.false_xor, Bool.true_xor, wipeD, List.map_cons, List.map_nil, wTgs, CTs.len]); rw [ss_cons]; simp only [e_var, wV_some, wG_some, e_non, e_bl, e_int, e_str, e_glb, e_bin, e_neg, e_no, e_and, e_or, e_cmp, e_chn, e_ife, e_tup, e_lst, e_dnew, e_idx, e_slc, e_call, e_blt, e_mtd, e_isi, e_dis, e_rev, wRev, e_mnd, e_lrg, wMnd, wLrg, e_comp, wEs, wO, wT, wI, wS, wTg, wTgs, CTs.len, asB_bl, wBin, wCmp, wAdd, wSubX, wI2, wMul, wEq, wLt, wCI, wIs, DL.isNon, wNeg, wIdx, wSlc, wB, wLen, seqOf, lstOf, wIsi, tyOf, isTy, wM, wML, tyD, Mtd.ty, iAny, isSeqL, isSeqT, iRng, wSet, List.getElem?_cons_zero, List.getElem?_cons_succ, List.set_cons_zero, List.set_cons_succ, List.length_cons, List.length_nil, wAt_0, wAt_1, wAt_2, wAt_3, Nat.reduceAdd, ix30, ix31, ix32, up_at, Bool.false_eq_true, ↓reduceIte, decide_true, String.reduceBEq, Bool.and_false, Bool.false_and, Bool.or_false, Bool.false_or, true_and, beq_self_eq_true, Bool.true_or, Bool.or_true, Bool.not_true, Bool.not_false, Bool.false_xor, Bool.true_xor, wipeD, List.map_cons, List.map_nil, wTgs, CTs.len])
  refine both hA hB (by omega) (by omega) g1 g2 fun S R h5 nS x5 eS bR lR => ?_
  have nSh := x.free nS
  have x := x.trans x5
  have g1 := x5 _ _ g1
  have g2 := x5 _ _ g2
  have eK1 := x5 _ _ eK1
  have eK2 := x5 _ _ eK2
  (try simp only [e_var, wV_some, wG_some, e_non, e_bl, e_int, e_str, e_glb, e_bin, e_neg, e_no, e_and, e_or, e_cmp, e_chn, e_ife, e_tup, e_lst, e_dnew, e_idx, e_slc, e_call, e_blt, e_mtd, e_isi, e_dis, e_rev, wRev, e_mnd, e_lrg, wMnd, wLrg, e_comp, wEs, wO, wT, wI, wS, wTg, wTgs, CTs.len, asB_bl, wBin, wCmp, wAdd, wSubX, wI2, wMul, wEq, wLt, wCI, wIs, DL.isNon, wNeg, wIdx, wSlc, wB, wLen, seqOf, lstOf, wIsi, tyOf, isTy, wM, wML, tyD, Mtd.ty, iAny, isSeqL, isSeqT, iRng, wSet, List.getElem?_cons_zero, List.getElem?_cons_succ, List.set_cons_zero, List.set_cons_succ, List.length_cons, List.length_nil, wAt_0, wAt_1, wAt_2, wAt_3, Nat.reduceAdd, ix30, ix31, ix32, up_at, Bool.false_eq_true, ↓reduceIte, decide_true, String.reduceBEq, Bool.and_false, Bool.false_and, Bool.or_false, Bool.false_or, true_and, beq_self_eq_true, Bool.true_or, Bool.or_true, Bool.not_true, Bool.not_false, Bool.false_xor, Bool.true_xor, wipeD, List.map_cons, List.map_nil, wTgs, CTs.len])
  refine without hA hB (by omega) (by omega) g1 g2 fun L T h6 nL x6 eL bT lT => ?_
  have nSL : S ≠ L := Ext.isnew nL eS
  have nLh := x.free nL
  have x := x.trans x6
  have g1 := x6 _ _ g1
  have g2 := x6 _ _ g2
  have eK1 := x6 _ _ eK1
  have eK2 := x6 _ _ eK2
  have eS := x6 _ _ eS
  have lR' : R.length ≤ 4000 := Nat.le_trans lR (Nat.le_trans (Nat.mul_le_mul lA lB) (by decide))
  have lT' : T.length ≤ 4000 := Nat.le_trans lT (Nat.le_trans (Nat.mul_le_mul lA (by omega : B.length + 1 ≤ 61)) (by decide))
  ((try simp only [e_var, wV_some, wG_some, e_non, e_bl, e_int, e_str, e_glb, e_bin, e_neg, e_no, e_and, e_or, e_cmp, e_chn, e_ife, e_tup, e_lst, e_dnew, e_idx, e_slc, e_call, e_blt, e_mtd, e_isi, e_dis, e_rev, wRev, e_mnd, e_lrg, wMnd, wLrg, e_comp, wEs, wO, wT, wI, wS, wTg, wTgs, CTs.len, asB_bl, wBin, wCmp, wAdd, wSubX, wI2, wMul, wEq, wLt, wCI, wIs, DL.isNon, wNeg, wIdx, wSlc, wB, wLen, seqOf, lstOf, wIsi, tyOf, isTy, wM, wML, tyD, Mtd.ty, iAny, isSeqL, isSeqT, iRng, wSet, List.getElem?_cons_zero, List.getElem?_cons_succ, List.set_cons_zero, List.set_cons_succ, List.length_cons, List.length_nil, wAt_0, wAt_1, wAt_2, wAt_3, Nat.reduceAdd, ix30, ix31, ix32, up_at, Bool.false_eq_true, ↓reduceIte, decide_true, String.reduceBEq, Bool.and_false, Bool.false_and, Bool.or_false, Bool.false_or, true_and, beq_self_eq_true, Bool.true_or, Bool.or_true, Bool.not_true, Bool.not_false, Bool.false_xor, Bool.true_xor, wipeD, List.map_cons, List.map_nil, wTgs, CTs.len]); rw [ss_cons]; simp only [e_var, wV_some, wG_some, e_non, e_bl, e_int, e_str, e_glb, e_bin, e_neg, e_no, e_and, e_or, e_cmp, e_chn, e_ife, e_tup, e_lst, e_dnew, e_idx, e_slc, e_call, e_blt, e_mtd, e_isi, e_dis, e_rev, wRev, e_mnd, e_lrg, wMnd, wLrg, e_comp, wEs, wO, wT, wI, wS, wTg, wTgs, CTs.len, asB_bl, wBin, wCmp, wAdd, wSubX, wI2, wMul, wEq, wLt, wCI, wIs, DL.isNon, wNeg, wIdx, wSlc, wB, wLen, seqOf, lstOf, wIsi, tyOf, isTy, wM, wML, tyD, Mtd.ty, iAny, isSeqL, isSeqT, iRng, wSet, List.getElem?_cons_zero, List.getElem?_cons_succ, List.set_cons_zero, List.set_cons_succ, List.length_cons, List.length_nil, wAt_0, wAt_1, wAt_2, wAt_3, Nat.reduceAdd, ix30, ix31, ix32, up_at, Bool.false_eq_true, ↓reduceIte, decide_true, String.reduceBEq, Bool.and_false, Bool.false_and, Bool.or_false, Bool.false_or, true_and, beq_self_eq_true, Bool.true_or, Bool.or_true, Bool.not_true, Bool.not_false, Bool.false_xor, Bool.true_xor, wipeD, List.map_cons, List.map_nil, wTgs, CTs.len])
  refine ⟨by omega, ?_⟩
  refine wEqG_same (dpy_two g1 g2) (dpy_two eK1 eK2) (shaped_two A B) ?_
  (try simp only [e_var, wV_some, wG_some, e_non, e_bl, e_int, e_str, e_glb, e_bin, e_neg, e_no, e_and, e_or, e_cmp, e_chn, e_ife, e_tup, e_lst, e_dnew, e_idx, e_slc, e_call, e_blt, e_mtd, e_isi, e_dis, e_rev, wRev, e_mnd, e_lrg, wMnd, wLrg, e_comp, wEs, wO, wT, wI, wS, wTg, wTgs, CTs.len, asB_bl, wBin, wCmp, wAdd, wSubX, wI2, wMul, wEq, wLt, wCI, wIs, DL.isNon, wNeg, wIdx, wSlc, wB, wLen, seqOf, lstOf, wIsi, tyOf, isTy, wM, wML, tyD, Mtd.ty, iAny, isSeqL, isSeqT, iRng, wSet, List.getElem?_cons_zero, List.getElem?_cons_succ, List.set_cons_zero, List.set_cons_succ, List.length_cons, List.length_nil, wAt_0, wAt_1, wAt_2, wAt_3, Nat.reduceAdd, ix30, ix31, ix32, up_at, Bool.false_eq_true, ↓reduceIte, decide_true, String.reduceBEq, Bool.and_false, Bool.false_and, Bool.or_false, Bool.false_or, true_and, beq_self_eq_true, Bool.true_or, Bool.or_true, Bool.not_true, Bool.not_false, Bool.false_xor, Bool.true_xor, wipeD, List.map_cons, List.map_nil, wTgs, CTs.len])
  refine islot eS bR.1 (by omega) fun h7 x7 => ?_
  have x := x.trans x7
  have eL := x7 _ _ eL
  have eS := x7 _ _ eS
  have g1 := x7 _ _ g1
  have g2 := x7 _ _ g2
  (try simp only [e_var, wV_some, wG_some, e_non, e_bl, e_int, e_str, e_glb, e_bin, e_neg, e_no, e_and, e_or, e_cmp, e_chn, e_ife, e_tup, e_lst, e_dnew, e_idx, e_slc, e_call, e_blt, e_mtd, e_isi, e_dis, e_rev, wRev, e_mnd, e_lrg, wMnd, wLrg, e_comp, wEs, wO, wT, wI, wS, wTg, wTgs, CTs.len, asB_bl, wBin, wCmp, wAdd, wSubX, wI2, wMul, wEq, wLt, wCI, wIs, DL.isNon, wNeg, wIdx, wSlc, wB, wLen, seqOf, lstOf, wIsi, tyOf, isTy, wM, wML, tyD, Mtd.ty, iAny, isSeqL, isSeqT, iRng, wSet, List.getElem?_cons_zero, List.getElem?_cons_succ, List.set_cons_zero, List.set_cons_succ, List.length_cons, List.length_nil, wAt_0, wAt_1, wAt_2, wAt_3, Nat.reduceAdd, ix30, ix31, ix32, up_at, Bool.false_eq_true, ↓reduceIte, decide_true, String.reduceBEq, Bool.and_false, Bool.false_and, Bool.or_false, Bool.false_or, true_and, beq_self_eq_true, Bool.true_or, Bool.or_true, Bool.not_true, Bool.not_false, Bool.false_xor, Bool.true_xor, wipeD, List.map_cons, List.map_nil, wTgs, CTs.len])
  refine islot eL bT.1 (by omega) fun h8 x8 => ?_
  have x := x.trans x8
  have eL := x8 _ _ eL
  have eS := x8 _ _ eS
  have g1 := x8 _ _ g1
  have g2 := x8 _ _ g2
  (try simp only [e_var, wV_some, wG_some, e_non, e_bl, e_int, e_str, e_glb, e_bin, e_neg, e_no, e_and, e_or, e_cmp, e_chn, e_ife, e_tup, e_lst, e_dnew, e_idx, e_slc, e_call, e_blt, e_mtd, e_isi, e_dis, e_rev, wRev, e_mnd, e_lrg, wMnd, wLrg, e_comp, wEs, wO, wT, wI, wS, wTg, wTgs, CTs.len, asB_bl, wBin, wCmp, wAdd, wSubX, wI2, wMul, wEq, wLt, wCI, wIs, DL.isNon, wNeg, wIdx, wSlc, wB, wLen, seqOf, lstOf, wIsi, tyOf, isTy, wM, wML, tyD, Mtd.ty, iAny, isSeqL, isSeqT, iRng, wSet, List.getElem?_cons_zero, List.getElem?_cons_succ, List.set_cons_zero, List.set_cons_succ, List.length_cons, List.length_nil, wAt_0, wAt_1, wAt_2, wAt_3, Nat.reduceAdd, ix30, ix31, ix32, up_at, Bool.false_eq_true, ↓reduceIte, decide_true, String.reduceBEq, Bool.and_false, Bool.false_and, Bool.or_false, Bool.false_or, true_and, beq_self_eq_true, Bool.true_or, Bool.or_true, Bool.not_true, Bool.not_false, Bool.false_xor, Bool.true_xor, wipeD, List.map_cons, List.map_nil, wTgs, CTs.len])
  ((try simp only [e_var, wV_some, wG_some, e_non, e_bl, e_int, e_str, e_glb, e_bin, e_neg, e_no, e_and, e_or, e_cmp, e_chn, e_ife, e_tup, e_lst, e_dnew, e_idx, e_slc, e_call, e_blt, e_mtd, e_isi, e_dis, e_rev, wRev, e_mnd, e_lrg, wMnd, wLrg, e_comp, wEs, wO, wT, wI, wS, wTg, wTgs, CTs.len, asB_bl, wBin, wCmp, wAdd, wSubX, wI2, wMul, wEq, wLt, wCI, wIs, DL.isNon, wNeg, wIdx, wSlc, wB, wLen, seqOf, lstOf, wIsi, tyOf, isTy, wM, wML, tyD, Mtd.ty, iAny, isSeqL, isSeqT, iRng, wSet, List.getElem?_cons_zero, List.getElem?_cons_succ, List.set_cons_zero, List.set_cons_succ, List.length_cons, List.length_nil, wAt_0, wAt_1, wAt_2, wAt_3, Nat.reduceAdd, ix30, ix31, ix32, up_at, Bool.false_eq_true, ↓reduceIte, decide_true, String.reduceBEq, Bool.and_false, Bool.false_and, Bool.or_false, Bool.false_or, true_and, beq_self_eq_true, Bool.true_or, Bool.or_true, Bool.not_true, Bool.not_false, Bool.false_xor, Bool.true_xor, wipeD, List.map_cons, List.map_nil, wTgs, CTs.len]); rw [ss_nil])
  clear x7 x8 x5 x6 y1 y2 eK1 eK2 nK1 nK2 nL nS
  ((try simp only [e_var, wV_some, wG_some, e_non, e_bl, e_int, e_str, e_glb, e_bin, e_neg, e_no, e_and, e_or, e_cmp, e_chn, e_ife, e_tup, e_lst, e_dnew, e_idx, e_slc, e_call, e_blt, e_mtd, e_isi, e_dis, e_rev, wRev, e_mnd, e_lrg, wMnd, wLrg, e_comp, wEs, wO, wT, wI, wS, wTg, wTgs, CTs.len, asB_bl, wBin, wCmp, wAdd, wSubX, wI2, wMul, wEq, wLt, wCI, wIs, DL.isNon, wNeg, wIdx, wSlc, wB, wLen, seqOf, lstOf, wIsi, tyOf, isTy, wM, wML, tyD, Mtd.ty, iAny, isSeqL, isSeqT, iRng, wSet, List.getElem?_cons_zero, List.getElem?_cons_succ, List.set_cons_zero, List.set_cons_succ, List.length_cons, List.length_nil, wAt_0, wAt_1, wAt_2, wAt_3, Nat.reduceAdd, ix30, ix31, ix32, up_at, Bool.false_eq_true, ↓reduceIte, decide_true, String.reduceBEq, Bool.and_false, Bool.false_and, Bool.or_false, Bool.false_or, true_and, beq_self_eq_true, Bool.true_or, Bool.or_true, Bool.not_true, Bool.not_false, Bool.false_xor, Bool.true_xor, wipeD, List.map_cons, List.map_nil, wTgs, CTs.len]); rw [ss_cons]; simp only [e_var, wV_some, wG_some, e_non, e_bl, e_int, e_str, e_glb, e_bin, e_neg, e_no, e_and, e_or, e_cmp, e_chn, e_ife, e_tup, e_lst, e_dnew, e_idx, e_slc, e_call, e_blt, e_mtd, e_isi, e_dis, e_rev, wRev, e_mnd, e_lrg, wMnd, wLrg, e_comp, wEs, wO, wT, wI, wS, wTg, wTgs, CTs.len, asB_bl, wBin, wCmp, wAdd, wSubX, wI2, wMul, wEq, wLt, wCI, wIs, DL.isNon, wNeg, wIdx, wSlc, wB, wLen, seqOf, lstOf, wIsi, tyOf, isTy, wM, wML, tyD, Mtd.ty, iAny, isSeqL, isSeqT, iRng, wSet, List.getElem?_cons_zero, List.getElem?_cons_succ, List.set_cons_zero, List.set_cons_succ, List.length_cons, List.length_nil, wAt_0, wAt_1, wAt_2, wAt_3, Nat.reduceAdd, ix30, ix31, ix32, up_at, Bool.false_eq_true, ↓reduceIte, decide_true, String.reduceBEq, Bool.and_false, Bool.false_and, Bool.or_false, Bool.false_or, true_and, beq_self_eq_true, Bool.true_or, Bool.or_true, Bool.not_true, Bool.not_false, Bool.false_xor, Bool.true_xor, wipeD, List.map_cons, List.map_nil, wTgs, CTs.len])
  refine ⟨by omega, fun U nU => ?_⟩
  have x5 := Ext.new (o := .lst []) nU
  have e_U := up_at (h := h8) (p := U) (o := .lst [])
  generalize up h8 U (.lst []) = h9 at *
  ((try simp only [e_var, wV_some, wG_some, e_non, e_bl, e_int, e_str, e_glb, e_bin, e_neg, e_no, e_and, e_or, e_cmp, e_chn, e_ife, e_tup, e_lst, e_dnew, e_idx, e_slc, e_call, e_blt, e_mtd, e_isi, e_dis, e_rev, wRev, e_mnd, e_lrg, wMnd, wLrg, e_comp, wEs, wO, wT, wI, wS, wTg, wTgs, CTs.len, asB_bl, wBin, wCmp, wAdd, wSubX, wI2, wMul, wEq, wLt, wCI, wIs, DL.isNon, wNeg, wIdx, wSlc, wB, wLen, seqOf, lstOf, wIsi, tyOf, isTy, wM, wML, tyD, Mtd.ty, iAny, isSeqL, isSeqT, iRng, wSet, List.getElem?_cons_zero, List.getElem?_cons_succ, List.set_cons_zero, List.set_cons_succ, List.length_cons, List.length_nil, wAt_0, wAt_1, wAt_2, wAt_3, Nat.reduceAdd, ix30, ix31, ix32, up_at, Bool.false_eq_true, ↓reduceIte, decide_true, String.reduceBEq, Bool.and_false, Bool.false_and, Bool.or_false, Bool.false_or, true_and, beq_self_eq_true, Bool.true_or, Bool.or_true, Bool.not_true, Bool.not_false, Bool.false_xor, Bool.true_xor, wipeD, List.map_cons, List.map_nil, wTgs, CTs.len]); rw [ss_cons]; simp only [e_var, wV_some, wG_some, e_non, e_bl, e_int, e_str, e_glb, e_bin, e_neg, e_no, e_and, e_or, e_cmp, e_chn, e_ife, e_tup, e_lst, e_dnew, e_idx, e_slc, e_call, e_blt, e_mtd, e_isi, e_dis, e_rev, wRev, e_mnd, e_lrg, wMnd, wLrg, e_comp, wEs, wO, wT, wI, wS, wTg, wTgs, CTs.len, asB_bl, wBin, wCmp, wAdd, wSubX, wI2, wMul, wEq, wLt, wCI, wIs, DL.isNon, wNeg, wIdx, wSlc, wB, wLen, seqOf, lstOf, wIsi, tyOf, isTy, wM, wML, tyD, Mtd.ty, iAny, isSeqL, isSeqT, iRng, wSet, List.getElem?_cons_zero, List.getElem?_cons_succ, List.set_cons_zero, List.set_cons_succ, List.length_cons, List.length_nil, wAt_0, wAt_1, wAt_2, wAt_3, Nat.reduceAdd, ix30, ix31, ix32, up_at, Bool.false_eq_true, ↓reduceIte, decide_true, String.reduceBEq, Bool.and_false, Bool.false_and, Bool.or_false, Bool.false_or, true_and, beq_self_eq_true, Bool.true_or, Bool.or_true, Bool.not_true, Bool.not_false, Bool.false_xor, Bool.true_xor, wipeD, List.map_cons, List.map_nil, wTgs, CTs.len, x5 _ _ g1, x5 _ _ g2, x5 _ _ eS, x5 _ _ eL])
  rw [pL_len, pL_len]
  refine ⟨by omega, fun w1 m1 => ?_⟩
  rw [← pL_app]
  have x6 := Ext.new (o := .lst (pL (A ++ B))) m1
  have e1 := up_at (h := h9) (p := w1) (o := .lst (pL (A ++ B)))
  have e_U := x6 _ _ e_U
  have x46 := x5.trans x6
  generalize up h9 w1 (.lst (pL (A ++ B))) = h10 at *
  simp only [x46 _ _ eS]
  rw [pL_len, pL_len, List.length_append]
  refine ⟨by omega, fun w2 m2 => ?_⟩
  rw [← pL_app]
  have x7 := Ext.new (o := .lst (pL (A ++ B ++ R))) m2
  have e2 := up_at (h := h10) (p := w2) (o := .lst (pL (A ++ B ++ R)))
  have e_U := x7 _ _ e_U
  have x46 := x46.trans x7
  generalize up h10 w2 (.lst (pL (A ++ B ++ R))) = h11 at *
  simp only [x46 _ _ eL]
  rw [pL_len, pL_len, List.length_append, List.length_append]
  refine ⟨by omega, fun W nW => ?_⟩
  rw [← pL_app]
  have x8 := Ext.new (o := .lst (pL (A ++ B ++ R ++ T))) nW
  have e_W := up_at (h := h11) (p := W) (o := .lst (pL (A ++ B ++ R ++ T)))
  have nWU : U ≠ W := Ext.isnew nW e_U
  have e_U := x8 _ _ e_U
  have x46 := x46.trans x8
  have lC : (A ++ B ++ R ++ T).length ≤ 9000 := by rw [List.length_append, List.length_append, List.length_append]; omega
  generalize up h11 W (.lst (pL (A ++ B ++ R ++ T))) = h12 at *
  generalize A ++ B ++ R ++ T = C at *
  generalize hz2 : (some (D.tup [D.ref K1, D.ref K2]) : Option D) = z2
  refine loop_lst (a := W) (xs := pL C) (fun j s h' => ∃ x6 x7 ms, s = [some (.ref aA), some (.ref bA), z2, some (.ref S), some (.ref L), some (.ref U), x6, x7, none, none, none, none, none] ∧ ms.length = 4 * j ∧ h' U = some (.lst (iL ms)) ∧ Ext h8 h' ∧ h' W = some (.lst (pL C)))
    ⟨_, _, [], rfl, rfl, e_U, x46, e_W⟩ (fun _ _ _ ⟨_, _, _, _, _, _, _, z⟩ => z) ?_ ?_
  · rintro j d s h' hd ⟨x6', x7', ms, rfl, ml, e_U, xh, e_W⟩
    obtain ⟨y, ey, rfl⟩ := pL_mem hd
    have hj := (List.getElem?_eq_some_iff.mp ey).1
    (try simp only [e_var, wV_some, wG_some, e_non, e_bl, e_int, e_str, e_glb, e_bin, e_neg, e_no, e_and, e_or, e_cmp, e_chn, e_ife, e_tup, e_lst, e_dnew, e_idx, e_slc, e_call, e_blt, e_mtd, e_isi, e_dis, e_rev, wRev, e_mnd, e_lrg, wMnd, wLrg, e_comp, wEs, wO, wT, wI, wS, wTg, wTgs, CTs.len, asB_bl, wBin, wCmp, wAdd, wSubX, wI2, wMul, wEq, wLt, wCI, wIs, DL.isNon, wNeg, wIdx, wSlc, wB, wLen, seqOf, lstOf, wIsi, tyOf, isTy, wM, wML, tyD, Mtd.ty, iAny, isSeqL, isSeqT, iRng, wSet, List.getElem?_cons_zero, List.getElem?_cons_succ, List.set_cons_zero, List.set_cons_succ, List.length_cons, List.length_nil, wAt_0, wAt_1, wAt_2, wAt_3, Nat.reduceAdd, ix30, ix31, ix32, up_at, Bool.false_eq_true, ↓reduceIte, decide_true, String.reduceBEq, Bool.and_false, Bool.false_and, Bool.or_false, Bool.false_or, true_and, beq_self_eq_true, Bool.true_or, Bool.or_true, Bool.not_true, Bool.not_false, Bool.false_xor, Bool.true_xor, wipeD, List.map_cons, List.map_nil, wTgs, CTs.len, ipD])
    ((try simp only [e_var, wV_some, wG_some, e_non, e_bl, e_int, e_str, e_glb, e_bin, e_neg, e_no, e_and, e_or, e_cmp, e_chn, e_ife, e_tup, e_lst, e_dnew, e_idx, e_slc, e_call, e_blt, e_mtd, e_isi, e_dis, e_rev, wRev, e_mnd, e_lrg, wMnd, wLrg, e_comp, wEs, wO, wT, wI, wS, wTg, wTgs, CTs.len, asB_bl, wBin, wCmp, wAdd, wSubX, wI2, wMul, wEq, wLt, wCI, wIs, DL.isNon, wNeg, wIdx, wSlc, wB, wLen, seqOf, lstOf, wIsi, tyOf, isTy, wM, wML, tyD, Mtd.ty, iAny, isSeqL, isSeqT, iRng, wSet, List.getElem?_cons_zero, List.getElem?_cons_succ, List.set_cons_zero, List.set_cons_succ, List.length_cons, List.length_nil, wAt_0, wAt_1, wAt_2, wAt_3, Nat.reduceAdd, ix30, ix31, ix32, up_at, Bool.false_eq_true, ↓reduceIte, decide_true, String.reduceBEq, Bool.and_false, Bool.false_and, Bool.or_false, Bool.false_or, true_and, beq_self_eq_true, Bool.true_or, Bool.or_true, Bool.not_true, Bool.not_false, Bool.false_xor, Bool.true_xor, wipeD, List.map_cons, List.map_nil, wTgs, CTs.len]); rw [ss_cons]; simp only [e_var, wV_some, wG_some, e_non, e_bl, e_int, e_str, e_glb, e_bin, e_neg, e_no, e_and, e_or, e_cmp, e_chn, e_ife, e_tup, e_lst, e_dnew, e_idx, e_slc, e_call, e_blt, e_mtd, e_isi, e_dis, e_rev, wRev, e_mnd, e_lrg, wMnd, wLrg, e_comp, wEs, wO, wT, wI, wS, wTg, wTgs, CTs.len, asB_bl, wBin, wCmp, wAdd, wSubX, wI2, wMul, wEq, wLt, wCI, wIs, DL.isNon, wNeg, wIdx, wSlc, wB, wLen, seqOf, lstOf, wIsi, tyOf, isTy, wM, wML, tyD, Mtd.ty, iAny, isSeqL, isSeqT, iRng, wSet, List.getElem?_cons_zero, List.getElem?_cons_succ, List.set_cons_zero, List.set_cons_succ, List.length_cons, List.length_nil, wAt_0, wAt_1, wAt_2, wAt_3, Nat.reduceAdd, ix30, ix31, ix32, up_at, Bool.false_eq_true, ↓reduceIte, decide_true, String.reduceBEq, Bool.and_false, Bool.false_and, Bool.or_false, Bool.false_or, true_and, beq_self_eq_true, Bool.true_or, Bool.or_true, Bool.not_true, Bool.not_false, Bool.false_xor, Bool.true_xor, wipeD, List.map_cons, List.map_nil, wTgs, CTs.len, e_U])
    refine ⟨by omega, fun r nr => ?_⟩
    have y1 := Ext.new (o := .lst [.int y.1, .int y.2, .int (y.1 - 1), .int (y.2 - 1)]) nr
    have er := up_at (h := h') (p := r) (o := .lst [.int y.1, .int y.2, .int (y.1 - 1), .int (y.2 - 1)])
    have e_U := y1 _ _ e_U
    have e_W := y1 _ _ e_W
    have xh := xh.trans y1
    generalize up h' r (.lst [.int y.1, .int y.2, .int (y.1 - 1), .int (y.2 - 1)]) = h13 at *
    (try simp only [e_var, wV_some, wG_some, e_non, e_bl, e_int, e_str, e_glb, e_bin, e_neg, e_no, e_and, e_or, e_cmp, e_chn, e_ife, e_tup, e_lst, e_dnew, e_idx, e_slc, e_call, e_blt, e_mtd, e_isi, e_dis, e_rev, wRev, e_mnd, e_lrg, wMnd, wLrg, e_comp, wEs, wO, wT, wI, wS, wTg, wTgs, CTs.len, asB_bl, wBin, wCmp, wAdd, wSubX, wI2, wMul, wEq, wLt, wCI, wIs, DL.isNon, wNeg, wIdx, wSlc, wB, wLen, seqOf, lstOf, wIsi, tyOf, isTy, wM, wML, tyD, Mtd.ty, iAny, isSeqL, isSeqT, iRng, wSet, List.getElem?_cons_zero, List.getElem?_cons_succ, List.set_cons_zero, List.set_cons_succ, List.length_cons, List.length_nil, wAt_0, wAt_1, wAt_2, wAt_3, Nat.reduceAdd, ix30, ix31, ix32, up_at, Bool.false_eq_true, ↓reduceIte, decide_true, String.reduceBEq, Bool.and_false, Bool.false_and, Bool.or_false, Bool.false_or, true_and, beq_self_eq_true, Bool.true_or, Bool.or_true, Bool.not_true, Bool.not_false, Bool.false_xor, Bool.true_xor, wipeD, List.map_cons, List.map_nil, wTgs, CTs.len, e_U, er])
    rw [iL_len]
    refine ⟨by omega, ?_⟩
    ((try simp only [e_var, wV_some, wG_some, e_non, e_bl, e_int, e_str, e_glb, e_bin, e_neg, e_no, e_and, e_or, e_cmp, e_chn, e_ife, e_tup, e_lst, e_dnew, e_idx, e_slc, e_call, e_blt, e_mtd, e_isi, e_dis, e_rev, wRev, e_mnd, e_lrg, wMnd, wLrg, e_comp, wEs, wO, wT, wI, wS, wTg, wTgs, CTs.len, asB_bl, wBin, wCmp, wAdd, wSubX, wI2, wMul, wEq, wLt, wCI, wIs, DL.isNon, wNeg, wIdx, wSlc, wB, wLen, seqOf, lstOf, wIsi, tyOf, isTy, wM, wML, tyD, Mtd.ty, iAny, isSeqL, isSeqT, iRng, wSet, List.getElem?_cons_zero, List.getElem?_cons_succ, List.set_cons_zero, List.set_cons_succ, List.length_cons, List.length_nil, wAt_0, wAt_1, wAt_2, wAt_3, Nat.reduceAdd, ix30, ix31, ix32, up_at, Bool.false_eq_true, ↓reduceIte, decide_true, String.reduceBEq, Bool.and_false, Bool.false_and, Bool.or_false, Bool.false_or, true_and, beq_self_eq_true, Bool.true_or, Bool.or_true, Bool.not_true, Bool.not_false, Bool.false_xor, Bool.true_xor, wipeD, List.map_cons, List.map_nil, wTgs, CTs.len]); rw [ss_nil])
    exact ⟨_, _, ms ++ [y.1, y.2, y.1 - 1, y.2 - 1], rfl, by simp; omega, by rw [up_at, iL_app]; rfl, xh.fresh nU, by rw [up_off nWU.symm]; exact e_W⟩
  · rintro s h' ⟨x6', x7', ms, rfl, ml, e_U, xh, e_W⟩
    have g1 := xh _ _ g1
    have g2 := xh _ _ g2
    have eS := xh _ _ eS
    have eL := xh _ _ eL
    have x := x.trans xh
    ((try simp only [e_var, wV_some, wG_some, e_non, e_bl, e_int, e_str, e_glb, e_bin, e_neg, e_no, e_and, e_or, e_cmp, e_chn, e_ife, e_tup, e_lst, e_dnew, e_idx, e_slc, e_call, e_blt, e_mtd, e_isi, e_dis, e_rev, wRev, e_mnd, e_lrg, wMnd, wLrg, e_comp, wEs, wO, wT, wI, wS, wTg, wTgs, CTs.len, asB_bl, wBin, wCmp, wAdd, wSubX, wI2, wMul, wEq, wLt, wCI, wIs, DL.isNon, wNeg, wIdx, wSlc, wB, wLen, seqOf, lstOf, wIsi, tyOf, isTy, wM, wML, tyD, Mtd.ty, iAny, isSeqL, isSeqT, iRng, wSet, List.getElem?_cons_zero, List.getElem?_cons_succ, List.set_cons_zero, List.set_cons_succ, List.length_cons, List.length_nil, wAt_0, wAt_1, wAt_2, wAt_3, Nat.reduceAdd, ix30, ix31, ix32, up_at, Bool.false_eq_true, ↓reduceIte, decide_true, String.reduceBEq, Bool.and_false, Bool.false_and, Bool.or_false, Bool.false_or, true_and, beq_self_eq_true, Bool.true_or, Bool.or_true, Bool.not_true, Bool.not_false, Bool.false_xor, Bool.true_xor, wipeD, List.map_cons, List.map_nil, wTgs, CTs.len]); rw [ss_cons]; simp only [e_var, wV_some, wG_some, e_non, e_bl, e_int, e_str, e_glb, e_bin, e_neg, e_no, e_and, e_or, e_cmp, e_chn, e_ife, e_tup, e_lst, e_dnew, e_idx, e_slc, e_call, e_blt, e_mtd, e_isi, e_dis, e_rev, wRev, e_mnd, e_lrg, wMnd, wLrg, e_comp, wEs, wO, wT, wI, wS, wTg, wTgs, CTs.len, asB_bl, wBin, wCmp, wAdd, wSubX, wI2, wMul, wEq, wLt, wCI, wIs, DL.isNon, wNeg, wIdx, wSlc, wB, wLen, seqOf, lstOf, wIsi, tyOf, isTy, wM, wML, tyD, Mtd.ty, iAny, isSeqL, isSeqT, iRng, wSet, List.getElem?_cons_zero, List.getElem?_cons_succ, List.set_cons_zero, List.set_cons_succ, List.length_cons, List.length_nil, wAt_0, wAt_1, wAt_2, wAt_3, Nat.reduceAdd, ix30, ix31, ix32, up_at, Bool.false_eq_true, ↓reduceIte, decide_true, String.reduceBEq, Bool.and_false, Bool.false_and, Bool.or_false, Bool.false_or, true_and, beq_self_eq_true, Bool.true_or, Bool.or_true, Bool.not_true, Bool.not_false, Bool.false_xor, Bool.true_xor, wipeD, List.map_cons, List.map_nil, wTgs, CTs.len, e_U])
    refine loop_lst (a := U) (xs := iL ms) (fun j s h'' => ∃ x8 x9 x10, s = [some (.ref aA), some (.ref bA), z2, some (.ref S), some (.ref L), some (.ref U), x6', x7', x8, x9, x10, none, none] ∧ Ext h' h'') ⟨_, _, _, rfl, .refl⟩ (fun _ _ _ ⟨_, _, _, _, z⟩ => z _ _ e_U) ?_ ?_
    · rintro j d s h'' hd ⟨x8, x9, x10, rfl, xa⟩
      obtain ⟨m, _, rfl⟩ := iL_mem hd
      (try simp only [e_var, wV_some, wG_some, e_non, e_bl, e_int, e_str, e_glb, e_bin, e_neg, e_no, e_and, e_or, e_cmp, e_chn, e_ife, e_tup, e_lst, e_dnew, e_idx, e_slc, e_call, e_blt, e_mtd, e_isi, e_dis, e_rev, wRev, e_mnd, e_lrg, wMnd, wLrg, e_comp, wEs, wO, wT, wI, wS, wTg, wTgs, CTs.len, asB_bl, wBin, wCmp, wAdd, wSubX, wI2, wMul, wEq, wLt, wCI, wIs, DL.isNon, wNeg, wIdx, wSlc, wB, wLen, seqOf, lstOf, wIsi, tyOf, isTy, wM, wML, tyD, Mtd.ty, iAny, isSeqL, isSeqT, iRng, wSet, List.getElem?_cons_zero, List.getElem?_cons_succ, List.set_cons_zero, List.set_cons_succ, List.length_cons, List.length_nil, wAt_0, wAt_1, wAt_2, wAt_3, Nat.reduceAdd, ix30, ix31, ix32, up_at, Bool.false_eq_true, ↓reduceIte, decide_true, String.reduceBEq, Bool.and_false, Bool.false_and, Bool.or_false, Bool.false_or, true_and, beq_self_eq_true, Bool.true_or, Bool.or_true, Bool.not_true, Bool.not_false, Bool.false_xor, Bool.true_xor, wipeD, List.map_cons, List.map_nil, wTgs, CTs.len])
      ((try simp only [e_var, wV_some, wG_some, e_non, e_bl, e_int, e_str, e_glb, e_bin, e_neg, e_no, e_and, e_or, e_cmp, e_chn, e_ife, e_tup, e_lst, e_dnew, e_idx, e_slc, e_call, e_blt, e_mtd, e_isi, e_dis, e_rev, wRev, e_mnd, e_lrg, wMnd, wLrg, e_comp, wEs, wO, wT, wI, wS, wTg, wTgs, CTs.len, asB_bl, wBin, wCmp, wAdd, wSubX, wI2, wMul, wEq, wLt, wCI, wIs, DL.isNon, wNeg, wIdx, wSlc, wB, wLen, seqOf, lstOf, wIsi, tyOf, isTy, wM, wML, tyD, Mtd.ty, iAny, isSeqL, isSeqT, iRng, wSet, List.getElem?_cons_zero, List.getElem?_cons_succ, List.set_cons_zero, List.set_cons_succ, List.length_cons, List.length_nil, wAt_0, wAt_1, wAt_2, wAt_3, Nat.reduceAdd, ix30, ix31, ix32, up_at, Bool.false_eq_true, ↓reduceIte, decide_true, String.reduceBEq, Bool.and_false, Bool.false_and, Bool.or_false, Bool.false_or, true_and, beq_self_eq_true, Bool.true_or, Bool.or_true, Bool.not_true, Bool.not_false, Bool.false_xor, Bool.true_xor, wipeD, List.map_cons, List.map_nil, wTgs, CTs.len]); rw [ss_cons]; simp only [e_var, wV_some, wG_some, e_non, e_bl, e_int, e_str, e_glb, e_bin, e_neg, e_no, e_and, e_or, e_cmp, e_chn, e_ife, e_tup, e_lst, e_dnew, e_idx, e_slc, e_call, e_blt, e_mtd, e_isi, e_dis, e_rev, wRev, e_mnd, e_lrg, wMnd, wLrg, e_comp, wEs, wO, wT, wI, wS, wTg, wTgs, CTs.len, asB_bl, wBin, wCmp, wAdd, wSubX, wI2, wMul, wEq, wLt, wCI, wIs, DL.isNon, wNeg, wIdx, wSlc, wB, wLen, seqOf, lstOf, wIsi, tyOf, isTy, wM, wML, tyD, Mtd.ty, iAny, isSeqL, isSeqT, iRng, wSet, List.getElem?_cons_zero, List.getElem?_cons_succ, List.set_cons_zero, List.set_cons_succ, List.length_cons, List.length_nil, wAt_0, wAt_1, wAt_2, wAt_3, Nat.reduceAdd, ix30, ix31, ix32, up_at, Bool.false_eq_true, ↓reduceIte, decide_true, String.reduceBEq, Bool.and_false, Bool.false_and, Bool.or_false, Bool.false_or, true_and, beq_self_eq_true, Bool.true_or, Bool.or_true, Bool.not_true, Bool.not_false, Bool.false_xor, Bool.true_xor, wipeD, List.map_cons, List.map_nil, wTgs, CTs.len])
      refine hasmin (xa _ _ g1) (by omega) fun h13 x13 => ?_
      ((try simp only [e_var, wV_some, wG_some, e_non, e_bl, e_int, e_str, e_glb, e_bin, e_neg, e_no, e_and, e_or, e_cmp, e_chn, e_ife, e_tup, e_lst, e_dnew, e_idx, e_slc, e_call, e_blt, e_mtd, e_isi, e_dis, e_rev, wRev, e_mnd, e_lrg, wMnd, wLrg, e_comp, wEs, wO, wT, wI, wS, wTg, wTgs, CTs.len, asB_bl, wBin, wCmp, wAdd, wSubX, wI2, wMul, wEq, wLt, wCI, wIs, DL.isNon, wNeg, wIdx, wSlc, wB, wLen, seqOf, lstOf, wIsi, tyOf, isTy, wM, wML, tyD, Mtd.ty, iAny, isSeqL, isSeqT, iRng, wSet, List.getElem?_cons_zero, List.getElem?_cons_succ, List.set_cons_zero, List.set_cons_succ, List.length_cons, List.length_nil, wAt_0, wAt_1, wAt_2, wAt_3, Nat.reduceAdd, ix30, ix31, ix32, up_at, Bool.false_eq_true, ↓reduceIte, decide_true, String.reduceBEq, Bool.and_false, Bool.false_and, Bool.or_false, Bool.false_or, true_and, beq_self_eq_true, Bool.true_or, Bool.or_true, Bool.not_true, Bool.not_false, Bool.false_xor, Bool.true_xor, wipeD, List.map_cons, List.map_nil, wTgs, CTs.len]); rw [ss_cons]; simp only [e_var, wV_some, wG_some, e_non, e_bl, e_int, e_str, e_glb, e_bin, e_neg, e_no, e_and, e_or, e_cmp, e_chn, e_ife, e_tup, e_lst, e_dnew, e_idx, e_slc, e_call, e_blt, e_mtd, e_isi, e_dis, e_rev, wRev, e_mnd, e_lrg, wMnd, wLrg, e_comp, wEs, wO, wT, wI, wS, wTg, wTgs, CTs.len, asB_bl, wBin, wCmp, wAdd, wSubX, wI2, wMul, wEq, wLt, wCI, wIs, DL.isNon, wNeg, wIdx, wSlc, wB, wLen, seqOf, lstOf, wIsi, tyOf, isTy, wM, wML, tyD, Mtd.ty, iAny, isSeqL, isSeqT, iRng, wSet, List.getElem?_cons_zero, List.getElem?_cons_succ, List.set_cons_zero, List.set_cons_succ, List.length_cons, List.length_nil, wAt_0, wAt_1, wAt_2, wAt_3, Nat.reduceAdd, ix30, ix31, ix32, up_at, Bool.false_eq_true, ↓reduceIte, decide_true, String.reduceBEq, Bool.and_false, Bool.false_and, Bool.or_false, Bool.false_or, true_and, beq_self_eq_true, Bool.true_or, Bool.or_true, Bool.not_true, Bool.not_false, Bool.false_xor, Bool.true_xor, wipeD, List.map_cons, List.map_nil, wTgs, CTs.len])
      refine hasmin ((xa.trans x13) _ _ g2) (by omega) fun h14 x14 => ?_
      ((try simp only [e_var, wV_some, wG_some, e_non, e_bl, e_int, e_str, e_glb, e_bin, e_neg, e_no, e_and, e_or, e_cmp, e_chn, e_ife, e_tup, e_lst, e_dnew, e_idx, e_slc, e_call, e_blt, e_mtd, e_isi, e_dis, e_rev, wRev, e_mnd, e_lrg, wMnd, wLrg, e_comp, wEs, wO, wT, wI, wS, wTg, wTgs, CTs.len, asB_bl, wBin, wCmp, wAdd, wSubX, wI2, wMul, wEq, wLt, wCI, wIs, DL.isNon, wNeg, wIdx, wSlc, wB, wLen, seqOf, lstOf, wIsi, tyOf, isTy, wM, wML, tyD, Mtd.ty, iAny, isSeqL, isSeqT, iRng, wSet, List.getElem?_cons_zero, List.getElem?_cons_succ, List.set_cons_zero, List.set_cons_succ, List.length_cons, List.length_nil, wAt_0, wAt_1, wAt_2, wAt_3, Nat.reduceAdd, ix30, ix31, ix32, up_at, Bool.false_eq_true, ↓reduceIte, decide_true, String.reduceBEq, Bool.and_false, Bool.false_and, Bool.or_false, Bool.false_or, true_and, beq_self_eq_true, Bool.true_or, Bool.or_true, Bool.not_true, Bool.not_false, Bool.false_xor, Bool.true_xor, wipeD, List.map_cons, List.map_nil, wTgs, CTs.len]); rw [ss_cons]; simp only [e_var, wV_some, wG_some, e_non, e_bl, e_int, e_str, e_glb, e_bin, e_neg, e_no, e_and, e_or, e_cmp, e_chn, e_ife, e_tup, e_lst, e_dnew, e_idx, e_slc, e_call, e_blt, e_mtd, e_isi, e_dis, e_rev, wRev, e_mnd, e_lrg, wMnd, wLrg, e_comp, wEs, wO, wT, wI, wS, wTg, wTgs, CTs.len, asB_bl, wBin, wCmp, wAdd, wSubX, wI2, wMul, wEq, wLt, wCI, wIs, DL.isNon, wNeg, wIdx, wSlc, wB, wLen, seqOf, lstOf, wIsi, tyOf, isTy, wM, wML, tyD, Mtd.ty, iAny, isSeqL, isSeqT, iRng, wSet, List.getElem?_cons_zero, List.getElem?_cons_succ, List.set_cons_zero, List.set_cons_succ, List.length_cons, List.length_nil, wAt_0, wAt_1, wAt_2, wAt_3, Nat.reduceAdd, ix30, ix31, ix32, up_at, Bool.false_eq_true, ↓reduceIte, decide_true, String.reduceBEq, Bool.and_false, Bool.false_and, Bool.or_false, Bool.false_or, true_and, beq_self_eq_true, Bool.true_or, Bool.or_true, Bool.not_true, Bool.not_false, Bool.false_xor, Bool.true_xor, wipeD, List.map_cons, List.map_nil, wTgs, CTs.len])
      refine hasmin (((xa.trans x13).trans x14) _ _ eS) (by omega) fun h15 x15 => ?_
      rw [both_b bR m]
      have fin : ∀ h15, Ext h' h15 → wSs gl (DL.run gl ds (n + 3)) Q (fun x _ h' => E x h') b11_19 [some (.ref aA), some (.ref bA), z2, some (.ref S), some (.ref L), some (.ref U), x6', x7', some (.int m), some (.bl (innb A m)), some (.bl (innb B m)), none, none] h15 fun s h'' => ∃ x8 x9 x10, s = [some (.ref aA), some (.ref bA), z2, some (.ref S), some (.ref L), some (.ref U), x6', x7', x8, x9, x10, none, none] ∧ Ext h' h'' := by
        intro h15 xb
        ((try simp only [e_var, wV_some, wG_some, e_non, e_bl, e_int, e_str, e_glb, e_bin, e_neg, e_no, e_and, e_or, e_cmp, e_chn, e_ife, e_tup, e_lst, e_dnew, e_idx, e_slc, e_call, e_blt, e_mtd, e_isi, e_dis, e_rev, wRev, e_mnd, e_lrg, wMnd, wLrg, e_comp, wEs, wO, wT, wI, wS, wTg, wTgs, CTs.len, asB_bl, wBin, wCmp, wAdd, wSubX, wI2, wMul, wEq, wLt, wCI, wIs, DL.isNon, wNeg, wIdx, wSlc, wB, wLen, seqOf, lstOf, wIsi, tyOf, isTy, wM, wML, tyD, Mtd.ty, iAny, isSeqL, isSeqT, iRng, wSet, List.getElem?_cons_zero, List.getElem?_cons_succ, List.set_cons_zero, List.set_cons_succ, List.length_cons, List.length_nil, wAt_0, wAt_1, wAt_2, wAt_3, Nat.reduceAdd, ix30, ix31, ix32, up_at, Bool.false_eq_true, ↓reduceIte, decide_true, String.reduceBEq, Bool.and_false, Bool.false_and, Bool.or_false, Bool.false_or, true_and, beq_self_eq_true, Bool.true_or, Bool.or_true, Bool.not_true, Bool.not_false, Bool.false_xor, Bool.true_xor, wipeD, List.map_cons, List.map_nil, wTgs, CTs.len]); rw [ss_cons]; simp only [e_var, wV_some, wG_some, e_non, e_bl, e_int, e_str, e_glb, e_bin, e_neg, e_no, e_and, e_or, e_cmp, e_chn, e_ife, e_tup, e_lst, e_dnew, e_idx, e_slc, e_call, e_blt, e_mtd, e_isi, e_dis, e_rev, wRev, e_mnd, e_lrg, wMnd, wLrg, e_comp, wEs, wO, wT, wI, wS, wTg, wTgs, CTs.len, asB_bl, wBin, wCmp, wAdd, wSubX, wI2, wMul, wEq, wLt, wCI, wIs, DL.isNon, wNeg, wIdx, wSlc, wB, wLen, seqOf, lstOf, wIsi, tyOf, isTy, wM, wML, tyD, Mtd.ty, iAny, isSeqL, isSeqT, iRng, wSet, List.getElem?_cons_zero, List.getElem?_cons_succ, List.set_cons_zero, List.set_cons_succ, List.length_cons, List.length_nil, wAt_0, wAt_1, wAt_2, wAt_3, Nat.reduceAdd, ix30, ix31, ix32, up_at, Bool.false_eq_true, ↓reduceIte, decide_true, String.reduceBEq, Bool.and_false, Bool.false_and, Bool.or_false, Bool.false_or, true_and, beq_self_eq_true, Bool.true_or, Bool.or_true, Bool.not_true, Bool.not_false, Bool.false_xor, Bool.true_xor, wipeD, List.map_cons, List.map_nil, wTgs, CTs.len])
        refine hasmin (xb _ _ eL) (by omega) fun h16 x16 => ?_
        rw [wout_b bT m]
        cases innb A m <;> cases innb B m <;> (try simp only [e_var, wV_some, wG_some, e_non, e_bl, e_int, e_str, e_glb, e_bin, e_neg, e_no, e_and, e_or, e_cmp, e_chn, e_ife, e_tup, e_lst, e_dnew, e_idx, e_slc, e_call, e_blt, e_mtd, e_isi, e_dis, e_rev, wRev, e_mnd, e_lrg, wMnd, wLrg, e_comp, wEs, wO, wT, wI, wS, wTg, wTgs, CTs.len, asB_bl, wBin, wCmp, wAdd, wSubX, wI2, wMul, wEq, wLt, wCI, wIs, DL.isNon, wNeg, wIdx, wSlc, wB, wLen, seqOf, lstOf, wIsi, tyOf, isTy, wM, wML, tyD, Mtd.ty, iAny, isSeqL, isSeqT, iRng, wSet, List.getElem?_cons_zero, List.getElem?_cons_succ, List.set_cons_zero, List.set_cons_succ, List.length_cons, List.length_nil, wAt_0, wAt_1, wAt_2, wAt_3, Nat.reduceAdd, ix30, ix31, ix32, up_at, Bool.false_eq_true, ↓reduceIte, decide_true, String.reduceBEq, Bool.and_false, Bool.false_and, Bool.or_false, Bool.false_or, true_and, beq_self_eq_true, Bool.true_or, Bool.or_true, Bool.not_true, Bool.not_false, Bool.false_xor, Bool.true_xor, wipeD, List.map_cons, List.map_nil, wTgs, CTs.len]) <;> ((try simp only [e_var, wV_some, wG_some, e_non, e_bl, e_int, e_str, e_glb, e_bin, e_neg, e_no, e_and, e_or, e_cmp, e_chn, e_ife, e_tup, e_lst, e_dnew, e_idx, e_slc, e_call, e_blt, e_mtd, e_isi, e_dis, e_rev, wRev, e_mnd, e_lrg, wMnd, wLrg, e_comp, wEs, wO, wT, wI, wS, wTg, wTgs, CTs.len, asB_bl, wBin, wCmp, wAdd, wSubX, wI2, wMul, wEq, wLt, wCI, wIs, DL.isNon, wNeg, wIdx, wSlc, wB, wLen, seqOf, lstOf, wIsi, tyOf, isTy, wM, wML, tyD, Mtd.ty, iAny, isSeqL, isSeqT, iRng, wSet, List.getElem?_cons_zero, List.getElem?_cons_succ, List.set_cons_zero, List.set_cons_succ, List.length_cons, List.length_nil, wAt_0, wAt_1, wAt_2, wAt_3, Nat.reduceAdd, ix30, ix31, ix32, up_at, Bool.false_eq_true, ↓reduceIte, decide_true, String.reduceBEq, Bool.and_false, Bool.false_and, Bool.or_false, Bool.false_or, true_and, beq_self_eq_true, Bool.true_or, Bool.or_true, Bool.not_true, Bool.not_false, Bool.false_xor, Bool.true_xor, wipeD, List.map_cons, List.map_nil, wTgs, CTs.len]); rw [ss_nil]) <;> ((try simp only [e_var, wV_some, wG_some, e_non, e_bl, e_int, e_str, e_glb, e_bin, e_neg, e_no, e_and, e_or, e_cmp, e_chn, e_ife, e_tup, e_lst, e_dnew, e_idx, e_slc, e_call, e_blt, e_mtd, e_isi, e_dis, e_rev, wRev, e_mnd, e_lrg, wMnd, wLrg, e_comp, wEs, wO, wT, wI, wS, wTg, wTgs, CTs.len, asB_bl, wBin, wCmp, wAdd, wSubX, wI2, wMul, wEq, wLt, wCI, wIs, DL.isNon, wNeg, wIdx, wSlc, wB, wLen, seqOf, lstOf, wIsi, tyOf, isTy, wM, wML, tyD, Mtd.ty, iAny, isSeqL, isSeqT, iRng, wSet, List.getElem?_cons_zero, List.getElem?_cons_succ, List.set_cons_zero, List.set_cons_succ, List.length_cons, List.length_nil, wAt_0, wAt_1, wAt_2, wAt_3, Nat.reduceAdd, ix30, ix31, ix32, up_at, Bool.false_eq_true, ↓reduceIte, decide_true, String.reduceBEq, Bool.and_false, Bool.false_and, Bool.or_false, Bool.false_or, true_and, beq_self_eq_true, Bool.true_or, Bool.or_true, Bool.not_true, Bool.not_false, Bool.false_xor, Bool.true_xor, wipeD, List.map_cons, List.map_nil, wTgs, CTs.len]); rw [ss_nil]) <;> exact ⟨_, _, _, rfl, xb.trans x16⟩
      cases ha : innb A m <;> cases hb : innb B m <;> rw [ha, hb] at fin <;> (try simp only [e_var, wV_some, wG_some, e_non, e_bl, e_int, e_str, e_glb, e_bin, e_neg, e_no, e_and, e_or, e_cmp, e_chn, e_ife, e_tup, e_lst, e_dnew, e_idx, e_slc, e_call, e_blt, e_mtd, e_isi, e_dis, e_rev, wRev, e_mnd, e_lrg, wMnd, wLrg, e_comp, wEs, wO, wT, wI, wS, wTg, wTgs, CTs.len, asB_bl, wBin, wCmp, wAdd, wSubX, wI2, wMul, wEq, wLt, wCI, wIs, DL.isNon, wNeg, wIdx, wSlc, wB, wLen, seqOf, lstOf, wIsi, tyOf, isTy, wM, wML, tyD, Mtd.ty, iAny, isSeqL, isSeqT, iRng, wSet, List.getElem?_cons_zero, List.getElem?_cons_succ, List.set_cons_zero, List.set_cons_succ, List.length_cons, List.length_nil, wAt_0, wAt_1, wAt_2, wAt_3, Nat.reduceAdd, ix30, ix31, ix32, up_at, Bool.false_eq_true, ↓reduceIte, decide_true, String.reduceBEq, Bool.and_false, Bool.false_and, Bool.or_false, Bool.false_or, true_and, beq_self_eq_true, Bool.true_or, Bool.or_true, Bool.not_true, Bool.not_false, Bool.false_xor, Bool.true_xor, wipeD, List.map_cons, List.map_nil, wTgs, CTs.len]) <;> ((try simp only [e_var, wV_some, wG_some, e_non, e_bl, e_int, e_str, e_glb, e_bin, e_neg, e_no, e_and, e_or, e_cmp, e_chn, e_ife, e_tup, e_lst, e_dnew, e_idx, e_slc, e_call, e_blt, e_mtd, e_isi, e_dis, e_rev, wRev, e_mnd, e_lrg, wMnd, wLrg, e_comp, wEs, wO, wT, wI, wS, wTg, wTgs, CTs.len, asB_bl, wBin, wCmp, wAdd, wSubX, wI2, wMul, wEq, wLt, wCI, wIs, DL.isNon, wNeg, wIdx, wSlc, wB, wLen, seqOf, lstOf, wIsi, tyOf, isTy, wM, wML, tyD, Mtd.ty, iAny, isSeqL, isSeqT, iRng, wSet, List.getElem?_cons_zero, List.getElem?_cons_succ, List.set_cons_zero, List.set_cons_succ, List.length_cons, List.length_nil, wAt_0, wAt_1, wAt_2, wAt_3, Nat.reduceAdd, ix30, ix31, ix32, up_at, Bool.false_eq_true, ↓reduceIte, decide_true, String.reduceBEq, Bool.and_false, Bool.false_and, Bool.or_false, Bool.false_or, true_and, beq_self_eq_true, Bool.true_or, Bool.or_true, Bool.not_true, Bool.not_false, Bool.false_xor, Bool.true_xor, wipeD, List.map_cons, List.map_nil, wTgs, CTs.len]); rw [ss_nil]) <;> exact fin h15 (((xa.trans x13).trans x14).trans x15)
    · rintro s h'' ⟨x8, x9, x10, rfl, xa⟩
      have g1 := xa _ _ g1
      have g2 := xa _ _ g2
      have eS := xa _ _ eS
      have eL := xa _ _ eL
      have x := x.trans xa
      ((try simp only [e_var, wV_some, wG_some, e_non, e_bl, e_int, e_str, e_glb, e_bin, e_neg, e_no, e_and, e_or, e_cmp, e_chn, e_ife, e_tup, e_lst, e_dnew, e_idx, e_slc, e_call, e_blt, e_mtd, e_isi, e_dis, e_rev, wRev, e_mnd, e_lrg, wMnd, wLrg, e_comp, wEs, wO, wT, wI, wS, wTg, wTgs, CTs.len, asB_bl, wBin, wCmp, wAdd, wSubX, wI2, wMul, wEq, wLt, wCI, wIs, DL.isNon, wNeg, wIdx, wSlc, wB, wLen, seqOf, lstOf, wIsi, tyOf, isTy, wM, wML, tyD, Mtd.ty, iAny, isSeqL, isSeqT, iRng, wSet, List.getElem?_cons_zero, List.getElem?_cons_succ, List.set_cons_zero, List.set_cons_succ, List.length_cons, List.length_nil, wAt_0, wAt_1, wAt_2, wAt_3, Nat.reduceAdd, ix30, ix31, ix32, up_at, Bool.false_eq_true, ↓reduceIte, decide_true, String.reduceBEq, Bool.and_false, Bool.false_and, Bool.or_false, Bool.false_or, true_and, beq_self_eq_true, Bool.true_or, Bool.or_true, Bool.not_true, Bool.not_false, Bool.false_xor, Bool.true_xor, wipeD, List.map_cons, List.map_nil, wTgs, CTs.len]); rw [ss_cons]; simp only [e_var, wV_some, wG_some, e_non, e_bl, e_int, e_str, e_glb, e_bin, e_neg, e_no, e_and, e_or, e_cmp, e_chn, e_ife, e_tup, e_lst, e_dnew, e_idx, e_slc, e_call, e_blt, e_mtd, e_isi, e_dis, e_rev, wRev, e_mnd, e_lrg, wMnd, wLrg, e_comp, wEs, wO, wT, wI, wS, wTg, wTgs, CTs.len, asB_bl, wBin, wCmp, wAdd, wSubX, wI2, wMul, wEq, wLt, wCI, wIs, DL.isNon, wNeg, wIdx, wSlc, wB, wLen, seqOf, lstOf, wIsi, tyOf, isTy, wM, wML, tyD, Mtd.ty, iAny, isSeqL, isSeqT, iRng, wSet, List.getElem?_cons_zero, List.getElem?_cons_succ, List.set_cons_zero, List.set_cons_succ, List.length_cons, List.length_nil, wAt_0, wAt_1, wAt_2, wAt_3, Nat.reduceAdd, ix30, ix31, ix32, up_at, Bool.false_eq_true, ↓reduceIte, decide_true, String.reduceBEq, Bool.and_false, Bool.false_and, Bool.or_false, Bool.false_or, true_and, beq_self_eq_true, Bool.true_or, Bool.or_true, Bool.not_true, Bool.not_false, Bool.false_xor, Bool.true_xor, wipeD, List.map_cons, List.map_nil, wTgs, CTs.len])
      refine minin g1 (by omega) fun h13 x13 => ?_
      have g1 := x13 _ _ g1
      have g2 := x13 _ _ g2
      have eS := x13 _ _ eS
      have eL := x13 _ _ eL
      have x := x.trans x13
      ((try simp only [e_var, wV_some, wG_some, e_non, e_bl, e_int, e_str, e_glb, e_bin, e_neg, e_no, e_and, e_or, e_cmp, e_chn, e_ife, e_tup, e_lst, e_dnew, e_idx, e_slc, e_call, e_blt, e_mtd, e_isi, e_dis, e_rev, wRev, e_mnd, e_lrg, wMnd, wLrg, e_comp, wEs, wO, wT, wI, wS, wTg, wTgs, CTs.len, asB_bl, wBin, wCmp, wAdd, wSubX, wI2, wMul, wEq, wLt, wCI, wIs, DL.isNon, wNeg, wIdx, wSlc, wB, wLen, seqOf, lstOf, wIsi, tyOf, isTy, wM, wML, tyD, Mtd.ty, iAny, isSeqL, isSeqT, iRng, wSet, List.getElem?_cons_zero, List.getElem?_cons_succ, List.set_cons_zero, List.set_cons_succ, List.length_cons, List.length_nil, wAt_0, wAt_1, wAt_2, wAt_3, Nat.reduceAdd, ix30, ix31, ix32, up_at, Bool.false_eq_true, ↓reduceIte, decide_true, String.reduceBEq, Bool.and_false, Bool.false_and, Bool.or_false, Bool.false_or, true_and, beq_self_eq_true, Bool.true_or, Bool.or_true, Bool.not_true, Bool.not_false, Bool.false_xor, Bool.true_xor, wipeD, List.map_cons, List.map_nil, wTgs, CTs.len]); rw [ss_cons]; simp only [e_var, wV_some, wG_some, e_non, e_bl, e_int, e_str, e_glb, e_bin, e_neg, e_no, e_and, e_or, e_cmp, e_chn, e_ife, e_tup, e_lst, e_dnew, e_idx, e_slc, e_call, e_blt, e_mtd, e_isi, e_dis, e_rev, wRev, e_mnd, e_lrg, wMnd, wLrg, e_comp, wEs, wO, wT, wI, wS, wTg, wTgs, CTs.len, asB_bl, wBin, wCmp, wAdd, wSubX, wI2, wMul, wEq, wLt, wCI, wIs, DL.isNon, wNeg, wIdx, wSlc, wB, wLen, seqOf, lstOf, wIsi, tyOf, isTy, wM, wML, tyD, Mtd.ty, iAny, isSeqL, isSeqT, iRng, wSet, List.getElem?_cons_zero, List.getElem?_cons_succ, List.set_cons_zero, List.set_cons_succ, List.length_cons, List.length_nil, wAt_0, wAt_1, wAt_2, wAt_3, Nat.reduceAdd, ix30, ix31, ix32, up_at, Bool.false_eq_true, ↓reduceIte, decide_true, String.reduceBEq, Bool.and_false, Bool.false_and, Bool.or_false, Bool.false_or, true_and, beq_self_eq_true, Bool.true_or, Bool.or_true, Bool.not_true, Bool.not_false, Bool.false_xor, Bool.true_xor, wipeD, List.map_cons, List.map_nil, wTgs, CTs.len])
      ((try simp only [e_var, wV_some, wG_some, e_non, e_bl, e_int, e_str, e_glb, e_bin, e_neg, e_no, e_and, e_or, e_cmp, e_chn, e_ife, e_tup, e_lst, e_dnew, e_idx, e_slc, e_call, e_blt, e_mtd, e_isi, e_dis, e_rev, wRev, e_mnd, e_lrg, wMnd, wLrg, e_comp, wEs, wO, wT, wI, wS, wTg, wTgs, CTs.len, asB_bl, wBin, wCmp, wAdd, wSubX, wI2, wMul, wEq, wLt, wCI, wIs, DL.isNon, wNeg, wIdx, wSlc, wB, wLen, seqOf, lstOf, wIsi, tyOf, isTy, wM, wML, tyD, Mtd.ty, iAny, isSeqL, isSeqT, iRng, wSet, List.getElem?_cons_zero, List.getElem?_cons_succ, List.set_cons_zero, List.set_cons_succ, List.length_cons, List.length_nil, wAt_0, wAt_1, wAt_2, wAt_3, Nat.reduceAdd, ix30, ix31, ix32, up_at, Bool.false_eq_true, ↓reduceIte, decide_true, String.reduceBEq, Bool.and_false, Bool.false_and, Bool.or_false, Bool.false_or, true_and, beq_self_eq_true, Bool.true_or, Bool.or_true, Bool.not_true, Bool.not_false, Bool.false_xor, Bool.true_xor, wipeD, List.map_cons, List.map_nil, wTgs, CTs.len]); rw [ss_nil])
      ((try simp only [e_var, wV_some, wG_some, e_non, e_bl, e_int, e_str, e_glb, e_bin, e_neg, e_no, e_and, e_or, e_cmp, e_chn, e_ife, e_tup, e_lst, e_dnew, e_idx, e_slc, e_call, e_blt, e_mtd, e_isi, e_dis, e_rev, wRev, e_mnd, e_lrg, wMnd, wLrg, e_comp, wEs, wO, wT, wI, wS, wTg, wTgs, CTs.len, asB_bl, wBin, wCmp, wAdd, wSubX, wI2, wMul, wEq, wLt, wCI, wIs, DL.isNon, wNeg, wIdx, wSlc, wB, wLen, seqOf, lstOf, wIsi, tyOf, isTy, wM, wML, tyD, Mtd.ty, iAny, isSeqL, isSeqT, iRng, wSet, List.getElem?_cons_zero, List.getElem?_cons_succ, List.set_cons_zero, List.set_cons_succ, List.length_cons, List.length_nil, wAt_0, wAt_1, wAt_2, wAt_3, Nat.reduceAdd, ix30, ix31, ix32, up_at, Bool.false_eq_true, ↓reduceIte, decide_true, String.reduceBEq, Bool.and_false, Bool.false_and, Bool.or_false, Bool.false_or, true_and, beq_self_eq_true, Bool.true_or, Bool.or_true, Bool.not_true, Bool.not_false, Bool.false_xor, Bool.true_xor, wipeD, List.map_cons, List.map_nil, wTgs, CTs.len]); rw [ss_cons]; simp only [e_var, wV_some, wG_some, e_non, e_bl, e_int, e_str, e_glb, e_bin, e_neg, e_no, e_and, e_or, e_cmp, e_chn, e_ife, e_tup, e_lst, e_dnew, e_idx, e_slc, e_call, e_blt, e_mtd, e_isi, e_dis, e_rev, wRev, e_mnd, e_lrg, wMnd, wLrg, e_comp, wEs, wO, wT, wI, wS, wTg, wTgs, CTs.len, asB_bl, wBin, wCmp, wAdd, wSubX, wI2, wMul, wEq, wLt, wCI, wIs, DL.isNon, wNeg, wIdx, wSlc, wB, wLen, seqOf, lstOf, wIsi, tyOf, isTy, wM, wML, tyD, Mtd.ty, iAny, isSeqL, isSeqT, iRng, wSet, List.getElem?_cons_zero, List.getElem?_cons_succ, List.set_cons_zero, List.set_cons_succ, List.length_cons, List.length_nil, wAt_0, wAt_1, wAt_2, wAt_3, Nat.reduceAdd, ix30, ix31, ix32, up_at, Bool.false_eq_true, ↓reduceIte, decide_true, String.reduceBEq, Bool.and_false, Bool.false_and, Bool.or_false, Bool.false_or, true_and, beq_self_eq_true, Bool.true_or, Bool.or_true, Bool.not_true, Bool.not_false, Bool.false_xor, Bool.true_xor, wipeD, List.map_cons, List.map_nil, wTgs, CTs.len, g1])
      refine comp_lst (a := aA) (xs := pL A) (fun i h' acc => h' = h13 ∧ acc = iL ((A.take i).map fun x => x.2 - x.1)) ⟨rfl, rfl⟩ (fun _ _ _ ⟨e, _⟩ => by rw [e]; exact g1) ?_ ?_
      · rintro i d h' acc hd ⟨rfl, rfl⟩
        obtain ⟨x, ex, rfl⟩ := pL_mem hd
        have hi := (List.getElem?_eq_some_iff.mp ex).1
        (try simp only [e_var, wV_some, wG_some, e_non, e_bl, e_int, e_str, e_glb, e_bin, e_neg, e_no, e_and, e_or, e_cmp, e_chn, e_ife, e_tup, e_lst, e_dnew, e_idx, e_slc, e_call, e_blt, e_mtd, e_isi, e_dis, e_rev, wRev, e_mnd, e_lrg, wMnd, wLrg, e_comp, wEs, wO, wT, wI, wS, wTg, wTgs, CTs.len, asB_bl, wBin, wCmp, wAdd, wSubX, wI2, wMul, wEq, wLt, wCI, wIs, DL.isNon, wNeg, wIdx, wSlc, wB, wLen, seqOf, lstOf, wIsi, tyOf, isTy, wM, wML, tyD, Mtd.ty, iAny, isSeqL, isSeqT, iRng, wSet, List.getElem?_cons_zero, List.getElem?_cons_succ, List.set_cons_zero, List.set_cons_succ, List.length_cons, List.length_nil, wAt_0, wAt_1, wAt_2, wAt_3, Nat.reduceAdd, ix30, ix31, ix32, up_at, Bool.false_eq_true, ↓reduceIte, decide_true, String.reduceBEq, Bool.and_false, Bool.false_and, Bool.or_false, Bool.false_or, true_and, beq_self_eq_true, Bool.true_or, Bool.or_true, Bool.not_true, Bool.not_false, Bool.false_xor, Bool.true_xor, wipeD, List.map_cons, List.map_nil, wTgs, CTs.len, ipD])
        have z : iL ((A.take i).map fun x => x.2 - x.1) ++ [D.int (x.2 - x.1)] = iL ((A.take (i + 1)).map fun x => x.2 - x.1) := by
          rw [iL_snoc, List.take_add_one, ex, List.map_append]
          rfl
        rw [z]
        refine ⟨by rw [iL_len, List.length_map, List.length_take]; omega, ?_⟩
        first
          | exact ⟨rfl, rfl⟩
          | rfl
      · rintro h' acc p ⟨rfl, rfl⟩ np
        rw [pL_len, List.take_length]
        have y1 := Ext.new (o := .lst (iL (A.map fun x => x.2 - x.1))) np
        have g1 := y1 _ _ g1
        have g2 := y1 _ _ g2
        have eS := y1 _ _ eS
        have eL := y1 _ _ eL
        have x := x.trans y1
        (try simp only [e_var, wV_some, wG_some, e_non, e_bl, e_int, e_str, e_glb, e_bin, e_neg, e_no, e_and, e_or, e_cmp, e_chn, e_ife, e_tup, e_lst, e_dnew, e_idx, e_slc, e_call, e_blt, e_mtd, e_isi, e_dis, e_rev, wRev, e_mnd, e_lrg, wMnd, wLrg, e_comp, wEs, wO, wT, wI, wS, wTg, wTgs, CTs.len, asB_bl, wBin, wCmp, wAdd, wSubX, wI2, wMul, wEq, wLt, wCI, wIs, DL.isNon, wNeg, wIdx, wSlc, wB, wLen, seqOf, lstOf, wIsi, tyOf, isTy, wM, wML, tyD, Mtd.ty, iAny, isSeqL, isSeqT, iRng, wSet, List.getElem?_cons_zero, List.getElem?_cons_succ, List.set_cons_zero, List.set_cons_succ, List.length_cons, List.length_nil, wAt_0, wAt_1, wAt_2, wAt_3, Nat.reduceAdd, ix30, ix31, ix32, up_at, Bool.false_eq_true, ↓reduceIte, decide_true, String.reduceBEq, Bool.and_false, Bool.false_and, Bool.or_false, Bool.false_or, true_and, beq_self_eq_true, Bool.true_or, Bool.or_true, Bool.not_true, Bool.not_false, Bool.false_xor, Bool.true_xor, wipeD, List.map_cons, List.map_nil, wTgs, CTs.len])
        refine ⟨_, rfl, ?_⟩
        have et : (A.map fun x => x.2 - x.1).sum = tot A := rfl
        rw [et]
        generalize up h' p (.lst (iL (A.map fun x => x.2 - x.1))) = h14 at *
        (try simp only [e_var, wV_some, wG_some, e_non, e_bl, e_int, e_str, e_glb, e_bin, e_neg, e_no, e_and, e_or, e_cmp, e_chn, e_ife, e_tup, e_lst, e_dnew, e_idx, e_slc, e_call, e_blt, e_mtd, e_isi, e_dis, e_rev, wRev, e_mnd, e_lrg, wMnd, wLrg, e_comp, wEs, wO, wT, wI, wS, wTg, wTgs, CTs.len, asB_bl, wBin, wCmp, wAdd, wSubX, wI2, wMul, wEq, wLt, wCI, wIs, DL.isNon, wNeg, wIdx, wSlc, wB, wLen, seqOf, lstOf, wIsi, tyOf, isTy, wM, wML, tyD, Mtd.ty, iAny, isSeqL, isSeqT, iRng, wSet, List.getElem?_cons_zero, List.getElem?_cons_succ, List.set_cons_zero, List.set_cons_succ, List.length_cons, List.length_nil, wAt_0, wAt_1, wAt_2, wAt_3, Nat.reduceAdd, ix30, ix31, ix32, up_at, Bool.false_eq_true, ↓reduceIte, decide_true, String.reduceBEq, Bool.and_false, Bool.false_and, Bool.or_false, Bool.false_or, true_and, beq_self_eq_true, Bool.true_or, Bool.or_true, Bool.not_true, Bool.not_false, Bool.false_xor, Bool.true_xor, wipeD, List.map_cons, List.map_nil, wTgs, CTs.len])
        ((try simp only [e_var, wV_some, wG_some, e_non, e_bl, e_int, e_str, e_glb, e_bin, e_neg, e_no, e_and, e_or, e_cmp, e_chn, e_ife, e_tup, e_lst, e_dnew, e_idx, e_slc, e_call, e_blt, e_mtd, e_isi, e_dis, e_rev, wRev, e_mnd, e_lrg, wMnd, wLrg, e_comp, wEs, wO, wT, wI, wS, wTg, wTgs, CTs.len, asB_bl, wBin, wCmp, wAdd, wSubX, wI2, wMul, wEq, wLt, wCI, wIs, DL.isNon, wNeg, wIdx, wSlc, wB, wLen, seqOf, lstOf, wIsi, tyOf, isTy, wM, wML, tyD, Mtd.ty, iAny, isSeqL, isSeqT, iRng, wSet, List.getElem?_cons_zero, List.getElem?_cons_succ, List.set_cons_zero, List.set_cons_succ, List.length_cons, List.length_nil, wAt_0, wAt_1, wAt_2, wAt_3, Nat.reduceAdd, ix30, ix31, ix32, up_at, Bool.false_eq_true, ↓reduceIte, decide_true, String.reduceBEq, Bool.and_false, Bool.false_and, Bool.or_false, Bool.false_or, true_and, beq_self_eq_true, Bool.true_or, Bool.or_true, Bool.not_true, Bool.not_false, Bool.false_xor, Bool.true_xor, wipeD, List.map_cons, List.map_nil, wTgs, CTs.len]); rw [ss_nil])
        ((try simp only [e_var, wV_some, wG_some, e_non, e_bl, e_int, e_str, e_glb, e_bin, e_neg, e_no, e_and, e_or, e_cmp, e_chn, e_ife, e_tup, e_lst, e_dnew, e_idx, e_slc, e_call, e_blt, e_mtd, e_isi, e_dis, e_rev, wRev, e_mnd, e_lrg, wMnd, wLrg, e_comp, wEs, wO, wT, wI, wS, wTg, wTgs, CTs.len, asB_bl, wBin, wCmp, wAdd, wSubX, wI2, wMul, wEq, wLt, wCI, wIs, DL.isNon, wNeg, wIdx, wSlc, wB, wLen, seqOf, lstOf, wIsi, tyOf, isTy, wM, wML, tyD, Mtd.ty, iAny, isSeqL, isSeqT, iRng, wSet, List.getElem?_cons_zero, List.getElem?_cons_succ, List.set_cons_zero, List.set_cons_succ, List.length_cons, List.length_nil, wAt_0, wAt_1, wAt_2, wAt_3, Nat.reduceAdd, ix30, ix31, ix32, up_at, Bool.false_eq_true, ↓reduceIte, decide_true, String.reduceBEq, Bool.and_false, Bool.false_and, Bool.or_false, Bool.false_or, true_and, beq_self_eq_true, Bool.true_or, Bool.or_true, Bool.not_true, Bool.not_false, Bool.false_xor, Bool.true_xor, wipeD, List.map_cons, List.map_nil, wTgs, CTs.len]); rw [ss_cons]; simp only [e_var, wV_some, wG_some, e_non, e_bl, e_int, e_str, e_glb, e_bin, e_neg, e_no, e_and, e_or, e_cmp, e_chn, e_ife, e_tup, e_lst, e_dnew, e_idx, e_slc, e_call, e_blt, e_mtd, e_isi, e_dis, e_rev, wRev, e_mnd, e_lrg, wMnd, wLrg, e_comp, wEs, wO, wT, wI, wS, wTg, wTgs, CTs.len, asB_bl, wBin, wCmp, wAdd, wSubX, wI2, wMul, wEq, wLt, wCI, wIs, DL.isNon, wNeg, wIdx, wSlc, wB, wLen, seqOf, lstOf, wIsi, tyOf, isTy, wM, wML, tyD, Mtd.ty, iAny, isSeqL, isSeqT, iRng, wSet, List.getElem?_cons_zero, List.getElem?_cons_succ, List.set_cons_zero, List.set_cons_succ, List.length_cons, List.length_nil, wAt_0, wAt_1, wAt_2, wAt_3, Nat.reduceAdd, ix30, ix31, ix32, up_at, Bool.false_eq_true, ↓reduceIte, decide_true, String.reduceBEq, Bool.and_false, Bool.false_and, Bool.or_false, Bool.false_or, true_and, beq_self_eq_true, Bool.true_or, Bool.or_true, Bool.not_true, Bool.not_false, Bool.false_xor, Bool.true_xor, wipeD, List.map_cons, List.map_nil, wTgs, CTs.len])
        refine minin eS (by omega) fun h15 x15 => ?_
        have g1 := x15 _ _ g1
        have g2 := x15 _ _ g2
        have eS := x15 _ _ eS
        have eL := x15 _ _ eL
        have x := x.trans x15
        (try simp only [e_var, wV_some, wG_some, e_non, e_bl, e_int, e_str, e_glb, e_bin, e_neg, e_no, e_and, e_or, e_cmp, e_chn, e_ife, e_tup, e_lst, e_dnew, e_idx, e_slc, e_call, e_blt, e_mtd, e_isi, e_dis, e_rev, wRev, e_mnd, e_lrg, wMnd, wLrg, e_comp, wEs, wO, wT, wI, wS, wTg, wTgs, CTs.len, asB_bl, wBin, wCmp, wAdd, wSubX, wI2, wMul, wEq, wLt, wCI, wIs, DL.isNon, wNeg, wIdx, wSlc, wB, wLen, seqOf, lstOf, wIsi, tyOf, isTy, wM, wML, tyD, Mtd.ty, iAny, isSeqL, isSeqT, iRng, wSet, List.getElem?_cons_zero, List.getElem?_cons_succ, List.set_cons_zero, List.set_cons_succ, List.length_cons, List.length_nil, wAt_0, wAt_1, wAt_2, wAt_3, Nat.reduceAdd, ix30, ix31, ix32, up_at, Bool.false_eq_true, ↓reduceIte, decide_true, String.reduceBEq, Bool.and_false, Bool.false_and, Bool.or_false, Bool.false_or, true_and, beq_self_eq_true, Bool.true_or, Bool.or_true, Bool.not_true, Bool.not_false, Bool.false_xor, Bool.true_xor, wipeD, List.map_cons, List.map_nil, wTgs, CTs.len])
        refine minin eL (by omega) fun h16 x16 => ?_
        have g1 := x16 _ _ g1
        have g2 := x16 _ _ g2
        have eS := x16 _ _ eS
        have eL := x16 _ _ eL
        have x := x.trans x16
        (try simp only [e_var, wV_some, wG_some, e_non, e_bl, e_int, e_str, e_glb, e_bin, e_neg, e_no, e_and, e_or, e_cmp, e_chn, e_ife, e_tup, e_lst, e_dnew, e_idx, e_slc, e_call, e_blt, e_mtd, e_isi, e_dis, e_rev, wRev, e_mnd, e_lrg, wMnd, wLrg, e_comp, wEs, wO, wT, wI, wS, wTg, wTgs, CTs.len, asB_bl, wBin, wCmp, wAdd, wSubX, wI2, wMul, wEq, wLt, wCI, wIs, DL.isNon, wNeg, wIdx, wSlc, wB, wLen, seqOf, lstOf, wIsi, tyOf, isTy, wM, wML, tyD, Mtd.ty, iAny, isSeqL, isSeqT, iRng, wSet, List.getElem?_cons_zero, List.getElem?_cons_succ, List.set_cons_zero, List.set_cons_succ, List.length_cons, List.length_nil, wAt_0, wAt_1, wAt_2, wAt_3, Nat.reduceAdd, ix30, ix31, ix32, up_at, Bool.false_eq_true, ↓reduceIte, decide_true, String.reduceBEq, Bool.and_false, Bool.false_and, Bool.or_false, Bool.false_or, true_and, beq_self_eq_true, Bool.true_or, Bool.or_true, Bool.not_true, Bool.not_false, Bool.false_xor, Bool.true_xor, wipeD, List.map_cons, List.map_nil, wTgs, CTs.len])
        refine ndec_ite (fun g => absurd (tot_two hA bR bT) g) fun _ => ?_
        ((try simp only [e_var, wV_some, wG_some, e_non, e_bl, e_int, e_str, e_glb, e_bin, e_neg, e_no, e_and, e_or, e_cmp, e_chn, e_ife, e_tup, e_lst, e_dnew, e_idx, e_slc, e_call, e_blt, e_mtd, e_isi, e_dis, e_rev, wRev, e_mnd, e_lrg, wMnd, wLrg, e_comp, wEs, wO, wT, wI, wS, wTg, wTgs, CTs.len, asB_bl, wBin, wCmp, wAdd, wSubX, wI2, wMul, wEq, wLt, wCI, wIs, DL.isNon, wNeg, wIdx, wSlc, wB, wLen, seqOf, lstOf, wIsi, tyOf, isTy, wM, wML, tyD, Mtd.ty, iAny, isSeqL, isSeqT, iRng, wSet, List.getElem?_cons_zero, List.getElem?_cons_succ, List.set_cons_zero, List.set_cons_succ, List.length_cons, List.length_nil, wAt_0, wAt_1, wAt_2, wAt_3, Nat.reduceAdd, ix30, ix31, ix32, up_at, Bool.false_eq_true, ↓reduceIte, decide_true, String.reduceBEq, Bool.and_false, Bool.false_and, Bool.or_false, Bool.false_or, true_and, beq_self_eq_true, Bool.true_or, Bool.or_true, Bool.not_true, Bool.not_false, Bool.false_xor, Bool.true_xor, wipeD, List.map_cons, List.map_nil, wTgs, CTs.len]); rw [ss_nil])
        ((try simp only [e_var, wV_some, wG_some, e_non, e_bl, e_int, e_str, e_glb, e_bin, e_neg, e_no, e_and, e_or, e_cmp, e_chn, e_ife, e_tup, e_lst, e_dnew, e_idx, e_slc, e_call, e_blt, e_mtd, e_isi, e_dis, e_rev, wRev, e_mnd, e_lrg, wMnd, wLrg, e_comp, wEs, wO, wT, wI, wS, wTg, wTgs, CTs.len, asB_bl, wBin, wCmp, wAdd, wSubX, wI2, wMul, wEq, wLt, wCI, wIs, DL.isNon, wNeg, wIdx, wSlc, wB, wLen, seqOf, lstOf, wIsi, tyOf, isTy, wM, wML, tyD, Mtd.ty, iAny, isSeqL, isSeqT, iRng, wSet, List.getElem?_cons_zero, List.getElem?_cons_succ, List.set_cons_zero, List.set_cons_succ, List.length_cons, List.length_nil, wAt_0, wAt_1, wAt_2, wAt_3, Nat.reduceAdd, ix30, ix31, ix32, up_at, Bool.false_eq_true, ↓reduceIte, decide_true, String.reduceBEq, Bool.and_false, Bool.false_and, Bool.or_false, Bool.false_or, true_and, beq_self_eq_true, Bool.true_or, Bool.or_true, Bool.not_true, Bool.not_false, Bool.false_xor, Bool.true_xor, wipeD, List.map_cons, List.map_nil, wTgs, CTs.len]); rw [ss_cons]; simp only [e_var, wV_some, wG_some, e_non, e_bl, e_int, e_str, e_glb, e_bin, e_neg, e_no, e_and, e_or, e_cmp, e_chn, e_ife, e_tup, e_lst, e_dnew, e_idx, e_slc, e_call, e_blt, e_mtd, e_isi, e_dis, e_rev, wRev, e_mnd, e_lrg, wMnd, wLrg, e_comp, wEs, wO, wT, wI, wS, wTg, wTgs, CTs.len, asB_bl, wBin, wCmp, wAdd, wSubX, wI2, wMul, wEq, wLt, wCI, wIs, DL.isNon, wNeg, wIdx, wSlc, wB, wLen, seqOf, lstOf, wIsi, tyOf, isTy, wM, wML, tyD, Mtd.ty, iAny, isSeqL, isSeqT, iRng, wSet, List.getElem?_cons_zero, List.getElem?_cons_succ, List.set_cons_zero, List.set_cons_succ, List.length_cons, List.length_nil, wAt_0, wAt_1, wAt_2, wAt_3, Nat.reduceAdd, ix30, ix31, ix32, up_at, Bool.false_eq_true, ↓reduceIte, decide_true, String.reduceBEq, Bool.and_false, Bool.false_and, Bool.or_false, Bool.false_or, true_and, beq_self_eq_true, Bool.true_or, Bool.or_true, Bool.not_true, Bool.not_false, Bool.false_xor, Bool.true_xor, wipeD, List.map_cons, List.map_nil, wTgs, CTs.len, eS])
        intro K3 nK3
        have y3 := Ext.new (o := .lst (pL R)) nK3
        have eK3 := up_at (h := h16) (p := K3) (o := .lst (pL R))
        have nS3 : S ≠ K3 := Ext.isnew nK3 eS
        have nL3 : L ≠ K3 := Ext.isnew nK3 eL
        have g1 := y3 _ _ g1
        have g2 := y3 _ _ g2
        have eS := y3 _ _ eS
        have eL := y3 _ _ eL
        have x := x.trans y3
        generalize up h16 K3 (.lst (pL R)) = h17 at *
        (try simp only [e_var, wV_some, wG_some, e_non, e_bl, e_int, e_str, e_glb, e_bin, e_neg, e_no, e_and, e_or, e_cmp, e_chn, e_ife, e_tup, e_lst, e_dnew, e_idx, e_slc, e_call, e_blt, e_mtd, e_isi, e_dis, e_rev, wRev, e_mnd, e_lrg, wMnd, wLrg, e_comp, wEs, wO, wT, wI, wS, wTg, wTgs, CTs.len, asB_bl, wBin, wCmp, wAdd, wSubX, wI2, wMul, wEq, wLt, wCI, wIs, DL.isNon, wNeg, wIdx, wSlc, wB, wLen, seqOf, lstOf, wIsi, tyOf, isTy, wM, wML, tyD, Mtd.ty, iAny, isSeqL, isSeqT, iRng, wSet, List.getElem?_cons_zero, List.getElem?_cons_succ, List.set_cons_zero, List.set_cons_succ, List.length_cons, List.length_nil, wAt_0, wAt_1, wAt_2, wAt_3, Nat.reduceAdd, ix30, ix31, ix32, up_at, Bool.false_eq_true, ↓reduceIte, decide_true, String.reduceBEq, Bool.and_false, Bool.false_and, Bool.or_false, Bool.false_or, true_and, beq_self_eq_true, Bool.true_or, Bool.or_true, Bool.not_true, Bool.not_false, Bool.false_xor, Bool.true_xor, wipeD, List.map_cons, List.map_nil, wTgs, CTs.len, eL])
        intro K4 nK4
        have y4 := Ext.new (o := .lst (pL T)) nK4
        have eK4 := up_at (h := h17) (p := K4) (o := .lst (pL T))
        have nS4 : S ≠ K4 := Ext.isnew nK4 eS
        have nL4 : L ≠ K4 := Ext.isnew nK4 eL
        have g1 := y4 _ _ g1
        have g2 := y4 _ _ g2
        have eS := y4 _ _ eS
        have eL := y4 _ _ eL
        have eK3 := y4 _ _ eK3
        have x := x.trans y4
        generalize up h17 K4 (.lst (pL T)) = h18 at *
        refine ⟨by omega, ?_⟩
        ((try simp only [e_var, wV_some, wG_some, e_non, e_bl, e_int, e_str, e_glb, e_bin, e_neg, e_no, e_and, e_or, e_cmp, e_chn, e_ife, e_tup, e_lst, e_dnew, e_idx, e_slc, e_call, e_blt, e_mtd, e_isi, e_dis, e_rev, wRev, e_mnd, e_lrg, wMnd, wLrg, e_comp, wEs, wO, wT, wI, wS, wTg, wTgs, CTs.len, asB_bl, wBin, wCmp, wAdd, wSubX, wI2, wMul, wEq, wLt, wCI, wIs, DL.isNon, wNeg, wIdx, wSlc, wB, wLen, seqOf, lstOf, wIsi, tyOf, isTy, wM, wML, tyD, Mtd.ty, iAny, isSeqL, isSeqT, iRng, wSet, List.getElem?_cons_zero, List.getElem?_cons_succ, List.set_cons_zero, List.set_cons_succ, List.length_cons, List.length_nil, wAt_0, wAt_1, wAt_2, wAt_3, Nat.reduceAdd, ix30, ix31, ix32, up_at, Bool.false_eq_true, ↓reduceIte, decide_true, String.reduceBEq, Bool.and_false, Bool.false_and, Bool.or_false, Bool.false_or, true_and, beq_self_eq_true, Bool.true_or, Bool.or_true, Bool.not_true, Bool.not_false, Bool.false_xor, Bool.true_xor, wipeD, List.map_cons, List.map_nil, wTgs, CTs.len]); rw [ss_cons]; simp only [e_var, wV_some, wG_some, e_non, e_bl, e_int, e_str, e_glb, e_bin, e_neg, e_no, e_and, e_or, e_cmp, e_chn, e_ife, e_tup, e_lst, e_dnew, e_idx, e_slc, e_call, e_blt, e_mtd, e_isi, e_dis, e_rev, wRev, e_mnd, e_lrg, wMnd, wLrg, e_comp, wEs, wO, wT, wI, wS, wTg, wTgs, CTs.len, asB_bl, wBin, wCmp, wAdd, wSubX, wI2, wMul, wEq, wLt, wCI, wIs, DL.isNon, wNeg, wIdx, wSlc, wB, wLen, seqOf, lstOf, wIsi, tyOf, isTy, wM, wML, tyD, Mtd.ty, iAny, isSeqL, isSeqT, iRng, wSet, List.getElem?_cons_zero, List.getElem?_cons_succ, List.set_cons_zero, List.set_cons_succ, List.length_cons, List.length_nil, wAt_0, wAt_1, wAt_2, wAt_3, Nat.reduceAdd, ix30, ix31, ix32, up_at, Bool.false_eq_true, ↓reduceIte, decide_true, String.reduceBEq, Bool.and_false, Bool.false_and, Bool.or_false, Bool.false_or, true_and, beq_self_eq_true, Bool.true_or, Bool.or_true, Bool.not_true, Bool.not_false, Bool.false_xor, Bool.true_xor, wipeD, List.map_cons, List.map_nil, wTgs, CTs.len, eS])
        rw [pL_len]
        refine ⟨by omega, by omega, ?_⟩
        have nA1 : aA ≠ S := fun z => by subst z; rw [nSh] at h1; cases h1
        have nB1 : bA ≠ S := fun z => by subst z; rw [nSh] at h2; cases h2
        have nA2 : aA ≠ L := fun z => by subst z; rw [nLh] at h1; cases h1
        have nB2 : bA ≠ L := fun z => by subst z; rw [nLh] at h2; cases h2
        have x := x.fresh (o := .lst (pL R ++ [.tup [.int 0, .int 1]])) nSh
        have g1 : up h18 S (.lst (pL R ++ [.tup [.int 0, .int 1]])) aA = some (.lst (pL A)) := by rw [up_off nA1]; exact g1
        have g2 : up h18 S (.lst (pL R ++ [.tup [.int 0, .int 1]])) bA = some (.lst (pL B)) := by rw [up_off nB1]; exact g2
        have eL : up h18 S (.lst (pL R ++ [.tup [.int 0, .int 1]])) L = some (.lst (pL T)) := by rw [up_off nSL.symm]; exact eL
        have eK3 : up h18 S (.lst (pL R ++ [.tup [.int 0, .int 1]])) K3 = some (.lst (pL R)) := by rw [up_off nS3.symm]; exact eK3
        have eK4 : up h18 S (.lst (pL R ++ [.tup [.int 0, .int 1]])) K4 = some (.lst (pL T)) := by rw [up_off nS4.symm]; exact eK4
        clear eS
        generalize up h18 S (.lst (pL R ++ [.tup [.int 0, .int 1]])) = h19 at *
        ((try simp only [e_var, wV_some, wG_some, e_non, e_bl, e_int, e_str, e_glb, e_bin, e_neg, e_no, e_and, e_or, e_cmp, e_chn, e_ife, e_tup, e_lst, e_dnew, e_idx, e_slc, e_call, e_blt, e_mtd, e_isi, e_dis, e_rev, wRev, e_mnd, e_lrg, wMnd, wLrg, e_comp, wEs, wO, wT, wI, wS, wTg, wTgs, CTs.len, asB_bl, wBin, wCmp, wAdd, wSubX, wI2, wMul, wEq, wLt, wCI, wIs, DL.isNon, wNeg, wIdx, wSlc, wB, wLen, seqOf, lstOf, wIsi, tyOf, isTy, wM, wML, tyD, Mtd.ty, iAny, isSeqL, isSeqT, iRng, wSet, List.getElem?_cons_zero, List.getElem?_cons_succ, List.set_cons_zero, List.set_cons_succ, List.length_cons, List.length_nil, wAt_0, wAt_1, wAt_2, wAt_3, Nat.reduceAdd, ix30, ix31, ix32, up_at, Bool.false_eq_true, ↓reduceIte, decide_true, String.reduceBEq, Bool.and_false, Bool.false_and, Bool.or_false, Bool.false_or, true_and, beq_self_eq_true, Bool.true_or, Bool.or_true, Bool.not_true, Bool.not_false, Bool.false_xor, Bool.true_xor, wipeD, List.map_cons, List.map_nil, wTgs, CTs.len]); rw [ss_cons]; simp only [e_var, wV_some, wG_some, e_non, e_bl, e_int, e_str, e_glb, e_bin, e_neg, e_no, e_and, e_or, e_cmp, e_chn, e_ife, e_tup, e_lst, e_dnew, e_idx, e_slc, e_call, e_blt, e_mtd, e_isi, e_dis, e_rev, wRev, e_mnd, e_lrg, wMnd, wLrg, e_comp, wEs, wO, wT, wI, wS, wTg, wTgs, CTs.len, asB_bl, wBin, wCmp, wAdd, wSubX, wI2, wMul, wEq, wLt, wCI, wIs, DL.isNon, wNeg, wIdx, wSlc, wB, wLen, seqOf, lstOf, wIsi, tyOf, isTy, wM, wML, tyD, Mtd.ty, iAny, isSeqL, isSeqT, iRng, wSet, List.getElem?_cons_zero, List.getElem?_cons_succ, List.set_cons_zero, List.set_cons_succ, List.length_cons, List.length_nil, wAt_0, wAt_1, wAt_2, wAt_3, Nat.reduceAdd, ix30, ix31, ix32, up_at, Bool.false_eq_true, ↓reduceIte, decide_true, String.reduceBEq, Bool.and_false, Bool.false_and, Bool.or_false, Bool.false_or, true_and, beq_self_eq_true, Bool.true_or, Bool.or_true, Bool.not_true, Bool.not_false, Bool.false_xor, Bool.true_xor, wipeD, List.map_cons, List.map_nil, wTgs, CTs.len, eL])
        rw [pL_len]
        refine ⟨by omega, by omega, ?_⟩
        have x := x.fresh (o := .lst (pL T ++ [.tup [.int 0, .int 1]])) nLh
        have g1 : up h19 L (.lst (pL T ++ [.tup [.int 0, .int 1]])) aA = some (.lst (pL A)) := by rw [up_off nA2]; exact g1
        have g2 : up h19 L (.lst (pL T ++ [.tup [.int 0, .int 1]])) bA = some (.lst (pL B)) := by rw [up_off nB2]; exact g2
        have eK3 : up h19 L (.lst (pL T ++ [.tup [.int 0, .int 1]])) K3 = some (.lst (pL R)) := by rw [up_off nL3.symm]; exact eK3
        have eK4 : up h19 L (.lst (pL T ++ [.tup [.int 0, .int 1]])) K4 = some (.lst (pL T)) := by rw [up_off nL4.symm]; exact eK4
        clear eL
        generalize up h19 L (.lst (pL T ++ [.tup [.int 0, .int 1]])) = h20 at *
        ((try simp only [e_var, wV_some, wG_some, e_non, e_bl, e_int, e_str, e_glb, e_bin, e_neg, e_no, e_and, e_or, e_cmp, e_chn, e_ife, e_tup, e_lst, e_dnew, e_idx, e_slc, e_call, e_blt, e_mtd, e_isi, e_dis, e_rev, wRev, e_mnd, e_lrg, wMnd, wLrg, e_comp, wEs, wO, wT, wI, wS, wTg, wTgs, CTs.len, asB_bl, wBin, wCmp, wAdd, wSubX, wI2, wMul, wEq, wLt, wCI, wIs, DL.isNon, wNeg, wIdx, wSlc, wB, wLen, seqOf, lstOf, wIsi, tyOf, isTy, wM, wML, tyD, Mtd.ty, iAny, isSeqL, isSeqT, iRng, wSet, List.getElem?_cons_zero, List.getElem?_cons_succ, List.set_cons_zero, List.set_cons_succ, List.length_cons, List.length_nil, wAt_0, wAt_1, wAt_2, wAt_3, Nat.reduceAdd, ix30, ix31, ix32, up_at, Bool.false_eq_true, ↓reduceIte, decide_true, String.reduceBEq, Bool.and_false, Bool.false_and, Bool.or_false, Bool.false_or, true_and, beq_self_eq_true, Bool.true_or, Bool.or_true, Bool.not_true, Bool.not_false, Bool.false_xor, Bool.true_xor, wipeD, List.map_cons, List.map_nil, wTgs, CTs.len]); rw [ss_cons]; simp only [e_var, wV_some, wG_some, e_non, e_bl, e_int, e_str, e_glb, e_bin, e_neg, e_no, e_and, e_or, e_cmp, e_chn, e_ife, e_tup, e_lst, e_dnew, e_idx, e_slc, e_call, e_blt, e_mtd, e_isi, e_dis, e_rev, wRev, e_mnd, e_lrg, wMnd, wLrg, e_comp, wEs, wO, wT, wI, wS, wTg, wTgs, CTs.len, asB_bl, wBin, wCmp, wAdd, wSubX, wI2, wMul, wEq, wLt, wCI, wIs, DL.isNon, wNeg, wIdx, wSlc, wB, wLen, seqOf, lstOf, wIsi, tyOf, isTy, wM, wML, tyD, Mtd.ty, iAny, isSeqL, isSeqT, iRng, wSet, List.getElem?_cons_zero, List.getElem?_cons_succ, List.set_cons_zero, List.set_cons_succ, List.length_cons, List.length_nil, wAt_0, wAt_1, wAt_2, wAt_3, Nat.reduceAdd, ix30, ix31, ix32, up_at, Bool.false_eq_true, ↓reduceIte, decide_true, String.reduceBEq, Bool.and_false, Bool.false_and, Bool.or_false, Bool.false_or, true_and, beq_self_eq_true, Bool.true_or, Bool.or_true, Bool.not_true, Bool.not_false, Bool.false_xor, Bool.true_xor, wipeD, List.map_cons, List.map_nil, wTgs, CTs.len])
        refine both hA hB (by omega) (by omega) g1 g2 fun S2 R2 h21 nS2 x21 eS2 bR2 lR2 => ?_
        have g1 := x21 _ _ g1
        have g2 := x21 _ _ g2
        have eK3 := x21 _ _ eK3
        have eK4 := x21 _ _ eK4
        have x := x.trans x21
        (try simp only [e_var, wV_some, wG_some, e_non, e_bl, e_int, e_str, e_glb, e_bin, e_neg, e_no, e_and, e_or, e_cmp, e_chn, e_ife, e_tup, e_lst, e_dnew, e_idx, e_slc, e_call, e_blt, e_mtd, e_isi, e_dis, e_rev, wRev, e_mnd, e_lrg, wMnd, wLrg, e_comp, wEs, wO, wT, wI, wS, wTg, wTgs, CTs.len, asB_bl, wBin, wCmp, wAdd, wSubX, wI2, wMul, wEq, wLt, wCI, wIs, DL.isNon, wNeg, wIdx, wSlc, wB, wLen, seqOf, lstOf, wIsi, tyOf, isTy, wM, wML, tyD, Mtd.ty, iAny, isSeqL, isSeqT, iRng, wSet, List.getElem?_cons_zero, List.getElem?_cons_succ, List.set_cons_zero, List.set_cons_succ, List.length_cons, List.length_nil, wAt_0, wAt_1, wAt_2, wAt_3, Nat.reduceAdd, ix30, ix31, ix32, up_at, Bool.false_eq_true, ↓reduceIte, decide_true, String.reduceBEq, Bool.and_false, Bool.false_and, Bool.or_false, Bool.false_or, true_and, beq_self_eq_true, Bool.true_or, Bool.or_true, Bool.not_true, Bool.not_false, Bool.false_xor, Bool.true_xor, wipeD, List.map_cons, List.map_nil, wTgs, CTs.len])
        refine without hA hB (by omega) (by omega) g1 g2 fun L2 T2 h22 nL2 x22 eL2 bT2 lT2 => ?_
        have eK3 := x22 _ _ eK3
        have eK4 := x22 _ _ eK4
        have eS2 := x22 _ _ eS2
        have x := x.trans x22
        have r1 : R2 = R := lot_uniq bR2.1 bR.1 fun m => by rw [bR2.2 m, bR.2 m]
        have r2 : T2 = T := lot_uniq bT2.1 bT.1 fun m => by rw [bT2.2 m, bT.2 m]
        rw [r1] at eS2
        rw [r2] at eL2
        subst hz2
        (try simp only [e_var, wV_some, wG_some, e_non, e_bl, e_int, e_str, e_glb, e_bin, e_neg, e_no, e_and, e_or, e_cmp, e_chn, e_ife, e_tup, e_lst, e_dnew, e_idx, e_slc, e_call, e_blt, e_mtd, e_isi, e_dis, e_rev, wRev, e_mnd, e_lrg, wMnd, wLrg, e_comp, wEs, wO, wT, wI, wS, wTg, wTgs, CTs.len, asB_bl, wBin, wCmp, wAdd, wSubX, wI2, wMul, wEq, wLt, wCI, wIs, DL.isNon, wNeg, wIdx, wSlc, wB, wLen, seqOf, lstOf, wIsi, tyOf, isTy, wM, wML, tyD, Mtd.ty, iAny, isSeqL, isSeqT, iRng, wSet, List.getElem?_cons_zero, List.getElem?_cons_succ, List.set_cons_zero, List.set_cons_succ, List.length_cons, List.length_nil, wAt_0, wAt_1, wAt_2, wAt_3, Nat.reduceAdd, ix30, ix31, ix32, up_at, Bool.false_eq_true, ↓reduceIte, decide_true, String.reduceBEq, Bool.and_false, Bool.false_and, Bool.or_false, Bool.false_or, true_and, beq_self_eq_true, Bool.true_or, Bool.or_true, Bool.not_true, Bool.not_false, Bool.false_xor, Bool.true_xor, wipeD, List.map_cons, List.map_nil, wTgs, CTs.len])
        refine ⟨by omega, ?_⟩
        refine wEqG_same (dpy_two eS2 eL2) (dpy_two eK3 eK4) (shaped_two R T) ?_
        exact q h22 x
end
end Qk04

namespace Qk04
open PySem DL L2
section
variable {n : Nat} {h : DH} {Q : QD} {E : XD} {P c : Addr} {B : Int}
theorem lot_snoc {l : List IP} {x : IP} (hl : Lot l) (hx : x.1 < x.2) (g : ∀ y ∈ l, y.2 < x.1) : Lot (l ++ [x]) := by
  refine ⟨fun y hy => ?_, List.pairwise_append.mpr ⟨hl.ris, List.pairwise_singleton _ _, fun y hy z hz => ?_⟩⟩
  · rcases List.mem_append.mp hy with hy | hy
    · exact hl.pos y hy
    · rw [List.mem_singleton.mp hy]; exact hx
  · rw [List.mem_singleton.mp hz]
    exact g y hy
theorem lot0 : Lot [] := ⟨by simp, List.Pairwise.nil⟩
theorem lotm {bg st : Int} (f : Fd P c B h) (hb : B < 100000) (hs : 0 < st ∧ st ≤ 5000) (q : ∀ a l h2, a ≠ P → a ≠ c → h a = none → Ex1 P h h2 → Lot l → l.length ≤ 8 → h2 a = some (.lst (pL l)) → Fd P c (B + 20) h2 → Q (.ref a) h2) : run gl ds (n + 2) 8 [.ref P, .int bg, .int st] h Q E := by
  refine e8 ?_
  ((try simp only [e_var, wV_some, wG_some, e_non, e_bl, e_int, e_str, e_glb, e_bin, e_neg, e_no, e_and, e_or, e_cmp, e_chn, e_ife, e_tup, e_lst, e_dnew, e_idx, e_slc, e_call, e_blt, e_mtd, e_isi, e_dis, e_rev, wRev, e_mnd, e_lrg, wMnd, wLrg, e_comp, wEs, wO, wT, wI, wS, wTg, wTgs, CTs.len, asB_bl, wBin, wCmp, wAdd, wSubX, wI2, wMul, wEq, wLt, wCI, wIs, DL.isNon, wNeg, wIdx, wSlc, wB, wLen, seqOf, lstOf, wIsi, tyOf, isTy, wM, wML, tyD, Mtd.ty, iAny, isSeqL, isSeqT, iRng, wSet, List.getElem?_cons_zero, List.getElem?_cons_succ, List.set_cons_zero, List.set_cons_succ, List.length_cons, List.length_nil, wAt_0, wAt_1, wAt_2, wAt_3, Nat.reduceAdd, ix30, ix31, ix32, up_at, Bool.false_eq_true, ↓reduceIte, decide_true, String.reduceBEq, Bool.and_false, Bool.false_and, Bool.or_false, Bool.false_or, true_and, beq_self_eq_true, Bool.true_or, Bool.or_true, Bool.not_true, Bool.not_false, Bool.false_xor, Bool.true_xor, wipeD, List.map_cons, List.map_nil, wTgs, CTs.len]); rw [ss_cons]; simp only [e_var, wV_some, wG_some, e_non, e_bl, e_int, e_str, e_glb, e_bin, e_neg, e_no, e_and, e_or, e_cmp, e_chn, e_ife, e_tup, e_lst, e_dnew, e_idx, e_slc, e_call, e_blt, e_mtd, e_isi, e_dis, e_rev, wRev, e_mnd, e_lrg, wMnd, wLrg, e_comp, wEs, wO, wT, wI, wS, wTg, wTgs, CTs.len, asB_bl, wBin, wCmp, wAdd, wSubX, wI2, wMul, wEq, wLt, wCI, wIs, DL.isNon, wNeg, wIdx, wSlc, wB, wLen, seqOf, lstOf, wIsi, tyOf, isTy, wM, wML, tyD, Mtd.ty, iAny, isSeqL, isSeqT, iRng, wSet, List.getElem?_cons_zero, List.getElem?_cons_succ, List.set_cons_zero, List.set_cons_succ, List.length_cons, List.length_nil, wAt_0, wAt_1, wAt_2, wAt_3, Nat.reduceAdd, ix30, ix31, ix32, up_at, Bool.false_eq_true, ↓reduceIte, decide_true, String.reduceBEq, Bool.and_false, Bool.false_and, Bool.or_false, Bool.false_or, true_and, beq_self_eq_true, Bool.true_or, Bool.or_true, Bool.not_true, Bool.not_false, Bool.false_xor, Bool.true_xor, wipeD, List.map_cons, List.map_nil, wTgs, CTs.len])
  refine ⟨by omega, fun F nF => ?_⟩
  have eF : up h F (.lst (pL [])) F = some (.lst (pL [])) := up_at
  have y0 := Ext.new (o := .lst (pL [])) nF
  have nFP := f.np nF
  have nFc := f.nc nF
  have f := f.ext y0
  have x0 : Ex1 P h _ := y0.ex1
  show wSs gl (DL.run gl ds (n + 1)) _ _ b8_1 _ (up h F (.lst (pL []))) _
  generalize up h F (.lst (pL [])) = h1 at *
  ((try simp only [e_var, wV_some, wG_some, e_non, e_bl, e_int, e_str, e_glb, e_bin, e_neg, e_no, e_and, e_or, e_cmp, e_chn, e_ife, e_tup, e_lst, e_dnew, e_idx, e_slc, e_call, e_blt, e_mtd, e_isi, e_dis, e_rev, wRev, e_mnd, e_lrg, wMnd, wLrg, e_comp, wEs, wO, wT, wI, wS, wTg, wTgs, CTs.len, asB_bl, wBin, wCmp, wAdd, wSubX, wI2, wMul, wEq, wLt, wCI, wIs, DL.isNon, wNeg, wIdx, wSlc, wB, wLen, seqOf, lstOf, wIsi, tyOf, isTy, wM, wML, tyD, Mtd.ty, iAny, isSeqL, isSeqT, iRng, wSet, List.getElem?_cons_zero, List.getElem?_cons_succ, List.set_cons_zero, List.set_cons_succ, List.length_cons, List.length_nil, wAt_0, wAt_1, wAt_2, wAt_3, Nat.reduceAdd, ix30, ix31, ix32, up_at, Bool.false_eq_true, ↓reduceIte, decide_true, String.reduceBEq, Bool.and_false, Bool.false_and, Bool.or_false, Bool.false_or, true_and, beq_self_eq_true, Bool.true_or, Bool.or_true, Bool.not_true, Bool.not_false, Bool.false_xor, Bool.true_xor, wipeD, List.map_cons, List.map_nil, wTgs, CTs.len]); rw [ss_cons]; simp only [e_var, wV_some, wG_some, e_non, e_bl, e_int, e_str, e_glb, e_bin, e_neg, e_no, e_and, e_or, e_cmp, e_chn, e_ife, e_tup, e_lst, e_dnew, e_idx, e_slc, e_call, e_blt, e_mtd, e_isi, e_dis, e_rev, wRev, e_mnd, e_lrg, wMnd, wLrg, e_comp, wEs, wO, wT, wI, wS, wTg, wTgs, CTs.len, asB_bl, wBin, wCmp, wAdd, wSubX, wI2, wMul, wEq, wLt, wCI, wIs, DL.isNon, wNeg, wIdx, wSlc, wB, wLen, seqOf, lstOf, wIsi, tyOf, isTy, wM, wML, tyD, Mtd.ty, iAny, isSeqL, isSeqT, iRng, wSet, List.getElem?_cons_zero, List.getElem?_cons_succ, List.set_cons_zero, List.set_cons_succ, List.length_cons, List.length_nil, wAt_0, wAt_1, wAt_2, wAt_3, Nat.reduceAdd, ix30, ix31, ix32, up_at, Bool.false_eq_true, ↓reduceIte, decide_true, String.reduceBEq, Bool.and_false, Bool.false_and, Bool.or_false, Bool.false_or, true_and, beq_self_eq_true, Bool.true_or, Bool.or_true, Bool.not_true, Bool.not_false, Bool.false_xor, Bool.true_xor, wipeD, List.map_cons, List.map_nil, wTgs, CTs.len])
  ((try simp only [e_var, wV_some, wG_some, e_non, e_bl, e_int, e_str, e_glb, e_bin, e_neg, e_no, e_and, e_or, e_cmp, e_chn, e_ife, e_tup, e_lst, e_dnew, e_idx, e_slc, e_call, e_blt, e_mtd, e_isi, e_dis, e_rev, wRev, e_mnd, e_lrg, wMnd, wLrg, e_comp, wEs, wO, wT, wI, wS, wTg, wTgs, CTs.len, asB_bl, wBin, wCmp, wAdd, wSubX, wI2, wMul, wEq, wLt, wCI, wIs, DL.isNon, wNeg, wIdx, wSlc, wB, wLen, seqOf, lstOf, wIsi, tyOf, isTy, wM, wML, tyD, Mtd.ty, iAny, isSeqL, isSeqT, iRng, wSet, List.getElem?_cons_zero, List.getElem?_cons_succ, List.set_cons_zero, List.set_cons_succ, List.length_cons, List.length_nil, wAt_0, wAt_1, wAt_2, wAt_3, Nat.reduceAdd, ix30, ix31, ix32, up_at, Bool.false_eq_true, ↓reduceIte, decide_true, String.reduceBEq, Bool.and_false, Bool.false_and, Bool.or_false, Bool.false_or, true_and, beq_self_eq_true, Bool.true_or, Bool.or_true, Bool.not_true, Bool.not_false, Bool.false_xor, Bool.true_xor, wipeD, List.map_cons, List.map_nil, wTgs, CTs.len]); rw [ss_cons]; simp only [e_var, wV_some, wG_some, e_non, e_bl, e_int, e_str, e_glb, e_bin, e_neg, e_no, e_and, e_or, e_cmp, e_chn, e_ife, e_tup, e_lst, e_dnew, e_idx, e_slc, e_call, e_blt, e_mtd, e_isi, e_dis, e_rev, wRev, e_mnd, e_lrg, wMnd, wLrg, e_comp, wEs, wO, wT, wI, wS, wTg, wTgs, CTs.len, asB_bl, wBin, wCmp, wAdd, wSubX, wI2, wMul, wEq, wLt, wCI, wIs, DL.isNon, wNeg, wIdx, wSlc, wB, wLen, seqOf, lstOf, wIsi, tyOf, isTy, wM, wML, tyD, Mtd.ty, iAny, isSeqL, isSeqT, iRng, wSet, List.getElem?_cons_zero, List.getElem?_cons_succ, List.set_cons_zero, List.set_cons_succ, List.length_cons, List.length_nil, wAt_0, wAt_1, wAt_2, wAt_3, Nat.reduceAdd, ix30, ix31, ix32, up_at, Bool.false_eq_true, ↓reduceIte, decide_true, String.reduceBEq, Bool.and_false, Bool.false_and, Bool.or_false, Bool.false_or, true_and, beq_self_eq_true, Bool.true_or, Bool.or_true, Bool.not_true, Bool.not_false, Bool.false_xor, Bool.true_xor, wipeD, List.map_cons, List.map_nil, wTgs, CTs.len])
  refine drawF f (by omega) (by omega) (by omega) fun d h2 d0 d1 f x1 => ?_
  have eF := x1 _ _ nFP eF
  have x0 := x0.trans x1
  (try simp only [e_var, wV_some, wG_some, e_non, e_bl, e_int, e_str, e_glb, e_bin, e_neg, e_no, e_and, e_or, e_cmp, e_chn, e_ife, e_tup, e_lst, e_dnew, e_idx, e_slc, e_call, e_blt, e_mtd, e_isi, e_dis, e_rev, wRev, e_mnd, e_lrg, wMnd, wLrg, e_comp, wEs, wO, wT, wI, wS, wTg, wTgs, CTs.len, asB_bl, wBin, wCmp, wAdd, wSubX, wI2, wMul, wEq, wLt, wCI, wIs, DL.isNon, wNeg, wIdx, wSlc, wB, wLen, seqOf, lstOf, wIsi, tyOf, isTy, wM, wML, tyD, Mtd.ty, iAny, isSeqL, isSeqT, iRng, wSet, List.getElem?_cons_zero, List.getElem?_cons_succ, List.set_cons_zero, List.set_cons_succ, List.length_cons, List.length_nil, wAt_0, wAt_1, wAt_2, wAt_3, Nat.reduceAdd, ix30, ix31, ix32, up_at, Bool.false_eq_true, ↓reduceIte, decide_true, String.reduceBEq, Bool.and_false, Bool.false_and, Bool.or_false, Bool.false_or, true_and, beq_self_eq_true, Bool.true_or, Bool.or_true, Bool.not_true, Bool.not_false, Bool.false_xor, Bool.true_xor, wipeD, List.map_cons, List.map_nil, wTgs, CTs.len])
  refine ⟨⟨by omega, by omega, by omega, by omega⟩, ?_⟩
  refine loop_rng (fun i s h' => ∃ here x5 x6 l, s = [some (.ref P), some (.int bg), some (.int st), some (.ref F), some (.int here), x5, x6] ∧ l.length = i ∧ Lot l ∧ (∀ x ∈ l, x.2 ≤ here) ∧ h' F = some (.lst (pL l)) ∧ Ex1 P h h' ∧ Fd P c (B + 1 + 2 * i) h') ⟨bg, _, _, [], rfl, rfl, lot0, by simp, eF, x0, f.mono (by omega)⟩ ?_ ?_
  · rintro i s h' hi ⟨here, x5, x6, l, rfl, ll, hl, hh, eF, x0, f⟩
    (try simp only [e_var, wV_some, wG_some, e_non, e_bl, e_int, e_str, e_glb, e_bin, e_neg, e_no, e_and, e_or, e_cmp, e_chn, e_ife, e_tup, e_lst, e_dnew, e_idx, e_slc, e_call, e_blt, e_mtd, e_isi, e_dis, e_rev, wRev, e_mnd, e_lrg, wMnd, wLrg, e_comp, wEs, wO, wT, wI, wS, wTg, wTgs, CTs.len, asB_bl, wBin, wCmp, wAdd, wSubX, wI2, wMul, wEq, wLt, wCI, wIs, DL.isNon, wNeg, wIdx, wSlc, wB, wLen, seqOf, lstOf, wIsi, tyOf, isTy, wM, wML, tyD, Mtd.ty, iAny, isSeqL, isSeqT, iRng, wSet, List.getElem?_cons_zero, List.getElem?_cons_succ, List.set_cons_zero, List.set_cons_succ, List.length_cons, List.length_nil, wAt_0, wAt_1, wAt_2, wAt_3, Nat.reduceAdd, ix30, ix31, ix32, up_at, Bool.false_eq_true, ↓reduceIte, decide_true, String.reduceBEq, Bool.and_false, Bool.false_and, Bool.or_false, Bool.false_or, true_and, beq_self_eq_true, Bool.true_or, Bool.or_true, Bool.not_true, Bool.not_false, Bool.false_xor, Bool.true_xor, wipeD, List.map_cons, List.map_nil, wTgs, CTs.len])
    ((try simp only [e_var, wV_some, wG_some, e_non, e_bl, e_int, e_str, e_glb, e_bin, e_neg, e_no, e_and, e_or, e_cmp, e_chn, e_ife, e_tup, e_lst, e_dnew, e_idx, e_slc, e_call, e_blt, e_mtd, e_isi, e_dis, e_rev, wRev, e_mnd, e_lrg, wMnd, wLrg, e_comp, wEs, wO, wT, wI, wS, wTg, wTgs, CTs.len, asB_bl, wBin, wCmp, wAdd, wSubX, wI2, wMul, wEq, wLt, wCI, wIs, DL.isNon, wNeg, wIdx, wSlc, wB, wLen, seqOf, lstOf, wIsi, tyOf, isTy, wM, wML, tyD, Mtd.ty, iAny, isSeqL, isSeqT, iRng, wSet, List.getElem?_cons_zero, List.getElem?_cons_succ, List.set_cons_zero, List.set_cons_succ, List.length_cons, List.length_nil, wAt_0, wAt_1, wAt_2, wAt_3, Nat.reduceAdd, ix30, ix31, ix32, up_at, Bool.false_eq_true, ↓reduceIte, decide_true, String.reduceBEq, Bool.and_false, Bool.false_and, Bool.or_false, Bool.false_or, true_and, beq_self_eq_true, Bool.true_or, Bool.or_true, Bool.not_true, Bool.not_false, Bool.false_xor, Bool.true_xor, wipeD, List.map_cons, List.map_nil, wTgs, CTs.len]); rw [ss_cons]; simp only [e_var, wV_some, wG_some, e_non, e_bl, e_int, e_str, e_glb, e_bin, e_neg, e_no, e_and, e_or, e_cmp, e_chn, e_ife, e_tup, e_lst, e_dnew, e_idx, e_slc, e_call, e_blt, e_mtd, e_isi, e_dis, e_rev, wRev, e_mnd, e_lrg, wMnd, wLrg, e_comp, wEs, wO, wT, wI, wS, wTg, wTgs, CTs.len, asB_bl, wBin, wCmp, wAdd, wSubX, wI2, wMul, wEq, wLt, wCI, wIs, DL.isNon, wNeg, wIdx, wSlc, wB, wLen, seqOf, lstOf, wIsi, tyOf, isTy, wM, wML, tyD, Mtd.ty, iAny, isSeqL, isSeqT, iRng, wSet, List.getElem?_cons_zero, List.getElem?_cons_succ, List.set_cons_zero, List.set_cons_succ, List.length_cons, List.length_nil, wAt_0, wAt_1, wAt_2, wAt_3, Nat.reduceAdd, ix30, ix31, ix32, up_at, Bool.false_eq_true, ↓reduceIte, decide_true, String.reduceBEq, Bool.and_false, Bool.false_and, Bool.or_false, Bool.false_or, true_and, beq_self_eq_true, Bool.true_or, Bool.or_true, Bool.not_true, Bool.not_false, Bool.false_xor, Bool.true_xor, wipeD, List.map_cons, List.map_nil, wTgs, CTs.len])
    refine drawF f (by omega) (by omega) (by omega) fun d2 h3 a0 a1 f x3 => ?_
    have eF := x3 _ _ nFP eF
    have x0 := x0.trans x3
    (try simp only [e_var, wV_some, wG_some, e_non, e_bl, e_int, e_str, e_glb, e_bin, e_neg, e_no, e_and, e_or, e_cmp, e_chn, e_ife, e_tup, e_lst, e_dnew, e_idx, e_slc, e_call, e_blt, e_mtd, e_isi, e_dis, e_rev, wRev, e_mnd, e_lrg, wMnd, wLrg, e_comp, wEs, wO, wT, wI, wS, wTg, wTgs, CTs.len, asB_bl, wBin, wCmp, wAdd, wSubX, wI2, wMul, wEq, wLt, wCI, wIs, DL.isNon, wNeg, wIdx, wSlc, wB, wLen, seqOf, lstOf, wIsi, tyOf, isTy, wM, wML, tyD, Mtd.ty, iAny, isSeqL, isSeqT, iRng, wSet, List.getElem?_cons_zero, List.getElem?_cons_succ, List.set_cons_zero, List.set_cons_succ, List.length_cons, List.length_nil, wAt_0, wAt_1, wAt_2, wAt_3, Nat.reduceAdd, ix30, ix31, ix32, up_at, Bool.false_eq_true, ↓reduceIte, decide_true, String.reduceBEq, Bool.and_false, Bool.false_and, Bool.or_false, Bool.false_or, true_and, beq_self_eq_true, Bool.true_or, Bool.or_true, Bool.not_true, Bool.not_false, Bool.false_xor, Bool.true_xor, wipeD, List.map_cons, List.map_nil, wTgs, CTs.len])
    ((try simp only [e_var, wV_some, wG_some, e_non, e_bl, e_int, e_str, e_glb, e_bin, e_neg, e_no, e_and, e_or, e_cmp, e_chn, e_ife, e_tup, e_lst, e_dnew, e_idx, e_slc, e_call, e_blt, e_mtd, e_isi, e_dis, e_rev, wRev, e_mnd, e_lrg, wMnd, wLrg, e_comp, wEs, wO, wT, wI, wS, wTg, wTgs, CTs.len, asB_bl, wBin, wCmp, wAdd, wSubX, wI2, wMul, wEq, wLt, wCI, wIs, DL.isNon, wNeg, wIdx, wSlc, wB, wLen, seqOf, lstOf, wIsi, tyOf, isTy, wM, wML, tyD, Mtd.ty, iAny, isSeqL, isSeqT, iRng, wSet, List.getElem?_cons_zero, List.getElem?_cons_succ, List.set_cons_zero, List.set_cons_succ, List.length_cons, List.length_nil, wAt_0, wAt_1, wAt_2, wAt_3, Nat.reduceAdd, ix30, ix31, ix32, up_at, Bool.false_eq_true, ↓reduceIte, decide_true, String.reduceBEq, Bool.and_false, Bool.false_and, Bool.or_false, Bool.false_or, true_and, beq_self_eq_true, Bool.true_or, Bool.or_true, Bool.not_true, Bool.not_false, Bool.false_xor, Bool.true_xor, wipeD, List.map_cons, List.map_nil, wTgs, CTs.len]); rw [ss_cons]; simp only [e_var, wV_some, wG_some, e_non, e_bl, e_int, e_str, e_glb, e_bin, e_neg, e_no, e_and, e_or, e_cmp, e_chn, e_ife, e_tup, e_lst, e_dnew, e_idx, e_slc, e_call, e_blt, e_mtd, e_isi, e_dis, e_rev, wRev, e_mnd, e_lrg, wMnd, wLrg, e_comp, wEs, wO, wT, wI, wS, wTg, wTgs, CTs.len, asB_bl, wBin, wCmp, wAdd, wSubX, wI2, wMul, wEq, wLt, wCI, wIs, DL.isNon, wNeg, wIdx, wSlc, wB, wLen, seqOf, lstOf, wIsi, tyOf, isTy, wM, wML, tyD, Mtd.ty, iAny, isSeqL, isSeqT, iRng, wSet, List.getElem?_cons_zero, List.getElem?_cons_succ, List.set_cons_zero, List.set_cons_succ, List.length_cons, List.length_nil, wAt_0, wAt_1, wAt_2, wAt_3, Nat.reduceAdd, ix30, ix31, ix32, up_at, Bool.false_eq_true, ↓reduceIte, decide_true, String.reduceBEq, Bool.and_false, Bool.false_and, Bool.or_false, Bool.false_or, true_and, beq_self_eq_true, Bool.true_or, Bool.or_true, Bool.not_true, Bool.not_false, Bool.false_xor, Bool.true_xor, wipeD, List.map_cons, List.map_nil, wTgs, CTs.len])
    refine drawF f (by omega) (by omega) (by omega) fun d3 h4 a2 a3 f x4 => ?_
    have eF := x4 _ _ nFP eF
    have x0 := x0.trans x4
    (try simp only [e_var, wV_some, wG_some, e_non, e_bl, e_int, e_str, e_glb, e_bin, e_neg, e_no, e_and, e_or, e_cmp, e_chn, e_ife, e_tup, e_lst, e_dnew, e_idx, e_slc, e_call, e_blt, e_mtd, e_isi, e_dis, e_rev, wRev, e_mnd, e_lrg, wMnd, wLrg, e_comp, wEs, wO, wT, wI, wS, wTg, wTgs, CTs.len, asB_bl, wBin, wCmp, wAdd, wSubX, wI2, wMul, wEq, wLt, wCI, wIs, DL.isNon, wNeg, wIdx, wSlc, wB, wLen, seqOf, lstOf, wIsi, tyOf, isTy, wM, wML, tyD, Mtd.ty, iAny, isSeqL, isSeqT, iRng, wSet, List.getElem?_cons_zero, List.getElem?_cons_succ, List.set_cons_zero, List.set_cons_succ, List.length_cons, List.length_nil, wAt_0, wAt_1, wAt_2, wAt_3, Nat.reduceAdd, ix30, ix31, ix32, up_at, Bool.false_eq_true, ↓reduceIte, decide_true, String.reduceBEq, Bool.and_false, Bool.false_and, Bool.or_false, Bool.false_or, true_and, beq_self_eq_true, Bool.true_or, Bool.or_true, Bool.not_true, Bool.not_false, Bool.false_xor, Bool.true_xor, wipeD, List.map_cons, List.map_nil, wTgs, CTs.len])
    ((try simp only [e_var, wV_some, wG_some, e_non, e_bl, e_int, e_str, e_glb, e_bin, e_neg, e_no, e_and, e_or, e_cmp, e_chn, e_ife, e_tup, e_lst, e_dnew, e_idx, e_slc, e_call, e_blt, e_mtd, e_isi, e_dis, e_rev, wRev, e_mnd, e_lrg, wMnd, wLrg, e_comp, wEs, wO, wT, wI, wS, wTg, wTgs, CTs.len, asB_bl, wBin, wCmp, wAdd, wSubX, wI2, wMul, wEq, wLt, wCI, wIs, DL.isNon, wNeg, wIdx, wSlc, wB, wLen, seqOf, lstOf, wIsi, tyOf, isTy, wM, wML, tyD, Mtd.ty, iAny, isSeqL, isSeqT, iRng, wSet, List.getElem?_cons_zero, List.getElem?_cons_succ, List.set_cons_zero, List.set_cons_succ, List.length_cons, List.length_nil, wAt_0, wAt_1, wAt_2, wAt_3, Nat.reduceAdd, ix30, ix31, ix32, up_at, Bool.false_eq_true, ↓reduceIte, decide_true, String.reduceBEq, Bool.and_false, Bool.false_and, Bool.or_false, Bool.false_or, true_and, beq_self_eq_true, Bool.true_or, Bool.or_true, Bool.not_true, Bool.not_false, Bool.false_xor, Bool.true_xor, wipeD, List.map_cons, List.map_nil, wTgs, CTs.len]); rw [ss_cons]; simp only [e_var, wV_some, wG_some, e_non, e_bl, e_int, e_str, e_glb, e_bin, e_neg, e_no, e_and, e_or, e_cmp, e_chn, e_ife, e_tup, e_lst, e_dnew, e_idx, e_slc, e_call, e_blt, e_mtd, e_isi, e_dis, e_rev, wRev, e_mnd, e_lrg, wMnd, wLrg, e_comp, wEs, wO, wT, wI, wS, wTg, wTgs, CTs.len, asB_bl, wBin, wCmp, wAdd, wSubX, wI2, wMul, wEq, wLt, wCI, wIs, DL.isNon, wNeg, wIdx, wSlc, wB, wLen, seqOf, lstOf, wIsi, tyOf, isTy, wM, wML, tyD, Mtd.ty, iAny, isSeqL, isSeqT, iRng, wSet, List.getElem?_cons_zero, List.getElem?_cons_succ, List.set_cons_zero, List.set_cons_succ, List.length_cons, List.length_nil, wAt_0, wAt_1, wAt_2, wAt_3, Nat.reduceAdd, ix30, ix31, ix32, up_at, Bool.false_eq_true, ↓reduceIte, decide_true, String.reduceBEq, Bool.and_false, Bool.false_and, Bool.or_false, Bool.false_or, true_and, beq_self_eq_true, Bool.true_or, Bool.or_true, Bool.not_true, Bool.not_false, Bool.false_xor, Bool.true_xor, wipeD, List.map_cons, List.map_nil, wTgs, CTs.len, eF])
    rw [pL_len]
    refine ⟨by omega, by omega, ?_⟩
    ((try simp only [e_var, wV_some, wG_some, e_non, e_bl, e_int, e_str, e_glb, e_bin, e_neg, e_no, e_and, e_or, e_cmp, e_chn, e_ife, e_tup, e_lst, e_dnew, e_idx, e_slc, e_call, e_blt, e_mtd, e_isi, e_dis, e_rev, wRev, e_mnd, e_lrg, wMnd, wLrg, e_comp, wEs, wO, wT, wI, wS, wTg, wTgs, CTs.len, asB_bl, wBin, wCmp, wAdd, wSubX, wI2, wMul, wEq, wLt, wCI, wIs, DL.isNon, wNeg, wIdx, wSlc, wB, wLen, seqOf, lstOf, wIsi, tyOf, isTy, wM, wML, tyD, Mtd.ty, iAny, isSeqL, isSeqT, iRng, wSet, List.getElem?_cons_zero, List.getElem?_cons_succ, List.set_cons_zero, List.set_cons_succ, List.length_cons, List.length_nil, wAt_0, wAt_1, wAt_2, wAt_3, Nat.reduceAdd, ix30, ix31, ix32, up_at, Bool.false_eq_true, ↓reduceIte, decide_true, String.reduceBEq, Bool.and_false, Bool.false_and, Bool.or_false, Bool.false_or, true_and, beq_self_eq_true, Bool.true_or, Bool.or_true, Bool.not_true, Bool.not_false, Bool.false_xor, Bool.true_xor, wipeD, List.map_cons, List.map_nil, wTgs, CTs.len]); rw [ss_nil])
    refine ⟨_, _, _, l ++ [(here + 1 + d2, here + 1 + d2 + 1 + d3)], rfl, by simp [ll], lot_snoc hl (by show here + 1 + d2 < here + 1 + d2 + 1 + d3; omega) (fun y hy => by have := hh y hy; show y.2 < here + 1 + d2; omega), fun y hy => ?_, by rw [up_at, pL_app]; rfl, x0.fresh nF, (f.put nFP nFc).mono (by omega)⟩
    rcases List.mem_append.mp hy with hy | hy
    · have := hh y hy; omega
    · rw [List.mem_singleton.mp hy]
      exact Int.le_refl _
  · rintro s h' ⟨here, x5, x6, l, rfl, ll, hl, hh, eF, x0, f⟩
    have ll : l.length ≤ 8 := by omega
    ((try simp only [e_var, wV_some, wG_some, e_non, e_bl, e_int, e_str, e_glb, e_bin, e_neg, e_no, e_and, e_or, e_cmp, e_chn, e_ife, e_tup, e_lst, e_dnew, e_idx, e_slc, e_call, e_blt, e_mtd, e_isi, e_dis, e_rev, wRev, e_mnd, e_lrg, wMnd, wLrg, e_comp, wEs, wO, wT, wI, wS, wTg, wTgs, CTs.len, asB_bl, wBin, wCmp, wAdd, wSubX, wI2, wMul, wEq, wLt, wCI, wIs, DL.isNon, wNeg, wIdx, wSlc, wB, wLen, seqOf, lstOf, wIsi, tyOf, isTy, wM, wML, tyD, Mtd.ty, iAny, isSeqL, isSeqT, iRng, wSet, List.getElem?_cons_zero, List.getElem?_cons_succ, List.set_cons_zero, List.set_cons_succ, List.length_cons, List.length_nil, wAt_0, wAt_1, wAt_2, wAt_3, Nat.reduceAdd, ix30, ix31, ix32, up_at, Bool.false_eq_true, ↓reduceIte, decide_true, String.reduceBEq, Bool.and_false, Bool.false_and, Bool.or_false, Bool.false_or, true_and, beq_self_eq_true, Bool.true_or, Bool.or_true, Bool.not_true, Bool.not_false, Bool.false_xor, Bool.true_xor, wipeD, List.map_cons, List.map_nil, wTgs, CTs.len]); rw [ss_cons]; simp only [e_var, wV_some, wG_some, e_non, e_bl, e_int, e_str, e_glb, e_bin, e_neg, e_no, e_and, e_or, e_cmp, e_chn, e_ife, e_tup, e_lst, e_dnew, e_idx, e_slc, e_call, e_blt, e_mtd, e_isi, e_dis, e_rev, wRev, e_mnd, e_lrg, wMnd, wLrg, e_comp, wEs, wO, wT, wI, wS, wTg, wTgs, CTs.len, asB_bl, wBin, wCmp, wAdd, wSubX, wI2, wMul, wEq, wLt, wCI, wIs, DL.isNon, wNeg, wIdx, wSlc, wB, wLen, seqOf, lstOf, wIsi, tyOf, isTy, wM, wML, tyD, Mtd.ty, iAny, isSeqL, isSeqT, iRng, wSet, List.getElem?_cons_zero, List.getElem?_cons_succ, List.set_cons_zero, List.set_cons_succ, List.length_cons, List.length_nil, wAt_0, wAt_1, wAt_2, wAt_3, Nat.reduceAdd, ix30, ix31, ix32, up_at, Bool.false_eq_true, ↓reduceIte, decide_true, String.reduceBEq, Bool.and_false, Bool.false_and, Bool.or_false, Bool.false_or, true_and, beq_self_eq_true, Bool.true_or, Bool.or_true, Bool.not_true, Bool.not_false, Bool.false_xor, Bool.true_xor, wipeD, List.map_cons, List.map_nil, wTgs, CTs.len])
    exact q F l h' nFP nFc nF x0 hl ll eF (f.mono (by omega))
theorem crowd {bg : Int} (f : Fd P c B h) (hb : B < 100000) (q : ∀ a l h2, a ≠ P → a ≠ c → h a = none → Ex1 P h h2 → Lot l → l.length ≤ 60 → (∀ x ∈ l, bg ≤ x.1 ∧ x.2 ≤ bg + 600) → h2 a = some (.lst (pL l)) → Fd P c (B + 150) h2 → Q (.ref a) h2) : run gl ds (n + 2) 12 [.ref P, .int bg] h Q E := by
  refine e12 ?_
  ((try simp only [e_var, wV_some, wG_some, e_non, e_bl, e_int, e_str, e_glb, e_bin, e_neg, e_no, e_and, e_or, e_cmp, e_chn, e_ife, e_tup, e_lst, e_dnew, e_idx, e_slc, e_call, e_blt, e_mtd, e_isi, e_dis, e_rev, wRev, e_mnd, e_lrg, wMnd, wLrg, e_comp, wEs, wO, wT, wI, wS, wTg, wTgs, CTs.len, asB_bl, wBin, wCmp, wAdd, wSubX, wI2, wMul, wEq, wLt, wCI, wIs, DL.isNon, wNeg, wIdx, wSlc, wB, wLen, seqOf, lstOf, wIsi, tyOf, isTy, wM, wML, tyD, Mtd.ty, iAny, isSeqL, isSeqT, iRng, wSet, List.getElem?_cons_zero, List.getElem?_cons_succ, List.set_cons_zero, List.set_cons_succ, List.length_cons, List.length_nil, wAt_0, wAt_1, wAt_2, wAt_3, Nat.reduceAdd, ix30, ix31, ix32, up_at, Bool.false_eq_true, ↓reduceIte, decide_true, String.reduceBEq, Bool.and_false, Bool.false_and, Bool.or_false, Bool.false_or, true_and, beq_self_eq_true, Bool.true_or, Bool.or_true, Bool.not_true, Bool.not_false, Bool.false_xor, Bool.true_xor, wipeD, List.map_cons, List.map_nil, wTgs, CTs.len]); rw [ss_cons]; simp only [e_var, wV_some, wG_some, e_non, e_bl, e_int, e_str, e_glb, e_bin, e_neg, e_no, e_and, e_or, e_cmp, e_chn, e_ife, e_tup, e_lst, e_dnew, e_idx, e_slc, e_call, e_blt, e_mtd, e_isi, e_dis, e_rev, wRev, e_mnd, e_lrg, wMnd, wLrg, e_comp, wEs, wO, wT, wI, wS, wTg, wTgs, CTs.len, asB_bl, wBin, wCmp, wAdd, wSubX, wI2, wMul, wEq, wLt, wCI, wIs, DL.isNon, wNeg, wIdx, wSlc, wB, wLen, seqOf, lstOf, wIsi, tyOf, isTy, wM, wML, tyD, Mtd.ty, iAny, isSeqL, isSeqT, iRng, wSet, List.getElem?_cons_zero, List.getElem?_cons_succ, List.set_cons_zero, List.set_cons_succ, List.length_cons, List.length_nil, wAt_0, wAt_1, wAt_2, wAt_3, Nat.reduceAdd, ix30, ix31, ix32, up_at, Bool.false_eq_true, ↓reduceIte, decide_true, String.reduceBEq, Bool.and_false, Bool.false_and, Bool.or_false, Bool.false_or, true_and, beq_self_eq_true, Bool.true_or, Bool.or_true, Bool.not_true, Bool.not_false, Bool.false_xor, Bool.true_xor, wipeD, List.map_cons, List.map_nil, wTgs, CTs.len])
  refine ⟨by omega, fun F nF => ?_⟩
  have eF : up h F (.lst (pL [])) F = some (.lst (pL [])) := up_at
  have y0 := Ext.new (o := .lst (pL [])) nF
  have nFP := f.np nF
  have nFc := f.nc nF
  have f := f.ext y0
  have x0 : Ex1 P h _ := y0.ex1
  show wSs gl (DL.run gl ds (n + 1)) _ _ b12_1 _ (up h F (.lst (pL []))) _
  generalize up h F (.lst (pL [])) = h1 at *
  ((try simp only [e_var, wV_some, wG_some, e_non, e_bl, e_int, e_str, e_glb, e_bin, e_neg, e_no, e_and, e_or, e_cmp, e_chn, e_ife, e_tup, e_lst, e_dnew, e_idx, e_slc, e_call, e_blt, e_mtd, e_isi, e_dis, e_rev, wRev, e_mnd, e_lrg, wMnd, wLrg, e_comp, wEs, wO, wT, wI, wS, wTg, wTgs, CTs.len, asB_bl, wBin, wCmp, wAdd, wSubX, wI2, wMul, wEq, wLt, wCI, wIs, DL.isNon, wNeg, wIdx, wSlc, wB, wLen, seqOf, lstOf, wIsi, tyOf, isTy, wM, wML, tyD, Mtd.ty, iAny, isSeqL, isSeqT, iRng, wSet, List.getElem?_cons_zero, List.getElem?_cons_succ, List.set_cons_zero, List.set_cons_succ, List.length_cons, List.length_nil, wAt_0, wAt_1, wAt_2, wAt_3, Nat.reduceAdd, ix30, ix31, ix32, up_at, Bool.false_eq_true, ↓reduceIte, decide_true, String.reduceBEq, Bool.and_false, Bool.false_and, Bool.or_false, Bool.false_or, true_and, beq_self_eq_true, Bool.true_or, Bool.or_true, Bool.not_true, Bool.not_false, Bool.false_xor, Bool.true_xor, wipeD, List.map_cons, List.map_nil, wTgs, CTs.len]); rw [ss_cons]; simp only [e_var, wV_some, wG_some, e_non, e_bl, e_int, e_str, e_glb, e_bin, e_neg, e_no, e_and, e_or, e_cmp, e_chn, e_ife, e_tup, e_lst, e_dnew, e_idx, e_slc, e_call, e_blt, e_mtd, e_isi, e_dis, e_rev, wRev, e_mnd, e_lrg, wMnd, wLrg, e_comp, wEs, wO, wT, wI, wS, wTg, wTgs, CTs.len, asB_bl, wBin, wCmp, wAdd, wSubX, wI2, wMul, wEq, wLt, wCI, wIs, DL.isNon, wNeg, wIdx, wSlc, wB, wLen, seqOf, lstOf, wIsi, tyOf, isTy, wM, wML, tyD, Mtd.ty, iAny, isSeqL, isSeqT, iRng, wSet, List.getElem?_cons_zero, List.getElem?_cons_succ, List.set_cons_zero, List.set_cons_succ, List.length_cons, List.length_nil, wAt_0, wAt_1, wAt_2, wAt_3, Nat.reduceAdd, ix30, ix31, ix32, up_at, Bool.false_eq_true, ↓reduceIte, decide_true, String.reduceBEq, Bool.and_false, Bool.false_and, Bool.or_false, Bool.false_or, true_and, beq_self_eq_true, Bool.true_or, Bool.or_true, Bool.not_true, Bool.not_false, Bool.false_xor, Bool.true_xor, wipeD, List.map_cons, List.map_nil, wTgs, CTs.len])
  ((try simp only [e_var, wV_some, wG_some, e_non, e_bl, e_int, e_str, e_glb, e_bin, e_neg, e_no, e_and, e_or, e_cmp, e_chn, e_ife, e_tup, e_lst, e_dnew, e_idx, e_slc, e_call, e_blt, e_mtd, e_isi, e_dis, e_rev, wRev, e_mnd, e_lrg, wMnd, wLrg, e_comp, wEs, wO, wT, wI, wS, wTg, wTgs, CTs.len, asB_bl, wBin, wCmp, wAdd, wSubX, wI2, wMul, wEq, wLt, wCI, wIs, DL.isNon, wNeg, wIdx, wSlc, wB, wLen, seqOf, lstOf, wIsi, tyOf, isTy, wM, wML, tyD, Mtd.ty, iAny, isSeqL, isSeqT, iRng, wSet, List.getElem?_cons_zero, List.getElem?_cons_succ, List.set_cons_zero, List.set_cons_succ, List.length_cons, List.length_nil, wAt_0, wAt_1, wAt_2, wAt_3, Nat.reduceAdd, ix30, ix31, ix32, up_at, Bool.false_eq_true, ↓reduceIte, decide_true, String.reduceBEq, Bool.and_false, Bool.false_and, Bool.or_false, Bool.false_or, true_and, beq_self_eq_true, Bool.true_or, Bool.or_true, Bool.not_true, Bool.not_false, Bool.false_xor, Bool.true_xor, wipeD, List.map_cons, List.map_nil, wTgs, CTs.len]); rw [ss_cons]; simp only [e_var, wV_some, wG_some, e_non, e_bl, e_int, e_str, e_glb, e_bin, e_neg, e_no, e_and, e_or, e_cmp, e_chn, e_ife, e_tup, e_lst, e_dnew, e_idx, e_slc, e_call, e_blt, e_mtd, e_isi, e_dis, e_rev, wRev, e_mnd, e_lrg, wMnd, wLrg, e_comp, wEs, wO, wT, wI, wS, wTg, wTgs, CTs.len, asB_bl, wBin, wCmp, wAdd, wSubX, wI2, wMul, wEq, wLt, wCI, wIs, DL.isNon, wNeg, wIdx, wSlc, wB, wLen, seqOf, lstOf, wIsi, tyOf, isTy, wM, wML, tyD, Mtd.ty, iAny, isSeqL, isSeqT, iRng, wSet, List.getElem?_cons_zero, List.getElem?_cons_succ, List.set_cons_zero, List.set_cons_succ, List.length_cons, List.length_nil, wAt_0, wAt_1, wAt_2, wAt_3, Nat.reduceAdd, ix30, ix31, ix32, up_at, Bool.false_eq_true, ↓reduceIte, decide_true, String.reduceBEq, Bool.and_false, Bool.false_and, Bool.or_false, Bool.false_or, true_and, beq_self_eq_true, Bool.true_or, Bool.or_true, Bool.not_true, Bool.not_false, Bool.false_xor, Bool.true_xor, wipeD, List.map_cons, List.map_nil, wTgs, CTs.len])
  refine drawF f (by omega) (by omega) (by omega) fun d h2 d0 d1 f x1 => ?_
  have eF := x1 _ _ nFP eF
  have x0 := x0.trans x1
  (try simp only [e_var, wV_some, wG_some, e_non, e_bl, e_int, e_str, e_glb, e_bin, e_neg, e_no, e_and, e_or, e_cmp, e_chn, e_ife, e_tup, e_lst, e_dnew, e_idx, e_slc, e_call, e_blt, e_mtd, e_isi, e_dis, e_rev, wRev, e_mnd, e_lrg, wMnd, wLrg, e_comp, wEs, wO, wT, wI, wS, wTg, wTgs, CTs.len, asB_bl, wBin, wCmp, wAdd, wSubX, wI2, wMul, wEq, wLt, wCI, wIs, DL.isNon, wNeg, wIdx, wSlc, wB, wLen, seqOf, lstOf, wIsi, tyOf, isTy, wM, wML, tyD, Mtd.ty, iAny, isSeqL, isSeqT, iRng, wSet, List.getElem?_cons_zero, List.getElem?_cons_succ, List.set_cons_zero, List.set_cons_succ, List.length_cons, List.length_nil, wAt_0, wAt_1, wAt_2, wAt_3, Nat.reduceAdd, ix30, ix31, ix32, up_at, Bool.false_eq_true, ↓reduceIte, decide_true, String.reduceBEq, Bool.and_false, Bool.false_and, Bool.or_false, Bool.false_or, true_and, beq_self_eq_true, Bool.true_or, Bool.or_true, Bool.not_true, Bool.not_false, Bool.false_xor, Bool.true_xor, wipeD, List.map_cons, List.map_nil, wTgs, CTs.len])
  refine ⟨⟨by omega, by omega, by omega, by omega⟩, ?_⟩
  refine loop_rng (fun i s h' => ∃ here x5 x6 l, s = [some (.ref P), some (.int bg), some (.ref F), some (.int here), x5, x6] ∧ l.length = i ∧ Lot l ∧ (∀ x ∈ l, x.2 ≤ here) ∧ (∀ x ∈ l, bg ≤ x.1) ∧ bg ≤ here ∧ here ≤ bg + 8 * i ∧ h' F = some (.lst (pL l)) ∧ Ex1 P h h' ∧ Fd P c (B + 1 + 2 * i) h') ⟨bg, _, _, [], rfl, rfl, lot0, by simp, by simp, by omega, by omega, eF, x0, f.mono (by omega)⟩ ?_ ?_
  · rintro i s h' hi ⟨here, x5, x6, l, rfl, ll, hl, hh, hg, b0, b1, eF, x0, f⟩
    have hi2 : i < 60 := by omega
    (try simp only [e_var, wV_some, wG_some, e_non, e_bl, e_int, e_str, e_glb, e_bin, e_neg, e_no, e_and, e_or, e_cmp, e_chn, e_ife, e_tup, e_lst, e_dnew, e_idx, e_slc, e_call, e_blt, e_mtd, e_isi, e_dis, e_rev, wRev, e_mnd, e_lrg, wMnd, wLrg, e_comp, wEs, wO, wT, wI, wS, wTg, wTgs, CTs.len, asB_bl, wBin, wCmp, wAdd, wSubX, wI2, wMul, wEq, wLt, wCI, wIs, DL.isNon, wNeg, wIdx, wSlc, wB, wLen, seqOf, lstOf, wIsi, tyOf, isTy, wM, wML, tyD, Mtd.ty, iAny, isSeqL, isSeqT, iRng, wSet, List.getElem?_cons_zero, List.getElem?_cons_succ, List.set_cons_zero, List.set_cons_succ, List.length_cons, List.length_nil, wAt_0, wAt_1, wAt_2, wAt_3, Nat.reduceAdd, ix30, ix31, ix32, up_at, Bool.false_eq_true, ↓reduceIte, decide_true, String.reduceBEq, Bool.and_false, Bool.false_and, Bool.or_false, Bool.false_or, true_and, beq_self_eq_true, Bool.true_or, Bool.or_true, Bool.not_true, Bool.not_false, Bool.false_xor, Bool.true_xor, wipeD, List.map_cons, List.map_nil, wTgs, CTs.len])
    ((try simp only [e_var, wV_some, wG_some, e_non, e_bl, e_int, e_str, e_glb, e_bin, e_neg, e_no, e_and, e_or, e_cmp, e_chn, e_ife, e_tup, e_lst, e_dnew, e_idx, e_slc, e_call, e_blt, e_mtd, e_isi, e_dis, e_rev, wRev, e_mnd, e_lrg, wMnd, wLrg, e_comp, wEs, wO, wT, wI, wS, wTg, wTgs, CTs.len, asB_bl, wBin, wCmp, wAdd, wSubX, wI2, wMul, wEq, wLt, wCI, wIs, DL.isNon, wNeg, wIdx, wSlc, wB, wLen, seqOf, lstOf, wIsi, tyOf, isTy, wM, wML, tyD, Mtd.ty, iAny, isSeqL, isSeqT, iRng, wSet, List.getElem?_cons_zero, List.getElem?_cons_succ, List.set_cons_zero, List.set_cons_succ, List.length_cons, List.length_nil, wAt_0, wAt_1, wAt_2, wAt_3, Nat.reduceAdd, ix30, ix31, ix32, up_at, Bool.false_eq_true, ↓reduceIte, decide_true, String.reduceBEq, Bool.and_false, Bool.false_and, Bool.or_false, Bool.false_or, true_and, beq_self_eq_true, Bool.true_or, Bool.or_true, Bool.not_true, Bool.not_false, Bool.false_xor, Bool.true_xor, wipeD, List.map_cons, List.map_nil, wTgs, CTs.len]); rw [ss_cons]; simp only [e_var, wV_some, wG_some, e_non, e_bl, e_int, e_str, e_glb, e_bin, e_neg, e_no, e_and, e_or, e_cmp, e_chn, e_ife, e_tup, e_lst, e_dnew, e_idx, e_slc, e_call, e_blt, e_mtd, e_isi, e_dis, e_rev, wRev, e_mnd, e_lrg, wMnd, wLrg, e_comp, wEs, wO, wT, wI, wS, wTg, wTgs, CTs.len, asB_bl, wBin, wCmp, wAdd, wSubX, wI2, wMul, wEq, wLt, wCI, wIs, DL.isNon, wNeg, wIdx, wSlc, wB, wLen, seqOf, lstOf, wIsi, tyOf, isTy, wM, wML, tyD, Mtd.ty, iAny, isSeqL, isSeqT, iRng, wSet, List.getElem?_cons_zero, List.getElem?_cons_succ, List.set_cons_zero, List.set_cons_succ, List.length_cons, List.length_nil, wAt_0, wAt_1, wAt_2, wAt_3, Nat.reduceAdd, ix30, ix31, ix32, up_at, Bool.false_eq_true, ↓reduceIte, decide_true, String.reduceBEq, Bool.and_false, Bool.false_and, Bool.or_false, Bool.false_or, true_and, beq_self_eq_true, Bool.true_or, Bool.or_true, Bool.not_true, Bool.not_false, Bool.false_xor, Bool.true_xor, wipeD, List.map_cons, List.map_nil, wTgs, CTs.len])
    refine drawF f (by omega) (by omega) (by omega) fun d2 h3 a0 a1 f x3 => ?_
    have eF := x3 _ _ nFP eF
    have x0 := x0.trans x3
    (try simp only [e_var, wV_some, wG_some, e_non, e_bl, e_int, e_str, e_glb, e_bin, e_neg, e_no, e_and, e_or, e_cmp, e_chn, e_ife, e_tup, e_lst, e_dnew, e_idx, e_slc, e_call, e_blt, e_mtd, e_isi, e_dis, e_rev, wRev, e_mnd, e_lrg, wMnd, wLrg, e_comp, wEs, wO, wT, wI, wS, wTg, wTgs, CTs.len, asB_bl, wBin, wCmp, wAdd, wSubX, wI2, wMul, wEq, wLt, wCI, wIs, DL.isNon, wNeg, wIdx, wSlc, wB, wLen, seqOf, lstOf, wIsi, tyOf, isTy, wM, wML, tyD, Mtd.ty, iAny, isSeqL, isSeqT, iRng, wSet, List.getElem?_cons_zero, List.getElem?_cons_succ, List.set_cons_zero, List.set_cons_succ, List.length_cons, List.length_nil, wAt_0, wAt_1, wAt_2, wAt_3, Nat.reduceAdd, ix30, ix31, ix32, up_at, Bool.false_eq_true, ↓reduceIte, decide_true, String.reduceBEq, Bool.and_false, Bool.false_and, Bool.or_false, Bool.false_or, true_and, beq_self_eq_true, Bool.true_or, Bool.or_true, Bool.not_true, Bool.not_false, Bool.false_xor, Bool.true_xor, wipeD, List.map_cons, List.map_nil, wTgs, CTs.len])
    ((try simp only [e_var, wV_some, wG_some, e_non, e_bl, e_int, e_str, e_glb, e_bin, e_neg, e_no, e_and, e_or, e_cmp, e_chn, e_ife, e_tup, e_lst, e_dnew, e_idx, e_slc, e_call, e_blt, e_mtd, e_isi, e_dis, e_rev, wRev, e_mnd, e_lrg, wMnd, wLrg, e_comp, wEs, wO, wT, wI, wS, wTg, wTgs, CTs.len, asB_bl, wBin, wCmp, wAdd, wSubX, wI2, wMul, wEq, wLt, wCI, wIs, DL.isNon, wNeg, wIdx, wSlc, wB, wLen, seqOf, lstOf, wIsi, tyOf, isTy, wM, wML, tyD, Mtd.ty, iAny, isSeqL, isSeqT, iRng, wSet, List.getElem?_cons_zero, List.getElem?_cons_succ, List.set_cons_zero, List.set_cons_succ, List.length_cons, List.length_nil, wAt_0, wAt_1, wAt_2, wAt_3, Nat.reduceAdd, ix30, ix31, ix32, up_at, Bool.false_eq_true, ↓reduceIte, decide_true, String.reduceBEq, Bool.and_false, Bool.false_and, Bool.or_false, Bool.false_or, true_and, beq_self_eq_true, Bool.true_or, Bool.or_true, Bool.not_true, Bool.not_false, Bool.false_xor, Bool.true_xor, wipeD, List.map_cons, List.map_nil, wTgs, CTs.len]); rw [ss_cons]; simp only [e_var, wV_some, wG_some, e_non, e_bl, e_int, e_str, e_glb, e_bin, e_neg, e_no, e_and, e_or, e_cmp, e_chn, e_ife, e_tup, e_lst, e_dnew, e_idx, e_slc, e_call, e_blt, e_mtd, e_isi, e_dis, e_rev, wRev, e_mnd, e_lrg, wMnd, wLrg, e_comp, wEs, wO, wT, wI, wS, wTg, wTgs, CTs.len, asB_bl, wBin, wCmp, wAdd, wSubX, wI2, wMul, wEq, wLt, wCI, wIs, DL.isNon, wNeg, wIdx, wSlc, wB, wLen, seqOf, lstOf, wIsi, tyOf, isTy, wM, wML, tyD, Mtd.ty, iAny, isSeqL, isSeqT, iRng, wSet, List.getElem?_cons_zero, List.getElem?_cons_succ, List.set_cons_zero, List.set_cons_succ, List.length_cons, List.length_nil, wAt_0, wAt_1, wAt_2, wAt_3, Nat.reduceAdd, ix30, ix31, ix32, up_at, Bool.false_eq_true, ↓reduceIte, decide_true, String.reduceBEq, Bool.and_false, Bool.false_and, Bool.or_false, Bool.false_or, true_and, beq_self_eq_true, Bool.true_or, Bool.or_true, Bool.not_true, Bool.not_false, Bool.false_xor, Bool.true_xor, wipeD, List.map_cons, List.map_nil, wTgs, CTs.len])
    refine drawF f (by omega) (by omega) (by omega) fun d3 h4 a2 a3 f x4 => ?_
    have eF := x4 _ _ nFP eF
    have x0 := x0.trans x4
    (try simp only [e_var, wV_some, wG_some, e_non, e_bl, e_int, e_str, e_glb, e_bin, e_neg, e_no, e_and, e_or, e_cmp, e_chn, e_ife, e_tup, e_lst, e_dnew, e_idx, e_slc, e_call, e_blt, e_mtd, e_isi, e_dis, e_rev, wRev, e_mnd, e_lrg, wMnd, wLrg, e_comp, wEs, wO, wT, wI, wS, wTg, wTgs, CTs.len, asB_bl, wBin, wCmp, wAdd, wSubX, wI2, wMul, wEq, wLt, wCI, wIs, DL.isNon, wNeg, wIdx, wSlc, wB, wLen, seqOf, lstOf, wIsi, tyOf, isTy, wM, wML, tyD, Mtd.ty, iAny, isSeqL, isSeqT, iRng, wSet, List.getElem?_cons_zero, List.getElem?_cons_succ, List.set_cons_zero, List.set_cons_succ, List.length_cons, List.length_nil, wAt_0, wAt_1, wAt_2, wAt_3, Nat.reduceAdd, ix30, ix31, ix32, up_at, Bool.false_eq_true, ↓reduceIte, decide_true, String.reduceBEq, Bool.and_false, Bool.false_and, Bool.or_false, Bool.false_or, true_and, beq_self_eq_true, Bool.true_or, Bool.or_true, Bool.not_true, Bool.not_false, Bool.false_xor, Bool.true_xor, wipeD, List.map_cons, List.map_nil, wTgs, CTs.len])
    ((try simp only [e_var, wV_some, wG_some, e_non, e_bl, e_int, e_str, e_glb, e_bin, e_neg, e_no, e_and, e_or, e_cmp, e_chn, e_ife, e_tup, e_lst, e_dnew, e_idx, e_slc, e_call, e_blt, e_mtd, e_isi, e_dis, e_rev, wRev, e_mnd, e_lrg, wMnd, wLrg, e_comp, wEs, wO, wT, wI, wS, wTg, wTgs, CTs.len, asB_bl, wBin, wCmp, wAdd, wSubX, wI2, wMul, wEq, wLt, wCI, wIs, DL.isNon, wNeg, wIdx, wSlc, wB, wLen, seqOf, lstOf, wIsi, tyOf, isTy, wM, wML, tyD, Mtd.ty, iAny, isSeqL, isSeqT, iRng, wSet, List.getElem?_cons_zero, List.getElem?_cons_succ, List.set_cons_zero, List.set_cons_succ, List.length_cons, List.length_nil, wAt_0, wAt_1, wAt_2, wAt_3, Nat.reduceAdd, ix30, ix31, ix32, up_at, Bool.false_eq_true, ↓reduceIte, decide_true, String.reduceBEq, Bool.and_false, Bool.false_and, Bool.or_false, Bool.false_or, true_and, beq_self_eq_true, Bool.true_or, Bool.or_true, Bool.not_true, Bool.not_false, Bool.false_xor, Bool.true_xor, wipeD, List.map_cons, List.map_nil, wTgs, CTs.len]); rw [ss_cons]; simp only [e_var, wV_some, wG_some, e_non, e_bl, e_int, e_str, e_glb, e_bin, e_neg, e_no, e_and, e_or, e_cmp, e_chn, e_ife, e_tup, e_lst, e_dnew, e_idx, e_slc, e_call, e_blt, e_mtd, e_isi, e_dis, e_rev, wRev, e_mnd, e_lrg, wMnd, wLrg, e_comp, wEs, wO, wT, wI, wS, wTg, wTgs, CTs.len, asB_bl, wBin, wCmp, wAdd, wSubX, wI2, wMul, wEq, wLt, wCI, wIs, DL.isNon, wNeg, wIdx, wSlc, wB, wLen, seqOf, lstOf, wIsi, tyOf, isTy, wM, wML, tyD, Mtd.ty, iAny, isSeqL, isSeqT, iRng, wSet, List.getElem?_cons_zero, List.getElem?_cons_succ, List.set_cons_zero, List.set_cons_succ, List.length_cons, List.length_nil, wAt_0, wAt_1, wAt_2, wAt_3, Nat.reduceAdd, ix30, ix31, ix32, up_at, Bool.false_eq_true, ↓reduceIte, decide_true, String.reduceBEq, Bool.and_false, Bool.false_and, Bool.or_false, Bool.false_or, true_and, beq_self_eq_true, Bool.true_or, Bool.or_true, Bool.not_true, Bool.not_false, Bool.false_xor, Bool.true_xor, wipeD, List.map_cons, List.map_nil, wTgs, CTs.len, eF])
    rw [pL_len]
    refine ⟨by omega, by omega, ?_⟩
    ((try simp only [e_var, wV_some, wG_some, e_non, e_bl, e_int, e_str, e_glb, e_bin, e_neg, e_no, e_and, e_or, e_cmp, e_chn, e_ife, e_tup, e_lst, e_dnew, e_idx, e_slc, e_call, e_blt, e_mtd, e_isi, e_dis, e_rev, wRev, e_mnd, e_lrg, wMnd, wLrg, e_comp, wEs, wO, wT, wI, wS, wTg, wTgs, CTs.len, asB_bl, wBin, wCmp, wAdd, wSubX, wI2, wMul, wEq, wLt, wCI, wIs, DL.isNon, wNeg, wIdx, wSlc, wB, wLen, seqOf, lstOf, wIsi, tyOf, isTy, wM, wML, tyD, Mtd.ty, iAny, isSeqL, isSeqT, iRng, wSet, List.getElem?_cons_zero, List.getElem?_cons_succ, List.set_cons_zero, List.set_cons_succ, List.length_cons, List.length_nil, wAt_0, wAt_1, wAt_2, wAt_3, Nat.reduceAdd, ix30, ix31, ix32, up_at, Bool.false_eq_true, ↓reduceIte, decide_true, String.reduceBEq, Bool.and_false, Bool.false_and, Bool.or_false, Bool.false_or, true_and, beq_self_eq_true, Bool.true_or, Bool.or_true, Bool.not_true, Bool.not_false, Bool.false_xor, Bool.true_xor, wipeD, List.map_cons, List.map_nil, wTgs, CTs.len]); rw [ss_nil])
    refine ⟨_, _, _, l ++ [(here + 1 + d2, here + 1 + d2 + 1 + d3)], rfl, by simp [ll], lot_snoc hl (by show here + 1 + d2 < here + 1 + d2 + 1 + d3; omega) (fun y hy => by have := hh y hy; show y.2 < here + 1 + d2; omega), fun y hy => ?_, fun y hy => ?_, by omega, by omega, by rw [up_at, pL_app]; rfl, x0.fresh nF, (f.put nFP nFc).mono (by omega)⟩
    · rcases List.mem_append.mp hy with hy | hy
      · have := hh y hy; omega
      · rw [List.mem_singleton.mp hy]
        exact Int.le_refl _
    · rcases List.mem_append.mp hy with hy | hy
      · exact hg y hy
      · rw [List.mem_singleton.mp hy]
        show bg ≤ here + 1 + d2
        omega
  · rintro s h' ⟨here, x5, x6, l, rfl, ll, hl, hh, hg, b0, b1, eF, x0, f⟩
    have ll : l.length ≤ 60 := by omega
    have b1 : here ≤ bg + 600 := by omega
    ((try simp only [e_var, wV_some, wG_some, e_non, e_bl, e_int, e_str, e_glb, e_bin, e_neg, e_no, e_and, e_or, e_cmp, e_chn, e_ife, e_tup, e_lst, e_dnew, e_idx, e_slc, e_call, e_blt, e_mtd, e_isi, e_dis, e_rev, wRev, e_mnd, e_lrg, wMnd, wLrg, e_comp, wEs, wO, wT, wI, wS, wTg, wTgs, CTs.len, asB_bl, wBin, wCmp, wAdd, wSubX, wI2, wMul, wEq, wLt, wCI, wIs, DL.isNon, wNeg, wIdx, wSlc, wB, wLen, seqOf, lstOf, wIsi, tyOf, isTy, wM, wML, tyD, Mtd.ty, iAny, isSeqL, isSeqT, iRng, wSet, List.getElem?_cons_zero, List.getElem?_cons_succ, List.set_cons_zero, List.set_cons_succ, List.length_cons, List.length_nil, wAt_0, wAt_1, wAt_2, wAt_3, Nat.reduceAdd, ix30, ix31, ix32, up_at, Bool.false_eq_true, ↓reduceIte, decide_true, String.reduceBEq, Bool.and_false, Bool.false_and, Bool.or_false, Bool.false_or, true_and, beq_self_eq_true, Bool.true_or, Bool.or_true, Bool.not_true, Bool.not_false, Bool.false_xor, Bool.true_xor, wipeD, List.map_cons, List.map_nil, wTgs, CTs.len]); rw [ss_cons]; simp only [e_var, wV_some, wG_some, e_non, e_bl, e_int, e_str, e_glb, e_bin, e_neg, e_no, e_and, e_or, e_cmp, e_chn, e_ife, e_tup, e_lst, e_dnew, e_idx, e_slc, e_call, e_blt, e_mtd, e_isi, e_dis, e_rev, wRev, e_mnd, e_lrg, wMnd, wLrg, e_comp, wEs, wO, wT, wI, wS, wTg, wTgs, CTs.len, asB_bl, wBin, wCmp, wAdd, wSubX, wI2, wMul, wEq, wLt, wCI, wIs, DL.isNon, wNeg, wIdx, wSlc, wB, wLen, seqOf, lstOf, wIsi, tyOf, isTy, wM, wML, tyD, Mtd.ty, iAny, isSeqL, isSeqT, iRng, wSet, List.getElem?_cons_zero, List.getElem?_cons_succ, List.set_cons_zero, List.set_cons_succ, List.length_cons, List.length_nil, wAt_0, wAt_1, wAt_2, wAt_3, Nat.reduceAdd, ix30, ix31, ix32, up_at, Bool.false_eq_true, ↓reduceIte, decide_true, String.reduceBEq, Bool.and_false, Bool.false_and, Bool.or_false, Bool.false_or, true_and, beq_self_eq_true, Bool.true_or, Bool.or_true, Bool.not_true, Bool.not_false, Bool.false_xor, Bool.true_xor, wipeD, List.map_cons, List.map_nil, wTgs, CTs.len])
    exact q F l h' nFP nFc nF x0 hl ll (fun y hy => ⟨hg y hy, by have := hh y hy; omega⟩) eF (f.mono (by omega))
theorem minutes {a : Addr} {A : List IP} (ha : h a = some (.lst (pL A))) (ln : A.length ≤ 5000) (bd : ∀ x ∈ A, -(2 ^ 60) ≤ x.1 ∧ x.1 < x.2 ∧ x.2 ≤ 2 ^ 60 ∧ x.2 - x.1 ≤ 700) (q : ∀ F h2, h F = none → Ext h h2 → h2 F = some (.lst (iL (mins A))) → Q (.ref F) h2) : run gl ds (n + 1) 13 [.ref a] h Q E := by
  refine e13 ?_
  ((try simp only [e_var, wV_some, wG_some, e_non, e_bl, e_int, e_str, e_glb, e_bin, e_neg, e_no, e_and, e_or, e_cmp, e_chn, e_ife, e_tup, e_lst, e_dnew, e_idx, e_slc, e_call, e_blt, e_mtd, e_isi, e_dis, e_rev, wRev, e_mnd, e_lrg, wMnd, wLrg, e_comp, wEs, wO, wT, wI, wS, wTg, wTgs, CTs.len, asB_bl, wBin, wCmp, wAdd, wSubX, wI2, wMul, wEq, wLt, wCI, wIs, DL.isNon, wNeg, wIdx, wSlc, wB, wLen, seqOf, lstOf, wIsi, tyOf, isTy, wM, wML, tyD, Mtd.ty, iAny, isSeqL, isSeqT, iRng, wSet, List.getElem?_cons_zero, List.getElem?_cons_succ, List.set_cons_zero, List.set_cons_succ, List.length_cons, List.length_nil, wAt_0, wAt_1, wAt_2, wAt_3, Nat.reduceAdd, ix30, ix31, ix32, up_at, Bool.false_eq_true, ↓reduceIte, decide_true, String.reduceBEq, Bool.and_false, Bool.false_and, Bool.or_false, Bool.false_or, true_and, beq_self_eq_true, Bool.true_or, Bool.or_true, Bool.not_true, Bool.not_false, Bool.false_xor, Bool.true_xor, wipeD, List.map_cons, List.map_nil, wTgs, CTs.len]); rw [ss_cons]; simp only [e_var, wV_some, wG_some, e_non, e_bl, e_int, e_str, e_glb, e_bin, e_neg, e_no, e_and, e_or, e_cmp, e_chn, e_ife, e_tup, e_lst, e_dnew, e_idx, e_slc, e_call, e_blt, e_mtd, e_isi, e_dis, e_rev, wRev, e_mnd, e_lrg, wMnd, wLrg, e_comp, wEs, wO, wT, wI, wS, wTg, wTgs, CTs.len, asB_bl, wBin, wCmp, wAdd, wSubX, wI2, wMul, wEq, wLt, wCI, wIs, DL.isNon, wNeg, wIdx, wSlc, wB, wLen, seqOf, lstOf, wIsi, tyOf, isTy, wM, wML, tyD, Mtd.ty, iAny, isSeqL, isSeqT, iRng, wSet, List.getElem?_cons_zero, List.getElem?_cons_succ, List.set_cons_zero, List.set_cons_succ, List.length_cons, List.length_nil, wAt_0, wAt_1, wAt_2, wAt_3, Nat.reduceAdd, ix30, ix31, ix32, up_at, Bool.false_eq_true, ↓reduceIte, decide_true, String.reduceBEq, Bool.and_false, Bool.false_and, Bool.or_false, Bool.false_or, true_and, beq_self_eq_true, Bool.true_or, Bool.or_true, Bool.not_true, Bool.not_false, Bool.false_xor, Bool.true_xor, wipeD, List.map_cons, List.map_nil, wTgs, CTs.len])
  refine ⟨by omega, fun F nF => ?_⟩
  have eF : up h F (.lst []) F = some (.lst (iL (mins []))) := up_at
  have y0 := Ext.new (o := .lst []) nF
  have nFa : a ≠ F := Ext.isnew nF ha
  generalize up h F (.lst []) = h1 at *
  ((try simp only [e_var, wV_some, wG_some, e_non, e_bl, e_int, e_str, e_glb, e_bin, e_neg, e_no, e_and, e_or, e_cmp, e_chn, e_ife, e_tup, e_lst, e_dnew, e_idx, e_slc, e_call, e_blt, e_mtd, e_isi, e_dis, e_rev, wRev, e_mnd, e_lrg, wMnd, wLrg, e_comp, wEs, wO, wT, wI, wS, wTg, wTgs, CTs.len, asB_bl, wBin, wCmp, wAdd, wSubX, wI2, wMul, wEq, wLt, wCI, wIs, DL.isNon, wNeg, wIdx, wSlc, wB, wLen, seqOf, lstOf, wIsi, tyOf, isTy, wM, wML, tyD, Mtd.ty, iAny, isSeqL, isSeqT, iRng, wSet, List.getElem?_cons_zero, List.getElem?_cons_succ, List.set_cons_zero, List.set_cons_succ, List.length_cons, List.length_nil, wAt_0, wAt_1, wAt_2, wAt_3, Nat.reduceAdd, ix30, ix31, ix32, up_at, Bool.false_eq_true, ↓reduceIte, decide_true, String.reduceBEq, Bool.and_false, Bool.false_and, Bool.or_false, Bool.false_or, true_and, beq_self_eq_true, Bool.true_or, Bool.or_true, Bool.not_true, Bool.not_false, Bool.false_xor, Bool.true_xor, wipeD, List.map_cons, List.map_nil, wTgs, CTs.len]); rw [ss_cons]; simp only [e_var, wV_some, wG_some, e_non, e_bl, e_int, e_str, e_glb, e_bin, e_neg, e_no, e_and, e_or, e_cmp, e_chn, e_ife, e_tup, e_lst, e_dnew, e_idx, e_slc, e_call, e_blt, e_mtd, e_isi, e_dis, e_rev, wRev, e_mnd, e_lrg, wMnd, wLrg, e_comp, wEs, wO, wT, wI, wS, wTg, wTgs, CTs.len, asB_bl, wBin, wCmp, wAdd, wSubX, wI2, wMul, wEq, wLt, wCI, wIs, DL.isNon, wNeg, wIdx, wSlc, wB, wLen, seqOf, lstOf, wIsi, tyOf, isTy, wM, wML, tyD, Mtd.ty, iAny, isSeqL, isSeqT, iRng, wSet, List.getElem?_cons_zero, List.getElem?_cons_succ, List.set_cons_zero, List.set_cons_succ, List.length_cons, List.length_nil, wAt_0, wAt_1, wAt_2, wAt_3, Nat.reduceAdd, ix30, ix31, ix32, up_at, Bool.false_eq_true, ↓reduceIte, decide_true, String.reduceBEq, Bool.and_false, Bool.false_and, Bool.or_false, Bool.false_or, true_and, beq_self_eq_true, Bool.true_or, Bool.or_true, Bool.not_true, Bool.not_false, Bool.false_xor, Bool.true_xor, wipeD, List.map_cons, List.map_nil, wTgs, CTs.len, y0 _ _ ha])
  refine loop_lst (a := a) (xs := pL A) (fun i s h' => ∃ x2 x3, s = [some (.ref a), some (.ref F), x2, x3] ∧ Ext h h' ∧ h' F = some (.lst (iL (mins (A.take i)))) ∧ (mins (A.take i)).length ≤ 700 * i) ⟨_, _, rfl, y0, eF, by simp [mins]⟩ (fun _ _ _ ⟨_, _, _, x, _⟩ => x _ _ ha) ?_ ?_
  · rintro i d s h' hd ⟨x2, x3, rfl, x, eF, nn⟩
    obtain ⟨y, ey, rfl⟩ := pL_mem hd
    have by' := bd y (List.mem_of_getElem? ey)
    have hi := (List.getElem?_eq_some_iff.mp ey).1
    have em : mins (A.take (i + 1)) = mins (A.take i) ++ rgI y.1 y.2 := by
      unfold mins
      rw [List.take_add_one, ey, List.flatMap_append]
      simp
    have lr : (rgI y.1 y.2).length ≤ 700 := by rw [rgI_len]; omega
    rw [em]
    (try simp only [e_var, wV_some, wG_some, e_non, e_bl, e_int, e_str, e_glb, e_bin, e_neg, e_no, e_and, e_or, e_cmp, e_chn, e_ife, e_tup, e_lst, e_dnew, e_idx, e_slc, e_call, e_blt, e_mtd, e_isi, e_dis, e_rev, wRev, e_mnd, e_lrg, wMnd, wLrg, e_comp, wEs, wO, wT, wI, wS, wTg, wTgs, CTs.len, asB_bl, wBin, wCmp, wAdd, wSubX, wI2, wMul, wEq, wLt, wCI, wIs, DL.isNon, wNeg, wIdx, wSlc, wB, wLen, seqOf, lstOf, wIsi, tyOf, isTy, wM, wML, tyD, Mtd.ty, iAny, isSeqL, isSeqT, iRng, wSet, List.getElem?_cons_zero, List.getElem?_cons_succ, List.set_cons_zero, List.set_cons_succ, List.length_cons, List.length_nil, wAt_0, wAt_1, wAt_2, wAt_3, Nat.reduceAdd, ix30, ix31, ix32, up_at, Bool.false_eq_true, ↓reduceIte, decide_true, String.reduceBEq, Bool.and_false, Bool.false_and, Bool.or_false, Bool.false_or, true_and, beq_self_eq_true, Bool.true_or, Bool.or_true, Bool.not_true, Bool.not_false, Bool.false_xor, Bool.true_xor, wipeD, List.map_cons, List.map_nil, wTgs, CTs.len, ipD])
    ((try simp only [e_var, wV_some, wG_some, e_non, e_bl, e_int, e_str, e_glb, e_bin, e_neg, e_no, e_and, e_or, e_cmp, e_chn, e_ife, e_tup, e_lst, e_dnew, e_idx, e_slc, e_call, e_blt, e_mtd, e_isi, e_dis, e_rev, wRev, e_mnd, e_lrg, wMnd, wLrg, e_comp, wEs, wO, wT, wI, wS, wTg, wTgs, CTs.len, asB_bl, wBin, wCmp, wAdd, wSubX, wI2, wMul, wEq, wLt, wCI, wIs, DL.isNon, wNeg, wIdx, wSlc, wB, wLen, seqOf, lstOf, wIsi, tyOf, isTy, wM, wML, tyD, Mtd.ty, iAny, isSeqL, isSeqT, iRng, wSet, List.getElem?_cons_zero, List.getElem?_cons_succ, List.set_cons_zero, List.set_cons_succ, List.length_cons, List.length_nil, wAt_0, wAt_1, wAt_2, wAt_3, Nat.reduceAdd, ix30, ix31, ix32, up_at, Bool.false_eq_true, ↓reduceIte, decide_true, String.reduceBEq, Bool.and_false, Bool.false_and, Bool.or_false, Bool.false_or, true_and, beq_self_eq_true, Bool.true_or, Bool.or_true, Bool.not_true, Bool.not_false, Bool.false_xor, Bool.true_xor, wipeD, List.map_cons, List.map_nil, wTgs, CTs.len]); rw [ss_cons]; simp only [e_var, wV_some, wG_some, e_non, e_bl, e_int, e_str, e_glb, e_bin, e_neg, e_no, e_and, e_or, e_cmp, e_chn, e_ife, e_tup, e_lst, e_dnew, e_idx, e_slc, e_call, e_blt, e_mtd, e_isi, e_dis, e_rev, wRev, e_mnd, e_lrg, wMnd, wLrg, e_comp, wEs, wO, wT, wI, wS, wTg, wTgs, CTs.len, asB_bl, wBin, wCmp, wAdd, wSubX, wI2, wMul, wEq, wLt, wCI, wIs, DL.isNon, wNeg, wIdx, wSlc, wB, wLen, seqOf, lstOf, wIsi, tyOf, isTy, wM, wML, tyD, Mtd.ty, iAny, isSeqL, isSeqT, iRng, wSet, List.getElem?_cons_zero, List.getElem?_cons_succ, List.set_cons_zero, List.set_cons_succ, List.length_cons, List.length_nil, wAt_0, wAt_1, wAt_2, wAt_3, Nat.reduceAdd, ix30, ix31, ix32, up_at, Bool.false_eq_true, ↓reduceIte, decide_true, String.reduceBEq, Bool.and_false, Bool.false_and, Bool.or_false, Bool.false_or, true_and, beq_self_eq_true, Bool.true_or, Bool.or_true, Bool.not_true, Bool.not_false, Bool.false_xor, Bool.true_xor, wipeD, List.map_cons, List.map_nil, wTgs, CTs.len, eF])
    refine ⟨⟨by omega, by omega, by omega, by omega, by omega⟩, fun r nr => ?_⟩
    rw [rgD_iL]
    have y1 := Ext.new (o := .lst (iL (rgI y.1 y.2))) nr
    have er := up_at (h := h') (p := r) (o := .lst (iL (rgI y.1 y.2)))
    have eF := y1 _ _ eF
    have x := x.trans y1
    generalize up h' r (.lst (iL (rgI y.1 y.2))) = h2 at *
    simp only [eF]
    rw [iL_len, iL_len]
    refine ⟨by omega, ?_⟩
    ((try simp only [e_var, wV_some, wG_some, e_non, e_bl, e_int, e_str, e_glb, e_bin, e_neg, e_no, e_and, e_or, e_cmp, e_chn, e_ife, e_tup, e_lst, e_dnew, e_idx, e_slc, e_call, e_blt, e_mtd, e_isi, e_dis, e_rev, wRev, e_mnd, e_lrg, wMnd, wLrg, e_comp, wEs, wO, wT, wI, wS, wTg, wTgs, CTs.len, asB_bl, wBin, wCmp, wAdd, wSubX, wI2, wMul, wEq, wLt, wCI, wIs, DL.isNon, wNeg, wIdx, wSlc, wB, wLen, seqOf, lstOf, wIsi, tyOf, isTy, wM, wML, tyD, Mtd.ty, iAny, isSeqL, isSeqT, iRng, wSet, List.getElem?_cons_zero, List.getElem?_cons_succ, List.set_cons_zero, List.set_cons_succ, List.length_cons, List.length_nil, wAt_0, wAt_1, wAt_2, wAt_3, Nat.reduceAdd, ix30, ix31, ix32, up_at, Bool.false_eq_true, ↓reduceIte, decide_true, String.reduceBEq, Bool.and_false, Bool.false_and, Bool.or_false, Bool.false_or, true_and, beq_self_eq_true, Bool.true_or, Bool.or_true, Bool.not_true, Bool.not_false, Bool.false_xor, Bool.true_xor, wipeD, List.map_cons, List.map_nil, wTgs, CTs.len]); rw [ss_nil])
    exact ⟨_, _, rfl, x.fresh nF, by rw [up_at, iL_app], by rw [List.length_append]; omega⟩
  · rintro s h' ⟨x2, x3, rfl, x, eF, nn⟩
    rw [pL_len, List.take_length] at eF
    ((try simp only [e_var, wV_some, wG_some, e_non, e_bl, e_int, e_str, e_glb, e_bin, e_neg, e_no, e_and, e_or, e_cmp, e_chn, e_ife, e_tup, e_lst, e_dnew, e_idx, e_slc, e_call, e_blt, e_mtd, e_isi, e_dis, e_rev, wRev, e_mnd, e_lrg, wMnd, wLrg, e_comp, wEs, wO, wT, wI, wS, wTg, wTgs, CTs.len, asB_bl, wBin, wCmp, wAdd, wSubX, wI2, wMul, wEq, wLt, wCI, wIs, DL.isNon, wNeg, wIdx, wSlc, wB, wLen, seqOf, lstOf, wIsi, tyOf, isTy, wM, wML, tyD, Mtd.ty, iAny, isSeqL, isSeqT, iRng, wSet, List.getElem?_cons_zero, List.getElem?_cons_succ, List.set_cons_zero, List.set_cons_succ, List.length_cons, List.length_nil, wAt_0, wAt_1, wAt_2, wAt_3, Nat.reduceAdd, ix30, ix31, ix32, up_at, Bool.false_eq_true, ↓reduceIte, decide_true, String.reduceBEq, Bool.and_false, Bool.false_and, Bool.or_false, Bool.false_or, true_and, beq_self_eq_true, Bool.true_or, Bool.or_true, Bool.not_true, Bool.not_false, Bool.false_xor, Bool.true_xor, wipeD, List.map_cons, List.map_nil, wTgs, CTs.len]); rw [ss_cons]; simp only [e_var, wV_some, wG_some, e_non, e_bl, e_int, e_str, e_glb, e_bin, e_neg, e_no, e_and, e_or, e_cmp, e_chn, e_ife, e_tup, e_lst, e_dnew, e_idx, e_slc, e_call, e_blt, e_mtd, e_isi, e_dis, e_rev, wRev, e_mnd, e_lrg, wMnd, wLrg, e_comp, wEs, wO, wT, wI, wS, wTg, wTgs, CTs.len, asB_bl, wBin, wCmp, wAdd, wSubX, wI2, wMul, wEq, wLt, wCI, wIs, DL.isNon, wNeg, wIdx, wSlc, wB, wLen, seqOf, lstOf, wIsi, tyOf, isTy, wM, wML, tyD, Mtd.ty, iAny, isSeqL, isSeqT, iRng, wSet, List.getElem?_cons_zero, List.getElem?_cons_succ, List.set_cons_zero, List.set_cons_succ, List.length_cons, List.length_nil, wAt_0, wAt_1, wAt_2, wAt_3, Nat.reduceAdd, ix30, ix31, ix32, up_at, Bool.false_eq_true, ↓reduceIte, decide_true, String.reduceBEq, Bool.and_false, Bool.false_and, Bool.or_false, Bool.false_or, true_and, beq_self_eq_true, Bool.true_or, Bool.or_true, Bool.not_true, Bool.not_false, Bool.false_xor, Bool.true_xor, wipeD, List.map_cons, List.map_nil, wTgs, CTs.len])
    exact q F h' nF x eF
end
end Qk04

namespace Qk04
open PySem DL L2
theorem any_eqv {fs : List Int} {x : Int} : ((fs.map PyData.int).any fun z => PyData.eqv z (.int x)) = decide (x ∈ fs) := by
  rw [Bool.eq_iff_iff, List.any_eq_true, decide_eq_true_eq]
  constructor
  · rintro ⟨z, hz, e⟩
    obtain ⟨y, hy, rfl⟩ := List.mem_map.mp hz
    simp only [PyData.eqv] at e
    have : y = x := by simpa using e
    rw [← this]
    exact hy
  · intro hx
    exact ⟨.int x, List.mem_map.mpr ⟨x, hx, rfl⟩, by simp [PyData.eqv]⟩
section
variable {n : Nat} {h : DH} {Q : QD} {E : XD} {P c : Addr} {B : Int}
theorem crowdright (f : Fd P c B h) (hb : B < 50000) (q : ∀ h2, Fd P c (B + 500) h2 → Q (.bl true) h2) : run gl ds (n + 4) 14 [.ref P] h Q E := by
  refine e14 ?_
  ((try simp only [e_var, wV_some, wG_some, e_non, e_bl, e_int, e_str, e_glb, e_bin, e_neg, e_no, e_and, e_or, e_cmp, e_chn, e_ife, e_tup, e_lst, e_dnew, e_idx, e_slc, e_call, e_blt, e_mtd, e_isi, e_dis, e_rev, wRev, e_mnd, e_lrg, wMnd, wLrg, e_comp, wEs, wO, wT, wI, wS, wTg, wTgs, CTs.len, asB_bl, wBin, wCmp, wAdd, wSubX, wI2, wMul, wEq, wLt, wCI, wIs, DL.isNon, wNeg, wIdx, wSlc, wB, wLen, seqOf, lstOf, wIsi, tyOf, isTy, wM, wML, tyD, Mtd.ty, iAny, isSeqL, isSeqT, iRng, wSet, List.getElem?_cons_zero, List.getElem?_cons_succ, List.set_cons_zero, List.set_cons_succ, List.length_cons, List.length_nil, wAt_0, wAt_1, wAt_2, wAt_3, Nat.reduceAdd, ix30, ix31, ix32, up_at, Bool.false_eq_true, ↓reduceIte, decide_true, String.reduceBEq, Bool.and_false, Bool.false_and, Bool.or_false, Bool.false_or, true_and, beq_self_eq_true, Bool.true_or, Bool.or_true, Bool.not_true, Bool.not_false, Bool.false_xor, Bool.true_xor, wipeD, List.map_cons, List.map_nil, wTgs, CTs.len]); rw [ss_cons]; simp only [e_var, wV_some, wG_some, e_non, e_bl, e_int, e_str, e_glb, e_bin, e_neg, e_no, e_and, e_or, e_cmp, e_chn, e_ife, e_tup, e_lst, e_dnew, e_idx, e_slc, e_call, e_blt, e_mtd, e_isi, e_dis, e_rev, wRev, e_mnd, e_lrg, wMnd, wLrg, e_comp, wEs, wO, wT, wI, wS, wTg, wTgs, CTs.len, asB_bl, wBin, wCmp, wAdd, wSubX, wI2, wMul, wEq, wLt, wCI, wIs, DL.isNon, wNeg, wIdx, wSlc, wB, wLen, seqOf, lstOf, wIsi, tyOf, isTy, wM, wML, tyD, Mtd.ty, iAny, isSeqL, isSeqT, iRng, wSet, List.getElem?_cons_zero, List.getElem?_cons_succ, List.set_cons_zero, List.set_cons_succ, List.length_cons, List.length_nil, wAt_0, wAt_1, wAt_2, wAt_3, Nat.reduceAdd, ix30, ix31, ix32, up_at, Bool.false_eq_true, ↓reduceIte, decide_true, String.reduceBEq, Bool.and_false, Bool.false_and, Bool.or_false, Bool.false_or, true_and, beq_self_eq_true, Bool.true_or, Bool.or_true, Bool.not_true, Bool.not_false, Bool.false_xor, Bool.true_xor, wipeD, List.map_cons, List.map_nil, wTgs, CTs.len])
  refine drawF f (by omega) (by omega) (by omega) fun d h1 d0 d1 f x1 => ?_
  (try simp only [e_var, wV_some, wG_some, e_non, e_bl, e_int, e_str, e_glb, e_bin, e_neg, e_no, e_and, e_or, e_cmp, e_chn, e_ife, e_tup, e_lst, e_dnew, e_idx, e_slc, e_call, e_blt, e_mtd, e_isi, e_dis, e_rev, wRev, e_mnd, e_lrg, wMnd, wLrg, e_comp, wEs, wO, wT, wI, wS, wTg, wTgs, CTs.len, asB_bl, wBin, wCmp, wAdd, wSubX, wI2, wMul, wEq, wLt, wCI, wIs, DL.isNon, wNeg, wIdx, wSlc, wB, wLen, seqOf, lstOf, wIsi, tyOf, isTy, wM, wML, tyD, Mtd.ty, iAny, isSeqL, isSeqT, iRng, wSet, List.getElem?_cons_zero, List.getElem?_cons_succ, List.set_cons_zero, List.set_cons_succ, List.length_cons, List.length_nil, wAt_0, wAt_1, wAt_2, wAt_3, Nat.reduceAdd, ix30, ix31, ix32, up_at, Bool.false_eq_true, ↓reduceIte, decide_true, String.reduceBEq, Bool.and_false, Bool.false_and, Bool.or_false, Bool.false_or, true_and, beq_self_eq_true, Bool.true_or, Bool.or_true, Bool.not_true, Bool.not_false, Bool.false_xor, Bool.true_xor, wipeD, List.map_cons, List.map_nil, wTgs, CTs.len])
  have rest : ∀ (bg : Int) h2, (-200 ≤ bg ∧ bg ≤ 1000000000) → Fd P c (B + 20) h2 → wSs gl (DL.run gl ds (n + 3)) Q (fun x _ h' => E x h') b14_2 [some (.ref P), some (.int bg), none, none, none, none, none, none, none] h2 fun _ h' => Q .non h' := by
    intro bg h2 bb f
    ((try simp only [e_var, wV_some, wG_some, e_non, e_bl, e_int, e_str, e_glb, e_bin, e_neg, e_no, e_and, e_or, e_cmp, e_chn, e_ife, e_tup, e_lst, e_dnew, e_idx, e_slc, e_call, e_blt, e_mtd, e_isi, e_dis, e_rev, wRev, e_mnd, e_lrg, wMnd, wLrg, e_comp, wEs, wO, wT, wI, wS, wTg, wTgs, CTs.len, asB_bl, wBin, wCmp, wAdd, wSubX, wI2, wMul, wEq, wLt, wCI, wIs, DL.isNon, wNeg, wIdx, wSlc, wB, wLen, seqOf, lstOf, wIsi, tyOf, isTy, wM, wML, tyD, Mtd.ty, iAny, isSeqL, isSeqT, iRng, wSet, List.getElem?_cons_zero, List.getElem?_cons_succ, List.set_cons_zero, List.set_cons_succ, List.length_cons, List.length_nil, wAt_0, wAt_1, wAt_2, wAt_3, Nat.reduceAdd, ix30, ix31, ix32, up_at, Bool.false_eq_true, ↓reduceIte, decide_true, String.reduceBEq, Bool.and_false, Bool.false_and, Bool.or_false, Bool.false_or, true_and, beq_self_eq_true, Bool.true_or, Bool.or_true, Bool.not_true, Bool.not_false, Bool.false_xor, Bool.true_xor, wipeD, List.map_cons, List.map_nil, wTgs, CTs.len]); rw [ss_cons]; simp only [e_var, wV_some, wG_some, e_non, e_bl, e_int, e_str, e_glb, e_bin, e_neg, e_no, e_and, e_or, e_cmp, e_chn, e_ife, e_tup, e_lst, e_dnew, e_idx, e_slc, e_call, e_blt, e_mtd, e_isi, e_dis, e_rev, wRev, e_mnd, e_lrg, wMnd, wLrg, e_comp, wEs, wO, wT, wI, wS, wTg, wTgs, CTs.len, asB_bl, wBin, wCmp, wAdd, wSubX, wI2, wMul, wEq, wLt, wCI, wIs, DL.isNon, wNeg, wIdx, wSlc, wB, wLen, seqOf, lstOf, wIsi, tyOf, isTy, wM, wML, tyD, Mtd.ty, iAny, isSeqL, isSeqT, iRng, wSet, List.getElem?_cons_zero, List.getElem?_cons_succ, List.set_cons_zero, List.set_cons_succ, List.length_cons, List.length_nil, wAt_0, wAt_1, wAt_2, wAt_3, Nat.reduceAdd, ix30, ix31, ix32, up_at, Bool.false_eq_true, ↓reduceIte, decide_true, String.reduceBEq, Bool.and_false, Bool.false_and, Bool.or_false, Bool.false_or, true_and, beq_self_eq_true, Bool.true_or, Bool.or_true, Bool.not_true, Bool.not_false, Bool.false_xor, Bool.true_xor, wipeD, List.map_cons, List.map_nil, wTgs, CTs.len])
    refine crowd f (by omega) fun a A h3 aP ac na x3 hA lA bA eA f => ?_
    ((try simp only [e_var, wV_some, wG_some, e_non, e_bl, e_int, e_str, e_glb, e_bin, e_neg, e_no, e_and, e_or, e_cmp, e_chn, e_ife, e_tup, e_lst, e_dnew, e_idx, e_slc, e_call, e_blt, e_mtd, e_isi, e_dis, e_rev, wRev, e_mnd, e_lrg, wMnd, wLrg, e_comp, wEs, wO, wT, wI, wS, wTg, wTgs, CTs.len, asB_bl, wBin, wCmp, wAdd, wSubX, wI2, wMul, wEq, wLt, wCI, wIs, DL.isNon, wNeg, wIdx, wSlc, wB, wLen, seqOf, lstOf, wIsi, tyOf, isTy, wM, wML, tyD, Mtd.ty, iAny, isSeqL, isSeqT, iRng, wSet, List.getElem?_cons_zero, List.getElem?_cons_succ, List.set_cons_zero, List.set_cons_succ, List.length_cons, List.length_nil, wAt_0, wAt_1, wAt_2, wAt_3, Nat.reduceAdd, ix30, ix31, ix32, up_at, Bool.false_eq_true, ↓reduceIte, decide_true, String.reduceBEq, Bool.and_false, Bool.false_and, Bool.or_false, Bool.false_or, true_and, beq_self_eq_true, Bool.true_or, Bool.or_true, Bool.not_true, Bool.not_false, Bool.false_xor, Bool.true_xor, wipeD, List.map_cons, List.map_nil, wTgs, CTs.len]); rw [ss_cons]; simp only [e_var, wV_some, wG_some, e_non, e_bl, e_int, e_str, e_glb, e_bin, e_neg, e_no, e_and, e_or, e_cmp, e_chn, e_ife, e_tup, e_lst, e_dnew, e_idx, e_slc, e_call, e_blt, e_mtd, e_isi, e_dis, e_rev, wRev, e_mnd, e_lrg, wMnd, wLrg, e_comp, wEs, wO, wT, wI, wS, wTg, wTgs, CTs.len, asB_bl, wBin, wCmp, wAdd, wSubX, wI2, wMul, wEq, wLt, wCI, wIs, DL.isNon, wNeg, wIdx, wSlc, wB, wLen, seqOf, lstOf, wIsi, tyOf, isTy, wM, wML, tyD, Mtd.ty, iAny, isSeqL, isSeqT, iRng, wSet, List.getElem?_cons_zero, List.getElem?_cons_succ, List.set_cons_zero, List.set_cons_succ, List.length_cons, List.length_nil, wAt_0, wAt_1, wAt_2, wAt_3, Nat.reduceAdd, ix30, ix31, ix32, up_at, Bool.false_eq_true, ↓reduceIte, decide_true, String.reduceBEq, Bool.and_false, Bool.false_and, Bool.or_false, Bool.false_or, true_and, beq_self_eq_true, Bool.true_or, Bool.or_true, Bool.not_true, Bool.not_false, Bool.false_xor, Bool.true_xor, wipeD, List.map_cons, List.map_nil, wTgs, CTs.len])
    refine drawF f (by omega) (by omega) (by omega) fun d2 h4 a0 a1 f x4 => ?_
    have eA := x4 _ _ aP eA
    (try simp only [e_var, wV_some, wG_some, e_non, e_bl, e_int, e_str, e_glb, e_bin, e_neg, e_no, e_and, e_or, e_cmp, e_chn, e_ife, e_tup, e_lst, e_dnew, e_idx, e_slc, e_call, e_blt, e_mtd, e_isi, e_dis, e_rev, wRev, e_mnd, e_lrg, wMnd, wLrg, e_comp, wEs, wO, wT, wI, wS, wTg, wTgs, CTs.len, asB_bl, wBin, wCmp, wAdd, wSubX, wI2, wMul, wEq, wLt, wCI, wIs, DL.isNon, wNeg, wIdx, wSlc, wB, wLen, seqOf, lstOf, wIsi, tyOf, isTy, wM, wML, tyD, Mtd.ty, iAny, isSeqL, isSeqT, iRng, wSet, List.getElem?_cons_zero, List.getElem?_cons_succ, List.set_cons_zero, List.set_cons_succ, List.length_cons, List.length_nil, wAt_0, wAt_1, wAt_2, wAt_3, Nat.reduceAdd, ix30, ix31, ix32, up_at, Bool.false_eq_true, ↓reduceIte, decide_true, String.reduceBEq, Bool.and_false, Bool.false_and, Bool.or_false, Bool.false_or, true_and, beq_self_eq_true, Bool.true_or, Bool.or_true, Bool.not_true, Bool.not_false, Bool.false_xor, Bool.true_xor, wipeD, List.map_cons, List.map_nil, wTgs, CTs.len])
    refine crowd f (by omega) fun b B' h5 bP bc nb x5 hB lB bB eB f => ?_
    have eA := x5 _ _ aP eA
    ((try simp only [e_var, wV_some, wG_some, e_non, e_bl, e_int, e_str, e_glb, e_bin, e_neg, e_no, e_and, e_or, e_cmp, e_chn, e_ife, e_tup, e_lst, e_dnew, e_idx, e_slc, e_call, e_blt, e_mtd, e_isi, e_dis, e_rev, wRev, e_mnd, e_lrg, wMnd, wLrg, e_comp, wEs, wO, wT, wI, wS, wTg, wTgs, CTs.len, asB_bl, wBin, wCmp, wAdd, wSubX, wI2, wMul, wEq, wLt, wCI, wIs, DL.isNon, wNeg, wIdx, wSlc, wB, wLen, seqOf, lstOf, wIsi, tyOf, isTy, wM, wML, tyD, Mtd.ty, iAny, isSeqL, isSeqT, iRng, wSet, List.getElem?_cons_zero, List.getElem?_cons_succ, List.set_cons_zero, List.set_cons_succ, List.length_cons, List.length_nil, wAt_0, wAt_1, wAt_2, wAt_3, Nat.reduceAdd, ix30, ix31, ix32, up_at, Bool.false_eq_true, ↓reduceIte, decide_true, String.reduceBEq, Bool.and_false, Bool.false_and, Bool.or_false, Bool.false_or, true_and, beq_self_eq_true, Bool.true_or, Bool.or_true, Bool.not_true, Bool.not_false, Bool.false_xor, Bool.true_xor, wipeD, List.map_cons, List.map_nil, wTgs, CTs.len]); rw [ss_cons]; simp only [e_var, wV_some, wG_some, e_non, e_bl, e_int, e_str, e_glb, e_bin, e_neg, e_no, e_and, e_or, e_cmp, e_chn, e_ife, e_tup, e_lst, e_dnew, e_idx, e_slc, e_call, e_blt, e_mtd, e_isi, e_dis, e_rev, wRev, e_mnd, e_lrg, wMnd, wLrg, e_comp, wEs, wO, wT, wI, wS, wTg, wTgs, CTs.len, asB_bl, wBin, wCmp, wAdd, wSubX, wI2, wMul, wEq, wLt, wCI, wIs, DL.isNon, wNeg, wIdx, wSlc, wB, wLen, seqOf, lstOf, wIsi, tyOf, isTy, wM, wML, tyD, Mtd.ty, iAny, isSeqL, isSeqT, iRng, wSet, List.getElem?_cons_zero, List.getElem?_cons_succ, List.set_cons_zero, List.set_cons_succ, List.length_cons, List.length_nil, wAt_0, wAt_1, wAt_2, wAt_3, Nat.reduceAdd, ix30, ix31, ix32, up_at, Bool.false_eq_true, ↓reduceIte, decide_true, String.reduceBEq, Bool.and_false, Bool.false_and, Bool.or_false, Bool.false_or, true_and, beq_self_eq_true, Bool.true_or, Bool.or_true, Bool.not_true, Bool.not_false, Bool.false_xor, Bool.true_xor, wipeD, List.map_cons, List.map_nil, wTgs, CTs.len])
    have bdA : ∀ x ∈ A, -(2 ^ 60) ≤ x.1 ∧ x.1 < x.2 ∧ x.2 ≤ 2 ^ 60 ∧ x.2 - x.1 ≤ 700 := fun x hx => by
      have := bA x hx
      have := hA.pos x hx
      omega
    have bdB : ∀ x ∈ B', -(2 ^ 60) ≤ x.1 ∧ x.1 < x.2 ∧ x.2 ≤ 2 ^ 60 ∧ x.2 - x.1 ≤ 700 := fun x hx => by
      have := bB x hx
      have := hB.pos x hx
      omega
    refine minutes eA (by omega) bdA fun M h6 nM x6 eM => ?_
    have eA := x6 _ _ eA
    have eB := x6 _ _ eB
    have f := f.ext x6
    (try simp only [e_var, wV_some, wG_some, e_non, e_bl, e_int, e_str, e_glb, e_bin, e_neg, e_no, e_and, e_or, e_cmp, e_chn, e_ife, e_tup, e_lst, e_dnew, e_idx, e_slc, e_call, e_blt, e_mtd, e_isi, e_dis, e_rev, wRev, e_mnd, e_lrg, wMnd, wLrg, e_comp, wEs, wO, wT, wI, wS, wTg, wTgs, CTs.len, asB_bl, wBin, wCmp, wAdd, wSubX, wI2, wMul, wEq, wLt, wCI, wIs, DL.isNon, wNeg, wIdx, wSlc, wB, wLen, seqOf, lstOf, wIsi, tyOf, isTy, wM, wML, tyD, Mtd.ty, iAny, isSeqL, isSeqT, iRng, wSet, List.getElem?_cons_zero, List.getElem?_cons_succ, List.set_cons_zero, List.set_cons_succ, List.length_cons, List.length_nil, wAt_0, wAt_1, wAt_2, wAt_3, Nat.reduceAdd, ix30, ix31, ix32, up_at, Bool.false_eq_true, ↓reduceIte, decide_true, String.reduceBEq, Bool.and_false, Bool.false_and, Bool.or_false, Bool.false_or, true_and, beq_self_eq_true, Bool.true_or, Bool.or_true, Bool.not_true, Bool.not_false, Bool.false_xor, Bool.true_xor, wipeD, List.map_cons, List.map_nil, wTgs, CTs.len])
    refine minutes eB (by omega) bdB fun M2 h7 nM2 x7 eM2 => ?_
    have eA := x7 _ _ eA
    have eB := x7 _ _ eB
    have eM := x7 _ _ eM
    have f := f.ext x7
    (try simp only [e_var, wV_some, wG_some, e_non, e_bl, e_int, e_str, e_glb, e_bin, e_neg, e_no, e_and, e_or, e_cmp, e_chn, e_ife, e_tup, e_lst, e_dnew, e_idx, e_slc, e_call, e_blt, e_mtd, e_isi, e_dis, e_rev, wRev, e_mnd, e_lrg, wMnd, wLrg, e_comp, wEs, wO, wT, wI, wS, wTg, wTgs, CTs.len, asB_bl, wBin, wCmp, wAdd, wSubX, wI2, wMul, wEq, wLt, wCI, wIs, DL.isNon, wNeg, wIdx, wSlc, wB, wLen, seqOf, lstOf, wIsi, tyOf, isTy, wM, wML, tyD, Mtd.ty, iAny, isSeqL, isSeqT, iRng, wSet, List.getElem?_cons_zero, List.getElem?_cons_succ, List.set_cons_zero, List.set_cons_succ, List.length_cons, List.length_nil, wAt_0, wAt_1, wAt_2, wAt_3, Nat.reduceAdd, ix30, ix31, ix32, up_at, Bool.false_eq_true, ↓reduceIte, decide_true, String.reduceBEq, Bool.and_false, Bool.false_and, Bool.or_false, Bool.false_or, true_and, beq_self_eq_true, Bool.true_or, Bool.or_true, Bool.not_true, Bool.not_false, Bool.false_xor, Bool.true_xor, wipeD, List.map_cons, List.map_nil, wTgs, CTs.len])
    refine ⟨by omega, ?_⟩
    ((try simp only [e_var, wV_some, wG_some, e_non, e_bl, e_int, e_str, e_glb, e_bin, e_neg, e_no, e_and, e_or, e_cmp, e_chn, e_ife, e_tup, e_lst, e_dnew, e_idx, e_slc, e_call, e_blt, e_mtd, e_isi, e_dis, e_rev, wRev, e_mnd, e_lrg, wMnd, wLrg, e_comp, wEs, wO, wT, wI, wS, wTg, wTgs, CTs.len, asB_bl, wBin, wCmp, wAdd, wSubX, wI2, wMul, wEq, wLt, wCI, wIs, DL.isNon, wNeg, wIdx, wSlc, wB, wLen, seqOf, lstOf, wIsi, tyOf, isTy, wM, wML, tyD, Mtd.ty, iAny, isSeqL, isSeqT, iRng, wSet, List.getElem?_cons_zero, List.getElem?_cons_succ, List.set_cons_zero, List.set_cons_succ, List.length_cons, List.length_nil, wAt_0, wAt_1, wAt_2, wAt_3, Nat.reduceAdd, ix30, ix31, ix32, up_at, Bool.false_eq_true, ↓reduceIte, decide_true, String.reduceBEq, Bool.and_false, Bool.false_and, Bool.or_false, Bool.false_or, true_and, beq_self_eq_true, Bool.true_or, Bool.or_true, Bool.not_true, Bool.not_false, Bool.false_xor, Bool.true_xor, wipeD, List.map_cons, List.map_nil, wTgs, CTs.len]); rw [ss_cons]; simp only [e_var, wV_some, wG_some, e_non, e_bl, e_int, e_str, e_glb, e_bin, e_neg, e_no, e_and, e_or, e_cmp, e_chn, e_ife, e_tup, e_lst, e_dnew, e_idx, e_slc, e_call, e_blt, e_mtd, e_isi, e_dis, e_rev, wRev, e_mnd, e_lrg, wMnd, wLrg, e_comp, wEs, wO, wT, wI, wS, wTg, wTgs, CTs.len, asB_bl, wBin, wCmp, wAdd, wSubX, wI2, wMul, wEq, wLt, wCI, wIs, DL.isNon, wNeg, wIdx, wSlc, wB, wLen, seqOf, lstOf, wIsi, tyOf, isTy, wM, wML, tyD, Mtd.ty, iAny, isSeqL, isSeqT, iRng, wSet, List.getElem?_cons_zero, List.getElem?_cons_succ, List.set_cons_zero, List.set_cons_succ, List.length_cons, List.length_nil, wAt_0, wAt_1, wAt_2, wAt_3, Nat.reduceAdd, ix30, ix31, ix32, up_at, Bool.false_eq_true, ↓reduceIte, decide_true, String.reduceBEq, Bool.and_false, Bool.false_and, Bool.or_false, Bool.false_or, true_and, beq_self_eq_true, Bool.true_or, Bool.or_true, Bool.not_true, Bool.not_false, Bool.false_xor, Bool.true_xor, wipeD, List.map_cons, List.map_nil, wTgs, CTs.len])
    refine both hA hB (by omega) (by omega) eA eB fun S R h8 nS x8 eS bR lR => ?_
    have eA := x8 _ _ eA
    have eB := x8 _ _ eB
    have eM := x8 _ _ eM
    have eM2 := x8 _ _ eM2
    have f := f.ext x8
    (try simp only [e_var, wV_some, wG_some, e_non, e_bl, e_int, e_str, e_glb, e_bin, e_neg, e_no, e_and, e_or, e_cmp, e_chn, e_ife, e_tup, e_lst, e_dnew, e_idx, e_slc, e_call, e_blt, e_mtd, e_isi, e_dis, e_rev, wRev, e_mnd, e_lrg, wMnd, wLrg, e_comp, wEs, wO, wT, wI, wS, wTg, wTgs, CTs.len, asB_bl, wBin, wCmp, wAdd, wSubX, wI2, wMul, wEq, wLt, wCI, wIs, DL.isNon, wNeg, wIdx, wSlc, wB, wLen, seqOf, lstOf, wIsi, tyOf, isTy, wM, wML, tyD, Mtd.ty, iAny, isSeqL, isSeqT, iRng, wSet, List.getElem?_cons_zero, List.getElem?_cons_succ, List.set_cons_zero, List.set_cons_succ, List.length_cons, List.length_nil, wAt_0, wAt_1, wAt_2, wAt_3, Nat.reduceAdd, ix30, ix31, ix32, up_at, Bool.false_eq_true, ↓reduceIte, decide_true, String.reduceBEq, Bool.and_false, Bool.false_and, Bool.or_false, Bool.false_or, true_and, beq_self_eq_true, Bool.true_or, Bool.or_true, Bool.not_true, Bool.not_false, Bool.false_xor, Bool.true_xor, wipeD, List.map_cons, List.map_nil, wTgs, CTs.len])
    refine without hA hB (by omega) (by omega) eA eB fun L T h9 nL x9 eL bT lT => ?_
    have eA := x9 _ _ eA
    have eB := x9 _ _ eB
    have eM := x9 _ _ eM
    have eM2 := x9 _ _ eM2
    have eS := x9 _ _ eS
    have f := f.ext x9
    have lR' : R.length ≤ 4000 := Nat.le_trans lR (Nat.le_trans (Nat.mul_le_mul lA lB) (by decide))
    have lT' : T.length ≤ 4000 := Nat.le_trans lT (Nat.le_trans (Nat.mul_le_mul lA (by omega : B'.length + 1 ≤ 61)) (by decide))
    have sub : ∀ (R : List IP), Lot R → (∀ m, inn R m → inn A m) → ∀ x ∈ R, -(2 ^ 60) ≤ x.1 ∧ x.1 < x.2 ∧ x.2 ≤ 2 ^ 60 ∧ x.2 - x.1 ≤ 700 := fun R hR hs x hx => by
      have px := hR.pos x hx
      obtain ⟨y, hy, y1, y2⟩ := hs x.1 ⟨x, hx, by omega, px⟩
      obtain ⟨z, hz, z1, z2⟩ := hs (x.2 - 1) ⟨x, hx, by omega, by omega⟩
      have := bA y hy
      have := bA z hz
      omega
    have bdR := sub R bR.1 fun m z => ((bR.2 m).mp z).1
    have bdT := sub T bT.1 fun m z => ((bT.2 m).mp z).1
    have mR : mins R = (mins A).filter fun m => decide (m ∈ mins B') := mins_part hA bR.1 fun m => by rw [bR.2 m, decide_eq_true_eq, mins_mem]
    have mT : mins T = (mins A).filter fun m => !decide (m ∈ mins B') := mins_part hA bT.1 fun m => by rw [bT.2 m, Bool.not_eq_true', decide_eq_false_iff_not, mins_mem]
    have lM : (mins A).length ≤ 50000 := by
      have : ∀ A : List IP, (∀ x ∈ A, x.2 - x.1 ≤ 700) → (mins A).length ≤ 700 * A.length := by
        intro A
        induction A with
        | nil => intro _; simp [mins]
        | cons x r ih =>
          intro hx
          have e : mins (x :: r) = rgI x.1 x.2 ++ mins r := rfl
          have := ih fun y hy => hx y (List.mem_cons_of_mem _ hy)
          have := hx x (by simp)
          rw [e, List.length_append, rgI_len, List.length_cons]
          omega
      have := this A fun x hx => (bdA x hx).2.2.2
      omega
    ((try simp only [e_var, wV_some, wG_some, e_non, e_bl, e_int, e_str, e_glb, e_bin, e_neg, e_no, e_and, e_or, e_cmp, e_chn, e_ife, e_tup, e_lst, e_dnew, e_idx, e_slc, e_call, e_blt, e_mtd, e_isi, e_dis, e_rev, wRev, e_mnd, e_lrg, wMnd, wLrg, e_comp, wEs, wO, wT, wI, wS, wTg, wTgs, CTs.len, asB_bl, wBin, wCmp, wAdd, wSubX, wI2, wMul, wEq, wLt, wCI, wIs, DL.isNon, wNeg, wIdx, wSlc, wB, wLen, seqOf, lstOf, wIsi, tyOf, isTy, wM, wML, tyD, Mtd.ty, iAny, isSeqL, isSeqT, iRng, wSet, List.getElem?_cons_zero, List.getElem?_cons_succ, List.set_cons_zero, List.set_cons_succ, List.length_cons, List.length_nil, wAt_0, wAt_1, wAt_2, wAt_3, Nat.reduceAdd, ix30, ix31, ix32, up_at, Bool.false_eq_true, ↓reduceIte, decide_true, String.reduceBEq, Bool.and_false, Bool.false_and, Bool.or_false, Bool.false_or, true_and, beq_self_eq_true, Bool.true_or, Bool.or_true, Bool.not_true, Bool.not_false, Bool.false_xor, Bool.true_xor, wipeD, List.map_cons, List.map_nil, wTgs, CTs.len]); rw [ss_cons]; simp only [e_var, wV_some, wG_some, e_non, e_bl, e_int, e_str, e_glb, e_bin, e_neg, e_no, e_and, e_or, e_cmp, e_chn, e_ife, e_tup, e_lst, e_dnew, e_idx, e_slc, e_call, e_blt, e_mtd, e_isi, e_dis, e_rev, wRev, e_mnd, e_lrg, wMnd, wLrg, e_comp, wEs, wO, wT, wI, wS, wTg, wTgs, CTs.len, asB_bl, wBin, wCmp, wAdd, wSubX, wI2, wMul, wEq, wLt, wCI, wIs, DL.isNon, wNeg, wIdx, wSlc, wB, wLen, seqOf, lstOf, wIsi, tyOf, isTy, wM, wML, tyD, Mtd.ty, iAny, isSeqL, isSeqT, iRng, wSet, List.getElem?_cons_zero, List.getElem?_cons_succ, List.set_cons_zero, List.set_cons_succ, List.length_cons, List.length_nil, wAt_0, wAt_1, wAt_2, wAt_3, Nat.reduceAdd, ix30, ix31, ix32, up_at, Bool.false_eq_true, ↓reduceIte, decide_true, String.reduceBEq, Bool.and_false, Bool.false_and, Bool.or_false, Bool.false_or, true_and, beq_self_eq_true, Bool.true_or, Bool.or_true, Bool.not_true, Bool.not_false, Bool.false_xor, Bool.true_xor, wipeD, List.map_cons, List.map_nil, wTgs, CTs.len])
    refine islot eS bR.1 (by omega) fun h10 x10 => ?_
    have eL := x10 _ _ eL
    (try simp only [e_var, wV_some, wG_some, e_non, e_bl, e_int, e_str, e_glb, e_bin, e_neg, e_no, e_and, e_or, e_cmp, e_chn, e_ife, e_tup, e_lst, e_dnew, e_idx, e_slc, e_call, e_blt, e_mtd, e_isi, e_dis, e_rev, wRev, e_mnd, e_lrg, wMnd, wLrg, e_comp, wEs, wO, wT, wI, wS, wTg, wTgs, CTs.len, asB_bl, wBin, wCmp, wAdd, wSubX, wI2, wMul, wEq, wLt, wCI, wIs, DL.isNon, wNeg, wIdx, wSlc, wB, wLen, seqOf, lstOf, wIsi, tyOf, isTy, wM, wML, tyD, Mtd.ty, iAny, isSeqL, isSeqT, iRng, wSet, List.getElem?_cons_zero, List.getElem?_cons_succ, List.set_cons_zero, List.set_cons_succ, List.length_cons, List.length_nil, wAt_0, wAt_1, wAt_2, wAt_3, Nat.reduceAdd, ix30, ix31, ix32, up_at, Bool.false_eq_true, ↓reduceIte, decide_true, String.reduceBEq, Bool.and_false, Bool.false_and, Bool.or_false, Bool.false_or, true_and, beq_self_eq_true, Bool.true_or, Bool.or_true, Bool.not_true, Bool.not_false, Bool.false_xor, Bool.true_xor, wipeD, List.map_cons, List.map_nil, wTgs, CTs.len])
    refine islot eL bT.1 (by omega) fun h11 x11 => ?_
    have xx := x10.trans x11
    have eA := xx _ _ eA
    have eM := xx _ _ eM
    have eM2 := xx _ _ eM2
    have eS := xx _ _ eS
    have eL := x11 _ _ eL
    have f := f.ext xx
    (try simp only [e_var, wV_some, wG_some, e_non, e_bl, e_int, e_str, e_glb, e_bin, e_neg, e_no, e_and, e_or, e_cmp, e_chn, e_ife, e_tup, e_lst, e_dnew, e_idx, e_slc, e_call, e_blt, e_mtd, e_isi, e_dis, e_rev, wRev, e_mnd, e_lrg, wMnd, wLrg, e_comp, wEs, wO, wT, wI, wS, wTg, wTgs, CTs.len, asB_bl, wBin, wCmp, wAdd, wSubX, wI2, wMul, wEq, wLt, wCI, wIs, DL.isNon, wNeg, wIdx, wSlc, wB, wLen, seqOf, lstOf, wIsi, tyOf, isTy, wM, wML, tyD, Mtd.ty, iAny, isSeqL, isSeqT, iRng, wSet, List.getElem?_cons_zero, List.getElem?_cons_succ, List.set_cons_zero, List.set_cons_succ, List.length_cons, List.length_nil, wAt_0, wAt_1, wAt_2, wAt_3, Nat.reduceAdd, ix30, ix31, ix32, up_at, Bool.false_eq_true, ↓reduceIte, decide_true, String.reduceBEq, Bool.and_false, Bool.false_and, Bool.or_false, Bool.false_or, true_and, beq_self_eq_true, Bool.true_or, Bool.or_true, Bool.not_true, Bool.not_false, Bool.false_xor, Bool.true_xor, wipeD, List.map_cons, List.map_nil, wTgs, CTs.len])
    ((try simp only [e_var, wV_some, wG_some, e_non, e_bl, e_int, e_str, e_glb, e_bin, e_neg, e_no, e_and, e_or, e_cmp, e_chn, e_ife, e_tup, e_lst, e_dnew, e_idx, e_slc, e_call, e_blt, e_mtd, e_isi, e_dis, e_rev, wRev, e_mnd, e_lrg, wMnd, wLrg, e_comp, wEs, wO, wT, wI, wS, wTg, wTgs, CTs.len, asB_bl, wBin, wCmp, wAdd, wSubX, wI2, wMul, wEq, wLt, wCI, wIs, DL.isNon, wNeg, wIdx, wSlc, wB, wLen, seqOf, lstOf, wIsi, tyOf, isTy, wM, wML, tyD, Mtd.ty, iAny, isSeqL, isSeqT, iRng, wSet, List.getElem?_cons_zero, List.getElem?_cons_succ, List.set_cons_zero, List.set_cons_succ, List.length_cons, List.length_nil, wAt_0, wAt_1, wAt_2, wAt_3, Nat.reduceAdd, ix30, ix31, ix32, up_at, Bool.false_eq_true, ↓reduceIte, decide_true, String.reduceBEq, Bool.and_false, Bool.false_and, Bool.or_false, Bool.false_or, true_and, beq_self_eq_true, Bool.true_or, Bool.or_true, Bool.not_true, Bool.not_false, Bool.false_xor, Bool.true_xor, wipeD, List.map_cons, List.map_nil, wTgs, CTs.len]); rw [ss_nil])
    ((try simp only [e_var, wV_some, wG_some, e_non, e_bl, e_int, e_str, e_glb, e_bin, e_neg, e_no, e_and, e_or, e_cmp, e_chn, e_ife, e_tup, e_lst, e_dnew, e_idx, e_slc, e_call, e_blt, e_mtd, e_isi, e_dis, e_rev, wRev, e_mnd, e_lrg, wMnd, wLrg, e_comp, wEs, wO, wT, wI, wS, wTg, wTgs, CTs.len, asB_bl, wBin, wCmp, wAdd, wSubX, wI2, wMul, wEq, wLt, wCI, wIs, DL.isNon, wNeg, wIdx, wSlc, wB, wLen, seqOf, lstOf, wIsi, tyOf, isTy, wM, wML, tyD, Mtd.ty, iAny, isSeqL, isSeqT, iRng, wSet, List.getElem?_cons_zero, List.getElem?_cons_succ, List.set_cons_zero, List.set_cons_succ, List.length_cons, List.length_nil, wAt_0, wAt_1, wAt_2, wAt_3, Nat.reduceAdd, ix30, ix31, ix32, up_at, Bool.false_eq_true, ↓reduceIte, decide_true, String.reduceBEq, Bool.and_false, Bool.false_and, Bool.or_false, Bool.false_or, true_and, beq_self_eq_true, Bool.true_or, Bool.or_true, Bool.not_true, Bool.not_false, Bool.false_xor, Bool.true_xor, wipeD, List.map_cons, List.map_nil, wTgs, CTs.len]); rw [ss_cons]; simp only [e_var, wV_some, wG_some, e_non, e_bl, e_int, e_str, e_glb, e_bin, e_neg, e_no, e_and, e_or, e_cmp, e_chn, e_ife, e_tup, e_lst, e_dnew, e_idx, e_slc, e_call, e_blt, e_mtd, e_isi, e_dis, e_rev, wRev, e_mnd, e_lrg, wMnd, wLrg, e_comp, wEs, wO, wT, wI, wS, wTg, wTgs, CTs.len, asB_bl, wBin, wCmp, wAdd, wSubX, wI2, wMul, wEq, wLt, wCI, wIs, DL.isNon, wNeg, wIdx, wSlc, wB, wLen, seqOf, lstOf, wIsi, tyOf, isTy, wM, wML, tyD, Mtd.ty, iAny, isSeqL, isSeqT, iRng, wSet, List.getElem?_cons_zero, List.getElem?_cons_succ, List.set_cons_zero, List.set_cons_succ, List.length_cons, List.length_nil, wAt_0, wAt_1, wAt_2, wAt_3, Nat.reduceAdd, ix30, ix31, ix32, up_at, Bool.false_eq_true, ↓reduceIte, decide_true, String.reduceBEq, Bool.and_false, Bool.false_and, Bool.or_false, Bool.false_or, true_and, beq_self_eq_true, Bool.true_or, Bool.or_true, Bool.not_true, Bool.not_false, Bool.false_xor, Bool.true_xor, wipeD, List.map_cons, List.map_nil, wTgs, CTs.len])
    refine minutes eS (by omega) bdR fun M3 h12 nM3 x12 eM3 => ?_
    have eM := x12 _ _ eM
    have eM2 := x12 _ _ eM2
    have eA := x12 _ _ eA
    have eL := x12 _ _ eL
    have f := f.ext x12
    (try simp only [e_var, wV_some, wG_some, e_non, e_bl, e_int, e_str, e_glb, e_bin, e_neg, e_no, e_and, e_or, e_cmp, e_chn, e_ife, e_tup, e_lst, e_dnew, e_idx, e_slc, e_call, e_blt, e_mtd, e_isi, e_dis, e_rev, wRev, e_mnd, e_lrg, wMnd, wLrg, e_comp, wEs, wO, wT, wI, wS, wTg, wTgs, CTs.len, asB_bl, wBin, wCmp, wAdd, wSubX, wI2, wMul, wEq, wLt, wCI, wIs, DL.isNon, wNeg, wIdx, wSlc, wB, wLen, seqOf, lstOf, wIsi, tyOf, isTy, wM, wML, tyD, Mtd.ty, iAny, isSeqL, isSeqT, iRng, wSet, List.getElem?_cons_zero, List.getElem?_cons_succ, List.set_cons_zero, List.set_cons_succ, List.length_cons, List.length_nil, wAt_0, wAt_1, wAt_2, wAt_3, Nat.reduceAdd, ix30, ix31, ix32, up_at, Bool.false_eq_true, ↓reduceIte, decide_true, String.reduceBEq, Bool.and_false, Bool.false_and, Bool.or_false, Bool.false_or, true_and, beq_self_eq_true, Bool.true_or, Bool.or_true, Bool.not_true, Bool.not_false, Bool.false_xor, Bool.true_xor, wipeD, List.map_cons, List.map_nil, wTgs, CTs.len, eM])
    refine comp_lst (a := M) (xs := iL (mins A)) (fun i h' acc => h' = h12 ∧ acc = iL (((mins A).take i).filter fun m => decide (m ∈ mins B'))) ⟨rfl, rfl⟩ (fun _ _ _ ⟨z, _⟩ => by rw [z]; exact eM) ?_ ?_
    · rintro i d h' acc hd ⟨rfl, rfl⟩
      obtain ⟨m, em, rfl⟩ := iL_mem hd
      have hi := (List.getElem?_eq_some_iff.mp em).1
      have l1 : (((mins A).take i).filter fun m => decide (m ∈ mins B')).length ≤ 50000 := Nat.le_trans (List.length_filter_le _ _) (by rw [List.length_take]; omega)
      have ft : ((mins A).take (i + 1)).filter (fun m => decide (m ∈ mins B')) = ((mins A).take i).filter (fun m => decide (m ∈ mins B')) ++ [m].filter fun m => decide (m ∈ mins B') := by
        rw [List.take_add_one, em, List.filter_append]
        rfl
      (try simp only [e_var, wV_some, wG_some, e_non, e_bl, e_int, e_str, e_glb, e_bin, e_neg, e_no, e_and, e_or, e_cmp, e_chn, e_ife, e_tup, e_lst, e_dnew, e_idx, e_slc, e_call, e_blt, e_mtd, e_isi, e_dis, e_rev, wRev, e_mnd, e_lrg, wMnd, wLrg, e_comp, wEs, wO, wT, wI, wS, wTg, wTgs, CTs.len, asB_bl, wBin, wCmp, wAdd, wSubX, wI2, wMul, wEq, wLt, wCI, wIs, DL.isNon, wNeg, wIdx, wSlc, wB, wLen, seqOf, lstOf, wIsi, tyOf, isTy, wM, wML, tyD, Mtd.ty, iAny, isSeqL, isSeqT, iRng, wSet, List.getElem?_cons_zero, List.getElem?_cons_succ, List.set_cons_zero, List.set_cons_succ, List.length_cons, List.length_nil, wAt_0, wAt_1, wAt_2, wAt_3, Nat.reduceAdd, ix30, ix31, ix32, up_at, Bool.false_eq_true, ↓reduceIte, decide_true, String.reduceBEq, Bool.and_false, Bool.false_and, Bool.or_false, Bool.false_or, true_and, beq_self_eq_true, Bool.true_or, Bool.or_true, Bool.not_true, Bool.not_false, Bool.false_xor, Bool.true_xor, wipeD, List.map_cons, List.map_nil, wTgs, CTs.len])
      refine wIn_ints eM2 ?_
      rw [any_eqv]
      cases hm : decide (m ∈ mins B') with
      | true =>
        have z : [m].filter (fun m => decide (m ∈ mins B')) = [m] := by simp [of_decide_eq_true hm]
        rw [ft, z]
        (try simp only [e_var, wV_some, wG_some, e_non, e_bl, e_int, e_str, e_glb, e_bin, e_neg, e_no, e_and, e_or, e_cmp, e_chn, e_ife, e_tup, e_lst, e_dnew, e_idx, e_slc, e_call, e_blt, e_mtd, e_isi, e_dis, e_rev, wRev, e_mnd, e_lrg, wMnd, wLrg, e_comp, wEs, wO, wT, wI, wS, wTg, wTgs, CTs.len, asB_bl, wBin, wCmp, wAdd, wSubX, wI2, wMul, wEq, wLt, wCI, wIs, DL.isNon, wNeg, wIdx, wSlc, wB, wLen, seqOf, lstOf, wIsi, tyOf, isTy, wM, wML, tyD, Mtd.ty, iAny, isSeqL, isSeqT, iRng, wSet, List.getElem?_cons_zero, List.getElem?_cons_succ, List.set_cons_zero, List.set_cons_succ, List.length_cons, List.length_nil, wAt_0, wAt_1, wAt_2, wAt_3, Nat.reduceAdd, ix30, ix31, ix32, up_at, Bool.false_eq_true, ↓reduceIte, decide_true, String.reduceBEq, Bool.and_false, Bool.false_and, Bool.or_false, Bool.false_or, true_and, beq_self_eq_true, Bool.true_or, Bool.or_true, Bool.not_true, Bool.not_false, Bool.false_xor, Bool.true_xor, wipeD, List.map_cons, List.map_nil, wTgs, CTs.len])
        rw [iL_len]
        refine ⟨by omega, ?_⟩
        rw [iL_app]
        all_goals (first | exact ⟨rfl, rfl⟩ | rfl)
      | false =>
        have z : [m].filter (fun m => decide (m ∈ mins B')) = [] := by simp [of_decide_eq_false hm]
        rw [ft, z]
        (try simp only [e_var, wV_some, wG_some, e_non, e_bl, e_int, e_str, e_glb, e_bin, e_neg, e_no, e_and, e_or, e_cmp, e_chn, e_ife, e_tup, e_lst, e_dnew, e_idx, e_slc, e_call, e_blt, e_mtd, e_isi, e_dis, e_rev, wRev, e_mnd, e_lrg, wMnd, wLrg, e_comp, wEs, wO, wT, wI, wS, wTg, wTgs, CTs.len, asB_bl, wBin, wCmp, wAdd, wSubX, wI2, wMul, wEq, wLt, wCI, wIs, DL.isNon, wNeg, wIdx, wSlc, wB, wLen, seqOf, lstOf, wIsi, tyOf, isTy, wM, wML, tyD, Mtd.ty, iAny, isSeqL, isSeqT, iRng, wSet, List.getElem?_cons_zero, List.getElem?_cons_succ, List.set_cons_zero, List.set_cons_succ, List.length_cons, List.length_nil, wAt_0, wAt_1, wAt_2, wAt_3, Nat.reduceAdd, ix30, ix31, ix32, up_at, Bool.false_eq_true, ↓reduceIte, decide_true, String.reduceBEq, Bool.and_false, Bool.false_and, Bool.or_false, Bool.false_or, true_and, beq_self_eq_true, Bool.true_or, Bool.or_true, Bool.not_true, Bool.not_false, Bool.false_xor, Bool.true_xor, wipeD, List.map_cons, List.map_nil, wTgs, CTs.len])
        rw [List.append_nil]
        
        
        all_goals (first | exact ⟨rfl, rfl⟩ | rfl)
    · rintro h' acc p ⟨rfl, rfl⟩ np
      rw [iL_len, List.take_length]
      have yp := Ext.new (o := .lst (iL ((mins A).filter fun m => decide (m ∈ mins B')))) np
      refine wEq_ints (yp _ _ eM3) up_at ?_
      rw [mR, decide_eq_true rfl]
      have eM := yp _ _ eM
      have eM2 := yp _ _ eM2
      have eA := yp _ _ eA
      have eL := yp _ _ eL
      have f := f.ext yp
      generalize up h' p (.lst (iL ((mins A).filter fun m => decide (m ∈ mins B')))) = h13 at *
      (try simp only [e_var, wV_some, wG_some, e_non, e_bl, e_int, e_str, e_glb, e_bin, e_neg, e_no, e_and, e_or, e_cmp, e_chn, e_ife, e_tup, e_lst, e_dnew, e_idx, e_slc, e_call, e_blt, e_mtd, e_isi, e_dis, e_rev, wRev, e_mnd, e_lrg, wMnd, wLrg, e_comp, wEs, wO, wT, wI, wS, wTg, wTgs, CTs.len, asB_bl, wBin, wCmp, wAdd, wSubX, wI2, wMul, wEq, wLt, wCI, wIs, DL.isNon, wNeg, wIdx, wSlc, wB, wLen, seqOf, lstOf, wIsi, tyOf, isTy, wM, wML, tyD, Mtd.ty, iAny, isSeqL, isSeqT, iRng, wSet, List.getElem?_cons_zero, List.getElem?_cons_succ, List.set_cons_zero, List.set_cons_succ, List.length_cons, List.length_nil, wAt_0, wAt_1, wAt_2, wAt_3, Nat.reduceAdd, ix30, ix31, ix32, up_at, Bool.false_eq_true, ↓reduceIte, decide_true, String.reduceBEq, Bool.and_false, Bool.false_and, Bool.or_false, Bool.false_or, true_and, beq_self_eq_true, Bool.true_or, Bool.or_true, Bool.not_true, Bool.not_false, Bool.false_xor, Bool.true_xor, wipeD, List.map_cons, List.map_nil, wTgs, CTs.len])
      ((try simp only [e_var, wV_some, wG_some, e_non, e_bl, e_int, e_str, e_glb, e_bin, e_neg, e_no, e_and, e_or, e_cmp, e_chn, e_ife, e_tup, e_lst, e_dnew, e_idx, e_slc, e_call, e_blt, e_mtd, e_isi, e_dis, e_rev, wRev, e_mnd, e_lrg, wMnd, wLrg, e_comp, wEs, wO, wT, wI, wS, wTg, wTgs, CTs.len, asB_bl, wBin, wCmp, wAdd, wSubX, wI2, wMul, wEq, wLt, wCI, wIs, DL.isNon, wNeg, wIdx, wSlc, wB, wLen, seqOf, lstOf, wIsi, tyOf, isTy, wM, wML, tyD, Mtd.ty, iAny, isSeqL, isSeqT, iRng, wSet, List.getElem?_cons_zero, List.getElem?_cons_succ, List.set_cons_zero, List.set_cons_succ, List.length_cons, List.length_nil, wAt_0, wAt_1, wAt_2, wAt_3, Nat.reduceAdd, ix30, ix31, ix32, up_at, Bool.false_eq_true, ↓reduceIte, decide_true, String.reduceBEq, Bool.and_false, Bool.false_and, Bool.or_false, Bool.false_or, true_and, beq_self_eq_true, Bool.true_or, Bool.or_true, Bool.not_true, Bool.not_false, Bool.false_xor, Bool.true_xor, wipeD, List.map_cons, List.map_nil, wTgs, CTs.len]); rw [ss_nil])
      ((try simp only [e_var, wV_some, wG_some, e_non, e_bl, e_int, e_str, e_glb, e_bin, e_neg, e_no, e_and, e_or, e_cmp, e_chn, e_ife, e_tup, e_lst, e_dnew, e_idx, e_slc, e_call, e_blt, e_mtd, e_isi, e_dis, e_rev, wRev, e_mnd, e_lrg, wMnd, wLrg, e_comp, wEs, wO, wT, wI, wS, wTg, wTgs, CTs.len, asB_bl, wBin, wCmp, wAdd, wSubX, wI2, wMul, wEq, wLt, wCI, wIs, DL.isNon, wNeg, wIdx, wSlc, wB, wLen, seqOf, lstOf, wIsi, tyOf, isTy, wM, wML, tyD, Mtd.ty, iAny, isSeqL, isSeqT, iRng, wSet, List.getElem?_cons_zero, List.getElem?_cons_succ, List.set_cons_zero, List.set_cons_succ, List.length_cons, List.length_nil, wAt_0, wAt_1, wAt_2, wAt_3, Nat.reduceAdd, ix30, ix31, ix32, up_at, Bool.false_eq_true, ↓reduceIte, decide_true, String.reduceBEq, Bool.and_false, Bool.false_and, Bool.or_false, Bool.false_or, true_and, beq_self_eq_true, Bool.true_or, Bool.or_true, Bool.not_true, Bool.not_false, Bool.false_xor, Bool.true_xor, wipeD, List.map_cons, List.map_nil, wTgs, CTs.len]); rw [ss_cons]; simp only [e_var, wV_some, wG_some, e_non, e_bl, e_int, e_str, e_glb, e_bin, e_neg, e_no, e_and, e_or, e_cmp, e_chn, e_ife, e_tup, e_lst, e_dnew, e_idx, e_slc, e_call, e_blt, e_mtd, e_isi, e_dis, e_rev, wRev, e_mnd, e_lrg, wMnd, wLrg, e_comp, wEs, wO, wT, wI, wS, wTg, wTgs, CTs.len, asB_bl, wBin, wCmp, wAdd, wSubX, wI2, wMul, wEq, wLt, wCI, wIs, DL.isNon, wNeg, wIdx, wSlc, wB, wLen, seqOf, lstOf, wIsi, tyOf, isTy, wM, wML, tyD, Mtd.ty, iAny, isSeqL, isSeqT, iRng, wSet, List.getElem?_cons_zero, List.getElem?_cons_succ, List.set_cons_zero, List.set_cons_succ, List.length_cons, List.length_nil, wAt_0, wAt_1, wAt_2, wAt_3, Nat.reduceAdd, ix30, ix31, ix32, up_at, Bool.false_eq_true, ↓reduceIte, decide_true, String.reduceBEq, Bool.and_false, Bool.false_and, Bool.or_false, Bool.false_or, true_and, beq_self_eq_true, Bool.true_or, Bool.or_true, Bool.not_true, Bool.not_false, Bool.false_xor, Bool.true_xor, wipeD, List.map_cons, List.map_nil, wTgs, CTs.len])
      refine minutes eL (by omega) bdT fun M4 h14 nM4 x14 eM4 => ?_
      have eM := x14 _ _ eM
      have eM2 := x14 _ _ eM2
      have eA := x14 _ _ eA
      have eL := x14 _ _ eL
      have f := f.ext x14
      (try simp only [e_var, wV_some, wG_some, e_non, e_bl, e_int, e_str, e_glb, e_bin, e_neg, e_no, e_and, e_or, e_cmp, e_chn, e_ife, e_tup, e_lst, e_dnew, e_idx, e_slc, e_call, e_blt, e_mtd, e_isi, e_dis, e_rev, wRev, e_mnd, e_lrg, wMnd, wLrg, e_comp, wEs, wO, wT, wI, wS, wTg, wTgs, CTs.len, asB_bl, wBin, wCmp, wAdd, wSubX, wI2, wMul, wEq, wLt, wCI, wIs, DL.isNon, wNeg, wIdx, wSlc, wB, wLen, seqOf, lstOf, wIsi, tyOf, isTy, wM, wML, tyD, Mtd.ty, iAny, isSeqL, isSeqT, iRng, wSet, List.getElem?_cons_zero, List.getElem?_cons_succ, List.set_cons_zero, List.set_cons_succ, List.length_cons, List.length_nil, wAt_0, wAt_1, wAt_2, wAt_3, Nat.reduceAdd, ix30, ix31, ix32, up_at, Bool.false_eq_true, ↓reduceIte, decide_true, String.reduceBEq, Bool.and_false, Bool.false_and, Bool.or_false, Bool.false_or, true_and, beq_self_eq_true, Bool.true_or, Bool.or_true, Bool.not_true, Bool.not_false, Bool.false_xor, Bool.true_xor, wipeD, List.map_cons, List.map_nil, wTgs, CTs.len, eM])
      refine comp_lst (a := M) (xs := iL (mins A)) (fun i h' acc => h' = h14 ∧ acc = iL (((mins A).take i).filter fun m => !decide (m ∈ mins B'))) ⟨rfl, rfl⟩ (fun _ _ _ ⟨z, _⟩ => by rw [z]; exact eM) ?_ ?_
      · rintro i d h' acc hd ⟨rfl, rfl⟩
        obtain ⟨m, em, rfl⟩ := iL_mem hd
        have hi := (List.getElem?_eq_some_iff.mp em).1
        have l1 : (((mins A).take i).filter fun m => !decide (m ∈ mins B')).length ≤ 50000 := Nat.le_trans (List.length_filter_le _ _) (by rw [List.length_take]; omega)
        have ft : ((mins A).take (i + 1)).filter (fun m => !decide (m ∈ mins B')) = ((mins A).take i).filter (fun m => !decide (m ∈ mins B')) ++ [m].filter fun m => !decide (m ∈ mins B') := by
          rw [List.take_add_one, em, List.filter_append]
          rfl
        (try simp only [e_var, wV_some, wG_some, e_non, e_bl, e_int, e_str, e_glb, e_bin, e_neg, e_no, e_and, e_or, e_cmp, e_chn, e_ife, e_tup, e_lst, e_dnew, e_idx, e_slc, e_call, e_blt, e_mtd, e_isi, e_dis, e_rev, wRev, e_mnd, e_lrg, wMnd, wLrg, e_comp, wEs, wO, wT, wI, wS, wTg, wTgs, CTs.len, asB_bl, wBin, wCmp, wAdd, wSubX, wI2, wMul, wEq, wLt, wCI, wIs, DL.isNon, wNeg, wIdx, wSlc, wB, wLen, seqOf, lstOf, wIsi, tyOf, isTy, wM, wML, tyD, Mtd.ty, iAny, isSeqL, isSeqT, iRng, wSet, List.getElem?_cons_zero, List.getElem?_cons_succ, List.set_cons_zero, List.set_cons_succ, List.length_cons, List.length_nil, wAt_0, wAt_1, wAt_2, wAt_3, Nat.reduceAdd, ix30, ix31, ix32, up_at, Bool.false_eq_true, ↓reduceIte, decide_true, String.reduceBEq, Bool.and_false, Bool.false_and, Bool.or_false, Bool.false_or, true_and, beq_self_eq_true, Bool.true_or, Bool.or_true, Bool.not_true, Bool.not_false, Bool.false_xor, Bool.true_xor, wipeD, List.map_cons, List.map_nil, wTgs, CTs.len])
        refine wIn_ints eM2 ?_
        rw [any_eqv]
        cases hm : decide (m ∈ mins B') with
        | true =>
          have z : [m].filter (fun m => !decide (m ∈ mins B')) = [] := by simp [of_decide_eq_true hm]
          rw [ft, z]
          (try simp only [e_var, wV_some, wG_some, e_non, e_bl, e_int, e_str, e_glb, e_bin, e_neg, e_no, e_and, e_or, e_cmp, e_chn, e_ife, e_tup, e_lst, e_dnew, e_idx, e_slc, e_call, e_blt, e_mtd, e_isi, e_dis, e_rev, wRev, e_mnd, e_lrg, wMnd, wLrg, e_comp, wEs, wO, wT, wI, wS, wTg, wTgs, CTs.len, asB_bl, wBin, wCmp, wAdd, wSubX, wI2, wMul, wEq, wLt, wCI, wIs, DL.isNon, wNeg, wIdx, wSlc, wB, wLen, seqOf, lstOf, wIsi, tyOf, isTy, wM, wML, tyD, Mtd.ty, iAny, isSeqL, isSeqT, iRng, wSet, List.getElem?_cons_zero, List.getElem?_cons_succ, List.set_cons_zero, List.set_cons_succ, List.length_cons, List.length_nil, wAt_0, wAt_1, wAt_2, wAt_3, Nat.reduceAdd, ix30, ix31, ix32, up_at, Bool.false_eq_true, ↓reduceIte, decide_true, String.reduceBEq, Bool.and_false, Bool.false_and, Bool.or_false, Bool.false_or, true_and, beq_self_eq_true, Bool.true_or, Bool.or_true, Bool.not_true, Bool.not_false, Bool.false_xor, Bool.true_xor, wipeD, List.map_cons, List.map_nil, wTgs, CTs.len])
          rw [List.append_nil]
        
        
          all_goals (first | exact ⟨rfl, rfl⟩ | rfl)
        | false =>
          have z : [m].filter (fun m => !decide (m ∈ mins B')) = [m] := by simp [of_decide_eq_false hm]
          rw [ft, z]
          (try simp only [e_var, wV_some, wG_some, e_non, e_bl, e_int, e_str, e_glb, e_bin, e_neg, e_no, e_and, e_or, e_cmp, e_chn, e_ife, e_tup, e_lst, e_dnew, e_idx, e_slc, e_call, e_blt, e_mtd, e_isi, e_dis, e_rev, wRev, e_mnd, e_lrg, wMnd, wLrg, e_comp, wEs, wO, wT, wI, wS, wTg, wTgs, CTs.len, asB_bl, wBin, wCmp, wAdd, wSubX, wI2, wMul, wEq, wLt, wCI, wIs, DL.isNon, wNeg, wIdx, wSlc, wB, wLen, seqOf, lstOf, wIsi, tyOf, isTy, wM, wML, tyD, Mtd.ty, iAny, isSeqL, isSeqT, iRng, wSet, List.getElem?_cons_zero, List.getElem?_cons_succ, List.set_cons_zero, List.set_cons_succ, List.length_cons, List.length_nil, wAt_0, wAt_1, wAt_2, wAt_3, Nat.reduceAdd, ix30, ix31, ix32, up_at, Bool.false_eq_true, ↓reduceIte, decide_true, String.reduceBEq, Bool.and_false, Bool.false_and, Bool.or_false, Bool.false_or, true_and, beq_self_eq_true, Bool.true_or, Bool.or_true, Bool.not_true, Bool.not_false, Bool.false_xor, Bool.true_xor, wipeD, List.map_cons, List.map_nil, wTgs, CTs.len])
          rw [iL_len]
          refine ⟨by omega, ?_⟩
          rw [iL_app]
          all_goals (first | exact ⟨rfl, rfl⟩ | rfl)
      · rintro h' acc p ⟨rfl, rfl⟩ np
        rw [iL_len, List.take_length]
        have yp := Ext.new (o := .lst (iL ((mins A).filter fun m => !decide (m ∈ mins B')))) np
        refine wEq_ints (yp _ _ eM4) up_at ?_
        rw [mT, decide_eq_true rfl]
        have eM := yp _ _ eM
        have eM2 := yp _ _ eM2
        have eA := yp _ _ eA
        have eL := yp _ _ eL
        have f := f.ext yp
        generalize up h' p (.lst (iL ((mins A).filter fun m => !decide (m ∈ mins B')))) = h15 at *
        (try simp only [e_var, wV_some, wG_some, e_non, e_bl, e_int, e_str, e_glb, e_bin, e_neg, e_no, e_and, e_or, e_cmp, e_chn, e_ife, e_tup, e_lst, e_dnew, e_idx, e_slc, e_call, e_blt, e_mtd, e_isi, e_dis, e_rev, wRev, e_mnd, e_lrg, wMnd, wLrg, e_comp, wEs, wO, wT, wI, wS, wTg, wTgs, CTs.len, asB_bl, wBin, wCmp, wAdd, wSubX, wI2, wMul, wEq, wLt, wCI, wIs, DL.isNon, wNeg, wIdx, wSlc, wB, wLen, seqOf, lstOf, wIsi, tyOf, isTy, wM, wML, tyD, Mtd.ty, iAny, isSeqL, isSeqT, iRng, wSet, List.getElem?_cons_zero, List.getElem?_cons_succ, List.set_cons_zero, List.set_cons_succ, List.length_cons, List.length_nil, wAt_0, wAt_1, wAt_2, wAt_3, Nat.reduceAdd, ix30, ix31, ix32, up_at, Bool.false_eq_true, ↓reduceIte, decide_true, String.reduceBEq, Bool.and_false, Bool.false_and, Bool.or_false, Bool.false_or, true_and, beq_self_eq_true, Bool.true_or, Bool.or_true, Bool.not_true, Bool.not_false, Bool.false_xor, Bool.true_xor, wipeD, List.map_cons, List.map_nil, wTgs, CTs.len])
        ((try simp only [e_var, wV_some, wG_some, e_non, e_bl, e_int, e_str, e_glb, e_bin, e_neg, e_no, e_and, e_or, e_cmp, e_chn, e_ife, e_tup, e_lst, e_dnew, e_idx, e_slc, e_call, e_blt, e_mtd, e_isi, e_dis, e_rev, wRev, e_mnd, e_lrg, wMnd, wLrg, e_comp, wEs, wO, wT, wI, wS, wTg, wTgs, CTs.len, asB_bl, wBin, wCmp, wAdd, wSubX, wI2, wMul, wEq, wLt, wCI, wIs, DL.isNon, wNeg, wIdx, wSlc, wB, wLen, seqOf, lstOf, wIsi, tyOf, isTy, wM, wML, tyD, Mtd.ty, iAny, isSeqL, isSeqT, iRng, wSet, List.getElem?_cons_zero, List.getElem?_cons_succ, List.set_cons_zero, List.set_cons_succ, List.length_cons, List.length_nil, wAt_0, wAt_1, wAt_2, wAt_3, Nat.reduceAdd, ix30, ix31, ix32, up_at, Bool.false_eq_true, ↓reduceIte, decide_true, String.reduceBEq, Bool.and_false, Bool.false_and, Bool.or_false, Bool.false_or, true_and, beq_self_eq_true, Bool.true_or, Bool.or_true, Bool.not_true, Bool.not_false, Bool.false_xor, Bool.true_xor, wipeD, List.map_cons, List.map_nil, wTgs, CTs.len]); rw [ss_nil])
        ((try simp only [e_var, wV_some, wG_some, e_non, e_bl, e_int, e_str, e_glb, e_bin, e_neg, e_no, e_and, e_or, e_cmp, e_chn, e_ife, e_tup, e_lst, e_dnew, e_idx, e_slc, e_call, e_blt, e_mtd, e_isi, e_dis, e_rev, wRev, e_mnd, e_lrg, wMnd, wLrg, e_comp, wEs, wO, wT, wI, wS, wTg, wTgs, CTs.len, asB_bl, wBin, wCmp, wAdd, wSubX, wI2, wMul, wEq, wLt, wCI, wIs, DL.isNon, wNeg, wIdx, wSlc, wB, wLen, seqOf, lstOf, wIsi, tyOf, isTy, wM, wML, tyD, Mtd.ty, iAny, isSeqL, isSeqT, iRng, wSet, List.getElem?_cons_zero, List.getElem?_cons_succ, List.set_cons_zero, List.set_cons_succ, List.length_cons, List.length_nil, wAt_0, wAt_1, wAt_2, wAt_3, Nat.reduceAdd, ix30, ix31, ix32, up_at, Bool.false_eq_true, ↓reduceIte, decide_true, String.reduceBEq, Bool.and_false, Bool.false_and, Bool.or_false, Bool.false_or, true_and, beq_self_eq_true, Bool.true_or, Bool.or_true, Bool.not_true, Bool.not_false, Bool.false_xor, Bool.true_xor, wipeD, List.map_cons, List.map_nil, wTgs, CTs.len]); rw [ss_cons]; simp only [e_var, wV_some, wG_some, e_non, e_bl, e_int, e_str, e_glb, e_bin, e_neg, e_no, e_and, e_or, e_cmp, e_chn, e_ife, e_tup, e_lst, e_dnew, e_idx, e_slc, e_call, e_blt, e_mtd, e_isi, e_dis, e_rev, wRev, e_mnd, e_lrg, wMnd, wLrg, e_comp, wEs, wO, wT, wI, wS, wTg, wTgs, CTs.len, asB_bl, wBin, wCmp, wAdd, wSubX, wI2, wMul, wEq, wLt, wCI, wIs, DL.isNon, wNeg, wIdx, wSlc, wB, wLen, seqOf, lstOf, wIsi, tyOf, isTy, wM, wML, tyD, Mtd.ty, iAny, isSeqL, isSeqT, iRng, wSet, List.getElem?_cons_zero, List.getElem?_cons_succ, List.set_cons_zero, List.set_cons_succ, List.length_cons, List.length_nil, wAt_0, wAt_1, wAt_2, wAt_3, Nat.reduceAdd, ix30, ix31, ix32, up_at, Bool.false_eq_true, ↓reduceIte, decide_true, String.reduceBEq, Bool.and_false, Bool.false_and, Bool.or_false, Bool.false_or, true_and, beq_self_eq_true, Bool.true_or, Bool.or_true, Bool.not_true, Bool.not_false, Bool.false_xor, Bool.true_xor, wipeD, List.map_cons, List.map_nil, wTgs, CTs.len])
        refine minin eA (by omega) fun h16 x16 => ?_
        have eA := x16 _ _ eA
        have eM := x16 _ _ eM
        have f := f.ext x16
        (try simp only [e_var, wV_some, wG_some, e_non, e_bl, e_int, e_str, e_glb, e_bin, e_neg, e_no, e_and, e_or, e_cmp, e_chn, e_ife, e_tup, e_lst, e_dnew, e_idx, e_slc, e_call, e_blt, e_mtd, e_isi, e_dis, e_rev, wRev, e_mnd, e_lrg, wMnd, wLrg, e_comp, wEs, wO, wT, wI, wS, wTg, wTgs, CTs.len, asB_bl, wBin, wCmp, wAdd, wSubX, wI2, wMul, wEq, wLt, wCI, wIs, DL.isNon, wNeg, wIdx, wSlc, wB, wLen, seqOf, lstOf, wIsi, tyOf, isTy, wM, wML, tyD, Mtd.ty, iAny, isSeqL, isSeqT, iRng, wSet, List.getElem?_cons_zero, List.getElem?_cons_succ, List.set_cons_zero, List.set_cons_succ, List.length_cons, List.length_nil, wAt_0, wAt_1, wAt_2, wAt_3, Nat.reduceAdd, ix30, ix31, ix32, up_at, Bool.false_eq_true, ↓reduceIte, decide_true, String.reduceBEq, Bool.and_false, Bool.false_and, Bool.or_false, Bool.false_or, true_and, beq_self_eq_true, Bool.true_or, Bool.or_true, Bool.not_true, Bool.not_false, Bool.false_xor, Bool.true_xor, wipeD, List.map_cons, List.map_nil, wTgs, CTs.len, eM])
        rw [iL_len, mins_len hA.pos, decide_eq_true rfl]
        (try simp only [e_var, wV_some, wG_some, e_non, e_bl, e_int, e_str, e_glb, e_bin, e_neg, e_no, e_and, e_or, e_cmp, e_chn, e_ife, e_tup, e_lst, e_dnew, e_idx, e_slc, e_call, e_blt, e_mtd, e_isi, e_dis, e_rev, wRev, e_mnd, e_lrg, wMnd, wLrg, e_comp, wEs, wO, wT, wI, wS, wTg, wTgs, CTs.len, asB_bl, wBin, wCmp, wAdd, wSubX, wI2, wMul, wEq, wLt, wCI, wIs, DL.isNon, wNeg, wIdx, wSlc, wB, wLen, seqOf, lstOf, wIsi, tyOf, isTy, wM, wML, tyD, Mtd.ty, iAny, isSeqL, isSeqT, iRng, wSet, List.getElem?_cons_zero, List.getElem?_cons_succ, List.set_cons_zero, List.set_cons_succ, List.length_cons, List.length_nil, wAt_0, wAt_1, wAt_2, wAt_3, Nat.reduceAdd, ix30, ix31, ix32, up_at, Bool.false_eq_true, ↓reduceIte, decide_true, String.reduceBEq, Bool.and_false, Bool.false_and, Bool.or_false, Bool.false_or, true_and, beq_self_eq_true, Bool.true_or, Bool.or_true, Bool.not_true, Bool.not_false, Bool.false_xor, Bool.true_xor, wipeD, List.map_cons, List.map_nil, wTgs, CTs.len, eA])
        intro K nK
        have y5 := Ext.new (o := .lst (pL A)) nK
        have eK := up_at (h := h16) (p := K) (o := .lst (pL A))
        have eA := y5 _ _ eA
        have f := f.ext y5
        generalize up h16 K (.lst (pL A)) = h17 at *
        refine without hA hA (by omega) (by omega) eA eK fun L2 T2 h18 nL2 x18 eL2 bT2 lT2 => ?_
        have f := f.ext x18
        have t2 : T2 = [] := lot_uniq bT2.1 lot0 fun m => by
          rw [bT2.2 m]
          exact ⟨fun z => absurd z.1 z.2, fun z => absurd z inn_nil⟩
        rw [t2] at eL2
        (try simp only [e_var, wV_some, wG_some, e_non, e_bl, e_int, e_str, e_glb, e_bin, e_neg, e_no, e_and, e_or, e_cmp, e_chn, e_ife, e_tup, e_lst, e_dnew, e_idx, e_slc, e_call, e_blt, e_mtd, e_isi, e_dis, e_rev, wRev, e_mnd, e_lrg, wMnd, wLrg, e_comp, wEs, wO, wT, wI, wS, wTg, wTgs, CTs.len, asB_bl, wBin, wCmp, wAdd, wSubX, wI2, wMul, wEq, wLt, wCI, wIs, DL.isNon, wNeg, wIdx, wSlc, wB, wLen, seqOf, lstOf, wIsi, tyOf, isTy, wM, wML, tyD, Mtd.ty, iAny, isSeqL, isSeqT, iRng, wSet, List.getElem?_cons_zero, List.getElem?_cons_succ, List.set_cons_zero, List.set_cons_succ, List.length_cons, List.length_nil, wAt_0, wAt_1, wAt_2, wAt_3, Nat.reduceAdd, ix30, ix31, ix32, up_at, Bool.false_eq_true, ↓reduceIte, decide_true, String.reduceBEq, Bool.and_false, Bool.false_and, Bool.or_false, Bool.false_or, true_and, beq_self_eq_true, Bool.true_or, Bool.or_true, Bool.not_true, Bool.not_false, Bool.false_xor, Bool.true_xor, wipeD, List.map_cons, List.map_nil, wTgs, CTs.len])
        refine ⟨by omega, fun r nr => ?_⟩
        have y6 := Ext.new (o := .lst []) nr
        refine wEq_prs (xs := []) (ys := []) (y6 _ _ eL2) up_at ?_
        rw [decide_eq_true rfl]
        exact q _ ((f.ext y6).mono (by omega))
  refine drawF f (by omega) (by omega) (by omega) fun d2 h2 a0 a1 f x2 => ?_
  (try simp only [e_var, wV_some, wG_some, e_non, e_bl, e_int, e_str, e_glb, e_bin, e_neg, e_no, e_and, e_or, e_cmp, e_chn, e_ife, e_tup, e_lst, e_dnew, e_idx, e_slc, e_call, e_blt, e_mtd, e_isi, e_dis, e_rev, wRev, e_mnd, e_lrg, wMnd, wLrg, e_comp, wEs, wO, wT, wI, wS, wTg, wTgs, CTs.len, asB_bl, wBin, wCmp, wAdd, wSubX, wI2, wMul, wEq, wLt, wCI, wIs, DL.isNon, wNeg, wIdx, wSlc, wB, wLen, seqOf, lstOf, wIsi, tyOf, isTy, wM, wML, tyD, Mtd.ty, iAny, isSeqL, isSeqT, iRng, wSet, List.getElem?_cons_zero, List.getElem?_cons_succ, List.set_cons_zero, List.set_cons_succ, List.length_cons, List.length_nil, wAt_0, wAt_1, wAt_2, wAt_3, Nat.reduceAdd, ix30, ix31, ix32, up_at, Bool.false_eq_true, ↓reduceIte, decide_true, String.reduceBEq, Bool.and_false, Bool.false_and, Bool.or_false, Bool.false_or, true_and, beq_self_eq_true, Bool.true_or, Bool.or_true, Bool.not_true, Bool.not_false, Bool.false_xor, Bool.true_xor, wipeD, List.map_cons, List.map_nil, wTgs, CTs.len])
  refine dec_ite (fun g => ?_) fun g => ?_
  · ((try simp only [e_var, wV_some, wG_some, e_non, e_bl, e_int, e_str, e_glb, e_bin, e_neg, e_no, e_and, e_or, e_cmp, e_chn, e_ife, e_tup, e_lst, e_dnew, e_idx, e_slc, e_call, e_blt, e_mtd, e_isi, e_dis, e_rev, wRev, e_mnd, e_lrg, wMnd, wLrg, e_comp, wEs, wO, wT, wI, wS, wTg, wTgs, CTs.len, asB_bl, wBin, wCmp, wAdd, wSubX, wI2, wMul, wEq, wLt, wCI, wIs, DL.isNon, wNeg, wIdx, wSlc, wB, wLen, seqOf, lstOf, wIsi, tyOf, isTy, wM, wML, tyD, Mtd.ty, iAny, isSeqL, isSeqT, iRng, wSet, List.getElem?_cons_zero, List.getElem?_cons_succ, List.set_cons_zero, List.set_cons_succ, List.length_cons, List.length_nil, wAt_0, wAt_1, wAt_2, wAt_3, Nat.reduceAdd, ix30, ix31, ix32, up_at, Bool.false_eq_true, ↓reduceIte, decide_true, String.reduceBEq, Bool.and_false, Bool.false_and, Bool.or_false, Bool.false_or, true_and, beq_self_eq_true, Bool.true_or, Bool.or_true, Bool.not_true, Bool.not_false, Bool.false_xor, Bool.true_xor, wipeD, List.map_cons, List.map_nil, wTgs, CTs.len]); rw [ss_cons]; simp only [e_var, wV_some, wG_some, e_non, e_bl, e_int, e_str, e_glb, e_bin, e_neg, e_no, e_and, e_or, e_cmp, e_chn, e_ife, e_tup, e_lst, e_dnew, e_idx, e_slc, e_call, e_blt, e_mtd, e_isi, e_dis, e_rev, wRev, e_mnd, e_lrg, wMnd, wLrg, e_comp, wEs, wO, wT, wI, wS, wTg, wTgs, CTs.len, asB_bl, wBin, wCmp, wAdd, wSubX, wI2, wMul, wEq, wLt, wCI, wIs, DL.isNon, wNeg, wIdx, wSlc, wB, wLen, seqOf, lstOf, wIsi, tyOf, isTy, wM, wML, tyD, Mtd.ty, iAny, isSeqL, isSeqT, iRng, wSet, List.getElem?_cons_zero, List.getElem?_cons_succ, List.set_cons_zero, List.set_cons_succ, List.length_cons, List.length_nil, wAt_0, wAt_1, wAt_2, wAt_3, Nat.reduceAdd, ix30, ix31, ix32, up_at, Bool.false_eq_true, ↓reduceIte, decide_true, String.reduceBEq, Bool.and_false, Bool.false_and, Bool.or_false, Bool.false_or, true_and, beq_self_eq_true, Bool.true_or, Bool.or_true, Bool.not_true, Bool.not_false, Bool.false_xor, Bool.true_xor, wipeD, List.map_cons, List.map_nil, wTgs, CTs.len])
    refine minute f (by omega) fun m h3 m0 m1 f x3 => ?_
    (try simp only [e_var, wV_some, wG_some, e_non, e_bl, e_int, e_str, e_glb, e_bin, e_neg, e_no, e_and, e_or, e_cmp, e_chn, e_ife, e_tup, e_lst, e_dnew, e_idx, e_slc, e_call, e_blt, e_mtd, e_isi, e_dis, e_rev, wRev, e_mnd, e_lrg, wMnd, wLrg, e_comp, wEs, wO, wT, wI, wS, wTg, wTgs, CTs.len, asB_bl, wBin, wCmp, wAdd, wSubX, wI2, wMul, wEq, wLt, wCI, wIs, DL.isNon, wNeg, wIdx, wSlc, wB, wLen, seqOf, lstOf, wIsi, tyOf, isTy, wM, wML, tyD, Mtd.ty, iAny, isSeqL, isSeqT, iRng, wSet, List.getElem?_cons_zero, List.getElem?_cons_succ, List.set_cons_zero, List.set_cons_succ, List.length_cons, List.length_nil, wAt_0, wAt_1, wAt_2, wAt_3, Nat.reduceAdd, ix30, ix31, ix32, up_at, Bool.false_eq_true, ↓reduceIte, decide_true, String.reduceBEq, Bool.and_false, Bool.false_and, Bool.or_false, Bool.false_or, true_and, beq_self_eq_true, Bool.true_or, Bool.or_true, Bool.not_true, Bool.not_false, Bool.false_xor, Bool.true_xor, wipeD, List.map_cons, List.map_nil, wTgs, CTs.len])
    refine ⟨by omega, ?_⟩
    ((try simp only [e_var, wV_some, wG_some, e_non, e_bl, e_int, e_str, e_glb, e_bin, e_neg, e_no, e_and, e_or, e_cmp, e_chn, e_ife, e_tup, e_lst, e_dnew, e_idx, e_slc, e_call, e_blt, e_mtd, e_isi, e_dis, e_rev, wRev, e_mnd, e_lrg, wMnd, wLrg, e_comp, wEs, wO, wT, wI, wS, wTg, wTgs, CTs.len, asB_bl, wBin, wCmp, wAdd, wSubX, wI2, wMul, wEq, wLt, wCI, wIs, DL.isNon, wNeg, wIdx, wSlc, wB, wLen, seqOf, lstOf, wIsi, tyOf, isTy, wM, wML, tyD, Mtd.ty, iAny, isSeqL, isSeqT, iRng, wSet, List.getElem?_cons_zero, List.getElem?_cons_succ, List.set_cons_zero, List.set_cons_succ, List.length_cons, List.length_nil, wAt_0, wAt_1, wAt_2, wAt_3, Nat.reduceAdd, ix30, ix31, ix32, up_at, Bool.false_eq_true, ↓reduceIte, decide_true, String.reduceBEq, Bool.and_false, Bool.false_and, Bool.or_false, Bool.false_or, true_and, beq_self_eq_true, Bool.true_or, Bool.or_true, Bool.not_true, Bool.not_false, Bool.false_xor, Bool.true_xor, wipeD, List.map_cons, List.map_nil, wTgs, CTs.len]); rw [ss_nil])
    exact rest _ h3 ⟨by omega, by omega⟩ (f.mono (by omega))
  · ((try simp only [e_var, wV_some, wG_some, e_non, e_bl, e_int, e_str, e_glb, e_bin, e_neg, e_no, e_and, e_or, e_cmp, e_chn, e_ife, e_tup, e_lst, e_dnew, e_idx, e_slc, e_call, e_blt, e_mtd, e_isi, e_dis, e_rev, wRev, e_mnd, e_lrg, wMnd, wLrg, e_comp, wEs, wO, wT, wI, wS, wTg, wTgs, CTs.len, asB_bl, wBin, wCmp, wAdd, wSubX, wI2, wMul, wEq, wLt, wCI, wIs, DL.isNon, wNeg, wIdx, wSlc, wB, wLen, seqOf, lstOf, wIsi, tyOf, isTy, wM, wML, tyD, Mtd.ty, iAny, isSeqL, isSeqT, iRng, wSet, List.getElem?_cons_zero, List.getElem?_cons_succ, List.set_cons_zero, List.set_cons_succ, List.length_cons, List.length_nil, wAt_0, wAt_1, wAt_2, wAt_3, Nat.reduceAdd, ix30, ix31, ix32, up_at, Bool.false_eq_true, ↓reduceIte, decide_true, String.reduceBEq, Bool.and_false, Bool.false_and, Bool.or_false, Bool.false_or, true_and, beq_self_eq_true, Bool.true_or, Bool.or_true, Bool.not_true, Bool.not_false, Bool.false_xor, Bool.true_xor, wipeD, List.map_cons, List.map_nil, wTgs, CTs.len]); rw [ss_nil])
    exact rest _ h2 ⟨by omega, by omega⟩ (f.mono (by omega))
end
end Qk04

namespace Qk04
open PySem DL L2
theorem law_true {n : Nat} {ns : List Int} : run gl ds (n + 5) 15 [.fl (ns.map .int)] (fun _ => none) (fun d _ => d = .bl true) fun _ _ => False := by
  refine e15 ?_
  ((try simp only [e_var, wV_some, wG_some, e_non, e_bl, e_int, e_str, e_glb, e_bin, e_neg, e_no, e_and, e_or, e_cmp, e_chn, e_ife, e_tup, e_lst, e_dnew, e_idx, e_slc, e_call, e_blt, e_mtd, e_isi, e_dis, e_rev, wRev, e_mnd, e_lrg, wMnd, wLrg, e_comp, wEs, wO, wT, wI, wS, wTg, wTgs, CTs.len, asB_bl, wBin, wCmp, wAdd, wSubX, wI2, wMul, wEq, wLt, wCI, wIs, DL.isNon, wNeg, wIdx, wSlc, wB, wLen, seqOf, lstOf, wIsi, tyOf, isTy, wM, wML, tyD, Mtd.ty, iAny, isSeqL, isSeqT, iRng, wSet, List.getElem?_cons_zero, List.getElem?_cons_succ, List.set_cons_zero, List.set_cons_succ, List.length_cons, List.length_nil, wAt_0, wAt_1, wAt_2, wAt_3, Nat.reduceAdd, ix30, ix31, ix32, up_at, Bool.false_eq_true, ↓reduceIte, decide_true, String.reduceBEq, Bool.and_false, Bool.false_and, Bool.or_false, Bool.false_or, true_and, beq_self_eq_true, Bool.true_or, Bool.or_true, Bool.not_true, Bool.not_false, Bool.false_xor, Bool.true_xor, wipeD, List.map_cons, List.map_nil, wTgs, CTs.len]); rw [ss_cons]; simp only [e_var, wV_some, wG_some, e_non, e_bl, e_int, e_str, e_glb, e_bin, e_neg, e_no, e_and, e_or, e_cmp, e_chn, e_ife, e_tup, e_lst, e_dnew, e_idx, e_slc, e_call, e_blt, e_mtd, e_isi, e_dis, e_rev, wRev, e_mnd, e_lrg, wMnd, wLrg, e_comp, wEs, wO, wT, wI, wS, wTg, wTgs, CTs.len, asB_bl, wBin, wCmp, wAdd, wSubX, wI2, wMul, wEq, wLt, wCI, wIs, DL.isNon, wNeg, wIdx, wSlc, wB, wLen, seqOf, lstOf, wIsi, tyOf, isTy, wM, wML, tyD, Mtd.ty, iAny, isSeqL, isSeqT, iRng, wSet, List.getElem?_cons_zero, List.getElem?_cons_succ, List.set_cons_zero, List.set_cons_succ, List.length_cons, List.length_nil, wAt_0, wAt_1, wAt_2, wAt_3, Nat.reduceAdd, ix30, ix31, ix32, up_at, Bool.false_eq_true, ↓reduceIte, decide_true, String.reduceBEq, Bool.and_false, Bool.false_and, Bool.or_false, Bool.false_or, true_and, beq_self_eq_true, Bool.true_or, Bool.or_true, Bool.not_true, Bool.not_false, Bool.false_xor, Bool.true_xor, wipeD, List.map_cons, List.map_nil, wTgs, CTs.len])
  refine feed fun P c h0 f0 ⟨xs, hp, hc, hl⟩ => ?_
  ((try simp only [e_var, wV_some, wG_some, e_non, e_bl, e_int, e_str, e_glb, e_bin, e_neg, e_no, e_and, e_or, e_cmp, e_chn, e_ife, e_tup, e_lst, e_dnew, e_idx, e_slc, e_call, e_blt, e_mtd, e_isi, e_dis, e_rev, wRev, e_mnd, e_lrg, wMnd, wLrg, e_comp, wEs, wO, wT, wI, wS, wTg, wTgs, CTs.len, asB_bl, wBin, wCmp, wAdd, wSubX, wI2, wMul, wEq, wLt, wCI, wIs, DL.isNon, wNeg, wIdx, wSlc, wB, wLen, seqOf, lstOf, wIsi, tyOf, isTy, wM, wML, tyD, Mtd.ty, iAny, isSeqL, isSeqT, iRng, wSet, List.getElem?_cons_zero, List.getElem?_cons_succ, List.set_cons_zero, List.set_cons_succ, List.length_cons, List.length_nil, wAt_0, wAt_1, wAt_2, wAt_3, Nat.reduceAdd, ix30, ix31, ix32, up_at, Bool.false_eq_true, ↓reduceIte, decide_true, String.reduceBEq, Bool.and_false, Bool.false_and, Bool.or_false, Bool.false_or, true_and, beq_self_eq_true, Bool.true_or, Bool.or_true, Bool.not_true, Bool.not_false, Bool.false_xor, Bool.true_xor, wipeD, List.map_cons, List.map_nil, wTgs, CTs.len]); rw [ss_cons]; simp only [e_var, wV_some, wG_some, e_non, e_bl, e_int, e_str, e_glb, e_bin, e_neg, e_no, e_and, e_or, e_cmp, e_chn, e_ife, e_tup, e_lst, e_dnew, e_idx, e_slc, e_call, e_blt, e_mtd, e_isi, e_dis, e_rev, wRev, e_mnd, e_lrg, wMnd, wLrg, e_comp, wEs, wO, wT, wI, wS, wTg, wTgs, CTs.len, asB_bl, wBin, wCmp, wAdd, wSubX, wI2, wMul, wEq, wLt, wCI, wIs, DL.isNon, wNeg, wIdx, wSlc, wB, wLen, seqOf, lstOf, wIsi, tyOf, isTy, wM, wML, tyD, Mtd.ty, iAny, isSeqL, isSeqT, iRng, wSet, List.getElem?_cons_zero, List.getElem?_cons_succ, List.set_cons_zero, List.set_cons_succ, List.length_cons, List.length_nil, wAt_0, wAt_1, wAt_2, wAt_3, Nat.reduceAdd, ix30, ix31, ix32, up_at, Bool.false_eq_true, ↓reduceIte, decide_true, String.reduceBEq, Bool.and_false, Bool.false_and, Bool.or_false, Bool.false_or, true_and, beq_self_eq_true, Bool.true_or, Bool.or_true, Bool.not_true, Bool.not_false, Bool.false_xor, Bool.true_xor, wipeD, List.map_cons, List.map_nil, wTgs, CTs.len, hp, hc])
  rw [iL_len, mn, mx]
  refine ⟨⟨by omega, by omega, by omega, by omega⟩, ?_⟩
  refine loop_rng (fun i s h => ∃ x2 x3 x4 x5 x6, s = [some (.fl (ns.map .int)), some (.ref P), x2, x3, x4, x5, x6] ∧ Fd P c (100 * i) h) ⟨_, _, _, _, _, rfl, by simpa using f0⟩ ?_ ?_
  · rintro i s h hi ⟨x2, x3, x4, x5, x6, rfl, f⟩
    have hi2 : i ≤ 4 := by omega
    ((try simp only [e_var, wV_some, wG_some, e_non, e_bl, e_int, e_str, e_glb, e_bin, e_neg, e_no, e_and, e_or, e_cmp, e_chn, e_ife, e_tup, e_lst, e_dnew, e_idx, e_slc, e_call, e_blt, e_mtd, e_isi, e_dis, e_rev, wRev, e_mnd, e_lrg, wMnd, wLrg, e_comp, wEs, wO, wT, wI, wS, wTg, wTgs, CTs.len, asB_bl, wBin, wCmp, wAdd, wSubX, wI2, wMul, wEq, wLt, wCI, wIs, DL.isNon, wNeg, wIdx, wSlc, wB, wLen, seqOf, lstOf, wIsi, tyOf, isTy, wM, wML, tyD, Mtd.ty, iAny, isSeqL, isSeqT, iRng, wSet, List.getElem?_cons_zero, List.getElem?_cons_succ, List.set_cons_zero, List.set_cons_succ, List.length_cons, List.length_nil, wAt_0, wAt_1, wAt_2, wAt_3, Nat.reduceAdd, ix30, ix31, ix32, up_at, Bool.false_eq_true, ↓reduceIte, decide_true, String.reduceBEq, Bool.and_false, Bool.false_and, Bool.or_false, Bool.false_or, true_and, beq_self_eq_true, Bool.true_or, Bool.or_true, Bool.not_true, Bool.not_false, Bool.false_xor, Bool.true_xor, wipeD, List.map_cons, List.map_nil, wTgs, CTs.len]); rw [ss_cons]; simp only [e_var, wV_some, wG_some, e_non, e_bl, e_int, e_str, e_glb, e_bin, e_neg, e_no, e_and, e_or, e_cmp, e_chn, e_ife, e_tup, e_lst, e_dnew, e_idx, e_slc, e_call, e_blt, e_mtd, e_isi, e_dis, e_rev, wRev, e_mnd, e_lrg, wMnd, wLrg, e_comp, wEs, wO, wT, wI, wS, wTg, wTgs, CTs.len, asB_bl, wBin, wCmp, wAdd, wSubX, wI2, wMul, wEq, wLt, wCI, wIs, DL.isNon, wNeg, wIdx, wSlc, wB, wLen, seqOf, lstOf, wIsi, tyOf, isTy, wM, wML, tyD, Mtd.ty, iAny, isSeqL, isSeqT, iRng, wSet, List.getElem?_cons_zero, List.getElem?_cons_succ, List.set_cons_zero, List.set_cons_succ, List.length_cons, List.length_nil, wAt_0, wAt_1, wAt_2, wAt_3, Nat.reduceAdd, ix30, ix31, ix32, up_at, Bool.false_eq_true, ↓reduceIte, decide_true, String.reduceBEq, Bool.and_false, Bool.false_and, Bool.or_false, Bool.false_or, true_and, beq_self_eq_true, Bool.true_or, Bool.or_true, Bool.not_true, Bool.not_false, Bool.false_xor, Bool.true_xor, wipeD, List.map_cons, List.map_nil, wTgs, CTs.len])
    refine ⟨by omega, fun r nr => ?_⟩
    refine pick (xs := [1, 3, 40, 5000]) f (by omega) (by simp) (by simp) nr rfl fun st h1 hm f x1 => ?_
    have sb : 0 < st ∧ st ≤ 5000 := by simp at hm; omega
    ((try simp only [e_var, wV_some, wG_some, e_non, e_bl, e_int, e_str, e_glb, e_bin, e_neg, e_no, e_and, e_or, e_cmp, e_chn, e_ife, e_tup, e_lst, e_dnew, e_idx, e_slc, e_call, e_blt, e_mtd, e_isi, e_dis, e_rev, wRev, e_mnd, e_lrg, wMnd, wLrg, e_comp, wEs, wO, wT, wI, wS, wTg, wTgs, CTs.len, asB_bl, wBin, wCmp, wAdd, wSubX, wI2, wMul, wEq, wLt, wCI, wIs, DL.isNon, wNeg, wIdx, wSlc, wB, wLen, seqOf, lstOf, wIsi, tyOf, isTy, wM, wML, tyD, Mtd.ty, iAny, isSeqL, isSeqT, iRng, wSet, List.getElem?_cons_zero, List.getElem?_cons_succ, List.set_cons_zero, List.set_cons_succ, List.length_cons, List.length_nil, wAt_0, wAt_1, wAt_2, wAt_3, Nat.reduceAdd, ix30, ix31, ix32, up_at, Bool.false_eq_true, ↓reduceIte, decide_true, String.reduceBEq, Bool.and_false, Bool.false_and, Bool.or_false, Bool.false_or, true_and, beq_self_eq_true, Bool.true_or, Bool.or_true, Bool.not_true, Bool.not_false, Bool.false_xor, Bool.true_xor, wipeD, List.map_cons, List.map_nil, wTgs, CTs.len]); rw [ss_cons]; simp only [e_var, wV_some, wG_some, e_non, e_bl, e_int, e_str, e_glb, e_bin, e_neg, e_no, e_and, e_or, e_cmp, e_chn, e_ife, e_tup, e_lst, e_dnew, e_idx, e_slc, e_call, e_blt, e_mtd, e_isi, e_dis, e_rev, wRev, e_mnd, e_lrg, wMnd, wLrg, e_comp, wEs, wO, wT, wI, wS, wTg, wTgs, CTs.len, asB_bl, wBin, wCmp, wAdd, wSubX, wI2, wMul, wEq, wLt, wCI, wIs, DL.isNon, wNeg, wIdx, wSlc, wB, wLen, seqOf, lstOf, wIsi, tyOf, isTy, wM, wML, tyD, Mtd.ty, iAny, isSeqL, isSeqT, iRng, wSet, List.getElem?_cons_zero, List.getElem?_cons_succ, List.set_cons_zero, List.set_cons_succ, List.length_cons, List.length_nil, wAt_0, wAt_1, wAt_2, wAt_3, Nat.reduceAdd, ix30, ix31, ix32, up_at, Bool.false_eq_true, ↓reduceIte, decide_true, String.reduceBEq, Bool.and_false, Bool.false_and, Bool.or_false, Bool.false_or, true_and, beq_self_eq_true, Bool.true_or, Bool.or_true, Bool.not_true, Bool.not_false, Bool.false_xor, Bool.true_xor, wipeD, List.map_cons, List.map_nil, wTgs, CTs.len])
    refine drawF f (by omega) (by omega) (by omega) fun b1 h2 a0 a1 f x2' => ?_
    (try simp only [e_var, wV_some, wG_some, e_non, e_bl, e_int, e_str, e_glb, e_bin, e_neg, e_no, e_and, e_or, e_cmp, e_chn, e_ife, e_tup, e_lst, e_dnew, e_idx, e_slc, e_call, e_blt, e_mtd, e_isi, e_dis, e_rev, wRev, e_mnd, e_lrg, wMnd, wLrg, e_comp, wEs, wO, wT, wI, wS, wTg, wTgs, CTs.len, asB_bl, wBin, wCmp, wAdd, wSubX, wI2, wMul, wEq, wLt, wCI, wIs, DL.isNon, wNeg, wIdx, wSlc, wB, wLen, seqOf, lstOf, wIsi, tyOf, isTy, wM, wML, tyD, Mtd.ty, iAny, isSeqL, isSeqT, iRng, wSet, List.getElem?_cons_zero, List.getElem?_cons_succ, List.set_cons_zero, List.set_cons_succ, List.length_cons, List.length_nil, wAt_0, wAt_1, wAt_2, wAt_3, Nat.reduceAdd, ix30, ix31, ix32, up_at, Bool.false_eq_true, ↓reduceIte, decide_true, String.reduceBEq, Bool.and_false, Bool.false_and, Bool.or_false, Bool.false_or, true_and, beq_self_eq_true, Bool.true_or, Bool.or_true, Bool.not_true, Bool.not_false, Bool.false_xor, Bool.true_xor, wipeD, List.map_cons, List.map_nil, wTgs, CTs.len])
    refine minute f (by omega) fun b2 h3 a2 a3 f x3' => ?_
    (try simp only [e_var, wV_some, wG_some, e_non, e_bl, e_int, e_str, e_glb, e_bin, e_neg, e_no, e_and, e_or, e_cmp, e_chn, e_ife, e_tup, e_lst, e_dnew, e_idx, e_slc, e_call, e_blt, e_mtd, e_isi, e_dis, e_rev, wRev, e_mnd, e_lrg, wMnd, wLrg, e_comp, wEs, wO, wT, wI, wS, wTg, wTgs, CTs.len, asB_bl, wBin, wCmp, wAdd, wSubX, wI2, wMul, wEq, wLt, wCI, wIs, DL.isNon, wNeg, wIdx, wSlc, wB, wLen, seqOf, lstOf, wIsi, tyOf, isTy, wM, wML, tyD, Mtd.ty, iAny, isSeqL, isSeqT, iRng, wSet, List.getElem?_cons_zero, List.getElem?_cons_succ, List.set_cons_zero, List.set_cons_succ, List.length_cons, List.length_nil, wAt_0, wAt_1, wAt_2, wAt_3, Nat.reduceAdd, ix30, ix31, ix32, up_at, Bool.false_eq_true, ↓reduceIte, decide_true, String.reduceBEq, Bool.and_false, Bool.false_and, Bool.or_false, Bool.false_or, true_and, beq_self_eq_true, Bool.true_or, Bool.or_true, Bool.not_true, Bool.not_false, Bool.false_xor, Bool.true_xor, wipeD, List.map_cons, List.map_nil, wTgs, CTs.len])
    refine ⟨by omega, ?_⟩
    refine drawF f (by omega) (by omega) (by omega) fun b3 h4 a4 a5 f x4' => ?_
    (try simp only [e_var, wV_some, wG_some, e_non, e_bl, e_int, e_str, e_glb, e_bin, e_neg, e_no, e_and, e_or, e_cmp, e_chn, e_ife, e_tup, e_lst, e_dnew, e_idx, e_slc, e_call, e_blt, e_mtd, e_isi, e_dis, e_rev, wRev, e_mnd, e_lrg, wMnd, wLrg, e_comp, wEs, wO, wT, wI, wS, wTg, wTgs, CTs.len, asB_bl, wBin, wCmp, wAdd, wSubX, wI2, wMul, wEq, wLt, wCI, wIs, DL.isNon, wNeg, wIdx, wSlc, wB, wLen, seqOf, lstOf, wIsi, tyOf, isTy, wM, wML, tyD, Mtd.ty, iAny, isSeqL, isSeqT, iRng, wSet, List.getElem?_cons_zero, List.getElem?_cons_succ, List.set_cons_zero, List.set_cons_succ, List.length_cons, List.length_nil, wAt_0, wAt_1, wAt_2, wAt_3, Nat.reduceAdd, ix30, ix31, ix32, up_at, Bool.false_eq_true, ↓reduceIte, decide_true, String.reduceBEq, Bool.and_false, Bool.false_and, Bool.or_false, Bool.false_or, true_and, beq_self_eq_true, Bool.true_or, Bool.or_true, Bool.not_true, Bool.not_false, Bool.false_xor, Bool.true_xor, wipeD, List.map_cons, List.map_nil, wTgs, CTs.len])
    refine ⟨by omega, fun r2 nr2 => ?_⟩
    have y2 := Ext.new (o := .lst (iL [b1, b2 % 999000000, 0 - b3])) nr2
    have e2 : up h4 r2 (.lst (iL [b1, b2 % 999000000, 0 - b3])) r2 = some (.lst (iL [b1, b2 % 999000000, 0 - b3])) := up_at
    have p2 := f.np nr2
    have f := f.ext y2
    rw [show [D.int b1, .int (b2 % 999000000), .int (0 - b3)] = iL [b1, b2 % 999000000, 0 - b3] from rfl]
    generalize up h4 r2 (.lst (iL [b1, b2 % 999000000, 0 - b3])) = h5 at *
    ((try simp only [e_var, wV_some, wG_some, e_non, e_bl, e_int, e_str, e_glb, e_bin, e_neg, e_no, e_and, e_or, e_cmp, e_chn, e_ife, e_tup, e_lst, e_dnew, e_idx, e_slc, e_call, e_blt, e_mtd, e_isi, e_dis, e_rev, wRev, e_mnd, e_lrg, wMnd, wLrg, e_comp, wEs, wO, wT, wI, wS, wTg, wTgs, CTs.len, asB_bl, wBin, wCmp, wAdd, wSubX, wI2, wMul, wEq, wLt, wCI, wIs, DL.isNon, wNeg, wIdx, wSlc, wB, wLen, seqOf, lstOf, wIsi, tyOf, isTy, wM, wML, tyD, Mtd.ty, iAny, isSeqL, isSeqT, iRng, wSet, List.getElem?_cons_zero, List.getElem?_cons_succ, List.set_cons_zero, List.set_cons_succ, List.length_cons, List.length_nil, wAt_0, wAt_1, wAt_2, wAt_3, Nat.reduceAdd, ix30, ix31, ix32, up_at, Bool.false_eq_true, ↓reduceIte, decide_true, String.reduceBEq, Bool.and_false, Bool.false_and, Bool.or_false, Bool.false_or, true_and, beq_self_eq_true, Bool.true_or, Bool.or_true, Bool.not_true, Bool.not_false, Bool.false_xor, Bool.true_xor, wipeD, List.map_cons, List.map_nil, wTgs, CTs.len]); rw [ss_cons]; simp only [e_var, wV_some, wG_some, e_non, e_bl, e_int, e_str, e_glb, e_bin, e_neg, e_no, e_and, e_or, e_cmp, e_chn, e_ife, e_tup, e_lst, e_dnew, e_idx, e_slc, e_call, e_blt, e_mtd, e_isi, e_dis, e_rev, wRev, e_mnd, e_lrg, wMnd, wLrg, e_comp, wEs, wO, wT, wI, wS, wTg, wTgs, CTs.len, asB_bl, wBin, wCmp, wAdd, wSubX, wI2, wMul, wEq, wLt, wCI, wIs, DL.isNon, wNeg, wIdx, wSlc, wB, wLen, seqOf, lstOf, wIsi, tyOf, isTy, wM, wML, tyD, Mtd.ty, iAny, isSeqL, isSeqT, iRng, wSet, List.getElem?_cons_zero, List.getElem?_cons_succ, List.set_cons_zero, List.set_cons_succ, List.length_cons, List.length_nil, wAt_0, wAt_1, wAt_2, wAt_3, Nat.reduceAdd, ix30, ix31, ix32, up_at, Bool.false_eq_true, ↓reduceIte, decide_true, String.reduceBEq, Bool.and_false, Bool.false_and, Bool.or_false, Bool.false_or, true_and, beq_self_eq_true, Bool.true_or, Bool.or_true, Bool.not_true, Bool.not_false, Bool.false_xor, Bool.true_xor, wipeD, List.map_cons, List.map_nil, wTgs, CTs.len])
    refine drawF f (by omega) (by omega) (by omega) fun d3 h6 a6 a7 f x6' => ?_
    have e2 := x6' _ _ p2 e2
    (try simp only [e_var, wV_some, wG_some, e_non, e_bl, e_int, e_str, e_glb, e_bin, e_neg, e_no, e_and, e_or, e_cmp, e_chn, e_ife, e_tup, e_lst, e_dnew, e_idx, e_slc, e_call, e_blt, e_mtd, e_isi, e_dis, e_rev, wRev, e_mnd, e_lrg, wMnd, wLrg, e_comp, wEs, wO, wT, wI, wS, wTg, wTgs, CTs.len, asB_bl, wBin, wCmp, wAdd, wSubX, wI2, wMul, wEq, wLt, wCI, wIs, DL.isNon, wNeg, wIdx, wSlc, wB, wLen, seqOf, lstOf, wIsi, tyOf, isTy, wM, wML, tyD, Mtd.ty, iAny, isSeqL, isSeqT, iRng, wSet, List.getElem?_cons_zero, List.getElem?_cons_succ, List.set_cons_zero, List.set_cons_succ, List.length_cons, List.length_nil, wAt_0, wAt_1, wAt_2, wAt_3, Nat.reduceAdd, ix30, ix31, ix32, up_at, Bool.false_eq_true, ↓reduceIte, decide_true, String.reduceBEq, Bool.and_false, Bool.false_and, Bool.or_false, Bool.false_or, true_and, beq_self_eq_true, Bool.true_or, Bool.or_true, Bool.not_true, Bool.not_false, Bool.false_xor, Bool.true_xor, wipeD, List.map_cons, List.map_nil, wTgs, CTs.len, e2])
    refine wAt_iL a6 (by simpa using a7) fun bg _ _ => ?_
    ((try simp only [e_var, wV_some, wG_some, e_non, e_bl, e_int, e_str, e_glb, e_bin, e_neg, e_no, e_and, e_or, e_cmp, e_chn, e_ife, e_tup, e_lst, e_dnew, e_idx, e_slc, e_call, e_blt, e_mtd, e_isi, e_dis, e_rev, wRev, e_mnd, e_lrg, wMnd, wLrg, e_comp, wEs, wO, wT, wI, wS, wTg, wTgs, CTs.len, asB_bl, wBin, wCmp, wAdd, wSubX, wI2, wMul, wEq, wLt, wCI, wIs, DL.isNon, wNeg, wIdx, wSlc, wB, wLen, seqOf, lstOf, wIsi, tyOf, isTy, wM, wML, tyD, Mtd.ty, iAny, isSeqL, isSeqT, iRng, wSet, List.getElem?_cons_zero, List.getElem?_cons_succ, List.set_cons_zero, List.set_cons_succ, List.length_cons, List.length_nil, wAt_0, wAt_1, wAt_2, wAt_3, Nat.reduceAdd, ix30, ix31, ix32, up_at, Bool.false_eq_true, ↓reduceIte, decide_true, String.reduceBEq, Bool.and_false, Bool.false_and, Bool.or_false, Bool.false_or, true_and, beq_self_eq_true, Bool.true_or, Bool.or_true, Bool.not_true, Bool.not_false, Bool.false_xor, Bool.true_xor, wipeD, List.map_cons, List.map_nil, wTgs, CTs.len]); rw [ss_cons]; simp only [e_var, wV_some, wG_some, e_non, e_bl, e_int, e_str, e_glb, e_bin, e_neg, e_no, e_and, e_or, e_cmp, e_chn, e_ife, e_tup, e_lst, e_dnew, e_idx, e_slc, e_call, e_blt, e_mtd, e_isi, e_dis, e_rev, wRev, e_mnd, e_lrg, wMnd, wLrg, e_comp, wEs, wO, wT, wI, wS, wTg, wTgs, CTs.len, asB_bl, wBin, wCmp, wAdd, wSubX, wI2, wMul, wEq, wLt, wCI, wIs, DL.isNon, wNeg, wIdx, wSlc, wB, wLen, seqOf, lstOf, wIsi, tyOf, isTy, wM, wML, tyD, Mtd.ty, iAny, isSeqL, isSeqT, iRng, wSet, List.getElem?_cons_zero, List.getElem?_cons_succ, List.set_cons_zero, List.set_cons_succ, List.length_cons, List.length_nil, wAt_0, wAt_1, wAt_2, wAt_3, Nat.reduceAdd, ix30, ix31, ix32, up_at, Bool.false_eq_true, ↓reduceIte, decide_true, String.reduceBEq, Bool.and_false, Bool.false_and, Bool.or_false, Bool.false_or, true_and, beq_self_eq_true, Bool.true_or, Bool.or_true, Bool.not_true, Bool.not_false, Bool.false_xor, Bool.true_xor, wipeD, List.map_cons, List.map_nil, wTgs, CTs.len])
    refine lotm f (by omega) sb fun a A h7 aP ac na x7 hA lA eA f => ?_
    ((try simp only [e_var, wV_some, wG_some, e_non, e_bl, e_int, e_str, e_glb, e_bin, e_neg, e_no, e_and, e_or, e_cmp, e_chn, e_ife, e_tup, e_lst, e_dnew, e_idx, e_slc, e_call, e_blt, e_mtd, e_isi, e_dis, e_rev, wRev, e_mnd, e_lrg, wMnd, wLrg, e_comp, wEs, wO, wT, wI, wS, wTg, wTgs, CTs.len, asB_bl, wBin, wCmp, wAdd, wSubX, wI2, wMul, wEq, wLt, wCI, wIs, DL.isNon, wNeg, wIdx, wSlc, wB, wLen, seqOf, lstOf, wIsi, tyOf, isTy, wM, wML, tyD, Mtd.ty, iAny, isSeqL, isSeqT, iRng, wSet, List.getElem?_cons_zero, List.getElem?_cons_succ, List.set_cons_zero, List.set_cons_succ, List.length_cons, List.length_nil, wAt_0, wAt_1, wAt_2, wAt_3, Nat.reduceAdd, ix30, ix31, ix32, up_at, Bool.false_eq_true, ↓reduceIte, decide_true, String.reduceBEq, Bool.and_false, Bool.false_and, Bool.or_false, Bool.false_or, true_and, beq_self_eq_true, Bool.true_or, Bool.or_true, Bool.not_true, Bool.not_false, Bool.false_xor, Bool.true_xor, wipeD, List.map_cons, List.map_nil, wTgs, CTs.len]); rw [ss_cons]; simp only [e_var, wV_some, wG_some, e_non, e_bl, e_int, e_str, e_glb, e_bin, e_neg, e_no, e_and, e_or, e_cmp, e_chn, e_ife, e_tup, e_lst, e_dnew, e_idx, e_slc, e_call, e_blt, e_mtd, e_isi, e_dis, e_rev, wRev, e_mnd, e_lrg, wMnd, wLrg, e_comp, wEs, wO, wT, wI, wS, wTg, wTgs, CTs.len, asB_bl, wBin, wCmp, wAdd, wSubX, wI2, wMul, wEq, wLt, wCI, wIs, DL.isNon, wNeg, wIdx, wSlc, wB, wLen, seqOf, lstOf, wIsi, tyOf, isTy, wM, wML, tyD, Mtd.ty, iAny, isSeqL, isSeqT, iRng, wSet, List.getElem?_cons_zero, List.getElem?_cons_succ, List.set_cons_zero, List.set_cons_succ, List.length_cons, List.length_nil, wAt_0, wAt_1, wAt_2, wAt_3, Nat.reduceAdd, ix30, ix31, ix32, up_at, Bool.false_eq_true, ↓reduceIte, decide_true, String.reduceBEq, Bool.and_false, Bool.false_and, Bool.or_false, Bool.false_or, true_and, beq_self_eq_true, Bool.true_or, Bool.or_true, Bool.not_true, Bool.not_false, Bool.false_xor, Bool.true_xor, wipeD, List.map_cons, List.map_nil, wTgs, CTs.len])
    refine ⟨.inl ⟨by omega, by omega⟩, ?_⟩
    refine drawF f (by omega) (by omega) (by omega) fun d4 h8 a8 a9 f x8 => ?_
    have eA := x8 _ _ aP eA
    (try simp only [e_var, wV_some, wG_some, e_non, e_bl, e_int, e_str, e_glb, e_bin, e_neg, e_no, e_and, e_or, e_cmp, e_chn, e_ife, e_tup, e_lst, e_dnew, e_idx, e_slc, e_call, e_blt, e_mtd, e_isi, e_dis, e_rev, wRev, e_mnd, e_lrg, wMnd, wLrg, e_comp, wEs, wO, wT, wI, wS, wTg, wTgs, CTs.len, asB_bl, wBin, wCmp, wAdd, wSubX, wI2, wMul, wEq, wLt, wCI, wIs, DL.isNon, wNeg, wIdx, wSlc, wB, wLen, seqOf, lstOf, wIsi, tyOf, isTy, wM, wML, tyD, Mtd.ty, iAny, isSeqL, isSeqT, iRng, wSet, List.getElem?_cons_zero, List.getElem?_cons_succ, List.set_cons_zero, List.set_cons_succ, List.length_cons, List.length_nil, wAt_0, wAt_1, wAt_2, wAt_3, Nat.reduceAdd, ix30, ix31, ix32, up_at, Bool.false_eq_true, ↓reduceIte, decide_true, String.reduceBEq, Bool.and_false, Bool.false_and, Bool.or_false, Bool.false_or, true_and, beq_self_eq_true, Bool.true_or, Bool.or_true, Bool.not_true, Bool.not_false, Bool.false_xor, Bool.true_xor, wipeD, List.map_cons, List.map_nil, wTgs, CTs.len])
    refine lotm f (by omega) sb fun b B' h9 bP bc nb x9 hB lB eB f => ?_
    have eA := x9 _ _ aP eA
    ((try simp only [e_var, wV_some, wG_some, e_non, e_bl, e_int, e_str, e_glb, e_bin, e_neg, e_no, e_and, e_or, e_cmp, e_chn, e_ife, e_tup, e_lst, e_dnew, e_idx, e_slc, e_call, e_blt, e_mtd, e_isi, e_dis, e_rev, wRev, e_mnd, e_lrg, wMnd, wLrg, e_comp, wEs, wO, wT, wI, wS, wTg, wTgs, CTs.len, asB_bl, wBin, wCmp, wAdd, wSubX, wI2, wMul, wEq, wLt, wCI, wIs, DL.isNon, wNeg, wIdx, wSlc, wB, wLen, seqOf, lstOf, wIsi, tyOf, isTy, wM, wML, tyD, Mtd.ty, iAny, isSeqL, isSeqT, iRng, wSet, List.getElem?_cons_zero, List.getElem?_cons_succ, List.set_cons_zero, List.set_cons_succ, List.length_cons, List.length_nil, wAt_0, wAt_1, wAt_2, wAt_3, Nat.reduceAdd, ix30, ix31, ix32, up_at, Bool.false_eq_true, ↓reduceIte, decide_true, String.reduceBEq, Bool.and_false, Bool.false_and, Bool.or_false, Bool.false_or, true_and, beq_self_eq_true, Bool.true_or, Bool.or_true, Bool.not_true, Bool.not_false, Bool.false_xor, Bool.true_xor, wipeD, List.map_cons, List.map_nil, wTgs, CTs.len]); rw [ss_cons]; simp only [e_var, wV_some, wG_some, e_non, e_bl, e_int, e_str, e_glb, e_bin, e_neg, e_no, e_and, e_or, e_cmp, e_chn, e_ife, e_tup, e_lst, e_dnew, e_idx, e_slc, e_call, e_blt, e_mtd, e_isi, e_dis, e_rev, wRev, e_mnd, e_lrg, wMnd, wLrg, e_comp, wEs, wO, wT, wI, wS, wTg, wTgs, CTs.len, asB_bl, wBin, wCmp, wAdd, wSubX, wI2, wMul, wEq, wLt, wCI, wIs, DL.isNon, wNeg, wIdx, wSlc, wB, wLen, seqOf, lstOf, wIsi, tyOf, isTy, wM, wML, tyD, Mtd.ty, iAny, isSeqL, isSeqT, iRng, wSet, List.getElem?_cons_zero, List.getElem?_cons_succ, List.set_cons_zero, List.set_cons_succ, List.length_cons, List.length_nil, wAt_0, wAt_1, wAt_2, wAt_3, Nat.reduceAdd, ix30, ix31, ix32, up_at, Bool.false_eq_true, ↓reduceIte, decide_true, String.reduceBEq, Bool.and_false, Bool.false_and, Bool.or_false, Bool.false_or, true_and, beq_self_eq_true, Bool.true_or, Bool.or_true, Bool.not_true, Bool.not_false, Bool.false_xor, Bool.true_xor, wipeD, List.map_cons, List.map_nil, wTgs, CTs.len])
    refine drawF f (by omega) (by omega) (by omega) fun d5 h10 a10 a11 f x10 => ?_
    have eA := x10 _ _ aP eA
    have eB := x10 _ _ bP eB
    have rest : ∀ (b : Addr) (B' : List IP) h10 , Lot B' → B'.length ≤ 8 → h10 a = some (.lst (pL A)) → h10 b = some (.lst (pL B')) → Fd P c (100 * i + 90) h10 → wSs gl (DL.run gl ds (n + 4)) (fun d _ => d = D.bl true) (fun _ _ _ => False) b15_9 [some (.fl (ns.map .int)), some (.ref P), some (.int (0 + (i : Int))), some (.int st), some (.int bg), some (.ref a), some (.ref b)] h10
        fun s h => ∃ x2 x3 x4 x5 x6, s = [some (.fl (ns.map .int)), some (.ref P), x2, x3, x4, x5, x6] ∧ Fd P c (100 * ((i + 1 : Nat) : Int)) h := by
      intro b B' h10 hB lB eA eB f
      ((try simp only [e_var, wV_some, wG_some, e_non, e_bl, e_int, e_str, e_glb, e_bin, e_neg, e_no, e_and, e_or, e_cmp, e_chn, e_ife, e_tup, e_lst, e_dnew, e_idx, e_slc, e_call, e_blt, e_mtd, e_isi, e_dis, e_rev, wRev, e_mnd, e_lrg, wMnd, wLrg, e_comp, wEs, wO, wT, wI, wS, wTg, wTgs, CTs.len, asB_bl, wBin, wCmp, wAdd, wSubX, wI2, wMul, wEq, wLt, wCI, wIs, DL.isNon, wNeg, wIdx, wSlc, wB, wLen, seqOf, lstOf, wIsi, tyOf, isTy, wM, wML, tyD, Mtd.ty, iAny, isSeqL, isSeqT, iRng, wSet, List.getElem?_cons_zero, List.getElem?_cons_succ, List.set_cons_zero, List.set_cons_succ, List.length_cons, List.length_nil, wAt_0, wAt_1, wAt_2, wAt_3, Nat.reduceAdd, ix30, ix31, ix32, up_at, Bool.false_eq_true, ↓reduceIte, decide_true, String.reduceBEq, Bool.and_false, Bool.false_and, Bool.or_false, Bool.false_or, true_and, beq_self_eq_true, Bool.true_or, Bool.or_true, Bool.not_true, Bool.not_false, Bool.false_xor, Bool.true_xor, wipeD, List.map_cons, List.map_nil, wTgs, CTs.len]); rw [ss_cons]; simp only [e_var, wV_some, wG_some, e_non, e_bl, e_int, e_str, e_glb, e_bin, e_neg, e_no, e_and, e_or, e_cmp, e_chn, e_ife, e_tup, e_lst, e_dnew, e_idx, e_slc, e_call, e_blt, e_mtd, e_isi, e_dis, e_rev, wRev, e_mnd, e_lrg, wMnd, wLrg, e_comp, wEs, wO, wT, wI, wS, wTg, wTgs, CTs.len, asB_bl, wBin, wCmp, wAdd, wSubX, wI2, wMul, wEq, wLt, wCI, wIs, DL.isNon, wNeg, wIdx, wSlc, wB, wLen, seqOf, lstOf, wIsi, tyOf, isTy, wM, wML, tyD, Mtd.ty, iAny, isSeqL, isSeqT, iRng, wSet, List.getElem?_cons_zero, List.getElem?_cons_succ, List.set_cons_zero, List.set_cons_succ, List.length_cons, List.length_nil, wAt_0, wAt_1, wAt_2, wAt_3, Nat.reduceAdd, ix30, ix31, ix32, up_at, Bool.false_eq_true, ↓reduceIte, decide_true, String.reduceBEq, Bool.and_false, Bool.false_and, Bool.or_false, Bool.false_or, true_and, beq_self_eq_true, Bool.true_or, Bool.or_true, Bool.not_true, Bool.not_false, Bool.false_xor, Bool.true_xor, wipeD, List.map_cons, List.map_nil, wTgs, CTs.len])
      refine right hA hB (by omega) (by omega) eA eB fun h11 x11 => ?_
      (try simp only [e_var, wV_some, wG_some, e_non, e_bl, e_int, e_str, e_glb, e_bin, e_neg, e_no, e_and, e_or, e_cmp, e_chn, e_ife, e_tup, e_lst, e_dnew, e_idx, e_slc, e_call, e_blt, e_mtd, e_isi, e_dis, e_rev, wRev, e_mnd, e_lrg, wMnd, wLrg, e_comp, wEs, wO, wT, wI, wS, wTg, wTgs, CTs.len, asB_bl, wBin, wCmp, wAdd, wSubX, wI2, wMul, wEq, wLt, wCI, wIs, DL.isNon, wNeg, wIdx, wSlc, wB, wLen, seqOf, lstOf, wIsi, tyOf, isTy, wM, wML, tyD, Mtd.ty, iAny, isSeqL, isSeqT, iRng, wSet, List.getElem?_cons_zero, List.getElem?_cons_succ, List.set_cons_zero, List.set_cons_succ, List.length_cons, List.length_nil, wAt_0, wAt_1, wAt_2, wAt_3, Nat.reduceAdd, ix30, ix31, ix32, up_at, Bool.false_eq_true, ↓reduceIte, decide_true, String.reduceBEq, Bool.and_false, Bool.false_and, Bool.or_false, Bool.false_or, true_and, beq_self_eq_true, Bool.true_or, Bool.or_true, Bool.not_true, Bool.not_false, Bool.false_xor, Bool.true_xor, wipeD, List.map_cons, List.map_nil, wTgs, CTs.len])
      refine right hB hA (by omega) (by omega) (x11 _ _ eB) (x11 _ _ eA) fun h12 x12 => ?_
      have x12 := x11.trans x12
      have eA := x12 _ _ eA
      have f := f.ext x12
      (try simp only [e_var, wV_some, wG_some, e_non, e_bl, e_int, e_str, e_glb, e_bin, e_neg, e_no, e_and, e_or, e_cmp, e_chn, e_ife, e_tup, e_lst, e_dnew, e_idx, e_slc, e_call, e_blt, e_mtd, e_isi, e_dis, e_rev, wRev, e_mnd, e_lrg, wMnd, wLrg, e_comp, wEs, wO, wT, wI, wS, wTg, wTgs, CTs.len, asB_bl, wBin, wCmp, wAdd, wSubX, wI2, wMul, wEq, wLt, wCI, wIs, DL.isNon, wNeg, wIdx, wSlc, wB, wLen, seqOf, lstOf, wIsi, tyOf, isTy, wM, wML, tyD, Mtd.ty, iAny, isSeqL, isSeqT, iRng, wSet, List.getElem?_cons_zero, List.getElem?_cons_succ, List.set_cons_zero, List.set_cons_succ, List.length_cons, List.length_nil, wAt_0, wAt_1, wAt_2, wAt_3, Nat.reduceAdd, ix30, ix31, ix32, up_at, Bool.false_eq_true, ↓reduceIte, decide_true, String.reduceBEq, Bool.and_false, Bool.false_and, Bool.or_false, Bool.false_or, true_and, beq_self_eq_true, Bool.true_or, Bool.or_true, Bool.not_true, Bool.not_false, Bool.false_xor, Bool.true_xor, wipeD, List.map_cons, List.map_nil, wTgs, CTs.len])
      ((try simp only [e_var, wV_some, wG_some, e_non, e_bl, e_int, e_str, e_glb, e_bin, e_neg, e_no, e_and, e_or, e_cmp, e_chn, e_ife, e_tup, e_lst, e_dnew, e_idx, e_slc, e_call, e_blt, e_mtd, e_isi, e_dis, e_rev, wRev, e_mnd, e_lrg, wMnd, wLrg, e_comp, wEs, wO, wT, wI, wS, wTg, wTgs, CTs.len, asB_bl, wBin, wCmp, wAdd, wSubX, wI2, wMul, wEq, wLt, wCI, wIs, DL.isNon, wNeg, wIdx, wSlc, wB, wLen, seqOf, lstOf, wIsi, tyOf, isTy, wM, wML, tyD, Mtd.ty, iAny, isSeqL, isSeqT, iRng, wSet, List.getElem?_cons_zero, List.getElem?_cons_succ, List.set_cons_zero, List.set_cons_succ, List.length_cons, List.length_nil, wAt_0, wAt_1, wAt_2, wAt_3, Nat.reduceAdd, ix30, ix31, ix32, up_at, Bool.false_eq_true, ↓reduceIte, decide_true, String.reduceBEq, Bool.and_false, Bool.false_and, Bool.or_false, Bool.false_or, true_and, beq_self_eq_true, Bool.true_or, Bool.or_true, Bool.not_true, Bool.not_false, Bool.false_xor, Bool.true_xor, wipeD, List.map_cons, List.map_nil, wTgs, CTs.len]); rw [ss_nil])
      ((try simp only [e_var, wV_some, wG_some, e_non, e_bl, e_int, e_str, e_glb, e_bin, e_neg, e_no, e_and, e_or, e_cmp, e_chn, e_ife, e_tup, e_lst, e_dnew, e_idx, e_slc, e_call, e_blt, e_mtd, e_isi, e_dis, e_rev, wRev, e_mnd, e_lrg, wMnd, wLrg, e_comp, wEs, wO, wT, wI, wS, wTg, wTgs, CTs.len, asB_bl, wBin, wCmp, wAdd, wSubX, wI2, wMul, wEq, wLt, wCI, wIs, DL.isNon, wNeg, wIdx, wSlc, wB, wLen, seqOf, lstOf, wIsi, tyOf, isTy, wM, wML, tyD, Mtd.ty, iAny, isSeqL, isSeqT, iRng, wSet, List.getElem?_cons_zero, List.getElem?_cons_succ, List.set_cons_zero, List.set_cons_succ, List.length_cons, List.length_nil, wAt_0, wAt_1, wAt_2, wAt_3, Nat.reduceAdd, ix30, ix31, ix32, up_at, Bool.false_eq_true, ↓reduceIte, decide_true, String.reduceBEq, Bool.and_false, Bool.false_and, Bool.or_false, Bool.false_or, true_and, beq_self_eq_true, Bool.true_or, Bool.or_true, Bool.not_true, Bool.not_false, Bool.false_xor, Bool.true_xor, wipeD, List.map_cons, List.map_nil, wTgs, CTs.len]); rw [ss_cons]; simp only [e_var, wV_some, wG_some, e_non, e_bl, e_int, e_str, e_glb, e_bin, e_neg, e_no, e_and, e_or, e_cmp, e_chn, e_ife, e_tup, e_lst, e_dnew, e_idx, e_slc, e_call, e_blt, e_mtd, e_isi, e_dis, e_rev, wRev, e_mnd, e_lrg, wMnd, wLrg, e_comp, wEs, wO, wT, wI, wS, wTg, wTgs, CTs.len, asB_bl, wBin, wCmp, wAdd, wSubX, wI2, wMul, wEq, wLt, wCI, wIs, DL.isNon, wNeg, wIdx, wSlc, wB, wLen, seqOf, lstOf, wIsi, tyOf, isTy, wM, wML, tyD, Mtd.ty, iAny, isSeqL, isSeqT, iRng, wSet, List.getElem?_cons_zero, List.getElem?_cons_succ, List.set_cons_zero, List.set_cons_succ, List.length_cons, List.length_nil, wAt_0, wAt_1, wAt_2, wAt_3, Nat.reduceAdd, ix30, ix31, ix32, up_at, Bool.false_eq_true, ↓reduceIte, decide_true, String.reduceBEq, Bool.and_false, Bool.false_and, Bool.or_false, Bool.false_or, true_and, beq_self_eq_true, Bool.true_or, Bool.or_true, Bool.not_true, Bool.not_false, Bool.false_xor, Bool.true_xor, wipeD, List.map_cons, List.map_nil, wTgs, CTs.len, eA])
      intro K nK
      have y3 := Ext.new (o := .lst (pL A)) nK
      have eK := up_at (h := h12) (p := K) (o := .lst (pL A))
      have eA := y3 _ _ eA
      have f := f.ext y3
      generalize up h12 K (.lst (pL A)) = h13 at *
      refine right hA hA (by omega) (by omega) eA eK fun h14 x14 => ?_
      have eA := x14 _ _ eA
      have f := f.ext x14
      (try simp only [e_var, wV_some, wG_some, e_non, e_bl, e_int, e_str, e_glb, e_bin, e_neg, e_no, e_and, e_or, e_cmp, e_chn, e_ife, e_tup, e_lst, e_dnew, e_idx, e_slc, e_call, e_blt, e_mtd, e_isi, e_dis, e_rev, wRev, e_mnd, e_lrg, wMnd, wLrg, e_comp, wEs, wO, wT, wI, wS, wTg, wTgs, CTs.len, asB_bl, wBin, wCmp, wAdd, wSubX, wI2, wMul, wEq, wLt, wCI, wIs, DL.isNon, wNeg, wIdx, wSlc, wB, wLen, seqOf, lstOf, wIsi, tyOf, isTy, wM, wML, tyD, Mtd.ty, iAny, isSeqL, isSeqT, iRng, wSet, List.getElem?_cons_zero, List.getElem?_cons_succ, List.set_cons_zero, List.set_cons_succ, List.length_cons, List.length_nil, wAt_0, wAt_1, wAt_2, wAt_3, Nat.reduceAdd, ix30, ix31, ix32, up_at, Bool.false_eq_true, ↓reduceIte, decide_true, String.reduceBEq, Bool.and_false, Bool.false_and, Bool.or_false, Bool.false_or, true_and, beq_self_eq_true, Bool.true_or, Bool.or_true, Bool.not_true, Bool.not_false, Bool.false_xor, Bool.true_xor, wipeD, List.map_cons, List.map_nil, wTgs, CTs.len])
      refine ⟨by omega, fun r5 n5 => ?_⟩
      have y5 := Ext.new (o := .lst (pL [])) n5
      have e5 : up h14 r5 (.lst (pL [])) r5 = some (.lst (pL [])) := up_at
      have eA := y5 _ _ eA
      have f := f.ext y5
      show run gl ds (n + 4) 11 _ (up h14 r5 (.lst (pL []))) _ _
      generalize up h14 r5 (.lst (pL [])) = h15 at *
      refine right hA lot0 (by omega) (by simp) eA e5 fun h16 x16 => ?_
      (try simp only [e_var, wV_some, wG_some, e_non, e_bl, e_int, e_str, e_glb, e_bin, e_neg, e_no, e_and, e_or, e_cmp, e_chn, e_ife, e_tup, e_lst, e_dnew, e_idx, e_slc, e_call, e_blt, e_mtd, e_isi, e_dis, e_rev, wRev, e_mnd, e_lrg, wMnd, wLrg, e_comp, wEs, wO, wT, wI, wS, wTg, wTgs, CTs.len, asB_bl, wBin, wCmp, wAdd, wSubX, wI2, wMul, wEq, wLt, wCI, wIs, DL.isNon, wNeg, wIdx, wSlc, wB, wLen, seqOf, lstOf, wIsi, tyOf, isTy, wM, wML, tyD, Mtd.ty, iAny, isSeqL, isSeqT, iRng, wSet, List.getElem?_cons_zero, List.getElem?_cons_succ, List.set_cons_zero, List.set_cons_succ, List.length_cons, List.length_nil, wAt_0, wAt_1, wAt_2, wAt_3, Nat.reduceAdd, ix30, ix31, ix32, up_at, Bool.false_eq_true, ↓reduceIte, decide_true, String.reduceBEq, Bool.and_false, Bool.false_and, Bool.or_false, Bool.false_or, true_and, beq_self_eq_true, Bool.true_or, Bool.or_true, Bool.not_true, Bool.not_false, Bool.false_xor, Bool.true_xor, wipeD, List.map_cons, List.map_nil, wTgs, CTs.len])
      ((try simp only [e_var, wV_some, wG_some, e_non, e_bl, e_int, e_str, e_glb, e_bin, e_neg, e_no, e_and, e_or, e_cmp, e_chn, e_ife, e_tup, e_lst, e_dnew, e_idx, e_slc, e_call, e_blt, e_mtd, e_isi, e_dis, e_rev, wRev, e_mnd, e_lrg, wMnd, wLrg, e_comp, wEs, wO, wT, wI, wS, wTg, wTgs, CTs.len, asB_bl, wBin, wCmp, wAdd, wSubX, wI2, wMul, wEq, wLt, wCI, wIs, DL.isNon, wNeg, wIdx, wSlc, wB, wLen, seqOf, lstOf, wIsi, tyOf, isTy, wM, wML, tyD, Mtd.ty, iAny, isSeqL, isSeqT, iRng, wSet, List.getElem?_cons_zero, List.getElem?_cons_succ, List.set_cons_zero, List.set_cons_succ, List.length_cons, List.length_nil, wAt_0, wAt_1, wAt_2, wAt_3, Nat.reduceAdd, ix30, ix31, ix32, up_at, Bool.false_eq_true, ↓reduceIte, decide_true, String.reduceBEq, Bool.and_false, Bool.false_and, Bool.or_false, Bool.false_or, true_and, beq_self_eq_true, Bool.true_or, Bool.or_true, Bool.not_true, Bool.not_false, Bool.false_xor, Bool.true_xor, wipeD, List.map_cons, List.map_nil, wTgs, CTs.len]); rw [ss_nil])
      ((try simp only [e_var, wV_some, wG_some, e_non, e_bl, e_int, e_str, e_glb, e_bin, e_neg, e_no, e_and, e_or, e_cmp, e_chn, e_ife, e_tup, e_lst, e_dnew, e_idx, e_slc, e_call, e_blt, e_mtd, e_isi, e_dis, e_rev, wRev, e_mnd, e_lrg, wMnd, wLrg, e_comp, wEs, wO, wT, wI, wS, wTg, wTgs, CTs.len, asB_bl, wBin, wCmp, wAdd, wSubX, wI2, wMul, wEq, wLt, wCI, wIs, DL.isNon, wNeg, wIdx, wSlc, wB, wLen, seqOf, lstOf, wIsi, tyOf, isTy, wM, wML, tyD, Mtd.ty, iAny, isSeqL, isSeqT, iRng, wSet, List.getElem?_cons_zero, List.getElem?_cons_succ, List.set_cons_zero, List.set_cons_succ, List.length_cons, List.length_nil, wAt_0, wAt_1, wAt_2, wAt_3, Nat.reduceAdd, ix30, ix31, ix32, up_at, Bool.false_eq_true, ↓reduceIte, decide_true, String.reduceBEq, Bool.and_false, Bool.false_and, Bool.or_false, Bool.false_or, true_and, beq_self_eq_true, Bool.true_or, Bool.or_true, Bool.not_true, Bool.not_false, Bool.false_xor, Bool.true_xor, wipeD, List.map_cons, List.map_nil, wTgs, CTs.len]); rw [ss_nil])
      exact ⟨_, _, _, _, _, rfl, (f.ext x16).mono (by omega)⟩
    (try simp only [e_var, wV_some, wG_some, e_non, e_bl, e_int, e_str, e_glb, e_bin, e_neg, e_no, e_and, e_or, e_cmp, e_chn, e_ife, e_tup, e_lst, e_dnew, e_idx, e_slc, e_call, e_blt, e_mtd, e_isi, e_dis, e_rev, wRev, e_mnd, e_lrg, wMnd, wLrg, e_comp, wEs, wO, wT, wI, wS, wTg, wTgs, CTs.len, asB_bl, wBin, wCmp, wAdd, wSubX, wI2, wMul, wEq, wLt, wCI, wIs, DL.isNon, wNeg, wIdx, wSlc, wB, wLen, seqOf, lstOf, wIsi, tyOf, isTy, wM, wML, tyD, Mtd.ty, iAny, isSeqL, isSeqT, iRng, wSet, List.getElem?_cons_zero, List.getElem?_cons_succ, List.set_cons_zero, List.set_cons_succ, List.length_cons, List.length_nil, wAt_0, wAt_1, wAt_2, wAt_3, Nat.reduceAdd, ix30, ix31, ix32, up_at, Bool.false_eq_true, ↓reduceIte, decide_true, String.reduceBEq, Bool.and_false, Bool.false_and, Bool.or_false, Bool.false_or, true_and, beq_self_eq_true, Bool.true_or, Bool.or_true, Bool.not_true, Bool.not_false, Bool.false_xor, Bool.true_xor, wipeD, List.map_cons, List.map_nil, wTgs, CTs.len])
    refine dec_ite (fun g => ?_) fun g => ?_
    · (try simp only [e_var, wV_some, wG_some, e_non, e_bl, e_int, e_str, e_glb, e_bin, e_neg, e_no, e_and, e_or, e_cmp, e_chn, e_ife, e_tup, e_lst, e_dnew, e_idx, e_slc, e_call, e_blt, e_mtd, e_isi, e_dis, e_rev, wRev, e_mnd, e_lrg, wMnd, wLrg, e_comp, wEs, wO, wT, wI, wS, wTg, wTgs, CTs.len, asB_bl, wBin, wCmp, wAdd, wSubX, wI2, wMul, wEq, wLt, wCI, wIs, DL.isNon, wNeg, wIdx, wSlc, wB, wLen, seqOf, lstOf, wIsi, tyOf, isTy, wM, wML, tyD, Mtd.ty, iAny, isSeqL, isSeqT, iRng, wSet, List.getElem?_cons_zero, List.getElem?_cons_succ, List.set_cons_zero, List.set_cons_succ, List.length_cons, List.length_nil, wAt_0, wAt_1, wAt_2, wAt_3, Nat.reduceAdd, ix30, ix31, ix32, up_at, Bool.false_eq_true, ↓reduceIte, decide_true, String.reduceBEq, Bool.and_false, Bool.false_and, Bool.or_false, Bool.false_or, true_and, beq_self_eq_true, Bool.true_or, Bool.or_true, Bool.not_true, Bool.not_false, Bool.false_xor, Bool.true_xor, wipeD, List.map_cons, List.map_nil, wTgs, CTs.len])
      refine ⟨by omega, fun r5 n5 => ?_⟩
      have y5 := Ext.new (o := .lst []) n5
      refine wEq_prs (xs := A) (ys := []) (y5 _ _ eA) up_at ?_
      have eA := y5 _ _ eA
      have eB := y5 _ _ eB
      have f := f.ext y5
      generalize up h10 r5 (.lst []) = h11 at *
      (try simp only [e_var, wV_some, wG_some, e_non, e_bl, e_int, e_str, e_glb, e_bin, e_neg, e_no, e_and, e_or, e_cmp, e_chn, e_ife, e_tup, e_lst, e_dnew, e_idx, e_slc, e_call, e_blt, e_mtd, e_isi, e_dis, e_rev, wRev, e_mnd, e_lrg, wMnd, wLrg, e_comp, wEs, wO, wT, wI, wS, wTg, wTgs, CTs.len, asB_bl, wBin, wCmp, wAdd, wSubX, wI2, wMul, wEq, wLt, wCI, wIs, DL.isNon, wNeg, wIdx, wSlc, wB, wLen, seqOf, lstOf, wIsi, tyOf, isTy, wM, wML, tyD, Mtd.ty, iAny, isSeqL, isSeqT, iRng, wSet, List.getElem?_cons_zero, List.getElem?_cons_succ, List.set_cons_zero, List.set_cons_succ, List.length_cons, List.length_nil, wAt_0, wAt_1, wAt_2, wAt_3, Nat.reduceAdd, ix30, ix31, ix32, up_at, Bool.false_eq_true, ↓reduceIte, decide_true, String.reduceBEq, Bool.and_false, Bool.false_and, Bool.or_false, Bool.false_or, true_and, beq_self_eq_true, Bool.true_or, Bool.or_true, Bool.not_true, Bool.not_false, Bool.false_xor, Bool.true_xor, wipeD, List.map_cons, List.map_nil, wTgs, CTs.len])
      refine ndec_ite (fun g1 => ?_) fun g1 => ?_
      · obtain ⟨l0, x, rfl⟩ := snoc g1
        have eA' := eA
        rw [pL_app] at eA'
        have eA' : h11 a = some (.lst (pL l0 ++ [.tup [.int x.1, .int x.2]])) := eA'
        ((try simp only [e_var, wV_some, wG_some, e_non, e_bl, e_int, e_str, e_glb, e_bin, e_neg, e_no, e_and, e_or, e_cmp, e_chn, e_ife, e_tup, e_lst, e_dnew, e_idx, e_slc, e_call, e_blt, e_mtd, e_isi, e_dis, e_rev, wRev, e_mnd, e_lrg, wMnd, wLrg, e_comp, wEs, wO, wT, wI, wS, wTg, wTgs, CTs.len, asB_bl, wBin, wCmp, wAdd, wSubX, wI2, wMul, wEq, wLt, wCI, wIs, DL.isNon, wNeg, wIdx, wSlc, wB, wLen, seqOf, lstOf, wIsi, tyOf, isTy, wM, wML, tyD, Mtd.ty, iAny, isSeqL, isSeqT, iRng, wSet, List.getElem?_cons_zero, List.getElem?_cons_succ, List.set_cons_zero, List.set_cons_succ, List.length_cons, List.length_nil, wAt_0, wAt_1, wAt_2, wAt_3, Nat.reduceAdd, ix30, ix31, ix32, up_at, Bool.false_eq_true, ↓reduceIte, decide_true, String.reduceBEq, Bool.and_false, Bool.false_and, Bool.or_false, Bool.false_or, true_and, beq_self_eq_true, Bool.true_or, Bool.or_true, Bool.not_true, Bool.not_false, Bool.false_xor, Bool.true_xor, wipeD, List.map_cons, List.map_nil, wTgs, CTs.len]); rw [ss_cons]; simp only [e_var, wV_some, wG_some, e_non, e_bl, e_int, e_str, e_glb, e_bin, e_neg, e_no, e_and, e_or, e_cmp, e_chn, e_ife, e_tup, e_lst, e_dnew, e_idx, e_slc, e_call, e_blt, e_mtd, e_isi, e_dis, e_rev, wRev, e_mnd, e_lrg, wMnd, wLrg, e_comp, wEs, wO, wT, wI, wS, wTg, wTgs, CTs.len, asB_bl, wBin, wCmp, wAdd, wSubX, wI2, wMul, wEq, wLt, wCI, wIs, DL.isNon, wNeg, wIdx, wSlc, wB, wLen, seqOf, lstOf, wIsi, tyOf, isTy, wM, wML, tyD, Mtd.ty, iAny, isSeqL, isSeqT, iRng, wSet, List.getElem?_cons_zero, List.getElem?_cons_succ, List.set_cons_zero, List.set_cons_succ, List.length_cons, List.length_nil, wAt_0, wAt_1, wAt_2, wAt_3, Nat.reduceAdd, ix30, ix31, ix32, up_at, Bool.false_eq_true, ↓reduceIte, decide_true, String.reduceBEq, Bool.and_false, Bool.false_and, Bool.or_false, Bool.false_or, true_and, beq_self_eq_true, Bool.true_or, Bool.or_true, Bool.not_true, Bool.not_false, Bool.false_xor, Bool.true_xor, wipeD, List.map_cons, List.map_nil, wTgs, CTs.len, eA', wAt_last])
        refine ⟨by omega, fun r6 n6 => ?_⟩
        ((try simp only [e_var, wV_some, wG_some, e_non, e_bl, e_int, e_str, e_glb, e_bin, e_neg, e_no, e_and, e_or, e_cmp, e_chn, e_ife, e_tup, e_lst, e_dnew, e_idx, e_slc, e_call, e_blt, e_mtd, e_isi, e_dis, e_rev, wRev, e_mnd, e_lrg, wMnd, wLrg, e_comp, wEs, wO, wT, wI, wS, wTg, wTgs, CTs.len, asB_bl, wBin, wCmp, wAdd, wSubX, wI2, wMul, wEq, wLt, wCI, wIs, DL.isNon, wNeg, wIdx, wSlc, wB, wLen, seqOf, lstOf, wIsi, tyOf, isTy, wM, wML, tyD, Mtd.ty, iAny, isSeqL, isSeqT, iRng, wSet, List.getElem?_cons_zero, List.getElem?_cons_succ, List.set_cons_zero, List.set_cons_succ, List.length_cons, List.length_nil, wAt_0, wAt_1, wAt_2, wAt_3, Nat.reduceAdd, ix30, ix31, ix32, up_at, Bool.false_eq_true, ↓reduceIte, decide_true, String.reduceBEq, Bool.and_false, Bool.false_and, Bool.or_false, Bool.false_or, true_and, beq_self_eq_true, Bool.true_or, Bool.or_true, Bool.not_true, Bool.not_false, Bool.false_xor, Bool.true_xor, wipeD, List.map_cons, List.map_nil, wTgs, CTs.len]); rw [ss_nil])
        have y6 := Ext.new (o := .lst (pL [x])) n6
        exact rest r6 [x] _ ⟨fun y hy => by rw [List.mem_singleton.mp hy]; exact hA.pos x (by simp), List.pairwise_singleton _ _⟩ (by simp) (y6 _ _ eA) up_at ((f.ext y6).mono (by omega))
      · ((try simp only [e_var, wV_some, wG_some, e_non, e_bl, e_int, e_str, e_glb, e_bin, e_neg, e_no, e_and, e_or, e_cmp, e_chn, e_ife, e_tup, e_lst, e_dnew, e_idx, e_slc, e_call, e_blt, e_mtd, e_isi, e_dis, e_rev, wRev, e_mnd, e_lrg, wMnd, wLrg, e_comp, wEs, wO, wT, wI, wS, wTg, wTgs, CTs.len, asB_bl, wBin, wCmp, wAdd, wSubX, wI2, wMul, wEq, wLt, wCI, wIs, DL.isNon, wNeg, wIdx, wSlc, wB, wLen, seqOf, lstOf, wIsi, tyOf, isTy, wM, wML, tyD, Mtd.ty, iAny, isSeqL, isSeqT, iRng, wSet, List.getElem?_cons_zero, List.getElem?_cons_succ, List.set_cons_zero, List.set_cons_succ, List.length_cons, List.length_nil, wAt_0, wAt_1, wAt_2, wAt_3, Nat.reduceAdd, ix30, ix31, ix32, up_at, Bool.false_eq_true, ↓reduceIte, decide_true, String.reduceBEq, Bool.and_false, Bool.false_and, Bool.or_false, Bool.false_or, true_and, beq_self_eq_true, Bool.true_or, Bool.or_true, Bool.not_true, Bool.not_false, Bool.false_xor, Bool.true_xor, wipeD, List.map_cons, List.map_nil, wTgs, CTs.len]); rw [ss_nil])
        exact rest b B' h11 hB (by omega) eA eB (f.mono (by omega))
    · ((try simp only [e_var, wV_some, wG_some, e_non, e_bl, e_int, e_str, e_glb, e_bin, e_neg, e_no, e_and, e_or, e_cmp, e_chn, e_ife, e_tup, e_lst, e_dnew, e_idx, e_slc, e_call, e_blt, e_mtd, e_isi, e_dis, e_rev, wRev, e_mnd, e_lrg, wMnd, wLrg, e_comp, wEs, wO, wT, wI, wS, wTg, wTgs, CTs.len, asB_bl, wBin, wCmp, wAdd, wSubX, wI2, wMul, wEq, wLt, wCI, wIs, DL.isNon, wNeg, wIdx, wSlc, wB, wLen, seqOf, lstOf, wIsi, tyOf, isTy, wM, wML, tyD, Mtd.ty, iAny, isSeqL, isSeqT, iRng, wSet, List.getElem?_cons_zero, List.getElem?_cons_succ, List.set_cons_zero, List.set_cons_succ, List.length_cons, List.length_nil, wAt_0, wAt_1, wAt_2, wAt_3, Nat.reduceAdd, ix30, ix31, ix32, up_at, Bool.false_eq_true, ↓reduceIte, decide_true, String.reduceBEq, Bool.and_false, Bool.false_and, Bool.or_false, Bool.false_or, true_and, beq_self_eq_true, Bool.true_or, Bool.or_true, Bool.not_true, Bool.not_false, Bool.false_xor, Bool.true_xor, wipeD, List.map_cons, List.map_nil, wTgs, CTs.len]); rw [ss_nil])
      exact rest b B' h10 hB (by omega) eA eB (f.mono (by omega))
  · rintro s h ⟨x2, x3, x4, x5, x6, rfl, f⟩
    ((try simp only [e_var, wV_some, wG_some, e_non, e_bl, e_int, e_str, e_glb, e_bin, e_neg, e_no, e_and, e_or, e_cmp, e_chn, e_ife, e_tup, e_lst, e_dnew, e_idx, e_slc, e_call, e_blt, e_mtd, e_isi, e_dis, e_rev, wRev, e_mnd, e_lrg, wMnd, wLrg, e_comp, wEs, wO, wT, wI, wS, wTg, wTgs, CTs.len, asB_bl, wBin, wCmp, wAdd, wSubX, wI2, wMul, wEq, wLt, wCI, wIs, DL.isNon, wNeg, wIdx, wSlc, wB, wLen, seqOf, lstOf, wIsi, tyOf, isTy, wM, wML, tyD, Mtd.ty, iAny, isSeqL, isSeqT, iRng, wSet, List.getElem?_cons_zero, List.getElem?_cons_succ, List.set_cons_zero, List.set_cons_succ, List.length_cons, List.length_nil, wAt_0, wAt_1, wAt_2, wAt_3, Nat.reduceAdd, ix30, ix31, ix32, up_at, Bool.false_eq_true, ↓reduceIte, decide_true, String.reduceBEq, Bool.and_false, Bool.false_and, Bool.or_false, Bool.false_or, true_and, beq_self_eq_true, Bool.true_or, Bool.or_true, Bool.not_true, Bool.not_false, Bool.false_xor, Bool.true_xor, wipeD, List.map_cons, List.map_nil, wTgs, CTs.len]); rw [ss_cons]; simp only [e_var, wV_some, wG_some, e_non, e_bl, e_int, e_str, e_glb, e_bin, e_neg, e_no, e_and, e_or, e_cmp, e_chn, e_ife, e_tup, e_lst, e_dnew, e_idx, e_slc, e_call, e_blt, e_mtd, e_isi, e_dis, e_rev, wRev, e_mnd, e_lrg, wMnd, wLrg, e_comp, wEs, wO, wT, wI, wS, wTg, wTgs, CTs.len, asB_bl, wBin, wCmp, wAdd, wSubX, wI2, wMul, wEq, wLt, wCI, wIs, DL.isNon, wNeg, wIdx, wSlc, wB, wLen, seqOf, lstOf, wIsi, tyOf, isTy, wM, wML, tyD, Mtd.ty, iAny, isSeqL, isSeqT, iRng, wSet, List.getElem?_cons_zero, List.getElem?_cons_succ, List.set_cons_zero, List.set_cons_succ, List.length_cons, List.length_nil, wAt_0, wAt_1, wAt_2, wAt_3, Nat.reduceAdd, ix30, ix31, ix32, up_at, Bool.false_eq_true, ↓reduceIte, decide_true, String.reduceBEq, Bool.and_false, Bool.false_and, Bool.or_false, Bool.false_or, true_and, beq_self_eq_true, Bool.true_or, Bool.or_true, Bool.not_true, Bool.not_false, Bool.false_xor, Bool.true_xor, wipeD, List.map_cons, List.map_nil, wTgs, CTs.len])
    refine crowdright f (by omega) fun h2 f2 => ?_
    (try simp only [e_var, wV_some, wG_some, e_non, e_bl, e_int, e_str, e_glb, e_bin, e_neg, e_no, e_and, e_or, e_cmp, e_chn, e_ife, e_tup, e_lst, e_dnew, e_idx, e_slc, e_call, e_blt, e_mtd, e_isi, e_dis, e_rev, wRev, e_mnd, e_lrg, wMnd, wLrg, e_comp, wEs, wO, wT, wI, wS, wTg, wTgs, CTs.len, asB_bl, wBin, wCmp, wAdd, wSubX, wI2, wMul, wEq, wLt, wCI, wIs, DL.isNon, wNeg, wIdx, wSlc, wB, wLen, seqOf, lstOf, wIsi, tyOf, isTy, wM, wML, tyD, Mtd.ty, iAny, isSeqL, isSeqT, iRng, wSet, List.getElem?_cons_zero, List.getElem?_cons_succ, List.set_cons_zero, List.set_cons_succ, List.length_cons, List.length_nil, wAt_0, wAt_1, wAt_2, wAt_3, Nat.reduceAdd, ix30, ix31, ix32, up_at, Bool.false_eq_true, ↓reduceIte, decide_true, String.reduceBEq, Bool.and_false, Bool.false_and, Bool.or_false, Bool.false_or, true_and, beq_self_eq_true, Bool.true_or, Bool.or_true, Bool.not_true, Bool.not_false, Bool.false_xor, Bool.true_xor, wipeD, List.map_cons, List.map_nil, wTgs, CTs.len])
    refine ⟨by omega, fun r nr => ?_⟩
    refine minin (A := []) up_at (by simp) fun h3 x3 => ?_
    (try simp only [e_var, wV_some, wG_some, e_non, e_bl, e_int, e_str, e_glb, e_bin, e_neg, e_no, e_and, e_or, e_cmp, e_chn, e_ife, e_tup, e_lst, e_dnew, e_idx, e_slc, e_call, e_blt, e_mtd, e_isi, e_dis, e_rev, wRev, e_mnd, e_lrg, wMnd, wLrg, e_comp, wEs, wO, wT, wI, wS, wTg, wTgs, CTs.len, asB_bl, wBin, wCmp, wAdd, wSubX, wI2, wMul, wEq, wLt, wCI, wIs, DL.isNon, wNeg, wIdx, wSlc, wB, wLen, seqOf, lstOf, wIsi, tyOf, isTy, wM, wML, tyD, Mtd.ty, iAny, isSeqL, isSeqT, iRng, wSet, List.getElem?_cons_zero, List.getElem?_cons_succ, List.set_cons_zero, List.set_cons_succ, List.length_cons, List.length_nil, wAt_0, wAt_1, wAt_2, wAt_3, Nat.reduceAdd, ix30, ix31, ix32, up_at, Bool.false_eq_true, ↓reduceIte, decide_true, String.reduceBEq, Bool.and_false, Bool.false_and, Bool.or_false, Bool.false_or, true_and, beq_self_eq_true, Bool.true_or, Bool.or_true, Bool.not_true, Bool.not_false, Bool.false_xor, Bool.true_xor, wipeD, List.map_cons, List.map_nil, wTgs, CTs.len])
    rfl
end Qk04

open PySem PySem.W PyProof.Rows
set_option maxHeartbeats 0 in
theorem PySem.Challenge.cw_hourcoin_k04_two_lots_holds : PySem.Challenge.rw_hourcoin_k04_two_lots.Holds := by
  w_on; o_law; x_head; (case hw => w_witness2)
  k_fill
  refine DL.law_end (l := PySem.Challenge.rw_hourcoin_k04_two_lots) (n := 63) (k := 6) (i := 15) (gl := Qk04.gl) (ds := Qk04.ds) (C := fun _ _ => 0) rfl (by decide) rfl ⟨rfl, by decide, by decide⟩ (fun w h Y => PySem.W.kIn_of Y) ?F (fun ns _ => Qk04.law_true)
  case F =>
    intro w mg fa h KX G hmg
    refine' Qk04.fd_all 5 KX G hmg ?SM ?qa0 ?ql0 ?qc0 ?qk0 ?qa1 ?ql1 ?qc1 ?qk1 ?qa2 ?ql2 ?qc2 ?qk2 ?qa3 ?ql3 ?qc3 ?qk3 ?qa4 ?ql4 ?qc4 ?qk4 ?qa5 ?ql5 ?qc5 ?qk5 ?qa6 ?ql6 ?qc6 ?qk6 ?qa7 ?ql7 ?qc7 ?qk7 ?qa8 ?ql8 ?qc8 ?qk8 ?qa9 ?ql9 ?qc9 ?qk9 ?qa10 ?ql10 ?qc10 ?qk10 ?qa11 ?ql11 ?qc11 ?qk11 ?qa12 ?ql12 ?qc12 ?qk12 ?qa13 ?ql13 ?qc13 ?qk13 ?qa14 ?ql14 ?qc14 ?qk14 ?qa15 ?ql15 ?qc15 ?qk15 ?Z0 ?Z1 ?Z2 ?Z3 ?Z4 ?Z5 ?Z6 ?Z7 ?Z8 ?Z9 ?Z10 ?Z11 ?Z12
    (case SM => first | (refine' DL.sm2 ?sz; (case sz => k_is)) | (refine' DL.sm3 ?sz; (case sz => first | k_is | rfl | decide +kernel)))
    (case qa0 => k_is)
    (case ql0 => k_is)
    (case qc0 => k_is)
    (case qk0 => k_is)
    (case qa1 => k_is)
    (case ql1 => k_is)
    (case qc1 => k_is)
    (case qk1 => k_is)
    (case qa2 => k_is)
    (case ql2 => k_is)
    (case qc2 => k_is)
    (case qk2 => k_is)
    (case qa3 => k_is)
    (case ql3 => k_is)
    (case qc3 => k_is)
    (case qk3 => k_is)
    (case qa4 => k_is)
    (case ql4 => k_is)
    (case qc4 => k_is)
    (case qk4 => k_is)
    (case qa5 => k_is)
    (case ql5 => k_is)
    (case qc5 => k_is)
    (case qk5 => k_is)
    (case qa6 => k_is)
    (case ql6 => k_is)
    (case qc6 => k_is)
    (case qk6 => k_is)
    (case qa7 => k_is)
    (case ql7 => k_is)
    (case qc7 => k_is)
    (case qk7 => k_is)
    (case qa8 => k_is)
    (case ql8 => k_is)
    (case qc8 => k_is)
    (case qk8 => k_is)
    (case qa9 => k_is)
    (case ql9 => k_is)
    (case qc9 => k_is)
    (case qk9 => k_is)
    (case qa10 => k_is)
    (case ql10 => k_is)
    (case qc10 => k_is)
    (case qk10 => k_is)
    (case qa11 => k_is)
    (case ql11 => k_is)
    (case qc11 => k_is)
    (case qk11 => k_is)
    (case qa12 => k_is)
    (case ql12 => k_is)
    (case qc12 => k_is)
    (case qk12 => k_is)
    (case qa13 => k_is)
    (case ql13 => k_is)
    (case qc13 => k_is)
    (case qk13 => k_is)
    (case qa14 => k_is)
    (case ql14 => k_is)
    (case qc14 => k_is)
    (case qk14 => k_is)
    (case qa15 => k_is)
    (case ql15 => k_is)
    (case qc15 => k_is)
    (case qk15 => k_is)
    (case Z0 => k_is)
    (case Z1 => k_is)
    (case Z2 => k_is)
    (case Z3 => k_is)
    (case Z4 => k_is)
    (case Z5 => k_is)
    (case Z6 => k_is)
    (case Z7 => k_is)
    (case Z8 => k_is)
    (case Z9 => k_is)
    (case Z10 => k_is)
    (case Z11 => k_is)
    (case Z12 => k_is)
