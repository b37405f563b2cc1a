import PyProof.Rows.All
import HandS.ForMost
import HandS.Exc
import HandS.TryOnly
import HandS.ExcOwn
import HandS.WordsExc
import HandS.Wide
import HandS.Deep
import PyProof.FactsAll.bool
import HandS.TupAny
import HandS.TupLe
import HandS.SortInts
import KE.SortData
import HandS.IsInst
import HandS.Style
import HandS.Dict
import HandS.Text
import KE.DataEq
import HandS.Small
import PyProof.AttrMissHeap
import HandS.More
import PyProof.ReprRoads
import KE.DataMinMax
import HandS.Conv
import KE.DataFind
import HandS.RaiseMore
import PyProof.MaxThree
import KE.DatumOrd
import HandS.SortKw
import HandS.SetFor
import HandS.TupSets
import HandS.Strs
import HandS.SetKeys
import HandS.Zip
import HandS.ExcInit
import KE.KExcIs
import KE.GoesZip
import KE.GoesMore
import KE.GoesEnum
import PyProof.EnumMake
import KE.KDictZip
import PyProof.TupleOfGen
import HandS.Words
import HandS.Codes
import PyProof.Rows.ReprOcc
import PySem.Challenge.RW_hourcoin_k58_books_written
set_option Elab.async false
set_option linter.all false
set_option maxRecDepth 100000
set_option maxHeartbeats 4000000
/-! DL, part A: deep values (tuples as values), the heap of lists, what they stand for -/
namespace DL
open PySem PySem.Spec PyProof.Rows L2

/-- values; fl, dk, dt, ob: what is no more written (a list, a dict, an instance); fn: a def -/
inductive D where
  | non | bl (b : Bool) | int (i : Int) | str (x : Str) | ref (a : Addr) | tup (xs : List D) | kt (z : Bool) (xs : List D) | fl (xs : List D)
  | dk (kvs : List (Key × D)) | dt (kvs : List (List Key × D)) | ob (c : Str) (fs : List (Str × D)) | fn (x : Str)
  /-- a caught exception -/
  | ex (c : Str) (fs : List (Str × D))

inductive DO where
  | lst (xs : List D)
  | dK (kvs : List (Key × D))
  | dT (kvs : List (List Key × D))
  | ins (c : Str) (fs : List (Str × D))

abbrev DH := Addr → Option DO
def up (h : DH) (a : Addr) (o : DO) : DH := fun b => if b = a then some o else h b
theorem up_same {h : DH} {a : Addr} {o : DO} : up h a o a = some o := by unfold up; rw [if_pos rfl]
theorem up_ne {h : DH} {a b : Addr} {o : DO} (n : b ≠ a) : up h a o b = h b := by unfold up; rw [if_neg n]
theorem up_up {h : DH} {a : Addr} {o u : DO} : up (up h a o) a u = up h a u := by
  funext b; unfold up; split <;> rfl

abbrev DSt := List (Option D)

/-- an object known whole, without a dict of its own -/
def NoD (H : Hp) (a : Addr) : Prop := ∃ (o : Obj) (u : HO), H a = some (.frz o u) ∧ o.dict = none
/-- a frozen list -/
def FL (K : PySem.W.Frag) (H : Hp) (a : Addr) (xs : List V) : Prop :=
  (∃ o, H a = some (.frz o (.lst xs))) ∨
    ∃ (its : Array Value) (n : Nat), K.lookup a = some { cls := .type "list", data := .seq its n } ∧ its.size ≤ sizeLine ∧ Vals xs its.toList
theorem FL.seq {K : PySem.W.Frag} {H : Hp} {a : Addr} {xs : List V} (h : FL K H a xs) : SqL K H a xs := by
  rcases h with ⟨o, h⟩ | h
  · exact .inl (.inr ⟨o, h⟩)
  · obtain ⟨its, n, h1, h2, h3⟩ := h
    exact .inr ⟨_, its, n, h1, rfl, rfl, rfl, h2, h3⟩

/-- sys.modules is a dict of the written part -/
def SM (K : PySem.W.Frag) : Prop := ∃ u : Obj, K.lookup sysModules = some u ∧ u.cls = .type "dict"
/-- the class of a name -/
def CL (K : PySem.W.Frag) (c : Str) (C : Addr) : Prop := PySem.W.nsIn K mainGlobals c = some (some (.ref C))
/-- a caught exception's object: its class, its dict -/
def exU : HO := .ext fun _ => True
def ExV (oe : Obj) (C : Addr) (d : Option Addr) : Prop := oe.cls = .ref C ∧ oe.dict = d ∧ ∃ vs, oe.data = .fields vs
def ExD (H : Hp) (d : Option Addr) (gs : List (Str × V)) : Prop := match d with
  | none => gs = []
  | some dx => H dx = some (.xd gs)
mutual
inductive RD (K : PySem.W.Frag) (H : Hp) : V → D → Prop
  | non : RD K H .non .non
  | bl (b : Bool) : RD K H (.bl b) (.bl b)
  | int (i : Int) : RD K H (.int i) (.int i)
  | str (x : Str) : RD K H (.str x) (.str x)
  | ref (a : Addr) : RD K H (.ref a) (.ref a)
  | tup {a : Addr} {vs : List V} {ds : List D} : H a = some (.tup vs) → RDs K H vs ds → RD K H (.ref a) (.tup ds)
  | kt {z : Bool} {a : Addr} {vs : List V} {ds : List D} : SqT K H a vs → (z = true → NoD H a) → RDs K H vs ds → RD K H (.ref a) (.kt z ds)
  | fl {a : Addr} {vs : List V} {ds : List D} : FL K H a vs → RDs K H vs ds → RD K H (.ref a) (.fl ds)
  | dk {a : Addr} {o : Obj} {gs : List (Key × V)} {fs : List (Key × D)} : H a = some (.frz o (.dK gs)) → RDp K H Key gs fs → RD K H (.ref a) (.dk fs)
  | dt {a : Addr} {o : Obj} {gs : List (List Key × V)} {fs : List (List Key × D)} : H a = some (.frz o (.dT gs)) → RDp K H (List Key) gs fs → RD K H (.ref a) (.dt fs)
  | ob {a C dx : Addr} {o : Obj} {c : Str} {gs : List (Str × V)} {fs : List (Str × D)} : CL K c C → H a = some (.frz o (.ins C dx gs)) → RDp K H Str gs fs → RD K H (.ref a) (.ob c fs)
  | fn {a : Addr} {x : Str} : PySem.W.nsIn K mainGlobals x = some (some (.ref a)) → RD K H (.ref a) (.fn x)
  | ex {a C : Addr} {d : Option Addr} {oe : Obj} {c : Str} {gs : List (Str × V)} {fs : List (Str × D)} : CL K c C → H a = some (.frz oe exU) → ExV oe C d → ExD H d gs → RDp K H Str gs fs → RD K H (.ref a) (.ex c fs)
inductive RDs (K : PySem.W.Frag) (H : Hp) : List V → List D → Prop
  | nil : RDs K H [] []
  | cons {v : V} {vs : List V} {d : D} {ds : List D} : RD K H v d → RDs K H vs ds → RDs K H (v :: vs) (d :: ds)
inductive RDp (K : PySem.W.Frag) (H : Hp) : (κ : Type) → List (κ × V) → List (κ × D) → Prop
  | nil {κ : Type} : RDp K H κ [] []
  | cons {κ : Type} {k : κ} {v : V} {gs : List (κ × V)} {d : D} {fs : List (κ × D)} : RD K H v d → RDp K H κ gs fs → RDp K H κ ((k, v) :: gs) ((k, d) :: fs)
end

/-- what a step keeps: tuples and what is frozen -/
structure Le (H H' : Hp) : Prop where
  t : ∀ a xs, H a = some (.tup xs) → H' a = some (.tup xs)
  f : ∀ a o u, H a = some (.frz o u) → H' a = some (.frz o u)
  x : ∀ a fs, H a = some (.xd fs) → H' a = some (.xd fs)
theorem Le.refl {H : Hp} : Le H H := ⟨fun _ _ h => h, fun _ _ _ h => h, fun _ _ h => h⟩
theorem Le.trans {H H1 H2 : Hp} (a : Le H H1) (b : Le H1 H2) : Le H H2 := ⟨fun x y h => b.t x y (a.t x y h), fun x y z h => b.f x y z (a.f x y z h), fun x y h => b.x x y (a.x x y h)⟩
theorem Le.new {H : Hp} {p : Addr} {o : HO} (n : H p = none) : Le H (upd H p o) :=
  ⟨fun a xs h => by rw [upd_ne (ne_of_none h n)]; exact h, fun a u xs h => by rw [upd_ne (ne_of_none h n)]; exact h, fun a xs h => by rw [upd_ne (ne_of_none h n)]; exact h⟩
theorem Le.mut {H : Hp} {p : Addr} {o : HO} (m : Mut (H p)) : Le H (upd H p o) :=
  ⟨fun a xs h => by
    have e : a ≠ p := fun z => by subst z; rw [h] at m; exact m
    rw [upd_ne e]; exact h, fun a u xs h => by
    have e : a ≠ p := fun z => by subst z; rw [h] at m; exact m
    rw [upd_ne e]; exact h, fun a xs h => by
    have e : a ≠ p := fun z => by subst z; rw [h] at m; exact m
    rw [upd_ne e]; exact h⟩
theorem ExD.le {H H' : Hp} (l : Le H H') {d : Option Addr} {gs : List (Str × V)} (h : ExD H d gs) : ExD H' d gs := by
  cases d with
  | none => exact h
  | some dx => exact l.x _ _ h
theorem Le.sqT {K : PySem.W.Frag} {H H' : Hp} (l : Le H H') {a : Addr} {xs : List V} (h : SqT K H a xs) : SqT K H' a xs := by
  rcases h with (h | ⟨o, h⟩) | h
  · exact .inl (.inl (l.t _ _ h))
  · exact .inl (.inr ⟨o, l.f _ _ _ h⟩)
  · exact .inr h
theorem Le.fl {K : PySem.W.Frag} {H H' : Hp} (l : Le H H') {a : Addr} {xs : List V} (h : FL K H a xs) : FL K H' a xs := by
  rcases h with ⟨o, h⟩ | h
  · exact .inl ⟨o, l.f _ _ _ h⟩
  · exact .inr h
theorem NoD.le {H H' : Hp} (l : Le H H') {a : Addr} : NoD H a → NoD H' a := fun ⟨o, u, h, e⟩ => ⟨o, u, l.f _ _ _ h, e⟩
mutual
theorem RD.le {K : PySem.W.Frag} {H H' : Hp} (l : Le H H') : ∀ {d : D} {v : V}, RD K H v d → RD K H' v d
  | .non, _, .non => .non
  | .bl _, _, .bl b => .bl b
  | .int _, _, .int b => .int b
  | .str _, _, .str b => .str b
  | .ref _, _, .ref b => .ref b
  | .tup _, _, .tup s r => .tup (l.t _ _ s) (RDs.le l r)
  | .kt _ _, _, .kt s n r => .kt (l.sqT s) (fun z => (n z).le l) (RDs.le l r)
  | .fl _, _, .fl s r => .fl (l.fl s) (RDs.le l r)
  | .dk _, _, .dk s r => .dk (l.f _ _ _ s) (RDp.le l r)
  | .dt _, _, .dt s r => .dt (l.f _ _ _ s) (RDp.le l r)
  | .ob _ _, _, .ob c s r => .ob c (l.f _ _ _ s) (RDp.le l r)
  | .fn _, _, .fn s => .fn s
  | .ex _ _, _, .ex c s e d r => .ex c (l.f _ _ _ s) e (d.le l) (RDp.le l r)
theorem RDs.le {K : PySem.W.Frag} {H H' : Hp} (l : Le H H') : ∀ {ds : List D} {vs : List V}, RDs K H vs ds → RDs K H' vs ds
  | [], _, .nil => .nil
  | _ :: _, _, .cons a b => .cons (RD.le l a) (RDs.le l b)
theorem RDp.le {K : PySem.W.Frag} {H H' : Hp} (l : Le H H') : ∀ {κ : Type} {fs : List (κ × D)} {gs : List (κ × V)}, RDp K H κ gs fs → RDp K H' κ gs fs
  | _, [], _, .nil => .nil
  | _, _ :: _, _, .cons a b => .cons (RD.le l a) (RDp.le l b)
end
section
variable {K : PySem.W.Frag} {H H' : Hp}
theorem RDs.length : ∀ {vs : List V} {ds : List D}, RDs K H vs ds → vs.length = ds.length
  | _, _, .nil => rfl
  | _, _, .cons _ b => congrArg (· + 1) b.length
theorem RDs.get : ∀ {vs : List V} {ds : List D} {i : Nat} {d : D}, RDs K H vs ds → ds[i]? = some d → ∃ v, vs[i]? = some v ∧ RD K H v d
  | _, _, _, _, .nil, h => by simp at h
  | _, _, 0, _, .cons a _, h => by simp at h; subst h; exact ⟨_, rfl, a⟩
  | _, _, i + 1, _, .cons _ b, h => by
    obtain ⟨v, h1, h2⟩ := RDs.get (i := i) b (by simpa using h)
    exact ⟨v, by simpa using h1, h2⟩
theorem RDs.getV : ∀ {vs : List V} {ds : List D} {i : Nat} {v : V}, RDs K H vs ds → vs[i]? = some v → ∃ d, ds[i]? = some d ∧ RD K H v d
  | _, _, _, _, .nil, h => by simp at h
  | _, _, 0, _, .cons a _, h => by simp at h; subst h; exact ⟨_, rfl, a⟩
  | _, _, i + 1, _, .cons _ b, h => by
    obtain ⟨v, h1, h2⟩ := RDs.getV (i := i) b (by simpa using h)
    exact ⟨v, by simpa using h1, h2⟩
theorem RDs.append : ∀ {vs ws : List V} {ds es : List D}, RDs K H vs ds → RDs K H ws es → RDs K H (vs ++ ws) (ds ++ es)
  | _, _, _, _, .nil, h => h
  | _, _, _, _, .cons a b, h => .cons a (b.append h)
theorem RDs.take : ∀ {vs : List V} {ds : List D} (n : Nat), RDs K H vs ds → RDs K H (vs.take n) (ds.take n)
  | _, _, 0, _ => .nil
  | _, _, _ + 1, .nil => .nil
  | _, _, n + 1, .cons a b => .cons a (b.take n)
theorem RDs.drop : ∀ {vs : List V} {ds : List D} (n : Nat), RDs K H vs ds → RDs K H (vs.drop n) (ds.drop n)
  | _, _, 0, h => h
  | _, _, _ + 1, .nil => .nil
  | _, _, n + 1, .cons _ b => b.drop n
theorem RDs.set {v : V} {d : D} (r : RD K H v d) : ∀ {vs : List V} {ds : List D} (n : Nat), RDs K H vs ds → RDs K H (vs.set n v) (ds.set n d)
  | _, _, _, .nil => .nil
  | _, _, 0, .cons _ b => .cons r b
  | _, _, n + 1, .cons a b => .cons a (b.set r n)
theorem RDs.reverse {vs : List V} {ds : List D} (h : RDs K H vs ds) : RDs K H vs.reverse ds.reverse := by
  induction vs generalizing ds with
  | nil => cases h; exact .nil
  | cons v vs ih =>
    cases h with
    | cons a b =>
      rw [List.reverse_cons, List.reverse_cons]
      exact (ih b).append (.cons a .nil)
theorem RDs.one {vs : List V} {d : D} (h : RDs K H vs [d]) : ∃ v, vs = [v] ∧ RD K H v d := by
  cases h with
  | cons a b => cases b; exact ⟨_, rfl, a⟩
theorem RDs.two {vs : List V} {d e : D} (h : RDs K H vs [d, e]) : ∃ v w, vs = [v, w] ∧ RD K H v d ∧ RD K H w e := by
  cases h with
  | cons a b =>
    obtain ⟨w, rfl, c⟩ := b.one
    exact ⟨_, _, rfl, a, c⟩
theorem RDs.nil_iff {vs : List V} {ds : List D} (h : RDs K H vs ds) : vs = [] ↔ ds = [] := by
  cases h <;> simp
end

/-- the classes' addresses -/
abbrev CA := Nat → Addr

/-- pairs with the same keys, the values related -/
def RPs {κ : Type} (K : PySem.W.Frag) (H : Hp) : List (κ × V) → List (κ × D) → Prop := Paired fun p q => p.1 = q.1 ∧ RD K H p.2 q.2
abbrev RFs (K : PySem.W.Frag) (H : Hp) : List (Str × V) → List (Str × D) → Prop := RPs K H
def RO (K : PySem.W.Frag) (C : CA) (H : Hp) (a : Addr) : DO → Prop
  | .lst ds => ∃ vs, H a = some (.lst vs) ∧ RDs K H vs ds
  | .dK kvs => ∃ gs, H a = some (.dK gs) ∧ RPs K H gs kvs
  | .dT kvs => ∃ gs, H a = some (.dT gs) ∧ RPs K H gs kvs
  | .ins c fs => ∃ Ca dx gs, H a = some (.ins Ca dx gs) ∧ RFs K H gs fs ∧ CL K c Ca
/-- the heaps -/
def RH (K : PySem.W.Frag) (C : CA) (H : Hp) (h : DH) : Prop := ∀ a o, h a = some o → RO K C H a o
/-- the slots -/
def RS (K : PySem.W.Frag) (H : Hp) (σ : L2.St) (s : DSt) : Prop := σ.length = s.length ∧ ∀ (i : Nat) (d : D), s[i]? = some (some d) → ∃ v, σ[i]? = some (some v) ∧ RD K H v d

section
variable {K : PySem.W.Frag} {C : CA} {H H' : Hp} {h h' : DH} {σ : L2.St} {s : DSt} {a p : Addr} {o : DO}
theorem RPs.le {κ : Type} (l : Le H H') {gs : List (κ × V)} {fs : List (κ × D)} (r : RPs K H gs fs) : RPs K H' gs fs := Paired.mapP r fun _ _ z => ⟨z.1, z.2.le l⟩
theorem RO.le (l : Le H H') (r : RO K C H a o) (e : H' a = H a) : RO K C H' a o := by
  cases o with
  | lst ds => obtain ⟨vs, h1, h2⟩ := r; exact ⟨vs, e.trans h1, h2.le l⟩
  | dK ds => obtain ⟨vs, h1, h2⟩ := r; exact ⟨vs, e.trans h1, h2.le l⟩
  | dT ds => obtain ⟨vs, h1, h2⟩ := r; exact ⟨vs, e.trans h1, h2.le l⟩
  | ins c fs => obtain ⟨Ca, dx, gs, h1, h2, h3⟩ := r; exact ⟨Ca, dx, gs, e.trans h1, h2.le l, h3⟩
theorem RO.there (r : RO K C H a o) : ∃ u, H a = some u := by
  cases o with
  | lst ds => obtain ⟨vs, h1, _⟩ := r; exact ⟨_, h1⟩
  | dK ds => obtain ⟨vs, h1, _⟩ := r; exact ⟨_, h1⟩
  | dT ds => obtain ⟨vs, h1, _⟩ := r; exact ⟨_, h1⟩
  | ins c fs => obtain ⟨Ca, dx, gs, h1, _⟩ := r; exact ⟨_, h1⟩
theorem RO.mut (r : RO K C H a o) : Mut (H a) := by
  cases o with
  | lst ds => obtain ⟨vs, h1, _⟩ := r; rw [h1]; exact trivial
  | dK ds => obtain ⟨vs, h1, _⟩ := r; rw [h1]; exact trivial
  | dT ds => obtain ⟨vs, h1, _⟩ := r; rw [h1]; exact trivial
  | ins c fs => obtain ⟨Ca, dx, gs, h1, _⟩ := r; rw [h1]; exact trivial
theorem RH.free (r : RH K C H h) (n : H p = none) : h p = none := by
  cases e : h p with
  | none => rfl
  | some o => obtain ⟨u, q⟩ := (r p o e).there; rw [n] at q; cases q
/-- a new untracked-by-h object (a tuple) -/
theorem RH.side {u : HO} (r : RH K C H h) (n : H p = none) : RH K C (upd H p u) h := fun a o e => by
  have q := r a o e
  refine q.le (Le.new n) (upd_ne ?_)
  obtain ⟨w, z⟩ := q.there
  exact ne_of_none z n
theorem RH.new {u : HO} (r : RH K C H h) (n : H p = none) (w : RO K C (upd H p u) p o) : RH K C (upd H p u) (up h p o) := fun a x e => by
  by_cases z : a = p
  · subst z; rw [up_same] at e; cases e; exact w
  · rw [up_ne z] at e
    exact r.side n a x e
theorem RH.put {u : HO} (r : RH K C H h) (m : Mut (H p)) (w : RO K C (upd H p u) p o) : RH K C (upd H p u) (up h p o) := fun a x e => by
  by_cases z : a = p
  · subst z; rw [up_same] at e; cases e; exact w
  · rw [up_ne z] at e
    exact (r a x e).le (Le.mut m) (upd_ne z)
theorem RS.le (l : Le H H') (r : RS K H σ s) : RS K H' σ s := ⟨r.1, fun i d e => by
  obtain ⟨v, h1, h2⟩ := r.2 i d e
  exact ⟨v, h1, h2.le l⟩⟩
theorem RS.set {v : V} {d : D} (r : RS K H σ s) (i : Nat) (x : RD K H v d) : RS K H (σ.set i (some v)) (s.set i (some d)) := ⟨by rw [List.length_set, List.length_set]; exact r.1, fun j e q => by
  by_cases z : i = j
  · subst z
    by_cases hl : i < s.length
    · rw [List.getElem?_set_self hl] at q
      cases q
      exact ⟨v, List.getElem?_set_self (by rw [r.1]; exact hl), x⟩
    · rw [List.getElem?_eq_none (by rw [List.length_set]; omega)] at q; cases q
  · rw [List.getElem?_set_ne z] at q
    obtain ⟨w, h1, h2⟩ := r.2 j e q
    exact ⟨w, by rw [List.getElem?_set_ne z]; exact h1, h2⟩⟩
end

/-- a step: tuples stay, what h does not know stays and stays unknown -/
structure Ste (H : Hp) (h : DH) (H' : Hp) (h' : DH) : Prop where
  le : Le H H'
  fr : ∀ a o, h a = none → H a = some o → H' a = some o
  dm : ∀ a o, h a = none → H a = some o → h' a = none
theorem Ste.refl {H : Hp} {h : DH} : Ste H h H h := ⟨.refl, fun _ _ _ e => e, fun _ _ e _ => e⟩
theorem Ste.trans {H H1 H2 : Hp} {h h1 h2 : DH} (a : Ste H h H1 h1) (b : Ste H1 h1 H2 h2) : Ste H h H2 h2 :=
  ⟨a.le.trans b.le, fun x o n e => b.fr x o (a.dm x o n e) (a.fr x o n e), fun x o n e => b.dm x o (a.dm x o n e) (a.fr x o n e)⟩
theorem Ste.new {H : Hp} {h : DH} {p : Addr} {o : HO} {u : DO} (n : H p = none) : Ste H h (upd H p o) (up h p u) :=
  ⟨Le.new n, fun a x _ e => by rw [upd_ne (ne_of_none e n)]; exact e, fun a x na e => by rw [up_ne (ne_of_none e n)]; exact na⟩
theorem Ste.side {H : Hp} {h : DH} {p : Addr} {o : HO} (n : H p = none) : Ste H h (upd H p o) h :=
  ⟨Le.new n, fun a x _ e => by rw [upd_ne (ne_of_none e n)]; exact e, fun a x na _ => na⟩
theorem Ste.mut {H : Hp} {h : DH} {p : Addr} {o : HO} {u w : DO} (k : h p = some w) (m : Mut (H p)) : Ste H h (upd H p o) (up h p u) := by
  have ne : ∀ a, h a = none → a ≠ p := fun a n z => by subst z; rw [k] at n; cases n
  exact ⟨Le.mut m, fun a x n e => by rw [upd_ne (ne a n)]; exact e, fun a x n _ => by rw [up_ne (ne a n)]; exact n⟩

/-! ### pairs -/
section
variable {κ : Type} [DecidableEq κ] {K : PySem.W.Frag} {H : Hp}
def dget (kvs : List (κ × D)) (k : κ) : Option D := (kvs.find? fun kv => decide (kv.1 = k)).map (·.2)
def dput (kvs : List (κ × D)) (k : κ) (v : D) : List (κ × D) :=
  if kvs.any (fun kv => decide (kv.1 = k)) then kvs.map fun kv => if kv.1 = k then (kv.1, v) else kv else kvs ++ [(k, v)]
def ddrop (kvs : List (κ × D)) (k : κ) : List (κ × D) := kvs.filter fun kv => decide (kv.1 ≠ k)
theorem RPs.length {gs : List (κ × V)} {fs : List (κ × D)} (r : RPs K H gs fs) : gs.length = fs.length := Paired.length r
theorem RPs.get {k : κ} : ∀ {gs : List (κ × V)} {fs : List (κ × D)}, RPs K H gs fs → (∀ d, dget fs k = some d → ∃ v, valV gs k = some v ∧ RD K H v d) ∧ (dget fs k = none → valV gs k = none)
  | _, _, .nil => ⟨fun d e => by simp [dget] at e, fun _ => rfl⟩
  | (j, v) :: gs, (j', d') :: fs, .cons ⟨e1, r1⟩ t => by
    have e1 : j = j' := e1
    subst e1
    have ih := RPs.get (k := k) t
    by_cases e : j = k
    · subst e
      refine ⟨fun d q => ?_, fun q => ?_⟩
      · simp [dget] at q
        subst q
        exact ⟨v, by simp [valV], r1⟩
      · simp [dget] at q
    · have h1 : dget ((j, d') :: fs) k = dget fs k := by simp [dget, List.find?_cons, e]
      have h2 : valV ((j, v) :: gs) k = valV gs k := by simp [valV, List.find?_cons, e]
      rw [h1, h2]
      exact ih
theorem RPs.any {k : κ} : ∀ {gs : List (κ × V)} {fs : List (κ × D)}, RPs K H gs fs → (gs.any fun kv => decide (kv.1 = k)) = fs.any fun kv => decide (kv.1 = k)
  | _, _, .nil => rfl
  | (j, v) :: gs, (j', d') :: fs, .cons ⟨e1, r1⟩ t => by
    have e1 : j = j' := e1
    subst e1
    rw [List.any_cons, List.any_cons, RPs.any t]
theorem RPs.repl {k : κ} {v : V} {d : D} (rv : RD K H v d) : ∀ {gs : List (κ × V)} {fs : List (κ × D)}, RPs K H gs fs → RPs K H (gs.map fun kv => if kv.1 = k then (kv.1, v) else kv) (fs.map fun kv => if kv.1 = k then (kv.1, d) else kv)
  | _, _, .nil => .nil
  | (j, v') :: gs, (j', d') :: fs, .cons ⟨e1, r1⟩ t => by
    have e1 : j = j' := e1
    subst e1
    rw [List.map_cons, List.map_cons]
    refine .cons ?_ (RPs.repl rv t)
    by_cases e : j = k
    · rw [if_pos e, if_pos e]; exact ⟨rfl, rv⟩
    · rw [if_neg e, if_neg e]; exact ⟨rfl, r1⟩
theorem RPs.app : ∀ {gs gs' : List (κ × V)} {fs fs' : List (κ × D)}, RPs K H gs fs → RPs K H gs' fs' → RPs K H (gs ++ gs') (fs ++ fs')
  | _, _, _, _, .nil, r => r
  | _, _, _, _, .cons a t, r => .cons a (RPs.app t r)
theorem RPs.put {k : κ} {v : V} {d : D} (rv : RD K H v d) {gs : List (κ × V)} {fs : List (κ × D)} (r : RPs K H gs fs) : RPs K H (putK gs k v) (dput fs k d) := by
  unfold putK dput
  rw [RPs.any r]
  split
  · exact RPs.repl rv r
  · exact RPs.app r (.cons ⟨rfl, rv⟩ .nil)
theorem RPs.drop {k : κ} : ∀ {gs : List (κ × V)} {fs : List (κ × D)}, RPs K H gs fs → RPs K H (dropK gs k) (ddrop fs k)
  | _, _, .nil => .nil
  | (j, v) :: gs, (j', d') :: fs, .cons ⟨e1, r1⟩ t => by
    have e1 : j = j' := e1
    subst e1
    have ih := RPs.drop (k := k) t
    unfold dropK ddrop at ih ⊢
    rw [List.filter_cons, List.filter_cons]
    by_cases e : j = k
    · simpa [e] using ih
    · simp only [ne_eq, e, not_false_eq_true, decide_true, if_true]
      exact .cons ⟨rfl, r1⟩ ih
end

def wipeD (s : DSt) : List Nat → DSt
  | [] => s
  | v :: vs => (wipeD s vs).set v none
theorem RS.wipe {K : PySem.W.Frag} {H : Hp} {σ : L2.St} {s : DSt} (r : RS K H σ s) : ∀ vs, RS K H (wipe σ vs) (wipeD s vs)
  | [] => r
  | v :: vs => by
    have q := RS.wipe r vs
    refine ⟨by unfold L2.wipe wipeD; rw [List.length_set, List.length_set]; exact q.1, fun j e z => ?_⟩
    unfold wipeD at z
    unfold L2.wipe
    by_cases y : v = j
    · subst y
      by_cases hl : v < (wipeD s vs).length
      · rw [List.getElem?_set_self hl] at z; cases z
      · rw [List.getElem?_eq_none (by rw [List.length_set]; omega)] at z; cases z
    · rw [List.getElem?_set_ne y] at z
      obtain ⟨w, h1, h2⟩ := q.2 j e z
      exact ⟨w, by rw [List.getElem?_set_ne y]; exact h1, h2⟩

/-! ### forgetting and freezing -/
def rm (h : DH) (a : Addr) : DH := fun b => if b = a then none else h b
theorem rm_up {h : DH} {a : Addr} {o : DO} (n : h a = none) : rm (up h a o) a = h := by
  funext b; unfold rm up
  by_cases e : b = a
  · subst e; rw [if_pos rfl, n]
  · rw [if_neg e, if_neg e]
theorem rm_some {h : DH} {a b : Addr} {o : DO} (e : rm h a b = some o) : b ≠ a ∧ h b = some o := by
  unfold rm at e
  by_cases z : b = a
  · rw [if_pos z] at e; cases e
  · rw [if_neg z] at e; exact ⟨z, e⟩
theorem rm_none {h : DH} {a b : Addr} (e : h b = none) : rm h a b = none := by
  unfold rm
  split
  · rfl
  · exact e
section
variable {K : PySem.W.Frag} {C : CA} {H : Hp} {h : DH} {a : Addr} {o : DO} {u : HO} {od : Obj}
theorem RDp.of {κ : Type} : ∀ {gs : List (κ × V)} {fs : List (κ × D)}, RPs K H gs fs → RDp K H κ gs fs
  | _, _, .nil => .nil
  | (j, v) :: gs, (j', d') :: fs, .cons ⟨e1, r1⟩ t => by
    have e1 : j = j' := e1
    subst e1
    exact .cons r1 (RDp.of t)
theorem RDp.to {κ : Type} : ∀ {gs : List (κ × V)} {fs : List (κ × D)}, RDp K H κ gs fs → RPs K H gs fs
  | _, _, .nil => .nil
  | _, _, .cons r t => .cons ⟨rfl, r⟩ (RDp.to t)
/-- what stood there is no more written -/
theorem Le.lock (e : H a = some u) (m : Mut (some u)) : Le H (upd H a (.frz od u)) := Le.mut (by rw [e]; exact m)
theorem Ste.lock (e : H a = some u) (m : Mut (some u)) (k : h a ≠ none) : Ste H h (upd H a (.frz od u)) (rm h a) :=
  ⟨Le.lock e m, fun b x n q => by
    have z : b ≠ a := fun z => by subst z; exact k n
    rw [upd_ne z]; exact q, fun b x n q => rm_none n⟩
theorem RH.lock (r : RH K C H h) (e : H a = some u) (m : Mut (some u)) : RH K C (upd H a (.frz od u)) (rm h a) := fun b x q => by
  obtain ⟨z, q⟩ := rm_some q
  exact (r b x q).le (Le.lock e m) (upd_ne z)
/-- the frozen value -/
def frzO : DO → D
  | .lst xs => .fl xs
  | .dK kvs => .dk kvs
  | .dT kvs => .dt kvs
  | .ins c fs => .ob c fs
theorem frz_rd (r : RO K C H a o) : ∃ u, H a = some u ∧ Mut (some u) ∧ ∀ od, RD K (upd H a (.frz od u)) (.ref a) (frzO o) := by
  cases o with
  | lst xs =>
    obtain ⟨vs, h1, h2⟩ := r
    exact ⟨_, h1, trivial, fun od => .fl (.inl ⟨od, upd_same⟩) (h2.le (Le.lock h1 trivial))⟩
  | dK kvs =>
    obtain ⟨vs, h1, h2⟩ := r
    exact ⟨_, h1, trivial, fun od => .dk upd_same (RDp.of (h2.le (Le.lock h1 trivial)))⟩
  | dT kvs =>
    obtain ⟨vs, h1, h2⟩ := r
    exact ⟨_, h1, trivial, fun od => .dt upd_same (RDp.of (h2.le (Le.lock h1 trivial)))⟩
  | ins c fs =>
    obtain ⟨Ca, dx, gs, h1, h2, h3⟩ := r
    exact ⟨_, h1, trivial, fun od => .ob h3 upd_same (RDp.of (h2.le (Le.lock h1 trivial)))⟩
end
def wFrz (d : D) (h : DH) (Q : D → DH → Prop) : Prop := match d with
  | .ref a => match h a with
    | some o => Q (frzO o) (rm h a)
    | none => Q (.ref a) h
  | d => Q d h
/-- a new object: a value that is no more written, or one of the heap -/
def al (z : Bool) (o : DO) (h : DH) (Q : D → DH → Prop) : Prop := match z with
  | true => Q (frzO o) h
  | false => ∀ p, h p = none → Q (.ref p) (up h p o)
theorem al_t {o : DO} {h : DH} {Q : D → DH → Prop} : al true o h Q = Q (frzO o) h := rfl
theorem al_f {o : DO} {h : DH} {Q : D → DH → Prop} : al false o h Q = ∀ p, h p = none → Q (.ref p) (up h p o) := rfl
theorem wFrz_new {o : DO} {h : DH} {p : Addr} {Q : D → DH → Prop} (n : h p = none) : wFrz (.ref p) (up h p o) Q = Q (frzO o) h := by
  unfold wFrz
  simp only [up_same, rm_up n]
theorem al_frz {o : DO} {h : DH} {Q : D → DH → Prop} (q : al true o h Q) : al false o h fun d h' => wFrz d h' Q := fun p n => by
  show wFrz _ _ _
  rw [wFrz_new n]
  exact q
/-- only what stood there ahead is kept -/
def rst (h h2 : DH) : DH := fun b => match h b with
  | none => none
  | some _ => h2 b
end DL

/-! DL, part A2: a truth on the left of + and - -/
namespace DL
open PySem PySem.Spec PyProof.Rows L2
theorem bi_add (b : Bool) (i : Int) (u : Tok) : Gives (Builtin.«int.__add__» ⟨[.bool b, .int i u], []⟩) (.int ((if b = true then (1 : Int) else 0) + i)) :=
  .of_wp fun M A E s Q h => by
    obtain ⟨hp, g, d, tk, os⟩ := s
    wp_walk
    exact ⟨_, rfl, h⟩
theorem bi_sub (b : Bool) (i : Int) (u : Tok) : Gives (Builtin.«int.__sub__» ⟨[.bool b, .int i u], []⟩) (.int ((if b = true then (1 : Int) else 0) - i)) :=
  .of_wp fun M A E s Q h => by
    obtain ⟨hp, g, d, tk, os⟩ := s
    wp_walk
    exact ⟨_, rfl, h⟩
section
variable {X : Cx}
theorem op_bi_add : OpR X (binaryOp .Add) (fun x y H Q => ∃ b i, x = .bl b ∧ y = .int i ∧ Q (.int (b2i b + i)) H) := by
  intro pins s σ H x y v u Q I rx ry ⟨b, i, ex, ey, q⟩
  subst ex ey
  cases rx
  obtain ⟨t, rfl⟩ := ry
  exact binaryOp_left_gives (op := .Add) (T := "bool") (U := "int") (by decide) (PySem.typeIs_bool s b) (fun s' => typeIs_int s' i t) F.fills_bool_add F.fills_int_add F.sub_int_bool F.slot_bool_add F.slot_int_radd F.entry_int_add (F.args_int_add_2 _ _) (bi_add b i t) trivial
    ⟨.int (b2i b + i), H, I.tok _, ⟨_, rfl⟩, q⟩
theorem op_bi_sub : OpR X (binaryOp .Sub) (fun x y H Q => ∃ b i, x = .bl b ∧ y = .int i ∧ Q (.int (b2i b - i)) H) := by
  intro pins s σ H x y v u Q I rx ry ⟨b, i, ex, ey, q⟩
  subst ex ey
  cases rx
  obtain ⟨t, rfl⟩ := ry
  exact binaryOp_left_gives (op := .Sub) (T := "bool") (U := "int") (by decide) (PySem.typeIs_bool s b) (fun s' => typeIs_int s' i t) F.fills_bool_sub F.fills_int_sub F.sub_int_bool F.slot_bool_sub F.slot_int_rsub F.entry_int_sub (F.args_int_sub_2 _ _) (bi_sub b i t) trivial
    ⟨.int (b2i b - i), H, I.tok _, ⟨_, rfl⟩, q⟩
end
end DL

/-! DL, part B: lifts; operators and comparisons by values -/
namespace DL
open PySem PySem.Spec PyProof.Rows L2

abbrev QD := D → DH → Prop
/-- an exception of the program's own: its class, its fields -/
structure Exn where
  cls : Str
  fs : List (Str × D)
abbrev XD := Exn → DH → Prop
abbrev SXD := Exn → DSt → DH → Prop

def LQ (K : PySem.W.Frag) (C : CA) (H : Hp) (h₀ : DH) (Q : VK) (d : D) (h : DH) : Prop := ∀ v H', Ste H h₀ H' h → RD K H' v d → RH K C H' h → Q v H'
theorem LQ.le {K : PySem.W.Frag} {C : CA} {H H1 : Hp} {h₀ h₁ : DH} {Q : VK} {d : D} {h : DH} (x : LQ K C H h₀ Q d h) (l : Ste H h₀ H1 h₁) : LQ K C H1 h₁ Q d h := fun v H' l' r rh => x v H' (l.trans l') r rh
theorem LQ.here {K : PySem.W.Frag} {C : CA} {H : Hp} {Q : VK} {d : D} {h : DH} (x : LQ K C H h Q d h) {v : V} (r : RD K H v d) (rh : RH K C H h) : Q v H := x v H .refl r rh

def OpD (X : Cx) (C : CA) (f : Value → Value → Sem Value) (w : D → D → DH → QD → Prop) : Prop :=
  OpR X f (fun x y H Q => ∃ d e h Q0, RD X.K H x d ∧ RD X.K H y e ∧ RH X.K C H h ∧ w d e h Q0 ∧ ∀ r h', Q0 r h' → LQ X.K C H h Q r h')
def UnD (X : Cx) (C : CA) (f : Value → Sem Value) (w : D → DH → QD → Prop) : Prop :=
  UnR X f (fun x H Q => ∃ d h Q0, RD X.K H x d ∧ RH X.K C H h ∧ w d h Q0 ∧ ∀ r h', Q0 r h' → LQ X.K C H h Q r h')
def CallD (X : Cx) (C : CA) (f : Value) (w : List D → DH → QD → Prop) : Prop :=
  CallR X f (fun xs H Q => ∃ ds h Q0, RDs X.K H xs ds ∧ RH X.K C H h ∧ w ds h Q0 ∧ ∀ r h', Q0 r h' → LQ X.K C H h Q r h')

/-! ### data -/
mutual
inductive DPy (h : DH) : D → PyData → Prop
  | non : DPy h .non .none
  | bl (b : Bool) : DPy h (.bl b) (.bool b)
  | int (i : Int) : DPy h (.int i) (.int i)
  | str (x : Str) : DPy h (.str x) (.str x)
  | tup {ds : List D} {ps : List PyData} : DPys h ds ps → DPy h (.tup ds) (.tuple ps)
  | kt {z : Bool} {ds : List D} {ps : List PyData} : DPys h ds ps → DPy h (.kt z ds) (.tuple ps)
  | fl {ds : List D} {ps : List PyData} : DPys h ds ps → DPy h (.fl ds) (.list ps)
  | lst {a : Addr} {ds : List D} {ps : List PyData} : h a = some (.lst ds) → DPys h ds ps → DPy h (.ref a) (.list ps)
inductive DPys (h : DH) : List D → List PyData → Prop
  | nil : DPys h [] []
  | cons {d : D} {ds : List D} {p : PyData} {ps : List PyData} : DPy h d p → DPys h ds ps → DPys h (d :: ds) (p :: ps)
end
section
variable {K : PySem.W.Frag} {C : CA} {H : Hp} {h : DH}
mutual
theorem DPy.dp (rh : RH K C H h) : ∀ {d : D} {p : PyData} {v : V}, DPy h d p → RD K H v d → Dp K H v p
  | .non, _, _, .non, .non => .non
  | .bl _, _, _, .bl _, .bl _ => .bl _
  | .int _, _, _, .int _, .int _ => .int _
  | .str _, _, _, .str _, .str _ => .str _
  | .tup _, _, _, .tup a, .tup s r => .tup (.inl (.inl s)) (DPys.dp rh a r)
  | .kt _ _, _, _, .kt a, .kt s _ r => .tup s (DPys.dp rh a r)
  | .fl _, _, _, .fl a, .fl s r => .lst s.seq (DPys.dp rh a r)
  | .ref _, _, _, .lst e a, .ref _ => by
    obtain ⟨vs, h1, h2⟩ := rh _ _ e
    exact .lst (.inl (.inl h1)) (DPys.dp rh a h2)
theorem DPys.dp (rh : RH K C H h) : ∀ {ds : List D} {ps : List PyData} {vs : List V}, DPys h ds ps → RDs K H vs ds → DpAll K H vs ps
  | [], _, _, .nil, .nil => .nil
  | _ :: _, _, _, .cons a b, .cons r s => .cons (DPy.dp rh a r) (DPys.dp rh b s)
end
end
-- pure data
mutual
def toPy : D → PyData
  | .non => .none
  | .bl b => .bool b
  | .int i => .int i
  | .str x => .str x
  | .tup ds => .tuple (toPys ds)
  | .kt _ ds => .tuple (toPys ds)
  | .fl ds => .list (toPys ds)
  | _ => .none
def toPys : List D → List PyData
  | [] => []
  | d :: ds => toPy d :: toPys ds
end
mutual
def pure? : D → Bool
  | .non => true
  | .bl _ => true
  | .int _ => true
  | .str _ => true
  | .tup ds => pures? ds
  | .kt _ ds => pures? ds
  | .fl ds => pures? ds
  | _ => false
def pures? : List D → Bool
  | [] => true
  | d :: ds => pure? d && pures? ds
end
mutual
theorem DPy.of {h : DH} : ∀ d : D, pure? d = true → DPy h d (toPy d)
  | .non, _ => by rw [toPy]; exact .non
  | .bl b, _ => by rw [toPy]; exact .bl b
  | .int b, _ => by rw [toPy]; exact .int b
  | .str b, _ => by rw [toPy]; exact .str b
  | .tup ds, e => by rw [toPy]; exact .tup (DPys.of ds (by rw [pure?] at e; exact e))
  | .kt _ ds, e => by rw [toPy]; exact .kt (DPys.of ds (by rw [pure?] at e; exact e))
  | .fl ds, e => by rw [toPy]; exact .fl (DPys.of ds (by rw [pure?] at e; exact e))
  | .ref a, e => by simp [pure?] at e
  | .dk a, e => by simp [pure?] at e
  | .dt a, e => by simp [pure?] at e
  | .ob a _, e => by simp [pure?] at e
  | .ex a _, e => by simp [pure?] at e
  | .fn a, e => by simp [pure?] at e
theorem DPys.of {h : DH} : ∀ ds : List D, pures? ds = true → DPys h ds (toPys ds)
  | [], _ => by rw [toPys]; exact .nil
  | d :: ds, e => by
    rw [pures?, Bool.and_eq_true] at e
    rw [toPys]
    exact .cons (DPy.of d e.1) (DPys.of ds e.2)
end

/-- the items of what is a list or a tuple -/
def seqOf (x : D) (h : DH) : Option (List D) := match x with
  | .tup xs => some xs
  | .kt _ xs => some xs
  | .fl xs => some xs
  | .ref a => match h a with
    | some (.lst xs) => some xs
    | _ => none
  | _ => none
def lstOf (x : D) (h : DH) : Option (List D) := match x with
  | .fl xs => some xs
  | .ref a => match h a with
    | some (.lst xs) => some xs
    | _ => none
  | _ => none
section
variable {X : Cx} {C : CA} {H : Hp} {h : DH} {pins : List (Addr × Obj)} {σ : L2.St} {s : Shared}
theorem FL.obj (I : Inv X pins σ H s) {a : Addr} {vs : List V} (f : FL X.K H a vs) : vs.length ≤ sizeLine ∧ ∃ (its : List Value) (n : Nat), Vals vs its ∧ vs.length = its.length ∧ s.heap.get? a = some { cls := .type "list", data := .seq its.toArray n } := by
  rcases f with ⟨o, f⟩ | ⟨its, n, f, hz, hv⟩
  · obtain ⟨_, z, its, n, r, e⟩ := (show ObjOk X.prog X.w H s.heap a (.frz o (.lst vs)) from I.hok a _ f)
    exact ⟨z, its, n, r, r.length, e⟩
  · have l : vs.length = its.size := by rw [← Array.length_toList]; exact hv.length
    exact ⟨by omega, its.toList, n, hv, hv.length, by simpa using I.kIn a _ f⟩
theorem lst_obj (I : Inv X pins σ H s) (rh : RH X.K C H h) {x : D} {v : V} {xs : List D} (r : RD X.K H v x) (e : lstOf x h = some xs) : ∃ p vs, v = .ref p ∧ RDs X.K H vs xs ∧ vs.length ≤ sizeLine ∧ ∃ (its : List Value) (n : Nat), Vals vs its ∧ vs.length = its.length ∧ s.heap.get? p = some { cls := .type "list", data := .seq its.toArray n } := by
  unfold lstOf at e
  split at e
  · cases e
    cases r with
    | fl f r => exact ⟨_, _, rfl, r, FL.obj I f⟩
  · cases r
    split at e
    · rename_i ha
      cases e
      obtain ⟨vs, h1, r1⟩ := rh _ _ ha
      exact ⟨_, vs, rfl, r1, I.lstM h1⟩
    · cases e
  · cases e
end
/-! ### operators -/
def wAdd (z : Bool) (x y : D) (h : DH) (Q : QD) : Prop := match x, y with
  | .int i, .int j => Q (.int (i + j)) h
  | .int i, .bl b => Q (.int (i + b2i b)) h
  | .bl b, .int i => Q (.int (b2i b + i)) h
  | .str i, .str j => i.length + j.length ≤ 16777216 ∧ Q (.str (i ++ j)) h
  | .tup xs, .tup ys => xs.length + ys.length ≤ 16777216 ∧ Q (.tup (xs ++ ys)) h
  | .kt _ xs, .kt _ ys => xs.length + ys.length ≤ 16777216 ∧ Q (.kt false (xs ++ ys)) h
  | x, y => match lstOf x h, lstOf y h with
    | some xs, some ys => xs.length + ys.length ≤ 16777216 ∧ al z (.lst (xs ++ ys)) h Q
    | _, _ => False
def wI2 (C : Int → Int → Prop) (g : Int → Int → Int) (x y : D) (h : DH) (Q : QD) : Prop := match x, y with
  | .int i, .int j => C i j ∧ Q (.int (g i j)) h
  | _, _ => False
abbrev wSub := wI2 (fun _ _ => True) (fun i j => i - j)
def wSubX (x y : D) (h : DH) (Q : QD) : Prop := match x, y with
  | .int i, .int j => Q (.int (i - j)) h
  | .bl b, .int i => Q (.int (b2i b - i)) h
  | _, _ => False
def wMul (z : Bool) (x y : D) (h : DH) (Q : QD) : Prop := match x, y with
  | .int i, .int j => CMul i j ∧ Q (.int (i * j)) h
  | .str z, .int k => (-(2 ^ 63) ≤ k ∧ k ≤ 16777216 ∧ z.length * k.toNat ≤ 16777216) ∧ Q (.str (Txt.mul z k)) h
  | x, .int k => match lstOf x h with
    | some xs => (-(2 ^ 63) ≤ k ∧ k < 2 ^ 63 ∧ xs.length * k.toNat ≤ 16777216) ∧ al z (.lst (List.replicate k.toNat xs).flatten) h Q
    | _ => False
  | _, _ => False
def CFdiv (i j : Int) : Prop := 0 < j ∧ j < 1073741824
abbrev wFdiv := wI2 CFdiv (fun i j => i / j)
abbrev wMod := wI2 (fun _ j => 0 < j) (fun i j => i % j)
abbrev wPow := wI2 CPow (fun i j => i ^ j.toNat)
abbrev wBAnd := wI2 (fun _ _ => True) Builtin.bitAnd
abbrev wShr := wI2 (fun _ j => 0 ≤ j) (fun i j => i / 2 ^ j.toNat)
def wBin (z : Bool) (op : Operator) : D → D → DH → QD → Prop := match op with
  | .Add => wAdd z
  | .Sub => wSubX
  | .Mult => wMul z
  | .FloorDiv => wFdiv
  | .Mod => wMod
  | .Pow => wPow
  | .BitAnd => wBAnd
  | .RShift => wShr
  | _ => fun _ _ _ _ => False

section
variable {X : Cx} {C : CA}
theorem i2_ok {f : Value → Value → Sem Value} {P : Int → Int → Prop} {P' : Int → Int → Prop} {g : Int → Int → Int} (o : OpR X f (rI P' fun i j => .int (g i j))) (hp : ∀ i j, P i j → P' i j) : OpD X C f (wI2 P g) := by
  intro pins s σ H x y v u Q I rx ry ⟨d, e, h, Q0, rd, re, rh, hw, hq⟩
  unfold wI2 at hw
  split at hw
  · cases rd; cases re
    exact o pins s σ H _ _ v u Q I rx ry ⟨_, _, rfl, rfl, hp _ _ hw.1, (hq _ _ hw.2).here (.int _) rh⟩
  · exact hw.elim
theorem i2_ok0 {f : Value → Value → Sem Value} {g : Int → Int → Int} (o : OpR X f (rI0 fun i j => .int (g i j))) : OpD X C f (wI2 (fun _ _ => True) g) := by
  intro pins s σ H x y v u Q I rx ry ⟨d, e, h, Q0, rd, re, rh, hw, hq⟩
  unfold wI2 at hw
  split at hw
  · cases rd; cases re
    exact o pins s σ H _ _ v u Q I rx ry ⟨_, _, rfl, rfl, (hq _ _ hw.2).here (.int _) rh⟩
  · exact hw.elim
theorem add_ok : OpD X C (binaryOp .Add) (wAdd false) := by
  intro pins s σ H x y v u Q I rx ry ⟨d, e, h, Q0, rd, re, rh, hw, hq⟩
  have hs := sizeLine_eq
  unfold wAdd at hw
  split at hw
  · cases rd; cases re
    exact op_add pins s σ H _ _ v u Q I rx ry ⟨_, _, rfl, rfl, (hq _ _ hw).here (.int _) rh⟩
  · cases rd; cases re
    exact op_add_ib pins s σ H _ _ v u Q I rx ry ⟨_, _, rfl, rfl, (hq _ _ hw).here (.int _) rh⟩
  · cases rd; cases re
    exact op_bi_add pins s σ H _ _ v u Q I rx ry ⟨_, _, rfl, rfl, (hq _ _ hw).here (.int _) rh⟩
  · cases rd; cases re
    exact op_add_str pins s σ H _ _ v u Q I rx ry ⟨_, _, rfl, rfl, by omega, (hq _ _ hw.2).here (.str _) rh⟩
  · cases rd with
    | tup s1 r1 =>
      cases re with
      | tup s2 r2 =>
        have l1 := r1.length
        have l2 := r2.length
        refine op_catA pins s σ H _ _ v u Q I rx ry ⟨_, _, _, _, rfl, rfl, .inl (.inl s1), .inl (.inl s2), by omega, ?_⟩
        have fin : ∀ p, H p = none → ∀ zs, RDs X.K H zs _ → Q (.ref p) (upd H p (.tup zs)) := fun p hp zs rz =>
          (hq _ _ hw.2) (.ref p) _ (Ste.side hp) (.tup upd_same (rz.le (Le.new hp))) (rh.side hp)
        have q2 := (hq _ _ hw.2)
        refine ⟨fun e0 => ?_, fun _ e0 => ?_, fun _ _ p hp => fin p hp _ (r1.append r2)⟩
        · have e1 := (r1.nil_iff).mp e0
          subst e1
          exact q2.here (.tup s2 r2) rh
        · have e1 := (r2.nil_iff).mp e0
          subst e1
          rw [List.append_nil] at q2
          exact q2.here (.tup s1 r1) rh
  · cases rd with
    | kt s1 _ r1 =>
      cases re with
      | kt s2 _ r2 =>
        have l1 := r1.length
        have l2 := r2.length
        refine op_catA pins s σ H _ _ v u Q I rx ry ⟨_, _, _, _, rfl, rfl, s1, s2, by omega, ?_⟩
        have fin : ∀ p, H p = none → ∀ zs, RDs X.K H zs _ → Q (.ref p) (upd H p (.tup zs)) := fun p hp zs rz =>
          (hq _ _ hw.2) (.ref p) _ (Ste.side hp) (.kt (.inl (.inl upd_same)) (fun z => nomatch z) (rz.le (Le.new hp))) (rh.side hp)
        have q2 := (hq _ _ hw.2)
        refine ⟨fun e0 => ?_, fun _ e0 => ?_, fun _ _ p hp => fin p hp _ (r1.append r2)⟩
        · have e1 := (r1.nil_iff).mp e0
          subst e1
          exact q2.here (.kt s2 (fun z => nomatch z) r2) rh
        · have e1 := (r2.nil_iff).mp e0
          subst e1
          rw [List.append_nil] at q2
          exact q2.here (.kt s1 (fun z => nomatch z) r1) rh
  · split at hw
    · rename_i xs ys ha hb
      obtain ⟨p1, vs, rfl, r1, z1, its, n, v1, l1, e1⟩ := lst_obj I rh rd ha
      obtain ⟨p2, ws, rfl, r2, z2, its2, n2, v2, l2, e2⟩ := lst_obj I rh re hb
      cases rx
      cases ry
      have l3 := r1.length
      have l4 := r2.length
      refine PySem.P.add_list e1 e2 ?_ (by rw [List.size_toArray, List.size_toArray]; omega)
      have ea : its.toArray ++ its2.toArray = (its ++ its2).toArray := by simp
      rw [ea]
      have np := I.fresh
      exact ⟨.ref _, _, I.lnew (t' := s.toks) (v1.append v2) (by rw [List.length_append]; omega), rfl, (hq _ _ (hw.2 _ (rh.free np))) (.ref _) _ (Ste.new np) (.ref _) (rh.new np ⟨_, upd_same, (r1.append r2).le (Le.new np)⟩)⟩
    · exact hw.elim
theorem sub_ok : OpD X C (binaryOp .Sub) wSubX := by
  intro pins s σ H x y v u Q I rx ry ⟨d, e, h, Q0, rd, re, rh, hw, hq⟩
  unfold wSubX at hw
  split at hw
  · cases rd; cases re
    exact op_sub pins s σ H _ _ v u Q I rx ry ⟨_, _, rfl, rfl, (hq _ _ hw).here (.int _) rh⟩
  · cases rd; cases re
    exact op_bi_sub pins s σ H _ _ v u Q I rx ry ⟨_, _, rfl, rfl, (hq _ _ hw).here (.int _) rh⟩
  · exact hw.elim
theorem RDs.rep {K : PySem.W.Frag} {H : Hp} {vs : List V} {ds : List D} (r : RDs K H vs ds) : ∀ n : Nat, RDs K H (List.replicate n vs).flatten (List.replicate n ds).flatten
  | 0 => .nil
  | n + 1 => by
    rw [List.replicate_succ, List.replicate_succ, List.flatten_cons, List.flatten_cons]
    exact r.append (r.rep n)
theorem mul_ok : OpD X C (binaryOp .Mult) (wMul false) := by
  intro pins s σ H x y v u Q I rx ry ⟨d, e, h, Q0, rd, re, rh, hw, hq⟩
  have hs := sizeLine_eq
  unfold wMul at hw
  split at hw
  · cases rd; cases re
    exact op_mul pins s σ H _ _ v u Q I rx ry ⟨_, _, rfl, rfl, hw.1, (hq _ _ hw.2).here (.int _) rh⟩
  · rename_i z k
    cases rd; cases re
    obtain ⟨t, rfl⟩ := (show ∃ t, v = Value.str z t from rx)
    obtain ⟨t', rfl⟩ := (show ∃ t, u = Value.int k t from ry)
    obtain ⟨⟨h1, h2, h3⟩, hw⟩ := hw
    exact SB.mul (PyProof.Rows.mulOk_of z.length k.toNat (Nat.le_refl _) (by omega) h1 (by omega) h3) fun t2 k2 => ⟨.str _, H, I.tok _, ⟨_, rfl⟩, (hq _ _ hw).here (.str _) rh⟩
  · rename_i k hne hne2
    cases re
    split at hw
    · rename_i xs ha
      obtain ⟨p1, vs, rfl, r1, z1, its, n, r, hl, e⟩ := lst_obj I rh rd ha
      cases rx
      obtain ⟨t, rfl⟩ := ry
      obtain ⟨⟨h1, h2, hz⟩, hw⟩ := hw
      have l3 := r1.length
      have hz : vs.length * k.toNat ≤ sizeLine := by rw [l3]; omega
      have hlen : its.toArray.size * k.toNat ≤ sizeLine := by rw [List.size_toArray, ← hl]; exact hz
      have hcap : ¬ its.toArray.size * k.toNat > (2 ^ 63 - 1) / 8 := by
        have : (sizeLine : Nat) ≤ (2 ^ 63 - 1) / 8 := by decide
        omega
      have hfit : ¬ (!Builtin.List.listFitsIndex k) = true := by
        rw [fitsIndex_both h1 h2]
        exact Bool.false_ne_true
      have hlong : ¬ Builtin.List.listTooLong (its.toArray.size * k.toNat) = true := by
        rw [notLongL hlen]
        exact Bool.false_ne_true
      have hnew : List.foldl (fun x1 x2 => x1 ++ x2) #[] (List.replicate (if its.toArray.isEmpty = true then 0 else k.toNat) its.toArray) = (List.replicate k.toNat its).flatten.toArray := by
        have f0 : ∀ m : Nat, List.foldl (fun x1 x2 => x1 ++ x2) #[] (List.replicate m its.toArray) = (List.replicate m its).flatten.toArray := fun m => by
          have := foldl_rep its m []
          rw [List.nil_append] at this
          exact this
        rw [f0]
        cases its with
        | nil => simp
        | cons a r' => rw [if_neg (by simp)]
      refine wpAny_binaryOp_repeat_ref (T := "list") (U := "int") (by decide) ⟨_, e, rfl⟩ (fun s' => typeIs_int s' k t) noFill_list_mul F.fills_int_mul F.slot_int_rmul repeat_list F.slot_int_index.lookup
        (call_meets F.slot_int_rmul (typeIs_int s k t) F.entry_int_rmul (F.args_int_rmul_2 _ _) (int___rmul___int_list k t p1 its.toArray n)
          ⟨e, rfl, ⟨_, e, rfl⟩, call_meets F.slot_list_mul ⟨_, e, rfl⟩ F.entry_list_mul (F.args_list_mul_2 _ _) (AutoListH.list___mul___list_int_3 p1 its.toArray n k t hfit hcap hlong) ⟨e, ?_⟩⟩)
      rw [hnew]
      have np := I.fresh
      exact ⟨.ref _, _, I.lnew (t' := s.toks) (r.rep k.toNat) (by rw [PyProof.Rows.lm_len_rep_flat, Nat.mul_comm]; exact hz), rfl, (hq _ _ (hw _ (rh.free np))) (.ref _) _ (Ste.new np) (.ref _) (rh.new np ⟨_, upd_same, (r1.rep _).le (Le.new np)⟩)⟩
    · exact hw.elim
  · exact hw.elim
theorem bin_ok : ∀ op : Operator, OpD X C (binaryOp op) (wBin false op)
  | .Add => add_ok
  | .Sub => sub_ok
  | .Mult => mul_ok
  | .FloorDiv => i2_ok (P' := CDiv) op_fdiv fun _ _ h => h
  | .Mod => i2_ok op_mod fun _ _ h => h
  | .Pow => i2_ok op_pow fun _ _ h => h
  | .BitAnd => i2_ok0 op_and
  | .RShift => i2_ok op_shr fun _ _ h => h
  | .MatMult | .Div | .LShift | .BitOr | .BitXor => by
    all_goals
      intro pins s σ H x y v u Q I rx ry ⟨d, e, h, Q0, rd, re, rh, hw, hq⟩
      exact hw.elim
theorem wBin_frz {op : Operator} {x y : D} {h : DH} {Q : QD} (q : wBin true op x y h Q) : wBin false op x y h fun d h' => wFrz d h' Q := by
  have i2 : ∀ {C : Int → Int → Prop} {g : Int → Int → Int}, wI2 C g x y h Q → wI2 C g x y h fun d h' => wFrz d h' Q := fun q => by
    unfold wI2 at q ⊢
    split at q
    · exact q
    · exact q.elim
  unfold wBin at q ⊢
  cases op with
  | Add =>
    simp only [wAdd] at q ⊢
    split at q <;> try exact q
    split at q
    · exact ⟨q.1, al_frz q.2⟩
    · exact q.elim
  | Sub =>
    simp only [wSubX] at q ⊢
    split at q <;> exact q
  | Mult =>
    simp only [wMul] at q ⊢
    split at q
    · exact q
    · exact q
    · split at q
      · exact ⟨q.1, al_frz q.2⟩
      · exact q.elim
    · exact q.elim
  | FloorDiv => exact i2 q
  | Mod => exact i2 q
  | Pow => exact i2 q
  | BitAnd => exact i2 q
  | RShift => exact i2 q
  | _ => exact q.elim
theorem ibin_ok : OpD X C (inplaceOp .Add) (wI2 (fun _ _ => True) (fun i j => i + j)) := i2_ok0 iop_add
theorem isub_ok : OpD X C (inplaceOp .Sub) wSub := i2_ok0 iop_sub
end
end DL

/-! DL, part C: comparisons, subscripts, slices, stores, by values -/
namespace DL
open PySem PySem.Spec PyProof.Rows L2

/-! ### comparisons -/
/-- data without dicts, not too deep: no sign of a text is asked about -/
def shp (d : PyData) : Bool := d.plain && decide (d.depth ≤ 64)
theorem shp_pl {d : PyData} (h : shp d = true) : d.plain = true := by unfold shp at h; rw [Bool.and_eq_true] at h; exact h.1
theorem shp_dp {d : PyData} (h : shp d = true) : d.depth ≤ 64 := by unfold shp at h; rw [Bool.and_eq_true, decide_eq_true_eq] at h; exact h.2
theorem shp_of {d : PyData} (h : SeqAt.shaped d = true) : shp d = true := by
  unfold SeqAt.shaped at h; unfold shp
  rw [Bool.and_eq_true] at h ⊢
  exact ⟨PyData.plain_of_canLay0 d h.1, h.2⟩
def wEqG (neg : Bool) (x y : D) (h : DH) (Q : QD) : Prop := ∃ d e, DPy h x d ∧ DPy h y e ∧ shp d = true ∧ shp e = true ∧ Q (.bl (neg ^^ PyData.eqv d e)) h
def wEq (neg : Bool) (x y : D) (h : DH) (Q : QD) : Prop := match x, y with
  | .int i, .int j => Q (.bl (neg ^^ decide (i = j))) h
  | .str i, .str j => Q (.bl (neg ^^ decide (i = j))) h
  | .bl i, .bl j => Q (.bl (neg ^^ decide (i = j))) h
  | .tup xs, .tup [] => Q (.bl (neg ^^ xs.isEmpty)) h
  | x, y => wEqG neg x y h Q
/-- ints, or data that are alike -/
def wLt (x y : D) (h : DH) (Q : QD) : Prop := match x, y with
  | .int i, .int j => Q (.bl (decide (i < j))) h
  | x, y => ∃ d e, DPy h x d ∧ DPy h y e ∧ PySem.W.alike d e = true ∧ d ≠ .none ∧ min d.depth e.depth ≤ 60 ∧ Q (.bl (PySem.W.dataLt d e)) h
def wCI (p : Int → Int → Bool) (x y : D) (h : DH) (Q : QD) : Prop := match x, y with
  | .int i, .int j => Q (.bl (p i j)) h
  | _, _ => False
def flatD : D → Bool
  | .non => true
  | .bl _ => true
  | .int _ => true
  | .str _ => true
  | _ => false
def eqD : D → D → Bool
  | .non, .non => true
  | .bl a, .bl b => a == b
  | .bl a, .int b => (if a then 1 else 0) == b
  | .int a, .bl b => a == (if b then 1 else 0)
  | .int a, .int b => a == b
  | .str a, .str b => a == b
  | _, _ => false
def inD (x : D) (xs : List D) : Bool := xs.any fun y => eqD y x
def keyD : Key → D
  | .inl i => .int i
  | .inr x => .str x
def asKey : D → Option Key
  | .int i => some (.inl i)
  | .str x => some (.inr x)
  | _ => none
def asKeys : List D → Option (List Key)
  | [] => some []
  | d :: ds => match asKey d, asKeys ds with
    | some k, some ks => some (k :: ks)
    | _, _ => none
/-- what a dict holds under a key -/
def dlook (h : DH) (a : Addr) (k : D) : Option (Option D) := match h a with
  | some (.dK kvs) => (asKey k).map (dget kvs)
  | some (.dT kvs) => match k with
    | .tup ds => (asKeys ds).map (dget kvs)
    | _ => none
  | _ => none
/-- .. also of one that is no more written -/
def dsel (x : D) (h : DH) (k : D) : Option (Option D) := match x with
  | .dk kvs => (asKey k).map (dget kvs)
  | .dt kvs => match k with
    | .tup ds => (asKeys ds).map (dget kvs)
    | _ => none
  | .ref a => dlook h a k
  | _ => none
def wIn (neg : Bool) (x y : D) (h : DH) (Q : QD) : Prop := match y with
  | .tup ys => flatD x = true ∧ ys.all flatD = true ∧ Q (.bl (neg ^^ inD x ys)) h
  | .kt _ ys => flatD x = true ∧ ys.all flatD = true ∧ Q (.bl (neg ^^ inD x ys)) h
  | .str j => match x with
    | .str i => Q (.bl (neg ^^ !(Builtin.Str.occurrences j i 0 j.length 1).isEmpty)) h
    | _ => False
  | .fl ys => ∃ d ds, DPy h x d ∧ DPy h (.fl ys) (.list ds) ∧ shp d = true ∧ shp (.list ds) = true ∧ Q (.bl (neg ^^ ds.any fun z => PyData.eqv z d)) h
  | .dk kvs => match dsel (.dk kvs) h x with
    | some o => Q (.bl (neg ^^ o.isSome)) h
    | none => False
  | .dt kvs => match dsel (.dt kvs) h x with
    | some o => Q (.bl (neg ^^ o.isSome)) h
    | none => False
  | .ref a => match h a with
    | some (.lst _) => ∃ d ds, DPy h x d ∧ DPy h (.ref a) (.list ds) ∧ shp d = true ∧ shp (.list ds) = true ∧ Q (.bl (neg ^^ ds.any fun z => PyData.eqv z d)) h
    | some (.dK _) | some (.dT _) => match dlook h a x with
      | some o => Q (.bl (neg ^^ o.isSome)) h
      | none => False
    | _ => False
  | _ => False
def isNon : D → Bool
  | .non => true
  | _ => false
def wIs (neg : Bool) (x y : D) (h : DH) (Q : QD) : Prop := match x, y with
  | .bl a, .bl b => Q (.bl (neg ^^ decide (a = b))) h
  | x, .non => Q (.bl (neg ^^ isNon x)) h
  | _, _ => False
def wCmp (op : CmpOp) : D → D → DH → QD → Prop := match op with
  | .Eq => wEq false
  | .NotEq => wEq true
  | .Lt => wLt
  | .LtE => wCI fun i j => decide (i ≤ j)
  | .Gt => wCI fun i j => decide (j < i)
  | .GtE => wCI fun i j => decide (j ≤ i)
  | .In => wIn false
  | .NotIn => wIn true
  | .Is => wIs false
  | .IsNot => wIs true

section
variable {X : Cx} {C : CA}
theorem nx_t (b : Bool) : (true ^^ b) = !b := by cases b <;> rfl
theorem nx_f (b : Bool) : (false ^^ b) = b := by cases b <;> rfl
theorem op_neP (hu : X.A.units + 64 < cLine) : OpR X (compareOp .NotEq) fun x y H Q => ∃ d e, Dp X.K H x d ∧ Dp X.K H y e ∧ shp d = true ∧ shp e = true ∧ Q (.bl (!PyData.eqv d e)) H := by
  intro pins s σ H x y v u Q I rx ry ⟨d, e, hd, he, sd, se, q⟩
  obtain ⟨as, r1⟩ := Dp.reads I d x v hd rx
  obtain ⟨bs, r2⟩ := Dp.reads I e y u he ry
  have := shp_dp sd
  exact SeqAt.ne_plain r1 r2 (shp_pl sd) (shp_pl se) (by omega) ⟨.bl _, H, I, rfl, q⟩
theorem op_eqP (hu : X.A.units + 64 < cLine) : OpR X (compareOp .Eq) fun x y H Q => ∃ d e, Dp X.K H x d ∧ Dp X.K H y e ∧ shp d = true ∧ shp e = true ∧ Q (.bl (PyData.eqv d e)) H := by
  intro pins s σ H x y v u Q I rx ry ⟨d, e, hd, he, sd, se, q⟩
  obtain ⟨as, r1⟩ := Dp.reads I d x v hd rx
  obtain ⟨bs, r2⟩ := Dp.reads I e y u he ry
  have := shp_dp sd
  exact SeqAt.eq_plain r1 r2 (shp_pl sd) (shp_pl se) (by omega) ⟨.bl _, H, I, rfl, q⟩
theorem op_inP (hu : X.A.units + 65 < cLine) : OpR X (compareOp .In) fun x y H Q => ∃ d ds, Dp X.K H x d ∧ Dp X.K H y (.list ds) ∧ shp d = true ∧ shp (.list ds) = true ∧ Q (.bl (ds.any fun z => PyData.eqv z d)) H := by
  intro pins s σ H x y v u Q I rx ry ⟨d, ds, hd, he, sd, se, q⟩
  obtain ⟨as, r1⟩ := Dp.reads I d x v hd rx
  obtain ⟨bs, r2⟩ := Dp.reads I (.list ds) y u he ry
  have := shp_dp sd
  exact SeqAt.in_list_data r2 r1 (shp_pl se) (shp_pl sd) (by omega) ⟨.bl _, H, I, rfl, q⟩
theorem op_niP (hu : X.A.units + 65 < cLine) : OpR X (compareOp .NotIn) fun x y H Q => ∃ d ds, Dp X.K H x d ∧ Dp X.K H y (.list ds) ∧ shp d = true ∧ shp (.list ds) = true ∧ Q (.bl (!ds.any fun z => PyData.eqv z d)) H := by
  intro pins s σ H x y v u Q I rx ry ⟨d, ds, hd, he, sd, se, q⟩
  obtain ⟨as, r1⟩ := Dp.reads I d x v hd rx
  obtain ⟨bs, r2⟩ := Dp.reads I (.list ds) y u he ry
  have := shp_dp sd
  exact SeqAt.notIn_list_data r2 r1 (shp_pl se) (shp_pl sd) (by omega) ⟨.bl _, H, I, rfl, q⟩
theorem eqG_ok (hu : X.A.units + 64 < cLine) : ∀ neg, OpD X C (compareOp (if neg = true then .NotEq else .Eq)) (wEqG neg) := by
  intro neg pins s σ H x y v u Q I rx ry ⟨d, e, h, Q0, rd, re, rh, ⟨p, q, hp, hq', s1, s2, hw⟩, hq⟩
  cases neg with
  | true => exact op_neP hu pins s σ H _ _ v u Q I rx ry ⟨p, q, hp.dp rh rd, hq'.dp rh re, s1, s2, by rw [← nx_t]; exact (hq _ _ hw).here (.bl _) rh⟩
  | false => exact op_eqP hu pins s σ H _ _ v u Q I rx ry ⟨p, q, hp.dp rh rd, hq'.dp rh re, s1, s2, by rw [← nx_f (PyData.eqv p q)]; exact (hq _ _ hw).here (.bl _) rh⟩
/-- a tuple of whatever there is, held against the tuple of none -/
theorem eqT0_ok (hu : X.A.units + 64 < cLine) {pins : List (Addr × Obj)} {σ : L2.St} {s : Shared} {H : Hp} {x y : V} {v u : Value} {xs : List D} {Q : V → Hp → Prop} (I : Inv X pins σ H s) (rx : RelV x v) (ry : RelV y u) (rd : RD X.K H x (.tup xs)) (re : RD X.K H y (.tup []))
    (neg : Bool) (q : Q (.bl (neg ^^ xs.isEmpty)) H) : wpAny (model X.prog X.w) X.A (compareOp (if neg = true then .NotEq else .Eq) v u) (EP X pins σ Q) X.xe s := by
  cases rd with
  | tup h1 h2 =>
    cases re with
    | tup h3 h4 =>
      cases h4
      cases rx
      cases ry
      obtain ⟨its, rv, ⟨o, ho, hc, n, hd⟩, _⟩ := I.tuple (.inl (.inl h1))
      obtain ⟨its2, rv2, ⟨o2, ho2, hc2, n2, hd2⟩, _⟩ := I.tuple (.inl (.inl h3))
      cases rv2
      have l : xs.isEmpty = its.isEmpty := by
        have e1 := h2.length
        have e2 := rv.length
        cases xs <;> cases its <;> simp_all
      rw [l] at q
      have hl : s.heap.IsTuple _ its.toArray := ⟨_, ho, hc, _, hd⟩
      have hl2 : s.heap.IsTuple _ ([] : List Value).toArray := ⟨_, ho2, hc2, _, hd2⟩
      have e : (((List.range (min its.toArray.size ([] : List Value).toArray.size)).all fun _ => true) && its.toArray.size == ([] : List Value).toArray.size) = its.isEmpty := by
        cases its <;> simp
      cases neg with
      | true =>
        refine SeqAt.RcNeAt.tuples (e := fun _ => true) hl hl2 (by omega) (fun j h1 h2 => absurd h2 (by simp)) X.prog X.w X.xe _ ?_
        rw [e]
        exact ⟨.bl _, H, I, rfl, by rw [← nx_t]; exact q⟩
      | false =>
        refine SeqAt.RcAt.tuples (e := fun _ => true) hl hl2 (by omega) (fun j h1 h2 => absurd h2 (by simp)) X.prog X.w X.xe _ ?_
        rw [e]
        exact ⟨.bl _, H, I, rfl, by rw [← nx_f its.isEmpty]; exact q⟩
theorem eq_ok (hu : X.A.units + 64 < cLine) : ∀ neg, OpD X C (compareOp (if neg = true then .NotEq else .Eq)) (wEq neg) := by
  intro neg pins s σ H x y v u Q I rx ry ⟨d, e, h, Q0, rd, re, rh, hw, hq⟩
  unfold wEq at hw
  split at hw
  · cases rd; cases re
    cases neg with
    | true => exact op_ne pins s σ H _ _ v u Q I rx ry ⟨rfl, by have z := (hq _ _ hw).here (.bl _) rh; rw [nx_t] at z; simpa using z⟩
    | false => exact op_eq pins s σ H _ _ v u Q I rx ry ⟨rfl, by have z := (hq _ _ hw).here (.bl _) rh; rw [nx_f] at z; simpa using z⟩
  · cases rd; cases re
    cases neg with
    | true => exact op_ne pins s σ H _ _ v u Q I rx ry ⟨rfl, by have z := (hq _ _ hw).here (.bl _) rh; rw [nx_t] at z; simpa using z⟩
    | false => exact op_eq pins s σ H _ _ v u Q I rx ry ⟨rfl, by have z := (hq _ _ hw).here (.bl _) rh; rw [nx_f] at z; simpa using z⟩
  · cases rd; cases re
    cases neg with
    | true => exact op_ne pins s σ H _ _ v u Q I rx ry ⟨rfl, by have z := (hq _ _ hw).here (.bl _) rh; rw [nx_t] at z; simpa using z⟩
    | false => exact op_eq pins s σ H _ _ v u Q I rx ry ⟨rfl, by have z := (hq _ _ hw).here (.bl _) rh; rw [nx_f] at z; simpa using z⟩
  · exact eqT0_ok hu I rx ry rd re neg ((hq _ _ hw).here (.bl _) rh)
  · exact eqG_ok hu neg pins s σ H x y v u Q I rx ry ⟨d, e, h, Q0, rd, re, rh, hw, hq⟩
theorem lt_ok (hu : X.A.units + 64 < cLine) : OpD X C (compareOp .Lt) wLt := by
  intro pins s σ H x y v u Q I rx ry ⟨d, e, h, Q0, rd, re, rh, hw, hq⟩
  unfold wLt at hw
  split at hw
  · cases rd; cases re
    exact op_lt pins s σ H _ _ v u Q I rx ry ⟨_, _, rfl, rfl, (hq _ _ hw).here (.bl _) rh⟩
  · obtain ⟨p, q, hp, hq', al, nn, dp, hw⟩ := hw
    obtain ⟨as, r1⟩ := Dp.reads I p x v (hp.dp rh rd) rx
    obtain ⟨bs, r2⟩ := Dp.reads I q y u (hq'.dp rh re) ry
    have z := PySem.W.rcLt_alike p q X.A s v u as bs r1 r2 al nn (by omega) X.prog X.w X.xe (EP X pins σ Q) ⟨.bl _, H, I, rfl, (hq _ _ hw).here (.bl _) rh⟩
    exact z
theorem ci_ok {op : CmpOp} {p : Int → Int → Bool} (o : OpR X (compareOp op) (rI0 fun i j => .bl (p i j))) : OpD X C (compareOp op) (wCI p) := by
  intro pins s σ H x y v u Q I rx ry ⟨d, e, h, Q0, rd, re, rh, hw, hq⟩
  unfold wCI at hw
  split at hw
  · cases rd; cases re
    exact o pins s σ H _ _ v u Q I rx ry ⟨_, _, rfl, rfl, (hq _ _ hw).here (.bl _) rh⟩
  · exact hw.elim
theorem RD.flat {K : PySem.W.Frag} {H : Hp} {d : D} {v : V} (r : RD K H v d) (f : flatD d = true) : flatV v = true := by
  cases r <;> first | rfl | exact absurd f Bool.false_ne_true
theorem RDs.flat {K : PySem.W.Frag} {H : Hp} : ∀ {ds : List D} {vs : List V}, RDs K H vs ds → ds.all flatD = true → vs.all flatV = true
  | _, _, .nil, _ => rfl
  | _, _, .cons a b, f => by
    rw [List.all_cons, Bool.and_eq_true] at f ⊢
    exact ⟨a.flat f.1, b.flat f.2⟩
theorem RD.eqV {K : PySem.W.Frag} {H : Hp} {d e : D} {v w : V} (r : RD K H v d) (q : RD K H w e) (f : flatD d = true) (g : flatD e = true) : L2.eqV v w = eqD d e := by
  cases r <;> first | exact absurd f Bool.false_ne_true | (cases q <;> first | rfl | exact absurd g Bool.false_ne_true)
theorem RDs.inV {K : PySem.W.Frag} {H : Hp} {d : D} {v : V} (r : RD K H v d) (f : flatD d = true) : ∀ {ds : List D} {vs : List V}, RDs K H vs ds → ds.all flatD = true → L2.inV v vs = inD d ds
  | _, _, .nil, _ => rfl
  | _, _, .cons a b, g => by
    rw [List.all_cons, Bool.and_eq_true] at g
    have ih := RDs.inV r f b g.2
    unfold L2.inV inD at ih ⊢
    rw [List.any_cons, List.any_cons, ih, a.eqV r g.1 f]
theorem keyD_rd {K : PySem.W.Frag} {H : Hp} {d : D} {v : V} {k : Key} (r : RD K H v d) (e : asKey d = some k) : v = kV k := by
  cases r <;> simp [asKey] at e <;> subst e <;> rfl
theorem keysD_rd {K : PySem.W.Frag} {H : Hp} : ∀ {ds : List D} {vs : List V} {ks : List Key}, RDs K H vs ds → asKeys ds = some ks → vs = ks.map kV
  | _, _, ks, .nil, e => by
    have e' : some ([] : List Key) = some ks := e
    cases e'; rfl
  | d :: ds, _, ks, .cons a b, e => by
    unfold asKeys at e
    split at e
    · rename_i k ks' h1 h2
      cases e
      rw [keyD_rd a h1, keysD_rd b h2]; rfl
    · cases e
theorem dlook_get {K : PySem.W.Frag} {H : Hp} {h : DH} {a : Addr} {k : D} {o : Option D} {v : V} (rh : RH K C H h) (r : RD K H v k) (e : dlook h a k = some o) :
    ∃ r', DGet H a v r' ∧ (∀ d, o = some d → ∃ x, r' = some x ∧ RD K H x d) ∧ (o = none → r' = none) := by
  unfold dlook at e
  split at e
  · rename_i kvs ha
    obtain ⟨gs, h1, r1⟩ := rh _ _ ha
    cases hk : asKey k with
    | none => rw [hk] at e; cases e
    | some kk =>
      rw [hk] at e
      cases e
      rw [keyD_rd r hk]
      exact ⟨_, .k h1, fun d q => by obtain ⟨x, hx, rx⟩ := (RPs.get (k := kk) r1).1 d q; exact ⟨x, hx, rx⟩, (RPs.get (k := kk) r1).2⟩
  · rename_i kvs ha
    obtain ⟨gs, h1, r1⟩ := rh _ _ ha
    split at e
    · rename_i ds
      cases r with
      | @tup b vs _ hb rv =>
        cases hk : asKeys ds with
        | none => rw [hk] at e; cases e
        | some kk =>
          rw [hk] at e
          cases e
          rw [keysD_rd rv hk] at hb
          exact ⟨_, .t h1 hb, fun d q => by obtain ⟨x, hx, rx⟩ := (RPs.get (k := kk) r1).1 d q; exact ⟨x, hx, rx⟩, (RPs.get (k := kk) r1).2⟩
    · cases e
  · cases e
theorem dsel_get {K : PySem.W.Frag} {H : Hp} {h : DH} {x k : D} {o : Option D} {u v : V} (rh : RH K C H h) (rx : RD K H u x) (r : RD K H v k) (e : dsel x h k = some o) :
    ∃ a r', u = .ref a ∧ DGet H a v r' ∧ (∀ d, o = some d → ∃ x, r' = some x ∧ RD K H x d) ∧ (o = none → r' = none) := by
  unfold dsel at e
  split at e
  · cases rx with
    | dk h1 r1 =>
      have r1 := r1.to
      cases hk : asKey k with
      | none => rw [hk] at e; cases e
      | some kk =>
        rw [hk] at e
        cases e
        rw [keyD_rd r hk]
        exact ⟨_, _, rfl, .inl ⟨_, kk, .inr ⟨_, h1⟩, rfl, rfl⟩, fun d q => by obtain ⟨x, hx, rx⟩ := (RPs.get (k := kk) r1).1 d q; exact ⟨x, hx, rx⟩, (RPs.get (k := kk) r1).2⟩
  · cases rx with
    | dt h1 r1 =>
      have r1 := r1.to
      split at e
      · rename_i ds
        cases r with
        | @tup b vs _ hb rv =>
          cases hk : asKeys ds with
          | none => rw [hk] at e; cases e
          | some kk =>
            rw [hk] at e
            cases e
            rw [keysD_rd rv hk] at hb
            exact ⟨_, _, rfl, .inr ⟨_, kk, b, .inr ⟨_, h1⟩, rfl, hb, rfl⟩, fun d q => by obtain ⟨x, hx, rx⟩ := (RPs.get (k := kk) r1).1 d q; exact ⟨x, hx, rx⟩, (RPs.get (k := kk) r1).2⟩
      · cases e
  · cases rx
    obtain ⟨r', g⟩ := dlook_get rh r e
    exact ⟨_, r', rfl, g⟩
  · cases e
end
end DL

namespace DL
open PySem PySem.Spec PyProof.Rows L2
section
variable {X : Cx} {C : CA}
theorem d_inR (hu : X.A.units + 1 < cLine) : OpR X (compareOp .In) (fun y x H Q => ∃ a o, x = .ref a ∧ DGet H a y o ∧ Q (.bl o.isSome) H) := by
  intro pins s σ H y x iv u Q I ry rx ⟨a, o, ex, g, q⟩
  subst ex
  cases rx
  exact d_in hu I g ry fun s3 I3 => ⟨.bl o.isSome, H, I3, rfl, q⟩
theorem d_notInR (hu : X.A.units + 1 < cLine) : OpR X (compareOp .NotIn) (fun y x H Q => ∃ a o, x = .ref a ∧ DGet H a y o ∧ Q (.bl (!o.isSome)) H) := by
  intro pins s σ H y x iv u Q I ry rx ⟨a, o, ex, g, q⟩
  subst ex
  cases rx
  exact d_notIn hu I g ry fun s3 I3 => ⟨.bl (!o.isSome), H, I3, rfl, q⟩
theorem some_eq {o : Option D} {r : Option V} {K : PySem.W.Frag} {H : Hp} (h1 : ∀ d, o = some d → ∃ x, r = some x ∧ RD K H x d) (h2 : o = none → r = none) : r.isSome = o.isSome := by
  cases o with
  | none => rw [h2 rfl]; rfl
  | some d => obtain ⟨x, e, _⟩ := h1 d rfl; rw [e]; rfl
theorem in_ok (hu : X.A.units + 65 < cLine) : ∀ neg, OpD X C (compareOp (if neg = true then .NotIn else .In)) (wIn neg) := by
  intro neg pins s σ H x y v u Q I rx ry ⟨d, e, h, Q0, rd, re, rh, hw, hq⟩
  unfold wIn at hw
  have tupc : ∀ {p : Addr} {vs : List V} {ys : List D}, y = .ref p → SqT X.K H p vs → RDs X.K H vs ys → flatD d = true ∧ ys.all flatD = true ∧ Q0 (.bl (neg ^^ inD d ys)) h →
      wpAny (model X.prog X.w) X.A (compareOp (if neg = true then .NotIn else .In) v u) (EP X pins σ Q) X.xe s := by
    intro p vs ys ey sq r hw
    subst ey
    obtain ⟨f1, f2, hw⟩ := hw
    have z := (hq _ _ hw).here (.bl _) rh
    have e1 := RDs.inV rd f1 r f2
    cases neg with
    | true => exact op_notIn_seq pins s σ H _ _ v u Q I rx ry ⟨_, _, rfl, .inr sq, rd.flat f1, r.flat f2, by rw [nx_t] at z; simpa [e1] using z⟩
    | false => exact op_in_seq pins s σ H _ _ v u Q I rx ry ⟨_, _, rfl, .inr sq, rd.flat f1, r.flat f2, by rw [nx_f] at z; simpa [e1] using z⟩
  have dctc : ∀ {o : Option D}, dsel e h d = some o → Q0 (.bl (neg ^^ o.isSome)) h → wpAny (model X.prog X.w) X.A (compareOp (if neg = true then .NotIn else .In) v u) (EP X pins σ Q) X.xe s := by
    intro o ho hw
    obtain ⟨a, r, ex, g, g1, g2⟩ := dsel_get rh re rd ho
    subst ex
    have z := (hq _ _ hw).here (.bl _) rh
    rw [← some_eq g1 g2] at z
    cases neg with
    | true => exact d_notInR (by omega) pins s σ H _ _ v u Q I rx ry ⟨_, _, rfl, g, by rw [nx_t] at z; exact z⟩
    | false => exact d_inR (by omega) pins s σ H _ _ v u Q I rx ry ⟨_, _, rfl, g, by rw [nx_f] at z; exact z⟩
  split at hw
  · cases re with
    | tup s1 r1 => exact tupc rfl (.inl (.inl s1)) r1 hw
  · cases re with
    | kt s1 _ r1 => exact tupc rfl s1 r1 hw
  · split at hw
    · cases rd; cases re
      have z := (hq _ _ hw).here (.bl _) rh
      cases neg with
      | true => exact L2.op_notin_str pins s σ H _ _ v u Q I rx ry ⟨_, _, rfl, rfl, by rw [nx_t] at z; exact z⟩
      | false => exact op_in_str pins s σ H _ _ v u Q I rx ry ⟨_, _, rfl, rfl, by rw [nx_f] at z; exact z⟩
    · exact hw.elim
  · obtain ⟨p, ps, h1, h2, s1, s2, hw⟩ := hw
    have z := (hq _ _ hw).here (.bl _) rh
    cases neg with
    | true => exact op_niP hu pins s σ H _ _ v u Q I rx ry ⟨p, ps, h1.dp rh rd, h2.dp rh re, s1, s2, by rw [nx_t] at z; exact z⟩
    | false => exact op_inP hu pins s σ H _ _ v u Q I rx ry ⟨p, ps, h1.dp rh rd, h2.dp rh re, s1, s2, by rw [nx_f] at z; exact z⟩
  · split at hw
    · rename_i o ho
      exact dctc ho hw
    · exact hw.elim
  · split at hw
    · rename_i o ho
      exact dctc ho hw
    · exact hw.elim
  · cases re
    split at hw
    · obtain ⟨p, ps, h1, h2, s1, s2, hw⟩ := hw
      have z := (hq _ _ hw).here (.bl _) rh
      cases neg with
      | true => exact op_niP hu pins s σ H _ _ v u Q I rx ry ⟨p, ps, h1.dp rh rd, h2.dp rh (.ref _), s1, s2, by rw [nx_t] at z; exact z⟩
      | false => exact op_inP hu pins s σ H _ _ v u Q I rx ry ⟨p, ps, h1.dp rh rd, h2.dp rh (.ref _), s1, s2, by rw [nx_f] at z; exact z⟩
    · split at hw
      · rename_i o ho
        obtain ⟨r, g, g1, g2⟩ := dlook_get rh rd ho
        have z := (hq _ _ hw).here (.bl _) rh
        rw [← some_eq g1 g2] at z
        cases neg with
        | true => exact d_notInR (by omega) pins s σ H _ _ v u Q I rx ry ⟨_, _, rfl, g, by rw [nx_t] at z; exact z⟩
        | false => exact d_inR (by omega) pins s σ H _ _ v u Q I rx ry ⟨_, _, rfl, g, by rw [nx_f] at z; exact z⟩
      · exact hw.elim
    · split at hw
      · rename_i o ho
        obtain ⟨r, g, g1, g2⟩ := dlook_get rh rd ho
        have z := (hq _ _ hw).here (.bl _) rh
        rw [← some_eq g1 g2] at z
        cases neg with
        | true => exact d_notInR (by omega) pins s σ H _ _ v u Q I rx ry ⟨_, _, rfl, g, by rw [nx_t] at z; exact z⟩
        | false => exact d_inR (by omega) pins s σ H _ _ v u Q I rx ry ⟨_, _, rfl, g, by rw [nx_f] at z; exact z⟩
      · exact hw.elim
    · exact hw.elim
  · exact hw.elim
theorem is_ok : ∀ neg, OpD X C (compareOp (if neg = true then .IsNot else .Is)) (wIs neg) := by
  intro neg pins s σ H x y v u Q I rx ry ⟨d, e, h, Q0, rd, re, rh, hw, hq⟩
  unfold wIs at hw
  split at hw
  · cases rd; cases re
    have z := (hq _ _ hw).here (.bl _) rh
    cases neg with
    | true => exact op_notBl pins s σ H _ _ v u Q I rx ry ⟨_, _, rfl, rfl, by rw [nx_t] at z; exact z⟩
    | false => exact op_isBl pins s σ H _ _ v u Q I rx ry ⟨_, _, rfl, rfl, by rw [nx_f] at z; exact z⟩
  · cases re
    have z := (hq _ _ hw).here (.bl _) rh
    have e1 : decide (x = V.non) = isNon d := by cases rd <;> rfl
    cases neg with
    | true => exact op_notN pins s σ H _ _ v u Q I rx ry ⟨rfl, by rw [nx_t] at z; rw [e1]; exact z⟩
    | false => exact op_isN pins s σ H _ _ v u Q I rx ry ⟨rfl, by rw [nx_f] at z; rw [e1]; exact z⟩
  · exact hw.elim
theorem cmp_ok (hu : X.A.units + 65 < cLine) : ∀ op : CmpOp, OpD X C (compareOp op) (wCmp op)
  | .Eq => eq_ok (by omega) false
  | .NotEq => eq_ok (by omega) true
  | .Lt => lt_ok (by omega)
  | .LtE => ci_ok op_le
  | .Gt => ci_ok op_gt
  | .GtE => ci_ok op_ge
  | .In => in_ok hu false
  | .NotIn => in_ok hu true
  | .Is => is_ok false
  | .IsNot => is_ok true
def wNeg (d : D) (h : DH) (Q : QD) : Prop := match d with
  | .int i => Q (.int (-i)) h
  | _ => False
theorem neg_ok : UnD X C (unaryOp .USub) wNeg := by
  intro pins s σ H x v Q I rx ⟨d, h, Q0, rd, rh, hw, hq⟩
  unfold wNeg at hw
  split at hw
  · cases rd
    exact un_neg pins s σ H _ v Q I rx ⟨_, rfl, (hq _ _ hw).here (.int _) rh⟩
  · exact hw.elim
end
end DL

namespace DL
open PySem PySem.Spec PyProof.Rows L2
/-! ### subscripts, slices, stores by values -/
def wAt (xs : List D) (y : D) (h : DH) (Q : QD) : Prop := match y with
  | .int i => match atI xs i with
    | some v => Q v h
    | none => False
  | _ => False
def wKey (h : DH) (a : Addr) (y : D) (Q : QD) : Prop := match dlook h a y with
  | some (some v) => Q v h
  | _ => False
def wKeyF (x : D) (h : DH) (y : D) (Q : QD) : Prop := match dsel x h y with
  | some (some v) => Q v h
  | _ => False
def wIdx (x y : D) (h : DH) (Q : QD) : Prop := match x with
  | .dk kvs => wKeyF (.dk kvs) h y Q
  | .dt kvs => wKeyF (.dt kvs) h y Q
  | .tup xs => wAt xs y h Q
  | .kt _ xs => wAt xs y h Q
  | .fl xs => wAt xs y h Q
  | .str z => match y with
    | .int i => z.length ≤ 16777216 ∧ match atI z.cps.toList i with
      | some c => Q (.str ⟨#[c]⟩) h
      | none => False
    | _ => False
  | .ref a => match h a with
    | some (.lst xs) => wAt xs y h Q
    | some (.dK _) => wKey h a y Q
    | some (.dT _) => wKey h a y Q
    | _ => False
  | _ => False
def wSet (x y v : D) (h : DH) (Q : DH → Prop) : Prop := match x with
  | .ref a => match h a with
    | some (.lst xs) => match y with
      | .int i => match ixN xs.length i with
        | some j => Q (up h a (.lst (xs.set j v)))
        | none => False
      | _ => False
    | some (.dK kvs) => match asKey y with
      | some k => kvs.length < 16777216 ∧ Q (up h a (.dK (dput kvs k v)))
      | none => False
    | some (.dT kvs) => match y with
      | .tup ds => match asKeys ds with
        | some k => kvs.length < 16777216 ∧ Q (up h a (.dT (dput kvs k v)))
        | none => False
      | _ => False
    | _ => False
  | _ => False
def cutD {α : Type} (xs : List α) (lo hi : Option Int) : List α := (xs.drop (HT.sIx xs.length 0 lo)).take (HT.sIx xs.length xs.length hi - HT.sIx xs.length 0 lo)
def wSlc (z : Bool) (x : D) (lo hi : Option Int) (h : DH) (Q : QD) : Prop := match x with
  | .tup xs => Q (.tup (cutD xs lo hi)) h
  | .kt _ xs => Q (.kt false (cutD xs lo hi)) h
  | .fl xs => al z (.lst (cutD xs lo hi)) h Q
  | .str y => y.length ≤ 16777216 ∧ Q (.str (cutS y lo hi)) h
  | .ref a => match h a with
    | some (.lst xs) => al z (.lst (cutD xs lo hi)) h Q
    | _ => False
  | _ => False
section
variable {X : Cx} {C : CA}
theorem RDs.atI {K : PySem.W.Frag} {H : Hp} {vs : List V} {ds : List D} {i : Int} {d : D} (r : RDs K H vs ds) (e : L2.atI ds i = some d) : ∃ v, L2.atI vs i = some v ∧ RD K H v d := by
  unfold L2.atI at e ⊢
  rw [r.length]
  cases q : ixN ds.length i with
  | none => rw [q] at e; cases e
  | some j =>
    rw [q] at e
    exact r.get e
theorem ix_dict (hu : X.A.units + 1 < cLine) : IxR X (fun x y H Q => ∃ a v, x = .ref a ∧ DGet H a y (some v) ∧ Q v H) := by
  intro value slice pins s σ H x y v u Q I rx ry ⟨a, w, ex, g, q⟩ hs
  subst ex
  cases rx
  have hT := dict_typeIs I g
  unfold subscriptTail
  refine wpAny_bind ?_
  rw [getitemInPython_of_ne hT.not_modules]
  refine wpAny_bind (wpAny_specialOf hT PySem.F.slot_dict_getitem.lookup ?_)
  have fin : wpAny (model X.prog X.w) X.A (subscripted slice false (.ref a) u) (fun r s₃ => wpAny (model X.prog X.w) X.A (letTemporaryGo value (.ref a) r >>= fun _ => pure r) (EP X pins σ Q) X.xe s₃) X.xe s := by
    rw [hs]
    exact wpAny_operating (d_getItem hu I g ry fun w' s3 I3 rw' => wpAny_bind (wpAny_letTemporaryGo (wpAny_pure ⟨w, H, I3, rw', q⟩)))
  first
    | exact wpAny_pure (wpAny_bind fin)
    | exact wpAny_bind (wpAny_pure (wpAny_bind fin))
    | exact wpAny_bind fin
def IxD (X : Cx) (C : CA) (w : D → D → DH → QD → Prop) : Prop :=
  IxR X (fun x y H Q => ∃ d e h Q0, RD X.K H x d ∧ RD X.K H y e ∧ RH X.K C H h ∧ w d e h Q0 ∧ ∀ r h', Q0 r h' → LQ X.K C H h Q r h')
theorem idx_ok (hu : X.A.units + 1 < cLine) : IxD X C wIdx := by
  intro value slice pins s σ H x y v u Q I rx ry ⟨d, e, h, Q0, rd, re, rh, hw, hq⟩ hs
  have hz := sizeLine_eq
  unfold wIdx at hw
  have tup : ∀ {p : Addr} {vs : List V} {ys : List D}, x = .ref p → SqT X.K H p vs → RDs X.K H vs ys → wAt ys e h Q0 →
      wpAny (model X.prog X.w) X.A (subscriptTail value slice v u) (EP X pins σ Q) X.xe s := by
    intro p vs ys ex sq r hw
    subst ex
    unfold wAt at hw
    split at hw
    · cases re
      split at hw
      · rename_i i w e1
        obtain ⟨z, e2, rz⟩ := r.atI e1
        exact ix_tup value slice pins s σ H _ _ v u Q I rx ry ⟨_, _, _, _, rfl, rfl, sq, e2, (hq _ _ hw).here rz rh⟩ hs
      · exact hw.elim
    · exact hw.elim
  have lst : ∀ {p : Addr} {vs : List V} {ys : List D}, x = .ref p → SqL X.K H p vs → RDs X.K H vs ys → wAt ys e h Q0 →
      wpAny (model X.prog X.w) X.A (subscriptTail value slice v u) (EP X pins σ Q) X.xe s := by
    intro p vs ys ex sq r hw
    subst ex
    unfold wAt at hw
    split at hw
    · cases re
      split at hw
      · rename_i i w e1
        obtain ⟨z, e2, rz⟩ := r.atI e1
        exact ix_list value slice pins s σ H _ _ v u Q I rx ry ⟨_, _, _, _, rfl, rfl, sq, e2, (hq _ _ hw).here rz rh⟩ hs
      · exact hw.elim
    · exact hw.elim
  have dct : ∀ {p : Addr}, x = .ref p → wKey h p e Q0 →
      wpAny (model X.prog X.w) X.A (subscriptTail value slice v u) (EP X pins σ Q) X.xe s := by
    intro p ex hw
    subst ex
    unfold wKey at hw
    split at hw
    · rename_i w e1
      obtain ⟨r, g, g1, g2⟩ := dlook_get rh re e1
      obtain ⟨z, e2, rz⟩ := g1 _ rfl
      subst e2
      exact ix_dict hu value slice pins s σ H _ _ v u Q I rx ry ⟨_, _, rfl, g, (hq _ _ hw).here rz rh⟩ hs
    · exact hw.elim
  have dcf : wKeyF d h e Q0 →
      wpAny (model X.prog X.w) X.A (subscriptTail value slice v u) (EP X pins σ Q) X.xe s := by
    intro hw
    unfold wKeyF at hw
    split at hw
    · rename_i w e1
      obtain ⟨a, r, ex, g, g1, g2⟩ := dsel_get rh rd re e1
      subst ex
      obtain ⟨z, e2, rz⟩ := g1 _ rfl
      subst e2
      exact ix_dict hu value slice pins s σ H _ _ v u Q I rx ry ⟨_, _, rfl, g, (hq _ _ hw).here rz rh⟩ hs
    · exact hw.elim
  split at hw
  · exact dcf hw
  · exact dcf hw
  · cases rd with
    | tup s1 r1 => exact tup rfl (.inl (.inl s1)) r1 hw
  · cases rd with
    | kt s1 _ r1 => exact tup rfl s1 r1 hw
  · cases rd with
    | fl s1 r1 => exact lst rfl s1.seq r1 hw
  · cases rd
    split at hw
    · cases re
      obtain ⟨h1, hw⟩ := hw
      split at hw
      · rename_i i c e1
        exact ix_str value slice pins s σ H _ _ v u Q I rx ry ⟨_, _, _, rfl, rfl, by omega, e1, (hq _ _ hw).here (.str _) rh⟩ hs
      · exact hw.elim
    · exact hw.elim
  · cases rd
    split at hw
    · rename_i xs ha
      obtain ⟨vs, h1, r1⟩ := rh _ _ ha
      exact lst rfl (.inl (.inl h1)) r1 hw
    · exact dct rfl hw
    · exact dct rfl hw
    · exact hw.elim
  · exact hw.elim
/-- stores by values -/
def SetD (X : Cx) (C : CA) (w : D → D → D → DH → (DH → Prop) → Prop) : Prop :=
  PSet X (fun o i v H Q => ∃ d e f h Q0, RD X.K H o d ∧ RD X.K H i e ∧ RD X.K H v f ∧ RH X.K C H h ∧ w d e f h Q0 ∧ ∀ h', Q0 h' → ∀ H', Ste H h H' h' → RH X.K C H' h' → Q H')
theorem set_ok (hu : X.A.units + 1 < cLine) : SetD X C wSet := by
  intro pins s σ H o i v ov iv u Q I ro ri rv ⟨d, e, f, h, Q0, rd, re, rf, rh, hw, hq⟩
  have hz := sizeLine_eq
  unfold wSet at hw
  split at hw
  · rename_i a
    cases rd
    split at hw
    · rename_i xs ha
      obtain ⟨vs, h1, r1⟩ := rh _ _ ha
      have m : Mut (H a) := by rw [h1]; exact trivial
      split at hw
      · cases re
        split at hw
        · rename_i k j e1
          rw [← r1.length] at e1
          exact set_list pins s σ H _ _ v ov iv u Q I ro ri rv ⟨_, _, _, _, rfl, rfl, h1, e1, hq _ hw _ (Ste.mut ha m) (rh.put m ⟨_, upd_same, (r1.set rf j).le (Le.mut m)⟩)⟩
        · exact hw.elim
      · exact hw.elim
    · rename_i kvs ha
      obtain ⟨gs, h1, r1⟩ := rh _ _ ha
      have m : Mut (H a) := by rw [h1]; exact trivial
      split at hw
      · rename_i k hk
        obtain ⟨hl, hw⟩ := hw
        have ek := keyD_rd re hk
        subst ek
        have l1 := r1.length
        exact set_dict hu pins s σ H _ _ v ov iv u Q I ro ri rv ⟨_, _, rfl, .k h1 (by omega), hq _ hw _ (Ste.mut ha m) (rh.put m ⟨_, upd_same, (r1.put rf).le (Le.mut m)⟩)⟩
      · exact hw.elim
    · rename_i kvs ha
      obtain ⟨gs, h1, r1⟩ := rh _ _ ha
      have m : Mut (H a) := by rw [h1]; exact trivial
      split at hw
      · cases re with
        | tup hb rb =>
          split at hw
          · rename_i ds k hk
            obtain ⟨hl, hw⟩ := hw
            have ek := keysD_rd rb hk
            subst ek
            have l1 := r1.length
            exact set_dict hu pins s σ H _ _ v ov iv u Q I ro ri rv ⟨_, _, rfl, .t h1 hb (by omega), hq _ hw _ (Ste.mut ha m) (rh.put m ⟨_, upd_same, (r1.put rf).le (Le.mut m)⟩)⟩
          · exact hw.elim
      · exact hw.elim
    · exact hw.elim
  · exact hw.elim
/-- slices by values -/
def SlcD (X : Cx) (C : CA) (w : D → Option Int → Option Int → DH → QD → Prop) : Prop :=
  SlR X (fun x lo hi H Q => ∃ d h Q0, RD X.K H x d ∧ RH X.K C H h ∧ w d lo hi h Q0 ∧ ∀ r h', Q0 r h' → LQ X.K C H h Q r h')
theorem RDs.cut {K : PySem.W.Frag} {H : Hp} {vs : List V} {ds : List D} (r : RDs K H vs ds) (lo hi : Option Int) : RDs K H (cutV vs lo hi) (cutD ds lo hi) := by
  unfold cutV cutD
  rw [r.length]
  exact (r.drop _).take _
theorem cut_whole (ds : List D) (lo hi : Option Int) (h : HT.sIx ds.length 0 lo = 0 ∧ HT.sIx ds.length ds.length hi = ds.length) : cutD ds lo hi = ds := by
  unfold cutD
  rw [h.1, h.2, List.drop_zero, Nat.sub_zero, List.take_length]
theorem wSlc_frz {x : D} {lo hi : Option Int} {h : DH} {Q : QD} (q : wSlc true x lo hi h Q) : wSlc false x lo hi h fun d h' => wFrz d h' Q := by
  unfold wSlc at q ⊢
  split at q
  · exact q
  · exact q
  · exact al_frz q
  · exact q
  · split at q
    · exact al_frz q
    · exact q.elim
  · exact q.elim
theorem slc_ok : SlcD X C (wSlc false) := by
  intro pins s σ H x v vl vu lo hi sl Q I rx hs pl pu ⟨d, h, Q0, rd, rh, hw, hq⟩
  have hz := sizeLine_eq
  unfold wSlc at hw
  split at hw
  · cases rd with
    | tup s1 r1 =>
      refine sl_tupA pins s σ H _ v vl vu lo hi sl Q I rx hs pl pu ⟨_, _, rfl, .inl (.inl s1), fun hw' => ?_, fun _ p hp => ?_⟩
      · rw [r1.length] at hw'
        rw [cut_whole _ _ _ hw'] at hw
        exact (hq _ _ hw).here (.tup s1 r1) rh
      · exact (hq _ _ hw) (.ref p) _ (Ste.side hp) (.tup upd_same ((r1.cut lo hi).le (Le.new hp))) (rh.side hp)
  · cases rd with
    | kt s1 n1 r1 =>
      refine sl_tupA pins s σ H _ v vl vu lo hi sl Q I rx hs pl pu ⟨_, _, rfl, s1, fun hw' => ?_, fun _ p hp => ?_⟩
      · rw [r1.length] at hw'
        rw [cut_whole _ _ _ hw'] at hw
        exact (hq _ _ hw).here (.kt s1 (fun z => nomatch z) r1) rh
      · exact (hq _ _ hw) (.ref p) _ (Ste.side hp) (.kt (.inl (.inl upd_same)) (fun z => nomatch z) ((r1.cut lo hi).le (Le.new hp))) (rh.side hp)
  · cases rd with
    | fl s1 r1 =>
      exact sl_list pins s σ H _ v vl vu lo hi sl Q I rx hs pl pu ⟨_, _, rfl, s1.seq, fun p hp => (hq _ _ (hw p (rh.free hp))) (.ref p) _ (Ste.new hp) (.ref p) (rh.new hp ⟨_, upd_same, (r1.cut lo hi).le (Le.new hp)⟩)⟩
  · cases rd
    exact sl_str pins s σ H _ v vl vu lo hi sl Q I rx hs pl pu ⟨_, rfl, by omega, (hq _ _ hw.2).here (.str _) rh⟩
  · cases rd
    split at hw
    · rename_i a xs ha
      obtain ⟨vs, h1, r1⟩ := rh _ _ ha
      exact sl_list pins s σ H _ v vl vu lo hi sl Q I rx hs pl pu ⟨_, _, rfl, .inl (.inl h1), fun p hp => (hq _ _ (hw p (rh.free hp))) (.ref p) _ (Ste.new hp) (.ref p) (rh.new hp ⟨_, upd_same, (r1.cut lo hi).le (Le.new hp)⟩)⟩
    · exact hw.elim
  · exact hw.elim
end
end DL

/-! DL, part C4: dict(xs) of a tuple of pairs -/
namespace DL
open PySem PySem.Spec PyProof.Rows L2

theorem tup_keys_none : typeLookup (.type "tuple") "keys" = pure none := am_miss_of_fast (by first | decide +kernel | rfl)
section
variable {prog : Program} {w : World} {A : Around} {E : Value → Shared → Prop}
/-- a tuple has no attribute 'keys' -/
theorem miss_tup {s : Shared} {a : Addr} {o : Obj} {xs : Array Value} {k : Nat} {Q : Option Value → Shared → Prop} (hx : s.heap.get? a = some o) (hc : o.cls = .type "tuple") (hdat : o.data = .seq xs k) (hd : o.dict = none) (hA : A.handled = none)
    (h : ∀ h' tk, (∀ b ob, s.heap.get? b = some ob → h'.get? b = some ob) → Q none { s with heap := h', toks := tk }) : wpAny (model prog w) A (getAttr? (.ref a) "keys") Q E s := by
  obtain ⟨c, dct, dat, sl⟩ := o
  simp only at hc hdat hd
  subst hc hdat hd
  obtain ⟨hp, g, d, tk, os⟩ := s
  have q1 : ∀ k2, (⟨hp, g, d, k2, os⟩ : Shared).TypeIs (.ref a) "tuple" := fun _ => ⟨_, hx, rfl⟩
  have q2 := tup_keys_none
  have q3 : (["__module__", "__name__", "__qualname__", "__doc__", "__annotations__"] : List Str).contains "keys" = false := by decide +kernel
  have q4 : ("keys" : Str).length + 100 ≤ sizeLine := by first | size_fits | decide +kernel
  have q5 := sub_AttributeError
  have q6 := PySem.F.slot_tuple_getattribute.lookup
  have q7 := PySem.F.slot_tuple_getattribute.bind (.ref a)
  have q8 := am_tuple_getattr_none
  unfold getAttr? getAttrBy? getAttrBy
  repeat (any_goals (first | assumption | exact q1 _ | ((with_reducible show wpAny _ _ (call (Value.builtin "tuple.__getattribute__") _ _) _ _ _); refine call_meets PySem.F.slot_tuple_getattribute (q1 _) am_entry_tuple_getattribute (PySem.F.args_tuple_getattribute_2 _ _) (meets_getattribute_miss_tuple a xs k sl "keys" _ q2 q3 q4) ⟨hx, hA, fun g2 k2 e x2 => ?_⟩) | wp_step))
  obtain ⟨_, _, he⟩ := x2.there
  show wpAny _ _ (getattributeRaised _ _ _ _ _ _ _) _ _ _
  unfold getattributeRaised
  repeat (any_goals (first | assumption | wp_step))
  all_goals first | exact h _ _ x2.keeps | (dsimp only; repeat (any_goals (first | assumption | exact h _ _ x2.keeps | wp_step)))

/-- the walk over a tuple of pairs -/
theorem upd_tup {R : Result → Shared → Prop} {S I l : Addr} {vs : Array Value} {res : Value} (hh : A.handled = none) (n1 : l ≠ I) (n2 : S ≠ I) (n3 : S ≠ l) :
    ∀ (rest : List (Key × Value)) (i : Nat) (acc : List (Key × Value)) (ix : Int) (t : Tok) (s : Shared), vs.size = i + rest.length → acc.length + rest.length ≤ sizeLine →
      (∀ (j : Nat) (q : Key × Value), rest[j]? = some q → ∃ (b : Addr) (u : Value), vs[i + j]? = some (.ref b) ∧ b ≠ S ∧ b ≠ I ∧ IsTup s.heap b #[u, q.2] ∧ keyIs q.1 u = true) →
      s.heap.IsTupleIter I l i → s.heap.IsTuple l vs → s.heap.DictOf (mixKind prog w) S acc →
      (∀ g k, g.DictOf (mixKind prog w) S (merged acc rest) → (∀ b o, b ≠ S → b ≠ I → s.heap.get? b = some o → g.get? b = some o) → R (.ok (.ret res)) { s with heap := g, toks := k }) →
      codeAny (model prog w) A (.builtin "dict.update.loop" ⟨[.ref S, .ref I, .int ix t, res], []⟩) R s
  | [], i, acc, ix, t, s, hz, hl, ht, hi, hl2, hm, hR => by
    refine codeAny_builtin ud_entry ?_
    rw [Around.under_plainId ud_plain _]
    show wpAny _ A.in1 (pyNext (.ref I) >>= _) _ _ s
    refine wpAny_bind ((Walks.tuple (A := A.in1) (w := w) (prog := prog) hh I l n1 vs).done s _ _ (by rw [hz]; exact ⟨hi, hl2⟩) fun g k kp => ?_)
    show wpAny _ A.in1 (Builtin.Dict.addKeywords S [] >>= _) _ _ _
    refine wpAny_bind (wpAny_pure (wpAny_pure ?_))
    exact hR g k (hm.at fun o e => kp S o (by simpa using n2) e) fun b o _ b2 e => kp b o (by simpa using b2) e
  | q :: rest, i, acc, ix, t, s, hz, hl, ht, hi, hl2, hm, hR => by
    obtain ⟨b, u, hb, b1, b2, ht1, hk⟩ := ht 0 q rfl
    rw [List.length_cons] at hz hl
    refine codeAny_builtin ud_entry ?_
    rw [Around.under_plainId ud_plain _]
    show wpAny _ A.in1 (pyNext (.ref I) >>= _) _ _ s
    refine wpAny_bind ((Walks.tuple (A := A.in1) (w := w) (prog := prog) hh I l n1 vs).item i s _ _ (by omega) ⟨hi, hl2⟩ fun v g k hv st kp => ?_)
    have ev : v = .ref b := Option.some.inj ((show vs[i]? = some v from hv).symm.trans (by simpa using hb))
    subst ev
    have kp' : ∀ c o, c ≠ I → s.heap.get? c = some o → g.get? c = some o := fun c o hc e => kp c o (by simpa using hc) e
    have t1 : IsTup g b #[u, q.2] := by
      obtain ⟨o, ho, r⟩ := ht1
      exact ⟨o, kp' b o b2 ho, r⟩
    have m1 : g.DictOf (mixKind prog w) S acc := hm.at fun o e => kp' S o n2 e
    obtain ⟨o, ho, hc, n, hd⟩ := id t1
    show wpAny _ A.in1 (holding [Value.ref b] _ >>= _) _ _ _
    refine wpAny_bind (wpAny_holding ?_)
    refine wpAny_bind (wpAny_tryCatch ?_)
    unfold Builtin.Dict.pairItems
    refine wpAny_bind (wpAny_typeOf (T := "tuple") ⟨o, ho, hc⟩ ?_)
    rw [if_pos (by first | decide | rfl | simp)]
    refine wpAny_bind (wpAny_seqItems ho hd (wpAny_pure ?_))
    show wpAny _ A.in1 (holding [u, q.2] (dictSet S u q.2)) _ _ _
    refine wpAny_holding (wpAny_dictSet_pairs (knd := mixKind prog w) (k := q.1) hk m1 (fun g2 m2 sb => ?_) (by omega))
    refine wpAny_pure ⟨plainId_quiet ud_plain _, upd_tup (vs := vs) hh n1 n2 n3 rest (i + 1) (stored acc q.1 q.2) (ix + 1) 0 _ (show vs.size = i + 1 + rest.length by omega) ?_ (fun j q' e => ?_) ?_ ?_ m2 fun g3 k3 m3 kp3 => ?_⟩
    · have z := stored_length_le acc q.1 q.2
      omega
    · obtain ⟨b', u', c1, c2, c3, c4, c5⟩ := ht (j + 1) q' (by simpa using e)
      obtain ⟨o', ho', r'⟩ := c4
      refine ⟨b', u', ?_, c2, c3, ⟨o', (sb.2 b' c2).trans (kp' b' o' c3 ho'), r'⟩, c5⟩
      rw [show i + 1 + j = i + (j + 1) by omega]
      exact c1
    · exact st.1.at fun o' e => (sb.2 I (Ne.symm n2)).trans e
    · exact st.2.at fun o' e => (sb.2 l (Ne.symm n3)).trans e
    · exact hR g3 k3 m3 fun c oc d1 d2 e => kp3 c oc d1 d2 ((sb.2 c d1).trans (kp' c oc d2 e))
end
end DL

/-! DL, part C5: dict(xs): of pairs, of a dict -/
namespace DL
open PySem PySem.Spec PyProof.Rows L2

section
variable {prog : Program} {w : World} {A : Around} {E : Value → Shared → Prop}
theorem call_dict_tup {s : Shared} {l : Addr} {ol : Obj} {vs : Array Value} {n : Nat} {prs : List (Key × Value)} {Q : Value → Shared → Prop} (hh : A.handled = none) (hl : s.heap.get? l = some ol) (hc : ol.cls = .type "tuple") (hd : ol.dict = none)
    (hdat : ol.data = .seq vs n) (hz : vs.size = prs.length) (hn : prs.length ≤ sizeLine)
    (ht : ∀ (j : Nat) (q : Key × Value), prs[j]? = some q → ∃ (b : Addr) (u : Value), vs[j]? = some (.ref b) ∧ IsTup s.heap b #[u, q.2] ∧ keyIs q.1 u = true)
    (h : ∀ g k, g.DictOf (mixKind prog w) s.heap.objs.size (merged [] prs) → (∀ b o, s.heap.get? b = some o → g.get? b = some o) → Q (.ref s.heap.objs.size) { s with heap := g, toks := k }) :
    wpAny (model prog w) A (call (.type "dict") [.ref l]) Q E s := by
  refine callType_codes (Q₁ := fun x t => x = .ref s.heap.objs.size ∧ t = { s with heap := s.heap.push { cls := .type "dict", data := .dict #[] } }) PySem.F.kt_called_dict (PySem.F.kt_typeCall_dict_1 _) PySem.F.entry_dict_init (kt_code_dict_new _ ⟨rfl, rfl⟩) ?_
  rintro x t ⟨rfl, rfl⟩
  have d0 : (s.heap.push { cls := .type "dict", data := .dict #[] }).DictOf (mixKind prog w) s.heap.objs.size [] := Heap.DictOf.new s.heap
  have k0 : ∀ b o, s.heap.get? b = some o → (s.heap.push { cls := .type "dict", data := .dict #[] }).get? b = some o := fun b o e => Heap.get?_push_of_some _ e
  refine ⟨d0.typeIs, PySem.F.args_dict_init_2 _ _, ?_⟩
  unfold Builtin.«dict.__init__»
  refine wpAny_bind ?_
  unfold Builtin.Dict.selfAndRest
  refine wpAny_bind (wpAny_notOrdered_dict d0.typeIs ?_)
  show wpAny _ _ (pure (s.heap.objs.size, [Value.ref l])) _ _ _
  refine wpAny_pure ?_
  show wpAny _ _ (Builtin.Dict.updateFrom "dict.__init__" s.heap.objs.size (.ref l) [] .none) _ _ _
  unfold Builtin.Dict.updateFrom
  refine wpAny_bind (wpAny_typeOf (T := "tuple") ⟨ol, k0 _ _ hl, hc⟩ ?_)
  rw [if_pos (by first | decide | rfl | simp)]
  refine wpAny_bind (miss_tup (k0 _ _ hl) hc hdat hd hh fun h1 t1 k1 => ?_)
  rw [if_pos (show (none : Option Value).isNone = true from rfl)]
  refine wpAny_bind (wpAny_rule ?_)
  have l1 : h1.IsTuple l vs := ⟨ol, k1 _ _ (k0 _ _ hl), hc, n, hdat⟩
  have s1 : s.heap.objs.size < h1.objs.size := Heap.lt_size (k1 _ _ (Heap.get?_push_size _ rfl : (s.heap.push { cls := .type "dict", data := .dict #[] }).get? s.heap.objs.size = some { cls := .type "dict", data := .dict #[] }))
  refine wpAny_bind (wpAny_pyIter_tuple l1 ?_)
  have k2 : ∀ b o, h1.get? b = some o → (h1.push { cls := .type "tuple_iterator", data := .fields #[.ref l, .int 0 0] }).get? b = some o := fun b o e => Heap.get?_push_of_some _ e
  have lt : l < s.heap.objs.size := Heap.lt_size hl
  have run := upd_tup (prog := prog) (w := w) (A := A.in1) (R := wants (fun r t => r = .none ∧ Q (.ref s.heap.objs.size) t) E) (S := s.heap.objs.size) (I := h1.objs.size) (l := l) (vs := vs) (res := Value.none) hh
    (Nat.ne_of_lt (Nat.lt_trans lt s1)) (Nat.ne_of_lt s1) (Nat.ne_of_gt lt) prs 0 [] 0 0
    { s with heap := h1.push { cls := .type "tuple_iterator", data := .fields #[.ref l, .int 0 0] }, toks := t1 } (by rw [hz, Nat.zero_add]) (by rw [List.length_nil, Nat.zero_add]; exact hn)
    (fun j q e => by
      obtain ⟨b, u, e1, ⟨o, ho, r⟩, e3⟩ := ht j q e
      have hb : b < s.heap.objs.size := Heap.lt_size ho
      exact ⟨b, u, by rw [Nat.zero_add]; exact e1, Nat.ne_of_lt hb, Nat.ne_of_lt (Nat.lt_trans hb s1), ⟨o, k2 _ _ (k1 _ _ (k0 _ _ ho)), r⟩, e3⟩)
    ⟨_, Heap.get?_push_size _ rfl, rfl, rfl⟩ (l1.at fun o e => k2 _ _ e) ((d0.at fun o e => k1 _ _ e).at fun o e => k2 _ _ e)
    (fun g k m kp => ⟨rfl, h g k m fun b o e => kp b o (Nat.ne_of_lt (Heap.lt_size e)) (Nat.ne_of_lt (Nat.lt_trans (Heap.lt_size e) s1)) (k2 _ _ (k1 _ _ (k0 _ _ e)))⟩)
  first
    | exact wpAny_pure ⟨plainId_quiet ud_plain _, run⟩
    | exact wpAny_bind (wpAny_pure (wpAny_pure ⟨plainId_quiet ud_plain _, run⟩))
end
section
variable {X : Cx}
theorem call_dictT (hc : X.calm = true) : CallR X (.type "dict") (fun xs H Q => ∃ (a : Addr) (ps : List Addr) (kvs : List (Key × V)), xs = [.ref a] ∧ NoD H a ∧ SqT X.K H a (ps.map V.ref) ∧ Paired (fun p kv => SqT X.K H p [kV kv.1, kv.2]) ps kvs ∧
    ∀ p, H p = none → Q (.ref p) (upd H p (.dK (mergeK [] kvs)))) := by
  intro pins s σ H xs us Q I r ⟨a, ps, kvs, e, ⟨o', u, hn, hd⟩, hq, hp, q⟩
  subst e
  rw [Vals.ref1 r]
  obtain ⟨its, rv, ⟨o, ho, hcl, n, hdat⟩, hz⟩ := I.tuple hq
  have eo : o' = o := by
    have z := (I.hok a _ hn).1
    rw [ho] at z
    exact (Option.some.inj z).symm
  subst eo
  cases refs_at rv
  rw [List.length_map] at hz
  obtain ⟨prs, rel, hl, hpr⟩ := pairs_of I hp
  refine call_dict_tup (prs := prs) (I.ok.hd hc) ho hcl hd hdat (by simp [hl]) (by rw [hl]; exact hz) (fun j q' e => ?_) fun g k m kp => ?_
  · obtain ⟨b, u, e1, e2, e3⟩ := hpr j q' e
    exact ⟨b, u, by simp [e1], e2, e3⟩
  · have hm : (s.heap.objs.size == sysModules) = false := beq_eq_false_iff_ne.mpr (Nat.ne_of_gt I.big)
    have hlen : (mergeK [] kvs).length ≤ sizeLine := by
      refine Nat.le_trans (length_mergeK kvs []) ?_
      rw [List.length_nil, Nat.zero_add, rel.length, hl]
      exact hz
    exact ⟨.ref s.heap.objs.size, upd H s.heap.objs.size (.dK (mergeK [] kvs)), I.laid (t' := k) kp (Nat.le_refl _) (show ObjOk X.prog X.w _ _ _ (.dK (mergeK [] kvs)) from ⟨hlen, hm, merged [] prs, KV.merge rel .nil, m⟩), rfl, q _ (I.hok.fresh (Nat.le_refl _))⟩
end
/-! ### by deep values -/
theorem mergeK_nd : ∀ (more acc : List (Key × V)), ((acc ++ more).map (·.1)).Nodup → mergeK acc more = acc ++ more
  | [], acc, _ => by
    show acc = acc ++ []
    rw [List.append_nil]
  | kv :: more, acc, nd => by
    have e1 : putK acc kv.1 kv.2 = acc ++ [kv] := by
      have no : ∀ q ∈ acc, q.1 ≠ kv.1 := fun q hq e => by
        rw [List.map_append, List.map_cons] at nd
        have := (List.nodup_append.mp nd).2.2 q.1 (List.mem_map_of_mem hq) kv.1 List.mem_cons_self
        exact this e
      unfold putK
      rw [if_neg]
      intro hc
      obtain ⟨q, hq, e⟩ := List.any_eq_true.mp hc
      exact no q hq (by simpa using e)
    show mergeK (putK acc kv.1 kv.2) more = _
    rw [e1, mergeK_nd more _ (by rw [List.append_assoc]; exact nd), List.append_assoc]
    rfl
/-- a pair of a key and what stands under it -/
def prD (kv : Key × D) : D := .tup [keyD kv.1, kv.2]
theorem prs_rd {K : PySem.W.Frag} {H : Hp} : ∀ {kvs : List (Key × D)} {vs : List V}, RDs K H vs (kvs.map prD) → ∃ (ps : List Addr) (gs : List (Key × V)), vs = ps.map V.ref ∧ Paired (fun p kv => SqT K H p [kV kv.1, kv.2]) ps gs ∧ RPs K H gs kvs
  | [], _, r => by cases r; exact ⟨[], [], rfl, .nil, .nil⟩
  | kv :: kvs, _, r => by
    cases r with
    | cons a b =>
      obtain ⟨ps, gs, rfl, p, q⟩ := prs_rd b
      cases a with
      | @tup a vs _ h1 r1 =>
        obtain ⟨x, y, rfl, rx, ry⟩ := r1.two
        have ex : x = kV kv.1 := by
          obtain ⟨k, d⟩ := kv
          cases k with
          | inl i => cases rx; rfl
          | inr i => cases rx; rfl
        subst ex
        exact ⟨a :: ps, (kv.1, y) :: gs, rfl, .cons (.inl (.inl h1)) p, .cons ⟨rfl, ry⟩ q⟩
theorem rps_kk {κ : Type} {K : PySem.W.Frag} {H : Hp} : ∀ {gs : List (κ × V)} {fs : List (κ × D)}, RPs K H gs fs → gs.map (·.1) = fs.map (·.1)
  | _, _, .nil => rfl
  | _, _, .cons a b => by rw [List.map_cons, List.map_cons, rps_kk b, a.1]
def wPrs (z : Bool) (xs : List D) (h : DH) (Q : QD) : Prop := ∃ kvs : List (Key × D), xs = kvs.map prD ∧ (kvs.map (·.1)).Nodup ∧ al z (.dK kvs) h Q
/-- dict(x): of pairs, or of a dict -/
def wDct (z : Bool) (x : D) (h : DH) (Q : QD) : Prop := match x with
  | .dk kvs => al z (.dK kvs) h Q
  | .fl xs => wPrs z xs h Q
  | .kt true xs => wPrs z xs h Q
  | .ref a => match h a with
    | some (.dK kvs) => al z (.dK kvs) h Q
    | some (.lst xs) => wPrs z xs h Q
    | _ => False
  | _ => False
theorem wPrs_frz {xs : List D} {h : DH} {Q : QD} (q : wPrs true xs h Q) : wPrs false xs h fun d h' => wFrz d h' Q := by
  obtain ⟨kvs, a, b, q⟩ := q
  exact ⟨kvs, a, b, al_frz q⟩
theorem wDct_frz {x : D} {h : DH} {Q : QD} (q : wDct true x h Q) : wDct false x h fun d h' => wFrz d h' Q := by
  unfold wDct at q ⊢
  split at q
  · exact al_frz q
  · exact wPrs_frz q
  · exact wPrs_frz q
  · split at q
    · exact al_frz q
    · exact wPrs_frz q
    · exact q.elim
  · exact q.elim
section
variable {X : Cx} {C : CA}
theorem dct_ok (hc : X.calm = true) {d : D} {v : V} {us : List Value} {pins : List (Addr × Obj)} {s : Shared} {σ : L2.St} {H : Hp} {h : DH} {Q : VK} {Q0 : QD} (I : Inv X pins σ H s) (rv : Vals [v] us) (rd : RD X.K H v d) (rh : RH X.K C H h) (hw : wDct false d h Q0) (hq : ∀ r h', Q0 r h' → LQ X.K C H h Q r h') :
    wpAny (model X.prog X.w) X.A (call (.type "dict") us) (EP X pins σ Q) X.xe s := by
  have cp : ∀ {a : Addr} {gs : List (Key × V)} {kvs : List (Key × D)}, v = .ref a → Rd H a (.dK gs) → RPs X.K H gs kvs → al false (.dK kvs) h Q0 → wpAny (model X.prog X.w) X.A (call (.type "dict") us) (EP X pins σ Q) X.xe s := by
    intro a gs kvs ev hr r hw
    subst ev
    rw [Vals.ref1 rv]
    exact d_copyOf I hr fun p s' hp I' => ⟨.ref p, _, I', rfl, (hq _ _ (hw p (rh.free hp))) _ _ (Ste.new hp) (.ref _) (rh.new hp ⟨_, upd_same, r.le (Le.new hp)⟩)⟩
  have ls : ∀ {a : Addr} {vs : List V} {xs : List D}, v = .ref a → SqL X.K H a vs → RDs X.K H vs xs → wPrs false xs h Q0 → wpAny (model X.prog X.w) X.A (call (.type "dict") us) (EP X pins σ Q) X.xe s := by
    intro a vs xs ev hs r ⟨kvs, e, nd, hw⟩
    subst e
    obtain ⟨ps, gs, rfl, p, q⟩ := prs_rd r
    have em : mergeK [] gs = gs := mergeK_nd gs [] (by rw [List.nil_append, rps_kk q]; exact nd)
    exact call_dictP hc pins s σ H _ us Q I rv ⟨a, ps, gs, by rw [ev], hs, p, fun l hl => by rw [em]; exact (hq _ _ (hw l (rh.free hl))) _ _ (Ste.new hl) (.ref _) (rh.new hl ⟨_, upd_same, q.le (Le.new hl)⟩)⟩
  unfold wDct at hw
  split at hw
  · cases rd with
    | dk h1 r1 => exact cp rfl (.inr ⟨_, h1⟩) r1.to hw
  · cases rd with
    | fl h1 r1 => exact ls rfl h1.seq r1 hw
  · cases rd with
    | kt h1 n1 r1 =>
      obtain ⟨kvs, e, nd, hw⟩ := hw
      subst e
      obtain ⟨ps, gs, rfl, p, q⟩ := prs_rd r1
      have em : mergeK [] gs = gs := mergeK_nd gs [] (by rw [List.nil_append, rps_kk q]; exact nd)
      exact call_dictT hc pins s σ H _ us Q I rv ⟨_, ps, gs, rfl, n1 rfl, h1, p, fun l hl => by rw [em]; exact (hq _ _ (hw l (rh.free hl))) _ _ (Ste.new hl) (.ref _) (rh.new hl ⟨_, upd_same, q.le (Le.new hl)⟩)⟩
  · cases rd
    split at hw
    · rename_i a kvs ha
      obtain ⟨gs, h1, r1⟩ := rh _ _ ha
      exact cp rfl (.inl h1) r1 hw
    · rename_i a xs ha
      obtain ⟨vs, h1, r1⟩ := rh _ _ ha
      exact ls rfl (.inl (.inl h1)) r1 hw
    · exact hw.elim
  · exact hw.elim
end
end DL

/-! DL, part D: built-in functions by values -/
namespace DL
open PySem PySem.Spec PyProof.Rows L2

inductive Blt where
  | len | abs | max | min | sum | sorted | list | tuple | int | str | repr | all | any | bool | ptup | dict
  deriving DecidableEq

def iL (ns : List Int) : List D := ns.map .int
def bL (bs : List Bool) : List D := bs.map .bl
def wLen (x : D) (h : DH) (Q : QD) : Prop := match x with
  | .str z => z.length ≤ 16777216 ∧ Q (.int z.length) h
  | .ref a => match h a with
    | some (.lst xs) => Q (.int xs.length) h
    | some (.dK kvs) => Q (.int kvs.length) h
    | _ => False
  | .dk kvs => Q (.int kvs.length) h
  | x => match seqOf x h with
    | some xs => Q (.int xs.length) h
    | none => False
def kPy : Key → PyData
  | .inl i => .int i
  | .inr x => .str x
def keysT (kvs : List (List Key × D)) : List D := kvs.map fun kv => .tup (kv.1.map keyD)
def keysP (kvs : List (List Key × D)) : List PyData := kvs.map fun kv => .tuple (kv.1.map kPy)
def wSorted (z : Bool) (x : D) (h : DH) (Q : QD) : Prop := match lstOf x h with
  | some xs => ∃ enc : D → PyData, (∀ d ∈ xs, DPy h d (enc d)) ∧ PySem.W.AllAlike (xs.map enc) ∧ PySem.W.Sortable (xs.map enc) ∧ (∀ d ∈ xs, (enc d).depth ≤ 60) ∧ xs.length ≤ 16777216 ∧
      al z (.lst (xs.mergeSort (PySem.W.dataLe false enc))) h Q
  | none => match x with
    | .ref a => match h a with
      | some (.dK kvs) => ∃ ks : List Int, kvs.map (·.1) = ks.map Sum.inl ∧ ks.length < 64 ∧ ∀ (ys : List Int), ys.Perm ks → ys.Pairwise (· ≤ ·) → al z (.lst (iL ys)) h Q
      | _ => False
    | .dk kvs => ∃ ks : List Int, kvs.map (·.1) = ks.map Sum.inl ∧ ks.length < 64 ∧ ∀ (ys : List Int), ys.Perm ks → ys.Pairwise (· ≤ ·) → al z (.lst (iL ys)) h Q
    | .dt kvs => ∃ enc : D → PyData, (keysT kvs).map enc = keysP kvs ∧ PySem.W.AllAlike (keysP kvs) ∧ PySem.W.Sortable (keysP kvs) ∧ kvs.length ≤ 16777216 ∧ al z (.lst ((keysT kvs).mergeSort (PySem.W.dataLe false enc))) h Q
    | _ => False
/-! data as repr shows them: dicts of ints and texts, too -/
mutual
inductive DRp (h : DH) : D → PyData → Prop
  | non : DRp h .non .none
  | bl (b : Bool) : DRp h (.bl b) (.bool b)
  | int (i : Int) : DRp h (.int i) (.int i)
  | str (x : Str) : DRp h (.str x) (.str x)
  | tup {xs : List D} {ps : List PyData} : DRps h xs ps → DRp h (.tup xs) (.tuple ps)
  | lst {a : Addr} {xs : List D} {ps : List PyData} : h a = some (.lst xs) → DRps h xs ps → DRp h (.ref a) (.list ps)
  | dct {a : Addr} {kvs : List (Key × D)} {ps : List (PyData × PyData)} : h a = some (.dK kvs) → DRks h kvs ps → DRp h (.ref a) (.dict ps)
  | kt {z : Bool} {xs : List D} {ps : List PyData} : DRps h xs ps → DRp h (.kt z xs) (.tuple ps)
  | fl {xs : List D} {ps : List PyData} : DRps h xs ps → DRp h (.fl xs) (.list ps)
  | dk {kvs : List (Key × D)} {ps : List (PyData × PyData)} : DRks h kvs ps → DRp h (.dk kvs) (.dict ps)
inductive DRps (h : DH) : List D → List PyData → Prop
  | nil : DRps h [] []
  | cons {d : D} {xs : List D} {p : PyData} {ps : List PyData} : DRp h d p → DRps h xs ps → DRps h (d :: xs) (p :: ps)
inductive DRks (h : DH) : List (Key × D) → List (PyData × PyData) → Prop
  | nil : DRks h [] []
  | cons {k : Key} {d : D} {kvs : List (Key × D)} {p : PyData} {ps : List (PyData × PyData)} : DRp h d p → DRks h kvs ps → DRks h ((k, d) :: kvs) ((kPy k, p) :: ps)
end
def wRepr (x : D) (h : DH) (Q : QD) : Prop := ∃ p : PyData, (DPy h x p ∨ DRp h x p) ∧ p.showable = true ∧ p.depth ≤ 60 ∧ p.shown.length ≤ 16777216 ∧ Q (.str p.shown) h
def wB (z : Bool) (b : Blt) (xs : List D) (h : DH) (Q : QD) : Prop := match b, xs with
  | .len, [x] => wLen x h Q
  | .abs, [.int i] => Q (.int (if i < 0 then -i else i)) h
  | .max, [.int i, .int j] => Q (.int (if j > i then j else i)) h
  | .min, [.int i, .int j] => Q (.int (if j < i then j else i)) h
  | .max, [.int i, .int j, .int k] => Q (.int (if j > i then (if k > j then k else j) else (if k > i then k else i))) h
  | .min, [.int i, .int j, .int k] => Q (.int (if j < i then (if k < j then k else j) else (if k < i then k else i))) h
  | .max, [x] => match lstOf x h with
    | some xs => (∃ ns, xs = iL ns ∧ 0 < ns.length ∧ ∀ m, m ∈ ns → (∀ y, y ∈ ns → y ≤ m) → Q (.int m) h) ∨
        ∃ p ps, DPys h xs (p :: ps) ∧ PySem.W.AlikeAll (p :: ps) ∧ PyData.depthAll (p :: ps) ≤ 60 ∧ ∀ (d : D) (i : Nat), xs[i]? = some d → (p :: ps)[i]? = some (PySem.W.maxD p ps) → Q d h
    | none => False
  | .min, [x] => match lstOf x h with
    | some xs => (∃ ns, xs = iL ns ∧ 0 < ns.length ∧ ∀ m, m ∈ ns → (∀ y, y ∈ ns → m ≤ y) → Q (.int m) h) ∨
        ∃ p ps, DPys h xs (p :: ps) ∧ PySem.W.AlikeAll (p :: ps) ∧ PyData.depthAll (p :: ps) ≤ 60 ∧ ∀ (d : D) (i : Nat), xs[i]? = some d → (p :: ps)[i]? = some (PySem.W.minD p ps) → Q d h
    | none => False
  | .sum, [x] => match seqOf x h with
    | some xs => ∃ ns, xs = iL ns ∧ Q (.int ns.sum) h
    | none => False
  | .all, [x] => match lstOf x h with
    | some xs => ∃ bs, xs = bL bs ∧ Q (.bl (bs.all id)) h
    | none => False
  | .any, [x] => match lstOf x h with
    | some xs => ∃ bs, xs = bL bs ∧ Q (.bl (bs.any id)) h
    | none => False
  | .sorted, [x] => wSorted z x h Q
  | .list, [x] => match seqOf x h with
    | some xs => al z (.lst xs) h Q
    | none => match x with
      | .dk kvs => al z (.lst (kvs.map fun kv => keyD kv.1)) h Q
      | .ref a => match h a with
        | some (.dK kvs) => al z (.lst (kvs.map fun kv => keyD kv.1)) h Q
        | _ => False
      | _ => False
  | .tuple, [.tup xs] => Q (.tup xs) h
  | .tuple, [x] => match lstOf x h with
    | some xs => Q (.tup xs) h
    | none => False
  | .int, [.int i] => Q (.int i) h
  | .int, [.bl b] => Q (.int (if b then 1 else 0)) h
  | .int, [.str a] => ∃ n, PySem.intText? a = some n ∧ a.length ≤ 640 ∧ Q (.int n) h
  | .str, [.int i] => i.natAbs.log2 < 1920 ∧ Q (.str (toString i)) h
  | .str, [.str x] => Q (.str x) h
  | .repr, [x] => wRepr x h Q
  | .bool, [.int i] => Q (.bl (i != 0)) h
  | .bool, [.bl b] => Q (.bl b) h
  | .ptup, [x] => match lstOf x h with
    | some xs => Q (.kt true xs) h
    | none => False
  | .dict, [x] => wDct z x h Q
  | _, _ => False

def Blt.name : Blt → Str
  | .len => "len" | .abs => "abs" | .max => "max" | .min => "min" | .sum => "sum" | .sorted => "sorted" | .list => "list" | .tuple => "tuple" | .int => "int" | .str => "str" | .repr => "repr" | .all => "all" | .any => "any" | .bool => "bool" | .ptup => "tuple" | .dict => "dict"
def Blt.isTy : Blt → Bool
  | .list | .tuple | .int | .str | .bool | .ptup | .dict => true
  | _ => false
def Blt.id : Blt → String
  | .len => "len" | .abs => "abs" | .max => "max" | .min => "min" | .sum => "sum" | .sorted => "sorted" | .list => "list" | .tuple => "tuple" | .int => "int" | .str => "str" | .repr => "repr" | .all => "all" | .any => "any" | .bool => "bool" | .ptup => "tuple" | .dict => "dict"
def Blt.val (b : Blt) : Value := if b.isTy then .type b.id else .builtin b.id

section
variable {X : Cx} {C : CA} {K : PySem.W.Frag} {H : Hp} {h : DH}
/-- tuple(xs): what is made is known whole -/
theorem call_ptup {X : Cx} : CallR X (.type "tuple") (fun xs H Q => ∃ p ys, xs = [.ref p] ∧ SqL X.K H p ys ∧ ∀ (l : Addr) (o : Obj), H l = none → o.dict = none → Q (.ref l) (upd H l (.frz o (.tup ys)))) := by
  intro pins s σ H xs us Q I r ⟨p, ys, e, hq, q⟩
  subst e
  rw [Vals.ref1 r]
  obtain ⟨its, r', pl, hz⟩ := I.list hq
  have hlen := r'.length
  refine call_tuple_list pl.isList (fun h' kp => ?_) (by simp only [List.size_toArray]; omega)
  have I1 : Inv X pins σ H { s with heap := h' } := I.kept (t' := s.toks) kp
  exact ⟨.ref h'.objs.size, _, I1.laid (t' := s.toks) (fun b o e => Heap.get?_push_of_some _ e) (Nat.le_refl _) (show ObjOk X.prog X.w _ _ _ (.frz { cls := .type "tuple", data := .seq its.toArray } (.tup ys)) from ⟨Heap.get?_push_size _ rfl, hz, its, r', IsTup.new _ _⟩), rfl, q _ _ (I1.hok.fresh (Nat.le_refl _)) rfl⟩
theorem iL_rd : ∀ {ns : List Int} {vs : List V}, RDs K H vs (iL ns) → vs = ns.map V.int
  | [], _, r => by cases r; rfl
  | n :: ns, _, r => by
    cases r with
    | cons a b => cases a; rw [iL_rd b]; rfl
theorem bL_rd : ∀ {ns : List Bool} {vs : List V}, RDs K H vs (bL ns) → vs = ns.map V.bl
  | [], _, r => by cases r; rfl
  | n :: ns, _, r => by
    cases r with
    | cons a b => cases a; rw [bL_rd b]; rfl
theorem lstOf_rd {x : D} {xs : List D} {v : V} (rh : RH K C H h) (r : RD K H v x) (e : lstOf x h = some xs) : ∃ p vs, v = .ref p ∧ SqL K H p vs ∧ RDs K H vs xs := by
  unfold lstOf at e
  split at e
  · cases e
    cases r with
    | fl s r => exact ⟨_, _, rfl, s.seq, r⟩
  · cases r
    split at e
    · rename_i ys ha
      cases e
      obtain ⟨vs, h1, r1⟩ := rh _ _ ha
      exact ⟨_, _, rfl, .inl (.inl h1), r1⟩
    · cases e
  · cases e
theorem seqOf_rd {x : D} {xs : List D} {v : V} (rh : RH K C H h) (r : RD K H v x) (e : seqOf x h = some xs) : ∃ p vs, v = .ref p ∧ (SqL K H p vs ∨ SqT K H p vs) ∧ RDs K H vs xs := by
  unfold seqOf at e
  split at e
  · cases e
    cases r with
    | tup s r => exact ⟨_, _, rfl, .inr (.inl (.inl s)), r⟩
  · cases e
    cases r with
    | kt s _ r => exact ⟨_, _, rfl, .inr s, r⟩
  · cases e
    cases r with
    | fl s r => exact ⟨_, _, rfl, .inl s.seq, r⟩
  · cases r
    split at e
    · rename_i ys ha
      cases e
      obtain ⟨vs, h1, r1⟩ := rh _ _ ha
      exact ⟨_, _, rfl, .inl (.inl (.inl h1)), r1⟩
    · cases e
  · cases e
theorem d_lenR : CallR X (.builtin "len") (fun xs H Q => ∃ a kvs, xs = [.ref a] ∧ H a = some (.dK kvs) ∧ Q (.int kvs.length) H) := by
  intro pins s σ H xs us Q I r ⟨a, kvs, e, ha, q⟩
  subst e
  obtain rfl := Vals.ref1 r
  exact d_len I (.inl ha) fun t s' I' => ⟨.int kvs.length, H, I', ⟨_, rfl⟩, q⟩
theorem d_lenF : CallR X (.builtin "len") (fun xs H Q => ∃ a kvs, xs = [.ref a] ∧ (∃ o, H a = some (.frz o (.dK kvs))) ∧ Q (.int kvs.length) H) := by
  intro pins s σ H xs us Q I r ⟨a, kvs, e, ha, q⟩
  subst e
  obtain rfl := Vals.ref1 r
  exact d_len I (.inr ha) fun t s' I' => ⟨.int kvs.length, H, I', ⟨_, rfl⟩, q⟩
theorem len_ok {d : D} {v : V} {us : List Value} {pins : List (Addr × Obj)} {s : Shared} {σ : L2.St} {Q : VK} {Q0 : QD} (I : Inv X pins σ H s) (rv : Vals [v] us) (rd : RD X.K H v d) (rh : RH X.K C H h) (hw : wLen d h Q0) (hq : ∀ r h', Q0 r h' → LQ X.K C H h Q r h') :
    wpAny (model X.prog X.w) X.A (call (.builtin "len") us) (EP X pins σ Q) X.xe s := by
  have hz := sizeLine_eq
  unfold wLen at hw
  split at hw
  · cases rd
    exact call_len pins s σ H _ us Q I rv ⟨_, _, rfl, ⟨by omega, rfl⟩, (hq _ _ hw.2).here (.int _) rh⟩
  · split at hw
    · rename_i a xs ha
      cases rd
      obtain ⟨vs, h1, r1⟩ := rh _ _ ha
      exact call_len pins s σ H _ us Q I rv ⟨_, _, rfl, .inl ⟨vs, .inl (.inl h1), r1.length.symm⟩, (hq _ _ hw).here (.int _) rh⟩
    · rename_i a xs ha
      cases rd
      obtain ⟨vs, h1, r1⟩ := rh _ _ ha
      exact d_lenR pins s σ H _ us Q I rv ⟨_, _, rfl, h1, by have e := r1.length; rw [e]; exact (hq _ _ hw).here (.int _) rh⟩
    · exact hw.elim
  · cases rd with
    | dk h1 r1 =>
      have r1 := r1.to
      exact d_lenF pins s σ H _ us Q I rv ⟨_, _, rfl, ⟨_, h1⟩, by have e := r1.length; rw [e]; exact (hq _ _ hw).here (.int _) rh⟩
  · split at hw
    · rename_i xs hx
      obtain ⟨p, vs, rfl, hs, r1⟩ := seqOf_rd rh rd hx
      exact call_len pins s σ H _ us Q I rv ⟨_, _, rfl, hs.elim (fun z => .inl ⟨vs, z, r1.length.symm⟩) (fun z => .inr ⟨vs, z, r1.length.symm⟩), (hq _ _ hw).here (.int _) rh⟩
    · exact hw.elim
theorem each_of {its : List Value} : ∀ {vs : List V} {xs : List D}, Vals vs its → RDs K H vs xs → PySem.W.EachIs (fun u d => ∃ v, RelV v u ∧ RD K H v d) its xs := by
  induction its with
  | nil => intro vs xs a b; cases a; cases b; exact .nil
  | cons u us ih =>
    intro vs xs a b
    cases a with
    | cons a1 a2 =>
      cases b with
      | cons b1 b2 => exact .cons ⟨_, a1, b1⟩ (ih a2 b2)
theorem of_each : ∀ {its : List Value} {xs : List D}, PySem.W.EachIs (fun u d => ∃ v, RelV v u ∧ RD K H v d) its xs → ∃ vs, Vals vs its ∧ RDs K H vs xs
  | _, _, .nil => ⟨[], .nil, .nil⟩
  | _, _, .cons ⟨v, a, b⟩ t => by
    obtain ⟨vs, c, d⟩ := of_each t
    exact ⟨v :: vs, .cons a c, .cons b d⟩
theorem rds_iL {K : PySem.W.Frag} {H : Hp} : ∀ ys : List Int, RDs K H (ys.map V.int) (iL ys)
  | [] => .nil
  | y :: ys => .cons (.int y) (rds_iL ys)
theorem rps_keys {κ : Type} [DecidableEq κ] {K : PySem.W.Frag} {H : Hp} : ∀ {gs : List (κ × V)} {fs : List (κ × D)}, RPs K H gs fs → gs.map (·.1) = fs.map (·.1)
  | _, _, .nil => rfl
  | _, _, .cons a b => by rw [List.map_cons, List.map_cons, rps_keys b, a.1]
theorem kPy_reads {hp : Heap} {k : Key} {v : Value} (e : keyIs k v = true) : Reads hp v (kPy k) [] := by
  rcases keyIs_shape e with ⟨i, t, rfl, rfl⟩ | ⟨x, t, rfl, rfl⟩
  · exact .int i t
  · exact .str x t
theorem kV_rd {K : PySem.W.Frag} {H : Hp} (k : Key) : RD K H (kV k) (keyD k) := by
  cases k with
  | inl i => exact .int i
  | inr x => exact .str x
theorem kVs_rd {K : PySem.W.Frag} {H : Hp} : ∀ ks : List Key, RDs K H (ks.map kV) (ks.map keyD)
  | [] => .nil
  | k :: ks => .cons (kV_rd k) (kVs_rd ks)
theorem kV_reads {hp : Heap} {k : Key} {v : Value} (e : RelV (kV k) v) : Reads hp v (kPy k) [] := by
  cases k with
  | inl i => obtain ⟨t, rfl⟩ := e; exact .int i t
  | inr x => obtain ⟨t, rfl⟩ := e; exact .str x t
theorem kVs_reads {hp : Heap} : ∀ {ks : List Key} {us : List Value}, Vals (ks.map kV) us → ReadsAll hp us (ks.map kPy) []
  | [], _, r => by cases r; exact .nil
  | k :: ks, _, r => by
    cases r with
    | cons a b => exact .cons (as := []) (bs := []) (kV_reads a) (kVs_reads b)
theorem kPy_dep : ∀ ks : List Key, PyData.depthAll (ks.map kPy) = 0
  | [] => by simp [PyData.depthAll]
  | k :: ks => by
    rw [List.map_cons, PyData.depthAll, kPy_dep ks]
    cases k <;> simp [kPy, PyData.depth]
theorem each_mp {β γ : Type} {R : Value → γ → Prop} (f : β → γ) : ∀ {vs : List Value} {bs : List β}, PySem.W.EachIs (fun v b => R v (f b)) vs bs → PySem.W.EachIs R vs (bs.map f)
  | _, _, .nil => .nil
  | _, _, .cons h1 t => .cons h1 (each_mp f t)
/-- the key tuples of a dict, walked -/
theorem keys_each {K : PySem.W.Frag} {H : Hp} {kvs : List (List Key × V)} {fs : List (List Key × D)} {acc : List Value} (r : RPs K H kvs fs) (hl : acc.length = kvs.length) (h : ∀ (j : Nat) (u : Value) (k : List Key) (v : V), acc[j]? = some u → kvs[j]? = some (k, v) → ∃ q, u = .ref q ∧ H q = some (.tup (k.map kV))) :
    PySem.W.EachIs (fun u (d : D × PyData) => ∃ q, u = .ref q ∧ ∃ k : List Key, H q = some (.tup (k.map kV)) ∧ d = (.tup (k.map keyD), .tuple (k.map kPy))) acc (fs.map fun kv => (.tup (kv.1.map keyD), .tuple (kv.1.map kPy))) := by
  induction r generalizing acc with
  | nil =>
    cases acc with
    | nil => exact .nil
    | cons _ _ => simp at hl
  | @cons a b as bs h1 h2 ih =>
    cases acc with
    | nil => simp at hl
    | cons u us =>
      obtain ⟨q, e1, e2⟩ := h 0 u a.1 a.2 rfl rfl
      refine .cons ⟨q, e1, a.1, e2, by rw [h1.1]⟩ (ih (by simpa using hl) fun j u k v h3 h4 => h (j + 1) u k v (by simpa using h3) (by simpa using h4))
theorem sorted_dt (hc : X.calm = true) (hu : X.A.units + 62 < cLine) {a : Addr} {o : Obj} {gs : List (List Key × V)} {kvs : List (List Key × D)} {us : List Value} {pins : List (Addr × Obj)} {s : Shared} {σ : L2.St} {Q : VK} {enc : D → PyData} (I : Inv X pins σ H s) (rv : Vals [V.ref a] us) (ha : H a = some (.frz o (.dT gs))) (r1 : RPs X.K H gs kvs)
    (e1 : (keysT kvs).map enc = keysP kvs) (al1 : PySem.W.AllAlike (keysP kvs)) (so : PySem.W.Sortable (keysP kvs)) (hl : kvs.length ≤ 16777216)
    (q : ∀ p ws, H p = none → RDs X.K H ws ((keysT kvs).mergeSort (PySem.W.dataLe false enc)) → Q (.ref p) (upd H p (.lst ws))) :
    wpAny (model X.prog X.w) X.A (call (.builtin "sorted") us) (EP X pins σ Q) X.xe s := by
  have hz := sizeLine_eq
  rw [Vals.ref1 rv]
  obtain ⟨hs, hgd, hx, es, ep, hdt, hsz, ent⟩ := I.frzT ha
  have gl : gs.length = kvs.length := r1.length
  refine Calls.call_function_entry PyProof.Rows.kind_sorted PyProof.Rows.plain_sorted PyProof.Rows.entry_sorted (PyProof.Rows.args_sorted1 _) ?_
  unfold Builtin.«sorted»
  refine wpAny_bind (m := checkCount "sorted" 1 1 _) (wpAny_pure ?_)
  refine wpAny_bind (PySem.W.kdu_collect (A := X.A.in1) (kdl_raw hs hx hdt) (I.ok.hd hc) hgd (by omega) fun h' tk acc hk hacc => ?_)
  have hal : acc.toList.length = gs.length := by rw [Array.length_toList, hacc.1, hsz]
  have el0 := keys_each (acc := acc.toList) r1 hal fun j u k v h3 h4 => by
    obtain ⟨en, hen, hv⟩ := hacc.2 j u (by rw [← Array.getElem?_toList]; exact h3)
    obtain ⟨en', b, h5, h6, h7⟩ := ent j k v h4
    rw [hen] at h5
    cases h5
    exact ⟨b, by rw [hv, h6], h7⟩
  have I1 : Inv X pins σ H { s with heap := h', toks := tk } := I.kept hk
  refine wpAny_bind (wpAny_newList ?_ (by rw [hal]; omega))
  have hoL : (h'.push (seqObj "list" acc.toList.toArray 0)).get? h'.objs.size = some (seqObj "list" acc.toList.toArray 0) := Heap.get?_push_size _ rfl
  show wpAny _ _ _ _ _ { s with heap := h'.push (seqObj "list" acc.toList.toArray 0), toks := tk }
  have I2 : Inv X pins σ H { s with heap := h'.push (seqObj "list" acc.toList.toArray 0), toks := tk } := I1.kept (t' := tk) (fun b ob z => Heap.get?_push_of_some _ z)
  have em : ∀ (l : List (D × PyData)), (∀ p ∈ l, enc p.1 = p.2) → l.map (fun p => enc p.1) = l.map (·.2) := fun l h => List.map_congr_left h
  have ek : ∀ p ∈ kvs.map (fun kv => ((.tup (kv.1.map keyD), .tuple (kv.1.map kPy)) : D × PyData)), enc p.1 = p.2 := fun p hp => by
    obtain ⟨kv, hkv, rfl⟩ := List.mem_map.mp hp
    unfold keysT keysP at e1
    rw [List.map_map] at e1
    exact List.map_inj_left.mp e1 kv hkv
  have m1 : (kvs.map (fun kv => ((.tup (kv.1.map keyD), .tuple (kv.1.map kPy)) : D × PyData))).map (·.1) = keysT kvs := by unfold keysT; rw [List.map_map]; rfl
  have el : PySem.W.EachIs (fun u (d : D) => ∃ v, RelV v u ∧ RD X.K H v d) acc.toList (keysT kvs) := by
    rw [← m1]
    exact each_mp (R := fun u (d : D) => ∃ v, RelV v u ∧ RD X.K H v d) (·.1) (el0.mono fun u p ⟨b, e2, k, h8, h9⟩ => ⟨.ref b, by rw [e2]; rfl, by rw [h9]; exact .tup h8 (kVs_rd k)⟩)
  have er : PySem.W.EachIs (fun u (d : D) => ∃ as, Reads (h'.push (seqObj "list" acc.toList.toArray 0)) u (enc d) as ∧ h'.objs.size ∉ as) acc.toList (keysT kvs) := by
    rw [← m1]
    refine each_mp (R := fun u (d : D) => ∃ as, Reads (h'.push (seqObj "list" acc.toList.toArray 0)) u (enc d) as ∧ h'.objs.size ∉ as) (·.1) ((PySem.W.each_mem el0).mono fun u p ⟨⟨b, e2, k, h8, h9⟩, hp⟩ => ?_)
    rw [ek p hp, e2, h9]
    obtain ⟨its, rv, ⟨o, ho, hc, n, hd⟩, _⟩ := I2.tuple (.inl (.inl h8))
    exact ⟨[], .tuple ho hc hd (kVs_reads rv), by simp⟩
  have hk2 : (keysT kvs).length = kvs.length := by unfold keysT; rw [List.length_map]
  refine wpAny_bind (wpAny_holding (PySem.W.list_sort_data (s := { s with heap := h'.push (seqObj "list" acc.toList.toArray 0), toks := tk }) (enc := enc) hoL el er (by rw [e1]; exact al1) (by rw [e1]; exact so) (by omega) (fun b hb => ?_) fun out hz2 eo => ?_))
  · have : enc b ∈ keysP kvs := by rw [← e1]; exact List.mem_map_of_mem hb
    obtain ⟨kv, _, e9⟩ := List.mem_map.mp this
    rw [← e9, PyData.depth, kPy_dep]
    show X.A.units + 1 + 1 + _ < cLine
    omega
  obtain ⟨ws, w1, w2⟩ := of_each eo
  obtain ⟨e', he'⟩ := PyProof.Rows.sortedHeap_at (vs := acc.toList) (out := out.toArray) hoL
  refine wpAny_pure ⟨_, rfl, .ref h'.objs.size, upd H h'.objs.size (.lst ws), I1.laid (t' := tk) (fun b u e => ?_) (Nat.le_refl _)
    (show ObjOk X.prog X.w _ _ _ (.lst ws) from ⟨by have := w1.length; omega, out, e', w1, he'⟩), rfl, q _ ws (I1.hok.fresh (Nat.le_refl _)) w2⟩
  have hb : b < h'.objs.size := Heap.lt_size e
  rw [PyProof.Rows.sortedHeap_old (Nat.ne_of_lt hb) (by rw [size_push']; exact Nat.lt_succ_of_lt hb)]
  exact Heap.get?_push_of_some _ e
theorem sorted_ok (hc : X.calm = true) (hu : X.A.units + 62 < cLine) {d : D} {v : V} {us : List Value} {pins : List (Addr × Obj)} {s : Shared} {σ : L2.St} {Q : VK} {Q0 : QD} (I : Inv X pins σ H s) (rv : Vals [v] us) (rd : RD X.K H v d) (rh : RH X.K C H h) (hw : wSorted false d h Q0) (hq : ∀ r h', Q0 r h' → LQ X.K C H h Q r h') :
    wpAny (model X.prog X.w) X.A (call (.builtin "sorted") us) (EP X pins σ Q) X.xe s := by
  have hz := sizeLine_eq
  unfold wSorted at hw
  split at hw
  · rename_i xs hx
    obtain ⟨enc, hd, ha, hs, hdp, hl, hw⟩ := hw
    obtain ⟨p, vs, rfl, sq, r1⟩ := lstOf_rd rh rd hx
    obtain ⟨its, rv2, pl, hz2⟩ := I.list sq
    rw [Vals.ref1 rv]
    have e := each_of rv2 r1
    have er : PySem.W.EachIs (fun v b => ∃ as, Reads s.heap v (enc b) as) its xs := (PySem.W.each_mem e).mono fun u b ⟨⟨v, rv, rd⟩, hb⟩ => Dp.reads I _ _ _ ((hd b hb).dp rh rd) rv
    refine PySem.W.sorted_data (R := fun u d => ∃ v, RelV v u ∧ RD X.K H v d) pl.isList e er ha hs (by omega) (fun b hb => by have := hdp b hb; omega) fun out ho eo => ?_
    obtain ⟨ws, w1, w2⟩ := of_each eo
    obtain ⟨ep, he'⟩ := PyProof.Rows.sortedAll_at s.heap its out.toArray
    have hn : H (s.heap.objs.size + 1) = none := I.hok.fresh (Nat.le_succ _)
    refine ⟨.ref _, upd H (s.heap.objs.size + 1) (.lst ws), I.laid (t' := s.toks) (fun _ _ => PyProof.Rows.sortedAll_old) (Nat.le_succ _) ⟨?_, out, ep, w1, he'⟩, rfl, ?_⟩
    · have := w1.length; omega
    · exact (hq _ _ (hw _ (rh.free hn))) _ _ (Ste.new hn) (.ref _) (rh.new hn ⟨_, upd_same, w2.le (Le.new hn)⟩)
  · split at hw
    · rename_i a
      split at hw
      · rename_i kvs e
        obtain ⟨ks, e1, e2, hw⟩ := hw
        cases rd
        obtain ⟨gs, hg, r1⟩ := rh _ _ e
        exact call_sortedDI hc pins s σ H _ us Q I rv ⟨_, gs, ks, rfl, .inl hg, by rw [← e1]; exact rps_keys r1, e2, fun ys _ pm srt hn => (hq _ _ (hw ys pm srt _ (rh.free hn))) _ _ (Ste.new hn) (.ref _) (rh.new hn ⟨ys.map V.int, upd_same, rds_iL ys⟩)⟩
      · exact hw.elim
    · obtain ⟨ks, e1, e2, hw⟩ := hw
      cases rd with
      | dk h1 r1 =>
        have r1 := r1.to
        exact call_sortedDI hc pins s σ H _ us Q I rv ⟨_, _, ks, rfl, .inr ⟨_, h1⟩, by rw [← e1]; exact rps_keys r1, e2, fun ys _ pm srt hn => (hq _ _ (hw ys pm srt _ (rh.free hn))) _ _ (Ste.new hn) (.ref _) (rh.new hn ⟨ys.map V.int, upd_same, rds_iL ys⟩)⟩
    · obtain ⟨enc, e1, e2, e3, e4, hw⟩ := hw
      cases rd with
      | dt h1 r1 =>
        have r1 := r1.to
        exact sorted_dt hc hu I rv h1 r1 e1 e2 e3 e4 fun p ws hn w2 => (hq _ _ (hw _ (rh.free hn))) _ _ (Ste.new hn) (.ref _) (rh.new hn ⟨ws, upd_same, w2.le (Le.new hn)⟩)
    · exact hw.elim
theorem wSorted_frz {x : D} {h : DH} {Q : QD} (q : wSorted true x h Q) : wSorted false x h fun d h' => wFrz d h' Q := by
  unfold wSorted at q ⊢
  split at q
  · obtain ⟨e, a1, a2, a3, a4, a5, q⟩ := q
    exact ⟨e, a1, a2, a3, a4, a5, al_frz q⟩
  · split at q
    · split at q
      · obtain ⟨ks, a1, a2, q⟩ := q
        exact ⟨ks, a1, a2, fun ys b1 b2 => al_frz (q ys b1 b2)⟩
      · exact q.elim
    · obtain ⟨ks, a1, a2, q⟩ := q
      exact ⟨ks, a1, a2, fun ys b1 b2 => al_frz (q ys b1 b2)⟩
    · obtain ⟨e, a1, a2, a3, a4, q⟩ := q
      exact ⟨e, a1, a2, a3, a4, al_frz q⟩
    · exact q.elim
theorem wB_frz {b : Blt} {xs : List D} {h : DH} {Q : QD} (hb : b = .sorted ∨ b = .list ∨ b = .dict) (q : wB true b xs h Q) : wB false b xs h fun d h' => wFrz d h' Q := by
  unfold wB at q ⊢
  rcases hb with rfl | rfl | rfl
  · split at q <;> first | (exact wSorted_frz q) | (exact q.elim) | skip
    all_goals simp_all
  · match xs, q with
    | [x], q =>
      simp only at q ⊢
      split at q
      · exact al_frz q
      · split at q
        · exact al_frz q
        · split at q
          · exact al_frz q
          · exact q.elim
        · exact q.elim
  · match xs, q with
    | [x], q => exact wDct_frz q
theorem reads_scal {hp : Heap} {u : Value} {p : PyData} {as : List Addr} (r : Reads hp u p as) (n : ∀ a, u ≠ .ref a) : (p = .none ∧ u = .none) ∨ (∃ b, p = .bool b ∧ u = .bool b) ∨ (∃ i t, p = .int i ∧ u = .int i t) ∨ ∃ x t, p = .str x ∧ u = .str x t := by
  cases r with
  | none => exact .inl ⟨rfl, rfl⟩
  | bool b => exact .inr (.inl ⟨b, rfl, rfl⟩)
  | int i t => exact .inr (.inr (.inl ⟨i, t, rfl, rfl⟩))
  | str x t => exact .inr (.inr (.inr ⟨x, t, rfl, rfl⟩))
  | _ => exact absurd rfl (n _)
mutual
theorem DPy.nd {h : DH} : ∀ {d : D} {p : PyData}, DPy h d p → p.hasDict = false
  | .non, _, .non => by simp only [PyData.hasDict]
  | .bl _, _, .bl _ => by simp only [PyData.hasDict]
  | .int _, _, .int _ => by simp only [PyData.hasDict]
  | .str _, _, .str _ => by simp only [PyData.hasDict]
  | .tup _, _, .tup a => by simp only [PyData.hasDict]; exact DPys.nd a
  | .kt _ _, _, .kt a => by simp only [PyData.hasDict]; exact DPys.nd a
  | .fl _, _, .fl a => by simp only [PyData.hasDict]; exact DPys.nd a
  | .ref _, _, .lst _ a => by simp only [PyData.hasDict]; exact DPys.nd a
theorem DPys.nd {h : DH} : ∀ {ds : List D} {ps : List PyData}, DPys h ds ps → PyData.hasDictAll ps = false
  | _, _, .nil => by simp only [PyData.hasDictAll]
  | _, _, .cons a b => by simp only [PyData.hasDictAll, Bool.or_eq_false_iff]; exact ⟨DPy.nd a, DPys.nd b⟩
end
theorem nsm {pins : List (Addr × Obj)} {s : Shared} {σ : L2.St} (sm : SM X.K) (I : Inv X pins σ H s) {a : Addr} {o : HO} (e : H a = some o) : a ≠ sysModules := fun z => by
  subst z
  obtain ⟨u, hu, _⟩ := sm
  have := (I.bs _ _ (I.mod.kin _ _ hu)).2
  rw [e] at this
  cases this
theorem nsmF {pins : List (Addr × Obj)} {s : Shared} {σ : L2.St} (sm : SM X.K) (I : Inv X pins σ H s) {a : Addr} {vs : List V} (e : FL X.K H a vs) : a ≠ sysModules := by
  rcases e with ⟨o, e⟩ | ⟨its, n, e, _⟩
  · exact nsm sm I e
  · intro z
    subst z
    obtain ⟨u, hu, hc⟩ := sm
    rw [hu] at e
    cases e
    exact absurd (show Value.type "list" = Value.type "dict" from hc) (by decide)
mutual
theorem DRp.reads {pins : List (Addr × Obj)} {s : Shared} {σ : L2.St} (sm : SM X.K) (I : Inv X pins σ H s) (rh : RH X.K C H h) : ∀ {d : D} {p : PyData}, DRp h d p → ∀ {v : V} {u : Value}, RD X.K H v d → RelV v u → ∃ as, Reads s.heap u p as ∧ sysModules ∉ as
  | _, _, .non, _, _, r, rv => by
    cases r; cases rv
    exact ⟨_, .none, by simp⟩
  | _, _, .bl b, _, _, r, rv => by
    cases r; cases rv
    exact ⟨_, .bool b, by simp⟩
  | _, _, .int i, _, _, r, rv => by
    cases r
    obtain ⟨t, rfl⟩ := rv
    exact ⟨_, .int i t, by simp⟩
  | _, _, .str x, _, _, r, rv => by
    cases r
    obtain ⟨t, rfl⟩ := rv
    exact ⟨_, .str x t, by simp⟩
  | _, _, .tup a, _, _, r, rv => by
    cases r with
    | tup hs hr =>
      cases rv
      obtain ⟨its, rv, ⟨o, ho, hc, n, hd⟩, _⟩ := I.tuple (.inl (.inl hs))
      obtain ⟨as, q, hn⟩ := DRps.reads sm I rh a hr rv
      exact ⟨_, .tuple ho hc hd q, hn⟩
  | _, _, .lst ha a, _, _, r, rv => by
    cases r
    cases rv
    obtain ⟨vs, h1, h2⟩ := rh _ _ ha
    obtain ⟨its, rv, ⟨o, n, ho, hc, _, hd⟩, _⟩ := I.list (.inl (.inl h1))
    obtain ⟨as, q, hn⟩ := DRps.reads sm I rh a h2 rv
    refine ⟨_, .list ho hc hd q, fun z => ?_⟩
    rcases List.mem_cons.mp z with z | z
    · exact nsm sm I h1 z.symm
    · exact hn z
  | _, _, .dct ha a, _, _, r, rv => by
    cases r
    cases rv
    obtain ⟨gs, h1, h2⟩ := rh _ _ ha
    obtain ⟨_, _, va, ra, o, es, ep, ho, hx, hd, _, hp, _⟩ := (show ObjOk X.prog X.w H s.heap _ (.dK gs) from I.hok _ _ h1)
    obtain ⟨as, bs, q1, q2, n1, n2⟩ := DRks.reads sm I rh a h2 ra hp
    refine ⟨_, .dict ho hx.1 hd q1 q2, fun z => ?_⟩
    rcases List.mem_append.mp z with z | z
    · rcases List.mem_cons.mp z with z | z
      · exact nsm sm I h1 z.symm
      · exact n1 z
    · exact n2 z
  | _, _, .kt a, _, _, r, rv => by
    cases r with
    | kt hs _ hr =>
      cases rv
      obtain ⟨its, rv, ⟨o, ho, hc, n, hd⟩, _⟩ := I.tuple hs
      obtain ⟨as, q, hn⟩ := DRps.reads sm I rh a hr rv
      exact ⟨_, .tuple ho hc hd q, hn⟩
  | _, _, .fl a, _, _, r, rv => by
    cases r with
    | fl hs hr =>
      cases rv
      obtain ⟨its, rv, ⟨o, n, ho, hc, _, hd⟩, _⟩ := I.list hs.seq
      obtain ⟨as, q, hn⟩ := DRps.reads sm I rh a hr rv
      refine ⟨_, .list ho hc hd q, fun z => ?_⟩
      rcases List.mem_cons.mp z with z | z
      · exact nsmF sm I hs z.symm
      · exact hn z
  | _, _, .dk a, _, _, r, rv => by
    cases r with
    | dk h1 h2 =>
      cases rv
      have h2 := h2.to
      obtain ⟨_, _, _, va, ra, o, es, ep, ho, hx, hd, _, hp, _⟩ := (show ObjOk X.prog X.w H s.heap _ (.frz _ (.dK _)) from I.hok _ _ h1)
      obtain ⟨as, bs, q1, q2, n1, n2⟩ := DRks.reads sm I rh a h2 ra hp
      refine ⟨_, .dict ho hx.1 hd q1 q2, fun z => ?_⟩
      rcases List.mem_append.mp z with z | z
      · rcases List.mem_cons.mp z with z | z
        · exact nsm sm I h1 z.symm
        · exact n1 z
      · exact n2 z
theorem DRps.reads {pins : List (Addr × Obj)} {s : Shared} {σ : L2.St} (sm : SM X.K) (I : Inv X pins σ H s) (rh : RH X.K C H h) : ∀ {ds : List D} {ps : List PyData}, DRps h ds ps → ∀ {vs : List V} {us : List Value}, RDs X.K H vs ds → Vals vs us → ∃ as, ReadsAll s.heap us ps as ∧ sysModules ∉ as
  | _, _, .nil, _, _, r, rv => by
    cases r; cases rv
    exact ⟨_, .nil, by simp⟩
  | _, _, .cons a b, _, _, r, rv => by
    cases r with
    | cons r1 r2 =>
      cases rv with
      | cons v1 v2 =>
        obtain ⟨as, q1, n1⟩ := DRp.reads sm I rh a r1 v1
        obtain ⟨bs, q2, n2⟩ := DRps.reads sm I rh b r2 v2
        exact ⟨_, .cons q1 q2, fun z => (List.mem_append.mp z).elim n1 n2⟩
theorem DRks.reads {pins : List (Addr × Obj)} {s : Shared} {σ : L2.St} (sm : SM X.K) (I : Inv X pins σ H s) (rh : RH X.K C H h) : ∀ {kvs : List (Key × D)} {ps : List (PyData × PyData)}, DRks h kvs ps → ∀ {gs : List (Key × V)} {va : List (Key × Value)} {es : List DictEntry}, RPs X.K H gs kvs → KV gs va → Pairs (mixKind X.prog X.w) es va →
    ∃ as bs, ReadsAll s.heap (es.map (·.key)) (ps.map (·.1)) as ∧ ReadsAll s.heap (es.map (·.val)) (ps.map (·.2)) bs ∧ sysModules ∉ as ∧ sysModules ∉ bs
  | _, _, .nil, _, _, _, r, rv, pr => by
    cases r; cases rv; cases pr
    exact ⟨_, _, .nil, .nil, by simp, by simp⟩
  | _, _, .cons a b, _, _, _, r, rv, pr => by
    cases r with
    | cons r1 r2 =>
      cases rv with
      | cons v1 v2 =>
        cases pr with
        | cons k1 e1 p2 =>
          obtain ⟨bs, q1, n1⟩ := DRp.reads sm I rh a r1.2 v1.2
          obtain ⟨cs, ds, q2, q3, n2, n3⟩ := DRks.reads sm I rh b r2 v2 p2
          have k0 := r1.1
          have k1' := v1.1
          rw [← k1', k0] at k1
          rw [← e1] at q1
          refine ⟨_, _, .cons (kPy_reads k1) q2, .cons q1 q3, fun z => ?_, fun z => (List.mem_append.mp z).elim n1 n3⟩
          exact (List.mem_append.mp z).elim (by simp) n2
end
theorem repr_ok (hu : X.A.units + 62 < cLine) (sm : SM X.K) (hg : X.A.guards = some []) {d : D} {v : V} {us : List Value} {pins : List (Addr × Obj)} {s : Shared} {σ : L2.St} {Q : VK} {Q0 : QD} (I : Inv X pins σ H s) (rv : Vals [v] us) (rd : RD X.K H v d) (rh : RH X.K C H h) (hw : wRepr d h Q0) (hq : ∀ r h', Q0 r h' → LQ X.K C H h Q r h') :
    wpAny (model X.prog X.w) X.A (call (.builtin "repr") us) (EP X pins σ Q) X.xe s := by
  have hz := sizeLine_eq
  obtain ⟨p, hp, hs, hd, hl, hw⟩ := hw
  obtain ⟨u, rfl, ru⟩ := vals1 rv
  obtain ⟨as, r, hn⟩ : ∃ as, Reads s.heap u p as ∧ (p.hasDict = true → sysModules ∉ as) := by
    rcases hp with hp | hp
    · obtain ⟨as, r⟩ := Dp.reads I p v u (hp.dp rh rd) ru
      exact ⟨as, r, fun e => by rw [hp.nd] at e; cases e⟩
    · obtain ⟨as, r, n⟩ := hp.reads sm I rh rd ru
      exact ⟨as, r, fun _ => n⟩
  have q := (hq _ _ hw).here (.str _) rh
  by_cases n : ∃ a, u = .ref a
  · obtain ⟨a, rfl⟩ := n
    exact repr_of_reads' r hs hn hg (by omega) (fun _ _ e => e) (fun h' u tk k => ⟨.str _, H, I.kept k, ⟨_, rfl⟩, q⟩) (by omega)
  · have n' : ∀ a, u ≠ .ref a := fun a e => n ⟨a, e⟩
    rcases reads_scal r n' with ⟨rfl, rfl⟩ | ⟨b, rfl, rfl⟩ | ⟨i, t, rfl, rfl⟩ | ⟨x, t, rfl, rfl⟩
    · exact P.repr_of_none ⟨.str _, H, I.tok _, ⟨_, rfl⟩, q⟩
    · exact P.repr_of_bool ⟨.str _, H, I.tok _, ⟨_, rfl⟩, q⟩
    · exact P.repr_of_int (by simpa [PyData.showable] using hs) ⟨.str _, H, I.tok _, ⟨_, rfl⟩, q⟩
    · exact P.repr_of_str ⟨.str _, H, I.tok _, ⟨_, rfl⟩, q⟩ (by simp only [PyData.shown] at hl; omega)
end
end DL

/-! DL, part E: the built-in functions together; methods of built-in types -/
namespace DL
open PySem PySem.Spec PyProof.Rows L2
section
variable {X : Cx} {C : CA}
/-- what a body must have around -/
structure Rm (X : Cx) : Prop where
  u : X.A.units + 200 < cLine
  g : X.A.guards = some []
  c : X.calm = true
  sm : SM X.K
/-- sum(t), t a tuple of ints -/
theorem sumT_raw {prog : Program} {w : World} {A : Around} {E : Value → Shared → Prop} {s : Shared} {l : Addr} {its : List Value} {ns : List Int} {Q : Value → Shared → Prop} (hh : A.handled = none) (hl : s.heap.IsTuple l its.toArray) (hi : IntsAre its ns)
    (h : ∀ h' tk t', (∀ b o, s.heap.get? b = some o → h'.get? b = some o) → Q (.int ns.sum t') { s with heap := h', toks := tk }) : wpAny (model prog w) A (call (.builtin "sum") [.ref l]) Q E s := by
  obtain ⟨xs, e⟩ := hi.allInts.items
  have hn : numsOf (intItems xs).toList = ns := by rw [← e]; exact hi.numsOf
  rw [nums_intItems] at hn
  rw [e] at hl
  have hlt : l < s.heap.objs.size := by obtain ⟨_, e, _⟩ := hl; exact Heap.lt_size e
  refine call_sum_walkG (wpAny_pyIter_tuple hl ?_)
  refine ⟨_, _, _, _, _, _, numAt xs, rfl, Walks.tuple (A := A.in1) hh _ l (Nat.ne_of_lt hlt) (intItems xs), ⟨⟨_, Heap.get?_push_size _ rfl, rfl, rfl⟩, hl.push _⟩, fun b hb => ?_, (fun _ _ => intItems_at), fun h' tk t' hk => ?_⟩
  · show b < (s.heap.push _).objs.size
    rw [Heap.size_push]
    rcases List.mem_cons.mp hb with rfl | hb
    · exact Nat.lt_succ_self _
    · rcases List.mem_cons.mp hb with rfl | hb
      · exact Nat.lt_succ_of_lt hlt
      · cases hb
  · have := h h' tk t' fun b o e => by
      refine hk b o (fun hm => ?_) (Heap.get?_push_of_some _ e)
      rcases List.mem_cons.mp hm with e1 | hm
      · exact absurd (e1 ▸ Heap.lt_size e) (Nat.lt_irrefl _)
      · cases hm
    have e3 : (intItems xs).size = xs.size := by simp [intItems]
    rw [e3, preSum_eq, List.take_of_length_le (by simp), hn]; exact this
theorem cr_sumT {X : Cx} (hc : X.calm = true) : CallR X (.builtin "sum") (fun vs H Q => ∃ (a : Addr) (ns : List Int), vs = [V.ref a] ∧ SqT X.K H a (ns.map V.int) ∧ Q (.int ns.sum) H) := by
  intro pins s σ H vs us Q I r h
  obtain ⟨a, ns, rfl, hs, q⟩ := h
  obtain ⟨its, rv, ⟨o, ho, hc2, n, hd⟩, _⟩ := I.tuple hs
  rw [Vals.ref1 r]
  exact sumT_raw (I.ok.hd hc) ⟨o, ho, hc2, n, hd⟩ rv.ints fun h' tk t' hk => ⟨.int _, H, I.kept hk, ⟨_, rfl⟩, q⟩
theorem best_max (hc : X.calm = true) (hu : X.A.units + 200 < cLine) {p : Addr} {vs : List V} {xs : List D} {us : List Value} {pins : List (Addr × Obj)} {s : Shared} {σ : L2.St} {H : Hp} {h : DH} {Q : VK} {p0 : PyData} {ps : List PyData} (I : Inv X pins σ H s) (rv : Vals [V.ref p] us) (sq : SqL X.K H p vs) (r1 : RDs X.K H vs xs) (rh : RH X.K C H h) (dp : DPys h xs (p0 :: ps)) (ha : PySem.W.AlikeAll (p0 :: ps)) (hd : PyData.depthAll (p0 :: ps) ≤ 60)
    (hq : ∀ (d : D) (i : Nat), xs[i]? = some d → (p0 :: ps)[i]? = some (PySem.W.maxD p0 ps) → LQ X.K C H h Q d h) : wpAny (model X.prog X.w) X.A (call (.builtin "max") us) (EP X pins σ Q) X.xe s := by
  rw [Vals.ref1 rv]
  obtain ⟨its, rv2, pl, hz⟩ := I.list sq
  obtain ⟨as, rs⟩ := Dp.readsAll I _ _ _ (DPys.dp rh dp r1) rv2
  refine PySem.W.max_list_data (vs := its.toArray) (I.ok.hd hc) pl.isList rs ha (by omega) fun i v h' tk bs hi rd' hk => ?_
  obtain ⟨cs, rr, lt, _, _⟩ := PySem.W.readsAll_atA (vs := its.toArray) rs i v hi
  have hi' : its[i]? = some v := by simpa using hi
  have lx : i < vs.length := by
    have := rv2.length
    have := (List.getElem?_eq_some_iff.mp hi').1
    omega
  obtain ⟨u, hu2, ru⟩ := rv2.get (List.getElem?_eq_getElem lx)
  have eu : u = v := Option.some.inj (hu2.symm.trans hi')
  subst eu
  obtain ⟨d, h1, h2⟩ := r1.getV (List.getElem?_eq_getElem lx)
  have e := (Reads.unique (Reads.keeps hk rr) _ _ rd').1
  refine ⟨_, H, I.kept (t' := tk) hk, ru, (hq d i h1 ?_).here h2 rh⟩
  rw [← e, List.getElem?_eq_getElem lt]
  simp [List.getD_eq_getElem?_getD, List.getElem?_eq_getElem lt]
theorem best_min (hc : X.calm = true) (hu : X.A.units + 200 < cLine) {p : Addr} {vs : List V} {xs : List D} {us : List Value} {pins : List (Addr × Obj)} {s : Shared} {σ : L2.St} {H : Hp} {h : DH} {Q : VK} {p0 : PyData} {ps : List PyData} (I : Inv X pins σ H s) (rv : Vals [V.ref p] us) (sq : SqL X.K H p vs) (r1 : RDs X.K H vs xs) (rh : RH X.K C H h) (dp : DPys h xs (p0 :: ps)) (ha : PySem.W.AlikeAll (p0 :: ps)) (hd : PyData.depthAll (p0 :: ps) ≤ 60)
    (hq : ∀ (d : D) (i : Nat), xs[i]? = some d → (p0 :: ps)[i]? = some (PySem.W.minD p0 ps) → LQ X.K C H h Q d h) : wpAny (model X.prog X.w) X.A (call (.builtin "min") us) (EP X pins σ Q) X.xe s := by
  rw [Vals.ref1 rv]
  obtain ⟨its, rv2, pl, hz⟩ := I.list sq
  obtain ⟨as, rs⟩ := Dp.readsAll I _ _ _ (DPys.dp rh dp r1) rv2
  refine PySem.W.min_list_data (vs := its.toArray) (I.ok.hd hc) pl.isList rs ha (by omega) fun i v h' tk bs hi rd' hk => ?_
  obtain ⟨cs, rr, lt, _, _⟩ := PySem.W.readsAll_atA (vs := its.toArray) rs i v hi
  have hi' : its[i]? = some v := by simpa using hi
  have lx : i < vs.length := by
    have := rv2.length
    have := (List.getElem?_eq_some_iff.mp hi').1
    omega
  obtain ⟨u, hu2, ru⟩ := rv2.get (List.getElem?_eq_getElem lx)
  have eu : u = v := Option.some.inj (hu2.symm.trans hi')
  subst eu
  obtain ⟨d, h1, h2⟩ := r1.getV (List.getElem?_eq_getElem lx)
  have e := (Reads.unique (Reads.keeps hk rr) _ _ rd').1
  refine ⟨_, H, I.kept (t' := tk) hk, ru, (hq d i h1 ?_).here h2 rh⟩
  rw [← e, List.getElem?_eq_getElem lt]
  simp [List.getD_eq_getElem?_getD, List.getElem?_eq_getElem lt]
theorem rd3 {K : PySem.W.Frag} {H : Hp} {vs : List V} {d e f : D} (h : RDs K H vs [d, e, f]) : ∃ v w x, vs = [v, w, x] ∧ RD K H v d ∧ RD K H w e ∧ RD K H x f := by
  cases h with
  | cons a b =>
    obtain ⟨w, x, rfl, c, d⟩ := b.two
    exact ⟨_, _, _, rfl, a, c, d⟩
theorem vls3 {x y z : V} {us : List Value} (r : Vals [x, y, z] us) : ∃ u v w, us = [u, v, w] ∧ RelV x u ∧ RelV y v ∧ RelV z w := by
  cases r with
  | cons r1 r2 =>
    obtain ⟨v, w, rfl, r3, r4⟩ := vals2 r2
    exact ⟨_, _, _, rfl, r1, r3, r4⟩
theorem call_max3 (hc : X.calm = true) : CallR X (.builtin "max") (fun xs H Q => ∃ i j k, xs = [.int i, .int j, .int k] ∧ Q (.int (if j > i then (if k > j then k else j) else (if k > i then k else i))) H) := by
  intro pins s σ H xs us Q I r h
  obtain ⟨i, j, k, rfl, q⟩ := h
  obtain ⟨u, v, w, rfl, ⟨t, rfl⟩, ⟨t', rfl⟩, ⟨t'', rfl⟩⟩ := vls3 r
  refine max_three_ints (I.ok.hd hc) fun h' tk k => ⟨_, H, I.kept k, ?_, q⟩
  repeat' split
  all_goals exact ⟨_, rfl⟩
theorem call_min3 (hc : X.calm = true) : CallR X (.builtin "min") (fun xs H Q => ∃ i j k, xs = [.int i, .int j, .int k] ∧ Q (.int (if j < i then (if k < j then k else j) else (if k < i then k else i))) H) := by
  intro pins s σ H xs us Q I r h
  obtain ⟨i, j, k, rfl, q⟩ := h
  obtain ⟨u, v, w, rfl, ⟨t, rfl⟩, ⟨t', rfl⟩, ⟨t'', rfl⟩⟩ := vls3 r
  refine min_three_ints (I.ok.hd hc) fun h' tk k => ⟨_, H, I.kept k, ?_, q⟩
  repeat' split
  all_goals exact ⟨_, rfl⟩
theorem blt_ok (R : Rm X) : ∀ b : Blt, CallD X C b.val (wB false b) := by
  intro b pins s σ H xs us Q I rv ⟨ds, h, Q0, rd, rh, hw, hq⟩
  have hz := sizeLine_eq
  have hu := R.u
  unfold wB at hw
  split at hw
  · obtain ⟨v, rfl, r⟩ := rd.one
    exact len_ok I rv r rh hw hq
  · obtain ⟨v, rfl, r⟩ := rd.one
    cases r
    exact call_abs pins s σ H _ us Q I rv ⟨_, rfl, (hq _ _ hw).here (.int _) rh⟩
  · obtain ⟨v, w, rfl, r, r'⟩ := rd.two
    cases r; cases r'
    exact call_max2 R.c pins s σ H _ us Q I rv ⟨_, _, rfl, (hq _ _ hw).here (.int _) rh⟩
  · obtain ⟨v, w, rfl, r, r'⟩ := rd.two
    cases r; cases r'
    exact call_min2 R.c pins s σ H _ us Q I rv ⟨_, _, rfl, (hq _ _ hw).here (.int _) rh⟩
  · obtain ⟨v, w, x, rfl, r, r', r''⟩ := rd3 rd
    cases r; cases r'; cases r''
    exact call_max3 R.c pins s σ H _ us Q I rv ⟨_, _, _, rfl, (hq _ _ hw).here (.int _) rh⟩
  · obtain ⟨v, w, x, rfl, r, r', r''⟩ := rd3 rd
    cases r; cases r'; cases r''
    exact call_min3 R.c pins s σ H _ us Q I rv ⟨_, _, _, rfl, (hq _ _ hw).here (.int _) rh⟩
  · obtain ⟨v, rfl, r⟩ := rd.one
    split at hw
    · rename_i ys hy
      obtain ⟨p, vs, rfl, sq, r1⟩ := lstOf_rd rh r hy
      rcases hw with ⟨ns, e, hn, hw⟩ | ⟨p0, ps, dp, ha, hd, hw⟩
      rotate_left
      · exact best_max R.c hu I rv sq r1 rh dp ha hd fun d i h1 h2 => hq _ _ (hw d i h1 h2)
      subst e
      rw [iL_rd r1] at sq
      exact cr_max R.c pins s σ H _ us Q I rv ⟨_, _, rfl, sq, hn, fun m h1 h2 => (hq _ _ (hw m h1 h2)).here (.int _) rh⟩
    · exact hw.elim
  · obtain ⟨v, rfl, r⟩ := rd.one
    split at hw
    · rename_i ys hy
      obtain ⟨p, vs, rfl, sq, r1⟩ := lstOf_rd rh r hy
      rcases hw with ⟨ns, e, hn, hw⟩ | ⟨p0, ps, dp, ha, hd, hw⟩
      rotate_left
      · exact best_min R.c hu I rv sq r1 rh dp ha hd fun d i h1 h2 => hq _ _ (hw d i h1 h2)
      subst e
      rw [iL_rd r1] at sq
      exact cr_min R.c pins s σ H _ us Q I rv ⟨_, _, rfl, sq, hn, fun m h1 h2 => (hq _ _ (hw m h1 h2)).here (.int _) rh⟩
    · exact hw.elim
  · obtain ⟨v, rfl, r⟩ := rd.one
    split at hw
    · rename_i ys hy
      obtain ⟨ns, e, hw⟩ := hw
      subst e
      obtain ⟨p, vs, rfl, sq, r1⟩ := seqOf_rd rh r hy
      rw [iL_rd r1] at sq
      rcases sq with sq | sq
      · exact cr_sum R.c pins s σ H _ us Q I rv ⟨_, _, rfl, sq, (hq _ _ hw).here (.int _) rh⟩
      · exact cr_sumT R.c pins s σ H _ us Q I rv ⟨_, _, rfl, sq, (hq _ _ hw).here (.int _) rh⟩
    · exact hw.elim
  · obtain ⟨v, rfl, r⟩ := rd.one
    split at hw
    · rename_i ys hy
      obtain ⟨ns, e, hw⟩ := hw
      subst e
      obtain ⟨p, vs, rfl, sq, r1⟩ := lstOf_rd rh r hy
      rw [bL_rd r1] at sq
      exact cr_all R.c pins s σ H _ us Q I rv ⟨_, _, rfl, sq, (hq _ _ hw).here (.bl _) rh⟩
    · exact hw.elim
  · obtain ⟨v, rfl, r⟩ := rd.one
    split at hw
    · rename_i ys hy
      obtain ⟨ns, e, hw⟩ := hw
      subst e
      obtain ⟨p, vs, rfl, sq, r1⟩ := lstOf_rd rh r hy
      rw [bL_rd r1] at sq
      exact cr_any R.c pins s σ H _ us Q I rv ⟨_, _, rfl, sq, (hq _ _ hw).here (.bl _) rh⟩
    · exact hw.elim
  · obtain ⟨v, rfl, r⟩ := rd.one
    exact sorted_ok R.c (by omega) I rv r rh hw hq
  · obtain ⟨v, rfl, r⟩ := rd.one
    split at hw
    · rename_i ys hy
      obtain ⟨p, vs, rfl, sq, r1⟩ := seqOf_rd rh r hy
      exact call_list_of pins s σ H _ us Q I rv ⟨_, _, rfl, sq, fun l hl => (hq _ _ (hw l (rh.free hl))) _ _ (Ste.new hl) (.ref _) (rh.new hl ⟨_, upd_same, r1.le (Le.new hl)⟩)⟩
    · have keys : ∀ {gs : List (Key × V)} {fs : List (Key × D)}, RPs X.K H gs fs → RDs X.K H (gs.map fun kv => kV kv.1) (fs.map fun kv => keyD kv.1) := fun {gs fs} r => by
        induction gs generalizing fs with
        | nil => cases r; exact .nil
        | cons p gs ih =>
          cases r with
          | @cons _ q _ fs a b =>
            obtain ⟨k, v⟩ := p
            obtain ⟨k', d⟩ := q
            have e : k = k' := a.1
            subst e
            refine .cons ?_ (ih b)
            cases k with
            | inl i => exact .int i
            | inr x => exact .str x
      split at hw
      · rename_i kvs _
        cases r with
        | dk h1 r1 =>
          have r1 := r1.to
          exact call_listD R.c pins s σ H _ us Q I rv ⟨_, _, rfl, .inr ⟨_, h1⟩, fun l hl => (hq _ _ (hw l (rh.free hl))) _ _ (Ste.new hl) (.ref _) (rh.new hl ⟨_, upd_same, (keys r1).le (Le.new hl)⟩)⟩
      · cases r
        split at hw
        · rename_i kvs ha
          obtain ⟨gs, h1, r1⟩ := rh _ _ ha
          exact call_listD R.c pins s σ H _ us Q I rv ⟨_, _, rfl, .inl h1, fun l hl => (hq _ _ (hw l (rh.free hl))) _ _ (Ste.new hl) (.ref _) (rh.new hl ⟨_, upd_same, (keys r1).le (Le.new hl)⟩)⟩
        · exact hw.elim
      · exact hw.elim
  · obtain ⟨v, rfl, r⟩ := rd.one
    cases r with
    | tup s1 r1 => exact call_tuple_of pins s σ H _ us Q I rv ⟨_, _, rfl, .inr ⟨.inl (.inl s1), (hq _ _ hw).here (.tup s1 r1) rh⟩⟩
  · obtain ⟨v, rfl, r⟩ := rd.one
    split at hw
    · rename_i ys hy
      obtain ⟨p, vs, rfl, sq, r1⟩ := lstOf_rd rh r hy
      exact call_tuple_of pins s σ H _ us Q I rv ⟨_, _, rfl, .inl ⟨sq, fun l hl => (hq _ _ hw) _ _ (Ste.side hl) (.tup upd_same (r1.le (Le.new hl))) (rh.side hl)⟩⟩
    · exact hw.elim
  · obtain ⟨v, rfl, r⟩ := rd.one
    cases r
    exact call_int1 pins s σ H _ us Q I rv (.inl ⟨_, rfl, (hq _ _ hw).here (.int _) rh⟩)
  · obtain ⟨v, rfl, r⟩ := rd.one
    cases r
    exact call_int1 pins s σ H _ us Q I rv (.inr ⟨_, rfl, (hq _ _ hw).here (.int _) rh⟩)
  · obtain ⟨v, rfl, r⟩ := rd.one
    cases r
    obtain ⟨n, h1, h2, hw⟩ := hw
    exact call_int_str pins s σ H _ us Q I rv ⟨_, _, rfl, h1, h2, (hq _ _ hw).here (.int _) rh⟩
  · obtain ⟨v, rfl, r⟩ := rd.one
    cases r
    exact call_str_int pins s σ H _ us Q I rv ⟨_, rfl, hw.1, (hq _ _ hw.2).here (.str _) rh⟩
  · obtain ⟨v, rfl, r⟩ := rd.one
    cases r
    exact SkE.call_str_str pins s σ H _ us Q I rv ⟨_, rfl, (hq _ _ hw).here (.str _) rh⟩
  · obtain ⟨v, rfl, r⟩ := rd.one
    exact repr_ok (by omega) R.sm R.g I rv r rh hw hq
  · obtain ⟨v, rfl, r⟩ := rd.one
    cases r
    exact call_bool1 pins s σ H _ us Q I rv (.inl ⟨_, rfl, (hq _ _ hw).here (.bl _) rh⟩)
  · obtain ⟨v, rfl, r⟩ := rd.one
    cases r
    exact call_bool1 pins s σ H _ us Q I rv (.inr ⟨_, rfl, (hq _ _ hw).here (.bl _) rh⟩)
  · obtain ⟨v, rfl, r⟩ := rd.one
    split at hw
    · rename_i ys hy
      obtain ⟨p, vs, rfl, sq, r1⟩ := lstOf_rd rh r hy
      exact call_ptup pins s σ H _ us Q I rv ⟨_, _, rfl, sq, fun l o hl ho => (hq _ _ hw) _ _ (Ste.side hl) (.kt (.inl (.inr ⟨o, upd_same⟩)) (fun _ => ⟨o, _, upd_same, ho⟩) (r1.le (Le.new hl))) (rh.side hl)⟩
    · exact hw.elim
  · obtain ⟨v, rfl, r⟩ := rd.one
    exact dct_ok R.c I rv r rh hw hq
  · exact hw.elim
end

/-! ### methods of built-in types -/
inductive Mtd where
  | append | extend | pop | reverse | clear | insert | get | join | split | partition | upper | remove | dpop
  deriving DecidableEq
def Mtd.ty : Mtd → String
  | .get | .dpop => "dict"
  | .join | .split | .partition | .upper => "str"
  | _ => "list"
def Mtd.name : Mtd → Str
  | .append => "append" | .extend => "extend" | .pop => "pop" | .reverse => "reverse" | .clear => "clear" | .insert => "insert" | .get => "get" | .join => "join" | .split => "split" | .partition => "partition" | .upper => "upper" | .remove => "remove" | .dpop => "pop"
def Mtd.id : Mtd → String
  | .append => "list.append" | .extend => "list.extend" | .pop => "list.pop" | .reverse => "list.reverse" | .clear => "list.clear" | .insert => "list.insert" | .get => "dict.get" | .join => "str.join" | .split => "str.split" | .partition => "str.partition" | .upper => "str.upper" | .remove => "list.remove" | .dpop => "dict.pop"
/-- of what type the receiver must be -/
def tyD (T : String) (d : D) (h : DH) : Prop := match d with
  | .str _ => T = "str"
  | .ref a => match h a with
    | some (.lst _) => T = "list"
    | some (.dK _) => T = "dict"
    | some (.dT _) => T = "dict"
    | _ => False
  | .dk _ => T = "dict"
  | .dt _ => T = "dict"
  | _ => False
def sL (xs : List Str) : List D := xs.map .str
def wML (m : Mtd) (a : Addr) (ys : List D) (xs : List D) (h : DH) (Q : QD) : Prop := match m, xs with
  | .append, [x] => ys.length < 16777216 ∧ Q .non (up h a (.lst (ys ++ [x])))
  | .extend, [x] => match lstOf x h with
    | some zs => ys.length + zs.length ≤ 16777216 ∧ Q .non (up h a (.lst (ys ++ zs)))
    | _ => False
  | .pop, [] => match ys[ys.length - 1]? with
    | some y => Q y (up h a (.lst ys.dropLast))
    | none => False
  | .pop, [.int i] => (-(2 ^ 63) ≤ i ∧ i < 2 ^ 63) ∧ match seqIndex? i ys.length with
    | some k => match ys[k]? with
      | some y => Q y (up h a (.lst (ys.eraseIdx k)))
      | none => False
    | none => False
  | .reverse, [] => Q .non (up h a (.lst ys.reverse))
  | .clear, [] => Q .non (up h a (.lst []))
  | .insert, [.int i, y] => (ys.length < 16777216 ∧ 0 ≤ i ∧ i < 2 ^ 63) ∧ Q .non (up h a (.lst (ys.take i.toNat ++ [y] ++ ys.drop i.toNat)))
  | .remove, [y] => ∃ d es j, DPy h y d ∧ DPy h (.ref a) (.list es) ∧ d.plain = true ∧ PyData.plainAll es = true ∧ d.depth ≤ 50 ∧ PySem.SeqAt.dataPlace es d = some j ∧ Q .non (up h a (.lst (ys.eraseIdx j)))
  | _, _ => False
def wMD (m : Mtd) (a : Addr) (xs : List D) (h : DH) (Q : QD) : Prop := match m, xs with
  | .dpop, [k] => match h a, asKey k with
    | some (.dK kvs), some j => match dget kvs j with
      | some v => Q v (up h a (.dK (ddrop kvs j)))
      | none => False
    | _, _ => False
  | .get, [k] => match dlook h a k with
    | some o => Q (o.getD .non) h
    | none => False
  | .get, [k, e] => match dlook h a k with
    | some o => Q (o.getD e) h
    | none => False
  | _, _ => False
def wMF (m : Mtd) (x : D) (xs : List D) (h : DH) (Q : QD) : Prop := match m, xs with
  | .get, [k] => match dsel x h k with
    | some o => Q (o.getD .non) h
    | none => False
  | .get, [k, e] => match dsel x h k with
    | some o => Q (o.getD e) h
    | none => False
  | _, _ => False
def wMS (y : Bool) (m : Mtd) (z : Str) (xs : List D) (h : DH) (Q : QD) : Prop := match m, xs with
  | .join, [x] => match seqOf x h with
    | some ys => ∃ ss, ys = sL ss ∧ (ss.map (·.length)).sum + ss.length * z.length ≤ 16777216 ∧ Q (.str (Str.join z ss)) h
    | none => False
  | .split, [.str b] => (b.length == 0) = false ∧ z.length + 2 ≤ 16777216 ∧ al y (.lst (sL (Txt.split z b))) h Q
  | .partition, [.str b] => (b.length == 0) = false ∧ z.length ≤ 16777216 ∧ Q (.tup [.str (Txt.partition z b).1, .str (Txt.partition z b).2.1, .str (Txt.partition z b).2.2]) h
  | .upper, [] => z.length ≤ 5592405 ∧ Q (.str (Txt.upper z)) h
  | _, _ => False
def wM (y : Bool) (m : Mtd) (d : D) (xs : List D) (h : DH) (Q : QD) : Prop := match d with
  | .ref a => match h a with
    | some (.lst ys) => wML m a ys xs h Q
    | some (.dK _) => wMD m a xs h Q
    | some (.dT _) => wMD m a xs h Q
    | _ => False
  | .str z => wMS y m z xs h Q
  | .dk kvs => wMF m (.dk kvs) xs h Q
  | .dt kvs => wMF m (.dt kvs) xs h Q
  | _ => False
/-! the types, also of dicts that are no more written -/
def tyF (K : PySem.W.Frag) (T : String) (x : V) (H : Hp) : Prop := tyV K T x H ∨ (T = "dict" ∧ ∃ p o, x = .ref p ∧ ((∃ kvs, H p = some (.frz o (.dK kvs))) ∨ ∃ kvs, H p = some (.frz o (.dT kvs))))
section
variable {X : Cx} {o e : Expr} {es : List Expr} {to : TE} {t : TA} {name : Str} {apos cpos : Pos} {T id : String} {r : V → List V → Hp → VK → Prop}
theorem tyF_is {pins : List (Addr × Obj)} {σ : L2.St} {H : Hp} {s : Shared} {T : String} {x : V} {v : Value} (I : Inv X pins σ H s) (r : RelV x v) (ty : tyF X.K T x H) :
    s.TypeIs v T ∧ ∀ a, v = .ref a → ∃ ob, s.heap.get? a = some ob ∧ ob.dict = none := by
  rcases ty with ty | ⟨rfl, p, o, rfl, hk⟩
  · exact tyV_is I r ty
  · cases r
    have z : ∃ o, s.heap.get? p = some o ∧ o.ExactDict := by
      rcases hk with ⟨kvs, hk⟩ | ⟨kvs, hk⟩
      · obtain ⟨_, _, _, _, _, o, _, _, e, ex, _⟩ := (show ObjOk X.prog X.w H s.heap p (.frz o (.dK kvs)) from I.hok p _ hk)
        exact ⟨o, e, ex⟩
      · obtain ⟨_, _, _, _, _, o, _, _, e, ex, _⟩ := (show ObjOk X.prog X.w H s.heap p (.frz o (.dT kvs)) from I.hok p _ hk)
        exact ⟨o, e, ex⟩
    obtain ⟨o, e, ex⟩ := z
    refine ⟨⟨o, e, ex.1⟩, fun a e2 => ?_⟩
    cases e2
    exact ⟨o, e, ex.2.1⟩
def tFM0 (K : PySem.W.Frag) (T : String) (r : V → List V → Hp → VK → Prop) (to : TE) : TE := fun σ H Q => to σ H fun x H1 => tyF K T x H1 ∧ r x [] H1 Q
def tFM (K : PySem.W.Frag) (T : String) (r : V → List V → Hp → VK → Prop) (to : TE) (t : TA) : TE := fun σ H Q => to σ H fun x H1 => tyF K T x H1 ∧ t σ H1 fun xs H2 => r x xs H2 Q
theorem pe_fm0 (pa : PlainAttrs T) (slot : Slot T name id) (hty : typeOf (.builtin id) = pure (.type "method_descriptor")) (hm : MtR X id r) (ho : PE X o to)
    (hbase : attributeBase o name X.env (eval o X.env) = eval o X.env) (hline : (apos.endLine == cpos.line) = true) : PE X (.Call (.Attribute o name apos) [] [] cpos) (tFM0 X.K T r to) := by
  refine ⟨fun pins s σ H Q I h => ?_⟩
  refine wpAny_Call_method0_late hbase hline (thn (ho.run pins s σ H _ I h) fun v s1 ⟨x, H1, I1, r1, ty, q1⟩ => ?_)
  obtain ⟨h1, h2⟩ := tyF_is I1 r1 ty
  exact ⟨T, id, pa, slot, hty, h1, h2, Calls.callWith_builtin rfl (PySem.evalArgs_none (hm pins s1 σ H1 x [] v [] Q I1 r1 .nil q1))⟩
theorem pe_fm (pa : PlainAttrs T) (slot : Slot T name id) (hty : typeOf (.builtin id) = pure (.type "method_descriptor")) (hm : MtR X id r) (ho : PE X o to) (ha : PA X (e :: es) t)
    (hbase : attributeBase o name X.env (eval o X.env) = eval o X.env)
    (hfew : ((backTo cpos (starEach (e :: es) X.env)).all (fun x => !x.1) && (backToKw cpos (keywordEach [] X.env)).all (fun x => x.1.isSome)
      && decide ((e :: es).length + ([] : List Keyword).length + (if ([] : List Keyword).isEmpty then 0 else 1) < 30)) = true)
    (hline : (apos.endLine == cpos.line) = true) (hs : starEach (e :: es) X.env = (false, eval e X.env) :: starEach es X.env) (hplain : (backTo cpos (starEach es X.env)).any (·.1) = false) :
    PE X (.Call (.Attribute o name apos) (e :: es) [] cpos) (tFM X.K T r to t) := by
  refine ⟨fun pins s σ H Q I h => ?_⟩
  refine wpAny_Call_method_late hbase hfew hline rfl (thn (ho.run pins s σ H _ I h) fun v s1 ⟨x, H1, I1, r1, ty, q1⟩ => ?_)
  obtain ⟨h1, h2⟩ := tyF_is I1 r1 ty
  refine ⟨T, id, pa, slot, hty, h1, h2, ?_⟩
  have hA := ha.run cpos pins s1 σ H1 _ I1 q1
  rw [hs] at hA ⊢
  refine Calls.callWith_builtin (by show (false || (backTo cpos (starEach es X.env)).any (·.1)) = false; rw [hplain] <;> rfl) (Calls.evalArgs_plain ?_)
  exact thn hA fun us s2 ⟨vs, H2, I2, r2, q2⟩ => hm pins s2 σ H2 x vs v us Q I2 r1 r2 q2
end
section
variable {X : Cx} {C : CA} {K : PySem.W.Frag} {H : Hp} {h : DH}
theorem tyD_rd {T : String} {d : D} {v : V} (rh : RH K C H h) (r : RD K H v d) (t : tyD T d h) : tyF K T v H := by
  unfold tyD at t
  split at t
  · cases r; exact .inl t
  · cases r
    split at t
    · rename_i ys ha
      obtain ⟨vs, h1, _⟩ := rh _ _ ha
      exact .inl (.inl ⟨t, vs, .inl (.inl h1)⟩)
    · rename_i ys ha
      obtain ⟨vs, h1, _⟩ := rh _ _ ha
      exact .inl (.inr (.inr (.inl ⟨t, .inl ⟨_, h1⟩⟩)))
    · rename_i ys ha
      obtain ⟨vs, h1, _⟩ := rh _ _ ha
      exact .inl (.inr (.inr (.inl ⟨t, .inr ⟨_, h1⟩⟩)))
    · exact t.elim
  · cases r with
    | dk h1 r1 => exact .inr ⟨t, _, _, rfl, .inl ⟨_, h1⟩⟩
  · cases r with
    | dt h1 r1 => exact .inr ⟨t, _, _, rfl, .inr ⟨_, h1⟩⟩
  · exact t.elim
theorem sL_rd : ∀ {ns : List Str} {vs : List V}, RDs K H vs (sL ns) → vs = ns.map V.str
  | [], _, r => by cases r; rfl
  | n :: ns, _, r => by
    cases r with
    | cons a b => cases a; rw [sL_rd b]; rfl
theorem rd_sL : ∀ ns : List Str, RDs K H (ns.map V.str) (sL ns)
  | [] => .nil
  | n :: ns => .cons (.str n) (rd_sL ns)
theorem mt_get1 (hu : X.A.units + 1 < cLine) : MtR X "dict.get" (fun x xs H Q => ∃ a y o, x = .ref a ∧ xs = [y] ∧ DGet H a y o ∧ Q (o.getD .non) H) := by
  intro pins s σ H x xs v us Q I rx rv ⟨a, y, o, e1, e2, g, q⟩
  subst e1 e2
  cases rx
  obtain ⟨u, rfl, ru⟩ := vals1 rv
  exact d_get1 hu I g ru fun w' s3 I3 rw' => ⟨_, H, I3, rw', q⟩
theorem mt_get2 (hu : X.A.units + 1 < cLine) : MtR X "dict.get" (fun x xs H Q => ∃ a y z o, x = .ref a ∧ xs = [y, z] ∧ DGet H a y o ∧ Q (o.getD z) H) := by
  intro pins s σ H x xs v us Q I rx rv ⟨a, y, z, o, e1, e2, g, q⟩
  subst e1 e2
  cases rx
  obtain ⟨u, u', rfl, ru, ru'⟩ := vals2 rv
  exact d_get2 hu I g ru ru' fun w' s3 I3 rw' => ⟨_, H, I3, rw', q⟩
def MtD (X : Cx) (C : CA) (id : String) (w : D → List D → DH → QD → Prop) : Prop :=
  MtR X id (fun x xs H Q => ∃ d ds h Q0, RD X.K H x d ∧ RDs X.K H xs ds ∧ RH X.K C H h ∧ w d ds h Q0 ∧ ∀ r h', Q0 r h' → LQ X.K C H h Q r h')
theorem RDs.dropLast : ∀ {vs : List V} {ds : List D}, RDs K H vs ds → RDs K H vs.dropLast ds.dropLast
  | _, _, .nil => .nil
  | _, _, .cons _ .nil => .nil
  | _, _, .cons a (.cons b t) => .cons a (RDs.dropLast (.cons b t))
theorem RDs.eraseIdx : ∀ {vs : List V} {ds : List D} (k : Nat), RDs K H vs ds → RDs K H (vs.eraseIdx k) (ds.eraseIdx k)
  | _, _, _, .nil => .nil
  | _, _, 0, .cons _ t => t
  | _, _, k + 1, .cons a t => .cons a (RDs.eraseIdx k t)
theorem getD_rd {o : Option D} {r : Option V} {e : D} {z : V} (g1 : ∀ d, o = some d → ∃ x, r = some x ∧ RD K H x d) (g2 : o = none → r = none) (re : RD K H z e) : RD K H (r.getD z) (o.getD e) := by
  cases o with
  | none => rw [g2 rfl]; exact re
  | some d => obtain ⟨x, e1, r1⟩ := g1 d rfl; rw [e1]; exact r1
theorem md_ok (R : Rm X) {m : Mtd} {a : Addr} {xs : List V} {v : Value} {us : List Value} {ds : List D} {pins : List (Addr × Obj)} {s : Shared} {σ : L2.St} {Q : VK} {Q0 : QD} (I : Inv X pins σ H s) (rx : RelV (.ref a) v) (rv : Vals xs us) (rds : RDs X.K H xs ds) (rh : RH X.K C H h)
  (hw : wMD m a ds h Q0) (hq : ∀ r h', Q0 r h' → LQ X.K C H h Q r h') : wpAny (model X.prog X.w) X.A (call (.builtin m.id) (v :: us)) (EP X pins σ Q) X.xe s := by
  have hu := R.u
  unfold wMD at hw
  split at hw
  · obtain ⟨y, rfl, ry⟩ := rds.one
    split at hw
    · rename_i kvs j ha hj
      split at hw
      · rename_i dv hv
        obtain ⟨gs, h1, r1⟩ := rh _ _ ha
        obtain ⟨v1, e1, rv1⟩ := (RPs.get (k := j) r1).1 dv hv
        have mu : Mut (H a) := by rw [h1]; exact trivial
        cases rx
        obtain ⟨u, rfl, ru⟩ := rv.one
        have ry' : RelV (kV j) u := by
          cases ry <;> simp only [asKey] at hj <;> first | (cases hj; exact ru) | cases hj
        refine d_pop I h1 ry' e1 (.inl rfl) fun w' s' I' rw' => ⟨v1, _, I', rw', ?_⟩
        exact (hq _ _ hw) _ _ (Ste.mut ha mu) (rv1.le (Le.mut mu)) (rh.put mu ⟨_, upd_same, (r1.drop (k := j)).le (Le.mut mu)⟩)
      · exact hw.elim
    · exact hw.elim
  · obtain ⟨y, rfl, ry⟩ := rds.one
    split at hw
    · rename_i o ho
      obtain ⟨r, g, g1, g2⟩ := dlook_get rh ry ho
      exact mt_get1 (by omega) pins s σ H _ _ v us Q I rx rv ⟨_, _, _, rfl, rfl, g, (hq _ _ hw).here (getD_rd g1 g2 .non) rh⟩
    · exact hw.elim
  · obtain ⟨y, z, rfl, ry, rz⟩ := rds.two
    split at hw
    · rename_i o ho
      obtain ⟨r, g, g1, g2⟩ := dlook_get rh ry ho
      exact mt_get2 (by omega) pins s σ H _ _ v us Q I rx rv ⟨_, _, _, _, rfl, rfl, g, (hq _ _ hw).here (getD_rd g1 g2 rz) rh⟩
    · exact hw.elim
  · exact hw.elim
theorem mf_ok (R : Rm X) {m : Mtd} {x : V} {d : D} {xs : List V} {v : Value} {us : List Value} {ds : List D} {pins : List (Addr × Obj)} {s : Shared} {σ : L2.St} {Q : VK} {Q0 : QD} (I : Inv X pins σ H s) (rx : RelV x v) (rv : Vals xs us) (rd : RD X.K H x d) (rds : RDs X.K H xs ds) (rh : RH X.K C H h)
  (hw : wMF m d ds h Q0) (hq : ∀ r h', Q0 r h' → LQ X.K C H h Q r h') : wpAny (model X.prog X.w) X.A (call (.builtin m.id) (v :: us)) (EP X pins σ Q) X.xe s := by
  have hu := R.u
  unfold wMF at hw
  split at hw
  · obtain ⟨y, rfl, ry⟩ := rds.one
    split at hw
    · rename_i o ho
      obtain ⟨a, r, ex, g, g1, g2⟩ := dsel_get rh rd ry ho
      exact mt_get1 (by omega) pins s σ H _ _ v us Q I rx rv ⟨_, _, _, ex, rfl, g, (hq _ _ hw).here (getD_rd g1 g2 .non) rh⟩
    · exact hw.elim
  · obtain ⟨y, z, rfl, ry, rz⟩ := rds.two
    split at hw
    · rename_i o ho
      obtain ⟨a, r, ex, g, g1, g2⟩ := dsel_get rh rd ry ho
      exact mt_get2 (by omega) pins s σ H _ _ v us Q I rx rv ⟨_, _, _, _, ex, rfl, g, (hq _ _ hw).here (getD_rd g1 g2 rz) rh⟩
    · exact hw.elim
  · exact hw.elim
theorem mtd_ok (R : Rm X) : ∀ m : Mtd, MtD X C m.id (wM false m) := by
  intro m pins s σ H x xs v us Q I rx rv ⟨d, ds, h, Q0, rd, rds, rh, hw, hq⟩
  have hz := sizeLine_eq
  have hu := R.u
  unfold wM at hw
  split at hw
  · rename_i a
    split at hw
    · rename_i ys ha
      cases rd
      obtain ⟨vs, h1, r1⟩ := rh _ _ ha
      have mu : Mut (H a) := by rw [h1]; exact trivial
      have l1 := r1.length
      unfold wML at hw
      split at hw
      · obtain ⟨y, rfl, ry⟩ := rds.one
        exact mt_append pins s σ H _ _ v us Q I rx rv ⟨_, _, _, rfl, rfl, h1, by omega, (hq _ _ hw.2) _ _ (Ste.mut ha mu) .non (rh.put mu ⟨_, upd_same, (r1.append (.cons ry .nil)).le (Le.mut mu)⟩)⟩
      · split at hw
        · rename_i zs hb
          obtain ⟨y, rfl, ry⟩ := rds.one
          obtain ⟨b, ws, rfl, r2, z2, its2, n2, v2, hl2, e2⟩ := lst_obj I rh ry hb
          have l2 := r2.length
          cases rx
          obtain ⟨u, rfl, ru⟩ := rv.one
          cases ru
          obtain ⟨z, its, n, r, hl, e⟩ := I.lstM h1
          have hsz : its.toArray.size + its2.toArray.size ≤ sizeLine := by rw [List.size_toArray, List.size_toArray]; omega
          have hlong : ¬ (!its.toArray.isEmpty && Builtin.List.listTooLong (its.toArray.size + its2.toArray.size)) = true := by
            rw [notLongL hsz, Bool.and_false]
            exact Bool.false_ne_true
          refine call_meets F.slot_list_extend ⟨_, e, rfl⟩ F.entry_list_extend (F.args_list_extend_2 _ _)
            (AutoSeq1.list_extend_list_list_0 a its.toArray n b its2.toArray n2 hlong (by rw [List.size_toArray]; omega) (by omega)) ⟨e, e2, ?_⟩
          refine ⟨.non, _, I.lset (its' := its ++ its2) h1 e (by simp) (r.append v2) ?_, rfl, (hq _ _ hw.2) _ _ (Ste.mut ha mu) .non (rh.put mu ⟨_, upd_same, (r1.append r2).le (Le.mut mu)⟩)⟩
          rw [List.length_append]
          omega
        · exact hw.elim
      · split at hw
        · rename_i y hy
          cases rds
          rw [← l1] at hy
          obtain ⟨z, h3, rz⟩ := r1.get hy
          exact mt_pop pins s σ H _ _ v us Q I rx rv ⟨_, _, _, rfl, rfl, h1, h3, (hq _ _ hw) _ _ (Ste.mut ha mu) (rz.le (Le.mut mu)) (rh.put mu ⟨_, upd_same, r1.dropLast.le (Le.mut mu)⟩)⟩
        · exact hw.elim
      · obtain ⟨⟨i1, i2⟩, hw⟩ := hw
        split at hw
        · rename_i k hk
          split at hw
          · rename_i y hy
            obtain ⟨w, rfl, ry⟩ := rds.one
            cases ry
            obtain ⟨z, h3, rz⟩ := r1.get hy
            rw [← l1] at hk
            exact mt_popAt pins s σ H _ _ v us Q I rx rv ⟨_, _, _, _, _, rfl, rfl, h1, i1, i2, hk, h3, (hq _ _ hw) _ _ (Ste.mut ha mu) (rz.le (Le.mut mu)) (rh.put mu ⟨_, upd_same, (r1.eraseIdx k).le (Le.mut mu)⟩)⟩
          · exact hw.elim
        · exact hw.elim
      · cases rds
        exact mt_reverse pins s σ H _ _ v us Q I rx rv ⟨_, _, rfl, rfl, h1, (hq _ _ hw) _ _ (Ste.mut ha mu) .non (rh.put mu ⟨_, upd_same, r1.reverse.le (Le.mut mu)⟩)⟩
      · cases rds
        exact mt_clear pins s σ H _ _ v us Q I rx rv ⟨_, _, rfl, rfl, h1, (hq _ _ hw) _ _ (Ste.mut ha mu) .non (rh.put mu ⟨_, upd_same, .nil⟩)⟩
      · obtain ⟨y, z, rfl, ry, rz⟩ := rds.two
        cases ry
        obtain ⟨⟨i1, i2, i3⟩, hw⟩ := hw
        exact mt_insert pins s σ H _ _ v us Q I rx rv ⟨_, _, _, _, rfl, rfl, h1, by omega, i2, i3, (hq _ _ hw) _ _ (Ste.mut ha mu) .non (rh.put mu ⟨_, upd_same, (((r1.take _).append (.cons rz .nil)).append (r1.drop _)).le (Le.mut mu)⟩)⟩
      · obtain ⟨d, es, j, p1, p2, q1, q2, q3, q4, hw⟩ := hw
        obtain ⟨y, rfl, ry⟩ := rds.one
        cases rx
        obtain ⟨u, rfl, ru⟩ := rv.one
        obtain ⟨bs, rb⟩ := Dp.reads I _ _ _ (p1.dp rh ry) ru
        obtain ⟨as, ra⟩ := Dp.reads I _ (V.ref a) (Value.ref a) (p2.dp rh (.ref _)) rfl
        obtain ⟨z, its, n, r, hl, e⟩ := I.lstM h1
        cases ra with
        | list e1 e2 e3 e4 =>
          rw [e] at e1
          cases e1
          cases e3
          refine PySem.SeqAt.remove_list_data (vs := its.toArray) ⟨_, e, rfl, n, rfl⟩ e4 rb q2 q1 (by omega) q4 (by rw [List.size_toArray]; omega) ?_
          refine ⟨.non, _, I.lset (its' := its.eraseIdx j) (t' := s.toks) h1 e ?_ (r.eraseIdx j) ?_, rfl, (hq _ _ hw) _ _ (Ste.mut ha mu) .non (rh.put mu ⟨_, upd_same, (r1.eraseIdx j).le (Le.mut mu)⟩)⟩
          · show its.toArray.eraseIdxIfInBounds j = (its.eraseIdx j).toArray
            rw [List.eraseIdxIfInBounds_toArray]
          · rw [List.length_eraseIdx]
            split <;> omega
      · exact hw.elim
    · cases rd
      exact md_ok R I rx rv rds rh hw hq
    · cases rd
      exact md_ok R I rx rv rds rh hw hq
    · exact hw.elim
  · cases rd
    unfold wMS at hw
    split at hw
    · split at hw
      · rename_i ys hy
        obtain ⟨ss, e, hs, hw⟩ := hw
        subst e
        obtain ⟨y, rfl, ry⟩ := rds.one
        obtain ⟨p, vs, rfl, sq, r1⟩ := seqOf_rd rh ry hy
        rw [sL_rd r1] at sq
        exact mt_join pins s σ H _ _ v us Q I rx rv ⟨_, _, _, rfl, rfl, sq, hs, by rw [TL.join_eq]; exact (hq _ _ hw).here (.str _) rh⟩
      · exact hw.elim
    · obtain ⟨y, rfl, ry⟩ := rds.one
      cases ry
      obtain ⟨i1, i2, hw⟩ := hw
      exact mt_split pins s σ H _ _ v us Q I rx rv ⟨_, _, rfl, rfl, i1, by omega, fun p hp => (hq _ _ (hw p (rh.free hp))) _ _ (Ste.new hp) (.ref _) (rh.new hp ⟨_, upd_same, rd_sL _⟩)⟩
    · obtain ⟨y, rfl, ry⟩ := rds.one
      cases ry
      obtain ⟨i1, i2, hw⟩ := hw
      exact mt_partition pins s σ H _ _ v us Q I rx rv ⟨_, _, rfl, rfl, i1, by omega, fun p hp => (hq _ _ hw) _ _ (Ste.side hp) (.tup upd_same (.cons (.str _) (.cons (.str _) (.cons (.str _) .nil)))) (rh.side hp)⟩
    · cases rds
      exact mt_upper pins s σ H _ _ v us Q I rx rv ⟨_, rfl, rfl, hw.1, (hq _ _ hw.2).here (.str _) rh⟩
    · exact hw.elim
  · exact mf_ok R I rx rv rd rds rh hw hq
  · exact mf_ok R I rx rv rd rds rh hw hq
  · exact hw.elim
end
end DL

/-! DL, part E2: t[::-1] of lists and tuples -/
namespace DL
open PySem PySem.Spec PyProof.Rows L2

theorem back_adj (n : Nat) : Builtin.Slice.sliceAdjust none none (-1) (n : Int) = ((n : Int) - 1, -1) := rfl
theorem back_cnt (n : Nat) : Builtin.Slice.slicePlaces ((n : Int) - 1) (-1) (-1) = n := by
  unfold Builtin.Slice.slicePlaces
  rw [if_neg (by omega)]
  by_cases h : ((n : Int) - 1) > -1
  · rw [if_pos h]
    have e : (-(-1 : Int)) = 1 := rfl
    rw [e, Int.ediv_one]
    omega
  · rw [if_neg h]
    omega
theorem back_pick (xs : List Value) : (List.range xs.toArray.size).filterMap (fun (m : Nat) => xs.toArray[(((xs.toArray.size : Nat) : Int) - 1 + (m : Int) * (-1)).toNat]?) = xs.reverse := by
  rw [List.size_toArray]
  have key : ∀ k, k ≤ xs.length → (List.range k).filterMap (fun (m : Nat) => xs.toArray[((xs.length : Int) - 1 + (m : Int) * (-1)).toNat]?) = xs.reverse.take k := by
    intro k
    induction k with
    | zero => intro _; rfl
    | succ k ih =>
      intro hk
      have hl : k < xs.reverse.length := by rw [List.length_reverse]; omega
      have e1 : ((xs.length : Int) - 1 + (k : Int) * (-1)).toNat = xs.length - 1 - k := by omega
      have e2 : xs.toArray[xs.length - 1 - k]? = xs.reverse[k]? := by
        rw [List.getElem?_toArray, List.getElem?_reverse (by omega)]
      rw [List.range_succ, List.filterMap_append, ih (by omega), List.take_add_one]
      congr 1
      rw [List.filterMap_cons, e1, e2, List.getElem?_eq_getElem hl]
      rfl
  rw [key _ (Nat.le_refl _), ← List.length_reverse, List.take_length]
section
variable {prog : Program} {w : World} {A : Around} {E : Value → Shared → Prop} {s : Shared}
theorem back_app {sl : Addr} {vs : Value} {n : Nat} {Q : Int × Int × Nat → Shared → Prop} (hs : s.heap.IsSliceOf sl .none .none vs) (ps : IsPart vs (some (-1))) (h : Q ((n : Int) - 1, -1, n) s) :
    wpAny (model prog w) A (Builtin.Slice.sliceApplied (.ref sl) (pure (n : Int))) Q E s := by
  obtain ⟨os, h1, h2, h3⟩ := hs
  unfold Builtin.Slice.sliceApplied Builtin.Slice.sliceFields
  refine wpAny_bind (wpAny_bind (wpAny_field h1 h3 (x := .none) rfl ?_))
  refine wpAny_bind (wpAny_field h1 h3 (x := .none) rfl ?_)
  refine wpAny_bind (wpAny_field h1 h3 (x := vs) rfl (wpAny_pure ?_))
  refine wpAny_bind (HT.slicePart_ ps ?_)
  show wpAny _ _ (if ((-1 : Int) == 0) = true then _ else _) _ _ s
  rw [if_neg (by decide)]
  refine wpAny_bind (slicePart_none ?_)
  refine wpAny_bind (slicePart_none ?_)
  refine wpAny_bind (wpAny_pure ?_)
  show wpAny _ _ (match Builtin.Slice.sliceAdjust none none (-1) (n : Int) with | (lo, hi) => pure (lo, (-1 : Int), Builtin.Slice.slicePlaces lo hi (-1))) _ _ s
  rw [back_adj]
  show wpAny _ _ (pure ((n : Int) - 1, (-1 : Int), Builtin.Slice.slicePlaces ((n : Int) - 1) (-1) (-1))) _ _ s
  rw [back_cnt]
  exact wpAny_pure h
theorem back_tup {t sl : Addr} {its : List Value} {vs : Value} {Q : Value → Shared → Prop} (ht : IsTup s.heap t its.toArray) (hs : s.heap.IsSliceOf sl .none .none vs) (ps : IsPart vs (some (-1))) (hz : its.length ≤ sizeLine)
    (h : Q (.ref s.heap.objs.size) { s with heap := s.heap.push { cls := .type "tuple", data := .seq its.reverse.toArray } }) : wpAny (model prog w) A (getItem (.ref t) (.ref sl)) Q E s := by
  have hk : sizeOk (.seq its.reverse.toArray) := by
    show its.reverse.toArray.size ≤ sizeLine
    rw [List.size_toArray, List.length_reverse]
    exact hz
  have hT : s.TypeIs (.ref sl) "slice" := let ⟨os, h1, h2, _⟩ := hs; ⟨os, h1, h2⟩
  unfold getItem
  try with_reducible refine wpAny_holding ?_
  first | refine wpAny_bind (wpAny_pure ?_) | skip
  refine wpAny_bind (wpAny_sequenceKey ht.typeIs (by decide) (wpAny_bind (wpAny_callSpecial?_slot (name := Str.ofString "__getitem__") ht.typeIs PyProof.Rows.slot_tuple_getitem (wpAny_call_entry PyProof.Rows.slot_tuple_getitem ht.typeIs entry_tuple_getitem ?_ (args_tuple_getitem _ _)))))
  show wpAny _ _ (Builtin.Tuple.tupleItemsOf (.ref t) >>= _) _ _ s
  refine wpAny_bind (tupleItemsOf_ ht (wpAny_bind (wpAny_typeOf hT ?_)))
  rw [if_pos (by decide)]
  refine wpAny_bind (back_app hs ps ?_)
  show wpAny _ _ (if ((((its.toArray.size : Nat) : Int) - 1) == 0 && (-1 : Int) == 1 && its.toArray.size == its.toArray.size) = true then _ else _) _ _ s
  rw [if_neg (by
    intro q
    rw [Bool.and_eq_true, Bool.and_eq_true] at q
    exact absurd q.1.2 (by decide)), back_pick]
  first
    | exact wpAny_bind (m := Builtin.Tuple.tupleExact _) (wpAny_newObj_type (wpAny_pure ⟨_, rfl, wpAny_pure h⟩) hk)
    | exact wpAny_bind (m := Builtin.Tuple.tupleExact _) (wpAny_newObj_type (wpAny_bind (wpAny_pure (wpAny_pure ⟨_, rfl, wpAny_pure h⟩))) hk)
    | exact wpAny_bind (wpAny_bind (m := Builtin.Tuple.tupleExact _) (wpAny_newObj_type (wpAny_pure (wpAny_pure ⟨_, rfl, wpAny_pure h⟩)) hk))
    | exact wpAny_bind (wpAny_bind (m := Builtin.Tuple.tupleExact _) (wpAny_newObj_type (wpAny_pure ⟨_, rfl, wpAny_pure h⟩) hk))
end
section
variable {X : Cx} {pos : Pos}
/-- a text turned about -/
def revS (z : Str) : Str := ⟨((Builtin.Str.strSliceIndices none none (-1) z.length).filterMap (z.cps[·]?)).toArray⟩
/-- e[::-1] of a text, a list or a tuple -/
def tBack (K : PySem.W.Frag) (te : TE) : TE := fun σ H Q => te σ H fun x H1 => (∃ z, x = .str z ∧ (revS z).length ≤ sizeLine ∧ Q (.str (revS z)) H1) ∨ ∃ a xs, x = .ref a ∧ ((SqL K H1 a xs ∧ ∀ p, H1 p = none → Q (.ref p) (upd H1 p (.lst xs.reverse))) ∨ (SqT K H1 a xs ∧ ∀ p, H1 p = none → Q (.ref p) (upd H1 p (.tup xs.reverse))))
theorem pe_back {e : Expr} {te : TE} {k : Nat} {p1 p2 p3 : Pos} (he : PE X e te) : PE X (.Subscript e (.Slice none none (some (.UnaryOp .USub (.Constant (.int 1) k p1) p2)) p3) pos) (tBack X.K te) := by
  refine ⟨fun pins s σ H Q I h => Subscript_ (thn (he.run pins s σ H _ I h) fun v s1 ⟨x, H1, I1, r1, q⟩ => ?_)⟩
  have step : PO X (some (.UnaryOp .USub (.Constant (.int 1) k p1) p2)) (tPart (tUn (rU fun i => .int (-i)) (tC (.int 1)))) := po_some (pe_un un_neg pe_int)
  refine wpAny_Slice (thn (po_none.run pins s1 σ H1 (fun o H2 => o = none ∧ H2 = H1) I1 ⟨rfl, rfl⟩) fun v1 s2 ⟨o1, H2, I2, g1, z1, y1⟩ => ?_)
  subst z1 y1
  refine thn (po_none.run pins s2 σ H2 (fun o H3 => o = none ∧ H3 = H2) I2 ⟨rfl, rfl⟩) fun v2 s3 ⟨o2, H3, I3, g2, z2, y2⟩ => ?_
  subst z2 y2
  refine thn (step.run pins s3 σ H3 (fun o H4 => o = some (-1) ∧ H4 = H3) I3 ⟨1, rfl, -1, rfl, rfl, rfl⟩) fun v3 s4 ⟨o3, H4, I4, g3, z3, y3⟩ => ?_
  subst z3 y3
  have n1 : v1 = .none := by cases g1; rfl
  have n2 : v2 = .none := by cases g2; rfl
  subst n1 n2
  have I5 : Inv X pins σ H4 { s4 with heap := s4.heap.push { cls := .type "slice", data := .fields #[.none, .none, v3] } } := I4.kept (t' := s4.toks) fun _ _ z => Heap.get?_push_of_some _ z
  show wpAny (model X.prog X.w) X.A (subscriptTail e (.Slice none none (some (.UnaryOp .USub (.Constant (.int 1) k p1) p2)) p3) v (.ref s4.heap.objs.size)) (EP X pins σ Q) X.xe _
  rcases q with ⟨z, ex, hz, q⟩ | ⟨a, xs, ex, q⟩
  · subst ex
    obtain ⟨t, rfl⟩ := r1
    cases g3 with
    | int _ tk =>
      refine tail_any (ops := [.str z t, .ref s4.heap.objs.size]) (typeIs_str _ z t) PySem.F.slot_str_getitem.lookup ?_ (by with_unfolding_all rfl)
      refine wpAny_getItem_str_slice (l := none) (u := none) (st := some (-1, tk)) ⟨_, Heap.get?_push_size _ rfl, rfl, rfl⟩ rfl ?_
      exact ⟨hz, .str _, _, I5.tok _, ⟨_, rfl⟩, q⟩
  · subst ex
    cases r1
    rcases q with ⟨hx, q⟩ | ⟨hx, q⟩
    · obtain ⟨its, r, ht, hz⟩ := I5.list hx
      have hlen := r.length
      refine tail_any (ops := [.ref a, .ref s4.heap.objs.size]) ht.isList.typeIs (PySem.slot_list_getitem.lookup) ?_ (by with_unfolding_all rfl)
      refine wpAny_getItem_list_slice ht.isList (Heap.IsSliceOf.new _ .none .none v3) g1 g2 g3 (by decide) ?_ (by rw [List.size_toArray]; omega)
      rw [PySem.W.krv_pick]
      refine ⟨.ref _, _, I5.laid (t' := s4.toks) (o := .lst xs.reverse) (fun _ _ z => Heap.get?_push_of_some _ z) (Nat.le_refl _) ?_, rfl, q _ (I5.hok.fresh (Nat.le_refl _))⟩
      refine ⟨?_, _, 0, r.reverse, Heap.get?_push_size _ rfl⟩
      rw [List.length_reverse]
      exact hz
    · obtain ⟨its, r, ht, hz⟩ := I5.tuple hx
      have hlen := r.length
      refine tail_any (ops := [.ref a, .ref s4.heap.objs.size]) ht.typeIs (PyProof.Rows.slot_tuple_getitem.lookup) ?_ (by with_unfolding_all rfl)
      refine back_tup ht (Heap.IsSliceOf.new _ .none .none v3) g3 (by omega) ?_
      refine ⟨.ref _, _, I5.laid (t' := s4.toks) (o := .tup xs.reverse) (fun _ _ z => Heap.get?_push_of_some _ z) (Nat.le_refl _) ?_, rfl, q _ (I5.hok.fresh (Nat.le_refl _))⟩
      refine ⟨?_, _, r.reverse, IsTup.new _ _⟩
      rw [List.length_reverse]
      exact hz
end
end DL

/-! DL, part E3: min(xs, default=d); list(range(a, b)) -/
namespace DL
open PySem PySem.Spec PyProof.Rows L2

theorem minOf_spec : ∀ (ys : List Int) (y : Int), PySem.W.minOf y ys ∈ y :: ys ∧ ∀ z ∈ y :: ys, PySem.W.minOf y ys ≤ z
  | [], y => ⟨by simp [PySem.W.minOf], fun z hz => by
      have : z = y := by simpa using hz
      subst this
      exact Int.le_refl _⟩
  | x :: ys, y => by
    have e : PySem.W.minOf y (x :: ys) = PySem.W.minOf (if decide (x < y) = true then x else y) ys := rfl
    have ih := minOf_spec ys (if decide (x < y) = true then x else y)
    rw [e]
    by_cases g : x < y
    · rw [if_pos (decide_eq_true g)] at ih ⊢
      refine ⟨List.mem_cons_of_mem _ ih.1, fun z hz => ?_⟩
      rcases List.mem_cons.mp hz with rfl | hz
      · have := ih.2 x (by simp)
        omega
      · exact ih.2 z hz
    · rw [if_neg (by simpa using g)] at ih ⊢
      refine ⟨?_, fun z hz => ?_⟩
      · rcases List.mem_cons.mp ih.1 with q | q
        · rw [q]; simp
        · exact List.mem_cons_of_mem _ (List.mem_cons_of_mem _ q)
      · rcases List.mem_cons.mp hz with rfl | hz
        · exact ih.2 z (by simp)
        · rcases List.mem_cons.mp hz with rfl | hz
          · have := ih.2 y (by simp)
            omega
          · exact ih.2 z (List.mem_cons_of_mem _ hz)
theorem holds_ints {h : Heap} : ∀ {ns : List Int} {us : List Value}, Vals (ns.map V.int) us → PySem.W.HoldAll h us ns
  | [], _, .nil => ⟨_, .nil⟩
  | n :: ns, _, .cons r rs => by
    obtain ⟨t, rfl⟩ := r
    obtain ⟨as, q⟩ := holds_ints (h := h) rs
    exact ⟨_, .cons (.int n t) q⟩
section
variable {X : Cx}
def rMinD (K : PySem.W.Frag) (C : CA) : List V → List V → Hp → VK → Prop := fun xs zs H Q => (∃ p ns z, xs = [.ref p] ∧ SqL K H p (ns.map V.int) ∧ zs = [z] ∧ (ns = [] → Q z H) ∧ ∀ m, m ∈ ns → (∀ y, y ∈ ns → m ≤ y) → Q (.int m) H) ∨
  ∃ p vs z ds h ps, xs = [.ref p] ∧ SqL K H p vs ∧ zs = [z] ∧ RDs K H vs ds ∧ RH K C H h ∧ DPys h ds ps ∧ PySem.W.AlikeAll ps ∧ PyData.depthAll ps ≤ 60 ∧ (ps = [] → Q z H) ∧ ∀ p0 pt, ps = p0 :: pt → ∀ (e : D) (i : Nat) (v : V), ds[i]? = some e → ps[i]? = some (PySem.W.minD p0 pt) → RD K H v e → Q v H
theorem cr_minD {C : CA} (hc : X.calm = true) (hu : X.A.units + 200 < cLine) : CallRK X (.builtin "min") [Str.ofString "default"] (rMinD X.K C) := by
  intro pins s σ H xs zs us ws Q I r rz h
  rcases h with ⟨p, ns, z, ex, sq, ez, h0, hm⟩ | ⟨p, vs, z, ds, h, ps, ex, sq, ez, r1, rh, dp, ha, hd, h0, hq⟩
  · subst ex ez
    obtain ⟨its, rv, pl, _⟩ := I.list sq
    rw [Vals.ref1 r]
    obtain ⟨w1, rfl, e1⟩ := vals1 rz
    refine PySem.W.min_list_datum_default (α := Int) (xs := ns) (I.ok.hd hc) pl.isList ?_ ?_ (fun e h' tk hk => ⟨z, H, I.kept (t' := tk) hk, e1, h0 e⟩) fun y ys i v h' tk e hi hv hk => ?_
    · exact holds_ints (by simpa using rv)
    · show X.A.units + 1 + PySem.W.Datum.depth Int < cLine
      have : PySem.W.Datum.depth Int ≤ 8 := by decide
      omega
    · obtain ⟨as, rd⟩ := hv
      have sp := minOf_spec ys y
      rw [← e] at sp
      have : ∃ t, v = .int (PySem.W.minOf y ys) t := by
        cases rd with
        | int _ t => exact ⟨t, rfl⟩
      obtain ⟨t, rfl⟩ := this
      exact ⟨.int _, H, I.kept (t' := tk) hk, ⟨t, rfl⟩, hm _ sp.1 sp.2⟩
  · subst ex ez
    obtain ⟨its, rv2, pl, _⟩ := I.list sq
    rw [Vals.ref1 r]
    obtain ⟨w1, rfl, e1⟩ := vals1 rz
    obtain ⟨as, rs⟩ := Dp.readsAll I _ _ _ (DPys.dp rh dp r1) rv2
    refine PySem.W.min_list_default (vs := its.toArray) (I.ok.hd hc) pl.isList rs ha (by omega) (fun e h' tk hk => ⟨z, H, I.kept (t' := tk) hk, e1, h0 e⟩) fun y ys i v h' tk bs e hi rd' hk => ?_
    obtain ⟨cs, rr, lt, _, _⟩ := PySem.W.readsAll_atA (vs := its.toArray) rs i v hi
    have hi' : its[i]? = some v := by simpa using hi
    have lx : i < vs.length := by
      have := rv2.length
      have := (List.getElem?_eq_some_iff.mp hi').1
      omega
    obtain ⟨u, hu2, ru⟩ := rv2.get (List.getElem?_eq_getElem lx)
    have eu : u = v := Option.some.inj (hu2.symm.trans hi')
    subst eu
    obtain ⟨d, h1, h2⟩ := r1.getV (List.getElem?_eq_getElem lx)
    have e3 := (Reads.unique (Reads.keeps hk rr) _ _ rd').1
    refine ⟨_, H, I.kept (t' := tk) hk, ru, hq y ys e d i _ h1 ?_ h2⟩
    rw [← e3, List.getElem?_eq_getElem lt]
    simp [List.getD_eq_getElem?_getD, List.getElem?_eq_getElem lt]
end
end DL

/-! DL, part E4: sorted(set(xs)) -/
namespace DL
open PySem PySem.Spec PyProof.Rows L2

/-- a set just made -/
abbrev ns0 (w : World) : Obj := { cls := .type "set", dict := none, data := .set #[] 0 (.fresh 0 0 (!w.params.followText "set-order")) }
def Hid (p : Prop) : Prop := p
theorem nm2 {a b c : Addr} (h : a ≠ b) (h2 : a ≠ c) : a ∉ [b, c] := by simp [h, h2]
section
variable {P : Program} {w : World} {A : Around} {E : Value → Shared → Prop} {s : Shared}
/-- what the loop of set(xs) leaves -/
def SLoop (P : Program) (w : World) (E : Value → Shared → Prop) (vs : Array Value) (R : Heap → Addr → Prop) : Prop :=
  ∀ (A : Around) (I S : Addr) (fp wr : List Addr) (St : Nat → Shared → Prop) (s1 : Shared) (G : Result → Shared → Prop),
    A.in1.handled = none → WalksS P w A.in1 I fp wr (fun g g' => g' = g) vs.size (fun i v => vs[i]? = some v) St → S ∉ fp → St 0 s1 → s1.heap.get? S = some (ns0 w) →
    (∀ s2, Moved (S :: wr) (fun g g' => g' = g) s1 s2 → R s2.heap S → G (.ok (.ret .none)) s2) → codeAny (model P w) A (.builtin "set.update.loop" ⟨[.ref S, .ref I], []⟩) G s1
set_option maxHeartbeats 3200000 in
theorem set_lst {l : Addr} {vs : Array Value} {R : Heap → Addr → Prop} {Q : Value → Shared → Prop} (hh : A.handled = none) (hl : s.heap.IsList l vs) (lp : SLoop P w E vs R)
    (h : ∀ (h' : Heap) (tk : Nat), R h' s.heap.objs.size → (∀ b o, s.heap.get? b = some o → h'.get? b = some o) → Q (.ref s.heap.objs.size) { s with heap := h', toks := tk }) : wpAny (model P w) A (call (.type "set") [.ref l]) Q E s := by
  obtain ⟨c, tl, f1⟩ := F.called_set.mro
  have f2 := F.called_set.made
  have f3 := F.called_set.sub
  refine wpAny_call (codeAny_of_tree ?_)
  show wpAny _ _ (callAny (.type "set") _) _ _ _
  refine wpAny_pure ⟨Code.quiet_builtin _ (by decide +kernel), codeAny_builtin F.entry_type_call ?_⟩
  rw [Around.under_plain (weight_type_call_type "set" [.ref l] []) rfl]
  have f4 := F.called_set.notType
  have f5 := F.called_set.canCreate
  have f6 := F.typeCall_set_1 (.ref l)
  repeat (any_goals (first | assumption | wp_step))
  refine codeAny_mono (code_set_led1 (.ref l) (E := E) (Q₁ := fun x t => x = .ref s.heap.objs.size ∧ t = { s with heap := s.heap.push (ns0 w) }) ⟨rfl, rfl⟩) fun r t hr => ?_
  have hS : (s.heap.push (ns0 w)).get? s.heap.objs.size = some (ns0 w) := Heap.get?_push_size _ rfl
  have sz : (s.heap.push (ns0 w)).objs.size = s.heap.objs.size + 1 := Heap.size_push ..
  have hT : Shared.TypeIs { s with heap := s.heap.push (ns0 w) } (.ref s.heap.objs.size) "set" := ⟨_, hS, rfl⟩
  have f7 := F.called_set.init.lookup
  have f8 := F.called_set.init.bind (.ref s.heap.objs.size)
  cases r with
  | error e => exact hr
  | ok fl =>
    cases fl with
    | ret obj =>
      obtain ⟨rfl, rfl⟩ := hr
      repeat (any_goals (first | assumption | wp_step))
      refine codeAny_mono (codeAny_call_builtin (R := wants (fun r t => r = .none ∧ ∃ g tk, t = { s with heap := g, toks := tk } ∧ R g s.heap.objs.size ∧ ∀ b o, s.heap.get? b = some o → g.get? b = some o) E) F.called_set.init.plain F.entry_set_init (check_set_init_1 hT ?_)) fun r2 t2 hr2 => ?_
      · have hl1 : (s.heap.push (ns0 w)).IsList l vs := hl.push _
        have ll : l < s.heap.objs.size := Heap.lt_size hl.choose_spec.1
        have f9 := F.sub_list_set
        have f10 := F.sub_list_frozenset
        have f11 : (Value.type "list" == Value.type "dict") = false := by decide
        obtain ⟨ob, ho, hc, nl, hd⟩ := hl1
        obtain ⟨oc, od, oa, os⟩ := ob
        dsimp only at hc hd
        cases hc
        cases hd
        have hl2 : (s.heap.push (ns0 w)).IsList l vs := ⟨_, ho, rfl, nl, rfl⟩
        unfold Builtin.«set.__init__» noKeywords Builtin.Frozenset.updateFrom
        have hid : Hid (_ ∧ _ ∧ _ ∧ _ ∧ _) := ⟨lp, hS, sz, ll, hh⟩
        clear h f1 f2 f3 f4 f5 f6 f7 f8 hT hl c tl lp hS sz ll hh
        generalize hp : pyIter = pit
        wp_walk
        obtain ⟨lp, hS, sz, ll, hh⟩ := hid
        cases hp
        refine wpAny_pyIter_list hl2 (wpAny_bind (wpAny_runValue ?_))
        have ne : l ≠ (s.heap.push (ns0 w)).objs.size := by rw [sz]; exact Nat.ne_of_lt (Nat.lt_succ_of_lt ll)
        refine lp _ _ s.heap.objs.size _ _ _ _ _ (by simp [hh]) ((Walks.list (by simp [hh]) _ l ne vs).toS) (by rw [sz]; exact nm2 (Nat.ne_of_lt (Nat.lt_succ_self _)) (Nat.ne_of_gt ll)) ⟨⟨_, Heap.get?_push_size _ rfl, rfl, rfl⟩, hl2.push _⟩ (Heap.get?_push_of_some _ hS) fun s2 mv r2 => ?_
        obtain ⟨h2, g2, d2, k2, o2⟩ := s2
        have e1 : g2 = s.gens := mv.gens
        have e2 : d2 = s.drawn := mv.drawn
        have e3 : o2 = s.os := mv.os
        cases e1
        cases e2
        cases e3
        show wpAny _ _ _ _ _ _
        refine wpAny_pure ?_
        show wpAny _ _ (ret Value.none) _ _ _
        refine wpAny_pure ⟨rfl, h2, k2, rfl, r2, fun b o e => mv.heap b o ?_ (Heap.get?_push_of_some _ (Heap.get?_push_of_some _ e))⟩
        have lb := Heap.lt_size e
        rw [sz]
        exact nm2 (Nat.ne_of_lt lb) (Nat.ne_of_lt (Nat.lt_succ_of_lt lb))
      · cases r2 with
        | error e => exact hr2
        | ok f2 =>
          cases f2 with
          | ret y =>
            obtain ⟨rfl, h2, k2, rfl, r3, kk⟩ := hr2
            repeat (any_goals (first | assumption | wp_step))
            exact h _ _ r3 kk
          | _ => exact hr2.elim
    | _ => exact hr.elim
end
end DL

/-! DL, part E5: sorted(set(xs)), len(set(xs)) -/
namespace DL
open PySem PySem.Spec PyProof.Rows L2

/-- pigeons -/
theorem nd_len {K : Type} [DecidableEq K] : ∀ {xs ys : List K}, xs.Nodup → (∀ x ∈ xs, x ∈ ys) → xs.length ≤ ys.length
  | [], _, _, _ => Nat.zero_le _
  | x :: xs, ys, h, hs => by
    obtain ⟨h1, h2⟩ := List.nodup_cons.mp h
    have hx : x ∈ ys := hs x List.mem_cons_self
    have ih := nd_len h2 (ys := ys.erase x) fun y hy => (List.mem_erase_of_ne fun e => h1 (by rw [← e]; exact hy)).2 (hs y (List.mem_cons_of_mem _ hy))
    have e := List.length_erase_of_mem hx
    have p := List.length_pos_of_mem hx
    rw [List.length_cons]
    omega
section
variable {P : Program} {w : World} {A : Around} {E : Value → Shared → Prop} {s : Shared}
theorem sloop_int {vs : Array Value} (ns : List Int) (hi : IntsAre vs.toList ns) (hb : ns.length + 1 < scanBound) : SLoop P w E vs fun h a => ∃ c, SetR w h a (fun j => decide (j ∈ ns)) c := by
  intro A I S fp wr St s1 G hh W hS st ho hG
  have hz : vs.size = ns.length := by
    have q := IntsAre.length hi
    rw [Array.length_toList] at q
    exact q
  refine set_update_ints (A := A) W S hS ns hz hb (fun i v hv => ?_) (vs.size - 0) 0 s1 (by omega) (Nat.zero_le _) st ⟨0, Nat.le_refl _, setR_new_at ho⟩ fun s2 c mv _ r => hG s2 mv ⟨c, r⟩
  have h1 : i < ns.length := by rw [← hz]; exact (Array.getElem?_eq_some_iff.mp hv).1
  obtain ⟨t, e⟩ := PyProof.Rows.IntsAre.int_at hi i v (by rw [Array.getElem?_toList]; exact hv)
  refine ⟨ns[i], t, List.getElem?_eq_getElem h1, ?_⟩
  rw [e, List.getD_eq_getElem?_getD, List.getElem?_eq_getElem h1]
  rfl
def inB {K : Type} [DecidableEq K] (us : List K) (k : K) : Bool := us.any fun j => decide (j = k)
theorem inB_iff {K : Type} [DecidableEq K] {us : List K} {k : K} : inB us k = true ↔ k ∈ us := by
  unfold inB
  rw [List.any_eq_true]
  exact ⟨fun ⟨j, h, e⟩ => of_decide_eq_true e ▸ h, fun h => ⟨k, h, decide_eq_true rfl⟩⟩
theorem inB_f {K : Type} [DecidableEq K] {us : List K} {k : K} (h : k ∉ us) : inB us k = false := by
  rw [← Bool.not_eq_true, inB_iff]
  exact h
theorem so_congr {P : Program} {w : World} {K : Type} [DecidableEq K] {knd : KeyKind P w K} {h : Heap} {a : Addr} {S S' : K → Bool} {n n' : Nat} (x : h.SetOf knd a S n) (e : ∀ k, S k = S' k) (en : n = n') : h.SetOf knd a S' n' := by
  have e' : S = S' := funext e
  subst e' en
  exact x
/-- the loop by a kind of keys -/
theorem sloop_kind {K : Type} [DecidableEq K] {knd : KeyKind P w K} {vs : Array Value} (ks : List K) (hz : vs.size = ks.length) (hk : ∀ (i : Nat) (v : Value), vs[i]? = some v → ∃ k, ks[i]? = some k ∧ knd.is k v = true ∧ v.scannable = true) (hb : ks.length + 1 < scanBound) :
    SLoop P w E vs fun h a => ∃ us : List K, us.Nodup ∧ (∀ k, k ∈ us ↔ k ∈ ks) ∧ h.SetOf knd a (inB us) us.length := by
  intro A I S fp wr St s1 G hh W hS st ho hG
  have sw : S ∉ wr := fun h => hS (W.sub _ h)
  have sub : ∀ b ∈ wr, b ∈ S :: wr := fun b hb => List.mem_cons_of_mem _ hb
  have main : ∀ (m i : Nat) (s : Shared), vs.size - i = m → i ≤ vs.size → St i s → (∃ us : List K, us.Nodup ∧ (∀ k, k ∈ us ↔ k ∈ ks.take i) ∧ s.heap.SetOf knd S (inB us) us.length) →
      (∀ s2, Moved (S :: wr) (fun g g' => g' = g) s s2 → (∃ us : List K, us.Nodup ∧ (∀ k, k ∈ us ↔ k ∈ ks) ∧ s2.heap.SetOf knd S (inB us) us.length) → G (.ok (.ret .none)) s2) →
      codeAny (model P w) A (.builtin "set.update.loop" ⟨[.ref S, .ref I], []⟩) G s := by
    intro m
    induction m with
    | zero =>
      intro i s hm hi st ⟨us, u1, u2, so⟩ hG
      have e : i = vs.size := by omega
      refine codeAny_builtin F.entry_set_update_loop ?_
      rw [Around.under_plainId F.plain_set_update_loop _]
      show wpAny _ A.in1 (pyNext (.ref I) >>= _) _ _ s
      refine wpAny_bind (W.done s _ _ (e ▸ st) fun s2 mv => ?_)
      show wpAny _ A.in1 (ret Value.none) _ _ s2
      refine wpAny_pure (hG s2 (mv.mono sub) ⟨us, u1, fun k => ?_, ?_⟩)
      · rw [u2, List.take_of_length_le (by omega)]
      · obtain ⟨o, es, ep, t, ho, r⟩ := so
        exact ⟨o, es, ep, t, mv.heap S _ sw ho, r⟩
    | succ m ih =>
      intro i s hm hi st ⟨us, u1, u2, so⟩ hG
      have lt : i < vs.size := by omega
      refine codeAny_builtin F.entry_set_update_loop ?_
      rw [Around.under_plainId F.plain_set_update_loop _]
      show wpAny _ A.in1 (pyNext (.ref I) >>= _) _ _ s
      refine wpAny_bind (W.item i s _ _ lt st fun v s2 hv st2 mv => ?_)
      obtain ⟨k, k1, k2, k3⟩ := hk i v hv
      have so2 : s2.heap.SetOf knd S (inB us) us.length := by
        obtain ⟨o, es, ep, t, ho, r⟩ := so
        exact ⟨o, es, ep, t, mv.heap S _ sw ho, r⟩
      have few : us.length ≤ i := by
        have z := nd_len u1 (ys := ks.take i) fun k hk => (u2 k).mp hk
        rw [List.length_take] at z
        omega
      show wpAny _ A.in1 (holding [v] (setAdd S v) >>= _) _ _ s2
      refine wpAny_bind (wpAny_holding ?_)
      unfold setAdd
      refine wpAny_holding (wpAny_bind (knd.pyHash k2 ?_))
      refine wpAny_setAddHashed_of (knd := knd) (s := { s2 with toks := s2.toks + 1 }) k2 k3 so2 (by omega) fun h' sb so3 => ?_
      have tk : ks.take (i + 1) = ks.take i ++ [k] := by
        rw [List.take_succ, k1]
        rfl
      refine wpAny_pure ⟨plainId_quiet F.plain_set_update_loop _, ih (i + 1) _ (by omega) lt (W.frame _ s2 _ _ st2 (Nat.le_succ _) fun b hb o e => ?_) ?_ fun s3 mv3 r3 => ?_⟩
      · rw [sb.2 b fun h => hS (h ▸ hb)]
        exact e
      · by_cases g : k ∈ us
        · refine ⟨us, u1, fun x => ?_, so_congr so3 (fun x => ?_) (by rw [inB_iff.mpr g]; rfl)⟩
          · rw [tk, List.mem_append, List.mem_singleton, u2]
            refine ⟨.inl, fun h => h.elim id fun e => ?_⟩
            subst e
            exact (u2 _).mp g
          · by_cases e : x = k
            · subst e; rw [inB_iff.mpr g]; rfl
            · rw [decide_eq_false e, Bool.or_false]
        · refine ⟨k :: us, List.nodup_cons.mpr ⟨g, u1⟩, fun x => ?_, so_congr so3 (fun x => ?_) (by rw [inB_f g]; rfl)⟩
          · rw [tk, List.mem_append, List.mem_singleton, List.mem_cons, u2]
            exact Or.comm
          · show (inB us x || decide (x = k)) = (decide (k = x) || inB us x)
            rw [Bool.or_comm]
            congr 1
            exact decide_eq_decide.mpr eq_comm
      · refine hG s3 (Moved.trans W.gtrans ((mv.mono sub).then_heap (Nat.le_succ _) fun b o hb e => ?_) mv3) r3
        rw [sb.2 b fun h => hb (by rw [h]; exact List.mem_cons_self)]
        exact e
  exact main _ 0 s1 rfl (Nat.zero_le _) st ⟨[], List.nodup_nil, fun k => by simp, so_congr ((setObjOf_fresh (knd := knd) _).setOf ho (by unfold scanBound; omega)) (fun _ => rfl) rfl⟩ hG
end

section
variable {P : Program} {w : World} {A : Around} {E : Value → Shared → Prop} {s : Shared} {a : Addr}
theorem each_ints : ∀ {vs : List Value} {ns : List Int}, PySem.W.EachIs (fun v n => ∃ t, v = Value.int n t) vs ns → IntsAre vs ns
  | _, _, .nil => .nil
  | _, _, .cons ⟨t, e⟩ h => by subst e; exact .cons _ t (each_ints h)
theorem ints_each : ∀ {vs : List Value} {ns : List Int}, IntsAre vs ns → PySem.W.EachIs (fun v n => ∃ t, v = Value.int n t) vs ns
  | _, _, .nil => .nil
  | _, _, .cons _ t h => .cons ⟨t, rfl⟩ (ints_each h)
theorem le_ints (ns : List Int) : (ns.mergeSort (PySem.W.dataLe false PyData.int)).Pairwise (· ≤ ·) := by
  have e : (PySem.W.dataLe false PyData.int : Int → Int → Bool) = fun a b => decide (a ≤ b) := by
    funext a b
    show (!PySem.W.dataLt (PyData.int b) (PyData.int a)) = _
    rw [PySem.W.dataLt_int]
    by_cases h : b < a
    · rw [decide_eq_true h, decide_eq_false (by omega)]; rfl
    · rw [decide_eq_false h, decide_eq_true (by omega)]; rfl
  rw [e]
  exact (List.pairwise_mergeSort (le := fun a b : Int => decide (a ≤ b)) (fun a b c h1 h2 => by simp at h1 h2 ⊢; omega) (fun a b => by simp; omega) ns).imp fun {a b} h => by simpa using h
/-- sorted(s) of a set of ints, however many -/
theorem sorted_setN {S : Int → Bool} {n : Nat} {Q : Value → Shared → Prop} (R : SetR w s.heap a S n) (hh : A.handled = none) (hn4 : n < 4000) (hu : A.units + 64 < cLine)
    (hQ : ∀ s' p (out : Array Value) (c : Nat) (ns : List Int), (∀ b o, s.heap.get? b = some o → s'.heap.get? b = some o) → s'.gens = s.gens → s'.os = s.os → s.heap.objs.size ≤ p →
      s'.heap.get? p = some (seqObj "list" out c) → IntsAre out.toList ns → ns.Pairwise (· < ·) → (∀ k, k ∈ ns ↔ S k = true) → ns.length = n → Q (.ref p) s') :
    wpAny (model P w) A (call (.builtin "sorted") [.ref a]) Q E s := by
  obtain ⟨o, es, ep, t, ho, hex, hd, g, nd, hm, hb, hf, hn, hr, hl⟩ := R
  refine Calls.call_function_entry kind_sorted plain_sorted entry_sorted (args_sorted1 _) ?_
  unfold Builtin.«sorted»
  refine wpAny_bind (m := checkCount "sorted" 1 1 _) (wpAny_pure ?_)
  refine wpAny_bind (collect_set (A := A.in1) hh ⟨o, ho, hex.1, hd⟩ hf hb hr hl fun s1 vs k1 hz g1 o1 pm => ?_)
  have hvl : vs.length = n := by rw [pm.length_eq, List.length_map, Array.length_toList]; exact hn
  have hI : IntsAre vs (vs.map Builtin.Re.reRawOf) := ints_of vs fun v hv => by
    obtain ⟨e, he, q⟩ := List.mem_map.mp (pm.mem_iff.mp hv)
    obtain ⟨k, tk, h1, _⟩ := g e he
    exact ⟨k, tk, by rw [← q]; exact h1⟩
  have pk : (vs.map Builtin.Re.reRawOf).Perm (es.toList.map keyOf) := by
    have q := pm.map Builtin.Re.reRawOf
    rw [List.map_map] at q
    exact q
  refine wpAny_bind (wpAny_newList ?_ (by rw [hvl, sizeLine_eq]; omega))
  have hoL : (s1.heap.push (seqObj "list" vs.toArray 0)).get? s1.heap.objs.size = some (seqObj "list" vs.toArray 0) := Heap.get?_push_size _ rfl
  generalize hK : vs.map Builtin.Re.reRawOf = K0 at hI pk
  have el := ints_each hI
  have hlen : K0.length = n := by rw [← hK, List.length_map]; exact hvl
  refine wpAny_bind (wpAny_holding (PySem.W.list_sort_data (enc := PyData.int) hoL el (el.mono fun v k h => ?_) (fun d hd d' hd' => ?_) (.inr fun d hd => ?_) (by rw [hlen, sizeLine_eq]; omega) (fun b _ => ?_) fun out hz2 eo => ?_))
  · obtain ⟨t, e⟩ := h
    subst e
    exact ⟨[], .int _ _, by simp⟩
  · obtain ⟨x, _, rfl⟩ := List.mem_map.mp hd
    obtain ⟨y, _, rfl⟩ := List.mem_map.mp hd'
    simp [PySem.W.alike]
  · obtain ⟨x, _, rfl⟩ := List.mem_map.mp hd
    exact ⟨(fun z => nomatch z), (fun _ z => nomatch z)⟩
  · have e1 : (PyData.int b).depth = 0 := by simp [PyData.depth]
    rw [e1]
    show A.units + 1 + 1 + 0 < cLine
    omega
  have hI2 := each_ints eo
  have a3 := le_ints K0
  have a2 : (K0.mergeSort (PySem.W.dataLe false PyData.int)).Perm K0 := List.mergeSort_perm _ _
  generalize K0.mergeSort (PySem.W.dataLe false PyData.int) = ns' at hI2 a3 a2
  obtain ⟨c, hc⟩ := PyProof.Rows.sortedHeap_at (vs := vs) (out := out.toArray) hoL
  have pn : ns'.Perm (es.toList.map keyOf) := a2.trans pk
  refine wpAny_pure ⟨_, rfl, hQ _ s1.heap.objs.size out.toArray c ns' (fun b u e => ?_) g1 o1 hz hc (by simpa using hI2) (lt_of_le_nodup ns' a3 (pn.nodup_iff.mpr nd)) (fun k => by rw [pn.mem_iff, ← hm k]) ?_⟩
  · have q := k1 b u e
    have hlt := Heap.lt_size q
    show (sortedHeap (s1.heap.push (seqObj "list" vs.toArray 0)) s1.heap.objs.size vs out.toArray).get? b = some u
    rw [sortedHeap_old (Nat.ne_of_lt hlt) (by rw [size_push']; exact Nat.lt_succ_of_lt hlt)]
    exact Heap.get?_push_of_some _ q
  · rw [pn.length_eq, List.length_map, Array.length_toList]; exact hn
end
section
variable {X : Cx}
/-- sorted(found), fewer than 4000 members -/
def rSortedN (w : World) : List V → Hp → VK → Prop := fun vs H Q => ∃ (a : Addr) (S : Int → Bool) (n : Nat), vs = [V.ref a] ∧ H a = some (SetO w a S n) ∧ n < 4000 ∧
  ∀ (ns : List Int) (p : Addr), ns.Pairwise (· < ·) → (∀ k : Int, k ∈ ns ↔ S k = true) → ns.length = n → H p = none → Q (.ref p) (upd H p (.lst (ns.map V.int)))
theorem cr_sortedN (hc : X.calm = true) (hu : X.A.units + 64 < cLine) : CallR X (.builtin "sorted") (rSortedN X.w) := by
  intro pins s σ H vs us Q I r h
  obtain ⟨a, S, n, rfl, ha, h64, q⟩ := h
  have R := setO_get I ha
  rw [Vals.ref1 r]
  refine sorted_setN R (I.ok.hd hc) h64 hu fun s' p out c ns k g o hp hg hi hs hm hl => ?_
  have hlen : (ns.map V.int).length ≤ sizeLine := by rw [List.length_map, hl, sizeLine_eq]; omega
  have hn : H p = none := I.hok.fresh hp
  have J : Inv X pins σ (upd H p (.lst (ns.map V.int))) { s with heap := s'.heap, gens := s'.gens, drawn := s'.drawn, toks := s'.toks } :=
    I.call (ch := []) (Un.laid k hp hn) (I.hok.laid k hp ⟨hlen, out.toList, c, vals_of_ints hi, hg⟩) (by rw [g]; exact I.bare) (fun _ z => nomatch z)
  have e : s' = { s with heap := s'.heap, gens := s'.gens, drawn := s'.drawn, toks := s'.toks } := by
    cases s'
    cases s
    cases o
    rfl
  rw [e]
  exact ⟨.ref p, _, J, rfl, q ns p hs hm hl hn⟩
end
section
variable {X : Cx} {C : CA}
def rSet1 (K : PySem.W.Frag) (P : Program) (w : World) : List V → Hp → VK → Prop := fun vs H Q =>
  (∃ (l : Addr) (ns : List Int), vs = [V.ref l] ∧ SqL K H l (ns.map V.int) ∧ ns.length < 4000 ∧ ∀ a c, H a = none → (∀ us : List Int, (∀ n ∈ ns, n ∈ us) → c ≤ us.length) → Q (.ref a) (upd H a (SetO w a (fun j => decide (j ∈ ns)) c))) ∨ rSetOfT K P w vs H Q
def rSet2 (K : PySem.W.Frag) (P : Program) (w : World) : List V → Hp → VK → Prop := fun vs H Q => rSortedN w vs H Q ∨ rSortedT K P w vs H Q
theorem cr_set1 (hc : X.calm = true) (hu : X.A.units + 64 < cLine) : CallR X (.type "set") (rSet1 X.K X.prog X.w) := by
  intro pins s σ H vs us Q I r h
  rcases h with ⟨l, ns, rfl, hl, hn, q⟩ | h
  · rw [Vals.ref1 r]
    obtain ⟨its, rv, pl, hz⟩ := I.list hl
    have n0 : H s.heap.objs.size = none := I.hok.fresh (Nat.le_refl _)
    refine set_lst (I.ok.hd hc) pl.isList (sloop_int ns (ints_of_vals rv) (by unfold scanBound; omega)) fun h' tk ⟨c, R⟩ k => ⟨.ref _, upd H s.heap.objs.size (SetO X.w s.heap.objs.size _ c), I.laid (t' := tk) k (Nat.le_refl _) (setO_new R), rfl, q _ c n0 fun ws hw => ?_⟩
    obtain ⟨o, es, ep, t, ho, hx, hd, g, nd, hm, hb, hf, hn, _⟩ := R
    rw [← hn, ← Array.length_toList, ← List.length_map (f := keyOf)]
    exact nd_len nd fun x hx => hw x (by simpa using (hm x).mpr hx)
  · exact cr_setOfT hc hu pins s σ H vs us Q I r h
theorem cr_set2 (hc : X.calm = true) (hu : X.A.units + 64 < cLine) : CallR X (.builtin "sorted") (rSet2 X.K X.prog X.w) := by
  intro pins s σ H vs us Q I r h
  rcases h with h | h
  · exact cr_sortedN hc hu pins s σ H vs us Q I r h
  · exact cr_sortedT hc pins s σ H vs us Q I r h
end
/-- the order of tuples of ints -/
def lxle : List Int → List Int → Prop
  | [], _ => True
  | _ :: _, [] => False
  | a :: r, b :: q => a < b ∨ a = b ∧ lxle r q
theorem lx_of_code {B : Int} : ∀ {a b : List Int}, TS.Bd B a → TS.Bd B b → a.length = b.length → TS.code B a ≤ TS.code B b → lxle a b
  | [], _, _, _, _, _ => trivial
  | _ :: _, [], _, _, e, _ => nomatch e
  | x :: r, y :: q, h1, h2, e, h => by
    have el : r.length = q.length := Nat.succ.inj e
    rcases Int.lt_trichotomy x y with c | c | c
    · exact .inl c
    · subst c
      refine .inr ⟨rfl, lx_of_code h1.tail h2.tail el ?_⟩
      have h' : x * B ^ r.length + TS.code B r ≤ x * B ^ q.length + TS.code B q := h
      rw [el] at h'
      omega
    · have := TS.code_lt (d := y) (e := x) el.symm h2.tail h1.tail c
      omega
theorem bd_all : ∀ ks : List (List Int), ∃ B : Int, ∀ k ∈ ks, ∀ n ∈ k, n < B
  | [] => ⟨0, fun k hk => (by cases hk)⟩
  | k :: ks => by
    obtain ⟨B, hB⟩ := bd_all ks
    have one : ∀ k : List Int, ∃ C : Int, ∀ n ∈ k, n < C := fun k => by
      induction k with
      | nil => exact ⟨0, fun n hn => (by cases hn)⟩
      | cons x k ih =>
        obtain ⟨C, hC⟩ := ih
        refine ⟨if x < C then C else x + 1, fun n hn => ?_⟩
        rcases List.mem_cons.mp hn with rfl | hn
        · split <;> omega
        · have := hC n hn
          split <;> omega
    obtain ⟨C, hC⟩ := one k
    refine ⟨if B < C then C else B, fun q hq n hn => ?_⟩
    rcases List.mem_cons.mp hq with rfl | hq
    · have := hC n hn
      split <;> omega
    · have := hB q hq n hn
      split <;> omega
abbrev tL (k : List Int) : D := .tup (iL k)
/-- sorted(set(xs)): ints, or tuples of ints -/
def wSset (z : Bool) (x : D) (h : DH) (Q : QD) : Prop := match lstOf x h with
  | some xs => (∃ ns : List Int, xs = iL ns ∧ ns.length < 4000 ∧ ∀ ys : List Int, ys.Pairwise (· < ·) → (∀ y, y ∈ ys ↔ y ∈ ns) → al z (.lst (iL ys)) h Q) ∨
    ∃ (ks : List (List Int)) (d : Nat), xs = ks.map tL ∧ ks.length < 64 ∧ 1 ≤ d ∧ (∀ k ∈ ks, k.length = d ∧ ∀ n ∈ k, 0 ≤ n) ∧ ∀ ys : List (List Int), ys.Nodup → ys.Pairwise lxle → (∀ y, y ∈ ys ↔ y ∈ ks) → al z (.lst (ys.map tL)) h Q
  | none => False
/-- len(set(xs)): ints or texts -/
def wLset (x : D) (h : DH) (Q : QD) : Prop := match lstOf x h with
  | some xs => ∃ ks : List Key, xs = ks.map keyD ∧ ks.length < 4000 ∧ ∀ us : List Key, us.Nodup → (∀ k, k ∈ us ↔ k ∈ ks) → Q (.int us.length) h
  | none => False
theorem keysM_rd {K : PySem.W.Frag} {H : Hp} : ∀ {ks : List Key} {vs : List V}, RDs K H vs (ks.map keyD) → vs = ks.map kV
  | [], _, r => by cases r; rfl
  | .inl i :: ks, _, r => by
    cases r with
    | cons a b => cases a; rw [keysM_rd b]; rfl
  | .inr x :: ks, _, r => by
    cases r with
    | cons a b => cases a; rw [keysM_rd b]; rfl
section
variable {X : Cx}
def rSetK (K : PySem.W.Frag) (P : Program) (w : World) : List V → Hp → VK → Prop := fun vs H Q =>
  ∃ (l : Addr) (ks : List Key), vs = [V.ref l] ∧ SqL K H l (ks.map kV) ∧ ks.length < 4000 ∧ ∀ (a : Addr) (us : List Key), H a = none → us.Nodup → (∀ k, k ∈ us ↔ k ∈ ks) → Q (.ref a) (upd H a (SetK P w a (inB us) us.length))
def rLenK (P : Program) (w : World) : List V → Hp → VK → Prop := fun vs H Q => ∃ (a : Addr) (S : Key → Bool) (n : Nat), vs = [V.ref a] ∧ H a = some (SetK P w a S n) ∧ Q (.int n) H
theorem kvs_is {P : Program} {w : World} : ∀ {ks : List Key} {us : List Value}, Vals (ks.map kV) us → ∀ (i : Nat) (v : Value), us[i]? = some v → ∃ k, ks[i]? = some k ∧ (mixKind P w).is k v = true ∧ v.scannable = true
  | [], _, .nil, i, v, e => by simp at e
  | k :: ks, _, .cons r t, 0, v, e => by
    simp at e
    subst e
    exact ⟨k, rfl, kV_is r, key_scan r⟩
  | k :: ks, _, .cons r t, i + 1, v, e => by
    simp only [List.getElem?_cons_succ] at e
    exact kvs_is t i v e
theorem cr_setK (hc : X.calm = true) : CallR X (.type "set") (rSetK X.K X.prog X.w) := by
  intro pins s σ H vs us Q I r ⟨l, ks, e, hl, hn, q⟩
  subst e
  rw [Vals.ref1 r]
  obtain ⟨its, rv, pl, hz⟩ := I.list hl
  have n0 : H s.heap.objs.size = none := I.hok.fresh (Nat.le_refl _)
  refine set_lst (I.ok.hd hc) pl.isList (sloop_kind (knd := mixKind X.prog X.w) ks (by rw [List.size_toArray, ← rv.length, List.length_map]) (fun i v hv => kvs_is rv i v (by rw [← Array.getElem?_toList] at hv; exact hv)) (by unfold scanBound; omega)) fun h' tk ⟨us, u1, u2, R⟩ k => ⟨.ref _, upd H s.heap.objs.size (SetK X.prog X.w s.heap.objs.size _ us.length), I.laid (t' := tk) k (Nat.le_refl _) (setK_new R), rfl, q _ us n0 u1 u2⟩
theorem cr_lenK : CallR X (.builtin "len") (rLenK X.prog X.w) := by
  intro pins s σ H vs us Q I r ⟨a, S, n, e, ha, q⟩
  subst e
  rw [Vals.ref1 r]
  obtain ⟨o, es, ep, t, ho, hex, hd, _, _, hb, hf, hn⟩ := setK_get I ha
  unfold scanBound at hb
  exact call_len_set ho hex hd hf (by omega) ⟨.int n, H, I.tok _, ⟨_, by rw [hn]⟩, q⟩
end
theorem lset_conv {K : PySem.W.Frag} {P : Program} {w : World} {C : CA} {H : Hp} {h : DH} {d : D} {v : V} {Q : VK} {Q0 : QD} (rd : RD K H v d) (rh : RH K C H h) (hw : wLset d h Q0) (hq : ∀ r h', Q0 r h' → LQ K C H h Q r h') :
    rSetK K P w [v] H fun x H1 => rLenK P w [x] H1 Q := by
  unfold wLset at hw
  split at hw
  · rename_i xs hx
    obtain ⟨p, vs, rfl, sq, r1⟩ := lstOf_rd rh rd hx
    obtain ⟨ks, rfl, hn, hw⟩ := hw
    rw [keysM_rd r1] at sq
    exact ⟨p, ks, rfl, sq, hn, fun a us ha u1 u2 => ⟨a, _, _, rfl, upd_same, hq _ _ (hw us u1 u2) _ _ (Ste.side ha) (.int _) (rh.side ha)⟩⟩
  · exact hw.elim
theorem tL_rd {K : PySem.W.Frag} {H : Hp} : ∀ {ks : List (List Int)} {vs : List V}, RDs K H vs (ks.map tL) → ∃ ps : List (Addr × List Int), vs = ps.map (fun p => V.ref p.1) ∧ ps.map (·.2) = ks ∧ ∀ p ∈ ps, SqT K H p.1 (p.2.map V.int) ∧ RD K H (.ref p.1) (tL p.2)
  | [], _, r => by cases r; exact ⟨[], rfl, rfl, fun p hp => (by cases hp)⟩
  | k :: ks, _, r => by
    cases r with
    | cons a b =>
      obtain ⟨ps, rfl, e, q⟩ := tL_rd b
      cases a with
      | @tup a vs _ h1 r1 =>
        refine ⟨(a, k) :: ps, rfl, by simp [e], fun p hp => ?_⟩
        rcases List.mem_cons.mp hp with rfl | hp
        · exact ⟨.inl (by rw [← iL_rd r1]; exact .inl h1), .tup h1 r1⟩
        · exact q p hp
theorem tL_rds {K : PySem.W.Frag} {H : Hp} : ∀ {ps : List (Addr × List Int)}, (∀ p ∈ ps, RD K H (.ref p.1) (tL p.2)) → RDs K H (ps.map fun p => V.ref p.1) ((ps.map (·.2)).map tL)
  | [], _ => .nil
  | p :: ps, h => .cons (h p List.mem_cons_self) (tL_rds fun q hq => h q (List.mem_cons_of_mem _ hq))
theorem sset_conv {K : PySem.W.Frag} {P : Program} {w : World} {C : CA} {H : Hp} {h : DH} {d : D} {v : V} {Q : VK} {Q0 : QD} (rd : RD K H v d) (rh : RH K C H h) (hw : wSset false d h Q0) (hq : ∀ r h', Q0 r h' → LQ K C H h Q r h') :
    rSet1 K P w [v] H fun x H1 => rSet2 K P w [x] H1 Q := by
  unfold wSset at hw
  split at hw
  · rename_i xs hx
    obtain ⟨p, vs, rfl, sq, r1⟩ := lstOf_rd rh rd hx
    rcases hw with ⟨ns, rfl, hn, hw⟩ | ⟨ks, dd, rfl, hn, d1, hk, hw⟩
    · rw [iL_rd r1] at sq
      refine .inl ⟨p, ns, rfl, sq, hn, fun a c ha hc => .inl ⟨a, _, c, rfl, upd_same, Nat.lt_of_le_of_lt (hc ns fun _ h => h) hn, fun ys p2 y1 y2 y3 hp => ?_⟩⟩
      exact hq _ _ (hw ys y1 (fun y => by rw [y2]; exact decide_eq_true_iff) p2 ((rh.side ha).free hp)) _ _ ((Ste.side ha).trans (Ste.new hp)) (.ref _) ((rh.side ha).new hp ⟨_, upd_same, rds_iL ys⟩)
    · obtain ⟨ps, rfl, rfl, hp⟩ := tL_rd r1
      obtain ⟨B, hB⟩ := bd_all (ps.map (·.2))
      have bd : ∀ p ∈ ps, TS.Bd B p.2 := fun p hp2 n hn => ⟨(hk _ (List.mem_map_of_mem hp2)).2 n hn, hB _ (List.mem_map_of_mem hp2) n hn⟩
      refine .inr ⟨p, ps, rfl, sq, fun q hq => (hp q hq).1, by simpa using hn, fun a L ha l1 l2 => .inr ⟨a, L, dd, B, rfl, upd_same, fun q hq => (Le.new ha).sqT (hp q (l1 q hq)).1, d1, fun q hq => ⟨(hk _ (List.mem_map_of_mem (l1 q hq))).1, bd q (l1 q hq)⟩, fun L' p2 pm nd h64 pw hp2 => ?_⟩⟩
      have sub : ∀ q ∈ L', q ∈ ps := fun q hq => l1 q (pm.mem_iff.mp hq)
      refine hq _ _ (hw (L'.map (·.2)) nd ?_ (fun y => ⟨fun hy => ?_, fun hy => ?_⟩) p2 ((rh.side ha).free hp2)) _ _ ((Ste.side ha).trans (Ste.new hp2)) (.ref _) ((rh.side ha).new hp2 ⟨_, upd_same, tL_rds fun q hq => RD.le ((Le.new ha).trans (Le.new hp2)) (hp q (sub q hq)).2⟩)
      · rw [List.pairwise_map]
        refine List.Pairwise.imp_of_mem (fun {x y} hx hy h => lx_of_code (bd x (sub x hx)) (bd y (sub y hy)) ?_ h) pw
        rw [(hk _ (List.mem_map_of_mem (sub x hx))).1, (hk _ (List.mem_map_of_mem (sub y hy))).1]
      · obtain ⟨q, hq, rfl⟩ := List.mem_map.mp hy
        exact List.mem_map_of_mem (sub q hq)
      · obtain ⟨q, hq, rfl⟩ := List.mem_map.mp hy
        obtain ⟨q2, hq2, e⟩ := List.mem_map.mp (l2 q hq)
        rw [← e]
        exact List.mem_map_of_mem (pm.mem_iff.mpr hq2)
  · exact hw.elim
theorem wSset_frz {x : D} {h : DH} {Q : QD} (q : wSset true x h Q) : wSset false x h fun d h' => wFrz d h' Q := by
  unfold wSset at q ⊢
  split at q
  · rcases q with ⟨ns, e, a, q⟩ | ⟨ks, d, e, a, b, c, q⟩
    · exact .inl ⟨ns, e, a, fun ys y1 y2 => al_frz (q ys y1 y2)⟩
    · exact .inr ⟨ks, d, e, a, b, c, fun ys y1 y2 y3 => al_frz (q ys y1 y2 y3)⟩
  · exact q.elim
end DL

/-! DL, part F: the core syntax and its meaning -/
namespace DL
open PySem PySem.Spec PyProof.Rows L2

mutual
inductive CT where
  | nam (i : Nat)
  | tup (ts : CTs)
inductive CTs where
  | nil
  | cons (t : CT) (ts : CTs)
end
mutual
inductive CE where
  | non | bl (b : Bool) | int (i : Int) | str (x : Str) | var (i : Nat) | glb (i : Nat)
  | bin (z : Bool) (op : Operator) (a b : CE) | neg (a : CE) | no (a : CE) | and (a b : CE) | or (a b : CE)
  | cmp (op : CmpOp) (a b : CE) | chn (op op' : CmpOp) (a b c : CE) | ife (t a b : CE)
  /-- z: what is made is no more written -/
  | tup (es : CEs) | lst (z : Bool) (es : CEs) | dnew
  | idx (a i : CE) | slc (z : Bool) (a : CE) (lo hi : CO)
  | call (f : Nat) (es : CEs) | blt (z : Bool) (f : Blt) (es : CEs) | mtd (z : Bool) (m : Mtd) (o : CE) (es : CEs)
  | isi (a : CE) (T : String)
  | comp (z : Bool) (own : List (Str × Nat)) (t : CT) (it : CI) (test : CO) (e : CE)
  | dis (z : Bool) (ks : List Key) (es : CEs) | rev (z : Bool) (a : CE)
  /-- min(a, default=d); list(range(a, b)) -/
  | stp (z : Bool) (a : CE) (k : CO)
  | mnd (a d : CE) | lrg (z : Bool) (a b : CE)
  /-- sorted(set(a)); len(set(a)) -/
  | sset (z : Bool) (a : CE) | lset (a : CE)
  /-- isinstance(a, T), of exceptions of the classes cs; a.f; C(..), by its __init__'s number; o.m(..), by the class's method's number -/
  | ktup (es : CEs) | ist (a : CE) (ts : List Str) (tb : List (Str × Bool)) | isc (a : CE) (t : Str) (tb : List (Str × Bool)) | isx (a : CE) (ts cs : List Str) | fld (a : CE) (f : Str) (cs xs : List Str) | new (c : Str) (i : Nat) (es : CEs) | imt (m : Str) (tb : List (Str × Nat)) (o : CE) (es : CEs)
  /-- no row of the text: the value is no more written; what else was made is forgotten -/
  | frz (e : CE) | gc (e : CE)
  /-- list(zip(a, b)); tuple(zip(a, b)); a def as a value; a call of a def that a slot holds -/
  | lzp (z : Bool) (a b : CE) | tzp (a b : CE) | fnv (x : Str) | cal (i : Nat) (tb : List (Str × Nat)) (es : CEs)
inductive CEs where
  | nil
  | cons (e : CE) (es : CEs)
inductive CO where
  | none
  | some (e : CE)
inductive CI where
  | any (e : CE) | rng1 (e : CE) | rng2 (a b : CE) | rng3 (a b c : CE) | zip (a b : CE) | enm (a : CE)
end
mutual
inductive CS where
  | set (i : Nat) (e : CE) | unp (ts : CTs) (e : CE) | par2 (i j : Nat) (a b : CE) | par3 (i j k : Nat) (a b c : CE)
  | put (o k e : CE) | aug (i : Nat) (op : Operator) (e : CE)
  | exp (e : CE) | ret (e : CE) | retN | ife (c : CE) (a b : CSs) | for (t : CT) (it : CI) (b : CSs) | whl (c : CE) (b : CSs) | pas
  /-- what is never reached -/
  | nev
  /-- o.f = e; raise C(..), its fields; try: b, except C as slot i: su -/
  | fst (o : CE) (f : Str) (cs : List Str) (e : CE) | rai (c : Str) (fs : List Str) (es : CEs) | try (b : CSs) (c : Str) (cs : List Str) (i : Option Nat) (su : CSs)
  /-- no rows of the text: what a slot holds is no more written; slots are forgotten -/
  | fz (i : Nat) | del (is : List Nat)
inductive CSs where
  | nil
  | cons (c : CS) (cs : CSs)
end

/-- what is walked -/
inductive DIt where
  | lst (a : Addr) | fix (xs : List D) | rng (lo : Int) (n : Nat) | rgc (lo c : Int) (n : Nat) | str (x : Str) | zip (p q : DIt) | enm (p : DIt)
/-- none: not known; some none: it stops -/
def nextD : DIt → Nat → DH → Option (Option D)
  | .lst a, i, h => match h a with
    | some (.lst xs) => some xs[i]?
    | _ => none
  | .fix xs, i, _ => some xs[i]?
  | .rng lo n, i, _ => some (if i < n then some (.int (lo + i)) else none)
  | .rgc lo c n, i, _ => some (if i < n then some (.int (lo + (i : Nat) * c)) else none)
  | .str x, i, _ => some (x.cps[i]?.map fun c => .str ⟨#[c]⟩)
  | .zip p q, i, h => match nextD p i h, nextD q i h with
    | some (some x), some (some y) => some (some (.tup [x, y]))
    | some none, some _ => some none
    | some _, some none => some none
    | _, _ => none
  | .enm p, i, h => match nextD p i h with
    | some (some x) => some (some (.tup [.int i, x]))
    | r => r

/-- the meaning of a call of a def -/
abbrev Fns := Nat → List D → DH → QD → XD → Prop

def CTs.len : CTs → Nat
  | .nil => 0
  | .cons _ ts => ts.len + 1

mutual
/-- a store to a target -/
def wTg : CT → D → DSt → DH → (DSt → DH → Prop) → Prop
  | .nam i => fun d s h Q => Q (s.set i (some d)) h
  | .tup ts => fun d s h Q => match seqOf d h with
    | some ds => ds.length = ts.len ∧ wTgs ts ds s h Q
    | none => False
def wTgs : CTs → List D → DSt → DH → (DSt → DH → Prop) → Prop
  | .nil => fun ds s h Q => ds = [] ∧ Q s h
  | .cons t ts => fun ds s h Q => match ds with
    | d :: r => wTg t d s h fun s' h' => wTgs ts r s' h' Q
    | [] => False
end
mutual
/-- the slots of a target -/
def CT.slots : CT → List Nat
  | .nam i => [i]
  | .tup ts => ts.slots
def CTs.slots : CTs → List Nat
  | .nil => []
  | .cons t ts => t.slots ++ ts.slots
end
/-- the type of a value, as isinstance asks -/
def tyOf (d : D) (h : DH) : Option String := match d with
  | .non => some "NoneType"
  | .bl _ => some "bool"
  | .int _ => some "int"
  | .str _ => some "str"
  | .tup _ => some "tuple"
  | .kt _ _ => some "tuple"
  | .fl _ => some "list"
  | .dk _ => some "dict"
  | .dt _ => none
  | .ob _ _ => none
  | .ex _ _ => none
  | .fn _ => none
  | .ref a => match h a with
    | some (.lst _) => some "list"
    | some (.dK _) => some "dict"
    | some (.dT _) => some "dict"
    | _ => none
def isTy (a b : String) : Bool := a == b || (a == "bool" && b == "int")
def wIsi (T : String) (d : D) (h : DH) (Q : QD) : Prop := match tyOf d h with
  | some t => Q (.bl (isTy t T)) h
  | none => False

def isSeqL (d : D) (h : DH) : Option DIt := match d with
  | .fl xs => some (.fix xs)
  | .ref a => match h a with
    | some (.lst _) => some (.lst a)
    | _ => none
  | _ => none
def isSeqT (d : D) : Option DIt := match d with
  | .tup xs => some (.fix xs)
  | .kt _ xs => some (.fix xs)
  | _ => none
def iAny (d : D) (h : DH) (R : DIt → DH → Prop) : Prop := match d with
  | .str x => R (.str x) h
  | .dk kvs => R (.fix (kvs.map fun kv => keyD kv.1)) h
  | .dt kvs => R (.fix (kvs.map fun kv => .tup (kv.1.map keyD))) h
  | d => match isSeqL d h with
    | some J => R J h
    | none => match isSeqT d with
      | some J => R J h
      | none => False
/-- how many there are -/
def rgN (i j c : Int) : Nat := if i < j then ((j - i - 1) / c + 1).toNat else 0
def iRg3 (i j c : Int) (h : DH) (R : DIt → DH → Prop) : Prop := (-(2 ^ 40) ≤ i ∧ i < 2 ^ 40 ∧ -(2 ^ 40) ≤ j ∧ j < 2 ^ 40 ∧ 1 ≤ c ∧ c ≤ 1000) ∧ R (.rgc i c (rgN i j c)) h
def iRng (i j : Int) (h : DH) (R : DIt → DH → Prop) : Prop := (-(2 ^ 62) ≤ i ∧ i < 2 ^ 62 ∧ -(2 ^ 62) ≤ j ∧ j < 2 ^ 62) ∧ R (.rng i (j - i).toNat) h
def isSeqA (d : D) (h : DH) : Option DIt := match isSeqL d h with
  | some J => some J
  | none => isSeqT d
def iZp (d e : D) (h : DH) (R : DIt → DH → Prop) : Prop := match isSeqA d h, isSeqA e h with
  | some J, some J' => R (.zip J J') h
  | _, _ => False
def iEn (d : D) (h : DH) (R : DIt → DH → Prop) : Prop := match isSeqA d h with
  | some J => R (.enm J) h
  | none => False

/-- a loop: W by the turn, a measure and the state -/
def wLoop (J : DIt) (tg : D → DSt → DH → (DSt → DH → Prop) → Prop) (body : DSt → DH → (DSt → DH → Prop) → Prop) (s : DSt) (h : DH) (nx : DSt → DH → Prop) : Prop :=
  ∃ W : Nat → Nat → DSt → DH → Prop, (∃ m, W 0 m s h) ∧ ∀ i m s h, W i m s h → match nextD J i h with
    | none => False
    | some none => nx s h
    | some (some d) => ∃ N : DSt → DH → Prop, (∀ s' h', N s' h' → ∃ m', m' < m ∧ W (i + 1) m' s' h') ∧ tg d s h fun s2 h2 => body s2 h2 N
/-- a comprehension: W by the turn, a measure, the heap and what is made so far -/
def wComp (z : Bool) (J : DIt) (turn : D → DH → (Bool → DSt → DH → Prop) → Prop) (elt : DSt → DH → QD → Prop) (h : DH) (Q : QD) : Prop :=
  ∃ W : Nat → Nat → DH → List D → Prop, (∃ m, W 0 m h []) ∧ ∀ i m h acc, W i m h acc → match nextD J i h with
    | none => False
    | some none => al z (.lst acc) h Q
    | some (some d) => ∃ N : DH → List D → Prop, (∀ h' acc', N h' acc' → ∃ m', m' < m ∧ W (i + 1) m' h' acc') ∧
        turn d h fun b s2 h2 => if b = true then elt s2 h2 fun y h3 => acc.length < 16777216 ∧ N h3 (acc ++ [y]) else N h2 acc
def wWhile (c : DSt → DH → (Bool → DH → Prop) → Prop) (body : DSt → DH → (DSt → DH → Prop) → Prop) (s : DSt) (h : DH) (nx : DSt → DH → Prop) : Prop :=
  ∃ W : Nat → DSt → DH → Prop, (∃ m, W m s h) ∧ ∀ m s h, W m s h → c s h fun b h1 => if b = true then ∃ N : DSt → DH → Prop, (∀ s' h', N s' h' → ∃ m', m' < m ∧ W m' s' h') ∧ body s h1 N else nx s h1

/-- a value that is a truth -/
def asB (Q : Bool → DH → Prop) : QD := fun d h => match d with
  | .bl b => Q b h
  | _ => False

/-- the pairs of a display put in, from the left -/
def dputs (ks : List Key) (ds : List D) : List (Key × D) := (ks.zip ds).foldl (fun acc kv => dput acc kv.1 kv.2) []
def wMnd (x d : D) (h : DH) (Q : QD) : Prop := match lstOf x h with
  | some xs => (∃ ns, xs = iL ns ∧ (ns = [] → Q d h) ∧ ∀ m, m ∈ ns → (∀ y, y ∈ ns → m ≤ y) → Q (.int m) h) ∨
      ∃ ps, DPys h xs ps ∧ PySem.W.AlikeAll ps ∧ PyData.depthAll ps ≤ 60 ∧ (ps = [] → Q d h) ∧ ∀ p0 pt, ps = p0 :: pt → ∀ (e : D) (i : Nat), xs[i]? = some e → ps[i]? = some (PySem.W.minD p0 pt) → Q e h
  | none => False
def rgD (a b : Int) : List D := (List.range (b - a).toNat).map fun i => .int (a + (i : Nat))
def wLrg (z : Bool) (x y : D) (h : DH) (Q : QD) : Prop := match x, y with
  | .int i, .int j => RgOk i j ∧ al z (.lst (rgD i j)) h Q
  | _, _ => False
def wRev (z : Bool) (x : D) (h : DH) (Q : QD) : Prop := match x with
  | .str y => (revS y).length ≤ 16777216 ∧ Q (.str (revS y)) h
  | .tup xs => Q (.tup xs.reverse) h
  | .kt _ xs => Q (.tup xs.reverse) h
  | x => match lstOf x h with
    | some xs => al z (.lst xs.reverse) h Q
    | none => False
def wDis (z : Bool) (p : Addr) (kvs : List (Key × D)) (h : DH) (Q : QD) : Prop := match z with
  | true => Q (.dk kvs) (rm h p)
  | false => Q (.ref p) (up h p (.dK kvs))
/-- a[::c] -/
def stIx (n : Nat) (c : Int) : List Nat := sliceRange (sliceBounds none none (some c) n).1 (sliceBounds none none (some c) n).2.1 (sliceBounds none none (some c) n).2.2
def pickD {α : Type} (xs : List α) (c : Int) : List α := (stIx xs.length c).filterMap (xs[·]?)
def wStp (z : Bool) (x : D) (o : Option Int) (h : DH) (Q : QD) : Prop := match lstOf x h, o with
  | some xs, some c => c ≠ 0 ∧ al z (.lst (pickD xs c)) h Q
  | _, _ => False
/-- the classes of the program's exceptions stand straight under HourError -/
def isA (c t : Str) : Bool := c == t || t == ("HourError" : Str) || t == ("ValueError" : Str)
def wIsx (ts cs : List Str) (d : D) (h : DH) (Q : QD) : Prop := match d with
  | .ex c _ => cs.contains c = true ∧ Q (.bl (ts.any (isA c))) h
  | .non => cs.isEmpty = false ∧ Q (.bl false) h
  | _ => False
def wFd (o : Option D) (h : DH) (Q : QD) : Prop := match o with
  | some d => Q d h
  | none => False
def wIa (o : Option Bool) (h : DH) (Q : QD) : Prop := match o with
  | some b => Q (.bl b) h
  | none => False
/-- isinstance of an instance, by its class -/
def wIsc (tb : List (Str × Bool)) (d : D) (h : DH) (Q : QD) : Prop := match d with
  | .ob c _ => wIa (tb.lookup c) h Q
  | .ref a => match h a with
    | some (.ins c _) => wIa (tb.lookup c) h Q
    | _ => False
  | _ => False
def wFld (f : Str) (cs xs : List Str) (d : D) (h : DH) (Q : QD) : Prop := match d with
  | .ex c fs => xs.contains c = true ∧ wFd (dget fs f) h Q
  | .ob c fs => cs.contains c = true ∧ wFd (dget fs f) h Q
  | .ref a => match h a with
    | some (.ins c fs) => cs.contains c = true ∧ wFd (dget fs f) h Q
    | _ => False
  | _ => False
/-- the class of an instance that has no attribute of that name -/
def clsD (m : Str) (d : D) (h : DH) : Option Str := match d with
  | .ob c fs => match dget fs m with
    | none => some c
    | some _ => none
  | .ref a => match h a with
    | some (.ins c fs) => match dget fs m with
      | none => some c
      | some _ => none
    | _ => none
  | _ => none
/-- the number of a class's method -/
def mtI (tb : List (Str × Nat)) (o : Option Str) : Option Nat := match o with
  | some c => (tb.find? fun r => r.1 == c).map (·.2)
  | none => none
def wMt (o : Option Nat) (k : Nat → Prop) : Prop := match o with
  | some i => k i
  | none => False
/-- an attribute put -/
def dputF (f : Str) (v : D) : List (Str × D) → List (Str × D)
  | [] => [(f, v)]
  | (g, x) :: r => if g = f then (g, v) :: r else (g, x) :: dputF f v r
def wFst (f : Str) (cs : List Str) (d v : D) (h : DH) (nx : DH → Prop) : Prop := match d with
  | .ref a => match h a with
    | some (.ins c fs) => cs.contains c = true ∧ fs.length < 900 ∧ nx (up h a (.ins c (dputF f v fs)))
    | _ => False
  | _ => False
def zipD (xs ys : List D) : List D := (xs.zip ys).map fun p => .tup [p.1, p.2]
def wLzp (z : Bool) (x y : D) (h : DH) (Q : QD) : Prop := match lstOf x h, lstOf y h with
  | some xs, some ys => xs.length ≤ 16777216 ∧ al z (.lst (zipD xs ys)) h Q
  | _, _ => False
def wTzp (x y : D) (h : DH) (Q : QD) : Prop := match lstOf x h, lstOf y h with
  | some xs, some ys => xs.length ≤ 16777216 ∧ Q (.kt true (zipD xs ys)) h
  | _, _ => False
/-- the number of a def that a slot holds -/
def fnI (tb : List (Str × Nat)) (o : Option (Option D)) : Option Nat := match o with
  | some (some (.fn x)) => tb.lookup x
  | _ => none
/-- an exception as it is made -/
def mkX (c : Str) (fs : List Str) (ds : List D) : Exn := ⟨c, (fs.zip ds).reverse⟩
mutual
def wE (gl : List D) (F : Fns) : CE → DSt → DH → QD → XD → Prop
  | .non => fun _ h Q _ => Q .non h
  | .bl b => fun _ h Q _ => Q (.bl b) h
  | .int i => fun _ h Q _ => Q (.int i) h
  | .str x => fun _ h Q _ => Q (.str x) h
  | .var i => fun s h Q _ => match s[i]? with
    | some (some d) => Q d h
    | _ => False
  | .glb i => fun _ h Q _ => match gl[i]? with
    | some d => Q d h
    | none => False
  | .bin z op a b => fun s h Q E => wE gl F a s h (fun x h1 => wE gl F b s h1 (fun y h2 => wBin z op x y h2 Q) E) E
  | .neg a => fun s h Q E => wE gl F a s h (fun x h1 => wNeg x h1 Q) E
  | .no a => fun s h Q E => wE gl F a s h (asB fun b h1 => Q (.bl (!b)) h1) E
  | .and a b => fun s h Q E => wE gl F a s h (asB fun c h1 => if c = true then wE gl F b s h1 (asB fun c' h2 => Q (.bl c') h2) E else Q (.bl false) h1) E
  | .or a b => fun s h Q E => wE gl F a s h (asB fun c h1 => if c = true then Q (.bl true) h1 else wE gl F b s h1 (asB fun c' h2 => Q (.bl c') h2) E) E
  | .cmp op a b => fun s h Q E => wE gl F a s h (fun x h1 => wE gl F b s h1 (fun y h2 => wCmp op x y h2 Q) E) E
  | .chn op op' a b c => fun s h Q E => wE gl F a s h (fun x h1 => wE gl F b s h1 (fun y h2 => wCmp op x y h2 (asB fun k h3 => if k = true then wE gl F c s h3 (fun z h4 => wCmp op' y z h4 Q) E else Q (.bl false) h3)) E) E
  | .ife t a b => fun s h Q E => wE gl F t s h (asB fun c h1 => if c = true then wE gl F a s h1 Q E else wE gl F b s h1 Q E) E
  | .ktup es => fun s h Q E => wEs gl F es s h (fun ds h1 => ds.length ≤ 16777216 ∧ Q (.kt true ds) h1) E
  | .tup es => fun s h Q E => wEs gl F es s h (fun ds h1 => ds.length ≤ 16777216 ∧ Q (.tup ds) h1) E
  | .lst z es => fun s h Q E => wEs gl F es s h (fun ds h1 => ds.length ≤ 16777216 ∧ al z (.lst ds) h1 Q) E
  | .dnew => fun _ h Q _ => (∀ p, h p = none → Q (.ref p) (up h p (.dK []))) ∨ (∀ p, h p = none → Q (.ref p) (up h p (.dT [])))
  | .idx a i => fun s h Q E => wE gl F a s h (fun x h1 => wE gl F i s h1 (fun y h2 => wIdx x y h2 Q) E) E
  | .slc z a lo hi => fun s h Q E => wE gl F a s h (fun x h1 => wO gl F lo s h1 (fun l h2 => wO gl F hi s h2 (fun u h3 => wSlc z x l u h3 Q) E) E) E
  | .call f es => fun s h Q E => wEs gl F es s h (fun ds h1 => F f ds h1 Q E) E
  | .blt z f es => fun s h Q E => wEs gl F es s h (fun ds h1 => wB z f ds h1 Q) E
  | .mtd z m o es => fun s h Q E => wE gl F o s h (fun x h1 => tyD m.ty x h1 ∧ wEs gl F es s h1 (fun ds h2 => wM z m x ds h2 Q) E) E
  | .isi a T => fun s h Q E => wE gl F a s h (fun x h1 => wIsi T x h1 Q) E
  | .comp z own t it test e => fun s h Q E => wI gl F it s h (fun J h1 => wComp z J (fun d h2 R => wTg t d (wipeD s (own.map (·.2))) h2 fun s2 h3 => wT gl F test s2 h3 fun b h4 => R b s2 h4) (fun s2 h2 R => wE gl F e s2 h2 R fun _ _ => False) h1 Q) E
  | .dis z ks es => fun s h Q E => ∀ p, h p = none → wEs gl F es s (up h p (.dK [])) (fun ds h2 => h2 p = some (.dK []) ∧ wDis z p (dputs ks ds) h2 Q) E
  | .rev z a => fun s h Q E => wE gl F a s h (fun x h1 => wRev z x h1 Q) E
  | .stp z a k => fun s h Q E => wE gl F a s h (fun x h1 => wO gl F k s h1 (fun o h2 => wStp z x o h2 Q) E) E
  | .mnd a d => fun s h Q E => wE gl F a s h (fun x h1 => wE gl F d s h1 (fun y h2 => wMnd x y h2 Q) E) E
  | .lzp z a b => fun s h Q E => wE gl F a s h (fun x h1 => wE gl F b s h1 (fun y h2 => wLzp z x y h2 Q) E) E
  | .tzp a b => fun s h Q E => wE gl F a s h (fun x h1 => wE gl F b s h1 (fun y h2 => wTzp x y h2 Q) E) E
  | .fnv x => fun _ h Q _ => Q (.fn x) h
  | .cal i tb es => fun s h Q E => wMt (fnI tb s[i]?) fun j => wEs gl F es s h (fun ds h1 => F j ds h1 Q E) E
  | .lrg z a b => fun s h Q E => wE gl F a s h (fun x h1 => wE gl F b s h1 (fun y h2 => wLrg z x y h2 Q) E) E
  | .sset z a => fun s h Q E => wE gl F a s h (fun x h1 => wSset z x h1 Q) E
  | .lset a => fun s h Q E => wE gl F a s h (fun x h1 => wLset x h1 Q) E
  | .ist a _ tb => fun s h Q E => wE gl F a s h (fun x h1 => wIsc tb x h1 Q) E
  | .isc a _ tb => fun s h Q E => wE gl F a s h (fun x h1 => wIsc tb x h1 Q) E
  | .isx a ts cs => fun s h Q E => wE gl F a s h (fun x h1 => wIsx ts cs x h1 Q) E
  | .fld a f cs xs => fun s h Q E => wE gl F a s h (fun x h1 => wFld f cs xs x h1 Q) E
  | .new c i es => fun s h Q E => wEs gl F es s h (fun ds h1 => ∀ p, h1 p = none → F i (.ref p :: ds) (up h1 p (.ins c [])) (fun d h2 => d = .non ∧ Q (.ref p) h2) E) E
  | .imt m tb o es => fun s h Q E => wE gl F o s h (fun x h1 => wMt (mtI tb (clsD m x h1)) fun i => wEs gl F es s h1 (fun ds h2 => F i (x :: ds) h2 Q E) E) E
  | .frz e => fun s h Q E => wE gl F e s h (fun d h1 => wFrz d h1 Q) E
  | .gc e => fun s h Q E => wE gl F e s h (fun d h1 => Q d (rst h h1)) E
def wEs (gl : List D) (F : Fns) : CEs → DSt → DH → (List D → DH → Prop) → XD → Prop
  | .nil => fun _ h Q _ => Q [] h
  | .cons e es => fun s h Q E => wE gl F e s h (fun x h1 => wEs gl F es s h1 (fun xs h2 => Q (x :: xs) h2) E) E
/-- a part of a slice -/
def wO (gl : List D) (F : Fns) : CO → DSt → DH → (Option Int → DH → Prop) → XD → Prop
  | .none => fun _ h Q _ => Q none h
  | .some e => fun s h Q E => wE gl F e s h (fun x h1 => match x with
    | .int i => Q (some i) h1
    | _ => False) E
/-- a comprehension's test -/
def wT (gl : List D) (F : Fns) : CO → DSt → DH → (Bool → DH → Prop) → Prop
  | .none => fun _ h Q => Q true h
  | .some e => fun s h Q => wE gl F e s h (asB Q) fun _ _ => False
def wI (gl : List D) (F : Fns) : CI → DSt → DH → (DIt → DH → Prop) → XD → Prop
  | .any e => fun s h R E => wE gl F e s h (fun d h1 => iAny d h1 R) E
  | .rng1 e => fun s h R E => wE gl F e s h (fun d h1 => match d with
    | .int j => iRng 0 j h1 R
    | _ => False) E
  | .rng2 a b => fun s h R E => wE gl F a s h (fun d h1 => wE gl F b s h1 (fun e h2 => match d, e with
    | .int i, .int j => iRng i j h2 R
    | _, _ => False) E) E
  | .rng3 a b c => fun s h R E => wE gl F a s h (fun d h1 => wE gl F b s h1 (fun e h2 => wE gl F c s h2 (fun f h3 => match d, e, f with
    | .int i, .int j, .int k => iRg3 i j k h3 R
    | _, _, _ => False) E) E) E
  | .zip a b => fun s h R E => wE gl F a s h (fun d h1 => wE gl F b s h1 (fun e h2 => iZp d e h2 R) E) E
  | .enm a => fun s h R E => wE gl F a s h (fun d h1 => iEn d h1 R) E
end

mutual
def wS (gl : List D) (F : Fns) (rt : QD) (ex : SXD) : CS → DSt → DH → (DSt → DH → Prop) → Prop
  | .set i e => fun s h nx => wE gl F e s h (fun d h1 => nx (s.set i (some d)) h1) fun x h' => ex x s h'
  | .unp ts e => fun s h nx => wE gl F e s h (fun d h1 => wTg (.tup ts) d s h1 nx) fun x h' => ex x s h'
  | .par2 i j a b => fun s h nx => wE gl F a s h (fun d h1 => wE gl F b s h1 (fun e h2 => nx ((s.set i (some d)).set j (some e)) h2) fun x h' => ex x s h') fun x h' => ex x s h'
  | .par3 i j k a b c => fun s h nx => wE gl F a s h (fun d h1 => wE gl F b s h1 (fun e h2 => wE gl F c s h2 (fun f h3 => nx (((s.set i (some d)).set j (some e)).set k (some f)) h3) fun x h' => ex x s h') fun x h' => ex x s h') fun x h' => ex x s h'
  | .put o k e => fun s h nx => wE gl F e s h (fun v h1 => wE gl F o s h1 (fun x h2 => wE gl F k s h2 (fun y h3 => wSet x y v h3 fun h4 => nx s h4) fun x h' => ex x s h') fun x h' => ex x s h') fun x h' => ex x s h'
  | .aug i op e => fun s h nx => match s[i]? with
    | some (some d) => wE gl F e s h (fun v h1 => (match op with
      | .Add => wI2 (fun _ _ => True) (fun i j => i + j) d v h1 fun z h2 => nx (s.set i (some z)) h2
      | .Sub => wSub d v h1 fun z h2 => nx (s.set i (some z)) h2
      | _ => False)) fun x h' => ex x s h'
    | _ => False
  | .exp e => fun s h nx => wE gl F e s h (fun _ h1 => nx s h1) fun x h' => ex x s h'
  | .ret e => fun s h nx => wE gl F e s h rt fun x h' => ex x s h'
  | .retN => fun s h nx => rt .non h
  | .ife c a b => fun s h nx => wE gl F c s h (asB fun k h1 => if k = true then wSs gl F rt ex a s h1 nx else wSs gl F rt ex b s h1 nx) fun x h' => ex x s h'
  | .for t it b => fun s h nx => wI gl F it s h (fun J h1 => wLoop J (wTg t) (wSs gl F rt ex b) s h1 nx) fun x h' => ex x s h'
  | .whl c b => fun s h nx => wWhile (fun s h Q => wE gl F c s h (asB Q) fun x h' => ex x s h') (wSs gl F rt ex b) s h nx
  | .pas => fun s h nx => nx s h
  | .nev => fun _ _ _ => False
  | .fst o f cs e => fun s h nx => wE gl F e s h (fun v h1 => wE gl F o s h1 (fun x h2 => wFst f cs x v h2 fun h3 => nx s h3) fun x h' => ex x s h') fun x h' => ex x s h'
  | .rai c fs es => fun s h _ => wEs gl F es s h (fun ds h1 => ((fs.isEmpty && decide (ds.length ≤ 1000)) || ds.length == fs.length) = true ∧ ex (mkX c fs ds) s h1) fun x h' => ex x s h'
  | .try b c cs i su => fun s h nx => wSs gl F rt (fun x s' h' => cs.contains x.cls = true ∧ if isA x.cls c = true then (match i with
      | some j => wSs gl F rt (fun _ _ _ => False) su (s'.set j (some (.ex x.cls x.fs))) h' fun s2 h2 => nx (s2.set j none) h2
      | none => wSs gl F rt (fun _ _ _ => False) su s' h' nx) else ex x s' h') b s h nx
  | .fz i => fun s h nx => match s[i]? with
    | some (some d) => wFrz d h fun d' h' => nx (s.set i (some d')) h'
    | _ => False
  | .del is => fun s h nx => nx (wipeD s is) h
def wSs (gl : List D) (F : Fns) (rt : QD) (ex : SXD) : CSs → DSt → DH → (DSt → DH → Prop) → Prop
  | .nil => fun s h nx => nx s h
  | .cons c cs => fun s h nx => wS gl F rt ex c s h fun s1 h1 => wSs gl F rt ex cs s1 h1 nx
end
end DL

/-! DL, part G: defs with guards told; the check; judgements -/
namespace DL
open PySem PySem.Spec PyProof.Rows L2

/-- an exception as it flies -/
def RX (K : PySem.W.Frag) (C : CA) (H : Hp) (x : Exn) (cls : Value) (d : Option Addr) : Prop :=
  (∃ Ca, CL K x.cls Ca ∧ cls = .ref Ca) ∧ match d with
    | none => x.fs = []
    | some dx => ∃ gs, H dx = some (.xd gs) ∧ RPs K H gs x.fs

/-! ### defs -/
structure FnG (P : Program) (w : World) (K : PySem.W.Frag) (mg : Str → Option Value) (base : Heap) (k : Nat) (f : Addr) (fd : FuncData) (ps : List Str) (sp : Sp) : Prop where
  len : ∀ vs H Q E, sp vs H Q E → vs.length = ps.length
  run : ∀ (A : Around) (outer : List Env) (s : Shared) (H : Hp) (args : Args) (us : List Value) (vs : List V) (Q : VK) (E : XK), Room k A → A.guards = some [] → Env0 P w K mg base A outer s H → BindsTo s fd args (ps.zip us) → Vals vs us → sp vs H Q E →
    codeAny (model P w) A (.call (.ref f) args) (CR (L2.CX P w) outer P w H s Q E) s
theorem FnG.mono {P : Program} {w : World} {K : PySem.W.Frag} {mg : Str → Option Value} {base : Heap} {j k : Nat} {f : Addr} {fd : FuncData} {ps : List Str} {sp : Sp} (F : FnG P w K mg base j f fd ps sp) (h : j ≤ k) : FnG P w K mg base k f fd ps sp :=
  ⟨F.len, fun A outer s H args us vs Q E hr => F.run A outer s H args us vs Q E (hr.mono h)⟩
theorem deeper_guards (A : Around) (env : Env) : (A.deeper env).guards = A.guards := rfl

/-- a def of the text, by its body -/
theorem fnG_of {P : Program} {w : World} {K : PySem.W.Frag} {mg : Str → Option Value} {base : Heap} {k : Nat} {f : Addr} {name qual : Str} {params : Arguments} {body : List Stmt} {scope : Scope} {dV kV doc pm cdv ct oc : Value} {an od : Option Addr}
    {osl : Array (Option Value)} {N ps : List Str} {sp : Sp} (lk : K.lookup f = some ⟨oc, od, .func (PySem.W.fnOf name qual params body scope dV kV doc pm an cdv ct), osl⟩) (hcd : PySem.W.codeIn K cdv qual = true) (S : FnScope N ps scope)
    (len : ∀ vs H Q E, sp vs H Q E → vs.length = ps.length)
    (hbody : ∀ (A : Around) (outer : List Env) (s : Shared) (H : Hp) (vs : List V) (Q : VK) (E : XK), Room k (A.deeper (envOfC qual scope s.heap.objs.size f cdv)) → A.guards = some [] → sp vs H Q E →
      ∃ t, PSs (cxOf (L2.CX P w) P w K mg base N qual scope f cdv A outer s H E) body t ∧ t { nx := fun _ H' => Q .non H', rt := Q } (start N vs) H) :
    FnG P w K mg base (k + 1) f (PySem.W.fnOf name qual params body scope dV kV doc pm an cdv ct) ps sp := by
  refine ⟨len, fun A outer s H args us vs Q E hr hg e0 hb r hsp => ?_⟩
  have hl := len _ _ _ _ hsp
  have KX : K.In s.heap := e0.mod.kin.keeps fun b o e => (e0.bs b o e).1
  have lim : s.heap.NoLimit := e0.mod.nolimit.keeps fun b o e => (e0.bs b o e).1
  have hkind : ∀ y ∈ ps.zip us, scope.names.lookup y.1 = some .local ∨ (scope.names.lookup y.1 = some .cell ∧ ((cellsFrom (s.heap.objs.size + 1) scope.names []).lookup y.1).isSome = true) := fun ⟨n, v⟩ hy => by
    rcases S.par n (List.of_mem_zip hy).1 with q | q
    · exact .inl q
    · exact .inr ⟨q, PySem.W.cellsFrom_some _ _ _ (.inl q)⟩
  refine codeAny_call_function hr.depth (KX _ _ lk) rfl S.co S.gen rfl (PySem.W.codeRec_of KX hcd) (hb _ _ _ _ ?_)
  refine wpAny_newFunctionEnv_cells S.kind hkind fun env he s1 x => ?_
  subst he
  refine ⟨lim.keeps x.toInCall.keep, codeAny_func ?_⟩
  obtain ⟨t, ht, hq⟩ := hbody A outer s H vs Q E (hr.deeper _) hg hsp
  have I : Inv (cxOf (L2.CX P w) P w K mg base N qual scope f cdv A outer s H E) [] (start N vs) H s1 := inv_start S hr.hd e0 hl r x
  refine wpAny_mono (ht.run [] s1 (start N vs) H _ I hq) (fun fl s' hs => ?_) fun e s' hs => hs
  have fin : ∀ {σ' : L2.St} {H' : Hp} {v : V} {u : Value}, Inv (cxOf (L2.CX P w) P w K mg base N qual scope f cdv A outer s H E) [] σ' H' s' → RelV v u → Q v H' → L2.CE outer P w H s Q u s' :=
    fun {σ' H' v u} J rv q => ⟨v, H', J.os, J.bare, J.base, J.hok, rv, q⟩
  cases fl with
  | ret u =>
    obtain ⟨v, σ', H', J, rv, q⟩ := hs
    exact fin J rv q
  | next =>
    obtain ⟨σ', H', J, q⟩ := hs
    exact fin (v := V.non) (u := Value.none) J rfl q
  | brk =>
    obtain ⟨_, _, _, q⟩ := hs
    exact False.elim q
  | cont =>
    obtain ⟨_, _, _, q⟩ := hs
    exact False.elim q

section
variable {X : Cx} {k : Nat} {f : Addr} {fd : FuncData} {ps : List Str} {sp : Sp} {E : L2.St → XK} {x : Str} {p pos : Pos} {e : Expr} {es : List Expr} {t : TA}
theorem run_fnG {pins : List (Addr × Obj)} {σ : L2.St} {H : Hp} {s : Shared} {Q : VK} {us : List Value} {vs : List V} {E : XK} (F : FnG X.prog X.w X.K X.mg X.base k f fd ps sp) (hr : Room k X.A) (hg : X.A.guards = some []) (hb : Binds X.K fd ps []) (hx : PassesAt (L2.CX X.prog X.w) X σ E)
    (I : Inv X pins σ H s) (r : Vals vs us) (h : sp vs H Q E) : wpAny (model X.prog X.w) X.A (call (.ref f) us) (EP X pins σ Q) X.xe s := by
  have hl : us.length = ps.length := by rw [← r.length]; exact F.len _ _ _ _ h
  have b := hb s us I.kIn (by rw [List.append_nil]; exact hl)
  rw [List.append_nil] at b
  refine wpAny_call (codeAny_mono (F.run X.A X.stack s H ⟨us, []⟩ us vs Q E hr hg I.env0 b r h) fun r s' hq => ?_)
  cases r with
  | error e => exact hx pins H s e s' I hq
  | ok fl =>
    cases fl with
    | ret u => exact I.after hq
    | next => exact False.elim hq
    | brk => exact False.elim hq
    | cont => exact False.elim hq
theorem pe_callG (F : FnG X.prog X.w X.K X.mg X.base k f fd ps sp) (hr : Room k X.A) (hgu : X.A.guards = some []) (hg : Gl X x) (hm : X.mg x = some (.ref f)) (hk : PySem.W.keepIn X.K (.ref f) = true) (hb : Binds X.K fd ps []) (hx : ∀ σ, PassesAt (L2.CX X.prog X.w) X σ (E σ))
    (ha : PA X (e :: es) t) (hdb : (x == ("__debug__" : Str)) = false) (he : starEach (e :: es) X.env = (false, eval e X.env) :: starEach es X.env) (hpl : (backTo pos (starEach es X.env)).any (·.1) = false) :
    PE X (.Call (.Name x p) (e :: es) [] pos) (tCallS sp E t) := by
  refine ⟨fun pins s σ H Q I h => ?_⟩
  refine wpAny_Call_Name_kw (ld_glob I hg hm ?_ hdb)
  refine PySem.W.callWith_K (h₀ := X.base) I.ok.mod.kin hk (thn (ha.run pos pins s σ H _ I h) fun us s1 ⟨vs, H1, I1, r, q⟩ => ⟨I1.kIn, ?_⟩) he hpl
  exact run_fnG F hr hgu hb (hx σ) I1 r q
theorem pe_callG0 (F : FnG X.prog X.w X.K X.mg X.base k f fd ps sp) (hr : Room k X.A) (hgu : X.A.guards = some []) (hg : Gl X x) (hm : X.mg x = some (.ref f)) (hk : PySem.W.keepIn X.K (.ref f) = true) (hb : Binds X.K fd ps []) (hx : ∀ σ, PassesAt (L2.CX X.prog X.w) X σ (E σ))
    (hdb : (x == ("__debug__" : Str)) = false) : PE X (.Call (.Name x p) [] [] pos) (tCallS sp E tNil) := by
  refine ⟨fun pins s σ H Q I h => ?_⟩
  refine wpAny_Call_Name_kw (ld_glob I hg hm ?_ hdb)
  exact PySem.W.callWith_K0 I.kIn hk (run_fnG (us := []) F hr hgu hb (hx σ) I .nil h)
end

/-! ### the check -/
/-- classes: exceptions with their fields; what they are held against; methods, by numbers; __init__s; fields -/
structure Xt where
  xcs : List (Str × List Str)
  xts : List Str
  mts : List (Str × Str × Nat)
  ini : List (Str × Nat)
  fls : List (Str × List Str)
  ics : List (Str × Str × Bool)
  fvs : List Str := []
structure Gx where
  N : List Str
  sc : Scope
  fns : List Str
  cns : List Str
  bls : List Str
  xt : Xt
def visB (sc : Scope) (x : Str) : Bool := match sc.names.lookup x with
  | some .local => true
  | some .cell => true
  | some .free => true
  | _ => false
def locB (sc : Scope) (x : Str) : Bool := match sc.names.lookup x with
  | some .local => true
  | some .cell => true
  | _ => false
def lclB (sc : Scope) (x : Str) : Bool := match sc.names.lookup x with
  | some .local => true
  | _ => false
def glB (sc : Scope) (x : Str) : Bool := match sc.names.lookup x with
  | some .globalImplicit => true
  | _ => false
def okN (x : Str) : Bool := !(x == ("__debug__" : Str)) && !(x == ("__classdict__" : Str)) && !(x == ("__name__" : Str))
def notStar : Expr → Bool
  | .Starred _ _ => false
  | _ => true
def notSet : Expr → Bool
  | .Set _ _ _ => false
  | _ => true
def notSlice : Expr → Bool
  | .Slice _ _ _ _ => false
  | _ => true
def notCall0 : Expr → Bool
  | .Call _ [] _ _ => false
  | _ => true
def plainV : Expr → Bool
  | .Call _ _ _ _ => true
  | .Subscript _ _ _ => true
  | .BinOp _ _ _ _ => true
  | .List _ _ => true
  | .Dict _ _ _ => true
  | .Name _ _ => true
  | .Attribute _ _ _ => true
  | _ => false
def notComp : Expr → Bool
  | .ListComp _ _ _ _ => false
  | .SetComp _ _ _ _ => false
  | .DictComp _ _ _ _ _ => false
  | _ => true
def isTupE : Expr → Bool
  | .Tuple _ _ _ => true
  | _ => false
mutual
def chkT (N : List Str) (sc : Scope) (lc : Bool) : CT → Expr → Bool
  | .nam i => fun e => match e with
    | .Name x _ => N[i]? == some x && (if lc then lclB sc x else locB sc x) && okN x
    | _ => false
  | .tup ts => fun e => match e with
    | .Tuple es _ _ => chkTs N sc lc ts es
    | _ => false
def chkTs (N : List Str) (sc : Scope) (lc : Bool) : CTs → List Expr → Bool
  | .nil => fun es => match es with
    | [] => true
    | _ => false
  | .cons t ts => fun es => match es with
    | e :: r => notStar e && chkT N sc lc t e && chkTs N sc lc ts r
    | _ => false
end
def chkK : List Key → List (Option Expr) → Bool
  | [] => fun es => match es with
    | [] => true
    | _ => false
  | .inl i :: r => fun es => match es with
    | some (.Constant (.int j) _ _) :: t => j == i && chkK r t
    | _ => false
  | .inr x :: r => fun es => match es with
    | some (.Constant (.str y) _ _) :: t => y == x && chkK r t
    | _ => false
/-- no dot in it -/
def plainN (x : Str) : Bool := !x.cps.contains 46
def hasF (l : List (Str × List Str)) (c f : Str) : Bool := l.any fun r => r.1 == c && r.2.contains f
def chkN (xts : List Str) (sc : Scope) (t : Str) : Expr → Bool
  | .Name x _ => x == t && glB sc x && okN x && xts.contains x
  | _ => false
def chkIs (sc : Scope) : List Str → List Expr → Bool
  | [], [] => true
  | t :: ts, e :: es => (match e with
    | .Name t' _ => t' == t && glB sc t && okN t
    | _ => false) && chkIs sc ts es
  | _, _ => false
def icAll (ics : List (Str × Str × Bool)) (c : Str) (ts : List Str) (b : Bool) : Bool := ts.all (fun t => ics.contains (c, t, true) || ics.contains (c, t, false)) && b == ts.any fun t => ics.contains (c, t, true)
def chkNs (xts : List Str) (sc : Scope) : List Str → List Expr → Bool
  | [], [] => true
  | t :: ts, e :: es => chkN xts sc t e && chkNs xts sc ts es
  | _, _ => false
mutual
def chk (Γ : Gx) : CE → Expr → Bool
  | .non => fun e => match e with
    | .Constant .none _ _ => true
    | _ => false
  | .bl b => fun e => match e with
    | .Constant (.bool c) _ _ => c == b
    | _ => false
  | .int i => fun e => match e with
    | .Constant (.int j) _ _ => j == i
    | _ => false
  | .str x => fun e => match e with
    | .Constant (.str y) _ _ => y == x
    | _ => false
  | .var i => fun e => match e with
    | .Name x _ => Γ.N[i]? == some x && visB Γ.sc x && okN x
    | _ => false
  | .glb i => fun e => match e with
    | .Name x _ => Γ.cns[i]? == some x && glB Γ.sc x && okN x
    | _ => false
  | .bin _ op a b => fun e => match e with
    | .BinOp l o r _ => o == op && chk Γ a l && chk Γ b r
    | _ => false
  | .neg a => fun e => match e with
    | .UnaryOp .USub x _ => chk Γ a x
    | _ => false
  | .no a => fun e => match e with
    | .UnaryOp .Not x _ => chk Γ a x
    | _ => false
  | .and a b => fun e => match e with
    | .BoolOp .And (x :: y :: r) pos => chk Γ a x && (match r with
      | [] => chk Γ b y
      | z :: r' => chk Γ b (.BoolOp .And (y :: z :: r') pos))
    | _ => false
  | .or a b => fun e => match e with
    | .BoolOp .Or (x :: y :: r) pos => chk Γ a x && (match r with
      | [] => chk Γ b y
      | z :: r' => chk Γ b (.BoolOp .Or (y :: z :: r') pos))
    | _ => false
  | .cmp op a b => fun e => match e with
    | .Compare l [o] [r] _ => o == op && chk Γ a l && chk Γ b r && notSet r
    | _ => false
  | .chn op op' a b c => fun e => match e with
    | .Compare l [o, o'] [m, r] _ => o == op && o' == op' && chk Γ a l && chk Γ b m && chk Γ c r && notSet r
    | _ => false
  | .ife t a b => fun e => match e with
    | .IfExp u l r _ => chk Γ t u && chk Γ a l && chk Γ b r
    | _ => false
  | .ktup es => fun e => match e with
    | .Tuple xs _ _ => chks Γ es xs
    | _ => false
  | .tup es => fun e => match e with
    | .Tuple xs _ _ => chks Γ es xs
    | _ => false
  | .lst _ es => fun e => match e with
    | .List xs _ => chks Γ es xs
    | _ => false
  | .dnew => fun e => match e with
    | .Dict [] [] _ => true
    | _ => false
  | .idx a i => fun e => match e with
    | .Subscript x y _ => chk Γ a x && chk Γ i y && notSlice y
    | _ => false
  | .slc _ a lo hi => fun e => match e with
    | .Subscript x (.Slice l u none _) _ => chk Γ a x && chkO Γ lo l && chkO Γ hi u
    | _ => false
  | .call f es => fun e => match e with
    | .Call (.Name x _) xs [] _ => Γ.fns[f]? == some x && plainN x && glB Γ.sc x && okN x && chks Γ es xs
    | _ => false
  | .blt z f es => fun e => match e with
    | .Call (.Name x _) (y :: xs) [] _ => x == f.name && glB Γ.sc x && Γ.bls.contains x && chks Γ es (y :: xs) && (!z || f == .sorted || f == .list || f == .dict)
    | _ => false
  | .mtd z m o es => fun e => match e with
    | .Call (.Attribute x n ap) xs [] cp => n == m.name && chk Γ o x && chks Γ es xs && notCall0 x && ap.endLine == cp.line && decide (xs.length < 29) && (!z || m == .split)
    | _ => false
  | .isi a T => fun e => match e with
    | .Call (.Name f _) [x, .Name t _] [] _ => f == ("isinstance" : Str) && glB Γ.sc f && Γ.bls.contains f && t == Str.ofString T && glB Γ.sc t && Γ.bls.contains t && ["int", "bool", "str", "tuple", "list", "dict"].contains T && chk Γ a x
    | _ => false
  | .comp _ own t it test el => fun e => match e with
    | .ListComp elt [⟨tg, iter, ifs, 0⟩] scope _ => blkC Γ.N Γ.sc scope own && t.slots.all (fun i => (own.map (·.2)).contains i) && chkT Γ.N (relS scope Γ.sc) true t tg && chkI Γ it tg iter && notSet iter &&
        (match ifs with
          | [] => chkO { Γ with sc := relS scope Γ.sc } test none
          | [c] => chkO { Γ with sc := relS scope Γ.sc } test (some c)
          | _ => false) && chk { Γ with sc := relS scope Γ.sc } el elt
    | _ => false
  | .dis _ ks es => fun e => match e with
    | .Dict keys vals _ => chkK ks keys && chks Γ es vals && keys.length == vals.length && !ks.isEmpty && decide (ks.length ≤ 15)
    | _ => false
  | .rev _ a => fun e => match e with
    | .Subscript x (.Slice none none (some (.UnaryOp .USub (.Constant (.int i) _ _) _)) _) _ => i == 1 && chk Γ a x
    | _ => false
  | .stp _ a k => fun e => match e with
    | .Subscript x (.Slice none none (some y) _) _ => chk Γ a x && chkO Γ k (some y)
    | _ => false
  | .mnd a d => fun e => match e with
    | .Call (.Name f _) [x] [⟨some k, y, _⟩] _ => f == ("min" : Str) && glB Γ.sc f && Γ.bls.contains f && k == ("default" : Str) && notStar x && chk Γ a x && chk Γ d y
    | _ => false
  | .sset _ a => fun e => match e with
    | .Call (.Name f _) [.Call (.Name g _) [x] [] _] [] _ => f == ("sorted" : Str) && glB Γ.sc f && Γ.bls.contains f && g == ("set" : Str) && glB Γ.sc g && Γ.bls.contains g && notStar x && chk Γ a x
    | _ => false
  | .lset a => fun e => match e with
    | .Call (.Name f _) [.Call (.Name g _) [x] [] _] [] _ => f == ("len" : Str) && glB Γ.sc f && Γ.bls.contains f && g == ("set" : Str) && glB Γ.sc g && Γ.bls.contains g && notStar x && chk Γ a x
    | _ => false
  | .ist a ts tb => fun e => match e with
    | .Call (.Name f _) [x, .Tuple es _ _] [] _ => f == ("isinstance" : Str) && glB Γ.sc f && Γ.bls.contains f && notStar x && chk Γ a x && chkIs Γ.sc ts es && decide (ts.length < 100) && !ts.isEmpty && !tb.isEmpty && tb.all (fun r => icAll Γ.xt.ics r.1 ts r.2)
    | _ => false
  | .isc a t tb => fun e => match e with
    | .Call (.Name f _) [x, .Name t' _] [] _ => f == ("isinstance" : Str) && glB Γ.sc f && Γ.bls.contains f && notStar x && chk Γ a x && t' == t && glB Γ.sc t && okN t && !tb.isEmpty && tb.all (fun r => Γ.xt.ics.contains (r.1, t, r.2))
    | _ => false
  | .isx a ts cs => fun e => match e with
    | .Call (.Name f _) [x, t] [] _ => f == ("isinstance" : Str) && glB Γ.sc f && Γ.bls.contains f && notStar x && chk Γ a x && cs.all (fun c => Γ.xt.xcs.any (fun r => r.1 == c)) && decide (ts.length < 100) && (match t with
      | .Tuple es _ _ => chkNs Γ.xt.xts Γ.sc ts es
      | t => chkNs Γ.xt.xts Γ.sc ts [t])
    | _ => false
  | .fld a f cs xs => fun e => match e with
    | .Attribute x g _ => g == f && notCall0 x && chk Γ a x && cs.all (fun c => hasF Γ.xt.fls c f) && xs.all (fun c => hasF Γ.xt.xcs c f)
    | _ => false
  | .new c i es => fun e => match e with
    | .Call (.Name x _) xs [] _ => x == c && glB Γ.sc x && okN x && Γ.xt.ini.contains (c, i) && chks Γ es xs
    | _ => false
  | .imt m tb o es => fun e => match e with
    | .Call (.Attribute x n ap) xs [] cp => n == m && chk Γ o x && chks Γ es xs && notCall0 x && ap.endLine == cp.line && decide (xs.length < 29) && tb.all (fun r => Γ.xt.mts.contains (r.1, m, r.2))
    | _ => false
  | .frz c => fun e => plainV e && chk Γ c e
  | .gc c => fun e => plainV e && chk Γ c e
  | .lzp _ a b => fun e => match e with
    | .Call (.Name f _) [.Call (.Name g _) [x, y] [] _] [] _ => f == ("list" : Str) && glB Γ.sc f && Γ.bls.contains f && g == ("zip" : Str) && glB Γ.sc g && Γ.bls.contains g && notStar x && notStar y && chk Γ a x && chk Γ b y
    | _ => false
  | .tzp a b => fun e => match e with
    | .Call (.Name f _) [.Call (.Name g _) [x, y] [] _] [] _ => f == ("tuple" : Str) && glB Γ.sc f && Γ.bls.contains f && g == ("zip" : Str) && glB Γ.sc g && Γ.bls.contains g && notStar x && notStar y && chk Γ a x && chk Γ b y
    | _ => false
  | .fnv x => fun e => match e with
    | .Name y _ => y == x && Γ.xt.fvs.contains x && glB Γ.sc y && okN y
    | _ => false
  | .cal i tb es => fun e => match e with
    | .Call (.Name x _) (y :: xs) [] _ => Γ.N[i]? == some x && visB Γ.sc x && okN x && chks Γ es (y :: xs) && tb.all (fun r => Γ.fns[r.2]? == some r.1 && plainN r.1)
    | _ => false
  | .lrg _ a b => fun e => match e with
    | .Call (.Name f _) [.Call (.Name g _) [x, y] [] _] [] _ => f == ("list" : Str) && glB Γ.sc f && Γ.bls.contains f && g == ("range" : Str) && glB Γ.sc g && Γ.bls.contains g && notStar x && notStar y && chk Γ a x && chk Γ b y
    | _ => false
def chks (Γ : Gx) : CEs → List Expr → Bool
  | .nil => fun es => match es with
    | [] => true
    | _ => false
  | .cons c cs => fun es => match es with
    | e :: r => notStar e && chk Γ c e && chks Γ cs r
    | _ => false
def chkO (Γ : Gx) : CO → Option Expr → Bool
  | .none => fun o => match o with
    | none => true
    | _ => false
  | .some c => fun o => match o with
    | some e => chk Γ c e
    | _ => false
def chkI (Γ : Gx) : CI → Expr → Expr → Bool
  | .any c => fun _ e => chk Γ c e
  | .rng1 c => fun _ e => match e with
    | .Call (.Name x _) [y] [] _ => x == ("range" : Str) && glB Γ.sc x && Γ.bls.contains x && notStar y && chk Γ c y
    | _ => false
  | .rng2 c d => fun _ e => match e with
    | .Call (.Name x _) [y, z] [] _ => x == ("range" : Str) && glB Γ.sc x && Γ.bls.contains x && notStar y && notStar z && chk Γ c y && chk Γ d z
    | _ => false
  | .rng3 c d b => fun _ e => match e with
    | .Call (.Name x _) [y, z, w] [] _ => x == ("range" : Str) && glB Γ.sc x && Γ.bls.contains x && notStar y && notStar z && notStar w && chk Γ c y && chk Γ d z && chk Γ b w
    | _ => false
  | .zip c d => fun t e => match e with
    | .Call (.Name x _) [y, z] [] _ => isTupE t && x == ("zip" : Str) && glB Γ.sc x && Γ.bls.contains x && notStar y && notStar z && chk Γ c y && chk Γ d z
    | _ => false
  | .enm c => fun t e => match e with
    | .Call (.Name x _) [y] [] _ => isTupE t && x == ("enumerate" : Str) && glB Γ.sc x && Γ.bls.contains x && notStar y && chk Γ c y
    | _ => false
end
end DL

/-! DL, part H: expressions are sound -/
namespace DL
open PySem PySem.Spec PyProof.Rows L2

structure Lv where
  K : PySem.W.Frag
  C : CA
  H0 : Hp
  h0 : DH
  EX : SXD
/-- no exception -/
abbrev Lv.nx (L : Lv) : Lv := { L with EX := fun _ _ _ => False }

def Lx (L : Lv) (w : DSt → DH → QD → XD → Prop) : TE := fun σ H Q => ∃ s h Q0, Ste L.H0 L.h0 H h ∧ RS L.K H σ s ∧ RH L.K L.C H h ∧ w s h Q0 (fun x h' => L.EX x s h') ∧ ∀ d h', Q0 d h' → LQ L.K L.C H h Q d h'
def Lt (L : Lv) (w : DSt → DH → QD → XD → Prop) : TT := fun σ H Q => ∃ s h Q0, Ste L.H0 L.h0 H h ∧ RS L.K H σ s ∧ RH L.K L.C H h ∧ w s h (asB Q0) (fun x h' => L.EX x s h') ∧ ∀ b h', Q0 b h' → ∀ H', Ste H h H' h' → RH L.K L.C H' h' → Q b H'
def La (L : Lv) (w : DSt → DH → (List D → DH → Prop) → XD → Prop) : TA := fun σ H Q => ∃ s h Q0, Ste L.H0 L.h0 H h ∧ RS L.K H σ s ∧ RH L.K L.C H h ∧ w s h Q0 (fun x h' => L.EX x s h') ∧ ∀ ds h', Q0 ds h' → ∀ vs H', Ste H h H' h' → RDs L.K H' vs ds → RH L.K L.C H' h' → Q vs H'
def Lo (L : Lv) (w : DSt → DH → (Option Int → DH → Prop) → XD → Prop) : TO := fun σ H Q => ∃ s h Q0, Ste L.H0 L.h0 H h ∧ RS L.K H σ s ∧ RH L.K L.C H h ∧ w s h Q0 (fun x h' => L.EX x s h') ∧ ∀ o h', Q0 o h' → ∀ H', Ste H h H' h' → RH L.K L.C H' h' → Q o H'
/-- the iterator of the layer below does what this one says, from the heap H1 on -/
def ItR (L : Lv) (H1 : Hp) (J : DIt) (Jh : It) : Prop := ∀ i H h, Le H1 H → RH L.K L.C H h → match nextD J i h with
  | none => True
  | some none => Jh.stop i H
  | some (some d) => Jh.go i H ∧ ∀ x H', Jh.yld i H x H' → Ste H h H' h ∧ RD L.K H' x d ∧ RH L.K L.C H' h
def Li (L : Lv) (w : DSt → DH → (DIt → DH → Prop) → XD → Prop) : TI := fun σ H R => ∃ s h R0, Ste L.H0 L.h0 H h ∧ RS L.K H σ s ∧ RH L.K L.C H h ∧ w s h R0 (fun x h' => L.EX x s h') ∧ ∀ J h', R0 J h' → ∀ Jh H', Ste H h H' h' → RH L.K L.C H' h' → ItR L H' J Jh → R Jh H'

/-- the wish about exceptions -/
def Wx (L : Lv) : WX := fun cls d σ H => ∃ x s h, Ste L.H0 L.h0 H h ∧ RX L.K L.C H x cls d ∧ RS L.K H σ s ∧ RH L.K L.C H h ∧ L.EX x s h
/-- a def's promise from its meaning -/
def spL (K : PySem.W.Frag) (C : CA) (w : List D → DH → QD → XD → Prop) : Sp := fun vs H Q E => ∃ ds h Q0 E0, RDs K H vs ds ∧ RH K C H h ∧ w ds h Q0 E0 ∧ (∀ d h', Q0 d h' → LQ K C H h Q d h') ∧
  ∀ x h', E0 x h' → ∀ cls d H', Ste H h H' h' → RX K C H' x cls d → RH K C H' h' → E cls d H'

/-- what isinstance, or an except clause, names -/
def TgF (mg : Str → Option Value) (t : Str) (u : Value) : Prop := (∃ T : Addr, mg t = some u ∧ u = .ref T) ∨ (t = ("ValueError" : Str) ∧ mg t = none ∧ u = .type "ValueError")
/-- the promise of an exception's __init__ -/
def spIni (C : Addr) (fs : List Str) : Sp := fun vs H Q _ => ∃ (a : Addr) (ys : List V), vs = .ref a :: ys ∧ ys.length = fs.length ∧ H a = some (exo a C none) ∧
  ∀ (dx : Addr) (H' : Hp), H dx = none → dx ≠ a → H' a = some (exo a C (some dx)) → H' dx = some (exd dx (fs.zip ys).reverse) → (∀ b, b ≠ a → b ≠ dx → H' b = H b) → Q .non H'
/-- how an exception is made -/
def MkF (P : Program) (w : World) (K : PySem.W.Frag) (mg : Str → Option Value) (base : Heap) (C : Addr) (fs : List Str) : Prop :=
  (fs = [] ∧ PySem.W.excIn K C PySem.HandSPX.veTail "ValueError.__new__" = true) ∨
    (fs ≠ [] ∧ OexC K C ∧ ∃ (fI : Addr) (fd : FuncData), PySem.W.findIn K (.ref C) "__init__" = some (some (.ref fI)) ∧ PySem.W.typeIn K (.ref fI) = some (.type "function") ∧
      FnOk P w K mg base CX0 1 fI fd (("self" : Str) :: fs) (spIni C fs) ∧ Binds K fd (("self" : Str) :: fs) [])
/-- what isinstance tells of instances of a class -/
structure IcF (K : PySem.W.Frag) (mg : Str → Option Value) (c t : Str) (b : Bool) (Ca Da : Addr) : Prop where
  cl : CL K c Ca
  ck : Cls K Ca
  ha : PySem.W.findIn K (.ref Ca) "__class__" = some (some (.builtin "object.__class__"))
  hn : PySem.W.specialIn K (.builtin "object.__class__") "__get__" = some (some (.builtin "getset_descriptor.__get__"))
  ht : PySem.W.takesIn K (.builtin "object.__class__") = some true
  hm : PySem.W.mroIn K Ca (.type "object") = some true
  mg : mg t = some (.ref Da)
  k : PySem.W.kitOne K (.ref Ca) (.ref Da) = some b
/-- what of an exception class may be read -/
structure XrF (K : PySem.W.Frag) (mg : Str → Option Value) (xts : List Str) (c : Str) (fs : List Str) (C : Addr) : Prop where
  cl : CL K c C
  is : (PySem.W.clsIn K C).isSome = true
  ga : PySem.W.findIn K (.ref C) "__getattribute__" = some (some (.builtin "BaseException.__getattribute__"))
  gg : PySem.W.findIn K (.ref C) "__getattr__" = some none
  be : PySem.W.subIn K (.ref C) (.type "BaseException") = some true
  ha : PySem.W.findIn K (.ref C) "__class__" = some (some (.builtin "object.__class__"))
  hn : PySem.W.specialIn K (.builtin "object.__class__") "__get__" = some (some (.builtin "getset_descriptor.__get__"))
  ht : PySem.W.takesIn K (.builtin "object.__class__") = some true
  hm : PySem.W.mroIn K C (.type "object") = some true
  hd : PySem.W.hasDictIn K C = true
  ty : PySem.W.typeIn K (.ref C) = some (.type "type")
  no : ∀ f ∈ fs, PySem.W.findIn K (.ref C) f = some none
  tg : ∀ t ∈ xts, ∃ u, TgF mg t u ∧ PySem.W.kitOne K (.ref C) u = some (isA c t) ∧ PySem.W.exmOne K (.ref C) u = some (isA c t)
structure XcF (P : Program) (w : World) (K : PySem.W.Frag) (mg : Str → Option Value) (base : Heap) (xts : List Str) (c : Str) (fs : List Str) (C : Addr) : Prop extends XrF K mg xts c fs C where
  gl : mg c = some (.ref C)
  kp : PySem.W.keepIn K (.ref C) = true
  mkf : MkF P w K mg base C fs
/-- tables' levels -/
abbrev lv (k : Nat) : Nat := 2 * k + 2
/-- what the names of the text stand for -/
structure Tab (P : Program) (w : World) (K : PySem.W.Frag) (mg : Str → Option Value) (base : Heap) (C : CA) (k : Nat) (fns cns bls : List Str) (xt : Xt) (gl : List D) (F : Fns) : Prop where
  fn : ∀ (i : Nat) (x : Str), fns[i]? = some x → plainN x = true → ∃ f fd ps, mg x = some (.ref f) ∧ PySem.W.keepIn K (.ref f) = true ∧ FnG P w K mg base (lv k) f fd ps (spL K C (F i)) ∧ Binds K fd ps []
  cn : ∀ (i : Nat) (x : Str), cns[i]? = some x → ∃ v u d, gl[i]? = some d ∧ mg x = some u ∧ RelV v u ∧ ∀ H, RD K H v d
  bl : ∀ x, x ∈ bls → mg x = none
  xc : ∀ c fs, (c, fs) ∈ xt.xcs → ∃ Ca, XcF P w K mg base xt.xts c fs Ca
  mt : ∀ c m i, (c, m, i) ∈ xt.mts → ∃ Ca f fd ps, CL K c Ca ∧ Cls K Ca ∧ Meth K Ca m f ∧ FnG P w K mg base (lv k) f fd ps (spL K C (F i)) ∧ Binds K fd ps []
  ini : ∀ c i, (c, i) ∈ xt.ini → ∃ Ca f fd ps, CL K c Ca ∧ mg c = some (.ref Ca) ∧ Mk K Ca f ∧ FnG P w K mg base (lv k) f fd ps (spL K C (F i)) ∧ Binds K fd ps []
  fl : ∀ c fs, (c, fs) ∈ xt.fls → ∃ Ca, CL K c Ca ∧ Cls K Ca ∧ ∀ f ∈ fs, NoAttr K Ca f
  tg : ∀ t ∈ xt.xts, ∃ u, TgF mg t u
  ic : ∀ c t b, (c, t, b) ∈ xt.ics → ∃ Ca Da, IcF K mg c t b Ca Da
  fv : ∀ x ∈ xt.fvs, ∃ f, mg x = some (.ref f) ∧ PySem.W.nsIn K mainGlobals x = some (some (.ref f))
structure XO (Γ : Gx) (L : Lv) (k : Nat) (gl : List D) (F : Fns) (X : Cx) : Prop where
  N : X.N = Γ.N
  sc : X.env.scope = Γ.sc
  nd : X.N.Nodup
  K : X.K = L.K
  rm : Rm X
  room : Room (2 * k + 3) X.A
  tab : Tab X.prog X.w X.K X.mg X.base L.C k Γ.fns Γ.cns Γ.bls Γ.xt gl F
  tk : Takes X (Wx L)

section
variable {X : Cx} {e : Expr} {t t' : TE}
theorem PE.imp (h : PE X e t) (i : ∀ σ H Q, t' σ H Q → t σ H Q) : PE X e t' := ⟨fun pins s σ H Q I q => h.run pins s σ H Q I (i σ H Q q)⟩
theorem PT.imp {t t' : TT} (h : PT X e t) (i : ∀ σ H Q, t' σ H Q → t σ H Q) : PT X e t' := ⟨fun pins s σ H Q I q => h.run pins s σ H Q I (i σ H Q q)⟩
theorem PW.imp {t t' : TT} (h : PW X e t) (i : ∀ σ H Q, t' σ H Q → t σ H Q) : PW X e t' := ⟨fun wh pins s σ H Q I q => h.run wh pins s σ H Q I (i σ H Q q)⟩
theorem PA.imp {es : List Expr} {t t' : TA} (h : PA X es t) (i : ∀ σ H Q, t' σ H Q → t σ H Q) : PA X es t' := ⟨fun p pins s σ H Q I q => h.run p pins s σ H Q I (i σ H Q q)⟩
theorem PI.imp {tg : Expr} {t t' : TI} (h : PI X tg e t) (i : ∀ σ H Q, t' σ H Q → t σ H Q) : PI X tg e t' := ⟨fun pins s σ H Q I q => h.run pins s σ H Q I (i σ H Q q)⟩
end

/-- what the soundness of an expression is -/
structure Snd (L : Lv) (gl : List D) (F : Fns) (X : Cx) (c : CE) (e : Expr) : Prop where
  pe : PE X e (Lx L (wE gl F c))
  pt : PT X e (Lt L (wE gl F c))
  pw : ∀ op vs pos, e = .BoolOp op vs pos → PW X e (Lt L (wE gl F c))

section
variable {Γ : Gx} {L : Lv} {k : Nat} {gl : List D} {F : Fns} {X : Cx} {c : CE} {e : Expr}
theorem Snd.of (h : PE X e (Lx L (wE gl F c))) (he : ∀ whole, isTrue e X.env whole = (do let v ← whole; standAt e.pos; holding [v] (truthy v))) (hb : ∀ op vs pos, e ≠ .BoolOp op vs pos) : Snd L gl F X c e := by
  refine ⟨h, PT.imp (pt_val h he) fun σ H Q ⟨s, h, Q0, le, rs, rh, hw, hq⟩ => ⟨s, h, asB Q0, le, rs, rh, hw, fun d h' q v H' l rd rh' => ?_⟩, fun op vs pos q => absurd q (hb _ _ _)⟩
  unfold asB at q
  split at q
  · cases rd
    exact ⟨_, rfl, hq _ _ q _ l rh'⟩
  · exact q.elim
theorem asB_rd {K : PySem.W.Frag} {H : Hp} {Q : Bool → DH → Prop} {d : D} {v : V} {h : DH} (r : RD K H v d) (q : asB Q d h) : ∃ b, v = .bl b ∧ d = .bl b ∧ Q b h := by
  unfold asB at q
  split at q
  · cases r
    exact ⟨_, rfl, rfl, q⟩
  · exact q.elim
theorem okN_1 {x : Str} (h : okN x = true) : (x == ("__debug__" : Str)) = false := by
  unfold okN at h
  cases q : (x == ("__debug__" : Str)) with
  | false => rfl
  | true => rw [q] at h; simp at h
theorem okN_2 {x : Str} (h : okN x = true) : (x == ("__classdict__" : Str)) = false := by
  unfold okN at h
  cases q : (x == ("__classdict__" : Str)) with
  | false => rfl
  | true => rw [q] at h; simp at h
theorem visB_ok {sc : Scope} {x : Str} (h : visB sc x = true) : Vis sc x := by
  unfold visB at h
  split at h
  · exact .inl (by assumption)
  · exact .inr (.inl (by assumption))
  · exact .inr (.inr (by assumption))
  · cases h
theorem glB_ok {sc : Scope} {x : Str} (h : glB sc x = true) : sc.names.lookup x = some .globalImplicit := by
  unfold glB at h
  split at h
  · assumption
  · cases h
theorem XO.glo (O : XO Γ L k gl F X) {x : Str} (h : glB Γ.sc x = true) : Gl X x := by
  show X.env.scope.names.lookup x = some .globalImplicit
  rw [O.sc]; exact glB_ok h
theorem XO.blo (O : XO Γ L k gl F X) {x : Str} (h : Γ.bls.contains x = true) : X.mg x = none := O.tab.bl x (by simpa using h)
theorem nomarkS {b : Expr} {op : CmpOp} (h : notSet b = true) : behindInMarks op b = false := by
  cases b <;> first | rfl | exact absurd h Bool.false_ne_true
theorem nofold {b : Expr} {env : Env} (h : notSet b = true) : ∀ x, foldedSetIterable b env x = pure x := by
  intro x
  cases b <;> first | rfl | exact absurd h Bool.false_ne_true
theorem star1 {e : Expr} {es : List Expr} {env : Env} (h : notStar e = true) : starEach (e :: es) env = (false, eval e env) :: starEach es env := by
  cases e <;> first | rfl | exact absurd h Bool.false_ne_true
theorem plainIx {b : Expr} (h : notSlice b = true) : PlainIx b := by
  intro o i
  cases b <;> first | rfl | exact absurd h Bool.false_ne_true
theorem ab_of {o : Expr} {a : Str} {env : Env} {w : Sem Value} (h : notCall0 o = true) : attributeBase o a env w = w := by
  cases o with
  | Call f args kw pos =>
    cases args with
    | nil => exact absurd h Bool.false_ne_true
    | cons x xs => cases f <;> rfl
  | _ => rfl
theorem chks_star {Γ : Gx} : ∀ {cs : CEs} {es : List Expr}, chks Γ cs es = true → es.all notStar = true
  | .nil, [], _ => rfl
  | .nil, _ :: _, h => by simp [chks] at h
  | .cons _ _, [], h => by simp [chks] at h
  | .cons c cs, e :: es, h => by
    simp only [chks, Bool.and_eq_true] at h
    rw [List.all_cons, Bool.and_eq_true]
    exact ⟨h.1.1, chks_star h.2⟩
theorem stars_plain {env : Env} {pos : Pos} : ∀ {es : List Expr}, es.all notStar = true → (backTo pos (starEach es env)).any (·.1) = false
  | [], _ => rfl
  | e :: es, h => by
    rw [List.all_cons, Bool.and_eq_true] at h
    rw [star1 h.1]
    show (false || (backTo pos (starEach es env)).any (·.1)) = false
    rw [stars_plain h.2]; rfl
theorem stars_all {env : Env} {pos : Pos} : ∀ {es : List Expr}, es.all notStar = true → (backTo pos (starEach es env)).all (fun x => !x.1) = true
  | [], _ => rfl
  | e :: es, h => by
    rw [List.all_cons, Bool.and_eq_true] at h
    rw [star1 h.1]
    show (true && (backTo pos (starEach es env)).all (fun x => !x.1)) = true
    rw [stars_all h.2]; rfl
end

/-! ### what is no more written -/
def zQ (z : Bool) (Q : QD) : QD := match z with
  | true => fun d h => wFrz d h Q
  | false => Q
def fzV (Q : VK) : VK := fun v H => Q v H ∨ ∃ a u, v = .ref a ∧ H a = some u ∧ Mut (some u) ∧ ∀ od, Q v (upd H a (.frz od u))
theorem al_z {z : Bool} {o : DO} {h : DH} {Q : QD} (q : al z o h Q) : al false o h (zQ z Q) := match z, q with
  | true, q => al_frz q
  | false, q => q
theorem wBin_z {z : Bool} {op : Operator} {x y : D} {h : DH} {Q : QD} (q : wBin z op x y h Q) : wBin false op x y h (zQ z Q) := match z, q with
  | true, q => wBin_frz q
  | false, q => q
theorem wSlc_z {z : Bool} {x : D} {lo hi : Option Int} {h : DH} {Q : QD} (q : wSlc z x lo hi h Q) : wSlc false x lo hi h (zQ z Q) := match z, q with
  | true, q => wSlc_frz q
  | false, q => q
theorem wB_z {z : Bool} {b : Blt} (hb : (!z || b == .sorted || b == .list || b == .dict) = true) {xs : List D} {h : DH} {Q : QD} (q : wB z b xs h Q) : wB false b xs h (zQ z Q) := match z, q with
  | true, q => wB_frz (by simpa [or_assoc] using hb) q
  | false, q => q
theorem wM_z {z : Bool} {m : Mtd} (hb : (!z || m == .split) = true) {d : D} {xs : List D} {h : DH} {Q : QD} (q : wM z m d xs h Q) : wM false m d xs h (zQ z Q) := match z, q with
  | true, q => by
    have hm : m = .split := by simpa using hb
    subst hm
    unfold wM at q ⊢
    split at q
    · split at q
      · unfold wML at q; split at q <;> first | (exact q.elim) | simp_all
      · unfold wMD at q; split at q <;> first | (exact q.elim) | simp_all
      · unfold wMD at q; split at q <;> first | (exact q.elim) | simp_all
      · exact q.elim
    · unfold wMS at q ⊢
      split at q <;> first | (exact q.elim) | (exact ⟨q.1, q.2.1, al_frz q.2.2⟩) | simp_all
    · unfold wMF at q; split at q <;> first | (exact q.elim) | simp_all
    · unfold wMF at q; split at q <;> first | (exact q.elim) | simp_all
    · exact q.elim
  | false, q => q
theorem zq_LQ {K : PySem.W.Frag} {C : CA} {H : Hp} {h : DH} {Q : VK} {Q0 : QD} {z : Bool} (hq : ∀ d h', Q0 d h' → LQ K C H h Q d h') : ∀ d h', zQ z Q0 d h' → LQ K C H h (fzV Q) d h' := by
  intro d h1 q v H1 l1 r1 rh1
  cases z with
  | false => exact .inl (hq _ _ q v H1 l1 r1 rh1)
  | true =>
    replace q : wFrz d h1 Q0 := q
    unfold wFrz at q
    split at q
    · rename_i a
      cases r1
      split at q
      · rename_i o ho
        obtain ⟨w, e1, m, rd⟩ := frz_rd (rh1 _ _ ho)
        exact .inr ⟨a, w, rfl, e1, m, fun od => hq _ _ q _ _ (l1.trans (Ste.lock e1 m (by rw [ho]; exact fun z => nomatch z))) (rd od) (rh1.lock e1 m)⟩
      · exact .inl (hq _ _ q _ _ l1 (.ref a) rh1)
    · exact .inl (hq _ _ q _ _ l1 r1 rh1)
theorem pe_fz {X : Cx} {e : Expr} {t : TE} (h : PE X e t) : PE X e (fun σ H Q => t σ H (fzV Q)) := by
  refine ⟨fun pins s0 σ H Q I q => ?_⟩
  refine thn (h.run pins s0 σ H _ I q) fun u s1 ⟨v, H1, I1, rv, q1⟩ => ?_
  rcases q1 with q1 | ⟨a, w, ev, e1, m, q1⟩
  · exact ⟨v, H1, I1, rv, q1⟩
  · obtain ⟨od, I2⟩ := I1.lock e1 m
    exact ⟨v, _, I2, rv, q1 od⟩
theorem ps_fz {X : Cx} {st : Stmt} {t : TS} (h : PS X st t) : PS X st (fun E σ H => t { E with nx := fun σ' H' => E.nx σ' H' ∨ ∃ a u, H' a = some u ∧ Mut (some u) ∧ ∀ od, E.nx σ' (upd H' a (.frz od u)) } σ H) := by
  refine ⟨fun pins s0 σ H E I q => ?_⟩
  refine thn (h.run pins s0 σ H _ I q) fun f s1 q1 => ?_
  cases f with
  | next =>
    obtain ⟨σ', H', I2, q⟩ := q1
    rcases q with q | ⟨a, w, e1, m, q⟩
    · exact ⟨σ', H', I2, q⟩
    · obtain ⟨od, I3⟩ := I2.lock e1 m
      exact ⟨σ', _, I3, q od⟩
  | brk => exact q1
  | cont => exact q1
  | ret v => exact q1

/-! ### iterators -/
section
variable {L : Lv} {H1 : Hp}
theorem itr_lst {a : Addr} {K : PySem.W.Frag} (hK : K = L.K) : ItR L H1 (.lst a) (Itl K a) := by
  subst hK
  intro i H h l rh
  unfold nextD
  split
  · trivial
  · rename_i e
    split at e
    · rename_i xs ha
      have e : xs[i]? = none := Option.some.inj e
      obtain ⟨vs, h1, r1⟩ := rh _ _ ha
      refine ⟨vs, .inl (.inl h1), ?_⟩
      have := r1.length
      have := List.getElem?_eq_none_iff.mp e
      omega
    · cases e
  · rename_i d e
    split at e
    · rename_i xs ha
      have e : xs[i]? = some d := Option.some.inj e
      obtain ⟨vs, h1, r1⟩ := rh _ _ ha
      obtain ⟨v, e2, rv⟩ := r1.get e
      refine ⟨⟨vs, v, .inl (.inl h1), e2⟩, fun x H' ⟨e3, y⟩ => ?_⟩
      subst e3
      have e4 := y vs (.inl (.inl h1))
      rw [e2] at e4; cases e4
      exact ⟨.refl, rv, rh⟩
    · cases e
theorem itr_fixL {a : Addr} {K : PySem.W.Frag} {vs : List V} {xs : List D} (hK : K = L.K) (s : FL L.K H1 a vs) (r : RDs L.K H1 vs xs) : ItR L H1 (.fix xs) (Itl K a) := by
  subst hK
  intro i H h l rh
  unfold nextD
  have s' := (l.fl s).seq
  have r' := r.le l
  split
  · trivial
  · rename_i e
    have e : xs[i]? = none := Option.some.inj e
    refine ⟨vs, s', ?_⟩
    have := r'.length
    have := List.getElem?_eq_none_iff.mp e
    omega
  · rename_i d e
    have e : xs[i]? = some d := Option.some.inj e
    obtain ⟨v, e2, rv⟩ := r'.get e
    refine ⟨⟨vs, v, s', e2⟩, fun x H' ⟨e3, y⟩ => ?_⟩
    subst e3
    have e4 := y vs s'
    rw [e2] at e4; cases e4
    exact ⟨.refl, rv, rh⟩
theorem itr_fixT {a : Addr} {K : PySem.W.Frag} {vs : List V} {xs : List D} (hK : K = L.K) (s : SqT L.K H1 a vs) (r : RDs L.K H1 vs xs) : ItR L H1 (.fix xs) (Itt K a) := by
  subst hK
  intro i H h l rh
  unfold nextD
  have s' := l.sqT s
  have r' := r.le l
  split
  · trivial
  · rename_i e
    have e : xs[i]? = none := Option.some.inj e
    refine ⟨vs, s', ?_⟩
    have := r'.length
    have := List.getElem?_eq_none_iff.mp e
    omega
  · rename_i d e
    have e : xs[i]? = some d := Option.some.inj e
    obtain ⟨v, e2, rv⟩ := r'.get e
    refine ⟨⟨vs, v, s', e2⟩, fun x H' ⟨e3, y⟩ => ?_⟩
    subst e3
    have e4 := y vs s'
    rw [e2] at e4; cases e4
    exact ⟨.refl, rv, rh⟩
theorem itr_rng {lo : Int} {n : Nat} : ItR L H1 (.rng lo n) (Itr lo n) := by
  intro i H h l rh
  unfold nextD
  by_cases q : i < n
  · rw [if_pos q]
    exact ⟨q, fun x H' ⟨e1, e2⟩ => by subst e1 e2; exact ⟨.refl, .int _, rh⟩⟩
  · rw [if_neg q]
    exact Nat.le_of_not_lt q
theorem itr_rgc {lo c : Int} {n : Nat} : ItR L H1 (.rgc lo c n) (Itc lo c n) := by
  intro i H h l rh
  unfold nextD
  by_cases q : i < n
  · rw [if_pos q]
    exact ⟨q, fun x H' ⟨e1, e2⟩ => by subst e1 e2; exact ⟨.refl, .int _, rh⟩⟩
  · rw [if_neg q]
    exact Nat.le_of_not_lt q
theorem rgC_up {i j c : Int} (hi : -(2 ^ 40) ≤ i) (hi' : i < 2 ^ 40) (hj : -(2 ^ 40) ≤ j) (hj' : j < 2 ^ 40) (hc : 1 ≤ c) (hc' : c ≤ 1000) : RgC i j c (rgN i j c) := by
  have sz : Builtin.Range.rangeSize i j c = (rgN i j c : Int) := by
    unfold Builtin.Range.rangeSize rgN
    rw [if_pos (by omega)]
    split
    · have : 0 ≤ (j - i - 1) / c := Int.ediv_nonneg (by omega) (by omega)
      omega
    · rfl
  refine ⟨by omega, by omega, ?_, sz⟩
  unfold Builtin.Range.small
  rw [sz]
  have nn : (rgN i j c : Int) ≤ 2 ^ 41 := by
    unfold rgN
    split
    · have h1 : (j - i - 1) / c ≤ j - i - 1 := Int.ediv_le_self _ (by omega)
      have h2 : 0 ≤ (j - i - 1) / c := Int.ediv_nonneg (by omega) (by omega)
      omega
    · decide
  have n0 : (0 : Int) ≤ (rgN i j c : Int) := Int.natCast_nonneg _
  generalize (rgN i j c : Int) = m at nn n0
  simp only [Builtin.Range.rangeFitsLong, Bool.and_eq_true, Bool.or_eq_true, decide_eq_true_eq, beq_iff_eq, if_pos (show c > 0 by omega)]
  omega
theorem itr_str {x : Str} : ItR L H1 (.str x) (Its x) := by
  intro i H h l rh
  unfold nextD
  cases e : x.cps[i]? with
  | none =>
    show x.cps.size ≤ i
    exact Array.getElem?_eq_none_iff.mp e
  | some c =>
    refine ⟨?_, fun v H' ⟨e1, c', e2, e3⟩ => ?_⟩
    · exact (Array.getElem?_eq_some_iff.mp e).1
    · subst e1 e3
      rw [e] at e2; cases e2
      exact ⟨.refl, .str _, rh⟩
/-- lists at an address: what a list-like walked thing knows -/
def LSrc (L : Lv) (H1 : Hp) (J : DIt) (a : Addr) : Prop := ∀ i H h, Le H1 H → RH L.K L.C H h → match nextD J i h with
  | none => True
  | some none => ∃ vs, SqL L.K H a vs ∧ vs.length ≤ i
  | some (some d) => ∃ vs v, SqL L.K H a vs ∧ vs[i]? = some v ∧ RD L.K H v d
def TSrc (L : Lv) (H1 : Hp) (J : DIt) (a : Addr) : Prop := ∀ i H h, Le H1 H → RH L.K L.C H h → match nextD J i h with
  | none => True
  | some none => ∃ vs, SqT L.K H a vs ∧ vs.length ≤ i
  | some (some d) => ∃ vs v, SqT L.K H a vs ∧ vs[i]? = some v ∧ RD L.K H v d
theorem isSeqL_rd {d : D} {h : DH} {J : DIt} {v : V} {H : Hp} (rh : RH L.K L.C H h) (r : RD L.K H v d) (e : isSeqL d h = some J) : ∃ a vs, v = .ref a ∧ SqL L.K H a vs ∧ ∀ H1, Le H H1 → ItR L H1 J (Itl L.K a) ∧ LSrc L H1 J a := by
  unfold isSeqL at e
  split at e
  · cases e
    cases r with
    | fl s r =>
      refine ⟨_, _, rfl, s.seq, fun H1 l => ⟨itr_fixL rfl (l.fl s) (r.le l), fun i H h l2 rh => ?_⟩⟩
      have s' := (l2.fl (l.fl s)).seq
      have r' := (r.le l).le l2
      unfold nextD
      split
      · trivial
      · rename_i e
        have := r'.length
        have := List.getElem?_eq_none_iff.mp (Option.some.inj e)
        exact ⟨_, s', by omega⟩
      · rename_i d e
        obtain ⟨v, e2, rv⟩ := r'.get (Option.some.inj e)
        exact ⟨_, v, s', e2, rv⟩
  · cases r
    split at e
    · rename_i xs ha
      cases e
      obtain ⟨vs, h1, r1⟩ := rh _ _ ha
      refine ⟨_, vs, rfl, .inl (.inl h1), fun H1 l => ⟨itr_lst rfl, fun i H h l2 rh => ?_⟩⟩
      unfold nextD
      split
      · trivial
      · rename_i e
        split at e
        · rename_i ys ha
          obtain ⟨vs, h1, r1⟩ := rh _ _ ha
          have := r1.length
          have := List.getElem?_eq_none_iff.mp (Option.some.inj e)
          exact ⟨vs, .inl (.inl h1), by omega⟩
        · cases e
      · rename_i d e
        split at e
        · rename_i ys ha
          obtain ⟨vs, h1, r1⟩ := rh _ _ ha
          obtain ⟨v, e2, rv⟩ := r1.get (Option.some.inj e)
          exact ⟨vs, v, .inl (.inl h1), e2, rv⟩
        · cases e
    · cases e
  · cases e
theorem isSeqT_rd {d : D} {J : DIt} {v : V} {H : Hp} (r : RD L.K H v d) (e : isSeqT d = some J) : ∃ a vs, v = .ref a ∧ SqT L.K H a vs ∧ ∀ H1, Le H H1 → ItR L H1 J (Itt L.K a) ∧ TSrc L H1 J a := by
  have go : ∀ {a : Addr} {vs : List V} {xs : List D}, SqT L.K H a vs → RDs L.K H vs xs → ∀ H1, Le H H1 → ItR L H1 (.fix xs) (Itt L.K a) ∧ TSrc L H1 (.fix xs) a := by
    intro a vs xs s r H1 l
    refine ⟨itr_fixT rfl (l.sqT s) (r.le l), fun i H h l2 rh => ?_⟩
    have s' := l2.sqT (l.sqT s)
    have r' := (r.le l).le l2
    unfold nextD
    split
    · trivial
    · rename_i e
      have := r'.length
      have := List.getElem?_eq_none_iff.mp (Option.some.inj e)
      exact ⟨_, s', by omega⟩
    · rename_i d e
      obtain ⟨v, e2, rv⟩ := r'.get (Option.some.inj e)
      exact ⟨_, v, s', e2, rv⟩
  unfold isSeqT at e
  split at e
  · cases e
    cases r with
    | tup s r => exact ⟨_, _, rfl, .inl (.inl s), go (.inl (.inl s)) r⟩
  · cases e
    cases r with
    | kt s _ r => exact ⟨_, _, rfl, s, go s r⟩
  · cases e
theorem itr_enm {J : DIt} {a : Addr} (s : LSrc L H1 J a) : ItR L H1 (.enm J) (Ite L.K a) := by
  intro i H h l rh
  have q := s i H h l rh
  unfold nextD
  split
  · trivial
  · rename_i e
    split at e
    · cases e
    · rw [e] at q
      exact q
  · rename_i d e
    split at e
    · rename_i z hz
      rw [hz] at q
      cases e
      obtain ⟨vs, v, s1, e1, rv⟩ := q
      refine ⟨⟨vs, v, s1, e1⟩, fun x H' ⟨T, y, ex, nT, eH, f⟩ => ?_⟩
      subst ex eH
      have e4 := f vs s1
      rw [e1] at e4; cases e4
      exact ⟨Ste.side nT, .tup upd_same (.cons (.int _) (.cons (rv.le (Le.new nT)) .nil)), rh.side nT⟩
    · rename_i hz
      exact absurd e (hz d)
theorem LSrc.any {J : DIt} {a : Addr} (s : LSrc L H1 J a) {i : Nat} {H : Hp} {h : DH} {r : Option D} (l : Le H1 H) (rh : RH L.K L.C H h) (e : nextD J i h = some r) : ∃ vs, SqL L.K H a vs := by
  have q := s i H h l rh
  rw [e] at q
  cases r with
  | none => exact ⟨_, q.choose_spec.1⟩
  | some d => exact ⟨_, q.choose_spec.choose_spec.1⟩
theorem itr_zipL {J J' : DIt} {a b : Addr} (s : LSrc L H1 J a) (s' : LSrc L H1 J' b) : ItR L H1 (.zip J J') (Itz L.K a b) := by
  intro i H h l rh
  have q := s i H h l rh
  have q' := s' i H h l rh
  unfold nextD
  split
  · trivial
  · rename_i e
    split at e
    · cases e
    · rename_i e1 e2
      obtain ⟨ys, hy⟩ := s'.any l rh e2
      rw [e1] at q
      obtain ⟨vs, s1, hl⟩ := q
      exact ⟨vs, ys, s1, hy, .inl hl⟩
    · rename_i e1 e2
      obtain ⟨xs, hx⟩ := s.any l rh e1
      rw [e2] at q'
      obtain ⟨vs, s1, hl⟩ := q'
      exact ⟨xs, vs, hx, s1, .inr hl⟩
    · cases e
  · rename_i d e
    split at e
    · rename_i z z' e1 e2
      rw [e1] at q
      rw [e2] at q'
      cases e
      obtain ⟨vs, v, s1, f1, rv⟩ := q
      obtain ⟨ws, u, s2, f2, ru⟩ := q'
      refine ⟨⟨vs, ws, v, u, s1, s2, f1, f2⟩, fun x H' ⟨T, y, y', ex, nT, eH, g1, g2⟩ => ?_⟩
      subst ex eH
      have e4 := g1 vs s1
      rw [f1] at e4; cases e4
      have e5 := g2 ws s2
      rw [f2] at e5; cases e5
      exact ⟨Ste.side nT, .tup upd_same (.cons (rv.le (Le.new nT)) (.cons (ru.le (Le.new nT)) .nil)), rh.side nT⟩
    · cases e
    · cases e
    · cases e
theorem TSrc.any {J : DIt} {a : Addr} (s : TSrc L H1 J a) {i : Nat} {H : Hp} {h : DH} {r : Option D} (l : Le H1 H) (rh : RH L.K L.C H h) (e : nextD J i h = some r) : ∃ vs, SqT L.K H a vs := by
  have q := s i H h l rh
  rw [e] at q
  cases r with
  | none => exact ⟨_, q.choose_spec.1⟩
  | some d => exact ⟨_, q.choose_spec.choose_spec.1⟩
theorem itr_zipT {J J' : DIt} {a b : Addr} (s : TSrc L H1 J a) (s' : TSrc L H1 J' b) : ItR L H1 (.zip J J') (RZ.ItzT L.K a b) := by
  intro i H h l rh
  have q := s i H h l rh
  have q' := s' i H h l rh
  unfold nextD
  split
  · trivial
  · rename_i e
    split at e
    · cases e
    · rename_i e1 e2
      obtain ⟨ys, hy⟩ := s'.any l rh e2
      rw [e1] at q
      obtain ⟨vs, s1, hl⟩ := q
      exact ⟨vs, ys, s1, hy, .inl hl⟩
    · rename_i e1 e2
      obtain ⟨xs, hx⟩ := s.any l rh e1
      rw [e2] at q'
      obtain ⟨vs, s1, hl⟩ := q'
      exact ⟨xs, vs, hx, s1, .inr hl⟩
    · cases e
  · rename_i d e
    split at e
    · rename_i z z' e1 e2
      rw [e1] at q
      rw [e2] at q'
      cases e
      obtain ⟨vs, v, s1, f1, rv⟩ := q
      obtain ⟨ws, u, s2, f2, ru⟩ := q'
      refine ⟨⟨vs, ws, v, u, s1, s2, f1, f2⟩, fun x H' ⟨T, y, y', ex, nT, eH, g1, g2⟩ => ?_⟩
      subst ex eH
      have e4 := g1 vs s1
      rw [f1] at e4; cases e4
      have e5 := g2 ws s2
      rw [f2] at e5; cases e5
      exact ⟨Ste.side nT, .tup upd_same (.cons (rv.le (Le.new nT)) (.cons (ru.le (Le.new nT)) .nil)), rh.side nT⟩
    · cases e
    · cases e
    · cases e
end
end DL

/-! zip of two things, each a list or a tuple -/
namespace DL
open PySem PySem.Spec PyProof.Rows L2
/-- true: a tuple, false: a list -/
def SqK (t : Bool) (K : PySem.W.Frag) (H : Hp) (a : Addr) (xs : List V) : Prop := match t with
  | true => SqT K H a xs
  | false => SqL K H a xs
def isSq (t : Bool) (h : Heap) (l : Addr) (xs : Array Value) : Prop := match t with
  | true => h.IsTuple l xs
  | false => h.IsList l xs
def isIt (t : Bool) (h : Heap) (it l : Addr) (i : Nat) : Prop := match t with
  | true => h.IsTupleIter it l i
  | false => h.IsListIter it l i
theorem isIt.at {t : Bool} {h h' : Heap} {it l : Addr} {i : Nat} (q : isIt t h it l i) (k : ∀ o, h.get? it = some o → h'.get? it = some o) : isIt t h' it l i := by
  cases t with
  | true => exact Heap.IsTupleIter.at q k
  | false => exact Heap.IsListIter.at q k
theorem isIt.obj {t : Bool} {h : Heap} {it l : Addr} {i : Nat} (q : isIt t h it l i) : ∃ o, h.get? it = some o ∧ ∀ v, o.data ≠ .cell v := by
  cases t with
  | true =>
    obtain ⟨o, e, _, d⟩ := q
    exact ⟨o, e, fun v z => by rw [d] at z; cases z⟩
  | false =>
    obtain ⟨o, e, _, d⟩ := q
    exact ⟨o, e, fun v z => by rw [d] at z; cases z⟩
theorem drawsK {prog : Program} {w : World} {A : Around} (t : Bool) (hh : A.handled = none) (it l : Addr) (ne : l ≠ it) (items : Array Value) :
    Draws prog w A it [it, l] items.size (fun i v => items[i]? = some v) (fun i h => isIt t h it l i ∧ isSq t h l items) := by
  cases t with
  | true => exact Draws.tuple hh it l ne items
  | false => exact Draws.list hh it l ne items
/-- .. at its end -/
theorem drawsE {prog : Program} {w : World} {A : Around} (t : Bool) (hh : A.handled = none) (it l : Addr) (k : Nat) (items : Array Value) (hk : items[k]? = none) :
    Draws prog w A it [it, l] k (fun i v => items[i]? = some v) (fun i h => i = k ∧ isIt t h it l i ∧ isSq t h l items) where
  live := fun i h st => by
    obtain ⟨o, e, _⟩ := st.2.1.obj
    exact ⟨o, e⟩
  frame := fun i h h' st hk => by
    obtain ⟨e, a, b⟩ := st
    refine ⟨e, a.at fun o q => hk it (by simp) o q, ?_⟩
    cases t with
    | true => exact Heap.IsTuple.at b fun o q => hk l (by simp) o q
    | false => exact Heap.IsList.at b fun o q => hk l (by simp) o q
  item := fun i s Q E hi st hQ => absurd hi (by rw [st.1]; exact Nat.lt_irrefl _)
  done := fun s Q E st hE => by
    cases t with
    | true => exact wpAny_nextOf_tuple_end hh st.2.1 st.2.2 hk hE
    | false => exact wpAny_nextOf_list_end hh st.2.1 st.2.2 hk hE
section
variable {X : Cx} {pins : List (Addr × Obj)} {σ : L2.St} {H : Hp} {s : Shared}
theorem Inv_sqK {t : Bool} {a : Addr} {xs : List V} (I : Inv X pins σ H s) (q : SqK t X.K H a xs) : ∃ its : List Value, Vals xs its ∧ isSq t s.heap a its.toArray ∧ a < s.heap.objs.size := by
  cases t with
  | true =>
    obtain ⟨its, rv, p, _⟩ := I.tuple q
    obtain ⟨o, ho, _⟩ := id p
    exact ⟨its, rv, p, Heap.lt_size ho⟩
  | false =>
    obtain ⟨its, rv, p, _⟩ := I.list q
    exact ⟨its, rv, p.isList, p.lt⟩
theorem Inv_injK {t : Bool} {a : Addr} {xs ys : List V} (I : Inv X pins σ H s) (q : SqK t X.K H a xs) (q' : SqK t X.K H a ys) : xs = ys := by
  cases t with
  | true => exact I.tuple_inj q q'
  | false => exact I.list_inj q q'
end
def ItzK (t1 t2 : Bool) (K : PySem.W.Frag) (a b : Addr) : It :=
  ⟨fun i H => ∃ (xs ys : List V) (x y : V), SqK t1 K H a xs ∧ SqK t2 K H b ys ∧ xs[i]? = some x ∧ ys[i]? = some y,
    fun i H v H' => ∃ T x y, v = .ref T ∧ H T = none ∧ H' = upd H T (.tup [x, y]) ∧ (∀ xs, SqK t1 K H a xs → xs[i]? = some x) ∧ ∀ ys, SqK t2 K H b ys → ys[i]? = some y,
    fun i H => ∃ xs ys : List V, SqK t1 K H a xs ∧ SqK t2 K H b ys ∧ (xs.length ≤ i ∨ ys.length ≤ i)⟩
theorem sep_of {z TI TO i1 i2 l1 l2 : Addr} (D : ZipApart z TI TO i1 i2 l1 l2) : ZipSep2 z TI TO i1 i2 [i1, l1] [i2, l2] where
  TIz := D.TIz
  TOz := D.TOz
  TITO := D.TITO
  TIi1 := D.TIi1
  mem1 := by simp
  zf1 := by simp [D.i1z.symm, D.l1z.symm]
  Tf1 := by simp [D.TOi1, D.l1TO.symm]
  TIi2 := D.TIi2
  mem2 := by simp
  zf2 := by simp [D.i2z.symm, D.l2z.symm]
  Tf2 := by simp [D.TOi2, D.l2TO.symm]
  sep1_2 := by simp [D.i12, D.l2i1.symm]
  sep2_1 := by simp [D.i12.symm, D.l1i2.symm]
theorem turn_zipK {P : Program} {w : World} {K : PySem.W.Frag} {elts : List Expr} {kk : Nat} {tpos : Pos} {a b z TI TO i1 i2 : Addr} (t1 t2 : Bool) (D : ZipApart z TI TO i1 i2 a b) :
    Turn P w K (.Tuple elts kk tpos) (ItzK t1 t2 K a b) [z, TI, TO, i1, i2] z (fun i h => IsZip h z TI TO .none ∧ IsPair h TI (.ref i1) (.ref i2) ∧ (∃ x y, IsPair h TO x y) ∧ isIt t1 h i1 a i ∧ isIt t2 h i2 b i) where
  mem := by simp
  obj := fun i h st c hc => by
    obtain ⟨hz, hTI, ⟨x, y, hTO⟩, h1, h2⟩ := st
    have e' : c = z ∨ c = TI ∨ c = TO ∨ c = i1 ∨ c = i2 := by simpa using hc
    rcases e' with q | q | q | q | q
    · rw [q]; exact ⟨_, hz, fun v q => nomatch q⟩
    · rw [q]; exact ⟨_, hTI, fun v q => nomatch q⟩
    · rw [q]; exact ⟨_, hTO, fun v q => nomatch q⟩
    · rw [q]; exact h1.obj
    · rw [q]; exact h2.obj
  keep := fun i h h' st k => by
    obtain ⟨hz, hTI, ⟨x, y, hTO⟩, h1, h2⟩ := st
    exact ⟨k z (by simp) _ hz, k TI (by simp) _ hTI, ⟨x, y, k TO (by simp) _ hTO⟩, h1.at fun o q => k i1 (by simp) o q, h2.at fun o q => k i2 (by simp) o q⟩
  item := by
    intro X hP hw hK hc i pins s σ H E I hf st hg
    subst hP hw hK
    obtain ⟨hz, hTI, ⟨x0, y0, hTO⟩, h1, h2⟩ := st
    obtain ⟨xs, ys, x, y, hqx, hqy, hx, hy⟩ := hg
    obtain ⟨its, rv, p, _⟩ := Inv_sqK I hqx
    obtain ⟨its2, rv2, p2, _⟩ := Inv_sqK I hqy
    obtain ⟨u, hu, ru⟩ := rv.get hx
    obtain ⟨u2, hu2, ru2⟩ := rv2.get hy
    have hzl : z < s.heap.objs.size := Heap.lt_size hz
    have hh : X.A.in1.handled = none := I.ok.hd hc
    have n1 : i < its.toArray.size := by
      have := (List.getElem?_eq_some_iff.mp hu).1
      simpa using this
    have n2 : i < its2.toArray.size := by
      have := (List.getElem?_eq_some_iff.mp hu2).1
      simpa using this
    refine wpAny_pyNext_zipD2_item (sep_of D) (drawsK t1 hh i1 a D.l1i1 its.toArray) (drawsK t2 hh i2 b D.l2i2 its2.toArray) hz hTI hTO ⟨h1, p⟩ ⟨h2, p2⟩ n1 n2 fun x1 x2 h' tk e1 e2 z' TO' s1' s2' hT hsz hk => ?_
    have e1 : its[i]? = some x1 := by simpa using e1
    have e2 : its2[i]? = some x2 := by simpa using e2
    rw [hu] at e1
    rw [hu2] at e2
    cases e1
    cases e2
    refine ⟨_, rfl, wpAny_letOwnedTupleGo_zip (s := { s with heap := h', toks := tk }) z' fun h'' z'' sb => ?_⟩
    have hT2 : h''.get? s.heap.objs.size = some { cls := .type "tuple", data := .seq #[u, u2] } := (sb.2 _ (Nat.ne_of_gt hzl)).trans hT
    have new : ObjOk X.prog X.w (upd H s.heap.objs.size (.tup [x, y])) h'' s.heap.objs.size (.tup [x, y]) :=
      ⟨by show 2 ≤ sizeLine; decide, [u, u2], .cons ru (.cons ru2 .nil), ⟨_, hT2, rfl, _, rfl⟩⟩
    have I1 : Inv X pins σ (upd H s.heap.objs.size (.tup [x, y])) { s with heap := h'', toks := tk } :=
      I.turnedNew (t' := tk) (ch := [z, TI, TO, i1, i2]) (fun c o hb q => (sb.2 c (fun q' => hb (by simp [q']))).trans (hk c o (fun q' => hb (by simp [q'])) (fun q' => hb (by simp [q'])) (fun q' => hb (by simp [q'])) (fun q' => hb (by simp [q'])) q)) hf (Nat.le_refl _) new
    refine ⟨.ref s.heap.objs.size, _, I1, rfl, ⟨_, x, y, rfl, I.hok.fresh (Nat.le_refl _), rfl, fun l hl => by rw [Inv_injK I hl hqx]; exact hx, fun l hl => by rw [Inv_injK I hl hqy]; exact hy⟩, ⟨z'', ?_, ⟨u, u2, ?_⟩, ?_, ?_⟩, fun c hcm => ?_⟩
    · exact (sb.2 _ D.TIz).trans (hk _ _ D.TIz D.TITO D.TIi1 D.TIi2 hTI)
    · exact (sb.2 _ D.TOz).trans TO'
    · exact s1'.1.at fun o q => (sb.2 _ D.i1z).trans q
    · exact s2'.1.at fun o q => (sb.2 _ D.i2z).trans q
    · have hlt : c < s.heap.objs.size := by
        have e' : c = z ∨ c = TI ∨ c = TO ∨ c = i1 ∨ c = i2 := by simpa using hcm
        rcases e' with q | q | q | q | q
        · rw [q]; exact hzl
        · rw [q]; exact Heap.lt_size hTI
        · rw [q]; exact Heap.lt_size hTO
        · rw [q]; obtain ⟨_, e1, _⟩ := h1.obj; exact Heap.lt_size e1
        · rw [q]; obtain ⟨_, e2, _⟩ := h2.obj; exact Heap.lt_size e2
      rw [upd_ne (Nat.ne_of_lt hlt)]
      exact (hf c hcm).1
  done := by
    intro X hP hw hK hc i pins s σ H E I hf st hg
    subst hP hw hK
    obtain ⟨hz, hTI, ⟨x0, y0, hTO⟩, h1, h2⟩ := st
    obtain ⟨xs, ys, hqx, hqy, hend⟩ := hg
    obtain ⟨its, rv, p, _⟩ := Inv_sqK I hqx
    obtain ⟨its2, rv2, p2, _⟩ := Inv_sqK I hqy
    have l1 := rv.length
    have l2 := rv2.length
    have hh : X.A.in1.handled = none := I.ok.hd hc
    have fin : ∀ h' tk, (∀ c o, c ≠ z → c ≠ TO → c ≠ i1 → c ≠ i2 → s.heap.get? c = some o → h'.get? c = some o) → (none : Option Value) = none ∧ Inv X pins σ H { s with heap := h', toks := tk } := fun h' tk hk => ⟨rfl, I.turnedL (t' := tk) (ch := [z, TI, TO, i1, i2]) (fun c o hb q =>
      hk c o (fun q' => hb (by simp [q'])) (fun q' => hb (by simp [q'])) (fun q' => hb (by simp [q'])) (fun q' => hb (by simp [q'])) q) hf⟩
    by_cases g1 : xs.length ≤ i
    · have k1 : its.toArray[i]? = none := by simp; omega
      by_cases g2 : ys.length ≤ i
      · have k2 : its2.toArray[i]? = none := by simp; omega
        exact wpAny_pyNext_zipD2_end (sep_of D) (drawsE t1 hh i1 a i its.toArray k1) (drawsE t2 hh i2 b i its2.toArray k2) hz hTI hTO ⟨rfl, h1, p⟩ ⟨rfl, h2, p2⟩ (Nat.le_refl _) (Nat.le_refl _) (.inl rfl) fin
      · exact wpAny_pyNext_zipD2_end (sep_of D) (drawsE t1 hh i1 a i its.toArray k1) (drawsK t2 hh i2 b D.l2i2 its2.toArray) hz hTI hTO ⟨rfl, h1, p⟩ ⟨h2, p2⟩ (Nat.le_refl _) (by simp; omega) (.inl rfl) fin
    · have g2 : ys.length ≤ i := hend.resolve_left g1
      have k2 : its2.toArray[i]? = none := by simp; omega
      exact wpAny_pyNext_zipD2_end (sep_of D) (drawsK t1 hh i1 a D.l1i1 its.toArray) (drawsE t2 hh i2 b i its2.toArray k2) hz hTI hTO ⟨h1, p⟩ ⟨rfl, h2, p2⟩ (by simp; omega) (Nat.le_refl _) (.inr rfl) fin
  self := fun A i s Q E st h => wpAny_pyIter_zip st.1 h
def itO (t : Bool) (l : Addr) : Obj := match t with
  | true => { cls := .type "tuple_iterator", data := .fields #[.ref l, .int 0 0] }
  | false => { cls := .type "list_iterator", data := .fields #[.ref l, .int 0 0] }
theorem isSq.push {t : Bool} {h : Heap} {l : Addr} {xs : Array Value} (q : isSq t h l xs) (o : Obj) : isSq t (h.push o) l xs := by
  cases t with
  | true => exact Heap.IsTuple.push q o
  | false => exact Heap.IsList.push q o
section
variable {prog : Program} {w : World} {A : Around} {E : Value → Shared → Prop} {s : Shared}
theorem pyIterK {t : Bool} {l : Addr} {items : Array Value} {Q : Value → Shared → Prop} (hl : isSq t s.heap l items) (hQ : Q (.ref s.heap.objs.size) { s with heap := s.heap.push (itO t l) }) : wpAny (model prog w) A (pyIter (.ref l)) Q E s := by
  cases t with
  | true => exact wpAny_pyIter_tuple hl hQ
  | false => exact wpAny_pyIter_list hl hQ
theorem itO_is {t : Bool} {h : Heap} {it l : Addr} (e : h.get? it = some (itO t l)) : isIt t h it l 0 := by
  cases t with
  | true => exact ⟨_, e, rfl, rfl⟩
  | false => exact ⟨_, e, rfl, rfl⟩
end
abbrev zh1 (h : Heap) (t1 : Bool) (l1 : Addr) : Heap := h.push (itO t1 l1)
abbrev zh2 (h : Heap) (t1 t2 : Bool) (l1 l2 : Addr) : Heap := (zh1 h t1 l1).push (itO t2 l2)
abbrev zh3 (h : Heap) (t1 t2 : Bool) (l1 l2 : Addr) : Heap := (zh2 h t1 t2 l1 l2).push { cls := .type "tuple", data := .seq #[.ref h.objs.size, .ref (zh1 h t1 l1).objs.size] }
abbrev zh4 (h : Heap) (t1 t2 : Bool) (l1 l2 : Addr) : Heap := (zh3 h t1 t2 l1 l2).push { cls := .type "tuple", data := .seq #[.none, .none] }
abbrev zh5 (h : Heap) (t1 t2 : Bool) (l1 l2 : Addr) : Heap := (zh4 h t1 t2 l1 l2).push { cls := .type "zip", data := .fields #[.none, .bool false, .bool false, .ref (zh2 h t1 t2 l1 l2).objs.size, .ref (zh3 h t1 t2 l1 l2).objs.size] }
theorem meets_zipK (t1 t2 : Bool) (l1 l2 : Addr) (xs ys : Array Value) :
    Meets (Builtin.«zip.__new__» ⟨[.type "zip", .ref l1, .ref l2], []⟩) (fun _ R s => isSq t1 s.heap l1 xs ∧ isSq t2 s.heap l2 ys ∧
      R (.ok (.ret (.ref (zh4 s.heap t1 t2 l1 l2).objs.size))) { s with heap := zh5 s.heap t1 t2 l1 l2 }) :=
  .of_wp fun prog w A R s h => by
    obtain ⟨hp, g, d, tk, os⟩ := s; obtain ⟨hl1, hl2, h⟩ := h
    have hsub := sub_zip
    have hL1 : isSq t1 (Shared.heap ⟨hp, g, d, tk, os⟩) l1 xs := hl1
    have hL2 : isSq t2 (Shared.heap ⟨hp.push (itO t1 l1), g, d, tk, os⟩) l2 ys := isSq.push hl2 _
    wp_walk using pyIterK hL1, pyIterK hL2
    exact ⟨_, rfl, h⟩
section
variable {prog : Program} {w : World} {A : Around} {E : Value → Shared → Prop} {s : Shared}
theorem call_zipK {t1 t2 : Bool} {l1 l2 : Addr} {xs ys : Array Value} {Q : Value → Shared → Prop} (hl1 : isSq t1 s.heap l1 xs) (hl2 : isSq t2 s.heap l2 ys)
    (h : ∀ h', IsZip h' (s.heap.objs.size + 4) (s.heap.objs.size + 2) (s.heap.objs.size + 3) .none → IsPair h' (s.heap.objs.size + 2) (.ref s.heap.objs.size) (.ref (s.heap.objs.size + 1)) →
      IsPair h' (s.heap.objs.size + 3) .none .none → isIt t1 h' s.heap.objs.size l1 0 → isIt t2 h' (s.heap.objs.size + 1) l2 0 → h'.objs.size = s.heap.objs.size + 5 →
      (∀ c o, s.heap.get? c = some o → h'.get? c = some o) → Q (.ref (s.heap.objs.size + 4)) { s with heap := h' }) :
    wpAny (model prog w) A (call (.type "zip") [.ref l1, .ref l2]) Q E s := by
  refine callType_new F.called_zip (by decide) (F.typeCall_zip_2 _ _) (F.newCall_zip_2 _ _) (fun obj => F.args_object_init_3 obj _ _) F.entry_zip_new
    (meets_zipK t1 t2 l1 l2 xs ys) ⟨hl1, hl2, ?_⟩
  have z1 : (zh1 s.heap t1 l1).objs.size = s.heap.objs.size + 1 := Heap.size_push ..
  have z2 : (zh2 s.heap t1 t2 l1 l2).objs.size = s.heap.objs.size + 2 := by rw [Heap.size_push, z1]
  have z3 : (zh3 s.heap t1 t2 l1 l2).objs.size = s.heap.objs.size + 3 := by rw [Heap.size_push, z2]
  have z4 : (zh4 s.heap t1 t2 l1 l2).objs.size = s.heap.objs.size + 4 := by rw [Heap.size_push, z3]
  have z5 : (zh5 s.heap t1 t2 l1 l2).objs.size = s.heap.objs.size + 5 := by rw [Heap.size_push, z4]
  have fr1 : (itO t1 l1).isFreed = false := by cases t1 <;> rfl
  have fr2 : (itO t2 l2).isFreed = false := by cases t2 <;> rfl
  have g5 : (zh5 s.heap t1 t2 l1 l2).get? (zh4 s.heap t1 t2 l1 l2).objs.size = some _ := Heap.get?_push_size _ rfl
  have g4 : (zh5 s.heap t1 t2 l1 l2).get? (zh3 s.heap t1 t2 l1 l2).objs.size = some _ := Heap.get?_push_of_some _ (Heap.get?_push_size _ rfl)
  have g3 : (zh5 s.heap t1 t2 l1 l2).get? (zh2 s.heap t1 t2 l1 l2).objs.size = some _ := Heap.get?_push_of_some _ (Heap.get?_push_of_some _ (Heap.get?_push_size _ rfl))
  have g2 : (zh5 s.heap t1 t2 l1 l2).get? (zh1 s.heap t1 l1).objs.size = some _ := Heap.get?_push_of_some _ (Heap.get?_push_of_some _ (Heap.get?_push_of_some _ (Heap.get?_push_size _ fr2)))
  have g1 : (zh5 s.heap t1 t2 l1 l2).get? s.heap.objs.size = some _ := Heap.get?_push_of_some _ (Heap.get?_push_of_some _ (Heap.get?_push_of_some _ (Heap.get?_push_of_some _ (Heap.get?_push_size _ fr1))))
  show _ ∧ _
  rw [z2, z3, z4] at g5
  rw [z1, z2] at g3
  rw [z3] at g4
  rw [z1] at g2
  rw [z4]
  exact ⟨⟨_, g5, rfl⟩, h _ g5 g3 g4 (itO_is g1) (itO_is g2) z5 fun c o x =>
    Heap.get?_push_of_some _ (Heap.get?_push_of_some _ (Heap.get?_push_of_some _ (Heap.get?_push_of_some _ (Heap.get?_push_of_some _ x))))⟩
end
def iZipK (K : PySem.W.Frag) (ta : TA) : TI := fun σ H R => ta σ H fun vs H1 => ∃ a b xs ys t1 t2, vs = [.ref a, .ref b] ∧ SqK t1 K H1 a xs ∧ SqK t2 K H1 b ys ∧ R (ItzK t1 t2 K a b) H1
theorem pi_zipK {X : Cx} {e e2 : Expr} {ta : TA} {p pos tpos : Pos} {elts : List Expr} {kk : Nat} (hg : Gl X "zip") (hm : X.mg "zip" = none) (ha : PA X [e, e2] ta)
    (hs : starEach [e, e2] X.env = (false, eval e X.env) :: starEach [e2] X.env := by rfl) (hpl : (backTo pos (starEach [e2] X.env)).any (·.1) = false := by rfl) :
    PI X (.Tuple elts kk tpos) (.Call (.Name "zip" p) [e, e2] [] pos) (iZipK X.K ta) := by
  refine ⟨fun pins s σ H R I h => ?_⟩
  refine Call_ (ld_blt I hg hm PyProof.Rows.boot_zip (PyProof.Rows.callWith_type1 (thn (ha.run pos pins s σ H _ I h) fun us s1 ⟨vs, H1, I1, r1, q1⟩ => ?_) hs hpl))
  obtain ⟨a, b, xs, ys, t1, t2, ex, hqx, hqy, q⟩ := q1
  subst ex
  cases r1 with
  | cons r rr =>
    cases rr with
    | cons r' rr =>
      cases rr
      cases r
      cases r'
      have fresh5 : ∀ c, c ∈ [s1.heap.objs.size + 4, s1.heap.objs.size + 2, s1.heap.objs.size + 3, s1.heap.objs.size, s1.heap.objs.size + 1] → FpOk X pins H1 c := fun c hcm => by
        have e' : c = s1.heap.objs.size + 4 ∨ c = s1.heap.objs.size + 2 ∨ c = s1.heap.objs.size + 3 ∨ c = s1.heap.objs.size ∨ c = s1.heap.objs.size + 1 := by simpa using hcm
        have hle : s1.heap.objs.size ≤ c := by
          rcases e' with z | z | z | z | z
          · rw [z]; exact Nat.le_add_right _ _
          · rw [z]; exact Nat.le_add_right _ _
          · rw [z]; exact Nat.le_add_right _ _
          · rw [z]; exact Nat.le_refl _
          · rw [z]; exact Nat.le_add_right _ _
        exact I1.fpOk hle (I1.hok.fresh hle)
      obtain ⟨its, rv, p1, lt1⟩ := Inv_sqK I1 hqx
      obtain ⟨its2, rv2, p2, lt2⟩ := Inv_sqK I1 hqy
      refine call_zipK p1 p2 fun h' hz hTI hTO h1 h2 hsz hk => wpAny_pyIter_zip hz ?_
      have I2 : Inv X pins σ H1 { s1 with heap := h' } := I1.kept (t' := s1.toks) hk
      exact ⟨s1.heap.objs.size + 4, [s1.heap.objs.size + 4, s1.heap.objs.size + 2, s1.heap.objs.size + 3, s1.heap.objs.size, s1.heap.objs.size + 1], _, _, H1, rfl, I2, turn_zipK t1 t2 (PySem.W.ktu_apart s1.heap.objs.size a b lt1 lt2), ⟨hz, hTI, ⟨_, _, hTO⟩, h1, h2⟩, fresh5, q⟩
section
variable {L : Lv} {H1 : Hp}
/-- a list or a tuple that is walked -/
def KSrc (t : Bool) (L : Lv) (H1 : Hp) (J : DIt) (a : Addr) : Prop := ∀ i H h, Le H1 H → RH L.K L.C H h → match nextD J i h with
  | none => True
  | some none => ∃ vs, SqK t L.K H a vs ∧ vs.length ≤ i
  | some (some d) => ∃ vs v, SqK t L.K H a vs ∧ vs[i]? = some v ∧ RD L.K H v d
theorem KSrc.ofL {J : DIt} {a : Addr} (s : LSrc L H1 J a) : KSrc false L H1 J a := s
theorem KSrc.ofT {J : DIt} {a : Addr} (s : TSrc L H1 J a) : KSrc true L H1 J a := s
theorem KSrc.any {t : Bool} {J : DIt} {a : Addr} (s : KSrc t L H1 J a) {i : Nat} {H : Hp} {h : DH} {r : Option D} (l : Le H1 H) (rh : RH L.K L.C H h) (e : nextD J i h = some r) : ∃ vs, SqK t L.K H a vs := by
  have q := s i H h l rh
  rw [e] at q
  cases r with
  | none => exact ⟨_, q.choose_spec.1⟩
  | some d => exact ⟨_, q.choose_spec.choose_spec.1⟩
theorem itr_zipK {t1 t2 : Bool} {J J' : DIt} {a b : Addr} (s : KSrc t1 L H1 J a) (s' : KSrc t2 L H1 J' b) : ItR L H1 (.zip J J') (ItzK t1 t2 L.K a b) := by
  intro i H h l rh
  have q := s i H h l rh
  have q' := s' i H h l rh
  unfold nextD
  split
  · trivial
  · rename_i e
    split at e
    · cases e
    · rename_i e1 e2
      obtain ⟨ys, hy⟩ := s'.any l rh e2
      rw [e1] at q
      obtain ⟨vs, s1, hl⟩ := q
      exact ⟨vs, ys, s1, hy, .inl hl⟩
    · rename_i e1 e2
      obtain ⟨xs, hx⟩ := s.any l rh e1
      rw [e2] at q'
      obtain ⟨vs, s1, hl⟩ := q'
      exact ⟨xs, vs, hx, s1, .inr hl⟩
    · cases e
  · rename_i d e
    split at e
    · rename_i z z' e1 e2
      rw [e1] at q
      rw [e2] at q'
      cases e
      obtain ⟨vs, v, s1, f1, rv⟩ := q
      obtain ⟨ws, u, s2, f2, ru⟩ := q'
      refine ⟨⟨vs, ws, v, u, s1, s2, f1, f2⟩, fun x H' ⟨T, y, y', ex, nT, eH, g1, g2⟩ => ?_⟩
      subst ex eH
      have e4 := g1 vs s1
      rw [f1] at e4; cases e4
      have e5 := g2 ws s2
      rw [f2] at e5; cases e5
      exact ⟨Ste.side nT, .tup upd_same (.cons (rv.le (Le.new nT)) (.cons (ru.le (Le.new nT)) .nil)), rh.side nT⟩
    · cases e
    · cases e
    · cases e
end
end DL

/-! enumerate of a list or a tuple -/
namespace DL
open PySem PySem.Spec PyProof.Rows L2
def IteK (t : Bool) (K : PySem.W.Frag) (a : Addr) : It :=
  ⟨fun i H => ∃ (xs : List V) (x : V), SqK t K H a xs ∧ xs[i]? = some x, fun i H v H' => ∃ T x, v = .ref T ∧ H T = none ∧ H' = upd H T (.tup [.int (i : Nat), x]) ∧ ∀ xs, SqK t K H a xs → xs[i]? = some x, fun i H => ∃ xs : List V, SqK t K H a xs ∧ xs.length ≤ i⟩
theorem turn_enumK {P : Program} {w : World} {K : PySem.W.Frag} {elts : List Expr} {kk : Nat} {tpos : Pos} (t : Bool) {a e it : Addr} (hei : e ≠ it) (hea : e ≠ a) (hia : a ≠ it) :
    Turn P w K (.Tuple elts kk tpos) (IteK t K a) [e, it] e (fun i h => (∃ old, IsEnum h e it ((i : Nat) : Int) old) ∧ isIt t h it a i) where
  mem := by simp
  obj := fun i h st b hb => by
    obtain ⟨⟨old, he⟩, h1⟩ := st
    have e' : b = e ∨ b = it := by simpa using hb
    rcases e' with z | z
    · rw [z]; exact ⟨_, he, fun v q => nomatch q⟩
    · rw [z]; exact h1.obj
  keep := fun i h h' st k => let ⟨⟨old, he⟩, hi⟩ := st; ⟨⟨old, k e (by simp) _ he⟩, hi.at fun o q => k it (by simp) o q⟩
  item := by
    intro X hP hw hK hc i pins s σ H E I hf st hg
    subst hP hw hK
    obtain ⟨⟨old, he⟩, hit⟩ := st
    obtain ⟨xs, x, hq, hx⟩ := hg
    obtain ⟨its, rv, p, _⟩ := Inv_sqK I hq
    obtain ⟨u, hu, ru⟩ := rv.get hx
    have hel : e < s.heap.objs.size := Heap.lt_size he
    have hil : it < s.heap.objs.size := by obtain ⟨_, q, _⟩ := hit.obj; exact Heap.lt_size q
    have hh : X.A.in1.handled = none := I.ok.hd hc
    have n1 : i < its.toArray.size := by
      have := (List.getElem?_eq_some_iff.mp hu).1
      simpa using this
    refine wpAny_pyNext_enum_itemD (drawsK t hh it a hia its.toArray) he ⟨hit, p⟩ n1 hei (by simp [hei, hea]) fun y h' tk e1 ho hit' hT hsz hk => ?_
    have e1 : its[i]? = some y := by simpa using e1
    rw [hu] at e1
    cases e1
    refine ⟨_, rfl, wpAny_letOwnedTupleGo_enum (s := { s with heap := h', toks := tk + 1 }) ho fun h'' he' sb => ?_⟩
    have hT2 : h''.get? s.heap.objs.size = some { cls := .type "tuple", data := .seq #[.int i tk, u] } := (sb.2 _ (Nat.ne_of_gt hel)).trans hT
    have new : ObjOk X.prog X.w (upd H s.heap.objs.size (.tup [.int (i : Nat), x])) h'' s.heap.objs.size (.tup [.int (i : Nat), x]) :=
      ⟨by show 2 ≤ sizeLine; decide, [.int i tk, u], .cons ⟨_, rfl⟩ (.cons ru .nil), ⟨_, hT2, rfl, _, rfl⟩⟩
    have I1 : Inv X pins σ (upd H s.heap.objs.size (.tup [.int (i : Nat), x])) { s with heap := h'', toks := tk + 1 } :=
      I.turnedNew (t' := tk + 1) (ch := [e, it]) (fun b ob hb q => (sb.2 b (fun z => hb (by simp [z]))).trans (hk b ob (fun z => hb (by simp [z])) (fun z => hb (by simp [z])) q)) hf (Nat.le_refl _) new
    refine ⟨.ref s.heap.objs.size, _, I1, rfl, ⟨_, x, rfl, I.hok.fresh (Nat.le_refl _), rfl, fun ys hy => by rw [Inv_injK I hy hq]; exact hx⟩, ⟨⟨u, ?_⟩, hit'.1.at fun o q => (sb.2 it (Ne.symm hei)).trans q⟩, fun b hb => ?_⟩
    · have e1 : ((i + 1 : Nat) : Int) = (i : Int) + 1 := by omega
      rw [e1]; exact he'
    · have hb' : b < s.heap.objs.size := by
        have e' : b = e ∨ b = it := by simpa using hb
        rcases e' with z | z
        · rw [z]; exact hel
        · rw [z]; exact hil
      rw [upd_ne (Nat.ne_of_lt hb')]
      exact (hf b hb).1
  done := by
    intro X hP hw hK hc i pins s σ H E I hf st hg
    subst hP hw hK
    obtain ⟨⟨old, he⟩, hit⟩ := st
    obtain ⟨xs, hq, hx⟩ := hg
    obtain ⟨its, rv, p, _⟩ := Inv_sqK I hq
    have hl := rv.length
    have hh : X.A.in1.handled = none := I.ok.hd hc
    have k1 : its.toArray[i]? = none := by simp; omega
    exact wpAny_pyNext_enum_endD (drawsE t hh it a i its.toArray k1) he ⟨rfl, hit, p⟩ fun h' eb => ⟨rfl, I.turnedL (t' := s.toks) (ch := [e, it]) (fun b o hb q => eb b o (fun z => hb (by simp [z])) q) hf⟩
  self := fun A i s Q E st h => let ⟨⟨_, he⟩, _⟩ := st; wpAny_pyIter_enum he h
theorem meets_enumK (t : Bool) (l : Addr) (items : Array Value) :
    Meets (Builtin.«enumerate.__new__» ⟨[.type "enumerate", .ref l], []⟩) (fun _ R s => isSq t s.heap l items ∧
      R (.ok (.ret (.ref (s.heap.push (itO t l)).objs.size)))
        { s with heap := (s.heap.push (itO t l)).push { cls := .type "enumerate", data := .fields #[.none, .bool false, .ref s.heap.objs.size, rawInt 0, .none, .none] } }) :=
  .of_wp fun prog w A R s h => by
    obtain ⟨hp, g, d, tk, os⟩ := s; obtain ⟨hl, h⟩ := h
    have hsub := sub_enumerate
    have hL : isSq t (Shared.heap ⟨hp, g, d, tk, os⟩) l items := hl
    obtain ⟨o, ho⟩ : ∃ o, hp.get? l = some o := by
      cases t with
      | true => obtain ⟨o, ho, _⟩ := id hl; exact ⟨o, ho⟩
      | false => obtain ⟨o, ho, _⟩ := id hl; exact ⟨o, ho⟩
    wp_walk using AutoSeq1.wpAny_loadPart' ho
    refine wpAny_stack_any fun st => wpAny_pure ?_
    split
    · rename_i c _ _ _ _ _
      cases (c == Value.type "enumerate")
      · wp_walk using AutoSeq1.wpAny_loadPart' ho, pyIterK hL
        exact ⟨_, rfl, h⟩
      · wp_walk using AutoSeq1.wpAny_loadPart' ho, pyIterK hL
        exact ⟨_, rfl, h⟩
    · wp_walk using AutoSeq1.wpAny_loadPart' ho, pyIterK hL
      exact ⟨_, rfl, h⟩
section
variable {prog : Program} {w : World} {A : Around} {E : Value → Shared → Prop} {s : Shared}
theorem call_enumK {t : Bool} {l : Addr} {items : Array Value} {Q : Value → Shared → Prop} (hL : isSq t s.heap l items)
    (h : ∀ h', IsEnum h' (s.heap.objs.size + 1) s.heap.objs.size 0 .none → isIt t h' s.heap.objs.size l 0 → h'.objs.size = s.heap.objs.size + 2 →
      (∀ b o, s.heap.get? b = some o → h'.get? b = some o) → Q (.ref (s.heap.objs.size + 1)) { s with heap := h' }) :
    wpAny (model prog w) A (call (.type "enumerate") [.ref l]) Q E s := by
  refine callType_new F.called_enumerate (by decide) (F.typeCall_enumerate_1 _) (F.newCall_enumerate_1 _) (fun obj => F.args_object_init_2 obj _) F.entry_enumerate_new
    (meets_enumK t l items) ⟨hL, ?_⟩
  have fr : (itO t l).isFreed = false := by cases t <;> rfl
  have hz : (s.heap.push (itO t l)).objs.size = s.heap.objs.size + 1 := Heap.size_push ..
  show _ ∧ _
  rw [hz]
  have he : IsEnum ((s.heap.push (itO t l)).push
      { cls := .type "enumerate", data := .fields #[.none, .bool false, .ref s.heap.objs.size, rawInt 0, .none, .none] }) (s.heap.objs.size + 1) s.heap.objs.size 0 .none := by
    have := Heap.get?_push_size (s.heap.push (itO t l))
      (o := { cls := .type "enumerate", data := .fields #[.none, .bool false, .ref s.heap.objs.size, rawInt 0, .none, .none] }) rfl
    rw [hz] at this; exact this
  refine ⟨⟨_, he, rfl⟩, h _ he (itO_is (Heap.get?_push_of_some _ (Heap.get?_push_size _ fr))) (by rw [Heap.size_push, hz]) fun b o x => Heap.get?_push_of_some _ (Heap.get?_push_of_some _ x)⟩
end
def iEnumK (K : PySem.W.Frag) (ta : TA) : TI := fun σ H R => ta σ H fun vs H1 => ∃ a xs t, vs = [.ref a] ∧ SqK t K H1 a xs ∧ R (IteK t K a) H1
theorem pi_enumK {X : Cx} {e : Expr} {ta : TA} {p pos tpos : Pos} {elts : List Expr} {kk : Nat} (hg : Gl X "enumerate") (hm : X.mg "enumerate" = none) (ha : PA X [e] ta) (hs : starEach [e] X.env = [(false, eval e X.env)] := by rfl) :
    PI X (.Tuple elts kk tpos) (.Call (.Name "enumerate" p) [e] [] pos) (iEnumK X.K ta) := by
  refine ⟨fun pins s σ H R I h => ?_⟩
  refine Call_ (ld_blt I hg hm boot_enumerate (PyProof.Rows.callWith_type1 (thn (ha.run pos pins s σ H _ I h) fun us s1 ⟨vs, H1, I1, r1, q1⟩ => ?_) hs rfl))
  obtain ⟨a, xs, t, ex, hq, q⟩ := q1
  subst ex
  cases r1 with
  | cons r rr =>
    cases rr
    cases r
    obtain ⟨its, rv, p', lt⟩ := Inv_sqK I1 hq
    refine call_enumK p' fun h' he hit hsz hk => wpAny_pyIter_enum he ?_
    have I2 : Inv X pins σ H1 { s1 with heap := h' } := I1.kept (t' := s1.toks) hk
    refine ⟨s1.heap.objs.size + 1, [s1.heap.objs.size + 1, s1.heap.objs.size], _, _, H1, rfl, I2, turn_enumK (e := s1.heap.objs.size + 1) (it := s1.heap.objs.size) t (Nat.succ_ne_self _) (Nat.ne_of_gt (Nat.lt_succ_of_lt lt)) (Nat.ne_of_lt lt), ⟨⟨.none, he⟩, hit⟩, fun b hb => ?_, q⟩
    have e' : b = s1.heap.objs.size + 1 ∨ b = s1.heap.objs.size := by simpa using hb
    have hle : s1.heap.objs.size ≤ b := by
      rcases e' with z | z
      · rw [z]; exact Nat.le_add_right _ _
      · rw [z]; exact Nat.le_refl _
    exact I1.fpOk hle (I1.hok.fresh hle)
section
variable {L : Lv} {H1 : Hp}
theorem itr_enmK {t : Bool} {J : DIt} {a : Addr} (s : KSrc t L H1 J a) : ItR L H1 (.enm J) (IteK t L.K a) := by
  intro i H h l rh
  have q := s i H h l rh
  unfold nextD
  split
  · trivial
  · rename_i e
    split at e
    · cases e
    · rw [e] at q
      exact q
  · rename_i d e
    split at e
    · rename_i z hz
      rw [hz] at q
      cases e
      obtain ⟨vs, v, s1, e1, rv⟩ := q
      refine ⟨⟨vs, v, s1, e1⟩, fun x H' ⟨T, y, ex, nT, eH, f⟩ => ?_⟩
      subst ex eH
      have e4 := f vs s1
      rw [e1] at e4; cases e4
      exact ⟨Ste.side nT, .tup upd_same (.cons (.int _) (.cons (rv.le (Le.new nT)) .nil)), rh.side nT⟩
    · rename_i hz
      exact absurd e (hz d)
end
end DL

/-! list(zip(a, b)), tuple(zip(a, b)) of two lists -/
namespace DL
open PySem PySem.Spec PyProof.Rows L2
theorem zp_no_len : typeLookup (.type "zip") "__len__" = pure none := by rw [typeLookup_type, builtinLookup_eq_fast]; kernel_rfl
theorem zp_no_hint : typeLookup (.type "zip") "__length_hint__" = pure none := by rw [typeLookup_type, builtinLookup_eq_fast]; kernel_rfl
/-- how a zip of two lists stands behind i pairs, each of which is kept -/
def ZpSt (z TI TO i1 i2 a b S : Addr) (i : Nat) (h : Heap) : Prop :=
  IsPair h TI (.ref i1) (.ref i2) ∧ h.IsListIter i1 a i ∧ h.IsListIter i2 b i ∧
    ((IsZip h z TI TO .none ∧ ∃ p q, IsPair h TO p q) ∨ ∃ T f oT, IsZipHeld h z TI TO T f ∧ h.get? T = some oT ∧ T ≠ z ∧ T ≠ i1 ∧ T ≠ i2 ∧ T ≠ S)
theorem ZpSt.but {z TI TO i1 i2 a b S : Addr} {i : Nat} {h h' : Heap} (st : ZpSt z TI TO i1 i2 a b S i h) (sep : S ∉ [z, TI, TO, i1, i2]) (k : ∀ c o, c ≠ S → h.get? c = some o → h'.get? c = some o) : ZpSt z TI TO i1 i2 a b S i h' := by
  simp only [List.mem_cons, List.not_mem_nil, or_false, not_or] at sep
  obtain ⟨n1, n2, n3, n4, n5⟩ := sep
  obtain ⟨hTI, h1, h2, hz⟩ := st
  refine ⟨k _ _ (Ne.symm n2) hTI, h1.at fun o e => k _ o (Ne.symm n4) e, h2.at fun o e => k _ o (Ne.symm n5) e, ?_⟩
  rcases hz with ⟨hz, p, q, hTO⟩ | ⟨T, f, oT, hz, hT, r1, r2, r3, r4⟩
  · exact .inl ⟨k _ _ (Ne.symm n1) hz, p, q, k _ _ (Ne.symm n3) hTO⟩
  · exact .inr ⟨T, f, oT, k _ _ (Ne.symm n1) hz, k _ _ r4 hT, r1, r2, r3, r4⟩
section
variable {X : Cx} {pins : List (Addr × Obj)} {σ : L2.St} {a b z TI TO i1 i2 S : Addr} {xs ys : List V}
/-- the records of ours -/
structure ZpOk (X : Cx) (pins : List (Addr × Obj)) (z TI TO i1 i2 S : Addr) (H : Hp) (s : Shared) : Prop where
  f : ∀ c ∈ [z, TI, TO, i1, i2, S], FpOk X pins H c ∧ c < s.heap.objs.size
theorem fp_upd {H : Hp} {c T : Addr} {o : HO} (f : FpOk X pins H c) (n : c ≠ T) : FpOk X pins (upd H T o) c := ⟨by rw [upd_ne n]; exact f.1, f.2⟩
theorem zp_item {A : Around} {E : Value → Shared → Prop} {Q : Option Value → Shared → Prop} {H : Hp} {s : Shared} {i : Nat} {x y : V} (D : ZipApart z TI TO i1 i2 a b) (I : Inv X pins σ H s) (ok : ZpOk X pins z TI TO i1 i2 S H s) (sx : SqL X.K H a xs) (sy : SqL X.K H b ys)
    (sep : S ∉ [z, TI, TO, i1, i2]) (st : ZpSt z TI TO i1 i2 a b S i s.heap) (hx : xs[i]? = some x) (hy : ys[i]? = some y)
    (hQ : ∀ T s', H T = none → Inv X pins σ (upd H T (.tup [x, y])) s' → ZpOk X pins z TI TO i1 i2 S (upd H T (.tup [x, y])) s' → ZpSt z TI TO i1 i2 a b S (i + 1) s'.heap → (∀ o, s.heap.get? S = some o → s'.heap.get? S = some o) → Q (some (.ref T)) s') :
    wpAny (model X.prog X.w) A (pyNext (.ref z)) Q E s := by
  obtain ⟨its, rv, p, _⟩ := I.list sx
  obtain ⟨its2, rv2, p2, _⟩ := I.list sy
  obtain ⟨u, hu, ru⟩ := rv.get hx
  obtain ⟨u2, hu2, ru2⟩ := rv2.get hy
  have hu' : its.toArray[i]? = some u := by rw [List.getElem?_toArray]; exact hu
  have hu2' : its2.toArray[i]? = some u2 := by rw [List.getElem?_toArray]; exact hu2
  obtain ⟨hTI, h1, h2, hz⟩ := st
  have lt : ∀ {c o}, s.heap.get? c = some o → s.heap.objs.size ≠ c := fun e => Nat.ne_of_gt (Heap.lt_size e)
  have n1 : s.heap.objs.size ≠ i1 := let ⟨_, e, _⟩ := h1; lt e
  have n2 : s.heap.objs.size ≠ i2 := let ⟨_, e, _⟩ := h2; lt e
  have nS : s.heap.objs.size ≠ S := Nat.ne_of_gt (ok.f S (by simp)).2
  have nz : s.heap.objs.size ≠ z := Nat.ne_of_gt (ok.f z (by simp)).2
  simp only [List.mem_cons, List.not_mem_nil, or_false, not_or] at sep
  obtain ⟨s1, s2, s3, s4, s5⟩ := sep
  have fin : ∀ h' : Heap, IsPair h' s.heap.objs.size u u2 → h'.objs.size = s.heap.objs.size + 1 → ZpSt z TI TO i1 i2 a b S (i + 1) h' → (∀ c o, c ∉ [z, TO, i1, i2] → s.heap.get? c = some o → h'.get? c = some o) → Q (some (.ref s.heap.objs.size)) { s with heap := h' } := fun h' hp hs st' hk => by
    have sz := sizeLine_eq
    refine hQ _ _ (I.hok.fresh (Nat.le_refl _)) (I.turnedNew (t' := s.toks) (ch := [z, TO, i1, i2]) hk (fun c hc => (ok.f c ?_).1) (Nat.le_refl _) ⟨by simp; omega, [u, u2], .cons ru (.cons ru2 .nil), _, hp, rfl, _, rfl⟩) ⟨fun c hc => ⟨fp_upd (ok.f c hc).1 (Nat.ne_of_lt (ok.f c hc).2), ?_⟩⟩ st' fun o e => hk S o ?_ e
    · simp only [List.mem_cons, List.not_mem_nil, or_false] at hc ⊢
      rcases hc with h | h | h | h <;> simp [h]
    · exact Nat.lt_of_lt_of_le (ok.f c hc).2 (by show s.heap.objs.size ≤ h'.objs.size; rw [hs]; exact Nat.le_succ _)
    · simp [s1, s3, s4, s5]
  rcases hz with ⟨hz, c, d, hTO⟩ | ⟨T, f, oT, hz, hT, r1, r2, r3, r4⟩
  · refine wpAny_pyNext_zip_item D hz hTI hTO h1 h2 p.isList p2.isList hu' hu2' fun h' a1 a2 a3 a4 a5 a6 hk => fin h' a5 a6 ⟨hk _ _ D.TIz D.TITO D.TIi1 D.TIi2 hTI, a3, a4, .inr ⟨s.heap.objs.size, false, _, a1, a5, nz, n1, n2, nS⟩⟩ fun c o hc e => ?_
    simp only [List.mem_cons, List.not_mem_nil, or_false, not_or] at hc
    exact hk c o hc.1 hc.2.1 hc.2.2.1 hc.2.2.2 e
  · refine wpAny_pyNext_zip_item_held D hz hT hTI h1 h2 p.isList p2.isList hu' hu2' fun h' a1 a3 a4 a5 a6 hk => fin h' a5 a6 ⟨hk _ _ D.TIz D.TIi1 D.TIi2 hTI, a3, a4, .inr ⟨T, true, oT, a1, hk _ _ r1 r2 r3 hT, r1, r2, r3, r4⟩⟩ fun c o hc e => ?_
    simp only [List.mem_cons, List.not_mem_nil, or_false, not_or] at hc
    exact hk c o hc.1 hc.2.2.1 hc.2.2.2 e
theorem zp_done {A : Around} {E : Value → Shared → Prop} {Q : Option Value → Shared → Prop} {H : Hp} {s : Shared} {i : Nat} (hA : A.handled = none) (D : ZipApart z TI TO i1 i2 a b) (I : Inv X pins σ H s) (ok : ZpOk X pins z TI TO i1 i2 S H s) (sx : SqL X.K H a xs) (sy : SqL X.K H b ys)
    (sep : S ∉ [z, TI, TO, i1, i2]) (st : ZpSt z TI TO i1 i2 a b S i s.heap) (he : xs.length ≤ i ∨ ys.length ≤ i)
    (hQ : ∀ s', Inv X pins σ H s' → (∀ o, s.heap.get? S = some o → s'.heap.get? S = some o) → Q none s') :
    wpAny (model X.prog X.w) A (pyNext (.ref z)) Q E s := by
  obtain ⟨its, rv, p, _⟩ := I.list sx
  obtain ⟨its2, rv2, p2, _⟩ := I.list sy
  have he' : its.toArray[i]? = none ∨ its2.toArray[i]? = none := by
    rw [List.getElem?_toArray, List.getElem?_toArray, List.getElem?_eq_none_iff, List.getElem?_eq_none_iff, ← rv.length, ← rv2.length]
    exact he
  obtain ⟨hTI, h1, h2, hz⟩ := st
  simp only [List.mem_cons, List.not_mem_nil, or_false, not_or] at sep
  obtain ⟨s1, s2, s3, s4, s5⟩ := sep
  have fin : ∀ h' : Heap, (∀ c o, c ∉ [z, TO, i1, i2] → s.heap.get? c = some o → h'.get? c = some o) → Q none { s with heap := h' } := fun h' hk => by
    refine hQ _ (I.turnedL (t' := s.toks) (ch := [z, TO, i1, i2]) hk fun c hc => (ok.f c ?_).1) fun o e => hk S o ?_ e
    · simp only [List.mem_cons, List.not_mem_nil, or_false] at hc ⊢
      rcases hc with h | h | h | h <;> simp [h]
    · simp [s1, s3, s4, s5]
  rcases hz with ⟨hz, c, d, hTO⟩ | ⟨T, f, oT, hz, hT, r1, r2, r3, r4⟩
  · refine wpAny_pyNext_zip_end hA D hz hTI hTO h1 h2 p.isList p2.isList he' fun h' hk => fin h' fun c o hc e => ?_
    simp only [List.mem_cons, List.not_mem_nil, or_false, not_or] at hc
    exact hk c o hc.1 hc.2.1 hc.2.2.1 hc.2.2.2 e
  · refine wpAny_pyNext_zip_end_held hA D hz hT hTI h1 h2 p.isList p2.isList he' fun h' hk => fin h' fun c o hc e => ?_
    simp only [List.mem_cons, List.not_mem_nil, or_false, not_or] at hc
    exact hk c o hc.1 hc.2.2.1 hc.2.2.2 e
/-- a list as it is filled -/
def lsO (acc : Array Value) (c : Nat) : Obj := { cls := .type "list", dict := none, data := .seq acc c, slots := #[] }
/-- what is wanted of a filling: by turns, at its end -/
structure ZpW (K : PySem.W.Frag) (a b : Addr) (xs ys : List V) (H0 : Hp) (Ev : Nat → Hp → List V → Prop) : Prop where
  sq : ∀ H, (∀ c o, H0 c = some o → H c = some o) → SqL K H a xs ∧ SqL K H b ys
  ev : ∀ i H ts T x y, Ev i H ts → xs[i]? = some x → ys[i]? = some y → H T = none → Ev (i + 1) (upd H T (.tup [x, y])) (ts ++ [.ref T])
  ln : min xs.length ys.length ≤ sizeLine
theorem zp_loop {A : Around} {R : Result → Shared → Prop} {H0 : Hp} {Ev : Nat → Hp → List V → Prop} (hA : A.in1.handled = none) (D : ZipApart z TI TO i1 i2 a b) (sep : S ∉ [z, TI, TO, i1, i2]) (res : Value) (W : ZpW X.K a b xs ys H0 Ev)
    (hR : ∀ s' H' acc' c' ts', (∀ c o, H0 c = some o → H' c = some o) → Inv X pins σ H' s' → FpOk X pins H' S → s'.heap.get? S = some (lsO acc' c') → Vals ts' acc'.toList → ts'.length = min xs.length ys.length → Ev (min xs.length ys.length) H' ts' → R (.ok (.ret res)) s') :
    ∀ (k i : Nat) (s : Shared) (H : Hp) (acc : Array Value) (c : Nat) (ts : List V), min xs.length ys.length - i = k → i ≤ min xs.length ys.length → (∀ c o, H0 c = some o → H c = some o) → Inv X pins σ H s → ZpOk X pins z TI TO i1 i2 S H s → ZpSt z TI TO i1 i2 a b S i s.heap →
      s.heap.get? S = some (lsO acc c) → Vals ts acc.toList → ts.length = i → Ev i H ts → codeAny (model X.prog X.w) A (.builtin "list.extend.loop" ⟨[.ref S, .ref z, res], []⟩) R s := by
  have sz := W.ln
  intro k
  induction k with
  | zero =>
    intro i s H acc c ts hk hi gr I ok st hS rv hl hev
    refine codeAny_builtin F.entry_extend_loop ?_
    rw [Around.under_plainId F.plain_extend_loop _]
    show wpAny _ A.in1 (pyNext (.ref z) >>= _) _ _ s
    have e : min xs.length ys.length = i := by omega
    refine wpAny_bind (zp_done hA D I ok (W.sq H gr).1 (W.sq H gr).2 sep st (by omega) fun s' I' kS => wpAny_pure (hR s' H acc c ts gr I' (ok.f S (by simp)).1 (kS _ hS) rv (by rw [hl, e]) (by rw [e]; exact hev)))
  | succ k ih =>
    intro i s H acc c ts hk hi gr I ok st hS rv hl hev
    refine codeAny_builtin F.entry_extend_loop ?_
    rw [Around.under_plainId F.plain_extend_loop _]
    show wpAny _ A.in1 (pyNext (.ref z) >>= _) _ _ s
    have hx : xs[i]? = some (xs[i]'(by omega)) := List.getElem?_eq_getElem _
    have hy : ys[i]? = some (ys[i]'(by omega)) := List.getElem?_eq_getElem _
    refine wpAny_bind (zp_item D I ok (W.sq H gr).1 (W.sq H gr).2 sep st hx hy fun T s' hT I' ok' st' kS => ?_)
    have hS' := kS _ hS
    have al : acc.size = i := by rw [← Array.length_toList, ← rv.length, hl]
    show wpAny _ A.in1 (updateSeq S (·.push (.ref T)) >>= _) _ _ _
    have gr' : ∀ c o, H0 c = some o → upd H T (.tup [xs[i]'(by omega), ys[i]'(by omega)]) c = some o := fun c o e => by
      rw [upd_ne (ne_of_none (gr c o e) hT)]; exact gr c o e
    refine wpAny_bind (wpAny_updateSeq hS' rfl (wpAny_pure ⟨plainId_quiet F.plain_extend_loop _, ih (i + 1) _ _ (acc.push (.ref T)) _ (ts ++ [.ref T]) (by omega) (by omega) gr' ?_ ⟨fun c hc => ⟨(ok'.f c hc).1, ?_⟩⟩ (st'.but sep fun d o hd e => ?_) (Heap.get?_update_self _ hS' rfl) ?_ (by rw [List.length_append, hl]; rfl) (W.ev i H ts T _ _ hev hx hy hT)⟩)
      (by rw [al]; omega) (by show (acc.push _).size ≤ sizeLine + 1; rw [Array.size_push, al]; omega))
    · exact I'.turnedL (t' := s'.toks) (ch := [S]) (fun d o hd e => (Heap.get?_update_other _ _ (fun q : S = d => hd (by simp [q]))).trans e) fun d hd => by
        rw [List.mem_singleton.mp hd]; exact (ok'.f S (by simp)).1
    · rw [Heap.size_update]; exact (ok'.f c hc).2
    · exact (Heap.get?_update_other _ _ (Ne.symm hd)).trans e
    · rw [Array.toList_push]
      exact rv.append (.cons rfl .nil)
theorem zp_ext {A : Around} {R : Result → Shared → Prop} {H0 : Hp} {Ev : Nat → Hp → List V → Prop} {s : Shared} {c0 : Nat} (hA : A.in1.handled = none) (D : ZipApart z TI TO i1 i2 a b) (sep : S ∉ [z, TI, TO, i1, i2]) (res : Value) (W : ZpW X.K a b xs ys H0 Ev)
    (I : Inv X pins σ H0 s) (ok : ZpOk X pins z TI TO i1 i2 S H0 s) (st : ZpSt z TI TO i1 i2 a b S 0 s.heap) (hz : IsZip s.heap z TI TO .none) (hS : s.heap.get? S = some (lsO #[] c0)) (ev0 : Ev 0 H0 [])
    (hR : ∀ s' H' acc' c' ts', (∀ c o, H0 c = some o → H' c = some o) → Inv X pins σ H' s' → FpOk X pins H' S → s'.heap.get? S = some (lsO acc' c') → Vals ts' acc'.toList → ts'.length = min xs.length ys.length → Ev (min xs.length ys.length) H' ts' → R (.ok (.ret res)) s') :
    wpAny (model X.prog X.w) A.in1 (Builtin.List.listExtendWith (.ref S) (.ref z) res) (fun fin s' => match fin with
      | .done f => R (.ok f) s'
      | .again c' => c'.quiet = true ∧ codeAny (model X.prog X.w) A c' R s') (fun e s' => R (.error e) s') s := by
  have hT : s.TypeIs (.ref z) "zip" := ⟨_, hz, rfl⟩
  have nSz : S ≠ z := fun e => sep (by simp [e])
  unfold Builtin.List.listExtendWith; refine wpAny_bind (wpAny_typeOf hT ?_)
  have e1 : Builtin.List.listSameRef (.ref S) (.ref z) = false := by simp [Builtin.List.listSameRef, nSz]
  have e2 : (Value.type "zip" == Value.type "list") = false := by decide
  have e3 : (Value.type "zip" == Value.type "tuple") = false := by decide
  simp only [e1, e2, e3, Bool.or_false, Bool.false_eq_true, if_false]
  refine wpAny_bind (wpAny_pyIter_zip hz (wpAny_bind (wpAny_holding ?_)))
  unfold Builtin.List.listLengthHint; refine wpAny_bind (wpAny_specialOf hT zp_no_len ?_)
  show wpAny _ A.in1 (specialOf (Value.ref z) (Str.ofString "__length_hint__") >>= _) _ _ _
  refine wpAny_bind (wpAny_specialOf hT zp_no_hint (wpAny_pure ?_))
  show wpAny _ A.in1 (rule "list.extend.makes-room" >>= fun _ => Builtin.List.listTouch (.ref S) >>= fun _ => again (.builtin "list.extend.loop" ⟨[.ref S, .ref z, res], []⟩)) _ _ _
  refine wpAny_bind (wpAny_rule (wpAny_bind ?_))
  show wpAny _ A.in1 (updateSeq S (·.push .none) >>= fun _ => updateSeq S (·.pop)) _ _ _
  refine wpAny_bind (wpAny_updateSeq hS rfl ?_)
  have hS2 := Heap.get?_update_self (Obj.mapSeq (·.push Value.none)) hS rfl
  refine wpAny_updateSeq (hz := by seq_fits) hS2 rfl ?_
  have hS3 := Heap.get?_update_self (Obj.mapSeq (·.pop)) hS2 rfl
  have oth : ∀ d o, d ≠ S → s.heap.get? d = some o → ((s.heap.update S (Obj.mapSeq (·.push Value.none))).update S (Obj.mapSeq (·.pop))).get? d = some o := fun d o hd e =>
    (Heap.get?_update_other _ _ (Ne.symm hd)).trans ((Heap.get?_update_other _ _ (Ne.symm hd)).trans e)
  refine wpAny_pure ⟨plainId_quiet F.plain_extend_loop _, zp_loop hA D sep res W hR _ 0 _ H0 _ _ [] rfl (Nat.zero_le _) (fun _ _ e => e) (Inv.turnedL (s := s) (t' := s.toks) (ch := [S]) I (fun d o hd e => oth d o (fun q => hd (by simp [q])) e) fun d hd => by
    rw [List.mem_singleton.mp hd]; exact (ok.f S (by simp)).1) ⟨fun c hc => ⟨(ok.f c hc).1, ?_⟩⟩ (st.but sep oth) hS3 .nil rfl ev0⟩
  rw [Heap.size_update, Heap.size_update]; exact (ok.f c hc).2
theorem zp_init {A : Around} {R : Result → Shared → Prop} {H0 : Hp} {Ev : Nat → Hp → List V → Prop} {s : Shared} (hA : A.in1.handled = none) (D : ZipApart z TI TO i1 i2 a b) (sep : S ∉ [z, TI, TO, i1, i2]) (W : ZpW X.K a b xs ys H0 Ev)
    (I : Inv X pins σ H0 s) (ok : ZpOk X pins z TI TO i1 i2 S H0 s) (st : ZpSt z TI TO i1 i2 a b S 0 s.heap) (hz : IsZip s.heap z TI TO .none) (hS : s.heap.get? S = some (lsO #[] 0)) (ev0 : Ev 0 H0 [])
    (hR : ∀ s' H' acc' c' ts', (∀ c o, H0 c = some o → H' c = some o) → Inv X pins σ H' s' → FpOk X pins H' S → s'.heap.get? S = some (lsO acc' c') → Vals ts' acc'.toList → ts'.length = min xs.length ys.length → Ev (min xs.length ys.length) H' ts' → R (.ok (.ret .none)) s') :
    wpAny (model X.prog X.w) A.in1 (Builtin.«list.__init__» ⟨[.ref S, .ref z], []⟩) (fun fin s' => match fin with
      | .done f => R (.ok f) s'
      | .again c' => c'.quiet = true ∧ codeAny (model X.prog X.w) A c' R s') (fun e s' => R (.error e) s') s := by
  show wpAny _ A.in1 (Builtin.List.listItems (.ref S) >>= fun old => Builtin.List.listUpdate (.ref S) (fun _ => #[]) >>= fun _ => letGo old.toList.reverse >>= fun _ => Builtin.List.listExtendWith (.ref S) (.ref z) .none) _ _ s
  refine wpAny_bind ?_
  unfold Builtin.List.listItems; refine wpAny_bind (wpAny_seqItems hS rfl (wpAny_pure ?_))
  show wpAny _ A.in1 (updateSeq S (fun _ => #[]) >>= fun _ => letGo (#[] : Array Value).toList.reverse >>= fun _ => Builtin.List.listExtendWith (.ref S) (.ref z) .none) _ _ s
  refine wpAny_bind (wpAny_updateSeq hS rfl ?_)
  have hS2 := Heap.get?_update_self (Obj.mapSeq (fun _ => (#[] : Array Value))) hS rfl
  have oth : ∀ d o, d ≠ S → s.heap.get? d = some o → (s.heap.update S (Obj.mapSeq (fun _ => (#[] : Array Value)))).get? d = some o := fun d o hd e => (Heap.get?_update_other _ _ (Ne.symm hd)).trans e
  have nz : z ≠ S := fun e => sep (by simp [e])
  refine wpAny_bind (wpAny_letGo (zp_ext hA D sep .none W (I.turnedL (t' := s.toks) (ch := [S]) (fun d o hd e => oth d o (fun q => hd (by simp [q])) e) fun d hd => by
    rw [List.mem_singleton.mp hd]; exact (ok.f S (by simp)).1) ⟨fun c hc => ⟨(ok.f c hc).1, ?_⟩⟩ (st.but sep oth) (oth _ _ nz hz) hS2 ev0 hR))
  rw [Heap.size_update]; exact (ok.f c hc).2
/-- a record of ours is told to be a list -/
theorem inv_track {H : Hp} {s : Shared} {ob : HO} (I : Inv X pins σ H s) (f : FpOk X pins H S) (new : ObjOk X.prog X.w (upd H S ob) s.heap S ob) : Inv X pins σ (upd H S ob) s := by
  have hn := f.1
  refine I.step (g' := s.gens) (d' := s.drawn) (t' := s.toks) (h' := s.heap) (ch := [S]) (fun d hd => ?_) (fun _ _ _ _ _ e _ => e) (fun d o _ _ _ e _ => ⟨o.slots, e⟩) (fun d o hd e n => ?_) (fun d o _ e => ⟨o, e⟩)
    (fun d xs e => ?_) (fun d o u e => ?_) (fun d ps e => ⟨#[], ?_⟩) (fun _ hm => hm) (fun d u e => ?_) I.bare
  · rw [List.mem_singleton.mp hd]; exact ⟨f.2.2.2.1, f.2.1, f.2.2.2.2.1, f.2.2.2.2.2⟩
  · rw [upd_ne fun q => hd (by simp [q])]; exact n
  · rw [upd_ne (ne_of_none e hn)]; exact e
  · rw [upd_ne (ne_of_none e hn)]; exact e
  · rw [upd_ne (ne_of_none e hn), e]; simp
  · by_cases hb : d = S
    · subst hb
      rw [upd_same] at e
      cases e
      exact new
    · rw [upd_ne hb] at e
      exact (I.hok d u e).stay (fun _ _ _ q => q) (fun c q => by rw [upd_ne (ne_of_none q hn)]; exact q) fun c xs q => by rw [upd_ne (ne_of_none q hn)]; exact q
/-- behind zip(a, b) -/
structure ZpM (X : Cx) (pins : List (Addr × Obj)) (a b z TI TO i1 i2 : Addr) (H : Hp) (s : Shared) : Prop where
  d : ZipApart z TI TO i1 i2 a b
  f : ∀ c ∈ [z, TI, TO, i1, i2], FpOk X pins H c ∧ c < s.heap.objs.size
  z : IsZip s.heap z TI TO .none
  t : IsPair s.heap TI (.ref i1) (.ref i2)
  o : ∃ p q, IsPair s.heap TO p q
  l1 : s.heap.IsListIter i1 a 0
  l2 : s.heap.IsListIter i2 b 0
theorem ZpM.st {H : Hp} {s : Shared} (m : ZpM X pins a b z TI TO i1 i2 H s) (S : Addr) : ZpSt z TI TO i1 i2 a b S 0 s.heap := ⟨m.t, m.l1, m.l2, .inl ⟨m.z, m.o⟩⟩
theorem zp_make {H : Hp} {s : Shared} {e e2 : Expr} {ta : TA} {p pos : Pos} {R : Addr → Addr → List V → List V → Hp → Prop} (hg : Gl X "zip") (hm : X.mg "zip" = none) (ha : PA X [e, e2] ta) (hs : starEach [e, e2] X.env = (false, eval e X.env) :: starEach [e2] X.env) (hpl : (backTo pos (starEach [e2] X.env)).any (·.1) = false)
    (I : Inv X pins σ H s) (h : ta σ H fun vs H1 => ∃ a b xs ys, vs = [.ref a, .ref b] ∧ SqL X.K H1 a xs ∧ SqL X.K H1 b ys ∧ R a b xs ys H1) :
    wpAny (model X.prog X.w) X.A (eval (.Call (.Name "zip" p) [e, e2] [] pos) X.env) (fun u s' => ∃ a b xs ys z TI TO i1 i2 H1, u = .ref z ∧ Inv X pins σ H1 s' ∧ ZpM X pins a b z TI TO i1 i2 H1 s' ∧ R a b xs ys H1) X.xe s := by
  refine Call_ (ld_blt I hg hm PyProof.Rows.boot_zip (PyProof.Rows.callWith_type1 (thn (ha.run pos pins s σ H _ I h) fun us s1 ⟨vs, H1, I1, r1, q1⟩ => ?_) hs hpl))
  obtain ⟨a, b, xs, ys, ex, hqx, hqy, q⟩ := q1
  subst ex
  cases r1 with
  | cons r rr =>
    cases rr with
    | cons r' rr =>
      cases rr; cases r; cases r'
      obtain ⟨its, rv, p1, _⟩ := I1.list hqx
      obtain ⟨its2, rv2, p2, _⟩ := I1.list hqy
      refine call_zip_2 p1.isList p2.isList fun h' hz hTI hTO h1 h2 hsz hk => ?_
      have I2 : Inv X pins σ H1 { s1 with heap := h' } := I1.kept (t' := s1.toks) hk
      refine ⟨a, b, xs, ys, _, _, _, _, _, H1, rfl, I2, ⟨PySem.W.ktu_apart s1.heap.objs.size a b p1.lt p2.lt, fun c hc => ?_, hz, hTI, ⟨_, _, hTO⟩, h1, h2⟩, q⟩
      have hle : s1.heap.objs.size ≤ c ∧ c < s1.heap.objs.size + 5 := by
        simp only [List.mem_cons, List.not_mem_nil, or_false] at hc
        rcases hc with q | q | q | q | q <;> rw [q] <;> refine ⟨?_, ?_⟩ <;> first | exact Nat.le_refl _ | exact Nat.le_add_right _ _ | exact Nat.add_lt_add_left (by decide) _ | exact Nat.lt_add_of_pos_right (by decide)
      exact ⟨I1.fpOk hle.1 (I1.hok.fresh hle.1), by show c < h'.objs.size; rw [hsz]; exact hle.2⟩
theorem zp_list {A : Around} {E : Value → Shared → Prop} {Q : Value → Shared → Prop} {H0 : Hp} {Ev : Nat → Hp → List V → Prop} {s : Shared} (hA : A.handled = none) (m : ZpM X pins a b z TI TO i1 i2 H0 s) (W : ZpW X.K a b xs ys H0 Ev) (I : Inv X pins σ H0 s) (ev0 : Ev 0 H0 [])
    (hQ : ∀ S s' H' ts', H' S = none → Inv X pins σ (upd H' S (.lst ts')) s' → Ev (min xs.length ys.length) H' ts' → Q (.ref S) s') : wpAny (model X.prog X.w) A (call (.type "list") [.ref z]) Q E s := by
  have sep : s.heap.objs.size ∉ [z, TI, TO, i1, i2] := fun hm => Nat.lt_irrefl _ (m.f _ hm).2
  have hS : (s.heap.push { cls := .type "list", data := .seq #[] }).get? s.heap.objs.size = some (lsO #[] 0) := Heap.get?_push_size _ rfl
  have sz := W.ln
  refine callType_codes (Q₁ := fun obj s₁ => obj = .ref s.heap.objs.size ∧ s₁ = { s with heap := s.heap.push { cls := .type "list", data := .seq #[] } }) F.called_list (F.typeCall_list_1 _) F.entry_list_init (code_list_new _ ⟨rfl, rfl⟩) fun obj s₁ h₁ => ?_
  obtain ⟨rfl, rfl⟩ := h₁
  have fS : FpOk X pins H0 s.heap.objs.size := I.fpOk (Nat.le_refl _) (I.hok.fresh (Nat.le_refl _))
  refine ⟨⟨_, hS, rfl⟩, F.args_list_init_2 _ _, zp_init (A := A.in1) hA m.d sep W (I.kept (t' := s.toks) fun d o e => Heap.get?_push_of_some _ e) ⟨fun c hc => ?_⟩ ((m.st s.heap.objs.size).but sep fun d o _ e => Heap.get?_push_of_some _ e) (Heap.get?_push_of_some _ m.z) hS ev0 fun s' H' acc' c' ts' gr I' f' hS' rv hl hev => ?_⟩
  · have hz : (s.heap.push { cls := .type "list", data := .seq #[] }).objs.size = s.heap.objs.size + 1 := Heap.size_push ..
    show FpOk X pins H0 c ∧ c < (s.heap.push { cls := .type "list", data := .seq #[] }).objs.size
    rw [hz]
    by_cases hcS : c = s.heap.objs.size
    · rw [hcS]; exact ⟨fS, Nat.lt_succ_self _⟩
    · have := m.f c (by simp only [List.mem_cons, List.not_mem_nil, or_false] at hc ⊢; rcases hc with h | h | h | h | h | h <;> simp [h]; exact absurd h hcS)
      exact ⟨this.1, Nat.lt_succ_of_lt this.2⟩
  · exact ⟨rfl, hQ _ s' H' ts' f'.1 (inv_track I' f' ⟨by rw [hl]; exact sz, acc'.toList, c', rv, by rw [Array.toArray_toList]; exact hS'⟩) hev⟩
theorem zp_collect {A : Around} {E : Value → Shared → Prop} {Q : List Value → Shared → Prop} {H0 : Hp} {Ev : Nat → Hp → List V → Prop} {s : Shared} (hA : A.handled = none) (m : ZpM X pins a b z TI TO i1 i2 H0 s) (W : ZpW X.K a b xs ys H0 Ev) (I : Inv X pins σ H0 s) (ev0 : Ev 0 H0 [])
    (hQ : ∀ s' H' acc ts', Inv X pins σ H' s' → Vals ts' acc → ts'.length = min xs.length ys.length → Ev (min xs.length ys.length) H' ts' → Q acc s') : wpAny (model X.prog X.w) A (collect (.ref z)) Q E s := by
  have sep : s.heap.objs.size ∉ [z, TI, TO, i1, i2] := fun hm => Nat.lt_irrefl _ (m.f _ hm).2
  have fS : FpOk X pins H0 s.heap.objs.size := I.fpOk (Nat.le_refl _) (I.hok.fresh (Nat.le_refl _))
  unfold collect; refine wpAny_bind (wpAny_runValue (codeAny_builtin F.entry_proto_collect ?_))
  rw [Around.under_plainId F.plain_proto_collect _]
  show wpAny _ A.in1 (newList [] >>= fun l => again (.builtin "list.__iadd__" ⟨[l, .ref z], []⟩)) _ _ s
  refine wpAny_bind (wpAny_newObj_type (wpAny_pure ⟨plainId_quiet F.plain_list_iadd _, codeAny_builtin F.entry_list_iadd ?_⟩))
  rw [Around.under_plainId F.plain_list_iadd _]
  show wpAny _ A.in1 (Builtin.List.listExtendWith (.ref s.heap.objs.size) (.ref z) (.ref s.heap.objs.size)) _ _ _
  refine wpAny_mono (zp_ext (R := fun r s' => ∃ H' acc' c' ts', r = .ok (.ret (.ref s.heap.objs.size)) ∧ Inv X pins σ H' s' ∧ s'.heap.get? s.heap.objs.size = some (lsO acc' c') ∧ Vals ts' acc'.toList ∧ ts'.length = min xs.length ys.length ∧ Ev (min xs.length ys.length) H' ts') (s := { s with heap := s.heap.push { cls := .type "list", data := .seq ([] : List Value).toArray } }) hA m.d sep (.ref s.heap.objs.size) W (Inv.kept (s := s) (t' := s.toks) I fun d o e => Heap.get?_push_of_some _ e) ⟨fun c hc => ?_⟩ ((m.st s.heap.objs.size).but sep fun d o _ e => Heap.get?_push_of_some _ e) (Heap.get?_push_of_some _ m.z) (Heap.get?_push_size _ rfl) ev0 fun s' H' acc' c' ts' gr I' f' hS' rv hl hev => ⟨H', acc', c', ts', rfl, I', hS', rv, hl, hev⟩) (fun fin s' hf => ?_) fun e s' hf => ?_
  · have hz : (s.heap.push { cls := .type "list", data := .seq ([] : List Value).toArray }).objs.size = s.heap.objs.size + 1 := Heap.size_push ..
    show FpOk X pins H0 c ∧ c < (s.heap.push { cls := .type "list", data := .seq ([] : List Value).toArray }).objs.size
    rw [hz]
    by_cases hcS : c = s.heap.objs.size
    · rw [hcS]; exact ⟨fS, Nat.lt_succ_self _⟩
    · have := m.f c (by simp only [List.mem_cons, List.not_mem_nil, or_false] at hc ⊢; rcases hc with h | h | h | h | h | h <;> simp [h]; exact absurd h hcS)
      exact ⟨this.1, Nat.lt_succ_of_lt this.2⟩
  · have done : ∀ (r : Result) (s' : Shared), (∃ H' acc' c' ts', r = .ok (.ret (.ref s.heap.objs.size)) ∧ Inv X pins σ H' s' ∧ s'.heap.get? s.heap.objs.size = some (lsO acc' c') ∧ Vals ts' acc'.toList ∧ ts'.length = min xs.length ys.length ∧ Ev (min xs.length ys.length) H' ts') →
        (match r with
          | .ok (.ret v) => wpAny (model X.prog X.w) A (match v with
            | .ref a => load a >>= fun o => match o.data with
              | .seq xs _ => pure xs.toList
              | _ => unsupported "internal:collect"
            | _ => unsupported "internal:collect") Q E s'
          | .ok _ => False
          | .error e => E e s') := fun r s' ⟨H', acc', c', ts', er, I', hS', rv, hl, hev⟩ => by
      subst er
      exact wpAny_bind (wpAny_load hS' (wpAny_pure (hQ s' H' acc'.toList ts' I' rv hl hev)))
    cases fin with
    | done f => exact done _ _ hf
    | again c' => exact ⟨hf.1, codeAny_mono hf.2 done⟩
  · obtain ⟨_, _, _, _, er, _⟩ := hf
    cases er
theorem zp_tuple {A : Around} {E : Value → Shared → Prop} {Q : Value → Shared → Prop} {H0 : Hp} {Ev : Nat → Hp → List V → Prop} {s : Shared} (hA : A.handled = none) (m : ZpM X pins a b z TI TO i1 i2 H0 s) (W : ZpW X.K a b xs ys H0 Ev) (I : Inv X pins σ H0 s) (ev0 : Ev 0 H0 [])
    (hQ : ∀ p o s' H' ts', H' p = none → o.dict = none → Inv X pins σ (upd H' p (.frz o (.tup ts'))) s' → Ev (min xs.length ys.length) H' ts' → Q (.ref p) s') : wpAny (model X.prog X.w) A (call (.type "tuple") [.ref z]) Q E s := by
  have sz := W.ln
  refine callType_codes (Q₁ := fun obj s₁ => s₁.TypeIs obj "tuple" ∧ Q obj s₁) F.called_tuple (F.typeCall_tuple_1 _) F.entry_object_init (codeAny_of_tree ?_) fun obj s₁ h₁ => ⟨h₁.1, F.args_object_init_2 obj _, object_init_meets F.called_tuple.init.lookup F.called_tuple.made (by decide) X.prog X.w A.in1 _ s₁ ⟨h₁.1, rfl, h₁.2⟩⟩
  show wpAny _ A.in1.in1 (checkBuiltinCall "tuple.__new__" ⟨[.type "tuple", .ref z], []⟩ >>= fun _ => again (.builtin "tuple.__new__" ⟨[.type "tuple", .ref z], []⟩)) _ _ s
  refine wpAny_bind (wpAny_of_eq (F.newCall_tuple_1 _) (wpAny_pure ⟨plainId_quiet F.plain_tuple_new _, codeAny_builtin F.entry_tuple_new ?_⟩))
  rw [Around.under_plainId F.plain_tuple_new _]
  have f1 := sub_tuple_self
  have f2 := init_tuple_lookup
  have f3 := madeHere_tuple
  have hTI : s.TypeIs (.ref z) "zip" := ⟨_, m.z, rfl⟩
  have hA2 : A.in1.in1.handled = none := hA
  wp_walk using wpAny_typeOf hTI, zp_collect hA2 m W I ev0
  intro s' H' acc ts' I' rv hl hev
  show wpAny _ _ (Builtin.Tuple.tupleExact acc.toArray >>= fun v => ret v) _ _ _
  unfold Builtin.Tuple.tupleExact; refine wpAny_bind (wpAny_newObj_type (wpAny_pure ?_) (by show acc.toArray.size ≤ sizeLine; rw [List.size_toArray, ← rv.length, hl]; exact sz))
  have hp : (s'.heap.push { cls := .type "tuple", data := .seq acc.toArray }).get? s'.heap.objs.size = some { cls := .type "tuple", data := .seq acc.toArray } := Heap.get?_push_size _ rfl
  refine ⟨⟨_, hp, rfl⟩, hQ s'.heap.objs.size { cls := .type "tuple", data := .seq acc.toArray } _ H' ts' (I'.hok.fresh (Nat.le_refl _)) rfl (I'.laid (t' := s'.toks) (fun d o e => Heap.get?_push_of_some _ e) (Nat.le_refl _) ⟨hp, by rw [hl]; exact sz, acc, rv, _, hp, rfl, _, rfl⟩) hev⟩
/-- list(zip(a, b)), tuple(zip(a, b)) as rules -/
def tZpL (K : PySem.W.Frag) (ta : TA) : TE := fun σ H Q => ta σ H fun vs H1 => ∃ a b xs ys, vs = [.ref a, .ref b] ∧ SqL K H1 a xs ∧ SqL K H1 b ys ∧ ∃ Ev, ZpW K a b xs ys H1 Ev ∧ Ev 0 H1 [] ∧ ∀ S H' ts', H' S = none → Ev (min xs.length ys.length) H' ts' → Q (.ref S) (upd H' S (.lst ts'))
def tZpT (K : PySem.W.Frag) (ta : TA) : TE := fun σ H Q => ta σ H fun vs H1 => ∃ a b xs ys, vs = [.ref a, .ref b] ∧ SqL K H1 a xs ∧ SqL K H1 b ys ∧ ∃ Ev, ZpW K a b xs ys H1 Ev ∧ Ev 0 H1 [] ∧ ∀ p o H' ts', H' p = none → o.dict = none → Ev (min xs.length ys.length) H' ts' → Q (.ref p) (upd H' p (.frz o (.tup ts')))
theorem pe_listZp {e e2 : Expr} {ta : TA} {p p1 p2 pos : Pos} (hc : X.calm = true) (hg : Gl X "list") (hm : X.mg "list" = none) (hg2 : Gl X "zip") (hm2 : X.mg "zip" = none) (ha : PA X [e, e2] ta) (hs : starEach [e, e2] X.env = (false, eval e X.env) :: starEach [e2] X.env) (hpl : (backTo p2 (starEach [e2] X.env)).any (·.1) = false) :
    PE X (.Call (.Name "list" p) [.Call (.Name "zip" p1) [e, e2] [] p2] [] pos) (tZpL X.K ta) := by
  refine ⟨fun pins s σ H Q I h => ?_⟩
  refine Call_ (ld_blt I hg hm boot_list (PyProof.Rows.callWith_type1 (args_cons (thn (zp_make hg2 hm2 ha hs hpl I h) fun x s1 ⟨a, b, xs, ys, z, TI, TO, i1, i2, H1, ex, I1, m, Ev, W, ev0, q⟩ => args_nil ?_) rfl) rfl))
  subst ex
  exact zp_list (I1.ok.hd hc) m W I1 ev0 fun S s' H' ts' n I' ev => ⟨.ref S, _, I', rfl, q S H' ts' n ev⟩
theorem pe_tupleZp {e e2 : Expr} {ta : TA} {p p1 p2 pos : Pos} (hc : X.calm = true) (hg : Gl X "tuple") (hm : X.mg "tuple" = none) (hg2 : Gl X "zip") (hm2 : X.mg "zip" = none) (ha : PA X [e, e2] ta) (hs : starEach [e, e2] X.env = (false, eval e X.env) :: starEach [e2] X.env) (hpl : (backTo p2 (starEach [e2] X.env)).any (·.1) = false) :
    PE X (.Call (.Name "tuple" p) [.Call (.Name "zip" p1) [e, e2] [] p2] [] pos) (tZpT X.K ta) := by
  refine ⟨fun pins s σ H Q I h => ?_⟩
  refine Call_ (ld_blt I hg hm boot_tuple (PyProof.Rows.callWith_type1 (args_cons (thn (zp_make hg2 hm2 ha hs hpl I h) fun x s1 ⟨a, b, xs, ys, z, TI, TO, i1, i2, H1, ex, I1, m, Ev, W, ev0, q⟩ => args_nil ?_) rfl) rfl))
  subst ex
  exact zp_tuple (I1.ok.hd hc) m W I1 ev0 fun p o s' H' ts' n od I' ev => ⟨.ref p, _, I', rfl, q p o H' ts' n od ev⟩
end
end DL

/-! DL, part I: the rules for the core expressions -/
namespace DL
open PySem PySem.Spec PyProof.Rows L2
section
variable {Γ : Gx} {L : Lv} {k : Nat} {gl : List D} {F : Fns} {X : Cx} {a b c : CE} {e l r m : Expr} {pos : Pos}

theorem lx_pure {w : DSt → DH → QD → XD → Prop} {d : D} {v : V} (hw : ∀ s h Q E, w s h Q E → Q d h) (hr : ∀ H, RD L.K H v d) : ∀ σ H Q, Lx L w σ H Q → tC v σ H Q := fun σ H Q ⟨s, h, Q0, le, rs, rh, q, hq⟩ =>
  (hq _ _ (hw _ _ _ _ q)).here (hr H) rh
theorem snd_non {j : Nat} : Snd L gl F X .non (.Constant .none j pos) := .of (PE.imp pe_non (lx_pure (fun s h Q E q => by simpa only [wE] using q) fun _ => .non)) (fun _ => rfl) (fun _ _ _ q => nomatch q)
theorem snd_bl {j : Nat} {b : Bool} : Snd L gl F X (.bl b) (.Constant (.bool b) j pos) := .of (PE.imp pe_bl (lx_pure (fun s h Q E q => by simpa only [wE] using q) fun _ => .bl b)) (fun _ => rfl) (fun _ _ _ q => nomatch q)
theorem snd_int {j : Nat} {i : Int} : Snd L gl F X (.int i) (.Constant (.int i) j pos) := .of (PE.imp pe_int (lx_pure (fun s h Q E q => by simpa only [wE] using q) fun _ => .int i)) (fun _ => rfl) (fun _ _ _ q => nomatch q)
theorem snd_str {j : Nat} {x : Str} : Snd L gl F X (.str x) (.Constant (.str x) j pos) := .of (PE.imp pe_str (lx_pure (fun s h Q E q => by simpa only [wE] using q) fun _ => .str x)) (fun _ => rfl) (fun _ _ _ q => nomatch q)
theorem snd_var (O : XO Γ L k gl F X) {i : Nat} {x : Str} (hN : Γ.N[i]? = some x) (hv : visB Γ.sc x = true) (hn : okN x = true) : Snd L gl F X (.var i) (.Name x pos) := by
  refine .of (PE.imp (pe_var (by rw [O.N]; exact hN) (by rw [O.sc]; exact visB_ok hv) (okN_1 hn) (okN_2 hn)) fun σ H Q ⟨s, h, Q0, le, rs, rh, q, hq⟩ => ?_) (fun _ => rfl) (fun _ _ _ q => nomatch q)
  simp only [wE] at q
  split at q
  · rename_i d hd
    obtain ⟨v, h1, h2⟩ := rs.2 i d hd
    exact ⟨v, h1, (hq _ _ q).here h2 rh⟩
  · exact q.elim
theorem snd_glb (O : XO Γ L k gl F X) {i : Nat} {x : Str} (hN : Γ.cns[i]? = some x) (hv : glB Γ.sc x = true) (hn : okN x = true) : Snd L gl F X (.glb i) (.Name x pos) := by
  obtain ⟨v, u, d, hd, hm, rv, rd⟩ := O.tab.cn i x hN
  refine .of (PE.imp (pe_glob (O.glo hv) hm rv (okN_1 hn)) (lx_pure (d := d) (fun s h Q E q => ?_) fun H => by rw [← O.K]; exact rd H)) (fun _ => rfl) (fun _ _ _ q => nomatch q)
  simp only [wE] at q
  rw [hd] at q
  exact q
theorem snd_bin (O : XO Γ L k gl F X) {z : Bool} {op : Operator} (ha : Snd L gl F X a l) (hb : Snd L gl F X b r) : Snd L gl F X (.bin z op a b) (.BinOp l op r pos) := by
  refine .of (PE.imp (pe_fz (pe_op (bin_ok (C := L.C) op) ha.pe hb.pe)) fun σ H Q ⟨s, h, Q0, le, rs, rh, q, hq⟩ => ?_) (fun _ => rfl) (fun _ _ _ q => nomatch q)
  simp only [wE] at q
  refine ⟨s, h, _, le, rs, rh, q, fun d1 h1 q1 v1 H1 l1 r1 rh1 => ⟨s, h1, _, le.trans l1, rs.le l1.le, rh1, q1, fun d2 h2 q2 v2 H2 l2 r2 rh2 => ?_⟩⟩
  rw [O.K]
  exact ⟨d1, d2, h2, zQ z Q0, r1.le l2.le, r2, rh2, wBin_z q2, fun y h' q' => by rw [← O.K] at hq ⊢; exact (zq_LQ hq y h' q').le (l1.trans l2)⟩
theorem snd_cmp (O : XO Γ L k gl F X) {op : CmpOp} (ha : Snd L gl F X a l) (hb : Snd L gl F X b r) (hs : notSet r = true) : Snd L gl F X (.cmp op a b) (.Compare l [op] [r] pos) := by
  have hu : X.A.units + 65 < cLine := by have := O.rm.u; omega
  refine ⟨PE.imp (pe_cmpR (cmp_ok (C := L.C) hu op) ha.pe hb.pe (nomarkS hs)) fun σ H Q ⟨s, h, Q0, le, rs, rh, q, hq⟩ => ?_, PT.imp (pt_cmpR (cmp_ok (C := L.C) hu op) ha.pe hb.pe (nomarkS hs)) fun σ H Q ⟨s, h, Q0, le, rs, rh, q, hq⟩ => ?_, fun _ _ _ q => nomatch q⟩
  · simp only [wE] at q
    refine ⟨s, h, _, le, rs, rh, q, fun d1 h1 q1 v1 H1 l1 r1 rh1 => ⟨s, h1, _, le.trans l1, rs.le l1.le, rh1, q1, fun d2 h2 q2 v2 H2 l2 r2 rh2 => ?_⟩⟩
    rw [O.K]
    exact ⟨d1, d2, h2, Q0, r1.le l2.le, r2, rh2, q2, fun z h' q' => (hq z h' q').le (l1.trans l2)⟩
  · simp only [wE] at q
    refine ⟨s, h, _, le, rs, rh, q, fun d1 h1 q1 v1 H1 l1 r1 rh1 => ⟨s, h1, _, le.trans l1, rs.le l1.le, rh1, q1, fun d2 h2 q2 v2 H2 l2 r2 rh2 => ?_⟩⟩
    rw [O.K]
    refine ⟨d1, d2, h2, asB Q0, r1.le l2.le, r2, rh2, q2, fun z h' q' v3 H3 l3 r3 rh3 => ?_⟩
    obtain ⟨b, rfl, rfl, q4⟩ := asB_rd r3 q'
    exact ⟨b, rfl, hq b h' q4 H3 ((l1.trans l2).trans l3) rh3⟩
theorem snd_neg (O : XO Γ L k gl F X) (ha : Snd L gl F X a l) : Snd L gl F X (.neg a) (.UnaryOp .USub l pos) := by
  refine .of (PE.imp (pe_un (neg_ok (C := L.C)) ha.pe) fun σ H Q ⟨s, h, Q0, le, rs, rh, q, hq⟩ => ?_) (fun _ => rfl) (fun _ _ _ q => nomatch q)
  simp only [wE] at q
  refine ⟨s, h, _, le, rs, rh, q, fun d1 h1 q1 v1 H1 l1 r1 rh1 => ?_⟩
  rw [O.K]
  exact ⟨d1, h1, Q0, r1, rh1, q1, fun z h' q' => (hq z h' q').le l1⟩
theorem snd_no (ha : Snd L gl F X a l) : Snd L gl F X (.no a) (.UnaryOp .Not l pos) := by
  refine ⟨PE.imp (pe_not ha.pe) fun σ H Q ⟨s, h, Q0, le, rs, rh, q, hq⟩ => ?_, PT.imp (pt_not ha.pt) fun σ H Q ⟨s, h, Q0, le, rs, rh, q, hq⟩ => ?_, fun _ _ _ q => nomatch q⟩
  · simp only [wE] at q
    refine ⟨s, h, _, le, rs, rh, q, fun d1 h1 q1 v1 H1 l1 r1 rh1 => ?_⟩
    obtain ⟨b, rfl, rfl, q2⟩ := asB_rd r1 q1
    exact ⟨b, rfl, (hq _ _ q2) _ _ l1 (.bl _) rh1⟩
  · simp only [wE] at q
    exact ⟨s, h, _, le, rs, rh, q, fun b h1 q1 H1 l1 rh1 => hq _ _ q1 _ l1 rh1⟩
theorem and_pe {rest : List Expr} (ha : Snd L gl F X a l) (hb : PE X (.BoolOp .And (r :: rest) pos) (Lx L (wE gl F b))) : PE X (.BoolOp .And (l :: r :: rest) pos) (Lx L (wE gl F (.and a b))) := by
  refine PE.imp (pe_and ha.pe hb) fun σ H Q ⟨s, h, Q0, le, rs, rh, q, hq⟩ => ?_
  simp only [wE] at q
  refine ⟨s, h, _, le, rs, rh, q, fun d1 h1 q1 v1 H1 l1 r1 rh1 => ?_⟩
  obtain ⟨b1, rfl, rfl, q2⟩ := asB_rd r1 q1
  refine ⟨b1, rfl, ?_⟩
  cases b1 with
  | false => exact (hq _ _ q2) _ _ l1 (.bl _) rh1
  | true =>
    refine ⟨s, h1, _, le.trans l1, rs.le l1.le, rh1, q2, fun d2 h2 q3 v2 H2 l2 r2 rh2 => ?_⟩
    obtain ⟨b2, rfl, rfl, q4⟩ := asB_rd r2 q3
    exact (hq _ _ q4) _ _ (l1.trans l2) (.bl _) rh2
theorem or_pe {rest : List Expr} (ha : Snd L gl F X a l) (hb : PE X (.BoolOp .Or (r :: rest) pos) (Lx L (wE gl F b))) : PE X (.BoolOp .Or (l :: r :: rest) pos) (Lx L (wE gl F (.or a b))) := by
  refine PE.imp (pe_or ha.pe hb) fun σ H Q ⟨s, h, Q0, le, rs, rh, q, hq⟩ => ?_
  simp only [wE] at q
  refine ⟨s, h, _, le, rs, rh, q, fun d1 h1 q1 v1 H1 l1 r1 rh1 => ?_⟩
  obtain ⟨b1, rfl, rfl, q2⟩ := asB_rd r1 q1
  refine ⟨b1, rfl, ?_⟩
  cases b1 with
  | true => exact (hq _ _ q2) _ _ l1 (.bl _) rh1
  | false =>
    refine ⟨s, h1, _, le.trans l1, rs.le l1.le, rh1, q2, fun d2 h2 q3 v2 H2 l2 r2 rh2 => ?_⟩
    obtain ⟨b2, rfl, rfl, q4⟩ := asB_rd r2 q3
    exact (hq _ _ q4) _ _ (l1.trans l2) (.bl _) rh2
theorem and_pw {rest : List Expr} (ha : Snd L gl F X a l) (hb : PW X (.BoolOp .And (r :: rest) pos) (Lt L (wE gl F b))) : PW X (.BoolOp .And (l :: r :: rest) pos) (Lt L (wE gl F (.and a b))) := by
  refine PW.imp (pw_and ha.pt hb) fun σ H Q ⟨s, h, Q0, le, rs, rh, q, hq⟩ => ?_
  simp only [wE] at q
  have q : wE gl F a s h (asB fun c h1 => if c = true then wE gl F b s h1 (asB Q0) (fun x h' => L.EX x s h') else Q0 false h1) (fun x h' => L.EX x s h') := q
  refine ⟨s, h, _, le, rs, rh, q, fun b1 h1 q1 H1 l1 rh1 => ?_⟩
  cases b1 with
  | false => exact hq _ _ q1 _ l1 rh1
  | true => exact ⟨s, h1, Q0, le.trans l1, rs.le l1.le, rh1, q1, fun b2 h2 q3 H2 l2 rh2 => hq _ _ q3 _ (l1.trans l2) rh2⟩
theorem or_pw {rest : List Expr} (ha : Snd L gl F X a l) (hb : PW X (.BoolOp .Or (r :: rest) pos) (Lt L (wE gl F b))) : PW X (.BoolOp .Or (l :: r :: rest) pos) (Lt L (wE gl F (.or a b))) := by
  refine PW.imp (pw_or ha.pt hb) fun σ H Q ⟨s, h, Q0, le, rs, rh, q, hq⟩ => ?_
  simp only [wE] at q
  have q : wE gl F a s h (asB fun c h1 => if c = true then Q0 true h1 else wE gl F b s h1 (asB Q0) (fun x h' => L.EX x s h')) (fun x h' => L.EX x s h') := q
  refine ⟨s, h, _, le, rs, rh, q, fun b1 h1 q1 H1 l1 rh1 => ?_⟩
  cases b1 with
  | true => exact hq _ _ q1 _ l1 rh1
  | false => exact ⟨s, h1, Q0, le.trans l1, rs.le l1.le, rh1, q1, fun b2 h2 q3 H2 l2 rh2 => hq _ _ q3 _ (l1.trans l2) rh2⟩
theorem snd_and1 (ha : Snd L gl F X a l) (hb : Snd L gl F X b r) : Snd L gl F X (.and a b) (.BoolOp .And [l, r] pos) :=
  have w := and_pw (pos := pos) ha (pw_and1 hb.pt)
  ⟨and_pe ha (pe_one hb.pe), w.pt, fun _ _ _ q => by cases q; exact w⟩
theorem snd_and2 {rest : List Expr} (ha : Snd L gl F X a l) (hb : Snd L gl F X b (.BoolOp .And (r :: m :: rest) pos)) : Snd L gl F X (.and a b) (.BoolOp .And (l :: r :: m :: rest) pos) :=
  have w := and_pw (pos := pos) ha (hb.pw _ _ _ rfl)
  ⟨and_pe ha hb.pe, w.pt, fun _ _ _ q => by cases q; exact w⟩
theorem snd_or1 (ha : Snd L gl F X a l) (hb : Snd L gl F X b r) : Snd L gl F X (.or a b) (.BoolOp .Or [l, r] pos) :=
  have w := or_pw (pos := pos) ha (pw_or1 hb.pt)
  ⟨or_pe ha (pe_one hb.pe), w.pt, fun _ _ _ q => by cases q; exact w⟩
theorem snd_or2 {rest : List Expr} (ha : Snd L gl F X a l) (hb : Snd L gl F X b (.BoolOp .Or (r :: m :: rest) pos)) : Snd L gl F X (.or a b) (.BoolOp .Or (l :: r :: m :: rest) pos) :=
  have w := or_pw (pos := pos) ha (hb.pw _ _ _ rfl)
  ⟨or_pe ha hb.pe, w.pt, fun _ _ _ q => by cases q; exact w⟩
theorem lastM {op op' : CmpOp} {m r : Expr} (h : notSet r = true) : lastMarks [op, op'] [m, r] = false := by
  show behindInMarks op' r = false
  exact nomarkS h
theorem snd_chn (O : XO Γ L k gl F X) {op op' : CmpOp} (ha : Snd L gl F X a l) (hb : Snd L gl F X b m) (hc : Snd L gl F X c r) (hs : notSet r = true) : Snd L gl F X (.chn op op' a b c) (.Compare l [op, op'] [m, r] pos) := by
  have hu : X.A.units + 65 < cLine := by have := O.rm.u; omega
  have core : ∀ {σ : L2.St} {H : Hp} {Q : VK} {s : DSt} {h : DH} {Q0 : QD}, Ste L.H0 L.h0 H h → RS L.K H σ s → RH L.K L.C H h → wE gl F (.chn op op' a b c) s h Q0 (fun x h' => L.EX x s h') → (∀ d h', Q0 d h' → LQ L.K L.C H h Q d h') →
      tChain (fun x y H Q => ∃ d e h Q0, RD X.K H x d ∧ RD X.K H y e ∧ RH X.K L.C H h ∧ wCmp op d e h Q0 ∧ ∀ r h', Q0 r h' → LQ X.K L.C H h Q r h') (fun x y H Q => ∃ d e h Q0, RD X.K H x d ∧ RD X.K H y e ∧ RH X.K L.C H h ∧ wCmp op' d e h Q0 ∧ ∀ r h', Q0 r h' → LQ X.K L.C H h Q r h') (Lx L (wE gl F a)) (Lx L (wE gl F b)) (Lx L (wE gl F c)) σ H Q := by
    intro σ H Q s h Q0 le rs rh q hq
    simp only [wE] at q
    refine ⟨s, h, _, le, rs, rh, q, fun d1 h1 q1 v1 H1 l1 r1 rh1 => ⟨s, h1, _, le.trans l1, rs.le l1.le, rh1, q1, fun d2 h2 q2 v2 H2 l2 r2 rh2 => ?_⟩⟩
    rw [O.K]
    refine ⟨d1, d2, h2, _, r1.le l2.le, r2, rh2, q2, fun z h3 q3 v3 H3 l3 r3 rh3 => ?_⟩
    obtain ⟨b1, rfl, rfl, q4⟩ := asB_rd r3 q3
    refine ⟨b1, rfl, ?_⟩
    cases b1 with
    | false => exact (hq _ _ q4) _ _ ((l1.trans l2).trans l3) (.bl _) rh3
    | true =>
      refine ⟨s, h3, _, (le.trans l1).trans (l2.trans l3), (rs.le l1.le).le (l2.le.trans l3.le), rh3, q4, fun d4 h4 q5 v4 H4 l4 r4 rh4 => ?_⟩
      exact ⟨d2, d4, h4, Q0, (r2.le l3.le).le l4.le, r4, rh4, q5, fun z h' q' => (hq z h' q').le (((l1.trans l2).trans l3).trans l4)⟩
  refine ⟨PE.imp (pe_chain (cmp_ok (C := L.C) hu op) (cmp_ok (C := L.C) hu op') ha.pe hb.pe hc.pe (lastM hs)) fun σ H Q ⟨s, h, Q0, le, rs, rh, q, hq⟩ => core le rs rh q hq,
    PT.imp (pt_chain (cmp_ok (C := L.C) hu op) (cmp_ok (C := L.C) hu op') ha.pe hb.pe hc.pe (lastM hs)) fun σ H Q ⟨s, h, Q0, le, rs, rh, q, hq⟩ => core le rs rh q (fun d h' q1 v H' l r rh' => ?_), fun _ _ _ q => nomatch q⟩
  obtain ⟨b1, rfl, rfl, q4⟩ := asB_rd r q1
  exact ⟨b1, rfl, hq _ _ q4 _ l rh'⟩
/-- the value is asked for its truth as it is -/
theorem plainV_ok {e : Expr} (h : plainV e = true) : (∀ (env : Env) whole, isTrue e env whole = (do let v ← whole; standAt e.pos; holding [v] (truthy v))) ∧ ∀ op vs pos, e ≠ .BoolOp op vs pos := by
  cases e <;> first
    | exact ⟨fun _ _ => rfl, fun _ _ _ q => nomatch q⟩
    | exact absurd h Bool.false_ne_true
theorem Snd.frz (S : Snd L gl F X c e) (hp : plainV e = true) : Snd L gl F X (.frz c) e := by
  refine .of (PE.imp (pe_fz S.pe) fun σ H Q ⟨s, h, Q0, le, rs, rh, q, hq⟩ => ?_) (fun w => (plainV_ok hp).1 X.env w) (plainV_ok hp).2
  simp only [wE] at q
  exact ⟨s, h, _, le, rs, rh, q, zq_LQ (z := true) hq⟩
theorem rst_some {h h2 : DH} {b : Addr} {o : DO} (e : rst h h2 b = some o) : h2 b = some o := by
  unfold rst at e
  split at e
  · cases e
  · exact e
theorem Ste.rst {H H' : Hp} {h h' : DH} (l : Ste H h H' h') : Ste H h H' (rst h h') := ⟨l.le, l.fr, fun a o n _ => by unfold DL.rst; rw [n]⟩
theorem RH.rst {K : PySem.W.Frag} {C : CA} {H : Hp} {h h' : DH} (r : RH K C H h') : RH K C H (rst h h') := fun a o e => r a o (rst_some e)
theorem Snd.gc (S : Snd L gl F X c e) (hp : plainV e = true) : Snd L gl F X (.gc c) e := by
  refine .of (PE.imp S.pe fun σ H Q ⟨s, h, Q0, le, rs, rh, q, hq⟩ => ?_) (fun w => (plainV_ok hp).1 X.env w) (plainV_ok hp).2
  simp only [wE] at q
  exact ⟨s, h, _, le, rs, rh, q, fun d h' q' v H' l r rh' => hq _ _ q' v H' l.rst r rh'.rst⟩
theorem snd_ife {t : CE} {u : Expr} (ht : Snd L gl F X t u) (ha : Snd L gl F X a l) (hb : Snd L gl F X b r) : PE X (.IfExp u l r pos) (Lx L (wE gl F (.ife t a b))) := by
  refine PE.imp (pe_ifExp ht.pt ha.pe hb.pe) fun σ H Q ⟨s, h, Q0, le, rs, rh, q, hq⟩ => ?_
  simp only [wE] at q
  refine ⟨s, h, _, le, rs, rh, q, fun b1 h1 q1 H1 l1 rh1 => ?_⟩
  cases b1 with
  | true => exact ⟨s, h1, Q0, le.trans l1, rs.le l1.le, rh1, q1, fun d h' q' => (hq d h' q').le l1⟩
  | false => exact ⟨s, h1, Q0, le.trans l1, rs.le l1.le, rh1, q1, fun d h' q' => (hq d h' q').le l1⟩
end
end DL

/-! DL, part J: displays, subscripts, calls -/
namespace DL
open PySem PySem.Spec PyProof.Rows L2
section
variable {Γ : Gx} {L : Lv} {k : Nat} {gl : List D} {F : Fns} {X : Cx} {a b c : CE} {es : CEs} {e l r m : Expr} {xs : List Expr} {pos apos : Pos}
theorem snd_ife2 {t : CE} {u : Expr} (ht : Snd L gl F X t u) (ha : Snd L gl F X a l) (hb : Snd L gl F X b r) : Snd L gl F X (.ife t a b) (.IfExp u l r pos) := by
  refine ⟨snd_ife ht ha hb, ⟨fun pins s0 σ H Q I ⟨s, h, Q0, le, rs, rh, q, hq⟩ => ?_⟩, fun _ _ _ q => nomatch q⟩
  simp only [wE] at q
  show wpAny (model X.prog X.w) X.A (isTrue u X.env (eval u X.env) >>= fun b => if b = true then isTrue l X.env (eval l X.env) else isTrue r X.env (eval r X.env)) _ _ _
  have q : wE gl F t s h (asB fun c h1 => if c = true then wE gl F a s h1 (asB Q0) (fun x h' => L.EX x s h') else wE gl F b s h1 (asB Q0) (fun x h' => L.EX x s h')) (fun x h' => L.EX x s h') := q
  have w := ht.pt.run pins s0 σ H (fun b0 H1 => if b0 = true then Lt L (wE gl F a) σ H1 Q else Lt L (wE gl F b) σ H1 Q) I ⟨s, h, _, le, rs, rh, q, fun b1 h1 q1 H1 l1 rh1 => by
    cases b1 with
    | true => exact ⟨s, h1, Q0, le.trans l1, rs.le l1.le, rh1, q1, fun d h' q' H' l' rh' => hq d h' q' H' (l1.trans l') rh'⟩
    | false => exact ⟨s, h1, Q0, le.trans l1, rs.le l1.le, rh1, q1, fun d h' q' H' l' rh' => hq d h' q' H' (l1.trans l') rh'⟩⟩
  refine wpAny_bind (thn w fun b1 s1 ⟨H1, I1, q1⟩ => ?_)
  cases b1 with
  | true => exact ha.pt.run pins s1 σ H1 Q I1 q1
  | false => exact hb.pt.run pins s1 σ H1 Q I1 q1

/-! lists of expressions -/
theorem la_nil : PA X [] (La L (wEs gl F .nil)) := PA.imp pa_nil fun σ H Q ⟨s, h, Q0, le, rs, rh, q, hq⟩ => by
  simp only [wEs] at q
  exact hq _ _ q [] H .refl .nil rh
theorem la_cons (hn : notStar e = true) (ha : PE X e (Lx L (wE gl F a))) (hr : PA X xs (La L (wEs gl F es))) : PA X (e :: xs) (La L (wEs gl F (.cons a es))) := by
  refine PA.imp (pa_cons ha hr (star1 hn)) fun σ H Q ⟨s, h, Q0, le, rs, rh, q, hq⟩ => ?_
  simp only [wEs] at q
  refine ⟨s, h, _, le, rs, rh, q, fun d1 h1 q1 v1 H1 l1 r1 rh1 => ⟨s, h1, _, le.trans l1, rs.le l1.le, rh1, q1, fun ds h2 q2 vs H2 l2 r2 rh2 => ?_⟩⟩
  exact hq _ _ q2 (v1 :: vs) H2 (l1.trans l2) (.cons (r1.le l2.le) r2) rh2
theorem snd_tup {j : Nat} (h : PA X xs (La L (wEs gl F es))) : Snd L gl F X (.tup es) (.Tuple xs j pos) := by
  refine .of (PE.imp (pe_tup h) fun σ H Q ⟨s, h, Q0, le, rs, rh, q, hq⟩ => ?_) (fun _ => rfl) (fun _ _ _ q => nomatch q)
  simp only [wE] at q
  have hz := sizeLine_eq
  refine ⟨s, h, _, le, rs, rh, q, fun ds h1 q1 vs H1 l1 r1 rh1 => ⟨by rw [r1.length]; have := q1.1; omega, fun p hp => ?_⟩⟩
  exact hq _ _ q1.2 (.ref p) _ (l1.trans (Ste.side hp)) (.tup upd_same (r1.le (Le.new hp))) (rh1.side hp)
/-- a tuple as it is made, known whole -/
theorem pe_ktup {es : List Expr} {t : TA} {x1 : Nat} (h : PA X es t) : PE X (.Tuple es x1 pos) (fun σ H Q => t σ H fun vs H1 => vs.length ≤ sizeLine ∧ ∀ (p : Addr) (o : Obj), H1 p = none → o.dict = none → Q (.ref p) (upd H1 p (.frz o (.tup vs)))) := by
  refine ⟨fun pins s σ H Q I hq => ?_⟩
  refine wpAny_Tuple_spliced (thn (h.run pos pins s σ H _ I hq) fun us s1 ⟨xs, H1, I1, r, z, q⟩ => ⟨by rw [← r.length]; exact z, ?_⟩)
  have hf : H1 s1.heap.objs.size = none := I1.hok.fresh (Nat.le_refl _)
  refine ⟨.ref s1.heap.objs.size, _, I1.laid (t' := s1.toks) (fun b u e => Heap.get?_push_of_some _ e) (Nat.le_refl _) (show ObjOk X.prog X.w _ _ _ (.frz { cls := .type "tuple", data := .seq us.toArray } (.tup xs)) from ⟨Heap.get?_push_size _ rfl, z, us, r, IsTup.new _ _⟩), rfl, q _ _ hf rfl⟩
theorem snd_ktup {j : Nat} (h : PA X xs (La L (wEs gl F es))) : Snd L gl F X (.ktup es) (.Tuple xs j pos) := by
  refine .of (PE.imp (pe_ktup h) fun σ H Q ⟨s, h, Q0, le, rs, rh, q, hq⟩ => ?_) (fun _ => rfl) (fun _ _ _ q => nomatch q)
  simp only [wE] at q
  have hz := sizeLine_eq
  refine ⟨s, h, _, le, rs, rh, q, fun ds h1 q1 vs H1 l1 r1 rh1 => ⟨by rw [r1.length]; have := q1.1; omega, fun p o hp ho => ?_⟩⟩
  exact hq _ _ q1.2 (.ref p) _ (l1.trans (Ste.side hp)) (.kt (.inl (.inr ⟨o, upd_same⟩)) (fun _ => ⟨o, _, upd_same, ho⟩) (r1.le (Le.new hp))) (rh1.side hp)
theorem snd_lst {z : Bool} (h : PA X xs (La L (wEs gl F es))) : Snd L gl F X (.lst z es) (.List xs pos) := by
  refine .of (PE.imp (pe_fz (pe_lst h)) fun σ H Q ⟨s, h, Q0, le, rs, rh, q, hq⟩ => ?_) (fun _ => rfl) (fun _ _ _ q => nomatch q)
  simp only [wE] at q
  have hz := sizeLine_eq
  refine ⟨s, h, _, le, rs, rh, q, fun ds h1 q1 vs H1 l1 r1 rh1 => ⟨by rw [r1.length]; have := q1.1; omega, fun p hp => ?_⟩⟩
  exact zq_LQ hq _ _ (al_z q1.2 p (rh1.free hp)) (.ref p) _ (l1.trans (Ste.new hp)) (.ref p) (rh1.new hp ⟨vs, upd_same, r1.le (Le.new hp)⟩)
theorem pe_dnew2 : PE X (.Dict [] [] pos) (fun σ H Q => tDNewK σ H Q ∨ tDNewT σ H Q) := ⟨fun pins s σ H Q I h => h.elim (pe_dnewK.run pins s σ H Q I) (pe_dnewT.run pins s σ H Q I)⟩
theorem snd_dnew : Snd L gl F X .dnew (.Dict [] [] pos) := by
  refine .of (PE.imp pe_dnew2 fun σ H Q ⟨s, h, Q0, le, rs, rh, q, hq⟩ => ?_) (fun _ => rfl) (fun _ _ _ q => nomatch q)
  simp only [wE] at q
  rcases q with q | q
  · exact .inl fun p hp => hq _ _ (q p (rh.free hp)) (.ref p) _ (Ste.new hp) (.ref p) (rh.new hp ⟨[], upd_same, .nil⟩)
  · exact .inr fun p hp => hq _ _ (q p (rh.free hp)) (.ref p) _ (Ste.new hp) (.ref p) (rh.new hp ⟨[], upd_same, .nil⟩)
theorem snd_rev {z : Bool} (O : XO Γ L k gl F X) (ha : Snd L gl F X a l) {kk : Nat} {p1 p2 p3 : Pos} : Snd L gl F X (.rev z a) (.Subscript l (.Slice none none (some (.UnaryOp .USub (.Constant (.int 1) kk p1) p2)) p3) pos) := by
  refine .of (PE.imp (pe_fz (pe_back ha.pe)) fun σ H Q ⟨s, h, Q0, le, rs, rh, q, hq⟩ => ?_) (fun _ => rfl) (fun _ _ _ q => nomatch q)
  simp only [wE] at q
  refine ⟨s, h, _, le, rs, rh, q, fun d1 h1 q1 v1 H1 l1 r1 rh1 => ?_⟩
  rw [O.K]
  unfold wRev at q1
  have hz := sizeLine_eq
  split at q1
  · cases r1
    exact .inl ⟨_, rfl, by omega, ((zq_LQ (z := false) hq) _ _ q1.2) (.str _) _ l1 (.str _) rh1⟩
  · cases r1 with
    | tup sq r => exact .inr ⟨_, _, rfl, .inr ⟨.inl (.inl sq), fun p hp => (zq_LQ (z := false) hq) _ _ q1 (.ref p) _ (l1.trans (Ste.side hp)) (.tup upd_same (r.reverse.le (Le.new hp))) (rh1.side hp)⟩⟩
  · cases r1 with
    | kt sq _ r => exact .inr ⟨_, _, rfl, .inr ⟨sq, fun p hp => (zq_LQ (z := false) hq) _ _ q1 (.ref p) _ (l1.trans (Ste.side hp)) (.tup upd_same (r.reverse.le (Le.new hp))) (rh1.side hp)⟩⟩
  · split at q1
    · rename_i xs e
      obtain ⟨p, vs, rfl, sq, r⟩ := lstOf_rd rh1 r1 e
      exact .inr ⟨p, vs, rfl, .inl ⟨sq, fun p hp => zq_LQ hq _ _ (al_z q1 p (rh1.free hp)) (.ref p) _ (l1.trans (Ste.new hp)) (.ref p) (rh1.new hp ⟨vs.reverse, upd_same, r.reverse.le (Le.new hp)⟩)⟩⟩
    · exact q1.elim
theorem rps_merge {K : PySem.W.Frag} {H : Hp} : ∀ (ks : List Key) {vs : List V} {ds : List D} {gs : List (Key × V)} {fs : List (Key × D)}, RDs K H vs ds → RPs K H gs fs → RPs K H (mergeK gs (ks.zip vs)) ((ks.zip ds).foldl (fun acc kv => dput acc kv.1 kv.2) fs)
  | [], _, _, _, _, _, r => r
  | _ :: _, _, _, _, _, .nil, r => r
  | k :: ks, _, _, _, _, .cons a b, r => rps_merge ks b (RPs.put a r)
def SndsP (Γ : Gx) (L : Lv) (gl : List D) (F : Fns) (X : Cx) : CEs → Prop
  | .nil => True
  | .cons c cs => (∀ e, chk Γ c e = true → Snd L gl F X c e) ∧ SndsP Γ L gl F X cs
theorem pps_ok (O : XO Γ L k gl F X) : ∀ (es : CEs) (ks : List Key) (keys : List (Option Expr)) (vals : List Expr), SndsP Γ L gl F X es → chkK ks keys = true → keys.length = vals.length → chks Γ es vals = true → ∃ trs, PPs X pos keys vals trs ∧ ks.length = keys.length ∧ keys.all (·.isSome) = true ∧
    ∀ σ H Q, (∃ s h Q0, Ste L.H0 L.h0 H h ∧ RS L.K H σ s ∧ RH L.K L.C H h ∧ wEs gl F es s h Q0 (fun x h' => L.EX x s h') ∧ ∀ ds h', Q0 ds h' → ∀ (vs : List V) H', Ste H h H' h' → RDs L.K H' vs ds → RH L.K L.C H' h' → Q ((ks.zip vs).map fun p => (kV p.1, p.2)) H') → tPairs trs σ H Q
  | .nil, ks, keys, [], _, hk, hl, _ => by
    have : keys = [] := List.length_eq_zero_iff.mp hl
    subst this
    have : ks = [] := by
      cases ks with
      | nil => rfl
      | cons k r => cases k <;> simp [chkK] at hk
    subst this
    refine ⟨[], pps_nil, rfl, rfl, fun σ H Q ⟨s, h, Q0, le, rs, rh, q, hq⟩ => ?_⟩
    simp only [wEs] at q
    exact hq _ _ q [] H .refl .nil rh
  | .nil, _, _, _ :: _, _, _, _, h => by simp [chks] at h
  | .cons _ _, _, _, [], _, _, _, h => by simp [chks] at h
  | .cons c cs, ks, keys, v :: r, S, hk, hl, h => by
    simp only [chks, Bool.and_eq_true] at h
    have go : ∀ (kk : Key) (kr : List Key) (ke : Expr) (kt : List (Option Expr)), ks = kk :: kr → keys = some ke :: kt → PE X ke (tC (kV kk)) → chkK kr kt = true → ∃ trs, PPs X pos keys (v :: r) trs ∧ ks.length = keys.length ∧ keys.all (·.isSome) = true ∧
        ∀ σ H Q, (∃ s h Q0, Ste L.H0 L.h0 H h ∧ RS L.K H σ s ∧ RH L.K L.C H h ∧ wEs gl F (.cons c cs) s h Q0 (fun x h' => L.EX x s h') ∧ ∀ ds h', Q0 ds h' → ∀ (vs : List V) H', Ste H h H' h' → RDs L.K H' vs ds → RH L.K L.C H' h' → Q ((ks.zip vs).map fun p => (kV p.1, p.2)) H') → tPairs trs σ H Q := by
      intro kk kr ke kt e1 e2 pk hk'
      subst e1 e2
      obtain ⟨trs, P, hl2, ha, conv⟩ := pps_ok O cs kr kt r S.2 hk' (by simpa using hl) h.2
      refine ⟨_, pps_cons pk (S.1 v h.1.2).pe P, by simp [hl2], by simpa using ha, fun σ H Q ⟨s, h0, Q0, le, rs, rh, q, hq⟩ => ?_⟩
      simp only [wEs] at q
      show tC (kV kk) σ H _
      show Lx L (wE gl F c) σ H _
      refine ⟨s, h0, _, le, rs, rh, q, fun d h1 q1 w H1 l1 r1 rh1 => conv _ _ _ ⟨s, h1, _, le.trans l1, rs.le l1.le, rh1, q1, fun ds h2 q2 vs H2 l2 r2 rh2 => ?_⟩⟩
      exact hq _ _ q2 (w :: vs) H2 (l1.trans l2) (.cons (r1.le l2.le) r2) rh2
    cases ks with
    | nil =>
      cases keys with
      | nil => cases hl
      | cons _ _ => simp [chkK] at hk
    | cons kk kr =>
      cases kk with
      | inl i =>
        simp only [chkK] at hk
        split at hk
        · rename_i j c1 p1 t
          simp only [Bool.and_eq_true] at hk
          have e := beq_iff_eq.mp hk.1
          subst e
          exact go (.inl j) kr _ t rfl rfl pe_int hk.2
        · cases hk
      | inr z =>
        simp only [chkK] at hk
        split at hk
        · rename_i y c1 p1 t
          simp only [Bool.and_eq_true] at hk
          have e := beq_iff_eq.mp hk.1
          subst e
          exact go (.inr y) kr _ t rfl rfl pe_str hk.2
        · cases hk
theorem dis_fin {K : PySem.W.Frag} {C : CA} {H : Hp} {h h2 : DH} {Q : VK} {Q0 : QD} {z : Bool} {p : Addr} {kvs : List (Key × D)} (hq : ∀ d h', Q0 d h' → LQ K C H h Q d h') (q : wDis z p kvs h2 Q0) : LQ K C H h (fzV Q) (.ref p) (up h2 p (.dK kvs)) := by
  refine zq_LQ (z := z) hq _ _ ?_
  cases z with
  | false => exact q
  | true =>
    show wFrz (.ref p) (up h2 p (.dK kvs)) Q0
    unfold wFrz
    simp only [up_same]
    have e : rm (up h2 p (.dK kvs)) p = rm h2 p := by
      funext b; unfold rm up
      split <;> rfl
    rw [e]
    exact q
theorem snd_dis {z : Bool} (O : XO Γ L k gl F X) {ks : List Key} {keys : List (Option Expr)} {vals : List Expr} (S : SndsP Γ L gl F X es) (hk : chkK ks keys = true) (hv : chks Γ es vals = true) (hl : keys.length = vals.length) (h0 : ks.isEmpty = false) (h15 : ks.length ≤ 15) : Snd L gl F X (.dis z ks es) (.Dict keys vals pos) := by
  obtain ⟨trs, P, hl2, ha, conv⟩ := pps_ok (pos := pos) O es ks keys vals S hk hl hv
  have hne : keys ≠ [] := fun z => by
    subst z
    have : ks = [] := List.length_eq_zero_iff.mp hl2
    subst this
    cases h0
  refine .of (PE.imp (pe_fz (pe_disp P ha hl hne (by omega))) fun σ H Q ⟨s, h, Q0, le, rs, rh, q, hq⟩ => ?_) (fun _ => rfl) (fun _ _ _ q => nomatch q)
  simp only [wE] at q
  intro p hp
  have rh1 := rh.new (u := .dK []) (o := .dK []) hp ⟨[], upd_same, .nil⟩
  have st := Ste.new (o := .dK []) (u := .dK []) hp (h := h)
  refine conv _ _ _ ⟨s, _, _, le.trans st, rs.le st.le, rh1, q p (rh.free hp), fun ds h2 q2 vs H2 l2 r2 rh2 => ?_⟩
  obtain ⟨q2, q3⟩ := q2
  obtain ⟨gs, e2, r3⟩ := rh2 _ _ q2
  cases r3
  have mu : Mut (H2 p) := by rw [e2]; exact trivial
  refine ⟨e2, ks.zip vs, rfl, by rw [List.length_zip]; omega, ?_⟩
  exact dis_fin hq q3 (.ref p) _ ((st.trans l2).trans (Ste.mut q2 mu)) (.ref p) (rh2.put mu ⟨_, upd_same, RPs.le (Le.mut mu) (rps_merge ks r2 .nil)⟩)
theorem snd_idx (O : XO Γ L k gl F X) (ha : Snd L gl F X a l) (hb : Snd L gl F X b r) (hs : notSlice r = true) : Snd L gl F X (.idx a b) (.Subscript l r pos) := by
  have hu : X.A.units + 1 < cLine := by have := O.rm.u; omega
  refine .of (PE.imp (pe_ix (idx_ok (C := L.C) hu) ha.pe hb.pe (plainIx hs)) fun σ H Q ⟨s, h, Q0, le, rs, rh, q, hq⟩ => ?_) (fun _ => rfl) (fun _ _ _ q => nomatch q)
  simp only [wE] at q
  refine ⟨s, h, _, le, rs, rh, q, fun d1 h1 q1 v1 H1 l1 r1 rh1 => ⟨s, h1, _, le.trans l1, rs.le l1.le, rh1, q1, fun d2 h2 q2 v2 H2 l2 r2 rh2 => ?_⟩⟩
  rw [O.K]
  exact ⟨d1, d2, h2, Q0, r1.le l2.le, r2, rh2, q2, fun z h' q' => (hq z h' q').le (l1.trans l2)⟩
theorem lo_none : PO X none (Lo L (wO gl F .none)) := ⟨fun pins s0 σ H Q I ⟨s, h, Q0, le, rs, rh, q, hq⟩ => po_none.run pins s0 σ H Q I (by simp only [wO] at q; exact hq _ _ q H .refl rh)⟩
theorem lo_some (ha : PE X e (Lx L (wE gl F a))) : PO X (some e) (Lo L (wO gl F (.some a))) := ⟨fun pins s0 σ H Q I ⟨s, h, Q0, le, rs, rh, q, hq⟩ => (po_some ha).run pins s0 σ H Q I (by
  simp only [wO] at q
  refine ⟨s, h, _, le, rs, rh, q, fun d1 h1 q1 v1 H1 l1 r1 rh1 => ?_⟩
  split at q1
  · cases r1
    exact ⟨_, rfl, hq _ _ q1 H1 l1 rh1⟩
  · exact q1.elim)⟩
theorem snd_slc {z : Bool} (O : XO Γ L k gl F X) {lo hi : CO} {el eh : Option Expr} {p2 : Pos} (ha : Snd L gl F X a l) (hl : PO X el (Lo L (wO gl F lo))) (hh : PO X eh (Lo L (wO gl F hi))) : Snd L gl F X (.slc z a lo hi) (.Subscript l (.Slice el eh none p2) pos) := by
  refine .of (PE.imp (pe_fz (pe_slice (slc_ok (C := L.C)) ha.pe hl hh)) fun σ H Q ⟨s, h, Q0, le, rs, rh, q, hq⟩ => ?_) (fun _ => rfl) (fun _ _ _ q => nomatch q)
  simp only [wE] at q
  refine ⟨s, h, _, le, rs, rh, q, fun d1 h1 q1 v1 H1 l1 r1 rh1 => ⟨s, h1, _, le.trans l1, rs.le l1.le, rh1, q1, fun o2 h2 q2 H2 l2 rh2 => ⟨s, h2, _, (le.trans l1).trans l2, (rs.le l1.le).le l2.le, rh2, q2, fun o3 h3 q3 H3 l3 rh3 => ?_⟩⟩⟩
  rw [O.K]
  exact ⟨d1, h3, zQ z Q0, (r1.le l2.le).le l3.le, rh3, wSlc_z q3, fun y h' q' => (zq_LQ hq y h' q').le ((l1.trans l2).trans l3)⟩

/-! a[::c] -/
theorem vals_pick {xs : List V} {us : List Value} (r : Vals xs us) : ∀ ix : List Nat, Vals (ix.filterMap (xs[·]?)) (ix.filterMap (us[·]?))
  | [] => .nil
  | i :: ix => by
    have ih := vals_pick r ix
    rw [List.filterMap_cons, List.filterMap_cons]
    cases e : xs[i]? with
    | none =>
      have : us[i]? = none := by
        rw [List.getElem?_eq_none_iff] at e ⊢
        have := r.length
        omega
      rw [this]
      exact ih
    | some x =>
      obtain ⟨u, e2, ru⟩ := r.get e
      rw [e2]
      exact .cons ru ih
theorem rds_pick {K : PySem.W.Frag} {H : Hp} {vs : List V} {ds : List D} (r : RDs K H vs ds) : ∀ ix : List Nat, RDs K H (ix.filterMap (vs[·]?)) (ix.filterMap (ds[·]?))
  | [] => .nil
  | i :: ix => by
    have ih := rds_pick r ix
    rw [List.filterMap_cons, List.filterMap_cons]
    cases e : ds[i]? with
    | none =>
      have : vs[i]? = none := by
        rw [List.getElem?_eq_none_iff] at e ⊢
        have := r.length
        omega
      rw [this]
      exact ih
    | some x =>
      obtain ⟨u, e2, ru⟩ := r.get e
      rw [e2]
      exact .cons ru ih
theorem pe_stp {te : TE} {tk : TO} {y : Expr} {p3 : Pos} (he : PE X l te) (hk : PO X (some y) tk) : PE X (.Subscript l (.Slice none none (some y) p3) pos) (fun σ H Q => te σ H fun x H1 => tk σ H1 fun o H2 => ∃ a xs c, x = .ref a ∧ SqL X.K H2 a xs ∧ o = some c ∧ c ≠ 0 ∧ ∀ p, H2 p = none → Q (.ref p) (upd H2 p (.lst (pickD xs c)))) := by
  refine ⟨fun pins s σ H Q I h => ?_⟩
  refine Subscript_ (thn (he.run pins s σ H _ I h) fun v s1 ⟨x, H1, I1, r1, q1⟩ => ?_)
  refine wpAny_Slice (thn (po_none.run pins s1 σ H1 (fun o H2 => o = none ∧ H2 = H1) I1 ⟨rfl, rfl⟩) fun vl s2 ⟨l, H2, I2, pl, el, e2⟩ => ?_)
  subst el e2
  refine thn (po_none.run pins s2 σ H2 (fun o H3 => o = none ∧ H3 = H2) I2 ⟨rfl, rfl⟩) fun vu s3 ⟨u, H3, I3, pu, eu, e3⟩ => ?_
  subst eu e3
  refine thn (hk.run pins s3 σ H3 _ I3 q1) fun vs s4 ⟨o, H4, I4, ps, a, xs, c, ex, hx, eo, hc, q⟩ => ?_
  subst eo ex
  cases r1
  have I5 : Inv X pins σ H4 { s4 with heap := s4.heap.push { cls := .type "slice", data := .fields #[vl, vu, vs] } } := I4.kept (t' := s4.toks) fun b ob q => Heap.get?_push_of_some _ q
  obtain ⟨its, r, ht, hz⟩ := I5.list hx
  have hlen := r.length
  refine tail_any (ops := [.ref a, .ref s4.heap.objs.size]) ht.isList.typeIs (PySem.slot_list_getitem.lookup) ?_ (by with_unfolding_all rfl)
  refine wpAny_getItem_list_slice ht.isList (Heap.IsSliceOf.new _ vl vu vs) pl pu ps (by intro z; exact hc (Option.some.inj z)) ?_ (by rw [List.size_toArray]; omega)
  have hp : slicePick its.toArray none none (some c) = (pickD its c).toArray := by
    unfold slicePick pickD stIx
    simp
  have hsz : (pickD xs c).length ≤ sizeLine := by
    have h1 := slicePick_size_le its.toArray none none (some c)
    rw [hp, List.size_toArray, List.size_toArray] at h1
    have h2 : (pickD xs c).length = (pickD its c).length := by
      have := (vals_pick r (stIx xs.length c)).length
      unfold pickD
      rw [← hlen]
      exact this
    omega
  rw [hp]
  refine ⟨.ref _, _, I5.laid (t' := s4.toks) (o := .lst (pickD xs c)) (fun b ob q => Heap.get?_push_of_some _ q) (Nat.le_refl _) ?_, rfl, q _ (I5.hok.fresh (Nat.le_refl _))⟩
  refine ⟨hsz, _, 0, ?_, Heap.get?_push_size _ rfl⟩
  have := vals_pick r (stIx xs.length c)
  unfold pickD
  rw [← hlen]
  exact this
theorem snd_stp {z : Bool} (O : XO Γ L k gl F X) {ky : CO} {y : Expr} {p2 : Pos} (ha : Snd L gl F X a l) (hk : PO X (some y) (Lo L (wO gl F ky))) : Snd L gl F X (.stp z a ky) (.Subscript l (.Slice none none (some y) p2) pos) := by
  refine .of (PE.imp (pe_fz (pe_stp ha.pe hk)) fun σ H Q ⟨s, h, Q0, le, rs, rh, q, hq⟩ => ?_) (fun _ => rfl) (fun _ _ _ q => nomatch q)
  simp only [wE] at q
  refine ⟨s, h, _, le, rs, rh, q, fun d1 h1 q1 v1 H1 l1 r1 rh1 => ⟨s, h1, _, le.trans l1, rs.le l1.le, rh1, q1, fun o2 h2 q2 H2 l2 rh2 => ?_⟩⟩
  rw [O.K]
  unfold wStp at q2
  split at q2
  · rename_i xs c e
    obtain ⟨p, vs, rfl, sq, r⟩ := lstOf_rd rh2 (r1.le l2.le) e
    refine ⟨p, vs, c, rfl, sq, rfl, q2.1, fun p2 hp => ?_⟩
    have rr := rds_pick r (stIx xs.length c)
    have er : pickD vs c = (stIx xs.length c).filterMap (vs[·]?) := by unfold pickD; rw [r.length]
    exact zq_LQ hq _ _ (al_z q2.2 p2 (rh2.free hp)) (.ref p2) _ ((l1.trans l2).trans (Ste.new hp)) (.ref p2) (rh2.new hp ⟨pickD vs c, upd_same, by rw [er]; exact rr.le (Le.new hp)⟩)
  · exact q2.elim

/-! calls -/
theorem snd_call (O : XO Γ L k gl F X) {i : Nat} {x : Str} {y : Expr} {ys : List Expr} (hN : Γ.fns[i]? = some x) (hpn : plainN x = true) (hv : glB Γ.sc x = true) (hn : okN x = true) (hst : (y :: ys).all notStar = true) (ha : PA X (y :: ys) (La L (wEs gl F es))) : Snd L gl F X (.call i es) (.Call (.Name x apos) (y :: ys) [] pos) := by
  obtain ⟨f, fd, ps, hm, hk, hf, hb⟩ := O.tab.fn i x hN hpn
  rw [List.all_cons, Bool.and_eq_true] at hst
  refine .of (PE.imp (pe_callG hf (O.room.mono (by unfold lv; omega)) O.rm.g (O.glo hv) hm hk hb (passAt O.tk) ha (okN_1 hn) (star1 hst.1) (stars_plain hst.2)) fun σ H Q ⟨s, h, Q0, le, rs, rh, q, hq⟩ => ?_) (fun _ => rfl) (fun _ _ _ q => nomatch q)
  simp only [wE] at q
  refine ⟨s, h, _, le, rs, rh, q, fun ds h1 q1 vs H1 l1 r1 rh1 => ?_⟩
  rw [O.K]
  exact ⟨ds, h1, Q0, _, r1, rh1, q1, fun d h' q' => (hq d h' q').le l1, fun x h' ex cls d H' l' rx rh' => ⟨x, s, h', (le.trans l1).trans l', rx, (rs.le l1.le).le l'.le, rh', ex⟩⟩
theorem snd_call0 (O : XO Γ L k gl F X) {i : Nat} {x : Str} (hN : Γ.fns[i]? = some x) (hpn : plainN x = true) (hv : glB Γ.sc x = true) (hn : okN x = true) : Snd L gl F X (.call i .nil) (.Call (.Name x apos) [] [] pos) := by
  obtain ⟨f, fd, ps, hm, hk, hf, hb⟩ := O.tab.fn i x hN hpn
  refine .of (PE.imp (pe_callG0 hf (O.room.mono (by unfold lv; omega)) O.rm.g (O.glo hv) hm hk hb (passAt O.tk) (okN_1 hn)) fun σ H Q ⟨s, h, Q0, le, rs, rh, q, hq⟩ => ?_) (fun _ => rfl) (fun _ _ _ q => nomatch q)
  simp only [wE, wEs] at q
  show spL X.K L.C (F i) [] H Q _
  rw [O.K]
  exact ⟨[], h, Q0, _, .nil, rh, q, hq, fun x h' ex cls d H' l' rx rh' => ⟨x, s, h', le.trans l', rx, rs.le l'.le, rh', ex⟩⟩
theorem boot_blt : ∀ f : Blt, bootBuiltins f.name = some f.val := by
  intro f
  cases f <;> decide +kernel
theorem ok_blt : ∀ f : Blt, f.name ≠ ("__name__" : Str) ∧ (f.name == ("__debug__" : Str)) = false := by
  intro f
  cases f <;> decide
theorem blt_conv (O : XO Γ L k gl F X) {z : Bool} {f : Blt} (hb : (!z || f == .sorted || f == .list || f == .dict) = true) : ∀ σ H Q, Lx L (wE gl F (.blt z f es)) σ H Q → tCB (fun xs H Q => ∃ ds h Q0, RDs X.K H xs ds ∧ RH X.K L.C H h ∧ wB false f ds h Q0 ∧ ∀ r h', Q0 r h' → LQ X.K L.C H h Q r h') (La L (wEs gl F es)) σ H (fzV Q) := fun σ H Q ⟨s, h, Q0, le, rs, rh, q, hq⟩ => by
  simp only [wE] at q
  refine ⟨s, h, _, le, rs, rh, q, fun ds h1 q1 vs H1 l1 r1 rh1 => ?_⟩
  rw [O.K]
  exact ⟨ds, h1, zQ z Q0, r1, rh1, wB_z hb q1, fun d h' q' => (zq_LQ hq d h' q').le l1⟩
theorem snd_blt (O : XO Γ L k gl F X) {z : Bool} {f : Blt} (hz : (!z || f == .sorted || f == .list || f == .dict) = true) {y : Expr} {ys : List Expr} (hv : glB Γ.sc f.name = true) (hm : Γ.bls.contains f.name = true) (hst : (y :: ys).all notStar = true) (ha : PA X (y :: ys) (La L (wEs gl F es))) : Snd L gl F X (.blt z f es) (.Call (.Name f.name apos) (y :: ys) [] pos) := by
  rw [List.all_cons, Bool.and_eq_true] at hst
  have hb := boot_blt f
  have hc := blt_ok (C := L.C) O.rm f
  refine .of ?_ (fun _ => rfl) (fun _ _ _ q => nomatch q)
  cases hi : f.isTy with
  | true =>
    have e : f.val = .type f.id := by unfold Blt.val; rw [hi]; rfl
    rw [e] at hb hc
    exact PE.imp (pe_fz (pe_callTy hc (O.glo hv) (O.blo hm) hb ha (ok_blt f).1 (ok_blt f).2 (star1 hst.1) (stars_plain hst.2))) (blt_conv O hz)
  | false =>
    have e : f.val = .builtin f.id := by unfold Blt.val; rw [hi]; rfl
    rw [e] at hb hc
    exact PE.imp (pe_fz (pe_callB hc (O.glo hv) (O.blo hm) hb ha (ok_blt f).1 (ok_blt f).2 (star1 hst.1) (stars_plain hst.2))) (blt_conv O hz)

/-! ### min(a, default=d); list(range(a, b)) -/
theorem snd_mnd (O : XO Γ L k gl F X) {x y : Expr} {d : CE} {f kn : Str} {kp : Pos} (ef : f = ("min" : Str)) (ek : kn = ("default" : Str)) (hv : glB Γ.sc f = true) (hm : Γ.bls.contains f = true) (hn : notStar x = true) (ha : Snd L gl F X a x) (hd : Snd L gl F X d y) : Snd L gl F X (.mnd a d) (.Call (.Name f apos) [x] [⟨some kn, y, kp⟩] pos) := by
  subst ef ek
  have hu : X.A.units + 200 < cLine := by have := O.rm.u; omega
  refine .of (PE.imp (pe_callBK (cr_minD (C := L.C) O.rm.c hu) (O.glo hv) (O.blo hm) (boot_blt .min) (pa_cons ha.pe pa_nil (star1 hn)) (pk_cons hd.pe pk_nil) (by decide) (by decide) (by rw [star1 hn]; rfl) (by rw [star1 hn]; rfl)) fun σ H Q ⟨s, h, Q0, le, rs, rh, q, hq⟩ => ?_) (fun _ => rfl) (fun _ _ _ q => nomatch q)
  simp only [wE] at q
  refine ⟨s, h, _, le, rs, rh, q, fun d1 h1 q1 v1 H1 l1 r1 rh1 => ⟨s, h1, _, le.trans l1, rs.le l1.le, rh1, q1, fun d2 h2 q2 v2 H2 l2 r2 rh2 => ?_⟩⟩
  rw [O.K]
  unfold wMnd at q2
  split at q2
  · rename_i xs e
    rcases q2 with ⟨ns, en, h0, hmn⟩ | ⟨ps, dp, ha, hd, h0, hmn⟩
    · subst en
      obtain ⟨p, vs, rfl, sq, rr⟩ := lstOf_rd rh2 (r1.le l2.le) e
      rw [iL_rd rr] at sq
      exact .inl ⟨p, ns, v2, rfl, sq, rfl, fun e => hq _ _ (h0 e) v2 H2 (l1.trans l2) r2 rh2, fun m m1 m2 => hq _ _ (hmn m m1 m2) (.int m) H2 (l1.trans l2) (.int m) rh2⟩
    · obtain ⟨p, vs, rfl, sq, rr⟩ := lstOf_rd rh2 (r1.le l2.le) e
      exact .inr ⟨p, vs, v2, xs, h2, ps, rfl, sq, rfl, rr, rh2, dp, ha, hd, fun e => hq _ _ (h0 e) v2 H2 (l1.trans l2) r2 rh2, fun p0 pt ep ee i v a1 a2 a3 => hq _ _ (hmn p0 pt ep ee i a1 a2) v H2 (l1.trans l2) a3 rh2⟩
  · exact q2.elim
theorem rds_rg {K : PySem.W.Frag} {H : Hp} {i j : Int} : RDs K H (rgV i j) (rgD i j) := by
  unfold rgV rgD
  generalize List.range (j - i).toNat = l
  induction l with
  | nil => exact .nil
  | cons n l ih => exact .cons (.int _) ih
theorem snd_lrg {z : Bool} (O : XO Γ L k gl F X) {x y : Expr} {b : CE} {f g : Str} {p1 p2 : Pos} (ef : f = ("list" : Str)) (eg : g = ("range" : Str)) (hv : glB Γ.sc f = true) (hm : Γ.bls.contains f = true) (hv2 : glB Γ.sc g = true) (hm2 : Γ.bls.contains g = true) (hx : notStar x = true) (hy : notStar y = true) (ha : Snd L gl F X a x) (hb : Snd L gl F X b y) : Snd L gl F X (.lrg z a b) (.Call (.Name f apos) [.Call (.Name g p1) [x, y] [] p2] [] pos) := by
  subst ef eg
  refine .of (PE.imp (pe_fz (pe_listRg O.rm.c (O.glo hv) (O.blo hm) (prg_2 (O.glo hv2) (O.blo hm2) ha.pe hb.pe (star1 hx) (star1 hy) (stars_plain (by rw [List.all_cons, hy]; rfl))))) fun σ H Q ⟨s, h, Q0, le, rs, rh, q, hq⟩ => ?_) (fun _ => rfl) (fun _ _ _ q => nomatch q)
  simp only [wE] at q
  refine ⟨s, h, _, le, rs, rh, q, fun d1 h1 q1 v1 H1 l1 r1 rh1 => ⟨s, h1, _, le.trans l1, rs.le l1.le, rh1, q1, fun d2 h2 q2 v2 H2 l2 r2 rh2 => ?_⟩⟩
  unfold wLrg at q2
  split at q2
  · cases r1
    cases r2
    exact ⟨_, _, rfl, rfl, q2.1, fun p hp => zq_LQ hq _ _ (al_z q2.2 p (rh2.free hp)) (.ref p) _ ((l1.trans l2).trans (Ste.new hp)) (.ref p) (rh2.new hp ⟨_, upd_same, rds_rg⟩)⟩
  · exact q2.elim
/-! list(zip(a, b)); tuple(zip(a, b)) -/
theorem zip_ev {C : CA} {K : PySem.W.Frag} {H1 : Hp} {h1 : DH} {a b : Addr} {vs ws : List V} {xs ys : List D} (sa : SqL K H1 a vs) (sb : SqL K H1 b ws) (ra : RDs K H1 vs xs) (rb : RDs K H1 ws ys) (ln : xs.length ≤ 16777216) (rh : RH K C H1 h1) :
    ∃ Ev : Nat → Hp → List V → Prop, ZpW K a b vs ws H1 Ev ∧ Ev 0 H1 [] ∧ ∀ H ts, Ev (min vs.length ws.length) H ts → Ste H1 h1 H h1 ∧ RH K C H h1 ∧ RDs K H ts (zipD xs ys) := by
  have sq : ∀ {p : Addr} {us : List V} {H : Hp}, (∀ c o, H1 c = some o → H c = some o) → SqL K H1 p us → SqL K H p us := fun gr s => by
    rcases s with s | s
    · rcases s with s | ⟨o, s⟩
      · exact .inl (.inl (gr _ _ s))
      · exact .inl (.inr ⟨o, gr _ _ s⟩)
    · exact .inr s
  refine ⟨fun i H ts => Ste H1 h1 H h1 ∧ RH K C H h1 ∧ RDs K H ts ((zipD xs ys).take i), ⟨fun H gr => ⟨sq gr sa, sq gr sb⟩, fun i H ts T x y ev hx hy hT => ?_, ?_⟩, ⟨.refl, rh, by rw [List.take_zero]; exact .nil⟩, fun H ts ev => ?_⟩
  · obtain ⟨st, rh', rt⟩ := ev
    obtain ⟨dx, ex, rx⟩ := ra.getV hx
    obtain ⟨dy, ey, ry⟩ := rb.getV hy
    have ez : (zipD xs ys)[i]? = some (.tup [dx, dy]) := by
      unfold zipD
      rw [List.getElem?_map, (List.getElem?_zip_eq_some (z := (dx, dy))).mpr ⟨ex, ey⟩]
      rfl
    refine ⟨st.trans (Ste.side hT), rh'.side hT, ?_⟩
    rw [List.take_add_one, ez]
    exact (rt.le (Le.new hT)).append (.cons (.tup upd_same (.cons ((rx.le st.le).le (Le.new hT)) (.cons ((ry.le st.le).le (Le.new hT)) .nil))) .nil)
  · have := sizeLine_eq
    rw [ra.length]
    omega
  · refine ⟨ev.1, ev.2.1, ?_⟩
    have : (zipD xs ys).take (min vs.length ws.length) = zipD xs ys := by
      refine List.take_of_length_le ?_
      unfold zipD
      rw [List.length_map, List.length_zip, ra.length, rb.length]
      exact Nat.le_refl _
    rw [← this]
    exact ev.2.2
theorem snd_lzp {z : Bool} (O : XO Γ L k gl F X) {x y : Expr} {b : CE} {f g : Str} {p1 p2 : Pos} (ef : f = ("list" : Str)) (eg : g = ("zip" : Str)) (hv : glB Γ.sc f = true) (hm : Γ.bls.contains f = true) (hv2 : glB Γ.sc g = true) (hm2 : Γ.bls.contains g = true) (hx : notStar x = true) (hy : notStar y = true) (ha : Snd L gl F X a x) (hb : Snd L gl F X b y) : Snd L gl F X (.lzp z a b) (.Call (.Name f apos) [.Call (.Name g p1) [x, y] [] p2] [] pos) := by
  subst ef eg
  refine .of (PE.imp (pe_fz (pe_listZp O.rm.c (O.glo hv) (O.blo hm) (O.glo hv2) (O.blo hm2) (pa_cons ha.pe (pa_cons hb.pe pa_nil (star1 hy)) (star1 hx)) (star1 hx) (stars_plain (by rw [List.all_cons, hy]; rfl)))) fun σ H Q ⟨s, h, Q0, le, rs, rh, q, hq⟩ => ?_) (fun _ => rfl) (fun _ _ _ q => nomatch q)
  simp only [wE] at q
  refine ⟨s, h, _, le, rs, rh, q, fun d1 h1 q1 v1 H1 l1 r1 rh1 => ⟨s, h1, _, le.trans l1, rs.le l1.le, rh1, q1, fun d2 h2 q2 v2 H2 l2 r2 rh2 => ?_⟩⟩
  rw [O.K]
  unfold wLzp at q2
  split at q2
  · rename_i xs ys e1 e2
    obtain ⟨p, vs, rfl, sa, ra⟩ := lstOf_rd rh2 (r1.le l2.le) e1
    obtain ⟨p', ws, rfl, sb, rb⟩ := lstOf_rd rh2 r2 e2
    obtain ⟨Ev, W, ev0, fin⟩ := zip_ev sa sb ra rb q2.1 rh2
    refine ⟨p, p', vs, ws, rfl, sa, sb, Ev, W, ev0, fun S H' ts' n ev => ?_⟩
    obtain ⟨st, rh', rt⟩ := fin H' ts' ev
    exact zq_LQ hq _ _ (al_z q2.2 S (rh'.free n)) (.ref S) _ (((l1.trans l2).trans st).trans (Ste.new n)) (.ref S) (rh'.new n ⟨ts', upd_same, rt.le (Le.new n)⟩)
  · exact q2.elim
theorem snd_tzp (O : XO Γ L k gl F X) {x y : Expr} {b : CE} {f g : Str} {p1 p2 : Pos} (ef : f = ("tuple" : Str)) (eg : g = ("zip" : Str)) (hv : glB Γ.sc f = true) (hm : Γ.bls.contains f = true) (hv2 : glB Γ.sc g = true) (hm2 : Γ.bls.contains g = true) (hx : notStar x = true) (hy : notStar y = true) (ha : Snd L gl F X a x) (hb : Snd L gl F X b y) : Snd L gl F X (.tzp a b) (.Call (.Name f apos) [.Call (.Name g p1) [x, y] [] p2] [] pos) := by
  subst ef eg
  refine .of (PE.imp (pe_tupleZp O.rm.c (O.glo hv) (O.blo hm) (O.glo hv2) (O.blo hm2) (pa_cons ha.pe (pa_cons hb.pe pa_nil (star1 hy)) (star1 hx)) (star1 hx) (stars_plain (by rw [List.all_cons, hy]; rfl))) fun σ H Q ⟨s, h, Q0, le, rs, rh, q, hq⟩ => ?_) (fun _ => rfl) (fun _ _ _ q => nomatch q)
  simp only [wE] at q
  refine ⟨s, h, _, le, rs, rh, q, fun d1 h1 q1 v1 H1 l1 r1 rh1 => ⟨s, h1, _, le.trans l1, rs.le l1.le, rh1, q1, fun d2 h2 q2 v2 H2 l2 r2 rh2 => ?_⟩⟩
  rw [O.K]
  unfold wTzp at q2
  split at q2
  · rename_i xs ys e1 e2
    obtain ⟨p, vs, rfl, sa, ra⟩ := lstOf_rd rh2 (r1.le l2.le) e1
    obtain ⟨p', ws, rfl, sb, rb⟩ := lstOf_rd rh2 r2 e2
    obtain ⟨Ev, W, ev0, fin⟩ := zip_ev sa sb ra rb q2.1 rh2
    refine ⟨p, p', vs, ws, rfl, sa, sb, Ev, W, ev0, fun S o H' ts' n od ev => ?_⟩
    obtain ⟨st, rh', rt⟩ := fin H' ts' ev
    exact hq _ _ q2.2 (.ref S) _ (((l1.trans l2).trans st).trans (Ste.side n)) (.kt (.inl (.inr ⟨o, upd_same⟩)) (fun _ => ⟨o, _, upd_same, od⟩) (rt.le (Le.new n))) (rh'.side n)
  · exact q2.elim
/-! a def as a value -/
theorem snd_fnv (O : XO Γ L k gl F X) {x y : Str} (e : y = x) (hf : Γ.xt.fvs.contains x = true) (hv : glB Γ.sc y = true) (hn : okN y = true) : Snd L gl F X (.fnv x) (.Name y pos) := by
  subst e
  obtain ⟨f, hm, ns⟩ := O.tab.fv y (by simpa using hf)
  refine .of (PE.imp (pe_glob (O.glo hv) hm (v := .ref f) rfl (okN_1 hn)) (lx_pure (d := .fn y) (fun s h Q E q => ?_) fun H => by rw [← O.K]; exact .fn ns)) (fun _ => rfl) (fun _ _ _ q => nomatch q)
  simp only [wE] at q
  exact q
/-! sorted(set(a)); len(set(a)) -/
theorem wSset_z {z : Bool} {x : D} {h : DH} {Q : QD} (q : wSset z x h Q) : wSset false x h (zQ z Q) := match z, q with
  | true, q => wSset_frz q
  | false, q => q
theorem boot_set' : bootBuiltins ("set" : Str) = some (.type "set") := by decide +kernel
theorem snd_sset {z : Bool} (O : XO Γ L k gl F X) {x : Expr} {f g : Str} {p1 p2 : Pos} (ef : f = ("sorted" : Str)) (eg : g = ("set" : Str)) (hv : glB Γ.sc f = true) (hm : Γ.bls.contains f = true) (hv2 : glB Γ.sc g = true) (hm2 : Γ.bls.contains g = true) (hx : notStar x = true) (ha : Snd L gl F X a x) : Snd L gl F X (.sset z a) (.Call (.Name f apos) [.Call (.Name g p1) [x] [] p2] [] pos) := by
  subst ef eg
  have hu : X.A.units + 64 < cLine := by have := O.rm.u; omega
  have inner := pe_callTy (pos := p2) (p := p1) (cr_set1 (X := X) O.rm.c hu) (O.glo hv2) (O.blo hm2) boot_set' (pa_cons ha.pe pa_nil (star1 hx)) (by decide) (by decide) (star1 hx) (stars_plain rfl)
  refine .of (PE.imp (pe_fz (pe_callB (cr_set2 (X := X) O.rm.c (by have := O.rm.u; omega)) (O.glo hv) (O.blo hm) (boot_blt .sorted) (pa_cons inner pa_nil rfl) (by decide) (by decide) rfl rfl)) fun σ H Q ⟨s, h, Q0, le, rs, rh, q, hq⟩ => ?_) (fun _ => rfl) (fun _ _ _ q => nomatch q)
  simp only [wE] at q
  refine ⟨s, h, _, le, rs, rh, q, fun d1 h1 q1 v1 H1 l1 r1 rh1 => ?_⟩
  show rSet1 X.K X.prog X.w [v1] H1 fun x H1 => rSet2 X.K X.prog X.w [x] H1 (fzV Q)
  rw [O.K]
  exact sset_conv r1 rh1 (wSset_z q1) fun r h' q' => (zq_LQ hq r h' q').le l1
theorem snd_lset (O : XO Γ L k gl F X) {x : Expr} {f g : Str} {p1 p2 : Pos} (ef : f = ("len" : Str)) (eg : g = ("set" : Str)) (hv : glB Γ.sc f = true) (hm : Γ.bls.contains f = true) (hv2 : glB Γ.sc g = true) (hm2 : Γ.bls.contains g = true) (hx : notStar x = true) (ha : Snd L gl F X a x) : Snd L gl F X (.lset a) (.Call (.Name f apos) [.Call (.Name g p1) [x] [] p2] [] pos) := by
  subst ef eg
  have inner := pe_callTy (pos := p2) (p := p1) (cr_setK (X := X) O.rm.c) (O.glo hv2) (O.blo hm2) boot_set' (pa_cons ha.pe pa_nil (star1 hx)) (by decide) (by decide) (star1 hx) (stars_plain rfl)
  refine .of (PE.imp (pe_callB (cr_lenK (X := X)) (O.glo hv) (O.blo hm) (boot_blt .len) (pa_cons inner pa_nil rfl) (by decide) (by decide) rfl rfl) fun σ H Q ⟨s, h, Q0, le, rs, rh, q, hq⟩ => ?_) (fun _ => rfl) (fun _ _ _ q => nomatch q)
  simp only [wE] at q
  refine ⟨s, h, _, le, rs, rh, q, fun d1 h1 q1 v1 H1 l1 r1 rh1 => ?_⟩
  show rSetK X.K X.prog X.w [v1] H1 fun x H1 => rLenK X.prog X.w [x] H1 Q
  rw [O.K]
  exact lset_conv r1 rh1 q1 fun r h' q' => (hq r h' q').le l1
/-! methods of built-in types -/
theorem pa_mtd : ∀ m : Mtd, PlainAttrs m.ty
  | .get | .dpop => PySem.F.plainAttrs_dict
  | .join | .split | .partition | .upper => PySem.F.plainAttrs_str
  | .append | .extend | .pop | .reverse | .clear | .insert | .remove => PySem.F.plainAttrs_list
theorem slot_mtd : ∀ m : Mtd, Slot m.ty m.name m.id
  | .get => PySem.F.slot_dict_get
  | .join => PySem.F.slot_str_join
  | .split => PySem.F.slot_str_split
  | .partition => PySem.F.slot_str_partition
  | .upper => PySem.F.slot_str_upper
  | .append => PySem.F.slot_list_append
  | .extend => PySem.F.slot_list_extend
  | .pop => PySem.F.slot_list_pop
  | .reverse => PySem.F.slot_list_reverse
  | .clear => PySem.F.slot_list_clear
  | .insert => PySem.F.slot_list_insert
  | .remove => PySem.F.slot_list_remove
  | .dpop => PySem.F.slot_dict_pop
theorem type_mtd : ∀ m : Mtd, typeOf (.builtin m.id) = pure (.type "method_descriptor")
  | .get => PySem.F.type_dict_get
  | .join => PySem.F.type_str_join
  | .split => PySem.F.type_str_split
  | .partition => PySem.F.type_str_partition
  | .upper => PySem.F.type_str_upper
  | .append => PySem.F.type_list_append
  | .extend => PySem.F.type_list_extend
  | .pop => PySem.F.type_list_pop
  | .reverse => PySem.F.type_list_reverse
  | .clear => PySem.F.type_list_clear
  | .insert => PySem.F.type_list_insert
  | .remove => PySem.F.type_list_remove
  | .dpop => PySem.F.type_dict_pop
theorem snd_mtd (O : XO Γ L k gl F X) {z : Bool} {f : Mtd} (hz : (!z || f == .split) = true) {y : Expr} {ys : List Expr} (ho : Snd L gl F X a l) (hst : (y :: ys).all notStar = true) (ha : PA X (y :: ys) (La L (wEs gl F es))) (hc : notCall0 l = true) (hl : (apos.endLine == pos.line) = true) (h30 : (y :: ys).length < 29) :
    Snd L gl F X (.mtd z f a es) (.Call (.Attribute l f.name apos) (y :: ys) [] pos) := by
  have hst' := hst
  rw [List.all_cons, Bool.and_eq_true] at hst'
  have few : ((backTo pos (starEach (y :: ys) X.env)).all (fun x => !x.1) && (backToKw pos (keywordEach [] X.env)).all (fun x => x.1.isSome)
      && decide ((y :: ys).length + ([] : List Keyword).length + (if ([] : List Keyword).isEmpty then 0 else 1) < 30)) = true := by
    rw [stars_all hst]
    have z : (y :: ys).length + ([] : List Keyword).length + (if ([] : List Keyword).isEmpty then 0 else 1) < 30 := by
      show (y :: ys).length + 0 + 0 < 30
      omega
    rw [decide_eq_true z]
    rfl
  refine .of (PE.imp (pe_fz (pe_fm (pa_mtd f) (slot_mtd f) (type_mtd f) (mtd_ok (C := L.C) O.rm f) ho.pe ha (ab_of hc) few hl (star1 hst'.1) (stars_plain hst'.2))) fun σ H Q ⟨s, h, Q0, le, rs, rh, q, hq⟩ => ?_) (fun _ => rfl) (fun _ _ _ q => nomatch q)
  simp only [wE] at q
  refine ⟨s, h, _, le, rs, rh, q, fun d1 h1 q1 v1 H1 l1 r1 rh1 => ?_⟩
  obtain ⟨ty, q1⟩ := q1
  refine ⟨by rw [O.K]; exact tyD_rd rh1 r1 ty, s, h1, _, le.trans l1, rs.le l1.le, rh1, q1, fun ds h2 q2 vs H2 l2 r2 rh2 => ?_⟩
  rw [O.K]
  exact ⟨d1, ds, h2, zQ z Q0, r1.le l2.le, r2, rh2, wM_z hz q2, fun d h' q' => (zq_LQ hq d h' q').le (l1.trans l2)⟩
theorem snd_mtd0 (O : XO Γ L k gl F X) {z : Bool} {f : Mtd} (hz : (!z || f == .split) = true) (ho : Snd L gl F X a l) (hc : notCall0 l = true) (hl : (apos.endLine == pos.line) = true) :
    Snd L gl F X (.mtd z f a .nil) (.Call (.Attribute l f.name apos) [] [] pos) := by
  refine .of (PE.imp (pe_fz (pe_fm0 (pa_mtd f) (slot_mtd f) (type_mtd f) (mtd_ok (C := L.C) O.rm f) ho.pe (ab_of hc) hl)) fun σ H Q ⟨s, h, Q0, le, rs, rh, q, hq⟩ => ?_) (fun _ => rfl) (fun _ _ _ q => nomatch q)
  simp only [wE, wEs] at q
  refine ⟨s, h, _, le, rs, rh, q, fun d1 h1 q1 v1 H1 l1 r1 rh1 => ?_⟩
  obtain ⟨ty, q1⟩ := q1
  refine ⟨by rw [O.K]; exact tyD_rd rh1 r1 ty, ?_⟩
  rw [O.K]
  exact ⟨d1, [], h1, zQ z Q0, r1, .nil, rh1, wM_z hz q1, fun d h' q' => (zq_LQ hq d h' q').le l1⟩

/-! isinstance -/
def isiTs : List String := ["int", "bool", "str", "tuple", "list", "dict"]
theorem boot_ty : ∀ T ∈ isiTs, bootBuiltins (Str.ofString T) = some (.type T) := by decide +kernel
theorem ok_ty : ∀ T ∈ isiTs, (Str.ofString T) ≠ ("__name__" : Str) ∧ (Str.ofString T == ("__debug__" : Str)) = false := by decide +kernel
theorem kit_all : ∀ T ∈ isiTs, ∀ t ∈ ["NoneType", "bool", "int", "str", "tuple", "list", "dict"], kitB t T = some (isTy t T) := by decide +kernel
theorem tyOf_rd {K : PySem.W.Frag} {C : CA} {H : Hp} {h : DH} {d : D} {v : V} {t : String} (rh : RH K C H h) (r : RD K H v d) (e : tyOf d h = some t) : TyX K H v (.type t) ∧ t ∈ ["NoneType", "bool", "int", "str", "tuple", "list", "dict"] := by
  unfold tyOf at e
  split at e
  · cases e; cases r; exact ⟨.base .non, by decide⟩
  · cases e; cases r; exact ⟨.base (.bl _), by decide⟩
  · cases e; cases r; exact ⟨.base (.int _), by decide⟩
  · cases e; cases r; exact ⟨.base (.str _), by decide⟩
  · cases e
    cases r with
    | tup s r => exact ⟨.base (.tup s), by decide⟩
  · cases e
    cases r with
    | kt s _ r =>
      refine ⟨?_, by decide⟩
      rcases s with (s | ⟨o, s⟩) | ⟨o, its, n, s, hc, _⟩
      · exact .base (.tup s)
      · exact .fTuple s
      · exact .kTuple s hc
  · cases e
    cases r with
    | fl s r =>
      refine ⟨?_, by decide⟩
      rcases s with ⟨o, s⟩ | ⟨its, n, s, _⟩
      · exact .base (.frz s)
      · exact .kList s rfl
  · cases e
    cases r with
    | dk h1 r => exact ⟨.fDict h1, by decide⟩
  · cases e
  · cases e
  · cases e
  · cases e
  · cases r
    split at e
    · rename_i ha
      cases e
      obtain ⟨vs, h1, _⟩ := rh _ _ ha
      exact ⟨.base (.lst h1), by decide⟩
    · rename_i ha
      cases e
      obtain ⟨vs, h1, _⟩ := rh _ _ ha
      exact ⟨.base (.dK h1), by decide⟩
    · rename_i ha
      cases e
      obtain ⟨vs, h1, _⟩ := rh _ _ ha
      exact ⟨.base (.dT h1), by decide⟩
    · cases e
theorem snd_isi (O : XO Γ L k gl F X) {T : String} {p2 : Pos} (hT : T ∈ isiTs) (hv : glB Γ.sc "isinstance" = true) (hm : Γ.bls.contains ("isinstance" : Str) = true) (hv2 : glB Γ.sc (Str.ofString T) = true) (hm2 : Γ.bls.contains (Str.ofString T) = true) (hs : notStar l = true) (ha : Snd L gl F X a l) :
    Snd L gl F X (.isi a T) (.Call (.Name "isinstance" apos) [l, .Name (Str.ofString T) p2] [] pos) := by
  have ht : PE X (.Name (Str.ofString T) p2) (tC (.ty T)) := pe_bltn (O.glo hv2) (O.blo hm2) (boot_ty T hT) rfl (ok_ty T hT).1 (ok_ty T hT).2
  refine .of (PE.imp (pe_callB call_isi (O.glo hv) (O.blo hm) (by decide +kernel) (pa_cons ha.pe (pa_cons ht pa_nil (star1 rfl)) (star1 hs)) (by decide) (by decide) (star1 hs) (stars_plain rfl)) fun σ H Q ⟨s, h, Q0, le, rs, rh, q, hq⟩ => ?_) (fun _ => rfl) (fun _ _ _ q => nomatch q)
  simp only [wE] at q
  refine ⟨s, h, _, le, rs, rh, q, fun d1 h1 q1 v1 H1 l1 r1 rh1 => ?_⟩
  unfold wIsi at q1
  split at q1
  · rename_i t ht
    obtain ⟨ty, tm⟩ := tyOf_rd rh1 r1 ht
    exact ⟨_, _, _, _, _, rfl, .ty T, by rw [O.K]; exact ty, kit_ty (kit_all T hT t tm), (hq _ _ q1) _ _ l1 (.bl _) rh1⟩
  · exact q1.elim
end
end DL

/-! DL, part K: targets, what is walked, comprehensions, all expressions -/
namespace DL
open PySem PySem.Spec PyProof.Rows L2

/-! ### targets -/
def Agr (is : List Nat) (σ σ' : L2.St) : Prop := σ'.length = σ.length ∧ ∀ j, j ∉ is → σ'[j]? = σ[j]?
theorem Agr.refl {is : List Nat} {σ : L2.St} : Agr is σ σ := ⟨rfl, fun _ _ => rfl⟩
theorem Agr.trans {is js : List Nat} {σ σ1 σ2 : L2.St} (a : Agr is σ σ1) (b : Agr js σ1 σ2) : Agr (is ++ js) σ σ2 := ⟨b.1.trans a.1, fun j h => by
  rw [List.mem_append, not_or] at h
  exact (b.2 j h.2).trans (a.2 j h.1)⟩
theorem wipe_at {σ : L2.St} {vs : List Nat} {j : Nat} (h : j ∈ vs) (hl : j < σ.length) : (wipe σ vs)[j]? = some none := by
  induction vs with
  | nil => exact absurd h (by simp)
  | cons v vs ih =>
    unfold L2.wipe
    by_cases e : v = j
    · subst e
      exact List.getElem?_set_self (by rw [wipe_length]; exact hl)
    · rw [List.getElem?_set_ne e]
      rcases List.mem_cons.mp h with q | q
      · exact absurd q.symm e
      · exact ih q
theorem Agr.wipe {is vs : List Nat} {σ σ2 : L2.St} (a : Agr is (wipe σ vs) σ2) (h : ∀ j ∈ is, j ∈ vs) : wipe σ2 vs = wipe σ vs := by
  have hl : σ2.length = σ.length := by rw [a.1, wipe_length]
  refine List.ext_getElem? fun j => ?_
  by_cases hj : j ∈ vs
  · by_cases hlt : j < σ.length
    · rw [wipe_at hj (by omega), wipe_at hj hlt]
    · rw [List.getElem?_eq_none (by rw [wipe_length]; omega), List.getElem?_eq_none (by rw [wipe_length]; omega)]
  · rw [wipe_out hj]
    exact a.2 j fun z => hj (h j z)

def Lg (L : Lv) (is : List Nat) (w : D → DSt → DH → (DSt → DH → Prop) → Prop) : TG := fun v σ H Q => ∃ d s h Q0, Ste L.H0 L.h0 H h ∧ RD L.K H v d ∧ RS L.K H σ s ∧ RH L.K L.C H h ∧ w d s h Q0 ∧
  ∀ s' h', Q0 s' h' → ∀ σ' H', Ste H h H' h' → Agr is σ σ' → RS L.K H' σ' s' → RH L.K L.C H' h' → Q σ' H'
def Lgs (L : Lv) (is : List Nat) (w : List D → DSt → DH → (DSt → DH → Prop) → Prop) : TGs := fun vs σ H Q => ∃ ds s h Q0, Ste L.H0 L.h0 H h ∧ RDs L.K H vs ds ∧ RS L.K H σ s ∧ RH L.K L.C H h ∧ w ds s h Q0 ∧
  ∀ s' h', Q0 s' h' → ∀ σ' H', Ste H h H' h' → Agr is σ σ' → RS L.K H' σ' s' → RH L.K L.C H' h' → Q σ' H'
section
variable {L : Lv} {X : Cx} {N : List Str} {sc : Scope}
theorem PG.imp {e : Expr} {t t' : TG} (h : PG X e t) (i : ∀ v σ H Q, t' v σ H Q → t v σ H Q) : PG X e t' := ⟨fun pins s σ H v u Q I r q => h.run pins s σ H v u Q I r (i v σ H Q q)⟩
theorem PGs.imp {e : List Expr} {t t' : TGs} (h : PGs X e t) (i : ∀ v σ H Q, t' v σ H Q → t v σ H Q) : PGs X e t' := ⟨fun pins s σ H v u Q I r q => h.run pins s σ H v u Q I r (i v σ H Q q)⟩
theorem assign1 {e : Expr} {es : List Expr} {env : Env} (h : notStar e = true) : assignEach (e :: es) env = (false, assign e env) :: assignEach es env := by
  cases e <;> first | rfl | exact absurd h Bool.false_ne_true
theorem chkTs_len {lc : Bool} : ∀ {ts : CTs} {es : List Expr} {env : Env}, chkTs N sc lc ts es = true → (assignEach es env).length = ts.len ∧ (assignEach es env).findIdx? (·.1) = none
  | .nil, [], _, _ => ⟨rfl, rfl⟩
  | .nil, _ :: _, _, h => by simp [chkTs] at h
  | .cons _ _, [], _, h => by simp [chkTs] at h
  | .cons t ts, e :: es, env, h => by
    simp only [chkTs, Bool.and_eq_true] at h
    obtain ⟨h1, h2⟩ := chkTs_len (env := env) h.2
    rw [assign1 h.1.1]
    refine ⟨by rw [List.length_cons, h1]; rfl, ?_⟩
    rw [List.findIdx?_cons, h2]
    rfl
theorem wTgs_len : ∀ {ts : CTs} {ds : List D} {s : DSt} {h : DH} {Q : DSt → DH → Prop}, wTgs ts ds s h Q → (∀ Q', wTgs ts ds s h Q' → True) ∧ (ts = .nil → ds = [])
  | .nil, ds, s, h, Q, q => by
    simp only [wTgs] at q
    exact ⟨fun _ _ => trivial, fun _ => q.1⟩
  | .cons t ts, ds, s, h, Q, q => ⟨fun _ _ => trivial, fun e => by cases e⟩
end
def CTs.fits : CTs → List D → Prop
  | .nil, ds => ds = []
  | .cons _ ts, ds => ∃ d r, ds = d :: r ∧ ts.fits r
theorem fits_len : ∀ {ts : CTs} {ds : List D}, ts.fits ds → ds.length = ts.len
  | .nil, ds, h => by
    have h : ds = [] := h
    subst h; rfl
  | .cons t ts, ds, h => by
    obtain ⟨d, r, rfl, h⟩ := h
    show r.length + 1 = ts.len + 1
    rw [fits_len h]
/-- a store of targets one after another, with its length said first -/
theorem wTgs_fits : ∀ (ts : CTs) (n : Nat) (ds : List D), ds.length = n → (ts.len = n) → ts.fits ds
  | .nil, n, ds, h, e => by
    have e : 0 = n := e
    exact List.length_eq_zero_iff.mp (by omega)
  | .cons t ts, n, [], h, e => by
    have e : ts.len + 1 = n := e
    simp at h
    omega
  | .cons t ts, n, d :: r, h, e => ⟨d, r, rfl, wTgs_fits ts (n - 1) r (by simp at h; omega) (by have e : ts.len + 1 = n := e; omega)⟩
section
variable {L : Lv} {X : Cx} {N : List Str} {sc : Scope} {lc : Bool}
mutual
theorem pg_ok (hN : X.N = N) (hsc : X.env.scope = sc) (nd : X.N.Nodup) (hK : X.K = L.K) (hc : X.calm = true) (hf : lc = true ∨ ∀ x, X.fn x = true) : ∀ (t : CT) (e : Expr), chkT N sc lc t e = true → PG X e (Lg L t.slots (wTg t))
  | .nam i, e, h => by
    cases e with
    | Name x pos =>
      simp only [chkT, Bool.and_eq_true] at h
      obtain ⟨⟨h1, h2⟩, h3⟩ := h
      have hi : X.N[i]? = some x := by rw [hN]; simpa using h1
      have hx : Loc X.env.scope x ∧ (X.fn x = true ∨ X.env.scope.names.lookup x = some .local) := by
        rw [hsc]
        cases lc with
        | true =>
          rw [if_pos rfl] at h2
          unfold lclB at h2
          split at h2
          · exact ⟨.inl (by assumption), .inr (by assumption)⟩
          · cases h2
        | false =>
          rw [if_neg Bool.false_ne_true] at h2
          have hf' : X.fn x = true := by
            rcases hf with z | z
            · cases z
            · exact z x
          unfold locB at h2
          split at h2
          · exact ⟨.inl (by assumption), .inl hf'⟩
          · exact ⟨.inr (by assumption), .inl hf'⟩
          · cases h2
      refine PG.imp (pg_name nd hi hx.1 hx.2) fun v σ H Q ⟨d, s, h, Q0, le, rd, rs, rh, hw, hq⟩ => ?_
      simp only [wTg] at hw
      refine hq _ _ hw _ H .refl ⟨List.length_set, fun j hj => ?_⟩ (rs.set i rd) rh
      have : i ≠ j := fun z => hj (by subst z; simp [CT.slots])
      rw [List.getElem?_set_ne this]
    | _ => simp [chkT] at h
  | .tup ts, e, h => by
    cases e with
    | Tuple es k pos =>
      simp only [chkT] at h
      obtain ⟨hl, hst⟩ := chkTs_len (env := X.env) h
      have hs := pgs_ok hN hsc nd hK hc hf ts es h
      have h1 : PG X (.Tuple es k pos) (gTup X.K ts.len (Lgs L ts.slots (wTgs ts))) := pg_tup hc hs hl hst
      have h2 : PG X (.Tuple es k pos) (gLst X.K ts.len (Lgs L ts.slots (wTgs ts))) := pg_lst hc hs hl hst
      have h3 : PG X (.Tuple es k pos) (fun v σ H Q => gTup X.K ts.len (Lgs L ts.slots (wTgs ts)) v σ H Q ∨ gLst X.K ts.len (Lgs L ts.slots (wTgs ts)) v σ H Q) :=
        ⟨fun pins s σ H v u Q I r q => q.elim (h1.run pins s σ H v u Q I r) (h2.run pins s σ H v u Q I r)⟩
      refine PG.imp h3 fun v σ H Q ⟨d, s, h, Q0, le, rd, rs, rh, hw, hq⟩ => ?_
      simp only [wTg] at hw
      split at hw
      · rename_i ds hd
        obtain ⟨hlen, hw⟩ := hw
        obtain ⟨p, vs, rfl, sq, r1⟩ := seqOf_rd rh rd hd
        have body : Lgs L ts.slots (wTgs ts) vs σ H Q := ⟨ds, s, h, Q0, le, r1, rs, rh, hw, hq⟩
        have hvl : vs.length = ts.len := by rw [r1.length]; exact hlen
        rw [hK]
        rcases sq with sq | sq
        · exact .inr ⟨p, vs, rfl, sq, hvl, body⟩
        · exact .inl ⟨p, vs, rfl, sq, hvl, body⟩
      · exact hw.elim
    | _ => simp [chkT] at h
theorem pgs_ok (hN : X.N = N) (hsc : X.env.scope = sc) (nd : X.N.Nodup) (hK : X.K = L.K) (hc : X.calm = true) (hf : lc = true ∨ ∀ x, X.fn x = true) : ∀ (ts : CTs) (es : List Expr), chkTs N sc lc ts es = true → PGs X es (Lgs L ts.slots (wTgs ts))
  | .nil, [], _ => PGs.imp pgs_nil fun vs σ H Q ⟨ds, s, h, Q0, le, rd, rs, rh, hw, hq⟩ => by
    simp only [wTgs] at hw
    obtain ⟨e, hw⟩ := hw
    subst e
    cases rd
    exact ⟨rfl, hq _ _ hw σ H .refl .refl rs rh⟩
  | .nil, _ :: _, h => by simp [chkTs] at h
  | .cons _ _, [], h => by simp [chkTs] at h
  | .cons t ts, e :: es, h => by
    simp only [chkTs, Bool.and_eq_true] at h
    have h1 := pg_ok hN hsc nd hK hc hf t e h.1.2
    have h2 := pgs_ok hN hsc nd hK hc hf ts es h.2
    refine PGs.imp (pgs_cons h1 h2 (by rw [assign1 h.1.1]; rfl)) fun vs σ H Q ⟨ds, s, h, Q0, le, rd, rs, rh, hw, hq⟩ => ?_
    simp only [wTgs] at hw
    split at hw
    · rename_i d r
      cases rd with
      | cons r1 r2 =>
        refine ⟨_, _, rfl, d, s, h, _, le, r1, rs, rh, hw, fun s' h' q σ' H' l ag rs' rh' => ?_⟩
        exact ⟨r, s', h', Q0, le.trans l, r2.le l.le, rs', rh', q, fun s2 h2 q2 σ2 H2 l2 ag2 rs2 rh2 => hq s2 h2 q2 σ2 H2 (l.trans l2) (ag.trans ag2) rs2 rh2⟩
    · exact hw.elim
end
end
end DL

/-! DL, part L: what is walked, comprehensions, all expressions -/
namespace DL
open PySem PySem.Spec PyProof.Rows L2
section
variable {Γ : Gx} {L : Lv} {k : Nat} {gl : List D} {F : Fns} {X : Cx} {a b c : CE} {es : CEs} {e l r m tg : Expr} {xs : List Expr} {pos apos : Pos}
/-- over the value of an expression: a list, a tuple, a text -/
theorem pi_any {te : TE} (he : PE X e te) : PI X tg e (fun σ H R => te σ H fun x H1 => (∃ a, x = .ref a ∧ (∃ xs, SqL X.K H1 a xs) ∧ R (Itl X.K a) H1) ∨ (∃ a, x = .ref a ∧ (∃ xs, SqT X.K H1 a xs) ∧ R (Itt X.K a) H1) ∨ (∃ z, x = .str z ∧ R (Its z) H1) ∨ ∃ d o, x = .ref d ∧ ((∃ kvs, H1 d = some (.frz o (.dK kvs)) ∧ R (Itk d o kvs) H1) ∨ ∃ kvs, H1 d = some (.frz o (.dT kvs)) ∧ R (Itkt d o kvs) H1)) := by
  refine ⟨fun pins s σ H R I h => ?_⟩
  refine thn (he.run pins s σ H _ I h) fun v s1 ⟨y, H1, I1, r1, q⟩ => ?_
  rcases q with ⟨a, ex, ⟨xs, hq⟩, q⟩ | ⟨a, ex, ⟨xs, hq⟩, q⟩ | ⟨x, ex, q⟩ | ⟨d, o, ex, q⟩
  · subst ex
    cases r1
    obtain ⟨its, rv, p, hz⟩ := I1.list hq
    refine wpAny_pyIter_list p.isList ?_
    exact pi_one (tk := s1.toks) I1 _ (turn_list a _) ⟨_, Heap.get?_push_size _ rfl, rfl, rfl⟩ q
  · subst ex
    cases r1
    obtain ⟨its, rv, p, hz⟩ := I1.tuple hq
    refine wpAny_pyIter_tuple (show s1.heap.IsTuple a its.toArray from p) ?_
    exact pi_one (tk := s1.toks) I1 _ (turn_tuple a _) ⟨_, Heap.get?_push_size _ rfl, rfl, rfl⟩ q
  · subst ex
    obtain ⟨t, rfl⟩ := r1
    cases ha : x.cps.all (· < 128)
    · exact wpAny_pyIter_wide ha (pi_one (tk := s1.toks) I1 _ (turn_str _ x t "str_iterator" (.inr rfl)) ⟨_, Heap.get?_push_size _ rfl, rfl, rfl⟩ q)
    · exact wpAny_pyIter_ascii ha (pi_one (tk := s1.toks) I1 _ (turn_str _ x t "str_ascii_iterator" (.inl rfl)) ⟨_, Heap.get?_push_size _ rfl, rfl, rfl⟩ q)
  · subst ex
    obtain rfl : v = Value.ref d := r1
    rcases q with ⟨kvs, hd, q⟩ | ⟨kvs, hd, q⟩
    · obtain ⟨hs, hgd, hx, es, ep, vs, hdt, hsz, kv, hm⟩ := I1.frzK hd
      refine iter_keys hs hgd hx hdt (pi_one (tk := s1.toks) I1 _ (turn_keys _ hdt) ⟨_, Heap.get?_push_size _ rfl, rfl, ?_⟩ q)
      rw [hsz] <;> rfl
    · obtain ⟨hs, hgd, hx, es, ep, hdt, hsz, ent⟩ := I1.frzT hd
      refine iter_keys hs hgd hx hdt (pi_one (tk := s1.toks) I1 _ (turn_keysT _ hdt) ⟨_, Heap.get?_push_size _ rfl, rfl, ?_⟩ q)
      rw [hsz] <;> rfl
theorem rps_at {κ : Type} [DecidableEq κ] {K : PySem.W.Frag} {H : Hp} : ∀ {gs : List (κ × V)} {fs : List (κ × D)} {i : Nat} {k : κ} {d : D}, RPs K H gs fs → fs[i]? = some (k, d) → ∃ v, gs[i]? = some (k, v) ∧ RD K H v d
  | _, _, _, _, _, .nil, e => by simp at e
  | (j, v) :: gs, (j', d') :: fs, 0, k, d, .cons ⟨e1, r1⟩ _, e => by
    have e1 : j = j' := e1
    subst e1
    simp at e
    obtain ⟨rfl, rfl⟩ := e
    exact ⟨v, rfl, r1⟩
  | _ :: gs, _ :: fs, i + 1, k, d, .cons _ t, e => by
    obtain ⟨v, a, b⟩ := rps_at (i := i) t (by simpa using e)
    exact ⟨v, by simpa using a, b⟩
theorem itr_dk {L : Lv} {H1 : Hp} {a : Addr} {o : Obj} {gs : List (Key × V)} {kvs : List (Key × D)} (e : H1 a = some (.frz o (.dK gs))) (r : RPs L.K H1 gs kvs) : ItR L H1 (.fix (kvs.map fun kv => keyD kv.1)) (Itk a o gs) := by
  intro i H h l rh
  have e := l.f _ _ _ e
  have r := r.le l
  have hl := r.length
  unfold nextD
  rw [List.getElem?_map]
  cases q : kvs[i]? with
  | none =>
    have := List.getElem?_eq_none_iff.mp q
    exact ⟨e, by omega⟩
  | some kv =>
    obtain ⟨k, d⟩ := kv
    obtain ⟨v, g, rv⟩ := rps_at r q
    refine ⟨⟨e, (List.getElem?_eq_some_iff.mp g).1⟩, fun x H' ⟨e3, k', v', g', ex⟩ => ?_⟩
    subst e3 ex
    rw [g] at g'
    cases g'
    exact ⟨.refl, kV_rd k, rh⟩
theorem itr_dt {L : Lv} {H1 : Hp} {a : Addr} {o : Obj} {gs : List (List Key × V)} {kvs : List (List Key × D)} (e : H1 a = some (.frz o (.dT gs))) (r : RPs L.K H1 gs kvs) : ItR L H1 (.fix (kvs.map fun kv => .tup (kv.1.map keyD))) (Itkt a o gs) := by
  intro i H h l rh
  have e := l.f _ _ _ e
  have r := r.le l
  have hl := r.length
  unfold nextD
  rw [List.getElem?_map]
  cases q : kvs[i]? with
  | none =>
    have := List.getElem?_eq_none_iff.mp q
    exact ⟨e, by omega⟩
  | some kv =>
    obtain ⟨k, d⟩ := kv
    obtain ⟨v, g, rv⟩ := rps_at r q
    refine ⟨⟨e, (List.getElem?_eq_some_iff.mp g).1⟩, fun x H' ⟨e3, k', v', b, g', ex, hb⟩ => ?_⟩
    subst e3 ex
    rw [g] at g'
    cases g'
    exact ⟨.refl, .tup hb (kVs_rd k), rh⟩
theorem li_any (O : XO Γ L k gl F X) (ha : Snd L gl F X a e) : PI X tg e (Li L (wI gl F (.any a))) := by
  refine PI.imp (pi_any ha.pe) fun σ H R ⟨s, h, R0, le, rs, rh, q, hq⟩ => ?_
  simp only [wI] at q
  refine ⟨s, h, _, le, rs, rh, q, fun d h1 q1 v H1 l1 r1 rh1 => ?_⟩
  unfold iAny at q1
  rw [O.K]
  split at q1
  · cases r1
    exact .inr (.inr (.inl ⟨_, rfl, hq _ _ q1 _ H1 l1 rh1 itr_str⟩))
  · cases r1 with
    | dk e1 r1 => exact .inr (.inr (.inr ⟨_, _, rfl, .inl ⟨_, e1, hq _ _ q1 _ H1 l1 rh1 (itr_dk e1 r1.to)⟩⟩))
  · cases r1 with
    | dt e1 r1 => exact .inr (.inr (.inr ⟨_, _, rfl, .inr ⟨_, e1, hq _ _ q1 _ H1 l1 rh1 (itr_dt e1 r1.to)⟩⟩))
  · split at q1
    · rename_i J hJ
      obtain ⟨p, vs, rfl, sq, f⟩ := isSeqL_rd rh1 r1 hJ
      exact .inl ⟨p, rfl, ⟨vs, sq⟩, hq _ _ q1 _ H1 l1 rh1 (f H1 .refl).1⟩
    · split at q1
      · rename_i J hJ
        obtain ⟨p, vs, rfl, sq, f⟩ := isSeqT_rd r1 hJ
        exact .inr (.inl ⟨p, rfl, ⟨vs, sq⟩, hq _ _ q1 _ H1 l1 rh1 (f H1 .refl).1⟩)
      · exact q1.elim
theorem li_rng1 (O : XO Γ L k gl F X) (hv : glB Γ.sc "range" = true) (hm : Γ.bls.contains ("range" : Str) = true) (hs : notStar l = true) (ha : Snd L gl F X a l) : PI X tg (.Call (.Name "range" apos) [l] [] pos) (Li L (wI gl F (.rng1 a))) := by
  refine PI.imp (pi_range1 (O.glo hv) (O.blo hm) (pa_cons ha.pe pa_nil (star1 hs)) (star1 hs)) fun σ H R ⟨s, h, R0, le, rs, rh, q, hq⟩ => ?_
  simp only [wI] at q
  refine ⟨s, h, _, le, rs, rh, q, fun d h1 q1 v H1 l1 r1 rh1 => ?_⟩
  split at q1
  · cases r1
    obtain ⟨⟨_, _, b1, b2⟩, q1⟩ := q1
    refine ⟨_, rfl, b1, b2, ?_⟩
    rw [Int.sub_zero] at q1
    exact hq _ _ q1 _ H1 l1 rh1 itr_rng
  · exact q1.elim
theorem li_rng2 (O : XO Γ L k gl F X) (hv : glB Γ.sc "range" = true) (hm : Γ.bls.contains ("range" : Str) = true) (hs : notStar l = true) (hs2 : notStar r = true) (ha : Snd L gl F X a l) (hb : Snd L gl F X b r) : PI X tg (.Call (.Name "range" apos) [l, r] [] pos) (Li L (wI gl F (.rng2 a b))) := by
  refine PI.imp (pi_range2 (O.glo hv) (O.blo hm) (pa_cons ha.pe (pa_cons hb.pe pa_nil (star1 hs2)) (star1 hs)) (by rw [star1 hs, star1 hs2]; rfl) (star1 hs2)) fun σ H R ⟨s, h, R0, le, rs, rh, q, hq⟩ => ?_
  simp only [wI] at q
  refine ⟨s, h, _, le, rs, rh, q, fun d h1 q1 v H1 l1 r1 rh1 => ⟨s, h1, _, le.trans l1, rs.le l1.le, rh1, q1, fun d2 h2 q2 v2 H2 l2 r2 rh2 => ?_⟩⟩
  split at q2
  · cases r1; cases r2
    exact ⟨_, _, rfl, q2.1, hq _ _ q2.2 _ H2 (l1.trans l2) rh2 itr_rng⟩
  · exact q2.elim
theorem li_rng3 (O : XO Γ L k gl F X) {c : CE} {w : Expr} (hv : glB Γ.sc "range" = true) (hm : Γ.bls.contains ("range" : Str) = true) (hs : notStar l = true) (hs2 : notStar r = true) (hs3 : notStar w = true) (ha : Snd L gl F X a l) (hb : Snd L gl F X b r) (hc : Snd L gl F X c w) : PI X tg (.Call (.Name "range" apos) [l, r, w] [] pos) (Li L (wI gl F (.rng3 a b c))) := by
  refine PI.imp (pi_range3 (O.glo hv) (O.blo hm) (pa_cons ha.pe (pa_cons hb.pe (pa_cons hc.pe pa_nil (star1 hs3)) (star1 hs2)) (star1 hs)) (star1 hs) (stars_plain (by rw [List.all_cons, List.all_cons, hs2, hs3]; rfl))) fun σ H R ⟨s, h, R0, le, rs, rh, q, hq⟩ => ?_
  simp only [wI] at q
  refine ⟨s, h, _, le, rs, rh, q, fun d h1 q1 v H1 l1 r1 rh1 => ⟨s, h1, _, le.trans l1, rs.le l1.le, rh1, q1, fun d2 h2 q2 v2 H2 l2 r2 rh2 => ⟨s, h2, _, (le.trans l1).trans l2, (rs.le l1.le).le l2.le, rh2, q2, fun d3 h3 q3 v3 H3 l3 r3 rh3 => ?_⟩⟩⟩
  split at q3
  · cases r1; cases r2; cases r3
    obtain ⟨⟨b1, b2, b3, b4, b5, b6⟩, q3⟩ := q3
    exact ⟨_, _, _, _, rfl, rgC_up b1 b2 b3 b4 b5 b6, hq _ _ q3 _ H3 ((l1.trans l2).trans l3) rh3 itr_rgc⟩
  · exact q3.elim
theorem isSeqA_rd {d : D} {h : DH} {J : DIt} {v : V} {H : Hp} (rh : RH L.K L.C H h) (r : RD L.K H v d) (e : isSeqA d h = some J) : ∃ a vs t, v = .ref a ∧ SqK t L.K H a vs ∧ ∀ H1, Le H H1 → KSrc t L H1 J a := by
  unfold isSeqA at e
  split at e
  · rename_i J' e1
    cases e
    obtain ⟨a, vs, rfl, s1, f⟩ := isSeqL_rd rh r e1
    exact ⟨a, vs, false, rfl, s1, fun H1 l => KSrc.ofL (f H1 l).2⟩
  · obtain ⟨a, vs, rfl, s1, f⟩ := isSeqT_rd r e
    exact ⟨a, vs, true, rfl, s1, fun H1 l => KSrc.ofT (f H1 l).2⟩
theorem li_zip (O : XO Γ L k gl F X) {elts : List Expr} {kk : Nat} {tpos : Pos} (hv : glB Γ.sc "zip" = true) (hm : Γ.bls.contains ("zip" : Str) = true) (hs : notStar l = true) (hs2 : notStar r = true) (ha : Snd L gl F X a l) (hb : Snd L gl F X b r) : PI X (.Tuple elts kk tpos) (.Call (.Name "zip" apos) [l, r] [] pos) (Li L (wI gl F (.zip a b))) := by
  refine PI.imp (pi_zipK (O.glo hv) (O.blo hm) (pa_cons ha.pe (pa_cons hb.pe pa_nil (star1 hs2)) (star1 hs)) (star1 hs) (by rw [star1 hs2]; rfl)) fun σ H R ⟨s, h, R0, le, rs, rh, q, hq⟩ => ?_
  simp only [wI] at q
  refine ⟨s, h, _, le, rs, rh, q, fun d h1 q1 v H1 l1 r1 rh1 => ⟨s, h1, _, le.trans l1, rs.le l1.le, rh1, q1, fun d2 h2 q2 v2 H2 l2 r2 rh2 => ?_⟩⟩
  unfold iZp at q2
  rw [O.K]
  split at q2
  · rename_i J J' e1 e2
    obtain ⟨p, vs, b1, rfl, s1, f1⟩ := isSeqA_rd (rh2) (r1.le l2.le) e1
    obtain ⟨p', vs', b2, rfl, s2, f2⟩ := isSeqA_rd rh2 r2 e2
    exact ⟨p, p', vs, vs', b1, b2, rfl, s1, s2, hq _ _ q2 _ H2 (l1.trans l2) rh2 (itr_zipK (f1 H2 .refl) (f2 H2 .refl))⟩
  · exact q2.elim
theorem li_enm (O : XO Γ L k gl F X) {elts : List Expr} {kk : Nat} {tpos : Pos} (hv : glB Γ.sc "enumerate" = true) (hm : Γ.bls.contains ("enumerate" : Str) = true) (hs : notStar l = true) (ha : Snd L gl F X a l) : PI X (.Tuple elts kk tpos) (.Call (.Name "enumerate" apos) [l] [] pos) (Li L (wI gl F (.enm a))) := by
  refine PI.imp (pi_enumK (O.glo hv) (O.blo hm) (pa_cons ha.pe pa_nil (star1 hs)) (star1 hs)) fun σ H R ⟨s, h, R0, le, rs, rh, q, hq⟩ => ?_
  simp only [wI] at q
  refine ⟨s, h, _, le, rs, rh, q, fun d h1 q1 v H1 l1 r1 rh1 => ?_⟩
  unfold iEn at q1
  split at q1
  · rename_i J hJ
    obtain ⟨p, vs, b, rfl, sq, f⟩ := isSeqA_rd rh1 r1 hJ
    rw [O.K]
    exact ⟨p, vs, b, rfl, sq, hq _ _ q1 _ H1 l1 rh1 (itr_enmK (f H1 .refl))⟩
  · exact q1.elim

/-! ### comprehensions -/
theorem XO.blk (O : XO Γ L k gl F X) {s : Shared} {H : Hp} {scope : Scope} {C : Addr} {cl : List (Str × Addr)} {fp : List Addr} : XO { Γ with sc := relS scope Γ.sc } L.nx k gl F (X.blk s H scope (compEnvC scope cl C X.env) fp) where
  N := O.N
  sc := by show relS scope X.env.scope = _; rw [O.sc]
  nd := O.nd
  K := O.K
  rm := ⟨O.rm.u, O.rm.g, O.rm.c, O.rm.sm⟩
  room := O.room
  tab := O.tab
  tk := fun u s' ⟨_, _, _, _, _, _, _, _, _, _, _, _, _, _, _, _, w⟩ => by
    obtain ⟨_, _, _, _, _, _, _, q⟩ := w
    exact q.elim
def Ltt (L : Lv) (w : DSt → DH → (Bool → DH → Prop) → Prop) : TT := fun σ H Q => ∃ s h Q0, Ste L.H0 L.h0 H h ∧ RS L.K H σ s ∧ RH L.K L.C H h ∧ w s h Q0 ∧ ∀ b h', Q0 b h' → ∀ H', Ste H h H' h' → RH L.K L.C H' h' → Q b H'
theorem ltt_none : PTs X [] (Ltt L (wT gl F .none)) := ⟨fun pins s0 σ H Q I ⟨s, h, Q0, le, rs, rh, q, hq⟩ => pts_nil.run pins s0 σ H Q I (by simp only [wT] at q; exact hq _ _ q H .refl rh)⟩
theorem ltt_some (hc : PT X e (Lt L.nx (wE gl F a))) : PTs X [e] (Ltt L (wT gl F (.some a))) := ⟨fun pins s0 σ H Q I ⟨s, h, Q0, le, rs, rh, q, hq⟩ => (pts_one hc).run pins s0 σ H Q I (by
  simp only [wT] at q
  exact ⟨s, h, Q0, le, rs, rh, q, hq⟩)⟩
theorem comp_conv {z : Bool} {own : List (Str × Nat)} {t : CT} {test : CO} {el : CE} {it : CI} (hsub : ∀ j ∈ t.slots, j ∈ own.map (·.2)) : ∀ σ H Q, Lx L (wE gl F (.comp z own t it test el)) σ H Q →
    tLc (Li L (wI gl F it)) (Lg L t.slots (wTg t)) (Ltt L (wT gl F test)) (Lx L.nx (wE gl F el)) (own.map (·.2)) σ H (fzV Q) := by
  intro σ H Q ⟨s, h, Q0, le, rs, rh, q, hq⟩
  simp only [wE] at q
  refine ⟨s, h, _, le, rs, rh, q, fun J h1 q1 Jh H1 l1 rh1 itr D nD => ?_⟩
  obtain ⟨W, ⟨m0, w0⟩, turn⟩ := q1
  -- the layer below: the new list stands at D, unknown above
  refine ⟨fun i m H2 => ∃ h2 acc vs, Ste H1 h1 H2 h2 ∧ RH L.K L.C H2 h2 ∧ h2 D = none ∧ H2 D = some (.lst vs) ∧ RDs L.K H2 vs acc ∧ W i m h2 acc, ⟨m0, h1, [], [], Ste.side nD, rh1.side nD, rh1.free nD, upd_same, .nil, w0⟩, fun i m H2 ⟨h2, acc, vs, l2, rh2, dn, hD, rv, w⟩ => ?_⟩
  have tn := turn i m h2 acc w
  have ir := itr i H2 h2 l2.le rh2
  split at tn
  · exact tn.elim
  · rename_i e
    rw [e] at ir
    refine .inl ⟨ir, ?_⟩
    -- D becomes known
    have st : Ste H2 h2 H2 (up h2 D (.lst acc)) → True := fun _ => trivial
    have q2 := zq_LQ hq _ _ (al_z tn D dn)
    refine q2 (.ref D) H2 ⟨(l1.le.trans l2.le), fun x o n e2 => (l1.trans l2).fr x o n e2, fun x o n e2 => ?_⟩ (.ref D) fun x o e2 => ?_
    · have hx : x ≠ D := fun z => by
        subst z
        have z1 := l1.fr x o n e2
        rw [nD] at z1; cases z1
      rw [up_ne hx]
      exact (l1.trans l2).dm x o n e2
    · by_cases hx : x = D
      · subst hx; rw [up_same] at e2; cases e2
        exact ⟨vs, hD, rv⟩
      · rw [up_ne hx] at e2
        exact rh2 x o e2
  · rename_i d e
    rw [e] at ir
    obtain ⟨N, hN, tn⟩ := tn
    refine .inr ⟨ir.1, fun H' => ∃ h' acc' vs', Ste H1 h1 H' h' ∧ RH L.K L.C H' h' ∧ h' D = none ∧ H' D = some (.lst vs') ∧ RDs L.K H' vs' acc' ∧ N h' acc', fun H' ⟨h', acc', vs', a1, a2, a3, a4, a5, a6⟩ => ?_, fun x H' y => ?_⟩
    · obtain ⟨m', hm, w'⟩ := hN h' acc' a6
      exact ⟨m', hm, h', acc', vs', a1, a2, a3, a4, a5, w'⟩
    · obtain ⟨l3, rd, rh3⟩ := ir.2 x H' y
      have leH : Ste L.H0 L.h0 H' h2 := ((le.trans l1).trans l2).trans l3
      have rsW : RS L.K H' (wipe σ (own.map (·.2))) (wipeD s (own.map (·.2))) := (((rs.le l1.le).le l2.le).le l3.le).wipe _
      refine ⟨d, _, h2, _, leH, rd, rsW, rh3, tn, fun s2 h3 q3 σ2 H3 l4 ag rs3 rh4 => ⟨ag.wipe hsub, ?_⟩⟩
      refine ⟨s2, h3, _, leH.trans l4, rs3, rh4, q3, fun b h4 q4 H4 l5 rh5 => ?_⟩
      have lD : Ste H2 h2 H4 h4 := (l3.trans l4).trans l5
      have dn4 : h4 D = none := lD.dm D _ dn hD
      have hD4 : H4 D = some (.lst vs) := lD.fr D _ dn hD
      cases b with
      | false =>
        exact ⟨h4, acc, vs, (l2.trans lD), rh5, dn4, hD4, rv.le lD.le, q4⟩
      | true =>
        refine ⟨s2, h4, _, (leH.trans l4).trans l5, rs3.le l5.le, rh5, q4, fun y h5 q5 v H5 l6 r5 rh6 => ?_⟩
        obtain ⟨hl, q5⟩ := q5
        have dn5 : h5 D = none := l6.dm D _ dn4 hD4
        have hD5 : H5 D = some (.lst vs) := l6.fr D _ dn4 hD4
        have rv5 := (rv.le lD.le).le l6.le
        have hz := sizeLine_eq
        have mu : Mut (H5 D) := by rw [hD5]; exact trivial
        refine ⟨vs, hD5, by rw [rv5.length]; omega, h5, acc ++ [y], vs ++ [v], ?_, ?_, dn5, upd_same, (rv5.append (.cons r5 .nil)).le (Le.mut mu), q5⟩
        · have lT : Ste H1 h1 H5 h5 := (l2.trans lD).trans l6
          refine ⟨lT.le.trans (Le.mut mu), fun x o n e2 => ?_, lT.dm⟩
          have hx : x ≠ D := fun z => by subst z; rw [nD] at e2; cases e2
          rw [upd_ne hx]
          exact lT.fr x o n e2
        · intro x o e2
          have hx : x ≠ D := fun z => by subst z; rw [dn5] at e2; cases e2
          exact (rh6 x o e2).le (Le.mut mu) (upd_ne hx)
theorem sub_of {t : CT} {own : List (Str × Nat)} (h : t.slots.all (fun i => (own.map (·.2)).contains i) = true) : ∀ j ∈ t.slots, j ∈ own.map (·.2) := fun j hj => by
  have := List.all_eq_true.mp h j hj
  simpa using this
theorem snd_comp {z : Bool} (O : XO Γ L k gl F X) {own : List (Str × Nat)} {t : CT} {test : CO} {el : CE} {it : CI} {elt iter : Expr} {ifs : List Expr} {scope : Scope} (hb : blkC Γ.N Γ.sc scope own = true) (hsub : t.slots.all (fun i => (own.map (·.2)).contains i) = true)
    (ht : chkT Γ.N (relS scope Γ.sc) true t tg = true) (hi : PI X tg iter (Li L (wI gl F it))) (hns : notSet iter = true)
    (htt : ∀ (s : Shared) (H : Hp) (C : Addr) (cl : List (Str × Addr)) (fp : List Addr), PTs (X.blk s H scope (compEnvC scope cl C X.env) fp) ifs (Ltt L (wT gl F test)))
    (he : ∀ (s : Shared) (H : Hp) (C : Addr) (cl : List (Str × Addr)) (fp : List Addr), PE (X.blk s H scope (compEnvC scope cl C X.env) fp) elt (Lx L.nx (wE gl F el))) :
    Snd L gl F X (.comp z own t it test el) (.ListComp elt [⟨tg, iter, ifs, 0⟩] scope pos) := by
  refine .of (PE.imp (pe_fz (pe_lc O.rm.c O.nd hi (blkOk_by (by rw [O.N, O.sc]; exact hb)) (fun s H C cl fp => ?_) htt he (nofold hns))) (comp_conv (sub_of hsub))) (fun _ => rfl) (fun _ _ _ q => nomatch q)
  have O' := O.blk (s := s) (H := H) (scope := scope) (C := C) (cl := cl) (fp := fp)
  exact pg_ok (N := Γ.N) (sc := relS scope Γ.sc) (lc := true) (L := L) O'.N O'.sc O'.nd O'.K O'.rm.c (.inl rfl) t tg ht
end
end DL

/-! DL, part L2: exceptions held as values, instances: their fields, their methods -/
namespace DL
open PySem PySem.Spec PyProof.Rows L2

theorem lookup_val {k : Str} : ∀ gs : List (Str × V), gs.lookup k = valV gs k
  | [] => rfl
  | (j, v) :: gs => by
    have ih := lookup_val (k := k) gs
    unfold valV at ih ⊢
    rw [List.find?_cons]
    by_cases e : j = k
    · subst e
      simp [List.lookup]
    · have e2 : (k == j) = false := by simpa using fun z => e z.symm
      simp only [List.lookup, e2, decide_eq_false e]
      exact ih
theorem RPs.look {K : PySem.W.Frag} {H : Hp} {gs : List (Str × V)} {fs : List (Str × D)} (r : RPs K H gs fs) (f : Str) : (∀ d, dget fs f = some d → ∃ v, gs.lookup f = some v ∧ RD K H v d) ∧ (dget fs f = none → gs.lookup f = none) := by
  rw [lookup_val]
  exact r.get
theorem putF_rd {K : PySem.W.Frag} {H : Hp} {f : Str} {v : V} {d : D} (rv : RD K H v d) : ∀ {gs : List (Str × V)} {fs : List (Str × D)}, RPs K H gs fs → RPs K H (putF f v gs) (dputF f d fs)
  | _, _, .nil => .cons ⟨rfl, rv⟩ .nil
  | (j, w) :: gs, (j', e) :: fs, .cons ⟨e1, r1⟩ t => by
    have e1 : j = j' := e1
    subst e1
    have ih := putF_rd (f := f) rv t
    show RPs K H (if j = f then (j, v) :: gs else (j, w) :: putF f v gs) (if j = f then (j, d) :: fs else (j, e) :: dputF f d fs)
    split
    · exact .cons ⟨rfl, rv⟩ t
    · exact .cons ⟨rfl, r1⟩ ih
theorem CL.eq {K : PySem.W.Frag} {c : Str} {C C' : Addr} (a : CL K c C) (b : CL K c C') : C = C' := by
  have := a.symm.trans b
  injection this with z
  injection z with z
  injection z
section
variable {P : Program} {w : World} {H H' : Hp} {h h' : Heap} {a C dx : Addr} {fs fs' : List (Str × V)}
theorem ins_getR (hok : HOk P w H h) (e : Rd H a (.ins C dx fs)) : ∃ mA, ObjM h a dx C mA ∧ (∀ f, RelO (fs.lookup f) (mA f)) := by
  obtain ⟨d, z, ne, ob, mA, n, r, q⟩ := (show ObjOk P w H h a (.ins C dx fs) from e.ok hok)
  exact ⟨mA, ⟨ob, n, ne⟩, r⟩
end
section
variable {X : Cx} {pins : List (Addr × Obj)} {σ : L2.St} {H : Hp} {s : Shared} {a C dx : Addr} {fs : List (Str × V)} {f : Str} {v : V} {A : Around} {E : Value → Shared → Prop}
theorem getattrR {b : Bool} {Q : Value → Shared → Prop} (I : Inv X pins σ H s) (e : Rd H a (.ins C dx fs)) (c : Cls X.K C) (n : NoAttr X.K C f) (l : fs.lookup f = some v)
    (h : ∀ u s', Inv X pins σ H s' → RelV v u → Q u s') : wpAny (model X.prog X.w) A (getAttr (.ref a) f b) Q E s := by
  obtain ⟨mA, O, r⟩ := ins_getR I.hok e
  obtain ⟨u, hu, ru⟩ := RelO.some_of (v := v) (o := mA f) (by rw [← l]; exact r f)
  exact get_map I.kIn O (c.get f) c.hd n hu (handed_of ru) (h u _ (I.tok _) ru)
theorem getmethR {m : Str} {g : Addr} {pl : Sem Bool} {Q : Value × List Value → Shared → Prop} (I : Inv X pins σ H s) (e : Rd H a (.ins C dx fs)) (c : Cls X.K C) (k : Meth X.K C m g) (l : fs.lookup m = none)
    (h : Q (.ref g, [.ref a]) s) : wpAny (model X.prog X.w) A (getMethod (.ref a) m pl) Q E s := by
  obtain ⟨mA, O, r⟩ := ins_getR I.hok e
  have hn : mA m = none := RelO.none_of (by rw [← l]; exact r m)
  exact get_meth I.kIn O (c.get m) k.at_ k.fn hn h
/-- a caught exception's field -/
theorem getexc {oe : Obj} {d : Option Addr} {Q : Value → Shared → Prop} (I : Inv X pins σ H s) (e : H a = some (.frz oe exU)) (ev : ExV oe C d) (ed : ExD H d fs) (hga : PySem.W.findIn X.K (.ref C) "__getattribute__" = some (some (.builtin "BaseException.__getattribute__")))
    (hgg : PySem.W.findIn X.K (.ref C) "__getattr__" = some none) (hbe : PySem.W.subIn X.K (.ref C) (.type "BaseException") = some true) (hd : PySem.W.hasDictIn X.K C = true) (n : PySem.W.findIn X.K (.ref C) f = some none) (l : fs.lookup f = some v)
    (h : ∀ u s', Inv X pins σ H s' → RelV v u → Q u s') : wpAny (model X.prog X.w) A (getAttr (.ref a) f true) Q E s := by
  obtain ⟨h1, h2, vs, h3⟩ := ev
  have ha : s.heap.get? a = some oe := (show ObjOk X.prog X.w H s.heap a (.frz oe exU) from I.hok a _ e).1
  cases d with
  | none =>
    have : fs = [] := ed
    subst this
    cases l
  | some dd =>
    have hx : ObjOk X.prog X.w H s.heap dd (.xd fs) := I.hok dd _ ed
    obtain ⟨mA, hns, hr⟩ := hx
    obtain ⟨od, ho, hl⟩ := lookIn_ns hns
    obtain ⟨u, hu, ru⟩ := RelO.some_of (v := v) (o := mA f) (by rw [← l]; exact hr f)
    have J : PySem.W.InstAt s.heap a oe C (some od) := ⟨ha, h1, by unfold PySem.W.notCls; rw [h3] <;> rfl, by rw [h2]; exact ho⟩
    exact HandSPX.exc_get I.kIn J hga hgg hbe (PySem.W.findObj_own hd n rfl (by rw [hl, hu])) (handed_of ru) (h u _ (I.tok _) ru)
end

/-! ### the method call, whose method is found by the value -/
theorem call_late {prog : Program} {w : World} {A : Around} {env : Env} {E : Value → Shared → Prop} {s : Shared} {o : Expr} {name : Str} {apos pos : Pos} {args : List Expr} {Q : Value → Shared → Prop}
    (hbase : attributeBase o name env (eval o env) = eval o env)
    (hfew : ((backTo pos (starEach args env)).all (fun x => !x.1) && (backToKw pos (keywordEach [] env)).all (fun x => x.1.isSome)
      && decide (args.length + ([] : List Keyword).length + (if ([] : List Keyword).isEmpty then 0 else 1) < 30)) = true)
    (hline : (apos.endLine == pos.line) = true)
    (h : wpAny (model prog w) A (eval o env) (fun ov s₁ => ∀ pl : Sem Bool, wpAny (model prog w) A (getMethod ov name pl) (fun fx s₂ => wpAny (model prog w) A (callWith pos fx.1 fx.2 (backTo pos (starEach args env)) (backToKw pos (keywordEach [] env))) Q E s₂) E s₁) E s) :
    wpAny (model prog w) A (eval (.Call (.Attribute o name apos) args [] pos) env) Q E s := by
  rw [arm_eval_Call, hbase]
  refine wpAny_bind (wpAny_mono h (fun ov s₁ h₁ => ?_) fun _ _ e => e)
  refine wpAny_bind (wpAny_standAt ?_)
  have hform : methodCallForm (args.length + ([] : List Keyword).length) (backTo pos (starEach args env)) (backToKw pos (keywordEach [] env)) = true := hfew
  have hpos : methodCallPos true o env apos pos = pure pos := by unfold methodCallPos; simp [hline]
  unfold methodCall
  rw [hform]
  refine wpAny_bind (wpAny_holding (wpAny_mono (h₁ _) (fun fx s₂ h₂ => ?_) fun _ _ e => e))
  exact wpAny_bind (wpAny_of_eq hpos h₂)

section
variable {Γ : Gx} {L : Lv} {k : Nat} {gl : List D} {F : Fns} {X : Cx} {a b c : CE} {es : CEs} {e l r : Expr} {pos apos : Pos}
/-- what an instance is, below -/
theorem clsD_rd {K : PySem.W.Frag} {C : CA} {H : Hp} {h : DH} {m c : Str} {d : D} {v : V} (rh : RH K C H h) (r : RD K H v d) (e : clsD m d h = some c) : ∃ a Ca dx gs, v = .ref a ∧ CL K c Ca ∧ Rd H a (.ins Ca dx gs) ∧ gs.lookup m = none := by
  unfold clsD at e
  split at e
  · split at e
    · rename_i fs _ hn
      cases e
      cases r with
      | ob c1 h1 r1 => exact ⟨_, _, _, _, rfl, c1, .inr ⟨_, h1⟩, (RPs.look (RDp.to r1) _).2 hn⟩
    · cases e
  · cases r
    split at e
    · rename_i ha
      split at e
      · rename_i hn
        cases e
        obtain ⟨Ca, dx, gs, h1, r1, c1⟩ := rh _ _ ha
        exact ⟨_, _, _, _, rfl, c1, .inl h1, (RPs.look r1 _).2 hn⟩
      · cases e
    · cases e
  · cases e
theorem mtI_mem {tb : List (Str × Nat)} {o : Option Str} {i : Nat} (e : mtI tb o = some i) : ∃ c, o = some c ∧ (c, i) ∈ tb := by
  unfold mtI at e
  split at e
  · rename_i c
    obtain ⟨x, h1, h2⟩ := Option.map_eq_some_iff.mp e
    have h3 := List.find?_some h1
    have h4 := List.mem_of_find?_eq_some h1
    refine ⟨c, rfl, ?_⟩
    have h3 : x.1 = c := by simpa using h3
    rw [← h3, ← h2]
    exact h4
  · cases e
theorem few_of {m : Str} {ys : List Expr} (hst : ys.all notStar = true) (h30 : ys.length < 29) : ((backTo pos (starEach ys X.env)).all (fun x => !x.1) && (backToKw pos (keywordEach [] X.env)).all (fun x => x.1.isSome)
      && decide (ys.length + ([] : List Keyword).length + (if ([] : List Keyword).isEmpty then 0 else 1) < 30)) = true := by
  rw [stars_all hst]
  have z : ys.length + ([] : List Keyword).length + (if ([] : List Keyword).isEmpty then 0 else 1) < 30 := by
    show ys.length + 0 + 0 < 30
    omega
  rw [decide_eq_true z]
  rfl
/-- a call's promise, from its meaning -/
theorem sp_go {K : PySem.W.Frag} {C : CA} {w : List D → DH → QD → XD → Prop} {sd : DSt} {h1 : DH} {Q0 : QD} {Q : VK} {H H1 : Hp} {h : DH} {σ : L2.St} {ds : List D} {vs : List V} (eK : K = L.K) (eC : C = L.C) (le : Ste L.H0 L.h0 H h) (l1 : Ste H h H1 h1) (rs : RS L.K H σ sd) (r1 : RDs L.K H1 vs ds) (rh1 : RH L.K L.C H1 h1) (q : w ds h1 Q0 (fun x h' => L.EX x sd h'))
    (hq : ∀ d h', Q0 d h' → LQ L.K L.C H h Q d h') : spL K C w vs H1 Q (WE (Wx L) σ) := by
  subst eK eC
  exact ⟨ds, h1, Q0, _, r1, rh1, q, fun d h' q' => (hq d h' q').le l1, fun x h' ex cls d H' l' rx rh' => ⟨x, sd, h', (le.trans l1).trans l', rx, (rs.le l1.le).le l'.le, rh', ex⟩⟩
/-- a call of a def that a slot holds -/
theorem snd_cal (O : XO Γ L k gl F X) {i : Nat} {x : Str} {tb : List (Str × Nat)} {y : Expr} {ys : List Expr} (hN : Γ.N[i]? = some x) (hv : visB Γ.sc x = true) (hn : okN x = true) (htb : tb.all (fun r => Γ.fns[r.2]? == some r.1 && plainN r.1) = true) (hst : (y :: ys).all notStar = true) (ha : PA X (y :: ys) (La L (wEs gl F es))) : Snd L gl F X (.cal i tb es) (.Call (.Name x apos) (y :: ys) [] pos) := by
  rw [List.all_cons, Bool.and_eq_true] at hst
  refine .of ⟨fun pins s σ H Q I q => ?_⟩ (fun _ => rfl) (fun _ _ _ q => nomatch q)
  obtain ⟨sd, h, Q0, le, rs, rh, q, hq⟩ := q
  simp only [wE] at q
  have hz : ∃ z j, sd[i]? = some (some (.fn z)) ∧ tb.lookup z = some j ∧ wEs gl F es sd h (fun ds h1 => F j ds h1 Q0 (fun x h' => L.EX x sd h')) (fun x h' => L.EX x sd h') := by
    cases hj : fnI tb sd[i]? with
    | none => rw [hj] at q; exact q.elim
    | some j =>
      rw [hj] at q
      unfold fnI at hj
      split at hj
      · rename_i z e
        exact ⟨z, j, e, hj, q⟩
      · cases hj
  obtain ⟨z, j, hd, hl, q⟩ := hz
  obtain ⟨v, h1, h2⟩ := rs.2 i _ hd
  cases h2 with
  | fn ns =>
    rename_i a
    have mem : (z, j) ∈ tb := by
      obtain ⟨l1, l2, e, _⟩ := List.lookup_eq_some_iff.mp hl
      rw [e]; simp
    have hb2 := List.all_eq_true.mp htb _ mem
    rw [Bool.and_eq_true, beq_iff_eq] at hb2
    obtain ⟨f, fd, ps, hm, hk, hf, hb⟩ := O.tab.fn j z hb2.1 hb2.2
    rw [← O.K] at ns
    have ea := PySem.W.mg_of I.ok.mod.kin I.ok.mod.glob ns
    rw [hm] at ea
    cases ea
    refine wpAny_Call_Name_kw (thn ((pe_var (X := X) (pos := apos) (by rw [O.N]; exact hN) (by rw [O.sc]; exact visB_ok hv) (okN_1 hn) (okN_2 hn)).run pins s σ H (fun v1 H1 => v1 = .ref a ∧ H1 = H) I ⟨_, h1, rfl, rfl⟩) fun u s1 ⟨v1, H1, I1, r1, e1, e2⟩ => ?_)
    subst e1 e2
    cases r1
    refine PySem.W.callWith_K (h₀ := X.base) I1.ok.mod.kin hk (thn (ha.run pos pins s1 σ H1 (fun vs H2 => ∃ ds h1, Ste H1 h H2 h1 ∧ RDs L.K H2 vs ds ∧ RH L.K L.C H2 h1 ∧ F j ds h1 Q0 (fun x h' => L.EX x sd h')) I1 ⟨sd, h, _, le, rs, rh, q, fun ds h1 q1 vs H2 l1 r1 rh1 => ⟨ds, h1, l1, r1, rh1, q1⟩⟩) fun us s2 ⟨vs, H2, I2, r, ds, h1, l1, r1, rh1, q1⟩ => ⟨I2.kIn, ?_⟩) (star1 hst.1) (stars_plain hst.2)
    exact run_fnG hf (O.room.mono (by unfold lv; omega)) O.rm.g hb (passAt O.tk σ) I2 r (sp_go O.K rfl le l1 rs r1 rh1 q1 hq)
theorem mt_at (O : XO Γ L k gl F X) {m : Str} {tb : List (Str × Nat)} {H1 : Hp} {h1 : DH} {d : D} {v : V} {R : Nat → Prop} (htb : tb.all (fun r => Γ.xt.mts.contains (r.1, m, r.2)) = true) (rh1 : RH L.K L.C H1 h1) (r1 : RD L.K H1 v d) (q1 : wMt (mtI tb (clsD m d h1)) R) :
    ∃ (i : Nat) (p Ca dx f : Addr) (gs : List (Str × V)) (fd : FuncData) (ps : List Str), v = .ref p ∧ Rd H1 p (.ins Ca dx gs) ∧ gs.lookup m = none ∧ Cls X.K Ca ∧ Meth X.K Ca m f ∧ FnG X.prog X.w X.K X.mg X.base (lv k) f fd ps (spL X.K L.C (F i)) ∧ Binds X.K fd ps [] ∧ R i := by
  cases hi : mtI tb (clsD m d h1) with
  | none => rw [hi] at q1; exact q1.elim
  | some i =>
    rw [hi] at q1
    obtain ⟨c, hc1, hm⟩ := mtI_mem hi
    obtain ⟨p, Ca, dx, gs, rfl, c1, hp, hn⟩ := clsD_rd rh1 r1 hc1
    have hmt : (c, m, i) ∈ Γ.xt.mts := by
      have := List.all_eq_true.mp htb _ hm
      simpa using this
    obtain ⟨Ca', f, fd, ps, c2, ck, me, hf, hb⟩ := O.tab.mt _ _ _ hmt
    have c1' : CL X.K c Ca := by rw [O.K]; exact c1
    have := c1'.eq c2
    subst this
    exact ⟨i, p, Ca, dx, f, gs, fd, ps, rfl, hp, hn, ck, me, hf, hb, q1⟩
theorem snd_imt (O : XO Γ L k gl F X) {m : Str} {tb : List (Str × Nat)} {y : Expr} {ys : List Expr} (ho : Snd L gl F X a l) (hst : (y :: ys).all notStar = true) (ha : PA X (y :: ys) (La L (wEs gl F es))) (hc : notCall0 l = true) (hl : (apos.endLine == pos.line) = true) (h30 : (y :: ys).length < 29)
    (htb : tb.all (fun r => Γ.xt.mts.contains (r.1, m, r.2)) = true) : Snd L gl F X (.imt m tb a es) (.Call (.Attribute l m apos) (y :: ys) [] pos) := by
  have hst' := hst
  rw [List.all_cons, Bool.and_eq_true] at hst'
  refine .of ⟨fun pins s σ H Q I q => ?_⟩ (fun _ => rfl) (fun _ _ _ q => nomatch q)
  obtain ⟨sd, h, Q0, le, rs, rh, q, hq⟩ := q
  simp only [wE] at q
  refine call_late (ab_of hc) (few_of (m := m) hst h30) hl (thn (ho.pe.run pins s σ H (fun v H1 => ∃ d h1, Ste H h H1 h1 ∧ RD L.K H1 v d ∧ RH L.K L.C H1 h1 ∧ wMt (mtI tb (clsD m d h1)) fun i => wEs gl F es sd h1 (fun ds h2 => F i (d :: ds) h2 Q0 (fun x h' => L.EX x sd h')) (fun x h' => L.EX x sd h')) I ⟨sd, h, _, le, rs, rh, q, fun d h1 q1 v H1 l1 r1 rh1 => ⟨d, h1, l1, r1, rh1, q1⟩⟩) fun u s1 ⟨v, H1, I1, rv, d, h1, l1, r1, rh1, q1⟩ pl => ?_)
  obtain ⟨i, p, Ca, dx, f, gs, fd, ps, rfl, hp, hn, ck, me, hf, hb, q2⟩ := mt_at O htb rh1 r1 q1
  obtain rfl : u = Value.ref p := rv
  refine getmethR I1 hp ck me hn ?_
  have hr : Room (lv k) X.A := O.room.mono (by unfold lv; omega)
  refine PySem.W.callWith_K (first := [.ref p]) (h₀ := X.base) I1.ok.mod.kin me.kp (thn (ha.run pos pins s1 σ H1 (fun vs H2 => ∃ ds h2, Ste H1 h1 H2 h2 ∧ RDs L.K H2 vs ds ∧ RH L.K L.C H2 h2 ∧ F i (d :: ds) h2 Q0 (fun x h' => L.EX x sd h')) I1 ⟨sd, h1, _, le.trans l1, rs.le l1.le, rh1, q2, fun ds h2 q3 vs H2 l2 r2 rh2 => ⟨ds, h2, l2, r2, rh2, q3⟩⟩) fun us s2 ⟨vs, H2, I2, r, ds, h2, l2, r2, rh2, q3⟩ => ⟨I2.kIn, ?_⟩) (star1 hst'.1) (stars_plain hst'.2)
  exact run_fnG (us := .ref p :: us) (vs := .ref p :: vs) hf hr O.rm.g hb (passAt O.tk σ) I2 (.cons rfl r) (sp_go O.K rfl le (l1.trans l2) rs (.cons (r1.le l2.le) r2) rh2 q3 hq)
theorem snd_imt0 (O : XO Γ L k gl F X) {m : Str} {tb : List (Str × Nat)} (ho : Snd L gl F X a l) (hc : notCall0 l = true) (hl : (apos.endLine == pos.line) = true)
    (htb : tb.all (fun r => Γ.xt.mts.contains (r.1, m, r.2)) = true) : Snd L gl F X (.imt m tb a .nil) (.Call (.Attribute l m apos) [] [] pos) := by
  refine .of ⟨fun pins s σ H Q I q => ?_⟩ (fun _ => rfl) (fun _ _ _ q => nomatch q)
  obtain ⟨sd, h, Q0, le, rs, rh, q, hq⟩ := q
  simp only [wE, wEs] at q
  refine call_late (ab_of hc) (few_of (m := m) rfl (by decide)) hl (thn (ho.pe.run pins s σ H (fun v H1 => ∃ d h1, Ste H h H1 h1 ∧ RD L.K H1 v d ∧ RH L.K L.C H1 h1 ∧ wMt (mtI tb (clsD m d h1)) fun i => F i [d] h1 Q0 (fun x h' => L.EX x sd h')) I ⟨sd, h, _, le, rs, rh, q, fun d h1 q1 v H1 l1 r1 rh1 => ⟨d, h1, l1, r1, rh1, q1⟩⟩) fun u s1 ⟨v, H1, I1, rv, d, h1, l1, r1, rh1, q1⟩ pl => ?_)
  obtain ⟨i, p, Ca, dx, f, gs, fd, ps, rfl, hp, hn, ck, me, hf, hb, q2⟩ := mt_at O htb rh1 r1 q1
  obtain rfl : u = Value.ref p := rv
  refine getmethR I1 hp ck me hn ?_
  have hr : Room (lv k) X.A := O.room.mono (by unfold lv; omega)
  exact PySem.W.callWith_K0 (first := [.ref p]) I1.kIn me.kp (run_fnG (us := [.ref p]) (vs := [.ref p]) hf hr O.rm.g hb (passAt O.tk σ) I1 (.cons rfl .nil) (sp_go O.K rfl le l1 rs (.cons r1 .nil) rh1 q2 hq))

/-! ### C(..) -/
theorem run_mkG {C f : Addr} {k : Nat} {fd : FuncData} {ps : List Str} {sp : Sp} {pins : List (Addr × Obj)} {σ : L2.St} {H : Hp} {s : Shared} {Q : VK} {us : List Value} {vs : List V} {E : XK} (M : Mk X.K C f) (F : FnG X.prog X.w X.K X.mg X.base k f fd ps sp) (hr : Room (k + 1) X.A) (hg : X.A.guards = some []) (hb : Binds X.K fd ps [])
    (I : Inv X pins σ H s) (hx : ∀ (H2 : Hp) (s2 : Shared) (e : Value) (s' : Shared), Inv X pins σ H2 s2 → L2.CX X.prog X.w X.stack H2 s2 E e s' → X.xe e s') (r : Vals vs us)
    (h : ∀ x dx, H x = none → H dx = none → dx ≠ x → sp (.ref x :: vs) (upd (upd H dx (.own x)) x (.ins C dx [])) (fun v H2 => v = .non ∧ Q (.ref x) H2) E) :
    wpAny (model X.prog X.w) X.A (call (.ref C) us) (EP X pins σ Q) X.xe s := by
  have hq := h (s.heap.objs.size + 1) s.heap.objs.size (I.hok.fresh (Nat.le_succ _)) (I.hok.fresh (Nat.le_refl _)) (Nat.ne_of_lt (Nat.lt_succ_self _))
  have I2 := Inv.made (C := C) I
  have r2 : Vals (V.ref (s.heap.objs.size + 1) :: vs) (Value.ref (s.heap.objs.size + 1) :: us) := .cons rfl r
  have hl : (Value.ref (s.heap.objs.size + 1) :: us).length = ps.length := by
    have e := r2.length
    rw [F.len _ _ _ _ hq] at e
    exact e.symm
  have b := hb _ (Value.ref (s.heap.objs.size + 1) :: us) I2.kIn (by rw [List.append_nil]; exact hl)
  rw [List.append_nil] at b
  refine wpAny_call (make_map (f := f) I.kIn M.makes M.init (beq_iff_eq.mp M.fn) (codeAny_mono (F.run _ X.stack _ _ ⟨Value.ref (s.heap.objs.size + 1) :: us, []⟩ (Value.ref (s.heap.objs.size + 1) :: us) _ _ E (hr.make C us []) hg
    (I2.env0.make C us []) b r2 hq) fun r s' hq' => ?_))
  cases r with
  | error e => exact hx _ _ e s' I2 hq'
  | ok fl =>
    cases fl with
    | ret u =>
      obtain ⟨v, H', I3, rv, ev, q3⟩ := I2.after hq'
      subst ev
      exact ⟨rv, ⟨V.ref (s.heap.objs.size + 1), H', I3, rfl, q3⟩⟩
    | next => exact False.elim hq'
    | brk => exact False.elim hq'
    | cont => exact False.elim hq'
/-- a new instance, above and below -/
theorem made_rd {c : Str} {C x dx : Addr} {K : PySem.W.Frag} {CC : CA} {H : Hp} {h : DH} (cl : CL K c C) (rh : RH K CC H h) (nx : H x = none) (ndx : H dx = none) (ne : dx ≠ x) :
    Ste H h (upd (upd H dx (.own x)) x (.ins C dx [])) (up h x (.ins c [])) ∧ RH K CC (upd (upd H dx (.own x)) x (.ins C dx [])) (up h x (.ins c [])) := by
  have nx2 : upd H dx (.own x) x = none := by rw [upd_ne (Ne.symm ne)]; exact nx
  exact ⟨(Ste.side ndx).trans (Ste.new nx2), (rh.side ndx).new nx2 ⟨C, dx, [], upd_same, .nil, cl⟩⟩
theorem snd_new (O : XO Γ L k gl F X) {c : Str} {i : Nat} {ys : List Expr} (hv : glB Γ.sc c = true) (hn : okN c = true) (hi : Γ.xt.ini.contains (c, i) = true) (hst : ys.all notStar = true) (ha : PA X ys (La L (wEs gl F es))) (h0 : ys = [] → es = .nil) : Snd L gl F X (.new c i es) (.Call (.Name c apos) ys [] pos) := by
  obtain ⟨Ca, f, fd, ps, cl, hm, M, hf, hb⟩ := O.tab.ini c i (by simpa using hi)
  have hr : Room (lv k + 1) X.A := O.room.mono (by unfold lv; omega)
  have fin : ∀ {pins : List (Addr × Obj)} {σ : L2.St} {H H1 : Hp} {s1 : Shared} {Q : VK} {sd : DSt} {h h1 : DH} {Q0 : QD} {us : List Value} {vs : List V} {ds : List D}, Inv X pins σ H1 s1 → Vals vs us → Ste L.H0 L.h0 H h → Ste H h H1 h1 → RS L.K H σ sd → RDs L.K H1 vs ds → RH L.K L.C H1 h1 → (∀ p, h1 p = none → F i (.ref p :: ds) (up h1 p (.ins c [])) (fun d h2 => d = .non ∧ Q0 (.ref p) h2) (fun x h' => L.EX x sd h')) → (∀ d h', Q0 d h' → LQ L.K L.C H h Q d h') →
      wpAny (model X.prog X.w) X.A (call (.ref Ca) us) (EP X pins σ Q) X.xe s1 := by
    intro pins σ H H1 s1 Q sd h h1 Q0 us vs ds I1 r le l1 rs r1 rh1 q hq
    refine run_mkG (E := WE (Wx L) σ) M hf hr O.rm.g hb I1 (fun H2 s2 e s' I2 c => passAt O.tk σ pins H2 s2 e s' I2 c) r fun x dx nx ndx ne => ?_
    obtain ⟨st, rh2⟩ := made_rd (by rw [← O.K]; exact cl) rh1 nx ndx ne
    refine sp_go (Q := fun v H2 => v = .non ∧ Q (.ref x) H2) O.K rfl le (l1.trans st) rs (.cons (.ref x) (r1.le st.le)) rh2 (q x (rh1.free nx)) fun d h' ⟨e1, e2⟩ v H' l' rv rh' => ?_
    subst e1
    cases rv
    exact ⟨rfl, hq _ _ e2 _ _ l' (.ref x) rh'⟩
  refine .of ⟨fun pins s σ H Q I q => ?_⟩ (fun _ => rfl) (fun _ _ _ q => nomatch q)
  obtain ⟨sd, h, Q0, le, rs, rh, q, hq⟩ := q
  simp only [wE] at q
  refine wpAny_Call_Name_kw (ld_glob I (O.glo hv) hm ?_ (okN_1 hn))
  cases ys with
  | nil =>
    rw [h0 rfl] at q
    simp only [wEs] at q
    exact PySem.W.callWith_K0 I.kIn M.kp (fin (us := []) (vs := []) I .nil le .refl rs .nil rh q hq)
  | cons y ys =>
    rw [List.all_cons, Bool.and_eq_true] at hst
    refine PySem.W.callWith_K (h₀ := X.base) I.ok.mod.kin M.kp (thn (ha.run pos pins s σ H (fun vs H1 => ∃ ds h1, Ste H h H1 h1 ∧ RDs L.K H1 vs ds ∧ RH L.K L.C H1 h1 ∧ ∀ p, h1 p = none → F i (.ref p :: ds) (up h1 p (.ins c [])) (fun d h2 => d = .non ∧ Q0 (.ref p) h2) (fun x h' => L.EX x sd h')) I ⟨sd, h, _, le, rs, rh, q, fun ds h1 q1 vs H1 l1 r1 rh1 => ⟨ds, h1, l1, r1, rh1, q1⟩⟩) fun us s1 ⟨vs, H1, I1, r, ds, h1, l1, r1, rh1, q1⟩ => ⟨I1.kIn, ?_⟩) (star1 hst.1) (stars_plain hst.2)
    exact fin I1 r le l1 rs r1 rh1 q1 hq

/-! ### o.f -/
theorem wFd_some {o : Option D} {h : DH} {Q : QD} (q : wFd o h Q) : ∃ d, o = some d ∧ Q d h := by
  unfold wFd at q
  split at q
  · exact ⟨_, rfl, q⟩
  · exact q.elim
theorem hasF_mem {l : List (Str × List Str)} {c f : Str} (h : hasF l c f = true) : ∃ fs, (c, fs) ∈ l ∧ f ∈ fs := by
  unfold hasF at h
  obtain ⟨r, h1, h2⟩ := List.any_eq_true.mp h
  rw [Bool.and_eq_true] at h2
  obtain ⟨c', fs⟩ := r
  obtain rfl : c' = c := by simpa using h2.1
  exact ⟨fs, h1, by simpa using h2.2⟩
end
/-- what the tables tell of fields, without a call -/
structure XF (xt : Xt) (L : Lv) (X : Cx) : Prop where
  K : X.K = L.K
  xr : ∀ c fs, (c, fs) ∈ xt.xcs → ∃ Ca, XrF X.K X.mg xt.xts c fs Ca
  fl : ∀ c fs, (c, fs) ∈ xt.fls → ∃ Ca, CL X.K c Ca ∧ Cls X.K Ca ∧ ∀ f ∈ fs, NoAttr X.K Ca f
  tg : ∀ t ∈ xt.xts, ∃ u, TgF X.mg t u
  ic : ∀ c t b, (c, t, b) ∈ xt.ics → ∃ Ca Da, IcF X.K X.mg c t b Ca Da
section
variable {Γ : Gx} {L : Lv} {k : Nat} {gl : List D} {F : Fns} {X : Cx} {a b c : CE} {es : CEs} {e l r : Expr} {pos apos : Pos} {xt : Xt}
theorem XO.xf (O : XO Γ L k gl F X) : XF Γ.xt L X := ⟨O.K, fun c fs h => (O.tab.xc c fs h).imp fun _ x => x.toXrF, O.tab.fl, O.tab.tg, O.tab.ic⟩
theorem snd_fld (O : XF xt L X) {f : Str} {cs xs : List Str} (ha : Snd L gl F X a l) (hc : notCall0 l = true) (hcs : cs.all (fun c => hasF xt.fls c f) = true) (hxs : xs.all (fun c => hasF xt.xcs c f) = true) : Snd L gl F X (.fld a f cs xs) (.Attribute l f pos) := by
  refine .of ⟨fun pins s σ H Q I q => ?_⟩ (fun _ => rfl) (fun _ _ _ q => nomatch q)
  obtain ⟨sd, h, Q0, le, rs, rh, q, hq⟩ := q
  simp only [wE] at q
  refine attr_of (ab_of hc) (thn (ha.pe.run pins s σ H (fun v H1 => ∃ d h1, Ste H h H1 h1 ∧ RD L.K H1 v d ∧ RH L.K L.C H1 h1 ∧ wFld f cs xs d h1 Q0) I ⟨sd, h, _, le, rs, rh, q, fun d h1 q1 v H1 l1 r1 rh1 => ⟨d, h1, l1, r1, rh1, q1⟩⟩) fun u s1 ⟨v, H1, I1, rv, d, h1, l1, r1, rh1, q1⟩ => ?_)
  have ins : ∀ {c : Str} {p Ca dx : Addr} {gs : List (Str × V)} {fs : List (Str × D)}, v = .ref p → CL L.K c Ca → Rd H1 p (.ins Ca dx gs) → RPs L.K H1 gs fs → cs.contains c = true → wFd (dget fs f) h1 Q0 → wpAny (model X.prog X.w) X.A (getAttr u f true) (EP X pins σ Q) X.xe s1 := by
    intro c p Ca dx gs fs ev cl hp rp hin q2
    subst ev
    obtain rfl : u = Value.ref p := rv
    obtain ⟨d', e1, q3⟩ := wFd_some q2
    obtain ⟨v', e2, r2⟩ := (RPs.look rp f).1 d' e1
    obtain ⟨fs', m1, m2⟩ := hasF_mem (List.all_eq_true.mp hcs c (by simpa using hin))
    obtain ⟨Ca', c2, ck, na⟩ := O.fl _ _ m1
    have c1 : CL X.K c Ca := by rw [O.K]; exact cl
    have := c1.eq c2
    subst this
    exact getattrR I1 hp ck (na f m2) e2 fun u' s2 I2 ru => ⟨v', H1, I2, ru, hq _ _ q3 _ _ l1 r2 rh1⟩
  unfold wFld at q1
  split at q1
  · rename_i c fs
    cases r1 with
    | ex cl ha' ev ed rp =>
      obtain rfl : u = Value.ref _ := rv
      obtain ⟨d', e1, q3⟩ := wFd_some q1.2
      obtain ⟨v', e2, r2⟩ := (RPs.look (RDp.to rp) f).1 d' e1
      obtain ⟨fs', m1, m2⟩ := hasF_mem (List.all_eq_true.mp hxs c (by simpa using q1.1))
      obtain ⟨Ca', T⟩ := O.xr _ _ m1
      have c1 := cl
      rw [← O.K] at c1
      have := c1.eq T.cl
      subst this
      exact getexc I1 ha' ev ed T.ga T.gg T.be T.hd (T.no f m2) e2 fun u' s2 I2 ru => ⟨v', H1, I2, ru, hq _ _ q3 _ _ l1 r2 rh1⟩
  · cases r1 with
    | ob cl h1 rp => exact ins rfl cl (.inr ⟨_, h1⟩) (RDp.to rp) q1.1 q1.2
  · cases r1
    split at q1
    · rename_i ha'
      obtain ⟨Ca, dx, gs, h2, rp, cl⟩ := rh1 _ _ ha'
      exact ins rfl cl (.inl h2) rp q1.1 q1.2
    · exact q1.elim
  · exact q1.elim

/-! ### isinstance of an instance -/
theorem call_isc : CallR X (.builtin "isinstance") (fun xs H Q => ∃ (a C dx D : Addr) (fs : List (Str × V)) (b : Bool), xs = [.ref a, .ref D] ∧ Rd H a (.ins C dx fs) ∧ Cls X.K C ∧ PySem.W.findIn X.K (.ref C) "__class__" = some (some (.builtin "object.__class__")) ∧
    PySem.W.specialIn X.K (.builtin "object.__class__") "__get__" = some (some (.builtin "getset_descriptor.__get__")) ∧ PySem.W.takesIn X.K (.builtin "object.__class__") = some true ∧ PySem.W.mroIn X.K C (.type "object") = some true ∧ PySem.W.kitOne X.K (.ref C) (.ref D) = some b ∧ Q (.bl b) H) := by
  intro pins s σ H xs us Q I r h
  obtain ⟨a, C, dx, D, fs, b, rfl, hr, cl, ha, hn, ht, hm, hk, q⟩ := h
  obtain ⟨u1, u2, rfl, r1, r2⟩ := vals2 r
  cases (show u1 = Value.ref a from r1)
  cases (show u2 = Value.ref D from r2)
  obtain ⟨mA, O, _⟩ := ins_getR I.hok hr
  obtain ⟨od, J, _⟩ := O.look
  exact PySem.W.kia_one (PySem.W.kitx_own (cl.get _) cl.hd ha hn ht hm) I.kIn J hk (fun z => nomatch z) fun tk => ⟨.bl b, H, I.tok tk, rfl, q⟩
theorem wIa_some {o : Option Bool} {h : DH} {Q : QD} (q : wIa o h Q) : ∃ b, o = some b ∧ Q (.bl b) h := by
  cases o with
  | none => exact q.elim
  | some b => exact ⟨b, rfl, q⟩
theorem look_mem {c : Str} {b : Bool} : ∀ {tb : List (Str × Bool)}, tb.lookup c = some b → (c, b) ∈ tb
  | (d, e) :: tb, h => by
    rw [List.lookup_cons] at h
    split at h
    · rename_i g
      have := beq_iff_eq.mp g
      cases h
      rw [this]
      exact List.mem_cons_self
    · exact List.mem_cons_of_mem _ (look_mem h)
theorem snd_isc (O : XF xt L X) {sc : Scope} (hsc : X.env.scope = sc) {t : Str} {tb : List (Str × Bool)} {tp : Pos} (hv : Gl X "isinstance") (hm : X.mg ("isinstance" : Str) = none) (hs : notStar l = true) (ha : Snd L gl F X a l) (hg : glB sc t = true) (hn : okN t = true) (ne : (!tb.isEmpty) = true) (htb : tb.all (fun r => xt.ics.contains (r.1, t, r.2)) = true) :
    Snd L gl F X (.isc a t tb) (.Call (.Name "isinstance" apos) [l, .Name t tp] [] pos) := by
  have key : ∀ r ∈ tb, ∃ Ca Da, IcF X.K X.mg r.1 t r.2 Ca Da := fun r hr => O.ic _ _ _ (by simpa using List.all_eq_true.mp htb r hr)
  obtain ⟨D, hD⟩ : ∃ D : Addr, X.mg t = some (.ref D) := by
    cases tb with
    | nil => simp at ne
    | cons r tb =>
      obtain ⟨Ca, Da, f⟩ := key r List.mem_cons_self
      exact ⟨Da, f.mg⟩
  have px : PE X (.Name t tp) (tC (.ref D)) := pe_glob (by show X.env.scope.names.lookup t = _; rw [hsc]; exact glB_ok hg) hD rfl (okN_1 hn)
  refine .of (PE.imp (pe_callB call_isc hv hm (by decide +kernel) (pa_cons ha.pe (pa_cons px pa_nil (star1 rfl)) (star1 hs)) (by decide) (by decide) (star1 hs) (stars_plain rfl)) fun σ H Q ⟨s, h, Q0, le, rs, rh, q, hq⟩ => ?_) (fun _ => rfl) (fun _ _ _ q => nomatch q)
  simp only [wE] at q
  refine ⟨s, h, _, le, rs, rh, q, fun d1 h1 q1 v1 H1 l1 r1 rh1 => ?_⟩
  have fin : ∀ {c : Str} {p Ca dx : Addr} {gs : List (Str × V)}, CL L.K c Ca → Rd H1 p (.ins Ca dx gs) → wIa (tb.lookup c) h1 Q0 → ∃ (a C dx D' : Addr) (fs : List (Str × V)) (b : Bool), [V.ref p, V.ref D] = [V.ref a, V.ref D'] ∧ Rd H1 a (.ins C dx fs) ∧ Cls X.K C ∧ PySem.W.findIn X.K (.ref C) "__class__" = some (some (.builtin "object.__class__")) ∧
      PySem.W.specialIn X.K (.builtin "object.__class__") "__get__" = some (some (.builtin "getset_descriptor.__get__")) ∧ PySem.W.takesIn X.K (.builtin "object.__class__") = some true ∧ PySem.W.mroIn X.K C (.type "object") = some true ∧ PySem.W.kitOne X.K (.ref C) (.ref D') = some b ∧ Q (.bl b) H1 := by
    intro c p Ca dx gs cl hp q2
    obtain ⟨b, e1, q3⟩ := wIa_some q2
    obtain ⟨Ca', Da, f⟩ := key _ (look_mem e1)
    have c1 : CL X.K c Ca := by rw [O.K]; exact cl
    have := c1.eq f.cl
    subst this
    have e2 := f.mg
    rw [hD] at e2
    cases e2
    exact ⟨p, Ca, dx, D, gs, b, rfl, hp, f.ck, f.ha, f.hn, f.ht, f.hm, f.k, hq _ _ q3 _ _ l1 (.bl _) rh1⟩
  unfold wIsc at q1
  split at q1
  · cases r1 with
    | ob cl h1 rp => exact fin cl (.inr ⟨_, h1⟩) q1
  · cases r1
    split at q1
    · rename_i ha'
      obtain ⟨Ca, dx, gs, h2, rp, cl⟩ := rh1 _ _ ha'
      exact fin cl (.inl h2) q1
    · exact q1.elim
  · exact q1.elim
theorem call_ist : CallR X (.builtin "isinstance") (fun xs H Q => ∃ (a C dx tp : Addr) (fs : List (Str × V)) (cs : List V) (us : List Value) (b : Bool), xs = [.ref a, .ref tp] ∧ Rd H a (.ins C dx fs) ∧ Cls X.K C ∧ PySem.W.findIn X.K (.ref C) "__class__" = some (some (.builtin "object.__class__")) ∧
    PySem.W.specialIn X.K (.builtin "object.__class__") "__get__" = some (some (.builtin "getset_descriptor.__get__")) ∧ PySem.W.takesIn X.K (.builtin "object.__class__") = some true ∧ PySem.W.mroIn X.K C (.type "object") = some true ∧ H tp = some (.tup cs) ∧ Paired ClsV cs us ∧ PySem.W.kitAny X.K (.ref C) us = some b ∧ Q (.bl b) H) := by
  intro pins s σ H xs us Q I r h
  obtain ⟨a, C, dx, tp, fs, cs, ws, b, rfl, hr, cl, ha, hn, ht, hm, hT, k, hk, q⟩ := h
  obtain ⟨u1, u2, rfl, r1, r2⟩ := vals2 r
  cases (show u1 = Value.ref a from r1)
  cases (show u2 = Value.ref tp from r2)
  obtain ⟨mA, O, _⟩ := ins_getR I.hok hr
  obtain ⟨od, J, _⟩ := O.look
  obtain ⟨_, its, rv, o, h1', h2', n, h3'⟩ := (show ObjOk X.prog X.w H s.heap tp (.tup cs) from I.hok tp _ hT)
  have e3 := ClsV.all k rv
  subst e3
  obtain ⟨oc, od', dt, sl⟩ := o
  simp only at h2' h3'
  subst h2' h3'
  exact PySem.W.kia_tup (PySem.W.kitx_own (cl.get _) cl.hd ha hn ht hm) I.kIn J h1' hk (fun z => nomatch z) fun tk => ⟨.bl b, H, I.tok tk, rfl, q⟩
theorem ts_pa {tb : List (Str × Bool)} (O : XF xt L X) {sc : Scope} (hsc : X.env.scope = sc) (r0 : Str × Bool) (h0 : r0 ∈ tb) : ∀ {ts : List Str} {es : List Expr}, chkIs sc ts es = true → (∀ r ∈ tb, ts.all (fun t => xt.ics.contains (r.1, t, true) || xt.ics.contains (r.1, t, false)) = true) →
    ∃ (xs : List V) (us : List Value), PA X es (fun σ H Q => Q xs H) ∧ Paired ClsV xs us ∧ es.all notStar = true ∧ us.length = ts.length ∧ ∀ r ∈ tb, ∀ Ca, CL X.K r.1 Ca → PySem.W.kitAny X.K (.ref Ca) us = some (ts.any fun t => xt.ics.contains (r.1, t, true))
  | [], [], _, _ => ⟨[], [], pa_nil, .nil, rfl, rfl, fun _ _ _ _ => rfl⟩
  | t :: ts, e :: es, h, hb => by
    simp only [chkIs, Bool.and_eq_true] at h
    obtain ⟨h1, h2⟩ := h
    split at h1
    · rename_i t' p
      simp only [Bool.and_eq_true] at h1
      obtain ⟨⟨g1, g2⟩, g3⟩ := h1
      obtain rfl := beq_iff_eq.mp g1
      have hb1 : ∀ r ∈ tb, (xt.ics.contains (r.1, t', true) || xt.ics.contains (r.1, t', false)) = true := fun r hr => by
        have := hb r hr
        rw [List.all_cons, Bool.and_eq_true] at this
        exact this.1
      have hb2 : ∀ r ∈ tb, ts.all (fun t => xt.ics.contains (r.1, t, true) || xt.ics.contains (r.1, t, false)) = true := fun r hr => by
        have := hb r hr
        rw [List.all_cons, Bool.and_eq_true] at this
        exact this.2
      have fact : ∀ r ∈ tb, ∃ Ca Da, IcF X.K X.mg r.1 t' (xt.ics.contains (r.1, t', true)) Ca Da := fun r hr => by
        cases g : xt.ics.contains (r.1, t', true) with
        | true => exact O.ic _ _ _ (by simpa using g)
        | false =>
          have := hb1 r hr
          rw [g, Bool.false_or] at this
          exact O.ic _ _ _ (by simpa using this)
      obtain ⟨xs, us, P, pr, hs, hl, hk⟩ := ts_pa O hsc r0 h0 h2 hb2
      obtain ⟨C0, D, f0⟩ := fact r0 h0
      have px : PE X (.Name t' p) (tC (.ref D)) := pe_glob (by show X.env.scope.names.lookup t' = _; rw [hsc]; exact glB_ok g2) f0.mg rfl (okN_1 g3)
      refine ⟨.ref D :: xs, .ref D :: us, PA.imp (pa_cons px P rfl) (fun σ H Q q => q), .cons (.own D) pr, by rw [List.all_cons, hs]; rfl, by rw [List.length_cons, List.length_cons, hl], fun r hr Ca cl => ?_⟩
      obtain ⟨Ca', Da, f⟩ := fact r hr
      have := cl.eq f.cl
      subst this
      have e2 := f.mg
      rw [f0.mg] at e2
      cases e2
      rw [List.any_cons]
      refine kitAny_cons f.k (fun e => ?_) fun e => ?_
      · rw [e, Bool.false_or]; exact hk r hr _ cl
      · rw [e]; rfl
    · cases h1
theorem snd_ist (O : XF xt L X) {sc : Scope} (hsc : X.env.scope = sc) {ts : List Str} {tb : List (Str × Bool)} {es : List Expr} {kt : Nat} {pt : Pos} (hv : Gl X "isinstance") (hm : X.mg ("isinstance" : Str) = none) (hs : notStar l = true) (ha : Snd L gl F X a l) (hts : chkIs sc ts es = true) (hz : ts.length < 100) (nt : (!ts.isEmpty) = true) (ne : (!tb.isEmpty) = true) (htb : tb.all (fun r => icAll xt.ics r.1 ts r.2) = true) :
    Snd L gl F X (.ist a ts tb) (.Call (.Name "isinstance" apos) [l, .Tuple es kt pt] [] pos) := by
  have hb : ∀ r ∈ tb, ts.all (fun t => xt.ics.contains (r.1, t, true) || xt.ics.contains (r.1, t, false)) = true ∧ r.2 = ts.any fun t => xt.ics.contains (r.1, t, true) := fun r hr => by
    have := List.all_eq_true.mp htb r hr
    unfold icAll at this
    rw [Bool.and_eq_true] at this
    exact ⟨this.1, by simpa using this.2⟩
  obtain ⟨r0, h0⟩ : ∃ r, r ∈ tb := by
    cases tb with
    | nil => simp at ne
    | cons r tb => exact ⟨r, List.mem_cons_self⟩
  obtain ⟨xs, us, P, pr, hst, hl, hk⟩ := ts_pa O hsc r0 h0 hts fun r hr => (hb r hr).1
  have ex : ∀ r ∈ tb, ∃ Ca t b Da, IcF X.K X.mg r.1 t b Ca Da := fun r hr => by
    cases ts with
    | nil => simp at nt
    | cons t ts =>
      have := (hb r hr).1
      rw [List.all_cons, Bool.and_eq_true, Bool.or_eq_true] at this
      rcases this.1 with g | g
      · obtain ⟨Ca, Da, f⟩ := O.ic _ _ _ (by simpa using g : (r.1, t, true) ∈ xt.ics)
        exact ⟨Ca, t, true, Da, f⟩
      · obtain ⟨Ca, Da, f⟩ := O.ic _ _ _ (by simpa using g : (r.1, t, false) ∈ xt.ics)
        exact ⟨Ca, t, false, Da, f⟩
  refine .of (PE.imp (pe_callB call_ist hv hm (by decide +kernel) (pa_cons ha.pe (pa_cons (pe_tup P) pa_nil (star1 rfl)) (star1 hs)) (by decide) (by decide) (star1 hs) (stars_plain rfl)) fun σ H Q ⟨s, h, Q0, le, rs, rh, q, hq⟩ => ?_) (fun _ => rfl) (fun _ _ _ q => nomatch q)
  simp only [wE] at q
  have hz' : xs.length ≤ sizeLine := by
    have := Paired.length pr
    have := sizeLine_eq
    omega
  refine ⟨s, h, _, le, rs, rh, q, fun d1 h1 q1 v1 H1 l1 r1 rh1 => ⟨hz', fun p np => ?_⟩⟩
  have fin : ∀ {c : Str} {a Ca dx : Addr} {gs : List (Str × V)}, CL L.K c Ca → Rd H1 a (.ins Ca dx gs) → wIa (tb.lookup c) h1 Q0 → ∃ (a' C dx tp : Addr) (fs : List (Str × V)) (cs : List V) (us : List Value) (b : Bool), [V.ref a, V.ref p] = [V.ref a', V.ref tp] ∧ Rd (upd H1 p (.tup xs)) a' (.ins C dx fs) ∧ Cls X.K C ∧ PySem.W.findIn X.K (.ref C) "__class__" = some (some (.builtin "object.__class__")) ∧
      PySem.W.specialIn X.K (.builtin "object.__class__") "__get__" = some (some (.builtin "getset_descriptor.__get__")) ∧ PySem.W.takesIn X.K (.builtin "object.__class__") = some true ∧ PySem.W.mroIn X.K C (.type "object") = some true ∧ (upd H1 p (.tup xs)) tp = some (.tup cs) ∧ Paired ClsV cs us ∧ PySem.W.kitAny X.K (.ref C) us = some b ∧ Q (.bl b) (upd H1 p (.tup xs)) := by
    intro c a Ca dx gs cl hp q2
    obtain ⟨b, e1, q3⟩ := wIa_some q2
    have m := look_mem e1
    obtain ⟨Ca', t, b', Da, f⟩ := ex _ m
    have c1 : CL X.K c Ca := by rw [O.K]; exact cl
    have := c1.eq f.cl
    subst this
    have hp2 : Rd (upd H1 p (.tup xs)) a (.ins Ca dx gs) := by
      rcases hp with hp | ⟨o, hp⟩
      · refine .inl ?_
        rw [upd_ne (fun z => by subst z; rw [np] at hp; cases hp)]
        exact hp
      · refine .inr ⟨o, ?_⟩
        rw [upd_ne (fun z => by subst z; rw [np] at hp; cases hp)]
        exact hp
    have hv := hk _ m _ f.cl
    rw [← (hb _ m).2] at hv
    exact ⟨a, Ca, dx, p, gs, xs, us, b, rfl, hp2, f.ck, f.ha, f.hn, f.ht, f.hm, upd_same, pr, hv, hq _ _ q3 _ _ (l1.trans (Ste.side np)) (.bl _) (rh1.side np)⟩
  unfold wIsc at q1
  split at q1
  · cases r1 with
    | ob cl h1 rp => exact fin cl (.inr ⟨_, h1⟩) q1
  · cases r1
    split at q1
    · rename_i ha'
      obtain ⟨Ca, dx, gs, h2, rp, cl⟩ := rh1 _ _ ha'
      exact fin cl (.inl h2) q1
    · exact q1.elim
  · exact q1.elim
/-! ### isinstance of a caught exception -/
theorem TgF.eq {mg : Str → Option Value} {t : Str} {u u' : Value} (a : TgF mg t u) (b : TgF mg t u') : u = u' := by
  rcases a with ⟨T, h1, rfl⟩ | ⟨h1, h2, rfl⟩ <;> rcases b with ⟨T', g1, rfl⟩ | ⟨g1, g2, rfl⟩
  · rw [h1] at g1; cases g1; rfl
  · rw [h1] at g2; cases g2
  · rw [g1] at h2; cases h2
  · rfl
theorem tg_pe {t : Str} {u : Value} {p : Pos} (tg : TgF X.mg t u) (hv : Gl X t) (hn : okN t = true) : ∃ x : V, PE X (.Name t p) (tC x) ∧ ClsV x u := by
  rcases tg with ⟨T', hm, rfl⟩ | ⟨rfl, hm, rfl⟩
  · exact ⟨.ref T', pe_glob hv hm rfl (okN_1 hn), .own T'⟩
  · exact ⟨.ty "ValueError", pe_bltn hv hm PyProof.Rows.Boot.«ValueError» rfl (by decide) (by decide), .ty _⟩
/-- isinstance(e, c), e a caught exception of a class with these facts -/
def rIsx (K : PySem.W.Frag) : List V → Hp → VK → Prop := fun xs H Q => ∃ (a C : Addr) (oe : Obj) (d : Option Addr) (gs : List (Str × V)) (cv : V) (b : Bool), xs = [.ref a, cv] ∧ H a = some (.frz oe exU) ∧ ExV oe C d ∧ ExD H d gs ∧
  (PySem.W.clsIn K C).isSome = true ∧ PySem.W.findIn K (.ref C) "__getattribute__" = some (some (.builtin "BaseException.__getattribute__")) ∧ PySem.W.findIn K (.ref C) "__getattr__" = some none ∧ PySem.W.subIn K (.ref C) (.type "BaseException") = some true ∧
  PySem.W.findIn K (.ref C) "__class__" = some (some (.builtin "object.__class__")) ∧ PySem.W.specialIn K (.builtin "object.__class__") "__get__" = some (some (.builtin "getset_descriptor.__get__")) ∧ PySem.W.takesIn K (.builtin "object.__class__") = some true ∧ PySem.W.mroIn K C (.type "object") = some true ∧
  ((∃ u, ClsV cv u ∧ PySem.W.kitOne K (.ref C) u = some b) ∨ ∃ (tp : Addr) (cs : List V) (us : List Value), cv = .ref tp ∧ H tp = some (.tup cs) ∧ Paired ClsV cs us ∧ PySem.W.kitAny K (.ref C) us = some b) ∧ Q (.bl b) H
theorem call_isx : CallR X (.builtin "isinstance") (rIsx X.K) := by
  intro pins s σ H xs us Q I r h
  obtain ⟨a, C, oe, d, gs, cv, b, rfl, e, ev, ed, f1, f2, f3, f4, f5, f6, f7, f8, hk, q⟩ := h
  obtain ⟨u1, u2, rfl, r1, r2⟩ := vals2 r
  cases (show u1 = Value.ref a from r1)
  obtain ⟨h1, h2, vs, h3⟩ := ev
  have ha : s.heap.get? a = some oe := (show ObjOk X.prog X.w H s.heap a (.frz oe exU) from I.hok a _ e).1
  obtain ⟨od, J⟩ : ∃ od, PySem.W.InstAt s.heap a oe C od := by
    cases d with
    | none => exact ⟨none, ha, h1, by unfold PySem.W.notCls; rw [h3] <;> rfl, by rw [h2]; trivial⟩
    | some dd =>
      have hx : ObjOk X.prog X.w H s.heap dd (.xd gs) := I.hok dd _ ed
      obtain ⟨mA, hns, hr⟩ := hx
      obtain ⟨od, ho, hl⟩ := lookIn_ns hns
      exact ⟨some od, ha, h1, by unfold PySem.W.notCls; rw [h3] <;> rfl, by rw [h2]; exact ho⟩
  have Z := PySem.W.kitx_exc (x := a) (ox := oe) (od := od) f1 f2 f3 f4 f5 f6 f7 f8
  rcases hk with ⟨u, k, e2⟩ | ⟨tp, cs, ws, rfl, hT, k, e2⟩
  · have e3 := k.eq r2
    subst e3
    exact PySem.W.kia_one Z I.kIn J e2 (fun z => nomatch z) fun tk => ⟨.bl b, H, I.tok tk, rfl, q⟩
  · cases (show u2 = Value.ref tp from r2)
    obtain ⟨_, its, rv, o, h1', h2', n, h3'⟩ := (show ObjOk X.prog X.w H s.heap tp (.tup cs) from I.hok tp _ hT)
    have e3 := ClsV.all k rv
    subst e3
    obtain ⟨oc, od', dt, sl⟩ := o
    simp only at h2' h3'
    subst h2' h3'
    exact PySem.W.kia_tup Z I.kIn J h1' e2 (fun z => nomatch z) fun tk => ⟨.bl b, H, I.tok tk, rfl, q⟩
/-- None is no instance of an exception class -/
theorem kitN {K : PySem.W.Frag} {mg : Str → Option Value} {xts : List Str} {c : Str} {fs : List Str} {C : Addr} (T : XrF K mg xts c fs C) {t : Str} (ht : t ∈ xts) {u : Value} (tg : TgF mg t u) : PySem.W.kitOne K (.type "NoneType") u = some false := by
  obtain ⟨u', tg', k1, _⟩ := T.tg t ht
  have := tg'.eq tg
  subst this
  rcases tg with ⟨D, _, rfl⟩ | ⟨_, _, rfl⟩
  · have hD : (PySem.W.clsIn K D).isSome = true ∧ PySem.W.typeIn K (.ref D) = some (.type "type") := by
      unfold PySem.W.kitOne at k1
      split at k1
      · rename_i e
        have e := beq_iff_eq.mp e
        cases e
        exact ⟨T.is, T.ty⟩
      · unfold PySem.W.kitCls at k1
        simp only at k1
        split at k1
        · rename_i e
          rw [Bool.and_eq_true] at e
          exact ⟨e.1, beq_iff_eq.mp e.2⟩
        · cases k1
    have nm : fastBuiltinMro "NoneType" = some [.type "NoneType", .type "object"] := by decide +kernel
    unfold PySem.W.kitOne
    rw [if_neg (show ¬ (Value.type "NoneType" == Value.ref D) = true from fun e => by cases beq_iff_eq.mp e)]
    unfold PySem.W.kitCls
    simp only
    rw [hD.1, hD.2, if_pos (by decide)]
    unfold PySem.W.subIn
    simp only [nm]
    rfl
  · have h1 : PySem.W.kitMeta "ValueError" = true := by decide +kernel
    have nm : fastBuiltinMro "NoneType" = some [.type "NoneType", .type "object"] := by decide +kernel
    unfold PySem.W.kitOne
    rw [if_neg (by decide)]
    unfold PySem.W.kitCls
    simp only
    rw [h1, if_pos rfl]
    unfold PySem.W.subIn
    simp only [nm]
    decide
theorem call_isx2 : CallR X (.builtin "isinstance") (fun xs H Q => rIsx X.K xs H Q ∨ ∃ (cv : V), xs = [.non, cv] ∧ ((∃ u, ClsV cv u ∧ PySem.W.kitOne X.K (.type "NoneType") u = some false) ∨ ∃ (tp : Addr) (cs : List V) (us : List Value), cv = .ref tp ∧ H tp = some (.tup cs) ∧ Paired ClsV cs us ∧ PySem.W.kitAny X.K (.type "NoneType") us = some false) ∧ Q (.bl false) H) := by
  intro pins s σ H xs us Q I r h
  rcases h with h | ⟨cv, rfl, hk, q⟩
  · exact call_isx pins s σ H xs us Q I r h
  · obtain ⟨u1, u2, rfl, r1, r2⟩ := vals2 r
    cases (show u1 = Value.none from r1)
    rcases hk with ⟨u, k, e2⟩ | ⟨tp, cs, ws, rfl, hT, k, e2⟩
    · have e3 := k.eq r2
      subst e3
      exact PySem.W.kia_one PySem.W.kitx_none I.kIn trivial e2 (fun z => nomatch z) fun tk => ⟨.bl false, H, I.tok tk, rfl, q⟩
    · cases (show u2 = Value.ref tp from r2)
      obtain ⟨_, its, rv, o, h1', h2', n, h3'⟩ := (show ObjOk X.prog X.w H s.heap tp (.tup cs) from I.hok tp _ hT)
      have e3 := ClsV.all k rv
      subst e3
      obtain ⟨oc, od', dt, sl⟩ := o
      simp only at h2' h3'
      subst h2' h3'
      exact PySem.W.kia_tup PySem.W.kitx_none I.kIn trivial h1' e2 (fun z => nomatch z) fun tk => ⟨.bl false, H, I.tok tk, rfl, q⟩
theorem chkN_ok {xts : List Str} {sc : Scope} {t : Str} {e : Expr} (h : chkN xts sc t e = true) : ∃ p, e = .Name t p ∧ glB sc t = true ∧ okN t = true ∧ t ∈ xts := by
  unfold chkN at h
  split at h
  · simp only [Bool.and_eq_true] at h
    obtain ⟨⟨⟨h1, h2⟩, h3⟩, h4⟩ := h
    obtain rfl := beq_iff_eq.mp h1
    exact ⟨_, rfl, h2, h3, by simpa using h4⟩
  · cases h
theorem tgs_pa (O : XF xt L X) {sc : Scope} (hsc : X.env.scope = sc) : ∀ {ts : List Str} {es : List Expr}, chkNs xt.xts sc ts es = true → ∃ (xs : List V) (us : List Value), PA X es (fun σ H Q => Q xs H) ∧ Paired ClsV xs us ∧ es.all notStar = true ∧ us.length = ts.length ∧ ∀ c fs Ca, XrF X.K X.mg xt.xts c fs Ca → PySem.W.kitAny X.K (.ref Ca) us = some (ts.any (isA c)) ∧ PySem.W.kitAny X.K (.type "NoneType") us = some false
  | [], [], _ => ⟨[], [], pa_nil, .nil, rfl, rfl, fun _ _ _ _ => ⟨rfl, rfl⟩⟩
  | t :: ts, e :: es, h => by
    simp only [chkNs, Bool.and_eq_true] at h
    obtain ⟨p, rfl, h1, h2, h3⟩ := chkN_ok h.1
    obtain ⟨xs, us, P, pr, hs, hl, hk⟩ := tgs_pa O hsc h.2
    obtain ⟨u, tg⟩ := O.tg t h3
    obtain ⟨x, px, cx⟩ := tg_pe (p := p) tg (by show X.env.scope.names.lookup t = _; rw [hsc]; exact glB_ok h1) h2
    refine ⟨x :: xs, u :: us, PA.imp (pa_cons px P rfl) (fun σ H Q q => q), .cons cx pr, by rw [List.all_cons, hs]; rfl, by rw [List.length_cons, List.length_cons, hl], fun c fs Ca T => ?_⟩
    obtain ⟨u', tg', k1, _⟩ := T.tg t h3
    have := tg'.eq tg
    subst this
    refine ⟨?_, ?_⟩
    · rw [List.any_cons]
      refine kitAny_cons k1 (fun e => ?_) fun e => ?_
      · rw [e, Bool.false_or]; exact (hk c fs Ca T).1
      · rw [e]; rfl
    · refine kitAny_cons (kitN T h3 tg) (fun e => ?_) fun e => ?_
      · exact (hk c fs Ca T).2
      · cases e
theorem isx_at (O : XF xt L X) {ts cs : List Str} {h1 : DH} {d1 : D} {v1 : V} {H1 H2 : Hp} {Q0 : QD} (l : Le H1 H2) (hcs : cs.all (fun c => xt.xcs.any (fun r => r.1 == c)) = true) (r1 : RD L.K H1 v1 d1) (q1 : wIsx ts cs d1 h1 Q0) :
    (∃ (a C : Addr) (oe : Obj) (d : Option Addr) (gs : List (Str × V)) (c : Str) (fs : List Str), v1 = .ref a ∧ H2 a = some (.frz oe exU) ∧ ExV oe C d ∧ ExD H2 d gs ∧ (XrF X.K X.mg xt.xts c fs C ∧ Q0 (.bl (ts.any (isA c))) h1)) ∨ (v1 = .non ∧ ∃ c fs Ca, XrF X.K X.mg xt.xts c fs Ca ∧ Q0 (.bl false) h1) := by
  unfold wIsx at q1
  split at q1
  · rename_i c fs
    cases r1 with
    | ex cl ha' ev ed rp =>
      have m := List.all_eq_true.mp hcs c (by simpa using q1.1)
      obtain ⟨r, m1, m2⟩ := List.any_eq_true.mp m
      obtain ⟨c', fs'⟩ := r
      obtain rfl : c' = c := by simpa using m2
      obtain ⟨Ca', T⟩ := O.xr _ _ m1
      have c1 := cl
      rw [← O.K] at c1
      have := c1.eq T.cl
      subst this
      exact .inl ⟨_, _, _, _, _, _, _, rfl, l.f _ _ _ ha', ev, ed.le l, T, q1.2⟩
  · cases r1
    cases cs with
    | nil => cases q1.1
    | cons c cs =>
      obtain ⟨r, m1, m2⟩ := List.any_eq_true.mp (List.all_eq_true.mp hcs c (by simp))
      obtain ⟨c', fs'⟩ := r
      obtain ⟨Ca', T⟩ := O.xr _ _ m1
      exact .inr ⟨rfl, _, _, _, T, q1.2⟩
  · exact q1.elim
theorem snd_isx (O : XF xt L X) {sc : Scope} (hsc : X.env.scope = sc) {ts cs : List Str} {t : Expr} (hv : Gl X "isinstance") (hm : X.mg ("isinstance" : Str) = none) (hs : notStar l = true) (ha : Snd L gl F X a l) (hcs : cs.all (fun c => xt.xcs.any (fun r => r.1 == c)) = true) (hz : ts.length < 100)
    (ht : (match t with | .Tuple es _ _ => chkNs xt.xts sc ts es | t => chkNs xt.xts sc ts [t]) = true) : Snd L gl F X (.isx a ts cs) (.Call (.Name "isinstance" apos) [l, t] [] pos) := by
  split at ht
  · rename_i es kt pt
    obtain ⟨xs, us, P, pr, hst, hl, hk⟩ := tgs_pa O hsc ht
    refine .of (PE.imp (pe_callB call_isx2 hv hm (by decide +kernel) (pa_cons ha.pe (pa_cons (pe_tup P) pa_nil (star1 rfl)) (star1 hs)) (by decide) (by decide) (star1 hs) (stars_plain rfl)) fun σ H Q ⟨s, h, Q0, le, rs, rh, q, hq⟩ => ?_) (fun _ => rfl) (fun _ _ _ q => nomatch q)
    simp only [wE] at q
    have hz' : xs.length ≤ sizeLine := by
      have := Paired.length pr
      have := sizeLine_eq
      omega
    refine ⟨s, h, _, le, rs, rh, q, fun d1 h1 q1 v1 H1 l1 r1 rh1 => ⟨hz', fun p np => ?_⟩⟩
    · rcases isx_at O (Le.new np (o := .tup xs)) hcs r1 q1 with ⟨a', C, oe, d, gs, c, fs, rfl, e1, ev, ed, T, q2⟩ | ⟨rfl, c, fs, Ca, T, q2⟩
      · exact .inl ⟨a', C, oe, d, gs, .ref p, _, rfl, e1, ev, ed, T.is, T.ga, T.gg, T.be, T.ha, T.hn, T.ht, T.hm, .inr ⟨p, xs, us, rfl, upd_same, pr, (hk _ _ _ T).1⟩, hq _ _ q2 _ _ (l1.trans (Ste.side np)) (.bl _) (rh1.side np)⟩
      · exact .inr ⟨.ref p, rfl, .inr ⟨p, xs, us, rfl, upd_same, pr, (hk _ _ _ T).2⟩, hq _ _ q2 _ _ (l1.trans (Ste.side np)) (.bl _) (rh1.side np)⟩
  · have : ∃ t1, ts = [t1] ∧ chkN xt.xts sc t1 t = true := by
      cases ts with
      | nil => simp [chkNs] at ht
      | cons t1 ts =>
        cases ts with
        | nil => exact ⟨t1, rfl, by simpa [chkNs] using ht⟩
        | cons t2 ts => simp [chkNs] at ht
    obtain ⟨t1, rfl, h1⟩ := this
    obtain ⟨p, rfl, g1, g2, g3⟩ := chkN_ok h1
    obtain ⟨u, tg⟩ := O.tg t1 g3
    obtain ⟨x, px, cx⟩ := tg_pe (p := p) tg (by show X.env.scope.names.lookup t1 = _; rw [hsc]; exact glB_ok g1) g2
    refine .of (PE.imp (pe_callB call_isx2 hv hm (by decide +kernel) (pa_cons ha.pe (pa_cons px pa_nil (star1 rfl)) (star1 hs)) (by decide) (by decide) (star1 hs) (stars_plain rfl)) fun σ H Q ⟨s, h, Q0, le, rs, rh, q, hq⟩ => ?_) (fun _ => rfl) (fun _ _ _ q => nomatch q)
    simp only [wE] at q
    refine ⟨s, h, _, le, rs, rh, q, fun d1 h1 q1 v1 H1 l1 r1 rh1 => ?_⟩
    rcases isx_at O (Le.refl (H := H1)) hcs r1 q1 with ⟨a', C, oe, d, gs, c, fs, rfl, e1, ev, ed, T, q2⟩ | ⟨rfl, c, fs, Ca, T, q2⟩
    rotate_left
    · exact .inr ⟨x, rfl, .inl ⟨_, cx, kitN T g3 tg⟩, hq _ _ q2 _ _ l1 (.bl _) rh1⟩
    obtain ⟨u', tg', k1, _⟩ := T.tg t1 g3
    have := tg'.eq tg
    subst this
    exact .inl ⟨a', C, oe, d, gs, x, _, rfl, e1, ev, ed, T.is, T.ga, T.gg, T.be, T.ha, T.hn, T.ht, T.hm, .inl ⟨_, cx, by rw [k1]; simp⟩, hq _ _ q2 _ _ l1 (.bl _) rh1⟩
end
end DL

/-! DL, part M: all expressions -/
namespace DL
open PySem PySem.Spec PyProof.Rows L2
section
variable {k : Nat} {gl : List D} {F : Fns}
mutual
theorem snd : ∀ (c : CE) {Γ : Gx} {L : Lv} {X : Cx} (_ : XO Γ L k gl F X) (e : Expr), chk Γ c e = true → Snd L gl F X c e
  | .non, Γ, L, X, O, e, h => by
    simp only [chk] at h
    split at h
    · exact snd_non
    · cases h
  | .bl b, Γ, L, X, O, e, h => by
    simp only [chk] at h
    split at h
    · have e := beq_iff_eq.mp h; subst e; exact snd_bl
    · cases h
  | .int i, Γ, L, X, O, e, h => by
    simp only [chk] at h
    split at h
    · have e := beq_iff_eq.mp h; subst e; exact snd_int
    · cases h
  | .str x, Γ, L, X, O, e, h => by
    simp only [chk] at h
    split at h
    · have e := beq_iff_eq.mp h; subst e; exact snd_str
    · cases h
  | .var i, Γ, L, X, O, e, h => by
    simp only [chk] at h
    split at h
    · simp only [Bool.and_eq_true] at h
      exact snd_var O (by simpa using h.1.1) h.1.2 h.2
    · cases h
  | .glb i, Γ, L, X, O, e, h => by
    simp only [chk] at h
    split at h
    · simp only [Bool.and_eq_true] at h
      exact snd_glb O (by simpa using h.1.1) h.1.2 h.2
    · cases h
  | .bin z op a b, Γ, L, X, O, e, h => by
    simp only [chk] at h
    split at h
    · simp only [Bool.and_eq_true] at h
      have e := beq_iff_eq.mp h.1.1
      subst e
      exact snd_bin O (snd a O _ h.1.2) (snd b O _ h.2)
    · cases h
  | .neg a, Γ, L, X, O, e, h => by
    simp only [chk] at h
    split at h
    · exact snd_neg O (snd a O _ h)
    · cases h
  | .no a, Γ, L, X, O, e, h => by
    simp only [chk] at h
    split at h
    · exact snd_no (snd a O _ h)
    · cases h
  | .and a b, Γ, L, X, O, e, h => by
    simp only [chk] at h
    split at h
    · rename_i x y r pos
      rw [Bool.and_eq_true] at h
      obtain ⟨h1, h2⟩ := h
      split at h2
      · exact snd_and1 (snd a O _ h1) (snd b O _ h2)
      · exact snd_and2 (snd a O _ h1) (snd b O _ h2)
    · cases h
  | .or a b, Γ, L, X, O, e, h => by
    simp only [chk] at h
    split at h
    · rename_i x y r pos
      rw [Bool.and_eq_true] at h
      obtain ⟨h1, h2⟩ := h
      split at h2
      · exact snd_or1 (snd a O _ h1) (snd b O _ h2)
      · exact snd_or2 (snd a O _ h1) (snd b O _ h2)
    · cases h
  | .cmp op a b, Γ, L, X, O, e, h => by
    simp only [chk] at h
    split at h
    · simp only [Bool.and_eq_true] at h
      have e := beq_iff_eq.mp h.1.1.1
      subst e
      exact snd_cmp O (snd a O _ h.1.1.2) (snd b O _ h.1.2) h.2
    · cases h
  | .chn op op' a b c, Γ, L, X, O, e, h => by
    simp only [chk] at h
    split at h
    · simp only [Bool.and_eq_true] at h
      obtain ⟨⟨⟨⟨⟨h1, h2⟩, h3⟩, h4⟩, h5⟩, h6⟩ := h
      have e := beq_iff_eq.mp h1
      have e2 := beq_iff_eq.mp h2
      subst e e2
      exact snd_chn O (snd a O _ h3) (snd b O _ h4) (snd c O _ h5) h6
    · cases h
  | .ife t a b, Γ, L, X, O, e, h => by
    simp only [chk] at h
    split at h
    · simp only [Bool.and_eq_true] at h
      exact snd_ife2 (snd t O _ h.1.1) (snd a O _ h.1.2) (snd b O _ h.2)
    · cases h
  | .ktup es, Γ, L, X, O, e, h => by
    simp only [chk] at h
    split at h
    · exact snd_ktup (snds es O _ h)
    · cases h
  | .tup es, Γ, L, X, O, e, h => by
    simp only [chk] at h
    split at h
    · exact snd_tup (snds es O _ h)
    · cases h
  | .lst z es, Γ, L, X, O, e, h => by
    simp only [chk] at h
    split at h
    · exact snd_lst (snds es O _ h)
    · cases h
  | .dnew, Γ, L, X, O, e, h => by
    simp only [chk] at h
    split at h
    · exact snd_dnew
    · cases h
  | .idx a i, Γ, L, X, O, e, h => by
    simp only [chk] at h
    split at h
    · simp only [Bool.and_eq_true] at h
      exact snd_idx O (snd a O _ h.1.1) (snd i O _ h.1.2) h.2
    · cases h
  | .slc z a lo hi, Γ, L, X, O, e, h => by
    simp only [chk] at h
    split at h
    · simp only [Bool.and_eq_true] at h
      exact snd_slc O (snd a O _ h.1.1) (sndO lo O _ h.1.2) (sndO hi O _ h.2)
    · cases h
  | .call f es, Γ, L, X, O, e, h => by
    simp only [chk] at h
    split at h
    · rename_i x p xs pos
      simp only [Bool.and_eq_true] at h
      obtain ⟨⟨⟨⟨h1, hp⟩, h2⟩, h3⟩, h4⟩ := h
      cases xs with
      | nil =>
        cases es with
        | nil => exact snd_call0 O (by simpa using h1) hp h2 h3
        | cons c cs => simp [chks] at h4
      | cons y ys => exact snd_call O (by simpa using h1) hp h2 h3 (chks_star h4) (snds es O _ h4)
    · cases h
  | .ist a ts tb, Γ, L, X, O, e, h => by
    simp only [chk] at h
    split at h
    · rename_i f p x es kt pt pos
      simp only [Bool.and_eq_true, decide_eq_true_eq] at h
      obtain ⟨⟨⟨⟨⟨⟨⟨⟨⟨h1, h2⟩, h3⟩, h4⟩, h5⟩, h6⟩, h7⟩, h10⟩, h8⟩, h9⟩ := h
      obtain rfl := beq_iff_eq.mp h1
      exact snd_ist O.xf O.sc (O.glo h2) (O.blo h3) h4 (snd a O _ h5) h6 h7 h10 h8 h9
    · cases h
  | .isc a t tb, Γ, L, X, O, e, h => by
    simp only [chk] at h
    split at h
    · rename_i f p x t' q pos
      simp only [Bool.and_eq_true] at h
      obtain ⟨⟨⟨⟨⟨⟨⟨⟨⟨h1, h2⟩, h3⟩, h4⟩, h5⟩, h6⟩, h7⟩, h8⟩, h10⟩, h9⟩ := h
      obtain rfl := beq_iff_eq.mp h1
      obtain rfl := beq_iff_eq.mp h6
      exact snd_isc O.xf O.sc (O.glo h2) (O.blo h3) h4 (snd a O _ h5) h7 h8 h10 h9
    · cases h
  | .isx a ts cs, Γ, L, X, O, e, h => by
    simp only [chk] at h
    split at h
    · rename_i f p x t pos
      simp only [Bool.and_eq_true, decide_eq_true_eq] at h
      obtain ⟨⟨⟨⟨⟨⟨⟨h1, h2⟩, h3⟩, h4⟩, h5⟩, h6⟩, h7⟩, h8⟩ := h
      obtain rfl := beq_iff_eq.mp h1
      exact snd_isx O.xf O.sc (O.glo h2) (O.blo h3) h4 (snd a O _ h5) h6 h7 h8
    · cases h
  | .fld a f cs xs, Γ, L, X, O, e, h => by
    simp only [chk] at h
    split at h
    · simp only [Bool.and_eq_true] at h
      obtain ⟨⟨⟨⟨h1, h2⟩, h3⟩, h4⟩, h5⟩ := h
      obtain rfl := beq_iff_eq.mp h1
      exact snd_fld O.xf (snd a O _ h3) h2 h4 h5
    · cases h
  | .new c i es, Γ, L, X, O, e, h => by
    simp only [chk] at h
    split at h
    · simp only [Bool.and_eq_true] at h
      obtain ⟨⟨⟨⟨h1, h2⟩, h3⟩, h4⟩, h5⟩ := h
      obtain rfl := beq_iff_eq.mp h1
      refine snd_new O h2 h3 h4 (chks_star h5) (snds es O _ h5) fun z => ?_
      subst z
      cases es with
      | nil => rfl
      | cons c cs => simp [chks] at h5
    · cases h
  | .imt m tb o es, Γ, L, X, O, e, h => by
    simp only [chk] at h
    split at h
    · rename_i x n ap xs cp
      simp only [Bool.and_eq_true, decide_eq_true_eq] at h
      obtain ⟨⟨⟨⟨⟨⟨h1, h2⟩, h3⟩, h4⟩, h5⟩, h6⟩, h7⟩ := h
      obtain rfl := beq_iff_eq.mp h1
      cases xs with
      | nil =>
        cases es with
        | nil => exact snd_imt0 O (snd o O _ h2) h4 h5 h7
        | cons c cs => simp [chks] at h3
      | cons y ys => exact snd_imt O (snd o O _ h2) (chks_star h3) (snds es O _ h3) h4 h5 h6 h7
    · cases h
  | .blt z f es, Γ, L, X, O, e, h => by
    simp only [chk] at h
    split at h
    · simp only [Bool.and_eq_true] at h
      obtain ⟨⟨⟨⟨h1, h2⟩, h3⟩, h4⟩, hz⟩ := h
      have e := beq_iff_eq.mp h1
      subst e
      exact snd_blt O hz h2 h3 (chks_star h4) (snds es O _ h4)
    · cases h
  | .mtd z m o es, Γ, L, X, O, e, h => by
    simp only [chk] at h
    split at h
    · rename_i x n ap xs cp
      simp only [Bool.and_eq_true] at h
      obtain ⟨⟨⟨⟨⟨⟨h1, h2⟩, h3⟩, h4⟩, h5⟩, h6⟩, hz⟩ := h
      have e := beq_iff_eq.mp h1
      subst e
      cases xs with
      | nil =>
        cases es with
        | nil => exact snd_mtd0 O hz (snd o O _ h2) h4 h5
        | cons c cs => simp [chks] at h3
      | cons y ys => exact snd_mtd O hz (snd o O _ h2) (chks_star h3) (snds es O _ h3) h4 h5 (by simpa using h6)
    · cases h
  | .isi a T, Γ, L, X, O, e, h => by
    simp only [chk] at h
    split at h
    · rename_i f p1 x t p2 pos
      simp only [Bool.and_eq_true] at h
      obtain ⟨⟨⟨⟨⟨⟨⟨h1, h2⟩, h3⟩, h4⟩, h5⟩, h6⟩, h7⟩, h8⟩ := h
      have e := beq_iff_eq.mp h1
      have e2 := beq_iff_eq.mp h4
      subst e e2
      have hT : T ∈ isiTs := by simpa [isiTs] using h7
      have hx := snd a O _ h8
      by_cases hs : notStar x = true
      · exact snd_isi O hT h2 h3 h5 h6 hs hx
      · cases x with
        | Starred y p => cases a <;> simp [chk, plainV] at h8
        | _ => exact absurd rfl hs
    · cases h
  | .comp z own t it test el, Γ, L, X, O, e, h => by
    simp only [chk] at h
    split at h
    · rename_i elt tg iter ifs scope pos
      simp only [Bool.and_eq_true] at h
      obtain ⟨⟨⟨⟨⟨⟨h1, h2⟩, h3⟩, h4⟩, h5⟩, h6⟩, h7⟩ := h
      refine snd_comp O h1 h2 h3 (sndI it O _ _ h4) h5 (fun s H C cl fp => ?_) fun s H C cl fp => (snd el (O.blk (s := s) (H := H) (scope := scope) (C := C) (cl := cl) (fp := fp)) _ h7).pe
      cases test with
      | none =>
        split at h6
        · exact ltt_none
        · simp [chkO] at h6
        · cases h6
      | some c =>
        split at h6
        · simp [chkO] at h6
        · simp only [chkO] at h6
          exact ltt_some (snd c (O.blk (s := s) (H := H) (scope := scope) (C := C) (cl := cl) (fp := fp)) _ h6).pt
        · cases h6
    · cases h
  | .rev z a, Γ, L, X, O, e, h => by
    simp only [chk] at h
    split at h
    · simp only [Bool.and_eq_true] at h
      have e := beq_iff_eq.mp h.1
      subst e
      exact snd_rev O (snd a O _ h.2)
    · cases h
  | .stp z a ky, Γ, L, X, O, e, h => by
    simp only [chk] at h
    split at h
    · simp only [Bool.and_eq_true] at h
      exact snd_stp O (snd a O _ h.1) (sndO ky O _ h.2)
    · cases h
  | .mnd a d, Γ, L, X, O, e, h => by
    simp only [chk] at h
    split at h
    · simp only [Bool.and_eq_true] at h
      obtain ⟨⟨⟨⟨⟨⟨h1, h2⟩, h3⟩, h4⟩, h5⟩, h6⟩, h7⟩ := h
      exact snd_mnd O (beq_iff_eq.mp h1) (beq_iff_eq.mp h4) h2 h3 h5 (snd a O _ h6) (snd d O _ h7)
    · cases h
  | .lzp z a b, Γ, L, X, O, e, h => by
    simp only [chk] at h
    split at h
    · simp only [Bool.and_eq_true] at h
      obtain ⟨⟨⟨⟨⟨⟨⟨⟨⟨h1, h2⟩, h3⟩, h4⟩, h5⟩, h6⟩, h7⟩, h8⟩, h9⟩, h10⟩ := h
      exact snd_lzp O (beq_iff_eq.mp h1) (beq_iff_eq.mp h4) h2 h3 h5 h6 h7 h8 (snd a O _ h9) (snd b O _ h10)
    · cases h
  | .tzp a b, Γ, L, X, O, e, h => by
    simp only [chk] at h
    split at h
    · simp only [Bool.and_eq_true] at h
      obtain ⟨⟨⟨⟨⟨⟨⟨⟨⟨h1, h2⟩, h3⟩, h4⟩, h5⟩, h6⟩, h7⟩, h8⟩, h9⟩, h10⟩ := h
      exact snd_tzp O (beq_iff_eq.mp h1) (beq_iff_eq.mp h4) h2 h3 h5 h6 h7 h8 (snd a O _ h9) (snd b O _ h10)
    · cases h
  | .cal i tb es, Γ, L, X, O, e, h => by
    simp only [chk] at h
    split at h
    · rename_i x p y ys pos
      simp only [Bool.and_eq_true] at h
      obtain ⟨⟨⟨⟨h1, h2⟩, h3⟩, h4⟩, h5⟩ := h
      exact snd_cal O (by simpa using h1) h2 h3 h5 (chks_star h4) (snds es O _ h4)
    · cases h
  | .fnv x, Γ, L, X, O, e, h => by
    simp only [chk] at h
    split at h
    · simp only [Bool.and_eq_true] at h
      obtain ⟨⟨⟨h1, h2⟩, h3⟩, h4⟩ := h
      exact snd_fnv O (beq_iff_eq.mp h1) h2 h3 h4
    · cases h
  | .lrg z a b, Γ, L, X, O, e, h => by
    simp only [chk] at h
    split at h
    · simp only [Bool.and_eq_true] at h
      obtain ⟨⟨⟨⟨⟨⟨⟨⟨⟨h1, h2⟩, h3⟩, h4⟩, h5⟩, h6⟩, h7⟩, h8⟩, h9⟩, h10⟩ := h
      exact snd_lrg O (beq_iff_eq.mp h1) (beq_iff_eq.mp h4) h2 h3 h5 h6 h7 h8 (snd a O _ h9) (snd b O _ h10)
    · cases h
  | .sset z a, Γ, L, X, O, e, h => by
    simp only [chk] at h
    split at h
    · simp only [Bool.and_eq_true] at h
      obtain ⟨⟨⟨⟨⟨⟨⟨h1, h2⟩, h3⟩, h4⟩, h5⟩, h6⟩, h7⟩, h8⟩ := h
      exact snd_sset O (beq_iff_eq.mp h1) (beq_iff_eq.mp h4) h2 h3 h5 h6 h7 (snd a O _ h8)
    · cases h
  | .lset a, Γ, L, X, O, e, h => by
    simp only [chk] at h
    split at h
    · simp only [Bool.and_eq_true] at h
      obtain ⟨⟨⟨⟨⟨⟨⟨h1, h2⟩, h3⟩, h4⟩, h5⟩, h6⟩, h7⟩, h8⟩ := h
      exact snd_lset O (beq_iff_eq.mp h1) (beq_iff_eq.mp h4) h2 h3 h5 h6 h7 (snd a O _ h8)
    · cases h
  | .dis z ks es, Γ, L, X, O, e, h => by
    simp only [chk] at h
    split at h
    · simp only [Bool.and_eq_true, beq_iff_eq, decide_eq_true_eq, Bool.not_eq_true'] at h
      obtain ⟨⟨⟨⟨h1, h2⟩, h3⟩, h4⟩, h5⟩ := h
      exact snd_dis O (sndE es O) h1 h2 h3 h4 h5
    · cases h
  | .frz c, Γ, L, X, O, e, h => by
    simp only [chk, Bool.and_eq_true] at h
    exact (snd c O e h.2).frz h.1
  | .gc c, Γ, L, X, O, e, h => by
    simp only [chk, Bool.and_eq_true] at h
    exact (snd c O e h.2).gc h.1
theorem sndE : ∀ (cs : CEs) {Γ : Gx} {L : Lv} {X : Cx} (_ : XO Γ L k gl F X), SndsP Γ L gl F X cs
  | .nil, Γ, L, X, O => trivial
  | .cons c cs, Γ, L, X, O => ⟨fun e h => snd c O e h, sndE cs O⟩
theorem snds : ∀ (cs : CEs) {Γ : Gx} {L : Lv} {X : Cx} (_ : XO Γ L k gl F X) (es : List Expr), chks Γ cs es = true → PA X es (La L (wEs gl F cs))
  | .nil, Γ, L, X, O, es, h => by
    simp only [chks] at h
    split at h
    · exact la_nil
    · cases h
  | .cons c cs, Γ, L, X, O, es, h => by
    simp only [chks] at h
    split at h
    · simp only [Bool.and_eq_true] at h
      exact la_cons h.1.1 (snd c O _ h.1.2).pe (snds cs O _ h.2)
    · cases h
theorem sndO : ∀ (o : CO) {Γ : Gx} {L : Lv} {X : Cx} (_ : XO Γ L k gl F X) (e : Option Expr), chkO Γ o e = true → PO X e (Lo L (wO gl F o))
  | .none, Γ, L, X, O, e, h => by
    simp only [chkO] at h
    split at h
    · exact lo_none
    · cases h
  | .some c, Γ, L, X, O, e, h => by
    simp only [chkO] at h
    split at h
    · exact lo_some (snd c O _ h).pe
    · cases h
theorem sndI : ∀ (it : CI) {Γ : Gx} {L : Lv} {X : Cx} (_ : XO Γ L k gl F X) (tg e : Expr), chkI Γ it tg e = true → PI X tg e (Li L (wI gl F it))
  | .any c, Γ, L, X, O, tg, e, h => by
    simp only [chkI] at h
    exact li_any O (snd c O _ h)
  | .rng1 c, Γ, L, X, O, tg, e, h => by
    simp only [chkI] at h
    split at h
    · simp only [Bool.and_eq_true] at h
      obtain ⟨⟨⟨⟨h1, h2⟩, h3⟩, h4⟩, h5⟩ := h
      have e := beq_iff_eq.mp h1
      subst e
      exact li_rng1 O h2 h3 h4 (snd c O _ h5)
    · cases h
  | .rng2 c d, Γ, L, X, O, tg, e, h => by
    simp only [chkI] at h
    split at h
    · simp only [Bool.and_eq_true] at h
      obtain ⟨⟨⟨⟨⟨⟨h1, h2⟩, h3⟩, h4⟩, h5⟩, h6⟩, h7⟩ := h
      have e := beq_iff_eq.mp h1
      subst e
      exact li_rng2 O h2 h3 h4 h5 (snd c O _ h6) (snd d O _ h7)
    · cases h
  | .rng3 c d b, Γ, L, X, O, tg, e, h => by
    simp only [chkI] at h
    split at h
    · simp only [Bool.and_eq_true] at h
      obtain ⟨⟨⟨⟨⟨⟨⟨⟨h1, h2⟩, h3⟩, h4⟩, h5⟩, h6⟩, h7⟩, h8⟩, h9⟩ := h
      have e := beq_iff_eq.mp h1
      subst e
      exact li_rng3 O h2 h3 h4 h5 h6 (snd c O _ h7) (snd d O _ h8) (snd b O _ h9)
    · cases h
  | .zip c d, Γ, L, X, O, tg, e, h => by
    simp only [chkI] at h
    split at h
    · simp only [Bool.and_eq_true] at h
      obtain ⟨⟨⟨⟨⟨⟨⟨h0, h1⟩, h2⟩, h3⟩, h4⟩, h5⟩, h6⟩, h7⟩ := h
      have e := beq_iff_eq.mp h1
      subst e
      cases tg with
      | Tuple elts kk tpos => exact li_zip O h2 h3 h4 h5 (snd c O _ h6) (snd d O _ h7)
      | _ => exact absurd h0 Bool.false_ne_true
    · cases h
  | .enm c, Γ, L, X, O, tg, e, h => by
    simp only [chkI] at h
    split at h
    · simp only [Bool.and_eq_true] at h
      obtain ⟨⟨⟨⟨⟨h0, h1⟩, h2⟩, h3⟩, h4⟩, h5⟩ := h
      have e := beq_iff_eq.mp h1
      subst e
      cases tg with
      | Tuple elts kk tpos => exact li_enm O h2 h3 h4 (snd c O _ h5)
      | _ => exact absurd h0 Bool.false_ne_true
    · cases h
end
end
end DL

/-! DL, part N0: raise; the making of exceptions; try with the caught exception as a value -/
namespace DL
open PySem PySem.Spec PyProof.Rows L2

/-! ### readings -/
def Ls (L : Lv) (w : QD → SXD → DSt → DH → (DSt → DH → Prop) → Prop) : TS := fun E σ H => ∃ s h nx rt, Ste L.H0 L.h0 H h ∧ RS L.K H σ s ∧ RH L.K L.C H h ∧ w rt L.EX s h nx ∧
  (∀ s' h', nx s' h' → ∀ σ' H', Ste H h H' h' → RS L.K H' σ' s' → RH L.K L.C H' h' → E.nx σ' H') ∧ ∀ d h', rt d h' → LQ L.K L.C H h E.rt d h'
structure SO (Γ : Gx) (L : Lv) (k : Nat) (gl : List D) (F : Fns) (X : Cx) : Prop extends XO Γ L k gl F X where
  hs : X.stack = X.env :: X.outer
  hf : X.env.frame = some X.env.locals
  po : PassesOwn (model X.prog X.w) X.A X.env X.xe
  fnA : ∀ x, X.fn x = true
  kd : Γ.sc.kind = .function
  ex : X.ex = []

section
variable {X : Cx} {st : Stmt}
theorem PS.imp {t t' : TS} (h : PS X st t) (i : ∀ E σ H, t' E σ H → t E σ H) : PS X st t' := ⟨fun pins s σ H E I q => h.run pins s σ H E I (i E σ H q)⟩
theorem PSs.imp {st : List Stmt} {t t' : TS} (h : PSs X st t) (i : ∀ E σ H, t' E σ H → t E σ H) : PSs X st t' := ⟨fun pins s σ H E I q => h.run pins s σ H E I (i E σ H q)⟩
end
/-! ### raise C(..) -/
theorem PMk.imp {X : Cx} {e : Expr} {t t' : L2.St → Hp → XK → Prop} (h : PMk X e t) (i : ∀ σ H Q, t' σ H Q → t σ H Q) : PMk X e t' := fun pins s σ H Q I q => h pins s σ H Q I (i σ H Q q)
theorem RPs.zipR {K : PySem.W.Frag} {H : Hp} : ∀ {fs : List Str} {vs : List V} {ds : List D}, RDs K H vs ds → RPs K H (fs.zip vs).reverse (fs.zip ds).reverse
  | [], _, _, _ => .nil
  | _ :: _, _, _, .nil => .nil
  | f :: fs, _, _, .cons r t => by
    rw [List.zip_cons_cons, List.zip_cons_cons, List.reverse_cons, List.reverse_cons]
    exact RPs.app (RPs.zipR t) (.cons ⟨rfl, r⟩ .nil)
section
variable {Γ : Gx} {L : Lv} {k : Nat} {gl : List D} {F : Fns} {X : Cx} {es : CEs} {c : Str} {fs : List Str}
theorem rai_conv {C : Addr} {σ : L2.St} {H : Hp} {D : Ends} (cl : CL L.K c C) (hl : fs.length ≤ 1000) (h0 : fs ≠ []) (q : Ls L (fun rt ex => wS gl F rt ex (.rai c fs es)) D σ H) :
    tMkO C (spIni C fs) [] (La L (wEs gl F es)) σ H fun cls d H' => Wx L cls d σ H' := by
  obtain ⟨s, h, nx, rt, le, rs, rh, q, hn, hr⟩ := q
  simp only [wS] at q
  refine ⟨s, h, _, le, rs, rh, q, fun ds h1 ⟨e0, q1⟩ vs H1 l1 r1 rh1 => ?_⟩
  have e1 : ds.length = fs.length := by
    cases fs with
    | nil => exact absurd rfl h0
    | cons f fs => simpa using e0
  refine ⟨by rw [r1.length, e1]; exact hl, fun a na => ?_⟩
  refine ⟨a, vs, by rw [List.append_nil], by rw [r1.length, e1], upd_same, fun dx H' ndx ne e2 e3 same => ⟨rfl, dx, _, e2, e3, ?_, ?_⟩⟩
  · rw [upd_ne ne] at ndx; exact ndx
  · rw [upd_ne ne] at ndx
    have eH : upd (del H' a) dx (.xd (fs.zip vs).reverse) = upd H1 dx (.xd (fs.zip vs).reverse) := by
      funext b
      by_cases hb : b = dx
      · subst hb; rw [upd_same, upd_same]
      · rw [upd_ne hb, upd_ne hb]
        by_cases hb2 : b = a
        · subst hb2; rw [del_same, na]
        · rw [del_ne hb2, same b hb2 hb, upd_ne hb2]
    rw [eH]
    have st : Ste H1 h1 (upd H1 dx (.xd (fs.zip vs).reverse)) h1 := Ste.side ndx
    exact ⟨mkX c fs ds, s, h1, (le.trans l1).trans st, ⟨⟨C, cl, rfl⟩, _, upd_same, RPs.zipR (r1.le st.le)⟩, (rs.le l1.le).le st.le, rh1.side ndx, q1⟩
theorem snd_rai (O : SO Γ L k gl F X) {e : Expr} {ys : List Expr} {p pos pos2 : Pos} (hx : (c, fs) ∈ Γ.xt.xcs) (h0 : fs ≠ []) (hl : fs.length ≤ 1000) (hv : glB Γ.sc c = true) (hn : okN c = true) (hst : (e :: ys).all notStar = true) (ha : PA X (e :: ys) (La L (wEs gl F es))) :
    PS X (.Raise (some (.Call (.Name c p) (e :: ys) [] pos)) none pos2) (Ls L (fun rt ex => wS gl F rt ex (.rai c fs es))) := by
  obtain ⟨C, T⟩ := O.tab.xc c fs hx
  have cl : CL L.K c C := by rw [← O.K]; exact T.cl
  rw [List.all_cons, Bool.and_eq_true] at hst
  rcases T.mkf with ⟨z, _⟩ | ⟨_, ox, fI, fd, iC, tI, F1, b1⟩
  · exact absurd z h0
  · exact PS.imp (ps_raise O.rm.c O.tk (pmk_oex (dvs := []) (ds := []) ox iC tI F1 (O.room.mono (by omega)) b1 .nil (fun _ _ _ _ _ _ _ z => z.elim) (O.glo hv) T.gl ha (okN_1 hn) (star1 hst.1) (stars_plain hst.2))) fun E σ H q => rai_conv cl hl h0 q
/-- X(..) of a class without __init__ -/
theorem pmk_plain {X : Cx} {C : Addr} {bmB : List Value} {B newId initId : String} {x : Str} {e : Expr} {ys : List Expr} {ta : TA} {p pos : Pos} (F : ExcBaseFacts B newId initId bmB) (q : PySem.W.excIn X.K C bmB newId = true) (gC : X.mg x = some (.ref C)) (kC : PySem.W.keepIn X.K (.ref C) = true) (r : Raises X (.ref C)) (hg : Gl X x)
    (hdb : (x == ("__debug__" : Str)) = false) (ha : PA X (e :: ys) ta) (he : starEach (e :: ys) X.env = (false, eval e X.env) :: starEach ys X.env) (hpl : (backTo pos (starEach ys X.env)).any (·.1) = false) :
    PMk X (.Call (.Name x p) (e :: ys) [] pos) (fun σ H Q => ta σ H fun vs H1 => vs.length ≤ 1000 ∧ Q (.ref C) none H1) := by
  intro pins s σ H Q I h
  refine wpAny_Call_Name_kw (ld_glob I hg gC ?_ hdb)
  refine PySem.W.callWith_K (h₀ := X.base) I.ok.mod.kin kC (thn (ha.run pos pins s σ H _ I h) fun us s1 hh => ?_) he hpl
  obtain ⟨vs, H1, I1, r1, hl, hq⟩ := hh
  refine ⟨I1.kIn, ?_⟩
  show wpAny _ _ (call (.ref C) us) _ _ _
  obtain ⟨bm, N, nm, qn, bs, hdct, sn, sub, ab, col, dd, k0, k1, k2, k3, k5, mN, hC, hN, hni, T⟩ := exc_obj I1.kIn q
  refine wpAny_call_exc_subT F T hC hN hni (fun h' e hm => ?_) (by have := r1.length; have := sizeLine_eq; omega)
  exact mk_of I1 hm r hq (I1.hok.gone hm.new)
theorem snd_rai0 (O : SO Γ L k gl F X) {e : Expr} {ys : List Expr} {p pos pos2 : Pos} (hx : (c, []) ∈ Γ.xt.xcs) (hv : glB Γ.sc c = true) (hn : okN c = true) (hc : chks Γ es (e :: ys) = true) (ha : PA X (e :: ys) (La L (wEs gl F es))) :
    PS X (.Raise (some (.Call (.Name c p) (e :: ys) [] pos)) none pos2) (Ls L (fun rt ex => wS gl F rt ex (.rai c [] es))) := by
  obtain ⟨C, T⟩ := O.tab.xc c [] hx
  have cl : CL L.K c C := by rw [← O.K]; exact T.cl
  have hst := chks_star hc
  rw [List.all_cons, Bool.and_eq_true] at hst
  rcases T.mkf with ⟨_, hin⟩ | ⟨z, _⟩
  · refine PS.imp (ps_raise O.rm.c O.tk (pmk_plain PySem.F.excBase_ValueError hin T.gl T.kp (raises_own T.be T.ty) (O.glo hv) (okN_1 hn) ha (star1 hst.1) (stars_plain hst.2))) fun E σ H ⟨s, h, nx, rt, le, rs, rh, q, hn, hr⟩ => ?_
    simp only [wS] at q
    exact ⟨s, h, _, le, rs, rh, q, fun ds h1 ⟨e1, q1⟩ vs H1 l1 r1 rh1 => ⟨by rw [r1.length]; simp at e1; rcases e1 with e1 | e1 <;> (try rw [e1]) <;> simp_all, mkX c [] ds, s, h1, le.trans l1, ⟨⟨C, cl, rfl⟩, rfl⟩, rs.le l1.le, rh1, q1⟩⟩
  · exact absurd rfl z
end

/-! ### o.f = e -/
section
variable {Γ : Gx} {L : Lv} {k : Nat} {gl : List D} {F : Fns} {X : Cx} {a b : CE}
theorem snd_fst (O : SO Γ L k gl F X) {f : Str} {cs : List Str} {l v : Expr} {pos pos' : Pos} (ha : Snd L gl F X a l) (hv : Snd L gl F X b v) (hcs : cs.all (fun c => hasF Γ.xt.fls c f) = true) (hs : swapsWith v (some (.Attribute l f pos')) pos.line X.env = pure false) :
    PS X (.Assign [.Attribute l f pos'] v pos) (Ls L (fun rt ex => wS gl F rt ex (.fst a f cs b))) := by
  refine PS.imp (ps_fld ha.pe hv.pe hs) fun E σ H ⟨s, h, nx, rt, le, rs, rh, q, hn, hr⟩ => ?_
  simp only [wS] at q
  refine ⟨s, h, _, le, rs, rh, q, fun d1 h1 q1 v1 H1 l1 r1 rh1 => ⟨s, h1, _, le.trans l1, rs.le l1.le, rh1, q1, fun d2 h2 q2 v2 H2 l2 r2 rh2 => ?_⟩⟩
  unfold wFst at q2
  split at q2
  · rename_i p
    cases r2
    split at q2
    · rename_i c fs hp
      obtain ⟨hin, hl, q3⟩ := q2
      obtain ⟨Ca, dx, gs, h3, rp, cl⟩ := rh2 _ _ hp
      obtain ⟨fs', m1, m2⟩ := hasF_mem (List.all_eq_true.mp hcs c (by simpa using hin))
      obtain ⟨Ca', c2, ck, na⟩ := O.tab.fl _ _ m1
      have c1 := cl
      rw [← O.K] at c1
      have := c1.eq c2
      subst this
      have m : Mut (H2 p) := by rw [h3]; trivial
      refine ⟨p, Ca, dx, gs, rfl, h3, ck, na f m2, by rw [rp.length]; omega, ?_⟩
      have st : Ste H2 h2 (upd H2 p (.ins Ca dx (putF f v1 gs))) (up h2 p (.ins c (dputF f d1 fs))) := Ste.mut hp m
      refine hn _ _ q3 _ _ ((l1.trans l2).trans st) (((rs.le l1.le).le l2.le).le st.le) (rh2.put m ⟨Ca, dx, _, upd_same, ?_, cl⟩)
      exact putF_rd ((r1.le l2.le).le st.le) (rp.le st.le)
    · exact q2.elim
  · exact q2.elim
end

/-! ### try: body, except C as n: suite, the exception a value -/
section
variable {X : Cx} {pins : List (Addr × Obj)} {σ : L2.St} {H : Hp} {s : Shared} {a : Addr} {oe : Obj}
theorem Inv.track {vs : Array Value} (I : Inv X pins σ H s) (ha : s.heap.get? a = some oe) (hd : oe.data = .fields vs) (na : H a = none) (nL : a ≠ X.env.locals) (np : ∀ p ∈ X.pn ++ pins, p.1 ≠ a) (n0 : X.s_0.heap.get? a = none) : Inv X pins σ (upd H a (.frz oe exU)) s := by
  have ne : ∀ b o, H b = some o → b ≠ a := fun b o e => ne_of_none e na
  refine ⟨I.ok, I.os, I.bare, ⟨I.base.keep, I.base.slot, fun b o e n hx => ?_, I.base.there, fun b xs e => ?_, fun b o u e => ?_, fun b ps e => ?_⟩, I.loc, I.cell, ?_, fun x c e => ?_, fun p hp => ?_, fun b o e => ?_, I.len⟩
  · have : b ≠ a := fun z => by subst z; rw [n0] at e; cases e
    rw [upd_ne this]; exact I.base.free b o e n hx
  · have q := I.base.tups b xs e
    rw [upd_ne (ne _ _ q)]; exact q
  · have q := I.base.frzs b o u e
    rw [upd_ne (ne _ _ q)]; exact q
  · obtain ⟨m, q⟩ := I.base.tbls b ps e
    exact ⟨m, by rw [upd_ne (ne _ _ q)]; exact q⟩
  · rw [upd_ne (Ne.symm nL)]; exact I.free
  · have : c ≠ a := fun z => by
      subst z
      obtain ⟨v, o, ho, hc⟩ := I.cell x c e
      rw [ha] at ho; cases ho; rw [hd] at hc; cases hc
    rw [upd_ne this]; exact I.freeC x c e
  · obtain ⟨h1, h2, h3, h4, h5⟩ := I.pin p hp
    exact ⟨h1, by rw [upd_ne (np p hp)]; exact h2, h3, h4, h5⟩
  · by_cases z : b = a
    · subst z; rw [upd_same] at e; cases e
      exact ⟨ha, trivial, ⟨_, ha⟩, fun _ _ _ _ => trivial⟩
    · rw [upd_ne z] at e
      exact (I.hok b o e).stay (fun _ _ _ q => q) (fun c q => by rw [upd_ne (ne _ _ q)]; exact q) fun c xs q => by rw [upd_ne (ne _ _ q)]; exact q
theorem Inv.hot (I : Inv X pins σ H s) (a : Addr) : Inv (X.suite a (X.pn ++ pins)) [] σ H s :=
  ⟨I.ok.suite _ _, I.os, I.bare, I.base, I.loc, I.cell, I.free, I.freeC, fun p hp => I.pin p (by rw [List.append_nil] at hp; exact hp), I.hok, I.len⟩
theorem Inv.unhot {pn' : List (Addr × Obj)} (I : Inv (X.suite a (X.pn ++ pins)) pn' σ H s) (ok : X.Ok) : Inv X pins σ H s :=
  ⟨ok, I.os, I.bare, I.base, I.loc, I.cell, I.free, I.freeC, fun p hp => I.pin p (List.mem_append_left _ hp), I.hok, I.len⟩
end
/-- what the clause wishes of an exception of the body; i: the slot of its name -/
def endsI (i : Option Nat) (D : Ends) : Ends := match i with
  | some j => { nx := fun σ' H' => D.nx (σ'.set j none) H', rt := D.rt, bk := fun σ' H' => D.bk (σ'.set j none) H', ct := fun σ' H' => D.ct (σ'.set j none) H' }
  | none => D
def slotI (i : Option Nat) (σ : L2.St) (a : Addr) : L2.St := match i with
  | some j => σ.set j (some (.ref a))
  | none => σ
def wTk (K : PySem.W.Frag) (c : Value) (i : Option Nat) (ts : TS) (Wout : WX) (D : Ends) : WX := fun cls d σ H =>
  ∃ b, PySem.W.exmOne K cls c = some b ∧ (b = true → ∀ (a : Addr) (oe : Obj) (vs : Array Value), H a = none → Zc cls d oe → oe.data = .fields vs → ts (endsI i D) (slotI i σ a) (upd H a (.frz oe exU))) ∧ (b = false → Wout cls d σ H)
section
variable {X : Cx} {x n : Str} {c : Value} {i : Nat} {body suite : List Stmt} {b₀ : Stmt} {np pos pos' : Pos} {tb : WX → TS} {ts : TS} {Wout : WX}
theorem ps_tryA (hs : X.stack = X.env :: X.outer) (hf : X.env.frame = some X.env.locals) (hex : X.ex = []) (hN : X.N.Nodup) (hi : X.N[i]? = some n) (hln : X.env.kindOf n = some .local) (hc : Names X x c) (tk : Takes X Wout)
    (hb : ∀ (W : WX) (pn : List (Addr × Obj)) (xe : Value → Shared → Prop), Takes (X.tr pn xe) W → PassesOwn (model X.prog X.w) X.A X.env xe → PSs (X.tr pn xe) body (tb W))
    (hsu : ∀ (a : Addr) (pn : List (Addr × Obj)), PSs (X.suite a pn) (b₀ :: suite) ts) :
    PS X (.Try body [.ExceptHandler (some (.Name x np)) (some n) (b₀ :: suite) pos'] [] [] pos) (fun D σ H => tb (wTk X.K c (some i) ts Wout D) D σ H) := by
  refine ⟨fun pins s σ H D I h => ?_⟩
  have ok := I.ok
  have hfr : X.A.frames = some (X.env :: X.outer) := by rw [ok.frames, hs]
  have hloc : Loc X.env.scope n := .inl hln
  refine wpAny_Try_except ?_
  refine wpAny_mono ((hb (wTk X.K c (some i) ts Wout D) (X.pn ++ pins) (fun e s₁ => wpAny (model X.prog X.w) X.A (noteFrame e X.env) (fun _ s₂ => wpAny (model X.prog X.w) X.A (setFlight e none) (fun _ s₃ =>
    wpAny (model X.prog X.w) X.A (handleBy e X.env [.ExceptHandler (some (.Name x np)) (some n) (b₀ :: suite) pos']) (SP X pins D) X.xe s₃) X.xe s₂) X.xe s₁) (fun u s' xx => ?_) PassesOwn.looking).run [] s σ H D (I.toTry _) h) (fun f s1 hsp => ?_) (fun e s1 he => he)
  · obtain ⟨a, B, sI, pins', σ', H', cls, d, rfl, J', nb, up, sky, na, os, ag, b, hb1, hyes, hno⟩ := xx
    have J : Inv X pins σ' H' sI := J'.ofTry ok
    have sky' : Sky B (X.env :: X.outer) a (Zc cls d) X.env.locals s'.heap := by rw [← hs]; exact sky
    show wpAny (model X.prog X.w) X.A (noteFrame (.ref a) X.env) _ _ _
    refine Sky.land Zc.steady hfr hf sky' fun h3 fl3 up3 => ?_
    have J3 : Inv X pins σ' H' { s' with heap := h3 } := J.landed nb fl3.1 (up.trans up3) os ag
    obtain ⟨oe3, vs3, he3, hz3, hd3⟩ := fl3.there
    have nfr : a ∉ frs (X.env :: X.outer) := fun hm => by
      obtain ⟨_, o', e', hnf⟩ := fl3.2.2.1.mem hm
      rw [he3] at e'; cases e'
      exact hnf _ hd3
    have nL : a ≠ X.env.locals := fun z => nfr (List.mem_filterMap.mpr ⟨X.env, List.mem_cons_self, by rw [hf, z]⟩)
    have nst : a ∉ frs X.stack := by rw [hs]; exact nfr
    have Bn : B.get? a = none := fl3.2.1
    have n0 : X.s_0.heap.get? a = none := by
      cases q : X.s_0.heap.get? a with
      | none => rfl
      | some o =>
        obtain ⟨o', e1⟩ := J.base.there a o q (by rw [hex]; exact fun z => nomatch z)
        have := nb a o' e1 nst
        rw [Bn] at this; cases this
    have npn : ∀ p ∈ X.pn ++ pins, p.1 ≠ a := fun p hp z => by
      obtain ⟨e1, e2, e3, e4, e5⟩ := J.pin p hp
      have : p.1 ∉ frs X.stack := fun hm => by rw [z] at hm; exact nst hm
      have := nb p.1 p.2 e1 this
      rw [z, Bn] at this; cases this
    have S3 := Inv.hot J3 a
    refine wpAny_handleBy_cons (codeAny_handlers_test ?_) (by intro q; cases q)
    have LT : PySem.W.Looks (model X.prog X.w) h3 (typeOf (.ref a)) cls := fun A Q E s k q => wpAny_typeOf_ref (k _ _ he3) (by rw [hz3.1]; exact q)
    have LM := PySem.W.exm_one (M := model X.prog X.w) (J3.kIn) LT hb1
    have test : ∀ {Q : Value → Shared → Prop} {E : Value → Shared → Prop}, Q c { s' with heap := h3 } → wpAny (model X.prog X.w) (X.A.mark (some (.ref a))) (eval (.Name x np) X.env) Q E { s' with heap := h3 } := fun {Q E} q => by
      obtain ⟨hg, hdbg, hm | ⟨hm, hv, hnn⟩⟩ := hc
      · exact ld_glob (X := X.suite a (X.pn ++ pins)) S3 hg hm q hdbg
      · exact ld_blt (X := X.suite a (X.pn ++ pins)) S3 hg hm hv q hnn hdbg
    refine test (LM.here ?_)
    cases b with
    | true =>
      refine codeAny_handlers_suite_as ?_
      refine HandSPX.lands_againZ fl3 fun h4 fl4 up4 => ?_
      have J4 : Inv X pins σ' H' { s' with heap := h4 } := J.landed nb fl4.1 ((up.trans up3).trans up4) os ag
      obtain ⟨oe4, vs4, he4, hz4, hd4⟩ := fl4.there
      have T4 := Inv.track J4 he4 hd4 na nL npn n0
      have S4 := Inv.hot T4 a
      refine store_ok (X := X.suite a (X.pn ++ pins)) (v := .ref a) S4 hN hi hloc rfl (fun s5 S5 => ?_) (.inr hln)
      refine wpAny_mono ((hsu a (X.pn ++ pins)).run [] s5 _ _ _ S5 (hyes rfl a oe4 vs4 na hz4 hd4)) (fun f s6 hsp => ?_) (fun _ _ z => False.elim z)
      have end_ : ∀ {σ6 : L2.St} {H6 : Hp} {Q : Shared → Prop}, Inv (X.suite a (X.pn ++ pins)) [] σ6 H6 s6 → (∀ s7, Inv X pins (σ6.set i none) H6 s7 → Q s7) →
          wpAny (model X.prog X.w) X.A (do bindName X.env n .none; unbindBehindTheSuite X.env n pos') (fun _ s7 => Q s7) X.xe s6 := fun {σ6 H6 Q} S6 hq => gone_ok (Inv.unhot S6 ok) hN hi hln hq
      cases f with
      | next =>
        obtain ⟨σ6, H6, S6, q6⟩ := hsp
        exact end_ S6 fun s7 J7 => ⟨_, _, J7, q6⟩
      | brk =>
        obtain ⟨σ6, H6, S6, q6⟩ := hsp
        exact end_ S6 fun s7 J7 => ⟨_, _, J7, q6⟩
      | cont =>
        obtain ⟨σ6, H6, S6, q6⟩ := hsp
        exact end_ S6 fun s7 J7 => ⟨_, _, J7, q6⟩
      | ret u =>
        obtain ⟨v6, σ6, H6, S6, r6, q6⟩ := hsp
        exact end_ S6 fun s7 J7 => ⟨_, _, _, J7, r6, q6⟩
    | false =>
      show wpAny _ X.A (handleBy (.ref a) X.env []) _ _ _
      refine wpAny_handleBy_nil ?_
      obtain ⟨k1, k2, k3, oe, vs, T, oT, ts', he, hz, hd, h1, hr⟩ := id fl3
      unfold PySem.passOn
      refine wpAny_bind (wpAny_field he hd h1 ?_)
      rw [if_neg (show ¬ ((Value.ref T == Value.none) = true) from by simp)]
      have fin : wpAny (model X.prog X.w) X.A (setFlight (.ref a) X.env.frame) (fun _ s4 => wpAny (model X.prog X.w) X.A (throw (.ref a) : Sem Flow) (SP X pins D) X.xe s4) X.xe { s' with heap := h3 } := by
        rw [hf]
        refine HandSPX.setFlight_upZ fl3 fun h4 hh4 up4 => wpAny_throw (tk _ _ ?_)
        exact ⟨a, B, sI, pins, σ', H', cls, d, rfl, J, nb, (up.trans up3).trans up4, .inr (.inr (by rw [hs]; exact hh4)), na, os, ag, hno rfl⟩
      first
        | exact wpAny_bind (wpAny_pure (wpAny_bind fin))
        | exact wpAny_bind fin
  · cases f with
    | next =>
      obtain ⟨σ', H', J', q⟩ := hsp
      exact wpAny_execs_nil ⟨σ', H', J'.ofTry ok, q⟩
    | brk =>
      obtain ⟨σ', H', J', q⟩ := hsp
      exact ⟨σ', H', J'.ofTry ok, q⟩
    | cont =>
      obtain ⟨σ', H', J', q⟩ := hsp
      exact ⟨σ', H', J'.ofTry ok, q⟩
    | ret u =>
      obtain ⟨v, σ', H', J', r, q⟩ := hsp
      exact ⟨v, σ', H', J'.ofTry ok, r, q⟩
/-- .. without a name -/
theorem ps_tryO (hs : X.stack = X.env :: X.outer) (hf : X.env.frame = some X.env.locals) (hex : X.ex = []) (hc : Names X x c) (tk : Takes X Wout)
    (hb : ∀ (W : WX) (pn : List (Addr × Obj)) (xe : Value → Shared → Prop), Takes (X.tr pn xe) W → PassesOwn (model X.prog X.w) X.A X.env xe → PSs (X.tr pn xe) body (tb W))
    (hsu : ∀ (a : Addr) (pn : List (Addr × Obj)), PSs (X.suite a pn) (b₀ :: suite) ts) :
    PS X (.Try body [.ExceptHandler (some (.Name x np)) none (b₀ :: suite) pos'] [] [] pos) (fun D σ H => tb (wTk X.K c none ts Wout D) D σ H) := by
  refine ⟨fun pins s σ H D I h => ?_⟩
  have ok := I.ok
  have hfr : X.A.frames = some (X.env :: X.outer) := by rw [ok.frames, hs]
  refine wpAny_Try_except ?_
  refine wpAny_mono ((hb (wTk X.K c none ts Wout D) (X.pn ++ pins) (fun e s₁ => wpAny (model X.prog X.w) X.A (noteFrame e X.env) (fun _ s₂ => wpAny (model X.prog X.w) X.A (setFlight e none) (fun _ s₃ =>
    wpAny (model X.prog X.w) X.A (handleBy e X.env [.ExceptHandler (some (.Name x np)) none (b₀ :: suite) pos']) (SP X pins D) X.xe s₃) X.xe s₂) X.xe s₁) (fun u s' xx => ?_) PassesOwn.looking).run [] s σ H D (I.toTry _) h) (fun f s1 hsp => ?_) (fun e s1 he => he)
  · obtain ⟨a, B, sI, pins', σ', H', cls, d, rfl, J', nb, up, sky, na, os, ag, b, hb1, hyes, hno⟩ := xx
    have J : Inv X pins σ' H' sI := J'.ofTry ok
    have sky' : Sky B (X.env :: X.outer) a (Zc cls d) X.env.locals s'.heap := by rw [← hs]; exact sky
    show wpAny (model X.prog X.w) X.A (noteFrame (.ref a) X.env) _ _ _
    refine Sky.land Zc.steady hfr hf sky' fun h3 fl3 up3 => ?_
    have J3 : Inv X pins σ' H' { s' with heap := h3 } := J.landed nb fl3.1 (up.trans up3) os ag
    obtain ⟨oe3, vs3, he3, hz3, hd3⟩ := fl3.there
    have nfr : a ∉ frs (X.env :: X.outer) := fun hm => by
      obtain ⟨_, o', e', hnf⟩ := fl3.2.2.1.mem hm
      rw [he3] at e'; cases e'
      exact hnf _ hd3
    have nL : a ≠ X.env.locals := fun z => nfr (List.mem_filterMap.mpr ⟨X.env, List.mem_cons_self, by rw [hf, z]⟩)
    have nst : a ∉ frs X.stack := by rw [hs]; exact nfr
    have Bn : B.get? a = none := fl3.2.1
    have n0 : X.s_0.heap.get? a = none := by
      cases q : X.s_0.heap.get? a with
      | none => rfl
      | some o =>
        obtain ⟨o', e1⟩ := J.base.there a o q (by rw [hex]; exact fun z => nomatch z)
        have := nb a o' e1 nst
        rw [Bn] at this; cases this
    have npn : ∀ p ∈ X.pn ++ pins, p.1 ≠ a := fun p hp z => by
      obtain ⟨e1, e2, e3, e4, e5⟩ := J.pin p hp
      have : p.1 ∉ frs X.stack := fun hm => by rw [z] at hm; exact nst hm
      have := nb p.1 p.2 e1 this
      rw [z, Bn] at this; cases this
    have S3 := Inv.hot J3 a
    refine wpAny_handleBy_cons (codeAny_handlers_test ?_) (by intro q; cases q)
    have LT : PySem.W.Looks (model X.prog X.w) h3 (typeOf (.ref a)) cls := fun A Q E s k q => wpAny_typeOf_ref (k _ _ he3) (by rw [hz3.1]; exact q)
    have LM := PySem.W.exm_one (M := model X.prog X.w) (J3.kIn) LT hb1
    have test : ∀ {Q : Value → Shared → Prop} {E : Value → Shared → Prop}, Q c { s' with heap := h3 } → wpAny (model X.prog X.w) (X.A.mark (some (.ref a))) (eval (.Name x np) X.env) Q E { s' with heap := h3 } := fun {Q E} q => by
      obtain ⟨hg, hdbg, hm | ⟨hm, hv, hnn⟩⟩ := hc
      · exact ld_glob (X := X.suite a (X.pn ++ pins)) S3 hg hm q hdbg
      · exact ld_blt (X := X.suite a (X.pn ++ pins)) S3 hg hm hv q hnn hdbg
    refine test (LM.here ?_)
    cases b with
    | true =>
      refine codeAny_handlers_suite ?_
      refine HandSPX.lands_againZ fl3 fun h4 fl4 up4 => ?_
      have J4 : Inv X pins σ' H' { s' with heap := h4 } := J.landed nb fl4.1 ((up.trans up3).trans up4) os ag
      obtain ⟨oe4, vs4, he4, hz4, hd4⟩ := fl4.there
      have T4 := Inv.track J4 he4 hd4 na nL npn n0
      have S4 := Inv.hot T4 a
      refine wpAny_mono ((hsu a (X.pn ++ pins)).run [] _ _ _ _ S4 (hyes rfl a oe4 vs4 na hz4 hd4)) (fun f s6 hsp => ?_) (fun _ _ z => False.elim z)
      cases f with
      | next =>
        obtain ⟨σ6, H6, S6, q6⟩ := hsp
        exact ⟨_, _, Inv.unhot S6 ok, q6⟩
      | brk =>
        obtain ⟨σ6, H6, S6, q6⟩ := hsp
        exact ⟨_, _, Inv.unhot S6 ok, q6⟩
      | cont =>
        obtain ⟨σ6, H6, S6, q6⟩ := hsp
        exact ⟨_, _, Inv.unhot S6 ok, q6⟩
      | ret u =>
        obtain ⟨v6, σ6, H6, S6, r6, q6⟩ := hsp
        exact ⟨_, _, _, Inv.unhot S6 ok, r6, q6⟩
    | false =>
      show wpAny _ X.A (handleBy (.ref a) X.env []) _ _ _
      refine wpAny_handleBy_nil ?_
      obtain ⟨k1, k2, k3, oe, vs, T, oT, ts', he, hz, hd, h1, hr⟩ := id fl3
      unfold PySem.passOn
      refine wpAny_bind (wpAny_field he hd h1 ?_)
      rw [if_neg (show ¬ ((Value.ref T == Value.none) = true) from by simp)]
      have fin : wpAny (model X.prog X.w) X.A (setFlight (.ref a) X.env.frame) (fun _ s4 => wpAny (model X.prog X.w) X.A (throw (.ref a) : Sem Flow) (SP X pins D) X.xe s4) X.xe { s' with heap := h3 } := by
        rw [hf]
        refine HandSPX.setFlight_upZ fl3 fun h4 hh4 up4 => wpAny_throw (tk _ _ ?_)
        exact ⟨a, B, sI, pins, σ', H', cls, d, rfl, J, nb, (up.trans up3).trans up4, .inr (.inr (by rw [hs]; exact hh4)), na, os, ag, hno rfl⟩
      first
        | exact wpAny_bind (wpAny_pure (wpAny_bind fin))
        | exact wpAny_bind fin
  · cases f with
    | next =>
      obtain ⟨σ', H', J', q⟩ := hsp
      exact wpAny_execs_nil ⟨σ', H', J'.ofTry ok, q⟩
    | brk =>
      obtain ⟨σ', H', J', q⟩ := hsp
      exact ⟨σ', H', J'.ofTry ok, q⟩
    | cont =>
      obtain ⟨σ', H', J', q⟩ := hsp
      exact ⟨σ', H', J'.ofTry ok, q⟩
    | ret u =>
      obtain ⟨v, σ', H', J', r, q⟩ := hsp
      exact ⟨v, σ', H', J'.ofTry ok, r, q⟩
end
end DL

/-! DL, part N1: except suites: the few rows that may stand there -/
namespace DL
open PySem PySem.Spec PyProof.Rows L2
mutual
def hotE : CE → Bool
  | .non => true
  | .bl _ => true
  | .int _ => true
  | .str _ => true
  | .var _ => true
  | .tup es => hotEs es
  | .no a => hotE a
  | .and a b => hotE a && hotE b
  | .or a b => hotE a && hotE b
  | .isx a _ _ => hotE a
  | .fld a _ _ _ => hotE a
  | _ => false
def hotEs : CEs → Bool
  | .nil => true
  | .cons e es => hotE e && hotEs es
end
mutual
def hotS : CS → Bool
  | .set _ e => hotE e
  | .ret e => hotE e
  | .retN => true
  | .pas => true
  | .ife c a b => hotE c && hotSs a && hotSs b
  | _ => false
def hotSs : CSs → Bool
  | .nil => true
  | .cons c cs => (hotS c || (match c with
    | .del _ => true
    | _ => false)) && hotSs cs
end
structure XB (Γ : Gx) (L : Lv) (X : Cx) : Prop where
  N : X.N = Γ.N
  sc : X.env.scope = Γ.sc
  nd : X.N.Nodup
  xf : XF Γ.xt L X
  bl : ∀ x, x ∈ Γ.bls → X.mg x = none
  fnA : ∀ x, X.fn x = true
section
variable {Γ : Gx} {L : Lv} {gl : List D} {F : Fns} {X : Cx} {e : Expr} {pos : Pos}
theorem XB.glo (O : XB Γ L X) {x : Str} (h : glB Γ.sc x = true) : Gl X x := by
  show X.env.scope.names.lookup x = some .globalImplicit
  rw [O.sc]; exact glB_ok h
theorem snd_varB (O : XB Γ L X) {i : Nat} {x : Str} (hN : Γ.N[i]? = some x) (hv : visB Γ.sc x = true) (hn : okN x = true) : Snd L gl F X (.var i) (.Name x pos) := by
  refine .of (PE.imp (pe_var (by rw [O.N]; exact hN) (by rw [O.sc]; exact visB_ok hv) (okN_1 hn) (okN_2 hn)) fun σ H Q ⟨s, h, Q0, le, rs, rh, q, hq⟩ => ?_) (fun _ => rfl) (fun _ _ _ q => nomatch q)
  simp only [wE] at q
  split at q
  · rename_i d hd
    obtain ⟨v, h1, h2⟩ := rs.2 i d hd
    exact ⟨v, h1, (hq _ _ q).here h2 rh⟩
  · exact q.elim
mutual
theorem sndH (O : XB Γ L X) : ∀ (c : CE), hotE c = true → ∀ (e : Expr), chk Γ c e = true → Snd L gl F X c e
  | .non, _, e, h => by
    simp only [chk] at h
    split at h
    · exact snd_non
    · cases h
  | .bl b, _, e, h => by
    simp only [chk] at h
    split at h
    · have e := beq_iff_eq.mp h; subst e; exact snd_bl
    · cases h
  | .int i, _, e, h => by
    simp only [chk] at h
    split at h
    · have e := beq_iff_eq.mp h; subst e; exact snd_int
    · cases h
  | .str x, _, e, h => by
    simp only [chk] at h
    split at h
    · have e := beq_iff_eq.mp h; subst e; exact snd_str
    · cases h
  | .var i, _, e, h => by
    simp only [chk] at h
    split at h
    · simp only [Bool.and_eq_true] at h
      exact snd_varB O (by simpa using h.1.1) h.1.2 h.2
    · cases h
  | .tup es, z, e, h => by
    simp only [chk] at h
    split at h
    · exact snd_tup (sndHs O es (by simpa only [hotE] using z) _ h)
    · cases h
  | .no a, z, e, h => by
    simp only [chk] at h
    split at h
    · exact snd_no (sndH O a (by simpa only [hotE] using z) _ h)
    · cases h
  | .and a b, z, e, h => by
    simp only [hotE, Bool.and_eq_true] at z
    simp only [chk] at h
    split at h
    · rename_i x y r pos
      rw [Bool.and_eq_true] at h
      obtain ⟨h1, h2⟩ := h
      split at h2
      · exact snd_and1 (sndH O a z.1 _ h1) (sndH O b z.2 _ h2)
      · exact snd_and2 (sndH O a z.1 _ h1) (sndH O b z.2 _ h2)
    · cases h
  | .or a b, z, e, h => by
    simp only [hotE, Bool.and_eq_true] at z
    simp only [chk] at h
    split at h
    · rename_i x y r pos
      rw [Bool.and_eq_true] at h
      obtain ⟨h1, h2⟩ := h
      split at h2
      · exact snd_or1 (sndH O a z.1 _ h1) (sndH O b z.2 _ h2)
      · exact snd_or2 (sndH O a z.1 _ h1) (sndH O b z.2 _ h2)
    · cases h
  | .isx a ts cs, z, e, h => by
    simp only [chk] at h
    split at h
    · rename_i f p x t pos
      simp only [Bool.and_eq_true, decide_eq_true_eq] at h
      obtain ⟨⟨⟨⟨⟨⟨⟨h1, h2⟩, h3⟩, h4⟩, h5⟩, h6⟩, h7⟩, h8⟩ := h
      obtain rfl := beq_iff_eq.mp h1
      exact snd_isx O.xf O.sc (O.glo h2) (O.bl _ (by simpa using h3)) h4 (sndH O a (by simpa only [hotE] using z) _ h5) h6 h7 h8
    · cases h
  | .fld a f cs xs, z, e, h => by
    simp only [chk] at h
    split at h
    · simp only [Bool.and_eq_true] at h
      obtain ⟨⟨⟨⟨h1, h2⟩, h3⟩, h4⟩, h5⟩ := h
      obtain rfl := beq_iff_eq.mp h1
      exact snd_fld O.xf (sndH O a (by simpa only [hotE] using z) _ h3) h2 h4 h5
    · cases h
  | .glb _, z, _, _ => by simp [hotE] at z
  | .bin _ _ _ _, z, _, _ => by simp [hotE] at z
  | .neg _, z, _, _ => by simp [hotE] at z
  | .cmp _ _ _, z, _, _ => by simp [hotE] at z
  | .chn _ _ _ _ _, z, _, _ => by simp [hotE] at z
  | .ife _ _ _, z, _, _ => by simp [hotE] at z
  | .lst _ _, z, _, _ => by simp [hotE] at z
  | .dnew, z, _, _ => by simp [hotE] at z
  | .idx _ _, z, _, _ => by simp [hotE] at z
  | .slc _ _ _ _, z, _, _ => by simp [hotE] at z
  | .call _ _, z, _, _ => by simp [hotE] at z
  | .blt _ _ _, z, _, _ => by simp [hotE] at z
  | .mtd _ _ _ _, z, _, _ => by simp [hotE] at z
  | .isi _ _, z, _, _ => by simp [hotE] at z
  | .comp _ _ _ _ _ _, z, _, _ => by simp [hotE] at z
  | .dis _ _ _, z, _, _ => by simp [hotE] at z
  | .rev _ _, z, _, _ => by simp [hotE] at z
  | .stp _ _ _, z, _, _ => by simp [hotE] at z
  | .mnd _ _, z, _, _ => by simp [hotE] at z
  | .lrg _ _ _, z, _, _ => by simp [hotE] at z
  | .lzp _ _ _, z, _, _ => by simp [hotE] at z
  | .tzp _ _, z, _, _ => by simp [hotE] at z
  | .fnv _, z, _, _ => by simp [hotE] at z
  | .cal _ _ _, z, _, _ => by simp [hotE] at z
  | .sset _ _, z, _, _ => by simp [hotE] at z
  | .lset _, z, _, _ => by simp [hotE] at z
  | .new _ _ _, z, _, _ => by simp [hotE] at z
  | .imt _ _ _ _, z, _, _ => by simp [hotE] at z
  | .frz _, z, _, _ => by simp [hotE] at z
  | .gc _, z, _, _ => by simp [hotE] at z
theorem sndHs (O : XB Γ L X) : ∀ (cs : CEs), hotEs cs = true → ∀ (es : List Expr), chks Γ cs es = true → PA X es (La L (wEs gl F cs))
  | .nil, _, es, h => by
    simp only [chks] at h
    split at h
    · exact la_nil
    · cases h
  | .cons c cs, z, es, h => by
    simp only [hotEs, Bool.and_eq_true] at z
    simp only [chks] at h
    split at h
    · simp only [Bool.and_eq_true] at h
      exact la_cons h.1.1 (sndH O c z.1 _ h.1.2).pe (sndHs O cs z.2 _ h.2)
    · cases h
end
end
end DL

/-! DL, part N: statements -/
namespace DL
open PySem PySem.Spec PyProof.Rows L2

/-! ### the check -/
def lineOf : Expr → Nat
  | .ListComp _ _ _ p => p.line
  | _ => 0
/-- a comprehension's value that is stored by the block itself -/
def swapB (sc : Scope) (x : Str) (p : Pos) : Expr → Bool
  | .ListComp _ _ scope vp => lclB sc x && (p.line == vp.line) && !(scope.names.any fun (n, k) => n == x && (k == .local || k == .cell))
  | _ => false
def isLC : Expr → Bool
  | .ListComp _ _ _ _ => true
  | _ => false
def notLcl (sc : Scope) : Expr → Bool
  | .Name x _ => !lclB sc x
  | _ => true
def noSwap (sc : Scope) (ts : List Expr) : Expr → Bool
  | .Tuple vs _ _ => !(ts.length == 2 || ts.length == 3) || vs.all (foldedForSure 8) || ts.any (notLcl sc)
  | _ => true
def nmB (N : List Str) (sc : Scope) (i : Nat) (x : Str) : Bool := N[i]? == some x && lclB sc x
/-- no row of the text -/
def CS.ghost : CS → Bool
  | .fz _ => true
  | .del _ => true
  | _ => false
mutual
def chkS (Γ : Gx) : CS → Stmt → Bool
  | .set i c => fun st => match st with
    | .Assign [.Name x p] v _ => Γ.N[i]? == some x && locB Γ.sc x && chk Γ c v && (notComp v || isLC v)
    | _ => false
  | .unp ts c => fun st => match st with
    | .Assign [.Tuple es _ _] v _ => chkTs Γ.N Γ.sc false ts es && chk Γ c v && noSwap Γ.sc es v
    | _ => false
  | .par2 i j a b => fun st => match st with
    | .Assign [.Tuple [.Name x px, .Name y py] _ _] (.Tuple [u, v] _ _) _ => nmB Γ.N Γ.sc i x && nmB Γ.N Γ.sc j y && i != j && py.line == px.line && notStar u && notStar v && !([u, v].all (foldedForSure 8)) && !([u, v].all (constantsAlone 8)) && chk Γ a u && chk Γ b v
    | _ => false
  | .par3 i j l a b c => fun st => match st with
    | .Assign [.Tuple [.Name x px, .Name y py, .Name z pz] _ _] (.Tuple [u, v, w] _ _) _ => (nmB Γ.N Γ.sc i x && nmB Γ.N Γ.sc j y && nmB Γ.N Γ.sc l z) && (i != j && i != l && j != l) && (py.line == px.line && pz.line == px.line) && (notStar u && notStar v && notStar w) && !([u, v, w].all (foldedForSure 8)) && !([u, v, w].all (constantsAlone 8)) && (chk Γ a u && chk Γ b v && chk Γ c w)
    | _ => false
  | .put o k e => fun st => match st with
    | .Assign [.Subscript x y _] v _ => chk Γ e v && chk Γ o x && chk Γ k y && notSlice y && notComp v
    | _ => false
  | .aug i op e => fun st => match st with
    | .AugAssign (.Name x _) o v _ => Γ.N[i]? == some x && locB Γ.sc x && o == op && (op == .Add || op == .Sub) && chk Γ e v
    | _ => false
  | .exp e => fun st => match st with
    | .Expr v _ => chk Γ e v && notComp v
    | _ => false
  | .ret e => fun st => match st with
    | .Return (some v) _ => chk Γ e v
    | _ => false
  | .retN => fun st => match st with
    | .Return none _ => true
    | _ => false
  | .ife c a b => fun st => match st with
    | .If t x y _ => chk Γ c t && chkSs Γ a x && chkSs Γ b y
    | _ => false
  | .for t it b => fun st => match st with
    | .For tg iter body [] _ => chkT Γ.N Γ.sc false t tg && chkI Γ it tg iter && notSet iter && chkSs Γ b body
    | _ => false
  | .whl c b => fun st => match st with
    | .While t body [] _ => chk Γ c t && chkSs Γ b body
    | _ => false
  | .pas => fun st => match st with
    | .Pass _ => true
    | _ => false
  | .nev => fun _ => true
  | .fst o f cs e => fun st => match st with
    | .Assign [.Attribute x g _] v _ => g == f && chk Γ o x && chk Γ e v && cs.all (fun c => hasF Γ.xt.fls c f) && notComp v
    | _ => false
  | .rai c fs es => fun st => match st with
    | .Raise (some (.Call (.Name x _) [] [] _)) none _ => false
    | .Raise (some (.Call (.Name x _) (y :: ys) [] _)) none _ => x == c && glB Γ.sc x && okN x && Γ.xt.xcs.contains (c, fs) && (match fs with
      | [] => chks Γ es (y :: ys)
      | _ => decide (fs.length ≤ 1000) && chks Γ es (y :: ys))
    | _ => false
  | .try b c cs i su => fun st => match st with
    | .Try body [.ExceptHandler (some (.Name x _)) nm (s0 :: suite) _] [] [] _ => x == c && glB Γ.sc x && okN x && Γ.xt.xts.contains x && cs.all (fun c => Γ.xt.xcs.any (fun r => r.1 == c)) && (match nm, i with
      | none, none => true
      | some n, some j => nmB Γ.N Γ.sc j n
      | _, _ => false) && chkSs Γ b body && hotSs su && chkSs Γ su (s0 :: suite)
    | _ => false
  | .fz _ => fun _ => false
  | .del _ => fun _ => false
def chkSs (Γ : Gx) : CSs → List Stmt → Bool
  | .nil => fun ss => match ss with
    | [] => true
    | _ => false
  | .cons c cs => fun ss => if CS.ghost c then chkSs Γ cs ss else match ss with
    | s :: r => chkS Γ c s && chkSs Γ cs r
    | _ => false
end

section
variable {Γ : Gx} {L : Lv} {k : Nat} {gl : List D} {F : Fns} {X : Cx} {a b c : CE} {e l r : Expr} {st : Stmt} {pos : Pos}
theorem noswap {v : Expr} {t : Option Expr} {n : Nat} {env : Env} (h : notComp v = true) : swapsWith v t n env = pure false := by
  cases v <;> first | rfl | exact absurd h Bool.false_ne_true
theorem noswap1 {v t : Expr} {n : Nat} {env : Env} (h : notComp v = true) : swapsWithSole [t] v n env = pure false := noswap h
theorem noswapT {v : Expr} {es : List Expr} {kt : Nat} {pt : Pos} {n : Nat} {env : Env} : swapsWithSole [.Tuple es kt pt] v n env = pure false := by
  cases v <;> rfl
theorem XO.loc (O : XO Γ L k gl F X) {i : Nat} {x : Str} (h1 : (Γ.N[i]? == some x) = true) (h2 : locB Γ.sc x = true) : X.N[i]? = some x ∧ Loc X.env.scope x := by
  refine ⟨by rw [O.N]; simpa using h1, ?_⟩
  rw [O.sc]
  unfold locB at h2
  split at h2
  · exact .inl (by assumption)
  · exact .inr (by assumption)
  · cases h2
theorem lclB_ok {sc : Scope} {x : Str} (h : lclB sc x = true) : sc.names.lookup x = some .local := by
  unfold lclB at h
  split at h
  · assumption
  · cases h
theorem set_conv {i : Nat} : ∀ E σ H, Ls L (fun rt ex => wS gl F rt ex (.set i c)) E σ H → tAsg (Lx L (wE gl F c)) (gName i) E σ H := by
  intro E σ H ⟨s, h, nx, rt, le, rs, rh, q, hn, hr⟩
  simp only [wS] at q
  exact ⟨s, h, _, le, rs, rh, q, fun d h1 q1 v H1 l1 r1 rh1 => hn _ _ q1 _ H1 l1 ((rs.le l1.le).set i r1) rh1⟩
theorem LcMono {g : TG} {tt : TT} {te : TE} {vs : List Nat} {w : DSt → DH → (DIt → DH → Prop) → XD → Prop} {σ : L2.St} {H : Hp} {Q Q' : VK} (q : tLc (Li L w) g tt te vs σ H Q) (mo : ∀ v H, Q v H → Q' v H) : tLc (Li L w) g tt te vs σ H Q' := by
  obtain ⟨s, h, R0, le, rs, rh, hw, hr⟩ := q
  refine ⟨s, h, R0, le, rs, rh, hw, fun J h' r Jh H' l rh' itr D nD => ?_⟩
  obtain ⟨W, w0, turn⟩ := hr J h' r Jh H' l rh' itr D nD
  exact ⟨W, w0, fun i m H x => (turn i m H x).imp_left (And.imp_right (mo _ _))⟩
theorem snd_set (O : SO Γ L k gl F X) {i : Nat} {x : Str} {p : Pos} {v : Expr} (h1 : (Γ.N[i]? == some x) = true) (h2 : locB Γ.sc x = true) (hv : chk Γ c v = true) (hc : (notComp v || isLC v) = true) : PS X (.Assign [.Name x p] v pos) (Ls L (fun rt ex => wS gl F rt ex (.set i c))) := by
  obtain ⟨hi, hx⟩ := O.loc h1 h2
  have S := snd c O.toXO v hv
  rw [Bool.or_eq_true] at hc
  rcases hc with hc | hc
  · exact PS.imp (ps_set O.nd hi hx S.pe (noswap hc) (.inl (O.fnA x))) set_conv
  · cases v with
    | ListComp elt gs scope vp =>
      by_cases hb : swapB Γ.sc x p (.ListComp elt gs scope vp) = true
      · -- the block stores it
        cases c with
        | comp z own t it test el =>
          simp only [chk] at hv
          split at hv
          · rename_i elt tg iter ifs scope pos e
            cases e
            simp only [Bool.and_eq_true] at hv
            obtain ⟨⟨⟨⟨⟨⟨g1, g2⟩, g3⟩, g4⟩, g5⟩, g6⟩, g7⟩ := hv
            simp only [swapB, Bool.and_eq_true, Bool.not_eq_true'] at hb
            obtain ⟨⟨b1, b2⟩, b3⟩ := hb
            have hl : X.env.scope.names.lookup x = some .local := by rw [O.sc]; exact lclB_ok b1
            have hsw := sw_true (elt := elt) (gs := [⟨tg, iter, ifs, 0⟩]) (scope := scope) (pos := vp) (py := p) (y := x) (l := pos.line) (env := X.env) (by rw [O.sc]; exact O.kd) hl b2 b3
            have htt : ∀ (s : Shared) (H : Hp) (C : Addr) (cl : List (Str × Addr)) (fp : List Addr), PTs (X.blk s H scope (compEnvC scope cl C X.env) fp) ifs (Ltt L (wT gl F test)) := fun s H C cl fp => by
              cases test with
              | none =>
                split at g6
                · exact ltt_none
                · simp [chkO] at g6
                · cases g6
              | some c =>
                split at g6
                · simp [chkO] at g6
                · simp only [chkO] at g6
                  exact ltt_some (snd c (O.toXO.blk (s := s) (H := H) (scope := scope) (C := C) (cl := cl) (fp := fp)) _ g6).pt
                · cases g6
            refine PS.imp (ps_fz (ps_setLc (g := Lg L t.slots (wTg t)) O.rm.c O.nd hi hl hsw (sndI it O.toXO _ _ g4) (blkOk_by (by rw [O.N, O.sc]; exact g1)) (fun s H C cl fp => ?_) htt (fun s H C cl fp => (snd el (O.toXO.blk (s := s) (H := H) (scope := scope) (C := C) (cl := cl) (fp := fp)) _ g7).pe) (nofold g5))) fun E σ H q => ?_
            · have O' := O.toXO.blk (s := s) (H := H) (scope := scope) (C := C) (cl := cl) (fp := fp)
              exact pg_ok (N := Γ.N) (sc := relS scope Γ.sc) (lc := true) (L := L) O'.N O'.sc O'.nd O'.K O'.rm.c (.inl rfl) t tg g3
            · have q2 := set_conv E σ H q
              have q3 := comp_conv (sub_of g2) σ H _ q2
              refine LcMono q3 fun v H' hv => ?_
              rcases hv with hv | ⟨a, u, rfl, e1, m, hv⟩
              · exact .inl hv
              · exact .inr ⟨a, u, e1, m, hv⟩
          · cases hv
        | _ => simp [chk, plainV] at hv
      · -- it does not
        refine PS.imp (ps_set O.nd hi hx S.pe ?_ (.inl (O.fnA x))) set_conv
        have hk : X.env.scope.kind = .function := by rw [O.sc]; exact O.kd
        unfold swapsWith
        simp only
        have e1 : (X.env.kindOf x == some .local) = lclB Γ.sc x := by
          show (X.env.scope.names.lookup x == some .local) = _
          rw [O.sc]
          unfold lclB
          cases Γ.sc.names.lookup x with
          | none => rfl
          | some z => cases z <;> rfl
        have hb' : (X.env.blockKind == .function && X.env.kindOf x == some .local && p.line == (Expr.ListComp elt gs scope vp).pos.line && !(scope.names.any fun (n, k) => n == x && (k == .local || k == .cell))) = false := by
          rw [e1]
          have : (lclB Γ.sc x && (p.line == vp.line) && !(scope.names.any fun (n, k) => n == x && (k == .local || k == .cell))) = false := by
            rw [← Bool.not_eq_true]
            exact hb
          cases q : (X.env.blockKind == ScopeKind.function) with
          | false => rfl
          | true =>
            rw [Bool.true_and]
            exact this
        show (pure _ : Sem Bool) = pure false
        rw [hb']
    | _ => exact absurd hc Bool.false_ne_true

theorem few_names {env : Env} {es : List Expr} {line : Nat} (h : es.any (notLcl env.scope) = true) : (es.filterMap fun | .Name id pos => if env.kindOf id == some .local && pos.line == line then some id else none | _ => none).length < es.length := by
  induction es with
  | nil => cases h
  | cons e es ih =>
    have le : (es.filterMap fun | .Name id pos => if env.kindOf id == some .local && pos.line == line then some id else none | _ => none).length ≤ es.length := List.length_filterMap_le _ _
    rw [List.any_cons, Bool.or_eq_true] at h
    rw [List.filterMap_cons]
    rcases h with h | h
    · cases e with
      | Name x p =>
        have hx : (env.kindOf x == some .local) = false := by
          show (env.scope.names.lookup x == some .local) = false
          simp only [notLcl, lclB, Bool.not_eq_true'] at h
          cases q : env.scope.names.lookup x with
          | none => rfl
          | some k =>
            rw [q] at h
            cases k <;> first | rfl | cases h
        have e1 : (if (env.kindOf x == some .local && p.line == line) = true then some x else none) = none := by rw [hx]; rfl
        simp only [e1]
        exact Nat.lt_succ_of_le le
      | _ => exact Nat.lt_succ_of_le le
    · have := ih h
      split
      · rw [List.length_cons]; omega
      · rw [List.length_cons, List.length_cons]; omega
theorem unp_hw {es vs : List Expr} {kt pt} {v : Expr} {env : Env} {sc : Scope} (hsc : env.scope = sc) (h : noSwap sc es v = true) : swappedStores [.Tuple es kt pt] v env = pure none := by
  subst hsc
  cases v with
  | Tuple vs k p =>
    simp only [noSwap, Bool.or_eq_true] at h
    unfold swappedStores
    simp only
    split
    · rfl
    · rename_i hn
      split
      · rfl
      · split
        · rfl
        · rename_i hm
          have hall : vs.all (foldedForSure 8) = true := by
            rcases h with (h | h) | h
            · exfalso
              apply hn
              rw [h]; rfl
            · exact h
            · exfalso
              apply hm
              have := few_names (line := (es.head?.map (·.pos.line)).getD 0) h
              rw [Bool.or_eq_true]
              left
              rw [bne_iff_ne]
              exact Nat.ne_of_lt this
          rw [hall]; rfl
  | _ => rfl
theorem set1_conv {ts : CTs} : ∀ E σ H, Ls L (fun rt ex => wS gl F rt ex (.unp ts c)) E σ H → tAsg (Lx L (wE gl F c)) (Lg L (CT.tup ts).slots (wTg (.tup ts))) E σ H := by
  intro E σ H ⟨s, h, nx, rt, le, rs, rh, q, hn, hr⟩
  simp only [wS] at q
  exact ⟨s, h, _, le, rs, rh, q, fun d h1 q1 v H1 l1 r1 rh1 => ⟨d, s, h1, nx, le.trans l1, r1, rs.le l1.le, rh1, q1, fun s' h' q2 σ' H' l2 _ rs2 rh2 => hn _ _ q2 _ H' (l1.trans l2) rs2 rh2⟩⟩
theorem snd_unp (O : SO Γ L k gl F X) {ts : CTs} {es : List Expr} {kt : Nat} {pt : Pos} {v : Expr} (h1 : chkTs Γ.N Γ.sc false ts es = true) (hv : chk Γ c v = true) (hs : noSwap Γ.sc es v = true) :
    PS X (.Assign [.Tuple es kt pt] v pos) (Ls L (fun rt ex => wS gl F rt ex (.unp ts c))) := by
  have S := snd c O.toXO v hv
  have G : PG X (.Tuple es kt pt) (Lg L (CT.tup ts).slots (wTg (.tup ts))) := pg_ok O.N O.sc O.nd O.K O.rm.c (.inr O.fnA) (.tup ts) _ (by simp only [chkT]; exact h1)
  exact PS.imp (ps_asg S.pe G noswapT (unp_hw (vs := []) O.sc hs)) set1_conv
theorem par_hw {x y : Str} {px py pt : Pos} {kt k2 : Nat} {pt2 : Pos} {u v : Expr} {env : Env} (hk : env.scope.kind = .function) (hx : env.scope.names.lookup x = some .local) (hy : env.scope.names.lookup y = some .local) (hne : x ≠ y) (hl : (py.line == px.line) = true)
    (hu : notStar u = true) (hv : notStar v = true) (hf : [u, v].all (foldedForSure 8) = false) (hc : [u, v].all (constantsAlone 8) = false) :
    swappedStores [.Tuple [.Name x px, .Name y py] kt pt] (.Tuple [u, v] k2 pt2) env = pure (some [x, y]) := by
  have kx : env.kindOf x = some .local := hx
  have ky : env.kindOf y = some .local := hy
  have hb : env.blockKind = .function := by unfold Env.blockKind; rw [hk]; rfl
  have hl' : py.line = px.line := by simpa using hl
  unfold swappedStores
  simp only [hb, kx, ky, hf, hc, List.any_cons, List.any_nil]
  split
  · rename_i z
    exact absurd z Bool.false_ne_true
  split
  · exact absurd hu Bool.false_ne_true
  split
  · exact absurd hv Bool.false_ne_true
  simp [Expr.pos, hl', List.eraseDups_cons, hne, Ne.symm hne, kx, ky]
theorem par3_hw {x y z : Str} {px py pz pt : Pos} {kt k2 : Nat} {pt2 : Pos} {u v w : Expr} {env : Env} (hk : env.scope.kind = .function) (hx : env.scope.names.lookup x = some .local) (hy : env.scope.names.lookup y = some .local) (hz : env.scope.names.lookup z = some .local)
    (h1 : x ≠ y) (h2 : x ≠ z) (h3 : y ≠ z) (l1 : (py.line == px.line) = true) (l2 : (pz.line == px.line) = true)
    (hu : notStar u = true) (hv : notStar v = true) (hw : notStar w = true) (hf : [u, v, w].all (foldedForSure 8) = false) (hc : [u, v, w].all (constantsAlone 8) = false) :
    swappedStores [.Tuple [.Name x px, .Name y py, .Name z pz] kt pt] (.Tuple [u, v, w] k2 pt2) env = pure (some [x, y, z]) := by
  have kx : env.kindOf x = some .local := hx
  have ky : env.kindOf y = some .local := hy
  have kz : env.kindOf z = some .local := hz
  have hb : env.blockKind = .function := by unfold Env.blockKind; rw [hk]; rfl
  have l1' : py.line = px.line := by simpa using l1
  have l2' : pz.line = px.line := by simpa using l2
  unfold swappedStores
  simp only [hb, kx, ky, kz, hf, hc, List.any_cons, List.any_nil]
  split
  · rename_i z
    exact absurd z Bool.false_ne_true
  split
  · exact absurd hu Bool.false_ne_true
  split
  · exact absurd hv Bool.false_ne_true
  split
  · exact absurd hw Bool.false_ne_true
  simp [Expr.pos, l1', l2', List.eraseDups_cons, h1, h2, h3, Ne.symm h1, Ne.symm h2, Ne.symm h3, kx, ky, kz]
theorem nmB_ok {i : Nat} {x : Str} (O : SO Γ L k gl F X) (h : nmB Γ.N Γ.sc i x = true) : X.N[i]? = some x ∧ X.env.scope.names.lookup x = some .local := by
  rw [nmB, Bool.and_eq_true] at h
  exact ⟨by rw [O.N]; simpa using h.1, by rw [O.sc]; exact lclB_ok h.2⟩
theorem snd_par2 (O : SO Γ L k gl F X) {i j : Nat} {x y : Str} {u v : Expr} {px py pt pt2 : Pos} {kt k2 : Nat} (h1 : nmB Γ.N Γ.sc i x = true) (h2 : nmB Γ.N Γ.sc j y = true) (h3 : (i != j) = true) (h4 : (py.line == px.line) = true) (h5 : notStar u = true) (h6 : notStar v = true)
    (h7 : (!([u, v].all (foldedForSure 8))) = true) (h8 : (!([u, v].all (constantsAlone 8))) = true) (h9 : chk Γ a u = true) (h10 : chk Γ b v = true) :
    PS X (.Assign [.Tuple [.Name x px, .Name y py] kt pt] (.Tuple [u, v] k2 pt2) pos) (Ls L (fun rt ex => wS gl F rt ex (.par2 i j a b))) := by
  obtain ⟨hi, hx⟩ := nmB_ok O h1
  obtain ⟨hj, hy⟩ := nmB_ok O h2
  have hij : i ≠ j := by simpa using h3
  have hne : x ≠ y := fun z => by
    subst z
    exact hij ((List.getElem?_inj (List.getElem?_eq_some_iff.mp hi).1 O.nd).mp (hi.trans hj.symm))
  have S1 := snd a O.toXO u h9
  have S2 := snd b O.toXO v h10
  have P : PA X [u, v] (La L (wEs gl F (.cons a (.cons b .nil)))) := snds _ O.toXO [u, v] (by simp [chks, h5, h6, h9, h10])
  refine PS.imp (ps_par O.rm.c O.nd hi hj hij hx hy P (par_hw (by rw [O.sc]; exact O.kd) hx hy hne h4 h5 h6 (by rw [Bool.not_eq_true'] at h7; exact h7) (by rw [Bool.not_eq_true'] at h8; exact h8))) ?_
  intro E σ H ⟨s, h, nx, rt, le, rs, rh, q, hn, hr⟩
  simp only [wS] at q
  refine ⟨s, h, fun ds h' => match ds with | [d, e] => nx ((s.set i (some d)).set j (some e)) h' | _ => False, le, rs, rh, ?_, fun ds h1 q1 vs H1 l1 r1 rh1 => ?_⟩
  · simp only [wEs]
    exact q
  · dsimp only at q1
    split at q1
    · cases r1 with
      | cons r1 r2 =>
        cases r2 with
        | cons r2 r3 =>
          cases r3
          exact ⟨_, _, rfl, hn _ _ q1 _ H1 l1 (((rs.le l1.le).set i r1).set j r2) rh1⟩
    · exact q1.elim
theorem snd_par3 (O : SO Γ L k gl F X) {i j l : Nat} {x y z : Str} {u v w : Expr} {px py pz pt pt2 : Pos} {kt k2 : Nat} (h1 : nmB Γ.N Γ.sc i x = true) (h2 : nmB Γ.N Γ.sc j y = true) (h2' : nmB Γ.N Γ.sc l z = true) (h3 : (i != j) = true) (h3' : (i != l) = true) (h3'' : (j != l) = true)
    (h4 : (py.line == px.line) = true) (h4' : (pz.line == px.line) = true) (h5 : notStar u = true) (h6 : notStar v = true) (h6' : notStar w = true)
    (h7 : (!([u, v, w].all (foldedForSure 8))) = true) (h8 : (!([u, v, w].all (constantsAlone 8))) = true) (h9 : chk Γ a u = true) (h10 : chk Γ b v = true) (h11 : chk Γ c w = true) :
    PS X (.Assign [.Tuple [.Name x px, .Name y py, .Name z pz] kt pt] (.Tuple [u, v, w] k2 pt2) pos) (Ls L (fun rt ex => wS gl F rt ex (.par3 i j l a b c))) := by
  obtain ⟨hi, hx⟩ := nmB_ok O h1
  obtain ⟨hj, hy⟩ := nmB_ok O h2
  obtain ⟨hl, hz⟩ := nmB_ok O h2'
  have hij : i ≠ j := by simpa using h3
  have hil : i ≠ l := by simpa using h3'
  have hjl : j ≠ l := by simpa using h3''
  have nd : ∀ {p q : Nat} {x y : Str}, X.N[p]? = some x → X.N[q]? = some y → p ≠ q → x ≠ y := fun hp hq n z => by
    subst z
    exact n ((List.getElem?_inj (List.getElem?_eq_some_iff.mp hp).1 O.nd).mp (hp.trans hq.symm))
  have P : PA X [u, v, w] (La L (wEs gl F (.cons a (.cons b (.cons c .nil))))) := snds _ O.toXO [u, v, w] (by simp [chks, h5, h6, h6', h9, h10, h11])
  refine PS.imp (ps_par3 O.rm.c O.nd hi hj hl hij hil hjl hx hy hz P (par3_hw (by rw [O.sc]; exact O.kd) hx hy hz (nd hi hj hij) (nd hi hl hil) (nd hj hl hjl) h4 h4' h5 h6 h6' (by rw [Bool.not_eq_true'] at h7; exact h7) (by rw [Bool.not_eq_true'] at h8; exact h8))) ?_
  intro E σ H ⟨s, h, nx, rt, le, rs, rh, q, hn, hr⟩
  simp only [wS] at q
  refine ⟨s, h, fun ds h' => match ds with | [d, e, f] => nx (((s.set i (some d)).set j (some e)).set l (some f)) h' | _ => False, le, rs, rh, ?_, fun ds h1 q1 vs H1 l1 r1 rh1 => ?_⟩
  · simp only [wEs]
    exact q
  · dsimp only at q1
    split at q1
    · cases r1 with
      | cons r1 r2 =>
        cases r2 with
        | cons r2 r3 =>
          cases r3 with
          | cons r3 r4 =>
            cases r4
            exact ⟨_, _, _, rfl, hn _ _ q1 _ H1 l1 ((((rs.le l1.le).set i r1).set j r2).set l r3) rh1⟩
    · exact q1.elim
theorem snd_put (O : SO Γ L k gl F X) {x y v : Expr} {p : Pos} (h1 : chk Γ c v = true) (h2 : chk Γ a x = true) (h3 : chk Γ b y = true) (h4 : notSlice y = true) (h5 : notComp v = true) : PS X (.Assign [.Subscript x y p] v pos) (Ls L (fun rt ex => wS gl F rt ex (.put a b c))) := by
  have S := snd c O.toXO v h1
  have S1 := snd a O.toXO x h2
  have S2 := snd b O.toXO y h3
  have hu : X.A.units + 1 < cLine := by have := O.rm.u; omega
  refine PS.imp (ps_asg S.pe (pg_sub S1.pe S2.pe (set_ok (C := L.C) hu) (fun w => ?_)) (noswap1 h5)) ?_
  · cases y <;> first | rfl | exact absurd h4 Bool.false_ne_true
  · intro E σ H ⟨s, h, nx, rt, le, rs, rh, q, hn, hr⟩
    simp only [wS] at q
    refine ⟨s, h, _, le, rs, rh, q, fun d h1 q1 v1 H1 l1 r1 rh1 => ⟨s, h1, _, le.trans l1, rs.le l1.le, rh1, q1, fun e h2 q2 v2 H2 l2 r2 rh2 => ⟨s, h2, _, (le.trans l1).trans l2, (rs.le l1.le).le l2.le, rh2, q2, fun f h3 q3 v3 H3 l3 r3 rh3 => ?_⟩⟩⟩
    rw [O.K]
    exact ⟨e, f, d, h3, _, r2.le l3.le, r3, (r1.le l2.le).le l3.le, rh3, q3, fun h4 q4 H4 l4 rh4 => hn _ _ q4 _ H4 (((l1.trans l2).trans l3).trans l4) ((((rs.le l1.le).le l2.le).le l3.le).le l4.le) rh4⟩
theorem snd_aug (O : SO Γ L k gl F X) {i : Nat} {x : Str} {p : Pos} {op : Operator} {v : Expr} (h1 : (Γ.N[i]? == some x) = true) (h2 : locB Γ.sc x = true) (h3 : (op == .Add || op == .Sub) = true) (h4 : chk Γ c v = true) : PS X (.AugAssign (.Name x p) op v pos) (Ls L (fun rt ex => wS gl F rt ex (.aug i op c))) := by
  obtain ⟨hi, hx⟩ := O.loc h1 h2
  have S := snd c O.toXO v h4
  rw [Bool.or_eq_true] at h3
  rcases h3 with h3 | h3 <;> have e := beq_iff_eq.mp h3 <;> subst e
  · refine PS.imp (ps_aug O.nd hi hx S.pe ip_add (.inl (O.fnA x))) fun E σ H ⟨s, h, nx, rt, le, rs, rh, q, hn, hr⟩ => ?_
    simp only [wS] at q
    split at q
    · rename_i d hd
      obtain ⟨x, ex, rx⟩ := rs.2 _ _ hd
      refine ⟨x, ex, s, h, _, le, rs, rh, q, fun e h1 q1 v H1 l1 r1 rh1 => ?_⟩
      unfold wI2 at q1
      split at q1
      · cases rx; cases r1
        exact ⟨_, _, rfl, rfl, hn _ _ q1.2 _ H1 l1 ((rs.le l1.le).set i (.int _)) rh1⟩
      · exact q1.elim
    · exact q.elim
  · refine PS.imp (ps_aug O.nd hi hx S.pe ip_sub (.inl (O.fnA x))) fun E σ H ⟨s, h, nx, rt, le, rs, rh, q, hn, hr⟩ => ?_
    simp only [wS] at q
    split at q
    · rename_i d hd
      obtain ⟨x, ex, rx⟩ := rs.2 _ _ hd
      refine ⟨x, ex, s, h, _, le, rs, rh, q, fun e h1 q1 v H1 l1 r1 rh1 => ?_⟩
      unfold wSub wI2 at q1
      split at q1
      · cases rx; cases r1
        exact ⟨_, _, rfl, rfl, hn _ _ q1.2 _ H1 l1 ((rs.le l1.le).set i (.int _)) rh1⟩
      · exact q1.elim
    · exact q.elim
theorem Ls.step {w : QD → SXD → DSt → DH → (DSt → DH → Prop) → Prop} {E : Ends} {H H1 : Hp} {σ1 : L2.St} {h h1 : DH} {s1 : DSt} {nx : DSt → DH → Prop} {rt : QD} (le : Ste L.H0 L.h0 H h) (l : Ste H h H1 h1) (rs : RS L.K H1 σ1 s1) (rh : RH L.K L.C H1 h1) (q : w rt L.EX s1 h1 nx)
    (hn : ∀ s' h', nx s' h' → ∀ σ' H', Ste H h H' h' → RS L.K H' σ' s' → RH L.K L.C H' h' → E.nx σ' H') (hr : ∀ d h', rt d h' → LQ L.K L.C H h E.rt d h') : Ls L w E σ1 H1 :=
  ⟨s1, h1, nx, rt, le.trans l, rs, rh, q, fun s' h' n σ' H' l' => hn s' h' n σ' H' (l.trans l'), fun d h' r => (hr d h' r).le l⟩
end

theorem pss_fz {X : Cx} {st : List Stmt} {t : TS} (h : PSs X st t) : PSs X st (fun E σ H => t E σ H ∨ ∃ a u, H a = some u ∧ Mut (some u) ∧ ∀ od, t E σ (upd H a (.frz od u))) := by
  refine ⟨fun pins s0 σ H E I q => ?_⟩
  rcases q with q | ⟨a, u, e1, m, q⟩
  · exact h.run pins s0 σ H E I q
  · obtain ⟨od, I2⟩ := I.lock e1 m
    exact h.run pins s0 σ _ E I2 (q od)
theorem RS.forget {K : PySem.W.Frag} {H : Hp} {σ : L2.St} {s : DSt} (r : RS K H σ s) : ∀ vs, RS K H σ (wipeD s vs)
  | [] => r
  | v :: vs => by
    have q := RS.forget r vs
    refine ⟨by unfold wipeD; rw [List.length_set]; exact q.1, fun j e z => ?_⟩
    unfold wipeD at z
    by_cases y : v = j
    · subst y
      by_cases hl : v < (wipeD s vs).length
      · rw [List.getElem?_set_self hl] at z; cases z
      · rw [List.getElem?_eq_none (by rw [List.length_set]; omega)] at z; cases z
    · rw [List.getElem?_set_ne y] at z
      exact q.2 j e z
/-! ### except suites -/
section
variable {Γ : Gx} {L : Lv} {gl : List D} {F : Fns} {X : Cx}
mutual
theorem sndHS (O : XB Γ L X) : ∀ (c : CS), hotS c = true → ∀ (st : Stmt), chkS Γ c st = true → PS X st (Ls L (fun rt ex => wS gl F rt ex c))
  | .set i c, z, st, h => by
    simp only [chkS] at h
    split at h
    · rename_i x p v pos
      simp only [Bool.and_eq_true] at h
      obtain ⟨⟨⟨h1, h2⟩, h3⟩, h4⟩ := h
      have hi : X.N[i]? = some x := by rw [O.N]; exact beq_iff_eq.mp h1
      have hx : Loc X.env.scope x := by
        rw [O.sc]
        unfold locB at h2
        split at h2
        · exact .inl (by assumption)
        · exact .inr (by assumption)
        · cases h2
      have hc : notComp v = true := by
        rw [Bool.or_eq_true] at h4
        rcases h4 with h4 | h4
        · exact h4
        · cases v with
          | ListComp elt gs scope vp => cases c <;> first | (exfalso; simp [chk, plainV] at h3; done) | (exfalso; simp [hotS, hotE] at z; done)
          | _ => exact absurd h4 Bool.false_ne_true
      exact PS.imp (ps_set O.nd hi hx (sndH (gl := gl) (F := F) O c (by simpa only [hotS] using z) _ h3).pe (noswap hc) (.inl (O.fnA _))) set_conv
    · cases h
  | .ret e, z, st, h => by
    simp only [chkS] at h
    split at h
    · refine PS.imp (ps_ret (sndH (gl := gl) (F := F) O e (by simpa only [hotS] using z) _ h).pe) fun E σ H ⟨s, h, nx, rt, le, rs, rh, q, hn, hr⟩ => ?_
      simp only [wS] at q
      exact ⟨s, h, _, le, rs, rh, q, hr⟩
    · cases h
  | .retN, z, st, h => by
    simp only [chkS] at h
    split at h
    · refine PS.imp ps_retN fun E σ H ⟨s, h, nx, rt, le, rs, rh, q, hn, hr⟩ => ?_
      simp only [wS] at q
      exact (hr _ _ q).here .non rh
    · cases h
  | .pas, z, st, h => by
    simp only [chkS] at h
    split at h
    · refine PS.imp ps_pass fun E σ H ⟨s, h, nx, rt, le, rs, rh, q, hn, hr⟩ => ?_
      simp only [wS] at q
      exact hn _ _ q _ H .refl rs rh
    · cases h
  | .ife c a b, z, st, h => by
    simp only [hotS, Bool.and_eq_true] at z
    simp only [chkS] at h
    split at h
    · simp only [Bool.and_eq_true] at h
      refine PS.imp (ps_if (sndH (gl := gl) (F := F) O c z.1.1 _ h.1.1).pt (sndHSs O a z.1.2 _ h.1.2) (sndHSs O b z.2 _ h.2)) fun E σ H ⟨s, h, nx, rt, le, rs, rh, q, hn, hr⟩ => ?_
      simp only [wS] at q
      refine ⟨s, h, _, le, rs, rh, q, fun k h1 q1 H1 l1 rh1 => ?_⟩
      cases k with
      | true => exact Ls.step (w := fun rt ex => wSs gl F rt ex a) le l1 (rs.le l1.le) rh1 q1 hn hr
      | false => exact Ls.step (w := fun rt ex => wSs gl F rt ex b) le l1 (rs.le l1.le) rh1 q1 hn hr
    · cases h
  | .unp _ _, z, _, _ => by simp [hotS] at z
  | .par2 _ _ _ _, z, _, _ => by simp [hotS] at z
  | .par3 _ _ _ _ _ _, z, _, _ => by simp [hotS] at z
  | .put _ _ _, z, _, _ => by simp [hotS] at z
  | .aug _ _ _, z, _, _ => by simp [hotS] at z
  | .exp _, z, _, _ => by simp [hotS] at z
  | .for _ _ _, z, _, _ => by simp [hotS] at z
  | .whl _ _, z, _, _ => by simp [hotS] at z
  | .nev, z, _, _ => by simp [hotS] at z
  | .fst _ _ _ _, z, _, _ => by simp [hotS] at z
  | .rai _ _ _, z, _, _ => by simp [hotS] at z
  | .try _ _ _ _ _, z, _, _ => by simp [hotS] at z
  | .fz _, z, _, _ => by simp [hotS] at z
  | .del _, z, _, _ => by simp [hotS] at z
theorem sndHSs (O : XB Γ L X) : ∀ (cs : CSs), hotSs cs = true → ∀ (st : List Stmt), chkSs Γ cs st = true → PSs X st (Ls L (fun rt ex => wSs gl F rt ex cs))
  | .nil, _, st, h => by
    simp only [chkSs] at h
    split at h
    · refine PSs.imp pss_nil fun E σ H ⟨s, h, nx, rt, le, rs, rh, q, hn, hr⟩ => ?_
      simp only [wSs] at q
      exact hn _ _ q _ H .refl rs rh
    · cases h
  | .cons c cs, z, st, h => by
    simp only [hotSs, Bool.and_eq_true, Bool.or_eq_true] at z
    simp only [chkSs] at h
    split at h
    · rename_i hg
      have S := sndHSs O cs z.2 st h
      cases c with
      | del is =>
        refine PSs.imp S fun E σ H ⟨s, h, nx, rt, le, rs, rh, q, hn, hr⟩ => ?_
        simp only [wSs, wS] at q
        exact ⟨wipeD s is, h, nx, rt, le, rs.forget is, rh, q, hn, hr⟩
      | fz i => simp [hotS] at z
      | _ => exact absurd hg Bool.false_ne_true
    split at h
    · rename_i hg _ _ _
      simp only [Bool.and_eq_true] at h
      have hc : hotS c = true := by
        rcases z.1 with z1 | z1
        · exact z1
        · cases c <;> first | exact absurd z1 Bool.false_ne_true | exact absurd rfl hg
      refine PSs.imp (pss_cons (sndHS O c hc _ h.1) (sndHSs O cs z.2 _ h.2)) fun E σ H ⟨s, h, nx, rt, le, rs, rh, q, hn, hr⟩ => ?_
      simp only [wSs] at q
      exact ⟨s, h, _, rt, le, rs, rh, q, fun s1 h1 q1 σ1 H1 l1 rs1 rh1 => Ls.step (w := fun rt ex => wSs gl F rt ex cs) le l1 rs1 rh1 q1 hn hr, hr⟩
    · cases h
end
end
/-! ### try -/
section
variable {Γ : Gx} {L : Lv} {k : Nat} {gl : List D} {F : Fns} {X : Cx} {b su : CSs} {c : Str} {cs : List Str}
def tbTry (L : Lv) (w : QD → SXD → DSt → DH → (DSt → DH → Prop) → Prop) : WX → TS := fun W D σ H => ∃ (H0 : Hp) (h0 : DH) (EX : SXD), (∀ cls d σ' H', Wx ⟨L.K, L.C, H0, h0, EX⟩ cls d σ' H' → W cls d σ' H') ∧ Ls ⟨L.K, L.C, H0, h0, EX⟩ w D σ H
theorem try_conv {u : Value} {i : Option Nat} {D : Ends} {σ : L2.St} {H : Hp} (O : XF Γ.xt L X) (tg : TgF X.mg c u) (ht : c ∈ Γ.xt.xts) (hcs : cs.all (fun c => Γ.xt.xcs.any (fun r => r.1 == c)) = true) (q : Ls L (fun rt ex => wS gl F rt ex (.try b c cs i su)) D σ H) :
    tbTry L (fun rt ex => wSs gl F rt ex b) (wTk X.K u i (Ls L.nx (fun rt ex => wSs gl F rt ex su)) (Wx L) D) D σ H := by
  obtain ⟨s, h, nx, rt, le, rs, rh, q, hn, hr⟩ := q
  simp only [wS] at q
  refine ⟨H, h, _, ?_, s, h, nx, rt, .refl, rs, rh, q, hn, hr⟩
  rintro cls d σ' H' ⟨x, s', h', st, rx, rs', rh', hin, q'⟩
  obtain ⟨⟨Ca, cl, rfl⟩, rd⟩ := rx
  have m := List.all_eq_true.mp hcs x.cls (by simpa using hin)
  obtain ⟨r, m1, m2⟩ := List.any_eq_true.mp m
  obtain ⟨c', fs'⟩ := r
  obtain rfl : c' = x.cls := by simpa using m2
  obtain ⟨Ca', T⟩ := O.xr _ _ m1
  have c1 := cl
  rw [← O.K] at c1
  have := c1.eq T.cl
  subst this
  obtain ⟨u', tg', _, k2⟩ := T.tg c ht
  have := tg'.eq tg
  subst this
  refine ⟨_, k2, fun e a oe vs na z dt => ?_, fun e => ?_⟩
  · rw [if_pos e] at q'
    obtain ⟨gs, ed, rp⟩ : ∃ gs, ExD H' d gs ∧ RPs L.K H' gs x.fs := by
      cases d with
      | none =>
        have rd : x.fs = [] := rd
        rw [rd]
        exact ⟨[], rfl, .nil⟩
      | some dx => exact rd
    have sd : Ste H' h' (upd H' a (.frz oe exU)) h' := Ste.side na
    have rx : RD L.K (upd H' a (.frz oe exU)) (.ref a) (.ex x.cls x.fs) := .ex cl upd_same ⟨z.1, z.2, vs, dt⟩ (ed.le sd.le) (RDp.of (rp.le sd.le))
    cases i with
    | none => exact ⟨s', h', nx, rt, (le.trans st).trans sd, rs'.le sd.le, rh'.side na, q', fun s2 h2 n σ2 H2 l2 rs2 rh2 => hn _ _ n _ _ ((st.trans sd).trans l2) rs2 rh2, fun d h2 r => (hr d h2 r).le (st.trans sd)⟩
    | some j => exact ⟨_, h', _, rt, (le.trans st).trans sd, (rs'.le sd.le).set j rx, rh'.side na, q', fun s2 h2 n σ2 H2 l2 rs2 rh2 => hn _ _ n _ _ ((st.trans sd).trans l2) (rs2.wipe [j]) rh2, fun d h2 r => (hr d h2 r).le (st.trans sd)⟩
  · rw [if_neg (by rw [e]; exact Bool.false_ne_true)] at q'
    exact ⟨x, s', h', le.trans st, ⟨⟨Ca, cl, rfl⟩, rd⟩, rs', rh', q'⟩
theorem SO.tr (O : SO Γ L k gl F X) {H0 : Hp} {h0 : DH} {EX : SXD} {W : WX} {pn : List (Addr × Obj)} {xe : Value → Shared → Prop} (tk : Takes (X.tr pn xe) W) (po : PassesOwn (model X.prog X.w) X.A X.env xe) (i : ∀ cls d σ' H', Wx ⟨L.K, L.C, H0, h0, EX⟩ cls d σ' H' → W cls d σ' H') :
    SO Γ ⟨L.K, L.C, H0, h0, EX⟩ k gl F (X.tr pn xe) :=
  { N := O.N, sc := O.sc, nd := O.nd, K := O.K, rm := ⟨O.rm.u, O.rm.g, O.rm.c, O.rm.sm⟩, room := O.room, tab := O.tab, tk := tk.imp i, hs := O.hs, hf := O.hf, po := po, fnA := O.fnA, kd := O.kd, ex := O.ex }
theorem SO.xb (O : SO Γ L k gl F X) (a : Addr) (pn : List (Addr × Obj)) : XB Γ L.nx (X.suite a pn) := ⟨O.N, O.sc, O.nd, ⟨O.K, O.xf.xr, O.xf.fl, O.xf.tg, O.xf.ic⟩, O.tab.bl, O.fnA⟩
theorem names_of (O : SO Γ L k gl F X) {u : Value} (tg : TgF X.mg c u) (hv : glB Γ.sc c = true) (hn : okN c = true) : Names X c u := by
  refine ⟨O.glo hv, okN_1 hn, ?_⟩
  rcases tg with ⟨T', hm, rfl⟩ | ⟨rfl, hm, rfl⟩
  · exact .inl hm
  · exact .inr ⟨hm, PyProof.Rows.Boot.«ValueError», by decide⟩
end
section
variable {k : Nat} {gl : List D} {F : Fns}
mutual
theorem sndS : ∀ (c : CS) {Γ : Gx} {L : Lv} {X : Cx} (_ : SO Γ L k gl F X) (st : Stmt), chkS Γ c st = true → PS X st (Ls L (fun rt ex => wS gl F rt ex c))
  | .set i c, Γ, L, X, O, st, h => by
    simp only [chkS] at h
    split at h
    · simp only [Bool.and_eq_true] at h
      exact snd_set O h.1.1.1 h.1.1.2 h.1.2 h.2
    · cases h
  | .unp ts c, Γ, L, X, O, st, h => by
    simp only [chkS] at h
    split at h
    · simp only [Bool.and_eq_true] at h
      exact snd_unp O h.1.1 h.1.2 h.2
    · cases h
  | .par2 i j a b, Γ, L, X, O, st, h => by
    simp only [chkS] at h
    split at h
    · simp only [Bool.and_eq_true] at h
      obtain ⟨⟨⟨⟨⟨⟨⟨⟨⟨h1, h2⟩, h3⟩, h4⟩, h5⟩, h6⟩, h7⟩, h8⟩, h9⟩, h10⟩ := h
      exact snd_par2 O h1 h2 h3 h4 h5 h6 h7 h8 h9 h10
    · cases h
  | .par3 i j l a b c, Γ, L, X, O, st, h => by
    simp only [chkS] at h
    split at h
    · simp only [Bool.and_eq_true] at h
      obtain ⟨⟨⟨⟨⟨⟨⟨⟨h1, h2⟩, h3⟩, ⟨h4, h5⟩, h6⟩, h7, h8⟩, ⟨h9, h10⟩, h11⟩, h12⟩, h13⟩, ⟨h14, h15⟩, h16⟩ := h
      exact snd_par3 O h1 h2 h3 h4 h5 h6 h7 h8 h9 h10 h11 h12 h13 h14 h15 h16
    · cases h
  | .put o i e, Γ, L, X, O, st, h => by
    simp only [chkS] at h
    split at h
    · simp only [Bool.and_eq_true] at h
      exact snd_put O h.1.1.1.1 h.1.1.1.2 h.1.1.2 h.1.2 h.2
    · cases h
  | .aug i op e, Γ, L, X, O, st, h => by
    simp only [chkS] at h
    split at h
    · simp only [Bool.and_eq_true] at h
      obtain ⟨⟨⟨⟨h1, h2⟩, h3⟩, h4⟩, h5⟩ := h
      have e := beq_iff_eq.mp h3
      subst e
      exact snd_aug O h1 h2 h4 h5
    · cases h
  | .exp e, Γ, L, X, O, st, h => by
    simp only [chkS] at h
    split at h
    · simp only [Bool.and_eq_true] at h
      refine PS.imp (ps_expr (snd e O.toXO _ h.1).pe (noswap h.2)) fun E σ H ⟨s, h, nx, rt, le, rs, rh, q, hn, hr⟩ => ?_
      simp only [wS] at q
      exact ⟨s, h, _, le, rs, rh, q, fun d h1 q1 v H1 l1 r1 rh1 => hn _ _ q1 _ H1 l1 (rs.le l1.le) rh1⟩
    · cases h
  | .ret e, Γ, L, X, O, st, h => by
    simp only [chkS] at h
    split at h
    · refine PS.imp (ps_ret (snd e O.toXO _ h).pe) fun E σ H ⟨s, h, nx, rt, le, rs, rh, q, hn, hr⟩ => ?_
      simp only [wS] at q
      exact ⟨s, h, _, le, rs, rh, q, hr⟩
    · cases h
  | .retN, Γ, L, X, O, st, h => by
    simp only [chkS] at h
    split at h
    · refine PS.imp ps_retN fun E σ H ⟨s, h, nx, rt, le, rs, rh, q, hn, hr⟩ => ?_
      simp only [wS] at q
      exact (hr _ _ q).here .non rh
    · cases h
  | .ife c a b, Γ, L, X, O, st, h => by
    simp only [chkS] at h
    split at h
    · simp only [Bool.and_eq_true] at h
      refine PS.imp (ps_if (snd c O.toXO _ h.1.1).pt (sndSs a O _ h.1.2) (sndSs b O _ h.2)) fun E σ H ⟨s, h, nx, rt, le, rs, rh, q, hn, hr⟩ => ?_
      simp only [wS] at q
      refine ⟨s, h, _, le, rs, rh, q, fun k h1 q1 H1 l1 rh1 => ?_⟩
      cases k with
      | true => exact Ls.step (w := fun rt ex => wSs gl F rt ex a) le l1 (rs.le l1.le) rh1 q1 hn hr
      | false => exact Ls.step (w := fun rt ex => wSs gl F rt ex b) le l1 (rs.le l1.le) rh1 q1 hn hr
    · cases h
  | .for t it b, Γ, L, X, O, st, h => by
    simp only [chkS] at h
    split at h
    · rename_i tg iter body pos
      simp only [Bool.and_eq_true] at h
      obtain ⟨⟨⟨h1, h2⟩, h3⟩, h4⟩ := h
      have G : PG X tg (Lg L t.slots (wTg t)) := pg_ok O.N O.sc O.nd O.K O.rm.c (.inr O.fnA) t _ h1
      refine PS.imp (ps_for O.po O.rm.c (sndI it O.toXO tg iter h2) G (sndSs b O _ h4) (nofold h3)) fun E σ H ⟨s, h, nx, rt, le, rs, rh, q, hn, hr⟩ => ?_
      simp only [wS] at q
      refine ⟨s, h, _, le, rs, rh, q, fun J h1 q1 Jh H1 l1 rh1 itr => ?_⟩
      obtain ⟨W, ⟨m0, w0⟩, turn⟩ := q1
      refine ⟨fun i m σ' H' => ∃ s' h', Ste H1 h1 H' h' ∧ RS L.K H' σ' s' ∧ RH L.K L.C H' h' ∧ W i m s' h', ⟨m0, s, h1, .refl, rs.le l1.le, rh1, w0⟩, fun i m σ' H' ⟨s', h', l2, rs2, rh2, w⟩ => ?_⟩
      have tn := turn i m s' h' w
      have ir := itr i H' h' l2.le rh2
      split at tn
      · exact tn.elim
      · rename_i e
        rw [e] at ir
        exact .inl ⟨ir, hn _ _ tn _ H' (l1.trans l2) rs2 rh2⟩
      · rename_i d e
        rw [e] at ir
        obtain ⟨N, hN, tn⟩ := tn
        refine .inr ⟨ir.1, fun σ3 H3 => ∃ s3 h3, Ste H1 h1 H3 h3 ∧ RS L.K H3 σ3 s3 ∧ RH L.K L.C H3 h3 ∧ N s3 h3, fun σ3 H3 ⟨s3, h3, a1, a2, a3, a4⟩ => ?_, fun x H3 y => ?_⟩
        · obtain ⟨m', hm, w'⟩ := hN s3 h3 a4
          exact ⟨m', hm, s3, h3, a1, a2, a3, w'⟩
        · obtain ⟨l3, rd, rh3⟩ := ir.2 x H3 y
          have l03 := (l1.trans l2).trans l3
          refine ⟨d, s', h', _, le.trans l03, rd, rs2.le l3.le, rh3, tn, fun s4 h4 q4 σ4 H4 l4 ag rs4 rh4 => ?_⟩
          exact ⟨s4, h4, N, rt, le.trans (l03.trans l4), rs4, rh4, q4, fun s5 h5 n5 σ5 H5 l5 rs5 rh5 => ⟨s5, h5, ((l2.trans l3).trans l4).trans l5, rs5, rh5, n5⟩, fun d h' r => (hr d h' r).le (l03.trans l4)⟩
    · cases h
  | .whl c b, Γ, L, X, O, st, h => by
    simp only [chkS] at h
    split at h
    · simp only [Bool.and_eq_true] at h
      refine PS.imp (ps_while O.po (snd c O.toXO _ h.1).pt (sndSs b O _ h.2)) fun E σ H ⟨s, h, nx, rt, le, rs, rh, q, hn, hr⟩ => ?_
      simp only [wS] at q
      obtain ⟨W, ⟨m0, w0⟩, turn⟩ := q
      refine ⟨fun m σ' H' => ∃ s' h', Ste H h H' h' ∧ RS L.K H' σ' s' ∧ RH L.K L.C H' h' ∧ W m s' h', ⟨m0, s, h, .refl, rs, rh, w0⟩, fun m σ' H' ⟨s', h', l2, rs2, rh2, w⟩ => ?_⟩
      refine ⟨s', h', _, le.trans l2, rs2, rh2, turn m s' h' w, fun k h3 q3 H3 l3 rh3 => ?_⟩
      cases k with
      | true =>
        rw [if_pos rfl] at q3 ⊢
        obtain ⟨N, hN, q3⟩ := q3
        refine ⟨fun σ4 H4 => ∃ s4 h4, Ste H h H4 h4 ∧ RS L.K H4 σ4 s4 ∧ RH L.K L.C H4 h4 ∧ N s4 h4, fun σ4 H4 ⟨s4, h4, a1, a2, a3, a4⟩ => ?_, ?_⟩
        · obtain ⟨m', hm, w'⟩ := hN s4 h4 a4
          exact ⟨m', hm, s4, h4, a1, a2, a3, w'⟩
        · exact ⟨s', h3, N, rt, le.trans (l2.trans l3), rs2.le l3.le, rh3, q3, fun s5 h5 n5 σ5 H5 l5 rs5 rh5 => ⟨s5, h5, (l2.trans l3).trans l5, rs5, rh5, n5⟩, fun d h' r => (hr d h' r).le (l2.trans l3)⟩
      | false =>
        rw [if_neg Bool.false_ne_true] at q3 ⊢
        exact hn _ _ q3 _ H3 (l2.trans l3) (rs2.le l3.le) rh3
    · cases h
  | .pas, Γ, L, X, O, st, h => by
    simp only [chkS] at h
    split at h
    · refine PS.imp ps_pass fun E σ H ⟨s, h, nx, rt, le, rs, rh, q, hn, hr⟩ => ?_
      simp only [wS] at q
      exact hn _ _ q _ H .refl rs rh
    · cases h
  | .fst o f cs e, Γ, L, X, O, st, h => by
    simp only [chkS] at h
    split at h
    · simp only [Bool.and_eq_true] at h
      obtain ⟨⟨⟨⟨h1, h2⟩, h3⟩, h4⟩, h5⟩ := h
      obtain rfl := beq_iff_eq.mp h1
      exact snd_fst O (snd o O.toXO _ h2) (snd e O.toXO _ h3) h4 (noswap h5)
    · cases h
  | .rai c fs es, Γ, L, X, O, st, h => by
    simp only [chkS] at h
    split at h
    · cases h
    · simp only [Bool.and_eq_true] at h
      obtain ⟨⟨⟨⟨h1, h2⟩, h3⟩, h4⟩, h5⟩ := h
      obtain rfl := beq_iff_eq.mp h1
      split at h5
      · exact snd_rai0 O (by simpa using h4) h2 h3 h5 (snds es O.toXO _ h5)
      · simp only [Bool.and_eq_true, decide_eq_true_eq] at h5
        rename_i hfs
        exact snd_rai O (by simpa using h4) (fun z => hfs z) h5.1 h2 h3 (chks_star h5.2) (snds es O.toXO _ h5.2)
    · cases h
  | .try b c cs i su, Γ, L, X, O, st, h => by
    simp only [chkS] at h
    split at h
    · rename_i body x np nm s0 suite p1 pos
      simp only [Bool.and_eq_true] at h
      obtain ⟨⟨⟨⟨⟨⟨⟨⟨h1, h2⟩, h3⟩, h4⟩, h5⟩, h6⟩, h7⟩, h8⟩, h9⟩ := h
      obtain rfl := beq_iff_eq.mp h1
      have ht : x ∈ Γ.xt.xts := by simpa using h4
      obtain ⟨u, tg⟩ := O.xf.tg x ht
      have hb : ∀ (W : WX) (pn : List (Addr × Obj)) (xe : Value → Shared → Prop), Takes (X.tr pn xe) W → PassesOwn (model X.prog X.w) X.A X.env xe → PSs (X.tr pn xe) body (tbTry L (fun rt ex => wSs gl F rt ex b) W) := fun W pn xe tk po => ⟨fun pins s σ H D I ⟨H0, h0, EX, imp, q⟩ => (sndSs b (O.tr tk po imp) body h7).run pins s σ H D I q⟩
      have hsu : ∀ (a : Addr) (pn : List (Addr × Obj)), PSs (X.suite a pn) (s0 :: suite) (Ls L.nx (fun rt ex => wSs gl F rt ex su)) := fun a pn => sndHSs (O.xb a pn) su h8 _ h9
      split at h6
      · exact PS.imp (ps_tryO O.hs O.hf O.ex (names_of O tg h2 h3) O.tk hb hsu) fun E σ H q => try_conv O.xf tg ht h5 q
      · rename_i n j
        rw [nmB, Bool.and_eq_true] at h6
        exact PS.imp (ps_tryA O.hs O.hf O.ex O.nd (i := j) (n := n) (by rw [O.N]; simpa using h6.1) (by show X.env.scope.names.lookup n = _; rw [O.sc]; exact lclB_ok h6.2) (names_of O tg h2 h3) O.tk hb hsu) fun E σ H q => try_conv O.xf tg ht h5 q
      · cases h6
    · cases h
  | .nev, Γ, L, X, O, st, h => ⟨fun pins s σ H D I ⟨_, _, _, _, _, _, _, q, _⟩ => by simp only [wS] at q⟩
  | .fz i, Γ, L, X, O, st, h => by simp [chkS] at h
  | .del i, Γ, L, X, O, st, h => by simp [chkS] at h
theorem sndSs : ∀ (cs : CSs) {Γ : Gx} {L : Lv} {X : Cx} (_ : SO Γ L k gl F X) (st : List Stmt), chkSs Γ cs st = true → PSs X st (Ls L (fun rt ex => wSs gl F rt ex cs))
  | .nil, Γ, L, X, O, st, h => by
    simp only [chkSs] at h
    split at h
    · refine PSs.imp pss_nil fun E σ H ⟨s, h, nx, rt, le, rs, rh, q, hn, hr⟩ => ?_
      simp only [wSs] at q
      exact hn _ _ q _ H .refl rs rh
    · cases h
  | .cons c cs, Γ, L, X, O, st, h => by
    simp only [chkSs] at h
    split at h
    · rename_i hg
      have S := sndSs cs O st h
      cases c with
      | fz i =>
        refine PSs.imp (pss_fz S) fun E σ H ⟨s, h, nx, rt, le, rs, rh, q, hn, hr⟩ => ?_
        simp only [wSs, wS] at q
        split at q
        · rename_i d hd
          obtain ⟨v, e2, rd⟩ := rs.2 _ _ hd
          have same : ∀ (H' : Hp) (l : Le H H'), RD L.K H' v d → RS L.K H' σ (s.set i (some d)) := fun H' l r => by
            have := (rs.le l).set i r
            have e3 : σ.set i (some v) = σ := by
              refine List.ext_getElem? fun j => ?_
              by_cases z : i = j
              · subst z
                rw [List.getElem?_set_self (List.getElem?_eq_some_iff.mp e2).1, e2]
              · rw [List.getElem?_set_ne z]
            rwa [e3] at this
          unfold wFrz at q
          split at q
          · rename_i a
            cases rd
            split at q
            · rename_i o ho
              obtain ⟨u, e1, m, rd⟩ := frz_rd (rh _ _ ho)
              have nn : h a ≠ none := by rw [ho]; exact fun z => nomatch z
              refine .inr ⟨a, u, e1, m, fun od => ?_⟩
              have st := Ste.lock (od := od) e1 m nn
              refine Ls.step (w := fun rt ex => wSs gl F rt ex cs) le st ?_ (rh.lock e1 m) q hn hr
              have := (rs.le st.le).set i (rd od)
              have e3 : σ.set i (some (.ref a)) = σ := by
                refine List.ext_getElem? fun j => ?_
                by_cases z : i = j
                · subst z
                  rw [List.getElem?_set_self (List.getElem?_eq_some_iff.mp e2).1, e2]
                · rw [List.getElem?_set_ne z]
              rwa [e3] at this
            · exact .inl (Ls.step (w := fun rt ex => wSs gl F rt ex cs) le .refl (same H .refl (.ref a)) rh q hn hr)
          · exact .inl (Ls.step (w := fun rt ex => wSs gl F rt ex cs) le .refl (same H .refl rd) rh q hn hr)
        · exact q.elim
      | del is =>
        refine PSs.imp S fun E σ H ⟨s, h, nx, rt, le, rs, rh, q, hn, hr⟩ => ?_
        simp only [wSs, wS] at q
        exact ⟨wipeD s is, h, nx, rt, le, rs.forget is, rh, q, hn, hr⟩
      | _ => exact absurd hg Bool.false_ne_true
    split at h
    · simp only [Bool.and_eq_true] at h
      refine PSs.imp (pss_cons (sndS c O _ h.1) (sndSs cs O _ h.2)) fun E σ H ⟨s, h, nx, rt, le, rs, rh, q, hn, hr⟩ => ?_
      simp only [wSs] at q
      exact ⟨s, h, _, rt, le, rs, rh, q, fun s1 h1 q1 σ1 H1 l1 rs1 rh1 => Ls.step (w := fun rt ex => wSs gl F rt ex cs) le l1 rs1 rh1 q1 hn hr, hr⟩
    · cases h
end
end
end DL

/-! DL, part P: the defs of a text, level by level; the law's call -/
namespace DL
open PySem PySem.Spec PyProof.Rows L2

/-! ### defs -/
structure Dfn where
  x : Str
  N : List Str
  ar : Nat
  body : CSs
/-- what the defs mean, n calls deep -/
def run (gl : List D) (ds : List Dfn) : Nat → Fns
  | 0 => fun _ _ _ _ _ => False
  | n + 1 => fun i vs h Q E => match ds[i]? with
    | some d => vs.length = d.ar ∧ wSs gl (run gl ds n) Q (fun x _ h' => E x h') d.body (vs.map some ++ List.replicate (d.N.length - d.ar) none) h (fun _ h' => Q .non h')
    | none => False

def distB : List Str → Bool
  | [] => true
  | x :: r => !r.contains x && distB r
theorem distB_ok : ∀ {l : List Str}, distB l = true → l.Nodup
  | [], _ => List.nodup_nil
  | x :: r, h => by
    simp only [distB, Bool.and_eq_true, Bool.not_eq_true'] at h
    refine List.nodup_cons.mpr ⟨fun z => ?_, distB_ok h.2⟩
    have := h.1
    simp [z] at this
/-- a def's slots are its scope's -/
def scB (N : List Str) (ar : Nat) (sc : Scope) : Bool :=
  sc.kind == .function && !sc.isCoroutine && !sc.isGenerator && distB N && decide (ar ≤ N.length) && (N.take ar).all (locB sc) && sc.names.all (fun y => !(y.2 == .free))
theorem locB_ok {sc : Scope} {x : Str} (h : locB sc x = true) : sc.names.lookup x = some .local ∨ sc.names.lookup x = some .cell := by
  unfold locB at h
  split at h
  · exact .inl (by assumption)
  · exact .inr (by assumption)
  · cases h
theorem scB_ok {N : List Str} {ar : Nat} {sc : Scope} (h : scB N ar sc = true) : FnScope N (N.take ar) sc ∧ ar ≤ N.length := by
  simp only [scB, Bool.and_eq_true, Bool.not_eq_true', decide_eq_true_eq] at h
  obtain ⟨⟨⟨⟨⟨⟨h1, h2⟩, h3⟩, h4⟩, h5⟩, h6⟩, h7⟩ := h
  refine ⟨⟨by simpa using h1, h2, h3, distB_ok h4, by rw [List.length_take, Nat.min_eq_left h5], fun x hx => locB_ok (List.all_eq_true.mp h6 x hx), fun y hy e => ?_⟩, h5⟩
  have q := List.all_eq_true.mp h7 y hy
  rw [e] at q
  cases q

theorem RS.start {K : PySem.W.Frag} {H : Hp} {vs : List V} {xs : List D} {n : Nat} (r : RDs K H vs xs) : RS K H (vs.map some ++ List.replicate n none) (xs.map some ++ List.replicate n none) := by
  refine ⟨by simp [r.length], fun i d e => ?_⟩
  have hi : i < (xs.map some).length := by
    refine Nat.lt_of_not_le fun z => ?_
    rw [List.getElem?_append_right z, List.getElem?_replicate] at e
    split at e <;> cases e
  rw [List.getElem?_append_left hi, List.getElem?_map] at e
  cases q : xs[i]? with
  | none => rw [q] at e; cases e
  | some z =>
    rw [q] at e
    have e : some (some z) = some (some d) := e
    cases e
    obtain ⟨v, e2, rv⟩ := r.get q
    refine ⟨v, ?_, rv⟩
    rw [List.getElem?_append_left (by rw [List.length_map, r.length]; simpa using hi), List.getElem?_map, e2]
    rfl
/-- the def at a place of the text -/
structure DefAt (Γf : List Str → Scope → Gx) (K : PySem.W.Frag) (mg : Str → Option Value) (d : Dfn) (st : Stmt) : Prop where
  ex : ∃ f fd nm, (plainN d.x = true → mg d.x = some (.ref f)) ∧ Fun K nm d.x st f fd ∧ Binds K fd (d.N.take d.ar) []
  sc : scB d.N d.ar (defScope st) = true
  ck : chkSs (Γf d.N (defScope st)) d.body (defBody st) = true
/-- .. of a method -/
structure MtAt (Γf : List Str → Scope → Gx) (K : PySem.W.Frag) (d : Dfn) (st : Stmt) (m : Str) (f : Addr) (fd : FuncData) : Prop where
  fu : Fun K m d.x st f fd
  bi : Binds K fd (d.N.take d.ar) []
  sc : scB d.N d.ar (defScope st) = true
  ck : chkSs (Γf d.N (defScope st)) d.body (defBody st) = true
/-- what the top has left of classes -/
structure XtF (P : Program) (w : World) (K : PySem.W.Frag) (mg : Str → Option Value) (xt : Xt) (ds : List Dfn) (Γf : List Str → Scope → Gx) : Prop where
  xc : ∀ (base : Heap) c fs, (c, fs) ∈ xt.xcs → ∃ Ca, XcF P w K mg base xt.xts c fs Ca
  mt : ∀ c m i, (c, m, i) ∈ xt.mts → ∃ d st Ca f fd, ds[i]? = some d ∧ MtAt Γf K d st m f fd ∧ CL K c Ca ∧ Cls K Ca ∧ Meth K Ca m f
  ini : ∀ c i, (c, i) ∈ xt.ini → ∃ d st Ca f fd, ds[i]? = some d ∧ MtAt Γf K d st "__init__" f fd ∧ CL K c Ca ∧ mg c = some (.ref Ca) ∧ Mk K Ca f
  fl : ∀ c fs, (c, fs) ∈ xt.fls → ∃ Ca, CL K c Ca ∧ Cls K Ca ∧ ∀ f ∈ fs, NoAttr K Ca f
  tg : ∀ t ∈ xt.xts, ∃ u, TgF mg t u
  ic : ∀ c t b, (c, t, b) ∈ xt.ics → ∃ Ca Da, IcF K mg c t b Ca Da
  fv : ∀ x ∈ xt.fvs, ∃ f, mg x = some (.ref f) ∧ PySem.W.nsIn K mainGlobals x = some (some (.ref f))
theorem XtF.no {P : Program} {w : World} {K : PySem.W.Frag} {mg : Str → Option Value} {ds : List Dfn} {Γf : List Str → Scope → Gx} : XtF P w K mg ⟨[], [], [], [], [], [], []⟩ ds Γf :=
  ⟨fun _ _ _ h => (nomatch h), fun _ _ _ h => (nomatch h), fun _ _ h => (nomatch h), fun _ _ h => (nomatch h), fun _ h => (nomatch h), fun _ _ _ h => (nomatch h), fun _ h => (nomatch h)⟩

section
variable {P : Program} {w : World} {K : PySem.W.Frag} {mg : Str → Option Value} {base : Heap} {C : CA} {gl : List D} {ds : List Dfn} {sts : Nat → Stmt} {cns bls : List Str}
variable {xt : Xt}
theorem fn_lvl {n : Nat} (sm : SM K) (T : Tab P w K mg base C n (ds.map (·.x)) cns bls xt gl (run gl ds n)) {i : Nat} {d : Dfn} (hd : ds[i]? = some d) {st : Stmt} {nm : Str} {f : Addr} {fd : FuncData} (F : Fun K nm d.x st f fd) (sc : scB d.N d.ar (defScope st) = true)
    (ck : chkSs ⟨d.N, defScope st, ds.map (·.x), cns, bls, xt⟩ d.body (defBody st) = true) : FnG P w K mg base (lv (n + 1)) f fd (d.N.take d.ar) (spL K C (run gl ds (n + 1) i)) := by
  obtain ⟨S, hl⟩ := scB_ok sc
  obtain ⟨oc, od, kV, doc, pm, an, cdv, ct, osl, rfl, lk, hcd⟩ := F.ex
  have hrun : run gl ds (n + 1) i = fun vs h Q E => vs.length = d.ar ∧ wSs gl (run gl ds n) Q (fun x _ h' => E x h') d.body (vs.map some ++ List.replicate (d.N.length - d.ar) none) h (fun _ h' => Q .non h') := by
    funext vs h Q E
    show (match ds[i]? with | some d => _ | none => _) = _
    rw [hd]
  rw [hrun]
  have e2 : lv (n + 1) = (2 * n + 3) + 1 := by unfold lv; omega
  rw [e2]
  refine fnG_of lk hcd S (fun vs H Q E ⟨xs, h, Q0, E0, r, rh, q, _⟩ => ?_) fun A outer s H vs Q E hr hg ⟨xs, h, Q0, E0, r, rh, q, hq, hx⟩ => ?_
  · rw [r.length, q.1, List.length_take, Nat.min_eq_left hl]
  · have hu := hr.un
    have O : SO ⟨d.N, defScope st, ds.map (·.x), cns, bls, xt⟩ ⟨K, C, H, h, fun x _ h' => E0 x h'⟩ n gl (run gl ds n) (cxOf (L2.CX P w) P w K mg base d.N d.x (defScope st) f cdv A outer s H E) :=
      { N := rfl, sc := rfl, nd := S.nd, K := rfl, rm := ⟨by show (A.deeper _).units + 200 < _; omega, hg, rfl, sm⟩, room := hr, tab := T
        tk := (takes_of rfl rfl rfl rfl).imp fun cls x σ H' ⟨e, s', h', st', rx, rs, rh', q'⟩ => hx e h' q' cls x H' st' rx rh'
        hs := rfl, hf := rfl, po := passes_of rfl, fnA := fun _ => rfl, kd := S.kind, ex := rfl }
    refine ⟨_, sndSs d.body O _ ck, xs.map some ++ List.replicate (d.N.length - d.ar) none, h, _, Q0, .refl, ?_, rh, q.2, fun s' h' nx σ' H' l rs rh' => ?_, hq⟩
    · have e : L2.start d.N vs = vs.map some ++ List.replicate (d.N.length - d.ar) none := by
        unfold L2.start
        rw [r.length, q.1]
      rw [e]
      exact RS.start r
    · exact hq _ _ nx _ _ l .non rh'
theorem fn_zero {f : Addr} {fd : FuncData} {ps : List Str} {i : Nat} {m : Nat} : FnG P w K mg base m f fd ps (spL K C (run gl ds 0 i)) := ⟨fun vs H Q E ⟨_, _, _, _, _, _, q, _⟩ => q.elim, fun A outer s H args us vs Q E _ _ _ _ _ ⟨_, _, _, _, _, _, q, _⟩ => q.elim⟩
theorem tab_all (sm : SM K) (hc : ∀ (i : Nat) (x : Str), cns[i]? = some x → ∃ v u d, gl[i]? = some d ∧ mg x = some u ∧ RelV v u ∧ ∀ H, RD K H v d) (hb : ∀ x, x ∈ bls → mg x = none)
    (hd : ∀ (i : Nat) (d : Dfn), ds[i]? = some d → ∃ st, DefAt (fun N sc => ⟨N, sc, ds.map (·.x), cns, bls, xt⟩) K mg d st) (hx : XtF P w K mg xt ds (fun N sc => ⟨N, sc, ds.map (·.x), cns, bls, xt⟩)) : ∀ n, Tab P w K mg base C n (ds.map (·.x)) cns bls xt gl (run gl ds n)
  | 0 => ⟨fun i x e hp => by
      obtain ⟨d, e1, rfl⟩ := List.getElem?_map .. ▸ e |> Option.map_eq_some_iff.mp
      obtain ⟨st, D⟩ := hd i d e1
      obtain ⟨f, fd, nm, e2, F, B⟩ := D.ex
      exact ⟨f, fd, _, e2 hp, F.kp, fn_zero, B⟩, hc, hb, hx.xc base, fun c m i h => by
      obtain ⟨d, st, Ca, f, fd, e1, M, c1, c2, c3⟩ := hx.mt c m i h
      exact ⟨Ca, f, fd, _, c1, c2, c3, fn_zero, M.bi⟩, fun c i h => by
      obtain ⟨d, st, Ca, f, fd, e1, M, c1, c2, c3⟩ := hx.ini c i h
      exact ⟨Ca, f, fd, _, c1, c2, c3, fn_zero, M.bi⟩, hx.fl, hx.tg, hx.ic, hx.fv⟩
  | n + 1 => ⟨fun i x e hp => by
      obtain ⟨d, e1, rfl⟩ := List.getElem?_map .. ▸ e |> Option.map_eq_some_iff.mp
      obtain ⟨st, D⟩ := hd i d e1
      obtain ⟨f, fd, nm, e2, F, B⟩ := D.ex
      exact ⟨f, fd, _, e2 hp, F.kp, fn_lvl sm (tab_all sm hc hb hd hx n) e1 F D.sc D.ck, B⟩, hc, hb, hx.xc base, fun c m i h => by
      obtain ⟨d, st, Ca, f, fd, e1, M, c1, c2, c3⟩ := hx.mt c m i h
      exact ⟨Ca, f, fd, _, c1, c2, c3, fn_lvl sm (tab_all sm hc hb hd hx n) e1 M.fu M.sc M.ck, M.bi⟩, fun c i h => by
      obtain ⟨d, st, Ca, f, fd, e1, M, c1, c2, c3⟩ := hx.ini c i h
      exact ⟨Ca, f, fd, _, c1, c2, c3, fn_lvl sm (tab_all sm hc hb hd hx n) e1 M.fu M.sc M.ck, M.bi⟩, hx.fl, hx.tg, hx.ic, hx.fv⟩
end

/-! ### the making of exceptions with fields -/
section
variable {P : Program} {w : World} {K : PySem.W.Frag} {mg : Str → Option Value} {base : Heap} {C fI : Addr} {fd : FuncData} {q : Str} {st : Stmt}
def ini1B (sc : Scope) (f : Str) : Stmt → Bool
  | .Assign [.Attribute (.Name s _) g _] (.Name x _) _ => s == ("self" : Str) && g == f && x == f && visB sc f && visB sc s && okN f
  | _ => false
def iniB (fs : List Str) (sc : Scope) (body : List Stmt) : Bool := match fs with
  | [] => body.isEmpty
  | f :: r => match body with
    | st :: b => ini1B sc f st && iniB r sc b
    | [] => false
theorem ini1B_ok {sc : Scope} {f : Str} {st : Stmt} (h : ini1B sc f st = true) : ∃ p1 p2 p3 p4, st = .Assign [.Attribute (.Name "self" p1) f p2] (.Name f p3) p4 ∧ visB sc f = true ∧ visB sc "self" = true ∧ okN f = true := by
  unfold ini1B at h
  split at h
  · simp only [Bool.and_eq_true, beq_iff_eq] at h
    obtain ⟨⟨⟨⟨⟨rfl, rfl⟩, rfl⟩, v1⟩, v2⟩, o1⟩ := h
    exact ⟨_, _, _, _, rfl, v1, v2, o1⟩
  · cases h
theorem iniB_cons {sc : Scope} {f : Str} {r : List Str} {body : List Stmt} (h : iniB (f :: r) sc body = true) : ∃ p1 p2 p3 p4 b, body = .Assign [.Attribute (.Name "self" p1) f p2] (.Name f p3) p4 :: b ∧ visB sc f = true ∧ visB sc "self" = true ∧ okN f = true ∧ iniB r sc b = true := by
  unfold iniB at h
  cases body with
  | nil => cases h
  | cons st b =>
    simp only [Bool.and_eq_true] at h
    obtain ⟨p1, p2, p3, p4, rfl, v1, v2, o1⟩ := ini1B_ok h.1
    exact ⟨_, _, _, _, b, rfl, v1, v2, o1, h.2⟩
theorem iniB_nil {sc : Scope} {body : List Stmt} (h : iniB [] sc body = true) : body = [] := by
  unfold iniB at h
  simpa using h
theorem nameV {X : Cx} {i : Nat} {x : Str} {p : Pos} (hN : X.N[i]? = some x) (hv : visB X.env.scope x = true) (hn : okN x = true) : PE X (.Name x p) (tVar i) := pe_var hN (visB_ok hv) (okN_1 hn) (okN_2 hn)
theorem ini1_ok {f : Str} (F : Fun K "__init__" q st fI fd) (T : OexC K C) (hno : PySem.W.findIn K (.ref C) f = some none) (sc : scB ["self", f] 2 (defScope st) = true) (hb : iniB [f] (defScope st) (defBody st) = true) : FnOk P w K mg base CX0 1 fI fd ["self", f] (spIni C [f]) := by
  obtain ⟨S, hl⟩ := scB_ok sc
  refine F.ok S (fun vs H Q E ⟨a, ys, e, hl, _⟩ => by rw [e, List.length_cons, hl]; rfl) fun cdv A outer s H vs Q E hr h => ?_
  generalize defBody st = body at hb ⊢
  · obtain ⟨p1, p2, p3, p4, b, rfl, v1, v2, o1, hb⟩ := iniB_cons hb
    obtain rfl := iniB_nil hb
    refine ⟨_, pss_one (ps_ost (nameV (i := 0) rfl v2 (by decide)) (nameV (i := 1) rfl v1 o1)), ?_⟩
    obtain ⟨a, ys, rfl, hl, ea, k⟩ := h
    match ys, hl with
    | [y], _ =>
      refine ⟨y, rfl, .ref a, rfl, a, C, rfl, T, hno, .inl ⟨ea, fun dx ndx ne => ?_⟩⟩
      refine k dx _ ndx ne upd_same (by rw [upd_ne ne, upd_same]; rfl) fun b n1 n2 => by rw [upd_ne n1, upd_ne n2]
theorem ini2_ok {f g : Str} (F : Fun K "__init__" q st fI fd) (T : OexC K C) (hno : PySem.W.findIn K (.ref C) f = some none) (hno2 : PySem.W.findIn K (.ref C) g = some none) (sc : scB ["self", f, g] 3 (defScope st) = true) (hb : iniB [f, g] (defScope st) (defBody st) = true) : FnOk P w K mg base CX0 1 fI fd ["self", f, g] (spIni C [f, g]) := by
  obtain ⟨S, hl⟩ := scB_ok sc
  refine F.ok S (fun vs H Q E ⟨a, ys, e, hl, _⟩ => by rw [e, List.length_cons, hl]; rfl) fun cdv A outer s H vs Q E hr h => ?_
  generalize defBody st = body at hb ⊢
  · obtain ⟨p1, p2, p3, p4, b, rfl, v1, v2, o1, hb⟩ := iniB_cons hb
    obtain ⟨p5, p6, p7, p8, b, rfl, v3, v4, o2, hb⟩ := iniB_cons hb
    obtain rfl := iniB_nil hb
    refine ⟨_, pss_cons (ps_ost (nameV (i := 0) rfl v2 (by decide)) (nameV (i := 1) rfl v1 o1)) (pss_one (ps_ost (nameV (i := 0) rfl v4 (by decide)) (nameV (i := 2) rfl v3 o2))), ?_⟩
    obtain ⟨a, ys, rfl, hl, ea, k⟩ := h
    match ys, hl with
    | [y, z], _ =>
      refine ⟨y, rfl, .ref a, rfl, a, C, rfl, T, hno, .inl ⟨ea, fun dx ndx ne => ?_⟩⟩
      refine ⟨z, rfl, .ref a, rfl, a, C, rfl, T, hno2, .inr ⟨dx, _, upd_same, by rw [upd_ne ne, upd_same], by simp, ?_⟩⟩
      exact k dx _ ndx ne (by rw [upd_ne (Ne.symm ne), upd_same]) (by rw [upd_same]; rfl) fun b n1 n2 => by rw [upd_ne n2, upd_ne n1, upd_ne n2]
end

/-! ### the law's call -/
section
variable {P : Program} {w : World} {K : PySem.W.Frag} {C : CA} {W : List D → DH → QD → XD → Prop} {mg mb : Str → Option Value} {k : Nat} {fa a : Addr} {fd : FuncData} {x : Str} {s₁ : Shared} {vs : List Value} {ns : List Int}
/-- the heap as the law meets it: the script frozen, where it is not one of the module's things -/
def scriptHp (K : PySem.W.Frag) (a : Addr) (o : Obj) (us : List V) : Hp := fun b => if b = a then (match K.lookup a with
  | none => some (.frz o (.lst us))
  | some _ => none) else none
theorem scriptHp_some {o : Obj} {us : List V} {b : Addr} {t : HO} (e : scriptHp K a o us b = some t) : b = a ∧ K.lookup a = none ∧ t = .frz o (.lst us) := by
  unfold scriptHp at e
  by_cases hb : b = a
  · rw [if_pos hb] at e
    split at e
    · rename_i hk
      exact ⟨hb, hk, (Option.some.inj e).symm⟩
    · cases e
  · rw [if_neg hb] at e
    cases e
theorem top_call (kin : K.In s₁.heap) (gns : s₁.heap.Ns mainGlobals mg) (bns : s₁.heap.Ns builtinsNs mb) (bok : ∀ x : Str, x ≠ "__name__" → mb x = bootBuiltins x) (nol : s₁.heap.NoLimit) (gen : s₁.gens = #[])
    (at' : s₁.heap.get? a = some { cls := .type "list", data := .seq vs.toArray }) (hints : IntsAre vs ns) (len : ns.length ≤ sizeLine) (room : Room k callerA)
    (F : ∀ base : Heap, K.In base → base.Ns mainGlobals mg → FnG P w K mg base k fa fd [x] (spL K C (fun ds h Q E => W ds h Q E))) (bind : ∀ (s : Shared) (u : Value), BindsTo s fd ⟨[u], []⟩ [(x, u)])
    (goal : W [.fl (ns.map .int)] (fun _ => none) (fun d _ => d = .bl true) fun _ _ => False) :
    codeAny (model P w) callerA (.call (.ref fa) ⟨[.ref a], []⟩) (fun r s' => r = .ok (.ret (.bool true)) ∧ OldK s₁.heap s'.heap ∧ s'.os = s₁.os ∧ AllBare s'.gens) s₁ := by
  have rel := vals_ints hints
  have lenV := hints.length
  let ob : Obj := { cls := .type "list", data := .seq vs.toArray }
  let H := scriptHp K a ob (ns.map V.int)
  have only : ∀ {b : Addr} {t : HO}, H b = some t → b = a ∧ K.lookup a = none ∧ t = .frz ob (.lst (ns.map V.int)) := fun e => scriptHp_some e
  -- what is not the script is not hidden
  have free : ∀ {b : Addr} {o : Obj}, s₁.heap.get? b = some o → (b = a → K.lookup a = none → o = ob → False) → (hidT s₁.heap H).get? b = some o := fun {b o} e ne => by
    refine hidT_get e ?_
    cases q : H b with
    | none => rfl
    | some t =>
      obtain ⟨rfl, k1, _⟩ := only q
      rw [at'] at e
      exact (ne rfl k1 (Option.some.inj e).symm).elim
  have spaces : ∀ {b : Addr} {m : Str → Option Value}, s₁.heap.Ns b m → (hidT s₁.heap H).Ns b m := fun {b m} ⟨o, es, ep, e, d, r⟩ =>
    ⟨o, es, ep, free e (fun _ _ z => by rw [z] at d; cases d), d, r⟩
  have kinB : K.In (hidT s₁.heap H) := fun b o e => free (kin b o e) fun z k1 _ => by rw [z, k1] at e; cases e
  obtain ⟨mc, lim1, lim2⟩ := nol
  have envs : Env0 P w K mg (hidT s₁.heap H) callerA [] s₁ H :=
    { frames := rfl
      mod := ⟨kinB, spaces gns, ⟨mb, spaces bns, bok⟩, ⟨mc, spaces lim1, lim2⟩⟩
      bs := fun _ _ e => of_hidT e
      bsz := Nat.le_of_eq (hidT_size _ _)
      funs := trivial
      frf := fun b m => nomatch m
      hok := fun b t e => by
        obtain ⟨rfl, _, rfl⟩ := only e
        refine ⟨at', ?_, vs, _, rel, at'⟩
        rw [List.length_map]
        exact len
      bare := .of_eq gen }
  have known : FL K H a (ns.map V.int) := by
    cases q : K.lookup a with
    | none =>
      refine .inl ⟨ob, ?_⟩
      show scriptHp K a ob _ a = _
      unfold scriptHp
      rw [if_pos rfl, q]
    | some o =>
      have e := kin a o q
      rw [at'] at e
      cases e
      refine .inr ⟨vs.toArray, _, q, ?_, ?_⟩
      · rw [List.size_toArray, lenV]
        exact len
      · simpa using rel
  have ints2 : ∀ l : List Int, RDs K H (l.map V.int) (l.map D.int) := fun l => by
    induction l with
    | nil => exact .nil
    | cons i r ih => exact .cons (.int i) ih
  have wish : spL K C (fun ds h Q E => W ds h Q E) [.ref a] H (fun v _ => v = .bl true) fun _ _ _ => False :=
    ⟨[.fl (ns.map .int)], fun _ => none, _, _, .cons (.fl known (ints2 ns)) .nil, fun _ _ e => (nomatch e), goal, fun d h' q v H' _ r _ => by
      have q : d = .bl true := q
      subst q
      cases r
      rfl, fun _ _ z => z.elim⟩
  refine codeAny_mono ((F _ kinB (spaces gns)).run callerA [] s₁ H ⟨[.ref a], []⟩ [.ref a] [.ref a] _ _ room rfl envs (bind s₁ (.ref a)) (.cons rfl .nil) wish) fun r s' h => ?_
  cases r with
  | error e =>
    obtain ⟨_, _, _, _, _, _, _, _, _, _, _, _, z⟩ := h
    exact z.elim
  | ok fl =>
    cases fl with
    | ret u =>
      obtain ⟨v, H', os, bare, un, hok', r', q'⟩ := h
      have q' : v = .bl true := q'
      subst q'
      have ru : u = Value.bool true := r'
      subst ru
      refine ⟨rfl, OldK.of_keep fun b o e => ?_, os, bare⟩
      cases q : H b with
      | none => exact un.keep b o e q (fun z => nomatch z) (fun z => nomatch z)
      | some t =>
        obtain ⟨rfl, _, rfl⟩ := only q
        have z := (hok' _ _ (un.frzs _ _ _ q)).1
        rw [at'] at e
        cases e
        exact z
    | next => exact False.elim h
    | brk => exact False.elim h
    | cont => exact False.elim h
end
end DL

/-! DL, part Q: a law's end -/
namespace DL
open PySem PySem.Spec PyProof.Rows L2

theorem sm2 {K : PySem.W.Frag} {od : Option Addr} {dt : _} {sl : Array (Option Value)} (h : K.lookup sysModules = some ⟨.type "dict", od, dt, sl⟩) : SM K := ⟨_, h, rfl⟩
theorem sm3 {K : PySem.W.Frag} (h : (match K.lookup sysModules with
  | some u => u.cls == .type "dict"
  | none => false) = true) : SM K := by
  split at h
  · rename_i u e
    exact ⟨u, e, by simpa using h⟩
  · cases h
/-- a def as the top has left it -/
def DefIn (K : PySem.W.Frag) (x : Str) (s : Stmt) : Prop := ∃ (f : Addr) (oc kV dc pm cd ct : Value) (od an : Option Addr) (sl : Array (Option Value)),
  PySem.W.nsIn K mainGlobals x = some (some (.ref f)) ∧ K.lookup f = some ⟨oc, od, .func (PySem.W.fnOf x x (defArgs s) (defBody s) (defScope s) .none kV dc pm an cd ct), sl⟩ ∧ PySem.W.codeIn K cd x = true ∧ PySem.W.keepIn K (.ref f) = true
/-- a constant as the top has left it -/
def CnIn (K : PySem.W.Frag) (x : Str) (d : D) : Prop := ∃ (u : Value) (v : V), PySem.W.nsIn K mainGlobals x = some (some u) ∧ RelV v u ∧ ∀ H, RD K H v d
def NoIn (K : PySem.W.Frag) (x : Str) : Prop := PySem.W.nsIn K mainGlobals x = some none
theorem cn_tup {K : PySem.W.Frag} {x : Str} {a : Addr} {od : Option Addr} {n : Nat} {sl : Array (Option Value)} {its : Array Value} {vs : List V} {ds : List D} (h1 : PySem.W.nsIn K mainGlobals x = some (some (.ref a))) (h2 : K.lookup a = some ⟨.type "tuple", od, .seq its n, sl⟩) (h3 : its.size ≤ sizeLine) (h4 : Vals vs its.toList) (h5 : ∀ H, RDs K H vs ds) : CnIn K x (.kt false ds) :=
  ⟨.ref a, .ref a, h1, rfl, fun H => .kt (.inr ⟨_, its, n, h2, rfl, rfl, h3, h4⟩) (fun z => nomatch z) (h5 H)⟩
section
variable {K : PySem.W.Frag} {h : Heap} {mg : Str → Option Value} {x : Str} {s : Stmt}
theorem DefIn.mk' (X : K.In h) (G : h.Ns mainGlobals mg) (D : DefIn K x s) : ∃ f fd, mg x = some (.ref f) ∧ Fun K x x s f fd := by
  obtain ⟨f, oc, kV, dc, pm, cd, ct, od, an, sl, h1, h2, h3, h4⟩ := D
  exact ⟨f, _, PySem.W.mg_of X G h1, fun_mk h2 h3 h4⟩
theorem CnIn.mk' {d : D} (X : K.In h) (G : h.Ns mainGlobals mg) (D : CnIn K x d) : ∃ v u, mg x = some u ∧ RelV v u ∧ ∀ H, RD K H v d := by
  obtain ⟨u, v, h1, h2, h3⟩ := D
  exact ⟨v, u, PySem.W.mg_of X G h1, h2, h3⟩
theorem NoIn.mk' (X : K.In h) (G : h.Ns mainGlobals mg) (D : NoIn K x) : mg x = none := PySem.W.mg_none_of X G D
end
/-! ### classes as the top has left them -/
def tgV (K : PySem.W.Frag) (t : Str) : Option Value := match PySem.W.nsIn K mainGlobals t with
  | some (some (.ref T)) => some (.ref T)
  | some none => if t = ("ValueError" : Str) then some (.type "ValueError") else none
  | _ => none
def tgB (K : PySem.W.Frag) (C : Addr) (c t : Str) : Bool := match tgV K t with
  | some u => decide (PySem.W.kitOne K (.ref C) u = some (isA c t)) && decide (PySem.W.exmOne K (.ref C) u = some (isA c t))
  | none => false
def xrB (K : PySem.W.Frag) (C : Addr) (c : Str) (fs xts : List Str) : Bool :=
  (PySem.W.clsIn K C).isSome && decide (PySem.W.findIn K (.ref C) "__getattribute__" = some (some (.builtin "BaseException.__getattribute__"))) && decide (PySem.W.findIn K (.ref C) "__getattr__" = some none) && decide (PySem.W.subIn K (.ref C) (.type "BaseException") = some true) &&
  decide (PySem.W.findIn K (.ref C) "__class__" = some (some (.builtin "object.__class__"))) && decide (PySem.W.specialIn K (.builtin "object.__class__") "__get__" = some (some (.builtin "getset_descriptor.__get__"))) && decide (PySem.W.takesIn K (.builtin "object.__class__") = some true) &&
  decide (PySem.W.mroIn K C (.type "object") = some true) && PySem.W.hasDictIn K C && fs.all (fun f => decide (PySem.W.findIn K (.ref C) f = some none)) && xts.all (tgB K C c) && PySem.W.keepIn K (.ref C) && decide (PySem.W.typeIn K (.ref C) = some (.type "type")) &&
  decide (PySem.W.findIn K (.ref C) "__setattr__" = some (some (.builtin "object.__setattr__")))
section
variable {P : Program} {w : World} {K : PySem.W.Frag} {h : Heap} {mg : Str → Option Value} {c : Str} {fs xts : List Str} {C : Addr}
theorem tgV_ok {t : Str} {u : Value} (X : K.In h) (G : h.Ns mainGlobals mg) (e : tgV K t = some u) : TgF mg t u := by
  unfold tgV at e
  split at e
  · rename_i T q
    cases e
    exact .inl ⟨T, PySem.W.mg_of X G q, rfl⟩
  · rename_i q
    split at e
    · rename_i z
      cases e
      exact .inr ⟨z, PySem.W.mg_none_of X G q, rfl⟩
    · cases e
  · cases e
theorem tgB_ok {t : Str} (X : K.In h) (G : h.Ns mainGlobals mg) (e : tgB K C c t = true) : ∃ u, TgF mg t u ∧ PySem.W.kitOne K (.ref C) u = some (isA c t) ∧ PySem.W.exmOne K (.ref C) u = some (isA c t) := by
  unfold tgB at e
  split at e
  · rename_i u q
    rw [Bool.and_eq_true, decide_eq_true_eq, decide_eq_true_eq] at e
    exact ⟨u, tgV_ok X G q, e⟩
  · cases e
theorem tgs_of {xts : List Str} (X : K.In h) (G : h.Ns mainGlobals mg) (e : xts.all (fun t => (tgV K t).isSome) = true) : ∀ t ∈ xts, ∃ u, TgF mg t u := fun t ht => by
  obtain ⟨u, q⟩ := Option.isSome_iff_exists.mp (List.all_eq_true.mp e t ht)
  exact ⟨u, tgV_ok X G q⟩
theorem xr_of (X : K.In h) (G : h.Ns mainGlobals mg) (hC : PySem.W.nsIn K mainGlobals c = some (some (.ref C))) (hB : xrB K C c fs xts = true) : XrF K mg xts c fs C ∧ mg c = some (.ref C) ∧ PySem.W.keepIn K (.ref C) = true ∧ PySem.W.typeIn K (.ref C) = some (.type "type") ∧ PySem.W.findIn K (.ref C) "__setattr__" = some (some (.builtin "object.__setattr__")) := by
  simp only [xrB, Bool.and_eq_true, decide_eq_true_eq] at hB
  obtain ⟨⟨⟨⟨⟨⟨⟨⟨⟨⟨⟨⟨⟨h1, h2⟩, h3⟩, h4⟩, h5⟩, h6⟩, h7⟩, h8⟩, h9⟩, h10⟩, h11⟩, h12⟩, h13⟩, h14⟩ := hB
  exact ⟨{ cl := hC, is := h1, ga := h2, gg := h3, be := h4, ha := h5, hn := h6, ht := h7, hm := h8, hd := h9, ty := h13, no := fun f hf => by simpa using List.all_eq_true.mp h10 f hf, tg := fun t ht => tgB_ok X G (List.all_eq_true.mp h11 t ht) }, PySem.W.mg_of X G hC, h12, h13, h14⟩
theorem xc0_of (X : K.In h) (G : h.Ns mainGlobals mg) (hC : PySem.W.nsIn K mainGlobals c = some (some (.ref C))) (hB : xrB K C c [] xts = true) (hE : PySem.W.excIn K C PySem.HandSPX.veTail "ValueError.__new__" = true) : ∀ base, ∃ Ca, XcF P w K mg base xts c [] Ca := fun base => by
  obtain ⟨a, b1, b2, b3, b4⟩ := xr_of X G hC hB
  exact ⟨C, { toXrF := a, gl := b1, kp := b2, mkf := .inl ⟨rfl, hE⟩ }⟩
variable {nm q0 : Str} {N : Addr} {bs bm : List Value} {sn : List Str} {sub : List Value} {ab : Bool} {col : Option Bool} {dd : Option Addr} {m0 m1 m2 m3 m5 : Option Value} {fI : Addr} {fd : FuncData} {q : Str} {st : Stmt}
theorem oex_of (X : K.In h) (G : h.Ns mainGlobals mg) (hC : PySem.W.nsIn K mainGlobals c = some (some (.ref C))) (hB : xrB K C c fs xts = true) (xL : K.lookup C = some (excClassObj nm q0 C N bs bm true sn sub ab col dd m0 m1 m2 m3 m5 "ValueError.__new__")) (hm : PySem.HandSPX.refsVE bm = true) : OexC K C := by
  obtain ⟨a, b1, b2, b3, b4⟩ := xr_of X G hC hB
  exact ⟨⟨_, _, _, _, _, _, _, _, _, _, _, _, _, _, _, xL, hm⟩, b4, a.be, b3, b2⟩
theorem xc1_of {f : Str} (X : K.In h) (G : h.Ns mainGlobals mg) (hC : PySem.W.nsIn K mainGlobals c = some (some (.ref C))) (hB : xrB K C c [f] xts = true) (xL : K.lookup C = some (excClassObj nm q0 C N bs bm true sn sub ab col dd m0 m1 m2 m3 m5 "ValueError.__new__")) (hm : PySem.HandSPX.refsVE bm = true)
    (iC : PySem.W.findIn K (.ref C) "__init__" = some (some (.ref fI))) (tI : PySem.W.typeIn K (.ref fI) = some (.type "function")) (F : Fun K "__init__" q st fI fd) (sc : scB ["self", f] 2 (defScope st) = true) (hb : iniB [f] (defScope st) (defBody st) = true) (bi : Binds K fd ["self", f] []) : ∀ base, ∃ Ca, XcF P w K mg base xts c [f] Ca := fun base => by
  obtain ⟨a, b1, b2, b3, b4⟩ := xr_of X G hC hB
  have T := oex_of X G hC hB xL hm
  exact ⟨C, { toXrF := a, gl := b1, kp := b2, mkf := .inr ⟨by simp, T, fI, fd, iC, tI, ini1_ok F T (a.no f (by simp)) sc hb, bi⟩ }⟩
theorem xc2_of {f g : Str} (X : K.In h) (G : h.Ns mainGlobals mg) (hC : PySem.W.nsIn K mainGlobals c = some (some (.ref C))) (hB : xrB K C c [f, g] xts = true) (xL : K.lookup C = some (excClassObj nm q0 C N bs bm true sn sub ab col dd m0 m1 m2 m3 m5 "ValueError.__new__")) (hm : PySem.HandSPX.refsVE bm = true)
    (iC : PySem.W.findIn K (.ref C) "__init__" = some (some (.ref fI))) (tI : PySem.W.typeIn K (.ref fI) = some (.type "function")) (F : Fun K "__init__" q st fI fd) (sc : scB ["self", f, g] 3 (defScope st) = true) (hb : iniB [f, g] (defScope st) (defBody st) = true) (bi : Binds K fd ["self", f, g] []) : ∀ base, ∃ Ca, XcF P w K mg base xts c [f, g] Ca := fun base => by
  obtain ⟨a, b1, b2, b3, b4⟩ := xr_of X G hC hB
  have T := oex_of X G hC hB xL hm
  exact ⟨C, { toXrF := a, gl := b1, kp := b2, mkf := .inr ⟨by simp, T, fI, fd, iC, tI, ini2_ok F T (a.no f (by simp)) (a.no g (by simp)) sc hb, bi⟩ }⟩
/-- a class with instances -/
def flB (K : PySem.W.Frag) (C : Addr) (fs : List Str) : Bool := PySem.W.plainGet K C Str.empty && PySem.W.hasDictIn K C && PySem.W.plainOver K C && decide (PySem.W.findIn K (.ref C) "__setattr__" = some (some (.builtin "object.__setattr__"))) && fs.all (fun f => decide (PySem.W.findIn K (.ref C) f = some none))
theorem cls_of (hB : flB K C fs = true) : Cls K C ∧ ∀ f ∈ fs, NoAttr K C f := by
  simp only [flB, Bool.and_eq_true, decide_eq_true_eq] at hB
  obtain ⟨⟨⟨⟨h1, h2⟩, h3⟩, h4⟩, h5⟩ := hB
  exact ⟨⟨h1, h2, h3, h4⟩, fun f hf => by simpa [NoAttr] using List.all_eq_true.mp h5 f hf⟩
def icB (K : PySem.W.Frag) (C D : Addr) (b : Bool) : Bool := flB K C [] && decide (PySem.W.findIn K (.ref C) "__class__" = some (some (.builtin "object.__class__"))) && decide (PySem.W.specialIn K (.builtin "object.__class__") "__get__" = some (some (.builtin "getset_descriptor.__get__"))) &&
  decide (PySem.W.takesIn K (.builtin "object.__class__") = some true) && decide (PySem.W.mroIn K C (.type "object") = some true) && decide (PySem.W.kitOne K (.ref C) (.ref D) = some b)
theorem ic_of {t : Str} {D : Addr} {b : Bool} (X : K.In h) (G : h.Ns mainGlobals mg) (hC : PySem.W.nsIn K mainGlobals c = some (some (.ref C))) (hD : PySem.W.nsIn K mainGlobals t = some (some (.ref D))) (hB : icB K C D b = true) : IcF K mg c t b C D := by
  simp only [icB, Bool.and_eq_true, decide_eq_true_eq] at hB
  obtain ⟨⟨⟨⟨⟨h1, h2⟩, h3⟩, h4⟩, h5⟩, h6⟩ := hB
  exact ⟨hC, (cls_of h1).1, h2, h3, h4, h5, PySem.W.mg_of X G hD, h6⟩
end
section
variable {P : Program} {w : World} {K : PySem.W.Frag} {mg : Str → Option Value} {C : CA} {gl : List D} {ds : List Dfn} {cns bls : List Str} {xt : Xt}
/-- the law's own def, at a level -/
theorem law_fd {i : Nat} {d : Dfn} {fa : Addr} (n : Nat) (sm : SM K) (hi : ds[i]? = some d) (hfa : mg d.x = some (.ref fa)) (h1 : d.N.take d.ar = ([("script" : Str)] : List Str))
    (hc : ∀ (i : Nat) (x : Str), cns[i]? = some x → ∃ v u d, gl[i]? = some d ∧ mg x = some u ∧ RelV v u ∧ ∀ H, RD K H v d) (hb : ∀ x, x ∈ bls → mg x = none)
    (hd : ∀ (i : Nat) (d : Dfn), ds[i]? = some d → ∃ st, DefAt (fun N sc => ⟨N, sc, ds.map (·.x), cns, bls, xt⟩) K mg d st) (hx : XtF P w K mg xt ds (fun N sc => ⟨N, sc, ds.map (·.x), cns, bls, xt⟩))
    (st : Stmt) (hst : DefIn K d.x st) (hsc : scB d.N d.ar (defScope st) = true) (hck : chkSs ⟨d.N, defScope st, ds.map (·.x), cns, bls, xt⟩ d.body (defBody st) = true) (X : ∃ h, K.In h ∧ h.Ns mainGlobals mg)
    (bind : ∀ (kV doc pm : Value) (an : Option Addr) (cdv ct u : Value), bindArgs (PySem.W.fnOf d.x d.x (defArgs st) (defBody st) (defScope st) .none kV doc pm an cdv ct) ⟨[u], []⟩ = pure [(("script" : Str), u)]) :
    ∃ fd : FuncData, (∀ (s : Shared) (u : Value), BindsTo s fd ⟨[u], []⟩ [("script", u)]) ∧ ∀ base : Heap, FnG P w K mg base (lv (n + 1)) fa fd ["script"] (spL K C (run gl ds (n + 1) i)) := by
  obtain ⟨h, X, G⟩ := X
  obtain ⟨f, fd, e, F⟩ := hst.mk' X G
  rw [hfa] at e
  cases e
  refine ⟨fd, fun s u => ?_, fun base => ?_⟩
  · obtain ⟨oc, od, kV, doc, pm, an, cdv, ct, osl, rfl, lk, hcd⟩ := F.ex
    exact .of_eq (bind kV doc pm an cdv ct u)
  · have q := fn_lvl (P := P) (w := w) (base := base) (C := C) sm (tab_all sm hc hb hd hx n) hi F hsc hck
    rw [h1] at q
    exact q
end
/-- the goal that the head leaves, from what the defs mean -/
theorem law_end {l : PySem.W.OpenLaw} {n k kk i : Nat} {q : Program} {loose : List Str} {XP : (Str → Option Value) → Heap → Prop} {YP : World → Heap → Prop} {d : DefRec} {K : Params → PySem.W.Frag} {C : World → CA} {gl : List D} {ds : List Dfn}
    (hn : l.most = some n) (hn2 : n ≤ sizeLine) (hdf : d.params.defaults = []) (room : Room kk callerA) (hY : ∀ (w : World) (h : Heap), YP w h → (K w.params).In h)
    (F : ∀ (w : World) (mg : Str → Option Value) (fa : Addr) (h : Heap), (K w.params).In h → h.Ns mainGlobals mg → mg d.name = some (.ref fa) →
      ∃ fd : FuncData, (∀ (s : Shared) (u : Value), BindsTo s fd ⟨[u], []⟩ [("script", u)]) ∧ ∀ base : Heap, FnG l.prog w (K w.params) mg base kk fa fd ["script"] (spL (K w.params) (C w) (run gl ds k i)))
    (goal : ∀ ns : List Int, ns.length ≤ n → run gl ds k i [.fl (ns.map .int)] (fun _ => none) (fun d _ => d = .bl true) fun _ _ => False) : PySem.W.WalkO q loose XP YP l.row.toRowW d [] (fun f vs => PySem.call f vs) := by
  refine Att.attach_call hn hdf fun w s₀ s₁ mg mb fa o pm cd doc a vs ns G Y ho hd hcd hmg hobj hints hlen hg => ?_
  obtain ⟨fd, hb, hF⟩ := F w mg fa _ (hY w _ Y) G.T.g hmg
  exact top_call (hY w _ Y) G.T.g G.T.b G.T.builtins G.T.nolimit hg hobj hints (Nat.le_trans hlen hn2) room (fun base _ _ => hF base) hb (goal ns hlen)
end DL

/-! DL, part U: words for the plain side -/
namespace DL
open PySem L2

theorem up_at {h : DH} {p : Addr} {o : DO} : up h p o p = some o := up_same
theorem up_off {h : DH} {p q : Addr} {o : DO} (n : q ≠ p) : up h p o q = h q := up_ne n
/-- all that stood stands -/
def Ext (h h' : DH) : Prop := ∀ a o, h a = some o → h' a = some o
/-- all but p that stood stands -/
def Ex1 (p : Addr) (h h' : DH) : Prop := ∀ a o, a ≠ p → h a = some o → h' a = some o
theorem Ext.refl {h : DH} : Ext h h := fun _ _ e => e
theorem Ext.trans {h h1 h2 : DH} (a : Ext h h1) (b : Ext h1 h2) : Ext h h2 := fun x o e => b x o (a x o e)
theorem Ext.new {h : DH} {p : Addr} {o : DO} (n : h p = none) : Ext h (up h p o) := fun a u e => by
  have : a ≠ p := fun z => by subst z; rw [n] at e; cases e
  rw [up_off this]; exact e
theorem Ext.ex1 {p : Addr} {h h' : DH} (a : Ext h h') : Ex1 p h h' := fun x o _ e => a x o e
theorem Ex1.refl {p : Addr} {h : DH} : Ex1 p h h := fun _ _ _ e => e
theorem Ex1.trans {p : Addr} {h h1 h2 : DH} (a : Ex1 p h h1) (b : Ex1 p h1 h2) : Ex1 p h h2 := fun x o n e => b x o n (a x o n e)
theorem Ex1.put {p : Addr} {h : DH} {o : DO} : Ex1 p h (up h p o) := fun a u n e => by rw [up_off n]; exact e
/-- what is new is none of those that stood -/
theorem Ext.isnew {h : DH} {p a : Addr} {o : DO} (n : h p = none) (e : h a = some o) : a ≠ p := fun z => by subst z; rw [n] at e; cases e

/-! ### meaning, step by step -/
section
variable {gl : List D} {F : Fns} {rt : QD} {ex : SXD} {s : DSt} {h : DH} {nx : DSt → DH → Prop} {cs a b : CSs} {c : CS} {e o k t x y : CE} {i : Nat} {E : XD} {Q : QD}
theorem ss_nil : wSs gl F rt ex .nil s h nx = nx s h := by simp only [wSs]
theorem ss_cons : wSs gl F rt ex (.cons c cs) s h nx = wS gl F rt ex c s h fun s1 h1 => wSs gl F rt ex cs s1 h1 nx := by simp only [wSs]
theorem s_ife : wS gl F rt ex (.ife t a b) s h nx = wE gl F t s h (asB fun k h1 => if k = true then wSs gl F rt ex a s h1 nx else wSs gl F rt ex b s h1 nx) fun x h' => ex x s h' := by simp only [wS]
end
/-! ### the meaning, case by case -/
def wV (o : Option (Option D)) (h : DH) (Q : QD) : Prop := match o with
  | some (some d) => Q d h
  | _ => False
def wG (o : Option D) (h : DH) (Q : QD) : Prop := match o with
  | some d => Q d h
  | _ => False
theorem wV_some {d : D} {h : DH} {Q : QD} : wV (some (some d)) h Q = Q d h := by rw [wV]
theorem wG_some {d : D} {h : DH} {Q : QD} : wG (some d) h Q = Q d h := by rw [wG]
section
variable {gl : List D} {F : Fns} {s : DSt} {h : DH} {Q : QD} {E : XD}
theorem e_var {i : Nat} : wE gl F (.var i) s h Q E = wV s[i]? h Q := by rw [wE]; rfl
theorem e_non  : wE gl F (.non) s h Q E = (fun _ h Q _ => Q .non h) s h Q E := by rw [wE]
theorem e_bl {b : Bool} : wE gl F (.bl b) s h Q E = (fun _ h Q _ => Q (.bl b) h) s h Q E := by rw [wE]
theorem e_int {i : Int} : wE gl F (.int i) s h Q E = (fun _ h Q _ => Q (.int i) h) s h Q E := by rw [wE]
theorem e_str {x : Str} : wE gl F (.str x) s h Q E = (fun _ h Q _ => Q (.str x) h) s h Q E := by rw [wE]
theorem e_glb {i : Nat} : wE gl F (.glb i) s h Q E = (fun _ h Q _ => wG gl[i]? h Q) s h Q E := by rw [wE]; first | rfl | (cases gl[i]? <;> rfl)
theorem e_bin {z : Bool} {op : Operator} {a b : CE} : wE gl F (.bin z op a b) s h Q E = (fun s h Q E => wE gl F a s h (fun x h1 => wE gl F b s h1 (fun y h2 => wBin z op x y h2 Q) E) E) s h Q E := by rw [wE]
theorem e_neg {a : CE} : wE gl F (.neg a) s h Q E = (fun s h Q E => wE gl F a s h (fun x h1 => wNeg x h1 Q) E) s h Q E := by rw [wE]
theorem e_no {a : CE} : wE gl F (.no a) s h Q E = (fun s h Q E => wE gl F a s h (asB fun b h1 => Q (.bl (!b)) h1) E) s h Q E := by rw [wE]
theorem e_and {a b : CE} : wE gl F (.and a b) s h Q E = (fun s h Q E => wE gl F a s h (asB fun c h1 => if c = true then wE gl F b s h1 (asB fun c' h2 => Q (.bl c') h2) E else Q (.bl false) h1) E) s h Q E := by rw [wE]
theorem e_or {a b : CE} : wE gl F (.or a b) s h Q E = (fun s h Q E => wE gl F a s h (asB fun c h1 => if c = true then Q (.bl true) h1 else wE gl F b s h1 (asB fun c' h2 => Q (.bl c') h2) E) E) s h Q E := by rw [wE]
theorem e_cmp {op : CmpOp} {a b : CE} : wE gl F (.cmp op a b) s h Q E = (fun s h Q E => wE gl F a s h (fun x h1 => wE gl F b s h1 (fun y h2 => wCmp op x y h2 Q) E) E) s h Q E := by rw [wE]
theorem e_chn {op op' : CmpOp} {a b c : CE} : wE gl F (.chn op op' a b c) s h Q E = (fun s h Q E => wE gl F a s h (fun x h1 => wE gl F b s h1 (fun y h2 => wCmp op x y h2 (asB fun k h3 => if k = true then wE gl F c s h3 (fun z h4 => wCmp op' y z h4 Q) E else Q (.bl false) h3)) E) E) s h Q E := by rw [wE]
theorem e_ife {t a b : CE} : wE gl F (.ife t a b) s h Q E = (fun s h Q E => wE gl F t s h (asB fun c h1 => if c = true then wE gl F a s h1 Q E else wE gl F b s h1 Q E) E) s h Q E := by rw [wE]
theorem e_tup {es : CEs} : wE gl F (.tup es) s h Q E = (fun s h Q E => wEs gl F es s h (fun ds h1 => ds.length ≤ 16777216 ∧ Q (.tup ds) h1) E) s h Q E := by rw [wE]
theorem e_lst {z : Bool} {es : CEs} : wE gl F (.lst z es) s h Q E = (fun s h Q E => wEs gl F es s h (fun ds h1 => ds.length ≤ 16777216 ∧ al z (.lst ds) h1 Q) E) s h Q E := by rw [wE]
theorem e_dnew  : wE gl F (.dnew) s h Q E = (fun _ h Q _ => (∀ p, h p = none → Q (.ref p) (up h p (.dK []))) ∨ (∀ p, h p = none → Q (.ref p) (up h p (.dT [])))) s h Q E := by rw [wE]
theorem e_idx {a i : CE} : wE gl F (.idx a i) s h Q E = (fun s h Q E => wE gl F a s h (fun x h1 => wE gl F i s h1 (fun y h2 => wIdx x y h2 Q) E) E) s h Q E := by rw [wE]
theorem e_slc {z : Bool} {a : CE} {lo hi : CO} : wE gl F (.slc z a lo hi) s h Q E = (fun s h Q E => wE gl F a s h (fun x h1 => wO gl F lo s h1 (fun l h2 => wO gl F hi s h2 (fun u h3 => wSlc z x l u h3 Q) E) E) E) s h Q E := by rw [wE]
theorem e_call {f : Nat} {es : CEs} : wE gl F (.call f es) s h Q E = (fun s h Q E => wEs gl F es s h (fun ds h1 => F f ds h1 Q E) E) s h Q E := by rw [wE]
theorem e_blt {z : Bool} {f : Blt} {es : CEs} : wE gl F (.blt z f es) s h Q E = (fun s h Q E => wEs gl F es s h (fun ds h1 => wB z f ds h1 Q) E) s h Q E := by rw [wE]
theorem e_mtd {z : Bool} {m : Mtd} {o : CE} {es : CEs} : wE gl F (.mtd z m o es) s h Q E = (fun s h Q E => wE gl F o s h (fun x h1 => tyD m.ty x h1 ∧ wEs gl F es s h1 (fun ds h2 => wM z m x ds h2 Q) E) E) s h Q E := by rw [wE]
theorem e_isi {a : CE} {T : String} : wE gl F (.isi a T) s h Q E = (fun s h Q E => wE gl F a s h (fun x h1 => wIsi T x h1 Q) E) s h Q E := by rw [wE]
theorem e_dis {z : Bool} {ks : List Key} {es : CEs} : wE gl F (.dis z ks es) s h Q E = ∀ p, h p = none → wEs gl F es s (up h p (.dK [])) (fun ds h2 => h2 p = some (.dK []) ∧ wDis z p (dputs ks ds) h2 Q) E := by rw [wE]
theorem e_stp {z : Bool} {a : CE} {k : CO} : wE gl F (.stp z a k) s h Q E = wE gl F a s h (fun x h1 => wO gl F k s h1 (fun o h2 => wStp z x o h2 Q) E) E := by rw [wE]
theorem e_mnd {a d : CE} : wE gl F (.mnd a d) s h Q E = wE gl F a s h (fun x h1 => wE gl F d s h1 (fun y h2 => wMnd x y h2 Q) E) E := by rw [wE]
theorem e_lzp {z : Bool} {a b : CE} : wE gl F (.lzp z a b) s h Q E = wE gl F a s h (fun x h1 => wE gl F b s h1 (fun y h2 => wLzp z x y h2 Q) E) E := by rw [wE]
theorem e_tzp {a b : CE} : wE gl F (.tzp a b) s h Q E = wE gl F a s h (fun x h1 => wE gl F b s h1 (fun y h2 => wTzp x y h2 Q) E) E := by rw [wE]
theorem e_fnv {x : Str} : wE gl F (.fnv x) s h Q E = Q (.fn x) h := by rw [wE]
theorem e_cal {i : Nat} {tb : List (Str × Nat)} {es : CEs} : wE gl F (.cal i tb es) s h Q E = wMt (fnI tb s[i]?) fun j => wEs gl F es s h (fun ds h1 => F j ds h1 Q E) E := by rw [wE]
theorem e_lrg {z : Bool} {a b : CE} : wE gl F (.lrg z a b) s h Q E = wE gl F a s h (fun x h1 => wE gl F b s h1 (fun y h2 => wLrg z x y h2 Q) E) E := by rw [wE]
theorem e_sset {z : Bool} {a : CE} : wE gl F (.sset z a) s h Q E = wE gl F a s h (fun x h1 => wSset z x h1 Q) E := by rw [wE]
theorem e_lset {a : CE} : wE gl F (.lset a) s h Q E = wE gl F a s h (fun x h1 => wLset x h1 Q) E := by rw [wE]
theorem e_rev {z : Bool} {a : CE} : wE gl F (.rev z a) s h Q E = wE gl F a s h (fun x h1 => wRev z x h1 Q) E := by rw [wE]
theorem e_frz {a : CE} : wE gl F (.frz a) s h Q E = wE gl F a s h (fun x h1 => wFrz x h1 Q) E := by rw [wE]
theorem e_gc {a : CE} : wE gl F (.gc a) s h Q E = wE gl F a s h (fun x h1 => Q x (rst h h1)) E := by rw [wE]
theorem e_comp {z : Bool} {own : List (Str × Nat)} {t : CT} {it : CI} {test : CO} {e : CE} : wE gl F (.comp z own t it test e) s h Q E = (fun s h Q E => wI gl F it s h (fun J h1 => wComp z J (fun d h2 R => wTg t d (wipeD s (own.map (·.2))) h2 fun s2 h3 => wT gl F test s2 h3 fun b h4 => R b s2 h4) (fun s2 h2 R => wE gl F e s2 h2 R fun _ _ => False) h1 Q) E) s h Q E := by rw [wE]
end
theorem asB_bl {Q : Bool → DH → Prop} {b : Bool} {h : DH} : asB Q (.bl b) h = Q b h := by rw [asB]
theorem dec_ite {p : Prop} [Decidable p] {A B : Prop} (h1 : p → A) (h2 : ¬ p → B) : if decide p = true then A else B := by
  by_cases h : p
  · rw [decide_eq_true h, if_pos rfl]; exact h1 h
  · rw [decide_eq_false h, if_neg Bool.false_ne_true]; exact h2 h

theorem ixN_eq {n : Nat} {i : Int} : ixN n i = if 0 ≤ i then (if i < n then some i.toNat else none) else if -(n : Int) ≤ i then some (i + n).toNat else none := rfl
section
variable {x y z u v w : D} {xs : List D} {h : DH} {Q : QD}
theorem wAt_0 : wAt (x :: xs) (.int 0) h Q = Q x h := by
  simp [wAt, L2.atI, ixN_eq]
theorem wAt_1 : wAt (x :: y :: xs) (.int 1) h Q = Q y h := by
  have : (1 : Int) < ((xs.length + 1 + 1 : Nat) : Int) := by omega
  simp [wAt, L2.atI, ixN_eq]
  rw [if_pos (by omega)]
  rfl
theorem wAt_2 : wAt (x :: y :: z :: xs) (.int 2) h Q = Q z h := by
  simp [wAt, L2.atI, ixN_eq]
  rw [if_pos (by omega)]
  rfl
theorem wAt_3 : wAt (x :: y :: z :: u :: xs) (.int 3) h Q = Q u h := by
  simp [wAt, L2.atI, ixN_eq]
  rw [if_pos (by omega)]
  rfl
theorem ix30 : ixN 3 0 = some 0 := rfl
theorem ix31 : ixN 3 1 = some 1 := rfl
theorem ix32 : ixN 3 2 = some 2 := rfl
end
theorem ndec_ite {p : Prop} [Decidable p] {A B : Prop} (h1 : ¬ p → A) (h2 : p → B) : if (!decide p) = true then A else B := by
  by_cases h : p
  · rw [decide_eq_true h]; exact h2 h
  · rw [decide_eq_false h]; exact h1 h
theorem wIsi_eq {x : D} {h : DH} {Q : QD} {t T : String} (e : tyOf x h = some t) : wIsi T x h Q = Q (.bl (isTy t T)) h := by
  unfold wIsi
  simp only [e]
/-- a def's rest -/
abbrev go (gl : List D) (ds : List Dfn) (n : Nat) (Q : QD) (E : XD) (b : CSs) (s : DSt) (h : DH) : Prop := wSs gl (run gl ds n) Q (fun x _ h' => E x h') b s h fun _ h' => Q .non h'
/-! ### ints in lists -/
theorem iL_get {xs : List Int} {j : Nat} : (iL xs)[j]? = (xs[j]?).map D.int := by unfold iL; rw [List.getElem?_map]
theorem iL_len {xs : List Int} : (iL xs).length = xs.length := by unfold iL; rw [List.length_map]
theorem iL_nil : iL [] = [] := rfl
theorem iL_cons {x : Int} {xs : List Int} : iL (x :: xs) = .int x :: iL xs := rfl
theorem iL_app {xs ys : List Int} : iL (xs ++ ys) = iL xs ++ iL ys := by unfold iL; rw [List.map_append]
theorem ix_nat {n j : Nat} (h : j < n) : ixN n (j : Int) = some j := by
  unfold L2.ixN
  rw [if_pos (by omega), if_pos (by omega), Int.toNat_natCast]
theorem ix_int {n : Nat} {i : Int} (h0 : 0 ≤ i) (h : i < n) : ixN n i = some i.toNat := by
  unfold L2.ixN
  rw [if_pos h0, if_pos h]
theorem ix_neg {n : Nat} {i : Int} (h0 : i < 0) (h : -(n : Int) ≤ i) : ixN n i = some (i + n).toNat := by
  unfold L2.ixN
  rw [if_neg (by omega), if_pos h]
theorem wAt_iL {xs : List Int} {i : Int} {h : DH} {Q : QD} (h0 : 0 ≤ i) (hl : i < xs.length) (q : ∀ v, v ∈ xs → xs[i.toNat]? = some v → Q (.int v) h) : wAt (iL xs) (.int i) h Q := by
  unfold wAt
  have hi : i.toNat < xs.length := by omega
  have e : atI (iL xs) i = some (.int xs[i.toNat]) := by
    unfold L2.atI
    rw [iL_len, ix_int h0 hl]
    show (iL xs)[i.toNat]? = _
    rw [iL_get, List.getElem?_eq_getElem hi]
    rfl
  simp only [e]
  exact q _ (List.getElem_mem hi) (List.getElem?_eq_getElem hi)
theorem wAt_at {xs : List D} {i : Int} {h : DH} {Q : QD} (h0 : 0 ≤ i) (hl : i < xs.length) (q : ∀ v, v ∈ xs → xs[i.toNat]? = some v → Q v h) : wAt xs (.int i) h Q := by
  unfold wAt
  have hi : i.toNat < xs.length := by omega
  have e : atI xs i = some xs[i.toNat] := by
    unfold L2.atI
    rw [ix_int h0 hl]
    show xs[i.toNat]? = _
    rw [List.getElem?_eq_getElem hi]
  simp only [e]
  exact q _ (List.getElem_mem hi) (List.getElem?_eq_getElem hi)
/-- equality of lists of ints -/
theorem eqv_ints : ∀ xs ys : List Int, PyData.eqvAll (xs.map .int) (ys.map .int) = decide (xs = ys)
  | [], [] => rfl
  | [], y :: ys => by simp [PyData.eqvAll]
  | x :: xs, [] => by simp [PyData.eqvAll]
  | x :: xs, y :: ys => by
    rw [List.map_cons, List.map_cons, PyData.eqvAll, eqv_ints xs ys, PyData.eqv]
    by_cases h : x = y
    · simp [h]
    · simp [h]
theorem dpys_ints {h : DH} : ∀ xs : List Int, DPys h (iL xs) (xs.map .int)
  | [] => .nil
  | x :: xs => .cons (.int x) (dpys_ints xs)
theorem lay_ints : ∀ xs : List Int, PyData.canLayAll0 (xs.map .int) = true
  | [] => rfl
  | x :: xs => by rw [List.map_cons, PyData.canLayAll0, lay_ints xs, PyData.canLay0]; rfl
theorem depth_ints : ∀ xs : List Int, PyData.depthAll (xs.map .int) ≤ 1
  | [] => by simp [PyData.depthAll]
  | x :: xs => by
    have := depth_ints xs
    rw [List.map_cons, PyData.depthAll, PyData.depth]
    omega
theorem shaped_ints (xs : List Int) : SeqAt.shaped (.list (xs.map .int)) = true := by
  unfold SeqAt.shaped
  rw [PyData.canLay0, lay_ints, Bool.true_and, decide_eq_true_eq, PyData.depth]
  have := depth_ints xs
  omega
theorem wEq_ints {neg : Bool} {a b : Addr} {xs ys : List Int} {h : DH} {Q : QD} (ha : h a = some (.lst (iL xs))) (hb : h b = some (.lst (iL ys))) (q : Q (.bl (neg ^^ decide (xs = ys))) h) : wEq neg (.ref a) (.ref b) h Q := by
  show wEqG neg _ _ h Q
  refine ⟨.list (xs.map .int), .list (ys.map .int), .lst ha (dpys_ints xs), .lst hb (dpys_ints ys), shp_of (shaped_ints xs), shp_of (shaped_ints ys), ?_⟩
  rw [PyData.eqv, eqv_ints]
  exact q

/-! ### loops -/
section
variable {tg : D → DSt → DH → (DSt → DH → Prop) → Prop} {body : DSt → DH → (DSt → DH → Prop) → Prop} {s : DSt} {h : DH} {nx : DSt → DH → Prop}
theorem loop_rng {lo : Int} {n : Nat} (P : Nat → DSt → DH → Prop) (h0 : P 0 s h) (step : ∀ i s h, i < n → P i s h → tg (.int (lo + i)) s h fun s2 h2 => body s2 h2 (P (i + 1))) (fin : ∀ s h, P n s h → nx s h) : wLoop (.rng lo n) tg body s h nx := by
  refine ⟨fun i m s h => i ≤ n ∧ m = n - i ∧ P i s h, ⟨n, Nat.zero_le _, rfl, h0⟩, fun i m s h ⟨hi, hm, p⟩ => ?_⟩
  by_cases q : i < n
  · simp only [nextD, if_pos q]
    exact ⟨P (i + 1), fun s' h' p' => ⟨n - (i + 1), by omega, by omega, rfl, p'⟩, step i s h q p⟩
  · simp only [nextD, if_neg q]
    have : i = n := by omega
    subst this
    exact fin _ _ p
theorem loop_fix {xs : List D} (P : Nat → DSt → DH → Prop) (h0 : P 0 s h) (step : ∀ i d s h, xs[i]? = some d → P i s h → tg d s h fun s2 h2 => body s2 h2 (P (i + 1))) (fin : ∀ s h, P xs.length s h → nx s h) : wLoop (.fix xs) tg body s h nx := by
  refine ⟨fun i m s h => i ≤ xs.length ∧ m = xs.length - i ∧ P i s h, ⟨xs.length, Nat.zero_le _, rfl, h0⟩, fun i m s h ⟨hi, hm, p⟩ => ?_⟩
  by_cases q : i < xs.length
  · simp only [nextD, List.getElem?_eq_getElem q]
    exact ⟨P (i + 1), fun s' h' p' => ⟨xs.length - (i + 1), by omega, by omega, rfl, p'⟩, step i _ s h (List.getElem?_eq_getElem q) p⟩
  · simp only [nextD, List.getElem?_eq_none (Nat.le_of_not_lt q)]
    have : i = xs.length := by omega
    subst this
    exact fin _ _ p
theorem loop_lst {a : Addr} {xs : List D} (P : Nat → DSt → DH → Prop) (h0 : P 0 s h) (ha : ∀ i s h, P i s h → h a = some (.lst xs)) (step : ∀ i d s h, xs[i]? = some d → P i s h → tg d s h fun s2 h2 => body s2 h2 (P (i + 1))) (fin : ∀ s h, P xs.length s h → nx s h) : wLoop (.lst a) tg body s h nx := by
  refine ⟨fun i m s h => i ≤ xs.length ∧ m = xs.length - i ∧ P i s h, ⟨xs.length, Nat.zero_le _, rfl, h0⟩, fun i m s h ⟨hi, hm, p⟩ => ?_⟩
  have hx := ha i s h p
  by_cases q : i < xs.length
  · simp only [nextD, hx, List.getElem?_eq_getElem q]
    exact ⟨P (i + 1), fun s' h' p' => ⟨xs.length - (i + 1), by omega, by omega, rfl, p'⟩, step i _ s h (List.getElem?_eq_getElem q) p⟩
  · simp only [nextD, hx, List.getElem?_eq_none (Nat.le_of_not_lt q)]
    have : i = xs.length := by omega
    subst this
    exact fin _ _ p
end
section
variable {z : Bool} {turn : D → DH → (Bool → DSt → DH → Prop) → Prop} {elt : DSt → DH → QD → Prop} {h : DH} {Q : QD}
theorem comp_rng {lo : Int} {n : Nat} (P : Nat → DH → List D → Prop) (h0 : P 0 h [])
    (step : ∀ i h acc, i < n → P i h acc → turn (.int (lo + i)) h fun b s2 h2 => if b = true then elt s2 h2 fun y h3 => acc.length < 16777216 ∧ P (i + 1) h3 (acc ++ [y]) else P (i + 1) h2 acc) (fin : ∀ h acc, P n h acc → al z (.lst acc) h Q) : wComp z (.rng lo n) turn elt h Q := by
  refine ⟨fun i m h acc => i ≤ n ∧ m = n - i ∧ P i h acc, ⟨n, Nat.zero_le _, rfl, h0⟩, fun i m h acc ⟨hi, hm, p⟩ => ?_⟩
  by_cases q : i < n
  · simp only [nextD, if_pos q]
    exact ⟨P (i + 1), fun s' h' p' => ⟨n - (i + 1), by omega, by omega, rfl, p'⟩, step i h acc q p⟩
  · simp only [nextD, if_neg q]
    have : i = n := by omega
    subst this
    exact fin _ _ p
theorem comp_fix {xs : List D} (P : Nat → DH → List D → Prop) (h0 : P 0 h [])
    (step : ∀ i d h acc, xs[i]? = some d → P i h acc → turn d h fun b s2 h2 => if b = true then elt s2 h2 fun y h3 => acc.length < 16777216 ∧ P (i + 1) h3 (acc ++ [y]) else P (i + 1) h2 acc) (fin : ∀ h acc, P xs.length h acc → al z (.lst acc) h Q) : wComp z (.fix xs) turn elt h Q := by
  refine ⟨fun i m h acc => i ≤ xs.length ∧ m = xs.length - i ∧ P i h acc, ⟨xs.length, Nat.zero_le _, rfl, h0⟩, fun i m h acc ⟨hi, hm, p⟩ => ?_⟩
  by_cases q : i < xs.length
  · simp only [nextD, List.getElem?_eq_getElem q]
    exact ⟨P (i + 1), fun s' h' p' => ⟨xs.length - (i + 1), by omega, by omega, rfl, p'⟩, step i _ h acc (List.getElem?_eq_getElem q) p⟩
  · simp only [nextD, List.getElem?_eq_none (Nat.le_of_not_lt q)]
    have : i = xs.length := by omega
    subst this
    exact fin _ _ p
theorem comp_lst {a : Addr} {xs : List D} (P : Nat → DH → List D → Prop) (h0 : P 0 h []) (ha : ∀ i h acc, P i h acc → h a = some (.lst xs))
    (step : ∀ i d h acc, xs[i]? = some d → P i h acc → turn d h fun b s2 h2 => if b = true then elt s2 h2 fun y h3 => acc.length < 16777216 ∧ P (i + 1) h3 (acc ++ [y]) else P (i + 1) h2 acc) (fin : ∀ h acc, P xs.length h acc → al z (.lst acc) h Q) : wComp z (.lst a) turn elt h Q := by
  refine ⟨fun i m h acc => i ≤ xs.length ∧ m = xs.length - i ∧ P i h acc, ⟨xs.length, Nat.zero_le _, rfl, h0⟩, fun i m h acc ⟨hi, hm, p⟩ => ?_⟩
  have hx := ha i h acc p
  by_cases q : i < xs.length
  · simp only [nextD, hx, List.getElem?_eq_getElem q]
    exact ⟨P (i + 1), fun s' h' p' => ⟨xs.length - (i + 1), by omega, by omega, rfl, p'⟩, step i _ h acc (List.getElem?_eq_getElem q) p⟩
  · simp only [nextD, hx, List.getElem?_eq_none (Nat.le_of_not_lt q)]
    have : i = xs.length := by omega
    subst this
    exact fin _ _ p
end
end DL

/-! data of a type as deep values -/
namespace DL
open PySem L2

/-- a list that stands as a tuple -/
structure TL (α : Type) where
  l : List α
  deriving DecidableEq
/-- three, four things -/
structure Tr (α β γ : Type) where
  a : α
  b : β
  c : γ
  deriving DecidableEq
structure Qd (α β γ δ : Type) where
  a : α
  b : β
  c : γ
  d : δ
  deriving DecidableEq
class Dt (α : Type) where
  d : α → D
  pu : ∀ x, pure? (d x) = true
  n : Nat
  dep : ∀ x, (toPy (d x)).depth ≤ n
  de : DecidableEq α
  eqv : ∀ x y, PyData.eqv (toPy (d x)) (toPy (d y)) = decide (x = y)
/-- the value of a datum -/
abbrev V {α : Type} [Dt α] (x : α) : D := Dt.d x
abbrev Vp {α : Type} [Dt α] (x : α) : PyData := toPy (Dt.d x)
instance instDe {α : Type} [i : Dt α] : DecidableEq α := i.de
theorem pures_map {α : Type} {f : α → D} (h : ∀ x, pure? (f x) = true) : ∀ xs : List α, pures? (xs.map f) = true
  | [] => by simp [pures?]
  | x :: xs => by rw [List.map_cons, pures?, h x, pures_map h xs]; rfl
theorem toPys_map {α : Type} {f : α → D} : ∀ xs : List α, toPys (xs.map f) = xs.map fun x => toPy (f x)
  | [] => by simp [toPys]
  | x :: xs => by rw [List.map_cons, toPys, toPys_map xs, List.map_cons]
theorem depth_map {α : Type} {f : α → PyData} {n : Nat} (h : ∀ x, (f x).depth ≤ n) : ∀ xs : List α, PyData.depthAll (xs.map f) ≤ n
  | [] => by simp [PyData.depthAll]
  | x :: xs => by
    have := h x
    have := depth_map h xs
    rw [List.map_cons, PyData.depthAll]
    omega
theorem eqv_map {α : Type} [DecidableEq α] {f : α → PyData} (h : ∀ x y, PyData.eqv (f x) (f y) = decide (x = y)) : ∀ xs ys : List α, PyData.eqvAll (xs.map f) (ys.map f) = decide (xs = ys)
  | [], [] => by simp [PyData.eqvAll]
  | [], y :: ys => by simp [PyData.eqvAll]
  | x :: xs, [] => by simp [PyData.eqvAll]
  | x :: xs, y :: ys => by
    rw [List.map_cons, List.map_cons, PyData.eqvAll, h, eqv_map h xs ys]
    by_cases e : x = y
    · subst e
      by_cases e2 : xs = ys
      · subst e2; simp
      · simp [e2]
    · simp [e]
@[reducible] instance : Dt Int := ⟨.int, fun _ => by simp [pure?], 0, fun _ => by simp [toPy, PyData.depth], inferInstance, fun x y => by
  simp only [toPy, PyData.eqv]
  by_cases e : x = y <;> simp [e]⟩
@[reducible] instance : Dt Bool := ⟨.bl, fun _ => by simp [pure?], 0, fun _ => by simp [toPy, PyData.depth], inferInstance, fun x y => by
  simp only [toPy, PyData.eqv]
  cases x <;> cases y <;> rfl⟩
@[reducible] instance : Dt Str := ⟨.str, fun _ => by simp [pure?], 0, fun _ => by simp [toPy, PyData.depth], inferInstance, fun x y => by
  simp only [toPy, PyData.eqv]
  by_cases e : x = y <;> simp [e]⟩
@[reducible] instance {α : Type} [Dt α] : Dt (List α) := ⟨fun xs => .fl (xs.map Dt.d), fun xs => by simp only [pure?]; exact pures_map Dt.pu xs, Dt.n α + 1, fun xs => by
    simp only [toPy, toPys_map, PyData.depth]
    have := depth_map (f := fun x : α => toPy (Dt.d x)) Dt.dep xs
    omega, inferInstance, fun xs ys => by
    simp only [toPy, toPys_map, PyData.eqv]
    exact eqv_map Dt.eqv xs ys⟩
@[reducible] instance {α : Type} [Dt α] : Dt (TL α) := ⟨fun xs => .tup (xs.l.map Dt.d), fun xs => by simp only [pure?]; exact pures_map Dt.pu xs.l, Dt.n α + 1, fun xs => by
    simp only [toPy, toPys_map, PyData.depth]
    have := depth_map (f := fun x : α => toPy (Dt.d x)) Dt.dep xs.l
    omega, inferInstance, fun xs ys => by
    simp only [toPy, toPys_map, PyData.eqv]
    rw [eqv_map Dt.eqv xs.l ys.l]
    cases xs; cases ys
    simp⟩
@[reducible] instance {α β : Type} [Dt α] [Dt β] : Dt (α × β) := ⟨fun x => .tup [Dt.d x.1, Dt.d x.2], fun x => by simp [pure?, pures?, Dt.pu], max (Dt.n α) (Dt.n β) + 1, fun x => by
    have := Dt.dep x.1
    have := Dt.dep x.2
    simp only [toPy, toPys, PyData.depth, PyData.depthAll]
    omega, inferInstance, fun x y => by
    simp only [toPy, toPys, PyData.eqv, PyData.eqvAll, Dt.eqv]
    obtain ⟨a, b⟩ := x
    obtain ⟨c, d⟩ := y
    by_cases e : a = c <;> by_cases e2 : b = d <;> simp [e, e2]⟩
@[reducible] instance {α β γ : Type} [Dt α] [Dt β] [Dt γ] : Dt (Tr α β γ) := ⟨fun x => .tup [Dt.d x.a, Dt.d x.b, Dt.d x.c], fun x => by simp [pure?, pures?, Dt.pu], max (max (Dt.n α) (Dt.n β)) (Dt.n γ) + 1, fun x => by
    have := Dt.dep x.a
    have := Dt.dep x.b
    have := Dt.dep x.c
    simp only [toPy, toPys, PyData.depth, PyData.depthAll]
    omega, inferInstance, fun x y => by
    simp only [toPy, toPys, PyData.eqv, PyData.eqvAll, Dt.eqv]
    obtain ⟨a, b, c⟩ := x
    obtain ⟨a', b', c'⟩ := y
    by_cases e : a = a' <;> by_cases e2 : b = b' <;> by_cases e3 : c = c' <;> simp [e, e2, e3]⟩
@[reducible] instance {α β γ δ : Type} [Dt α] [Dt β] [Dt γ] [Dt δ] : Dt (Qd α β γ δ) := ⟨fun x => .tup [Dt.d x.a, Dt.d x.b, Dt.d x.c, Dt.d x.d], fun x => by simp [pure?, pures?, Dt.pu], max (max (Dt.n α) (Dt.n β)) (max (Dt.n γ) (Dt.n δ)) + 1, fun x => by
    have := Dt.dep x.a
    have := Dt.dep x.b
    have := Dt.dep x.c
    have := Dt.dep x.d
    simp only [toPy, toPys, PyData.depth, PyData.depthAll]
    omega, inferInstance, fun x y => by
    simp only [toPy, toPys, PyData.eqv, PyData.eqvAll, Dt.eqv]
    obtain ⟨a, b, c, d⟩ := x
    obtain ⟨a', b', c', d'⟩ := y
    by_cases e : a = a' <;> by_cases e2 : b = b' <;> by_cases e3 : c = c' <;> by_cases e4 : d = d' <;> simp [e, e2, e3, e4]⟩
section
variable {α β γ δ : Type} [Dt α] [Dt β] [Dt γ] [Dt δ]
theorem V_int (x : Int) : (Dt.d x : D) = .int x := rfl
theorem V_bl (x : Bool) : (Dt.d x : D) = .bl x := rfl
theorem V_str (x : Str) : (Dt.d x : D) = .str x := rfl
theorem V_lst (x : List α) : (Dt.d x : D) = .fl (x.map Dt.d) := rfl
theorem V_tl (x : TL α) : (Dt.d x : D) = .tup (x.l.map Dt.d) := rfl
theorem V_pr (x : α × β) : (Dt.d x : D) = .tup [Dt.d x.1, Dt.d x.2] := rfl
theorem V_tr (x : Tr α β γ) : (Dt.d x : D) = .tup [Dt.d x.a, Dt.d x.b, Dt.d x.c] := rfl
theorem V_qd (x : Qd α β γ δ) : (Dt.d x : D) = .tup [Dt.d x.a, Dt.d x.b, Dt.d x.c, Dt.d x.d] := rfl
theorem V_ints : (Dt.d : Int → D) = .int := rfl
theorem P_int (x : Int) : toPy (Dt.d x) = .int x := by rw [V_int, toPy]
theorem P_bl (x : Bool) : toPy (Dt.d x) = .bool x := by rw [V_bl, toPy]
theorem P_str (x : Str) : toPy (Dt.d x) = .str x := by rw [V_str, toPy]
theorem P_lst (x : List α) : toPy (Dt.d x) = .list (x.map fun y => toPy (Dt.d y)) := by rw [V_lst, toPy, toPys_map]
theorem P_tl (x : TL α) : toPy (Dt.d x) = .tuple (x.l.map fun y => toPy (Dt.d y)) := by rw [V_tl, toPy, toPys_map]
theorem P_pr (x : α × β) : toPy (Dt.d x) = .tuple [toPy (Dt.d x.1), toPy (Dt.d x.2)] := by rw [V_pr]; simp only [toPy, toPys]
theorem P_tr (x : Tr α β γ) : toPy (Dt.d x) = .tuple [toPy (Dt.d x.a), toPy (Dt.d x.b), toPy (Dt.d x.c)] := by rw [V_tr]; simp only [toPy, toPys]
theorem P_qd (x : Qd α β γ δ) : toPy (Dt.d x) = .tuple [toPy (Dt.d x.a), toPy (Dt.d x.b), toPy (Dt.d x.c), toPy (Dt.d x.d)] := by rw [V_qd]; simp only [toPy, toPys]
end
/-- what can be laid: texts of proper signs -/
class Ly (α : Type) [Dt α] where
  ok : α → Prop
  lay : ∀ x, ok x → PyData.canLay0 (toPy (Dt.d x)) = true
theorem lay_map {α : Type} {f : α → PyData} {P : α → Prop} (h : ∀ x, P x → PyData.canLay0 (f x) = true) : ∀ xs : List α, (∀ x ∈ xs, P x) → PyData.canLayAll0 (xs.map f) = true
  | [], _ => by simp [PyData.canLayAll0]
  | x :: xs, hp => by
    rw [List.map_cons, PyData.canLayAll0, h x (hp x (by simp)), lay_map h xs fun y hy => hp y (by simp [hy])]
    rfl
instance : Ly Int := ⟨fun _ => True, fun _ _ => by rw [P_int, PyData.canLay0]⟩
instance : Ly Bool := ⟨fun _ => True, fun _ _ => by rw [P_bl, PyData.canLay0]⟩
instance : Ly Str := ⟨fun x => PyData.canLay0 (.str x) = true, fun x h => by rw [P_str]; exact h⟩
instance {α : Type} [Dt α] [Ly α] : Ly (List α) := ⟨fun xs => ∀ x ∈ xs, Ly.ok x, fun xs h => by
  simp only [P_lst, PyData.canLay0]
  exact lay_map Ly.lay xs h⟩
instance {α : Type} [Dt α] [Ly α] : Ly (TL α) := ⟨fun xs => ∀ x ∈ xs.l, Ly.ok x, fun xs h => by
  simp only [P_tl, PyData.canLay0]
  exact lay_map Ly.lay xs.l h⟩
instance {α β : Type} [Dt α] [Dt β] [Ly α] [Ly β] : Ly (α × β) := ⟨fun x => Ly.ok x.1 ∧ Ly.ok x.2, fun x h => by
  simp only [P_pr, PyData.canLay0, PyData.canLayAll0, Ly.lay x.1 h.1, Ly.lay x.2 h.2]
  rfl⟩
instance {α β γ : Type} [Dt α] [Dt β] [Dt γ] [Ly α] [Ly β] [Ly γ] : Ly (Tr α β γ) := ⟨fun x => Ly.ok x.a ∧ Ly.ok x.b ∧ Ly.ok x.c, fun x h => by
  simp only [P_tr, PyData.canLay0, PyData.canLayAll0, Ly.lay x.a h.1, Ly.lay x.b h.2.1, Ly.lay x.c h.2.2]
  rfl⟩
instance {α β γ δ : Type} [Dt α] [Dt β] [Dt γ] [Dt δ] [Ly α] [Ly β] [Ly γ] [Ly δ] : Ly (Qd α β γ δ) := ⟨fun x => Ly.ok x.a ∧ Ly.ok x.b ∧ Ly.ok x.c ∧ Ly.ok x.d, fun x h => by
  simp only [P_qd, PyData.canLay0, PyData.canLayAll0, Ly.lay x.a h.1, Ly.lay x.b h.2.1, Ly.lay x.c h.2.2.1, Ly.lay x.d h.2.2.2]
  rfl⟩
/-- all can be laid -/
class LyT (α : Type) [Dt α] [Ly α] : Prop where
  all : ∀ x : α, Ly.ok x
instance : LyT Int := ⟨fun _ => trivial⟩
instance : LyT Bool := ⟨fun _ => trivial⟩
instance {α : Type} [Dt α] [Ly α] [LyT α] : LyT (List α) := ⟨fun _ _ _ => LyT.all _⟩
instance {α : Type} [Dt α] [Ly α] [LyT α] : LyT (TL α) := ⟨fun _ _ _ => LyT.all _⟩
instance {α β : Type} [Dt α] [Dt β] [Ly α] [Ly β] [LyT α] [LyT β] : LyT (α × β) := ⟨fun _ => ⟨LyT.all _, LyT.all _⟩⟩
instance {α β γ : Type} [Dt α] [Dt β] [Dt γ] [Ly α] [Ly β] [Ly γ] [LyT α] [LyT β] [LyT γ] : LyT (Tr α β γ) := ⟨fun _ => ⟨LyT.all _, LyT.all _, LyT.all _⟩⟩
instance {α β γ δ : Type} [Dt α] [Dt β] [Dt γ] [Dt δ] [Ly α] [Ly β] [Ly γ] [Ly δ] [LyT α] [LyT β] [LyT γ] [LyT δ] : LyT (Qd α β γ δ) := ⟨fun _ => ⟨LyT.all _, LyT.all _, LyT.all _, LyT.all _⟩⟩
mutual
theorem plain_toPy : ∀ d : D, (toPy d).plain = true
  | .non => by rw [toPy]; rfl
  | .bl b => by rw [toPy]; rfl
  | .int b => by rw [toPy]; rfl
  | .str b => by rw [toPy]; rfl
  | .tup ds => by rw [toPy, PyData.plain]; exact plain_toPys ds
  | .kt _ ds => by rw [toPy, PyData.plain]; exact plain_toPys ds
  | .fl ds => by rw [toPy, PyData.plain]; exact plain_toPys ds
  | .ref _ => by simp only [toPy]; rfl
  | .dk _ => by simp only [toPy]; rfl
  | .dt _ => by simp only [toPy]; rfl
  | .ob _ _ => by simp only [toPy]; rfl
  | .ex _ _ => by simp only [toPy]; rfl
  | .fn _ => by simp only [toPy]; rfl
theorem plain_toPys : ∀ ds : List D, PyData.plainAll (toPys ds) = true
  | [] => rfl
  | d :: ds => by rw [toPys, PyData.plainAll, plain_toPy d, plain_toPys ds]; rfl
end
section
variable {α : Type} [Dt α]
theorem Dt.py {h : DH} (x : α) : DPy h (Dt.d x) (toPy (Dt.d x)) := DPy.of _ (Dt.pu x)
theorem shaped_v0 [Ly α] (x : α) (o : Ly.ok x) (n : Dt.n α ≤ 64) : SeqAt.shaped (toPy (Dt.d x)) = true := by
  unfold SeqAt.shaped
  rw [Ly.lay x o, Bool.true_and, decide_eq_true_eq]
  have := Dt.dep x
  omega
theorem shaped_w (x : α) (n : Dt.n α ≤ 64) : shp (toPy (Dt.d x)) = true := by
  unfold shp
  rw [plain_toPy, Bool.true_and, decide_eq_true_eq]
  have := Dt.dep x
  omega
theorem shaped_v [Ly α] (x : α) (o : Ly.ok x) (n : Dt.n α ≤ 64) : shp (toPy (Dt.d x)) = true := shaped_w x n
theorem wEq_of {neg : Bool} {x y : D} {d e : PyData} {h : DH} {Q : QD} (a : DPy h x d) (b : DPy h y e) (s1 : shp d = true) (s2 : shp e = true) (q : Q (.bl (neg ^^ PyData.eqv d e)) h) : wEq neg x y h Q := by
  unfold wEq
  split
  · rename_i i j
    cases a; cases b
    have z : PyData.eqv (.int i) (.int j) = decide (i = j) := by
      simp only [PyData.eqv]
      by_cases e : i = j <;> simp [e]
    rw [z] at q
    exact q
  · rename_i i j
    cases a; cases b
    have z : PyData.eqv (.str i) (.str j) = decide (i = j) := by
      simp only [PyData.eqv]
      by_cases e : i = j <;> simp [e]
    rw [z] at q
    exact q
  · rename_i i j
    cases a; cases b
    have z : PyData.eqv (.bool i) (.bool j) = decide (i = j) := by
      simp only [PyData.eqv]
      cases i <;> cases j <;> rfl
    rw [z] at q
    exact q
  · rename_i xs
    cases a with
    | tup a =>
      cases b with
      | tup b =>
        cases b
        cases a with
        | nil => simpa [PyData.eqv, PyData.eqvAll] using q
        | cons a b => simpa [PyData.eqv, PyData.eqvAll] using q
  · exact ⟨d, e, a, b, s1, s2, q⟩
/-- x == y of data of one type -/
theorem eq_v [Ly α] (x y : α) {neg : Bool} {h : DH} {Q : QD} (q : Q (.bl (neg ^^ decide (x = y))) h) (n : Dt.n α ≤ 64 := by decide) (o1 : Ly.ok x := by first | exact LyT.all _ | assumption) (o2 : Ly.ok y := by first | exact LyT.all _ | assumption) : wEq neg (Dt.d x) (Dt.d y) h Q :=
  wEq_of (Dt.py x) (Dt.py y) (shaped_v x o1 n) (shaped_v y o2 n) (by rw [Dt.eqv]; exact q)
theorem eq_w (x y : α) {neg : Bool} {h : DH} {Q : QD} (q : Q (.bl (neg ^^ decide (x = y))) h) (n : Dt.n α ≤ 64 := by decide) : wEq neg (Dt.d x) (Dt.d y) h Q :=
  wEq_of (Dt.py x) (Dt.py y) (shaped_w x n) (shaped_w y n) (by rw [Dt.eqv]; exact q)
theorem any_eqv (x : α) : ∀ ys : List α, (ys.map fun y => toPy (Dt.d y)).any (fun z => PyData.eqv z (toPy (Dt.d x))) = decide (x ∈ ys)
  | [] => by simp
  | y :: ys => by
    rw [List.map_cons, List.any_cons, any_eqv x ys, Dt.eqv]
    by_cases e : y = x
    · subst e; simp
    · have : ¬ x = y := fun z => e z.symm
      simp [e, this]
/-- x in ys of data of one type -/
theorem in_v [Ly α] (x : α) (ys : List α) {neg : Bool} {h : DH} {Q : QD} (q : Q (.bl (neg ^^ decide (x ∈ ys))) h) (n : Dt.n α < 64 := by decide) (o1 : Ly.ok x := by first | exact LyT.all _ | assumption) (o2 : ∀ y ∈ ys, Ly.ok y := by first | exact fun _ _ => LyT.all _ | assumption) : wIn neg (Dt.d x) (.fl (ys.map Dt.d)) h Q := by
  have e := P_lst ys
  refine ⟨_, _, Dt.py x, e ▸ Dt.py ys, shaped_v x o1 (by omega), ?_, ?_⟩
  · rw [← e]
    refine shaped_v (α := List α) ys o2 ?_
    show Dt.n α + 1 ≤ 64
    omega
  · rw [any_eqv]
    exact q
/-- .. of a list of the heap -/
theorem in_r [Ly α] (x : α) (ys : List α) {a : Addr} {neg : Bool} {h : DH} {Q : QD} (ha : h a = some (.lst (ys.map Dt.d))) (q : Q (.bl (neg ^^ decide (x ∈ ys))) h) (n : Dt.n α < 64 := by decide) (o1 : Ly.ok x := by first | exact LyT.all _ | assumption) (o2 : ∀ y ∈ ys, Ly.ok y := by first | exact fun _ _ => LyT.all _ | assumption) : wIn neg (Dt.d x) (.ref a) h Q := by
  have e := P_lst ys
  unfold wIn
  simp only [ha]
  refine ⟨_, ys.map fun y => toPy (Dt.d y), Dt.py x, .lst ha ?_, shaped_v x o1 (by omega), ?_, ?_⟩
  · have := DPys.of (h := h) _ (pures_map Dt.pu ys)
    rwa [toPys_map] at this
  · rw [← e]
    refine shaped_v (α := List α) ys o2 ?_
    show Dt.n α + 1 ≤ 64
    omega
  · rw [any_eqv]
    exact q
theorem in_w (x : α) (ys : List α) {neg : Bool} {h : DH} {Q : QD} (q : Q (.bl (neg ^^ decide (x ∈ ys))) h) (n : Dt.n α < 64 := by decide) : wIn neg (Dt.d x) (.fl (ys.map Dt.d)) h Q := by
  have e := P_lst ys
  refine ⟨_, _, Dt.py x, e ▸ Dt.py ys, shaped_w x (by omega), ?_, ?_⟩
  · rw [← e]
    refine shaped_w (α := List α) ys ?_
    show Dt.n α + 1 ≤ 64
    omega
  · rw [any_eqv]
    exact q
theorem in_rw (x : α) (ys : List α) {a : Addr} {neg : Bool} {h : DH} {Q : QD} (ha : h a = some (.lst (ys.map Dt.d))) (q : Q (.bl (neg ^^ decide (x ∈ ys))) h) (n : Dt.n α < 64 := by decide) : wIn neg (Dt.d x) (.ref a) h Q := by
  have e := P_lst ys
  unfold wIn
  simp only [ha]
  refine ⟨_, ys.map fun y => toPy (Dt.d y), Dt.py x, .lst ha ?_, shaped_w x (by omega), ?_, ?_⟩
  · have := DPys.of (h := h) _ (pures_map Dt.pu ys)
    rwa [toPys_map] at this
  · rw [← e]
    refine shaped_w (α := List α) ys ?_
    show Dt.n α + 1 ≤ 64
    omega
  · rw [any_eqv]
    exact q
theorem eq_rw (x y : List α) {a : Addr} {neg : Bool} {h : DH} {Q : QD} (ha : h a = some (.lst (x.map Dt.d))) (q : Q (.bl (neg ^^ decide (x = y))) h) (n : Dt.n α < 64 := by decide) : wEq neg (.ref a) (.fl (y.map Dt.d)) h Q := by
  refine wEq_of (d := toPy (Dt.d x)) (e := toPy (Dt.d y)) ?_ (Dt.py y) (shaped_w x (by show Dt.n α + 1 ≤ 64; omega)) (shaped_w y (by show Dt.n α + 1 ≤ 64; omega)) (by rw [Dt.eqv]; exact q)
  rw [P_lst]
  refine .lst ha ?_
  have := DPys.of (h := h) _ (pures_map Dt.pu x)
  rwa [toPys_map] at this
end
/-! ### order -/
class Od (α : Type) [Dt α] where
  lt : α → α → Bool
  al : ∀ x y : α, PySem.W.alike (toPy (Dt.d x)) (toPy (Dt.d y)) = true
  eq : ∀ x y : α, PySem.W.dataLt (toPy (Dt.d x)) (toPy (Dt.d y)) = lt x y
/-- not greater -/
def Od.le {α : Type} [Dt α] [Od α] (x y : α) : Bool := !Od.lt y x
instance : Od Int := ⟨fun x y => decide (x < y), fun _ _ => by simp [P_int, PySem.W.alike], fun x y => by rw [P_int, P_int]; exact PySem.W.dataLt_int x y⟩
instance : Od Bool := ⟨fun x y => !x && y, fun _ _ => by simp [P_bl, PySem.W.alike], fun x y => by
  rw [P_bl, P_bl, PySem.W.dataLt_bool]
  cases x <;> cases y <;> rfl⟩
instance : Od Str := ⟨fun x y => decide (x.cps.toList < y.cps.toList), fun _ _ => by simp [P_str, PySem.W.alike], fun x y => by rw [P_str, P_str]; exact PySem.W.dataLt_str x y⟩
def lexL {α : Type} [Dt α] [Od α] : List α → List α → Bool
  | [], [] => false
  | [], _ :: _ => true
  | _ :: _, [] => false
  | x :: xs, y :: ys => if x = y then lexL xs ys else Od.lt x y
theorem lexK_nil : PyProof.Rows.lexLt PyProof.Rows.itemOrd (PySem.W.keyToksAll []) (PySem.W.keyToksAll []) = false := PyProof.Rows.lex_irrefl _
section
variable {α β γ δ : Type} [Dt α] [Od α] [Dt β] [Od β] [Dt γ] [Od γ] [Dt δ] [Od δ]
theorem alike_map : ∀ xs ys : List α, PySem.W.alikeAll (xs.map fun x => toPy (Dt.d x)) (ys.map fun x => toPy (Dt.d x)) = true
  | [], ys => by simp [PySem.W.alikeAll]
  | x :: xs, [] => by simp [PySem.W.alikeAll]
  | x :: xs, y :: ys => by
    rw [List.map_cons, List.map_cons, PySem.W.alikeAll, Od.al, alike_map xs ys]
    rfl
theorem lex_map : ∀ xs ys : List α, PyProof.Rows.lexLt PyProof.Rows.itemOrd (PySem.W.keyToksAll (xs.map fun x => toPy (Dt.d x))) (PySem.W.keyToksAll (ys.map fun x => toPy (Dt.d x))) = lexL xs ys
  | [], [] => lexK_nil
  | [], y :: ys => by
    rw [List.map_nil, List.map_cons, PySem.W.toks_all_cons]
    simp only [PySem.W.keyToksAll]
    rw [PyProof.Rows.lex_diff (by simp)]
    rfl
  | x :: xs, [] => by
    rw [List.map_nil, List.map_cons, PySem.W.toks_all_cons]
    simp only [PySem.W.keyToksAll]
    rw [PyProof.Rows.lex_diff (by simp)]
    rfl
  | x :: xs, y :: ys => by
    rw [List.map_cons, List.map_cons, PySem.W.dataLt_cons (Od.al x y), Dt.eqv, lex_map xs ys, Od.eq, lexL]
    by_cases e : x = y <;> simp [e]
instance : Od (List α) := ⟨lexL, fun x y => by simp only [P_lst, PySem.W.alike]; exact alike_map x y, fun x y => by
  simp only [P_lst]
  rw [PySem.W.dataLt_list]
  exact lex_map x y⟩
instance : Od (TL α) := ⟨fun x y => lexL x.l y.l, fun x y => by simp only [P_tl, PySem.W.alike]; exact alike_map x.l y.l, fun x y => by
  simp only [P_tl]
  rw [PySem.W.dataLt_tuple]
  exact lex_map x.l y.l⟩
instance : Od (α × β) := ⟨fun x y => if x.1 = y.1 then Od.lt x.2 y.2 else Od.lt x.1 y.1, fun x y => by simp only [P_pr, PySem.W.alike, PySem.W.alikeAll, Od.al, Bool.and_self], fun x y => by
  simp only [P_pr]
  rw [PySem.W.dataLt_tuple, PySem.W.dataLt_cons (Od.al _ _), PySem.W.dataLt_cons (Od.al _ _), Dt.eqv, Dt.eqv, lexK_nil, Od.eq, Od.eq]
  by_cases e : x.1 = y.1
  · by_cases e2 : x.2 = y.2
    · simp only [e, e2, decide_true, if_true]
      have := Od.eq y.2 y.2
      rw [← this]
      exact (PySem.W.dataLt_self _).symm
    · simp [e, e2]
  · simp [e]⟩
instance : Od (Tr α β γ) := ⟨fun x y => if x.a = y.a then (if x.b = y.b then Od.lt x.c y.c else Od.lt x.b y.b) else Od.lt x.a y.a, fun x y => by simp only [P_tr, PySem.W.alike, PySem.W.alikeAll, Od.al, Bool.and_self], fun x y => by
  simp only [P_tr]
  rw [PySem.W.dataLt_tuple, PySem.W.dataLt_cons (Od.al _ _), PySem.W.dataLt_cons (Od.al _ _), PySem.W.dataLt_cons (Od.al _ _), Dt.eqv, Dt.eqv, Dt.eqv, lexK_nil, Od.eq, Od.eq, Od.eq]
  by_cases e : x.a = y.a
  · by_cases e2 : x.b = y.b
    · by_cases e3 : x.c = y.c
      · simp only [e, e2, e3, decide_true, if_true]
        have := Od.eq y.c y.c
        rw [← this]
        exact (PySem.W.dataLt_self _).symm
      · simp [e, e2, e3]
    · simp [e, e2]
  · simp [e]⟩
end
section
variable {α : Type} [Dt α] [Od α]
theorem le_eq : (fun a b : α => PySem.W.dataLe false toPy (Dt.d a) (Dt.d b)) = Od.le := by
  funext a b
  show (!PySem.W.dataLt (toPy (Dt.d b)) (toPy (Dt.d a))) = _
  rw [Od.eq]
  rfl
theorem le_total : PySem.W.TotalLe (Od.le : α → α → Bool) := by
  have h := PySem.W.sortLe_total (PyProof.Rows.listOrd PyProof.Rows.itemOrd) false fun a : α => PySem.W.keyToks (toPy (Dt.d a))
  have e : PySem.W.sortLe (PyProof.Rows.listOrd PyProof.Rows.itemOrd) false (fun a : α => PySem.W.keyToks (toPy (Dt.d a))) = Od.le := le_eq
  rwa [e] at h
/-- sorted -/
def srt (xs : List α) : List α := xs.mergeSort Od.le
theorem srt_pw (xs : List α) : (srt xs).Pairwise fun a b => Od.le a b = true := List.pairwise_mergeSort (le := Od.le) (fun a b c => le_total.trans a b c) (fun a b => by rw [Bool.or_eq_true]; exact le_total.total a b) xs
theorem srt_id {xs : List α} (h : xs.Pairwise fun a b => Od.le a b = true) : srt xs = xs := List.mergeSort_of_pairwise h
theorem srt_perm (xs : List α) : (srt xs).Perm xs := List.mergeSort_perm _ _
theorem srt_map (xs : List α) : (xs.map (Dt.d : α → D)).mergeSort (PySem.W.dataLe false toPy) = (srt xs).map Dt.d := by
  unfold srt
  refine (PySem.W.sort_maps (Dt.d : α → D) fun a _ b _ => ?_).symm
  rw [← le_eq]
/-- sorted(xs) of data of one type that are no tuples, or tuples with an item at least -/
theorem srt_v {z : Bool} {x : D} {h : DH} {Q : QD} (xs : List α) (e : lstOf x h = some (xs.map Dt.d)) (hs : PySem.W.Sortable (xs.map fun x => toPy (Dt.d x))) (q : al z (.lst ((srt xs).map Dt.d)) h Q) (n : Dt.n α ≤ 60 := by decide) (hl : xs.length ≤ 16777216 := by omega) : wSorted z x h Q := by
  unfold wSorted
  simp only [e]
  refine ⟨toPy, fun d hd => ?_, fun d hd d' hd' => ?_, by rw [List.map_map]; exact hs, fun d hd => ?_, by simpa using hl, by rw [srt_map]; exact q⟩
  · obtain ⟨x, _, rfl⟩ := List.mem_map.mp hd
    exact Dt.py x
  · obtain ⟨y, hy, rfl⟩ := List.mem_map.mp hd
    obtain ⟨y', hy', rfl⟩ := List.mem_map.mp hd'
    obtain ⟨x, _, rfl⟩ := List.mem_map.mp hy
    obtain ⟨x', _, rfl⟩ := List.mem_map.mp hy'
    exact Od.al x x'
  · obtain ⟨x, _, rfl⟩ := List.mem_map.mp hd
    exact Nat.le_trans (Dt.dep x) n
end
end DL

/-! loops and comprehensions over lists of data; the heap said exactly -/
namespace DL
open PySem L2

/-! ### the heap -/
theorem up_sw {h : DH} {p q : Addr} {a b c : DO} (n : p ≠ q) : up (up (up h q a) p b) q c = up (up h q c) p b := by
  funext z; unfold up
  by_cases e1 : z = q
  · subst e1
    rw [if_pos rfl]
    rw [if_neg (fun e => n e.symm), if_pos rfl]
  · rw [if_neg e1]
    by_cases e2 : z = p
    · subst e2; rw [if_pos rfl, if_pos rfl]
    · rw [if_neg e2, if_neg e2, if_neg e1, if_neg e1]
theorem up_cm {h : DH} {p q : Addr} {a b : DO} (n : p ≠ q) : up (up h q a) p b = up (up h p b) q a := by
  funext z; unfold up
  by_cases e1 : z = q
  · subst e1
    rw [if_neg (fun e => n e.symm), if_pos rfl, if_pos rfl]
  · by_cases e2 : z = p
    · subst e2; rw [if_pos rfl, if_neg e1, if_pos rfl]
    · rw [if_neg e2, if_neg e1, if_neg e1, if_neg e2]
theorem up_self {h : DH} {p : Addr} {o : DO} (e : h p = some o) : up h p o = h := by
  funext z; unfold up
  by_cases q : z = p
  · subst q; rw [if_pos rfl, e]
  · rw [if_neg q]
theorem ne_new {h : DH} {p q : Addr} {o : DO} (e : h q = some o) (n : h p = none) : p ≠ q := fun z => by subst z; rw [n] at e; cases e
theorem ne_upn {h : DH} {p q : Addr} {o : DO} (n : up h q o p = none) : p ≠ q := fun z => by subst z; rw [up_same] at n; cases n
theorem up_none {h : DH} {p q : Addr} {o : DO} (n : up h q o p = none) : h p = none := by
  rw [up_ne (ne_upn n)] at n; exact n
theorem up_stay {h : DH} {p q : Addr} {o u : DO} (n : h p = none) (e : h q = some u) : up h p o q = some u := by
  rw [up_ne (ne_new e n).symm]; exact e
theorem rm_at {h : DH} {p : Addr} : rm h p p = none := by unfold rm; rw [if_pos rfl]
theorem rm_ne {h : DH} {p q : Addr} (n : q ≠ p) : rm h p q = h q := by unfold rm; rw [if_neg n]
theorem rst_same {h : DH} : rst h h = h := by
  funext b; unfold rst; split
  · rename_i e; rw [e]
  · rfl
theorem rst_up {h h2 : DH} {p : Addr} {o : DO} (n : h p = none) : rst h (up h2 p o) = rst h h2 := by
  funext b; unfold rst; split
  · rfl
  · rename_i e
    exact up_ne fun z => by subst z; rw [n] at e; cases e
theorem frzO_lst {xs : List D} : frzO (.lst xs) = .fl xs := rfl
theorem frzO_dK {xs : List (Key × D)} : frzO (.dK xs) = .dk xs := rfl
theorem frzO_dT {xs : List (List Key × D)} : frzO (.dT xs) = .dt xs := rfl
theorem frzO_ins {c : Str} {xs : List (Str × D)} : frzO (.ins c xs) = .ob c xs := rfl
theorem wFrz_fl {xs : List D} {h : DH} {Q : QD} : wFrz (.fl xs) h Q = Q (.fl xs) h := rfl
theorem wFrz_int {i : Int} {h : DH} {Q : QD} : wFrz (.int i) h Q = Q (.int i) h := rfl
theorem wFrz_bl {i : Bool} {h : DH} {Q : QD} : wFrz (.bl i) h Q = Q (.bl i) h := rfl
theorem wFrz_str {i : Str} {h : DH} {Q : QD} : wFrz (.str i) h Q = Q (.str i) h := rfl
theorem wFrz_tup {xs : List D} {h : DH} {Q : QD} : wFrz (.tup xs) h Q = Q (.tup xs) h := rfl
theorem wFrz_non {h : DH} {Q : QD} : wFrz .non h Q = Q .non h := rfl
theorem wFrz_dk {xs : List (Key × D)} {h : DH} {Q : QD} : wFrz (.dk xs) h Q = Q (.dk xs) h := rfl
theorem wFrz_ob {c : Str} {xs : List (Str × D)} {h : DH} {Q : QD} : wFrz (.ob c xs) h Q = Q (.ob c xs) h := rfl
theorem wFrz_v {α : Type} [Dt α] (x : α) {h : DH} {Q : QD} : wFrz (Dt.d x) h Q = Q (Dt.d x) h := by
  have := Dt.pu x
  generalize Dt.d x = d at *
  cases d <;> first | rfl | simp [pure?] at this
theorem wFrz_at {h : DH} {a : Addr} {o : DO} {Q : QD} (e : h a = some o) : wFrz (.ref a) h Q = Q (frzO o) (rm h a) := by
  unfold wFrz; simp only [e]

/-! ### loops -/
section
variable {α : Type} {J : DIt} {tg : D → DSt → DH → (DSt → DH → Prop) → Prop} {body : DSt → DH → (DSt → DH → Prop) → Prop} {s : DSt} {h : DH} {nx : DSt → DH → Prop} {f : α → D}
theorem pre_at {ls : List α} {i : Nat} (hi : i < ls.length) : ls = ls.take i ++ ls[i] :: ls.drop (i + 1) := by
  conv => lhs; rw [← List.take_append_drop i ls]
  rw [List.drop_eq_getElem_cons hi]
/-- .. by what was walked -/
theorem loop_J (ls : List α) (P : List α → DSt → DH → Prop) (hJ : ∀ i pre s h, P pre s h → nextD J i h = some ((ls.map f)[i]?)) (h0 : P [] s h) (step : ∀ pre x post s h, ls = pre ++ x :: post → P pre s h → tg (f x) s h fun s2 h2 => body s2 h2 (P (pre ++ [x]))) (fin : ∀ s h, P ls s h → nx s h) : wLoop J tg body s h nx := by
  refine ⟨fun i m s h => i ≤ ls.length ∧ m = ls.length - i ∧ P (ls.take i) s h, ⟨ls.length, Nat.zero_le _, rfl, h0⟩, fun i m s h ⟨hi, hm, p⟩ => ?_⟩
  rw [hJ i _ _ _ p]
  by_cases q : i < ls.length
  · rw [List.getElem?_map, List.getElem?_eq_getElem q]
    refine ⟨fun s h => P (ls.take (i + 1)) s h, fun s' h' p' => ⟨ls.length - (i + 1), by omega, by omega, rfl, p'⟩, ?_⟩
    have := step (ls.take i) ls[i] (ls.drop (i + 1)) s h (pre_at q) p
    rw [List.take_append_getElem q] at this
    exact this
  · rw [List.getElem?_map, List.getElem?_eq_none (Nat.le_of_not_lt q)]
    have : i = ls.length := by omega
    subst this
    rw [List.take_length] at p
    exact fin _ _ p
theorem loop_v {ls : List α} (P : List α → DSt → DH → Prop) (h0 : P [] s h) (step : ∀ pre x post s h, ls = pre ++ x :: post → P pre s h → tg (f x) s h fun s2 h2 => body s2 h2 (P (pre ++ [x]))) (fin : ∀ s h, P ls s h → nx s h) : wLoop (.fix (ls.map f)) tg body s h nx :=
  loop_J ls P (fun _ _ _ _ _ => rfl) h0 step fin
/-- a state that is folded -/
theorem loop_f {σ : Type} {ls : List α} (S : σ → DSt) (H : σ → DH) (g : σ → α → σ) (a : σ) (step : ∀ pre x post, ls = pre ++ x :: post → ∀ N : DSt → DH → Prop, N (S (g (pre.foldl g a) x)) (H (g (pre.foldl g a) x)) → tg (f x) (S (pre.foldl g a)) (H (pre.foldl g a)) fun s2 h2 => body s2 h2 N)
    (fin : nx (S (ls.foldl g a)) (H (ls.foldl g a))) : wLoop (.fix (ls.map f)) tg body (S a) (H a) nx := by
  refine loop_v (fun pre s h => s = S (pre.foldl g a) ∧ h = H (pre.foldl g a)) ⟨rfl, rfl⟩ ?_ ?_
  · rintro pre x post s h e ⟨rfl, rfl⟩
    refine step pre x post e _ ?_
    rw [List.foldl_append]
    exact ⟨rfl, rfl⟩
  · rintro s h ⟨rfl, rfl⟩
    exact fin
/-- behind a turn of a while: a lesser state -/
def wNx {σ : Type} (I : σ → Prop) (S : σ → DSt) (H : σ → DH) (m : σ → Nat) (k : Nat) : DSt → DH → Prop := fun s' h' => ∃ y, I y ∧ m y < k ∧ s' = S y ∧ h' = H y
def wTurn {σ : Type} (body : DSt → DH → (DSt → DH → Prop) → Prop) (s : DSt) (h : DH) (I : σ → Prop) (S : σ → DSt) (H : σ → DH) (m : σ → Nat) (k : Nat) : Prop :=
  ∃ N : DSt → DH → Prop, (∀ s' h', N s' h' → ∃ m', m' < k ∧ ∃ y, I y ∧ m' = m y ∧ s' = S y ∧ h' = H y) ∧ body s h N
theorem wTurn_of {σ : Type} {I : σ → Prop} {S : σ → DSt} {H : σ → DH} {m : σ → Nat} {k : Nat} (q : body s h (wNx I S H m k)) : wTurn body s h I S H m k :=
  ⟨_, fun _ _ ⟨y, iy, hy, e1, e2⟩ => ⟨m y, hy, y, iy, rfl, e1, e2⟩, q⟩
theorem while_v {σ : Type} {c : DSt → DH → (Bool → DH → Prop) → Prop} (I : σ → Prop) (S : σ → DSt) (H : σ → DH) (m : σ → Nat) (a : σ) (i0 : I a) (es : s = S a) (eh : h = H a) (step : ∀ x, I x → c (S x) (H x) fun b h1 => if b = true then wTurn body (S x) h1 I S H m (m x) else nx (S x) h1) : wWhile c body s h nx := by
  subst es eh
  refine ⟨fun k s h => ∃ x, I x ∧ k = m x ∧ s = S x ∧ h = H x, ⟨_, a, i0, rfl, rfl, rfl⟩, ?_⟩
  rintro k s h ⟨x, ix, rfl, rfl, rfl⟩
  exact step x ix
end
/-! ### comprehensions -/
section
variable {α β : Type} {z : Bool} {J : DIt} {turn : D → DH → (Bool → DSt → DH → Prop) → Prop} {elt : DSt → DH → QD → Prop} {h : DH} {Q : QD} {f : α → D}
theorem comp_J (ls : List α) (P : List α → DH → List D → Prop) (hJ : ∀ i pre h acc, P pre h acc → nextD J i h = some ((ls.map f)[i]?)) (h0 : P [] h []) (hl : ls.length ≤ 16777216 := by omega)
    (len : ∀ pre post h acc, ls = pre ++ post → P pre h acc → acc.length ≤ pre.length)
    (step : ∀ pre x post h acc, ls = pre ++ x :: post → P pre h acc → ∀ (K : DH → D → Prop) (M : DH → Prop), (∀ h3 y, P (pre ++ [x]) h3 (acc ++ [y]) → K h3 y) → (∀ h3, P (pre ++ [x]) h3 acc → M h3) → turn (f x) h fun b s2 h2 => if b = true then elt s2 h2 fun y h3 => K h3 y else M h2)
    (fin : ∀ h acc, P ls h acc → al z (.lst acc) h Q) : wComp z J turn elt h Q := by
  refine ⟨fun i m h acc => i ≤ ls.length ∧ m = ls.length - i ∧ P (ls.take i) h acc, ⟨ls.length, Nat.zero_le _, rfl, h0⟩, fun i m h acc ⟨hi, hm, p⟩ => ?_⟩
  rw [hJ i _ _ _ p]
  by_cases q : i < ls.length
  · rw [List.getElem?_map, List.getElem?_eq_getElem q]
    refine ⟨fun h acc => P (ls.take (i + 1)) h acc, fun h' acc' p' => ⟨ls.length - (i + 1), by omega, by omega, rfl, p'⟩, ?_⟩
    have al := len (ls.take i) (ls.drop i) h acc (List.take_append_drop i ls).symm p
    have := step (ls.take i) ls[i] (ls.drop (i + 1)) h acc (pre_at q) p (fun h3 y => acc.length < 16777216 ∧ P (ls.take (i + 1)) h3 (acc ++ [y])) (fun h3 => P (ls.take (i + 1)) h3 acc) (fun h3 y p' => ?_) (fun h3 p' => ?_)
    · exact this
    · rw [List.take_append_getElem q] at p'
      rw [List.length_take] at al
      exact ⟨by omega, p'⟩
    · rw [List.take_append_getElem q] at p'
      exact p'
  · rw [List.getElem?_map, List.getElem?_eq_none (Nat.le_of_not_lt q)]
    have : i = ls.length := by omega
    subst this
    rw [List.take_length] at p
    exact fin _ _ p
/-- [g x for x in ls if p x], the heap staying -/
theorem comp_pJ (ls : List α) (hJ : ∀ i, nextD J i h = some ((ls.map f)[i]?)) (p : α → Bool) (g : α → D)
    (step : ∀ x ∈ ls, ∀ (K : DH → D → Prop) (M : DH → Prop), (p x = true → K h (g x)) → (p x = false → M h) → turn (f x) h fun b s2 h2 => if b = true then elt s2 h2 fun y h3 => K h3 y else M h2)
    (hl : ls.length ≤ 16777216) (fin : al z (.lst ((ls.filter p).map g)) h Q) : wComp z J turn elt h Q := by
  refine comp_J ls (fun pre h' acc => h' = h ∧ acc = (pre.filter p).map g) (fun i _ _ _ ⟨e, _⟩ => by rw [e]; exact hJ i) ⟨rfl, rfl⟩ hl ?_ ?_ ?_
  · rintro pre post h acc e ⟨_, rfl⟩
    rw [List.length_map]
    exact List.length_filter_le _ _
  · rintro pre x post h' acc e ⟨rfl, rfl⟩ K M k m
    refine step x (by rw [e]; simp) K M (fun px => k _ _ ⟨rfl, ?_⟩) (fun px => m _ ⟨rfl, ?_⟩)
    · rw [List.filter_append, List.map_append]; simp [px]
    · rw [List.filter_append, List.map_append]; simp [px]
  · rintro h' acc ⟨rfl, rfl⟩
    exact fin
theorem comp_p (ls : List α) (p : α → Bool) (g : α → D)
    (step : ∀ x ∈ ls, ∀ (K : DH → D → Prop) (M : DH → Prop), (p x = true → K h (g x)) → (p x = false → M h) → turn (f x) h fun b s2 h2 => if b = true then elt s2 h2 fun y h3 => K h3 y else M h2)
    (hl : ls.length ≤ 16777216) (fin : al z (.lst ((ls.filter p).map g)) h Q) : wComp z (.fix (ls.map f)) turn elt h Q :=
  comp_pJ ls (fun _ => rfl) p g step hl fin
/-- [g x for x in ls] -/
theorem comp_mJ (ls : List α) (hJ : ∀ i, nextD J i h = some ((ls.map f)[i]?)) (g : α → D)
    (step : ∀ x ∈ ls, ∀ (K : DH → D → Prop), K h (g x) → ∀ (M : DH → Prop), turn (f x) h fun b s2 h2 => if b = true then elt s2 h2 fun y h3 => K h3 y else M h2)
    (hl : ls.length ≤ 16777216) (fin : al z (.lst (ls.map g)) h Q) : wComp z J turn elt h Q := by
  refine comp_pJ ls hJ (fun _ => true) g (fun x hx K M k m => step x hx K (k rfl) M) hl ?_
  rw [List.filter_eq_self.mpr fun _ _ => rfl]
  exact fin
theorem comp_m (ls : List α) (g : α → D)
    (step : ∀ x ∈ ls, ∀ (K : DH → D → Prop), K h (g x) → ∀ (M : DH → Prop), turn (f x) h fun b s2 h2 => if b = true then elt s2 h2 fun y h3 => K h3 y else M h2)
    (hl : ls.length ≤ 16777216) (fin : al z (.lst (ls.map g)) h Q) : wComp z (.fix (ls.map f)) turn elt h Q :=
  comp_mJ ls (fun _ => rfl) g step hl fin
end
section
variable {α β : Type} [Dt β] {z : Bool} {J : DIt} {turn : D → DH → (Bool → DSt → DH → Prop) → Prop} {elt : DSt → DH → QD → Prop} {h : DH} {Q : QD} {f : α → D}
/-- .. of data -/
theorem comp_pv (ls : List α) (p : α → Bool) (t : α → β)
    (step : ∀ x ∈ ls, ∀ (K : DH → D → Prop) (M : DH → Prop), (p x = true → K h (Dt.d (t x))) → (p x = false → M h) → turn (f x) h fun b s2 h2 => if b = true then elt s2 h2 fun y h3 => K h3 y else M h2)
    (hl : ls.length ≤ 16777216) (fin : al z (.lst (((ls.filter p).map t).map Dt.d)) h Q) : wComp z (.fix (ls.map f)) turn elt h Q :=
  comp_p ls p (fun x => Dt.d (t x)) step hl (by rw [List.map_map] at fin; exact fin)
theorem comp_mv (ls : List α) (t : α → β)
    (step : ∀ x ∈ ls, ∀ (K : DH → D → Prop), K h (Dt.d (t x)) → ∀ (M : DH → Prop), turn (f x) h fun b s2 h2 => if b = true then elt s2 h2 fun y h3 => K h3 y else M h2)
    (hl : ls.length ≤ 16777216) (fin : al z (.lst ((ls.map t).map Dt.d)) h Q) : wComp z (.fix (ls.map f)) turn elt h Q :=
  comp_m ls (fun x => Dt.d (t x)) step hl (by rw [List.map_map] at fin; exact fin)
theorem comp_mvJ (ls : List α) (hJ : ∀ i, nextD J i h = some ((ls.map f)[i]?)) (t : α → β)
    (step : ∀ x ∈ ls, ∀ (K : DH → D → Prop), K h (Dt.d (t x)) → ∀ (M : DH → Prop), turn (f x) h fun b s2 h2 => if b = true then elt s2 h2 fun y h3 => K h3 y else M h2)
    (hl : ls.length ≤ 16777216) (fin : al z (.lst ((ls.map t).map Dt.d)) h Q) : wComp z J turn elt h Q :=
  comp_mJ ls hJ (fun x => Dt.d (t x)) step hl (by rw [List.map_map] at fin; exact fin)
end
/-- the last of some -/
theorem wAt_lastG {xs : List D} {x : D} {h : DH} {Q : QD} : wAt (xs ++ [x]) (.int (-1)) h Q = Q x h := by
  unfold wAt
  have e : L2.atI (xs ++ [x]) (-1) = some x := by
    unfold L2.atI
    rw [ix_neg (by decide) (by rw [List.length_append]; simp; omega), List.length_append]
    show (xs ++ [x])[(-1 + ((xs.length + 1 : Nat) : Int)).toNat]? = _
    have : (-1 + ((xs.length + 1 : Nat) : Int)).toNat = xs.length := by omega
    rw [this]
    simp
  simp only [e]
/-! ### what is walked -/
def irg (lo : Int) (n : Nat) : List Int := (List.range n).map fun i => lo + (i : Nat)
theorem next_ref {a : Addr} {xs : List D} {h : DH} (e : h a = some (.lst xs)) (i : Nat) : nextD (.lst a) i h = some xs[i]? := by
  unfold nextD; simp only [e]
theorem next_rg {lo : Int} {n : Nat} (i : Nat) (h : DH) : nextD (.rng lo n) i h = some (((irg lo n).map D.int)[i]?) := by
  unfold nextD irg
  rw [List.map_map, List.getElem?_map]
  by_cases q : i < n
  · rw [if_pos q, List.getElem?_range q]; rfl
  · rw [if_neg q, List.getElem?_eq_none (by simpa using q)]; rfl
theorem next_zp {α β : Type} {xs : List α} {ys : List β} {f : α → D} {g : β → D} (i : Nat) (h : DH) : nextD (.zip (.fix (xs.map f)) (.fix (ys.map g))) i h = some (((xs.zip ys).map fun p => D.tup [f p.1, g p.2])[i]?) := by
  unfold nextD
  simp only [nextD, List.getElem?_map]
  cases e1 : xs[i]? with
  | none =>
    have : (xs.zip ys)[i]? = none := by
      rw [List.getElem?_eq_none_iff] at e1 ⊢
      rw [List.length_zip]; omega
    rw [this]
    cases ys[i]? <;> rfl
  | some x =>
    cases e2 : ys[i]? with
    | none =>
      have : (xs.zip ys)[i]? = none := by
        rw [List.getElem?_eq_none_iff] at e2 ⊢
        rw [List.length_zip]; omega
      rw [this]; rfl
    | some y =>
      have : (xs.zip ys)[i]? = some (x, y) := List.getElem?_zip_eq_some.mpr ⟨e1, e2⟩
      rw [this]; rfl
def enu {α : Type} (xs : List α) : List (Int × α) := (irg 0 xs.length).zip xs
theorem next_en {α : Type} {xs : List α} {f : α → D} (i : Nat) (h : DH) : nextD (.enm (.fix (xs.map f))) i h = some (((enu xs).map fun p => D.tup [.int p.1, f p.2])[i]?) := by
  unfold nextD enu
  simp only [nextD, List.getElem?_map]
  cases e1 : xs[i]? with
  | none =>
    have : ((irg 0 xs.length).zip xs)[i]? = none := by
      rw [List.getElem?_eq_none_iff] at e1 ⊢
      rw [List.length_zip]; omega
    rw [this]; rfl
  | some x =>
    have hi := (List.getElem?_eq_some_iff.mp e1).1
    have e2 : (irg 0 xs.length)[i]? = some (i : Int) := by
      unfold irg
      rw [List.getElem?_map, List.getElem?_range hi]
      simp
    rw [List.getElem?_zip_eq_some (z := ((i : Int), x)) |>.mpr ⟨e2, e1⟩]; rfl
end DL

/-! the steps' lemmas in one word -/
namespace DL
open PySem L2
section
variable {gl : List D} {F : Fns} {rt : QD} {ex : SXD} {s : DSt} {h : DH} {nx : DSt → DH → Prop} {cs : CSs} {Q : QD} {E : XD} {d : D} {ds : List D}
theorem es_nil {Q : List D → DH → Prop} : wEs gl F .nil s h Q E = Q [] h := by rw [wEs]
theorem es_cons {e : CE} {es : CEs} {Q : List D → DH → Prop} : wEs gl F (.cons e es) s h Q E = wE gl F e s h (fun x h1 => wEs gl F es s h1 (fun xs h2 => Q (x :: xs) h2) E) E := by rw [wEs]
theorem o_none {Q : Option Int → DH → Prop} : wO gl F .none s h Q E = Q none h := by rw [wO]
/-- a part of a slice -/
def wOi (d : D) (h : DH) (Q : Option Int → DH → Prop) : Prop := match d with
  | .int i => Q (some i) h
  | _ => False
theorem wOi_int {i : Int} {Q : Option Int → DH → Prop} : wOi (.int i) h Q = Q (some i) h := rfl
theorem o_some {e : CE} {Q : Option Int → DH → Prop} : wO gl F (.some e) s h Q E = wE gl F e s h (fun d h1 => wOi d h1 Q) E := by rw [wO]; rfl
theorem t_none {Q : Bool → DH → Prop} : wT gl F .none s h Q = Q true h := by rw [wT]
theorem t_some {e : CE} {Q : Bool → DH → Prop} : wT gl F (.some e) s h Q = wE gl F e s h (asB Q) fun _ _ => False := by rw [wT]
def wR1 (d : D) (h : DH) (R : DIt → DH → Prop) : Prop := match d with
  | .int j => iRng 0 j h R
  | _ => False
theorem wR1_int {j : Int} {R : DIt → DH → Prop} : wR1 (.int j) h R = iRng 0 j h R := rfl
def wR2 (d e : D) (h : DH) (R : DIt → DH → Prop) : Prop := match d, e with
  | .int i, .int j => iRng i j h R
  | _, _ => False
theorem wR2_int {i j : Int} {R : DIt → DH → Prop} : wR2 (.int i) (.int j) h R = iRng i j h R := rfl
variable {R : DIt → DH → Prop}
theorem i_any {e : CE} : wI gl F (.any e) s h R E = wE gl F e s h (fun d h1 => iAny d h1 R) E := by rw [wI]
theorem i_rng1 {e : CE} : wI gl F (.rng1 e) s h R E = wE gl F e s h (fun d h1 => wR1 d h1 R) E := by rw [wI]; rfl
theorem i_rng2 {a b : CE} : wI gl F (.rng2 a b) s h R E = wE gl F a s h (fun d h1 => wE gl F b s h1 (fun e h2 => wR2 d e h2 R) E) E := by rw [wI]; rfl
theorem i_zip {a b : CE} : wI gl F (.zip a b) s h R E = wE gl F a s h (fun d h1 => wE gl F b s h1 (fun e h2 => iZp d e h2 R) E) E := by rw [wI]
def wR3 (d e f : D) (h : DH) (R : DIt → DH → Prop) : Prop := match d, e, f with
  | .int i, .int j, .int k => iRg3 i j k h R
  | _, _, _ => False
theorem wR3_int {i j k : Int} : wR3 (.int i) (.int j) (.int k) h R = iRg3 i j k h R := rfl
theorem i_rng3 {a b c : CE} : wI gl F (.rng3 a b c) s h R E = wE gl F a s h (fun d h1 => wE gl F b s h1 (fun e h2 => wE gl F c s h2 (fun f h3 => wR3 d e f h3 R) E) E) E := by rw [wI]; rfl
theorem i_enm {a : CE} : wI gl F (.enm a) s h R E = wE gl F a s h (fun d h1 => iEn d h1 R) E := by rw [wI]
theorem s_set {i : Nat} {e : CE} : wS gl F rt ex (.set i e) s h nx = wE gl F e s h (fun d h1 => nx (s.set i (some d)) h1) (fun x h' => ex x s h') := by rw [wS]
theorem s_unp {ts : CTs} {e : CE} : wS gl F rt ex (.unp ts e) s h nx = wE gl F e s h (fun d h1 => wTg (.tup ts) d s h1 nx) (fun x h' => ex x s h') := by rw [wS]
theorem s_par2 {i j : Nat} {a b : CE} : wS gl F rt ex (.par2 i j a b) s h nx = wE gl F a s h (fun d h1 => wE gl F b s h1 (fun e h2 => nx ((s.set i (some d)).set j (some e)) h2) fun x h' => ex x s h') (fun x h' => ex x s h') := by rw [wS]
theorem s_par3 {i j k : Nat} {a b c : CE} : wS gl F rt ex (.par3 i j k a b c) s h nx = wE gl F a s h (fun d h1 => wE gl F b s h1 (fun e h2 => wE gl F c s h2 (fun f h3 => nx (((s.set i (some d)).set j (some e)).set k (some f)) h3) fun x h' => ex x s h') fun x h' => ex x s h') (fun x h' => ex x s h') := by rw [wS]
theorem s_put {o k e : CE} : wS gl F rt ex (.put o k e) s h nx = wE gl F e s h (fun v h1 => wE gl F o s h1 (fun x h2 => wE gl F k s h2 (fun y h3 => wSet x y v h3 fun h4 => nx s h4) fun x h' => ex x s h') fun x h' => ex x s h') (fun x h' => ex x s h') := by rw [wS]
/-- a slot's value -/
def wSl (o : Option (Option D)) (k : D → Prop) : Prop := match o with
  | some (some d) => k d
  | _ => False
theorem wSl_some {k : D → Prop} : wSl (some (some d)) k = k d := rfl
def wAug (op : Operator) (d v : D) (h : DH) (Q : QD) : Prop := match op with
  | .Add => wI2 (fun _ _ => True) (fun i j => i + j) d v h Q
  | .Sub => wSub d v h Q
  | _ => False
theorem wAug_add {i j : Int} : wAug .Add (.int i) (.int j) h Q = Q (.int (i + j)) h := by simp [wAug, wI2]
theorem wAug_sub {i j : Int} : wAug .Sub (.int i) (.int j) h Q = Q (.int (i - j)) h := by simp [wAug, wSub, wI2]
theorem s_aug {i : Nat} {op : Operator} {e : CE} : wS gl F rt ex (.aug i op e) s h nx = wSl s[i]? fun d => wE gl F e s h (fun v h1 => wAug op d v h1 fun z h2 => nx (s.set i (some z)) h2) (fun x h' => ex x s h') := by
  rw [wS]
  dsimp only [wSl]
  generalize s[i]? = o
  cases o with
  | none => rfl
  | some o => cases o with
    | none => rfl
    | some d =>
      dsimp only
      congr 1
theorem s_exp {e : CE} : wS gl F rt ex (.exp e) s h nx = wE gl F e s h (fun _ h1 => nx s h1) (fun x h' => ex x s h') := by rw [wS]
theorem s_ret {e : CE} : wS gl F rt ex (.ret e) s h nx = wE gl F e s h rt (fun x h' => ex x s h') := by rw [wS]
theorem s_retN : wS gl F rt ex .retN s h nx = rt .non h := by rw [wS]
theorem s_for {t : CT} {it : CI} {b : CSs} : wS gl F rt ex (.for t it b) s h nx = wI gl F it s h (fun J h1 => wLoop J (wTg t) (wSs gl F rt ex b) s h1 nx) (fun x h' => ex x s h') := by rw [wS]
theorem s_whl {c : CE} {b : CSs} : wS gl F rt ex (.whl c b) s h nx = wWhile (fun s h Q => wE gl F c s h (asB Q) fun x h' => ex x s h') (wSs gl F rt ex b) s h nx := by rw [wS]
theorem s_pas : wS gl F rt ex .pas s h nx = nx s h := by rw [wS]
theorem s_fz {i : Nat} : wS gl F rt ex (.fz i) s h nx = wSl s[i]? fun d => wFrz d h fun d' h' => nx (s.set i (some d')) h' := by
  rw [wS]
  unfold wSl
  first
    | (dsimp only; done)
    | (dsimp only
       generalize s[i]? = o
       cases o with
       | none => rfl
       | some o => cases o <;> rfl)
theorem s_del {is : List Nat} : wS gl F rt ex (.del is) s h nx = nx (wipeD s is) h := by rw [wS]
theorem tg_nam {i : Nat} : wTg (.nam i) d s h nx = nx (s.set i (some d)) h := by simp only [wTg]
/-- the items of a tuple or a list to be stored -/
def wIt (o : Option (List D)) (n : Nat) (k : List D → Prop) : Prop := match o with
  | some ds => ds.length = n ∧ k ds
  | none => False
theorem wIt_some {n : Nat} {k : List D → Prop} : wIt (some ds) n k = (ds.length = n ∧ k ds) := rfl
theorem tg_tup {ts : CTs} : wTg (.tup ts) d s h nx = wIt (seqOf d h) ts.len fun ds => wTgs ts ds s h nx := by
  simp only [wTg]
  unfold wIt
  cases seqOf d h <;> rfl
theorem tgs_nil : wTgs .nil [] s h nx = nx s h := by simp only [wTgs, true_and]
theorem tgs_cons {t : CT} {ts : CTs} : wTgs (.cons t ts) (d :: ds) s h nx = wTg t d s h fun s' h' => wTgs ts ds s' h' nx := by simp only [wTgs]
theorem len_nil : CTs.nil.len = 0 := rfl
theorem len_cons {t : CT} {ts : CTs} : (CTs.cons t ts).len = ts.len + 1 := rfl
theorem any_str {x : Str} : iAny (.str x) h R = R (.str x) h := rfl
theorem any_fl {xs : List D} : iAny (.fl xs) h R = R (.fix xs) h := rfl
theorem any_tup {xs : List D} : iAny (.tup xs) h R = R (.fix xs) h := rfl
theorem any_kt {zz : Bool} {xs : List D} : iAny (.kt zz xs) h R = R (.fix xs) h := rfl
theorem any_dk {xs : List (Key × D)} : iAny (.dk xs) h R = R (.fix (xs.map fun kv => keyD kv.1)) h := rfl
theorem any_dt {xs : List (List Key × D)} : iAny (.dt xs) h R = R (.fix (xs.map fun kv => .tup (kv.1.map keyD))) h := rfl
theorem zp_fl {xs ys : List D} : iZp (.fl xs) (.fl ys) h R = R (.zip (.fix xs) (.fix ys)) h := rfl
theorem zp_tf {xs ys : List D} : iZp (.tup xs) (.fl ys) h R = R (.zip (.fix xs) (.fix ys)) h := rfl
theorem zp_ft {xs ys : List D} : iZp (.fl xs) (.tup ys) h R = R (.zip (.fix xs) (.fix ys)) h := rfl
theorem zp_kf {zz : Bool} {xs ys : List D} : iZp (.kt zz xs) (.fl ys) h R = R (.zip (.fix xs) (.fix ys)) h := rfl
theorem zp_fk {zz : Bool} {xs ys : List D} : iZp (.fl xs) (.kt zz ys) h R = R (.zip (.fix xs) (.fix ys)) h := rfl
theorem zp_kk {zz yy : Bool} {xs ys : List D} : iZp (.kt zz xs) (.kt yy ys) h R = R (.zip (.fix xs) (.fix ys)) h := rfl
theorem zp_tup {xs ys : List D} : iZp (.tup xs) (.tup ys) h R = R (.zip (.fix xs) (.fix ys)) h := rfl
theorem en_fl {xs : List D} : iEn (.fl xs) h R = R (.enm (.fix xs)) h := rfl
theorem en_tup {xs : List D} : iEn (.tup xs) h R = R (.enm (.fix xs)) h := rfl
theorem en_kt {zz : Bool} {xs : List D} : iEn (.kt zz xs) h R = R (.enm (.fix xs)) h := rfl
theorem eq_ii {z : Bool} {i j : Int} : wEq z (.int i) (.int j) h Q = Q (.bl (z ^^ decide (i = j))) h := rfl
theorem eq_ss {z : Bool} {i j : Str} : wEq z (.str i) (.str j) h Q = Q (.bl (z ^^ decide (i = j))) h := rfl
theorem eq_bb {z : Bool} {i j : Bool} : wEq z (.bl i) (.bl j) h Q = Q (.bl (z ^^ decide (i = j))) h := rfl
theorem eq_t0 {z : Bool} {xs : List D} : wEq z (.tup xs) (.tup []) h Q = Q (.bl (z ^^ xs.isEmpty)) h := rfl
end

section
variable {h : DH} {Q : QD} {z : Bool} {i j : Int} {x y : Str} {b c : Bool} {d e : D} {xs ys : List D}
theorem b_add : wBin z .Add (.int i) (.int j) h Q = Q (.int (i + j)) h := rfl
theorem b_adds : wBin z .Add (.str x) (.str y) h Q = (x.length + y.length ≤ 16777216 ∧ Q (.str (x ++ y)) h) := rfl
theorem b_addt : wBin z .Add (.tup xs) (.tup ys) h Q = (xs.length + ys.length ≤ 16777216 ∧ Q (.tup (xs ++ ys)) h) := rfl
theorem b_addk {y0 z0 : Bool} : wBin z .Add (.kt y0 xs) (.kt z0 ys) h Q = (xs.length + ys.length ≤ 16777216 ∧ Q (.kt false (xs ++ ys)) h) := rfl
theorem b_addl : wBin z .Add (.fl xs) (.fl ys) h Q = (xs.length + ys.length ≤ 16777216 ∧ al z (.lst (xs ++ ys)) h Q) := rfl
theorem b_sub : wBin z .Sub (.int i) (.int j) h Q = Q (.int (i - j)) h := rfl
theorem b_mul : wBin z .Mult (.int i) (.int j) h Q = (CMul i j ∧ Q (.int (i * j)) h) := rfl
theorem b_mull : wBin z .Mult (.fl xs) (.int j) h Q = ((-(2 ^ 63) ≤ j ∧ j < 2 ^ 63 ∧ xs.length * j.toNat ≤ 16777216) ∧ al z (.lst (List.replicate j.toNat xs).flatten) h Q) := rfl
theorem b_div : wBin z .FloorDiv (.int i) (.int j) h Q = (CFdiv i j ∧ Q (.int (i / j)) h) := rfl
theorem b_mod : wBin z .Mod (.int i) (.int j) h Q = (0 < j ∧ Q (.int (i % j)) h) := rfl
theorem b_pow : wBin z .Pow (.int i) (.int j) h Q = (CPow i j ∧ Q (.int (i ^ j.toNat)) h) := rfl
theorem m_eq : wCmp .Eq d e h Q = wEq false d e h Q := rfl
theorem m_ne : wCmp .NotEq d e h Q = wEq true d e h Q := rfl
theorem m_lt : wCmp .Lt (.int i) (.int j) h Q = Q (.bl (decide (i < j))) h := rfl
theorem m_le : wCmp .LtE (.int i) (.int j) h Q = Q (.bl (decide (i ≤ j))) h := rfl
theorem m_gt : wCmp .Gt (.int i) (.int j) h Q = Q (.bl (decide (j < i))) h := rfl
theorem m_ge : wCmp .GtE (.int i) (.int j) h Q = Q (.bl (decide (j ≤ i))) h := rfl
theorem m_in : wCmp .In d e h Q = wIn false d e h Q := rfl
theorem m_ni : wCmp .NotIn d e h Q = wIn true d e h Q := rfl
theorem m_is : wCmp .Is d e h Q = wIs false d e h Q := rfl
theorem m_nis : wCmp .IsNot d e h Q = wIs true d e h Q := rfl
theorem is_non : wIs z d .non h Q = Q (.bl (z ^^ isNon d)) h := by cases d <;> rfl
theorem is_bb : wIs z (.bl b) (.bl c) h Q = Q (.bl (z ^^ decide (b = c))) h := rfl
theorem in_tup : wIn z d (.tup ys) h Q = (flatD d = true ∧ ys.all flatD = true ∧ Q (.bl (z ^^ inD d ys)) h) := rfl
theorem in_kt {zz : Bool} : wIn z d (.kt zz ys) h Q = (flatD d = true ∧ ys.all flatD = true ∧ Q (.bl (z ^^ inD d ys)) h) := rfl
theorem n_int : wNeg (.int i) h Q = Q (.int (-i)) h := rfl
theorem x_tup : wIdx (.tup xs) d h Q = wAt xs d h Q := rfl
theorem x_kt {zz : Bool} : wIdx (.kt zz xs) d h Q = wAt xs d h Q := rfl
theorem x_fl : wIdx (.fl xs) d h Q = wAt xs d h Q := rfl
theorem x_dk {kvs : List (Key × D)} : wIdx (.dk kvs) d h Q = wKeyF (.dk kvs) h d Q := rfl
theorem x_dt {kvs : List (List Key × D)} : wIdx (.dt kvs) d h Q = wKeyF (.dt kvs) h d Q := rfl
theorem l_fl {lo hi : Option Int} : wSlc z (.fl xs) lo hi h Q = al z (.lst (cutD xs lo hi)) h Q := rfl
theorem l_kt {zz : Bool} {lo hi : Option Int} : wSlc z (.kt zz xs) lo hi h Q = Q (.kt false (cutD xs lo hi)) h := rfl
theorem l_tup {lo hi : Option Int} : wSlc z (.tup xs) lo hi h Q = Q (.tup (cutD xs lo hi)) h := rfl
theorem l_str {lo hi : Option Int} : wSlc z (.str x) lo hi h Q = (x.length ≤ 16777216 ∧ Q (.str (cutS x lo hi)) h) := rfl
theorem v_len : wB z .len [d] h Q = wLen d h Q := rfl
theorem v_lenf : wLen (.fl xs) h Q = Q (.int xs.length) h := rfl
theorem v_lent : wLen (.tup xs) h Q = Q (.int xs.length) h := rfl
theorem v_lenk {zz : Bool} : wLen (.kt zz xs) h Q = Q (.int xs.length) h := rfl
theorem v_lens : wLen (.str x) h Q = (x.length ≤ 16777216 ∧ Q (.int x.length) h) := rfl
theorem v_lend {kvs : List (Key × D)} : wLen (.dk kvs) h Q = Q (.int kvs.length) h := rfl
theorem v_abs : wB z .abs [.int i] h Q = Q (.int (if i < 0 then -i else i)) h := rfl
theorem v_max : wB z .max [.int i, .int j] h Q = Q (.int (max i j)) h := by
  have : (if j > i then j else i) = max i j := by split <;> omega
  rw [← this]; rfl
theorem v_min : wB z .min [.int i, .int j] h Q = Q (.int (min i j)) h := by
  have : (if j < i then j else i) = min i j := by split <;> omega
  rw [← this]; rfl
theorem v_max3 {k : Int} : wB z .max [.int i, .int j, .int k] h Q = Q (.int (max (max i j) k)) h := by
  have : (if j > i then (if k > j then k else j) else (if k > i then k else i)) = max (max i j) k := by repeat' split <;> omega
  rw [← this]; rfl
theorem v_min3 {k : Int} : wB z .min [.int i, .int j, .int k] h Q = Q (.int (min (min i j) k)) h := by
  have : (if j < i then (if k < j then k else j) else (if k < i then k else i)) = min (min i j) k := by repeat' split <;> omega
  rw [← this]; rfl
theorem v_srt : wB z .sorted [d] h Q = wSorted z d h Q := rfl
theorem v_tupt : wB z .tuple [.tup xs] h Q = Q (.tup xs) h := rfl
theorem v_tupf : wB z .tuple [.fl xs] h Q = Q (.tup xs) h := rfl
theorem v_ptupf : wB z .ptup [.fl xs] h Q = Q (.kt true xs) h := rfl
theorem v_dctk : wB z .dict [.kt true xs] h Q = wPrs z xs h Q := rfl
theorem v_dctf : wB z .dict [.fl xs] h Q = wPrs z xs h Q := rfl
theorem v_dctd {kvs : List (Key × D)} : wB z .dict [.dk kvs] h Q = al z (.dK kvs) h Q := rfl
theorem v_lstf : wB z .list [.fl xs] h Q = al z (.lst xs) h Q := rfl
theorem v_lstt : wB z .list [.tup xs] h Q = al z (.lst xs) h Q := rfl
theorem v_intb : wB z .int [.bl b] h Q = Q (.int (if b then 1 else 0)) h := rfl
theorem v_inti : wB z .int [.int i] h Q = Q (.int i) h := rfl
theorem v_strs {x : Str} : wB z .str [.str x] h Q = Q (.str x) h := rfl
theorem v_str : wB z .str [.int i] h Q = (i.natAbs.log2 < 1920 ∧ Q (.str (toString i)) h) := rfl
theorem v_repr : wB z .repr [d] h Q = wRepr d h Q := rfl
theorem q_fl : seqOf (.fl xs) h = some xs := rfl
theorem q_tup : seqOf (.tup xs) h = some xs := rfl
theorem q_kt {zz : Bool} : seqOf (.kt zz xs) h = some xs := rfl
theorem q_lfl : lstOf (.fl xs) h = some xs := rfl
variable {T : String}
theorem y_non : wIsi T .non h Q = Q (.bl (isTy "NoneType" T)) h := rfl
theorem y_bl : wIsi T (.bl b) h Q = Q (.bl (isTy "bool" T)) h := rfl
theorem y_int : wIsi T (.int i) h Q = Q (.bl (isTy "int" T)) h := rfl
theorem y_str : wIsi T (.str x) h Q = Q (.bl (isTy "str" T)) h := rfl
theorem y_tup : wIsi T (.tup xs) h Q = Q (.bl (isTy "tuple" T)) h := rfl
theorem y_fl : wIsi T (.fl xs) h Q = Q (.bl (isTy "list" T)) h := rfl
theorem r_rng {R : DIt → DH → Prop} : iRng i j h R = ((-(2 ^ 62) ≤ i ∧ i < 2 ^ 62 ∧ -(2 ^ 62) ≤ j ∧ j < 2 ^ 62) ∧ R (.rng i (j - i).toNat) h) := rfl
theorem k_w0 {s : DSt} : wipeD s [] = s := rfl
theorem k_w1 {s : DSt} {v : Nat} {vs : List Nat} : wipeD s (v :: vs) = (wipeD s vs).set v none := rfl
end
/-- the steps -/
def SX := And.intro @e_var <| And.intro @wV_some <| And.intro @wG_some <| And.intro @e_non <| And.intro @e_bl <| And.intro @e_int <| And.intro @e_str <| And.intro @e_glb <| And.intro @e_bin <| And.intro @e_neg <|
  And.intro @e_no <| And.intro @e_and <| And.intro @e_or <| And.intro @e_cmp <| And.intro @e_chn <| And.intro @e_ife <| And.intro @e_tup <| And.intro @e_lst <| And.intro @e_idx <| And.intro @e_slc <|
  And.intro @e_call <| And.intro @e_blt <| And.intro @e_mtd <| And.intro @e_isi <| And.intro @e_dis <| And.intro @e_mnd <| And.intro @e_stp <| And.intro @e_lrg <| And.intro @e_sset <| And.intro @e_lset <| And.intro @e_rev <| And.intro @e_frz <| And.intro @e_gc <| And.intro @e_comp <|
  And.intro @es_nil <| And.intro @es_cons <| And.intro @o_none <| And.intro @o_some <| And.intro @wOi_int <| And.intro @t_none <| And.intro @t_some <| And.intro @wR1_int <| And.intro @wR2_int <|
  And.intro @i_any <| And.intro @i_rng1 <| And.intro @i_rng2 <| And.intro @i_rng3 <| And.intro @wR3_int <| And.intro @i_zip <| And.intro @i_enm <| And.intro @s_set <| And.intro @s_unp <| And.intro @s_par2 <| And.intro @s_par3 <| And.intro @s_put <| And.intro @s_aug <|
  And.intro @wSl_some <| And.intro @wAug_add <| And.intro @wAug_sub <| And.intro @s_exp <| And.intro @s_ret <| And.intro @s_retN <| And.intro @s_for <| And.intro @s_whl <| And.intro @s_pas <| And.intro @s_fz <| And.intro @s_del <|
  And.intro @s_ife <| And.intro @tg_nam <| And.intro @tg_tup <| And.intro @wIt_some <| And.intro @tgs_nil <| And.intro @tgs_cons <| And.intro @len_nil <| And.intro @len_cons <| And.intro @any_str <| And.intro @any_fl <| And.intro @any_tup <| And.intro @any_kt <|
  And.intro @any_dk <| And.intro @any_dt <| And.intro @zp_fl <| And.intro @zp_tup <| And.intro @zp_tf <| And.intro @zp_ft <| And.intro @zp_kf <| And.intro @zp_fk <| And.intro @zp_kk <| And.intro @en_fl <| And.intro @en_tup <| And.intro @en_kt <| And.intro @asB_bl <| And.intro @al_t <| And.intro @frzO_lst <| And.intro @frzO_dK <| And.intro @frzO_dT <| And.intro @frzO_ins <|
  And.intro @wFrz_fl <| And.intro @wFrz_int <| And.intro @wFrz_bl <| And.intro @wFrz_str <| And.intro @wFrz_tup <| And.intro @wFrz_non <| And.intro @wFrz_dk <| And.intro @wFrz_ob <| And.intro @eq_ii <| And.intro @eq_ss <| And.intro @eq_bb <|
  And.intro @wAt_0 <| And.intro @wAt_1 <| And.intro @wAt_2 <| And.intro @wAt_3 <| And.intro @up_at <| And.intro @up_up <| And.intro @ix30 <| And.intro @ix31 <| And.intro @ix32 <| @rst_same
def SX2 := And.intro @b_add <| And.intro @b_adds <| And.intro @b_addt <| And.intro @b_addl <| And.intro @b_addk <| And.intro @l_kt <| And.intro @b_sub <| And.intro @b_mul <| And.intro @b_mull <| And.intro @b_div <| And.intro @b_mod <| And.intro @b_pow <| And.intro @m_eq <| And.intro @m_ne <| And.intro @m_lt <| And.intro @m_le <| And.intro @m_gt <| And.intro @m_ge <| And.intro @m_in <| And.intro @m_ni <| And.intro @m_is <| And.intro @m_nis <| And.intro @is_non <| And.intro @is_bb <| And.intro @in_tup <| And.intro @in_kt <| And.intro @n_int <| And.intro @x_tup <| And.intro @x_kt <| And.intro @x_fl <| And.intro @x_dk <| And.intro @x_dt <| And.intro @l_fl <| And.intro @l_tup <| And.intro @l_str <| And.intro @v_len <| And.intro @v_lenf <| And.intro @v_lent <| And.intro @v_lenk <| And.intro @v_lens <| And.intro @v_lend <| And.intro @v_abs <| And.intro @v_max3 <| And.intro @v_min3 <| And.intro @v_max <| And.intro @v_min <| And.intro @v_srt <| And.intro @v_tupt <| And.intro @v_tupf <| And.intro @v_ptupf <| And.intro @v_dctk <| And.intro @v_dctf <| And.intro @v_dctd <| And.intro @v_lstf <| And.intro @v_lstt <| And.intro @v_intb <| And.intro @v_inti <| And.intro @v_str <| And.intro @v_repr <| And.intro @q_fl <| And.intro @q_tup <| And.intro @q_kt <| And.intro @q_lfl <| And.intro @y_non <| And.intro @y_bl <| And.intro @y_int <| And.intro @y_str <| And.intro @y_tup <| And.intro @y_fl <| And.intro @r_rng <| And.intro @k_w0 <| @k_w1
/-! what stands in the heap -/
section
variable {h : DH} {Q : QD} {z : Bool} {a : Addr} {y v x : D} {xs ys : List D} {kvs : List (Key × D)} {kts : List (List Key × D)} {T : String} {R : DIt → DH → Prop} {m : Mtd} {c : Str} {fs : List (Str × D)} {i : Int}
def ixP {α : Type} (o : Option α) (k : α → Prop) : Prop := match o with
  | some j => k j
  | none => False
theorem ixP_some {α : Type} {j : α} {k : α → Prop} : ixP (some j) k = k j := rfl
def sqO : Option DO → Option (List D)
  | some (.lst xs) => some xs
  | _ => none
theorem sqO_l : sqO (some (.lst xs)) = some xs := rfl
theorem q_ref : seqOf (.ref a) h = sqO (h a) := by unfold seqOf sqO; rfl
theorem q_lref : lstOf (.ref a) h = sqO (h a) := by unfold lstOf sqO; rfl
def ixO (o : Option DO) (a : Addr) (y : D) (h : DH) (Q : QD) : Prop := match o with
  | some (.lst xs) => wAt xs y h Q
  | some (.dK kvs) => ixP (asKey y) fun k => ixP (dget kvs k) fun v => Q v h
  | some (.dT kvs) => match y with
    | .tup ds => ixP (asKeys ds) fun k => ixP (dget kvs k) fun v => Q v h
    | _ => False
  | _ => False
theorem ixO_l : ixO (some (.lst xs)) a y h Q = wAt xs y h Q := rfl
theorem ixO_di : ixO (some (.dK kvs)) a (.int i) h Q = ixP (dget kvs (.inl i)) fun v => Q v h := rfl
theorem ixO_ds : ixO (some (.dK kvs)) a (.str c) h Q = ixP (dget kvs (.inr c)) fun v => Q v h := rfl
theorem ixO_t : ixO (some (.dT kts)) a (.tup xs) h Q = ixP (asKeys xs) fun k => ixP (dget kts k) fun v => Q v h := rfl
theorem x_ref : wIdx (.ref a) y h Q = ixO (h a) a y h Q := by
  unfold wIdx
  dsimp only
  cases e : h a with
  | none => rfl
  | some o =>
    cases o with
    | lst xs => rfl
    | dK kvs =>
      show wKey h a y Q = ixP (asKey y) _
      unfold wKey dlook
      rw [e]
      cases y with
      | int i =>
        show (match some (dget kvs (.inl i)) with | some (some v) => Q v h | _ => False) = ixP (dget kvs (.inl i)) _
        generalize dget kvs (.inl i) = r
        cases r <;> rfl
      | str c =>
        show (match some (dget kvs (.inr c)) with | some (some v) => Q v h | _ => False) = ixP (dget kvs (.inr c)) _
        generalize dget kvs (.inr c) = r
        cases r <;> rfl
      | _ => rfl
    | dT kvs =>
      show wKey h a y Q = _
      unfold wKey dlook
      rw [e]
      cases y with
      | tup ds =>
        show (match (asKeys ds).map (dget kvs) with | some (some v) => Q v h | _ => False) = ixP (asKeys ds) _
        generalize asKeys ds = k
        cases k with
        | none => rfl
        | some k =>
          show (match some (dget kvs k) with | some (some v) => Q v h | _ => False) = ixP (dget kvs k) _
          generalize dget kvs k = r
          cases r <;> rfl
      | _ => rfl
    | ins c fs => rfl
def lnO (o : Option DO) (h : DH) (Q : QD) : Prop := match o with
  | some (.lst xs) => Q (.int xs.length) h
  | some (.dK kvs) => Q (.int kvs.length) h
  | _ => False
theorem lnO_l : lnO (some (.lst xs)) h Q = Q (.int xs.length) h := rfl
theorem lnO_d : lnO (some (.dK kvs)) h Q = Q (.int kvs.length) h := rfl
theorem v_lenr : wLen (.ref a) h Q = lnO (h a) h Q := by unfold wLen lnO; rfl
def stO (o : Option DO) (a : Addr) (y v : D) (h : DH) (Q : DH → Prop) : Prop := match o with
  | some (.lst xs) => match y with
    | .int i => ixP (ixN xs.length i) fun j => Q (up h a (.lst (xs.set j v)))
    | _ => False
  | some (.dK kvs) => ixP (asKey y) fun k => kvs.length < 16777216 ∧ Q (up h a (.dK (dput kvs k v)))
  | some (.dT kvs) => match y with
    | .tup ds => ixP (asKeys ds) fun k => kvs.length < 16777216 ∧ Q (up h a (.dT (dput kvs k v)))
    | _ => False
  | _ => False
variable {Qh : DH → Prop}
theorem st_ref : wSet (.ref a) y v h Qh = stO (h a) a y v h Qh := by
  unfold wSet
  dsimp only
  generalize h a = o
  cases o with
  | none => rfl
  | some o =>
    cases o with
    | lst xs =>
      cases y with
      | int i =>
        show _ = ixP (ixN xs.length i) _
        dsimp only
        generalize ixN xs.length i = k
        cases k <;> rfl
      | _ => rfl
    | dK kvs =>
      show _ = ixP (asKey y) _
      dsimp only
      generalize asKey y = k
      cases k <;> rfl
    | dT kvs =>
      cases y with
      | tup ds =>
        show _ = ixP (asKeys ds) _
        dsimp only
        generalize asKeys ds = k
        cases k <;> rfl
      | _ => rfl
    | ins c fs => rfl
theorem stO_l : stO (some (.lst xs)) a (.int i) v h Qh = ixP (ixN xs.length i) fun j => Qh (up h a (.lst (xs.set j v))) := rfl
theorem stO_di : stO (some (.dK kvs)) a (.int i) v h Qh = (kvs.length < 16777216 ∧ Qh (up h a (.dK (dput kvs (.inl i) v)))) := rfl
theorem stO_ds {c : Str} : stO (some (.dK kvs)) a (.str c) v h Qh = (kvs.length < 16777216 ∧ Qh (up h a (.dK (dput kvs (.inr c) v)))) := rfl
theorem stO_t : stO (some (.dT kts)) a (.tup xs) v h Qh = ixP (asKeys xs) fun k => kts.length < 16777216 ∧ Qh (up h a (.dT (dput kts k v))) := rfl
def mdO (o : Option DO) (m : Mtd) (a : Addr) (xs : List D) (h : DH) (Q : QD) : Prop := match o with
  | some (.lst ys) => wML m a ys xs h Q
  | some (.dK _) => wMD m a xs h Q
  | some (.dT _) => wMD m a xs h Q
  | _ => False
theorem md_ref : wM z m (.ref a) xs h Q = mdO (h a) m a xs h Q := by unfold wM mdO; rfl
theorem mdO_l : mdO (some (.lst ys)) m a xs h Q = wML m a ys xs h Q := rfl
theorem mdO_d : mdO (some (.dK kvs)) m a xs h Q = wMD m a xs h Q := rfl
theorem mdO_t : mdO (some (.dT kts)) m a xs h Q = wMD m a xs h Q := rfl
theorem md_str : wM z m (.str c) xs h Q = wMS z m c xs h Q := rfl
theorem md_dk : wM z m (.dk kvs) xs h Q = wMF m (.dk kvs) xs h Q := rfl
theorem md_dt : wM z m (.dt kts) xs h Q = wMF m (.dt kts) xs h Q := rfl
theorem ml_app : wML .append a ys [x] h Q = (ys.length < 16777216 ∧ Q .non (up h a (.lst (ys ++ [x])))) := rfl
theorem ml_ext : wML .extend a ys [x] h Q = ixP (lstOf x h) fun zs => ys.length + zs.length ≤ 16777216 ∧ Q .non (up h a (.lst (ys ++ zs))) := by
  unfold wML ixP
  simp only
  cases lstOf x h <;> rfl
theorem ml_pop : wML .pop a ys [] h Q = ixP (ys[ys.length - 1]?) fun y => Q y (up h a (.lst ys.dropLast)) := by
  unfold wML ixP
  simp only
  cases ys[ys.length - 1]? <;> rfl
theorem ml_rev : wML .reverse a ys [] h Q = Q .non (up h a (.lst ys.reverse)) := rfl
theorem ml_clr : wML .clear a ys [] h Q = Q .non (up h a (.lst [])) := rfl
theorem ml_ins : wML .insert a ys [.int i, y] h Q = ((ys.length < 16777216 ∧ 0 ≤ i ∧ i < 2 ^ 63) ∧ Q .non (up h a (.lst (ys.take i.toNat ++ [y] ++ ys.drop i.toNat)))) := rfl
theorem mf_get1 : wMF .get x [y] h Q = ixP (dsel x h y) fun o => Q (o.getD .non) h := by
  unfold wMF ixP
  simp only
  cases dsel x h y <;> rfl
theorem mf_get2 : wMF .get x [y, v] h Q = ixP (dsel x h y) fun o => Q (o.getD v) h := by
  unfold wMF ixP
  simp only
  cases dsel x h y <;> rfl
theorem mg_get1 : wMD .get a [y] h Q = ixP (dlook h a y) fun o => Q (o.getD .non) h := by
  unfold wMD ixP
  simp only
  cases dlook h a y <;> rfl
theorem mg_get2 : wMD .get a [y, v] h Q = ixP (dlook h a y) fun o => Q (o.getD v) h := by
  unfold wMD ixP
  simp only
  cases dlook h a y <;> rfl
def tyO (T : String) (o : Option DO) : Prop := match o with
  | some (.lst _) => T = "list"
  | some (.dK _) => T = "dict"
  | some (.dT _) => T = "dict"
  | _ => False
theorem ty_ref : tyD T (.ref a) h = tyO T (h a) := by unfold tyD tyO; rfl
theorem tyO_l : tyO T (some (.lst xs)) = (T = "list") := rfl
theorem tyO_d : tyO T (some (.dK kvs)) = (T = "dict") := rfl
theorem tyO_t : tyO T (some (.dT kts)) = (T = "dict") := rfl
theorem ty_str : tyD T (.str c) h = (T = "str") := rfl
theorem ty_dk : tyD T (.dk kvs) h = (T = "dict") := rfl
theorem ty_dt : tyD T (.dt kts) h = (T = "dict") := rfl
def anO (o : Option DO) (a : Addr) (h : DH) (R : DIt → DH → Prop) : Prop := match o with
  | some (.lst _) => R (.lst a) h
  | _ => False
theorem any_ref : iAny (.ref a) h R = anO (h a) a h R := by
  unfold iAny isSeqL isSeqT anO
  simp only
  cases h a with
  | none => rfl
  | some o => cases o <;> rfl
theorem anO_l : anO (some (.lst xs)) a h R = R (.lst a) h := rfl
def isO (T : String) (o : Option DO) (h : DH) (Q : QD) : Prop := match o with
  | some (.lst _) => Q (.bl (isTy "list" T)) h
  | some (.dK _) => Q (.bl (isTy "dict" T)) h
  | some (.dT _) => Q (.bl (isTy "dict" T)) h
  | _ => False
theorem y_ref : wIsi T (.ref a) h Q = isO T (h a) h Q := by
  unfold wIsi isO tyOf
  simp only
  cases h a with
  | none => rfl
  | some o => cases o <;> rfl
theorem isO_l : isO T (some (.lst xs)) h Q = Q (.bl (isTy "list" T)) h := rfl
theorem isO_d : isO T (some (.dK kvs)) h Q = Q (.bl (isTy "dict" T)) h := rfl
theorem y_dk : wIsi T (.dk kvs) h Q = Q (.bl (isTy "dict" T)) h := rfl
theorem wDis_f : wDis false a kvs h Q = Q (.ref a) (up h a (.dK kvs)) := rfl
theorem wDis_t : wDis true a kvs h Q = Q (.dk kvs) (rm h a) := rfl
theorem wFrz_ref : wFrz (.ref a) h Q = match h a with
    | some o => Q (frzO o) (rm h a)
    | none => Q (.ref a) h := rfl
end
def SX4 := And.intro @wDis_f <| And.intro @wDis_t <| And.intro @sqO_l <| And.intro @q_ref <| And.intro @q_lref <| And.intro @ixO_l <| And.intro @ixO_di <| And.intro @ixO_ds <| And.intro @ixO_t <| And.intro @x_ref <| And.intro @lnO_l <| And.intro @lnO_d <| And.intro @v_lenr <| And.intro @st_ref <| And.intro @ixP_some <| And.intro @stO_l <| And.intro @stO_di <| And.intro @stO_ds <| And.intro @stO_t <| And.intro @md_ref <| And.intro @mdO_l <| And.intro @mdO_d <| And.intro @mdO_t <| And.intro @md_str <| And.intro @md_dk <| And.intro @md_dt <| And.intro @ml_app <| And.intro @ml_ext <| And.intro @ml_pop <| And.intro @ml_rev <| And.intro @ml_clr <| And.intro @ml_ins <| And.intro @mf_get1 <| And.intro @mf_get2 <| And.intro @mg_get1 <| And.intro @mg_get2 <| And.intro @ty_ref <| And.intro @tyO_l <| And.intro @tyO_d <| And.intro @tyO_t <| And.intro @ty_str <| And.intro @ty_dk <| And.intro @ty_dt <| And.intro @any_ref <| And.intro @anO_l <| And.intro @y_ref <| And.intro @isO_l <| And.intro @isO_d <| @y_dk
/-! tuples told as data -/
section
variable {α β γ δ : Type} [Dt α] [Dt β] [Dt γ] [Dt δ] {h : DH} {Q : QD} {z : Bool} {T : String} {R : DIt → DH → Prop}
theorem x_pr0 {x : α × β} : wIdx (Dt.d x) (.int 0) h Q = Q (Dt.d x.1) h := by rw [V_pr, x_tup, wAt_0]
theorem x_pr1 {x : α × β} : wIdx (Dt.d x) (.int 1) h Q = Q (Dt.d x.2) h := by rw [V_pr, x_tup, wAt_1]
theorem x_tr0 {x : Tr α β γ} : wIdx (Dt.d x) (.int 0) h Q = Q (Dt.d x.a) h := by rw [V_tr, x_tup, wAt_0]
theorem x_tr1 {x : Tr α β γ} : wIdx (Dt.d x) (.int 1) h Q = Q (Dt.d x.b) h := by rw [V_tr, x_tup, wAt_1]
theorem x_tr2 {x : Tr α β γ} : wIdx (Dt.d x) (.int 2) h Q = Q (Dt.d x.c) h := by rw [V_tr, x_tup, wAt_2]
theorem x_qd0 {x : Qd α β γ δ} : wIdx (Dt.d x) (.int 0) h Q = Q (Dt.d x.a) h := by rw [V_qd, x_tup, wAt_0]
theorem x_qd1 {x : Qd α β γ δ} : wIdx (Dt.d x) (.int 1) h Q = Q (Dt.d x.b) h := by rw [V_qd, x_tup, wAt_1]
theorem x_qd2 {x : Qd α β γ δ} : wIdx (Dt.d x) (.int 2) h Q = Q (Dt.d x.c) h := by rw [V_qd, x_tup, wAt_2]
theorem x_qd3 {x : Qd α β γ δ} : wIdx (Dt.d x) (.int 3) h Q = Q (Dt.d x.d) h := by rw [V_qd, x_tup, wAt_3]
theorem q_pr {x : α × β} : seqOf (Dt.d x) h = some [Dt.d x.1, Dt.d x.2] := rfl
theorem q_tr {x : Tr α β γ} : seqOf (Dt.d x) h = some [Dt.d x.a, Dt.d x.b, Dt.d x.c] := rfl
theorem q_qd {x : Qd α β γ δ} : seqOf (Dt.d x) h = some [Dt.d x.a, Dt.d x.b, Dt.d x.c, Dt.d x.d] := rfl
theorem v_lenp {x : α × β} : wLen (Dt.d x) h Q = Q (.int 2) h := rfl
theorem v_len3 {x : Tr α β γ} : wLen (Dt.d x) h Q = Q (.int 3) h := rfl
theorem v_len4 {x : Qd α β γ δ} : wLen (Dt.d x) h Q = Q (.int 4) h := rfl
theorem y_pr {x : α × β} : wIsi T (Dt.d x) h Q = Q (.bl (isTy "tuple" T)) h := rfl
theorem y_tr {x : Tr α β γ} : wIsi T (Dt.d x) h Q = Q (.bl (isTy "tuple" T)) h := rfl
theorem y_qd {x : Qd α β γ δ} : wIsi T (Dt.d x) h Q = Q (.bl (isTy "tuple" T)) h := rfl
theorem any_pr {x : α × β} : iAny (Dt.d x) h R = R (.fix [Dt.d x.1, Dt.d x.2]) h := rfl
theorem any_tr {x : Tr α β γ} : iAny (Dt.d x) h R = R (.fix [Dt.d x.a, Dt.d x.b, Dt.d x.c]) h := rfl
end
def SX3 := And.intro @wFrz_v <| And.intro @V_int <| And.intro @V_bl <| And.intro @V_str <| And.intro @V_lst <| And.intro @V_tl <| And.intro @x_pr0 <| And.intro @x_pr1 <| And.intro @x_tr0 <| And.intro @x_tr1 <| And.intro @x_tr2 <| And.intro @x_qd0 <| And.intro @x_qd1 <| And.intro @x_qd2 <| And.intro @x_qd3 <| And.intro @q_pr <| And.intro @q_tr <| And.intro @q_qd <| And.intro @v_lenp <| And.intro @v_len3 <| And.intro @v_len4 <| And.intro @y_pr <| And.intro @y_tr <| And.intro @y_qd <| And.intro @any_pr <| @any_tr
example {n : Nat} {h : DH} {Q : QD} {E : XD} {gl : List D} {F : Fns} (q : Q (.int 3) h) : wE gl F (.bin true .Add (.int 1) (.var 0)) [some (.int 2)] h Q E := by
  simp only [SX, SX2, List.getElem?_cons_zero]
  exact q
end DL

/-! the steps' lemmas: exceptions, instances -/
namespace DL
open PySem L2
section
variable {gl : List D} {F : Fns} {rt : QD} {ex : SXD} {s : DSt} {h : DH} {nx : DSt → DH → Prop} {cs : CSs} {Q : QD} {E : XD} {d e v : D} {ds : List D} {c f m : Str} {xs ys ts : List Str} {fs : List (Str × D)} {a b o : CE} {es : CEs} {i : Nat} {p : Addr}
theorem e_ktup : wE gl F (.ktup es) s h Q E = wEs gl F es s h (fun ds h1 => ds.length ≤ 16777216 ∧ Q (.kt true ds) h1) E := by rw [wE]
theorem e_ist {tb : List (Str × Bool)} : wE gl F (.ist a ts tb) s h Q E = wE gl F a s h (fun x h1 => wIsc tb x h1 Q) E := by rw [wE]
theorem e_isc {tb : List (Str × Bool)} : wE gl F (.isc a f tb) s h Q E = wE gl F a s h (fun x h1 => wIsc tb x h1 Q) E := by rw [wE]
theorem isc_ob {tb : List (Str × Bool)} : wIsc tb (.ob c fs) h Q = wIa (tb.lookup c) h Q := rfl
def icO (tb : List (Str × Bool)) (o : Option DO) (h : DH) (Q : QD) : Prop := match o with
  | some (.ins c _) => wIa (tb.lookup c) h Q
  | _ => False
theorem isc_ref {tb : List (Str × Bool)} : wIsc tb (.ref p) h Q = icO tb (h p) h Q := by unfold wIsc icO; rfl
theorem icO_i {tb : List (Str × Bool)} : icO tb (some (.ins c fs)) h Q = wIa (tb.lookup c) h Q := rfl
theorem wIa_s {k : Bool} : wIa (some k) h Q = Q (.bl k) h := rfl
theorem e_isx : wE gl F (.isx a ts xs) s h Q E = wE gl F a s h (fun x h1 => wIsx ts xs x h1 Q) E := by rw [wE]
theorem e_fld : wE gl F (.fld a f xs ys) s h Q E = wE gl F a s h (fun x h1 => wFld f xs ys x h1 Q) E := by rw [wE]
theorem e_new : wE gl F (.new c i es) s h Q E = wEs gl F es s h (fun ds h1 => ∀ p, h1 p = none → F i (.ref p :: ds) (up h1 p (.ins c [])) (fun d h2 => d = .non ∧ Q (.ref p) h2) E) E := by rw [wE]
theorem e_imt {tb : List (Str × Nat)} : wE gl F (.imt m tb o es) s h Q E = wE gl F o s h (fun x h1 => wMt (mtI tb (clsD m x h1)) fun i => wEs gl F es s h1 (fun ds h2 => F i (x :: ds) h2 Q E) E) E := by rw [wE]
theorem s_fst : wS gl F rt ex (.fst o f xs a) s h nx = wE gl F a s h (fun v h1 => wE gl F o s h1 (fun x h2 => wFst f xs x v h2 fun h3 => nx s h3) fun x h' => ex x s h') (fun x h' => ex x s h') := by rw [wS]
theorem s_rai : wS gl F rt ex (.rai c xs es) s h nx = wEs gl F es s h (fun ds h1 => ((xs.isEmpty && decide (ds.length ≤ 1000)) || ds.length == xs.length) = true ∧ ex (mkX c xs ds) s h1) (fun x h' => ex x s h') := by rw [wS]
/-- what becomes of an exception -/
def wCat (gl : List D) (F : Fns) (rt : QD) (ex : SXD) (c : Str) (xs : List Str) (su : CSs) (nx : DSt → DH → Prop) (x : Exn) (s : DSt) (h : DH) : Prop :=
  xs.contains x.cls = true ∧ if isA x.cls c = true then wSs gl F rt (fun _ _ _ => False) su s h nx else ex x s h
def wCatI (gl : List D) (F : Fns) (rt : QD) (ex : SXD) (c : Str) (xs : List Str) (j : Nat) (su : CSs) (nx : DSt → DH → Prop) (x : Exn) (s : DSt) (h : DH) : Prop :=
  xs.contains x.cls = true ∧ if isA x.cls c = true then wSs gl F rt (fun _ _ _ => False) su (s.set j (some (.ex x.cls x.fs))) h (fun s2 h2 => nx (s2.set j none) h2) else ex x s h
theorem s_try0 {b su : CSs} : wS gl F rt ex (.try b c xs none su) s h nx = wSs gl F rt (wCat gl F rt ex c xs su nx) b s h nx := by rw [wS]; rfl
theorem s_try1 {b su : CSs} {j : Nat} : wS gl F rt ex (.try b c xs (some j) su) s h nx = wSs gl F rt (wCatI gl F rt ex c xs j su nx) b s h nx := by rw [wS]; rfl
theorem cat_c {su : CSs} {f : List Str} : wCat gl F rt ex c xs su nx (mkX m f ds) s h = (xs.contains m = true ∧ if isA m c = true then wSs gl F rt (fun _ _ _ => False) su s h nx else ex (mkX m f ds) s h) := rfl
theorem cat_i0 {su : CSs} {j : Nat} : wCatI gl F rt ex c xs j su nx (mkX m [] ds) s h = (xs.contains m = true ∧ if isA m c = true then wSs gl F rt (fun _ _ _ => False) su (s.set j (some (.ex m []))) h (fun s2 h2 => nx (s2.set j none) h2) else ex (mkX m [] ds) s h) := rfl
theorem cat_i1 {su : CSs} {j : Nat} : wCatI gl F rt ex c xs j su nx (mkX m [f] [d]) s h = (xs.contains m = true ∧ if isA m c = true then wSs gl F rt (fun _ _ _ => False) su (s.set j (some (.ex m [(f, d)]))) h (fun s2 h2 => nx (s2.set j none) h2) else ex (mkX m [f] [d]) s h) := rfl
theorem cat_i2 {su : CSs} {j : Nat} {g : Str} : wCatI gl F rt ex c xs j su nx (mkX m [f, g] [d, e]) s h = (xs.contains m = true ∧ if isA m c = true then wSs gl F rt (fun _ _ _ => False) su (s.set j (some (.ex m [(g, e), (f, d)]))) h (fun s2 h2 => nx (s2.set j none) h2) else ex (mkX m [f, g] [d, e]) s h) := rfl
theorem isx_non : wIsx ts xs .non h Q = (xs.isEmpty = false ∧ Q (.bl false) h) := rfl
theorem isx_ex : wIsx ts xs (.ex c fs) h Q = (xs.contains c = true ∧ Q (.bl (ts.any (isA c))) h) := rfl
theorem fld_ex : wFld f xs ys (.ex c fs) h Q = (ys.contains c = true ∧ wFd (dget fs f) h Q) := rfl
theorem fld_ob : wFld f xs ys (.ob c fs) h Q = (xs.contains c = true ∧ wFd (dget fs f) h Q) := rfl
def flO (f : Str) (xs : List Str) (o : Option DO) (h : DH) (Q : QD) : Prop := match o with
  | some (.ins c fs) => xs.contains c = true ∧ wFd (dget fs f) h Q
  | _ => False
theorem fld_ref : wFld f xs ys (.ref p) h Q = flO f xs (h p) h Q := by unfold wFld flO; rfl
theorem flO_i : flO f xs (some (.ins c fs)) h Q = (xs.contains c = true ∧ wFd (dget fs f) h Q) := rfl
theorem wFd_s : wFd (some d) h Q = Q d h := rfl
theorem dget_hd {r : List (Str × D)} : dget ((f, d) :: r) f = some d := by simp [dget]
def stI (f : Str) (xs : List Str) (o : Option DO) (p : Addr) (v : D) (h : DH) (nx : DH → Prop) : Prop := match o with
  | some (.ins c fs) => xs.contains c = true ∧ fs.length < 900 ∧ nx (up h p (.ins c (dputF f v fs)))
  | _ => False
theorem fst_ref {nx : DH → Prop} : wFst f xs (.ref p) v h nx = stI f xs (h p) p v h nx := by unfold wFst stI; rfl
theorem stI_i {nx : DH → Prop} : stI f xs (some (.ins c fs)) p v h nx = (xs.contains c = true ∧ fs.length < 900 ∧ nx (up h p (.ins c (dputF f v fs)))) := rfl
/-- the class of an instance that has no attribute of that name -/
def clI (m : Str) (c : Str) (o : Option D) : Option Str := match o with
  | none => some c
  | some _ => none
theorem cls_ob : clsD m (.ob c fs) h = clI m c (dget fs m) := by unfold clsD clI; rfl
def clO (m : Str) (o : Option DO) : Option Str := match o with
  | some (.ins c fs) => clI m c (dget fs m)
  | _ => none
theorem cls_ref : clsD m (.ref p) h = clO m (h p) := by
  unfold clsD clO clI
  cases e : h p with
  | none => simp only [e]
  | some o => cases o <;> simp only [e] <;> (try (cases dget _ m <;> rfl))
theorem clO_i : clO m (some (.ins c fs)) = clI m c (dget fs m) := rfl
theorem clI_n : clI m c none = some c := rfl
theorem wMt_s {k : Nat → Prop} : wMt (some i) k = k i := rfl
theorem wFrz_ex : wFrz (.ex c fs) h Q = Q (.ex c fs) h := rfl
theorem b_muls {z : Bool} {x : Str} {j : Int} : wBin z .Mult (.str x) (.int j) h Q = ((-(2 ^ 63) ≤ j ∧ j ≤ 16777216 ∧ x.length * j.toNat ≤ 16777216) ∧ Q (.str (Txt.mul x j)) h) := rfl
def sgA (o : Option Nat) (h : DH) (Q : QD) : Prop := match o with
  | some c => Q (.str ⟨#[c]⟩) h
  | none => False
theorem sgA_s {k : Nat} : sgA (some k) h Q = Q (.str ⟨#[k]⟩) h := rfl
theorem x_str {x : Str} {j : Int} : wIdx (.str x) (.int j) h Q = (x.length ≤ 16777216 ∧ sgA (L2.atI x.cps.toList j) h Q) := by unfold wIdx sgA; rfl
theorem fnI_s {tb : List (Str × Nat)} {x : Str} : fnI tb (some (some (.fn x))) = tb.lookup x := rfl
theorem lzp_f {z : Bool} {us vs : List D} : wLzp z (.fl us) (.fl vs) h Q = (us.length ≤ 16777216 ∧ al z (.lst (zipD us vs)) h Q) := rfl
theorem tzp_f {us vs : List D} : wTzp (.fl us) (.fl vs) h Q = (us.length ≤ 16777216 ∧ Q (.kt true (zipD us vs)) h) := rfl
theorem wFrz_fn {x : Str} : wFrz (.fn x) h Q = Q (.fn x) h := rfl
theorem dp_nil : dputF f v [] = [(f, v)] := rfl
end
def SX5 := And.intro @e_lzp <| And.intro @e_tzp <| And.intro @e_fnv <| And.intro @e_cal <| And.intro @fnI_s <| And.intro @lzp_f <| And.intro @tzp_f <| And.intro @wFrz_fn <| And.intro @e_ktup <| And.intro @e_ist <| And.intro @e_isc <| And.intro @isc_ob <| And.intro @isc_ref <| And.intro @icO_i <| And.intro @wIa_s <| And.intro @e_isx <| And.intro @e_fld <| And.intro @e_new <| And.intro @e_imt <| And.intro @s_fst <| And.intro @s_rai <| And.intro @s_try0 <| And.intro @s_try1 <| And.intro @cat_c <| And.intro @cat_i0 <| And.intro @cat_i1 <| And.intro @cat_i2 <| And.intro @isx_ex <| And.intro @isx_non <| And.intro @fld_ex <| And.intro @fld_ob <| And.intro @fld_ref <| And.intro @flO_i <| And.intro @wFd_s <|
  And.intro @dget_hd <| And.intro @fst_ref <| And.intro @stI_i <| And.intro @cls_ob <| And.intro @cls_ref <| And.intro @clO_i <| And.intro @clI_n <| And.intro @wMt_s <| And.intro @wFrz_ex <| And.intro @b_muls <| And.intro @x_str <| And.intro @sgA_s <| @dp_nil
end DL

/-! what laws draw from: a dict, a list -/
namespace DL
open PySem L2
/-- cells, at, left, turn -/
def fdK (c a l t : D) : List (Key × D) := [(.inr "cells", c), (.inr "at", a), (.inr "left", l), (.inr "turn", t)]
section
variable {c a l t v : D}
theorem fd_c : dget (fdK c a l t) (.inr "cells") = some c := rfl
theorem fd_a : dget (fdK c a l t) (.inr "at") = some a := rfl
theorem fd_l : dget (fdK c a l t) (.inr "left") = some l := rfl
theorem fd_t : dget (fdK c a l t) (.inr "turn") = some t := rfl
theorem fp_a : dput (fdK c a l t) (.inr "at") v = fdK c v l t := rfl
theorem fp_l : dput (fdK c a l t) (.inr "left") v = fdK c a v t := rfl
theorem fp_t : dput (fdK c a l t) (.inr "turn") v = fdK c a l v := rfl
theorem fd_n : (fdK c a l t).length = 4 := rfl
end
def SXF := And.intro @fd_c <| And.intro @fd_a <| And.intro @fd_l <| And.intro @fd_t <| And.intro @fp_a <| And.intro @fp_l <| And.intro @fp_t <| @fd_n
/-- at most B were drawn -/
def Fd (B : Int) (o : DO) : Prop := ∃ (c : List Int) (a l t : Int), o = .dK (fdK (.fl (c.map Dt.d)) (.int a) (.int l) (.int t)) ∧ c.length ≤ 63 ∧ 0 ≤ a ∧ a ≤ B ∧ 0 ≤ l ∧ 0 ≤ t ∧ t ≤ B
/-- the list [cells, at, left] -/
def Fl (B : Int) (o : DO) : Prop := ∃ (c : List Int) (a l : Int), o = .lst [.fl (c.map Dt.d), .int a, .int l] ∧ c.length ≤ 63 ∧ 0 ≤ a ∧ a ≤ B ∧ 0 ≤ l
theorem Fd.mono {B B' : Int} {o : DO} (h : B ≤ B') : Fd B o → Fd B' o := fun ⟨c, a, l, t, e, h1, h2, h3, h4, h5, h6⟩ => ⟨c, a, l, t, e, h1, h2, by omega, h4, h5, by omega⟩
theorem Fl.mono {B B' : Int} {o : DO} (h : B ≤ B') : Fl B o → Fl B' o := fun ⟨c, a, l, e, h1, h2, h3, h4⟩ => ⟨c, a, l, e, h1, h2, by omega, h4⟩
theorem pow3_nn {x : Int} (h : 0 ≤ x) : 0 ≤ x ^ 3 := Int.pow_nonneg h
/-- an item of a list at a place -/
theorem at_v {α : Type} {f : α → D} {xs : List α} {i : Int} {h : DH} {Q : QD} (h0 : 0 ≤ i) (hl : i < xs.length) (q : ∀ x, x ∈ xs → xs[i.toNat]? = some x → Q (f x) h) : wAt (xs.map f) (.int i) h Q := by
  refine wAt_at h0 (by simpa using hl) fun v _ e => ?_
  rw [List.getElem?_map] at e
  obtain ⟨x, e1, rfl⟩ := Option.map_eq_some_iff.mp e
  exact q x (List.mem_of_getElem? e1) e1
theorem ixN_0 {n : Nat} (h : 0 < n := by omega) : ixN n 0 = some 0 := ix_nat h
theorem ixN_1 {n : Nat} (h : 1 < n := by omega) : ixN n 1 = some 1 := ix_nat h
theorem ixN_2 {n : Nat} (h : 2 < n := by omega) : ixN n 2 = some 2 := ix_nat h
end DL

/-! what repr shows; equality of lists of the heap; dicts with int keys -/
namespace DL
open PySem L2
/-- short things -/
structure Shw (d : PyData) (w : Nat) : Prop where
  s : d.showable = true
  l : d.leavesShort 40 = true
  w : d.weight ≤ w
structure Shws (ds : List PyData) (w : Nat) : Prop where
  s : PyData.showableAll ds = true
  l : PyData.leavesShortAll 40 ds = true
  w : PyData.weightAll ds ≤ w
theorem Shw.mono {d : PyData} {w w' : Nat} (h : Shw d w) (l : w ≤ w') : Shw d w' := ⟨h.s, h.l, Nat.le_trans h.w l⟩
theorem shw_int {i : Int} (h : i.natAbs < 10 ^ 31) : Shw (.int i) 120 := by
  have h2 : i.natAbs.log2 < 110 := by
    by_cases z : i.natAbs = 0
    · rw [z]; decide
    · exact (Nat.log2_lt z).mpr (Nat.lt_of_lt_of_le h (by decide))
  refine ⟨?_, ?_, ?_⟩
  · rw [PyData.showable, decide_eq_true_eq]
    omega
  · rw [PyData.leavesShort, decide_eq_true_eq, PyData.shown]
    have := int_text_length_le10 (a := i) (k := 31) (by decide) h
    rw [ofString_length]
    omega
  · rw [PyData.weight]
    split <;> omega
theorem shw_non : Shw .none 0 := ⟨rfl, rfl, by rw [PyData.weight]; exact Nat.le_refl _⟩
theorem shw_bl {b : Bool} : Shw (.bool b) 0 := ⟨rfl, rfl, by rw [PyData.weight]; exact Nat.le_refl _⟩
theorem shw_str {x : Str} (h : ∀ c ∈ x.cps.toList, c < 16 ^ 8) : Shw (.str x) x.length := ⟨rfl, by rw [PyData.leavesShort, List.all_eq_true]; exact fun c hc => decide_eq_true (h c hc), by rw [PyData.weight]; exact Nat.le_refl _⟩
theorem shws_nil : Shws [] 0 := ⟨rfl, rfl, by rw [PyData.weightAll]; exact Nat.le_refl _⟩
theorem shws_cons {d : PyData} {ds : List PyData} {a b : Nat} (x : Shw d a) (y : Shws ds b) : Shws (d :: ds) (a + 1 + b) := ⟨by rw [PyData.showableAll, x.s, y.s]; rfl, by rw [PyData.leavesShortAll, x.l, y.l]; rfl, by rw [PyData.weightAll]; have := x.w; have := y.w; omega⟩
theorem shw_tup {ds : List PyData} {a : Nat} (x : Shws ds a) : Shw (.tuple ds) a := ⟨by rw [PyData.showable]; exact x.s, by rw [PyData.leavesShort]; exact x.l, by rw [PyData.weight]; exact x.w⟩
theorem shw_lst {ds : List PyData} {a : Nat} (x : Shws ds a) : Shw (.list ds) a := ⟨by rw [PyData.showable]; exact x.s, by rw [PyData.leavesShort]; exact x.l, by rw [PyData.weight]; exact x.w⟩
theorem repr_shw {x : D} {p : PyData} {w : Nat} {h : DH} {Q : QD} (d : DPy h x p ∨ DRp h x p) (s : Shw p w) (hw : w ≤ 300000) (dp : p.depth ≤ 60) (q : Q (.str p.shown) h) : wRepr x h Q := by
  refine ⟨p, d, s.s, dp, ?_, q⟩
  have h1 := PyData.shown_le 40 (by decide) p s.l
  have := s.w
  omega

theorem shws_map {α : Type} {f : α → PyData} {k : Nat} : ∀ {xs : List α}, (∀ x ∈ xs, Shw (f x) k) → Shws (xs.map f) (xs.length * (k + 1))
  | [], _ => by simpa using shws_nil
  | x :: xs, h => by
    have := shws_cons (h x (by simp)) (shws_map (xs := xs) fun y hy => h y (by simp [hy]))
    rw [List.map_cons, List.length_cons]
    have e : (xs.length + 1) * (k + 1) = k + 1 + xs.length * (k + 1) := by rw [Nat.add_mul, Nat.one_mul, Nat.add_comm]
    rw [e]
    exact this
theorem shw_vl {α : Type} [Dt α] {k n : Nat} {xs : List α} (h : ∀ x ∈ xs, Shw (toPy (Dt.d x)) k) (hl : xs.length ≤ n) : Shw (toPy (Dt.d xs)) (n * (k + 1)) := by
  rw [P_lst]
  exact (shw_lst (shws_map h)).mono (Nat.mul_le_mul_right _ hl)
theorem shw_vt {α : Type} [Dt α] {k n : Nat} {xs : TL α} (h : ∀ x ∈ xs.l, Shw (toPy (Dt.d x)) k) (hl : xs.l.length ≤ n) : Shw (toPy (Dt.d xs)) (n * (k + 1)) := by
  rw [P_tl]
  exact (shw_tup (shws_map h)).mono (Nat.mul_le_mul_right _ hl)
theorem shw_vi {x : Int} (h : x.natAbs < 10 ^ 31) : Shw (toPy (Dt.d x)) 120 := by rw [P_int]; exact shw_int h
theorem shw_vp {α β : Type} [Dt α] [Dt β] {x : α × β} {a b : Nat} (h1 : Shw (toPy (Dt.d x.1)) a) (h2 : Shw (toPy (Dt.d x.2)) b) : Shw (toPy (Dt.d x)) (a + b + 2) := by
  rw [P_pr]
  exact (shw_tup (shws_cons h1 (shws_cons h2 shws_nil))).mono (by omega)
theorem shw_v3 {α β γ : Type} [Dt α] [Dt β] [Dt γ] {x : Tr α β γ} {a b c : Nat} (h1 : Shw (toPy (Dt.d x.a)) a) (h2 : Shw (toPy (Dt.d x.b)) b) (h3 : Shw (toPy (Dt.d x.c)) c) : Shw (toPy (Dt.d x)) (a + b + c + 3) := by
  rw [P_tr]
  exact (shw_tup (shws_cons h1 (shws_cons h2 (shws_cons h3 shws_nil)))).mono (by omega)
/-- repr of a datum -/
theorem repr_v {α : Type} [Dt α] (x : α) {w : Nat} {h : DH} {Q : QD} (s : Shw (toPy (Dt.d x)) w) (q : Q (.str (toPy (Dt.d x)).shown) h) (hw : w ≤ 300000 := by omega) (dp : Dt.n α ≤ 60 := by decide) : wRepr (Dt.d x) h Q :=
  repr_shw (.inl (Dt.py x)) s hw (Nat.le_trans (Dt.dep x) dp) q
section
variable {α : Type} [Dt α] [Ly α]
/-- a list of the heap beside one that is no more written -/
theorem eq_rf (x y : List α) {a : Addr} {neg : Bool} {h : DH} {Q : QD} (ha : h a = some (.lst (x.map Dt.d))) (q : Q (.bl (neg ^^ decide (x = y))) h) (n : Dt.n α < 64 := by decide) (o1 : Ly.ok x := by first | exact LyT.all _ | assumption) (o2 : Ly.ok y := by first | exact LyT.all _ | assumption) : wEq neg (.ref a) (.fl (y.map Dt.d)) h Q := by
  refine wEq_of (d := toPy (Dt.d x)) (e := toPy (Dt.d y)) ?_ (Dt.py y) (shaped_v x o1 (by show Dt.n α + 1 ≤ 64; omega)) (shaped_v y o2 (by show Dt.n α + 1 ≤ 64; omega)) (by rw [Dt.eqv]; exact q)
  rw [P_lst]
  refine .lst ha ?_
  have := DPys.of (h := h) _ (pures_map Dt.pu x)
  rwa [toPys_map] at this
end
/-! ### dicts with int keys -/
section
variable {α : Type}
def aput (l : List (Int × α)) (k : Int) (v : α) : List (Int × α) := if l.any (fun r => decide (r.1 = k)) then l.map (fun r => if r.1 = k then (r.1, v) else r) else l ++ [(k, v)]
def aget (l : List (Int × α)) (k : Int) : Option α := (l.find? fun r => decide (r.1 = k)).map (·.2)
def kvI (f : α → D) (l : List (Int × α)) : List (Key × D) := l.map fun r => (.inl r.1, f r.2)
theorem inl_eq {a b : Int} : ((Sum.inl a : Key) = Sum.inl b) = (a = b) := by simp
theorem kvI_len {f : α → D} {l : List (Int × α)} : (kvI f l).length = l.length := by unfold kvI; rw [List.length_map]
theorem kvI_put {f : α → D} {l : List (Int × α)} {k : Int} {v : α} : dput (kvI f l) (.inl k) (f v) = kvI f (aput l k v) := by
  unfold dput aput kvI
  rw [List.any_map]
  have e : ((fun kv : Key × D => decide (kv.1 = Sum.inl k)) ∘ fun r : Int × α => ((Sum.inl r.1 : Key), f r.2)) = fun r => decide (r.1 = k) := by
    funext r
    simp
  rw [e]
  split
  · rw [List.map_map, List.map_map]
    refine List.map_congr_left fun r _ => ?_
    simp only [Function.comp, inl_eq]
    split <;> rfl
  · rw [List.map_append]; rfl
theorem kvI_get {f : α → D} {k : Int} : ∀ {l : List (Int × α)}, dget (kvI f l) (.inl k) = (aget l k).map f
  | [] => rfl
  | r :: l => by
    have ih := kvI_get (f := f) (k := k) (l := l)
    unfold dget aget kvI at ih ⊢
    rw [List.map_cons, List.find?_cons, List.find?_cons]
    by_cases e : r.1 = k
    · simp [e]
    · simp only [inl_eq, e, decide_false]
      exact ih
theorem kvI_keys {f : α → D} {l : List (Int × α)} : (kvI f l).map (·.1) = (l.map (·.1)).map Sum.inl := by
  unfold kvI
  rw [List.map_map, List.map_map]
  rfl
theorem aput_mem {l : List (Int × α)} {k : Int} {v : α} {r : Int × α} (h : r ∈ aput l k v) : r ∈ l ∨ r = (k, v) := by
  unfold aput at h
  split at h
  · obtain ⟨x, hx, rfl⟩ := List.mem_map.mp h
    by_cases e : x.1 = k
    · simp only [e, if_true]; exact .inr trivial
    · simp only [e, if_false]; exact .inl hx
  · rcases List.mem_append.mp h with h | h
    · exact .inl h
    · exact .inr (by simpa using h)
theorem aput_len {l : List (Int × α)} {k : Int} {v : α} : (aput l k v).length ≤ l.length + 1 := by
  unfold aput
  split
  · rw [List.length_map]; omega
  · simp
theorem aget_some {l : List (Int × α)} {k : Int} (h : k ∈ l.map (·.1)) : ∃ v, aget l k = some v ∧ (k, v) ∈ l := by
  unfold aget
  cases e : l.find? fun r => decide (r.1 = k) with
  | none =>
    obtain ⟨r, hr, rfl⟩ := List.mem_map.mp h
    have := List.find?_eq_none.mp e r hr
    simp at this
  | some r =>
    have h1 := List.find?_some e
    have h2 := List.mem_of_find?_eq_some e
    have : r.1 = k := by simpa using h1
    exact ⟨r.2, rfl, by rw [← this]; exact h2⟩
end
end DL

/-! orders that are strict, sets of data sorted, the least of data -/
namespace DL
open PySem L2

/-- an order in which only one and the same thing is alike -/
class Ov (α : Type) [Dt α] [Od α] : Prop where
  as : ∀ x y : α, Od.lt x y = false → Od.lt y x = false → x = y
  nn : ∀ x : α, toPy (Dt.d x) ≠ .none
instance : Ov Int := ⟨fun x y h1 h2 => by
  have h1 : decide (x < y) = false := h1
  have h2 : decide (y < x) = false := h2
  simp at h1 h2
  omega, fun x => by rw [P_int]; exact fun e => nomatch e⟩
section
variable {α β γ : Type} [Dt α] [Od α] [Ov α] [Dt β] [Od β] [Ov β] [Dt γ] [Od γ] [Ov γ]
instance : Ov (α × β) := ⟨fun x y h1 h2 => by
  have h1 : (if x.1 = y.1 then Od.lt x.2 y.2 else Od.lt x.1 y.1) = false := h1
  have h2 : (if y.1 = x.1 then Od.lt y.2 x.2 else Od.lt y.1 x.1) = false := h2
  by_cases e : x.1 = y.1
  · rw [if_pos e] at h1
    rw [if_pos e.symm] at h2
    exact Prod.ext e (Ov.as _ _ h1 h2)
  · rw [if_neg e] at h1
    rw [if_neg (Ne.symm e)] at h2
    exact absurd (Ov.as _ _ h1 h2) e, fun x => by rw [P_pr]; exact fun e => nomatch e⟩
instance : Ov (Tr α β γ) := ⟨fun x y h1 h2 => by
  obtain ⟨a, b, c⟩ := x
  obtain ⟨a', b', c'⟩ := y
  have h1 : (if a = a' then (if b = b' then Od.lt c c' else Od.lt b b') else Od.lt a a') = false := h1
  have h2 : (if a' = a then (if b' = b then Od.lt c' c else Od.lt b' b) else Od.lt a' a) = false := h2
  by_cases e : a = a'
  · subst e
    rw [if_pos rfl] at h1 h2
    by_cases e2 : b = b'
    · subst e2
      rw [if_pos rfl] at h1 h2
      rw [Ov.as _ _ h1 h2]
    · rw [if_neg e2] at h1
      rw [if_neg (Ne.symm e2)] at h2
      exact absurd (Ov.as _ _ h1 h2) e2
  · rw [if_neg e] at h1
    rw [if_neg (Ne.symm e)] at h2
    exact absurd (Ov.as _ _ h1 h2) e, fun x => by rw [P_tr]; exact fun e => nomatch e⟩
end
section
variable {α : Type} [Dt α] [Od α]
theorem le_tr {x y z : α} (h1 : Od.le x y = true) (h2 : Od.le y z = true) : Od.le x z = true := le_total.trans _ _ _ h1 h2
theorem le_rf (x : α) : Od.le x x = true := by
  rcases le_total.total x x with h | h <;> exact h
theorem le_or (x y : α) : Od.le x y = true ∨ Od.le y x = true := le_total.total x y
/-- each thing once -/
def dd : List α → List α
  | [] => []
  | x :: xs => if x ∈ xs then dd xs else x :: dd xs
theorem dd_mem : ∀ {xs : List α} {x : α}, x ∈ dd xs ↔ x ∈ xs
  | [], x => Iff.rfl
  | y :: xs, x => by
    unfold dd
    split
    · rename_i h
      rw [dd_mem, List.mem_cons]
      refine ⟨.inr, fun h2 => h2.elim (fun e => e ▸ h) id⟩
    · rw [List.mem_cons, List.mem_cons, dd_mem]
theorem dd_nd : ∀ xs : List α, (dd xs).Nodup
  | [] => List.nodup_nil
  | y :: xs => by
    unfold dd
    split
    · exact dd_nd xs
    · rename_i h
      exact List.nodup_cons.mpr ⟨fun h2 => h (dd_mem.mp h2), dd_nd xs⟩
theorem dd_len : ∀ xs : List α, (dd xs).length ≤ xs.length
  | [] => Nat.le_refl _
  | y :: xs => by
    unfold dd
    have := dd_len xs
    split <;> simp <;> omega
/-- each thing once, in order -/
def us (xs : List α) : List α := srt (dd xs)
theorem us_mem {xs : List α} {x : α} : x ∈ us xs ↔ x ∈ xs := by unfold us; rw [(srt_perm _).mem_iff, dd_mem]
theorem us_pw (xs : List α) : (us xs).Pairwise fun a b => Od.le a b = true := srt_pw _
theorem us_nd (xs : List α) : (us xs).Nodup := (srt_perm _).nodup_iff.mpr (dd_nd xs)
theorem us_len (xs : List α) : (us xs).length ≤ xs.length := by unfold us; rw [(srt_perm _).length_eq]; exact dd_len xs
section
variable [Ov α]
theorem le_as {x y : α} (h1 : Od.le x y = true) (h2 : Od.le y x = true) : x = y := by
  unfold Od.le at h1 h2
  exact Ov.as _ _ (by simpa using h2) (by simpa using h1)
/-- sorted lists of the same things -/
theorem sorted_uniq : ∀ {xs ys : List α}, xs.Pairwise (fun a b => Od.le a b = true) → ys.Pairwise (fun a b => Od.le a b = true) → xs.Nodup → ys.Nodup → (∀ x, x ∈ xs ↔ x ∈ ys) → xs = ys
  | [], [], _, _, _, _, _ => rfl
  | [], y :: ys, _, _, _, _, h => by have := (h y).mpr (by simp); simp at this
  | x :: xs, [], _, _, _, _, h => by have := (h x).mp (by simp); simp at this
  | x :: xs, y :: ys, p1, p2, n1, n2, h => by
    obtain ⟨a1, a2⟩ := List.pairwise_cons.mp p1
    obtain ⟨b1, b2⟩ := List.pairwise_cons.mp p2
    obtain ⟨c1, c2⟩ := List.nodup_cons.mp n1
    obtain ⟨d1, d2⟩ := List.nodup_cons.mp n2
    have e : x = y := by
      rcases List.mem_cons.mp ((h x).mp (by simp)) with e | hx
      · exact e
      · rcases List.mem_cons.mp ((h y).mpr (by simp)) with e | hy
        · exact e.symm
        · exact le_as (a1 y hy) (b1 x hx)
    subst e
    rw [sorted_uniq a2 b2 c2 d2 fun z => ?_]
    refine ⟨fun hz => ?_, fun hz => ?_⟩
    · rcases List.mem_cons.mp ((h z).mp (List.mem_cons_of_mem _ hz)) with e | hz
      · exact absurd (e ▸ hz) c1
      · exact hz
    · rcases List.mem_cons.mp ((h z).mpr (List.mem_cons_of_mem _ hz)) with e | hz
      · exact absurd (e ▸ hz) d1
      · exact hz
theorem us_uniq {xs ys : List α} (p : ys.Pairwise fun a b => Od.le a b = true) (n : ys.Nodup) (h : ∀ x, x ∈ ys ↔ x ∈ xs) : ys = us xs := sorted_uniq p (us_pw xs) n (us_nd xs) fun x => by rw [h, us_mem]
theorem us_congr {xs ys : List α} (h : ∀ x, x ∈ ys ↔ x ∈ xs) : us ys = us xs := us_uniq (us_pw ys) (us_nd ys) fun x => by rw [us_mem, h]
theorem us_id {xs : List α} (p : xs.Pairwise fun a b => Od.le a b = true) (n : xs.Nodup) : us xs = xs := (us_uniq p n fun _ => Iff.rfl).symm
end
end
/-! ### sorted(set(xs)) -/
theorem sset_n {z : Bool} {x : D} {h : DH} {Q : QD} (xs : List Int) (e : lstOf x h = some (xs.map D.int)) (q : al z (.lst ((us xs).map D.int)) h Q) (hl : xs.length < 4000 := by omega) : wSset z x h Q := by
  unfold wSset
  rw [e]
  refine .inl ⟨xs, rfl, hl, fun ys p m => ?_⟩
  have : ys = us xs := us_uniq (p.imp fun {a b} h => by show (!decide (b < a)) = true; simp; omega) (p.imp fun {a b} h => by omega) m
  rw [this]
  exact q
theorem sset_i {z : Bool} {x : D} {h : DH} {Q : QD} (xs : List Int) (e : lstOf x h = some (xs.map D.int)) (q : al z (.lst ((us xs).map D.int)) h Q) (hl : xs.length < 4000 := by omega) (h64 : ∃ ws : List Int, ws.length < 64 ∧ ∀ n ∈ xs, n ∈ ws := by exact ⟨_, by omega, fun _ h => h⟩) : wSset z x h Q := sset_n xs e q hl
/-- tuples of ints -/
class TI (α : Type) [Dt α] [Od α] where
  t : α → List Int
  d : ∀ x : α, Dt.d x = tL (t x)
  k : Nat
  k1 : 1 ≤ k
  l : ∀ x, (t x).length = k
  o : ∀ x y, lxle (t x) (t y) → Od.le x y = true
  i : ∀ x y, t x = t y → x = y
instance : TI (Int × Int) := ⟨fun x => [x.1, x.2], fun _ => rfl, 2, by decide, fun _ => rfl, fun x y h => by
  obtain ⟨a, b⟩ := x
  obtain ⟨c, d⟩ := y
  show (!(if c = a then decide (d < b) else decide (c < a))) = true
  rcases h with h | ⟨e, h⟩
  · rw [if_neg (by show ¬ c = a; have : a < c := h; omega)]
    have : a < c := h
    simp; omega
  · have e : a = c := e
    rw [if_pos e.symm]
    rcases h with h | ⟨e2, _⟩
    · have : b < d := h
      simp; omega
    · have : b = d := e2
      simp; omega, fun x y e => by
  simp only [List.cons.injEq, and_true] at e
  exact Prod.ext e.1 e.2⟩
instance : TI (Tr Int Int Int) := ⟨fun x => [x.a, x.b, x.c], fun _ => rfl, 3, by decide, fun _ => rfl, fun x y h => by
  obtain ⟨a, b, c⟩ := x
  obtain ⟨a', b', c'⟩ := y
  show (!(if a' = a then (if b' = b then decide (c' < c) else decide (b' < b)) else decide (a' < a))) = true
  rcases h with h | ⟨e, h⟩
  · have h : a < a' := h
    rw [if_neg (by omega)]
    simp; omega
  · have e : a = a' := e
    rw [if_pos e.symm]
    rcases h with h | ⟨e2, h⟩
    · have h : b < b' := h
      rw [if_neg (by omega)]
      simp; omega
    · have e2 : b = b' := e2
      rw [if_pos e2.symm]
      rcases h with h | ⟨e3, _⟩
      · have : c < c' := h
        simp; omega
      · have : c = c' := e3
        simp; omega, fun x y e => by
  obtain ⟨a, b, c⟩ := x
  obtain ⟨a', b', c'⟩ := y
  simp only [List.cons.injEq, and_true] at e
  obtain ⟨rfl, rfl, rfl⟩ := e
  rfl⟩
theorem sset_t {α : Type} [Dt α] [Od α] [Ov α] [T : TI α] {z : Bool} {x : D} {h : DH} {Q : QD} (xs : List α) (e : lstOf x h = some (xs.map Dt.d)) (nn : ∀ a ∈ xs, ∀ n ∈ T.t a, 0 ≤ n) (q : al z (.lst ((us xs).map Dt.d)) h Q) (hl : xs.length < 64 := by omega) : wSset z x h Q := by
  unfold wSset
  rw [e]
  refine .inr ⟨xs.map T.t, T.k, ?_, by rw [List.length_map]; exact hl, T.k1, fun k hk => ?_, fun ys nd pw m => ?_⟩
  · rw [List.map_map]
    exact List.map_congr_left fun a _ => T.d a
  · obtain ⟨a, ha, rfl⟩ := List.mem_map.mp hk
    exact ⟨T.l a, nn a ha⟩
  · have ex : ∀ ys : List (List Int), (∀ y ∈ ys, ∃ a ∈ xs, T.t a = y) → ∃ as : List α, as.map T.t = ys := by
      intro ys
      induction ys with
      | nil => intro _; exact ⟨[], rfl⟩
      | cons y ys ih =>
        intro hy
        obtain ⟨a, _, ha⟩ := hy y (by simp)
        obtain ⟨as, has⟩ := ih fun z hz => hy z (by simp [hz])
        exact ⟨a :: as, by rw [List.map_cons, ha, has]⟩
    obtain ⟨as, rfl⟩ := ex ys fun y hy => by
      obtain ⟨a, ha, e⟩ := List.mem_map.mp ((m y).mp hy)
      exact ⟨a, ha, e⟩
    have : as = us xs := by
      refine us_uniq ((List.pairwise_map.mp pw).imp fun {a b} h => T.o a b h) ((List.pairwise_map.mp nd).imp fun {a b} h e => h (by rw [e])) fun x => ⟨fun hx => ?_, fun hx => ?_⟩
      · obtain ⟨a, ha, e⟩ := List.mem_map.mp ((m _).mp (List.mem_map_of_mem hx))
        rw [← T.i _ _ e]
        exact ha
      · obtain ⟨a, ha, e⟩ := List.mem_map.mp ((m _).mpr (List.mem_map_of_mem (f := T.t) hx))
        rw [← T.i _ _ e]
        exact ha
    rw [this.symm] at q
    rw [List.map_map, show (tL ∘ T.t : α → D) = Dt.d from funext fun a => (T.d a).symm]
    exact q
/-! ### the least -/
section
variable {α : Type} [Dt α] [Od α] [Ov α]
def mn (x : α) (xs : List α) : α := xs.foldl (fun a y => if Od.lt y a then y else a) x
theorem mn_spec : ∀ (xs : List α) (x : α), mn x xs ∈ x :: xs ∧ ∀ y ∈ x :: xs, Od.le (mn x xs) y = true
  | [], x => ⟨by simp [mn], fun y hy => by
    have : y = x := by simpa using hy
    subst this
    exact le_rf _⟩
  | z :: xs, x => by
    have e : mn x (z :: xs) = mn (if Od.lt z x then z else x) xs := rfl
    obtain ⟨h1, h2⟩ := mn_spec xs (if Od.lt z x then z else x)
    rw [e]
    refine ⟨?_, fun y hy => ?_⟩
    · rcases List.mem_cons.mp h1 with h | h
      · rw [h]
        split <;> simp
      · simp [h]
    · have hd := h2 _ List.mem_cons_self
      rcases List.mem_cons.mp hy with rfl | hy
      · refine le_tr hd ?_
        split
        · rename_i g
          rcases le_or z y with k | k
          · exact k
          · unfold Od.le at k
            rw [g] at k
            cases k
        · exact le_rf _
      · rcases List.mem_cons.mp hy with rfl | hy
        · refine le_tr hd ?_
          split
          · exact le_rf _
          · rename_i g
            unfold Od.le
            simpa using g
        · exact h2 y (by simp [hy])
theorem mnD (x : α) (xs : List α) : PySem.W.minD (toPy (Dt.d x)) (xs.map fun a => toPy (Dt.d a)) = toPy (Dt.d (mn x xs)) := by
  unfold PySem.W.minD mn
  induction xs generalizing x with
  | nil => rfl
  | cons y xs ih =>
    rw [List.map_cons, List.foldl_cons, List.foldl_cons, Od.eq]
    split <;> exact ih _
theorem Vp_inj {x y : α} (e : toPy (Dt.d x) = toPy (Dt.d y)) : x = y := by
  have h := Dt.eqv x y
  have h2 := Dt.eqv y y
  rw [e] at h
  rw [h] at h2
  simpa using h2
/-- min(xs) of data -/
theorem min_v {z : Bool} {d : D} {h : DH} {Q : QD} (x : α) (xs : List α) (e : lstOf d h = some ((x :: xs).map Dt.d)) (q : Q (Dt.d (mn x xs)) h) (n : Dt.n α ≤ 60 := by decide) : wB z .min [d] h Q := by
  suffices h1 : ∃ p ps, DPys h ((x :: xs).map Dt.d) (p :: ps) ∧ PySem.W.AlikeAll (p :: ps) ∧ PyData.depthAll (p :: ps) ≤ 60 ∧ ∀ (d : D) (i : Nat), ((x :: xs).map Dt.d)[i]? = some d → (p :: ps)[i]? = some (PySem.W.minD p ps) → Q d h by
    cases d <;> simp only [lstOf] at e <;> first | (cases e; done) | (unfold wB; simp only [lstOf, e]; exact .inr h1)
  refine ⟨toPy (Dt.d x), xs.map fun a => toPy (Dt.d a), ?_, ⟨fun a ha b hb => ?_, fun a ha => ?_⟩, ?_, fun dd i h1 h2 => ?_⟩
  · have := DPys.of (h := h) ((x :: xs).map (Dt.d : α → D)) (pures_map Dt.pu _)
    rw [toPys_map] at this
    exact this
  · rw [← List.map_cons (f := fun a : α => toPy (Dt.d a))] at ha hb
    obtain ⟨a', _, rfl⟩ := List.mem_map.mp ha
    obtain ⟨b', _, rfl⟩ := List.mem_map.mp hb
    exact Od.al a' b'
  · rw [← List.map_cons (f := fun a : α => toPy (Dt.d a))] at ha
    obtain ⟨a', _, rfl⟩ := List.mem_map.mp ha
    exact Ov.nn a'
  · have := depth_map (fun a : α => Dt.dep a) (x :: xs)
    rw [List.map_cons] at this
    exact Nat.le_trans this n
  · rw [mnD, ← List.map_cons (f := fun a : α => toPy (Dt.d a)), List.getElem?_map] at h2
    rw [List.getElem?_map] at h1
    cases hi : (x :: xs)[i]? with
    | none => rw [hi] at h1; cases h1
    | some a =>
      rw [hi] at h1 h2
      have e1 : Dt.d a = dd := Option.some.inj h1
      have e2 := Vp_inj (Option.some.inj h2)
      rw [← e1, e2]
      exact q
/-- min(xs, default=d) of data -/
theorem mnd_v {d e : D} {h : DH} {Q : QD} (xs : List α) (ex : lstOf d h = some (xs.map Dt.d)) (q0 : xs = [] → Q e h) (q1 : ∀ x l, xs = x :: l → Q (Dt.d (mn x l)) h) (n : Dt.n α ≤ 60 := by decide) : wMnd d e h Q := by
  unfold wMnd
  simp only [ex]
  refine .inr ⟨xs.map fun a => toPy (Dt.d a), ?_, ⟨fun a ha b hb => ?_, fun a ha => ?_⟩, ?_, fun hn => q0 (List.map_eq_nil_iff.mp hn), fun p0 pt ep dd i h1 h2 => ?_⟩
  · have := DPys.of (h := h) (xs.map (Dt.d : α → D)) (pures_map Dt.pu _)
    rw [toPys_map] at this
    exact this
  · obtain ⟨a', _, rfl⟩ := List.mem_map.mp ha
    obtain ⟨b', _, rfl⟩ := List.mem_map.mp hb
    exact Od.al a' b'
  · obtain ⟨a', _, rfl⟩ := List.mem_map.mp ha
    exact Ov.nn a'
  · exact Nat.le_trans (depth_map (fun a : α => Dt.dep a) xs) n
  · cases xs with
    | nil => cases ep
    | cons x l =>
      rw [List.map_cons] at ep
      obtain ⟨e1, e2⟩ := List.cons.inj ep
      subst e1 e2
      rw [mnD, List.getElem?_map] at h2
      rw [List.getElem?_map] at h1
      cases hi : (x :: l)[i]? with
      | none => rw [hi] at h1; cases h1
      | some a =>
        rw [hi] at h1 h2
        have e1 : Dt.d a = dd := Option.some.inj h1
        have e2 := Vp_inj (Option.some.inj h2)
        rw [← e1, e2]
        exact q1 x l rfl
end
theorem rev_kt {y z : Bool} {xs : List D} {h : DH} {Q : QD} : wRev z (.kt y xs) h Q = Q (.tup xs.reverse) h := rfl
/-! ### lists handed in -/
theorem any_l {d : D} {h : DH} {xs : List D} {R : DIt → DH → Prop} (e : lstOf d h = some xs) (q : ∀ J, (∀ i, nextD J i h = some xs[i]?) → R J h) : iAny d h R := by
  unfold iAny
  cases d <;> simp only [lstOf] at e <;> first | (cases e; done) | skip
  · rename_i a
    split at e
    · rename_i ys ha
      cases e
      simp only [isSeqL, ha]
      exact q _ (next_ref ha)
    · cases e
  · cases e
    simp only [isSeqL]
    exact q _ fun _ => rfl
theorem lst_up {d : D} {h : DH} {xs : List D} {p : Addr} {o : DO} (np : h p = none) (e : lstOf d h = some xs) : lstOf d (up h p o) = some xs := by
  cases d <;> simp only [lstOf] at e ⊢ <;> first | exact e | skip
  rename_i a
  have : a ≠ p := fun h2 => by rw [h2, np] at e; cases e
  rw [up_ne this]
  exact e
/-- repr of a list that may be written -/
theorem repr_r {α : Type} [Dt α] (xs : List α) {a : Addr} {w : Nat} {h : DH} {Q : QD} (ha : h a = some (.lst (xs.map Dt.d))) (s : Shw (toPy (Dt.d xs)) w) (q : Q (.str (toPy (Dt.d xs)).shown) h) (hw : w ≤ 300000 := by omega) (dp : Dt.n (List α) ≤ 60 := by decide) : wRepr (.ref a) h Q := by
  refine repr_shw (p := toPy (Dt.d xs)) (.inl ?_) s hw (Nat.le_trans (Dt.dep xs) dp) q
  rw [P_lst]
  refine .lst ha ?_
  have := DPys.of (h := h) (xs.map (Dt.d : α → D)) (pures_map Dt.pu _)
  rw [toPys_map] at this
  exact this
/-- slices of lists of whatever -/
def cutA {α : Type} (xs : List α) (lo hi : Option Int) : List α := (xs.drop (HT.sIx xs.length 0 lo)).take (HT.sIx xs.length xs.length hi - HT.sIx xs.length 0 lo)
theorem cut_map {α : Type} {f : α → D} {xs : List α} {lo hi : Option Int} : cutD (xs.map f) lo hi = (cutA xs lo hi).map f := by
  unfold cutD cutA
  rw [List.length_map, List.map_take, List.map_drop]
theorem cut_mem {α : Type} {xs : List α} {lo hi : Option Int} {x : α} (h : x ∈ cutA xs lo hi) : x ∈ xs := List.mem_of_mem_drop (List.mem_of_mem_take h)
theorem cut_len {α : Type} {xs : List α} {lo hi : Option Int} : (cutA xs lo hi).length ≤ xs.length := by
  unfold cutA
  rw [List.length_take, List.length_drop]
  omega
theorem cut_hi {α : Type} {xs : List α} {c : Int} (h0 : 0 ≤ c) : cutA xs none (some c) = xs.take c.toNat := by
  unfold cutA
  have i1 : HT.sIx xs.length 0 none = 0 := rfl
  have i3 : HT.sIx xs.length xs.length (some c) = min c.toNat xs.length := by unfold HT.sIx; simp only; split <;> omega
  rw [i1, i3, List.drop_zero, Nat.sub_zero]
  by_cases h : c.toNat ≤ xs.length
  · rw [Nat.min_eq_left h]
  · rw [Nat.min_eq_right (by omega), List.take_length, List.take_of_length_le (by omega)]
theorem cut_lo {α : Type} {xs : List α} {c : Int} (h0 : 0 ≤ c) : cutA xs (some c) none = xs.drop c.toNat := by
  unfold cutA
  have i1 : HT.sIx xs.length 0 (some c) = min c.toNat xs.length := by unfold HT.sIx; simp only; split <;> omega
  have i3 : HT.sIx xs.length xs.length none = xs.length := rfl
  rw [i1, i3]
  by_cases h : c.toNat ≤ xs.length
  · rw [Nat.min_eq_left h, List.take_of_length_le (by rw [List.length_drop]; omega)]
  · rw [Nat.min_eq_right (by omega), List.drop_length, List.drop_of_length_le (by omega)]
    simp
theorem rev_f {z : Bool} {xs : List D} {h : DH} {Q : QD} : wRev z (.fl xs) h Q = al z (.lst xs.reverse) h Q := rfl
/-- range(lo, .., c) -/
def rgL (lo c : Int) (n : Nat) : List Int := (List.range n).map fun i => lo + (i : Nat) * c
theorem next_rgc {lo c : Int} {n : Nat} (i : Nat) (h : DH) : nextD (.rgc lo c n) i h = some (((rgL lo c n).map D.int)[i]?) := by
  unfold nextD rgL
  rw [List.map_map, List.getElem?_map]
  by_cases q : i < n
  · rw [if_pos q, List.getElem?_range q]; rfl
  · rw [if_neg q, List.getElem?_eq_none (by simpa using q)]; rfl
/-- what range(i, j, c) gives -/
theorem rgL_mem {i j c x : Int} (hc : 1 ≤ c) : x ∈ rgL i c (rgN i j c) ↔ i ≤ x ∧ x < j ∧ (x - i) % c = 0 := by
  unfold rgL rgN
  rw [List.mem_map]
  constructor
  · rintro ⟨k, hk, rfl⟩
    rw [List.mem_range] at hk
    split at hk
    · have h1 : (k : Int) ≤ (j - i - 1) / c := by omega
      have h2 : (k : Int) * c ≤ j - i - 1 := by
        have := Int.mul_le_mul_of_nonneg_right h1 (by omega : 0 ≤ c)
        have h3 := Int.ediv_mul_le (j - i - 1) (by omega : c ≠ 0)
        omega
      have h4 : 0 ≤ (k : Int) * c := Int.mul_nonneg (Int.natCast_nonneg _) (by omega)
      refine ⟨by omega, by omega, ?_⟩
      rw [show i + (k : Int) * c - i = (k : Int) * c by omega]
      exact Int.mul_emod_left _ _
    · simp at hk
  · rintro ⟨h1, h2, h3⟩
    have e := Int.mul_ediv_add_emod (x - i) c
    rw [h3, Int.add_zero] at e
    have q0 : 0 ≤ (x - i) / c := Int.ediv_nonneg (by omega) (by omega)
    refine ⟨((x - i) / c).toNat, ?_, ?_⟩
    · rw [List.mem_range, if_pos (by omega)]
      have : (x - i) / c ≤ (j - i - 1) / c := Int.ediv_le_ediv (by omega) (by omega)
      omega
    · rw [Int.toNat_of_nonneg q0, Int.mul_comm, e]
      omega
/-! ### a list that stands as a tuple known whole -/
structure PL (α : Type) where
  l : List α
  deriving DecidableEq
@[reducible] instance {α : Type} [Dt α] : Dt (PL α) := ⟨fun xs => .kt true (xs.l.map Dt.d), fun xs => by simp only [pure?]; exact pures_map Dt.pu xs.l, Dt.n α + 1, fun xs => by
    simp only [toPy, toPys_map, PyData.depth]
    have := depth_map (f := fun x : α => toPy (Dt.d x)) Dt.dep xs.l
    omega, inferInstance, fun xs ys => by
    simp only [toPy, toPys_map, PyData.eqv]
    rw [eqv_map Dt.eqv xs.l ys.l]
    cases xs; cases ys
    simp⟩
theorem V_ptl {α : Type} [Dt α] (x : PL α) : (Dt.d x : D) = .kt true (x.l.map Dt.d) := rfl
theorem P_ptl {α : Type} [Dt α] (x : PL α) : toPy (Dt.d x) = .tuple (x.l.map fun y => toPy (Dt.d y)) := by rw [V_ptl, toPy, toPys_map]
instance {α : Type} [Dt α] [Ly α] : Ly (PL α) := ⟨fun xs => ∀ x ∈ xs.l, Ly.ok x, fun xs h => by
  simp only [P_ptl, PyData.canLay0]
  exact lay_map Ly.lay xs.l h⟩
instance {α : Type} [Dt α] [Ly α] [LyT α] : LyT (PL α) := ⟨fun _ _ _ => LyT.all _⟩
theorem shw_vpt {α : Type} [Dt α] {k n : Nat} {xs : PL α} (h : ∀ x ∈ xs.l, Shw (toPy (Dt.d x)) k) (hl : xs.l.length ≤ n) : Shw (toPy (Dt.d xs)) (n * (k + 1)) := by
  rw [P_ptl]
  exact (shw_tup (shws_map h)).mono (Nat.mul_le_mul_right _ hl)
/-- dict(x) of pairs (int, datum) with keys of their own -/
theorem dict_i {α : Type} [Dt α] {z : Bool} {l : List (Int × α)} {h : DH} {Q : QD} (nd : (l.map (·.1)).Nodup) (q : al z (.dK (kvI Dt.d l)) h Q) : wPrs z (l.map Dt.d) h Q := by
  refine ⟨kvI Dt.d l, ?_, ?_, q⟩
  · unfold kvI
    rw [List.map_map]
    rfl
  · unfold kvI
    rw [List.map_map]
    show (l.map fun p => (Sum.inl p.1 : Key)).Nodup
    rw [show (fun p : Int × α => (Sum.inl p.1 : Key)) = Sum.inl ∘ (·.1) from rfl, ← List.map_map]
    exact (List.pairwise_map.mpr (nd.imp fun {a b} h e => h (Sum.inl.inj e)))
end DL

/-! orders of texts and of four; dicts with keys of some kind -/
namespace DL
open PySem L2
section
variable {α β γ δ : Type} [Dt α] [Od α] [Dt β] [Od β] [Dt γ] [Od γ] [Dt δ] [Od δ]
instance : Od (Qd α β γ δ) := ⟨fun x y => if x.a = y.a then (if x.b = y.b then (if x.c = y.c then Od.lt x.d y.d else Od.lt x.c y.c) else Od.lt x.b y.b) else Od.lt x.a y.a, fun x y => by simp only [P_qd, PySem.W.alike, PySem.W.alikeAll, Od.al, Bool.and_self], fun x y => by
  simp only [P_qd]
  rw [PySem.W.dataLt_tuple, PySem.W.dataLt_cons (Od.al _ _), PySem.W.dataLt_cons (Od.al _ _), PySem.W.dataLt_cons (Od.al _ _), PySem.W.dataLt_cons (Od.al _ _), Dt.eqv, Dt.eqv, Dt.eqv, Dt.eqv, lexK_nil, Od.eq, Od.eq, Od.eq, Od.eq]
  by_cases e : x.a = y.a
  · by_cases e2 : x.b = y.b
    · by_cases e3 : x.c = y.c
      · by_cases e4 : x.d = y.d
        · simp only [e, e2, e3, e4, decide_true, if_true]
          have := Od.eq y.d y.d
          rw [← this]
          exact (PySem.W.dataLt_self _).symm
        · simp [e, e2, e3, e4]
      · simp [e, e2, e3]
    · simp [e, e2]
  · simp [e]⟩
end
instance : Ov Str := ⟨fun x y h1 h2 => by
  have h1 : decide (x.cps.toList < y.cps.toList) = false := h1
  have h2 : decide (y.cps.toList < x.cps.toList) = false := h2
  have h1 : ¬ x.cps.toList < y.cps.toList := of_decide_eq_false h1
  have h2 : ¬ y.cps.toList < x.cps.toList := of_decide_eq_false h2
  have e : x.cps.toList = y.cps.toList := List.le_antisymm (List.not_lt.mp h2) (List.not_lt.mp h1)
  cases x with
  | mk a => cases y with
    | mk b => exact congrArg Str.mk (Array.toList_inj.mp e), fun x => by rw [P_str]; exact fun e => nomatch e⟩
section
variable {α β γ δ : Type} [Dt α] [Od α] [Ov α] [Dt β] [Od β] [Ov β] [Dt γ] [Od γ] [Ov γ] [Dt δ] [Od δ] [Ov δ]
instance : Ov (Qd α β γ δ) := ⟨fun x y h1 h2 => by
  obtain ⟨a, b, c, d⟩ := x
  obtain ⟨a', b', c', d'⟩ := y
  have h1 : (if a = a' then (if b = b' then (if c = c' then Od.lt d d' else Od.lt c c') else Od.lt b b') else Od.lt a a') = false := h1
  have h2 : (if a' = a then (if b' = b then (if c' = c then Od.lt d' d else Od.lt c' c) else Od.lt b' b) else Od.lt a' a) = false := h2
  by_cases e : a = a'
  · subst e
    rw [if_pos rfl] at h1 h2
    by_cases e2 : b = b'
    · subst e2
      rw [if_pos rfl] at h1 h2
      by_cases e3 : c = c'
      · subst e3
        rw [if_pos rfl] at h1 h2
        rw [Ov.as _ _ h1 h2]
      · rw [if_neg e3] at h1
        rw [if_neg (Ne.symm e3)] at h2
        exact absurd (Ov.as _ _ h1 h2) e3
    · rw [if_neg e2] at h1
      rw [if_neg (Ne.symm e2)] at h2
      exact absurd (Ov.as _ _ h1 h2) e2
  · rw [if_neg e] at h1
    rw [if_neg (Ne.symm e)] at h2
    exact absurd (Ov.as _ _ h1 h2) e, fun x => by rw [P_qd]; exact fun e => nomatch e⟩
end
/-! ### dicts by keys -/
section
variable {κ α : Type} [DecidableEq κ]
def xput (l : List (κ × α)) (k : κ) (v : α) : List (κ × α) := if l.any (fun r => decide (r.1 = k)) then l.map (fun r => if r.1 = k then (r.1, v) else r) else l ++ [(k, v)]
def xget (l : List (κ × α)) (k : κ) : Option α := (l.find? fun r => decide (r.1 = k)).map (·.2)
theorem xget_nil {k : κ} : xget ([] : List (κ × α)) k = none := rfl
theorem xget_cons {l : List (κ × α)} {r : κ × α} {k : κ} : xget (r :: l) k = if r.1 = k then some r.2 else xget l k := by
  unfold xget
  rw [List.find?_cons]
  by_cases e : r.1 = k
  · simp [e]
  · simp [e]
theorem xput_cons {l : List (κ × α)} {r : κ × α} {k : κ} {v : α} (n : r.1 ∉ l.map (·.1)) : xput (r :: l) k v = if r.1 = k then (r.1, v) :: l else r :: xput l k v := by
  unfold xput
  rw [List.any_cons]
  by_cases e : r.1 = k
  · subst e
    have : (l.map fun s => if s.1 = r.1 then (s.1, v) else s) = l := by
      refine (List.map_congr_left fun s hs => ?_).trans (List.map_id l)
      have : s.1 ≠ r.1 := fun z => n (z ▸ List.mem_map_of_mem hs)
      simp [this]
    simp [this]
  · simp only [e, decide_false, Bool.false_or, if_false]
    split
    · rw [List.map_cons]; simp [e]
    · rfl
theorem xput_nil {k : κ} {v : α} : xput [] k v = [(k, v)] := rfl
theorem xput_keys {l : List (κ × α)} {k j : κ} {v : α} : j ∈ (xput l k v).map (·.1) ↔ j = k ∨ j ∈ l.map (·.1) := by
  unfold xput
  split
  · rename_i g
    have e : (l.map fun r => if r.1 = k then (r.1, v) else r).map (·.1) = l.map (·.1) := by
      rw [List.map_map]
      refine List.map_congr_left fun r _ => ?_
      simp only [Function.comp]
      split <;> rfl
    rw [e]
    constructor
    · exact .inr
    · rintro (rfl | h)
      · obtain ⟨r, hr, e2⟩ := List.any_eq_true.mp g
        exact List.mem_map.mpr ⟨r, hr, of_decide_eq_true e2⟩
      · exact h
  · rw [List.map_append, List.mem_append]
    simp [or_comm]
theorem xput_nd {l : List (κ × α)} {k : κ} {v : α} (h : (l.map (·.1)).Nodup) : ((xput l k v).map (·.1)).Nodup := by
  unfold xput
  split
  · have : (l.map fun r => if r.1 = k then (r.1, v) else r).map (·.1) = l.map (·.1) := by
      rw [List.map_map]
      refine List.map_congr_left fun r _ => ?_
      simp only [Function.comp]
      split <;> rfl
    rw [this]; exact h
  · rename_i g
    rw [List.map_append, List.nodup_append]
    refine ⟨h, by simp, fun a ha b hb e => g ?_⟩
    have hb : b = k := by simpa using hb
    subst hb e
    obtain ⟨r, hr, e2⟩ := List.mem_map.mp ha
    exact List.any_eq_true.mpr ⟨r, hr, by simpa using e2⟩
theorem xput_len {l : List (κ × α)} {k : κ} {v : α} : (xput l k v).length ≤ l.length + 1 := by
  unfold xput
  split
  · rw [List.length_map]; omega
  · simp
theorem xput_mem {l : List (κ × α)} {k : κ} {v : α} {r : κ × α} (h : r ∈ xput l k v) : r ∈ l ∨ r = (k, v) := by
  unfold xput at h
  split at h
  · obtain ⟨x, hx, rfl⟩ := List.mem_map.mp h
    by_cases e : x.1 = k
    · simp only [e, if_true]; exact .inr trivial
    · simp only [e, if_false]; exact .inl hx
  · rcases List.mem_append.mp h with h | h
    · exact .inl h
    · exact .inr (by simpa using h)
theorem xget_mem {l : List (κ × α)} {k : κ} {v : α} (h : xget l k = some v) : (k, v) ∈ l := by
  unfold xget at h
  obtain ⟨r, e, rfl⟩ := Option.map_eq_some_iff.mp h
  have h1 := List.find?_some e
  have : r.1 = k := by simpa using h1
  rw [← this]
  exact List.mem_of_find?_eq_some e
theorem xget_of : ∀ {l : List (κ × α)} {k : κ} {v : α}, (l.map (·.1)).Nodup → (k, v) ∈ l → xget l k = some v
  | r :: l, k, v, n, h => by
    rw [List.map_cons, List.nodup_cons] at n
    rw [xget_cons]
    rcases List.mem_cons.mp h with rfl | h
    · simp
    · have : r.1 ≠ k := fun z => n.1 (z ▸ List.mem_map.mpr ⟨_, h, rfl⟩)
      rw [if_neg this]
      exact xget_of n.2 h
theorem xget_no {l : List (κ × α)} {k : κ} (h : k ∉ l.map (·.1)) : xget l k = none := by
  cases e : xget l k with
  | none => rfl
  | some v => exact absurd (List.mem_map.mpr ⟨_, xget_mem e, rfl⟩) h
theorem xget_put : ∀ {l : List (κ × α)} {k j : κ} {v : α}, (l.map (·.1)).Nodup → xget (xput l k v) j = if j = k then some v else xget l j
  | [], k, j, v, _ => by
    rw [xput_nil, xget_cons]
    by_cases e : j = k
    · subst e; simp
    · simp [e, Ne.symm e]
  | r :: l, k, j, v, n => by
    rw [List.map_cons, List.nodup_cons] at n
    rw [xput_cons n.1, xget_cons]
    by_cases e : r.1 = k
    · subst e
      rw [if_pos rfl, xget_cons]
      by_cases e2 : j = r.1
      · subst e2; simp
      · simp [e2, Ne.symm e2]
    · rw [if_neg e, xget_cons, xget_put n.2]
      by_cases e2 : j = k
      · subst e2; simp [e]
      · simp [e2]
/-- a weighed sum over a dict of ints -/
def wsum (c : κ → Int) (l : List (κ × Int)) : Int := (l.map fun r => c r.1 * r.2).sum
theorem wsum_cons {c : κ → Int} {l : List (κ × Int)} {r : κ × Int} : wsum c (r :: l) = c r.1 * r.2 + wsum c l := by unfold wsum; rw [List.map_cons, List.sum_cons]
theorem wsum_put {c : κ → Int} : ∀ {l : List (κ × Int)} {k : κ} {v : Int}, (l.map (·.1)).Nodup → wsum c (xput l k v) = wsum c l + c k * (v - (xget l k).getD 0)
  | [], k, v, _ => by rw [xput_nil, wsum_cons, xget_nil]; unfold wsum; simp
  | r :: l, k, v, n => by
    rw [List.map_cons, List.nodup_cons] at n
    rw [xput_cons n.1, xget_cons, wsum_cons]
    by_cases e : r.1 = k
    · subst e
      rw [if_pos rfl, if_pos rfl, wsum_cons]
      show c r.1 * v + wsum c l = c r.1 * r.2 + wsum c l + c r.1 * (v - r.2)
      rw [Int.mul_sub]; omega
    · rw [if_neg e, if_neg e, wsum_cons, wsum_put n.2]; omega
end
section
variable {κ α : Type} [DecidableEq κ]
/-- a dict by keys of a kind, as it lies in the model -/
def kvT (g : κ → List Key) (f : α → D) (l : List (κ × α)) : List (List Key × D) := l.map fun r => (g r.1, f r.2)
theorem kvT_len {g : κ → List Key} {f : α → D} {l : List (κ × α)} : (kvT g f l).length = l.length := by unfold kvT; rw [List.length_map]
theorem kvT_put {g : κ → List Key} (gi : ∀ a b, g a = g b → a = b) {f : α → D} {l : List (κ × α)} {k : κ} {v : α} : dput (kvT g f l) (g k) (f v) = kvT g f (xput l k v) := by
  unfold dput xput kvT
  rw [List.any_map]
  have gg : ∀ a b, (g a = g b) = (a = b) := fun a b => propext ⟨gi a b, fun e => by rw [e]⟩
  have e : ((fun kv : List Key × D => decide (kv.1 = g k)) ∘ fun r : κ × α => (g r.1, f r.2)) = fun r => decide (r.1 = k) := by
    funext r
    simp [gg]
  rw [e]
  split
  · rw [List.map_map, List.map_map]
    refine List.map_congr_left fun r _ => ?_
    simp only [Function.comp, gg]
    split <;> rfl
  · rw [List.map_append]; rfl
theorem kvT_get {g : κ → List Key} (gi : ∀ a b, g a = g b → a = b) {f : α → D} {k : κ} : ∀ {l : List (κ × α)}, dget (kvT g f l) (g k) = (xget l k).map f
  | [] => rfl
  | r :: l => by
    have ih := kvT_get gi (f := f) (k := k) (l := l)
    have gg : ∀ a b, (g a = g b) = (a = b) := fun a b => propext ⟨gi a b, fun e => by rw [e]⟩
    unfold dget xget kvT at ih ⊢
    rw [List.map_cons, List.find?_cons, List.find?_cons]
    by_cases e : r.1 = k
    · simp [e]
    · simp only [gg, e, decide_false]
      exact ih
/-- the keys that are walked -/
theorem kvT_walk {g : κ → List Key} {f : α → D} {l : List (κ × α)} : (kvT g f l).map (fun kv => D.tup (kv.1.map keyD)) = (l.map (·.1)).map fun k => D.tup ((g k).map keyD) := by
  unfold kvT
  rw [List.map_map, List.map_map]
  rfl
theorem toPy_key (k : Key) : toPy (keyD k) = kPy k := by cases k <;> simp [keyD, kPy, toPy]
theorem toPys_keys : ∀ ks : List Key, toPys (ks.map keyD) = ks.map kPy
  | [] => by simp [toPys]
  | k :: ks => by rw [List.map_cons, toPys, toPy_key, toPys_keys ks]; rfl
/-- sorted(d), d of keys that are tuples -/
theorem srt_kt {κ : Type} {α : Type} [DecidableEq κ] [Dt κ] [Od κ] {z : Bool} {h : DH} {Q : QD} {g : κ → List Key} {f : α → D} (l : List (κ × α)) (gd : ∀ k, D.tup ((g k).map keyD) = Dt.d k) (hs : PySem.W.Sortable ((l.map (·.1)).map fun x => toPy (Dt.d x))) (q : al z (.lst ((srt (l.map (·.1))).map Dt.d)) h Q) (hl : l.length ≤ 16777216 := by omega) : wSorted z (.dt (kvT g f l)) h Q := by
  have ek : keysT (kvT g f l) = (l.map (·.1)).map Dt.d := by
    unfold keysT
    rw [kvT_walk]
    exact List.map_congr_left fun k _ => gd k
  have e1 : (keysT (kvT g f l)).map toPy = keysP (kvT g f l) := by
    unfold keysT keysP
    rw [List.map_map]
    exact List.map_congr_left fun kv _ => by
      show toPy (D.tup (kv.1.map keyD)) = _
      rw [toPy, toPys_keys]
  have e2 : keysP (kvT g f l) = (l.map (·.1)).map fun x => toPy (Dt.d x) := by rw [← e1, ek, List.map_map]; rfl
  unfold wSorted
  show ∃ enc : D → PyData, _
  refine ⟨toPy, e1, ?_, by rw [e2]; exact hs, by rw [kvT_len]; exact hl, by rw [ek, srt_map]; exact q⟩
  rw [e2]
  intro d hd d' hd'
  obtain ⟨x, _, rfl⟩ := List.mem_map.mp hd
  obtain ⟨x', _, rfl⟩ := List.mem_map.mp hd'
  exact Od.al x x'
end
end DL

/-! texts of plain signs -/
namespace DL
open PySem L2
/-- plain signs alone -/
def asc (x : Str) : Prop := ∀ c ∈ x.cps.toList, c < 128
theorem tx_cps_app {x y : Str} : (x ++ y).cps = x.cps ++ y.cps := rfl
theorem tx_len_app {x y : Str} : (x ++ y).length = x.length + y.length := by
  show (x ++ y).cps.size = x.cps.size + y.cps.size
  rw [tx_cps_app, Array.size_append]
theorem asc_app {x y : Str} (a : asc x) (b : asc y) : asc (x ++ y) := fun c hc => by
  rw [tx_cps_app, Array.toList_append] at hc
  exact (List.mem_append.mp hc).elim (a c) (b c)
theorem asc_pick {x : Str} {l : List Nat} (a : asc x) : asc ⟨(l.filterMap (x.cps[·]?)).toArray⟩ := fun c hc => by
  have hc : c ∈ l.filterMap (x.cps[·]?) := by simpa using hc
  obtain ⟨i, _, e⟩ := List.mem_filterMap.mp hc
  refine a c ?_
  rw [← Array.getElem?_toList] at e
  exact List.mem_of_getElem? e
theorem asc_slice {x : Str} {lo hi : Option Int} (a : asc x) : asc (PySem.Txt.slice x lo hi) := by
  unfold PySem.Txt.slice
  split
  · exact a
  · exact asc_pick a
theorem asc_cut {x : Str} {lo hi : Option Int} (a : asc x) : asc (cutS x lo hi) := by
  rw [C8.cutS_slice]
  exact asc_slice a
theorem tx_len_cut {x : Str} {lo hi : Option Int} : (cutS x lo hi).length ≤ x.length := by
  rw [C8.cutS_slice]
  exact PySem.Txt.slice_le x lo hi
theorem asc_one {c : Nat} (h : c < 128) : asc ⟨#[c]⟩ := fun d hd => by
  have : d = c := by simpa using hd
  rw [this]
  exact h
theorem asc_nil : asc Str.empty := fun c hc => by simp [Str.empty] at hc
theorem asc_join {s : Str} (hs : asc s) : ∀ {xs : List Str}, (∀ x ∈ xs, asc x) → asc (Str.join s xs)
  | [], _ => asc_nil
  | [x], h => h x (by simp)
  | x :: y :: xs, h => by
    rw [Str.join]
    · exact asc_app (asc_app (h x (by simp)) hs) (asc_join hs fun z hz => h z (List.mem_cons_of_mem _ hz))
    · simp
theorem tx_len_join {s : Str} {m : Nat} (hs : s.length = 0) : ∀ {xs : List Str}, (∀ x ∈ xs, x.length ≤ m) → (Str.join s xs).length ≤ xs.length * m
  | [], _ => Nat.zero_le _
  | [x], h => by
    have := h x (by simp)
    show x.length ≤ 1 * m
    omega
  | x :: y :: xs, h => by
    rw [Str.join]
    · rw [tx_len_app, tx_len_app]
      have h1 := h x (by simp)
      have h2 := tx_len_join hs (m := m) (xs := y :: xs) fun z hz => h z (List.mem_cons_of_mem _ hz)
      rw [List.length_cons, Nat.succ_mul]
      omega
    · simp
theorem tx_len_join1 {s : Str} (hs : s.length = 0) : ∀ {xs : List Str}, (∀ x ∈ xs, x.length = 1) → (Str.join s xs).length = xs.length
  | [], _ => rfl
  | [x], h => h x (by simp)
  | x :: y :: xs, h => by
    rw [Str.join]
    · rw [tx_len_app, tx_len_app]
      have h1 := h x (by simp)
      have h2 := tx_len_join1 hs (xs := y :: xs) fun z hz => h z (List.mem_cons_of_mem _ hz)
      rw [h2, h1, hs]
      simp only [List.length_cons]
      omega
    · simp
theorem shw_asc {x : Str} {m : Nat} (a : asc x) (l : x.length ≤ m) : Shw (toPy (Dt.d x)) m := by
  rw [P_str]
  exact (shw_str fun c hc => Nat.lt_trans (a c hc) (by decide)).mono l
theorem letter (d : Int) (h0 : 0 ≤ d) (h1 : d < 26) : ∃ c : Nat, L2.atI ("abcdefghijklmnopqrstuvwxyz" : Str).cps.toList d = some c ∧ c < 128 := by
  have key : ∀ k : Fin 26, ∃ c : Nat, L2.atI ("abcdefghijklmnopqrstuvwxyz" : Str).cps.toList ((k.val : Nat) : Int) = some c ∧ c < 128 := by
    intro k
    refine ⟨97 + k.val, ?_, by omega⟩
    revert k
    decide +kernel
  have := key ⟨d.toNat, by omega⟩
  have e : ((d.toNat : Nat) : Int) = d := by omega
  simpa only [e] using this
/-- a letter by its number -/
theorem sg_let {i : Int} {h : DH} {Q : QD} (h0 : 0 ≤ i) (h1 : i < 26) (q : ∀ c, c < 128 → Q (.str ⟨#[c]⟩) h) : sgA (L2.atI ("abcdefghijklmnopqrstuvwxyz" : Str).cps.toList i) h Q := by
  obtain ⟨c, e, hc⟩ := letter i h0 h1
  rw [e, sgA_s]
  exact q c hc
theorem letter_n (d : Int) (h0 : 0 ≤ d) (h1 : d < 26) : L2.atI ("abcdefghijklmnopqrstuvwxyz" : Str).cps.toList d = some (97 + d.toNat) := by
  have key : ∀ k : Fin 26, L2.atI ("abcdefghijklmnopqrstuvwxyz" : Str).cps.toList ((k.val : Nat) : Int) = some (97 + k.val) := by decide +kernel
  have := key ⟨d.toNat, by omega⟩
  have e : ((d.toNat : Nat) : Int) = d := by omega
  simpa only [e] using this
theorem sg_let_n {i : Int} {h : DH} {Q : QD} (h0 : 0 ≤ i) (h1 : i < 26) (q : Q (.str ⟨#[97 + i.toNat]⟩) h) : sgA (L2.atI ("abcdefghijklmnopqrstuvwxyz" : Str).cps.toList i) h Q := by
  rw [letter_n i h0 h1, sgA_s]
  exact q
theorem cutS_l {z : Str} {lo hi : Option Int} : (cutS z lo hi).cps.toList = cutA z.cps.toList lo hi := by
  unfold cutS cutA
  have : z.cps.toList.length = z.length := Array.length_toList
  rw [this]
theorem ms_join {z : Bool} {s : Str} {d : D} {h : DH} {Q : QD} (xs : List Str) (e : seqOf d h = some (xs.map Dt.d)) (b : (xs.map (·.length)).sum + xs.length * s.length ≤ 16777216) (q : Q (.str (Str.join s xs)) h) : wMS z .join s [d] h Q := by
  unfold wMS
  simp only [e]
  exact ⟨xs, rfl, b, q⟩
theorem sum_len {m : Nat} : ∀ {xs : List Str}, (∀ x ∈ xs, x.length ≤ m) → (xs.map (·.length)).sum ≤ xs.length * m
  | [], _ => Nat.zero_le _
  | x :: xs, h => by
    have h1 := h x (by simp)
    have h2 := sum_len (m := m) (xs := xs) fun y hy => h y (List.mem_cons_of_mem _ hy)
    rw [List.map_cons, List.sum_cons, List.length_cons, Nat.succ_mul]
    omega
end DL

/-! lots, plainly -/
namespace DL
open PySem L2
abbrev IP := Int × Int
theorem snoc {α : Type} {l : List α} (h : l ≠ []) : ∃ r x, l = r ++ [x] := ⟨l.dropLast, l.getLast h, (List.dropLast_concat_getLast h).symm⟩
/-- rising, none empty, apart -/
structure Lot (l : List IP) : Prop where
  pos : ∀ x ∈ l, x.1 < x.2
  ris : l.Pairwise fun x y => x.2 < y.1
theorem Lot.nil : Lot [] := ⟨by simp, List.Pairwise.nil⟩
theorem Lot.tail {x : IP} {l : List IP} (h : Lot (x :: l)) : Lot l := ⟨fun y hy => h.pos y (List.mem_cons_of_mem _ hy), (List.pairwise_cons.mp h.ris).2⟩
theorem Lot.right {a b : List IP} (h : Lot (a ++ b)) : Lot b := ⟨fun y hy => h.pos y (List.mem_append_right _ hy), (List.pairwise_append.mp h.ris).2.1⟩
theorem Lot.left {a b : List IP} (h : Lot (a ++ b)) : Lot a := ⟨fun y hy => h.pos y (List.mem_append_left _ hy), (List.pairwise_append.mp h.ris).1⟩
def inn (A : List IP) (m : Int) : Prop := ∃ x ∈ A, x.1 ≤ m ∧ m < x.2
theorem inn_cons {x : IP} {r : List IP} {m : Int} : inn (x :: r) m ↔ (x.1 ≤ m ∧ m < x.2) ∨ inn r m := by
  unfold inn
  constructor
  · rintro ⟨y, hy, h⟩
    rcases List.mem_cons.mp hy with rfl | hy
    · exact .inl h
    · exact .inr ⟨y, hy, h⟩
  · rintro (h | ⟨y, hy, h⟩)
    · exact ⟨x, by simp, h⟩
    · exact ⟨y, List.mem_cons_of_mem _ hy, h⟩
theorem inn_gt {x : IP} {r : List IP} {m : Int} (hl : Lot (x :: r)) (h : inn r m) : x.2 < m := by
  obtain ⟨y, hy, h1, h2⟩ := h
  have := (List.pairwise_cons.mp hl.ris).1 y hy
  omega
theorem inn_nil {m : Int} : ¬ inn [] m := fun ⟨_, h, _⟩ => by cases h
theorem inn_app {A B : List IP} {m : Int} : inn (A ++ B) m ↔ inn A m ∨ inn B m := by
  unfold inn
  constructor
  · rintro ⟨y, hy, z⟩
    rcases List.mem_append.mp hy with hy | hy
    · exact .inl ⟨y, hy, z⟩
    · exact .inr ⟨y, hy, z⟩
  · rintro (⟨y, hy, z⟩ | ⟨y, hy, z⟩)
    · exact ⟨y, List.mem_append_left _ hy, z⟩
    · exact ⟨y, List.mem_append_right _ hy, z⟩
theorem inn_one {x : IP} {m : Int} : inn [x] m ↔ x.1 ≤ m ∧ m < x.2 := by
  rw [inn_cons]
  exact ⟨fun h => h.elim id fun z => absurd z inn_nil, .inl⟩
theorem lot_gt {x : IP} {r : List IP} {m : Int} (h : Lot (x :: r)) (i : inn r m) : x.2 < m := inn_gt h i
theorem lot_uniq : ∀ {A B : List IP}, Lot A → Lot B → (∀ m, inn A m ↔ inn B m) → A = B
  | [], [], _, _, _ => rfl
  | [], y :: B, _, hB, h => by
    have := hB.pos y (by simp)
    exact absurd ((h y.1).mpr ⟨y, by simp, by omega, this⟩) inn_nil
  | x :: A, [], hA, _, h => by
    have := hA.pos x (by simp)
    exact absurd ((h x.1).mp ⟨x, by simp, by omega, this⟩) inn_nil
  | x :: A, y :: B, hA, hB, h => by
    have px := hA.pos x (by simp)
    have py := hB.pos y (by simp)
    have e1 : x.1 = y.1 := by
      have a : y.1 ≤ x.1 := by
        rcases inn_cons.mp ((h x.1).mp (inn_cons.mpr (.inl ⟨by omega, px⟩))) with z | z
        · exact z.1
        · have := lot_gt hB z; omega
      have b : x.1 ≤ y.1 := by
        rcases inn_cons.mp ((h y.1).mpr (inn_cons.mpr (.inl ⟨by omega, py⟩))) with z | z
        · exact z.1
        · have := lot_gt hA z; omega
      omega
    have e2 : x.2 = y.2 := by
      have a : ¬ x.2 < y.2 := fun z => by
        rcases inn_cons.mp ((h x.2).mpr (inn_cons.mpr (.inl ⟨by omega, z⟩))) with w | w
        · omega
        · have := lot_gt hA w; omega
      have b : ¬ y.2 < x.2 := fun z => by
        rcases inn_cons.mp ((h y.2).mp (inn_cons.mpr (.inl ⟨by omega, z⟩))) with w | w
        · omega
        · have := lot_gt hB w; omega
      omega
    have e : x = y := Prod.ext e1 e2
    subst e
    rw [lot_uniq hA.tail hB.tail fun m => ?_]
    constructor
    · intro i
      rcases inn_cons.mp ((h m).mp (inn_cons.mpr (.inr i))) with z | z
      · have := lot_gt hA i; omega
      · exact z
    · intro i
      rcases inn_cons.mp ((h m).mpr (inn_cons.mpr (.inr i))) with z | z
      · have := lot_gt hB i; omega
      · exact z
def le2 (a b : IP) : Prop := a.1 < b.1 ∨ (a.1 = b.1 ∧ a.2 ≤ b.2)
theorem le2_iff {a b : IP} : Od.le a b = true ↔ le2 a b := by
  show (!(if b.1 = a.1 then decide (b.2 < a.2) else decide (b.1 < a.1))) = true ↔ _
  unfold le2
  by_cases e : b.1 = a.1
  · rw [if_pos e]
    simp
    omega
  · rw [if_neg e]
    simp
    omega
def mrg (acc : List IP) (s : IP) : List IP := match acc.getLast? with
  | some l => if s.1 ≤ l.2 then acc.dropLast ++ [(l.1, max l.2 s.2)] else acc ++ [s]
  | none => acc ++ [s]
theorem mrg_nil {s : IP} : mrg [] s = [s] := rfl
theorem mrg_join {r : List IP} {l s : IP} (h : s.1 ≤ l.2) : mrg (r ++ [l]) s = r ++ [(l.1, max l.2 s.2)] := by
  unfold mrg
  rw [List.getLast?_concat]
  simp only [if_pos h, List.dropLast_concat]
theorem mrg_add {r : List IP} {l s : IP} (h : ¬ s.1 ≤ l.2) : mrg (r ++ [l]) s = r ++ [l] ++ [s] := by
  unfold mrg
  rw [List.getLast?_concat]
  simp only [if_neg h]
theorem mrg_len {acc : List IP} {s : IP} : (mrg acc s).length ≤ acc.length + 1 := by
  by_cases h : acc = []
  · subst h; simp [mrg]
  · obtain ⟨r, l, rfl⟩ := snoc h
    by_cases z : s.1 ≤ l.2
    · rw [mrg_join z]; simp
    · rw [mrg_add z]; simp
theorem fold_len {qs : List IP} : (qs.foldl mrg []).length ≤ qs.length := by
  have : ∀ (qs acc : List IP), (qs.foldl mrg acc).length ≤ acc.length + qs.length := by
    intro qs
    induction qs with
    | nil => intro acc; simp
    | cons q qs ih =>
      intro acc
      have h1 := ih (mrg acc q)
      have h2 := @mrg_len acc q
      rw [List.foldl_cons, List.length_cons]
      omega
  have := this qs []
  simpa using this
theorem mrg_lot {acc : List IP} {s : IP} (hl : Lot acc) (hs : s.1 < s.2) (hm : ∀ x ∈ acc, x.1 ≤ s.1) : Lot (mrg acc s) ∧ (∀ m, inn (mrg acc s) m ↔ inn acc m ∨ (s.1 ≤ m ∧ m < s.2)) ∧ ∀ t : IP, s.1 ≤ t.1 → ∀ x ∈ mrg acc s, x.1 ≤ t.1 := by
  by_cases h : acc = []
  · subst h
    rw [mrg_nil]
    refine ⟨⟨fun x hx => by rw [List.mem_singleton.mp hx]; exact hs, List.pairwise_singleton _ _⟩, fun m => ?_, fun t ht x hx => by rw [List.mem_singleton.mp hx]; exact ht⟩
    rw [inn_cons]
    constructor
    · rintro (z | ⟨y, hy, _⟩)
      · exact .inr z
      · cases hy
    · rintro (⟨y, hy, _⟩ | z)
      · cases hy
      · exact .inl z
  · obtain ⟨r, l, rfl⟩ := snoc h
    have hlm := hm l (by simp)
    have pl := hl.pos l (by simp)
    have app : ∀ (u : List IP) (m : Int), inn (r ++ u) m ↔ inn r m ∨ inn u m := fun u m => by
      unfold inn
      constructor
      · rintro ⟨y, hy, z⟩
        rcases List.mem_append.mp hy with hy | hy
        · exact .inl ⟨y, hy, z⟩
        · exact .inr ⟨y, hy, z⟩
      · rintro (⟨y, hy, z⟩ | ⟨y, hy, z⟩)
        · exact ⟨y, List.mem_append_left _ hy, z⟩
        · exact ⟨y, List.mem_append_right _ hy, z⟩
    have one : ∀ (u : IP) (m : Int), inn [u] m ↔ u.1 ≤ m ∧ m < u.2 := fun u m => by
      rw [inn_cons]
      constructor
      · rintro (z | ⟨y, hy, _⟩)
        · exact z
        · cases hy
      · exact .inl
    by_cases z : s.1 ≤ l.2
    · rw [mrg_join z]
      have pw := List.pairwise_append.mp hl.ris
      refine ⟨⟨fun x hx => ?_, List.pairwise_append.mpr ⟨pw.1, List.pairwise_singleton _ _, fun x hx y hy => ?_⟩⟩, fun m => ?_, fun t ht x hx => ?_⟩
      · rcases List.mem_append.mp hx with hx | hx
        · exact hl.pos x (List.mem_append_left _ hx)
        · rw [List.mem_singleton.mp hx]
          show l.1 < max l.2 s.2
          omega
      · rw [List.mem_singleton.mp hy]
        exact pw.2.2 x hx l (by simp)
      · rw [app, app, one, one]
        show (inn r m ∨ l.1 ≤ m ∧ m < max l.2 s.2) ↔ ((inn r m ∨ l.1 ≤ m ∧ m < l.2) ∨ s.1 ≤ m ∧ m < s.2)
        constructor
        · rintro (q | q)
          · exact .inl (.inl q)
          · by_cases w : m < l.2
            · exact .inl (.inr ⟨q.1, w⟩)
            · exact .inr (by omega)
        · rintro ((q | q) | q)
          · exact .inl q
          · exact .inr (by omega)
          · exact .inr (by omega)
      · rcases List.mem_append.mp hx with hx | hx
        · have := hm x (List.mem_append_left _ hx)
          omega
        · rw [List.mem_singleton.mp hx]
          show l.1 ≤ t.1
          omega
    · rw [mrg_add z]
      refine ⟨⟨fun x hx => ?_, List.pairwise_append.mpr ⟨hl.ris, List.pairwise_singleton _ _, fun x hx y hy => ?_⟩⟩, fun m => ?_, fun t ht x hx => ?_⟩
      · rcases List.mem_append.mp hx with hx | hx
        · exact hl.pos x hx
        · rw [List.mem_singleton.mp hx]
          exact hs
      · rw [List.mem_singleton.mp hy]
        rcases List.mem_append.mp hx with hx | hx
        · have := (List.pairwise_append.mp hl.ris).2.2 x hx l (by simp)
          omega
        · rw [List.mem_singleton.mp hx]
          omega
      · have app2 : inn (r ++ [l] ++ [s]) m ↔ inn (r ++ [l]) m ∨ inn [s] m := by
          unfold inn
          constructor
          · rintro ⟨y, hy, z⟩
            rcases List.mem_append.mp hy with hy | hy
            · exact .inl ⟨y, hy, z⟩
            · exact .inr ⟨y, hy, z⟩
          · rintro (⟨y, hy, z⟩ | ⟨y, hy, z⟩)
            · exact ⟨y, List.mem_append_left _ hy, z⟩
            · exact ⟨y, List.mem_append_right _ hy, z⟩
        rw [app2, one]
      · rcases List.mem_append.mp hx with hx | hx
        · have := hm x hx
          omega
        · rw [List.mem_singleton.mp hx]
          exact ht
theorem fold_lot : ∀ {qs acc : List IP}, Lot acc → (∀ x ∈ qs, x.1 < x.2) → qs.Pairwise le2 → (∀ x ∈ acc, ∀ q ∈ qs, x.1 ≤ q.1) → Lot (qs.foldl mrg acc) ∧ ∀ m, inn (qs.foldl mrg acc) m ↔ inn acc m ∨ inn qs m
  | [], acc, hl, _, _, _ => ⟨hl, fun m => ⟨.inl, fun z => z.elim id fun ⟨y, hy, _⟩ => by cases hy⟩⟩
  | s :: qs, acc, hl, hp, hs, hm => by
    obtain ⟨a, b, c⟩ := mrg_lot hl (hp s (by simp)) fun x hx => hm x hx s (by simp)
    have hs' := List.pairwise_cons.mp hs
    obtain ⟨d, e⟩ := fold_lot (qs := qs) a (fun x hx => hp x (List.mem_cons_of_mem _ hx)) hs'.2 fun x hx q hq => by
      refine c q ?_ x hx
      have := hs'.1 q hq
      unfold le2 at this
      omega
    rw [List.foldl_cons]
    refine ⟨d, fun m => ?_⟩
    rw [e m, b m, inn_cons]
    constructor
    · rintro ((z | z) | z)
      · exact .inl z
      · exact .inr (.inl z)
      · exact .inr (.inr z)
    · rintro (z | z | z)
      · exact .inl (.inl z)
      · exact .inl (.inr z)
      · exact .inr z
theorem fold_self : ∀ {qs acc : List IP}, Lot (acc ++ qs) → qs.foldl mrg acc = acc ++ qs
  | [], acc, _ => by simp
  | s :: qs, acc, hl => by
    have e : mrg acc s = acc ++ [s] := by
      by_cases h : acc = []
      · subst h; rfl
      · obtain ⟨r, l, rfl⟩ := snoc h
        refine mrg_add ?_
        have := (List.pairwise_append.mp hl.ris).2.2 l (by simp) s (by simp)
        omega
    rw [List.foldl_cons, e, fold_self (by rw [List.append_assoc]; exact hl), List.append_assoc]
    rfl

/-- the lot of some stretches -/
def lotOf (S : List IP) : List IP := (srt S).foldl mrg []
theorem lotOf_lot {S : List IP} (h : ∀ x ∈ S, x.1 < x.2) : Lot (lotOf S) ∧ ∀ m, inn (lotOf S) m ↔ inn S m := by
  have pm := srt_perm S
  obtain ⟨a, b⟩ := fold_lot (qs := srt S) Lot.nil (fun x hx => h x (pm.mem_iff.mp hx)) ((srt_pw S).imp fun {a b} h => le2_iff.mp h) (by simp)
  refine ⟨a, fun m => ?_⟩
  rw [show lotOf S = (srt S).foldl mrg [] from rfl, b m]
  unfold inn
  constructor
  · rintro (⟨x, hx, _⟩ | ⟨x, hx, h⟩)
    · cases hx
    · exact ⟨x, pm.mem_iff.mp hx, h⟩
  · rintro ⟨x, hx, h⟩
    exact .inr ⟨x, pm.mem_iff.mpr hx, h⟩
theorem lotOf_len {S : List IP} : (lotOf S).length ≤ S.length := by
  unfold lotOf
  have := fold_len (qs := srt S)
  rwa [(srt_perm S).length_eq] at this
theorem lot_srt {l : List IP} (h : Lot l) : srt l = l := by
  refine srt_id (List.Pairwise.imp_of_mem (fun {a b} ha hb hab => ?_) h.ris)
  rw [le2_iff]
  have := h.pos a ha
  exact .inl (by omega)
theorem lotOf_self {l : List IP} (h : Lot l) : lotOf l = l := by
  unfold lotOf
  rw [lot_srt h]
  exact fold_self (acc := []) h
/-- whatever the order -/
theorem lotOf_uniq {S A : List IP} (h : ∀ x ∈ S, x.1 < x.2) (hA : Lot A) (e : ∀ m, inn A m ↔ inn S m) : lotOf S = A := lot_uniq (lotOf_lot h).1 hA fun m => by rw [(lotOf_lot h).2, e]
/-! ### what two lots share -/
def cmn (x y : IP) : Option IP := if max x.1 y.1 < min x.2 y.2 then some (max x.1 y.1, min x.2 y.2) else none
theorem cmn_some {x y z : IP} : cmn x y = some z ↔ z = (max x.1 y.1, min x.2 y.2) ∧ max x.1 y.1 < min x.2 y.2 := by
  unfold cmn
  split
  · rename_i h
    constructor
    · intro e; cases e; exact ⟨rfl, h⟩
    · rintro ⟨rfl, _⟩; rfl
  · rename_i h
    constructor
    · intro e; cases e
    · rintro ⟨_, k⟩; exact absurd k h
def bothL (A B : List IP) : List IP := A.flatMap fun x => B.filterMap (cmn x)
theorem both_mem {A B : List IP} {z : IP} : z ∈ bothL A B ↔ ∃ x ∈ A, ∃ y ∈ B, z = (max x.1 y.1, min x.2 y.2) ∧ max x.1 y.1 < min x.2 y.2 := by
  unfold bothL
  simp only [List.mem_flatMap, List.mem_filterMap, cmn_some]
theorem both_inn {A B : List IP} {m : Int} : inn (bothL A B) m ↔ inn A m ∧ inn B m := by
  unfold inn
  constructor
  · rintro ⟨z, hz, h1, h2⟩
    obtain ⟨x, hx, y, hy, rfl, h⟩ := both_mem.mp hz
    dsimp only at h1 h2
    exact ⟨⟨x, hx, by omega, by omega⟩, ⟨y, hy, by omega, by omega⟩⟩
  · rintro ⟨⟨x, hx, h1, h2⟩, ⟨y, hy, h3, h4⟩⟩
    exact ⟨_, both_mem.mpr ⟨x, hx, y, hy, rfl, by omega⟩, by dsimp only; omega, by dsimp only; omega⟩
theorem both_lot {A B : List IP} (hA : Lot A) (hB : Lot B) : Lot (bothL A B) := by
  refine ⟨fun z hz => ?_, ?_⟩
  · obtain ⟨x, hx, y, hy, rfl, h⟩ := both_mem.mp hz
    exact h
  · unfold bothL
    refine List.pairwise_flatMap.mpr ⟨fun x hx => ?_, ?_⟩
    · rw [List.pairwise_filterMap]
      refine hB.ris.imp fun {y y'} h z hz z' hz' => ?_
      obtain ⟨rfl, _⟩ := cmn_some.mp hz
      obtain ⟨rfl, _⟩ := cmn_some.mp hz'
      dsimp only
      omega
    · refine hA.ris.imp fun {x x'} h z hz z' hz' => ?_
      obtain ⟨y, _, e⟩ := List.mem_filterMap.mp hz
      obtain ⟨y', _, e'⟩ := List.mem_filterMap.mp hz'
      obtain ⟨rfl, _⟩ := cmn_some.mp e
      obtain ⟨rfl, _⟩ := cmn_some.mp e'
      dsimp only
      omega
theorem both_len {A B : List IP} : (bothL A B).length ≤ A.length * B.length := by
  unfold bothL
  induction A with
  | nil => simp
  | cons x A ih =>
    rw [List.flatMap_cons, List.length_append, List.length_cons, Nat.add_mul, Nat.one_mul]
    have := List.length_filterMap_le (cmn x) B
    omega
/-! ### what lies around a lot -/
def aroundL : List IP → Int → Int → List IP
  | [], here, behind => if here < behind then [(here, behind)] else []
  | x :: l, here, behind => (if here < x.1 then [(here, min x.1 behind)] else []) ++ (if behind ≤ max here x.2 then [] else aroundL l (max here x.2) behind)
theorem around_ge : ∀ {l : List IP} {here behind : Int} {z : IP}, z ∈ aroundL l here behind → here ≤ z.1
  | [], here, behind, z, h => by
    unfold aroundL at h
    split at h
    · have : z = (here, behind) := by simpa using h
      rw [this]; exact Int.le_refl _
    · cases h
  | x :: l, here, behind, z, h => by
    unfold aroundL at h
    rcases List.mem_append.mp h with h | h
    · split at h
      · have : z = (here, min x.1 behind) := by simpa using h
        rw [this]; exact Int.le_refl _
      · cases h
    · split at h
      · cases h
      · have := around_ge h
        omega
theorem around_lot : ∀ {l : List IP} {here behind : Int}, Lot l → here < behind → Lot (aroundL l here behind)
  | [], here, behind, _, h => by
    unfold aroundL
    rw [if_pos h]
    exact ⟨fun x hx => by have : x = (here, behind) := by simpa using hx
                          rw [this]; exact h, List.pairwise_singleton _ _⟩
  | x :: l, here, behind, hl, h => by
    have hp := hl.pos x (by simp)
    unfold aroundL
    have tl : Lot (if behind ≤ max here x.2 then [] else aroundL l (max here x.2) behind) := by
      split
      · exact Lot.nil
      · exact around_lot hl.tail (by omega)
    have ge : ∀ z ∈ (if behind ≤ max here x.2 then [] else aroundL l (max here x.2) behind), x.2 ≤ z.1 := fun z hz => by
      split at hz
      · cases hz
      · have := around_ge hz
        omega
    split
    · rename_i g
      refine ⟨fun z hz => ?_, List.pairwise_append.mpr ⟨List.pairwise_singleton _ _, tl.ris, fun z hz w hw => ?_⟩⟩
      · rcases List.mem_append.mp hz with hz | hz
        · have : z = (here, min x.1 behind) := by simpa using hz
          rw [this]
          dsimp only
          omega
        · exact tl.pos z hz
      · have : z = (here, min x.1 behind) := by simpa using hz
        rw [this]
        have := ge w hw
        dsimp only
        omega
    · exact tl
theorem around_inn : ∀ {l : List IP} {here behind m : Int}, Lot l → here < behind → (inn (aroundL l here behind) m ↔ here ≤ m ∧ m < behind ∧ ¬ inn l m)
  | [], here, behind, m, _, h => by
    unfold aroundL
    rw [if_pos h, inn_one]
    exact ⟨fun k => ⟨k.1, k.2, inn_nil⟩, fun k => ⟨k.1, k.2.1⟩⟩
  | x :: l, here, behind, m, hl, h => by
    have hp := hl.pos x (by simp)
    unfold aroundL
    rw [inn_app, inn_cons]
    have tl : inn (if behind ≤ max here x.2 then [] else aroundL l (max here x.2) behind) m ↔ max here x.2 ≤ m ∧ m < behind ∧ ¬ inn l m := by
      split
      · rename_i g
        exact ⟨fun k => absurd k inn_nil, fun k => by omega⟩
      · exact around_inn hl.tail (by omega)
    rw [tl]
    have gt : inn l m → x.2 < m := lot_gt hl
    by_cases g : here < x.1
    · rw [if_pos g, inn_one]
      dsimp only
      constructor
      · rintro (k | ⟨k1, k2, k3⟩)
        · refine ⟨k.1, by omega, fun z => ?_⟩
          rcases z with z | z
          · omega
          · have := gt z; omega
        · refine ⟨by omega, k2, fun z => ?_⟩
          rcases z with z | z
          · omega
          · exact k3 z
      · rintro ⟨k1, k2, k3⟩
        by_cases c : m < x.1
        · exact .inl ⟨k1, by omega⟩
        · refine .inr ⟨?_, k2, fun z => k3 (.inr z)⟩
          have : ¬ m < x.2 := fun z => k3 (.inl ⟨by omega, z⟩)
          omega
    · rw [if_neg g]
      constructor
      · rintro (k | ⟨k1, k2, k3⟩)
        · exact absurd k inn_nil
        · refine ⟨by omega, k2, fun z => ?_⟩
          rcases z with z | z
          · omega
          · exact k3 z
      · rintro ⟨k1, k2, k3⟩
        refine .inr ⟨?_, k2, fun z => k3 (.inr z)⟩
        have : ¬ m < x.2 := fun z => k3 (.inl ⟨by omega, z⟩)
        omega
theorem around_len : ∀ {l : List IP} {here behind : Int}, (aroundL l here behind).length ≤ l.length + 1
  | [], here, behind => by unfold aroundL; split <;> simp
  | x :: l, here, behind => by
    have := around_len (l := l) (here := max here x.2) (behind := behind)
    unfold aroundL
    rw [List.length_append, List.length_cons]
    split <;> split <;> simp <;> omega
def fstOf (A : List IP) : Int := match A.head? with
  | some x => x.1
  | none => 0
def lstOfL (A : List IP) : Int := match A.getLast? with
  | some x => x.2
  | none => 0
def withoutL (A B : List IP) : List IP := if A = [] then [] else bothL A (aroundL B (fstOf A) (lstOfL A))
theorem lot_bd {A : List IP} (h : Lot A) {x : IP} (hx : x ∈ A) : fstOf A ≤ x.1 ∧ x.2 ≤ lstOfL A := by
  constructor
  · unfold fstOf
    cases A with
    | nil => cases hx
    | cons y A =>
      show y.1 ≤ x.1
      rcases List.mem_cons.mp hx with e | hx
      · rw [e]; exact Int.le_refl _
      · have := (List.pairwise_cons.mp h.ris).1 x hx
        have := h.pos y (by simp)
        omega
  · unfold lstOfL
    rcases List.eq_nil_or_concat A with e | ⟨r, y, e⟩
    · rw [e] at hx; cases hx
    · rw [List.concat_eq_append] at e
      subst e
      rw [List.getLast?_concat]
      show x.2 ≤ y.2
      rcases List.mem_append.mp hx with hx | hx
      · have := (List.pairwise_append.mp h.ris).2.2 x hx y (by simp)
        have := h.pos y (by simp)
        omega
      · have : x = y := by simpa using hx
        rw [this]; exact Int.le_refl _
theorem lot_bd2 {A : List IP} (h : Lot A) (ne : A ≠ []) : fstOf A < lstOfL A := by
  obtain ⟨x, l, e⟩ := List.exists_cons_of_ne_nil ne
  have h1 := lot_bd h (x := x) (by rw [e]; simp)
  have := h.pos x (by rw [e]; simp)
  omega
theorem without_lot {A B : List IP} (hA : Lot A) (hB : Lot B) : Lot (withoutL A B) := by
  unfold withoutL
  split
  · exact Lot.nil
  · rename_i ne
    exact both_lot hA (around_lot hB (lot_bd2 hA ne))
theorem without_inn {A B : List IP} {m : Int} (hA : Lot A) (hB : Lot B) : inn (withoutL A B) m ↔ inn A m ∧ ¬ inn B m := by
  unfold withoutL
  split
  · rename_i e
    rw [e]
    exact ⟨fun k => absurd k inn_nil, fun k => absurd k.1 inn_nil⟩
  · rename_i ne
    rw [both_inn, around_inn hB (lot_bd2 hA ne)]
    constructor
    · rintro ⟨h1, _, _, h2⟩; exact ⟨h1, h2⟩
    · rintro ⟨h1, h2⟩
      obtain ⟨x, hx, h3, h4⟩ := h1
      have := lot_bd hA hx
      exact ⟨⟨x, hx, h3, h4⟩, by omega, by omega, h2⟩
def withinL (A : List IP) (f b : Int) : List IP := if b ≤ f then [] else bothL A [(f, b)]
theorem within_lot {A : List IP} {f b : Int} (hA : Lot A) : Lot (withinL A f b) := by
  unfold withinL
  split
  · exact Lot.nil
  · exact both_lot hA ⟨fun x hx => by have : x = (f, b) := by simpa using hx
                                      rw [this]; show f < b; omega, List.pairwise_singleton _ _⟩
theorem within_inn {A : List IP} {f b m : Int} : inn (withinL A f b) m ↔ inn A m ∧ f ≤ m ∧ m < b := by
  unfold withinL
  split
  · exact ⟨fun k => absurd k inn_nil, fun k => by omega⟩
  · rw [both_inn, inn_one]
def minsOf (A : List IP) : Int := (A.map fun x => x.2 - x.1).sum
/-! ### rising stretches put together -/
/-- rising, none empty, nothing shared -/
structure Ris (l : List IP) : Prop where
  pos : ∀ x ∈ l, x.1 < x.2
  ris : l.Pairwise fun x y => x.2 ≤ y.1
def jn (acc : List IP) (s : IP) : List IP := match acc.getLast? with
  | some l => if l.2 = s.1 then acc.dropLast ++ [(l.1, s.2)] else acc ++ [s]
  | none => acc ++ [s]
theorem jn_nil {s : IP} : jn [] s = [s] := rfl
theorem jn_join {r : List IP} {l s : IP} (h : l.2 = s.1) : jn (r ++ [l]) s = r ++ [(l.1, s.2)] := by
  unfold jn
  rw [List.getLast?_concat]
  simp only [if_pos h, List.dropLast_concat]
theorem jn_add {r : List IP} {l s : IP} (h : ¬ l.2 = s.1) : jn (r ++ [l]) s = r ++ [l] ++ [s] := by
  unfold jn
  rw [List.getLast?_concat]
  simp only [if_neg h]
theorem jn_mrg {acc : List IP} {s : IP} (hs : s.1 < s.2) (h : ∀ l, acc.getLast? = some l → l.2 ≤ s.1) : jn acc s = mrg acc s := by
  by_cases e : acc = []
  · rw [e]; rfl
  · obtain ⟨r, l, rfl⟩ := snoc e
    have := h l List.getLast?_concat
    by_cases c : l.2 = s.1
    · rw [jn_join c, mrg_join (by omega), show max l.2 s.2 = s.2 by omega]
    · rw [jn_add c, mrg_add (by omega)]
def joinL (S : List IP) : List IP := S.foldl jn []
theorem jn_last {acc : List IP} {s : IP} : ∃ l, (jn acc s).getLast? = some l ∧ l.2 = s.2 := by
  by_cases e : acc = []
  · rw [e]; exact ⟨s, rfl, rfl⟩
  · obtain ⟨r, l, rfl⟩ := snoc e
    by_cases c : l.2 = s.1
    · rw [jn_join c, List.getLast?_concat]; exact ⟨_, rfl, rfl⟩
    · rw [jn_add c, List.getLast?_concat]; exact ⟨_, rfl, rfl⟩
theorem jn_fold : ∀ {S acc : List IP}, Ris S → (∀ l, acc.getLast? = some l → ∀ s ∈ S, l.2 ≤ s.1) → S.foldl jn acc = S.foldl mrg acc
  | [], _, _, _ => rfl
  | s :: S, acc, h, hl => by
    have hs := h.pos s (by simp)
    rw [List.foldl_cons, List.foldl_cons, ← jn_mrg hs fun l e => hl l e s (by simp)]
    refine jn_fold ⟨fun x hx => h.pos x (by simp [hx]), (List.pairwise_cons.mp h.ris).2⟩ fun l e t ht => ?_
    obtain ⟨l', e', h'⟩ := jn_last (acc := acc) (s := s)
    rw [e'] at e
    cases e
    have := (List.pairwise_cons.mp h.ris).1 t ht
    omega
theorem join_len {S : List IP} : (joinL S).length ≤ S.length := by
  have : ∀ (S acc : List IP), (S.foldl jn acc).length ≤ acc.length + S.length := by
    intro S
    induction S with
    | nil => intro acc; simp
    | cons q S ih =>
      intro acc
      have h1 := ih (jn acc q)
      have h2 : (jn acc q).length ≤ acc.length + 1 := by
        by_cases e : acc = []
        · rw [e]; simp [jn]
        · obtain ⟨r, l, rfl⟩ := snoc e
          by_cases c : l.2 = q.1
          · rw [jn_join c]; simp
          · rw [jn_add c]; simp
      rw [List.foldl_cons, List.length_cons]
      omega
  have := this S []
  unfold joinL
  simpa using this
theorem join_lot {S : List IP} (h : Ris S) : Lot (joinL S) ∧ ∀ m, inn (joinL S) m ↔ inn S m := by
  unfold joinL
  rw [jn_fold h (by simp)]
  obtain ⟨a, b⟩ := fold_lot (qs := S) Lot.nil h.pos (List.Pairwise.imp_of_mem (fun {a b} ha hb hab => by have := h.pos a ha; exact .inl (by omega)) h.ris) (by simp)
  refine ⟨a, fun m => ?_⟩
  rw [b m]
  exact ⟨fun k => k.elim (fun k => absurd k inn_nil) id, .inr⟩
theorem Lot.toRis {l : List IP} (h : Lot l) : Ris l := ⟨h.pos, h.ris.imp fun {a b} k => by omega⟩
theorem join_self {l : List IP} (h : Lot l) : joinL l = l := lot_uniq (join_lot h.toRis).1 h (join_lot h.toRis).2
/-! ### cuts -/
def cells (C : List Int) : List IP := C.zip (C.drop 1)
theorem cells_cons {a b : Int} {C : List Int} : cells (a :: b :: C) = (a, b) :: cells (b :: C) := rfl
theorem cell_in : ∀ {C : List Int} {p : IP}, p ∈ cells C → p.1 ∈ C ∧ p.2 ∈ C
  | [], _, h => by cases h
  | [_], _, h => by cases h
  | a :: b :: C, p, h => by
    rw [cells_cons] at h
    rcases List.mem_cons.mp h with e | h
    · rw [e]; exact ⟨by simp, by simp⟩
    · have := cell_in h
      exact ⟨List.mem_cons_of_mem _ this.1, List.mem_cons_of_mem _ this.2⟩
theorem cells_ris : ∀ {C : List Int}, C.Pairwise (· < ·) → Ris (cells C)
  | [], _ => ⟨(fun x hx => by cases hx), List.Pairwise.nil⟩
  | [_], _ => ⟨(fun x hx => by cases hx), List.Pairwise.nil⟩
  | a :: b :: C, h => by
    obtain ⟨h1, h2⟩ := List.pairwise_cons.mp h
    have ih := cells_ris h2
    rw [cells_cons]
    refine ⟨fun x hx => ?_, List.pairwise_cons.mpr ⟨fun p hp => ?_, ih.ris⟩⟩
    · rcases List.mem_cons.mp hx with e | hx
      · rw [e]; exact h1 b (by simp)
      · exact ih.pos x hx
    · have := (cell_in hp).1
      show b ≤ p.1
      rcases List.mem_cons.mp this with e | hm
      · omega
      · have := (List.pairwise_cons.mp h2).1 _ hm
        omega
theorem cell_no : ∀ {C : List Int} {p : IP} {c : Int}, C.Pairwise (· < ·) → p ∈ cells C → c ∈ C → c ≤ p.1 ∨ p.2 ≤ c
  | [], _, _, _, h, _ => by cases h
  | [_], _, _, _, h, _ => by cases h
  | a :: b :: C, p, c, h, hp, hc => by
    obtain ⟨h1, h2⟩ := List.pairwise_cons.mp h
    rw [cells_cons] at hp
    rcases List.mem_cons.mp hp with e | hp
    · subst e
      rcases List.mem_cons.mp hc with e | hc
      · exact .inl (by show c ≤ a; omega)
      · rcases List.mem_cons.mp hc with e | hc
        · exact .inr (by show b ≤ c; omega)
        · have := (List.pairwise_cons.mp h2).1 c hc
          exact .inr (by show b ≤ c; omega)
    · rcases List.mem_cons.mp hc with e | hc
      · have := h1 _ (cell_in hp).1
        exact .inl (by omega)
      · exact cell_no h2 hp hc
theorem cell_of : ∀ {C : List Int} {m a b : Int}, C.Pairwise (· < ·) → a ∈ C → a ≤ m → b ∈ C → m < b → ∃ p ∈ cells C, p.1 ≤ m ∧ m < p.2
  | [], _, _, _, _, h, _, _, _ => by cases h
  | [x], m, a, b, _, ha, h1, hb, h2 => by
    have : a = x := by simpa using ha
    have : b = x := by simpa using hb
    omega
  | x :: y :: C, m, a, b, h, ha, h1, hb, h2 => by
    obtain ⟨p1, p2⟩ := List.pairwise_cons.mp h
    rw [cells_cons]
    by_cases c : y ≤ m
    · have hb' : b ∈ y :: C := by
        rcases List.mem_cons.mp hb with e | hb
        · have := p1 y (by simp); omega
        · exact hb
      obtain ⟨p, hp, k⟩ := cell_of p2 (a := y) (by simp) c hb' h2
      exact ⟨p, List.mem_cons_of_mem _ hp, k⟩
    · have : a = x := by
        rcases List.mem_cons.mp ha with e | ha
        · exact e
        · exfalso
          rcases List.mem_cons.mp ha with e | ha
          · omega
          · have := (List.pairwise_cons.mp p2).1 a ha
            omega
      exact ⟨(x, y), by simp, by show x ≤ m; omega, by show m < y; omega⟩
def inL (A : List IP) (m : Int) : Bool := A.any fun x => decide (x.1 ≤ m) && decide (m < x.2)
theorem inL_iff {A : List IP} {m : Int} : inL A m = true ↔ inn A m := by
  unfold inL inn
  simp [List.any_eq_true]
/-- within a cell of all bounds a stretch has all or nothing -/
theorem cell_same {A : List IP} {C : List Int} (hC : C.Pairwise (· < ·)) (hA : ∀ x ∈ A, x.1 ∈ C ∧ x.2 ∈ C) {p : IP} (hp : p ∈ cells C) {m : Int} (h1 : p.1 ≤ m) (h2 : m < p.2) : inn A m ↔ inn A p.1 := by
  have pp := (cells_ris hC).pos p hp
  unfold inn
  constructor
  · rintro ⟨x, hx, k1, k2⟩
    have a := cell_no hC hp (hA x hx).1
    have b := cell_no hC hp (hA x hx).2
    exact ⟨x, hx, by omega, by omega⟩
  · rintro ⟨x, hx, k1, k2⟩
    have a := cell_no hC hp (hA x hx).1
    have b := cell_no hC hp (hA x hx).2
    exact ⟨x, hx, by omega, by omega⟩
/-- the cells in which something is so, put together: their minutes -/
theorem cut_lot {C : List Int} (hC : C.Pairwise (· < ·)) (P : Int → Bool) (R : Int → Prop) (same : ∀ p ∈ cells C, ∀ m, p.1 ≤ m → m < p.2 → (R m ↔ P p.1 = true)) (cov : ∀ m, R m → ∃ a ∈ C, ∃ b ∈ C, a ≤ m ∧ m < b) : Lot (joinL ((cells C).filter fun p => P p.1)) ∧ ∀ m, inn (joinL ((cells C).filter fun p => P p.1)) m ↔ R m := by
  have r := cells_ris hC
  have rf : Ris ((cells C).filter fun p => P p.1) := ⟨fun x hx => r.pos x (List.mem_filter.mp hx).1, r.ris.filter _⟩
  obtain ⟨a, b⟩ := join_lot rf
  refine ⟨a, fun m => ?_⟩
  rw [b]
  unfold inn
  constructor
  · rintro ⟨p, hp, h1, h2⟩
    obtain ⟨h3, h4⟩ := List.mem_filter.mp hp
    exact (same p h3 m h1 h2).mpr h4
  · intro h
    obtain ⟨x, hx, y, hy, h1, h2⟩ := cov m h
    obtain ⟨p, hp, h3, h4⟩ := cell_of hC hx h1 hy h2
    exact ⟨p, List.mem_filter.mpr ⟨hp, (same p hp m h3 h4).mp h⟩, h3, h4⟩
end DL

/-! the steps' lemmas in one word -/
namespace DL
open PySem L2
def SX6 := And.intro @List.getElem?_cons_zero.{0} <| And.intro @List.getElem?_cons_succ.{0} <| And.intro @List.set_cons_zero.{0} <| And.intro @List.set_cons_succ.{0} <| And.intro @List.length_cons.{0} <| And.intro @List.length_nil.{0} <| And.intro @Nat.zero_le <| And.intro @Bool.false_eq_true <|
  And.intro @and_true <| And.intro @and_self <| And.intro @decide_true <| And.intro @decide_false <| And.intro @Bool.and_false <| And.intro @Bool.false_and <| And.intro @Bool.or_false <| And.intro @Bool.false_or <| And.intro @true_and <| And.intro @Bool.and_true <| And.intro @Bool.true_and <|
  And.intro @List.isEmpty_nil.{0} <| And.intro @List.isEmpty_cons.{0} <| And.intro @Bool.true_or <| And.intro @Bool.or_true <| And.intro @Bool.not_true <| And.intro @Bool.not_false <| And.intro @Bool.false_xor <| And.intro @Bool.true_xor <| And.intro @List.map_cons.{0,0} <| And.intro @List.map_nil.{0,0} <|
  And.intro @List.cons_append.{0} <| @List.nil_append.{0}
def SX0 := And.intro @SX <| And.intro @SX2 <| And.intro @SX3 <| And.intro @SX4 <| And.intro @SX5 <| @SX6
end DL

namespace Qk58
open PySem DL
abbrev pw : Program := PySem.Challenge.pw_hourcoin_k58_books_written
def st (j : Nat) : Stmt := pw.main.body.getD j (.Pass ⟨0, 0, 0, 0⟩)
def xt : Xt := ⟨[], [], [], [], [], [], []⟩
def fvt : List (Str × Nat) := []
def xcn : List Str := []
theorem sxa_0 : (0 : Nat) = 0 := rfl
def fns : List Str := [("two_figures" : Str), ("show_clock" : Str), ("condition_words" : Str), ("rule_row" : Str), ("show_book" : Str), ("_law_tape" : Str), ("_law_draw" : Str), ("_law_pick" : Str), ("_law_names" : Str), ("_law_pools" : Str), ("_law_condition" : Str), ("_law_rules" : Str), ("_law_book" : Str), ("_law_wide" : Str), ("_law_clock" : Str), ("_law_words" : Str), ("_law_text" : Str), ("law" : Str)]
def cns : List Str := []
def bls : List Str := ["str", "len", "range", "tuple", "int", "sorted", "zip", "list", "repr", "isinstance"]
def gl : List D := []
/- two_figures: 0 number -/
abbrev b0 : CSs := .cons (.ret (.bin false .Add (.blt false .str (.cons (.bin true .FloorDiv (.var 0) (.int 10)) .nil)) (.blt false .str (.cons (.bin true .Mod (.var 0) (.int 10)) .nil)))) .nil
def d0 : Dfn := ⟨"two_figures", ["number"], 1, b0⟩
/- show_clock: 0 clock -/
abbrev b1 : CSs := .cons (.ret (.bin false .Add (.bin true .Add (.call 0 (.cons (.bin true .FloorDiv (.var 0) (.int 60)) .nil)) (.str ":")) (.call 0 (.cons (.bin true .Mod (.var 0) (.int 60)) .nil)))) .nil
def d1 : Dfn := ⟨"show_clock", ["clock"], 1, b1⟩
/- condition_words: 0 condition, 1 clock, 2 weekday, 3 number -/
abbrev b2_3 : CSs := .cons (.ret (.bin false .Add (.lst true (.cons (.str "clock") .nil)) (.comp true [("clock", 1)] (.nam 1) (.any (.slc true (.var 0) (.some (.int 1)) .none)) .none (.call 1 (.cons (.var 1) .nil))))) .nil
abbrev b2_4 : CSs := .cons (.ret (.lst false (.cons (.str "days") (.cons (.mtd false .join (.str "") (.cons (.comp true [("weekday", 2)] (.nam 2) (.any (.idx (.var 0) (.int 1))) .none (.blt false .str (.cons (.var 2) .nil))) .nil)) .nil)))) .nil
abbrev b2_2 : CSs := .cons (.ret (.bin false .Add (.lst true (.cons (.idx (.var 0) (.int 0)) .nil)) (.comp true [("number", 3)] (.nam 3) (.any (.slc true (.var 0) (.some (.int 1)) .none)) .none (.blt false .str (.cons (.var 3) .nil))))) .nil
abbrev b2_1 : CSs := .cons (.ife (.cmp .Eq (.idx (.var 0) (.int 0)) (.str "days")) b2_4 .nil) b2_2
abbrev b2 : CSs := .cons (.ife (.cmp .Eq (.idx (.var 0) (.int 0)) (.str "clock")) b2_3 .nil) b2_1
def d2 : Dfn := ⟨"condition_words", ["condition", "clock", "weekday", "number"], 1, b2⟩
/- rule_row: 0 rule, 1 words, 2 condition -/
abbrev b3_5 : CSs := .cons (.del [2]) .nil
abbrev b3_4 : CSs := .cons (.exp (.mtd false .extend (.var 1) (.cons (.frz (.call 2 (.cons (.var 2) .nil))) .nil))) b3_5
abbrev b3_3 : CSs := .cons (.ret (.mtd false .join (.str " ") (.cons (.var 1) .nil))) .nil
abbrev b3_2 : CSs := .cons (.fz 1) b3_3
abbrev b3_1 : CSs := .cons (.for (.nam 2) (.any (.idx (.var 0) (.int 3))) b3_4) b3_2
abbrev b3 : CSs := .cons (.set 1 (.lst false (.cons (.str "rule") (.cons (.idx (.var 0) (.int 0)) (.cons (.blt false .str (.cons (.idx (.var 0) (.int 1)) .nil)) (.cons (.idx (.var 0) (.int 2)) .nil)))))) b3_1
def d3 : Dfn := ⟨"rule_row", ["rule", "words", "condition"], 1, b3⟩
/- show_book: 0 book, 1 base, 2 rates, 3 rules, 4 rows, 5 sort, 6 rate, 7 rule -/
abbrev b4_2 : CSs := .cons (.ret (.mtd false .join (.str "\n") (.cons (.bin true .Add (.var 4) (.comp true [("rule", 7)] (.nam 7) (.any (.var 3)) .none (.call 3 (.cons (.var 7) .nil)))) .nil))) .nil
abbrev b4_1 : CSs := .cons (.set 4 (.bin true .Add (.comp true [("sort", 5), ("rate", 6)] (.tup (.cons (.nam 5) (.cons (.nam 6) .nil))) (.any (.var 2)) .none (.bin true .Add (.bin true .Add (.bin true .Add (.str "rate ") (.var 5)) (.str " ")) (.blt false .str (.cons (.var 6) .nil)))) (.lst true (.cons (.bin true .Add (.str "base ") (.var 1)) .nil)))) b4_2
abbrev b4 : CSs := .cons (.unp (.cons (.nam 1) (.cons (.nam 2) (.cons (.nam 3) .nil))) (.var 0)) b4_1
def d4 : Dfn := ⟨"show_book", ["book", "base", "rates", "rules", "rows", "sort", "rate", "rule"], 1, b4⟩
/- _law_tape: 0 script -/
abbrev b5 : CSs := .cons (.ret (.lst false (.cons (.slc true (.var 0) .none (.some (.int 63))) (.cons (.int 0) (.cons (.int 0) .nil))))) .nil
def d5 : Dfn := ⟨"_law_tape", ["script"], 1, b5⟩
/- _law_draw: 0 tape, 1 many, 2 digit, 3 turn, 4 cell, 5 primes, 6 prime, 7 mixed -/
abbrev b6_14 : CSs := .cons (.ret (.var 2)) .nil
abbrev b6_13 : CSs := .cons (.put (.var 0) (.int 2) (.bin true .FloorDiv (.idx (.var 0) (.int 2)) (.var 1))) b6_14
abbrev b6_12 : CSs := .cons (.set 2 (.bin true .Mod (.idx (.var 0) (.int 2)) (.var 1))) b6_13
abbrev b6_15 : CSs := .cons (.set 4 (.idx (.idx (.var 0) (.int 0)) (.bin true .Mod (.var 3) (.blt false .len (.cons (.idx (.var 0) (.int 0)) .nil))))) .nil
abbrev b6_17 : CSs := .cons (.ret (.bin false .Mod (.bin true .Sub (.var 4) (.bin true .Pow (.int 10) (.int 18))) (.var 1))) .nil
abbrev b6_16 : CSs := .cons (.put (.var 0) (.int 2) (.bin true .FloorDiv (.bin true .Sub (.var 4) (.bin true .Pow (.int 10) (.int 18))) (.var 1))) b6_17
abbrev b6_11 : CSs := .cons (.ret (.bin false .Mod (.bin true .FloorDiv (.bin true .Mod (.bin true .Mult (.var 7) (.var 7)) (.int 2147483549)) (.int 64)) (.var 1))) .nil
abbrev b6_10 : CSs := .cons (.set 7 (.bin true .Mod (.bin true .Mult (.var 7) (.bin true .Add (.var 7) (.int 16807))) (.idx (.var 5) (.bin true .Mod (.bin true .Add (.var 3) (.int 2)) (.int 5))))) b6_11
abbrev b6_9 : CSs := .cons (.set 7 (.bin true .Mod (.bin true .Add (.bin true .Add (.bin true .Add (.bin true .Mult (.bin true .Mod (.var 4) (.var 6)) (.int 48271)) (.bin true .Mult (.bin true .Mult (.int 7919) (.var 3)) (.var 3))) (.bin true .Mult (.int 69621) (.var 3))) (.int 1)) (.var 6))) b6_10
abbrev b6_8 : CSs := .cons (.set 6 (.idx (.var 5) (.bin true .Mod (.var 3) (.int 5)))) b6_9
abbrev b6_7 : CSs := .cons (.set 5 (.lst true (.cons (.int 2147483647) (.cons (.int 2147483629) (.cons (.int 2147483587) (.cons (.int 2147483579) (.cons (.int 2147483563) .nil))))))) b6_8
abbrev b6_6 : CSs := .cons (.ife (.and (.cmp .GtE (.var 4) (.bin true .Pow (.int 10) (.int 18))) (.cmp .Lt (.var 3) (.blt false .len (.cons (.idx (.var 0) (.int 0)) .nil)))) b6_16 .nil) b6_7
abbrev b6_5 : CSs := .cons (.ife (.cmp .NotEq (.idx (.var 0) (.int 0)) (.lst true .nil)) b6_15 .nil) b6_6
abbrev b6_4 : CSs := .cons (.set 4 (.int 0)) b6_5
abbrev b6_3 : CSs := .cons (.put (.var 0) (.int 1) (.bin true .Add (.var 3) (.int 1))) b6_4
abbrev b6_2 : CSs := .cons (.set 3 (.idx (.var 0) (.int 1))) b6_3
abbrev b6_1 : CSs := .cons (.del [2]) b6_2
abbrev b6 : CSs := .cons (.ife (.cmp .Gt (.idx (.var 0) (.int 2)) (.int 0)) b6_12 .nil) b6_1
def d6 : Dfn := ⟨"_law_draw", ["tape", "many", "digit", "turn", "cell", "primes", "prime", "mixed"], 2, b6⟩
/- _law_pick: 0 tape, 1 some -/
abbrev b7 : CSs := .cons (.ret (.idx (.var 1) (.call 6 (.cons (.var 0) (.cons (.blt false .len (.cons (.var 1) .nil)) .nil))))) .nil
def d7 : Dfn := ⟨"_law_pick", ["tape", "some"], 2, b7⟩
/- _law_names: 0 tape, 1 letters, 2 turn, 3 words, 4 base, 5 at, 6 first, 7 step, 8 ends, 9 k -/
abbrev b8_10 : CSs := .cons (.ret (.bin false .Add (.slc true (.var 3) (.some (.var 2)) .none) (.slc true (.var 3) .none (.some (.var 2))))) .nil
abbrev b8_9 : CSs := .cons (.set 3 (.lst true (.cons (.str "rate") (.cons (.str "base") (.cons (.str "rule") (.cons (.str "clock") (.cons (.str "days") (.cons (.str "feast") (.cons (.str "day") (.cons (.str "week") (.cons (.str "a") (.cons (.str "ab") (.cons (.str "abcdefgh") (.cons (.str "z") .nil)))))))))))))) b8_10
abbrev b8_8 : CSs := .cons (.ret (.comp false [("k", 9)] (.nam 9) (.rng1 (.int 12)) .none (.bin true .Add (.bin true .Add (.slc true (.var 4) .none (.some (.var 5))) (.idx (.var 1) (.bin true .Mod (.bin true .Add (.var 6) (.bin true .Mult (.var 7) (.var 9))) (.int 26)))) (.idx (.var 8) (.var 9))))) .nil
abbrev b8_7 : CSs := .cons (.set 8 (.comp true [("k", 9)] (.nam 9) (.rng1 (.int 12)) .none (.slc true (.slc true (.var 4) (.some (.bin true .Add (.var 5) (.int 1))) .none) .none (.some (.call 6 (.cons (.var 0) (.cons (.int 8) .nil))))))) b8_8
abbrev b8_6 : CSs := .cons (.set 7 (.idx (.lst true (.cons (.int 1) (.cons (.int 3) (.cons (.int 5) (.cons (.int 7) (.cons (.int 9) (.cons (.int 11) (.cons (.int 15) (.cons (.int 17) (.cons (.int 19) (.cons (.int 21) (.cons (.int 23) (.cons (.int 25) .nil))))))))))))) (.var 2))) b8_7
abbrev b8_5 : CSs := .cons (.unp (.cons (.nam 5) (.cons (.nam 6) .nil)) (.tup (.cons (.call 6 (.cons (.var 0) (.cons (.blt false .len (.cons (.var 4) .nil)) .nil))) (.cons (.call 6 (.cons (.var 0) (.cons (.int 26) .nil))) .nil)))) b8_6
abbrev b8_4 : CSs := .cons (.set 4 (.mtd false .join (.str "") (.cons (.comp true [("k", 9)] (.nam 9) (.rng1 (.bin true .Add (.int 1) (.call 6 (.cons (.var 0) (.cons (.int 8) .nil))))) .none (.idx (.var 1) (.call 6 (.cons (.var 0) (.cons (.int 26) .nil))))) .nil))) b8_5
abbrev b8_3 : CSs := .cons (.del [3]) b8_4
abbrev b8_2 : CSs := .cons (.ife (.cmp .Eq (.call 6 (.cons (.var 0) (.cons (.int 5) .nil))) (.int 0)) b8_9 .nil) b8_3
abbrev b8_1 : CSs := .cons (.set 2 (.call 6 (.cons (.var 0) (.cons (.int 12) .nil)))) b8_2
abbrev b8 : CSs := .cons (.set 1 (.str "abcdefghijklmnopqrstuvwxyz")) b8_1
def d8 : Dfn := ⟨"_law_names", ["tape", "letters", "turn", "words", "base", "at", "first", "step", "ends", "k"], 1, b8⟩
/- _law_pools: 0 tape, 1 many, 2 clocks, 3 days, 4 weeks, 5 k -/
abbrev b9_7 : CSs := .cons (.del [5]) .nil
abbrev b9_6 : CSs := .cons (.exp (.mtd false .append (.var 4) (.cons (.idx (.lst true (.cons (.bin true .Add (.int 1) (.call 6 (.cons (.var 0) (.cons (.int 6) .nil)))) (.cons (.int 1441) (.cons (.bin true .Add (.int 1) (.call 6 (.cons (.var 0) (.cons (.int 10080) .nil)))) (.cons (.int 2400) .nil))))) (.call 6 (.cons (.var 0) (.cons (.int 4) .nil)))) .nil))) b9_7
abbrev b9_5 : CSs := .cons (.ret (.lst false (.cons (.var 2) (.cons (.var 3) (.cons (.var 4) .nil))))) .nil
abbrev b9_4 : CSs := .cons (.fz 4) b9_5
abbrev b9_3 : CSs := .cons (.for (.nam 5) (.rng1 (.idx (.var 1) (.int 2))) b9_6) b9_4
abbrev b9_2 : CSs := .cons (.set 4 (.lst false .nil)) b9_3
abbrev b9_1 : CSs := .cons (.set 3 (.comp true [("k", 5)] (.nam 5) (.rng1 (.idx (.var 1) (.int 1))) .none (.idx (.lst true (.cons (.bin true .Add (.int 1) (.call 6 (.cons (.var 0) (.cons (.int 4) .nil)))) (.cons (.int 480) (.cons (.bin true .Add (.int 1) (.call 6 (.cons (.var 0) (.cons (.int 1440) .nil)))) (.cons (.int 1440) .nil))))) (.call 6 (.cons (.var 0) (.cons (.int 4) .nil)))))) b9_2
abbrev b9 : CSs := .cons (.set 2 (.comp true [("k", 5)] (.nam 5) (.rng1 (.idx (.var 1) (.int 0))) .none (.idx (.lst true (.cons (.int 0) (.cons (.int 1) (.cons (.int 1439) (.cons (.bin true .Mult (.int 60) (.call 6 (.cons (.var 0) (.cons (.int 24) .nil)))) (.cons (.call 6 (.cons (.var 0) (.cons (.int 1440) .nil))) .nil)))))) (.call 6 (.cons (.var 0) (.cons (.int 5) .nil)))))) b9_1
def d9 : Dfn := ⟨"_law_pools", ["tape", "many", "clocks", "days", "weeks", "k"], 2, b9⟩
/- _law_condition: 0 tape, 1 pools, 2 word, 3 bits, 4 a, 5 b, 6 k -/
abbrev b10_6 : CSs := .cons (.ret (.tup (.cons (.str "feast") .nil))) .nil
abbrev b10_8 : CSs := .cons (.ret (.tup (.cons (.str "days") (.cons (.blt false .tuple (.cons (.comp true [("k", 6)] (.nam 6) (.rng1 (.int 7)) (.some (.cmp .Eq (.bin true .BitAnd (.bin true .RShift (.var 3) (.var 6)) (.int 1)) (.int 1))) (.var 6)) .nil)) .nil)))) .nil
abbrev b10_7 : CSs := .cons (.set 3 (.bin true .Add (.int 1) (.call 6 (.cons (.var 0) (.cons (.int 127) .nil))))) b10_8
abbrev b10_10 : CSs := .cons (.ret (.tup (.cons (.str "clock") (.cons (.var 4) (.cons (.idx (.lst true (.cons (.var 5) (.cons (.bin true .Mod (.bin true .Add (.var 4) (.int 1)) (.int 1440)) .nil))) (.blt false .int (.cons (.cmp .Eq (.var 4) (.var 5)) .nil))) .nil))))) .nil
abbrev b10_9 : CSs := .cons (.par2 4 5 (.call 7 (.cons (.var 0) (.cons (.idx (.var 1) (.int 0)) .nil))) (.call 7 (.cons (.var 0) (.cons (.idx (.var 1) (.int 0)) .nil)))) b10_10
abbrev b10_5 : CSs := .cons (.ret (.tup (.cons (.var 2) (.cons (.call 7 (.cons (.var 0) (.cons (.idx (.var 1) (.bin true .Add (.int 1) (.blt false .int (.cons (.cmp .Eq (.var 2) (.str "week")) .nil)))) .nil))) .nil)))) .nil
abbrev b10_4 : CSs := .cons (.del [4, 5]) b10_5
abbrev b10_3 : CSs := .cons (.ife (.cmp .Eq (.var 2) (.str "clock")) b10_9 .nil) b10_4
abbrev b10_2 : CSs := .cons (.del [3]) b10_3
abbrev b10_1 : CSs := .cons (.ife (.cmp .Eq (.var 2) (.str "days")) b10_7 .nil) b10_2
abbrev b10 : CSs := .cons (.ife (.cmp .Eq (.var 2) (.str "feast")) b10_6 .nil) b10_1
def d10 : Dfn := ⟨"_law_condition", ["tape", "pools", "word", "bits", "a", "b", "k"], 3, b10⟩
/- _law_rules: 0 tape, 1 pools, 2 names, 3 sorts, 4 most, 5 kind, 6 some, 7 k, 8 turn, 9 often, 10 words, 11 own, 12 rank, 13 word -/
abbrev b11_9 : CSs := .cons (.del [7, 9, 11, 12, 8, 10]) .nil
abbrev b11_8 : CSs := .cons (.exp (.mtd false .append (.var 6) (.cons (.tup (.cons (.idx (.var 2) (.var 7)) (.cons (.var 12) (.cons (.call 7 (.cons (.var 0) (.cons (.var 3) .nil))) (.cons (.blt false .tuple (.cons (.var 11) .nil)) .nil))))) .nil))) b11_9
abbrev b11_7 : CSs := .cons (.set 12 (.idx (.lst true (.cons (.bin true .Mult (.int 9) (.var 7)) (.cons (.bin true .Sub (.int 50) (.var 7)) (.cons (.call 6 (.cons (.var 0) (.cons (.int 2) .nil))) (.cons (.bin true .Mult (.int 99) (.call 6 (.cons (.var 0) (.cons (.int 2) .nil)))) (.cons (.call 6 (.cons (.var 0) (.cons (.int 100) .nil))) .nil)))))) (.var 5))) b11_8
abbrev b11_6 : CSs := .cons (.set 11 (.comp true [("word", 13)] (.nam 13) (.any (.var 10)) (.some (.cmp .Lt (.call 6 (.cons (.var 0) (.cons (.int 6) .nil))) (.var 9))) (.call 10 (.cons (.var 0) (.cons (.var 1) (.cons (.var 13) .nil)))))) b11_7
abbrev b11_5 : CSs := .cons (.set 10 (.slc true (.lst true (.cons (.str "clock") (.cons (.str "days") (.cons (.str "feast") (.cons (.str "day") (.cons (.str "week") (.cons (.str "clock") (.cons (.str "days") (.cons (.str "feast") (.cons (.str "day") .nil)))))))))) (.some (.var 8)) (.some (.bin true .Add (.var 8) (.int 5))))) b11_6
abbrev b11_4 : CSs := .cons (.unp (.cons (.nam 8) (.cons (.nam 9) .nil)) (.tup (.cons (.call 6 (.cons (.var 0) (.cons (.int 5) .nil))) (.cons (.bin true .Add (.int 1) (.call 6 (.cons (.var 0) (.cons (.int 3) .nil)))) .nil)))) b11_5
abbrev b11_3 : CSs := .cons (.ret (.blt false .ptup (.cons (.var 6) .nil))) .nil
abbrev b11_2 : CSs := .cons (.fz 6) b11_3
abbrev b11_1 : CSs := .cons (.for (.nam 7) (.rng1 (.call 6 (.cons (.var 0) (.cons (.bin true .Add (.var 4) (.int 1)) .nil)))) b11_4) b11_2
abbrev b11 : CSs := .cons (.par2 5 6 (.call 6 (.cons (.var 0) (.cons (.int 5) .nil))) (.lst false .nil)) b11_1
def d11 : Dfn := ⟨"_law_rules", ["tape", "pools", "names", "sorts", "most", "kind", "some", "k", "turn", "often", "words", "own", "rank", "word"], 5, b11⟩
/- _law_book: 0 tape, 1 pools, 2 most, 3 names, 4 sorts, 5 coins, 6 sort -/
abbrev b12_3 : CSs := .cons (.ret (.tup (.cons (.call 7 (.cons (.var 0) (.cons (.var 4) .nil))) (.cons (.tzp (.var 4) (.var 5)) (.cons (.call 11 (.cons (.var 0) (.cons (.var 1) (.cons (.slc true (.var 3) (.some (.int 3)) .none) (.cons (.var 4) (.cons (.var 2) .nil)))))) .nil))))) .nil
abbrev b12_2 : CSs := .cons (.set 5 (.comp true [("sort", 6)] (.nam 6) (.any (.var 4)) .none (.idx (.lst true (.cons (.call 6 (.cons (.var 0) (.cons (.int 3) .nil))) (.cons (.call 6 (.cons (.var 0) (.cons (.bin true .Add (.bin true .Pow (.int 10) (.int 6)) (.int 1)) .nil))) (.cons (.bin true .Pow (.int 10) (.int 6)) .nil)))) (.call 6 (.cons (.var 0) (.cons (.int 3) .nil)))))) b12_3
abbrev b12_1 : CSs := .cons (.set 4 (.blt true .sorted (.cons (.slc true (.var 3) .none (.some (.bin true .Add (.int 1) (.call 6 (.cons (.var 0) (.cons (.idx (.lst true (.cons (.int 4) (.cons (.int 9) .nil))) (.call 6 (.cons (.var 0) (.cons (.int 2) .nil)))) .nil)))))) .nil))) b12_2
abbrev b12 : CSs := .cons (.set 3 (.frz (.call 8 (.cons (.var 0) .nil)))) b12_1
def d12 : Dfn := ⟨"_law_book", ["tape", "pools", "most", "names", "sorts", "coins", "sort"], 3, b12⟩
/- _law_wide: 0 tape, 1 pools, 2 base, 3 rates, 4 rules, 5 sorts, 6 more, 7 few, 8 extra, 9 sort, 10 coins, 11 name -/
abbrev b13_6 : CSs := .cons (.ret (.tup (.cons (.var 2) (.cons (.blt false .ptup (.cons (.blt true .sorted (.cons (.bin true .Add (.blt true .list (.cons (.var 3) .nil)) (.var 8)) .nil)) .nil)) (.cons (.var 4) .nil))))) .nil
abbrev b13_5 : CSs := .cons (.set 8 (.comp true [("name", 11)] (.nam 11) (.any (.var 6)) .none (.tup (.cons (.var 11) (.cons (.call 7 (.cons (.var 0) (.cons (.var 7) .nil))) .nil))))) b13_6
abbrev b13_4 : CSs := .cons (.set 7 (.lst true (.cons (.int 0) (.cons (.int 1) (.cons (.int 9) (.cons (.int 10) (.cons (.int 100) (.cons (.int 1000) (.cons (.int 10000) (.cons (.int 99999) (.cons (.int 100000) (.cons (.int 999999) (.cons (.int 1000000) (.cons (.int 305070) .nil)))))))))))))) b13_5
abbrev b13_3 : CSs := .cons (.set 6 (.comp true [("name", 11)] (.nam 11) (.any (.slc true (.frz (.call 8 (.cons (.var 0) .nil))) .none (.some (.call 6 (.cons (.var 0) (.cons (.int 9) .nil)))))) (.some (.cmp .NotIn (.var 11) (.var 5))) (.var 11))) b13_4
abbrev b13_2 : CSs := .cons (.set 5 (.comp true [("sort", 9), ("coins", 10)] (.tup (.cons (.nam 9) (.cons (.nam 10) .nil))) (.any (.var 3)) .none (.var 9))) b13_3
abbrev b13_1 : CSs := .cons (.unp (.cons (.nam 2) (.cons (.nam 3) (.cons (.nam 4) .nil))) (.call 12 (.cons (.var 0) (.cons (.var 1) (.cons (.int 8) .nil))))) b13_2
abbrev b13 : CSs := .cons (.set 1 (.frz (.call 9 (.cons (.var 0) (.cons (.tup (.cons (.int 4) (.cons (.int 3) (.cons (.int 3) .nil)))) .nil))))) b13_1
def d13 : Dfn := ⟨"_law_wide", ["tape", "pools", "base", "rates", "rules", "sorts", "more", "few", "extra", "sort", "coins", "name"], 1, b13⟩
/- _law_clock: 0 clock -/
abbrev b14 : CSs := .cons (.ret (.bin false .Add (.bin true .Add (.slc true (.blt false .str (.cons (.bin true .Add (.int 100) (.bin true .FloorDiv (.var 0) (.int 60))) .nil)) (.some (.int 1)) .none) (.str ":")) (.slc true (.blt false .str (.cons (.bin true .Add (.int 100) (.bin true .Mod (.var 0) (.int 60))) .nil)) (.some (.int 1)) .none))) .nil
def d14 : Dfn := ⟨"_law_clock", ["clock"], 1, b14⟩
/- _law_words: 0 one, 1 day, 2 part -/
abbrev b15_3 : CSs := .cons (.ret (.lst false (.cons (.str "clock") (.cons (.call 14 (.cons (.idx (.var 0) (.int 1)) .nil)) (.cons (.call 14 (.cons (.idx (.var 0) (.int 2)) .nil)) .nil))))) .nil
abbrev b15_4 : CSs := .cons (.ret (.lst false (.cons (.str "days") (.cons (.mtd false .join (.str "") (.cons (.comp true [("day", 1)] (.nam 1) (.any (.idx (.var 0) (.int 1))) .none (.blt false .str (.cons (.var 1) .nil))) .nil)) .nil)))) .nil
abbrev b15_2 : CSs := .cons (.ret (.comp false [("part", 2)] (.nam 2) (.any (.var 0)) .none (.blt false .str (.cons (.var 2) .nil)))) .nil
abbrev b15_1 : CSs := .cons (.ife (.cmp .Eq (.idx (.var 0) (.int 0)) (.str "days")) b15_4 .nil) b15_2
abbrev b15 : CSs := .cons (.ife (.cmp .Eq (.idx (.var 0) (.int 0)) (.str "clock")) b15_3 .nil) b15_1
def d15 : Dfn := ⟨"_law_words", ["one", "day", "part"], 1, b15⟩
/- _law_text: 0 book, 1 base, 2 rates, 3 rules, 4 rows, 5 name, 6 rank, 7 sort, 8 some, 9 words, 10 one, 11 coins -/
abbrev b16_11 : CSs := .cons (.del [10]) .nil
abbrev b16_10 : CSs := .cons (.set 9 (.bin true .Add (.var 9) (.frz (.call 15 (.cons (.var 10) .nil))))) b16_11
abbrev b16_9 : CSs := .cons (.del [5, 10, 6, 8, 7, 9]) .nil
abbrev b16_8 : CSs := .cons (.exp (.mtd false .append (.var 4) (.cons (.mtd false .join (.str " ") (.cons (.var 9) .nil)) .nil))) b16_9
abbrev b16_7 : CSs := .cons (.for (.nam 10) (.any (.var 8)) b16_10) b16_8
abbrev b16_6 : CSs := .cons (.del [10]) b16_7
abbrev b16_5 : CSs := .cons (.set 9 (.lst true (.cons (.str "rule") (.cons (.var 5) (.cons (.blt false .str (.cons (.var 6) .nil)) (.cons (.var 7) .nil)))))) b16_6
abbrev b16_4 : CSs := .cons (.ret (.mtd false .join (.str "\n") (.cons (.var 4) .nil))) .nil
abbrev b16_3 : CSs := .cons (.fz 4) b16_4
abbrev b16_2 : CSs := .cons (.for (.tup (.cons (.nam 5) (.cons (.nam 6) (.cons (.nam 7) (.cons (.nam 8) .nil))))) (.any (.var 3)) b16_5) b16_3
abbrev b16_1 : CSs := .cons (.set 4 (.bin false .Add (.comp true [("sort", 7), ("coins", 11)] (.tup (.cons (.nam 7) (.cons (.nam 11) .nil))) (.any (.var 2)) .none (.bin true .Add (.bin true .Add (.bin true .Add (.str "rate ") (.var 7)) (.str " ")) (.blt false .str (.cons (.var 11) .nil)))) (.lst true (.cons (.bin true .Add (.str "base ") (.var 1)) .nil)))) b16_2
abbrev b16 : CSs := .cons (.unp (.cons (.nam 1) (.cons (.nam 2) (.cons (.nam 3) .nil))) (.var 0)) b16_1
def d16 : Dfn := ⟨"_law_text", ["book", "base", "rates", "rules", "rows", "name", "rank", "sort", "some", "words", "one", "coins"], 1, b16⟩
/- law: 0 script, 1 tape, 2 books, 3 kept, 4 book, 5 found, 6 k -/
abbrev b17_11 : CSs := .cons (.ret (.bl false)) .nil
abbrev b17_10 : CSs := .cons (.del [4, 5]) .nil
abbrev b17_9 : CSs := .cons (.ife (.or (.no (.isi (.var 5) "str")) (.cmp .NotEq (.var 5) (.call 16 (.cons (.var 4) .nil)))) b17_11 .nil) b17_10
abbrev b17_8 : CSs := .cons (.set 5 (.call 4 (.cons (.var 4) .nil))) b17_9
abbrev b17_7 : CSs := .cons (.ret (.cmp .Eq (.blt false .repr (.cons (.var 2) .nil)) (.var 3))) .nil
abbrev b17_6 : CSs := .cons (.for (.nam 4) (.any (.bin true .Add (.var 2) (.slc true (.var 2) .none (.some (.int 1))))) b17_8) b17_7
abbrev b17_5 : CSs := .cons (.set 3 (.blt false .repr (.cons (.var 2) .nil))) b17_6
abbrev b17_4 : CSs := .cons (.fz 2) b17_5
abbrev b17_3 : CSs := .cons (.exp (.mtd false .append (.var 2) (.cons (.bin true .Add (.slc true (.idx (.var 2) (.int 0)) .none (.some (.int 2))) (.tup (.cons (.rev true (.idx (.idx (.var 2) (.int 0)) (.int 2))) .nil))) .nil))) b17_4
abbrev b17_2 : CSs := .cons (.fz 1) b17_3
abbrev b17_1 : CSs := .cons (.set 2 (.comp false [("k", 6)] (.nam 6) (.rng1 (.int 3)) .none (.call 13 (.cons (.var 1) .nil)))) b17_2
abbrev b17 : CSs := .cons (.set 1 (.call 5 (.cons (.var 0) .nil))) b17_1
def d17 : Dfn := ⟨"law", ["script", "tape", "books", "kept", "book", "found", "k"], 1, b17⟩
def ds : List Dfn := [d0, d1, d2, d3, d4, d5, d6, d7, d8, d9, d10, d11, d12, d13, d14, d15, d16, d17]
def SXA := @sxa_0
def SXQ := And.intro @DL.SX0 @SXA
theorem fns_eq : ds.map (·.x) = fns := rfl
abbrev Γ (N : List Str) (sc : Scope) : Gx := ⟨N, sc, fns, cns, bls, xt⟩
theorem s0 : scB d0.N d0.ar (L2.defScope (st 1)) = true := by decide +kernel
theorem c0 : chkSs (Γ d0.N (L2.defScope (st 1))) b0 (L2.defBody (st 1)) = true := by decide +kernel
theorem s1 : scB d1.N d1.ar (L2.defScope (st 2)) = true := by decide +kernel
theorem c1 : chkSs (Γ d1.N (L2.defScope (st 2))) b1 (L2.defBody (st 2)) = true := by decide +kernel
theorem s2 : scB d2.N d2.ar (L2.defScope (st 4)) = true := by decide +kernel
theorem c2 : chkSs (Γ d2.N (L2.defScope (st 4))) b2 (L2.defBody (st 4)) = true := by decide +kernel
theorem s3 : scB d3.N d3.ar (L2.defScope (st 5)) = true := by decide +kernel
theorem c3 : chkSs (Γ d3.N (L2.defScope (st 5))) b3 (L2.defBody (st 5)) = true := by decide +kernel
theorem s4 : scB d4.N d4.ar (L2.defScope (st 6)) = true := by decide +kernel
theorem c4 : chkSs (Γ d4.N (L2.defScope (st 6))) b4 (L2.defBody (st 6)) = true := by decide +kernel
theorem s5 : scB d5.N d5.ar (L2.defScope (st 8)) = true := by decide +kernel
theorem c5 : chkSs (Γ d5.N (L2.defScope (st 8))) b5 (L2.defBody (st 8)) = true := by decide +kernel
theorem s6 : scB d6.N d6.ar (L2.defScope (st 9)) = true := by decide +kernel
theorem c6 : chkSs (Γ d6.N (L2.defScope (st 9))) b6 (L2.defBody (st 9)) = true := by decide +kernel
theorem s7 : scB d7.N d7.ar (L2.defScope (st 10)) = true := by decide +kernel
theorem c7 : chkSs (Γ d7.N (L2.defScope (st 10))) b7 (L2.defBody (st 10)) = true := by decide +kernel
theorem s8 : scB d8.N d8.ar (L2.defScope (st 11)) = true := by decide +kernel
theorem c8 : chkSs (Γ d8.N (L2.defScope (st 11))) b8 (L2.defBody (st 11)) = true := by decide +kernel
theorem s9 : scB d9.N d9.ar (L2.defScope (st 12)) = true := by decide +kernel
theorem c9 : chkSs (Γ d9.N (L2.defScope (st 12))) b9 (L2.defBody (st 12)) = true := by decide +kernel
theorem s10 : scB d10.N d10.ar (L2.defScope (st 13)) = true := by decide +kernel
theorem c10 : chkSs (Γ d10.N (L2.defScope (st 13))) b10 (L2.defBody (st 13)) = true := by decide +kernel
theorem s11 : scB d11.N d11.ar (L2.defScope (st 14)) = true := by decide +kernel
theorem c11 : chkSs (Γ d11.N (L2.defScope (st 14))) b11 (L2.defBody (st 14)) = true := by decide +kernel
theorem s12 : scB d12.N d12.ar (L2.defScope (st 15)) = true := by decide +kernel
theorem c12 : chkSs (Γ d12.N (L2.defScope (st 15))) b12 (L2.defBody (st 15)) = true := by decide +kernel
theorem s13 : scB d13.N d13.ar (L2.defScope (st 16)) = true := by decide +kernel
theorem c13 : chkSs (Γ d13.N (L2.defScope (st 16))) b13 (L2.defBody (st 16)) = true := by decide +kernel
theorem s14 : scB d14.N d14.ar (L2.defScope (st 17)) = true := by decide +kernel
theorem c14 : chkSs (Γ d14.N (L2.defScope (st 17))) b14 (L2.defBody (st 17)) = true := by decide +kernel
theorem s15 : scB d15.N d15.ar (L2.defScope (st 18)) = true := by decide +kernel
theorem c15 : chkSs (Γ d15.N (L2.defScope (st 18))) b15 (L2.defBody (st 18)) = true := by decide +kernel
theorem s16 : scB d16.N d16.ar (L2.defScope (st 19)) = true := by decide +kernel
theorem c16 : chkSs (Γ d16.N (L2.defScope (st 19))) b16 (L2.defBody (st 19)) = true := by decide +kernel
theorem s17 : scB d17.N d17.ar (L2.defScope (st 20)) = true := by decide +kernel
theorem c17 : chkSs (Γ d17.N (L2.defScope (st 20))) b17 (L2.defBody (st 20)) = true := by decide +kernel
theorem e0 {n : Nat} {h : DH} {Q : QD} {E : XD} {x0 : D} (q : wSs gl (run gl ds n) Q (fun x _ h' => E x h') b0 [some x0] h fun _ h' => Q .non h') : run gl ds (n + 1) 0 [x0] h Q E := ⟨rfl, q⟩
theorem e1 {n : Nat} {h : DH} {Q : QD} {E : XD} {x0 : D} (q : wSs gl (run gl ds n) Q (fun x _ h' => E x h') b1 [some x0] h fun _ h' => Q .non h') : run gl ds (n + 1) 1 [x0] h Q E := ⟨rfl, q⟩
theorem e2 {n : Nat} {h : DH} {Q : QD} {E : XD} {x0 : D} (q : wSs gl (run gl ds n) Q (fun x _ h' => E x h') b2 [some x0, none, none, none] h fun _ h' => Q .non h') : run gl ds (n + 1) 2 [x0] h Q E := ⟨rfl, q⟩
theorem e3 {n : Nat} {h : DH} {Q : QD} {E : XD} {x0 : D} (q : wSs gl (run gl ds n) Q (fun x _ h' => E x h') b3 [some x0, none, none] h fun _ h' => Q .non h') : run gl ds (n + 1) 3 [x0] h Q E := ⟨rfl, q⟩
theorem e4 {n : Nat} {h : DH} {Q : QD} {E : XD} {x0 : D} (q : wSs gl (run gl ds n) Q (fun x _ h' => E x h') b4 [some x0, none, none, none, none, none, none, none] h fun _ h' => Q .non h') : run gl ds (n + 1) 4 [x0] h Q E := ⟨rfl, q⟩
theorem e5 {n : Nat} {h : DH} {Q : QD} {E : XD} {x0 : D} (q : wSs gl (run gl ds n) Q (fun x _ h' => E x h') b5 [some x0] h fun _ h' => Q .non h') : run gl ds (n + 1) 5 [x0] h Q E := ⟨rfl, q⟩
theorem e6 {n : Nat} {h : DH} {Q : QD} {E : XD} {x0 x1 : D} (q : wSs gl (run gl ds n) Q (fun x _ h' => E x h') b6 [some x0, some x1, none, none, none, none, none, none] h fun _ h' => Q .non h') : run gl ds (n + 1) 6 [x0, x1] h Q E := ⟨rfl, q⟩
theorem e7 {n : Nat} {h : DH} {Q : QD} {E : XD} {x0 x1 : D} (q : wSs gl (run gl ds n) Q (fun x _ h' => E x h') b7 [some x0, some x1] h fun _ h' => Q .non h') : run gl ds (n + 1) 7 [x0, x1] h Q E := ⟨rfl, q⟩
theorem e8 {n : Nat} {h : DH} {Q : QD} {E : XD} {x0 : D} (q : wSs gl (run gl ds n) Q (fun x _ h' => E x h') b8 [some x0, none, none, none, none, none, none, none, none, none] h fun _ h' => Q .non h') : run gl ds (n + 1) 8 [x0] h Q E := ⟨rfl, q⟩
theorem e9 {n : Nat} {h : DH} {Q : QD} {E : XD} {x0 x1 : D} (q : wSs gl (run gl ds n) Q (fun x _ h' => E x h') b9 [some x0, some x1, none, none, none, none] h fun _ h' => Q .non h') : run gl ds (n + 1) 9 [x0, x1] h Q E := ⟨rfl, q⟩
theorem e10 {n : Nat} {h : DH} {Q : QD} {E : XD} {x0 x1 x2 : D} (q : wSs gl (run gl ds n) Q (fun x _ h' => E x h') b10 [some x0, some x1, some x2, none, none, none, none] h fun _ h' => Q .non h') : run gl ds (n + 1) 10 [x0, x1, x2] h Q E := ⟨rfl, q⟩
theorem e11 {n : Nat} {h : DH} {Q : QD} {E : XD} {x0 x1 x2 x3 x4 : D} (q : wSs gl (run gl ds n) Q (fun x _ h' => E x h') b11 [some x0, some x1, some x2, some x3, some x4, none, none, none, none, none, none, none, none, none] h fun _ h' => Q .non h') : run gl ds (n + 1) 11 [x0, x1, x2, x3, x4] h Q E := ⟨rfl, q⟩
theorem e12 {n : Nat} {h : DH} {Q : QD} {E : XD} {x0 x1 x2 : D} (q : wSs gl (run gl ds n) Q (fun x _ h' => E x h') b12 [some x0, some x1, some x2, none, none, none, none] h fun _ h' => Q .non h') : run gl ds (n + 1) 12 [x0, x1, x2] h Q E := ⟨rfl, q⟩
theorem e13 {n : Nat} {h : DH} {Q : QD} {E : XD} {x0 : D} (q : wSs gl (run gl ds n) Q (fun x _ h' => E x h') b13 [some x0, none, none, none, none, none, none, none, none, none, none, none] h fun _ h' => Q .non h') : run gl ds (n + 1) 13 [x0] h Q E := ⟨rfl, q⟩
theorem e14 {n : Nat} {h : DH} {Q : QD} {E : XD} {x0 : D} (q : wSs gl (run gl ds n) Q (fun x _ h' => E x h') b14 [some x0] h fun _ h' => Q .non h') : run gl ds (n + 1) 14 [x0] h Q E := ⟨rfl, q⟩
theorem e15 {n : Nat} {h : DH} {Q : QD} {E : XD} {x0 : D} (q : wSs gl (run gl ds n) Q (fun x _ h' => E x h') b15 [some x0, none, none] h fun _ h' => Q .non h') : run gl ds (n + 1) 15 [x0] h Q E := ⟨rfl, q⟩
theorem e16 {n : Nat} {h : DH} {Q : QD} {E : XD} {x0 : D} (q : wSs gl (run gl ds n) Q (fun x _ h' => E x h') b16 [some x0, none, none, none, none, none, none, none, none, none, none, none] h fun _ h' => Q .non h') : run gl ds (n + 1) 16 [x0] h Q E := ⟨rfl, q⟩
theorem e17 {n : Nat} {h : DH} {Q : QD} {E : XD} {x0 : D} (q : wSs gl (run gl ds n) Q (fun x _ h' => E x h') b17 [some x0, none, none, none, none, none, none] h fun _ h' => Q .non h') : run gl ds (n + 1) 17 [x0] h Q E := ⟨rfl, q⟩
section
open PySem.Spec PyProof.Rows L2
variable {P : Program} {w : World} {K : PySem.W.Frag} {h : Heap} {mg : Str → Option Value} {C : CA} {fa : Addr}
theorem fd_all (n : Nat) (X : K.In h) (G : h.Ns mainGlobals mg) (hfa : mg "law" = some (.ref fa)) (sm : SM K) 
    {f0 : Addr} {oc0 kV0 dc0 pm0 cd0 ct0 : Value} {od0 an0 : Option Addr} {sl0 : Array (Option Value)} (qa0 : PySem.W.nsIn K mainGlobals "two_figures" = some (some (.ref f0))) (ql0 : K.lookup f0 = some ⟨oc0, od0, .func (PySem.W.fnOf "two_figures" "two_figures" (defArgs (st 1)) (defBody (st 1)) (defScope (st 1)) .none kV0 dc0 pm0 an0 cd0 ct0), sl0⟩) (qc0 : PySem.W.codeIn K cd0 "two_figures" = true) (qk0 : PySem.W.keepIn K (.ref f0) = true)
    {f1 : Addr} {oc1 kV1 dc1 pm1 cd1 ct1 : Value} {od1 an1 : Option Addr} {sl1 : Array (Option Value)} (qa1 : PySem.W.nsIn K mainGlobals "show_clock" = some (some (.ref f1))) (ql1 : K.lookup f1 = some ⟨oc1, od1, .func (PySem.W.fnOf "show_clock" "show_clock" (defArgs (st 2)) (defBody (st 2)) (defScope (st 2)) .none kV1 dc1 pm1 an1 cd1 ct1), sl1⟩) (qc1 : PySem.W.codeIn K cd1 "show_clock" = true) (qk1 : PySem.W.keepIn K (.ref f1) = true)
    {f2 : Addr} {oc2 kV2 dc2 pm2 cd2 ct2 : Value} {od2 an2 : Option Addr} {sl2 : Array (Option Value)} (qa2 : PySem.W.nsIn K mainGlobals "condition_words" = some (some (.ref f2))) (ql2 : K.lookup f2 = some ⟨oc2, od2, .func (PySem.W.fnOf "condition_words" "condition_words" (defArgs (st 4)) (defBody (st 4)) (defScope (st 4)) .none kV2 dc2 pm2 an2 cd2 ct2), sl2⟩) (qc2 : PySem.W.codeIn K cd2 "condition_words" = true) (qk2 : PySem.W.keepIn K (.ref f2) = true)
    {f3 : Addr} {oc3 kV3 dc3 pm3 cd3 ct3 : Value} {od3 an3 : Option Addr} {sl3 : Array (Option Value)} (qa3 : PySem.W.nsIn K mainGlobals "rule_row" = some (some (.ref f3))) (ql3 : K.lookup f3 = some ⟨oc3, od3, .func (PySem.W.fnOf "rule_row" "rule_row" (defArgs (st 5)) (defBody (st 5)) (defScope (st 5)) .none kV3 dc3 pm3 an3 cd3 ct3), sl3⟩) (qc3 : PySem.W.codeIn K cd3 "rule_row" = true) (qk3 : PySem.W.keepIn K (.ref f3) = true)
    {f4 : Addr} {oc4 kV4 dc4 pm4 cd4 ct4 : Value} {od4 an4 : Option Addr} {sl4 : Array (Option Value)} (qa4 : PySem.W.nsIn K mainGlobals "show_book" = some (some (.ref f4))) (ql4 : K.lookup f4 = some ⟨oc4, od4, .func (PySem.W.fnOf "show_book" "show_book" (defArgs (st 6)) (defBody (st 6)) (defScope (st 6)) .none kV4 dc4 pm4 an4 cd4 ct4), sl4⟩) (qc4 : PySem.W.codeIn K cd4 "show_book" = true) (qk4 : PySem.W.keepIn K (.ref f4) = true)
    {f5 : Addr} {oc5 kV5 dc5 pm5 cd5 ct5 : Value} {od5 an5 : Option Addr} {sl5 : Array (Option Value)} (qa5 : PySem.W.nsIn K mainGlobals "_law_tape" = some (some (.ref f5))) (ql5 : K.lookup f5 = some ⟨oc5, od5, .func (PySem.W.fnOf "_law_tape" "_law_tape" (defArgs (st 8)) (defBody (st 8)) (defScope (st 8)) .none kV5 dc5 pm5 an5 cd5 ct5), sl5⟩) (qc5 : PySem.W.codeIn K cd5 "_law_tape" = true) (qk5 : PySem.W.keepIn K (.ref f5) = true)
    {f6 : Addr} {oc6 kV6 dc6 pm6 cd6 ct6 : Value} {od6 an6 : Option Addr} {sl6 : Array (Option Value)} (qa6 : PySem.W.nsIn K mainGlobals "_law_draw" = some (some (.ref f6))) (ql6 : K.lookup f6 = some ⟨oc6, od6, .func (PySem.W.fnOf "_law_draw" "_law_draw" (defArgs (st 9)) (defBody (st 9)) (defScope (st 9)) .none kV6 dc6 pm6 an6 cd6 ct6), sl6⟩) (qc6 : PySem.W.codeIn K cd6 "_law_draw" = true) (qk6 : PySem.W.keepIn K (.ref f6) = true)
    {f7 : Addr} {oc7 kV7 dc7 pm7 cd7 ct7 : Value} {od7 an7 : Option Addr} {sl7 : Array (Option Value)} (qa7 : PySem.W.nsIn K mainGlobals "_law_pick" = some (some (.ref f7))) (ql7 : K.lookup f7 = some ⟨oc7, od7, .func (PySem.W.fnOf "_law_pick" "_law_pick" (defArgs (st 10)) (defBody (st 10)) (defScope (st 10)) .none kV7 dc7 pm7 an7 cd7 ct7), sl7⟩) (qc7 : PySem.W.codeIn K cd7 "_law_pick" = true) (qk7 : PySem.W.keepIn K (.ref f7) = true)
    {f8 : Addr} {oc8 kV8 dc8 pm8 cd8 ct8 : Value} {od8 an8 : Option Addr} {sl8 : Array (Option Value)} (qa8 : PySem.W.nsIn K mainGlobals "_law_names" = some (some (.ref f8))) (ql8 : K.lookup f8 = some ⟨oc8, od8, .func (PySem.W.fnOf "_law_names" "_law_names" (defArgs (st 11)) (defBody (st 11)) (defScope (st 11)) .none kV8 dc8 pm8 an8 cd8 ct8), sl8⟩) (qc8 : PySem.W.codeIn K cd8 "_law_names" = true) (qk8 : PySem.W.keepIn K (.ref f8) = true)
    {f9 : Addr} {oc9 kV9 dc9 pm9 cd9 ct9 : Value} {od9 an9 : Option Addr} {sl9 : Array (Option Value)} (qa9 : PySem.W.nsIn K mainGlobals "_law_pools" = some (some (.ref f9))) (ql9 : K.lookup f9 = some ⟨oc9, od9, .func (PySem.W.fnOf "_law_pools" "_law_pools" (defArgs (st 12)) (defBody (st 12)) (defScope (st 12)) .none kV9 dc9 pm9 an9 cd9 ct9), sl9⟩) (qc9 : PySem.W.codeIn K cd9 "_law_pools" = true) (qk9 : PySem.W.keepIn K (.ref f9) = true)
    {f10 : Addr} {oc10 kV10 dc10 pm10 cd10 ct10 : Value} {od10 an10 : Option Addr} {sl10 : Array (Option Value)} (qa10 : PySem.W.nsIn K mainGlobals "_law_condition" = some (some (.ref f10))) (ql10 : K.lookup f10 = some ⟨oc10, od10, .func (PySem.W.fnOf "_law_condition" "_law_condition" (defArgs (st 13)) (defBody (st 13)) (defScope (st 13)) .none kV10 dc10 pm10 an10 cd10 ct10), sl10⟩) (qc10 : PySem.W.codeIn K cd10 "_law_condition" = true) (qk10 : PySem.W.keepIn K (.ref f10) = true)
    {f11 : Addr} {oc11 kV11 dc11 pm11 cd11 ct11 : Value} {od11 an11 : Option Addr} {sl11 : Array (Option Value)} (qa11 : PySem.W.nsIn K mainGlobals "_law_rules" = some (some (.ref f11))) (ql11 : K.lookup f11 = some ⟨oc11, od11, .func (PySem.W.fnOf "_law_rules" "_law_rules" (defArgs (st 14)) (defBody (st 14)) (defScope (st 14)) .none kV11 dc11 pm11 an11 cd11 ct11), sl11⟩) (qc11 : PySem.W.codeIn K cd11 "_law_rules" = true) (qk11 : PySem.W.keepIn K (.ref f11) = true)
    {f12 : Addr} {oc12 kV12 dc12 pm12 cd12 ct12 : Value} {od12 an12 : Option Addr} {sl12 : Array (Option Value)} (qa12 : PySem.W.nsIn K mainGlobals "_law_book" = some (some (.ref f12))) (ql12 : K.lookup f12 = some ⟨oc12, od12, .func (PySem.W.fnOf "_law_book" "_law_book" (defArgs (st 15)) (defBody (st 15)) (defScope (st 15)) .none kV12 dc12 pm12 an12 cd12 ct12), sl12⟩) (qc12 : PySem.W.codeIn K cd12 "_law_book" = true) (qk12 : PySem.W.keepIn K (.ref f12) = true)
    {f13 : Addr} {oc13 kV13 dc13 pm13 cd13 ct13 : Value} {od13 an13 : Option Addr} {sl13 : Array (Option Value)} (qa13 : PySem.W.nsIn K mainGlobals "_law_wide" = some (some (.ref f13))) (ql13 : K.lookup f13 = some ⟨oc13, od13, .func (PySem.W.fnOf "_law_wide" "_law_wide" (defArgs (st 16)) (defBody (st 16)) (defScope (st 16)) .none kV13 dc13 pm13 an13 cd13 ct13), sl13⟩) (qc13 : PySem.W.codeIn K cd13 "_law_wide" = true) (qk13 : PySem.W.keepIn K (.ref f13) = true)
    {f14 : Addr} {oc14 kV14 dc14 pm14 cd14 ct14 : Value} {od14 an14 : Option Addr} {sl14 : Array (Option Value)} (qa14 : PySem.W.nsIn K mainGlobals "_law_clock" = some (some (.ref f14))) (ql14 : K.lookup f14 = some ⟨oc14, od14, .func (PySem.W.fnOf "_law_clock" "_law_clock" (defArgs (st 17)) (defBody (st 17)) (defScope (st 17)) .none kV14 dc14 pm14 an14 cd14 ct14), sl14⟩) (qc14 : PySem.W.codeIn K cd14 "_law_clock" = true) (qk14 : PySem.W.keepIn K (.ref f14) = true)
    {f15 : Addr} {oc15 kV15 dc15 pm15 cd15 ct15 : Value} {od15 an15 : Option Addr} {sl15 : Array (Option Value)} (qa15 : PySem.W.nsIn K mainGlobals "_law_words" = some (some (.ref f15))) (ql15 : K.lookup f15 = some ⟨oc15, od15, .func (PySem.W.fnOf "_law_words" "_law_words" (defArgs (st 18)) (defBody (st 18)) (defScope (st 18)) .none kV15 dc15 pm15 an15 cd15 ct15), sl15⟩) (qc15 : PySem.W.codeIn K cd15 "_law_words" = true) (qk15 : PySem.W.keepIn K (.ref f15) = true)
    {f16 : Addr} {oc16 kV16 dc16 pm16 cd16 ct16 : Value} {od16 an16 : Option Addr} {sl16 : Array (Option Value)} (qa16 : PySem.W.nsIn K mainGlobals "_law_text" = some (some (.ref f16))) (ql16 : K.lookup f16 = some ⟨oc16, od16, .func (PySem.W.fnOf "_law_text" "_law_text" (defArgs (st 19)) (defBody (st 19)) (defScope (st 19)) .none kV16 dc16 pm16 an16 cd16 ct16), sl16⟩) (qc16 : PySem.W.codeIn K cd16 "_law_text" = true) (qk16 : PySem.W.keepIn K (.ref f16) = true)
    {f17 : Addr} {oc17 kV17 dc17 pm17 cd17 ct17 : Value} {od17 an17 : Option Addr} {sl17 : Array (Option Value)} (qa17 : PySem.W.nsIn K mainGlobals "law" = some (some (.ref f17))) (ql17 : K.lookup f17 = some ⟨oc17, od17, .func (PySem.W.fnOf "law" "law" (defArgs (st 20)) (defBody (st 20)) (defScope (st 20)) .none kV17 dc17 pm17 an17 cd17 ct17), sl17⟩) (qc17 : PySem.W.codeIn K cd17 "law" = true) (qk17 : PySem.W.keepIn K (.ref f17) = true)
    (Z0 : PySem.W.nsIn K mainGlobals "str" = some none)
    (Z1 : PySem.W.nsIn K mainGlobals "len" = some none)
    (Z2 : PySem.W.nsIn K mainGlobals "range" = some none)
    (Z3 : PySem.W.nsIn K mainGlobals "tuple" = some none)
    (Z4 : PySem.W.nsIn K mainGlobals "int" = some none)
    (Z5 : PySem.W.nsIn K mainGlobals "sorted" = some none)
    (Z6 : PySem.W.nsIn K mainGlobals "zip" = some none)
    (Z7 : PySem.W.nsIn K mainGlobals "list" = some none)
    (Z8 : PySem.W.nsIn K mainGlobals "repr" = some none)
    (Z9 : PySem.W.nsIn K mainGlobals "isinstance" = some none) :
    ∃ fd : FuncData, (∀ (s : Shared) (u : Value), BindsTo s fd ⟨[u], []⟩ [("script", u)]) ∧ ∀ base : Heap, FnG P w K mg base (lv (n + 1)) fa fd ["script"] (spL K C (run gl ds (n + 1) 17)) := by
  have XT : XtF P w K mg xt ds (fun N sc => ⟨N, sc, ds.map (·.x), cns, bls, xt⟩) := by
    refine ⟨fun base c fs hm => ?_, fun c m i hm => ?_, fun c i hm => ?_, fun c fs hm => ?_, ?_, fun c t b hm => ?_, fun x hm => ?_⟩
    · cases hm
    · cases hm
    · cases hm
    · cases hm
    · exact fun t ht => (nomatch ht)
    · cases hm
    · cases hm
  have D0 : DefIn K "two_figures" (st 1) := ⟨_, _, _, _, _, _, _, _, _, _, qa0, ql0, qc0, qk0⟩
  have D1 : DefIn K "show_clock" (st 2) := ⟨_, _, _, _, _, _, _, _, _, _, qa1, ql1, qc1, qk1⟩
  have D2 : DefIn K "condition_words" (st 4) := ⟨_, _, _, _, _, _, _, _, _, _, qa2, ql2, qc2, qk2⟩
  have D3 : DefIn K "rule_row" (st 5) := ⟨_, _, _, _, _, _, _, _, _, _, qa3, ql3, qc3, qk3⟩
  have D4 : DefIn K "show_book" (st 6) := ⟨_, _, _, _, _, _, _, _, _, _, qa4, ql4, qc4, qk4⟩
  have D5 : DefIn K "_law_tape" (st 8) := ⟨_, _, _, _, _, _, _, _, _, _, qa5, ql5, qc5, qk5⟩
  have D6 : DefIn K "_law_draw" (st 9) := ⟨_, _, _, _, _, _, _, _, _, _, qa6, ql6, qc6, qk6⟩
  have D7 : DefIn K "_law_pick" (st 10) := ⟨_, _, _, _, _, _, _, _, _, _, qa7, ql7, qc7, qk7⟩
  have D8 : DefIn K "_law_names" (st 11) := ⟨_, _, _, _, _, _, _, _, _, _, qa8, ql8, qc8, qk8⟩
  have D9 : DefIn K "_law_pools" (st 12) := ⟨_, _, _, _, _, _, _, _, _, _, qa9, ql9, qc9, qk9⟩
  have D10 : DefIn K "_law_condition" (st 13) := ⟨_, _, _, _, _, _, _, _, _, _, qa10, ql10, qc10, qk10⟩
  have D11 : DefIn K "_law_rules" (st 14) := ⟨_, _, _, _, _, _, _, _, _, _, qa11, ql11, qc11, qk11⟩
  have D12 : DefIn K "_law_book" (st 15) := ⟨_, _, _, _, _, _, _, _, _, _, qa12, ql12, qc12, qk12⟩
  have D13 : DefIn K "_law_wide" (st 16) := ⟨_, _, _, _, _, _, _, _, _, _, qa13, ql13, qc13, qk13⟩
  have D14 : DefIn K "_law_clock" (st 17) := ⟨_, _, _, _, _, _, _, _, _, _, qa14, ql14, qc14, qk14⟩
  have D15 : DefIn K "_law_words" (st 18) := ⟨_, _, _, _, _, _, _, _, _, _, qa15, ql15, qc15, qk15⟩
  have D16 : DefIn K "_law_text" (st 19) := ⟨_, _, _, _, _, _, _, _, _, _, qa16, ql16, qc16, qk16⟩
  have D17 : DefIn K "law" (st 20) := ⟨_, _, _, _, _, _, _, _, _, _, qa17, ql17, qc17, qk17⟩
  refine law_fd (cns := cns) (bls := bls) n sm (i := 17) (d := d17) rfl hfa rfl (fun i x e => ?_) (fun x hx => ?_) (fun i d e => ?_) XT (st 20) D17 s17 c17 ⟨h, X, G⟩ (fun _ _ _ _ _ _ _ => rfl)
  · match i, e with
    | n + 0, e => cases e
  · unfold bls at hx
    simp only [List.mem_cons, List.not_mem_nil, or_false] at hx
    rcases hx with rfl | rfl | rfl | rfl | rfl | rfl | rfl | rfl | rfl | rfl
    · exact NoIn.mk' X G Z0
    · exact NoIn.mk' X G Z1
    · exact NoIn.mk' X G Z2
    · exact NoIn.mk' X G Z3
    · exact NoIn.mk' X G Z4
    · exact NoIn.mk' X G Z5
    · exact NoIn.mk' X G Z6
    · exact NoIn.mk' X G Z7
    · exact NoIn.mk' X G Z8
    · exact NoIn.mk' X G Z9
  · match i, e with
    | 0, e => cases e; obtain ⟨f, fd, e1, F⟩ := D0.mk' X G; exact ⟨st 1, ⟨f, fd, _, fun _ => e1, F, F.binds fun _ _ _ _ _ _ us hl => match us, hl with | [_], _ => rfl⟩, s0, c0⟩
    | 1, e => cases e; obtain ⟨f, fd, e1, F⟩ := D1.mk' X G; exact ⟨st 2, ⟨f, fd, _, fun _ => e1, F, F.binds fun _ _ _ _ _ _ us hl => match us, hl with | [_], _ => rfl⟩, s1, c1⟩
    | 2, e => cases e; obtain ⟨f, fd, e1, F⟩ := D2.mk' X G; exact ⟨st 4, ⟨f, fd, _, fun _ => e1, F, F.binds fun _ _ _ _ _ _ us hl => match us, hl with | [_], _ => rfl⟩, s2, c2⟩
    | 3, e => cases e; obtain ⟨f, fd, e1, F⟩ := D3.mk' X G; exact ⟨st 5, ⟨f, fd, _, fun _ => e1, F, F.binds fun _ _ _ _ _ _ us hl => match us, hl with | [_], _ => rfl⟩, s3, c3⟩
    | 4, e => cases e; obtain ⟨f, fd, e1, F⟩ := D4.mk' X G; exact ⟨st 6, ⟨f, fd, _, fun _ => e1, F, F.binds fun _ _ _ _ _ _ us hl => match us, hl with | [_], _ => rfl⟩, s4, c4⟩
    | 5, e => cases e; obtain ⟨f, fd, e1, F⟩ := D5.mk' X G; exact ⟨st 8, ⟨f, fd, _, fun _ => e1, F, F.binds fun _ _ _ _ _ _ us hl => match us, hl with | [_], _ => rfl⟩, s5, c5⟩
    | 6, e => cases e; obtain ⟨f, fd, e1, F⟩ := D6.mk' X G; exact ⟨st 9, ⟨f, fd, _, fun _ => e1, F, F.binds fun _ _ _ _ _ _ us hl => match us, hl with | [_, _], _ => rfl⟩, s6, c6⟩
    | 7, e => cases e; obtain ⟨f, fd, e1, F⟩ := D7.mk' X G; exact ⟨st 10, ⟨f, fd, _, fun _ => e1, F, F.binds fun _ _ _ _ _ _ us hl => match us, hl with | [_, _], _ => rfl⟩, s7, c7⟩
    | 8, e => cases e; obtain ⟨f, fd, e1, F⟩ := D8.mk' X G; exact ⟨st 11, ⟨f, fd, _, fun _ => e1, F, F.binds fun _ _ _ _ _ _ us hl => match us, hl with | [_], _ => rfl⟩, s8, c8⟩
    | 9, e => cases e; obtain ⟨f, fd, e1, F⟩ := D9.mk' X G; exact ⟨st 12, ⟨f, fd, _, fun _ => e1, F, F.binds fun _ _ _ _ _ _ us hl => match us, hl with | [_, _], _ => rfl⟩, s9, c9⟩
    | 10, e => cases e; obtain ⟨f, fd, e1, F⟩ := D10.mk' X G; exact ⟨st 13, ⟨f, fd, _, fun _ => e1, F, F.binds fun _ _ _ _ _ _ us hl => match us, hl with | [_, _, _], _ => rfl⟩, s10, c10⟩
    | 11, e => cases e; obtain ⟨f, fd, e1, F⟩ := D11.mk' X G; exact ⟨st 14, ⟨f, fd, _, fun _ => e1, F, F.binds fun _ _ _ _ _ _ us hl => match us, hl with | [_, _, _, _, _], _ => rfl⟩, s11, c11⟩
    | 12, e => cases e; obtain ⟨f, fd, e1, F⟩ := D12.mk' X G; exact ⟨st 15, ⟨f, fd, _, fun _ => e1, F, F.binds fun _ _ _ _ _ _ us hl => match us, hl with | [_, _, _], _ => rfl⟩, s12, c12⟩
    | 13, e => cases e; obtain ⟨f, fd, e1, F⟩ := D13.mk' X G; exact ⟨st 16, ⟨f, fd, _, fun _ => e1, F, F.binds fun _ _ _ _ _ _ us hl => match us, hl with | [_], _ => rfl⟩, s13, c13⟩
    | 14, e => cases e; obtain ⟨f, fd, e1, F⟩ := D14.mk' X G; exact ⟨st 17, ⟨f, fd, _, fun _ => e1, F, F.binds fun _ _ _ _ _ _ us hl => match us, hl with | [_], _ => rfl⟩, s14, c14⟩
    | 15, e => cases e; obtain ⟨f, fd, e1, F⟩ := D15.mk' X G; exact ⟨st 18, ⟨f, fd, _, fun _ => e1, F, F.binds fun _ _ _ _ _ _ us hl => match us, hl with | [_], _ => rfl⟩, s15, c15⟩
    | 16, e => cases e; obtain ⟨f, fd, e1, F⟩ := D16.mk' X G; exact ⟨st 19, ⟨f, fd, _, fun _ => e1, F, F.binds fun _ _ _ _ _ _ us hl => match us, hl with | [_], _ => rfl⟩, s16, c16⟩
    | 17, e => cases e; obtain ⟨f, fd, e1, F⟩ := D17.mk' X G; exact ⟨st 20, ⟨f, fd, _, fun _ => e1, F, F.binds fun _ _ _ _ _ _ us hl => match us, hl with | [_], _ => rfl⟩, s17, c17⟩
    | n + 18, e => cases e
end
end Qk58

namespace Qk58
open PySem DL L2
section
variable {n : Nat} {h : DH} {Q : QD} {E : XD}
theorem drw {F : Addr} {o : DO} {B m : Int} (e : h F = some o) (f : Fl B o) (m0 : 0 < m) (m1 : m < 1073741824) (hB : B ≤ 1000000) (q : ∀ d o', 0 ≤ d → d < m → Fl (B + 1) o' → Q (.int d) (up h F o')) : run gl ds (n + 1) 6 [.ref F, .int m] h Q E := by
  refine e6 ?_
  obtain ⟨c, a, l, rfl, hc, a0, a1, l0⟩ := f
  ((try simp only [SXQ, Mtd.ty, isTy, DL.isNon, CFdiv, asKey, Nat.reduceAdd, Nat.reduceLeDiff, Nat.reduceLT, Int.reduceLT, Int.reduceNeg, Int.reduceToNat, ↓reduceIte, String.reduceBEq, Nat.reduceBEq, beq_self_eq_true]); rw [ss_cons]; simp only [SXQ, Mtd.ty, isTy, DL.isNon, CFdiv, asKey, Nat.reduceAdd, Nat.reduceLeDiff, Nat.reduceLT, Int.reduceLT, Int.reduceNeg, Int.reduceToNat, ↓reduceIte, String.reduceBEq, Nat.reduceBEq, beq_self_eq_true, e])
  refine dec_ite (fun hl => ?_) fun hl => ?_
  · ((try simp only [SXQ, Mtd.ty, isTy, DL.isNon, CFdiv, asKey, Nat.reduceAdd, Nat.reduceLeDiff, Nat.reduceLT, Int.reduceLT, Int.reduceNeg, Int.reduceToNat, ↓reduceIte, String.reduceBEq, Nat.reduceBEq, beq_self_eq_true]); rw [ss_cons]; simp only [SXQ, Mtd.ty, isTy, DL.isNon, CFdiv, asKey, Nat.reduceAdd, Nat.reduceLeDiff, Nat.reduceLT, Int.reduceLT, Int.reduceNeg, Int.reduceToNat, ↓reduceIte, String.reduceBEq, Nat.reduceBEq, beq_self_eq_true, e])
    refine ⟨m0, ?_⟩
    ((try simp only [SXQ, Mtd.ty, isTy, DL.isNon, CFdiv, asKey, Nat.reduceAdd, Nat.reduceLeDiff, Nat.reduceLT, Int.reduceLT, Int.reduceNeg, Int.reduceToNat, ↓reduceIte, String.reduceBEq, Nat.reduceBEq, beq_self_eq_true]); rw [ss_cons]; simp only [SXQ, Mtd.ty, isTy, DL.isNon, CFdiv, asKey, Nat.reduceAdd, Nat.reduceLeDiff, Nat.reduceLT, Int.reduceLT, Int.reduceNeg, Int.reduceToNat, ↓reduceIte, String.reduceBEq, Nat.reduceBEq, beq_self_eq_true, e, ixN_2])
    refine ⟨⟨by omega, by omega⟩, ?_⟩
    ((try simp only [SXQ, Mtd.ty, isTy, DL.isNon, CFdiv, asKey, Nat.reduceAdd, Nat.reduceLeDiff, Nat.reduceLT, Int.reduceLT, Int.reduceNeg, Int.reduceToNat, ↓reduceIte, String.reduceBEq, Nat.reduceBEq, beq_self_eq_true]); rw [ss_cons]; simp only [SXQ, Mtd.ty, isTy, DL.isNon, CFdiv, asKey, Nat.reduceAdd, Nat.reduceLeDiff, Nat.reduceLT, Int.reduceLT, Int.reduceNeg, Int.reduceToNat, ↓reduceIte, String.reduceBEq, Nat.reduceBEq, beq_self_eq_true, e, ixN_2])
    exact q _ _ (Int.emod_nonneg _ (by omega)) (Int.emod_lt_of_pos _ m0) ⟨c, a, _, rfl, hc, a0, by omega, Int.ediv_nonneg l0 (by omega)⟩
  · ((try simp only [SXQ, Mtd.ty, isTy, DL.isNon, CFdiv, asKey, Nat.reduceAdd, Nat.reduceLeDiff, Nat.reduceLT, Int.reduceLT, Int.reduceNeg, Int.reduceToNat, ↓reduceIte, String.reduceBEq, Nat.reduceBEq, beq_self_eq_true]); rw [ss_nil])
    ((try simp only [SXQ, Mtd.ty, isTy, DL.isNon, CFdiv, asKey, Nat.reduceAdd, Nat.reduceLeDiff, Nat.reduceLT, Int.reduceLT, Int.reduceNeg, Int.reduceToNat, ↓reduceIte, String.reduceBEq, Nat.reduceBEq, beq_self_eq_true]); rw [ss_cons]; simp only [SXQ, Mtd.ty, isTy, DL.isNon, CFdiv, asKey, Nat.reduceAdd, Nat.reduceLeDiff, Nat.reduceLT, Int.reduceLT, Int.reduceNeg, Int.reduceToNat, ↓reduceIte, String.reduceBEq, Nat.reduceBEq, beq_self_eq_true])
    ((try simp only [SXQ, Mtd.ty, isTy, DL.isNon, CFdiv, asKey, Nat.reduceAdd, Nat.reduceLeDiff, Nat.reduceLT, Int.reduceLT, Int.reduceNeg, Int.reduceToNat, ↓reduceIte, String.reduceBEq, Nat.reduceBEq, beq_self_eq_true]); rw [ss_cons]; simp only [SXQ, Mtd.ty, isTy, DL.isNon, CFdiv, asKey, Nat.reduceAdd, Nat.reduceLeDiff, Nat.reduceLT, Int.reduceLT, Int.reduceNeg, Int.reduceToNat, ↓reduceIte, String.reduceBEq, Nat.reduceBEq, beq_self_eq_true, e])
    ((try simp only [SXQ, Mtd.ty, isTy, DL.isNon, CFdiv, asKey, Nat.reduceAdd, Nat.reduceLeDiff, Nat.reduceLT, Int.reduceLT, Int.reduceNeg, Int.reduceToNat, ↓reduceIte, String.reduceBEq, Nat.reduceBEq, beq_self_eq_true]); rw [ss_cons]; simp only [SXQ, Mtd.ty, isTy, DL.isNon, CFdiv, asKey, Nat.reduceAdd, Nat.reduceLeDiff, Nat.reduceLT, Int.reduceLT, Int.reduceNeg, Int.reduceToNat, ↓reduceIte, String.reduceBEq, Nat.reduceBEq, beq_self_eq_true, e, ixN_1])
    ((try simp only [SXQ, Mtd.ty, isTy, DL.isNon, CFdiv, asKey, Nat.reduceAdd, Nat.reduceLeDiff, Nat.reduceLT, Int.reduceLT, Int.reduceNeg, Int.reduceToNat, ↓reduceIte, String.reduceBEq, Nat.reduceBEq, beq_self_eq_true]); rw [ss_cons]; simp only [SXQ, Mtd.ty, isTy, DL.isNon, CFdiv, asKey, Nat.reduceAdd, Nat.reduceLeDiff, Nat.reduceLT, Int.reduceLT, Int.reduceNeg, Int.reduceToNat, ↓reduceIte, String.reduceBEq, Nat.reduceBEq, beq_self_eq_true])
    ((try simp only [SXQ, Mtd.ty, isTy, DL.isNon, CFdiv, asKey, Nat.reduceAdd, Nat.reduceLeDiff, Nat.reduceLT, Int.reduceLT, Int.reduceNeg, Int.reduceToNat, ↓reduceIte, String.reduceBEq, Nat.reduceBEq, beq_self_eq_true]); rw [ss_cons]; simp only [SXQ, Mtd.ty, isTy, DL.isNon, CFdiv, asKey, Nat.reduceAdd, Nat.reduceLeDiff, Nat.reduceLT, Int.reduceLT, Int.reduceNeg, Int.reduceToNat, ↓reduceIte, String.reduceBEq, Nat.reduceBEq, beq_self_eq_true])
    refine eq_w c [] ?_
    have rest : ∀ cell : Int, wSs gl (DL.run gl ds n) Q (fun x _ h' => E x h') b6_6 [some (.ref F), some (.int m), none, some (.int a), some (.int cell), none, none, none] (up h F (.lst [.fl (c.map Dt.d), .int (a + 1), .int l])) fun _ h' => Q .non h' := by
      intro cell
      have tail : wSs gl (DL.run gl ds n) Q (fun x _ h' => E x h') b6_7 [some (.ref F), some (.int m), none, some (.int a), some (.int cell), none, none, none] (up h F (.lst [.fl (c.map Dt.d), .int (a + 1), .int l])) fun _ h' => Q .non h' := by
        have pr : ∀ x ∈ ([2147483647, 2147483629, 2147483587, 2147483579, 2147483563] : List Int), 0 < x ∧ x < 2147483648 := by decide
        ((try simp only [SXQ, Mtd.ty, isTy, DL.isNon, CFdiv, asKey, Nat.reduceAdd, Nat.reduceLeDiff, Nat.reduceLT, Int.reduceLT, Int.reduceNeg, Int.reduceToNat, ↓reduceIte, String.reduceBEq, Nat.reduceBEq, beq_self_eq_true]); rw [ss_cons]; simp only [SXQ, Mtd.ty, isTy, DL.isNon, CFdiv, asKey, Nat.reduceAdd, Nat.reduceLeDiff, Nat.reduceLT, Int.reduceLT, Int.reduceNeg, Int.reduceToNat, ↓reduceIte, String.reduceBEq, Nat.reduceBEq, beq_self_eq_true])
        ((try simp only [SXQ, Mtd.ty, isTy, DL.isNon, CFdiv, asKey, Nat.reduceAdd, Nat.reduceLeDiff, Nat.reduceLT, Int.reduceLT, Int.reduceNeg, Int.reduceToNat, ↓reduceIte, String.reduceBEq, Nat.reduceBEq, beq_self_eq_true]); rw [ss_cons]; simp only [SXQ, Mtd.ty, isTy, DL.isNon, CFdiv, asKey, Nat.reduceAdd, Nat.reduceLeDiff, Nat.reduceLT, Int.reduceLT, Int.reduceNeg, Int.reduceToNat, ↓reduceIte, String.reduceBEq, Nat.reduceBEq, beq_self_eq_true])
        refine at_v (f := D.int) (xs := [2147483647, 2147483629, 2147483587, 2147483579, 2147483563]) (Int.emod_nonneg _ (by decide)) (Int.emod_lt_of_pos _ (by decide)) fun x hx _ => ?_
        obtain ⟨x0, x1⟩ := pr x hx
        ((try simp only [SXQ, Mtd.ty, isTy, DL.isNon, CFdiv, asKey, Nat.reduceAdd, Nat.reduceLeDiff, Nat.reduceLT, Int.reduceLT, Int.reduceNeg, Int.reduceToNat, ↓reduceIte, String.reduceBEq, Nat.reduceBEq, beq_self_eq_true]); rw [ss_cons]; simp only [SXQ, Mtd.ty, isTy, DL.isNon, CFdiv, asKey, Nat.reduceAdd, Nat.reduceLeDiff, Nat.reduceLT, Int.reduceLT, Int.reduceNeg, Int.reduceToNat, ↓reduceIte, String.reduceBEq, Nat.reduceBEq, beq_self_eq_true])
        have b1 := Int.emod_nonneg cell (b := x) (by omega)
        have b2 := Int.emod_lt_of_pos cell x0
        have b3 : 0 ≤ a := a0
        refine ⟨x0, by unfold CMul; omega, by unfold CMul; omega, by unfold CMul; omega, by unfold CMul; omega, x0, ?_⟩
        generalize hy : (cell % x * 48271 + 7919 * a * a + 69621 * a + 1) % x = y
        have y0 : 0 ≤ y := by rw [← hy]; exact Int.emod_nonneg _ (by omega)
        have y1 : y < 2147483648 := by rw [← hy]; exact Int.lt_trans (Int.emod_lt_of_pos _ x0) x1
        ((try simp only [SXQ, Mtd.ty, isTy, DL.isNon, CFdiv, asKey, Nat.reduceAdd, Nat.reduceLeDiff, Nat.reduceLT, Int.reduceLT, Int.reduceNeg, Int.reduceToNat, ↓reduceIte, String.reduceBEq, Nat.reduceBEq, beq_self_eq_true]); rw [ss_cons]; simp only [SXQ, Mtd.ty, isTy, DL.isNon, CFdiv, asKey, Nat.reduceAdd, Nat.reduceLeDiff, Nat.reduceLT, Int.reduceLT, Int.reduceNeg, Int.reduceToNat, ↓reduceIte, String.reduceBEq, Nat.reduceBEq, beq_self_eq_true])
        refine ⟨by unfold CMul; omega, ?_⟩
        refine at_v (f := D.int) (xs := [2147483647, 2147483629, 2147483587, 2147483579, 2147483563]) (Int.emod_nonneg _ (by decide)) (Int.emod_lt_of_pos _ (by decide)) fun z hz _ => ?_
        obtain ⟨z0, z1⟩ := pr z hz
        (try simp only [SXQ, Mtd.ty, isTy, DL.isNon, CFdiv, asKey, Nat.reduceAdd, Nat.reduceLeDiff, Nat.reduceLT, Int.reduceLT, Int.reduceNeg, Int.reduceToNat, ↓reduceIte, String.reduceBEq, Nat.reduceBEq, beq_self_eq_true])
        refine ⟨z0, ?_⟩
        generalize hw : y * (y + 16807) % z = w
        have w0 : 0 ≤ w := by rw [← hw]; exact Int.emod_nonneg _ (by omega)
        have w1 : w < 2147483648 := by rw [← hw]; exact Int.lt_trans (Int.emod_lt_of_pos _ z0) z1
        ((try simp only [SXQ, Mtd.ty, isTy, DL.isNon, CFdiv, asKey, Nat.reduceAdd, Nat.reduceLeDiff, Nat.reduceLT, Int.reduceLT, Int.reduceNeg, Int.reduceToNat, ↓reduceIte, String.reduceBEq, Nat.reduceBEq, beq_self_eq_true]); rw [ss_cons]; simp only [SXQ, Mtd.ty, isTy, DL.isNon, CFdiv, asKey, Nat.reduceAdd, Nat.reduceLeDiff, Nat.reduceLT, Int.reduceLT, Int.reduceNeg, Int.reduceToNat, ↓reduceIte, String.reduceBEq, Nat.reduceBEq, beq_self_eq_true])
        refine ⟨by unfold CMul; omega, ?_⟩
        refine ⟨m0, ?_⟩
        exact q _ _ (Int.emod_nonneg _ (by omega)) (Int.emod_lt_of_pos _ m0) ⟨c, _, _, rfl, hc, by omega, by omega, l0⟩
      ((try simp only [SXQ, Mtd.ty, isTy, DL.isNon, CFdiv, asKey, Nat.reduceAdd, Nat.reduceLeDiff, Nat.reduceLT, Int.reduceLT, Int.reduceNeg, Int.reduceToNat, ↓reduceIte, String.reduceBEq, Nat.reduceBEq, beq_self_eq_true]); rw [ss_cons]; simp only [SXQ, Mtd.ty, isTy, DL.isNon, CFdiv, asKey, Nat.reduceAdd, Nat.reduceLeDiff, Nat.reduceLT, Int.reduceLT, Int.reduceNeg, Int.reduceToNat, ↓reduceIte, String.reduceBEq, Nat.reduceBEq, beq_self_eq_true])
      refine ⟨⟨by decide, by decide, by decide⟩, ?_⟩
      refine dec_ite (fun g1 => ?_) fun g1 => ?_
      · refine dec_ite (fun g2 => ?_) fun g2 => ?_
        · have g9 : 0 ≤ cell - (10 : Int) ^ 18 := by omega
          ((try simp only [SXQ, Mtd.ty, isTy, DL.isNon, CFdiv, asKey, Nat.reduceAdd, Nat.reduceLeDiff, Nat.reduceLT, Int.reduceLT, Int.reduceNeg, Int.reduceToNat, ↓reduceIte, String.reduceBEq, Nat.reduceBEq, beq_self_eq_true]); rw [ss_cons]; simp only [SXQ, Mtd.ty, isTy, DL.isNon, CFdiv, asKey, Nat.reduceAdd, Nat.reduceLeDiff, Nat.reduceLT, Int.reduceLT, Int.reduceNeg, Int.reduceToNat, ↓reduceIte, String.reduceBEq, Nat.reduceBEq, beq_self_eq_true, ixN_2])
          refine ⟨⟨by decide, by decide, by decide⟩, ?_⟩
          refine ⟨⟨by omega, by omega⟩, ?_⟩
          ((try simp only [SXQ, Mtd.ty, isTy, DL.isNon, CFdiv, asKey, Nat.reduceAdd, Nat.reduceLeDiff, Nat.reduceLT, Int.reduceLT, Int.reduceNeg, Int.reduceToNat, ↓reduceIte, String.reduceBEq, Nat.reduceBEq, beq_self_eq_true]); rw [ss_cons]; simp only [SXQ, Mtd.ty, isTy, DL.isNon, CFdiv, asKey, Nat.reduceAdd, Nat.reduceLeDiff, Nat.reduceLT, Int.reduceLT, Int.reduceNeg, Int.reduceToNat, ↓reduceIte, String.reduceBEq, Nat.reduceBEq, beq_self_eq_true])
          refine ⟨⟨by decide, by decide, by decide⟩, ?_⟩
          refine ⟨m0, ?_⟩
          exact q _ _ (Int.emod_nonneg _ (by omega)) (Int.emod_lt_of_pos _ m0) ⟨c, _, _, rfl, hc, by omega, by omega, Int.ediv_nonneg g9 (by omega)⟩
        · ((try simp only [SXQ, Mtd.ty, isTy, DL.isNon, CFdiv, asKey, Nat.reduceAdd, Nat.reduceLeDiff, Nat.reduceLT, Int.reduceLT, Int.reduceNeg, Int.reduceToNat, ↓reduceIte, String.reduceBEq, Nat.reduceBEq, beq_self_eq_true]); rw [ss_nil])
          exact tail
      · ((try simp only [SXQ, Mtd.ty, isTy, DL.isNon, CFdiv, asKey, Nat.reduceAdd, Nat.reduceLeDiff, Nat.reduceLT, Int.reduceLT, Int.reduceNeg, Int.reduceToNat, ↓reduceIte, String.reduceBEq, Nat.reduceBEq, beq_self_eq_true]); rw [ss_nil])
        exact tail
    by_cases g : c = []
    · simp only [g, decide_true]
      subst g
      (try simp only [SXQ, Mtd.ty, isTy, DL.isNon, CFdiv, asKey, Nat.reduceAdd, Nat.reduceLeDiff, Nat.reduceLT, Int.reduceLT, Int.reduceNeg, Int.reduceToNat, ↓reduceIte, String.reduceBEq, Nat.reduceBEq, beq_self_eq_true])
      ((try simp only [SXQ, Mtd.ty, isTy, DL.isNon, CFdiv, asKey, Nat.reduceAdd, Nat.reduceLeDiff, Nat.reduceLT, Int.reduceLT, Int.reduceNeg, Int.reduceToNat, ↓reduceIte, String.reduceBEq, Nat.reduceBEq, beq_self_eq_true]); rw [ss_nil])
      exact rest _
    · simp only [g, decide_false]
      (try simp only [SXQ, Mtd.ty, isTy, DL.isNon, CFdiv, asKey, Nat.reduceAdd, Nat.reduceLeDiff, Nat.reduceLT, Int.reduceLT, Int.reduceNeg, Int.reduceToNat, ↓reduceIte, String.reduceBEq, Nat.reduceBEq, beq_self_eq_true])
      have cl : 0 < c.length := List.length_pos_iff.mpr g
      ((try simp only [SXQ, Mtd.ty, isTy, DL.isNon, CFdiv, asKey, Nat.reduceAdd, Nat.reduceLeDiff, Nat.reduceLT, Int.reduceLT, Int.reduceNeg, Int.reduceToNat, ↓reduceIte, String.reduceBEq, Nat.reduceBEq, beq_self_eq_true]); rw [ss_cons]; simp only [SXQ, Mtd.ty, isTy, DL.isNon, CFdiv, asKey, Nat.reduceAdd, Nat.reduceLeDiff, Nat.reduceLT, Int.reduceLT, Int.reduceNeg, Int.reduceToNat, ↓reduceIte, String.reduceBEq, Nat.reduceBEq, beq_self_eq_true, List.length_map])
      refine ⟨by omega, ?_⟩
      refine at_v (Int.emod_nonneg _ (by omega)) (Int.emod_lt_of_pos _ (by omega)) fun x _ _ => ?_
      (try simp only [SXQ, Mtd.ty, isTy, DL.isNon, CFdiv, asKey, Nat.reduceAdd, Nat.reduceLeDiff, Nat.reduceLT, Int.reduceLT, Int.reduceNeg, Int.reduceToNat, ↓reduceIte, String.reduceBEq, Nat.reduceBEq, beq_self_eq_true])
      ((try simp only [SXQ, Mtd.ty, isTy, DL.isNon, CFdiv, asKey, Nat.reduceAdd, Nat.reduceLeDiff, Nat.reduceLT, Int.reduceLT, Int.reduceNeg, Int.reduceToNat, ↓reduceIte, String.reduceBEq, Nat.reduceBEq, beq_self_eq_true]); rw [ss_nil])
      exact rest _
theorem feed_ (ns : List Int) (hn : ns.length ≤ 63) (q : ∀ F o, h F = none → Fl 0 o → Q (.ref F) (up h F o)) : run gl ds (n + 1) 5 [.fl (ns.map .int)] h Q E := by
  refine e5 ?_
  ((try simp only [SXQ, Mtd.ty, isTy, DL.isNon, CFdiv, asKey, Nat.reduceAdd, Nat.reduceLeDiff, Nat.reduceLT, Int.reduceLT, Int.reduceNeg, Int.reduceToNat, ↓reduceIte, String.reduceBEq, Nat.reduceBEq, beq_self_eq_true]); rw [ss_cons]; simp only [SXQ, Mtd.ty, isTy, DL.isNon, CFdiv, asKey, Nat.reduceAdd, Nat.reduceLeDiff, Nat.reduceLT, Int.reduceLT, Int.reduceNeg, Int.reduceToNat, ↓reduceIte, String.reduceBEq, Nat.reduceBEq, beq_self_eq_true])
  intro F nF
  (try simp only [SXQ, Mtd.ty, isTy, DL.isNon, CFdiv, asKey, Nat.reduceAdd, Nat.reduceLeDiff, Nat.reduceLT, Int.reduceLT, Int.reduceNeg, Int.reduceToNat, ↓reduceIte, String.reduceBEq, Nat.reduceBEq, beq_self_eq_true])
  refine q F _ nF ⟨ns, 0, 0, ?_, hn, by omega, by omega, by omega⟩
  have : cutD (List.map D.int ns) none (some 63) = ns.map D.int := by
    rw [cut_whole]
    refine ⟨rfl, ?_⟩
    show min 63 _ = _
    rw [List.length_map]
    omega
  rw [this]
  rfl
theorem of_ {α : Type} {f : α → D} {F : Addr} {o : DO} {B : Int} (xs : List α) (e : h F = some o) (f0 : Fl B o) (x0 : 0 < xs.length) (x1 : xs.length < 1000000) (hB : B ≤ 1000000) (q : ∀ x o', x ∈ xs → Fl (B + 1) o' → Q (f x) (up h F o')) : run gl ds (n + 2) 7 [.ref F, .fl (xs.map f)] h Q E := by
  refine e7 ?_
  ((try simp only [SXQ, Mtd.ty, isTy, DL.isNon, CFdiv, asKey, Nat.reduceAdd, Nat.reduceLeDiff, Nat.reduceLT, Int.reduceLT, Int.reduceNeg, Int.reduceToNat, ↓reduceIte, String.reduceBEq, Nat.reduceBEq, beq_self_eq_true]); rw [ss_cons]; simp only [SXQ, Mtd.ty, isTy, DL.isNon, CFdiv, asKey, Nat.reduceAdd, Nat.reduceLeDiff, Nat.reduceLT, Int.reduceLT, Int.reduceNeg, Int.reduceToNat, ↓reduceIte, String.reduceBEq, Nat.reduceBEq, beq_self_eq_true, List.length_map])
  refine drw e f0 (by omega) (by omega) hB fun d o' d0 d1 f1 => ?_
  (try simp only [SXQ, Mtd.ty, isTy, DL.isNon, CFdiv, asKey, Nat.reduceAdd, Nat.reduceLeDiff, Nat.reduceLT, Int.reduceLT, Int.reduceNeg, Int.reduceToNat, ↓reduceIte, String.reduceBEq, Nat.reduceBEq, beq_self_eq_true])
  exact at_v d0 d1 fun x hx _ => q x o' hx f1
end
end Qk58

namespace Qk58
open PySem DL L2
/-- plain names, none too long -/
def NmOk (x : Str) : Prop := asc x ∧ x.length ≤ 24
theorem sign_t {a y : Str} {at' : Int} {c : Nat} (h0 : 0 ≤ at') (h1 : at' ≤ a.length) : (cutS a none (some at') ++ ⟨#[c]⟩ ++ y).cps.toList[at'.toNat]? = some c := by
  have e : (cutS a none (some at')).cps.toList = a.cps.toList.take at'.toNat := by rw [cutS_l, cut_hi h0]
  have l : (a.cps.toList.take at'.toNat).length = at'.toNat := by
    rw [List.length_take, Array.length_toList]
    have : a.length = a.cps.size := rfl
    omega
  have e2 : (cutS a none (some at') ++ ⟨#[c]⟩ ++ y).cps.toList = (a.cps.toList.take at'.toNat ++ c :: y.cps.toList) := by
    rw [tx_cps_app, tx_cps_app, Array.toList_append, Array.toList_append, e]
    simp
  rw [e2, List.getElem?_append_right (by omega), l]
  simp
theorem sg_nt {b s : Int} (hs : s ∈ ([1, 3, 5, 7, 9, 11, 15, 17, 19, 21, 23, 25] : List Int)) : ((irg 0 12).map fun j => some (97 + ((b + s * j) % 26).toNat)).Nodup := by
  refine List.pairwise_map.mpr ((show (irg 0 12).Pairwise (· < ·) by decide).imp_of_mem fun {i j} hi hj ne e => ?_)
  have bd : ∀ x ∈ irg 0 12, 0 ≤ x ∧ x < 12 := by decide
  have hi := bd i hi
  have hj := bd j hj
  have e : 97 + ((b + s * i) % 26).toNat = 97 + ((b + s * j) % 26).toNat := Option.some.inj e
  simp only [List.mem_cons, List.not_mem_nil, or_false] at hs
  rcases hs with rfl | rfl | rfl | rfl | rfl | rfl | rfl | rfl | rfl | rfl | rfl | rfl <;> omega
section
variable {n : Nat} {h : DH} {Q : QD} {E : XD}
theorem names_ {F : Addr} {o : DO} {B : Int} (e : h F = some o) (f : Fl B o) (hB : B ≤ 900000) (q : ∀ (N : List Str) o', N.length = 12 → N.Nodup → (∀ x ∈ N, NmOk x) → Fl (B + 40) o' → al false (.lst (N.map Dt.d)) (up h F o') Q) : run gl ds (n + 2) 8 [.ref F] h Q E := by
  have asl : asc "abcdefghijklmnopqrstuvwxyz" := by unfold asc; decide
  refine e8 ?_
  ((try simp only [SXQ, Mtd.ty, isTy, DL.isNon, CFdiv, asKey, Nat.reduceAdd, Nat.reduceLeDiff, Nat.reduceLT, Int.reduceLT, Int.reduceNeg, Int.reduceToNat, ↓reduceIte, String.reduceBEq, Nat.reduceBEq, beq_self_eq_true]); rw [ss_cons]; simp only [SXQ, Mtd.ty, isTy, DL.isNon, CFdiv, asKey, Nat.reduceAdd, Nat.reduceLeDiff, Nat.reduceLT, Int.reduceLT, Int.reduceNeg, Int.reduceToNat, ↓reduceIte, String.reduceBEq, Nat.reduceBEq, beq_self_eq_true])
  ((try simp only [SXQ, Mtd.ty, isTy, DL.isNon, CFdiv, asKey, Nat.reduceAdd, Nat.reduceLeDiff, Nat.reduceLT, Int.reduceLT, Int.reduceNeg, Int.reduceToNat, ↓reduceIte, String.reduceBEq, Nat.reduceBEq, beq_self_eq_true]); rw [ss_cons]; simp only [SXQ, Mtd.ty, isTy, DL.isNon, CFdiv, asKey, Nat.reduceAdd, Nat.reduceLeDiff, Nat.reduceLT, Int.reduceLT, Int.reduceNeg, Int.reduceToNat, ↓reduceIte, String.reduceBEq, Nat.reduceBEq, beq_self_eq_true])
  refine drw e f (by decide) (by decide) (by omega) fun t o1 t0 t1 f1 => ?_
  ((try simp only [SXQ, Mtd.ty, isTy, DL.isNon, CFdiv, asKey, Nat.reduceAdd, Nat.reduceLeDiff, Nat.reduceLT, Int.reduceLT, Int.reduceNeg, Int.reduceToNat, ↓reduceIte, String.reduceBEq, Nat.reduceBEq, beq_self_eq_true]); rw [ss_cons]; simp only [SXQ, Mtd.ty, isTy, DL.isNon, CFdiv, asKey, Nat.reduceAdd, Nat.reduceLeDiff, Nat.reduceLT, Int.reduceLT, Int.reduceNeg, Int.reduceToNat, ↓reduceIte, String.reduceBEq, Nat.reduceBEq, beq_self_eq_true])
  refine drw up_at f1 (by decide) (by decide) (by omega) fun w o2 w0 w1 f2 => ?_
  (try simp only [SXQ, Mtd.ty, isTy, DL.isNon, CFdiv, asKey, Nat.reduceAdd, Nat.reduceLeDiff, Nat.reduceLT, Int.reduceLT, Int.reduceNeg, Int.reduceToNat, ↓reduceIte, String.reduceBEq, Nat.reduceBEq, beq_self_eq_true])
  refine dec_ite (fun g => ?_) fun g => ?_
  · ((try simp only [SXQ, Mtd.ty, isTy, DL.isNon, CFdiv, asKey, Nat.reduceAdd, Nat.reduceLeDiff, Nat.reduceLT, Int.reduceLT, Int.reduceNeg, Int.reduceToNat, ↓reduceIte, String.reduceBEq, Nat.reduceBEq, beq_self_eq_true]); rw [ss_cons]; simp only [SXQ, Mtd.ty, isTy, DL.isNon, CFdiv, asKey, Nat.reduceAdd, Nat.reduceLeDiff, Nat.reduceLT, Int.reduceLT, Int.reduceNeg, Int.reduceToNat, ↓reduceIte, String.reduceBEq, Nat.reduceBEq, beq_self_eq_true])
    ((try simp only [SXQ, Mtd.ty, isTy, DL.isNon, CFdiv, asKey, Nat.reduceAdd, Nat.reduceLeDiff, Nat.reduceLT, Int.reduceLT, Int.reduceNeg, Int.reduceToNat, ↓reduceIte, String.reduceBEq, Nat.reduceBEq, beq_self_eq_true]); rw [ss_cons]; simp only [SXQ, Mtd.ty, isTy, DL.isNon, CFdiv, asKey, Nat.reduceAdd, Nat.reduceLeDiff, Nat.reduceLT, Int.reduceLT, Int.reduceNeg, Int.reduceToNat, ↓reduceIte, String.reduceBEq, Nat.reduceBEq, beq_self_eq_true])
    have e1 : ∀ lo hi, cutD ([.str "rate", .str "base", .str "rule", .str "clock", .str "days", .str "feast", .str "day", .str "week", .str "a", .str "ab", .str "abcdefgh", .str "z"] : List D) lo hi = (cutA (["rate", "base", "rule", "clock", "days", "feast", "day", "week", "a", "ab", "abcdefgh", "z"] : List Str) lo hi).map Dt.d := fun lo hi => cut_map (f := (Dt.d : Str → D)) (xs := ["rate", "base", "rule", "clock", "days", "feast", "day", "week", "a", "ab", "abcdefgh", "z"])
    have wn : (["rate", "base", "rule", "clock", "days", "feast", "day", "week", "a", "ab", "abcdefgh", "z"] : List Str).Nodup := by decide
    have ok : ∀ x ∈ (["rate", "base", "rule", "clock", "days", "feast", "day", "week", "a", "ab", "abcdefgh", "z"] : List Str), NmOk x := by unfold NmOk asc; decide
    rw [e1, e1, cut_lo t0, cut_hi t0]
    generalize hw : (["rate", "base", "rule", "clock", "days", "feast", "day", "week", "a", "ab", "abcdefgh", "z"] : List Str) = ws at ok wn
    have wl : ws.length = 12 := by rw [← hw]; rfl
    refine ⟨by rw [List.length_map, List.length_map, List.length_drop, List.length_take]; omega, ?_⟩
    rw [← List.map_append]
    refine q _ o2 (by rw [List.length_append, List.length_drop, List.length_take]; omega) ((List.perm_append_comm.trans (List.Perm.of_eq (List.take_append_drop _ _))).nodup_iff.mpr wn) (fun x hx => ?_) (f2.mono (by omega))
    rcases List.mem_append.mp hx with hx | hx
    · exact ok x (List.mem_of_mem_drop hx)
    · exact ok x (List.mem_of_mem_take hx)
  ((try simp only [SXQ, Mtd.ty, isTy, DL.isNon, CFdiv, asKey, Nat.reduceAdd, Nat.reduceLeDiff, Nat.reduceLT, Int.reduceLT, Int.reduceNeg, Int.reduceToNat, ↓reduceIte, String.reduceBEq, Nat.reduceBEq, beq_self_eq_true]); rw [ss_nil])
  ((try simp only [SXQ, Mtd.ty, isTy, DL.isNon, CFdiv, asKey, Nat.reduceAdd, Nat.reduceLeDiff, Nat.reduceLT, Int.reduceLT, Int.reduceNeg, Int.reduceToNat, ↓reduceIte, String.reduceBEq, Nat.reduceBEq, beq_self_eq_true]); rw [ss_cons]; simp only [SXQ, Mtd.ty, isTy, DL.isNon, CFdiv, asKey, Nat.reduceAdd, Nat.reduceLeDiff, Nat.reduceLT, Int.reduceLT, Int.reduceNeg, Int.reduceToNat, ↓reduceIte, String.reduceBEq, Nat.reduceBEq, beq_self_eq_true])
  ((try simp only [SXQ, Mtd.ty, isTy, DL.isNon, CFdiv, asKey, Nat.reduceAdd, Nat.reduceLeDiff, Nat.reduceLT, Int.reduceLT, Int.reduceNeg, Int.reduceToNat, ↓reduceIte, String.reduceBEq, Nat.reduceBEq, beq_self_eq_true]); rw [ss_cons]; simp only [SXQ, Mtd.ty, isTy, DL.isNon, CFdiv, asKey, Nat.reduceAdd, Nat.reduceLeDiff, Nat.reduceLT, Int.reduceLT, Int.reduceNeg, Int.reduceToNat, ↓reduceIte, String.reduceBEq, Nat.reduceBEq, beq_self_eq_true])
  refine drw up_at f2 (by decide) (by decide) (by omega) fun m o3 m0 m1 f3 => ?_
  (try simp only [SXQ, Mtd.ty, isTy, DL.isNon, CFdiv, asKey, Nat.reduceAdd, Nat.reduceLeDiff, Nat.reduceLT, Int.reduceLT, Int.reduceNeg, Int.reduceToNat, ↓reduceIte, String.reduceBEq, Nat.reduceBEq, beq_self_eq_true])
  refine ⟨⟨by omega, by omega⟩, ?_⟩
  refine comp_J (f := D.int) (irg 0 (1 + m - 0).toNat) (fun pre h' acc => ∃ (l : List Str) (o' : DO), l.length = pre.length ∧ (∀ x ∈ l, asc x ∧ x.length = 1) ∧ Fl (B + 3 + pre.length) o' ∧ h' = up h F o' ∧ acc = l.map Dt.d) (fun i _ _ _ _ => next_rg i _) ⟨[], o3, rfl, by simp, f3.mono (by simp; omega), rfl, rfl⟩ (by unfold irg; rw [List.length_map, List.length_range]; omega) ?_ ?_ ?_
  · rintro pre post h acc e ⟨l, o', l1, _, _, _, rfl⟩
    rw [List.length_map, l1]
    exact Nat.le_refl _
  · rintro pre x post h' acc e ⟨l, o', l1, l2, f', rfl, rfl⟩ K k' M km
    have pl : pre.length ≤ 8 := by
      have := congrArg List.length e
      simp [irg] at this
      omega
    (try simp only [SXQ, Mtd.ty, isTy, DL.isNon, CFdiv, asKey, Nat.reduceAdd, Nat.reduceLeDiff, Nat.reduceLT, Int.reduceLT, Int.reduceNeg, Int.reduceToNat, ↓reduceIte, String.reduceBEq, Nat.reduceBEq, beq_self_eq_true])
    refine drw up_at f' (by decide) (by decide) (by omega) fun d o4 d0 d1 f4 => ?_
    (try simp only [SXQ, Mtd.ty, isTy, DL.isNon, CFdiv, asKey, Nat.reduceAdd, Nat.reduceLeDiff, Nat.reduceLT, Int.reduceLT, Int.reduceNeg, Int.reduceToNat, ↓reduceIte, String.reduceBEq, Nat.reduceBEq, beq_self_eq_true])
    refine ⟨by decide, sg_let d0 d1 fun c hc => ?_⟩
    refine M _ _ ⟨l ++ [⟨#[c]⟩], o4, by simp [l1], fun x hx => ?_, f4.mono (by rw [List.length_append, List.length_singleton]; omega), rfl, by rw [List.map_append]; rfl⟩
    rcases List.mem_append.mp hx with hx | hx
    · exact l2 x hx
    · have : x = ⟨#[c]⟩ := by simpa using hx
      rw [this]
      exact ⟨asc_one hc, rfl⟩
  rintro h' acc ⟨l, o', l1, l2, f', rfl, rfl⟩
  have ll : l.length = (1 + m).toNat := by rw [l1]; unfold irg; rw [List.length_map, List.length_range]; omega
  have pl : (irg 0 (1 + m - 0).toNat).length ≤ 8 := by unfold irg; rw [List.length_map, List.length_range]; omega
  (try simp only [SXQ, Mtd.ty, isTy, DL.isNon, CFdiv, asKey, Nat.reduceAdd, Nat.reduceLeDiff, Nat.reduceLT, Int.reduceLT, Int.reduceNeg, Int.reduceToNat, ↓reduceIte, String.reduceBEq, Nat.reduceBEq, beq_self_eq_true])
  refine ms_join l rfl ?_ ?_
  · have := sum_len (m := 1) fun x hx => Nat.le_of_eq (l2 x hx).2
    have e0 : ("" : Str).length = 0 := rfl
    rw [e0]
    omega
  have ba : asc (Str.join "" l) := asc_join asc_nil fun x hx => (l2 x hx).1
  have bl : (Str.join "" l).length = l.length := tx_len_join1 (s := "") rfl fun x hx => (l2 x hx).2
  generalize Str.join "" l = b at ba bl
  ((try simp only [SXQ, Mtd.ty, isTy, DL.isNon, CFdiv, asKey, Nat.reduceAdd, Nat.reduceLeDiff, Nat.reduceLT, Int.reduceLT, Int.reduceNeg, Int.reduceToNat, ↓reduceIte, String.reduceBEq, Nat.reduceBEq, beq_self_eq_true]); rw [ss_cons]; simp only [SXQ, Mtd.ty, isTy, DL.isNon, CFdiv, asKey, Nat.reduceAdd, Nat.reduceLeDiff, Nat.reduceLT, Int.reduceLT, Int.reduceNeg, Int.reduceToNat, ↓reduceIte, String.reduceBEq, Nat.reduceBEq, beq_self_eq_true])
  refine ⟨by omega, ?_⟩
  refine drw up_at f' (by omega) (by omega) (by omega) fun at' o4 a0 a1 f4 => ?_
  (try simp only [SXQ, Mtd.ty, isTy, DL.isNon, CFdiv, asKey, Nat.reduceAdd, Nat.reduceLeDiff, Nat.reduceLT, Int.reduceLT, Int.reduceNeg, Int.reduceToNat, ↓reduceIte, String.reduceBEq, Nat.reduceBEq, beq_self_eq_true])
  refine drw up_at f4 (by decide) (by decide) (by omega) fun fi o5 i0 i1 f5 => ?_
  ((try simp only [SXQ, Mtd.ty, isTy, DL.isNon, CFdiv, asKey, Nat.reduceAdd, Nat.reduceLeDiff, Nat.reduceLT, Int.reduceLT, Int.reduceNeg, Int.reduceToNat, ↓reduceIte, String.reduceBEq, Nat.reduceBEq, beq_self_eq_true]); rw [ss_cons]; simp only [SXQ, Mtd.ty, isTy, DL.isNon, CFdiv, asKey, Nat.reduceAdd, Nat.reduceLeDiff, Nat.reduceLT, Int.reduceLT, Int.reduceNeg, Int.reduceToNat, ↓reduceIte, String.reduceBEq, Nat.reduceBEq, beq_self_eq_true])
  refine at_v (f := D.int) (xs := [1, 3, 5, 7, 9, 11, 15, 17, 19, 21, 23, 25]) t0 t1 fun st hst _ => ?_
  ((try simp only [SXQ, Mtd.ty, isTy, DL.isNon, CFdiv, asKey, Nat.reduceAdd, Nat.reduceLeDiff, Nat.reduceLT, Int.reduceLT, Int.reduceNeg, Int.reduceToNat, ↓reduceIte, String.reduceBEq, Nat.reduceBEq, beq_self_eq_true]); rw [ss_cons]; simp only [SXQ, Mtd.ty, isTy, DL.isNon, CFdiv, asKey, Nat.reduceAdd, Nat.reduceLeDiff, Nat.reduceLT, Int.reduceLT, Int.reduceNeg, Int.reduceToNat, ↓reduceIte, String.reduceBEq, Nat.reduceBEq, beq_self_eq_true])
  refine ⟨⟨by decide, by decide, by decide, by decide⟩, ?_⟩
  refine comp_J (f := D.int) (irg 0 12) (fun pre h' acc => ∃ (l : List Str) (o' : DO), l.length = pre.length ∧ (∀ x ∈ l, asc x ∧ x.length ≤ 8) ∧ Fl (B + 14 + pre.length) o' ∧ h' = up h F o' ∧ acc = l.map Dt.d) (fun i _ _ _ _ => next_rg i _) ⟨[], o5, rfl, by simp, f5.mono (by simp only [List.length_nil]; omega), rfl, rfl⟩ (by decide) ?_ ?_ ?_
  · rintro pre post h acc e ⟨l, o', l1, _, _, _, rfl⟩
    rw [List.length_map, l1]
    exact Nat.le_refl _
  · rintro pre x post h' acc e ⟨l, o', l1, l2, f', rfl, rfl⟩ K k' M km
    have pl : pre.length ≤ 12 := by
      have := congrArg List.length e
      simp [irg] at this
      omega
    (try simp only [SXQ, Mtd.ty, isTy, DL.isNon, CFdiv, asKey, Nat.reduceAdd, Nat.reduceLeDiff, Nat.reduceLT, Int.reduceLT, Int.reduceNeg, Int.reduceToNat, ↓reduceIte, String.reduceBEq, Nat.reduceBEq, beq_self_eq_true])
    refine ⟨by omega, ?_⟩
    refine drw up_at f' (by decide) (by decide) (by omega) fun d o4 d0 d1 f4 => ?_
    (try simp only [SXQ, Mtd.ty, isTy, DL.isNon, CFdiv, asKey, Nat.reduceAdd, Nat.reduceLeDiff, Nat.reduceLT, Int.reduceLT, Int.reduceNeg, Int.reduceToNat, ↓reduceIte, String.reduceBEq, Nat.reduceBEq, beq_self_eq_true])
    have c1 := tx_len_cut (x := b) (lo := some (at' + 1)) (hi := none)
    have c2 := tx_len_cut (x := cutS b (some (at' + 1)) none) (lo := none) (hi := some d)
    refine ⟨by omega, M _ _ ⟨l ++ [cutS (cutS b (some (at' + 1)) none) none (some d)], o4, by simp [l1], fun x hx => ?_, f4.mono (by rw [List.length_append, List.length_singleton]; omega), rfl, by rw [List.map_append]; rfl⟩⟩
    rcases List.mem_append.mp hx with hx | hx
    · exact l2 x hx
    · have : x = cutS (cutS b (some (at' + 1)) none) none (some d) := by simpa using hx
      rw [this]
      exact ⟨asc_cut (asc_cut ba), by omega⟩
  rintro h' acc ⟨en, o6, e1, e2, f6, rfl, rfl⟩
  have el : en.length = 12 := by rw [e1]; rfl
  (try simp only [SXQ, Mtd.ty, isTy, DL.isNon, CFdiv, asKey, Nat.reduceAdd, Nat.reduceLeDiff, Nat.reduceLT, Int.reduceLT, Int.reduceNeg, Int.reduceToNat, ↓reduceIte, String.reduceBEq, Nat.reduceBEq, beq_self_eq_true])
  ((try simp only [SXQ, Mtd.ty, isTy, DL.isNon, CFdiv, asKey, Nat.reduceAdd, Nat.reduceLeDiff, Nat.reduceLT, Int.reduceLT, Int.reduceNeg, Int.reduceToNat, ↓reduceIte, String.reduceBEq, Nat.reduceBEq, beq_self_eq_true]); rw [ss_cons]; simp only [SXQ, Mtd.ty, isTy, DL.isNon, CFdiv, asKey, Nat.reduceAdd, Nat.reduceLeDiff, Nat.reduceLT, Int.reduceLT, Int.reduceNeg, Int.reduceToNat, ↓reduceIte, String.reduceBEq, Nat.reduceBEq, beq_self_eq_true])
  refine ⟨⟨by decide, by decide, by decide, by decide⟩, ?_⟩
  refine comp_J (f := D.int) (irg 0 12) (fun pre h' acc => ∃ (l : List Str), l.length = pre.length ∧ l.map (fun x => x.cps.toList[at'.toNat]?) = pre.map (fun j => some (97 + ((fi + st * j) % 26).toNat)) ∧ (∀ x ∈ l, NmOk x) ∧ h' = up h F o6 ∧ acc = l.map Dt.d) (fun i _ _ _ _ => next_rg i _) ⟨[], rfl, rfl, by simp, rfl, rfl⟩ (by decide) ?_ ?_ ?_
  · rintro pre post h acc e ⟨l, l1, _, _, _, rfl⟩
    rw [List.length_map, l1]
    exact Nat.le_refl _
  · rintro pre x post h' acc e ⟨l, l1, lm, l2, rfl, rfl⟩ K k' M km
    have hx : 0 ≤ x ∧ x < 12 := by
      have : x ∈ irg 0 12 := by rw [e]; simp
      unfold irg at this
      obtain ⟨i, hi, rfl⟩ := List.mem_map.mp this
      have := List.mem_range.mp hi
      omega
    (try simp only [SXQ, Mtd.ty, isTy, DL.isNon, CFdiv, asKey, Nat.reduceAdd, Nat.reduceLeDiff, Nat.reduceLT, Int.reduceLT, Int.reduceNeg, Int.reduceToNat, ↓reduceIte, String.reduceBEq, Nat.reduceBEq, beq_self_eq_true])
    have c1 := tx_len_cut (x := b) (lo := none) (hi := some at')
    refine ⟨by omega, ⟨by unfold CMul; omega, by decide, sg_let_n (Int.emod_nonneg _ (by decide)) (Int.emod_lt_of_pos _ (by decide)) ?_⟩⟩
    have hc : 97 + ((fi + st * x) % 26).toNat < 128 := by
      have := Int.emod_lt_of_pos (fi + st * x) (b := 26) (by decide)
      omega
    generalize hcc : 97 + ((fi + st * x) % 26).toNat = c at hc ⊢
    (try simp only [SXQ, Mtd.ty, isTy, DL.isNon, CFdiv, asKey, Nat.reduceAdd, Nat.reduceLeDiff, Nat.reduceLT, Int.reduceLT, Int.reduceNeg, Int.reduceToNat, ↓reduceIte, String.reduceBEq, Nat.reduceBEq, beq_self_eq_true])
    have cl : ((⟨#[c]⟩ : Str)).length = 1 := rfl
    refine ⟨by omega, ?_⟩
    refine at_v (f := (Dt.d : Str → D)) (xs := en) hx.1 (by omega) fun y hy _ => ?_
    obtain ⟨y1, y2⟩ := e2 y hy
    (try simp only [SXQ, Mtd.ty, isTy, DL.isNon, CFdiv, asKey, Nat.reduceAdd, Nat.reduceLeDiff, Nat.reduceLT, Int.reduceLT, Int.reduceNeg, Int.reduceToNat, ↓reduceIte, String.reduceBEq, Nat.reduceBEq, beq_self_eq_true])
    rw [tx_len_app]
    refine ⟨by omega, M _ _ ⟨l ++ [cutS b none (some at') ++ ⟨#[c]⟩ ++ y], by simp [l1], by rw [List.map_append, List.map_append, lm]; congr 1; show [(cutS b none (some at') ++ ⟨#[c]⟩ ++ y).cps.toList[at'.toNat]?] = [some (97 + ((fi + st * x) % 26).toNat)]; rw [sign_t a0 (by omega), hcc], fun x hx => ?_, rfl, by rw [List.map_append]; rfl⟩⟩
    rcases List.mem_append.mp hx with hx | hx
    · exact l2 x hx
    · have : x = cutS b none (some at') ++ ⟨#[c]⟩ ++ y := by simpa using hx
      rw [this]
      exact ⟨asc_app (asc_app (asc_cut ba) (asc_one hc)) y1, by rw [tx_len_app, tx_len_app]; omega⟩
  rintro h' acc ⟨l, l1, lm, l2, rfl, rfl⟩
  exact q l o6 (by rw [l1]; rfl) ((List.pairwise_map.mp (lm ▸ sg_nt (b := fi) hst)).imp fun {x y} h e => h (by rw [e])) l2 (f6.mono (by show B + 14 + 12 ≤ B + 40; omega))
end
/-- a condition -/
inductive Cnd where
  | feast | days (l : List Int) | day (n : Int) | week (n : Int) | clock (a b : Int)
  deriving DecidableEq
def cD : Cnd → D
  | .feast => .tup [.str "feast"]
  | .days l => .tup [.str "days", .tup (l.map .int)]
  | .day n => .tup [.str "day", .int n]
  | .week n => .tup [.str "week", .int n]
  | .clock a b => .tup [.str "clock", .int a, .int b]
theorem ints_pu (l : List Int) : pures? (l.map D.int) = true := pures_map (fun _ => rfl) l
theorem ints_py (l : List Int) : toPys (l.map D.int) = l.map PyData.int := by rw [toPys_map]; exact List.map_congr_left fun _ _ => by rw [toPy]
theorem ints_dep (l : List Int) : PyData.depthAll (l.map PyData.int) ≤ 0 := depth_map (f := PyData.int) (fun _ => by rw [PyData.depth]; exact Nat.le_refl _) l
theorem ints_eqv (l m : List Int) : PyData.eqvAll (l.map PyData.int) (m.map PyData.int) = decide (l = m) := eqv_map (fun x y => by by_cases e : x = y <;> simp [PyData.eqv, e]) l m
@[reducible] instance : Dt Cnd := ⟨cD, fun x => by cases x <;> simp [cD, pure?, pures?, ints_pu], 2, fun x => by
    cases x with
    | days l =>
      have := ints_dep l
      simp only [cD, toPy, toPys, ints_py, PyData.depth, PyData.depthAll]
      omega
    | _ => simp [cD, toPy, toPys, PyData.depth, PyData.depthAll], inferInstance, fun x y => by
    have a1 : ¬ ("feast" : Str) = "days" := by decide
    have a2 : ¬ ("feast" : Str) = "day" := by decide
    have a3 : ¬ ("feast" : Str) = "week" := by decide
    have a4 : ¬ ("feast" : Str) = "clock" := by decide
    have b1 : ¬ ("days" : Str) = "feast" := by decide
    have b2 : ¬ ("days" : Str) = "day" := by decide
    have b3 : ¬ ("days" : Str) = "week" := by decide
    have b4 : ¬ ("days" : Str) = "clock" := by decide
    have c1 : ¬ ("day" : Str) = "feast" := by decide
    have c2 : ¬ ("day" : Str) = "days" := by decide
    have c3 : ¬ ("day" : Str) = "week" := by decide
    have c4 : ¬ ("day" : Str) = "clock" := by decide
    have e1 : ¬ ("week" : Str) = "feast" := by decide
    have e2 : ¬ ("week" : Str) = "days" := by decide
    have e3 : ¬ ("week" : Str) = "day" := by decide
    have e4 : ¬ ("week" : Str) = "clock" := by decide
    have g1 : ¬ ("clock" : Str) = "feast" := by decide
    have g2 : ¬ ("clock" : Str) = "days" := by decide
    have g3 : ¬ ("clock" : Str) = "day" := by decide
    have g4 : ¬ ("clock" : Str) = "week" := by decide
    cases x <;> cases y <;> simp [cD, toPy, toPys, ints_py, PyData.eqv, PyData.eqvAll, ints_eqv, *] <;> (try (rename_i p q; by_cases z : p = q <;> simp [z])) <;> (try (rename_i u v; by_cases z : u = v <;> simp [z])) <;> (try rfl)⟩
abbrev Rl := Qd Str Int Str (TL Cnd)
abbrev Bk := Tr Str (PL (Str × Int)) (PL Rl)
def CndOk : Cnd → Prop
  | .feast => True
  | .days l => l.length ≤ 7 ∧ ∀ d ∈ l, 0 ≤ d ∧ d ≤ 6
  | .day n => 1 ≤ n ∧ n ≤ 1440
  | .week n => 1 ≤ n ∧ n ≤ 10080
  | .clock a b => (0 ≤ a ∧ a < 1440) ∧ (0 ≤ b ∧ b < 1440) ∧ a ≠ b
theorem V_feast : (Dt.d Cnd.feast : D) = .tup [.str "feast"] := rfl
theorem V_days (l : List Int) : (Dt.d (Cnd.days l) : D) = .tup [.str "days", .tup (l.map .int)] := rfl
theorem V_day (n : Int) : (Dt.d (Cnd.day n) : D) = .tup [.str "day", .int n] := rfl
theorem V_week (n : Int) : (Dt.d (Cnd.week n) : D) = .tup [.str "week", .int n] := rfl
theorem V_clock (a b : Int) : (Dt.d (Cnd.clock a b) : D) = .tup [.str "clock", .int a, .int b] := rfl
def VCN := And.intro @V_feast <| And.intro @V_days <| And.intro @V_day <| And.intro @V_week <| @V_clock
theorem wd_clock_days : decide (Str.ofString "clock" = Str.ofString "days") = false := by decide
theorem wd_clock_feast : decide (Str.ofString "clock" = Str.ofString "feast") = false := by decide
theorem wd_clock_day : decide (Str.ofString "clock" = Str.ofString "day") = false := by decide
theorem wd_clock_week : decide (Str.ofString "clock" = Str.ofString "week") = false := by decide
theorem wd_clock_rate : decide (Str.ofString "clock" = Str.ofString "rate") = false := by decide
theorem wd_clock_base : decide (Str.ofString "clock" = Str.ofString "base") = false := by decide
theorem wd_clock_rule : decide (Str.ofString "clock" = Str.ofString "rule") = false := by decide
theorem wd_days_clock : decide (Str.ofString "days" = Str.ofString "clock") = false := by decide
theorem wd_days_feast : decide (Str.ofString "days" = Str.ofString "feast") = false := by decide
theorem wd_days_day : decide (Str.ofString "days" = Str.ofString "day") = false := by decide
theorem wd_days_week : decide (Str.ofString "days" = Str.ofString "week") = false := by decide
theorem wd_days_rate : decide (Str.ofString "days" = Str.ofString "rate") = false := by decide
theorem wd_days_base : decide (Str.ofString "days" = Str.ofString "base") = false := by decide
theorem wd_days_rule : decide (Str.ofString "days" = Str.ofString "rule") = false := by decide
theorem wd_feast_clock : decide (Str.ofString "feast" = Str.ofString "clock") = false := by decide
theorem wd_feast_days : decide (Str.ofString "feast" = Str.ofString "days") = false := by decide
theorem wd_feast_day : decide (Str.ofString "feast" = Str.ofString "day") = false := by decide
theorem wd_feast_week : decide (Str.ofString "feast" = Str.ofString "week") = false := by decide
theorem wd_feast_rate : decide (Str.ofString "feast" = Str.ofString "rate") = false := by decide
theorem wd_feast_base : decide (Str.ofString "feast" = Str.ofString "base") = false := by decide
theorem wd_feast_rule : decide (Str.ofString "feast" = Str.ofString "rule") = false := by decide
theorem wd_day_clock : decide (Str.ofString "day" = Str.ofString "clock") = false := by decide
theorem wd_day_days : decide (Str.ofString "day" = Str.ofString "days") = false := by decide
theorem wd_day_feast : decide (Str.ofString "day" = Str.ofString "feast") = false := by decide
theorem wd_day_week : decide (Str.ofString "day" = Str.ofString "week") = false := by decide
theorem wd_day_rate : decide (Str.ofString "day" = Str.ofString "rate") = false := by decide
theorem wd_day_base : decide (Str.ofString "day" = Str.ofString "base") = false := by decide
theorem wd_day_rule : decide (Str.ofString "day" = Str.ofString "rule") = false := by decide
theorem wd_week_clock : decide (Str.ofString "week" = Str.ofString "clock") = false := by decide
theorem wd_week_days : decide (Str.ofString "week" = Str.ofString "days") = false := by decide
theorem wd_week_feast : decide (Str.ofString "week" = Str.ofString "feast") = false := by decide
theorem wd_week_day : decide (Str.ofString "week" = Str.ofString "day") = false := by decide
theorem wd_week_rate : decide (Str.ofString "week" = Str.ofString "rate") = false := by decide
theorem wd_week_base : decide (Str.ofString "week" = Str.ofString "base") = false := by decide
theorem wd_week_rule : decide (Str.ofString "week" = Str.ofString "rule") = false := by decide
theorem wd_rate_clock : decide (Str.ofString "rate" = Str.ofString "clock") = false := by decide
theorem wd_rate_days : decide (Str.ofString "rate" = Str.ofString "days") = false := by decide
theorem wd_rate_feast : decide (Str.ofString "rate" = Str.ofString "feast") = false := by decide
theorem wd_rate_day : decide (Str.ofString "rate" = Str.ofString "day") = false := by decide
theorem wd_rate_week : decide (Str.ofString "rate" = Str.ofString "week") = false := by decide
theorem wd_rate_base : decide (Str.ofString "rate" = Str.ofString "base") = false := by decide
theorem wd_rate_rule : decide (Str.ofString "rate" = Str.ofString "rule") = false := by decide
theorem wd_base_clock : decide (Str.ofString "base" = Str.ofString "clock") = false := by decide
theorem wd_base_days : decide (Str.ofString "base" = Str.ofString "days") = false := by decide
theorem wd_base_feast : decide (Str.ofString "base" = Str.ofString "feast") = false := by decide
theorem wd_base_day : decide (Str.ofString "base" = Str.ofString "day") = false := by decide
theorem wd_base_week : decide (Str.ofString "base" = Str.ofString "week") = false := by decide
theorem wd_base_rate : decide (Str.ofString "base" = Str.ofString "rate") = false := by decide
theorem wd_base_rule : decide (Str.ofString "base" = Str.ofString "rule") = false := by decide
theorem wd_rule_clock : decide (Str.ofString "rule" = Str.ofString "clock") = false := by decide
theorem wd_rule_days : decide (Str.ofString "rule" = Str.ofString "days") = false := by decide
theorem wd_rule_feast : decide (Str.ofString "rule" = Str.ofString "feast") = false := by decide
theorem wd_rule_day : decide (Str.ofString "rule" = Str.ofString "day") = false := by decide
theorem wd_rule_week : decide (Str.ofString "rule" = Str.ofString "week") = false := by decide
theorem wd_rule_rate : decide (Str.ofString "rule" = Str.ofString "rate") = false := by decide
theorem wd_rule_base : decide (Str.ofString "rule" = Str.ofString "base") = false := by decide
def SWD := And.intro @wd_clock_days <| And.intro @wd_clock_feast <| And.intro @wd_clock_day <| And.intro @wd_clock_week <| And.intro @wd_clock_rate <| And.intro @wd_clock_base <| And.intro @wd_clock_rule <| And.intro @wd_days_clock <| And.intro @wd_days_feast <| And.intro @wd_days_day <| And.intro @wd_days_week <| And.intro @wd_days_rate <| And.intro @wd_days_base <| And.intro @wd_days_rule <| And.intro @wd_feast_clock <| And.intro @wd_feast_days <| And.intro @wd_feast_day <| And.intro @wd_feast_week <| And.intro @wd_feast_rate <| And.intro @wd_feast_base <| And.intro @wd_feast_rule <| And.intro @wd_day_clock <| And.intro @wd_day_days <| And.intro @wd_day_feast <| And.intro @wd_day_week <| And.intro @wd_day_rate <| And.intro @wd_day_base <| And.intro @wd_day_rule <| And.intro @wd_week_clock <| And.intro @wd_week_days <| And.intro @wd_week_feast <| And.intro @wd_week_day <| And.intro @wd_week_rate <| And.intro @wd_week_base <| And.intro @wd_week_rule <| And.intro @wd_rate_clock <| And.intro @wd_rate_days <| And.intro @wd_rate_feast <| And.intro @wd_rate_day <| And.intro @wd_rate_week <| And.intro @wd_rate_base <| And.intro @wd_rate_rule <| And.intro @wd_base_clock <| And.intro @wd_base_days <| And.intro @wd_base_feast <| And.intro @wd_base_day <| And.intro @wd_base_week <| And.intro @wd_base_rate <| And.intro @wd_base_rule <| And.intro @wd_rule_clock <| And.intro @wd_rule_days <| And.intro @wd_rule_feast <| And.intro @wd_rule_day <| And.intro @wd_rule_week <| And.intro @wd_rule_rate <| @wd_rule_base
end Qk58

namespace Qk58
open PySem DL L2
structure RlOk (S : List Str) (r : Rl) : Prop where
  a : NmOk r.a
  b : 0 ≤ r.b ∧ r.b ≤ 99
  c : r.c ∈ S
  l : r.d.l.length ≤ 5
  d : ∀ c ∈ r.d.l, CndOk c
structure BkOk (b : Bk) : Prop where
  s : b.b.l.Pairwise fun x y => x.1 ≠ y.1
  r : ∀ x ∈ b.b.l, NmOk x.1 ∧ 0 ≤ x.2 ∧ x.2 ≤ 1000000
  l : 1 ≤ b.b.l.length ∧ b.b.l.length ≤ 9
  a : b.a ∈ b.b.l.map (·.1)
  k : ∀ x ∈ b.c.l, RlOk (b.b.l.map (·.1)) x
  m : b.c.l.length ≤ 20
theorem strs_ok {xs : List Str} : PySem.W.Sortable (xs.map fun x => toPy (Dt.d x)) := .inr fun d hd => by
  obtain ⟨x, _, rfl⟩ := List.mem_map.mp hd
  rw [P_str]
  exact ⟨(fun z => nomatch z), (fun _ z => nomatch z)⟩
abbrev wds : List Str := ["clock", "days", "feast", "day", "week"]
theorem b_shr {z : Bool} {i j : Int} {h : DH} {Q : QD} : wBin z .RShift (.int i) (.int j) h Q = (0 ≤ j ∧ Q (.int (i / 2 ^ j.toNat)) h) := rfl
theorem b_band {z : Bool} {i j : Int} {h : DH} {Q : QD} : wBin z .BitAnd (.int i) (.int j) h Q = (True ∧ Q (.int (Builtin.bitAnd i j)) h) := rfl
/-- pools: clocks, counts of a day, of a week -/
structure Po where
  c : List Int
  d : List Int
  w : List Int
structure PoOk (p : Po) : Prop where
  c : ∀ x ∈ p.c, 0 ≤ x ∧ x < 1440
  d : ∀ x ∈ p.d, 1 ≤ x ∧ x ≤ 1440
  w : ∀ x ∈ p.w, 1 ≤ x ∧ x ≤ 10080
  cl : 1 ≤ p.c.length ∧ p.c.length ≤ 10
  dl : 1 ≤ p.d.length ∧ p.d.length ≤ 10
  wl : 1 ≤ p.w.length ∧ p.w.length ≤ 10
def poD (p : Po) : List D := [.fl (p.c.map .int), .fl (p.d.map .int), .fl (p.w.map .int)]
theorem irgT_len (a : Int) (k : Nat) : (irg a k).length = k := by unfold irg; rw [List.length_map, List.length_range]
section
variable {n : Nat} {h : DH} {Q : QD} {E : XD}
theorem pools_ {F : Addr} {o : DO} {B a b c : Int} (ha : 1 ≤ a ∧ a ≤ 10) (hb : 1 ≤ b ∧ b ≤ 10) (hc : 1 ≤ c ∧ c ≤ 10) (e : h F = some o) (f : Fl B o) (hB : B ≤ 900000) (q : ∀ (p : Po) o', PoOk p → Fl (B + 100) o' → al false (.lst (poD p)) (up h F o') Q) : run gl ds (n + 2) 9 [.ref F, .tup [.int a, .int b, .int c]] h Q E := by
  refine e9 ?_
  ((try simp only [SXQ, Mtd.ty, isTy, DL.isNon, CFdiv, asKey, Nat.reduceAdd, Nat.reduceLeDiff, Nat.reduceLT, Int.reduceLT, Int.reduceNeg, Int.reduceToNat, ↓reduceIte, String.reduceBEq, Nat.reduceBEq, beq_self_eq_true]); rw [ss_cons]; simp only [SXQ, Mtd.ty, isTy, DL.isNon, CFdiv, asKey, Nat.reduceAdd, Nat.reduceLeDiff, Nat.reduceLT, Int.reduceLT, Int.reduceNeg, Int.reduceToNat, ↓reduceIte, String.reduceBEq, Nat.reduceBEq, beq_self_eq_true])
  refine ⟨⟨by omega, by omega⟩, ?_⟩
  refine comp_J (f := D.int) (irg 0 (a - 0).toNat) (fun pre h' acc => ∃ (l : List Int) (o' : DO), l.length = pre.length ∧ (∀ x ∈ l, 0 ≤ x ∧ x < 1440) ∧ Fl (B + 3 * pre.length) o' ∧ h' = up h F o' ∧ acc = l.map D.int) (fun i _ _ _ _ => next_rg i _) ⟨[], o, rfl, by simp, f.mono (by simp), (up_self e).symm, rfl⟩ (by rw [irgT_len]; omega) ?_ ?_ ?_
  · rintro pre post h acc e ⟨l, o', l1, _, _, _, rfl⟩
    rw [List.length_map, l1]
    exact Nat.le_refl _
  · rintro pre x post h' acc e2 ⟨l, o', l1, l2, f', rfl, rfl⟩ K k' M km
    have pl : pre.length ≤ 10 := by
      have := congrArg List.length e2
      rw [irgT_len, List.length_append, List.length_cons] at this
      omega
    (try simp only [SXQ, Mtd.ty, isTy, DL.isNon, CFdiv, asKey, Nat.reduceAdd, Nat.reduceLeDiff, Nat.reduceLT, Int.reduceLT, Int.reduceNeg, Int.reduceToNat, ↓reduceIte, String.reduceBEq, Nat.reduceBEq, beq_self_eq_true])
    refine drw up_at f' (by decide) (by decide) (by omega) fun d o1 d0 d1 f1 => ?_
    (try simp only [SXQ, Mtd.ty, isTy, DL.isNon, CFdiv, asKey, Nat.reduceAdd, Nat.reduceLeDiff, Nat.reduceLT, Int.reduceLT, Int.reduceNeg, Int.reduceToNat, ↓reduceIte, String.reduceBEq, Nat.reduceBEq, beq_self_eq_true])
    refine ⟨by unfold CMul; omega, ?_⟩
    refine drw up_at f1 (by decide) (by decide) (by omega) fun d2 o2 d20 d21 f2 => ?_
    (try simp only [SXQ, Mtd.ty, isTy, DL.isNon, CFdiv, asKey, Nat.reduceAdd, Nat.reduceLeDiff, Nat.reduceLT, Int.reduceLT, Int.reduceNeg, Int.reduceToNat, ↓reduceIte, String.reduceBEq, Nat.reduceBEq, beq_self_eq_true])
    refine drw up_at f2 (by decide) (by decide) (by omega) fun d3 o3 d30 d31 f3 => ?_
    (try simp only [SXQ, Mtd.ty, isTy, DL.isNon, CFdiv, asKey, Nat.reduceAdd, Nat.reduceLeDiff, Nat.reduceLT, Int.reduceLT, Int.reduceNeg, Int.reduceToNat, ↓reduceIte, String.reduceBEq, Nat.reduceBEq, beq_self_eq_true])
    refine at_v (f := D.int) (xs := [0, 1, 1439, 60 * d, d2]) d30 d31 fun v hv _ => ?_
    simp only [List.mem_cons, List.not_mem_nil, or_false] at hv
    refine M _ _ ⟨l ++ [v], o3, by simp [l1], fun x hx => ?_, f3.mono (by rw [List.length_append, List.length_singleton]; omega), rfl, by rw [List.map_append]; rfl⟩
    rcases List.mem_append.mp hx with hx | hx
    · exact l2 x hx
    · rw [List.mem_singleton.mp hx]; omega
  rintro h' acc ⟨l, o1, l1, l2, f1, rfl, rfl⟩
  rw [irgT_len] at l1 f1
  (try simp only [SXQ, Mtd.ty, isTy, DL.isNon, CFdiv, asKey, Nat.reduceAdd, Nat.reduceLeDiff, Nat.reduceLT, Int.reduceLT, Int.reduceNeg, Int.reduceToNat, ↓reduceIte, String.reduceBEq, Nat.reduceBEq, beq_self_eq_true])
  ((try simp only [SXQ, Mtd.ty, isTy, DL.isNon, CFdiv, asKey, Nat.reduceAdd, Nat.reduceLeDiff, Nat.reduceLT, Int.reduceLT, Int.reduceNeg, Int.reduceToNat, ↓reduceIte, String.reduceBEq, Nat.reduceBEq, beq_self_eq_true]); rw [ss_cons]; simp only [SXQ, Mtd.ty, isTy, DL.isNon, CFdiv, asKey, Nat.reduceAdd, Nat.reduceLeDiff, Nat.reduceLT, Int.reduceLT, Int.reduceNeg, Int.reduceToNat, ↓reduceIte, String.reduceBEq, Nat.reduceBEq, beq_self_eq_true])
  refine ⟨⟨by omega, by omega⟩, ?_⟩
  refine comp_J (f := D.int) (irg 0 (b - 0).toNat) (fun pre h' acc => ∃ (l : List Int) (o' : DO), l.length = pre.length ∧ (∀ x ∈ l, 1 ≤ x ∧ x ≤ 1440) ∧ Fl (B + 30 + 3 * pre.length) o' ∧ h' = up h F o' ∧ acc = l.map D.int) (fun i _ _ _ _ => next_rg i _) ⟨[], o1, rfl, by simp, f1.mono (by simp; omega), rfl, rfl⟩ (by rw [irgT_len]; omega) ?_ ?_ ?_
  · rintro pre post h acc e ⟨l, o', l1, _, _, _, rfl⟩
    rw [List.length_map, l1]
    exact Nat.le_refl _
  · rintro pre x post h' acc e2 ⟨l, o', l1, l2, f', rfl, rfl⟩ K k' M km
    have pl : pre.length ≤ 10 := by
      have := congrArg List.length e2
      rw [irgT_len, List.length_append, List.length_cons] at this
      omega
    (try simp only [SXQ, Mtd.ty, isTy, DL.isNon, CFdiv, asKey, Nat.reduceAdd, Nat.reduceLeDiff, Nat.reduceLT, Int.reduceLT, Int.reduceNeg, Int.reduceToNat, ↓reduceIte, String.reduceBEq, Nat.reduceBEq, beq_self_eq_true])
    refine drw up_at f' (by decide) (by decide) (by omega) fun d o1 d0 d1 f1 => ?_
    (try simp only [SXQ, Mtd.ty, isTy, DL.isNon, CFdiv, asKey, Nat.reduceAdd, Nat.reduceLeDiff, Nat.reduceLT, Int.reduceLT, Int.reduceNeg, Int.reduceToNat, ↓reduceIte, String.reduceBEq, Nat.reduceBEq, beq_self_eq_true])
    refine drw up_at f1 (by decide) (by decide) (by omega) fun d2 o2 d20 d21 f2 => ?_
    (try simp only [SXQ, Mtd.ty, isTy, DL.isNon, CFdiv, asKey, Nat.reduceAdd, Nat.reduceLeDiff, Nat.reduceLT, Int.reduceLT, Int.reduceNeg, Int.reduceToNat, ↓reduceIte, String.reduceBEq, Nat.reduceBEq, beq_self_eq_true])
    refine drw up_at f2 (by decide) (by decide) (by omega) fun d3 o3 d30 d31 f3 => ?_
    (try simp only [SXQ, Mtd.ty, isTy, DL.isNon, CFdiv, asKey, Nat.reduceAdd, Nat.reduceLeDiff, Nat.reduceLT, Int.reduceLT, Int.reduceNeg, Int.reduceToNat, ↓reduceIte, String.reduceBEq, Nat.reduceBEq, beq_self_eq_true])
    refine at_v (f := D.int) (xs := [1 + d, 480, 1 + d2, 1440]) d30 d31 fun v hv _ => ?_
    simp only [List.mem_cons, List.not_mem_nil, or_false] at hv
    refine M _ _ ⟨l ++ [v], o3, by simp [l1], fun x hx => ?_, f3.mono (by rw [List.length_append, List.length_singleton]; omega), rfl, by rw [List.map_append]; rfl⟩
    rcases List.mem_append.mp hx with hx | hx
    · exact l2 x hx
    · rw [List.mem_singleton.mp hx]; omega
  rintro h' acc ⟨m, o2, m1, m2, f2, rfl, rfl⟩
  rw [irgT_len] at m1 f2
  (try simp only [SXQ, Mtd.ty, isTy, DL.isNon, CFdiv, asKey, Nat.reduceAdd, Nat.reduceLeDiff, Nat.reduceLT, Int.reduceLT, Int.reduceNeg, Int.reduceToNat, ↓reduceIte, String.reduceBEq, Nat.reduceBEq, beq_self_eq_true])
  ((try simp only [SXQ, Mtd.ty, isTy, DL.isNon, CFdiv, asKey, Nat.reduceAdd, Nat.reduceLeDiff, Nat.reduceLT, Int.reduceLT, Int.reduceNeg, Int.reduceToNat, ↓reduceIte, String.reduceBEq, Nat.reduceBEq, beq_self_eq_true]); rw [ss_cons]; simp only [SXQ, Mtd.ty, isTy, DL.isNon, CFdiv, asKey, Nat.reduceAdd, Nat.reduceLeDiff, Nat.reduceLT, Int.reduceLT, Int.reduceNeg, Int.reduceToNat, ↓reduceIte, String.reduceBEq, Nat.reduceBEq, beq_self_eq_true])
  intro p np
  have nF := ne_upn np
  have np' : h p = none := up_none np
  have atF : ∀ (o' x : DO), up (up h F o') p x F = some o' := fun o' x => by rw [up_ne nF.symm, up_at]
  ((try simp only [SXQ, Mtd.ty, isTy, DL.isNon, CFdiv, asKey, Nat.reduceAdd, Nat.reduceLeDiff, Nat.reduceLT, Int.reduceLT, Int.reduceNeg, Int.reduceToNat, ↓reduceIte, String.reduceBEq, Nat.reduceBEq, beq_self_eq_true]); rw [ss_cons]; simp only [SXQ, Mtd.ty, isTy, DL.isNon, CFdiv, asKey, Nat.reduceAdd, Nat.reduceLeDiff, Nat.reduceLT, Int.reduceLT, Int.reduceNeg, Int.reduceToNat, ↓reduceIte, String.reduceBEq, Nat.reduceBEq, beq_self_eq_true])
  refine ⟨⟨by omega, by omega⟩, ?_⟩
  refine loop_rng (fun i s h' => ∃ (k : List Int) (o' : DO), k.length = i ∧ (∀ x ∈ k, 1 ≤ x ∧ x ≤ 10080) ∧ Fl (B + 60 + 3 * i) o' ∧ s = [some (.ref F), some (.tup [.int a, .int b, .int c]), some (.fl (l.map D.int)), some (.fl (m.map D.int)), some (.ref p), none] ∧ h' = up (up h F o') p (.lst (k.map D.int))) ⟨[], o2, rfl, by simp, f2.mono (by omega), rfl, rfl⟩ ?_ ?_
  · rintro i s h' hi ⟨k, o', k1, k2, f', rfl, rfl⟩
    have hi2 : i < 10 := by omega
    (try simp only [SXQ, Mtd.ty, isTy, DL.isNon, CFdiv, asKey, Nat.reduceAdd, Nat.reduceLeDiff, Nat.reduceLT, Int.reduceLT, Int.reduceNeg, Int.reduceToNat, ↓reduceIte, String.reduceBEq, Nat.reduceBEq, beq_self_eq_true])
    ((try simp only [SXQ, Mtd.ty, isTy, DL.isNon, CFdiv, asKey, Nat.reduceAdd, Nat.reduceLeDiff, Nat.reduceLT, Int.reduceLT, Int.reduceNeg, Int.reduceToNat, ↓reduceIte, String.reduceBEq, Nat.reduceBEq, beq_self_eq_true]); rw [ss_cons]; simp only [SXQ, Mtd.ty, isTy, DL.isNon, CFdiv, asKey, Nat.reduceAdd, Nat.reduceLeDiff, Nat.reduceLT, Int.reduceLT, Int.reduceNeg, Int.reduceToNat, ↓reduceIte, String.reduceBEq, Nat.reduceBEq, beq_self_eq_true])
    refine drw (atF _ _) f' (by decide) (by decide) (by omega) fun d o1 d0 d1 f1 => ?_
    (try simp only [SXQ, Mtd.ty, isTy, DL.isNon, CFdiv, asKey, Nat.reduceAdd, Nat.reduceLeDiff, Nat.reduceLT, Int.reduceLT, Int.reduceNeg, Int.reduceToNat, ↓reduceIte, String.reduceBEq, Nat.reduceBEq, beq_self_eq_true, up_sw nF])
    refine drw (atF _ _) f1 (by decide) (by decide) (by omega) fun d2 o2 d20 d21 f2 => ?_
    (try simp only [SXQ, Mtd.ty, isTy, DL.isNon, CFdiv, asKey, Nat.reduceAdd, Nat.reduceLeDiff, Nat.reduceLT, Int.reduceLT, Int.reduceNeg, Int.reduceToNat, ↓reduceIte, String.reduceBEq, Nat.reduceBEq, beq_self_eq_true, up_sw nF])
    refine drw (atF _ _) f2 (by decide) (by decide) (by omega) fun d3 o3 d30 d31 f3 => ?_
    (try simp only [SXQ, Mtd.ty, isTy, DL.isNon, CFdiv, asKey, Nat.reduceAdd, Nat.reduceLeDiff, Nat.reduceLT, Int.reduceLT, Int.reduceNeg, Int.reduceToNat, ↓reduceIte, String.reduceBEq, Nat.reduceBEq, beq_self_eq_true, up_sw nF])
    refine at_v (f := D.int) (xs := [1 + d, 1441, 1 + d2, 2400]) d30 d31 fun v hv _ => ?_
    simp only [List.mem_cons, List.not_mem_nil, or_false] at hv
    (try simp only [SXQ, Mtd.ty, isTy, DL.isNon, CFdiv, asKey, Nat.reduceAdd, Nat.reduceLeDiff, Nat.reduceLT, Int.reduceLT, Int.reduceNeg, Int.reduceToNat, ↓reduceIte, String.reduceBEq, Nat.reduceBEq, beq_self_eq_true, List.length_map])
    refine ⟨by omega, ?_⟩
    ((try simp only [SXQ, Mtd.ty, isTy, DL.isNon, CFdiv, asKey, Nat.reduceAdd, Nat.reduceLeDiff, Nat.reduceLT, Int.reduceLT, Int.reduceNeg, Int.reduceToNat, ↓reduceIte, String.reduceBEq, Nat.reduceBEq, beq_self_eq_true]); rw [ss_cons]; simp only [SXQ, Mtd.ty, isTy, DL.isNon, CFdiv, asKey, Nat.reduceAdd, Nat.reduceLeDiff, Nat.reduceLT, Int.reduceLT, Int.reduceNeg, Int.reduceToNat, ↓reduceIte, String.reduceBEq, Nat.reduceBEq, beq_self_eq_true])
    ((try simp only [SXQ, Mtd.ty, isTy, DL.isNon, CFdiv, asKey, Nat.reduceAdd, Nat.reduceLeDiff, Nat.reduceLT, Int.reduceLT, Int.reduceNeg, Int.reduceToNat, ↓reduceIte, String.reduceBEq, Nat.reduceBEq, beq_self_eq_true]); rw [ss_nil])
    refine ⟨k ++ [v], o3, by simp [k1], fun x hx => ?_, f3.mono (by omega), rfl, by rw [List.map_append]; rfl⟩
    rcases List.mem_append.mp hx with hx | hx
    · exact k2 x hx
    · rw [List.mem_singleton.mp hx]; omega
  · rintro s h' ⟨k, o', k1, k2, f', rfl, rfl⟩
    have npF : up h F o' p = none := by rw [up_ne nF]; exact np'
    ((try simp only [SXQ, Mtd.ty, isTy, DL.isNon, CFdiv, asKey, Nat.reduceAdd, Nat.reduceLeDiff, Nat.reduceLT, Int.reduceLT, Int.reduceNeg, Int.reduceToNat, ↓reduceIte, String.reduceBEq, Nat.reduceBEq, beq_self_eq_true]); rw [ss_cons]; simp only [SXQ, Mtd.ty, isTy, DL.isNon, CFdiv, asKey, Nat.reduceAdd, Nat.reduceLeDiff, Nat.reduceLT, Int.reduceLT, Int.reduceNeg, Int.reduceToNat, ↓reduceIte, String.reduceBEq, Nat.reduceBEq, beq_self_eq_true, wFrz_at up_at, rm_up npF])
    ((try simp only [SXQ, Mtd.ty, isTy, DL.isNon, CFdiv, asKey, Nat.reduceAdd, Nat.reduceLeDiff, Nat.reduceLT, Int.reduceLT, Int.reduceNeg, Int.reduceToNat, ↓reduceIte, String.reduceBEq, Nat.reduceBEq, beq_self_eq_true]); rw [ss_cons]; simp only [SXQ, Mtd.ty, isTy, DL.isNon, CFdiv, asKey, Nat.reduceAdd, Nat.reduceLeDiff, Nat.reduceLT, Int.reduceLT, Int.reduceNeg, Int.reduceToNat, ↓reduceIte, String.reduceBEq, Nat.reduceBEq, beq_self_eq_true])
    exact q ⟨l, m, k⟩ o' ⟨l2, m2, k2, by dsimp only; omega, by dsimp only; omega, by dsimp only; omega⟩ (f'.mono (by omega))
theorem cond_ {F : Addr} {o : DO} {B : Int} {w : Str} (hw : w ∈ wds) {p : Po} (ok : PoOk p) (e : h F = some o) (f : Fl B o) (hB : B ≤ 950000) (q : ∀ (c : Cnd) o', CndOk c → Fl (B + 3) o' → Q (Dt.d c) (up h F o')) : run gl ds (n + 3) 10 [.ref F, .fl (poD p), .str w] h Q E := by
  obtain ⟨kc, kd, kw, cl, dl, wl⟩ := ok
  simp only [List.mem_cons, List.not_mem_nil, or_false] at hw
  rcases hw with rfl | rfl | rfl | rfl | rfl
  · refine e10 ?_
    (repeat (first | ((try simp only [SXQ, Mtd.ty, isTy, DL.isNon, CFdiv, asKey, Nat.reduceAdd, Nat.reduceLeDiff, Nat.reduceLT, Int.reduceLT, Int.reduceNeg, Int.reduceToNat, ↓reduceIte, String.reduceBEq, Nat.reduceBEq, beq_self_eq_true, SWD, eq_self, poD]); rw [ss_cons]; simp only [SXQ, Mtd.ty, isTy, DL.isNon, CFdiv, asKey, Nat.reduceAdd, Nat.reduceLeDiff, Nat.reduceLT, Int.reduceLT, Int.reduceNeg, Int.reduceToNat, ↓reduceIte, String.reduceBEq, Nat.reduceBEq, beq_self_eq_true, SWD, eq_self, poD]) | ((try simp only [SXQ, Mtd.ty, isTy, DL.isNon, CFdiv, asKey, Nat.reduceAdd, Nat.reduceLeDiff, Nat.reduceLT, Int.reduceLT, Int.reduceNeg, Int.reduceToNat, ↓reduceIte, String.reduceBEq, Nat.reduceBEq, beq_self_eq_true, SWD, eq_self, poD]); rw [ss_nil])))
    refine of_ (f := D.int) p.c e f (by omega) (by omega) (by omega) fun a o1 ha f1 => ?_
    (try simp only [SXQ, Mtd.ty, isTy, DL.isNon, CFdiv, asKey, Nat.reduceAdd, Nat.reduceLeDiff, Nat.reduceLT, Int.reduceLT, Int.reduceNeg, Int.reduceToNat, ↓reduceIte, String.reduceBEq, Nat.reduceBEq, beq_self_eq_true, poD])
    refine of_ (f := D.int) p.c up_at f1 (by omega) (by omega) (by omega) fun b o2 hb f2 => ?_
    have ha := kc a ha
    have hb := kc b hb
    (try simp only [SXQ, Mtd.ty, isTy, DL.isNon, CFdiv, asKey, Nat.reduceAdd, Nat.reduceLeDiff, Nat.reduceLT, Int.reduceLT, Int.reduceNeg, Int.reduceToNat, ↓reduceIte, String.reduceBEq, Nat.reduceBEq, beq_self_eq_true])
    ((try simp only [SXQ, Mtd.ty, isTy, DL.isNon, CFdiv, asKey, Nat.reduceAdd, Nat.reduceLeDiff, Nat.reduceLT, Int.reduceLT, Int.reduceNeg, Int.reduceToNat, ↓reduceIte, String.reduceBEq, Nat.reduceBEq, beq_self_eq_true]); rw [ss_cons]; simp only [SXQ, Mtd.ty, isTy, DL.isNon, CFdiv, asKey, Nat.reduceAdd, Nat.reduceLeDiff, Nat.reduceLT, Int.reduceLT, Int.reduceNeg, Int.reduceToNat, ↓reduceIte, String.reduceBEq, Nat.reduceBEq, beq_self_eq_true])
    have fin : ∀ v : Int, (v = b ∧ a ≠ b ∨ v = (a + 1) % 1440 ∧ a = b) → Q (.tup [.str "clock", .int a, .int v]) (up h F o2) := fun v hv => by
      have hk : CndOk (.clock a v) := ⟨⟨by omega, by omega⟩, ⟨by omega, by omega⟩, by omega⟩
      exact q (.clock a v) o2 hk (f2.mono (by omega))
    by_cases g : a = b
    · simp only [g, decide_true]
      (try simp only [SXQ, Mtd.ty, isTy, DL.isNon, CFdiv, asKey, Nat.reduceAdd, Nat.reduceLeDiff, Nat.reduceLT, Int.reduceLT, Int.reduceNeg, Int.reduceToNat, ↓reduceIte, String.reduceBEq, Nat.reduceBEq, beq_self_eq_true])
      rw [g] at fin
      exact fin _ (.inr ⟨rfl, rfl⟩)
    · simp only [g, decide_false]
      (try simp only [SXQ, Mtd.ty, isTy, DL.isNon, CFdiv, asKey, Nat.reduceAdd, Nat.reduceLeDiff, Nat.reduceLT, Int.reduceLT, Int.reduceNeg, Int.reduceToNat, ↓reduceIte, String.reduceBEq, Nat.reduceBEq, beq_self_eq_true])
      exact fin b (.inl ⟨rfl, g⟩)
  · refine e10 ?_
    (repeat (first | ((try simp only [SXQ, Mtd.ty, isTy, DL.isNon, CFdiv, asKey, Nat.reduceAdd, Nat.reduceLeDiff, Nat.reduceLT, Int.reduceLT, Int.reduceNeg, Int.reduceToNat, ↓reduceIte, String.reduceBEq, Nat.reduceBEq, beq_self_eq_true, SWD, eq_self]); rw [ss_cons]; simp only [SXQ, Mtd.ty, isTy, DL.isNon, CFdiv, asKey, Nat.reduceAdd, Nat.reduceLeDiff, Nat.reduceLT, Int.reduceLT, Int.reduceNeg, Int.reduceToNat, ↓reduceIte, String.reduceBEq, Nat.reduceBEq, beq_self_eq_true, SWD, eq_self]) | ((try simp only [SXQ, Mtd.ty, isTy, DL.isNon, CFdiv, asKey, Nat.reduceAdd, Nat.reduceLeDiff, Nat.reduceLT, Int.reduceLT, Int.reduceNeg, Int.reduceToNat, ↓reduceIte, String.reduceBEq, Nat.reduceBEq, beq_self_eq_true, SWD, eq_self]); rw [ss_nil])))
    refine drw e f (by decide) (by decide) (by omega) fun d o1 d0 d1 f1 => ?_
    ((try simp only [SXQ, Mtd.ty, isTy, DL.isNon, CFdiv, asKey, Nat.reduceAdd, Nat.reduceLeDiff, Nat.reduceLT, Int.reduceLT, Int.reduceNeg, Int.reduceToNat, ↓reduceIte, String.reduceBEq, Nat.reduceBEq, beq_self_eq_true]); rw [ss_cons]; simp only [SXQ, Mtd.ty, isTy, DL.isNon, CFdiv, asKey, Nat.reduceAdd, Nat.reduceLeDiff, Nat.reduceLT, Int.reduceLT, Int.reduceNeg, Int.reduceToNat, ↓reduceIte, String.reduceBEq, Nat.reduceBEq, beq_self_eq_true])
    refine ⟨by decide, ?_⟩
    refine comp_pJ (f := D.int) (irg 0 7) (fun i => next_rg i _) (fun k => decide (Builtin.bitAnd ((1 + d) / 2 ^ k.toNat) 1 = 1)) D.int (fun k hk K M k1 m1 => ?_) (by decide) ?_
    · have bd : ∀ x ∈ irg 0 7, 0 ≤ x ∧ x ≤ 6 := by decide
      have := bd k hk
      (try simp only [SXQ, Mtd.ty, isTy, DL.isNon, CFdiv, asKey, Nat.reduceAdd, Nat.reduceLeDiff, Nat.reduceLT, Int.reduceLT, Int.reduceNeg, Int.reduceToNat, ↓reduceIte, String.reduceBEq, Nat.reduceBEq, beq_self_eq_true, b_shr, b_band])
      refine ⟨by omega, ?_⟩
      refine dec_ite (fun g => ?_) fun g => ?_
      · exact k1 (decide_eq_true g)
      · exact m1 (decide_eq_false g)
    · (try simp only [SXQ, Mtd.ty, isTy, DL.isNon, CFdiv, asKey, Nat.reduceAdd, Nat.reduceLeDiff, Nat.reduceLT, Int.reduceLT, Int.reduceNeg, Int.reduceToNat, ↓reduceIte, String.reduceBEq, Nat.reduceBEq, beq_self_eq_true])
      refine q (.days ((irg 0 7).filter fun k => decide (Builtin.bitAnd ((1 + d) / 2 ^ k.toNat) 1 = 1))) o1 ⟨Nat.le_trans (List.length_filter_le _ _) (by decide), fun x hx => ?_⟩ (f1.mono (by omega))
      have bd : ∀ x ∈ irg 0 7, 0 ≤ x ∧ x ≤ 6 := by decide
      exact bd x (List.mem_filter.mp hx).1
  · refine e10 ?_
    (repeat (first | ((try simp only [SXQ, Mtd.ty, isTy, DL.isNon, CFdiv, asKey, Nat.reduceAdd, Nat.reduceLeDiff, Nat.reduceLT, Int.reduceLT, Int.reduceNeg, Int.reduceToNat, ↓reduceIte, String.reduceBEq, Nat.reduceBEq, beq_self_eq_true, SWD, eq_self]); rw [ss_cons]; simp only [SXQ, Mtd.ty, isTy, DL.isNon, CFdiv, asKey, Nat.reduceAdd, Nat.reduceLeDiff, Nat.reduceLT, Int.reduceLT, Int.reduceNeg, Int.reduceToNat, ↓reduceIte, String.reduceBEq, Nat.reduceBEq, beq_self_eq_true, SWD, eq_self]) | ((try simp only [SXQ, Mtd.ty, isTy, DL.isNon, CFdiv, asKey, Nat.reduceAdd, Nat.reduceLeDiff, Nat.reduceLT, Int.reduceLT, Int.reduceNeg, Int.reduceToNat, ↓reduceIte, String.reduceBEq, Nat.reduceBEq, beq_self_eq_true, SWD, eq_self]); rw [ss_nil])))
    have := q .feast o trivial (f.mono (by omega))
    rw [up_self e] at this
    exact this
  · refine e10 ?_
    (repeat (first | ((try simp only [SXQ, Mtd.ty, isTy, DL.isNon, CFdiv, asKey, Nat.reduceAdd, Nat.reduceLeDiff, Nat.reduceLT, Int.reduceLT, Int.reduceNeg, Int.reduceToNat, ↓reduceIte, String.reduceBEq, Nat.reduceBEq, beq_self_eq_true, SWD, eq_self, poD]); rw [ss_cons]; simp only [SXQ, Mtd.ty, isTy, DL.isNon, CFdiv, asKey, Nat.reduceAdd, Nat.reduceLeDiff, Nat.reduceLT, Int.reduceLT, Int.reduceNeg, Int.reduceToNat, ↓reduceIte, String.reduceBEq, Nat.reduceBEq, beq_self_eq_true, SWD, eq_self, poD]) | ((try simp only [SXQ, Mtd.ty, isTy, DL.isNon, CFdiv, asKey, Nat.reduceAdd, Nat.reduceLeDiff, Nat.reduceLT, Int.reduceLT, Int.reduceNeg, Int.reduceToNat, ↓reduceIte, String.reduceBEq, Nat.reduceBEq, beq_self_eq_true, SWD, eq_self, poD]); rw [ss_nil])))
    refine of_ (f := D.int) p.d e f (by omega) (by omega) (by omega) fun a o1 ha f1 => ?_
    (try simp only [SXQ, Mtd.ty, isTy, DL.isNon, CFdiv, asKey, Nat.reduceAdd, Nat.reduceLeDiff, Nat.reduceLT, Int.reduceLT, Int.reduceNeg, Int.reduceToNat, ↓reduceIte, String.reduceBEq, Nat.reduceBEq, beq_self_eq_true])
    exact q (.day a) o1 (kd a ha) (f1.mono (by omega))
  · refine e10 ?_
    (repeat (first | ((try simp only [SXQ, Mtd.ty, isTy, DL.isNon, CFdiv, asKey, Nat.reduceAdd, Nat.reduceLeDiff, Nat.reduceLT, Int.reduceLT, Int.reduceNeg, Int.reduceToNat, ↓reduceIte, String.reduceBEq, Nat.reduceBEq, beq_self_eq_true, SWD, eq_self, poD]); rw [ss_cons]; simp only [SXQ, Mtd.ty, isTy, DL.isNon, CFdiv, asKey, Nat.reduceAdd, Nat.reduceLeDiff, Nat.reduceLT, Int.reduceLT, Int.reduceNeg, Int.reduceToNat, ↓reduceIte, String.reduceBEq, Nat.reduceBEq, beq_self_eq_true, SWD, eq_self, poD]) | ((try simp only [SXQ, Mtd.ty, isTy, DL.isNon, CFdiv, asKey, Nat.reduceAdd, Nat.reduceLeDiff, Nat.reduceLT, Int.reduceLT, Int.reduceNeg, Int.reduceToNat, ↓reduceIte, String.reduceBEq, Nat.reduceBEq, beq_self_eq_true, SWD, eq_self, poD]); rw [ss_nil])))
    refine of_ (f := D.int) p.w e f (by omega) (by omega) (by omega) fun a o1 ha f1 => ?_
    (try simp only [SXQ, Mtd.ty, isTy, DL.isNon, CFdiv, asKey, Nat.reduceAdd, Nat.reduceLeDiff, Nat.reduceLT, Int.reduceLT, Int.reduceNeg, Int.reduceToNat, ↓reduceIte, String.reduceBEq, Nat.reduceBEq, beq_self_eq_true])
    exact q (.week a) o1 (kw a ha) (f1.mono (by omega))
end
end Qk58

namespace Qk58
open PySem DL L2
section
variable {n : Nat} {h : DH} {Q : QD} {E : XD}
theorem rules_ {F : Addr} {o : DO} {B most : Int} {p : Po} (ok : PoOk p) {N S : List Str} (m0 : 0 ≤ most) (m1 : most ≤ 8) (nl : 9 ≤ N.length) (nk : ∀ x ∈ N, NmOk x) (s0 : 0 < S.length) (s1 : S.length ≤ 20) (e : h F = some o) (f : Fl B o) (hB : B ≤ 900000)
    (q : ∀ (R : List Rl) o', R.length ≤ 8 → (∀ r ∈ R, RlOk S r) → Fl (B + 500) o' → Q (Dt.d (⟨R⟩ : PL Rl)) (up h F o')) : run gl ds (n + 4) 11 [.ref F, .fl (poD p), .fl (N.map Dt.d), .fl (S.map Dt.d), .int most] h Q E := by
  refine e11 ?_
  ((try simp only [SXQ, Mtd.ty, isTy, DL.isNon, CFdiv, asKey, Nat.reduceAdd, Nat.reduceLeDiff, Nat.reduceLT, Int.reduceLT, Int.reduceNeg, Int.reduceToNat, ↓reduceIte, String.reduceBEq, Nat.reduceBEq, beq_self_eq_true]); rw [ss_cons]; simp only [SXQ, Mtd.ty, isTy, DL.isNon, CFdiv, asKey, Nat.reduceAdd, Nat.reduceLeDiff, Nat.reduceLT, Int.reduceLT, Int.reduceNeg, Int.reduceToNat, ↓reduceIte, String.reduceBEq, Nat.reduceBEq, beq_self_eq_true])
  refine drw e f (by decide) (by decide) (by omega) fun kd o1 kd0 kd1 f1 => ?_
  (try simp only [SXQ, Mtd.ty, isTy, DL.isNon, CFdiv, asKey, Nat.reduceAdd, Nat.reduceLeDiff, Nat.reduceLT, Int.reduceLT, Int.reduceNeg, Int.reduceToNat, ↓reduceIte, String.reduceBEq, Nat.reduceBEq, beq_self_eq_true])
  intro pp np
  have nF := ne_upn np
  have np' : h pp = none := up_none np
  have atF : ∀ (o' x : DO), up (up h F o') pp x F = some o' := fun o' x => by rw [up_ne nF.symm, up_at]
  ((try simp only [SXQ, Mtd.ty, isTy, DL.isNon, CFdiv, asKey, Nat.reduceAdd, Nat.reduceLeDiff, Nat.reduceLT, Int.reduceLT, Int.reduceNeg, Int.reduceToNat, ↓reduceIte, String.reduceBEq, Nat.reduceBEq, beq_self_eq_true]); rw [ss_cons]; simp only [SXQ, Mtd.ty, isTy, DL.isNon, CFdiv, asKey, Nat.reduceAdd, Nat.reduceLeDiff, Nat.reduceLT, Int.reduceLT, Int.reduceNeg, Int.reduceToNat, ↓reduceIte, String.reduceBEq, Nat.reduceBEq, beq_self_eq_true])
  refine drw (atF _ _) f1 (by omega) (by omega) (by omega) fun m o2 mm0 mm1 f2 => ?_
  (try simp only [SXQ, Mtd.ty, isTy, DL.isNon, CFdiv, asKey, Nat.reduceAdd, Nat.reduceLeDiff, Nat.reduceLT, Int.reduceLT, Int.reduceNeg, Int.reduceToNat, ↓reduceIte, String.reduceBEq, Nat.reduceBEq, beq_self_eq_true, up_sw nF])
  refine ⟨⟨by omega, by omega⟩, ?_⟩
  refine loop_rng (fun i s h' => ∃ (R : List Rl) (o' : DO), R.length = i ∧ (∀ r ∈ R, RlOk S r) ∧ Fl (B + 2 + 60 * i) o' ∧ s = [some (.ref F), some (.fl (poD p)), some (.fl (N.map Dt.d)), some (.fl (S.map Dt.d)), some (.int most), some (.int kd), some (.ref pp), none, none, none, none, none, none, none] ∧ h' = up (up h F o') pp (.lst (R.map Dt.d))) ⟨[], o2, rfl, by simp, f2.mono (by omega), rfl, rfl⟩ ?_ ?_
  · rintro i s h' hi ⟨R, o', r1, r2, f', rfl, rfl⟩
    have hi2 : i < 8 := by omega
    (try simp only [SXQ, Mtd.ty, isTy, DL.isNon, CFdiv, asKey, Nat.reduceAdd, Nat.reduceLeDiff, Nat.reduceLT, Int.reduceLT, Int.reduceNeg, Int.reduceToNat, ↓reduceIte, String.reduceBEq, Nat.reduceBEq, beq_self_eq_true])
    ((try simp only [SXQ, Mtd.ty, isTy, DL.isNon, CFdiv, asKey, Nat.reduceAdd, Nat.reduceLeDiff, Nat.reduceLT, Int.reduceLT, Int.reduceNeg, Int.reduceToNat, ↓reduceIte, String.reduceBEq, Nat.reduceBEq, beq_self_eq_true]); rw [ss_cons]; simp only [SXQ, Mtd.ty, isTy, DL.isNon, CFdiv, asKey, Nat.reduceAdd, Nat.reduceLeDiff, Nat.reduceLT, Int.reduceLT, Int.reduceNeg, Int.reduceToNat, ↓reduceIte, String.reduceBEq, Nat.reduceBEq, beq_self_eq_true])
    refine drw (atF _ _) f' (by decide) (by decide) (by omega) fun t o3 t0 t1 f3 => ?_
    (try simp only [SXQ, Mtd.ty, isTy, DL.isNon, CFdiv, asKey, Nat.reduceAdd, Nat.reduceLeDiff, Nat.reduceLT, Int.reduceLT, Int.reduceNeg, Int.reduceToNat, ↓reduceIte, String.reduceBEq, Nat.reduceBEq, beq_self_eq_true, up_sw nF])
    refine drw (atF _ _) f3 (by decide) (by decide) (by omega) fun of o4 of0 of1 f4 => ?_
    (try simp only [SXQ, Mtd.ty, isTy, DL.isNon, CFdiv, asKey, Nat.reduceAdd, Nat.reduceLeDiff, Nat.reduceLT, Int.reduceLT, Int.reduceNeg, Int.reduceToNat, ↓reduceIte, String.reduceBEq, Nat.reduceBEq, beq_self_eq_true, up_sw nF])
    ((try simp only [SXQ, Mtd.ty, isTy, DL.isNon, CFdiv, asKey, Nat.reduceAdd, Nat.reduceLeDiff, Nat.reduceLT, Int.reduceLT, Int.reduceNeg, Int.reduceToNat, ↓reduceIte, String.reduceBEq, Nat.reduceBEq, beq_self_eq_true]); rw [ss_cons]; simp only [SXQ, Mtd.ty, isTy, DL.isNon, CFdiv, asKey, Nat.reduceAdd, Nat.reduceLeDiff, Nat.reduceLT, Int.reduceLT, Int.reduceNeg, Int.reduceToNat, ↓reduceIte, String.reduceBEq, Nat.reduceBEq, beq_self_eq_true])
    have ec : cutD ([.str "clock", .str "days", .str "feast", .str "day", .str "week", .str "clock", .str "days", .str "feast", .str "day"] : List D) (some t) (some (t + 5)) = (cutA (["clock", "days", "feast", "day", "week", "clock", "days", "feast", "day"] : List Str) (some t) (some (t + 5))).map Dt.d := cut_map (f := (Dt.d : Str → D)) (xs := ["clock", "days", "feast", "day", "week", "clock", "days", "feast", "day"])
    have wl5 : (cutA (["clock", "days", "feast", "day", "week", "clock", "days", "feast", "day"] : List Str) (some t) (some (t + 5))).length ≤ 5 := by
      have : t = 0 ∨ t = 1 ∨ t = 2 ∨ t = 3 ∨ t = 4 := by omega
      rcases this with rfl | rfl | rfl | rfl | rfl <;> decide
    have wk : ∀ x ∈ cutA (["clock", "days", "feast", "day", "week", "clock", "days", "feast", "day"] : List Str) (some t) (some (t + 5)), x ∈ wds := fun x hx => by
      have := cut_mem hx
      simp only [List.mem_cons, List.not_mem_nil, or_false] at this ⊢
      rcases this with h | h | h | h | h | h | h | h | h <;> simp [h]
    rw [ec]
    generalize cutA (["clock", "days", "feast", "day", "week", "clock", "days", "feast", "day"] : List Str) (some t) (some (t + 5)) = ws at wl5 wk
    (try simp only [SXQ, Mtd.ty, isTy, DL.isNon, CFdiv, asKey, Nat.reduceAdd, Nat.reduceLeDiff, Nat.reduceLT, Int.reduceLT, Int.reduceNeg, Int.reduceToNat, ↓reduceIte, String.reduceBEq, Nat.reduceBEq, beq_self_eq_true])
    ((try simp only [SXQ, Mtd.ty, isTy, DL.isNon, CFdiv, asKey, Nat.reduceAdd, Nat.reduceLeDiff, Nat.reduceLT, Int.reduceLT, Int.reduceNeg, Int.reduceToNat, ↓reduceIte, String.reduceBEq, Nat.reduceBEq, beq_self_eq_true]); rw [ss_cons]; simp only [SXQ, Mtd.ty, isTy, DL.isNon, CFdiv, asKey, Nat.reduceAdd, Nat.reduceLeDiff, Nat.reduceLT, Int.reduceLT, Int.reduceNeg, Int.reduceToNat, ↓reduceIte, String.reduceBEq, Nat.reduceBEq, beq_self_eq_true])
    refine comp_J (f := (Dt.d : Str → D)) ws (fun pre h' acc => ∃ (l : List Cnd) (o' : DO), l.length ≤ pre.length ∧ (∀ x ∈ l, CndOk x) ∧ Fl (B + 2 + 60 * i + 2 + 4 * pre.length) o' ∧ h' = up (up h F o') pp (.lst (R.map Dt.d)) ∧ acc = l.map Dt.d) (fun _ _ _ _ _ => rfl) ⟨[], o4, by simp, by simp, f4.mono (by simp; omega), rfl, rfl⟩ (by omega) ?_ ?_ ?_
    · rintro pre post h acc e ⟨l, o', l1, _, _, _, rfl⟩
      rw [List.length_map]
      exact l1
    · rintro pre x post h' acc e2 ⟨l, o5, l1, l2, f5, rfl, rfl⟩ K k' M km
      have pl : pre.length ≤ 5 := by
        have := congrArg List.length e2
        rw [List.length_append, List.length_cons] at this
        omega
      (try simp only [SXQ, Mtd.ty, isTy, DL.isNon, CFdiv, asKey, Nat.reduceAdd, Nat.reduceLeDiff, Nat.reduceLT, Int.reduceLT, Int.reduceNeg, Int.reduceToNat, ↓reduceIte, String.reduceBEq, Nat.reduceBEq, beq_self_eq_true])
      refine drw (atF _ _) f5 (by decide) (by decide) (by omega) fun d o6 d0 d1 f6 => ?_
      (try simp only [SXQ, Mtd.ty, isTy, DL.isNon, CFdiv, asKey, Nat.reduceAdd, Nat.reduceLeDiff, Nat.reduceLT, Int.reduceLT, Int.reduceNeg, Int.reduceToNat, ↓reduceIte, String.reduceBEq, Nat.reduceBEq, beq_self_eq_true, up_sw nF])
      refine dec_ite (fun g => ?_) fun g => ?_
      · refine cond_ (wk x (by rw [e2]; simp)) ok (atF _ _) f6 (by omega) fun c o7 hc f7 => ?_
        rw [up_sw nF]
        refine M _ _ ⟨l ++ [c], o7, by simp; omega, fun y hy => ?_, f7.mono (by rw [List.length_append, List.length_singleton]; omega), rfl, by rw [List.map_append]; rfl⟩
        rcases List.mem_append.mp hy with hy | hy
        · exact l2 y hy
        · rw [List.mem_singleton.mp hy]; exact hc
      · exact km _ ⟨l, o6, by simp; omega, l2, f6.mono (by rw [List.length_append, List.length_singleton]; omega), rfl, rfl⟩
    rintro h' acc ⟨l, o5, l1, l2, f5, rfl, rfl⟩
    (try simp only [SXQ, Mtd.ty, isTy, DL.isNon, CFdiv, asKey, Nat.reduceAdd, Nat.reduceLeDiff, Nat.reduceLT, Int.reduceLT, Int.reduceNeg, Int.reduceToNat, ↓reduceIte, String.reduceBEq, Nat.reduceBEq, beq_self_eq_true])
    ((try simp only [SXQ, Mtd.ty, isTy, DL.isNon, CFdiv, asKey, Nat.reduceAdd, Nat.reduceLeDiff, Nat.reduceLT, Int.reduceLT, Int.reduceNeg, Int.reduceToNat, ↓reduceIte, String.reduceBEq, Nat.reduceBEq, beq_self_eq_true]); rw [ss_cons]; simp only [SXQ, Mtd.ty, isTy, DL.isNon, CFdiv, asKey, Nat.reduceAdd, Nat.reduceLeDiff, Nat.reduceLT, Int.reduceLT, Int.reduceNeg, Int.reduceToNat, ↓reduceIte, String.reduceBEq, Nat.reduceBEq, beq_self_eq_true])
    refine ⟨by unfold CMul; omega, ?_⟩
    refine drw (atF _ _) f5 (by decide) (by decide) (by omega) fun a1 o6 a10 a11 f6 => ?_
    (try simp only [SXQ, Mtd.ty, isTy, DL.isNon, CFdiv, asKey, Nat.reduceAdd, Nat.reduceLeDiff, Nat.reduceLT, Int.reduceLT, Int.reduceNeg, Int.reduceToNat, ↓reduceIte, String.reduceBEq, Nat.reduceBEq, beq_self_eq_true, up_sw nF])
    refine drw (atF _ _) f6 (by decide) (by decide) (by omega) fun a2 o7 a20 a21 f7 => ?_
    (try simp only [SXQ, Mtd.ty, isTy, DL.isNon, CFdiv, asKey, Nat.reduceAdd, Nat.reduceLeDiff, Nat.reduceLT, Int.reduceLT, Int.reduceNeg, Int.reduceToNat, ↓reduceIte, String.reduceBEq, Nat.reduceBEq, beq_self_eq_true, up_sw nF])
    refine ⟨by unfold CMul; omega, ?_⟩
    refine drw (atF _ _) f7 (by decide) (by decide) (by omega) fun a3 o8 a30 a31 f8 => ?_
    (try simp only [SXQ, Mtd.ty, isTy, DL.isNon, CFdiv, asKey, Nat.reduceAdd, Nat.reduceLeDiff, Nat.reduceLT, Int.reduceLT, Int.reduceNeg, Int.reduceToNat, ↓reduceIte, String.reduceBEq, Nat.reduceBEq, beq_self_eq_true, up_sw nF])
    refine at_v (f := D.int) (xs := [9 * (0 + (i : Int)), 50 - (0 + (i : Int)), a1, 99 * a2, a3]) kd0 (by simpa using kd1) fun rk hrk _ => ?_
    simp only [List.mem_cons, List.not_mem_nil, or_false] at hrk
    (try simp only [SXQ, Mtd.ty, isTy, DL.isNon, CFdiv, asKey, Nat.reduceAdd, Nat.reduceLeDiff, Nat.reduceLT, Int.reduceLT, Int.reduceNeg, Int.reduceToNat, ↓reduceIte, String.reduceBEq, Nat.reduceBEq, beq_self_eq_true])
    ((try simp only [SXQ, Mtd.ty, isTy, DL.isNon, CFdiv, asKey, Nat.reduceAdd, Nat.reduceLeDiff, Nat.reduceLT, Int.reduceLT, Int.reduceNeg, Int.reduceToNat, ↓reduceIte, String.reduceBEq, Nat.reduceBEq, beq_self_eq_true]); rw [ss_cons]; simp only [SXQ, Mtd.ty, isTy, DL.isNon, CFdiv, asKey, Nat.reduceAdd, Nat.reduceLeDiff, Nat.reduceLT, Int.reduceLT, Int.reduceNeg, Int.reduceToNat, ↓reduceIte, String.reduceBEq, Nat.reduceBEq, beq_self_eq_true])
    refine at_v (f := (Dt.d : Str → D)) (xs := N) (by omega) (by omega) fun nm hnm _ => ?_
    (try simp only [SXQ, Mtd.ty, isTy, DL.isNon, CFdiv, asKey, Nat.reduceAdd, Nat.reduceLeDiff, Nat.reduceLT, Int.reduceLT, Int.reduceNeg, Int.reduceToNat, ↓reduceIte, String.reduceBEq, Nat.reduceBEq, beq_self_eq_true])
    refine of_ (f := (Dt.d : Str → D)) S (atF _ _) f8 s0 (by omega) (by omega) fun so o9 hso f9 => ?_
    (try simp only [SXQ, Mtd.ty, isTy, DL.isNon, CFdiv, asKey, Nat.reduceAdd, Nat.reduceLeDiff, Nat.reduceLT, Int.reduceLT, Int.reduceNeg, Int.reduceToNat, ↓reduceIte, String.reduceBEq, Nat.reduceBEq, beq_self_eq_true, up_sw nF, List.length_map])
    refine ⟨by omega, ?_⟩
    ((try simp only [SXQ, Mtd.ty, isTy, DL.isNon, CFdiv, asKey, Nat.reduceAdd, Nat.reduceLeDiff, Nat.reduceLT, Int.reduceLT, Int.reduceNeg, Int.reduceToNat, ↓reduceIte, String.reduceBEq, Nat.reduceBEq, beq_self_eq_true]); rw [ss_cons]; simp only [SXQ, Mtd.ty, isTy, DL.isNon, CFdiv, asKey, Nat.reduceAdd, Nat.reduceLeDiff, Nat.reduceLT, Int.reduceLT, Int.reduceNeg, Int.reduceToNat, ↓reduceIte, String.reduceBEq, Nat.reduceBEq, beq_self_eq_true])
    ((try simp only [SXQ, Mtd.ty, isTy, DL.isNon, CFdiv, asKey, Nat.reduceAdd, Nat.reduceLeDiff, Nat.reduceLT, Int.reduceLT, Int.reduceNeg, Int.reduceToNat, ↓reduceIte, String.reduceBEq, Nat.reduceBEq, beq_self_eq_true]); rw [ss_nil])
    refine ⟨R ++ [⟨nm, rk, so, ⟨l⟩⟩], o9, by simp [r1], fun r hr => ?_, f9.mono (by omega), rfl, by rw [List.map_append]; rfl⟩
    rcases List.mem_append.mp hr with hr | hr
    · exact r2 r hr
    · rw [List.mem_singleton.mp hr]
      exact ⟨nk nm hnm, ⟨by dsimp only; omega, by dsimp only; omega⟩, hso, by show l.length ≤ 5; omega, l2⟩
  · rintro s h' ⟨R, o', r1, r2, f', rfl, rfl⟩
    have npF : up h F o' pp = none := by rw [up_ne nF]; exact np'
    ((try simp only [SXQ, Mtd.ty, isTy, DL.isNon, CFdiv, asKey, Nat.reduceAdd, Nat.reduceLeDiff, Nat.reduceLT, Int.reduceLT, Int.reduceNeg, Int.reduceToNat, ↓reduceIte, String.reduceBEq, Nat.reduceBEq, beq_self_eq_true]); rw [ss_cons]; simp only [SXQ, Mtd.ty, isTy, DL.isNon, CFdiv, asKey, Nat.reduceAdd, Nat.reduceLeDiff, Nat.reduceLT, Int.reduceLT, Int.reduceNeg, Int.reduceToNat, ↓reduceIte, String.reduceBEq, Nat.reduceBEq, beq_self_eq_true, wFrz_at up_at, rm_up npF])
    ((try simp only [SXQ, Mtd.ty, isTy, DL.isNon, CFdiv, asKey, Nat.reduceAdd, Nat.reduceLeDiff, Nat.reduceLT, Int.reduceLT, Int.reduceNeg, Int.reduceToNat, ↓reduceIte, String.reduceBEq, Nat.reduceBEq, beq_self_eq_true]); rw [ss_cons]; simp only [SXQ, Mtd.ty, isTy, DL.isNon, CFdiv, asKey, Nat.reduceAdd, Nat.reduceLeDiff, Nat.reduceLT, Int.reduceLT, Int.reduceNeg, Int.reduceToNat, ↓reduceIte, String.reduceBEq, Nat.reduceBEq, beq_self_eq_true])
    exact q R o' (by omega) r2 (f'.mono (by omega))
theorem book_ {F : Addr} {o : DO} {B most : Int} {p : Po} (ok : PoOk p) (m0 : 0 ≤ most) (m1 : most ≤ 8) (e : h F = some o) (f : Fl B o) (hB : B ≤ 800000) (q : ∀ (b : Bk) o', BkOk b → b.c.l.length ≤ 8 → Fl (B + 1000) o' → Q (Dt.d b) (up h F o')) : run gl ds (n + 5) 12 [.ref F, .fl (poD p), .int most] h Q E := by
  refine e12 ?_
  ((try simp only [SXQ, Mtd.ty, isTy, DL.isNon, CFdiv, asKey, Nat.reduceAdd, Nat.reduceLeDiff, Nat.reduceLT, Int.reduceLT, Int.reduceNeg, Int.reduceToNat, ↓reduceIte, String.reduceBEq, Nat.reduceBEq, beq_self_eq_true]); rw [ss_cons]; simp only [SXQ, Mtd.ty, isTy, DL.isNon, CFdiv, asKey, Nat.reduceAdd, Nat.reduceLeDiff, Nat.reduceLT, Int.reduceLT, Int.reduceNeg, Int.reduceToNat, ↓reduceIte, String.reduceBEq, Nat.reduceBEq, beq_self_eq_true])
  refine names_ e f (by omega) fun N o1 nl nd nk f1 => al_frz ?_
  (try simp only [SXQ, Mtd.ty, isTy, DL.isNon, CFdiv, asKey, Nat.reduceAdd, Nat.reduceLeDiff, Nat.reduceLT, Int.reduceLT, Int.reduceNeg, Int.reduceToNat, ↓reduceIte, String.reduceBEq, Nat.reduceBEq, beq_self_eq_true])
  ((try simp only [SXQ, Mtd.ty, isTy, DL.isNon, CFdiv, asKey, Nat.reduceAdd, Nat.reduceLeDiff, Nat.reduceLT, Int.reduceLT, Int.reduceNeg, Int.reduceToNat, ↓reduceIte, String.reduceBEq, Nat.reduceBEq, beq_self_eq_true]); rw [ss_cons]; simp only [SXQ, Mtd.ty, isTy, DL.isNon, CFdiv, asKey, Nat.reduceAdd, Nat.reduceLeDiff, Nat.reduceLT, Int.reduceLT, Int.reduceNeg, Int.reduceToNat, ↓reduceIte, String.reduceBEq, Nat.reduceBEq, beq_self_eq_true])
  refine drw up_at f1 (by decide) (by decide) (by omega) fun a o2 a0 a1 f2 => ?_
  (try simp only [SXQ, Mtd.ty, isTy, DL.isNon, CFdiv, asKey, Nat.reduceAdd, Nat.reduceLeDiff, Nat.reduceLT, Int.reduceLT, Int.reduceNeg, Int.reduceToNat, ↓reduceIte, String.reduceBEq, Nat.reduceBEq, beq_self_eq_true])
  refine at_v (f := D.int) (xs := [4, 9]) a0 (by simpa using a1) fun v hv _ => ?_
  simp only [List.mem_cons, List.not_mem_nil, or_false] at hv
  (try simp only [SXQ, Mtd.ty, isTy, DL.isNon, CFdiv, asKey, Nat.reduceAdd, Nat.reduceLeDiff, Nat.reduceLT, Int.reduceLT, Int.reduceNeg, Int.reduceToNat, ↓reduceIte, String.reduceBEq, Nat.reduceBEq, beq_self_eq_true])
  refine drw up_at f2 (by omega) (by omega) (by omega) fun c o3 c0 c1 f3 => ?_
  (try simp only [SXQ, Mtd.ty, isTy, DL.isNon, CFdiv, asKey, Nat.reduceAdd, Nat.reduceLeDiff, Nat.reduceLT, Int.reduceLT, Int.reduceNeg, Int.reduceToNat, ↓reduceIte, String.reduceBEq, Nat.reduceBEq, beq_self_eq_true, cut_map, cut_hi (show (0 : Int) ≤ 1 + c by omega)])
  refine srt_v (N.take (1 + c).toNat) rfl strs_ok ?_ (by decide) (by rw [List.length_take]; omega)
  have sl : (srt (N.take (1 + c).toNat)).length = (1 + c).toNat := by rw [(srt_perm _).length_eq, List.length_take]; omega
  have sd : (srt (N.take (1 + c).toNat)).Nodup := (srt_perm _).nodup_iff.mpr (nd.sublist (List.take_sublist _ _))
  have sk : ∀ x ∈ srt (N.take (1 + c).toNat), NmOk x := fun x hx => nk x (List.mem_of_mem_take ((srt_perm _).mem_iff.mp hx))
  generalize srt (N.take (1 + c).toNat) = S at sl sd sk ⊢
  (try simp only [SXQ, Mtd.ty, isTy, DL.isNon, CFdiv, asKey, Nat.reduceAdd, Nat.reduceLeDiff, Nat.reduceLT, Int.reduceLT, Int.reduceNeg, Int.reduceToNat, ↓reduceIte, String.reduceBEq, Nat.reduceBEq, beq_self_eq_true])
  ((try simp only [SXQ, Mtd.ty, isTy, DL.isNon, CFdiv, asKey, Nat.reduceAdd, Nat.reduceLeDiff, Nat.reduceLT, Int.reduceLT, Int.reduceNeg, Int.reduceToNat, ↓reduceIte, String.reduceBEq, Nat.reduceBEq, beq_self_eq_true]); rw [ss_cons]; simp only [SXQ, Mtd.ty, isTy, DL.isNon, CFdiv, asKey, Nat.reduceAdd, Nat.reduceLeDiff, Nat.reduceLT, Int.reduceLT, Int.reduceNeg, Int.reduceToNat, ↓reduceIte, String.reduceBEq, Nat.reduceBEq, beq_self_eq_true])
  refine comp_J (f := (Dt.d : Str → D)) S (fun pre h' acc => ∃ (l : List Int) (o' : DO), l.length = pre.length ∧ (∀ x ∈ l, 0 ≤ x ∧ x ≤ 1000000) ∧ Fl (B + 60 + 3 * pre.length) o' ∧ h' = up h F o' ∧ acc = l.map D.int) (fun _ _ _ _ _ => rfl) ⟨[], o3, rfl, by simp, f3.mono (by simp; omega), rfl, rfl⟩ (by omega) ?_ ?_ ?_
  · rintro pre post h acc e ⟨l, o', l1, _, _, _, rfl⟩
    rw [List.length_map, l1]
    exact Nat.le_refl _
  · rintro pre x post h' acc e2 ⟨l, o', l1, l2, f', rfl, rfl⟩ K k' M km
    have pl : pre.length ≤ 10 := by
      have := congrArg List.length e2
      rw [List.length_append, List.length_cons] at this
      omega
    have z6 : (10 : Int) ^ 6 = 1000000 := by decide
    (try simp only [SXQ, Mtd.ty, isTy, DL.isNon, CFdiv, asKey, Nat.reduceAdd, Nat.reduceLeDiff, Nat.reduceLT, Int.reduceLT, Int.reduceNeg, Int.reduceToNat, ↓reduceIte, String.reduceBEq, Nat.reduceBEq, beq_self_eq_true])
    refine drw up_at f' (by decide) (by decide) (by omega) fun d o4 d0 d1 f4 => ?_
    (try simp only [SXQ, Mtd.ty, isTy, DL.isNon, CFdiv, asKey, Nat.reduceAdd, Nat.reduceLeDiff, Nat.reduceLT, Int.reduceLT, Int.reduceNeg, Int.reduceToNat, ↓reduceIte, String.reduceBEq, Nat.reduceBEq, beq_self_eq_true])
    refine ⟨⟨by decide, by decide, by decide⟩, ?_⟩
    refine drw up_at f4 (by decide) (by decide) (by omega) fun d2 o5 d20 d21 f5 => ?_
    (try simp only [SXQ, Mtd.ty, isTy, DL.isNon, CFdiv, asKey, Nat.reduceAdd, Nat.reduceLeDiff, Nat.reduceLT, Int.reduceLT, Int.reduceNeg, Int.reduceToNat, ↓reduceIte, String.reduceBEq, Nat.reduceBEq, beq_self_eq_true])
    refine ⟨⟨by decide, by decide, by decide⟩, ?_⟩
    refine drw up_at f5 (by decide) (by decide) (by omega) fun d3 o6 d30 d31 f6 => ?_
    (try simp only [SXQ, Mtd.ty, isTy, DL.isNon, CFdiv, asKey, Nat.reduceAdd, Nat.reduceLeDiff, Nat.reduceLT, Int.reduceLT, Int.reduceNeg, Int.reduceToNat, ↓reduceIte, String.reduceBEq, Nat.reduceBEq, beq_self_eq_true])
    refine at_v (f := D.int) (xs := [d, d2, 10 ^ 6]) d30 (by simpa using d31) fun v hv _ => ?_
    simp only [List.mem_cons, List.not_mem_nil, or_false] at hv
    have d21 : d2 < 1000001 := by rw [← z6] at *; exact d21
    refine M _ _ ⟨l ++ [v], o6, by simp [l1], fun x hx => ?_, f6.mono (by rw [List.length_append, List.length_singleton]; omega), rfl, by rw [List.map_append]; rfl⟩
    rcases List.mem_append.mp hx with hx | hx
    · exact l2 x hx
    · rw [List.mem_singleton.mp hx]; omega
  rintro h' acc ⟨l, o4, l1, l2, f4, rfl, rfl⟩
  (try simp only [SXQ, Mtd.ty, isTy, DL.isNon, CFdiv, asKey, Nat.reduceAdd, Nat.reduceLeDiff, Nat.reduceLT, Int.reduceLT, Int.reduceNeg, Int.reduceToNat, ↓reduceIte, String.reduceBEq, Nat.reduceBEq, beq_self_eq_true])
  ((try simp only [SXQ, Mtd.ty, isTy, DL.isNon, CFdiv, asKey, Nat.reduceAdd, Nat.reduceLeDiff, Nat.reduceLT, Int.reduceLT, Int.reduceNeg, Int.reduceToNat, ↓reduceIte, String.reduceBEq, Nat.reduceBEq, beq_self_eq_true]); rw [ss_cons]; simp only [SXQ, Mtd.ty, isTy, DL.isNon, CFdiv, asKey, Nat.reduceAdd, Nat.reduceLeDiff, Nat.reduceLT, Int.reduceLT, Int.reduceNeg, Int.reduceToNat, ↓reduceIte, String.reduceBEq, Nat.reduceBEq, beq_self_eq_true])
  refine of_ (f := (Dt.d : Str → D)) S up_at f4 (by omega) (by omega) (by omega) fun ba o5 hba f5 => ?_
  (try simp only [SXQ, Mtd.ty, isTy, DL.isNon, CFdiv, asKey, Nat.reduceAdd, Nat.reduceLeDiff, Nat.reduceLT, Int.reduceLT, Int.reduceNeg, Int.reduceToNat, ↓reduceIte, String.reduceBEq, Nat.reduceBEq, beq_self_eq_true, List.length_map])
  refine ⟨by omega, ?_⟩
  have zz : zipD (S.map Dt.d) (l.map D.int) = (S.zip l).map Dt.d := by
    unfold zipD
    rw [List.zip_map, List.map_map]
    rfl
  rw [zz]
  (try simp only [SXQ, Mtd.ty, isTy, DL.isNon, CFdiv, asKey, Nat.reduceAdd, Nat.reduceLeDiff, Nat.reduceLT, Int.reduceLT, Int.reduceNeg, Int.reduceToNat, ↓reduceIte, String.reduceBEq, Nat.reduceBEq, beq_self_eq_true, cut_map, cut_lo (show (0 : Int) ≤ 3 by decide)])
  have k1 : (S.zip l).map (·.1) = S := List.map_fst_zip (by omega)
  refine rules_ ok m0 m1 (N := N.drop (3 : Int).toNat) (by rw [List.length_drop]; show 9 ≤ N.length - 3; omega) (fun x hx => nk x (List.mem_of_mem_drop hx)) (by omega) (by omega) up_at f5 (by omega) fun R o6 rl rk f6 => ?_
  (try simp only [SXQ, Mtd.ty, isTy, DL.isNon, CFdiv, asKey, Nat.reduceAdd, Nat.reduceLeDiff, Nat.reduceLT, Int.reduceLT, Int.reduceNeg, Int.reduceToNat, ↓reduceIte, String.reduceBEq, Nat.reduceBEq, beq_self_eq_true])
  refine q ⟨ba, ⟨S.zip l⟩, ⟨R⟩⟩ o6 ⟨?_, fun x hx => ⟨sk x.1 (List.of_mem_zip hx).1, l2 x.2 (List.of_mem_zip hx).2⟩, ?_, ?_, fun r hr => ?_, by show R.length ≤ 20; omega⟩ rl (f6.mono (by omega))
  · have : ((S.zip l).map (·.1)).Nodup := by rw [k1]; exact sd
    exact List.pairwise_map.mp this
  · show 1 ≤ (S.zip l).length ∧ (S.zip l).length ≤ 9
    rw [List.length_zip]
    omega
  · show ba ∈ (S.zip l).map (·.1)
    rw [k1]; exact hba
  · show RlOk ((S.zip l).map (·.1)) r
    rw [k1]; exact rk r hr
end
end Qk58

namespace Qk58
open PySem DL L2
structure WkOk (b : Bk) : Prop where
  a : NmOk b.a
  r : ∀ x ∈ b.b.l, NmOk x.1 ∧ 0 ≤ x.2 ∧ x.2 ≤ 1000000
  l : b.b.l.length ≤ 18
  k : ∀ r ∈ b.c.l, NmOk r.a ∧ (0 ≤ r.b ∧ r.b ≤ 99) ∧ NmOk r.c ∧ r.d.l.length ≤ 5 ∧ ∀ c ∈ r.d.l, CndOk c
  m : b.c.l.length ≤ 8
theorem tups {α : Type} [Dt α] {xs : List α} (h : ∀ x : α, ∃ y r, toPy (Dt.d x) = .tuple (y :: r)) : PySem.W.Sortable (xs.map fun x => toPy (Dt.d x)) := .inl fun d hd => by
  obtain ⟨x, _, rfl⟩ := List.mem_map.mp hd
  exact h x
theorem lst_kt {y z : Bool} {xs : List D} {h : DH} {Q : QD} : wB z .list [.kt y xs] h Q = al z (.lst xs) h Q := rfl
section
variable {n : Nat} {h : DH} {Q : QD} {E : XD}
theorem wide_ {F : Addr} {o : DO} {B : Int} (e : h F = some o) (f : Fl B o) (hB : B ≤ 700000) (q : ∀ (b : Bk) o', WkOk b → Fl (B + 1500) o' → Q (Dt.d b) (up h F o')) : run gl ds (n + 6) 13 [.ref F] h Q E := by
  refine e13 ?_
  ((try simp only [SXQ, Mtd.ty, isTy, DL.isNon, CFdiv, asKey, Nat.reduceAdd, Nat.reduceLeDiff, Nat.reduceLT, Int.reduceLT, Int.reduceNeg, Int.reduceToNat, ↓reduceIte, String.reduceBEq, Nat.reduceBEq, beq_self_eq_true]); rw [ss_cons]; simp only [SXQ, Mtd.ty, isTy, DL.isNon, CFdiv, asKey, Nat.reduceAdd, Nat.reduceLeDiff, Nat.reduceLT, Int.reduceLT, Int.reduceNeg, Int.reduceToNat, ↓reduceIte, String.reduceBEq, Nat.reduceBEq, beq_self_eq_true])
  refine pools_ (by decide) (by decide) (by decide) e f (by omega) fun p o1 pk f1 => al_frz ?_
  (try simp only [SXQ, Mtd.ty, isTy, DL.isNon, CFdiv, asKey, Nat.reduceAdd, Nat.reduceLeDiff, Nat.reduceLT, Int.reduceLT, Int.reduceNeg, Int.reduceToNat, ↓reduceIte, String.reduceBEq, Nat.reduceBEq, beq_self_eq_true])
  ((try simp only [SXQ, Mtd.ty, isTy, DL.isNon, CFdiv, asKey, Nat.reduceAdd, Nat.reduceLeDiff, Nat.reduceLT, Int.reduceLT, Int.reduceNeg, Int.reduceToNat, ↓reduceIte, String.reduceBEq, Nat.reduceBEq, beq_self_eq_true]); rw [ss_cons]; simp only [SXQ, Mtd.ty, isTy, DL.isNon, CFdiv, asKey, Nat.reduceAdd, Nat.reduceLeDiff, Nat.reduceLT, Int.reduceLT, Int.reduceNeg, Int.reduceToNat, ↓reduceIte, String.reduceBEq, Nat.reduceBEq, beq_self_eq_true])
  refine book_ pk (by decide) (by decide) up_at f1 (by omega) fun b o2 ok cl f2 => ?_
  have bl := ok.l
  (try simp only [SXQ, Mtd.ty, isTy, DL.isNon, CFdiv, asKey, Nat.reduceAdd, Nat.reduceLeDiff, Nat.reduceLT, Int.reduceLT, Int.reduceNeg, Int.reduceToNat, ↓reduceIte, String.reduceBEq, Nat.reduceBEq, beq_self_eq_true])
  ((try simp only [SXQ, Mtd.ty, isTy, DL.isNon, CFdiv, asKey, Nat.reduceAdd, Nat.reduceLeDiff, Nat.reduceLT, Int.reduceLT, Int.reduceNeg, Int.reduceToNat, ↓reduceIte, String.reduceBEq, Nat.reduceBEq, beq_self_eq_true]); rw [ss_cons]; simp only [SXQ, Mtd.ty, isTy, DL.isNon, CFdiv, asKey, Nat.reduceAdd, Nat.reduceLeDiff, Nat.reduceLT, Int.reduceLT, Int.reduceNeg, Int.reduceToNat, ↓reduceIte, String.reduceBEq, Nat.reduceBEq, beq_self_eq_true])
  rw [V_ptl b.b, any_kt]
  refine comp_mv b.b.l (fun x : Str × Int => x.1) (fun x hx K k M => ?_) (by omega) ?_
  · (try simp only [SXQ, Mtd.ty, isTy, DL.isNon, CFdiv, asKey, Nat.reduceAdd, Nat.reduceLeDiff, Nat.reduceLT, Int.reduceLT, Int.reduceNeg, Int.reduceToNat, ↓reduceIte, String.reduceBEq, Nat.reduceBEq, beq_self_eq_true])
    exact k
  ((try simp only [SXQ, Mtd.ty, isTy, DL.isNon, CFdiv, asKey, Nat.reduceAdd, Nat.reduceLeDiff, Nat.reduceLT, Int.reduceLT, Int.reduceNeg, Int.reduceToNat, ↓reduceIte, String.reduceBEq, Nat.reduceBEq, beq_self_eq_true]); rw [ss_cons]; simp only [SXQ, Mtd.ty, isTy, DL.isNon, CFdiv, asKey, Nat.reduceAdd, Nat.reduceLeDiff, Nat.reduceLT, Int.reduceLT, Int.reduceNeg, Int.reduceToNat, ↓reduceIte, String.reduceBEq, Nat.reduceBEq, beq_self_eq_true])
  refine names_ up_at f2 (by omega) fun N o3 nl nd nk f3 => al_frz ?_
  (try simp only [SXQ, Mtd.ty, isTy, DL.isNon, CFdiv, asKey, Nat.reduceAdd, Nat.reduceLeDiff, Nat.reduceLT, Int.reduceLT, Int.reduceNeg, Int.reduceToNat, ↓reduceIte, String.reduceBEq, Nat.reduceBEq, beq_self_eq_true])
  refine drw up_at f3 (by decide) (by decide) (by omega) fun d o4 d0 d1 f4 => ?_
  (try simp only [SXQ, Mtd.ty, isTy, DL.isNon, CFdiv, asKey, Nat.reduceAdd, Nat.reduceLeDiff, Nat.reduceLT, Int.reduceLT, Int.reduceNeg, Int.reduceToNat, ↓reduceIte, String.reduceBEq, Nat.reduceBEq, beq_self_eq_true, cut_map, cut_hi d0])
  have tl : (N.take d.toNat).length ≤ 8 := by rw [List.length_take]; omega
  refine comp_pv (N.take d.toNat) (fun x => !decide (x ∈ b.b.l.map (·.1))) (fun x => x) (fun x hx K M k m => ?_) (by omega) ?_
  · (try simp only [SXQ, Mtd.ty, isTy, DL.isNon, CFdiv, asKey, Nat.reduceAdd, Nat.reduceLeDiff, Nat.reduceLT, Int.reduceLT, Int.reduceNeg, Int.reduceToNat, ↓reduceIte, String.reduceBEq, Nat.reduceBEq, beq_self_eq_true])
    refine in_w x (b.b.l.map fun x : Str × Int => x.1) ?_
    by_cases g : x ∈ b.b.l.map fun x : Str × Int => x.1
    · simp only [g, decide_true]
      exact m (by simp [g])
    · simp only [g, decide_false]
      exact k (by simp [g])
  rw [show ∀ l : List Str, l.map (fun x => x) = l from List.map_id]
  have ml : ((N.take d.toNat).filter fun x => !decide (x ∈ b.b.l.map (·.1))).length ≤ 8 := Nat.le_trans (List.length_filter_le _ _) tl
  have mk : ∀ x ∈ (N.take d.toNat).filter (fun x => !decide (x ∈ b.b.l.map (·.1))), NmOk x := fun x hx => nk x (List.mem_of_mem_take (List.mem_filter.mp hx).1)
  generalize (N.take d.toNat).filter (fun x => !decide (x ∈ b.b.l.map (·.1))) = M at ml mk
  (try simp only [SXQ, Mtd.ty, isTy, DL.isNon, CFdiv, asKey, Nat.reduceAdd, Nat.reduceLeDiff, Nat.reduceLT, Int.reduceLT, Int.reduceNeg, Int.reduceToNat, ↓reduceIte, String.reduceBEq, Nat.reduceBEq, beq_self_eq_true])
  ((try simp only [SXQ, Mtd.ty, isTy, DL.isNon, CFdiv, asKey, Nat.reduceAdd, Nat.reduceLeDiff, Nat.reduceLT, Int.reduceLT, Int.reduceNeg, Int.reduceToNat, ↓reduceIte, String.reduceBEq, Nat.reduceBEq, beq_self_eq_true]); rw [ss_cons]; simp only [SXQ, Mtd.ty, isTy, DL.isNon, CFdiv, asKey, Nat.reduceAdd, Nat.reduceLeDiff, Nat.reduceLT, Int.reduceLT, Int.reduceNeg, Int.reduceToNat, ↓reduceIte, String.reduceBEq, Nat.reduceBEq, beq_self_eq_true])
  ((try simp only [SXQ, Mtd.ty, isTy, DL.isNon, CFdiv, asKey, Nat.reduceAdd, Nat.reduceLeDiff, Nat.reduceLT, Int.reduceLT, Int.reduceNeg, Int.reduceToNat, ↓reduceIte, String.reduceBEq, Nat.reduceBEq, beq_self_eq_true]); rw [ss_cons]; simp only [SXQ, Mtd.ty, isTy, DL.isNon, CFdiv, asKey, Nat.reduceAdd, Nat.reduceLeDiff, Nat.reduceLT, Int.reduceLT, Int.reduceNeg, Int.reduceToNat, ↓reduceIte, String.reduceBEq, Nat.reduceBEq, beq_self_eq_true])
  refine comp_J (f := (Dt.d : Str → D)) M (fun pre h' acc => ∃ (l : List (Str × Int)) (o' : DO), l.length = pre.length ∧ (∀ x ∈ l, NmOk x.1 ∧ 0 ≤ x.2 ∧ x.2 ≤ 1000000) ∧ Fl (B + 1200 + pre.length) o' ∧ h' = up h F o' ∧ acc = l.map Dt.d) (fun _ _ _ _ _ => rfl) ⟨[], o4, rfl, by simp, f4.mono (by simp; omega), rfl, rfl⟩ (by omega) ?_ ?_ ?_
  · rintro pre post h acc e ⟨l, o', l1, _, _, _, rfl⟩
    rw [List.length_map, l1]
    exact Nat.le_refl _
  · rintro pre x post h' acc e2 ⟨l, o', l1, l2, f', rfl, rfl⟩ K k' M' km
    have pl : pre.length ≤ 8 := by
      have := congrArg List.length e2
      rw [List.length_append, List.length_cons] at this
      omega
    (try simp only [SXQ, Mtd.ty, isTy, DL.isNon, CFdiv, asKey, Nat.reduceAdd, Nat.reduceLeDiff, Nat.reduceLT, Int.reduceLT, Int.reduceNeg, Int.reduceToNat, ↓reduceIte, String.reduceBEq, Nat.reduceBEq, beq_self_eq_true])
    refine of_ (f := D.int) [0, 1, 9, 10, 100, 1000, 10000, 99999, 100000, 999999, 1000000, 305070] up_at f' (by simp) (by simp) (by omega) fun v o5 hv f5 => ?_
    simp only [List.mem_cons, List.not_mem_nil, or_false] at hv
    (try simp only [SXQ, Mtd.ty, isTy, DL.isNon, CFdiv, asKey, Nat.reduceAdd, Nat.reduceLeDiff, Nat.reduceLT, Int.reduceLT, Int.reduceNeg, Int.reduceToNat, ↓reduceIte, String.reduceBEq, Nat.reduceBEq, beq_self_eq_true])
    refine M' _ _ ⟨l ++ [(x, v)], o5, by simp [l1], fun y hy => ?_, f5.mono (by rw [List.length_append, List.length_singleton]; omega), rfl, by rw [List.map_append]; rfl⟩
    rcases List.mem_append.mp hy with hy | hy
    · exact l2 y hy
    · rw [List.mem_singleton.mp hy]
      exact ⟨mk x (by rw [e2]; simp), by dsimp only; omega, by dsimp only; omega⟩
  rintro h' acc ⟨X, o5, l1, l2, f5, rfl, rfl⟩
  (try simp only [SXQ, Mtd.ty, isTy, DL.isNon, CFdiv, asKey, Nat.reduceAdd, Nat.reduceLeDiff, Nat.reduceLT, Int.reduceLT, Int.reduceNeg, Int.reduceToNat, ↓reduceIte, String.reduceBEq, Nat.reduceBEq, beq_self_eq_true])
  ((try simp only [SXQ, Mtd.ty, isTy, DL.isNon, CFdiv, asKey, Nat.reduceAdd, Nat.reduceLeDiff, Nat.reduceLT, Int.reduceLT, Int.reduceNeg, Int.reduceToNat, ↓reduceIte, String.reduceBEq, Nat.reduceBEq, beq_self_eq_true]); rw [ss_cons]; simp only [SXQ, Mtd.ty, isTy, DL.isNon, CFdiv, asKey, Nat.reduceAdd, Nat.reduceLeDiff, Nat.reduceLT, Int.reduceLT, Int.reduceNeg, Int.reduceToNat, ↓reduceIte, String.reduceBEq, Nat.reduceBEq, beq_self_eq_true, lst_kt, List.length_map])
  refine ⟨by omega, ?_⟩
  refine srt_v (b.b.l ++ X) (by rw [List.map_append]; rfl) (tups fun x => ⟨_, _, P_pr x⟩) ?_ (by decide) (by rw [List.length_append]; omega)
  (try simp only [SXQ, Mtd.ty, isTy, DL.isNon, CFdiv, asKey, Nat.reduceAdd, Nat.reduceLeDiff, Nat.reduceLT, Int.reduceLT, Int.reduceNeg, Int.reduceToNat, ↓reduceIte, String.reduceBEq, Nat.reduceBEq, beq_self_eq_true])
  have mem : ∀ x ∈ srt (b.b.l ++ X), NmOk x.1 ∧ 0 ≤ x.2 ∧ x.2 ≤ 1000000 := fun x hx => by
    rcases List.mem_append.mp ((srt_perm _).mem_iff.mp hx) with hx | hx
    · exact ok.r x hx
    · exact l2 x hx
  refine q ⟨b.a, ⟨srt (b.b.l ++ X)⟩, b.c⟩ o5 ⟨?_, mem, ?_, fun r hr => ?_, cl⟩ (f5.mono (by omega))
  · obtain ⟨x, hx, e⟩ := List.mem_map.mp ok.a
    rw [← e]
    exact (ok.r x hx).1
  · rw [(srt_perm _).length_eq, List.length_append]
    omega
  · have k := ok.k r hr
    refine ⟨k.a, k.b, ?_, k.l, k.d⟩
    obtain ⟨x, hx, e⟩ := List.mem_map.mp k.c
    rw [← e]
    exact (ok.r x hx).1
end
end Qk58

namespace Qk58
open PySem DL L2
def ts (n : Int) : Str := Str.ofString (toString n)
def two (n : Int) : Str := ts (n / 10) ++ ts (n % 10)
def clk (c : Int) : Str := two (c / 60) ++ ":" ++ two (c % 60)
theorem lg {i : Int} (h0 : 0 ≤ i) (h1 : i ≤ 2000000) : i.natAbs.log2 < 1920 := by
  by_cases z : i.natAbs = 0
  · rw [z]; decide
  · exact (Nat.log2_lt z).mpr (Nat.lt_of_lt_of_le (show i.natAbs < 2 ^ 21 by omega) (Nat.pow_le_pow_right (by decide) (by decide)))
theorem ts_len {i : Int} (h0 : 0 ≤ i) (h1 : i ≤ 2000000) : (ts i).length ≤ 8 := PyProof.Rows.toString_length_le h0 (k := 8) (by decide) (by show i < 10 ^ 8; omega)
theorem two_eq {n : Int} (h0 : 0 ≤ n) (h1 : n < 60) : cutS (ts (100 + n)) (some 1) none = two n := by
  have key : ∀ k : Fin 60, cutS (ts (100 + (k.val : Int))) (some 1) none = two (k.val : Int) := by decide +kernel
  have := key ⟨n.toNat, by omega⟩
  have e : ((n.toNat : Nat) : Int) = n := by omega
  dsimp only at this
  rw [e] at this
  exact this
theorem two_len {n : Int} (h0 : 0 ≤ n) (h1 : n < 100) : (two n).length ≤ 16 := by
  unfold two
  rw [tx_len_app]
  have := ts_len (i := n / 10) (by omega) (by omega)
  have := ts_len (i := n % 10) (by omega) (by omega)
  omega
section
variable {n : Nat} {h : DH} {Q : QD} {E : XD}
theorem two_ {k : Int} (h0 : 0 ≤ k) (h1 : k < 100) (q : Q (.str (two k)) h) : run gl ds (n + 1) 0 [.int k] h Q E := by
  have a := ts_len (i := k / 10) (by omega) (by omega)
  have b := ts_len (i := k % 10) (by omega) (by omega)
  refine e0 ?_
  ((try simp only [SXQ, Mtd.ty, isTy, DL.isNon, CFdiv, asKey, Nat.reduceAdd, Nat.reduceLeDiff, Nat.reduceLT, Int.reduceLT, Int.reduceNeg, Int.reduceToNat, ↓reduceIte, String.reduceBEq, Nat.reduceBEq, beq_self_eq_true]); rw [ss_cons]; simp only [SXQ, Mtd.ty, isTy, DL.isNon, CFdiv, asKey, Nat.reduceAdd, Nat.reduceLeDiff, Nat.reduceLT, Int.reduceLT, Int.reduceNeg, Int.reduceToNat, ↓reduceIte, String.reduceBEq, Nat.reduceBEq, beq_self_eq_true])
  refine ⟨lg (by omega) (by omega), lg (by omega) (by omega), ?_⟩
  unfold ts at a b
  exact ⟨by omega, q⟩
theorem clock_ {c : Int} (c0 : 0 ≤ c) (c1 : c < 1440) (q : Q (.str (clk c)) h) : run gl ds (n + 2) 1 [.int c] h Q E := by
  have a := two_len (n := c / 60) (by omega) (by omega)
  have b := two_len (n := c % 60) (by omega) (by omega)
  have e0 : (":" : Str).length = 1 := rfl
  refine e1 ?_
  ((try simp only [SXQ, Mtd.ty, isTy, DL.isNon, CFdiv, asKey, Nat.reduceAdd, Nat.reduceLeDiff, Nat.reduceLT, Int.reduceLT, Int.reduceNeg, Int.reduceToNat, ↓reduceIte, String.reduceBEq, Nat.reduceBEq, beq_self_eq_true]); rw [ss_cons]; simp only [SXQ, Mtd.ty, isTy, DL.isNon, CFdiv, asKey, Nat.reduceAdd, Nat.reduceLeDiff, Nat.reduceLT, Int.reduceLT, Int.reduceNeg, Int.reduceToNat, ↓reduceIte, String.reduceBEq, Nat.reduceBEq, beq_self_eq_true])
  refine two_ (by omega) (by omega) ?_
  (try simp only [SXQ, Mtd.ty, isTy, DL.isNon, CFdiv, asKey, Nat.reduceAdd, Nat.reduceLeDiff, Nat.reduceLT, Int.reduceLT, Int.reduceNeg, Int.reduceToNat, ↓reduceIte, String.reduceBEq, Nat.reduceBEq, beq_self_eq_true])
  refine ⟨by omega, ?_⟩
  refine two_ (by omega) (by omega) ?_
  (try simp only [SXQ, Mtd.ty, isTy, DL.isNon, CFdiv, asKey, Nat.reduceAdd, Nat.reduceLeDiff, Nat.reduceLT, Int.reduceLT, Int.reduceNeg, Int.reduceToNat, ↓reduceIte, String.reduceBEq, Nat.reduceBEq, beq_self_eq_true])
  rw [tx_len_app]
  exact ⟨by omega, q⟩
theorem lclock_ {c : Int} (c0 : 0 ≤ c) (c1 : c < 1440) (q : Q (.str (clk c)) h) : run gl ds (n + 1) 14 [.int c] h Q E := by
  have a := two_len (n := c / 60) (by omega) (by omega)
  have b := two_len (n := c % 60) (by omega) (by omega)
  have e1 := two_eq (n := c / 60) (by omega) (by omega)
  have e2 := two_eq (n := c % 60) (by omega) (by omega)
  have e0 : (":" : Str).length = 1 := rfl
  unfold ts at e1 e2
  refine e14 ?_
  ((try simp only [SXQ, Mtd.ty, isTy, DL.isNon, CFdiv, asKey, Nat.reduceAdd, Nat.reduceLeDiff, Nat.reduceLT, Int.reduceLT, Int.reduceNeg, Int.reduceToNat, ↓reduceIte, String.reduceBEq, Nat.reduceBEq, beq_self_eq_true]); rw [ss_cons]; simp only [SXQ, Mtd.ty, isTy, DL.isNon, CFdiv, asKey, Nat.reduceAdd, Nat.reduceLeDiff, Nat.reduceLT, Int.reduceLT, Int.reduceNeg, Int.reduceToNat, ↓reduceIte, String.reduceBEq, Nat.reduceBEq, beq_self_eq_true, e1, e2])
  have t1 := ts_len (i := 100 + c / 60) (by omega) (by omega)
  have t2 := ts_len (i := 100 + c % 60) (by omega) (by omega)
  unfold ts at t1 t2
  rw [tx_len_app]
  exact ⟨lg (by omega) (by omega), by omega, by omega, lg (by omega) (by omega), by omega, by omega, q⟩
end
def cwS : Cnd → List Str
  | .feast => ["feast"]
  | .days l => ["days", Str.join "" (l.map ts)]
  | .day n => ["day", ts n]
  | .week n => ["week", ts n]
  | .clock a b => ["clock", clk a, clk b]
theorem clk_len {c : Int} (c0 : 0 ≤ c) (c1 : c < 1440) : (clk c).length ≤ 33 := by
  have a := two_len (n := c / 60) (by omega) (by omega)
  have b := two_len (n := c % 60) (by omega) (by omega)
  have e0 : (":" : Str).length = 1 := rfl
  unfold clk
  rw [tx_len_app, tx_len_app]
  omega
end Qk58

namespace Qk58
open PySem DL L2
section
variable {n : Nat} {h : DH} {Q : QD} {E : XD}
theorem join_ok {l : List Int} (hl : l.length ≤ 7) (hd : ∀ d ∈ l, 0 ≤ d ∧ d ≤ 6) : ((l.map ts).map (·.length)).sum + (l.map ts).length * ("" : Str).length ≤ 16777216 := by
  have e0 : ("" : Str).length = 0 := rfl
  have := sum_len (m := 8) (xs := l.map ts) fun x hx => by
    obtain ⟨d, h1, rfl⟩ := List.mem_map.mp hx
    have := hd d h1
    exact ts_len (by omega) (by omega)
  rw [List.length_map] at this ⊢
  rw [e0]
  omega
theorem cw_ {c : Cnd} (k : CndOk c) (q : al false (.lst ((cwS c).map Dt.d)) h Q) : run gl ds (n + 3) 2 [Dt.d c] h Q E := by
  have n1 : ¬ ("feast" : Str) = "clock" := by decide
  have n2 : ¬ ("feast" : Str) = "days" := by decide
  have n3 : ¬ ("days" : Str) = "clock" := by decide
  have n4 : ¬ ("day" : Str) = "clock" := by decide
  have n5 : ¬ ("day" : Str) = "days" := by decide
  have n6 : ¬ ("week" : Str) = "clock" := by decide
  have n7 : ¬ ("week" : Str) = "days" := by decide
  refine e2 ?_
  cases c with
  | feast =>
    ((try simp only [SXQ, Mtd.ty, isTy, DL.isNon, CFdiv, asKey, Nat.reduceAdd, Nat.reduceLeDiff, Nat.reduceLT, Int.reduceLT, Int.reduceNeg, Int.reduceToNat, ↓reduceIte, String.reduceBEq, Nat.reduceBEq, beq_self_eq_true]); rw [ss_cons]; simp only [SXQ, Mtd.ty, isTy, DL.isNon, CFdiv, asKey, Nat.reduceAdd, Nat.reduceLeDiff, Nat.reduceLT, Int.reduceLT, Int.reduceNeg, Int.reduceToNat, ↓reduceIte, String.reduceBEq, Nat.reduceBEq, beq_self_eq_true, VCN, n1, n2])
    ((try simp only [SXQ, Mtd.ty, isTy, DL.isNon, CFdiv, asKey, Nat.reduceAdd, Nat.reduceLeDiff, Nat.reduceLT, Int.reduceLT, Int.reduceNeg, Int.reduceToNat, ↓reduceIte, String.reduceBEq, Nat.reduceBEq, beq_self_eq_true]); rw [ss_nil])
    ((try simp only [SXQ, Mtd.ty, isTy, DL.isNon, CFdiv, asKey, Nat.reduceAdd, Nat.reduceLeDiff, Nat.reduceLT, Int.reduceLT, Int.reduceNeg, Int.reduceToNat, ↓reduceIte, String.reduceBEq, Nat.reduceBEq, beq_self_eq_true]); rw [ss_cons]; simp only [SXQ, Mtd.ty, isTy, DL.isNon, CFdiv, asKey, Nat.reduceAdd, Nat.reduceLeDiff, Nat.reduceLT, Int.reduceLT, Int.reduceNeg, Int.reduceToNat, ↓reduceIte, String.reduceBEq, Nat.reduceBEq, beq_self_eq_true, n2])
    ((try simp only [SXQ, Mtd.ty, isTy, DL.isNon, CFdiv, asKey, Nat.reduceAdd, Nat.reduceLeDiff, Nat.reduceLT, Int.reduceLT, Int.reduceNeg, Int.reduceToNat, ↓reduceIte, String.reduceBEq, Nat.reduceBEq, beq_self_eq_true]); rw [ss_nil])
    ((try simp only [SXQ, Mtd.ty, isTy, DL.isNon, CFdiv, asKey, Nat.reduceAdd, Nat.reduceLeDiff, Nat.reduceLT, Int.reduceLT, Int.reduceNeg, Int.reduceToNat, ↓reduceIte, String.reduceBEq, Nat.reduceBEq, beq_self_eq_true]); rw [ss_cons]; simp only [SXQ, Mtd.ty, isTy, DL.isNon, CFdiv, asKey, Nat.reduceAdd, Nat.reduceLeDiff, Nat.reduceLT, Int.reduceLT, Int.reduceNeg, Int.reduceToNat, ↓reduceIte, String.reduceBEq, Nat.reduceBEq, beq_self_eq_true])
    rw [show cutD [D.str "feast"] (some 1) none = ([] : List Int).map D.int from rfl]
    refine comp_mv ([] : List Int) ts (fun x hx => by cases hx) (by decide) ?_
    (try simp only [SXQ, Mtd.ty, isTy, DL.isNon, CFdiv, asKey, Nat.reduceAdd, Nat.reduceLeDiff, Nat.reduceLT, Int.reduceLT, Int.reduceNeg, Int.reduceToNat, ↓reduceIte, String.reduceBEq, Nat.reduceBEq, beq_self_eq_true])
    exact q
  | days l =>
    ((try simp only [SXQ, Mtd.ty, isTy, DL.isNon, CFdiv, asKey, Nat.reduceAdd, Nat.reduceLeDiff, Nat.reduceLT, Int.reduceLT, Int.reduceNeg, Int.reduceToNat, ↓reduceIte, String.reduceBEq, Nat.reduceBEq, beq_self_eq_true]); rw [ss_cons]; simp only [SXQ, Mtd.ty, isTy, DL.isNon, CFdiv, asKey, Nat.reduceAdd, Nat.reduceLeDiff, Nat.reduceLT, Int.reduceLT, Int.reduceNeg, Int.reduceToNat, ↓reduceIte, String.reduceBEq, Nat.reduceBEq, beq_self_eq_true, VCN, n3])
    ((try simp only [SXQ, Mtd.ty, isTy, DL.isNon, CFdiv, asKey, Nat.reduceAdd, Nat.reduceLeDiff, Nat.reduceLT, Int.reduceLT, Int.reduceNeg, Int.reduceToNat, ↓reduceIte, String.reduceBEq, Nat.reduceBEq, beq_self_eq_true]); rw [ss_nil])
    ((try simp only [SXQ, Mtd.ty, isTy, DL.isNon, CFdiv, asKey, Nat.reduceAdd, Nat.reduceLeDiff, Nat.reduceLT, Int.reduceLT, Int.reduceNeg, Int.reduceToNat, ↓reduceIte, String.reduceBEq, Nat.reduceBEq, beq_self_eq_true]); rw [ss_cons]; simp only [SXQ, Mtd.ty, isTy, DL.isNon, CFdiv, asKey, Nat.reduceAdd, Nat.reduceLeDiff, Nat.reduceLT, Int.reduceLT, Int.reduceNeg, Int.reduceToNat, ↓reduceIte, String.reduceBEq, Nat.reduceBEq, beq_self_eq_true])
    ((try simp only [SXQ, Mtd.ty, isTy, DL.isNon, CFdiv, asKey, Nat.reduceAdd, Nat.reduceLeDiff, Nat.reduceLT, Int.reduceLT, Int.reduceNeg, Int.reduceToNat, ↓reduceIte, String.reduceBEq, Nat.reduceBEq, beq_self_eq_true]); rw [ss_cons]; simp only [SXQ, Mtd.ty, isTy, DL.isNon, CFdiv, asKey, Nat.reduceAdd, Nat.reduceLeDiff, Nat.reduceLT, Int.reduceLT, Int.reduceNeg, Int.reduceToNat, ↓reduceIte, String.reduceBEq, Nat.reduceBEq, beq_self_eq_true])
    obtain ⟨k1, k2⟩ : l.length ≤ 7 ∧ ∀ d ∈ l, 0 ≤ d ∧ d ≤ 6 := k
    refine comp_mv l ts (fun x hx K k' M => ?_) (by omega) ?_
    · have := k2 x hx
      (try simp only [SXQ, Mtd.ty, isTy, DL.isNon, CFdiv, asKey, Nat.reduceAdd, Nat.reduceLeDiff, Nat.reduceLT, Int.reduceLT, Int.reduceNeg, Int.reduceToNat, ↓reduceIte, String.reduceBEq, Nat.reduceBEq, beq_self_eq_true])
      exact ⟨lg (by omega) (by omega), k'⟩
    (try simp only [SXQ, Mtd.ty, isTy, DL.isNon, CFdiv, asKey, Nat.reduceAdd, Nat.reduceLeDiff, Nat.reduceLT, Int.reduceLT, Int.reduceNeg, Int.reduceToNat, ↓reduceIte, String.reduceBEq, Nat.reduceBEq, beq_self_eq_true])
    refine ms_join (l.map ts) rfl (join_ok k1 k2) ?_
    exact q
  | day m =>
    ((try simp only [SXQ, Mtd.ty, isTy, DL.isNon, CFdiv, asKey, Nat.reduceAdd, Nat.reduceLeDiff, Nat.reduceLT, Int.reduceLT, Int.reduceNeg, Int.reduceToNat, ↓reduceIte, String.reduceBEq, Nat.reduceBEq, beq_self_eq_true]); rw [ss_cons]; simp only [SXQ, Mtd.ty, isTy, DL.isNon, CFdiv, asKey, Nat.reduceAdd, Nat.reduceLeDiff, Nat.reduceLT, Int.reduceLT, Int.reduceNeg, Int.reduceToNat, ↓reduceIte, String.reduceBEq, Nat.reduceBEq, beq_self_eq_true, VCN, n4, n5])
    ((try simp only [SXQ, Mtd.ty, isTy, DL.isNon, CFdiv, asKey, Nat.reduceAdd, Nat.reduceLeDiff, Nat.reduceLT, Int.reduceLT, Int.reduceNeg, Int.reduceToNat, ↓reduceIte, String.reduceBEq, Nat.reduceBEq, beq_self_eq_true]); rw [ss_nil])
    ((try simp only [SXQ, Mtd.ty, isTy, DL.isNon, CFdiv, asKey, Nat.reduceAdd, Nat.reduceLeDiff, Nat.reduceLT, Int.reduceLT, Int.reduceNeg, Int.reduceToNat, ↓reduceIte, String.reduceBEq, Nat.reduceBEq, beq_self_eq_true]); rw [ss_cons]; simp only [SXQ, Mtd.ty, isTy, DL.isNon, CFdiv, asKey, Nat.reduceAdd, Nat.reduceLeDiff, Nat.reduceLT, Int.reduceLT, Int.reduceNeg, Int.reduceToNat, ↓reduceIte, String.reduceBEq, Nat.reduceBEq, beq_self_eq_true, n5])
    ((try simp only [SXQ, Mtd.ty, isTy, DL.isNon, CFdiv, asKey, Nat.reduceAdd, Nat.reduceLeDiff, Nat.reduceLT, Int.reduceLT, Int.reduceNeg, Int.reduceToNat, ↓reduceIte, String.reduceBEq, Nat.reduceBEq, beq_self_eq_true]); rw [ss_nil])
    ((try simp only [SXQ, Mtd.ty, isTy, DL.isNon, CFdiv, asKey, Nat.reduceAdd, Nat.reduceLeDiff, Nat.reduceLT, Int.reduceLT, Int.reduceNeg, Int.reduceToNat, ↓reduceIte, String.reduceBEq, Nat.reduceBEq, beq_self_eq_true]); rw [ss_cons]; simp only [SXQ, Mtd.ty, isTy, DL.isNon, CFdiv, asKey, Nat.reduceAdd, Nat.reduceLeDiff, Nat.reduceLT, Int.reduceLT, Int.reduceNeg, Int.reduceToNat, ↓reduceIte, String.reduceBEq, Nat.reduceBEq, beq_self_eq_true])
    have k : 1 ≤ m ∧ m ≤ 1440 := k
    rw [show cutD [D.str "day", D.int m] (some 1) none = [m].map D.int from rfl]
    refine comp_mv [m] ts (fun x hx K k' M => ?_) (by simp) ?_
    · rw [List.mem_singleton.mp hx] at k' ⊢
      (try simp only [SXQ, Mtd.ty, isTy, DL.isNon, CFdiv, asKey, Nat.reduceAdd, Nat.reduceLeDiff, Nat.reduceLT, Int.reduceLT, Int.reduceNeg, Int.reduceToNat, ↓reduceIte, String.reduceBEq, Nat.reduceBEq, beq_self_eq_true])
      exact ⟨lg (by omega) (by omega), k'⟩
    (try simp only [SXQ, Mtd.ty, isTy, DL.isNon, CFdiv, asKey, Nat.reduceAdd, Nat.reduceLeDiff, Nat.reduceLT, Int.reduceLT, Int.reduceNeg, Int.reduceToNat, ↓reduceIte, String.reduceBEq, Nat.reduceBEq, beq_self_eq_true])
    exact q
  | week m =>
    ((try simp only [SXQ, Mtd.ty, isTy, DL.isNon, CFdiv, asKey, Nat.reduceAdd, Nat.reduceLeDiff, Nat.reduceLT, Int.reduceLT, Int.reduceNeg, Int.reduceToNat, ↓reduceIte, String.reduceBEq, Nat.reduceBEq, beq_self_eq_true]); rw [ss_cons]; simp only [SXQ, Mtd.ty, isTy, DL.isNon, CFdiv, asKey, Nat.reduceAdd, Nat.reduceLeDiff, Nat.reduceLT, Int.reduceLT, Int.reduceNeg, Int.reduceToNat, ↓reduceIte, String.reduceBEq, Nat.reduceBEq, beq_self_eq_true, VCN, n6, n7])
    ((try simp only [SXQ, Mtd.ty, isTy, DL.isNon, CFdiv, asKey, Nat.reduceAdd, Nat.reduceLeDiff, Nat.reduceLT, Int.reduceLT, Int.reduceNeg, Int.reduceToNat, ↓reduceIte, String.reduceBEq, Nat.reduceBEq, beq_self_eq_true]); rw [ss_nil])
    ((try simp only [SXQ, Mtd.ty, isTy, DL.isNon, CFdiv, asKey, Nat.reduceAdd, Nat.reduceLeDiff, Nat.reduceLT, Int.reduceLT, Int.reduceNeg, Int.reduceToNat, ↓reduceIte, String.reduceBEq, Nat.reduceBEq, beq_self_eq_true]); rw [ss_cons]; simp only [SXQ, Mtd.ty, isTy, DL.isNon, CFdiv, asKey, Nat.reduceAdd, Nat.reduceLeDiff, Nat.reduceLT, Int.reduceLT, Int.reduceNeg, Int.reduceToNat, ↓reduceIte, String.reduceBEq, Nat.reduceBEq, beq_self_eq_true, n7])
    ((try simp only [SXQ, Mtd.ty, isTy, DL.isNon, CFdiv, asKey, Nat.reduceAdd, Nat.reduceLeDiff, Nat.reduceLT, Int.reduceLT, Int.reduceNeg, Int.reduceToNat, ↓reduceIte, String.reduceBEq, Nat.reduceBEq, beq_self_eq_true]); rw [ss_nil])
    ((try simp only [SXQ, Mtd.ty, isTy, DL.isNon, CFdiv, asKey, Nat.reduceAdd, Nat.reduceLeDiff, Nat.reduceLT, Int.reduceLT, Int.reduceNeg, Int.reduceToNat, ↓reduceIte, String.reduceBEq, Nat.reduceBEq, beq_self_eq_true]); rw [ss_cons]; simp only [SXQ, Mtd.ty, isTy, DL.isNon, CFdiv, asKey, Nat.reduceAdd, Nat.reduceLeDiff, Nat.reduceLT, Int.reduceLT, Int.reduceNeg, Int.reduceToNat, ↓reduceIte, String.reduceBEq, Nat.reduceBEq, beq_self_eq_true])
    have k : 1 ≤ m ∧ m ≤ 10080 := k
    rw [show cutD [D.str "week", D.int m] (some 1) none = [m].map D.int from rfl]
    refine comp_mv [m] ts (fun x hx K k' M => ?_) (by simp) ?_
    · rw [List.mem_singleton.mp hx] at k' ⊢
      (try simp only [SXQ, Mtd.ty, isTy, DL.isNon, CFdiv, asKey, Nat.reduceAdd, Nat.reduceLeDiff, Nat.reduceLT, Int.reduceLT, Int.reduceNeg, Int.reduceToNat, ↓reduceIte, String.reduceBEq, Nat.reduceBEq, beq_self_eq_true])
      exact ⟨lg (by omega) (by omega), k'⟩
    (try simp only [SXQ, Mtd.ty, isTy, DL.isNon, CFdiv, asKey, Nat.reduceAdd, Nat.reduceLeDiff, Nat.reduceLT, Int.reduceLT, Int.reduceNeg, Int.reduceToNat, ↓reduceIte, String.reduceBEq, Nat.reduceBEq, beq_self_eq_true])
    exact q
  | clock a b =>
    ((try simp only [SXQ, Mtd.ty, isTy, DL.isNon, CFdiv, asKey, Nat.reduceAdd, Nat.reduceLeDiff, Nat.reduceLT, Int.reduceLT, Int.reduceNeg, Int.reduceToNat, ↓reduceIte, String.reduceBEq, Nat.reduceBEq, beq_self_eq_true]); rw [ss_cons]; simp only [SXQ, Mtd.ty, isTy, DL.isNon, CFdiv, asKey, Nat.reduceAdd, Nat.reduceLeDiff, Nat.reduceLT, Int.reduceLT, Int.reduceNeg, Int.reduceToNat, ↓reduceIte, String.reduceBEq, Nat.reduceBEq, beq_self_eq_true, VCN])
    ((try simp only [SXQ, Mtd.ty, isTy, DL.isNon, CFdiv, asKey, Nat.reduceAdd, Nat.reduceLeDiff, Nat.reduceLT, Int.reduceLT, Int.reduceNeg, Int.reduceToNat, ↓reduceIte, String.reduceBEq, Nat.reduceBEq, beq_self_eq_true]); rw [ss_cons]; simp only [SXQ, Mtd.ty, isTy, DL.isNon, CFdiv, asKey, Nat.reduceAdd, Nat.reduceLeDiff, Nat.reduceLT, Int.reduceLT, Int.reduceNeg, Int.reduceToNat, ↓reduceIte, String.reduceBEq, Nat.reduceBEq, beq_self_eq_true])
    obtain ⟨⟨a0, a1⟩, ⟨b0, b1⟩, _⟩ : (0 ≤ a ∧ a < 1440) ∧ (0 ≤ b ∧ b < 1440) ∧ a ≠ b := k
    rw [show cutD [D.str "clock", D.int a, D.int b] (some 1) none = [a, b].map D.int from rfl]
    refine comp_mv [a, b] clk (fun x hx K k' M => ?_) (by simp) ?_
    · simp only [List.mem_cons, List.not_mem_nil, or_false] at hx
      (try simp only [SXQ, Mtd.ty, isTy, DL.isNon, CFdiv, asKey, Nat.reduceAdd, Nat.reduceLeDiff, Nat.reduceLT, Int.reduceLT, Int.reduceNeg, Int.reduceToNat, ↓reduceIte, String.reduceBEq, Nat.reduceBEq, beq_self_eq_true])
      rcases hx with rfl | rfl
      · exact clock_ a0 a1 k'
      · exact clock_ b0 b1 k'
    (try simp only [SXQ, Mtd.ty, isTy, DL.isNon, CFdiv, asKey, Nat.reduceAdd, Nat.reduceLeDiff, Nat.reduceLT, Int.reduceLT, Int.reduceNeg, Int.reduceToNat, ↓reduceIte, String.reduceBEq, Nat.reduceBEq, beq_self_eq_true])
    exact q
theorem lw_ {c : Cnd} (k : CndOk c) (q : al false (.lst ((cwS c).map Dt.d)) h Q) : run gl ds (n + 2) 15 [Dt.d c] h Q E := by
  have n1 : ¬ ("feast" : Str) = "clock" := by decide
  have n2 : ¬ ("feast" : Str) = "days" := by decide
  have n3 : ¬ ("days" : Str) = "clock" := by decide
  have n4 : ¬ ("day" : Str) = "clock" := by decide
  have n5 : ¬ ("day" : Str) = "days" := by decide
  have n6 : ¬ ("week" : Str) = "clock" := by decide
  have n7 : ¬ ("week" : Str) = "days" := by decide
  refine e15 ?_
  cases c with
  | feast =>
    ((try simp only [SXQ, Mtd.ty, isTy, DL.isNon, CFdiv, asKey, Nat.reduceAdd, Nat.reduceLeDiff, Nat.reduceLT, Int.reduceLT, Int.reduceNeg, Int.reduceToNat, ↓reduceIte, String.reduceBEq, Nat.reduceBEq, beq_self_eq_true]); rw [ss_cons]; simp only [SXQ, Mtd.ty, isTy, DL.isNon, CFdiv, asKey, Nat.reduceAdd, Nat.reduceLeDiff, Nat.reduceLT, Int.reduceLT, Int.reduceNeg, Int.reduceToNat, ↓reduceIte, String.reduceBEq, Nat.reduceBEq, beq_self_eq_true, VCN, n1, n2])
    ((try simp only [SXQ, Mtd.ty, isTy, DL.isNon, CFdiv, asKey, Nat.reduceAdd, Nat.reduceLeDiff, Nat.reduceLT, Int.reduceLT, Int.reduceNeg, Int.reduceToNat, ↓reduceIte, String.reduceBEq, Nat.reduceBEq, beq_self_eq_true]); rw [ss_nil])
    ((try simp only [SXQ, Mtd.ty, isTy, DL.isNon, CFdiv, asKey, Nat.reduceAdd, Nat.reduceLeDiff, Nat.reduceLT, Int.reduceLT, Int.reduceNeg, Int.reduceToNat, ↓reduceIte, String.reduceBEq, Nat.reduceBEq, beq_self_eq_true]); rw [ss_cons]; simp only [SXQ, Mtd.ty, isTy, DL.isNon, CFdiv, asKey, Nat.reduceAdd, Nat.reduceLeDiff, Nat.reduceLT, Int.reduceLT, Int.reduceNeg, Int.reduceToNat, ↓reduceIte, String.reduceBEq, Nat.reduceBEq, beq_self_eq_true, n2])
    ((try simp only [SXQ, Mtd.ty, isTy, DL.isNon, CFdiv, asKey, Nat.reduceAdd, Nat.reduceLeDiff, Nat.reduceLT, Int.reduceLT, Int.reduceNeg, Int.reduceToNat, ↓reduceIte, String.reduceBEq, Nat.reduceBEq, beq_self_eq_true]); rw [ss_nil])
    ((try simp only [SXQ, Mtd.ty, isTy, DL.isNon, CFdiv, asKey, Nat.reduceAdd, Nat.reduceLeDiff, Nat.reduceLT, Int.reduceLT, Int.reduceNeg, Int.reduceToNat, ↓reduceIte, String.reduceBEq, Nat.reduceBEq, beq_self_eq_true]); rw [ss_cons]; simp only [SXQ, Mtd.ty, isTy, DL.isNon, CFdiv, asKey, Nat.reduceAdd, Nat.reduceLeDiff, Nat.reduceLT, Int.reduceLT, Int.reduceNeg, Int.reduceToNat, ↓reduceIte, String.reduceBEq, Nat.reduceBEq, beq_self_eq_true])
    refine comp_mv (f := D.str) ["feast"] (fun x => x) (fun x hx K k' M => ?_) (by simp) q
    (try simp only [SXQ, Mtd.ty, isTy, DL.isNon, CFdiv, asKey, Nat.reduceAdd, Nat.reduceLeDiff, Nat.reduceLT, Int.reduceLT, Int.reduceNeg, Int.reduceToNat, ↓reduceIte, String.reduceBEq, Nat.reduceBEq, beq_self_eq_true])
    exact k'
  | days l =>
    ((try simp only [SXQ, Mtd.ty, isTy, DL.isNon, CFdiv, asKey, Nat.reduceAdd, Nat.reduceLeDiff, Nat.reduceLT, Int.reduceLT, Int.reduceNeg, Int.reduceToNat, ↓reduceIte, String.reduceBEq, Nat.reduceBEq, beq_self_eq_true]); rw [ss_cons]; simp only [SXQ, Mtd.ty, isTy, DL.isNon, CFdiv, asKey, Nat.reduceAdd, Nat.reduceLeDiff, Nat.reduceLT, Int.reduceLT, Int.reduceNeg, Int.reduceToNat, ↓reduceIte, String.reduceBEq, Nat.reduceBEq, beq_self_eq_true, VCN, n3])
    ((try simp only [SXQ, Mtd.ty, isTy, DL.isNon, CFdiv, asKey, Nat.reduceAdd, Nat.reduceLeDiff, Nat.reduceLT, Int.reduceLT, Int.reduceNeg, Int.reduceToNat, ↓reduceIte, String.reduceBEq, Nat.reduceBEq, beq_self_eq_true]); rw [ss_nil])
    ((try simp only [SXQ, Mtd.ty, isTy, DL.isNon, CFdiv, asKey, Nat.reduceAdd, Nat.reduceLeDiff, Nat.reduceLT, Int.reduceLT, Int.reduceNeg, Int.reduceToNat, ↓reduceIte, String.reduceBEq, Nat.reduceBEq, beq_self_eq_true]); rw [ss_cons]; simp only [SXQ, Mtd.ty, isTy, DL.isNon, CFdiv, asKey, Nat.reduceAdd, Nat.reduceLeDiff, Nat.reduceLT, Int.reduceLT, Int.reduceNeg, Int.reduceToNat, ↓reduceIte, String.reduceBEq, Nat.reduceBEq, beq_self_eq_true])
    ((try simp only [SXQ, Mtd.ty, isTy, DL.isNon, CFdiv, asKey, Nat.reduceAdd, Nat.reduceLeDiff, Nat.reduceLT, Int.reduceLT, Int.reduceNeg, Int.reduceToNat, ↓reduceIte, String.reduceBEq, Nat.reduceBEq, beq_self_eq_true]); rw [ss_cons]; simp only [SXQ, Mtd.ty, isTy, DL.isNon, CFdiv, asKey, Nat.reduceAdd, Nat.reduceLeDiff, Nat.reduceLT, Int.reduceLT, Int.reduceNeg, Int.reduceToNat, ↓reduceIte, String.reduceBEq, Nat.reduceBEq, beq_self_eq_true])
    obtain ⟨k1, k2⟩ : l.length ≤ 7 ∧ ∀ d ∈ l, 0 ≤ d ∧ d ≤ 6 := k
    refine comp_mv l ts (fun x hx K k' M => ?_) (by omega) ?_
    · have := k2 x hx
      (try simp only [SXQ, Mtd.ty, isTy, DL.isNon, CFdiv, asKey, Nat.reduceAdd, Nat.reduceLeDiff, Nat.reduceLT, Int.reduceLT, Int.reduceNeg, Int.reduceToNat, ↓reduceIte, String.reduceBEq, Nat.reduceBEq, beq_self_eq_true])
      exact ⟨lg (by omega) (by omega), k'⟩
    (try simp only [SXQ, Mtd.ty, isTy, DL.isNon, CFdiv, asKey, Nat.reduceAdd, Nat.reduceLeDiff, Nat.reduceLT, Int.reduceLT, Int.reduceNeg, Int.reduceToNat, ↓reduceIte, String.reduceBEq, Nat.reduceBEq, beq_self_eq_true])
    refine ms_join (l.map ts) rfl (join_ok k1 k2) ?_
    exact q
  | day m =>
    ((try simp only [SXQ, Mtd.ty, isTy, DL.isNon, CFdiv, asKey, Nat.reduceAdd, Nat.reduceLeDiff, Nat.reduceLT, Int.reduceLT, Int.reduceNeg, Int.reduceToNat, ↓reduceIte, String.reduceBEq, Nat.reduceBEq, beq_self_eq_true]); rw [ss_cons]; simp only [SXQ, Mtd.ty, isTy, DL.isNon, CFdiv, asKey, Nat.reduceAdd, Nat.reduceLeDiff, Nat.reduceLT, Int.reduceLT, Int.reduceNeg, Int.reduceToNat, ↓reduceIte, String.reduceBEq, Nat.reduceBEq, beq_self_eq_true, VCN, n4, n5])
    ((try simp only [SXQ, Mtd.ty, isTy, DL.isNon, CFdiv, asKey, Nat.reduceAdd, Nat.reduceLeDiff, Nat.reduceLT, Int.reduceLT, Int.reduceNeg, Int.reduceToNat, ↓reduceIte, String.reduceBEq, Nat.reduceBEq, beq_self_eq_true]); rw [ss_nil])
    ((try simp only [SXQ, Mtd.ty, isTy, DL.isNon, CFdiv, asKey, Nat.reduceAdd, Nat.reduceLeDiff, Nat.reduceLT, Int.reduceLT, Int.reduceNeg, Int.reduceToNat, ↓reduceIte, String.reduceBEq, Nat.reduceBEq, beq_self_eq_true]); rw [ss_cons]; simp only [SXQ, Mtd.ty, isTy, DL.isNon, CFdiv, asKey, Nat.reduceAdd, Nat.reduceLeDiff, Nat.reduceLT, Int.reduceLT, Int.reduceNeg, Int.reduceToNat, ↓reduceIte, String.reduceBEq, Nat.reduceBEq, beq_self_eq_true, n5])
    ((try simp only [SXQ, Mtd.ty, isTy, DL.isNon, CFdiv, asKey, Nat.reduceAdd, Nat.reduceLeDiff, Nat.reduceLT, Int.reduceLT, Int.reduceNeg, Int.reduceToNat, ↓reduceIte, String.reduceBEq, Nat.reduceBEq, beq_self_eq_true]); rw [ss_nil])
    ((try simp only [SXQ, Mtd.ty, isTy, DL.isNon, CFdiv, asKey, Nat.reduceAdd, Nat.reduceLeDiff, Nat.reduceLT, Int.reduceLT, Int.reduceNeg, Int.reduceToNat, ↓reduceIte, String.reduceBEq, Nat.reduceBEq, beq_self_eq_true]); rw [ss_cons]; simp only [SXQ, Mtd.ty, isTy, DL.isNon, CFdiv, asKey, Nat.reduceAdd, Nat.reduceLeDiff, Nat.reduceLT, Int.reduceLT, Int.reduceNeg, Int.reduceToNat, ↓reduceIte, String.reduceBEq, Nat.reduceBEq, beq_self_eq_true])
    have k : 1 ≤ m ∧ m ≤ 1440 := k
    refine comp_mv (f := fun x : Str ⊕ Int => x.elim D.str D.int) [.inl "day", .inr m] (fun x => x.elim id ts) (fun x hx K k' M => ?_) (by simp) q
    simp only [List.mem_cons, List.not_mem_nil, or_false] at hx
    rcases hx with rfl | rfl
    · (try simp only [SXQ, Mtd.ty, isTy, DL.isNon, CFdiv, asKey, Nat.reduceAdd, Nat.reduceLeDiff, Nat.reduceLT, Int.reduceLT, Int.reduceNeg, Int.reduceToNat, ↓reduceIte, String.reduceBEq, Nat.reduceBEq, beq_self_eq_true])
      exact k'
    · (try simp only [SXQ, Mtd.ty, isTy, DL.isNon, CFdiv, asKey, Nat.reduceAdd, Nat.reduceLeDiff, Nat.reduceLT, Int.reduceLT, Int.reduceNeg, Int.reduceToNat, ↓reduceIte, String.reduceBEq, Nat.reduceBEq, beq_self_eq_true])
      exact ⟨lg (by omega) (by omega), k'⟩
  | week m =>
    ((try simp only [SXQ, Mtd.ty, isTy, DL.isNon, CFdiv, asKey, Nat.reduceAdd, Nat.reduceLeDiff, Nat.reduceLT, Int.reduceLT, Int.reduceNeg, Int.reduceToNat, ↓reduceIte, String.reduceBEq, Nat.reduceBEq, beq_self_eq_true]); rw [ss_cons]; simp only [SXQ, Mtd.ty, isTy, DL.isNon, CFdiv, asKey, Nat.reduceAdd, Nat.reduceLeDiff, Nat.reduceLT, Int.reduceLT, Int.reduceNeg, Int.reduceToNat, ↓reduceIte, String.reduceBEq, Nat.reduceBEq, beq_self_eq_true, VCN, n6, n7])
    ((try simp only [SXQ, Mtd.ty, isTy, DL.isNon, CFdiv, asKey, Nat.reduceAdd, Nat.reduceLeDiff, Nat.reduceLT, Int.reduceLT, Int.reduceNeg, Int.reduceToNat, ↓reduceIte, String.reduceBEq, Nat.reduceBEq, beq_self_eq_true]); rw [ss_nil])
    ((try simp only [SXQ, Mtd.ty, isTy, DL.isNon, CFdiv, asKey, Nat.reduceAdd, Nat.reduceLeDiff, Nat.reduceLT, Int.reduceLT, Int.reduceNeg, Int.reduceToNat, ↓reduceIte, String.reduceBEq, Nat.reduceBEq, beq_self_eq_true]); rw [ss_cons]; simp only [SXQ, Mtd.ty, isTy, DL.isNon, CFdiv, asKey, Nat.reduceAdd, Nat.reduceLeDiff, Nat.reduceLT, Int.reduceLT, Int.reduceNeg, Int.reduceToNat, ↓reduceIte, String.reduceBEq, Nat.reduceBEq, beq_self_eq_true, n7])
    ((try simp only [SXQ, Mtd.ty, isTy, DL.isNon, CFdiv, asKey, Nat.reduceAdd, Nat.reduceLeDiff, Nat.reduceLT, Int.reduceLT, Int.reduceNeg, Int.reduceToNat, ↓reduceIte, String.reduceBEq, Nat.reduceBEq, beq_self_eq_true]); rw [ss_nil])
    ((try simp only [SXQ, Mtd.ty, isTy, DL.isNon, CFdiv, asKey, Nat.reduceAdd, Nat.reduceLeDiff, Nat.reduceLT, Int.reduceLT, Int.reduceNeg, Int.reduceToNat, ↓reduceIte, String.reduceBEq, Nat.reduceBEq, beq_self_eq_true]); rw [ss_cons]; simp only [SXQ, Mtd.ty, isTy, DL.isNon, CFdiv, asKey, Nat.reduceAdd, Nat.reduceLeDiff, Nat.reduceLT, Int.reduceLT, Int.reduceNeg, Int.reduceToNat, ↓reduceIte, String.reduceBEq, Nat.reduceBEq, beq_self_eq_true])
    have k : 1 ≤ m ∧ m ≤ 10080 := k
    refine comp_mv (f := fun x : Str ⊕ Int => x.elim D.str D.int) [.inl "week", .inr m] (fun x => x.elim id ts) (fun x hx K k' M => ?_) (by simp) q
    simp only [List.mem_cons, List.not_mem_nil, or_false] at hx
    rcases hx with rfl | rfl
    · (try simp only [SXQ, Mtd.ty, isTy, DL.isNon, CFdiv, asKey, Nat.reduceAdd, Nat.reduceLeDiff, Nat.reduceLT, Int.reduceLT, Int.reduceNeg, Int.reduceToNat, ↓reduceIte, String.reduceBEq, Nat.reduceBEq, beq_self_eq_true])
      exact k'
    · (try simp only [SXQ, Mtd.ty, isTy, DL.isNon, CFdiv, asKey, Nat.reduceAdd, Nat.reduceLeDiff, Nat.reduceLT, Int.reduceLT, Int.reduceNeg, Int.reduceToNat, ↓reduceIte, String.reduceBEq, Nat.reduceBEq, beq_self_eq_true])
      exact ⟨lg (by omega) (by omega), k'⟩
  | clock a b =>
    ((try simp only [SXQ, Mtd.ty, isTy, DL.isNon, CFdiv, asKey, Nat.reduceAdd, Nat.reduceLeDiff, Nat.reduceLT, Int.reduceLT, Int.reduceNeg, Int.reduceToNat, ↓reduceIte, String.reduceBEq, Nat.reduceBEq, beq_self_eq_true]); rw [ss_cons]; simp only [SXQ, Mtd.ty, isTy, DL.isNon, CFdiv, asKey, Nat.reduceAdd, Nat.reduceLeDiff, Nat.reduceLT, Int.reduceLT, Int.reduceNeg, Int.reduceToNat, ↓reduceIte, String.reduceBEq, Nat.reduceBEq, beq_self_eq_true, VCN])
    ((try simp only [SXQ, Mtd.ty, isTy, DL.isNon, CFdiv, asKey, Nat.reduceAdd, Nat.reduceLeDiff, Nat.reduceLT, Int.reduceLT, Int.reduceNeg, Int.reduceToNat, ↓reduceIte, String.reduceBEq, Nat.reduceBEq, beq_self_eq_true]); rw [ss_cons]; simp only [SXQ, Mtd.ty, isTy, DL.isNon, CFdiv, asKey, Nat.reduceAdd, Nat.reduceLeDiff, Nat.reduceLT, Int.reduceLT, Int.reduceNeg, Int.reduceToNat, ↓reduceIte, String.reduceBEq, Nat.reduceBEq, beq_self_eq_true])
    obtain ⟨⟨a0, a1⟩, ⟨b0, b1⟩, _⟩ : (0 ≤ a ∧ a < 1440) ∧ (0 ≤ b ∧ b < 1440) ∧ a ≠ b := k
    refine lclock_ a0 a1 ?_
    (try simp only [SXQ, Mtd.ty, isTy, DL.isNon, CFdiv, asKey, Nat.reduceAdd, Nat.reduceLeDiff, Nat.reduceLT, Int.reduceLT, Int.reduceNeg, Int.reduceToNat, ↓reduceIte, String.reduceBEq, Nat.reduceBEq, beq_self_eq_true])
    refine lclock_ b0 b1 ?_
    (try simp only [SXQ, Mtd.ty, isTy, DL.isNon, CFdiv, asKey, Nat.reduceAdd, Nat.reduceLeDiff, Nat.reduceLT, Int.reduceLT, Int.reduceNeg, Int.reduceToNat, ↓reduceIte, String.reduceBEq, Nat.reduceBEq, beq_self_eq_true])
    exact q
end
end Qk58

namespace Qk58
open PySem DL L2
theorem jlen {s : Str} {m : Nat} : ∀ {xs : List Str}, (∀ x ∈ xs, x.length ≤ m) → (Str.join s xs).length ≤ xs.length * (m + s.length)
  | [], _ => Nat.zero_le _
  | [x], h => by
    have := h x (by simp)
    rw [Str.join]
    simp only [List.length_singleton]
    omega
  | x :: y :: xs, h => by
    rw [Str.join]
    · rw [tx_len_app, tx_len_app]
      have h1 := h x (by simp)
      have h2 := jlen (s := s) (xs := y :: xs) fun z hz => h z (List.mem_cons_of_mem _ hz)
      simp only [List.length_cons] at h2 ⊢
      rw [Nat.add_mul (xs.length + 1) 1, Nat.one_mul]
      omega
    · simp
theorem cwS_ok {c : Cnd} (k : CndOk c) : (cwS c).length ≤ 3 ∧ ∀ w ∈ cwS c, w.length ≤ 64 := by
  cases c with
  | feast => exact ⟨by decide, by decide⟩
  | days l =>
    obtain ⟨k1, k2⟩ : l.length ≤ 7 ∧ ∀ d ∈ l, 0 ≤ d ∧ d ≤ 6 := k
    refine ⟨by simp [cwS], fun w hw => ?_⟩
    simp only [cwS, List.mem_cons, List.not_mem_nil, or_false] at hw
    rcases hw with rfl | rfl
    · decide
    · have := jlen (s := "") (m := 8) (xs := l.map ts) fun x hx => by
        obtain ⟨d, h1, rfl⟩ := List.mem_map.mp hx
        have := k2 d h1
        exact ts_len (by omega) (by omega)
      have e0 : ("" : Str).length = 0 := rfl
      rw [List.length_map, e0] at this
      omega
  | day m =>
    have k : 1 ≤ m ∧ m ≤ 1440 := k
    have := ts_len (i := m) (by omega) (by omega)
    refine ⟨by simp [cwS], fun w hw => ?_⟩
    simp only [cwS, List.mem_cons, List.not_mem_nil, or_false] at hw
    rcases hw with rfl | rfl
    · decide
    · omega
  | week m =>
    have k : 1 ≤ m ∧ m ≤ 10080 := k
    have := ts_len (i := m) (by omega) (by omega)
    refine ⟨by simp [cwS], fun w hw => ?_⟩
    simp only [cwS, List.mem_cons, List.not_mem_nil, or_false] at hw
    rcases hw with rfl | rfl
    · decide
    · omega
  | clock a b =>
    obtain ⟨⟨a0, a1⟩, ⟨b0, b1⟩, _⟩ : (0 ≤ a ∧ a < 1440) ∧ (0 ≤ b ∧ b < 1440) ∧ a ≠ b := k
    have := clk_len a0 a1
    have := clk_len b0 b1
    refine ⟨by simp [cwS], fun w hw => ?_⟩
    simp only [cwS, List.mem_cons, List.not_mem_nil, or_false] at hw
    rcases hw with rfl | rfl | rfl
    · decide
    · omega
    · omega
def RlG (r : Rl) : Prop := NmOk r.a ∧ (0 ≤ r.b ∧ r.b ≤ 99) ∧ NmOk r.c ∧ r.d.l.length ≤ 5 ∧ ∀ c ∈ r.d.l, CndOk c
def hdR (r : Rl) : List Str := ["rule", r.a, ts r.b, r.c]
def wdsR (r : Rl) : List Str := hdR r ++ r.d.l.flatMap cwS
def rowS (r : Rl) : Str := Str.join " " (wdsR r)
theorem fm_ok : ∀ {l : List Cnd}, (∀ c ∈ l, CndOk c) → (l.flatMap cwS).length ≤ 3 * l.length ∧ ∀ w ∈ l.flatMap cwS, w.length ≤ 64
  | [], _ => ⟨Nat.zero_le _, fun w hw => by cases hw⟩
  | c :: l, h => by
    obtain ⟨a1, a2⟩ := cwS_ok (h c (by simp))
    obtain ⟨b1, b2⟩ := fm_ok fun c hc => h c (List.mem_cons_of_mem _ hc)
    rw [List.flatMap_cons]
    refine ⟨by rw [List.length_append, List.length_cons]; omega, fun w hw => ?_⟩
    rcases List.mem_append.mp hw with hw | hw
    · exact a2 w hw
    · exact b2 w hw
theorem hdR_ok {r : Rl} (k : RlG r) : ∀ w ∈ hdR r, w.length ≤ 64 := fun w hw => by
  have a := k.1.2
  have b := ts_len (i := r.b) (by have := k.2.1; omega) (by have := k.2.1; omega)
  have c := k.2.2.1.2
  simp only [hdR, List.mem_cons, List.not_mem_nil, or_false] at hw
  rcases hw with rfl | rfl | rfl | rfl
  · decide
  · omega
  · omega
  · omega
theorem wdsR_ok {r : Rl} (k : RlG r) : (wdsR r).length ≤ 19 ∧ ∀ w ∈ wdsR r, w.length ≤ 64 := by
  obtain ⟨b1, b2⟩ := fm_ok k.2.2.2.2
  have := k.2.2.2.1
  refine ⟨by unfold wdsR hdR; rw [List.length_append]; simp only [List.length_cons, List.length_nil]; omega, fun w hw => ?_⟩
  rcases List.mem_append.mp hw with hw | hw
  · exact hdR_ok k w hw
  · exact b2 w hw
theorem rowS_len {r : Rl} (k : RlG r) : (rowS r).length ≤ 1235 := by
  obtain ⟨a, b⟩ := wdsR_ok k
  have := jlen (s := " ") b
  have e0 : (" " : Str).length = 1 := rfl
  rw [e0] at this
  have := Nat.mul_le_mul_right (64 + 1) a
  unfold rowS
  omega
theorem row_fit {r : Rl} (k : RlG r) : ((wdsR r).map (·.length)).sum + (wdsR r).length * (" " : Str).length ≤ 16777216 := by
  obtain ⟨a, b⟩ := wdsR_ok k
  have := sum_len b
  have e0 : (" " : Str).length = 1 := rfl
  rw [e0]
  omega
def rtS (x : Str × Int) : Str := ("rate " ++ x.1 ++ " ") ++ ts x.2
def RtG (x : Str × Int) : Prop := NmOk x.1 ∧ 0 ≤ x.2 ∧ x.2 ≤ 1000000
theorem rtS_len {x : Str × Int} (k : RtG x) : (rtS x).length ≤ 64 := by
  have a := k.1.2
  have b := ts_len (i := x.2) k.2.1 (by have := k.2.2; omega)
  have e0 : (" " : Str).length = 1 := rfl
  have e1 : ("rate " : Str).length = 5 := rfl
  unfold rtS
  rw [tx_len_app, tx_len_app, tx_len_app, e0, e1]
  omega
def hdB (b : Bk) : List Str := b.b.l.map rtS ++ ["base " ++ b.a]
def wdsB (b : Bk) : List Str := hdB b ++ b.c.l.map rowS
def bookS (b : Bk) : Str := Str.join "\n" (wdsB b)
theorem hdB_ok {b : Bk} (k : WkOk b) : (hdB b).length ≤ 19 ∧ ∀ w ∈ hdB b, w.length ≤ 1235 := by
  have := k.l
  refine ⟨by unfold hdB; rw [List.length_append, List.length_map, List.length_singleton]; omega, fun w hw => ?_⟩
  rcases List.mem_append.mp hw with hw | hw
  · obtain ⟨x, hx, rfl⟩ := List.mem_map.mp hw
    have := rtS_len (k.r x hx)
    omega
  · rw [List.mem_singleton.mp hw, tx_len_app]
    have := k.a.2
    have e1 : ("base " : Str).length = 5 := rfl
    omega
theorem wdsB_ok {b : Bk} (k : WkOk b) : (wdsB b).length ≤ 27 ∧ ∀ w ∈ wdsB b, w.length ≤ 1235 := by
  obtain ⟨a1, a2⟩ := hdB_ok k
  have := k.m
  refine ⟨by unfold wdsB; rw [List.length_append, List.length_map]; omega, fun w hw => ?_⟩
  rcases List.mem_append.mp hw with hw | hw
  · exact a2 w hw
  · obtain ⟨x, hx, rfl⟩ := List.mem_map.mp hw
    exact rowS_len (k.k x hx)
theorem book_fit {b : Bk} (k : WkOk b) : ((wdsB b).map (·.length)).sum + (wdsB b).length * ("\n" : Str).length ≤ 16777216 := by
  obtain ⟨a1, a2⟩ := wdsB_ok k
  have := sum_len a2
  have e0 : ("\n" : Str).length = 1 := rfl
  rw [e0]
  omega
end Qk58

namespace Qk58
open PySem DL L2
section
variable {n : Nat} {h : DH} {Q : QD} {E : XD}
theorem fm_add {A : List Str} {pre : List Cnd} {c : Cnd} : (A ++ (pre ++ [c]).flatMap cwS).map (Dt.d : Str → D) = (A ++ pre.flatMap cwS).map Dt.d ++ (cwS c).map Dt.d := by
  rw [List.flatMap_append, ← List.append_assoc, List.map_append (l₁ := A ++ pre.flatMap cwS), show [c].flatMap cwS = cwS c from List.append_nil _]
theorem row_ {r : Rl} (k : RlG r) (q : Q (.str (rowS r)) h) : run gl ds (n + 4) 3 [Dt.d r] h Q E := by
  have kb := k.2.1
  refine e3 ?_
  ((try simp only [SXQ, Mtd.ty, isTy, DL.isNon, CFdiv, asKey, Nat.reduceAdd, Nat.reduceLeDiff, Nat.reduceLT, Int.reduceLT, Int.reduceNeg, Int.reduceToNat, ↓reduceIte, String.reduceBEq, Nat.reduceBEq, beq_self_eq_true]); rw [ss_cons]; simp only [SXQ, Mtd.ty, isTy, DL.isNon, CFdiv, asKey, Nat.reduceAdd, Nat.reduceLeDiff, Nat.reduceLT, Int.reduceLT, Int.reduceNeg, Int.reduceToNat, ↓reduceIte, String.reduceBEq, Nat.reduceBEq, beq_self_eq_true])
  refine ⟨lg (by omega) (by omega), ?_⟩
  intro p np
  ((try simp only [SXQ, Mtd.ty, isTy, DL.isNon, CFdiv, asKey, Nat.reduceAdd, Nat.reduceLeDiff, Nat.reduceLT, Int.reduceLT, Int.reduceNeg, Int.reduceToNat, ↓reduceIte, String.reduceBEq, Nat.reduceBEq, beq_self_eq_true]); rw [ss_cons]; simp only [SXQ, Mtd.ty, isTy, DL.isNon, CFdiv, asKey, Nat.reduceAdd, Nat.reduceLeDiff, Nat.reduceLT, Int.reduceLT, Int.reduceNeg, Int.reduceToNat, ↓reduceIte, String.reduceBEq, Nat.reduceBEq, beq_self_eq_true, V_tl])
  refine loop_v (ls := r.d.l) (fun pre s h' => ∃ z, s = [some (Dt.d r), some (.ref p), z] ∧ h' = up h p (.lst ((hdR r ++ pre.flatMap cwS).map Dt.d))) ⟨_, rfl, rfl⟩ ?_ ?_
  · rintro pre c post s h' e1 ⟨z, rfl, rfl⟩
    have kc := k.2.2.2.2 c (by rw [e1]; simp)
    have kl := k.2.2.2.1
    have pl : pre.length ≤ 5 := by
      have := congrArg List.length e1
      rw [List.length_append, List.length_cons] at this
      omega
    obtain ⟨f1, _⟩ := fm_ok (l := pre) fun x hx => k.2.2.2.2 x (by rw [e1]; simp [hx])
    obtain ⟨c1, _⟩ := cwS_ok kc
    have h4 : (hdR r).length = 4 := rfl
    (try simp only [SXQ, Mtd.ty, isTy, DL.isNon, CFdiv, asKey, Nat.reduceAdd, Nat.reduceLeDiff, Nat.reduceLT, Int.reduceLT, Int.reduceNeg, Int.reduceToNat, ↓reduceIte, String.reduceBEq, Nat.reduceBEq, beq_self_eq_true])
    ((try simp only [SXQ, Mtd.ty, isTy, DL.isNon, CFdiv, asKey, Nat.reduceAdd, Nat.reduceLeDiff, Nat.reduceLT, Int.reduceLT, Int.reduceNeg, Int.reduceToNat, ↓reduceIte, String.reduceBEq, Nat.reduceBEq, beq_self_eq_true]); rw [ss_cons]; simp only [SXQ, Mtd.ty, isTy, DL.isNon, CFdiv, asKey, Nat.reduceAdd, Nat.reduceLeDiff, Nat.reduceLT, Int.reduceLT, Int.reduceNeg, Int.reduceToNat, ↓reduceIte, String.reduceBEq, Nat.reduceBEq, beq_self_eq_true])
    refine cw_ kc (al_frz ?_)
    (try simp only [SXQ, Mtd.ty, isTy, DL.isNon, CFdiv, asKey, Nat.reduceAdd, Nat.reduceLeDiff, Nat.reduceLT, Int.reduceLT, Int.reduceNeg, Int.reduceToNat, ↓reduceIte, String.reduceBEq, Nat.reduceBEq, beq_self_eq_true])
    refine ⟨by rw [List.length_map, List.length_map, List.length_append]; omega, ?_⟩
    ((try simp only [SXQ, Mtd.ty, isTy, DL.isNon, CFdiv, asKey, Nat.reduceAdd, Nat.reduceLeDiff, Nat.reduceLT, Int.reduceLT, Int.reduceNeg, Int.reduceToNat, ↓reduceIte, String.reduceBEq, Nat.reduceBEq, beq_self_eq_true]); rw [ss_cons]; simp only [SXQ, Mtd.ty, isTy, DL.isNon, CFdiv, asKey, Nat.reduceAdd, Nat.reduceLeDiff, Nat.reduceLT, Int.reduceLT, Int.reduceNeg, Int.reduceToNat, ↓reduceIte, String.reduceBEq, Nat.reduceBEq, beq_self_eq_true])
    exact ⟨_, rfl, by rw [fm_add]⟩
  rintro s h' ⟨z, rfl, rfl⟩
  ((try simp only [SXQ, Mtd.ty, isTy, DL.isNon, CFdiv, asKey, Nat.reduceAdd, Nat.reduceLeDiff, Nat.reduceLT, Int.reduceLT, Int.reduceNeg, Int.reduceToNat, ↓reduceIte, String.reduceBEq, Nat.reduceBEq, beq_self_eq_true]); rw [ss_cons]; simp only [SXQ, Mtd.ty, isTy, DL.isNon, CFdiv, asKey, Nat.reduceAdd, Nat.reduceLeDiff, Nat.reduceLT, Int.reduceLT, Int.reduceNeg, Int.reduceToNat, ↓reduceIte, String.reduceBEq, Nat.reduceBEq, beq_self_eq_true, wFrz_at up_at, rm_up np])
  ((try simp only [SXQ, Mtd.ty, isTy, DL.isNon, CFdiv, asKey, Nat.reduceAdd, Nat.reduceLeDiff, Nat.reduceLT, Int.reduceLT, Int.reduceNeg, Int.reduceToNat, ↓reduceIte, String.reduceBEq, Nat.reduceBEq, beq_self_eq_true]); rw [ss_cons]; simp only [SXQ, Mtd.ty, isTy, DL.isNon, CFdiv, asKey, Nat.reduceAdd, Nat.reduceLeDiff, Nat.reduceLT, Int.reduceLT, Int.reduceNeg, Int.reduceToNat, ↓reduceIte, String.reduceBEq, Nat.reduceBEq, beq_self_eq_true])
  refine ms_join (wdsR r) rfl (row_fit k) ?_
  (try simp only [SXQ, Mtd.ty, isTy, DL.isNon, CFdiv, asKey, Nat.reduceAdd, Nat.reduceLeDiff, Nat.reduceLT, Int.reduceLT, Int.reduceNeg, Int.reduceToNat, ↓reduceIte, String.reduceBEq, Nat.reduceBEq, beq_self_eq_true])
  exact q
theorem lbook_ {RD : D} {b : Bk} (hA : ∀ h R, iAny RD h R = R (.fix (b.c.l.map Dt.d)) h) (k : WkOk b) (q : Q (.str (bookS b)) h) : run gl ds (n + 4) 16 [.tup [.str b.a, .kt true (b.b.l.map Dt.d), RD]] h Q E := by
  have kl := k.l
  have km := k.m
  have ka := k.a.2
  have e1 : ("base " : Str).length = 5 := rfl
  have e2 : (" " : Str).length = 1 := rfl
  have e3 : ("rate " : Str).length = 5 := rfl
  have hl := (hdB_ok k).1
  refine e16 ?_
  ((try simp only [SXQ, Mtd.ty, isTy, DL.isNon, CFdiv, asKey, Nat.reduceAdd, Nat.reduceLeDiff, Nat.reduceLT, Int.reduceLT, Int.reduceNeg, Int.reduceToNat, ↓reduceIte, String.reduceBEq, Nat.reduceBEq, beq_self_eq_true]); rw [ss_cons]; simp only [SXQ, Mtd.ty, isTy, DL.isNon, CFdiv, asKey, Nat.reduceAdd, Nat.reduceLeDiff, Nat.reduceLT, Int.reduceLT, Int.reduceNeg, Int.reduceToNat, ↓reduceIte, String.reduceBEq, Nat.reduceBEq, beq_self_eq_true])
  ((try simp only [SXQ, Mtd.ty, isTy, DL.isNon, CFdiv, asKey, Nat.reduceAdd, Nat.reduceLeDiff, Nat.reduceLT, Int.reduceLT, Int.reduceNeg, Int.reduceToNat, ↓reduceIte, String.reduceBEq, Nat.reduceBEq, beq_self_eq_true]); rw [ss_cons]; simp only [SXQ, Mtd.ty, isTy, DL.isNon, CFdiv, asKey, Nat.reduceAdd, Nat.reduceLeDiff, Nat.reduceLT, Int.reduceLT, Int.reduceNeg, Int.reduceToNat, ↓reduceIte, String.reduceBEq, Nat.reduceBEq, beq_self_eq_true])
  refine comp_mv b.b.l rtS (fun x hx K k' M => ?_) (by omega) ?_
  · obtain ⟨k1, k2, k3⟩ := k.r x hx
    have k1 := k1.2
    have t := ts_len (i := x.2) k2 (by omega)
    unfold rtS ts at k'
    unfold ts at t
    (try simp only [SXQ, Mtd.ty, isTy, DL.isNon, CFdiv, asKey, Nat.reduceAdd, Nat.reduceLeDiff, Nat.reduceLT, Int.reduceLT, Int.reduceNeg, Int.reduceToNat, ↓reduceIte, String.reduceBEq, Nat.reduceBEq, beq_self_eq_true])
    simp only [tx_len_app]
    exact ⟨by omega, by omega, lg (by omega) (by omega), by omega, k'⟩
  (try simp only [SXQ, Mtd.ty, isTy, DL.isNon, CFdiv, asKey, Nat.reduceAdd, Nat.reduceLeDiff, Nat.reduceLT, Int.reduceLT, Int.reduceNeg, Int.reduceToNat, ↓reduceIte, String.reduceBEq, Nat.reduceBEq, beq_self_eq_true])
  refine ⟨by omega, ?_⟩
  refine ⟨by rw [List.length_map, List.length_map]; omega, ?_⟩
  intro p np
  ((try simp only [SXQ, Mtd.ty, isTy, DL.isNon, CFdiv, asKey, Nat.reduceAdd, Nat.reduceLeDiff, Nat.reduceLT, Int.reduceLT, Int.reduceNeg, Int.reduceToNat, ↓reduceIte, String.reduceBEq, Nat.reduceBEq, beq_self_eq_true]); rw [ss_cons]; simp only [SXQ, Mtd.ty, isTy, DL.isNon, CFdiv, asKey, Nat.reduceAdd, Nat.reduceLeDiff, Nat.reduceLT, Int.reduceLT, Int.reduceNeg, Int.reduceToNat, ↓reduceIte, String.reduceBEq, Nat.reduceBEq, beq_self_eq_true])
  rw [hA]
  refine loop_v (ls := b.c.l) (fun pre s h' => s = [some (.tup [.str b.a, .kt true (b.b.l.map Dt.d), RD]), some (.str b.a), some (.kt true (b.b.l.map Dt.d)), some RD, some (.ref p), none, none, none, none, none, none, none] ∧ h' = up h p (.lst ((hdB b ++ pre.map rowS).map Dt.d))) ⟨rfl, by unfold hdB; rw [List.map_nil, List.append_nil, List.map_append]; rfl⟩ ?_ ?_
  · rintro pre r post s h' e4 ⟨rfl, rfl⟩
    have kr := k.k r (by rw [e4]; simp)
    have pl : pre.length ≤ 8 := by
      have := congrArg List.length e4
      rw [List.length_append, List.length_cons] at this
      omega
    have kb := kr.2.1
    (try simp only [SXQ, Mtd.ty, isTy, DL.isNon, CFdiv, asKey, Nat.reduceAdd, Nat.reduceLeDiff, Nat.reduceLT, Int.reduceLT, Int.reduceNeg, Int.reduceToNat, ↓reduceIte, String.reduceBEq, Nat.reduceBEq, beq_self_eq_true])
    ((try simp only [SXQ, Mtd.ty, isTy, DL.isNon, CFdiv, asKey, Nat.reduceAdd, Nat.reduceLeDiff, Nat.reduceLT, Int.reduceLT, Int.reduceNeg, Int.reduceToNat, ↓reduceIte, String.reduceBEq, Nat.reduceBEq, beq_self_eq_true]); rw [ss_cons]; simp only [SXQ, Mtd.ty, isTy, DL.isNon, CFdiv, asKey, Nat.reduceAdd, Nat.reduceLeDiff, Nat.reduceLT, Int.reduceLT, Int.reduceNeg, Int.reduceToNat, ↓reduceIte, String.reduceBEq, Nat.reduceBEq, beq_self_eq_true])
    refine ⟨lg (by omega) (by omega), ?_⟩
    ((try simp only [SXQ, Mtd.ty, isTy, DL.isNon, CFdiv, asKey, Nat.reduceAdd, Nat.reduceLeDiff, Nat.reduceLT, Int.reduceLT, Int.reduceNeg, Int.reduceToNat, ↓reduceIte, String.reduceBEq, Nat.reduceBEq, beq_self_eq_true]); rw [ss_cons]; simp only [SXQ, Mtd.ty, isTy, DL.isNon, CFdiv, asKey, Nat.reduceAdd, Nat.reduceLeDiff, Nat.reduceLT, Int.reduceLT, Int.reduceNeg, Int.reduceToNat, ↓reduceIte, String.reduceBEq, Nat.reduceBEq, beq_self_eq_true])
    ((try simp only [SXQ, Mtd.ty, isTy, DL.isNon, CFdiv, asKey, Nat.reduceAdd, Nat.reduceLeDiff, Nat.reduceLT, Int.reduceLT, Int.reduceNeg, Int.reduceToNat, ↓reduceIte, String.reduceBEq, Nat.reduceBEq, beq_self_eq_true]); rw [ss_cons]; simp only [SXQ, Mtd.ty, isTy, DL.isNon, CFdiv, asKey, Nat.reduceAdd, Nat.reduceLeDiff, Nat.reduceLT, Int.reduceLT, Int.reduceNeg, Int.reduceToNat, ↓reduceIte, String.reduceBEq, Nat.reduceBEq, beq_self_eq_true, V_tl])
    refine loop_v (ls := r.d.l) (fun pr s h' => s = [some (.tup [.str b.a, .kt true (b.b.l.map Dt.d), RD]), some (.str b.a), some (.kt true (b.b.l.map Dt.d)), some RD, some (.ref p), some (.str r.a), some (.int r.b), some (.str r.c), some (.tup (r.d.l.map Dt.d)), some (.fl ((hdR r ++ pr.flatMap cwS).map Dt.d)), none, none] ∧ h' = up h p (.lst ((hdB b ++ pre.map rowS).map Dt.d))) ⟨rfl, rfl⟩ ?_ ?_
    · rintro pr c post' s h' e5 ⟨rfl, rfl⟩
      have kc := kr.2.2.2.2 c (by rw [e5]; simp)
      have kl := kr.2.2.2.1
      have pl : pr.length ≤ 5 := by
        have := congrArg List.length e5
        rw [List.length_append, List.length_cons] at this
        omega
      obtain ⟨f1, _⟩ := fm_ok (l := pr) fun x hx => kr.2.2.2.2 x (by rw [e5]; simp [hx])
      obtain ⟨c1, _⟩ := cwS_ok kc
      have h4 : (hdR r).length = 4 := rfl
      (try simp only [SXQ, Mtd.ty, isTy, DL.isNon, CFdiv, asKey, Nat.reduceAdd, Nat.reduceLeDiff, Nat.reduceLT, Int.reduceLT, Int.reduceNeg, Int.reduceToNat, ↓reduceIte, String.reduceBEq, Nat.reduceBEq, beq_self_eq_true])
      ((try simp only [SXQ, Mtd.ty, isTy, DL.isNon, CFdiv, asKey, Nat.reduceAdd, Nat.reduceLeDiff, Nat.reduceLT, Int.reduceLT, Int.reduceNeg, Int.reduceToNat, ↓reduceIte, String.reduceBEq, Nat.reduceBEq, beq_self_eq_true]); rw [ss_cons]; simp only [SXQ, Mtd.ty, isTy, DL.isNon, CFdiv, asKey, Nat.reduceAdd, Nat.reduceLeDiff, Nat.reduceLT, Int.reduceLT, Int.reduceNeg, Int.reduceToNat, ↓reduceIte, String.reduceBEq, Nat.reduceBEq, beq_self_eq_true])
      refine lw_ kc (al_frz ?_)
      (try simp only [SXQ, Mtd.ty, isTy, DL.isNon, CFdiv, asKey, Nat.reduceAdd, Nat.reduceLeDiff, Nat.reduceLT, Int.reduceLT, Int.reduceNeg, Int.reduceToNat, ↓reduceIte, String.reduceBEq, Nat.reduceBEq, beq_self_eq_true])
      refine ⟨by rw [List.length_map, List.length_map, List.length_append]; omega, ?_⟩
      ((try simp only [SXQ, Mtd.ty, isTy, DL.isNon, CFdiv, asKey, Nat.reduceAdd, Nat.reduceLeDiff, Nat.reduceLT, Int.reduceLT, Int.reduceNeg, Int.reduceToNat, ↓reduceIte, String.reduceBEq, Nat.reduceBEq, beq_self_eq_true]); rw [ss_cons]; simp only [SXQ, Mtd.ty, isTy, DL.isNon, CFdiv, asKey, Nat.reduceAdd, Nat.reduceLeDiff, Nat.reduceLT, Int.reduceLT, Int.reduceNeg, Int.reduceToNat, ↓reduceIte, String.reduceBEq, Nat.reduceBEq, beq_self_eq_true])
      exact ⟨by rw [fm_add], rfl⟩
    rintro s h' ⟨rfl, rfl⟩
    ((try simp only [SXQ, Mtd.ty, isTy, DL.isNon, CFdiv, asKey, Nat.reduceAdd, Nat.reduceLeDiff, Nat.reduceLT, Int.reduceLT, Int.reduceNeg, Int.reduceToNat, ↓reduceIte, String.reduceBEq, Nat.reduceBEq, beq_self_eq_true]); rw [ss_cons]; simp only [SXQ, Mtd.ty, isTy, DL.isNon, CFdiv, asKey, Nat.reduceAdd, Nat.reduceLeDiff, Nat.reduceLT, Int.reduceLT, Int.reduceNeg, Int.reduceToNat, ↓reduceIte, String.reduceBEq, Nat.reduceBEq, beq_self_eq_true])
    refine ms_join (wdsR r) rfl (row_fit kr) ?_
    (try simp only [SXQ, Mtd.ty, isTy, DL.isNon, CFdiv, asKey, Nat.reduceAdd, Nat.reduceLeDiff, Nat.reduceLT, Int.reduceLT, Int.reduceNeg, Int.reduceToNat, ↓reduceIte, String.reduceBEq, Nat.reduceBEq, beq_self_eq_true])
    refine ⟨by rw [List.length_map, List.length_append, List.length_map]; omega, ?_⟩
    ((try simp only [SXQ, Mtd.ty, isTy, DL.isNon, CFdiv, asKey, Nat.reduceAdd, Nat.reduceLeDiff, Nat.reduceLT, Int.reduceLT, Int.reduceNeg, Int.reduceToNat, ↓reduceIte, String.reduceBEq, Nat.reduceBEq, beq_self_eq_true]); rw [ss_cons]; simp only [SXQ, Mtd.ty, isTy, DL.isNon, CFdiv, asKey, Nat.reduceAdd, Nat.reduceLeDiff, Nat.reduceLT, Int.reduceLT, Int.reduceNeg, Int.reduceToNat, ↓reduceIte, String.reduceBEq, Nat.reduceBEq, beq_self_eq_true])
    exact ⟨rfl, by rw [List.map_append (f := rowS), ← List.append_assoc, List.map_append (f := (Dt.d : Str → D)) (l₁ := hdB b ++ pre.map rowS)]; rfl⟩
  rintro s h' ⟨rfl, rfl⟩
  ((try simp only [SXQ, Mtd.ty, isTy, DL.isNon, CFdiv, asKey, Nat.reduceAdd, Nat.reduceLeDiff, Nat.reduceLT, Int.reduceLT, Int.reduceNeg, Int.reduceToNat, ↓reduceIte, String.reduceBEq, Nat.reduceBEq, beq_self_eq_true]); rw [ss_cons]; simp only [SXQ, Mtd.ty, isTy, DL.isNon, CFdiv, asKey, Nat.reduceAdd, Nat.reduceLeDiff, Nat.reduceLT, Int.reduceLT, Int.reduceNeg, Int.reduceToNat, ↓reduceIte, String.reduceBEq, Nat.reduceBEq, beq_self_eq_true, wFrz_at up_at, rm_up np])
  ((try simp only [SXQ, Mtd.ty, isTy, DL.isNon, CFdiv, asKey, Nat.reduceAdd, Nat.reduceLeDiff, Nat.reduceLT, Int.reduceLT, Int.reduceNeg, Int.reduceToNat, ↓reduceIte, String.reduceBEq, Nat.reduceBEq, beq_self_eq_true]); rw [ss_cons]; simp only [SXQ, Mtd.ty, isTy, DL.isNon, CFdiv, asKey, Nat.reduceAdd, Nat.reduceLeDiff, Nat.reduceLT, Int.reduceLT, Int.reduceNeg, Int.reduceToNat, ↓reduceIte, String.reduceBEq, Nat.reduceBEq, beq_self_eq_true])
  refine ms_join (wdsB b) rfl (book_fit k) ?_
  (try simp only [SXQ, Mtd.ty, isTy, DL.isNon, CFdiv, asKey, Nat.reduceAdd, Nat.reduceLeDiff, Nat.reduceLT, Int.reduceLT, Int.reduceNeg, Int.reduceToNat, ↓reduceIte, String.reduceBEq, Nat.reduceBEq, beq_self_eq_true])
  exact q
theorem book_t {RD : D} {b : Bk} (hA : ∀ h R, iAny RD h R = R (.fix (b.c.l.map Dt.d)) h) (k : WkOk b) (q : Q (.str (bookS b)) h) : run gl ds (n + 5) 4 [.tup [.str b.a, .kt true (b.b.l.map Dt.d), RD]] h Q E := by
  have kl := k.l
  have km := k.m
  have ka := k.a.2
  have e1 : ("base " : Str).length = 5 := rfl
  have e2 : (" " : Str).length = 1 := rfl
  have e3 : ("rate " : Str).length = 5 := rfl
  have hl := (hdB_ok k).1
  refine e4 ?_
  ((try simp only [SXQ, Mtd.ty, isTy, DL.isNon, CFdiv, asKey, Nat.reduceAdd, Nat.reduceLeDiff, Nat.reduceLT, Int.reduceLT, Int.reduceNeg, Int.reduceToNat, ↓reduceIte, String.reduceBEq, Nat.reduceBEq, beq_self_eq_true]); rw [ss_cons]; simp only [SXQ, Mtd.ty, isTy, DL.isNon, CFdiv, asKey, Nat.reduceAdd, Nat.reduceLeDiff, Nat.reduceLT, Int.reduceLT, Int.reduceNeg, Int.reduceToNat, ↓reduceIte, String.reduceBEq, Nat.reduceBEq, beq_self_eq_true])
  ((try simp only [SXQ, Mtd.ty, isTy, DL.isNon, CFdiv, asKey, Nat.reduceAdd, Nat.reduceLeDiff, Nat.reduceLT, Int.reduceLT, Int.reduceNeg, Int.reduceToNat, ↓reduceIte, String.reduceBEq, Nat.reduceBEq, beq_self_eq_true]); rw [ss_cons]; simp only [SXQ, Mtd.ty, isTy, DL.isNon, CFdiv, asKey, Nat.reduceAdd, Nat.reduceLeDiff, Nat.reduceLT, Int.reduceLT, Int.reduceNeg, Int.reduceToNat, ↓reduceIte, String.reduceBEq, Nat.reduceBEq, beq_self_eq_true])
  refine comp_mv b.b.l rtS (fun x hx K k' M => ?_) (by omega) ?_
  · obtain ⟨k1, k2, k3⟩ := k.r x hx
    have k1 := k1.2
    have t := ts_len (i := x.2) k2 (by omega)
    unfold rtS ts at k'
    unfold ts at t
    (try simp only [SXQ, Mtd.ty, isTy, DL.isNon, CFdiv, asKey, Nat.reduceAdd, Nat.reduceLeDiff, Nat.reduceLT, Int.reduceLT, Int.reduceNeg, Int.reduceToNat, ↓reduceIte, String.reduceBEq, Nat.reduceBEq, beq_self_eq_true])
    simp only [tx_len_app]
    exact ⟨by omega, by omega, lg (by omega) (by omega), by omega, k'⟩
  (try simp only [SXQ, Mtd.ty, isTy, DL.isNon, CFdiv, asKey, Nat.reduceAdd, Nat.reduceLeDiff, Nat.reduceLT, Int.reduceLT, Int.reduceNeg, Int.reduceToNat, ↓reduceIte, String.reduceBEq, Nat.reduceBEq, beq_self_eq_true])
  refine ⟨by omega, ?_⟩
  refine ⟨by rw [List.length_map, List.length_map]; omega, ?_⟩
  ((try simp only [SXQ, Mtd.ty, isTy, DL.isNon, CFdiv, asKey, Nat.reduceAdd, Nat.reduceLeDiff, Nat.reduceLT, Int.reduceLT, Int.reduceNeg, Int.reduceToNat, ↓reduceIte, String.reduceBEq, Nat.reduceBEq, beq_self_eq_true]); rw [ss_cons]; simp only [SXQ, Mtd.ty, isTy, DL.isNon, CFdiv, asKey, Nat.reduceAdd, Nat.reduceLeDiff, Nat.reduceLT, Int.reduceLT, Int.reduceNeg, Int.reduceToNat, ↓reduceIte, String.reduceBEq, Nat.reduceBEq, beq_self_eq_true])
  rw [hA]
  refine comp_mv b.c.l rowS (fun x hx K k' M => ?_) (by omega) ?_
  · (try simp only [SXQ, Mtd.ty, isTy, DL.isNon, CFdiv, asKey, Nat.reduceAdd, Nat.reduceLeDiff, Nat.reduceLT, Int.reduceLT, Int.reduceNeg, Int.reduceToNat, ↓reduceIte, String.reduceBEq, Nat.reduceBEq, beq_self_eq_true])
    exact row_ (k.k x hx) k'
  (try simp only [SXQ, Mtd.ty, isTy, DL.isNon, CFdiv, asKey, Nat.reduceAdd, Nat.reduceLeDiff, Nat.reduceLT, Int.reduceLT, Int.reduceNeg, Int.reduceToNat, ↓reduceIte, String.reduceBEq, Nat.reduceBEq, beq_self_eq_true])
  refine ⟨by simp only [List.length_append, List.length_map, List.length_singleton]; omega, ?_⟩
  refine ms_join (wdsB b) (by unfold wdsB hdB; rw [List.map_append, List.map_append]; rfl) (book_fit k) ?_
  exact q
end
end Qk58

namespace Qk58
open PySem DL L2
theorem shw_nm {x : Str} (h : NmOk x) : Shw (.str x) 24 := (shw_str fun c hc => Nat.lt_trans (h.1 c hc) (by decide)).mono h.2
theorem shw31 {i : Int} (h : i.natAbs < 2 ^ 31) : Shw (.int i) 31 := by
  have h' : i.natAbs < 10 ^ 31 := Nat.lt_trans h (by decide)
  refine ⟨(shw_int h').s, (shw_int h').l, ?_⟩
  rw [PyData.weight]
  split
  · omega
  · by_cases z : i.natAbs = 0
    · rw [z]; decide
    · have := (Nat.log2_lt z).mpr h
      omega
theorem shws_ints : ∀ {l : List Int}, (∀ x ∈ l, x.natAbs < 2 ^ 31) → Shws (l.map PyData.int) (l.length * 32)
  | [], _ => shws_nil
  | x :: l, h => by
    have a := shw31 (h x (by simp))
    have b := shws_ints (l := l) fun y hy => h y (by simp [hy])
    have c := shws_cons a b
    rw [List.map_cons, List.length_cons]
    rw [show (l.length + 1) * 32 = 31 + 1 + l.length * 32 by omega]
    exact c
theorem shw_cnd {c : Cnd} (k : CndOk c) : Shw (toPy (Dt.d c)) 260 := by
  have sw : ∀ x : Str, asc x → x.length ≤ 8 → Shw (.str x) 8 := fun x a l => (shw_str fun c hc => Nat.lt_trans (a c hc) (by decide)).mono l
  have s1 : Shw (.str "feast") 8 := sw _ (by unfold asc; decide) (by decide)
  have s2 : Shw (.str "days") 8 := sw _ (by unfold asc; decide) (by decide)
  have s3 : Shw (.str "day") 8 := sw _ (by unfold asc; decide) (by decide)
  have s4 : Shw (.str "week") 8 := sw _ (by unfold asc; decide) (by decide)
  have s5 : Shw (.str "clock") 8 := sw _ (by unfold asc; decide) (by decide)
  cases c with
  | feast =>
    have : Shw (.tuple [.str "feast"]) 260 := (shw_tup (shws_cons s1 shws_nil)).mono (by omega)
    rw [V_feast]
    simpa [toPy, toPys, ints_py] using this
  | days l =>
    have kl : l.length ≤ 7 := k.1
    have ki : ∀ x ∈ l, x.natAbs < 2 ^ 31 := fun x hx => by have := k.2 x hx; omega
    have : Shw (.tuple [.str "days", .tuple (l.map PyData.int)]) 260 := (shw_tup (shws_cons s2 (shws_cons (shw_tup (shws_ints ki)) shws_nil))).mono (by omega)
    rw [V_days]
    simpa [toPy, toPys, ints_py] using this
  | day m =>
    have kl : 1 ≤ m ∧ m ≤ 1440 := k
    have : Shw (.tuple [.str "day", .int m]) 260 := (shw_tup (shws_cons s3 (shws_cons (shw31 (i := m) (by omega)) shws_nil))).mono (by omega)
    rw [V_day]
    simpa [toPy, toPys, ints_py] using this
  | week m =>
    have kl : 1 ≤ m ∧ m ≤ 10080 := k
    have : Shw (.tuple [.str "week", .int m]) 260 := (shw_tup (shws_cons s4 (shws_cons (shw31 (i := m) (by omega)) shws_nil))).mono (by omega)
    rw [V_week]
    simpa [toPy, toPys, ints_py] using this
  | clock a b =>
    have kl : (0 ≤ a ∧ a < 1440) ∧ (0 ≤ b ∧ b < 1440) ∧ a ≠ b := k
    have : Shw (.tuple [.str "clock", .int a, .int b]) 260 := (shw_tup (shws_cons s5 (shws_cons (shw31 (i := a) (by omega)) (shws_cons (shw31 (i := b) (by omega)) shws_nil)))).mono (by omega)
    rw [V_clock]
    simpa [toPy, toPys, ints_py] using this
theorem shw_v4 {α β γ δ : Type} [Dt α] [Dt β] [Dt γ] [Dt δ] {x : Qd α β γ δ} {a b c d : Nat} (h1 : Shw (toPy (Dt.d x.a)) a) (h2 : Shw (toPy (Dt.d x.b)) b) (h3 : Shw (toPy (Dt.d x.c)) c) (h4 : Shw (toPy (Dt.d x.d)) d) : Shw (toPy (Dt.d x)) (a + b + c + d + 4) := by
  rw [P_qd]
  exact (shw_tup (shws_cons h1 (shws_cons h2 (shws_cons h3 (shws_cons h4 shws_nil))))).mono (by omega)
theorem shw_vs {x : Str} (h : NmOk x) : Shw (toPy (Dt.d x)) 24 := by rw [P_str]; exact shw_nm h
theorem shw_v31 {x : Int} (h : x.natAbs < 2 ^ 31) : Shw (toPy (Dt.d x)) 31 := by rw [P_int]; exact shw31 h
theorem shw_rl {r : Rl} (k : RlG r) : Shw (toPy (Dt.d r)) 1400 :=
  (shw_v4 (shw_vs k.1) (shw_v31 (by have := k.2.1; omega)) (shw_vs k.2.2.1) (shw_vt (k := 260) (n := 5) (fun x hx => shw_cnd (k.2.2.2.2 x hx)) k.2.2.2.1)).mono (by omega)
theorem shw_bk {b : Bk} (ok : WkOk b) : Shw (toPy (Dt.d b)) 14000 :=
  (shw_v3 (shw_vs ok.a) (shw_vpt (k := 57) (n := 18) (fun x hx => (shw_vp (shw_vs (ok.r x hx).1) (shw_v31 (by have := (ok.r x hx).2; omega))).mono (by omega)) ok.l) (shw_vpt (k := 1400) (n := 8) (fun r hr => shw_rl (ok.k r hr)) ok.m)).mono (by omega)
abbrev Bt := Tr Str (PL (Str × Int)) (TL Rl)
def rvB (b : Bk) : Bt := ⟨b.a, b.b, ⟨b.c.l.reverse⟩⟩
def rv (b : Bk) : Bk := ⟨b.a, b.b, ⟨b.c.l.reverse⟩⟩
theorem rv_ok {b : Bk} (ok : WkOk b) : WkOk (rv b) := ⟨ok.a, ok.r, ok.l, fun r hr => ok.k r (List.mem_reverse.mp hr), by show b.c.l.reverse.length ≤ 8; rw [List.length_reverse]; exact ok.m⟩
theorem shw_bt {b : Bk} (ok : WkOk b) : Shw (toPy (Dt.d (rvB b))) 14000 :=
  (shw_v3 (x := rvB b) (shw_vs ok.a) (shw_vpt (k := 57) (n := 18) (fun x hx => (shw_vp (shw_vs (ok.r x hx).1) (shw_v31 (by have := (ok.r x hx).2; omega))).mono (by omega)) ok.l) (shw_vt (k := 1400) (n := 8) (fun r hr => shw_rl (ok.k r (List.mem_reverse.mp hr))) (by show b.c.l.reverse.length ≤ 8; rw [List.length_reverse]; exact ok.m))).mono (by omega)
theorem rm_sw {h : DH} {F p : Addr} {o x : DO} (nF : h F = none) (ne : p ≠ F) : rm (up (up h F o) p x) F = up h p x := by
  funext b
  unfold rm up
  by_cases e : b = F
  · subst e
    simp [ne.symm, nF]
  · simp [e]
theorem books_repr {a b c : Bk} (ka : WkOk a) (kb : WkOk b) (kc : WkOk c) : ∃ s : Str, ∀ (h : DH) (Q : QD), Q (.str s) h → wRepr (.fl [Dt.d a, Dt.d b, Dt.d c, Dt.d (rvB a)]) h Q :=
  ⟨(PyData.list [toPy (Dt.d a), toPy (Dt.d b), toPy (Dt.d c), toPy (Dt.d (rvB a))]).shown, fun h Q q => repr_shw (.inl (.fl (.cons (Dt.py a) (.cons (Dt.py b) (.cons (Dt.py c) (.cons (Dt.py (rvB a)) .nil)))))) ((shw_lst (shws_cons (shw_bk ka) (shws_cons (shw_bk kb) (shws_cons (shw_bk kc) (shws_cons (shw_bt ka) shws_nil))))).mono (by omega)) (Nat.le_refl 300000) (by
    have h1 := Dt.dep a
    have h2 := Dt.dep b
    have h3 := Dt.dep c
    have h4 := Dt.dep (rvB a)
    have n1 : Dt.n Bk ≤ 50 := by decide
    have n2 : Dt.n Bt ≤ 50 := by decide
    simp only [PyData.depth, PyData.depthAll]
    omega) q⟩
section
variable {n : Nat}
theorem law_h {ns : List Int} {h0 : DH} (hn : ns.length ≤ 63) : run gl ds (n + 8) 17 [.fl (ns.map .int)] h0 (fun d _ => d = .bl true) fun _ _ => False := by
  refine e17 ?_
  ((try simp only [SXQ, Mtd.ty, isTy, DL.isNon, CFdiv, asKey, Nat.reduceAdd, Nat.reduceLeDiff, Nat.reduceLT, Int.reduceLT, Int.reduceNeg, Int.reduceToNat, ↓reduceIte, String.reduceBEq, Nat.reduceBEq, beq_self_eq_true]); rw [ss_cons]; simp only [SXQ, Mtd.ty, isTy, DL.isNon, CFdiv, asKey, Nat.reduceAdd, Nat.reduceLeDiff, Nat.reduceLT, Int.reduceLT, Int.reduceNeg, Int.reduceToNat, ↓reduceIte, String.reduceBEq, Nat.reduceBEq, beq_self_eq_true])
  refine feed_ ns hn fun F o nF f => ?_
  ((try simp only [SXQ, Mtd.ty, isTy, DL.isNon, CFdiv, asKey, Nat.reduceAdd, Nat.reduceLeDiff, Nat.reduceLT, Int.reduceLT, Int.reduceNeg, Int.reduceToNat, ↓reduceIte, String.reduceBEq, Nat.reduceBEq, beq_self_eq_true]); rw [ss_cons]; simp only [SXQ, Mtd.ty, isTy, DL.isNon, CFdiv, asKey, Nat.reduceAdd, Nat.reduceLeDiff, Nat.reduceLT, Int.reduceLT, Int.reduceNeg, Int.reduceToNat, ↓reduceIte, String.reduceBEq, Nat.reduceBEq, beq_self_eq_true])
  refine ⟨⟨by decide, by decide, by decide, by decide⟩, ?_⟩
  refine comp_J (f := D.int) (irg 0 3) (fun pre h' acc => ∃ (l : List Bk) (o' : DO), l.length = pre.length ∧ (∀ b ∈ l, WkOk b) ∧ Fl (1500 * pre.length) o' ∧ h' = up h0 F o' ∧ acc = l.map Dt.d) (fun i _ _ _ _ => next_rg i _) ⟨[], o, rfl, by simp, f.mono (by simp), rfl, rfl⟩ (by decide) ?_ ?_ ?_
  · rintro pre post h acc e ⟨l, o', l1, _, _, _, rfl⟩
    rw [List.length_map, l1]
    exact Nat.le_refl _
  · rintro pre x post h' acc e ⟨l, o', l1, l2, f', rfl, rfl⟩ K k' M km
    have pl : pre.length ≤ 3 := by
      have := congrArg List.length e
      simp [irg] at this
      omega
    (try simp only [SXQ, Mtd.ty, isTy, DL.isNon, CFdiv, asKey, Nat.reduceAdd, Nat.reduceLeDiff, Nat.reduceLT, Int.reduceLT, Int.reduceNeg, Int.reduceToNat, ↓reduceIte, String.reduceBEq, Nat.reduceBEq, beq_self_eq_true])
    refine wide_ up_at f' (by omega) fun b o4 kb f4 => ?_
    (try simp only [SXQ, Mtd.ty, isTy, DL.isNon, CFdiv, asKey, Nat.reduceAdd, Nat.reduceLeDiff, Nat.reduceLT, Int.reduceLT, Int.reduceNeg, Int.reduceToNat, ↓reduceIte, String.reduceBEq, Nat.reduceBEq, beq_self_eq_true])
    refine M _ _ ⟨l ++ [b], o4, by simp [l1], fun x hx => ?_, f4.mono (by rw [List.length_append, List.length_singleton]; omega), rfl, by rw [List.map_append]; rfl⟩
    rcases List.mem_append.mp hx with hx | hx
    · exact l2 x hx
    · rw [List.mem_singleton.mp hx]; exact kb
  rintro h' acc ⟨l, o6, l1, l2, f6, rfl, rfl⟩
  obtain ⟨b1, b2, b3, rfl⟩ : ∃ a b c, l = [a, b, c] := by
    match l, l1 with
    | [a, b, c], _ => exact ⟨a, b, c, rfl⟩
  have k1 := l2 b1 (by simp)
  have k2 := l2 b2 (by simp)
  have k3 := l2 b3 (by simp)
  obtain ⟨ks, rA⟩ := books_repr k1 k2 k3
  intro p np
  have nFp := ne_upn np
  have np' : h0 p = none := up_none np
  ((try simp only [SXQ, Mtd.ty, isTy, DL.isNon, CFdiv, asKey, Nat.reduceAdd, Nat.reduceLeDiff, Nat.reduceLT, Int.reduceLT, Int.reduceNeg, Int.reduceToNat, ↓reduceIte, String.reduceBEq, Nat.reduceBEq, beq_self_eq_true]); rw [ss_cons]; simp only [SXQ, Mtd.ty, isTy, DL.isNon, CFdiv, asKey, Nat.reduceAdd, Nat.reduceLeDiff, Nat.reduceLT, Int.reduceLT, Int.reduceNeg, Int.reduceToNat, ↓reduceIte, String.reduceBEq, Nat.reduceBEq, beq_self_eq_true])
  have aF : ∀ x, up (up h0 F o6) p x F = some o6 := fun x => by rw [up_ne nFp.symm, up_same]
  rw [wFrz_at (aF _), rm_sw nF nFp]
  generalize frzO o6 = tv
  ((try simp only [SXQ, Mtd.ty, isTy, DL.isNon, CFdiv, asKey, Nat.reduceAdd, Nat.reduceLeDiff, Nat.reduceLT, Int.reduceLT, Int.reduceNeg, Int.reduceToNat, ↓reduceIte, String.reduceBEq, Nat.reduceBEq, beq_self_eq_true]); rw [ss_cons]; simp only [SXQ, Mtd.ty, isTy, DL.isNon, CFdiv, asKey, Nat.reduceAdd, Nat.reduceLeDiff, Nat.reduceLT, Int.reduceLT, Int.reduceNeg, Int.reduceToNat, ↓reduceIte, String.reduceBEq, Nat.reduceBEq, beq_self_eq_true, V_tr, V_ptl, rev_kt, up_at, up_same])
  have c1 : cutD [D.str b1.a, D.kt true (List.map Dt.d b1.b.l), D.kt true (List.map Dt.d b1.c.l)] none (some 2) = [D.str b1.a, D.kt true (List.map Dt.d b1.b.l)] := rfl
  rw [c1]
  refine ⟨by simp, ?_⟩
  ((try simp only [SXQ, Mtd.ty, isTy, DL.isNon, CFdiv, asKey, Nat.reduceAdd, Nat.reduceLeDiff, Nat.reduceLT, Int.reduceLT, Int.reduceNeg, Int.reduceToNat, ↓reduceIte, String.reduceBEq, Nat.reduceBEq, beq_self_eq_true]); rw [ss_cons]; simp only [SXQ, Mtd.ty, isTy, DL.isNon, CFdiv, asKey, Nat.reduceAdd, Nat.reduceLeDiff, Nat.reduceLT, Int.reduceLT, Int.reduceNeg, Int.reduceToNat, ↓reduceIte, String.reduceBEq, Nat.reduceBEq, beq_self_eq_true, wFrz_at up_at, rm_up np'])
  have eA : [D.tup [D.str b1.a, D.kt true (List.map Dt.d b1.b.l), D.kt true (List.map Dt.d b1.c.l)],
      D.tup [D.str b2.a, D.kt true (List.map Dt.d b2.b.l), D.kt true (List.map Dt.d b2.c.l)],
      D.tup [D.str b3.a, D.kt true (List.map Dt.d b3.b.l), D.kt true (List.map Dt.d b3.c.l)],
      D.tup [D.str b1.a, D.kt true (List.map Dt.d b1.b.l), D.tup (List.map Dt.d b1.c.l).reverse]] = [Dt.d b1, Dt.d b2, Dt.d b3, Dt.d (rvB b1)] := by
    rw [← List.map_reverse]
    rfl
  rw [eA]
  ((try simp only [SXQ, Mtd.ty, isTy, DL.isNon, CFdiv, asKey, Nat.reduceAdd, Nat.reduceLeDiff, Nat.reduceLT, Int.reduceLT, Int.reduceNeg, Int.reduceToNat, ↓reduceIte, String.reduceBEq, Nat.reduceBEq, beq_self_eq_true]); rw [ss_cons]; simp only [SXQ, Mtd.ty, isTy, DL.isNon, CFdiv, asKey, Nat.reduceAdd, Nat.reduceLeDiff, Nat.reduceLT, Int.reduceLT, Int.reduceNeg, Int.reduceToNat, ↓reduceIte, String.reduceBEq, Nat.reduceBEq, beq_self_eq_true])
  refine rA _ _ ?_
  have c2 : cutD [(Dt.d b1 : D), Dt.d b2, Dt.d b3, Dt.d (rvB b1)] none (some 1) = [Dt.d b1] := rfl
  ((try simp only [SXQ, Mtd.ty, isTy, DL.isNon, CFdiv, asKey, Nat.reduceAdd, Nat.reduceLeDiff, Nat.reduceLT, Int.reduceLT, Int.reduceNeg, Int.reduceToNat, ↓reduceIte, String.reduceBEq, Nat.reduceBEq, beq_self_eq_true]); rw [ss_cons]; simp only [SXQ, Mtd.ty, isTy, DL.isNon, CFdiv, asKey, Nat.reduceAdd, Nat.reduceLeDiff, Nat.reduceLT, Int.reduceLT, Int.reduceNeg, Int.reduceToNat, ↓reduceIte, String.reduceBEq, Nat.reduceBEq, beq_self_eq_true, c2])
  refine loop_v (f := fun x : Bool × Bk => if x.1 then (Dt.d x.2 : D) else Dt.d (rvB x.2)) (ls := [(true, b1), (true, b2), (true, b3), (false, b1), (true, b1)]) (fun pre s h' => s = [some (.fl (ns.map .int)), some tv, some (.fl [Dt.d b1, Dt.d b2, Dt.d b3, Dt.d (rvB b1)]), some (.str ks), none, none, none]) rfl ?_ ?_
  · rintro pre ⟨y, b⟩ post s h e2 rfl
    have kb : WkOk b := by
      have : (y, b) ∈ [(true, b1), (true, b2), (true, b3), (false, b1), (true, b1)] := by rw [e2]; simp
      simp only [List.mem_cons, List.not_mem_nil, or_false, Prod.mk.injEq] at this
      rcases this with ⟨_, rfl⟩ | ⟨_, rfl⟩ | ⟨_, rfl⟩ | ⟨_, rfl⟩ | ⟨_, rfl⟩ <;> assumption
    obtain ⟨RD, b', k', hA, hf⟩ : ∃ (RD : D) (b' : Bk), WkOk b' ∧ (∀ h R, iAny RD h R = R (.fix (b'.c.l.map Dt.d)) h) ∧ (if y then (Dt.d b : D) else Dt.d (rvB b)) = .tup [.str b'.a, .kt true (b'.b.l.map Dt.d), RD] := by
      cases y with
      | true => exact ⟨_, b, kb, fun _ _ => any_kt, rfl⟩
      | false => exact ⟨_, rv b, rv_ok kb, fun _ _ => any_tup, rfl⟩
    dsimp only
    rw [hf]
    (try simp only [SXQ, Mtd.ty, isTy, DL.isNon, CFdiv, asKey, Nat.reduceAdd, Nat.reduceLeDiff, Nat.reduceLT, Int.reduceLT, Int.reduceNeg, Int.reduceToNat, ↓reduceIte, String.reduceBEq, Nat.reduceBEq, beq_self_eq_true])
    ((try simp only [SXQ, Mtd.ty, isTy, DL.isNon, CFdiv, asKey, Nat.reduceAdd, Nat.reduceLeDiff, Nat.reduceLT, Int.reduceLT, Int.reduceNeg, Int.reduceToNat, ↓reduceIte, String.reduceBEq, Nat.reduceBEq, beq_self_eq_true]); rw [ss_cons]; simp only [SXQ, Mtd.ty, isTy, DL.isNon, CFdiv, asKey, Nat.reduceAdd, Nat.reduceLeDiff, Nat.reduceLT, Int.reduceLT, Int.reduceNeg, Int.reduceToNat, ↓reduceIte, String.reduceBEq, Nat.reduceBEq, beq_self_eq_true])
    refine book_t hA k' ?_
    ((try simp only [SXQ, Mtd.ty, isTy, DL.isNon, CFdiv, asKey, Nat.reduceAdd, Nat.reduceLeDiff, Nat.reduceLT, Int.reduceLT, Int.reduceNeg, Int.reduceToNat, ↓reduceIte, String.reduceBEq, Nat.reduceBEq, beq_self_eq_true]); rw [ss_cons]; simp only [SXQ, Mtd.ty, isTy, DL.isNon, CFdiv, asKey, Nat.reduceAdd, Nat.reduceLeDiff, Nat.reduceLT, Int.reduceLT, Int.reduceNeg, Int.reduceToNat, ↓reduceIte, String.reduceBEq, Nat.reduceBEq, beq_self_eq_true])
    refine lbook_ hA k' ?_
    (try simp only [SXQ, Mtd.ty, isTy, DL.isNon, CFdiv, asKey, Nat.reduceAdd, Nat.reduceLeDiff, Nat.reduceLT, Int.reduceLT, Int.reduceNeg, Int.reduceToNat, ↓reduceIte, String.reduceBEq, Nat.reduceBEq, beq_self_eq_true])
    ((try simp only [SXQ, Mtd.ty, isTy, DL.isNon, CFdiv, asKey, Nat.reduceAdd, Nat.reduceLeDiff, Nat.reduceLT, Int.reduceLT, Int.reduceNeg, Int.reduceToNat, ↓reduceIte, String.reduceBEq, Nat.reduceBEq, beq_self_eq_true]); rw [ss_nil])
    ((try simp only [SXQ, Mtd.ty, isTy, DL.isNon, CFdiv, asKey, Nat.reduceAdd, Nat.reduceLeDiff, Nat.reduceLT, Int.reduceLT, Int.reduceNeg, Int.reduceToNat, ↓reduceIte, String.reduceBEq, Nat.reduceBEq, beq_self_eq_true]); rw [ss_cons]; simp only [SXQ, Mtd.ty, isTy, DL.isNon, CFdiv, asKey, Nat.reduceAdd, Nat.reduceLeDiff, Nat.reduceLT, Int.reduceLT, Int.reduceNeg, Int.reduceToNat, ↓reduceIte, String.reduceBEq, Nat.reduceBEq, beq_self_eq_true])
    ((try simp only [SXQ, Mtd.ty, isTy, DL.isNon, CFdiv, asKey, Nat.reduceAdd, Nat.reduceLeDiff, Nat.reduceLT, Int.reduceLT, Int.reduceNeg, Int.reduceToNat, ↓reduceIte, String.reduceBEq, Nat.reduceBEq, beq_self_eq_true]); rw [ss_nil])
  · rintro s h rfl
    ((try simp only [SXQ, Mtd.ty, isTy, DL.isNon, CFdiv, asKey, Nat.reduceAdd, Nat.reduceLeDiff, Nat.reduceLT, Int.reduceLT, Int.reduceNeg, Int.reduceToNat, ↓reduceIte, String.reduceBEq, Nat.reduceBEq, beq_self_eq_true]); rw [ss_cons]; simp only [SXQ, Mtd.ty, isTy, DL.isNon, CFdiv, asKey, Nat.reduceAdd, Nat.reduceLeDiff, Nat.reduceLT, Int.reduceLT, Int.reduceNeg, Int.reduceToNat, ↓reduceIte, String.reduceBEq, Nat.reduceBEq, beq_self_eq_true])
    refine rA _ _ ?_
    (try simp only [SXQ, Mtd.ty, isTy, DL.isNon, CFdiv, asKey, Nat.reduceAdd, Nat.reduceLeDiff, Nat.reduceLT, Int.reduceLT, Int.reduceNeg, Int.reduceToNat, ↓reduceIte, String.reduceBEq, Nat.reduceBEq, beq_self_eq_true])
end
theorem law_true {ns : List Int} (hn : ns.length ≤ 63) : run gl ds 8 17 [.fl (ns.map .int)] (fun _ => none) (fun d _ => d = .bl true) fun _ _ => False := law_h (n := 0) hn
end Qk58

open PySem PySem.W PyProof.Rows
set_option maxHeartbeats 0 in
theorem PySem.Challenge.cw_hourcoin_k58_books_written_holds : PySem.Challenge.rw_hourcoin_k58_books_written.Holds := by
  w_on; o_law; x_head; (case hw => w_witness2)
  k_fill
  refine DL.law_end (l := PySem.Challenge.rw_hourcoin_k58_books_written) (n := 63) (kk := DL.lv 8) (k := 8) (i := 17) (gl := Qk58.gl) (ds := Qk58.ds) (C := fun _ _ => 0) rfl (by decide) rfl ⟨rfl, by decide, by decide⟩ (fun w h Y => PySem.W.kIn_of Y) ?F (fun ns hl => Qk58.law_true hl)
  case F =>
    intro w mg fa h KX G hmg
    refine' Qk58.fd_all 7 KX G hmg ?SM ?qa0 ?ql0 ?qc0 ?qk0 ?qa1 ?ql1 ?qc1 ?qk1 ?qa2 ?ql2 ?qc2 ?qk2 ?qa3 ?ql3 ?qc3 ?qk3 ?qa4 ?ql4 ?qc4 ?qk4 ?qa5 ?ql5 ?qc5 ?qk5 ?qa6 ?ql6 ?qc6 ?qk6 ?qa7 ?ql7 ?qc7 ?qk7 ?qa8 ?ql8 ?qc8 ?qk8 ?qa9 ?ql9 ?qc9 ?qk9 ?qa10 ?ql10 ?qc10 ?qk10 ?qa11 ?ql11 ?qc11 ?qk11 ?qa12 ?ql12 ?qc12 ?qk12 ?qa13 ?ql13 ?qc13 ?qk13 ?qa14 ?ql14 ?qc14 ?qk14 ?qa15 ?ql15 ?qc15 ?qk15 ?qa16 ?ql16 ?qc16 ?qk16 ?qa17 ?ql17 ?qc17 ?qk17 ?Z0 ?Z1 ?Z2 ?Z3 ?Z4 ?Z5 ?Z6 ?Z7 ?Z8 ?Z9
    (case SM => first | (refine' DL.sm2 ?sz; (case sz => k_is)) | (refine' DL.sm3 ?sz; (case sz => first | k_is | rfl | decide +kernel)))
    (case qa0 => k_is)
    (case ql0 => k_is)
    (case qc0 => k_is)
    (case qk0 => k_is)
    (case qa1 => k_is)
    (case ql1 => k_is)
    (case qc1 => k_is)
    (case qk1 => k_is)
    (case qa2 => k_is)
    (case ql2 => k_is)
    (case qc2 => k_is)
    (case qk2 => k_is)
    (case qa3 => k_is)
    (case ql3 => k_is)
    (case qc3 => k_is)
    (case qk3 => k_is)
    (case qa4 => k_is)
    (case ql4 => k_is)
    (case qc4 => k_is)
    (case qk4 => k_is)
    (case qa5 => k_is)
    (case ql5 => k_is)
    (case qc5 => k_is)
    (case qk5 => k_is)
    (case qa6 => k_is)
    (case ql6 => k_is)
    (case qc6 => k_is)
    (case qk6 => k_is)
    (case qa7 => k_is)
    (case ql7 => k_is)
    (case qc7 => k_is)
    (case qk7 => k_is)
    (case qa8 => k_is)
    (case ql8 => k_is)
    (case qc8 => k_is)
    (case qk8 => k_is)
    (case qa9 => k_is)
    (case ql9 => k_is)
    (case qc9 => k_is)
    (case qk9 => k_is)
    (case qa10 => k_is)
    (case ql10 => k_is)
    (case qc10 => k_is)
    (case qk10 => k_is)
    (case qa11 => k_is)
    (case ql11 => k_is)
    (case qc11 => k_is)
    (case qk11 => k_is)
    (case qa12 => k_is)
    (case ql12 => k_is)
    (case qc12 => k_is)
    (case qk12 => k_is)
    (case qa13 => k_is)
    (case ql13 => k_is)
    (case qc13 => k_is)
    (case qk13 => k_is)
    (case qa14 => k_is)
    (case ql14 => k_is)
    (case qc14 => k_is)
    (case qk14 => k_is)
    (case qa15 => k_is)
    (case ql15 => k_is)
    (case qc15 => k_is)
    (case qk15 => k_is)
    (case qa16 => k_is)
    (case ql16 => k_is)
    (case qc16 => k_is)
    (case qk16 => k_is)
    (case qa17 => k_is)
    (case ql17 => k_is)
    (case qc17 => k_is)
    (case qk17 => k_is)
    (case Z0 => k_is)
    (case Z1 => k_is)
    (case Z2 => k_is)
    (case Z3 => k_is)
    (case Z4 => k_is)
    (case Z5 => k_is)
    (case Z6 => k_is)
    (case Z7 => k_is)
    (case Z8 => k_is)
    (case Z9 => k_is)
