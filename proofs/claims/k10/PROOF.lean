import PyProof.Rows.All
import HandS.ForMost
import HandS.Flow
import HandS.Wide
import HandS.EndBits
import HandS.TupAny
import HandS.TupLe
import HandS.Deep
import HandS.SortInts
import HandS.Style
import HandS.Conv
import HandS.Walk
import KE.GoesEnum
import KE.GoesMore
import HandS.RaiseMore
import HandS.TryOnly
import HandS.SetKeys
import PyProof.DictMoreH
import PySem.Challenge.RW_wholelog_k10_settled_and_visible
set_option Elab.async false
set_option linter.all false
set_option maxRecDepth 100000
set_option maxHeartbeats 4000000
/-! W9a: data as trees, a store of objects, and how both lie in the hand layer's heap -/
namespace W9
open PySem L2

/-- data: immutable things as trees, mutable ones by their number in the store -/
inductive D where
  | non | bl (b : Bool) | int (i : Int) | str (s : Str) | tup (xs : List D) | fls (xs : List D) | ob (i : Nat)
mutual
def D.beq : D → D → Bool
  | .non, .non => true
  | .bl a, .bl b => a == b
  | .int a, .int b => a == b
  | .str a, .str b => decide (a = b)
  | .tup a, .tup b => D.beqs a b
  | .fls a, .fls b => D.beqs a b
  | .ob a, .ob b => a == b
  | _, _ => false
def D.beqs : List D → List D → Bool
  | [], [] => true
  | a :: as, b :: bs => D.beq a b && D.beqs as bs
  | _, _ => false
end
mutual
theorem D.beq_iff : ∀ a b : D, D.beq a b = true ↔ a = b
  | .non, b => by cases b <;> simp [D.beq]
  | .bl x, b => by cases b <;> simp [D.beq]
  | .int x, b => by cases b <;> simp [D.beq]
  | .str x, b => by cases b <;> simp [D.beq]
  | .ob x, b => by cases b <;> simp [D.beq]
  | .tup xs, b => by
    cases b with
    | tup ys => simp only [D.beq, D.tup.injEq]; exact D.beqs_iff xs ys
    | _ => simp [D.beq]
  | .fls xs, b => by
    cases b with
    | fls ys => simp only [D.beq, D.fls.injEq]; exact D.beqs_iff xs ys
    | _ => simp [D.beq]
theorem D.beqs_iff : ∀ a b : List D, D.beqs a b = true ↔ a = b
  | [], [] => by simp [D.beqs]
  | [], _ :: _ => by simp [D.beqs]
  | _ :: _, [] => by simp [D.beqs]
  | x :: xs, y :: ys => by simp only [D.beqs, Bool.and_eq_true, List.cons.injEq, D.beq_iff x y, D.beqs_iff xs ys]
end
instance : DecidableEq D := fun a b => decidable_of_iff _ (D.beq_iff a b)

inductive Ob where
  | lst (xs : List D) | dct (kvs : List (D × D))
  deriving DecidableEq
abbrev Store := List Ob

/-- the one tuple of the program's top -/
abbrev bookD : List D := [.str "book", .int 0]
/-! ### how data lie -/
/-- a list that is never written: the script, a list of the module -/
def SqF (K : PySem.W.Frag) (H : Hp) (a : Addr) (xs : List V) : Prop := (∃ o, H a = some (.frz o (.lst xs))) ∨
  ∃ (o : Obj) (its : Array Value) (n : Nat), K.lookup a = some o ∧ o.cls = .type "list" ∧ o.dict = none ∧ o.data = .seq its n ∧ its.size ≤ sizeLine ∧ Vals xs its.toList
theorem SqF.sq {K : PySem.W.Frag} {H : Hp} {a : Addr} {xs : List V} (h : SqF K H a xs) : SqL K H a xs := by
  rcases h with ⟨o, h⟩ | h
  · exact .inl (.inr ⟨o, h⟩)
  · exact .inr h
mutual
inductive Rep (K : PySem.W.Frag) (ρ : List Addr) (H : Hp) : D → V → Prop
  | non : Rep K ρ H .non .non
  | bl (b : Bool) : Rep K ρ H (.bl b) (.bl b)
  | int (i : Int) : Rep K ρ H (.int i) (.int i)
  | str (x : Str) : Rep K ρ H (.str x) (.str x)
  | tup {a : Addr} {ds : List D} {vs : List V} : SqT K H a vs → Reps K ρ H ds vs → (H a = some (.tup vs) ∨ ds = bookD) → Rep K ρ H (.tup ds) (.ref a)
  | fls {a : Addr} {ds : List D} {vs : List V} : SqF K H a vs → Reps K ρ H ds vs → Rep K ρ H (.fls ds) (.ref a)
  | ob {i : Nat} {a : Addr} : ρ[i]? = some a → Rep K ρ H (.ob i) (.ref a)
inductive Reps (K : PySem.W.Frag) (ρ : List Addr) (H : Hp) : List D → List V → Prop
  | nil : Reps K ρ H [] []
  | cons {d : D} {ds : List D} {v : V} {vs : List V} : Rep K ρ H d v → Reps K ρ H ds vs → Reps K ρ H (d :: ds) (v :: vs)
end

/-- keys of dicts -/
def keyD : D → Option Key
  | .int i => some (.inl i)
  | .str s => some (.inr s)
  | _ => none
def keysD : List D → Option (List Key)
  | [] => some []
  | d :: ds => match keyD d, keysD ds with
    | some k, some ks => some (k :: ks)
    | _, _ => none
def keyT : D → Option (List Key)
  | .tup ds => if ds = bookD then none else keysD ds
  | _ => none
/-- a dict's pairs as the hand layer has them -/
inductive KvK (K : PySem.W.Frag) (ρ : List Addr) (H : Hp) : List (D × D) → List (Key × V) → Prop
  | nil : KvK K ρ H [] []
  | cons {k d : D} {r : List (D × D)} {key : Key} {v : V} {vr : List (Key × V)} : keyD k = some key → Rep K ρ H d v → KvK K ρ H r vr → KvK K ρ H ((k, d) :: r) ((key, v) :: vr)
inductive KvT (K : PySem.W.Frag) (ρ : List Addr) (H : Hp) : List (D × D) → List (List Key × V) → Prop
  | nil : KvT K ρ H [] []
  | cons {k d : D} {r : List (D × D)} {key : List Key} {v : V} {vr : List (List Key × V)} : keyT k = some key → Rep K ρ H d v → KvT K ρ H r vr → KvT K ρ H ((k, d) :: r) ((key, v) :: vr)

def ObRep (K : PySem.W.Frag) (ρ : List Addr) (H : Hp) (a : Addr) : Ob → Prop
  | .lst ds => ∃ vs, H a = some (.lst vs) ∧ Reps K ρ H ds vs
  | .dct kvs => (∃ ks, H a = some (.dK ks) ∧ KvK K ρ H kvs ks) ∨ (∃ ks, H a = some (.dT ks) ∧ KvT K ρ H kvs ks)

structure Sim (K : PySem.W.Frag) (ρ : List Addr) (st : Store) (H : Hp) : Prop where
  len : ρ.length = st.length
  nd : ρ.Nodup
  ob : ∀ (i : Nat) (o : Ob) (a : Addr), st[i]? = some o → ρ[i]? = some a → ObRep K ρ H a o

structure Grow (ρ : List Addr) (H : Hp) (ρ' : List Addr) (H' : Hp) : Prop where
  pre : ρ <+: ρ'
  fr : ∀ a ∈ ρ', a ∉ ρ → H a = none
  frame : ∀ b o, H b = some o → b ∉ ρ → H' b = some o
  tups : ∀ b xs, H b = some (.tup xs) → H' b = some (.tup xs)
  frzs : ∀ b o u, H b = some (.frz o u) → H' b = some (.frz o u)

theorem Grow.refl (ρ : List Addr) (H : Hp) : Grow ρ H ρ H := ⟨List.prefix_refl _, fun a h n => absurd h n, fun _ _ h _ => h, fun _ _ h => h, fun _ _ _ h => h⟩
theorem Grow.trans {ρ ρ1 ρ2 : List Addr} {H H1 H2 : Hp} (g : Grow ρ H ρ1 H1) (h : Grow ρ1 H1 ρ2 H2) : Grow ρ H ρ2 H2 := by
  refine ⟨g.pre.trans h.pre, fun a ha hn => ?_, fun b o e hb => h.frame b o (g.frame b o e hb) fun z => ?_, fun b xs e => h.tups b xs (g.tups b xs e), fun b o u e => h.frzs b o u (g.frzs b o u e)⟩
  · by_cases h1 : a ∈ ρ1
    · exact g.fr a h1 hn
    · have q := h.fr a ha h1
      cases e : H a with
      | none => rfl
      | some o => rw [g.frame a o e hn] at q; cases q
  · have q := g.fr b z hb
    rw [e] at q; cases q
/-- what data lean on -/
structure Keep (ρ : List Addr) (H : Hp) (ρ' : List Addr) (H' : Hp) : Prop where
  pre : ρ <+: ρ'
  tups : ∀ b xs, H b = some (.tup xs) → H' b = some (.tup xs)
  frzs : ∀ b o u, H b = some (.frz o u) → H' b = some (.frz o u)
theorem Grow.keep {ρ ρ1 : List Addr} {H H1 : Hp} (g : Grow ρ H ρ1 H1) : Keep ρ H ρ1 H1 := ⟨g.pre, g.tups, g.frzs⟩
theorem Keep.ix {ρ ρ1 : List Addr} {H H1 : Hp} (g : Keep ρ H ρ1 H1) {i : Nat} {a : Addr} (h : ρ[i]? = some a) : ρ1[i]? = some a := by
  obtain ⟨t, rfl⟩ := g.pre
  rw [List.getElem?_append_left (List.getElem?_eq_some_iff.mp h).1]
  exact h
theorem Keep.sqt {K : PySem.W.Frag} {ρ ρ1 : List Addr} {H H1 : Hp} (g : Keep ρ H ρ1 H1) {a : Addr} {vs : List V} (h : SqT K H a vs) : SqT K H1 a vs := by
  rcases h with (h | ⟨o, h⟩) | h
  · exact .inl (.inl (g.tups _ _ h))
  · exact .inl (.inr ⟨o, g.frzs _ _ _ h⟩)
  · exact .inr h
theorem Keep.sqf {K : PySem.W.Frag} {ρ ρ1 : List Addr} {H H1 : Hp} (g : Keep ρ H ρ1 H1) {a : Addr} {vs : List V} (h : SqF K H a vs) : SqF K H1 a vs := by
  rcases h with ⟨o, h⟩ | h
  · exact .inl ⟨o, g.frzs _ _ _ h⟩
  · exact .inr h
theorem Grow.ix {ρ ρ1 : List Addr} {H H1 : Hp} (g : Grow ρ H ρ1 H1) {i : Nat} {a : Addr} (h : ρ[i]? = some a) : ρ1[i]? = some a := g.keep.ix h
theorem Grow.sqt {K : PySem.W.Frag} {ρ ρ1 : List Addr} {H H1 : Hp} (g : Grow ρ H ρ1 H1) {a : Addr} {vs : List V} (h : SqT K H a vs) : SqT K H1 a vs := g.keep.sqt h
theorem Grow.sqf {K : PySem.W.Frag} {ρ ρ1 : List Addr} {H H1 : Hp} (g : Grow ρ H ρ1 H1) {a : Addr} {vs : List V} (h : SqF K H a vs) : SqF K H1 a vs := g.keep.sqf h
mutual
theorem Rep.keep {K : PySem.W.Frag} {ρ ρ1 : List Addr} {H H1 : Hp} (g : Keep ρ H ρ1 H1) : ∀ {d : D} {v : V}, Rep K ρ H d v → Rep K ρ1 H1 d v
  | _, _, .non => .non
  | _, _, .bl b => .bl b
  | _, _, .int i => .int i
  | _, _, .str x => .str x
  | _, _, .tup h hs hb => .tup (g.sqt h) (Reps.keep g hs) (hb.imp (g.tups _ _) id)
  | _, _, .fls h hs => .fls (g.sqf h) (Reps.keep g hs)
  | _, _, .ob h => .ob (g.ix h)
theorem Reps.keep {K : PySem.W.Frag} {ρ ρ1 : List Addr} {H H1 : Hp} (g : Keep ρ H ρ1 H1) : ∀ {ds : List D} {vs : List V}, Reps K ρ H ds vs → Reps K ρ1 H1 ds vs
  | _, _, .nil => .nil
  | _, _, .cons h hs => .cons (Rep.keep g h) (Reps.keep g hs)
end
theorem KvK.keep {K : PySem.W.Frag} {ρ ρ1 : List Addr} {H H1 : Hp} (g : Keep ρ H ρ1 H1) : ∀ {ds : List (D × D)} {vs : List (Key × V)}, KvK K ρ H ds vs → KvK K ρ1 H1 ds vs
  | _, _, .nil => .nil
  | _, _, .cons e h hs => .cons e (Rep.keep g h) (KvK.keep g hs)
theorem KvT.keep {K : PySem.W.Frag} {ρ ρ1 : List Addr} {H H1 : Hp} (g : Keep ρ H ρ1 H1) : ∀ {ds : List (D × D)} {vs : List (List Key × V)}, KvT K ρ H ds vs → KvT K ρ1 H1 ds vs
  | _, _, .nil => .nil
  | _, _, .cons e h hs => .cons e (Rep.keep g h) (KvT.keep g hs)
theorem Rep.grow {K : PySem.W.Frag} {ρ ρ1 : List Addr} {H H1 : Hp} (g : Grow ρ H ρ1 H1) {d : D} {v : V} (h : Rep K ρ H d v) : Rep K ρ1 H1 d v := h.keep g.keep
theorem Reps.grow {K : PySem.W.Frag} {ρ ρ1 : List Addr} {H H1 : Hp} (g : Grow ρ H ρ1 H1) {ds : List D} {vs : List V} (h : Reps K ρ H ds vs) : Reps K ρ1 H1 ds vs := h.keep g.keep
theorem KvK.grow {K : PySem.W.Frag} {ρ ρ1 : List Addr} {H H1 : Hp} (g : Grow ρ H ρ1 H1) {ds : List (D × D)} {vs : List (Key × V)} (h : KvK K ρ H ds vs) : KvK K ρ1 H1 ds vs := h.keep g.keep
theorem KvT.grow {K : PySem.W.Frag} {ρ ρ1 : List Addr} {H H1 : Hp} (g : Grow ρ H ρ1 H1) {ds : List (D × D)} {vs : List (List Key × V)} (h : KvT K ρ H ds vs) : KvT K ρ1 H1 ds vs := h.keep g.keep
theorem Reps.length {K : PySem.W.Frag} {ρ : List Addr} {H : Hp} : ∀ {ds : List D} {vs : List V}, Reps K ρ H ds vs → ds.length = vs.length
  | _, _, .nil => rfl
  | _, _, .cons _ h => congrArg (· + 1) (Reps.length h)
theorem Reps.append {K : PySem.W.Frag} {ρ : List Addr} {H : Hp} : ∀ {ds es : List D} {vs ws : List V}, Reps K ρ H ds vs → Reps K ρ H es ws → Reps K ρ H (ds ++ es) (vs ++ ws)
  | _, _, _, _, .nil, h => h
  | _, _, _, _, .cons a b, h => .cons a (Reps.append b h)
theorem Reps.get {K : PySem.W.Frag} {ρ : List Addr} {H : Hp} : ∀ {ds : List D} {vs : List V} {i : Nat} {d : D}, Reps K ρ H ds vs → ds[i]? = some d → ∃ v, vs[i]? = some v ∧ Rep K ρ H d v
  | _, _, _, _, .nil, e => by simp at e
  | _, _, 0, _, .cons r _, e => by simp at e; subst e; exact ⟨_, rfl, r⟩
  | _, _, i + 1, d, .cons _ t, e => by
    obtain ⟨u, h1, h2⟩ := Reps.get (i := i) (d := d) t (by simpa using e)
    exact ⟨u, by simpa using h1, h2⟩
theorem Reps.get' {K : PySem.W.Frag} {ρ : List Addr} {H : Hp} : ∀ {ds : List D} {vs : List V} {i : Nat} {v : V}, Reps K ρ H ds vs → vs[i]? = some v → ∃ d, ds[i]? = some d ∧ Rep K ρ H d v
  | _, _, _, _, .nil, e => by simp at e
  | _, _, 0, _, .cons r _, e => by simp at e; subst e; exact ⟨_, rfl, r⟩
  | _, _, i + 1, d, .cons _ t, e => by
    obtain ⟨u, h1, h2⟩ := Reps.get' (i := i) (v := d) t (by simpa using e)
    exact ⟨u, by simpa using h1, h2⟩
theorem Reps.set {K : PySem.W.Frag} {ρ : List Addr} {H : Hp} {d : D} {v : V} (r : Rep K ρ H d v) : ∀ {ds : List D} {vs : List V} (i : Nat), Reps K ρ H ds vs → Reps K ρ H (ds.set i d) (vs.set i v)
  | _, _, _, .nil => .nil
  | _, _, 0, .cons _ t => .cons r t
  | _, _, i + 1, .cons q t => .cons q (Reps.set r i t)
theorem Reps.take {K : PySem.W.Frag} {ρ : List Addr} {H : Hp} : ∀ {ds : List D} {vs : List V} (n : Nat), Reps K ρ H ds vs → Reps K ρ H (ds.take n) (vs.take n)
  | _, _, 0, _ => .nil
  | _, _, _ + 1, .nil => .nil
  | _, _, n + 1, .cons r t => .cons r (Reps.take n t)
theorem Reps.drop {K : PySem.W.Frag} {ρ : List Addr} {H : Hp} : ∀ {ds : List D} {vs : List V} (n : Nat), Reps K ρ H ds vs → Reps K ρ H (ds.drop n) (vs.drop n)
  | _, _, 0, r => r
  | _, _, _ + 1, .nil => .nil
  | _, _, n + 1, .cons _ t => Reps.drop n t
theorem Reps.eraseIdx {K : PySem.W.Frag} {ρ : List Addr} {H : Hp} : ∀ {ds : List D} {vs : List V} (n : Nat), Reps K ρ H ds vs → Reps K ρ H (ds.eraseIdx n) (vs.eraseIdx n)
  | _, _, _, .nil => .nil
  | _, _, 0, .cons _ t => t
  | _, _, n + 1, .cons r t => .cons r (Reps.eraseIdx n t)
/-- an object's description stands while the heap at its own place does -/
theorem ObRep.keep {K : PySem.W.Frag} {ρ ρ1 : List Addr} {H H1 : Hp} {a : Addr} {o : Ob} (g : Keep ρ H ρ1 H1) (ha : ∀ u, H a = some u → H1 a = some u) (h : ObRep K ρ H a o) : ObRep K ρ1 H1 a o := by
  cases o with
  | lst ds => obtain ⟨vs, e, r⟩ := h; exact ⟨vs, ha _ e, r.keep g⟩
  | dct kvs =>
    rcases h with ⟨ks, e, r⟩ | ⟨ks, e, r⟩
    · exact .inl ⟨ks, ha _ e, r.keep g⟩
    · exact .inr ⟨ks, ha _ e, r.keep g⟩
theorem ObRep.grow {K : PySem.W.Frag} {ρ ρ1 : List Addr} {H H1 : Hp} {a : Addr} {o : Ob} (g : Grow ρ H ρ1 H1) (ha : ∀ u, H a = some u → H1 a = some u) (h : ObRep K ρ H a o) : ObRep K ρ1 H1 a o := h.keep g.keep ha

section
variable {K : PySem.W.Frag} {ρ : List Addr} {st : Store} {H : Hp}
theorem Sim.addr (S : Sim K ρ st H) {i : Nat} {o : Ob} (h : st[i]? = some o) : ∃ a, ρ[i]? = some a ∧ ObRep K ρ H a o := by
  have hi : i < ρ.length := by rw [S.len]; exact (List.getElem?_eq_some_iff.mp h).1
  exact ⟨ρ[i], by simp [hi], S.ob i o ρ[i] h (by simp [hi])⟩
/-- a heap object outside the store's comes: nothing changes -/
theorem grow_new {p : Addr} {u : HO} (hp : H p = none) : Grow ρ H ρ (upd H p u) :=
  ⟨List.prefix_refl _, fun a h n => absurd h n, fun b o e _ => by rw [upd_ne (ne_of_none e hp)]; exact e, fun b xs e => by rw [upd_ne (ne_of_none e hp)]; exact e, fun b o xs e => by rw [upd_ne (ne_of_none e hp)]; exact e⟩
theorem Sim.new (S : Sim K ρ st H) {p : Addr} {u : HO} (hp : H p = none) : Sim K ρ st (upd H p u) :=
  ⟨S.len, S.nd, fun i o a h1 h2 => (S.ob i o a h1 h2).grow (grow_new hp) fun w e => by rw [upd_ne (ne_of_none e hp)]; exact e⟩
theorem grow_lay {p : Addr} {u : HO} (hp : H p = none) : Grow ρ H (ρ ++ [p]) (upd H p u) := by
  refine ⟨List.prefix_append _ _, fun a h n => ?_, (grow_new (ρ := ρ) hp).frame, (grow_new (ρ := ρ) hp).tups, (grow_new (ρ := ρ) hp).frzs⟩
  rcases List.mem_append.mp h with h | h
  · exact absurd h n
  · rw [List.mem_singleton.mp h]; exact hp
theorem Sim.free (S : Sim K ρ st H) {p : Addr} (hp : H p = none) : p ∉ ρ := by
  intro h
  obtain ⟨i, hi, e⟩ := List.getElem_of_mem h
  have hi' : i < st.length := by rw [← S.len]; exact hi
  have e2 : ρ[i]? = some p := by simp [hi, e]
  have r := S.ob i st[i] p (by simp [hi']) e2
  cases q : st[i] with
  | lst ds => rw [q] at r; obtain ⟨vs, z, _⟩ := r; rw [hp] at z; cases z
  | dct kvs =>
    rw [q] at r
    rcases r with ⟨_, z, _⟩ | ⟨_, z, _⟩ <;> (rw [hp] at z; cases z)
end
end W9

/-! W9b: what runs, by values of the store: the monad, what is wanted of a piece of syntax, operators -/
namespace W9
open PySem L2

structure Exn where
  cls : Str
  val : D
/-- an answer: a value and the store, an exception, or nothing is told -/
inductive R (α : Type) where
  | ok (a : α) (st : Store)
  | ex (x : Exn) (st : Store)
  | no
abbrev M (α : Type) := Store → R α
@[reducible] def M.bind {α β : Type} (m : M α) (f : α → M β) : M β := fun st => match m st with
  | .ok a st1 => f a st1
  | .ex x st1 => .ex x st1
  | .no => .no
abbrev Env := List (Option D)

/-! ### what is wanted of a piece of syntax, at one state -/
def WE (X : Cx) (e : Expr) (σ : L2.St) (H : Hp) (Q : VK) : Prop := ∀ (pins : List (Addr × Obj)) (s : Shared), Inv X pins σ H s → wpAny (model X.prog X.w) X.A (eval e X.env) (EP X pins σ Q) X.xe s
def WT (X : Cx) (e : Expr) (σ : L2.St) (H : Hp) (Q : Bool → Hp → Prop) : Prop := ∀ (pins : List (Addr × Obj)) (s : Shared), Inv X pins σ H s → wpAny (model X.prog X.w) X.A (isTrue e X.env (eval e X.env)) (TP X pins σ Q) X.xe s
def WA (X : Cx) (es : List Expr) (σ : L2.St) (H : Hp) (Q : List V → Hp → Prop) : Prop := ∀ (pos : Pos) (pins : List (Addr × Obj)) (s : Shared), Inv X pins σ H s → wpAny (model X.prog X.w) X.A (spliced (backTo pos (starEach es X.env))) (AP X pins σ Q) X.xe s
def WS (X : Cx) (st : Stmt) (D : Ends) (σ : L2.St) (H : Hp) : Prop := ∀ (pins : List (Addr × Obj)) (s : Shared), Inv X pins σ H s → wpAny (model X.prog X.w) X.A (exec st X.env) (SP X pins D) X.xe s
def WSs (X : Cx) (st : List Stmt) (D : Ends) (σ : L2.St) (H : Hp) : Prop := ∀ (pins : List (Addr × Obj)) (s : Shared), Inv X pins σ H s → wpAny (model X.prog X.w) X.A (execs st X.env) (SP X pins D) X.xe s
section
variable {X : Cx} {e : Expr} {σ : L2.St} {H : Hp}
theorem pe_we : PE X e (WE X e) := ⟨fun pins s σ H Q I h => h pins s I⟩
theorem pt_wt : PT X e (WT X e) := ⟨fun pins s σ H Q I h => h pins s I⟩
theorem pa_wa {es : List Expr} : PA X es (WA X es) := ⟨fun pos pins s σ H Q I h => h pos pins s I⟩
theorem ps_ws {st : Stmt} : PS X st (WS X st) := ⟨fun pins s σ H D I h => h pins s I⟩
theorem pss_ws {st : List Stmt} : PSs X st (WSs X st) := ⟨fun pins s σ H D I h => h pins s I⟩
theorem we_of {t : TE} {Q : VK} (p : PE X e t) (h : t σ H Q) : WE X e σ H Q := fun pins s I => p.run pins s σ H Q I h
theorem wt_of {t : TT} {Q : Bool → Hp → Prop} (p : PT X e t) (h : t σ H Q) : WT X e σ H Q := fun pins s I => p.run pins s σ H Q I h
theorem wa_of {es : List Expr} {t : TA} {Q : List V → Hp → Prop} (p : PA X es t) (h : t σ H Q) : WA X es σ H Q := fun pos pins s I => p.run pos pins s σ H Q I h
theorem ws_of {st : Stmt} {t : TS} {D : Ends} (p : PS X st t) (h : t D σ H) : WS X st D σ H := fun pins s I => p.run pins s σ H D I h
theorem wss_of {st : List Stmt} {t : TS} {D : Ends} (p : PSs X st t) (h : t D σ H) : WSs X st D σ H := fun pins s I => p.run pins s σ H D I h
theorem WE.mono {Q Q' : VK} (h : WE X e σ H Q) (k : ∀ v H', Q v H' → Q' v H') : WE X e σ H Q' := fun pins s I => thn (h pins s I) fun u s' ⟨v, H', I', r, q⟩ => ⟨v, H', I', r, k v H' q⟩
end

/-! ### the frame's names -/
structure EnvR (K : PySem.W.Frag) (ρ : List Addr) (H : Hp) (env : Env) (σ : L2.St) : Prop where
  len : σ.length = env.length
  at' : ∀ (i : Nat) (d : D), env[i]? = some (some d) → ∃ v, σ[i]? = some (some v) ∧ Rep K ρ H d v
theorem EnvR.grow {K : PySem.W.Frag} {ρ ρ1 : List Addr} {H H1 : Hp} {env : Env} {σ : L2.St} (g : Grow ρ H ρ1 H1) (h : EnvR K ρ H env σ) : EnvR K ρ1 H1 env σ :=
  ⟨h.len, fun i d e => let ⟨v, a, b⟩ := h.at' i d e; ⟨v, a, b.grow g⟩⟩
theorem EnvR.set {K : PySem.W.Frag} {ρ : List Addr} {H : Hp} {env : Env} {σ : L2.St} {d : D} {v : V} (h : EnvR K ρ H env σ) (r : Rep K ρ H d v) (i : Nat) : EnvR K ρ H (env.set i (some d)) (σ.set i (some v)) := by
  refine ⟨by simp [h.len], fun j d' e => ?_⟩
  by_cases hj : i = j
  · subst hj
    by_cases hi : i < env.length
    · rw [List.getElem?_set_self hi] at e
      cases e
      exact ⟨v, by rw [List.getElem?_set_self (by rw [h.len]; exact hi)], r⟩
    · rw [List.getElem?_eq_none (by simpa using hi)] at e; cases e
  · rw [List.getElem?_set_ne hj] at e
    rw [List.getElem?_set_ne hj]
    exact h.at' j d' e

/-- the answer stands -/
def Post (K : PySem.W.Frag) (ρ : List Addr) (H : Hp) (st : Store) (d : D) (Q : VK) : Prop := ∀ ρ' H' v, Grow ρ H ρ' H' → Sim K ρ' st H' → Rep K ρ' H' d v → Q v H'
def Posts (K : PySem.W.Frag) (ρ : List Addr) (H : Hp) (st : Store) (ds : List D) (Q : List V → Hp → Prop) : Prop := ∀ ρ' H' vs, Grow ρ H ρ' H' → Sim K ρ' st H' → Reps K ρ' H' ds vs → Q vs H'
def PostB (K : PySem.W.Frag) (ρ : List Addr) (H : Hp) (st : Store) (b : Bool) (Q : Bool → Hp → Prop) : Prop := ∀ ρ' H', Grow ρ H ρ' H' → Sim K ρ' st H' → Q b H'

def SndE (X : Cx) (e : Expr) (m : Env → M D) : Prop := ∀ ρ st env σ H d st', Sim X.K ρ st H → EnvR X.K ρ H env σ → m env st = .ok d st' → ∀ Q, Post X.K ρ H st' d Q → WE X e σ H Q
def SndT (X : Cx) (e : Expr) (m : Env → M Bool) : Prop := ∀ ρ st env σ H b st', Sim X.K ρ st H → EnvR X.K ρ H env σ → m env st = .ok b st' → ∀ Q, PostB X.K ρ H st' b Q → WT X e σ H Q
def SndA (X : Cx) (es : List Expr) (m : Env → M (List D)) : Prop := ∀ ρ st env σ H ds st', Sim X.K ρ st H → EnvR X.K ρ H env σ → m env st = .ok ds st' → ∀ Q, Posts X.K ρ H st' ds Q → WA X es σ H Q

/-- an operation on values -/
def OkOp (X : Cx) (f : Value → Value → Sem Value) (g : D → D → M D) : Prop := ∀ ρ st H x y v w d st', Sim X.K ρ st H → Rep X.K ρ H x v → Rep X.K ρ H y w → g x y st = .ok d st' →
  ∃ r : R2, OpR X f r ∧ ∀ Q, Post X.K ρ H st' d Q → r v w H Q
def OkCall (X : Cx) (f : Value) (g : List D → M D) : Prop := ∀ ρ st H xs vs d st', Sim X.K ρ st H → Reps X.K ρ H xs vs → g xs st = .ok d st' →
  ∃ r : List V → Hp → VK → Prop, CallR X f r ∧ ∀ Q, Post X.K ρ H st' d Q → r vs H Q

theorem Post.self {K : PySem.W.Frag} {ρ : List Addr} {H : Hp} {st : Store} {d : D} {Q : VK} {v : V} (p : Post K ρ H st d Q) (S : Sim K ρ st H) (r : Rep K ρ H d v) : Q v H := p ρ H v (Grow.refl _ _) S r
theorem Post.grow {K : PySem.W.Frag} {ρ ρ1 : List Addr} {H H1 : Hp} {st : Store} {d : D} {Q : VK} (p : Post K ρ H st d Q) (g : Grow ρ H ρ1 H1) : Post K ρ1 H1 st d Q := fun ρ' H' v g' S r => p ρ' H' v (g.trans g') S r
/-- a new tuple -/
theorem Post.tup {K : PySem.W.Frag} {ρ : List Addr} {H : Hp} {st : Store} {ds : List D} {vs : List V} {Q : VK} {p : Addr} (P : Post K ρ H st (.tup ds) Q) (S : Sim K ρ st H) (r : Reps K ρ H ds vs) (hp : H p = none) : Q (.ref p) (upd H p (.tup vs)) :=
  P ρ _ _ (grow_new hp) (S.new hp) (.tup (.inl (.inl upd_same)) (r.grow (grow_new hp)) (.inl upd_same))
/-- a new store object -/
theorem Sim.lay {K : PySem.W.Frag} {ρ : List Addr} {st : Store} {H : Hp} {p : Addr} {u : HO} {o : Ob} (S : Sim K ρ st H) (hp : H p = none) (h : ObRep K (ρ ++ [p]) (upd H p u) p o) : Sim K (ρ ++ [p]) (st ++ [o]) (upd H p u) := by
  have np := S.free hp
  refine ⟨by simp [S.len], ?_, fun i o' a h1 h2 => ?_⟩
  · rw [List.nodup_append]
    exact ⟨S.nd, by simp, fun a ha b hb => by rw [List.mem_singleton.mp hb]; exact fun z => np (z ▸ ha)⟩
  · by_cases hi : i < st.length
    · rw [List.getElem?_append_left hi] at h1
      rw [List.getElem?_append_left (by rw [S.len]; exact hi)] at h2
      exact (S.ob i o' a h1 h2).grow (grow_lay hp) fun w e => by rw [upd_ne (ne_of_none e hp)]; exact e
    · have h3 : i - st.length = 0 ∧ o' = o := by
        rw [List.getElem?_append_right (Nat.le_of_not_lt hi)] at h1
        cases q : i - st.length with
        | zero => rw [q] at h1; simp at h1; exact ⟨rfl, h1.symm⟩
        | succ k => rw [q] at h1; simp at h1
      obtain ⟨h3, rfl⟩ := h3
      rw [List.getElem?_append_right (by rw [S.len]; exact Nat.le_of_not_lt hi), S.len, h3] at h2
      simp at h2
      subst h2
      exact h
theorem Post.lst {K : PySem.W.Frag} {ρ : List Addr} {H : Hp} {st : Store} {ds : List D} {vs : List V} {Q : VK} {p : Addr} (P : Post K ρ H (st ++ [.lst ds]) (.ob st.length) Q) (S : Sim K ρ st H) (r : Reps K ρ H ds vs) (hp : H p = none) : Q (.ref p) (upd H p (.lst vs)) := by
  refine P (ρ ++ [p]) _ _ (grow_lay hp) (S.lay hp ⟨vs, upd_same, r.grow (grow_lay hp)⟩) (.ob ?_)
  rw [List.getElem?_append_right (by rw [S.len]; exact Nat.le_refl _), S.len]
  simp
/-- a store object is written -/
theorem Sim.grow_set {K : PySem.W.Frag} {ρ : List Addr} {st : Store} {H : Hp} {i : Nat} {a : Addr} {u : HO} (S : Sim K ρ st H) (ha : ρ[i]? = some a) (hm : Mut (H a)) : Grow ρ H ρ (upd H a u) := by
  have hmem : a ∈ ρ := List.mem_of_getElem? ha
  refine ⟨List.prefix_refl _, fun b hb n => absurd hb n, fun b o e hb => by rw [upd_ne (fun z => hb (by rw [z]; exact hmem))]; exact e, fun b xs e => ?_, fun b o xs e => ?_⟩
  · rw [upd_ne (fun z => by rw [z] at e; rw [e] at hm; exact hm)]; exact e
  · rw [upd_ne (fun z => by rw [z] at e; rw [e] at hm; exact hm)]; exact e
theorem Sim.set {K : PySem.W.Frag} {ρ : List Addr} {st : Store} {H : Hp} {i : Nat} {a : Addr} {u : HO} {o : Ob} (S : Sim K ρ st H) (ha : ρ[i]? = some a) (hm : Mut (H a)) (h : ObRep K ρ (upd H a u) a o) : Sim K ρ (st.set i o) (upd H a u) := by
  refine ⟨by simp [S.len], S.nd, fun j o' b h1 h2 => ?_⟩
  by_cases hj : i = j
  · subst hj
    have hi : i < st.length := by rw [← S.len]; exact (List.getElem?_eq_some_iff.mp ha).1
    rw [List.getElem?_set_self hi] at h1
    cases h1
    rw [ha] at h2; cases h2
    exact h
  · rw [List.getElem?_set_ne hj] at h1
    refine (S.ob j o' b h1 h2).grow (S.grow_set ha hm) fun w e => ?_
    rw [upd_ne]
    · exact e
    · intro z
      subst z
      exact hj (by
        obtain ⟨q1, e1⟩ := List.getElem?_eq_some_iff.mp ha
        obtain ⟨q2, e2⟩ := List.getElem?_eq_some_iff.mp h2
        exact (List.getElem_inj S.nd).mp (e1.trans e2.symm))

/-! ### data as the library reads it -/
mutual
def pyG (f : Nat → Option PyData) : D → Option PyData
  | .non => some .none
  | .bl b => some (.bool b)
  | .int i => some (.int i)
  | .str x => some (.str x)
  | .tup xs => match pyGs f xs with | some ys => some (.tuple ys) | none => none
  | .fls xs => match pyGs f xs with | some ys => some (.list ys) | none => none
  | .ob i => f i
def pyGs (f : Nat → Option PyData) : List D → Option (List PyData)
  | [] => some []
  | x :: xs => match pyG f x, pyGs f xs with
    | some y, some ys => some (y :: ys)
    | _, _ => none
end
/-- lists by the store, as deep as n -/
def pyO (st : Store) : Nat → Nat → Option PyData
  | 0, _ => none
  | n + 1, i => match st[i]? with
    | some (.lst xs) => match pyGs (pyO st n) xs with | some ys => some (.list ys) | none => none
    | _ => none
def pyD (st : Store) (d : D) : Option PyData := pyG (pyO st 4) d
section
variable {K : PySem.W.Frag} {ρ : List Addr} {st : Store} {H : Hp}
mutual
theorem pyG_dp {f : Nat → Option PyData} (hf : ∀ i a d, ρ[i]? = some a → f i = some d → Dp K H (.ref a) d) : ∀ {d : D} {v : V} {p : PyData}, Rep K ρ H d v → pyG f d = some p → Dp K H v p
  | _, _, _, .non, e => by simp only [pyG] at e; cases e; exact .non
  | _, _, _, .bl b, e => by simp only [pyG] at e; cases e; exact .bl b
  | _, _, _, .int i, e => by simp only [pyG] at e; cases e; exact .int i
  | _, _, _, .str x, e => by simp only [pyG] at e; cases e; exact .str x
  | _, _, _, .tup h hs _, e => by
    simp only [pyG] at e
    split at e
    · rename_i ys q; cases e; exact .tup h (pyGs_dp hf hs q)
    · cases e
  | _, _, _, .fls h hs, e => by
    simp only [pyG] at e
    split at e
    · rename_i ys q; cases e; exact .lst h.sq (pyGs_dp hf hs q)
    · cases e
  | _, _, _, .ob h, e => by
    simp only [pyG] at e
    exact hf _ _ _ h e
theorem pyGs_dp {f : Nat → Option PyData} (hf : ∀ i a d, ρ[i]? = some a → f i = some d → Dp K H (.ref a) d) : ∀ {ds : List D} {vs : List V} {ps : List PyData}, Reps K ρ H ds vs → pyGs f ds = some ps → DpAll K H vs ps
  | _, _, _, .nil, e => by simp only [pyGs] at e; cases e; exact .nil
  | _, _, _, .cons h hs, e => by
    simp only [pyGs] at e
    split at e
    · rename_i y ys q1 q2; cases e; exact .cons (pyG_dp hf h q1) (pyGs_dp hf hs q2)
    · cases e
end
theorem pyO_dp (S : Sim K ρ st H) : ∀ (n i : Nat) (a : Addr) (d : PyData), ρ[i]? = some a → pyO st n i = some d → Dp K H (.ref a) d
  | 0, _, _, _, _, e => by simp only [pyO] at e; cases e
  | n + 1, i, a, d, h, e => by
    simp only [pyO] at e
    split at e
    · rename_i xs q
      split at e
      · rename_i ys q2
        cases e
        obtain ⟨vs, h1, h2⟩ := S.ob i _ a q h
        exact .lst (.inl (.inl h1)) (pyGs_dp (pyO_dp S n) h2 q2)
      · cases e
    · cases e
theorem pyD_dp (S : Sim K ρ st H) {d : D} {v : V} {p : PyData} (r : Rep K ρ H d v) (e : pyD st d = some p) : Dp K H v p := pyG_dp (pyO_dp S 4) r e
end
end W9

/-! W9c: operators and built-ins upon data -/
namespace W9
open PySem L2
abbrev bigN : Nat := 16777216
theorem big_eq : sizeLine = bigN := sizeLine_eq

/-! ### arithmetic -/
def mulOk (i j : Int) : Bool := (decide (-(2 ^ 64) < i) && decide (i < 2 ^ 64)) || (decide (-(2 ^ 64) < j) && decide (j < 2 ^ 64)) || decide (i.natAbs.log2 + j.natAbs.log2 < 1000000)
def addD : D → D → M D
  | .int i, .int j => fun st => .ok (.int (i + j)) st
  | .str a, .str b => fun st => if a.length + b.length ≤ bigN then .ok (.str (a ++ b)) st else .no
  | .tup xs, .tup ys => fun st => if xs.length + ys.length ≤ bigN then .ok (.tup (xs ++ ys)) st else .no
  | .ob i, .ob j => fun st => match st[i]?, st[j]? with
    | some (.lst xs), some (.lst ys) => if xs.length + ys.length ≤ bigN then .ok (.ob st.length) (st ++ [.lst (xs ++ ys)]) else .no
    | _, _ => .no
  | _, _ => fun _ => .no
def subD : D → D → M D
  | .int i, .int j => fun st => .ok (.int (i - j)) st
  | _, _ => fun _ => .no
def mulD : D → D → M D
  | .int i, .int j => fun st => if mulOk i j = true then .ok (.int (i * j)) st else .no
  | .ob i, .int k => fun st => match st[i]? with
    | some (.lst xs) => if -(2 ^ 63) ≤ k ∧ k < 2 ^ 63 ∧ xs.length * k.toNat ≤ bigN then .ok (.ob st.length) (st ++ [.lst (List.replicate k.toNat xs).flatten]) else .no
    | _ => .no
  | _, _ => fun _ => .no
def divD : D → D → M D
  | .int i, .int j => fun st => if 0 < j ∧ j.natAbs.log2 < 9000 then .ok (.int (i / j)) st else .no
  | _, _ => fun _ => .no
def modD : D → D → M D
  | .int i, .int j => fun st => if 0 < j then .ok (.int (i % j)) st else .no
  | _, _ => fun _ => .no
def powD : D → D → M D
  | .int i, .int j => fun st => if 0 ≤ j ∧ (Builtin.Int.intBits i : Int) * j ≤ 2 ^ 27 then .ok (.int (i ^ j.toNat)) st else .no
  | _, _ => fun _ => .no

section
variable {X : Cx}
theorem op_powW : OpR X (binaryOp .Pow) (rI (fun i j => 0 ≤ j ∧ (Builtin.Int.intBits i : Int) * j ≤ 2 ^ 27) fun i j => .int (i ^ j.toNat)) := opI fun _ _ _ _ _ _ _ hc q => PyProof.Rows.pow_int hc.1 hc.2 q
theorem ok_add : OkOp X (binaryOp .Add) addD := by
  intro ρ st H x y v w d st' S rx ry e
  cases rx with
  | int i =>
    cases ry with
    | int j => simp only [addD] at e; cases e; exact ⟨_, op_add, fun Q p => ⟨i, j, rfl, rfl, p.self S (.int _)⟩⟩
    | _ => simp only [addD] at e; cases e
  | str a =>
    cases ry with
    | str b =>
      simp only [addD] at e
      split at e
      · cases e; rename_i h; exact ⟨_, op_add_str, fun Q p => ⟨a, b, rfl, rfl, by rw [big_eq]; exact h, p.self S (.str _)⟩⟩
      · cases e
    | _ => simp only [addD] at e; cases e
  | tup hx hxs hxb =>
    cases ry with
    | tup hy hys hyb =>
      simp only [addD] at e
      split at e
      · cases e
        rename_i hl
        refine ⟨_, op_catA, fun Q p => ⟨_, _, _, _, rfl, rfl, hx, hy, by rw [big_eq, ← hxs.length, ← hys.length]; exact hl, fun h0 => ?_, fun h0 h1 => ?_, fun h0 h1 q hq => ?_⟩⟩
        · subst h0
          cases hxs
          exact p.self S (.tup hy hys hyb)
        · subst h1
          cases hys
          rw [List.append_nil] at p
          exact p.self S (.tup hx hxs hxb)
        · exact p.tup S (hxs.append hys) hq
      · cases e
    | _ => simp only [addD] at e; cases e
  | ob hx =>
    cases ry with
    | ob hy =>
      simp only [addD] at e
      split at e
      · rename_i xs ys e1 e2
        split at e
        · rename_i hl
          cases e
          obtain ⟨vs, a1, r1⟩ := S.ob _ _ _ e1 hx
          obtain ⟨ws, a2, r2⟩ := S.ob _ _ _ e2 hy
          exact ⟨_, op_cat, fun Q p => ⟨_, _, vs, ws, rfl, rfl, a1, a2, by rw [big_eq, ← r1.length, ← r2.length]; exact hl, fun q hq => p.lst S (r1.append r2) hq⟩⟩
        · cases e
      · cases e
    | _ => simp only [addD] at e; cases e
  | _ => simp only [addD] at e; cases e
theorem ok_sub : OkOp X (binaryOp .Sub) subD := by
  intro ρ st H x y v w d st' S rx ry e
  cases rx with
  | int i =>
    cases ry with
    | int j => simp only [subD] at e; cases e; exact ⟨_, op_sub, fun Q p => ⟨i, j, rfl, rfl, p.self S (.int _)⟩⟩
    | _ => simp only [subD] at e; cases e
  | _ => simp only [subD] at e; cases e
theorem reps_rep {K : PySem.W.Frag} {ρ : List Addr} {H : Hp} {ds : List D} {vs : List V} (h : Reps K ρ H ds vs) : ∀ k : Nat, Reps K ρ H (List.replicate k ds).flatten (List.replicate k vs).flatten
  | 0 => .nil
  | k + 1 => by simp only [List.replicate_succ, List.flatten_cons]; exact h.append (reps_rep h k)
theorem ok_mul : OkOp X (binaryOp .Mult) mulD := by
  intro ρ st H x y v w d st' S rx ry e
  cases rx with
  | int i =>
    cases ry with
    | int j =>
      simp only [mulD] at e
      split at e
      · cases e
        rename_i h
        unfold mulOk at h
        simp only [Bool.or_eq_true, Bool.and_eq_true, decide_eq_true_eq] at h
        rcases h with (h | h) | h
        · exact ⟨_, op_mul, fun Q p => ⟨i, j, rfl, rfl, .inl h, p.self S (.int _)⟩⟩
        · exact ⟨_, op_mul, fun Q p => ⟨i, j, rfl, rfl, .inr h, p.self S (.int _)⟩⟩
        · exact ⟨_, op_mulW, fun Q p => ⟨i, j, rfl, rfl, h, p.self S (.int _)⟩⟩
      · cases e
    | _ => simp only [mulD] at e; cases e
  | ob hx =>
    cases ry with
    | int k =>
      simp only [mulD] at e
      split at e
      · rename_i xs e1
        split at e
        · rename_i h
          cases e
          obtain ⟨vs, a1, r1⟩ := S.ob _ _ _ e1 hx
          refine ⟨_, op_rep, fun Q p => ⟨_, k, vs, rfl, rfl, a1, h.1, h.2.1, by rw [big_eq, ← r1.length]; exact h.2.2, fun q hq => ?_⟩⟩
          exact p.lst S (reps_rep r1 _) hq
        · cases e
      · cases e
    | _ => simp only [mulD] at e; cases e
  | _ => simp only [mulD] at e; cases e
theorem ok_div : OkOp X (binaryOp .FloorDiv) divD := by
  intro ρ st H x y v w d st' S rx ry e
  cases rx with
  | int i =>
    cases ry with
    | int j =>
      simp only [divD] at e
      split at e
      · cases e; rename_i h; exact ⟨_, op_fdivW, fun Q p => ⟨i, j, rfl, rfl, h, p.self S (.int _)⟩⟩
      · cases e
    | _ => simp only [divD] at e; cases e
  | _ => simp only [divD] at e; cases e
theorem ok_mod : OkOp X (binaryOp .Mod) modD := by
  intro ρ st H x y v w d st' S rx ry e
  cases rx with
  | int i =>
    cases ry with
    | int j =>
      simp only [modD] at e
      split at e
      · cases e; rename_i h; exact ⟨_, op_mod, fun Q p => ⟨i, j, rfl, rfl, h, p.self S (.int _)⟩⟩
      · cases e
    | _ => simp only [modD] at e; cases e
  | _ => simp only [modD] at e; cases e
theorem ok_pow : OkOp X (binaryOp .Pow) powD := by
  intro ρ st H x y v w d st' S rx ry e
  cases rx with
  | int i =>
    cases ry with
    | int j =>
      simp only [powD] at e
      split at e
      · cases e; rename_i h; exact ⟨_, op_powW, fun Q p => ⟨i, j, rfl, rfl, h, p.self S (.int _)⟩⟩
      · cases e
    | _ => simp only [powD] at e; cases e
  | _ => simp only [powD] at e; cases e

/-! ### comparisons -/
/-- two plain values whose likeness is told by looking at them -/
def scalD : D → D → Bool
  | .non, .non => true | .non, .bl _ => true | .non, .int _ => true | .non, .str _ => true
  | .bl _, .non => true | .bl _, .bl _ => true | .bl _, .str _ => true
  | .int _, .non => true | .int _, .int _ => true | .int _, .str _ => true
  | .str _, .non => true | .str _, .bl _ => true | .str _, .int _ => true | .str _, .str _ => true
  | _, _ => false
theorem scal_rep {K : PySem.W.Frag} {ρ : List Addr} {H : Hp} {x y : D} {v w : V} (rx : Rep K ρ H x v) (ry : Rep K ρ H y w) (h : scalD x y = true) : scal v w = true ∧ decide (v = w) = decide (x = y) := by
  cases rx <;> cases ry <;> first | (cases h; done) | exact ⟨rfl, by rw [Bool.eq_iff_iff]; simp⟩
def eqD (neg : Bool) (x y : D) : M D := fun st => if scalD x y = true then .ok (.bl (if neg then !decide (x = y) else decide (x = y))) st else match pyD st x, pyD st y with
  | some p, some q => if SeqAt.shaped p = true ∧ SeqAt.shaped q = true then .ok (.bl (if neg then !PyData.eqv p q else PyData.eqv p q)) st else .no
  | _, _ => .no
theorem ok_eq (hu : X.A.units + 64 < cLine) : OkOp X (compareOp .Eq) (eqD false) := by
  intro ρ st H x y v w d st' S rx ry e
  simp only [eqD] at e
  split at e
  · rename_i hs
    obtain ⟨h1, h2⟩ := scal_rep rx ry hs
    cases e
    exact ⟨_, op_eq, fun Q k => ⟨h1, by rw [h2]; exact k.self S (.bl _)⟩⟩
  split at e
  · rename_i p q e1 e2
    split at e
    · rename_i h
      cases e
      exact ⟨_, op_eqD hu, fun Q k => ⟨p, q, pyD_dp S rx e1, pyD_dp S ry e2, h.1, h.2, k.self S (.bl _)⟩⟩
    · cases e
  · cases e
theorem ok_ne (hu : X.A.units + 64 < cLine) : OkOp X (compareOp .NotEq) (eqD true) := by
  intro ρ st H x y v w d st' S rx ry e
  simp only [eqD] at e
  split at e
  · rename_i hs
    obtain ⟨h1, h2⟩ := scal_rep rx ry hs
    cases e
    exact ⟨_, op_ne, fun Q k => ⟨h1, by rw [h2]; exact k.self S (.bl _)⟩⟩
  split at e
  · rename_i p q e1 e2
    split at e
    · rename_i h
      cases e
      exact ⟨_, op_neD hu, fun Q k => ⟨p, q, pyD_dp S rx e1, pyD_dp S ry e2, h.1, h.2, k.self S (.bl _)⟩⟩
    · cases e
  · cases e
def ltD : D → D → M D
  | .int i, .int j => fun st => .ok (.bl (decide (i < j))) st
  | .str a, .str b => fun st => .ok (.bl (decide (a.cps.toList < b.cps.toList))) st
  | _, _ => fun _ => .no
def leD : D → D → M D
  | .int i, .int j => fun st => .ok (.bl (decide (i ≤ j))) st
  | _, _ => fun _ => .no
def gtD : D → D → M D
  | .int i, .int j => fun st => .ok (.bl (decide (j < i))) st
  | _, _ => fun _ => .no
def geD : D → D → M D
  | .int i, .int j => fun st => .ok (.bl (decide (j ≤ i))) st
  | _, _ => fun _ => .no
theorem ok_lt : OkOp X (compareOp .Lt) ltD := by
  intro ρ st H x y v w d st' S rx ry e
  cases rx with
  | int i =>
    cases ry with
    | int j => simp only [ltD] at e; cases e; exact ⟨_, op_lt, fun Q p => ⟨i, j, rfl, rfl, p.self S (.bl _)⟩⟩
    | _ => simp only [ltD] at e; cases e
  | str i =>
    cases ry with
    | str j => simp only [ltD] at e; cases e; exact ⟨_, op_lt_str, fun Q p => ⟨i, j, rfl, rfl, p.self S (.bl _)⟩⟩
    | _ => simp only [ltD] at e; cases e
  | _ => simp only [ltD] at e; cases e
theorem ok_le : OkOp X (compareOp .LtE) leD := by
  intro ρ st H x y v w d st' S rx ry e
  cases rx with
  | int i =>
    cases ry with
    | int j => simp only [leD] at e; cases e; exact ⟨_, op_le, fun Q p => ⟨i, j, rfl, rfl, p.self S (.bl _)⟩⟩
    | _ => simp only [leD] at e; cases e
  | _ => simp only [leD] at e; cases e
theorem ok_gt : OkOp X (compareOp .Gt) gtD := by
  intro ρ st H x y v w d st' S rx ry e
  cases rx with
  | int i =>
    cases ry with
    | int j => simp only [gtD] at e; cases e; exact ⟨_, op_gt, fun Q p => ⟨i, j, rfl, rfl, p.self S (.bl _)⟩⟩
    | _ => simp only [gtD] at e; cases e
  | _ => simp only [gtD] at e; cases e
theorem ok_ge : OkOp X (compareOp .GtE) geD := by
  intro ρ st H x y v w d st' S rx ry e
  cases rx with
  | int i =>
    cases ry with
    | int j => simp only [geD] at e; cases e; exact ⟨_, op_ge, fun Q p => ⟨i, j, rfl, rfl, p.self S (.bl _)⟩⟩
    | _ => simp only [geD] at e; cases e
  | _ => simp only [geD] at e; cases e
/-- is, is not: None and the bools -/
def isD (neg : Bool) : D → D → M D := fun x y st => match y with
  | .non => .ok (.bl (match x with | .non => !neg | _ => neg)) st
  | .bl b => match x with
    | .bl a => .ok (.bl (if neg = true then !decide (a = b) else decide (a = b))) st
    | .non => .ok (.bl neg) st
    | _ => .no
  | _ => .no
theorem rep_non {K : PySem.W.Frag} {ρ : List Addr} {H : Hp} {x : D} {v : V} (r : Rep K ρ H x v) : decide (v = .non) = (match x with | .non => true | _ => false) := by
  cases r <;> first | rfl | simp
theorem op_nb : OpR X (compareOp .Is) (fun x y H Q => x = .non ∧ (∃ b, y = .bl b) ∧ Q (.bl false) H) := by
  rintro pins s σ H x y v u Q I rx ry ⟨rfl, ⟨b, rfl⟩, q⟩
  cases (show v = Value.none from rx)
  cases (show u = Value.bool b from ry)
  exact wpAny_is_other rfl (fun z => nomatch z) ⟨.bl false, H, I, rfl, q⟩
theorem op_nbn : OpR X (compareOp .IsNot) (fun x y H Q => x = .non ∧ (∃ b, y = .bl b) ∧ Q (.bl true) H) := by
  rintro pins s σ H x y v u Q I rx ry ⟨rfl, ⟨b, rfl⟩, q⟩
  cases (show v = Value.none from rx)
  cases (show u = Value.bool b from ry)
  exact wpAny_isNot_other rfl (fun z => nomatch z) ⟨.bl true, H, I, rfl, q⟩
theorem ok_is : OkOp X (compareOp .Is) (isD false) := by
  intro ρ st H x y v w d st' S rx ry e
  cases ry with
  | non =>
    simp only [isD] at e
    cases e
    refine ⟨_, op_isN, fun Q p => ⟨rfl, ?_⟩⟩
    rw [rep_non rx]
    have q := p.self S (.bl _)
    cases x <;> exact q
  | bl b =>
    cases rx with
    | non => simp only [isD] at e; cases e; exact ⟨_, op_nb, fun Q p => ⟨rfl, ⟨b, rfl⟩, p.self S (.bl _)⟩⟩
    | bl a => simp only [isD] at e; cases e; exact ⟨_, op_isBl, fun Q p => ⟨a, b, rfl, rfl, p.self S (.bl _)⟩⟩
    | _ => simp only [isD] at e; cases e
  | _ => simp only [isD] at e; cases e
theorem ok_isnot : OkOp X (compareOp .IsNot) (isD true) := by
  intro ρ st H x y v w d st' S rx ry e
  cases ry with
  | non =>
    simp only [isD] at e
    cases e
    refine ⟨_, op_notN, fun Q p => ⟨rfl, ?_⟩⟩
    rw [rep_non rx]
    have q := p.self S (.bl _)
    cases x <;> exact q
  | bl b =>
    cases rx with
    | non => simp only [isD] at e; cases e; exact ⟨_, op_nbn, fun Q p => ⟨rfl, ⟨b, rfl⟩, p.self S (.bl _)⟩⟩
    | bl a => simp only [isD] at e; cases e; exact ⟨_, op_notBl, fun Q p => ⟨a, b, rfl, rfl, p.self S (.bl _)⟩⟩
    | _ => simp only [isD] at e; cases e
  | _ => simp only [isD] at e; cases e

/-! ### in -/
/-- a dict's value by its key -/
def getKv (kvs : List (D × D)) (k : D) : Option D := (kvs.find? fun kv => decide (kv.1 = k)).map (·.2)
def putKv (kvs : List (D × D)) (k d : D) : List (D × D) := if (kvs.any fun kv => decide (kv.1 = k)) then kvs.map fun kv => if kv.1 = k then (kv.1, d) else kv else kvs ++ [(k, d)]
def delKv (kvs : List (D × D)) (k : D) : List (D × D) := kvs.filter fun kv => decide (kv.1 ≠ k)
theorem keyD_inj {a b : D} {k : Key} (ha : keyD a = some k) (hb : keyD b = some k) : a = b := by
  cases a <;> cases b <;> simp only [keyD] at ha hb <;> first | (cases ha; done) | (cases hb; done) | skip
  all_goals (cases ha; cases hb; try rfl)
theorem keysD_inj : ∀ {a b : List D} {k : List Key}, keysD a = some k → keysD b = some k → a = b
  | [], [], _, _, _ => rfl
  | [], y :: ys, k, ha, hb => by
    simp only [keysD] at ha hb
    cases ha
    split at hb <;> cases hb
  | x :: xs, [], k, ha, hb => by
    simp only [keysD] at ha hb
    cases hb
    split at ha <;> cases ha
  | x :: xs, y :: ys, k, ha, hb => by
    simp only [keysD] at ha hb
    split at ha
    · rename_i k1 ks1 e1 e2
      split at hb
      · rename_i k2 ks2 e3 e4
        cases ha
        cases hb
        rw [keyD_inj e1 e3, keysD_inj e2 e4]
      · cases hb
    · cases ha
theorem keyT_inj {a b : D} {k : List Key} (ha : keyT a = some k) (hb : keyT b = some k) : a = b := by
  cases a <;> simp only [keyT] at ha <;> try (cases ha; done)
  cases b <;> simp only [keyT] at hb <;> try (cases hb; done)
  split at ha
  · cases ha
  · split at hb
    · cases hb
    · rw [keysD_inj ha hb]
section kv
variable {K : PySem.W.Frag} {ρ : List Addr} {H : Hp}
theorem KvK.get {k : D} {key : Key} (hk : keyD k = some key) : ∀ {kvs : List (D × D)} {ks : List (Key × V)}, KvK K ρ H kvs ks → (getKv kvs k = none ∧ valV ks key = none) ∨ ∃ d v, getKv kvs k = some d ∧ valV ks key = some v ∧ Rep K ρ H d v
  | _, _, .nil => .inl ⟨rfl, rfl⟩
  | _, _, .cons (k := k1) (d := d1) (r := r) (key := key1) (v := v1) (vr := vr) e h t => by
    by_cases q : k1 = k
    · subst q
      rw [hk] at e; cases e
      exact .inr ⟨d1, v1, by simp [getKv], by rw [valV_pos rfl], h⟩
    · have q2 : ¬ key1 = key := fun z => q (keyD_inj e (by rw [z]; exact hk))
      have e2 : getKv ((k1, d1) :: r) k = getKv r k := by simp [getKv, q]
      rw [e2, valV_neg (p := (key1, v1)) q2]
      exact KvK.get hk t
theorem KvT.get {k : D} {key : List Key} (hk : keyT k = some key) : ∀ {kvs : List (D × D)} {ks : List (List Key × V)}, KvT K ρ H kvs ks → (getKv kvs k = none ∧ valV ks key = none) ∨ ∃ d v, getKv kvs k = some d ∧ valV ks key = some v ∧ Rep K ρ H d v
  | _, _, .nil => .inl ⟨rfl, rfl⟩
  | _, _, .cons (k := k1) (d := d1) (r := r) (key := key1) (v := v1) (vr := vr) e h t => by
    by_cases q : k1 = k
    · subst q
      rw [hk] at e; cases e
      exact .inr ⟨d1, v1, by simp [getKv], by rw [valV_pos rfl], h⟩
    · have q2 : ¬ key1 = key := fun z => q (keyT_inj e (by rw [z]; exact hk))
      have e2 : getKv ((k1, d1) :: r) k = getKv r k := by simp [getKv, q]
      rw [e2, valV_neg (p := (key1, v1)) q2]
      exact KvT.get hk t
theorem KvK.snoc {k d : D} {key : Key} {v : V} (hk : keyD k = some key) (r : Rep K ρ H d v) : ∀ {kvs : List (D × D)} {ks : List (Key × V)}, KvK K ρ H kvs ks → KvK K ρ H (kvs ++ [(k, d)]) (ks ++ [(key, v)])
  | _, _, .nil => .cons hk r .nil
  | _, _, .cons a b t => .cons a b (KvK.snoc hk r t)
theorem KvT.snoc {k d : D} {key : List Key} {v : V} (hk : keyT k = some key) (r : Rep K ρ H d v) : ∀ {kvs : List (D × D)} {ks : List (List Key × V)}, KvT K ρ H kvs ks → KvT K ρ H (kvs ++ [(k, d)]) (ks ++ [(key, v)])
  | _, _, .nil => .cons hk r .nil
  | _, _, .cons a b t => .cons a b (KvT.snoc hk r t)
theorem KvK.any {k : D} {key : Key} (hk : keyD k = some key) : ∀ {kvs : List (D × D)} {ks : List (Key × V)}, KvK K ρ H kvs ks → (kvs.any fun kv => decide (kv.1 = k)) = (ks.any fun kv => decide (kv.1 = key))
  | _, _, .nil => rfl
  | _, _, .cons (k := k1) (key := key1) e h t => by
    have q : decide (k1 = k) = decide (key1 = key) := by
      by_cases z : k1 = k
      · subst z; rw [hk] at e; cases e; simp
      · have q2 : ¬ key1 = key := fun y => z (keyD_inj e (by rw [y]; exact hk))
        simp [z, q2]
    simp only [List.any_cons, q, KvK.any hk t]
theorem KvT.any {k : D} {key : List Key} (hk : keyT k = some key) : ∀ {kvs : List (D × D)} {ks : List (List Key × V)}, KvT K ρ H kvs ks → (kvs.any fun kv => decide (kv.1 = k)) = (ks.any fun kv => decide (kv.1 = key))
  | _, _, .nil => rfl
  | _, _, .cons (k := k1) (key := key1) e h t => by
    have q : decide (k1 = k) = decide (key1 = key) := by
      by_cases z : k1 = k
      · subst z; rw [hk] at e; cases e; simp
      · have q2 : ¬ key1 = key := fun y => z (keyT_inj e (by rw [y]; exact hk))
        simp [z, q2]
    simp only [List.any_cons, q, KvT.any hk t]
theorem KvK.repl {k d : D} {key : Key} {v : V} (hk : keyD k = some key) (r : Rep K ρ H d v) : ∀ {kvs : List (D × D)} {ks : List (Key × V)}, KvK K ρ H kvs ks → KvK K ρ H (kvs.map fun kv => if kv.1 = k then (kv.1, d) else kv) (ks.map fun kv => if kv.1 = key then (kv.1, v) else kv)
  | _, _, .nil => .nil
  | _, _, .cons (k := k1) (key := key1) e h t => by
    have ih := KvK.repl hk r t
    simp only [List.map_cons]
    by_cases z : k1 = k
    · subst z
      rw [hk] at e; cases e
      rw [if_pos rfl, if_pos rfl]
      exact .cons hk r ih
    · have q2 : ¬ key1 = key := fun y => z (keyD_inj e (by rw [y]; exact hk))
      rw [if_neg z, if_neg q2]
      exact .cons e h ih
theorem KvT.repl {k d : D} {key : List Key} {v : V} (hk : keyT k = some key) (r : Rep K ρ H d v) : ∀ {kvs : List (D × D)} {ks : List (List Key × V)}, KvT K ρ H kvs ks → KvT K ρ H (kvs.map fun kv => if kv.1 = k then (kv.1, d) else kv) (ks.map fun kv => if kv.1 = key then (kv.1, v) else kv)
  | _, _, .nil => .nil
  | _, _, .cons (k := k1) (key := key1) e h t => by
    have ih := KvT.repl hk r t
    simp only [List.map_cons]
    by_cases z : k1 = k
    · subst z
      rw [hk] at e; cases e
      rw [if_pos rfl, if_pos rfl]
      exact .cons hk r ih
    · have q2 : ¬ key1 = key := fun y => z (keyT_inj e (by rw [y]; exact hk))
      rw [if_neg z, if_neg q2]
      exact .cons e h ih
theorem KvK.put {k d : D} {key : Key} {v : V} (hk : keyD k = some key) (r : Rep K ρ H d v) {kvs : List (D × D)} {ks : List (Key × V)} (t : KvK K ρ H kvs ks) : KvK K ρ H (putKv kvs k d) (putK ks key v) := by
  unfold putKv putK
  rw [t.any hk]
  split
  · rename_i h; first | (rw [if_pos h]; exact t.repl hk r) | exact t.repl hk r
  · rename_i h; first | (rw [if_neg h]; exact t.snoc hk r) | exact t.snoc hk r
theorem KvT.put {k d : D} {key : List Key} {v : V} (hk : keyT k = some key) (r : Rep K ρ H d v) {kvs : List (D × D)} {ks : List (List Key × V)} (t : KvT K ρ H kvs ks) : KvT K ρ H (putKv kvs k d) (putK ks key v) := by
  unfold putKv putK
  rw [t.any hk]
  split
  · rename_i h; first | (rw [if_pos h]; exact t.repl hk r) | exact t.repl hk r
  · rename_i h; first | (rw [if_neg h]; exact t.snoc hk r) | exact t.snoc hk r
theorem KvK.del {k : D} {key : Key} (hk : keyD k = some key) : ∀ {kvs : List (D × D)} {ks : List (Key × V)}, KvK K ρ H kvs ks → KvK K ρ H (delKv kvs k) (dropK ks key)
  | _, _, .nil => .nil
  | _, _, .cons (k := k1) (key := key1) e h t => by
    have ih := KvK.del hk t
    unfold delKv dropK at ih ⊢
    by_cases z : k1 = k
    · subst z
      rw [hk] at e; cases e
      simpa using ih
    · have q2 : ¬ key1 = key := fun y => z (keyD_inj e (by rw [y]; exact hk))
      rw [List.filter_cons, List.filter_cons, if_pos (by simpa using z), if_pos (by simpa using q2)]
      exact .cons e h ih
theorem KvK.length : ∀ {kvs : List (D × D)} {ks : List (Key × V)}, KvK K ρ H kvs ks → kvs.length = ks.length
  | _, _, .nil => rfl
  | _, _, .cons _ _ t => congrArg (· + 1) (KvK.length t)
theorem KvT.length : ∀ {kvs : List (D × D)} {ks : List (List Key × V)}, KvT K ρ H kvs ks → kvs.length = ks.length
  | _, _, .nil => rfl
  | _, _, .cons _ _ t => congrArg (· + 1) (KvT.length t)
theorem rep_key {k : D} {key : Key} {v : V} (hk : keyD k = some key) (r : Rep K ρ H k v) : v = kV key := by
  cases r <;> simp only [keyD] at hk <;> first | (cases hk; rfl) | (cases hk)
theorem reps_keys : ∀ {ds : List D} {ks : List Key} {vs : List V}, keysD ds = some ks → Reps K ρ H ds vs → vs = ks.map kV
  | _, _, _, hk, .nil => by simp only [keysD] at hk; cases hk; rfl
  | _, _, _, hk, .cons r t => by
    simp only [keysD] at hk
    split at hk
    · rename_i e1 e2
      cases hk
      rw [rep_key e1 r, reps_keys e2 t]; rfl
    · cases hk
end kv
end
end W9

/-! W9d: dicts, membership, subscripts, slices, methods of lists and dicts -/
namespace W9
open PySem L2

/-! ### an empty dict is of either kind -/
section
variable {X : Cx} {pins : List (Addr × Obj)} {σ : L2.St} {H : Hp} {s : Shared} {a : Addr}
theorem inv_toT (I : Inv X pins σ H s) (h : H a = some (.dK [])) : Inv X pins σ (upd H a (.dT [])) s := by
  obtain ⟨z, hd, vs, rel, o, es, ep, e1, e2, e3, e4, e5, e6⟩ := I.hok a _ h
  cases rel
  have e7 : es.toList = [] := by
    cases q : es.toList with
    | nil => rfl
    | cons x r => rw [q] at e5; cases e5
  exact I.write (x := a) (e := a) (t' := s.toks) (by rw [h]; exact True.intro) (.inl rfl) (fun b u _ q => q) ⟨o, e1⟩ ⟨Nat.zero_le _, hd, [], .nil, o, es, ep, e1, e2, e3, e7, List.nodup_nil⟩
theorem dictOf_nil {P : Program} {w : World} {h : Heap} {o : Obj} {es : Array DictEntry} {ep : Nat} (e1 : h.get? a = some o) (e2 : o.ExactDict) (e3 : o.data = .dict es ep) (e7 : es.toList = []) : h.DictOf (mixKind P w) a [] := by
  have e8 : es = #[] := by
    have := congrArg List.toArray e7
    simpa using this
  subst e8
  have n := Heap.DictOf.new (knd := mixKind P w) h
  obtain ⟨o', es', ep', f1, f2, f3, f4, f5, f6⟩ := n
  rw [Heap.get?_push_size _ rfl] at f1
  cases f1
  cases f3
  exact ⟨o, #[], ep, e1, e2, e3, f4, f5, f6⟩
theorem inv_toK (I : Inv X pins σ H s) (h : H a = some (.dT [])) : Inv X pins σ (upd H a (.dK [])) s := by
  obtain ⟨z, hd, xs, rel, o, es, ep, e1, e2, e3, e4, e5⟩ := I.hok a _ h
  cases rel
  exact I.write (x := a) (e := a) (t' := s.toks) (by rw [h]; exact True.intro) (.inl rfl) (fun b u _ q => q) ⟨o, e1⟩ ⟨Nat.zero_le _, hd, [], .nil, dictOf_nil e1 e2 e3 e4⟩
theorem upd_back {H : Hp} {o u : HO} (h : H a = some o) : upd (upd H a u) a o = H := by
  rw [upd_upd]
  funext b
  by_cases hb : b = a
  · subst hb; rw [upd_same, h]
  · rw [upd_ne hb]
end

/-- the key is of the dict's kind -/
def kindOk (kvs : List (D × D)) (k : D) : Bool := match kvs with
  | [] => (keyD k).isSome || (keyT k).isSome
  | (k1, _) :: _ => ((keyD k1).isSome && (keyD k).isSome) || ((keyT k1).isSome && (keyT k).isSome)
section
variable {X : Cx} {pins : List (Addr × Obj)} {σ : L2.St} {H : Hp} {s : Shared} {a : Addr} {ρ : List Addr} {kvs : List (D × D)} {k d : D} {y v : V}
theorem keyT_tracked {K : PySem.W.Frag} {ks : List Key} (hk : keyT k = some ks) (r : Rep K ρ H k y) : ∃ b, y = .ref b ∧ H b = some (.tup (ks.map kV)) := by
  cases r with
  | tup h hs hb =>
    simp only [keyT] at hk
    split at hk
    · cases hk
    · rename_i nb
      refine ⟨_, rfl, ?_⟩
      rcases hb with hb | hb
      · rw [hb, reps_keys hk hs]
      · exact absurd hb nb
  | _ => simp only [keyT] at hk; cases hk
theorem keyT_of_keyD {x : D} (h : (keyD x).isSome = true) (h2 : (keyT x).isSome = true) : False := by
  cases x <;> simp [keyD, keyT] at h h2
theorem dg_at (I : Inv X pins σ H s) (o : ObRep X.K ρ H a (.dct kvs)) (r : Rep X.K ρ H k y) (hk : kindOk kvs k = true) :
    ∃ H2 ov, Inv X pins σ H2 s ∧ DGet H2 a y ov ∧ (∀ s', Inv X pins σ H2 s' → Inv X pins σ H s') ∧ ((getKv kvs k = none ∧ ov = none) ∨ ∃ d v, getKv kvs k = some d ∧ ov = some v ∧ Rep X.K ρ H d v) := by
  have sameK : ∀ ks key, H a = some (.dK ks) → KvK X.K ρ H kvs ks → keyD k = some key → ∃ H2 ov, Inv X pins σ H2 s ∧ DGet H2 a y ov ∧ (∀ s', Inv X pins σ H2 s' → Inv X pins σ H s') ∧ ((getKv kvs k = none ∧ ov = none) ∨ ∃ d v, getKv kvs k = some d ∧ ov = some v ∧ Rep X.K ρ H d v) := by
    intro ks key e kv hk1
    refine ⟨H, valV ks key, I, by rw [rep_key hk1 r]; exact DGet.k e, fun _ z => z, ?_⟩
    rcases kv.get hk1 with ⟨h1, h2⟩ | ⟨d, v, h1, h2, h3⟩
    · exact .inl ⟨h1, h2⟩
    · exact .inr ⟨d, v, h1, h2, h3⟩
  have sameT : ∀ ks key, H a = some (.dT ks) → KvT X.K ρ H kvs ks → keyT k = some key → ∃ H2 ov, Inv X pins σ H2 s ∧ DGet H2 a y ov ∧ (∀ s', Inv X pins σ H2 s' → Inv X pins σ H s') ∧ ((getKv kvs k = none ∧ ov = none) ∨ ∃ d v, getKv kvs k = some d ∧ ov = some v ∧ Rep X.K ρ H d v) := by
    intro ks key e kv hk1
    obtain ⟨b, rfl, hb⟩ := keyT_tracked hk1 r
    refine ⟨H, valV ks key, I, DGet.t e hb, fun _ z => z, ?_⟩
    rcases kv.get hk1 with ⟨h1, h2⟩ | ⟨d, v, h1, h2, h3⟩
    · exact .inl ⟨h1, h2⟩
    · exact .inr ⟨d, v, h1, h2, h3⟩
  rcases o with ⟨ks, e, kv⟩ | ⟨ks, e, kv⟩
  · cases q : keyD k with
    | some key => exact sameK ks key e kv q
    | none =>
      have hT : ∃ key, keyT k = some key ∧ kvs = [] := by
        cases kvs with
        | nil =>
          simp only [kindOk, q, Option.isSome_none, Bool.false_or] at hk
          obtain ⟨key, hk⟩ := Option.isSome_iff_exists.mp hk
          exact ⟨key, hk, rfl⟩
        | cons p t =>
          obtain ⟨k1, d1⟩ := p
          simp only [kindOk, q, Option.isSome_none, Bool.and_false, Bool.false_or, Bool.and_eq_true] at hk
          cases kv with
          | cons h1 _ _ => exact (keyT_of_keyD (by rw [h1]; rfl) hk.1).elim
      obtain ⟨key, hk1, rfl⟩ := hT
      cases kv
      obtain ⟨b, rfl, hb⟩ := keyT_tracked hk1 r
      refine ⟨upd H a (.dT []), none, inv_toT I e, ?_, fun s' J => ?_, .inl ⟨rfl, rfl⟩⟩
      · exact .inr ⟨[], key, b, .inl upd_same, rfl, by rw [upd_ne (ne_of hb e (fun z => nomatch z))]; exact hb, rfl⟩
      · have := inv_toK J upd_same
        rwa [upd_back e] at this
  · cases q : keyT k with
    | some key => exact sameT ks key e kv q
    | none =>
      have hT : ∃ key, keyD k = some key ∧ kvs = [] := by
        cases kvs with
        | nil =>
          simp only [kindOk, q, Option.isSome_none, Bool.or_false] at hk
          obtain ⟨key, hk⟩ := Option.isSome_iff_exists.mp hk
          exact ⟨key, hk, rfl⟩
        | cons p t =>
          obtain ⟨k1, d1⟩ := p
          simp only [kindOk, q, Option.isSome_none, Bool.and_false, Bool.or_false, Bool.and_eq_true] at hk
          cases kv with
          | cons h1 _ _ => exact (keyT_of_keyD hk.1 (by rw [h1]; rfl)).elim
      obtain ⟨key, hk1, rfl⟩ := hT
      cases kv
      refine ⟨upd H a (.dK []), none, inv_toK I e, ?_, fun s' J => ?_, .inl ⟨rfl, rfl⟩⟩
      · rw [rep_key hk1 r]; exact .inl ⟨[], key, .inl upd_same, rfl, rfl⟩
      · have := inv_toT J upd_same
        rwa [upd_back e] at this
/-- a look and a put: the new heap, what it means -/
theorem dp_at {st : Store} {i : Nat} (I : Inv X pins σ H s) (S : Sim X.K ρ st H) (hi : ρ[i]? = some a) (o : ObRep X.K ρ H a (.dct kvs)) (r : Rep X.K ρ H k y) (hk : kindOk kvs k = true) (hl : kvs.length < bigN) (rv : Rep X.K ρ H d v) :
    ∃ H2 ov u, Inv X pins σ H2 s ∧ DGet H2 a y ov ∧ (∀ s', Inv X pins σ H2 s' → Inv X pins σ H s') ∧ ((getKv kvs k = none ∧ ov = none) ∨ ∃ d v, getKv kvs k = some d ∧ ov = some v ∧ Rep X.K ρ H d v) ∧
      DPut H2 a y v (upd H a u) ∧ Mut (H a) ∧ ObRep X.K ρ (upd H a u) a (.dct (putKv kvs k d)) := by
  have mutK : ∀ ks, H a = some (.dK ks) → Mut (H a) := fun ks e => by rw [e]; exact True.intro
  have mutT : ∀ ks, H a = some (.dT ks) → Mut (H a) := fun ks e => by rw [e]; exact True.intro
  have gr : ∀ u, Mut (H a) → Grow ρ H ρ (upd H a u) := fun u m => S.grow_set hi m
  rcases o with ⟨ks, e, kv⟩ | ⟨ks, e, kv⟩
  · cases q : keyD k with
    | some key =>
      refine ⟨H, valV ks key, _, I, by rw [rep_key q r]; exact DGet.k e, fun _ z => z, ?_, by rw [rep_key q r]; exact DPut.k e (by rw [big_eq, ← kv.length]; exact hl), mutK ks e, .inl ⟨_, upd_same, ?_⟩⟩
      · rcases kv.get q with ⟨h1, h2⟩ | ⟨d, v, h1, h2, h3⟩
        · exact .inl ⟨h1, h2⟩
        · exact .inr ⟨d, v, h1, h2, h3⟩
      · exact (kv.put q rv).grow (gr _ (mutK ks e))
    | none =>
      have hT : ∃ key, keyT k = some key ∧ kvs = [] := by
        cases kvs with
        | nil =>
          simp only [kindOk, q, Option.isSome_none, Bool.false_or] at hk
          obtain ⟨key, hk⟩ := Option.isSome_iff_exists.mp hk
          exact ⟨key, hk, rfl⟩
        | cons p t =>
          obtain ⟨k1, d1⟩ := p
          simp only [kindOk, q, Option.isSome_none, Bool.and_false, Bool.false_or, Bool.and_eq_true] at hk
          cases kv with
          | cons h1 _ _ => exact (keyT_of_keyD (by rw [h1]; rfl) hk.1).elim
      obtain ⟨key, hk1, rfl⟩ := hT
      cases kv
      obtain ⟨b, rfl, hb⟩ := keyT_tracked hk1 r
      have hb' : (upd H a (.dT [])) b = some (.tup (key.map kV)) := by rw [upd_ne (ne_of hb e (fun z => nomatch z))]; exact hb
      refine ⟨upd H a (.dT []), none, .dT (putK [] key v), inv_toT I e, .inr ⟨[], key, b, .inl upd_same, rfl, hb', rfl⟩, fun s' J => ?_, .inl ⟨rfl, rfl⟩, ?_, mutK _ e, .inr ⟨_, upd_same, ?_⟩⟩
      · have := inv_toK J upd_same
        rwa [upd_back e] at this
      · have := DPut.t (v := v) (upd_same (H := H) (a := a) (o := .dT [])) hb' (by decide)
        rwa [upd_upd] at this
      · exact (KvT.put hk1 rv (.nil (K := X.K) (ρ := ρ) (H := H))).grow (gr _ (mutK _ e))
  · cases q : keyT k with
    | some key =>
      obtain ⟨b, rfl, hb⟩ := keyT_tracked q r
      refine ⟨H, valV ks key, _, I, DGet.t e hb, fun _ z => z, ?_, DPut.t e hb (by rw [big_eq, ← kv.length]; exact hl), mutT ks e, .inr ⟨_, upd_same, ?_⟩⟩
      · rcases kv.get q with ⟨h1, h2⟩ | ⟨d, v, h1, h2, h3⟩
        · exact .inl ⟨h1, h2⟩
        · exact .inr ⟨d, v, h1, h2, h3⟩
      · exact (kv.put q rv).grow (gr _ (mutT ks e))
    | none =>
      have hT : ∃ key, keyD k = some key ∧ kvs = [] := by
        cases kvs with
        | nil =>
          simp only [kindOk, q, Option.isSome_none, Bool.or_false] at hk
          obtain ⟨key, hk⟩ := Option.isSome_iff_exists.mp hk
          exact ⟨key, hk, rfl⟩
        | cons p t =>
          obtain ⟨k1, d1⟩ := p
          simp only [kindOk, q, Option.isSome_none, Bool.and_false, Bool.or_false, Bool.and_eq_true] at hk
          cases kv with
          | cons h1 _ _ => exact (keyT_of_keyD hk.1 (by rw [h1]; rfl)).elim
      obtain ⟨key, hk1, rfl⟩ := hT
      cases kv
      refine ⟨upd H a (.dK []), none, .dK (putK [] key v), inv_toK I e, by rw [rep_key hk1 r]; exact .inl ⟨[], key, .inl upd_same, rfl, rfl⟩, fun s' J => ?_, .inl ⟨rfl, rfl⟩, ?_, mutT _ e, .inl ⟨_, upd_same, ?_⟩⟩
      · have := inv_toT J upd_same
        rwa [upd_back e] at this
      · have := DPut.k (k := key) (v := v) (upd_same (H := H) (a := a) (o := .dK [])) (by decide)
        rw [upd_upd] at this
        rw [rep_key hk1 r]
        exact this
      · exact (KvK.put hk1 rv (.nil (K := X.K) (ρ := ρ) (H := H))).grow (gr _ (mutT _ e))
end
end W9

/-! W9e: enumerate of a text and of a tuple -/
namespace W9
open PySem L2
open Sem (wp)
theorem meets_enum1 {v : Value} {o : Obj} {H : Heap → Prop} (B : Begins v o H) :
    Meets (Builtin.«enumerate.__new__» ⟨[.type "enumerate", v], []⟩) (fun _ R s => H s.heap ∧
      R (.ok (.ret (.ref (s.heap.push o).objs.size))) { s with heap := (s.heap.push o).push { cls := .type "enumerate", data := .fields #[.none, .bool false, .ref s.heap.objs.size, rawInt 0, .none, .none] } }) :=
  .of_wp fun prog w A R s h => by
    obtain ⟨hp, g, d, tk, os⟩ := s; obtain ⟨h1, h⟩ := h
    have hsub := sub_enumerate
    have q1 : ∀ {A' : Around} {E : Value → Shared → Prop} {Q : Value → Shared → Prop}, Q (.ref hp.objs.size) ⟨hp.push o, g, d, tk, os⟩ → wpAny (model prog w) A' (pyIter v) Q E ⟨hp, g, d, tk, os⟩ :=
      fun q => B.iter prog w _ _ ⟨hp, g, d, tk, os⟩ _ h1 q
    wp_walk using q1
    refine wpAny_stack_any fun st => wpAny_pure ?_
    split
    · rename_i c _ _ _ _ _
      cases (c == Value.type "enumerate")
      · wp_walk using q1
        exact ⟨_, rfl, h⟩
      · wp_walk using q1
        exact ⟨_, rfl, h⟩
    · wp_walk using q1
      exact ⟨_, rfl, h⟩
section
variable {prog : Program} {w : World} {A : Around} {E : Value → Shared → Prop} {s : Shared}
theorem enum1_begins {v : Value} {o : Obj} {H : Heap → Prop} {Q : Value → Shared → Prop} (B : Begins v o H) (h1 : H s.heap)
    (h : ∀ h', IsEnum h' (s.heap.objs.size + 1) s.heap.objs.size 0 .none → h'.get? s.heap.objs.size = some o → h'.objs.size = s.heap.objs.size + 2 →
      (∀ b o, s.heap.get? b = some o → h'.get? b = some o) → Q (.ref (s.heap.objs.size + 1)) { s with heap := h' }) :
    wpAny (model prog w) A (call (.type "enumerate") [v]) Q E s := by
  refine callType_new F.called_enumerate (by decide) (F.typeCall_enumerate_1 _) (F.newCall_enumerate_1 _) (fun obj => F.args_object_init_2 obj _) F.entry_enumerate_new
    (meets_enum1 B) ⟨h1, ?_⟩
  have hz : (s.heap.push o).objs.size = s.heap.objs.size + 1 := Heap.size_push ..
  show _ ∧ _
  rw [hz]
  have he : IsEnum ((s.heap.push o).push { cls := .type "enumerate", data := .fields #[.none, .bool false, .ref s.heap.objs.size, rawInt 0, .none, .none] }) (s.heap.objs.size + 1) s.heap.objs.size 0 .none := by
    have := Heap.get?_push_size (s.heap.push o) (o := { cls := .type "enumerate", data := .fields #[.none, .bool false, .ref s.heap.objs.size, rawInt 0, .none, .none] }) rfl
    rw [hz] at this; exact this
  exact ⟨⟨_, he, rfl⟩, h _ he (Heap.get?_push_of_some _ (Heap.get?_push_size _ B.free)) (by rw [Heap.size_push, hz]) fun b o x => Heap.get?_push_of_some _ (Heap.get?_push_of_some _ x)⟩
end
/-- n pairs (i, x), x told by P (a place, a value) -/
def Itx (n : Nat) (Y : Nat → V → Prop) : It :=
  ⟨fun i _ => i < n, fun i H v H' => ∃ T x, v = .ref T ∧ H T = none ∧ H' = upd H T (.tup [.int (i : Nat), x]) ∧ Y i x, fun i _ => n ≤ i⟩
theorem draws_text {prog : Program} {w : World} {A : Around} (hh : A.handled = none) (it : Addr) (x : Str) (t : Tok) :
    Draws prog w A it [it] x.cps.size (fun i v => ∃ c u, x.cps[i]? = some c ∧ v = .str ⟨#[c]⟩ u) (fun i h => h.IsStrIter it (strIterType x) x t i) := Draws.text hh it x t
/-- an enumerate whose source has its own cells alone: a text -/
theorem turn_enumS {P : Program} {w : World} {K : PySem.W.Frag} {elts : List Expr} {kk : Nat} {tpos : Pos} (x : Str) (t : Tok) (e it : Addr) (hne : e ≠ it) :
    Turn P w K (.Tuple elts kk tpos) (Itx x.cps.size fun i v => ∃ c, x.cps[i]? = some c ∧ v = .str ⟨#[c]⟩) [e, it] e (fun i h => i ≤ x.cps.size ∧ (∃ old, IsEnum h e it ((0 : Int) + (i : Int)) old) ∧ h.IsStrIter it (strIterType x) x t i) where
  mem := by simp
  obj := fun i h st b hb => by
    obtain ⟨_, ⟨old, he⟩, ⟨o, ho, hc, hd⟩⟩ := st
    have e' : b = e ∨ b = it := by simpa using hb
    rcases e' with z | z
    · rw [z]; exact ⟨_, he, fun v q => nomatch q⟩
    · rw [z]; exact ⟨o, ho, fun v q => by rw [hd] at q; cases q⟩
  keep := fun i h h' st k => let ⟨hi, ⟨old, he⟩, ⟨o, ho, r⟩⟩ := st; ⟨hi, ⟨old, k e (by simp) _ he⟩, ⟨o, k it (by simp) o ho, r⟩⟩
  item := by
    intro X hP hw hK hc i pins s σ H E I hf st hg
    subst hP hw hK
    obtain ⟨_, st1, st2⟩ := st
    have W := WalksT.enumFrom (prog := X.prog) (w := X.w) (A := X.A) 0 (draws_text (A := X.A.in1) (show X.A.in1.handled = none from I.ok.hd hc) it x t) e hne (by simp [hne]) (by simp)
    refine W.item i s _ _ hg ⟨st1, st2⟩ fun T vals h' tk hP hT hTup mid hk => ?_
    refine ⟨_, rfl, W.go elts kk tpos i T { s with heap := h', toks := tk } _ _ mid fun h'' st'' hk2 => ?_⟩
    obtain ⟨tt, y, ⟨c, u, hc1, hy⟩, hv⟩ := hP
    subst hy hv
    have hTw : T ∉ [e, it] := W.apart i T h' mid
    have hTup2 : h''.IsTuple T #[.int ((0 : Int) + (i : Int)) tt, .str ⟨#[c]⟩ u] := by
      obtain ⟨oo, h1, h2⟩ := hTup
      exact ⟨oo, hk2 T oo hTw h1, h2⟩
    have e0 : (0 : Int) + (i : Int) = ((i : Nat) : Int) := Int.zero_add _
    have new : ObjOk X.prog X.w (upd H T (.tup [.int (i : Nat), .str ⟨#[c]⟩])) h'' T (.tup [.int (i : Nat), .str ⟨#[c]⟩]) :=
      ⟨by show 2 ≤ sizeLine; decide, [.int ((0 : Int) + (i : Int)) tt, .str ⟨#[c]⟩ u], .cons ⟨_, by rw [e0]⟩ (.cons ⟨_, rfl⟩ .nil), hTup2⟩
    have I1 : Inv X pins σ (upd H T (.tup [.int (i : Nat), .str ⟨#[c]⟩])) { s with heap := h'', toks := tk } :=
      I.turnedNew (ch := [e, it]) (fun b ob hb q => hk2 b ob hb (hk b ob hb q)) hf hT new
    refine ⟨.ref T, _, I1, rfl, ⟨T, _, rfl, I.hok.fresh hT, rfl, c, hc1, rfl⟩, ⟨hg, st''.1, st''.2⟩, fun b hb => ?_⟩
    have hb' : b ≠ T := fun z => hTw (z ▸ hb)
    rw [upd_ne hb']
    exact (hf b hb).1
  done := by
    intro X hP hw hK hc i pins s σ H E I hf st hg
    subst hP hw hK
    obtain ⟨hi, st1, st2⟩ := st
    have hin : i = x.cps.size := Nat.le_antisymm hi hg
    subst hin
    have W := WalksT.enumFrom (prog := X.prog) (w := X.w) (A := X.A) 0 (draws_text (A := X.A.in1) (show X.A.in1.handled = none from I.ok.hd hc) it x t) e hne (by simp [hne]) (by simp)
    exact W.done s _ _ ⟨st1, st2⟩ fun h' tk hk => ⟨rfl, I.turnedL (ch := [e, it]) (fun b o hb q => hk b o hb q) hf⟩
  self := fun A i s Q E st h => let ⟨_, ⟨_, he⟩, _⟩ := st; wpAny_pyIter_enum he h
def iEnumS (ta : TA) : TI := fun σ H R => ta σ H fun vs H1 => ∃ x : Str, vs = [.str x] ∧ R (Itx x.cps.size fun i v => ∃ c, x.cps[i]? = some c ∧ v = .str ⟨#[c]⟩) H1
theorem pi_enumS {X : Cx} {e : Expr} {ta : TA} {p pos tpos : Pos} {elts : List Expr} {kk : Nat} (hg : Gl X "enumerate") (hm : X.mg "enumerate" = none) (ha : PA X [e] ta) (hs : starEach [e] X.env = [(false, eval e X.env)] := by rfl) :
    PI X (.Tuple elts kk tpos) (.Call (.Name "enumerate" p) [e] [] pos) (iEnumS ta) := by
  refine ⟨fun pins s σ H R I h => ?_⟩
  refine PyProof.Rows.Call_ (ld_blt I hg hm PyProof.Rows.boot_enumerate (PyProof.Rows.callWith_type1 (thn (ha.run pos pins s σ H _ I h) fun us s1 ⟨vs, H1, I1, r1, q1⟩ => ?_) hs rfl))
  obtain ⟨x, ex, q⟩ := q1
  subst ex
  cases r1 with
  | cons r rr =>
    cases rr
    obtain ⟨t, rfl⟩ := r
    refine enum1_begins (begins_text x t) trivial fun h' he ho hsz hk => wpAny_pyIter_enum he ?_
    have I2 : Inv X pins σ H1 { s1 with heap := h' } := I1.kept (t' := s1.toks) hk
    refine ⟨s1.heap.objs.size + 1, [s1.heap.objs.size + 1, s1.heap.objs.size], _, _, H1, rfl, I2, turn_enumS x t (s1.heap.objs.size + 1) s1.heap.objs.size (Nat.succ_ne_self _), ⟨Nat.zero_le _, ⟨.none, by simpa using he⟩, ⟨_, ho, rfl, rfl⟩⟩, fun b hb => ?_, q⟩
    have e' : b = s1.heap.objs.size + 1 ∨ b = s1.heap.objs.size := by simpa using hb
    have hle : s1.heap.objs.size ≤ b := by
      rcases e' with z | z
      · rw [z]; exact Nat.le_add_right _ _
      · rw [z]; exact Nat.le_refl _
    exact I1.fpOk hle (I1.hok.fresh hle)
end W9

/-! W9f: membership, subscripts, slices, methods, built-ins by values -/
namespace W9
open PySem L2
section
variable {X : Cx}

/-! ### in -/
def rInT (K : PySem.W.Frag) (neg : Bool) : R2 := fun x y H Q => ∃ d ds, Dp K H x d ∧ Dp K H y (.tuple ds) ∧ SeqAt.shaped d = true ∧ SeqAt.shaped (.tuple ds) = true ∧ Q (.bl (if neg then !ds.any fun z => PyData.eqv z d else ds.any fun z => PyData.eqv z d)) H
theorem room_in' {A : Around} {d : PyData} {n : Nat} (h : SeqAt.shaped d = true) (hu : A.units + 65 < cLine) : A.units + 1 + min n d.depth < cLine := by
  have h2 : (d.canLay0 && decide (d.depth ≤ 64)) = true := h
  rw [Bool.and_eq_true] at h2
  have := of_decide_eq_true h2.2
  have := Nat.min_le_right n d.depth
  omega
theorem op_inT (hu : X.A.units + 65 < cLine) : OpR X (compareOp .In) (rInT X.K false) := by
  intro pins s σ H x y v u Q I rx ry h
  obtain ⟨d, ds, hd, he, sd, se, q⟩ := h
  obtain ⟨as, r1⟩ := Dp.reads I d x v hd rx
  obtain ⟨bs, r2⟩ := Dp.reads I (.tuple ds) y u he ry
  exact SeqAt.in_tuple_reads r2 r1 (SeqAt.canLay_of_shaped se) (SeqAt.canLay_of_shaped sd) (room_in' sd hu) ⟨.bl _, H, I, rfl, q⟩
theorem op_notInT (hu : X.A.units + 65 < cLine) : OpR X (compareOp .NotIn) (rInT X.K true) := by
  intro pins s σ H x y v u Q I rx ry h
  obtain ⟨d, ds, hd, he, sd, se, q⟩ := h
  obtain ⟨as, r1⟩ := Dp.reads I d x v hd rx
  obtain ⟨bs, r2⟩ := Dp.reads I (.tuple ds) y u he ry
  exact SeqAt.notIn_tuple_reads r2 r1 (SeqAt.canLay_of_shaped se) (SeqAt.canLay_of_shaped sd) (room_in' sd hu) ⟨.bl _, H, I, rfl, q⟩
/-- in a dict -/
def rInDct (K : PySem.W.Frag) (neg : Bool) : R2 := fun x y H Q => ∃ ρ kvs k a, y = .ref a ∧ ObRep K ρ H a (.dct kvs) ∧ Rep K ρ H k x ∧ kindOk kvs k = true ∧ Q (.bl (if neg then !(getKv kvs k).isSome else (getKv kvs k).isSome)) H
theorem op_inDct (hu : X.A.units + 65 < cLine) : OpR X (compareOp .In) (rInDct X.K false) := by
  intro pins s σ H x y v u Q I rx ry h
  obtain ⟨ρ, kvs, k, a, rfl, ho, rk, hk, q⟩ := h
  cases ry
  obtain ⟨H2, ov, I2, g, back, res⟩ := dg_at I ho rk hk
  refine d_in (by omega) I2 g rx fun s' J => ?_
  have e : ov.isSome = (getKv kvs k).isSome := by
    rcases res with ⟨e1, e2⟩ | ⟨d, z, e1, e2, _⟩ <;> rw [e1, e2] <;> rfl
  exact ⟨.bl ov.isSome, H, back _ J, rfl, by rw [e]; exact q⟩
theorem op_notInDct (hu : X.A.units + 65 < cLine) : OpR X (compareOp .NotIn) (rInDct X.K true) := by
  intro pins s σ H x y v u Q I rx ry h
  obtain ⟨ρ, kvs, k, a, rfl, ho, rk, hk, q⟩ := h
  cases ry
  obtain ⟨H2, ov, I2, g, back, res⟩ := dg_at I ho rk hk
  refine d_notIn (by omega) I2 g rx fun s' J => ?_
  have e : ov.isSome = (getKv kvs k).isSome := by
    rcases res with ⟨e1, e2⟩ | ⟨d, z, e1, e2, _⟩ <;> rw [e1, e2] <;> rfl
  exact ⟨.bl (!ov.isSome), H, back _ J, rfl, by rw [e]; exact q⟩
def ifn (neg b : Bool) : Bool := if neg then !b else b
def inSeq (neg : Bool) (x y : D) : M D := fun st => match pyD st x, pyD st y with
  | some p, some (.list qs) => if SeqAt.shaped p = true ∧ SeqAt.shaped (.list qs) = true then .ok (.bl (ifn neg (qs.any fun z => PyData.eqv z p))) st else .no
  | some p, some (.tuple qs) => if SeqAt.shaped p = true ∧ SeqAt.shaped (.tuple qs) = true then .ok (.bl (ifn neg (qs.any fun z => PyData.eqv z p))) st else .no
  | _, _ => .no
def inD (neg : Bool) (x y : D) : M D := fun st => match y with
  | .str b => match x with
    | .str a => match a.cps.toList with
      | [c] => .ok (.bl (ifn neg (decide (c ∈ b.cps.toList)))) st
      | _ => .no
    | _ => .no
  | .ob i => match st[i]? with
    | some (.dct kvs) => if kindOk kvs x = true then .ok (.bl (ifn neg (getKv kvs x).isSome)) st else .no
    | _ => inSeq neg x y st
  | _ => inSeq neg x y st
theorem ok_inSeq (hu : X.A.units + 65 < cLine) (neg : Bool) {ρ : List Addr} {st st' : Store} {H : Hp} {x y d : D} {v w : V} (S : Sim X.K ρ st H) (rx : Rep X.K ρ H x v) (ry : Rep X.K ρ H y w) (e : inSeq neg x y st = .ok d st') :
    ∃ r : R2, OpR X (compareOp (if neg then .NotIn else .In)) r ∧ ∀ Q, Post X.K ρ H st' d Q → r v w H Q := by
  unfold inSeq at e
  split at e
  · rename_i p qs e1 e2
    split at e
    · rename_i h
      cases e
      cases neg with
      | false => exact ⟨_, op_inD hu, fun Q k => ⟨p, qs, pyD_dp S rx e1, pyD_dp S ry e2, h.1, h.2, k.self S (.bl _)⟩⟩
      | true => exact ⟨_, op_notInD hu, fun Q k => ⟨p, qs, pyD_dp S rx e1, pyD_dp S ry e2, h.1, h.2, k.self S (.bl _)⟩⟩
    · cases e
  · rename_i p qs e1 e2
    split at e
    · rename_i h
      cases e
      cases neg with
      | false => exact ⟨_, op_inT hu, fun Q k => ⟨p, qs, pyD_dp S rx e1, pyD_dp S ry e2, h.1, h.2, k.self S (.bl _)⟩⟩
      | true => exact ⟨_, op_notInT hu, fun Q k => ⟨p, qs, pyD_dp S rx e1, pyD_dp S ry e2, h.1, h.2, k.self S (.bl _)⟩⟩
    · cases e
  · cases e
theorem ok_inB (hu : X.A.units + 65 < cLine) (neg : Bool) : OkOp X (compareOp (if neg then .NotIn else .In)) (inD neg) := by
  intro ρ st H x y v w d st' S rx ry e
  cases ry with
  | str b =>
    simp only [inD] at e
    split at e
    · rename_i a
      cases rx
      split at e
      · rename_i c hc
        cases e
        have ea : a = ⟨#[c]⟩ := by
          obtain ⟨cps⟩ := a
          congr 1
          have := congrArg List.toArray hc
          simpa using this
        subst ea
        cases neg with
        | false => exact ⟨_, op_in_sign, fun Q k => ⟨c, b, rfl, rfl, k.self S (.bl _)⟩⟩
        | true => exact ⟨_, op_notIn_sign, fun Q k => ⟨c, b, rfl, rfl, k.self S (.bl _)⟩⟩
      · cases e
    · cases e
  | ob hy =>
    simp only [inD] at e
    split at e
    · rename_i kvs h1
      split at e
      · rename_i hk
        cases e
        have ho := S.ob _ _ _ h1 hy
        cases neg with
        | false => exact ⟨_, op_inDct hu, fun Q k => ⟨ρ, kvs, x, _, rfl, ho, rx, hk, k.self S (.bl _)⟩⟩
        | true => exact ⟨_, op_notInDct hu, fun Q k => ⟨ρ, kvs, x, _, rfl, ho, rx, hk, k.self S (.bl _)⟩⟩
      · cases e
    · exact ok_inSeq hu neg S rx (.ob hy) e
  | non => exact ok_inSeq hu neg S rx .non e
  | bl b => exact ok_inSeq hu neg S rx (.bl b) e
  | int i => exact ok_inSeq hu neg S rx (.int i) e
  | tup a b c => exact ok_inSeq hu neg S rx (.tup a b c) e
  | fls a b => exact ok_inSeq hu neg S rx (.fls a b) e
theorem ok_in (hu : X.A.units + 65 < cLine) : OkOp X (compareOp .In) (inD false) := ok_inB hu false
theorem ok_notin (hu : X.A.units + 65 < cLine) : OkOp X (compareOp .NotIn) (inD true) := ok_inB hu true

/-! ### subscripts -/
def ixD (o i : D) : M D := fun st => match o, i with
  | .tup xs, .int k => match atI xs k with | some d => .ok d st | none => .no
  | .fls xs, .int k => match atI xs k with | some d => .ok d st | none => .no
  | .str z, .int k => if z.length ≤ bigN then match atI z.cps.toList k with | some c => .ok (.str ⟨#[c]⟩) st | none => .no else .no
  | .ob j, k => match st[j]? with
    | some (.lst xs) => match k with
      | .int k => match atI xs k with | some d => .ok d st | none => .no
      | _ => .no
    | some (.dct kvs) => if kindOk kvs k = true then match getKv kvs k with | some d => .ok d st | none => .no else .no
    | _ => .no
  | _, _ => .no
/-- whether the thing is a dict -/
def isDct (st : Store) : D → Bool
  | .ob j => match st[j]? with | some (.dct _) => true | _ => false
  | _ => false
theorem reps_atI {K : PySem.W.Frag} {ρ : List Addr} {H : Hp} {ds : List D} {vs : List V} {k : Int} {d : D} (r : Reps K ρ H ds vs) (e : atI ds k = some d) : ∃ v, atI vs k = some v ∧ Rep K ρ H d v := by
  unfold atI at e ⊢
  rw [← r.length]
  cases q : ixN ds.length k with
  | none => rw [q] at e; cases e
  | some j =>
    rw [q] at e
    exact r.get e
theorem ok_ix {ρ : List Addr} {st st' : Store} {H : Hp} {x y d : D} {v w : V} (S : Sim X.K ρ st H) (rx : Rep X.K ρ H x v) (ry : Rep X.K ρ H y w) (hn : isDct st x = false) (e : ixD x y st = .ok d st') :
    ∃ r : R2, IxR X r ∧ ∀ Q, Post X.K ρ H st' d Q → r v w H Q := by
  cases rx with
  | tup hx hs _ =>
    cases ry with
    | int k =>
      simp only [ixD] at e
      split at e
      · rename_i d' h1
        cases e
        obtain ⟨z, h2, rz⟩ := reps_atI hs h1
        exact ⟨_, ix_tup, fun Q p => ⟨_, _, k, z, rfl, rfl, hx, h2, p.self S rz⟩⟩
      · cases e
    | _ => simp only [ixD] at e; cases e
  | fls hx hs =>
    cases ry with
    | int k =>
      simp only [ixD] at e
      split at e
      · rename_i d' h1
        cases e
        obtain ⟨z, h2, rz⟩ := reps_atI hs h1
        exact ⟨_, ix_list, fun Q p => ⟨_, _, k, z, rfl, rfl, hx.sq, h2, p.self S rz⟩⟩
      · cases e
    | _ => simp only [ixD] at e; cases e
  | str z =>
    cases ry with
    | int k =>
      simp only [ixD] at e
      split at e
      · rename_i hl
        split at e
        · rename_i c h1
          cases e
          exact ⟨_, ix_str, fun Q p => ⟨z, k, c, rfl, rfl, by rw [big_eq]; exact hl, h1, p.self S (.str _)⟩⟩
        · cases e
      · cases e
    | _ => simp only [ixD] at e; cases e
  | ob hx =>
    simp only [ixD] at e
    split at e
    · rename_i xs h1
      obtain ⟨vs, h2, hs⟩ := S.ob _ _ _ h1 hx
      split at e
      · rename_i k
        cases ry
        split at e
        · rename_i d' h3
          cases e
          obtain ⟨z, h4, rz⟩ := reps_atI hs h3
          exact ⟨_, ix_list, fun Q p => ⟨_, vs, k, z, rfl, rfl, SqL.of h2, h4, p.self S rz⟩⟩
        · cases e
      · cases e
    · rename_i kvs h1
      simp only [isDct, h1] at hn
      cases hn
    · cases e
  | _ => cases ry <;> (simp only [ixD] at e; cases e)
/-- d[k] of a dict, the key there -/
def tDGetD (K : PySem.W.Frag) (td ty : TE) : TE := fun σ H Q => td σ H fun x H1 => ty σ H1 fun y H2 => ∃ ρ kvs k a d v, x = .ref a ∧ ObRep K ρ H2 a (.dct kvs) ∧ Rep K ρ H2 k y ∧ kindOk kvs k = true ∧ getKv kvs k = some d ∧ (∀ v, Rep K ρ H2 d v → Q v H2) ∧ v = V.non
theorem pe_dgetD {o i : Expr} {pos : Pos} {td ty : TE} (hu : X.A.units + 1 < cLine) (ho : PE X o td) (hi : PE X i ty) (hs : NoSl i) : PE X (.Subscript o i pos) (tDGetD X.K td ty) := by
  refine ⟨fun pins s σ H Q I h => ?_⟩
  refine subD_of PySem.F.slot_dict_getitem.lookup hs (thn (ho.run pins s σ H _ I h) fun u s1 ⟨x, H1, I1, rx, q1⟩ => thn (hi.run pins s1 σ H1 _ I1 q1) fun iv s2 ⟨y, H2, I2, ry, ρ, kvs, k, a, d, _, ex, ob, rk, hk, hg, q2, _⟩ => ?_)
  subst ex
  obtain rfl : u = Value.ref a := rx
  obtain ⟨H3, ov, I3, g, back, res⟩ := dg_at I2 ob rk hk
  rcases res with ⟨e1, _⟩ | ⟨d', z, e1, e2, rz⟩
  · rw [hg] at e1; cases e1
  · rw [hg] at e1; cases e1
    subst e2
    exact ⟨dict_typeIs I3 g, d_getItem hu I3 g ry fun w' s3 J rw' => ⟨z, H2, back _ J, rw', q2 z rz⟩⟩

/-! ### slices -/
def cutL {α : Type} (xs : List α) (lo hi : Option Int) : List α := (xs.drop (HT.sIx xs.length 0 lo)).take (HT.sIx xs.length xs.length hi - HT.sIx xs.length 0 lo)
def slD (x : D) (lo hi : Option Int) : M D := fun st => match x with
  | .tup xs => .ok (.tup (cutL xs lo hi)) st
  | .fls xs => .ok (.ob st.length) (st ++ [.lst (cutL xs lo hi)])
  | .ob j => match st[j]? with
    | some (.lst xs) => .ok (.ob st.length) (st ++ [.lst (cutL xs lo hi)])
    | _ => .no
  | .str z => if z.length ≤ bigN then .ok (.str (cutS z lo hi)) st else .no
  | _ => .no
theorem reps_cut {K : PySem.W.Frag} {ρ : List Addr} {H : Hp} {ds : List D} {vs : List V} (r : Reps K ρ H ds vs) (lo hi : Option Int) : Reps K ρ H (cutL ds lo hi) (cutV vs lo hi) := by
  unfold cutL cutV
  rw [r.length]
  exact (r.drop _).take _
theorem cut_whole {α : Type} (xs : List α) (lo hi : Option Int) (h : HT.sIx xs.length 0 lo = 0 ∧ HT.sIx xs.length xs.length hi = xs.length) : cutL xs lo hi = xs := by
  unfold cutL
  rw [h.1, h.2]
  simp
theorem ok_sl {ρ : List Addr} {st st' : Store} {H : Hp} {x d : D} {v : V} {lo hi : Option Int} (S : Sim X.K ρ st H) (rx : Rep X.K ρ H x v) (e : slD x lo hi st = .ok d st') :
    ∃ r : V → Option Int → Option Int → Hp → VK → Prop, SlR X r ∧ ∀ Q, Post X.K ρ H st' d Q → r v lo hi H Q := by
  cases rx with
  | tup hx hs hb =>
    simp only [slD] at e
    cases e
    refine ⟨_, sl_tupA, fun Q p => ⟨_, _, rfl, hx, fun hw => ?_, fun hw q hq => p.tup S (reps_cut hs lo hi) hq⟩⟩
    rw [cut_whole _ _ _ (by rw [hs.length]; exact hw)] at p
    exact p.self S (.tup hx hs hb)
  | fls hx hs =>
    simp only [slD] at e
    cases e
    exact ⟨_, sl_list, fun Q p => ⟨_, _, rfl, hx.sq, fun q hq => p.lst S (reps_cut hs lo hi) hq⟩⟩
  | str z =>
    simp only [slD] at e
    split at e
    · rename_i hl
      cases e
      exact ⟨_, sl_str, fun Q p => ⟨z, rfl, by rw [big_eq]; exact hl, p.self S (.str _)⟩⟩
    · cases e
  | ob hx =>
    simp only [slD] at e
    split at e
    · rename_i xs h1
      cases e
      obtain ⟨vs, h2, hs⟩ := S.ob _ _ _ h1 hx
      exact ⟨_, sl_list, fun Q p => ⟨_, vs, rfl, SqL.of h2, fun q hq => p.lst S (reps_cut hs lo hi) hq⟩⟩
    · cases e
  | _ => simp only [slD] at e; cases e
end
end W9

/-! W9g: built-in functions, methods -/
namespace W9
open PySem L2

inductive Bi where
  | len | abs | int | ord | sum | min | max | all | any | tuple | list | sorted | repr | str
  deriving DecidableEq
def Bi.name : Bi → Str
  | .len => "len" | .abs => "abs" | .int => "int" | .ord => "ord" | .sum => "sum" | .min => "min" | .max => "max" | .all => "all" | .any => "any" | .tuple => "tuple" | .list => "list" | .sorted => "sorted" | .repr => "repr" | .str => "str"

def intsOf : List D → Option (List Int)
  | [] => some []
  | .int i :: r => match intsOf r with | some is => some (i :: is) | none => none
  | _ => none
def blsOf : List D → Option (List Bool)
  | [] => some []
  | .bl i :: r => match blsOf r with | some is => some (i :: is) | none => none
  | _ => none
/-- the least, the greatest of a list -/
def minI : Int → List Int → Int
  | m, [] => m
  | m, x :: r => minI (if x < m then x else m) r
def maxI : Int → List Int → Int
  | m, [] => m
  | m, x :: r => maxI (if m < x then x else m) r
def insI (x : Int) : List Int → List Int
  | [] => [x]
  | y :: r => if x ≤ y then x :: y :: r else y :: insI x r
def sortI : List Int → List Int
  | [] => []
  | x :: r => insI x (sortI r)
/-- a list's items, wherever it stands -/
def itemsL (st : Store) : D → Option (List D)
  | .fls xs => some xs
  | .ob i => match st[i]? with | some (.lst xs) => some xs | _ => none
  | _ => none
def biD : Bi → List D → M D
  | .len, [.tup xs] => fun st => .ok (.int xs.length) st
  | .len, [.str z] => fun st => if z.length ≤ bigN then .ok (.int z.length) st else .no
  | .len, [x] => fun st => match itemsL st x with | some xs => .ok (.int xs.length) st | none => .no
  | .abs, [.int i] => fun st => .ok (.int (if i < 0 then -i else i)) st
  | .int, [.int i] => fun st => .ok (.int i) st
  | .int, [.bl b] => fun st => .ok (.int (if b then 1 else 0)) st
  | .ord, [.str z] => fun st => if z.length = 1 then .ok (.int (z.cps.getD 0 0 : Nat)) st else .no
  | .sum, [x] => fun st => match itemsL st x with
    | some xs => match intsOf xs with | some is => .ok (.int is.sum) st | none => .no
    | none => .no
  | .min, [.int i, .int j] => fun st => .ok (.int (if j < i then j else i)) st
  | .max, [.int i, .int j] => fun st => .ok (.int (if j > i then j else i)) st
  | .min, [x] => fun st => match itemsL st x with
    | some xs => match intsOf xs with | some (i :: is) => .ok (.int (minI i is)) st | _ => .no
    | none => .no
  | .max, [x] => fun st => match itemsL st x with
    | some xs => match intsOf xs with | some (i :: is) => .ok (.int (maxI i is)) st | _ => .no
    | none => .no
  | .all, [x] => fun st => match itemsL st x with
    | some xs => match blsOf xs with | some is => .ok (.bl (is.all id)) st | none => .no
    | none => .no
  | .any, [x] => fun st => match itemsL st x with
    | some xs => match blsOf xs with | some is => .ok (.bl (is.any id)) st | none => .no
    | none => .no
  | .tuple, [.tup xs] => fun st => .ok (.tup xs) st
  | .tuple, [x] => fun st => match itemsL st x with | some xs => .ok (.tup xs) st | none => .no
  | .list, [.tup xs] => fun st => .ok (.ob st.length) (st ++ [.lst xs])
  | .list, [x] => fun st => match itemsL st x with | some xs => .ok (.ob st.length) (st ++ [.lst xs]) | none => .no
  | .sorted, [x] => fun st => match itemsL st x with
    | some xs => match intsOf xs with | some is => .ok (.ob st.length) (st ++ [.lst ((sortI is).map .int)]) | none => .no
    | none => .no
  | .repr, [x] => fun st => match pyD st x with
    | some p => if p.canLay0 = true ∧ p.showable = true ∧ p.depth ≤ 60 ∧ p.shown.length ≤ bigN then .ok (.str p.shown) st else .no
    | none => .no
  | .str, [.int i] => fun st => if i.natAbs.log2 < 1920 then .ok (.str (toString i)) st else .no
  | .str, [.str z] => fun st => .ok (.str z) st
  | _, _ => fun _ => .no

section
variable {K : PySem.W.Frag} {ρ : List Addr} {st : Store} {H : Hp}
theorem itemsL_rep (S : Sim K ρ st H) {x : D} {v : V} {xs : List D} (r : Rep K ρ H x v) (e : itemsL st x = some xs) : ∃ a vs, v = .ref a ∧ SqL K H a vs ∧ Reps K ρ H xs vs := by
  cases r with
  | fls h hs => simp only [itemsL] at e; cases e; exact ⟨_, _, rfl, h.sq, hs⟩
  | ob h =>
    simp only [itemsL] at e
    split at e
    · rename_i ys h1
      cases e
      obtain ⟨vs, h2, h3⟩ := S.ob _ _ _ h1 h
      exact ⟨_, vs, rfl, SqL.of h2, h3⟩
    · cases e
  | _ => simp only [itemsL] at e; cases e
theorem intsOf_reps : ∀ {xs : List D} {is : List Int} {vs : List V}, intsOf xs = some is → Reps K ρ H xs vs → vs = is.map V.int
  | _, _, _, e, .nil => by simp only [intsOf] at e; cases e; rfl
  | _, _, _, e, .cons r t => by
    cases r with
    | int i =>
      simp only [intsOf] at e
      split at e
      · rename_i is' e1
        cases e
        rw [intsOf_reps e1 t]; rfl
      · cases e
    | _ => simp only [intsOf] at e; cases e
theorem blsOf_reps : ∀ {xs : List D} {is : List Bool} {vs : List V}, blsOf xs = some is → Reps K ρ H xs vs → vs = is.map V.bl
  | _, _, _, e, .nil => by simp only [blsOf] at e; cases e; rfl
  | _, _, _, e, .cons r t => by
    cases r with
    | bl i =>
      simp only [blsOf] at e
      split at e
      · rename_i is' e1
        cases e
        rw [blsOf_reps e1 t]; rfl
      · cases e
    | _ => simp only [blsOf] at e; cases e
theorem reps_ints (is : List Int) : Reps K ρ H (is.map .int) (is.map V.int) := by
  induction is with
  | nil => exact .nil
  | cons i r ih => exact .cons (.int i) ih
end
theorem minI_le : ∀ (l : List Int) (m : Int), minI m l ≤ m ∧ (∀ y ∈ l, minI m l ≤ y) ∧ (minI m l = m ∨ minI m l ∈ l)
  | [], m => ⟨Int.le_refl _, fun y h => absurd h (by simp), .inl rfl⟩
  | x :: r, m => by
    simp only [minI]
    by_cases hc : x < m
    · rw [if_pos hc]
      obtain ⟨h1, h2, h3⟩ := minI_le r x
      refine ⟨by omega, fun y hy => ?_, .inr ?_⟩
      · rcases List.mem_cons.mp hy with rfl | hy
        · exact h1
        · exact h2 y hy
      · rcases h3 with h3 | h3
        · rw [h3]; exact List.mem_cons_self
        · exact List.mem_cons_of_mem _ h3
    · rw [if_neg hc]
      obtain ⟨h1, h2, h3⟩ := minI_le r m
      refine ⟨h1, fun y hy => ?_, h3.imp id (List.mem_cons_of_mem _)⟩
      rcases List.mem_cons.mp hy with rfl | hy
      · omega
      · exact h2 y hy
theorem maxI_le : ∀ (l : List Int) (m : Int), m ≤ maxI m l ∧ (∀ y ∈ l, y ≤ maxI m l) ∧ (maxI m l = m ∨ maxI m l ∈ l)
  | [], m => ⟨Int.le_refl _, fun y h => absurd h (by simp), .inl rfl⟩
  | x :: r, m => by
    simp only [maxI]
    by_cases hc : m < x
    · rw [if_pos hc]
      obtain ⟨h1, h2, h3⟩ := maxI_le r x
      refine ⟨by omega, fun y hy => ?_, .inr ?_⟩
      · rcases List.mem_cons.mp hy with rfl | hy
        · exact h1
        · exact h2 y hy
      · rcases h3 with h3 | h3
        · rw [h3]; exact List.mem_cons_self
        · exact List.mem_cons_of_mem _ h3
    · rw [if_neg hc]
      obtain ⟨h1, h2, h3⟩ := maxI_le r m
      refine ⟨h1, fun y hy => ?_, h3.imp id (List.mem_cons_of_mem _)⟩
      rcases List.mem_cons.mp hy with rfl | hy
      · omega
      · exact h2 y hy
theorem insI_perm (x : Int) : ∀ l : List Int, (insI x l).Perm (x :: l)
  | [] => List.Perm.refl _
  | y :: r => by
    simp only [insI]
    split
    · exact List.Perm.refl _
    · exact ((insI_perm x r).cons y).trans (List.Perm.swap x y r)
theorem sortI_perm : ∀ l : List Int, (sortI l).Perm l
  | [] => List.Perm.refl _
  | x :: r => (insI_perm x _).trans ((sortI_perm r).cons x)
theorem insI_sorted (x : Int) : ∀ {l : List Int}, l.Pairwise (· ≤ ·) → (insI x l).Pairwise (· ≤ ·)
  | [], _ => by simp [insI]
  | y :: r, h => by
    have hh := List.pairwise_cons.mp h
    simp only [insI]
    split
    · rename_i hxy
      refine List.pairwise_cons.mpr ⟨fun z hz => ?_, h⟩
      rcases List.mem_cons.mp hz with rfl | hz
      · exact hxy
      · exact Int.le_trans hxy (hh.1 z hz)
    · rename_i hxy
      refine List.pairwise_cons.mpr ⟨fun z hz => ?_, insI_sorted x hh.2⟩
      rcases List.mem_cons.mp ((insI_perm x r).mem_iff.mp hz) with rfl | hz
      · omega
      · exact hh.1 z hz
theorem sortI_sorted : ∀ l : List Int, (sortI l).Pairwise (· ≤ ·)
  | [] => List.Pairwise.nil
  | x :: r => insI_sorted x (sortI_sorted r)
theorem sorted_unique {a b : List Int} (p : a.Perm b) (ha : a.Pairwise (· ≤ ·)) (hb : b.Pairwise (· ≤ ·)) : a = b :=
  p.eq_of_pairwise (fun x y _ _ h1 h2 => Int.le_antisymm h1 h2) ha hb

/-! ### repr of data -/
def rRepr (K : PySem.W.Frag) : List V → Hp → VK → Prop := fun xs H Q => ∃ x p, xs = [x] ∧ Dp K H x p ∧ p.canLay0 = true ∧ p.showable = true ∧ p.depth ≤ 60 ∧ p.shown.length ≤ sizeLine ∧ Q (.str p.shown) H
section
variable {X : Cx}
theorem cr_repr (hg : X.A.guards = some []) (hu : X.A.units + 65 < cLine) : CallR X (.builtin "repr") (rRepr X.K) := by
  intro pins s σ H xs us Q I r h
  obtain ⟨x, p, rfl, hd, hl, hs, hdp, hz, q⟩ := h
  obtain ⟨u, rfl, ru⟩ := vals1 r
  cases hd with
  | non => cases ru; exact PySem.P.repr_of_none ⟨.str _, H, I.tok _, ⟨_, rfl⟩, q⟩
  | bl b => cases ru; exact PySem.P.repr_of_bool ⟨.str _, H, I.tok _, ⟨_, rfl⟩, q⟩
  | int i =>
    obtain ⟨t, rfl⟩ := ru
    exact PySem.P.repr_of_int (of_decide_eq_true hs) ⟨.str _, H, I.tok _, ⟨_, rfl⟩, q⟩
  | str z =>
    obtain ⟨t, rfl⟩ := ru
    exact PySem.P.repr_of_str ⟨.str _, H, I.tok _, ⟨_, rfl⟩, q⟩ hz
  | lst h1 h2 =>
    obtain ⟨as, rr⟩ := Dp.reads I _ _ u (.lst h1 h2) ru
    cases ru
    exact repr_of_reads' rr hs (PyData.noDict_hsm (PyData.hasDict_of_canLay _ hl)) hg (by omega) (fun b o e => e) (fun h' t tk hk => ⟨.str _, H, I.kept (t' := tk) hk, ⟨_, rfl⟩, q⟩) hz
  | tup h1 h2 =>
    obtain ⟨as, rr⟩ := Dp.reads I _ _ u (.tup h1 h2) ru
    cases ru
    exact repr_of_reads' rr hs (PyData.noDict_hsm (PyData.hasDict_of_canLay _ hl)) hg (by omega) (fun b o e => e) (fun h' t tk hk => ⟨.str _, H, I.kept (t' := tk) hk, ⟨_, rfl⟩, q⟩) hz

/-- the value that the name holds -/
def Bi.val : Bi → Value
  | .int => .type "int" | .tuple => .type "tuple" | .list => .type "list" | .str => .type "str"
  | .len => .builtin "len" | .abs => .builtin "abs" | .ord => .builtin "ord" | .sum => .builtin "sum" | .min => .builtin "min" | .max => .builtin "max"
  | .all => .builtin "all" | .any => .builtin "any" | .sorted => .builtin "sorted" | .repr => .builtin "repr"
theorem reps1 {K : PySem.W.Frag} {ρ : List Addr} {H : Hp} {x : D} {vs : List V} (h : Reps K ρ H [x] vs) : ∃ v, vs = [v] ∧ Rep K ρ H x v := by
  cases h with
  | cons r t => cases t; exact ⟨_, rfl, r⟩
theorem reps2 {K : PySem.W.Frag} {ρ : List Addr} {H : Hp} {x y : D} {vs : List V} (h : Reps K ρ H [x, y] vs) : ∃ v w, vs = [v, w] ∧ Rep K ρ H x v ∧ Rep K ρ H y w := by
  cases h with
  | cons r t =>
    cases t with
    | cons r2 t2 => cases t2; exact ⟨_, _, rfl, r, r2⟩
theorem rep_tup {K : PySem.W.Frag} {ρ : List Addr} {H : Hp} {ds : List D} {v : V} (h : Rep K ρ H (.tup ds) v) : ∃ a vs, v = .ref a ∧ SqT K H a vs ∧ Reps K ρ H ds vs := by
  cases h with
  | tup a b c => exact ⟨_, _, rfl, a, b⟩
theorem ok_bi (hc : X.calm = true) (hg : X.A.guards = some []) (hu : X.A.units + 65 < cLine) (b : Bi) : OkCall X b.val (biD b) := by
  intro ρ st H xs vs d st' S r e
  have seq : ∀ (x : D) (ys : List D), xs = [x] → itemsL st x = some ys → ∃ a ws, vs = [.ref a] ∧ SqL X.K H a ws ∧ Reps X.K ρ H ys ws := by
    rintro x ys rfl h
    obtain ⟨v, rfl, rv⟩ := reps1 r
    obtain ⟨a, ws, rfl, h1, h2⟩ := itemsL_rep S rv h
    exact ⟨a, ws, rfl, h1, h2⟩
  unfold biD at e
  split at e
  all_goals (try dsimp only at e)
  · cases e
    obtain ⟨v, rfl, rv⟩ := reps1 r
    obtain ⟨a, ws, rfl, h1, h2⟩ := rep_tup rv
    exact ⟨_, call_len_seq, fun Q p => ⟨a, ws, rfl, .inr h1, by rw [← h2.length]; exact p.self S (.int _)⟩⟩
  · split at e
    · rename_i hl
      cases e
      obtain ⟨v, rfl, rv⟩ := reps1 r
      cases rv
      exact ⟨_, call_len_str, fun Q p => ⟨_, rfl, by rw [big_eq]; exact hl, p.self S (.int _)⟩⟩
    · cases e
  · split at e
    · rename_i ys h
      cases e
      obtain ⟨a, ws, rfl, h1, h2⟩ := seq _ _ rfl h
      exact ⟨_, call_len_seq, fun Q p => ⟨a, ws, rfl, .inl h1, by rw [← h2.length]; exact p.self S (.int _)⟩⟩
    · cases e
  · cases e
    obtain ⟨v, rfl, rv⟩ := reps1 r
    cases rv
    exact ⟨_, call_abs, fun Q p => ⟨_, rfl, p.self S (.int _)⟩⟩
  · cases e
    obtain ⟨v, rfl, rv⟩ := reps1 r
    cases rv
    exact ⟨_, call_int1, fun Q p => .inl ⟨_, rfl, p.self S (.int _)⟩⟩
  · cases e
    obtain ⟨v, rfl, rv⟩ := reps1 r
    cases rv
    exact ⟨_, call_int1, fun Q p => .inr ⟨_, rfl, p.self S (.int _)⟩⟩
  · split at e
    · rename_i hl
      cases e
      obtain ⟨v, rfl, rv⟩ := reps1 r
      cases rv
      exact ⟨_, call_ord, fun Q p => ⟨_, rfl, hl, p.self S (.int _)⟩⟩
    · cases e
  · split at e
    · rename_i ys h
      split at e
      · rename_i is h3
        cases e
        obtain ⟨a, ws, rfl, h1, h2⟩ := seq _ _ rfl h
        rw [intsOf_reps h3 h2] at h1
        exact ⟨_, cr_sum hc, fun Q p => ⟨a, is, rfl, h1, p.self S (.int _)⟩⟩
      · cases e
    · cases e
  · cases e
    obtain ⟨v, w, rfl, rv, rw'⟩ := reps2 r
    cases rv; cases rw'
    exact ⟨_, call_min2 hc, fun Q p => ⟨_, _, rfl, p.self S (.int _)⟩⟩
  · cases e
    obtain ⟨v, w, rfl, rv, rw'⟩ := reps2 r
    cases rv; cases rw'
    exact ⟨_, call_max2 hc, fun Q p => ⟨_, _, rfl, p.self S (.int _)⟩⟩
  · split at e
    · rename_i ys h
      split at e
      · rename_i i is h3
        cases e
        obtain ⟨a, ws, rfl, h1, h2⟩ := seq _ _ rfl h
        rw [intsOf_reps h3 h2] at h1
        refine ⟨_, cr_min hc, fun Q p => ⟨a, i :: is, rfl, h1, by simp, fun m hm hle => ?_⟩⟩
        have e1 : m = minI i is := by
          obtain ⟨q1, q2, q3⟩ := minI_le is i
          have a1 : m ≤ minI i is := hle _ (by rcases q3 with q3 | q3 <;> simp [q3])
          have a2 : minI i is ≤ m := by
            rcases List.mem_cons.mp hm with rfl | hm
            · exact q1
            · exact q2 m hm
          omega
        rw [e1]
        exact p.self S (.int _)
      · cases e
    · cases e
  · split at e
    · rename_i ys h
      split at e
      · rename_i i is h3
        cases e
        obtain ⟨a, ws, rfl, h1, h2⟩ := seq _ _ rfl h
        rw [intsOf_reps h3 h2] at h1
        refine ⟨_, cr_max hc, fun Q p => ⟨a, i :: is, rfl, h1, by simp, fun m hm hle => ?_⟩⟩
        have e1 : m = maxI i is := by
          obtain ⟨q1, q2, q3⟩ := maxI_le is i
          have a1 : maxI i is ≤ m := hle _ (by rcases q3 with q3 | q3 <;> simp [q3])
          have a2 : m ≤ maxI i is := by
            rcases List.mem_cons.mp hm with rfl | hm
            · exact q1
            · exact q2 m hm
          omega
        rw [e1]
        exact p.self S (.int _)
      · cases e
    · cases e
  · split at e
    · rename_i ys h
      split at e
      · rename_i is h3
        cases e
        obtain ⟨a, ws, rfl, h1, h2⟩ := seq _ _ rfl h
        rw [blsOf_reps h3 h2] at h1
        exact ⟨_, cr_all hc, fun Q p => ⟨a, is, rfl, h1, p.self S (.bl _)⟩⟩
      · cases e
    · cases e
  · split at e
    · rename_i ys h
      split at e
      · rename_i is h3
        cases e
        obtain ⟨a, ws, rfl, h1, h2⟩ := seq _ _ rfl h
        rw [blsOf_reps h3 h2] at h1
        exact ⟨_, cr_any hc, fun Q p => ⟨a, is, rfl, h1, p.self S (.bl _)⟩⟩
      · cases e
    · cases e
  · cases e
    obtain ⟨v, rfl, rv⟩ := reps1 r
    obtain ⟨a, ws, rfl, h1, h2⟩ := rep_tup rv
    exact ⟨_, call_tuple_of, fun Q p => ⟨a, ws, rfl, .inr ⟨h1, p.self S rv⟩⟩⟩
  · split at e
    · rename_i ys h
      cases e
      obtain ⟨a, ws, rfl, h1, h2⟩ := seq _ _ rfl h
      exact ⟨_, call_tuple_of, fun Q p => ⟨a, ws, rfl, .inl ⟨h1, fun l hl => p.tup S h2 hl⟩⟩⟩
    · cases e
  · cases e
    obtain ⟨v, rfl, rv⟩ := reps1 r
    obtain ⟨a, ws, rfl, h1, h2⟩ := rep_tup rv
    exact ⟨_, call_list_of, fun Q p => ⟨a, ws, rfl, .inr h1, fun l hl => p.lst S h2 hl⟩⟩
  · split at e
    · rename_i ys h
      cases e
      obtain ⟨a, ws, rfl, h1, h2⟩ := seq _ _ rfl h
      exact ⟨_, call_list_of, fun Q p => ⟨a, ws, rfl, .inl h1, fun l hl => p.lst S h2 hl⟩⟩
    · cases e
  · split at e
    · rename_i ys h
      split at e
      · rename_i is h3
        cases e
        obtain ⟨a, ws, rfl, h1, h2⟩ := seq _ _ rfl h
        rw [intsOf_reps h3 h2] at h1
        refine ⟨_, cr_sortedI, fun Q p => ⟨a, is, rfl, h1, fun ns' q perm srt hq => ?_⟩⟩
        have e1 : ns' = sortI is := sorted_unique (perm.trans (sortI_perm is).symm) srt (sortI_sorted is)
        subst e1
        exact p.lst S (reps_ints _) hq
      · cases e
    · cases e
  · split at e
    · rename_i p h
      split at e
      · rename_i hh
        cases e
        obtain ⟨v, rfl, rv⟩ := reps1 r
        exact ⟨_, cr_repr hg hu, fun Q k => ⟨v, p, rfl, pyD_dp S rv h, hh.1, hh.2.1, hh.2.2.1, by rw [big_eq]; exact hh.2.2.2, k.self S (.str _)⟩⟩
      · cases e
    · cases e
  · split at e
    · rename_i hl
      cases e
      obtain ⟨v, rfl, rv⟩ := reps1 r
      cases rv
      exact ⟨_, call_str_int, fun Q p => ⟨_, rfl, hl, p.self S (.str _)⟩⟩
    · cases e
  · cases e
    obtain ⟨v, rfl, rv⟩ := reps1 r
    cases rv
    exact ⟨_, SkE.call_str_str, fun Q p => ⟨_, rfl, p.self S (.str _)⟩⟩
  · cases e

/-! ### methods -/
inductive Me where
  | append | extend | get | setdefault
  deriving DecidableEq
def Me.name : Me → Str
  | .append => "append" | .extend => "extend" | .get => "get" | .setdefault => "setdefault"
/-- the kind of an object -/
inductive Ty where
  | list | dict
  deriving DecidableEq
def tyD (st : Store) : D → Option Ty
  | .ob i => match st[i]? with | some (.lst _) => some .list | some (.dct _) => some .dict | none => none
  | _ => none
def meD : Me → Ty → D → List D → M D
  | .append, .list, .ob i, [x] => fun st => match st[i]? with
    | some (.lst xs) => if xs.length < bigN then .ok .non (st.set i (.lst (xs ++ [x]))) else .no
    | _ => .no
  | .extend, .list, .ob i, [.ob j] => fun st => match st[i]?, st[j]? with
    | some (.lst xs), some (.lst ys) => if xs.length + ys.length ≤ bigN then .ok .non (st.set i (.lst (xs ++ ys))) else .no
    | _, _ => .no
  | .get, .dict, .ob i, [k] => fun st => match st[i]? with
    | some (.dct kvs) => if kindOk kvs k = true then .ok ((getKv kvs k).getD .non) st else .no
    | _ => .no
  | .get, .dict, .ob i, [k, x] => fun st => match st[i]? with
    | some (.dct kvs) => if kindOk kvs k = true then .ok ((getKv kvs k).getD x) st else .no
    | _ => .no
  | .setdefault, .dict, .ob i, [k, x] => fun st => match st[i]? with
    | some (.dct kvs) => if kindOk kvs k = true ∧ kvs.length < bigN then (match getKv kvs k with
      | some d => .ok d st
      | none => .ok x (st.set i (.dct (putKv kvs k x)))) else .no
    | _ => .no
  | _, _, _, _ => fun _ => .no
end
end W9

/-! W9h: methods -/
namespace W9
open PySem L2
section
variable {X : Cx} {pins : List (Addr × Obj)} {σ : L2.St} {H H' : Hp} {s : Shared} {a : Addr} {y z : V} {u r : Value} {ov : Option V}
theorem RelO.none_iff' {o : Option V} {u : Option Value} (r : RelO o u) : o = none ↔ u = none := by
  cases o with
  | none => exact ⟨fun _ => RelO.none_of r, fun _ => rfl⟩
  | some v => obtain ⟨w, rfl, _⟩ := RelO.some_of r; exact ⟨fun h => (by cases h), fun h => (by cases h)⟩
/-- setdefault, by what a look and a put would be -/
theorem setd_at {Q : Value → Shared → Prop} {E : Value → Shared → Prop} (hu : X.A.units + 1 < cLine) (I : Inv X pins σ H s) (p : DPut H a y z H') (g : DGet H a y ov) (ry : RelV y u) (rz : RelV z r)
    (h1 : ∀ v, ov = some v → ∀ (w' : Value) (s' : Shared), Inv X pins σ H s' → RelV v w' → Q w' s') (h2 : ov = none → ∀ (w' : Value) (s' : Shared), Inv X pins σ H' s' → RelV z w' → Q w' s') :
    wpAny (model X.prog X.w) X.A (call (.builtin "dict.setdefault") [.ref a, u, r]) Q E s := by
  rcases p with ⟨kvs, k, e, ey, l, eH⟩ | ⟨kvs, k, b, e, ey, eb, l, eH⟩
  · subst ey eH
    have eo : ov = valV kvs k := by
      rcases g with ⟨kvs', k', e', ey', l'⟩ | ⟨kvs', k', b', e', ey', _, l'⟩
      · rcases e' with e' | ⟨o, e'⟩
        · rw [e] at e'; cases e'
          rw [l', kV_inj ey']
        · rw [e] at e'; cases e'
      · rcases e' with e' | ⟨o, e'⟩ <;> (rw [e] at e'; cases e')
    rw [eo] at h1 h2
    exact d_setd I e ry rz l h1 h2
  · subst ey eH
    have eo : ov = valV kvs k := by
      rcases g with ⟨kvs', k', e', ey', l'⟩ | ⟨kvs', k', b', e', ey', eb', l'⟩
      · rcases e' with e' | ⟨o, e'⟩ <;> (rw [e] at e'; cases e')
      · rcases e' with e' | ⟨o, e'⟩
        · rw [e] at e'; cases e'
          cases ey'
          rw [eb] at eb'
          have := kVs_inj (HO.tup.inj (Option.some.inj eb'))
          rw [l', this]
        · rw [e] at e'; cases e'
    cases (show u = Value.ref b from ry)
    obtain ⟨hz0, hd, xs, rel, dd⟩ := dt_of I.hok e
    have hz : xs.length ≤ sizeLine := by rw [← Paired.length rel]; exact hz0
    have rv := rel.val k
    rw [← eo] at rv
    refine call_setdefault_heap (knd := tupleKind (mixKind X.prog X.w)) (tupleKind_room_in1 hu) (key_of I.hok eb) hd dd (fun p hp => ?_) (fun hn h' dd' hs => ?_) hz
    · rw [hp] at rv
      cases q : ov with
      | none => rw [q] at rv; exact (show False from rv).elim
      | some v => rw [q] at rv; exact h1 v q _ _ (I.tok _) rv
    · have hl : (putK kvs k z).length ≤ sizeLine := by have := length_putK kvs k z; omega
      refine h2 ((RelO.none_iff' rv).mpr (by rw [hn]; rfl)) _ _ ?_ rz
      obtain ⟨q, es, ep, hq, x2, x3, x4, _, x5⟩ := dd'
      refine d_write I (by rw [e]; exact True.intro) hs ⟨q, hq⟩ ⟨hl, hd, _, (rel.put k eb rz).keeps fun c ys ec => ?_, q, es, ep, hq, x2, x3, x4, x5⟩
      rw [upd_ne (ne_of ec e (fun z => nomatch z))]
      exact ec
end
section
variable {X : Cx}
def rGet1 (K : PySem.W.Frag) : V → List V → Hp → VK → Prop := fun x xs H Q => ∃ ρ kvs k a y, x = .ref a ∧ xs = [y] ∧ ObRep K ρ H a (.dct kvs) ∧ Rep K ρ H k y ∧ kindOk kvs k = true ∧ ∀ v, Rep K ρ H ((getKv kvs k).getD .non) v → Q v H
theorem mt_get1 (hu : X.A.units + 1 < cLine) : MtR X "dict.get" (rGet1 X.K) := by
  intro pins s σ H x xs v us Q I rx rs h
  obtain ⟨ρ, kvs, k, a, y, rfl, rfl, ob, rk, hk, q⟩ := h
  cases rx
  obtain ⟨u, rfl, ru⟩ := vals1 rs
  obtain ⟨H2, ov, I2, g, back, res⟩ := dg_at I ob rk hk
  refine d_get1 hu I2 g ru fun w' s' J rw' => ?_
  rcases res with ⟨e1, e2⟩ | ⟨d, z, e1, e2, rz⟩
  · subst e2
    rw [e1] at q
    exact ⟨.non, H, back _ J, rw', q _ .non⟩
  · subst e2
    rw [e1] at q
    exact ⟨z, H, back _ J, rw', q _ rz⟩
def rGet2 (K : PySem.W.Frag) : V → List V → Hp → VK → Prop := fun x xs H Q => ∃ ρ kvs k d a y z, x = .ref a ∧ xs = [y, z] ∧ ObRep K ρ H a (.dct kvs) ∧ Rep K ρ H k y ∧ Rep K ρ H d z ∧ kindOk kvs k = true ∧ ∀ v, Rep K ρ H ((getKv kvs k).getD d) v → Q v H
theorem mt_get2 (hu : X.A.units + 1 < cLine) : MtR X "dict.get" (rGet2 X.K) := by
  intro pins s σ H x xs v us Q I rx rs h
  obtain ⟨ρ, kvs, k, d, a, y, z, rfl, rfl, ob, rk, rd, hk, q⟩ := h
  cases rx
  obtain ⟨u, u2, rfl, ru, ru2⟩ := vals2 rs
  obtain ⟨H2, ov, I2, g, back, res⟩ := dg_at I ob rk hk
  refine d_get2 hu I2 g ru ru2 fun w' s' J rw' => ?_
  rcases res with ⟨e1, e2⟩ | ⟨d', z', e1, e2, rz⟩
  · subst e2
    rw [e1] at q
    exact ⟨z, H, back _ J, rw', q _ rd⟩
  · subst e2
    rw [e1] at q
    exact ⟨z', H, back _ J, rw', q _ rz⟩
def rSetd (K : PySem.W.Frag) : V → List V → Hp → VK → Prop := fun x xs H Q => ∃ (ρ : List Addr) (st : Store) (i : Nat) (kvs : List (D × D)) (k d : D) (a : Addr) (y z : V), x = .ref a ∧ xs = [y, z] ∧ Sim K ρ st H ∧ ρ[i]? = some a ∧ ObRep K ρ H a (.dct kvs) ∧ Rep K ρ H k y ∧ Rep K ρ H d z ∧ kindOk kvs k = true ∧ kvs.length < bigN ∧
  (∀ d' v, getKv kvs k = some d' → Rep K ρ H d' v → Q v H) ∧ (getKv kvs k = none → ∀ u, Mut (H a) → ObRep K ρ (upd H a u) a (.dct (putKv kvs k d)) → Q z (upd H a u))
theorem mt_setd (hu : X.A.units + 1 < cLine) : MtR X "dict.setdefault" (rSetd X.K) := by
  intro pins s σ H x xs v us Q I rx rs h
  obtain ⟨ρ, st, i, kvs, k, d, a, y, z, rfl, rfl, S, hi, ob, rk, rd, hk, hl, q1, q2⟩ := h
  cases rx
  obtain ⟨u, u2, rfl, ru, ru2⟩ := vals2 rs
  obtain ⟨H2, ov, w, I2, g, back, res, p, mu, ob'⟩ := dp_at I S hi ob rk hk hl rd
  refine setd_at hu I2 p g ru ru2 (fun v hv w' s' J rw' => ?_) fun hv w' s' J rw' => ?_
  · rcases res with ⟨_, e2⟩ | ⟨d', z', e1, e2, rz⟩
    · rw [hv] at e2; cases e2
    · rw [hv] at e2; cases e2
      exact ⟨v, H, back _ J, rw', q1 d' v e1 rz⟩
  · rcases res with ⟨e1, _⟩ | ⟨d', z', e1, e2, rz⟩
    · exact ⟨z, _, J, rw', q2 e1 w mu ob'⟩
    · rw [hv] at e2; cases e2
def Me.id : Me → Ty → String
  | .append, _ => "list.append"
  | .extend, _ => "list.extend"
  | .get, _ => "dict.get"
  | .setdefault, _ => "dict.setdefault"
theorem mutL {H : Hp} {a : Addr} {vs : List V} (h : H a = some (.lst vs)) : Mut (H a) := by rw [h]; exact True.intro
theorem ok_me (hu : X.A.units + 1 < cLine) (m : Me) (T : Ty) : ∀ ρ st H x xs v vs d st', Sim X.K ρ st H → Rep X.K ρ H x v → Reps X.K ρ H xs vs → meD m T x xs st = .ok d st' → ∃ r, MtR X (m.id T) r ∧ ∀ Q, Post X.K ρ H st' d Q → r v vs H Q := by
  intro ρ st H x xs v vs d st' S rx rs e
  unfold meD at e
  split at e
  all_goals (try dsimp only at e)
  · split at e
    · rename_i ys h1
      split at e
      · rename_i hl
        cases e
        cases rx with
        | ob hx =>
          obtain ⟨w, rfl, rw'⟩ := reps1 rs
          obtain ⟨ws, h2, h3⟩ := S.ob _ _ _ h1 hx
          have mu := mutL h2
          refine ⟨_, mt_append, fun Q p => ⟨_, ws, w, rfl, rfl, h2, by rw [big_eq, ← h3.length]; exact hl, ?_⟩⟩
          exact p ρ _ _ (S.grow_set hx mu) (S.set hx mu ⟨_, upd_same, (h3.append (.cons rw' .nil)).grow (S.grow_set hx mu)⟩) .non
      · cases e
    · cases e
  · split at e
    · rename_i ys zs h1 h1'
      split at e
      · rename_i hl
        cases e
        cases rx with
        | ob hx =>
          obtain ⟨w, rfl, rw'⟩ := reps1 rs
          cases rw' with
          | ob hy =>
            obtain ⟨ws, h2, h3⟩ := S.ob _ _ _ h1 hx
            obtain ⟨ws', h2', h3'⟩ := S.ob _ _ _ h1' hy
            have mu := mutL h2
            refine ⟨_, mt_extend, fun Q p => ⟨_, _, ws, ws', rfl, rfl, h2, h2', by rw [big_eq, ← h3.length, ← h3'.length]; exact hl, ?_⟩⟩
            exact p ρ _ _ (S.grow_set hx mu) (S.set hx mu ⟨_, upd_same, (h3.append h3').grow (S.grow_set hx mu)⟩) .non
      · cases e
    · cases e
  · split at e
    · rename_i kvs h1
      split at e
      · rename_i hk
        cases e
        cases rx with
        | ob hx =>
          obtain ⟨w, rfl, rw'⟩ := reps1 rs
          exact ⟨_, mt_get1 hu, fun Q p => ⟨ρ, kvs, _, _, w, rfl, rfl, S.ob _ _ _ h1 hx, rw', hk, fun v rv => p.self S rv⟩⟩
      · cases e
    · cases e
  · split at e
    · rename_i kvs h1
      split at e
      · rename_i hk
        cases e
        cases rx with
        | ob hx =>
          obtain ⟨w, w2, rfl, rw', rw2⟩ := reps2 rs
          exact ⟨_, mt_get2 hu, fun Q p => ⟨ρ, kvs, _, _, _, w, w2, rfl, rfl, S.ob _ _ _ h1 hx, rw', rw2, hk, fun v rv => p.self S rv⟩⟩
      · cases e
    · cases e
  · split at e
    · rename_i kvs h1
      split at e
      · rename_i hk
        cases rx with
        | ob hx =>
          obtain ⟨w, w2, rfl, rw', rw2⟩ := reps2 rs
          refine ⟨_, mt_setd hu, fun Q p => ⟨ρ, st, _, kvs, _, _, _, w, w2, rfl, rfl, S, hx, S.ob _ _ _ h1 hx, rw', rw2, hk.1, hk.2, fun d' v hg rv => ?_, fun hg u mu ob' => ?_⟩⟩
          · rw [hg] at e
            cases e
            exact p.self S rv
          · rw [hg] at e
            cases e
            exact p ρ _ _ (S.grow_set hx mu) (S.set hx mu ob') (rw2.grow (S.grow_set hx mu))
      · cases e
    · cases e
  · cases e
end
end W9

/-! W9i: defs that are called where no repr is under way, by what they do upon the store -/
namespace W9
open PySem PySem.Spec PyProof.Rows L2
structure FnG (P : Program) (w : World) (K : PySem.W.Frag) (mg : Str → Option Value) (base : Heap) (CX : CXT) (k : Nat) (f : Addr) (fd : FuncData) (ps : List Str) (sp : Sp) : Prop where
  len : ∀ vs H Q E, sp vs H Q E → vs.length = ps.length
  run : ∀ (A : Around) (outer : List PySem.Env) (s : Shared) (H : Hp) (args : Args) (us : List Value) (vs : List V) (Q : VK) (E : XK), Room k A → A.guards = some [] → Env0 P w K mg base A outer s H → BindsTo s fd args (ps.zip us) →
    Vals vs us → sp vs H Q E → codeAny (model P w) A (.call (.ref f) args) (CR CX outer P w H s Q E) s
section
variable {P : Program} {w : World} {K : PySem.W.Frag} {mg : Str → Option Value} {base : Heap} {CX : CXT} {j k : Nat} {f : Addr} {fd : FuncData} {ps : List Str} {sp sp' : Sp}
theorem FnG.up (F : FnG P w K mg base CX j f fd ps sp) (h : j ≤ k) : FnG P w K mg base CX k f fd ps sp :=
  ⟨F.len, fun A outer s H args us vs Q E room => F.run A outer s H args us vs Q E (room.mono h)⟩
theorem FnG.weak (F : FnG P w K mg base CX k f fd ps sp) (h : ∀ vs H Q E, sp' vs H Q E → sp vs H Q E) : FnG P w K mg base CX k f fd ps sp' :=
  ⟨fun vs H Q E x => F.len vs H Q E (h _ _ _ _ x), fun A outer s H args us vs Q E room gd e0 hb hv x => F.run A outer s H args us vs Q E room gd e0 hb hv (h _ _ _ _ x)⟩
/-- a def by its body -/
theorem fnG_of {name qual : Str} {params : Arguments} {body : List Stmt} {scope : Scope} {dV kV doc pm cdv ct oc : Value} {an od : Option Addr} {osl : Array (Option Value)} {N : List Str}
    (lk : K.lookup f = some ⟨oc, od, .func (PySem.W.fnOf name qual params body scope dV kV doc pm an cdv ct), osl⟩) (code : PySem.W.codeIn K cdv qual = true) (S : FnScope N ps scope) (len : ∀ vs H Q E, sp vs H Q E → vs.length = ps.length)
    (go : ∀ (A : Around) (outer : List PySem.Env) (s : Shared) (H : Hp) (vs : List V) (Q : VK) (E : XK), Room k (A.deeper (envOfC qual scope s.heap.objs.size f cdv)) → A.guards = some [] → sp vs H Q E →
      WSs (cxOf CX P w K mg base N qual scope f cdv A outer s H E) body { nx := fun _ H' => Q .non H', rt := Q } (start N vs) H) :
    FnG P w K mg base CX (k + 1) f (PySem.W.fnOf name qual params body scope dV kV doc pm an cdv ct) ps sp := by
  refine ⟨len, fun A outer s H args us vs Q E room gd e0 hb rel hsp => ?_⟩
  have hl := len _ _ _ _ hsp
  have KX : K.In s.heap := e0.mod.kin.keeps fun b o z => (e0.bs b o z).1
  have nolim : s.heap.NoLimit := e0.mod.nolimit.keeps fun b o z => (e0.bs b o z).1
  have kinds : ∀ y ∈ ps.zip us, scope.names.lookup y.1 = some .local ∨ (scope.names.lookup y.1 = some .cell ∧ ((cellsFrom (s.heap.objs.size + 1) scope.names []).lookup y.1).isSome = true) := fun ⟨n, v⟩ hy =>
    (S.par n (List.of_mem_zip hy).1).imp id fun z => ⟨z, PySem.W.cellsFrom_some _ _ _ (.inl z)⟩
  refine codeAny_call_function room.depth (KX _ _ lk) rfl S.co S.gen rfl (PySem.W.codeRec_of KX code) (hb _ _ _ _ ?_)
  refine wpAny_newFunctionEnv_cells S.kind kinds fun env eenv s1 x => ?_
  subst eenv
  refine ⟨nolim.keeps x.toInCall.keep, codeAny_func ?_⟩
  have wb := go A outer s H vs Q E (room.deeper _) gd hsp
  have I : Inv (cxOf CX P w K mg base N qual scope f cdv A outer s H E) [] (start N vs) H s1 := inv_start S room.hd e0 hl rel x
  refine wpAny_mono (wb [] s1 I) (fun flow s' hs => ?_) fun _ _ hs => hs
  have done : ∀ {σ' : L2.St} {H' : Hp} {v : V} {u : Value}, Inv (cxOf CX P w K mg base N qual scope f cdv A outer s H E) [] σ' H' s' → RelV v u → Q v H' → CE outer P w H s Q u s' :=
    fun {σ' H' v u} J rv q => ⟨v, H', J.os, J.bare, J.base, J.hok, rv, q⟩
  cases flow with
  | ret u => obtain ⟨v, σ', H', J, rv, q⟩ := hs; exact done J rv q
  | next => obtain ⟨σ', H', J, q⟩ := hs; exact done (v := V.non) (u := Value.none) J rfl q
  | brk => obtain ⟨_, _, _, q⟩ := hs; exact q.elim
  | cont => obtain ⟨_, _, _, q⟩ := hs; exact q.elim
end

/-! ### a def's promise by a function upon the store -/
def spF (K : PySem.W.Frag) (n : Nat) (g : List D → M D) : Sp := fun vs H Q _ => ∃ ρ st ds d st', ds.length = n ∧ Sim K ρ st H ∧ Reps K ρ H ds vs ∧ g ds st = .ok d st' ∧ Post K ρ H st' d Q
/-- what is known of a name that is called -/
structure Callee (P : Program) (w : World) (K : PySem.W.Frag) (mg : Str → Option Value) (base : Heap) (k : Nat) (x : Str) (n : Nat) (g : List D → M D) : Prop where
  ex : ∃ f fd ps, FnG P w K mg base CX0 k f fd ps (spF K n g) ∧ mg x = some (.ref f) ∧ PySem.W.keepIn K (.ref f) = true ∧ Binds K fd ps []
section
variable {X : Cx} {k : Nat} {x : Str} {n : Nat} {g : List D → M D}
theorem callG {f : Addr} {fd : FuncData} {ps : List Str} {sp : Sp} {pins : List (Addr × Obj)} {σ : L2.St} {H : Hp} {s : Shared} {Q : VK} {us : List Value} {vs : List V} (F : FnG X.prog X.w X.K X.mg X.base CX0 k f fd ps sp) (room : Room k X.A) (gd : X.A.guards = some [])
    (hb : Binds X.K fd ps []) (I : Inv X pins σ H s) (rel : Vals vs us) (h : sp vs H Q E0) : wpAny (model X.prog X.w) X.A (call (.ref f) us) (EP X pins σ Q) X.xe s := by
  have hl : (us ++ []).length = ps.length := by rw [List.append_nil, ← rel.length]; exact F.len _ _ _ _ h
  have hb' := hb s us I.kIn hl
  rw [List.append_nil] at hb'
  refine wpAny_call (codeAny_mono (F.run X.A X.stack s H ⟨us, []⟩ us vs Q E0 room gd I.env0 hb' rel h) fun res s' z => ?_)
  cases res with
  | error e => exact False.elim z
  | ok flow =>
    cases flow with
    | ret u => exact I.after z
    | next => exact z.elim
    | brk => exact z.elim
    | cont => exact z.elim
/-- f(e, ..) -/
theorem pe_callG {f : Addr} {fd : FuncData} {ps : List Str} {sp : Sp} {p pos : Pos} {e : Expr} {es : List Expr} {t : TA} (F : FnG X.prog X.w X.K X.mg X.base CX0 k f fd ps sp) (room : Room k X.A) (gd : X.A.guards = some []) (gl : Gl X x) (hm : X.mg x = some (.ref f))
    (hk : PySem.W.keepIn X.K (.ref f) = true) (hb : Binds X.K fd ps []) (ha : PA X (e :: es) t) (hdb : (x == ("__debug__" : Str)) = false) (he : starEach (e :: es) X.env = (false, eval e X.env) :: starEach es X.env)
    (hpl : (backTo pos (starEach es X.env)).any (·.1) = false) : PE X (.Call (.Name x p) (e :: es) [] pos) (fun σ H Q => t σ H fun vs H1 => sp vs H1 Q E0) := by
  refine ⟨fun pins s σ H Q I h => ?_⟩
  refine wpAny_Call_Name_kw (ld_glob I gl hm ?_ hdb)
  refine PySem.W.callWith_K (h₀ := X.base) I.ok.mod.kin hk (thn (ha.run pos pins s σ H _ I h) fun us s1 ⟨vs, H1, I1, rel, q⟩ => ⟨I1.kIn, ?_⟩) he hpl
  exact callG F room gd hb I1 rel q
end
end W9

/-! W9j: the core language and its interpreter -/
namespace W9
open PySem L2

/-- targets: slots -/
inductive Tg where
  | name (i : Nat)
  | tup (is : List Nat)
mutual
inductive Ex where
  | var (i : Nat)
  | cst (d : D)
  | glob (x : Str)
  | tup (es : Exs)
  | lst (es : Exs)
  | dict0
  | dict (ks : List Str) (es : Exs)
  | bin (op : Operator) (a b : Ex)
  | neg (a : Ex)
  | cmp (op : CmpOp) (a b : Ex)
  | chain (o1 o2 : CmpOp) (a b c : Ex)
  | and (a b : Ex)
  | or (a b : Ex)
  | not (a : Ex)
  | ite (c a b : Ex)
  | idx (a i : Ex)
  | sl (a : Ex) (lo hi : Exo)
  | call (f : Str) (es : Exs)
  | bi (f : Bi) (es : Exs)
  | meth (m : Me) (o : Ex) (es : Exs)
  | lc (own : List Nat) (src : Src) (tg : Tg) (c : Exo) (e : Ex)
inductive Exs where
  | nil
  | cons (e : Ex) (es : Exs)
inductive Exo where
  | none
  | some (e : Ex)
inductive Src where
  | seq (e : Ex)
  | rng1 (a : Ex)
  | rng2 (a b : Ex)
  | enum (e : Ex)
end
mutual
inductive Sm where
  | asg (i : Nat) (e : Ex)
  | asgT (is : List Nat) (e : Ex)
  | setIx (o i e : Ex)
  | aug (i : Nat) (op : Operator) (e : Ex)
  | expr (e : Ex)
  | ret (e : Ex)
  | retN
  | ite (c : Ex) (a b : Sms)
  | forS (src : Src) (tg : Tg) (body : Sms)
  | pass
  | brk
  | cont
  | never
inductive Sms where
  | nil
  | cons (s : Sm) (r : Sms)
end

/-- the functions by name, the module's constants -/
structure Cts where
  fn : Str → List D → M D
  gl : Str → Option D

def binD : Operator → D → D → M D
  | .Add => addD
  | .Sub => subD
  | .Mult => mulD
  | .FloorDiv => divD
  | .Mod => modD
  | .Pow => powD
  | _ => fun _ _ _ => .no
def cmpD : CmpOp → D → D → M D
  | .Eq => eqD false
  | .NotEq => eqD true
  | .Lt => ltD
  | .LtE => leD
  | .Gt => gtD
  | .GtE => geD
  | .Is => isD false
  | .IsNot => isD true
  | .In => inD false
  | .NotIn => inD true
def negD : D → M D
  | .int i => fun st => .ok (.int (-i)) st
  | _ => fun _ => .no
def truthD : D → M Bool
  | .non => fun st => .ok false st
  | .bl b => fun st => .ok b st
  | .int i => fun st => .ok (i != 0) st
  | .str z => fun st => if z.length ≤ bigN then .ok ((z.length : Int) != 0) st else .no
  | .tup xs => fun st => .ok (!xs.isEmpty) st
  | x => fun st => match itemsL st x with | some xs => .ok (!xs.isEmpty) st | none => .no
def bindT : Tg → D → Env → Store → Option Env
  | .name i, d, env, _ => some (env.set i (some d))
  | .tup is, d, env, st => match d with
    | .tup xs => if xs.length = is.length then some ((is.zip xs).foldl (fun e p => e.set p.1 (some p.2)) env) else none
    | .ob j => match st[j]? with
      | some (.lst xs) => if xs.length = is.length then some ((is.zip xs).foldl (fun e p => e.set p.1 (some p.2)) env) else none
      | _ => none
    | _ => none
def wipeE (env : Env) : List Nat → Env
  | [] => env
  | v :: vs => (wipeE env vs).set v none
/-- the list that a loop goes over stands as it was -/
def gdOk (st : Store) : Option (Nat × List D) → Bool
  | none => true
  | some (j, xs) => decide (st[j]? = some (.lst xs))
def loopC (gd : Option (Nat × List D)) (f : D → M (Option D)) : List D → M (List D)
  | [] => fun st => if gdOk st gd = true then .ok [] st else .no
  | d :: r => fun st => if gdOk st gd = true then (match f d st with
    | .ok o st1 => match loopC gd f r st1 with
      | .ok l st2 => .ok (o.toList ++ l) st2
      | .ex x st2 => .ex x st2
      | .no => .no
    | .ex x st1 => .ex x st1
    | .no => .no) else .no
/-- what a source gives: its items, and which list must stand -/
def seqS (x : D) : M (List D × Option (Nat × List D)) := fun st => match x with
  | .tup xs => .ok (xs, none) st
  | .fls xs => .ok (xs, none) st
  | .str z => .ok (z.cps.toList.map fun c => .str ⟨#[c]⟩, none) st
  | .ob j => match st[j]? with
    | some (.lst xs) => .ok (xs, some (j, xs)) st
    | _ => .no
  | _ => .no
def rngI (lo hi : Int) : List D := (List.range (hi - lo).toNat).map fun i => .int (lo + (i : Nat))
def rngOk (i : Int) : Bool := decide (-(2 ^ 62) ≤ i) && decide (i < 2 ^ 62)
def pairs : Nat → List D → List D
  | _, [] => []
  | n, d :: r => .tup [.int (n : Nat), d] :: pairs (n + 1) r
def enumS (x : D) : M (List D × Option (Nat × List D)) := fun st => match x with
  | .fls xs => .ok (pairs 0 xs, none) st
  | .str z => .ok (pairs 0 (z.cps.toList.map fun c => .str ⟨#[c]⟩), none) st
  | .ob j => match st[j]? with
    | some (.lst xs) => .ok (pairs 0 xs, some (j, xs)) st
    | _ => .no
  | _ => .no
/-- how a statement ends -/
inductive Fl where
  | nx (env : Env)
  | ret (d : D)
  | bk (env : Env)
  | ct (env : Env)
/-- a comprehension's turn -/
def compF (t : Tg) (own : List Nat) (env : Env) (mt : Env → M Bool) (me : Env → M D) : D → M (Option D) := fun d st => match bindT t d (wipeE env own) st with
  | some env1 => match mt env1 st with
    | .ok true st1 => (match me env1 st1 with | .ok d st2 => .ok (some d) st2 | .ex x st2 => .ex x st2 | .no => .no)
    | .ok false st1 => .ok none st1
    | .ex x st1 => .ex x st1
    | .no => .no
  | none => .no
/-- a for's turn -/
def forF (t : Tg) (mb : Env → M Fl) : D → Env → M Fl := fun d e st => match bindT t d e st with
  | some e1 => mb e1 st
  | none => .no
abbrev EvM := (Env → M D) × (Env → M Bool)
/-- a value whose test is its truth -/
@[reducible] def plain (v : Env → M D) : EvM := (v, fun env => M.bind (v env) fun x => truthD x)
/-- a value that is a truth -/
@[reducible] def boolE (v : Env → M D) : EvM := (v, fun env => M.bind (v env) fun x => match x with | .bl b => fun st => .ok b st | _ => fun _ => .no)
mutual
def bo (C : Cts) : Ex → EvM
  | .var i => plain fun env st => match env[i]? with | some (some d) => .ok d st | _ => .no
  | .cst d => plain fun _ st => .ok d st
  | .glob x => plain fun _ st => match C.gl x with | some d => .ok d st | none => .no
  | .tup es => plain fun env => M.bind (evs C es env) fun ds st => if ds.length ≤ bigN then .ok (.tup ds) st else .no
  | .lst es => plain fun env => M.bind (evs C es env) fun ds st => if ds.length ≤ bigN then .ok (.ob st.length) (st ++ [.lst ds]) else .no
  | .dict0 => plain fun _ st => .ok (.ob st.length) (st ++ [.dct []])
  | .dict ks es => plain fun env => M.bind (evs C es env) fun ds st => if ks.length = ds.length ∧ ks.length ≤ 15 then .ok (.ob st.length) (st ++ [.dct ((ks.map D.str).zip ds)]) else .no
  | .bin op a b => plain fun env => M.bind ((bo C a).1 env) fun x => M.bind ((bo C b).1 env) fun y => binD op x y
  | .neg a => plain fun env => M.bind ((bo C a).1 env) fun x => negD x
  | .cmp op a b => boolE fun env => M.bind ((bo C a).1 env) fun x => M.bind ((bo C b).1 env) fun y => cmpD op x y
  | .chain o1 o2 a b c => boolE fun env => M.bind ((bo C a).1 env) fun x => M.bind ((bo C b).1 env) fun y => M.bind (cmpD o1 x y) fun r => match r with
    | .bl true => M.bind ((bo C c).1 env) fun z => cmpD o2 y z
    | .bl false => fun st => .ok (.bl false) st
    | _ => fun _ => .no
  | .and a b => (fun env => M.bind ((bo C a).1 env) fun x => match x with
      | .bl true => (bo C b).1 env
      | .bl false => fun st => .ok (.bl false) st
      | _ => fun _ => .no,
    fun env => M.bind ((bo C a).2 env) fun r => if r = true then (bo C b).2 env else fun st => .ok false st)
  | .or a b => (fun env => M.bind ((bo C a).1 env) fun x => match x with
      | .bl false => (bo C b).1 env
      | .bl true => fun st => .ok (.bl true) st
      | _ => fun _ => .no,
    fun env => M.bind ((bo C a).2 env) fun r => if r = true then fun st => .ok true st else (bo C b).2 env)
  | .not a => (fun env => M.bind ((bo C a).1 env) fun x => match x with
      | .bl b => fun st => .ok (.bl (!b)) st
      | _ => fun _ => .no,
    fun env => M.bind ((bo C a).2 env) fun r st => .ok (!r) st)
  | .ite c a b => (fun env => M.bind ((bo C c).2 env) fun r => if r = true then (bo C a).1 env else (bo C b).1 env,
    fun env => M.bind ((bo C c).2 env) fun r => if r = true then (bo C a).2 env else (bo C b).2 env)
  | .idx a i => plain fun env => M.bind ((bo C a).1 env) fun x => M.bind ((bo C i).1 env) fun y => ixD x y
  | .sl a lo hi => plain fun env => M.bind ((bo C a).1 env) fun x => M.bind (evo C lo env) fun l => M.bind (evo C hi env) fun h => slD x l h
  | .call f es => plain fun env => M.bind (evs C es env) fun ds => C.fn f ds
  | .bi f es => plain fun env => M.bind (evs C es env) fun ds => biD f ds
  | .meth m o es => plain fun env => M.bind ((bo C o).1 env) fun x st => match tyD st x with
    | some T => M.bind (evs C es env) (fun ds => meD m T x ds) st
    | none => .no
  | .lc own src tg c e => plain fun env => M.bind (srcE C src env) fun p => M.bind (loopC p.2 (compF tg own env (tsto C c) (bo C e).1) p.1) fun ds st => if ds.length ≤ bigN then .ok (.ob st.length) (st ++ [.lst ds]) else .no
def evs (C : Cts) : Exs → Env → M (List D)
  | .nil => fun _ st => .ok [] st
  | .cons e es => fun env => M.bind ((bo C e).1 env) fun d => M.bind (evs C es env) fun ds st => .ok (d :: ds) st
def evo (C : Cts) : Exo → Env → M (Option Int)
  | .none => fun _ st => .ok none st
  | .some e => fun env => M.bind ((bo C e).1 env) fun d => match d with | .int i => fun st => .ok (some i) st | _ => fun _ => .no
def tsto (C : Cts) : Exo → Env → M Bool
  | .none => fun _ st => .ok true st
  | .some e => (bo C e).2
def srcE (C : Cts) : Src → Env → M (List D × Option (Nat × List D))
  | .seq e => fun env => M.bind ((bo C e).1 env) fun x => seqS x
  | .rng1 a => fun env => M.bind ((bo C a).1 env) fun x => match x with
    | .int n => fun st => if rngOk n = true then .ok (rngI 0 n, none) st else .no
    | _ => fun _ => .no
  | .rng2 a b => fun env => M.bind ((bo C a).1 env) fun x => M.bind ((bo C b).1 env) fun y => match x, y with
    | .int l, .int h => fun st => if rngOk l = true ∧ rngOk h = true then .ok (rngI l h, none) st else .no
    | _, _ => fun _ => .no
  | .enum e => fun env => M.bind ((bo C e).1 env) fun x => enumS x
end
abbrev ev (C : Cts) (e : Ex) : Env → M D := (bo C e).1
abbrev tst (C : Cts) (e : Ex) : Env → M Bool := (bo C e).2
def setD (o i d : D) : M Unit := fun st => match o with
  | .ob j => match st[j]? with
    | some (.lst xs) => match i with
      | .int k => match ixN xs.length k with
        | some n => .ok () (st.set j (.lst (xs.set n d)))
        | none => .no
      | _ => .no
    | some (.dct kvs) => if kindOk kvs i = true ∧ kvs.length < bigN then .ok () (st.set j (.dct (putKv kvs i d))) else .no
    | none => .no
  | _ => .no
def augD : Operator → D → D → M D
  | .Add, .int i, .int j => fun st => .ok (.int (i + j)) st
  | .Sub, .int i, .int j => fun st => .ok (.int (i - j)) st
  | _, _, _ => fun _ => .no
/-- the turns of a for -/
def loopF (gd : Option (Nat × List D)) (f : D → Env → M Fl) : List D → Env → M Fl
  | [] => fun env st => if gdOk st gd = true then .ok (.nx env) st else .no
  | d :: r => fun env st => if gdOk st gd = true then (match f d env st with
    | .ok (.nx e1) st1 => loopF gd f r e1 st1
    | .ok (.ct e1) st1 => loopF gd f r e1 st1
    | .ok (.bk e1) st1 => .ok (.nx e1) st1
    | .ok (.ret v) st1 => .ok (.ret v) st1
    | .ex x st1 => .ex x st1
    | .no => .no) else .no
mutual
def run (C : Cts) : Sm → Env → M Fl
  | .asg i e => fun env => M.bind (ev C e env) fun d st => .ok (.nx (env.set i (some d))) st
  | .asgT is e => fun env => M.bind (ev C e env) fun d st => match bindT (.tup is) d env st with | some env1 => .ok (.nx env1) st | none => .no
  | .setIx o i e => fun env => M.bind (ev C e env) fun d => M.bind (ev C o env) fun x => M.bind (ev C i env) fun y => M.bind (setD x y d) fun _ st => .ok (.nx env) st
  | .aug i op e => fun env st => match env[i]? with
    | some (some x) => M.bind (ev C e env) (fun y => M.bind (augD op x y) fun z st => .ok (.nx (env.set i (some z))) st) st
    | _ => .no
  | .expr e => fun env => M.bind (ev C e env) fun _ st => .ok (.nx env) st
  | .ret e => fun env => M.bind (ev C e env) fun d st => .ok (.ret d) st
  | .retN => fun _ st => .ok (.ret .non) st
  | .ite c a b => fun env => M.bind (tst C c env) fun r => if r = true then runs C a env else runs C b env
  | .forS src tg body => fun env => M.bind (srcE C src env) fun p => loopF p.2 (forF tg (runs C body)) p.1 env
  | .pass => fun env st => .ok (.nx env) st
  | .brk => fun env st => .ok (.bk env) st
  | .cont => fun env st => .ok (.ct env) st
  | .never => fun _ _ => .no
def runs (C : Cts) : Sms → Env → M Fl
  | .nil => fun env st => .ok (.nx env) st
  | .cons s r => fun env => M.bind (run C s env) fun fl => match fl with
    | .nx e1 => runs C r e1
    | .ret d => fun st => .ok (.ret d) st
    | .bk e1 => fun st => .ok (.bk e1) st
    | .ct e1 => fun st => .ok (.ct e1) st
end
/-- a def: how many names, its body -/
def callDef (C : Cts) (nN : Nat) (body : Sms) : List D → M D := fun ds => M.bind (runs C body (ds.map some ++ List.replicate (nN - ds.length) none)) fun fl => match fl with
  | .ret d => fun st => .ok d st
  | .nx _ => fun st => .ok .non st
  | _ => fun _ => .no
end W9

/-! W9k: one construct after another: what the interpreter tells is what runs -/
namespace W9
open PySem L2
theorem bind_ok {α β : Type} {m : M α} {f : α → M β} {st st2 : Store} {b : β} (h : M.bind m f st = .ok b st2) : ∃ a st1, m st = .ok a st1 ∧ f a st1 = .ok b st2 := by
  unfold M.bind at h
  split at h
  · rename_i a st1 e; exact ⟨a, st1, e, h⟩
  · cases h
  · cases h
section
variable {X : Cx}
/-! ### the widest rule of an operation -/
theorem opr_max {f : Value → Value → Sem Value} : OpR X f (fun x y H Q => ∃ r, OpR X f r ∧ r x y H Q) := by
  intro pins s σ H x y v u Q I rx ry h
  obtain ⟨r, h1, h2⟩ := h
  exact h1 pins s σ H x y v u Q I rx ry h2
theorem callr_max {f : Value} : CallR X f (fun xs H Q => ∃ r, CallR X f r ∧ r xs H Q) := by
  intro pins s σ H xs us Q I rs h
  obtain ⟨r, h1, h2⟩ := h
  exact h1 pins s σ H xs us Q I rs h2
theorem mtr_max {id : String} : MtR X id (fun x xs H Q => ∃ r, MtR X id r ∧ r x xs H Q) := by
  intro pins s σ H x xs v us Q I rx rs h
  obtain ⟨r, h1, h2⟩ := h
  exact h1 pins s σ H x xs v us Q I rx rs h2
theorem ixr_max : IxR X (fun x y H Q => ∃ r, IxR X r ∧ r x y H Q) := by
  intro value slice pins s σ H x y v u Q I rx ry h hs
  obtain ⟨r, h1, h2⟩ := h
  exact h1 value slice pins s σ H x y v u Q I rx ry h2 hs
theorem slr_max : SlR X (fun x lo hi H Q => ∃ r, SlR X r ∧ r x lo hi H Q) := by
  intro pins s σ H x v vl vu lo hi sl Q I rx hs pl pu h
  obtain ⟨r, h1, h2⟩ := h
  exact h1 pins s σ H x v vl vu lo hi sl Q I rx hs pl pu h2

/-! ### expressions -/
variable {a b c : Expr} {ma mb mc : Env → M D} {pos : Pos}
theorem snd_two (ha : SndE X a ma) (hb : SndE X b mb) {ρ : List Addr} {st st1 st2 : Store} {env : Env} {σ : L2.St} {H : Hp} {x y : D} (S : Sim X.K ρ st H) (R : EnvR X.K ρ H env σ) (e1 : ma env st = .ok x st1) (e2 : mb env st1 = .ok y st2)
    {Q : V → V → Hp → Prop} (h : ∀ ρ' H' v w, Grow ρ H ρ' H' → Sim X.K ρ' st2 H' → Rep X.K ρ' H' x v → Rep X.K ρ' H' y w → Q v w H') : WE X a σ H fun v H1 => WE X b σ H1 fun w H2 => Q v w H2 :=
  ha ρ st env σ H x st1 S R e1 _ fun ρ1 H1 v g1 S1 r1 => hb ρ1 st1 env σ H1 y st2 S1 (R.grow g1) e2 _ fun ρ2 H2 w g2 S2 r2 => h ρ2 H2 v w (g1.trans g2) S2 (r1.grow g2) r2
theorem snd_bin {op : Operator} {g : D → D → M D} (ho : OkOp X (binaryOp op) g) (ha : SndE X a ma) (hb : SndE X b mb) : SndE X (.BinOp a op b pos) (fun env => M.bind (ma env) fun x => M.bind (mb env) fun y => g x y) := by
  intro ρ st env σ H d st' S R e Q P
  obtain ⟨x, st1, e1, e⟩ := bind_ok e
  obtain ⟨y, st2, e2, e3⟩ := bind_ok e
  refine we_of (pe_op opr_max pe_we pe_we) (snd_two ha hb S R e1 e2 fun ρ' H' v w g' S' r1 r2 => ?_)
  obtain ⟨r, h1, h2⟩ := ho ρ' st2 H' x y v w d st' S' r1 r2 e3
  exact ⟨r, h1, h2 Q (P.grow g')⟩
theorem snd_cmp {op : CmpOp} {g : D → D → M D} (ho : OkOp X (compareOp op) g) (hm : behindInMarks op b = false) (ha : SndE X a ma) (hb : SndE X b mb) : SndE X (.Compare a [op] [b] pos) (fun env => M.bind (ma env) fun x => M.bind (mb env) fun y => g x y) := by
  intro ρ st env σ H d st' S R e Q P
  obtain ⟨x, st1, e1, e⟩ := bind_ok e
  obtain ⟨y, st2, e2, e3⟩ := bind_ok e
  refine we_of (pe_cmpR opr_max pe_we pe_we hm) (snd_two ha hb S R e1 e2 fun ρ' H' v w g' S' r1 r2 => ?_)
  obtain ⟨r, h1, h2⟩ := ho ρ' st2 H' x y v w d st' S' r1 r2 e3
  exact ⟨r, h1, h2 Q (P.grow g')⟩
theorem rep_bl {K : PySem.W.Frag} {ρ : List Addr} {H : Hp} {b : Bool} {v : V} (r : Rep K ρ H (.bl b) v) : v = .bl b := by cases r; rfl
theorem rep_int {K : PySem.W.Frag} {ρ : List Addr} {H : Hp} {b : Int} {v : V} (r : Rep K ρ H (.int b) v) : v = .int b := by cases r; rfl
theorem rep_str {K : PySem.W.Frag} {ρ : List Addr} {H : Hp} {b : Str} {v : V} (r : Rep K ρ H (.str b) v) : v = .str b := by cases r; rfl
/-- a comparison as a test -/
theorem sndT_cmp {op : CmpOp} {g : D → D → M D} (ho : OkOp X (compareOp op) g) (hm : behindInMarks op b = false) (ha : SndE X a ma) (hb : SndE X b mb) :
    SndT X (.Compare a [op] [b] pos) (fun env => M.bind (M.bind (ma env) fun x => M.bind (mb env) fun y => g x y) fun x => match x with | .bl b => fun st => .ok b st | _ => fun _ => .no) := by
  intro ρ st env σ H k st' S R e Q P
  obtain ⟨z, st3, e, e4⟩ := bind_ok e
  obtain ⟨x, st1, e1, e⟩ := bind_ok e
  obtain ⟨y, st2, e2, e3⟩ := bind_ok e
  cases z with
  | bl k' =>
    cases e4
    refine wt_of (pt_cmpR opr_max pe_we pe_we hm) (snd_two ha hb S R e1 e2 fun ρ' H' v w g' S' r1 r2 => ?_)
    obtain ⟨r, h1, h2⟩ := ho ρ' st2 H' x y v w _ _ S' r1 r2 e3
    exact ⟨r, h1, h2 _ fun ρ2 H2 u g2 S2 ru => ⟨k, rep_bl ru, P ρ2 H2 (g'.trans g2) S2⟩⟩
  | _ => cases e4
theorem snd_three (ha : SndE X a ma) (hb : SndE X b mb) {o1 : CmpOp} {g1 : D → D → M D} (ho : OkOp X (compareOp o1) g1) {ρ : List Addr} {st st1 st2 st3 : Store} {env : Env} {σ : L2.St} {H : Hp} {x y : D} {k : Bool} (S : Sim X.K ρ st H) (R : EnvR X.K ρ H env σ)
    (e1 : ma env st = .ok x st1) (e2 : mb env st1 = .ok y st2) (e3 : g1 x y st2 = .ok (.bl k) st3) {Q : V → V → V → Hp → Prop}
    (h : ∀ ρ' H' w, Grow ρ H ρ' H' → Sim X.K ρ' st3 H' → Rep X.K ρ' H' y w → ∀ v, Q v w (.bl k) H') :
    WE X a σ H fun v H1 => WE X b σ H1 fun w H2 => ∃ r, OpR X (compareOp o1) r ∧ r v w H2 fun z H3 => Q v w z H3 :=
  snd_two ha hb S R e1 e2 fun ρ' H' v w g' S' r1 r2 => by
    obtain ⟨r, h1, h2⟩ := ho ρ' st2 H' x y v w _ st3 S' r1 r2 e3
    refine ⟨r, h1, h2 _ fun ρ2 H2 u g2 S2 ru => ?_⟩
    cases ru
    exact h ρ2 H2 w (g'.trans g2) S2 (r2.grow g2) v
theorem chain_run {o1 o2 : CmpOp} {g1 g2 : D → D → M D} (ho : OkOp X (compareOp o1) g1) (ho2 : OkOp X (compareOp o2) g2) (ha : SndE X a ma) (hb : SndE X b mb) (hc : SndE X c mc) {ρ : List Addr} {st st' : Store} {env : Env} {σ : L2.St} {H : Hp} {d : D} (S : Sim X.K ρ st H) (R : EnvR X.K ρ H env σ)
    (e : (M.bind (ma env) fun x => M.bind (mb env) fun y => M.bind (g1 x y) fun r => match r with
    | .bl true => M.bind (mc env) fun z => g2 y z
    | .bl false => fun st => .ok (.bl false) st
    | _ => fun _ => .no) st = .ok d st') {Q : VK} (P : Post X.K ρ H st' d Q) :
    tChain (fun x y H Q => ∃ r, OpR X (compareOp o1) r ∧ r x y H Q) (fun x y H Q => ∃ r, OpR X (compareOp o2) r ∧ r x y H Q) (WE X a) (WE X b) (WE X c) σ H Q := by
  obtain ⟨x, st1, e1, e⟩ := bind_ok e
  obtain ⟨y, st2, e2, e⟩ := bind_ok e
  obtain ⟨z, st3, e3, e⟩ := bind_ok e
  cases z with
  | bl k =>
    refine snd_three ha hb ho S R e1 e2 e3 fun ρ' H' w g' S' rw' v => ⟨k, rfl, ?_⟩
    cases k with
    | true =>
      rw [if_pos rfl]
      obtain ⟨u, st4, e4, e5⟩ := bind_ok e
      refine hc ρ' st3 env σ H' u st4 S' (R.grow g') e4 _ fun ρ2 H2 t g2' S2 r2 => ?_
      obtain ⟨r, h1, h2⟩ := ho2 ρ2 st4 H2 y u w t d st' S2 (rw'.grow g2') r2 e5
      exact ⟨r, h1, h2 Q (P.grow (g'.trans g2'))⟩
    | false =>
      rw [if_neg (by decide)]
      cases e
      exact P ρ' H' _ g' S' (.bl false)
  | _ => cases e
theorem snd_chain {o1 o2 : CmpOp} {g1 g2 : D → D → M D} (ho : OkOp X (compareOp o1) g1) (ho2 : OkOp X (compareOp o2) g2) (hm2 : lastMarks [o1, o2] [b, c] = false) (ha : SndE X a ma) (hb : SndE X b mb) (hc : SndE X c mc) :
    SndE X (.Compare a [o1, o2] [b, c] pos) (fun env => M.bind (ma env) fun x => M.bind (mb env) fun y => M.bind (g1 x y) fun r => match r with
    | .bl true => M.bind (mc env) fun z => g2 y z
    | .bl false => fun st => .ok (.bl false) st
    | _ => fun _ => .no) := fun ρ st env σ H d st' S R e Q P => we_of (pe_chain opr_max opr_max pe_we pe_we pe_we hm2) (chain_run ho ho2 ha hb hc S R e P)
theorem sndT_chain {o1 o2 : CmpOp} {g1 g2 : D → D → M D} (ho : OkOp X (compareOp o1) g1) (ho2 : OkOp X (compareOp o2) g2) (hm2 : lastMarks [o1, o2] [b, c] = false) (ha : SndE X a ma) (hb : SndE X b mb) (hc : SndE X c mc) :
    SndT X (.Compare a [o1, o2] [b, c] pos) (fun env => M.bind (M.bind (ma env) fun x => M.bind (mb env) fun y => M.bind (g1 x y) fun r => match r with
    | .bl true => M.bind (mc env) fun z => g2 y z
    | .bl false => fun st => .ok (.bl false) st
    | _ => fun _ => .no) fun x => match x with | .bl b => fun st => .ok b st | _ => fun _ => .no) := by
  intro ρ st env σ H k st' S R e Q P
  obtain ⟨z, st3, e, e4⟩ := bind_ok e
  cases z with
  | bl k' =>
    cases e4
    exact wt_of (pt_chain opr_max opr_max pe_we pe_we pe_we hm2) (chain_run ho ho2 ha hb hc S R e fun ρ2 H2 u g2 S2 ru => ⟨k, rep_bl ru, P ρ2 H2 g2 S2⟩)
  | _ => cases e4
/-! and, or, not -/
def WTw (X : Cx) (e : Expr) (σ : L2.St) (H : Hp) (Q : Bool → Hp → Prop) : Prop := ∀ (whole : Sem Value) (pins : List (Addr × Obj)) (s : Shared), Inv X pins σ H s → wpAny (model X.prog X.w) X.A (isTrue e X.env whole) (TP X pins σ Q) X.xe s
theorem pw_wt {e : Expr} : PW X e (WTw X e) := ⟨fun whole pins s σ H Q I h => h whole pins s I⟩
theorem wtw_of {e : Expr} {t : TT} {σ : L2.St} {H : Hp} {Q : Bool → Hp → Prop} (p : PW X e t) (h : t σ H Q) : WTw X e σ H Q := fun whole pins s I => p.run whole pins s σ H Q I h
def SndW (X : Cx) (e : Expr) (m : Env → M Bool) : Prop := ∀ ρ st env σ H b st', Sim X.K ρ st H → EnvR X.K ρ H env σ → m env st = .ok b st' → ∀ Q, PostB X.K ρ H st' b Q → WTw X e σ H Q
theorem SndW.t {e : Expr} {m : Env → M Bool} (h : SndW X e m) : SndT X e m := fun ρ st env σ H b st' S R e Q P pins s I => h ρ st env σ H b st' S R e Q P _ pins s I
variable {ta tb : Env → M Bool} {rest : List Expr}
theorem PostB.grow {K : PySem.W.Frag} {ρ ρ1 : List Addr} {H H1 : Hp} {st : Store} {b : Bool} {Q : Bool → Hp → Prop} (p : PostB K ρ H st b Q) (g : Grow ρ H ρ1 H1) : PostB K ρ1 H1 st b Q := fun ρ' H' g' S => p ρ' H' (g.trans g') S
theorem sndW_one_and (h : SndT X a ta) : SndW X (.BoolOp .And [a] pos) ta := fun ρ st env σ H k st' S R e Q P => wtw_of (pw_and1 pt_wt) (h ρ st env σ H k st' S R e Q P)
theorem sndW_one_or (h : SndT X a ta) : SndW X (.BoolOp .Or [a] pos) ta := fun ρ st env σ H k st' S R e Q P => wtw_of (pw_or1 pt_wt) (h ρ st env σ H k st' S R e Q P)
theorem sndW_and (ha : SndT X a ta) (hb : SndW X (.BoolOp .And (b :: rest) pos) tb) : SndW X (.BoolOp .And (a :: b :: rest) pos) (fun env => M.bind (ta env) fun r => if r = true then tb env else fun st => .ok false st) := by
  intro ρ st env σ H k st' S R e Q P
  obtain ⟨r, st1, e1, e2⟩ := bind_ok e
  refine wtw_of (pw_and pt_wt pw_wt) (ha ρ st env σ H r st1 S R e1 _ fun ρ1 H1 g1 S1 => ?_)
  cases r with
  | true => rw [if_pos rfl] at e2 ⊢; exact hb ρ1 st1 env σ H1 k st' S1 (R.grow g1) e2 Q (P.grow g1)
  | false => rw [if_neg (by decide)] at e2 ⊢; cases e2; exact P ρ1 H1 g1 S1
theorem sndW_or (ha : SndT X a ta) (hb : SndW X (.BoolOp .Or (b :: rest) pos) tb) : SndW X (.BoolOp .Or (a :: b :: rest) pos) (fun env => M.bind (ta env) fun r => if r = true then fun st => .ok true st else tb env) := by
  intro ρ st env σ H k st' S R e Q P
  obtain ⟨r, st1, e1, e2⟩ := bind_ok e
  refine wtw_of (pw_or pt_wt pw_wt) (ha ρ st env σ H r st1 S R e1 _ fun ρ1 H1 g1 S1 => ?_)
  cases r with
  | true => rw [if_pos rfl] at e2 ⊢; cases e2; exact P ρ1 H1 g1 S1
  | false => rw [if_neg (by decide)] at e2 ⊢; exact hb ρ1 st1 env σ H1 k st' S1 (R.grow g1) e2 Q (P.grow g1)
theorem sndT_not (ha : SndT X a ta) : SndT X (.UnaryOp .Not a pos) (fun env => M.bind (ta env) fun r st => .ok (!r) st) := by
  intro ρ st env σ H k st' S R e Q P
  obtain ⟨r, st1, e1, e2⟩ := bind_ok e
  cases e2
  exact wt_of (pt_not pt_wt) (ha ρ st env σ H r _ S R e1 _ fun ρ1 H1 g1 S1 => P ρ1 H1 g1 S1)
theorem snd_one {op : BoolOp} (h : SndE X a ma) : SndE X (.BoolOp op [a] pos) ma := fun ρ st env σ H d st' S R e Q P => we_of (pe_one pe_we) (h ρ st env σ H d st' S R e Q P)
theorem snd_and (ha : SndE X a ma) (hb : SndE X (.BoolOp .And (b :: rest) pos) mb) : SndE X (.BoolOp .And (a :: b :: rest) pos) (fun env => M.bind (ma env) fun x => match x with
      | .bl true => mb env
      | .bl false => fun st => .ok (.bl false) st
      | _ => fun _ => .no) := by
  intro ρ st env σ H d st' S R e Q P
  obtain ⟨x, st1, e1, e2⟩ := bind_ok e
  cases x with
  | bl k =>
    refine we_of (pe_and pe_we pe_we) (ha ρ st env σ H _ st1 S R e1 _ fun ρ1 H1 v g1 S1 r1 => ⟨k, rep_bl r1, ?_⟩)
    cases k with
    | true => rw [if_pos rfl]; exact hb ρ1 st1 env σ H1 d st' S1 (R.grow g1) e2 Q (P.grow g1)
    | false => rw [if_neg (by decide)]; cases e2; exact P ρ1 H1 _ g1 S1 (.bl false)
  | _ => cases e2
theorem snd_or (ha : SndE X a ma) (hb : SndE X (.BoolOp .Or (b :: rest) pos) mb) : SndE X (.BoolOp .Or (a :: b :: rest) pos) (fun env => M.bind (ma env) fun x => match x with
      | .bl false => mb env
      | .bl true => fun st => .ok (.bl true) st
      | _ => fun _ => .no) := by
  intro ρ st env σ H d st' S R e Q P
  obtain ⟨x, st1, e1, e2⟩ := bind_ok e
  cases x with
  | bl k =>
    refine we_of (pe_or pe_we pe_we) (ha ρ st env σ H _ st1 S R e1 _ fun ρ1 H1 v g1 S1 r1 => ⟨k, rep_bl r1, ?_⟩)
    cases k with
    | false => rw [if_neg (by decide)]; exact hb ρ1 st1 env σ H1 d st' S1 (R.grow g1) e2 Q (P.grow g1)
    | true => rw [if_pos rfl]; cases e2; exact P ρ1 H1 _ g1 S1 (.bl true)
  | _ => cases e2
theorem snd_not (ha : SndE X a ma) : SndE X (.UnaryOp .Not a pos) (fun env => M.bind (ma env) fun x => match x with
      | .bl b => fun st => .ok (.bl (!b)) st
      | _ => fun _ => .no) := by
  intro ρ st env σ H d st' S R e Q P
  obtain ⟨x, st1, e1, e2⟩ := bind_ok e
  cases x with
  | bl k =>
    cases e2
    exact we_of (pe_not pe_we) (ha ρ st env σ H _ _ S R e1 _ fun ρ1 H1 v g1 S1 r1 => ⟨k, rep_bl r1, P ρ1 H1 _ g1 S1 (.bl _)⟩)
  | _ => cases e2
theorem snd_neg (ha : SndE X a ma) : SndE X (.UnaryOp .USub a pos) (fun env => M.bind (ma env) fun x => negD x) := by
  intro ρ st env σ H d st' S R e Q P
  obtain ⟨x, st1, e1, e2⟩ := bind_ok e
  cases x with
  | int k =>
    cases e2
    exact we_of (pe_un un_neg pe_we) (ha ρ st env σ H _ _ S R e1 _ fun ρ1 H1 v g1 S1 r1 => ⟨k, rep_int r1, P ρ1 H1 _ g1 S1 (.int _)⟩)
  | _ => cases e2
theorem snd_ite (hc : SndT X c tb) (ha : SndE X a ma) (hb : SndE X b mb) : SndE X (.IfExp c a b pos) (fun env => M.bind (tb env) fun r => if r = true then ma env else mb env) := by
  intro ρ st env σ H d st' S R e Q P
  obtain ⟨r, st1, e1, e2⟩ := bind_ok e
  refine we_of (pe_ifExp pt_wt pe_we pe_we) (hc ρ st env σ H r st1 S R e1 _ fun ρ1 H1 g1 S1 => ?_)
  cases r with
  | true => rw [if_pos rfl] at e2 ⊢; exact ha ρ1 st1 env σ H1 d st' S1 (R.grow g1) e2 Q (P.grow g1)
  | false => rw [if_neg (by decide)] at e2 ⊢; exact hb ρ1 st1 env σ H1 d st' S1 (R.grow g1) e2 Q (P.grow g1)
/-- truth of any value -/
theorem tru_rep {ρ : List Addr} {st st' : Store} {H : Hp} {x : D} {v : V} {k : Bool} (S : Sim X.K ρ st H) (r : Rep X.K ρ H x v) (e : truthD x st = .ok k st') : st' = st ∧ TruV X.K v H k := by
  cases r with
  | non => cases e; exact ⟨rfl, rfl⟩
  | bl b => cases e; exact ⟨rfl, rfl⟩
  | int i => cases e; exact ⟨rfl, rfl⟩
  | str z =>
    simp only [truthD] at e
    split at e
    · rename_i hl; cases e; exact ⟨rfl, by rw [big_eq]; exact hl, rfl⟩
    · cases e
  | tup h hs _ =>
    cases e
    refine ⟨rfl, .inr (.inl ⟨_, h, ?_⟩)⟩
    cases hs <;> rfl
  | fls h hs =>
    cases e
    refine ⟨rfl, .inl ⟨_, h.sq, ?_⟩⟩
    cases hs <;> rfl
  | ob h =>
    simp only [truthD] at e
    split at e
    · rename_i ys h1
      cases e
      obtain ⟨a, vs, e1, h2, h3⟩ := itemsL_rep S (.ob h) h1
      cases e1
      refine ⟨rfl, .inl ⟨vs, h2, ?_⟩⟩
      cases h3 <;> rfl
    · cases e
theorem sndT_plain (ha : SndE X a ma) (he : ∀ whole, isTrue a X.env whole = (do let v ← whole; standAt a.pos; holding [v] (truthy v))) : SndT X a (fun env => M.bind (ma env) fun x => truthD x) := by
  intro ρ st env σ H k st' S R e Q P
  obtain ⟨x, st1, e1, e2⟩ := bind_ok e
  refine wt_of (pt_truth pe_we he) (ha ρ st env σ H x st1 S R e1 _ fun ρ1 H1 v g1 S1 r1 => ?_)
  obtain ⟨h1, h2⟩ := tru_rep S1 r1 e2
  subst h1
  exact ⟨k, h2, P ρ1 H1 g1 S1⟩

/-! ### names, constants -/
theorem snd_var {i : Nat} {x : Str} (hN : X.N[i]? = some x) (hv : Vis X.env.scope x) (hd : (x == ("__debug__" : Str)) = false) (hcd : (x == ("__classdict__" : Str)) = false) :
    SndE X (.Name x pos) (fun env st => match env[i]? with | some (some d) => .ok d st | _ => .no) := by
  intro ρ st env σ H d st' S R e Q P
  dsimp only at e
  split at e
  · rename_i d' h1
    cases e
    obtain ⟨v, h2, r⟩ := R.at' i _ h1
    exact we_of (pe_var hN hv hd hcd) ⟨v, h2, P.self S r⟩
  · cases e
theorem snd_int {i : Int} {j : Nat} : SndE X (.Constant (.int i) j pos) (fun _ st => .ok (.int i) st) := by
  intro ρ st env σ H d st' S R e Q P
  cases e
  exact we_of pe_int (P.self S (.int i))
theorem snd_str {i : Str} {j : Nat} : SndE X (.Constant (.str i) j pos) (fun _ st => .ok (.str i) st) := by
  intro ρ st env σ H d st' S R e Q P
  cases e
  exact we_of pe_str (P.self S (.str i))
theorem snd_bl {i : Bool} {j : Nat} : SndE X (.Constant (.bool i) j pos) (fun _ st => .ok (.bl i) st) := by
  intro ρ st env σ H d st' S R e Q P
  cases e
  exact we_of pe_bl (P.self S (.bl i))
theorem snd_non {j : Nat} : SndE X (.Constant .none j pos) (fun _ st => .ok .non st) := by
  intro ρ st env σ H d st' S R e Q P
  cases e
  exact we_of pe_non (P.self S .non)
theorem snd_glob {x : Str} {d0 : D} {u : Value} {v : V} (hg : Gl X x) (hm : X.mg x = some u) (r : RelV v u) (hr : ∀ ρ H, Rep X.K ρ H d0 v) (hd : (x == ("__debug__" : Str)) = false) : SndE X (.Name x pos) (fun _ st => .ok d0 st) := by
  intro ρ st env σ H d st' S R e Q P
  cases e
  exact we_of (pe_glob hg hm r hd) (P.self S (hr ρ H))

/-! ### argument lists, displays -/
variable {es : List Expr} {ms : Env → M (List D)}
theorem sndA_nil : SndA X [] (fun _ st => .ok [] st) := by
  intro ρ st env σ H ds st' S R e Q P
  cases e
  exact wa_of pa_nil (P ρ H [] (Grow.refl _ _) S .nil)
theorem sndA_cons (ha : SndE X a ma) (hs : SndA X es ms) (hst : starEach (a :: es) X.env = (false, eval a X.env) :: starEach es X.env) : SndA X (a :: es) (fun env => M.bind (ma env) fun d => M.bind (ms env) fun ds st => .ok (d :: ds) st) := by
  intro ρ st env σ H ds st' S R e Q P
  obtain ⟨x, st1, e1, e2⟩ := bind_ok e
  obtain ⟨xs, st2, e2, e3⟩ := bind_ok e2
  cases e3
  exact wa_of (pa_cons pe_we pa_wa hst) (ha ρ st env σ H x st1 S R e1 _ fun ρ1 H1 v g1 S1 r1 => hs ρ1 st1 env σ H1 xs st' S1 (R.grow g1) e2 _ fun ρ2 H2 vs g2 S2 r2 => P ρ2 H2 _ (g1.trans g2) S2 (.cons (r1.grow g2) r2))
theorem snd_tup {k : Nat} (hs : SndA X es ms) : SndE X (.Tuple es k pos) (fun env => M.bind (ms env) fun ds st => if ds.length ≤ bigN then .ok (.tup ds) st else .no) := by
  intro ρ st env σ H d st' S R e Q P
  obtain ⟨xs, st1, e1, e2⟩ := bind_ok e
  split at e2
  · rename_i hl
    cases e2
    exact we_of (pe_tup pa_wa) (hs ρ st env σ H xs _ S R e1 _ fun ρ1 H1 vs g1 S1 r1 => ⟨by rw [big_eq, ← r1.length]; exact hl, fun p hp => (P.grow g1).tup S1 r1 hp⟩)
  · cases e2
theorem snd_lst (hs : SndA X es ms) : SndE X (.List es pos) (fun env => M.bind (ms env) fun ds st => if ds.length ≤ bigN then .ok (.ob st.length) (st ++ [.lst ds]) else .no) := by
  intro ρ st env σ H d st' S R e Q P
  obtain ⟨xs, st1, e1, e2⟩ := bind_ok e
  split at e2
  · rename_i hl
    cases e2
    exact we_of (pe_lst pa_wa) (hs ρ st env σ H xs _ S R e1 _ fun ρ1 H1 vs g1 S1 r1 => ⟨by rw [big_eq, ← r1.length]; exact hl, fun p hp => (P.grow g1).lst S1 r1 hp⟩)
  · cases e2
theorem Post.dct {K : PySem.W.Frag} {ρ : List Addr} {H : Hp} {st : Store} {kvs : List (D × D)} {ks : List (Key × V)} {Q : VK} {p : Addr} (P : Post K ρ H (st ++ [.dct kvs]) (.ob st.length) Q) (S : Sim K ρ st H) (r : KvK K ρ H kvs ks) (hp : H p = none) : Q (.ref p) (upd H p (.dK ks)) := by
  refine P (ρ ++ [p]) _ _ (grow_lay hp) (S.lay hp (.inl ⟨ks, upd_same, r.grow (grow_lay hp)⟩)) (.ob ?_)
  rw [List.getElem?_append_right (by rw [S.len]; exact Nat.le_refl _), S.len]
  simp
theorem snd_dict0 : SndE X (.Dict [] [] pos) (fun _ st => .ok (.ob st.length) (st ++ [.dct []])) := by
  intro ρ st env σ H d st' S R e Q P
  cases e
  exact we_of pe_dnewK fun p hp => P.dct S .nil hp

/-! ### subscripts, slices -/
theorem snd_idx (hu : X.A.units + 1 < cLine) (hs : PlainIx b) (ha : SndE X a ma) (hb : SndE X b mb) : SndE X (.Subscript a b pos) (fun env => M.bind (ma env) fun x => M.bind (mb env) fun y => ixD x y) := by
  intro ρ st env σ H d st' S R e Q P
  obtain ⟨x, st1, e1, e⟩ := bind_ok e
  obtain ⟨y, st2, e2, e3⟩ := bind_ok e
  cases hd : isDct st2 x with
  | false =>
    refine we_of (pe_ix ixr_max pe_we pe_we hs) (snd_two ha hb S R e1 e2 fun ρ' H' v w g' S' r1 r2 => ?_)
    obtain ⟨r, h1, h2⟩ := ok_ix (X := X) S' r1 r2 hd e3
    exact ⟨r, h1, h2 Q (P.grow g')⟩
  | true =>
    cases x with
    | ob j =>
      simp only [isDct] at hd
      split at hd
      · rename_i kvs h1
        simp only [ixD, h1] at e3
        split at e3
        · rename_i hk
          split at e3
          · rename_i d' hg
            cases e3
            refine we_of (pe_dgetD hu pe_we pe_we hs) (snd_two ha hb S R e1 e2 fun ρ' H' v w g' S' r1 r2 => ?_)
            cases r1 with
            | ob hx => exact ⟨ρ', kvs, y, _, _, V.non, rfl, S'.ob _ _ _ h1 hx, r2, hk, hg, fun z rz => (P.grow g').self S' rz, rfl⟩
          · cases e3
        · cases e3
      · cases hd
    | _ => simp only [isDct] at hd; cases hd
def SndO (X : Cx) (e : Option Expr) (m : Env → M (Option Int)) : Prop := ∀ ρ st env σ H o st', Sim X.K ρ st H → EnvR X.K ρ H env σ → m env st = .ok o st' → ∃ t, PO X e t ∧ ∀ Q : Option Int → Hp → Prop, (∀ ρ' H', Grow ρ H ρ' H' → Sim X.K ρ' st' H' → Q o H') → t σ H Q
theorem sndO_none : SndO X none (fun _ st => .ok none st) := by
  intro ρ st env σ H o st' S R e
  cases e
  exact ⟨_, po_none, fun Q h => h ρ H (Grow.refl _ _) S⟩
theorem sndO_some (ha : SndE X a ma) : SndO X (some a) (fun env => M.bind (ma env) fun d => match d with | .int i => fun st => .ok (some i) st | _ => fun _ => .no) := by
  intro ρ st env σ H o st' S R e
  obtain ⟨x, st1, e1, e2⟩ := bind_ok e
  cases x with
  | int k =>
    cases e2
    exact ⟨_, po_some pe_we, fun Q h => ha ρ st env σ H _ _ S R e1 _ fun ρ1 H1 v g1 S1 r1 => ⟨k, rep_int r1, h ρ1 H1 g1 S1⟩⟩
  | _ => cases e2
/-- the widest reading of an optional part -/
def WO (X : Cx) (e : Option Expr) : TO := fun σ H Q => ∃ t, PO X e t ∧ t σ H Q
theorem po_wo {e : Option Expr} : PO X e (WO X e) := by
  constructor
  intros
  rename_i h
  obtain ⟨t, h1, h2⟩ := h
  first | exact h1.run _ _ _ _ _ (by assumption) h2 | (apply h1.run <;> assumption)
theorem snd_sl {lo hi : Option Expr} {ml mh : Env → M (Option Int)} {p2 : Pos} (ha : SndE X a ma) (hl : SndO X lo ml) (hh : SndO X hi mh) : SndE X (.Subscript a (.Slice lo hi none p2) pos) (fun env => M.bind (ma env) fun x => M.bind (ml env) fun l => M.bind (mh env) fun h => slD x l h) := by
  intro ρ st env σ H d st' S R e Q P
  obtain ⟨x, st1, e1, e⟩ := bind_ok e
  obtain ⟨l, st2, e2, e⟩ := bind_ok e
  obtain ⟨h, st3, e3, e4⟩ := bind_ok e
  refine we_of (pe_slice slr_max pe_we po_wo po_wo) (ha ρ st env σ H x st1 S R e1 _ fun ρ1 H1 v g1 S1 r1 => ?_)
  obtain ⟨t2, q2, k2⟩ := hl ρ1 st1 env σ H1 l st2 S1 (R.grow g1) e2
  refine ⟨t2, q2, k2 _ fun ρ2 H2 g2 S2 => ?_⟩
  obtain ⟨t3, q3, k3⟩ := hh ρ2 st2 env σ H2 h st3 S2 (R.grow (g1.trans g2)) e3
  refine ⟨t3, q3, k3 _ fun ρ3 H3 g3 S3 => ?_⟩
  obtain ⟨r, h1, h2⟩ := ok_sl (X := X) S3 (r1.grow (g2.trans g3)) e4
  exact ⟨r, h1, h2 Q (P.grow ((g1.trans g2).trans g3))⟩
end
end W9

/-! W9l: calls, methods, sources of loops, targets -/
namespace W9
open PySem L2
section
variable {X : Cx} {e : Expr} {es : List Expr} {ms : Env → M (List D)} {p pos : Pos} {x : Str}
theorem snd_call {k n : Nat} {g : List D → M D} (cal : Callee X.prog X.w X.K X.mg X.base k x n g) (room : Room k X.A) (gd : X.A.guards = some []) (gl : Gl X x) (hdb : (x == ("__debug__" : Str)) = false) (he : starEach (e :: es) X.env = (false, eval e X.env) :: starEach es X.env)
    (hpl : (backTo pos (starEach es X.env)).any (·.1) = false) (hs : SndA X (e :: es) ms) (hlen : ∀ env st ds st', ms env st = .ok ds st' → ds.length = n) : SndE X (.Call (.Name x p) (e :: es) [] pos) (fun env => M.bind (ms env) fun ds => g ds) := by
  intro ρ st env σ H d st' S R e Q P
  obtain ⟨ds, st1, e1, e2⟩ := bind_ok e
  obtain ⟨f, fd, ps, F, hm, hk, hb⟩ := cal.ex
  exact we_of (pe_callG F room gd gl hm hk hb pa_wa hdb he hpl) (hs ρ st env σ H ds st1 S R e1 _ fun ρ1 H1 vs g1 S1 r1 => ⟨ρ1, st1, ds, d, st', hlen _ _ _ _ e1, S1, r1, e2, P.grow g1⟩)
theorem boot_bi : ∀ b : Bi, bootBuiltins b.name = some b.val := by
  intro b
  cases b <;> decide +kernel
theorem bi_name1 : ∀ b : Bi, b.name ≠ "__name__" := by intro b; cases b <;> decide +kernel
theorem bi_name2 : ∀ b : Bi, (b.name == ("__debug__" : Str)) = false := by intro b; cases b <;> decide +kernel
theorem snd_bi {b : Bi} (hc : X.calm = true) (gd : X.A.guards = some []) (hu : X.A.units + 65 < cLine) (gl : Gl X b.name) (hm : X.mg b.name = none) (he : starEach (e :: es) X.env = (false, eval e X.env) :: starEach es X.env)
    (hpl : (backTo pos (starEach es X.env)).any (·.1) = false) (hs : SndA X (e :: es) ms) : SndE X (.Call (.Name b.name p) (e :: es) [] pos) (fun env => M.bind (ms env) fun ds => biD b ds) := by
  intro ρ st env σ H d st' S R e Q P
  obtain ⟨ds, st1, e1, e2⟩ := bind_ok e
  have hv := boot_bi b
  have key : WA X (_ :: es) σ H fun vs H1 => ∃ r, CallR X b.val r ∧ r vs H1 Q := hs ρ st env σ H ds st1 S R e1 _ fun ρ1 H1 vs g1 S1 r1 => by
    obtain ⟨r, h1, h2⟩ := ok_bi hc gd hu b ρ1 st1 H1 ds vs d st' S1 r1 e2
    exact ⟨r, h1, h2 Q (P.grow g1)⟩
  cases hb : b.val with
  | builtin id => rw [hb] at hv key; exact we_of (pe_callB callr_max gl hm hv pa_wa (bi_name1 b) (bi_name2 b) he hpl) key
  | type T => rw [hb] at hv key; exact we_of (pe_callTy callr_max gl hm hv pa_wa (bi_name1 b) (bi_name2 b) he hpl) key
  | _ => cases b <;> cases hb
/-! methods of built-in things -/
def Ty.str : Ty → String
  | .list => "list"
  | .dict => "dict"
def meOk : Me → Ty → Bool
  | .append, .list => true
  | .extend, .list => true
  | .get, .dict => true
  | .setdefault, .dict => true
  | _, _ => false
theorem me_ok {m : Me} {T : Ty} {x d : D} {ds : List D} {st st' : Store} (h : meD m T x ds st = .ok d st') : meOk m T = true := by
  cases m <;> cases T <;> first | rfl | (simp only [meD] at h; cases h)
theorem ty_rep {ρ : List Addr} {st : Store} {H : Hp} {x : D} {v : V} {T : Ty} (S : Sim X.K ρ st H) (r : Rep X.K ρ H x v) (h : tyD st x = some T) : tyV X.K T.str v H := by
  cases r with
  | ob hx =>
    simp only [tyD] at h
    split at h
    · rename_i xs h1
      cases h
      obtain ⟨vs, h2, _⟩ := S.ob _ _ _ h1 hx
      exact .inl ⟨rfl, vs, SqL.of h2⟩
    · rename_i kvs h1
      cases h
      rcases S.ob _ _ _ h1 hx with ⟨ks, h2, _⟩ | ⟨ks, h2, _⟩
      · exact .inr (.inr (.inl ⟨rfl, .inl ⟨ks, h2⟩⟩))
      · exact .inr (.inr (.inl ⟨rfl, .inr ⟨ks, h2⟩⟩))
    · cases h
  | _ => simp only [tyD] at h; cases h
theorem snd_meth {m : Me} {o : Expr} {mo : Env → M D} {apos : Pos} (hu : X.A.units + 1 < cLine) (hbase : attributeBase o m.name X.env (eval o X.env) = eval o X.env)
    (hfew : ((backTo pos (starEach (e :: es) X.env)).all (fun x => !x.1) && (backToKw pos (keywordEach [] X.env)).all (fun x => x.1.isSome) && decide ((e :: es).length + ([] : List Keyword).length + (if ([] : List Keyword).isEmpty then 0 else 1) < 30)) = true)
    (hline : (apos.endLine == pos.line) = true) (he : starEach (e :: es) X.env = (false, eval e X.env) :: starEach es X.env) (hpl : (backTo pos (starEach es X.env)).any (·.1) = false) (ho : SndE X o mo) (hs : SndA X (e :: es) ms) :
    SndE X (.Call (.Attribute o m.name apos) (e :: es) [] pos) (fun env => M.bind (mo env) fun x st => match tyD st x with
    | some T => M.bind (ms env) (fun ds => meD m T x ds) st
    | none => .no) := by
  intro ρ st env σ H d st' S R eq Q P
  obtain ⟨x, st1, e1, e2⟩ := bind_ok eq
  split at e2
  · rename_i T hT
    obtain ⟨ds, st2, e2, e3⟩ := bind_ok e2
    have go : ∀ {name : Str} {id : String}, PlainAttrs T.str → Slot T.str name id → typeOf (.builtin id) = pure (.type "method_descriptor") → name = m.name → id = m.id T → WE X (.Call (.Attribute o m.name apos) (e :: es) [] pos) σ H Q := by
      intro name id pa sl ty hn hi
      subst hn hi
      refine we_of (pe_bm pa sl ty mtr_max pe_we pa_wa hbase hfew hline he hpl) (ho ρ st env σ H x st1 S R e1 _ fun ρ1 H1 v g1 S1 r1 => ⟨ty_rep S1 r1 hT, ?_⟩)
      refine hs ρ1 st1 env σ H1 ds st2 S1 (R.grow g1) e2 _ fun ρ2 H2 vs g2 S2 r2 => ?_
      obtain ⟨r, h1, h2⟩ := ok_me hu m T ρ2 st2 H2 x ds v vs d st' S2 (r1.grow g2) r2 e3
      exact ⟨r, h1, h2 Q (P.grow (g1.trans g2))⟩
    have hok := me_ok e3
    cases m <;> cases T <;> first
      | (cases hok; done)
      | exact go PySem.F.plainAttrs_list PySem.F.slot_list_append PySem.F.type_list_append rfl rfl
      | exact go PySem.F.plainAttrs_list PySem.F.slot_list_extend PySem.F.type_list_extend rfl rfl
      | exact go PySem.F.plainAttrs_dict PySem.F.slot_dict_get PySem.F.type_dict_get rfl rfl
      | exact go PySem.F.plainAttrs_dict PySem.F.slot_dict_setdefault PySem.F.type_dict_setdefault rfl rfl
  · cases e2
end

/-! ### sources of loops -/
/-- the walk that a source makes -/
structure Wk (K : PySem.W.Frag) (ρ : List Addr) (H : Hp) (items : List D) (gd : Option (Nat × List D)) (J : It) : Prop where
  ex : ∃ G Y, Walk J items.length G Y ∧ (∀ ρ2 H2 st2, Grow ρ H ρ2 H2 → Sim K ρ2 st2 H2 → gdOk st2 gd = true → G H2) ∧
    ∀ (i : Nat) ρ2 H2 st2 x H3, Grow ρ H ρ2 H2 → Sim K ρ2 st2 H2 → gdOk st2 gd = true → i < items.length → Y i H2 x H3 → Grow ρ2 H2 ρ2 H3 ∧ Sim K ρ2 st2 H3 ∧ ∃ d, items[i]? = some d ∧ Rep K ρ2 H3 d x
def SndI (X : Cx) (tg iter : Expr) (m : Env → M (List D × Option (Nat × List D))) : Prop := ∀ ρ st env σ H p st', Sim X.K ρ st H → EnvR X.K ρ H env σ → m env st = .ok p st' →
  ∃ wi, PI X tg iter wi ∧ ∀ R : It → Hp → Prop, (∀ ρ' H' J, Grow ρ H ρ' H' → Sim X.K ρ' st' H' → Wk X.K ρ' H' p.1 p.2 J → R J H') → wi σ H R
section
variable {K : PySem.W.Frag} {ρ : List Addr} {H : Hp}
theorem wk_tup {a : Addr} {ds : List D} {vs : List V} (h : SqT K H a vs) (hs : Reps K ρ H ds vs) : Wk K ρ H ds none (Itt K a) := by
  refine ⟨_, _, by rw [hs.length]; exact walk_tup (K := K) (a := a) (xs := vs), fun ρ2 H2 st2 g S _ => g.sqt h, fun i ρ2 H2 st2 x H3 g S _ hi y => ?_⟩
  obtain ⟨rfl, y⟩ := y
  obtain ⟨d, h1, h2⟩ := hs.get' y
  exact ⟨Grow.refl _ _, S, d, h1, h2.grow g⟩
theorem wk_fls {a : Addr} {ds : List D} {vs : List V} (h : SqF K H a vs) (hs : Reps K ρ H ds vs) : Wk K ρ H ds none (Itl K a) := by
  refine ⟨_, _, by rw [hs.length]; exact walk_list (K := K) (a := a) (xs := vs), fun ρ2 H2 st2 g S _ => (g.sqf h).sq, fun i ρ2 H2 st2 x H3 g S _ hi y => ?_⟩
  obtain ⟨rfl, y⟩ := y
  obtain ⟨d, h1, h2⟩ := hs.get' y
  exact ⟨Grow.refl _ _, S, d, h1, h2.grow g⟩
theorem walk_len {a : Addr} {n : Nat} : Walk (Itl K a) n (fun H => ∃ vs, SqL K H a vs ∧ vs.length = n) (fun i H x H' => H' = H ∧ ∀ vs, SqL K H a vs → vs[i]? = some x) :=
  ⟨fun i H hi ⟨vs, h, hl⟩ => ⟨vs, vs[i]'(by omega), h, by simp⟩, fun H ⟨vs, h, hl⟩ => ⟨vs, h, by omega⟩, fun i H x H' _ _ y => y⟩
theorem wk_lst {a : Addr} {j : Nat} {ds : List D} (hj : ρ[j]? = some a) : Wk K ρ H ds (some (j, ds)) (Itl K a) := by
  have look : ∀ {ρ2 : List Addr} {H2 : Hp} {st2 : Store}, Grow ρ H ρ2 H2 → Sim K ρ2 st2 H2 → gdOk st2 (some (j, ds)) = true → ∃ vs, SqL K H2 a vs ∧ Reps K ρ2 H2 ds vs := fun {ρ2 H2 st2} g S h => by
    obtain ⟨vs, h1, h2⟩ := S.ob j _ a (of_decide_eq_true h) (g.ix hj)
    exact ⟨vs, SqL.of h1, h2⟩
  refine ⟨_, _, walk_len, fun ρ2 H2 st2 g S h => ?_, fun i ρ2 H2 st2 x H3 g S h hi y => ?_⟩
  · obtain ⟨vs, h1, h2⟩ := look g S h
    exact ⟨vs, h1, h2.length.symm⟩
  · obtain ⟨rfl, y⟩ := y
    obtain ⟨vs, h1, h2⟩ := look g S h
    obtain ⟨d, h3, h4⟩ := h2.get' (y vs h1)
    exact ⟨Grow.refl _ _, S, d, h3, h4⟩
theorem wk_str {z : Str} : Wk K ρ H (z.cps.toList.map fun c => D.str ⟨#[c]⟩) none (Its z) := by
  refine ⟨_, _, by simpa using walk_str (z := z), fun _ _ _ _ _ _ => trivial, fun i ρ2 H2 st2 x H3 g S _ hi y => ?_⟩
  obtain ⟨rfl, c, h1, rfl⟩ := y
  refine ⟨Grow.refl _ _, S, .str ⟨#[c]⟩, ?_, .str _⟩
  rw [List.getElem?_map, Array.getElem?_toList, h1]
  rfl
theorem rngI_get {lo hi : Int} {i : Nat} (h : i < (rngI lo hi).length) : (rngI lo hi)[i]? = some (.int (lo + (i : Nat))) := by
  unfold rngI at h ⊢
  rw [List.length_map, List.length_range] at h
  rw [List.getElem?_map, List.getElem?_range h]
  rfl
theorem wk_rng {lo hi : Int} : Wk K ρ H (rngI lo hi) none (Itr lo (hi - lo).toNat) := by
  have hl : (rngI lo hi).length = (hi - lo).toNat := by unfold rngI; simp
  refine ⟨_, _, by rw [hl]; exact walk_range, fun _ _ _ _ _ _ => trivial, fun i ρ2 H2 st2 x H3 g S _ hi' y => ?_⟩
  obtain ⟨rfl, rfl⟩ := y
  exact ⟨Grow.refl _ _, S, _, rngI_get hi', .int _⟩
theorem pairs_len : ∀ (l : List D) (n : Nat), (pairs n l).length = l.length
  | [], _ => rfl
  | _ :: r, n => congrArg (· + 1) (pairs_len r (n + 1))
theorem pairs_get : ∀ (l : List D) (n i : Nat), (pairs n l)[i]? = (l[i]?).map fun d => .tup [.int ((n + i : Nat) : Int), d]
  | [], _, _ => by simp [pairs]
  | d :: r, n, 0 => by simp [pairs]
  | d :: r, n, i + 1 => by
    have := pairs_get r (n + 1) i
    simp only [pairs, List.getElem?_cons_succ, this]
    congr 2
    funext z
    congr 4
    omega
theorem rep_pair {ρ2 : List Addr} {H2 : Hp} {st2 : Store} {T : Addr} {i : Nat} {d : D} {v : V} (S : Sim K ρ2 st2 H2) (hT : H2 T = none) (r : Rep K ρ2 H2 d v) : Grow ρ2 H2 ρ2 (upd H2 T (.tup [.int (i : Nat), v])) ∧ Sim K ρ2 st2 (upd H2 T (.tup [.int (i : Nat), v])) ∧
    Rep K ρ2 (upd H2 T (.tup [.int (i : Nat), v])) (.tup [.int (i : Nat), d]) (.ref T) :=
  ⟨grow_new hT, S.new hT, .tup (.inl (.inl upd_same)) (.cons (.int _) (.cons (r.grow (grow_new hT)) .nil)) (.inl upd_same)⟩
theorem walk_enumL {a : Addr} {n : Nat} : Walk (Ite K a) n (fun H => ∃ vs, SqL K H a vs ∧ vs.length = n) (fun i H v H' => ∃ T x, v = .ref T ∧ H T = none ∧ H' = upd H T (.tup [.int (i : Nat), x]) ∧ ∀ xs, SqL K H a xs → xs[i]? = some x) :=
  ⟨fun i H hi ⟨vs, h, hl⟩ => ⟨vs, vs[i]'(by omega), h, by simp⟩, fun H ⟨vs, h, hl⟩ => ⟨vs, h, by omega⟩, fun i H x H' _ _ y => y⟩
theorem wk_enumL {a : Addr} {ds : List D} {gd : Option (Nat × List D)} (look : ∀ {ρ2 : List Addr} {H2 : Hp} {st2 : Store}, Grow ρ H ρ2 H2 → Sim K ρ2 st2 H2 → gdOk st2 gd = true → ∃ vs, SqL K H2 a vs ∧ Reps K ρ2 H2 ds vs) : Wk K ρ H (pairs 0 ds) gd (Ite K a) := by
  refine ⟨_, _, by rw [pairs_len]; exact walk_enumL, fun ρ2 H2 st2 g S h => ?_, fun i ρ2 H2 st2 x H3 g S h hi y => ?_⟩
  · obtain ⟨vs, h1, h2⟩ := look g S h
    exact ⟨vs, h1, h2.length.symm⟩
  · obtain ⟨T, v, rfl, hT, rfl, y⟩ := y
    obtain ⟨vs, h1, h2⟩ := look g S h
    obtain ⟨d, h3, h4⟩ := h2.get' (y vs h1)
    obtain ⟨q1, q2, q3⟩ := rep_pair (i := i) S hT h4
    refine ⟨q1, q2, _, ?_, q3⟩
    rw [pairs_get, h3]
    simp
theorem wk_enumS {z : Str} : Wk K ρ H (pairs 0 (z.cps.toList.map fun c => D.str ⟨#[c]⟩)) none (Itx z.cps.size fun i v => ∃ c, z.cps[i]? = some c ∧ v = .str ⟨#[c]⟩) := by
  have hl : (pairs 0 (z.cps.toList.map fun c => D.str ⟨#[c]⟩)).length = z.cps.size := by rw [pairs_len]; simp
  refine ⟨fun _ => True, fun i H v H' => ∃ T x, v = .ref T ∧ H T = none ∧ H' = upd H T (.tup [.int (i : Nat), x]) ∧ ∃ c, z.cps[i]? = some c ∧ x = .str ⟨#[c]⟩, ?_, fun _ _ _ _ _ _ => trivial, fun i ρ2 H2 st2 x H3 g S _ hi y => ?_⟩
  · rw [hl]
    exact ⟨fun i H hi _ => hi, fun H _ => Nat.le_refl _, fun i H x H' _ _ y => y⟩
  · obtain ⟨T, v, rfl, hT, rfl, c, h1, rfl⟩ := y
    obtain ⟨q1, q2, q3⟩ := rep_pair (i := i) S hT (.str (K := K) (ρ := ρ2) (H := H2) ⟨#[c]⟩)
    refine ⟨q1, q2, _, ?_, q3⟩
    rw [pairs_get, List.getElem?_map, Array.getElem?_toList, h1]
    simp
end
section
variable {X : Cx} {tg a b : Expr} {ma mb : Env → M D} {p pos : Pos}
theorem sndI_seq (ha : SndE X a ma) : SndI X tg a (fun env => M.bind (ma env) fun x => seqS x) := by
  intro ρ st env σ H pr st' S R e
  obtain ⟨x, st1, e1, e2⟩ := bind_ok e
  unfold seqS at e2
  split at e2
  · cases e2
    refine ⟨_, pi_tup pe_we, fun R' h => ha ρ st env σ H _ _ S R e1 _ fun ρ1 H1 v g1 S1 r1 => ?_⟩
    obtain ⟨ad, vs, rfl, h1, h2⟩ := rep_tup r1
    exact ⟨ad, rfl, ⟨vs, h1⟩, h ρ1 H1 _ g1 S1 (wk_tup h1 h2)⟩
  · cases e2
    refine ⟨_, pi_list pe_we, fun R' h => ha ρ st env σ H _ _ S R e1 _ fun ρ1 H1 v g1 S1 r1 => ?_⟩
    cases r1 with
    | fls h1 h2 => exact ⟨_, rfl, ⟨_, h1.sq⟩, h ρ1 H1 _ g1 S1 (wk_fls h1 h2)⟩
  · cases e2
    refine ⟨_, pi_str pe_we, fun R' h => ha ρ st env σ H _ _ S R e1 _ fun ρ1 H1 v g1 S1 r1 => ?_⟩
    cases r1
    exact ⟨_, rfl, h ρ1 H1 _ g1 S1 wk_str⟩
  · split at e2
    · rename_i xs hj
      cases e2
      refine ⟨_, pi_list pe_we, fun R' h => ha ρ st env σ H _ _ S R e1 _ fun ρ1 H1 v g1 S1 r1 => ?_⟩
      cases r1 with
      | ob hx =>
        obtain ⟨vs, h1, h2⟩ := S1.ob _ _ _ hj hx
        exact ⟨_, rfl, ⟨vs, SqL.of h1⟩, h ρ1 H1 _ g1 S1 (wk_lst hx)⟩
    · cases e2
  · cases e2
theorem rng_ok {i : Int} (h : rngOk i = true) : -(2 ^ 62) ≤ i ∧ i < 2 ^ 62 := by
  unfold rngOk at h
  rw [Bool.and_eq_true] at h
  exact ⟨of_decide_eq_true h.1, of_decide_eq_true h.2⟩
theorem sndI_rng1 (hg : Gl X "range") (hm : X.mg "range" = none) (hs : starEach [a] X.env = [(false, eval a X.env)]) (ha : SndE X a ma) : SndI X tg (.Call (.Name "range" p) [a] [] pos) (fun env => M.bind (ma env) fun x => match x with
    | .int n => fun st => if rngOk n = true then .ok (rngI 0 n, none) st else .no
    | _ => fun _ => .no) := by
  intro ρ st env σ H pr st' S R e
  obtain ⟨x, st1, e1, e2⟩ := bind_ok e
  cases x with
  | int n =>
    dsimp only at e2
    split at e2
    · rename_i hr
      cases e2
      obtain ⟨h1, h2⟩ := rng_ok hr
      refine ⟨_, pi_range1 hg hm (pa_cons pe_we pa_nil hs) hs, fun R' h => ha ρ st env σ H _ _ S R e1 _ fun ρ1 H1 v g1 S1 r1 => ?_⟩
      cases r1
      have w := wk_rng (K := X.K) (ρ := ρ1) (H := H1) (lo := 0) (hi := n)
      rw [Int.sub_zero] at w
      exact ⟨n, rfl, h1, h2, h ρ1 H1 _ g1 S1 w⟩
    · cases e2
  | _ => cases e2
theorem sndI_rng2 (hg : Gl X "range") (hm : X.mg "range" = none) (hs : starEach [a, b] X.env = [(false, eval a X.env), (false, eval b X.env)]) (hs2 : starEach [b] X.env = [(false, eval b X.env)]) (ha : SndE X a ma) (hb : SndE X b mb) :
    SndI X tg (.Call (.Name "range" p) [a, b] [] pos) (fun env => M.bind (ma env) fun x => M.bind (mb env) fun y => match x, y with
    | .int l, .int h => fun st => if rngOk l = true ∧ rngOk h = true then .ok (rngI l h, none) st else .no
    | _, _ => fun _ => .no) := by
  intro ρ st env σ H pr st' S R e
  obtain ⟨x, st1, e1, e2⟩ := bind_ok e
  obtain ⟨y, st2, e2', e3⟩ := bind_ok e2
  clear e2 e
  split at e3
  · rename_i l h
    split at e3
    · rename_i hr
      cases e3
      obtain ⟨h1, h2⟩ := rng_ok hr.1
      obtain ⟨h3, h4⟩ := rng_ok hr.2
      refine ⟨_, pi_range2 hg hm (pa_cons pe_we (pa_cons pe_we pa_nil hs2) (by rw [hs, hs2])) hs hs2, fun R' hR => snd_two ha hb S R e1 e2' fun ρ' H' v w g' S' r1 r2 => ?_⟩
      cases r1; cases r2
      exact ⟨l, h, rfl, ⟨h1, h2, h3, h4⟩, hR ρ' H' _ g' S' wk_rng⟩
    · cases e3
  · cases e3
theorem sndI_enum {elts : List Expr} {kk : Nat} {tpos : Pos} (hg : Gl X "enumerate") (hm : X.mg "enumerate" = none) (hs : starEach [a] X.env = [(false, eval a X.env)]) (ha : SndE X a ma) :
    SndI X (.Tuple elts kk tpos) (.Call (.Name "enumerate" p) [a] [] pos) (fun env => M.bind (ma env) fun x => enumS x) := by
  intro ρ st env σ H pr st' S R e
  obtain ⟨x, st1, e1, e2⟩ := bind_ok e
  unfold enumS at e2
  split at e2
  · cases e2
    refine ⟨_, pi_enum hg hm (pa_cons pe_we pa_nil hs) hs, fun R' h => ha ρ st env σ H _ _ S R e1 _ fun ρ1 H1 v g1 S1 r1 => ?_⟩
    cases r1 with
    | fls h1 h2 => exact ⟨_, _, rfl, h1.sq, h ρ1 H1 _ g1 S1 (wk_enumL fun g S _ => ⟨_, (g.sqf h1).sq, h2.grow g⟩)⟩
  · cases e2
    refine ⟨_, pi_enumS hg hm (pa_cons pe_we pa_nil hs) hs, fun R' h => ha ρ st env σ H _ _ S R e1 _ fun ρ1 H1 v g1 S1 r1 => ?_⟩
    cases r1
    exact ⟨_, rfl, h ρ1 H1 _ g1 S1 wk_enumS⟩
  · split at e2
    · rename_i xs hj
      cases e2
      refine ⟨_, pi_enum hg hm (pa_cons pe_we pa_nil hs) hs, fun R' h => ha ρ st env σ H _ _ S R e1 _ fun ρ1 H1 v g1 S1 r1 => ?_⟩
      cases r1 with
      | ob hx =>
        obtain ⟨vs, h1, h2⟩ := S1.ob _ _ _ hj hx
        refine ⟨_, vs, rfl, SqL.of h1, h ρ1 H1 _ g1 S1 (wk_enumL fun {ρ2 H2 st2} g S hgd => ?_)⟩
        obtain ⟨vs', h3, h4⟩ := S.ob _ _ _ (of_decide_eq_true hgd) (g.ix hx)
        exact ⟨vs', SqL.of h3, h4⟩
    · cases e2
  · cases e2
end
end W9

/-! W9m: targets, loops, comprehensions, statements -/
namespace W9
open PySem L2
def WG (X : Cx) (tg : Expr) : TG := fun v σ H Q => ∀ (pins : List (Addr × Obj)) (s : Shared) (u : Value), Inv X pins σ H s → RelV v u → wpAny (model X.prog X.w) X.A (assign tg X.env u) (fun _ s' => ∃ σ' H', Inv X pins σ' H' s' ∧ Q σ' H') X.xe s
theorem pg_wg {X : Cx} {tg : Expr} : PG X tg (WG X tg) := ⟨fun pins s σ H v u Q I r h => h pins s u I r⟩
theorem wg_of {X : Cx} {tg : Expr} {t : TG} {v : V} {σ : L2.St} {H : Hp} {Q : L2.St → Hp → Prop} (p : PG X tg t) (h : t v σ H Q) : WG X tg v σ H Q := fun pins s u I r => p.run pins s σ H v u Q I r h
def Tg.slots : Tg → List Nat
  | .name i => [i]
  | .tup is => is
def SndG (X : Cx) (tg : Expr) (t : Tg) : Prop := ∀ ρ st env σ H d v env', Sim X.K ρ st H → EnvR X.K ρ H env σ → Rep X.K ρ H d v → bindT t d env st = some env' → ∀ Q : L2.St → Hp → Prop,
  (∀ σ', EnvR X.K ρ H env' σ' → (∀ vs : List Nat, (∀ i ∈ t.slots, i ∈ vs) → wipe σ' vs = wipe σ vs) → Q σ' H) → WG X tg v σ H Q
theorem wipe_at {σ : L2.St} {j : Nat} (hj : j < σ.length) : ∀ {vs : List Nat}, j ∈ vs → (wipe σ vs)[j]? = some none
  | [], h => absurd h (by simp)
  | v :: vs, h => by
    unfold wipe
    by_cases e : v = j
    · subst e
      rw [List.getElem?_set_self (by rw [wipe_length]; exact hj)]
    · rw [List.getElem?_set_ne e]
      rcases List.mem_cons.mp h with h | h
      · exact absurd h.symm e
      · exact wipe_at hj h
theorem wipe_set {σ : L2.St} {i : Nat} {x : Option V} {vs : List Nat} (hi : i ∈ vs) : wipe (σ.set i x) vs = wipe σ vs := by
  apply List.ext_getElem?
  intro j
  by_cases hj : j < σ.length
  · by_cases hv : j ∈ vs
    · rw [wipe_at (by simpa using hj) hv, wipe_at hj hv]
    · rw [wipe_out hv, wipe_out hv, List.getElem?_set_ne (fun e => hv (by rw [← e]; exact hi))]
  · rw [List.getElem?_eq_none (by rw [wipe_length]; simpa using hj), List.getElem?_eq_none (by rw [wipe_length]; simpa using hj)]
section
variable {X : Cx} {pos : Pos}
theorem sndG_name {i : Nat} {x : Str} (hN : X.N.Nodup) (hi : X.N[i]? = some x) (hx : Loc X.env.scope x) (hf : X.fn x = true ∨ X.env.scope.names.lookup x = some .local) : SndG X (.Name x pos) (.name i) := by
  intro ρ st env σ H d v env' S R r e Q h
  simp only [bindT] at e
  cases e
  exact wg_of (pg_name hN hi hx hf) (h _ (R.set r i) fun vs hv => wipe_set (hv i (by simp [Tg.slots])))
/-- names one after another -/
def gNames : List Nat → TGs
  | [] => gNil
  | i :: is => gCons (gName i) (gNames is)
def nameOk (X : Cx) (e : Expr) (i : Nat) : Prop := ∃ x p, e = .Name x p ∧ X.N[i]? = some x ∧ Loc X.env.scope x ∧ (X.fn x = true ∨ X.env.scope.names.lookup x = some .local)
inductive Nms (X : Cx) : List Expr → List Nat → Prop
  | nil : Nms X [] []
  | cons {e : Expr} {es : List Expr} {i : Nat} {is : List Nat} : nameOk X e i → Nms X es is → Nms X (e :: es) (i :: is)
theorem pgs_names (hN : X.N.Nodup) : ∀ {es : List Expr} {is : List Nat}, Nms X es is → PGs X es (gNames is)
  | _, _, .nil => pgs_nil
  | _, _, .cons (es := es) h t => by
    obtain ⟨x, p, rfl, h1, h2, h3⟩ := h
    exact pgs_cons (pg_name hN h1 h2 h3) (pgs_names hN t) rfl
theorem nms_len : ∀ {es : List Expr} {is : List Nat}, Nms X es is → (assignEach es X.env).length = is.length ∧ (assignEach es X.env).findIdx? (·.1) = none ∧ es.length = is.length
  | _, _, .nil => ⟨rfl, rfl, rfl⟩
  | _, _, .cons h t => by
    obtain ⟨x, p, rfl, _⟩ := h
    obtain ⟨h1, h2, h3⟩ := nms_len t
    refine ⟨congrArg (· + 1) h1, ?_, congrArg (· + 1) h3⟩
    show List.findIdx? (·.1) ((false, assign (.Name x p) X.env) :: assignEach _ X.env) = none
    rw [List.findIdx?_cons]
    simp [h2]
theorem gNames_run {K : PySem.W.Frag} {ρ : List Addr} {H : Hp} {Q : L2.St → Hp → Prop} : ∀ (is : List Nat) (ds : List D) (vs : List V) (env : Env) (σ : L2.St), ds.length = is.length → Reps K ρ H ds vs → EnvR K ρ H env σ →
    (∀ σ', EnvR K ρ H ((is.zip ds).foldl (fun e p => e.set p.1 (some p.2)) env) σ' → (∀ ws : List Nat, (∀ i ∈ is, i ∈ ws) → wipe σ' ws = wipe σ ws) → Q σ' H) → gNames is vs σ H Q := by
  intro is
  induction is with
  | nil =>
    intro ds vs env σ hl r R h
    cases r with
    | nil => exact ⟨rfl, h σ R fun _ _ => rfl⟩
    | cons _ _ => simp at hl
  | cons i is ih =>
    intro ds vs env σ hl r R h
    cases r with
    | nil => simp at hl
    | @cons d ds v vs r t =>
      refine ⟨v, vs, rfl, ih ds vs _ _ (by simpa using hl) t (R.set r i) fun σ' R' hw => h σ' R' fun ws hws => ?_⟩
      rw [hw ws fun j hj => hws j (List.mem_cons_of_mem _ hj), wipe_set (hws i List.mem_cons_self)]
theorem sndG_tup {es : List Expr} {is : List Nat} {k : Nat} (hc : X.calm = true) (hN : X.N.Nodup) (hn : Nms X es is) : SndG X (.Tuple es k pos) (.tup is) := by
  intro ρ st env σ H d v env' S R r e Q h
  obtain ⟨l1, l2, l3⟩ := nms_len hn
  simp only [bindT] at e
  split at e
  · rename_i xs
    split at e
    · rename_i hl
      cases e
      obtain ⟨a, vs, rfl, h1, h2⟩ := rep_tup r
      exact wg_of (pg_tup hc (pgs_names hN hn) l1 l2) ⟨a, vs, rfl, h1, by rw [← h2.length]; exact hl, gNames_run _ _ _ _ _ hl h2 R h⟩
    · cases e
  · split at e
    · rename_i xs hj
      split at e
      · rename_i hl
        cases e
        cases r with
        | ob hx =>
          obtain ⟨vs, h1, h2⟩ := S.ob _ _ _ hj hx
          exact wg_of (pg_lst hc (pgs_names hN hn) l1 l2) ⟨_, vs, rfl, SqL.of h1, by rw [← h2.length]; exact hl, gNames_run _ _ _ _ _ hl h2 R h⟩
      · cases e
    · cases e
  · cases e

/-! ### statements -/
def PostF (K : PySem.W.Frag) (ρ : List Addr) (H : Hp) (st : Store) (fl : Fl) (D : Ends) : Prop := match fl with
  | .nx env => ∀ ρ' H' σ', Grow ρ H ρ' H' → Sim K ρ' st H' → EnvR K ρ' H' env σ' → D.nx σ' H'
  | .bk env => ∀ ρ' H' σ', Grow ρ H ρ' H' → Sim K ρ' st H' → EnvR K ρ' H' env σ' → D.bk σ' H'
  | .ct env => ∀ ρ' H' σ', Grow ρ H ρ' H' → Sim K ρ' st H' → EnvR K ρ' H' env σ' → D.ct σ' H'
  | .ret d => ∀ ρ' H' v, Grow ρ H ρ' H' → Sim K ρ' st H' → Rep K ρ' H' d v → D.rt v H'
theorem PostF.grow {K : PySem.W.Frag} {ρ ρ1 : List Addr} {H H1 : Hp} {st : Store} {fl : Fl} {D : Ends} (p : PostF K ρ H st fl D) (g : Grow ρ H ρ1 H1) : PostF K ρ1 H1 st fl D := by
  cases fl with
  | nx env => exact fun ρ' H' σ' g' S R => p ρ' H' σ' (g.trans g') S R
  | bk env => exact fun ρ' H' σ' g' S R => p ρ' H' σ' (g.trans g') S R
  | ct env => exact fun ρ' H' σ' g' S R => p ρ' H' σ' (g.trans g') S R
  | ret d => exact fun ρ' H' v g' S R => p ρ' H' v (g.trans g') S R
def SndS (X : Cx) (s : Stmt) (m : Env → M Fl) : Prop := ∀ ρ st env σ H fl st', Sim X.K ρ st H → EnvR X.K ρ H env σ → m env st = .ok fl st' → ∀ D, PostF X.K ρ H st' fl D → WS X s D σ H
def SndSs (X : Cx) (s : List Stmt) (m : Env → M Fl) : Prop := ∀ ρ st env σ H fl st', Sim X.K ρ st H → EnvR X.K ρ H env σ → m env st = .ok fl st' → ∀ D, PostF X.K ρ H st' fl D → WSs X s D σ H
theorem sndSs_nil : SndSs X [] (fun env st => .ok (.nx env) st) := by
  intro ρ st env σ H fl st' S R e D P
  cases e
  exact wss_of pss_nil (P ρ H σ (Grow.refl _ _) S R)
theorem sndSs_cons {s : Stmt} {r : List Stmt} {m : Env → M Fl} {mr : Env → M Fl} (h1 : SndS X s m) (h2 : SndSs X r mr) : SndSs X (s :: r) (fun env => M.bind (m env) fun fl => match fl with
    | .nx e1 => mr e1
    | .ret d => fun st => .ok (.ret d) st
    | .bk e1 => fun st => .ok (.bk e1) st
    | .ct e1 => fun st => .ok (.ct e1) st) := by
  intro ρ st env σ H fl st' S R e D P
  obtain ⟨f1, st1, e1, e2⟩ := bind_ok e
  refine wss_of (pss_cons ps_ws pss_ws) (h1 ρ st env σ H f1 st1 S R e1 _ ?_)
  cases f1 with
  | nx env1 => exact fun ρ' H' σ' g' S' R' => h2 ρ' st1 env1 σ' H' fl st' S' R' e2 D (P.grow g')
  | ret d => cases e2; exact P
  | bk env1 => cases e2; exact P
  | ct env1 => cases e2; exact P
variable {a b c o i : Expr} {ma mb mo mi : Env → M D} {tc : Env → M Bool} {x : Str} {j : Nat}
theorem sndS_asg {pos' : Pos} (hN : X.N.Nodup) (hj : X.N[j]? = some x) (hx : Loc X.env.scope x) (hf : X.fn x = true ∨ X.env.scope.names.lookup x = some .local) (hs : swapsWith a (some (.Name x pos')) pos.line X.env = pure false) (ha : SndE X a ma) :
    SndS X (.Assign [.Name x pos'] a pos) (fun env => M.bind (ma env) fun d st => .ok (.nx (env.set j (some d))) st) := by
  intro ρ st env σ H fl st' S R e D P
  obtain ⟨d, st1, e1, e2⟩ := bind_ok e
  cases e2
  exact ws_of (ps_set hN hj hx pe_we hs hf) (ha ρ st env σ H d _ S R e1 _ fun ρ1 H1 v g1 S1 r1 => P ρ1 H1 _ g1 S1 ((R.grow g1).set r1 j))
theorem sndS_tgt {tg : Expr} {is : List Nat} (hs : swapsWithSole [tg] a pos.line X.env = pure false) (hw : swappedStores [tg] a X.env = pure none) (h1 : (assignEach [tg] X.env).map (·.2) = [assign tg X.env]) (ha : SndE X a ma) (hg : SndG X tg (.tup is)) :
    SndS X (.Assign [tg] a pos) (fun env => M.bind (ma env) fun d st => match bindT (.tup is) d env st with | some env1 => .ok (.nx env1) st | none => .no) := by
  intro ρ st env σ H fl st' S R e D P
  obtain ⟨d, st1, e1, e2⟩ := bind_ok e
  split at e2
  · rename_i env1 hb
    cases e2
    exact ws_of (ps_asg pe_we pg_wg hs hw h1) (ha ρ st env σ H d _ S R e1 _ fun ρ1 H1 v g1 S1 r1 => hg ρ1 _ env σ H1 d v env1 S1 (R.grow g1) r1 hb _ fun σ' R' _ => P ρ1 H1 σ' g1 S1 R')
  · cases e2
theorem sndS_par2 {y : Str} {l k2 : Nat} {kt : Nat} {px py pt pt2 : Pos} {ms : Env → M (List D)} (hc : X.calm = true) (hN : X.N.Nodup) (hj : X.N[j]? = some x) (hl : X.N[l]? = some y) (hjl : j ≠ l) (hx : X.env.scope.names.lookup x = some .local) (hy : X.env.scope.names.lookup y = some .local)
    (hw : swappedStores [.Tuple [.Name x px, .Name y py] kt pt] (.Tuple [a, b] k2 pt2) X.env = pure (some [x, y])) (hA : SndA X [a, b] ms) :
    SndS X (.Assign [.Tuple [.Name x px, .Name y py] kt pt] (.Tuple [a, b] k2 pt2) pos) (fun env => M.bind (M.bind (ms env) fun ds st => if ds.length ≤ bigN then .ok (.tup ds) st else .no) fun d st => match bindT (.tup [j, l]) d env st with | some env1 => .ok (.nx env1) st | none => .no) := by
  intro ρ st env σ H fl st' S R e D P
  obtain ⟨d, st1, e1, e2⟩ := bind_ok e
  obtain ⟨ds, st2, e1, e3⟩ := bind_ok e1
  split at e3
  · cases e3
    simp only [bindT] at e2
    split at e2
    · rename_i env1 hb
      cases e2
      split at hb
      · rename_i hlen
        cases hb
        refine ws_of (ps_par hc hN hj hl hjl hx hy pa_wa hw rfl) (hA ρ st env σ H ds _ S R e1 _ fun ρ1 H1 vs g1 S1 r1 => ?_)
        match ds, vs, r1, hlen with
        | [d1, d2], [v1, v2], .cons q1 (.cons q2 .nil), _ => exact ⟨v1, v2, rfl, P ρ1 H1 _ g1 S1 (((R.grow g1).set q1 j).set q2 l)⟩
      · cases hb
    · cases e2
  · cases e3
theorem sndS_par3 {y z : Str} {l n k2 : Nat} {kt : Nat} {px py pz pt pt2 : Pos} {ms : Env → M (List D)} (hc : X.calm = true) (hN : X.N.Nodup) (hj : X.N[j]? = some x) (hl : X.N[l]? = some y) (hn : X.N[n]? = some z) (hjl : j ≠ l) (hjn : j ≠ n) (hln : l ≠ n)
    (hx : X.env.scope.names.lookup x = some .local) (hy : X.env.scope.names.lookup y = some .local) (hz : X.env.scope.names.lookup z = some .local)
    (hw : swappedStores [.Tuple [.Name x px, .Name y py, .Name z pz] kt pt] (.Tuple [a, b, c] k2 pt2) X.env = pure (some [x, y, z])) (hA : SndA X [a, b, c] ms) :
    SndS X (.Assign [.Tuple [.Name x px, .Name y py, .Name z pz] kt pt] (.Tuple [a, b, c] k2 pt2) pos) (fun env => M.bind (M.bind (ms env) fun ds st => if ds.length ≤ bigN then .ok (.tup ds) st else .no) fun d st => match bindT (.tup [j, l, n]) d env st with | some env1 => .ok (.nx env1) st | none => .no) := by
  intro ρ st env σ H fl st' S R e D P
  obtain ⟨d, st1, e1, e2⟩ := bind_ok e
  obtain ⟨ds, st2, e1, e3⟩ := bind_ok e1
  split at e3
  · cases e3
    simp only [bindT] at e2
    split at e2
    · rename_i env1 hb
      cases e2
      split at hb
      · rename_i hlen
        cases hb
        refine ws_of (ps_par3 hc hN hj hl hn hjl hjn hln hx hy hz pa_wa hw rfl) (hA ρ st env σ H ds _ S R e1 _ fun ρ1 H1 vs g1 S1 r1 => ?_)
        match ds, vs, r1, hlen with
        | [d1, d2, d3], [v1, v2, v3], .cons q1 (.cons q2 (.cons q3 .nil)), _ => exact ⟨v1, v2, v3, rfl, P ρ1 H1 _ g1 S1 ((((R.grow g1).set q1 j).set q2 l).set q3 n)⟩
      · cases hb
    · cases e2
  · cases e3
theorem ok_set (hu : X.A.units + 1 < cLine) {ρ : List Addr} {st st' : Store} {H : Hp} {od id d : D} {ov iv v : V} (S : Sim X.K ρ st H) (ro : Rep X.K ρ H od ov) (ri : Rep X.K ρ H id iv) (rd : Rep X.K ρ H d v) (e : setD od id d st = .ok () st') :
    ∀ (pins : List (Addr × Obj)) (s : Shared) (σ : L2.St) (uo ui u : Value), Inv X pins σ H s → RelV ov uo → RelV iv ui → RelV v u → wpAny (model X.prog X.w) X.A (setItem uo ui u) (fun _ s' => ∃ H', Inv X pins σ H' s' ∧ Grow ρ H ρ H' ∧ Sim X.K ρ st' H') X.xe s := by
  intro pins s σ uo ui u I r1 r2 r3
  cases ro with
  | ob hx =>
    simp only [setD] at e
    split at e
    · rename_i xs hj
      obtain ⟨vs, h1, h2⟩ := S.ob _ _ _ hj hx
      have mu := mutL h1
      split at e
      · rename_i k
        split at e
        · rename_i n hn
          cases e
          cases ri
          refine set_list pins s σ H _ _ v uo ui u (fun H' => Grow ρ H ρ H' ∧ Sim X.K ρ _ H') I r1 r2 r3 ⟨_, vs, k, n, rfl, rfl, h1, by rw [← h2.length]; exact hn, S.grow_set hx mu, S.set hx mu ⟨_, upd_same, ((h2.set rd n).grow (S.grow_set hx mu))⟩⟩
        · cases e
      · cases e
    · rename_i kvs hj
      split at e
      · rename_i hk
        cases e
        obtain ⟨H2, ov2, w, I2, g, back, res, p, mu, ob'⟩ := dp_at I S hx (S.ob _ _ _ hj hx) ri hk.1 hk.2 rd
        cases r1
        exact d_setItem hu I2 p r2 r3 fun s' J => ⟨_, J, S.grow_set hx mu, S.set hx mu ob'⟩
      · cases e
    · cases e
  | _ => simp only [setD] at e; cases e
theorem sndS_set {pos' : Pos} (hu : X.A.units + 1 < cLine) (hs : swapsWith a (some (.Subscript o i pos')) pos.line X.env = pure false) (ha : SndE X a ma) (ho : SndE X o mo) (hi : SndE X i mi) :
    SndS X (.Assign [.Subscript o i pos'] a pos) (fun env => M.bind (ma env) fun d => M.bind (mo env) fun x => M.bind (mi env) fun y => M.bind (setD x y d) fun _ st => .ok (.nx env) st) := by
  intro ρ st env σ H fl st' S R e D P pins s I
  obtain ⟨d, st1, e1, e⟩ := bind_ok e
  obtain ⟨od, st2, e2, e⟩ := bind_ok e
  obtain ⟨id, st3, e3, e⟩ := bind_ok e
  obtain ⟨_, st4, e4, e5⟩ := bind_ok e
  cases e5
  have key : WE X a σ H fun v H1 => WE X o σ H1 fun ov H2 => WE X i σ H2 fun iv H3 => ∃ ρ3, Grow ρ H ρ3 H3 ∧ Sim X.K ρ3 st3 H3 ∧ Rep X.K ρ3 H3 d v ∧ Rep X.K ρ3 H3 od ov ∧ Rep X.K ρ3 H3 id iv :=
    ha ρ st env σ H d st1 S R e1 _ fun ρ1 H1 v g1 S1 r1 => ho ρ1 st1 env σ H1 od st2 S1 (R.grow g1) e2 _ fun ρ2 H2 ov g2 S2 r2 => hi ρ2 st2 env σ H2 id st3 S2 (R.grow (g1.trans g2)) e3 _ fun ρ3 H3 iv g3 S3 r3 =>
      ⟨ρ3, (g1.trans g2).trans g3, S3, r1.grow (g2.trans g3), r2.grow g3, r3⟩
  refine wpAny_Assign_Subscript (thn (key pins s I) fun u s1 ⟨v, H1, I1, rv, q1⟩ => thn (q1 pins s1 I1) fun uo s2 ⟨ov, H2, I2, ro, q2⟩ => thn (q2 pins s2 I2) fun ui s3 ⟨iv, H3, I3, ri, ρ3, g3, S3, h1, h2, h3⟩ => ?_) hs
  exact thn (ok_set hu S3 h2 h3 h1 e4 pins s3 σ uo ui u I3 ro ri rv) fun _ s4 ⟨H4, I4, g4, S4⟩ => ⟨σ, H4, I4, P ρ3 H4 σ (g3.trans g4) S4 (R.grow (g3.trans g4))⟩
theorem sndS_expr (hs : swapsWith a none pos.line X.env = pure false) (ha : SndE X a ma) : SndS X (.Expr a pos) (fun env => M.bind (ma env) fun _ st => .ok (.nx env) st) := by
  intro ρ st env σ H fl st' S R e D P
  obtain ⟨d, st1, e1, e2⟩ := bind_ok e
  cases e2
  exact ws_of (ps_expr pe_we hs) (ha ρ st env σ H d _ S R e1 _ fun ρ1 H1 v g1 S1 r1 => P ρ1 H1 σ g1 S1 (R.grow g1))
theorem sndS_ret (ha : SndE X a ma) : SndS X (.Return (some a) pos) (fun env => M.bind (ma env) fun d st => .ok (.ret d) st) := by
  intro ρ st env σ H fl st' S R e D P
  obtain ⟨d, st1, e1, e2⟩ := bind_ok e
  cases e2
  exact ws_of (ps_ret pe_we) (ha ρ st env σ H d _ S R e1 _ P)
theorem sndS_retN : SndS X (.Return none pos) (fun _ st => .ok (.ret .non) st) := by
  intro ρ st env σ H fl st' S R e D P
  cases e
  exact ws_of ps_retN (P ρ H .non (Grow.refl _ _) S .non)
theorem sndS_ite {sa sb : List Stmt} {m1 m2 : Env → M Fl} (hc : SndT X c tc) (h1 : SndSs X sa m1) (h2 : SndSs X sb m2) : SndS X (.If c sa sb pos) (fun env => M.bind (tc env) fun r => if r = true then m1 env else m2 env) := by
  intro ρ st env σ H fl st' S R e D P
  obtain ⟨r, st1, e1, e2⟩ := bind_ok e
  refine ws_of (ps_if pt_wt pss_ws pss_ws) (hc ρ st env σ H r st1 S R e1 _ fun ρ1 H1 g1 S1 => ?_)
  cases r with
  | true => rw [if_pos rfl] at e2 ⊢; exact h1 ρ1 st1 env σ H1 fl st' S1 (R.grow g1) e2 D (P.grow g1)
  | false => rw [if_neg (by decide)] at e2 ⊢; exact h2 ρ1 st1 env σ H1 fl st' S1 (R.grow g1) e2 D (P.grow g1)
theorem sndS_pass : SndS X (.Pass pos) (fun env st => .ok (.nx env) st) := by
  intro ρ st env σ H fl st' S R e D P
  cases e
  exact ws_of ps_pass (P ρ H σ (Grow.refl _ _) S R)
theorem sndS_brk : SndS X (.Break pos) (fun env st => .ok (.bk env) st) := by
  intro ρ st env σ H fl st' S R e D P
  cases e
  exact ws_of ps_break (P ρ H σ (Grow.refl _ _) S R)
theorem sndS_cont : SndS X (.Continue pos) (fun env st => .ok (.ct env) st) := by
  intro ρ st env σ H fl st' S R e D P
  cases e
  exact ws_of ps_continue (P ρ H σ (Grow.refl _ _) S R)
theorem sndS_never {s : Stmt} : SndS X s (fun _ _ => .no) := by
  intro ρ st env σ H fl st' S R e D P
  cases e
theorem ok_aug {op : Operator} {x y d : D} {st st' : Store} (h : augD op x y st = .ok d st') : st' = st ∧ ((op = .Add ∧ ∃ i j, x = .int i ∧ y = .int j ∧ d = .int (i + j)) ∨ (op = .Sub ∧ ∃ i j, x = .int i ∧ y = .int j ∧ d = .int (i - j))) := by
  unfold augD at h
  split at h
  · cases h; exact ⟨rfl, .inl ⟨rfl, _, _, rfl, rfl, rfl⟩⟩
  · cases h; exact ⟨rfl, .inr ⟨rfl, _, _, rfl, rfl, rfl⟩⟩
  · cases h
theorem sndS_aug {op : Operator} {pos' : Pos} (hN : X.N.Nodup) (hj : X.N[j]? = some x) (hx : Loc X.env.scope x) (hf : X.fn x = true ∨ X.env.scope.names.lookup x = some .local) (ha : SndE X a ma) :
    SndS X (.AugAssign (.Name x pos') op a pos) (fun env st => match env[j]? with
    | some (some x) => M.bind (ma env) (fun y => M.bind (augD op x y) fun z st => .ok (.nx (env.set j (some z))) st) st
    | _ => .no) := by
  intro ρ st env σ H fl st' S R e D P
  dsimp only at e
  split at e
  · rename_i xd hx1
    obtain ⟨y, st1, e1, e2⟩ := bind_ok e
    obtain ⟨z, st2, e2, e3⟩ := bind_ok e2
    cases e3
    obtain ⟨v0, h0, r0⟩ := R.at' _ _ hx1
    obtain ⟨hst, ha2⟩ := ok_aug e2
    subst hst
    rcases ha2 with ⟨rfl, i, k, rfl, rfl, rfl⟩ | ⟨rfl, i, k, rfl, rfl, rfl⟩
    · cases r0
      exact ws_of (ps_aug hN hj hx pe_we ip_add hf) ⟨_, h0, ha ρ st env σ H _ _ S R e1 _ fun ρ1 H1 v g1 S1 r1 => ⟨i, k, rfl, rep_int r1, P ρ1 H1 _ g1 S1 ((R.grow g1).set (.int _) j)⟩⟩
    · cases r0
      exact ws_of (ps_aug hN hj hx pe_we ip_sub hf) ⟨_, h0, ha ρ st env σ H _ _ S R e1 _ fun ρ1 H1 v g1 S1 r1 => ⟨i, k, rfl, rep_int r1, P ρ1 H1 _ g1 S1 ((R.grow g1).set (.int _) j)⟩⟩
  · cases e
end
end W9

/-! W9n: for loops, list comprehensions -/
namespace W9
open PySem L2
theorem loopF_gd {gd : Option (Nat × List D)} {f : D → Env → M Fl} : ∀ {l : List D} {env : Env} {st st' : Store} {fl : Fl}, loopF gd f l env st = .ok fl st' → gdOk st gd = true
  | [], env, st, st', fl, h => by
    simp only [loopF] at h
    split at h
    · assumption
    · cases h
  | d :: r, env, st, st', fl, h => by
    simp only [loopF] at h
    split at h
    · assumption
    · cases h
theorem loopC_gd {gd : Option (Nat × List D)} {f : D → M (Option D)} : ∀ {l : List D} {st st' : Store} {ds : List D}, loopC gd f l st = .ok ds st' → gdOk st gd = true
  | [], st, st', fl, h => by
    simp only [loopC] at h
    split at h
    · assumption
    · cases h
  | d :: r, st, st', fl, h => by
    simp only [loopC] at h
    split at h
    · assumption
    · cases h
theorem compF_app (t : Tg) (own : List Nat) (env : Env) (mt : Env → M Bool) (me : Env → M D) (d : D) (st : Store) : compF t own env mt me d st = (match bindT t d (wipeE env own) st with
  | some env1 => match mt env1 st with
    | .ok true st1 => (match me env1 st1 with | .ok d st2 => .ok (some d) st2 | .ex x st2 => .ex x st2 | .no => .no)
    | .ok false st1 => .ok none st1
    | .ex x st1 => .ex x st1
    | .no => .no
  | none => .no) := rfl
section
variable {X : Cx} {tg iter : Expr} {t : Tg} {pos : Pos} {mI : Env → M (List D × Option (Nat × List D))}
theorem sndS_for {body : List Stmt} {mb : Env → M Fl} (hp : PassesOwn (model X.prog X.w) X.A X.env X.xe) (hc : X.calm = true) (hfs : ∀ x, foldedSetIterable iter X.env x = pure x) (hI : SndI X tg iter mI) (hG : SndG X tg t) (hB : SndSs X body mb) :
    SndS X (.For tg iter body [] pos) (fun env => M.bind (mI env) fun p => loopF p.2 (forF t mb) p.1 env) := by
  intro ρ st env σ H fl st' S R e D P
  obtain ⟨⟨items, gd⟩, st1, e1, e2⟩ := bind_ok e
  obtain ⟨wi, hwi, hR⟩ := hI ρ st env σ H _ st1 S R e1
  refine ws_of (ps_for hp hc hwi pg_wg pss_ws hfs) (hR _ fun ρ1 H1 J g1 S1 W => ?_)
  obtain ⟨G, Y, w, hG', hY⟩ := W.ex
  dsimp only at e2 w hG' hY
  refine for_it w (fun i σ' H' => ∃ ρ' env' st2, Grow ρ1 H1 ρ' H' ∧ Sim X.K ρ' st2 H' ∧ EnvR X.K ρ' H' env' σ' ∧ loopF gd (forF t mb) (items.drop i) env' st2 = .ok fl st') ⟨ρ1, env, st1, Grow.refl _ _, S1, R.grow g1, by simpa using e2⟩ ?_ ?_ ?_
  · rintro i σ' H' hi ⟨ρ', env', st2, g', S', R', e'⟩
    exact hG' ρ' H' st2 g' S' (loopF_gd e')
  · rintro i x σ' H' H'' hi ⟨ρ', env', st2, g', S', R', e'⟩ y
    obtain ⟨q1, q2, d, q3, q4⟩ := hY i ρ' H' st2 x H'' g' S' (loopF_gd e') hi y
    have hd : items.drop i = d :: items.drop (i + 1) := by
      obtain ⟨hlt, hget⟩ := List.getElem?_eq_some_iff.mp q3
      rw [List.drop_eq_getElem_cons hlt, hget]
    rw [hd] at e'
    simp only [loopF, forF] at e'
    split at e'
    · cases hb : bindT t d env' st2 with
      | none => rw [hb] at e'; cases e'
      | some env1 =>
        rw [hb] at e'
        dsimp only at e'
        refine hG ρ' st2 env' σ' H'' d x env1 q2 (R'.grow q1) q4 hb _ fun σ2 R2 _ => ?_
        have gg : Grow ρ1 H1 ρ' H'' := g'.trans q1
        cases hm : mb env1 st2 with
        | ok f1 st3 =>
          rw [hm] at e'
          refine hB ρ' st2 env1 σ2 H'' f1 st3 q2 R2 hm _ ?_
          cases f1 with
          | nx e3 => exact fun ρ3 H3 σ3 g3 S3 R3 => ⟨ρ3, e3, st3, gg.trans g3, S3, R3, e'⟩
          | ct e3 => exact fun ρ3 H3 σ3 g3 S3 R3 => ⟨ρ3, e3, st3, gg.trans g3, S3, R3, e'⟩
          | bk e3 => cases e'; exact fun ρ3 H3 σ3 g3 S3 R3 => P ρ3 H3 σ3 (g1.trans (gg.trans g3)) S3 R3
          | ret v => cases e'; exact fun ρ3 H3 σ3 g3 S3 R3 => P ρ3 H3 σ3 (g1.trans (gg.trans g3)) S3 R3
        | ex x st3 => rw [hm] at e'; cases e'
        | no => rw [hm] at e'; cases e'
    · cases e'
  · rintro σ' H' ⟨ρ', env', st2, g', S', R', e'⟩
    rw [List.drop_eq_nil_of_le (Nat.le_refl _)] at e'
    simp only [loopF] at e'
    split at e'
    · cases e'
      exact P ρ' H' σ' (g1.trans g') S' R'
    · cases e'

/-! ### comprehensions -/
theorem EnvR.wipe {K : PySem.W.Frag} {ρ : List Addr} {H : Hp} {env : Env} {σ : L2.St} (R : EnvR K ρ H env σ) : ∀ vs : List Nat, EnvR K ρ H (wipeE env vs) (L2.wipe σ vs)
  | [] => R
  | v :: vs => by
    have ih := EnvR.wipe R vs
    refine ⟨by simp [L2.wipe, wipeE, ih.len], fun j d e => ?_⟩
    unfold wipeE at e
    unfold L2.wipe
    by_cases hj : v = j
    · subst hj
      by_cases hv : v < (wipeE env vs).length
      · rw [List.getElem?_set_self hv] at e; cases e
      · rw [List.getElem?_eq_none (by simpa using hv)] at e; cases e
    · rw [List.getElem?_set_ne hj] at e ⊢
      exact ih.at' j d e
/-- the heap's object at an address that the store does not know is written -/
theorem keep_other {ρ : List Addr} {H : Hp} {p : Addr} {vs : List V} {u : HO} (h : H p = some (.lst vs)) : Keep ρ H ρ (upd H p u) :=
  ⟨List.prefix_refl _, fun b xs e => by rw [upd_ne (fun z => by rw [z, h] at e; cases e)]; exact e, fun b o xs e => by rw [upd_ne (fun z => by rw [z, h] at e; cases e)]; exact e⟩
theorem Sim.other {K : PySem.W.Frag} {ρ : List Addr} {st : Store} {H : Hp} {p : Addr} {vs : List V} {u : HO} (S : Sim K ρ st H) (h : H p = some (.lst vs)) (hp : p ∉ ρ) : Sim K ρ st (upd H p u) :=
  ⟨S.len, S.nd, fun i o a h1 h2 => (S.ob i o a h1 h2).keep (keep_other h) fun w e => by rw [upd_ne (fun z => hp (by rw [← z]; exact List.mem_of_getElem? h2))]; exact e⟩
theorem Grow.other {ρ ρ1 : List Addr} {H H1 : Hp} {p : Addr} {u : HO} (g : Grow ρ H ρ1 H1) (h : H p = none) : Grow ρ H ρ1 (upd H1 p u) :=
  ⟨g.pre, g.fr, fun b o e hb => by rw [upd_ne (ne_of_none e h)]; exact g.frame b o e hb, fun b xs e => by rw [upd_ne (ne_of_none e h)]; exact g.tups b xs e, fun b o xs e => by rw [upd_ne (ne_of_none e h)]; exact g.frzs b o xs e⟩
/-- from the list at p, that the store does not know, to the store -/
theorem Sim.take {K : PySem.W.Frag} {ρ : List Addr} {st : Store} {H : Hp} {p : Addr} {vs : List V} {ds : List D} (S : Sim K ρ st H) (h : H p = some (.lst vs)) (hp : p ∉ ρ) (r : Reps K ρ H ds vs) : Sim K (ρ ++ [p]) (st ++ [.lst ds]) H := by
  have kp : Keep ρ H (ρ ++ [p]) H := ⟨List.prefix_append _ _, fun _ _ e => e, fun _ _ _ e => e⟩
  refine ⟨by simp [S.len], ?_, fun i o a h1 h2 => ?_⟩
  · rw [List.nodup_append]
    exact ⟨S.nd, by simp, fun a ha b hb => by rw [List.mem_singleton.mp hb]; exact fun z => hp (by rw [← z]; exact ha)⟩
  · by_cases hi : i < st.length
    · rw [List.getElem?_append_left hi] at h1
      rw [List.getElem?_append_left (by rw [S.len]; exact hi)] at h2
      exact (S.ob i o a h1 h2).keep kp fun w e => e
    · have h3 : i - st.length = 0 ∧ o = .lst ds := by
        rw [List.getElem?_append_right (Nat.le_of_not_lt hi)] at h1
        cases q : i - st.length with
        | zero => rw [q] at h1; simp at h1; exact ⟨rfl, h1.symm⟩
        | succ k => rw [q] at h1; simp at h1
      obtain ⟨h3, rfl⟩ := h3
      rw [List.getElem?_append_right (by rw [S.len]; exact Nat.le_of_not_lt hi), S.len, h3] at h2
      simp at h2
      subst h2
      exact ⟨vs, h, r.keep kp⟩
/-- the blocks of a comprehension in X -/
def Blks (X : Cx) (scope : Scope) (φ : Cx → Prop) : Prop := ∀ (s : Shared) (H : Hp) (C : Addr) (cl : List (Str × Addr)) (fp : List Addr), φ (X.blk s H scope (compEnvC scope cl C X.env) fp)
def gB (X : Cx) (scope : Scope) (tg : Expr) : TG := fun v σ H Q => Blks X scope fun Y => WG Y tg v σ H Q
def tBk (X : Cx) (scope : Scope) (e : Expr) : TE := fun σ H Q => Blks X scope fun Y => WE Y e σ H Q
/-- the tests of a comprehension: none or one -/
def ttB (X : Cx) (scope : Scope) (c : Option Expr) : TT := fun σ H Q => match c with
  | none => Q true H
  | some c => Blks X scope fun Y => WT Y c σ H Q
def SndTo (X : Cx) (scope : Scope) (c : Option Expr) (m : Env → M Bool) : Prop := match c with
  | none => ∀ env st, m env st = .ok true st
  | some c => Blks X scope fun Y => SndT Y c m
theorem pts_B {scope : Scope} {c : Option Expr} : Blks X scope fun Y => PTs Y c.toList (ttB X scope c) := by
  intro s H C cl fp
  cases c with
  | none => exact pts_nil
  | some c => exact pts_one ⟨fun pins s' σ H' Q I h => h s H C cl fp pins s' I⟩
variable {elt : Expr} {scope : Scope} {own : List Nat} {c : Option Expr} {me : Env → M D} {mt : Env → M Bool}
/-- one comprehension's reading -/
theorem lc_run (hI : SndI X tg iter mI) (hG : Blks X scope fun Y => SndG Y tg t) (hT : SndTo X scope c mt) (hE : Blks X scope fun Y => SndE Y elt me) (hsub : ∀ i ∈ t.slots, i ∈ own)
    {ρ : List Addr} {st st' : Store} {env : Env} {σ : L2.St} {H : Hp} {d : D} (S : Sim X.K ρ st H) (R : EnvR X.K ρ H env σ)
    (e : (M.bind (mI env) fun p => M.bind (loopC p.2 (compF t own env mt me) p.1) fun ds st => if ds.length ≤ bigN then .ok (.ob st.length) (st ++ [.lst ds]) else .no) st = .ok d st') {Q : VK} (P : Post X.K ρ H st' d Q) :
    ∃ wi, PI X tg iter wi ∧ tLc wi (gB X scope tg) (ttB X scope c) (tBk X scope elt) own σ H Q := by
  obtain ⟨⟨items, gd⟩, st1, e1, e2⟩ := bind_ok e
  obtain ⟨ds, st2, e4, e3⟩ := bind_ok e2
  dsimp only at e4 e3
  split at e3
  · rename_i hlen
    cases e3
    obtain ⟨wi, hwi, hR⟩ := hI ρ st env σ H _ st1 S R e1
    refine ⟨wi, hwi, hR _ fun ρ1 H1 J g1 S1 W Dl hDl => ?_⟩
    obtain ⟨G, Y, w, hG', hY⟩ := W.ex
    dsimp only at w hG' hY
    have hD1 : Dl ∉ ρ1 := S1.free hDl
    refine lc_it w (fun i H' => ∃ ρ' st3 acc accD rest, Grow ρ1 H1 ρ' H' ∧ Sim X.K ρ' st3 H' ∧ H' Dl = some (.lst acc) ∧ Dl ∉ ρ' ∧ Reps X.K ρ' H' accD acc ∧ loopC gd (compF t own env mt me) (items.drop i) st3 = .ok rest st2 ∧ ds = accD ++ rest)
      ⟨ρ1, st1, [], [], ds, (Grow.refl _ _).other hDl, S1.new hDl, upd_same, hD1, .nil, by simpa using e4, by simp⟩ ?_ ?_ ?_
    · rintro i H' hi ⟨ρ', st3, acc, accD, rest, g', S', hD', hDn, ra, e', eds⟩
      exact hG' ρ' H' st3 g' S' (loopC_gd e')
    · rintro i x H' H'' hi ⟨ρ', st3, acc, accD, rest, g', S', hD', hDn, ra, e', eds⟩ y
      obtain ⟨q1, q2, it, q3, q4⟩ := hY i ρ' H' st3 x H'' g' S' (loopC_gd e') hi y
      have hd : items.drop i = it :: items.drop (i + 1) := by
        obtain ⟨hlt, hget⟩ := List.getElem?_eq_some_iff.mp q3
        rw [List.drop_eq_getElem_cons hlt, hget]
      rw [hd] at e'
      have hD'' : H'' Dl = some (.lst acc) := q1.frame _ _ hD' hDn
      have gg : Grow ρ1 H1 ρ' H'' := g'.trans q1
      simp only [loopC] at e'
      rw [compF_app] at e'
      split at e'
      · cases hb : bindT t it (wipeE env own) st3 with
        | none => rw [hb] at e'; cases e'
        | some env1 =>
          rw [hb] at e'
          dsimp only at e'
          intro s0 H0 C0 cl0 fp0
          refine hG s0 H0 C0 cl0 fp0 ρ' st3 (wipeE env own) (L2.wipe σ own) H'' it x env1 q2 (((R.grow g1).grow gg).wipe own) q4 hb _ fun σ2 R2 hw2 => ⟨?_, ?_⟩
          · have h1 := hw2 own hsub
            rw [h1]
            -- wiping twice
            apply List.ext_getElem?
            intro j
            by_cases hj : j < σ.length
            · by_cases hv : j ∈ own
              · rw [wipe_at (by rw [wipe_length]; exact hj) hv, wipe_at hj hv]
              · rw [wipe_out hv]
            · rw [List.getElem?_eq_none (by rw [wipe_length, wipe_length]; simpa using hj), List.getElem?_eq_none (by rw [wipe_length]; simpa using hj)]
          -- the test
          have after : ∀ (k : Bool) (st4 : Store), mt env1 st3 = .ok k st4 → ∀ ρ4 H4, Grow ρ' H'' ρ4 H4 → Sim X.K ρ4 st4 H4 →
              if k = true then tBk X scope elt σ2 H4 (fun y H5 => ∃ acc', H5 Dl = some (.lst acc') ∧ acc'.length < sizeLine ∧ ∃ ρ' st3 acc accD rest, Grow ρ1 H1 ρ' (upd H5 Dl (.lst (acc' ++ [y]))) ∧ Sim X.K ρ' st3 (upd H5 Dl (.lst (acc' ++ [y]))) ∧ (upd H5 Dl (.lst (acc' ++ [y]))) Dl = some (.lst acc) ∧ Dl ∉ ρ' ∧ Reps X.K ρ' (upd H5 Dl (.lst (acc' ++ [y]))) accD acc ∧ loopC gd (compF t own env mt me) (items.drop (i + 1)) st3 = .ok rest st2 ∧ ds = accD ++ rest)
              else ∃ ρ' st3 acc accD rest, Grow ρ1 H1 ρ' H4 ∧ Sim X.K ρ' st3 H4 ∧ H4 Dl = some (.lst acc) ∧ Dl ∉ ρ' ∧ Reps X.K ρ' H4 accD acc ∧ loopC gd (compF t own env mt me) (items.drop (i + 1)) st3 = .ok rest st2 ∧ ds = accD ++ rest := by
            intro k st4 hk ρ4 H4 g4 S4
            rw [hk] at e'
            have hDn4 : Dl ∉ ρ4 := fun z => by
              have := g4.fr Dl z hDn
              rw [hD''] at this; cases this
            have hD4 : H4 Dl = some (.lst acc) := g4.frame _ _ hD'' hDn
            cases k with
            | false =>
              rw [if_neg (by decide)]
              dsimp only at e'
              cases hl : loopC gd (compF t own env mt me) (items.drop (i + 1)) st4 with
              | ok l st5 =>
                rw [hl] at e'
                cases e'
                exact ⟨ρ4, st4, acc, accD, l, gg.trans g4, S4, hD4, hDn4, (ra.grow q1).grow g4, hl, by simpa using eds⟩
              | ex x st5 => rw [hl] at e'; cases e'
              | no => rw [hl] at e'; cases e'
            | true =>
              rw [if_pos rfl]
              dsimp only at e'
              intro s1 H1' C1 cl1 fp1
              cases hm : me env1 st4 with
              | ok dv st5 =>
                rw [hm] at e'
                dsimp only at e'
                refine hE s1 H1' C1 cl1 fp1 ρ4 st4 env1 σ2 H4 dv st5 S4 (R2.grow g4) hm _ fun ρ5 H5 v5 g5 S5 r5 => ?_
                have hDn5 : Dl ∉ ρ5 := fun z => by
                  have := g5.fr Dl z hDn4
                  rw [hD4] at this; cases this
                have hD5 : H5 Dl = some (.lst acc) := g5.frame _ _ hD4 hDn4
                cases hl : loopC gd (compF t own env mt me) (items.drop (i + 1)) st5 with
                | ok l st6 =>
                  rw [hl] at e'
                  cases e'
                  have ra5 := ((ra.grow q1).grow g4).grow g5
                  have hlt : acc.length < sizeLine := by
                    have h1 := ra.length
                    have h2 := congrArg List.length eds
                    simp at h2
                    rw [big_eq]
                    omega
                  exact ⟨acc, hD5, hlt, ρ5, st5, acc ++ [v5], accD ++ [dv], l, ((gg.trans g4).trans g5).other hDl, S5.other hD5 hDn5, upd_same, hDn5, (ra5.append (.cons r5 .nil)).keep (keep_other hD5), hl, by simpa using eds⟩
                | ex x st6 => rw [hl] at e'; cases e'
                | no => rw [hl] at e'; cases e'
              | ex x st5 => rw [hm] at e'; cases e'
              | no => rw [hm] at e'; cases e'
          cases hk : mt env1 st3 with
          | ok k st4 =>
            cases c with
            | none =>
              have hm := hT env1 st3
              rw [hk] at hm
              cases hm
              exact after true st3 hk ρ' H'' (Grow.refl _ _) q2
            | some cc =>
              intro s1 H1' C1 cl1 fp1
              exact hT s1 H1' C1 cl1 fp1 ρ' st3 env1 σ2 H'' k st4 q2 R2 hk _ fun ρ4 H4 g4 S4 => after k st4 hk ρ4 H4 g4 S4
          | ex x st4 => rw [hk] at e'; cases e'
          | no => rw [hk] at e'; cases e'
      · cases e'
    · rintro H' ⟨ρ', st3, acc, accD, rest, g', S', hD', hDn, ra, e', eds⟩
      rw [List.drop_eq_nil_of_le (Nat.le_refl _)] at e'
      simp only [loopC] at e'
      split at e'
      · cases e'
        have eds' : ds = accD := by simpa using eds
        subst eds'
        refine P (ρ' ++ [Dl]) H' (.ref Dl) ?_ (S'.take hD' hDn ra) (.ob ?_)
        · have gg := g1.trans g'
          refine ⟨gg.pre.trans (List.prefix_append _ _), fun a ha hn => ?_, gg.frame, gg.tups, gg.frzs⟩
          rcases List.mem_append.mp ha with ha | ha
          · exact gg.fr a ha hn
          · rw [List.mem_singleton.mp ha]
            cases q : H Dl with
            | none => rfl
            | some o =>
              have hnρ : Dl ∉ ρ := fun z => hD1 (g1.pre.subset z)
              have := g1.frame Dl o q hnρ
              rw [hDl] at this; cases this
        · rw [List.getElem?_append_right (by rw [S'.len]; exact Nat.le_refl _), S'.len]
          simp
      · cases e'
  · cases e3
theorem snd_lc {ownp : List (Str × Nat)} (hc : X.calm = true) (hN : X.N.Nodup) (ok : BlkOk X.N X.env.scope scope ownp) (hown : ownp.map (·.2) = own) (hfs : ∀ x, foldedSetIterable iter X.env x = pure x)
    (hI : SndI X tg iter mI) (hG : Blks X scope fun Y => SndG Y tg t) (hT : SndTo X scope c mt) (hE : Blks X scope fun Y => SndE Y elt me) (hsub : ∀ i ∈ t.slots, i ∈ own) :
    SndE X (.ListComp elt [⟨tg, iter, c.toList, 0⟩] scope pos) (fun env => M.bind (mI env) fun p => M.bind (loopC p.2 (compF t own env mt me) p.1) fun ds st => if ds.length ≤ bigN then .ok (.ob st.length) (st ++ [.lst ds]) else .no) := by
  intro ρ st env σ H d st' S R e Q P
  obtain ⟨wi, hwi, h⟩ := lc_run hI hG hT hE hsub S R e P
  subst hown
  exact we_of (pe_lc hc hN hwi ok (fun s H C cl fp => ⟨fun pins s' σ H' v u Q I r h => h s H C cl fp pins s' u I r⟩) pts_B (fun s H C cl fp => ⟨fun pins s' σ H' Q I h => h s H C cl fp pins s' I⟩) hfs) h
theorem sndS_setLc {ownp : List (Str × Nat)} {j : Nat} {y : Str} {py spos : Pos} (hc : X.calm = true) (hN : X.N.Nodup) (hy : X.N[j]? = some y) (hyl : X.env.scope.names.lookup y = some .local) (hsw : swapsWith (.ListComp elt [⟨tg, iter, c.toList, 0⟩] scope pos) (some (.Name y py)) spos.line X.env = pure true)
    (ok : BlkOk X.N X.env.scope scope ownp) (hown : ownp.map (·.2) = own) (hfs : ∀ x, foldedSetIterable iter X.env x = pure x)
    (hI : SndI X tg iter mI) (hG : Blks X scope fun Y => SndG Y tg t) (hT : SndTo X scope c mt) (hE : Blks X scope fun Y => SndE Y elt me) (hsub : ∀ i ∈ t.slots, i ∈ own) :
    SndS X (.Assign [.Name y py] (.ListComp elt [⟨tg, iter, c.toList, 0⟩] scope pos) spos) (fun env => M.bind (M.bind (mI env) fun p => M.bind (loopC p.2 (compF t own env mt me) p.1) fun ds st => if ds.length ≤ bigN then .ok (.ob st.length) (st ++ [.lst ds]) else .no) fun d st => .ok (.nx (env.set j (some d))) st) := by
  intro ρ st env σ H fl st' S R e D P
  obtain ⟨d, st1, e1, e2⟩ := bind_ok e
  cases e2
  obtain ⟨wi, hwi, h⟩ := lc_run (Q := fun x H1 => gName j x σ H1 D.nx) hI hG hT hE hsub S R e1 fun ρ1 H1 v g1 S1 r1 => P ρ1 H1 _ g1 S1 ((R.grow g1).set r1 j)
  subst hown
  exact ws_of (ps_setLc hc hN hy hyl hsw hwi ok (fun s H C cl fp => ⟨fun pins s' σ H' v u Q I r h => h s H C cl fp pins s' u I r⟩) pts_B (fun s H C cl fp => ⟨fun pins s' σ H' Q I h => h s H C cl fp pins s' I⟩) hfs) h
end
end W9

/-! W9o: the checker -/
namespace W9
open PySem L2
structure Stc where
  N : List Str
  sc : Scope
  cf : Str → Bool
  bs : List Str
  fs : List (Str × Nat)
  gs : List Str
def visB (sc : Scope) (x : Str) : Bool := match sc.names.lookup x with | some .local => true | some .cell => true | some .free => true | _ => false
def locB (sc : Scope) (x : Str) : Bool := match sc.names.lookup x with | some .local => true | some .cell => true | _ => false
def isLoc (sc : Scope) (x : Str) : Bool := match sc.names.lookup x with | some .local => true | _ => false
def glB (sc : Scope) (x : Str) : Bool := match sc.names.lookup x with | some .globalImplicit => true | _ => false
def okNm (x : Str) : Bool := !(x == ("__debug__" : Str)) && !(x == ("__classdict__" : Str))
def stB (T : Stc) (x : Str) : Bool := T.cf x || isLoc T.sc x
def slotB (T : Stc) (i : Nat) (x : Str) : Bool := decide (T.N[i]? = some x)
def Stc.blk (T : Stc) (scope : Scope) : Stc := { T with sc := relS scope T.sc, cf := fun x => scope.names.lookup x == some .cell }
def notStar : Expr → Bool
  | .Starred .. => false
  | _ => true
def notSet : Expr → Bool
  | .Set .. => false
  | _ => true
def notSlice : Expr → Bool
  | .Slice .. => false
  | _ => true
def baseOk : Expr → Bool
  | .Call .. => false
  | _ => true
def notComp : Expr → Bool
  | .ListComp .. => false
  | .SetComp .. => false
  | .DictComp .. => false
  | _ => true
/-- a, b = x, y: stored as a tuple's items are -/
def swN (sc : Scope) (ts : List Expr) (value : Expr) : Bool :=
  match value with
  | .Tuple vs _ _ =>
    (!(ts.length == 2 || ts.length == 3) || vs.length != ts.length) ||
    (vs.any fun | .Starred .. => true | _ => false) ||
    ((ts.filterMap fun
      | .Name id pos => if sc.names.lookup id == some .local && pos.line == (ts.head?.map (·.pos.line)).getD 0 then some id else none
      | _ => none).length != ts.length) ||
    vs.all (foldedForSure 8)
  | _ => true
/-- .. or exchanged -/
def par2B (sc : Scope) (ts : List Expr) (v : Expr) : Bool := match ts, v with
  | [.Name x px, .Name y py], .Tuple [a, b] _ _ => isLoc sc x && isLoc sc y && (py.line == px.line) && decide (x ≠ y) && notStar a && notStar b && !([a, b].all (foldedForSure 8)) && !([a, b].all (constantsAlone 8))
  | _, _ => false
def par3B (sc : Scope) (ts : List Expr) (v : Expr) : Bool := match ts, v with
  | [.Name x px, .Name y py, .Name z pz], .Tuple [a, b, c] _ _ => isLoc sc x && isLoc sc y && isLoc sc z && (py.line == px.line) && (pz.line == px.line) && decide (x ≠ y) && decide (x ≠ z) && decide (y ≠ z) && notStar a && notStar b && notStar c &&
    !([a, b, c].all (foldedForSure 8)) && !([a, b, c].all (constantsAlone 8))
  | _, _ => false
def isTupE : Ex → Bool
  | .tup _ => true
  | _ => false
def chNs (T : Stc) : List Expr → List Nat → Bool
  | [], [] => true
  | .Name x _ :: es, i :: is => slotB T i x && locB T.sc x && stB T x && chNs T es is
  | _, _ => false
def chTg (T : Stc) (e : Expr) : Tg → Bool
  | .name i => match e with | .Name x _ => slotB T i x && locB T.sc x && stB T x | _ => false
  | .tup is => match e with | .Tuple es _ _ => chNs T es is | _ => false
def cstB (e : Expr) (d : D) : Bool := match e with
  | .Constant (.int i) _ _ => decide (d = .int i)
  | .Constant (.str s) _ _ => decide (d = .str s)
  | .Constant (.bool b) _ _ => decide (d = .bl b)
  | .Constant .none _ _ => decide (d = .non)
  | _ => false
def isTup : Expr → Bool
  | .Tuple .. => true
  | _ => false
def ownP (T : Stc) (own : List Nat) : List (Str × Nat) := own.map fun i => (T.N.getD i "", i)
def okBin : Operator → Bool
  | .Add => true | .Sub => true | .Mult => true | .FloorDiv => true | .Mod => true | .Pow => true | _ => false
mutual
def chE (T : Stc) : Ex → Expr → Bool
  | .var i, e => (match e with | .Name x _ => slotB T i x && visB T.sc x && okNm x | _ => false)
  | .cst d, e => cstB e d
  | .glob y, e => (match e with | .Name x _ => decide (x = y) && T.gs.contains x && glB T.sc x && okNm x | _ => false)
  | .tup es, e => (match e with | .Tuple xs _ _ => chA T es xs | _ => false)
  | .lst es, e => (match e with | .List xs _ => chA T es xs | _ => false)
  | .dict0, e => (match e with | .Dict [] [] _ => true | _ => false)
  | .dict _ _, _ => false
  | .bin op a b, e => (match e with | .BinOp x o y _ => decide (o = op) && okBin op && chE T a x && chE T b y | _ => false)
  | .neg a, e => (match e with | .UnaryOp .USub x _ => chE T a x | _ => false)
  | .cmp op a b, e => (match e with | .Compare x [o] [y] _ => decide (o = op) && notSet y && chE T a x && chE T b y | _ => false)
  | .chain o1 o2 a b c, e => (match e with | .Compare x [p1, p2] [y, z] _ => decide (p1 = o1) && decide (p2 = o2) && notSet z && chE T a x && chE T b y && chE T c z | _ => false)
  | .and a b, e => (match e with
    | .BoolOp .And [x, y] _ => chE T a x && chE T b y
    | .BoolOp .And (x :: y :: z :: r) pos => chE T a x && chE T b (.BoolOp .And (y :: z :: r) pos)
    | _ => false)
  | .or a b, e => (match e with
    | .BoolOp .Or [x, y] _ => chE T a x && chE T b y
    | .BoolOp .Or (x :: y :: z :: r) pos => chE T a x && chE T b (.BoolOp .Or (y :: z :: r) pos)
    | _ => false)
  | .not a, e => (match e with | .UnaryOp .Not x _ => chE T a x | _ => false)
  | .ite c a b, e => (match e with | .IfExp x y z _ => chE T c x && chE T a y && chE T b z | _ => false)
  | .idx a i, e => (match e with | .Subscript x y _ => notSlice y && chE T a x && chE T i y | _ => false)
  | .sl a lo hi, e => (match e with | .Subscript x (.Slice l h none _) _ => chE T a x && chO T lo l && chO T hi h | _ => false)
  | .call f es, e => (match e with | .Call (.Name x _) (y :: ys) [] _ => decide (x = f) && T.fs.contains (x, ys.length + 1) && glB T.sc x && okNm x && chA T es (y :: ys) | _ => false)
  | .bi b es, e => (match e with | .Call (.Name x _) (y :: ys) [] _ => decide (x = b.name) && T.bs.contains x && glB T.sc x && chA T es (y :: ys) | _ => false)
  | .meth m o es, e => (match e with | .Call (.Attribute x nm ap) (y :: ys) [] cp => decide (nm = m.name) && baseOk x && (ap.endLine == cp.line) && decide ((y :: ys).length < 20) && chE T o x && chA T es (y :: ys) | _ => false)
  | .lc own src tg c el, e => (match e with
    | .ListComp elt [⟨t, iter, ifs, 0⟩] scope _ => blkC T.N T.sc scope (ownP T own) && notSet iter && chI T src t iter && chTg (T.blk scope) t tg && chO (T.blk scope) c ifs.head? && decide (ifs.length ≤ 1) && chE (T.blk scope) el elt && tg.slots.all (fun i => own.contains i)
    | _ => false)
def chA (T : Stc) : Exs → List Expr → Bool
  | .nil, es => (match es with | [] => true | _ => false)
  | .cons c cs, es => (match es with | e :: r => notStar e && chE T c e && chA T cs r | _ => false)
def chO (T : Stc) : Exo → Option Expr → Bool
  | .none, o => (match o with | none => true | _ => false)
  | .some c, o => (match o with | some e => chE T c e | _ => false)
def chI (T : Stc) : Src → Expr → Expr → Bool
  | .seq c, _, e => chE T c e
  | .rng1 a, _, e => (match e with | .Call (.Name x _) [y] [] _ => decide (x = ("range" : Str)) && T.bs.contains x && glB T.sc x && notStar y && chE T a y | _ => false)
  | .rng2 a b, _, e => (match e with | .Call (.Name x _) [y, z] [] _ => decide (x = ("range" : Str)) && T.bs.contains x && glB T.sc x && notStar y && notStar z && chE T a y && chE T b z | _ => false)
  | .enum a, t, e => (match e with | .Call (.Name x _) [y] [] _ => isTup t && decide (x = ("enumerate" : Str)) && T.bs.contains x && glB T.sc x && notStar y && chE T a y | _ => false)
end
/-- name = comprehension: whether the stores are exchanged -/
def swB (sc : Scope) (x : Str) (px : Pos) : Expr → Bool
  | .ListComp _ _ s p => (sc.names.lookup x == some .local) && (px.line == p.line) && !(s.names.any fun (n, k) => n == x && (k == .local || k == .cell))
  | _ => false
def isLcE : Ex → Bool
  | .lc .. => true
  | _ => false
mutual
def chS (T : Stc) : Sm → Stmt → Bool
  | .asg i c, s => (match s with | .Assign [.Name x px] v _ => slotB T i x && locB T.sc x && stB T x && chE T c v && (notComp v || isLcE c) | _ => false)
  | .asgT is c, s => (match s with
    | .Assign [.Tuple ts k p] v pos => notComp v && chE T c v && chNs T ts is && (swN T.sc ts v || ((par2B T.sc ts v || par3B T.sc ts v) && isTupE c && decide (is.Nodup)))
    | _ => false)
  | .setIx o i c, s => (match s with | .Assign [.Subscript x y _] v _ => notComp v && notSlice y && chE T c v && chE T o x && chE T i y | _ => false)
  | .aug i op c, s => (match s with | .AugAssign (.Name x _) o v _ => slotB T i x && locB T.sc x && stB T x && decide (o = op) && chE T c v | _ => false)
  | .expr c, s => (match s with | .Expr v _ => notComp v && chE T c v | _ => false)
  | .ret c, s => (match s with | .Return (some v) _ => chE T c v | _ => false)
  | .retN, s => (match s with | .Return none _ => true | _ => false)
  | .ite c a b, s => (match s with | .If x y z _ => chE T c x && chSs T a y && chSs T b z | _ => false)
  | .forS src tg body, s => (match s with | .For t iter b [] _ => notSet iter && chI T src t iter && chTg T t tg && chSs T body b | _ => false)
  | .pass, s => (match s with | .Pass _ => true | _ => false)
  | .brk, s => (match s with | .Break _ => true | _ => false)
  | .cont, s => (match s with | .Continue _ => true | _ => false)
  | .never, _ => true
def chSs (T : Stc) : Sms → List Stmt → Bool
  | .nil, s => (match s with | [] => true | _ => false)
  | .cons c cs, s => (match s with | x :: r => chS T c x && chSs T cs r | _ => false)
end
end W9

/-! W9p: the checker is right -/
namespace W9
open PySem L2
theorem kindOf_eq (env : PySem.Env) (x : Str) : env.kindOf x = env.scope.names.lookup x := rfl
theorem isLoc_eq {sc : Scope} {x : Str} (h : isLoc sc x = true) : sc.names.lookup x = some .local := by
  unfold isLoc at h
  split at h
  · assumption
  · cases h
theorem locB_eq {sc : Scope} {x : Str} (h : locB sc x = true) : Loc sc x := by
  unfold locB at h
  split at h
  · exact .inl (by assumption)
  · exact .inr (by assumption)
  · cases h
theorem visB_eq {sc : Scope} {x : Str} (h : visB sc x = true) : Vis sc x := by
  unfold visB at h
  split at h
  · exact .inl (by assumption)
  · exact .inr (.inl (by assumption))
  · exact .inr (.inr (by assumption))
  · cases h
theorem glB_eq {sc : Scope} {x : Str} (h : glB sc x = true) : sc.names.lookup x = some .globalImplicit := by
  unfold glB at h
  split at h
  · assumption
  · cases h
theorem star_cons {e : Expr} {es : List Expr} {env : PySem.Env} (h : notStar e = true) : starEach (e :: es) env = (false, eval e env) :: starEach es env := by
  cases e <;> first | rfl | (cases h)
theorem star_any {env : PySem.Env} {pos : Pos} : ∀ {es : List Expr}, es.all notStar = true → (backTo pos (starEach es env)).any (·.1) = false
  | [], _ => rfl
  | e :: es, h => by
    simp only [List.all_cons, Bool.and_eq_true] at h
    rw [star_cons h.1]
    have ih := star_any (env := env) (pos := pos) h.2
    show (false || (backTo pos (starEach es env)).any (·.1)) = false
    rw [ih]; rfl
theorem star_all {env : PySem.Env} {pos : Pos} : ∀ {es : List Expr}, es.all notStar = true → (backTo pos (starEach es env)).all (fun x => !x.1) = true
  | [], _ => rfl
  | e :: es, h => by
    simp only [List.all_cons, Bool.and_eq_true] at h
    rw [star_cons h.1]
    have ih := star_all (env := env) (pos := pos) h.2
    show (true && (backTo pos (starEach es env)).all (fun x => !x.1)) = true
    rw [ih]; rfl
theorem set_marks {op : CmpOp} {e : Expr} (h : notSet e = true) : behindInMarks op e = false := by
  cases e <;> first | rfl | (cases h)
theorem set_fold {e : Expr} {env : PySem.Env} (h : notSet e = true) : ∀ x, foldedSetIterable e env x = pure x := by
  intro x
  cases e <;> first | rfl | (cases h)
theorem slice_plain {e : Expr} (h : notSlice e = true) : PlainIx e := by
  intro o i
  cases e <;> first | rfl | (cases h)
theorem base_ok {o : Expr} {n : Str} {env : PySem.Env} {w : Sem Value} (h : baseOk o = true) : attributeBase o n env w = w := by
  cases o <;> first | rfl | (cases h)
theorem comp_sw {v : Expr} {t : Option Expr} {l : Nat} {env : PySem.Env} (h : notComp v = true) : swapsWith v t l env = pure false := by
  cases v <;> first | rfl | (cases h)
theorem block_fn {env : PySem.Env} (h : env.scope.kind = .function) : env.blockKind = .function := by
  unfold Env.blockKind
  rw [h]; rfl
theorem swN_ok {ts : List Expr} {v : Expr} {k : Nat} {p : Pos} {env : PySem.Env} (h : swN env.scope ts v = true) : swappedStores [.Tuple ts k p] v env = pure none := by
  unfold swN at h
  split at h
  · rename_i vs k2 p2
    simp only [Bool.or_eq_true] at h
    unfold swappedStores
    simp only [pure_bind]
    split
    · rfl
    · rename_i c1
      split
      · rfl
      · rename_i c2
        split
        · rfl
        · rename_i c3
          split
          · rfl
          · rename_i c4
            exfalso
            rcases h with ((h | h) | h) | h
            · apply c1
              simp only [Bool.or_eq_true]
              exact .inl h
            · exact c2 h
            · apply c3
              simp only [Bool.or_eq_true]
              exact .inl h
            · exact c4 h
  · rename_i hn
    unfold swappedStores
    cases v <;> first | rfl | exact absurd rfl (hn _ _ _)
theorem any_star : ∀ {vs : List Expr}, vs.all notStar = true → (vs.any fun | .Starred .. => true | _ => false) = false
  | [], _ => rfl
  | e :: es, h => by
    simp only [List.all_cons, Bool.and_eq_true] at h
    rw [List.any_cons, any_star h.2]
    cases e <;> first | rfl | (cases h.1)
theorem par2_ok {x y : Str} {px py p p2 : Pos} {a b : Expr} {k k2 : Nat} {env : PySem.Env} (hk : env.scope.kind = .function) (h : par2B env.scope [.Name x px, .Name y py] (.Tuple [a, b] k2 p2) = true) :
    swappedStores [.Tuple [.Name x px, .Name y py] k p] (.Tuple [a, b] k2 p2) env = pure (some [x, y]) := by
  have hb := block_fn hk
  simp only [par2B, Bool.and_eq_true, decide_eq_true_eq, Bool.not_eq_true'] at h
  obtain ⟨⟨⟨⟨⟨⟨⟨h1, h2⟩, h3⟩, h4⟩, h5⟩, h6⟩, h7⟩, h8⟩ := h
  have e1 := isLoc_eq h1
  have e2 := isLoc_eq h2
  have hs := any_star (vs := [a, b]) (by simp [h5, h6])
  have h3' : py.line = px.line := beq_iff_eq.mp h3
  unfold swappedStores
  simp only [pure_bind, hb, hs, h7, h8]
  simp [kindOf_eq, e1, e2, Expr.pos, h3', h4, List.eraseDups_cons, Ne.symm h4]
  intro hh
  exfalso
  rcases hh with hh | hh
  · cases a <;> first | (cases hh; done) | (cases h5; done)
  · cases b <;> first | (cases hh; done) | (cases h6; done)
theorem par3_ok {x y z : Str} {px py pz p p2 : Pos} {a b c : Expr} {k k2 : Nat} {env : PySem.Env} (hk : env.scope.kind = .function) (h : par3B env.scope [.Name x px, .Name y py, .Name z pz] (.Tuple [a, b, c] k2 p2) = true) :
    swappedStores [.Tuple [.Name x px, .Name y py, .Name z pz] k p] (.Tuple [a, b, c] k2 p2) env = pure (some [x, y, z]) := by
  have hb := block_fn hk
  simp only [par3B, Bool.and_eq_true, decide_eq_true_eq, Bool.not_eq_true'] at h
  obtain ⟨⟨⟨⟨⟨⟨⟨⟨⟨⟨⟨⟨h1, h2⟩, h0⟩, h3⟩, h3z⟩, h4⟩, h4z⟩, h4y⟩, h5⟩, h6⟩, h6c⟩, h7⟩, h8⟩ := h
  have e1 := isLoc_eq h1
  have e2 := isLoc_eq h2
  have e3 := isLoc_eq h0
  have hs := any_star (vs := [a, b, c]) (by simp [h5, h6, h6c])
  have h3' : py.line = px.line := beq_iff_eq.mp h3
  have h3'' : pz.line = px.line := beq_iff_eq.mp h3z
  unfold swappedStores
  simp only [pure_bind, hb, hs, h7, h8]
  simp [kindOf_eq, e1, e2, e3, Expr.pos, h3', h3'', h4, h4z, h4y, List.eraseDups_cons, Ne.symm h4, Ne.symm h4z, Ne.symm h4y]
  intro hh
  exfalso
  rcases hh with hh | hh | hh
  · cases a <;> first | (cases hh; done) | (cases h5; done)
  · cases b <;> first | (cases hh; done) | (cases h6; done)
  · cases c <;> first | (cases hh; done) | (cases h6c; done)
theorem swB_ok {x : Str} {px pos spos : Pos} {elt : Expr} {gs : List Comprehension} {scope : Scope} {l : Nat} {env : PySem.Env} (hk : env.scope.kind = .function) : swapsWith (.ListComp elt gs scope pos) (some (.Name x px)) l env = pure (swB env.scope x px (.ListComp elt gs scope pos)) := by
  have hb := block_fn hk
  unfold swapsWith
  simp only [pure_bind, hb, kindOf_eq, swB, Expr.pos]
  simp
end W9

/-! W9q: THE SOUNDNESS: what the checker takes runs as the interpreter tells -/
namespace W9
open PySem L2
structure Good (X : Cx) (T : Stc) (C : Cts) (k : Nat) : Prop where
  N : X.N = T.N
  nd : T.N.Nodup
  sc : X.env.scope = T.sc
  kind : T.sc.kind = .function
  fn : ∀ x, T.cf x = true → X.fn x = true
  calm : X.calm = true
  gd : X.A.guards = some []
  room : Room k X.A
  bi : ∀ x ∈ T.bs, X.mg x = none
  fns : ∀ p ∈ T.fs, Callee X.prog X.w X.K X.mg X.base k p.1 p.2 (C.fn p.1)
  gls : ∀ x ∈ T.gs, ∃ d u v, C.gl x = some d ∧ X.mg x = some u ∧ RelV v u ∧ ∀ ρ H, Rep X.K ρ H d v
  pas : PassesOwn (model X.prog X.w) X.A X.env X.xe
section
variable {X : Cx} {T : Stc} {C : Cts} {k : Nat}
theorem Good.u65 (G : Good X T C k) : X.A.units + 65 < cLine := by have := G.room.un; omega
theorem Good.u1 (G : Good X T C k) : X.A.units + 1 < cLine := by have := G.room.un; omega
theorem Good.slot (G : Good X T C k) {i : Nat} {x : Str} (h : slotB T i x = true) : X.N[i]? = some x := by
  rw [G.N]; exact of_decide_eq_true h
theorem Good.ndX (G : Good X T C k) : X.N.Nodup := by rw [G.N]; exact G.nd
theorem Good.gl (G : Good X T C k) {x : Str} (h : glB T.sc x = true) : Gl X x := by
  show X.env.kindOf x = _
  rw [kindOf_eq, G.sc]
  exact glB_eq h
theorem Good.st (G : Good X T C k) {x : Str} (h : stB T x = true) : X.fn x = true ∨ X.env.scope.names.lookup x = some .local := by
  unfold stB at h
  rw [Bool.or_eq_true] at h
  rcases h with h | h
  · exact .inl (G.fn x h)
  · exact .inr (by rw [G.sc]; exact isLoc_eq h)
theorem Good.loc (G : Good X T C k) {x : Str} (h : locB T.sc x = true) : Loc X.env.scope x := by rw [G.sc]; exact locB_eq h
theorem okNm_eq {x : Str} (h : okNm x = true) : (x == ("__debug__" : Str)) = false ∧ (x == ("__classdict__" : Str)) = false := by
  unfold okNm at h
  simp only [Bool.and_eq_true, Bool.not_eq_true'] at h
  exact h
theorem Good.blk (G : Good X T C k) (scope : Scope) (hk : scope.kind = .function) : Blks X scope fun Y => Good Y (T.blk scope) C k := by
  intro s H C0 cl fp
  refine ⟨G.N, G.nd, ?_, hk, fun x h => h, G.calm, G.gd, G.room, G.bi, G.fns, G.gls, PassesOwn.never⟩
  show relabel scope X.env = relS scope T.sc
  rw [← G.sc]
  rfl
theorem ch_nms (G : Good X T C k) : ∀ {es : List Expr} {is : List Nat}, chNs T es is = true → Nms X es is
  | [], [], _ => .nil
  | [], _ :: _, h => by simp [chNs] at h
  | e :: es, is, h => by
    cases is with
    | nil => cases e <;> simp [chNs] at h
    | cons i is =>
      cases e with
      | Name x p =>
        simp only [chNs, Bool.and_eq_true] at h
        exact .cons ⟨x, p, rfl, G.slot h.1.1.1, G.loc h.1.1.2, G.st h.1.2⟩ (ch_nms G h.2)
      | _ => simp [chNs] at h
theorem ch_tg (G : Good X T C k) {e : Expr} {t : Tg} (h : chTg T e t = true) : SndG X e t := by
  cases t with
  | name i =>
    simp only [chTg] at h
    split at h
    · simp only [Bool.and_eq_true] at h
      exact sndG_name G.ndX (G.slot h.1.1) (G.loc h.1.2) (G.st h.2)
    · cases h
  | tup is =>
    simp only [chTg] at h
    split at h
    · exact sndG_tup G.calm G.ndX (ch_nms G h)
    · cases h
theorem ok_binD (op : Operator) (h : okBin op = true) : OkOp X (binaryOp op) (binD op) := by
  cases op <;> first | (cases h; done) | exact ok_add | exact ok_sub | exact ok_mul | exact ok_div | exact ok_mod | exact ok_pow
theorem ok_cmpD (G : Good X T C k) (op : CmpOp) : OkOp X (compareOp op) (cmpD op) := by
  have h1 := G.u65
  cases op <;> first | exact ok_eq (by omega) | exact ok_ne (by omega) | exact ok_lt | exact ok_le | exact ok_gt | exact ok_ge | exact ok_is | exact ok_isnot | exact ok_in h1 | exact ok_notin h1
theorem pt_ife {a b c : Expr} {pos : Pos} {tc ta tb : TT} (hc : PT X c tc) (ha : PT X a ta) (hb : PT X b tb) : PT X (.IfExp c a b pos) (fun σ H Q => tc σ H fun r H1 => if r = true then ta σ H1 Q else tb σ H1 Q) := by
  refine ⟨fun pins s σ H Q I h => ?_⟩
  unfold PySem.isTrue
  refine wpAny_bind (thn (hc.run pins s σ H _ I h) fun r s1 ⟨H1, I1, q1⟩ => ?_)
  cases r with
  | true => exact ha.run pins s1 σ H1 Q I1 q1
  | false => exact hb.run pins s1 σ H1 Q I1 q1
theorem sndT_ite {a b c : Expr} {pos : Pos} {tc ta tb : Env → M Bool} (hc : SndT X c tc) (ha : SndT X a ta) (hb : SndT X b tb) : SndT X (.IfExp c a b pos) (fun env => M.bind (tc env) fun r => if r = true then ta env else tb env) := by
  intro ρ st env σ H d st' S R e Q P
  obtain ⟨r, st1, e1, e2⟩ := bind_ok e
  refine wt_of (pt_ife pt_wt pt_wt pt_wt) (hc ρ st env σ H r st1 S R e1 _ fun ρ1 H1 g1 S1 => ?_)
  cases r with
  | true => rw [if_pos rfl] at e2 ⊢; exact ha ρ1 st1 env σ H1 d st' S1 (R.grow g1) e2 Q (P.grow g1)
  | false => rw [if_neg (by decide)] at e2 ⊢; exact hb ρ1 st1 env σ H1 d st' S1 (R.grow g1) e2 Q (P.grow g1)
end
theorem evs_len (C : Cts) : ∀ (cs : Exs) (T : Stc) (es : List Expr) (env : Env) (st : Store) (ds : List D) (st' : Store), chA T cs es = true → evs C cs env st = .ok ds st' → ds.length = es.length
  | .nil, T, es, env, st, ds, st', h, e => by
    simp only [chA] at h
    split at h
    · cases e; rfl
    · cases h
  | .cons c cs, T, es, env, st, ds, st', h, e => by
    simp only [chA] at h
    split at h
    · simp only [Bool.and_eq_true] at h
      obtain ⟨x, st1, e1, e2⟩ := bind_ok e
      obtain ⟨xs, st2, e2, e3⟩ := bind_ok e2
      cases e3
      exact congrArg (· + 1) (evs_len C cs T _ env st1 xs _ h.2 e2)
    · cases h
theorem chA_star (T : Stc) : ∀ (cs : Exs) (es : List Expr), chA T cs es = true → es.all notStar = true
  | .nil, es, h => by
    simp only [chA] at h
    split at h
    · rfl
    · cases h
  | .cons c cs, es, h => by
    simp only [chA] at h
    split at h
    · simp only [Bool.and_eq_true] at h
      simp only [List.all_cons, Bool.and_eq_true]
      exact ⟨h.1.1, chA_star T cs _ h.2⟩
    · cases h
theorem blk_kind {N : List Str} {sc scope : Scope} {own : List (Str × Nat)} (h : blkC N sc scope own = true) : scope.kind = .function := (blkOk_by h).kind
theorem own_map (T : Stc) (own : List Nat) : (ownP T own).map (·.2) = own := by
  unfold ownP
  rw [List.map_map]
  exact List.map_id own
/-- the value and the test -/
def Both (X : Cx) (e : Expr) (m : EvM) : Prop := SndE X e m.1 ∧ SndT X e m.2 ∧ ((∃ op vs p, e = .BoolOp op vs p) → SndW X e m.2)
theorem both_plain {X : Cx} {e : Expr} {v : Env → M D} (h : SndE X e v) (he : ∀ whole, isTrue e X.env whole = (do let v ← whole; standAt e.pos; holding [v] (truthy v))) (hb : ∀ op vs p, e ≠ .BoolOp op vs p) : Both X e (plain v) :=
  ⟨h, sndT_plain h he, fun ⟨op, vs, p, z⟩ => absurd z (hb op vs p)⟩
mutual
theorem sE (C : Cts) : ∀ (c : Ex) {X : Cx} {T : Stc} {k : Nat} {e : Expr}, Good X T C k → chE T c e = true → Both X e (bo C c)
  | .var i, X, T, k, e, G, h => by
    simp only [chE] at h
    split at h
    · simp only [Bool.and_eq_true] at h
      obtain ⟨h3, h4⟩ := okNm_eq h.2
      exact both_plain (snd_var (G.slot h.1.1) (by rw [G.sc]; exact visB_eq h.1.2) h3 h4) (fun _ => rfl) (fun _ _ _ z => nomatch z)
    · cases h
  | .cst d, X, T, k, e, G, h => by
    simp only [chE, cstB] at h
    split at h
    · have := of_decide_eq_true h; subst this; exact both_plain snd_int (fun _ => rfl) (fun _ _ _ z => nomatch z)
    · have := of_decide_eq_true h; subst this; exact both_plain snd_str (fun _ => rfl) (fun _ _ _ z => nomatch z)
    · have := of_decide_eq_true h; subst this; exact both_plain snd_bl (fun _ => rfl) (fun _ _ _ z => nomatch z)
    · have := of_decide_eq_true h; subst this; exact both_plain snd_non (fun _ => rfl) (fun _ _ _ z => nomatch z)
    · cases h
  | .glob y, X, T, k, e, G, h => by
    simp only [chE] at h
    split at h
    · simp only [Bool.and_eq_true, List.contains_eq_mem, decide_eq_true_eq] at h
      obtain ⟨⟨⟨h1, h2⟩, h3⟩, h4⟩ := h
      rename_i x0 p0
      subst h1
      obtain ⟨d, u, v, g1, g2, g3, g4⟩ := G.gls _ h2
      have key : (bo C (.glob x0)) = plain (fun _ st => .ok d st) := by
        unfold bo
        rw [g1]
      rw [key]
      exact both_plain (snd_glob (G.gl h3) g2 g3 g4 (okNm_eq h4).1) (fun _ => rfl) (fun _ _ _ z => nomatch z)
    · cases h
  | .tup es, X, T, k, e, G, h => by
    simp only [chE] at h
    split at h
    · exact both_plain (snd_tup (sA C es G h)) (fun _ => rfl) (fun _ _ _ z => nomatch z)
    · cases h
  | .lst es, X, T, k, e, G, h => by
    simp only [chE] at h
    split at h
    · exact both_plain (snd_lst (sA C es G h)) (fun _ => rfl) (fun _ _ _ z => nomatch z)
    · cases h
  | .dict0, X, T, k, e, G, h => by
    simp only [chE] at h
    split at h
    · exact both_plain snd_dict0 (fun _ => rfl) (fun _ _ _ z => nomatch z)
    · cases h
  | .dict _ _, X, T, k, e, G, h => by
    simp only [chE] at h
    cases h
  | .bin op a b, X, T, k, e, G, h => by
    simp only [chE] at h
    split at h
    · simp only [Bool.and_eq_true, decide_eq_true_eq] at h
      obtain ⟨⟨⟨h1, h2⟩, h3⟩, h4⟩ := h
      subst h1
      exact both_plain (snd_bin (ok_binD _ h2) (sE C a G h3).1 (sE C b G h4).1) (fun _ => rfl) (fun _ _ _ z => nomatch z)
    · cases h
  | .neg a, X, T, k, e, G, h => by
    simp only [chE] at h
    split at h
    · exact both_plain (snd_neg (sE C a G h).1) (fun _ => rfl) (fun _ _ _ z => nomatch z)
    · cases h
  | .cmp op a b, X, T, k, e, G, h => by
    simp only [chE] at h
    split at h
    · simp only [Bool.and_eq_true, decide_eq_true_eq] at h
      obtain ⟨⟨⟨h1, h2⟩, h3⟩, h4⟩ := h
      subst h1
      exact ⟨snd_cmp (ok_cmpD G _) (set_marks h2) (sE C a G h3).1 (sE C b G h4).1, sndT_cmp (ok_cmpD G _) (set_marks h2) (sE C a G h3).1 (sE C b G h4).1, fun ⟨_, _, _, z⟩ => nomatch z⟩
    · cases h
  | .chain o1 o2 a b c, X, T, k, e, G, h => by
    simp only [chE] at h
    split at h
    · simp only [Bool.and_eq_true, decide_eq_true_eq] at h
      obtain ⟨⟨⟨⟨⟨h1, h2⟩, h3⟩, h4⟩, h5⟩, h6⟩ := h
      subst h1 h2
      exact ⟨snd_chain (ok_cmpD G _) (ok_cmpD G _) (set_marks h3) (sE C a G h4).1 (sE C b G h5).1 (sE C c G h6).1, sndT_chain (ok_cmpD G _) (ok_cmpD G _) (set_marks h3) (sE C a G h4).1 (sE C b G h5).1 (sE C c G h6).1, fun ⟨_, _, _, z⟩ => nomatch z⟩
    · cases h
  | .and a b, X, T, k, e, G, h => by
    simp only [chE] at h
    split at h
    · simp only [Bool.and_eq_true] at h
      have ha := sE C a G h.1
      have hb := sE C b G h.2
      rename_i x0 y0 pos0
      have w := sndW_and (pos := pos0) ha.2.1 (sndW_one_and (pos := pos0) hb.2.1)
      exact ⟨snd_and ha.1 (snd_one hb.1), w.t, fun _ => w⟩
    · simp only [Bool.and_eq_true] at h
      have ha := sE C a G h.1
      have hb := sE C b G h.2
      have w := sndW_and ha.2.1 (hb.2.2 ⟨_, _, _, rfl⟩)
      exact ⟨snd_and ha.1 hb.1, w.t, fun _ => w⟩
    · cases h
  | .or a b, X, T, k, e, G, h => by
    simp only [chE] at h
    split at h
    · simp only [Bool.and_eq_true] at h
      have ha := sE C a G h.1
      have hb := sE C b G h.2
      rename_i x0 y0 pos0
      have w := sndW_or (pos := pos0) ha.2.1 (sndW_one_or (pos := pos0) hb.2.1)
      exact ⟨snd_or ha.1 (snd_one hb.1), w.t, fun _ => w⟩
    · simp only [Bool.and_eq_true] at h
      have ha := sE C a G h.1
      have hb := sE C b G h.2
      have w := sndW_or ha.2.1 (hb.2.2 ⟨_, _, _, rfl⟩)
      exact ⟨snd_or ha.1 hb.1, w.t, fun _ => w⟩
    · cases h
  | .not a, X, T, k, e, G, h => by
    simp only [chE] at h
    split at h
    · have ha := sE C a G h
      exact ⟨snd_not ha.1, sndT_not ha.2.1, fun ⟨_, _, _, z⟩ => nomatch z⟩
    · cases h
  | .ite c a b, X, T, k, e, G, h => by
    simp only [chE] at h
    split at h
    · simp only [Bool.and_eq_true] at h
      have hc := sE C c G h.1.1
      have ha := sE C a G h.1.2
      have hb := sE C b G h.2
      exact ⟨snd_ite hc.2.1 ha.1 hb.1, sndT_ite hc.2.1 ha.2.1 hb.2.1, fun ⟨_, _, _, z⟩ => nomatch z⟩
    · cases h
  | .idx a i, X, T, k, e, G, h => by
    simp only [chE] at h
    split at h
    · simp only [Bool.and_eq_true] at h
      exact both_plain (snd_idx G.u1 (slice_plain h.1.1) (sE C a G h.1.2).1 (sE C i G h.2).1) (fun _ => rfl) (fun _ _ _ z => nomatch z)
    · cases h
  | .sl a lo hi, X, T, k, e, G, h => by
    simp only [chE] at h
    split at h
    · simp only [Bool.and_eq_true] at h
      exact both_plain (snd_sl (sE C a G h.1.1).1 (sO C lo G h.1.2) (sO C hi G h.2)) (fun _ => rfl) (fun _ _ _ z => nomatch z)
    · cases h
  | .call f es, X, T, k, e, G, h => by
    simp only [chE] at h
    split at h
    · simp only [Bool.and_eq_true, decide_eq_true_eq, List.contains_eq_mem] at h
      obtain ⟨⟨⟨⟨h1, h2⟩, h3⟩, h4⟩, h5⟩ := h
      subst h1
      have st := chA_star T es _ h5
      simp only [List.all_cons, Bool.and_eq_true] at st
      exact both_plain (snd_call (G.fns _ h2) G.room G.gd (G.gl h3) (okNm_eq h4).1 (star_cons st.1) (star_any st.2) (sA C es G h5) (fun env s ds s' hh => evs_len C es T _ env s ds s' h5 hh)) (fun _ => rfl) (fun _ _ _ z => nomatch z)
    · cases h
  | .bi b es, X, T, k, e, G, h => by
    simp only [chE] at h
    split at h
    · simp only [Bool.and_eq_true, decide_eq_true_eq, List.contains_eq_mem] at h
      obtain ⟨⟨⟨h1, h2⟩, h3⟩, h5⟩ := h
      subst h1
      have st := chA_star T es _ h5
      simp only [List.all_cons, Bool.and_eq_true] at st
      exact both_plain (snd_bi G.calm G.gd G.u65 (G.gl h3) (G.bi _ h2) (star_cons st.1) (star_any st.2) (sA C es G h5)) (fun _ => rfl) (fun _ _ _ z => nomatch z)
    · cases h
  | .meth m o es, X, T, k, e, G, h => by
    simp only [chE] at h
    split at h
    · simp only [Bool.and_eq_true, decide_eq_true_eq] at h
      obtain ⟨⟨⟨⟨⟨h1, h2⟩, h3⟩, h4⟩, h5⟩, h6⟩ := h
      subst h1
      have st := chA_star T es _ h6
      have st' := st
      simp only [List.all_cons, Bool.and_eq_true] at st'
      refine both_plain (snd_meth G.u1 (base_ok h2) ?_ h3 (star_cons st'.1) (star_any st'.2) (sE C o G h5).1 (sA C es G h6)) (fun _ => rfl) (fun _ _ _ z => nomatch z)
      rw [star_all st]
      show (true && true && decide _) = true
      simp only [Bool.true_and, decide_eq_true_eq]
      show _ + 0 + 0 < 30
      omega
    · cases h
  | .lc own src tg c el, X, T, k, e, G, h => by
    simp only [chE] at h
    split at h
    · rename_i elt t iter ifs scope pos
      simp only [Bool.and_eq_true, decide_eq_true_eq] at h
      obtain ⟨⟨⟨⟨⟨⟨⟨h1, h2⟩, h3⟩, h4⟩, h5⟩, h6⟩, h7⟩, h8⟩ := h
      have GB := G.blk scope (blk_kind h1)
      have hc : ifs = ifs.head?.toList := by
        match ifs, h6 with
        | [], _ => rfl
        | [_], _ => rfl
      rw [hc]
      refine both_plain (snd_lc (t := tg) (own := own) (ownp := ownP T own) G.calm G.ndX ?_ (own_map T own) (set_fold h2) (sI C src G h3) (fun s H C0 cl fp => ch_tg (GB s H C0 cl fp) h4) (sTo C c GB h5) (fun s H C0 cl fp => (sE C el (GB s H C0 cl fp) h7).1) ?_) (fun _ => rfl) (fun _ _ _ z => nomatch z)
      · rw [G.N, G.sc]; exact blkOk_by h1
      · intro i hi
        have := List.all_eq_true.mp h8 i hi
        simpa using this
    · cases h
theorem sA (C : Cts) : ∀ (cs : Exs) {X : Cx} {T : Stc} {k : Nat} {es : List Expr}, Good X T C k → chA T cs es = true → SndA X es (evs C cs)
  | .nil, X, T, k, es, G, h => by
    simp only [chA] at h
    split at h
    · exact sndA_nil
    · cases h
  | .cons c cs, X, T, k, es, G, h => by
    simp only [chA] at h
    split at h
    · simp only [Bool.and_eq_true] at h
      exact sndA_cons (sE C c G h.1.2).1 (sA C cs G h.2) (star_cons h.1.1)
    · cases h
theorem sO (C : Cts) : ∀ (c : Exo) {X : Cx} {T : Stc} {k : Nat} {o : Option Expr}, Good X T C k → chO T c o = true → SndO X o (evo C c)
  | .none, X, T, k, o, G, h => by
    simp only [chO] at h
    split at h
    · exact sndO_none
    · cases h
  | .some c, X, T, k, o, G, h => by
    simp only [chO] at h
    split at h
    · exact sndO_some (sE C c G h).1
    · cases h
theorem sTo (C : Cts) : ∀ (c : Exo) {X : Cx} {T : Stc} {k : Nat} {scope : Scope} {o : Option Expr}, (Blks X scope fun Y => Good Y T C k) → chO T c o = true → SndTo X scope o (tsto C c)
  | .none, X, T, k, scope, o, G, h => by
    simp only [chO] at h
    split at h
    · exact fun _ _ => rfl
    · cases h
  | .some c, X, T, k, scope, o, G, h => by
    simp only [chO] at h
    split at h
    · exact fun s H C0 cl fp => (sE C c (G s H C0 cl fp) h).2.1
    · cases h
theorem sI (C : Cts) : ∀ (c : Src) {X : Cx} {T : Stc} {k : Nat} {t e : Expr}, Good X T C k → chI T c t e = true → SndI X t e (srcE C c)
  | .seq c, X, T, k, t, e, G, h => by
    simp only [chI] at h
    exact sndI_seq (sE C c G h).1
  | .rng1 a, X, T, k, t, e, G, h => by
    simp only [chI] at h
    split at h
    · simp only [Bool.and_eq_true, decide_eq_true_eq, List.contains_eq_mem] at h
      obtain ⟨⟨⟨⟨h1, h2⟩, h3⟩, h4⟩, h5⟩ := h
      subst h1
      exact sndI_rng1 (G.gl h3) (G.bi _ h2) (star_cons h4) (sE C a G h5).1
    · cases h
  | .rng2 a b, X, T, k, t, e, G, h => by
    simp only [chI] at h
    split at h
    · simp only [Bool.and_eq_true, decide_eq_true_eq, List.contains_eq_mem] at h
      obtain ⟨⟨⟨⟨⟨⟨h1, h2⟩, h3⟩, h4⟩, h4'⟩, h5⟩, h6⟩ := h
      subst h1
      exact sndI_rng2 (G.gl h3) (G.bi _ h2) (by rw [star_cons h4, star_cons h4']; rfl) (star_cons h4') (sE C a G h5).1 (sE C b G h6).1
    · cases h
  | .enum a, X, T, k, t, e, G, h => by
    simp only [chI] at h
    split at h
    · simp only [Bool.and_eq_true, decide_eq_true_eq, List.contains_eq_mem] at h
      obtain ⟨⟨⟨⟨⟨h0, h1⟩, h2⟩, h3⟩, h4⟩, h5⟩ := h
      subst h1
      cases t with
      | Tuple elts kk tpos => exact sndI_enum (G.gl h3) (G.bi _ h2) (star_cons h4) (sE C a G h5).1
      | _ => cases h0
    · cases h
end
end W9

/-! W9r: THE SOUNDNESS of the statements -/
namespace W9
open PySem L2
theorem chNs_len {T : Stc} : ∀ {es : List Expr} {is : List Nat}, chNs T es is = true → es.length = is.length
  | [], [], _ => rfl
  | [], _ :: _, h => by simp [chNs] at h
  | e :: es, is, h => by
    cases is with
    | nil => cases e <;> simp [chNs] at h
    | cons i is =>
      cases e with
      | Name x p =>
        simp only [chNs, Bool.and_eq_true] at h
        exact congrArg (· + 1) (chNs_len h.2)
      | _ => simp [chNs] at h
theorem sS_par2 {X : Cx} {T : Stc} {C : Cts} {k : Nat} (G : Good X T C k) {ts : List Expr} {v : Expr} {is : List Nat} {es : Exs} {kt : Nat} {p pos : Pos} (h1 : par2B T.sc ts v = true) (hc : chE T (.tup es) v = true) (hn : chNs T ts is = true) (hd : is.Nodup) :
    SndS X (.Assign [.Tuple ts kt p] v pos) (run C (.asgT is (.tup es))) := by
  unfold par2B at h1
  split at h1
  · rename_i x px y py a b k2 p2
    have h1' : par2B X.env.scope [.Name x px, .Name y py] (.Tuple [a, b] k2 p2) = true := by rw [G.sc]; exact h1
    have hw := par2_ok (k := kt) (p := p) (by rw [G.sc]; exact G.kind) h1'
    simp only [Bool.and_eq_true] at h1
    match is, hn, hd with
    | [j, l], hn, hd =>
      simp only [chNs, Bool.and_eq_true] at hn
      simp only [chE] at hc
      have hjl : j ≠ l := by simp at hd; exact hd
      exact sndS_par2 G.calm G.ndX (G.slot hn.1.1.1) (G.slot hn.2.1.1.1) hjl (by rw [G.sc]; exact isLoc_eq h1.1.1.1.1.1.1.1) (by rw [G.sc]; exact isLoc_eq h1.1.1.1.1.1.1.2) hw (sA C es G hc)
    | [], hn, _ => simp [chNs] at hn
    | [_], hn, _ => simp [chNs] at hn
    | _ :: _ :: _ :: _, hn, _ => simp [chNs] at hn
  · cases h1
theorem sS_par3 {X : Cx} {T : Stc} {C : Cts} {k : Nat} (G : Good X T C k) {ts : List Expr} {v : Expr} {is : List Nat} {es : Exs} {kt : Nat} {p pos : Pos} (h1 : par3B T.sc ts v = true) (hc : chE T (.tup es) v = true) (hn : chNs T ts is = true) (hd : is.Nodup) :
    SndS X (.Assign [.Tuple ts kt p] v pos) (run C (.asgT is (.tup es))) := by
  unfold par3B at h1
  split at h1
  · rename_i x px y py z pz a b c k2 p2
    have h1' : par3B X.env.scope [.Name x px, .Name y py, .Name z pz] (.Tuple [a, b, c] k2 p2) = true := by rw [G.sc]; exact h1
    have hw := par3_ok (k := kt) (p := p) (by rw [G.sc]; exact G.kind) h1'
    simp only [Bool.and_eq_true] at h1
    match is, hn, hd with
    | [j, l, n], hn, hd =>
      simp only [chNs, Bool.and_eq_true] at hn
      simp only [chE] at hc
      simp at hd
      obtain ⟨⟨d1, d2⟩, d3⟩ := hd
      exact sndS_par3 G.calm G.ndX (G.slot hn.1.1.1) (G.slot hn.2.1.1.1) (G.slot hn.2.2.1.1.1) d1 d2 d3 (by rw [G.sc]; exact isLoc_eq h1.1.1.1.1.1.1.1.1.1.1.1.1) (by rw [G.sc]; exact isLoc_eq h1.1.1.1.1.1.1.1.1.1.1.1.2) (by rw [G.sc]; exact isLoc_eq h1.1.1.1.1.1.1.1.1.1.1.2) hw (sA C es G hc)
    | [], hn, _ => simp [chNs] at hn
    | [_], hn, _ => simp [chNs] at hn
    | [_, _], hn, _ => simp [chNs] at hn
    | _ :: _ :: _ :: _ :: _, hn, _ => simp [chNs] at hn
  · cases h1
theorem comp_sws {v : Expr} {ts : List Expr} {l : Nat} {env : PySem.Env} (h : notComp v = true) : swapsWithSole ts v l env = pure false := by
  unfold swapsWithSole
  split <;> first | exact comp_sw h | rfl
mutual
theorem sS (C : Cts) : ∀ (c : Sm) {X : Cx} {T : Stc} {k : Nat} {s : Stmt}, Good X T C k → chS T c s = true → SndS X s (run C c)
  | .asg i c, X, T, k, s, G, h => by
    simp only [chS] at h
    split at h
    · rename_i x px v spos
      simp only [Bool.and_eq_true] at h
      obtain ⟨⟨⟨⟨h1, h2⟩, h3⟩, h4⟩, h5⟩ := h
      cases hnc : notComp v with
      | true => exact sndS_asg G.ndX (G.slot h1) (G.loc h2) (G.st h3) (comp_sw hnc) (sE C c G h4).1
      | false =>
        rw [hnc, Bool.false_or] at h5
        cases c with
        | lc own src tg c el =>
          have hE := (sE C (.lc own src tg c el) G h4).1
          simp only [chE] at h4
          split at h4
          · rename_i elt t iter ifs scope pos
            have sw := swB_ok (x := x) (px := px) (pos := pos) (spos := spos) (elt := elt) (gs := [⟨t, iter, ifs, 0⟩]) (scope := scope) (l := spos.line) (env := X.env) (by rw [G.sc]; exact G.kind)
            cases hsw : swB X.env.scope x px (.ListComp elt [⟨t, iter, ifs, 0⟩] scope pos) with
            | false =>
              rw [hsw] at sw
              exact sndS_asg G.ndX (G.slot h1) (G.loc h2) (G.st h3) sw hE
            | true =>
              rw [hsw] at sw
              simp only [Bool.and_eq_true, decide_eq_true_eq] at h4
              obtain ⟨⟨⟨⟨⟨⟨⟨g1, g2⟩, g3⟩, g4⟩, g5⟩, g6⟩, g7⟩, g8⟩ := h4
              have GB := G.blk scope (blk_kind g1)
              have hc : ifs = ifs.head?.toList := by
                match ifs, g6 with
                | [], _ => rfl
                | [_], _ => rfl
              have hyl : X.env.scope.names.lookup x = some .local := by
                simp only [swB, Bool.and_eq_true] at hsw
                exact beq_iff_eq.mp hsw.1.1
              rw [hc] at sw ⊢
              refine sndS_setLc (t := tg) (own := own) (ownp := ownP T own) G.calm G.ndX (G.slot h1) hyl sw ?_ (own_map T own) (set_fold g2) (sI C src G g3) (fun s H C0 cl fp => ch_tg (GB s H C0 cl fp) g4) (sTo C c GB g5) (fun s H C0 cl fp => (sE C el (GB s H C0 cl fp) g7).1) ?_
              · rw [G.N, G.sc]; exact blkOk_by g1
              · intro i hi
                have := List.all_eq_true.mp g8 i hi
                simpa using this
          · cases h4
        | _ => cases h5
    · cases h
  | .asgT is c, X, T, k, s, G, h => by
    simp only [chS] at h
    split at h
    · rename_i ts kt p v pos
      simp only [Bool.and_eq_true, Bool.or_eq_true, decide_eq_true_eq] at h
      obtain ⟨⟨⟨h1, h2⟩, h3⟩, h4⟩ := h
      rcases h4 with h4 | ⟨⟨h4, h5⟩, h6⟩
      · refine sndS_tgt (comp_sws h1) (swN_ok (by rw [G.sc]; exact h4)) rfl (sE C c G h2).1 (sndG_tup G.calm G.ndX (ch_nms G h3))
      · cases c with
        | tup es =>
          rcases h4 with h4 | h4
          · exact sS_par2 G h4 h2 h3 h6
          · exact sS_par3 G h4 h2 h3 h6
        | _ => cases h5
    · cases h
  | .setIx o i c, X, T, k, s, G, h => by
    simp only [chS] at h
    split at h
    · simp only [Bool.and_eq_true] at h
      obtain ⟨⟨⟨⟨h1, h2⟩, h3⟩, h4⟩, h5⟩ := h
      exact sndS_set G.u1 (comp_sw h1) (sE C c G h3).1 (sE C o G h4).1 (sE C i G h5).1
    · cases h
  | .aug i op c, X, T, k, s, G, h => by
    simp only [chS] at h
    split at h
    · simp only [Bool.and_eq_true, decide_eq_true_eq] at h
      obtain ⟨⟨⟨⟨h1, h2⟩, h3⟩, h4⟩, h5⟩ := h
      subst h4
      exact sndS_aug G.ndX (G.slot h1) (G.loc h2) (G.st h3) (sE C c G h5).1
    · cases h
  | .expr c, X, T, k, s, G, h => by
    simp only [chS] at h
    split at h
    · simp only [Bool.and_eq_true] at h
      exact sndS_expr (comp_sw h.1) (sE C c G h.2).1
    · cases h
  | .ret c, X, T, k, s, G, h => by
    simp only [chS] at h
    split at h
    · exact sndS_ret (sE C c G h).1
    · cases h
  | .retN, X, T, k, s, G, h => by
    simp only [chS] at h
    split at h
    · exact sndS_retN
    · cases h
  | .ite c a b, X, T, k, s, G, h => by
    simp only [chS] at h
    split at h
    · simp only [Bool.and_eq_true] at h
      exact sndS_ite (sE C c G h.1.1).2.1 (sSs C a G h.1.2) (sSs C b G h.2)
    · cases h
  | .forS src tg body, X, T, k, s, G, h => by
    simp only [chS] at h
    split at h
    · simp only [Bool.and_eq_true] at h
      exact sndS_for G.pas G.calm (set_fold h.1.1.1) (sI C src G h.1.1.2) (ch_tg G h.1.2) (sSs C body G h.2)
    · cases h
  | .pass, X, T, k, s, G, h => by
    simp only [chS] at h
    split at h
    · exact sndS_pass
    · cases h
  | .brk, X, T, k, s, G, h => by
    simp only [chS] at h
    split at h
    · exact sndS_brk
    · cases h
  | .cont, X, T, k, s, G, h => by
    simp only [chS] at h
    split at h
    · exact sndS_cont
    · cases h
  | .never, X, T, k, s, G, h => sndS_never
theorem sSs (C : Cts) : ∀ (c : Sms) {X : Cx} {T : Stc} {k : Nat} {s : List Stmt}, Good X T C k → chSs T c s = true → SndSs X s (runs C c)
  | .nil, X, T, k, s, G, h => by
    simp only [chSs] at h
    split at h
    · exact sndSs_nil
    · cases h
  | .cons c cs, X, T, k, s, G, h => by
    simp only [chSs] at h
    split at h
    · simp only [Bool.and_eq_true] at h
      exact sndSs_cons (sS C c G h.1) (sSs C cs G h.2)
    · cases h
end
end W9

/-! W9s: defs by their core text, tables of defs -/
namespace W9
open PySem PySem.Spec PyProof.Rows L2
theorem envR_start {K : PySem.W.Frag} {ρ : List Addr} {H : Hp} {ds : List D} {vs : List V} (N : List Str) (r : Reps K ρ H ds vs) : EnvR K ρ H (ds.map some ++ List.replicate (N.length - ds.length) none) (L2.start N vs) := by
  refine ⟨by unfold L2.start; simp [r.length], fun i d h => ?_⟩
  unfold L2.start
  by_cases hi : i < ds.length
  · rw [List.getElem?_append_left (by simpa using hi), List.getElem?_map] at h
    cases e : ds[i]? with
    | none => rw [e] at h; cases h
    | some d' =>
      rw [e] at h
      have h' : some (some d') = some (some d) := h
      cases h'
      obtain ⟨v, h1, h2⟩ := r.get e
      refine ⟨v, ?_, h2⟩
      rw [List.getElem?_append_left (by rw [List.length_map, ← r.length]; exact hi), List.getElem?_map, h1]
      rfl
  · rw [List.getElem?_append_right (by simpa using hi), List.getElem?_replicate] at h
    split at h <;> cases h
/-- a def: its name, its statement, its slots, its parameters, its core -/
structure Df where
  name : Str
  st : Stmt
  N : List Str
  ps : List Str
  body : Sms
def fsB (N ps : List Str) (sc : Scope) : Bool := decide (sc.kind = .function) && !sc.isCoroutine && !sc.isGenerator && decide N.Nodup && decide (N.take ps.length = ps) && ps.all (fun x => locB sc x) && sc.names.all (fun y => !(y.2 == .free))
theorem fsB_ok {N ps : List Str} {sc : Scope} (h : fsB N ps sc = true) : FnScope N ps sc := by
  unfold fsB at h
  simp only [Bool.and_eq_true, decide_eq_true_eq, Bool.not_eq_true', List.all_eq_true] at h
  obtain ⟨⟨⟨⟨⟨⟨h1, h2⟩, h3⟩, h4⟩, h5⟩, h6⟩, h7⟩ := h
  refine ⟨h1, h2, h3, h4, h5, fun x hx => locB_eq (h6 x hx), fun y hy e => ?_⟩
  have := h7 y hy
  rw [e] at this
  exact absurd this (by decide)
/-- how its arguments bind -/
def Df.bnd (d : Df) : Prop := ∀ (kV doc pm : Value) (an : Option Addr) (cdv ct : Value) (us : List Value), us.length = d.ps.length → bindArgs (PySem.W.fnOf d.name d.name (defArgs d.st) (defBody d.st) (defScope d.st) .none kV doc pm an cdv ct) ⟨us, []⟩ = pure (d.ps.zip us)
/-- it stands behind the top -/
structure DefIn (K : PySem.W.Frag) (name : Str) (st : Stmt) : Prop where
  ex : ∃ (f : Addr) (oc : Value) (od an : Option Addr) (osl : Array (Option Value)) (kV doc pm cdv ct : Value), PySem.W.nsIn K mainGlobals name = some (some (.ref f)) ∧
    K.lookup f = some ⟨oc, od, .func (PySem.W.fnOf name name (defArgs st) (defBody st) (defScope st) .none kV doc pm an cdv ct), osl⟩ ∧ PySem.W.codeIn K cdv name = true ∧ PySem.W.keepIn K (.ref f) = true
theorem defIn_mk {K : PySem.W.Frag} {name : Str} {st : Stmt} {f : Addr} {oc : Value} {od an : Option Addr} {osl : Array (Option Value)} {kV doc pm cdv ct : Value} (a : PySem.W.nsIn K mainGlobals name = some (some (.ref f)))
    (l : K.lookup f = some ⟨oc, od, .func (PySem.W.fnOf name name (defArgs st) (defBody st) (defScope st) .none kV doc pm an cdv ct), osl⟩) (c : PySem.W.codeIn K cdv name = true) (k : PySem.W.keepIn K (.ref f) = true) : DefIn K name st :=
  ⟨f, oc, od, an, osl, kV, doc, pm, cdv, ct, a, l, c, k⟩
abbrev Tab := List (Str × Nat × (List D → M D))
def Tab.fn (t : Tab) (x : Str) : List D → M D := match t.lookup x with | some p => p.2 | none => fun _ _ => .no
def Tab.cts (t : Tab) (gl : Str → Option D) : Cts := ⟨t.fn, gl⟩
def Tab.sig (t : Tab) : List (Str × Nat) := t.map fun p => (p.1, p.2.1)
section
variable {P : Program} {w : World} {K : PySem.W.Frag} {mg : Str → Option Value} {base : Heap}
/-- a table's promises -/
def TabOk (P : Program) (w : World) (K : PySem.W.Frag) (mg : Str → Option Value) (base : Heap) (k : Nat) (t : Tab) : Prop := (t.map (·.1)).Nodup ∧ ∀ p ∈ t, Callee P w K mg base k p.1 p.2.1 p.2.2
def GlsOk (K : PySem.W.Frag) (mg : Str → Option Value) (gs : List Str) (gl : Str → Option D) : Prop := ∀ x ∈ gs, ∃ d u v, gl x = some d ∧ mg x = some u ∧ RelV v u ∧ ∀ ρ H, Rep K ρ H d v
theorem Callee.up {x : Str} {n j k : Nat} {g : List D → M D} (c : Callee P w K mg base j x n g) (h : j ≤ k) : Callee P w K mg base k x n g := by
  obtain ⟨f, fd, ps, F, h2⟩ := c.ex
  exact ⟨f, fd, ps, F.up h, h2⟩
theorem Callee.weak {x : Str} {n k : Nat} {g g' : List D → M D} (c : Callee P w K mg base k x n g) (h : ∀ ds st d st', g' ds st = .ok d st' → g ds st = .ok d st') : Callee P w K mg base k x n g' := by
  obtain ⟨f, fd, ps, F, h2⟩ := c.ex
  refine ⟨f, fd, ps, F.weak fun vs H Q E q => ?_, h2⟩
  obtain ⟨ρ, st, ds, d, st', hl, S, r, e, p⟩ := q
  exact ⟨ρ, st, ds, d, st', hl, S, r, h _ _ _ _ e, p⟩
theorem lookup_mem {α : Type} {x : Str} {v : α} : ∀ {t : List (Str × α)}, (t.map (·.1)).Nodup → (x, v) ∈ t → t.lookup x = some v
  | (y, u) :: t, nd, h => by
    simp only [List.map_cons, List.nodup_cons] at nd
    rcases List.mem_cons.mp h with e | e
    · cases e; simp [List.lookup]
    · have hne : ¬ x = y := by
        rintro rfl
        exact nd.1 (List.mem_map.mpr ⟨_, e, rfl⟩)
      have : (x == y) = false := by simpa using hne
      rw [List.lookup_cons, this]
      exact lookup_mem nd.2 e
theorem tab_fns {k : Nat} {t : Tab} (h : TabOk P w K mg base k t) : ∀ p ∈ t.sig, Callee P w K mg base k p.1 p.2 (t.fn p.1) := by
  intro p hp
  obtain ⟨⟨x, n, g⟩, hq, rfl⟩ := List.mem_map.mp hp
  have := h.2 _ hq
  show Callee P w K mg base k x n (t.fn x)
  have e : t.fn x = g := by
    unfold Tab.fn
    rw [lookup_mem h.1 hq]
  rw [e]
  exact this
/-- the checker's table for a def -/
abbrev stcOf (d : Df) (bs : List Str) (fs : List (Str × Nat)) (gs : List Str) : Stc := ⟨d.N, defScope d.st, fun _ => true, bs, fs, gs⟩
/-- THE RULE for a def -/
theorem callee_of {d : Df} {k : Nat} {t : Tab} {bs gs : List Str} {gl : Str → Option D} (T : TabOk P w K mg base k t) (hbs : ∀ x ∈ bs, mg x = none) (hgs : GlsOk K mg gs gl) (hd : DefIn K d.name d.st) (hmg : ∀ f, PySem.W.nsIn K mainGlobals d.name = some (some (.ref f)) → mg d.name = some (.ref f))
    (hb : d.bnd) (hf : fsB d.N d.ps (defScope d.st) = true) (hc : chSs (stcOf d bs t.sig gs) d.body (defBody d.st) = true) :
    Callee P w K mg base (k + 1) d.name d.ps.length (callDef (t.cts gl) d.N.length d.body) := by
  obtain ⟨f, oc, od, an, osl, kV, doc, pm, cdv, ct, a1, l1, c1, k1⟩ := hd.ex
  have S := fsB_ok hf
  refine ⟨f, _, d.ps, fnG_of (k := k) l1 c1 S ?_ ?_, hmg f a1, k1, Binds.all (hb kV doc pm an cdv ct)⟩
  · rintro vs H Q E ⟨ρ, st, ds, r, st', hl, _, hr, _⟩
    rw [← hr.length]; exact hl
  · rintro A outer s H vs Q E room gd ⟨ρ, st, ds, r, st', hl, Sm, hr, e, p⟩
    have G : Good (cxOf CX0 P w K mg base d.N d.name (defScope d.st) f cdv A outer s H E).nox (stcOf d bs t.sig gs) (t.cts gl) k :=
      ⟨rfl, S.nd, rfl, S.kind, fun _ _ => rfl, rfl, gd, room, hbs, tab_fns T, hgs, PassesOwn.never⟩
    have snd := sSs (t.cts gl) d.body G hc
    unfold callDef at e
    obtain ⟨fl, st1, e1, e2⟩ := bind_ok e
    refine wss_of (PSs.nox pss_ws) (snd ρ st _ (L2.start d.N vs) H fl st1 Sm (envR_start d.N hr) e1 _ ?_)
    cases fl with
    | nx env => cases e2; exact fun ρ' H' σ' g' S' R' => p ρ' H' .non g' S' .non
    | ret v => cases e2; exact fun ρ' H' v' g' S' r' => p ρ' H' v' g' S' r'
    | bk env => cases e2
    | ct env => cases e2
theorem tab_step {d : Df} {k : Nat} {t : Tab} {bs gs : List Str} {gl : Str → Option D} {m : List D → M D} (T : TabOk P w K mg base k t) (hbs : ∀ x ∈ bs, mg x = none) (hgs : GlsOk K mg gs gl) (hd : DefIn K d.name d.st) (hmg : ∀ f, PySem.W.nsIn K mainGlobals d.name = some (some (.ref f)) → mg d.name = some (.ref f))
    (hb : d.bnd) (hf : fsB d.N d.ps (defScope d.st) = true) (hc : chSs (stcOf d bs t.sig gs) d.body (defBody d.st) = true) (hn : (t.all fun p => !(p.1 == d.name)) = true)
    (hm : ∀ ds st r st', m ds st = .ok r st' → callDef (t.cts gl) d.N.length d.body ds st = .ok r st') : TabOk P w K mg base (k + 1) ((d.name, d.ps.length, m) :: t) := by
  have c := (callee_of T hbs hgs hd hmg hb hf hc).weak hm
  refine ⟨?_, fun p hp => ?_⟩
  · rw [List.map_cons, List.nodup_cons]
    refine ⟨fun h => ?_, T.1⟩
    obtain ⟨p, hp, e⟩ := List.mem_map.mp h
    have := List.all_eq_true.mp hn p hp
    rw [e] at this
    simp at this
  · rcases List.mem_cons.mp hp with e | e
    · subst e; exact c
    · exact (T.2 p e).up (Nat.le_succ k)
end
end W9

/-! W9t: objects that nobody sees any more may be forgotten, others may be numbered anew -/
namespace W9
open PySem PySem.Spec PyProof.Rows L2
mutual
def D.lt (n : Nat) : D → Bool
  | .tup xs => D.lts n xs
  | .fls xs => D.lts n xs
  | .ob i => decide (i < n)
  | _ => true
def D.lts (n : Nat) : List D → Bool
  | [] => true
  | x :: xs => D.lt n x && D.lts n xs
end
mutual
def D.ren (φ : Nat → Nat) : D → D
  | .tup xs => .tup (D.rens φ xs)
  | .fls xs => .fls (D.rens φ xs)
  | .ob i => .ob (φ i)
  | .non => .non
  | .bl b => .bl b
  | .int i => .int i
  | .str s => .str s
def D.rens (φ : Nat → Nat) : List D → List D
  | [] => []
  | x :: xs => D.ren φ x :: D.rens φ xs
end
def Ob.lt (n : Nat) : Ob → Bool
  | .lst xs => D.lts n xs
  | .dct kvs => kvs.all fun p => p.1.lt n && p.2.lt n
def Ob.ren (φ : Nat → Nat) : Ob → Ob
  | .lst xs => .lst (D.rens φ xs)
  | .dct kvs => .dct (kvs.map fun p => (p.1.ren φ, p.2.ren φ))
theorem ren_book {φ : Nat → Nat} {ds : List D} (h : D.rens φ ds = bookD) : ds = bookD := by
  match ds, h with
  | [], h => simp [D.rens] at h
  | [_], h => simp [D.rens] at h
  | [a, b], h =>
    simp only [D.rens, List.cons.injEq] at h
    obtain ⟨h1, h2, _⟩ := h
    cases a <;> simp [D.ren] at h1
    cases b <;> simp [D.ren] at h2
    subst h1 h2; rfl
  | _ :: _ :: _ :: _, h => simp [D.rens] at h
theorem ren_keyD {φ : Nat → Nat} {d : D} {k : Key} (h : keyD (d.ren φ) = some k) : keyD d = some k := by
  cases d <;> simp only [D.ren, keyD] at h ⊢ <;> first | exact h | cases h
theorem ren_keysD {φ : Nat → Nat} : ∀ {ds : List D} {k : List Key}, keysD (D.rens φ ds) = some k → keysD ds = some k ∧ D.rens φ ds = ds
  | [], _, h => ⟨h, rfl⟩
  | d :: ds, k, h => by
    simp only [D.rens, keysD] at h ⊢
    split at h
    · rename_i a b h1 h2
      cases h
      obtain ⟨g1, g2⟩ := ren_keysD h2
      rw [ren_keyD h1, g1]
      refine ⟨rfl, ?_⟩
      rw [g2]
      congr 1
      cases d <;> simp only [D.ren, keyD] at h1 ⊢ <;> cases h1
    · cases h
theorem ren_keyT {φ : Nat → Nat} {d : D} {k : List Key} (h : keyT (d.ren φ) = some k) : keyT d = some k := by
  cases d with
  | tup ds =>
    simp only [D.ren, keyT] at h ⊢
    split at h
    · cases h
    · rename_i hb
      obtain ⟨g1, g2⟩ := ren_keysD h
      rw [g2] at hb
      rw [if_neg hb]
      exact g1
  | _ => simp only [D.ren, keyT] at h; cases h
section
variable {K : PySem.W.Frag} {ρ ρ2 : List Addr} {H : Hp} {φ : Nat → Nat} {n : Nat}
mutual
theorem rep_ren (hρ : ∀ i < n, ρ2[i]? = ρ[φ i]?) : ∀ {d : D} {v : V}, d.lt n = true → Rep K ρ H (d.ren φ) v → Rep K ρ2 H d v
  | .non, v, _, r => by cases r; exact .non
  | .bl b, v, _, r => by cases r; exact .bl b
  | .int b, v, _, r => by cases r; exact .int b
  | .str b, v, _, r => by cases r; exact .str b
  | .ob i, v, h, r => by
    simp only [D.lt, decide_eq_true_eq] at h
    simp only [D.ren] at r
    cases r with
    | ob h1 => exact .ob (by rw [hρ i h]; exact h1)
  | .tup xs, v, h, r => by
    simp only [D.lt] at h
    simp only [D.ren] at r
    cases r with
    | tup h1 h2 h3 => exact .tup h1 (reps_ren hρ h h2) (h3.imp id ren_book)
  | .fls xs, v, h, r => by
    simp only [D.lt] at h
    simp only [D.ren] at r
    cases r with
    | fls h1 h2 => exact .fls h1 (reps_ren hρ h h2)
theorem reps_ren (hρ : ∀ i < n, ρ2[i]? = ρ[φ i]?) : ∀ {ds : List D} {vs : List V}, D.lts n ds = true → Reps K ρ H (D.rens φ ds) vs → Reps K ρ2 H ds vs
  | [], vs, _, r => by cases r; exact .nil
  | d :: ds, vs, h, r => by
    simp only [D.lts, Bool.and_eq_true] at h
    simp only [D.rens] at r
    cases r with
    | cons r1 r2 => exact .cons (rep_ren hρ h.1 r1) (reps_ren hρ h.2 r2)
end
theorem kvK_ren (hρ : ∀ i < n, ρ2[i]? = ρ[φ i]?) : ∀ {kvs : List (D × D)} {ks : List (Key × V)}, (kvs.all fun p => p.1.lt n && p.2.lt n) = true → KvK K ρ H (kvs.map fun p => (p.1.ren φ, p.2.ren φ)) ks → KvK K ρ2 H kvs ks
  | [], ks, _, r => by cases r; exact .nil
  | p :: kvs, ks, h, r => by
    simp only [List.all_cons, Bool.and_eq_true] at h
    simp only [List.map_cons] at r
    cases r with
    | cons k1 r1 r2 => exact .cons (ren_keyD k1) (rep_ren hρ h.1.2 r1) (kvK_ren hρ (by simpa using h.2) r2)
theorem kvT_ren (hρ : ∀ i < n, ρ2[i]? = ρ[φ i]?) : ∀ {kvs : List (D × D)} {ks : List (List Key × V)}, (kvs.all fun p => p.1.lt n && p.2.lt n) = true → KvT K ρ H (kvs.map fun p => (p.1.ren φ, p.2.ren φ)) ks → KvT K ρ2 H kvs ks
  | [], ks, _, r => by cases r; exact .nil
  | p :: kvs, ks, h, r => by
    simp only [List.all_cons, Bool.and_eq_true] at h
    simp only [List.map_cons] at r
    cases r with
    | cons k1 r1 r2 => exact .cons (ren_keyT k1) (rep_ren hρ h.1.2 r1) (kvT_ren hρ (by simpa using h.2) r2)
theorem ob_ren (hρ : ∀ i < n, ρ2[i]? = ρ[φ i]?) {a : Addr} {o : Ob} (h : o.lt n = true) (r : ObRep K ρ H a (o.ren φ)) : ObRep K ρ2 H a o := by
  cases o with
  | lst xs =>
    obtain ⟨vs, h1, h2⟩ := r
    exact ⟨vs, h1, reps_ren hρ h h2⟩
  | dct kvs =>
    rcases r with ⟨ks, h1, h2⟩ | ⟨ks, h1, h2⟩
    · exact .inl ⟨ks, h1, kvK_ren hρ h h2⟩
    · exact .inr ⟨ks, h1, kvT_ren hρ h h2⟩
end
/-- what is seen of a result and its store: the first n objects keep their numbers -/
structure GC (n : Nat) (d : D) (st : Store) (dr : D) (sr : Store) : Prop where
  ex : ∃ φ : Nat → Nat, (∀ i < n, φ i = i) ∧ n ≤ st.length ∧ (∀ i < st.length, ∀ j < st.length, φ i = φ j → i = j) ∧ (∀ i < st.length, φ i < sr.length) ∧ d.lt st.length = true ∧ d.ren φ = dr ∧ ∀ i o, st[i]? = some o → o.lt st.length = true ∧ sr[φ i]? = some (o.ren φ)
theorem post_gc {K : PySem.W.Frag} {ρ : List Addr} {H : Hp} {d dr : D} {st sr : Store} {Q : VK} (g : GC ρ.length d st dr sr) (p : Post K ρ H st d Q) : Post K ρ H sr dr Q := by
  obtain ⟨φ, h1, h2, h3, h4, h5, h6, h7⟩ := g.ex
  intro ρ' H' v gr S r
  subst h6
  have key : ∀ i < st.length, ∃ a, ρ'[φ i]? = some a := fun i hi => ⟨_, List.getElem?_eq_getElem (by rw [S.len]; exact h4 i hi)⟩
  have hρ : ∀ i < st.length, ((List.range st.length).map fun i => (ρ'[φ i]?).getD 0)[i]? = ρ'[φ i]? := by
    intro i hi
    obtain ⟨a, ha⟩ := key i hi
    rw [List.getElem?_map, List.getElem?_range hi]
    simp [ha]
  have hmem : ∀ a ∈ (List.range st.length).map fun i => (ρ'[φ i]?).getD 0, a ∈ ρ' := by
    intro a ha
    obtain ⟨i, hi, rfl⟩ := List.mem_map.mp ha
    obtain ⟨b, hb⟩ := key i (List.mem_range.mp hi)
    rw [hb]
    exact List.mem_of_getElem? hb
  refine p ((List.range st.length).map fun i => (ρ'[φ i]?).getD 0) H' v ⟨?_, fun a ha hn => gr.fr a (hmem a ha) hn, gr.frame, gr.tups, gr.frzs⟩ ⟨by simp, ?_, fun i o a e1 e2 => ?_⟩ (rep_ren hρ h5 r)
  · obtain ⟨t, rfl⟩ := gr.pre
    refine ⟨((List.range st.length).map fun i => ((ρ ++ t)[φ i]?).getD 0).drop ρ.length, ?_⟩
    refine List.ext_getElem? fun i => ?_
    by_cases hi : i < ρ.length
    · rw [List.getElem?_append_left hi, hρ i (by omega), h1 i hi, List.getElem?_append_left hi]
    · rw [List.getElem?_append_right (by omega), List.getElem?_drop]
      congr 1
      omega
  · refine List.pairwise_iff_getElem.mpr fun i j hi hj hij e => ?_
    simp only [List.length_map, List.length_range] at hi hj
    have hne : φ i = φ j → False := fun z => Nat.lt_irrefl _ (h3 i hi j hj z ▸ hij)
    apply hne
    simp only [List.getElem_map, List.getElem_range] at e
    obtain ⟨a, ha⟩ := key i hi
    obtain ⟨b, hb⟩ := key j hj
    rw [ha, hb] at e
    have e' : a = b := e
    subst e'
    obtain ⟨q1, q2⟩ := List.getElem?_eq_some_iff.mp ha
    obtain ⟨q3, q4⟩ := List.getElem?_eq_some_iff.mp hb
    exact (List.getElem_inj S.nd).mp (q2.trans q4.symm)
  · have hi : i < st.length := (List.getElem?_eq_some_iff.mp e1).1
    obtain ⟨g1, g2⟩ := h7 i o e1
    rw [hρ i hi] at e2
    exact ob_ren hρ g1 (S.ob _ _ _ g2 e2)
/-! ### what lies in a store refers to it alone -/
def ClS (st : Store) : Prop := ∀ (i : Nat) (o : Ob), st[i]? = some o → o.lt st.length = true
section
variable {K : PySem.W.Frag} {ρ : List Addr} {H : Hp}
mutual
theorem rep_lt : ∀ {d : D} {v : V}, Rep K ρ H d v → d.lt ρ.length = true
  | _, _, .non => rfl
  | _, _, .bl _ => rfl
  | _, _, .int _ => rfl
  | _, _, .str _ => rfl
  | _, _, .tup _ r _ => reps_lt r
  | _, _, .fls _ r => reps_lt r
  | _, _, .ob h => decide_eq_true (List.getElem?_eq_some_iff.mp h).1
theorem reps_lt : ∀ {ds : List D} {vs : List V}, Reps K ρ H ds vs → D.lts ρ.length ds = true
  | _, _, .nil => rfl
  | _, _, .cons r1 r2 => by
    simp only [D.lts, Bool.and_eq_true]
    exact ⟨rep_lt r1, reps_lt r2⟩
end
theorem keyD_lt {d : D} {k : Key} {n : Nat} (h : keyD d = some k) : d.lt n = true := by
  cases d <;> simp only [keyD] at h <;> first | rfl | cases h
theorem keysD_lt {n : Nat} : ∀ {ds : List D} {k : List Key}, keysD ds = some k → D.lts n ds = true
  | [], _, _ => rfl
  | d :: ds, k, h => by
    simp only [keysD] at h
    split at h
    · rename_i h1 h2
      simp only [D.lts, Bool.and_eq_true]
      exact ⟨keyD_lt h1, keysD_lt h2⟩
    · cases h
theorem keyT_lt {d : D} {k : List Key} {n : Nat} (h : keyT d = some k) : d.lt n = true := by
  cases d with
  | tup ds =>
    simp only [keyT] at h
    split at h
    · cases h
    · exact keysD_lt h
  | _ => simp only [keyT] at h; cases h
theorem kvK_lt : ∀ {kvs : List (D × D)} {ks : List (Key × V)}, KvK K ρ H kvs ks → (kvs.all fun p => p.1.lt ρ.length && p.2.lt ρ.length) = true
  | _, _, .nil => rfl
  | _, _, .cons h r1 r2 => by simp only [List.all_cons, Bool.and_eq_true]; exact ⟨⟨keyD_lt h, rep_lt r1⟩, by simpa using kvK_lt r2⟩
theorem kvT_lt : ∀ {kvs : List (D × D)} {ks : List (List Key × V)}, KvT K ρ H kvs ks → (kvs.all fun p => p.1.lt ρ.length && p.2.lt ρ.length) = true
  | _, _, .nil => rfl
  | _, _, .cons h r1 r2 => by simp only [List.all_cons, Bool.and_eq_true]; exact ⟨⟨keyT_lt h, rep_lt r1⟩, by simpa using kvT_lt r2⟩
theorem Sim.cl {st : Store} (S : Sim K ρ st H) : ClS st := by
  intro i o h
  have hi : i < ρ.length := by rw [S.len]; exact (List.getElem?_eq_some_iff.mp h).1
  have r := S.ob i o _ h (List.getElem?_eq_getElem hi)
  rw [← S.len]
  cases o with
  | lst xs => obtain ⟨vs, _, h2⟩ := r; exact reps_lt h2
  | dct kvs =>
    rcases r with ⟨ks, _, h2⟩ | ⟨ks, _, h2⟩
    · exact kvK_lt h2
    · exact kvT_lt h2
end
section
variable {P : Program} {w : World} {K : PySem.W.Frag} {mg : Str → Option Value} {base : Heap}
/-- a promise that tells less of the store -/
theorem Callee.gc {x : Str} {n k : Nat} {g m : List D → M D} (c : Callee P w K mg base k x n g) (h : ∀ ds st d st', ds.length = n → ClS st → D.lts st.length ds = true → m ds st = .ok d st' → ∃ dr sr, g ds st = .ok dr sr ∧ GC st.length d st' dr sr) : Callee P w K mg base k x n m := by
  obtain ⟨f, fd, ps, F, h2⟩ := c.ex
  refine ⟨f, fd, ps, F.weak fun vs H Q E q => ?_, h2⟩
  obtain ⟨ρ, st, ds, d, st', hl, S, r, e, p⟩ := q
  obtain ⟨dr, sr, e2, gc⟩ := h ds st d st' hl S.cl (by rw [← S.len]; exact reps_lt r) e
  refine ⟨ρ, st, ds, dr, sr, hl, S, r, e2, post_gc ?_ p⟩
  rw [S.len]
  exact gc
end
mutual
theorem ren_id : ∀ (d : D), d.ren id = d
  | .tup xs => by simp only [D.ren, rens_id xs]
  | .fls xs => by simp only [D.ren, rens_id xs]
  | .ob i => rfl
  | .non => rfl
  | .bl b => rfl
  | .int i => rfl
  | .str s => rfl
theorem rens_id : ∀ (ds : List D), D.rens id ds = ds
  | [] => rfl
  | d :: ds => by simp only [D.rens, ren_id d, rens_id ds]
end
theorem oren_id (o : Ob) : o.ren id = o := by
  cases o with
  | lst xs => simp only [Ob.ren, rens_id]
  | dct kvs => simp only [Ob.ren, ren_id]; simp
/-- garbage behind -/
theorem gc_tail {n : Nat} {d : D} {st ext : Store} (hn : n ≤ st.length) (hd : d.lt st.length = true) (hc : ClS st) : GC n d st d (st ++ ext) :=
  ⟨id, fun _ _ => rfl, hn, fun _ _ _ _ e => e, fun i hi => by simp only [List.length_append, id]; omega, hd, ren_id d, fun i o h => ⟨hc i o h, by rw [oren_id]; simp only [id]; rw [List.getElem?_append_left (List.getElem?_eq_some_iff.mp h).1]; exact h⟩⟩
theorem gc_refl {n : Nat} {d : D} {st : Store} (hn : n ≤ st.length) (hd : d.lt st.length = true) (hc : ClS st) : GC n d st d st := by
  have := gc_tail (ext := []) hn hd hc
  simpa using this
mutual
theorem lt_mono {m n : Nat} (h : m ≤ n) : ∀ {d : D}, d.lt m = true → d.lt n = true
  | .tup xs, e => lts_mono h (ds := xs) e
  | .fls xs, e => lts_mono h (ds := xs) e
  | .ob i, e => by simp only [D.lt, decide_eq_true_eq] at e ⊢; omega
  | .non, _ => rfl
  | .bl b, _ => rfl
  | .int i, _ => rfl
  | .str s, _ => rfl
theorem lts_mono {m n : Nat} (h : m ≤ n) : ∀ {ds : List D}, D.lts m ds = true → D.lts n ds = true
  | [], _ => rfl
  | d :: ds, e => by
    simp only [D.lts, Bool.and_eq_true] at e ⊢
    exact ⟨lt_mono h e.1, lts_mono h e.2⟩
end
theorem olt_mono {m n : Nat} (h : m ≤ n) {o : Ob} (e : o.lt m = true) : o.lt n = true := by
  cases o with
  | lst xs => exact lts_mono h e
  | dct kvs =>
    simp only [Ob.lt, List.all_eq_true, Bool.and_eq_true] at e ⊢
    exact fun p hp => ⟨lt_mono h (e p hp).1, lt_mono h (e p hp).2⟩
mutual
theorem ren_fix {φ : Nat → Nat} {n : Nat} (hφ : ∀ i < n, φ i = i) : ∀ {d : D}, d.lt n = true → d.ren φ = d
  | .tup xs, e => by simp only [D.ren, rens_fix hφ (ds := xs) e]
  | .fls xs, e => by simp only [D.ren, rens_fix hφ (ds := xs) e]
  | .ob i, e => by simp only [D.lt, decide_eq_true_eq] at e; simp only [D.ren, hφ i e]
  | .non, _ => rfl
  | .bl b, _ => rfl
  | .int i, _ => rfl
  | .str s, _ => rfl
theorem rens_fix {φ : Nat → Nat} {n : Nat} (hφ : ∀ i < n, φ i = i) : ∀ {ds : List D}, D.lts n ds = true → D.rens φ ds = ds
  | [], _ => rfl
  | d :: ds, e => by
    simp only [D.lts, Bool.and_eq_true] at e
    simp only [D.rens, ren_fix hφ e.1, rens_fix hφ e.2]
end
theorem oren_fix {φ : Nat → Nat} {n : Nat} (hφ : ∀ i < n, φ i = i) {o : Ob} (e : o.lt n = true) : o.ren φ = o := by
  cases o with
  | lst xs => simp only [Ob.ren, rens_fix hφ (ds := xs) e]
  | dct kvs =>
    simp only [Ob.lt, List.all_eq_true, Bool.and_eq_true] at e
    simp only [Ob.ren]
    congr 1
    conv => rhs; rw [← List.map_id kvs]
    exact List.map_congr_left fun p hp => by rw [ren_fix hφ (e p hp).1, ren_fix hφ (e p hp).2]; rfl
/-- one new object, with garbage ahead and behind -/
theorem gc_new {st g1 g2 : Store} {o : Ob} (hc : ClS st) (ho : o.lt st.length = true) : GC st.length (.ob st.length) (st ++ [o]) (.ob (st.length + g1.length)) (st ++ g1 ++ [o] ++ g2) := by
  have hφ : ∀ i < st.length, (fun i => if i < st.length then i else i + g1.length) i = i := fun i hi => if_pos hi
  refine ⟨fun i => if i < st.length then i else i + g1.length, hφ, by simp, ?_, ?_, by simp [D.lt], ?_, ?_⟩
  · intro i hi j hj e
    simp only at e
    split at e <;> split at e <;> omega
  · intro i hi
    simp only [List.length_append, List.length_cons, List.length_nil] at hi ⊢
    split <;> omega
  · simp [D.ren]
  · intro i o' h
    by_cases hi : i < st.length
    · rw [List.getElem?_append_left hi] at h
      refine ⟨olt_mono (by simp) (hc i o' h), ?_⟩
      rw [oren_fix hφ (hc i o' h)]
      simp only [if_pos hi]
      rw [List.append_assoc, List.append_assoc, List.getElem?_append_left hi]
      exact h
    · rw [List.getElem?_append_right (by omega)] at h
      have : i - st.length = 0 := by
        have := (List.getElem?_eq_some_iff.mp h).1
        simp at this; omega
      rw [this] at h
      have h' : some o = some o' := h
      cases h'
      have ei : i = st.length := by omega
      subst ei
      refine ⟨olt_mono (by simp) ho, ?_⟩
      rw [oren_fix hφ ho]
      simp only [if_neg (Nat.lt_irrefl _)]
      rw [List.getElem?_append_left (by simp), List.getElem?_append_right (by simp)]
      simp
end W9

/-! W9u: the law's own end -/
namespace W9
open PySem PySem.Spec PyProof.Rows L2
/-- one call of law from a heap where nothing but the script (at a) may be tracked -/
theorem end_core {P : Program} {w : World} {K : PySem.W.Frag} {mg bm : Str → Option Value} {k : Nat} {fl a : Addr} {x : Str} {s1 : Shared} {us : List Value} {ns : List Int} {g : List D → M D} {H : Hp} {sr : Store}
    (kin : K.In s1.heap) (gns : s1.heap.Ns mainGlobals mg) (bns : s1.heap.Ns builtinsNs bm) (boot : ∀ z : Str, z ≠ "__name__" → bm z = bootBuiltins z) (nol : s1.heap.NoLimit) (nog : s1.gens = #[])
    (at_a : s1.heap.get? a = some { cls := .type "list", data := .seq us.toArray }) (room : Room k callerA) (hx : mg x = some (.ref fl))
    (cal : ∀ B : Heap, K.In B → B.Ns mainGlobals mg → Callee P w K mg B k x 1 g) (res : g [.fls (ns.map D.int)] [] = .ok (.bl true) sr)
    (only : Only H) (sq : SqF K H a (ns.map V.int)) (hh : HOk P w H s1.heap) (hA : ∀ b, H b ≠ none → b = a) (hK : H a ≠ none → K.lookup a = none) :
    codeAny (model P w) callerA (.call (.ref fl) ⟨[.ref a], []⟩) (fun r s' => r = .ok (.ret (.bool true)) ∧ OldK s1.heap s'.heap ∧ s'.os = s1.os ∧ AllBare s'.gens) s1 := by
  have isA : ∀ {b : Addr} {u : HO}, H b = some u → b = a := fun {b u} z => hA b (by rw [z]; simp)
  have plain : ∀ {b : Addr} {o : Obj} {es : Array DictEntry} {ep : Nat}, s1.heap.get? b = some o → o.data = .dict es ep → H b = none := by
    intro b o es ep z zd
    cases hb : H b with
    | none => rfl
    | some u =>
      cases isA hb
      rw [at_a] at z
      cases z
      have : Data.seq us.toArray _ = Data.dict es ep := zd
      cases this
  have nsH : ∀ {b : Addr} {m : Str → Option Value}, s1.heap.Ns b m → (hidT s1.heap H).Ns b m := by
    rintro b m ⟨o, es, ep, z, zd, zr⟩
    exact ⟨o, es, ep, hidT_get z (plain z zd), zd, zr⟩
  have kinH : K.In (hidT s1.heap H) := by
    intro b o z
    refine hidT_get (kin b o z) ?_
    cases hb : H b with
    | none => rfl
    | some u =>
      cases isA hb
      rw [hK (by rw [hb]; simp)] at z
      cases z
  obtain ⟨mc, lim1, lim2⟩ := nol
  have e0 : Env0 P w K mg (hidT s1.heap H) callerA [] s1 H :=
    ⟨rfl, ⟨kinH, nsH gns, ⟨bm, nsH bns, boot⟩, ⟨mc, nsH lim1, lim2⟩⟩, fun b o z => of_hidT z, Nat.le_of_eq (hidT_size _ _), trivial, fun b z => (nomatch z), hh, .of_eq nog⟩
  obtain ⟨f, fd, ps, F, m2, kp, bd⟩ := (cal _ kinH (nsH gns)).ex
  rw [hx] at m2
  cases m2
  have sp1 : spF K 1 g [.ref a] H (fun v _ => v = .bl true) (fun _ _ _ => False) := by
    refine ⟨[], [], [.fls (ns.map D.int)], .bl true, sr, rfl, ⟨rfl, List.nodup_nil, fun i o b z => by simp at z⟩, .cons (.fls sq (reps_ints ns)) .nil, res, fun ρ' H' v _ _ r => ?_⟩
    cases r
    rfl
  have hl := F.len _ _ _ _ sp1
  have bt := bd s1 [.ref a] kin (by simpa using hl)
  rw [List.append_nil] at bt
  refine codeAny_mono (F.run callerA [] s1 H ⟨[.ref a], []⟩ [.ref a] [.ref a] _ _ room rfl e0 bt (.cons rfl .nil) sp1) fun r s' z => ?_
  match r, z with
  | .ok (.ret u), ⟨v, H', os, bare, un, ok', rv, (q : v = .bl true)⟩ =>
    subst q
    obtain rfl : u = Value.bool true := rv
    refine ⟨rfl, OldK.of_keep fun b o zb => ?_, os, bare⟩
    rcases only b with h0 | ⟨ob, xs, h0⟩
    · exact un.keep b o zb h0 (fun y => (nomatch y)) (by simp)
    · obtain ⟨p1, _⟩ := hh b _ h0
      obtain ⟨p2, _⟩ := ok' b _ (un.frzs b ob _ h0)
      rw [zb] at p1
      cases p1
      exact p2
/-- THE END -/
theorem walkG {l : PySem.W.OpenLaw} {n k : Nat} {q : Program} {loose : List Str} {XP : (Str → Option Value) → Heap → Prop} {YP : World → Heap → Prop} {d : DefRec} {KP : Params → PySem.W.Frag} (hn : l.most = some n) (small : n ≤ sizeLine) (hdf : d.params.defaults = []) (room : Room k callerA)
    (hY : ∀ (w : World) (h : Heap), YP w h → (KP w.params).In h)
    (F : ∀ (w : World) (mg : Str → Option Value) (h : Heap), (KP w.params).In h → h.Ns mainGlobals mg → ∃ g, (∀ B : Heap, (KP w.params).In B → B.Ns mainGlobals mg → Callee l.prog w (KP w.params) mg B k d.name 1 g) ∧
      ∀ ns : List Int, ns.length ≤ n → (∀ z ∈ ns, Builtin.Int.intBits z ≤ 1048576) → ∃ sr, g [.fls (ns.map D.int)] [] = .ok (.bl true) sr) :
    PySem.W.WalkO q loose XP YP l.row.toRowW d [] (fun f vs => PySem.call f vs) := by
  refine Att.attach_callB hn hdf fun w s0 s1 mg bm fl o pm cd doc a us ns G Y ho hd hcd hmg at_a hints hlen bits nog => ?_
  have kin := hY w _ Y
  obtain ⟨g, cal, res⟩ := F w mg _ kin G.T.g
  obtain ⟨sr, res⟩ := res ns hlen bits
  have lv := hints.length
  have sz : ns.length ≤ sizeLine := Nat.le_trans hlen small
  cases hk : (KP w.params).lookup a with
  | some o =>
    have z := kin a o hk
    rw [at_a] at z
    cases z
    exact end_core kin G.T.g G.T.b G.T.builtins G.T.nolimit nog at_a room hmg cal res (H := fun _ => none) (fun _ => .inl rfl) (.inr ⟨_, us.toArray, _, hk, rfl, rfl, rfl, by rw [List.size_toArray, lv]; exact sz, by simpa using vals_ints hints⟩)
      (fun b u y => by have y' : (none : Option HO) = some u := y; cases y') (fun b y => absurd rfl y) fun y => absurd rfl y
  | none =>
    refine end_core kin G.T.g G.T.b G.T.builtins G.T.nolimit nog at_a room hmg cal res (H := fun b => if b = a then some (.frz { cls := .type "list", data := .seq us.toArray } (.lst (ns.map V.int))) else none) (fun b => ?_) (.inl ⟨_, if_pos rfl⟩) (fun b u y => ?_) (fun b y => ?_) fun _ => hk
    · by_cases e : b = a
      · exact .inr ⟨_, _, if_pos e⟩
      · exact .inl (if_neg e)
    · by_cases e : b = a
      · cases (if_pos e).symm.trans y
        subst e
        exact ⟨at_a, by rw [List.length_map]; exact sz, us, _, vals_ints hints, at_a⟩
      · cases (if_neg e).symm.trans y
    · by_cases e : b = a
      · exact e
      · exact absurd (if_neg e) y
end W9

/-! W9v: tables of raw defs; reasoning about the interpreter -/
namespace W9
open PySem PySem.Spec PyProof.Rows L2
/-! ### raw tables -/
def Df.raw (d : Df) (t : Tab) (gl : Str → Option D) : List D → M D := callDef (t.cts gl) d.N.length d.body
/-- defs, the last one first -/
def rawT (gl : Str → Option D) : List Df → Tab
  | [] => []
  | d :: ds => (d.name, d.ps.length, d.raw (rawT gl ds) gl) :: rawT gl ds
def sigD (ds : List Df) : List (Str × Nat) := ds.map fun d => (d.name, d.ps.length)
theorem sig_raw (gl : Str → Option D) : ∀ ds : List Df, (rawT gl ds).sig = sigD ds
  | [] => rfl
  | d :: ds => by show (d.name, d.ps.length) :: (rawT gl ds).sig = _; rw [sig_raw gl ds]; rfl
def chD (bs gs : List Str) (ds : List Df) (d : Df) : Bool := fsB d.N d.ps (defScope d.st) && chSs (stcOf d bs (sigD ds) gs) d.body (defBody d.st) && (ds.all fun e => !(e.name == d.name))
def Alls (K : PySem.W.Frag) (bs gs : List Str) : List Df → Prop
  | [] => True
  | d :: ds => (DefIn K d.name d.st ∧ d.bnd ∧ chD bs gs ds d = true) ∧ Alls K bs gs ds
theorem raw_ok {P : Program} {w : World} {K : PySem.W.Frag} {mg : Str → Option Value} {base h : Heap} {bs gs : List Str} {gl : Str → Option D} (kin : K.In h) (G : h.Ns mainGlobals mg) (hbs : ∀ x ∈ bs, mg x = none) (hgs : GlsOk K mg gs gl) :
    ∀ {ds : List Df}, Alls K bs gs ds → TabOk P w K mg base ds.length (rawT gl ds)
  | [], _ => ⟨List.nodup_nil, fun _ h => nomatch h⟩
  | d :: ds, ⟨⟨h1, h2, h3⟩, h4⟩ => by
    unfold chD at h3
    simp only [Bool.and_eq_true] at h3
    refine tab_step (raw_ok kin G hbs hgs h4) hbs hgs h1 (fun f z => PySem.W.mg_of kin G z) h2 h3.1.1 (by rw [sig_raw]; exact h3.1.2) ?_ fun _ _ _ _ z => z
    rw [List.all_eq_true]
    intro p hp
    have e := List.all_eq_true.mp h3.2
    have : ∃ e0 ∈ ds, e0.name = p.1 := by
      clear e h3 h1 h2 h4
      induction ds with
      | nil => cases hp
      | cons a r ih =>
        rcases List.mem_cons.mp hp with z | z
        · subst z; exact ⟨a, List.mem_cons_self, rfl⟩
        · obtain ⟨b, hb, hb2⟩ := ih z; exact ⟨b, List.mem_cons_of_mem _ hb, hb2⟩
    obtain ⟨e0, he0, hn⟩ := this
    rw [← hn]
    exact e e0 he0
/-- THE END for raw tables: the last def is the law -/
theorem walkR {l : PySem.W.OpenLaw} {n : Nat} {q : Program} {loose : List Str} {XP : (Str → Option Value) → Heap → Prop} {YP : World → Heap → Prop} {d : DefRec} {KP : Params → PySem.W.Frag} (hn : l.most = some n) (small : n ≤ sizeLine) (hdf : d.params.defaults = [])
    (hY : ∀ (w : World) (h : Heap), YP w h → (KP w.params).In h) {bs gs : List Str} {gl : Str → Option D} {e : Df} {ds : List Df} (room : Room (ds.length + 1) callerA) (hname : e.name = d.name) (hps : e.ps.length = 1)
    (F : ∀ (w : World), Alls (KP w.params) bs gs (e :: ds) ∧ (∀ x ∈ bs, PySem.W.nsIn (KP w.params) mainGlobals x = some none) ∧ ∀ (mg : Str → Option Value) (h : Heap), (KP w.params).In h → h.Ns mainGlobals mg → GlsOk (KP w.params) mg gs gl)
    (res : ∀ ns : List Int, ns.length ≤ n → (∀ z ∈ ns, Builtin.Int.intBits z ≤ 1048576) → ∃ sr, e.raw (rawT gl ds) gl [.fls (ns.map D.int)] [] = .ok (.bl true) sr) :
    PySem.W.WalkO q loose XP YP l.row.toRowW d [] (fun f vs => PySem.call f vs) := by
  refine walkG hn small hdf room hY fun w mg h kin G => ⟨e.raw (rawT gl ds) gl, fun B kB GB => ?_, res⟩
  obtain ⟨h1, h2, h3⟩ := F w
  have t := raw_ok (P := l.prog) (w := w) (base := B) kB GB (fun x hx => PySem.W.mg_none_of kB GB (h2 x hx)) (h3 mg B kB GB) h1
  have c := t.2 _ (List.mem_cons_self (a := (e.name, e.ps.length, e.raw (rawT gl ds) gl)) (l := rawT gl ds))
  have c' : Callee l.prog w (KP w.params) mg B (ds.length + 1) e.name e.ps.length (e.raw (rawT gl ds) gl) := c
  rw [hname, hps] at c'
  exact c'
theorem gls_nil {K : PySem.W.Frag} {mg : Str → Option Value} {gl : Str → Option D} : GlsOk K mg [] gl := fun x hx => nomatch hx
/-! ### wp -/
def wp {α : Type} (m : M α) (Q : α → Store → Prop) (st : Store) : Prop := ∃ a s, m st = .ok a s ∧ Q a s
section
variable {α β : Type} {st : Store}
theorem wp_mono {m : M α} {Q Q' : α → Store → Prop} (h : wp m Q st) (k : ∀ a s, Q a s → Q' a s) : wp m Q' st := let ⟨a, s, e, q⟩ := h; ⟨a, s, e, k a s q⟩
theorem wp_ok {a : α} {s : Store} {Q : α → Store → Prop} {m : M α} (e : m st = .ok a s) : wp m Q st ↔ Q a s := by
  constructor
  · rintro ⟨a', s', e', q⟩
    rw [e] at e'
    cases e'
    exact q
  · exact fun q => ⟨a, s, e, q⟩
theorem wp_ret {f : Store → α} {g : Store → Store} {Q : α → Store → Prop} : wp (fun st => R.ok (f st) (g st)) Q st ↔ Q (f st) (g st) := wp_ok rfl
theorem wp_rt {a : α} {Q : α → Store → Prop} : wp (R.ok a) Q st ↔ Q a st := wp_ok rfl
theorem wp_no {Q : α → Store → Prop} : wp (fun _ => (R.no : R α)) Q st ↔ False := ⟨fun ⟨_, _, e, _⟩ => (nomatch e), False.elim⟩
theorem wp_bind {m : M α} {k : α → M β} {Q : β → Store → Prop} : wp (M.bind m k) Q st ↔ wp m (fun a s => wp (k a) Q s) st := by
  constructor
  · rintro ⟨b, s, e, q⟩
    obtain ⟨a, s1, e1, e2⟩ := bind_ok e
    exact ⟨a, s1, e1, b, s, e2, q⟩
  · rintro ⟨a, s1, e1, b, s, e2, q⟩
    refine ⟨b, s, ?_, q⟩
    show (M.bind m k) st = _
    unfold M.bind
    rw [e1]
    exact e2
theorem wp_ite {c : Prop} [Decidable c] {a b : M α} {Q : α → Store → Prop} : wp (if c then a else b) Q st ↔ (if c then wp a Q st else wp b Q st) := by
  split <;> exact Iff.rfl
theorem wp_gd {c : Store → Prop} [∀ s, Decidable (c s)] {f : Store → α} {g : Store → Store} {Q : α → Store → Prop} : wp (fun st => if c st then R.ok (f st) (g st) else R.no) Q st ↔ c st ∧ Q (f st) (g st) := by
  unfold wp
  by_cases h : c st
  · simp only [if_pos h]
    exact ⟨fun ⟨a, s, e, q⟩ => by cases e; exact ⟨h, q⟩, fun ⟨_, q⟩ => ⟨_, _, rfl, q⟩⟩
  · simp only [if_neg h]
    exact ⟨fun ⟨a, s, e, q⟩ => (nomatch e), fun ⟨z, _⟩ => absurd z h⟩
theorem wp_eq {m : M α} {a : α} {s : Store} : wp m (fun b t => b = a ∧ t = s) st ↔ m st = .ok a s := by
  constructor
  · rintro ⟨b, t, e, h1, h2⟩
    subst h1 h2
    exact e
  · exact fun e => ⟨a, s, e, rfl, rfl⟩
end
/-- the end of a def -/
def endQ (Q : D → Store → Prop) : Fl → Store → Prop
  | .ret d, s => Q d s
  | .nx _, s => Q .non s
  | _, _ => False
theorem wp_callDef {C : Cts} {n : Nat} {body : Sms} {ds : List D} {Q : D → Store → Prop} {st : Store} : wp (callDef C n body ds) Q st ↔ wp (runs C body (ds.map some ++ List.replicate (n - ds.length) none)) (endQ Q) st := by
  unfold callDef
  rw [wp_bind]
  unfold wp
  constructor
  · rintro ⟨fl, s, e, b, s2, e2, q⟩
    refine ⟨fl, s, e, ?_⟩
    cases fl with
    | ret d => cases e2; exact q
    | nx _ => cases e2; exact q
    | bk _ => cases e2
    | ct _ => cases e2
  · rintro ⟨fl, s, e, q⟩
    refine ⟨fl, s, e, ?_⟩
    cases fl with
    | ret d => exact ⟨d, s, rfl, q⟩
    | nx _ => exact ⟨.non, s, rfl, q⟩
    | bk _ => exact q.elim
    | ct _ => exact q.elim
/-- after a statement -/
def seqQ (C : Cts) (r : Sms) (Q : Fl → Store → Prop) : Fl → Store → Prop
  | .nx e, s => wp (runs C r e) Q s
  | fl, s => Q fl s
theorem seqQ_nx {C : Cts} {r : Sms} {Q : Fl → Store → Prop} {e : Env} {s : Store} : seqQ C r Q (.nx e) s = wp (runs C r e) Q s := rfl
theorem seqQ_ret {C : Cts} {r : Sms} {Q : Fl → Store → Prop} {d : D} {s : Store} : seqQ C r Q (.ret d) s = Q (.ret d) s := rfl
theorem seqQ_bk {C : Cts} {r : Sms} {Q : Fl → Store → Prop} {e : Env} {s : Store} : seqQ C r Q (.bk e) s = Q (.bk e) s := rfl
theorem seqQ_ct {C : Cts} {r : Sms} {Q : Fl → Store → Prop} {e : Env} {s : Store} : seqQ C r Q (.ct e) s = Q (.ct e) s := rfl
theorem endQ_ret {Q : D → Store → Prop} {d : D} {s : Store} : endQ Q (.ret d) s = Q d s := rfl
theorem endQ_nx {Q : D → Store → Prop} {e : Env} {s : Store} : endQ Q (.nx e) s = Q .non s := rfl
theorem wp_cons {C : Cts} {c : Sm} {r : Sms} {env : Env} {Q : Fl → Store → Prop} {st : Store} : wp (runs C (.cons c r) env) Q st ↔ wp (run C c env) (seqQ C r Q) st := by
  unfold runs
  rw [wp_bind]
  constructor
  · exact fun h => wp_mono h fun fl s q => by
      cases fl with
      | nx e => exact q
      | ret d => exact wp_ret.mp q
      | bk e => exact wp_ret.mp q
      | ct e => exact wp_ret.mp q
  · exact fun h => wp_mono h fun fl s q => by
      cases fl with
      | nx e => exact q
      | ret d => exact wp_ret.mpr q
      | bk e => exact wp_ret.mpr q
      | ct e => exact wp_ret.mpr q
theorem wp_nil {C : Cts} {env : Env} {Q : Fl → Store → Prop} {st : Store} : wp (runs C .nil env) Q st ↔ Q (.nx env) st := by unfold runs; exact wp_ret
section
variable {C : Cts} {env : Env} {Q : Fl → Store → Prop} {QD : D → Store → Prop} {QB : Bool → Store → Prop} {QL : List D → Store → Prop} {st : Store}
theorem wp_asg {i : Nat} {e : Ex} : wp (run C (.asg i e) env) Q st ↔ wp ((bo C e).1 env) (fun d s => Q (.nx (env.set i (some d))) s) st := by
  unfold run; rw [wp_bind]; simp only [wp_rt]
theorem wp_expr {e : Ex} : wp (run C (.expr e) env) Q st ↔ wp ((bo C e).1 env) (fun _ s => Q (.nx env) s) st := by
  unfold run; rw [wp_bind]; simp only [wp_rt]
theorem wp_retS {e : Ex} : wp (run C (.ret e) env) Q st ↔ wp ((bo C e).1 env) (fun d s => Q (.ret d) s) st := by
  unfold run; rw [wp_bind]; simp only [wp_rt]
theorem wp_retN : wp (run C .retN env) Q st ↔ Q (.ret .non) st := by unfold run; exact wp_ret
theorem wp_iteS {c : Ex} {a b : Sms} : wp (run C (.ite c a b) env) Q st ↔ wp ((bo C c).2 env) (fun r s => if r = true then wp (runs C a env) Q s else wp (runs C b env) Q s) st := by
  unfold run; rw [wp_bind]; simp only [wp_ite]
theorem wp_pass : wp (run C .pass env) Q st ↔ Q (.nx env) st := by unfold run; exact wp_ret
theorem wp_brk : wp (run C .brk env) Q st ↔ Q (.bk env) st := by unfold run; exact wp_ret
theorem wp_cont : wp (run C .cont env) Q st ↔ Q (.ct env) st := by unfold run; exact wp_ret
theorem wp_for {src : Src} {tg : Tg} {body : Sms} : wp (run C (.forS src tg body) env) Q st ↔ wp (srcE C src env) (fun p s => wp (loopF p.2 (forF tg (runs C body)) p.1 env) Q s) st := by
  unfold run; rw [wp_bind]
theorem wp_asgT {is : List Nat} {e : Ex} : wp (run C (.asgT is e) env) Q st ↔ wp ((bo C e).1 env) (fun d s => ∃ env1, bindT (.tup is) d env s = some env1 ∧ Q (.nx env1) s) st := by
  unfold run
  rw [wp_bind]
  constructor
  · exact fun h => wp_mono h fun d s ⟨fl, s2, e, q⟩ => by
      dsimp only at e
      split at e
      · rename_i env1 h1
        cases e
        exact ⟨env1, h1, q⟩
      · cases e
  · exact fun h => wp_mono h fun d s ⟨env1, h1, q⟩ => ⟨.nx env1, s, by simp only [h1], q⟩
theorem wp_setIx {o i e : Ex} : wp (run C (.setIx o i e) env) Q st ↔ wp ((bo C e).1 env) (fun d s => wp ((bo C o).1 env) (fun x s => wp ((bo C i).1 env) (fun y s => wp (setD x y d) (fun _ s => Q (.nx env) s) s) s) s) st := by
  unfold run; simp only [wp_bind, wp_ret, wp_rt]
theorem wp_augS {i : Nat} {op : Operator} {e : Ex} {x : D} (h : env[i]? = some (some x)) : wp (run C (.aug i op e) env) Q st ↔ wp ((bo C e).1 env) (fun y s => wp (augD op x y) (fun z s => Q (.nx (env.set i (some z))) s) s) st := by
  have : run C (.aug i op e) env = M.bind (ev C e env) (fun y => M.bind (augD op x y) fun z st => R.ok (Fl.nx (env.set i (some z))) st) := by
    funext st
    simp only [run, h]
  rw [this]
  simp only [wp_bind, wp_ret, wp_rt]
/-! expressions -/
theorem wp_var {i : Nat} {d : D} (h : env[i]? = some (some d)) : wp ((bo C (.var i)).1 env) QD st ↔ QD d st := by
  unfold bo
  exact wp_ok (by simp only [h])
theorem wp_cst {d : D} : wp ((bo C (.cst d)).1 env) QD st ↔ QD d st := by unfold bo; exact wp_ret
theorem wp_bin {op : Operator} {a b : Ex} : wp ((bo C (.bin op a b)).1 env) QD st ↔ wp ((bo C a).1 env) (fun x s => wp ((bo C b).1 env) (fun y s => wp (binD op x y) QD s) s) st := by
  conv => lhs; unfold bo
  simp only [wp_bind]
theorem wp_cmp {op : CmpOp} {a b : Ex} : wp ((bo C (.cmp op a b)).1 env) QD st ↔ wp ((bo C a).1 env) (fun x s => wp ((bo C b).1 env) (fun y s => wp (cmpD op x y) QD s) s) st := by
  conv => lhs; unfold bo
  simp only [wp_bind]
def blQ (QB : Bool → Store → Prop) : D → Store → Prop
  | .bl b, s => QB b s
  | _, _ => False
theorem blQ_bl {QB : Bool → Store → Prop} {b : Bool} {s : Store} : blQ QB (.bl b) s = QB b s := rfl
theorem wp_blQ {m : M D} : wp (M.bind m fun x => match x with | .bl b => fun st => .ok b st | _ => fun _ => .no) QB st ↔ wp m (blQ QB) st := by
  rw [wp_bind]
  constructor
  · exact fun h => wp_mono h fun d s q => by cases d <;> first | exact wp_ret.mp q | exact wp_no.mp q
  · exact fun h => wp_mono h fun d s q => by cases d <;> first | exact wp_ret.mpr q | exact q.elim
theorem wp_cmpT {op : CmpOp} {a b : Ex} : wp ((bo C (.cmp op a b)).2 env) QB st ↔ wp ((bo C (.cmp op a b)).1 env) (blQ QB) st := by
  unfold bo; exact wp_blQ
theorem wp_chainT {o1 o2 : CmpOp} {a b c : Ex} : wp ((bo C (.chain o1 o2 a b c)).2 env) QB st ↔ wp ((bo C (.chain o1 o2 a b c)).1 env) (blQ QB) st := by
  unfold bo; exact wp_blQ
theorem wp_andT {a b : Ex} : wp ((bo C (.and a b)).2 env) QB st ↔ wp ((bo C a).2 env) (fun r s => if r = true then wp ((bo C b).2 env) QB s else QB false s) st := by
  conv => lhs; unfold bo
  simp only [wp_bind, wp_ite, wp_rt]
theorem wp_orT {a b : Ex} : wp ((bo C (.or a b)).2 env) QB st ↔ wp ((bo C a).2 env) (fun r s => if r = true then QB true s else wp ((bo C b).2 env) QB s) st := by
  conv => lhs; unfold bo
  simp only [wp_bind, wp_ite, wp_rt]
theorem wp_notT {a : Ex} : wp ((bo C (.not a)).2 env) QB st ↔ wp ((bo C a).2 env) (fun r s => QB (!r) s) st := by
  conv => lhs; unfold bo
  simp only [wp_bind, wp_ret, wp_rt]
theorem wp_iteE {c a b : Ex} : wp ((bo C (.ite c a b)).1 env) QD st ↔ wp ((bo C c).2 env) (fun r s => if r = true then wp ((bo C a).1 env) QD s else wp ((bo C b).1 env) QD s) st := by
  conv => lhs; unfold bo
  simp only [wp_bind, wp_ite]
theorem wp_idx {a i : Ex} : wp ((bo C (.idx a i)).1 env) QD st ↔ wp ((bo C a).1 env) (fun x s => wp ((bo C i).1 env) (fun y s => wp (ixD x y) QD s) s) st := by
  conv => lhs; unfold bo
  simp only [wp_bind]
theorem wp_sl {a : Ex} {lo hi : Exo} : wp ((bo C (.sl a lo hi)).1 env) QD st ↔ wp ((bo C a).1 env) (fun x s => wp (evo C lo env) (fun l s => wp (evo C hi env) (fun h s => wp (slD x l h) QD s) s) s) st := by
  conv => lhs; unfold bo
  simp only [wp_bind]
theorem wp_call {f : Str} {es : Exs} : wp ((bo C (.call f es)).1 env) QD st ↔ wp (evs C es env) (fun ds s => wp (C.fn f ds) QD s) st := by
  conv => lhs; unfold bo
  simp only [wp_bind]
theorem wp_bi {f : Bi} {es : Exs} : wp ((bo C (.bi f es)).1 env) QD st ↔ wp (evs C es env) (fun ds s => wp (biD f ds) QD s) st := by
  conv => lhs; unfold bo
  simp only [wp_bind]
theorem wp_tup {es : Exs} : wp ((bo C (.tup es)).1 env) QD st ↔ wp (evs C es env) (fun ds s => ds.length ≤ bigN ∧ QD (.tup ds) s) st := by
  conv => lhs; unfold bo
  simp only [wp_bind, wp_gd]
theorem wp_lst {es : Exs} : wp ((bo C (.lst es)).1 env) QD st ↔ wp (evs C es env) (fun ds s => ds.length ≤ bigN ∧ QD (.ob s.length) (s ++ [.lst ds])) st := by
  conv => lhs; unfold bo
  simp only [wp_bind, wp_gd]
theorem wp_dict0 : wp ((bo C .dict0).1 env) QD st ↔ QD (.ob st.length) (st ++ [.dct []]) := by
  unfold bo; exact wp_ret
theorem wp_meth {m : Me} {o : Ex} {es : Exs} : wp ((bo C (.meth m o es)).1 env) QD st ↔ wp ((bo C o).1 env) (fun x s => ∃ T, tyD s x = some T ∧ wp (evs C es env) (fun ds s => wp (meD m T x ds) QD s) s) st := by
  conv => lhs; unfold bo
  rw [wp_bind]
  constructor
  · exact fun h => wp_mono h fun x s ⟨d, s2, e, q⟩ => by
      dsimp only at e
      split at e
      · rename_i T hT
        exact ⟨T, hT, wp_bind.mp ⟨d, s2, e, q⟩⟩
      · cases e
  · exact fun h => wp_mono h fun x s ⟨T, hT, q⟩ => by
      obtain ⟨d, s2, e, q⟩ := wp_bind.mpr q
      exact ⟨d, s2, by simp only [hT]; exact e, q⟩
theorem wp_lc {own : List Nat} {src : Src} {tg : Tg} {c : Exo} {e : Ex} : wp ((bo C (.lc own src tg c e)).1 env) QD st ↔ wp (srcE C src env) (fun p s => wp (loopC p.2 (compF tg own env (tsto C c) (bo C e).1) p.1) (fun ds s => ds.length ≤ bigN ∧ QD (.ob s.length) (s ++ [.lst ds])) s) st := by
  conv => lhs; unfold bo
  simp only [wp_bind, wp_gd]
theorem wp_evs_nil : wp (evs C .nil env) QL st ↔ QL [] st := by unfold evs; exact wp_ret
theorem wp_evs_cons {e : Ex} {es : Exs} : wp (evs C (.cons e es) env) QL st ↔ wp ((bo C e).1 env) (fun d s => wp (evs C es env) (fun ds s => QL (d :: ds) s) s) st := by
  conv => lhs; unfold evs
  simp only [wp_bind, wp_ret, wp_rt]
theorem wp_evo_none {QO : Option Int → Store → Prop} : wp (evo C .none env) QO st ↔ QO none st := by unfold evo; exact wp_ret
def inQ (QO : Option Int → Store → Prop) : D → Store → Prop
  | .int i, s => QO (some i) s
  | _, _ => False
theorem inQ_int {QO : Option Int → Store → Prop} {i : Int} {s : Store} : inQ QO (.int i) s = QO (some i) s := rfl
theorem wp_evo_some {e : Ex} {QO : Option Int → Store → Prop} : wp (evo C (.some e) env) QO st ↔ wp ((bo C e).1 env) (inQ QO) st := by
  unfold evo
  rw [wp_bind]
  constructor
  · exact fun h => wp_mono h fun d s q => by cases d <;> first | exact wp_ret.mp q | exact wp_no.mp q
  · exact fun h => wp_mono h fun d s q => by cases d <;> first | exact wp_ret.mpr q | exact q.elim
abbrev SI := List D × Option (Nat × List D)
theorem wp_seq {e : Ex} {QS : SI → Store → Prop} : wp (srcE C (.seq e) env) QS st ↔ wp ((bo C e).1 env) (fun x s => wp (seqS x) QS s) st := by
  unfold srcE; rw [wp_bind]
theorem wp_enum {e : Ex} {QS : SI → Store → Prop} : wp (srcE C (.enum e) env) QS st ↔ wp ((bo C e).1 env) (fun x s => wp (enumS x) QS s) st := by
  unfold srcE; rw [wp_bind]
def rgQ (QS : SI → Store → Prop) : D → Store → Prop
  | .int n, s => rngOk n = true ∧ QS (rngI 0 n, none) s
  | _, _ => False
theorem rgQ_int {QS : SI → Store → Prop} {n : Int} {s : Store} : rgQ QS (.int n) s = (rngOk n = true ∧ QS (rngI 0 n, none) s) := rfl
theorem wp_rng1 {a : Ex} {QS : SI → Store → Prop} : wp (srcE C (.rng1 a) env) QS st ↔ wp ((bo C a).1 env) (rgQ QS) st := by
  unfold srcE
  rw [wp_bind]
  constructor
  · exact fun h => wp_mono h fun d s q => by cases d <;> first | exact wp_gd.mp q | exact wp_no.mp q
  · exact fun h => wp_mono h fun d s q => by cases d <;> first | exact wp_gd.mpr q | exact q.elim
def rg2Q (QS : SI → Store → Prop) : D → D → Store → Prop
  | .int l, .int h, s => (rngOk l = true ∧ rngOk h = true) ∧ QS (rngI l h, none) s
  | _, _, _ => False
theorem rg2Q_int {QS : SI → Store → Prop} {l h : Int} {s : Store} : rg2Q QS (.int l) (.int h) s = ((rngOk l = true ∧ rngOk h = true) ∧ QS (rngI l h, none) s) := rfl
theorem wp_rng2 {a b : Ex} {QS : SI → Store → Prop} : wp (srcE C (.rng2 a b) env) QS st ↔ wp ((bo C a).1 env) (fun x s => wp ((bo C b).1 env) (fun y s => rg2Q QS x y s) s) st := by
  unfold srcE
  simp only [wp_bind]
  constructor
  · exact fun h => wp_mono h fun x s q => wp_mono q fun y s q => by cases x <;> cases y <;> first | exact wp_gd.mp q | exact wp_no.mp q
  · exact fun h => wp_mono h fun x s q => wp_mono q fun y s q => by cases x <;> cases y <;> first | exact wp_gd.mpr q | exact q.elim
end
/-- the truth of a value -/
theorem wp_plainT {C : Cts} {e : Ex} {env : Env} {QB : Bool → Store → Prop} {st : Store} (h : (bo C e).2 = fun env => M.bind ((bo C e).1 env) fun x => truthD x) : wp ((bo C e).2 env) QB st ↔ wp ((bo C e).1 env) (fun x s => wp (truthD x) QB s) st := by
  rw [h]; exact wp_bind
/-! loops -/
theorem wp_loopF {gd : Option (Nat × List D)} {f : D → Env → M Fl} {Q : Fl → Store → Prop} (I : List D → Env → Store → Prop) (hg : ∀ r e s, I r e s → gdOk s gd = true) (hz : ∀ e s, I [] e s → Q (.nx e) s)
    (hs : ∀ d r e s, I (d :: r) e s → wp (f d e) (fun fl s1 => match fl with | .nx e1 => I r e1 s1 | .ct e1 => I r e1 s1 | .bk e1 => Q (.nx e1) s1 | .ret v => Q (.ret v) s1) s) :
    ∀ (l : List D) (env : Env) (st : Store), I l env st → wp (loopF gd f l env) Q st
  | [], env, st, h => by
    unfold loopF
    exact ⟨.nx env, st, if_pos (hg _ _ _ h), hz _ _ h⟩
  | d :: r, env, st, h => by
    obtain ⟨fl, s1, e, q⟩ := hs d r env st h
    have hgd := hg _ _ _ h
    cases fl with
    | nx e1 =>
      obtain ⟨a, s2, e2, q2⟩ := wp_loopF I hg hz hs r e1 s1 q
      exact ⟨a, s2, by simp only [loopF, hgd, if_true, e]; exact e2, q2⟩
    | ct e1 =>
      obtain ⟨a, s2, e2, q2⟩ := wp_loopF I hg hz hs r e1 s1 q
      exact ⟨a, s2, by simp only [loopF, hgd, if_true, e]; exact e2, q2⟩
    | bk e1 => exact ⟨.nx e1, s1, by simp only [loopF, hgd, if_true, e], q⟩
    | ret v => exact ⟨.ret v, s1, by simp only [loopF, hgd, if_true, e], q⟩
/-- a comprehension whose turns only add to the store -/
theorem wp_loopC {gd : Option (Nat × List D)} {f : D → M (Option D)} {F : D → Option D} {st : Store} (hg : gdOk st gd = true) :
    ∀ (l : List D) (s : Store), st <+: s → (∀ d ∈ l, ∀ s, st <+: s → wp (f d) (fun o s1 => o = F d ∧ s <+: s1) s) → wp (loopC gd f l) (fun ds s1 => ds = l.filterMap F ∧ s <+: s1) s
  | [], s, p, h => by
    have : gdOk s gd = true := by
      cases gd with
      | none => rfl
      | some q =>
        obtain ⟨t, rfl⟩ := p
        simp only [gdOk, decide_eq_true_eq] at hg ⊢
        rw [List.getElem?_append_left (List.getElem?_eq_some_iff.mp hg).1]; exact hg
    exact ⟨[], s, by simp only [loopC, this, if_true], rfl, List.prefix_refl _⟩
  | d :: r, s, p, h => by
    have hgs : gdOk s gd = true := by
      cases gd with
      | none => rfl
      | some q =>
        obtain ⟨t, rfl⟩ := p
        simp only [gdOk, decide_eq_true_eq] at hg ⊢
        rw [List.getElem?_append_left (List.getElem?_eq_some_iff.mp hg).1]; exact hg
    obtain ⟨o, s1, e1, rfl, p1⟩ := h d List.mem_cons_self s p
    obtain ⟨ds, s2, e2, rfl, p2⟩ := wp_loopC hg r s1 (p.trans p1) fun d hd => h d (List.mem_cons_of_mem _ hd)
    refine ⟨(F d).toList ++ r.filterMap F, s2, by simp only [loopC, hgs, if_true, e1, e2], ?_, p1.trans p2⟩
    cases hF : F d <;> simp [List.filterMap_cons, hF]
theorem wp_compF {t : Tg} {own : List Nat} {env : Env} {mt : Env → M Bool} {me : Env → M D} {d : D} {st : Store} {QO : Option D → Store → Prop} {env1 : Env} (hb : bindT t d (wipeE env own) st = some env1) :
    wp (compF t own env mt me d) QO st ↔ wp (mt env1) (fun r s => if r = true then wp (me env1) (fun x s => QO (some x) s) s else QO none s) st := by
  unfold wp compF
  simp only [hb]
  constructor
  · rintro ⟨o, s, e, q⟩
    split at e
    · rename_i s1 e1
      refine ⟨true, s1, e1, ?_⟩
      rw [if_pos rfl]
      split at e
      · rename_i x s2 e2
        cases e
        exact ⟨x, _, e2, q⟩
      · cases e
      · cases e
    · rename_i s1 e1
      cases e
      exact ⟨false, _, e1, by rw [if_neg (by decide)]; exact q⟩
    · cases e
    · cases e
  · rintro ⟨r, s1, e1, h⟩
    cases r with
    | true =>
      rw [if_pos rfl] at h
      obtain ⟨x, s2, e2, q⟩ := h
      exact ⟨some x, s2, by rw [e1]; simp only [e2], q⟩
    | false =>
      rw [if_neg (by decide)] at h
      exact ⟨none, s1, by rw [e1], h⟩
theorem wp_forF {t : Tg} {mb : Env → M Fl} {d : D} {env env1 : Env} {st : Store} {Q : Fl → Store → Prop} (hb : bindT t d env st = some env1) : wp (forF t mb d env) Q st ↔ wp (mb env1) Q st := by
  unfold wp forF
  simp only [hb]
end W9

/-! W9w: small words for the ends -/
namespace W9
open PySem PySem.Spec PyProof.Rows L2
def AllB (K : PySem.W.Frag) : List Str → Prop
  | [] => True
  | x :: r => PySem.W.nsIn K mainGlobals x = some none ∧ AllB K r
theorem forall_bs {K : PySem.W.Frag} : ∀ {bs : List Str}, AllB K bs → ∀ x ∈ bs, PySem.W.nsIn K mainGlobals x = some none
  | y :: r, ⟨h1, h2⟩, x, hx => by
    rcases List.mem_cons.mp hx with e | e
    · rw [e]; exact h1
    · exact forall_bs h2 x e
end W9

/-! W9x: reading the interpreter by simp -/
namespace W9
open PySem L2
def varQ (o : Option (Option D)) (Q : D → Store → Prop) (s : Store) : Prop := match o with
  | some (some d) => Q d s
  | _ => False
theorem varQ_some {d : D} {Q : D → Store → Prop} {s : Store} : varQ (some (some d)) Q s = Q d s := rfl
section
variable {C : Cts} {env : Env} {Q : Fl → Store → Prop} {QD : D → Store → Prop} {QB : Bool → Store → Prop} {QL : List D → Store → Prop} {QS : SI → Store → Prop} {st : Store}
theorem wp_varX {i : Nat} : wp ((bo C (.var i)).1 env) QD st ↔ varQ env[i]? QD st := by
  unfold bo
  unfold wp varQ
  constructor
  · rintro ⟨a, s, e, q⟩
    dsimp only at e
    split at e
    · rename_i h; cases e; first | exact q | (rw [h]; exact q)
    · cases e
  · intro h
    split at h
    · rename_i d hd; exact ⟨d, st, by dsimp only; rw [hd], h⟩
    · exact h.elim
theorem wp_augX {i : Nat} {op : Operator} {e : Ex} : wp (run C (.aug i op e) env) Q st ↔ varQ env[i]? (fun x s => wp ((bo C e).1 env) (fun y s => wp (augD op x y) (fun z s => Q (.nx (env.set i (some z))) s) s) s) st := by
  cases h : env[i]? with
  | none =>
    constructor
    · rintro ⟨a, s, e1, q⟩
      simp only [run, h] at e1
      cases e1
    · exact fun z => z.elim
  | some o =>
    cases o with
    | none =>
      constructor
      · rintro ⟨a, s, e1, q⟩
        simp only [run, h] at e1
        cases e1
      · exact fun z => z.elim
    | some x => exact wp_augS h
theorem wp_idxT {a i : Ex} : wp ((bo C (.idx a i)).2 env) QB st ↔ wp ((bo C (.idx a i)).1 env) (fun x s => wp (truthD x) QB s) st := wp_plainT (by unfold bo; rfl)
theorem wp_varT {i : Nat} : wp ((bo C (.var i)).2 env) QB st ↔ wp ((bo C (.var i)).1 env) (fun x s => wp (truthD x) QB s) st := wp_plainT (by unfold bo; rfl)
theorem wp_callT {f : Str} {es : Exs} : wp ((bo C (.call f es)).2 env) QB st ↔ wp ((bo C (.call f es)).1 env) (fun x s => wp (truthD x) QB s) st := wp_plainT (by unfold bo; rfl)
theorem wp_biT {f : Bi} {es : Exs} : wp ((bo C (.bi f es)).2 env) QB st ↔ wp ((bo C (.bi f es)).1 env) (fun x s => wp (truthD x) QB s) st := wp_plainT (by unfold bo; rfl)
theorem x_truB {b : Bool} : wp (truthD (.bl b)) QB st ↔ QB b st := wp_ok rfl
theorem tsto_none : wp (tsto C .none env) QB st ↔ QB true st := by unfold tsto; exact wp_ret
theorem tsto_some {e : Ex} : wp (tsto C (.some e) env) QB st ↔ wp ((bo C e).2 env) QB st := by unfold tsto; exact Iff.rfl
/-! operators upon known things -/
theorem x_addI {a b : Int} : wp (binD .Add (.int a) (.int b)) QD st ↔ QD (.int (a + b)) st := wp_ok rfl
theorem x_addT {a b : List D} : wp (binD .Add (.tup a) (.tup b)) QD st ↔ a.length + b.length ≤ bigN ∧ QD (.tup (a ++ b)) st := wp_gd
theorem x_addS {a b : Str} : wp (binD .Add (.str a) (.str b)) QD st ↔ a.length + b.length ≤ bigN ∧ QD (.str (a ++ b)) st := wp_gd
def lstQ (o : Option Ob) (Q : List D → Prop) : Prop := match o with | some (.lst xs) => Q xs | _ => False
theorem lstQ_some {xs : List D} {Q : List D → Prop} : lstQ (some (.lst xs)) Q = Q xs := rfl
def dctQ (o : Option Ob) (Q : List (D × D) → Prop) : Prop := match o with | some (.dct xs) => Q xs | _ => False
theorem dctQ_some {xs : List (D × D)} {Q : List (D × D) → Prop} : dctQ (some (.dct xs)) Q = Q xs := rfl
theorem x_addL {i j : Nat} : wp (binD .Add (.ob i) (.ob j)) QD st ↔ lstQ st[i]? fun xs => lstQ st[j]? fun ys => xs.length + ys.length ≤ bigN ∧ QD (.ob st.length) (st ++ [.lst (xs ++ ys)]) := by
  unfold wp lstQ
  simp only [binD, addD]
  constructor
  · rintro ⟨a, s, e, q⟩
    split at e
    · rename_i xs ys h1 h2
      rw [h1, h2]
      split at e
      · cases e; exact ⟨by assumption, q⟩
      · cases e
    · cases e
  · intro h
    split at h
    · rename_i xs h1
      split at h
      · rename_i ys h2
        exact ⟨_, _, by rw [h1, h2]; simp only [h.1, if_true], h.2⟩
      · exact h.elim
    · exact h.elim
theorem x_subI {a b : Int} : wp (binD .Sub (.int a) (.int b)) QD st ↔ QD (.int (a - b)) st := wp_ok rfl
theorem x_mulI {a b : Int} : wp (binD .Mult (.int a) (.int b)) QD st ↔ mulOk a b = true ∧ QD (.int (a * b)) st := wp_gd
theorem x_divI {a b : Int} : wp (binD .FloorDiv (.int a) (.int b)) QD st ↔ (0 < b ∧ b.natAbs.log2 < 9000) ∧ QD (.int (a / b)) st := wp_gd
theorem x_modI {a b : Int} : wp (binD .Mod (.int a) (.int b)) QD st ↔ 0 < b ∧ QD (.int (a % b)) st := wp_gd
theorem x_powI {a b : Int} : wp (binD .Pow (.int a) (.int b)) QD st ↔ (0 ≤ b ∧ (Builtin.Int.intBits a : Int) * b ≤ 2 ^ 27) ∧ QD (.int (a ^ b.toNat)) st := wp_gd
theorem x_ltI {a b : Int} : wp (cmpD .Lt (.int a) (.int b)) QD st ↔ QD (.bl (decide (a < b))) st := wp_ok rfl
theorem x_leI {a b : Int} : wp (cmpD .LtE (.int a) (.int b)) QD st ↔ QD (.bl (decide (a ≤ b))) st := wp_ok rfl
theorem x_gtI {a b : Int} : wp (cmpD .Gt (.int a) (.int b)) QD st ↔ QD (.bl (decide (a > b))) st := wp_ok rfl
theorem x_geI {a b : Int} : wp (cmpD .GtE (.int a) (.int b)) QD st ↔ QD (.bl (decide (a ≥ b))) st := wp_ok rfl
theorem x_is {a : D} : wp (cmpD .Is a .non) QD st ↔ QD (.bl (match a with | .non => true | _ => false)) st := wp_ok (by cases a <;> rfl)
theorem x_isnot {a : D} : wp (cmpD .IsNot a .non) QD st ↔ QD (.bl (match a with | .non => false | _ => true)) st := wp_ok (by cases a <;> rfl)
theorem x_isB {a b : Bool} : wp (cmpD .Is (.bl a) (.bl b)) QD st ↔ QD (.bl (decide (a = b))) st := wp_ok rfl
theorem x_isNB {b : Bool} : wp (cmpD .Is .non (.bl b)) QD st ↔ QD (.bl false) st := wp_ok rfl
def optQ {α : Type} (o : Option α) (Q : α → Prop) : Prop := match o with | some a => Q a | none => False
theorem optQ_some {α : Type} {a : α} {Q : α → Prop} : optQ (some a) Q = Q a := rfl
theorem wp_opt {α β : Type} {o : Option β} {m : M α} {f : β → α} {g : β → Store} {Q : α → Store → Prop} (h1 : ∀ d, o = some d → m st = .ok (f d) (g d)) (h2 : o = none → m st = .no) : wp m Q st ↔ optQ o fun d => Q (f d) (g d) := by
  cases o with
  | some d => exact wp_ok (h1 d rfl)
  | none =>
    unfold wp
    rw [h2 rfl]
    exact ⟨fun ⟨a, s, e, q⟩ => (nomatch e), fun z => z.elim⟩
theorem x_ixT {xs : List D} {k : Int} : wp (ixD (.tup xs) (.int k)) QD st ↔ optQ (atI xs k) fun d => QD d st := wp_opt (f := fun d => d) (g := fun _ => st) (fun d h => by simp only [ixD, h]) fun h => by simp only [ixD, h]
theorem x_ixF {xs : List D} {k : Int} : wp (ixD (.fls xs) (.int k)) QD st ↔ optQ (atI xs k) fun d => QD d st := wp_opt (f := fun d => d) (g := fun _ => st) (fun d h => by simp only [ixD, h]) fun h => by simp only [ixD, h]
theorem x_ixL {j : Nat} {k : Int} {xs : List D} (h : st[j]? = some (.lst xs)) : wp (ixD (.ob j) (.int k)) QD st ↔ optQ (atI xs k) fun d => QD d st := by
  unfold wp optQ
  simp only [ixD, h]
  constructor
  · rintro ⟨a, s, e, q⟩
    split at e
    · rename_i h; cases e; first | exact q | (rw [h]; exact q)
    · cases e
  · intro h
    split at h
    · rename_i d hd; exact ⟨d, st, by rw [hd], h⟩
    · exact h.elim
theorem x_ixD {j : Nat} {k : D} {kvs : List (D × D)} (h : st[j]? = some (.dct kvs)) : wp (ixD (.ob j) k) QD st ↔ kindOk kvs k = true ∧ optQ (getKv kvs k) fun d => QD d st := by
  unfold wp optQ
  simp only [ixD, h]
  constructor
  · rintro ⟨a, s, e, q⟩
    split at e
    · rename_i hk
      split at e
      · rename_i h; cases e; first | exact ⟨hk, q⟩ | (rw [h]; exact ⟨hk, q⟩)
      · cases e
    · cases e
  · rintro ⟨hk, h⟩
    split at h
    · rename_i d hd; exact ⟨d, st, by rw [if_pos hk, hd], h⟩
    · exact h.elim
theorem x_setL {j : Nat} {k : Int} {n : Nat} {d : D} {xs : List D} {QU : Unit → Store → Prop} (h : st[j]? = some (.lst xs)) (hn : ixN xs.length k = some n) : wp (setD (.ob j) (.int k) d) QU st ↔ QU () (st.set j (.lst (xs.set n d))) := wp_ok (by simp only [setD, h, hn])
theorem x_setK {j : Nat} {k : D} {d : D} {kvs : List (D × D)} {QU : Unit → Store → Prop} (h : st[j]? = some (.dct kvs)) : wp (setD (.ob j) k d) QU st ↔ (kindOk kvs k = true ∧ kvs.length < bigN) ∧ QU () (st.set j (.dct (putKv kvs k d))) := by
  unfold wp
  simp only [setD, h]
  constructor
  · rintro ⟨a, s, e, q⟩
    split at e
    · rename_i hk; cases e; exact ⟨hk, q⟩
    · cases e
  · rintro ⟨hk, q⟩
    exact ⟨(), _, by rw [if_pos hk], q⟩
theorem x_abs {i : Int} : wp (biD .abs [.int i]) QD st ↔ QD (.int (if i < 0 then -i else i)) st := wp_ok rfl
theorem x_lenT {xs : List D} : wp (biD .len [.tup xs]) QD st ↔ QD (.int xs.length) st := wp_ok rfl
theorem x_lenF {xs : List D} : wp (biD .len [.fls xs]) QD st ↔ QD (.int xs.length) st := wp_ok rfl
theorem x_lenL {j : Nat} {xs : List D} (h : st[j]? = some (.lst xs)) : wp (biD .len [.ob j]) QD st ↔ QD (.int xs.length) st := wp_ok (by simp only [biD, itemsL, h])
theorem x_intI {i : Int} : wp (biD .int [.int i]) QD st ↔ QD (.int i) st := wp_ok rfl
theorem x_intB {b : Bool} : wp (biD .int [.bl b]) QD st ↔ QD (.int (if b then 1 else 0)) st := wp_ok rfl
theorem x_max2 {i j : Int} : wp (biD .max [.int i, .int j]) QD st ↔ QD (.int (if j > i then j else i)) st := wp_ok rfl
theorem x_min2 {i j : Int} : wp (biD .min [.int i, .int j]) QD st ↔ QD (.int (if j < i then j else i)) st := wp_ok rfl
theorem x_tupL {j : Nat} {xs : List D} (h : st[j]? = some (.lst xs)) : wp (biD .tuple [.ob j]) QD st ↔ QD (.tup xs) st := wp_ok (by simp only [biD, itemsL, h])
theorem x_seqT {xs : List D} : wp (seqS (.tup xs)) QS st ↔ QS (xs, none) st := wp_ok rfl
theorem x_seqF {xs : List D} : wp (seqS (.fls xs)) QS st ↔ QS (xs, none) st := wp_ok rfl
theorem x_seqL {j : Nat} {xs : List D} (h : st[j]? = some (.lst xs)) : wp (seqS (.ob j)) QS st ↔ QS (xs, some (j, xs)) st := wp_ok (by simp only [seqS, h])
theorem x_slT {xs : List D} {lo hi : Option Int} : wp (slD (.tup xs) lo hi) QD st ↔ QD (.tup (cutL xs lo hi)) st := wp_ok rfl
theorem x_slF {xs : List D} {lo hi : Option Int} : wp (slD (.fls xs) lo hi) QD st ↔ QD (.ob st.length) (st ++ [.lst (cutL xs lo hi)]) := wp_ok rfl
theorem x_slL {j : Nat} {xs : List D} {lo hi : Option Int} (h : st[j]? = some (.lst xs)) : wp (slD (.ob j) lo hi) QD st ↔ QD (.ob st.length) (st ++ [.lst (cutL xs lo hi)]) := wp_ok (by simp only [slD, h])
theorem x_app {j : Nat} {x : D} {xs : List D} (h : st[j]? = some (.lst xs)) : wp (meD .append .list (.ob j) [x]) QD st ↔ xs.length < bigN ∧ QD .non (st.set j (.lst (xs ++ [x]))) := by
  unfold wp
  simp only [meD, h]
  constructor
  · rintro ⟨a, s, e, q⟩
    split at e
    · rename_i hk; cases e; exact ⟨hk, q⟩
    · cases e
  · rintro ⟨hk, q⟩
    exact ⟨.non, _, by rw [if_pos hk], q⟩
theorem x_get1 {j : Nat} {k : D} {kvs : List (D × D)} (h : st[j]? = some (.dct kvs)) : wp (meD .get .dict (.ob j) [k]) QD st ↔ kindOk kvs k = true ∧ QD ((getKv kvs k).getD .non) st := by
  unfold wp
  simp only [meD, h]
  constructor
  · rintro ⟨a, s, e, q⟩
    split at e
    · rename_i hk; cases e; exact ⟨hk, q⟩
    · cases e
  · rintro ⟨hk, q⟩
    exact ⟨_, _, by rw [if_pos hk], q⟩
theorem x_get2 {j : Nat} {k x : D} {kvs : List (D × D)} (h : st[j]? = some (.dct kvs)) : wp (meD .get .dict (.ob j) [k, x]) QD st ↔ kindOk kvs k = true ∧ QD ((getKv kvs k).getD x) st := by
  unfold wp
  simp only [meD, h]
  constructor
  · rintro ⟨a, s, e, q⟩
    split at e
    · rename_i hk; cases e; exact ⟨hk, q⟩
    · cases e
  · rintro ⟨hk, q⟩
    exact ⟨_, _, by rw [if_pos hk], q⟩
theorem x_setd {j : Nat} {k x : D} {kvs : List (D × D)} (h : st[j]? = some (.dct kvs)) : wp (meD .setdefault .dict (.ob j) [k, x]) QD st ↔ (kindOk kvs k = true ∧ kvs.length < bigN) ∧ (match getKv kvs k with | some d => QD d st | none => QD x (st.set j (.dct (putKv kvs k x)))) := by
  unfold wp
  simp only [meD, h]
  constructor
  · rintro ⟨a, s, e, q⟩
    split at e
    · rename_i hk
      refine ⟨hk, ?_⟩
      split at e
      · rename_i d hd; cases e; first | exact q | (rw [hd]; exact q)
      · rename_i hd; cases e; first | exact q | (rw [hd]; exact q)
    · cases e
  · rintro ⟨hk, q⟩
    rw [if_pos hk]
    split at q
    · rename_i d hd; first | exact ⟨_, _, rfl, q⟩ | (rw [hd]; exact ⟨_, _, rfl, q⟩)
    · rename_i hd; first | exact ⟨_, _, rfl, q⟩ | (rw [hd]; exact ⟨_, _, rfl, q⟩)
theorem x_inK {j : Nat} {k : D} {kvs : List (D × D)} {neg : Bool} (h : st[j]? = some (.dct kvs)) : wp (inD neg k (.ob j)) QD st ↔ kindOk kvs k = true ∧ QD (.bl (ifn neg (getKv kvs k).isSome)) st := by
  unfold wp
  simp only [inD, h]
  constructor
  · rintro ⟨a, s, e, q⟩
    split at e
    · rename_i hk; cases e; exact ⟨hk, q⟩
    · cases e
  · rintro ⟨hk, q⟩
    exact ⟨_, _, by rw [if_pos hk], q⟩
theorem x_tyL {j : Nat} {xs : List D} (h : st[j]? = some (.lst xs)) : tyD st (.ob j) = some .list := by simp only [tyD, h]
theorem x_tyD {j : Nat} {xs : List (D × D)} (h : st[j]? = some (.dct xs)) : tyD st (.ob j) = some .dict := by simp only [tyD, h]
end
end W9

/-! W9y: the hand of the laws -/
namespace W9
open PySem L2
def take_b : Sms :=
  (.cons (.ite (.cmp .Gt (.idx (.var 0) (.cst (.int 0))) (.cst (.int 0)))
    (.cons (.asg 4 (.bin .Mod (.idx (.var 0) (.cst (.int 0))) (.var 1)))
    (.cons (.setIx (.var 0) (.cst (.int 0)) (.bin .FloorDiv (.idx (.var 0) (.cst (.int 0))) (.var 1)))
    (.cons (.ret (.var 4))
    .nil)))
    .nil)
    (.cons (.setIx (.var 0) (.cst (.int 2)) (.bin .Add (.idx (.var 0) (.cst (.int 2))) (.cst (.int 1))))
    (.cons (.asg 2 (.idx (.var 0) (.cst (.int 2))))
    (.cons (.asg 3 (.bin .Mod (.bin .Mult (.bin .Add (.idx (.var 0) (.cst (.int 1))) (.bin .Mult (.cst (.int 39373)) (.var 2))) (.bin .Add (.cst (.int 48271)) (.bin .Mult (.var 2) (.var 2)))) (.cst (.int 2305843009213693921))))
    (.cons (.setIx (.var 0) (.cst (.int 1)) (.bin .Mod (.bin .Mult (.var 3) (.bin .Add (.bin .Mod (.var 3) (.cst (.int 1000003))) (.cst (.int 17)))) (.cst (.int 2305843009213693907))))
    (.cons (.ret (.bin .Mod (.bin .FloorDiv (.idx (.var 0) (.cst (.int 1))) (.cst (.int 131071))) (.var 1)))
    .nil))))))
/-- a hand lies at i, from which at most n numbers have been drawn -/
structure HandO (n : Int) (o : Ob) : Prop where
  ex : ∃ a b c : Int, o = .lst [.int a, .int b, .int c] ∧ 0 ≤ b ∧ b < 2 ^ 62 ∧ 0 ≤ c ∧ c ≤ n
theorem mulOk_left {i j : Int} (h1 : -(2 ^ 64) < i) (h2 : i < 2 ^ 64) : mulOk i j = true := by
  unfold mulOk
  simp only [decide_eq_true h1, decide_eq_true h2, Bool.and_self, Bool.true_or]
theorem mulOk_right {i j : Int} (h1 : -(2 ^ 64) < j) (h2 : j < 2 ^ 64) : mulOk i j = true := by
  unfold mulOk
  simp only [decide_eq_true h1, decide_eq_true h2, Bool.and_self, Bool.true_or, Bool.or_true]
theorem at3 {a b c : D} : atI [a, b, c] 0 = some a ∧ atI [a, b, c] 1 = some b ∧ atI [a, b, c] 2 = some c := ⟨rfl, rfl, rfl⟩
theorem take_ok {C : Cts} {i : Nat} {n m : Int} {o : Ob} {st : Store} (hi : st[i]? = some o) (ho : HandO n o) (hn : n < 2 ^ 40) (hm : 0 < m) (hm2 : m.natAbs.log2 < 9000) :
    ∃ r o', callDef C 5 take_b [.ob i, .int m] st = .ok (.int r) (st.set i o') ∧ HandO (n + 1) o' ∧ 0 ≤ r ∧ r < m := by
  obtain ⟨a, b, c, rfl, hb, hb2, hc, hcn⟩ := ho.ex
  have hlt : i < st.length := (List.getElem?_eq_some_iff.mp hi).1
  have key : wp (callDef C 5 take_b [.ob i, .int m]) (fun d s => ∃ r o', d = .int r ∧ s = st.set i o' ∧ HandO (n + 1) o' ∧ 0 ≤ r ∧ r < m) st := by
    unfold take_b
    simp only [wp_callDef, wp_cons, wp_nil, wp_asg, wp_expr, wp_retS, wp_retN, wp_iteS, wp_pass, wp_brk, wp_cont, wp_setIx, wp_augX, wp_asgT, wp_for, wp_varX, wp_cst, wp_bin, wp_cmp, wp_cmpT, wp_chainT, wp_andT, wp_orT, wp_notT, wp_iteE, wp_idx, wp_sl, wp_call, wp_bi, wp_tup, wp_lst, wp_dict0, wp_meth, wp_lc, wp_evs_nil, wp_evs_cons, wp_evo_none, wp_evo_some, wp_seq, wp_enum, wp_rng1, wp_rng2, wp_idxT, wp_varT, wp_callT, wp_biT, x_truB, tsto_none, tsto_some,
  seqQ_nx, seqQ_ret, seqQ_bk, seqQ_ct, endQ_ret, endQ_nx, varQ_some, lstQ_some, dctQ_some, optQ_some, blQ_bl, inQ_int, rgQ_int, rg2Q_int,
  x_addI, x_addT, x_addS, x_addL, x_subI, x_mulI, x_divI, x_modI, x_powI, x_ltI, x_leI, x_gtI, x_geI, x_is, x_isnot, x_isB, x_isNB, x_ixT, x_ixF, x_abs, x_lenT, x_lenF, x_intI, x_intB, x_max2, x_min2, x_seqT, x_seqF, x_slT, x_slF,
  List.map_cons, List.map_nil, List.length_cons, List.length_nil, List.cons_append, List.nil_append, List.replicate_succ, List.replicate_zero, Nat.reduceSub, Nat.reduceAdd, List.set_cons_zero, List.set_cons_succ, List.getElem?_cons_zero, List.getElem?_cons_succ, Nat.add_zero, Nat.zero_add, Nat.sub_self, decide_eq_true_eq, x_ixL hi, at3]
    by_cases ha : a > 0
    · simp only [if_pos ha]
      simp only [wp_callDef, wp_cons, wp_nil, wp_asg, wp_expr, wp_retS, wp_retN, wp_iteS, wp_pass, wp_brk, wp_cont, wp_setIx, wp_augX, wp_asgT, wp_for, wp_varX, wp_cst, wp_bin, wp_cmp, wp_cmpT, wp_chainT, wp_andT, wp_orT, wp_notT, wp_iteE, wp_idx, wp_sl, wp_call, wp_bi, wp_tup, wp_lst, wp_dict0, wp_meth, wp_lc, wp_evs_nil, wp_evs_cons, wp_evo_none, wp_evo_some, wp_seq, wp_enum, wp_rng1, wp_rng2, wp_idxT, wp_varT, wp_callT, wp_biT, x_truB, tsto_none, tsto_some,
  seqQ_nx, seqQ_ret, seqQ_bk, seqQ_ct, endQ_ret, endQ_nx, varQ_some, lstQ_some, dctQ_some, optQ_some, blQ_bl, inQ_int, rgQ_int, rg2Q_int,
  x_addI, x_addT, x_addS, x_addL, x_subI, x_mulI, x_divI, x_modI, x_powI, x_ltI, x_leI, x_gtI, x_geI, x_is, x_isnot, x_isB, x_isNB, x_ixT, x_ixF, x_abs, x_lenT, x_lenF, x_intI, x_intB, x_max2, x_min2, x_seqT, x_seqF, x_slT, x_slF,
  List.map_cons, List.map_nil, List.length_cons, List.length_nil, List.cons_append, List.nil_append, List.replicate_succ, List.replicate_zero, Nat.reduceSub, Nat.reduceAdd, List.set_cons_zero, List.set_cons_succ, List.getElem?_cons_zero, List.getElem?_cons_succ, Nat.add_zero, Nat.zero_add, Nat.sub_self, decide_eq_true_eq, x_ixL hi, at3, x_setL (n := 0) (k := 0) hi rfl]
      refine ⟨hm, ⟨hm, hm2⟩, a % m, _, rfl, rfl, ⟨_, _, _, rfl, hb, hb2, hc, by omega⟩, Int.emod_nonneg _ (by omega), Int.emod_lt_of_pos _ hm⟩
    · simp only [if_neg ha]
      have h2 : (st.set i (.lst [.int a, .int b, .int (c + 1)]))[i]? = some (.lst [.int a, .int b, .int (c + 1)]) := by simp [hlt]
      have h3 : ∀ z : D, ((st.set i (.lst [.int a, .int b, .int (c + 1)])).set i (.lst [.int a, z, .int (c + 1)]))[i]? = some (.lst [.int a, z, .int (c + 1)]) := fun z => by simp [hlt]
      simp only [wp_callDef, wp_cons, wp_nil, wp_asg, wp_expr, wp_retS, wp_retN, wp_iteS, wp_pass, wp_brk, wp_cont, wp_setIx, wp_augX, wp_asgT, wp_for, wp_varX, wp_cst, wp_bin, wp_cmp, wp_cmpT, wp_chainT, wp_andT, wp_orT, wp_notT, wp_iteE, wp_idx, wp_sl, wp_call, wp_bi, wp_tup, wp_lst, wp_dict0, wp_meth, wp_lc, wp_evs_nil, wp_evs_cons, wp_evo_none, wp_evo_some, wp_seq, wp_enum, wp_rng1, wp_rng2, wp_idxT, wp_varT, wp_callT, wp_biT, x_truB, tsto_none, tsto_some,
  seqQ_nx, seqQ_ret, seqQ_bk, seqQ_ct, endQ_ret, endQ_nx, varQ_some, lstQ_some, dctQ_some, optQ_some, blQ_bl, inQ_int, rgQ_int, rg2Q_int,
  x_addI, x_addT, x_addS, x_addL, x_subI, x_mulI, x_divI, x_modI, x_powI, x_ltI, x_leI, x_gtI, x_geI, x_is, x_isnot, x_isB, x_isNB, x_ixT, x_ixF, x_abs, x_lenT, x_lenF, x_intI, x_intB, x_max2, x_min2, x_seqT, x_seqF, x_slT, x_slF,
  List.map_cons, List.map_nil, List.length_cons, List.length_nil, List.cons_append, List.nil_append, List.replicate_succ, List.replicate_zero, Nat.reduceSub, Nat.reduceAdd, List.set_cons_zero, List.set_cons_succ, List.getElem?_cons_zero, List.getElem?_cons_succ, Nat.add_zero, Nat.zero_add, Nat.sub_self, decide_eq_true_eq, x_ixL hi, at3, x_setL (n := 2) (k := 2) hi rfl, x_ixL h2, x_setL (n := 1) (k := 1) h2 rfl, x_ixL (h3 _)]
      have m1 : mulOk 39373 (c + 1) = true := mulOk_left (by decide) (by decide)
      have m2 : mulOk (c + 1) (c + 1) = true := mulOk_left (by omega) (by omega)
      have m3 : mulOk (b + 39373 * (c + 1)) (48271 + (c + 1) * (c + 1)) = true := mulOk_left (by omega) (by omega)
      have e1 : 0 ≤ (b + 39373 * (c + 1)) * (48271 + (c + 1) * (c + 1)) % 2305843009213693921 := Int.emod_nonneg _ (by decide)
      have e2 : (b + 39373 * (c + 1)) * (48271 + (c + 1) * (c + 1)) % 2305843009213693921 < 2305843009213693921 := Int.emod_lt_of_pos _ (by decide)
      refine ⟨m1, m2, m3, by decide, by decide, mulOk_left (by omega) (by omega), by decide, ⟨by decide, by decide⟩, hm, _, _, rfl, List.set_set .., ⟨_, _, _, rfl, Int.emod_nonneg _ (by decide), ?_, by omega, by omega⟩, Int.emod_nonneg _ (by omega), Int.emod_lt_of_pos _ hm⟩
      exact Int.lt_trans (Int.emod_lt_of_pos _ (by decide)) (by decide)
  obtain ⟨d, s, e, r, o', rfl, rfl, h⟩ := key
  exact ⟨r, o', e, h⟩
end W9

/-! W9z: stores that grow, texts of data, dicts -/
namespace W9
open PySem L2
section
variable {C : Cts} {QD : D → Store → Prop} {st : Store}
theorem x_eqS {a b : D} (h : scalD a b = true) : wp (cmpD .Eq a b) QD st ↔ QD (.bl (decide (a = b))) st := wp_ok (by simp only [cmpD, eqD, h, if_true]; rfl)
theorem x_neS {a b : D} (h : scalD a b = true) : wp (cmpD .NotEq a b) QD st ↔ QD (.bl (!decide (a = b))) st := wp_ok (by simp only [cmpD, eqD, h, if_true])
theorem x_eqP {a b : D} {p q : PyData} (h : scalD a b = false) (h1 : pyD st a = some p) (h2 : pyD st b = some q) (h3 : SeqAt.shaped p = true) (h4 : SeqAt.shaped q = true) : wp (cmpD .Eq a b) QD st ↔ QD (.bl (PyData.eqv p q)) st :=
  wp_ok (by simp only [cmpD, eqD, h, h1, h2, h3, h4, and_self, if_true, if_false, Bool.false_eq_true])
theorem x_neP {a b : D} {p q : PyData} (h : scalD a b = false) (h1 : pyD st a = some p) (h2 : pyD st b = some q) (h3 : SeqAt.shaped p = true) (h4 : SeqAt.shaped q = true) : wp (cmpD .NotEq a b) QD st ↔ QD (.bl (!PyData.eqv p q)) st :=
  wp_ok (by simp only [cmpD, eqD, h, h1, h2, h3, h4, and_self, if_true, if_false, Bool.false_eq_true])
end
/-! ### dicts -/
theorem getKv_nil (k : D) : getKv [] k = none := rfl
theorem getKv_cons (k k1 d : D) (r : List (D × D)) : getKv ((k1, d) :: r) k = if k1 = k then some d else getKv r k := by
  unfold getKv
  rw [List.find?_cons]
  by_cases h : k1 = k
  · simp [h]
  · simp [h]
theorem getKv_append (k : D) : ∀ (l r : List (D × D)), getKv (l ++ r) k = (getKv l k).or (getKv r k)
  | [], r => by simp [getKv_nil]
  | (k1, d) :: l, r => by
    rw [List.cons_append, getKv_cons, getKv_cons, getKv_append k l r]
    split <;> simp
theorem getKv_any {k : D} : ∀ {l : List (D × D)}, (l.any fun kv => decide (kv.1 = k)) = (getKv l k).isSome
  | [] => rfl
  | (k1, d) :: l => by
    rw [List.any_cons, getKv_cons, getKv_any (l := l)]
    by_cases h : k1 = k <;> simp [h]
theorem getKv_put (k k' d : D) (l : List (D × D)) : getKv (putKv l k d) k' = if k = k' then some d else getKv l k' := by
  unfold putKv
  split
  · rename_i h
    induction l with
    | nil => simp at h
    | cons p l ih =>
      obtain ⟨k1, d1⟩ := p
      rw [List.map_cons]
      by_cases h1 : k1 = k
      · simp only [h1, if_true]
        rw [getKv_cons, getKv_cons]
        by_cases h2 : k = k'
        · simp [h2]
        · simp only [if_neg h2]
          clear ih h
          induction l with
          | nil => rfl
          | cons q l ih =>
            obtain ⟨k2, d2⟩ := q
            rw [List.map_cons]
            by_cases h3 : k2 = k
            · simp only [h3, if_true]
              rw [getKv_cons, getKv_cons, if_neg h2, if_neg h2]; exact ih
            · simp only [if_neg h3]
              rw [getKv_cons, getKv_cons, ih]
      · simp only [if_neg h1]
        have h' : (l.any fun kv => decide (kv.1 = k)) = true := by simpa [h1] using h
        rw [getKv_cons, getKv_cons, ih h']
        by_cases h2 : k1 = k'
        · subst h2
          simp [Ne.symm h1]
        · simp [h2]
  · rename_i h
    rw [getKv_append, getKv_cons, getKv_nil]
    have hn : getKv l k = none := by
      rw [getKv_any] at h
      cases hg : getKv l k with
      | none => rfl
      | some x => rw [hg] at h; simp at h
    by_cases h2 : k = k'
    · subst h2; rw [hn]; simp
    · simp [h2]
theorem putKv_len (l : List (D × D)) (k d : D) : (putKv l k d).length ≤ l.length + 1 := by
  unfold putKv
  split <;> simp
/-- all keys are texts -/
def keysS (l : List (D × D)) : Prop := ∀ p ∈ l, ∃ s, p.1 = .str s
theorem kind_strs {l : List (D × D)} (h : keysS l) (s : Str) : kindOk l (.str s) = true := by
  cases l with
  | nil => rfl
  | cons p r =>
    obtain ⟨k, d⟩ := p
    obtain ⟨z, hz⟩ := h _ List.mem_cons_self
    have hz' : k = .str z := hz
    subst hz'
    rfl
theorem keysS_put {l : List (D × D)} (h : keysS l) (s : Str) (d : D) : keysS (putKv l (.str s) d) := by
  unfold putKv
  split
  · intro p hp
    obtain ⟨q, hq, rfl⟩ := List.mem_map.mp hp
    obtain ⟨z, hz⟩ := h q hq
    refine ⟨z, ?_⟩
    split <;> exact hz
  · intro p hp
    rcases List.mem_append.mp hp with hp | hp
    · exact h p hp
    · rw [List.mem_singleton.mp hp]; exact ⟨s, rfl⟩
/-- all keys are (text, number) -/
def keysP (l : List (D × D)) : Prop := ∀ p ∈ l, ∃ s i, p.1 = .tup [.str s, .int i] ∧ (s = "book" → i ≠ 0)
theorem keyT_pair {s : Str} {i : Int} (h : s = "book" → i ≠ 0) : (keyT (.tup [.str s, .int i])).isSome = true := by
  have : ¬ ([D.str s, D.int i] = bookD) := by
    intro e
    simp only [bookD, List.cons.injEq, D.str.injEq, D.int.injEq, and_true] at e
    exact h e.1 e.2
  simp only [keyT, if_neg this, keysD, keyD]
  rfl
theorem kind_pairs {l : List (D × D)} (h : keysP l) {s : Str} {i : Int} (hs : s = "book" → i ≠ 0) : kindOk l (.tup [.str s, .int i]) = true := by
  cases l with
  | nil => simp only [kindOk, keyT_pair hs, Bool.or_true]
  | cons p r =>
    obtain ⟨k, d⟩ := p
    obtain ⟨z, j, hz, hz2⟩ := h _ List.mem_cons_self
    have hz' : k = .tup [.str z, .int j] := hz
    subst hz'
    simp only [kindOk, keyT_pair hs, keyT_pair hz2, Bool.and_self, Bool.or_true]
theorem keysP_put {l : List (D × D)} (h : keysP l) {s : Str} {i : Int} (hs : s = "book" → i ≠ 0) (d : D) : keysP (putKv l (.tup [.str s, .int i]) d) := by
  unfold putKv
  split
  · intro p hp
    obtain ⟨q, hq, rfl⟩ := List.mem_map.mp hp
    obtain ⟨z, j, hz⟩ := h q hq
    refine ⟨z, j, ?_⟩
    split <;> exact hz
  · intro p hp
    rcases List.mem_append.mp hp with hp | hp
    · exact h p hp
    · rw [List.mem_singleton.mp hp]; exact ⟨s, i, rfl, hs⟩
/-! ### the text of data -/
mutual
def rsz : PyData → Nat
  | .none => 4
  | .bool _ => 5
  | .int _ => 1921
  | .str x => 10 * x.length + 2
  | .list xs => rszs xs + 3
  | .tuple xs => rszs xs + 3
  | .dict _ => 0
def rszs : List PyData → Nat
  | [] => 0
  | x :: xs => rsz x + 2 + rszs xs
end
theorem join_le (ts : List Str) : (Str.join ", " ts).length ≤ piled ts := by
  by_cases h : ts = []
  · subst h; exact Nat.le_refl 0
  · have := join_length_add ts h; omega
theorem tupText_le (ts : List Str) : (tupleText ts).length ≤ piled ts + 3 := by
  unfold tupleText
  rw [strLen_append, strLen_append]
  have e1 : ((("(" : String) : Str)).length = 1 := rfl
  have e3 : (((if ts.length == 1 then ",)" else ")" : String) : Str)).length ≤ 2 := by split <;> decide
  have := join_le ts
  omega
theorem lstText_le (ts : List Str) : (listText ts).length ≤ piled ts + 3 := by
  cases ts with
  | nil => decide
  | cons t r =>
    have h := textFrom_length_pos r 1 (("[" : Str) ++ (if (0 : Nat) > 0 then ", " else "" : String) ++ t) (Nat.succ_pos 0)
    have z : (listText (t :: r)).length = (textFrom 1 (("[" : Str) ++ (if (0 : Nat) > 0 then ", " else "" : String) ++ t) r).length + 1 := strLen_append _ _
    rw [z, h, strLen_append, strLen_append, piled_cons]
    have e1 : ((("[" : String) : Str)).length = 1 := rfl
    have e2 : ((((if (0 : Nat) > 0 then ", " else "" : String) : String) : Str)).length = 0 := rfl
    omega
mutual
theorem shown_le : ∀ d : PyData, d.canLay0 = true → d.showable = true → d.shown.length ≤ rsz d
  | .none, _, _ => by decide
  | .bool b, _, _ => by cases b <;> decide
  | .int i, _, h => by
    simp only [PyData.showable, decide_eq_true_eq] at h
    have := PySem.int_text_length_le (a := i) (k := 1920) (by decide) h
    simp only [PyData.shown, rsz]
    exact Nat.le_trans (Nat.le_of_eq (ofString_length _)) this
  | .str x, h, _ => by
    simp only [PyData.shown, rsz]
    refine StrLaws.reprText_len x fun c hc => ?_
    simp only [PyData.canLay0, PyData.strOk] at h
    rw [Array.all_eq_true_iff_forall_mem] at h
    have := h c (by simpa using hc)
    have h2 := of_decide_eq_true this
    exact Nat.lt_trans h2 (by decide)
  | .tuple xs, h, h2 => by
    simp only [PyData.shown, rsz]
    have := showns_le xs (by simpa [PyData.canLay0] using h) (by simpa [PyData.showable] using h2) 
    exact Nat.le_trans (tupText_le _) (by omega)
  | .list xs, h, h2 => by
    simp only [PyData.shown, rsz]
    have := showns_le xs (by simpa [PyData.canLay0] using h) (by simpa [PyData.showable] using h2)
    exact Nat.le_trans (lstText_le _) (by omega)
  | .dict _, h, _ => by simp [PyData.canLay0] at h
theorem showns_le : ∀ ds : List PyData, PyData.canLayAll0 ds = true → PyData.showableAll ds = true → piled (PyData.shownAll ds) ≤ rszs ds
  | [], _, _ => Nat.le_refl 0
  | d :: ds, h, h2 => by
    simp only [PyData.canLayAll0, Bool.and_eq_true] at h
    simp only [PyData.showableAll, Bool.and_eq_true] at h2
    simp only [PyData.shownAll, piled_cons, rszs]
    have a := shown_le d h.1 h2.1
    have b := showns_le ds h.2 h2.2
    omega
end
/-- repr of data that is not too big -/
theorem x_repr {QD : D → Store → Prop} {st : Store} {d : D} {p : PyData} (h1 : pyD st d = some p) (h2 : p.canLay0 = true) (h3 : p.showable = true) (h4 : p.depth ≤ 60) (h5 : rsz p ≤ bigN) : wp (biD .repr [d]) QD st ↔ QD (.str p.shown) st :=
  wp_ok (by
    have := Nat.le_trans (shown_le p h2 h3) h5
    simp only [biD, h1, h2, h3, h4, this, and_self, if_true])
/-! ### the hand in a growing store -/
structure HandA (i : Nat) (n : Int) (s : Store) : Prop where
  ex : ∃ o, s[i]? = some o ∧ HandO n o
/-- all but what stands at ks is as it was -/
structure Kp (ks : List Nat) (s s' : Store) : Prop where
  len : s.length ≤ s'.length
  at' : ∀ k o, k ∉ ks → s[k]? = some o → s'[k]? = some o
theorem Kp.refl (ks : List Nat) (s : Store) : Kp ks s s := ⟨Nat.le_refl _, fun _ _ _ h => h⟩
theorem Kp.trans {ks : List Nat} {s s1 s2 : Store} (a : Kp ks s s1) (b : Kp ks s1 s2) : Kp ks s s2 := ⟨Nat.le_trans a.len b.len, fun k o n h => b.at' k o n (a.at' k o n h)⟩
theorem Kp.more {ks ks' : List Nat} {s s1 : Store} (a : Kp ks s s1) (h : ∀ k ∈ ks, k ∈ ks') : Kp ks' s s1 := ⟨a.len, fun k o n e => a.at' k o (fun z => n (h k z)) e⟩
theorem Kp.app (ks : List Nat) (s t : Store) : Kp ks s (s ++ t) := ⟨by simp, fun k o _ h => by rw [List.getElem?_append_left (List.getElem?_eq_some_iff.mp h).1]; exact h⟩
theorem Kp.pre {s s' : Store} (h : s <+: s') (ks : List Nat) : Kp ks s s' := by obtain ⟨t, rfl⟩ := h; exact Kp.app ks s t
theorem Kp.set {ks : List Nat} {s : Store} {k : Nat} {o : Ob} (h : k ∈ ks) : Kp ks s (s.set k o) := ⟨by simp, fun j o' n e => by rw [List.getElem?_set_ne (fun z => n (by rw [← z]; exact h))]; exact e⟩
theorem HandA.kp {i : Nat} {n : Int} {ks : List Nat} {s s' : Store} (a : HandA i n s) (h : Kp ks s s') (hi : i ∉ ks) : HandA i n s' := let ⟨o, e, q⟩ := a.ex; ⟨o, h.at' i o hi e, q⟩
theorem HandA.app {i : Nat} {n : Int} {s : Store} (a : HandA i n s) (t : Store) : HandA i n (s ++ t) := a.kp (ks := []) (Kp.app _ _ _) (by simp)
theorem HandA.lt {i : Nat} {n : Int} {s : Store} (a : HandA i n s) : i < s.length := let ⟨o, e, q⟩ := a.ex; (List.getElem?_eq_some_iff.mp e).1
theorem HandO.mono {m n : Int} {o : Ob} (a : HandO m o) (h : m ≤ n) : HandO n o := let ⟨x, y, z, e, h1, h2, h3, h4⟩ := a.ex; ⟨x, y, z, e, h1, h2, h3, by omega⟩
theorem HandA.mono {i : Nat} {m n : Int} {s : Store} (a : HandA i m s) (h : m ≤ n) : HandA i n s := let ⟨o, e, q⟩ := a.ex; ⟨o, e, q.mono h⟩
theorem log_small {m : Int} (h0 : 0 < m) (h : m < 2 ^ 200) : m.natAbs.log2 < 9000 := by
  have h1 : m.natAbs < 2 ^ 200 := by
    have : (m.natAbs : Int) < 2 ^ 200 := by rw [Int.natAbs_of_nonneg (by omega)]; exact h
    exact_mod_cast this
  have := (Nat.log2_lt (by omega)).mpr h1
  omega
theorem take_wp {C : Cts} {i : Nat} {n m : Int} {st : Store} {QD : D → Store → Prop} (hi : HandA i n st) (hn : n < 2 ^ 40) (hm : 0 < m) (hm2 : m < 2 ^ 62)
    (h : ∀ r s', HandA i (n + 1) s' → Kp [i] st s' → 0 ≤ r → r < m → QD (.int r) s') : wp (callDef C 5 take_b [.ob i, .int m]) QD st := by
  obtain ⟨o, ho, hh⟩ := hi.ex
  have hlt := hi.lt
  obtain ⟨r, o', e, h1, h2, h3⟩ := take_ok (C := C) ho hh hn hm (log_small hm (Int.lt_trans hm2 (by decide)))
  exact ⟨.int r, st.set i o', e, h r _ ⟨o', by simp [hlt], h1⟩ (Kp.set (by simp)) h2 h3⟩
def hand_b : Sms :=
  (.cons (.asg 2 (.cst (.int 0)))
    (.cons (.ite (.cmp .Lt (.var 1) (.bi .len (.cons (.var 0) .nil)))
    (.cons (.asg 2 (.bi .abs (.cons (.idx (.var 0) (.var 1)) .nil)))
    .nil)
    .nil)
    (.cons (.asg 3 (.ite (.cmp .GtE (.var 2) (.bin .Pow (.cst (.int 10)) (.cst (.int 18)))) (.bin .Mod (.var 2) (.bin .Pow (.bin .Pow (.cst (.int 10)) (.cst (.int 60))) (.cst (.int 17)))) (.cst (.int 0))))
    (.cons (.ret (.lst (.cons (.var 3) (.cons (.bin .Add (.bin .Add (.bin .Mod (.var 2) (.cst (.int 2305843009213693951))) (.bin .Mult (.cst (.int 7919)) (.var 1))) (.cst (.int 11))) (.cons (.cst (.int 0)) .nil)))))
    .nil))))
theorem atI_nat {α : Type} {xs : List α} {k : Int} (h0 : 0 ≤ k) (h1 : k < xs.length) : ∃ x, atI xs k = some x ∧ x ∈ xs ∧ xs[k.toNat]? = some x := by
  have hl : k.toNat < xs.length := by omega
  refine ⟨xs[k.toNat], ?_, List.getElem_mem hl, List.getElem?_eq_getElem hl⟩
  unfold atI ixN
  rw [if_pos h0, if_pos h1]
  exact List.getElem?_eq_getElem hl
theorem hand_wp {C : Cts} {ns : List Int} {k : Int} {st : Store} {QD : D → Store → Prop} (h0 : 0 ≤ k) (h1 : k < 1000)
    (h : ∀ o, HandO 0 o → QD (.ob st.length) (st ++ [o])) : wp (callDef C 4 hand_b [.fls (ns.map D.int), .int k]) QD st := by
  have key : ∀ c : Int, 0 ≤ c → ∀ x3 : Option D, wp (runs C (.cons (.asg 3 (.ite (.cmp .GtE (.var 2) (.bin .Pow (.cst (.int 10)) (.cst (.int 18)))) (.bin .Mod (.var 2) (.bin .Pow (.bin .Pow (.cst (.int 10)) (.cst (.int 60))) (.cst (.int 17)))) (.cst (.int 0))))
    (.cons (.ret (.lst (.cons (.var 3) (.cons (.bin .Add (.bin .Add (.bin .Mod (.var 2) (.cst (.int 2305843009213693951))) (.bin .Mult (.cst (.int 7919)) (.var 1))) (.cst (.int 11))) (.cons (.cst (.int 0)) .nil)))))
    .nil)) [some (.fls (ns.map D.int)), some (.int k), some (.int c), x3]) (endQ QD) st := by
    intro c hc x3
    have fin : ∀ d : Int, ∃ a b c0 : Int, Ob.lst [.int d, .int (c % 2305843009213693951 + 7919 * k + 11), .int 0] = .lst [.int a, .int b, .int c0] ∧ 0 ≤ b ∧ b < 2 ^ 62 ∧ 0 ≤ c0 ∧ c0 ≤ 0 := by
      intro d
      have e1 : 0 ≤ c % 2305843009213693951 := Int.emod_nonneg _ (by decide)
      have e2 : c % 2305843009213693951 < 2305843009213693951 := Int.emod_lt_of_pos _ (by decide)
      exact ⟨d, _, 0, rfl, by omega, by omega, by omega, by omega⟩
    have m1 : mulOk 7919 k = true := mulOk_left (by decide) (by decide)
    have p1 : (0 : Int) ≤ 18 ∧ (Builtin.Int.intBits 10 : Int) * 18 ≤ 2 ^ 27 := by decide +kernel
    have p2 : (0 : Int) ≤ 60 ∧ (Builtin.Int.intBits 10 : Int) * 60 ≤ 2 ^ 27 := by decide +kernel
    have p3 : (0 : Int) ≤ 17 ∧ (Builtin.Int.intBits (10 ^ (60 : Int).toNat) : Int) * 17 ≤ 2 ^ 27 := by decide +kernel
    have p4 : (0 : Int) < (10 ^ (60 : Int).toNat) ^ (17 : Int).toNat := by decide +kernel
    simp only [wp_callDef, wp_cons, wp_nil, wp_asg, wp_expr, wp_retS, wp_retN, wp_iteS, wp_pass, wp_brk, wp_cont, wp_setIx, wp_augX, wp_asgT, wp_for, wp_varX, wp_cst, wp_bin, wp_cmp, wp_cmpT, wp_chainT, wp_andT, wp_orT, wp_notT, wp_iteE, wp_idx, wp_sl, wp_call, wp_bi, wp_tup, wp_lst, wp_dict0, wp_meth, wp_lc, wp_evs_nil, wp_evs_cons, wp_evo_none, wp_evo_some, wp_seq, wp_enum, wp_rng1, wp_rng2, wp_idxT, wp_varT, wp_callT, wp_biT, x_truB, tsto_none, tsto_some,
  seqQ_nx, seqQ_ret, seqQ_bk, seqQ_ct, endQ_ret, endQ_nx, varQ_some, lstQ_some, dctQ_some, optQ_some, blQ_bl, inQ_int, rgQ_int, rg2Q_int,
  x_addI, x_addT, x_addS, x_addL, x_subI, x_mulI, x_divI, x_modI, x_powI, x_ltI, x_leI, x_gtI, x_geI, x_is, x_isnot, x_isB, x_isNB, x_ixT, x_ixF, x_abs, x_lenT, x_lenF, x_intI, x_intB, x_max2, x_min2, x_seqT, x_seqF, x_slT, x_slF,
  List.map_cons, List.map_nil, List.length_cons, List.length_nil, List.cons_append, List.nil_append, List.replicate_succ, List.replicate_zero, Nat.reduceSub, Nat.reduceAdd, List.set_cons_zero, List.set_cons_succ, List.getElem?_cons_zero, List.getElem?_cons_succ, Nat.add_zero, Nat.zero_add, Nat.sub_self, decide_eq_true_eq]
    refine ⟨p1, ?_⟩
    split
    · refine ⟨p2, p3, p4, by decide, m1, by decide, h _ ⟨fin _⟩⟩
    · refine ⟨by decide, m1, by decide, h _ ⟨fin _⟩⟩
  unfold hand_b
  simp only [wp_callDef, wp_cons, wp_nil, wp_asg, wp_expr, wp_retS, wp_retN, wp_iteS, wp_pass, wp_brk, wp_cont, wp_setIx, wp_augX, wp_asgT, wp_for, wp_varX, wp_cst, wp_bin, wp_cmp, wp_cmpT, wp_chainT, wp_andT, wp_orT, wp_notT, wp_iteE, wp_idx, wp_sl, wp_call, wp_bi, wp_tup, wp_lst, wp_dict0, wp_meth, wp_lc, wp_evs_nil, wp_evs_cons, wp_evo_none, wp_evo_some, wp_seq, wp_enum, wp_rng1, wp_rng2, wp_idxT, wp_varT, wp_callT, wp_biT, x_truB, tsto_none, tsto_some,
  seqQ_nx, seqQ_ret, seqQ_bk, seqQ_ct, endQ_ret, endQ_nx, varQ_some, lstQ_some, dctQ_some, optQ_some, blQ_bl, inQ_int, rgQ_int, rg2Q_int,
  x_addI, x_addT, x_addS, x_addL, x_subI, x_mulI, x_divI, x_modI, x_powI, x_ltI, x_leI, x_gtI, x_geI, x_is, x_isnot, x_isB, x_isNB, x_ixT, x_ixF, x_abs, x_lenT, x_lenF, x_intI, x_intB, x_max2, x_min2, x_seqT, x_seqF, x_slT, x_slF,
  List.map_cons, List.map_nil, List.length_cons, List.length_nil, List.cons_append, List.nil_append, List.replicate_succ, List.replicate_zero, Nat.reduceSub, Nat.reduceAdd, List.set_cons_zero, List.set_cons_succ, List.getElem?_cons_zero, List.getElem?_cons_succ, Nat.add_zero, Nat.zero_add, Nat.sub_self, decide_eq_true_eq]
  split
  · rename_i hlt
    simp only [List.length_map] at hlt
    obtain ⟨x, hx, hm, _⟩ := atI_nat (xs := ns.map D.int) h0 (by simpa using hlt)
    obtain ⟨z, hz, rfl⟩ := List.mem_map.mp hm
    simp only [wp_callDef, wp_cons, wp_nil, wp_asg, wp_expr, wp_retS, wp_retN, wp_iteS, wp_pass, wp_brk, wp_cont, wp_setIx, wp_augX, wp_asgT, wp_for, wp_varX, wp_cst, wp_bin, wp_cmp, wp_cmpT, wp_chainT, wp_andT, wp_orT, wp_notT, wp_iteE, wp_idx, wp_sl, wp_call, wp_bi, wp_tup, wp_lst, wp_dict0, wp_meth, wp_lc, wp_evs_nil, wp_evs_cons, wp_evo_none, wp_evo_some, wp_seq, wp_enum, wp_rng1, wp_rng2, wp_idxT, wp_varT, wp_callT, wp_biT, x_truB, tsto_none, tsto_some,
  seqQ_nx, seqQ_ret, seqQ_bk, seqQ_ct, endQ_ret, endQ_nx, varQ_some, lstQ_some, dctQ_some, optQ_some, blQ_bl, inQ_int, rgQ_int, rg2Q_int,
  x_addI, x_addT, x_addS, x_addL, x_subI, x_mulI, x_divI, x_modI, x_powI, x_ltI, x_leI, x_gtI, x_geI, x_is, x_isnot, x_isB, x_isNB, x_ixT, x_ixF, x_abs, x_lenT, x_lenF, x_intI, x_intB, x_max2, x_min2, x_seqT, x_seqF, x_slT, x_slF,
  List.map_cons, List.map_nil, List.length_cons, List.length_nil, List.cons_append, List.nil_append, List.replicate_succ, List.replicate_zero, Nat.reduceSub, Nat.reduceAdd, List.set_cons_zero, List.set_cons_succ, List.getElem?_cons_zero, List.getElem?_cons_succ, Nat.add_zero, Nat.zero_add, Nat.sub_self, decide_eq_true_eq, hx]
    have := key (if z < 0 then -z else z) (by split <;> omega) none
    simp only [wp_callDef, wp_cons, wp_nil, wp_asg, wp_expr, wp_retS, wp_retN, wp_iteS, wp_pass, wp_brk, wp_cont, wp_setIx, wp_augX, wp_asgT, wp_for, wp_varX, wp_cst, wp_bin, wp_cmp, wp_cmpT, wp_chainT, wp_andT, wp_orT, wp_notT, wp_iteE, wp_idx, wp_sl, wp_call, wp_bi, wp_tup, wp_lst, wp_dict0, wp_meth, wp_lc, wp_evs_nil, wp_evs_cons, wp_evo_none, wp_evo_some, wp_seq, wp_enum, wp_rng1, wp_rng2, wp_idxT, wp_varT, wp_callT, wp_biT, x_truB, tsto_none, tsto_some,
  seqQ_nx, seqQ_ret, seqQ_bk, seqQ_ct, endQ_ret, endQ_nx, varQ_some, lstQ_some, dctQ_some, optQ_some, blQ_bl, inQ_int, rgQ_int, rg2Q_int,
  x_addI, x_addT, x_addS, x_addL, x_subI, x_mulI, x_divI, x_modI, x_powI, x_ltI, x_leI, x_gtI, x_geI, x_is, x_isnot, x_isB, x_isNB, x_ixT, x_ixF, x_abs, x_lenT, x_lenF, x_intI, x_intB, x_max2, x_min2, x_seqT, x_seqF, x_slT, x_slF,
  List.map_cons, List.map_nil, List.length_cons, List.length_nil, List.cons_append, List.nil_append, List.replicate_succ, List.replicate_zero, Nat.reduceSub, Nat.reduceAdd, List.set_cons_zero, List.set_cons_succ, List.getElem?_cons_zero, List.getElem?_cons_succ, Nat.add_zero, Nat.zero_add, Nat.sub_self, decide_eq_true_eq] at this
    exact this
  · have := key 0 (by omega) none
    simp only [wp_callDef, wp_cons, wp_nil, wp_asg, wp_expr, wp_retS, wp_retN, wp_iteS, wp_pass, wp_brk, wp_cont, wp_setIx, wp_augX, wp_asgT, wp_for, wp_varX, wp_cst, wp_bin, wp_cmp, wp_cmpT, wp_chainT, wp_andT, wp_orT, wp_notT, wp_iteE, wp_idx, wp_sl, wp_call, wp_bi, wp_tup, wp_lst, wp_dict0, wp_meth, wp_lc, wp_evs_nil, wp_evs_cons, wp_evo_none, wp_evo_some, wp_seq, wp_enum, wp_rng1, wp_rng2, wp_idxT, wp_varT, wp_callT, wp_biT, x_truB, tsto_none, tsto_some,
  seqQ_nx, seqQ_ret, seqQ_bk, seqQ_ct, endQ_ret, endQ_nx, varQ_some, lstQ_some, dctQ_some, optQ_some, blQ_bl, inQ_int, rgQ_int, rg2Q_int,
  x_addI, x_addT, x_addS, x_addL, x_subI, x_mulI, x_divI, x_modI, x_powI, x_ltI, x_leI, x_gtI, x_geI, x_is, x_isnot, x_isB, x_isNB, x_ixT, x_ixF, x_abs, x_lenT, x_lenF, x_intI, x_intB, x_max2, x_min2, x_seqT, x_seqF, x_slT, x_slF,
  List.map_cons, List.map_nil, List.length_cons, List.length_nil, List.cons_append, List.nil_append, List.replicate_succ, List.replicate_zero, Nat.reduceSub, Nat.reduceAdd, List.set_cons_zero, List.set_cons_succ, List.getElem?_cons_zero, List.getElem?_cons_succ, Nat.add_zero, Nat.zero_add, Nat.sub_self, decide_eq_true_eq] at this
    exact this
end W9

/-! W9L: the reading of logs -/
namespace W9
open PySem L2
section
variable {α : Type} {gd : Option (Nat × List D)} {st : Store}
theorem gd_pre {s : Store} (h : gdOk st gd = true) (p : st <+: s) : gdOk s gd = true := by
  cases gd with
  | none => rfl
  | some q =>
    obtain ⟨t, rfl⟩ := p
    simp only [gdOk, decide_eq_true_eq] at h ⊢
    rw [List.getElem?_append_left (List.getElem?_eq_some_iff.mp h).1]; exact h
/-- a comprehension whose turns leave the store as it is -/
theorem wp_loopC_map {f : D → M (Option D)} (e q : α → D) (p : α → Bool) (hg : gdOk st gd = true) : ∀ (L : List α), (∀ a ∈ L, wp (f (e a)) (fun o s => o = (if p a = true then some (q a) else none) ∧ s = st) st) → wp (loopC gd f (L.map e)) (fun ds s => ds = (L.filter p).map q ∧ s = st) st
  | [], _ => ⟨[], st, by simp only [List.map_nil, loopC, hg, if_true], rfl, rfl⟩
  | a :: L, h => by
    obtain ⟨o, s1, e1, z1, z2⟩ := h a List.mem_cons_self
    obtain ⟨ds, s2, e2, z3, z4⟩ := wp_loopC_map e q p hg L fun b hb => h b (List.mem_cons_of_mem _ hb)
    rw [z1, z2] at e1
    rw [z3, z4] at e2
    refine ⟨(if p a = true then some (q a) else none).toList ++ (L.filter p).map q, st, by simp only [List.map_cons, loopC, hg, if_true, e1, e2], ?_, rfl⟩
    cases hp : p a <;> simp [hp]
/-- .. or leave garbage -/
theorem wp_loopC_mapG {f : D → M (Option D)} (e q : α → D) (p : α → Bool) (hg : gdOk st gd = true) : ∀ (L : List α) (s : Store), st <+: s → (∀ a ∈ L, ∀ s, st <+: s → wp (f (e a)) (fun o s1 => o = (if p a = true then some (q a) else none) ∧ s <+: s1) s) → wp (loopC gd f (L.map e)) (fun ds s1 => ds = (L.filter p).map q ∧ s <+: s1) s
  | [], s, hp, _ => ⟨[], s, by simp only [List.map_nil, loopC, gd_pre hg hp, if_true], rfl, List.prefix_refl _⟩
  | a :: L, s, hp, h => by
    obtain ⟨o, s1, e1, rfl, p1⟩ := h a List.mem_cons_self s hp
    obtain ⟨ds, s2, e2, rfl, p2⟩ := wp_loopC_mapG e q p hg L s1 (hp.trans p1) fun b hb => h b (List.mem_cons_of_mem _ hb)
    refine ⟨(if p a = true then some (q a) else none).toList ++ (L.filter p).map q, s2, by simp only [List.map_cons, loopC, gd_pre hg hp, if_true, e1, e2], ?_, p1.trans p2⟩
    cases hp : p a <;> simp [hp]
theorem wp_loopF_map {f : D → Env → M Fl} {Q : Fl → Store → Prop} (e : α → D) (L : List α) (I : List α → Env → Store → Prop)
    (hs : ∀ P a R env s, L = P ++ a :: R → I P env s → gdOk s gd = true ∧ wp (f (e a) env) (fun fl s1 => match fl with | .nx e1 => I (P ++ [a]) e1 s1 | .ct e1 => I (P ++ [a]) e1 s1 | .bk e1 => Q (.nx e1) s1 | .ret v => Q (.ret v) s1) s)
    (hz : ∀ env s, I L env s → gdOk s gd = true ∧ Q (.nx env) s) {env : Env} (h : I [] env st) : wp (loopF gd f (L.map e) env) Q st := by
  have key : ∀ (R P : List α) (env : Env) (s : Store), L = P ++ R → I P env s → wp (loopF gd f (R.map e) env) Q s := by
    intro R
    induction R with
    | nil =>
      intro P env s hL hI
      rw [List.append_nil] at hL
      subst hL
      obtain ⟨h1, h2⟩ := hz env s hI
      exact ⟨.nx env, s, by simp only [List.map_nil, loopF, h1, if_true], h2⟩
    | cons a R ih =>
      intro P env s hL hI
      obtain ⟨h1, fl, s1, e1, q⟩ := hs P a R env s hL hI
      have hL' : L = (P ++ [a]) ++ R := by rw [hL]; simp
      cases fl with
      | nx e2 =>
        obtain ⟨x, s2, e3, q3⟩ := ih (P ++ [a]) e2 s1 hL' q
        exact ⟨x, s2, by simp only [List.map_cons, loopF, h1, if_true, e1]; exact e3, q3⟩
      | ct e2 =>
        obtain ⟨x, s2, e3, q3⟩ := ih (P ++ [a]) e2 s1 hL' q
        exact ⟨x, s2, by simp only [List.map_cons, loopF, h1, if_true, e1]; exact e3, q3⟩
      | bk e2 => exact ⟨.nx e2, s1, by simp only [List.map_cons, loopF, h1, if_true, e1], q⟩
      | ret v => exact ⟨.ret v, s1, by simp only [List.map_cons, loopF, h1, if_true, e1], q⟩
  exact key L [] env st rfl h
end
/-! ### records and entries -/
inductive Rec where
  | word (g : Str) (n : Int) (dl : Option Int) (k t : Str) (tm : Int)
  | fin (g : Str) (dl : Int) (b : Bool)
def Rec.giver : Rec → Str
  | .word g _ _ _ _ _ => g
  | .fin g _ _ => g
def optD : Option Int → D
  | none => .non
  | some i => .int i
def recD : Rec → D
  | .word g n dl k t tm => .tup [.str "word", .str g, .int n, optD dl, .str k, .str t, .int tm]
  | .fin g dl b => .tup [.str "end", .str g, .int dl, .bl b]
abbrev Ent := Int × Rec
def entD (e : Ent) : D := .tup [.int e.1, recD e.2]
def Wf (L : List Ent) : Prop := ∀ e ∈ L, e.2.giver ≠ "book"
theorem Wf.sub {L M : List Ent} (h : Wf L) (s : ∀ e ∈ M, e ∈ L) : Wf M := fun e he => h e (s e he)
/-- a list of entries, as a tuple or as a list of the store -/
def LogAt (x : D) (st : Store) (L : List Ent) : Prop := x = .tup (L.map entD) ∨ ∃ j, x = .ob j ∧ st[j]? = some (.lst (L.map entD))
theorem LogAt.pre {x : D} {st s : Store} {L : List Ent} (h : LogAt x st L) (p : st <+: s) : LogAt x s L := by
  rcases h with h | ⟨j, h1, h2⟩
  · exact .inl h
  · obtain ⟨t, rfl⟩ := p
    exact .inr ⟨j, h1, by rw [List.getElem?_append_left (List.getElem?_eq_some_iff.mp h2).1]; exact h2⟩
theorem LogAt.kp {x : D} {st s : Store} {L : List Ent} {ks : List Nat} (h : LogAt x st L) (p : Kp ks st s) (hk : ∀ j ∈ ks, x ≠ .ob j) : LogAt x s L := by
  rcases h with h | ⟨j, h1, h2⟩
  · exact .inl h
  · exact .inr ⟨j, h1, p.at' j _ (fun z => hk j z h1) h2⟩
theorem logAt_seq {x : D} {st : Store} {L : List Ent} (h : LogAt x st L) : ∃ gd, gdOk st gd = true ∧ (gd = none ∨ ∃ j, x = .ob j ∧ gd = some (j, L.map entD)) ∧ ∀ QS : SI → Store → Prop, wp (seqS x) QS st ↔ QS (L.map entD, gd) st := by
  rcases h with rfl | ⟨j, rfl, h2⟩
  · exact ⟨none, rfl, .inl rfl, fun QS => x_seqT⟩
  · exact ⟨some (j, L.map entD), by simp [gdOk, h2], .inr ⟨j, rfl, rfl⟩, fun QS => x_seqL h2⟩
def below_b : Sms :=
  (.cons (.ret (.lc [2] (.seq (.var 0)) (.name 2) (.some (.cmp .Lt (.idx (.var 2) (.cst (.int 0))) (.var 1))) (.var 2)))
    .nil)
abbrev ltE (e : Int) : Ent → Bool := fun p => decide (p.1 < e)
theorem atE (e : Ent) : atI [D.int e.1, recD e.2] 0 = some (.int e.1) := rfl
theorem below_wp {C : Cts} {x : D} {e : Int} {L : List Ent} {st : Store} {QD : D → Store → Prop} (h : LogAt x st L) (hl : L.length ≤ bigN) (q : QD (.ob st.length) (st ++ [.lst ((L.filter (ltE e)).map entD)])) :
    wp (callDef C 3 below_b [x, .int e]) QD st := by
  obtain ⟨gd, hg, _, hs⟩ := logAt_seq h
  unfold below_b
  simp only [wp_callDef, wp_cons, wp_nil, wp_asg, wp_expr, wp_retS, wp_retN, wp_iteS, wp_pass, wp_brk, wp_cont, wp_setIx, wp_augX, wp_asgT, wp_for, wp_varX, wp_cst, wp_bin, wp_cmp, wp_cmpT, wp_chainT, wp_andT, wp_orT, wp_notT, wp_iteE, wp_idx, wp_sl, wp_call, wp_bi, wp_tup, wp_lst, wp_dict0, wp_meth, wp_lc, wp_evs_nil, wp_evs_cons, wp_evo_none, wp_evo_some, wp_seq, wp_enum, wp_rng1, wp_rng2, wp_idxT, wp_varT, wp_callT, wp_biT, x_truB, tsto_none, tsto_some,
  seqQ_nx, seqQ_ret, seqQ_bk, seqQ_ct, endQ_ret, endQ_nx, varQ_some, lstQ_some, dctQ_some, optQ_some, blQ_bl, inQ_int, rgQ_int, rg2Q_int,
  x_addI, x_addT, x_addS, x_addL, x_subI, x_mulI, x_divI, x_modI, x_powI, x_ltI, x_leI, x_gtI, x_geI, x_is, x_isnot, x_isB, x_isNB, x_ixT, x_ixF, x_abs, x_lenT, x_lenF, x_intI, x_intB, x_max2, x_min2, x_seqT, x_seqF, x_slT, x_slF,
  List.map_cons, List.map_nil, List.length_cons, List.length_nil, List.cons_append, List.nil_append, List.replicate_succ, List.replicate_zero, Nat.reduceSub, Nat.reduceAdd, List.set_cons_zero, List.set_cons_succ, List.getElem?_cons_zero, List.getElem?_cons_succ, Nat.add_zero, Nat.zero_add, Nat.sub_self, decide_eq_true_eq, hs]
  have key := wp_loopC_map (f := compF (.name 2) [2] [some x, some (.int e), none] (tsto C (.some (.cmp .Lt (.idx (.var 2) (.cst (.int 0))) (.var 1)))) (bo C (.var 2)).1) entD entD (ltE e) hg L (fun a ha => by
    rw [wp_compF (env1 := [some x, some (.int e), some (entD a)]) rfl]
    unfold entD
    simp only [wp_callDef, wp_cons, wp_nil, wp_asg, wp_expr, wp_retS, wp_retN, wp_iteS, wp_pass, wp_brk, wp_cont, wp_setIx, wp_augX, wp_asgT, wp_for, wp_varX, wp_cst, wp_bin, wp_cmp, wp_cmpT, wp_chainT, wp_andT, wp_orT, wp_notT, wp_iteE, wp_idx, wp_sl, wp_call, wp_bi, wp_tup, wp_lst, wp_dict0, wp_meth, wp_lc, wp_evs_nil, wp_evs_cons, wp_evo_none, wp_evo_some, wp_seq, wp_enum, wp_rng1, wp_rng2, wp_idxT, wp_varT, wp_callT, wp_biT, x_truB, tsto_none, tsto_some,
  seqQ_nx, seqQ_ret, seqQ_bk, seqQ_ct, endQ_ret, endQ_nx, varQ_some, lstQ_some, dctQ_some, optQ_some, blQ_bl, inQ_int, rgQ_int, rg2Q_int,
  x_addI, x_addT, x_addS, x_addL, x_subI, x_mulI, x_divI, x_modI, x_powI, x_ltI, x_leI, x_gtI, x_geI, x_is, x_isnot, x_isB, x_isNB, x_ixT, x_ixF, x_abs, x_lenT, x_lenF, x_intI, x_intB, x_max2, x_min2, x_seqT, x_seqF, x_slT, x_slF,
  List.map_cons, List.map_nil, List.length_cons, List.length_nil, List.cons_append, List.nil_append, List.replicate_succ, List.replicate_zero, Nat.reduceSub, Nat.reduceAdd, List.set_cons_zero, List.set_cons_succ, List.getElem?_cons_zero, List.getElem?_cons_succ, Nat.add_zero, Nat.zero_add, Nat.sub_self, decide_eq_true_eq, atE]
    by_cases h : a.1 < e
    · simp [h, ltE, wp_varX, varQ_some]
    · simp [h, ltE])
  refine wp_mono key fun ds s ⟨h1, h2⟩ => ?_
  subst h1 h2
  exact ⟨by rw [List.length_map]; exact Nat.le_trans (List.length_filter_le _ _) hl, q⟩
end W9

/-! W9M: first_ends, stop_of, settled, visible -/
namespace W9
open PySem L2
section
variable {QD : D → Store → Prop} {st : Store}
theorem x_eqSS {a b : Str} : wp (cmpD .Eq (.str a) (.str b)) QD st ↔ QD (.bl (decide (a = b))) st := by
  rw [x_eqS rfl]
  simp only [D.str.injEq]
theorem x_neSS {a b : Str} : wp (cmpD .NotEq (.str a) (.str b)) QD st ↔ QD (.bl (!decide (a = b))) st := by
  rw [x_neS rfl]
  simp only [D.str.injEq]
theorem x_eqII {a b : Int} : wp (cmpD .Eq (.int a) (.int b)) QD st ↔ QD (.bl (decide (a = b))) st := by
  rw [x_eqS rfl]
  simp only [D.int.injEq]
theorem x_neII {a b : Int} : wp (cmpD .NotEq (.int a) (.int b)) QD st ↔ QD (.bl (!decide (a = b))) st := by
  rw [x_neS rfl]
  simp only [D.int.injEq]
end
theorem x_notinK {QD : D → Store → Prop} {st : Store} {j : Nat} {k : D} {kvs : List (D × D)} (h : st[j]? = some (.dct kvs)) : wp (cmpD .NotIn k (.ob j)) QD st ↔ kindOk kvs k = true ∧ QD (.bl (ifn true (getKv kvs k).isSome)) st := x_inK h
theorem x_iniK {QD : D → Store → Prop} {st : Store} {j : Nat} {k : D} {kvs : List (D × D)} (h : st[j]? = some (.dct kvs)) : wp (cmpD .In k (.ob j)) QD st ↔ kindOk kvs k = true ∧ QD (.bl (ifn false (getKv kvs k).isSome)) st := x_inK h
theorem str_we : (("word" : Str) = "end") = False := eq_false (by decide +kernel)
theorem str_ew : (("end" : Str) = "word") = False := eq_false (by decide +kernel)
def first_ends_b : Sms :=
  (.cons (.asg 1 .dict0)
    (.cons (.forS (.seq (.var 0)) (.tup [2, 3])
    (.cons (.ite (.cmp .Eq (.idx (.var 3) (.cst (.int 0))) (.cst (.str "end")))
    (.cons (.expr (.meth .setdefault (.var 1) (.cons (.tup (.cons (.idx (.var 3) (.cst (.int 1))) (.cons (.idx (.var 3) (.cst (.int 2))) .nil))) (.cons (.idx (.var 3) (.cst (.int 3))) .nil))))
    .nil)
    .nil)
    .nil))
    (.cons (.ret (.var 1))
    .nil)))
def stop_of_b : Sms :=
  (.cons (.forS (.seq (.var 0)) (.tup [3, 4])
    (.cons (.ite (.and (.cmp .Eq (.idx (.var 4) (.cst (.int 0))) (.cst (.str "word"))) (.and (.cmp .IsNot (.idx (.var 4) (.cst (.int 3))) (.cst .non)) (.cmp .NotIn (.tup (.cons (.idx (.var 4) (.cst (.int 1))) (.cons (.idx (.var 4) (.cst (.int 3))) .nil))) (.var 1))))
    (.cons (.ret (.var 3))
    .nil)
    .nil)
    .nil))
    (.cons (.ret (.var 2))
    .nil))
abbrev endAt (g : Str) (d : Int) : Ent → Option Bool := fun e => match e.2 with
  | .fin g' d' b => if g' = g ∧ d' = d then some b else none
  | _ => none
def fstEnd (L : List Ent) (g : Str) (d : Int) : Option Bool := L.findSome? (endAt g d)
structure EndsK (L : List Ent) (kvs : List (D × D)) : Prop where
  keys : keysP kvs
  len : kvs.length ≤ L.length
  get : ∀ g d, getKv kvs (.tup [.str g, .int d]) = (fstEnd L g d).map D.bl
theorem at4 {a b c d : D} : atI [a, b, c, d] 0 = some a ∧ atI [a, b, c, d] 1 = some b ∧ atI [a, b, c, d] 2 = some c ∧ atI [a, b, c, d] 3 = some d := ⟨rfl, rfl, rfl, rfl⟩
theorem at7 {a b c d e f g : D} : atI [a, b, c, d, e, f, g] 0 = some a ∧ atI [a, b, c, d, e, f, g] 1 = some b ∧ atI [a, b, c, d, e, f, g] 2 = some c ∧ atI [a, b, c, d, e, f, g] 3 = some d ∧ atI [a, b, c, d, e, f, g] 4 = some e ∧ atI [a, b, c, d, e, f, g] 5 = some f ∧ atI [a, b, c, d, e, f, g] 6 = some g :=
  ⟨rfl, rfl, rfl, rfl, rfl, rfl, rfl⟩
theorem fstEnd_snoc (P : List Ent) (a : Ent) (g : Str) (d : Int) : fstEnd (P ++ [a]) g d = (fstEnd P g d).or (endAt g d a) := by
  unfold fstEnd
  rw [List.findSome?_append]
  simp [List.findSome?]
  cases endAt g d a <;> rfl
theorem ends_word {P : List Ent} {kvs : List (D × D)} {p : Int} {g k t : Str} {n tm : Int} {dl : Option Int} (h : EndsK P kvs) : EndsK (P ++ [(p, .word g n dl k t tm)]) kvs :=
  ⟨h.keys, by have := h.len; simp; omega, fun g' d' => by rw [fstEnd_snoc, h.get]; show _ = Option.map _ (Option.or _ none); rw [Option.or_none]⟩
theorem ends_fin {P : List Ent} {kvs : List (D × D)} {p d : Int} {g : Str} {b : Bool} (h : EndsK P kvs) (hg : g ≠ "book") : EndsK (P ++ [(p, .fin g d b)]) (match getKv kvs (.tup [.str g, .int d]) with | some _ => kvs | none => putKv kvs (.tup [.str g, .int d]) (.bl b)) := by
  have hl := h.len
  have hb : g = "book" → d ≠ 0 := fun z => absurd z hg
  cases hk : getKv kvs (.tup [.str g, .int d]) with
  | some x =>
    refine ⟨h.keys, by simp; omega, fun g' d' => ?_⟩
    rw [fstEnd_snoc, h.get]
    cases hf : fstEnd P g' d' with
    | some y => rfl
    | none =>
      simp only [Option.none_or, endAt]
      split
      · rename_i hh
        obtain ⟨rfl, rfl⟩ := hh
        rw [h.get, hf] at hk
        cases hk
      · rfl
  | none =>
    refine ⟨keysP_put h.keys hb _, by have := putKv_len kvs (.tup [.str g, .int d]) (.bl b); simp; omega, fun g' d' => ?_⟩
    rw [getKv_put, fstEnd_snoc]
    by_cases hh : g = g' ∧ d = d'
    · obtain ⟨rfl, rfl⟩ := hh
      rw [h.get] at hk
      have hn : fstEnd P g d = none := by
        cases hf : fstEnd P g d with
        | none => rfl
        | some y => rw [hf] at hk; cases hk
      rw [hn]
      simp [endAt]
    · have : ¬ (D.tup [.str g, .int d] = .tup [.str g', .int d']) := by
        intro e
        simp only [D.tup.injEq, List.cons.injEq, D.str.injEq, D.int.injEq, and_true] at e
        exact hh e
      rw [if_neg this, h.get]
      simp only [endAt, if_neg hh, Option.or_none]
theorem first_ends_wp {C : Cts} {x : D} {L : List Ent} {st : Store} {QD : D → Store → Prop} (h : LogAt x st L) (hw : Wf L) (hl : L.length < bigN) (q : ∀ kvs, EndsK L kvs → QD (.ob st.length) (st ++ [.dct kvs])) :
    wp (callDef C 4 first_ends_b [x]) QD st := by
  have h' : ∀ o, LogAt x (st ++ [o]) L := fun o => h.pre ⟨[o], rfl⟩
  unfold first_ends_b
  simp only [wp_callDef, wp_cons, wp_nil, wp_asg, wp_expr, wp_retS, wp_retN, wp_iteS, wp_pass, wp_brk, wp_cont, wp_setIx, wp_augX, wp_asgT, wp_for, wp_varX, wp_cst, wp_bin, wp_cmp, wp_cmpT, wp_chainT, wp_andT, wp_orT, wp_notT, wp_iteE, wp_idx, wp_sl, wp_call, wp_bi, wp_tup, wp_lst, wp_dict0, wp_meth, wp_lc, wp_evs_nil, wp_evs_cons, wp_evo_none, wp_evo_some, wp_seq, wp_enum, wp_rng1, wp_rng2, wp_idxT, wp_varT, wp_callT, wp_biT, x_truB, tsto_none, tsto_some,
  seqQ_nx, seqQ_ret, seqQ_bk, seqQ_ct, endQ_ret, endQ_nx, varQ_some, lstQ_some, dctQ_some, optQ_some, blQ_bl, inQ_int, rgQ_int, rg2Q_int,
  x_eqSS, x_eqII, x_neSS, x_neII, str_we, str_ew, decide_true, decide_false, if_true, if_false, Bool.false_eq_true, reduceIte, x_addI, x_addT, x_addS, x_addL, x_subI, x_mulI, x_divI, x_modI, x_powI, x_ltI, x_leI, x_gtI, x_geI, x_is, x_isnot, x_isB, x_isNB, x_ixT, x_ixF, x_abs, x_lenT, x_lenF, x_intI, x_intB, x_max2, x_min2, x_seqT, x_seqF, x_slT, x_slF,
  List.map_cons, List.map_nil, List.length_cons, List.length_nil, List.cons_append, List.nil_append, List.replicate_succ, List.replicate_zero, Nat.reduceSub, Nat.reduceAdd, List.set_cons_zero, List.set_cons_succ, List.getElem?_cons_zero, List.getElem?_cons_succ, Nat.add_zero, Nat.zero_add, Nat.sub_self, decide_eq_true_eq]
  obtain ⟨gd, hg, hgd, hs⟩ := logAt_seq (h' (.dct []))
  rw [hs]
  have pre : ∀ o, gdOk (st ++ [o]) gd = true := by
    intro o
    rcases hgd with rfl | ⟨j, rfl, rfl⟩
    · rfl
    · rcases h with hh | ⟨j', h1, h2⟩
      · cases hh
      · cases h1
        simp only [gdOk, decide_eq_true_eq]
        rw [List.getElem?_append_left (List.getElem?_eq_some_iff.mp h2).1]; exact h2
  refine wp_loopF_map entD L (fun P env s => ∃ kvs e2 e3, env = [some x, some (.ob st.length), e2, e3] ∧ s = st ++ [.dct kvs] ∧ EndsK P kvs) ?_ ?_ ⟨[], none, none, rfl, rfl, ⟨fun _ hp => (nomatch hp), Nat.le_refl _, fun _ _ => rfl⟩⟩
  · rintro P ⟨p, r⟩ R env s hL ⟨kvs, e2, e3, rfl, rfl, hk⟩
    refine ⟨pre _, ?_⟩
    have hat : (st ++ [Ob.dct kvs])[st.length]? = some (.dct kvs) := by simp
    have hPl : P.length < L.length := by rw [hL]; simp
    rw [wp_forF (env1 := [some x, some (.ob st.length), some (.int p), some (recD r)]) rfl]
    have hwf : r.giver ≠ "book" := hw (p, r) (by rw [hL]; simp)
    cases r with
    | word g n dl k t tm =>
      unfold recD
      simp only [wp_callDef, wp_cons, wp_nil, wp_asg, wp_expr, wp_retS, wp_retN, wp_iteS, wp_pass, wp_brk, wp_cont, wp_setIx, wp_augX, wp_asgT, wp_for, wp_varX, wp_cst, wp_bin, wp_cmp, wp_cmpT, wp_chainT, wp_andT, wp_orT, wp_notT, wp_iteE, wp_idx, wp_sl, wp_call, wp_bi, wp_tup, wp_lst, wp_dict0, wp_meth, wp_lc, wp_evs_nil, wp_evs_cons, wp_evo_none, wp_evo_some, wp_seq, wp_enum, wp_rng1, wp_rng2, wp_idxT, wp_varT, wp_callT, wp_biT, x_truB, tsto_none, tsto_some,
  seqQ_nx, seqQ_ret, seqQ_bk, seqQ_ct, endQ_ret, endQ_nx, varQ_some, lstQ_some, dctQ_some, optQ_some, blQ_bl, inQ_int, rgQ_int, rg2Q_int,
  x_eqSS, x_eqII, x_neSS, x_neII, str_we, str_ew, decide_true, decide_false, if_true, if_false, Bool.false_eq_true, reduceIte, x_addI, x_addT, x_addS, x_addL, x_subI, x_mulI, x_divI, x_modI, x_powI, x_ltI, x_leI, x_gtI, x_geI, x_is, x_isnot, x_isB, x_isNB, x_ixT, x_ixF, x_abs, x_lenT, x_lenF, x_intI, x_intB, x_max2, x_min2, x_seqT, x_seqF, x_slT, x_slF,
  List.map_cons, List.map_nil, List.length_cons, List.length_nil, List.cons_append, List.nil_append, List.replicate_succ, List.replicate_zero, Nat.reduceSub, Nat.reduceAdd, List.set_cons_zero, List.set_cons_succ, List.getElem?_cons_zero, List.getElem?_cons_succ, Nat.add_zero, Nat.zero_add, Nat.sub_self, decide_eq_true_eq, at7]
      exact ⟨kvs, _, _, rfl, rfl, ends_word hk⟩
    | fin g d b =>
      unfold recD
      simp only [wp_callDef, wp_cons, wp_nil, wp_asg, wp_expr, wp_retS, wp_retN, wp_iteS, wp_pass, wp_brk, wp_cont, wp_setIx, wp_augX, wp_asgT, wp_for, wp_varX, wp_cst, wp_bin, wp_cmp, wp_cmpT, wp_chainT, wp_andT, wp_orT, wp_notT, wp_iteE, wp_idx, wp_sl, wp_call, wp_bi, wp_tup, wp_lst, wp_dict0, wp_meth, wp_lc, wp_evs_nil, wp_evs_cons, wp_evo_none, wp_evo_some, wp_seq, wp_enum, wp_rng1, wp_rng2, wp_idxT, wp_varT, wp_callT, wp_biT, x_truB, tsto_none, tsto_some,
  seqQ_nx, seqQ_ret, seqQ_bk, seqQ_ct, endQ_ret, endQ_nx, varQ_some, lstQ_some, dctQ_some, optQ_some, blQ_bl, inQ_int, rgQ_int, rg2Q_int,
  x_eqSS, x_eqII, x_neSS, x_neII, str_we, str_ew, decide_true, decide_false, if_true, if_false, Bool.false_eq_true, reduceIte, x_addI, x_addT, x_addS, x_addL, x_subI, x_mulI, x_divI, x_modI, x_powI, x_ltI, x_leI, x_gtI, x_geI, x_is, x_isnot, x_isB, x_isNB, x_ixT, x_ixF, x_abs, x_lenT, x_lenF, x_intI, x_intB, x_max2, x_min2, x_seqT, x_seqF, x_slT, x_slF,
  List.map_cons, List.map_nil, List.length_cons, List.length_nil, List.cons_append, List.nil_append, List.replicate_succ, List.replicate_zero, Nat.reduceSub, Nat.reduceAdd, List.set_cons_zero, List.set_cons_succ, List.getElem?_cons_zero, List.getElem?_cons_succ, Nat.add_zero, Nat.zero_add, Nat.sub_self, decide_eq_true_eq, at4, x_setd hat]
      have hb : g = "book" → d ≠ 0 := fun z => absurd z hwf
      refine ⟨.dict, x_tyD hat, by decide, ?_⟩
      rw [x_setd hat]
      have hkl := hk.len
      refine ⟨⟨kind_pairs hk.keys hb, by omega⟩, ?_⟩
      have hf := ends_fin (p := p) (d := d) (b := b) (g := g) hk hwf
      cases hg2 : getKv kvs (.tup [.str g, .int d]) with
      | some z =>
        rw [hg2] at hf
        exact ⟨_, _, _, rfl, rfl, hf⟩
      | none =>
        rw [hg2] at hf
        refine ⟨_, _, _, rfl, ?_, hf⟩
        simp
  · rintro env s ⟨kvs, e2, e3, rfl, rfl, hk⟩
    refine ⟨pre _, ?_⟩
    simp only [wp_callDef, wp_cons, wp_nil, wp_asg, wp_expr, wp_retS, wp_retN, wp_iteS, wp_pass, wp_brk, wp_cont, wp_setIx, wp_augX, wp_asgT, wp_for, wp_varX, wp_cst, wp_bin, wp_cmp, wp_cmpT, wp_chainT, wp_andT, wp_orT, wp_notT, wp_iteE, wp_idx, wp_sl, wp_call, wp_bi, wp_tup, wp_lst, wp_dict0, wp_meth, wp_lc, wp_evs_nil, wp_evs_cons, wp_evo_none, wp_evo_some, wp_seq, wp_enum, wp_rng1, wp_rng2, wp_idxT, wp_varT, wp_callT, wp_biT, x_truB, tsto_none, tsto_some,
  seqQ_nx, seqQ_ret, seqQ_bk, seqQ_ct, endQ_ret, endQ_nx, varQ_some, lstQ_some, dctQ_some, optQ_some, blQ_bl, inQ_int, rgQ_int, rg2Q_int,
  x_eqSS, x_eqII, x_neSS, x_neII, str_we, str_ew, decide_true, decide_false, if_true, if_false, Bool.false_eq_true, reduceIte, x_addI, x_addT, x_addS, x_addL, x_subI, x_mulI, x_divI, x_modI, x_powI, x_ltI, x_leI, x_gtI, x_geI, x_is, x_isnot, x_isB, x_isNB, x_ixT, x_ixF, x_abs, x_lenT, x_lenF, x_intI, x_intB, x_max2, x_min2, x_seqT, x_seqF, x_slT, x_slF,
  List.map_cons, List.map_nil, List.length_cons, List.length_nil, List.cons_append, List.nil_append, List.replicate_succ, List.replicate_zero, Nat.reduceSub, Nat.reduceAdd, List.set_cons_zero, List.set_cons_succ, List.getElem?_cons_zero, List.getElem?_cons_succ, Nat.add_zero, Nat.zero_add, Nat.sub_self, decide_eq_true_eq]
    exact q kvs hk
/-- a word that hangs upon a dealing without an end -/
def openW (F : Str → Int → Option Bool) : Ent → Bool := fun a => match a.2 with
  | .word g _ (some d) _ _ _ => (F g d).isNone
  | _ => false
def stopM (L : List Ent) (F : Str → Int → Option Bool) (e : Int) : Int := ((L.find? (openW F)).map (·.1)).getD e
theorem stop_of_wp {C : Cts} {x : D} {j : Nat} {e : Int} {L E : List Ent} {kvs : List (D × D)} {st : Store} {QD : D → Store → Prop} (h : LogAt x st L) (hw : Wf L) (hj : st[j]? = some (.dct kvs)) (hk : EndsK E kvs) (q : QD (.int (stopM L (fstEnd E) e)) st) :
    wp (callDef C 5 stop_of_b [x, .ob j, .int e]) QD st := by
  obtain ⟨gd, hg, hgd, hs⟩ := logAt_seq h
  unfold stop_of_b
  simp only [wp_callDef, wp_cons, wp_nil, wp_asg, wp_expr, wp_retS, wp_retN, wp_iteS, wp_pass, wp_brk, wp_cont, wp_setIx, wp_augX, wp_asgT, wp_for, wp_varX, wp_cst, wp_bin, wp_cmp, wp_cmpT, wp_chainT, wp_andT, wp_orT, wp_notT, wp_iteE, wp_idx, wp_sl, wp_call, wp_bi, wp_tup, wp_lst, wp_dict0, wp_meth, wp_lc, wp_evs_nil, wp_evs_cons, wp_evo_none, wp_evo_some, wp_seq, wp_enum, wp_rng1, wp_rng2, wp_idxT, wp_varT, wp_callT, wp_biT, x_truB, tsto_none, tsto_some,
  seqQ_nx, seqQ_ret, seqQ_bk, seqQ_ct, endQ_ret, endQ_nx, varQ_some, lstQ_some, dctQ_some, optQ_some, blQ_bl, inQ_int, rgQ_int, rg2Q_int,
  x_eqSS, x_eqII, x_neSS, x_neII, str_we, str_ew, decide_true, decide_false, if_true, if_false, Bool.false_eq_true, reduceIte, x_addI, x_addT, x_addS, x_addL, x_subI, x_mulI, x_divI, x_modI, x_powI, x_ltI, x_leI, x_gtI, x_geI, x_is, x_isnot, x_isB, x_isNB, x_ixT, x_ixF, x_abs, x_lenT, x_lenF, x_intI, x_intB, x_max2, x_min2, x_seqT, x_seqF, x_slT, x_slF,
  List.map_cons, List.map_nil, List.length_cons, List.length_nil, List.cons_append, List.nil_append, List.replicate_succ, List.replicate_zero, Nat.reduceSub, Nat.reduceAdd, List.set_cons_zero, List.set_cons_succ, List.getElem?_cons_zero, List.getElem?_cons_succ, Nat.add_zero, Nat.zero_add, Nat.sub_self, decide_eq_true_eq]
  rw [hs]
  refine wp_loopF_map entD L (fun P env s => ∃ e3 e4, env = [some x, some (.ob j), some (.int e), e3, e4] ∧ s = st ∧ ∀ a ∈ P, openW (fstEnd E) a = false) ?_ ?_ ⟨none, none, rfl, rfl, fun _ hp => (nomatch hp)⟩
  · rintro P ⟨p, r⟩ R env s hL ⟨e3, e4, rfl, rfl, hP⟩
    refine ⟨hg, ?_⟩
    rw [wp_forF (env1 := [some x, some (.ob j), some (.int e), some (.int p), some (recD r)]) rfl]
    have hwf : r.giver ≠ "book" := hw (p, r) (by rw [hL]; simp)
    have snoc : openW (fstEnd E) (p, r) = false → ∀ a ∈ P ++ [(p, r)], openW (fstEnd E) a = false := by
      intro z a ha
      rcases List.mem_append.mp ha with ha | ha
      · exact hP a ha
      · rw [List.mem_singleton.mp ha]; exact z
    cases r with
    | word g n dl k t tm =>
      cases dl with
      | none =>
        unfold recD optD
        simp only [wp_callDef, wp_cons, wp_nil, wp_asg, wp_expr, wp_retS, wp_retN, wp_iteS, wp_pass, wp_brk, wp_cont, wp_setIx, wp_augX, wp_asgT, wp_for, wp_varX, wp_cst, wp_bin, wp_cmp, wp_cmpT, wp_chainT, wp_andT, wp_orT, wp_notT, wp_iteE, wp_idx, wp_sl, wp_call, wp_bi, wp_tup, wp_lst, wp_dict0, wp_meth, wp_lc, wp_evs_nil, wp_evs_cons, wp_evo_none, wp_evo_some, wp_seq, wp_enum, wp_rng1, wp_rng2, wp_idxT, wp_varT, wp_callT, wp_biT, x_truB, tsto_none, tsto_some,
  seqQ_nx, seqQ_ret, seqQ_bk, seqQ_ct, endQ_ret, endQ_nx, varQ_some, lstQ_some, dctQ_some, optQ_some, blQ_bl, inQ_int, rgQ_int, rg2Q_int,
  x_eqSS, x_eqII, x_neSS, x_neII, str_we, str_ew, decide_true, decide_false, if_true, if_false, Bool.false_eq_true, reduceIte, x_addI, x_addT, x_addS, x_addL, x_subI, x_mulI, x_divI, x_modI, x_powI, x_ltI, x_leI, x_gtI, x_geI, x_is, x_isnot, x_isB, x_isNB, x_ixT, x_ixF, x_abs, x_lenT, x_lenF, x_intI, x_intB, x_max2, x_min2, x_seqT, x_seqF, x_slT, x_slF,
  List.map_cons, List.map_nil, List.length_cons, List.length_nil, List.cons_append, List.nil_append, List.replicate_succ, List.replicate_zero, Nat.reduceSub, Nat.reduceAdd, List.set_cons_zero, List.set_cons_succ, List.getElem?_cons_zero, List.getElem?_cons_succ, Nat.add_zero, Nat.zero_add, Nat.sub_self, decide_eq_true_eq, at7]
        exact ⟨_, _, rfl, trivial, snoc rfl⟩
      | some d =>
        have hb : g = "book" → d ≠ 0 := fun z => absurd z hwf
        unfold recD optD
        simp only [wp_callDef, wp_cons, wp_nil, wp_asg, wp_expr, wp_retS, wp_retN, wp_iteS, wp_pass, wp_brk, wp_cont, wp_setIx, wp_augX, wp_asgT, wp_for, wp_varX, wp_cst, wp_bin, wp_cmp, wp_cmpT, wp_chainT, wp_andT, wp_orT, wp_notT, wp_iteE, wp_idx, wp_sl, wp_call, wp_bi, wp_tup, wp_lst, wp_dict0, wp_meth, wp_lc, wp_evs_nil, wp_evs_cons, wp_evo_none, wp_evo_some, wp_seq, wp_enum, wp_rng1, wp_rng2, wp_idxT, wp_varT, wp_callT, wp_biT, x_truB, tsto_none, tsto_some,
  seqQ_nx, seqQ_ret, seqQ_bk, seqQ_ct, endQ_ret, endQ_nx, varQ_some, lstQ_some, dctQ_some, optQ_some, blQ_bl, inQ_int, rgQ_int, rg2Q_int,
  x_eqSS, x_eqII, x_neSS, x_neII, str_we, str_ew, decide_true, decide_false, if_true, if_false, Bool.false_eq_true, reduceIte, x_addI, x_addT, x_addS, x_addL, x_subI, x_mulI, x_divI, x_modI, x_powI, x_ltI, x_leI, x_gtI, x_geI, x_is, x_isnot, x_isB, x_isNB, x_ixT, x_ixF, x_abs, x_lenT, x_lenF, x_intI, x_intB, x_max2, x_min2, x_seqT, x_seqF, x_slT, x_slF,
  List.map_cons, List.map_nil, List.length_cons, List.length_nil, List.cons_append, List.nil_append, List.replicate_succ, List.replicate_zero, Nat.reduceSub, Nat.reduceAdd, List.set_cons_zero, List.set_cons_succ, List.getElem?_cons_zero, List.getElem?_cons_succ, Nat.add_zero, Nat.zero_add, Nat.sub_self, decide_eq_true_eq, at7]
        refine ⟨by decide, ?_⟩
        rw [x_notinK hj]
        refine ⟨kind_pairs hk.keys hb, ?_⟩
        rw [blQ_bl, hk.get]
        cases hf : fstEnd E g d with
        | some z =>
          simp only [ifn, Option.map_some, Option.isSome_some]
          simp only [wp_callDef, wp_cons, wp_nil, wp_asg, wp_expr, wp_retS, wp_retN, wp_iteS, wp_pass, wp_brk, wp_cont, wp_setIx, wp_augX, wp_asgT, wp_for, wp_varX, wp_cst, wp_bin, wp_cmp, wp_cmpT, wp_chainT, wp_andT, wp_orT, wp_notT, wp_iteE, wp_idx, wp_sl, wp_call, wp_bi, wp_tup, wp_lst, wp_dict0, wp_meth, wp_lc, wp_evs_nil, wp_evs_cons, wp_evo_none, wp_evo_some, wp_seq, wp_enum, wp_rng1, wp_rng2, wp_idxT, wp_varT, wp_callT, wp_biT, x_truB, tsto_none, tsto_some,
  seqQ_nx, seqQ_ret, seqQ_bk, seqQ_ct, endQ_ret, endQ_nx, varQ_some, lstQ_some, dctQ_some, optQ_some, blQ_bl, inQ_int, rgQ_int, rg2Q_int,
  x_eqSS, x_eqII, x_neSS, x_neII, str_we, str_ew, decide_true, decide_false, if_true, if_false, Bool.false_eq_true, reduceIte, x_addI, x_addT, x_addS, x_addL, x_subI, x_mulI, x_divI, x_modI, x_powI, x_ltI, x_leI, x_gtI, x_geI, x_is, x_isnot, x_isB, x_isNB, x_ixT, x_ixF, x_abs, x_lenT, x_lenF, x_intI, x_intB, x_max2, x_min2, x_seqT, x_seqF, x_slT, x_slF,
  List.map_cons, List.map_nil, List.length_cons, List.length_nil, List.cons_append, List.nil_append, List.replicate_succ, List.replicate_zero, Nat.reduceSub, Nat.reduceAdd, List.set_cons_zero, List.set_cons_succ, List.getElem?_cons_zero, List.getElem?_cons_succ, Nat.add_zero, Nat.zero_add, Nat.sub_self, decide_eq_true_eq]
          exact ⟨_, _, rfl, trivial, snoc (by simp [openW, hf])⟩
        | none =>
          simp only [ifn, Option.map_none, Option.isSome_none]
          simp only [wp_callDef, wp_cons, wp_nil, wp_asg, wp_expr, wp_retS, wp_retN, wp_iteS, wp_pass, wp_brk, wp_cont, wp_setIx, wp_augX, wp_asgT, wp_for, wp_varX, wp_cst, wp_bin, wp_cmp, wp_cmpT, wp_chainT, wp_andT, wp_orT, wp_notT, wp_iteE, wp_idx, wp_sl, wp_call, wp_bi, wp_tup, wp_lst, wp_dict0, wp_meth, wp_lc, wp_evs_nil, wp_evs_cons, wp_evo_none, wp_evo_some, wp_seq, wp_enum, wp_rng1, wp_rng2, wp_idxT, wp_varT, wp_callT, wp_biT, x_truB, tsto_none, tsto_some,
  seqQ_nx, seqQ_ret, seqQ_bk, seqQ_ct, endQ_ret, endQ_nx, varQ_some, lstQ_some, dctQ_some, optQ_some, blQ_bl, inQ_int, rgQ_int, rg2Q_int,
  x_eqSS, x_eqII, x_neSS, x_neII, str_we, str_ew, decide_true, decide_false, if_true, if_false, Bool.false_eq_true, reduceIte, x_addI, x_addT, x_addS, x_addL, x_subI, x_mulI, x_divI, x_modI, x_powI, x_ltI, x_leI, x_gtI, x_geI, x_is, x_isnot, x_isB, x_isNB, x_ixT, x_ixF, x_abs, x_lenT, x_lenF, x_intI, x_intB, x_max2, x_min2, x_seqT, x_seqF, x_slT, x_slF,
  List.map_cons, List.map_nil, List.length_cons, List.length_nil, List.cons_append, List.nil_append, List.replicate_succ, List.replicate_zero, Nat.reduceSub, Nat.reduceAdd, List.set_cons_zero, List.set_cons_succ, List.getElem?_cons_zero, List.getElem?_cons_succ, Nat.add_zero, Nat.zero_add, Nat.sub_self, decide_eq_true_eq]
          have hfind : L.find? (openW (fstEnd E)) = some (p, .word g n (some d) k t tm) := by
            rw [hL, List.find?_append]
            have h1 : P.find? (openW (fstEnd E)) = none := List.find?_eq_none.mpr fun a ha => by rw [hP a ha]; decide
            rw [h1]
            simp [List.find?_cons, openW, hf]
          unfold stopM at q
          rw [hfind] at q
          exact q
    | fin g d b =>
      unfold recD
      simp only [wp_callDef, wp_cons, wp_nil, wp_asg, wp_expr, wp_retS, wp_retN, wp_iteS, wp_pass, wp_brk, wp_cont, wp_setIx, wp_augX, wp_asgT, wp_for, wp_varX, wp_cst, wp_bin, wp_cmp, wp_cmpT, wp_chainT, wp_andT, wp_orT, wp_notT, wp_iteE, wp_idx, wp_sl, wp_call, wp_bi, wp_tup, wp_lst, wp_dict0, wp_meth, wp_lc, wp_evs_nil, wp_evs_cons, wp_evo_none, wp_evo_some, wp_seq, wp_enum, wp_rng1, wp_rng2, wp_idxT, wp_varT, wp_callT, wp_biT, x_truB, tsto_none, tsto_some,
  seqQ_nx, seqQ_ret, seqQ_bk, seqQ_ct, endQ_ret, endQ_nx, varQ_some, lstQ_some, dctQ_some, optQ_some, blQ_bl, inQ_int, rgQ_int, rg2Q_int,
  x_eqSS, x_eqII, x_neSS, x_neII, str_we, str_ew, decide_true, decide_false, if_true, if_false, Bool.false_eq_true, reduceIte, x_addI, x_addT, x_addS, x_addL, x_subI, x_mulI, x_divI, x_modI, x_powI, x_ltI, x_leI, x_gtI, x_geI, x_is, x_isnot, x_isB, x_isNB, x_ixT, x_ixF, x_abs, x_lenT, x_lenF, x_intI, x_intB, x_max2, x_min2, x_seqT, x_seqF, x_slT, x_slF,
  List.map_cons, List.map_nil, List.length_cons, List.length_nil, List.cons_append, List.nil_append, List.replicate_succ, List.replicate_zero, Nat.reduceSub, Nat.reduceAdd, List.set_cons_zero, List.set_cons_succ, List.getElem?_cons_zero, List.getElem?_cons_succ, Nat.add_zero, Nat.zero_add, Nat.sub_self, decide_eq_true_eq, at4]
      exact ⟨_, _, rfl, trivial, snoc rfl⟩
  · rintro env s ⟨e3, e4, rfl, rfl, hP⟩
    refine ⟨hg, ?_⟩
    simp only [wp_callDef, wp_cons, wp_nil, wp_asg, wp_expr, wp_retS, wp_retN, wp_iteS, wp_pass, wp_brk, wp_cont, wp_setIx, wp_augX, wp_asgT, wp_for, wp_varX, wp_cst, wp_bin, wp_cmp, wp_cmpT, wp_chainT, wp_andT, wp_orT, wp_notT, wp_iteE, wp_idx, wp_sl, wp_call, wp_bi, wp_tup, wp_lst, wp_dict0, wp_meth, wp_lc, wp_evs_nil, wp_evs_cons, wp_evo_none, wp_evo_some, wp_seq, wp_enum, wp_rng1, wp_rng2, wp_idxT, wp_varT, wp_callT, wp_biT, x_truB, tsto_none, tsto_some,
  seqQ_nx, seqQ_ret, seqQ_bk, seqQ_ct, endQ_ret, endQ_nx, varQ_some, lstQ_some, dctQ_some, optQ_some, blQ_bl, inQ_int, rgQ_int, rg2Q_int,
  x_eqSS, x_eqII, x_neSS, x_neII, str_we, str_ew, decide_true, decide_false, if_true, if_false, Bool.false_eq_true, reduceIte, x_addI, x_addT, x_addS, x_addL, x_subI, x_mulI, x_divI, x_modI, x_powI, x_ltI, x_leI, x_gtI, x_geI, x_is, x_isnot, x_isB, x_isNB, x_ixT, x_ixF, x_abs, x_lenT, x_lenF, x_intI, x_intB, x_max2, x_min2, x_seqT, x_seqF, x_slT, x_slF,
  List.map_cons, List.map_nil, List.length_cons, List.length_nil, List.cons_append, List.nil_append, List.replicate_succ, List.replicate_zero, Nat.reduceSub, Nat.reduceAdd, List.set_cons_zero, List.set_cons_succ, List.getElem?_cons_zero, List.getElem?_cons_succ, Nat.add_zero, Nat.zero_add, Nat.sub_self, decide_eq_true_eq]
    have hfind : L.find? (openW (fstEnd E)) = none := List.find?_eq_none.mpr fun a ha => by rw [hP a ha]; decide
    unfold stopM at q
    rw [hfind] at q
    exact q
end W9

/-! W9N: settled, visible -/
namespace W9
open PySem L2
def settled_b : Sms :=
  (.cons (.asg 2 (.call "below" (.cons (.var 0) (.cons (.var 1) .nil))))
    (.cons (.ret (.call "stop_of" (.cons (.var 2) (.cons (.call "first_ends" (.cons (.var 2) .nil)) (.cons (.var 1) .nil)))))
    .nil))
def visible_b : Sms :=
  (.cons (.asg 2 (.call "below" (.cons (.var 0) (.cons (.var 1) .nil))))
    (.cons (.asg 3 (.call "first_ends" (.cons (.var 2) .nil)))
    (.cons (.asg 4 (.lst .nil))
    (.cons (.forS (.seq (.call "below" (.cons (.var 2) (.cons (.call "stop_of" (.cons (.var 2) (.cons (.var 3) (.cons (.var 1) .nil)))) .nil)))) (.tup [5, 6])
    (.cons (.ite (.and (.cmp .Eq (.idx (.var 6) (.cst (.int 0))) (.cst (.str "word"))) (.or (.cmp .Is (.idx (.var 6) (.cst (.int 3))) (.cst .non)) (.idx (.var 3) (.tup (.cons (.idx (.var 6) (.cst (.int 1))) (.cons (.idx (.var 6) (.cst (.int 3))) .nil))))))
    (.cons (.expr (.meth .append (.var 4) (.cons (.bin .Add (.tup (.cons (.var 5) .nil)) (.sl (.var 6) (.some (.cst (.int 4))) .none)) .nil)))
    .nil)
    .nil)
    .nil))
    (.cons (.ret (.bi .tuple (.cons (.var 4) .nil)))
    .nil)))))
/-- a table knows the readers -/
structure Reads4 (C : Cts) : Prop where
  below : ∃ C', C.fn "below" = callDef C' 3 below_b
  ends : ∃ C', C.fn "first_ends" = callDef C' 4 first_ends_b
  stop : ∃ C', C.fn "stop_of" = callDef C' 5 stop_of_b
def cutE (L : List Ent) (e : Int) : List Ent := L.filter (ltE e)
def settledM (L : List Ent) (e : Int) : Int := stopM (cutE L e) (fstEnd (cutE L e)) e
theorem cutE_len (L : List Ent) (e : Int) : (cutE L e).length ≤ L.length := List.length_filter_le _ _
theorem cutE_wf {L : List Ent} (h : Wf L) (e : Int) : Wf (cutE L e) := h.sub fun _ ha => (List.mem_filter.mp ha).1
theorem below_wp2 {C : Cts} {x : D} {e : Int} {L : List Ent} {st : Store} {QD : D → Store → Prop} (h : LogAt x st L) (hl : L.length ≤ bigN) (q : QD (.ob st.length) (st ++ [.lst ((cutE L e).map entD)])) : wp (callDef C 3 below_b [x, .int e]) QD st := below_wp h hl q
theorem settled_wp {C : Cts} (RC : Reads4 C) {x : D} {e : Int} {L : List Ent} {st : Store} {QD : D → Store → Prop} (h : LogAt x st L) (hw : Wf L) (hl : L.length < bigN) (q : ∀ s, st <+: s → QD (.int (settledM L e)) s) :
    wp (callDef C 3 settled_b [x, .int e]) QD st := by
  obtain ⟨C1, b1⟩ := RC.below
  obtain ⟨C2, b2⟩ := RC.ends
  obtain ⟨C3, b3⟩ := RC.stop
  have hl2 := cutE_len L e
  unfold settled_b
  rw [wp_callDef]
  simp only [wp_cons, wp_nil, wp_asg, wp_expr, wp_retS, wp_retN, wp_iteS, wp_pass, wp_brk, wp_cont, wp_setIx, wp_augX, wp_asgT, wp_for, wp_varX, wp_cst, wp_bin, wp_cmp, wp_cmpT, wp_chainT, wp_andT, wp_orT, wp_notT, wp_iteE, wp_idx, wp_sl, wp_call, wp_bi, wp_tup, wp_lst, wp_dict0, wp_meth, wp_lc, wp_evs_nil, wp_evs_cons, wp_evo_none, wp_evo_some, wp_seq, wp_enum, wp_rng1, wp_rng2, wp_idxT, wp_varT, wp_callT, wp_biT, x_truB, tsto_none, tsto_some,
  seqQ_nx, seqQ_ret, seqQ_bk, seqQ_ct, endQ_ret, endQ_nx, varQ_some, lstQ_some, dctQ_some, optQ_some, blQ_bl, inQ_int, rgQ_int, rg2Q_int,
  x_eqSS, x_eqII, x_neSS, x_neII, str_we, str_ew, decide_true, decide_false, if_true, if_false, Bool.false_eq_true, reduceIte, x_addI, x_addT, x_addS, x_addL, x_subI, x_mulI, x_divI, x_modI, x_powI, x_ltI, x_leI, x_gtI, x_geI, x_is, x_isnot, x_isB, x_isNB, x_ixT, x_ixF, x_abs, x_lenT, x_lenF, x_intI, x_intB, x_max2, x_min2, x_seqT, x_seqF, x_slT, x_slF,
  List.map_cons, List.map_nil, List.length_cons, List.length_nil, List.cons_append, List.nil_append, List.replicate_succ, List.replicate_zero, Nat.reduceSub, Nat.reduceAdd, List.set_cons_zero, List.set_cons_succ, List.getElem?_cons_zero, List.getElem?_cons_succ, Nat.add_zero, Nat.zero_add, Nat.sub_self, decide_eq_true_eq, b1, b2, b3]
  refine below_wp2 h (by omega) ?_
  have h2 : LogAt (.ob st.length) (st ++ [.lst ((cutE L e).map entD)]) (cutE L e) := .inr ⟨_, rfl, by simp⟩
  refine first_ends_wp h2 (cutE_wf hw e) (by omega) fun kvs hk => ?_
  refine stop_of_wp (h2.pre ⟨[.dct kvs], rfl⟩) (cutE_wf hw e) (by simp) hk (q _ ⟨[.lst ((cutE L e).map entD), .dct kvs], by simp⟩)
abbrev Srt (L : List Ent) : Prop := L.Pairwise fun a b => a.1 < b.1
theorem Srt.cut {L : List Ent} (h : Srt L) (e : Int) : Srt (cutE L e) := List.Pairwise.sublist List.filter_sublist h
/-- ahead of the stop nothing is open -/
theorem stop_ahead {L : List Ent} {F : Str → Int → Option Bool} {e : Int} (h : Srt L) {a : Ent} (ha : a ∈ L) (hlt : a.1 < stopM L F e) : openW F a = false := by
  cases ho : openW F a with
  | false => rfl
  | true =>
    exfalso
    unfold stopM at hlt
    cases hf : L.find? (openW F) with
    | none => have := List.find?_eq_none.mp hf a ha; rw [ho] at this; exact this rfl
    | some b =>
      rw [hf] at hlt
      have hlt' : a.1 < b.1 := hlt
      obtain ⟨_, as, bs, hL, has⟩ := List.find?_eq_some_iff_append.mp hf
      rw [hL] at ha h
      rcases List.mem_append.mp ha with ha | ha
      · have := has a ha; rw [ho] at this; cases this
      · rcases List.mem_cons.mp ha with e1 | e1
        · subst e1; omega
        · have := (List.pairwise_append.mp h).2.1
          have := (List.pairwise_cons.mp this).1 a e1
          omega
def visOf (F : Str → Int → Option Bool) : Ent → Option (Int × Str × Str × Int) := fun a => match a.2 with
  | .word g _ none k t tm => some (a.1, k, t, tm)
  | .word g _ (some d) k t tm => if F g d = some true then some (a.1, k, t, tm) else none
  | _ => none
def visD (v : Int × Str × Str × Int) : D := .tup [.int v.1, .str v.2.1, .str v.2.2.1, .int v.2.2.2]
def visM (L : List Ent) (e : Int) : List (Int × Str × Str × Int) := (cutE (cutE L e) (settledM L e)).filterMap (visOf (fstEnd (cutE L e)))
theorem cut7 {a b c d e f g : D} : cutL [a, b, c, d, e, f, g] (some 4) none = [e, f, g] := rfl
theorem visible_wp {C : Cts} (RC : Reads4 C) {x : D} {e : Int} {L : List Ent} {st : Store} {QD : D → Store → Prop} (h : LogAt x st L) (hw : Wf L) (hsr : Srt L) (hl : L.length < bigN) (q : ∀ s, st <+: s → QD (.tup ((visM L e).map visD)) s) :
    wp (callDef C 7 visible_b [x, .int e]) QD st := by
  obtain ⟨C1, b1⟩ := RC.below
  obtain ⟨C2, b2⟩ := RC.ends
  obtain ⟨C3, b3⟩ := RC.stop
  have hl2 := cutE_len L e
  have hl3 := cutE_len (cutE L e) (settledM L e)
  unfold visible_b
  rw [wp_callDef]
  simp only [wp_cons, wp_nil, wp_asg, wp_expr, wp_retS, wp_retN, wp_iteS, wp_pass, wp_brk, wp_cont, wp_setIx, wp_augX, wp_asgT, wp_for, wp_varX, wp_cst, wp_bin, wp_cmp, wp_cmpT, wp_chainT, wp_andT, wp_orT, wp_notT, wp_iteE, wp_idx, wp_sl, wp_call, wp_bi, wp_tup, wp_lst, wp_dict0, wp_meth, wp_lc, wp_evs_nil, wp_evs_cons, wp_evo_none, wp_evo_some, wp_seq, wp_enum, wp_rng1, wp_rng2, wp_idxT, wp_varT, wp_callT, wp_biT, x_truB, tsto_none, tsto_some,
  seqQ_nx, seqQ_ret, seqQ_bk, seqQ_ct, endQ_ret, endQ_nx, varQ_some, lstQ_some, dctQ_some, optQ_some, blQ_bl, inQ_int, rgQ_int, rg2Q_int,
  x_eqSS, x_eqII, x_neSS, x_neII, str_we, str_ew, decide_true, decide_false, if_true, if_false, Bool.false_eq_true, reduceIte, x_addI, x_addT, x_addS, x_addL, x_subI, x_mulI, x_divI, x_modI, x_powI, x_ltI, x_leI, x_gtI, x_geI, x_is, x_isnot, x_isB, x_isNB, x_ixT, x_ixF, x_abs, x_lenT, x_lenF, x_intI, x_intB, x_max2, x_min2, x_seqT, x_seqF, x_slT, x_slF,
  List.map_cons, List.map_nil, List.length_cons, List.length_nil, List.cons_append, List.nil_append, List.replicate_succ, List.replicate_zero, Nat.reduceSub, Nat.reduceAdd, List.set_cons_zero, List.set_cons_succ, List.getElem?_cons_zero, List.getElem?_cons_succ, Nat.add_zero, Nat.zero_add, Nat.sub_self, decide_eq_true_eq, b1, b2, b3]
  refine below_wp2 h (by omega) ?_
  have h2 : LogAt (.ob st.length) (st ++ [Ob.lst ((cutE L e).map entD)]) (cutE L e) := .inr ⟨_, rfl, by simp⟩
  refine first_ends_wp h2 (cutE_wf hw e) (by omega) fun kvs hk => ?_
  refine ⟨by decide, ?_⟩
  have h3 : LogAt (.ob st.length) (st ++ [Ob.lst ((cutE L e).map entD)] ++ [Ob.dct kvs] ++ [Ob.lst []]) (cutE L e) := .inr ⟨_, rfl, by simp⟩
  refine stop_of_wp h3 (cutE_wf hw e) (E := cutE L e) (kvs := kvs) (by simp) hk ?_
  refine below_wp2 h3 (by omega) ?_
  generalize hB : cutE (cutE L e) (settledM L e) = B
  have hB' : cutE (cutE L e) (stopM (cutE L e) (fstEnd (cutE L e)) e) = B := hB
  rw [hB']
  have hat : ∀ fs : List D, (st ++ [Ob.lst ((cutE L e).map entD)] ++ [Ob.dct kvs] ++ [Ob.lst fs] ++ [Ob.lst (B.map entD)])[st.length + 2]? = some (.lst fs) := fun fs => by simp
  have hat3 : ∀ fs : List D, (st ++ [Ob.lst ((cutE L e).map entD)] ++ [Ob.dct kvs] ++ [Ob.lst fs] ++ [Ob.lst (B.map entD)])[st.length + 1]? = some (.dct kvs) := fun fs => by simp
  have hat4 : ∀ fs : List D, (st ++ [Ob.lst ((cutE L e).map entD)] ++ [Ob.dct kvs] ++ [Ob.lst fs] ++ [Ob.lst (B.map entD)])[st.length + 3]? = some (.lst (B.map entD)) := fun fs => by simp
  have hset : ∀ fs gs : List D, (st ++ [Ob.lst ((cutE L e).map entD)] ++ [Ob.dct kvs] ++ [Ob.lst fs] ++ [Ob.lst (B.map entD)]).set (st.length + 2) (.lst gs) = st ++ [Ob.lst ((cutE L e).map entD)] ++ [Ob.dct kvs] ++ [Ob.lst gs] ++ [Ob.lst (B.map entD)] := fun fs gs => by simp
  have hlen : (st ++ [Ob.lst ((cutE L e).map entD)] ++ [Ob.dct kvs] ++ [Ob.lst []]).length = st.length + 3 := by simp
  have hlen2 : (st ++ [Ob.lst ((cutE L e).map entD)] ++ [Ob.dct kvs]).length = st.length + 2 := by simp
  have hlen1 : (st ++ [Ob.lst ((cutE L e).map entD)]).length = st.length + 1 := by simp
  rw [hlen, hlen2, hlen1]
  have hBsub : ∀ a ∈ B, a ∈ cutE L e ∧ a.1 < settledM L e := by
    intro a ha
    rw [← hB] at ha
    obtain ⟨h1, h2⟩ := List.mem_filter.mp ha
    exact ⟨h1, of_decide_eq_true h2⟩
  have hBl : B.length ≤ L.length := by rw [← hB]; omega
  rw [x_seqL (hat4 [])]
  refine wp_loopF_map entD B (fun P env s => ∃ e5 e6, env = [some x, some (.int e), some (.ob st.length), some (.ob (st.length + 1)), some (.ob (st.length + 2)), e5, e6] ∧ s = st ++ [Ob.lst ((cutE L e).map entD)] ++ [Ob.dct kvs] ++ [Ob.lst ((P.filterMap (visOf (fstEnd (cutE L e)))).map visD)] ++ [Ob.lst (B.map entD)]) ?_ ?_ ⟨none, none, rfl, rfl⟩
  · rintro P ⟨p, r⟩ R env s hL ⟨e5, e6, rfl, rfl⟩
    refine ⟨by simp only [gdOk, decide_eq_true_eq]; exact hat4 _, ?_⟩
    have hPl : (P.filterMap (visOf (fstEnd (cutE L e)))).length ≤ P.length := List.length_filterMap_le _ _
    have hPB : P.length ≤ B.length := by rw [hL]; simp
    rw [wp_forF (env1 := [some x, some (.int e), some (.ob st.length), some (.ob (st.length + 1)), some (.ob (st.length + 2)), some (.int p), some (recD r)]) rfl]
    obtain ⟨hin, hlt⟩ := hBsub (p, r) (by rw [hL]; simp)
    have hop := stop_ahead (hsr.cut e) hin hlt
    have hwf : r.giver ≠ "book" := cutE_wf hw e (p, r) hin
    have snoc : ∀ o, visOf (fstEnd (cutE L e)) (p, r) = o → (P ++ [(p, r)]).filterMap (visOf (fstEnd (cutE L e))) = P.filterMap (visOf (fstEnd (cutE L e))) ++ o.toList := by
      intro o ho
      rw [List.filterMap_append, ← ho]
      cases h0 : visOf (fstEnd (cutE L e)) (p, r) <;> simp [h0]
    have add : ∀ v, visOf (fstEnd (cutE L e)) (p, r) = some v → ((P ++ [(p, r)]).filterMap (visOf (fstEnd (cutE L e)))).map visD = (P.filterMap (visOf (fstEnd (cutE L e)))).map visD ++ [visD v] := by
      intro v hv
      rw [snoc _ hv]; simp
    have same : visOf (fstEnd (cutE L e)) (p, r) = none → ((P ++ [(p, r)]).filterMap (visOf (fstEnd (cutE L e)))).map visD = (P.filterMap (visOf (fstEnd (cutE L e)))).map visD := by
      intro hv
      rw [snoc _ hv]; simp
    cases r with
    | word g n dl k t tm =>
      cases dl with
      | none =>
        unfold recD optD
        simp only [wp_callDef, wp_cons, wp_nil, wp_asg, wp_expr, wp_retS, wp_retN, wp_iteS, wp_pass, wp_brk, wp_cont, wp_setIx, wp_augX, wp_asgT, wp_for, wp_varX, wp_cst, wp_bin, wp_cmp, wp_cmpT, wp_chainT, wp_andT, wp_orT, wp_notT, wp_iteE, wp_idx, wp_sl, wp_call, wp_bi, wp_tup, wp_lst, wp_dict0, wp_meth, wp_lc, wp_evs_nil, wp_evs_cons, wp_evo_none, wp_evo_some, wp_seq, wp_enum, wp_rng1, wp_rng2, wp_idxT, wp_varT, wp_callT, wp_biT, x_truB, tsto_none, tsto_some,
  seqQ_nx, seqQ_ret, seqQ_bk, seqQ_ct, endQ_ret, endQ_nx, varQ_some, lstQ_some, dctQ_some, optQ_some, blQ_bl, inQ_int, rgQ_int, rg2Q_int,
  x_eqSS, x_eqII, x_neSS, x_neII, str_we, str_ew, decide_true, decide_false, if_true, if_false, Bool.false_eq_true, reduceIte, x_addI, x_addT, x_addS, x_addL, x_subI, x_mulI, x_divI, x_modI, x_powI, x_ltI, x_leI, x_gtI, x_geI, x_is, x_isnot, x_isB, x_isNB, x_ixT, x_ixF, x_abs, x_lenT, x_lenF, x_intI, x_intB, x_max2, x_min2, x_seqT, x_seqF, x_slT, x_slF,
  List.map_cons, List.map_nil, List.length_cons, List.length_nil, List.cons_append, List.nil_append, List.replicate_succ, List.replicate_zero, Nat.reduceSub, Nat.reduceAdd, List.set_cons_zero, List.set_cons_succ, List.getElem?_cons_zero, List.getElem?_cons_succ, Nat.add_zero, Nat.zero_add, Nat.sub_self, decide_eq_true_eq, at7, cut7]
        refine ⟨.list, x_tyL (hat _), by decide, by decide, ?_⟩
        rw [x_app (hat _)]
        refine ⟨by rw [List.length_map]; omega, _, _, rfl, ?_⟩
        rw [hset, add (p, k, t, tm) rfl]
        rfl
      | some d =>
        have hb : g = "book" → d ≠ 0 := fun z => absurd z hwf
        unfold recD optD
        simp only [wp_callDef, wp_cons, wp_nil, wp_asg, wp_expr, wp_retS, wp_retN, wp_iteS, wp_pass, wp_brk, wp_cont, wp_setIx, wp_augX, wp_asgT, wp_for, wp_varX, wp_cst, wp_bin, wp_cmp, wp_cmpT, wp_chainT, wp_andT, wp_orT, wp_notT, wp_iteE, wp_idx, wp_sl, wp_call, wp_bi, wp_tup, wp_lst, wp_dict0, wp_meth, wp_lc, wp_evs_nil, wp_evs_cons, wp_evo_none, wp_evo_some, wp_seq, wp_enum, wp_rng1, wp_rng2, wp_idxT, wp_varT, wp_callT, wp_biT, x_truB, tsto_none, tsto_some,
  seqQ_nx, seqQ_ret, seqQ_bk, seqQ_ct, endQ_ret, endQ_nx, varQ_some, lstQ_some, dctQ_some, optQ_some, blQ_bl, inQ_int, rgQ_int, rg2Q_int,
  x_eqSS, x_eqII, x_neSS, x_neII, str_we, str_ew, decide_true, decide_false, if_true, if_false, Bool.false_eq_true, reduceIte, x_addI, x_addT, x_addS, x_addL, x_subI, x_mulI, x_divI, x_modI, x_powI, x_ltI, x_leI, x_gtI, x_geI, x_is, x_isnot, x_isB, x_isNB, x_ixT, x_ixF, x_abs, x_lenT, x_lenF, x_intI, x_intB, x_max2, x_min2, x_seqT, x_seqF, x_slT, x_slF,
  List.map_cons, List.map_nil, List.length_cons, List.length_nil, List.cons_append, List.nil_append, List.replicate_succ, List.replicate_zero, Nat.reduceSub, Nat.reduceAdd, List.set_cons_zero, List.set_cons_succ, List.getElem?_cons_zero, List.getElem?_cons_succ, Nat.add_zero, Nat.zero_add, Nat.sub_self, decide_eq_true_eq, at7, cut7]
        refine ⟨by decide, ?_⟩
        rw [x_ixD (hat3 _)]
        refine ⟨kind_pairs hk.keys hb, ?_⟩
        rw [hk.get]
        cases hf : fstEnd (cutE L e) g d with
        | none => simp [openW, hf] at hop
        | some z =>
          simp only [Option.map_some]
          simp only [wp_callDef, wp_cons, wp_nil, wp_asg, wp_expr, wp_retS, wp_retN, wp_iteS, wp_pass, wp_brk, wp_cont, wp_setIx, wp_augX, wp_asgT, wp_for, wp_varX, wp_cst, wp_bin, wp_cmp, wp_cmpT, wp_chainT, wp_andT, wp_orT, wp_notT, wp_iteE, wp_idx, wp_sl, wp_call, wp_bi, wp_tup, wp_lst, wp_dict0, wp_meth, wp_lc, wp_evs_nil, wp_evs_cons, wp_evo_none, wp_evo_some, wp_seq, wp_enum, wp_rng1, wp_rng2, wp_idxT, wp_varT, wp_callT, wp_biT, x_truB, tsto_none, tsto_some,
  seqQ_nx, seqQ_ret, seqQ_bk, seqQ_ct, endQ_ret, endQ_nx, varQ_some, lstQ_some, dctQ_some, optQ_some, blQ_bl, inQ_int, rgQ_int, rg2Q_int,
  x_eqSS, x_eqII, x_neSS, x_neII, str_we, str_ew, decide_true, decide_false, if_true, if_false, Bool.false_eq_true, reduceIte, x_addI, x_addT, x_addS, x_addL, x_subI, x_mulI, x_divI, x_modI, x_powI, x_ltI, x_leI, x_gtI, x_geI, x_is, x_isnot, x_isB, x_isNB, x_ixT, x_ixF, x_abs, x_lenT, x_lenF, x_intI, x_intB, x_max2, x_min2, x_seqT, x_seqF, x_slT, x_slF,
  List.map_cons, List.map_nil, List.length_cons, List.length_nil, List.cons_append, List.nil_append, List.replicate_succ, List.replicate_zero, Nat.reduceSub, Nat.reduceAdd, List.set_cons_zero, List.set_cons_succ, List.getElem?_cons_zero, List.getElem?_cons_succ, Nat.add_zero, Nat.zero_add, Nat.sub_self, decide_eq_true_eq]
          cases z with
          | true =>
            simp only [wp_callDef, wp_cons, wp_nil, wp_asg, wp_expr, wp_retS, wp_retN, wp_iteS, wp_pass, wp_brk, wp_cont, wp_setIx, wp_augX, wp_asgT, wp_for, wp_varX, wp_cst, wp_bin, wp_cmp, wp_cmpT, wp_chainT, wp_andT, wp_orT, wp_notT, wp_iteE, wp_idx, wp_sl, wp_call, wp_bi, wp_tup, wp_lst, wp_dict0, wp_meth, wp_lc, wp_evs_nil, wp_evs_cons, wp_evo_none, wp_evo_some, wp_seq, wp_enum, wp_rng1, wp_rng2, wp_idxT, wp_varT, wp_callT, wp_biT, x_truB, tsto_none, tsto_some,
  seqQ_nx, seqQ_ret, seqQ_bk, seqQ_ct, endQ_ret, endQ_nx, varQ_some, lstQ_some, dctQ_some, optQ_some, blQ_bl, inQ_int, rgQ_int, rg2Q_int,
  x_eqSS, x_eqII, x_neSS, x_neII, str_we, str_ew, decide_true, decide_false, if_true, if_false, Bool.false_eq_true, reduceIte, x_addI, x_addT, x_addS, x_addL, x_subI, x_mulI, x_divI, x_modI, x_powI, x_ltI, x_leI, x_gtI, x_geI, x_is, x_isnot, x_isB, x_isNB, x_ixT, x_ixF, x_abs, x_lenT, x_lenF, x_intI, x_intB, x_max2, x_min2, x_seqT, x_seqF, x_slT, x_slF,
  List.map_cons, List.map_nil, List.length_cons, List.length_nil, List.cons_append, List.nil_append, List.replicate_succ, List.replicate_zero, Nat.reduceSub, Nat.reduceAdd, List.set_cons_zero, List.set_cons_succ, List.getElem?_cons_zero, List.getElem?_cons_succ, Nat.add_zero, Nat.zero_add, Nat.sub_self, decide_eq_true_eq, at7, cut7]
            refine ⟨.list, x_tyL (hat _), by decide, by decide, ?_⟩
            rw [x_app (hat _)]
            refine ⟨by rw [List.length_map]; omega, _, _, rfl, ?_⟩
            rw [hset, add (p, k, t, tm) (by simp [visOf, hf])]
            rfl
          | false =>
            simp only [wp_callDef, wp_cons, wp_nil, wp_asg, wp_expr, wp_retS, wp_retN, wp_iteS, wp_pass, wp_brk, wp_cont, wp_setIx, wp_augX, wp_asgT, wp_for, wp_varX, wp_cst, wp_bin, wp_cmp, wp_cmpT, wp_chainT, wp_andT, wp_orT, wp_notT, wp_iteE, wp_idx, wp_sl, wp_call, wp_bi, wp_tup, wp_lst, wp_dict0, wp_meth, wp_lc, wp_evs_nil, wp_evs_cons, wp_evo_none, wp_evo_some, wp_seq, wp_enum, wp_rng1, wp_rng2, wp_idxT, wp_varT, wp_callT, wp_biT, x_truB, tsto_none, tsto_some,
  seqQ_nx, seqQ_ret, seqQ_bk, seqQ_ct, endQ_ret, endQ_nx, varQ_some, lstQ_some, dctQ_some, optQ_some, blQ_bl, inQ_int, rgQ_int, rg2Q_int,
  x_eqSS, x_eqII, x_neSS, x_neII, str_we, str_ew, decide_true, decide_false, if_true, if_false, Bool.false_eq_true, reduceIte, x_addI, x_addT, x_addS, x_addL, x_subI, x_mulI, x_divI, x_modI, x_powI, x_ltI, x_leI, x_gtI, x_geI, x_is, x_isnot, x_isB, x_isNB, x_ixT, x_ixF, x_abs, x_lenT, x_lenF, x_intI, x_intB, x_max2, x_min2, x_seqT, x_seqF, x_slT, x_slF,
  List.map_cons, List.map_nil, List.length_cons, List.length_nil, List.cons_append, List.nil_append, List.replicate_succ, List.replicate_zero, Nat.reduceSub, Nat.reduceAdd, List.set_cons_zero, List.set_cons_succ, List.getElem?_cons_zero, List.getElem?_cons_succ, Nat.add_zero, Nat.zero_add, Nat.sub_self, decide_eq_true_eq]
            refine ⟨_, _, rfl, ?_⟩
            rw [same (by simp [visOf, hf])]
    | fin g d b =>
      unfold recD
      simp only [wp_callDef, wp_cons, wp_nil, wp_asg, wp_expr, wp_retS, wp_retN, wp_iteS, wp_pass, wp_brk, wp_cont, wp_setIx, wp_augX, wp_asgT, wp_for, wp_varX, wp_cst, wp_bin, wp_cmp, wp_cmpT, wp_chainT, wp_andT, wp_orT, wp_notT, wp_iteE, wp_idx, wp_sl, wp_call, wp_bi, wp_tup, wp_lst, wp_dict0, wp_meth, wp_lc, wp_evs_nil, wp_evs_cons, wp_evo_none, wp_evo_some, wp_seq, wp_enum, wp_rng1, wp_rng2, wp_idxT, wp_varT, wp_callT, wp_biT, x_truB, tsto_none, tsto_some,
  seqQ_nx, seqQ_ret, seqQ_bk, seqQ_ct, endQ_ret, endQ_nx, varQ_some, lstQ_some, dctQ_some, optQ_some, blQ_bl, inQ_int, rgQ_int, rg2Q_int,
  x_eqSS, x_eqII, x_neSS, x_neII, str_we, str_ew, decide_true, decide_false, if_true, if_false, Bool.false_eq_true, reduceIte, x_addI, x_addT, x_addS, x_addL, x_subI, x_mulI, x_divI, x_modI, x_powI, x_ltI, x_leI, x_gtI, x_geI, x_is, x_isnot, x_isB, x_isNB, x_ixT, x_ixF, x_abs, x_lenT, x_lenF, x_intI, x_intB, x_max2, x_min2, x_seqT, x_seqF, x_slT, x_slF,
  List.map_cons, List.map_nil, List.length_cons, List.length_nil, List.cons_append, List.nil_append, List.replicate_succ, List.replicate_zero, Nat.reduceSub, Nat.reduceAdd, List.set_cons_zero, List.set_cons_succ, List.getElem?_cons_zero, List.getElem?_cons_succ, Nat.add_zero, Nat.zero_add, Nat.sub_self, decide_eq_true_eq, at4]
      refine ⟨_, _, rfl, ?_⟩
      rw [same rfl]
  · rintro env s ⟨e5, e6, rfl, rfl⟩
    refine ⟨by simp only [gdOk, decide_eq_true_eq]; exact hat4 _, ?_⟩
    simp only [wp_callDef, wp_cons, wp_nil, wp_asg, wp_expr, wp_retS, wp_retN, wp_iteS, wp_pass, wp_brk, wp_cont, wp_setIx, wp_augX, wp_asgT, wp_for, wp_varX, wp_cst, wp_bin, wp_cmp, wp_cmpT, wp_chainT, wp_andT, wp_orT, wp_notT, wp_iteE, wp_idx, wp_sl, wp_call, wp_bi, wp_tup, wp_lst, wp_dict0, wp_meth, wp_lc, wp_evs_nil, wp_evs_cons, wp_evo_none, wp_evo_some, wp_seq, wp_enum, wp_rng1, wp_rng2, wp_idxT, wp_varT, wp_callT, wp_biT, x_truB, tsto_none, tsto_some,
  seqQ_nx, seqQ_ret, seqQ_bk, seqQ_ct, endQ_ret, endQ_nx, varQ_some, lstQ_some, dctQ_some, optQ_some, blQ_bl, inQ_int, rgQ_int, rg2Q_int,
  x_eqSS, x_eqII, x_neSS, x_neII, str_we, str_ew, decide_true, decide_false, if_true, if_false, Bool.false_eq_true, reduceIte, x_addI, x_addT, x_addS, x_addL, x_subI, x_mulI, x_divI, x_modI, x_powI, x_ltI, x_leI, x_gtI, x_geI, x_is, x_isnot, x_isB, x_isNB, x_ixT, x_ixF, x_abs, x_lenT, x_lenF, x_intI, x_intB, x_max2, x_min2, x_seqT, x_seqF, x_slT, x_slF,
  List.map_cons, List.map_nil, List.length_cons, List.length_nil, List.cons_append, List.nil_append, List.replicate_succ, List.replicate_zero, Nat.reduceSub, Nat.reduceAdd, List.set_cons_zero, List.set_cons_succ, List.getElem?_cons_zero, List.getElem?_cons_succ, Nat.add_zero, Nat.zero_add, Nat.sub_self, decide_eq_true_eq]
    rw [x_tupL (hat _)]
    have := q (st ++ [Ob.lst ((cutE L e).map entD)] ++ [Ob.dct kvs] ++ [Ob.lst ((B.filterMap (visOf (fstEnd (cutE L e)))).map visD)] ++ [Ob.lst (B.map entD)]) ⟨[Ob.lst ((cutE L e).map entD), Ob.dct kvs, Ob.lst ((B.filterMap (visOf (fstEnd (cutE L e)))).map visD), Ob.lst (B.map entD)], by simp⟩
    unfold visM at this
    rw [hB] at this
    exact this
end W9

/-! W9O: the law's own settled and visible -/
namespace W9
open PySem L2
def lfe_b : Sms :=
  (.cons (.asg 4 (.lc [5, 6] (.seq (.var 0)) (.tup [5, 6]) (.some (.and (.cmp .Lt (.var 5) (.var 1)) (.cmp .Eq (.sl (.var 6) .none (.some (.cst (.int 3)))) (.tup (.cons (.cst (.str "end")) (.cons (.var 2) (.cons (.var 3) .nil))))))) (.idx (.var 6) (.cst (.int 3)))))
    (.cons (.ret (.idx (.bin .Add (.var 4) (.lst (.cons (.cst .non) .nil))) (.cst (.int 0))))
    .nil))
def lset_b : Sms :=
  (.cons (.asg 2 (.lc [3, 4] (.seq (.var 0)) (.tup [3, 4]) (.some (.and (.cmp .Eq (.idx (.var 4) (.cst (.int 0))) (.cst (.str "word"))) (.and (.cmp .Lt (.var 3) (.var 1)) (.and (.cmp .IsNot (.idx (.var 4) (.cst (.int 3))) (.cst .non)) (.cmp .Is (.call "_law_first_end" (.cons (.var 0) (.cons (.var 1) (.cons (.idx (.var 4) (.cst (.int 1))) (.cons (.idx (.var 4) (.cst (.int 3))) .nil))))) (.cst .non)))))) (.var 3)))
    (.cons (.ret (.bi .min (.cons (.bin .Add (.var 2) (.lst (.cons (.var 1) .nil))) .nil)))
    .nil))
def lvis_b : Sms :=
  (.cons (.asgT [2, 3] (.tup (.cons (.call "_law_settled" (.cons (.var 0) (.cons (.var 1) .nil))) (.cons (.lst .nil) .nil))))
    (.cons (.forS (.seq (.var 0)) (.tup [4, 5])
    (.cons (.ite (.and (.cmp .Eq (.idx (.var 5) (.cst (.int 0))) (.cst (.str "word"))) (.cmp .Lt (.var 4) (.var 2)))
    (.cons (.ite (.or (.cmp .Is (.idx (.var 5) (.cst (.int 3))) (.cst .non)) (.cmp .Is (.call "_law_first_end" (.cons (.var 0) (.cons (.var 1) (.cons (.idx (.var 5) (.cst (.int 1))) (.cons (.idx (.var 5) (.cst (.int 3))) .nil))))) (.cst (.bl true))))
    (.cons (.expr (.meth .append (.var 3) (.cons (.tup (.cons (.var 4) (.cons (.idx (.var 5) (.cst (.int 4))) (.cons (.idx (.var 5) (.cst (.int 5))) (.cons (.idx (.var 5) (.cst (.int 6))) .nil))))) .nil)))
    .nil)
    .nil)
    .nil)
    .nil)
    .nil))
    (.cons (.ret (.bi .tuple (.cons (.var 3) .nil)))
    .nil)))
def WfS (L : List Ent) : Prop := ∀ e ∈ L, PyData.strOk e.2.giver = true
def boD : Option Bool → D
  | none => .non
  | some b => .bl b
theorem cut3a {a b c d : D} : cutL [a, b, c, d] none (some 3) = [a, b, c] := rfl
theorem cut3b {a b c d e f g : D} : cutL [a, b, c, d, e, f, g] none (some 3) = [a, b, c] := rfl
theorem sh3 {a b : Str} {i : Int} (ha : PyData.strOk a = true) (hb : PyData.strOk b = true) : SeqAt.shaped (.tuple [.str a, .str b, .int i]) = true := by
  simp only [SeqAt.shaped, PyData.canLay0, PyData.canLayAll0, ha, hb, Bool.and_self, Bool.true_and]
  rfl
theorem ok_word : PyData.strOk "word" = true := by decide +kernel
theorem ok_end : PyData.strOk "end" = true := by decide +kernel
theorem eqv3 {a b c d : Str} {i j : Int} : PyData.eqv (.tuple [.str a, .str b, .int i]) (.tuple [.str c, .str d, .int j]) = (decide (a = c) && (decide (b = d) && decide (i = j))) := by
  simp only [PyData.eqv, PyData.eqvAll, Bool.and_true]
  rfl
theorem eq3 {QD : D → Store → Prop} {st : Store} {a b c d : Str} {i j : Int} (ha : PyData.strOk a = true) (hb : PyData.strOk b = true) (hc : PyData.strOk c = true) (hd : PyData.strOk d = true) : wp (cmpD .Eq (.tup [.str a, .str b, .int i]) (.tup [.str c, .str d, .int j])) QD st ↔ QD (.bl (decide (a = c) && (decide (b = d) && decide (i = j)))) st := by
  rw [x_eqP (p := .tuple [.str a, .str b, .int i]) (q := .tuple [.str c, .str d, .int j]) rfl rfl rfl (sh3 ha hb) (sh3 hc hd), eqv3]
abbrev logT (L : List Ent) : D := .tup (L.map entD)
theorem head_findSome {L : List Ent} {g : Str} {d e : Int} : fstEnd (cutE L e) g d = ((L.filter fun a => decide (a.1 < e) && (endAt g d a).isSome).map fun a => (endAt g d a).getD false).head? := by
  unfold fstEnd cutE
  induction L with
  | nil => rfl
  | cons a L ih =>
    by_cases h1 : a.1 < e
    · cases h2 : endAt g d a with
      | some b => simp [List.filter_cons, h1, h2]
      | none => simp [List.filter_cons, h1, h2]; simpa using ih
    · simp [List.filter_cons, h1]; simpa using ih
theorem atI_head {α : Type} {x : α} {xs : List α} : atI (x :: xs) 0 = some x := by
  unfold atI ixN
  rw [if_pos (by decide), if_pos (by simp only [List.length_cons]; omega)]
  rfl
theorem lfe_wp {C : Cts} {L : List Ent} {e d : Int} {g : Str} {st : Store} {QD : D → Store → Prop} (hw : WfS L) (hg : PyData.strOk g = true) (hl : L.length < bigN) (q : ∀ s, st <+: s → QD (boD (fstEnd (cutE L e) g d)) s) :
    wp (callDef C 7 lfe_b [logT L, .int e, .str g, .int d]) QD st := by
  unfold lfe_b
  simp only [wp_callDef, wp_cons, wp_nil, wp_asg, wp_expr, wp_retS, wp_retN, wp_iteS, wp_pass, wp_brk, wp_cont, wp_setIx, wp_augX, wp_asgT, wp_for, wp_varX, wp_cst, wp_bin, wp_cmp, wp_cmpT, wp_chainT, wp_andT, wp_orT, wp_notT, wp_iteE, wp_idx, wp_sl, wp_call, wp_bi, wp_tup, wp_lst, wp_dict0, wp_meth, wp_lc, wp_evs_nil, wp_evs_cons, wp_evo_none, wp_evo_some, wp_seq, wp_enum, wp_rng1, wp_rng2, wp_idxT, wp_varT, wp_callT, wp_biT, x_truB, tsto_none, tsto_some,
  seqQ_nx, seqQ_ret, seqQ_bk, seqQ_ct, endQ_ret, endQ_nx, varQ_some, lstQ_some, dctQ_some, optQ_some, blQ_bl, inQ_int, rgQ_int, rg2Q_int,
  x_eqSS, x_eqII, x_neSS, x_neII, str_we, str_ew, decide_true, decide_false, if_true, if_false, Bool.false_eq_true, reduceIte, x_addI, x_addT, x_addS, x_addL, x_subI, x_mulI, x_divI, x_modI, x_powI, x_ltI, x_leI, x_gtI, x_geI, x_is, x_isnot, x_isB, x_isNB, x_ixT, x_ixF, x_abs, x_lenT, x_lenF, x_intI, x_intB, x_max2, x_min2, x_seqT, x_seqF, x_slT, x_slF,
  List.map_cons, List.map_nil, List.length_cons, List.length_nil, List.cons_append, List.nil_append, List.replicate_succ, List.replicate_zero, Nat.reduceSub, Nat.reduceAdd, List.set_cons_zero, List.set_cons_succ, List.getElem?_cons_zero, List.getElem?_cons_succ, Nat.add_zero, Nat.zero_add, Nat.sub_self, decide_eq_true_eq]
  have key := wp_loopC_map (st := st) (gd := none) (f := compF (.tup [5, 6]) [5, 6] [some (logT L), some (.int e), some (.str g), some (.int d), none, none, none] (tsto C (.some (.and (.cmp .Lt (.var 5) (.var 1)) (.cmp .Eq (.sl (.var 6) .none (.some (.cst (.int 3)))) (.tup (.cons (.cst (.str "end")) (.cons (.var 2) (.cons (.var 3) .nil)))))))) (bo C (.idx (.var 6) (.cst (.int 3)))).1) entD (fun a => .bl ((endAt g d a).getD false)) (fun a => decide (a.1 < e) && (endAt g d a).isSome) rfl L (fun a ha => by
    obtain ⟨p, r⟩ := a
    rw [wp_compF (env1 := [some (logT L), some (.int e), some (.str g), some (.int d), none, some (.int p), some (recD r)]) rfl]
    have hs := hw (p, r) ha
    cases r with
    | word g' n dl k t tm =>
      have hs' : PyData.strOk g' = true := hs
      unfold recD
      simp only [wp_callDef, wp_cons, wp_nil, wp_asg, wp_expr, wp_retS, wp_retN, wp_iteS, wp_pass, wp_brk, wp_cont, wp_setIx, wp_augX, wp_asgT, wp_for, wp_varX, wp_cst, wp_bin, wp_cmp, wp_cmpT, wp_chainT, wp_andT, wp_orT, wp_notT, wp_iteE, wp_idx, wp_sl, wp_call, wp_bi, wp_tup, wp_lst, wp_dict0, wp_meth, wp_lc, wp_evs_nil, wp_evs_cons, wp_evo_none, wp_evo_some, wp_seq, wp_enum, wp_rng1, wp_rng2, wp_idxT, wp_varT, wp_callT, wp_biT, x_truB, tsto_none, tsto_some,
  seqQ_nx, seqQ_ret, seqQ_bk, seqQ_ct, endQ_ret, endQ_nx, varQ_some, lstQ_some, dctQ_some, optQ_some, blQ_bl, inQ_int, rgQ_int, rg2Q_int,
  x_eqSS, x_eqII, x_neSS, x_neII, str_we, str_ew, decide_true, decide_false, if_true, if_false, Bool.false_eq_true, reduceIte, x_addI, x_addT, x_addS, x_addL, x_subI, x_mulI, x_divI, x_modI, x_powI, x_ltI, x_leI, x_gtI, x_geI, x_is, x_isnot, x_isB, x_isNB, x_ixT, x_ixF, x_abs, x_lenT, x_lenF, x_intI, x_intB, x_max2, x_min2, x_seqT, x_seqF, x_slT, x_slF,
  List.map_cons, List.map_nil, List.length_cons, List.length_nil, List.cons_append, List.nil_append, List.replicate_succ, List.replicate_zero, Nat.reduceSub, Nat.reduceAdd, List.set_cons_zero, List.set_cons_succ, List.getElem?_cons_zero, List.getElem?_cons_succ, Nat.add_zero, Nat.zero_add, Nat.sub_self, decide_eq_true_eq, at7, cut3b, eq3 ok_word hs' ok_end hg]
      by_cases h : p < e
      · simp [h, eq3 ok_word hs' ok_end hg, blQ_bl, str_we, endAt, bigN]
      · simp [h]
    | fin g' d' b =>
      have hs' : PyData.strOk g' = true := hs
      unfold recD
      simp only [wp_callDef, wp_cons, wp_nil, wp_asg, wp_expr, wp_retS, wp_retN, wp_iteS, wp_pass, wp_brk, wp_cont, wp_setIx, wp_augX, wp_asgT, wp_for, wp_varX, wp_cst, wp_bin, wp_cmp, wp_cmpT, wp_chainT, wp_andT, wp_orT, wp_notT, wp_iteE, wp_idx, wp_sl, wp_call, wp_bi, wp_tup, wp_lst, wp_dict0, wp_meth, wp_lc, wp_evs_nil, wp_evs_cons, wp_evo_none, wp_evo_some, wp_seq, wp_enum, wp_rng1, wp_rng2, wp_idxT, wp_varT, wp_callT, wp_biT, x_truB, tsto_none, tsto_some,
  seqQ_nx, seqQ_ret, seqQ_bk, seqQ_ct, endQ_ret, endQ_nx, varQ_some, lstQ_some, dctQ_some, optQ_some, blQ_bl, inQ_int, rgQ_int, rg2Q_int,
  x_eqSS, x_eqII, x_neSS, x_neII, str_we, str_ew, decide_true, decide_false, if_true, if_false, Bool.false_eq_true, reduceIte, x_addI, x_addT, x_addS, x_addL, x_subI, x_mulI, x_divI, x_modI, x_powI, x_ltI, x_leI, x_gtI, x_geI, x_is, x_isnot, x_isB, x_isNB, x_ixT, x_ixF, x_abs, x_lenT, x_lenF, x_intI, x_intB, x_max2, x_min2, x_seqT, x_seqF, x_slT, x_slF,
  List.map_cons, List.map_nil, List.length_cons, List.length_nil, List.cons_append, List.nil_append, List.replicate_succ, List.replicate_zero, Nat.reduceSub, Nat.reduceAdd, List.set_cons_zero, List.set_cons_succ, List.getElem?_cons_zero, List.getElem?_cons_succ, Nat.add_zero, Nat.zero_add, Nat.sub_self, decide_eq_true_eq, at4, cut3a, eq3 ok_end hs' ok_end hg]
      by_cases h : p < e
      · by_cases h2 : g' = g ∧ d' = d
        · simp [h, h2, eq3 ok_end hg ok_end hg, blQ_bl, endAt, bigN]
        · simp [h, h2, eq3 ok_end hs' ok_end hg, blQ_bl, endAt, bigN]
      · simp [h])
  refine wp_mono key fun ds s ⟨h1, h2⟩ => ?_
  subst h1 h2
  have hlen : ((L.filter fun a => decide (a.1 < e) && (endAt g d a).isSome).map fun a => D.bl ((endAt g d a).getD false)).length ≤ L.length := by rw [List.length_map]; exact List.length_filter_le _ _
  refine ⟨by omega, by decide, ?_⟩
  have hh := head_findSome (L := L) (g := g) (d := d) (e := e)
  generalize hX : (L.filter fun a => decide (a.1 < e) && (endAt g d a).isSome) = X at hh hlen ⊢
  have i1 : (s ++ [Ob.lst (X.map fun a => D.bl ((endAt g d a).getD false))] ++ [Ob.lst [D.non]])[s.length]? = some (.lst (X.map fun a => D.bl ((endAt g d a).getD false))) := by simp
  have i2 : (s ++ [Ob.lst (X.map fun a => D.bl ((endAt g d a).getD false))] ++ [Ob.lst [D.non]])[(s ++ [Ob.lst (X.map fun a => D.bl ((endAt g d a).getD false))]).length]? = some (.lst [D.non]) := by simp
  rw [i1, i2]
  simp only [lstQ_some]
  refine ⟨by simp only [List.length_cons, List.length_nil]; omega, ?_⟩
  rw [x_ixL (xs := X.map (fun a => D.bl ((endAt g d a).getD false)) ++ [D.non]) (by simp)]
  have := q (s ++ [Ob.lst (X.map fun a => D.bl ((endAt g d a).getD false))] ++ [Ob.lst [D.non]] ++ [Ob.lst (X.map (fun a => D.bl ((endAt g d a).getD false)) ++ [D.non])]) ⟨[Ob.lst (X.map fun a => D.bl ((endAt g d a).getD false)), Ob.lst [D.non], Ob.lst (X.map (fun a => D.bl ((endAt g d a).getD false)) ++ [D.non])], by simp⟩
  rw [hh] at this
  cases X with
  | nil => exact this
  | cons a X =>
    rw [List.map_cons, List.cons_append, atI_head]
    exact this
theorem intsOf_map : ∀ l : List Int, intsOf (l.map D.int) = some l
  | [] => rfl
  | i :: l => by simp only [List.map_cons, intsOf, intsOf_map l]
theorem x_minL {QD : D → Store → Prop} {st : Store} {j : Nat} {i : Int} {l : List Int} (h : st[j]? = some (.lst ((i :: l).map D.int))) : wp (biD .min [.ob j]) QD st ↔ QD (.int (minI i l)) st :=
  wp_ok (by simp only [biD, itemsL, h, intsOf_map])
theorem minI_eq {m : Int} : ∀ {l : List Int}, (∀ x ∈ l, m ≤ x) → minI m l = m
  | [], _ => rfl
  | x :: l, h => by
    have h1 : m ≤ x := h x List.mem_cons_self
    unfold minI
    rw [if_neg (by omega)]
    exact minI_eq fun y hy => h y (List.mem_cons_of_mem _ hy)
/-- the first open word, or the end, is the least of all -/
theorem settled_min {L : List Ent} {e : Int} (hs : Srt L) : ∃ i l, ((L.filter fun a => decide (a.1 < e) && openW (fstEnd (cutE L e)) a).map (·.1) ++ [e]) = i :: l ∧ minI i l = settledM L e := by
  have hf : (L.filter fun a => decide (a.1 < e) && openW (fstEnd (cutE L e)) a) = (cutE L e).filter (openW (fstEnd (cutE L e))) := by
    unfold cutE
    rw [List.filter_filter]
    congr 1
    funext a
    exact Bool.and_comm _ _
  rw [hf]
  unfold settledM stopM
  rw [← List.head?_filter]
  have hlt : ∀ a ∈ (cutE L e).filter (openW (fstEnd (cutE L e))), a.1 < e := fun a ha => of_decide_eq_true (List.mem_filter.mp (List.mem_filter.mp ha).1).2
  have hsr : Srt ((cutE L e).filter (openW (fstEnd (cutE L e)))) := List.Pairwise.sublist List.filter_sublist (hs.cut e)
  generalize (cutE L e).filter (openW (fstEnd (cutE L e))) = X at hlt hsr
  cases X with
  | nil => exact ⟨e, [], rfl, rfl⟩
  | cons a X =>
    refine ⟨a.1, X.map (·.1) ++ [e], rfl, ?_⟩
    refine minI_eq fun x hx => ?_
    rcases List.mem_append.mp hx with hx | hx
    · obtain ⟨b, hb, rfl⟩ := List.mem_map.mp hx
      have := (List.pairwise_cons.mp hsr).1 b hb
      omega
    · rw [List.mem_singleton.mp hx]
      have := hlt a List.mem_cons_self
      omega
theorem lset_wp {C : Cts} (RC : ∃ C', C.fn "_law_first_end" = callDef C' 7 lfe_b) {L : List Ent} {e : Int} {st : Store} {QD : D → Store → Prop} (hw : WfS L) (hs : Srt L) (hl : L.length < bigN) (q : ∀ s, st <+: s → QD (.int (settledM L e)) s) :
    wp (callDef C 5 lset_b [logT L, .int e]) QD st := by
  obtain ⟨C1, b1⟩ := RC
  unfold lset_b
  rw [wp_callDef]
  simp only [wp_cons, wp_nil, wp_asg, wp_expr, wp_retS, wp_retN, wp_iteS, wp_pass, wp_brk, wp_cont, wp_setIx, wp_augX, wp_asgT, wp_for, wp_varX, wp_cst, wp_bin, wp_cmp, wp_cmpT, wp_chainT, wp_andT, wp_orT, wp_notT, wp_iteE, wp_idx, wp_sl, wp_call, wp_bi, wp_tup, wp_lst, wp_dict0, wp_meth, wp_lc, wp_evs_nil, wp_evs_cons, wp_evo_none, wp_evo_some, wp_seq, wp_enum, wp_rng1, wp_rng2, wp_idxT, wp_varT, wp_callT, wp_biT, x_truB, tsto_none, tsto_some,
  seqQ_nx, seqQ_ret, seqQ_bk, seqQ_ct, endQ_ret, endQ_nx, varQ_some, lstQ_some, dctQ_some, optQ_some, blQ_bl, inQ_int, rgQ_int, rg2Q_int,
  x_eqSS, x_eqII, x_neSS, x_neII, str_we, str_ew, decide_true, decide_false, if_true, if_false, Bool.false_eq_true, reduceIte, x_addI, x_addT, x_addS, x_addL, x_subI, x_mulI, x_divI, x_modI, x_powI, x_ltI, x_leI, x_gtI, x_geI, x_is, x_isnot, x_isB, x_isNB, x_ixT, x_ixF, x_abs, x_lenT, x_lenF, x_intI, x_intB, x_max2, x_min2, x_seqT, x_seqF, x_slT, x_slF,
  List.map_cons, List.map_nil, List.length_cons, List.length_nil, List.cons_append, List.nil_append, List.replicate_succ, List.replicate_zero, Nat.reduceSub, Nat.reduceAdd, List.set_cons_zero, List.set_cons_succ, List.getElem?_cons_zero, List.getElem?_cons_succ, Nat.add_zero, Nat.zero_add, Nat.sub_self, decide_eq_true_eq]
  have key := wp_loopC_mapG (st := st) (gd := none) (f := compF (.tup [3, 4]) [3, 4] [some (logT L), some (.int e), none, none, none] (tsto C (.some (.and (.cmp .Eq (.idx (.var 4) (.cst (.int 0))) (.cst (.str "word"))) (.and (.cmp .Lt (.var 3) (.var 1)) (.and (.cmp .IsNot (.idx (.var 4) (.cst (.int 3))) (.cst .non)) (.cmp .Is (.call "_law_first_end" (.cons (.var 0) (.cons (.var 1) (.cons (.idx (.var 4) (.cst (.int 1))) (.cons (.idx (.var 4) (.cst (.int 3))) .nil))))) (.cst .non))))))) (bo C (.var 3)).1) entD (fun a => .int a.1) (fun a => decide (a.1 < e) && openW (fstEnd (cutE L e)) a) rfl L st (List.prefix_refl _) (fun a ha s hp => by
    obtain ⟨p, r⟩ := a
    rw [wp_compF (env1 := [some (logT L), some (.int e), none, some (.int p), some (recD r)]) rfl]
    have hs' := hw (p, r) ha
    cases r with
    | word g n dl k t tm =>
      cases dl with
      | none =>
        unfold recD optD
        simp only [wp_cons, wp_nil, wp_asg, wp_expr, wp_retS, wp_retN, wp_iteS, wp_pass, wp_brk, wp_cont, wp_setIx, wp_augX, wp_asgT, wp_for, wp_varX, wp_cst, wp_bin, wp_cmp, wp_cmpT, wp_chainT, wp_andT, wp_orT, wp_notT, wp_iteE, wp_idx, wp_sl, wp_call, wp_bi, wp_tup, wp_lst, wp_dict0, wp_meth, wp_lc, wp_evs_nil, wp_evs_cons, wp_evo_none, wp_evo_some, wp_seq, wp_enum, wp_rng1, wp_rng2, wp_idxT, wp_varT, wp_callT, wp_biT, x_truB, tsto_none, tsto_some,
  seqQ_nx, seqQ_ret, seqQ_bk, seqQ_ct, endQ_ret, endQ_nx, varQ_some, lstQ_some, dctQ_some, optQ_some, blQ_bl, inQ_int, rgQ_int, rg2Q_int,
  x_eqSS, x_eqII, x_neSS, x_neII, str_we, str_ew, decide_true, decide_false, if_true, if_false, Bool.false_eq_true, reduceIte, x_addI, x_addT, x_addS, x_addL, x_subI, x_mulI, x_divI, x_modI, x_powI, x_ltI, x_leI, x_gtI, x_geI, x_is, x_isnot, x_isB, x_isNB, x_ixT, x_ixF, x_abs, x_lenT, x_lenF, x_intI, x_intB, x_max2, x_min2, x_seqT, x_seqF, x_slT, x_slF,
  List.map_cons, List.map_nil, List.length_cons, List.length_nil, List.cons_append, List.nil_append, List.replicate_succ, List.replicate_zero, Nat.reduceSub, Nat.reduceAdd, List.set_cons_zero, List.set_cons_succ, List.getElem?_cons_zero, List.getElem?_cons_succ, Nat.add_zero, Nat.zero_add, Nat.sub_self, decide_eq_true_eq, at7]
        by_cases h : p < e
        · simp [h, blQ_bl, openW, x_isnot]
        · simp [h, openW]
      | some d =>
        unfold recD optD
        simp only [wp_cons, wp_nil, wp_asg, wp_expr, wp_retS, wp_retN, wp_iteS, wp_pass, wp_brk, wp_cont, wp_setIx, wp_augX, wp_asgT, wp_for, wp_varX, wp_cst, wp_bin, wp_cmp, wp_cmpT, wp_chainT, wp_andT, wp_orT, wp_notT, wp_iteE, wp_idx, wp_sl, wp_call, wp_bi, wp_tup, wp_lst, wp_dict0, wp_meth, wp_lc, wp_evs_nil, wp_evs_cons, wp_evo_none, wp_evo_some, wp_seq, wp_enum, wp_rng1, wp_rng2, wp_idxT, wp_varT, wp_callT, wp_biT, x_truB, tsto_none, tsto_some,
  seqQ_nx, seqQ_ret, seqQ_bk, seqQ_ct, endQ_ret, endQ_nx, varQ_some, lstQ_some, dctQ_some, optQ_some, blQ_bl, inQ_int, rgQ_int, rg2Q_int,
  x_eqSS, x_eqII, x_neSS, x_neII, str_we, str_ew, decide_true, decide_false, if_true, if_false, Bool.false_eq_true, reduceIte, x_addI, x_addT, x_addS, x_addL, x_subI, x_mulI, x_divI, x_modI, x_powI, x_ltI, x_leI, x_gtI, x_geI, x_is, x_isnot, x_isB, x_isNB, x_ixT, x_ixF, x_abs, x_lenT, x_lenF, x_intI, x_intB, x_max2, x_min2, x_seqT, x_seqF, x_slT, x_slF,
  List.map_cons, List.map_nil, List.length_cons, List.length_nil, List.cons_append, List.nil_append, List.replicate_succ, List.replicate_zero, Nat.reduceSub, Nat.reduceAdd, List.set_cons_zero, List.set_cons_succ, List.getElem?_cons_zero, List.getElem?_cons_succ, Nat.add_zero, Nat.zero_add, Nat.sub_self, decide_eq_true_eq, at7, b1]
        by_cases h : p < e
        · simp only [h, if_true, decide_true, Bool.true_and]
          refine lfe_wp hw hs' hl fun s1 p1 => ?_
          cases hf : fstEnd (cutE L e) g d with
          | none => simp [boD, openW, hf, wp_varX, varQ_some, p1]
          | some b => simp [boD, openW, hf, wp_varX, varQ_some, p1]
        · simp [h]
    | fin g d b =>
      unfold recD
      simp only [wp_cons, wp_nil, wp_asg, wp_expr, wp_retS, wp_retN, wp_iteS, wp_pass, wp_brk, wp_cont, wp_setIx, wp_augX, wp_asgT, wp_for, wp_varX, wp_cst, wp_bin, wp_cmp, wp_cmpT, wp_chainT, wp_andT, wp_orT, wp_notT, wp_iteE, wp_idx, wp_sl, wp_call, wp_bi, wp_tup, wp_lst, wp_dict0, wp_meth, wp_lc, wp_evs_nil, wp_evs_cons, wp_evo_none, wp_evo_some, wp_seq, wp_enum, wp_rng1, wp_rng2, wp_idxT, wp_varT, wp_callT, wp_biT, x_truB, tsto_none, tsto_some,
  seqQ_nx, seqQ_ret, seqQ_bk, seqQ_ct, endQ_ret, endQ_nx, varQ_some, lstQ_some, dctQ_some, optQ_some, blQ_bl, inQ_int, rgQ_int, rg2Q_int,
  x_eqSS, x_eqII, x_neSS, x_neII, str_we, str_ew, decide_true, decide_false, if_true, if_false, Bool.false_eq_true, reduceIte, x_addI, x_addT, x_addS, x_addL, x_subI, x_mulI, x_divI, x_modI, x_powI, x_ltI, x_leI, x_gtI, x_geI, x_is, x_isnot, x_isB, x_isNB, x_ixT, x_ixF, x_abs, x_lenT, x_lenF, x_intI, x_intB, x_max2, x_min2, x_seqT, x_seqF, x_slT, x_slF,
  List.map_cons, List.map_nil, List.length_cons, List.length_nil, List.cons_append, List.nil_append, List.replicate_succ, List.replicate_zero, Nat.reduceSub, Nat.reduceAdd, List.set_cons_zero, List.set_cons_succ, List.getElem?_cons_zero, List.getElem?_cons_succ, Nat.add_zero, Nat.zero_add, Nat.sub_self, decide_eq_true_eq, at4]
      simp [openW])
  refine wp_mono key fun ds s ⟨h1, h2⟩ => ?_
  subst h1
  have hlen : ((L.filter fun a => decide (a.1 < e) && openW (fstEnd (cutE L e)) a).map fun a => D.int a.1).length ≤ L.length := by rw [List.length_map]; exact List.length_filter_le _ _
  obtain ⟨i, l, hil, hmin⟩ := settled_min (e := e) hs
  refine ⟨by omega, by decide, ?_⟩
  generalize hX : (L.filter fun a => decide (a.1 < e) && openW (fstEnd (cutE L e)) a) = X at hil hlen ⊢
  have i1 : (s ++ [Ob.lst (X.map fun a => D.int a.1)] ++ [Ob.lst [D.int e]])[s.length]? = some (.lst (X.map fun a => D.int a.1)) := by simp
  have i2 : (s ++ [Ob.lst (X.map fun a => D.int a.1)] ++ [Ob.lst [D.int e]])[(s ++ [Ob.lst (X.map fun a => D.int a.1)]).length]? = some (.lst [D.int e]) := by simp
  rw [i1, i2]
  simp only [lstQ_some]
  refine ⟨by simp only [List.length_cons, List.length_nil]; omega, ?_⟩
  have e1 : X.map (fun a => D.int a.1) ++ [D.int e] = (i :: l).map D.int := by rw [← hil]; simp
  rw [e1, x_minL (i := i) (l := l) (by simp), hmin]
  exact q _ (h2.trans ⟨[Ob.lst (X.map fun a => D.int a.1), Ob.lst [D.int e], Ob.lst ((i :: l).map D.int)], by simp⟩)
theorem Kp.setNew {st s : Store} {j : Nat} {o : Ob} (h : Kp [] st s) (hj : st.length ≤ j) : Kp [] st (s.set j o) := by
  refine ⟨by rw [List.length_set]; exact h.len, fun k o' n e => ?_⟩
  have : k < st.length := (List.getElem?_eq_some_iff.mp e).1
  rw [List.getElem?_set_ne (by omega)]
  exact h.at' k o' n e
theorem settled_le {L : List Ent} {e : Int} : settledM L e ≤ e := by
  unfold settledM stopM
  cases h : (cutE L e).find? (openW (fstEnd (cutE L e))) with
  | none => exact Int.le_refl e
  | some a =>
    have := List.mem_of_find?_eq_some h
    have := of_decide_eq_true (List.mem_filter.mp this).2
    exact Int.le_of_lt this
theorem visM_eq {L : List Ent} {e : Int} : visM L e = L.filterMap fun a => if a.1 < settledM L e then visOf (fstEnd (cutE L e)) a else none := by
  unfold visM
  have hle := settled_le (L := L) (e := e)
  generalize settledM L e = S at *
  generalize visOf (fstEnd (cutE L e)) = V
  unfold cutE
  rw [List.filter_filter, List.filterMap_filter]
  congr 1
  funext a
  by_cases h : a.1 < S
  · have : a.1 < e := by omega
    simp [ltE, h, this]
  · simp [ltE, h]
theorem lvis_wp {C : Cts} (RC : ∃ C', C.fn "_law_first_end" = callDef C' 7 lfe_b) (RS : ∃ C', C.fn "_law_settled" = callDef C' 5 lset_b ∧ ∃ C2, C'.fn "_law_first_end" = callDef C2 7 lfe_b) {L : List Ent} {e : Int} {st : Store} {QD : D → Store → Prop} (hw : WfS L) (hs : Srt L) (hl : L.length < bigN) (q : ∀ s, Kp [] st s → QD (.tup ((visM L e).map visD)) s) :
    wp (callDef C 6 lvis_b [logT L, .int e]) QD st := by
  obtain ⟨C1, b1⟩ := RC
  obtain ⟨C2, b2, RC2⟩ := RS
  unfold lvis_b
  rw [wp_callDef]
  simp only [wp_cons, wp_nil, wp_asg, wp_expr, wp_retS, wp_retN, wp_iteS, wp_pass, wp_brk, wp_cont, wp_setIx, wp_augX, wp_asgT, wp_for, wp_varX, wp_cst, wp_bin, wp_cmp, wp_cmpT, wp_chainT, wp_andT, wp_orT, wp_notT, wp_iteE, wp_idx, wp_sl, wp_call, wp_bi, wp_tup, wp_lst, wp_dict0, wp_meth, wp_lc, wp_evs_nil, wp_evs_cons, wp_evo_none, wp_evo_some, wp_seq, wp_enum, wp_rng1, wp_rng2, wp_idxT, wp_varT, wp_callT, wp_biT, x_truB, tsto_none, tsto_some,
  seqQ_nx, seqQ_ret, seqQ_bk, seqQ_ct, endQ_ret, endQ_nx, varQ_some, lstQ_some, dctQ_some, optQ_some, blQ_bl, inQ_int, rgQ_int, rg2Q_int,
  x_eqSS, x_eqII, x_neSS, x_neII, str_we, str_ew, decide_true, decide_false, if_true, if_false, Bool.false_eq_true, reduceIte, x_addI, x_addT, x_addS, x_addL, x_subI, x_mulI, x_divI, x_modI, x_powI, x_ltI, x_leI, x_gtI, x_geI, x_is, x_isnot, x_isB, x_isNB, x_ixT, x_ixF, x_abs, x_lenT, x_lenF, x_intI, x_intB, x_max2, x_min2, x_seqT, x_seqF, x_slT, x_slF,
  List.map_cons, List.map_nil, List.length_cons, List.length_nil, List.cons_append, List.nil_append, List.replicate_succ, List.replicate_zero, Nat.reduceSub, Nat.reduceAdd, List.set_cons_zero, List.set_cons_succ, List.getElem?_cons_zero, List.getElem?_cons_succ, Nat.add_zero, Nat.zero_add, Nat.sub_self, decide_eq_true_eq, b2]
  refine lset_wp RC2 hw hs hl fun s0 p0 => ?_
  refine ⟨by decide, by decide, [some (logT L), some (.int e), some (.int (settledM L e)), some (.ob s0.length), none, none], rfl, ?_⟩
  simp only [wp_cons, wp_nil, wp_asg, wp_expr, wp_retS, wp_retN, wp_iteS, wp_pass, wp_brk, wp_cont, wp_setIx, wp_augX, wp_asgT, wp_for, wp_varX, wp_cst, wp_bin, wp_cmp, wp_cmpT, wp_chainT, wp_andT, wp_orT, wp_notT, wp_iteE, wp_idx, wp_sl, wp_call, wp_bi, wp_tup, wp_lst, wp_dict0, wp_meth, wp_lc, wp_evs_nil, wp_evs_cons, wp_evo_none, wp_evo_some, wp_seq, wp_enum, wp_rng1, wp_rng2, wp_idxT, wp_varT, wp_callT, wp_biT, x_truB, tsto_none, tsto_some,
  seqQ_nx, seqQ_ret, seqQ_bk, seqQ_ct, endQ_ret, endQ_nx, varQ_some, lstQ_some, dctQ_some, optQ_some, blQ_bl, inQ_int, rgQ_int, rg2Q_int,
  x_eqSS, x_eqII, x_neSS, x_neII, str_we, str_ew, decide_true, decide_false, if_true, if_false, Bool.false_eq_true, reduceIte, x_addI, x_addT, x_addS, x_addL, x_subI, x_mulI, x_divI, x_modI, x_powI, x_ltI, x_leI, x_gtI, x_geI, x_is, x_isnot, x_isB, x_isNB, x_ixT, x_ixF, x_abs, x_lenT, x_lenF, x_intI, x_intB, x_max2, x_min2, x_seqT, x_seqF, x_slT, x_slF,
  List.map_cons, List.map_nil, List.length_cons, List.length_nil, List.cons_append, List.nil_append, List.replicate_succ, List.replicate_zero, Nat.reduceSub, Nat.reduceAdd, List.set_cons_zero, List.set_cons_succ, List.getElem?_cons_zero, List.getElem?_cons_succ, Nat.add_zero, Nat.zero_add, Nat.sub_self, decide_eq_true_eq]
  rw [visM_eq] at q
  refine wp_loopF_map (gd := none) entD L (fun P env s => ∃ e4 e5, env = [some (logT L), some (.int e), some (.int (settledM L e)), some (.ob s0.length), e4, e5] ∧ Kp [] st s ∧ s[s0.length]? = some (.lst ((P.filterMap fun a => if a.1 < settledM L e then visOf (fstEnd (cutE L e)) a else none).map visD))) ?_ ?_ ⟨none, none, rfl, (Kp.pre p0 []).trans (Kp.app _ _ _), by simp⟩
  · rintro P ⟨p, r⟩ R env s hL ⟨e4, e5, rfl, hk, hf⟩
    refine ⟨rfl, ?_⟩
    have hPl : (P.filterMap fun a => if a.1 < settledM L e then visOf (fstEnd (cutE L e)) a else none).length ≤ P.length := List.length_filterMap_le _ _
    have hPL : P.length ≤ L.length := by rw [hL]; simp
    have hs0 : st.length ≤ s0.length := p0.length_le
    have hs' := hw (p, r) (by rw [hL]; simp)
    have snoc : ∀ o, (if p < settledM L e then visOf (fstEnd (cutE L e)) (p, r) else none) = o → (P ++ [(p, r)]).filterMap (fun a => if a.1 < settledM L e then visOf (fstEnd (cutE L e)) a else none) = P.filterMap (fun a => if a.1 < settledM L e then visOf (fstEnd (cutE L e)) a else none) ++ o.toList := by
      intro o ho
      rw [List.filterMap_append, ← ho]
      cases h0 : (if p < settledM L e then visOf (fstEnd (cutE L e)) (p, r) else none) <;> simp [h0]
    rw [wp_forF (env1 := [some (logT L), some (.int e), some (.int (settledM L e)), some (.ob s0.length), some (.int p), some (recD r)]) rfl]
    have same : (if p < settledM L e then visOf (fstEnd (cutE L e)) (p, r) else none) = none → ∀ s1, Kp [] st s1 → s1[s0.length]? = some (.lst ((P.filterMap fun a => if a.1 < settledM L e then visOf (fstEnd (cutE L e)) a else none).map visD)) → ∃ e4 e5, [some (logT L), some (D.int e), some (.int (settledM L e)), some (.ob s0.length), some (.int p), some (recD r)] = [some (logT L), some (.int e), some (.int (settledM L e)), some (.ob s0.length), e4, e5] ∧ Kp [] st s1 ∧ s1[s0.length]? = some (.lst (((P ++ [(p, r)]).filterMap fun a => if a.1 < settledM L e then visOf (fstEnd (cutE L e)) a else none).map visD)) := by
      intro h0 s1 k1 h1
      refine ⟨_, _, rfl, k1, ?_⟩
      rw [snoc _ h0, h1]; simp
    have add : ∀ v, (if p < settledM L e then visOf (fstEnd (cutE L e)) (p, r) else none) = some v → ∀ s1, Kp [] st s1 → s1[s0.length]? = some (.lst ((P.filterMap fun a => if a.1 < settledM L e then visOf (fstEnd (cutE L e)) a else none).map visD)) → ∃ T, tyD s1 (.ob s0.length) = some T ∧ 4 ≤ bigN ∧ wp (meD .append T (.ob s0.length) [visD v]) (fun _ s2 => ∃ e4 e5, [some (logT L), some (D.int e), some (.int (settledM L e)), some (.ob s0.length), some (.int p), some (recD r)] = [some (logT L), some (.int e), some (.int (settledM L e)), some (.ob s0.length), e4, e5] ∧ Kp [] st s2 ∧ s2[s0.length]? = some (.lst (((P ++ [(p, r)]).filterMap fun a => if a.1 < settledM L e then visOf (fstEnd (cutE L e)) a else none).map visD))) s1 := by
      intro v h0 s1 k1 h1
      refine ⟨.list, x_tyL h1, by decide, ?_⟩
      rw [x_app h1]
      refine ⟨by rw [List.length_map]; omega, _, _, rfl, k1.setNew hs0, ?_⟩
      have : s0.length < s1.length := (List.getElem?_eq_some_iff.mp h1).1
      rw [snoc _ h0]; simp [this]
    cases r with
    | word g n dl k t tm =>
      cases dl with
      | none =>
        unfold recD optD at same add ⊢
        simp only [wp_cons, wp_nil, wp_asg, wp_expr, wp_retS, wp_retN, wp_iteS, wp_pass, wp_brk, wp_cont, wp_setIx, wp_augX, wp_asgT, wp_for, wp_varX, wp_cst, wp_bin, wp_cmp, wp_cmpT, wp_chainT, wp_andT, wp_orT, wp_notT, wp_iteE, wp_idx, wp_sl, wp_call, wp_bi, wp_tup, wp_lst, wp_dict0, wp_meth, wp_lc, wp_evs_nil, wp_evs_cons, wp_evo_none, wp_evo_some, wp_seq, wp_enum, wp_rng1, wp_rng2, wp_idxT, wp_varT, wp_callT, wp_biT, x_truB, tsto_none, tsto_some,
  seqQ_nx, seqQ_ret, seqQ_bk, seqQ_ct, endQ_ret, endQ_nx, varQ_some, lstQ_some, dctQ_some, optQ_some, blQ_bl, inQ_int, rgQ_int, rg2Q_int,
  x_eqSS, x_eqII, x_neSS, x_neII, str_we, str_ew, decide_true, decide_false, if_true, if_false, Bool.false_eq_true, reduceIte, x_addI, x_addT, x_addS, x_addL, x_subI, x_mulI, x_divI, x_modI, x_powI, x_ltI, x_leI, x_gtI, x_geI, x_is, x_isnot, x_isB, x_isNB, x_ixT, x_ixF, x_abs, x_lenT, x_lenF, x_intI, x_intB, x_max2, x_min2, x_seqT, x_seqF, x_slT, x_slF,
  List.map_cons, List.map_nil, List.length_cons, List.length_nil, List.cons_append, List.nil_append, List.replicate_succ, List.replicate_zero, Nat.reduceSub, Nat.reduceAdd, List.set_cons_zero, List.set_cons_succ, List.getElem?_cons_zero, List.getElem?_cons_succ, Nat.add_zero, Nat.zero_add, Nat.sub_self, decide_eq_true_eq, at7]
        by_cases h : p < settledM L e
        · simp only [if_pos h]
          exact add (p, k, t, tm) (by rw [if_pos h]; rfl) s hk hf
        · simp only [if_neg h]
          exact same (if_neg h) s hk hf
      | some d =>
        unfold recD optD at same add ⊢
        simp only [wp_cons, wp_nil, wp_asg, wp_expr, wp_retS, wp_retN, wp_iteS, wp_pass, wp_brk, wp_cont, wp_setIx, wp_augX, wp_asgT, wp_for, wp_varX, wp_cst, wp_bin, wp_cmp, wp_cmpT, wp_chainT, wp_andT, wp_orT, wp_notT, wp_iteE, wp_idx, wp_sl, wp_call, wp_bi, wp_tup, wp_lst, wp_dict0, wp_meth, wp_lc, wp_evs_nil, wp_evs_cons, wp_evo_none, wp_evo_some, wp_seq, wp_enum, wp_rng1, wp_rng2, wp_idxT, wp_varT, wp_callT, wp_biT, x_truB, tsto_none, tsto_some,
  seqQ_nx, seqQ_ret, seqQ_bk, seqQ_ct, endQ_ret, endQ_nx, varQ_some, lstQ_some, dctQ_some, optQ_some, blQ_bl, inQ_int, rgQ_int, rg2Q_int,
  x_eqSS, x_eqII, x_neSS, x_neII, str_we, str_ew, decide_true, decide_false, if_true, if_false, Bool.false_eq_true, reduceIte, x_addI, x_addT, x_addS, x_addL, x_subI, x_mulI, x_divI, x_modI, x_powI, x_ltI, x_leI, x_gtI, x_geI, x_is, x_isnot, x_isB, x_isNB, x_ixT, x_ixF, x_abs, x_lenT, x_lenF, x_intI, x_intB, x_max2, x_min2, x_seqT, x_seqF, x_slT, x_slF,
  List.map_cons, List.map_nil, List.length_cons, List.length_nil, List.cons_append, List.nil_append, List.replicate_succ, List.replicate_zero, Nat.reduceSub, Nat.reduceAdd, List.set_cons_zero, List.set_cons_succ, List.getElem?_cons_zero, List.getElem?_cons_succ, Nat.add_zero, Nat.zero_add, Nat.sub_self, decide_eq_true_eq, at7, b1]
        by_cases h : p < settledM L e
        · simp only [if_pos h]
          refine lfe_wp hw hs' hl fun s1 p1 => ?_
          have hk1 := hk.trans (Kp.pre p1 [])
          have hf1 := (Kp.pre p1 []).at' _ _ (by simp) hf
          cases hF : fstEnd (cutE L e) g d with
          | none =>
            simp only [boD, x_isNB, blQ_bl]
            exact same (by rw [if_pos h]; simp [visOf, hF]) s1 hk1 hf1
          | some b =>
            simp only [boD, x_isB, blQ_bl]
            cases b with
            | true => exact add (p, k, t, tm) (by rw [if_pos h]; simp [visOf, hF]) s1 hk1 hf1
            | false => exact same (by rw [if_pos h]; simp [visOf, hF]) s1 hk1 hf1
        · simp only [if_neg h]
          exact same (if_neg h) s hk hf
    | fin g d b =>
      unfold recD at same ⊢
      simp only [wp_cons, wp_nil, wp_asg, wp_expr, wp_retS, wp_retN, wp_iteS, wp_pass, wp_brk, wp_cont, wp_setIx, wp_augX, wp_asgT, wp_for, wp_varX, wp_cst, wp_bin, wp_cmp, wp_cmpT, wp_chainT, wp_andT, wp_orT, wp_notT, wp_iteE, wp_idx, wp_sl, wp_call, wp_bi, wp_tup, wp_lst, wp_dict0, wp_meth, wp_lc, wp_evs_nil, wp_evs_cons, wp_evo_none, wp_evo_some, wp_seq, wp_enum, wp_rng1, wp_rng2, wp_idxT, wp_varT, wp_callT, wp_biT, x_truB, tsto_none, tsto_some,
  seqQ_nx, seqQ_ret, seqQ_bk, seqQ_ct, endQ_ret, endQ_nx, varQ_some, lstQ_some, dctQ_some, optQ_some, blQ_bl, inQ_int, rgQ_int, rg2Q_int,
  x_eqSS, x_eqII, x_neSS, x_neII, str_we, str_ew, decide_true, decide_false, if_true, if_false, Bool.false_eq_true, reduceIte, x_addI, x_addT, x_addS, x_addL, x_subI, x_mulI, x_divI, x_modI, x_powI, x_ltI, x_leI, x_gtI, x_geI, x_is, x_isnot, x_isB, x_isNB, x_ixT, x_ixF, x_abs, x_lenT, x_lenF, x_intI, x_intB, x_max2, x_min2, x_seqT, x_seqF, x_slT, x_slF,
  List.map_cons, List.map_nil, List.length_cons, List.length_nil, List.cons_append, List.nil_append, List.replicate_succ, List.replicate_zero, Nat.reduceSub, Nat.reduceAdd, List.set_cons_zero, List.set_cons_succ, List.getElem?_cons_zero, List.getElem?_cons_succ, Nat.add_zero, Nat.zero_add, Nat.sub_self, decide_eq_true_eq, at4]
      exact same (by split <;> rfl) s hk hf
  · rintro env s ⟨e4, e5, rfl, hk, hf⟩
    refine ⟨rfl, ?_⟩
    simp only [wp_cons, wp_nil, wp_asg, wp_expr, wp_retS, wp_retN, wp_iteS, wp_pass, wp_brk, wp_cont, wp_setIx, wp_augX, wp_asgT, wp_for, wp_varX, wp_cst, wp_bin, wp_cmp, wp_cmpT, wp_chainT, wp_andT, wp_orT, wp_notT, wp_iteE, wp_idx, wp_sl, wp_call, wp_bi, wp_tup, wp_lst, wp_dict0, wp_meth, wp_lc, wp_evs_nil, wp_evs_cons, wp_evo_none, wp_evo_some, wp_seq, wp_enum, wp_rng1, wp_rng2, wp_idxT, wp_varT, wp_callT, wp_biT, x_truB, tsto_none, tsto_some,
  seqQ_nx, seqQ_ret, seqQ_bk, seqQ_ct, endQ_ret, endQ_nx, varQ_some, lstQ_some, dctQ_some, optQ_some, blQ_bl, inQ_int, rgQ_int, rg2Q_int,
  x_eqSS, x_eqII, x_neSS, x_neII, str_we, str_ew, decide_true, decide_false, if_true, if_false, Bool.false_eq_true, reduceIte, x_addI, x_addT, x_addS, x_addL, x_subI, x_mulI, x_divI, x_modI, x_powI, x_ltI, x_leI, x_gtI, x_geI, x_is, x_isnot, x_isB, x_isNB, x_ixT, x_ixF, x_abs, x_lenT, x_lenF, x_intI, x_intB, x_max2, x_min2, x_seqT, x_seqF, x_slT, x_slF,
  List.map_cons, List.map_nil, List.length_cons, List.length_nil, List.cons_append, List.nil_append, List.replicate_succ, List.replicate_zero, Nat.reduceSub, Nat.reduceAdd, List.set_cons_zero, List.set_cons_succ, List.getElem?_cons_zero, List.getElem?_cons_succ, Nat.add_zero, Nat.zero_add, Nat.sub_self, decide_eq_true_eq]
    rw [x_tupL hf]
    exact q s hk
end W9

/-! W9P: the logs that the laws make -/
namespace W9
open PySem L2
def part_b : Sms :=
  (.cons (.ret (.bin .Mod (.bi .sum (.cons (.lc [2, 3] (.enum (.var 0)) (.tup [2, 3]) .none (.bin .Mult (.bi .ord (.cons (.var 3) .nil)) (.bin .Add (.var 2) (.cst (.int 1))))) .nil)) (.var 1)))
    .nil)
def keys_b : Sms :=
  (.cons (.asg 2 (.lst (.cons (.cst (.str "a")) (.cons (.cst (.str "b")) (.cons (.cst (.str "c")) (.cons (.cst (.str "d")) (.cons (.cst (.str "ab")) (.cons (.cst (.str "ba")) (.cons (.cst (.str "zz")) (.cons (.cst (.str "end")) (.cons (.cst (.str "word")) (.cons (.cst (.str "mark")) (.cons (.cst (.str "zzzzzz")) (.cons (.cst (.str "abcdef")) (.cons (.cst (.str "book")) (.cons (.cst (.str "none")) .nil))))))))))))))))
    (.cons (.ret (.lc [3] (.seq (.var 2)) (.name 3) (.some (.cmp .Eq (.call "_law_part" (.cons (.var 3) (.cons (.var 1) .nil))) (.var 0))) (.var 3)))
    .nil))
abbrev lotS : List Str := ["a", "b", "c", "d", "ab", "ba", "zz", "end", "word", "mark", "zzzzzz", "abcdef", "book", "none"]
def idxP : Nat → List Nat → List (Nat × Nat)
  | _, [] => []
  | n, c :: r => (n, c) :: idxP (n + 1) r
theorem pairs_idx : ∀ (n : Nat) (cs : List Nat), pairs n (cs.map fun c => D.str ⟨#[c]⟩) = (idxP n cs).map fun p => D.tup [.int (p.1 : Nat), .str ⟨#[p.2]⟩]
  | _, [] => rfl
  | n, c :: r => by simp only [List.map_cons, pairs, idxP, pairs_idx (n + 1) r]
theorem idx_mem : ∀ {n : Nat} {cs : List Nat} {p : Nat × Nat}, p ∈ idxP n cs → p.2 ∈ cs
  | n, c :: r, p, h => by
    rcases List.mem_cons.mp h with e | e
    · rw [e]; exact List.mem_cons_self
    · exact List.mem_cons_of_mem _ (idx_mem e)
theorem idx_len : ∀ (n : Nat) (cs : List Nat), (idxP n cs).length = cs.length
  | _, [] => rfl
  | n, c :: r => by simp only [idxP, List.length_cons, idx_len (n + 1) r]
def partM (z : Str) : Int := ((idxP 0 z.cps.toList).map fun p => (p.2 : Int) * ((p.1 : Int) + 1)).sum
theorem x_sumL {QD : D → Store → Prop} {st : Store} {j : Nat} {l : List Int} (h : st[j]? = some (.lst (l.map D.int))) : wp (biD .sum [.ob j]) QD st ↔ QD (.int l.sum) st :=
  wp_ok (by simp only [biD, itemsL, h, intsOf_map])
theorem x_ord1 {QD : D → Store → Prop} {st : Store} {c : Nat} : wp (biD .ord [.str ⟨#[c]⟩]) QD st ↔ QD (.int (c : Nat)) st := wp_ok rfl
theorem x_enumS {QS : SI → Store → Prop} {st : Store} {z : Str} : wp (enumS (.str z)) QS st ↔ QS (pairs 0 (z.cps.toList.map fun c => .str ⟨#[c]⟩), none) st := wp_ok rfl
theorem part_wp {C : Cts} {z : Str} {m : Int} {st : Store} {QD : D → Store → Prop} (hz : ∀ c ∈ z.cps.toList, c < 1000000) (hl : z.cps.toList.length ≤ 1000) (hm : 0 < m) (q : ∀ s, st <+: s → QD (.int (partM z % m)) s) :
    wp (callDef C 4 part_b [.str z, .int m]) QD st := by
  unfold part_b
  simp only [wp_callDef, wp_cons, wp_nil, wp_asg, wp_expr, wp_retS, wp_retN, wp_iteS, wp_pass, wp_brk, wp_cont, wp_setIx, wp_augX, wp_asgT, wp_for, wp_varX, wp_cst, wp_bin, wp_cmp, wp_cmpT, wp_chainT, wp_andT, wp_orT, wp_notT, wp_iteE, wp_idx, wp_sl, wp_call, wp_bi, wp_tup, wp_lst, wp_dict0, wp_meth, wp_lc, wp_evs_nil, wp_evs_cons, wp_evo_none, wp_evo_some, wp_seq, wp_enum, wp_rng1, wp_rng2, wp_idxT, wp_varT, wp_callT, wp_biT, x_truB, tsto_none, tsto_some,
  seqQ_nx, seqQ_ret, seqQ_bk, seqQ_ct, endQ_ret, endQ_nx, varQ_some, lstQ_some, dctQ_some, optQ_some, blQ_bl, inQ_int, rgQ_int, rg2Q_int,
  x_eqSS, x_eqII, x_neSS, x_neII, str_we, str_ew, decide_true, decide_false, if_true, if_false, Bool.false_eq_true, reduceIte, x_addI, x_addT, x_addS, x_addL, x_subI, x_mulI, x_divI, x_modI, x_powI, x_ltI, x_leI, x_gtI, x_geI, x_is, x_isnot, x_isB, x_isNB, x_ixT, x_ixF, x_abs, x_lenT, x_lenF, x_intI, x_intB, x_max2, x_min2, x_seqT, x_seqF, x_slT, x_slF,
  List.map_cons, List.map_nil, List.length_cons, List.length_nil, List.cons_append, List.nil_append, List.replicate_succ, List.replicate_zero, Nat.reduceSub, Nat.reduceAdd, List.set_cons_zero, List.set_cons_succ, List.getElem?_cons_zero, List.getElem?_cons_succ, Nat.add_zero, Nat.zero_add, Nat.sub_self, decide_eq_true_eq, x_enumS]
  rw [pairs_idx]
  have key := wp_loopC_map (st := st) (gd := none) (f := compF (.tup [2, 3]) [2, 3] [some (.str z), some (.int m), none, none] (tsto C .none) (bo C (.bin .Mult (.bi .ord (.cons (.var 3) .nil)) (.bin .Add (.var 2) (.cst (.int 1))))).1) (fun p : Nat × Nat => D.tup [.int (p.1 : Nat), .str ⟨#[p.2]⟩]) (fun p => .int ((p.2 : Int) * ((p.1 : Int) + 1))) (fun _ => true) rfl (idxP 0 z.cps.toList) (fun a ha => by
    rw [wp_compF (env1 := [some (.str z), some (.int m), some (.int (a.1 : Nat)), some (.str ⟨#[a.2]⟩)]) rfl]
    have hc := hz _ (idx_mem ha)
    simp only [wp_callDef, wp_cons, wp_nil, wp_asg, wp_expr, wp_retS, wp_retN, wp_iteS, wp_pass, wp_brk, wp_cont, wp_setIx, wp_augX, wp_asgT, wp_for, wp_varX, wp_cst, wp_bin, wp_cmp, wp_cmpT, wp_chainT, wp_andT, wp_orT, wp_notT, wp_iteE, wp_idx, wp_sl, wp_call, wp_bi, wp_tup, wp_lst, wp_dict0, wp_meth, wp_lc, wp_evs_nil, wp_evs_cons, wp_evo_none, wp_evo_some, wp_seq, wp_enum, wp_rng1, wp_rng2, wp_idxT, wp_varT, wp_callT, wp_biT, x_truB, tsto_none, tsto_some,
  seqQ_nx, seqQ_ret, seqQ_bk, seqQ_ct, endQ_ret, endQ_nx, varQ_some, lstQ_some, dctQ_some, optQ_some, blQ_bl, inQ_int, rgQ_int, rg2Q_int,
  x_eqSS, x_eqII, x_neSS, x_neII, str_we, str_ew, decide_true, decide_false, if_true, if_false, Bool.false_eq_true, reduceIte, x_addI, x_addT, x_addS, x_addL, x_subI, x_mulI, x_divI, x_modI, x_powI, x_ltI, x_leI, x_gtI, x_geI, x_is, x_isnot, x_isB, x_isNB, x_ixT, x_ixF, x_abs, x_lenT, x_lenF, x_intI, x_intB, x_max2, x_min2, x_seqT, x_seqF, x_slT, x_slF,
  List.map_cons, List.map_nil, List.length_cons, List.length_nil, List.cons_append, List.nil_append, List.replicate_succ, List.replicate_zero, Nat.reduceSub, Nat.reduceAdd, List.set_cons_zero, List.set_cons_succ, List.getElem?_cons_zero, List.getElem?_cons_succ, Nat.add_zero, Nat.zero_add, Nat.sub_self, decide_eq_true_eq, x_ord1]
    exact ⟨mulOk_left (by omega) (by omega), trivial, trivial⟩)
  refine wp_mono key fun ds s ⟨h1, h2⟩ => ?_
  subst h1 h2
  rw [List.filter_eq_self.mpr (fun _ _ => rfl)]
  have e1 : (idxP 0 z.cps.toList).map (fun p => D.int ((p.2 : Int) * ((p.1 : Int) + 1))) = ((idxP 0 z.cps.toList).map fun p => (p.2 : Int) * ((p.1 : Int) + 1)).map D.int := by rw [List.map_map]; rfl
  refine ⟨by rw [List.length_map, idx_len]; have : bigN = 16777216 := rfl; omega, ?_⟩
  rw [e1, x_sumL (l := (idxP 0 z.cps.toList).map fun p => (p.2 : Int) * ((p.1 : Int) + 1)) (by simp)]
  simp only [wp_callDef, wp_cons, wp_nil, wp_asg, wp_expr, wp_retS, wp_retN, wp_iteS, wp_pass, wp_brk, wp_cont, wp_setIx, wp_augX, wp_asgT, wp_for, wp_varX, wp_cst, wp_bin, wp_cmp, wp_cmpT, wp_chainT, wp_andT, wp_orT, wp_notT, wp_iteE, wp_idx, wp_sl, wp_call, wp_bi, wp_tup, wp_lst, wp_dict0, wp_meth, wp_lc, wp_evs_nil, wp_evs_cons, wp_evo_none, wp_evo_some, wp_seq, wp_enum, wp_rng1, wp_rng2, wp_idxT, wp_varT, wp_callT, wp_biT, x_truB, tsto_none, tsto_some,
  seqQ_nx, seqQ_ret, seqQ_bk, seqQ_ct, endQ_ret, endQ_nx, varQ_some, lstQ_some, dctQ_some, optQ_some, blQ_bl, inQ_int, rgQ_int, rg2Q_int,
  x_eqSS, x_eqII, x_neSS, x_neII, str_we, str_ew, decide_true, decide_false, if_true, if_false, Bool.false_eq_true, reduceIte, x_addI, x_addT, x_addS, x_addL, x_subI, x_mulI, x_divI, x_modI, x_powI, x_ltI, x_leI, x_gtI, x_geI, x_is, x_isnot, x_isB, x_isNB, x_ixT, x_ixF, x_abs, x_lenT, x_lenF, x_intI, x_intB, x_max2, x_min2, x_seqT, x_seqF, x_slT, x_slF,
  List.map_cons, List.map_nil, List.length_cons, List.length_nil, List.cons_append, List.nil_append, List.replicate_succ, List.replicate_zero, Nat.reduceSub, Nat.reduceAdd, List.set_cons_zero, List.set_cons_succ, List.getElem?_cons_zero, List.getElem?_cons_succ, Nat.add_zero, Nat.zero_add, Nat.sub_self, decide_eq_true_eq]
  exact ⟨hm, q _ ⟨_, rfl⟩⟩
theorem lot_ok : ∀ z ∈ lotS, (∀ c ∈ z.cps.toList, c < 1000000) ∧ z.cps.toList.length ≤ 1000 ∧ PyData.strOk z = true ∧ z.length ≤ 10 := by decide +kernel
def keysM (part : Int) : List Str := lotS.filter fun z => decide (partM z % 2 = part)
theorem keys_ne : keysM 0 ≠ [] ∧ keysM 1 ≠ [] := by decide +kernel
theorem keys_wp {C : Cts} (RC : ∃ C', C.fn "_law_part" = callDef C' 4 part_b) {part : Int} {st : Store} {QD : D → Store → Prop} (q : ∀ s, st <+: s → QD (.ob s.length) (s ++ [.lst ((keysM part).map D.str)])) :
    wp (callDef C 4 keys_b [.int part, .int 2]) QD st := by
  obtain ⟨C1, b1⟩ := RC
  unfold keys_b
  rw [wp_callDef]
  simp only [wp_cons, wp_nil, wp_asg, wp_expr, wp_retS, wp_retN, wp_iteS, wp_pass, wp_brk, wp_cont, wp_setIx, wp_augX, wp_asgT, wp_for, wp_varX, wp_cst, wp_bin, wp_cmp, wp_cmpT, wp_chainT, wp_andT, wp_orT, wp_notT, wp_iteE, wp_idx, wp_sl, wp_call, wp_bi, wp_tup, wp_lst, wp_dict0, wp_meth, wp_lc, wp_evs_nil, wp_evs_cons, wp_evo_none, wp_evo_some, wp_seq, wp_enum, wp_rng1, wp_rng2, wp_idxT, wp_varT, wp_callT, wp_biT, x_truB, tsto_none, tsto_some,
  seqQ_nx, seqQ_ret, seqQ_bk, seqQ_ct, endQ_ret, endQ_nx, varQ_some, lstQ_some, dctQ_some, optQ_some, blQ_bl, inQ_int, rgQ_int, rg2Q_int,
  x_eqSS, x_eqII, x_neSS, x_neII, str_we, str_ew, decide_true, decide_false, if_true, if_false, Bool.false_eq_true, reduceIte, x_addI, x_addT, x_addS, x_addL, x_subI, x_mulI, x_divI, x_modI, x_powI, x_ltI, x_leI, x_gtI, x_geI, x_is, x_isnot, x_isB, x_isNB, x_ixT, x_ixF, x_abs, x_lenT, x_lenF, x_intI, x_intB, x_max2, x_min2, x_seqT, x_seqF, x_slT, x_slF,
  List.map_cons, List.map_nil, List.length_cons, List.length_nil, List.cons_append, List.nil_append, List.replicate_succ, List.replicate_zero, Nat.reduceSub, Nat.reduceAdd, List.set_cons_zero, List.set_cons_succ, List.getElem?_cons_zero, List.getElem?_cons_succ, Nat.add_zero, Nat.zero_add, Nat.sub_self, decide_eq_true_eq]
  refine ⟨by decide, ?_⟩
  rw [x_seqL (xs := lotS.map D.str) (by simp)]
  have hat : (st ++ [Ob.lst (lotS.map D.str)])[st.length]? = some (.lst (lotS.map D.str)) := by simp
  have key := wp_loopC_mapG (st := st ++ [Ob.lst (lotS.map D.str)]) (gd := some (st.length, lotS.map D.str)) (f := compF (.name 3) [3] [some (.int part), some (.int 2), some (.ob st.length), none] (tsto C (.some (.cmp .Eq (.call "_law_part" (.cons (.var 3) (.cons (.var 1) .nil))) (.var 0)))) (bo C (.var 3)).1) D.str D.str (fun z => decide (partM z % 2 = part)) (by simp only [gdOk, decide_eq_true_eq]; exact hat) lotS _ (List.prefix_refl _) (fun z hz s hp => by
    rw [wp_compF (env1 := [some (.int part), some (.int 2), some (.ob st.length), some (.str z)]) rfl]
    obtain ⟨h1, h2, _⟩ := lot_ok z hz
    simp only [wp_cons, wp_nil, wp_asg, wp_expr, wp_retS, wp_retN, wp_iteS, wp_pass, wp_brk, wp_cont, wp_setIx, wp_augX, wp_asgT, wp_for, wp_varX, wp_cst, wp_bin, wp_cmp, wp_cmpT, wp_chainT, wp_andT, wp_orT, wp_notT, wp_iteE, wp_idx, wp_sl, wp_call, wp_bi, wp_tup, wp_lst, wp_dict0, wp_meth, wp_lc, wp_evs_nil, wp_evs_cons, wp_evo_none, wp_evo_some, wp_seq, wp_enum, wp_rng1, wp_rng2, wp_idxT, wp_varT, wp_callT, wp_biT, x_truB, tsto_none, tsto_some,
  seqQ_nx, seqQ_ret, seqQ_bk, seqQ_ct, endQ_ret, endQ_nx, varQ_some, lstQ_some, dctQ_some, optQ_some, blQ_bl, inQ_int, rgQ_int, rg2Q_int,
  x_eqSS, x_eqII, x_neSS, x_neII, str_we, str_ew, decide_true, decide_false, if_true, if_false, Bool.false_eq_true, reduceIte, x_addI, x_addT, x_addS, x_addL, x_subI, x_mulI, x_divI, x_modI, x_powI, x_ltI, x_leI, x_gtI, x_geI, x_is, x_isnot, x_isB, x_isNB, x_ixT, x_ixF, x_abs, x_lenT, x_lenF, x_intI, x_intB, x_max2, x_min2, x_seqT, x_seqF, x_slT, x_slF,
  List.map_cons, List.map_nil, List.length_cons, List.length_nil, List.cons_append, List.nil_append, List.replicate_succ, List.replicate_zero, Nat.reduceSub, Nat.reduceAdd, List.set_cons_zero, List.set_cons_succ, List.getElem?_cons_zero, List.getElem?_cons_succ, Nat.add_zero, Nat.zero_add, Nat.sub_self, decide_eq_true_eq, b1]
    refine part_wp h1 h2 (by decide) fun s1 p1 => ?_
    simp only [wp_cons, wp_nil, wp_asg, wp_expr, wp_retS, wp_retN, wp_iteS, wp_pass, wp_brk, wp_cont, wp_setIx, wp_augX, wp_asgT, wp_for, wp_varX, wp_cst, wp_bin, wp_cmp, wp_cmpT, wp_chainT, wp_andT, wp_orT, wp_notT, wp_iteE, wp_idx, wp_sl, wp_call, wp_bi, wp_tup, wp_lst, wp_dict0, wp_meth, wp_lc, wp_evs_nil, wp_evs_cons, wp_evo_none, wp_evo_some, wp_seq, wp_enum, wp_rng1, wp_rng2, wp_idxT, wp_varT, wp_callT, wp_biT, x_truB, tsto_none, tsto_some,
  seqQ_nx, seqQ_ret, seqQ_bk, seqQ_ct, endQ_ret, endQ_nx, varQ_some, lstQ_some, dctQ_some, optQ_some, blQ_bl, inQ_int, rgQ_int, rg2Q_int,
  x_eqSS, x_eqII, x_neSS, x_neII, str_we, str_ew, decide_true, decide_false, if_true, if_false, Bool.false_eq_true, reduceIte, x_addI, x_addT, x_addS, x_addL, x_subI, x_mulI, x_divI, x_modI, x_powI, x_ltI, x_leI, x_gtI, x_geI, x_is, x_isnot, x_isB, x_isNB, x_ixT, x_ixF, x_abs, x_lenT, x_lenF, x_intI, x_intB, x_max2, x_min2, x_seqT, x_seqF, x_slT, x_slF,
  List.map_cons, List.map_nil, List.length_cons, List.length_nil, List.cons_append, List.nil_append, List.replicate_succ, List.replicate_zero, Nat.reduceSub, Nat.reduceAdd, List.set_cons_zero, List.set_cons_succ, List.getElem?_cons_zero, List.getElem?_cons_succ, Nat.add_zero, Nat.zero_add, Nat.sub_self, decide_eq_true_eq]
    by_cases h : partM z % 2 = part
    · simp [h, wp_varX, varQ_some, p1]
    · simp [h, p1])
  refine wp_mono key fun ds s ⟨h1, h2⟩ => ?_
  subst h1
  refine ⟨?_, q s ((List.prefix_append st _).trans h2)⟩
  rw [List.length_map]
  exact Nat.le_trans (List.length_filter_le _ _) (by decide)
/-! ### the hand and the things beside it -/
structure LSt (i j4 j7 j8 : Nat) (ks fs : List D) (kvs : List (D × D)) (n : Int) (s : Store) : Prop where
  hand : HandA i n s
  k4 : s[j4]? = some (.lst ks)
  f7 : s[j7]? = some (.lst fs)
  d8 : s[j8]? = some (.dct kvs)
section
variable {i j4 j7 j8 : Nat} {ks fs : List D} {kvs : List (D × D)} {n : Int} {s : Store}
theorem LSt.take (S : LSt i j4 j7 j8 ks fs kvs n s) (hd : i ≠ j4 ∧ i ≠ j7 ∧ i ≠ j8) {n' : Int} {s' : Store} (H : HandA i n' s') (K : Kp [i] s s') : LSt i j4 j7 j8 ks fs kvs n' s' :=
  ⟨H, K.at' _ _ (by simp; omega) S.k4, K.at' _ _ (by simp; omega) S.f7, K.at' _ _ (by simp; omega) S.d8⟩
theorem LSt.app (S : LSt i j4 j7 j8 ks fs kvs n s) (t : Store) : LSt i j4 j7 j8 ks fs kvs n (s ++ t) :=
  ⟨S.hand.app t, (Kp.app [] s t).at' _ _ (by simp) S.k4, (Kp.app [] s t).at' _ _ (by simp) S.f7, (Kp.app [] s t).at' _ _ (by simp) S.d8⟩
theorem LSt.setD (S : LSt i j4 j7 j8 ks fs kvs n s) (hd : j8 ≠ i ∧ j8 ≠ j4 ∧ j8 ≠ j7) (kvs' : List (D × D)) : LSt i j4 j7 j8 ks fs kvs' n (s.set j8 (.dct kvs')) :=
  ⟨S.hand.kp (Kp.set (ks := [j8]) (by simp)) (by simp; omega), (Kp.set (ks := [j8]) (by simp)).at' _ _ (by simp; omega) S.k4, (Kp.set (ks := [j8]) (by simp)).at' _ _ (by simp; omega) S.f7, by simp [(List.getElem?_eq_some_iff.mp S.d8).1]⟩
theorem LSt.setF (S : LSt i j4 j7 j8 ks fs kvs n s) (hd : j7 ≠ i ∧ j7 ≠ j4 ∧ j7 ≠ j8) (fs' : List D) : LSt i j4 j7 j8 ks fs' kvs n (s.set j7 (.lst fs')) :=
  ⟨S.hand.kp (Kp.set (ks := [j7]) (by simp)) (by simp; omega), (Kp.set (ks := [j7]) (by simp)).at' _ _ (by simp; omega) S.k4, by simp [(List.getElem?_eq_some_iff.mp S.f7).1], (Kp.set (ks := [j7]) (by simp)).at' _ _ (by simp; omega) S.d8⟩
/-- one of a list that was just written -/
theorem pick_wp {C : Cts} {m : Int} {ds : List D} {Q : D → Store → Prop} (H : HandA i n s) (hn : n < 2 ^ 40) (hm : m = ds.length) (h0 : 0 < m) (h1 : m < 2 ^ 62) (q : ∀ d ∈ ds, ∀ s', HandA i (n + 1) s' → Kp [i] s s' → Q d s') :
    wp (callDef C 5 take_b [.ob i, .int m]) (fun d s' => wp (ixD (.ob s.length) d) Q s') (s ++ [.lst ds]) := by
  have hi := H.lt
  refine take_wp (H.app _) hn h0 h1 fun r s' H' K' r0 r1 => ?_
  have hat : s'[s.length]? = some (.lst ds) := K'.at' _ _ (by simp; omega) (by simp)
  rw [x_ixL hat]
  obtain ⟨x, hx, hm', _⟩ := atI_nat (xs := ds) r0 (by omega)
  rw [hx, optQ_some]
  exact q x hm' s' H' ((Kp.app [i] s _).trans K')
/-- one of a list that stands -/
theorem pickAt_wp {C : Cts} {m : Int} {j : Nat} {ds : List D} {Q : D → Store → Prop} (H : HandA i n s) (hn : n < 2 ^ 40) (hj : s[j]? = some (.lst ds)) (hij : i ≠ j) (hm : m = ds.length) (h0 : 0 < m) (h1 : m < 2 ^ 62) (q : ∀ d ∈ ds, ∀ s', HandA i (n + 1) s' → Kp [i] s s' → Q d s') :
    wp (callDef C 5 take_b [.ob i, .int m]) (fun d s' => wp (ixD (.ob j) d) Q s') s := by
  refine take_wp H hn h0 h1 fun r s' H' K' r0 r1 => ?_
  have hat : s'[j]? = some (.lst ds) := K'.at' _ _ (by simp; omega) hj
  rw [x_ixL hat]
  obtain ⟨x, hx, hm', _⟩ := atI_nat (xs := ds) r0 (by omega)
  rw [hx, optQ_some]
  exact q x hm' s' H' K'
end
end W9

/-! W9Q: the logs that the laws make: the loop -/
namespace W9
open PySem L2
def turn2_b : Sms :=
  (.cons (.expr (.meth .append (.var 7) (.cons (.tup (.cons (.var 6) (.cons (.var 13) .nil))) .nil)))
    (.cons (.asg 6 (.bin .Add (.bin .Add (.var 6) (.cst (.int 1))) (.bin .Mult (.idx (.lst (.cons (.cst (.int 0)) (.cons (.cst (.int 0)) (.cons (.cst (.int 1)) (.cons (.cst (.int 5)) .nil))))) (.call "_law_take" (.cons (.var 0) (.cons (.cst (.int 4)) .nil)))) (.bi .int (.cons (.var 2) .nil)))))
    .nil))
def turn_b : Sms :=
  (.cons (.asgT [10, 11] (.tup (.cons (.call "_law_take" (.cons (.var 0) (.cons (.cst (.int 8)) .nil))) (.cons (.idx (.lst (.cons (.cst (.str "a")) (.cons (.cst (.str "b")) (.cons (.cst (.str "word")) .nil)))) (.call "_law_take" (.cons (.var 0) (.cons (.cst (.int 3)) .nil)))) .nil))))
    (.cons (.asg 9 (.idx (.lst (.cons (.cst .non) (.cons (.cst (.int 1)) (.cons (.cst (.int 2)) (.cons (.cst (.int 3)) (.cons (.cst (.int 999999)) .nil)))))) (.call "_law_take" (.cons (.var 0) (.cons (.cst (.int 5)) .nil)))))
    (.cons (.ite (.cmp .Lt (.var 10) (.cst (.int 6)))
    (.cons (.setIx (.var 8) (.var 11) (.bin .Add (.meth .get (.var 8) (.cons (.var 11) (.cons (.cst (.int 0)) .nil))) (.idx (.lst (.cons (.cst (.int 1)) (.cons (.cst (.int 1)) (.cons (.cst (.int 2)) (.cons (.cst (.int 900)) .nil))))) (.call "_law_take" (.cons (.var 0) (.cons (.cst (.int 4)) .nil))))))
    (.cons (.asgT [14, 15] (.tup (.cons (.idx (.var 4) (.call "_law_take" (.cons (.var 0) (.cons (.bi .len (.cons (.var 4) .nil)) .nil)))) (.cons (.idx (.lst (.cons (.cst (.int 0)) (.cons (.cst (.int 5)) (.cons (.cst (.int 999)) (.cons (.call "_law_take" (.cons (.var 0) (.cons (.cst (.int 1000)) .nil))) .nil))))) (.call "_law_take" (.cons (.var 0) (.cons (.cst (.int 4)) .nil)))) .nil))))
    (.cons (.asg 12 (.idx (.lst (.cons (.cst (.str "x")) (.cons (.cst (.str "y")) (.cons (.cst (.str "zzzzzzzz")) (.cons (.cst (.str "end")) .nil))))) (.call "_law_take" (.cons (.var 0) (.cons (.cst (.int 4)) .nil)))))
    (.cons (.asg 13 (.tup (.cons (.cst (.str "word")) (.cons (.var 11) (.cons (.idx (.var 8) (.var 11)) (.cons (.var 9) (.cons (.var 14) (.cons (.var 12) (.cons (.var 15) .nil)))))))))
    .nil))))
    (.cons (.asg 13 (.tup (.cons (.cst (.str "end")) (.cons (.var 11) (.cons (.idx (.lst (.cons (.var 9) (.cons (.cst (.int 1)) .nil))) (.bi .int (.cons (.cmp .Is (.var 9) (.cst .non)) .nil))) (.cons (.cmp .Gt (.call "_law_take" (.cons (.var 0) (.cons (.cst (.int 3)) .nil))) (.cst (.int 0))) .nil))))))
    .nil))
    turn2_b)))
def log_b : Sms :=
  (.cons (.asg 3 (.call "_law_take" (.cons (.var 0) (.cons (.cst (.int 2)) .nil))))
    (.cons (.asg 4 (.sl (.call "_law_keys" (.cons (.var 3) (.cons (.cst (.int 2)) .nil))) .none (.some (.bin .Add (.cst (.int 1)) (.call "_law_take" (.cons (.var 0) (.cons (.cst (.int 7)) .nil)))))))
    (.cons (.asgT [6, 7, 8] (.tup (.cons (.idx (.lst (.cons (.cst (.int 0)) (.cons (.call "_law_take" (.cons (.var 0) (.cons (.cst (.int 5)) .nil))) .nil))) (.bi .int (.cons (.var 2) .nil))) (.cons (.lst .nil) (.cons .dict0 .nil)))))
    (.cons (.forS (.rng1 (.var 1)) (.name 5)
    turn_b)
    (.cons (.ret (.bi .tuple (.cons (.var 7) .nil)))
    .nil)))))

abbrev givS : List Str := ["a", "b", "word"]
abbrev texS : List Str := ["x", "y", "zzzzzzzz", "end"]
/-- a record as the laws make it -/
def GoodR : Rec → Prop
  | .word g n dl k t tm => g ∈ givS ∧ 0 < n ∧ n ≤ 1000000 ∧ k ∈ lotS ∧ t ∈ texS ∧ 0 ≤ tm ∧ tm < 1000 ∧ (∀ d, dl = some d → 1 ≤ d ∧ d ≤ 999999)
  | .fin g d b => g ∈ givS ∧ 1 ≤ d ∧ d ≤ 999999
structure Made (L : List Ent) (top : Int) : Prop where
  srt : Srt L
  rc : ∀ e ∈ L, GoodR e.2
  pl : ∀ e ∈ L, 0 ≤ e.1 ∧ e.1 < top
/-- the last numbers -/
structure LastK (kvs : List (D × D)) (m : Int) : Prop where
  keys : keysS kvs
  len : kvs.length ≤ m
  get : ∀ g, getKv kvs (.str g) = none ∨ ∃ n, getKv kvs (.str g) = some (.int n) ∧ 0 ≤ n ∧ n ≤ 900 * m
theorem LastK.at {kvs : List (D × D)} {m : Int} (h : LastK kvs m) (hm : 0 ≤ m) (g : Str) : ∃ n, (getKv kvs (.str g)).getD (.int 0) = .int n ∧ 0 ≤ n ∧ n ≤ 900 * m := by
  rcases h.get g with e | ⟨n, e, h1, h2⟩
  · exact ⟨0, by rw [e]; rfl, by omega, by omega⟩
  · exact ⟨n, by rw [e]; rfl, h1, h2⟩
theorem LastK.put {kvs : List (D × D)} {m n : Int} (h : LastK kvs m) (g : Str) (h0 : 0 ≤ n) (h1 : n ≤ 900 * (m + 1)) : LastK (putKv kvs (.str g) (.int n)) (m + 1) := by
  refine ⟨keysS_put h.keys g _, by have := putKv_len kvs (.str g) (.int n); have := h.len; omega, fun g' => ?_⟩
  rw [getKv_put]
  split
  · exact .inr ⟨n, rfl, h0, h1⟩
  · rcases h.get g' with e | ⟨n', e, h2, h3⟩
    · exact .inl e
    · exact .inr ⟨n', e, h2, by omega⟩
theorem Made.snoc {L : List Ent} {p p' : Int} {r : Rec} (h : Made L p) (hp : 0 ≤ p) (hr : GoodR r) (hlt : p < p') : Made (L ++ [(p, r)]) p' := by
  refine ⟨?_, fun e he => ?_, fun e he => ?_⟩
  · refine List.pairwise_append.mpr ⟨h.srt, List.pairwise_singleton _ _, fun a ha b hb => ?_⟩
    rw [List.mem_singleton.mp hb]
    exact (h.pl a ha).2
  · rcases List.mem_append.mp he with he | he
    · exact h.rc e he
    · rw [List.mem_singleton.mp he]; exact hr
  · rcases List.mem_append.mp he with he | he
    · have := h.pl e he; exact ⟨this.1, by omega⟩
    · rw [List.mem_singleton.mp he]; exact ⟨hp, hlt⟩
theorem mem_strs {z : D} {l : List Str} (h : z ∈ l.map D.str) : ∃ g ∈ l, z = .str g := let ⟨g, a, b⟩ := List.mem_map.mp h; ⟨g, a, b.symm⟩
theorem mem_ints {z : D} {l : List Int} (h : z ∈ l.map D.int) : ∃ g ∈ l, z = .int g := let ⟨g, a, b⟩ := List.mem_map.mp h; ⟨g, a, b.symm⟩
abbrev envT (i j4 j7 j8 : Nat) (cnt p : Int) (hol : Bool) (e3 e5 e9 e10 e11 e12 e13 e14 e15 : Option D) : Env := [some (.ob i), some (.int cnt), some (.bl hol), e3, some (.ob j4), e5, some (.int p), some (.ob j7), some (.ob j8), e9, e10, e11, e12, e13, e14, e15]
structure Dst (i j4 j7 j8 : Nat) : Prop where
  a : i ≠ j4 ∧ i ≠ j7 ∧ i ≠ j8
  b : j8 ≠ i ∧ j8 ≠ j4 ∧ j8 ≠ j7
  c : j7 ≠ i ∧ j7 ≠ j4 ∧ j7 ≠ j8
/-- what a turn leaves -/
def TurnQ (i j4 j7 j8 : Nat) (ks : List Str) (cnt : Int) (hol : Bool) (e3 : Option D) (p : Int) (l : Nat) (n m : Int) (s : Store) : Fl → Store → Prop := fun fl s' =>
  ∃ e5 e9 e10 e11 e12 e13 e14 e15 L' kvs' p', fl = .nx (envT i j4 j7 j8 cnt p' hol e3 e5 e9 e10 e11 e12 e13 e14 e15) ∧ LSt i j4 j7 j8 (ks.map D.str) (L'.map entD) kvs' n s' ∧ L'.length = l ∧ Made L' p' ∧ p < p' ∧ p' ≤ p + 6 ∧ LastK kvs' m ∧ Kp [i, j7, j8] s s'
theorem turn2_wp {C C1 : Cts} (bt : C.fn "_law_take" = callDef C1 5 take_b) {i j4 j7 j8 : Nat} (dd : Dst i j4 j7 j8) {ks : List Str} {L : List Ent} {kvs : List (D × D)} {cnt p n m : Int} {hol : Bool} {e3 e5 e9 e10 e11 e12 e14 e15 : Option D} {r : Rec} {s0 s : Store}
    (S : LSt i j4 j7 j8 (ks.map D.str) (L.map entD) kvs n s) (hn : n < 2 ^ 39) (hL : Made L p) (hp : 0 ≤ p) (hr : GoodR r) (hl : L.length ≤ 1000) (hK : LastK kvs m) (K0 : Kp [i, j7, j8] s0 s) :
    wp (runs C turn2_b (envT i j4 j7 j8 cnt p hol e3 e5 e9 e10 e11 e12 (some (recD r)) e14 e15)) (TurnQ i j4 j7 j8 ks cnt hol e3 p (L.length + 1) (n + 1) m s0) s := by
  unfold turn2_b envT
  simp only [wp_cons, wp_nil, wp_asg, wp_expr, wp_retS, wp_retN, wp_iteS, wp_pass, wp_brk, wp_cont, wp_setIx, wp_augX, wp_asgT, wp_for, wp_varX, wp_cst, wp_bin, wp_cmp, wp_cmpT, wp_chainT, wp_andT, wp_orT, wp_notT, wp_iteE, wp_idx, wp_sl, wp_call, wp_bi, wp_tup, wp_lst, wp_dict0, wp_meth, wp_lc, wp_evs_nil, wp_evs_cons, wp_evo_none, wp_evo_some, wp_seq, wp_enum, wp_rng1, wp_rng2, wp_idxT, wp_varT, wp_callT, wp_biT, x_truB, tsto_none, tsto_some,
  seqQ_nx, seqQ_ret, seqQ_bk, seqQ_ct, endQ_ret, endQ_nx, varQ_some, lstQ_some, dctQ_some, optQ_some, blQ_bl, inQ_int, rgQ_int, rg2Q_int,
  x_eqSS, x_eqII, x_neSS, x_neII, str_we, str_ew, decide_true, decide_false, if_true, if_false, Bool.false_eq_true, reduceIte, x_addI, x_addT, x_addS, x_addL, x_subI, x_mulI, x_divI, x_modI, x_powI, x_ltI, x_leI, x_gtI, x_geI, x_is, x_isnot, x_isB, x_isNB, x_ixT, x_ixF, x_abs, x_lenT, x_lenF, x_intI, x_intB, x_max2, x_min2, x_seqT, x_seqF, x_slT, x_slF,
  List.map_cons, List.map_nil, List.length_cons, List.length_nil, List.cons_append, List.nil_append, List.replicate_succ, List.replicate_zero, Nat.reduceSub, Nat.reduceAdd, List.set_cons_zero, List.set_cons_succ, List.getElem?_cons_zero, List.getElem?_cons_succ, Nat.add_zero, Nat.zero_add, Nat.sub_self, decide_eq_true_eq, bt]
  refine ⟨.list, x_tyL S.f7, by decide, ?_⟩
  rw [x_app S.f7]
  refine ⟨by rw [List.length_map]; have : bigN = 16777216 := rfl; omega, by decide, ?_⟩
  have S1 := S.setF dd.c (L.map entD ++ [.tup [.int p, recD r]])
  have K1 : Kp [i, j7, j8] s0 (s.set j7 (.lst (L.map entD ++ [.tup [.int p, recD r]]))) := K0.trans (Kp.set (by simp))
  refine pick_wp (ds := [0, 0, 1, 5].map D.int) S1.hand (by omega) rfl (by decide) (by decide) fun d hd s2 H2 K2 => ?_
  obtain ⟨v, hv, rfl⟩ := mem_ints (l := [0, 0, 1, 5]) hd
  have hv' : 0 ≤ v ∧ v ≤ 5 := by
    simp only [List.mem_cons, List.not_mem_nil, or_false] at hv
    omega
  have S2 := S1.take dd.a H2 K2
  try simp only [wp_cons, wp_nil, wp_asg, wp_expr, wp_retS, wp_retN, wp_iteS, wp_pass, wp_brk, wp_cont, wp_setIx, wp_augX, wp_asgT, wp_for, wp_varX, wp_cst, wp_bin, wp_cmp, wp_cmpT, wp_chainT, wp_andT, wp_orT, wp_notT, wp_iteE, wp_idx, wp_sl, wp_call, wp_bi, wp_tup, wp_lst, wp_dict0, wp_meth, wp_lc, wp_evs_nil, wp_evs_cons, wp_evo_none, wp_evo_some, wp_seq, wp_enum, wp_rng1, wp_rng2, wp_idxT, wp_varT, wp_callT, wp_biT, x_truB, tsto_none, tsto_some,
  seqQ_nx, seqQ_ret, seqQ_bk, seqQ_ct, endQ_ret, endQ_nx, varQ_some, lstQ_some, dctQ_some, optQ_some, blQ_bl, inQ_int, rgQ_int, rg2Q_int,
  x_eqSS, x_eqII, x_neSS, x_neII, str_we, str_ew, decide_true, decide_false, if_true, if_false, Bool.false_eq_true, reduceIte, x_addI, x_addT, x_addS, x_addL, x_subI, x_mulI, x_divI, x_modI, x_powI, x_ltI, x_leI, x_gtI, x_geI, x_is, x_isnot, x_isB, x_isNB, x_ixT, x_ixF, x_abs, x_lenT, x_lenF, x_intI, x_intB, x_max2, x_min2, x_seqT, x_seqF, x_slT, x_slF,
  List.map_cons, List.map_nil, List.length_cons, List.length_nil, List.cons_append, List.nil_append, List.replicate_succ, List.replicate_zero, Nat.reduceSub, Nat.reduceAdd, List.set_cons_zero, List.set_cons_succ, List.getElem?_cons_zero, List.getElem?_cons_succ, Nat.add_zero, Nat.zero_add, Nat.sub_self, decide_eq_true_eq]
  refine ⟨mulOk_left (by omega) (by omega), e5, e9, e10, e11, e12, some (recD r), e14, e15, L ++ [(p, r)], kvs, p + 1 + v * (if hol = true then 1 else 0), rfl, ?_, by simp, ?_, ?_, ?_, hK, K1.trans (K2.more (by simp))⟩
  · have : (L ++ [(p, r)]).map entD = L.map entD ++ [.tup [.int p, recD r]] := by simp [entD]
    rw [this]
    exact S2
  · refine hL.snoc hp hr ?_
    split <;> omega
  · split <;> omega
  · split <;> omega
theorem deal_opt {d : D} (h : d ∈ ([.non, .int 1, .int 2, .int 3, .int 999999] : List D)) : ∃ o : Option Int, d = optD o ∧ ∀ z, o = some z → 1 ≤ z ∧ z ≤ 999999 := by
  simp only [List.mem_cons, List.not_mem_nil, or_false] at h
  rcases h with rfl | rfl | rfl | rfl | rfl
  · exact ⟨none, rfl, fun z hz => nomatch hz⟩
  · exact ⟨some 1, rfl, fun z hz => by cases hz; decide⟩
  · exact ⟨some 2, rfl, fun z hz => by cases hz; decide⟩
  · exact ⟨some 3, rfl, fun z hz => by cases hz; decide⟩
  · exact ⟨some 999999, rfl, fun z hz => by cases hz; decide⟩
theorem LastK.up {kvs : List (D × D)} {m : Int} (h : LastK kvs m) : LastK kvs (m + 1) :=
  ⟨h.keys, by have := h.len; omega, fun g => (h.get g).imp id fun ⟨n, e, h1, h2⟩ => ⟨n, e, h1, by omega⟩⟩
theorem LSt.mono {i j4 j7 j8 : Nat} {ks fs : List D} {kvs : List (D × D)} {n n' : Int} {s : Store} (S : LSt i j4 j7 j8 ks fs kvs n s) (h : n ≤ n') : LSt i j4 j7 j8 ks fs kvs n' s := ⟨S.hand.mono h, S.k4, S.f7, S.d8⟩
theorem TurnQ.mono {i j4 j7 j8 : Nat} {ks : List Str} {cnt : Int} {hol : Bool} {e3 : Option D} {p : Int} {l : Nat} {n n' m : Int} {s s' : Store} {fl : Fl} (h : TurnQ i j4 j7 j8 ks cnt hol e3 p l n m s fl s') (hn : n ≤ n') : TurnQ i j4 j7 j8 ks cnt hol e3 p l n' m s fl s' := by
  obtain ⟨a5, a9, a10, a11, a12, a13, a14, a15, L', kvs', p', h1, h2, h3⟩ := h
  exact ⟨a5, a9, a10, a11, a12, a13, a14, a15, L', kvs', p', h1, h2.mono hn, h3⟩
theorem turn_wp {C C1 : Cts} (bt : C.fn "_law_take" = callDef C1 5 take_b) {i j4 j7 j8 : Nat} (dd : Dst i j4 j7 j8) {ks : List Str} {L : List Ent} {kvs : List (D × D)} {cnt p n m : Int} {hol : Bool} {e3 e5 e9 e10 e11 e12 e13 e14 e15 : Option D} {s : Store}
    (S : LSt i j4 j7 j8 (ks.map D.str) (L.map entD) kvs n s) (hn : n < 2 ^ 38) (hks : ∀ k ∈ ks, k ∈ lotS) (hk0 : ks ≠ []) (hk1 : ks.length ≤ 14) (hL : Made L p) (hp : 0 ≤ p) (hl : L.length ≤ 1000) (hK : LastK kvs m) (hm : 0 ≤ m) (hm2 : m ≤ 1000) :
    wp (runs C turn_b (envT i j4 j7 j8 cnt p hol e3 e5 e9 e10 e11 e12 e13 e14 e15)) (TurnQ i j4 j7 j8 ks cnt hol e3 p (L.length + 1) (n + 10) (m + 1) s) s := by
  have hks2 : 0 < ks.length := List.length_pos_iff.mpr hk0
  unfold turn_b
  unfold envT
  simp only [wp_cons, wp_nil, wp_asg, wp_expr, wp_retS, wp_retN, wp_iteS, wp_pass, wp_brk, wp_cont, wp_setIx, wp_augX, wp_asgT, wp_for, wp_varX, wp_cst, wp_bin, wp_cmp, wp_cmpT, wp_chainT, wp_andT, wp_orT, wp_notT, wp_iteE, wp_idx, wp_sl, wp_call, wp_bi, wp_tup, wp_lst, wp_dict0, wp_meth, wp_lc, wp_evs_nil, wp_evs_cons, wp_evo_none, wp_evo_some, wp_seq, wp_enum, wp_rng1, wp_rng2, wp_idxT, wp_varT, wp_callT, wp_biT, x_truB, tsto_none, tsto_some,
  seqQ_nx, seqQ_ret, seqQ_bk, seqQ_ct, endQ_ret, endQ_nx, varQ_some, lstQ_some, dctQ_some, optQ_some, blQ_bl, inQ_int, rgQ_int, rg2Q_int,
  x_eqSS, x_eqII, x_neSS, x_neII, str_we, str_ew, decide_true, decide_false, if_true, if_false, Bool.false_eq_true, reduceIte, x_addI, x_addT, x_addS, x_addL, x_subI, x_mulI, x_divI, x_modI, x_powI, x_ltI, x_leI, x_gtI, x_geI, x_is, x_isnot, x_isB, x_isNB, x_ixT, x_ixF, x_abs, x_lenT, x_lenF, x_intI, x_intB, x_max2, x_min2, x_seqT, x_seqF, x_slT, x_slF,
  List.map_cons, List.map_nil, List.length_cons, List.length_nil, List.cons_append, List.nil_append, List.replicate_succ, List.replicate_zero, Nat.reduceSub, Nat.reduceAdd, List.set_cons_zero, List.set_cons_succ, List.getElem?_cons_zero, List.getElem?_cons_succ, Nat.add_zero, Nat.zero_add, Nat.sub_self, decide_eq_true_eq, bt]
  refine take_wp S.hand (by omega) (by decide) (by decide) fun way s1 H1 K1 w0 w1 => ?_
  have S1 := S.take dd.a H1 K1
  have Q1 : Kp [i, j7, j8] s s1 := K1.more (by simp)
  refine ⟨by decide, pick_wp (ds := givS.map D.str) H1 (by omega) rfl (by decide) (by decide) fun d hd s2 H2 K2 => ?_⟩
  obtain ⟨g, hg, rfl⟩ := mem_strs hd
  have S2 := S1.take dd.a H2 K2
  have Q2 := Q1.trans (K2.more (ks' := [i, j7, j8]) (by simp))
  refine ⟨by decide, envT i j4 j7 j8 cnt p hol e3 e5 e9 (some (.int way)) (some (.str g)) e12 e13 e14 e15, rfl, ?_⟩
  unfold envT
  try simp only [wp_cons, wp_nil, wp_asg, wp_expr, wp_retS, wp_retN, wp_iteS, wp_pass, wp_brk, wp_cont, wp_setIx, wp_augX, wp_asgT, wp_for, wp_varX, wp_cst, wp_bin, wp_cmp, wp_cmpT, wp_chainT, wp_andT, wp_orT, wp_notT, wp_iteE, wp_idx, wp_sl, wp_call, wp_bi, wp_tup, wp_lst, wp_dict0, wp_meth, wp_lc, wp_evs_nil, wp_evs_cons, wp_evo_none, wp_evo_some, wp_seq, wp_enum, wp_rng1, wp_rng2, wp_idxT, wp_varT, wp_callT, wp_biT, x_truB, tsto_none, tsto_some,
  seqQ_nx, seqQ_ret, seqQ_bk, seqQ_ct, endQ_ret, endQ_nx, varQ_some, lstQ_some, dctQ_some, optQ_some, blQ_bl, inQ_int, rgQ_int, rg2Q_int,
  x_eqSS, x_eqII, x_neSS, x_neII, str_we, str_ew, decide_true, decide_false, if_true, if_false, Bool.false_eq_true, reduceIte, x_addI, x_addT, x_addS, x_addL, x_subI, x_mulI, x_divI, x_modI, x_powI, x_ltI, x_leI, x_gtI, x_geI, x_is, x_isnot, x_isB, x_isNB, x_ixT, x_ixF, x_abs, x_lenT, x_lenF, x_intI, x_intB, x_max2, x_min2, x_seqT, x_seqF, x_slT, x_slF,
  List.map_cons, List.map_nil, List.length_cons, List.length_nil, List.cons_append, List.nil_append, List.replicate_succ, List.replicate_zero, Nat.reduceSub, Nat.reduceAdd, List.set_cons_zero, List.set_cons_succ, List.getElem?_cons_zero, List.getElem?_cons_succ, Nat.add_zero, Nat.zero_add, Nat.sub_self, decide_eq_true_eq]
  refine ⟨by decide, pick_wp (ds := [.non, .int 1, .int 2, .int 3, .int 999999]) H2 (by omega) rfl (by decide) (by decide) fun d hd s3 H3 K3 => ?_⟩
  obtain ⟨o, rfl, ho⟩ := deal_opt hd
  have S3 := S2.take dd.a H3 K3
  have Q3 := Q2.trans (K3.more (ks' := [i, j7, j8]) (by simp))
  try simp only [wp_cons, wp_nil, wp_asg, wp_expr, wp_retS, wp_retN, wp_iteS, wp_pass, wp_brk, wp_cont, wp_setIx, wp_augX, wp_asgT, wp_for, wp_varX, wp_cst, wp_bin, wp_cmp, wp_cmpT, wp_chainT, wp_andT, wp_orT, wp_notT, wp_iteE, wp_idx, wp_sl, wp_call, wp_bi, wp_tup, wp_lst, wp_dict0, wp_meth, wp_lc, wp_evs_nil, wp_evs_cons, wp_evo_none, wp_evo_some, wp_seq, wp_enum, wp_rng1, wp_rng2, wp_idxT, wp_varT, wp_callT, wp_biT, x_truB, tsto_none, tsto_some,
  seqQ_nx, seqQ_ret, seqQ_bk, seqQ_ct, endQ_ret, endQ_nx, varQ_some, lstQ_some, dctQ_some, optQ_some, blQ_bl, inQ_int, rgQ_int, rg2Q_int,
  x_eqSS, x_eqII, x_neSS, x_neII, str_we, str_ew, decide_true, decide_false, if_true, if_false, Bool.false_eq_true, reduceIte, x_addI, x_addT, x_addS, x_addL, x_subI, x_mulI, x_divI, x_modI, x_powI, x_ltI, x_leI, x_gtI, x_geI, x_is, x_isnot, x_isB, x_isNB, x_ixT, x_ixF, x_abs, x_lenT, x_lenF, x_intI, x_intB, x_max2, x_min2, x_seqT, x_seqF, x_slT, x_slF,
  List.map_cons, List.map_nil, List.length_cons, List.length_nil, List.cons_append, List.nil_append, List.replicate_succ, List.replicate_zero, Nat.reduceSub, Nat.reduceAdd, List.set_cons_zero, List.set_cons_succ, List.getElem?_cons_zero, List.getElem?_cons_succ, Nat.add_zero, Nat.zero_add, Nat.sub_self, decide_eq_true_eq]
  by_cases hway : way < 6
  · simp only [if_pos hway]
    refine ⟨.dict, x_tyD S3.d8, ?_⟩
    rw [x_get2 S3.d8]
    refine ⟨kind_strs hK.keys g, ?_⟩
    obtain ⟨n0, hn0, n1, n2⟩ := hK.at hm g
    rw [hn0]
    refine ⟨by decide, pick_wp (ds := [1, 1, 2, 900].map D.int) H3 (by omega) rfl (by decide) (by decide) fun d hd s4 H4 K4 => ?_⟩
    obtain ⟨inc, hinc, rfl⟩ := mem_ints (l := [1, 1, 2, 900]) hd
    have hi' : 1 ≤ inc ∧ inc ≤ 900 := by
      simp only [List.mem_cons, List.not_mem_nil, or_false] at hinc
      omega
    have S4 := S3.take dd.a H4 K4
    have Q4 := Q3.trans (K4.more (ks' := [i, j7, j8]) (by simp))
    try simp only [wp_cons, wp_nil, wp_asg, wp_expr, wp_retS, wp_retN, wp_iteS, wp_pass, wp_brk, wp_cont, wp_setIx, wp_augX, wp_asgT, wp_for, wp_varX, wp_cst, wp_bin, wp_cmp, wp_cmpT, wp_chainT, wp_andT, wp_orT, wp_notT, wp_iteE, wp_idx, wp_sl, wp_call, wp_bi, wp_tup, wp_lst, wp_dict0, wp_meth, wp_lc, wp_evs_nil, wp_evs_cons, wp_evo_none, wp_evo_some, wp_seq, wp_enum, wp_rng1, wp_rng2, wp_idxT, wp_varT, wp_callT, wp_biT, x_truB, tsto_none, tsto_some,
  seqQ_nx, seqQ_ret, seqQ_bk, seqQ_ct, endQ_ret, endQ_nx, varQ_some, lstQ_some, dctQ_some, optQ_some, blQ_bl, inQ_int, rgQ_int, rg2Q_int,
  x_eqSS, x_eqII, x_neSS, x_neII, str_we, str_ew, decide_true, decide_false, if_true, if_false, Bool.false_eq_true, reduceIte, x_addI, x_addT, x_addS, x_addL, x_subI, x_mulI, x_divI, x_modI, x_powI, x_ltI, x_leI, x_gtI, x_geI, x_is, x_isnot, x_isB, x_isNB, x_ixT, x_ixF, x_abs, x_lenT, x_lenF, x_intI, x_intB, x_max2, x_min2, x_seqT, x_seqF, x_slT, x_slF,
  List.map_cons, List.map_nil, List.length_cons, List.length_nil, List.cons_append, List.nil_append, List.replicate_succ, List.replicate_zero, Nat.reduceSub, Nat.reduceAdd, List.set_cons_zero, List.set_cons_succ, List.getElem?_cons_zero, List.getElem?_cons_succ, Nat.add_zero, Nat.zero_add, Nat.sub_self, decide_eq_true_eq]
    rw [x_setK S4.d8]
    refine ⟨⟨kind_strs hK.keys g, by have := hK.len; have : bigN = 16777216 := rfl; omega⟩, ?_⟩
    have S5 := S4.setD dd.b (putKv kvs (.str g) (.int (n0 + inc)))
    have hK5 := hK.put g (n := n0 + inc) (by omega) (by omega)
    have Q5 : Kp [i, j7, j8] s (s4.set j8 (.dct (putKv kvs (.str g) (.int (n0 + inc))))) := Q4.trans (Kp.set (by simp))
    generalize s4.set j8 (.dct (putKv kvs (.str g) (.int (n0 + inc)))) = s5 at S5 Q5
    have H5 := S5.hand
    rw [x_lenL S5.k4]
    refine pickAt_wp H5 (by omega) S5.k4 dd.a.1 rfl (by rw [List.length_map]; omega) (by rw [List.length_map]; omega) fun d hd s6 H6 K6 => ?_
    obtain ⟨key, hkey, rfl⟩ := mem_strs hd
    have S6 := S5.take dd.a H6 K6
    have Q6 := Q5.trans (K6.more (ks' := [i, j7, j8]) (by simp))
    refine take_wp H6 (by omega) (by decide) (by decide) fun tm s7 H7 K7 t0 t1 => ?_
    have S7 := S6.take dd.a H7 K7
    have Q7 := Q6.trans (K7.more (ks' := [i, j7, j8]) (by simp))
    refine ⟨by decide, pick_wp (ds := [0, 5, 999, tm].map D.int) H7 (by omega) rfl (by decide) (by decide) fun d hd s8 H8 K8 => ?_⟩
    obtain ⟨tm2, htm, rfl⟩ := mem_ints (l := [0, 5, 999, tm]) hd
    have ht' : 0 ≤ tm2 ∧ tm2 < 1000 := by
      simp only [List.mem_cons, List.not_mem_nil, or_false] at htm
      omega
    have S8 := S7.take dd.a H8 K8
    have Q8 := Q7.trans (K8.more (ks' := [i, j7, j8]) (by simp))
    refine ⟨by decide, envT i j4 j7 j8 cnt p hol e3 e5 (some (optD o)) (some (.int way)) (some (.str g)) e12 e13 (some (.str key)) (some (.int tm2)), rfl, ?_⟩
    unfold envT
    try simp only [wp_cons, wp_nil, wp_asg, wp_expr, wp_retS, wp_retN, wp_iteS, wp_pass, wp_brk, wp_cont, wp_setIx, wp_augX, wp_asgT, wp_for, wp_varX, wp_cst, wp_bin, wp_cmp, wp_cmpT, wp_chainT, wp_andT, wp_orT, wp_notT, wp_iteE, wp_idx, wp_sl, wp_call, wp_bi, wp_tup, wp_lst, wp_dict0, wp_meth, wp_lc, wp_evs_nil, wp_evs_cons, wp_evo_none, wp_evo_some, wp_seq, wp_enum, wp_rng1, wp_rng2, wp_idxT, wp_varT, wp_callT, wp_biT, x_truB, tsto_none, tsto_some,
  seqQ_nx, seqQ_ret, seqQ_bk, seqQ_ct, endQ_ret, endQ_nx, varQ_some, lstQ_some, dctQ_some, optQ_some, blQ_bl, inQ_int, rgQ_int, rg2Q_int,
  x_eqSS, x_eqII, x_neSS, x_neII, str_we, str_ew, decide_true, decide_false, if_true, if_false, Bool.false_eq_true, reduceIte, x_addI, x_addT, x_addS, x_addL, x_subI, x_mulI, x_divI, x_modI, x_powI, x_ltI, x_leI, x_gtI, x_geI, x_is, x_isnot, x_isB, x_isNB, x_ixT, x_ixF, x_abs, x_lenT, x_lenF, x_intI, x_intB, x_max2, x_min2, x_seqT, x_seqF, x_slT, x_slF,
  List.map_cons, List.map_nil, List.length_cons, List.length_nil, List.cons_append, List.nil_append, List.replicate_succ, List.replicate_zero, Nat.reduceSub, Nat.reduceAdd, List.set_cons_zero, List.set_cons_succ, List.getElem?_cons_zero, List.getElem?_cons_succ, Nat.add_zero, Nat.zero_add, Nat.sub_self, decide_eq_true_eq]
    refine ⟨by decide, pick_wp (ds := texS.map D.str) H8 (by omega) rfl (by decide) (by decide) fun d hd s9 H9 K9 => ?_⟩
    obtain ⟨tx, htx, rfl⟩ := mem_strs hd
    have S9 := S8.take dd.a H9 K9
    have Q9 := Q8.trans (K9.more (ks' := [i, j7, j8]) (by simp))
    try simp only [wp_cons, wp_nil, wp_asg, wp_expr, wp_retS, wp_retN, wp_iteS, wp_pass, wp_brk, wp_cont, wp_setIx, wp_augX, wp_asgT, wp_for, wp_varX, wp_cst, wp_bin, wp_cmp, wp_cmpT, wp_chainT, wp_andT, wp_orT, wp_notT, wp_iteE, wp_idx, wp_sl, wp_call, wp_bi, wp_tup, wp_lst, wp_dict0, wp_meth, wp_lc, wp_evs_nil, wp_evs_cons, wp_evo_none, wp_evo_some, wp_seq, wp_enum, wp_rng1, wp_rng2, wp_idxT, wp_varT, wp_callT, wp_biT, x_truB, tsto_none, tsto_some,
  seqQ_nx, seqQ_ret, seqQ_bk, seqQ_ct, endQ_ret, endQ_nx, varQ_some, lstQ_some, dctQ_some, optQ_some, blQ_bl, inQ_int, rgQ_int, rg2Q_int,
  x_eqSS, x_eqII, x_neSS, x_neII, str_we, str_ew, decide_true, decide_false, if_true, if_false, Bool.false_eq_true, reduceIte, x_addI, x_addT, x_addS, x_addL, x_subI, x_mulI, x_divI, x_modI, x_powI, x_ltI, x_leI, x_gtI, x_geI, x_is, x_isnot, x_isB, x_isNB, x_ixT, x_ixF, x_abs, x_lenT, x_lenF, x_intI, x_intB, x_max2, x_min2, x_seqT, x_seqF, x_slT, x_slF,
  List.map_cons, List.map_nil, List.length_cons, List.length_nil, List.cons_append, List.nil_append, List.replicate_succ, List.replicate_zero, Nat.reduceSub, Nat.reduceAdd, List.set_cons_zero, List.set_cons_succ, List.getElem?_cons_zero, List.getElem?_cons_succ, Nat.add_zero, Nat.zero_add, Nat.sub_self, decide_eq_true_eq]
    rw [x_ixD S9.d8, getKv_put, if_pos rfl]
    refine ⟨kind_strs hK5.keys g, ?_⟩
    try simp only [wp_cons, wp_nil, wp_asg, wp_expr, wp_retS, wp_retN, wp_iteS, wp_pass, wp_brk, wp_cont, wp_setIx, wp_augX, wp_asgT, wp_for, wp_varX, wp_cst, wp_bin, wp_cmp, wp_cmpT, wp_chainT, wp_andT, wp_orT, wp_notT, wp_iteE, wp_idx, wp_sl, wp_call, wp_bi, wp_tup, wp_lst, wp_dict0, wp_meth, wp_lc, wp_evs_nil, wp_evs_cons, wp_evo_none, wp_evo_some, wp_seq, wp_enum, wp_rng1, wp_rng2, wp_idxT, wp_varT, wp_callT, wp_biT, x_truB, tsto_none, tsto_some,
  seqQ_nx, seqQ_ret, seqQ_bk, seqQ_ct, endQ_ret, endQ_nx, varQ_some, lstQ_some, dctQ_some, optQ_some, blQ_bl, inQ_int, rgQ_int, rg2Q_int,
  x_eqSS, x_eqII, x_neSS, x_neII, str_we, str_ew, decide_true, decide_false, if_true, if_false, Bool.false_eq_true, reduceIte, x_addI, x_addT, x_addS, x_addL, x_subI, x_mulI, x_divI, x_modI, x_powI, x_ltI, x_leI, x_gtI, x_geI, x_is, x_isnot, x_isB, x_isNB, x_ixT, x_ixF, x_abs, x_lenT, x_lenF, x_intI, x_intB, x_max2, x_min2, x_seqT, x_seqF, x_slT, x_slF,
  List.map_cons, List.map_nil, List.length_cons, List.length_nil, List.cons_append, List.nil_append, List.replicate_succ, List.replicate_zero, Nat.reduceSub, Nat.reduceAdd, List.set_cons_zero, List.set_cons_succ, List.getElem?_cons_zero, List.getElem?_cons_succ, Nat.add_zero, Nat.zero_add, Nat.sub_self, decide_eq_true_eq]
    refine ⟨by decide, ?_⟩
    have fin := turn2_wp (C := C) bt dd (cnt := cnt) (hol := hol) (e3 := e3) (e5 := e5) (e9 := some (optD o)) (e10 := some (.int way)) (e11 := some (.str g)) (e12 := some (.str tx)) (e14 := some (.str key)) (e15 := some (.int tm2)) (r := .word g (n0 + inc) o key tx tm2) S9 (by omega) hL hp ⟨hg, by omega, by omega, hks _ hkey, htx, ht'.1, ht'.2, ho⟩ hl hK5 Q9
    exact wp_mono fin fun fl s' h => h.mono (by omega)
  · simp only [if_neg hway]
    refine ⟨by decide, ?_⟩
    have hat : (s3 ++ [Ob.lst [optD o, .int 1]])[s3.length]? = some (.lst [optD o, .int 1]) := by simp
    have S4 := S3.app [Ob.lst [optD o, .int 1]]
    have Q4 : Kp [i, j7, j8] s (s3 ++ [Ob.lst [optD o, .int 1]]) := Q3.trans (Kp.app _ _ _)
    have go : ∀ dl : Int, 1 ≤ dl → dl ≤ 999999 → wp (callDef C1 5 take_b [D.ob i, D.int 3]) (fun x s1 => wp (cmpD .Gt x (.int 0)) (fun d1 s2 => 4 ≤ bigN ∧ wp (runs C turn2_b [some (.ob i), some (.int cnt), some (.bl hol), e3, some (.ob j4), e5, some (.int p), some (.ob j7), some (.ob j8), some (optD o), some (.int way), some (.str g), e12, some (.tup [.str "end", .str g, .int dl, d1]), e14, e15]) (TurnQ i j4 j7 j8 ks cnt hol e3 p (L.length + 1) (n + 10) (m + 1) s) s2) s1) (s3 ++ [Ob.lst [optD o, .int 1]]) := by
      intro dl d1 d2
      refine take_wp S4.hand (by omega) (by decide) (by decide) fun rr s5 H5 K5 r0 r1 => ?_
      have S5 := S4.take dd.a H5 K5
      have Q5 := Q4.trans (K5.more (ks' := [i, j7, j8]) (by simp))
      rw [x_gtI]
      refine ⟨by decide, ?_⟩
      have fin := turn2_wp (C := C) bt dd (cnt := cnt) (hol := hol) (e3 := e3) (e5 := e5) (e9 := some (optD o)) (e10 := some (.int way)) (e11 := some (.str g)) (e12 := e12) (e14 := e14) (e15 := e15) (r := .fin g dl (decide (rr > 0))) S5 (by omega) hL hp ⟨hg, d1, d2⟩ hl hK.up Q5
      exact wp_mono fin fun fl s' h => h.mono (by omega)
    rw [x_ixL hat]
    cases o with
    | none => exact go 1 (by decide) (by decide)
    | some z => exact go z (ho z rfl).1 (ho z rfl).2
end W9

/-! W9R: a whole log of the laws -/
namespace W9
open PySem L2
theorem cut_map {α β : Type} (f : α → β) (l : List α) (lo hi : Option Int) : cutL (l.map f) lo hi = (cutL l lo hi).map f := by
  unfold cutL
  simp only [List.length_map, List.map_take, List.map_drop]
theorem cut_some {α : Type} {l : List α} (h : l ≠ []) {r : Int} (hr : 0 ≤ r) : cutL l none (some (1 + r)) ≠ [] := by
  unfold cutL
  simp only [HT.sIx]
  rw [if_neg (by omega)]
  intro e
  have := congrArg List.length e
  have hl : 0 < l.length := List.length_pos_iff.mpr h
  simp only [List.length_take, List.length_drop, List.length_nil] at this
  omega
theorem cut_sub {α : Type} {l : List α} {lo hi : Option Int} {x : α} (h : x ∈ cutL l lo hi) : x ∈ l := by
  unfold cutL at h
  exact List.mem_of_mem_drop (List.mem_of_mem_take h)
theorem cut_le {α : Type} {l : List α} {lo hi : Option Int} : (cutL l lo hi).length ≤ l.length := by
  unfold cutL
  simp only [List.length_take, List.length_drop]
  omega
theorem keys_ne' {r : Int} (h0 : 0 ≤ r) (h1 : r < 2) : keysM r ≠ [] := by
  have : r = 0 ∨ r = 1 := by omega
  rcases this with rfl | rfl
  · exact keys_ne.1
  · exact keys_ne.2
theorem Kp.fresh {i j7 j8 : Nat} {s s1 s2 : Store} (a : Kp [i] s s1) (b : Kp [i, j7, j8] s1 s2) (h7 : s.length ≤ j7) (h8 : s.length ≤ j8) : Kp [i] s s2 := by
  refine ⟨Nat.le_trans a.len b.len, fun k o hk e => ?_⟩
  have : k < s.length := (List.getElem?_eq_some_iff.mp e).1
  refine b.at' k o ?_ (a.at' k o hk e)
  simp only [List.mem_cons, List.not_mem_nil, or_false] at hk ⊢
  omega
theorem rng_small {c : Int} (h0 : 0 ≤ c) (h1 : c ≤ 1000) : rngOk c = true := by
  unfold rngOk
  rw [decide_eq_true (by omega), decide_eq_true (by omega)]
  rfl
theorem log_wp {C C1 C2 : Cts} (bt : C.fn "_law_take" = callDef C1 5 take_b) (bk : C.fn "_law_keys" = callDef C2 4 keys_b) (bp : ∃ C', C2.fn "_law_part" = callDef C' 4 part_b) {i : Nat} {cnt n : Int} {hol : Bool} {s : Store} {QD : D → Store → Prop}
    (H : HandA i n s) (hn : n < 2 ^ 37) (hc : 0 ≤ cnt) (hc2 : cnt ≤ 100)
    (q : ∀ L s', Made L 1000 → (L.length : Int) = cnt → HandA i (n + 3 + 10 * cnt) s' → Kp [i] s s' → QD (logT L) s') : wp (callDef C 16 log_b [.ob i, .int cnt, .bl hol]) QD s := by
  have hi := H.lt
  unfold log_b
  rw [wp_callDef]
  simp only [wp_cons, wp_nil, wp_asg, wp_expr, wp_retS, wp_retN, wp_iteS, wp_pass, wp_brk, wp_cont, wp_setIx, wp_augX, wp_asgT, wp_for, wp_varX, wp_cst, wp_bin, wp_cmp, wp_cmpT, wp_chainT, wp_andT, wp_orT, wp_notT, wp_iteE, wp_idx, wp_sl, wp_call, wp_bi, wp_tup, wp_lst, wp_dict0, wp_meth, wp_lc, wp_evs_nil, wp_evs_cons, wp_evo_none, wp_evo_some, wp_seq, wp_enum, wp_rng1, wp_rng2, wp_idxT, wp_varT, wp_callT, wp_biT, x_truB, tsto_none, tsto_some,
  seqQ_nx, seqQ_ret, seqQ_bk, seqQ_ct, endQ_ret, endQ_nx, varQ_some, lstQ_some, dctQ_some, optQ_some, blQ_bl, inQ_int, rgQ_int, rg2Q_int,
  x_eqSS, x_eqII, x_neSS, x_neII, str_we, str_ew, decide_true, decide_false, if_true, if_false, Bool.false_eq_true, reduceIte, x_addI, x_addT, x_addS, x_addL, x_subI, x_mulI, x_divI, x_modI, x_powI, x_ltI, x_leI, x_gtI, x_geI, x_is, x_isnot, x_isB, x_isNB, x_ixT, x_ixF, x_abs, x_lenT, x_lenF, x_intI, x_intB, x_max2, x_min2, x_seqT, x_seqF, x_slT, x_slF,
  List.map_cons, List.map_nil, List.length_cons, List.length_nil, List.cons_append, List.nil_append, List.replicate_succ, List.replicate_zero, Nat.reduceSub, Nat.reduceAdd, List.set_cons_zero, List.set_cons_succ, List.getElem?_cons_zero, List.getElem?_cons_succ, Nat.add_zero, Nat.zero_add, Nat.sub_self, decide_eq_true_eq, bt, bk]
  refine take_wp H (by omega) (by decide) (by decide) fun part s1 H1 K1 a0 a1 => ?_
  refine keys_wp bp fun s2 p2 => ?_
  have H2 : HandA i (n + 1) (s2 ++ [.lst ((keysM part).map D.str)]) := (H1.kp (Kp.pre p2 []) (by simp)).app _
  have K2 : Kp [i] s (s2 ++ [.lst ((keysM part).map D.str)]) := (K1.trans (Kp.pre p2 [i])).trans (Kp.app _ _ _)
  have hi2 : i < s2.length := Nat.lt_of_lt_of_le H1.lt p2.length_le
  refine take_wp H2 (by omega) (by decide) (by decide) fun r7 s3 H3 K3 b0 b1 => ?_
  have hat3 : s3[s2.length]? = some (.lst ((keysM part).map D.str)) := K3.at' _ _ (by simp; omega) (by simp)
  have Q3 := K2.trans K3
  try simp only [wp_cons, wp_nil, wp_asg, wp_expr, wp_retS, wp_retN, wp_iteS, wp_pass, wp_brk, wp_cont, wp_setIx, wp_augX, wp_asgT, wp_for, wp_varX, wp_cst, wp_bin, wp_cmp, wp_cmpT, wp_chainT, wp_andT, wp_orT, wp_notT, wp_iteE, wp_idx, wp_sl, wp_call, wp_bi, wp_tup, wp_lst, wp_dict0, wp_meth, wp_lc, wp_evs_nil, wp_evs_cons, wp_evo_none, wp_evo_some, wp_seq, wp_enum, wp_rng1, wp_rng2, wp_idxT, wp_varT, wp_callT, wp_biT, x_truB, tsto_none, tsto_some,
  seqQ_nx, seqQ_ret, seqQ_bk, seqQ_ct, endQ_ret, endQ_nx, varQ_some, lstQ_some, dctQ_some, optQ_some, blQ_bl, inQ_int, rgQ_int, rg2Q_int,
  x_eqSS, x_eqII, x_neSS, x_neII, str_we, str_ew, decide_true, decide_false, if_true, if_false, Bool.false_eq_true, reduceIte, x_addI, x_addT, x_addS, x_addL, x_subI, x_mulI, x_divI, x_modI, x_powI, x_ltI, x_leI, x_gtI, x_geI, x_is, x_isnot, x_isB, x_isNB, x_ixT, x_ixF, x_abs, x_lenT, x_lenF, x_intI, x_intB, x_max2, x_min2, x_seqT, x_seqF, x_slT, x_slF,
  List.map_cons, List.map_nil, List.length_cons, List.length_nil, List.cons_append, List.nil_append, List.replicate_succ, List.replicate_zero, Nat.reduceSub, Nat.reduceAdd, List.set_cons_zero, List.set_cons_succ, List.getElem?_cons_zero, List.getElem?_cons_succ, Nat.add_zero, Nat.zero_add, Nat.sub_self, decide_eq_true_eq]
  rw [x_slL hat3, cut_map]
  generalize hks : cutL (keysM part) none (some (1 + r7)) = ks
  have hk0 : ks ≠ [] := by rw [← hks]; exact cut_some (keys_ne' a0 a1) b0
  have hk1 : ks.length ≤ 14 := by
    rw [← hks]
    exact Nat.le_trans cut_le (Nat.le_trans (List.length_filter_le _ _) (by decide))
  have hkl : ∀ k ∈ ks, k ∈ lotS := fun k hk => by
    rw [← hks] at hk
    exact (List.mem_filter.mp (cut_sub hk)).1
  have H3' := H3.app [.lst (ks.map D.str)]
  refine take_wp H3' (by omega) (by decide) (by decide) fun r5 s4 H4 K4 c0 c1 => ?_
  have hat4 : s4[s3.length]? = some (.lst (ks.map D.str)) := K4.at' _ _ (by have := H3.lt; simp; omega) (by simp)
  have Q4 := (Q3.trans (Kp.app [i] s3 [.lst (ks.map D.str)])).trans K4
  refine ⟨by decide, ?_⟩
  rw [x_ixL (xs := [.int 0, .int r5]) (by simp)]
  have hp : ∃ p : Int, 0 ≤ p ∧ p ≤ 4 ∧ atI [D.int 0, D.int r5] (if hol = true then 1 else 0) = some (.int p) := by
    cases hol with
    | true => exact ⟨r5, c0, by omega, rfl⟩
    | false => exact ⟨0, by decide, by decide, rfl⟩
  obtain ⟨p, p0, p1, hpk⟩ := hp
  rw [hpk, optQ_some]
  have l4 : s3.length < s4.length := (List.getElem?_eq_some_iff.mp hat4).1
  have e1 : (s4 ++ [Ob.lst [D.int 0, D.int r5]]).length = s4.length + 1 := by simp
  have e2 : (s4 ++ [Ob.lst [D.int 0, D.int r5]] ++ [Ob.lst []]).length = s4.length + 2 := by simp
  rw [e2, e1]
  generalize hs5 : s4 ++ [Ob.lst [D.int 0, D.int r5]] ++ [Ob.lst []] ++ [Ob.dct []] = s5
  have S5 : LSt i s3.length (s4.length + 1) (s4.length + 2) (ks.map D.str) (([] : List Ent).map entD) [] (n + 3) s5 := by
    rw [← hs5]
    refine ⟨((H4.app _).app _).app _ |>.mono (by omega), ?_, by simp, by simp⟩
    rw [List.append_assoc, List.append_assoc, List.getElem?_append_left l4]
    exact hat4
  have Q5 : Kp [i] s s5 := by
    rw [← hs5]
    exact ((Q4.trans (Kp.app _ _ _)).trans (Kp.app _ _ _)).trans (Kp.app _ _ _)
  have hs4 : s.length ≤ s4.length := Q4.len
  have hi3 := H3.lt
  have dd : Dst i s3.length (s4.length + 1) (s4.length + 2) := ⟨⟨by omega, by omega, by omega⟩, ⟨by omega, by omega, by omega⟩, ⟨by omega, by omega, by omega⟩⟩
  refine ⟨by decide, by decide, envT i s3.length (s4.length + 1) (s4.length + 2) cnt p hol (some (.int part)) none none none none none none none none, rfl, ?_⟩
  unfold envT
  simp only [wp_cons, wp_nil, wp_asg, wp_expr, wp_retS, wp_retN, wp_iteS, wp_pass, wp_brk, wp_cont, wp_setIx, wp_augX, wp_asgT, wp_for, wp_varX, wp_cst, wp_bin, wp_cmp, wp_cmpT, wp_chainT, wp_andT, wp_orT, wp_notT, wp_iteE, wp_idx, wp_sl, wp_call, wp_bi, wp_tup, wp_lst, wp_dict0, wp_meth, wp_lc, wp_evs_nil, wp_evs_cons, wp_evo_none, wp_evo_some, wp_seq, wp_enum, wp_rng1, wp_rng2, wp_idxT, wp_varT, wp_callT, wp_biT, x_truB, tsto_none, tsto_some,
  seqQ_nx, seqQ_ret, seqQ_bk, seqQ_ct, endQ_ret, endQ_nx, varQ_some, lstQ_some, dctQ_some, optQ_some, blQ_bl, inQ_int, rgQ_int, rg2Q_int,
  x_eqSS, x_eqII, x_neSS, x_neII, str_we, str_ew, decide_true, decide_false, if_true, if_false, Bool.false_eq_true, reduceIte, x_addI, x_addT, x_addS, x_addL, x_subI, x_mulI, x_divI, x_modI, x_powI, x_ltI, x_leI, x_gtI, x_geI, x_is, x_isnot, x_isB, x_isNB, x_ixT, x_ixF, x_abs, x_lenT, x_lenF, x_intI, x_intB, x_max2, x_min2, x_seqT, x_seqF, x_slT, x_slF,
  List.map_cons, List.map_nil, List.length_cons, List.length_nil, List.cons_append, List.nil_append, List.replicate_succ, List.replicate_zero, Nat.reduceSub, Nat.reduceAdd, List.set_cons_zero, List.set_cons_succ, List.getElem?_cons_zero, List.getElem?_cons_succ, Nat.add_zero, Nat.zero_add, Nat.sub_self, decide_eq_true_eq]
  refine ⟨rng_small hc (by omega), ?_⟩
  unfold rngI
  refine wp_loopF_map (gd := none) (fun k : Nat => D.int (0 + (k : Int))) (List.range (cnt - 0).toNat) (fun P env s' => ∃ f5 f9 f10 f11 f12 f13 f14 f15 L kvs p', env = envT i s3.length (s4.length + 1) (s4.length + 2) cnt p' hol (some (.int part)) f5 f9 f10 f11 f12 f13 f14 f15 ∧
      LSt i s3.length (s4.length + 1) (s4.length + 2) (ks.map D.str) (L.map entD) kvs (n + 3 + 10 * P.length) s' ∧ L.length = P.length ∧ Made L p' ∧ 0 ≤ p' ∧ p' ≤ 4 + 6 * P.length ∧ LastK kvs P.length ∧ Kp [i, s4.length + 1, s4.length + 2] s5 s') ?_ ?_
      ⟨none, none, none, none, none, none, none, none, [], [], p, rfl, S5.mono (by simp), rfl, ⟨List.Pairwise.nil, fun _ he => (nomatch he), fun _ he => (nomatch he)⟩, p0, by simp; omega, ⟨fun _ hx => (nomatch hx), by simp, fun g => .inl rfl⟩, Kp.refl _ _⟩
  · rintro P a R env s' hL ⟨f5, f9, f10, f11, f12, f13, f14, f15, L, kvs, p', rfl, S6, hLl, hM, q0, q1, hK, K6⟩
    refine ⟨rfl, ?_⟩
    have hPl : P.length + 1 ≤ 100 := by
      have := congrArg List.length hL
      simp only [List.length_range, List.length_append, List.length_cons] at this
      omega
    rw [wp_forF (env1 := envT i s3.length (s4.length + 1) (s4.length + 2) cnt p' hol (some (.int part)) (some (.int (0 + (a : Int)))) f9 f10 f11 f12 f13 f14 f15) rfl]
    refine wp_mono (turn_wp bt dd S6 (by omega) hkl hk0 hk1 hM q0 (by omega) hK (by omega) (by omega)) fun fl s7 hT => ?_
    obtain ⟨g5, g9, g10, g11, g12, g13, g14, g15, L', kvs', p2, rfl, S7, hl7, hM7, q2, q3, hK7, K7⟩ := hT
    refine ⟨g5, g9, g10, g11, g12, g13, g14, g15, L', kvs', p2, rfl, S7.mono ?_, ?_, hM7, by omega, ?_, ?_, K6.trans K7⟩
    · simp only [List.length_append, List.length_cons, List.length_nil]; omega
    · simp only [List.length_append, List.length_cons, List.length_nil]; omega
    · simp only [List.length_append, List.length_cons, List.length_nil]; omega
    · have : ((P ++ [a]).length : Int) = (P.length : Int) + 1 := by simp
      rw [this]
      exact hK7
  · rintro env s' ⟨f5, f9, f10, f11, f12, f13, f14, f15, L, kvs, p', rfl, S6, hLl, hM, q0, q1, hK, K6⟩
    refine ⟨rfl, ?_⟩
    simp only [List.length_range] at hLl q1 S6
    unfold envT
    simp only [wp_cons, wp_nil, wp_asg, wp_expr, wp_retS, wp_retN, wp_iteS, wp_pass, wp_brk, wp_cont, wp_setIx, wp_augX, wp_asgT, wp_for, wp_varX, wp_cst, wp_bin, wp_cmp, wp_cmpT, wp_chainT, wp_andT, wp_orT, wp_notT, wp_iteE, wp_idx, wp_sl, wp_call, wp_bi, wp_tup, wp_lst, wp_dict0, wp_meth, wp_lc, wp_evs_nil, wp_evs_cons, wp_evo_none, wp_evo_some, wp_seq, wp_enum, wp_rng1, wp_rng2, wp_idxT, wp_varT, wp_callT, wp_biT, x_truB, tsto_none, tsto_some,
  seqQ_nx, seqQ_ret, seqQ_bk, seqQ_ct, endQ_ret, endQ_nx, varQ_some, lstQ_some, dctQ_some, optQ_some, blQ_bl, inQ_int, rgQ_int, rg2Q_int,
  x_eqSS, x_eqII, x_neSS, x_neII, str_we, str_ew, decide_true, decide_false, if_true, if_false, Bool.false_eq_true, reduceIte, x_addI, x_addT, x_addS, x_addL, x_subI, x_mulI, x_divI, x_modI, x_powI, x_ltI, x_leI, x_gtI, x_geI, x_is, x_isnot, x_isB, x_isNB, x_ixT, x_ixF, x_abs, x_lenT, x_lenF, x_intI, x_intB, x_max2, x_min2, x_seqT, x_seqF, x_slT, x_slF,
  List.map_cons, List.map_nil, List.length_cons, List.length_nil, List.cons_append, List.nil_append, List.replicate_succ, List.replicate_zero, Nat.reduceSub, Nat.reduceAdd, List.set_cons_zero, List.set_cons_succ, List.getElem?_cons_zero, List.getElem?_cons_succ, Nat.add_zero, Nat.zero_add, Nat.sub_self, decide_eq_true_eq]
    rw [x_tupL S6.f7]
    refine q L s' ⟨hM.srt, hM.rc, fun e he => ⟨(hM.pl e he).1, by have := (hM.pl e he).2; omega⟩⟩ (by omega) (S6.hand.mono (by omega)) (Q5.fresh K6 (by omega) (by omega))
end W9

/-! W9S: ends of a log; data that are shown -/
namespace W9
open PySem L2
theorem wp_neg {C : Cts} {a : Ex} {env : Env} {QD : D → Store → Prop} {st : Store} : wp ((bo C (.neg a)).1 env) QD st ↔ wp ((bo C a).1 env) (fun x s => wp (negD x) QD s) st := by
  conv => lhs; unfold bo
  simp only [wp_bind]
theorem x_neg {i : Int} {QD : D → Store → Prop} {st : Store} : wp (negD (.int i)) QD st ↔ QD (.int (-i)) st := wp_ok rfl
def optP : Option Int → PyData
  | none => .none
  | some i => .int i
def recP : Rec → PyData
  | .word g n dl k t tm => .tuple [.str "word", .str g, .int n, optP dl, .str k, .str t, .int tm]
  | .fin g dl b => .tuple [.str "end", .str g, .int dl, .bool b]
def entP (e : Ent) : PyData := .tuple [.int e.1, recP e.2]
theorem py_rec (f : Nat → Option PyData) (r : Rec) : pyG f (recD r) = some (recP r) := by
  cases r with
  | word g n dl k t tm => cases dl <;> rfl
  | fin g dl b => rfl
theorem py_ent (f : Nat → Option PyData) (e : Ent) : pyG f (entD e) = some (entP e) := by
  unfold entD entP
  simp only [pyG, pyGs, py_rec]
theorem py_map {α : Type} (f : Nat → Option PyData) (d : α → D) (p : α → PyData) (h : ∀ a, pyG f (d a) = some (p a)) : ∀ L : List α, pyGs f (L.map d) = some (L.map p)
  | [] => rfl
  | a :: L => by simp only [List.map_cons, pyGs, h a, py_map f d p h L]
theorem py_log (st : Store) (L : List Ent) : pyD st (logT L) = some (.tuple (L.map entP)) := by
  unfold pyD logT
  simp only [pyG, py_map _ entD entP (py_ent _) L]
theorem lay_map {α : Type} (p : α → PyData) : ∀ L : List α, (∀ a ∈ L, (p a).canLay0 = true) → PyData.canLayAll0 (L.map p) = true
  | [], _ => rfl
  | a :: L, h => by
    simp only [List.map_cons, PyData.canLayAll0, h a List.mem_cons_self, lay_map p L fun b hb => h b (List.mem_cons_of_mem _ hb), Bool.and_self]
theorem show_map {α : Type} (p : α → PyData) : ∀ L : List α, (∀ a ∈ L, (p a).showable = true) → PyData.showableAll (L.map p) = true
  | [], _ => rfl
  | a :: L, h => by
    simp only [List.map_cons, PyData.showableAll, h a List.mem_cons_self, show_map p L fun b hb => h b (List.mem_cons_of_mem _ hb), Bool.and_self]
theorem depth_map {α : Type} (p : α → PyData) (n : Nat) : ∀ L : List α, (∀ a ∈ L, (p a).depth ≤ n) → PyData.depthAll (L.map p) ≤ n
  | [], _ => Nat.zero_le _
  | a :: L, h => by
    simp only [List.map_cons, PyData.depthAll]
    exact Nat.max_le.mpr ⟨h a List.mem_cons_self, depth_map p n L fun b hb => h b (List.mem_cons_of_mem _ hb)⟩
theorem rsz_map {α : Type} (p : α → PyData) (n : Nat) : ∀ L : List α, (∀ a ∈ L, rsz (p a) ≤ n) → rszs (L.map p) ≤ (n + 2) * L.length
  | [], _ => Nat.zero_le _
  | a :: L, h => by
    simp only [List.map_cons, rszs, List.length_cons]
    have h1 := h a List.mem_cons_self
    have h2 := rsz_map p n L fun b hb => h b (List.mem_cons_of_mem _ hb)
    rw [Nat.mul_add]
    omega
theorem giv_ok : ∀ z ∈ givS, PyData.strOk z = true ∧ z ≠ "book" := by decide +kernel
theorem tex_ok : ∀ z ∈ texS, PyData.strOk z = true ∧ z.length ≤ 10 := by decide +kernel
theorem Made.wf {L : List Ent} {t : Int} (h : Made L t) : Wf L := by
  intro e he
  have := h.rc e he
  cases hr : e.2 with
  | word g n dl k t tm => rw [hr] at this; exact (giv_ok g this.1).2
  | fin g d b => rw [hr] at this; exact (giv_ok g this.1).2
theorem Made.wfs {L : List Ent} {t : Int} (h : Made L t) : WfS L := by
  intro e he
  have := h.rc e he
  cases hr : e.2 with
  | word g n dl k t tm => rw [hr] at this; exact (giv_ok g this.1).1
  | fin g d b => rw [hr] at this; exact (giv_ok g this.1).1
theorem ent_lay {e : Ent} (h : GoodR e.2) : (entP e).canLay0 = true := by
  obtain ⟨p, r⟩ := e
  cases r with
  | word g n dl k t tm =>
    have h1 := (giv_ok g h.1).1
    have h2 := (lot_ok k h.2.2.2.1).2.2.1
    have h3 := (tex_ok t h.2.2.2.2.1).1
    cases dl <;> simp only [entP, recP, optP, PyData.canLay0, PyData.canLayAll0, h1, h2, h3, ok_word, Bool.and_self, Bool.and_true]
  | fin g d b =>
    have h1 := (giv_ok g h.1).1
    simp only [entP, recP, PyData.canLay0, PyData.canLayAll0, h1, ok_end, Bool.and_self, Bool.and_true]
theorem ent_depth (e : Ent) : (entP e).depth ≤ 10 := by
  obtain ⟨p, r⟩ := e
  cases r with
  | word g n dl k t tm => cases dl <;> simp [entP, recP, optP, PyData.depth, PyData.depthAll]
  | fin g d b => simp [entP, recP, PyData.depth, PyData.depthAll]
theorem log_shaped {L : List Ent} {t : Int} (h : Made L t) : SeqAt.shaped (.tuple (L.map entP)) = true := by
  have h1 := lay_map entP L fun a ha => ent_lay (h.rc a ha)
  have h2 := depth_map entP 10 L fun a _ => ent_depth a
  have h3 : (PyData.tuple (L.map entP)).depth ≤ 64 := by
    simp only [PyData.depth]
    omega
  have h4 : (PyData.tuple (L.map entP)).canLay0 = true := by simp only [PyData.canLay0]; exact h1
  unfold SeqAt.shaped
  rw [h4, decide_eq_true h3]
  rfl
theorem ne_empty {L : List Ent} {t : Int} {QD : D → Store → Prop} {st : Store} (h : Made L t) : wp (cmpD .NotEq (logT L) (.tup [])) QD st ↔ QD (.bl (!L.isEmpty)) st := by
  rw [x_neP (p := .tuple (L.map entP)) (q := .tuple []) rfl (py_log st L) rfl (log_shaped h) rfl]
  cases L with
  | nil => simp [PyData.eqv, PyData.eqvAll]
  | cons a L => simp [PyData.eqv, PyData.eqvAll]
def ends_b : Sms :=
  (.cons (.asg 1 (.ite (.cmp .NotEq (.var 0) (.tup .nil)) (.bin .Add (.idx (.idx (.var 0) (.neg (.cst (.int 1)))) (.cst (.int 0))) (.cst (.int 1))) (.cst (.int 0))))
    (.cons (.ret (.lst (.cons (.cst (.int 0)) (.cons (.var 1) (.cons (.bin .Add (.var 1) (.cst (.int 3))) .nil)))))
    .nil))
theorem at_last {α : Type} {xs : List α} (h : xs ≠ []) : ∃ x ∈ xs, atI xs (-1) = some x := by
  have hl : 0 < xs.length := List.length_pos_iff.mpr h
  have hi : xs.length - 1 < xs.length := by omega
  refine ⟨xs[xs.length - 1], List.getElem_mem hi, ?_⟩
  unfold atI ixN
  rw [if_neg (by decide), if_pos (by omega)]
  have : ((-1 : Int) + (xs.length : Int)).toNat = xs.length - 1 := by omega
  simp only [this, Option.bind_some]
  exact List.getElem?_eq_getElem hi
theorem ends_wp {C : Cts} {L : List Ent} {st : Store} {QD : D → Store → Prop} (h : Made L 1000) (q : ∀ a, 0 ≤ a → a ≤ 1000 → QD (.ob st.length) (st ++ [.lst [.int 0, .int a, .int (a + 3)]])) : wp (callDef C 2 ends_b [logT L]) QD st := by
  unfold ends_b
  simp only [wp_callDef, wp_cons, wp_nil, wp_asg, wp_expr, wp_retS, wp_retN, wp_iteS, wp_pass, wp_brk, wp_cont, wp_setIx, wp_augX, wp_asgT, wp_for, wp_varX, wp_cst, wp_bin, wp_cmp, wp_cmpT, wp_chainT, wp_andT, wp_orT, wp_notT, wp_iteE, wp_idx, wp_sl, wp_call, wp_bi, wp_tup, wp_lst, wp_dict0, wp_meth, wp_lc, wp_evs_nil, wp_evs_cons, wp_evo_none, wp_evo_some, wp_seq, wp_enum, wp_rng1, wp_rng2, wp_idxT, wp_varT, wp_callT, wp_biT, x_truB, tsto_none, tsto_some,
  seqQ_nx, seqQ_ret, seqQ_bk, seqQ_ct, endQ_ret, endQ_nx, varQ_some, lstQ_some, dctQ_some, optQ_some, blQ_bl, inQ_int, rgQ_int, rg2Q_int,
  x_eqSS, x_eqII, x_neSS, x_neII, str_we, str_ew, decide_true, decide_false, if_true, if_false, Bool.false_eq_true, reduceIte, x_addI, x_addT, x_addS, x_addL, x_subI, x_mulI, x_divI, x_modI, x_powI, x_ltI, x_leI, x_gtI, x_geI, x_is, x_isnot, x_isB, x_isNB, x_ixT, x_ixF, x_abs, x_lenT, x_lenF, x_intI, x_intB, x_max2, x_min2, x_seqT, x_seqF, x_slT, x_slF,
  List.map_cons, List.map_nil, List.length_cons, List.length_nil, List.cons_append, List.nil_append, List.replicate_succ, List.replicate_zero, Nat.reduceSub, Nat.reduceAdd, List.set_cons_zero, List.set_cons_succ, List.getElem?_cons_zero, List.getElem?_cons_succ, Nat.add_zero, Nat.zero_add, Nat.sub_self, decide_eq_true_eq, ne_empty h, wp_neg, x_neg]
  by_cases hL : L = []
  · subst hL
    simp only [List.isEmpty_nil, Bool.not_true, Bool.false_eq_true, if_false]
    refine ⟨by decide, by decide, q 0 (by decide) (by decide)⟩
  · have he : L.isEmpty = false := by cases L <;> first | rfl | exact absurd rfl hL
    simp only [he, Bool.not_false, if_true]
    have hL' : L.map entD ≠ [] := by simpa using hL
    obtain ⟨x, hx, hat⟩ := at_last hL'
    obtain ⟨e, hem, rfl⟩ := List.mem_map.mp hx
    have hp := h.pl e hem
    rw [hat]
    unfold entD
    simp only [wp_callDef, wp_cons, wp_nil, wp_asg, wp_expr, wp_retS, wp_retN, wp_iteS, wp_pass, wp_brk, wp_cont, wp_setIx, wp_augX, wp_asgT, wp_for, wp_varX, wp_cst, wp_bin, wp_cmp, wp_cmpT, wp_chainT, wp_andT, wp_orT, wp_notT, wp_iteE, wp_idx, wp_sl, wp_call, wp_bi, wp_tup, wp_lst, wp_dict0, wp_meth, wp_lc, wp_evs_nil, wp_evs_cons, wp_evo_none, wp_evo_some, wp_seq, wp_enum, wp_rng1, wp_rng2, wp_idxT, wp_varT, wp_callT, wp_biT, x_truB, tsto_none, tsto_some,
  seqQ_nx, seqQ_ret, seqQ_bk, seqQ_ct, endQ_ret, endQ_nx, varQ_some, lstQ_some, dctQ_some, optQ_some, blQ_bl, inQ_int, rgQ_int, rg2Q_int,
  x_eqSS, x_eqII, x_neSS, x_neII, str_we, str_ew, decide_true, decide_false, if_true, if_false, Bool.false_eq_true, reduceIte, x_addI, x_addT, x_addS, x_addL, x_subI, x_mulI, x_divI, x_modI, x_powI, x_ltI, x_leI, x_gtI, x_geI, x_is, x_isnot, x_isB, x_isNB, x_ixT, x_ixF, x_abs, x_lenT, x_lenF, x_intI, x_intB, x_max2, x_min2, x_seqT, x_seqF, x_slT, x_slF,
  List.map_cons, List.map_nil, List.length_cons, List.length_nil, List.cons_append, List.nil_append, List.replicate_succ, List.replicate_zero, Nat.reduceSub, Nat.reduceAdd, List.set_cons_zero, List.set_cons_succ, List.getElem?_cons_zero, List.getElem?_cons_succ, Nat.add_zero, Nat.zero_add, Nat.sub_self, decide_eq_true_eq, atE]
    refine ⟨by decide, by decide, q (e.1 + 1) (by omega) (by omega)⟩
def visP (v : Int × Str × Str × Int) : PyData := .tuple [.int v.1, .str v.2.1, .str v.2.2.1, .int v.2.2.2]
theorem log2_small {i : Int} (h0 : 0 ≤ i) (h : i ≤ 1000000) : decide (i.natAbs.log2 < 1920) = true := by
  rw [decide_eq_true_eq]
  by_cases hz : i.natAbs = 0
  · rw [hz]; decide
  · have : i.natAbs < 2 ^ 30 := by have : (i.natAbs : Int) = i := Int.natAbs_of_nonneg h0; omega
    have := (Nat.log2_lt hz).mpr this
    omega
theorem vis_of {L : List Ent} {e : Int} {v : Int × Str × Str × Int} (h : Made L 1000) (hv : v ∈ visM L e) : 0 ≤ v.1 ∧ v.1 < 1000 ∧ v.2.1 ∈ lotS ∧ v.2.2.1 ∈ texS ∧ 0 ≤ v.2.2.2 ∧ v.2.2.2 < 1000 := by
  rw [visM_eq] at hv
  obtain ⟨a, ha, hv⟩ := List.mem_filterMap.mp hv
  have hp := h.pl a ha
  have hr := h.rc a ha
  split at hv
  · unfold visOf at hv
    obtain ⟨p, r⟩ := a
    cases r with
    | word g n dl k t tm =>
      cases dl with
      | none =>
        have hv' : some (p, k, t, tm) = some v := hv
        cases hv'
        exact ⟨hp.1, hp.2, hr.2.2.2.1, hr.2.2.2.2.1, hr.2.2.2.2.2.1, hr.2.2.2.2.2.2.1⟩
      | some d =>
        dsimp only at hv
        split at hv
        · cases hv
          exact ⟨hp.1, hp.2, hr.2.2.2.1, hr.2.2.2.2.1, hr.2.2.2.2.2.1, hr.2.2.2.2.2.2.1⟩
        · cases hv
    | fin g d b => cases hv
  · cases hv
theorem visM_len {L : List Ent} {e : Int} : (visM L e).length ≤ L.length := by
  rw [visM_eq]
  exact List.length_filterMap_le _ _
theorem repr_vis {L : List Ent} {e : Int} {QD : D → Store → Prop} {st : Store} (h : Made L 1000) (hl : L.length ≤ 1000) : wp (biD .repr [.tup ((visM L e).map visD)]) QD st ↔ QD (.str (PyData.tuple ((visM L e).map visP)).shown) st := by
  have hvl := visM_len (L := L) (e := e)
  refine x_repr ?_ ?_ ?_ ?_ ?_
  · unfold pyD
    simp only [pyG, py_map _ visD visP (fun a => rfl)]
  · simp only [PyData.canLay0]
    refine lay_map visP _ fun a ha => ?_
    obtain ⟨h1, h2, h3, h4, h5, h6⟩ := vis_of h ha
    simp only [visP, PyData.canLay0, PyData.canLayAll0, (lot_ok _ h3).2.2.1, (tex_ok _ h4).1, Bool.and_self]
  · simp only [PyData.showable]
    refine show_map visP _ fun a ha => ?_
    obtain ⟨h1, h2, h3, h4, h5, h6⟩ := vis_of h ha
    simp only [visP, PyData.showable, PyData.showableAll, log2_small h1 (by omega), log2_small h5 (by omega), Bool.and_self]
  · have := depth_map visP 10 (visM L e) fun a _ => by simp [visP, PyData.depth, PyData.depthAll]
    simp only [PyData.depth]
    omega
  · have := rsz_map visP 5000 (visM L e) fun a ha => by
      obtain ⟨h1, h2, h3, h4, h5, h6⟩ := vis_of h ha
      have a1 := (lot_ok _ h3).2.2.2
      have a2 := (tex_ok _ h4).2
      simp only [visP, rsz, rszs]
      omega
    simp only [rsz]
    have h3 : (5000 + 2) * (visM L e).length ≤ 5002 * 1000 := Nat.mul_le_mul (Nat.le_refl _) (by omega)
    have : bigN = 16777216 := rfl
    omega
theorem repr_int {i : Int} {QD : D → Store → Prop} {st : Store} (h0 : 0 ≤ i) (h1 : i ≤ 1000000) : wp (biD .repr [.int i]) QD st ↔ QD (.str (PyData.int i).shown) st :=
  x_repr rfl rfl (log2_small h0 h1) (Nat.zero_le _) (show 1921 ≤ bigN by decide)
theorem settled_ge {L : List Ent} {e : Int} (h : Made L 1000) (he : 0 ≤ e) : 0 ≤ settledM L e := by
  unfold settledM stopM
  cases hf : (cutE L e).find? (openW (fstEnd (cutE L e))) with
  | none => exact he
  | some a => exact (h.pl a (List.mem_filter.mp (List.mem_of_find?_eq_some hf)).1).1
end W9

/-! the defs of law_k10_settled_and_visible (printed by gen.py) -/
namespace K10
open PySem L2 W9
def top (i : Nat) : Stmt := PySem.Challenge.pw_wholelog_k10_settled_and_visible.main.body.getD i (.Pass ⟨0, 0, 0, 0⟩)
def b_below : Sms :=
  (.cons (.ret (.lc [2] (.seq (.var 0)) (.name 2) (.some (.cmp .Lt (.idx (.var 2) (.cst (.int 0))) (.var 1))) (.var 2)))
    .nil)
def b_stop_of : Sms :=
  (.cons (.forS (.seq (.var 0)) (.tup [3, 4])
    (.cons (.ite (.and (.cmp .Eq (.idx (.var 4) (.cst (.int 0))) (.cst (.str "word"))) (.and (.cmp .IsNot (.idx (.var 4) (.cst (.int 3))) (.cst .non)) (.cmp .NotIn (.tup (.cons (.idx (.var 4) (.cst (.int 1))) (.cons (.idx (.var 4) (.cst (.int 3))) .nil))) (.var 1))))
    (.cons (.ret (.var 3))
    .nil)
    .nil)
    .nil))
    (.cons (.ret (.var 2))
    .nil))
def b_first_ends : Sms :=
  (.cons (.asg 1 .dict0)
    (.cons (.forS (.seq (.var 0)) (.tup [2, 3])
    (.cons (.ite (.cmp .Eq (.idx (.var 3) (.cst (.int 0))) (.cst (.str "end")))
    (.cons (.expr (.meth .setdefault (.var 1) (.cons (.tup (.cons (.idx (.var 3) (.cst (.int 1))) (.cons (.idx (.var 3) (.cst (.int 2))) .nil))) (.cons (.idx (.var 3) (.cst (.int 3))) .nil))))
    .nil)
    .nil)
    .nil))
    (.cons (.ret (.var 1))
    .nil)))
def b_visible : Sms :=
  (.cons (.asg 2 (.call "below" (.cons (.var 0) (.cons (.var 1) .nil))))
    (.cons (.asg 3 (.call "first_ends" (.cons (.var 2) .nil)))
    (.cons (.asg 4 (.lst .nil))
    (.cons (.forS (.seq (.call "below" (.cons (.var 2) (.cons (.call "stop_of" (.cons (.var 2) (.cons (.var 3) (.cons (.var 1) .nil)))) .nil)))) (.tup [5, 6])
    (.cons (.ite (.and (.cmp .Eq (.idx (.var 6) (.cst (.int 0))) (.cst (.str "word"))) (.or (.cmp .Is (.idx (.var 6) (.cst (.int 3))) (.cst .non)) (.idx (.var 3) (.tup (.cons (.idx (.var 6) (.cst (.int 1))) (.cons (.idx (.var 6) (.cst (.int 3))) .nil))))))
    (.cons (.expr (.meth .append (.var 4) (.cons (.bin .Add (.tup (.cons (.var 5) .nil)) (.sl (.var 6) (.some (.cst (.int 4))) .none)) .nil)))
    .nil)
    .nil)
    .nil))
    (.cons (.ret (.bi .tuple (.cons (.var 4) .nil)))
    .nil)))))
def b_l_first_end : Sms :=
  (.cons (.asg 4 (.lc [5, 6] (.seq (.var 0)) (.tup [5, 6]) (.some (.and (.cmp .Lt (.var 5) (.var 1)) (.cmp .Eq (.sl (.var 6) .none (.some (.cst (.int 3)))) (.tup (.cons (.cst (.str "end")) (.cons (.var 2) (.cons (.var 3) .nil))))))) (.idx (.var 6) (.cst (.int 3)))))
    (.cons (.ret (.idx (.bin .Add (.var 4) (.lst (.cons (.cst .non) .nil))) (.cst (.int 0))))
    .nil))
def b_l_settled : Sms :=
  (.cons (.asg 2 (.lc [3, 4] (.seq (.var 0)) (.tup [3, 4]) (.some (.and (.cmp .Eq (.idx (.var 4) (.cst (.int 0))) (.cst (.str "word"))) (.and (.cmp .Lt (.var 3) (.var 1)) (.and (.cmp .IsNot (.idx (.var 4) (.cst (.int 3))) (.cst .non)) (.cmp .Is (.call "_law_first_end" (.cons (.var 0) (.cons (.var 1) (.cons (.idx (.var 4) (.cst (.int 1))) (.cons (.idx (.var 4) (.cst (.int 3))) .nil))))) (.cst .non)))))) (.var 3)))
    (.cons (.ret (.bi .min (.cons (.bin .Add (.var 2) (.lst (.cons (.var 1) .nil))) .nil)))
    .nil))
def b_l_visible : Sms :=
  (.cons (.asgT [2, 3] (.tup (.cons (.call "_law_settled" (.cons (.var 0) (.cons (.var 1) .nil))) (.cons (.lst .nil) .nil))))
    (.cons (.forS (.seq (.var 0)) (.tup [4, 5])
    (.cons (.ite (.and (.cmp .Eq (.idx (.var 5) (.cst (.int 0))) (.cst (.str "word"))) (.cmp .Lt (.var 4) (.var 2)))
    (.cons (.ite (.or (.cmp .Is (.idx (.var 5) (.cst (.int 3))) (.cst .non)) (.cmp .Is (.call "_law_first_end" (.cons (.var 0) (.cons (.var 1) (.cons (.idx (.var 5) (.cst (.int 1))) (.cons (.idx (.var 5) (.cst (.int 3))) .nil))))) (.cst (.bl true))))
    (.cons (.expr (.meth .append (.var 3) (.cons (.tup (.cons (.var 4) (.cons (.idx (.var 5) (.cst (.int 4))) (.cons (.idx (.var 5) (.cst (.int 5))) (.cons (.idx (.var 5) (.cst (.int 6))) .nil))))) .nil)))
    .nil)
    .nil)
    .nil)
    .nil)
    .nil))
    (.cons (.ret (.bi .tuple (.cons (.var 3) .nil)))
    .nil)))
def b_settled : Sms :=
  (.cons (.asg 2 (.call "below" (.cons (.var 0) (.cons (.var 1) .nil))))
    (.cons (.ret (.call "stop_of" (.cons (.var 2) (.cons (.call "first_ends" (.cons (.var 2) .nil)) (.cons (.var 1) .nil)))))
    .nil))
def b_l_take : Sms :=
  (.cons (.ite (.cmp .Gt (.idx (.var 0) (.cst (.int 0))) (.cst (.int 0)))
    (.cons (.asg 4 (.bin .Mod (.idx (.var 0) (.cst (.int 0))) (.var 1)))
    (.cons (.setIx (.var 0) (.cst (.int 0)) (.bin .FloorDiv (.idx (.var 0) (.cst (.int 0))) (.var 1)))
    (.cons (.ret (.var 4))
    .nil)))
    .nil)
    (.cons (.setIx (.var 0) (.cst (.int 2)) (.bin .Add (.idx (.var 0) (.cst (.int 2))) (.cst (.int 1))))
    (.cons (.asg 2 (.idx (.var 0) (.cst (.int 2))))
    (.cons (.asg 3 (.bin .Mod (.bin .Mult (.bin .Add (.idx (.var 0) (.cst (.int 1))) (.bin .Mult (.cst (.int 39373)) (.var 2))) (.bin .Add (.cst (.int 48271)) (.bin .Mult (.var 2) (.var 2)))) (.cst (.int 2305843009213693921))))
    (.cons (.setIx (.var 0) (.cst (.int 1)) (.bin .Mod (.bin .Mult (.var 3) (.bin .Add (.bin .Mod (.var 3) (.cst (.int 1000003))) (.cst (.int 17)))) (.cst (.int 2305843009213693907))))
    (.cons (.ret (.bin .Mod (.bin .FloorDiv (.idx (.var 0) (.cst (.int 1))) (.cst (.int 131071))) (.var 1)))
    .nil))))))
def b_l_ends : Sms :=
  (.cons (.asg 1 (.ite (.cmp .NotEq (.var 0) (.tup .nil)) (.bin .Add (.idx (.idx (.var 0) (.neg (.cst (.int 1)))) (.cst (.int 0))) (.cst (.int 1))) (.cst (.int 0))))
    (.cons (.ret (.lst (.cons (.cst (.int 0)) (.cons (.var 1) (.cons (.bin .Add (.var 1) (.cst (.int 3))) .nil)))))
    .nil))
def b_l_part : Sms :=
  (.cons (.ret (.bin .Mod (.bi .sum (.cons (.lc [2, 3] (.enum (.var 0)) (.tup [2, 3]) .none (.bin .Mult (.bi .ord (.cons (.var 3) .nil)) (.bin .Add (.var 2) (.cst (.int 1))))) .nil)) (.var 1)))
    .nil)
def b_l_keys : Sms :=
  (.cons (.asg 2 (.lst (.cons (.cst (.str "a")) (.cons (.cst (.str "b")) (.cons (.cst (.str "c")) (.cons (.cst (.str "d")) (.cons (.cst (.str "ab")) (.cons (.cst (.str "ba")) (.cons (.cst (.str "zz")) (.cons (.cst (.str "end")) (.cons (.cst (.str "word")) (.cons (.cst (.str "mark")) (.cons (.cst (.str "zzzzzz")) (.cons (.cst (.str "abcdef")) (.cons (.cst (.str "book")) (.cons (.cst (.str "none")) .nil))))))))))))))))
    (.cons (.ret (.lc [3] (.seq (.var 2)) (.name 3) (.some (.cmp .Eq (.call "_law_part" (.cons (.var 3) (.cons (.var 1) .nil))) (.var 0))) (.var 3)))
    .nil))
def b_l_log : Sms :=
  (.cons (.asg 3 (.call "_law_take" (.cons (.var 0) (.cons (.cst (.int 2)) .nil))))
    (.cons (.asg 4 (.sl (.call "_law_keys" (.cons (.var 3) (.cons (.cst (.int 2)) .nil))) .none (.some (.bin .Add (.cst (.int 1)) (.call "_law_take" (.cons (.var 0) (.cons (.cst (.int 7)) .nil)))))))
    (.cons (.asgT [6, 7, 8] (.tup (.cons (.idx (.lst (.cons (.cst (.int 0)) (.cons (.call "_law_take" (.cons (.var 0) (.cons (.cst (.int 5)) .nil))) .nil))) (.bi .int (.cons (.var 2) .nil))) (.cons (.lst .nil) (.cons .dict0 .nil)))))
    (.cons (.forS (.rng1 (.var 1)) (.name 5)
    (.cons (.asgT [10, 11] (.tup (.cons (.call "_law_take" (.cons (.var 0) (.cons (.cst (.int 8)) .nil))) (.cons (.idx (.lst (.cons (.cst (.str "a")) (.cons (.cst (.str "b")) (.cons (.cst (.str "word")) .nil)))) (.call "_law_take" (.cons (.var 0) (.cons (.cst (.int 3)) .nil)))) .nil))))
    (.cons (.asg 9 (.idx (.lst (.cons (.cst .non) (.cons (.cst (.int 1)) (.cons (.cst (.int 2)) (.cons (.cst (.int 3)) (.cons (.cst (.int 999999)) .nil)))))) (.call "_law_take" (.cons (.var 0) (.cons (.cst (.int 5)) .nil)))))
    (.cons (.ite (.cmp .Lt (.var 10) (.cst (.int 6)))
    (.cons (.setIx (.var 8) (.var 11) (.bin .Add (.meth .get (.var 8) (.cons (.var 11) (.cons (.cst (.int 0)) .nil))) (.idx (.lst (.cons (.cst (.int 1)) (.cons (.cst (.int 1)) (.cons (.cst (.int 2)) (.cons (.cst (.int 900)) .nil))))) (.call "_law_take" (.cons (.var 0) (.cons (.cst (.int 4)) .nil))))))
    (.cons (.asgT [14, 15] (.tup (.cons (.idx (.var 4) (.call "_law_take" (.cons (.var 0) (.cons (.bi .len (.cons (.var 4) .nil)) .nil)))) (.cons (.idx (.lst (.cons (.cst (.int 0)) (.cons (.cst (.int 5)) (.cons (.cst (.int 999)) (.cons (.call "_law_take" (.cons (.var 0) (.cons (.cst (.int 1000)) .nil))) .nil))))) (.call "_law_take" (.cons (.var 0) (.cons (.cst (.int 4)) .nil)))) .nil))))
    (.cons (.asg 12 (.idx (.lst (.cons (.cst (.str "x")) (.cons (.cst (.str "y")) (.cons (.cst (.str "zzzzzzzz")) (.cons (.cst (.str "end")) .nil))))) (.call "_law_take" (.cons (.var 0) (.cons (.cst (.int 4)) .nil)))))
    (.cons (.asg 13 (.tup (.cons (.cst (.str "word")) (.cons (.var 11) (.cons (.idx (.var 8) (.var 11)) (.cons (.var 9) (.cons (.var 14) (.cons (.var 12) (.cons (.var 15) .nil)))))))))
    .nil))))
    (.cons (.asg 13 (.tup (.cons (.cst (.str "end")) (.cons (.var 11) (.cons (.idx (.lst (.cons (.var 9) (.cons (.cst (.int 1)) .nil))) (.bi .int (.cons (.cmp .Is (.var 9) (.cst .non)) .nil))) (.cons (.cmp .Gt (.call "_law_take" (.cons (.var 0) (.cons (.cst (.int 3)) .nil))) (.cst (.int 0))) .nil))))))
    .nil))
    (.cons (.expr (.meth .append (.var 7) (.cons (.tup (.cons (.var 6) (.cons (.var 13) .nil))) .nil)))
    (.cons (.asg 6 (.bin .Add (.bin .Add (.var 6) (.cst (.int 1))) (.bin .Mult (.idx (.lst (.cons (.cst (.int 0)) (.cons (.cst (.int 0)) (.cons (.cst (.int 1)) (.cons (.cst (.int 5)) .nil))))) (.call "_law_take" (.cons (.var 0) (.cons (.cst (.int 4)) .nil)))) (.bi .int (.cons (.var 2) .nil)))))
    .nil))))))
    (.cons (.ret (.bi .tuple (.cons (.var 7) .nil)))
    .nil)))))
def b_l_hand : Sms :=
  (.cons (.asg 2 (.cst (.int 0)))
    (.cons (.ite (.cmp .Lt (.var 1) (.bi .len (.cons (.var 0) .nil)))
    (.cons (.asg 2 (.bi .abs (.cons (.idx (.var 0) (.var 1)) .nil)))
    .nil)
    .nil)
    (.cons (.asg 3 (.ite (.cmp .GtE (.var 2) (.bin .Pow (.cst (.int 10)) (.cst (.int 18)))) (.bin .Mod (.var 2) (.bin .Pow (.bin .Pow (.cst (.int 10)) (.cst (.int 60))) (.cst (.int 17)))) (.cst (.int 0))))
    (.cons (.ret (.lst (.cons (.var 3) (.cons (.bin .Add (.bin .Add (.bin .Mod (.var 2) (.cst (.int 2305843009213693951))) (.bin .Mult (.cst (.int 7919)) (.var 1))) (.cst (.int 11))) (.cons (.cst (.int 0)) .nil)))))
    .nil))))
def b_law : Sms :=
  (.cons (.forS (.rng1 (.bin .Add (.cst (.int 1)) (.bi .len (.cons (.sl (.var 0) .none (.some (.cst (.int 5)))) .nil)))) (.name 1)
    (.cons (.asg 2 (.call "_law_hand" (.cons (.var 0) (.cons (.var 1) .nil))))
    (.cons (.forS (.rng1 (.cst (.int 3))) (.name 3)
    (.cons (.asgT [8, 9] (.tup (.cons (.cmp .Eq (.call "_law_take" (.cons (.var 2) (.cons (.cst (.int 2)) .nil))) (.cst (.int 0))) (.cons (.cmp .Eq (.call "_law_take" (.cons (.var 2) (.cons (.cst (.int 6)) .nil))) (.cst (.int 0))) .nil))))
    (.cons (.asg 4 (.call "_law_log" (.cons (.var 2) (.cons (.bin .Add (.call "_law_take" (.cons (.var 2) (.cons (.cst (.int 21)) .nil))) (.bin .Mult (.cst (.int 59)) (.bi .int (.cons (.var 9) .nil)))) (.cons (.var 8) .nil)))))
    (.cons (.asg 5 (.call "_law_ends" (.cons (.var 4) .nil)))
    (.cons (.forS (.rng1 (.cst (.int 5))) (.name 6)
    (.cons (.asg 10 (.ite (.cmp .NotEq (.var 4) (.tup .nil)) (.idx (.idx (.var 4) (.call "_law_take" (.cons (.var 2) (.cons (.bi .len (.cons (.var 4) .nil)) .nil)))) (.cst (.int 0))) (.cst (.int 0))))
    (.cons (.expr (.meth .append (.var 5) (.cons (.bi .max (.cons (.cst (.int 0)) (.cons (.bin .Sub (.bin .Add (.var 10) (.call "_law_take" (.cons (.var 2) (.cons (.cst (.int 3)) .nil)))) (.cst (.int 1))) .nil))) .nil)))
    .nil)))
    (.cons (.forS (.seq (.var 5)) (.name 7)
    (.cons (.ite (.cmp .NotEq (.bi .repr (.cons (.call "settled" (.cons (.var 4) (.cons (.var 7) .nil))) .nil)) (.bi .repr (.cons (.call "_law_settled" (.cons (.var 4) (.cons (.var 7) .nil))) .nil)))
    (.cons (.ret (.cst (.bl false)))
    .nil)
    .nil)
    (.cons (.ite (.cmp .NotEq (.bi .repr (.cons (.call "visible" (.cons (.var 4) (.cons (.var 7) .nil))) .nil)) (.bi .repr (.cons (.call "_law_visible" (.cons (.var 4) (.cons (.var 7) .nil))) .nil)))
    (.cons (.ret (.cst (.bl false)))
    .nil)
    .nil)
    .nil)))
    .nil))))))
    .nil)))
    (.cons (.ret (.cst (.bl true)))
    .nil))
abbrev d_below : Df := ⟨"below", top 1, ["log", "end", "entry"], ["log", "end"], b_below⟩
abbrev d_stop_of : Df := ⟨"stop_of", top 3, ["entries", "ends", "end", "place", "record"], ["entries", "ends", "end"], b_stop_of⟩
abbrev d_first_ends : Df := ⟨"first_ends", top 2, ["entries", "found", "place", "record"], ["entries"], b_first_ends⟩
abbrev d_visible : Df := ⟨"visible", top 5, ["log", "end", "entries", "ends", "found", "place", "record"], ["log", "end"], b_visible⟩
abbrev d_l_first_end : Df := ⟨"_law_first_end", top 13, ["_law_log_here", "_law_end", "_law_giver", "_law_deal", "_law_some", "_law_place", "_law_record"], ["_law_log_here", "_law_end", "_law_giver", "_law_deal"], b_l_first_end⟩
abbrev d_l_settled : Df := ⟨"_law_settled", top 14, ["_law_log_here", "_law_end", "_law_some", "_law_place", "_law_record"], ["_law_log_here", "_law_end"], b_l_settled⟩
abbrev d_l_visible : Df := ⟨"_law_visible", top 15, ["_law_log_here", "_law_end", "_law_stop", "_law_found", "_law_place", "_law_record"], ["_law_log_here", "_law_end"], b_l_visible⟩
abbrev d_settled : Df := ⟨"settled", top 4, ["log", "end", "entries"], ["log", "end"], b_settled⟩
abbrev d_l_take : Df := ⟨"_law_take", top 8, ["_law_hand_here", "_law_many", "_law_turn", "_law_mixed", "_law_digit"], ["_law_hand_here", "_law_many"], b_l_take⟩
abbrev d_l_ends : Df := ⟨"_law_ends", top 12, ["_law_log_here", "_law_last"], ["_law_log_here"], b_l_ends⟩
abbrev d_l_part : Df := ⟨"_law_part", top 9, ["_law_key", "_law_parts", "_law_k", "_law_letter"], ["_law_key", "_law_parts"], b_l_part⟩
abbrev d_l_keys : Df := ⟨"_law_keys", top 10, ["_law_part_here", "_law_parts", "_law_lot", "_law_key"], ["_law_part_here", "_law_parts"], b_l_keys⟩
abbrev d_l_log : Df := ⟨"_law_log", top 11, ["_law_hand_here", "_law_count", "_law_holes", "_law_part_here", "_law_keys_here", "_law_turn", "_law_place", "_law_found", "_law_last", "_law_deal", "_law_way", "_law_giver", "_law_text", "_law_record", "_law_key", "_law_time"], ["_law_hand_here", "_law_count", "_law_holes"], b_l_log⟩
abbrev d_l_hand : Df := ⟨"_law_hand", top 7, ["_law_script", "_law_nth", "_law_cell", "_law_digits"], ["_law_script", "_law_nth"], b_l_hand⟩
abbrev d_law : Df := ⟨"law", top 16, ["_law_script", "_law_nth", "_law_hand_here", "_law_turn", "_law_log_here", "_law_ends_here", "_law_again", "_law_end", "_law_holes", "_law_big", "_law_at"], ["_law_script"], b_law⟩
abbrev bs : List Str := ["abs", "enumerate", "int", "len", "max", "min", "ord", "range", "repr", "sum", "tuple"]
abbrev gl : Str → Option D := fun _ => none
abbrev ds0 : List Df := []
abbrev C0 : Cts := (rawT gl ds0).cts gl
def g_below : List D → M D := callDef C0 3 b_below
abbrev ds1 : List Df := d_below :: ds0
abbrev C1 : Cts := (rawT gl ds1).cts gl
def g_stop_of : List D → M D := callDef C1 5 b_stop_of
abbrev ds2 : List Df := d_stop_of :: ds1
abbrev C2 : Cts := (rawT gl ds2).cts gl
def g_first_ends : List D → M D := callDef C2 4 b_first_ends
abbrev ds3 : List Df := d_first_ends :: ds2
abbrev C3 : Cts := (rawT gl ds3).cts gl
def g_visible : List D → M D := callDef C3 7 b_visible
abbrev ds4 : List Df := d_visible :: ds3
abbrev C4 : Cts := (rawT gl ds4).cts gl
def g_l_first_end : List D → M D := callDef C4 7 b_l_first_end
abbrev ds5 : List Df := d_l_first_end :: ds4
abbrev C5 : Cts := (rawT gl ds5).cts gl
def g_l_settled : List D → M D := callDef C5 5 b_l_settled
abbrev ds6 : List Df := d_l_settled :: ds5
abbrev C6 : Cts := (rawT gl ds6).cts gl
def g_l_visible : List D → M D := callDef C6 6 b_l_visible
abbrev ds7 : List Df := d_l_visible :: ds6
abbrev C7 : Cts := (rawT gl ds7).cts gl
def g_settled : List D → M D := callDef C7 3 b_settled
abbrev ds8 : List Df := d_settled :: ds7
abbrev C8 : Cts := (rawT gl ds8).cts gl
def g_l_take : List D → M D := callDef C8 5 b_l_take
abbrev ds9 : List Df := d_l_take :: ds8
abbrev C9 : Cts := (rawT gl ds9).cts gl
def g_l_ends : List D → M D := callDef C9 2 b_l_ends
abbrev ds10 : List Df := d_l_ends :: ds9
abbrev C10 : Cts := (rawT gl ds10).cts gl
def g_l_part : List D → M D := callDef C10 4 b_l_part
abbrev ds11 : List Df := d_l_part :: ds10
abbrev C11 : Cts := (rawT gl ds11).cts gl
def g_l_keys : List D → M D := callDef C11 4 b_l_keys
abbrev ds12 : List Df := d_l_keys :: ds11
abbrev C12 : Cts := (rawT gl ds12).cts gl
def g_l_log : List D → M D := callDef C12 16 b_l_log
abbrev ds13 : List Df := d_l_log :: ds12
abbrev C13 : Cts := (rawT gl ds13).cts gl
def g_l_hand : List D → M D := callDef C13 4 b_l_hand
abbrev ds14 : List Df := d_l_hand :: ds13
abbrev C14 : Cts := (rawT gl ds14).cts gl
def g_law : List D → M D := callDef C14 11 b_law
theorem f3_below : C3.fn "below" = g_below := by rfl
theorem f3_stop_of : C3.fn "stop_of" = g_stop_of := by rfl
theorem f3_first_ends : C3.fn "first_ends" = g_first_ends := by rfl
theorem f5_l_first_end : C5.fn "_law_first_end" = g_l_first_end := by rfl
theorem f6_l_first_end : C6.fn "_law_first_end" = g_l_first_end := by rfl
theorem f6_l_settled : C6.fn "_law_settled" = g_l_settled := by rfl
theorem f7_stop_of : C7.fn "stop_of" = g_stop_of := by rfl
theorem f7_first_ends : C7.fn "first_ends" = g_first_ends := by rfl
theorem f7_below : C7.fn "below" = g_below := by rfl
theorem f11_l_part : C11.fn "_law_part" = g_l_part := by rfl
theorem f12_l_take : C12.fn "_law_take" = g_l_take := by rfl
theorem f12_l_keys : C12.fn "_law_keys" = g_l_keys := by rfl
theorem f14_visible : C14.fn "visible" = g_visible := by rfl
theorem f14_l_visible : C14.fn "_law_visible" = g_l_visible := by rfl
theorem f14_settled : C14.fn "settled" = g_settled := by rfl
theorem f14_l_settled : C14.fn "_law_settled" = g_l_settled := by rfl
theorem f14_l_take : C14.fn "_law_take" = g_l_take := by rfl
theorem f14_l_ends : C14.fn "_law_ends" = g_l_ends := by rfl
theorem f14_l_log : C14.fn "_law_log" = g_l_log := by rfl
theorem f14_l_hand : C14.fn "_law_hand" = g_l_hand := by rfl
theorem bnd_below : d_below.bnd := fun _ _ _ _ _ _ us hl => match us, hl with | [_, _], _ => rfl
theorem ch_below : chD bs [] ds0 d_below = true := by decide +kernel
theorem bnd_stop_of : d_stop_of.bnd := fun _ _ _ _ _ _ us hl => match us, hl with | [_, _, _], _ => rfl
theorem ch_stop_of : chD bs [] ds1 d_stop_of = true := by decide +kernel
theorem bnd_first_ends : d_first_ends.bnd := fun _ _ _ _ _ _ us hl => match us, hl with | [_], _ => rfl
theorem ch_first_ends : chD bs [] ds2 d_first_ends = true := by decide +kernel
theorem bnd_visible : d_visible.bnd := fun _ _ _ _ _ _ us hl => match us, hl with | [_, _], _ => rfl
theorem ch_visible : chD bs [] ds3 d_visible = true := by decide +kernel
theorem bnd_l_first_end : d_l_first_end.bnd := fun _ _ _ _ _ _ us hl => match us, hl with | [_, _, _, _], _ => rfl
theorem ch_l_first_end : chD bs [] ds4 d_l_first_end = true := by decide +kernel
theorem bnd_l_settled : d_l_settled.bnd := fun _ _ _ _ _ _ us hl => match us, hl with | [_, _], _ => rfl
theorem ch_l_settled : chD bs [] ds5 d_l_settled = true := by decide +kernel
theorem bnd_l_visible : d_l_visible.bnd := fun _ _ _ _ _ _ us hl => match us, hl with | [_, _], _ => rfl
theorem ch_l_visible : chD bs [] ds6 d_l_visible = true := by decide +kernel
theorem bnd_settled : d_settled.bnd := fun _ _ _ _ _ _ us hl => match us, hl with | [_, _], _ => rfl
theorem ch_settled : chD bs [] ds7 d_settled = true := by decide +kernel
theorem bnd_l_take : d_l_take.bnd := fun _ _ _ _ _ _ us hl => match us, hl with | [_, _], _ => rfl
theorem ch_l_take : chD bs [] ds8 d_l_take = true := by decide +kernel
theorem bnd_l_ends : d_l_ends.bnd := fun _ _ _ _ _ _ us hl => match us, hl with | [_], _ => rfl
theorem ch_l_ends : chD bs [] ds9 d_l_ends = true := by decide +kernel
theorem bnd_l_part : d_l_part.bnd := fun _ _ _ _ _ _ us hl => match us, hl with | [_, _], _ => rfl
theorem ch_l_part : chD bs [] ds10 d_l_part = true := by decide +kernel
theorem bnd_l_keys : d_l_keys.bnd := fun _ _ _ _ _ _ us hl => match us, hl with | [_, _], _ => rfl
theorem ch_l_keys : chD bs [] ds11 d_l_keys = true := by decide +kernel
theorem bnd_l_log : d_l_log.bnd := fun _ _ _ _ _ _ us hl => match us, hl with | [_, _, _], _ => rfl
theorem ch_l_log : chD bs [] ds12 d_l_log = true := by decide +kernel
theorem bnd_l_hand : d_l_hand.bnd := fun _ _ _ _ _ _ us hl => match us, hl with | [_, _], _ => rfl
theorem ch_l_hand : chD bs [] ds13 d_l_hand = true := by decide +kernel
theorem bnd_law : d_law.bnd := fun _ _ _ _ _ _ us hl => match us, hl with | [_], _ => rfl
theorem ch_law : chD bs [] ds14 d_law = true := by decide +kernel
end K10

/-! K10: the law -/
namespace K10
open PySem L2 W9
theorem r3 : Reads4 C3 := ⟨⟨C0, f3_below⟩, ⟨C2, f3_first_ends⟩, ⟨C1, f3_stop_of⟩⟩
theorem r7 : Reads4 C7 := ⟨⟨C0, f7_below⟩, ⟨C2, f7_first_ends⟩, ⟨C1, f7_stop_of⟩⟩
theorem e_settled : C14.fn "settled" = callDef C7 3 settled_b := f14_settled
theorem e_visible : C14.fn "visible" = callDef C3 7 visible_b := f14_visible
theorem e_lset : C14.fn "_law_settled" = callDef C5 5 lset_b := f14_l_settled
theorem e_lvis : C14.fn "_law_visible" = callDef C6 6 lvis_b := f14_l_visible
theorem e_take : C14.fn "_law_take" = callDef C8 5 take_b := f14_l_take
theorem e_ends : C14.fn "_law_ends" = callDef C9 2 ends_b := f14_l_ends
theorem e_log : C14.fn "_law_log" = callDef C12 16 log_b := f14_l_log
theorem e_hand : C14.fn "_law_hand" = callDef C13 4 hand_b := f14_l_hand
/-- one end -/
def check_b : Sms :=
    (.cons (.ite (.cmp .NotEq (.bi .repr (.cons (.call "settled" (.cons (.var 4) (.cons (.var 7) .nil))) .nil)) (.bi .repr (.cons (.call "_law_settled" (.cons (.var 4) (.cons (.var 7) .nil))) .nil)))
    (.cons (.ret (.cst (.bl false)))
    .nil)
    .nil)
    (.cons (.ite (.cmp .NotEq (.bi .repr (.cons (.call "visible" (.cons (.var 4) (.cons (.var 7) .nil))) .nil)) (.bi .repr (.cons (.call "_law_visible" (.cons (.var 4) (.cons (.var 7) .nil))) .nil)))
    (.cons (.ret (.cst (.bl false)))
    .nil)
    .nil)
    .nil))
theorem check_wp {x0 x1 x2 x3 x5 x6 x8 x9 x10 : Option D} {L : List Ent} {e : Int} {s : Store} {Q : Fl → Store → Prop} (hM : Made L 1000) (hl : L.length ≤ 1000) (h0 : 0 ≤ e) (h1 : e ≤ 10000)
    (q : ∀ s', Kp [] s s' → Q (.nx [x0, x1, x2, x3, some (logT L), x5, x6, some (.int e), x8, x9, x10]) s') : wp (runs C14 check_b [x0, x1, x2, x3, some (logT L), x5, x6, some (.int e), x8, x9, x10]) Q s := by
  have hb : L.length < bigN := by have : bigN = 16777216 := rfl; omega
  have hge := settled_ge hM h0
  have hle := settled_le (L := L) (e := e)
  unfold check_b
  simp only [wp_cons, wp_nil, wp_asg, wp_expr, wp_retS, wp_retN, wp_iteS, wp_pass, wp_brk, wp_cont, wp_setIx, wp_augX, wp_asgT, wp_for, wp_varX, wp_cst, wp_bin, wp_cmp, wp_cmpT, wp_chainT, wp_andT, wp_orT, wp_notT, wp_iteE, wp_idx, wp_sl, wp_call, wp_bi, wp_tup, wp_lst, wp_dict0, wp_meth, wp_lc, wp_evs_nil, wp_evs_cons, wp_evo_none, wp_evo_some, wp_seq, wp_enum, wp_rng1, wp_rng2, wp_idxT, wp_varT, wp_callT, wp_biT, x_truB, tsto_none, tsto_some,
  seqQ_nx, seqQ_ret, seqQ_bk, seqQ_ct, endQ_ret, endQ_nx, varQ_some, lstQ_some, dctQ_some, optQ_some, blQ_bl, inQ_int, rgQ_int, rg2Q_int,
  x_eqSS, x_eqII, x_neSS, x_neII, str_we, str_ew, decide_true, decide_false, if_true, if_false, Bool.false_eq_true, reduceIte, x_addI, x_addT, x_addS, x_addL, x_subI, x_mulI, x_divI, x_modI, x_powI, x_ltI, x_leI, x_gtI, x_geI, x_is, x_isnot, x_isB, x_isNB, x_ixT, x_ixF, x_abs, x_lenT, x_lenF, x_intI, x_intB, x_max2, x_min2, x_seqT, x_seqF, x_slT, x_slF,
  List.map_cons, List.map_nil, List.length_cons, List.length_nil, List.cons_append, List.nil_append, List.replicate_succ, List.replicate_zero, Nat.reduceSub, Nat.reduceAdd, List.set_cons_zero, List.set_cons_succ, List.getElem?_cons_zero, List.getElem?_cons_succ, Nat.add_zero, Nat.zero_add, Nat.sub_self, decide_eq_true_eq, e_settled, e_visible, e_lset, e_lvis]
  refine settled_wp r7 (.inl rfl) hM.wf hb fun s1 p1 => ?_
  rw [repr_int hge (by omega)]
  refine lset_wp ⟨C4, f5_l_first_end⟩ hM.wfs hM.srt hb fun s2 p2 => ?_
  rw [repr_int hge (by omega), x_neSS, blQ_bl, decide_eq_true rfl]
  try simp only [wp_cons, wp_nil, wp_asg, wp_expr, wp_retS, wp_retN, wp_iteS, wp_pass, wp_brk, wp_cont, wp_setIx, wp_augX, wp_asgT, wp_for, wp_varX, wp_cst, wp_bin, wp_cmp, wp_cmpT, wp_chainT, wp_andT, wp_orT, wp_notT, wp_iteE, wp_idx, wp_sl, wp_call, wp_bi, wp_tup, wp_lst, wp_dict0, wp_meth, wp_lc, wp_evs_nil, wp_evs_cons, wp_evo_none, wp_evo_some, wp_seq, wp_enum, wp_rng1, wp_rng2, wp_idxT, wp_varT, wp_callT, wp_biT, x_truB, tsto_none, tsto_some,
  seqQ_nx, seqQ_ret, seqQ_bk, seqQ_ct, endQ_ret, endQ_nx, varQ_some, lstQ_some, dctQ_some, optQ_some, blQ_bl, inQ_int, rgQ_int, rg2Q_int,
  x_eqSS, x_eqII, x_neSS, x_neII, str_we, str_ew, decide_true, decide_false, if_true, if_false, Bool.false_eq_true, reduceIte, x_addI, x_addT, x_addS, x_addL, x_subI, x_mulI, x_divI, x_modI, x_powI, x_ltI, x_leI, x_gtI, x_geI, x_is, x_isnot, x_isB, x_isNB, x_ixT, x_ixF, x_abs, x_lenT, x_lenF, x_intI, x_intB, x_max2, x_min2, x_seqT, x_seqF, x_slT, x_slF,
  List.map_cons, List.map_nil, List.length_cons, List.length_nil, List.cons_append, List.nil_append, List.replicate_succ, List.replicate_zero, Nat.reduceSub, Nat.reduceAdd, List.set_cons_zero, List.set_cons_succ, List.getElem?_cons_zero, List.getElem?_cons_succ, Nat.add_zero, Nat.zero_add, Nat.sub_self, decide_eq_true_eq]
  refine visible_wp r3 (.inl rfl) hM.wf hM.srt hb fun s3 p3 => ?_
  rw [repr_vis hM hl]
  refine lvis_wp ⟨C4, f6_l_first_end⟩ ⟨C5, f6_l_settled, C4, f5_l_first_end⟩ hM.wfs hM.srt hb fun s4 k4 => ?_
  rw [repr_vis hM hl, x_neSS, blQ_bl, decide_eq_true rfl]
  try simp only [wp_cons, wp_nil, wp_asg, wp_expr, wp_retS, wp_retN, wp_iteS, wp_pass, wp_brk, wp_cont, wp_setIx, wp_augX, wp_asgT, wp_for, wp_varX, wp_cst, wp_bin, wp_cmp, wp_cmpT, wp_chainT, wp_andT, wp_orT, wp_notT, wp_iteE, wp_idx, wp_sl, wp_call, wp_bi, wp_tup, wp_lst, wp_dict0, wp_meth, wp_lc, wp_evs_nil, wp_evs_cons, wp_evo_none, wp_evo_some, wp_seq, wp_enum, wp_rng1, wp_rng2, wp_idxT, wp_varT, wp_callT, wp_biT, x_truB, tsto_none, tsto_some,
  seqQ_nx, seqQ_ret, seqQ_bk, seqQ_ct, endQ_ret, endQ_nx, varQ_some, lstQ_some, dctQ_some, optQ_some, blQ_bl, inQ_int, rgQ_int, rg2Q_int,
  x_eqSS, x_eqII, x_neSS, x_neII, str_we, str_ew, decide_true, decide_false, if_true, if_false, Bool.false_eq_true, reduceIte, x_addI, x_addT, x_addS, x_addL, x_subI, x_mulI, x_divI, x_modI, x_powI, x_ltI, x_leI, x_gtI, x_geI, x_is, x_isnot, x_isB, x_isNB, x_ixT, x_ixF, x_abs, x_lenT, x_lenF, x_intI, x_intB, x_max2, x_min2, x_seqT, x_seqF, x_slT, x_slF,
  List.map_cons, List.map_nil, List.length_cons, List.length_nil, List.cons_append, List.nil_append, List.replicate_succ, List.replicate_zero, Nat.reduceSub, Nat.reduceAdd, List.set_cons_zero, List.set_cons_succ, List.getElem?_cons_zero, List.getElem?_cons_succ, Nat.add_zero, Nat.zero_add, Nat.sub_self, decide_eq_true_eq]
  exact q s4 ((Kp.pre ((p1.trans p2).trans p3) []).trans k4)
/-- ends at places of the log -/
def more_b : Sms :=
    (.cons (.asg 10 (.ite (.cmp .NotEq (.var 4) (.tup .nil)) (.idx (.idx (.var 4) (.call "_law_take" (.cons (.var 2) (.cons (.bi .len (.cons (.var 4) .nil)) .nil)))) (.cst (.int 0))) (.cst (.int 0))))
    (.cons (.expr (.meth .append (.var 5) (.cons (.bi .max (.cons (.cst (.int 0)) (.cons (.bin .Sub (.bin .Add (.var 10) (.call "_law_take" (.cons (.var 2) (.cons (.cst (.int 3)) .nil)))) (.cst (.int 1))) .nil))) .nil)))
    .nil))
theorem more_wp {x0 x1 x3 x6 x7 x8 x9 x10 : Option D} {L : List Ent} {i j : Nat} {n : Int} {es : List Int} {s : Store} {Q : Fl → Store → Prop} (hM : Made L 1000) (hl : L.length ≤ 1000) (H : HandA i n s) (hn : n < 2 ^ 37) (hj : s[j]? = some (.lst (es.map D.int))) (hij : i ≠ j) (hes : es.length ≤ 1000)
    (q : ∀ x10 v s', 0 ≤ v → v ≤ 2000 → HandA i (n + 2) s' → s'[j]? = some (.lst ((es ++ [v]).map D.int)) → Q (.nx [x0, x1, some (.ob i), x3, some (logT L), some (.ob j), x6, x7, x8, x9, x10]) s') :
    wp (runs C14 more_b [x0, x1, some (.ob i), x3, some (logT L), some (.ob j), x6, x7, x8, x9, x10]) Q s := by
  have tail : ∀ (at' : Int) (n' : Int) (s1 : Store), 0 ≤ at' → at' ≤ 1000 → HandA i n' s1 → n' ≤ n + 1 → s1[j]? = some (.lst (es.map D.int)) → wp (runs C14 (.cons (.expr (.meth .append (.var 5) (.cons (.bi .max (.cons (.cst (.int 0)) (.cons (.bin .Sub (.bin .Add (.var 10) (.call "_law_take" (.cons (.var 2) (.cons (.cst (.int 3)) .nil)))) (.cst (.int 1))) .nil))) .nil))) .nil) [x0, x1, some (.ob i), x3, some (logT L), some (.ob j), x6, x7, x8, x9, some (.int at')]) Q s1 := by
    intro at' n' s1 a0 a1 H1 hn' hj1
    simp only [wp_cons, wp_nil, wp_asg, wp_expr, wp_retS, wp_retN, wp_iteS, wp_pass, wp_brk, wp_cont, wp_setIx, wp_augX, wp_asgT, wp_for, wp_varX, wp_cst, wp_bin, wp_cmp, wp_cmpT, wp_chainT, wp_andT, wp_orT, wp_notT, wp_iteE, wp_idx, wp_sl, wp_call, wp_bi, wp_tup, wp_lst, wp_dict0, wp_meth, wp_lc, wp_evs_nil, wp_evs_cons, wp_evo_none, wp_evo_some, wp_seq, wp_enum, wp_rng1, wp_rng2, wp_idxT, wp_varT, wp_callT, wp_biT, x_truB, tsto_none, tsto_some,
  seqQ_nx, seqQ_ret, seqQ_bk, seqQ_ct, endQ_ret, endQ_nx, varQ_some, lstQ_some, dctQ_some, optQ_some, blQ_bl, inQ_int, rgQ_int, rg2Q_int,
  x_eqSS, x_eqII, x_neSS, x_neII, str_we, str_ew, decide_true, decide_false, if_true, if_false, Bool.false_eq_true, reduceIte, x_addI, x_addT, x_addS, x_addL, x_subI, x_mulI, x_divI, x_modI, x_powI, x_ltI, x_leI, x_gtI, x_geI, x_is, x_isnot, x_isB, x_isNB, x_ixT, x_ixF, x_abs, x_lenT, x_lenF, x_intI, x_intB, x_max2, x_min2, x_seqT, x_seqF, x_slT, x_slF,
  List.map_cons, List.map_nil, List.length_cons, List.length_nil, List.cons_append, List.nil_append, List.replicate_succ, List.replicate_zero, Nat.reduceSub, Nat.reduceAdd, List.set_cons_zero, List.set_cons_succ, List.getElem?_cons_zero, List.getElem?_cons_succ, Nat.add_zero, Nat.zero_add, Nat.sub_self, decide_eq_true_eq, e_take]
    refine ⟨.list, x_tyL hj1, ?_⟩
    refine take_wp H1 (by omega) (by decide) (by decide) fun r s2 H2 K2 r0 r1 => ?_
    have hj2 : s2[j]? = some (.lst (es.map D.int)) := K2.at' _ _ (by simp; omega) hj1
    try simp only [wp_cons, wp_nil, wp_asg, wp_expr, wp_retS, wp_retN, wp_iteS, wp_pass, wp_brk, wp_cont, wp_setIx, wp_augX, wp_asgT, wp_for, wp_varX, wp_cst, wp_bin, wp_cmp, wp_cmpT, wp_chainT, wp_andT, wp_orT, wp_notT, wp_iteE, wp_idx, wp_sl, wp_call, wp_bi, wp_tup, wp_lst, wp_dict0, wp_meth, wp_lc, wp_evs_nil, wp_evs_cons, wp_evo_none, wp_evo_some, wp_seq, wp_enum, wp_rng1, wp_rng2, wp_idxT, wp_varT, wp_callT, wp_biT, x_truB, tsto_none, tsto_some,
  seqQ_nx, seqQ_ret, seqQ_bk, seqQ_ct, endQ_ret, endQ_nx, varQ_some, lstQ_some, dctQ_some, optQ_some, blQ_bl, inQ_int, rgQ_int, rg2Q_int,
  x_eqSS, x_eqII, x_neSS, x_neII, str_we, str_ew, decide_true, decide_false, if_true, if_false, Bool.false_eq_true, reduceIte, x_addI, x_addT, x_addS, x_addL, x_subI, x_mulI, x_divI, x_modI, x_powI, x_ltI, x_leI, x_gtI, x_geI, x_is, x_isnot, x_isB, x_isNB, x_ixT, x_ixF, x_abs, x_lenT, x_lenF, x_intI, x_intB, x_max2, x_min2, x_seqT, x_seqF, x_slT, x_slF,
  List.map_cons, List.map_nil, List.length_cons, List.length_nil, List.cons_append, List.nil_append, List.replicate_succ, List.replicate_zero, Nat.reduceSub, Nat.reduceAdd, List.set_cons_zero, List.set_cons_succ, List.getElem?_cons_zero, List.getElem?_cons_succ, Nat.add_zero, Nat.zero_add, Nat.sub_self, decide_eq_true_eq]
    rw [x_app hj2]
    refine ⟨by rw [List.length_map]; have : bigN = 16777216 := rfl; omega, ?_⟩
    refine q _ (if at' + r - 1 > 0 then at' + r - 1 else 0) _ (by split <;> omega) (by split <;> omega) ((H2.kp (Kp.set (ks := [j]) (by simp)) (by simp; omega)).mono (by omega)) ?_
    have hjl : j < s2.length := (List.getElem?_eq_some_iff.mp hj2).1
    simp [hjl]
  unfold more_b
  rw [wp_cons]
  simp only [wp_cons, wp_nil, wp_asg, wp_expr, wp_retS, wp_retN, wp_iteS, wp_pass, wp_brk, wp_cont, wp_setIx, wp_augX, wp_asgT, wp_for, wp_varX, wp_cst, wp_bin, wp_cmp, wp_cmpT, wp_chainT, wp_andT, wp_orT, wp_notT, wp_iteE, wp_idx, wp_sl, wp_call, wp_bi, wp_tup, wp_lst, wp_dict0, wp_meth, wp_lc, wp_evs_nil, wp_evs_cons, wp_evo_none, wp_evo_some, wp_seq, wp_enum, wp_rng1, wp_rng2, wp_idxT, wp_varT, wp_callT, wp_biT, x_truB, tsto_none, tsto_some,
  seqQ_nx, seqQ_ret, seqQ_bk, seqQ_ct, endQ_ret, endQ_nx, varQ_some, lstQ_some, dctQ_some, optQ_some, blQ_bl, inQ_int, rgQ_int, rg2Q_int,
  x_eqSS, x_eqII, x_neSS, x_neII, str_we, str_ew, decide_true, decide_false, if_true, if_false, Bool.false_eq_true, reduceIte, x_addI, x_addT, x_addS, x_addL, x_subI, x_mulI, x_divI, x_modI, x_powI, x_ltI, x_leI, x_gtI, x_geI, x_is, x_isnot, x_isB, x_isNB, x_ixT, x_ixF, x_abs, x_lenT, x_lenF, x_intI, x_intB, x_max2, x_min2, x_seqT, x_seqF, x_slT, x_slF,
  List.map_cons, List.map_nil, List.length_cons, List.length_nil, List.cons_append, List.nil_append, List.replicate_succ, List.replicate_zero, Nat.reduceSub, Nat.reduceAdd, List.set_cons_zero, List.set_cons_succ, List.getElem?_cons_zero, List.getElem?_cons_succ, Nat.add_zero, Nat.zero_add, Nat.sub_self, decide_eq_true_eq, e_take, ne_empty hM]
  by_cases hL : L = []
  · subst hL
    simp only [List.isEmpty_nil, Bool.not_true, Bool.false_eq_true, if_false]
    have := tail 0 n s (by decide) (by decide) H (by omega) hj
    simp only [wp_cons, wp_nil, wp_asg, wp_expr, wp_retS, wp_retN, wp_iteS, wp_pass, wp_brk, wp_cont, wp_setIx, wp_augX, wp_asgT, wp_for, wp_varX, wp_cst, wp_bin, wp_cmp, wp_cmpT, wp_chainT, wp_andT, wp_orT, wp_notT, wp_iteE, wp_idx, wp_sl, wp_call, wp_bi, wp_tup, wp_lst, wp_dict0, wp_meth, wp_lc, wp_evs_nil, wp_evs_cons, wp_evo_none, wp_evo_some, wp_seq, wp_enum, wp_rng1, wp_rng2, wp_idxT, wp_varT, wp_callT, wp_biT, x_truB, tsto_none, tsto_some,
  seqQ_nx, seqQ_ret, seqQ_bk, seqQ_ct, endQ_ret, endQ_nx, varQ_some, lstQ_some, dctQ_some, optQ_some, blQ_bl, inQ_int, rgQ_int, rg2Q_int,
  x_eqSS, x_eqII, x_neSS, x_neII, str_we, str_ew, decide_true, decide_false, if_true, if_false, Bool.false_eq_true, reduceIte, x_addI, x_addT, x_addS, x_addL, x_subI, x_mulI, x_divI, x_modI, x_powI, x_ltI, x_leI, x_gtI, x_geI, x_is, x_isnot, x_isB, x_isNB, x_ixT, x_ixF, x_abs, x_lenT, x_lenF, x_intI, x_intB, x_max2, x_min2, x_seqT, x_seqF, x_slT, x_slF,
  List.map_cons, List.map_nil, List.length_cons, List.length_nil, List.cons_append, List.nil_append, List.replicate_succ, List.replicate_zero, Nat.reduceSub, Nat.reduceAdd, List.set_cons_zero, List.set_cons_succ, List.getElem?_cons_zero, List.getElem?_cons_succ, Nat.add_zero, Nat.zero_add, Nat.sub_self, decide_eq_true_eq, e_take] at this
    exact ⟨Nat.zero_le _, this⟩
  · have he : L.isEmpty = false := by cases L <;> first | rfl | exact absurd rfl hL
    have hL2 : 0 < L.length := List.length_pos_iff.mpr hL
    simp only [he, Bool.not_false, if_true]
    refine ⟨Nat.zero_le _, take_wp H (by omega) (by rw [List.length_map]; omega) (by rw [List.length_map]; omega) fun r s1 H1 K1 r0 r1 => ?_⟩
    have hj1 : s1[j]? = some (.lst (es.map D.int)) := K1.at' _ _ (by simp; omega) hj
    obtain ⟨x, hx, hm', _⟩ := atI_nat (xs := L.map entD) r0 r1
    obtain ⟨e, hem, rfl⟩ := List.mem_map.mp hm'
    have hp := hM.pl e hem
    rw [x_ixT, hx, optQ_some]
    unfold entD
    rw [x_ixT, atE, optQ_some]
    have := tail e.1 (n + 1) s1 hp.1 (by omega) H1 (by omega) hj1
    simp only [wp_cons, wp_nil, wp_asg, wp_expr, wp_retS, wp_retN, wp_iteS, wp_pass, wp_brk, wp_cont, wp_setIx, wp_augX, wp_asgT, wp_for, wp_varX, wp_cst, wp_bin, wp_cmp, wp_cmpT, wp_chainT, wp_andT, wp_orT, wp_notT, wp_iteE, wp_idx, wp_sl, wp_call, wp_bi, wp_tup, wp_lst, wp_dict0, wp_meth, wp_lc, wp_evs_nil, wp_evs_cons, wp_evo_none, wp_evo_some, wp_seq, wp_enum, wp_rng1, wp_rng2, wp_idxT, wp_varT, wp_callT, wp_biT, x_truB, tsto_none, tsto_some,
  seqQ_nx, seqQ_ret, seqQ_bk, seqQ_ct, endQ_ret, endQ_nx, varQ_some, lstQ_some, dctQ_some, optQ_some, blQ_bl, inQ_int, rgQ_int, rg2Q_int,
  x_eqSS, x_eqII, x_neSS, x_neII, str_we, str_ew, decide_true, decide_false, if_true, if_false, Bool.false_eq_true, reduceIte, x_addI, x_addT, x_addS, x_addL, x_subI, x_mulI, x_divI, x_modI, x_powI, x_ltI, x_leI, x_gtI, x_geI, x_is, x_isnot, x_isB, x_isNB, x_ixT, x_ixF, x_abs, x_lenT, x_lenF, x_intI, x_intB, x_max2, x_min2, x_seqT, x_seqF, x_slT, x_slF,
  List.map_cons, List.map_nil, List.length_cons, List.length_nil, List.cons_append, List.nil_append, List.replicate_succ, List.replicate_zero, Nat.reduceSub, Nat.reduceAdd, List.set_cons_zero, List.set_cons_succ, List.getElem?_cons_zero, List.getElem?_cons_succ, Nat.add_zero, Nat.zero_add, Nat.sub_self, decide_eq_true_eq, e_take] at this
    exact this
end K10

/-! K10b: the law's loops -/
namespace K10
open PySem L2 W9
def body2_b : Sms :=
    (.cons (.asgT [8, 9] (.tup (.cons (.cmp .Eq (.call "_law_take" (.cons (.var 2) (.cons (.cst (.int 2)) .nil))) (.cst (.int 0))) (.cons (.cmp .Eq (.call "_law_take" (.cons (.var 2) (.cons (.cst (.int 6)) .nil))) (.cst (.int 0))) .nil))))
    (.cons (.asg 4 (.call "_law_log" (.cons (.var 2) (.cons (.bin .Add (.call "_law_take" (.cons (.var 2) (.cons (.cst (.int 21)) .nil))) (.bin .Mult (.cst (.int 59)) (.bi .int (.cons (.var 9) .nil)))) (.cons (.var 8) .nil)))))
    (.cons (.asg 5 (.call "_law_ends" (.cons (.var 4) .nil)))
    (.cons (.forS (.rng1 (.cst (.int 5))) (.name 6) more_b)
    (.cons (.forS (.seq (.var 5)) (.name 7) check_b)
    .nil)))))
theorem body2_wp {x0 x1 x3 x4 x5 x6 x7 x8 x9 x10 : Option D} {i : Nat} {n : Int} {s : Store} (H : HandA i n s) (hn : n < 2 ^ 36) :
    wp (runs C14 body2_b [x0, x1, some (.ob i), x3, x4, x5, x6, x7, x8, x9, x10]) (fun fl s' => ∃ y4 y5 y6 y7 y8 y9 y10, fl = .nx [x0, x1, some (.ob i), x3, y4, y5, y6, y7, y8, y9, y10] ∧ HandA i (n + 2000) s') s := by
  unfold body2_b
  simp only [wp_cons, wp_nil, wp_asg, wp_expr, wp_retS, wp_retN, wp_iteS, wp_pass, wp_brk, wp_cont, wp_setIx, wp_augX, wp_asgT, wp_for, wp_varX, wp_cst, wp_bin, wp_cmp, wp_cmpT, wp_chainT, wp_andT, wp_orT, wp_notT, wp_iteE, wp_idx, wp_sl, wp_call, wp_bi, wp_tup, wp_lst, wp_dict0, wp_meth, wp_lc, wp_evs_nil, wp_evs_cons, wp_evo_none, wp_evo_some, wp_seq, wp_enum, wp_rng1, wp_rng2, wp_idxT, wp_varT, wp_callT, wp_biT, x_truB, tsto_none, tsto_some,
  seqQ_nx, seqQ_ret, seqQ_bk, seqQ_ct, endQ_ret, endQ_nx, varQ_some, lstQ_some, dctQ_some, optQ_some, blQ_bl, inQ_int, rgQ_int, rg2Q_int,
  x_eqSS, x_eqII, x_neSS, x_neII, str_we, str_ew, decide_true, decide_false, if_true, if_false, Bool.false_eq_true, reduceIte, x_addI, x_addT, x_addS, x_addL, x_subI, x_mulI, x_divI, x_modI, x_powI, x_ltI, x_leI, x_gtI, x_geI, x_is, x_isnot, x_isB, x_isNB, x_ixT, x_ixF, x_abs, x_lenT, x_lenF, x_intI, x_intB, x_max2, x_min2, x_seqT, x_seqF, x_slT, x_slF,
  List.map_cons, List.map_nil, List.length_cons, List.length_nil, List.cons_append, List.nil_append, List.replicate_succ, List.replicate_zero, Nat.reduceSub, Nat.reduceAdd, List.set_cons_zero, List.set_cons_succ, List.getElem?_cons_zero, List.getElem?_cons_succ, Nat.add_zero, Nat.zero_add, Nat.sub_self, decide_eq_true_eq, e_take, e_log, e_ends]
  refine take_wp H (by omega) (by decide) (by decide) fun h s1 H1 K1 a0 a1 => ?_
  try simp only [wp_cons, wp_nil, wp_asg, wp_expr, wp_retS, wp_retN, wp_iteS, wp_pass, wp_brk, wp_cont, wp_setIx, wp_augX, wp_asgT, wp_for, wp_varX, wp_cst, wp_bin, wp_cmp, wp_cmpT, wp_chainT, wp_andT, wp_orT, wp_notT, wp_iteE, wp_idx, wp_sl, wp_call, wp_bi, wp_tup, wp_lst, wp_dict0, wp_meth, wp_lc, wp_evs_nil, wp_evs_cons, wp_evo_none, wp_evo_some, wp_seq, wp_enum, wp_rng1, wp_rng2, wp_idxT, wp_varT, wp_callT, wp_biT, x_truB, tsto_none, tsto_some,
  seqQ_nx, seqQ_ret, seqQ_bk, seqQ_ct, endQ_ret, endQ_nx, varQ_some, lstQ_some, dctQ_some, optQ_some, blQ_bl, inQ_int, rgQ_int, rg2Q_int,
  x_eqSS, x_eqII, x_neSS, x_neII, str_we, str_ew, decide_true, decide_false, if_true, if_false, Bool.false_eq_true, reduceIte, x_addI, x_addT, x_addS, x_addL, x_subI, x_mulI, x_divI, x_modI, x_powI, x_ltI, x_leI, x_gtI, x_geI, x_is, x_isnot, x_isB, x_isNB, x_ixT, x_ixF, x_abs, x_lenT, x_lenF, x_intI, x_intB, x_max2, x_min2, x_seqT, x_seqF, x_slT, x_slF,
  List.map_cons, List.map_nil, List.length_cons, List.length_nil, List.cons_append, List.nil_append, List.replicate_succ, List.replicate_zero, Nat.reduceSub, Nat.reduceAdd, List.set_cons_zero, List.set_cons_succ, List.getElem?_cons_zero, List.getElem?_cons_succ, Nat.add_zero, Nat.zero_add, Nat.sub_self, decide_eq_true_eq]
  refine take_wp H1 (by omega) (by decide) (by decide) fun g s2 H2 K2 b0 b1 => ?_
  try simp only [wp_cons, wp_nil, wp_asg, wp_expr, wp_retS, wp_retN, wp_iteS, wp_pass, wp_brk, wp_cont, wp_setIx, wp_augX, wp_asgT, wp_for, wp_varX, wp_cst, wp_bin, wp_cmp, wp_cmpT, wp_chainT, wp_andT, wp_orT, wp_notT, wp_iteE, wp_idx, wp_sl, wp_call, wp_bi, wp_tup, wp_lst, wp_dict0, wp_meth, wp_lc, wp_evs_nil, wp_evs_cons, wp_evo_none, wp_evo_some, wp_seq, wp_enum, wp_rng1, wp_rng2, wp_idxT, wp_varT, wp_callT, wp_biT, x_truB, tsto_none, tsto_some,
  seqQ_nx, seqQ_ret, seqQ_bk, seqQ_ct, endQ_ret, endQ_nx, varQ_some, lstQ_some, dctQ_some, optQ_some, blQ_bl, inQ_int, rgQ_int, rg2Q_int,
  x_eqSS, x_eqII, x_neSS, x_neII, str_we, str_ew, decide_true, decide_false, if_true, if_false, Bool.false_eq_true, reduceIte, x_addI, x_addT, x_addS, x_addL, x_subI, x_mulI, x_divI, x_modI, x_powI, x_ltI, x_leI, x_gtI, x_geI, x_is, x_isnot, x_isB, x_isNB, x_ixT, x_ixF, x_abs, x_lenT, x_lenF, x_intI, x_intB, x_max2, x_min2, x_seqT, x_seqF, x_slT, x_slF,
  List.map_cons, List.map_nil, List.length_cons, List.length_nil, List.cons_append, List.nil_append, List.replicate_succ, List.replicate_zero, Nat.reduceSub, Nat.reduceAdd, List.set_cons_zero, List.set_cons_succ, List.getElem?_cons_zero, List.getElem?_cons_succ, Nat.add_zero, Nat.zero_add, Nat.sub_self, decide_eq_true_eq]
  refine ⟨by decide, [x0, x1, some (.ob i), x3, x4, x5, x6, x7, some (.bl (decide (h = 0))), some (.bl (decide (g = 0))), x10], rfl, ?_⟩
  simp only [wp_cons, wp_nil, wp_asg, wp_expr, wp_retS, wp_retN, wp_iteS, wp_pass, wp_brk, wp_cont, wp_setIx, wp_augX, wp_asgT, wp_for, wp_varX, wp_cst, wp_bin, wp_cmp, wp_cmpT, wp_chainT, wp_andT, wp_orT, wp_notT, wp_iteE, wp_idx, wp_sl, wp_call, wp_bi, wp_tup, wp_lst, wp_dict0, wp_meth, wp_lc, wp_evs_nil, wp_evs_cons, wp_evo_none, wp_evo_some, wp_seq, wp_enum, wp_rng1, wp_rng2, wp_idxT, wp_varT, wp_callT, wp_biT, x_truB, tsto_none, tsto_some,
  seqQ_nx, seqQ_ret, seqQ_bk, seqQ_ct, endQ_ret, endQ_nx, varQ_some, lstQ_some, dctQ_some, optQ_some, blQ_bl, inQ_int, rgQ_int, rg2Q_int,
  x_eqSS, x_eqII, x_neSS, x_neII, str_we, str_ew, decide_true, decide_false, if_true, if_false, Bool.false_eq_true, reduceIte, x_addI, x_addT, x_addS, x_addL, x_subI, x_mulI, x_divI, x_modI, x_powI, x_ltI, x_leI, x_gtI, x_geI, x_is, x_isnot, x_isB, x_isNB, x_ixT, x_ixF, x_abs, x_lenT, x_lenF, x_intI, x_intB, x_max2, x_min2, x_seqT, x_seqF, x_slT, x_slF,
  List.map_cons, List.map_nil, List.length_cons, List.length_nil, List.cons_append, List.nil_append, List.replicate_succ, List.replicate_zero, Nat.reduceSub, Nat.reduceAdd, List.set_cons_zero, List.set_cons_succ, List.getElem?_cons_zero, List.getElem?_cons_succ, Nat.add_zero, Nat.zero_add, Nat.sub_self, decide_eq_true_eq]
  refine take_wp H2 (by omega) (by decide) (by decide) fun c s3 H3 K3 c0 c1 => ?_
  try simp only [wp_cons, wp_nil, wp_asg, wp_expr, wp_retS, wp_retN, wp_iteS, wp_pass, wp_brk, wp_cont, wp_setIx, wp_augX, wp_asgT, wp_for, wp_varX, wp_cst, wp_bin, wp_cmp, wp_cmpT, wp_chainT, wp_andT, wp_orT, wp_notT, wp_iteE, wp_idx, wp_sl, wp_call, wp_bi, wp_tup, wp_lst, wp_dict0, wp_meth, wp_lc, wp_evs_nil, wp_evs_cons, wp_evo_none, wp_evo_some, wp_seq, wp_enum, wp_rng1, wp_rng2, wp_idxT, wp_varT, wp_callT, wp_biT, x_truB, tsto_none, tsto_some,
  seqQ_nx, seqQ_ret, seqQ_bk, seqQ_ct, endQ_ret, endQ_nx, varQ_some, lstQ_some, dctQ_some, optQ_some, blQ_bl, inQ_int, rgQ_int, rg2Q_int,
  x_eqSS, x_eqII, x_neSS, x_neII, str_we, str_ew, decide_true, decide_false, if_true, if_false, Bool.false_eq_true, reduceIte, x_addI, x_addT, x_addS, x_addL, x_subI, x_mulI, x_divI, x_modI, x_powI, x_ltI, x_leI, x_gtI, x_geI, x_is, x_isnot, x_isB, x_isNB, x_ixT, x_ixF, x_abs, x_lenT, x_lenF, x_intI, x_intB, x_max2, x_min2, x_seqT, x_seqF, x_slT, x_slF,
  List.map_cons, List.map_nil, List.length_cons, List.length_nil, List.cons_append, List.nil_append, List.replicate_succ, List.replicate_zero, Nat.reduceSub, Nat.reduceAdd, List.set_cons_zero, List.set_cons_succ, List.getElem?_cons_zero, List.getElem?_cons_succ, Nat.add_zero, Nat.zero_add, Nat.sub_self, decide_eq_true_eq]
  refine ⟨mulOk_left (by decide) (by decide), ?_⟩
  have hcnt : 0 ≤ c + 59 * (if decide (g = 0) = true then 1 else 0) ∧ c + 59 * (if decide (g = 0) = true then 1 else 0) ≤ 79 := by split <;> omega
  simp only [decide_eq_true_eq] at hcnt
  refine log_wp (C1 := C8) (C2 := C11) f12_l_take f12_l_keys ⟨C10, f11_l_part⟩ H3 (by omega) hcnt.1 (by omega) fun L s4 hM hl H4 K4 => ?_
  refine ends_wp hM fun a q0 q1 => ?_
  have hi4 := H4.lt
  try simp only [wp_cons, wp_nil, wp_asg, wp_expr, wp_retS, wp_retN, wp_iteS, wp_pass, wp_brk, wp_cont, wp_setIx, wp_augX, wp_asgT, wp_for, wp_varX, wp_cst, wp_bin, wp_cmp, wp_cmpT, wp_chainT, wp_andT, wp_orT, wp_notT, wp_iteE, wp_idx, wp_sl, wp_call, wp_bi, wp_tup, wp_lst, wp_dict0, wp_meth, wp_lc, wp_evs_nil, wp_evs_cons, wp_evo_none, wp_evo_some, wp_seq, wp_enum, wp_rng1, wp_rng2, wp_idxT, wp_varT, wp_callT, wp_biT, x_truB, tsto_none, tsto_some,
  seqQ_nx, seqQ_ret, seqQ_bk, seqQ_ct, endQ_ret, endQ_nx, varQ_some, lstQ_some, dctQ_some, optQ_some, blQ_bl, inQ_int, rgQ_int, rg2Q_int,
  x_eqSS, x_eqII, x_neSS, x_neII, str_we, str_ew, decide_true, decide_false, if_true, if_false, Bool.false_eq_true, reduceIte, x_addI, x_addT, x_addS, x_addL, x_subI, x_mulI, x_divI, x_modI, x_powI, x_ltI, x_leI, x_gtI, x_geI, x_is, x_isnot, x_isB, x_isNB, x_ixT, x_ixF, x_abs, x_lenT, x_lenF, x_intI, x_intB, x_max2, x_min2, x_seqT, x_seqF, x_slT, x_slF,
  List.map_cons, List.map_nil, List.length_cons, List.length_nil, List.cons_append, List.nil_append, List.replicate_succ, List.replicate_zero, Nat.reduceSub, Nat.reduceAdd, List.set_cons_zero, List.set_cons_succ, List.getElem?_cons_zero, List.getElem?_cons_succ, Nat.add_zero, Nat.zero_add, Nat.sub_self, decide_eq_true_eq]
  refine ⟨by decide, ?_⟩
  have H5 := H4.app [.lst [.int 0, .int a, .int (a + 3)]]
  have hat : (s4 ++ [Ob.lst [.int 0, .int a, .int (a + 3)]])[s4.length]? = some (.lst (([0, a, a + 3] : List Int).map D.int)) := by simp
  generalize s4 ++ [Ob.lst [.int 0, .int a, .int (a + 3)]] = s5 at H5 hat
  have hl2 : L.length ≤ 100 := by omega
  show wp (loopF none (forF (.name 6) (runs C14 more_b)) ((List.range 5).map fun k : Nat => D.int (0 + (k : Int))) _) _ s5
  refine wp_loopF_map (gd := none) (fun k : Nat => D.int (0 + (k : Int))) (List.range 5) (fun P env s' => ∃ y6 y10 es, env = [x0, x1, some (.ob i), x3, some (logT L), some (.ob s4.length), y6, x7, some (.bl (decide (h = 0))), some (.bl (decide (g = 0))), y10] ∧ HandA i (n + 1000 + 2 * P.length) s' ∧ s'[s4.length]? = some (.lst (es.map D.int)) ∧ es.length = 3 + P.length ∧ ∀ e ∈ es, 0 ≤ e ∧ e ≤ 10000) ?_ ?_
    ⟨x6, x10, [0, a, a + 3], rfl, H5.mono (by simp; omega), hat, rfl, by simp; omega⟩
  · rintro P k R env s' hL ⟨y6, y10, es, rfl, H6, hj, hes, hb⟩
    refine ⟨rfl, ?_⟩
    have hPl : P.length ≤ 5 := by
      have := congrArg List.length hL
      simp only [List.length_range, List.length_append, List.length_cons] at this
      omega
    rw [wp_forF (env1 := [x0, x1, some (.ob i), x3, some (logT L), some (.ob s4.length), some (.int (0 + (k : Int))), x7, some (.bl (decide (h = 0))), some (.bl (decide (g = 0))), y10]) rfl]
    refine more_wp hM (by omega) H6 (by omega) hj (by omega) (by omega) fun z10 v s7 v0 v1 H7 hj7 => ?_
    refine ⟨_, _, es ++ [v], rfl, H7.mono (by simp; omega), hj7, by simp; omega, fun e he => ?_⟩
    rcases List.mem_append.mp he with he | he
    · exact hb e he
    · rw [List.mem_singleton.mp he]; omega
  · rintro env s' ⟨y6, y10, es, rfl, H6, hj, hes, hb⟩
    refine ⟨rfl, ?_⟩
    simp only [wp_cons, wp_nil, wp_asg, wp_expr, wp_retS, wp_retN, wp_iteS, wp_pass, wp_brk, wp_cont, wp_setIx, wp_augX, wp_asgT, wp_for, wp_varX, wp_cst, wp_bin, wp_cmp, wp_cmpT, wp_chainT, wp_andT, wp_orT, wp_notT, wp_iteE, wp_idx, wp_sl, wp_call, wp_bi, wp_tup, wp_lst, wp_dict0, wp_meth, wp_lc, wp_evs_nil, wp_evs_cons, wp_evo_none, wp_evo_some, wp_seq, wp_enum, wp_rng1, wp_rng2, wp_idxT, wp_varT, wp_callT, wp_biT, x_truB, tsto_none, tsto_some,
  seqQ_nx, seqQ_ret, seqQ_bk, seqQ_ct, endQ_ret, endQ_nx, varQ_some, lstQ_some, dctQ_some, optQ_some, blQ_bl, inQ_int, rgQ_int, rg2Q_int,
  x_eqSS, x_eqII, x_neSS, x_neII, str_we, str_ew, decide_true, decide_false, if_true, if_false, Bool.false_eq_true, reduceIte, x_addI, x_addT, x_addS, x_addL, x_subI, x_mulI, x_divI, x_modI, x_powI, x_ltI, x_leI, x_gtI, x_geI, x_is, x_isnot, x_isB, x_isNB, x_ixT, x_ixF, x_abs, x_lenT, x_lenF, x_intI, x_intB, x_max2, x_min2, x_seqT, x_seqF, x_slT, x_slF,
  List.map_cons, List.map_nil, List.length_cons, List.length_nil, List.cons_append, List.nil_append, List.replicate_succ, List.replicate_zero, Nat.reduceSub, Nat.reduceAdd, List.set_cons_zero, List.set_cons_succ, List.getElem?_cons_zero, List.getElem?_cons_succ, Nat.add_zero, Nat.zero_add, Nat.sub_self, decide_eq_true_eq]
    rw [x_seqL hj]
    refine wp_loopF_map (gd := some (s4.length, es.map D.int)) D.int es (fun P env s8 => ∃ y7, env = [x0, x1, some (.ob i), x3, some (logT L), some (.ob s4.length), y6, y7, some (.bl (decide (h = 0))), some (.bl (decide (g = 0))), y10] ∧ Kp [] s' s8) ?_ ?_ ⟨x7, rfl, Kp.refl _ _⟩
    · rintro P e R env s8 hL ⟨y7, rfl, K8⟩
      have hg8 : gdOk s8 (some (s4.length, es.map D.int)) = true := by
        simp only [gdOk, decide_eq_true_eq]
        exact K8.at' _ _ (by simp) hj
      refine ⟨hg8, ?_⟩
      rw [wp_forF (env1 := [x0, x1, some (.ob i), x3, some (logT L), some (.ob s4.length), y6, some (.int e), some (.bl (decide (h = 0))), some (.bl (decide (g = 0))), y10]) rfl]
      have he := hb e (by rw [hL]; simp)
      refine check_wp hM (by omega) he.1 he.2 fun s9 K9 => ?_
      exact ⟨_, rfl, K8.trans K9⟩
    · rintro env s8 ⟨y7, rfl, K8⟩
      refine ⟨?_, ?_⟩
      · simp only [gdOk, decide_eq_true_eq]
        exact K8.at' _ _ (by simp) hj
      · try simp only [wp_cons, wp_nil, wp_asg, wp_expr, wp_retS, wp_retN, wp_iteS, wp_pass, wp_brk, wp_cont, wp_setIx, wp_augX, wp_asgT, wp_for, wp_varX, wp_cst, wp_bin, wp_cmp, wp_cmpT, wp_chainT, wp_andT, wp_orT, wp_notT, wp_iteE, wp_idx, wp_sl, wp_call, wp_bi, wp_tup, wp_lst, wp_dict0, wp_meth, wp_lc, wp_evs_nil, wp_evs_cons, wp_evo_none, wp_evo_some, wp_seq, wp_enum, wp_rng1, wp_rng2, wp_idxT, wp_varT, wp_callT, wp_biT, x_truB, tsto_none, tsto_some,
  seqQ_nx, seqQ_ret, seqQ_bk, seqQ_ct, endQ_ret, endQ_nx, varQ_some, lstQ_some, dctQ_some, optQ_some, blQ_bl, inQ_int, rgQ_int, rg2Q_int,
  x_eqSS, x_eqII, x_neSS, x_neII, str_we, str_ew, decide_true, decide_false, if_true, if_false, Bool.false_eq_true, reduceIte, x_addI, x_addT, x_addS, x_addL, x_subI, x_mulI, x_divI, x_modI, x_powI, x_ltI, x_leI, x_gtI, x_geI, x_is, x_isnot, x_isB, x_isNB, x_ixT, x_ixF, x_abs, x_lenT, x_lenF, x_intI, x_intB, x_max2, x_min2, x_seqT, x_seqF, x_slT, x_slF,
  List.map_cons, List.map_nil, List.length_cons, List.length_nil, List.cons_append, List.nil_append, List.replicate_succ, List.replicate_zero, Nat.reduceSub, Nat.reduceAdd, List.set_cons_zero, List.set_cons_succ, List.getElem?_cons_zero, List.getElem?_cons_succ, Nat.add_zero, Nat.zero_add, Nat.sub_self, decide_eq_true_eq]
        exact ⟨_, _, _, _, _, _, _, rfl, (H6.kp K8 (by simp)).mono (by simp; omega)⟩
def body1_b : Sms :=
    (.cons (.asg 2 (.call "_law_hand" (.cons (.var 0) (.cons (.var 1) .nil))))
    (.cons (.forS (.rng1 (.cst (.int 3))) (.name 3) body2_b)
    .nil))
theorem body1_wp {ns : List Int} {k : Int} {x2 x3 x4 x5 x6 x7 x8 x9 x10 : Option D} {s : Store} (h0 : 0 ≤ k) (h1 : k < 1000) :
    wp (runs C14 body1_b [some (.fls (ns.map D.int)), some (.int k), x2, x3, x4, x5, x6, x7, x8, x9, x10]) (fun fl s' => ∃ y2 y3 y4 y5 y6 y7 y8 y9 y10, fl = .nx [some (.fls (ns.map D.int)), some (.int k), y2, y3, y4, y5, y6, y7, y8, y9, y10]) s := by
  unfold body1_b
  simp only [wp_cons, wp_nil, wp_asg, wp_expr, wp_retS, wp_retN, wp_iteS, wp_pass, wp_brk, wp_cont, wp_setIx, wp_augX, wp_asgT, wp_for, wp_varX, wp_cst, wp_bin, wp_cmp, wp_cmpT, wp_chainT, wp_andT, wp_orT, wp_notT, wp_iteE, wp_idx, wp_sl, wp_call, wp_bi, wp_tup, wp_lst, wp_dict0, wp_meth, wp_lc, wp_evs_nil, wp_evs_cons, wp_evo_none, wp_evo_some, wp_seq, wp_enum, wp_rng1, wp_rng2, wp_idxT, wp_varT, wp_callT, wp_biT, x_truB, tsto_none, tsto_some,
  seqQ_nx, seqQ_ret, seqQ_bk, seqQ_ct, endQ_ret, endQ_nx, varQ_some, lstQ_some, dctQ_some, optQ_some, blQ_bl, inQ_int, rgQ_int, rg2Q_int,
  x_eqSS, x_eqII, x_neSS, x_neII, str_we, str_ew, decide_true, decide_false, if_true, if_false, Bool.false_eq_true, reduceIte, x_addI, x_addT, x_addS, x_addL, x_subI, x_mulI, x_divI, x_modI, x_powI, x_ltI, x_leI, x_gtI, x_geI, x_is, x_isnot, x_isB, x_isNB, x_ixT, x_ixF, x_abs, x_lenT, x_lenF, x_intI, x_intB, x_max2, x_min2, x_seqT, x_seqF, x_slT, x_slF,
  List.map_cons, List.map_nil, List.length_cons, List.length_nil, List.cons_append, List.nil_append, List.replicate_succ, List.replicate_zero, Nat.reduceSub, Nat.reduceAdd, List.set_cons_zero, List.set_cons_succ, List.getElem?_cons_zero, List.getElem?_cons_succ, Nat.add_zero, Nat.zero_add, Nat.sub_self, decide_eq_true_eq, e_hand]
  refine hand_wp h0 h1 fun o ho => ?_
  refine ⟨by decide, ?_⟩
  show wp (loopF none (forF (.name 3) (runs C14 body2_b)) ((List.range 3).map fun k : Nat => D.int (0 + (k : Int))) _) _ _
  refine wp_loopF_map (gd := none) (fun k : Nat => D.int (0 + (k : Int))) (List.range 3) (fun P env s' => ∃ y3 y4 y5 y6 y7 y8 y9 y10, env = [some (.fls (ns.map D.int)), some (.int k), some (.ob s.length), y3, y4, y5, y6, y7, y8, y9, y10] ∧ HandA s.length (2000 * P.length) s') ?_ ?_
    ⟨x3, x4, x5, x6, x7, x8, x9, x10, rfl, ⟨o, by simp, ho.mono (by simp)⟩⟩
  · rintro P a R env s' hL ⟨y3, y4, y5, y6, y7, y8, y9, y10, rfl, H⟩
    refine ⟨rfl, ?_⟩
    have hPl : P.length ≤ 3 := by
      have := congrArg List.length hL
      simp only [List.length_range, List.length_append, List.length_cons] at this
      omega
    rw [wp_forF (env1 := [some (.fls (ns.map D.int)), some (.int k), some (.ob s.length), some (.int (0 + (a : Int))), y4, y5, y6, y7, y8, y9, y10]) rfl]
    refine wp_mono (body2_wp H (by omega)) fun fl s2 h => ?_
    obtain ⟨z4, z5, z6, z7, z8, z9, z10, rfl, H2⟩ := h
    exact ⟨_, _, _, _, _, _, _, _, rfl, H2.mono (by simp; omega)⟩
  · rintro env s' ⟨y3, y4, y5, y6, y7, y8, y9, y10, rfl, H⟩
    refine ⟨rfl, ?_⟩
    try simp only [wp_cons, wp_nil, wp_asg, wp_expr, wp_retS, wp_retN, wp_iteS, wp_pass, wp_brk, wp_cont, wp_setIx, wp_augX, wp_asgT, wp_for, wp_varX, wp_cst, wp_bin, wp_cmp, wp_cmpT, wp_chainT, wp_andT, wp_orT, wp_notT, wp_iteE, wp_idx, wp_sl, wp_call, wp_bi, wp_tup, wp_lst, wp_dict0, wp_meth, wp_lc, wp_evs_nil, wp_evs_cons, wp_evo_none, wp_evo_some, wp_seq, wp_enum, wp_rng1, wp_rng2, wp_idxT, wp_varT, wp_callT, wp_biT, x_truB, tsto_none, tsto_some,
  seqQ_nx, seqQ_ret, seqQ_bk, seqQ_ct, endQ_ret, endQ_nx, varQ_some, lstQ_some, dctQ_some, optQ_some, blQ_bl, inQ_int, rgQ_int, rg2Q_int,
  x_eqSS, x_eqII, x_neSS, x_neII, str_we, str_ew, decide_true, decide_false, if_true, if_false, Bool.false_eq_true, reduceIte, x_addI, x_addT, x_addS, x_addL, x_subI, x_mulI, x_divI, x_modI, x_powI, x_ltI, x_leI, x_gtI, x_geI, x_is, x_isnot, x_isB, x_isNB, x_ixT, x_ixF, x_abs, x_lenT, x_lenF, x_intI, x_intB, x_max2, x_min2, x_seqT, x_seqF, x_slT, x_slF,
  List.map_cons, List.map_nil, List.length_cons, List.length_nil, List.cons_append, List.nil_append, List.replicate_succ, List.replicate_zero, Nat.reduceSub, Nat.reduceAdd, List.set_cons_zero, List.set_cons_succ, List.getElem?_cons_zero, List.getElem?_cons_succ, Nat.add_zero, Nat.zero_add, Nat.sub_self, decide_eq_true_eq]
    exact ⟨_, _, _, _, _, _, _, _, _, rfl⟩
def law_b : Sms :=
  (.cons (.forS (.rng1 (.bin .Add (.cst (.int 1)) (.bi .len (.cons (.sl (.var 0) .none (.some (.cst (.int 5)))) .nil)))) (.name 1) body1_b)
    (.cons (.ret (.cst (.bl true)))
    .nil))
theorem law_wp (ns : List Int) (hl : ns.length ≤ 63) : wp (callDef C14 11 law_b [.fls (ns.map D.int)]) (fun d _ => d = .bl true) [] := by
  unfold law_b
  rw [wp_callDef]
  simp only [wp_cons, wp_nil, wp_asg, wp_expr, wp_retS, wp_retN, wp_iteS, wp_pass, wp_brk, wp_cont, wp_setIx, wp_augX, wp_asgT, wp_for, wp_varX, wp_cst, wp_bin, wp_cmp, wp_cmpT, wp_chainT, wp_andT, wp_orT, wp_notT, wp_iteE, wp_idx, wp_sl, wp_call, wp_bi, wp_tup, wp_lst, wp_dict0, wp_meth, wp_lc, wp_evs_nil, wp_evs_cons, wp_evo_none, wp_evo_some, wp_seq, wp_enum, wp_rng1, wp_rng2, wp_idxT, wp_varT, wp_callT, wp_biT, x_truB, tsto_none, tsto_some,
  seqQ_nx, seqQ_ret, seqQ_bk, seqQ_ct, endQ_ret, endQ_nx, varQ_some, lstQ_some, dctQ_some, optQ_some, blQ_bl, inQ_int, rgQ_int, rg2Q_int,
  x_eqSS, x_eqII, x_neSS, x_neII, str_we, str_ew, decide_true, decide_false, if_true, if_false, Bool.false_eq_true, reduceIte, x_addI, x_addT, x_addS, x_addL, x_subI, x_mulI, x_divI, x_modI, x_powI, x_ltI, x_leI, x_gtI, x_geI, x_is, x_isnot, x_isB, x_isNB, x_ixT, x_ixF, x_abs, x_lenT, x_lenF, x_intI, x_intB, x_max2, x_min2, x_seqT, x_seqF, x_slT, x_slF,
  List.map_cons, List.map_nil, List.length_cons, List.length_nil, List.cons_append, List.nil_append, List.replicate_succ, List.replicate_zero, Nat.reduceSub, Nat.reduceAdd, List.set_cons_zero, List.set_cons_succ, List.getElem?_cons_zero, List.getElem?_cons_succ, Nat.add_zero, Nat.zero_add, Nat.sub_self, decide_eq_true_eq]
  rw [x_lenL (xs := cutL (ns.map D.int) none (some 5)) (by simp)]
  try simp only [wp_cons, wp_nil, wp_asg, wp_expr, wp_retS, wp_retN, wp_iteS, wp_pass, wp_brk, wp_cont, wp_setIx, wp_augX, wp_asgT, wp_for, wp_varX, wp_cst, wp_bin, wp_cmp, wp_cmpT, wp_chainT, wp_andT, wp_orT, wp_notT, wp_iteE, wp_idx, wp_sl, wp_call, wp_bi, wp_tup, wp_lst, wp_dict0, wp_meth, wp_lc, wp_evs_nil, wp_evs_cons, wp_evo_none, wp_evo_some, wp_seq, wp_enum, wp_rng1, wp_rng2, wp_idxT, wp_varT, wp_callT, wp_biT, x_truB, tsto_none, tsto_some,
  seqQ_nx, seqQ_ret, seqQ_bk, seqQ_ct, endQ_ret, endQ_nx, varQ_some, lstQ_some, dctQ_some, optQ_some, blQ_bl, inQ_int, rgQ_int, rg2Q_int,
  x_eqSS, x_eqII, x_neSS, x_neII, str_we, str_ew, decide_true, decide_false, if_true, if_false, Bool.false_eq_true, reduceIte, x_addI, x_addT, x_addS, x_addL, x_subI, x_mulI, x_divI, x_modI, x_powI, x_ltI, x_leI, x_gtI, x_geI, x_is, x_isnot, x_isB, x_isNB, x_ixT, x_ixF, x_abs, x_lenT, x_lenF, x_intI, x_intB, x_max2, x_min2, x_seqT, x_seqF, x_slT, x_slF,
  List.map_cons, List.map_nil, List.length_cons, List.length_nil, List.cons_append, List.nil_append, List.replicate_succ, List.replicate_zero, Nat.reduceSub, Nat.reduceAdd, List.set_cons_zero, List.set_cons_succ, List.getElem?_cons_zero, List.getElem?_cons_succ, Nat.add_zero, Nat.zero_add, Nat.sub_self, decide_eq_true_eq]
  have hc : (cutL (ns.map D.int) none (some 5)).length ≤ 63 := Nat.le_trans cut_le (by rw [List.length_map]; exact hl)
  generalize (cutL (ns.map D.int) none (some 5)).length = c at hc ⊢
  refine ⟨rng_small (by omega) (by omega), ?_⟩
  unfold rngI
  refine wp_loopF_map (gd := none) (fun k : Nat => D.int (0 + (k : Int))) (List.range (1 + (c : Int) - 0).toNat) (fun P env s' => ∃ y1 y2 y3 y4 y5 y6 y7 y8 y9 y10, env = [some (.fls (ns.map D.int)), y1, y2, y3, y4, y5, y6, y7, y8, y9, y10]) ?_ ?_ ⟨none, none, none, none, none, none, none, none, none, none, rfl⟩
  · rintro P a R env s' hL ⟨y1, y2, y3, y4, y5, y6, y7, y8, y9, y10, rfl⟩
    refine ⟨rfl, ?_⟩
    have ha : a ∈ List.range (1 + (c : Int) - 0).toNat := by rw [hL]; simp
    have ha2 := List.mem_range.mp ha
    rw [wp_forF (env1 := [some (.fls (ns.map D.int)), some (.int (0 + (a : Int))), y2, y3, y4, y5, y6, y7, y8, y9, y10]) rfl]
    refine wp_mono (body1_wp (by omega) (by omega)) fun fl s2 h => ?_
    obtain ⟨z2, z3, z4, z5, z6, z7, z8, z9, z10, rfl⟩ := h
    exact ⟨_, _, _, _, _, _, _, _, _, _, rfl⟩
  · rintro env s' ⟨y1, y2, y3, y4, y5, y6, y7, y8, y9, y10, rfl⟩
    refine ⟨rfl, ?_⟩
    simp only [wp_cons, wp_nil, wp_asg, wp_expr, wp_retS, wp_retN, wp_iteS, wp_pass, wp_brk, wp_cont, wp_setIx, wp_augX, wp_asgT, wp_for, wp_varX, wp_cst, wp_bin, wp_cmp, wp_cmpT, wp_chainT, wp_andT, wp_orT, wp_notT, wp_iteE, wp_idx, wp_sl, wp_call, wp_bi, wp_tup, wp_lst, wp_dict0, wp_meth, wp_lc, wp_evs_nil, wp_evs_cons, wp_evo_none, wp_evo_some, wp_seq, wp_enum, wp_rng1, wp_rng2, wp_idxT, wp_varT, wp_callT, wp_biT, x_truB, tsto_none, tsto_some,
  seqQ_nx, seqQ_ret, seqQ_bk, seqQ_ct, endQ_ret, endQ_nx, varQ_some, lstQ_some, dctQ_some, optQ_some, blQ_bl, inQ_int, rgQ_int, rg2Q_int,
  x_eqSS, x_eqII, x_neSS, x_neII, str_we, str_ew, decide_true, decide_false, if_true, if_false, Bool.false_eq_true, reduceIte, x_addI, x_addT, x_addS, x_addL, x_subI, x_mulI, x_divI, x_modI, x_powI, x_ltI, x_leI, x_gtI, x_geI, x_is, x_isnot, x_isB, x_isNB, x_ixT, x_ixF, x_abs, x_lenT, x_lenF, x_intI, x_intB, x_max2, x_min2, x_seqT, x_seqF, x_slT, x_slF,
  List.map_cons, List.map_nil, List.length_cons, List.length_nil, List.cons_append, List.nil_append, List.replicate_succ, List.replicate_zero, Nat.reduceSub, Nat.reduceAdd, List.set_cons_zero, List.set_cons_succ, List.getElem?_cons_zero, List.getElem?_cons_succ, Nat.add_zero, Nat.zero_add, Nat.sub_self, decide_eq_true_eq]
theorem law_true (ns : List Int) (hl : ns.length ≤ 63) (hb : ∀ z ∈ ns, Builtin.Int.intBits z ≤ 1048576) : ∃ sr, d_law.raw (rawT gl ds14) gl [.fls (ns.map D.int)] [] = .ok (.bl true) sr := by
  obtain ⟨d, s, e, rfl⟩ := law_wp ns hl
  exact ⟨s, e⟩
end K10

open PySem PySem.W PyProof.Rows
set_option maxRecDepth 100000 in
set_option maxHeartbeats 0 in
theorem PySem.Challenge.cw_wholelog_k10_settled_and_visible_holds : PySem.Challenge.rw_wholelog_k10_settled_and_visible.Holds := by
  w_on; o_law; k_head; (case hw => w_witness2)
  k_fill
  refine W9.walkR (l := PySem.Challenge.rw_wholelog_k10_settled_and_visible) (e := K10.d_law) (ds := K10.ds14) (bs := K10.bs) (gs := []) (gl := K10.gl) rfl (by decide) rfl (fun w h Y => PySem.W.kIn_of Y) ⟨rfl, by decide, by decide⟩ rfl rfl ?F (fun ns hl hb => K10.law_true ns hl hb)
  case F =>
    intro w
    refine' ⟨⟨⟨?i14, K10.bnd_law, K10.ch_law⟩, ⟨?i13, K10.bnd_l_hand, K10.ch_l_hand⟩, ⟨?i12, K10.bnd_l_log, K10.ch_l_log⟩, ⟨?i11, K10.bnd_l_keys, K10.ch_l_keys⟩, ⟨?i10, K10.bnd_l_part, K10.ch_l_part⟩, ⟨?i9, K10.bnd_l_ends, K10.ch_l_ends⟩, ⟨?i8, K10.bnd_l_take, K10.ch_l_take⟩, ⟨?i7, K10.bnd_settled, K10.ch_settled⟩, ⟨?i6, K10.bnd_l_visible, K10.ch_l_visible⟩, ⟨?i5, K10.bnd_l_settled, K10.ch_l_settled⟩, ⟨?i4, K10.bnd_l_first_end, K10.ch_l_first_end⟩, ⟨?i3, K10.bnd_visible, K10.ch_visible⟩, ⟨?i2, K10.bnd_first_ends, K10.ch_first_ends⟩, ⟨?i1, K10.bnd_stop_of, K10.ch_stop_of⟩, ⟨?i0, K10.bnd_below, K10.ch_below⟩, trivial⟩, W9.forall_bs ?zz, fun _ _ _ _ => W9.gls_nil⟩
    (case i0 => refine' W9.defIn_mk ?a ?l ?c ?k; (case a => k_is); (case l => k_is); (case c => k_is); (case k => k_is))
    (case i1 => refine' W9.defIn_mk ?a ?l ?c ?k; (case a => k_is); (case l => k_is); (case c => k_is); (case k => k_is))
    (case i2 => refine' W9.defIn_mk ?a ?l ?c ?k; (case a => k_is); (case l => k_is); (case c => k_is); (case k => k_is))
    (case i3 => refine' W9.defIn_mk ?a ?l ?c ?k; (case a => k_is); (case l => k_is); (case c => k_is); (case k => k_is))
    (case i4 => refine' W9.defIn_mk ?a ?l ?c ?k; (case a => k_is); (case l => k_is); (case c => k_is); (case k => k_is))
    (case i5 => refine' W9.defIn_mk ?a ?l ?c ?k; (case a => k_is); (case l => k_is); (case c => k_is); (case k => k_is))
    (case i6 => refine' W9.defIn_mk ?a ?l ?c ?k; (case a => k_is); (case l => k_is); (case c => k_is); (case k => k_is))
    (case i7 => refine' W9.defIn_mk ?a ?l ?c ?k; (case a => k_is); (case l => k_is); (case c => k_is); (case k => k_is))
    (case i8 => refine' W9.defIn_mk ?a ?l ?c ?k; (case a => k_is); (case l => k_is); (case c => k_is); (case k => k_is))
    (case i9 => refine' W9.defIn_mk ?a ?l ?c ?k; (case a => k_is); (case l => k_is); (case c => k_is); (case k => k_is))
    (case i10 => refine' W9.defIn_mk ?a ?l ?c ?k; (case a => k_is); (case l => k_is); (case c => k_is); (case k => k_is))
    (case i11 => refine' W9.defIn_mk ?a ?l ?c ?k; (case a => k_is); (case l => k_is); (case c => k_is); (case k => k_is))
    (case i12 => refine' W9.defIn_mk ?a ?l ?c ?k; (case a => k_is); (case l => k_is); (case c => k_is); (case k => k_is))
    (case i13 => refine' W9.defIn_mk ?a ?l ?c ?k; (case a => k_is); (case l => k_is); (case c => k_is); (case k => k_is))
    (case i14 => refine' W9.defIn_mk ?a ?l ?c ?k; (case a => k_is); (case l => k_is); (case c => k_is); (case k => k_is))
    (case zz => refine' ⟨?z0, ?z1, ?z2, ?z3, ?z4, ?z5, ?z6, ?z7, ?z8, ?z9, ?z10, trivial⟩; (case z0 => k_is); (case z1 => k_is); (case z2 => k_is); (case z3 => k_is); (case z4 => k_is); (case z5 => k_is); (case z6 => k_is); (case z7 => k_is); (case z8 => k_is); (case z9 => k_is); (case z10 => k_is))
#print axioms PySem.Challenge.cw_wholelog_k10_settled_and_visible_holds
