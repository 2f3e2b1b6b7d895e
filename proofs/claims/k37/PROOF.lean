import PyProof.Rows.All
import HandS.TupMul
import HandS.ForMost
import HandS.Flow
import HandS.Wide
import HandS.EndBits
import HandS.TupAny
import HandS.TupLe
import HandS.Deep
import HandS.SortInts
import HandS.Style
import HandS.Conv
import HandS.Walk
import KE.GoesEnum
import KE.GoesMore
import HandS.RaiseMore
import HandS.TryOnly
import HandS.SetKeys
import PyProof.DictMoreH
import HandS.Defaults
import HandS.Zip
import HandS.Words
import PySem.Challenge.RW_wholelog_k37_joiners_step_by_step
set_option Elab.async false
set_option linter.all false
set_option maxRecDepth 100000
set_option maxHeartbeats 4000000
/-! W9A: a tuple times 0 and 1 -/
namespace W9
open PySem PySem.Spec PyProof.Rows L2
theorem tuple_mul1 (l : Addr) (items : Array Value) (n : Nat) (dd : Option Addr) (sl : Array (Option Value)) (u : Tok) :
    Meets (Builtin.«tuple.__mul__» ⟨[.ref l, .int 1 u], []⟩) (fun _ R s => s.heap.get? l = some { cls := .type "tuple", dict := dd, data := .seq items n, slots := sl } ∧
      R (.ok (.ret (Value.ref l))) s) :=
  .of_wp fun prog w A R s h => by
    obtain ⟨hp, g, d, tk, os⟩ := s
    obtain ⟨hl, h⟩ := h
    have f1 := AutoSeq1.idx_int
    wp_walk using wpAny_loadPart' hl
    exact ⟨_, rfl, h⟩
theorem tuple_mul0 (l : Addr) (items : Array Value) (n : Nat) (dd : Option Addr) (sl : Array (Option Value)) (u : Tok) (c1 : (items.isEmpty || (0 : Int) == 1) = false) :
    Meets (Builtin.«tuple.__mul__» ⟨[.ref l, .int 0 u], []⟩) (fun _ R s => s.heap.get? l = some { cls := .type "tuple", dict := dd, data := .seq items n, slots := sl } ∧
      R (.ok (.ret (Value.ref s.heap.objs.size))) { s with heap := s.heap.push { cls := Value.type "tuple", data := Data.seq #[] }, toks := s.toks }) :=
  .of_wp fun prog w A R s h => by
    obtain ⟨hp, g, d, tk, os⟩ := s
    obtain ⟨hl, h⟩ := h
    have f1 := AutoSeq1.idx_int
    wp_walk using wpAny_loadPart' hl
    repeat (first
      | (refine wpAny_ite_false (decide_eq_false (by rw [c1]; exact Bool.false_ne_true)) ?_; wp_walk using wpAny_loadPart' hl))
    exact ⟨_, rfl, h⟩
section
variable {X : Cx}
theorem op_repT1 : OpR X (binaryOp .Mult) (fun x y H Q => ∃ l xs, x = .ref l ∧ y = .int 1 ∧ SqT X.K H l xs ∧ Q (.ref l) H) := by
  intro pins s σ H x y v u Q I rx ry h
  obtain ⟨l, xs, rfl, rfl, hT, q⟩ := h
  cases rx
  obtain ⟨t, rfl⟩ := ry
  obtain ⟨its, r, ⟨⟨cls, dd, data, sl⟩, ho, hc, n, hd⟩, hs⟩ := I.tuple hT
  simp only at hc hd
  subst hc hd
  refine wpAny_binaryOp_repeat_ref (T := "tuple") (U := "int") (by decide) ⟨_, ho, rfl⟩ (fun s' => typeIs_int s' 1 t) noFill_tuple_mul F.fills_int_mul F.slot_int_rmul repeat_tuple F.slot_int_index.lookup
    (call_meets F.slot_int_rmul (typeIs_int s 1 t) F.entry_int_rmul (F.args_int_rmul_2 _ _) (int_rmul_tuple 1 t l its.toArray n dd sl)
      ⟨ho, rfl, ⟨_, ho, rfl⟩, call_meets F.slot_tuple_mul ⟨_, ho, rfl⟩ F.entry_tuple_mul (F.args_tuple_mul_2 _ _) (tuple_mul1 l its.toArray n dd sl t) ⟨ho, ?_⟩⟩)
  exact ⟨.ref l, H, I, rfl, q⟩
theorem op_repT0 : OpR X (binaryOp .Mult) (fun x y H Q => ∃ l xs, x = .ref l ∧ y = .int 0 ∧ SqT X.K H l xs ∧ xs ≠ [] ∧ ∀ p, H p = none → Q (.ref p) (upd H p (.tup []))) := by
  intro pins s σ H x y v u Q I rx ry h
  obtain ⟨l, xs, rfl, rfl, hT, hne, q⟩ := h
  cases rx
  obtain ⟨t, rfl⟩ := ry
  obtain ⟨its, r, ⟨⟨cls, dd, data, sl⟩, ho, hc, n, hd⟩, hs⟩ := I.tuple hT
  simp only at hc hd
  subst hc hd
  have hle : its.length = xs.length := r.length.symm
  have hn : its ≠ [] := fun e => hne (by
    rw [e] at hle
    exact List.eq_nil_of_length_eq_zero hle.symm)
  have c1 : (its.toArray.isEmpty || (0 : Int) == 1) = false := by
    cases its with
    | nil => exact absurd rfl hn
    | cons a b => rfl
  refine wpAny_binaryOp_repeat_ref (T := "tuple") (U := "int") (by decide) ⟨_, ho, rfl⟩ (fun s' => typeIs_int s' 0 t) noFill_tuple_mul F.fills_int_mul F.slot_int_rmul repeat_tuple F.slot_int_index.lookup
    (call_meets F.slot_int_rmul (typeIs_int s 0 t) F.entry_int_rmul (F.args_int_rmul_2 _ _) (int_rmul_tuple 0 t l its.toArray n dd sl)
      ⟨ho, rfl, ⟨_, ho, rfl⟩, call_meets F.slot_tuple_mul ⟨_, ho, rfl⟩ F.entry_tuple_mul (F.args_tuple_mul_2 _ _) (tuple_mul0 l its.toArray n dd sl t c1) ⟨ho, ?_⟩⟩)
  refine ⟨.ref s.heap.objs.size, _, I.laid (t' := s.toks) (o := .tup []) (fun b ob q => Heap.get?_push_of_some _ q) (Nat.le_refl _) ?_, rfl, q _ (I.hok.fresh (Nat.le_refl _))⟩
  exact ⟨by rw [sizeLine_eq]; decide, _, .nil, IsTup.new _ _⟩
end
end W9

/-! W9a: data as trees, a store of objects, and how both lie in the hand layer's heap -/
namespace W9
open PySem L2

/-- data: immutable things as trees, mutable ones by their number in the store -/
inductive D where
  | non | bl (b : Bool) | int (i : Int) | str (s : Str) | tup (xs : List D) | fls (xs : List D) | ob (i : Nat)
mutual
def D.beq : D → D → Bool
  | .non, .non => true
  | .bl a, .bl b => a == b
  | .int a, .int b => a == b
  | .str a, .str b => decide (a = b)
  | .tup a, .tup b => D.beqs a b
  | .fls a, .fls b => D.beqs a b
  | .ob a, .ob b => a == b
  | _, _ => false
def D.beqs : List D → List D → Bool
  | [], [] => true
  | a :: as, b :: bs => D.beq a b && D.beqs as bs
  | _, _ => false
end
mutual
theorem D.beq_iff : ∀ a b : D, D.beq a b = true ↔ a = b
  | .non, b => by cases b <;> simp [D.beq]
  | .bl x, b => by cases b <;> simp [D.beq]
  | .int x, b => by cases b <;> simp [D.beq]
  | .str x, b => by cases b <;> simp [D.beq]
  | .ob x, b => by cases b <;> simp [D.beq]
  | .tup xs, b => by
    cases b with
    | tup ys => simp only [D.beq, D.tup.injEq]; exact D.beqs_iff xs ys
    | _ => simp [D.beq]
  | .fls xs, b => by
    cases b with
    | fls ys => simp only [D.beq, D.fls.injEq]; exact D.beqs_iff xs ys
    | _ => simp [D.beq]
theorem D.beqs_iff : ∀ a b : List D, D.beqs a b = true ↔ a = b
  | [], [] => by simp [D.beqs]
  | [], _ :: _ => by simp [D.beqs]
  | _ :: _, [] => by simp [D.beqs]
  | x :: xs, y :: ys => by simp only [D.beqs, Bool.and_eq_true, List.cons.injEq, D.beq_iff x y, D.beqs_iff xs ys]
end
instance : DecidableEq D := fun a b => decidable_of_iff _ (D.beq_iff a b)

inductive Ob where
  | lst (xs : List D) | dct (kvs : List (D × D)) | ins (c : Str) (fs : List (Str × D))
  deriving DecidableEq
abbrev Store := List Ob

/-- the one tuple of the program's top -/
abbrev bookD : List D := [.str "book", .int 0]
/-! ### how data lie -/
/-- a list that is never written: the script, a list of the module -/
def SqF (K : PySem.W.Frag) (H : Hp) (a : Addr) (xs : List V) : Prop := (∃ o, H a = some (.frz o (.lst xs))) ∨
  ∃ (o : Obj) (its : Array Value) (n : Nat), K.lookup a = some o ∧ o.cls = .type "list" ∧ o.dict = none ∧ o.data = .seq its n ∧ its.size ≤ sizeLine ∧ Vals xs its.toList
theorem SqF.sq {K : PySem.W.Frag} {H : Hp} {a : Addr} {xs : List V} (h : SqF K H a xs) : SqL K H a xs := by
  rcases h with ⟨o, h⟩ | h
  · exact .inl (.inr ⟨o, h⟩)
  · exact .inr h
mutual
inductive Rep (K : PySem.W.Frag) (ρ : List Addr) (H : Hp) : D → V → Prop
  | non : Rep K ρ H .non .non
  | bl (b : Bool) : Rep K ρ H (.bl b) (.bl b)
  | int (i : Int) : Rep K ρ H (.int i) (.int i)
  | str (x : Str) : Rep K ρ H (.str x) (.str x)
  | tup {a : Addr} {ds : List D} {vs : List V} : SqT K H a vs → Reps K ρ H ds vs → (H a = some (.tup vs) ∨ ds = bookD) → Rep K ρ H (.tup ds) (.ref a)
  | fls {a : Addr} {ds : List D} {vs : List V} : SqF K H a vs → Reps K ρ H ds vs → Rep K ρ H (.fls ds) (.ref a)
  | ob {i : Nat} {a : Addr} : ρ[i]? = some a → Rep K ρ H (.ob i) (.ref a)
inductive Reps (K : PySem.W.Frag) (ρ : List Addr) (H : Hp) : List D → List V → Prop
  | nil : Reps K ρ H [] []
  | cons {d : D} {ds : List D} {v : V} {vs : List V} : Rep K ρ H d v → Reps K ρ H ds vs → Reps K ρ H (d :: ds) (v :: vs)
end

/-- keys of dicts -/
def keyD : D → Option Key
  | .int i => some (.inl i)
  | .str s => some (.inr s)
  | _ => none
def keysD : List D → Option (List Key)
  | [] => some []
  | d :: ds => match keyD d, keysD ds with
    | some k, some ks => some (k :: ks)
    | _, _ => none
def keyT : D → Option (List Key)
  | .tup ds => if ds = bookD then none else keysD ds
  | _ => none
/-- a dict's pairs as the hand layer has them -/
inductive KvK (K : PySem.W.Frag) (ρ : List Addr) (H : Hp) : List (D × D) → List (Key × V) → Prop
  | nil : KvK K ρ H [] []
  | cons {k d : D} {r : List (D × D)} {key : Key} {v : V} {vr : List (Key × V)} : keyD k = some key → Rep K ρ H d v → KvK K ρ H r vr → KvK K ρ H ((k, d) :: r) ((key, v) :: vr)
inductive KvT (K : PySem.W.Frag) (ρ : List Addr) (H : Hp) : List (D × D) → List (List Key × V) → Prop
  | nil : KvT K ρ H [] []
  | cons {k d : D} {r : List (D × D)} {key : List Key} {v : V} {vr : List (List Key × V)} : keyT k = some key → Rep K ρ H d v → KvT K ρ H r vr → KvT K ρ H ((k, d) :: r) ((key, v) :: vr)

/-- the class of a name -/
structure ClsN (K : PySem.W.Frag) (c : Str) (C : Addr) : Prop where
  ns : PySem.W.nsIn K mainGlobals c = some (some (.ref C))
  cls : Cls K C
theorem ClsN.uniq {K : PySem.W.Frag} {c : Str} {C C' : Addr} (h : ClsN K c C) (h' : ClsN K c C') : C' = C := by
  have := h.ns.symm.trans h'.ns
  cases this
  rfl
/-- the attributes of an instance -/
inductive FsR (K : PySem.W.Frag) (ρ : List Addr) (H : Hp) : List (Str × D) → List (Str × V) → Prop
  | nil : FsR K ρ H [] []
  | cons {f : Str} {d : D} {v : V} {r : List (Str × D)} {vr : List (Str × V)} : Rep K ρ H d v → FsR K ρ H r vr → FsR K ρ H ((f, d) :: r) ((f, v) :: vr)
def putFd (f : Str) (d : D) : List (Str × D) → List (Str × D)
  | [] => [(f, d)]
  | (g, x) :: r => if g = f then (g, d) :: r else (g, x) :: putFd f d r
def ObRep (K : PySem.W.Frag) (ρ : List Addr) (H : Hp) (a : Addr) : Ob → Prop
  | .lst ds => ∃ vs, H a = some (.lst vs) ∧ Reps K ρ H ds vs
  | .dct kvs => (∃ ks, H a = some (.dK ks) ∧ KvK K ρ H kvs ks) ∨ (∃ ks, H a = some (.dT ks) ∧ KvT K ρ H kvs ks)
  | .ins c fs => ∃ C dx vs, ClsN K c C ∧ H a = some (.ins C dx vs) ∧ FsR K ρ H fs vs

structure Sim (K : PySem.W.Frag) (ρ : List Addr) (st : Store) (H : Hp) : Prop where
  len : ρ.length = st.length
  nd : ρ.Nodup
  ob : ∀ (i : Nat) (o : Ob) (a : Addr), st[i]? = some o → ρ[i]? = some a → ObRep K ρ H a o

structure Grow (ρ : List Addr) (H : Hp) (ρ' : List Addr) (H' : Hp) : Prop where
  pre : ρ <+: ρ'
  fr : ∀ a ∈ ρ', a ∉ ρ → H a = none
  frame : ∀ b o, H b = some o → b ∉ ρ → H' b = some o
  tups : ∀ b xs, H b = some (.tup xs) → H' b = some (.tup xs)
  frzs : ∀ b o u, H b = some (.frz o u) → H' b = some (.frz o u)

theorem Grow.refl (ρ : List Addr) (H : Hp) : Grow ρ H ρ H := ⟨List.prefix_refl _, fun a h n => absurd h n, fun _ _ h _ => h, fun _ _ h => h, fun _ _ _ h => h⟩
theorem Grow.trans {ρ ρ1 ρ2 : List Addr} {H H1 H2 : Hp} (g : Grow ρ H ρ1 H1) (h : Grow ρ1 H1 ρ2 H2) : Grow ρ H ρ2 H2 := by
  refine ⟨g.pre.trans h.pre, fun a ha hn => ?_, fun b o e hb => h.frame b o (g.frame b o e hb) fun z => ?_, fun b xs e => h.tups b xs (g.tups b xs e), fun b o u e => h.frzs b o u (g.frzs b o u e)⟩
  · by_cases h1 : a ∈ ρ1
    · exact g.fr a h1 hn
    · have q := h.fr a ha h1
      cases e : H a with
      | none => rfl
      | some o => rw [g.frame a o e hn] at q; cases q
  · have q := g.fr b z hb
    rw [e] at q; cases q
/-- what data lean on -/
structure Keep (ρ : List Addr) (H : Hp) (ρ' : List Addr) (H' : Hp) : Prop where
  pre : ρ <+: ρ'
  tups : ∀ b xs, H b = some (.tup xs) → H' b = some (.tup xs)
  frzs : ∀ b o u, H b = some (.frz o u) → H' b = some (.frz o u)
theorem Grow.keep {ρ ρ1 : List Addr} {H H1 : Hp} (g : Grow ρ H ρ1 H1) : Keep ρ H ρ1 H1 := ⟨g.pre, g.tups, g.frzs⟩
theorem Keep.ix {ρ ρ1 : List Addr} {H H1 : Hp} (g : Keep ρ H ρ1 H1) {i : Nat} {a : Addr} (h : ρ[i]? = some a) : ρ1[i]? = some a := by
  obtain ⟨t, rfl⟩ := g.pre
  rw [List.getElem?_append_left (List.getElem?_eq_some_iff.mp h).1]
  exact h
theorem Keep.sqt {K : PySem.W.Frag} {ρ ρ1 : List Addr} {H H1 : Hp} (g : Keep ρ H ρ1 H1) {a : Addr} {vs : List V} (h : SqT K H a vs) : SqT K H1 a vs := by
  rcases h with (h | ⟨o, h⟩) | h
  · exact .inl (.inl (g.tups _ _ h))
  · exact .inl (.inr ⟨o, g.frzs _ _ _ h⟩)
  · exact .inr h
theorem Keep.sqf {K : PySem.W.Frag} {ρ ρ1 : List Addr} {H H1 : Hp} (g : Keep ρ H ρ1 H1) {a : Addr} {vs : List V} (h : SqF K H a vs) : SqF K H1 a vs := by
  rcases h with ⟨o, h⟩ | h
  · exact .inl ⟨o, g.frzs _ _ _ h⟩
  · exact .inr h
theorem Grow.ix {ρ ρ1 : List Addr} {H H1 : Hp} (g : Grow ρ H ρ1 H1) {i : Nat} {a : Addr} (h : ρ[i]? = some a) : ρ1[i]? = some a := g.keep.ix h
theorem Grow.sqt {K : PySem.W.Frag} {ρ ρ1 : List Addr} {H H1 : Hp} (g : Grow ρ H ρ1 H1) {a : Addr} {vs : List V} (h : SqT K H a vs) : SqT K H1 a vs := g.keep.sqt h
theorem Grow.sqf {K : PySem.W.Frag} {ρ ρ1 : List Addr} {H H1 : Hp} (g : Grow ρ H ρ1 H1) {a : Addr} {vs : List V} (h : SqF K H a vs) : SqF K H1 a vs := g.keep.sqf h
mutual
theorem Rep.keep {K : PySem.W.Frag} {ρ ρ1 : List Addr} {H H1 : Hp} (g : Keep ρ H ρ1 H1) : ∀ {d : D} {v : V}, Rep K ρ H d v → Rep K ρ1 H1 d v
  | _, _, .non => .non
  | _, _, .bl b => .bl b
  | _, _, .int i => .int i
  | _, _, .str x => .str x
  | _, _, .tup h hs hb => .tup (g.sqt h) (Reps.keep g hs) (hb.imp (g.tups _ _) id)
  | _, _, .fls h hs => .fls (g.sqf h) (Reps.keep g hs)
  | _, _, .ob h => .ob (g.ix h)
theorem Reps.keep {K : PySem.W.Frag} {ρ ρ1 : List Addr} {H H1 : Hp} (g : Keep ρ H ρ1 H1) : ∀ {ds : List D} {vs : List V}, Reps K ρ H ds vs → Reps K ρ1 H1 ds vs
  | _, _, .nil => .nil
  | _, _, .cons h hs => .cons (Rep.keep g h) (Reps.keep g hs)
end
theorem KvK.keep {K : PySem.W.Frag} {ρ ρ1 : List Addr} {H H1 : Hp} (g : Keep ρ H ρ1 H1) : ∀ {ds : List (D × D)} {vs : List (Key × V)}, KvK K ρ H ds vs → KvK K ρ1 H1 ds vs
  | _, _, .nil => .nil
  | _, _, .cons e h hs => .cons e (Rep.keep g h) (KvK.keep g hs)
theorem KvT.keep {K : PySem.W.Frag} {ρ ρ1 : List Addr} {H H1 : Hp} (g : Keep ρ H ρ1 H1) : ∀ {ds : List (D × D)} {vs : List (List Key × V)}, KvT K ρ H ds vs → KvT K ρ1 H1 ds vs
  | _, _, .nil => .nil
  | _, _, .cons e h hs => .cons e (Rep.keep g h) (KvT.keep g hs)
theorem FsR.keep {K : PySem.W.Frag} {ρ ρ1 : List Addr} {H H1 : Hp} (g : Keep ρ H ρ1 H1) : ∀ {ds : List (Str × D)} {vs : List (Str × V)}, FsR K ρ H ds vs → FsR K ρ1 H1 ds vs
  | _, _, .nil => .nil
  | _, _, .cons h hs => .cons (Rep.keep g h) (FsR.keep g hs)
theorem FsR.length {K : PySem.W.Frag} {ρ : List Addr} {H : Hp} : ∀ {ds : List (Str × D)} {vs : List (Str × V)}, FsR K ρ H ds vs → ds.length = vs.length
  | _, _, .nil => rfl
  | _, _, .cons _ h => congrArg (· + 1) (FsR.length h)
theorem FsR.look {K : PySem.W.Frag} {ρ : List Addr} {H : Hp} (f : Str) : ∀ {ds : List (Str × D)} {vs : List (Str × V)}, FsR K ρ H ds vs → (ds.lookup f = none ∧ vs.lookup f = none) ∨ ∃ d v, ds.lookup f = some d ∧ vs.lookup f = some v ∧ Rep K ρ H d v
  | _, _, .nil => .inl ⟨rfl, rfl⟩
  | _, _, .cons (f := g) (r := r) (vr := vr) h hs => by
    rw [List.lookup_cons, List.lookup_cons]
    cases e : (f == g) with
    | true => exact .inr ⟨_, _, rfl, rfl, h⟩
    | false => exact FsR.look f hs
theorem FsR.put {K : PySem.W.Frag} {ρ : List Addr} {H : Hp} {d : D} {v : V} (f : Str) (q : Rep K ρ H d v) : ∀ {ds : List (Str × D)} {vs : List (Str × V)}, FsR K ρ H ds vs → FsR K ρ H (putFd f d ds) (putF f v vs)
  | _, _, .nil => .cons q .nil
  | _, _, .cons (f := g) h hs => by
    unfold putFd putF
    split
    · exact .cons q hs
    · exact .cons h (FsR.put f q hs)
theorem Rep.grow {K : PySem.W.Frag} {ρ ρ1 : List Addr} {H H1 : Hp} (g : Grow ρ H ρ1 H1) {d : D} {v : V} (h : Rep K ρ H d v) : Rep K ρ1 H1 d v := h.keep g.keep
theorem Reps.grow {K : PySem.W.Frag} {ρ ρ1 : List Addr} {H H1 : Hp} (g : Grow ρ H ρ1 H1) {ds : List D} {vs : List V} (h : Reps K ρ H ds vs) : Reps K ρ1 H1 ds vs := h.keep g.keep
theorem KvK.grow {K : PySem.W.Frag} {ρ ρ1 : List Addr} {H H1 : Hp} (g : Grow ρ H ρ1 H1) {ds : List (D × D)} {vs : List (Key × V)} (h : KvK K ρ H ds vs) : KvK K ρ1 H1 ds vs := h.keep g.keep
theorem KvT.grow {K : PySem.W.Frag} {ρ ρ1 : List Addr} {H H1 : Hp} (g : Grow ρ H ρ1 H1) {ds : List (D × D)} {vs : List (List Key × V)} (h : KvT K ρ H ds vs) : KvT K ρ1 H1 ds vs := h.keep g.keep
theorem Reps.length {K : PySem.W.Frag} {ρ : List Addr} {H : Hp} : ∀ {ds : List D} {vs : List V}, Reps K ρ H ds vs → ds.length = vs.length
  | _, _, .nil => rfl
  | _, _, .cons _ h => congrArg (· + 1) (Reps.length h)
theorem Reps.append {K : PySem.W.Frag} {ρ : List Addr} {H : Hp} : ∀ {ds es : List D} {vs ws : List V}, Reps K ρ H ds vs → Reps K ρ H es ws → Reps K ρ H (ds ++ es) (vs ++ ws)
  | _, _, _, _, .nil, h => h
  | _, _, _, _, .cons a b, h => .cons a (Reps.append b h)
theorem Reps.get {K : PySem.W.Frag} {ρ : List Addr} {H : Hp} : ∀ {ds : List D} {vs : List V} {i : Nat} {d : D}, Reps K ρ H ds vs → ds[i]? = some d → ∃ v, vs[i]? = some v ∧ Rep K ρ H d v
  | _, _, _, _, .nil, e => by simp at e
  | _, _, 0, _, .cons r _, e => by simp at e; subst e; exact ⟨_, rfl, r⟩
  | _, _, i + 1, d, .cons _ t, e => by
    obtain ⟨u, h1, h2⟩ := Reps.get (i := i) (d := d) t (by simpa using e)
    exact ⟨u, by simpa using h1, h2⟩
theorem Reps.get' {K : PySem.W.Frag} {ρ : List Addr} {H : Hp} : ∀ {ds : List D} {vs : List V} {i : Nat} {v : V}, Reps K ρ H ds vs → vs[i]? = some v → ∃ d, ds[i]? = some d ∧ Rep K ρ H d v
  | _, _, _, _, .nil, e => by simp at e
  | _, _, 0, _, .cons r _, e => by simp at e; subst e; exact ⟨_, rfl, r⟩
  | _, _, i + 1, d, .cons _ t, e => by
    obtain ⟨u, h1, h2⟩ := Reps.get' (i := i) (v := d) t (by simpa using e)
    exact ⟨u, by simpa using h1, h2⟩
theorem Reps.set {K : PySem.W.Frag} {ρ : List Addr} {H : Hp} {d : D} {v : V} (r : Rep K ρ H d v) : ∀ {ds : List D} {vs : List V} (i : Nat), Reps K ρ H ds vs → Reps K ρ H (ds.set i d) (vs.set i v)
  | _, _, _, .nil => .nil
  | _, _, 0, .cons _ t => .cons r t
  | _, _, i + 1, .cons q t => .cons q (Reps.set r i t)
theorem Reps.take {K : PySem.W.Frag} {ρ : List Addr} {H : Hp} : ∀ {ds : List D} {vs : List V} (n : Nat), Reps K ρ H ds vs → Reps K ρ H (ds.take n) (vs.take n)
  | _, _, 0, _ => .nil
  | _, _, _ + 1, .nil => .nil
  | _, _, n + 1, .cons r t => .cons r (Reps.take n t)
theorem Reps.drop {K : PySem.W.Frag} {ρ : List Addr} {H : Hp} : ∀ {ds : List D} {vs : List V} (n : Nat), Reps K ρ H ds vs → Reps K ρ H (ds.drop n) (vs.drop n)
  | _, _, 0, r => r
  | _, _, _ + 1, .nil => .nil
  | _, _, n + 1, .cons _ t => Reps.drop n t
theorem Reps.eraseIdx {K : PySem.W.Frag} {ρ : List Addr} {H : Hp} : ∀ {ds : List D} {vs : List V} (n : Nat), Reps K ρ H ds vs → Reps K ρ H (ds.eraseIdx n) (vs.eraseIdx n)
  | _, _, _, .nil => .nil
  | _, _, 0, .cons _ t => t
  | _, _, n + 1, .cons r t => .cons r (Reps.eraseIdx n t)
/-- an object's description stands while the heap at its own place does -/
theorem ObRep.keep {K : PySem.W.Frag} {ρ ρ1 : List Addr} {H H1 : Hp} {a : Addr} {o : Ob} (g : Keep ρ H ρ1 H1) (ha : ∀ u, H a = some u → H1 a = some u) (h : ObRep K ρ H a o) : ObRep K ρ1 H1 a o := by
  cases o with
  | lst ds => obtain ⟨vs, e, r⟩ := h; exact ⟨vs, ha _ e, r.keep g⟩
  | dct kvs =>
    rcases h with ⟨ks, e, r⟩ | ⟨ks, e, r⟩
    · exact .inl ⟨ks, ha _ e, r.keep g⟩
    · exact .inr ⟨ks, ha _ e, r.keep g⟩
  | ins c fs => obtain ⟨C, dx, vs, cn, e, r⟩ := h; exact ⟨C, dx, vs, cn, ha _ e, r.keep g⟩
theorem ObRep.grow {K : PySem.W.Frag} {ρ ρ1 : List Addr} {H H1 : Hp} {a : Addr} {o : Ob} (g : Grow ρ H ρ1 H1) (ha : ∀ u, H a = some u → H1 a = some u) (h : ObRep K ρ H a o) : ObRep K ρ1 H1 a o := h.keep g.keep ha

section
variable {K : PySem.W.Frag} {ρ : List Addr} {st : Store} {H : Hp}
theorem Sim.addr (S : Sim K ρ st H) {i : Nat} {o : Ob} (h : st[i]? = some o) : ∃ a, ρ[i]? = some a ∧ ObRep K ρ H a o := by
  have hi : i < ρ.length := by rw [S.len]; exact (List.getElem?_eq_some_iff.mp h).1
  exact ⟨ρ[i], by simp [hi], S.ob i o ρ[i] h (by simp [hi])⟩
/-- a heap object outside the store's comes: nothing changes -/
theorem grow_new {p : Addr} {u : HO} (hp : H p = none) : Grow ρ H ρ (upd H p u) :=
  ⟨List.prefix_refl _, fun a h n => absurd h n, fun b o e _ => by rw [upd_ne (ne_of_none e hp)]; exact e, fun b xs e => by rw [upd_ne (ne_of_none e hp)]; exact e, fun b o xs e => by rw [upd_ne (ne_of_none e hp)]; exact e⟩
theorem Sim.new (S : Sim K ρ st H) {p : Addr} {u : HO} (hp : H p = none) : Sim K ρ st (upd H p u) :=
  ⟨S.len, S.nd, fun i o a h1 h2 => (S.ob i o a h1 h2).grow (grow_new hp) fun w e => by rw [upd_ne (ne_of_none e hp)]; exact e⟩
theorem grow_lay {p : Addr} {u : HO} (hp : H p = none) : Grow ρ H (ρ ++ [p]) (upd H p u) := by
  refine ⟨List.prefix_append _ _, fun a h n => ?_, (grow_new (ρ := ρ) hp).frame, (grow_new (ρ := ρ) hp).tups, (grow_new (ρ := ρ) hp).frzs⟩
  rcases List.mem_append.mp h with h | h
  · exact absurd h n
  · rw [List.mem_singleton.mp h]; exact hp
theorem Sim.free (S : Sim K ρ st H) {p : Addr} (hp : H p = none) : p ∉ ρ := by
  intro h
  obtain ⟨i, hi, e⟩ := List.getElem_of_mem h
  have hi' : i < st.length := by rw [← S.len]; exact hi
  have e2 : ρ[i]? = some p := by simp [hi, e]
  have r := S.ob i st[i] p (by simp [hi']) e2
  cases q : st[i] with
  | lst ds => rw [q] at r; obtain ⟨vs, z, _⟩ := r; rw [hp] at z; cases z
  | dct kvs =>
    rw [q] at r
    rcases r with ⟨_, z, _⟩ | ⟨_, z, _⟩ <;> (rw [hp] at z; cases z)
  | ins c fs => rw [q] at r; obtain ⟨_, _, _, _, z, _⟩ := r; rw [hp] at z; cases z
end
end W9

/-! W9b: what runs, by values of the store: the monad, what is wanted of a piece of syntax, operators -/
namespace W9
open PySem L2

structure Exn where
  cls : Str
  val : D
/-- an answer: a value and the store, an exception, or nothing is told -/
inductive R (α : Type) where
  | ok (a : α) (st : Store)
  | ex (x : Exn) (st : Store)
  | no
abbrev M (α : Type) := Store → R α
@[reducible] def M.bind {α β : Type} (m : M α) (f : α → M β) : M β := fun st => match m st with
  | .ok a st1 => f a st1
  | .ex x st1 => .ex x st1
  | .no => .no
abbrev Env := List (Option D)

/-! ### what is wanted of a piece of syntax, at one state -/
def WE (X : Cx) (e : Expr) (σ : L2.St) (H : Hp) (Q : VK) : Prop := ∀ (pins : List (Addr × Obj)) (s : Shared), Inv X pins σ H s → wpAny (model X.prog X.w) X.A (eval e X.env) (EP X pins σ Q) X.xe s
def WT (X : Cx) (e : Expr) (σ : L2.St) (H : Hp) (Q : Bool → Hp → Prop) : Prop := ∀ (pins : List (Addr × Obj)) (s : Shared), Inv X pins σ H s → wpAny (model X.prog X.w) X.A (isTrue e X.env (eval e X.env)) (TP X pins σ Q) X.xe s
def WA (X : Cx) (es : List Expr) (σ : L2.St) (H : Hp) (Q : List V → Hp → Prop) : Prop := ∀ (pos : Pos) (pins : List (Addr × Obj)) (s : Shared), Inv X pins σ H s → wpAny (model X.prog X.w) X.A (spliced (backTo pos (starEach es X.env))) (AP X pins σ Q) X.xe s
def WS (X : Cx) (st : Stmt) (D : Ends) (σ : L2.St) (H : Hp) : Prop := ∀ (pins : List (Addr × Obj)) (s : Shared), Inv X pins σ H s → wpAny (model X.prog X.w) X.A (exec st X.env) (SP X pins D) X.xe s
def WSs (X : Cx) (st : List Stmt) (D : Ends) (σ : L2.St) (H : Hp) : Prop := ∀ (pins : List (Addr × Obj)) (s : Shared), Inv X pins σ H s → wpAny (model X.prog X.w) X.A (execs st X.env) (SP X pins D) X.xe s
section
variable {X : Cx} {e : Expr} {σ : L2.St} {H : Hp}
theorem pe_we : PE X e (WE X e) := ⟨fun pins s σ H Q I h => h pins s I⟩
theorem pt_wt : PT X e (WT X e) := ⟨fun pins s σ H Q I h => h pins s I⟩
theorem pa_wa {es : List Expr} : PA X es (WA X es) := ⟨fun pos pins s σ H Q I h => h pos pins s I⟩
theorem ps_ws {st : Stmt} : PS X st (WS X st) := ⟨fun pins s σ H D I h => h pins s I⟩
theorem pss_ws {st : List Stmt} : PSs X st (WSs X st) := ⟨fun pins s σ H D I h => h pins s I⟩
theorem we_of {t : TE} {Q : VK} (p : PE X e t) (h : t σ H Q) : WE X e σ H Q := fun pins s I => p.run pins s σ H Q I h
theorem wt_of {t : TT} {Q : Bool → Hp → Prop} (p : PT X e t) (h : t σ H Q) : WT X e σ H Q := fun pins s I => p.run pins s σ H Q I h
theorem wa_of {es : List Expr} {t : TA} {Q : List V → Hp → Prop} (p : PA X es t) (h : t σ H Q) : WA X es σ H Q := fun pos pins s I => p.run pos pins s σ H Q I h
theorem ws_of {st : Stmt} {t : TS} {D : Ends} (p : PS X st t) (h : t D σ H) : WS X st D σ H := fun pins s I => p.run pins s σ H D I h
theorem wss_of {st : List Stmt} {t : TS} {D : Ends} (p : PSs X st t) (h : t D σ H) : WSs X st D σ H := fun pins s I => p.run pins s σ H D I h
theorem WE.mono {Q Q' : VK} (h : WE X e σ H Q) (k : ∀ v H', Q v H' → Q' v H') : WE X e σ H Q' := fun pins s I => thn (h pins s I) fun u s' ⟨v, H', I', r, q⟩ => ⟨v, H', I', r, k v H' q⟩
end

/-! ### the frame's names -/
structure EnvR (K : PySem.W.Frag) (ρ : List Addr) (H : Hp) (env : Env) (σ : L2.St) : Prop where
  len : σ.length = env.length
  at' : ∀ (i : Nat) (d : D), env[i]? = some (some d) → ∃ v, σ[i]? = some (some v) ∧ Rep K ρ H d v
theorem EnvR.grow {K : PySem.W.Frag} {ρ ρ1 : List Addr} {H H1 : Hp} {env : Env} {σ : L2.St} (g : Grow ρ H ρ1 H1) (h : EnvR K ρ H env σ) : EnvR K ρ1 H1 env σ :=
  ⟨h.len, fun i d e => let ⟨v, a, b⟩ := h.at' i d e; ⟨v, a, b.grow g⟩⟩
theorem EnvR.set {K : PySem.W.Frag} {ρ : List Addr} {H : Hp} {env : Env} {σ : L2.St} {d : D} {v : V} (h : EnvR K ρ H env σ) (r : Rep K ρ H d v) (i : Nat) : EnvR K ρ H (env.set i (some d)) (σ.set i (some v)) := by
  refine ⟨by simp [h.len], fun j d' e => ?_⟩
  by_cases hj : i = j
  · subst hj
    by_cases hi : i < env.length
    · rw [List.getElem?_set_self hi] at e
      cases e
      exact ⟨v, by rw [List.getElem?_set_self (by rw [h.len]; exact hi)], r⟩
    · rw [List.getElem?_eq_none (by simpa using hi)] at e; cases e
  · rw [List.getElem?_set_ne hj] at e
    rw [List.getElem?_set_ne hj]
    exact h.at' j d' e

/-- the answer stands -/
def Post (K : PySem.W.Frag) (ρ : List Addr) (H : Hp) (st : Store) (d : D) (Q : VK) : Prop := ∀ ρ' H' v, Grow ρ H ρ' H' → Sim K ρ' st H' → Rep K ρ' H' d v → Q v H'
def Posts (K : PySem.W.Frag) (ρ : List Addr) (H : Hp) (st : Store) (ds : List D) (Q : List V → Hp → Prop) : Prop := ∀ ρ' H' vs, Grow ρ H ρ' H' → Sim K ρ' st H' → Reps K ρ' H' ds vs → Q vs H'
def PostB (K : PySem.W.Frag) (ρ : List Addr) (H : Hp) (st : Store) (b : Bool) (Q : Bool → Hp → Prop) : Prop := ∀ ρ' H', Grow ρ H ρ' H' → Sim K ρ' st H' → Q b H'

def SndE (X : Cx) (e : Expr) (m : Env → M D) : Prop := ∀ ρ st env σ H d st', Sim X.K ρ st H → EnvR X.K ρ H env σ → m env st = .ok d st' → ∀ Q, Post X.K ρ H st' d Q → WE X e σ H Q
def SndT (X : Cx) (e : Expr) (m : Env → M Bool) : Prop := ∀ ρ st env σ H b st', Sim X.K ρ st H → EnvR X.K ρ H env σ → m env st = .ok b st' → ∀ Q, PostB X.K ρ H st' b Q → WT X e σ H Q
def SndA (X : Cx) (es : List Expr) (m : Env → M (List D)) : Prop := ∀ ρ st env σ H ds st', Sim X.K ρ st H → EnvR X.K ρ H env σ → m env st = .ok ds st' → ∀ Q, Posts X.K ρ H st' ds Q → WA X es σ H Q

/-- an operation on values -/
def OkOp (X : Cx) (f : Value → Value → Sem Value) (g : D → D → M D) : Prop := ∀ ρ st H x y v w d st', Sim X.K ρ st H → Rep X.K ρ H x v → Rep X.K ρ H y w → g x y st = .ok d st' →
  ∃ r : R2, OpR X f r ∧ ∀ Q, Post X.K ρ H st' d Q → r v w H Q
def OkCall (X : Cx) (f : Value) (g : List D → M D) : Prop := ∀ ρ st H xs vs d st', Sim X.K ρ st H → Reps X.K ρ H xs vs → g xs st = .ok d st' →
  ∃ r : List V → Hp → VK → Prop, CallR X f r ∧ ∀ Q, Post X.K ρ H st' d Q → r vs H Q

theorem Post.self {K : PySem.W.Frag} {ρ : List Addr} {H : Hp} {st : Store} {d : D} {Q : VK} {v : V} (p : Post K ρ H st d Q) (S : Sim K ρ st H) (r : Rep K ρ H d v) : Q v H := p ρ H v (Grow.refl _ _) S r
theorem Post.grow {K : PySem.W.Frag} {ρ ρ1 : List Addr} {H H1 : Hp} {st : Store} {d : D} {Q : VK} (p : Post K ρ H st d Q) (g : Grow ρ H ρ1 H1) : Post K ρ1 H1 st d Q := fun ρ' H' v g' S r => p ρ' H' v (g.trans g') S r
/-- a new tuple -/
theorem Post.tup {K : PySem.W.Frag} {ρ : List Addr} {H : Hp} {st : Store} {ds : List D} {vs : List V} {Q : VK} {p : Addr} (P : Post K ρ H st (.tup ds) Q) (S : Sim K ρ st H) (r : Reps K ρ H ds vs) (hp : H p = none) : Q (.ref p) (upd H p (.tup vs)) :=
  P ρ _ _ (grow_new hp) (S.new hp) (.tup (.inl (.inl upd_same)) (r.grow (grow_new hp)) (.inl upd_same))
/-- a new store object -/
theorem Sim.lay {K : PySem.W.Frag} {ρ : List Addr} {st : Store} {H : Hp} {p : Addr} {u : HO} {o : Ob} (S : Sim K ρ st H) (hp : H p = none) (h : ObRep K (ρ ++ [p]) (upd H p u) p o) : Sim K (ρ ++ [p]) (st ++ [o]) (upd H p u) := by
  have np := S.free hp
  refine ⟨by simp [S.len], ?_, fun i o' a h1 h2 => ?_⟩
  · rw [List.nodup_append]
    exact ⟨S.nd, by simp, fun a ha b hb => by rw [List.mem_singleton.mp hb]; exact fun z => np (z ▸ ha)⟩
  · by_cases hi : i < st.length
    · rw [List.getElem?_append_left hi] at h1
      rw [List.getElem?_append_left (by rw [S.len]; exact hi)] at h2
      exact (S.ob i o' a h1 h2).grow (grow_lay hp) fun w e => by rw [upd_ne (ne_of_none e hp)]; exact e
    · have h3 : i - st.length = 0 ∧ o' = o := by
        rw [List.getElem?_append_right (Nat.le_of_not_lt hi)] at h1
        cases q : i - st.length with
        | zero => rw [q] at h1; simp at h1; exact ⟨rfl, h1.symm⟩
        | succ k => rw [q] at h1; simp at h1
      obtain ⟨h3, rfl⟩ := h3
      rw [List.getElem?_append_right (by rw [S.len]; exact Nat.le_of_not_lt hi), S.len, h3] at h2
      simp at h2
      subst h2
      exact h
theorem Post.lst {K : PySem.W.Frag} {ρ : List Addr} {H : Hp} {st : Store} {ds : List D} {vs : List V} {Q : VK} {p : Addr} (P : Post K ρ H (st ++ [.lst ds]) (.ob st.length) Q) (S : Sim K ρ st H) (r : Reps K ρ H ds vs) (hp : H p = none) : Q (.ref p) (upd H p (.lst vs)) := by
  refine P (ρ ++ [p]) _ _ (grow_lay hp) (S.lay hp ⟨vs, upd_same, r.grow (grow_lay hp)⟩) (.ob ?_)
  rw [List.getElem?_append_right (by rw [S.len]; exact Nat.le_refl _), S.len]
  simp
/-- a store object is written -/
theorem Sim.grow_set {K : PySem.W.Frag} {ρ : List Addr} {st : Store} {H : Hp} {i : Nat} {a : Addr} {u : HO} (S : Sim K ρ st H) (ha : ρ[i]? = some a) (hm : Mut (H a)) : Grow ρ H ρ (upd H a u) := by
  have hmem : a ∈ ρ := List.mem_of_getElem? ha
  refine ⟨List.prefix_refl _, fun b hb n => absurd hb n, fun b o e hb => by rw [upd_ne (fun z => hb (by rw [z]; exact hmem))]; exact e, fun b xs e => ?_, fun b o xs e => ?_⟩
  · rw [upd_ne (fun z => by rw [z] at e; rw [e] at hm; exact hm)]; exact e
  · rw [upd_ne (fun z => by rw [z] at e; rw [e] at hm; exact hm)]; exact e
theorem Sim.set {K : PySem.W.Frag} {ρ : List Addr} {st : Store} {H : Hp} {i : Nat} {a : Addr} {u : HO} {o : Ob} (S : Sim K ρ st H) (ha : ρ[i]? = some a) (hm : Mut (H a)) (h : ObRep K ρ (upd H a u) a o) : Sim K ρ (st.set i o) (upd H a u) := by
  refine ⟨by simp [S.len], S.nd, fun j o' b h1 h2 => ?_⟩
  by_cases hj : i = j
  · subst hj
    have hi : i < st.length := by rw [← S.len]; exact (List.getElem?_eq_some_iff.mp ha).1
    rw [List.getElem?_set_self hi] at h1
    cases h1
    rw [ha] at h2; cases h2
    exact h
  · rw [List.getElem?_set_ne hj] at h1
    refine (S.ob j o' b h1 h2).grow (S.grow_set ha hm) fun w e => ?_
    rw [upd_ne]
    · exact e
    · intro z
      subst z
      exact hj (by
        obtain ⟨q1, e1⟩ := List.getElem?_eq_some_iff.mp ha
        obtain ⟨q2, e2⟩ := List.getElem?_eq_some_iff.mp h2
        exact (List.getElem_inj S.nd).mp (e1.trans e2.symm))

/-! ### data as the library reads it -/
mutual
def pyG (f : Nat → Option PyData) : D → Option PyData
  | .non => some .none
  | .bl b => some (.bool b)
  | .int i => some (.int i)
  | .str x => some (.str x)
  | .tup xs => match pyGs f xs with | some ys => some (.tuple ys) | none => none
  | .fls xs => match pyGs f xs with | some ys => some (.list ys) | none => none
  | .ob i => f i
def pyGs (f : Nat → Option PyData) : List D → Option (List PyData)
  | [] => some []
  | x :: xs => match pyG f x, pyGs f xs with
    | some y, some ys => some (y :: ys)
    | _, _ => none
end
/-- lists by the store, as deep as n -/
def pyO (st : Store) : Nat → Nat → Option PyData
  | 0, _ => none
  | n + 1, i => match st[i]? with
    | some (.lst xs) => match pyGs (pyO st n) xs with | some ys => some (.list ys) | none => none
    | _ => none
def pyD (st : Store) (d : D) : Option PyData := pyG (pyO st 4) d
section
variable {K : PySem.W.Frag} {ρ : List Addr} {st : Store} {H : Hp}
mutual
theorem pyG_dp {f : Nat → Option PyData} (hf : ∀ i a d, ρ[i]? = some a → f i = some d → Dp K H (.ref a) d) : ∀ {d : D} {v : V} {p : PyData}, Rep K ρ H d v → pyG f d = some p → Dp K H v p
  | _, _, _, .non, e => by simp only [pyG] at e; cases e; exact .non
  | _, _, _, .bl b, e => by simp only [pyG] at e; cases e; exact .bl b
  | _, _, _, .int i, e => by simp only [pyG] at e; cases e; exact .int i
  | _, _, _, .str x, e => by simp only [pyG] at e; cases e; exact .str x
  | _, _, _, .tup h hs _, e => by
    simp only [pyG] at e
    split at e
    · rename_i ys q; cases e; exact .tup h (pyGs_dp hf hs q)
    · cases e
  | _, _, _, .fls h hs, e => by
    simp only [pyG] at e
    split at e
    · rename_i ys q; cases e; exact .lst h.sq (pyGs_dp hf hs q)
    · cases e
  | _, _, _, .ob h, e => by
    simp only [pyG] at e
    exact hf _ _ _ h e
theorem pyGs_dp {f : Nat → Option PyData} (hf : ∀ i a d, ρ[i]? = some a → f i = some d → Dp K H (.ref a) d) : ∀ {ds : List D} {vs : List V} {ps : List PyData}, Reps K ρ H ds vs → pyGs f ds = some ps → DpAll K H vs ps
  | _, _, _, .nil, e => by simp only [pyGs] at e; cases e; exact .nil
  | _, _, _, .cons h hs, e => by
    simp only [pyGs] at e
    split at e
    · rename_i y ys q1 q2; cases e; exact .cons (pyG_dp hf h q1) (pyGs_dp hf hs q2)
    · cases e
end
theorem pyO_dp (S : Sim K ρ st H) : ∀ (n i : Nat) (a : Addr) (d : PyData), ρ[i]? = some a → pyO st n i = some d → Dp K H (.ref a) d
  | 0, _, _, _, _, e => by simp only [pyO] at e; cases e
  | n + 1, i, a, d, h, e => by
    simp only [pyO] at e
    split at e
    · rename_i xs q
      split at e
      · rename_i ys q2
        cases e
        obtain ⟨vs, h1, h2⟩ := S.ob i _ a q h
        exact .lst (.inl (.inl h1)) (pyGs_dp (pyO_dp S n) h2 q2)
      · cases e
    · cases e
theorem pyD_dp (S : Sim K ρ st H) {d : D} {v : V} {p : PyData} (r : Rep K ρ H d v) (e : pyD st d = some p) : Dp K H v p := pyG_dp (pyO_dp S 4) r e
end
end W9

/-! W9c: operators and built-ins upon data -/
namespace W9
open PySem L2
abbrev bigN : Nat := 16777216
theorem big_eq : sizeLine = bigN := sizeLine_eq

/-! ### arithmetic -/
def mulOk (i j : Int) : Bool := (decide (-(2 ^ 64) < i) && decide (i < 2 ^ 64)) || (decide (-(2 ^ 64) < j) && decide (j < 2 ^ 64)) || decide (i.natAbs.log2 + j.natAbs.log2 < 1000000)
def addD : D → D → M D
  | .int i, .int j => fun st => .ok (.int (i + j)) st
  | .str a, .str b => fun st => if a.length + b.length ≤ bigN then .ok (.str (a ++ b)) st else .no
  | .tup xs, .tup ys => fun st => if xs.length + ys.length ≤ bigN then .ok (.tup (xs ++ ys)) st else .no
  | .ob i, .ob j => fun st => match st[i]?, st[j]? with
    | some (.lst xs), some (.lst ys) => if xs.length + ys.length ≤ bigN then .ok (.ob st.length) (st ++ [.lst (xs ++ ys)]) else .no
    | _, _ => .no
  | _, _ => fun _ => .no
def subD : D → D → M D
  | .int i, .int j => fun st => .ok (.int (i - j)) st
  | _, _ => fun _ => .no
def mulD : D → D → M D
  | .int i, .int j => fun st => if mulOk i j = true then .ok (.int (i * j)) st else .no
  | .ob i, .int k => fun st => match st[i]? with
    | some (.lst xs) => if -(2 ^ 63) ≤ k ∧ k < 2 ^ 63 ∧ xs.length * k.toNat ≤ bigN then .ok (.ob st.length) (st ++ [.lst (List.replicate k.toNat xs).flatten]) else .no
    | _ => .no
  | .tup xs, .int k => fun st => if k = 1 then .ok (.tup xs) st else if k = 0 ∧ xs ≠ [] then .ok (.tup []) st else .no
  | _, _ => fun _ => .no
def divD : D → D → M D
  | .int i, .int j => fun st => if 0 < j ∧ j.natAbs.log2 < 9000 then .ok (.int (i / j)) st else .no
  | _, _ => fun _ => .no
def modD : D → D → M D
  | .int i, .int j => fun st => if 0 < j then .ok (.int (i % j)) st else .no
  | _, _ => fun _ => .no
def powD : D → D → M D
  | .int i, .int j => fun st => if 0 ≤ j ∧ (Builtin.Int.intBits i : Int) * j ≤ 2 ^ 27 then .ok (.int (i ^ j.toNat)) st else .no
  | _, _ => fun _ => .no

section
variable {X : Cx}
theorem op_powW : OpR X (binaryOp .Pow) (rI (fun i j => 0 ≤ j ∧ (Builtin.Int.intBits i : Int) * j ≤ 2 ^ 27) fun i j => .int (i ^ j.toNat)) := opI fun _ _ _ _ _ _ _ hc q => PyProof.Rows.pow_int hc.1 hc.2 q
theorem ok_add : OkOp X (binaryOp .Add) addD := by
  intro ρ st H x y v w d st' S rx ry e
  cases rx with
  | int i =>
    cases ry with
    | int j => simp only [addD] at e; cases e; exact ⟨_, op_add, fun Q p => ⟨i, j, rfl, rfl, p.self S (.int _)⟩⟩
    | _ => simp only [addD] at e; cases e
  | str a =>
    cases ry with
    | str b =>
      simp only [addD] at e
      split at e
      · cases e; rename_i h; exact ⟨_, op_add_str, fun Q p => ⟨a, b, rfl, rfl, by rw [big_eq]; exact h, p.self S (.str _)⟩⟩
      · cases e
    | _ => simp only [addD] at e; cases e
  | tup hx hxs hxb =>
    cases ry with
    | tup hy hys hyb =>
      simp only [addD] at e
      split at e
      · cases e
        rename_i hl
        refine ⟨_, op_catA, fun Q p => ⟨_, _, _, _, rfl, rfl, hx, hy, by rw [big_eq, ← hxs.length, ← hys.length]; exact hl, fun h0 => ?_, fun h0 h1 => ?_, fun h0 h1 q hq => ?_⟩⟩
        · subst h0
          cases hxs
          exact p.self S (.tup hy hys hyb)
        · subst h1
          cases hys
          rw [List.append_nil] at p
          exact p.self S (.tup hx hxs hxb)
        · exact p.tup S (hxs.append hys) hq
      · cases e
    | _ => simp only [addD] at e; cases e
  | ob hx =>
    cases ry with
    | ob hy =>
      simp only [addD] at e
      split at e
      · rename_i xs ys e1 e2
        split at e
        · rename_i hl
          cases e
          obtain ⟨vs, a1, r1⟩ := S.ob _ _ _ e1 hx
          obtain ⟨ws, a2, r2⟩ := S.ob _ _ _ e2 hy
          exact ⟨_, op_cat, fun Q p => ⟨_, _, vs, ws, rfl, rfl, a1, a2, by rw [big_eq, ← r1.length, ← r2.length]; exact hl, fun q hq => p.lst S (r1.append r2) hq⟩⟩
        · cases e
      · cases e
    | _ => simp only [addD] at e; cases e
  | _ => simp only [addD] at e; cases e
theorem ok_sub : OkOp X (binaryOp .Sub) subD := by
  intro ρ st H x y v w d st' S rx ry e
  cases rx with
  | int i =>
    cases ry with
    | int j => simp only [subD] at e; cases e; exact ⟨_, op_sub, fun Q p => ⟨i, j, rfl, rfl, p.self S (.int _)⟩⟩
    | _ => simp only [subD] at e; cases e
  | _ => simp only [subD] at e; cases e
theorem reps_rep {K : PySem.W.Frag} {ρ : List Addr} {H : Hp} {ds : List D} {vs : List V} (h : Reps K ρ H ds vs) : ∀ k : Nat, Reps K ρ H (List.replicate k ds).flatten (List.replicate k vs).flatten
  | 0 => .nil
  | k + 1 => by simp only [List.replicate_succ, List.flatten_cons]; exact h.append (reps_rep h k)
theorem ok_mul : OkOp X (binaryOp .Mult) mulD := by
  intro ρ st H x y v w d st' S rx ry e
  cases rx with
  | int i =>
    cases ry with
    | int j =>
      simp only [mulD] at e
      split at e
      · cases e
        rename_i h
        unfold mulOk at h
        simp only [Bool.or_eq_true, Bool.and_eq_true, decide_eq_true_eq] at h
        rcases h with (h | h) | h
        · exact ⟨_, op_mul, fun Q p => ⟨i, j, rfl, rfl, .inl h, p.self S (.int _)⟩⟩
        · exact ⟨_, op_mul, fun Q p => ⟨i, j, rfl, rfl, .inr h, p.self S (.int _)⟩⟩
        · exact ⟨_, op_mulW, fun Q p => ⟨i, j, rfl, rfl, h, p.self S (.int _)⟩⟩
      · cases e
    | _ => simp only [mulD] at e; cases e
  | ob hx =>
    cases ry with
    | int k =>
      simp only [mulD] at e
      split at e
      · rename_i xs e1
        split at e
        · rename_i h
          cases e
          obtain ⟨vs, a1, r1⟩ := S.ob _ _ _ e1 hx
          refine ⟨_, op_rep, fun Q p => ⟨_, k, vs, rfl, rfl, a1, h.1, h.2.1, by rw [big_eq, ← r1.length]; exact h.2.2, fun q hq => ?_⟩⟩
          exact p.lst S (reps_rep r1 _) hq
        · cases e
      · cases e
    | _ => simp only [mulD] at e; cases e
  | tup h1 h2 hb =>
    cases ry with
    | int k =>
      simp only [mulD] at e
      split at e
      · rename_i hk
        subst hk
        cases e
        exact ⟨_, op_repT1, fun Q p => ⟨_, _, rfl, rfl, h1, p.self S (.tup h1 h2 hb)⟩⟩
      · split at e
        · rename_i hk
          obtain ⟨rfl, hne⟩ := hk
          cases e
          refine ⟨_, op_repT0, fun Q p => ⟨_, _, rfl, rfl, h1, fun z => hne ?_, fun q hq => p.tup S .nil hq⟩⟩
          have := h2.length
          rw [z] at this
          exact List.eq_nil_of_length_eq_zero this
        · cases e
    | _ => simp only [mulD] at e; cases e
  | _ => simp only [mulD] at e; cases e
theorem ok_div : OkOp X (binaryOp .FloorDiv) divD := by
  intro ρ st H x y v w d st' S rx ry e
  cases rx with
  | int i =>
    cases ry with
    | int j =>
      simp only [divD] at e
      split at e
      · cases e; rename_i h; exact ⟨_, op_fdivW, fun Q p => ⟨i, j, rfl, rfl, h, p.self S (.int _)⟩⟩
      · cases e
    | _ => simp only [divD] at e; cases e
  | _ => simp only [divD] at e; cases e
theorem ok_mod : OkOp X (binaryOp .Mod) modD := by
  intro ρ st H x y v w d st' S rx ry e
  cases rx with
  | int i =>
    cases ry with
    | int j =>
      simp only [modD] at e
      split at e
      · cases e; rename_i h; exact ⟨_, op_mod, fun Q p => ⟨i, j, rfl, rfl, h, p.self S (.int _)⟩⟩
      · cases e
    | _ => simp only [modD] at e; cases e
  | _ => simp only [modD] at e; cases e
theorem ok_pow : OkOp X (binaryOp .Pow) powD := by
  intro ρ st H x y v w d st' S rx ry e
  cases rx with
  | int i =>
    cases ry with
    | int j =>
      simp only [powD] at e
      split at e
      · cases e; rename_i h; exact ⟨_, op_powW, fun Q p => ⟨i, j, rfl, rfl, h, p.self S (.int _)⟩⟩
      · cases e
    | _ => simp only [powD] at e; cases e
  | _ => simp only [powD] at e; cases e

/-! ### comparisons -/
/-- two plain values whose likeness is told by looking at them -/
def scalD : D → D → Bool
  | .non, .non => true | .non, .bl _ => true | .non, .int _ => true | .non, .str _ => true
  | .bl _, .non => true | .bl _, .bl _ => true | .bl _, .str _ => true
  | .int _, .non => true | .int _, .int _ => true | .int _, .str _ => true
  | .str _, .non => true | .str _, .bl _ => true | .str _, .int _ => true | .str _, .str _ => true
  | _, _ => false
theorem scal_rep {K : PySem.W.Frag} {ρ : List Addr} {H : Hp} {x y : D} {v w : V} (rx : Rep K ρ H x v) (ry : Rep K ρ H y w) (h : scalD x y = true) : scal v w = true ∧ decide (v = w) = decide (x = y) := by
  cases rx <;> cases ry <;> first | (cases h; done) | exact ⟨rfl, by rw [Bool.eq_iff_iff]; simp⟩
def eqD (neg : Bool) (x y : D) : M D := fun st => if scalD x y = true then .ok (.bl (if neg then !decide (x = y) else decide (x = y))) st else match pyD st x, pyD st y with
  | some p, some q => if SeqAt.shaped p = true ∧ SeqAt.shaped q = true then .ok (.bl (if neg then !PyData.eqv p q else PyData.eqv p q)) st else .no
  | _, _ => .no
theorem ok_eq (hu : X.A.units + 64 < cLine) : OkOp X (compareOp .Eq) (eqD false) := by
  intro ρ st H x y v w d st' S rx ry e
  simp only [eqD] at e
  split at e
  · rename_i hs
    obtain ⟨h1, h2⟩ := scal_rep rx ry hs
    cases e
    exact ⟨_, op_eq, fun Q k => ⟨h1, by rw [h2]; exact k.self S (.bl _)⟩⟩
  split at e
  · rename_i p q e1 e2
    split at e
    · rename_i h
      cases e
      exact ⟨_, op_eqD hu, fun Q k => ⟨p, q, pyD_dp S rx e1, pyD_dp S ry e2, h.1, h.2, k.self S (.bl _)⟩⟩
    · cases e
  · cases e
theorem ok_ne (hu : X.A.units + 64 < cLine) : OkOp X (compareOp .NotEq) (eqD true) := by
  intro ρ st H x y v w d st' S rx ry e
  simp only [eqD] at e
  split at e
  · rename_i hs
    obtain ⟨h1, h2⟩ := scal_rep rx ry hs
    cases e
    exact ⟨_, op_ne, fun Q k => ⟨h1, by rw [h2]; exact k.self S (.bl _)⟩⟩
  split at e
  · rename_i p q e1 e2
    split at e
    · rename_i h
      cases e
      exact ⟨_, op_neD hu, fun Q k => ⟨p, q, pyD_dp S rx e1, pyD_dp S ry e2, h.1, h.2, k.self S (.bl _)⟩⟩
    · cases e
  · cases e
def ltD : D → D → M D
  | .int i, .int j => fun st => .ok (.bl (decide (i < j))) st
  | .str a, .str b => fun st => .ok (.bl (decide (a.cps.toList < b.cps.toList))) st
  | _, _ => fun _ => .no
def leD : D → D → M D
  | .int i, .int j => fun st => .ok (.bl (decide (i ≤ j))) st
  | _, _ => fun _ => .no
def gtD : D → D → M D
  | .int i, .int j => fun st => .ok (.bl (decide (j < i))) st
  | _, _ => fun _ => .no
def geD : D → D → M D
  | .int i, .int j => fun st => .ok (.bl (decide (j ≤ i))) st
  | _, _ => fun _ => .no
theorem ok_lt : OkOp X (compareOp .Lt) ltD := by
  intro ρ st H x y v w d st' S rx ry e
  cases rx with
  | int i =>
    cases ry with
    | int j => simp only [ltD] at e; cases e; exact ⟨_, op_lt, fun Q p => ⟨i, j, rfl, rfl, p.self S (.bl _)⟩⟩
    | _ => simp only [ltD] at e; cases e
  | str i =>
    cases ry with
    | str j => simp only [ltD] at e; cases e; exact ⟨_, op_lt_str, fun Q p => ⟨i, j, rfl, rfl, p.self S (.bl _)⟩⟩
    | _ => simp only [ltD] at e; cases e
  | _ => simp only [ltD] at e; cases e
theorem ok_le : OkOp X (compareOp .LtE) leD := by
  intro ρ st H x y v w d st' S rx ry e
  cases rx with
  | int i =>
    cases ry with
    | int j => simp only [leD] at e; cases e; exact ⟨_, op_le, fun Q p => ⟨i, j, rfl, rfl, p.self S (.bl _)⟩⟩
    | _ => simp only [leD] at e; cases e
  | _ => simp only [leD] at e; cases e
theorem ok_gt : OkOp X (compareOp .Gt) gtD := by
  intro ρ st H x y v w d st' S rx ry e
  cases rx with
  | int i =>
    cases ry with
    | int j => simp only [gtD] at e; cases e; exact ⟨_, op_gt, fun Q p => ⟨i, j, rfl, rfl, p.self S (.bl _)⟩⟩
    | _ => simp only [gtD] at e; cases e
  | _ => simp only [gtD] at e; cases e
theorem ok_ge : OkOp X (compareOp .GtE) geD := by
  intro ρ st H x y v w d st' S rx ry e
  cases rx with
  | int i =>
    cases ry with
    | int j => simp only [geD] at e; cases e; exact ⟨_, op_ge, fun Q p => ⟨i, j, rfl, rfl, p.self S (.bl _)⟩⟩
    | _ => simp only [geD] at e; cases e
  | _ => simp only [geD] at e; cases e
/-- is, is not: None and the bools -/
def isD (neg : Bool) : D → D → M D := fun x y st => match y with
  | .non => .ok (.bl (match x with | .non => !neg | _ => neg)) st
  | .bl b => match x with
    | .bl a => .ok (.bl (if neg = true then !decide (a = b) else decide (a = b))) st
    | .non => .ok (.bl neg) st
    | _ => .no
  | _ => .no
theorem rep_non {K : PySem.W.Frag} {ρ : List Addr} {H : Hp} {x : D} {v : V} (r : Rep K ρ H x v) : decide (v = .non) = (match x with | .non => true | _ => false) := by
  cases r <;> first | rfl | simp
theorem op_nb : OpR X (compareOp .Is) (fun x y H Q => x = .non ∧ (∃ b, y = .bl b) ∧ Q (.bl false) H) := by
  rintro pins s σ H x y v u Q I rx ry ⟨rfl, ⟨b, rfl⟩, q⟩
  cases (show v = Value.none from rx)
  cases (show u = Value.bool b from ry)
  exact wpAny_is_other rfl (fun z => nomatch z) ⟨.bl false, H, I, rfl, q⟩
theorem op_nbn : OpR X (compareOp .IsNot) (fun x y H Q => x = .non ∧ (∃ b, y = .bl b) ∧ Q (.bl true) H) := by
  rintro pins s σ H x y v u Q I rx ry ⟨rfl, ⟨b, rfl⟩, q⟩
  cases (show v = Value.none from rx)
  cases (show u = Value.bool b from ry)
  exact wpAny_isNot_other rfl (fun z => nomatch z) ⟨.bl true, H, I, rfl, q⟩
theorem ok_is : OkOp X (compareOp .Is) (isD false) := by
  intro ρ st H x y v w d st' S rx ry e
  cases ry with
  | non =>
    simp only [isD] at e
    cases e
    refine ⟨_, op_isN, fun Q p => ⟨rfl, ?_⟩⟩
    rw [rep_non rx]
    have q := p.self S (.bl _)
    cases x <;> exact q
  | bl b =>
    cases rx with
    | non => simp only [isD] at e; cases e; exact ⟨_, op_nb, fun Q p => ⟨rfl, ⟨b, rfl⟩, p.self S (.bl _)⟩⟩
    | bl a => simp only [isD] at e; cases e; exact ⟨_, op_isBl, fun Q p => ⟨a, b, rfl, rfl, p.self S (.bl _)⟩⟩
    | _ => simp only [isD] at e; cases e
  | _ => simp only [isD] at e; cases e
theorem ok_isnot : OkOp X (compareOp .IsNot) (isD true) := by
  intro ρ st H x y v w d st' S rx ry e
  cases ry with
  | non =>
    simp only [isD] at e
    cases e
    refine ⟨_, op_notN, fun Q p => ⟨rfl, ?_⟩⟩
    rw [rep_non rx]
    have q := p.self S (.bl _)
    cases x <;> exact q
  | bl b =>
    cases rx with
    | non => simp only [isD] at e; cases e; exact ⟨_, op_nbn, fun Q p => ⟨rfl, ⟨b, rfl⟩, p.self S (.bl _)⟩⟩
    | bl a => simp only [isD] at e; cases e; exact ⟨_, op_notBl, fun Q p => ⟨a, b, rfl, rfl, p.self S (.bl _)⟩⟩
    | _ => simp only [isD] at e; cases e
  | _ => simp only [isD] at e; cases e

/-! ### in -/
/-- a dict's value by its key -/
def getKv (kvs : List (D × D)) (k : D) : Option D := (kvs.find? fun kv => decide (kv.1 = k)).map (·.2)
def putKv (kvs : List (D × D)) (k d : D) : List (D × D) := if (kvs.any fun kv => decide (kv.1 = k)) then kvs.map fun kv => if kv.1 = k then (kv.1, d) else kv else kvs ++ [(k, d)]
def delKv (kvs : List (D × D)) (k : D) : List (D × D) := kvs.filter fun kv => decide (kv.1 ≠ k)
theorem keyD_inj {a b : D} {k : Key} (ha : keyD a = some k) (hb : keyD b = some k) : a = b := by
  cases a <;> cases b <;> simp only [keyD] at ha hb <;> first | (cases ha; done) | (cases hb; done) | skip
  all_goals (cases ha; cases hb; try rfl)
theorem keysD_inj : ∀ {a b : List D} {k : List Key}, keysD a = some k → keysD b = some k → a = b
  | [], [], _, _, _ => rfl
  | [], y :: ys, k, ha, hb => by
    simp only [keysD] at ha hb
    cases ha
    split at hb <;> cases hb
  | x :: xs, [], k, ha, hb => by
    simp only [keysD] at ha hb
    cases hb
    split at ha <;> cases ha
  | x :: xs, y :: ys, k, ha, hb => by
    simp only [keysD] at ha hb
    split at ha
    · rename_i k1 ks1 e1 e2
      split at hb
      · rename_i k2 ks2 e3 e4
        cases ha
        cases hb
        rw [keyD_inj e1 e3, keysD_inj e2 e4]
      · cases hb
    · cases ha
theorem keyT_inj {a b : D} {k : List Key} (ha : keyT a = some k) (hb : keyT b = some k) : a = b := by
  cases a <;> simp only [keyT] at ha <;> try (cases ha; done)
  cases b <;> simp only [keyT] at hb <;> try (cases hb; done)
  split at ha
  · cases ha
  · split at hb
    · cases hb
    · rw [keysD_inj ha hb]
section kv
variable {K : PySem.W.Frag} {ρ : List Addr} {H : Hp}
theorem KvK.get {k : D} {key : Key} (hk : keyD k = some key) : ∀ {kvs : List (D × D)} {ks : List (Key × V)}, KvK K ρ H kvs ks → (getKv kvs k = none ∧ valV ks key = none) ∨ ∃ d v, getKv kvs k = some d ∧ valV ks key = some v ∧ Rep K ρ H d v
  | _, _, .nil => .inl ⟨rfl, rfl⟩
  | _, _, .cons (k := k1) (d := d1) (r := r) (key := key1) (v := v1) (vr := vr) e h t => by
    by_cases q : k1 = k
    · subst q
      rw [hk] at e; cases e
      exact .inr ⟨d1, v1, by simp [getKv], by rw [valV_pos rfl], h⟩
    · have q2 : ¬ key1 = key := fun z => q (keyD_inj e (by rw [z]; exact hk))
      have e2 : getKv ((k1, d1) :: r) k = getKv r k := by simp [getKv, q]
      rw [e2, valV_neg (p := (key1, v1)) q2]
      exact KvK.get hk t
theorem KvT.get {k : D} {key : List Key} (hk : keyT k = some key) : ∀ {kvs : List (D × D)} {ks : List (List Key × V)}, KvT K ρ H kvs ks → (getKv kvs k = none ∧ valV ks key = none) ∨ ∃ d v, getKv kvs k = some d ∧ valV ks key = some v ∧ Rep K ρ H d v
  | _, _, .nil => .inl ⟨rfl, rfl⟩
  | _, _, .cons (k := k1) (d := d1) (r := r) (key := key1) (v := v1) (vr := vr) e h t => by
    by_cases q : k1 = k
    · subst q
      rw [hk] at e; cases e
      exact .inr ⟨d1, v1, by simp [getKv], by rw [valV_pos rfl], h⟩
    · have q2 : ¬ key1 = key := fun z => q (keyT_inj e (by rw [z]; exact hk))
      have e2 : getKv ((k1, d1) :: r) k = getKv r k := by simp [getKv, q]
      rw [e2, valV_neg (p := (key1, v1)) q2]
      exact KvT.get hk t
theorem KvK.snoc {k d : D} {key : Key} {v : V} (hk : keyD k = some key) (r : Rep K ρ H d v) : ∀ {kvs : List (D × D)} {ks : List (Key × V)}, KvK K ρ H kvs ks → KvK K ρ H (kvs ++ [(k, d)]) (ks ++ [(key, v)])
  | _, _, .nil => .cons hk r .nil
  | _, _, .cons a b t => .cons a b (KvK.snoc hk r t)
theorem KvT.snoc {k d : D} {key : List Key} {v : V} (hk : keyT k = some key) (r : Rep K ρ H d v) : ∀ {kvs : List (D × D)} {ks : List (List Key × V)}, KvT K ρ H kvs ks → KvT K ρ H (kvs ++ [(k, d)]) (ks ++ [(key, v)])
  | _, _, .nil => .cons hk r .nil
  | _, _, .cons a b t => .cons a b (KvT.snoc hk r t)
theorem KvK.any {k : D} {key : Key} (hk : keyD k = some key) : ∀ {kvs : List (D × D)} {ks : List (Key × V)}, KvK K ρ H kvs ks → (kvs.any fun kv => decide (kv.1 = k)) = (ks.any fun kv => decide (kv.1 = key))
  | _, _, .nil => rfl
  | _, _, .cons (k := k1) (key := key1) e h t => by
    have q : decide (k1 = k) = decide (key1 = key) := by
      by_cases z : k1 = k
      · subst z; rw [hk] at e; cases e; simp
      · have q2 : ¬ key1 = key := fun y => z (keyD_inj e (by rw [y]; exact hk))
        simp [z, q2]
    simp only [List.any_cons, q, KvK.any hk t]
theorem KvT.any {k : D} {key : List Key} (hk : keyT k = some key) : ∀ {kvs : List (D × D)} {ks : List (List Key × V)}, KvT K ρ H kvs ks → (kvs.any fun kv => decide (kv.1 = k)) = (ks.any fun kv => decide (kv.1 = key))
  | _, _, .nil => rfl
  | _, _, .cons (k := k1) (key := key1) e h t => by
    have q : decide (k1 = k) = decide (key1 = key) := by
      by_cases z : k1 = k
      · subst z; rw [hk] at e; cases e; simp
      · have q2 : ¬ key1 = key := fun y => z (keyT_inj e (by rw [y]; exact hk))
        simp [z, q2]
    simp only [List.any_cons, q, KvT.any hk t]
theorem KvK.repl {k d : D} {key : Key} {v : V} (hk : keyD k = some key) (r : Rep K ρ H d v) : ∀ {kvs : List (D × D)} {ks : List (Key × V)}, KvK K ρ H kvs ks → KvK K ρ H (kvs.map fun kv => if kv.1 = k then (kv.1, d) else kv) (ks.map fun kv => if kv.1 = key then (kv.1, v) else kv)
  | _, _, .nil => .nil
  | _, _, .cons (k := k1) (key := key1) e h t => by
    have ih := KvK.repl hk r t
    simp only [List.map_cons]
    by_cases z : k1 = k
    · subst z
      rw [hk] at e; cases e
      rw [if_pos rfl, if_pos rfl]
      exact .cons hk r ih
    · have q2 : ¬ key1 = key := fun y => z (keyD_inj e (by rw [y]; exact hk))
      rw [if_neg z, if_neg q2]
      exact .cons e h ih
theorem KvT.repl {k d : D} {key : List Key} {v : V} (hk : keyT k = some key) (r : Rep K ρ H d v) : ∀ {kvs : List (D × D)} {ks : List (List Key × V)}, KvT K ρ H kvs ks → KvT K ρ H (kvs.map fun kv => if kv.1 = k then (kv.1, d) else kv) (ks.map fun kv => if kv.1 = key then (kv.1, v) else kv)
  | _, _, .nil => .nil
  | _, _, .cons (k := k1) (key := key1) e h t => by
    have ih := KvT.repl hk r t
    simp only [List.map_cons]
    by_cases z : k1 = k
    · subst z
      rw [hk] at e; cases e
      rw [if_pos rfl, if_pos rfl]
      exact .cons hk r ih
    · have q2 : ¬ key1 = key := fun y => z (keyT_inj e (by rw [y]; exact hk))
      rw [if_neg z, if_neg q2]
      exact .cons e h ih
theorem KvK.put {k d : D} {key : Key} {v : V} (hk : keyD k = some key) (r : Rep K ρ H d v) {kvs : List (D × D)} {ks : List (Key × V)} (t : KvK K ρ H kvs ks) : KvK K ρ H (putKv kvs k d) (putK ks key v) := by
  unfold putKv putK
  rw [t.any hk]
  split
  · rename_i h; first | (rw [if_pos h]; exact t.repl hk r) | exact t.repl hk r
  · rename_i h; first | (rw [if_neg h]; exact t.snoc hk r) | exact t.snoc hk r
theorem KvT.put {k d : D} {key : List Key} {v : V} (hk : keyT k = some key) (r : Rep K ρ H d v) {kvs : List (D × D)} {ks : List (List Key × V)} (t : KvT K ρ H kvs ks) : KvT K ρ H (putKv kvs k d) (putK ks key v) := by
  unfold putKv putK
  rw [t.any hk]
  split
  · rename_i h; first | (rw [if_pos h]; exact t.repl hk r) | exact t.repl hk r
  · rename_i h; first | (rw [if_neg h]; exact t.snoc hk r) | exact t.snoc hk r
theorem KvK.del {k : D} {key : Key} (hk : keyD k = some key) : ∀ {kvs : List (D × D)} {ks : List (Key × V)}, KvK K ρ H kvs ks → KvK K ρ H (delKv kvs k) (dropK ks key)
  | _, _, .nil => .nil
  | _, _, .cons (k := k1) (key := key1) e h t => by
    have ih := KvK.del hk t
    unfold delKv dropK at ih ⊢
    by_cases z : k1 = k
    · subst z
      rw [hk] at e; cases e
      simpa using ih
    · have q2 : ¬ key1 = key := fun y => z (keyD_inj e (by rw [y]; exact hk))
      rw [List.filter_cons, List.filter_cons, if_pos (by simpa using z), if_pos (by simpa using q2)]
      exact .cons e h ih
theorem KvK.length : ∀ {kvs : List (D × D)} {ks : List (Key × V)}, KvK K ρ H kvs ks → kvs.length = ks.length
  | _, _, .nil => rfl
  | _, _, .cons _ _ t => congrArg (· + 1) (KvK.length t)
theorem KvT.length : ∀ {kvs : List (D × D)} {ks : List (List Key × V)}, KvT K ρ H kvs ks → kvs.length = ks.length
  | _, _, .nil => rfl
  | _, _, .cons _ _ t => congrArg (· + 1) (KvT.length t)
theorem rep_key {k : D} {key : Key} {v : V} (hk : keyD k = some key) (r : Rep K ρ H k v) : v = kV key := by
  cases r <;> simp only [keyD] at hk <;> first | (cases hk; rfl) | (cases hk)
theorem reps_keys : ∀ {ds : List D} {ks : List Key} {vs : List V}, keysD ds = some ks → Reps K ρ H ds vs → vs = ks.map kV
  | _, _, _, hk, .nil => by simp only [keysD] at hk; cases hk; rfl
  | _, _, _, hk, .cons r t => by
    simp only [keysD] at hk
    split at hk
    · rename_i e1 e2
      cases hk
      rw [rep_key e1 r, reps_keys e2 t]; rfl
    · cases hk
end kv
end
end W9

/-! W9d: dicts, membership, subscripts, slices, methods of lists and dicts -/
namespace W9
open PySem L2

/-! ### an empty dict is of either kind -/
section
variable {X : Cx} {pins : List (Addr × Obj)} {σ : L2.St} {H : Hp} {s : Shared} {a : Addr}
theorem inv_toT (I : Inv X pins σ H s) (h : H a = some (.dK [])) : Inv X pins σ (upd H a (.dT [])) s := by
  obtain ⟨z, hd, vs, rel, o, es, ep, e1, e2, e3, e4, e5, e6⟩ := I.hok a _ h
  cases rel
  have e7 : es.toList = [] := by
    cases q : es.toList with
    | nil => rfl
    | cons x r => rw [q] at e5; cases e5
  exact I.write (x := a) (e := a) (t' := s.toks) (by rw [h]; exact True.intro) (.inl rfl) (fun b u _ q => q) ⟨o, e1⟩ ⟨Nat.zero_le _, hd, [], .nil, o, es, ep, e1, e2, e3, e7, List.nodup_nil⟩
theorem dictOf_nil {P : Program} {w : World} {h : Heap} {o : Obj} {es : Array DictEntry} {ep : Nat} (e1 : h.get? a = some o) (e2 : o.ExactDict) (e3 : o.data = .dict es ep) (e7 : es.toList = []) : h.DictOf (mixKind P w) a [] := by
  have e8 : es = #[] := by
    have := congrArg List.toArray e7
    simpa using this
  subst e8
  have n := Heap.DictOf.new (knd := mixKind P w) h
  obtain ⟨o', es', ep', f1, f2, f3, f4, f5, f6⟩ := n
  rw [Heap.get?_push_size _ rfl] at f1
  cases f1
  cases f3
  exact ⟨o, #[], ep, e1, e2, e3, f4, f5, f6⟩
theorem inv_toK (I : Inv X pins σ H s) (h : H a = some (.dT [])) : Inv X pins σ (upd H a (.dK [])) s := by
  obtain ⟨z, hd, xs, rel, o, es, ep, e1, e2, e3, e4, e5⟩ := I.hok a _ h
  cases rel
  exact I.write (x := a) (e := a) (t' := s.toks) (by rw [h]; exact True.intro) (.inl rfl) (fun b u _ q => q) ⟨o, e1⟩ ⟨Nat.zero_le _, hd, [], .nil, dictOf_nil e1 e2 e3 e4⟩
theorem upd_back {H : Hp} {o u : HO} (h : H a = some o) : upd (upd H a u) a o = H := by
  rw [upd_upd]
  funext b
  by_cases hb : b = a
  · subst hb; rw [upd_same, h]
  · rw [upd_ne hb]
end

/-- the key is of the dict's kind -/
def kindOk (kvs : List (D × D)) (k : D) : Bool := match kvs with
  | [] => (keyD k).isSome || (keyT k).isSome
  | (k1, _) :: _ => ((keyD k1).isSome && (keyD k).isSome) || ((keyT k1).isSome && (keyT k).isSome)
section
variable {X : Cx} {pins : List (Addr × Obj)} {σ : L2.St} {H : Hp} {s : Shared} {a : Addr} {ρ : List Addr} {kvs : List (D × D)} {k d : D} {y v : V}
theorem keyT_tracked {K : PySem.W.Frag} {ks : List Key} (hk : keyT k = some ks) (r : Rep K ρ H k y) : ∃ b, y = .ref b ∧ H b = some (.tup (ks.map kV)) := by
  cases r with
  | tup h hs hb =>
    simp only [keyT] at hk
    split at hk
    · cases hk
    · rename_i nb
      refine ⟨_, rfl, ?_⟩
      rcases hb with hb | hb
      · rw [hb, reps_keys hk hs]
      · exact absurd hb nb
  | _ => simp only [keyT] at hk; cases hk
theorem keyT_of_keyD {x : D} (h : (keyD x).isSome = true) (h2 : (keyT x).isSome = true) : False := by
  cases x <;> simp [keyD, keyT] at h h2
theorem dg_at (I : Inv X pins σ H s) (o : ObRep X.K ρ H a (.dct kvs)) (r : Rep X.K ρ H k y) (hk : kindOk kvs k = true) :
    ∃ H2 ov, Inv X pins σ H2 s ∧ DGet H2 a y ov ∧ (∀ s', Inv X pins σ H2 s' → Inv X pins σ H s') ∧ ((getKv kvs k = none ∧ ov = none) ∨ ∃ d v, getKv kvs k = some d ∧ ov = some v ∧ Rep X.K ρ H d v) := by
  have sameK : ∀ ks key, H a = some (.dK ks) → KvK X.K ρ H kvs ks → keyD k = some key → ∃ H2 ov, Inv X pins σ H2 s ∧ DGet H2 a y ov ∧ (∀ s', Inv X pins σ H2 s' → Inv X pins σ H s') ∧ ((getKv kvs k = none ∧ ov = none) ∨ ∃ d v, getKv kvs k = some d ∧ ov = some v ∧ Rep X.K ρ H d v) := by
    intro ks key e kv hk1
    refine ⟨H, valV ks key, I, by rw [rep_key hk1 r]; exact DGet.k e, fun _ z => z, ?_⟩
    rcases kv.get hk1 with ⟨h1, h2⟩ | ⟨d, v, h1, h2, h3⟩
    · exact .inl ⟨h1, h2⟩
    · exact .inr ⟨d, v, h1, h2, h3⟩
  have sameT : ∀ ks key, H a = some (.dT ks) → KvT X.K ρ H kvs ks → keyT k = some key → ∃ H2 ov, Inv X pins σ H2 s ∧ DGet H2 a y ov ∧ (∀ s', Inv X pins σ H2 s' → Inv X pins σ H s') ∧ ((getKv kvs k = none ∧ ov = none) ∨ ∃ d v, getKv kvs k = some d ∧ ov = some v ∧ Rep X.K ρ H d v) := by
    intro ks key e kv hk1
    obtain ⟨b, rfl, hb⟩ := keyT_tracked hk1 r
    refine ⟨H, valV ks key, I, DGet.t e hb, fun _ z => z, ?_⟩
    rcases kv.get hk1 with ⟨h1, h2⟩ | ⟨d, v, h1, h2, h3⟩
    · exact .inl ⟨h1, h2⟩
    · exact .inr ⟨d, v, h1, h2, h3⟩
  rcases o with ⟨ks, e, kv⟩ | ⟨ks, e, kv⟩
  · cases q : keyD k with
    | some key => exact sameK ks key e kv q
    | none =>
      have hT : ∃ key, keyT k = some key ∧ kvs = [] := by
        cases kvs with
        | nil =>
          simp only [kindOk, q, Option.isSome_none, Bool.false_or] at hk
          obtain ⟨key, hk⟩ := Option.isSome_iff_exists.mp hk
          exact ⟨key, hk, rfl⟩
        | cons p t =>
          obtain ⟨k1, d1⟩ := p
          simp only [kindOk, q, Option.isSome_none, Bool.and_false, Bool.false_or, Bool.and_eq_true] at hk
          cases kv with
          | cons h1 _ _ => exact (keyT_of_keyD (by rw [h1]; rfl) hk.1).elim
      obtain ⟨key, hk1, rfl⟩ := hT
      cases kv
      obtain ⟨b, rfl, hb⟩ := keyT_tracked hk1 r
      refine ⟨upd H a (.dT []), none, inv_toT I e, ?_, fun s' J => ?_, .inl ⟨rfl, rfl⟩⟩
      · exact .inr ⟨[], key, b, .inl upd_same, rfl, by rw [upd_ne (ne_of hb e (fun z => nomatch z))]; exact hb, rfl⟩
      · have := inv_toK J upd_same
        rwa [upd_back e] at this
  · cases q : keyT k with
    | some key => exact sameT ks key e kv q
    | none =>
      have hT : ∃ key, keyD k = some key ∧ kvs = [] := by
        cases kvs with
        | nil =>
          simp only [kindOk, q, Option.isSome_none, Bool.or_false] at hk
          obtain ⟨key, hk⟩ := Option.isSome_iff_exists.mp hk
          exact ⟨key, hk, rfl⟩
        | cons p t =>
          obtain ⟨k1, d1⟩ := p
          simp only [kindOk, q, Option.isSome_none, Bool.and_false, Bool.or_false, Bool.and_eq_true] at hk
          cases kv with
          | cons h1 _ _ => exact (keyT_of_keyD hk.1 (by rw [h1]; rfl)).elim
      obtain ⟨key, hk1, rfl⟩ := hT
      cases kv
      refine ⟨upd H a (.dK []), none, inv_toK I e, ?_, fun s' J => ?_, .inl ⟨rfl, rfl⟩⟩
      · rw [rep_key hk1 r]; exact .inl ⟨[], key, .inl upd_same, rfl, rfl⟩
      · have := inv_toT J upd_same
        rwa [upd_back e] at this
/-- a look and a put: the new heap, what it means -/
theorem dp_at {st : Store} {i : Nat} (I : Inv X pins σ H s) (S : Sim X.K ρ st H) (hi : ρ[i]? = some a) (o : ObRep X.K ρ H a (.dct kvs)) (r : Rep X.K ρ H k y) (hk : kindOk kvs k = true) (hl : kvs.length < bigN) (rv : Rep X.K ρ H d v) :
    ∃ H2 ov u, Inv X pins σ H2 s ∧ DGet H2 a y ov ∧ (∀ s', Inv X pins σ H2 s' → Inv X pins σ H s') ∧ ((getKv kvs k = none ∧ ov = none) ∨ ∃ d v, getKv kvs k = some d ∧ ov = some v ∧ Rep X.K ρ H d v) ∧
      DPut H2 a y v (upd H a u) ∧ Mut (H a) ∧ ObRep X.K ρ (upd H a u) a (.dct (putKv kvs k d)) := by
  have mutK : ∀ ks, H a = some (.dK ks) → Mut (H a) := fun ks e => by rw [e]; exact True.intro
  have mutT : ∀ ks, H a = some (.dT ks) → Mut (H a) := fun ks e => by rw [e]; exact True.intro
  have gr : ∀ u, Mut (H a) → Grow ρ H ρ (upd H a u) := fun u m => S.grow_set hi m
  rcases o with ⟨ks, e, kv⟩ | ⟨ks, e, kv⟩
  · cases q : keyD k with
    | some key =>
      refine ⟨H, valV ks key, _, I, by rw [rep_key q r]; exact DGet.k e, fun _ z => z, ?_, by rw [rep_key q r]; exact DPut.k e (by rw [big_eq, ← kv.length]; exact hl), mutK ks e, .inl ⟨_, upd_same, ?_⟩⟩
      · rcases kv.get q with ⟨h1, h2⟩ | ⟨d, v, h1, h2, h3⟩
        · exact .inl ⟨h1, h2⟩
        · exact .inr ⟨d, v, h1, h2, h3⟩
      · exact (kv.put q rv).grow (gr _ (mutK ks e))
    | none =>
      have hT : ∃ key, keyT k = some key ∧ kvs = [] := by
        cases kvs with
        | nil =>
          simp only [kindOk, q, Option.isSome_none, Bool.false_or] at hk
          obtain ⟨key, hk⟩ := Option.isSome_iff_exists.mp hk
          exact ⟨key, hk, rfl⟩
        | cons p t =>
          obtain ⟨k1, d1⟩ := p
          simp only [kindOk, q, Option.isSome_none, Bool.and_false, Bool.false_or, Bool.and_eq_true] at hk
          cases kv with
          | cons h1 _ _ => exact (keyT_of_keyD (by rw [h1]; rfl) hk.1).elim
      obtain ⟨key, hk1, rfl⟩ := hT
      cases kv
      obtain ⟨b, rfl, hb⟩ := keyT_tracked hk1 r
      have hb' : (upd H a (.dT [])) b = some (.tup (key.map kV)) := by rw [upd_ne (ne_of hb e (fun z => nomatch z))]; exact hb
      refine ⟨upd H a (.dT []), none, .dT (putK [] key v), inv_toT I e, .inr ⟨[], key, b, .inl upd_same, rfl, hb', rfl⟩, fun s' J => ?_, .inl ⟨rfl, rfl⟩, ?_, mutK _ e, .inr ⟨_, upd_same, ?_⟩⟩
      · have := inv_toK J upd_same
        rwa [upd_back e] at this
      · have := DPut.t (v := v) (upd_same (H := H) (a := a) (o := .dT [])) hb' (by decide)
        rwa [upd_upd] at this
      · exact (KvT.put hk1 rv (.nil (K := X.K) (ρ := ρ) (H := H))).grow (gr _ (mutK _ e))
  · cases q : keyT k with
    | some key =>
      obtain ⟨b, rfl, hb⟩ := keyT_tracked q r
      refine ⟨H, valV ks key, _, I, DGet.t e hb, fun _ z => z, ?_, DPut.t e hb (by rw [big_eq, ← kv.length]; exact hl), mutT ks e, .inr ⟨_, upd_same, ?_⟩⟩
      · rcases kv.get q with ⟨h1, h2⟩ | ⟨d, v, h1, h2, h3⟩
        · exact .inl ⟨h1, h2⟩
        · exact .inr ⟨d, v, h1, h2, h3⟩
      · exact (kv.put q rv).grow (gr _ (mutT ks e))
    | none =>
      have hT : ∃ key, keyD k = some key ∧ kvs = [] := by
        cases kvs with
        | nil =>
          simp only [kindOk, q, Option.isSome_none, Bool.or_false] at hk
          obtain ⟨key, hk⟩ := Option.isSome_iff_exists.mp hk
          exact ⟨key, hk, rfl⟩
        | cons p t =>
          obtain ⟨k1, d1⟩ := p
          simp only [kindOk, q, Option.isSome_none, Bool.and_false, Bool.or_false, Bool.and_eq_true] at hk
          cases kv with
          | cons h1 _ _ => exact (keyT_of_keyD hk.1 (by rw [h1]; rfl)).elim
      obtain ⟨key, hk1, rfl⟩ := hT
      cases kv
      refine ⟨upd H a (.dK []), none, .dK (putK [] key v), inv_toK I e, by rw [rep_key hk1 r]; exact .inl ⟨[], key, .inl upd_same, rfl, rfl⟩, fun s' J => ?_, .inl ⟨rfl, rfl⟩, ?_, mutT _ e, .inl ⟨_, upd_same, ?_⟩⟩
      · have := inv_toT J upd_same
        rwa [upd_back e] at this
      · have := DPut.k (k := key) (v := v) (upd_same (H := H) (a := a) (o := .dK [])) (by decide)
        rw [upd_upd] at this
        rw [rep_key hk1 r]
        exact this
      · exact (KvK.put hk1 rv (.nil (K := X.K) (ρ := ρ) (H := H))).grow (gr _ (mutT _ e))
end
end W9

/-! W9e: enumerate of a text and of a tuple -/
namespace W9
open PySem L2
open Sem (wp)
theorem meets_enum1 {v : Value} {o : Obj} {H : Heap → Prop} (B : Begins v o H) :
    Meets (Builtin.«enumerate.__new__» ⟨[.type "enumerate", v], []⟩) (fun _ R s => H s.heap ∧
      R (.ok (.ret (.ref (s.heap.push o).objs.size))) { s with heap := (s.heap.push o).push { cls := .type "enumerate", data := .fields #[.none, .bool false, .ref s.heap.objs.size, rawInt 0, .none, .none] } }) :=
  .of_wp fun prog w A R s h => by
    obtain ⟨hp, g, d, tk, os⟩ := s; obtain ⟨h1, h⟩ := h
    have hsub := sub_enumerate
    have q1 : ∀ {A' : Around} {E : Value → Shared → Prop} {Q : Value → Shared → Prop}, Q (.ref hp.objs.size) ⟨hp.push o, g, d, tk, os⟩ → wpAny (model prog w) A' (pyIter v) Q E ⟨hp, g, d, tk, os⟩ :=
      fun q => B.iter prog w _ _ ⟨hp, g, d, tk, os⟩ _ h1 q
    wp_walk using q1
    refine wpAny_stack_any fun st => wpAny_pure ?_
    split
    · rename_i c _ _ _ _ _
      cases (c == Value.type "enumerate")
      · wp_walk using q1
        exact ⟨_, rfl, h⟩
      · wp_walk using q1
        exact ⟨_, rfl, h⟩
    · wp_walk using q1
      exact ⟨_, rfl, h⟩
section
variable {prog : Program} {w : World} {A : Around} {E : Value → Shared → Prop} {s : Shared}
theorem enum1_begins {v : Value} {o : Obj} {H : Heap → Prop} {Q : Value → Shared → Prop} (B : Begins v o H) (h1 : H s.heap)
    (h : ∀ h', IsEnum h' (s.heap.objs.size + 1) s.heap.objs.size 0 .none → h'.get? s.heap.objs.size = some o → h'.objs.size = s.heap.objs.size + 2 →
      (∀ b o, s.heap.get? b = some o → h'.get? b = some o) → Q (.ref (s.heap.objs.size + 1)) { s with heap := h' }) :
    wpAny (model prog w) A (call (.type "enumerate") [v]) Q E s := by
  refine callType_new F.called_enumerate (by decide) (F.typeCall_enumerate_1 _) (F.newCall_enumerate_1 _) (fun obj => F.args_object_init_2 obj _) F.entry_enumerate_new
    (meets_enum1 B) ⟨h1, ?_⟩
  have hz : (s.heap.push o).objs.size = s.heap.objs.size + 1 := Heap.size_push ..
  show _ ∧ _
  rw [hz]
  have he : IsEnum ((s.heap.push o).push { cls := .type "enumerate", data := .fields #[.none, .bool false, .ref s.heap.objs.size, rawInt 0, .none, .none] }) (s.heap.objs.size + 1) s.heap.objs.size 0 .none := by
    have := Heap.get?_push_size (s.heap.push o) (o := { cls := .type "enumerate", data := .fields #[.none, .bool false, .ref s.heap.objs.size, rawInt 0, .none, .none] }) rfl
    rw [hz] at this; exact this
  exact ⟨⟨_, he, rfl⟩, h _ he (Heap.get?_push_of_some _ (Heap.get?_push_size _ B.free)) (by rw [Heap.size_push, hz]) fun b o x => Heap.get?_push_of_some _ (Heap.get?_push_of_some _ x)⟩
end
/-- n pairs (i, x), x told by P (a place, a value) -/
def Itx (n : Nat) (Y : Nat → V → Prop) : It :=
  ⟨fun i _ => i < n, fun i H v H' => ∃ T x, v = .ref T ∧ H T = none ∧ H' = upd H T (.tup [.int (i : Nat), x]) ∧ Y i x, fun i _ => n ≤ i⟩
theorem draws_text {prog : Program} {w : World} {A : Around} (hh : A.handled = none) (it : Addr) (x : Str) (t : Tok) :
    Draws prog w A it [it] x.cps.size (fun i v => ∃ c u, x.cps[i]? = some c ∧ v = .str ⟨#[c]⟩ u) (fun i h => h.IsStrIter it (strIterType x) x t i) := Draws.text hh it x t
/-- an enumerate whose source has its own cells alone: a text -/
theorem turn_enumS {P : Program} {w : World} {K : PySem.W.Frag} {elts : List Expr} {kk : Nat} {tpos : Pos} (x : Str) (t : Tok) (e it : Addr) (hne : e ≠ it) :
    Turn P w K (.Tuple elts kk tpos) (Itx x.cps.size fun i v => ∃ c, x.cps[i]? = some c ∧ v = .str ⟨#[c]⟩) [e, it] e (fun i h => i ≤ x.cps.size ∧ (∃ old, IsEnum h e it ((0 : Int) + (i : Int)) old) ∧ h.IsStrIter it (strIterType x) x t i) where
  mem := by simp
  obj := fun i h st b hb => by
    obtain ⟨_, ⟨old, he⟩, ⟨o, ho, hc, hd⟩⟩ := st
    have e' : b = e ∨ b = it := by simpa using hb
    rcases e' with z | z
    · rw [z]; exact ⟨_, he, fun v q => nomatch q⟩
    · rw [z]; exact ⟨o, ho, fun v q => by rw [hd] at q; cases q⟩
  keep := fun i h h' st k => let ⟨hi, ⟨old, he⟩, ⟨o, ho, r⟩⟩ := st; ⟨hi, ⟨old, k e (by simp) _ he⟩, ⟨o, k it (by simp) o ho, r⟩⟩
  item := by
    intro X hP hw hK hc i pins s σ H E I hf st hg
    subst hP hw hK
    obtain ⟨_, st1, st2⟩ := st
    have W := WalksT.enumFrom (prog := X.prog) (w := X.w) (A := X.A) 0 (draws_text (A := X.A.in1) (show X.A.in1.handled = none from I.ok.hd hc) it x t) e hne (by simp [hne]) (by simp)
    refine W.item i s _ _ hg ⟨st1, st2⟩ fun T vals h' tk hP hT hTup mid hk => ?_
    refine ⟨_, rfl, W.go elts kk tpos i T { s with heap := h', toks := tk } _ _ mid fun h'' st'' hk2 => ?_⟩
    obtain ⟨tt, y, ⟨c, u, hc1, hy⟩, hv⟩ := hP
    subst hy hv
    have hTw : T ∉ [e, it] := W.apart i T h' mid
    have hTup2 : h''.IsTuple T #[.int ((0 : Int) + (i : Int)) tt, .str ⟨#[c]⟩ u] := by
      obtain ⟨oo, h1, h2⟩ := hTup
      exact ⟨oo, hk2 T oo hTw h1, h2⟩
    have e0 : (0 : Int) + (i : Int) = ((i : Nat) : Int) := Int.zero_add _
    have new : ObjOk X.prog X.w (upd H T (.tup [.int (i : Nat), .str ⟨#[c]⟩])) h'' T (.tup [.int (i : Nat), .str ⟨#[c]⟩]) :=
      ⟨by show 2 ≤ sizeLine; decide, [.int ((0 : Int) + (i : Int)) tt, .str ⟨#[c]⟩ u], .cons ⟨_, by rw [e0]⟩ (.cons ⟨_, rfl⟩ .nil), hTup2⟩
    have I1 : Inv X pins σ (upd H T (.tup [.int (i : Nat), .str ⟨#[c]⟩])) { s with heap := h'', toks := tk } :=
      I.turnedNew (ch := [e, it]) (fun b ob hb q => hk2 b ob hb (hk b ob hb q)) hf hT new
    refine ⟨.ref T, _, I1, rfl, ⟨T, _, rfl, I.hok.fresh hT, rfl, c, hc1, rfl⟩, ⟨hg, st''.1, st''.2⟩, fun b hb => ?_⟩
    have hb' : b ≠ T := fun z => hTw (z ▸ hb)
    rw [upd_ne hb']
    exact (hf b hb).1
  done := by
    intro X hP hw hK hc i pins s σ H E I hf st hg
    subst hP hw hK
    obtain ⟨hi, st1, st2⟩ := st
    have hin : i = x.cps.size := Nat.le_antisymm hi hg
    subst hin
    have W := WalksT.enumFrom (prog := X.prog) (w := X.w) (A := X.A) 0 (draws_text (A := X.A.in1) (show X.A.in1.handled = none from I.ok.hd hc) it x t) e hne (by simp [hne]) (by simp)
    exact W.done s _ _ ⟨st1, st2⟩ fun h' tk hk => ⟨rfl, I.turnedL (ch := [e, it]) (fun b o hb q => hk b o hb q) hf⟩
  self := fun A i s Q E st h => let ⟨_, ⟨_, he⟩, _⟩ := st; wpAny_pyIter_enum he h
def iEnumS (ta : TA) : TI := fun σ H R => ta σ H fun vs H1 => ∃ x : Str, vs = [.str x] ∧ R (Itx x.cps.size fun i v => ∃ c, x.cps[i]? = some c ∧ v = .str ⟨#[c]⟩) H1
theorem pi_enumS {X : Cx} {e : Expr} {ta : TA} {p pos tpos : Pos} {elts : List Expr} {kk : Nat} (hg : Gl X "enumerate") (hm : X.mg "enumerate" = none) (ha : PA X [e] ta) (hs : starEach [e] X.env = [(false, eval e X.env)] := by rfl) :
    PI X (.Tuple elts kk tpos) (.Call (.Name "enumerate" p) [e] [] pos) (iEnumS ta) := by
  refine ⟨fun pins s σ H R I h => ?_⟩
  refine PyProof.Rows.Call_ (ld_blt I hg hm PyProof.Rows.boot_enumerate (PyProof.Rows.callWith_type1 (thn (ha.run pos pins s σ H _ I h) fun us s1 ⟨vs, H1, I1, r1, q1⟩ => ?_) hs rfl))
  obtain ⟨x, ex, q⟩ := q1
  subst ex
  cases r1 with
  | cons r rr =>
    cases rr
    obtain ⟨t, rfl⟩ := r
    refine enum1_begins (begins_text x t) trivial fun h' he ho hsz hk => wpAny_pyIter_enum he ?_
    have I2 : Inv X pins σ H1 { s1 with heap := h' } := I1.kept (t' := s1.toks) hk
    refine ⟨s1.heap.objs.size + 1, [s1.heap.objs.size + 1, s1.heap.objs.size], _, _, H1, rfl, I2, turn_enumS x t (s1.heap.objs.size + 1) s1.heap.objs.size (Nat.succ_ne_self _), ⟨Nat.zero_le _, ⟨.none, by simpa using he⟩, ⟨_, ho, rfl, rfl⟩⟩, fun b hb => ?_, q⟩
    have e' : b = s1.heap.objs.size + 1 ∨ b = s1.heap.objs.size := by simpa using hb
    have hle : s1.heap.objs.size ≤ b := by
      rcases e' with z | z
      · rw [z]; exact Nat.le_add_right _ _
      · rw [z]; exact Nat.le_refl _
    exact I1.fpOk hle (I1.hok.fresh hle)
end W9

/-! W9f: membership, subscripts, slices, methods, built-ins by values -/
namespace W9
open PySem L2
section
variable {X : Cx}

/-! ### in -/
def rInT (K : PySem.W.Frag) (neg : Bool) : R2 := fun x y H Q => ∃ d ds, Dp K H x d ∧ Dp K H y (.tuple ds) ∧ SeqAt.shaped d = true ∧ SeqAt.shaped (.tuple ds) = true ∧ Q (.bl (if neg then !ds.any fun z => PyData.eqv z d else ds.any fun z => PyData.eqv z d)) H
theorem room_in' {A : Around} {d : PyData} {n : Nat} (h : SeqAt.shaped d = true) (hu : A.units + 65 < cLine) : A.units + 1 + min n d.depth < cLine := by
  have h2 : (d.canLay0 && decide (d.depth ≤ 64)) = true := h
  rw [Bool.and_eq_true] at h2
  have := of_decide_eq_true h2.2
  have := Nat.min_le_right n d.depth
  omega
theorem op_inT (hu : X.A.units + 65 < cLine) : OpR X (compareOp .In) (rInT X.K false) := by
  intro pins s σ H x y v u Q I rx ry h
  obtain ⟨d, ds, hd, he, sd, se, q⟩ := h
  obtain ⟨as, r1⟩ := Dp.reads I d x v hd rx
  obtain ⟨bs, r2⟩ := Dp.reads I (.tuple ds) y u he ry
  exact SeqAt.in_tuple_reads r2 r1 (SeqAt.canLay_of_shaped se) (SeqAt.canLay_of_shaped sd) (room_in' sd hu) ⟨.bl _, H, I, rfl, q⟩
theorem op_notInT (hu : X.A.units + 65 < cLine) : OpR X (compareOp .NotIn) (rInT X.K true) := by
  intro pins s σ H x y v u Q I rx ry h
  obtain ⟨d, ds, hd, he, sd, se, q⟩ := h
  obtain ⟨as, r1⟩ := Dp.reads I d x v hd rx
  obtain ⟨bs, r2⟩ := Dp.reads I (.tuple ds) y u he ry
  exact SeqAt.notIn_tuple_reads r2 r1 (SeqAt.canLay_of_shaped se) (SeqAt.canLay_of_shaped sd) (room_in' sd hu) ⟨.bl _, H, I, rfl, q⟩
/-- in a dict -/
def rInDct (K : PySem.W.Frag) (neg : Bool) : R2 := fun x y H Q => ∃ ρ kvs k a, y = .ref a ∧ ObRep K ρ H a (.dct kvs) ∧ Rep K ρ H k x ∧ kindOk kvs k = true ∧ Q (.bl (if neg then !(getKv kvs k).isSome else (getKv kvs k).isSome)) H
theorem op_inDct (hu : X.A.units + 65 < cLine) : OpR X (compareOp .In) (rInDct X.K false) := by
  intro pins s σ H x y v u Q I rx ry h
  obtain ⟨ρ, kvs, k, a, rfl, ho, rk, hk, q⟩ := h
  cases ry
  obtain ⟨H2, ov, I2, g, back, res⟩ := dg_at I ho rk hk
  refine d_in (by omega) I2 g rx fun s' J => ?_
  have e : ov.isSome = (getKv kvs k).isSome := by
    rcases res with ⟨e1, e2⟩ | ⟨d, z, e1, e2, _⟩ <;> rw [e1, e2] <;> rfl
  exact ⟨.bl ov.isSome, H, back _ J, rfl, by rw [e]; exact q⟩
theorem op_notInDct (hu : X.A.units + 65 < cLine) : OpR X (compareOp .NotIn) (rInDct X.K true) := by
  intro pins s σ H x y v u Q I rx ry h
  obtain ⟨ρ, kvs, k, a, rfl, ho, rk, hk, q⟩ := h
  cases ry
  obtain ⟨H2, ov, I2, g, back, res⟩ := dg_at I ho rk hk
  refine d_notIn (by omega) I2 g rx fun s' J => ?_
  have e : ov.isSome = (getKv kvs k).isSome := by
    rcases res with ⟨e1, e2⟩ | ⟨d, z, e1, e2, _⟩ <;> rw [e1, e2] <;> rfl
  exact ⟨.bl (!ov.isSome), H, back _ J, rfl, by rw [e]; exact q⟩
def ifn (neg b : Bool) : Bool := if neg then !b else b
def inSeq (neg : Bool) (x y : D) : M D := fun st => match pyD st x, pyD st y with
  | some p, some (.list qs) => if SeqAt.shaped p = true ∧ SeqAt.shaped (.list qs) = true then .ok (.bl (ifn neg (qs.any fun z => PyData.eqv z p))) st else .no
  | some p, some (.tuple qs) => if SeqAt.shaped p = true ∧ SeqAt.shaped (.tuple qs) = true then .ok (.bl (ifn neg (qs.any fun z => PyData.eqv z p))) st else .no
  | _, _ => .no
def inD (neg : Bool) (x y : D) : M D := fun st => match y with
  | .str b => match x with
    | .str a => match a.cps.toList with
      | [c] => .ok (.bl (ifn neg (decide (c ∈ b.cps.toList)))) st
      | _ => .no
    | _ => .no
  | .ob i => match st[i]? with
    | some (.dct kvs) => if kindOk kvs x = true then .ok (.bl (ifn neg (getKv kvs x).isSome)) st else .no
    | _ => inSeq neg x y st
  | _ => inSeq neg x y st
theorem ok_inSeq (hu : X.A.units + 65 < cLine) (neg : Bool) {ρ : List Addr} {st st' : Store} {H : Hp} {x y d : D} {v w : V} (S : Sim X.K ρ st H) (rx : Rep X.K ρ H x v) (ry : Rep X.K ρ H y w) (e : inSeq neg x y st = .ok d st') :
    ∃ r : R2, OpR X (compareOp (if neg then .NotIn else .In)) r ∧ ∀ Q, Post X.K ρ H st' d Q → r v w H Q := by
  unfold inSeq at e
  split at e
  · rename_i p qs e1 e2
    split at e
    · rename_i h
      cases e
      cases neg with
      | false => exact ⟨_, op_inD hu, fun Q k => ⟨p, qs, pyD_dp S rx e1, pyD_dp S ry e2, h.1, h.2, k.self S (.bl _)⟩⟩
      | true => exact ⟨_, op_notInD hu, fun Q k => ⟨p, qs, pyD_dp S rx e1, pyD_dp S ry e2, h.1, h.2, k.self S (.bl _)⟩⟩
    · cases e
  · rename_i p qs e1 e2
    split at e
    · rename_i h
      cases e
      cases neg with
      | false => exact ⟨_, op_inT hu, fun Q k => ⟨p, qs, pyD_dp S rx e1, pyD_dp S ry e2, h.1, h.2, k.self S (.bl _)⟩⟩
      | true => exact ⟨_, op_notInT hu, fun Q k => ⟨p, qs, pyD_dp S rx e1, pyD_dp S ry e2, h.1, h.2, k.self S (.bl _)⟩⟩
    · cases e
  · cases e
theorem ok_inB (hu : X.A.units + 65 < cLine) (neg : Bool) : OkOp X (compareOp (if neg then .NotIn else .In)) (inD neg) := by
  intro ρ st H x y v w d st' S rx ry e
  cases ry with
  | str b =>
    simp only [inD] at e
    split at e
    · rename_i a
      cases rx
      split at e
      · rename_i c hc
        cases e
        have ea : a = ⟨#[c]⟩ := by
          obtain ⟨cps⟩ := a
          congr 1
          have := congrArg List.toArray hc
          simpa using this
        subst ea
        cases neg with
        | false => exact ⟨_, op_in_sign, fun Q k => ⟨c, b, rfl, rfl, k.self S (.bl _)⟩⟩
        | true => exact ⟨_, op_notIn_sign, fun Q k => ⟨c, b, rfl, rfl, k.self S (.bl _)⟩⟩
      · cases e
    · cases e
  | ob hy =>
    simp only [inD] at e
    split at e
    · rename_i kvs h1
      split at e
      · rename_i hk
        cases e
        have ho := S.ob _ _ _ h1 hy
        cases neg with
        | false => exact ⟨_, op_inDct hu, fun Q k => ⟨ρ, kvs, x, _, rfl, ho, rx, hk, k.self S (.bl _)⟩⟩
        | true => exact ⟨_, op_notInDct hu, fun Q k => ⟨ρ, kvs, x, _, rfl, ho, rx, hk, k.self S (.bl _)⟩⟩
      · cases e
    · exact ok_inSeq hu neg S rx (.ob hy) e
  | non => exact ok_inSeq hu neg S rx .non e
  | bl b => exact ok_inSeq hu neg S rx (.bl b) e
  | int i => exact ok_inSeq hu neg S rx (.int i) e
  | tup a b c => exact ok_inSeq hu neg S rx (.tup a b c) e
  | fls a b => exact ok_inSeq hu neg S rx (.fls a b) e
theorem ok_in (hu : X.A.units + 65 < cLine) : OkOp X (compareOp .In) (inD false) := ok_inB hu false
theorem ok_notin (hu : X.A.units + 65 < cLine) : OkOp X (compareOp .NotIn) (inD true) := ok_inB hu true

/-! ### subscripts -/
def ixD (o i : D) : M D := fun st => match o, i with
  | .tup xs, .int k => match atI xs k with | some d => .ok d st | none => .no
  | .fls xs, .int k => match atI xs k with | some d => .ok d st | none => .no
  | .str z, .int k => if z.length ≤ bigN then match atI z.cps.toList k with | some c => .ok (.str ⟨#[c]⟩) st | none => .no else .no
  | .ob j, k => match st[j]? with
    | some (.lst xs) => match k with
      | .int k => match atI xs k with | some d => .ok d st | none => .no
      | _ => .no
    | some (.dct kvs) => if kindOk kvs k = true then match getKv kvs k with | some d => .ok d st | none => .no else .no
    | _ => .no
  | _, _ => .no
/-- whether the thing is a dict -/
def isDct (st : Store) : D → Bool
  | .ob j => match st[j]? with | some (.dct _) => true | _ => false
  | _ => false
theorem reps_atI {K : PySem.W.Frag} {ρ : List Addr} {H : Hp} {ds : List D} {vs : List V} {k : Int} {d : D} (r : Reps K ρ H ds vs) (e : atI ds k = some d) : ∃ v, atI vs k = some v ∧ Rep K ρ H d v := by
  unfold atI at e ⊢
  rw [← r.length]
  cases q : ixN ds.length k with
  | none => rw [q] at e; cases e
  | some j =>
    rw [q] at e
    exact r.get e
theorem ok_ix {ρ : List Addr} {st st' : Store} {H : Hp} {x y d : D} {v w : V} (S : Sim X.K ρ st H) (rx : Rep X.K ρ H x v) (ry : Rep X.K ρ H y w) (hn : isDct st x = false) (e : ixD x y st = .ok d st') :
    ∃ r : R2, IxR X r ∧ ∀ Q, Post X.K ρ H st' d Q → r v w H Q := by
  cases rx with
  | tup hx hs _ =>
    cases ry with
    | int k =>
      simp only [ixD] at e
      split at e
      · rename_i d' h1
        cases e
        obtain ⟨z, h2, rz⟩ := reps_atI hs h1
        exact ⟨_, ix_tup, fun Q p => ⟨_, _, k, z, rfl, rfl, hx, h2, p.self S rz⟩⟩
      · cases e
    | _ => simp only [ixD] at e; cases e
  | fls hx hs =>
    cases ry with
    | int k =>
      simp only [ixD] at e
      split at e
      · rename_i d' h1
        cases e
        obtain ⟨z, h2, rz⟩ := reps_atI hs h1
        exact ⟨_, ix_list, fun Q p => ⟨_, _, k, z, rfl, rfl, hx.sq, h2, p.self S rz⟩⟩
      · cases e
    | _ => simp only [ixD] at e; cases e
  | str z =>
    cases ry with
    | int k =>
      simp only [ixD] at e
      split at e
      · rename_i hl
        split at e
        · rename_i c h1
          cases e
          exact ⟨_, ix_str, fun Q p => ⟨z, k, c, rfl, rfl, by rw [big_eq]; exact hl, h1, p.self S (.str _)⟩⟩
        · cases e
      · cases e
    | _ => simp only [ixD] at e; cases e
  | ob hx =>
    simp only [ixD] at e
    split at e
    · rename_i xs h1
      obtain ⟨vs, h2, hs⟩ := S.ob _ _ _ h1 hx
      split at e
      · rename_i k
        cases ry
        split at e
        · rename_i d' h3
          cases e
          obtain ⟨z, h4, rz⟩ := reps_atI hs h3
          exact ⟨_, ix_list, fun Q p => ⟨_, vs, k, z, rfl, rfl, SqL.of h2, h4, p.self S rz⟩⟩
        · cases e
      · cases e
    · rename_i kvs h1
      simp only [isDct, h1] at hn
      cases hn
    · cases e
  | _ => cases ry <;> (simp only [ixD] at e; cases e)
/-- d[k] of a dict, the key there -/
def tDGetD (K : PySem.W.Frag) (td ty : TE) : TE := fun σ H Q => td σ H fun x H1 => ty σ H1 fun y H2 => ∃ ρ kvs k a d v, x = .ref a ∧ ObRep K ρ H2 a (.dct kvs) ∧ Rep K ρ H2 k y ∧ kindOk kvs k = true ∧ getKv kvs k = some d ∧ (∀ v, Rep K ρ H2 d v → Q v H2) ∧ v = V.non
theorem pe_dgetD {o i : Expr} {pos : Pos} {td ty : TE} (hu : X.A.units + 1 < cLine) (ho : PE X o td) (hi : PE X i ty) (hs : NoSl i) : PE X (.Subscript o i pos) (tDGetD X.K td ty) := by
  refine ⟨fun pins s σ H Q I h => ?_⟩
  refine subD_of PySem.F.slot_dict_getitem.lookup hs (thn (ho.run pins s σ H _ I h) fun u s1 ⟨x, H1, I1, rx, q1⟩ => thn (hi.run pins s1 σ H1 _ I1 q1) fun iv s2 ⟨y, H2, I2, ry, ρ, kvs, k, a, d, _, ex, ob, rk, hk, hg, q2, _⟩ => ?_)
  subst ex
  obtain rfl : u = Value.ref a := rx
  obtain ⟨H3, ov, I3, g, back, res⟩ := dg_at I2 ob rk hk
  rcases res with ⟨e1, _⟩ | ⟨d', z, e1, e2, rz⟩
  · rw [hg] at e1; cases e1
  · rw [hg] at e1; cases e1
    subst e2
    exact ⟨dict_typeIs I3 g, d_getItem hu I3 g ry fun w' s3 J rw' => ⟨z, H2, back _ J, rw', q2 z rz⟩⟩

/-! ### slices -/
def cutL {α : Type} (xs : List α) (lo hi : Option Int) : List α := (xs.drop (HT.sIx xs.length 0 lo)).take (HT.sIx xs.length xs.length hi - HT.sIx xs.length 0 lo)
def slD (x : D) (lo hi : Option Int) : M D := fun st => match x with
  | .tup xs => .ok (.tup (cutL xs lo hi)) st
  | .fls xs => .ok (.ob st.length) (st ++ [.lst (cutL xs lo hi)])
  | .ob j => match st[j]? with
    | some (.lst xs) => .ok (.ob st.length) (st ++ [.lst (cutL xs lo hi)])
    | _ => .no
  | .str z => if z.length ≤ bigN then .ok (.str (cutS z lo hi)) st else .no
  | _ => .no
theorem reps_cut {K : PySem.W.Frag} {ρ : List Addr} {H : Hp} {ds : List D} {vs : List V} (r : Reps K ρ H ds vs) (lo hi : Option Int) : Reps K ρ H (cutL ds lo hi) (cutV vs lo hi) := by
  unfold cutL cutV
  rw [r.length]
  exact (r.drop _).take _
theorem cut_whole {α : Type} (xs : List α) (lo hi : Option Int) (h : HT.sIx xs.length 0 lo = 0 ∧ HT.sIx xs.length xs.length hi = xs.length) : cutL xs lo hi = xs := by
  unfold cutL
  rw [h.1, h.2]
  simp
theorem ok_sl {ρ : List Addr} {st st' : Store} {H : Hp} {x d : D} {v : V} {lo hi : Option Int} (S : Sim X.K ρ st H) (rx : Rep X.K ρ H x v) (e : slD x lo hi st = .ok d st') :
    ∃ r : V → Option Int → Option Int → Hp → VK → Prop, SlR X r ∧ ∀ Q, Post X.K ρ H st' d Q → r v lo hi H Q := by
  cases rx with
  | tup hx hs hb =>
    simp only [slD] at e
    cases e
    refine ⟨_, sl_tupA, fun Q p => ⟨_, _, rfl, hx, fun hw => ?_, fun hw q hq => p.tup S (reps_cut hs lo hi) hq⟩⟩
    rw [cut_whole _ _ _ (by rw [hs.length]; exact hw)] at p
    exact p.self S (.tup hx hs hb)
  | fls hx hs =>
    simp only [slD] at e
    cases e
    exact ⟨_, sl_list, fun Q p => ⟨_, _, rfl, hx.sq, fun q hq => p.lst S (reps_cut hs lo hi) hq⟩⟩
  | str z =>
    simp only [slD] at e
    split at e
    · rename_i hl
      cases e
      exact ⟨_, sl_str, fun Q p => ⟨z, rfl, by rw [big_eq]; exact hl, p.self S (.str _)⟩⟩
    · cases e
  | ob hx =>
    simp only [slD] at e
    split at e
    · rename_i xs h1
      cases e
      obtain ⟨vs, h2, hs⟩ := S.ob _ _ _ h1 hx
      exact ⟨_, sl_list, fun Q p => ⟨_, vs, rfl, SqL.of h2, fun q hq => p.lst S (reps_cut hs lo hi) hq⟩⟩
    · cases e
  | _ => simp only [slD] at e; cases e
end
end W9

/-! W9g: built-in functions, methods -/
namespace W9
open PySem L2

inductive Bi where
  | len | abs | int | ord | sum | min | max | all | any | tuple | list | sorted | repr | str
  deriving DecidableEq
def Bi.name : Bi → Str
  | .len => "len" | .abs => "abs" | .int => "int" | .ord => "ord" | .sum => "sum" | .min => "min" | .max => "max" | .all => "all" | .any => "any" | .tuple => "tuple" | .list => "list" | .sorted => "sorted" | .repr => "repr" | .str => "str"

def intsOf : List D → Option (List Int)
  | [] => some []
  | .int i :: r => match intsOf r with | some is => some (i :: is) | none => none
  | _ => none
def blsOf : List D → Option (List Bool)
  | [] => some []
  | .bl i :: r => match blsOf r with | some is => some (i :: is) | none => none
  | _ => none
/-- the least, the greatest of a list -/
def minI : Int → List Int → Int
  | m, [] => m
  | m, x :: r => minI (if x < m then x else m) r
def maxI : Int → List Int → Int
  | m, [] => m
  | m, x :: r => maxI (if m < x then x else m) r
def insI (x : Int) : List Int → List Int
  | [] => [x]
  | y :: r => if x ≤ y then x :: y :: r else y :: insI x r
def sortI : List Int → List Int
  | [] => []
  | x :: r => insI x (sortI r)
/-- a list's items, wherever it stands -/
def itemsL (st : Store) : D → Option (List D)
  | .fls xs => some xs
  | .ob i => match st[i]? with | some (.lst xs) => some xs | _ => none
  | _ => none
def biD : Bi → List D → M D
  | .len, [.tup xs] => fun st => .ok (.int xs.length) st
  | .len, [.str z] => fun st => if z.length ≤ bigN then .ok (.int z.length) st else .no
  | .len, [x] => fun st => match itemsL st x with | some xs => .ok (.int xs.length) st | none => .no
  | .abs, [.int i] => fun st => .ok (.int (if i < 0 then -i else i)) st
  | .int, [.int i] => fun st => .ok (.int i) st
  | .int, [.bl b] => fun st => .ok (.int (if b then 1 else 0)) st
  | .ord, [.str z] => fun st => if z.length = 1 then .ok (.int (z.cps.getD 0 0 : Nat)) st else .no
  | .sum, [x] => fun st => match itemsL st x with
    | some xs => match intsOf xs with | some is => .ok (.int is.sum) st | none => .no
    | none => .no
  | .min, [.int i, .int j] => fun st => .ok (.int (if j < i then j else i)) st
  | .max, [.int i, .int j] => fun st => .ok (.int (if j > i then j else i)) st
  | .min, [x] => fun st => match itemsL st x with
    | some xs => match intsOf xs with | some (i :: is) => .ok (.int (minI i is)) st | _ => .no
    | none => .no
  | .max, [x] => fun st => match itemsL st x with
    | some xs => match intsOf xs with | some (i :: is) => .ok (.int (maxI i is)) st | _ => .no
    | none => .no
  | .all, [x] => fun st => match itemsL st x with
    | some xs => match blsOf xs with | some is => .ok (.bl (is.all id)) st | none => .no
    | none => .no
  | .any, [x] => fun st => match itemsL st x with
    | some xs => match blsOf xs with | some is => .ok (.bl (is.any id)) st | none => .no
    | none => .no
  | .tuple, [.tup xs] => fun st => .ok (.tup xs) st
  | .tuple, [x] => fun st => match itemsL st x with | some xs => .ok (.tup xs) st | none => .no
  | .list, [.tup xs] => fun st => .ok (.ob st.length) (st ++ [.lst xs])
  | .list, [x] => fun st => match itemsL st x with | some xs => .ok (.ob st.length) (st ++ [.lst xs]) | none => .no
  | .sorted, [x] => fun st => match itemsL st x with
    | some xs => match intsOf xs with | some is => .ok (.ob st.length) (st ++ [.lst ((sortI is).map .int)]) | none => .no
    | none => .no
  | .repr, [x] => fun st => match pyD st x with
    | some p => if p.canLay0 = true ∧ p.showable = true ∧ p.depth ≤ 60 ∧ p.shown.length ≤ bigN then .ok (.str p.shown) st else .no
    | none => .no
  | .str, [.int i] => fun st => if i.natAbs.log2 < 1920 then .ok (.str (toString i)) st else .no
  | .str, [.str z] => fun st => .ok (.str z) st
  | _, _ => fun _ => .no

section
variable {K : PySem.W.Frag} {ρ : List Addr} {st : Store} {H : Hp}
theorem itemsL_rep (S : Sim K ρ st H) {x : D} {v : V} {xs : List D} (r : Rep K ρ H x v) (e : itemsL st x = some xs) : ∃ a vs, v = .ref a ∧ SqL K H a vs ∧ Reps K ρ H xs vs := by
  cases r with
  | fls h hs => simp only [itemsL] at e; cases e; exact ⟨_, _, rfl, h.sq, hs⟩
  | ob h =>
    simp only [itemsL] at e
    split at e
    · rename_i ys h1
      cases e
      obtain ⟨vs, h2, h3⟩ := S.ob _ _ _ h1 h
      exact ⟨_, vs, rfl, SqL.of h2, h3⟩
    · cases e
  | _ => simp only [itemsL] at e; cases e
theorem intsOf_reps : ∀ {xs : List D} {is : List Int} {vs : List V}, intsOf xs = some is → Reps K ρ H xs vs → vs = is.map V.int
  | _, _, _, e, .nil => by simp only [intsOf] at e; cases e; rfl
  | _, _, _, e, .cons r t => by
    cases r with
    | int i =>
      simp only [intsOf] at e
      split at e
      · rename_i is' e1
        cases e
        rw [intsOf_reps e1 t]; rfl
      · cases e
    | _ => simp only [intsOf] at e; cases e
theorem blsOf_reps : ∀ {xs : List D} {is : List Bool} {vs : List V}, blsOf xs = some is → Reps K ρ H xs vs → vs = is.map V.bl
  | _, _, _, e, .nil => by simp only [blsOf] at e; cases e; rfl
  | _, _, _, e, .cons r t => by
    cases r with
    | bl i =>
      simp only [blsOf] at e
      split at e
      · rename_i is' e1
        cases e
        rw [blsOf_reps e1 t]; rfl
      · cases e
    | _ => simp only [blsOf] at e; cases e
theorem reps_ints (is : List Int) : Reps K ρ H (is.map .int) (is.map V.int) := by
  induction is with
  | nil => exact .nil
  | cons i r ih => exact .cons (.int i) ih
end
theorem minI_le : ∀ (l : List Int) (m : Int), minI m l ≤ m ∧ (∀ y ∈ l, minI m l ≤ y) ∧ (minI m l = m ∨ minI m l ∈ l)
  | [], m => ⟨Int.le_refl _, fun y h => absurd h (by simp), .inl rfl⟩
  | x :: r, m => by
    simp only [minI]
    by_cases hc : x < m
    · rw [if_pos hc]
      obtain ⟨h1, h2, h3⟩ := minI_le r x
      refine ⟨by omega, fun y hy => ?_, .inr ?_⟩
      · rcases List.mem_cons.mp hy with rfl | hy
        · exact h1
        · exact h2 y hy
      · rcases h3 with h3 | h3
        · rw [h3]; exact List.mem_cons_self
        · exact List.mem_cons_of_mem _ h3
    · rw [if_neg hc]
      obtain ⟨h1, h2, h3⟩ := minI_le r m
      refine ⟨h1, fun y hy => ?_, h3.imp id (List.mem_cons_of_mem _)⟩
      rcases List.mem_cons.mp hy with rfl | hy
      · omega
      · exact h2 y hy
theorem maxI_le : ∀ (l : List Int) (m : Int), m ≤ maxI m l ∧ (∀ y ∈ l, y ≤ maxI m l) ∧ (maxI m l = m ∨ maxI m l ∈ l)
  | [], m => ⟨Int.le_refl _, fun y h => absurd h (by simp), .inl rfl⟩
  | x :: r, m => by
    simp only [maxI]
    by_cases hc : m < x
    · rw [if_pos hc]
      obtain ⟨h1, h2, h3⟩ := maxI_le r x
      refine ⟨by omega, fun y hy => ?_, .inr ?_⟩
      · rcases List.mem_cons.mp hy with rfl | hy
        · exact h1
        · exact h2 y hy
      · rcases h3 with h3 | h3
        · rw [h3]; exact List.mem_cons_self
        · exact List.mem_cons_of_mem _ h3
    · rw [if_neg hc]
      obtain ⟨h1, h2, h3⟩ := maxI_le r m
      refine ⟨h1, fun y hy => ?_, h3.imp id (List.mem_cons_of_mem _)⟩
      rcases List.mem_cons.mp hy with rfl | hy
      · omega
      · exact h2 y hy
theorem insI_perm (x : Int) : ∀ l : List Int, (insI x l).Perm (x :: l)
  | [] => List.Perm.refl _
  | y :: r => by
    simp only [insI]
    split
    · exact List.Perm.refl _
    · exact ((insI_perm x r).cons y).trans (List.Perm.swap x y r)
theorem sortI_perm : ∀ l : List Int, (sortI l).Perm l
  | [] => List.Perm.refl _
  | x :: r => (insI_perm x _).trans ((sortI_perm r).cons x)
theorem insI_sorted (x : Int) : ∀ {l : List Int}, l.Pairwise (· ≤ ·) → (insI x l).Pairwise (· ≤ ·)
  | [], _ => by simp [insI]
  | y :: r, h => by
    have hh := List.pairwise_cons.mp h
    simp only [insI]
    split
    · rename_i hxy
      refine List.pairwise_cons.mpr ⟨fun z hz => ?_, h⟩
      rcases List.mem_cons.mp hz with rfl | hz
      · exact hxy
      · exact Int.le_trans hxy (hh.1 z hz)
    · rename_i hxy
      refine List.pairwise_cons.mpr ⟨fun z hz => ?_, insI_sorted x hh.2⟩
      rcases List.mem_cons.mp ((insI_perm x r).mem_iff.mp hz) with rfl | hz
      · omega
      · exact hh.1 z hz
theorem sortI_sorted : ∀ l : List Int, (sortI l).Pairwise (· ≤ ·)
  | [] => List.Pairwise.nil
  | x :: r => insI_sorted x (sortI_sorted r)
theorem sorted_unique {a b : List Int} (p : a.Perm b) (ha : a.Pairwise (· ≤ ·)) (hb : b.Pairwise (· ≤ ·)) : a = b :=
  p.eq_of_pairwise (fun x y _ _ h1 h2 => Int.le_antisymm h1 h2) ha hb

/-! ### repr of data -/
def rRepr (K : PySem.W.Frag) : List V → Hp → VK → Prop := fun xs H Q => ∃ x p, xs = [x] ∧ Dp K H x p ∧ p.canLay0 = true ∧ p.showable = true ∧ p.depth ≤ 60 ∧ p.shown.length ≤ sizeLine ∧ Q (.str p.shown) H
section
variable {X : Cx}
theorem cr_repr (hg : X.A.guards = some []) (hu : X.A.units + 65 < cLine) : CallR X (.builtin "repr") (rRepr X.K) := by
  intro pins s σ H xs us Q I r h
  obtain ⟨x, p, rfl, hd, hl, hs, hdp, hz, q⟩ := h
  obtain ⟨u, rfl, ru⟩ := vals1 r
  cases hd with
  | non => cases ru; exact PySem.P.repr_of_none ⟨.str _, H, I.tok _, ⟨_, rfl⟩, q⟩
  | bl b => cases ru; exact PySem.P.repr_of_bool ⟨.str _, H, I.tok _, ⟨_, rfl⟩, q⟩
  | int i =>
    obtain ⟨t, rfl⟩ := ru
    exact PySem.P.repr_of_int (of_decide_eq_true hs) ⟨.str _, H, I.tok _, ⟨_, rfl⟩, q⟩
  | str z =>
    obtain ⟨t, rfl⟩ := ru
    exact PySem.P.repr_of_str ⟨.str _, H, I.tok _, ⟨_, rfl⟩, q⟩ hz
  | lst h1 h2 =>
    obtain ⟨as, rr⟩ := Dp.reads I _ _ u (.lst h1 h2) ru
    cases ru
    exact repr_of_reads' rr hs (PyData.noDict_hsm (PyData.hasDict_of_canLay _ hl)) hg (by omega) (fun b o e => e) (fun h' t tk hk => ⟨.str _, H, I.kept (t' := tk) hk, ⟨_, rfl⟩, q⟩) hz
  | tup h1 h2 =>
    obtain ⟨as, rr⟩ := Dp.reads I _ _ u (.tup h1 h2) ru
    cases ru
    exact repr_of_reads' rr hs (PyData.noDict_hsm (PyData.hasDict_of_canLay _ hl)) hg (by omega) (fun b o e => e) (fun h' t tk hk => ⟨.str _, H, I.kept (t' := tk) hk, ⟨_, rfl⟩, q⟩) hz

/-- the value that the name holds -/
def Bi.val : Bi → Value
  | .int => .type "int" | .tuple => .type "tuple" | .list => .type "list" | .str => .type "str"
  | .len => .builtin "len" | .abs => .builtin "abs" | .ord => .builtin "ord" | .sum => .builtin "sum" | .min => .builtin "min" | .max => .builtin "max"
  | .all => .builtin "all" | .any => .builtin "any" | .sorted => .builtin "sorted" | .repr => .builtin "repr"
theorem reps1 {K : PySem.W.Frag} {ρ : List Addr} {H : Hp} {x : D} {vs : List V} (h : Reps K ρ H [x] vs) : ∃ v, vs = [v] ∧ Rep K ρ H x v := by
  cases h with
  | cons r t => cases t; exact ⟨_, rfl, r⟩
theorem reps2 {K : PySem.W.Frag} {ρ : List Addr} {H : Hp} {x y : D} {vs : List V} (h : Reps K ρ H [x, y] vs) : ∃ v w, vs = [v, w] ∧ Rep K ρ H x v ∧ Rep K ρ H y w := by
  cases h with
  | cons r t =>
    cases t with
    | cons r2 t2 => cases t2; exact ⟨_, _, rfl, r, r2⟩
theorem rep_tup {K : PySem.W.Frag} {ρ : List Addr} {H : Hp} {ds : List D} {v : V} (h : Rep K ρ H (.tup ds) v) : ∃ a vs, v = .ref a ∧ SqT K H a vs ∧ Reps K ρ H ds vs := by
  cases h with
  | tup a b c => exact ⟨_, _, rfl, a, b⟩
theorem ok_bi (hc : X.calm = true) (hg : X.A.guards = some []) (hu : X.A.units + 65 < cLine) (b : Bi) : OkCall X b.val (biD b) := by
  intro ρ st H xs vs d st' S r e
  have seq : ∀ (x : D) (ys : List D), xs = [x] → itemsL st x = some ys → ∃ a ws, vs = [.ref a] ∧ SqL X.K H a ws ∧ Reps X.K ρ H ys ws := by
    rintro x ys rfl h
    obtain ⟨v, rfl, rv⟩ := reps1 r
    obtain ⟨a, ws, rfl, h1, h2⟩ := itemsL_rep S rv h
    exact ⟨a, ws, rfl, h1, h2⟩
  unfold biD at e
  split at e
  all_goals (try dsimp only at e)
  · cases e
    obtain ⟨v, rfl, rv⟩ := reps1 r
    obtain ⟨a, ws, rfl, h1, h2⟩ := rep_tup rv
    exact ⟨_, call_len_seq, fun Q p => ⟨a, ws, rfl, .inr h1, by rw [← h2.length]; exact p.self S (.int _)⟩⟩
  · split at e
    · rename_i hl
      cases e
      obtain ⟨v, rfl, rv⟩ := reps1 r
      cases rv
      exact ⟨_, call_len_str, fun Q p => ⟨_, rfl, by rw [big_eq]; exact hl, p.self S (.int _)⟩⟩
    · cases e
  · split at e
    · rename_i ys h
      cases e
      obtain ⟨a, ws, rfl, h1, h2⟩ := seq _ _ rfl h
      exact ⟨_, call_len_seq, fun Q p => ⟨a, ws, rfl, .inl h1, by rw [← h2.length]; exact p.self S (.int _)⟩⟩
    · cases e
  · cases e
    obtain ⟨v, rfl, rv⟩ := reps1 r
    cases rv
    exact ⟨_, call_abs, fun Q p => ⟨_, rfl, p.self S (.int _)⟩⟩
  · cases e
    obtain ⟨v, rfl, rv⟩ := reps1 r
    cases rv
    exact ⟨_, call_int1, fun Q p => .inl ⟨_, rfl, p.self S (.int _)⟩⟩
  · cases e
    obtain ⟨v, rfl, rv⟩ := reps1 r
    cases rv
    exact ⟨_, call_int1, fun Q p => .inr ⟨_, rfl, p.self S (.int _)⟩⟩
  · split at e
    · rename_i hl
      cases e
      obtain ⟨v, rfl, rv⟩ := reps1 r
      cases rv
      exact ⟨_, call_ord, fun Q p => ⟨_, rfl, hl, p.self S (.int _)⟩⟩
    · cases e
  · split at e
    · rename_i ys h
      split at e
      · rename_i is h3
        cases e
        obtain ⟨a, ws, rfl, h1, h2⟩ := seq _ _ rfl h
        rw [intsOf_reps h3 h2] at h1
        exact ⟨_, cr_sum hc, fun Q p => ⟨a, is, rfl, h1, p.self S (.int _)⟩⟩
      · cases e
    · cases e
  · cases e
    obtain ⟨v, w, rfl, rv, rw'⟩ := reps2 r
    cases rv; cases rw'
    exact ⟨_, call_min2 hc, fun Q p => ⟨_, _, rfl, p.self S (.int _)⟩⟩
  · cases e
    obtain ⟨v, w, rfl, rv, rw'⟩ := reps2 r
    cases rv; cases rw'
    exact ⟨_, call_max2 hc, fun Q p => ⟨_, _, rfl, p.self S (.int _)⟩⟩
  · split at e
    · rename_i ys h
      split at e
      · rename_i i is h3
        cases e
        obtain ⟨a, ws, rfl, h1, h2⟩ := seq _ _ rfl h
        rw [intsOf_reps h3 h2] at h1
        refine ⟨_, cr_min hc, fun Q p => ⟨a, i :: is, rfl, h1, by simp, fun m hm hle => ?_⟩⟩
        have e1 : m = minI i is := by
          obtain ⟨q1, q2, q3⟩ := minI_le is i
          have a1 : m ≤ minI i is := hle _ (by rcases q3 with q3 | q3 <;> simp [q3])
          have a2 : minI i is ≤ m := by
            rcases List.mem_cons.mp hm with rfl | hm
            · exact q1
            · exact q2 m hm
          omega
        rw [e1]
        exact p.self S (.int _)
      · cases e
    · cases e
  · split at e
    · rename_i ys h
      split at e
      · rename_i i is h3
        cases e
        obtain ⟨a, ws, rfl, h1, h2⟩ := seq _ _ rfl h
        rw [intsOf_reps h3 h2] at h1
        refine ⟨_, cr_max hc, fun Q p => ⟨a, i :: is, rfl, h1, by simp, fun m hm hle => ?_⟩⟩
        have e1 : m = maxI i is := by
          obtain ⟨q1, q2, q3⟩ := maxI_le is i
          have a1 : maxI i is ≤ m := hle _ (by rcases q3 with q3 | q3 <;> simp [q3])
          have a2 : m ≤ maxI i is := by
            rcases List.mem_cons.mp hm with rfl | hm
            · exact q1
            · exact q2 m hm
          omega
        rw [e1]
        exact p.self S (.int _)
      · cases e
    · cases e
  · split at e
    · rename_i ys h
      split at e
      · rename_i is h3
        cases e
        obtain ⟨a, ws, rfl, h1, h2⟩ := seq _ _ rfl h
        rw [blsOf_reps h3 h2] at h1
        exact ⟨_, cr_all hc, fun Q p => ⟨a, is, rfl, h1, p.self S (.bl _)⟩⟩
      · cases e
    · cases e
  · split at e
    · rename_i ys h
      split at e
      · rename_i is h3
        cases e
        obtain ⟨a, ws, rfl, h1, h2⟩ := seq _ _ rfl h
        rw [blsOf_reps h3 h2] at h1
        exact ⟨_, cr_any hc, fun Q p => ⟨a, is, rfl, h1, p.self S (.bl _)⟩⟩
      · cases e
    · cases e
  · cases e
    obtain ⟨v, rfl, rv⟩ := reps1 r
    obtain ⟨a, ws, rfl, h1, h2⟩ := rep_tup rv
    exact ⟨_, call_tuple_of, fun Q p => ⟨a, ws, rfl, .inr ⟨h1, p.self S rv⟩⟩⟩
  · split at e
    · rename_i ys h
      cases e
      obtain ⟨a, ws, rfl, h1, h2⟩ := seq _ _ rfl h
      exact ⟨_, call_tuple_of, fun Q p => ⟨a, ws, rfl, .inl ⟨h1, fun l hl => p.tup S h2 hl⟩⟩⟩
    · cases e
  · cases e
    obtain ⟨v, rfl, rv⟩ := reps1 r
    obtain ⟨a, ws, rfl, h1, h2⟩ := rep_tup rv
    exact ⟨_, call_list_of, fun Q p => ⟨a, ws, rfl, .inr h1, fun l hl => p.lst S h2 hl⟩⟩
  · split at e
    · rename_i ys h
      cases e
      obtain ⟨a, ws, rfl, h1, h2⟩ := seq _ _ rfl h
      exact ⟨_, call_list_of, fun Q p => ⟨a, ws, rfl, .inl h1, fun l hl => p.lst S h2 hl⟩⟩
    · cases e
  · split at e
    · rename_i ys h
      split at e
      · rename_i is h3
        cases e
        obtain ⟨a, ws, rfl, h1, h2⟩ := seq _ _ rfl h
        rw [intsOf_reps h3 h2] at h1
        refine ⟨_, cr_sortedI, fun Q p => ⟨a, is, rfl, h1, fun ns' q perm srt hq => ?_⟩⟩
        have e1 : ns' = sortI is := sorted_unique (perm.trans (sortI_perm is).symm) srt (sortI_sorted is)
        subst e1
        exact p.lst S (reps_ints _) hq
      · cases e
    · cases e
  · split at e
    · rename_i p h
      split at e
      · rename_i hh
        cases e
        obtain ⟨v, rfl, rv⟩ := reps1 r
        exact ⟨_, cr_repr hg hu, fun Q k => ⟨v, p, rfl, pyD_dp S rv h, hh.1, hh.2.1, hh.2.2.1, by rw [big_eq]; exact hh.2.2.2, k.self S (.str _)⟩⟩
      · cases e
    · cases e
  · split at e
    · rename_i hl
      cases e
      obtain ⟨v, rfl, rv⟩ := reps1 r
      cases rv
      exact ⟨_, call_str_int, fun Q p => ⟨_, rfl, hl, p.self S (.str _)⟩⟩
    · cases e
  · cases e
    obtain ⟨v, rfl, rv⟩ := reps1 r
    cases rv
    exact ⟨_, SkE.call_str_str, fun Q p => ⟨_, rfl, p.self S (.str _)⟩⟩
  · cases e

/-! ### methods -/
inductive Me where
  | append | extend | get | setdefault
  deriving DecidableEq
def Me.name : Me → Str
  | .append => "append" | .extend => "extend" | .get => "get" | .setdefault => "setdefault"
/-- the kind of an object -/
inductive Ty where
  | list | dict
  deriving DecidableEq
def tyD (st : Store) : D → Option Ty
  | .ob i => match st[i]? with | some (.lst _) => some .list | some (.dct _) => some .dict | _ => none
  | _ => none
def meD : Me → Ty → D → List D → M D
  | .append, .list, .ob i, [x] => fun st => match st[i]? with
    | some (.lst xs) => if xs.length < bigN then .ok .non (st.set i (.lst (xs ++ [x]))) else .no
    | _ => .no
  | .extend, .list, .ob i, [.ob j] => fun st => match st[i]?, st[j]? with
    | some (.lst xs), some (.lst ys) => if xs.length + ys.length ≤ bigN then .ok .non (st.set i (.lst (xs ++ ys))) else .no
    | _, _ => .no
  | .get, .dict, .ob i, [k] => fun st => match st[i]? with
    | some (.dct kvs) => if kindOk kvs k = true then .ok ((getKv kvs k).getD .non) st else .no
    | _ => .no
  | .get, .dict, .ob i, [k, x] => fun st => match st[i]? with
    | some (.dct kvs) => if kindOk kvs k = true then .ok ((getKv kvs k).getD x) st else .no
    | _ => .no
  | .setdefault, .dict, .ob i, [k, x] => fun st => match st[i]? with
    | some (.dct kvs) => if kindOk kvs k = true ∧ kvs.length < bigN then (match getKv kvs k with
      | some d => .ok d st
      | none => .ok x (st.set i (.dct (putKv kvs k x)))) else .no
    | _ => .no
  | _, _, _, _ => fun _ => .no
end
end W9

/-! W9h: methods -/
namespace W9
open PySem L2
section
variable {X : Cx} {pins : List (Addr × Obj)} {σ : L2.St} {H H' : Hp} {s : Shared} {a : Addr} {y z : V} {u r : Value} {ov : Option V}
theorem RelO.none_iff' {o : Option V} {u : Option Value} (r : RelO o u) : o = none ↔ u = none := by
  cases o with
  | none => exact ⟨fun _ => RelO.none_of r, fun _ => rfl⟩
  | some v => obtain ⟨w, rfl, _⟩ := RelO.some_of r; exact ⟨fun h => (by cases h), fun h => (by cases h)⟩
/-- setdefault, by what a look and a put would be -/
theorem setd_at {Q : Value → Shared → Prop} {E : Value → Shared → Prop} (hu : X.A.units + 1 < cLine) (I : Inv X pins σ H s) (p : DPut H a y z H') (g : DGet H a y ov) (ry : RelV y u) (rz : RelV z r)
    (h1 : ∀ v, ov = some v → ∀ (w' : Value) (s' : Shared), Inv X pins σ H s' → RelV v w' → Q w' s') (h2 : ov = none → ∀ (w' : Value) (s' : Shared), Inv X pins σ H' s' → RelV z w' → Q w' s') :
    wpAny (model X.prog X.w) X.A (call (.builtin "dict.setdefault") [.ref a, u, r]) Q E s := by
  rcases p with ⟨kvs, k, e, ey, l, eH⟩ | ⟨kvs, k, b, e, ey, eb, l, eH⟩
  · subst ey eH
    have eo : ov = valV kvs k := by
      rcases g with ⟨kvs', k', e', ey', l'⟩ | ⟨kvs', k', b', e', ey', _, l'⟩
      · rcases e' with e' | ⟨o, e'⟩
        · rw [e] at e'; cases e'
          rw [l', kV_inj ey']
        · rw [e] at e'; cases e'
      · rcases e' with e' | ⟨o, e'⟩ <;> (rw [e] at e'; cases e')
    rw [eo] at h1 h2
    exact d_setd I e ry rz l h1 h2
  · subst ey eH
    have eo : ov = valV kvs k := by
      rcases g with ⟨kvs', k', e', ey', l'⟩ | ⟨kvs', k', b', e', ey', eb', l'⟩
      · rcases e' with e' | ⟨o, e'⟩ <;> (rw [e] at e'; cases e')
      · rcases e' with e' | ⟨o, e'⟩
        · rw [e] at e'; cases e'
          cases ey'
          rw [eb] at eb'
          have := kVs_inj (HO.tup.inj (Option.some.inj eb'))
          rw [l', this]
        · rw [e] at e'; cases e'
    cases (show u = Value.ref b from ry)
    obtain ⟨hz0, hd, xs, rel, dd⟩ := dt_of I.hok e
    have hz : xs.length ≤ sizeLine := by rw [← Paired.length rel]; exact hz0
    have rv := rel.val k
    rw [← eo] at rv
    refine call_setdefault_heap (knd := tupleKind (mixKind X.prog X.w)) (tupleKind_room_in1 hu) (key_of I.hok eb) hd dd (fun p hp => ?_) (fun hn h' dd' hs => ?_) hz
    · rw [hp] at rv
      cases q : ov with
      | none => rw [q] at rv; exact (show False from rv).elim
      | some v => rw [q] at rv; exact h1 v q _ _ (I.tok _) rv
    · have hl : (putK kvs k z).length ≤ sizeLine := by have := length_putK kvs k z; omega
      refine h2 ((RelO.none_iff' rv).mpr (by rw [hn]; rfl)) _ _ ?_ rz
      obtain ⟨q, es, ep, hq, x2, x3, x4, _, x5⟩ := dd'
      refine d_write I (by rw [e]; exact True.intro) hs ⟨q, hq⟩ ⟨hl, hd, _, (rel.put k eb rz).keeps fun c ys ec => ?_, q, es, ep, hq, x2, x3, x4, x5⟩
      rw [upd_ne (ne_of ec e (fun z => nomatch z))]
      exact ec
end
section
variable {X : Cx}
def rGet1 (K : PySem.W.Frag) : V → List V → Hp → VK → Prop := fun x xs H Q => ∃ ρ kvs k a y, x = .ref a ∧ xs = [y] ∧ ObRep K ρ H a (.dct kvs) ∧ Rep K ρ H k y ∧ kindOk kvs k = true ∧ ∀ v, Rep K ρ H ((getKv kvs k).getD .non) v → Q v H
theorem mt_get1 (hu : X.A.units + 1 < cLine) : MtR X "dict.get" (rGet1 X.K) := by
  intro pins s σ H x xs v us Q I rx rs h
  obtain ⟨ρ, kvs, k, a, y, rfl, rfl, ob, rk, hk, q⟩ := h
  cases rx
  obtain ⟨u, rfl, ru⟩ := vals1 rs
  obtain ⟨H2, ov, I2, g, back, res⟩ := dg_at I ob rk hk
  refine d_get1 hu I2 g ru fun w' s' J rw' => ?_
  rcases res with ⟨e1, e2⟩ | ⟨d, z, e1, e2, rz⟩
  · subst e2
    rw [e1] at q
    exact ⟨.non, H, back _ J, rw', q _ .non⟩
  · subst e2
    rw [e1] at q
    exact ⟨z, H, back _ J, rw', q _ rz⟩
def rGet2 (K : PySem.W.Frag) : V → List V → Hp → VK → Prop := fun x xs H Q => ∃ ρ kvs k d a y z, x = .ref a ∧ xs = [y, z] ∧ ObRep K ρ H a (.dct kvs) ∧ Rep K ρ H k y ∧ Rep K ρ H d z ∧ kindOk kvs k = true ∧ ∀ v, Rep K ρ H ((getKv kvs k).getD d) v → Q v H
theorem mt_get2 (hu : X.A.units + 1 < cLine) : MtR X "dict.get" (rGet2 X.K) := by
  intro pins s σ H x xs v us Q I rx rs h
  obtain ⟨ρ, kvs, k, d, a, y, z, rfl, rfl, ob, rk, rd, hk, q⟩ := h
  cases rx
  obtain ⟨u, u2, rfl, ru, ru2⟩ := vals2 rs
  obtain ⟨H2, ov, I2, g, back, res⟩ := dg_at I ob rk hk
  refine d_get2 hu I2 g ru ru2 fun w' s' J rw' => ?_
  rcases res with ⟨e1, e2⟩ | ⟨d', z', e1, e2, rz⟩
  · subst e2
    rw [e1] at q
    exact ⟨z, H, back _ J, rw', q _ rd⟩
  · subst e2
    rw [e1] at q
    exact ⟨z', H, back _ J, rw', q _ rz⟩
def rSetd (K : PySem.W.Frag) : V → List V → Hp → VK → Prop := fun x xs H Q => ∃ (ρ : List Addr) (st : Store) (i : Nat) (kvs : List (D × D)) (k d : D) (a : Addr) (y z : V), x = .ref a ∧ xs = [y, z] ∧ Sim K ρ st H ∧ ρ[i]? = some a ∧ ObRep K ρ H a (.dct kvs) ∧ Rep K ρ H k y ∧ Rep K ρ H d z ∧ kindOk kvs k = true ∧ kvs.length < bigN ∧
  (∀ d' v, getKv kvs k = some d' → Rep K ρ H d' v → Q v H) ∧ (getKv kvs k = none → ∀ u, Mut (H a) → ObRep K ρ (upd H a u) a (.dct (putKv kvs k d)) → Q z (upd H a u))
theorem mt_setd (hu : X.A.units + 1 < cLine) : MtR X "dict.setdefault" (rSetd X.K) := by
  intro pins s σ H x xs v us Q I rx rs h
  obtain ⟨ρ, st, i, kvs, k, d, a, y, z, rfl, rfl, S, hi, ob, rk, rd, hk, hl, q1, q2⟩ := h
  cases rx
  obtain ⟨u, u2, rfl, ru, ru2⟩ := vals2 rs
  obtain ⟨H2, ov, w, I2, g, back, res, p, mu, ob'⟩ := dp_at I S hi ob rk hk hl rd
  refine setd_at hu I2 p g ru ru2 (fun v hv w' s' J rw' => ?_) fun hv w' s' J rw' => ?_
  · rcases res with ⟨_, e2⟩ | ⟨d', z', e1, e2, rz⟩
    · rw [hv] at e2; cases e2
    · rw [hv] at e2; cases e2
      exact ⟨v, H, back _ J, rw', q1 d' v e1 rz⟩
  · rcases res with ⟨e1, _⟩ | ⟨d', z', e1, e2, rz⟩
    · exact ⟨z, _, J, rw', q2 e1 w mu ob'⟩
    · rw [hv] at e2; cases e2
def Me.id : Me → Ty → String
  | .append, _ => "list.append"
  | .extend, _ => "list.extend"
  | .get, _ => "dict.get"
  | .setdefault, _ => "dict.setdefault"
theorem mutL {H : Hp} {a : Addr} {vs : List V} (h : H a = some (.lst vs)) : Mut (H a) := by rw [h]; exact True.intro
theorem ok_me (hu : X.A.units + 1 < cLine) (m : Me) (T : Ty) : ∀ ρ st H x xs v vs d st', Sim X.K ρ st H → Rep X.K ρ H x v → Reps X.K ρ H xs vs → meD m T x xs st = .ok d st' → ∃ r, MtR X (m.id T) r ∧ ∀ Q, Post X.K ρ H st' d Q → r v vs H Q := by
  intro ρ st H x xs v vs d st' S rx rs e
  unfold meD at e
  split at e
  all_goals (try dsimp only at e)
  · split at e
    · rename_i ys h1
      split at e
      · rename_i hl
        cases e
        cases rx with
        | ob hx =>
          obtain ⟨w, rfl, rw'⟩ := reps1 rs
          obtain ⟨ws, h2, h3⟩ := S.ob _ _ _ h1 hx
          have mu := mutL h2
          refine ⟨_, mt_append, fun Q p => ⟨_, ws, w, rfl, rfl, h2, by rw [big_eq, ← h3.length]; exact hl, ?_⟩⟩
          exact p ρ _ _ (S.grow_set hx mu) (S.set hx mu ⟨_, upd_same, (h3.append (.cons rw' .nil)).grow (S.grow_set hx mu)⟩) .non
      · cases e
    · cases e
  · split at e
    · rename_i ys zs h1 h1'
      split at e
      · rename_i hl
        cases e
        cases rx with
        | ob hx =>
          obtain ⟨w, rfl, rw'⟩ := reps1 rs
          cases rw' with
          | ob hy =>
            obtain ⟨ws, h2, h3⟩ := S.ob _ _ _ h1 hx
            obtain ⟨ws', h2', h3'⟩ := S.ob _ _ _ h1' hy
            have mu := mutL h2
            refine ⟨_, mt_extend, fun Q p => ⟨_, _, ws, ws', rfl, rfl, h2, h2', by rw [big_eq, ← h3.length, ← h3'.length]; exact hl, ?_⟩⟩
            exact p ρ _ _ (S.grow_set hx mu) (S.set hx mu ⟨_, upd_same, (h3.append h3').grow (S.grow_set hx mu)⟩) .non
      · cases e
    · cases e
  · split at e
    · rename_i kvs h1
      split at e
      · rename_i hk
        cases e
        cases rx with
        | ob hx =>
          obtain ⟨w, rfl, rw'⟩ := reps1 rs
          exact ⟨_, mt_get1 hu, fun Q p => ⟨ρ, kvs, _, _, w, rfl, rfl, S.ob _ _ _ h1 hx, rw', hk, fun v rv => p.self S rv⟩⟩
      · cases e
    · cases e
  · split at e
    · rename_i kvs h1
      split at e
      · rename_i hk
        cases e
        cases rx with
        | ob hx =>
          obtain ⟨w, w2, rfl, rw', rw2⟩ := reps2 rs
          exact ⟨_, mt_get2 hu, fun Q p => ⟨ρ, kvs, _, _, _, w, w2, rfl, rfl, S.ob _ _ _ h1 hx, rw', rw2, hk, fun v rv => p.self S rv⟩⟩
      · cases e
    · cases e
  · split at e
    · rename_i kvs h1
      split at e
      · rename_i hk
        cases rx with
        | ob hx =>
          obtain ⟨w, w2, rfl, rw', rw2⟩ := reps2 rs
          refine ⟨_, mt_setd hu, fun Q p => ⟨ρ, st, _, kvs, _, _, _, w, w2, rfl, rfl, S, hx, S.ob _ _ _ h1 hx, rw', rw2, hk.1, hk.2, fun d' v hg rv => ?_, fun hg u mu ob' => ?_⟩⟩
          · rw [hg] at e
            cases e
            exact p.self S rv
          · rw [hg] at e
            cases e
            exact p ρ _ _ (S.grow_set hx mu) (S.set hx mu ob') (rw2.grow (S.grow_set hx mu))
      · cases e
    · cases e
  · cases e
end
end W9

/-! W9i: defs that are called where no repr is under way, by what they do upon the store -/
namespace W9
open PySem PySem.Spec PyProof.Rows L2
structure FnG (P : Program) (w : World) (K : PySem.W.Frag) (mg : Str → Option Value) (base : Heap) (CX : CXT) (k : Nat) (f : Addr) (fd : FuncData) (ps : List Str) (sp : Sp) : Prop where
  len : ∀ vs H Q E, sp vs H Q E → vs.length = ps.length
  run : ∀ (A : Around) (outer : List PySem.Env) (s : Shared) (H : Hp) (args : Args) (us : List Value) (vs : List V) (Q : VK) (E : XK), Room k A → A.guards = some [] → Env0 P w K mg base A outer s H → BindsTo s fd args (ps.zip us) →
    Vals vs us → sp vs H Q E → codeAny (model P w) A (.call (.ref f) args) (CR CX outer P w H s Q E) s
section
variable {P : Program} {w : World} {K : PySem.W.Frag} {mg : Str → Option Value} {base : Heap} {CX : CXT} {j k : Nat} {f : Addr} {fd : FuncData} {ps : List Str} {sp sp' : Sp}
theorem FnG.up (F : FnG P w K mg base CX j f fd ps sp) (h : j ≤ k) : FnG P w K mg base CX k f fd ps sp :=
  ⟨F.len, fun A outer s H args us vs Q E room => F.run A outer s H args us vs Q E (room.mono h)⟩
theorem FnG.weak (F : FnG P w K mg base CX k f fd ps sp) (h : ∀ vs H Q E, sp' vs H Q E → sp vs H Q E) : FnG P w K mg base CX k f fd ps sp' :=
  ⟨fun vs H Q E x => F.len vs H Q E (h _ _ _ _ x), fun A outer s H args us vs Q E room gd e0 hb hv x => F.run A outer s H args us vs Q E room gd e0 hb hv (h _ _ _ _ x)⟩
/-- a def by its body -/
theorem fnG_of {name qual : Str} {params : Arguments} {body : List Stmt} {scope : Scope} {dV kV doc pm cdv ct oc : Value} {an od : Option Addr} {osl : Array (Option Value)} {N : List Str}
    (lk : K.lookup f = some ⟨oc, od, .func (PySem.W.fnOf name qual params body scope dV kV doc pm an cdv ct), osl⟩) (code : PySem.W.codeIn K cdv qual = true) (S : FnScope N ps scope) (len : ∀ vs H Q E, sp vs H Q E → vs.length = ps.length)
    (go : ∀ (A : Around) (outer : List PySem.Env) (s : Shared) (H : Hp) (vs : List V) (Q : VK) (E : XK), Room k (A.deeper (envOfC qual scope s.heap.objs.size f cdv)) → A.guards = some [] → sp vs H Q E →
      WSs (cxOf CX P w K mg base N qual scope f cdv A outer s H E) body { nx := fun _ H' => Q .non H', rt := Q } (start N vs) H) :
    FnG P w K mg base CX (k + 1) f (PySem.W.fnOf name qual params body scope dV kV doc pm an cdv ct) ps sp := by
  refine ⟨len, fun A outer s H args us vs Q E room gd e0 hb rel hsp => ?_⟩
  have hl := len _ _ _ _ hsp
  have KX : K.In s.heap := e0.mod.kin.keeps fun b o z => (e0.bs b o z).1
  have nolim : s.heap.NoLimit := e0.mod.nolimit.keeps fun b o z => (e0.bs b o z).1
  have kinds : ∀ y ∈ ps.zip us, scope.names.lookup y.1 = some .local ∨ (scope.names.lookup y.1 = some .cell ∧ ((cellsFrom (s.heap.objs.size + 1) scope.names []).lookup y.1).isSome = true) := fun ⟨n, v⟩ hy =>
    (S.par n (List.of_mem_zip hy).1).imp id fun z => ⟨z, PySem.W.cellsFrom_some _ _ _ (.inl z)⟩
  refine codeAny_call_function room.depth (KX _ _ lk) rfl S.co S.gen rfl (PySem.W.codeRec_of KX code) (hb _ _ _ _ ?_)
  refine wpAny_newFunctionEnv_cells S.kind kinds fun env eenv s1 x => ?_
  subst eenv
  refine ⟨nolim.keeps x.toInCall.keep, codeAny_func ?_⟩
  have wb := go A outer s H vs Q E (room.deeper _) gd hsp
  have I : Inv (cxOf CX P w K mg base N qual scope f cdv A outer s H E) [] (start N vs) H s1 := inv_start S room.hd e0 hl rel x
  refine wpAny_mono (wb [] s1 I) (fun flow s' hs => ?_) fun _ _ hs => hs
  have done : ∀ {σ' : L2.St} {H' : Hp} {v : V} {u : Value}, Inv (cxOf CX P w K mg base N qual scope f cdv A outer s H E) [] σ' H' s' → RelV v u → Q v H' → CE outer P w H s Q u s' :=
    fun {σ' H' v u} J rv q => ⟨v, H', J.os, J.bare, J.base, J.hok, rv, q⟩
  cases flow with
  | ret u => obtain ⟨v, σ', H', J, rv, q⟩ := hs; exact done J rv q
  | next => obtain ⟨σ', H', J, q⟩ := hs; exact done (v := V.non) (u := Value.none) J rfl q
  | brk => obtain ⟨_, _, _, q⟩ := hs; exact q.elim
  | cont => obtain ⟨_, _, _, q⟩ := hs; exact q.elim
end

/-! ### a def's promise by a function upon the store -/
def spF (K : PySem.W.Frag) (n : Nat) (g : List D → M D) : Sp := fun vs H Q _ => ∃ ρ st ds d st', ds.length = n ∧ Sim K ρ st H ∧ Reps K ρ H ds vs ∧ g ds st = .ok d st' ∧ Post K ρ H st' d Q
/-- a call with some values by place, and others by the names ks -/
def CallF (P : Program) (w : World) (K : PySem.W.Frag) (mg : Str → Option Value) (base : Heap) (k : Nat) (f : Addr) (ks : List Str) (sp : Sp) : Prop :=
  ∀ (A : Around) (outer : List PySem.Env) (s : Shared) (H : Hp) (us ws : List Value) (vs zs : List V) (Q : VK), Room k A → A.guards = some [] → Env0 P w K mg base A outer s H → Vals vs us → Vals zs ws → ws.length = ks.length → sp (vs ++ zs) H Q E0 →
    codeAny (model P w) A (.call (.ref f) ⟨us, ks.zip ws⟩) (CR CX0 outer P w H s Q E0) s
/-- a way of calling a name: the names of its keywords, how many values in all -/
structure Frm where
  x : Str
  ks : List Str
  n : Nat
  kd : Option Str := none
  deriving DecidableEq
/-- how a callee is found: a name of the module, a method of a class -/
def FoundAt (K : PySem.W.Frag) (mg : Str → Option Value) (x : Str) (f : Addr) : Option Str → Prop
  | none => mg x = some (.ref f) ∧ PySem.W.keepIn K (.ref f) = true
  | some c => ∃ C, ClsN K c C ∧ Meth K C x f
/-- what is known of a name that is called -/
structure Callee (P : Program) (w : World) (K : PySem.W.Frag) (mg : Str → Option Value) (base : Heap) (k : Nat) (m : Frm) (g : List D → M D) : Prop where
  ex : ∃ f, CallF P w K mg base k f m.ks (spF K m.n g) ∧ FoundAt K mg m.x f m.kd
theorem kinS {P : Program} {w : World} {K : PySem.W.Frag} {mg : Str → Option Value} {base : Heap} {A : Around} {outer : List PySem.Env} {s : Shared} {H : Hp} (e0 : Env0 P w K mg base A outer s H) : K.In s.heap := e0.mod.kin.keeps fun b o z => (e0.bs b o z).1
section
variable {P : Program} {w : World} {K : PySem.W.Frag} {mg : Str → Option Value} {base : Heap} {k : Nat} {f : Addr} {fd : FuncData} {ps ks : List Str} {n : Nat} {g : List D → M D}
/-- all values by place, the defaults ds behind them -/
theorem callF_of {dds : List D} {dvs : List V} {dus : List Value} (F : FnG P w K mg base CX0 k f fd ps (spF K (n + dds.length) g)) (hb : Binds K fd ps dus) (hd : Vals dvs dus) (hr : ∀ ρ H, Reps K ρ H dds dvs) : CallF P w K mg base k f [] (spF K n fun xs => g (xs ++ dds)) := by
  intro A outer s H us ws vs zs Q room gd e0 rv rz hl sp
  have hw : ws = [] := List.length_eq_zero_iff.mp hl
  subst hw
  cases rz
  rw [List.append_nil] at sp
  obtain ⟨ρ, st, xs, d, st', h1, S, r, e, p⟩ := sp
  have sp2 : spF K (n + dds.length) g (vs ++ dvs) H Q E0 := ⟨ρ, st, xs ++ dds, d, st', by rw [List.length_append, h1], S, r.append (hr ρ H), e, p⟩
  have rr := rv.append hd
  have hl2 : (us ++ dus).length = ps.length := by rw [← rr.length]; exact F.len _ _ _ _ sp2
  exact F.run A outer s H ⟨us, []⟩ (us ++ dus) (vs ++ dvs) Q E0 room gd e0 (hb s us (kinS e0) hl2) rr sp2
/-- some by place, some by names; π: how the values stand as parameters -/
theorem callF_kw {n0 : Nat} {gv : List Value → List Value → List Value} {gV : List V → List V → List V} {gD : List D → List D} {m : Nat} (F : FnG P w K mg base CX0 k f fd ps (spF K m g)) (hb : KBn K fd ps n0 ks gv gV) (hn : n = n0 + ks.length)
    (hr : ∀ ρ H xs vs zs, xs.length = n → vs.length = n0 → Reps K ρ H xs (vs ++ zs) → Reps K ρ H (gD xs) (gV vs zs) ∧ (gD xs).length = m) : CallF P w K mg base k f ks (spF K n fun xs => g (gD xs)) := by
  intro A outer s H us ws vs zs Q room gd e0 rv rz hl sp
  obtain ⟨ρ, st, xs, d, st', h1, S, r, e, p⟩ := sp
  have hlen := r.length
  rw [List.length_append] at hlen
  have hz : zs.length = ks.length := by rw [rz.length]; exact hl
  have hv : vs.length = n0 := by omega
  obtain ⟨r2, l2⟩ := hr ρ H xs vs zs h1 hv r
  have sp2 : spF K m g (gV vs zs) H Q E0 := ⟨ρ, st, gD xs, d, st', l2, S, r2, e, p⟩
  exact F.run A outer s H ⟨us, ks.zip ws⟩ (gv us ws) (gV vs zs) Q E0 room gd e0 (hb.to s us ws (kinS e0) (by rw [← rv.length]; exact hv) hl) (hb.rel rv rz) sp2
end
section
variable {X : Cx} {k : Nat} {x : Str} {n : Nat} {g : List D → M D}
theorem callG {f : Addr} {ks : List Str} {sp : Sp} {pins : List (Addr × Obj)} {σ : L2.St} {H : Hp} {s : Shared} {Q : VK} {us ws : List Value} {vs zs : List V} (F : CallF X.prog X.w X.K X.mg X.base k f ks sp) (room : Room k X.A) (gd : X.A.guards = some [])
    (I : Inv X pins σ H s) (rel : Vals vs us) (rz : Vals zs ws) (hl : ws.length = ks.length) (h : sp (vs ++ zs) H Q E0) : wpAny (model X.prog X.w) X.A (call (.ref f) us (ks.zip ws)) (EP X pins σ Q) X.xe s := by
  refine wpAny_call (codeAny_mono (F X.A X.stack s H us ws vs zs Q room gd I.env0 rel rz hl h) fun res s' z => ?_)
  cases res with
  | error e => exact False.elim z
  | ok flow =>
    cases flow with
    | ret u => exact I.after z
    | next => exact z.elim
    | brk => exact z.elim
    | cont => exact z.elim
/-- f(e, ..) -/
theorem pe_callG {f : Addr} {sp : Sp} {p pos : Pos} {e : Expr} {es : List Expr} {t : TA} (F : CallF X.prog X.w X.K X.mg X.base k f [] sp) (room : Room k X.A) (gd : X.A.guards = some []) (gl : Gl X x) (hm : X.mg x = some (.ref f))
    (hk : PySem.W.keepIn X.K (.ref f) = true) (ha : PA X (e :: es) t) (hdb : (x == ("__debug__" : Str)) = false) (he : starEach (e :: es) X.env = (false, eval e X.env) :: starEach es X.env)
    (hpl : (backTo pos (starEach es X.env)).any (·.1) = false) : PE X (.Call (.Name x p) (e :: es) [] pos) (fun σ H Q => t σ H fun vs H1 => sp vs H1 Q E0) := by
  refine ⟨fun pins s σ H Q I h => ?_⟩
  refine wpAny_Call_Name_kw (ld_glob I gl hm ?_ hdb)
  refine PySem.W.callWith_K (h₀ := X.base) I.ok.mod.kin hk (thn (ha.run pos pins s σ H _ I h) fun us s1 ⟨vs, H1, I1, rel, q⟩ => ⟨I1.kIn, ?_⟩) he hpl
  exact callG (ks := []) (ws := []) (zs := []) F room gd I1 rel .nil rfl (by rw [List.append_nil]; exact q)
/-- f() -/
theorem pe_callG0 {f : Addr} {sp : Sp} {p pos : Pos} (F : CallF X.prog X.w X.K X.mg X.base k f [] sp) (room : Room k X.A) (gd : X.A.guards = some []) (gl : Gl X x) (hm : X.mg x = some (.ref f))
    (hk : PySem.W.keepIn X.K (.ref f) = true) (hdb : (x == ("__debug__" : Str)) = false) : PE X (.Call (.Name x p) [] [] pos) (fun σ H Q => sp [] H Q E0) := by
  refine ⟨fun pins s σ H Q I h => ?_⟩
  refine wpAny_Call_Name_kw (ld_glob I gl hm ?_ hdb)
  exact PySem.W.callWith_K0 I.kIn hk (callG (us := []) (vs := []) (ks := []) (ws := []) (zs := []) F room gd I .nil .nil rfl h)
/-- f(e, .., k = v, ..) -/
theorem pe_callGK {f : Addr} {ks : List Str} {sp : Sp} {p pos : Pos} {e : Expr} {es : List Expr} {kws : List Keyword} {t tk : TA} (F : CallF X.prog X.w X.K X.mg X.base k f ks sp) (room : Room k X.A) (gd : X.A.guards = some []) (gl : Gl X x) (hm : X.mg x = some (.ref f))
    (hk : PySem.W.keepIn X.K (.ref f) = true) (ha : PA X (e :: es) t) (hkw : PK X kws tk) (hdb : (x == ("__debug__" : Str)) = false) (he : starEach (e :: es) X.env = (false, eval e X.env) :: starEach es X.env)
    (hall : (backToKw pos (keywordEach kws X.env)).all (·.1.isSome) = true) (hks : (backToKw pos (keywordEach kws X.env)).filterMap (·.1) = ks)
    (hpl : ((backTo pos (starEach (e :: es) X.env)).any (·.1) || (backToKw pos (keywordEach kws X.env)).any (·.1.isNone)) = false) :
    PE X (.Call (.Name x p) (e :: es) kws pos) (fun σ H Q => t σ H fun vs H1 => tk σ H1 fun zs H2 => zs.length = ks.length ∧ sp (vs ++ zs) H2 Q E0) := by
  refine ⟨fun pins s σ H Q I h => ?_⟩
  refine wpAny_Call_Name_kw (ld_glob I gl hm ?_ hdb)
  refine PySem.W.callWith_KW (h₀ := X.base) I.ok.mod.kin hk hall (thn (ha.run pos pins s σ H _ I h) fun us s1 ⟨vs, H1, I1, rel, q⟩ => ?_) hpl he
  refine thn (hkw.run pos pins s1 σ H1 _ I1 q) fun ws s2 ⟨zs, H2, I2, rz, hz, q2⟩ => ⟨I2.kIn, ?_⟩
  rw [hks]
  exact callG F room gd I2 rel rz (by rw [← rz.length]; exact hz) q2
/-- f(k = v, ..) -/
theorem pe_callGK0 {f : Addr} {ks : List Str} {sp : Sp} {p pos : Pos} {kws : List Keyword} {tk : TA} (F : CallF X.prog X.w X.K X.mg X.base k f ks sp) (room : Room k X.A) (gd : X.A.guards = some []) (gl : Gl X x) (hm : X.mg x = some (.ref f))
    (hk : PySem.W.keepIn X.K (.ref f) = true) (hkw : PK X kws tk) (hdb : (x == ("__debug__" : Str)) = false)
    (hall : (backToKw pos (keywordEach kws X.env)).all (·.1.isSome) = true) (hks : (backToKw pos (keywordEach kws X.env)).filterMap (·.1) = ks)
    (hpl : ((backTo pos (starEach [] X.env)).any (·.1) || (backToKw pos (keywordEach kws X.env)).any (·.1.isNone)) = false) :
    PE X (.Call (.Name x p) [] kws pos) (fun σ H Q => tk σ H fun zs H2 => zs.length = ks.length ∧ sp zs H2 Q E0) := by
  refine ⟨fun pins s σ H Q I h => ?_⟩
  refine wpAny_Call_Name_kw (ld_glob I gl hm ?_ hdb)
  refine PySem.W.callWith_KW0 (h₀ := X.base) I.ok.mod.kin hk hall (thn (hkw.run pos pins s σ H _ I h) fun ws s2 ⟨zs, H2, I2, rz, hz, q2⟩ => ⟨I2.kIn, ?_⟩) hpl
  rw [hks]
  exact callG (us := []) (vs := []) F room gd I2 .nil rz (by rw [← rz.length]; exact hz) q2
/-! ### methods of own classes -/
/-- what a call of an attribute is, where it has few arguments on its line -/
theorem meth_eval {o : Expr} {m : Str} {apos pos : Pos} {args : List Expr} {kws : List Keyword} {env : PySem.Env} (hbase : attributeBase o m env (eval o env) = eval o env)
    (hfew : methodCallForm (args.length + kws.length) (backTo pos (starEach args env)) (backToKw pos (keywordEach kws env)) = true) (hline : (apos.endLine == pos.line) = true) :
    eval (.Call (.Attribute o m apos) args kws pos) env = (do
      let ov ← eval o env
      standAt apos.atName
      let (f, first) ← holding [ov] (getMethod ov m (do return (← importBound o env).getD true))
      callWith pos f first (backTo pos (starEach args env)) (backToKw pos (keywordEach kws env))) := by
  rw [eval, hbase]
  unfold methodCall calleeOf methodCallPos
  rw [hfew]
  simp only [if_true, hline, Bool.not_true, Bool.false_or, pure_bind]
/-- what is asked of an object whose method is called -/
def MetAt (X : Cx) (k : Nat) (m : Str) (ks : List Str) (x : V) (H : Hp) (sp : Sp) : Prop := ∃ f C a dx fs, CallF X.prog X.w X.K X.mg X.base k f ks sp ∧ Cls X.K C ∧ Meth X.K C m f ∧ x = .ref a ∧ H a = some (.ins C dx fs) ∧ fs.lookup m = none
theorem pe_mcallG {o : Expr} {m : Str} {apos pos : Pos} {e : Expr} {es : List Expr} {kws : List Keyword} {ks : List Str} {ta : TE} {t tk : TA} (room : Room k X.A) (gd : X.A.guards = some []) (ho : PE X o ta) (ha : PA X (e :: es) t) (hkw : PK X kws tk)
    (he : starEach (e :: es) X.env = (false, eval e X.env) :: starEach es X.env)
    (hall : (backToKw pos (keywordEach kws X.env)).all (·.1.isSome) = true) (hks : (backToKw pos (keywordEach kws X.env)).filterMap (·.1) = ks)
    (hpl : ((backTo pos (starEach (e :: es) X.env)).any (·.1) || (backToKw pos (keywordEach kws X.env)).any (·.1.isNone)) = false)
    (hbase : attributeBase o m X.env (eval o X.env) = eval o X.env) (hfew : methodCallForm ((e :: es).length + kws.length) (backTo pos (starEach (e :: es) X.env)) (backToKw pos (keywordEach kws X.env)) = true) (hline : (apos.endLine == pos.line) = true) :
    PE X (.Call (.Attribute o m apos) (e :: es) kws pos) (fun σ H Q => ta σ H fun x H1 => ∃ sp, MetAt X k m ks x H1 sp ∧ t σ H1 fun vs H2 => tk σ H2 fun zs H3 => zs.length = ks.length ∧ sp (x :: (vs ++ zs)) H3 Q E0) := by
  refine ⟨fun pins s σ H Q I h => ?_⟩
  refine PySem.W.methodCall_KW (thn (ho.run pins s σ H _ I h) fun u s1 ⟨x, H1, I1, rx, sp, ⟨f, C, a, dx, fs, F, c, hm, ex, ea, l⟩, q⟩ => ?_) (meth_eval hbase hfew hline)
  subst ex
  obtain rfl : u = Value.ref a := rx
  refine getmeth_ok I1 ea c hm l ?_
  refine PySem.W.callWith_KW (first := [.ref a]) (h₀ := X.base) I.ok.mod.kin hm.kp hall (thn (ha.run pos pins s1 σ H1 _ I1 q) fun us s2 ⟨vs, H2, I2, r, q2⟩ => ?_) hpl he
  refine thn (hkw.run pos pins s2 σ H2 _ I2 q2) fun ws s3 ⟨zs, H3, I3, rz, hz, q3⟩ => ⟨I3.kIn, ?_⟩
  rw [hks]
  exact callG (us := .ref a :: us) (vs := .ref a :: vs) F room gd I3 (.cons rfl r) rz (by rw [← rz.length]; exact hz) q3
theorem pe_mcallG0 {o : Expr} {m : Str} {apos pos : Pos} {kws : List Keyword} {ks : List Str} {ta : TE} {tk : TA} (room : Room k X.A) (gd : X.A.guards = some []) (ho : PE X o ta) (hkw : PK X kws tk)
    (hall : (backToKw pos (keywordEach kws X.env)).all (·.1.isSome) = true) (hks : (backToKw pos (keywordEach kws X.env)).filterMap (·.1) = ks)
    (hpl : ((backTo pos (starEach [] X.env)).any (·.1) || (backToKw pos (keywordEach kws X.env)).any (·.1.isNone)) = false)
    (hbase : attributeBase o m X.env (eval o X.env) = eval o X.env) (hfew : methodCallForm (([] : List Expr).length + kws.length) (backTo pos (starEach [] X.env)) (backToKw pos (keywordEach kws X.env)) = true) (hline : (apos.endLine == pos.line) = true) :
    PE X (.Call (.Attribute o m apos) [] kws pos) (fun σ H Q => ta σ H fun x H1 => ∃ sp, MetAt X k m ks x H1 sp ∧ tk σ H1 fun zs H3 => zs.length = ks.length ∧ sp (x :: zs) H3 Q E0) := by
  refine ⟨fun pins s σ H Q I h => ?_⟩
  refine PySem.W.methodCall_KW (thn (ho.run pins s σ H _ I h) fun u s1 ⟨x, H1, I1, rx, sp, ⟨f, C, a, dx, fs, F, c, hm, ex, ea, l⟩, q⟩ => ?_) (meth_eval hbase hfew hline)
  subst ex
  obtain rfl : u = Value.ref a := rx
  refine getmeth_ok I1 ea c hm l ?_
  refine PySem.W.callWith_KW0 (first := [.ref a]) (h₀ := X.base) I.ok.mod.kin hm.kp hall (thn (hkw.run pos pins s1 σ H1 _ I1 q) fun ws s3 ⟨zs, H3, I3, rz, hz, q3⟩ => ⟨I3.kIn, ?_⟩) hpl
  rw [hks]
  exact callG (us := [.ref a]) (vs := [.ref a]) F room gd I3 (.cons rfl .nil) rz (by rw [← rz.length]; exact hz) q3
/-! ### new instances -/
theorem run_makeG {C f : Addr} {ks : List Str} {sp : Sp} {pins : List (Addr × Obj)} {σ : L2.St} {H : Hp} {s : Shared} {Q : VK} {us ws : List Value} {vs zs : List V} (M : Mk X.K C f) (F : CallF X.prog X.w X.K X.mg X.base k f ks sp) (room : Room (k + 1) X.A) (gd : X.A.guards = some [])
    (I : Inv X pins σ H s) (rel : Vals vs us) (rz : Vals zs ws) (hl : ws.length = ks.length)
    (h : ∀ x dx, H x = none → H dx = none → dx ≠ x → sp (.ref x :: (vs ++ zs)) (upd (upd H dx (.own x)) x (.ins C dx [])) (fun v H2 => v = .non ∧ Q (.ref x) H2) E0) :
    wpAny (model X.prog X.w) X.A (call (.ref C) us (ks.zip ws)) (EP X pins σ Q) X.xe s := by
  have hq := h (s.heap.objs.size + 1) s.heap.objs.size (I.hok.fresh (Nat.le_succ _)) (I.hok.fresh (Nat.le_refl _)) (Nat.ne_of_lt (Nat.lt_succ_self _))
  have I2 := Inv.made (C := C) I
  refine wpAny_call (make_map (f := f) I.kIn M.makes M.init (beq_iff_eq.mp M.fn) (codeAny_mono (F _ X.stack _ _ (Value.ref (s.heap.objs.size + 1) :: us) ws (V.ref (s.heap.objs.size + 1) :: vs) zs _ (room.make C us (ks.zip ws)) gd
    (I2.env0.make C us (ks.zip ws)) (.cons rfl rel) rz hl hq) fun r s' hq' => ?_))
  cases r with
  | error e => exact False.elim hq'
  | ok fl =>
    cases fl with
    | ret u =>
      obtain ⟨v, H', I3, rv, ev, q3⟩ := I2.after hq'
      subst ev
      exact ⟨rv, ⟨V.ref (s.heap.objs.size + 1), H', I3, rfl, q3⟩⟩
    | next => exact False.elim hq'
    | brk => exact False.elim hq'
    | cont => exact False.elim hq'
def tMkG (C : Addr) (ks : List Str) (sp : Sp) (vs zs : List V) (H2 : Hp) (Q : VK) : Prop := zs.length = ks.length ∧ ∀ x dx, H2 x = none → H2 dx = none → dx ≠ x → sp (.ref x :: (vs ++ zs)) (upd (upd H2 dx (.own x)) x (.ins C dx [])) (fun v H3 => v = .non ∧ Q (.ref x) H3) E0
theorem pe_makeG {C f : Addr} {ks : List Str} {sp : Sp} {p pos : Pos} {e : Expr} {es : List Expr} {kws : List Keyword} {t tk : TA} (M : Mk X.K C f) (F : CallF X.prog X.w X.K X.mg X.base k f ks sp) (room : Room (k + 1) X.A) (gd : X.A.guards = some []) (gl : Gl X x) (hm : X.mg x = some (.ref C))
    (ha : PA X (e :: es) t) (hkw : PK X kws tk) (hdb : (x == ("__debug__" : Str)) = false) (he : starEach (e :: es) X.env = (false, eval e X.env) :: starEach es X.env)
    (hall : (backToKw pos (keywordEach kws X.env)).all (·.1.isSome) = true) (hks : (backToKw pos (keywordEach kws X.env)).filterMap (·.1) = ks)
    (hpl : ((backTo pos (starEach (e :: es) X.env)).any (·.1) || (backToKw pos (keywordEach kws X.env)).any (·.1.isNone)) = false) :
    PE X (.Call (.Name x p) (e :: es) kws pos) (fun σ H Q => t σ H fun vs H1 => tk σ H1 fun zs H2 => tMkG C ks sp vs zs H2 Q) := by
  refine ⟨fun pins s σ H Q I h => ?_⟩
  refine wpAny_Call_Name_kw (ld_glob I gl hm ?_ hdb)
  refine PySem.W.callWith_KW (h₀ := X.base) I.ok.mod.kin M.kp hall (thn (ha.run pos pins s σ H _ I h) fun us s1 ⟨vs, H1, I1, rel, q⟩ => ?_) hpl he
  refine thn (hkw.run pos pins s1 σ H1 _ I1 q) fun ws s2 ⟨zs, H2, I2, rz, hz, q2⟩ => ⟨I2.kIn, ?_⟩
  rw [hks]
  exact run_makeG M F room gd I2 rel rz (by rw [← rz.length]; exact hz) q2
theorem pe_makeG0 {C f : Addr} {ks : List Str} {sp : Sp} {p pos : Pos} {kws : List Keyword} {tk : TA} (M : Mk X.K C f) (F : CallF X.prog X.w X.K X.mg X.base k f ks sp) (room : Room (k + 1) X.A) (gd : X.A.guards = some []) (gl : Gl X x) (hm : X.mg x = some (.ref C))
    (hkw : PK X kws tk) (hdb : (x == ("__debug__" : Str)) = false)
    (hall : (backToKw pos (keywordEach kws X.env)).all (·.1.isSome) = true) (hks : (backToKw pos (keywordEach kws X.env)).filterMap (·.1) = ks)
    (hpl : ((backTo pos (starEach [] X.env)).any (·.1) || (backToKw pos (keywordEach kws X.env)).any (·.1.isNone)) = false) :
    PE X (.Call (.Name x p) [] kws pos) (fun σ H Q => tk σ H fun zs H2 => tMkG C ks sp [] zs H2 Q) := by
  refine ⟨fun pins s σ H Q I h => ?_⟩
  refine wpAny_Call_Name_kw (ld_glob I gl hm ?_ hdb)
  refine PySem.W.callWith_KW0 (h₀ := X.base) I.ok.mod.kin M.kp hall (thn (hkw.run pos pins s σ H _ I h) fun ws s2 ⟨zs, H2, I2, rz, hz, q2⟩ => ⟨I2.kIn, ?_⟩) hpl
  rw [hks]
  exact run_makeG (us := []) (vs := []) M F room gd I2 .nil rz (by rw [← rz.length]; exact hz) q2
/-! ### attributes as targets -/
def gFld (K : PySem.W.Frag) (to : TE) (f : Str) : TG := fun v σ H Q => to σ H fun x H1 => ∃ a C dx fs, x = .ref a ∧ H1 a = some (.ins C dx fs) ∧ Cls K C ∧ NoAttr K C f ∧ fs.length < 1000 ∧ Q σ (upd H1 a (.ins C dx (putF f v fs)))
end
end W9

/-! W9j: the core language and its interpreter -/
namespace W9
open PySem L2

/-- targets: slots -/
inductive Tg where
  | name (i : Nat)
  | tup (is : List Nat)
  | nest (i : Nat) (is : List Nat)
mutual
inductive Ex where
  | var (i : Nat)
  | cst (d : D)
  | glob (x : Str)
  | tup (es : Exs)
  | lst (es : Exs)
  | dict0
  | dict (ks : List Str) (es : Exs)
  | bin (op : Operator) (a b : Ex)
  | neg (a : Ex)
  | cmp (op : CmpOp) (a b : Ex)
  | chain (o1 o2 : CmpOp) (a b c : Ex)
  | and (a b : Ex)
  | or (a b : Ex)
  | not (a : Ex)
  | ite (c a b : Ex)
  | idx (a i : Ex)
  | sl (a : Ex) (lo hi : Exo)
  | call (f : Str) (es : Exs)
  | call0 (f : Str)
  | callK (tag f : Str) (ks : List Str) (es kes : Exs)
  | bi (f : Bi) (es : Exs)
  | meth (m : Me) (o : Ex) (es : Exs)
  | lc (own : List Nat) (src : Src) (tg : Tg) (c : Exo) (e : Ex)
  | fld (o : Ex) (f : Str)
  | mcall (tag m : Str) (ks : List Str) (o : Ex) (es kes : Exs)
  | make (tag c : Str) (ks : List Str) (es kes : Exs)
inductive Exs where
  | nil
  | cons (e : Ex) (es : Exs)
inductive Exo where
  | none
  | some (e : Ex)
inductive Src where
  | seq (e : Ex)
  | rng1 (a : Ex)
  | rng2 (a b : Ex)
  | enum (e : Ex)
  | zip (a b : Ex)
end
mutual
inductive Sm where
  | asg (i : Nat) (e : Ex)
  | asgT (is : List Nat) (e : Ex)
  | setIx (o i e : Ex)
  | aug (i : Nat) (op : Operator) (e : Ex)
  | expr (e : Ex)
  | ret (e : Ex)
  | retN
  | ite (c : Ex) (a b : Sms)
  | forS (src : Src) (tg : Tg) (body : Sms)
  | pass
  | brk
  | cont
  | never
  | setFld (o : Ex) (f : Str) (e : Ex)
  | augFld (o : Ex) (f : Str) (op : Operator) (e : Ex)
  | asgF (v : Nat) (fs : List Str) (e : Ex)
  | whil (n : Nat) (c : Ex) (b : Sms)
inductive Sms where
  | nil
  | cons (s : Sm) (r : Sms)
end

/-- the functions by name, the module's constants -/
structure Cts where
  fn : Str → List D → M D
  gl : Str → Option D
  mt : Str → Frm → List D → M D := fun _ _ _ _ => .no
  fl : Str → Str → Bool := fun _ _ => false

def binD : Operator → D → D → M D
  | .Add => addD
  | .Sub => subD
  | .Mult => mulD
  | .FloorDiv => divD
  | .Mod => modD
  | .Pow => powD
  | _ => fun _ _ _ => .no
def cmpD : CmpOp → D → D → M D
  | .Eq => eqD false
  | .NotEq => eqD true
  | .Lt => ltD
  | .LtE => leD
  | .Gt => gtD
  | .GtE => geD
  | .Is => isD false
  | .IsNot => isD true
  | .In => inD false
  | .NotIn => inD true
def negD : D → M D
  | .int i => fun st => .ok (.int (-i)) st
  | _ => fun _ => .no
def truthD : D → M Bool
  | .non => fun st => .ok false st
  | .bl b => fun st => .ok b st
  | .int i => fun st => .ok (i != 0) st
  | .str z => fun st => if z.length ≤ bigN then .ok ((z.length : Int) != 0) st else .no
  | .tup xs => fun st => .ok (!xs.isEmpty) st
  | x => fun st => match itemsL st x with | some xs => .ok (!xs.isEmpty) st | none => .no
def bindT : Tg → D → Env → Store → Option Env
  | .name i, d, env, _ => some (env.set i (some d))
  | .tup is, d, env, st => match d with
    | .tup xs => if xs.length = is.length then some ((is.zip xs).foldl (fun e p => e.set p.1 (some p.2)) env) else none
    | .ob j => match st[j]? with
      | some (.lst xs) => if xs.length = is.length then some ((is.zip xs).foldl (fun e p => e.set p.1 (some p.2)) env) else none
      | _ => none
    | _ => none
  | .nest i is, d, env, st => match d with
    | .tup [x, .tup xs] => if xs.length = is.length then some ((is.zip xs).foldl (fun e p => e.set p.1 (some p.2)) (env.set i (some x))) else none
    | _ => none
def wipeE (env : Env) : List Nat → Env
  | [] => env
  | v :: vs => (wipeE env vs).set v none
/-- the list that a loop goes over stands as it was -/
def gdOk (st : Store) : List (Nat × List D) → Bool
  | [] => true
  | (j, xs) :: r => decide (st[j]? = some (.lst xs)) && gdOk st r
theorem gd_one {st : Store} {j : Nat} {xs : List D} : gdOk st [(j, xs)] = true ↔ st[j]? = some (.lst xs) := by simp [gdOk]
theorem gd_two {st : Store} {j i : Nat} {xs ys : List D} : gdOk st [(j, xs), (i, ys)] = true ↔ st[j]? = some (.lst xs) ∧ st[i]? = some (.lst ys) := by simp [gdOk]
def loopC (gd : List (Nat × List D)) (f : D → M (Option D)) : List D → M (List D)
  | [] => fun st => if gdOk st gd = true then .ok [] st else .no
  | d :: r => fun st => if gdOk st gd = true then (match f d st with
    | .ok o st1 => match loopC gd f r st1 with
      | .ok l st2 => .ok (o.toList ++ l) st2
      | .ex x st2 => .ex x st2
      | .no => .no
    | .ex x st1 => .ex x st1
    | .no => .no) else .no
/-- what a source gives: its items, and which list must stand -/
def seqS (x : D) : M (List D × List (Nat × List D)) := fun st => match x with
  | .tup xs => .ok (xs, []) st
  | .fls xs => .ok (xs, []) st
  | .str z => .ok (z.cps.toList.map fun c => .str ⟨#[c]⟩, []) st
  | .ob j => match st[j]? with
    | some (.lst xs) => .ok (xs, [(j, xs)]) st
    | _ => .no
  | _ => .no
def rngI (lo hi : Int) : List D := (List.range (hi - lo).toNat).map fun i => .int (lo + (i : Nat))
def rngOk (i : Int) : Bool := decide (-(2 ^ 62) ≤ i) && decide (i < 2 ^ 62)
def pairs : Nat → List D → List D
  | _, [] => []
  | n, d :: r => .tup [.int (n : Nat), d] :: pairs (n + 1) r
def enumS (x : D) : M (List D × List (Nat × List D)) := fun st => match x with
  | .fls xs => .ok (pairs 0 xs, []) st
  | .str z => .ok (pairs 0 (z.cps.toList.map fun c => .str ⟨#[c]⟩), []) st
  | .ob j => match st[j]? with
    | some (.lst xs) => .ok (pairs 0 xs, [(j, xs)]) st
    | _ => .no
  | _ => .no
def pairs2 : List D → List D → List D
  | x :: xs, y :: ys => .tup [x, y] :: pairs2 xs ys
  | _, _ => []
/-- zip of two tuples, of two lists -/
def zipS (x y : D) : M (List D × List (Nat × List D)) := fun st => match x, y with
  | .tup xs, .tup ys => .ok (pairs2 xs ys, []) st
  | .ob j, .ob i => match st[j]?, st[i]? with
    | some (.lst xs), some (.lst ys) => .ok (pairs2 xs ys, [(j, xs), (i, ys)]) st
    | _, _ => .no
  | _, _ => .no
/-! instances -/
def insD (st : Store) : D → Option (Str × List (Str × D))
  | .ob j => match st[j]? with | some (.ins c fs) => some (c, fs) | _ => none
  | _ => none
def fldD (fl : Str → Str → Bool) (f : Str) (x : D) : M D := fun st => match insD st x with
  | some (c, fs) => if fl c f = true then (match fs.lookup f with | some d => .ok d st | none => .no) else .no
  | none => .no
def setFldD (fl : Str → Str → Bool) (f : Str) (x d : D) : M Unit := fun st => match x with
  | .ob j => match st[j]? with
    | some (.ins c fs) => if fl c f = true ∧ fs.length < 900 then .ok () (st.set j (.ins c (putFd f d fs))) else .no
    | _ => .no
  | _ => .no
/-- the object is one of the class yet -/
def sameC (c : Str) (x : D) : M Unit := fun st => match insD st x with
  | some (c2, _) => if c2 = c then .ok () st else .no
  | none => .no
def setFlds (fl : Str → Str → Bool) (x : D) : List Str → List D → M Unit
  | [], [] => fun st => .ok () st
  | f :: fs, d :: ds => M.bind (setFldD fl f x d) fun _ => setFlds fl x fs ds
  | _, _ => fun _ => .no
/-- a new instance, filled by g -/
def mkD (c : Str) (g : List D → M D) (ds : List D) : M D := fun st => match g (.ob st.length :: ds) (st ++ [.ins c []]) with
  | .ok .non st1 => .ok (.ob st.length) st1
  | _ => .no
/-- how a statement ends -/
inductive Fl where
  | nx (env : Env)
  | ret (d : D)
  | bk (env : Env)
  | ct (env : Env)
/-- a comprehension's turn -/
def compF (t : Tg) (own : List Nat) (env : Env) (mt : Env → M Bool) (me : Env → M D) : D → M (Option D) := fun d st => match bindT t d (wipeE env own) st with
  | some env1 => match mt env1 st with
    | .ok true st1 => (match me env1 st1 with | .ok d st2 => .ok (some d) st2 | .ex x st2 => .ex x st2 | .no => .no)
    | .ok false st1 => .ok none st1
    | .ex x st1 => .ex x st1
    | .no => .no
  | none => .no
/-- a for's turn -/
def forF (t : Tg) (mb : Env → M Fl) : D → Env → M Fl := fun d e st => match bindT t d e st with
  | some e1 => mb e1 st
  | none => .no
abbrev EvM := (Env → M D) × (Env → M Bool)
/-- a value whose test is its truth -/
@[reducible] def plain (v : Env → M D) : EvM := (v, fun env => M.bind (v env) fun x => truthD x)
/-- a value that is a truth -/
@[reducible] def boolE (v : Env → M D) : EvM := (v, fun env => M.bind (v env) fun x => match x with | .bl b => fun st => .ok b st | _ => fun _ => .no)
mutual
def bo (C : Cts) : Ex → EvM
  | .var i => plain fun env st => match env[i]? with | some (some d) => .ok d st | _ => .no
  | .cst d => plain fun _ st => .ok d st
  | .glob x => plain fun _ st => match C.gl x with | some d => .ok d st | none => .no
  | .tup es => plain fun env => M.bind (evs C es env) fun ds st => if ds.length ≤ bigN then .ok (.tup ds) st else .no
  | .lst es => plain fun env => M.bind (evs C es env) fun ds st => if ds.length ≤ bigN then .ok (.ob st.length) (st ++ [.lst ds]) else .no
  | .dict0 => plain fun _ st => .ok (.ob st.length) (st ++ [.dct []])
  | .dict ks es => plain fun env => M.bind (evs C es env) fun ds st => if ks.length = ds.length ∧ ks.length ≤ 15 then .ok (.ob st.length) (st ++ [.dct ((ks.map D.str).zip ds)]) else .no
  | .bin op a b => plain fun env => M.bind ((bo C a).1 env) fun x => M.bind ((bo C b).1 env) fun y => binD op x y
  | .neg a => plain fun env => M.bind ((bo C a).1 env) fun x => negD x
  | .cmp op a b => boolE fun env => M.bind ((bo C a).1 env) fun x => M.bind ((bo C b).1 env) fun y => cmpD op x y
  | .chain o1 o2 a b c => boolE fun env => M.bind ((bo C a).1 env) fun x => M.bind ((bo C b).1 env) fun y => M.bind (cmpD o1 x y) fun r => match r with
    | .bl true => M.bind ((bo C c).1 env) fun z => cmpD o2 y z
    | .bl false => fun st => .ok (.bl false) st
    | _ => fun _ => .no
  | .and a b => (fun env => M.bind ((bo C a).1 env) fun x => match x with
      | .bl true => (bo C b).1 env
      | .bl false => fun st => .ok (.bl false) st
      | _ => fun _ => .no,
    fun env => M.bind ((bo C a).2 env) fun r => if r = true then (bo C b).2 env else fun st => .ok false st)
  | .or a b => (fun env => M.bind ((bo C a).1 env) fun x => match x with
      | .bl false => (bo C b).1 env
      | .bl true => fun st => .ok (.bl true) st
      | _ => fun _ => .no,
    fun env => M.bind ((bo C a).2 env) fun r => if r = true then fun st => .ok true st else (bo C b).2 env)
  | .not a => (fun env => M.bind ((bo C a).1 env) fun x => match x with
      | .bl b => fun st => .ok (.bl (!b)) st
      | _ => fun _ => .no,
    fun env => M.bind ((bo C a).2 env) fun r st => .ok (!r) st)
  | .ite c a b => (fun env => M.bind ((bo C c).2 env) fun r => if r = true then (bo C a).1 env else (bo C b).1 env,
    fun env => M.bind ((bo C c).2 env) fun r => if r = true then (bo C a).2 env else (bo C b).2 env)
  | .idx a i => plain fun env => M.bind ((bo C a).1 env) fun x => M.bind ((bo C i).1 env) fun y => ixD x y
  | .sl a lo hi => plain fun env => M.bind ((bo C a).1 env) fun x => M.bind (evo C lo env) fun l => M.bind (evo C hi env) fun h => slD x l h
  | .call f es => plain fun env => M.bind (evs C es env) fun ds => C.fn f ds
  | .call0 f => plain fun _ => C.fn f []
  | .callK tag _ _ es kes => plain fun env => M.bind (evs C es env) fun ds => M.bind (evs C kes env) fun zs => C.fn tag (ds ++ zs)
  | .bi f es => plain fun env => M.bind (evs C es env) fun ds => biD f ds
  | .meth m o es => plain fun env => M.bind ((bo C o).1 env) fun x st => match tyD st x with
    | some T => M.bind (evs C es env) (fun ds => meD m T x ds) st
    | none => .no
  | .fld o f => plain fun env => M.bind ((bo C o).1 env) fun x => fldD C.fl f x
  | .mcall tag m ks o es kes => plain fun env => M.bind ((bo C o).1 env) fun x st => match insD st x with
    | some (c, fs) => if (fs.lookup m).isNone = true then M.bind (evs C es env) (fun ds => M.bind (evs C kes env) fun zs => C.mt (c ++ tag) ⟨m, ks, ds.length + zs.length + 1, some c⟩ (x :: (ds ++ zs))) st else .no
    | none => .no
  | .make tag c ks es kes => plain fun env => M.bind (evs C es env) fun ds => M.bind (evs C kes env) fun zs => mkD c (C.mt (c ++ tag) ⟨"__init__", ks, ds.length + zs.length + 1, some c⟩) (ds ++ zs)
  | .lc own src tg c e => plain fun env => M.bind (srcE C src env) fun p => M.bind (loopC p.2 (compF tg own env (tsto C c) (bo C e).1) p.1) fun ds st => if ds.length ≤ bigN then .ok (.ob st.length) (st ++ [.lst ds]) else .no
def evs (C : Cts) : Exs → Env → M (List D)
  | .nil => fun _ st => .ok [] st
  | .cons e es => fun env => M.bind ((bo C e).1 env) fun d => M.bind (evs C es env) fun ds st => .ok (d :: ds) st
def evo (C : Cts) : Exo → Env → M (Option Int)
  | .none => fun _ st => .ok none st
  | .some e => fun env => M.bind ((bo C e).1 env) fun d => match d with | .int i => fun st => .ok (some i) st | _ => fun _ => .no
def tsto (C : Cts) : Exo → Env → M Bool
  | .none => fun _ st => .ok true st
  | .some e => (bo C e).2
def srcE (C : Cts) : Src → Env → M (List D × List (Nat × List D))
  | .seq e => fun env => M.bind ((bo C e).1 env) fun x => seqS x
  | .rng1 a => fun env => M.bind ((bo C a).1 env) fun x => match x with
    | .int n => fun st => if rngOk n = true then .ok (rngI 0 n, []) st else .no
    | _ => fun _ => .no
  | .rng2 a b => fun env => M.bind ((bo C a).1 env) fun x => M.bind ((bo C b).1 env) fun y => match x, y with
    | .int l, .int h => fun st => if rngOk l = true ∧ rngOk h = true then .ok (rngI l h, []) st else .no
    | _, _ => fun _ => .no
  | .enum e => fun env => M.bind ((bo C e).1 env) fun x => enumS x
  | .zip a b => fun env => M.bind ((bo C a).1 env) fun x => M.bind ((bo C b).1 env) fun y => zipS x y
end
abbrev ev (C : Cts) (e : Ex) : Env → M D := (bo C e).1
abbrev tst (C : Cts) (e : Ex) : Env → M Bool := (bo C e).2
def setD (o i d : D) : M Unit := fun st => match o with
  | .ob j => match st[j]? with
    | some (.lst xs) => match i with
      | .int k => match ixN xs.length k with
        | some n => .ok () (st.set j (.lst (xs.set n d)))
        | none => .no
      | _ => .no
    | some (.dct kvs) => if kindOk kvs i = true ∧ kvs.length < bigN then .ok () (st.set j (.dct (putKv kvs i d))) else .no
    | _ => .no
  | _ => .no
def augD : Operator → D → D → M D
  | .Add, .int i, .int j => fun st => .ok (.int (i + j)) st
  | .Sub, .int i, .int j => fun st => .ok (.int (i - j)) st
  | _, _, _ => fun _ => .no
/-- the turns of a for -/
def loopF (gd : List (Nat × List D)) (f : D → Env → M Fl) : List D → Env → M Fl
  | [] => fun env st => if gdOk st gd = true then .ok (.nx env) st else .no
  | d :: r => fun env st => if gdOk st gd = true then (match f d env st with
    | .ok (.nx e1) st1 => loopF gd f r e1 st1
    | .ok (.ct e1) st1 => loopF gd f r e1 st1
    | .ok (.bk e1) st1 => .ok (.nx e1) st1
    | .ok (.ret v) st1 => .ok (.ret v) st1
    | .ex x st1 => .ex x st1
    | .no => .no) else .no
/-- the turns of a while -/
def loopW (c : Env → M Bool) (b : Env → M Fl) : Nat → Env → M Fl
  | 0 => fun _ _ => .no
  | n + 1 => fun env => M.bind (c env) fun r => if r = true then M.bind (b env) (fun fl => match fl with
    | .nx e1 => loopW c b n e1
    | .ct e1 => loopW c b n e1
    | .bk e1 => fun st => .ok (.nx e1) st
    | .ret v => fun st => .ok (.ret v) st) else fun st => .ok (.nx env) st
mutual
def run (C : Cts) : Sm → Env → M Fl
  | .asg i e => fun env => M.bind (ev C e env) fun d st => .ok (.nx (env.set i (some d))) st
  | .asgT is e => fun env => M.bind (ev C e env) fun d st => match bindT (.tup is) d env st with | some env1 => .ok (.nx env1) st | none => .no
  | .setIx o i e => fun env => M.bind (ev C e env) fun d => M.bind (ev C o env) fun x => M.bind (ev C i env) fun y => M.bind (setD x y d) fun _ st => .ok (.nx env) st
  | .aug i op e => fun env st => match env[i]? with
    | some (some x) => M.bind (ev C e env) (fun y => M.bind (augD op x y) fun z st => .ok (.nx (env.set i (some z))) st) st
    | _ => .no
  | .expr e => fun env => M.bind (ev C e env) fun _ st => .ok (.nx env) st
  | .ret e => fun env => M.bind (ev C e env) fun d st => .ok (.ret d) st
  | .retN => fun _ st => .ok (.ret .non) st
  | .ite c a b => fun env => M.bind (tst C c env) fun r => if r = true then runs C a env else runs C b env
  | .forS src tg body => fun env => M.bind (srcE C src env) fun p => loopF p.2 (forF tg (runs C body)) p.1 env
  | .pass => fun env st => .ok (.nx env) st
  | .brk => fun env st => .ok (.bk env) st
  | .cont => fun env st => .ok (.ct env) st
  | .never => fun _ _ => .no
  | .setFld o f e => fun env => M.bind (ev C e env) fun d => M.bind (ev C o env) fun x => M.bind (setFldD C.fl f x d) fun _ st => .ok (.nx env) st
  | .augFld o f op e => fun env => M.bind (ev C o env) fun x st => match insD st x with
    | some (c, _) => M.bind (fldD C.fl f x) (fun v => M.bind (ev C e env) fun y => M.bind (augD op v y) fun z => M.bind (sameC c x) fun _ => M.bind (setFldD C.fl f x z) fun _ st => .ok (.nx env) st) st
    | none => .no
  | .asgF v fs e => fun env => M.bind (ev C e env) fun d st => match env[v]?, d with
    | some (some x), .tup ds => M.bind (setFlds C.fl x fs ds) (fun _ st => .ok (.nx env) st) st
    | _, _ => .no
  | .whil n c b => fun env => loopW (tst C c) (runs C b) n env
def runs (C : Cts) : Sms → Env → M Fl
  | .nil => fun env st => .ok (.nx env) st
  | .cons s r => fun env => M.bind (run C s env) fun fl => match fl with
    | .nx e1 => runs C r e1
    | .ret d => fun st => .ok (.ret d) st
    | .bk e1 => fun st => .ok (.bk e1) st
    | .ct e1 => fun st => .ok (.ct e1) st
end
/-- a def: how many names, its body -/
def callDef (C : Cts) (nN : Nat) (body : Sms) : List D → M D := fun ds => M.bind (runs C body (ds.map some ++ List.replicate (nN - ds.length) none)) fun fl => match fl with
  | .ret d => fun st => .ok d st
  | .nx _ => fun st => .ok .non st
  | _ => fun _ => .no
end W9

/-! W9k: one construct after another: what the interpreter tells is what runs -/
namespace W9
open PySem L2
theorem bind_ok {α β : Type} {m : M α} {f : α → M β} {st st2 : Store} {b : β} (h : M.bind m f st = .ok b st2) : ∃ a st1, m st = .ok a st1 ∧ f a st1 = .ok b st2 := by
  unfold M.bind at h
  split at h
  · rename_i a st1 e; exact ⟨a, st1, e, h⟩
  · cases h
  · cases h
section
variable {X : Cx}
/-! ### the widest rule of an operation -/
theorem opr_max {f : Value → Value → Sem Value} : OpR X f (fun x y H Q => ∃ r, OpR X f r ∧ r x y H Q) := by
  intro pins s σ H x y v u Q I rx ry h
  obtain ⟨r, h1, h2⟩ := h
  exact h1 pins s σ H x y v u Q I rx ry h2
theorem callr_max {f : Value} : CallR X f (fun xs H Q => ∃ r, CallR X f r ∧ r xs H Q) := by
  intro pins s σ H xs us Q I rs h
  obtain ⟨r, h1, h2⟩ := h
  exact h1 pins s σ H xs us Q I rs h2
theorem mtr_max {id : String} : MtR X id (fun x xs H Q => ∃ r, MtR X id r ∧ r x xs H Q) := by
  intro pins s σ H x xs v us Q I rx rs h
  obtain ⟨r, h1, h2⟩ := h
  exact h1 pins s σ H x xs v us Q I rx rs h2
theorem ixr_max : IxR X (fun x y H Q => ∃ r, IxR X r ∧ r x y H Q) := by
  intro value slice pins s σ H x y v u Q I rx ry h hs
  obtain ⟨r, h1, h2⟩ := h
  exact h1 value slice pins s σ H x y v u Q I rx ry h2 hs
theorem slr_max : SlR X (fun x lo hi H Q => ∃ r, SlR X r ∧ r x lo hi H Q) := by
  intro pins s σ H x v vl vu lo hi sl Q I rx hs pl pu h
  obtain ⟨r, h1, h2⟩ := h
  exact h1 pins s σ H x v vl vu lo hi sl Q I rx hs pl pu h2

/-! ### expressions -/
variable {a b c : Expr} {ma mb mc : Env → M D} {pos : Pos}
theorem snd_two (ha : SndE X a ma) (hb : SndE X b mb) {ρ : List Addr} {st st1 st2 : Store} {env : Env} {σ : L2.St} {H : Hp} {x y : D} (S : Sim X.K ρ st H) (R : EnvR X.K ρ H env σ) (e1 : ma env st = .ok x st1) (e2 : mb env st1 = .ok y st2)
    {Q : V → V → Hp → Prop} (h : ∀ ρ' H' v w, Grow ρ H ρ' H' → Sim X.K ρ' st2 H' → Rep X.K ρ' H' x v → Rep X.K ρ' H' y w → Q v w H') : WE X a σ H fun v H1 => WE X b σ H1 fun w H2 => Q v w H2 :=
  ha ρ st env σ H x st1 S R e1 _ fun ρ1 H1 v g1 S1 r1 => hb ρ1 st1 env σ H1 y st2 S1 (R.grow g1) e2 _ fun ρ2 H2 w g2 S2 r2 => h ρ2 H2 v w (g1.trans g2) S2 (r1.grow g2) r2
theorem snd_bin {op : Operator} {g : D → D → M D} (ho : OkOp X (binaryOp op) g) (ha : SndE X a ma) (hb : SndE X b mb) : SndE X (.BinOp a op b pos) (fun env => M.bind (ma env) fun x => M.bind (mb env) fun y => g x y) := by
  intro ρ st env σ H d st' S R e Q P
  obtain ⟨x, st1, e1, e⟩ := bind_ok e
  obtain ⟨y, st2, e2, e3⟩ := bind_ok e
  refine we_of (pe_op opr_max pe_we pe_we) (snd_two ha hb S R e1 e2 fun ρ' H' v w g' S' r1 r2 => ?_)
  obtain ⟨r, h1, h2⟩ := ho ρ' st2 H' x y v w d st' S' r1 r2 e3
  exact ⟨r, h1, h2 Q (P.grow g')⟩
theorem snd_cmp {op : CmpOp} {g : D → D → M D} (ho : OkOp X (compareOp op) g) (hm : behindInMarks op b = false) (ha : SndE X a ma) (hb : SndE X b mb) : SndE X (.Compare a [op] [b] pos) (fun env => M.bind (ma env) fun x => M.bind (mb env) fun y => g x y) := by
  intro ρ st env σ H d st' S R e Q P
  obtain ⟨x, st1, e1, e⟩ := bind_ok e
  obtain ⟨y, st2, e2, e3⟩ := bind_ok e
  refine we_of (pe_cmpR opr_max pe_we pe_we hm) (snd_two ha hb S R e1 e2 fun ρ' H' v w g' S' r1 r2 => ?_)
  obtain ⟨r, h1, h2⟩ := ho ρ' st2 H' x y v w d st' S' r1 r2 e3
  exact ⟨r, h1, h2 Q (P.grow g')⟩
theorem rep_bl {K : PySem.W.Frag} {ρ : List Addr} {H : Hp} {b : Bool} {v : V} (r : Rep K ρ H (.bl b) v) : v = .bl b := by cases r; rfl
theorem rep_int {K : PySem.W.Frag} {ρ : List Addr} {H : Hp} {b : Int} {v : V} (r : Rep K ρ H (.int b) v) : v = .int b := by cases r; rfl
theorem rep_str {K : PySem.W.Frag} {ρ : List Addr} {H : Hp} {b : Str} {v : V} (r : Rep K ρ H (.str b) v) : v = .str b := by cases r; rfl
/-- a comparison as a test -/
theorem sndT_cmp {op : CmpOp} {g : D → D → M D} (ho : OkOp X (compareOp op) g) (hm : behindInMarks op b = false) (ha : SndE X a ma) (hb : SndE X b mb) :
    SndT X (.Compare a [op] [b] pos) (fun env => M.bind (M.bind (ma env) fun x => M.bind (mb env) fun y => g x y) fun x => match x with | .bl b => fun st => .ok b st | _ => fun _ => .no) := by
  intro ρ st env σ H k st' S R e Q P
  obtain ⟨z, st3, e, e4⟩ := bind_ok e
  obtain ⟨x, st1, e1, e⟩ := bind_ok e
  obtain ⟨y, st2, e2, e3⟩ := bind_ok e
  cases z with
  | bl k' =>
    cases e4
    refine wt_of (pt_cmpR opr_max pe_we pe_we hm) (snd_two ha hb S R e1 e2 fun ρ' H' v w g' S' r1 r2 => ?_)
    obtain ⟨r, h1, h2⟩ := ho ρ' st2 H' x y v w _ _ S' r1 r2 e3
    exact ⟨r, h1, h2 _ fun ρ2 H2 u g2 S2 ru => ⟨k, rep_bl ru, P ρ2 H2 (g'.trans g2) S2⟩⟩
  | _ => cases e4
theorem snd_three (ha : SndE X a ma) (hb : SndE X b mb) {o1 : CmpOp} {g1 : D → D → M D} (ho : OkOp X (compareOp o1) g1) {ρ : List Addr} {st st1 st2 st3 : Store} {env : Env} {σ : L2.St} {H : Hp} {x y : D} {k : Bool} (S : Sim X.K ρ st H) (R : EnvR X.K ρ H env σ)
    (e1 : ma env st = .ok x st1) (e2 : mb env st1 = .ok y st2) (e3 : g1 x y st2 = .ok (.bl k) st3) {Q : V → V → V → Hp → Prop}
    (h : ∀ ρ' H' w, Grow ρ H ρ' H' → Sim X.K ρ' st3 H' → Rep X.K ρ' H' y w → ∀ v, Q v w (.bl k) H') :
    WE X a σ H fun v H1 => WE X b σ H1 fun w H2 => ∃ r, OpR X (compareOp o1) r ∧ r v w H2 fun z H3 => Q v w z H3 :=
  snd_two ha hb S R e1 e2 fun ρ' H' v w g' S' r1 r2 => by
    obtain ⟨r, h1, h2⟩ := ho ρ' st2 H' x y v w _ st3 S' r1 r2 e3
    refine ⟨r, h1, h2 _ fun ρ2 H2 u g2 S2 ru => ?_⟩
    cases ru
    exact h ρ2 H2 w (g'.trans g2) S2 (r2.grow g2) v
theorem chain_run {o1 o2 : CmpOp} {g1 g2 : D → D → M D} (ho : OkOp X (compareOp o1) g1) (ho2 : OkOp X (compareOp o2) g2) (ha : SndE X a ma) (hb : SndE X b mb) (hc : SndE X c mc) {ρ : List Addr} {st st' : Store} {env : Env} {σ : L2.St} {H : Hp} {d : D} (S : Sim X.K ρ st H) (R : EnvR X.K ρ H env σ)
    (e : (M.bind (ma env) fun x => M.bind (mb env) fun y => M.bind (g1 x y) fun r => match r with
    | .bl true => M.bind (mc env) fun z => g2 y z
    | .bl false => fun st => .ok (.bl false) st
    | _ => fun _ => .no) st = .ok d st') {Q : VK} (P : Post X.K ρ H st' d Q) :
    tChain (fun x y H Q => ∃ r, OpR X (compareOp o1) r ∧ r x y H Q) (fun x y H Q => ∃ r, OpR X (compareOp o2) r ∧ r x y H Q) (WE X a) (WE X b) (WE X c) σ H Q := by
  obtain ⟨x, st1, e1, e⟩ := bind_ok e
  obtain ⟨y, st2, e2, e⟩ := bind_ok e
  obtain ⟨z, st3, e3, e⟩ := bind_ok e
  cases z with
  | bl k =>
    refine snd_three ha hb ho S R e1 e2 e3 fun ρ' H' w g' S' rw' v => ⟨k, rfl, ?_⟩
    cases k with
    | true =>
      rw [if_pos rfl]
      obtain ⟨u, st4, e4, e5⟩ := bind_ok e
      refine hc ρ' st3 env σ H' u st4 S' (R.grow g') e4 _ fun ρ2 H2 t g2' S2 r2 => ?_
      obtain ⟨r, h1, h2⟩ := ho2 ρ2 st4 H2 y u w t d st' S2 (rw'.grow g2') r2 e5
      exact ⟨r, h1, h2 Q (P.grow (g'.trans g2'))⟩
    | false =>
      rw [if_neg (by decide)]
      cases e
      exact P ρ' H' _ g' S' (.bl false)
  | _ => cases e
theorem snd_chain {o1 o2 : CmpOp} {g1 g2 : D → D → M D} (ho : OkOp X (compareOp o1) g1) (ho2 : OkOp X (compareOp o2) g2) (hm2 : lastMarks [o1, o2] [b, c] = false) (ha : SndE X a ma) (hb : SndE X b mb) (hc : SndE X c mc) :
    SndE X (.Compare a [o1, o2] [b, c] pos) (fun env => M.bind (ma env) fun x => M.bind (mb env) fun y => M.bind (g1 x y) fun r => match r with
    | .bl true => M.bind (mc env) fun z => g2 y z
    | .bl false => fun st => .ok (.bl false) st
    | _ => fun _ => .no) := fun ρ st env σ H d st' S R e Q P => we_of (pe_chain opr_max opr_max pe_we pe_we pe_we hm2) (chain_run ho ho2 ha hb hc S R e P)
theorem sndT_chain {o1 o2 : CmpOp} {g1 g2 : D → D → M D} (ho : OkOp X (compareOp o1) g1) (ho2 : OkOp X (compareOp o2) g2) (hm2 : lastMarks [o1, o2] [b, c] = false) (ha : SndE X a ma) (hb : SndE X b mb) (hc : SndE X c mc) :
    SndT X (.Compare a [o1, o2] [b, c] pos) (fun env => M.bind (M.bind (ma env) fun x => M.bind (mb env) fun y => M.bind (g1 x y) fun r => match r with
    | .bl true => M.bind (mc env) fun z => g2 y z
    | .bl false => fun st => .ok (.bl false) st
    | _ => fun _ => .no) fun x => match x with | .bl b => fun st => .ok b st | _ => fun _ => .no) := by
  intro ρ st env σ H k st' S R e Q P
  obtain ⟨z, st3, e, e4⟩ := bind_ok e
  cases z with
  | bl k' =>
    cases e4
    exact wt_of (pt_chain opr_max opr_max pe_we pe_we pe_we hm2) (chain_run ho ho2 ha hb hc S R e fun ρ2 H2 u g2 S2 ru => ⟨k, rep_bl ru, P ρ2 H2 g2 S2⟩)
  | _ => cases e4
/-! and, or, not -/
def WTw (X : Cx) (e : Expr) (σ : L2.St) (H : Hp) (Q : Bool → Hp → Prop) : Prop := ∀ (whole : Sem Value) (pins : List (Addr × Obj)) (s : Shared), Inv X pins σ H s → wpAny (model X.prog X.w) X.A (isTrue e X.env whole) (TP X pins σ Q) X.xe s
theorem pw_wt {e : Expr} : PW X e (WTw X e) := ⟨fun whole pins s σ H Q I h => h whole pins s I⟩
theorem wtw_of {e : Expr} {t : TT} {σ : L2.St} {H : Hp} {Q : Bool → Hp → Prop} (p : PW X e t) (h : t σ H Q) : WTw X e σ H Q := fun whole pins s I => p.run whole pins s σ H Q I h
def SndW (X : Cx) (e : Expr) (m : Env → M Bool) : Prop := ∀ ρ st env σ H b st', Sim X.K ρ st H → EnvR X.K ρ H env σ → m env st = .ok b st' → ∀ Q, PostB X.K ρ H st' b Q → WTw X e σ H Q
theorem SndW.t {e : Expr} {m : Env → M Bool} (h : SndW X e m) : SndT X e m := fun ρ st env σ H b st' S R e Q P pins s I => h ρ st env σ H b st' S R e Q P _ pins s I
variable {ta tb : Env → M Bool} {rest : List Expr}
theorem PostB.grow {K : PySem.W.Frag} {ρ ρ1 : List Addr} {H H1 : Hp} {st : Store} {b : Bool} {Q : Bool → Hp → Prop} (p : PostB K ρ H st b Q) (g : Grow ρ H ρ1 H1) : PostB K ρ1 H1 st b Q := fun ρ' H' g' S => p ρ' H' (g.trans g') S
theorem sndW_one_and (h : SndT X a ta) : SndW X (.BoolOp .And [a] pos) ta := fun ρ st env σ H k st' S R e Q P => wtw_of (pw_and1 pt_wt) (h ρ st env σ H k st' S R e Q P)
theorem sndW_one_or (h : SndT X a ta) : SndW X (.BoolOp .Or [a] pos) ta := fun ρ st env σ H k st' S R e Q P => wtw_of (pw_or1 pt_wt) (h ρ st env σ H k st' S R e Q P)
theorem sndW_and (ha : SndT X a ta) (hb : SndW X (.BoolOp .And (b :: rest) pos) tb) : SndW X (.BoolOp .And (a :: b :: rest) pos) (fun env => M.bind (ta env) fun r => if r = true then tb env else fun st => .ok false st) := by
  intro ρ st env σ H k st' S R e Q P
  obtain ⟨r, st1, e1, e2⟩ := bind_ok e
  refine wtw_of (pw_and pt_wt pw_wt) (ha ρ st env σ H r st1 S R e1 _ fun ρ1 H1 g1 S1 => ?_)
  cases r with
  | true => rw [if_pos rfl] at e2 ⊢; exact hb ρ1 st1 env σ H1 k st' S1 (R.grow g1) e2 Q (P.grow g1)
  | false => rw [if_neg (by decide)] at e2 ⊢; cases e2; exact P ρ1 H1 g1 S1
theorem sndW_or (ha : SndT X a ta) (hb : SndW X (.BoolOp .Or (b :: rest) pos) tb) : SndW X (.BoolOp .Or (a :: b :: rest) pos) (fun env => M.bind (ta env) fun r => if r = true then fun st => .ok true st else tb env) := by
  intro ρ st env σ H k st' S R e Q P
  obtain ⟨r, st1, e1, e2⟩ := bind_ok e
  refine wtw_of (pw_or pt_wt pw_wt) (ha ρ st env σ H r st1 S R e1 _ fun ρ1 H1 g1 S1 => ?_)
  cases r with
  | true => rw [if_pos rfl] at e2 ⊢; cases e2; exact P ρ1 H1 g1 S1
  | false => rw [if_neg (by decide)] at e2 ⊢; exact hb ρ1 st1 env σ H1 k st' S1 (R.grow g1) e2 Q (P.grow g1)
theorem sndT_not (ha : SndT X a ta) : SndT X (.UnaryOp .Not a pos) (fun env => M.bind (ta env) fun r st => .ok (!r) st) := by
  intro ρ st env σ H k st' S R e Q P
  obtain ⟨r, st1, e1, e2⟩ := bind_ok e
  cases e2
  exact wt_of (pt_not pt_wt) (ha ρ st env σ H r _ S R e1 _ fun ρ1 H1 g1 S1 => P ρ1 H1 g1 S1)
theorem snd_one {op : BoolOp} (h : SndE X a ma) : SndE X (.BoolOp op [a] pos) ma := fun ρ st env σ H d st' S R e Q P => we_of (pe_one pe_we) (h ρ st env σ H d st' S R e Q P)
theorem snd_and (ha : SndE X a ma) (hb : SndE X (.BoolOp .And (b :: rest) pos) mb) : SndE X (.BoolOp .And (a :: b :: rest) pos) (fun env => M.bind (ma env) fun x => match x with
      | .bl true => mb env
      | .bl false => fun st => .ok (.bl false) st
      | _ => fun _ => .no) := by
  intro ρ st env σ H d st' S R e Q P
  obtain ⟨x, st1, e1, e2⟩ := bind_ok e
  cases x with
  | bl k =>
    refine we_of (pe_and pe_we pe_we) (ha ρ st env σ H _ st1 S R e1 _ fun ρ1 H1 v g1 S1 r1 => ⟨k, rep_bl r1, ?_⟩)
    cases k with
    | true => rw [if_pos rfl]; exact hb ρ1 st1 env σ H1 d st' S1 (R.grow g1) e2 Q (P.grow g1)
    | false => rw [if_neg (by decide)]; cases e2; exact P ρ1 H1 _ g1 S1 (.bl false)
  | _ => cases e2
theorem snd_or (ha : SndE X a ma) (hb : SndE X (.BoolOp .Or (b :: rest) pos) mb) : SndE X (.BoolOp .Or (a :: b :: rest) pos) (fun env => M.bind (ma env) fun x => match x with
      | .bl false => mb env
      | .bl true => fun st => .ok (.bl true) st
      | _ => fun _ => .no) := by
  intro ρ st env σ H d st' S R e Q P
  obtain ⟨x, st1, e1, e2⟩ := bind_ok e
  cases x with
  | bl k =>
    refine we_of (pe_or pe_we pe_we) (ha ρ st env σ H _ st1 S R e1 _ fun ρ1 H1 v g1 S1 r1 => ⟨k, rep_bl r1, ?_⟩)
    cases k with
    | false => rw [if_neg (by decide)]; exact hb ρ1 st1 env σ H1 d st' S1 (R.grow g1) e2 Q (P.grow g1)
    | true => rw [if_pos rfl]; cases e2; exact P ρ1 H1 _ g1 S1 (.bl true)
  | _ => cases e2
theorem snd_not (ha : SndE X a ma) : SndE X (.UnaryOp .Not a pos) (fun env => M.bind (ma env) fun x => match x with
      | .bl b => fun st => .ok (.bl (!b)) st
      | _ => fun _ => .no) := by
  intro ρ st env σ H d st' S R e Q P
  obtain ⟨x, st1, e1, e2⟩ := bind_ok e
  cases x with
  | bl k =>
    cases e2
    exact we_of (pe_not pe_we) (ha ρ st env σ H _ _ S R e1 _ fun ρ1 H1 v g1 S1 r1 => ⟨k, rep_bl r1, P ρ1 H1 _ g1 S1 (.bl _)⟩)
  | _ => cases e2
theorem snd_neg (ha : SndE X a ma) : SndE X (.UnaryOp .USub a pos) (fun env => M.bind (ma env) fun x => negD x) := by
  intro ρ st env σ H d st' S R e Q P
  obtain ⟨x, st1, e1, e2⟩ := bind_ok e
  cases x with
  | int k =>
    cases e2
    exact we_of (pe_un un_neg pe_we) (ha ρ st env σ H _ _ S R e1 _ fun ρ1 H1 v g1 S1 r1 => ⟨k, rep_int r1, P ρ1 H1 _ g1 S1 (.int _)⟩)
  | _ => cases e2
theorem snd_ite (hc : SndT X c tb) (ha : SndE X a ma) (hb : SndE X b mb) : SndE X (.IfExp c a b pos) (fun env => M.bind (tb env) fun r => if r = true then ma env else mb env) := by
  intro ρ st env σ H d st' S R e Q P
  obtain ⟨r, st1, e1, e2⟩ := bind_ok e
  refine we_of (pe_ifExp pt_wt pe_we pe_we) (hc ρ st env σ H r st1 S R e1 _ fun ρ1 H1 g1 S1 => ?_)
  cases r with
  | true => rw [if_pos rfl] at e2 ⊢; exact ha ρ1 st1 env σ H1 d st' S1 (R.grow g1) e2 Q (P.grow g1)
  | false => rw [if_neg (by decide)] at e2 ⊢; exact hb ρ1 st1 env σ H1 d st' S1 (R.grow g1) e2 Q (P.grow g1)
/-- truth of any value -/
theorem tru_rep {ρ : List Addr} {st st' : Store} {H : Hp} {x : D} {v : V} {k : Bool} (S : Sim X.K ρ st H) (r : Rep X.K ρ H x v) (e : truthD x st = .ok k st') : st' = st ∧ TruV X.K v H k := by
  cases r with
  | non => cases e; exact ⟨rfl, rfl⟩
  | bl b => cases e; exact ⟨rfl, rfl⟩
  | int i => cases e; exact ⟨rfl, rfl⟩
  | str z =>
    simp only [truthD] at e
    split at e
    · rename_i hl; cases e; exact ⟨rfl, by rw [big_eq]; exact hl, rfl⟩
    · cases e
  | tup h hs _ =>
    cases e
    refine ⟨rfl, .inr (.inl ⟨_, h, ?_⟩)⟩
    cases hs <;> rfl
  | fls h hs =>
    cases e
    refine ⟨rfl, .inl ⟨_, h.sq, ?_⟩⟩
    cases hs <;> rfl
  | ob h =>
    simp only [truthD] at e
    split at e
    · rename_i ys h1
      cases e
      obtain ⟨a, vs, e1, h2, h3⟩ := itemsL_rep S (.ob h) h1
      cases e1
      refine ⟨rfl, .inl ⟨vs, h2, ?_⟩⟩
      cases h3 <;> rfl
    · cases e
theorem sndT_plain (ha : SndE X a ma) (he : ∀ whole, isTrue a X.env whole = (do let v ← whole; standAt a.pos; holding [v] (truthy v))) : SndT X a (fun env => M.bind (ma env) fun x => truthD x) := by
  intro ρ st env σ H k st' S R e Q P
  obtain ⟨x, st1, e1, e2⟩ := bind_ok e
  refine wt_of (pt_truth pe_we he) (ha ρ st env σ H x st1 S R e1 _ fun ρ1 H1 v g1 S1 r1 => ?_)
  obtain ⟨h1, h2⟩ := tru_rep S1 r1 e2
  subst h1
  exact ⟨k, h2, P ρ1 H1 g1 S1⟩

/-! ### names, constants -/
theorem snd_var {i : Nat} {x : Str} (hN : X.N[i]? = some x) (hv : Vis X.env.scope x) (hd : (x == ("__debug__" : Str)) = false) (hcd : (x == ("__classdict__" : Str)) = false) :
    SndE X (.Name x pos) (fun env st => match env[i]? with | some (some d) => .ok d st | _ => .no) := by
  intro ρ st env σ H d st' S R e Q P
  dsimp only at e
  split at e
  · rename_i d' h1
    cases e
    obtain ⟨v, h2, r⟩ := R.at' i _ h1
    exact we_of (pe_var hN hv hd hcd) ⟨v, h2, P.self S r⟩
  · cases e
theorem snd_int {i : Int} {j : Nat} : SndE X (.Constant (.int i) j pos) (fun _ st => .ok (.int i) st) := by
  intro ρ st env σ H d st' S R e Q P
  cases e
  exact we_of pe_int (P.self S (.int i))
theorem snd_str {i : Str} {j : Nat} : SndE X (.Constant (.str i) j pos) (fun _ st => .ok (.str i) st) := by
  intro ρ st env σ H d st' S R e Q P
  cases e
  exact we_of pe_str (P.self S (.str i))
theorem snd_bl {i : Bool} {j : Nat} : SndE X (.Constant (.bool i) j pos) (fun _ st => .ok (.bl i) st) := by
  intro ρ st env σ H d st' S R e Q P
  cases e
  exact we_of pe_bl (P.self S (.bl i))
theorem snd_non {j : Nat} : SndE X (.Constant .none j pos) (fun _ st => .ok .non st) := by
  intro ρ st env σ H d st' S R e Q P
  cases e
  exact we_of pe_non (P.self S .non)
theorem snd_glob {x : Str} {d0 : D} {u : Value} {v : V} (hg : Gl X x) (hm : X.mg x = some u) (r : RelV v u) (hr : ∀ ρ H, Rep X.K ρ H d0 v) (hd : (x == ("__debug__" : Str)) = false) : SndE X (.Name x pos) (fun _ st => .ok d0 st) := by
  intro ρ st env σ H d st' S R e Q P
  cases e
  exact we_of (pe_glob hg hm r hd) (P.self S (hr ρ H))

/-! ### argument lists, displays -/
variable {es : List Expr} {ms : Env → M (List D)}
theorem sndA_nil : SndA X [] (fun _ st => .ok [] st) := by
  intro ρ st env σ H ds st' S R e Q P
  cases e
  exact wa_of pa_nil (P ρ H [] (Grow.refl _ _) S .nil)
theorem sndA_cons (ha : SndE X a ma) (hs : SndA X es ms) (hst : starEach (a :: es) X.env = (false, eval a X.env) :: starEach es X.env) : SndA X (a :: es) (fun env => M.bind (ma env) fun d => M.bind (ms env) fun ds st => .ok (d :: ds) st) := by
  intro ρ st env σ H ds st' S R e Q P
  obtain ⟨x, st1, e1, e2⟩ := bind_ok e
  obtain ⟨xs, st2, e2, e3⟩ := bind_ok e2
  cases e3
  exact wa_of (pa_cons pe_we pa_wa hst) (ha ρ st env σ H x st1 S R e1 _ fun ρ1 H1 v g1 S1 r1 => hs ρ1 st1 env σ H1 xs st' S1 (R.grow g1) e2 _ fun ρ2 H2 vs g2 S2 r2 => P ρ2 H2 _ (g1.trans g2) S2 (.cons (r1.grow g2) r2))
theorem snd_tup {k : Nat} (hs : SndA X es ms) : SndE X (.Tuple es k pos) (fun env => M.bind (ms env) fun ds st => if ds.length ≤ bigN then .ok (.tup ds) st else .no) := by
  intro ρ st env σ H d st' S R e Q P
  obtain ⟨xs, st1, e1, e2⟩ := bind_ok e
  split at e2
  · rename_i hl
    cases e2
    exact we_of (pe_tup pa_wa) (hs ρ st env σ H xs _ S R e1 _ fun ρ1 H1 vs g1 S1 r1 => ⟨by rw [big_eq, ← r1.length]; exact hl, fun p hp => (P.grow g1).tup S1 r1 hp⟩)
  · cases e2
theorem snd_lst (hs : SndA X es ms) : SndE X (.List es pos) (fun env => M.bind (ms env) fun ds st => if ds.length ≤ bigN then .ok (.ob st.length) (st ++ [.lst ds]) else .no) := by
  intro ρ st env σ H d st' S R e Q P
  obtain ⟨xs, st1, e1, e2⟩ := bind_ok e
  split at e2
  · rename_i hl
    cases e2
    exact we_of (pe_lst pa_wa) (hs ρ st env σ H xs _ S R e1 _ fun ρ1 H1 vs g1 S1 r1 => ⟨by rw [big_eq, ← r1.length]; exact hl, fun p hp => (P.grow g1).lst S1 r1 hp⟩)
  · cases e2
theorem Post.dct {K : PySem.W.Frag} {ρ : List Addr} {H : Hp} {st : Store} {kvs : List (D × D)} {ks : List (Key × V)} {Q : VK} {p : Addr} (P : Post K ρ H (st ++ [.dct kvs]) (.ob st.length) Q) (S : Sim K ρ st H) (r : KvK K ρ H kvs ks) (hp : H p = none) : Q (.ref p) (upd H p (.dK ks)) := by
  refine P (ρ ++ [p]) _ _ (grow_lay hp) (S.lay hp (.inl ⟨ks, upd_same, r.grow (grow_lay hp)⟩)) (.ob ?_)
  rw [List.getElem?_append_right (by rw [S.len]; exact Nat.le_refl _), S.len]
  simp
theorem snd_dict0 : SndE X (.Dict [] [] pos) (fun _ st => .ok (.ob st.length) (st ++ [.dct []])) := by
  intro ρ st env σ H d st' S R e Q P
  cases e
  exact we_of pe_dnewK fun p hp => P.dct S .nil hp

/-! ### subscripts, slices -/
theorem snd_idx (hu : X.A.units + 1 < cLine) (hs : PlainIx b) (ha : SndE X a ma) (hb : SndE X b mb) : SndE X (.Subscript a b pos) (fun env => M.bind (ma env) fun x => M.bind (mb env) fun y => ixD x y) := by
  intro ρ st env σ H d st' S R e Q P
  obtain ⟨x, st1, e1, e⟩ := bind_ok e
  obtain ⟨y, st2, e2, e3⟩ := bind_ok e
  cases hd : isDct st2 x with
  | false =>
    refine we_of (pe_ix ixr_max pe_we pe_we hs) (snd_two ha hb S R e1 e2 fun ρ' H' v w g' S' r1 r2 => ?_)
    obtain ⟨r, h1, h2⟩ := ok_ix (X := X) S' r1 r2 hd e3
    exact ⟨r, h1, h2 Q (P.grow g')⟩
  | true =>
    cases x with
    | ob j =>
      simp only [isDct] at hd
      split at hd
      · rename_i kvs h1
        simp only [ixD, h1] at e3
        split at e3
        · rename_i hk
          split at e3
          · rename_i d' hg
            cases e3
            refine we_of (pe_dgetD hu pe_we pe_we hs) (snd_two ha hb S R e1 e2 fun ρ' H' v w g' S' r1 r2 => ?_)
            cases r1 with
            | ob hx => exact ⟨ρ', kvs, y, _, _, V.non, rfl, S'.ob _ _ _ h1 hx, r2, hk, hg, fun z rz => (P.grow g').self S' rz, rfl⟩
          · cases e3
        · cases e3
      · cases hd
    | _ => simp only [isDct] at hd; cases hd
def SndO (X : Cx) (e : Option Expr) (m : Env → M (Option Int)) : Prop := ∀ ρ st env σ H o st', Sim X.K ρ st H → EnvR X.K ρ H env σ → m env st = .ok o st' → ∃ t, PO X e t ∧ ∀ Q : Option Int → Hp → Prop, (∀ ρ' H', Grow ρ H ρ' H' → Sim X.K ρ' st' H' → Q o H') → t σ H Q
theorem sndO_none : SndO X none (fun _ st => .ok none st) := by
  intro ρ st env σ H o st' S R e
  cases e
  exact ⟨_, po_none, fun Q h => h ρ H (Grow.refl _ _) S⟩
theorem sndO_some (ha : SndE X a ma) : SndO X (some a) (fun env => M.bind (ma env) fun d => match d with | .int i => fun st => .ok (some i) st | _ => fun _ => .no) := by
  intro ρ st env σ H o st' S R e
  obtain ⟨x, st1, e1, e2⟩ := bind_ok e
  cases x with
  | int k =>
    cases e2
    exact ⟨_, po_some pe_we, fun Q h => ha ρ st env σ H _ _ S R e1 _ fun ρ1 H1 v g1 S1 r1 => ⟨k, rep_int r1, h ρ1 H1 g1 S1⟩⟩
  | _ => cases e2
/-- the widest reading of an optional part -/
def WO (X : Cx) (e : Option Expr) : TO := fun σ H Q => ∃ t, PO X e t ∧ t σ H Q
theorem po_wo {e : Option Expr} : PO X e (WO X e) := by
  constructor
  intros
  rename_i h
  obtain ⟨t, h1, h2⟩ := h
  first | exact h1.run _ _ _ _ _ (by assumption) h2 | (apply h1.run <;> assumption)
theorem snd_sl {lo hi : Option Expr} {ml mh : Env → M (Option Int)} {p2 : Pos} (ha : SndE X a ma) (hl : SndO X lo ml) (hh : SndO X hi mh) : SndE X (.Subscript a (.Slice lo hi none p2) pos) (fun env => M.bind (ma env) fun x => M.bind (ml env) fun l => M.bind (mh env) fun h => slD x l h) := by
  intro ρ st env σ H d st' S R e Q P
  obtain ⟨x, st1, e1, e⟩ := bind_ok e
  obtain ⟨l, st2, e2, e⟩ := bind_ok e
  obtain ⟨h, st3, e3, e4⟩ := bind_ok e
  refine we_of (pe_slice slr_max pe_we po_wo po_wo) (ha ρ st env σ H x st1 S R e1 _ fun ρ1 H1 v g1 S1 r1 => ?_)
  obtain ⟨t2, q2, k2⟩ := hl ρ1 st1 env σ H1 l st2 S1 (R.grow g1) e2
  refine ⟨t2, q2, k2 _ fun ρ2 H2 g2 S2 => ?_⟩
  obtain ⟨t3, q3, k3⟩ := hh ρ2 st2 env σ H2 h st3 S2 (R.grow (g1.trans g2)) e3
  refine ⟨t3, q3, k3 _ fun ρ3 H3 g3 S3 => ?_⟩
  obtain ⟨r, h1, h2⟩ := ok_sl (X := X) S3 (r1.grow (g2.trans g3)) e4
  exact ⟨r, h1, h2 Q (P.grow ((g1.trans g2).trans g3))⟩
end
end W9

/-! W9l: calls, methods, sources of loops, targets -/
namespace W9
open PySem L2
section
variable {X : Cx} {e : Expr} {es : List Expr} {ms : Env → M (List D)} {p pos : Pos} {x : Str}
theorem snd_call {k : Nat} {m : Frm} {g : List D → M D} (cal : Callee X.prog X.w X.K X.mg X.base k m g) (hkd : m.kd = none) (hks : m.ks = []) (hx : m.x = x) (room : Room k X.A) (gd : X.A.guards = some []) (gl : Gl X x) (hdb : (x == ("__debug__" : Str)) = false) (he : starEach (e :: es) X.env = (false, eval e X.env) :: starEach es X.env)
    (hpl : (backTo pos (starEach es X.env)).any (·.1) = false) (hs : SndA X (e :: es) ms) (hlen : ∀ env st ds st', ms env st = .ok ds st' → ds.length = m.n) : SndE X (.Call (.Name x p) (e :: es) [] pos) (fun env => M.bind (ms env) fun ds => g ds) := by
  intro ρ st env σ H d st' S R e Q P
  obtain ⟨ds, st1, e1, e2⟩ := bind_ok e
  obtain ⟨f, F, fa⟩ := cal.ex
  rw [hkd] at fa
  obtain ⟨hm, hk⟩ := fa
  rw [hks] at F
  rw [hx] at hm
  exact we_of (pe_callG F room gd gl hm hk pa_wa hdb he hpl) (hs ρ st env σ H ds st1 S R e1 _ fun ρ1 H1 vs g1 S1 r1 => ⟨ρ1, st1, ds, d, st', hlen _ _ _ _ e1, S1, r1, e2, P.grow g1⟩)
theorem snd_call0 {k : Nat} {m : Frm} {g : List D → M D} (cal : Callee X.prog X.w X.K X.mg X.base k m g) (hkd : m.kd = none) (hks : m.ks = []) (hx : m.x = x) (hn : m.n = 0) (room : Room k X.A) (gd : X.A.guards = some []) (gl : Gl X x) (hdb : (x == ("__debug__" : Str)) = false) : SndE X (.Call (.Name x p) [] [] pos) (fun _ => g []) := by
  intro ρ st env σ H d st' S R e Q P
  obtain ⟨f, F, fa⟩ := cal.ex
  rw [hkd] at fa
  obtain ⟨hm, hk⟩ := fa
  rw [hks] at F
  rw [hx] at hm
  exact we_of (pe_callG0 F room gd gl hm hk hdb) ⟨ρ, st, [], d, st', hn.symm, S, .nil, e, P⟩
/-- the values of keywords -/
def WK (X : Cx) (kws : List Keyword) (σ : L2.St) (H : Hp) (Q : List V → Hp → Prop) : Prop := ∀ (pos : Pos) (pins : List (Addr × Obj)) (s : Shared), Inv X pins σ H s → wpAny (model X.prog X.w) X.A (evalAll ((backToKw pos (keywordEach kws X.env)).map (·.2))) (AP X pins σ Q) X.xe s
theorem pk_wk {kws : List Keyword} : PK X kws (WK X kws) := ⟨fun pos pins s σ H Q I h => h pos pins s I⟩
theorem wk_of {kws : List Keyword} {t : TA} {σ : L2.St} {H : Hp} {Q : List V → Hp → Prop} (p : PK X kws t) (h : t σ H Q) : WK X kws σ H Q := fun pos pins s I => p.run pos pins s σ H Q I h
def SndK (X : Cx) (kws : List Keyword) (m : Env → M (List D)) : Prop := ∀ ρ st env σ H ds st', Sim X.K ρ st H → EnvR X.K ρ H env σ → m env st = .ok ds st' → ∀ Q, Posts X.K ρ H st' ds Q → WK X kws σ H Q
theorem sndK_nil : SndK X [] (fun _ st => .ok [] st) := by
  intro ρ st env σ H ds st' S R e Q P
  cases e
  exact wk_of pk_nil (P ρ H [] (Grow.refl _ _) S .nil)
theorem sndK_cons {nm : Option Str} {kpos : Pos} {kws : List Keyword} {a : Expr} {ma : Env → M D} {mk : Env → M (List D)} (ha : SndE X a ma) (hk : SndK X kws mk) : SndK X (⟨nm, a, kpos⟩ :: kws) (fun env => M.bind (ma env) fun d => M.bind (mk env) fun ds st => .ok (d :: ds) st) := by
  intro ρ st env σ H ds st' S R e Q P
  obtain ⟨d, st1, e1, e⟩ := bind_ok e
  obtain ⟨ds', st2, e2, e3⟩ := bind_ok e
  cases e3
  exact wk_of (pk_cons pe_we pk_wk) (ha ρ st env σ H d st1 S R e1 _ fun ρ1 H1 v g1 S1 r1 => hk ρ1 st1 env σ H1 ds' _ S1 (R.grow g1) e2 _ fun ρ2 H2 vs g2 S2 r2 => P ρ2 H2 (v :: vs) (g1.trans g2) S2 (.cons (r1.grow g2) r2))
theorem snd_callK {k : Nat} {m : Frm} {g : List D → M D} {kws : List Keyword} {mk : Env → M (List D)} (cal : Callee X.prog X.w X.K X.mg X.base k m g) (hkd : m.kd = none) (hx : m.x = x) (room : Room k X.A) (gd : X.A.guards = some []) (gl : Gl X x) (hdb : (x == ("__debug__" : Str)) = false) (he : starEach (e :: es) X.env = (false, eval e X.env) :: starEach es X.env)
    (hall : (backToKw pos (keywordEach kws X.env)).all (·.1.isSome) = true) (hks : (backToKw pos (keywordEach kws X.env)).filterMap (·.1) = m.ks)
    (hpl : ((backTo pos (starEach (e :: es) X.env)).any (·.1) || (backToKw pos (keywordEach kws X.env)).any (·.1.isNone)) = false) (hs : SndA X (e :: es) ms) (hk : SndK X kws mk)
    (hlen : ∀ env st ds st' zs st'', ms env st = .ok ds st' → mk env st' = .ok zs st'' → (ds ++ zs).length = m.n ∧ zs.length = m.ks.length) : SndE X (.Call (.Name x p) (e :: es) kws pos) (fun env => M.bind (ms env) fun ds => M.bind (mk env) fun zs => g (ds ++ zs)) := by
  intro ρ st env σ H d st' S R e Q P
  obtain ⟨ds, st1, e1, e⟩ := bind_ok e
  obtain ⟨zs, st2, e2, e3⟩ := bind_ok e
  obtain ⟨f, F, fa⟩ := cal.ex
  rw [hkd] at fa
  obtain ⟨hm, hkp⟩ := fa
  rw [hx] at hm
  obtain ⟨l1, l2⟩ := hlen _ _ _ _ _ _ e1 e2
  refine we_of (pe_callGK F room gd gl hm hkp pa_wa pk_wk hdb he hall hks hpl) (hs ρ st env σ H ds st1 S R e1 _ fun ρ1 H1 vs g1 S1 r1 => hk ρ1 st1 env σ H1 zs st2 S1 (R.grow g1) e2 _ fun ρ2 H2 ws g2 S2 r2 => ⟨by rw [← r2.length]; exact l2, ρ2, st2, ds ++ zs, d, st', l1, S2, (r1.grow g2).append r2, e3, P.grow (g1.trans g2)⟩)
theorem snd_callK0 {k : Nat} {m : Frm} {g : List D → M D} {kws : List Keyword} {mk : Env → M (List D)} (cal : Callee X.prog X.w X.K X.mg X.base k m g) (hkd : m.kd = none) (hx : m.x = x) (room : Room k X.A) (gd : X.A.guards = some []) (gl : Gl X x) (hdb : (x == ("__debug__" : Str)) = false)
    (hall : (backToKw pos (keywordEach kws X.env)).all (·.1.isSome) = true) (hks : (backToKw pos (keywordEach kws X.env)).filterMap (·.1) = m.ks)
    (hpl : ((backTo pos (starEach [] X.env)).any (·.1) || (backToKw pos (keywordEach kws X.env)).any (·.1.isNone)) = false) (hk : SndK X kws mk)
    (hlen : ∀ env st zs st'', mk env st = .ok zs st'' → zs.length = m.n ∧ zs.length = m.ks.length) : SndE X (.Call (.Name x p) [] kws pos) (fun env => M.bind (fun st => .ok [] st) fun ds => M.bind (mk env) fun zs => g (ds ++ zs)) := by
  intro ρ st env σ H d st' S R e Q P
  obtain ⟨ds, st1, e1, e⟩ := bind_ok e
  cases e1
  obtain ⟨zs, st2, e2, e3⟩ := bind_ok e
  obtain ⟨f, F, fa⟩ := cal.ex
  rw [hkd] at fa
  obtain ⟨hm, hkp⟩ := fa
  rw [hx] at hm
  obtain ⟨l1, l2⟩ := hlen _ _ _ _ e2
  refine we_of (pe_callGK0 F room gd gl hm hkp pk_wk hdb hall hks hpl) (hk ρ st env σ H zs st2 S R e2 _ fun ρ2 H2 ws g2 S2 r2 => ⟨by rw [← r2.length]; exact l2, ρ2, st2, zs, d, st', l1, S2, r2, e3, P.grow g2⟩)
/-! ### instances -/
theorem ins_rep {ρ : List Addr} {st : Store} {H : Hp} {x : D} {v : V} {c : Str} {fs : List (Str × D)} (S : Sim X.K ρ st H) (r : Rep X.K ρ H x v) (h : insD st x = some (c, fs)) : ∃ j a C dx vs, x = .ob j ∧ v = .ref a ∧ ρ[j]? = some a ∧ st[j]? = some (.ins c fs) ∧ ClsN X.K c C ∧ H a = some (.ins C dx vs) ∧ FsR X.K ρ H fs vs := by
  cases r with
  | @ob j a hx =>
    simp only [insD] at h
    split at h
    · rename_i c' fs' h1
      cases h
      obtain ⟨C, dx, vs, h2, h3, h4⟩ := S.ob _ _ _ h1 hx
      exact ⟨j, a, C, dx, vs, rfl, rfl, hx, h1, h2, h3, h4⟩
    · cases h
  | _ => simp only [insD] at h; cases h
theorem snd_fld {o : Expr} {f : Str} {mo : Env → M D} {fl : Str → Str → Bool} (hfl : ∀ c C, fl c f = true → ClsN X.K c C → NoAttr X.K C f) (hb : attributeBase o f X.env (eval o X.env) = eval o X.env) (ho : SndE X o mo) :
    SndE X (.Attribute o f pos) (fun env => M.bind (mo env) fun x => fldD fl f x) := by
  intro ρ st env σ H d st' S R e Q P
  obtain ⟨x, st1, e1, e2⟩ := bind_ok e
  simp only [fldD] at e2
  split at e2
  · rename_i c fs hi
    split at e2
    · rename_i hc
      split at e2
      · rename_i d' hd
        cases e2
        refine we_of (pe_fld pe_we hb) (ho ρ st env σ H x _ S R e1 _ fun ρ1 H1 v g1 S1 r1 => ?_)
        obtain ⟨j, a, C, dx, vs, rfl, rfl, h1, h2, h3, h4, h5⟩ := ins_rep S1 r1 hi
        rcases h5.look f with ⟨z, _⟩ | ⟨d2, v2, z1, z2, z3⟩
        · rw [z] at hd; cases hd
        · rw [z1] at hd; cases hd
          exact ⟨a, C, dx, vs, v2, rfl, h4, h3.cls, hfl c C hc h3, z2, P ρ1 H1 v2 g1 S1 z3⟩
      · cases e2
    · cases e2
  · cases e2
theorem met_at {k : Nat} {c m tag : Str} {ks : List Str} {n : Nat} {g : List D → M D} {ρ : List Addr} {st : Store} {H : Hp} {x : D} {v : V} {fs : List (Str × D)} (cal : Callee X.prog X.w X.K X.mg X.base k ⟨m, ks, n, some c⟩ g) (S : Sim X.K ρ st H) (r : Rep X.K ρ H x v) (h : insD st x = some (c, fs))
    (hl : (fs.lookup m).isNone = true) : MetAt X k m ks v H (spF X.K n g) := by
  obtain ⟨f, F, C', c1, c2⟩ := cal.ex
  obtain ⟨j, a, C, dx, vs, rfl, rfl, h1, h2, h3, h4, h5⟩ := ins_rep S r h
  have hC := c1.uniq h3
  subst hC
  refine ⟨f, C, a, dx, vs, F, h3.cls, c2, rfl, h4, ?_⟩
  rcases h5.look m with ⟨_, z⟩ | ⟨d2, v2, z1, z2, z3⟩
  · exact z
  · rw [z1] at hl; cases hl
theorem snd_mcall {k : Nat} {o : Expr} {m tag : Str} {apos : Pos} {kws : List Keyword} {ks : List Str} {mo : Env → M D} {mk : Env → M (List D)} {mt : Str → Frm → List D → M D} (hmt : ∀ tg fr, (∀ xs st, mt tg fr xs st = .no) ∨ Callee X.prog X.w X.K X.mg X.base k fr (mt tg fr))
    (room : Room k X.A) (gd : X.A.guards = some []) (he : starEach (e :: es) X.env = (false, eval e X.env) :: starEach es X.env)
    (hall : (backToKw pos (keywordEach kws X.env)).all (·.1.isSome) = true) (hks : (backToKw pos (keywordEach kws X.env)).filterMap (·.1) = ks)
    (hpl : ((backTo pos (starEach (e :: es) X.env)).any (·.1) || (backToKw pos (keywordEach kws X.env)).any (·.1.isNone)) = false)
    (hbase : attributeBase o m X.env (eval o X.env) = eval o X.env) (hfew : methodCallForm ((e :: es).length + kws.length) (backTo pos (starEach (e :: es) X.env)) (backToKw pos (keywordEach kws X.env)) = true) (hline : (apos.endLine == pos.line) = true)
    (ho : SndE X o mo) (hs : SndA X (e :: es) ms) (hk : SndK X kws mk) (hlen : ∀ env st zs st'', mk env st = .ok zs st'' → zs.length = ks.length) :
    SndE X (.Call (.Attribute o m apos) (e :: es) kws pos) (fun env => M.bind (mo env) fun x st => match insD st x with
      | some (c, fs) => if (fs.lookup m).isNone = true then M.bind (ms env) (fun ds => M.bind (mk env) fun zs => mt (c ++ tag) ⟨m, ks, ds.length + zs.length + 1, some c⟩ (x :: (ds ++ zs))) st else .no
      | none => .no) := by
  intro ρ st env σ H d st' S R e Q P
  obtain ⟨x, st1, e1, e2⟩ := bind_ok e
  split at e2
  · rename_i c fs hi
    split at e2
    · rename_i hl
      obtain ⟨ds, st2, e2, e3⟩ := bind_ok e2
      obtain ⟨zs, st3, e3, e4⟩ := bind_ok e3
      rcases hmt (c ++ tag) ⟨m, ks, ds.length + zs.length + 1, some c⟩ with z | cal
      · rw [z] at e4; cases e4
      refine we_of (pe_mcallG room gd pe_we pa_wa pk_wk he hall hks hpl hbase hfew hline) (ho ρ st env σ H x st1 S R e1 _ fun ρ1 H1 v g1 S1 r1 => ⟨_, met_at (tag := tag) cal S1 r1 hi hl, ?_⟩)
      refine hs ρ1 st1 env σ H1 ds st2 S1 (R.grow g1) e2 _ fun ρ2 H2 vs g2 S2 r2 => hk ρ2 st2 env σ H2 zs st3 S2 (R.grow (g1.trans g2)) e3 _ fun ρ3 H3 ws g3 S3 r3 => ⟨by rw [← r3.length]; exact hlen _ _ _ _ e3, ?_⟩
      exact ⟨ρ3, st3, x :: (ds ++ zs), d, st', by simp only [List.length_cons, List.length_append], S3, .cons (r1.grow (g2.trans g3)) ((r2.grow g3).append r3), e4, P.grow ((g1.trans g2).trans g3)⟩
    · cases e2
  · cases e2
theorem snd_mcall0 {k : Nat} {o : Expr} {m tag : Str} {apos : Pos} {kws : List Keyword} {ks : List Str} {mo : Env → M D} {mk : Env → M (List D)} {mt : Str → Frm → List D → M D} (hmt : ∀ tg fr, (∀ xs st, mt tg fr xs st = .no) ∨ Callee X.prog X.w X.K X.mg X.base k fr (mt tg fr))
    (room : Room k X.A) (gd : X.A.guards = some [])
    (hall : (backToKw pos (keywordEach kws X.env)).all (·.1.isSome) = true) (hks : (backToKw pos (keywordEach kws X.env)).filterMap (·.1) = ks)
    (hpl : ((backTo pos (starEach [] X.env)).any (·.1) || (backToKw pos (keywordEach kws X.env)).any (·.1.isNone)) = false)
    (hbase : attributeBase o m X.env (eval o X.env) = eval o X.env) (hfew : methodCallForm (([] : List Expr).length + kws.length) (backTo pos (starEach [] X.env)) (backToKw pos (keywordEach kws X.env)) = true) (hline : (apos.endLine == pos.line) = true)
    (ho : SndE X o mo) (hk : SndK X kws mk) (hlen : ∀ env st zs st'', mk env st = .ok zs st'' → zs.length = ks.length) :
    SndE X (.Call (.Attribute o m apos) [] kws pos) (fun env => M.bind (mo env) fun x st => match insD st x with
      | some (c, fs) => if (fs.lookup m).isNone = true then M.bind (fun st => .ok [] st) (fun ds => M.bind (mk env) fun zs => mt (c ++ tag) ⟨m, ks, ds.length + zs.length + 1, some c⟩ (x :: (ds ++ zs))) st else .no
      | none => .no) := by
  intro ρ st env σ H d st' S R e Q P
  obtain ⟨x, st1, e1, e2⟩ := bind_ok e
  split at e2
  · rename_i c fs hi
    split at e2
    · rename_i hl
      obtain ⟨ds, st2, e2, e3⟩ := bind_ok e2
      cases e2
      obtain ⟨zs, st3, e3, e4⟩ := bind_ok e3
      rcases hmt (c ++ tag) ⟨m, ks, ([] : List D).length + zs.length + 1, some c⟩ with z | cal
      · rw [z] at e4; cases e4
      refine we_of (pe_mcallG0 room gd pe_we pk_wk hall hks hpl hbase hfew hline) (ho ρ st env σ H x st1 S R e1 _ fun ρ1 H1 v g1 S1 r1 => ⟨_, met_at (tag := tag) cal S1 r1 hi hl, ?_⟩)
      refine hk ρ1 st1 env σ H1 zs st3 S1 (R.grow g1) e3 _ fun ρ3 H3 ws g3 S3 r3 => ⟨by rw [← r3.length]; exact hlen _ _ _ _ e3, ?_⟩
      exact ⟨ρ3, st3, x :: zs, d, st', by simp, S3, .cons (r1.grow g3) r3, e4, P.grow (g1.trans g3)⟩
    · cases e2
  · cases e2
/-- a class that can be made -/
structure ClsM (K : PySem.W.Frag) (mg : Str → Option Value) (c : Str) : Prop where
  ex : ∃ C, ClsN K c C ∧ PySem.W.makesIn K C = true ∧ PySem.W.keepIn K (.ref C) = true ∧ mg c = some (.ref C)
theorem mk_post {c : Str} {C : Addr} {k n : Nat} {ks : List Str} {g : List D → M D} {ρ : List Addr} {st st' : Store} {H : Hp} {ds : List D} {vs zs : List V} {d : D} {Q : VK} (cn : ClsN X.K c C) (S : Sim X.K ρ st H) (r : Reps X.K ρ H ds (vs ++ zs)) (hz : zs.length = ks.length) (hn : ds.length + 1 = n)
    (e : mkD c g ds st = .ok d st') (P : Post X.K ρ H st' d Q) : tMkG C ks (spF X.K n g) vs zs H Q := by
  refine ⟨hz, fun x dx hx hdx hne => ?_⟩
  simp only [mkD] at e
  split at e
  · rename_i st1 e1
    cases e
    have hx2 : upd H dx (.own x) x = none := by rw [upd_ne (Ne.symm hne)]; exact hx
    have S2 := S.new (u := .own x) hdx
    have g2 : Grow ρ H ρ (upd H dx (.own x)) := grow_new hdx
    have S3 := S2.lay (u := .ins C dx []) (o := .ins c []) hx2 ⟨C, dx, [], cn, upd_same, .nil⟩
    have g3 : Grow ρ H (ρ ++ [x]) (upd (upd H dx (.own x)) x (.ins C dx [])) := g2.trans (grow_lay hx2)
    have ho : (ρ ++ [x])[st.length]? = some x := by
      rw [List.getElem?_append_right (by rw [S.len]; exact Nat.le_refl _), S.len]; simp
    refine ⟨ρ ++ [x], st ++ [.ins c []], .ob st.length :: ds, .non, st', by rw [List.length_cons]; exact hn, S3, .cons (.ob ho) (r.grow g3), e1, fun ρ' H' v g' S' r' => ⟨?_, P ρ' H' (.ref x) (g3.trans g') S' (.ob (g'.ix ho))⟩⟩
    cases r'
    rfl
  · cases e
theorem snd_make {k : Nat} {c tag : Str} {kws : List Keyword} {ks : List Str} {mk : Env → M (List D)} {mt : Str → Frm → List D → M D} (hmt : ∀ tg fr, (∀ xs st, mt tg fr xs st = .no) ∨ Callee X.prog X.w X.K X.mg X.base k fr (mt tg fr)) (hc : ClsM X.K X.mg c)
    (room : Room (k + 1) X.A) (gd : X.A.guards = some []) (gl : Gl X c) (hdb : (c == ("__debug__" : Str)) = false) (he : starEach (e :: es) X.env = (false, eval e X.env) :: starEach es X.env)
    (hall : (backToKw pos (keywordEach kws X.env)).all (·.1.isSome) = true) (hks : (backToKw pos (keywordEach kws X.env)).filterMap (·.1) = ks)
    (hpl : ((backTo pos (starEach (e :: es) X.env)).any (·.1) || (backToKw pos (keywordEach kws X.env)).any (·.1.isNone)) = false) (hs : SndA X (e :: es) ms) (hk : SndK X kws mk) (hlen : ∀ env st zs st'', mk env st = .ok zs st'' → zs.length = ks.length) :
    SndE X (.Call (.Name c p) (e :: es) kws pos) (fun env => M.bind (ms env) fun ds => M.bind (mk env) fun zs => mkD c (mt (c ++ tag) ⟨"__init__", ks, ds.length + zs.length + 1, some c⟩) (ds ++ zs)) := by
  intro ρ st env σ H d st' S R e Q P
  obtain ⟨ds, st1, e1, e⟩ := bind_ok e
  obtain ⟨zs, st2, e2, e3⟩ := bind_ok e
  rcases hmt (c ++ tag) ⟨"__init__", ks, ds.length + zs.length + 1, some c⟩ with z | cal
  · simp only [mkD] at e3; rw [z] at e3; cases e3
  obtain ⟨C, cn, m1, m2, m3⟩ := hc.ex
  obtain ⟨f, F, C', c1, c2⟩ := cal.ex
  have hC := cn.uniq c1
  subst hC
  refine we_of (pe_makeG ⟨m1, c2.at_, c2.fn, m2⟩ F room gd gl m3 pa_wa pk_wk hdb he hall hks hpl) (hs ρ st env σ H ds st1 S R e1 _ fun ρ1 H1 vs g1 S1 r1 => hk ρ1 st1 env σ H1 zs st2 S1 (R.grow g1) e2 _ fun ρ2 H2 ws g2 S2 r2 => ?_)
  exact mk_post (k := k) cn S2 ((r1.grow g2).append r2) (by rw [← r2.length]; exact hlen _ _ _ _ e2) (by rw [List.length_append]) e3 (P.grow (g1.trans g2))
theorem snd_make0 {k : Nat} {c tag : Str} {kws : List Keyword} {ks : List Str} {mk : Env → M (List D)} {mt : Str → Frm → List D → M D} (hmt : ∀ tg fr, (∀ xs st, mt tg fr xs st = .no) ∨ Callee X.prog X.w X.K X.mg X.base k fr (mt tg fr)) (hc : ClsM X.K X.mg c)
    (room : Room (k + 1) X.A) (gd : X.A.guards = some []) (gl : Gl X c) (hdb : (c == ("__debug__" : Str)) = false)
    (hall : (backToKw pos (keywordEach kws X.env)).all (·.1.isSome) = true) (hks : (backToKw pos (keywordEach kws X.env)).filterMap (·.1) = ks)
    (hpl : ((backTo pos (starEach [] X.env)).any (·.1) || (backToKw pos (keywordEach kws X.env)).any (·.1.isNone)) = false) (hk : SndK X kws mk) (hlen : ∀ env st zs st'', mk env st = .ok zs st'' → zs.length = ks.length) :
    SndE X (.Call (.Name c p) [] kws pos) (fun env => M.bind (fun st => .ok [] st) fun ds => M.bind (mk env) fun zs => mkD c (mt (c ++ tag) ⟨"__init__", ks, ds.length + zs.length + 1, some c⟩) (ds ++ zs)) := by
  intro ρ st env σ H d st' S R e Q P
  obtain ⟨ds, st1, e1, e⟩ := bind_ok e
  cases e1
  obtain ⟨zs, st2, e2, e3⟩ := bind_ok e
  rcases hmt (c ++ tag) ⟨"__init__", ks, ([] : List D).length + zs.length + 1, some c⟩ with z | cal
  · simp only [mkD] at e3; rw [z] at e3; cases e3
  obtain ⟨C, cn, m1, m2, m3⟩ := hc.ex
  obtain ⟨f, F, C', c1, c2⟩ := cal.ex
  have hC := cn.uniq c1
  subst hC
  refine we_of (pe_makeG0 ⟨m1, c2.at_, c2.fn, m2⟩ F room gd gl m3 pk_wk hdb hall hks hpl) (hk ρ st env σ H zs st2 S R e2 _ fun ρ2 H2 ws g2 S2 r2 => ?_)
  exact mk_post (k := k) cn S2 r2 (by rw [← r2.length]; exact hlen _ _ _ _ e2) (by simp) e3 (P.grow g2)
theorem boot_bi : ∀ b : Bi, bootBuiltins b.name = some b.val := by
  intro b
  cases b <;> decide +kernel
theorem bi_name1 : ∀ b : Bi, b.name ≠ "__name__" := by intro b; cases b <;> decide +kernel
theorem bi_name2 : ∀ b : Bi, (b.name == ("__debug__" : Str)) = false := by intro b; cases b <;> decide +kernel
theorem snd_bi {b : Bi} (hc : X.calm = true) (gd : X.A.guards = some []) (hu : X.A.units + 65 < cLine) (gl : Gl X b.name) (hm : X.mg b.name = none) (he : starEach (e :: es) X.env = (false, eval e X.env) :: starEach es X.env)
    (hpl : (backTo pos (starEach es X.env)).any (·.1) = false) (hs : SndA X (e :: es) ms) : SndE X (.Call (.Name b.name p) (e :: es) [] pos) (fun env => M.bind (ms env) fun ds => biD b ds) := by
  intro ρ st env σ H d st' S R e Q P
  obtain ⟨ds, st1, e1, e2⟩ := bind_ok e
  have hv := boot_bi b
  have key : WA X (_ :: es) σ H fun vs H1 => ∃ r, CallR X b.val r ∧ r vs H1 Q := hs ρ st env σ H ds st1 S R e1 _ fun ρ1 H1 vs g1 S1 r1 => by
    obtain ⟨r, h1, h2⟩ := ok_bi hc gd hu b ρ1 st1 H1 ds vs d st' S1 r1 e2
    exact ⟨r, h1, h2 Q (P.grow g1)⟩
  cases hb : b.val with
  | builtin id => rw [hb] at hv key; exact we_of (pe_callB callr_max gl hm hv pa_wa (bi_name1 b) (bi_name2 b) he hpl) key
  | type T => rw [hb] at hv key; exact we_of (pe_callTy callr_max gl hm hv pa_wa (bi_name1 b) (bi_name2 b) he hpl) key
  | _ => cases b <;> cases hb
/-! methods of built-in things -/
def Ty.str : Ty → String
  | .list => "list"
  | .dict => "dict"
def meOk : Me → Ty → Bool
  | .append, .list => true
  | .extend, .list => true
  | .get, .dict => true
  | .setdefault, .dict => true
  | _, _ => false
theorem me_ok {m : Me} {T : Ty} {x d : D} {ds : List D} {st st' : Store} (h : meD m T x ds st = .ok d st') : meOk m T = true := by
  cases m <;> cases T <;> first | rfl | (simp only [meD] at h; cases h)
theorem ty_rep {ρ : List Addr} {st : Store} {H : Hp} {x : D} {v : V} {T : Ty} (S : Sim X.K ρ st H) (r : Rep X.K ρ H x v) (h : tyD st x = some T) : tyV X.K T.str v H := by
  cases r with
  | ob hx =>
    simp only [tyD] at h
    split at h
    · rename_i xs h1
      cases h
      obtain ⟨vs, h2, _⟩ := S.ob _ _ _ h1 hx
      exact .inl ⟨rfl, vs, SqL.of h2⟩
    · rename_i kvs h1
      cases h
      rcases S.ob _ _ _ h1 hx with ⟨ks, h2, _⟩ | ⟨ks, h2, _⟩
      · exact .inr (.inr (.inl ⟨rfl, .inl ⟨ks, h2⟩⟩))
      · exact .inr (.inr (.inl ⟨rfl, .inr ⟨ks, h2⟩⟩))
    · cases h
  | _ => simp only [tyD] at h; cases h
theorem snd_meth {m : Me} {o : Expr} {mo : Env → M D} {apos : Pos} (hu : X.A.units + 1 < cLine) (hbase : attributeBase o m.name X.env (eval o X.env) = eval o X.env)
    (hfew : ((backTo pos (starEach (e :: es) X.env)).all (fun x => !x.1) && (backToKw pos (keywordEach [] X.env)).all (fun x => x.1.isSome) && decide ((e :: es).length + ([] : List Keyword).length + (if ([] : List Keyword).isEmpty then 0 else 1) < 30)) = true)
    (hline : (apos.endLine == pos.line) = true) (he : starEach (e :: es) X.env = (false, eval e X.env) :: starEach es X.env) (hpl : (backTo pos (starEach es X.env)).any (·.1) = false) (ho : SndE X o mo) (hs : SndA X (e :: es) ms) :
    SndE X (.Call (.Attribute o m.name apos) (e :: es) [] pos) (fun env => M.bind (mo env) fun x st => match tyD st x with
    | some T => M.bind (ms env) (fun ds => meD m T x ds) st
    | none => .no) := by
  intro ρ st env σ H d st' S R eq Q P
  obtain ⟨x, st1, e1, e2⟩ := bind_ok eq
  split at e2
  · rename_i T hT
    obtain ⟨ds, st2, e2, e3⟩ := bind_ok e2
    have go : ∀ {name : Str} {id : String}, PlainAttrs T.str → Slot T.str name id → typeOf (.builtin id) = pure (.type "method_descriptor") → name = m.name → id = m.id T → WE X (.Call (.Attribute o m.name apos) (e :: es) [] pos) σ H Q := by
      intro name id pa sl ty hn hi
      subst hn hi
      refine we_of (pe_bm pa sl ty mtr_max pe_we pa_wa hbase hfew hline he hpl) (ho ρ st env σ H x st1 S R e1 _ fun ρ1 H1 v g1 S1 r1 => ⟨ty_rep S1 r1 hT, ?_⟩)
      refine hs ρ1 st1 env σ H1 ds st2 S1 (R.grow g1) e2 _ fun ρ2 H2 vs g2 S2 r2 => ?_
      obtain ⟨r, h1, h2⟩ := ok_me hu m T ρ2 st2 H2 x ds v vs d st' S2 (r1.grow g2) r2 e3
      exact ⟨r, h1, h2 Q (P.grow (g1.trans g2))⟩
    have hok := me_ok e3
    cases m <;> cases T <;> first
      | (cases hok; done)
      | exact go PySem.F.plainAttrs_list PySem.F.slot_list_append PySem.F.type_list_append rfl rfl
      | exact go PySem.F.plainAttrs_list PySem.F.slot_list_extend PySem.F.type_list_extend rfl rfl
      | exact go PySem.F.plainAttrs_dict PySem.F.slot_dict_get PySem.F.type_dict_get rfl rfl
      | exact go PySem.F.plainAttrs_dict PySem.F.slot_dict_setdefault PySem.F.type_dict_setdefault rfl rfl
  · cases e2
end

/-! ### sources of loops -/
/-- the walk that a source makes -/
structure Wk (K : PySem.W.Frag) (ρ : List Addr) (H : Hp) (items : List D) (gd : List (Nat × List D)) (J : It) : Prop where
  ex : ∃ G Y, Walk J items.length G Y ∧ (∀ ρ2 H2 st2, Grow ρ H ρ2 H2 → Sim K ρ2 st2 H2 → gdOk st2 gd = true → G H2) ∧
    ∀ (i : Nat) ρ2 H2 st2 x H3, Grow ρ H ρ2 H2 → Sim K ρ2 st2 H2 → gdOk st2 gd = true → i < items.length → Y i H2 x H3 → Grow ρ2 H2 ρ2 H3 ∧ Sim K ρ2 st2 H3 ∧ ∃ d, items[i]? = some d ∧ Rep K ρ2 H3 d x
def SndI (X : Cx) (tg iter : Expr) (m : Env → M (List D × List (Nat × List D))) : Prop := ∀ ρ st env σ H p st', Sim X.K ρ st H → EnvR X.K ρ H env σ → m env st = .ok p st' →
  ∃ wi, PI X tg iter wi ∧ ∀ R : It → Hp → Prop, (∀ ρ' H' J, Grow ρ H ρ' H' → Sim X.K ρ' st' H' → Wk X.K ρ' H' p.1 p.2 J → R J H') → wi σ H R
section
variable {K : PySem.W.Frag} {ρ : List Addr} {H : Hp}
theorem wk_tup {a : Addr} {ds : List D} {vs : List V} (h : SqT K H a vs) (hs : Reps K ρ H ds vs) : Wk K ρ H ds [] (Itt K a) := by
  refine ⟨_, _, by rw [hs.length]; exact walk_tup (K := K) (a := a) (xs := vs), fun ρ2 H2 st2 g S _ => g.sqt h, fun i ρ2 H2 st2 x H3 g S _ hi y => ?_⟩
  obtain ⟨rfl, y⟩ := y
  obtain ⟨d, h1, h2⟩ := hs.get' y
  exact ⟨Grow.refl _ _, S, d, h1, h2.grow g⟩
theorem wk_fls {a : Addr} {ds : List D} {vs : List V} (h : SqF K H a vs) (hs : Reps K ρ H ds vs) : Wk K ρ H ds [] (Itl K a) := by
  refine ⟨_, _, by rw [hs.length]; exact walk_list (K := K) (a := a) (xs := vs), fun ρ2 H2 st2 g S _ => (g.sqf h).sq, fun i ρ2 H2 st2 x H3 g S _ hi y => ?_⟩
  obtain ⟨rfl, y⟩ := y
  obtain ⟨d, h1, h2⟩ := hs.get' y
  exact ⟨Grow.refl _ _, S, d, h1, h2.grow g⟩
theorem walk_len {a : Addr} {n : Nat} : Walk (Itl K a) n (fun H => ∃ vs, SqL K H a vs ∧ vs.length = n) (fun i H x H' => H' = H ∧ ∀ vs, SqL K H a vs → vs[i]? = some x) :=
  ⟨fun i H hi ⟨vs, h, hl⟩ => ⟨vs, vs[i]'(by omega), h, by simp⟩, fun H ⟨vs, h, hl⟩ => ⟨vs, h, by omega⟩, fun i H x H' _ _ y => y⟩
theorem wk_lst {a : Addr} {j : Nat} {ds : List D} (hj : ρ[j]? = some a) : Wk K ρ H ds [(j, ds)] (Itl K a) := by
  have look : ∀ {ρ2 : List Addr} {H2 : Hp} {st2 : Store}, Grow ρ H ρ2 H2 → Sim K ρ2 st2 H2 → gdOk st2 [(j, ds)] = true → ∃ vs, SqL K H2 a vs ∧ Reps K ρ2 H2 ds vs := fun {ρ2 H2 st2} g S h => by
    obtain ⟨vs, h1, h2⟩ := S.ob j _ a (gd_one.mp h) (g.ix hj)
    exact ⟨vs, SqL.of h1, h2⟩
  refine ⟨_, _, walk_len, fun ρ2 H2 st2 g S h => ?_, fun i ρ2 H2 st2 x H3 g S h hi y => ?_⟩
  · obtain ⟨vs, h1, h2⟩ := look g S h
    exact ⟨vs, h1, h2.length.symm⟩
  · obtain ⟨rfl, y⟩ := y
    obtain ⟨vs, h1, h2⟩ := look g S h
    obtain ⟨d, h3, h4⟩ := h2.get' (y vs h1)
    exact ⟨Grow.refl _ _, S, d, h3, h4⟩
theorem wk_str {z : Str} : Wk K ρ H (z.cps.toList.map fun c => D.str ⟨#[c]⟩) [] (Its z) := by
  refine ⟨_, _, by simpa using walk_str (z := z), fun _ _ _ _ _ _ => trivial, fun i ρ2 H2 st2 x H3 g S _ hi y => ?_⟩
  obtain ⟨rfl, c, h1, rfl⟩ := y
  refine ⟨Grow.refl _ _, S, .str ⟨#[c]⟩, ?_, .str _⟩
  rw [List.getElem?_map, Array.getElem?_toList, h1]
  rfl
theorem rngI_get {lo hi : Int} {i : Nat} (h : i < (rngI lo hi).length) : (rngI lo hi)[i]? = some (.int (lo + (i : Nat))) := by
  unfold rngI at h ⊢
  rw [List.length_map, List.length_range] at h
  rw [List.getElem?_map, List.getElem?_range h]
  rfl
theorem wk_rng {lo hi : Int} : Wk K ρ H (rngI lo hi) [] (Itr lo (hi - lo).toNat) := by
  have hl : (rngI lo hi).length = (hi - lo).toNat := by unfold rngI; simp
  refine ⟨_, _, by rw [hl]; exact walk_range, fun _ _ _ _ _ _ => trivial, fun i ρ2 H2 st2 x H3 g S _ hi' y => ?_⟩
  obtain ⟨rfl, rfl⟩ := y
  exact ⟨Grow.refl _ _, S, _, rngI_get hi', .int _⟩
theorem pairs_len : ∀ (l : List D) (n : Nat), (pairs n l).length = l.length
  | [], _ => rfl
  | _ :: r, n => congrArg (· + 1) (pairs_len r (n + 1))
theorem pairs_get : ∀ (l : List D) (n i : Nat), (pairs n l)[i]? = (l[i]?).map fun d => .tup [.int ((n + i : Nat) : Int), d]
  | [], _, _ => by simp [pairs]
  | d :: r, n, 0 => by simp [pairs]
  | d :: r, n, i + 1 => by
    have := pairs_get r (n + 1) i
    simp only [pairs, List.getElem?_cons_succ, this]
    congr 2
    funext z
    congr 4
    omega
theorem rep_pair {ρ2 : List Addr} {H2 : Hp} {st2 : Store} {T : Addr} {i : Nat} {d : D} {v : V} (S : Sim K ρ2 st2 H2) (hT : H2 T = none) (r : Rep K ρ2 H2 d v) : Grow ρ2 H2 ρ2 (upd H2 T (.tup [.int (i : Nat), v])) ∧ Sim K ρ2 st2 (upd H2 T (.tup [.int (i : Nat), v])) ∧
    Rep K ρ2 (upd H2 T (.tup [.int (i : Nat), v])) (.tup [.int (i : Nat), d]) (.ref T) :=
  ⟨grow_new hT, S.new hT, .tup (.inl (.inl upd_same)) (.cons (.int _) (.cons (r.grow (grow_new hT)) .nil)) (.inl upd_same)⟩
theorem walk_enumL {a : Addr} {n : Nat} : Walk (Ite K a) n (fun H => ∃ vs, SqL K H a vs ∧ vs.length = n) (fun i H v H' => ∃ T x, v = .ref T ∧ H T = none ∧ H' = upd H T (.tup [.int (i : Nat), x]) ∧ ∀ xs, SqL K H a xs → xs[i]? = some x) :=
  ⟨fun i H hi ⟨vs, h, hl⟩ => ⟨vs, vs[i]'(by omega), h, by simp⟩, fun H ⟨vs, h, hl⟩ => ⟨vs, h, by omega⟩, fun i H x H' _ _ y => y⟩
theorem wk_enumL {a : Addr} {ds : List D} {gd : List (Nat × List D)} (look : ∀ {ρ2 : List Addr} {H2 : Hp} {st2 : Store}, Grow ρ H ρ2 H2 → Sim K ρ2 st2 H2 → gdOk st2 gd = true → ∃ vs, SqL K H2 a vs ∧ Reps K ρ2 H2 ds vs) : Wk K ρ H (pairs 0 ds) gd (Ite K a) := by
  refine ⟨_, _, by rw [pairs_len]; exact walk_enumL, fun ρ2 H2 st2 g S h => ?_, fun i ρ2 H2 st2 x H3 g S h hi y => ?_⟩
  · obtain ⟨vs, h1, h2⟩ := look g S h
    exact ⟨vs, h1, h2.length.symm⟩
  · obtain ⟨T, v, rfl, hT, rfl, y⟩ := y
    obtain ⟨vs, h1, h2⟩ := look g S h
    obtain ⟨d, h3, h4⟩ := h2.get' (y vs h1)
    obtain ⟨q1, q2, q3⟩ := rep_pair (i := i) S hT h4
    refine ⟨q1, q2, _, ?_, q3⟩
    rw [pairs_get, h3]
    simp
theorem wk_enumS {z : Str} : Wk K ρ H (pairs 0 (z.cps.toList.map fun c => D.str ⟨#[c]⟩)) [] (Itx z.cps.size fun i v => ∃ c, z.cps[i]? = some c ∧ v = .str ⟨#[c]⟩) := by
  have hl : (pairs 0 (z.cps.toList.map fun c => D.str ⟨#[c]⟩)).length = z.cps.size := by rw [pairs_len]; simp
  refine ⟨fun _ => True, fun i H v H' => ∃ T x, v = .ref T ∧ H T = none ∧ H' = upd H T (.tup [.int (i : Nat), x]) ∧ ∃ c, z.cps[i]? = some c ∧ x = .str ⟨#[c]⟩, ?_, fun _ _ _ _ _ _ => trivial, fun i ρ2 H2 st2 x H3 g S _ hi y => ?_⟩
  · rw [hl]
    exact ⟨fun i H hi _ => hi, fun H _ => Nat.le_refl _, fun i H x H' _ _ y => y⟩
  · obtain ⟨T, v, rfl, hT, rfl, c, h1, rfl⟩ := y
    obtain ⟨q1, q2, q3⟩ := rep_pair (i := i) S hT (.str (K := K) (ρ := ρ2) (H := H2) ⟨#[c]⟩)
    refine ⟨q1, q2, _, ?_, q3⟩
    rw [pairs_get, List.getElem?_map, Array.getElem?_toList, h1]
    simp
end
section
variable {X : Cx} {tg a b : Expr} {ma mb : Env → M D} {p pos : Pos}
theorem sndI_seq (ha : SndE X a ma) : SndI X tg a (fun env => M.bind (ma env) fun x => seqS x) := by
  intro ρ st env σ H pr st' S R e
  obtain ⟨x, st1, e1, e2⟩ := bind_ok e
  unfold seqS at e2
  split at e2
  · cases e2
    refine ⟨_, pi_tup pe_we, fun R' h => ha ρ st env σ H _ _ S R e1 _ fun ρ1 H1 v g1 S1 r1 => ?_⟩
    obtain ⟨ad, vs, rfl, h1, h2⟩ := rep_tup r1
    exact ⟨ad, rfl, ⟨vs, h1⟩, h ρ1 H1 _ g1 S1 (wk_tup h1 h2)⟩
  · cases e2
    refine ⟨_, pi_list pe_we, fun R' h => ha ρ st env σ H _ _ S R e1 _ fun ρ1 H1 v g1 S1 r1 => ?_⟩
    cases r1 with
    | fls h1 h2 => exact ⟨_, rfl, ⟨_, h1.sq⟩, h ρ1 H1 _ g1 S1 (wk_fls h1 h2)⟩
  · cases e2
    refine ⟨_, pi_str pe_we, fun R' h => ha ρ st env σ H _ _ S R e1 _ fun ρ1 H1 v g1 S1 r1 => ?_⟩
    cases r1
    exact ⟨_, rfl, h ρ1 H1 _ g1 S1 wk_str⟩
  · split at e2
    · rename_i xs hj
      cases e2
      refine ⟨_, pi_list pe_we, fun R' h => ha ρ st env σ H _ _ S R e1 _ fun ρ1 H1 v g1 S1 r1 => ?_⟩
      cases r1 with
      | ob hx =>
        obtain ⟨vs, h1, h2⟩ := S1.ob _ _ _ hj hx
        exact ⟨_, rfl, ⟨vs, SqL.of h1⟩, h ρ1 H1 _ g1 S1 (wk_lst hx)⟩
    · cases e2
  · cases e2
theorem rng_ok {i : Int} (h : rngOk i = true) : -(2 ^ 62) ≤ i ∧ i < 2 ^ 62 := by
  unfold rngOk at h
  rw [Bool.and_eq_true] at h
  exact ⟨of_decide_eq_true h.1, of_decide_eq_true h.2⟩
theorem sndI_rng1 (hg : Gl X "range") (hm : X.mg "range" = none) (hs : starEach [a] X.env = [(false, eval a X.env)]) (ha : SndE X a ma) : SndI X tg (.Call (.Name "range" p) [a] [] pos) (fun env => M.bind (ma env) fun x => match x with
    | .int n => fun st => if rngOk n = true then .ok (rngI 0 n, []) st else .no
    | _ => fun _ => .no) := by
  intro ρ st env σ H pr st' S R e
  obtain ⟨x, st1, e1, e2⟩ := bind_ok e
  cases x with
  | int n =>
    dsimp only at e2
    split at e2
    · rename_i hr
      cases e2
      obtain ⟨h1, h2⟩ := rng_ok hr
      refine ⟨_, pi_range1 hg hm (pa_cons pe_we pa_nil hs) hs, fun R' h => ha ρ st env σ H _ _ S R e1 _ fun ρ1 H1 v g1 S1 r1 => ?_⟩
      cases r1
      have w := wk_rng (K := X.K) (ρ := ρ1) (H := H1) (lo := 0) (hi := n)
      rw [Int.sub_zero] at w
      exact ⟨n, rfl, h1, h2, h ρ1 H1 _ g1 S1 w⟩
    · cases e2
  | _ => cases e2
theorem sndI_rng2 (hg : Gl X "range") (hm : X.mg "range" = none) (hs : starEach [a, b] X.env = [(false, eval a X.env), (false, eval b X.env)]) (hs2 : starEach [b] X.env = [(false, eval b X.env)]) (ha : SndE X a ma) (hb : SndE X b mb) :
    SndI X tg (.Call (.Name "range" p) [a, b] [] pos) (fun env => M.bind (ma env) fun x => M.bind (mb env) fun y => match x, y with
    | .int l, .int h => fun st => if rngOk l = true ∧ rngOk h = true then .ok (rngI l h, []) st else .no
    | _, _ => fun _ => .no) := by
  intro ρ st env σ H pr st' S R e
  obtain ⟨x, st1, e1, e2⟩ := bind_ok e
  obtain ⟨y, st2, e2', e3⟩ := bind_ok e2
  clear e2 e
  split at e3
  · rename_i l h
    split at e3
    · rename_i hr
      cases e3
      obtain ⟨h1, h2⟩ := rng_ok hr.1
      obtain ⟨h3, h4⟩ := rng_ok hr.2
      refine ⟨_, pi_range2 hg hm (pa_cons pe_we (pa_cons pe_we pa_nil hs2) (by rw [hs, hs2])) hs hs2, fun R' hR => snd_two ha hb S R e1 e2' fun ρ' H' v w g' S' r1 r2 => ?_⟩
      cases r1; cases r2
      exact ⟨l, h, rfl, ⟨h1, h2, h3, h4⟩, hR ρ' H' _ g' S' wk_rng⟩
    · cases e3
  · cases e3
theorem sndI_enum {elts : List Expr} {kk : Nat} {tpos : Pos} (hg : Gl X "enumerate") (hm : X.mg "enumerate" = none) (hs : starEach [a] X.env = [(false, eval a X.env)]) (ha : SndE X a ma) :
    SndI X (.Tuple elts kk tpos) (.Call (.Name "enumerate" p) [a] [] pos) (fun env => M.bind (ma env) fun x => enumS x) := by
  intro ρ st env σ H pr st' S R e
  obtain ⟨x, st1, e1, e2⟩ := bind_ok e
  unfold enumS at e2
  split at e2
  · cases e2
    refine ⟨_, pi_enum hg hm (pa_cons pe_we pa_nil hs) hs, fun R' h => ha ρ st env σ H _ _ S R e1 _ fun ρ1 H1 v g1 S1 r1 => ?_⟩
    cases r1 with
    | fls h1 h2 => exact ⟨_, _, rfl, h1.sq, h ρ1 H1 _ g1 S1 (wk_enumL fun g S _ => ⟨_, (g.sqf h1).sq, h2.grow g⟩)⟩
  · cases e2
    refine ⟨_, pi_enumS hg hm (pa_cons pe_we pa_nil hs) hs, fun R' h => ha ρ st env σ H _ _ S R e1 _ fun ρ1 H1 v g1 S1 r1 => ?_⟩
    cases r1
    exact ⟨_, rfl, h ρ1 H1 _ g1 S1 wk_enumS⟩
  · split at e2
    · rename_i xs hj
      cases e2
      refine ⟨_, pi_enum hg hm (pa_cons pe_we pa_nil hs) hs, fun R' h => ha ρ st env σ H _ _ S R e1 _ fun ρ1 H1 v g1 S1 r1 => ?_⟩
      cases r1 with
      | ob hx =>
        obtain ⟨vs, h1, h2⟩ := S1.ob _ _ _ hj hx
        refine ⟨_, vs, rfl, SqL.of h1, h ρ1 H1 _ g1 S1 (wk_enumL fun {ρ2 H2 st2} g S hgd => ?_)⟩
        obtain ⟨vs', h3, h4⟩ := S.ob _ _ _ (gd_one.mp hgd) (g.ix hx)
        exact ⟨vs', SqL.of h3, h4⟩
    · cases e2
  · cases e2
end
theorem pairs2_len : ∀ xs ys : List D, (pairs2 xs ys).length = min xs.length ys.length
  | [], _ => by simp [pairs2]
  | _ :: _, [] => by simp [pairs2]
  | x :: xs, y :: ys => by simp only [pairs2, List.length_cons, pairs2_len xs ys]; omega
theorem pairs2_get : ∀ (xs ys : List D) (i : Nat) (x y : D), xs[i]? = some x → ys[i]? = some y → (pairs2 xs ys)[i]? = some (.tup [x, y])
  | [], _, _, _, _, h, _ => by simp at h
  | _ :: _, [], _, _, _, _, h => by simp at h
  | x :: xs, y :: ys, 0, a, b, h1, h2 => by simp at h1 h2; simp [pairs2, h1, h2]
  | x :: xs, y :: ys, i + 1, a, b, h1, h2 => by
    simp only [pairs2, List.getElem?_cons_succ] at h1 h2 ⊢
    exact pairs2_get xs ys i a b h1 h2
theorem rep_two {K : PySem.W.Frag} {ρ2 : List Addr} {H2 : Hp} {st2 : Store} {T : Addr} {d e : D} {v w : V} (S : Sim K ρ2 st2 H2) (hT : H2 T = none) (r : Rep K ρ2 H2 d v) (q : Rep K ρ2 H2 e w) : Grow ρ2 H2 ρ2 (upd H2 T (.tup [v, w])) ∧ Sim K ρ2 st2 (upd H2 T (.tup [v, w])) ∧
    Rep K ρ2 (upd H2 T (.tup [v, w])) (.tup [d, e]) (.ref T) :=
  ⟨grow_new hT, S.new hT, .tup (.inl (.inl upd_same)) (.cons (r.grow (grow_new hT)) (.cons (q.grow (grow_new hT)) .nil)) (.inl upd_same)⟩
theorem walk_zipL {K : PySem.W.Frag} {a b : Addr} {n : Nat} : Walk (Itz K a b) n (fun H => ∃ xs ys, SqL K H a xs ∧ SqL K H b ys ∧ min xs.length ys.length = n)
    (fun i H v H' => ∃ T x y, v = .ref T ∧ H T = none ∧ H' = upd H T (.tup [x, y]) ∧ (∀ xs, SqL K H a xs → xs[i]? = some x) ∧ ∀ ys, SqL K H b ys → ys[i]? = some y) :=
  ⟨fun i H hi ⟨xs, ys, h1, h2, hl⟩ => ⟨xs, ys, xs[i]'(by omega), ys[i]'(by omega), h1, h2, by simp, by simp⟩, fun H ⟨xs, ys, h1, h2, hl⟩ => ⟨xs, ys, h1, h2, by omega⟩, fun i H x H' _ _ y => y⟩
theorem walk_zipT {K : PySem.W.Frag} {a b : Addr} {n : Nat} : Walk (RZ.ItzT K a b) n (fun H => ∃ xs ys, SqT K H a xs ∧ SqT K H b ys ∧ min xs.length ys.length = n)
    (fun i H v H' => ∃ T x y, v = .ref T ∧ H T = none ∧ H' = upd H T (.tup [x, y]) ∧ (∀ xs, SqT K H a xs → xs[i]? = some x) ∧ ∀ ys, SqT K H b ys → ys[i]? = some y) :=
  ⟨fun i H hi ⟨xs, ys, h1, h2, hl⟩ => ⟨xs, ys, xs[i]'(by omega), ys[i]'(by omega), h1, h2, by simp, by simp⟩, fun H ⟨xs, ys, h1, h2, hl⟩ => ⟨xs, ys, h1, h2, by omega⟩, fun i H x H' _ _ y => y⟩
theorem wk_zipL {K : PySem.W.Frag} {ρ : List Addr} {H : Hp} {a b : Addr} {ds es : List D} {gd : List (Nat × List D)} (look : ∀ {ρ2 : List Addr} {H2 : Hp} {st2 : Store}, Grow ρ H ρ2 H2 → Sim K ρ2 st2 H2 → gdOk st2 gd = true → ∃ vs ws, SqL K H2 a vs ∧ Reps K ρ2 H2 ds vs ∧ SqL K H2 b ws ∧ Reps K ρ2 H2 es ws) : Wk K ρ H (pairs2 ds es) gd (Itz K a b) := by
  refine ⟨_, _, by rw [pairs2_len]; exact walk_zipL, fun ρ2 H2 st2 g S h => ?_, fun i ρ2 H2 st2 x H3 g S h hi y => ?_⟩
  · obtain ⟨vs, ws, h1, h2, h3, h4⟩ := look g S h
    exact ⟨vs, ws, h1, h3, by rw [h2.length, h4.length]⟩
  · obtain ⟨T, v, w, rfl, hT, rfl, y1, y2⟩ := y
    obtain ⟨vs, ws, h1, h2, h3, h4⟩ := look g S h
    obtain ⟨d, d1, d2⟩ := h2.get' (y1 vs h1)
    obtain ⟨e, e1, e2⟩ := h4.get' (y2 ws h3)
    obtain ⟨q1, q2, q3⟩ := rep_two S hT d2 e2
    exact ⟨q1, q2, _, pairs2_get _ _ _ _ _ d1 e1, q3⟩
theorem wk_zipT {K : PySem.W.Frag} {ρ : List Addr} {H : Hp} {a b : Addr} {ds es : List D} {gd : List (Nat × List D)} (look : ∀ {ρ2 : List Addr} {H2 : Hp} {st2 : Store}, Grow ρ H ρ2 H2 → Sim K ρ2 st2 H2 → gdOk st2 gd = true → ∃ vs ws, SqT K H2 a vs ∧ Reps K ρ2 H2 ds vs ∧ SqT K H2 b ws ∧ Reps K ρ2 H2 es ws) : Wk K ρ H (pairs2 ds es) gd (RZ.ItzT K a b) := by
  refine ⟨_, _, by rw [pairs2_len]; exact walk_zipT, fun ρ2 H2 st2 g S h => ?_, fun i ρ2 H2 st2 x H3 g S h hi y => ?_⟩
  · obtain ⟨vs, ws, h1, h2, h3, h4⟩ := look g S h
    exact ⟨vs, ws, h1, h3, by rw [h2.length, h4.length]⟩
  · obtain ⟨T, v, w, rfl, hT, rfl, y1, y2⟩ := y
    obtain ⟨vs, ws, h1, h2, h3, h4⟩ := look g S h
    obtain ⟨d, d1, d2⟩ := h2.get' (y1 vs h1)
    obtain ⟨e, e1, e2⟩ := h4.get' (y2 ws h3)
    obtain ⟨q1, q2, q3⟩ := rep_two S hT d2 e2
    exact ⟨q1, q2, _, pairs2_get _ _ _ _ _ d1 e1, q3⟩
theorem sndI_zip {X : Cx} {a b : Expr} {ma mb : Env → M D} {p pos : Pos} {elts : List Expr} {kk : Nat} {tpos : Pos} (hg : Gl X "zip") (hm : X.mg "zip" = none) (hs : starEach [a, b] X.env = (false, eval a X.env) :: starEach [b] X.env) (hs2 : starEach [b] X.env = [(false, eval b X.env)]) (ha : SndE X a ma) (hb : SndE X b mb) :
    SndI X (.Tuple elts kk tpos) (.Call (.Name "zip" p) [a, b] [] pos) (fun env => M.bind (ma env) fun x => M.bind (mb env) fun y => zipS x y) := by
  intro ρ st env σ H pr st' S R e
  obtain ⟨x, st1, e1, e⟩ := bind_ok e
  obtain ⟨y, st2, e2, e3⟩ := bind_ok e
  have hpl : (backTo pos (starEach [b] X.env)).any (·.1) = false := by rw [hs2]; rfl
  refine ⟨_, RZ.pi_zipA hg hm (pa_cons pe_we (pa_cons pe_we pa_nil hs2) (by rw [hs, hs2])) hs hpl, fun R' h => ?_⟩
  refine snd_two ha hb S R e1 e2 fun ρ1 H1 v w g1 S1 r1 r2 => ?_
  unfold zipS at e3
  split at e3
  · cases e3
    cases r1 with
    | tup h1 h2 _ =>
      cases r2 with
      | tup h3 h4 _ => exact ⟨_, _, _, _, rfl, .inr ⟨h1, h3, h ρ1 H1 _ g1 S1 (wk_zipT fun g S _ => ⟨_, _, g.sqt h1, h2.grow g, g.sqt h3, h4.grow g⟩)⟩⟩
  · split at e3
    · rename_i xs ys hj hi
      cases e3
      cases r1 with
      | ob hx =>
        cases r2 with
        | ob hy =>
          obtain ⟨vs, h1, h2⟩ := S1.ob _ _ _ hj hx
          obtain ⟨ws, h3, h4⟩ := S1.ob _ _ _ hi hy
          refine ⟨_, _, vs, ws, rfl, .inl ⟨SqL.of h1, SqL.of h3, h ρ1 H1 _ g1 S1 (wk_zipL fun {ρ2 H2 st2} g S hgd => ?_)⟩⟩
          obtain ⟨k1, k2⟩ := gd_two.mp hgd
          obtain ⟨vs', h5, h6⟩ := S.ob _ _ _ k1 (g.ix hx)
          obtain ⟨ws', h7, h8⟩ := S.ob _ _ _ k2 (g.ix hy)
          exact ⟨vs', ws', SqL.of h5, h6, SqL.of h7, h8⟩
    · cases e3
  · cases e3
end W9

/-! W9m: targets, loops, comprehensions, statements -/
namespace W9
open PySem L2
def WG (X : Cx) (tg : Expr) : TG := fun v σ H Q => ∀ (pins : List (Addr × Obj)) (s : Shared) (u : Value), Inv X pins σ H s → RelV v u → wpAny (model X.prog X.w) X.A (assign tg X.env u) (fun _ s' => ∃ σ' H', Inv X pins σ' H' s' ∧ Q σ' H') X.xe s
theorem pg_wg {X : Cx} {tg : Expr} : PG X tg (WG X tg) := ⟨fun pins s σ H v u Q I r h => h pins s u I r⟩
theorem wg_of {X : Cx} {tg : Expr} {t : TG} {v : V} {σ : L2.St} {H : Hp} {Q : L2.St → Hp → Prop} (p : PG X tg t) (h : t v σ H Q) : WG X tg v σ H Q := fun pins s u I r => p.run pins s σ H v u Q I r h
def Tg.slots : Tg → List Nat
  | .name i => [i]
  | .tup is => is
  | .nest i is => i :: is
def SndG (X : Cx) (tg : Expr) (t : Tg) : Prop := ∀ ρ st env σ H d v env', Sim X.K ρ st H → EnvR X.K ρ H env σ → Rep X.K ρ H d v → bindT t d env st = some env' → ∀ Q : L2.St → Hp → Prop,
  (∀ σ', EnvR X.K ρ H env' σ' → (∀ vs : List Nat, (∀ i ∈ t.slots, i ∈ vs) → wipe σ' vs = wipe σ vs) → Q σ' H) → WG X tg v σ H Q
theorem wipe_at {σ : L2.St} {j : Nat} (hj : j < σ.length) : ∀ {vs : List Nat}, j ∈ vs → (wipe σ vs)[j]? = some none
  | [], h => absurd h (by simp)
  | v :: vs, h => by
    unfold wipe
    by_cases e : v = j
    · subst e
      rw [List.getElem?_set_self (by rw [wipe_length]; exact hj)]
    · rw [List.getElem?_set_ne e]
      rcases List.mem_cons.mp h with h | h
      · exact absurd h.symm e
      · exact wipe_at hj h
theorem wipe_set {σ : L2.St} {i : Nat} {x : Option V} {vs : List Nat} (hi : i ∈ vs) : wipe (σ.set i x) vs = wipe σ vs := by
  apply List.ext_getElem?
  intro j
  by_cases hj : j < σ.length
  · by_cases hv : j ∈ vs
    · rw [wipe_at (by simpa using hj) hv, wipe_at hj hv]
    · rw [wipe_out hv, wipe_out hv, List.getElem?_set_ne (fun e => hv (by rw [← e]; exact hi))]
  · rw [List.getElem?_eq_none (by rw [wipe_length]; simpa using hj), List.getElem?_eq_none (by rw [wipe_length]; simpa using hj)]
section
variable {X : Cx} {pos : Pos}
theorem sndG_name {i : Nat} {x : Str} (hN : X.N.Nodup) (hi : X.N[i]? = some x) (hx : Loc X.env.scope x) (hf : X.fn x = true ∨ X.env.scope.names.lookup x = some .local) : SndG X (.Name x pos) (.name i) := by
  intro ρ st env σ H d v env' S R r e Q h
  simp only [bindT] at e
  cases e
  exact wg_of (pg_name hN hi hx hf) (h _ (R.set r i) fun vs hv => wipe_set (hv i (by simp [Tg.slots])))
/-- names one after another -/
def gNames : List Nat → TGs
  | [] => gNil
  | i :: is => gCons (gName i) (gNames is)
def nameOk (X : Cx) (e : Expr) (i : Nat) : Prop := ∃ x p, e = .Name x p ∧ X.N[i]? = some x ∧ Loc X.env.scope x ∧ (X.fn x = true ∨ X.env.scope.names.lookup x = some .local)
inductive Nms (X : Cx) : List Expr → List Nat → Prop
  | nil : Nms X [] []
  | cons {e : Expr} {es : List Expr} {i : Nat} {is : List Nat} : nameOk X e i → Nms X es is → Nms X (e :: es) (i :: is)
theorem pgs_names (hN : X.N.Nodup) : ∀ {es : List Expr} {is : List Nat}, Nms X es is → PGs X es (gNames is)
  | _, _, .nil => pgs_nil
  | _, _, .cons (es := es) h t => by
    obtain ⟨x, p, rfl, h1, h2, h3⟩ := h
    exact pgs_cons (pg_name hN h1 h2 h3) (pgs_names hN t) rfl
theorem nms_len : ∀ {es : List Expr} {is : List Nat}, Nms X es is → (assignEach es X.env).length = is.length ∧ (assignEach es X.env).findIdx? (·.1) = none ∧ es.length = is.length
  | _, _, .nil => ⟨rfl, rfl, rfl⟩
  | _, _, .cons h t => by
    obtain ⟨x, p, rfl, _⟩ := h
    obtain ⟨h1, h2, h3⟩ := nms_len t
    refine ⟨congrArg (· + 1) h1, ?_, congrArg (· + 1) h3⟩
    show List.findIdx? (·.1) ((false, assign (.Name x p) X.env) :: assignEach _ X.env) = none
    rw [List.findIdx?_cons]
    simp [h2]
theorem gNames_run {K : PySem.W.Frag} {ρ : List Addr} {H : Hp} {Q : L2.St → Hp → Prop} : ∀ (is : List Nat) (ds : List D) (vs : List V) (env : Env) (σ : L2.St), ds.length = is.length → Reps K ρ H ds vs → EnvR K ρ H env σ →
    (∀ σ', EnvR K ρ H ((is.zip ds).foldl (fun e p => e.set p.1 (some p.2)) env) σ' → (∀ ws : List Nat, (∀ i ∈ is, i ∈ ws) → wipe σ' ws = wipe σ ws) → Q σ' H) → gNames is vs σ H Q := by
  intro is
  induction is with
  | nil =>
    intro ds vs env σ hl r R h
    cases r with
    | nil => exact ⟨rfl, h σ R fun _ _ => rfl⟩
    | cons _ _ => simp at hl
  | cons i is ih =>
    intro ds vs env σ hl r R h
    cases r with
    | nil => simp at hl
    | @cons d ds v vs r t =>
      refine ⟨v, vs, rfl, ih ds vs _ _ (by simpa using hl) t (R.set r i) fun σ' R' hw => h σ' R' fun ws hws => ?_⟩
      rw [hw ws fun j hj => hws j (List.mem_cons_of_mem _ hj), wipe_set (hws i List.mem_cons_self)]
theorem sndG_tup {es : List Expr} {is : List Nat} {k : Nat} (hc : X.calm = true) (hN : X.N.Nodup) (hn : Nms X es is) : SndG X (.Tuple es k pos) (.tup is) := by
  intro ρ st env σ H d v env' S R r e Q h
  obtain ⟨l1, l2, l3⟩ := nms_len hn
  simp only [bindT] at e
  split at e
  · rename_i xs
    split at e
    · rename_i hl
      cases e
      obtain ⟨a, vs, rfl, h1, h2⟩ := rep_tup r
      exact wg_of (pg_tup hc (pgs_names hN hn) l1 l2) ⟨a, vs, rfl, h1, by rw [← h2.length]; exact hl, gNames_run _ _ _ _ _ hl h2 R h⟩
    · cases e
  · split at e
    · rename_i xs hj
      split at e
      · rename_i hl
        cases e
        cases r with
        | ob hx =>
          obtain ⟨vs, h1, h2⟩ := S.ob _ _ _ hj hx
          exact wg_of (pg_lst hc (pgs_names hN hn) l1 l2) ⟨_, vs, rfl, SqL.of h1, by rw [← h2.length]; exact hl, gNames_run _ _ _ _ _ hl h2 R h⟩
      · cases e
    · cases e
  · cases e

/-- (name, (name, ..)) -/
theorem sndG_nest {x : Str} {px p2 : Pos} {es : List Expr} {i : Nat} {is : List Nat} {k k2 : Nat} (hc : X.calm = true) (hN : X.N.Nodup) (h1 : nameOk X (.Name x px) i) (hn : Nms X es is) : SndG X (.Tuple [.Name x px, .Tuple es k2 p2] k pos) (.nest i is) := by
  intro ρ st env σ H d v env' S R r e Q h
  obtain ⟨l1, l2, l3⟩ := nms_len hn
  obtain ⟨x', p', e0, n1, n2, n3⟩ := h1
  cases e0
  simp only [bindT] at e
  split at e
  · rename_i d1 xs
    split at e
    · rename_i hl
      cases e
      obtain ⟨a, vs, rfl, q1, q2⟩ := rep_tup r
      cases q2 with
      | @cons _ _ v1 _ r1 q3 =>
        cases q3 with
        | @cons _ _ v2 _ r2 q4 =>
          cases q4
          obtain ⟨a2, vs2, rfl, t1, t2⟩ := rep_tup r2
          refine wg_of (pg_tup (n := 2) hc (pgs_cons (pg_name hN n1 n2 n3) (pgs_cons (pg_tup hc (pgs_names hN hn) l1 l2) pgs_nil rfl) rfl) rfl rfl) ⟨a, _, rfl, q1, rfl, v1, _, rfl, .ref a2, [], rfl, a2, vs2, rfl, t1, by rw [← t2.length]; exact hl, ?_⟩
          refine gNames_run _ _ _ _ _ hl t2 (R.set r1 i) fun σ' R' hw => ⟨rfl, h σ' R' fun ws hws => ?_⟩
          rw [hw ws fun j hj => hws j (List.mem_cons_of_mem _ hj), wipe_set (hws i List.mem_cons_self)]
    · cases e
  · cases e
/-! ### statements -/
def PostF (K : PySem.W.Frag) (ρ : List Addr) (H : Hp) (st : Store) (fl : Fl) (D : Ends) : Prop := match fl with
  | .nx env => ∀ ρ' H' σ', Grow ρ H ρ' H' → Sim K ρ' st H' → EnvR K ρ' H' env σ' → D.nx σ' H'
  | .bk env => ∀ ρ' H' σ', Grow ρ H ρ' H' → Sim K ρ' st H' → EnvR K ρ' H' env σ' → D.bk σ' H'
  | .ct env => ∀ ρ' H' σ', Grow ρ H ρ' H' → Sim K ρ' st H' → EnvR K ρ' H' env σ' → D.ct σ' H'
  | .ret d => ∀ ρ' H' v, Grow ρ H ρ' H' → Sim K ρ' st H' → Rep K ρ' H' d v → D.rt v H'
theorem PostF.grow {K : PySem.W.Frag} {ρ ρ1 : List Addr} {H H1 : Hp} {st : Store} {fl : Fl} {D : Ends} (p : PostF K ρ H st fl D) (g : Grow ρ H ρ1 H1) : PostF K ρ1 H1 st fl D := by
  cases fl with
  | nx env => exact fun ρ' H' σ' g' S R => p ρ' H' σ' (g.trans g') S R
  | bk env => exact fun ρ' H' σ' g' S R => p ρ' H' σ' (g.trans g') S R
  | ct env => exact fun ρ' H' σ' g' S R => p ρ' H' σ' (g.trans g') S R
  | ret d => exact fun ρ' H' v g' S R => p ρ' H' v (g.trans g') S R
def SndS (X : Cx) (s : Stmt) (m : Env → M Fl) : Prop := ∀ ρ st env σ H fl st', Sim X.K ρ st H → EnvR X.K ρ H env σ → m env st = .ok fl st' → ∀ D, PostF X.K ρ H st' fl D → WS X s D σ H
def SndSs (X : Cx) (s : List Stmt) (m : Env → M Fl) : Prop := ∀ ρ st env σ H fl st', Sim X.K ρ st H → EnvR X.K ρ H env σ → m env st = .ok fl st' → ∀ D, PostF X.K ρ H st' fl D → WSs X s D σ H
theorem sndSs_nil : SndSs X [] (fun env st => .ok (.nx env) st) := by
  intro ρ st env σ H fl st' S R e D P
  cases e
  exact wss_of pss_nil (P ρ H σ (Grow.refl _ _) S R)
theorem sndSs_cons {s : Stmt} {r : List Stmt} {m : Env → M Fl} {mr : Env → M Fl} (h1 : SndS X s m) (h2 : SndSs X r mr) : SndSs X (s :: r) (fun env => M.bind (m env) fun fl => match fl with
    | .nx e1 => mr e1
    | .ret d => fun st => .ok (.ret d) st
    | .bk e1 => fun st => .ok (.bk e1) st
    | .ct e1 => fun st => .ok (.ct e1) st) := by
  intro ρ st env σ H fl st' S R e D P
  obtain ⟨f1, st1, e1, e2⟩ := bind_ok e
  refine wss_of (pss_cons ps_ws pss_ws) (h1 ρ st env σ H f1 st1 S R e1 _ ?_)
  cases f1 with
  | nx env1 => exact fun ρ' H' σ' g' S' R' => h2 ρ' st1 env1 σ' H' fl st' S' R' e2 D (P.grow g')
  | ret d => cases e2; exact P
  | bk env1 => cases e2; exact P
  | ct env1 => cases e2; exact P
variable {a b c o i : Expr} {ma mb mo mi : Env → M D} {tc : Env → M Bool} {x : Str} {j : Nat}
theorem sndS_asg {pos' : Pos} (hN : X.N.Nodup) (hj : X.N[j]? = some x) (hx : Loc X.env.scope x) (hf : X.fn x = true ∨ X.env.scope.names.lookup x = some .local) (hs : swapsWith a (some (.Name x pos')) pos.line X.env = pure false) (ha : SndE X a ma) :
    SndS X (.Assign [.Name x pos'] a pos) (fun env => M.bind (ma env) fun d st => .ok (.nx (env.set j (some d))) st) := by
  intro ρ st env σ H fl st' S R e D P
  obtain ⟨d, st1, e1, e2⟩ := bind_ok e
  cases e2
  exact ws_of (ps_set hN hj hx pe_we hs hf) (ha ρ st env σ H d _ S R e1 _ fun ρ1 H1 v g1 S1 r1 => P ρ1 H1 _ g1 S1 ((R.grow g1).set r1 j))
theorem sndS_tgt {tg : Expr} {is : List Nat} (hs : swapsWithSole [tg] a pos.line X.env = pure false) (hw : swappedStores [tg] a X.env = pure none) (h1 : (assignEach [tg] X.env).map (·.2) = [assign tg X.env]) (ha : SndE X a ma) (hg : SndG X tg (.tup is)) :
    SndS X (.Assign [tg] a pos) (fun env => M.bind (ma env) fun d st => match bindT (.tup is) d env st with | some env1 => .ok (.nx env1) st | none => .no) := by
  intro ρ st env σ H fl st' S R e D P
  obtain ⟨d, st1, e1, e2⟩ := bind_ok e
  split at e2
  · rename_i env1 hb
    cases e2
    exact ws_of (ps_asg pe_we pg_wg hs hw h1) (ha ρ st env σ H d _ S R e1 _ fun ρ1 H1 v g1 S1 r1 => hg ρ1 _ env σ H1 d v env1 S1 (R.grow g1) r1 hb _ fun σ' R' _ => P ρ1 H1 σ' g1 S1 R')
  · cases e2
theorem sndS_par2 {y : Str} {l k2 : Nat} {kt : Nat} {px py pt pt2 : Pos} {ms : Env → M (List D)} (hc : X.calm = true) (hN : X.N.Nodup) (hj : X.N[j]? = some x) (hl : X.N[l]? = some y) (hjl : j ≠ l) (hx : X.env.scope.names.lookup x = some .local) (hy : X.env.scope.names.lookup y = some .local)
    (hw : swappedStores [.Tuple [.Name x px, .Name y py] kt pt] (.Tuple [a, b] k2 pt2) X.env = pure (some [x, y])) (hA : SndA X [a, b] ms) :
    SndS X (.Assign [.Tuple [.Name x px, .Name y py] kt pt] (.Tuple [a, b] k2 pt2) pos) (fun env => M.bind (M.bind (ms env) fun ds st => if ds.length ≤ bigN then .ok (.tup ds) st else .no) fun d st => match bindT (.tup [j, l]) d env st with | some env1 => .ok (.nx env1) st | none => .no) := by
  intro ρ st env σ H fl st' S R e D P
  obtain ⟨d, st1, e1, e2⟩ := bind_ok e
  obtain ⟨ds, st2, e1, e3⟩ := bind_ok e1
  split at e3
  · cases e3
    simp only [bindT] at e2
    split at e2
    · rename_i env1 hb
      cases e2
      split at hb
      · rename_i hlen
        cases hb
        refine ws_of (ps_par hc hN hj hl hjl hx hy pa_wa hw rfl) (hA ρ st env σ H ds _ S R e1 _ fun ρ1 H1 vs g1 S1 r1 => ?_)
        match ds, vs, r1, hlen with
        | [d1, d2], [v1, v2], .cons q1 (.cons q2 .nil), _ => exact ⟨v1, v2, rfl, P ρ1 H1 _ g1 S1 (((R.grow g1).set q1 j).set q2 l)⟩
      · cases hb
    · cases e2
  · cases e3
theorem sndS_par3 {y z : Str} {l n k2 : Nat} {kt : Nat} {px py pz pt pt2 : Pos} {ms : Env → M (List D)} (hc : X.calm = true) (hN : X.N.Nodup) (hj : X.N[j]? = some x) (hl : X.N[l]? = some y) (hn : X.N[n]? = some z) (hjl : j ≠ l) (hjn : j ≠ n) (hln : l ≠ n)
    (hx : X.env.scope.names.lookup x = some .local) (hy : X.env.scope.names.lookup y = some .local) (hz : X.env.scope.names.lookup z = some .local)
    (hw : swappedStores [.Tuple [.Name x px, .Name y py, .Name z pz] kt pt] (.Tuple [a, b, c] k2 pt2) X.env = pure (some [x, y, z])) (hA : SndA X [a, b, c] ms) :
    SndS X (.Assign [.Tuple [.Name x px, .Name y py, .Name z pz] kt pt] (.Tuple [a, b, c] k2 pt2) pos) (fun env => M.bind (M.bind (ms env) fun ds st => if ds.length ≤ bigN then .ok (.tup ds) st else .no) fun d st => match bindT (.tup [j, l, n]) d env st with | some env1 => .ok (.nx env1) st | none => .no) := by
  intro ρ st env σ H fl st' S R e D P
  obtain ⟨d, st1, e1, e2⟩ := bind_ok e
  obtain ⟨ds, st2, e1, e3⟩ := bind_ok e1
  split at e3
  · cases e3
    simp only [bindT] at e2
    split at e2
    · rename_i env1 hb
      cases e2
      split at hb
      · rename_i hlen
        cases hb
        refine ws_of (ps_par3 hc hN hj hl hn hjl hjn hln hx hy hz pa_wa hw rfl) (hA ρ st env σ H ds _ S R e1 _ fun ρ1 H1 vs g1 S1 r1 => ?_)
        match ds, vs, r1, hlen with
        | [d1, d2, d3], [v1, v2, v3], .cons q1 (.cons q2 (.cons q3 .nil)), _ => exact ⟨v1, v2, v3, rfl, P ρ1 H1 _ g1 S1 ((((R.grow g1).set q1 j).set q2 l).set q3 n)⟩
      · cases hb
    · cases e2
  · cases e3
theorem ok_set (hu : X.A.units + 1 < cLine) {ρ : List Addr} {st st' : Store} {H : Hp} {od id d : D} {ov iv v : V} (S : Sim X.K ρ st H) (ro : Rep X.K ρ H od ov) (ri : Rep X.K ρ H id iv) (rd : Rep X.K ρ H d v) (e : setD od id d st = .ok () st') :
    ∀ (pins : List (Addr × Obj)) (s : Shared) (σ : L2.St) (uo ui u : Value), Inv X pins σ H s → RelV ov uo → RelV iv ui → RelV v u → wpAny (model X.prog X.w) X.A (setItem uo ui u) (fun _ s' => ∃ H', Inv X pins σ H' s' ∧ Grow ρ H ρ H' ∧ Sim X.K ρ st' H') X.xe s := by
  intro pins s σ uo ui u I r1 r2 r3
  cases ro with
  | ob hx =>
    simp only [setD] at e
    split at e
    · rename_i xs hj
      obtain ⟨vs, h1, h2⟩ := S.ob _ _ _ hj hx
      have mu := mutL h1
      split at e
      · rename_i k
        split at e
        · rename_i n hn
          cases e
          cases ri
          refine set_list pins s σ H _ _ v uo ui u (fun H' => Grow ρ H ρ H' ∧ Sim X.K ρ _ H') I r1 r2 r3 ⟨_, vs, k, n, rfl, rfl, h1, by rw [← h2.length]; exact hn, S.grow_set hx mu, S.set hx mu ⟨_, upd_same, ((h2.set rd n).grow (S.grow_set hx mu))⟩⟩
        · cases e
      · cases e
    · rename_i kvs hj
      split at e
      · rename_i hk
        cases e
        obtain ⟨H2, ov2, w, I2, g, back, res, p, mu, ob'⟩ := dp_at I S hx (S.ob _ _ _ hj hx) ri hk.1 hk.2 rd
        cases r1
        exact d_setItem hu I2 p r2 r3 fun s' J => ⟨_, J, S.grow_set hx mu, S.set hx mu ob'⟩
      · cases e
    · cases e
  | _ => simp only [setD] at e; cases e
theorem sndS_set {pos' : Pos} (hu : X.A.units + 1 < cLine) (hs : swapsWith a (some (.Subscript o i pos')) pos.line X.env = pure false) (ha : SndE X a ma) (ho : SndE X o mo) (hi : SndE X i mi) :
    SndS X (.Assign [.Subscript o i pos'] a pos) (fun env => M.bind (ma env) fun d => M.bind (mo env) fun x => M.bind (mi env) fun y => M.bind (setD x y d) fun _ st => .ok (.nx env) st) := by
  intro ρ st env σ H fl st' S R e D P pins s I
  obtain ⟨d, st1, e1, e⟩ := bind_ok e
  obtain ⟨od, st2, e2, e⟩ := bind_ok e
  obtain ⟨id, st3, e3, e⟩ := bind_ok e
  obtain ⟨_, st4, e4, e5⟩ := bind_ok e
  cases e5
  have key : WE X a σ H fun v H1 => WE X o σ H1 fun ov H2 => WE X i σ H2 fun iv H3 => ∃ ρ3, Grow ρ H ρ3 H3 ∧ Sim X.K ρ3 st3 H3 ∧ Rep X.K ρ3 H3 d v ∧ Rep X.K ρ3 H3 od ov ∧ Rep X.K ρ3 H3 id iv :=
    ha ρ st env σ H d st1 S R e1 _ fun ρ1 H1 v g1 S1 r1 => ho ρ1 st1 env σ H1 od st2 S1 (R.grow g1) e2 _ fun ρ2 H2 ov g2 S2 r2 => hi ρ2 st2 env σ H2 id st3 S2 (R.grow (g1.trans g2)) e3 _ fun ρ3 H3 iv g3 S3 r3 =>
      ⟨ρ3, (g1.trans g2).trans g3, S3, r1.grow (g2.trans g3), r2.grow g3, r3⟩
  refine wpAny_Assign_Subscript (thn (key pins s I) fun u s1 ⟨v, H1, I1, rv, q1⟩ => thn (q1 pins s1 I1) fun uo s2 ⟨ov, H2, I2, ro, q2⟩ => thn (q2 pins s2 I2) fun ui s3 ⟨iv, H3, I3, ri, ρ3, g3, S3, h1, h2, h3⟩ => ?_) hs
  exact thn (ok_set hu S3 h2 h3 h1 e4 pins s3 σ uo ui u I3 ro ri rv) fun _ s4 ⟨H4, I4, g4, S4⟩ => ⟨σ, H4, I4, P ρ3 H4 σ (g3.trans g4) S4 (R.grow (g3.trans g4))⟩
theorem sndS_expr (hs : swapsWith a none pos.line X.env = pure false) (ha : SndE X a ma) : SndS X (.Expr a pos) (fun env => M.bind (ma env) fun _ st => .ok (.nx env) st) := by
  intro ρ st env σ H fl st' S R e D P
  obtain ⟨d, st1, e1, e2⟩ := bind_ok e
  cases e2
  exact ws_of (ps_expr pe_we hs) (ha ρ st env σ H d _ S R e1 _ fun ρ1 H1 v g1 S1 r1 => P ρ1 H1 σ g1 S1 (R.grow g1))
theorem sndS_ret (ha : SndE X a ma) : SndS X (.Return (some a) pos) (fun env => M.bind (ma env) fun d st => .ok (.ret d) st) := by
  intro ρ st env σ H fl st' S R e D P
  obtain ⟨d, st1, e1, e2⟩ := bind_ok e
  cases e2
  exact ws_of (ps_ret pe_we) (ha ρ st env σ H d _ S R e1 _ P)
theorem sndS_retN : SndS X (.Return none pos) (fun _ st => .ok (.ret .non) st) := by
  intro ρ st env σ H fl st' S R e D P
  cases e
  exact ws_of ps_retN (P ρ H .non (Grow.refl _ _) S .non)
theorem sndS_ite {sa sb : List Stmt} {m1 m2 : Env → M Fl} (hc : SndT X c tc) (h1 : SndSs X sa m1) (h2 : SndSs X sb m2) : SndS X (.If c sa sb pos) (fun env => M.bind (tc env) fun r => if r = true then m1 env else m2 env) := by
  intro ρ st env σ H fl st' S R e D P
  obtain ⟨r, st1, e1, e2⟩ := bind_ok e
  refine ws_of (ps_if pt_wt pss_ws pss_ws) (hc ρ st env σ H r st1 S R e1 _ fun ρ1 H1 g1 S1 => ?_)
  cases r with
  | true => rw [if_pos rfl] at e2 ⊢; exact h1 ρ1 st1 env σ H1 fl st' S1 (R.grow g1) e2 D (P.grow g1)
  | false => rw [if_neg (by decide)] at e2 ⊢; exact h2 ρ1 st1 env σ H1 fl st' S1 (R.grow g1) e2 D (P.grow g1)
theorem sndS_pass : SndS X (.Pass pos) (fun env st => .ok (.nx env) st) := by
  intro ρ st env σ H fl st' S R e D P
  cases e
  exact ws_of ps_pass (P ρ H σ (Grow.refl _ _) S R)
theorem sndS_brk : SndS X (.Break pos) (fun env st => .ok (.bk env) st) := by
  intro ρ st env σ H fl st' S R e D P
  cases e
  exact ws_of ps_break (P ρ H σ (Grow.refl _ _) S R)
theorem sndS_cont : SndS X (.Continue pos) (fun env st => .ok (.ct env) st) := by
  intro ρ st env σ H fl st' S R e D P
  cases e
  exact ws_of ps_continue (P ρ H σ (Grow.refl _ _) S R)
theorem sndS_never {s : Stmt} : SndS X s (fun _ _ => .no) := by
  intro ρ st env σ H fl st' S R e D P
  cases e
theorem ok_aug {op : Operator} {x y d : D} {st st' : Store} (h : augD op x y st = .ok d st') : st' = st ∧ ((op = .Add ∧ ∃ i j, x = .int i ∧ y = .int j ∧ d = .int (i + j)) ∨ (op = .Sub ∧ ∃ i j, x = .int i ∧ y = .int j ∧ d = .int (i - j))) := by
  unfold augD at h
  split at h
  · cases h; exact ⟨rfl, .inl ⟨rfl, _, _, rfl, rfl, rfl⟩⟩
  · cases h; exact ⟨rfl, .inr ⟨rfl, _, _, rfl, rfl, rfl⟩⟩
  · cases h
theorem sndS_aug {op : Operator} {pos' : Pos} (hN : X.N.Nodup) (hj : X.N[j]? = some x) (hx : Loc X.env.scope x) (hf : X.fn x = true ∨ X.env.scope.names.lookup x = some .local) (ha : SndE X a ma) :
    SndS X (.AugAssign (.Name x pos') op a pos) (fun env st => match env[j]? with
    | some (some x) => M.bind (ma env) (fun y => M.bind (augD op x y) fun z st => .ok (.nx (env.set j (some z))) st) st
    | _ => .no) := by
  intro ρ st env σ H fl st' S R e D P
  dsimp only at e
  split at e
  · rename_i xd hx1
    obtain ⟨y, st1, e1, e2⟩ := bind_ok e
    obtain ⟨z, st2, e2, e3⟩ := bind_ok e2
    cases e3
    obtain ⟨v0, h0, r0⟩ := R.at' _ _ hx1
    obtain ⟨hst, ha2⟩ := ok_aug e2
    subst hst
    rcases ha2 with ⟨rfl, i, k, rfl, rfl, rfl⟩ | ⟨rfl, i, k, rfl, rfl, rfl⟩
    · cases r0
      exact ws_of (ps_aug hN hj hx pe_we ip_add hf) ⟨_, h0, ha ρ st env σ H _ _ S R e1 _ fun ρ1 H1 v g1 S1 r1 => ⟨i, k, rfl, rep_int r1, P ρ1 H1 _ g1 S1 ((R.grow g1).set (.int _) j)⟩⟩
    · cases r0
      exact ws_of (ps_aug hN hj hx pe_we ip_sub hf) ⟨_, h0, ha ρ st env σ H _ _ S R e1 _ fun ρ1 H1 v g1 S1 r1 => ⟨i, k, rfl, rep_int r1, P ρ1 H1 _ g1 S1 ((R.grow g1).set (.int _) j)⟩⟩
  · cases e
end
/-! ### attributes -/
section
variable {X : Cx} {a o : Expr} {ma mo : Env → M D} {f : Str} {pos pos' : Pos} {fl : Str → Str → Bool}
theorem ok_setFld {ρ : List Addr} {st st' : Store} {H : Hp} {x d : D} {v w : V} (hfl : ∀ c C, fl c f = true → ClsN X.K c C → NoAttr X.K C f) (S : Sim X.K ρ st H) (r : Rep X.K ρ H x v) (q : Rep X.K ρ H d w) (e : setFldD fl f x d st = .ok () st') :
    ∃ a C dx vs, v = .ref a ∧ H a = some (.ins C dx vs) ∧ Cls X.K C ∧ NoAttr X.K C f ∧ vs.length < 1000 ∧ Grow ρ H ρ (upd H a (.ins C dx (putF f w vs))) ∧ Sim X.K ρ st' (upd H a (.ins C dx (putF f w vs))) := by
  simp only [setFldD] at e
  split at e
  · rename_i j
    split at e
    · rename_i c fs hj
      split at e
      · rename_i hc
        cases e
        have hi : insD st (.ob j) = some (c, fs) := by simp only [insD, hj]
        obtain ⟨j', a, C, dx, vs, e1, rfl, h1, h2, h3, h4, h5⟩ := ins_rep S r hi
        cases e1
        have hm : Mut (H a) := by rw [h4]; exact True.intro
        have g := S.grow_set (u := .ins C dx (putF f w vs)) h1 hm
        have hl := h5.length
        exact ⟨a, C, dx, vs, rfl, h4, h3.cls, hfl c C hc.1 h3, by omega, g, S.set h1 hm ⟨C, dx, putF f w vs, h3, upd_same, (FsR.put f q h5).keep g.keep⟩⟩
      · cases e
    · cases e
  · cases e
theorem sndS_setFld (hfl : ∀ c C, fl c f = true → ClsN X.K c C → NoAttr X.K C f) (hs : swapsWith a (some (.Attribute o f pos')) pos.line X.env = pure false) (ha : SndE X a ma) (ho : SndE X o mo) :
    SndS X (.Assign [.Attribute o f pos'] a pos) (fun env => M.bind (ma env) fun d => M.bind (mo env) fun x => M.bind (setFldD fl f x d) fun _ st => .ok (.nx env) st) := by
  intro ρ st env σ H fl' st' S R e D P
  obtain ⟨d, st1, e1, e⟩ := bind_ok e
  obtain ⟨x, st2, e2, e⟩ := bind_ok e
  obtain ⟨u, st3, e3, e4⟩ := bind_ok e
  cases e4
  refine ws_of (ps_fld pe_we pe_we hs) (snd_two ha ho S R e1 e2 fun ρ1 H1 w v g1 S1 rd rx => ?_)
  obtain ⟨b, C, dx, vs, rfl, h4, h5, h6, h7, g, S2⟩ := ok_setFld hfl S1 rx rd e3
  exact ⟨b, C, dx, vs, rfl, h4, h5, h6, h7, P ρ1 _ σ (g1.trans g) S2 (R.grow (g1.trans g))⟩
theorem sndS_augFld {op : Operator} (hfl : ∀ c C, fl c f = true → ClsN X.K c C → NoAttr X.K C f) (ha : SndE X a ma) (ho : SndE X o mo) :
    SndS X (.AugAssign (.Attribute o f pos') op a pos) (fun env => M.bind (mo env) fun x st => match insD st x with
      | some (c, _) => M.bind (fldD fl f x) (fun v => M.bind (ma env) fun y => M.bind (augD op v y) fun z => M.bind (sameC c x) fun _ => M.bind (setFldD fl f x z) fun _ st => .ok (.nx env) st) st
      | none => .no) := by
  intro ρ st env σ H fl' st' S R e D P
  obtain ⟨x, st1, e1, e⟩ := bind_ok e
  split at e
  rotate_left
  · cases e
  rename_i c fs hi
  obtain ⟨v0, st2, e2, e⟩ := bind_ok e
  obtain ⟨y, st3, e3, e⟩ := bind_ok e
  obtain ⟨z, st4, e4, e⟩ := bind_ok e
  obtain ⟨u0, st5, e5, e⟩ := bind_ok e
  obtain ⟨u, st6, e6, e7⟩ := bind_ok e
  cases e7
  obtain ⟨hst, ha2⟩ := ok_aug e4
  subst hst
  simp only [sameC] at e5
  split at e5
  rotate_left
  · cases e5
  rename_i c2 fs2 hi2
  split at e5
  rotate_left
  · cases e5
  rename_i hcc
  cases e5
  subst hcc
  simp only [fldD, hi] at e2
  split at e2
  rotate_left
  · cases e2
  rename_i hc
  split at e2
  rotate_left
  · cases e2
  rename_i d' hd
  cases e2
  have fin : ∀ {rd : V → V → Hp → VK → Prop}, InOp X op rd → (∀ (w1 w2 : V) (H1 : Hp) (Q : VK), (∃ ρ, Rep X.K ρ H1 v0 w1) → (∃ ρ, Rep X.K ρ H1 y w2) → (∀ w3, (∀ ρ, Rep X.K ρ H1 z w3) → Q w3 H1) → rd w1 w2 H1 Q) → WS X (.AugAssign (.Attribute o f pos') op a pos) D σ H := by
    intro rd hop hrd
    refine ws_of (ps_fldaug pe_we pe_we hop) (ho ρ st env σ H x _ S R e1 _ fun ρ1 H1 v g1 S1 r1 => ?_)
    obtain ⟨j, b, C, dx, vs, rfl, rfl, h1, h2, h3, h4, h5⟩ := ins_rep S1 r1 hi
    rcases h5.look f with ⟨q, _⟩ | ⟨d2, v2, z1, z2, z3⟩
    · rw [q] at hd; cases hd
    rw [z1] at hd; cases hd
    refine ⟨b, C, dx, vs, v2, rfl, h4, h3.cls, hfl _ C hc h3, z2, ha ρ1 _ env σ H1 y _ S1 (R.grow g1) e3 _ fun ρ2 H2 w g2 S2 r2 => hrd v2 w H2 _ ⟨ρ2, z3.grow g2⟩ ⟨ρ2, r2⟩ fun w3 hz => ?_⟩
    obtain ⟨b', C', dx', vs', eb, k4, k5, k6, k7, g, S3⟩ := ok_setFld hfl S2 (r1.grow g2) (hz ρ2) e6
    cases eb
    obtain ⟨j3, b3, C3, dx3, vs3, _, eb3, _, _, c3, hb3, _⟩ := ins_rep S2 (r1.grow g2) hi2
    cases eb3
    rw [k4] at hb3
    cases hb3
    have hC := c3.uniq h3
    subst hC
    exact ⟨dx', vs', k4, k7, P ρ2 _ σ ((g1.trans g2).trans g) S3 (R.grow ((g1.trans g2).trans g))⟩
  rcases ha2 with ⟨rfl, i, k, rfl, rfl, rfl⟩ | ⟨rfl, i, k, rfl, rfl, rfl⟩
  · exact fin in_add fun w1 w2 H1 Q ⟨_, q1⟩ ⟨_, q2⟩ h => ⟨i, k, rep_int q1, rep_int q2, h _ fun _ => .int _⟩
  · exact fin in_sub fun w1 w2 H1 Q ⟨_, q1⟩ ⟨_, q2⟩ h => ⟨i, k, rep_int q1, rep_int q2, h _ fun _ => .int _⟩
/-- a name's attributes, one after another -/
theorem pg_fld {to : TE} (ho : PE X o to) : PG X (.Attribute o f pos) (gFld X.K to f) := by
  refine ⟨fun pins s σ H v u Q I r h => ?_⟩
  rw [assign_Attribute]
  refine wpAny_bind (wpAny_holding (thn (ho.run pins s σ H _ I h) fun ov s1 ⟨x, H1, I1, r1, a, C, dx, fs, ex, ea, c, n, l, q⟩ => ?_))
  subst ex
  obtain rfl : ov = Value.ref a := r1
  exact wpAny_bind (wpAny_standAt (wpAny_bind (wpAny_holding (setattr_ok I1 ea c n l r fun s2 I2 => wpAny_release ⟨σ, _, I2, q⟩))))
end
/-- targets x.f, .. of one name -/
inductive Flts (X : Cx) (x : Str) : List Expr → List Str → Prop
  | nil : Flts X x [] []
  | cons {f : Str} {p q : Pos} {es : List Expr} {fs : List Str} : Flts X x es fs → Flts X x (.Attribute (.Name x p) f q :: es) (f :: fs)
def gFlds (K : PySem.W.Frag) (i : Nat) : List Str → TGs
  | [] => gNil
  | f :: fs => gCons (gFld K (tVar i) f) (gFlds K i fs)
section
variable {X : Cx} {a : Expr} {ma : Env → M D} {pos : Pos} {fl : Str → Str → Bool} {x : Str} {i : Nat}
theorem pgs_flds (hN : X.N[i]? = some x) (hv : Vis X.env.scope x) (hb : (x == ("__debug__" : Str)) = false) (hb2 : (x == ("__classdict__" : Str)) = false) : ∀ {es : List Expr} {fs : List Str}, Flts X x es fs → PGs X es (gFlds X.K i fs)
  | _, _, .nil => pgs_nil
  | _, _, .cons h => pgs_cons (pg_fld (pe_var hN hv hb hb2)) (pgs_flds hN hv hb hb2 h) rfl
theorem flts_len : ∀ {es : List Expr} {fs : List Str}, Flts X x es fs → (assignEach es X.env).length = fs.length ∧ (assignEach es X.env).findIdx? (·.1) = none
  | _, _, .nil => ⟨rfl, rfl⟩
  | _, _, .cons (f := f) (p := p) (q := q) h => by
    obtain ⟨h1, h2⟩ := flts_len h
    refine ⟨congrArg (· + 1) h1, ?_⟩
    show List.findIdx? (·.1) ((false, assign (.Attribute (.Name x p) f q) X.env) :: assignEach _ X.env) = none
    rw [List.findIdx?_cons]
    simp [h2]
theorem flds_run {v : V} {d : D} {env : Env} {σ : L2.St} {Q : L2.St → Hp → Prop} (hfl : ∀ f c C, fl c f = true → ClsN X.K c C → NoAttr X.K C f) (hσ : σ[i]? = some (some v)) : ∀ (fs : List Str) {ρ : List Addr} {H : Hp} {st st' : Store} {ds : List D} {vs : List V}, Sim X.K ρ st H → EnvR X.K ρ H env σ → Rep X.K ρ H d v → Reps X.K ρ H ds vs → setFlds fl d fs ds st = .ok () st' →
    (∀ H', Grow ρ H ρ H' → Sim X.K ρ st' H' → Q σ H') → gFlds X.K i fs vs σ H Q
  | [], ρ, H, st, st', ds, vs, S, R, r, rs, e, h => by
    cases rs with
    | nil => simp only [setFlds] at e; cases e; exact ⟨rfl, h H (Grow.refl _ _) S⟩
    | cons _ _ => simp only [setFlds] at e; cases e
  | f :: fs, ρ, H, st, st', ds, vs, S, R, r, rs, e, h => by
    cases rs with
    | nil => simp only [setFlds] at e; cases e
    | @cons d1 ds1 v1 vs1 r1 rs1 =>
      simp only [setFlds] at e
      obtain ⟨u, st1, e1, e2⟩ := bind_ok e
      obtain ⟨b, C, dx, ws, eb, k4, k5, k6, k7, g, S3⟩ := ok_setFld (hfl f) S r r1 e1
      subst eb
      exact ⟨v1, vs1, rfl, .ref b, hσ, b, C, dx, ws, rfl, k4, k5, k6, k7, flds_run hfl hσ fs S3 (R.grow g) (r.grow g) (rs1.grow g) e2 fun H' g' S' => h H' (g.trans g') S'⟩
theorem setFlds_len {x : D} : ∀ {fs : List Str} {ds : List D} {st st' : Store}, setFlds fl x fs ds st = .ok () st' → ds.length = fs.length
  | [], [], _, _, _ => rfl
  | [], _ :: _, _, _, e => by simp only [setFlds] at e; cases e
  | _ :: _, [], _, _, e => by simp only [setFlds] at e; cases e
  | f :: fs, d :: ds, st, st', e => by
    simp only [setFlds] at e
    obtain ⟨u, st1, e1, e2⟩ := bind_ok e
    exact congrArg (· + 1) (setFlds_len e2)
theorem sndS_asgF {es : List Expr} {fs : List Str} {k : Nat} {p : Pos} (hc : X.calm = true) (hfl : ∀ f c C, fl c f = true → ClsN X.K c C → NoAttr X.K C f) (hN : X.N[i]? = some x) (hv : Vis X.env.scope x) (hb : (x == ("__debug__" : Str)) = false) (hb2 : (x == ("__classdict__" : Str)) = false) (hf : Flts X x es fs)
    (hs : swapsWithSole [.Tuple es k p] a pos.line X.env = pure false) (hw : swappedStores [.Tuple es k p] a X.env = pure none) (ha : SndE X a ma) :
    SndS X (.Assign [.Tuple es k p] a pos) (fun env => M.bind (ma env) fun d st => match env[i]?, d with
      | some (some x), .tup ds => M.bind (setFlds fl x fs ds) (fun _ st => .ok (.nx env) st) st
      | _, _ => .no) := by
  intro ρ st env σ H fl' st' S R e D P
  obtain ⟨d, st1, e1, e2⟩ := bind_ok e
  split at e2
  · rename_i xd ds hx
    obtain ⟨u, st2, e2, e3⟩ := bind_ok e2
    cases e3
    obtain ⟨l1, l2⟩ := flts_len hf
    obtain ⟨v0, h0, r0⟩ := R.at' _ _ hx
    refine ws_of (ps_asg pe_we (pg_tup hc (pgs_flds hN hv hb hb2 hf) l1 l2) hs hw rfl) (ha ρ st env σ H _ _ S R e1 _ fun ρ1 H1 v g1 S1 r1 => ?_)
    obtain ⟨b, vs, rfl, h1, h2⟩ := rep_tup r1
    have hl : vs.length = fs.length := by rw [← h2.length]; exact setFlds_len e2
    exact ⟨b, vs, rfl, h1, hl, flds_run hfl h0 fs S1 (R.grow g1) (r0.grow g1) h2 e2 fun H' g' S' => P ρ1 H' σ (g1.trans g') S' (R.grow (g1.trans g'))⟩
  · cases e2
end
end W9

/-! W9n: for loops, list comprehensions -/
namespace W9
open PySem L2
theorem loopF_gd {gd : List (Nat × List D)} {f : D → Env → M Fl} : ∀ {l : List D} {env : Env} {st st' : Store} {fl : Fl}, loopF gd f l env st = .ok fl st' → gdOk st gd = true
  | [], env, st, st', fl, h => by
    simp only [loopF] at h
    split at h
    · assumption
    · cases h
  | d :: r, env, st, st', fl, h => by
    simp only [loopF] at h
    split at h
    · assumption
    · cases h
theorem loopC_gd {gd : List (Nat × List D)} {f : D → M (Option D)} : ∀ {l : List D} {st st' : Store} {ds : List D}, loopC gd f l st = .ok ds st' → gdOk st gd = true
  | [], st, st', fl, h => by
    simp only [loopC] at h
    split at h
    · assumption
    · cases h
  | d :: r, st, st', fl, h => by
    simp only [loopC] at h
    split at h
    · assumption
    · cases h
theorem compF_app (t : Tg) (own : List Nat) (env : Env) (mt : Env → M Bool) (me : Env → M D) (d : D) (st : Store) : compF t own env mt me d st = (match bindT t d (wipeE env own) st with
  | some env1 => match mt env1 st with
    | .ok true st1 => (match me env1 st1 with | .ok d st2 => .ok (some d) st2 | .ex x st2 => .ex x st2 | .no => .no)
    | .ok false st1 => .ok none st1
    | .ex x st1 => .ex x st1
    | .no => .no
  | none => .no) := rfl
section
variable {X : Cx} {tg iter : Expr} {t : Tg} {pos : Pos} {mI : Env → M (List D × List (Nat × List D))}
theorem sndS_for {body : List Stmt} {mb : Env → M Fl} (hp : PassesOwn (model X.prog X.w) X.A X.env X.xe) (hc : X.calm = true) (hfs : ∀ x, foldedSetIterable iter X.env x = pure x) (hI : SndI X tg iter mI) (hG : SndG X tg t) (hB : SndSs X body mb) :
    SndS X (.For tg iter body [] pos) (fun env => M.bind (mI env) fun p => loopF p.2 (forF t mb) p.1 env) := by
  intro ρ st env σ H fl st' S R e D P
  obtain ⟨⟨items, gd⟩, st1, e1, e2⟩ := bind_ok e
  obtain ⟨wi, hwi, hR⟩ := hI ρ st env σ H _ st1 S R e1
  refine ws_of (ps_for hp hc hwi pg_wg pss_ws hfs) (hR _ fun ρ1 H1 J g1 S1 W => ?_)
  obtain ⟨G, Y, w, hG', hY⟩ := W.ex
  dsimp only at e2 w hG' hY
  refine for_it w (fun i σ' H' => ∃ ρ' env' st2, Grow ρ1 H1 ρ' H' ∧ Sim X.K ρ' st2 H' ∧ EnvR X.K ρ' H' env' σ' ∧ loopF gd (forF t mb) (items.drop i) env' st2 = .ok fl st') ⟨ρ1, env, st1, Grow.refl _ _, S1, R.grow g1, by simpa using e2⟩ ?_ ?_ ?_
  · rintro i σ' H' hi ⟨ρ', env', st2, g', S', R', e'⟩
    exact hG' ρ' H' st2 g' S' (loopF_gd e')
  · rintro i x σ' H' H'' hi ⟨ρ', env', st2, g', S', R', e'⟩ y
    obtain ⟨q1, q2, d, q3, q4⟩ := hY i ρ' H' st2 x H'' g' S' (loopF_gd e') hi y
    have hd : items.drop i = d :: items.drop (i + 1) := by
      obtain ⟨hlt, hget⟩ := List.getElem?_eq_some_iff.mp q3
      rw [List.drop_eq_getElem_cons hlt, hget]
    rw [hd] at e'
    simp only [loopF, forF] at e'
    split at e'
    · cases hb : bindT t d env' st2 with
      | none => rw [hb] at e'; cases e'
      | some env1 =>
        rw [hb] at e'
        dsimp only at e'
        refine hG ρ' st2 env' σ' H'' d x env1 q2 (R'.grow q1) q4 hb _ fun σ2 R2 _ => ?_
        have gg : Grow ρ1 H1 ρ' H'' := g'.trans q1
        cases hm : mb env1 st2 with
        | ok f1 st3 =>
          rw [hm] at e'
          refine hB ρ' st2 env1 σ2 H'' f1 st3 q2 R2 hm _ ?_
          cases f1 with
          | nx e3 => exact fun ρ3 H3 σ3 g3 S3 R3 => ⟨ρ3, e3, st3, gg.trans g3, S3, R3, e'⟩
          | ct e3 => exact fun ρ3 H3 σ3 g3 S3 R3 => ⟨ρ3, e3, st3, gg.trans g3, S3, R3, e'⟩
          | bk e3 => cases e'; exact fun ρ3 H3 σ3 g3 S3 R3 => P ρ3 H3 σ3 (g1.trans (gg.trans g3)) S3 R3
          | ret v => cases e'; exact fun ρ3 H3 σ3 g3 S3 R3 => P ρ3 H3 σ3 (g1.trans (gg.trans g3)) S3 R3
        | ex x st3 => rw [hm] at e'; cases e'
        | no => rw [hm] at e'; cases e'
    · cases e'
  · rintro σ' H' ⟨ρ', env', st2, g', S', R', e'⟩
    rw [List.drop_eq_nil_of_le (Nat.le_refl _)] at e'
    simp only [loopF] at e'
    split at e'
    · cases e'
      exact P ρ' H' σ' (g1.trans g') S' R'
    · cases e'

/-! ### comprehensions -/
theorem EnvR.wipe {K : PySem.W.Frag} {ρ : List Addr} {H : Hp} {env : Env} {σ : L2.St} (R : EnvR K ρ H env σ) : ∀ vs : List Nat, EnvR K ρ H (wipeE env vs) (L2.wipe σ vs)
  | [] => R
  | v :: vs => by
    have ih := EnvR.wipe R vs
    refine ⟨by simp [L2.wipe, wipeE, ih.len], fun j d e => ?_⟩
    unfold wipeE at e
    unfold L2.wipe
    by_cases hj : v = j
    · subst hj
      by_cases hv : v < (wipeE env vs).length
      · rw [List.getElem?_set_self hv] at e; cases e
      · rw [List.getElem?_eq_none (by simpa using hv)] at e; cases e
    · rw [List.getElem?_set_ne hj] at e ⊢
      exact ih.at' j d e
/-- the heap's object at an address that the store does not know is written -/
theorem keep_other {ρ : List Addr} {H : Hp} {p : Addr} {vs : List V} {u : HO} (h : H p = some (.lst vs)) : Keep ρ H ρ (upd H p u) :=
  ⟨List.prefix_refl _, fun b xs e => by rw [upd_ne (fun z => by rw [z, h] at e; cases e)]; exact e, fun b o xs e => by rw [upd_ne (fun z => by rw [z, h] at e; cases e)]; exact e⟩
theorem Sim.other {K : PySem.W.Frag} {ρ : List Addr} {st : Store} {H : Hp} {p : Addr} {vs : List V} {u : HO} (S : Sim K ρ st H) (h : H p = some (.lst vs)) (hp : p ∉ ρ) : Sim K ρ st (upd H p u) :=
  ⟨S.len, S.nd, fun i o a h1 h2 => (S.ob i o a h1 h2).keep (keep_other h) fun w e => by rw [upd_ne (fun z => hp (by rw [← z]; exact List.mem_of_getElem? h2))]; exact e⟩
theorem Grow.other {ρ ρ1 : List Addr} {H H1 : Hp} {p : Addr} {u : HO} (g : Grow ρ H ρ1 H1) (h : H p = none) : Grow ρ H ρ1 (upd H1 p u) :=
  ⟨g.pre, g.fr, fun b o e hb => by rw [upd_ne (ne_of_none e h)]; exact g.frame b o e hb, fun b xs e => by rw [upd_ne (ne_of_none e h)]; exact g.tups b xs e, fun b o xs e => by rw [upd_ne (ne_of_none e h)]; exact g.frzs b o xs e⟩
/-- from the list at p, that the store does not know, to the store -/
theorem Sim.take {K : PySem.W.Frag} {ρ : List Addr} {st : Store} {H : Hp} {p : Addr} {vs : List V} {ds : List D} (S : Sim K ρ st H) (h : H p = some (.lst vs)) (hp : p ∉ ρ) (r : Reps K ρ H ds vs) : Sim K (ρ ++ [p]) (st ++ [.lst ds]) H := by
  have kp : Keep ρ H (ρ ++ [p]) H := ⟨List.prefix_append _ _, fun _ _ e => e, fun _ _ _ e => e⟩
  refine ⟨by simp [S.len], ?_, fun i o a h1 h2 => ?_⟩
  · rw [List.nodup_append]
    exact ⟨S.nd, by simp, fun a ha b hb => by rw [List.mem_singleton.mp hb]; exact fun z => hp (by rw [← z]; exact ha)⟩
  · by_cases hi : i < st.length
    · rw [List.getElem?_append_left hi] at h1
      rw [List.getElem?_append_left (by rw [S.len]; exact hi)] at h2
      exact (S.ob i o a h1 h2).keep kp fun w e => e
    · have h3 : i - st.length = 0 ∧ o = .lst ds := by
        rw [List.getElem?_append_right (Nat.le_of_not_lt hi)] at h1
        cases q : i - st.length with
        | zero => rw [q] at h1; simp at h1; exact ⟨rfl, h1.symm⟩
        | succ k => rw [q] at h1; simp at h1
      obtain ⟨h3, rfl⟩ := h3
      rw [List.getElem?_append_right (by rw [S.len]; exact Nat.le_of_not_lt hi), S.len, h3] at h2
      simp at h2
      subst h2
      exact ⟨vs, h, r.keep kp⟩
/-- the blocks of a comprehension in X -/
def Blks (X : Cx) (scope : Scope) (φ : Cx → Prop) : Prop := ∀ (s : Shared) (H : Hp) (C : Addr) (cl : List (Str × Addr)) (fp : List Addr), φ (X.blk s H scope (compEnvC scope cl C X.env) fp)
def gB (X : Cx) (scope : Scope) (tg : Expr) : TG := fun v σ H Q => Blks X scope fun Y => WG Y tg v σ H Q
def tBk (X : Cx) (scope : Scope) (e : Expr) : TE := fun σ H Q => Blks X scope fun Y => WE Y e σ H Q
/-- the tests of a comprehension: none or one -/
def ttB (X : Cx) (scope : Scope) (c : Option Expr) : TT := fun σ H Q => match c with
  | none => Q true H
  | some c => Blks X scope fun Y => WT Y c σ H Q
def SndTo (X : Cx) (scope : Scope) (c : Option Expr) (m : Env → M Bool) : Prop := match c with
  | none => ∀ env st, m env st = .ok true st
  | some c => Blks X scope fun Y => SndT Y c m
theorem pts_B {scope : Scope} {c : Option Expr} : Blks X scope fun Y => PTs Y c.toList (ttB X scope c) := by
  intro s H C cl fp
  cases c with
  | none => exact pts_nil
  | some c => exact pts_one ⟨fun pins s' σ H' Q I h => h s H C cl fp pins s' I⟩
variable {elt : Expr} {scope : Scope} {own : List Nat} {c : Option Expr} {me : Env → M D} {mt : Env → M Bool}
/-- one comprehension's reading -/
theorem lc_run (hI : SndI X tg iter mI) (hG : Blks X scope fun Y => SndG Y tg t) (hT : SndTo X scope c mt) (hE : Blks X scope fun Y => SndE Y elt me) (hsub : ∀ i ∈ t.slots, i ∈ own)
    {ρ : List Addr} {st st' : Store} {env : Env} {σ : L2.St} {H : Hp} {d : D} (S : Sim X.K ρ st H) (R : EnvR X.K ρ H env σ)
    (e : (M.bind (mI env) fun p => M.bind (loopC p.2 (compF t own env mt me) p.1) fun ds st => if ds.length ≤ bigN then .ok (.ob st.length) (st ++ [.lst ds]) else .no) st = .ok d st') {Q : VK} (P : Post X.K ρ H st' d Q) :
    ∃ wi, PI X tg iter wi ∧ tLc wi (gB X scope tg) (ttB X scope c) (tBk X scope elt) own σ H Q := by
  obtain ⟨⟨items, gd⟩, st1, e1, e2⟩ := bind_ok e
  obtain ⟨ds, st2, e4, e3⟩ := bind_ok e2
  dsimp only at e4 e3
  split at e3
  · rename_i hlen
    cases e3
    obtain ⟨wi, hwi, hR⟩ := hI ρ st env σ H _ st1 S R e1
    refine ⟨wi, hwi, hR _ fun ρ1 H1 J g1 S1 W Dl hDl => ?_⟩
    obtain ⟨G, Y, w, hG', hY⟩ := W.ex
    dsimp only at w hG' hY
    have hD1 : Dl ∉ ρ1 := S1.free hDl
    refine lc_it w (fun i H' => ∃ ρ' st3 acc accD rest, Grow ρ1 H1 ρ' H' ∧ Sim X.K ρ' st3 H' ∧ H' Dl = some (.lst acc) ∧ Dl ∉ ρ' ∧ Reps X.K ρ' H' accD acc ∧ loopC gd (compF t own env mt me) (items.drop i) st3 = .ok rest st2 ∧ ds = accD ++ rest)
      ⟨ρ1, st1, [], [], ds, (Grow.refl _ _).other hDl, S1.new hDl, upd_same, hD1, .nil, by simpa using e4, by simp⟩ ?_ ?_ ?_
    · rintro i H' hi ⟨ρ', st3, acc, accD, rest, g', S', hD', hDn, ra, e', eds⟩
      exact hG' ρ' H' st3 g' S' (loopC_gd e')
    · rintro i x H' H'' hi ⟨ρ', st3, acc, accD, rest, g', S', hD', hDn, ra, e', eds⟩ y
      obtain ⟨q1, q2, it, q3, q4⟩ := hY i ρ' H' st3 x H'' g' S' (loopC_gd e') hi y
      have hd : items.drop i = it :: items.drop (i + 1) := by
        obtain ⟨hlt, hget⟩ := List.getElem?_eq_some_iff.mp q3
        rw [List.drop_eq_getElem_cons hlt, hget]
      rw [hd] at e'
      have hD'' : H'' Dl = some (.lst acc) := q1.frame _ _ hD' hDn
      have gg : Grow ρ1 H1 ρ' H'' := g'.trans q1
      simp only [loopC] at e'
      rw [compF_app] at e'
      split at e'
      · cases hb : bindT t it (wipeE env own) st3 with
        | none => rw [hb] at e'; cases e'
        | some env1 =>
          rw [hb] at e'
          dsimp only at e'
          intro s0 H0 C0 cl0 fp0
          refine hG s0 H0 C0 cl0 fp0 ρ' st3 (wipeE env own) (L2.wipe σ own) H'' it x env1 q2 (((R.grow g1).grow gg).wipe own) q4 hb _ fun σ2 R2 hw2 => ⟨?_, ?_⟩
          · have h1 := hw2 own hsub
            rw [h1]
            -- wiping twice
            apply List.ext_getElem?
            intro j
            by_cases hj : j < σ.length
            · by_cases hv : j ∈ own
              · rw [wipe_at (by rw [wipe_length]; exact hj) hv, wipe_at hj hv]
              · rw [wipe_out hv]
            · rw [List.getElem?_eq_none (by rw [wipe_length, wipe_length]; simpa using hj), List.getElem?_eq_none (by rw [wipe_length]; simpa using hj)]
          -- the test
          have after : ∀ (k : Bool) (st4 : Store), mt env1 st3 = .ok k st4 → ∀ ρ4 H4, Grow ρ' H'' ρ4 H4 → Sim X.K ρ4 st4 H4 →
              if k = true then tBk X scope elt σ2 H4 (fun y H5 => ∃ acc', H5 Dl = some (.lst acc') ∧ acc'.length < sizeLine ∧ ∃ ρ' st3 acc accD rest, Grow ρ1 H1 ρ' (upd H5 Dl (.lst (acc' ++ [y]))) ∧ Sim X.K ρ' st3 (upd H5 Dl (.lst (acc' ++ [y]))) ∧ (upd H5 Dl (.lst (acc' ++ [y]))) Dl = some (.lst acc) ∧ Dl ∉ ρ' ∧ Reps X.K ρ' (upd H5 Dl (.lst (acc' ++ [y]))) accD acc ∧ loopC gd (compF t own env mt me) (items.drop (i + 1)) st3 = .ok rest st2 ∧ ds = accD ++ rest)
              else ∃ ρ' st3 acc accD rest, Grow ρ1 H1 ρ' H4 ∧ Sim X.K ρ' st3 H4 ∧ H4 Dl = some (.lst acc) ∧ Dl ∉ ρ' ∧ Reps X.K ρ' H4 accD acc ∧ loopC gd (compF t own env mt me) (items.drop (i + 1)) st3 = .ok rest st2 ∧ ds = accD ++ rest := by
            intro k st4 hk ρ4 H4 g4 S4
            rw [hk] at e'
            have hDn4 : Dl ∉ ρ4 := fun z => by
              have := g4.fr Dl z hDn
              rw [hD''] at this; cases this
            have hD4 : H4 Dl = some (.lst acc) := g4.frame _ _ hD'' hDn
            cases k with
            | false =>
              rw [if_neg (by decide)]
              dsimp only at e'
              cases hl : loopC gd (compF t own env mt me) (items.drop (i + 1)) st4 with
              | ok l st5 =>
                rw [hl] at e'
                cases e'
                exact ⟨ρ4, st4, acc, accD, l, gg.trans g4, S4, hD4, hDn4, (ra.grow q1).grow g4, hl, by simpa using eds⟩
              | ex x st5 => rw [hl] at e'; cases e'
              | no => rw [hl] at e'; cases e'
            | true =>
              rw [if_pos rfl]
              dsimp only at e'
              intro s1 H1' C1 cl1 fp1
              cases hm : me env1 st4 with
              | ok dv st5 =>
                rw [hm] at e'
                dsimp only at e'
                refine hE s1 H1' C1 cl1 fp1 ρ4 st4 env1 σ2 H4 dv st5 S4 (R2.grow g4) hm _ fun ρ5 H5 v5 g5 S5 r5 => ?_
                have hDn5 : Dl ∉ ρ5 := fun z => by
                  have := g5.fr Dl z hDn4
                  rw [hD4] at this; cases this
                have hD5 : H5 Dl = some (.lst acc) := g5.frame _ _ hD4 hDn4
                cases hl : loopC gd (compF t own env mt me) (items.drop (i + 1)) st5 with
                | ok l st6 =>
                  rw [hl] at e'
                  cases e'
                  have ra5 := ((ra.grow q1).grow g4).grow g5
                  have hlt : acc.length < sizeLine := by
                    have h1 := ra.length
                    have h2 := congrArg List.length eds
                    simp at h2
                    rw [big_eq]
                    omega
                  exact ⟨acc, hD5, hlt, ρ5, st5, acc ++ [v5], accD ++ [dv], l, ((gg.trans g4).trans g5).other hDl, S5.other hD5 hDn5, upd_same, hDn5, (ra5.append (.cons r5 .nil)).keep (keep_other hD5), hl, by simpa using eds⟩
                | ex x st6 => rw [hl] at e'; cases e'
                | no => rw [hl] at e'; cases e'
              | ex x st5 => rw [hm] at e'; cases e'
              | no => rw [hm] at e'; cases e'
          cases hk : mt env1 st3 with
          | ok k st4 =>
            cases c with
            | none =>
              have hm := hT env1 st3
              rw [hk] at hm
              cases hm
              exact after true st3 hk ρ' H'' (Grow.refl _ _) q2
            | some cc =>
              intro s1 H1' C1 cl1 fp1
              exact hT s1 H1' C1 cl1 fp1 ρ' st3 env1 σ2 H'' k st4 q2 R2 hk _ fun ρ4 H4 g4 S4 => after k st4 hk ρ4 H4 g4 S4
          | ex x st4 => rw [hk] at e'; cases e'
          | no => rw [hk] at e'; cases e'
      · cases e'
    · rintro H' ⟨ρ', st3, acc, accD, rest, g', S', hD', hDn, ra, e', eds⟩
      rw [List.drop_eq_nil_of_le (Nat.le_refl _)] at e'
      simp only [loopC] at e'
      split at e'
      · cases e'
        have eds' : ds = accD := by simpa using eds
        subst eds'
        refine P (ρ' ++ [Dl]) H' (.ref Dl) ?_ (S'.take hD' hDn ra) (.ob ?_)
        · have gg := g1.trans g'
          refine ⟨gg.pre.trans (List.prefix_append _ _), fun a ha hn => ?_, gg.frame, gg.tups, gg.frzs⟩
          rcases List.mem_append.mp ha with ha | ha
          · exact gg.fr a ha hn
          · rw [List.mem_singleton.mp ha]
            cases q : H Dl with
            | none => rfl
            | some o =>
              have hnρ : Dl ∉ ρ := fun z => hD1 (g1.pre.subset z)
              have := g1.frame Dl o q hnρ
              rw [hDl] at this; cases this
        · rw [List.getElem?_append_right (by rw [S'.len]; exact Nat.le_refl _), S'.len]
          simp
      · cases e'
  · cases e3
theorem snd_lc {ownp : List (Str × Nat)} (hc : X.calm = true) (hN : X.N.Nodup) (ok : BlkOk X.N X.env.scope scope ownp) (hown : ownp.map (·.2) = own) (hfs : ∀ x, foldedSetIterable iter X.env x = pure x)
    (hI : SndI X tg iter mI) (hG : Blks X scope fun Y => SndG Y tg t) (hT : SndTo X scope c mt) (hE : Blks X scope fun Y => SndE Y elt me) (hsub : ∀ i ∈ t.slots, i ∈ own) :
    SndE X (.ListComp elt [⟨tg, iter, c.toList, 0⟩] scope pos) (fun env => M.bind (mI env) fun p => M.bind (loopC p.2 (compF t own env mt me) p.1) fun ds st => if ds.length ≤ bigN then .ok (.ob st.length) (st ++ [.lst ds]) else .no) := by
  intro ρ st env σ H d st' S R e Q P
  obtain ⟨wi, hwi, h⟩ := lc_run hI hG hT hE hsub S R e P
  subst hown
  exact we_of (pe_lc hc hN hwi ok (fun s H C cl fp => ⟨fun pins s' σ H' v u Q I r h => h s H C cl fp pins s' u I r⟩) pts_B (fun s H C cl fp => ⟨fun pins s' σ H' Q I h => h s H C cl fp pins s' I⟩) hfs) h
theorem sndS_setLc {ownp : List (Str × Nat)} {j : Nat} {y : Str} {py spos : Pos} (hc : X.calm = true) (hN : X.N.Nodup) (hy : X.N[j]? = some y) (hyl : X.env.scope.names.lookup y = some .local) (hsw : swapsWith (.ListComp elt [⟨tg, iter, c.toList, 0⟩] scope pos) (some (.Name y py)) spos.line X.env = pure true)
    (ok : BlkOk X.N X.env.scope scope ownp) (hown : ownp.map (·.2) = own) (hfs : ∀ x, foldedSetIterable iter X.env x = pure x)
    (hI : SndI X tg iter mI) (hG : Blks X scope fun Y => SndG Y tg t) (hT : SndTo X scope c mt) (hE : Blks X scope fun Y => SndE Y elt me) (hsub : ∀ i ∈ t.slots, i ∈ own) :
    SndS X (.Assign [.Name y py] (.ListComp elt [⟨tg, iter, c.toList, 0⟩] scope pos) spos) (fun env => M.bind (M.bind (mI env) fun p => M.bind (loopC p.2 (compF t own env mt me) p.1) fun ds st => if ds.length ≤ bigN then .ok (.ob st.length) (st ++ [.lst ds]) else .no) fun d st => .ok (.nx (env.set j (some d))) st) := by
  intro ρ st env σ H fl st' S R e D P
  obtain ⟨d, st1, e1, e2⟩ := bind_ok e
  cases e2
  obtain ⟨wi, hwi, h⟩ := lc_run (Q := fun x H1 => gName j x σ H1 D.nx) hI hG hT hE hsub S R e1 fun ρ1 H1 v g1 S1 r1 => P ρ1 H1 _ g1 S1 ((R.grow g1).set r1 j)
  subst hown
  exact ws_of (ps_setLc hc hN hy hyl hsw hwi ok (fun s H C cl fp => ⟨fun pins s' σ H' v u Q I r h => h s H C cl fp pins s' u I r⟩) pts_B (fun s H C cl fp => ⟨fun pins s' σ H' Q I h => h s H C cl fp pins s' I⟩) hfs) h
end
/-! ### a dict written out -/
theorem keep_dk {ρ : List Addr} {H : Hp} {p : Addr} {l ks : List (Key × V)} (h : H p = some (.dK l)) : Keep ρ H (ρ ++ [p]) (upd H p (.dK ks)) :=
  ⟨List.prefix_append _ _, fun b xs e => by rw [upd_ne (fun z => by rw [z, h] at e; cases e)]; exact e, fun b o xs e => by rw [upd_ne (fun z => by rw [z, h] at e; cases e)]; exact e⟩
theorem Sim.takeD {K : PySem.W.Frag} {ρ : List Addr} {st : Store} {H : Hp} {p : Addr} {l ks : List (Key × V)} {kvs : List (D × D)} (S : Sim K ρ st H) (h : H p = some (.dK l)) (hp : p ∉ ρ) (r : KvK K ρ H kvs ks) : Sim K (ρ ++ [p]) (st ++ [.dct kvs]) (upd H p (.dK ks)) := by
  have kp : Keep ρ H (ρ ++ [p]) (upd H p (.dK ks)) := keep_dk h
  refine ⟨by simp [S.len], ?_, fun i o a h1 h2 => ?_⟩
  · rw [List.nodup_append]
    exact ⟨S.nd, by simp, fun a ha b hb => by rw [List.mem_singleton.mp hb]; exact fun z => hp (by rw [← z]; exact ha)⟩
  · by_cases hi : i < st.length
    · rw [List.getElem?_append_left hi] at h1
      rw [List.getElem?_append_left (by rw [S.len]; exact hi)] at h2
      refine (S.ob i o a h1 h2).keep kp fun w e => ?_
      rw [upd_ne (fun z => hp (by rw [← z]; exact List.mem_of_getElem? h2))]
      exact e
    · have h3 : i - st.length = 0 ∧ o = .dct kvs := by
        rw [List.getElem?_append_right (Nat.le_of_not_lt hi)] at h1
        cases q : i - st.length with
        | zero => rw [q] at h1; simp at h1; exact ⟨rfl, h1.symm⟩
        | succ k => rw [q] at h1; simp at h1
      obtain ⟨h3, rfl⟩ := h3
      rw [List.getElem?_append_right (by rw [S.len]; exact Nat.le_of_not_lt hi), S.len, h3] at h2
      simp at h2
      subst h2
      exact .inl ⟨ks, upd_same, r.keep kp⟩
theorem Grow.takeN {ρ ρ1 : List Addr} {H H1 : Hp} {p : Addr} {u u2 : HO} (g : Grow ρ (upd H p u) ρ1 H1) (hp : H p = none) : Grow ρ H (ρ1 ++ [p]) (upd H1 p u2) := by
  refine ⟨g.pre.trans (List.prefix_append _ _), fun a ha hn => ?_, fun b o eb hb => ?_, fun b xs eb => ?_, fun b o v eb => ?_⟩
  · by_cases h : a = p
    · rw [h]; exact hp
    · rcases List.mem_append.mp ha with ha | ha
      · have := g.fr a ha hn
        rw [upd_ne h] at this
        exact this
      · exact absurd (List.mem_singleton.mp ha) h
  · have h := ne_of_none eb hp
    rw [upd_ne h]
    exact g.frame b o (by rw [upd_ne h]; exact eb) hb
  · have h := ne_of_none eb hp
    rw [upd_ne h]
    exact g.tups b xs (by rw [upd_ne h]; exact eb)
  · have h := ne_of_none eb hp
    rw [upd_ne h]
    exact g.frzs b o v (by rw [upd_ne h]; exact eb)
section
variable {X : Cx} {pos : Pos}
/-- the pairs of a display whose keys are the texts ks -/
def SndP (X : Cx) (pos : Pos) (keys : List (Option Expr)) (vals : List Expr) (ks : List Str) (m : Env → M (List D)) : Prop := ∃ trs, PPs X pos keys vals trs ∧
  ∀ ρ st env σ H ds st', Sim X.K ρ st H → EnvR X.K ρ H env σ → m env st = .ok ds st' → ∀ Q : List (V × V) → Hp → Prop, (∀ ρ' H' vs, Grow ρ H ρ' H' → Sim X.K ρ' st' H' → Reps X.K ρ' H' ds vs → Q ((ks.zip vs).map fun q => (V.str q.1, q.2)) H') → tPairs trs σ H Q
theorem sndP_nil : SndP X pos [] [] [] (fun _ st => .ok [] st) := by
  refine ⟨[], pps_nil, fun ρ st env σ H ds st' S R e Q P => ?_⟩
  cases e
  exact P ρ H [] (Grow.refl _ _) S .nil
theorem sndP_cons {x : Str} {k : Nat} {kp : Pos} {v : Expr} {mv : Env → M D} {keys : List (Option Expr)} {vals : List Expr} {ks : List Str} {m : Env → M (List D)} (hv : SndE X v mv) (hr : SndP X pos keys vals ks m) :
    SndP X pos (some (.Constant (.str x) k kp) :: keys) (v :: vals) (x :: ks) (fun env => M.bind (mv env) fun d => M.bind (m env) fun ds st => .ok (d :: ds) st) := by
  obtain ⟨trs, h1, h2⟩ := hr
  refine ⟨_, pps_cons pe_str pe_we h1, fun ρ st env σ H ds st' S R e Q P => ?_⟩
  obtain ⟨d, st1, e1, e⟩ := bind_ok e
  obtain ⟨ds', st2, e2, e3⟩ := bind_ok e
  cases e3
  exact hv ρ st env σ H d st1 S R e1 _ fun ρ1 H1 u g1 S1 r1 => h2 ρ1 st1 env σ H1 ds' _ S1 (R.grow g1) e2 _ fun ρ2 H2 vs g2 S2 r2 => P ρ2 H2 (u :: vs) (g1.trans g2) S2 (.cons (r1.grow g2) r2)
theorem merge_nodup : ∀ (more acc : List (Key × V)), ((acc ++ more).map (·.1)).Nodup → mergeK acc more = acc ++ more
  | [], acc, _ => by simp [mergeK]
  | p :: r, acc, h => by
    show mergeK (putK acc p.1 p.2) r = _
    have hp : putK acc p.1 p.2 = acc ++ [p] := by
      have hn : ∀ q ∈ acc, q.1 ≠ p.1 := by
        rw [List.map_append, List.nodup_append] at h
        exact fun q hq => h.2.2 q.1 (List.mem_map_of_mem hq) p.1 (by simp)
      have ha : (acc.any fun kv => decide (kv.1 = p.1)) = false := by
        rw [List.any_eq_false]
        exact fun q hq => by simpa using hn q hq
      unfold putK
      rw [ha, if_neg (by decide)]
    rw [hp, merge_nodup r (acc ++ [p]) (by simpa using h)]
    simp
theorem kvK_strs {K : PySem.W.Frag} {ρ : List Addr} {H : Hp} : ∀ {ks : List Str} {ds : List D} {vs : List V}, Reps K ρ H ds vs → ks.length = ds.length → KvK K ρ H ((ks.map D.str).zip ds) ((ks.zip vs).map fun q => ((Sum.inr q.1 : Key), q.2))
  | [], _, _, .nil, _ => .nil
  | [], _, _, .cons _ _, h => by simp at h
  | _ :: _, _, _, .nil, h => by simp at h
  | k :: ks, _, _, .cons r1 r2, h => .cons rfl r1 (kvK_strs r2 (by simpa using h))
theorem snd_disp {keys : List (Option Expr)} {vals : List Expr} {ks : List Str} {m : Env → M (List D)} (hp : SndP X pos keys vals ks m) (hall : keys.all (·.isSome) = true) (hl : keys.length = vals.length) (h0 : keys ≠ []) (h15 : keys.length ≤ 15) (nd : ks.Nodup) :
    SndE X (.Dict keys vals pos) (fun env => M.bind (m env) fun ds st => if ks.length = ds.length ∧ ks.length ≤ 15 then .ok (.ob st.length) (st ++ [.dct ((ks.map D.str).zip ds)]) else .no) := by
  intro ρ st env σ H d st' S R e Q P
  obtain ⟨trs, h1, h2⟩ := hp
  obtain ⟨ds, st1, e1, e2⟩ := bind_ok e
  split at e2
  · rename_i hk
    cases e2
    refine we_of (pe_disp h1 hall hl h0 h15) fun p hp => ?_
    have hpn : p ∉ ρ := S.free hp
    refine h2 ρ st env σ _ ds st1 (S.new hp) (R.grow ((Grow.refl _ _).other hp)) e1 _ fun ρ1 H1 vs g1 S1 r1 => ?_
    have hp1 : H1 p = some (.dK []) := g1.frame p _ upd_same hpn
    have hpn1 : p ∉ ρ1 := fun z => by
      have := g1.fr p z hpn
      rw [upd_same] at this
      cases this
    refine ⟨hp1, (ks.zip vs).map fun q => ((Sum.inr q.1 : Key), q.2), by rw [List.map_map]; rfl, ?_, ?_⟩
    · rw [List.length_map, List.length_zip]
      exact Nat.le_trans (Nat.min_le_left _ _) hk.2
    have hz : ((ks.zip vs).map fun q => ((Sum.inr q.1 : Key), q.2)).map (·.1) = ks.map Sum.inr := by
      have z1 : ((ks.zip vs).map fun q => ((Sum.inr q.1 : Key), q.2)).map (·.1) = ((ks.zip vs).map Prod.fst).map Sum.inr := by
        rw [List.map_map, List.map_map]
        rfl
      rw [z1, List.map_fst_zip (by rw [← r1.length]; omega)]
    rw [merge_nodup _ [] (by
      rw [List.nil_append, hz]
      exact List.Pairwise.map _ (fun a b hab z => hab (Sum.inr.inj z)) nd), List.nil_append]
    have sim := S1.takeD hp1 hpn1 (kvK_strs r1 hk.1)
    refine P (ρ1 ++ [p]) _ _ ?_ sim (.ob ?_)
    · exact g1.takeN hp
    · rw [List.getElem?_append_right (by rw [S1.len]; exact Nat.le_refl _), S1.len]
      simp
  · cases e2
end
/-! ### while -/
section
variable {X : Cx} {c : Expr} {pos : Pos}
theorem sndS_while {body : List Stmt} {mc : Env → M Bool} {mb : Env → M Fl} {n : Nat} (hp : PassesOwn (model X.prog X.w) X.A X.env X.xe) (hc : SndT X c mc) (hB : SndSs X body mb) : SndS X (.While c body [] pos) (fun env => loopW mc mb n env) := by
  intro ρ st env σ H fl st' S R e D P
  refine ws_of (ps_while hp pt_wt pss_ws) ⟨fun m σ' H' => ∃ ρ' env' st2, Grow ρ H ρ' H' ∧ Sim X.K ρ' st2 H' ∧ EnvR X.K ρ' H' env' σ' ∧ loopW mc mb m env' st2 = .ok fl st', ⟨n, ρ, env, st, Grow.refl _ _, S, R, e⟩, ?_⟩
  rintro m σ' H' ⟨ρ', env', st2, g', S', R', e'⟩
  cases m with
  | zero => simp only [loopW] at e'; cases e'
  | succ m =>
    simp only [loopW] at e'
    obtain ⟨r, st3, e1, e2⟩ := bind_ok e'
    refine hc ρ' st2 env' σ' H' r st3 S' R' e1 _ fun ρ1 H1 g1 S1 => ?_
    cases r with
    | true =>
      rw [if_pos rfl] at e2 ⊢
      obtain ⟨fl2, st4, e3, e4⟩ := bind_ok e2
      refine ⟨fun σ2 H2 => ∃ m', m' < m + 1 ∧ ∃ ρ' env' st2, Grow ρ H ρ' H2 ∧ Sim X.K ρ' st2 H2 ∧ EnvR X.K ρ' H2 env' σ2 ∧ loopW mc mb m' env' st2 = .ok fl st', fun σ2 H2 z => z, hB ρ1 st3 env' σ' H1 fl2 st4 S1 (R'.grow g1) e3 _ ?_⟩
      cases fl2 with
      | nx e5 => exact fun ρ2 H2 σ2 g2 S2 R2 => ⟨m, Nat.lt_succ_self _, ρ2, e5, st4, (g'.trans g1).trans g2, S2, R2, e4⟩
      | ct e5 => exact fun ρ2 H2 σ2 g2 S2 R2 => ⟨m, Nat.lt_succ_self _, ρ2, e5, st4, (g'.trans g1).trans g2, S2, R2, e4⟩
      | bk e5 => cases e4; exact fun ρ2 H2 σ2 g2 S2 R2 => P ρ2 H2 σ2 ((g'.trans g1).trans g2) S2 R2
      | ret v => cases e4; exact fun ρ2 H2 v2 g2 S2 r2 => P ρ2 H2 v2 ((g'.trans g1).trans g2) S2 r2
    | false =>
      rw [if_neg (by decide)] at e2 ⊢
      cases e2
      exact P ρ1 H1 σ' (g'.trans g1) S1 (R'.grow g1)
end
end W9

/-! W9o: the checker -/
namespace W9
open PySem L2
structure Stc where
  N : List Str
  sc : Scope
  cf : Str → Bool
  bs : List Str
  fs : List (Str × Frm)
  gs : List Str
  cs : List Str := []
def visB (sc : Scope) (x : Str) : Bool := match sc.names.lookup x with | some .local => true | some .cell => true | some .free => true | _ => false
def locB (sc : Scope) (x : Str) : Bool := match sc.names.lookup x with | some .local => true | some .cell => true | _ => false
def isLoc (sc : Scope) (x : Str) : Bool := match sc.names.lookup x with | some .local => true | _ => false
def glB (sc : Scope) (x : Str) : Bool := match sc.names.lookup x with | some .globalImplicit => true | _ => false
def okNm (x : Str) : Bool := !(x == ("__debug__" : Str)) && !(x == ("__classdict__" : Str))
def stB (T : Stc) (x : Str) : Bool := T.cf x || isLoc T.sc x
def slotB (T : Stc) (i : Nat) (x : Str) : Bool := decide (T.N[i]? = some x)
def Stc.blk (T : Stc) (scope : Scope) : Stc := { T with sc := relS scope T.sc, cf := fun x => scope.names.lookup x == some .cell }
def notStar : Expr → Bool
  | .Starred .. => false
  | _ => true
def notSet : Expr → Bool
  | .Set .. => false
  | _ => true
def notSlice : Expr → Bool
  | .Slice .. => false
  | _ => true
def baseOk : Expr → Bool
  | .Call (.Name x _) [] [] _ => x != ("super" : Str)
  | _ => true
def notComp : Expr → Bool
  | .ListComp .. => false
  | .SetComp .. => false
  | .DictComp .. => false
  | _ => true
/-- a, b = x, y: stored as a tuple's items are -/
def swN (sc : Scope) (ts : List Expr) (value : Expr) : Bool :=
  match value with
  | .Tuple vs _ _ =>
    (!(ts.length == 2 || ts.length == 3) || vs.length != ts.length) ||
    (vs.any fun | .Starred .. => true | _ => false) ||
    ((ts.filterMap fun
      | .Name id pos => if sc.names.lookup id == some .local && pos.line == (ts.head?.map (·.pos.line)).getD 0 then some id else none
      | _ => none).length != ts.length) ||
    vs.all (foldedForSure 8)
  | _ => true
/-- .. or exchanged -/
def par2B (sc : Scope) (ts : List Expr) (v : Expr) : Bool := match ts, v with
  | [.Name x px, .Name y py], .Tuple [a, b] _ _ => isLoc sc x && isLoc sc y && (py.line == px.line) && decide (x ≠ y) && notStar a && notStar b && !([a, b].all (foldedForSure 8)) && !([a, b].all (constantsAlone 8))
  | _, _ => false
def par3B (sc : Scope) (ts : List Expr) (v : Expr) : Bool := match ts, v with
  | [.Name x px, .Name y py, .Name z pz], .Tuple [a, b, c] _ _ => isLoc sc x && isLoc sc y && isLoc sc z && (py.line == px.line) && (pz.line == px.line) && decide (x ≠ y) && decide (x ≠ z) && decide (y ≠ z) && notStar a && notStar b && notStar c &&
    !([a, b, c].all (foldedForSure 8)) && !([a, b, c].all (constantsAlone 8))
  | _, _ => false
def isTupE : Ex → Bool
  | .tup _ => true
  | _ => false
def chNs (T : Stc) : List Expr → List Nat → Bool
  | [], [] => true
  | .Name x _ :: es, i :: is => slotB T i x && locB T.sc x && stB T x && chNs T es is
  | _, _ => false
def chTg (T : Stc) (e : Expr) : Tg → Bool
  | .name i => match e with | .Name x _ => slotB T i x && locB T.sc x && stB T x | _ => false
  | .tup is => match e with | .Tuple es _ _ => chNs T es is | _ => false
  | .nest i is => match e with | .Tuple [.Name x _, .Tuple es _ _] _ _ => slotB T i x && locB T.sc x && stB T x && chNs T es is | _ => false
/-- x.f, .. -/
def chFl (x : Str) : List Expr → List Str → Bool
  | [], [] => true
  | .Attribute (.Name y _) g _ :: es, f :: fs => decide (y = x) && decide (g = f) && chFl x es fs
  | _, _ => false
def headN : List Expr → Option Str
  | .Attribute (.Name y _) _ _ :: _ => some y
  | _ => none
def cstB (e : Expr) (d : D) : Bool := match e with
  | .Constant (.int i) _ _ => decide (d = .int i)
  | .Constant (.str s) _ _ => decide (d = .str s)
  | .Constant (.bool b) _ _ => decide (d = .bl b)
  | .Constant .none _ _ => decide (d = .non)
  | _ => false
def isTup : Expr → Bool
  | .Tuple .. => true
  | _ => false
def ownP (T : Stc) (own : List Nat) : List (Str × Nat) := own.map fun i => (T.N.getD i "", i)
def okBin : Operator → Bool
  | .Add => true | .Sub => true | .Mult => true | .FloorDiv => true | .Mod => true | .Pow => true | _ => false
/-- the keys of a display -/
def chKs : List Str → List (Option Expr) → Bool
  | [], [] => true
  | k :: ks, some (.Constant (.str x) _ _) :: es => decide (x = k) && chKs ks es
  | _, _ => false
mutual
def chE (T : Stc) : Ex → Expr → Bool
  | .var i, e => (match e with | .Name x _ => slotB T i x && visB T.sc x && okNm x | _ => false)
  | .cst d, e => cstB e d
  | .glob y, e => (match e with | .Name x _ => decide (x = y) && T.gs.contains x && glB T.sc x && okNm x | _ => false)
  | .tup es, e => (match e with | .Tuple xs _ _ => chA T es xs | _ => false)
  | .lst es, e => (match e with | .List xs _ => chA T es xs | _ => false)
  | .dict0, e => (match e with | .Dict [] [] _ => true | _ => false)
  | .dict ks es, e => (match e with
    | .Dict (k :: keys) vals _ => chKs ks (k :: keys) && decide (ks.Nodup) && decide (ks.length ≤ 15) && chA T es vals && decide (vals.length = ks.length)
    | _ => false)
  | .bin op a b, e => (match e with | .BinOp x o y _ => decide (o = op) && okBin op && chE T a x && chE T b y | _ => false)
  | .neg a, e => (match e with | .UnaryOp .USub x _ => chE T a x | _ => false)
  | .cmp op a b, e => (match e with | .Compare x [o] [y] _ => decide (o = op) && notSet y && chE T a x && chE T b y | _ => false)
  | .chain o1 o2 a b c, e => (match e with | .Compare x [p1, p2] [y, z] _ => decide (p1 = o1) && decide (p2 = o2) && notSet z && chE T a x && chE T b y && chE T c z | _ => false)
  | .and a b, e => (match e with
    | .BoolOp .And [x, y] _ => chE T a x && chE T b y
    | .BoolOp .And (x :: y :: z :: r) pos => chE T a x && chE T b (.BoolOp .And (y :: z :: r) pos)
    | _ => false)
  | .or a b, e => (match e with
    | .BoolOp .Or [x, y] _ => chE T a x && chE T b y
    | .BoolOp .Or (x :: y :: z :: r) pos => chE T a x && chE T b (.BoolOp .Or (y :: z :: r) pos)
    | _ => false)
  | .not a, e => (match e with | .UnaryOp .Not x _ => chE T a x | _ => false)
  | .ite c a b, e => (match e with | .IfExp x y z _ => chE T c x && chE T a y && chE T b z | _ => false)
  | .idx a i, e => (match e with | .Subscript x y _ => notSlice y && chE T a x && chE T i y | _ => false)
  | .sl a lo hi, e => (match e with | .Subscript x (.Slice l h none _) _ => chE T a x && chO T lo l && chO T hi h | _ => false)
  | .call f es, e => (match e with | .Call (.Name x _) (y :: ys) [] _ => decide (x = f) && T.fs.contains (x, ⟨x, [], ys.length + 1, none⟩) && glB T.sc x && okNm x && chA T es (y :: ys) | _ => false)
  | .call0 f, e => (match e with | .Call (.Name x _) [] [] _ => decide (x = f) && T.fs.contains (x, ⟨x, [], 0, none⟩) && glB T.sc x && okNm x | _ => false)
  | .callK tag f ks es kes, e => (match e with
    | .Call (.Name x _) ys kws _ => decide (x = f) && T.fs.contains (tag, ⟨x, ks, ys.length + kws.length, none⟩) && glB T.sc x && okNm x && decide (kws.map (·.arg) = ks.map some) && chA T es ys && chA T kes (kws.map (·.value))
    | _ => false)
  | .fld o f, e => (match e with | .Attribute x nm _ => decide (nm = f) && baseOk x && chE T o x | _ => false)
  | .mcall _ m ks o es kes, e => (match e with
    | .Call (.Attribute x nm ap) ys kws cp => decide (nm = m) && baseOk x && (ap.endLine == cp.line) && decide (ys.length + kws.length < 20) && decide (kws.map (·.arg) = ks.map some) && chE T o x && chA T es ys && chA T kes (kws.map (·.value))
    | _ => false)
  | .make _ c ks es kes, e => (match e with
    | .Call (.Name x _) ys kws _ => decide (x = c) && T.cs.contains c && glB T.sc x && okNm x && decide (kws.map (·.arg) = ks.map some) && chA T es ys && chA T kes (kws.map (·.value))
    | _ => false)
  | .bi b es, e => (match e with | .Call (.Name x _) (y :: ys) [] _ => decide (x = b.name) && T.bs.contains x && glB T.sc x && chA T es (y :: ys) | _ => false)
  | .meth m o es, e => (match e with | .Call (.Attribute x nm ap) (y :: ys) [] cp => decide (nm = m.name) && baseOk x && (ap.endLine == cp.line) && decide ((y :: ys).length < 20) && chE T o x && chA T es (y :: ys) | _ => false)
  | .lc own src tg c el, e => (match e with
    | .ListComp elt [⟨t, iter, ifs, 0⟩] scope _ => blkC T.N T.sc scope (ownP T own) && notSet iter && chI T src t iter && chTg (T.blk scope) t tg && chO (T.blk scope) c ifs.head? && decide (ifs.length ≤ 1) && chE (T.blk scope) el elt && tg.slots.all (fun i => own.contains i)
    | _ => false)
def chA (T : Stc) : Exs → List Expr → Bool
  | .nil, es => (match es with | [] => true | _ => false)
  | .cons c cs, es => (match es with | e :: r => notStar e && chE T c e && chA T cs r | _ => false)
def chO (T : Stc) : Exo → Option Expr → Bool
  | .none, o => (match o with | none => true | _ => false)
  | .some c, o => (match o with | some e => chE T c e | _ => false)
def chI (T : Stc) : Src → Expr → Expr → Bool
  | .seq c, _, e => chE T c e
  | .rng1 a, _, e => (match e with | .Call (.Name x _) [y] [] _ => decide (x = ("range" : Str)) && T.bs.contains x && glB T.sc x && notStar y && chE T a y | _ => false)
  | .rng2 a b, _, e => (match e with | .Call (.Name x _) [y, z] [] _ => decide (x = ("range" : Str)) && T.bs.contains x && glB T.sc x && notStar y && notStar z && chE T a y && chE T b z | _ => false)
  | .enum a, t, e => (match e with | .Call (.Name x _) [y] [] _ => isTup t && decide (x = ("enumerate" : Str)) && T.bs.contains x && glB T.sc x && notStar y && chE T a y | _ => false)
  | .zip a b, t, e => (match e with | .Call (.Name x _) [y, z] [] _ => isTup t && decide (x = ("zip" : Str)) && T.bs.contains x && glB T.sc x && notStar y && notStar z && chE T a y && chE T b z | _ => false)
end
/-- name = comprehension: whether the stores are exchanged -/
def swB (sc : Scope) (x : Str) (px : Pos) : Expr → Bool
  | .ListComp _ _ s p => (sc.names.lookup x == some .local) && (px.line == p.line) && !(s.names.any fun (n, k) => n == x && (k == .local || k == .cell))
  | _ => false
def isLcE : Ex → Bool
  | .lc .. => true
  | _ => false
mutual
def chS (T : Stc) : Sm → Stmt → Bool
  | .asg i c, s => (match s with | .Assign [.Name x px] v _ => slotB T i x && locB T.sc x && stB T x && chE T c v && (notComp v || isLcE c) | _ => false)
  | .asgT is c, s => (match s with
    | .Assign [.Tuple ts k p] v pos => chE T c v && chNs T ts is && (swN T.sc ts v || ((par2B T.sc ts v || par3B T.sc ts v) && isTupE c && decide (is.Nodup)))
    | _ => false)
  | .setIx o i c, s => (match s with | .Assign [.Subscript x y _] v _ => notSlice y && chE T c v && chE T o x && chE T i y | _ => false)
  | .aug i op c, s => (match s with | .AugAssign (.Name x _) o v _ => slotB T i x && locB T.sc x && stB T x && decide (o = op) && chE T c v | _ => false)
  | .expr c, s => (match s with | .Expr v _ => notComp v && chE T c v | _ => false)
  | .ret c, s => (match s with | .Return (some v) _ => chE T c v | _ => false)
  | .retN, s => (match s with | .Return none _ => true | _ => false)
  | .ite c a b, s => (match s with | .If x y z _ => chE T c x && chSs T a y && chSs T b z | _ => false)
  | .forS src tg body, s => (match s with | .For t iter b [] _ => notSet iter && chI T src t iter && chTg T t tg && chSs T body b | _ => false)
  | .pass, s => (match s with | .Pass _ => true | _ => false)
  | .brk, s => (match s with | .Break _ => true | _ => false)
  | .cont, s => (match s with | .Continue _ => true | _ => false)
  | .never, _ => true
  | .setFld o f c, s => (match s with | .Assign [.Attribute x nm _] v _ => decide (nm = f) && chE T c v && chE T o x | _ => false)
  | .augFld o f op c, s => (match s with | .AugAssign (.Attribute x nm _) o' v _ => decide (nm = f) && decide (o' = op) && chE T c v && chE T o x | _ => false)
  | .asgF i fs c, s => (match s with
    | .Assign [.Tuple ts k p] v pos => (match headN ts with
      | some x => slotB T i x && visB T.sc x && okNm x && chFl x ts fs && chE T c v && swN T.sc ts v
      | none => false)
    | _ => false)
  | .whil _ c b, s => (match s with | .While x y [] _ => chE T c x && chSs T b y | _ => false)
def chSs (T : Stc) : Sms → List Stmt → Bool
  | .nil, s => (match s with | [] => true | _ => false)
  | .cons c cs, s => (match s with | x :: r => chS T c x && chSs T cs r | _ => false)
end
end W9

/-! W9p: the checker is right -/
namespace W9
open PySem L2
theorem kindOf_eq (env : PySem.Env) (x : Str) : env.kindOf x = env.scope.names.lookup x := rfl
theorem isLoc_eq {sc : Scope} {x : Str} (h : isLoc sc x = true) : sc.names.lookup x = some .local := by
  unfold isLoc at h
  split at h
  · assumption
  · cases h
theorem locB_eq {sc : Scope} {x : Str} (h : locB sc x = true) : Loc sc x := by
  unfold locB at h
  split at h
  · exact .inl (by assumption)
  · exact .inr (by assumption)
  · cases h
theorem visB_eq {sc : Scope} {x : Str} (h : visB sc x = true) : Vis sc x := by
  unfold visB at h
  split at h
  · exact .inl (by assumption)
  · exact .inr (.inl (by assumption))
  · exact .inr (.inr (by assumption))
  · cases h
theorem glB_eq {sc : Scope} {x : Str} (h : glB sc x = true) : sc.names.lookup x = some .globalImplicit := by
  unfold glB at h
  split at h
  · assumption
  · cases h
theorem star_cons {e : Expr} {es : List Expr} {env : PySem.Env} (h : notStar e = true) : starEach (e :: es) env = (false, eval e env) :: starEach es env := by
  cases e <;> first | rfl | (cases h)
theorem star_any {env : PySem.Env} {pos : Pos} : ∀ {es : List Expr}, es.all notStar = true → (backTo pos (starEach es env)).any (·.1) = false
  | [], _ => rfl
  | e :: es, h => by
    simp only [List.all_cons, Bool.and_eq_true] at h
    rw [star_cons h.1]
    have ih := star_any (env := env) (pos := pos) h.2
    show (false || (backTo pos (starEach es env)).any (·.1)) = false
    rw [ih]; rfl
theorem star_all {env : PySem.Env} {pos : Pos} : ∀ {es : List Expr}, es.all notStar = true → (backTo pos (starEach es env)).all (fun x => !x.1) = true
  | [], _ => rfl
  | e :: es, h => by
    simp only [List.all_cons, Bool.and_eq_true] at h
    rw [star_cons h.1]
    have ih := star_all (env := env) (pos := pos) h.2
    show (true && (backTo pos (starEach es env)).all (fun x => !x.1)) = true
    rw [ih]; rfl
theorem set_marks {op : CmpOp} {e : Expr} (h : notSet e = true) : behindInMarks op e = false := by
  cases e <;> first | rfl | (cases h)
theorem set_fold {e : Expr} {env : PySem.Env} (h : notSet e = true) : ∀ x, foldedSetIterable e env x = pure x := by
  intro x
  cases e <;> first | rfl | (cases h)
theorem slice_plain {e : Expr} (h : notSlice e = true) : PlainIx e := by
  intro o i
  cases e <;> first | rfl | (cases h)
theorem base_ok {o : Expr} {n : Str} {env : PySem.Env} {w : Sem Value} (h : baseOk o = true) : attributeBase o n env w = w := by
  unfold baseOk at h
  split at h
  · rename_i x p pos
    unfold attributeBase
    simp only [h, Bool.true_or, if_true, bind_pure]
  · rename_i hn
    unfold attributeBase
    split
    · exact absurd rfl (hn _ _ _)
    · rfl
theorem comp_sw {v : Expr} {t : Option Expr} {l : Nat} {env : PySem.Env} (h : notComp v = true) : swapsWith v t l env = pure false := by
  cases v <;> first | rfl | (cases h)
theorem sw_tup {v : Expr} {ts : List Expr} {k : Nat} {p : Pos} {l : Nat} {env : PySem.Env} : swapsWith v (some (.Tuple ts k p)) l env = pure false := by cases v <;> rfl
theorem sw_sub {v o i : Expr} {p : Pos} {l : Nat} {env : PySem.Env} : swapsWith v (some (.Subscript o i p)) l env = pure false := by cases v <;> rfl
theorem sw_att {v o : Expr} {f : Str} {p : Pos} {l : Nat} {env : PySem.Env} : swapsWith v (some (.Attribute o f p)) l env = pure false := by cases v <;> rfl
theorem block_fn {env : PySem.Env} (h : env.scope.kind = .function) : env.blockKind = .function := by
  unfold Env.blockKind
  rw [h]; rfl
theorem swN_ok {ts : List Expr} {v : Expr} {k : Nat} {p : Pos} {env : PySem.Env} (h : swN env.scope ts v = true) : swappedStores [.Tuple ts k p] v env = pure none := by
  unfold swN at h
  split at h
  · rename_i vs k2 p2
    simp only [Bool.or_eq_true] at h
    unfold swappedStores
    simp only [pure_bind]
    split
    · rfl
    · rename_i c1
      split
      · rfl
      · rename_i c2
        split
        · rfl
        · rename_i c3
          split
          · rfl
          · rename_i c4
            exfalso
            rcases h with ((h | h) | h) | h
            · apply c1
              simp only [Bool.or_eq_true]
              exact .inl h
            · exact c2 h
            · apply c3
              simp only [Bool.or_eq_true]
              exact .inl h
            · exact c4 h
  · rename_i hn
    unfold swappedStores
    cases v <;> first | rfl | exact absurd rfl (hn _ _ _)
theorem any_star : ∀ {vs : List Expr}, vs.all notStar = true → (vs.any fun | .Starred .. => true | _ => false) = false
  | [], _ => rfl
  | e :: es, h => by
    simp only [List.all_cons, Bool.and_eq_true] at h
    rw [List.any_cons, any_star h.2]
    cases e <;> first | rfl | (cases h.1)
theorem par2_ok {x y : Str} {px py p p2 : Pos} {a b : Expr} {k k2 : Nat} {env : PySem.Env} (hk : env.scope.kind = .function) (h : par2B env.scope [.Name x px, .Name y py] (.Tuple [a, b] k2 p2) = true) :
    swappedStores [.Tuple [.Name x px, .Name y py] k p] (.Tuple [a, b] k2 p2) env = pure (some [x, y]) := by
  have hb := block_fn hk
  simp only [par2B, Bool.and_eq_true, decide_eq_true_eq, Bool.not_eq_true'] at h
  obtain ⟨⟨⟨⟨⟨⟨⟨h1, h2⟩, h3⟩, h4⟩, h5⟩, h6⟩, h7⟩, h8⟩ := h
  have e1 := isLoc_eq h1
  have e2 := isLoc_eq h2
  have hs := any_star (vs := [a, b]) (by simp [h5, h6])
  have h3' : py.line = px.line := beq_iff_eq.mp h3
  unfold swappedStores
  simp only [pure_bind, hb, hs, h7, h8]
  simp [kindOf_eq, e1, e2, Expr.pos, h3', h4, List.eraseDups_cons, Ne.symm h4]
  intro hh
  exfalso
  rcases hh with hh | hh
  · cases a <;> first | (cases hh; done) | (cases h5; done)
  · cases b <;> first | (cases hh; done) | (cases h6; done)
theorem par3_ok {x y z : Str} {px py pz p p2 : Pos} {a b c : Expr} {k k2 : Nat} {env : PySem.Env} (hk : env.scope.kind = .function) (h : par3B env.scope [.Name x px, .Name y py, .Name z pz] (.Tuple [a, b, c] k2 p2) = true) :
    swappedStores [.Tuple [.Name x px, .Name y py, .Name z pz] k p] (.Tuple [a, b, c] k2 p2) env = pure (some [x, y, z]) := by
  have hb := block_fn hk
  simp only [par3B, Bool.and_eq_true, decide_eq_true_eq, Bool.not_eq_true'] at h
  obtain ⟨⟨⟨⟨⟨⟨⟨⟨⟨⟨⟨⟨h1, h2⟩, h0⟩, h3⟩, h3z⟩, h4⟩, h4z⟩, h4y⟩, h5⟩, h6⟩, h6c⟩, h7⟩, h8⟩ := h
  have e1 := isLoc_eq h1
  have e2 := isLoc_eq h2
  have e3 := isLoc_eq h0
  have hs := any_star (vs := [a, b, c]) (by simp [h5, h6, h6c])
  have h3' : py.line = px.line := beq_iff_eq.mp h3
  have h3'' : pz.line = px.line := beq_iff_eq.mp h3z
  unfold swappedStores
  simp only [pure_bind, hb, hs, h7, h8]
  simp [kindOf_eq, e1, e2, e3, Expr.pos, h3', h3'', h4, h4z, h4y, List.eraseDups_cons, Ne.symm h4, Ne.symm h4z, Ne.symm h4y]
  intro hh
  exfalso
  rcases hh with hh | hh | hh
  · cases a <;> first | (cases hh; done) | (cases h5; done)
  · cases b <;> first | (cases hh; done) | (cases h6; done)
  · cases c <;> first | (cases hh; done) | (cases h6c; done)
theorem swB_ok {x : Str} {px pos spos : Pos} {elt : Expr} {gs : List Comprehension} {scope : Scope} {l : Nat} {env : PySem.Env} (hk : env.scope.kind = .function) : swapsWith (.ListComp elt gs scope pos) (some (.Name x px)) l env = pure (swB env.scope x px (.ListComp elt gs scope pos)) := by
  have hb := block_fn hk
  unfold swapsWith
  simp only [pure_bind, hb, kindOf_eq, swB, Expr.pos]
  simp
theorem kw_ok {env : PySem.Env} {pos : Pos} : ∀ {kws : List Keyword} {ks : List Str}, kws.map (·.arg) = ks.map some → (backToKw pos (keywordEach kws env)).all (·.1.isSome) = true ∧ (backToKw pos (keywordEach kws env)).filterMap (·.1) = ks ∧ (backToKw pos (keywordEach kws env)).any (·.1.isNone) = false ∧ kws.length = ks.length
  | [], [], _ => ⟨rfl, rfl, rfl, rfl⟩
  | [], _ :: _, h => by simp at h
  | _ :: _, [], h => by simp at h
  | ⟨nm, e, kp⟩ :: kws, k :: ks, h => by
    simp only [List.map_cons, List.cons.injEq] at h
    obtain ⟨h1, h2⟩ := h
    have h1' : nm = some k := h1
    subst h1'
    obtain ⟨a, b, c, d⟩ := kw_ok (env := env) (pos := pos) h2
    refine ⟨?_, ?_, ?_, congrArg (· + 1) d⟩
    · show ((some k).isSome && (backToKw pos (keywordEach kws env)).all (·.1.isSome)) = true
      rw [a]; rfl
    · show k :: (backToKw pos (keywordEach kws env)).filterMap (·.1) = k :: ks
      rw [b]
    · show ((some k).isNone || (backToKw pos (keywordEach kws env)).any (·.1.isNone)) = false
      rw [c]; rfl
theorem star_any2 {env : PySem.Env} {pos : Pos} {es : List Expr} (h : es.all notStar = true) : (backTo pos (starEach es env)).any (·.1) = false := star_any h
end W9

/-! W9q: THE SOUNDNESS: what the checker takes runs as the interpreter tells -/
namespace W9
open PySem L2
structure Good (X : Cx) (T : Stc) (C : Cts) (k : Nat) : Prop where
  N : X.N = T.N
  nd : T.N.Nodup
  sc : X.env.scope = T.sc
  kind : T.sc.kind = .function
  fn : ∀ x, T.cf x = true → X.fn x = true
  calm : X.calm = true
  gd : X.A.guards = some []
  rm1 : Room (k + 1) X.A
  bi : ∀ x ∈ T.bs, X.mg x = none
  fns : ∀ p ∈ T.fs, Callee X.prog X.w X.K X.mg X.base k p.2 (C.fn p.1)
  gls : ∀ x ∈ T.gs, ∃ d u v, C.gl x = some d ∧ X.mg x = some u ∧ RelV v u ∧ ∀ ρ H, Rep X.K ρ H d v
  pas : PassesOwn (model X.prog X.w) X.A X.env X.xe
  mts : ∀ tg fr, (∀ xs st, C.mt tg fr xs st = .no) ∨ Callee X.prog X.w X.K X.mg X.base k fr (C.mt tg fr)
  fls : ∀ f c D, C.fl c f = true → ClsN X.K c D → NoAttr X.K D f
  cls : ∀ c ∈ T.cs, ClsM X.K X.mg c
theorem Good.room {X : Cx} {T : Stc} {C : Cts} {k : Nat} (G : Good X T C k) : Room k X.A := G.rm1.mono (Nat.le_succ k)
section
variable {X : Cx} {T : Stc} {C : Cts} {k : Nat}
theorem Good.u65 (G : Good X T C k) : X.A.units + 65 < cLine := by have := G.room.un; omega
theorem Good.u1 (G : Good X T C k) : X.A.units + 1 < cLine := by have := G.room.un; omega
theorem Good.slot (G : Good X T C k) {i : Nat} {x : Str} (h : slotB T i x = true) : X.N[i]? = some x := by
  rw [G.N]; exact of_decide_eq_true h
theorem Good.ndX (G : Good X T C k) : X.N.Nodup := by rw [G.N]; exact G.nd
theorem Good.gl (G : Good X T C k) {x : Str} (h : glB T.sc x = true) : Gl X x := by
  show X.env.kindOf x = _
  rw [kindOf_eq, G.sc]
  exact glB_eq h
theorem Good.st (G : Good X T C k) {x : Str} (h : stB T x = true) : X.fn x = true ∨ X.env.scope.names.lookup x = some .local := by
  unfold stB at h
  rw [Bool.or_eq_true] at h
  rcases h with h | h
  · exact .inl (G.fn x h)
  · exact .inr (by rw [G.sc]; exact isLoc_eq h)
theorem Good.loc (G : Good X T C k) {x : Str} (h : locB T.sc x = true) : Loc X.env.scope x := by rw [G.sc]; exact locB_eq h
theorem okNm_eq {x : Str} (h : okNm x = true) : (x == ("__debug__" : Str)) = false ∧ (x == ("__classdict__" : Str)) = false := by
  unfold okNm at h
  simp only [Bool.and_eq_true, Bool.not_eq_true'] at h
  exact h
theorem Good.blk (G : Good X T C k) (scope : Scope) (hk : scope.kind = .function) : Blks X scope fun Y => Good Y (T.blk scope) C k := by
  intro s H C0 cl fp
  refine ⟨G.N, G.nd, ?_, hk, fun x h => h, G.calm, G.gd, G.rm1, G.bi, G.fns, G.gls, PassesOwn.never, G.mts, G.fls, G.cls⟩
  show relabel scope X.env = relS scope T.sc
  rw [← G.sc]
  rfl
theorem ch_nms (G : Good X T C k) : ∀ {es : List Expr} {is : List Nat}, chNs T es is = true → Nms X es is
  | [], [], _ => .nil
  | [], _ :: _, h => by simp [chNs] at h
  | e :: es, is, h => by
    cases is with
    | nil => cases e <;> simp [chNs] at h
    | cons i is =>
      cases e with
      | Name x p =>
        simp only [chNs, Bool.and_eq_true] at h
        exact .cons ⟨x, p, rfl, G.slot h.1.1.1, G.loc h.1.1.2, G.st h.1.2⟩ (ch_nms G h.2)
      | _ => simp [chNs] at h
theorem ch_tg (G : Good X T C k) {e : Expr} {t : Tg} (h : chTg T e t = true) : SndG X e t := by
  cases t with
  | name i =>
    simp only [chTg] at h
    split at h
    · simp only [Bool.and_eq_true] at h
      exact sndG_name G.ndX (G.slot h.1.1) (G.loc h.1.2) (G.st h.2)
    · cases h
  | tup is =>
    simp only [chTg] at h
    split at h
    · exact sndG_tup G.calm G.ndX (ch_nms G h)
    · cases h
  | nest i is =>
    simp only [chTg] at h
    split at h
    · simp only [Bool.and_eq_true] at h
      exact sndG_nest G.calm G.ndX ⟨_, _, rfl, G.slot h.1.1.1, G.loc h.1.1.2, G.st h.1.2⟩ (ch_nms G h.2)
    · cases h
theorem ok_binD (op : Operator) (h : okBin op = true) : OkOp X (binaryOp op) (binD op) := by
  cases op <;> first | (cases h; done) | exact ok_add | exact ok_sub | exact ok_mul | exact ok_div | exact ok_mod | exact ok_pow
theorem ok_cmpD (G : Good X T C k) (op : CmpOp) : OkOp X (compareOp op) (cmpD op) := by
  have h1 := G.u65
  cases op <;> first | exact ok_eq (by omega) | exact ok_ne (by omega) | exact ok_lt | exact ok_le | exact ok_gt | exact ok_ge | exact ok_is | exact ok_isnot | exact ok_in h1 | exact ok_notin h1
theorem pt_ife {a b c : Expr} {pos : Pos} {tc ta tb : TT} (hc : PT X c tc) (ha : PT X a ta) (hb : PT X b tb) : PT X (.IfExp c a b pos) (fun σ H Q => tc σ H fun r H1 => if r = true then ta σ H1 Q else tb σ H1 Q) := by
  refine ⟨fun pins s σ H Q I h => ?_⟩
  unfold PySem.isTrue
  refine wpAny_bind (thn (hc.run pins s σ H _ I h) fun r s1 ⟨H1, I1, q1⟩ => ?_)
  cases r with
  | true => exact ha.run pins s1 σ H1 Q I1 q1
  | false => exact hb.run pins s1 σ H1 Q I1 q1
theorem sndT_ite {a b c : Expr} {pos : Pos} {tc ta tb : Env → M Bool} (hc : SndT X c tc) (ha : SndT X a ta) (hb : SndT X b tb) : SndT X (.IfExp c a b pos) (fun env => M.bind (tc env) fun r => if r = true then ta env else tb env) := by
  intro ρ st env σ H d st' S R e Q P
  obtain ⟨r, st1, e1, e2⟩ := bind_ok e
  refine wt_of (pt_ife pt_wt pt_wt pt_wt) (hc ρ st env σ H r st1 S R e1 _ fun ρ1 H1 g1 S1 => ?_)
  cases r with
  | true => rw [if_pos rfl] at e2 ⊢; exact ha ρ1 st1 env σ H1 d st' S1 (R.grow g1) e2 Q (P.grow g1)
  | false => rw [if_neg (by decide)] at e2 ⊢; exact hb ρ1 st1 env σ H1 d st' S1 (R.grow g1) e2 Q (P.grow g1)
end
theorem evs_len (C : Cts) : ∀ (cs : Exs) (T : Stc) (es : List Expr) (env : Env) (st : Store) (ds : List D) (st' : Store), chA T cs es = true → evs C cs env st = .ok ds st' → ds.length = es.length
  | .nil, T, es, env, st, ds, st', h, e => by
    simp only [chA] at h
    split at h
    · cases e; rfl
    · cases h
  | .cons c cs, T, es, env, st, ds, st', h, e => by
    simp only [chA] at h
    split at h
    · simp only [Bool.and_eq_true] at h
      obtain ⟨x, st1, e1, e2⟩ := bind_ok e
      obtain ⟨xs, st2, e2, e3⟩ := bind_ok e2
      cases e3
      exact congrArg (· + 1) (evs_len C cs T _ env st1 xs _ h.2 e2)
    · cases h
theorem chA_nil {T : Stc} {cs : Exs} (h : chA T cs [] = true) : cs = .nil := by
  cases cs with
  | nil => rfl
  | cons _ _ => simp [chA] at h
theorem chA_star (T : Stc) : ∀ (cs : Exs) (es : List Expr), chA T cs es = true → es.all notStar = true
  | .nil, es, h => by
    simp only [chA] at h
    split at h
    · rfl
    · cases h
  | .cons c cs, es, h => by
    simp only [chA] at h
    split at h
    · simp only [Bool.and_eq_true] at h
      simp only [List.all_cons, Bool.and_eq_true]
      exact ⟨h.1.1, chA_star T cs _ h.2⟩
    · cases h
theorem blk_kind {N : List Str} {sc scope : Scope} {own : List (Str × Nat)} (h : blkC N sc scope own = true) : scope.kind = .function := (blkOk_by h).kind
theorem own_map (T : Stc) (own : List Nat) : (ownP T own).map (·.2) = own := by
  unfold ownP
  rw [List.map_map]
  exact List.map_id own
theorem chKs_ok : ∀ {ks : List Str} {keys : List (Option Expr)}, chKs ks keys = true → keys.all (·.isSome) = true ∧ ks.length = keys.length
  | [], [], _ => ⟨rfl, rfl⟩
  | [], _ :: _, h => by simp [chKs] at h
  | _ :: _, [], h => by simp [chKs] at h
  | k :: ks, o :: keys, h => by
    unfold chKs at h
    split at h
    · simp at *
    · rename_i h1 h2
      cases h1
      cases h2
      simp only [Bool.and_eq_true] at h
      obtain ⟨a, b⟩ := chKs_ok h.2
      exact ⟨by simp [a], congrArg (· + 1) b⟩
    · cases h
/-- the value and the test -/
def Both (X : Cx) (e : Expr) (m : EvM) : Prop := SndE X e m.1 ∧ SndT X e m.2 ∧ ((∃ op vs p, e = .BoolOp op vs p) → SndW X e m.2)
theorem both_plain {X : Cx} {e : Expr} {v : Env → M D} (h : SndE X e v) (he : ∀ whole, isTrue e X.env whole = (do let v ← whole; standAt e.pos; holding [v] (truthy v))) (hb : ∀ op vs p, e ≠ .BoolOp op vs p) : Both X e (plain v) :=
  ⟨h, sndT_plain h he, fun ⟨op, vs, p, z⟩ => absurd z (hb op vs p)⟩
mutual
theorem sE (C : Cts) : ∀ (c : Ex) {X : Cx} {T : Stc} {k : Nat} {e : Expr}, Good X T C k → chE T c e = true → Both X e (bo C c)
  | .var i, X, T, k, e, G, h => by
    simp only [chE] at h
    split at h
    · simp only [Bool.and_eq_true] at h
      obtain ⟨h3, h4⟩ := okNm_eq h.2
      exact both_plain (snd_var (G.slot h.1.1) (by rw [G.sc]; exact visB_eq h.1.2) h3 h4) (fun _ => rfl) (fun _ _ _ z => nomatch z)
    · cases h
  | .cst d, X, T, k, e, G, h => by
    simp only [chE, cstB] at h
    split at h
    · have := of_decide_eq_true h; subst this; exact both_plain snd_int (fun _ => rfl) (fun _ _ _ z => nomatch z)
    · have := of_decide_eq_true h; subst this; exact both_plain snd_str (fun _ => rfl) (fun _ _ _ z => nomatch z)
    · have := of_decide_eq_true h; subst this; exact both_plain snd_bl (fun _ => rfl) (fun _ _ _ z => nomatch z)
    · have := of_decide_eq_true h; subst this; exact both_plain snd_non (fun _ => rfl) (fun _ _ _ z => nomatch z)
    · cases h
  | .glob y, X, T, k, e, G, h => by
    simp only [chE] at h
    split at h
    · simp only [Bool.and_eq_true, List.contains_eq_mem, decide_eq_true_eq] at h
      obtain ⟨⟨⟨h1, h2⟩, h3⟩, h4⟩ := h
      rename_i x0 p0
      subst h1
      obtain ⟨d, u, v, g1, g2, g3, g4⟩ := G.gls _ h2
      have key : (bo C (.glob x0)) = plain (fun _ st => .ok d st) := by
        unfold bo
        rw [g1]
      rw [key]
      exact both_plain (snd_glob (G.gl h3) g2 g3 g4 (okNm_eq h4).1) (fun _ => rfl) (fun _ _ _ z => nomatch z)
    · cases h
  | .tup es, X, T, k, e, G, h => by
    simp only [chE] at h
    split at h
    · exact both_plain (snd_tup (sA C es G h)) (fun _ => rfl) (fun _ _ _ z => nomatch z)
    · cases h
  | .lst es, X, T, k, e, G, h => by
    simp only [chE] at h
    split at h
    · exact both_plain (snd_lst (sA C es G h)) (fun _ => rfl) (fun _ _ _ z => nomatch z)
    · cases h
  | .dict0, X, T, k, e, G, h => by
    simp only [chE] at h
    split at h
    · exact both_plain snd_dict0 (fun _ => rfl) (fun _ _ _ z => nomatch z)
    · cases h
  | .dict ks es, X, T, k, e, G, h => by
    simp only [chE] at h
    split at h
    · simp only [Bool.and_eq_true, decide_eq_true_eq] at h
      obtain ⟨⟨⟨⟨h1, h2⟩, h3⟩, h4⟩, h5⟩ := h
      obtain ⟨a1, a2⟩ := chKs_ok h1
      exact both_plain (snd_disp (sP C es G h1 h4 h5) a1 (by rw [← a2, h5]) (by simp) (by rw [← a2]; exact h3) h2) (fun _ => rfl) (fun _ _ _ z => nomatch z)
    · cases h
  | .bin op a b, X, T, k, e, G, h => by
    simp only [chE] at h
    split at h
    · simp only [Bool.and_eq_true, decide_eq_true_eq] at h
      obtain ⟨⟨⟨h1, h2⟩, h3⟩, h4⟩ := h
      subst h1
      exact both_plain (snd_bin (ok_binD _ h2) (sE C a G h3).1 (sE C b G h4).1) (fun _ => rfl) (fun _ _ _ z => nomatch z)
    · cases h
  | .neg a, X, T, k, e, G, h => by
    simp only [chE] at h
    split at h
    · exact both_plain (snd_neg (sE C a G h).1) (fun _ => rfl) (fun _ _ _ z => nomatch z)
    · cases h
  | .cmp op a b, X, T, k, e, G, h => by
    simp only [chE] at h
    split at h
    · simp only [Bool.and_eq_true, decide_eq_true_eq] at h
      obtain ⟨⟨⟨h1, h2⟩, h3⟩, h4⟩ := h
      subst h1
      exact ⟨snd_cmp (ok_cmpD G _) (set_marks h2) (sE C a G h3).1 (sE C b G h4).1, sndT_cmp (ok_cmpD G _) (set_marks h2) (sE C a G h3).1 (sE C b G h4).1, fun ⟨_, _, _, z⟩ => nomatch z⟩
    · cases h
  | .chain o1 o2 a b c, X, T, k, e, G, h => by
    simp only [chE] at h
    split at h
    · simp only [Bool.and_eq_true, decide_eq_true_eq] at h
      obtain ⟨⟨⟨⟨⟨h1, h2⟩, h3⟩, h4⟩, h5⟩, h6⟩ := h
      subst h1 h2
      exact ⟨snd_chain (ok_cmpD G _) (ok_cmpD G _) (set_marks h3) (sE C a G h4).1 (sE C b G h5).1 (sE C c G h6).1, sndT_chain (ok_cmpD G _) (ok_cmpD G _) (set_marks h3) (sE C a G h4).1 (sE C b G h5).1 (sE C c G h6).1, fun ⟨_, _, _, z⟩ => nomatch z⟩
    · cases h
  | .and a b, X, T, k, e, G, h => by
    simp only [chE] at h
    split at h
    · simp only [Bool.and_eq_true] at h
      have ha := sE C a G h.1
      have hb := sE C b G h.2
      rename_i x0 y0 pos0
      have w := sndW_and (pos := pos0) ha.2.1 (sndW_one_and (pos := pos0) hb.2.1)
      exact ⟨snd_and ha.1 (snd_one hb.1), w.t, fun _ => w⟩
    · simp only [Bool.and_eq_true] at h
      have ha := sE C a G h.1
      have hb := sE C b G h.2
      have w := sndW_and ha.2.1 (hb.2.2 ⟨_, _, _, rfl⟩)
      exact ⟨snd_and ha.1 hb.1, w.t, fun _ => w⟩
    · cases h
  | .or a b, X, T, k, e, G, h => by
    simp only [chE] at h
    split at h
    · simp only [Bool.and_eq_true] at h
      have ha := sE C a G h.1
      have hb := sE C b G h.2
      rename_i x0 y0 pos0
      have w := sndW_or (pos := pos0) ha.2.1 (sndW_one_or (pos := pos0) hb.2.1)
      exact ⟨snd_or ha.1 (snd_one hb.1), w.t, fun _ => w⟩
    · simp only [Bool.and_eq_true] at h
      have ha := sE C a G h.1
      have hb := sE C b G h.2
      have w := sndW_or ha.2.1 (hb.2.2 ⟨_, _, _, rfl⟩)
      exact ⟨snd_or ha.1 hb.1, w.t, fun _ => w⟩
    · cases h
  | .not a, X, T, k, e, G, h => by
    simp only [chE] at h
    split at h
    · have ha := sE C a G h
      exact ⟨snd_not ha.1, sndT_not ha.2.1, fun ⟨_, _, _, z⟩ => nomatch z⟩
    · cases h
  | .ite c a b, X, T, k, e, G, h => by
    simp only [chE] at h
    split at h
    · simp only [Bool.and_eq_true] at h
      have hc := sE C c G h.1.1
      have ha := sE C a G h.1.2
      have hb := sE C b G h.2
      exact ⟨snd_ite hc.2.1 ha.1 hb.1, sndT_ite hc.2.1 ha.2.1 hb.2.1, fun ⟨_, _, _, z⟩ => nomatch z⟩
    · cases h
  | .idx a i, X, T, k, e, G, h => by
    simp only [chE] at h
    split at h
    · simp only [Bool.and_eq_true] at h
      exact both_plain (snd_idx G.u1 (slice_plain h.1.1) (sE C a G h.1.2).1 (sE C i G h.2).1) (fun _ => rfl) (fun _ _ _ z => nomatch z)
    · cases h
  | .sl a lo hi, X, T, k, e, G, h => by
    simp only [chE] at h
    split at h
    · simp only [Bool.and_eq_true] at h
      exact both_plain (snd_sl (sE C a G h.1.1).1 (sO C lo G h.1.2) (sO C hi G h.2)) (fun _ => rfl) (fun _ _ _ z => nomatch z)
    · cases h
  | .call f es, X, T, k, e, G, h => by
    simp only [chE] at h
    split at h
    · simp only [Bool.and_eq_true, decide_eq_true_eq, List.contains_eq_mem] at h
      obtain ⟨⟨⟨⟨h1, h2⟩, h3⟩, h4⟩, h5⟩ := h
      subst h1
      have st := chA_star T es _ h5
      simp only [List.all_cons, Bool.and_eq_true] at st
      exact both_plain (snd_call (G.fns _ h2) rfl rfl rfl G.room G.gd (G.gl h3) (okNm_eq h4).1 (star_cons st.1) (star_any st.2) (sA C es G h5) (fun env s ds s' hh => evs_len C es T _ env s ds s' h5 hh)) (fun _ => rfl) (fun _ _ _ z => nomatch z)
    · cases h
  | .call0 f, X, T, k, e, G, h => by
    simp only [chE] at h
    split at h
    · simp only [Bool.and_eq_true, decide_eq_true_eq, List.contains_eq_mem] at h
      obtain ⟨⟨⟨h1, h2⟩, h3⟩, h4⟩ := h
      subst h1
      exact both_plain (snd_call0 (G.fns _ h2) rfl rfl rfl rfl G.room G.gd (G.gl h3) (okNm_eq h4).1) (fun _ => rfl) (fun _ _ _ z => nomatch z)
    · cases h
  | .callK tag f ks es kes, X, T, k, e, G, h => by
    simp only [chE] at h
    split at h
    · rename_i x0 p0 ys0 kws0 pos0
      simp only [Bool.and_eq_true, decide_eq_true_eq, List.contains_eq_mem] at h
      obtain ⟨⟨⟨⟨⟨⟨h1, h2⟩, h3⟩, h4⟩, h5⟩, h6⟩, h7⟩ := h
      subst h1
      obtain ⟨k1, k2, k3, k4⟩ := kw_ok (env := X.env) (pos := pos0) h5
      cases ys0 with
      | nil =>
        have hes := chA_nil h6
        subst hes
        refine both_plain (snd_callK0 (G.fns _ h2) rfl rfl G.room G.gd (G.gl h3) (okNm_eq h4).1 k1 k2 ?_ (sK C kes G h7) ?_) (fun _ => rfl) (fun _ _ _ z => nomatch z)
        · rw [k3]; rfl
        · intro env s zs s'' e2
          have l2 := evs_len C kes T _ env s zs s'' h7 e2
          rw [List.length_map] at l2
          exact ⟨by rw [l2]; simp, by rw [l2, k4]⟩
      | cons y0 ys0 =>
        have st := chA_star T es _ h6
        have st' := st
        simp only [List.all_cons, Bool.and_eq_true] at st'
        refine both_plain (snd_callK (G.fns _ h2) rfl rfl G.room G.gd (G.gl h3) (okNm_eq h4).1 (star_cons st'.1) k1 k2 ?_ (sA C es G h6) (sK C kes G h7) ?_) (fun _ => rfl) (fun _ _ _ z => nomatch z)
        · rw [star_any2 st, k3]; rfl
        · intro env s ds s' zs s'' e1 e2
          have l1 := evs_len C es T _ env s ds s' h6 e1
          have l2 := evs_len C kes T _ env s' zs s'' h7 e2
          rw [List.length_map] at l2
          exact ⟨by rw [List.length_append, l1, l2], by rw [l2, k4]⟩
    · cases h
  | .fld o f, X, T, k, e, G, h => by
    simp only [chE] at h
    split at h
    · simp only [Bool.and_eq_true, decide_eq_true_eq] at h
      obtain ⟨⟨h1, h2⟩, h3⟩ := h
      subst h1
      exact both_plain (snd_fld (G.fls _) (base_ok h2) (sE C o G h3).1) (fun _ => rfl) (fun _ _ _ z => nomatch z)
    · cases h
  | .mcall tag m ks o es kes, X, T, k, e, G, h => by
    simp only [chE] at h
    split at h
    · rename_i o0 nm0 ap0 ys0 kws0 pos0
      simp only [Bool.and_eq_true, decide_eq_true_eq] at h
      obtain ⟨⟨⟨⟨⟨⟨⟨h1, h2⟩, h3⟩, h4⟩, h5⟩, h6⟩, h7⟩, h8⟩ := h
      subst h1
      obtain ⟨k1, k2, k3, k4⟩ := kw_ok (env := X.env) (pos := pos0) h5
      have hlen : ∀ env st zs st'', evs C kes env st = .ok zs st'' → zs.length = ks.length := by
        intro env s zs s'' e2
        have l2 := evs_len C kes T _ env s zs s'' h8 e2
        rw [List.length_map] at l2
        rw [l2, k4]
      cases ys0 with
      | nil =>
        have hes := chA_nil h7
        subst hes
        refine both_plain (snd_mcall0 (tag := tag) G.mts G.room G.gd k1 k2 (by rw [k3]; rfl) (base_ok h2) ?_ h3 (sE C o G h6).1 (sK C kes G h8) hlen) (fun _ => rfl) (fun _ _ _ z => nomatch z)
        unfold methodCallForm
        rw [k1]
        show (true && true && decide _) = true
        simp only [Bool.true_and, decide_eq_true_eq]
        split <;> omega
      | cons y0 ys0 =>
        have st := chA_star T es _ h7
        have st' := st
        simp only [List.all_cons, Bool.and_eq_true] at st'
        refine both_plain (snd_mcall (tag := tag) G.mts G.room G.gd (star_cons st'.1) k1 k2 (by rw [star_any2 st, k3]; rfl) (base_ok h2) ?_ h3 (sE C o G h6).1 (sA C es G h7) (sK C kes G h8) hlen) (fun _ => rfl) (fun _ _ _ z => nomatch z)
        unfold methodCallForm
        rw [k1]
        rw [show (backTo pos0 (starEach (y0 :: ys0) X.env)).all (!·.1) = true from star_all st]
        simp only [Bool.true_and, decide_eq_true_eq]
        split <;> omega
    · cases h
  | .make tag c ks es kes, X, T, k, e, G, h => by
    simp only [chE] at h
    split at h
    · rename_i x0 p0 ys0 kws0 pos0
      simp only [Bool.and_eq_true, decide_eq_true_eq, List.contains_eq_mem] at h
      obtain ⟨⟨⟨⟨⟨⟨h1, h2⟩, h3⟩, h4⟩, h5⟩, h6⟩, h7⟩ := h
      subst h1
      obtain ⟨k1, k2, k3, k4⟩ := kw_ok (env := X.env) (pos := pos0) h5
      have hlen : ∀ env st zs st'', evs C kes env st = .ok zs st'' → zs.length = ks.length := by
        intro env s zs s'' e2
        have l2 := evs_len C kes T _ env s zs s'' h7 e2
        rw [List.length_map] at l2
        rw [l2, k4]
      cases ys0 with
      | nil =>
        have hes := chA_nil h6
        subst hes
        exact both_plain (snd_make0 (tag := tag) G.mts (G.cls _ h2) G.rm1 G.gd (G.gl h3) (okNm_eq h4).1 k1 k2 (by rw [k3]; rfl) (sK C kes G h7) hlen) (fun _ => rfl) (fun _ _ _ z => nomatch z)
      | cons y0 ys0 =>
        have st := chA_star T es _ h6
        have st' := st
        simp only [List.all_cons, Bool.and_eq_true] at st'
        exact both_plain (snd_make (tag := tag) G.mts (G.cls _ h2) G.rm1 G.gd (G.gl h3) (okNm_eq h4).1 (star_cons st'.1) k1 k2 (by rw [star_any2 st, k3]; rfl) (sA C es G h6) (sK C kes G h7) hlen) (fun _ => rfl) (fun _ _ _ z => nomatch z)
    · cases h
  | .bi b es, X, T, k, e, G, h => by
    simp only [chE] at h
    split at h
    · simp only [Bool.and_eq_true, decide_eq_true_eq, List.contains_eq_mem] at h
      obtain ⟨⟨⟨h1, h2⟩, h3⟩, h5⟩ := h
      subst h1
      have st := chA_star T es _ h5
      simp only [List.all_cons, Bool.and_eq_true] at st
      exact both_plain (snd_bi G.calm G.gd G.u65 (G.gl h3) (G.bi _ h2) (star_cons st.1) (star_any st.2) (sA C es G h5)) (fun _ => rfl) (fun _ _ _ z => nomatch z)
    · cases h
  | .meth m o es, X, T, k, e, G, h => by
    simp only [chE] at h
    split at h
    · simp only [Bool.and_eq_true, decide_eq_true_eq] at h
      obtain ⟨⟨⟨⟨⟨h1, h2⟩, h3⟩, h4⟩, h5⟩, h6⟩ := h
      subst h1
      have st := chA_star T es _ h6
      have st' := st
      simp only [List.all_cons, Bool.and_eq_true] at st'
      refine both_plain (snd_meth G.u1 (base_ok h2) ?_ h3 (star_cons st'.1) (star_any st'.2) (sE C o G h5).1 (sA C es G h6)) (fun _ => rfl) (fun _ _ _ z => nomatch z)
      rw [star_all st]
      show (true && true && decide _) = true
      simp only [Bool.true_and, decide_eq_true_eq]
      show _ + 0 + 0 < 30
      omega
    · cases h
  | .lc own src tg c el, X, T, k, e, G, h => by
    simp only [chE] at h
    split at h
    · rename_i elt t iter ifs scope pos
      simp only [Bool.and_eq_true, decide_eq_true_eq] at h
      obtain ⟨⟨⟨⟨⟨⟨⟨h1, h2⟩, h3⟩, h4⟩, h5⟩, h6⟩, h7⟩, h8⟩ := h
      have GB := G.blk scope (blk_kind h1)
      have hc : ifs = ifs.head?.toList := by
        match ifs, h6 with
        | [], _ => rfl
        | [_], _ => rfl
      rw [hc]
      refine both_plain (snd_lc (t := tg) (own := own) (ownp := ownP T own) G.calm G.ndX ?_ (own_map T own) (set_fold h2) (sI C src G h3) (fun s H C0 cl fp => ch_tg (GB s H C0 cl fp) h4) (sTo C c GB h5) (fun s H C0 cl fp => (sE C el (GB s H C0 cl fp) h7).1) ?_) (fun _ => rfl) (fun _ _ _ z => nomatch z)
      · rw [G.N, G.sc]; exact blkOk_by h1
      · intro i hi
        have := List.all_eq_true.mp h8 i hi
        simpa using this
    · cases h
theorem sA (C : Cts) : ∀ (cs : Exs) {X : Cx} {T : Stc} {k : Nat} {es : List Expr}, Good X T C k → chA T cs es = true → SndA X es (evs C cs)
  | .nil, X, T, k, es, G, h => by
    simp only [chA] at h
    split at h
    · exact sndA_nil
    · cases h
  | .cons c cs, X, T, k, es, G, h => by
    simp only [chA] at h
    split at h
    · simp only [Bool.and_eq_true] at h
      exact sndA_cons (sE C c G h.1.2).1 (sA C cs G h.2) (star_cons h.1.1)
    · cases h
theorem sK (C : Cts) : ∀ (cs : Exs) {X : Cx} {T : Stc} {k : Nat} {kws : List Keyword}, Good X T C k → chA T cs (kws.map (·.value)) = true → SndK X kws (evs C cs)
  | .nil, X, T, k, kws, G, h => by
    cases kws with
    | nil => exact sndK_nil
    | cons a r => simp [chA] at h
  | .cons c cs, X, T, k, kws, G, h => by
    cases kws with
    | nil => simp [chA] at h
    | cons a r =>
      obtain ⟨nm, v, kp⟩ := a
      simp only [List.map_cons, chA, Bool.and_eq_true] at h
      exact sndK_cons (sE C c G h.1.2).1 (sK C cs G h.2)
theorem sP (C : Cts) : ∀ (cs : Exs) {X : Cx} {T : Stc} {k : Nat} {pos : Pos} {ks : List Str} {keys : List (Option Expr)} {vals : List Expr}, Good X T C k → chKs ks keys = true → chA T cs vals = true → vals.length = ks.length → SndP X pos keys vals ks (evs C cs)
  | .nil, X, T, k, pos, ks, keys, vals, G, hk, h, hl => by
    cases vals with
    | nil =>
      cases ks with
      | nil =>
        cases keys with
        | nil => exact sndP_nil
        | cons _ _ => simp [chKs] at hk
      | cons _ _ => simp at hl
    | cons _ _ => simp [chA] at h
  | .cons c cs, X, T, k, pos, ks, keys, vals, G, hk, h, hl => by
    cases vals with
    | nil => simp [chA] at h
    | cons v vals =>
      simp only [chA, Bool.and_eq_true] at h
      cases ks with
      | nil => simp at hl
      | cons x ks =>
        unfold chKs at hk
        split at hk
        · simp at *
        · rename_i h2
          cases h2
          simp only [Bool.and_eq_true, decide_eq_true_eq] at hk
          obtain ⟨rfl, hk⟩ := hk
          exact sndP_cons (sE C c G h.1.2).1 (sP C cs G hk h.2 (by simpa using hl))
        · cases hk
theorem sO (C : Cts) : ∀ (c : Exo) {X : Cx} {T : Stc} {k : Nat} {o : Option Expr}, Good X T C k → chO T c o = true → SndO X o (evo C c)
  | .none, X, T, k, o, G, h => by
    simp only [chO] at h
    split at h
    · exact sndO_none
    · cases h
  | .some c, X, T, k, o, G, h => by
    simp only [chO] at h
    split at h
    · exact sndO_some (sE C c G h).1
    · cases h
theorem sTo (C : Cts) : ∀ (c : Exo) {X : Cx} {T : Stc} {k : Nat} {scope : Scope} {o : Option Expr}, (Blks X scope fun Y => Good Y T C k) → chO T c o = true → SndTo X scope o (tsto C c)
  | .none, X, T, k, scope, o, G, h => by
    simp only [chO] at h
    split at h
    · exact fun _ _ => rfl
    · cases h
  | .some c, X, T, k, scope, o, G, h => by
    simp only [chO] at h
    split at h
    · exact fun s H C0 cl fp => (sE C c (G s H C0 cl fp) h).2.1
    · cases h
theorem sI (C : Cts) : ∀ (c : Src) {X : Cx} {T : Stc} {k : Nat} {t e : Expr}, Good X T C k → chI T c t e = true → SndI X t e (srcE C c)
  | .seq c, X, T, k, t, e, G, h => by
    simp only [chI] at h
    exact sndI_seq (sE C c G h).1
  | .rng1 a, X, T, k, t, e, G, h => by
    simp only [chI] at h
    split at h
    · simp only [Bool.and_eq_true, decide_eq_true_eq, List.contains_eq_mem] at h
      obtain ⟨⟨⟨⟨h1, h2⟩, h3⟩, h4⟩, h5⟩ := h
      subst h1
      exact sndI_rng1 (G.gl h3) (G.bi _ h2) (star_cons h4) (sE C a G h5).1
    · cases h
  | .rng2 a b, X, T, k, t, e, G, h => by
    simp only [chI] at h
    split at h
    · simp only [Bool.and_eq_true, decide_eq_true_eq, List.contains_eq_mem] at h
      obtain ⟨⟨⟨⟨⟨⟨h1, h2⟩, h3⟩, h4⟩, h4'⟩, h5⟩, h6⟩ := h
      subst h1
      exact sndI_rng2 (G.gl h3) (G.bi _ h2) (by rw [star_cons h4, star_cons h4']; rfl) (star_cons h4') (sE C a G h5).1 (sE C b G h6).1
    · cases h
  | .enum a, X, T, k, t, e, G, h => by
    simp only [chI] at h
    split at h
    · simp only [Bool.and_eq_true, decide_eq_true_eq, List.contains_eq_mem] at h
      obtain ⟨⟨⟨⟨⟨h0, h1⟩, h2⟩, h3⟩, h4⟩, h5⟩ := h
      subst h1
      cases t with
      | Tuple elts kk tpos => exact sndI_enum (G.gl h3) (G.bi _ h2) (star_cons h4) (sE C a G h5).1
      | _ => cases h0
    · cases h
  | .zip a b, X, T, k, t, e, G, h => by
    simp only [chI] at h
    split at h
    · simp only [Bool.and_eq_true, decide_eq_true_eq, List.contains_eq_mem] at h
      obtain ⟨⟨⟨⟨⟨⟨⟨h0, h1⟩, h2⟩, h3⟩, h4⟩, h5⟩, h6⟩, h7⟩ := h
      subst h1
      cases t with
      | Tuple elts kk tpos => exact sndI_zip (G.gl h3) (G.bi _ h2) (star_cons h4) (star_cons h5) (sE C a G h6).1 (sE C b G h7).1
      | _ => cases h0
    · cases h
end
end W9

/-! W9r: THE SOUNDNESS of the statements -/
namespace W9
open PySem L2
theorem chNs_len {T : Stc} : ∀ {es : List Expr} {is : List Nat}, chNs T es is = true → es.length = is.length
  | [], [], _ => rfl
  | [], _ :: _, h => by simp [chNs] at h
  | e :: es, is, h => by
    cases is with
    | nil => cases e <;> simp [chNs] at h
    | cons i is =>
      cases e with
      | Name x p =>
        simp only [chNs, Bool.and_eq_true] at h
        exact congrArg (· + 1) (chNs_len h.2)
      | _ => simp [chNs] at h
theorem sS_par2 {X : Cx} {T : Stc} {C : Cts} {k : Nat} (G : Good X T C k) {ts : List Expr} {v : Expr} {is : List Nat} {es : Exs} {kt : Nat} {p pos : Pos} (h1 : par2B T.sc ts v = true) (hc : chE T (.tup es) v = true) (hn : chNs T ts is = true) (hd : is.Nodup) :
    SndS X (.Assign [.Tuple ts kt p] v pos) (run C (.asgT is (.tup es))) := by
  unfold par2B at h1
  split at h1
  · rename_i x px y py a b k2 p2
    have h1' : par2B X.env.scope [.Name x px, .Name y py] (.Tuple [a, b] k2 p2) = true := by rw [G.sc]; exact h1
    have hw := par2_ok (k := kt) (p := p) (by rw [G.sc]; exact G.kind) h1'
    simp only [Bool.and_eq_true] at h1
    match is, hn, hd with
    | [j, l], hn, hd =>
      simp only [chNs, Bool.and_eq_true] at hn
      simp only [chE] at hc
      have hjl : j ≠ l := by simp at hd; exact hd
      exact sndS_par2 G.calm G.ndX (G.slot hn.1.1.1) (G.slot hn.2.1.1.1) hjl (by rw [G.sc]; exact isLoc_eq h1.1.1.1.1.1.1.1) (by rw [G.sc]; exact isLoc_eq h1.1.1.1.1.1.1.2) hw (sA C es G hc)
    | [], hn, _ => simp [chNs] at hn
    | [_], hn, _ => simp [chNs] at hn
    | _ :: _ :: _ :: _, hn, _ => simp [chNs] at hn
  · cases h1
theorem sS_par3 {X : Cx} {T : Stc} {C : Cts} {k : Nat} (G : Good X T C k) {ts : List Expr} {v : Expr} {is : List Nat} {es : Exs} {kt : Nat} {p pos : Pos} (h1 : par3B T.sc ts v = true) (hc : chE T (.tup es) v = true) (hn : chNs T ts is = true) (hd : is.Nodup) :
    SndS X (.Assign [.Tuple ts kt p] v pos) (run C (.asgT is (.tup es))) := by
  unfold par3B at h1
  split at h1
  · rename_i x px y py z pz a b c k2 p2
    have h1' : par3B X.env.scope [.Name x px, .Name y py, .Name z pz] (.Tuple [a, b, c] k2 p2) = true := by rw [G.sc]; exact h1
    have hw := par3_ok (k := kt) (p := p) (by rw [G.sc]; exact G.kind) h1'
    simp only [Bool.and_eq_true] at h1
    match is, hn, hd with
    | [j, l, n], hn, hd =>
      simp only [chNs, Bool.and_eq_true] at hn
      simp only [chE] at hc
      simp at hd
      obtain ⟨⟨d1, d2⟩, d3⟩ := hd
      exact sndS_par3 G.calm G.ndX (G.slot hn.1.1.1) (G.slot hn.2.1.1.1) (G.slot hn.2.2.1.1.1) d1 d2 d3 (by rw [G.sc]; exact isLoc_eq h1.1.1.1.1.1.1.1.1.1.1.1.1) (by rw [G.sc]; exact isLoc_eq h1.1.1.1.1.1.1.1.1.1.1.1.2) (by rw [G.sc]; exact isLoc_eq h1.1.1.1.1.1.1.1.1.1.1.2) hw (sA C es G hc)
    | [], hn, _ => simp [chNs] at hn
    | [_], hn, _ => simp [chNs] at hn
    | [_, _], hn, _ => simp [chNs] at hn
    | _ :: _ :: _ :: _ :: _, hn, _ => simp [chNs] at hn
  · cases h1
theorem comp_sws {v : Expr} {ts : List Expr} {l : Nat} {env : PySem.Env} (h : notComp v = true) : swapsWithSole ts v l env = pure false := by
  unfold swapsWithSole
  split <;> first | exact comp_sw h | rfl
theorem sws_tup {v : Expr} {ts : List Expr} {k : Nat} {p : Pos} {l : Nat} {env : PySem.Env} : swapsWithSole [.Tuple ts k p] v l env = pure false := by cases v <;> rfl
theorem chFl_ok {X : Cx} {x : Str} : ∀ {es : List Expr} {fs : List Str}, chFl x es fs = true → Flts X x es fs
  | [], [], _ => .nil
  | [], _ :: _, h => by simp [chFl] at h
  | e :: es, fs, h => by
    unfold chFl at h
    split at h
    · simp at *
    · rename_i h1
      cases h1
      simp only [Bool.and_eq_true, decide_eq_true_eq] at h
      obtain ⟨⟨rfl, rfl⟩, h⟩ := h
      exact .cons (chFl_ok h)
    · cases h
mutual
theorem sS (C : Cts) : ∀ (c : Sm) {X : Cx} {T : Stc} {k : Nat} {s : Stmt}, Good X T C k → chS T c s = true → SndS X s (run C c)
  | .asg i c, X, T, k, s, G, h => by
    simp only [chS] at h
    split at h
    · rename_i x px v spos
      simp only [Bool.and_eq_true] at h
      obtain ⟨⟨⟨⟨h1, h2⟩, h3⟩, h4⟩, h5⟩ := h
      cases hnc : notComp v with
      | true => exact sndS_asg G.ndX (G.slot h1) (G.loc h2) (G.st h3) (comp_sw hnc) (sE C c G h4).1
      | false =>
        rw [hnc, Bool.false_or] at h5
        cases c with
        | lc own src tg c el =>
          have hE := (sE C (.lc own src tg c el) G h4).1
          simp only [chE] at h4
          split at h4
          · rename_i elt t iter ifs scope pos
            have sw := swB_ok (x := x) (px := px) (pos := pos) (spos := spos) (elt := elt) (gs := [⟨t, iter, ifs, 0⟩]) (scope := scope) (l := spos.line) (env := X.env) (by rw [G.sc]; exact G.kind)
            cases hsw : swB X.env.scope x px (.ListComp elt [⟨t, iter, ifs, 0⟩] scope pos) with
            | false =>
              rw [hsw] at sw
              exact sndS_asg G.ndX (G.slot h1) (G.loc h2) (G.st h3) sw hE
            | true =>
              rw [hsw] at sw
              simp only [Bool.and_eq_true, decide_eq_true_eq] at h4
              obtain ⟨⟨⟨⟨⟨⟨⟨g1, g2⟩, g3⟩, g4⟩, g5⟩, g6⟩, g7⟩, g8⟩ := h4
              have GB := G.blk scope (blk_kind g1)
              have hc : ifs = ifs.head?.toList := by
                match ifs, g6 with
                | [], _ => rfl
                | [_], _ => rfl
              have hyl : X.env.scope.names.lookup x = some .local := by
                simp only [swB, Bool.and_eq_true] at hsw
                exact beq_iff_eq.mp hsw.1.1
              rw [hc] at sw ⊢
              refine sndS_setLc (t := tg) (own := own) (ownp := ownP T own) G.calm G.ndX (G.slot h1) hyl sw ?_ (own_map T own) (set_fold g2) (sI C src G g3) (fun s H C0 cl fp => ch_tg (GB s H C0 cl fp) g4) (sTo C c GB g5) (fun s H C0 cl fp => (sE C el (GB s H C0 cl fp) g7).1) ?_
              · rw [G.N, G.sc]; exact blkOk_by g1
              · intro i hi
                have := List.all_eq_true.mp g8 i hi
                simpa using this
          · cases h4
        | _ => cases h5
    · cases h
  | .asgT is c, X, T, k, s, G, h => by
    simp only [chS] at h
    split at h
    · rename_i ts kt p v pos
      simp only [Bool.and_eq_true, Bool.or_eq_true, decide_eq_true_eq] at h
      obtain ⟨⟨h2, h3⟩, h4⟩ := h
      rcases h4 with h4 | ⟨⟨h4, h5⟩, h6⟩
      · refine sndS_tgt sws_tup (swN_ok (by rw [G.sc]; exact h4)) rfl (sE C c G h2).1 (sndG_tup G.calm G.ndX (ch_nms G h3))
      · cases c with
        | tup es =>
          rcases h4 with h4 | h4
          · exact sS_par2 G h4 h2 h3 h6
          · exact sS_par3 G h4 h2 h3 h6
        | _ => cases h5
    · cases h
  | .setIx o i c, X, T, k, s, G, h => by
    simp only [chS] at h
    split at h
    · simp only [Bool.and_eq_true] at h
      obtain ⟨⟨⟨h2, h3⟩, h4⟩, h5⟩ := h
      exact sndS_set G.u1 sw_sub (sE C c G h3).1 (sE C o G h4).1 (sE C i G h5).1
    · cases h
  | .aug i op c, X, T, k, s, G, h => by
    simp only [chS] at h
    split at h
    · simp only [Bool.and_eq_true, decide_eq_true_eq] at h
      obtain ⟨⟨⟨⟨h1, h2⟩, h3⟩, h4⟩, h5⟩ := h
      subst h4
      exact sndS_aug G.ndX (G.slot h1) (G.loc h2) (G.st h3) (sE C c G h5).1
    · cases h
  | .expr c, X, T, k, s, G, h => by
    simp only [chS] at h
    split at h
    · simp only [Bool.and_eq_true] at h
      exact sndS_expr (comp_sw h.1) (sE C c G h.2).1
    · cases h
  | .ret c, X, T, k, s, G, h => by
    simp only [chS] at h
    split at h
    · exact sndS_ret (sE C c G h).1
    · cases h
  | .retN, X, T, k, s, G, h => by
    simp only [chS] at h
    split at h
    · exact sndS_retN
    · cases h
  | .ite c a b, X, T, k, s, G, h => by
    simp only [chS] at h
    split at h
    · simp only [Bool.and_eq_true] at h
      exact sndS_ite (sE C c G h.1.1).2.1 (sSs C a G h.1.2) (sSs C b G h.2)
    · cases h
  | .forS src tg body, X, T, k, s, G, h => by
    simp only [chS] at h
    split at h
    · simp only [Bool.and_eq_true] at h
      exact sndS_for G.pas G.calm (set_fold h.1.1.1) (sI C src G h.1.1.2) (ch_tg G h.1.2) (sSs C body G h.2)
    · cases h
  | .pass, X, T, k, s, G, h => by
    simp only [chS] at h
    split at h
    · exact sndS_pass
    · cases h
  | .brk, X, T, k, s, G, h => by
    simp only [chS] at h
    split at h
    · exact sndS_brk
    · cases h
  | .cont, X, T, k, s, G, h => by
    simp only [chS] at h
    split at h
    · exact sndS_cont
    · cases h
  | .never, X, T, k, s, G, h => sndS_never
  | .setFld o f c, X, T, k, s, G, h => by
    simp only [chS] at h
    split at h
    · simp only [Bool.and_eq_true, decide_eq_true_eq] at h
      obtain ⟨⟨h1, h2⟩, h3⟩ := h
      subst h1
      exact sndS_setFld (G.fls _) sw_att (sE C c G h2).1 (sE C o G h3).1
    · cases h
  | .augFld o f op c, X, T, k, s, G, h => by
    simp only [chS] at h
    split at h
    · simp only [Bool.and_eq_true, decide_eq_true_eq] at h
      obtain ⟨⟨⟨h1, h2⟩, h3⟩, h4⟩ := h
      subst h1 h2
      exact sndS_augFld (G.fls _) (sE C c G h3).1 (sE C o G h4).1
    · cases h
  | .asgF i fs c, X, T, k, s, G, h => by
    simp only [chS] at h
    split at h
    · split at h
      · simp only [Bool.and_eq_true] at h
        obtain ⟨⟨⟨⟨⟨h1, h2⟩, h3⟩, h4⟩, h5⟩, h6⟩ := h
        exact sndS_asgF G.calm G.fls (G.slot h1) (by rw [G.sc]; exact visB_eq h2) (okNm_eq h3).1 (okNm_eq h3).2 (chFl_ok h4) sws_tup (swN_ok (by rw [G.sc]; exact h6)) (sE C c G h5).1
      · cases h
    · cases h
  | .whil n c b, X, T, k, s, G, h => by
    simp only [chS] at h
    split at h
    · simp only [Bool.and_eq_true] at h
      exact sndS_while G.pas (sE C c G h.1).2.1 (sSs C b G h.2)
    · cases h
theorem sSs (C : Cts) : ∀ (c : Sms) {X : Cx} {T : Stc} {k : Nat} {s : List Stmt}, Good X T C k → chSs T c s = true → SndSs X s (runs C c)
  | .nil, X, T, k, s, G, h => by
    simp only [chSs] at h
    split at h
    · exact sndSs_nil
    · cases h
  | .cons c cs, X, T, k, s, G, h => by
    simp only [chSs] at h
    split at h
    · simp only [Bool.and_eq_true] at h
      exact sndSs_cons (sS C c G h.1) (sSs C cs G h.2)
    · cases h
end
end W9

/-! W9s: defs by their core text, tables of defs -/
namespace W9
open PySem PySem.Spec PyProof.Rows L2
theorem envR_start {K : PySem.W.Frag} {ρ : List Addr} {H : Hp} {ds : List D} {vs : List V} (N : List Str) (r : Reps K ρ H ds vs) : EnvR K ρ H (ds.map some ++ List.replicate (N.length - ds.length) none) (L2.start N vs) := by
  refine ⟨by unfold L2.start; simp [r.length], fun i d h => ?_⟩
  unfold L2.start
  by_cases hi : i < ds.length
  · rw [List.getElem?_append_left (by simpa using hi), List.getElem?_map] at h
    cases e : ds[i]? with
    | none => rw [e] at h; cases h
    | some d' =>
      rw [e] at h
      have h' : some (some d') = some (some d) := h
      cases h'
      obtain ⟨v, h1, h2⟩ := r.get e
      refine ⟨v, ?_, h2⟩
      rw [List.getElem?_append_left (by rw [List.length_map, ← r.length]; exact hi), List.getElem?_map, h1]
      rfl
  · rw [List.getElem?_append_right (by simpa using hi), List.getElem?_replicate] at h
    split at h <;> cases h
/-- a way of calling a def: its tag, the keywords' names, how many values, how they stand as parameters -/
structure En where
  tag : Str
  ks : List Str
  n : Nat
  gD : List D → List D
/-- a def: its name, its statement, its slots, its parameters, its core, the ways of calling it -/
structure Df where
  name : Str
  st : Stmt
  N : List Str
  ps : List Str
  body : Sms
  ents : List En
  cls : Option Str := none
/-- its name with its class -/
def Df.qual (d : Df) : Str := match d.cls with | none => d.name | some c => c ++ "." ++ d.name
def EnOk (K : PySem.W.Frag) (fd : FuncData) (ps : List Str) (e : En) : Prop := ∀ (P : Program) (w : World) (mg : Str → Option Value) (base : Heap) (k : Nat) (f : Addr) (g : List D → M D),
  FnG P w K mg base CX0 k f fd ps (spF K ps.length g) → CallF P w K mg base k f e.ks (spF K e.n fun xs => g (e.gD xs))
def EnsOk (K : PySem.W.Frag) (fd : FuncData) (ps : List Str) : List En → Prop
  | [] => True
  | e :: es => EnOk K fd ps e ∧ EnsOk K fd ps es
theorem EnsOk.mem {K : PySem.W.Frag} {fd : FuncData} {ps : List Str} : ∀ {es : List En}, EnsOk K fd ps es → ∀ e ∈ es, EnOk K fd ps e
  | _ :: _, ⟨h1, h2⟩, e, he => by
    rcases List.mem_cons.mp he with z | z
    · rw [z]; exact h1
    · exact EnsOk.mem h2 e z
/-- the defaults dd behind the values -/
theorem enOk_dflt {K : PySem.W.Frag} {fd : FuncData} {ps : List Str} {tag : Str} {n : Nat} {dd : List D} {dv : List V} {du : List Value} (hn : n + dd.length = ps.length) (hb : Binds K fd ps du) (hd : Vals dv du) (hr : ∀ ρ H, Reps K ρ H dd dv) : EnOk K fd ps ⟨tag, [], n, fun xs => xs ++ dd⟩ := by
  intro P w mg base k f g F
  rw [← hn] at F
  exact callF_of F hb hd hr
theorem enOk_plain {K : PySem.W.Frag} {fd : FuncData} {ps : List Str} {tag : Str} (h : ∀ us : List Value, us.length = ps.length → bindArgs fd ⟨us, []⟩ = pure (ps.zip us)) : EnOk K fd ps ⟨tag, [], ps.length, fun xs => xs⟩ := by
  intro P w mg base k f g F
  have := callF_of (n := ps.length) (dds := []) (dvs := []) (dus := []) F (Binds.all h) .nil (fun _ _ => .nil)
  simpa only [List.append_nil] using this
/-- some values by the names of the last parameters -/
theorem enOk_kw {K : PySem.W.Frag} {fd : FuncData} {ps ks : List Str} {tag : Str} {n0 : Nat} (hn : n0 + ks.length = ps.length) (hb : ∀ (us ws : List Value), us.length = n0 → ws.length = ks.length → bindArgs fd ⟨us, ks.zip ws⟩ = pure (ps.zip (us ++ ws))) : EnOk K fd ps ⟨tag, ks, ps.length, fun xs => xs⟩ := by
  intro P w mg base k f g F
  exact callF_kw (n0 := n0) (gv := fun us ws => us ++ ws) (gV := fun vs zs => vs ++ zs) (gD := fun xs => xs) F ⟨fun s us ws _ h1 h2 => .of_eq (hb us ws h1 h2), fun r1 r2 => r1.append r2⟩ hn.symm fun ρ H xs vs zs h1 h2 r => ⟨r, h1⟩
theorem getD_vals : ∀ {vs : List V} {us : List Value} (i : Nat), Vals vs us → RelV (vs.getD i .non) (us.getD i .none)
  | _, _, _, .nil => rfl
  | _, _, 0, .cons r _ => r
  | _, _, i + 1, .cons _ t => getD_vals i t
theorem getD_reps {K : PySem.W.Frag} {ρ : List Addr} {H : Hp} : ∀ {ds : List D} {vs : List V} (i : Nat), Reps K ρ H ds vs → Rep K ρ H (ds.getD i .non) (vs.getD i .non)
  | _, _, _, .nil => .non
  | _, _, 0, .cons r _ => r
  | _, _, i + 1, .cons _ t => getD_reps i t
theorem map_vals {vs : List V} {us : List Value} (h : Vals vs us) : ∀ idx : List Nat, Vals (idx.map fun i => vs.getD i .non) (idx.map fun i => us.getD i .none)
  | [] => .nil
  | i :: idx => .cons (getD_vals i h) (map_vals h idx)
theorem map_reps {K : PySem.W.Frag} {ρ : List Addr} {H : Hp} {ds : List D} {vs : List V} (h : Reps K ρ H ds vs) : ∀ idx : List Nat, Reps K ρ H (idx.map fun i => ds.getD i .non) (idx.map fun i => vs.getD i .non)
  | [] => .nil
  | i :: idx => .cons (getD_reps i h) (map_reps h idx)
/-- values by names, in any order -/
theorem enOk_kwp {K : PySem.W.Frag} {fd : FuncData} {ps ks : List Str} {tag : Str} {n0 : Nat} {idx : List Nat} (hn : n0 + ks.length = ps.length) (hi : idx.length = ps.length)
    (hb : ∀ (us ws : List Value), us.length = n0 → ws.length = ks.length → bindArgs fd ⟨us, ks.zip ws⟩ = pure (ps.zip (idx.map fun i => (us ++ ws).getD i .none))) : EnOk K fd ps ⟨tag, ks, ps.length, fun xs => idx.map fun i => xs.getD i .non⟩ := by
  intro P w mg base k f g F
  exact callF_kw (n0 := n0) (gv := fun us ws => idx.map fun i => (us ++ ws).getD i .none) (gV := fun vs zs => idx.map fun i => (vs ++ zs).getD i .non) (gD := fun xs => idx.map fun i => xs.getD i .non) F ⟨fun s us ws _ h1 h2 => .of_eq (hb us ws h1 h2), fun r1 r2 => map_vals (r1.append r2) idx⟩ hn.symm
    fun ρ H xs vs zs h1 h2 r => ⟨map_reps r idx, by rw [List.length_map]; exact hi⟩
def KwIn (K : PySem.W.Frag) (D : Addr) : List (Str × Value) → Prop
  | [] => True
  | q :: l => PySem.W.nsIn K D q.1 = some (some q.2) ∧ KwIn K D l
theorem KwIn.all {K : PySem.W.Frag} {D : Addr} : ∀ {l : List (Str × Value)}, KwIn K D l → ∀ q ∈ l, PySem.W.nsIn K D q.1 = some (some q.2)
  | _ :: _, ⟨h1, h2⟩, q, hq => by
    rcases List.mem_cons.mp hq with e | e
    · rw [e]; exact h1
    · exact KwIn.all h2 q e
/-- keyword-only parameters that are left out -/
theorem enOk_kwd0 {K : PySem.W.Frag} {fd : FuncData} {ps : List Str} {tag : Str} {n : Nat} {D : Addr} {kws : List (Str × Value)} {dd : List W9.D} {dv : List V} (hn : n + dd.length = ps.length) (hks : KwIn K D kws) (hv : Vals dv (kws.map (·.2))) (hr : ∀ ρ H, Reps K ρ H dd dv)
    (hc : ∀ us : List Value, us.length = n → KwChain D kws (bindArgs fd ⟨us, []⟩) (ps.zip (us ++ kws.map (·.2)))) : EnOk K fd ps ⟨tag, [], n, fun xs => xs ++ dd⟩ := by
  refine enOk_dflt hn (fun s us X hl => BindsTo.of_looks fun M => KwChain.looks X hks.all (hc us ?_)) hv hr
  have h1 := hv.length
  have h2 := (hr [] (fun _ => none)).length
  rw [List.length_append] at hl
  omega
def fsB (N ps : List Str) (sc : Scope) : Bool := decide (sc.kind = .function) && !sc.isCoroutine && !sc.isGenerator && decide N.Nodup && decide (N.take ps.length = ps) && ps.all (fun x => locB sc x) && sc.names.all (fun y => !(y.2 == .free))
theorem fsB_ok {N ps : List Str} {sc : Scope} (h : fsB N ps sc = true) : FnScope N ps sc := by
  unfold fsB at h
  simp only [Bool.and_eq_true, decide_eq_true_eq, Bool.not_eq_true', List.all_eq_true] at h
  obtain ⟨⟨⟨⟨⟨⟨h1, h2⟩, h3⟩, h4⟩, h5⟩, h6⟩, h7⟩ := h
  refine ⟨h1, h2, h3, h4, h5, fun x hx => locB_eq (h6 x hx), fun y hy e => ?_⟩
  have := h7 y hy
  rw [e] at this
  exact absurd this (by decide)
/-- where it stands: a name of the module, a method of a class -/
def StandsAt (K : PySem.W.Frag) (name : Str) (f : Addr) : Option Str → Prop
  | none => PySem.W.nsIn K mainGlobals name = some (some (.ref f)) ∧ PySem.W.keepIn K (.ref f) = true
  | some c => ∃ C, ClsN K c C ∧ Meth K C name f
/-- it stands behind the top -/
structure DefIn (K : PySem.W.Frag) (d : Df) : Prop where
  ex : ∃ (f : Addr) (oc : Value) (od an : Option Addr) (osl : Array (Option Value)) (dV kV doc pm cdv ct : Value), StandsAt K d.name f d.cls ∧
    K.lookup f = some ⟨oc, od, .func (PySem.W.fnOf d.name d.qual (defArgs d.st) (defBody d.st) (defScope d.st) dV kV doc pm an cdv ct), osl⟩ ∧ PySem.W.codeIn K cdv d.qual = true ∧
    EnsOk K (PySem.W.fnOf d.name d.qual (defArgs d.st) (defBody d.st) (defScope d.st) dV kV doc pm an cdv ct) d.ps d.ents
theorem defIn_mk {K : PySem.W.Frag} {d : Df} {f : Addr} {oc : Value} {od an : Option Addr} {osl : Array (Option Value)} {dV kV doc pm cdv ct : Value} (hc : d.cls = none) (a : PySem.W.nsIn K mainGlobals d.name = some (some (.ref f)))
    (l : K.lookup f = some ⟨oc, od, .func (PySem.W.fnOf d.name d.qual (defArgs d.st) (defBody d.st) (defScope d.st) dV kV doc pm an cdv ct), osl⟩) (c : PySem.W.codeIn K cdv d.qual = true) (k : PySem.W.keepIn K (.ref f) = true)
    (e : EnsOk K (PySem.W.fnOf d.name d.qual (defArgs d.st) (defBody d.st) (defScope d.st) dV kV doc pm an cdv ct) d.ps d.ents) : DefIn K d :=
  ⟨f, oc, od, an, osl, dV, kV, doc, pm, cdv, ct, by rw [hc]; exact ⟨a, k⟩, l, c, e⟩
theorem defIn_mt {K : PySem.W.Frag} {d : Df} {c : Str} {C f : Addr} {oc : Value} {od an : Option Addr} {osl : Array (Option Value)} {dV kV doc pm cdv ct : Value} (hc : d.cls = some c) (cn : ClsN K c C) (at_ : PySem.W.findIn K (.ref C) d.name = some (some (.ref f)))
    (l : K.lookup f = some ⟨oc, od, .func (PySem.W.fnOf d.name d.qual (defArgs d.st) (defBody d.st) (defScope d.st) dV kV doc pm an cdv ct), osl⟩) (cd : PySem.W.codeIn K cdv d.qual = true) (fn : PySem.W.isFn K (.ref f) = true) (k : PySem.W.keepIn K (.ref f) = true)
    (e : EnsOk K (PySem.W.fnOf d.name d.qual (defArgs d.st) (defBody d.st) (defScope d.st) dV kV doc pm an cdv ct) d.ps d.ents) : DefIn K d :=
  ⟨f, oc, od, an, osl, dV, kV, doc, pm, cdv, ct, by rw [hc]; exact ⟨C, cn, at_, fn, k⟩, l, cd, e⟩
/-- how its arguments bind, all by place -/
def Df.bnd (d : Df) : Prop := ∀ (kV doc pm : Value) (an : Option Addr) (cdv ct : Value) (us : List Value), us.length = d.ps.length → bindArgs (PySem.W.fnOf d.name d.qual (defArgs d.st) (defBody d.st) (defScope d.st) .none kV doc pm an cdv ct) ⟨us, []⟩ = pure (d.ps.zip us)
/-- a def without defaults, called by place -/
theorem defIn_plain {K : PySem.W.Frag} {d : Df} {tag : Str} {f : Addr} {oc : Value} {od an : Option Addr} {osl : Array (Option Value)} {kV doc pm cdv ct : Value} (hb : d.bnd) (hc : d.cls = none) (he : d.ents = [⟨tag, [], d.ps.length, fun xs => xs⟩]) (a : PySem.W.nsIn K mainGlobals d.name = some (some (.ref f)))
    (l : K.lookup f = some ⟨oc, od, .func (PySem.W.fnOf d.name d.qual (defArgs d.st) (defBody d.st) (defScope d.st) .none kV doc pm an cdv ct), osl⟩) (c : PySem.W.codeIn K cdv d.qual = true) (k : PySem.W.keepIn K (.ref f) = true) : DefIn K d :=
  defIn_mk hc a l c k (by rw [he]; exact ⟨enOk_plain (hb kV doc pm an cdv ct), trivial⟩)
theorem defIn_mplain {K : PySem.W.Frag} {d : Df} {tag c : Str} {C f : Addr} {oc : Value} {od an : Option Addr} {osl : Array (Option Value)} {kV doc pm cdv ct : Value} (hb : d.bnd) (hc : d.cls = some c) (he : d.ents = [⟨tag, [], d.ps.length, fun xs => xs⟩]) (cn : ClsN K c C) (at_ : PySem.W.findIn K (.ref C) d.name = some (some (.ref f)))
    (l : K.lookup f = some ⟨oc, od, .func (PySem.W.fnOf d.name d.qual (defArgs d.st) (defBody d.st) (defScope d.st) .none kV doc pm an cdv ct), osl⟩) (cd : PySem.W.codeIn K cdv d.qual = true) (fn : PySem.W.isFn K (.ref f) = true) (k : PySem.W.keepIn K (.ref f) = true) : DefIn K d :=
  defIn_mt hc cn at_ l cd fn k (by rw [he]; exact ⟨enOk_plain (hb kV doc pm an cdv ct), trivial⟩)
abbrev Tab := List (Str × Frm × (List D → M D))
def Tab.fn (t : Tab) (x : Str) : List D → M D := match t.lookup x with | some p => p.2 | none => fun _ _ => .no
/-- a method by its tag and its form -/
def Tab.mt (t : Tab) (x : Str) (fr : Frm) : List D → M D := match t.lookup x with | some p => (if p.1 = fr then p.2 else fun _ _ => .no) | none => fun _ _ => .no
/-- what the module's names tell: its constants, the attributes that no class has -/
structure Mod where
  gl : Str → Option D
  fl : Str → Str → Bool
def Tab.cts (t : Tab) (m : Mod) : Cts := ⟨t.fn, m.gl, t.mt, m.fl⟩
def Tab.sig (t : Tab) : List (Str × Frm) := t.map fun p => (p.1, p.2.1)
/-- a def's rows in the table -/
def Df.rows (d : Df) (m : List D → M D) : Tab := d.ents.map fun e => (e.tag, ⟨d.name, e.ks, e.n, d.cls⟩, fun xs => m (e.gD xs))
def Df.sig (d : Df) : List (Str × Frm) := d.ents.map fun e => (e.tag, ⟨d.name, e.ks, e.n, d.cls⟩)
section
variable {P : Program} {w : World} {K : PySem.W.Frag} {mg : Str → Option Value} {base : Heap}
/-- a table's promises -/
def TabOk (P : Program) (w : World) (K : PySem.W.Frag) (mg : Str → Option Value) (base : Heap) (k : Nat) (t : Tab) : Prop := (t.map (·.1)).Nodup ∧ ∀ p ∈ t, Callee P w K mg base k p.2.1 p.2.2
def FlsOk (K : PySem.W.Frag) (fl : Str → Str → Bool) : Prop := ∀ f c C, fl c f = true → ClsN K c C → NoAttr K C f
def ClsOk (K : PySem.W.Frag) (mg : Str → Option Value) (cs : List Str) : Prop := ∀ c ∈ cs, ClsM K mg c
def GlsOk (K : PySem.W.Frag) (mg : Str → Option Value) (gs : List Str) (gl : Str → Option D) : Prop := ∀ x ∈ gs, ∃ d u v, gl x = some d ∧ mg x = some u ∧ RelV v u ∧ ∀ ρ H, Rep K ρ H d v
theorem Callee.up {m : Frm} {j k : Nat} {g : List D → M D} (c : Callee P w K mg base j m g) (h : j ≤ k) : Callee P w K mg base k m g := by
  obtain ⟨f, F, h2⟩ := c.ex
  exact ⟨f, fun A outer s H us ws vs zs Q room => F A outer s H us ws vs zs Q (room.mono h), h2⟩
theorem lookup_mem {α : Type} {x : Str} {v : α} : ∀ {t : List (Str × α)}, (t.map (·.1)).Nodup → (x, v) ∈ t → t.lookup x = some v
  | (y, u) :: t, nd, h => by
    simp only [List.map_cons, List.nodup_cons] at nd
    rcases List.mem_cons.mp h with e | e
    · cases e; simp [List.lookup]
    · have hne : ¬ x = y := by
        rintro rfl
        exact nd.1 (List.mem_map.mpr ⟨_, e, rfl⟩)
      have : (x == y) = false := by simpa using hne
      rw [List.lookup_cons, this]
      exact lookup_mem nd.2 e
theorem tab_fns {k : Nat} {t : Tab} (h : TabOk P w K mg base k t) : ∀ p ∈ t.sig, Callee P w K mg base k p.2 (t.fn p.1) := by
  intro p hp
  obtain ⟨⟨x, n, g⟩, hq, rfl⟩ := List.mem_map.mp hp
  have := h.2 _ hq
  show Callee P w K mg base k n (t.fn x)
  have e : t.fn x = g := by
    unfold Tab.fn
    rw [lookup_mem h.1 hq]
  rw [e]
  exact this
theorem tab_mts {k : Nat} {t : Tab} (h : TabOk P w K mg base k t) : ∀ tg fr, (∀ xs st, t.mt tg fr xs st = .no) ∨ Callee P w K mg base k fr (t.mt tg fr) := by
  intro tg fr
  unfold Tab.mt
  cases e : t.lookup tg with
  | none => exact .inl fun _ _ => rfl
  | some p =>
    by_cases hp : p.1 = fr
    · refine .inr ?_
      simp only [if_pos hp]
      have hm : (tg, p) ∈ t := by
        clear h
        induction t with
        | nil => cases e
        | cons q t ih =>
          rw [List.lookup_cons] at e
          cases hq : (tg == q.1) with
          | true =>
            rw [hq] at e
            cases e
            have : tg = q.1 := by simpa using hq
            rw [this]
            exact List.mem_cons_self
          | false => rw [hq] at e; exact List.mem_cons_of_mem _ (ih e)
      have c := h.2 _ hm
      rw [hp] at c
      exact c
    · exact .inl fun _ _ => by simp only [if_neg hp]
/-- the checker's table for a def -/
abbrev stcOf (d : Df) (bs : List Str) (fs : List (Str × Frm)) (gs cs : List Str) : Stc := ⟨d.N, defScope d.st, fun _ => true, bs, fs, gs, cs⟩
/-- THE RULE for a def -/
theorem callee_of {d : Df} {k : Nat} {t : Tab} {bs gs cs : List Str} {m : Mod} (T : TabOk P w K mg base k t) (hbs : ∀ x ∈ bs, mg x = none) (hgs : GlsOk K mg gs m.gl) (hfl : FlsOk K m.fl) (hcs : ClsOk K mg cs) (hd : DefIn K d) (hmg : ∀ x f, PySem.W.nsIn K mainGlobals x = some (some (.ref f)) → mg x = some (.ref f))
    (hf : fsB d.N d.ps (defScope d.st) = true) (hc : chSs (stcOf d bs t.sig gs cs) d.body (defBody d.st) = true) :
    ∀ p ∈ d.rows (callDef (t.cts m) d.N.length d.body), Callee P w K mg base (k + 2) p.2.1 p.2.2 := by
  obtain ⟨f, oc, od, an, osl, dV, kV, doc, pm, cdv, ct, a1, l1, c1, en⟩ := hd.ex
  have S := fsB_ok hf
  have F : FnG P w K mg base CX0 (k + 2) f (PySem.W.fnOf d.name d.qual (defArgs d.st) (defBody d.st) (defScope d.st) dV kV doc pm an cdv ct) d.ps (spF K d.ps.length (callDef (t.cts m) d.N.length d.body)) := by
    refine fnG_of (k := k + 1) l1 c1 S ?_ ?_
    · rintro vs H Q E ⟨ρ, st, ds, r, st', hl, _, hr, _⟩
      rw [← hr.length]; exact hl
    · rintro A outer s H vs Q E room gd ⟨ρ, st, ds, r, st', hl, Sm, hr, e, p⟩
      have G : Good (cxOf CX0 P w K mg base d.N d.qual (defScope d.st) f cdv A outer s H E).nox (stcOf d bs t.sig gs cs) (t.cts m) k :=
        ⟨rfl, S.nd, rfl, S.kind, fun _ _ => rfl, rfl, gd, room, hbs, tab_fns T, hgs, PassesOwn.never, tab_mts T, hfl, hcs⟩
      have snd := sSs (t.cts m) d.body G hc
      unfold callDef at e
      obtain ⟨fl, st1, e1, e2⟩ := bind_ok e
      refine wss_of (PSs.nox pss_ws) (snd ρ st _ (L2.start d.N vs) H fl st1 Sm (envR_start d.N hr) e1 _ ?_)
      cases fl with
      | nx env => cases e2; exact fun ρ' H' σ' g' S' R' => p ρ' H' .non g' S' .non
      | ret v => cases e2; exact fun ρ' H' v' g' S' r' => p ρ' H' v' g' S' r'
      | bk env => cases e2
      | ct env => cases e2
  intro p hp
  obtain ⟨e, he, rfl⟩ := List.mem_map.mp hp
  refine ⟨f, en.mem e he P w mg base (k + 2) f _ F, ?_⟩
  show FoundAt K mg d.name f d.cls
  cases hk : d.cls with
  | none => rw [hk] at a1; exact ⟨hmg _ f a1.1, a1.2⟩
  | some c => rw [hk] at a1; exact a1
theorem tab_step {d : Df} {k : Nat} {t : Tab} {bs gs cs : List Str} {m : Mod} (T : TabOk P w K mg base k t) (hbs : ∀ x ∈ bs, mg x = none) (hgs : GlsOk K mg gs m.gl) (hfl : FlsOk K m.fl) (hcs : ClsOk K mg cs) (hd : DefIn K d) (hmg : ∀ x f, PySem.W.nsIn K mainGlobals x = some (some (.ref f)) → mg x = some (.ref f))
    (hf : fsB d.N d.ps (defScope d.st) = true) (hc : chSs (stcOf d bs t.sig gs cs) d.body (defBody d.st) = true) (hn : ((d.sig ++ t.sig).map (·.1)).Nodup) : TabOk P w K mg base (k + 2) (d.rows (callDef (t.cts m) d.N.length d.body) ++ t) := by
  have c := callee_of T hbs hgs hfl hcs hd hmg hf hc
  refine ⟨?_, fun p hp => ?_⟩
  · have : (d.rows (callDef (t.cts m) d.N.length d.body) ++ t).map (·.1) = (d.sig ++ t.sig).map (·.1) := by
      simp only [List.map_append, Df.rows, Df.sig, Tab.sig, List.map_map]
      rfl
    rw [this]; exact hn
  · rcases List.mem_append.mp hp with e | e
    · exact c p e
    · exact (T.2 p e).up (Nat.le_add_right k 2)
end
end W9

/-! W9u: the law's own end -/
namespace W9
open PySem PySem.Spec PyProof.Rows L2
/-- one call of law from a heap where nothing but the script (at a) may be tracked -/
theorem end_core {P : Program} {w : World} {K : PySem.W.Frag} {mg bm : Str → Option Value} {k : Nat} {fl a : Addr} {x : Str} {s1 : Shared} {us : List Value} {ns : List Int} {g : List D → M D} {H : Hp} {sr : Store}
    (kin : K.In s1.heap) (gns : s1.heap.Ns mainGlobals mg) (bns : s1.heap.Ns builtinsNs bm) (boot : ∀ z : Str, z ≠ "__name__" → bm z = bootBuiltins z) (nol : s1.heap.NoLimit) (nog : s1.gens = #[])
    (at_a : s1.heap.get? a = some { cls := .type "list", data := .seq us.toArray }) (room : Room k callerA) (hx : mg x = some (.ref fl))
    (cal : ∀ B : Heap, K.In B → B.Ns mainGlobals mg → Callee P w K mg B k ⟨x, [], 1, none⟩ g) (res : g [.fls (ns.map D.int)] [] = .ok (.bl true) sr)
    (only : Only H) (sq : SqF K H a (ns.map V.int)) (hh : HOk P w H s1.heap) (hA : ∀ b, H b ≠ none → b = a) (hK : H a ≠ none → K.lookup a = none) :
    codeAny (model P w) callerA (.call (.ref fl) ⟨[.ref a], []⟩) (fun r s' => r = .ok (.ret (.bool true)) ∧ OldK s1.heap s'.heap ∧ s'.os = s1.os ∧ AllBare s'.gens) s1 := by
  have isA : ∀ {b : Addr} {u : HO}, H b = some u → b = a := fun {b u} z => hA b (by rw [z]; simp)
  have plain : ∀ {b : Addr} {o : Obj} {es : Array DictEntry} {ep : Nat}, s1.heap.get? b = some o → o.data = .dict es ep → H b = none := by
    intro b o es ep z zd
    cases hb : H b with
    | none => rfl
    | some u =>
      cases isA hb
      rw [at_a] at z
      cases z
      have : Data.seq us.toArray _ = Data.dict es ep := zd
      cases this
  have nsH : ∀ {b : Addr} {m : Str → Option Value}, s1.heap.Ns b m → (hidT s1.heap H).Ns b m := by
    rintro b m ⟨o, es, ep, z, zd, zr⟩
    exact ⟨o, es, ep, hidT_get z (plain z zd), zd, zr⟩
  have kinH : K.In (hidT s1.heap H) := by
    intro b o z
    refine hidT_get (kin b o z) ?_
    cases hb : H b with
    | none => rfl
    | some u =>
      cases isA hb
      rw [hK (by rw [hb]; simp)] at z
      cases z
  obtain ⟨mc, lim1, lim2⟩ := nol
  have e0 : Env0 P w K mg (hidT s1.heap H) callerA [] s1 H :=
    ⟨rfl, ⟨kinH, nsH gns, ⟨bm, nsH bns, boot⟩, ⟨mc, nsH lim1, lim2⟩⟩, fun b o z => of_hidT z, Nat.le_of_eq (hidT_size _ _), trivial, fun b z => (nomatch z), hh, .of_eq nog⟩
  obtain ⟨f, F, m2, kp⟩ := (cal _ kinH (nsH gns)).ex
  rw [hx] at m2
  cases m2
  have sp1 : spF K 1 g [.ref a] H (fun v _ => v = .bl true) E0 := by
    refine ⟨[], [], [.fls (ns.map D.int)], .bl true, sr, rfl, ⟨rfl, List.nodup_nil, fun i o b z => by simp at z⟩, .cons (.fls sq (reps_ints ns)) .nil, res, fun ρ' H' v _ _ r => ?_⟩
    cases r
    rfl
  refine codeAny_mono (F callerA [] s1 H [.ref a] [] [.ref a] [] _ room rfl e0 (.cons rfl .nil) .nil rfl sp1) fun r s' z => ?_
  match r, z with
  | .ok (.ret u), ⟨v, H', os, bare, un, ok', rv, (q : v = .bl true)⟩ =>
    subst q
    obtain rfl : u = Value.bool true := rv
    refine ⟨rfl, OldK.of_keep fun b o zb => ?_, os, bare⟩
    rcases only b with h0 | ⟨ob, xs, h0⟩
    · exact un.keep b o zb h0 (fun y => (nomatch y)) (by simp)
    · obtain ⟨p1, _⟩ := hh b _ h0
      obtain ⟨p2, _⟩ := ok' b _ (un.frzs b ob _ h0)
      rw [zb] at p1
      cases p1
      exact p2
/-- THE END -/
theorem walkG {l : PySem.W.OpenLaw} {n k : Nat} {q : Program} {loose : List Str} {XP : (Str → Option Value) → Heap → Prop} {YP : World → Heap → Prop} {d : DefRec} {KP : Params → PySem.W.Frag} (hn : l.most = some n) (small : n ≤ sizeLine) (hdf : d.params.defaults = []) (room : Room k callerA)
    (hY : ∀ (w : World) (h : Heap), YP w h → (KP w.params).In h)
    (F : ∀ (w : World) (mg : Str → Option Value) (h : Heap), (KP w.params).In h → h.Ns mainGlobals mg → ∃ g, (∀ B : Heap, (KP w.params).In B → B.Ns mainGlobals mg → Callee l.prog w (KP w.params) mg B k ⟨d.name, [], 1, none⟩ g) ∧
      ∀ ns : List Int, ns.length ≤ n → (∀ z ∈ ns, Builtin.Int.intBits z ≤ 1048576) → ∃ sr, g [.fls (ns.map D.int)] [] = .ok (.bl true) sr) :
    PySem.W.WalkO q loose XP YP l.row.toRowW d [] (fun f vs => PySem.call f vs) := by
  refine Att.attach_callB hn hdf fun w s0 s1 mg bm fl o pm cd doc a us ns G Y ho hd hcd hmg at_a hints hlen bits nog => ?_
  have kin := hY w _ Y
  obtain ⟨g, cal, res⟩ := F w mg _ kin G.T.g
  obtain ⟨sr, res⟩ := res ns hlen bits
  have lv := hints.length
  have sz : ns.length ≤ sizeLine := Nat.le_trans hlen small
  cases hk : (KP w.params).lookup a with
  | some o =>
    have z := kin a o hk
    rw [at_a] at z
    cases z
    exact end_core kin G.T.g G.T.b G.T.builtins G.T.nolimit nog at_a room hmg cal res (H := fun _ => none) (fun _ => .inl rfl) (.inr ⟨_, us.toArray, _, hk, rfl, rfl, rfl, by rw [List.size_toArray, lv]; exact sz, by simpa using vals_ints hints⟩)
      (fun b u y => by have y' : (none : Option HO) = some u := y; cases y') (fun b y => absurd rfl y) fun y => absurd rfl y
  | none =>
    refine end_core kin G.T.g G.T.b G.T.builtins G.T.nolimit nog at_a room hmg cal res (H := fun b => if b = a then some (.frz { cls := .type "list", data := .seq us.toArray } (.lst (ns.map V.int))) else none) (fun b => ?_) (.inl ⟨_, if_pos rfl⟩) (fun b u y => ?_) (fun b y => ?_) fun _ => hk
    · by_cases e : b = a
      · exact .inr ⟨_, _, if_pos e⟩
      · exact .inl (if_neg e)
    · by_cases e : b = a
      · cases (if_pos e).symm.trans y
        subst e
        exact ⟨at_a, by rw [List.length_map]; exact sz, us, _, vals_ints hints, at_a⟩
      · cases (if_neg e).symm.trans y
    · by_cases e : b = a
      · exact e
      · exact absurd (if_neg e) y
end W9

/-! W9v: tables of raw defs; reasoning about the interpreter -/
namespace W9
open PySem PySem.Spec PyProof.Rows L2
/-! ### raw tables -/
def Df.raw (d : Df) (t : Tab) (m : Mod) : List D → M D := callDef (t.cts m) d.N.length d.body
/-- defs, the last one first -/
def rawT (m : Mod) : List Df → Tab
  | [] => []
  | d :: ds => d.rows (d.raw (rawT m ds) m) ++ rawT m ds
def sigD : List Df → List (Str × Frm)
  | [] => []
  | d :: ds => d.sig ++ sigD ds
theorem sig_raw (m : Mod) : ∀ ds : List Df, (rawT m ds).sig = sigD ds
  | [] => rfl
  | d :: ds => by
    show Tab.sig (d.rows (d.raw (rawT m ds) m) ++ rawT m ds) = d.sig ++ sigD ds
    rw [← sig_raw m ds]
    simp only [Tab.sig, Df.rows, Df.sig, List.map_append, List.map_map]
    rfl
def chD (bs gs cs : List Str) (ds : List Df) (d : Df) : Bool := fsB d.N d.ps (defScope d.st) && chSs (stcOf d bs (sigD ds) gs cs) d.body (defBody d.st) && decide ((d.sig ++ sigD ds).map (·.1)).Nodup
def Alls (K : PySem.W.Frag) (bs gs cs : List Str) : List Df → Prop
  | [] => True
  | d :: ds => (DefIn K d ∧ chD bs gs cs ds d = true) ∧ Alls K bs gs cs ds
theorem raw_ok {P : Program} {w : World} {K : PySem.W.Frag} {mg : Str → Option Value} {base h : Heap} {bs gs cs : List Str} {m : Mod} (kin : K.In h) (G : h.Ns mainGlobals mg) (hbs : ∀ x ∈ bs, mg x = none) (hgs : GlsOk K mg gs m.gl) (hfl : FlsOk K m.fl) (hcs : ClsOk K mg cs) :
    ∀ {ds : List Df}, Alls K bs gs cs ds → TabOk P w K mg base (2 * ds.length) (rawT m ds)
  | [], _ => ⟨List.nodup_nil, fun _ h => nomatch h⟩
  | d :: ds, ⟨⟨h1, h3⟩, h4⟩ => by
    unfold chD at h3
    simp only [Bool.and_eq_true, decide_eq_true_eq] at h3
    exact tab_step (raw_ok kin G hbs hgs hfl hcs h4) hbs hgs hfl hcs h1 (fun x f z => PySem.W.mg_of kin G z) h3.1.1 (by rw [sig_raw]; exact h3.1.2) (by rw [sig_raw]; exact h3.2)
/-! ### classes -/
def AllN (K : PySem.W.Frag) (C : Addr) : List Str → Prop
  | [] => True
  | f :: fs => PySem.W.findIn K (.ref C) f = some none ∧ AllN K C fs
theorem AllN.mem {K : PySem.W.Frag} {C : Addr} : ∀ {fs : List Str}, AllN K C fs → ∀ f ∈ fs, NoAttr K C f
  | _ :: _, ⟨h1, h2⟩, f, hf => by
    rcases List.mem_cons.mp hf with e | e
    · rw [e]; exact h1
    · exact AllN.mem h2 f e
structure ClsF (K : PySem.W.Frag) (c : Str) (fs : List Str) : Prop where
  ex : ∃ C, ClsN K c C ∧ PySem.W.makesIn K C = true ∧ PySem.W.keepIn K (.ref C) = true ∧ ∀ f ∈ fs, NoAttr K C f
theorem clsF_mk {K : PySem.W.Frag} {c : Str} {fs : List Str} {C : Addr} (ns : PySem.W.nsIn K mainGlobals c = some (some (.ref C))) (pg : PySem.W.plainGet K C Str.empty = true) (hd : PySem.W.hasDictIn K C = true) (po : PySem.W.plainOver K C = true)
    (sa : PySem.W.findIn K (.ref C) "__setattr__" = some (some (.builtin "object.__setattr__"))) (mk : PySem.W.makesIn K C = true) (kp : PySem.W.keepIn K (.ref C) = true) (nf : AllN K C fs) : ClsF K c fs := ⟨C, ⟨ns, pg, hd, po, sa⟩, mk, kp, nf.mem⟩
theorem clsN_mk {K : PySem.W.Frag} {c : Str} {C : Addr} (ns : PySem.W.nsIn K mainGlobals c = some (some (.ref C))) (pg : PySem.W.plainGet K C Str.empty = true) (hd : PySem.W.hasDictIn K C = true) (po : PySem.W.plainOver K C = true)
    (sa : PySem.W.findIn K (.ref C) "__setattr__" = some (some (.builtin "object.__setattr__"))) : ClsN K c C := ⟨ns, pg, hd, po, sa⟩
def AllC (K : PySem.W.Frag) : List (Str × List Str) → Prop
  | [] => True
  | p :: r => ClsF K p.1 p.2 ∧ AllC K r
theorem AllC.mem {K : PySem.W.Frag} : ∀ {l : List (Str × List Str)}, AllC K l → ∀ p ∈ l, ClsF K p.1 p.2
  | _ :: _, ⟨h1, h2⟩, p, hp => by
    rcases List.mem_cons.mp hp with e | e
    · rw [e]; exact h1
    · exact AllC.mem h2 p e
def flOf (l : List (Str × List Str)) (c f : Str) : Bool := l.any fun p => decide (p.1 = c) && p.2.contains f
theorem flOf_ok {K : PySem.W.Frag} {l : List (Str × List Str)} (h : AllC K l) : FlsOk K (flOf l) := by
  intro f c C hf cn
  unfold flOf at hf
  rw [List.any_eq_true] at hf
  obtain ⟨p, hp, hq⟩ := hf
  simp only [Bool.and_eq_true, decide_eq_true_eq, List.contains_eq_mem] at hq
  obtain ⟨D, c1, _, _, c4⟩ := (h.mem p hp).ex
  rw [hq.1] at c1
  have e := cn.uniq c1
  subst e
  exact c4 f hq.2
theorem clsOk_of {K : PySem.W.Frag} {mg : Str → Option Value} {h : Heap} {l : List (Str × List Str)} (kin : K.In h) (G : h.Ns mainGlobals mg) (a : AllC K l) : ClsOk K mg (l.map (·.1)) := by
  intro c hc
  obtain ⟨p, hp, rfl⟩ := List.mem_map.mp hc
  obtain ⟨D, c1, c2, c3, _⟩ := (a.mem p hp).ex
  exact ⟨D, c1, c2, c3, PySem.W.mg_of kin G c1.ns⟩
/-- THE END for raw tables: the last def is the law -/
theorem walkR {l : PySem.W.OpenLaw} {n : Nat} {q : Program} {loose : List Str} {XP : (Str → Option Value) → Heap → Prop} {YP : World → Heap → Prop} {d : DefRec} {KP : Params → PySem.W.Frag} (hn : l.most = some n) (small : n ≤ sizeLine) (hdf : d.params.defaults = [])
    (hY : ∀ (w : World) (h : Heap), YP w h → (KP w.params).In h) {bs gs : List Str} {cl : List (Str × List Str)} {gl : Str → Option D} {e : Df} {ds : List Df} (room : Room (2 * (ds.length + 1)) callerA) (hname : e.name = d.name) (hcl : e.cls = none) (hps : e.ents = [⟨e.name, [], 1, fun xs => xs⟩])
    (F : ∀ (w : World), Alls (KP w.params) bs gs (cl.map (·.1)) (e :: ds) ∧ (∀ x ∈ bs, PySem.W.nsIn (KP w.params) mainGlobals x = some none) ∧ AllC (KP w.params) cl ∧ ∀ (mg : Str → Option Value) (h : Heap), (KP w.params).In h → h.Ns mainGlobals mg → GlsOk (KP w.params) mg gs gl)
    (res : ∀ ns : List Int, ns.length ≤ n → (∀ z ∈ ns, Builtin.Int.intBits z ≤ 1048576) → ∃ sr, e.raw (rawT ⟨gl, flOf cl⟩ ds) ⟨gl, flOf cl⟩ [.fls (ns.map D.int)] [] = .ok (.bl true) sr) :
    PySem.W.WalkO q loose XP YP l.row.toRowW d [] (fun f vs => PySem.call f vs) := by
  refine walkG hn small hdf room hY fun w mg h kin G => ⟨e.raw (rawT ⟨gl, flOf cl⟩ ds) ⟨gl, flOf cl⟩, fun B kB GB => ?_, res⟩
  obtain ⟨h1, h2, h4, h3⟩ := F w
  have t := raw_ok (P := l.prog) (w := w) (base := B) (m := ⟨gl, flOf cl⟩) kB GB (fun x hx => PySem.W.mg_none_of kB GB (h2 x hx)) (h3 mg B kB GB) (flOf_ok h4) (clsOk_of kB GB h4) h1
  have hm : ((e.name, ⟨e.name, [], 1, none⟩, e.raw (rawT ⟨gl, flOf cl⟩ ds) ⟨gl, flOf cl⟩) : Str × Frm × (List D → M D)) ∈ rawT ⟨gl, flOf cl⟩ (e :: ds) := by
    refine List.mem_append_left _ ?_
    unfold Df.rows
    rw [hps, hcl]
    exact List.mem_cons_self
  have c := t.2 _ hm
  have c' : Callee l.prog w (KP w.params) mg B (2 * (ds.length + 1)) ⟨e.name, [], 1, none⟩ (e.raw (rawT ⟨gl, flOf cl⟩ ds) ⟨gl, flOf cl⟩) := c
  rw [hname] at c'
  exact c'
theorem gls_nil {K : PySem.W.Frag} {mg : Str → Option Value} {gl : Str → Option D} : GlsOk K mg [] gl := fun x hx => nomatch hx
/-! ### wp -/
def wp {α : Type} (m : M α) (Q : α → Store → Prop) (st : Store) : Prop := ∃ a s, m st = .ok a s ∧ Q a s
section
variable {α β : Type} {st : Store}
theorem wp_mono {m : M α} {Q Q' : α → Store → Prop} (h : wp m Q st) (k : ∀ a s, Q a s → Q' a s) : wp m Q' st := let ⟨a, s, e, q⟩ := h; ⟨a, s, e, k a s q⟩
theorem wp_ok {a : α} {s : Store} {Q : α → Store → Prop} {m : M α} (e : m st = .ok a s) : wp m Q st ↔ Q a s := by
  constructor
  · rintro ⟨a', s', e', q⟩
    rw [e] at e'
    cases e'
    exact q
  · exact fun q => ⟨a, s, e, q⟩
theorem wp_ret {f : Store → α} {g : Store → Store} {Q : α → Store → Prop} : wp (fun st => R.ok (f st) (g st)) Q st ↔ Q (f st) (g st) := wp_ok rfl
theorem wp_rt {a : α} {Q : α → Store → Prop} : wp (R.ok a) Q st ↔ Q a st := wp_ok rfl
theorem wp_no {Q : α → Store → Prop} : wp (fun _ => (R.no : R α)) Q st ↔ False := ⟨fun ⟨_, _, e, _⟩ => (nomatch e), False.elim⟩
theorem wp_bind {m : M α} {k : α → M β} {Q : β → Store → Prop} : wp (M.bind m k) Q st ↔ wp m (fun a s => wp (k a) Q s) st := by
  constructor
  · rintro ⟨b, s, e, q⟩
    obtain ⟨a, s1, e1, e2⟩ := bind_ok e
    exact ⟨a, s1, e1, b, s, e2, q⟩
  · rintro ⟨a, s1, e1, b, s, e2, q⟩
    refine ⟨b, s, ?_, q⟩
    show (M.bind m k) st = _
    unfold M.bind
    rw [e1]
    exact e2
theorem wp_ite {c : Prop} [Decidable c] {a b : M α} {Q : α → Store → Prop} : wp (if c then a else b) Q st ↔ (if c then wp a Q st else wp b Q st) := by
  split <;> exact Iff.rfl
theorem wp_gd {c : Store → Prop} [∀ s, Decidable (c s)] {f : Store → α} {g : Store → Store} {Q : α → Store → Prop} : wp (fun st => if c st then R.ok (f st) (g st) else R.no) Q st ↔ c st ∧ Q (f st) (g st) := by
  unfold wp
  by_cases h : c st
  · simp only [if_pos h]
    exact ⟨fun ⟨a, s, e, q⟩ => by cases e; exact ⟨h, q⟩, fun ⟨_, q⟩ => ⟨_, _, rfl, q⟩⟩
  · simp only [if_neg h]
    exact ⟨fun ⟨a, s, e, q⟩ => (nomatch e), fun ⟨z, _⟩ => absurd z h⟩
theorem wp_eq {m : M α} {a : α} {s : Store} : wp m (fun b t => b = a ∧ t = s) st ↔ m st = .ok a s := by
  constructor
  · rintro ⟨b, t, e, h1, h2⟩
    subst h1 h2
    exact e
  · exact fun e => ⟨a, s, e, rfl, rfl⟩
end
/-- the end of a def -/
def endQ (Q : D → Store → Prop) : Fl → Store → Prop
  | .ret d, s => Q d s
  | .nx _, s => Q .non s
  | _, _ => False
theorem wp_callDef {C : Cts} {n : Nat} {body : Sms} {ds : List D} {Q : D → Store → Prop} {st : Store} : wp (callDef C n body ds) Q st ↔ wp (runs C body (ds.map some ++ List.replicate (n - ds.length) none)) (endQ Q) st := by
  unfold callDef
  rw [wp_bind]
  unfold wp
  constructor
  · rintro ⟨fl, s, e, b, s2, e2, q⟩
    refine ⟨fl, s, e, ?_⟩
    cases fl with
    | ret d => cases e2; exact q
    | nx _ => cases e2; exact q
    | bk _ => cases e2
    | ct _ => cases e2
  · rintro ⟨fl, s, e, q⟩
    refine ⟨fl, s, e, ?_⟩
    cases fl with
    | ret d => exact ⟨d, s, rfl, q⟩
    | nx _ => exact ⟨.non, s, rfl, q⟩
    | bk _ => exact q.elim
    | ct _ => exact q.elim
/-- after a statement -/
def seqQ (C : Cts) (r : Sms) (Q : Fl → Store → Prop) : Fl → Store → Prop
  | .nx e, s => wp (runs C r e) Q s
  | fl, s => Q fl s
theorem seqQ_nx {C : Cts} {r : Sms} {Q : Fl → Store → Prop} {e : Env} {s : Store} : seqQ C r Q (.nx e) s = wp (runs C r e) Q s := rfl
theorem seqQ_ret {C : Cts} {r : Sms} {Q : Fl → Store → Prop} {d : D} {s : Store} : seqQ C r Q (.ret d) s = Q (.ret d) s := rfl
theorem seqQ_bk {C : Cts} {r : Sms} {Q : Fl → Store → Prop} {e : Env} {s : Store} : seqQ C r Q (.bk e) s = Q (.bk e) s := rfl
theorem seqQ_ct {C : Cts} {r : Sms} {Q : Fl → Store → Prop} {e : Env} {s : Store} : seqQ C r Q (.ct e) s = Q (.ct e) s := rfl
theorem endQ_ret {Q : D → Store → Prop} {d : D} {s : Store} : endQ Q (.ret d) s = Q d s := rfl
theorem endQ_nx {Q : D → Store → Prop} {e : Env} {s : Store} : endQ Q (.nx e) s = Q .non s := rfl
theorem wp_cons {C : Cts} {c : Sm} {r : Sms} {env : Env} {Q : Fl → Store → Prop} {st : Store} : wp (runs C (.cons c r) env) Q st ↔ wp (run C c env) (seqQ C r Q) st := by
  unfold runs
  rw [wp_bind]
  constructor
  · exact fun h => wp_mono h fun fl s q => by
      cases fl with
      | nx e => exact q
      | ret d => exact wp_ret.mp q
      | bk e => exact wp_ret.mp q
      | ct e => exact wp_ret.mp q
  · exact fun h => wp_mono h fun fl s q => by
      cases fl with
      | nx e => exact q
      | ret d => exact wp_ret.mpr q
      | bk e => exact wp_ret.mpr q
      | ct e => exact wp_ret.mpr q
theorem wp_nil {C : Cts} {env : Env} {Q : Fl → Store → Prop} {st : Store} : wp (runs C .nil env) Q st ↔ Q (.nx env) st := by unfold runs; exact wp_ret
section
variable {C : Cts} {env : Env} {Q : Fl → Store → Prop} {QD : D → Store → Prop} {QB : Bool → Store → Prop} {QL : List D → Store → Prop} {st : Store}
theorem wp_asg {i : Nat} {e : Ex} : wp (run C (.asg i e) env) Q st ↔ wp ((bo C e).1 env) (fun d s => Q (.nx (env.set i (some d))) s) st := by
  unfold run; rw [wp_bind]; simp only [wp_rt]
theorem wp_expr {e : Ex} : wp (run C (.expr e) env) Q st ↔ wp ((bo C e).1 env) (fun _ s => Q (.nx env) s) st := by
  unfold run; rw [wp_bind]; simp only [wp_rt]
theorem wp_retS {e : Ex} : wp (run C (.ret e) env) Q st ↔ wp ((bo C e).1 env) (fun d s => Q (.ret d) s) st := by
  unfold run; rw [wp_bind]; simp only [wp_rt]
theorem wp_retN : wp (run C .retN env) Q st ↔ Q (.ret .non) st := by unfold run; exact wp_ret
theorem wp_iteS {c : Ex} {a b : Sms} : wp (run C (.ite c a b) env) Q st ↔ wp ((bo C c).2 env) (fun r s => if r = true then wp (runs C a env) Q s else wp (runs C b env) Q s) st := by
  unfold run; rw [wp_bind]; simp only [wp_ite]
theorem wp_pass : wp (run C .pass env) Q st ↔ Q (.nx env) st := by unfold run; exact wp_ret
theorem wp_brk : wp (run C .brk env) Q st ↔ Q (.bk env) st := by unfold run; exact wp_ret
theorem wp_cont : wp (run C .cont env) Q st ↔ Q (.ct env) st := by unfold run; exact wp_ret
theorem wp_for {src : Src} {tg : Tg} {body : Sms} : wp (run C (.forS src tg body) env) Q st ↔ wp (srcE C src env) (fun p s => wp (loopF p.2 (forF tg (runs C body)) p.1 env) Q s) st := by
  unfold run; rw [wp_bind]
theorem wp_asgT {is : List Nat} {e : Ex} : wp (run C (.asgT is e) env) Q st ↔ wp ((bo C e).1 env) (fun d s => ∃ env1, bindT (.tup is) d env s = some env1 ∧ Q (.nx env1) s) st := by
  unfold run
  rw [wp_bind]
  constructor
  · exact fun h => wp_mono h fun d s ⟨fl, s2, e, q⟩ => by
      dsimp only at e
      split at e
      · rename_i env1 h1
        cases e
        exact ⟨env1, h1, q⟩
      · cases e
  · exact fun h => wp_mono h fun d s ⟨env1, h1, q⟩ => ⟨.nx env1, s, by simp only [h1], q⟩
theorem wp_setIx {o i e : Ex} : wp (run C (.setIx o i e) env) Q st ↔ wp ((bo C e).1 env) (fun d s => wp ((bo C o).1 env) (fun x s => wp ((bo C i).1 env) (fun y s => wp (setD x y d) (fun _ s => Q (.nx env) s) s) s) s) st := by
  unfold run; simp only [wp_bind, wp_ret, wp_rt]
theorem wp_augS {i : Nat} {op : Operator} {e : Ex} {x : D} (h : env[i]? = some (some x)) : wp (run C (.aug i op e) env) Q st ↔ wp ((bo C e).1 env) (fun y s => wp (augD op x y) (fun z s => Q (.nx (env.set i (some z))) s) s) st := by
  have : run C (.aug i op e) env = M.bind (ev C e env) (fun y => M.bind (augD op x y) fun z st => R.ok (Fl.nx (env.set i (some z))) st) := by
    funext st
    simp only [run, h]
  rw [this]
  simp only [wp_bind, wp_ret, wp_rt]
/-! expressions -/
theorem wp_var {i : Nat} {d : D} (h : env[i]? = some (some d)) : wp ((bo C (.var i)).1 env) QD st ↔ QD d st := by
  unfold bo
  exact wp_ok (by simp only [h])
theorem wp_cst {d : D} : wp ((bo C (.cst d)).1 env) QD st ↔ QD d st := by unfold bo; exact wp_ret
theorem wp_bin {op : Operator} {a b : Ex} : wp ((bo C (.bin op a b)).1 env) QD st ↔ wp ((bo C a).1 env) (fun x s => wp ((bo C b).1 env) (fun y s => wp (binD op x y) QD s) s) st := by
  conv => lhs; unfold bo
  simp only [wp_bind]
theorem wp_cmp {op : CmpOp} {a b : Ex} : wp ((bo C (.cmp op a b)).1 env) QD st ↔ wp ((bo C a).1 env) (fun x s => wp ((bo C b).1 env) (fun y s => wp (cmpD op x y) QD s) s) st := by
  conv => lhs; unfold bo
  simp only [wp_bind]
def blQ (QB : Bool → Store → Prop) : D → Store → Prop
  | .bl b, s => QB b s
  | _, _ => False
theorem blQ_bl {QB : Bool → Store → Prop} {b : Bool} {s : Store} : blQ QB (.bl b) s = QB b s := rfl
theorem wp_blQ {m : M D} : wp (M.bind m fun x => match x with | .bl b => fun st => .ok b st | _ => fun _ => .no) QB st ↔ wp m (blQ QB) st := by
  rw [wp_bind]
  constructor
  · exact fun h => wp_mono h fun d s q => by cases d <;> first | exact wp_ret.mp q | exact wp_no.mp q
  · exact fun h => wp_mono h fun d s q => by cases d <;> first | exact wp_ret.mpr q | exact q.elim
theorem wp_cmpT {op : CmpOp} {a b : Ex} : wp ((bo C (.cmp op a b)).2 env) QB st ↔ wp ((bo C (.cmp op a b)).1 env) (blQ QB) st := by
  unfold bo; exact wp_blQ
theorem wp_chainT {o1 o2 : CmpOp} {a b c : Ex} : wp ((bo C (.chain o1 o2 a b c)).2 env) QB st ↔ wp ((bo C (.chain o1 o2 a b c)).1 env) (blQ QB) st := by
  unfold bo; exact wp_blQ
theorem wp_andT {a b : Ex} : wp ((bo C (.and a b)).2 env) QB st ↔ wp ((bo C a).2 env) (fun r s => if r = true then wp ((bo C b).2 env) QB s else QB false s) st := by
  conv => lhs; unfold bo
  simp only [wp_bind, wp_ite, wp_rt]
theorem wp_orT {a b : Ex} : wp ((bo C (.or a b)).2 env) QB st ↔ wp ((bo C a).2 env) (fun r s => if r = true then QB true s else wp ((bo C b).2 env) QB s) st := by
  conv => lhs; unfold bo
  simp only [wp_bind, wp_ite, wp_rt]
theorem wp_notT {a : Ex} : wp ((bo C (.not a)).2 env) QB st ↔ wp ((bo C a).2 env) (fun r s => QB (!r) s) st := by
  conv => lhs; unfold bo
  simp only [wp_bind, wp_ret, wp_rt]
theorem wp_iteE {c a b : Ex} : wp ((bo C (.ite c a b)).1 env) QD st ↔ wp ((bo C c).2 env) (fun r s => if r = true then wp ((bo C a).1 env) QD s else wp ((bo C b).1 env) QD s) st := by
  conv => lhs; unfold bo
  simp only [wp_bind, wp_ite]
theorem wp_idx {a i : Ex} : wp ((bo C (.idx a i)).1 env) QD st ↔ wp ((bo C a).1 env) (fun x s => wp ((bo C i).1 env) (fun y s => wp (ixD x y) QD s) s) st := by
  conv => lhs; unfold bo
  simp only [wp_bind]
theorem wp_sl {a : Ex} {lo hi : Exo} : wp ((bo C (.sl a lo hi)).1 env) QD st ↔ wp ((bo C a).1 env) (fun x s => wp (evo C lo env) (fun l s => wp (evo C hi env) (fun h s => wp (slD x l h) QD s) s) s) st := by
  conv => lhs; unfold bo
  simp only [wp_bind]
theorem wp_call {f : Str} {es : Exs} : wp ((bo C (.call f es)).1 env) QD st ↔ wp (evs C es env) (fun ds s => wp (C.fn f ds) QD s) st := by
  conv => lhs; unfold bo
  simp only [wp_bind]
theorem wp_bi {f : Bi} {es : Exs} : wp ((bo C (.bi f es)).1 env) QD st ↔ wp (evs C es env) (fun ds s => wp (biD f ds) QD s) st := by
  conv => lhs; unfold bo
  simp only [wp_bind]
theorem wp_tup {es : Exs} : wp ((bo C (.tup es)).1 env) QD st ↔ wp (evs C es env) (fun ds s => ds.length ≤ bigN ∧ QD (.tup ds) s) st := by
  conv => lhs; unfold bo
  simp only [wp_bind, wp_gd]
theorem wp_lst {es : Exs} : wp ((bo C (.lst es)).1 env) QD st ↔ wp (evs C es env) (fun ds s => ds.length ≤ bigN ∧ QD (.ob s.length) (s ++ [.lst ds])) st := by
  conv => lhs; unfold bo
  simp only [wp_bind, wp_gd]
theorem wp_dict0 : wp ((bo C .dict0).1 env) QD st ↔ QD (.ob st.length) (st ++ [.dct []]) := by
  unfold bo; exact wp_ret
theorem wp_meth {m : Me} {o : Ex} {es : Exs} : wp ((bo C (.meth m o es)).1 env) QD st ↔ wp ((bo C o).1 env) (fun x s => ∃ T, tyD s x = some T ∧ wp (evs C es env) (fun ds s => wp (meD m T x ds) QD s) s) st := by
  conv => lhs; unfold bo
  rw [wp_bind]
  constructor
  · exact fun h => wp_mono h fun x s ⟨d, s2, e, q⟩ => by
      dsimp only at e
      split at e
      · rename_i T hT
        exact ⟨T, hT, wp_bind.mp ⟨d, s2, e, q⟩⟩
      · cases e
  · exact fun h => wp_mono h fun x s ⟨T, hT, q⟩ => by
      obtain ⟨d, s2, e, q⟩ := wp_bind.mpr q
      exact ⟨d, s2, by simp only [hT]; exact e, q⟩
theorem wp_lc {own : List Nat} {src : Src} {tg : Tg} {c : Exo} {e : Ex} : wp ((bo C (.lc own src tg c e)).1 env) QD st ↔ wp (srcE C src env) (fun p s => wp (loopC p.2 (compF tg own env (tsto C c) (bo C e).1) p.1) (fun ds s => ds.length ≤ bigN ∧ QD (.ob s.length) (s ++ [.lst ds])) s) st := by
  conv => lhs; unfold bo
  simp only [wp_bind, wp_gd]
theorem wp_evs_nil : wp (evs C .nil env) QL st ↔ QL [] st := by unfold evs; exact wp_ret
theorem wp_evs_cons {e : Ex} {es : Exs} : wp (evs C (.cons e es) env) QL st ↔ wp ((bo C e).1 env) (fun d s => wp (evs C es env) (fun ds s => QL (d :: ds) s) s) st := by
  conv => lhs; unfold evs
  simp only [wp_bind, wp_ret, wp_rt]
theorem wp_evo_none {QO : Option Int → Store → Prop} : wp (evo C .none env) QO st ↔ QO none st := by unfold evo; exact wp_ret
def inQ (QO : Option Int → Store → Prop) : D → Store → Prop
  | .int i, s => QO (some i) s
  | _, _ => False
theorem inQ_int {QO : Option Int → Store → Prop} {i : Int} {s : Store} : inQ QO (.int i) s = QO (some i) s := rfl
theorem wp_evo_some {e : Ex} {QO : Option Int → Store → Prop} : wp (evo C (.some e) env) QO st ↔ wp ((bo C e).1 env) (inQ QO) st := by
  unfold evo
  rw [wp_bind]
  constructor
  · exact fun h => wp_mono h fun d s q => by cases d <;> first | exact wp_ret.mp q | exact wp_no.mp q
  · exact fun h => wp_mono h fun d s q => by cases d <;> first | exact wp_ret.mpr q | exact q.elim
abbrev SI := List D × List (Nat × List D)
theorem wp_seq {e : Ex} {QS : SI → Store → Prop} : wp (srcE C (.seq e) env) QS st ↔ wp ((bo C e).1 env) (fun x s => wp (seqS x) QS s) st := by
  unfold srcE; rw [wp_bind]
theorem wp_enum {e : Ex} {QS : SI → Store → Prop} : wp (srcE C (.enum e) env) QS st ↔ wp ((bo C e).1 env) (fun x s => wp (enumS x) QS s) st := by
  unfold srcE; rw [wp_bind]
def rgQ (QS : SI → Store → Prop) : D → Store → Prop
  | .int n, s => rngOk n = true ∧ QS (rngI 0 n, []) s
  | _, _ => False
theorem rgQ_int {QS : SI → Store → Prop} {n : Int} {s : Store} : rgQ QS (.int n) s = (rngOk n = true ∧ QS (rngI 0 n, []) s) := rfl
theorem wp_rng1 {a : Ex} {QS : SI → Store → Prop} : wp (srcE C (.rng1 a) env) QS st ↔ wp ((bo C a).1 env) (rgQ QS) st := by
  unfold srcE
  rw [wp_bind]
  constructor
  · exact fun h => wp_mono h fun d s q => by cases d <;> first | exact wp_gd.mp q | exact wp_no.mp q
  · exact fun h => wp_mono h fun d s q => by cases d <;> first | exact wp_gd.mpr q | exact q.elim
def rg2Q (QS : SI → Store → Prop) : D → D → Store → Prop
  | .int l, .int h, s => (rngOk l = true ∧ rngOk h = true) ∧ QS (rngI l h, []) s
  | _, _, _ => False
theorem rg2Q_int {QS : SI → Store → Prop} {l h : Int} {s : Store} : rg2Q QS (.int l) (.int h) s = ((rngOk l = true ∧ rngOk h = true) ∧ QS (rngI l h, []) s) := rfl
theorem wp_rng2 {a b : Ex} {QS : SI → Store → Prop} : wp (srcE C (.rng2 a b) env) QS st ↔ wp ((bo C a).1 env) (fun x s => wp ((bo C b).1 env) (fun y s => rg2Q QS x y s) s) st := by
  unfold srcE
  simp only [wp_bind]
  constructor
  · exact fun h => wp_mono h fun x s q => wp_mono q fun y s q => by cases x <;> cases y <;> first | exact wp_gd.mp q | exact wp_no.mp q
  · exact fun h => wp_mono h fun x s q => wp_mono q fun y s q => by cases x <;> cases y <;> first | exact wp_gd.mpr q | exact q.elim
end
/-- the truth of a value -/
theorem wp_plainT {C : Cts} {e : Ex} {env : Env} {QB : Bool → Store → Prop} {st : Store} (h : (bo C e).2 = fun env => M.bind ((bo C e).1 env) fun x => truthD x) : wp ((bo C e).2 env) QB st ↔ wp ((bo C e).1 env) (fun x s => wp (truthD x) QB s) st := by
  rw [h]; exact wp_bind
/-! loops -/
theorem wp_loopF {gd : List (Nat × List D)} {f : D → Env → M Fl} {Q : Fl → Store → Prop} (I : List D → Env → Store → Prop) (hg : ∀ r e s, I r e s → gdOk s gd = true) (hz : ∀ e s, I [] e s → Q (.nx e) s)
    (hs : ∀ d r e s, I (d :: r) e s → wp (f d e) (fun fl s1 => match fl with | .nx e1 => I r e1 s1 | .ct e1 => I r e1 s1 | .bk e1 => Q (.nx e1) s1 | .ret v => Q (.ret v) s1) s) :
    ∀ (l : List D) (env : Env) (st : Store), I l env st → wp (loopF gd f l env) Q st
  | [], env, st, h => by
    unfold loopF
    exact ⟨.nx env, st, if_pos (hg _ _ _ h), hz _ _ h⟩
  | d :: r, env, st, h => by
    obtain ⟨fl, s1, e, q⟩ := hs d r env st h
    have hgd := hg _ _ _ h
    cases fl with
    | nx e1 =>
      obtain ⟨a, s2, e2, q2⟩ := wp_loopF I hg hz hs r e1 s1 q
      exact ⟨a, s2, by simp only [loopF, hgd, if_true, e]; exact e2, q2⟩
    | ct e1 =>
      obtain ⟨a, s2, e2, q2⟩ := wp_loopF I hg hz hs r e1 s1 q
      exact ⟨a, s2, by simp only [loopF, hgd, if_true, e]; exact e2, q2⟩
    | bk e1 => exact ⟨.nx e1, s1, by simp only [loopF, hgd, if_true, e], q⟩
    | ret v => exact ⟨.ret v, s1, by simp only [loopF, hgd, if_true, e], q⟩
theorem gd_mono {st s : Store} : ∀ {gd : List (Nat × List D)}, gdOk st gd = true → st <+: s → gdOk s gd = true
  | [], _, _ => rfl
  | (j, xs) :: r, hg, p => by
    simp only [gdOk, Bool.and_eq_true, decide_eq_true_eq] at hg ⊢
    refine ⟨?_, gd_mono hg.2 p⟩
    obtain ⟨t, rfl⟩ := p
    rw [List.getElem?_append_left (List.getElem?_eq_some_iff.mp hg.1).1]; exact hg.1
/-- a comprehension whose turns only add to the store -/
theorem wp_loopC {gd : List (Nat × List D)} {f : D → M (Option D)} {F : D → Option D} {st : Store} (hg : gdOk st gd = true) :
    ∀ (l : List D) (s : Store), st <+: s → (∀ d ∈ l, ∀ s, st <+: s → wp (f d) (fun o s1 => o = F d ∧ s <+: s1) s) → wp (loopC gd f l) (fun ds s1 => ds = l.filterMap F ∧ s <+: s1) s
  | [], s, p, h => by
    have : gdOk s gd = true := gd_mono hg p
    exact ⟨[], s, by simp only [loopC, this, if_true], rfl, List.prefix_refl _⟩
  | d :: r, s, p, h => by
    have hgs : gdOk s gd = true := gd_mono hg p
    obtain ⟨o, s1, e1, rfl, p1⟩ := h d List.mem_cons_self s p
    obtain ⟨ds, s2, e2, rfl, p2⟩ := wp_loopC hg r s1 (p.trans p1) fun d hd => h d (List.mem_cons_of_mem _ hd)
    refine ⟨(F d).toList ++ r.filterMap F, s2, by simp only [loopC, hgs, if_true, e1, e2], ?_, p1.trans p2⟩
    cases hF : F d <;> simp [List.filterMap_cons, hF]
theorem wp_compF {t : Tg} {own : List Nat} {env : Env} {mt : Env → M Bool} {me : Env → M D} {d : D} {st : Store} {QO : Option D → Store → Prop} {env1 : Env} (hb : bindT t d (wipeE env own) st = some env1) :
    wp (compF t own env mt me d) QO st ↔ wp (mt env1) (fun r s => if r = true then wp (me env1) (fun x s => QO (some x) s) s else QO none s) st := by
  unfold wp compF
  simp only [hb]
  constructor
  · rintro ⟨o, s, e, q⟩
    split at e
    · rename_i s1 e1
      refine ⟨true, s1, e1, ?_⟩
      rw [if_pos rfl]
      split at e
      · rename_i x s2 e2
        cases e
        exact ⟨x, _, e2, q⟩
      · cases e
      · cases e
    · rename_i s1 e1
      cases e
      exact ⟨false, _, e1, by rw [if_neg (by decide)]; exact q⟩
    · cases e
    · cases e
  · rintro ⟨r, s1, e1, h⟩
    cases r with
    | true =>
      rw [if_pos rfl] at h
      obtain ⟨x, s2, e2, q⟩ := h
      exact ⟨some x, s2, by rw [e1]; simp only [e2], q⟩
    | false =>
      rw [if_neg (by decide)] at h
      exact ⟨none, s1, by rw [e1], h⟩
theorem wp_forF {t : Tg} {mb : Env → M Fl} {d : D} {env env1 : Env} {st : Store} {Q : Fl → Store → Prop} (hb : bindT t d env st = some env1) : wp (forF t mb d env) Q st ↔ wp (mb env1) Q st := by
  unfold wp forF
  simp only [hb]
end W9

/-! W9w: small words for the ends -/
namespace W9
open PySem PySem.Spec PyProof.Rows L2
def AllB (K : PySem.W.Frag) : List Str → Prop
  | [] => True
  | x :: r => PySem.W.nsIn K mainGlobals x = some none ∧ AllB K r
theorem forall_bs {K : PySem.W.Frag} : ∀ {bs : List Str}, AllB K bs → ∀ x ∈ bs, PySem.W.nsIn K mainGlobals x = some none
  | y :: r, ⟨h1, h2⟩, x, hx => by
    rcases List.mem_cons.mp hx with e | e
    · rw [e]; exact h1
    · exact forall_bs h2 x e
/-- a number of the module -/
theorem gls_int {K : PySem.W.Frag} {mg : Str → Option Value} {h : Heap} {gs : List Str} {gl : Str → Option D} {x : Str} {i : Int} {t : Nat} (kin : K.In h) (G : h.Ns mainGlobals mg) (hx : PySem.W.nsIn K mainGlobals x = some (some (.int i t))) (hg : gl x = some (.int i)) (r : GlsOk K mg gs gl) : GlsOk K mg (x :: gs) gl := by
  intro y hy
  rcases List.mem_cons.mp hy with e | e
  · subst e
    exact ⟨_, _, .int i, hg, PySem.W.mg_of kin G hx, ⟨_, rfl⟩, fun _ _ => .int i⟩
  · exact r y e
end W9

/-! W9x: reading the interpreter by simp -/
namespace W9
open PySem L2
def varQ (o : Option (Option D)) (Q : D → Store → Prop) (s : Store) : Prop := match o with
  | some (some d) => Q d s
  | _ => False
theorem varQ_some {d : D} {Q : D → Store → Prop} {s : Store} : varQ (some (some d)) Q s = Q d s := rfl
section
variable {C : Cts} {env : Env} {Q : Fl → Store → Prop} {QD : D → Store → Prop} {QB : Bool → Store → Prop} {QL : List D → Store → Prop} {QS : SI → Store → Prop} {st : Store}
theorem wp_varX {i : Nat} : wp ((bo C (.var i)).1 env) QD st ↔ varQ env[i]? QD st := by
  unfold bo
  unfold wp varQ
  constructor
  · rintro ⟨a, s, e, q⟩
    dsimp only at e
    split at e
    · rename_i h; cases e; first | exact q | (rw [h]; exact q)
    · cases e
  · intro h
    split at h
    · rename_i d hd; exact ⟨d, st, by dsimp only; rw [hd], h⟩
    · exact h.elim
theorem wp_augX {i : Nat} {op : Operator} {e : Ex} : wp (run C (.aug i op e) env) Q st ↔ varQ env[i]? (fun x s => wp ((bo C e).1 env) (fun y s => wp (augD op x y) (fun z s => Q (.nx (env.set i (some z))) s) s) s) st := by
  cases h : env[i]? with
  | none =>
    constructor
    · rintro ⟨a, s, e1, q⟩
      simp only [run, h] at e1
      cases e1
    · exact fun z => z.elim
  | some o =>
    cases o with
    | none =>
      constructor
      · rintro ⟨a, s, e1, q⟩
        simp only [run, h] at e1
        cases e1
      · exact fun z => z.elim
    | some x => exact wp_augS h
theorem wp_callK {tag f : Str} {ks : List Str} {es kes : Exs} : wp ((bo C (.callK tag f ks es kes)).1 env) QD st ↔ wp (evs C es env) (fun ds s => wp (evs C kes env) (fun zs s => wp (C.fn tag (ds ++ zs)) QD s) s) st := by
  conv => lhs; unfold bo
  simp only [wp_bind]
theorem wp_call0 {f : Str} : wp ((bo C (.call0 f)).1 env) QD st ↔ wp (C.fn f []) QD st := by
  conv => lhs; unfold bo
theorem wp_globX {x : Str} : wp ((bo C (.glob x)).1 env) QD st ↔ varQ (some (C.gl x)) QD st := by
  unfold bo
  unfold wp varQ
  cases h : C.gl x with
  | none =>
    constructor
    · rintro ⟨a, s, e, q⟩
      simp only [h] at e
      cases e
    · exact fun z => z.elim
  | some d =>
    constructor
    · rintro ⟨a, s, e, q⟩
      simp only [h] at e
      cases e
      exact q
    · exact fun q => ⟨d, st, by simp only [h], q⟩
theorem wp_dictX {ks : List Str} {es : Exs} : wp ((bo C (.dict ks es)).1 env) QD st ↔ wp (evs C es env) (fun ds s => (ks.length = ds.length ∧ ks.length ≤ 15) ∧ QD (.ob s.length) (s ++ [.dct ((ks.map D.str).zip ds)])) st := by
  conv => lhs; unfold bo
  simp only [wp_bind, wp_gd]
theorem wp_idxT {a i : Ex} : wp ((bo C (.idx a i)).2 env) QB st ↔ wp ((bo C (.idx a i)).1 env) (fun x s => wp (truthD x) QB s) st := wp_plainT (by unfold bo; rfl)
theorem wp_varT {i : Nat} : wp ((bo C (.var i)).2 env) QB st ↔ wp ((bo C (.var i)).1 env) (fun x s => wp (truthD x) QB s) st := wp_plainT (by unfold bo; rfl)
theorem wp_callT {f : Str} {es : Exs} : wp ((bo C (.call f es)).2 env) QB st ↔ wp ((bo C (.call f es)).1 env) (fun x s => wp (truthD x) QB s) st := wp_plainT (by unfold bo; rfl)
theorem wp_callKT {tag f : Str} {ks : List Str} {es kes : Exs} : wp ((bo C (.callK tag f ks es kes)).2 env) QB st ↔ wp ((bo C (.callK tag f ks es kes)).1 env) (fun x s => wp (truthD x) QB s) st := wp_plainT (by unfold bo; rfl)
theorem wp_biT {f : Bi} {es : Exs} : wp ((bo C (.bi f es)).2 env) QB st ↔ wp ((bo C (.bi f es)).1 env) (fun x s => wp (truthD x) QB s) st := wp_plainT (by unfold bo; rfl)
theorem x_truB {b : Bool} : wp (truthD (.bl b)) QB st ↔ QB b st := wp_ok rfl
theorem tsto_none : wp (tsto C .none env) QB st ↔ QB true st := by unfold tsto; exact wp_ret
theorem tsto_some {e : Ex} : wp (tsto C (.some e) env) QB st ↔ wp ((bo C e).2 env) QB st := by unfold tsto; exact Iff.rfl
/-! operators upon known things -/
theorem x_addI {a b : Int} : wp (binD .Add (.int a) (.int b)) QD st ↔ QD (.int (a + b)) st := wp_ok rfl
theorem x_addT {a b : List D} : wp (binD .Add (.tup a) (.tup b)) QD st ↔ a.length + b.length ≤ bigN ∧ QD (.tup (a ++ b)) st := wp_gd
theorem x_addS {a b : Str} : wp (binD .Add (.str a) (.str b)) QD st ↔ a.length + b.length ≤ bigN ∧ QD (.str (a ++ b)) st := wp_gd
def lstQ (o : Option Ob) (Q : List D → Prop) : Prop := match o with | some (.lst xs) => Q xs | _ => False
theorem lstQ_some {xs : List D} {Q : List D → Prop} : lstQ (some (.lst xs)) Q = Q xs := rfl
def dctQ (o : Option Ob) (Q : List (D × D) → Prop) : Prop := match o with | some (.dct xs) => Q xs | _ => False
theorem dctQ_some {xs : List (D × D)} {Q : List (D × D) → Prop} : dctQ (some (.dct xs)) Q = Q xs := rfl
theorem x_addL {i j : Nat} : wp (binD .Add (.ob i) (.ob j)) QD st ↔ lstQ st[i]? fun xs => lstQ st[j]? fun ys => xs.length + ys.length ≤ bigN ∧ QD (.ob st.length) (st ++ [.lst (xs ++ ys)]) := by
  unfold wp lstQ
  simp only [binD, addD]
  constructor
  · rintro ⟨a, s, e, q⟩
    split at e
    · rename_i xs ys h1 h2
      rw [h1, h2]
      split at e
      · cases e; exact ⟨by assumption, q⟩
      · cases e
    · cases e
  · intro h
    split at h
    · rename_i xs h1
      split at h
      · rename_i ys h2
        exact ⟨_, _, by rw [h1, h2]; simp only [h.1, if_true], h.2⟩
      · exact h.elim
    · exact h.elim
theorem x_subI {a b : Int} : wp (binD .Sub (.int a) (.int b)) QD st ↔ QD (.int (a - b)) st := wp_ok rfl
theorem x_mulI {a b : Int} : wp (binD .Mult (.int a) (.int b)) QD st ↔ mulOk a b = true ∧ QD (.int (a * b)) st := wp_gd
theorem x_mulT1 {xs : List D} : wp (binD .Mult (.tup xs) (.int 1)) QD st ↔ QD (.tup xs) st := wp_ok rfl
theorem x_mulT0 {x : D} {xs : List D} : wp (binD .Mult (.tup (x :: xs)) (.int 0)) QD st ↔ QD (.tup []) st := wp_ok (by simp only [binD, mulD]; rfl)
theorem x_divI {a b : Int} : wp (binD .FloorDiv (.int a) (.int b)) QD st ↔ (0 < b ∧ b.natAbs.log2 < 9000) ∧ QD (.int (a / b)) st := wp_gd
theorem x_modI {a b : Int} : wp (binD .Mod (.int a) (.int b)) QD st ↔ 0 < b ∧ QD (.int (a % b)) st := wp_gd
theorem x_powI {a b : Int} : wp (binD .Pow (.int a) (.int b)) QD st ↔ (0 ≤ b ∧ (Builtin.Int.intBits a : Int) * b ≤ 2 ^ 27) ∧ QD (.int (a ^ b.toNat)) st := wp_gd
theorem x_ltI {a b : Int} : wp (cmpD .Lt (.int a) (.int b)) QD st ↔ QD (.bl (decide (a < b))) st := wp_ok rfl
theorem x_leI {a b : Int} : wp (cmpD .LtE (.int a) (.int b)) QD st ↔ QD (.bl (decide (a ≤ b))) st := wp_ok rfl
theorem x_gtI {a b : Int} : wp (cmpD .Gt (.int a) (.int b)) QD st ↔ QD (.bl (decide (a > b))) st := wp_ok rfl
theorem x_geI {a b : Int} : wp (cmpD .GtE (.int a) (.int b)) QD st ↔ QD (.bl (decide (a ≥ b))) st := wp_ok rfl
theorem x_is {a : D} : wp (cmpD .Is a .non) QD st ↔ QD (.bl (match a with | .non => true | _ => false)) st := wp_ok (by cases a <;> rfl)
theorem x_isnot {a : D} : wp (cmpD .IsNot a .non) QD st ↔ QD (.bl (match a with | .non => false | _ => true)) st := wp_ok (by cases a <;> rfl)
theorem x_isB {a b : Bool} : wp (cmpD .Is (.bl a) (.bl b)) QD st ↔ QD (.bl (decide (a = b))) st := wp_ok rfl
theorem x_isNB {b : Bool} : wp (cmpD .Is .non (.bl b)) QD st ↔ QD (.bl false) st := wp_ok rfl
def optQ {α : Type} (o : Option α) (Q : α → Prop) : Prop := match o with | some a => Q a | none => False
theorem optQ_some {α : Type} {a : α} {Q : α → Prop} : optQ (some a) Q = Q a := rfl
theorem wp_opt {α β : Type} {o : Option β} {m : M α} {f : β → α} {g : β → Store} {Q : α → Store → Prop} (h1 : ∀ d, o = some d → m st = .ok (f d) (g d)) (h2 : o = none → m st = .no) : wp m Q st ↔ optQ o fun d => Q (f d) (g d) := by
  cases o with
  | some d => exact wp_ok (h1 d rfl)
  | none =>
    unfold wp
    rw [h2 rfl]
    exact ⟨fun ⟨a, s, e, q⟩ => (nomatch e), fun z => z.elim⟩
theorem x_ixT {xs : List D} {k : Int} : wp (ixD (.tup xs) (.int k)) QD st ↔ optQ (atI xs k) fun d => QD d st := wp_opt (f := fun d => d) (g := fun _ => st) (fun d h => by simp only [ixD, h]) fun h => by simp only [ixD, h]
theorem x_ixF {xs : List D} {k : Int} : wp (ixD (.fls xs) (.int k)) QD st ↔ optQ (atI xs k) fun d => QD d st := wp_opt (f := fun d => d) (g := fun _ => st) (fun d h => by simp only [ixD, h]) fun h => by simp only [ixD, h]
theorem x_ixL {j : Nat} {k : Int} {xs : List D} (h : st[j]? = some (.lst xs)) : wp (ixD (.ob j) (.int k)) QD st ↔ optQ (atI xs k) fun d => QD d st := by
  unfold wp optQ
  simp only [ixD, h]
  constructor
  · rintro ⟨a, s, e, q⟩
    split at e
    · rename_i h; cases e; first | exact q | (rw [h]; exact q)
    · cases e
  · intro h
    split at h
    · rename_i d hd; exact ⟨d, st, by rw [hd], h⟩
    · exact h.elim
theorem x_ixD {j : Nat} {k : D} {kvs : List (D × D)} (h : st[j]? = some (.dct kvs)) : wp (ixD (.ob j) k) QD st ↔ kindOk kvs k = true ∧ optQ (getKv kvs k) fun d => QD d st := by
  unfold wp optQ
  simp only [ixD, h]
  constructor
  · rintro ⟨a, s, e, q⟩
    split at e
    · rename_i hk
      split at e
      · rename_i h; cases e; first | exact ⟨hk, q⟩ | (rw [h]; exact ⟨hk, q⟩)
      · cases e
    · cases e
  · rintro ⟨hk, h⟩
    split at h
    · rename_i d hd; exact ⟨d, st, by rw [if_pos hk, hd], h⟩
    · exact h.elim
theorem x_setL {j : Nat} {k : Int} {n : Nat} {d : D} {xs : List D} {QU : Unit → Store → Prop} (h : st[j]? = some (.lst xs)) (hn : ixN xs.length k = some n) : wp (setD (.ob j) (.int k) d) QU st ↔ QU () (st.set j (.lst (xs.set n d))) := wp_ok (by simp only [setD, h, hn])
theorem x_setK {j : Nat} {k : D} {d : D} {kvs : List (D × D)} {QU : Unit → Store → Prop} (h : st[j]? = some (.dct kvs)) : wp (setD (.ob j) k d) QU st ↔ (kindOk kvs k = true ∧ kvs.length < bigN) ∧ QU () (st.set j (.dct (putKv kvs k d))) := by
  unfold wp
  simp only [setD, h]
  constructor
  · rintro ⟨a, s, e, q⟩
    split at e
    · rename_i hk; cases e; exact ⟨hk, q⟩
    · cases e
  · rintro ⟨hk, q⟩
    exact ⟨(), _, by rw [if_pos hk], q⟩
theorem x_abs {i : Int} : wp (biD .abs [.int i]) QD st ↔ QD (.int (if i < 0 then -i else i)) st := wp_ok rfl
theorem x_lenT {xs : List D} : wp (biD .len [.tup xs]) QD st ↔ QD (.int xs.length) st := wp_ok rfl
theorem x_lenF {xs : List D} : wp (biD .len [.fls xs]) QD st ↔ QD (.int xs.length) st := wp_ok rfl
theorem x_lenL {j : Nat} {xs : List D} (h : st[j]? = some (.lst xs)) : wp (biD .len [.ob j]) QD st ↔ QD (.int xs.length) st := wp_ok (by simp only [biD, itemsL, h])
theorem x_intI {i : Int} : wp (biD .int [.int i]) QD st ↔ QD (.int i) st := wp_ok rfl
theorem x_intB {b : Bool} : wp (biD .int [.bl b]) QD st ↔ QD (.int (if b then 1 else 0)) st := wp_ok rfl
theorem x_max2 {i j : Int} : wp (biD .max [.int i, .int j]) QD st ↔ QD (.int (if j > i then j else i)) st := wp_ok rfl
theorem x_min2 {i j : Int} : wp (biD .min [.int i, .int j]) QD st ↔ QD (.int (if j < i then j else i)) st := wp_ok rfl
theorem x_tupL {j : Nat} {xs : List D} (h : st[j]? = some (.lst xs)) : wp (biD .tuple [.ob j]) QD st ↔ QD (.tup xs) st := wp_ok (by simp only [biD, itemsL, h])
theorem x_seqT {xs : List D} : wp (seqS (.tup xs)) QS st ↔ QS (xs, []) st := wp_ok rfl
theorem x_seqF {xs : List D} : wp (seqS (.fls xs)) QS st ↔ QS (xs, []) st := wp_ok rfl
theorem x_seqL {j : Nat} {xs : List D} (h : st[j]? = some (.lst xs)) : wp (seqS (.ob j)) QS st ↔ QS (xs, [(j, xs)]) st := wp_ok (by simp only [seqS, h])
theorem x_slT {xs : List D} {lo hi : Option Int} : wp (slD (.tup xs) lo hi) QD st ↔ QD (.tup (cutL xs lo hi)) st := wp_ok rfl
theorem x_slF {xs : List D} {lo hi : Option Int} : wp (slD (.fls xs) lo hi) QD st ↔ QD (.ob st.length) (st ++ [.lst (cutL xs lo hi)]) := wp_ok rfl
theorem x_slL {j : Nat} {xs : List D} {lo hi : Option Int} (h : st[j]? = some (.lst xs)) : wp (slD (.ob j) lo hi) QD st ↔ QD (.ob st.length) (st ++ [.lst (cutL xs lo hi)]) := wp_ok (by simp only [slD, h])
theorem x_app {j : Nat} {x : D} {xs : List D} (h : st[j]? = some (.lst xs)) : wp (meD .append .list (.ob j) [x]) QD st ↔ xs.length < bigN ∧ QD .non (st.set j (.lst (xs ++ [x]))) := by
  unfold wp
  simp only [meD, h]
  constructor
  · rintro ⟨a, s, e, q⟩
    split at e
    · rename_i hk; cases e; exact ⟨hk, q⟩
    · cases e
  · rintro ⟨hk, q⟩
    exact ⟨.non, _, by rw [if_pos hk], q⟩
theorem x_get1 {j : Nat} {k : D} {kvs : List (D × D)} (h : st[j]? = some (.dct kvs)) : wp (meD .get .dict (.ob j) [k]) QD st ↔ kindOk kvs k = true ∧ QD ((getKv kvs k).getD .non) st := by
  unfold wp
  simp only [meD, h]
  constructor
  · rintro ⟨a, s, e, q⟩
    split at e
    · rename_i hk; cases e; exact ⟨hk, q⟩
    · cases e
  · rintro ⟨hk, q⟩
    exact ⟨_, _, by rw [if_pos hk], q⟩
theorem x_get2 {j : Nat} {k x : D} {kvs : List (D × D)} (h : st[j]? = some (.dct kvs)) : wp (meD .get .dict (.ob j) [k, x]) QD st ↔ kindOk kvs k = true ∧ QD ((getKv kvs k).getD x) st := by
  unfold wp
  simp only [meD, h]
  constructor
  · rintro ⟨a, s, e, q⟩
    split at e
    · rename_i hk; cases e; exact ⟨hk, q⟩
    · cases e
  · rintro ⟨hk, q⟩
    exact ⟨_, _, by rw [if_pos hk], q⟩
theorem x_setd {j : Nat} {k x : D} {kvs : List (D × D)} (h : st[j]? = some (.dct kvs)) : wp (meD .setdefault .dict (.ob j) [k, x]) QD st ↔ (kindOk kvs k = true ∧ kvs.length < bigN) ∧ (match getKv kvs k with | some d => QD d st | none => QD x (st.set j (.dct (putKv kvs k x)))) := by
  unfold wp
  simp only [meD, h]
  constructor
  · rintro ⟨a, s, e, q⟩
    split at e
    · rename_i hk
      refine ⟨hk, ?_⟩
      split at e
      · rename_i d hd; cases e; first | exact q | (rw [hd]; exact q)
      · rename_i hd; cases e; first | exact q | (rw [hd]; exact q)
    · cases e
  · rintro ⟨hk, q⟩
    rw [if_pos hk]
    split at q
    · rename_i d hd; first | exact ⟨_, _, rfl, q⟩ | (rw [hd]; exact ⟨_, _, rfl, q⟩)
    · rename_i hd; first | exact ⟨_, _, rfl, q⟩ | (rw [hd]; exact ⟨_, _, rfl, q⟩)
theorem x_inK {j : Nat} {k : D} {kvs : List (D × D)} {neg : Bool} (h : st[j]? = some (.dct kvs)) : wp (inD neg k (.ob j)) QD st ↔ kindOk kvs k = true ∧ QD (.bl (ifn neg (getKv kvs k).isSome)) st := by
  unfold wp
  simp only [inD, h]
  constructor
  · rintro ⟨a, s, e, q⟩
    split at e
    · rename_i hk; cases e; exact ⟨hk, q⟩
    · cases e
  · rintro ⟨hk, q⟩
    exact ⟨_, _, by rw [if_pos hk], q⟩
theorem x_tyL {j : Nat} {xs : List D} (h : st[j]? = some (.lst xs)) : tyD st (.ob j) = some .list := by simp only [tyD, h]
theorem x_tyD {j : Nat} {xs : List (D × D)} (h : st[j]? = some (.dct xs)) : tyD st (.ob j) = some .dict := by simp only [tyD, h]
theorem x_eqS {a b : D} (h : scalD a b = true) : wp (cmpD .Eq a b) QD st ↔ QD (.bl (decide (a = b))) st := wp_ok (by simp only [cmpD, eqD, h, if_true]; rfl)
theorem x_neS {a b : D} (h : scalD a b = true) : wp (cmpD .NotEq a b) QD st ↔ QD (.bl (!decide (a = b))) st := wp_ok (by simp only [cmpD, eqD, h, if_true])
theorem x_eqSS {a b : Str} : wp (cmpD .Eq (.str a) (.str b)) QD st ↔ QD (.bl (decide (a = b))) st := by
  rw [x_eqS rfl]
  simp only [D.str.injEq]
theorem x_neSS {a b : Str} : wp (cmpD .NotEq (.str a) (.str b)) QD st ↔ QD (.bl (!decide (a = b))) st := by
  rw [x_neS rfl]
  simp only [D.str.injEq]
theorem x_eqII {a b : Int} : wp (cmpD .Eq (.int a) (.int b)) QD st ↔ QD (.bl (decide (a = b))) st := by
  rw [x_eqS rfl]
  simp only [D.int.injEq]
theorem x_neII {a b : Int} : wp (cmpD .NotEq (.int a) (.int b)) QD st ↔ QD (.bl (!decide (a = b))) st := by
  rw [x_neS rfl]
  simp only [D.int.injEq]
theorem str_we : (("word" : Str) = "end") = False := eq_false (by decide +kernel)
theorem str_ew : (("end" : Str) = "word") = False := eq_false (by decide +kernel)
/-! instances -/
def insQ (o : Option (Str × List (Str × D))) (Q : Str → List (Str × D) → Prop) : Prop := match o with | some (c, fs) => Q c fs | none => False
theorem insQ_some {c : Str} {fs : List (Str × D)} {Q : Str → List (Str × D) → Prop} : insQ (some (c, fs)) Q = Q c fs := rfl
theorem x_ins {j : Nat} {c : Str} {fs : List (Str × D)} (h : st[j]? = some (.ins c fs)) : insD st (.ob j) = some (c, fs) := by simp only [insD, h]
theorem wp_fld {o : Ex} {f : Str} : wp ((bo C (.fld o f)).1 env) QD st ↔ wp ((bo C o).1 env) (fun x s => wp (fldD C.fl f x) QD s) st := by
  conv => lhs; unfold bo
  simp only [wp_bind]
theorem wp_fldT {o : Ex} {f : Str} : wp ((bo C (.fld o f)).2 env) QB st ↔ wp ((bo C (.fld o f)).1 env) (fun x s => wp (truthD x) QB s) st := wp_plainT (by unfold bo; rfl)
theorem x_fld {fl : Str → Str → Bool} {f : Str} {j : Nat} {c : Str} {fs : List (Str × D)} (h : st[j]? = some (.ins c fs)) : wp (fldD fl f (.ob j)) QD st ↔ fl c f = true ∧ optQ (fs.lookup f) fun d => QD d st := by
  unfold wp optQ
  simp only [fldD, x_ins h]
  constructor
  · rintro ⟨a, s, e, q⟩
    split at e
    · rename_i hk
      refine ⟨hk, ?_⟩
      split at e
      · rename_i d hd; cases e; first | exact q | (rw [hd]; exact q)
      · cases e
    · cases e
  · rintro ⟨hk, q⟩
    rw [if_pos hk]
    split at q
    · rename_i d hd; first | exact ⟨_, _, rfl, q⟩ | (rw [hd]; exact ⟨_, _, rfl, q⟩)
    · exact q.elim
theorem wp_mcall {tag m : Str} {ks : List Str} {o : Ex} {es kes : Exs} : wp ((bo C (.mcall tag m ks o es kes)).1 env) QD st ↔ wp ((bo C o).1 env) (fun x s => insQ (insD s x) fun c fs => (fs.lookup m).isNone = true ∧
    wp (evs C es env) (fun ds s => wp (evs C kes env) (fun zs s => wp (C.mt (c ++ tag) ⟨m, ks, ds.length + zs.length + 1, some c⟩ (x :: (ds ++ zs))) QD s) s) s) st := by
  conv => lhs; unfold bo
  rw [wp_bind]
  constructor
  · exact fun h => wp_mono h fun x s ⟨d, s2, e, q⟩ => by
      unfold insQ
      dsimp only at e
      split at e
      · rename_i c fs hi
        try rw [hi]
        split at e
        · rename_i hl
          refine ⟨hl, ?_⟩
          have : wp (M.bind (evs C es env) fun ds => M.bind (evs C kes env) fun zs => C.mt (c ++ tag) ⟨m, ks, ds.length + zs.length + 1, some c⟩ (x :: (ds ++ zs))) QD s := ⟨d, s2, e, q⟩
          simpa only [wp_bind] using this
        · cases e
      · cases e
  · exact fun h => wp_mono h fun x s q => by
      unfold insQ at q
      split at q
      · rename_i c fs hi
        obtain ⟨hl, q⟩ := q
        have : wp (M.bind (evs C es env) fun ds => M.bind (evs C kes env) fun zs => C.mt (c ++ tag) ⟨m, ks, ds.length + zs.length + 1, some c⟩ (x :: (ds ++ zs))) QD s := by simpa only [wp_bind] using q
        obtain ⟨d, s2, e, q⟩ := this
        exact ⟨d, s2, by simp only [hi, hl, if_true]; exact e, q⟩
      · exact q.elim
theorem wp_mcallT {tag m : Str} {ks : List Str} {o : Ex} {es kes : Exs} : wp ((bo C (.mcall tag m ks o es kes)).2 env) QB st ↔ wp ((bo C (.mcall tag m ks o es kes)).1 env) (fun x s => wp (truthD x) QB s) st := wp_plainT (by unfold bo; rfl)
theorem wp_make {tag c : Str} {ks : List Str} {es kes : Exs} : wp ((bo C (.make tag c ks es kes)).1 env) QD st ↔ wp (evs C es env) (fun ds s => wp (evs C kes env) (fun zs s => wp (mkD c (C.mt (c ++ tag) ⟨"__init__", ks, ds.length + zs.length + 1, some c⟩) (ds ++ zs)) QD s) s) st := by
  conv => lhs; unfold bo
  simp only [wp_bind]
theorem x_mk {c : Str} {g : List D → M D} {ds : List D} : wp (mkD c g ds) QD st ↔ wp (g (.ob st.length :: ds)) (fun d s => d = .non ∧ QD (.ob st.length) s) (st ++ [.ins c []]) := by
  unfold wp mkD
  constructor
  · rintro ⟨a, s, e, q⟩
    split at e
    · rename_i st1 e1
      cases e
      exact ⟨.non, _, e1, rfl, q⟩
    · cases e
  · rintro ⟨a, s, e, rfl, q⟩
    exact ⟨.ob st.length, s, by rw [e], q⟩
theorem wp_setFld {o e : Ex} {f : Str} : wp (run C (.setFld o f e) env) Q st ↔ wp ((bo C e).1 env) (fun d s => wp ((bo C o).1 env) (fun x s => wp (setFldD C.fl f x d) (fun _ s => Q (.nx env) s) s) s) st := by
  unfold run; simp only [wp_bind, wp_ret, wp_rt]
theorem x_setFld {fl : Str → Str → Bool} {f : Str} {j : Nat} {c : Str} {fs : List (Str × D)} {d : D} {QU : Unit → Store → Prop} (h : st[j]? = some (.ins c fs)) : wp (setFldD fl f (.ob j) d) QU st ↔ (fl c f = true ∧ fs.length < 900) ∧ QU () (st.set j (.ins c (putFd f d fs))) := by
  unfold wp
  simp only [setFldD, h]
  constructor
  · rintro ⟨a, s, e, q⟩
    split at e
    · rename_i hk; cases e; exact ⟨hk, q⟩
    · cases e
  · rintro ⟨hk, q⟩
    exact ⟨(), _, by rw [if_pos hk], q⟩
theorem wp_augFld {o e : Ex} {f : Str} {op : Operator} : wp (run C (.augFld o f op e) env) Q st ↔ wp ((bo C o).1 env) (fun x s => insQ (insD s x) fun c _ => wp (fldD C.fl f x) (fun v s => wp ((bo C e).1 env) (fun y s => wp (augD op v y) (fun z s => wp (sameC c x) (fun _ s => wp (setFldD C.fl f x z) (fun _ s => Q (.nx env) s) s) s) s) s) s) st := by
  unfold run
  rw [wp_bind]
  constructor
  · exact fun h => wp_mono h fun x s ⟨d, s2, e1, q⟩ => by
      unfold insQ
      dsimp only at e1
      split at e1
      · rename_i c fs hi
        try rw [hi]
        have : wp (M.bind (fldD C.fl f x) fun v => M.bind (ev C e env) fun y => M.bind (augD op v y) fun z => M.bind (sameC c x) fun _ => M.bind (setFldD C.fl f x z) fun _ st => R.ok (Fl.nx env) st) Q s := ⟨d, s2, e1, q⟩
        simpa only [wp_bind, wp_ret, wp_rt] using this
      · cases e1
  · exact fun h => wp_mono h fun x s q => by
      unfold insQ at q
      split at q
      · rename_i c fs hi
        have : wp (M.bind (fldD C.fl f x) fun v => M.bind (ev C e env) fun y => M.bind (augD op v y) fun z => M.bind (sameC c x) fun _ => M.bind (setFldD C.fl f x z) fun _ st => R.ok (Fl.nx env) st) Q s := by simpa only [wp_bind, wp_ret, wp_rt] using q
        obtain ⟨d, s2, e1, q⟩ := this
        exact ⟨d, s2, by simp only [hi]; exact e1, q⟩
      · exact q.elim
theorem x_sameC {c c2 : Str} {j : Nat} {fs : List (Str × D)} {QU : Unit → Store → Prop} (h : st[j]? = some (.ins c2 fs)) : wp (sameC c (.ob j)) QU st ↔ c2 = c ∧ QU () st := by
  unfold wp
  simp only [sameC, x_ins h]
  constructor
  · rintro ⟨a, s, e, q⟩
    split at e
    · rename_i hk; cases e; exact ⟨hk, q⟩
    · cases e
  · rintro ⟨hk, q⟩
    exact ⟨(), _, by rw [if_pos hk], q⟩
theorem x_augA {a b : Int} : wp (augD .Add (.int a) (.int b)) QD st ↔ QD (.int (a + b)) st := wp_ok rfl
theorem x_augS {a b : Int} : wp (augD .Sub (.int a) (.int b)) QD st ↔ QD (.int (a - b)) st := wp_ok rfl
def asgFQ (fl : Str → Str → Bool) (fs : List Str) (Q : Store → Prop) : Option (Option D) → D → Store → Prop
  | some (some x), .tup ds, s => wp (setFlds fl x fs ds) (fun _ s => Q s) s
  | _, _, _ => False
theorem asgFQ_eq {fl : Str → Str → Bool} {fs : List Str} {Q : Store → Prop} {x : D} {ds : List D} {s : Store} : asgFQ fl fs Q (some (some x)) (.tup ds) s = wp (setFlds fl x fs ds) (fun _ s => Q s) s := rfl
theorem wp_asgF {i : Nat} {fs : List Str} {e : Ex} : wp (run C (.asgF i fs e) env) Q st ↔ wp ((bo C e).1 env) (fun d s => asgFQ C.fl fs (fun s => Q (.nx env) s) env[i]? d s) st := by
  unfold run
  rw [wp_bind]
  have key : ∀ (d : D) (s : Store), wp (fun st => match env[i]?, d with | some (some x), .tup ds => M.bind (setFlds C.fl x fs ds) (fun _ st => R.ok (Fl.nx env) st) st | _, _ => .no) Q s ↔ asgFQ C.fl fs (fun s => Q (.nx env) s) env[i]? d s := by
    intro d s
    cases h : env[i]? with
    | none => exact ⟨fun ⟨r, s2, e1, q⟩ => (nomatch e1), fun z => z.elim⟩
    | some o =>
      cases o with
      | none => exact ⟨fun ⟨r, s2, e1, q⟩ => (nomatch e1), fun z => z.elim⟩
      | some x =>
        cases d with
        | tup ds =>
          rw [asgFQ_eq]
          show wp (M.bind (setFlds C.fl x fs ds) fun _ st => R.ok (Fl.nx env) st) Q s ↔ _
          simp only [wp_bind, wp_ret, wp_rt]
        | _ => exact ⟨fun ⟨r, s2, e1, q⟩ => (nomatch e1), fun z => z.elim⟩
  exact ⟨fun h => wp_mono h fun d s q => (key d s).mp q, fun h => wp_mono h fun d s q => (key d s).mpr q⟩
theorem x_setFlds0 {fl : Str → Str → Bool} {x : D} {QU : Unit → Store → Prop} : wp (setFlds fl x [] []) QU st ↔ QU () st := wp_ok rfl
theorem x_setFlds1 {fl : Str → Str → Bool} {x d : D} {f : Str} {fs : List Str} {ds : List D} {QU : Unit → Store → Prop} : wp (setFlds fl x (f :: fs) (d :: ds)) QU st ↔ wp (setFldD fl f x d) (fun _ s => wp (setFlds fl x fs ds) QU s) st := wp_bind
theorem wp_whil {n : Nat} {c : Ex} {b : Sms} : wp (run C (.whil n c b) env) Q st ↔ wp (loopW (bo C c).2 (runs C b) n env) Q st := by unfold run; exact Iff.rfl
theorem wp_zip {a b : Ex} : wp (srcE C (.zip a b) env) QS st ↔ wp ((bo C a).1 env) (fun x s => wp ((bo C b).1 env) (fun y s => wp (zipS x y) QS s) s) st := by
  unfold srcE; simp only [wp_bind]
theorem x_zipT {xs ys : List D} : wp (zipS (.tup xs) (.tup ys)) QS st ↔ QS (pairs2 xs ys, []) st := wp_ok rfl
theorem x_zipL {j i : Nat} {xs ys : List D} (h : st[j]? = some (.lst xs)) (h2 : st[i]? = some (.lst ys)) : wp (zipS (.ob j) (.ob i)) QS st ↔ QS (pairs2 xs ys, [(j, xs), (i, ys)]) st := wp_ok (by simp only [zipS, h, h2])
end
/-- a while by an invariant that tells how many turns are left at most -/
theorem loopW_inv {c : Env → M Bool} {b : Env → M Fl} {Q : Fl → Store → Prop} (I : Nat → Env → Store → Prop)
    (hs : ∀ n env s, I n env s → wp (c env) (fun r s => if r = true then ∃ k, n = k + 1 ∧ wp (b env) (fun fl s => match fl with | .nx e => I k e s | .ct e => I k e s | .bk e => Q (.nx e) s | .ret v => Q (.ret v) s) s else Q (.nx env) s) s) :
    ∀ (n m : Nat) (env : Env) (s : Store), I n env s → n < m → wp (loopW c b m env) Q s
  | n, 0, env, s, h, hl => absurd hl (Nat.not_lt_zero _)
  | n, m + 1, env, s, h, hl => by
    obtain ⟨r, s1, e1, q⟩ := hs n env s h
    cases r with
    | false =>
      rw [if_neg (by decide)] at q
      exact ⟨.nx env, s1, by simp only [loopW, M.bind, e1]; rfl, q⟩
    | true =>
      rw [if_pos rfl] at q
      obtain ⟨k, hk, fl, s2, e2, q⟩ := q
      cases fl with
      | nx e =>
        obtain ⟨f, s3, e3, q3⟩ := loopW_inv I hs k m e s2 q (by omega)
        exact ⟨f, s3, by simp only [loopW, M.bind, e1, if_true, e2]; exact e3, q3⟩
      | ct e =>
        obtain ⟨f, s3, e3, q3⟩ := loopW_inv I hs k m e s2 q (by omega)
        exact ⟨f, s3, by simp only [loopW, M.bind, e1, if_true, e2]; exact e3, q3⟩
      | bk e => exact ⟨.nx e, s2, by simp only [loopW, M.bind, e1, if_true, e2], q⟩
      | ret v => exact ⟨.ret v, s2, by simp only [loopW, M.bind, e1, if_true, e2], q⟩
end W9

/-! W9y: the hand of the laws -/
namespace W9
open PySem L2
def take_b : Sms :=
  (.cons (.ite (.cmp .Gt (.idx (.var 0) (.cst (.int 0))) (.cst (.int 0)))
    (.cons (.asg 4 (.bin .Mod (.idx (.var 0) (.cst (.int 0))) (.var 1)))
    (.cons (.setIx (.var 0) (.cst (.int 0)) (.bin .FloorDiv (.idx (.var 0) (.cst (.int 0))) (.var 1)))
    (.cons (.ret (.var 4))
    .nil)))
    .nil)
    (.cons (.setIx (.var 0) (.cst (.int 2)) (.bin .Add (.idx (.var 0) (.cst (.int 2))) (.cst (.int 1))))
    (.cons (.asg 2 (.idx (.var 0) (.cst (.int 2))))
    (.cons (.asg 3 (.bin .Mod (.bin .Mult (.bin .Add (.idx (.var 0) (.cst (.int 1))) (.bin .Mult (.cst (.int 39373)) (.var 2))) (.bin .Add (.cst (.int 48271)) (.bin .Mult (.var 2) (.var 2)))) (.cst (.int 2305843009213693921))))
    (.cons (.setIx (.var 0) (.cst (.int 1)) (.bin .Mod (.bin .Mult (.var 3) (.bin .Add (.bin .Mod (.var 3) (.cst (.int 1000003))) (.cst (.int 17)))) (.cst (.int 2305843009213693907))))
    (.cons (.ret (.bin .Mod (.bin .FloorDiv (.idx (.var 0) (.cst (.int 1))) (.cst (.int 131071))) (.var 1)))
    .nil))))))
/-- a hand lies at i, from which at most n numbers have been drawn -/
structure HandO (n : Int) (o : Ob) : Prop where
  ex : ∃ a b c : Int, o = .lst [.int a, .int b, .int c] ∧ 0 ≤ b ∧ b < 2 ^ 62 ∧ 0 ≤ c ∧ c ≤ n
theorem mulOk_left {i j : Int} (h1 : -(2 ^ 64) < i) (h2 : i < 2 ^ 64) : mulOk i j = true := by
  unfold mulOk
  simp only [decide_eq_true h1, decide_eq_true h2, Bool.and_self, Bool.true_or]
theorem mulOk_right {i j : Int} (h1 : -(2 ^ 64) < j) (h2 : j < 2 ^ 64) : mulOk i j = true := by
  unfold mulOk
  simp only [decide_eq_true h1, decide_eq_true h2, Bool.and_self, Bool.true_or, Bool.or_true]
theorem at3 {a b c : D} : atI [a, b, c] 0 = some a ∧ atI [a, b, c] 1 = some b ∧ atI [a, b, c] 2 = some c := ⟨rfl, rfl, rfl⟩
theorem take_ok {C : Cts} {i : Nat} {n m : Int} {o : Ob} {st : Store} (hi : st[i]? = some o) (ho : HandO n o) (hn : n < 2 ^ 40) (hm : 0 < m) (hm2 : m.natAbs.log2 < 9000) :
    ∃ r o', callDef C 5 take_b [.ob i, .int m] st = .ok (.int r) (st.set i o') ∧ HandO (n + 1) o' ∧ 0 ≤ r ∧ r < m := by
  obtain ⟨a, b, c, rfl, hb, hb2, hc, hcn⟩ := ho.ex
  have hlt : i < st.length := (List.getElem?_eq_some_iff.mp hi).1
  have key : wp (callDef C 5 take_b [.ob i, .int m]) (fun d s => ∃ r o', d = .int r ∧ s = st.set i o' ∧ HandO (n + 1) o' ∧ 0 ≤ r ∧ r < m) st := by
    unfold take_b
    simp only [wp_callDef, wp_cons, wp_nil, wp_asg, wp_expr, wp_retS, wp_retN, wp_iteS, wp_pass, wp_brk, wp_cont, wp_setIx, wp_augX, wp_asgT, wp_for, wp_varX, wp_cst, wp_bin, wp_cmp, wp_cmpT, wp_chainT, wp_andT, wp_orT, wp_notT, wp_iteE, wp_idx, wp_sl, wp_call, wp_callK, wp_call0, wp_globX, wp_dictX, wp_bi, wp_tup, wp_lst, wp_dict0, wp_meth, wp_lc, wp_evs_nil, wp_evs_cons, wp_evo_none, wp_evo_some, wp_seq, wp_enum, wp_rng1, wp_rng2, wp_idxT, wp_varT, wp_callT, wp_callKT, wp_biT, x_truB, tsto_none, tsto_some,
  seqQ_nx, seqQ_ret, seqQ_bk, seqQ_ct, endQ_ret, endQ_nx, varQ_some, lstQ_some, dctQ_some, optQ_some, blQ_bl, inQ_int, rgQ_int, rg2Q_int,
  x_eqSS, x_eqII, x_neSS, x_neII, str_we, str_ew, decide_true, decide_false, if_true, if_false, Bool.false_eq_true, reduceIte, x_addI, x_addT, x_addS, x_addL, x_subI, x_mulI, x_divI, x_modI, x_powI, x_ltI, x_leI, x_gtI, x_geI, x_is, x_isnot, x_isB, x_isNB, x_ixT, x_ixF, x_abs, x_lenT, x_lenF, x_intI, x_intB, x_max2, x_min2, x_seqT, x_seqF, x_slT, x_slF,
  List.map_cons, List.map_nil, List.length_cons, List.length_nil, List.cons_append, List.nil_append, List.replicate_succ, List.replicate_zero, Nat.reduceSub, Nat.reduceAdd, List.set_cons_zero, List.set_cons_succ, List.getElem?_cons_zero, List.getElem?_cons_succ, Nat.add_zero, Nat.zero_add, Nat.sub_self, decide_eq_true_eq, x_ixL hi, at3]
    by_cases ha : a > 0
    · simp only [if_pos ha]
      simp only [wp_callDef, wp_cons, wp_nil, wp_asg, wp_expr, wp_retS, wp_retN, wp_iteS, wp_pass, wp_brk, wp_cont, wp_setIx, wp_augX, wp_asgT, wp_for, wp_varX, wp_cst, wp_bin, wp_cmp, wp_cmpT, wp_chainT, wp_andT, wp_orT, wp_notT, wp_iteE, wp_idx, wp_sl, wp_call, wp_callK, wp_call0, wp_globX, wp_dictX, wp_bi, wp_tup, wp_lst, wp_dict0, wp_meth, wp_lc, wp_evs_nil, wp_evs_cons, wp_evo_none, wp_evo_some, wp_seq, wp_enum, wp_rng1, wp_rng2, wp_idxT, wp_varT, wp_callT, wp_callKT, wp_biT, x_truB, tsto_none, tsto_some,
  seqQ_nx, seqQ_ret, seqQ_bk, seqQ_ct, endQ_ret, endQ_nx, varQ_some, lstQ_some, dctQ_some, optQ_some, blQ_bl, inQ_int, rgQ_int, rg2Q_int,
  x_eqSS, x_eqII, x_neSS, x_neII, str_we, str_ew, decide_true, decide_false, if_true, if_false, Bool.false_eq_true, reduceIte, x_addI, x_addT, x_addS, x_addL, x_subI, x_mulI, x_divI, x_modI, x_powI, x_ltI, x_leI, x_gtI, x_geI, x_is, x_isnot, x_isB, x_isNB, x_ixT, x_ixF, x_abs, x_lenT, x_lenF, x_intI, x_intB, x_max2, x_min2, x_seqT, x_seqF, x_slT, x_slF,
  List.map_cons, List.map_nil, List.length_cons, List.length_nil, List.cons_append, List.nil_append, List.replicate_succ, List.replicate_zero, Nat.reduceSub, Nat.reduceAdd, List.set_cons_zero, List.set_cons_succ, List.getElem?_cons_zero, List.getElem?_cons_succ, Nat.add_zero, Nat.zero_add, Nat.sub_self, decide_eq_true_eq, x_ixL hi, at3, x_setL (n := 0) (k := 0) hi rfl]
      refine ⟨hm, ⟨hm, hm2⟩, a % m, _, rfl, rfl, ⟨_, _, _, rfl, hb, hb2, hc, by omega⟩, Int.emod_nonneg _ (by omega), Int.emod_lt_of_pos _ hm⟩
    · simp only [if_neg ha]
      have h2 : (st.set i (.lst [.int a, .int b, .int (c + 1)]))[i]? = some (.lst [.int a, .int b, .int (c + 1)]) := by simp [hlt]
      have h3 : ∀ z : D, ((st.set i (.lst [.int a, .int b, .int (c + 1)])).set i (.lst [.int a, z, .int (c + 1)]))[i]? = some (.lst [.int a, z, .int (c + 1)]) := fun z => by simp [hlt]
      simp only [wp_callDef, wp_cons, wp_nil, wp_asg, wp_expr, wp_retS, wp_retN, wp_iteS, wp_pass, wp_brk, wp_cont, wp_setIx, wp_augX, wp_asgT, wp_for, wp_varX, wp_cst, wp_bin, wp_cmp, wp_cmpT, wp_chainT, wp_andT, wp_orT, wp_notT, wp_iteE, wp_idx, wp_sl, wp_call, wp_callK, wp_call0, wp_globX, wp_dictX, wp_bi, wp_tup, wp_lst, wp_dict0, wp_meth, wp_lc, wp_evs_nil, wp_evs_cons, wp_evo_none, wp_evo_some, wp_seq, wp_enum, wp_rng1, wp_rng2, wp_idxT, wp_varT, wp_callT, wp_callKT, wp_biT, x_truB, tsto_none, tsto_some,
  seqQ_nx, seqQ_ret, seqQ_bk, seqQ_ct, endQ_ret, endQ_nx, varQ_some, lstQ_some, dctQ_some, optQ_some, blQ_bl, inQ_int, rgQ_int, rg2Q_int,
  x_eqSS, x_eqII, x_neSS, x_neII, str_we, str_ew, decide_true, decide_false, if_true, if_false, Bool.false_eq_true, reduceIte, x_addI, x_addT, x_addS, x_addL, x_subI, x_mulI, x_divI, x_modI, x_powI, x_ltI, x_leI, x_gtI, x_geI, x_is, x_isnot, x_isB, x_isNB, x_ixT, x_ixF, x_abs, x_lenT, x_lenF, x_intI, x_intB, x_max2, x_min2, x_seqT, x_seqF, x_slT, x_slF,
  List.map_cons, List.map_nil, List.length_cons, List.length_nil, List.cons_append, List.nil_append, List.replicate_succ, List.replicate_zero, Nat.reduceSub, Nat.reduceAdd, List.set_cons_zero, List.set_cons_succ, List.getElem?_cons_zero, List.getElem?_cons_succ, Nat.add_zero, Nat.zero_add, Nat.sub_self, decide_eq_true_eq, x_ixL hi, at3, x_setL (n := 2) (k := 2) hi rfl, x_ixL h2, x_setL (n := 1) (k := 1) h2 rfl, x_ixL (h3 _)]
      have m1 : mulOk 39373 (c + 1) = true := mulOk_left (by decide) (by decide)
      have m2 : mulOk (c + 1) (c + 1) = true := mulOk_left (by omega) (by omega)
      have m3 : mulOk (b + 39373 * (c + 1)) (48271 + (c + 1) * (c + 1)) = true := mulOk_left (by omega) (by omega)
      have e1 : 0 ≤ (b + 39373 * (c + 1)) * (48271 + (c + 1) * (c + 1)) % 2305843009213693921 := Int.emod_nonneg _ (by decide)
      have e2 : (b + 39373 * (c + 1)) * (48271 + (c + 1) * (c + 1)) % 2305843009213693921 < 2305843009213693921 := Int.emod_lt_of_pos _ (by decide)
      refine ⟨m1, m2, m3, by decide, by decide, mulOk_left (by omega) (by omega), by decide, ⟨by decide, by decide⟩, hm, _, _, rfl, List.set_set .., ⟨_, _, _, rfl, Int.emod_nonneg _ (by decide), ?_, by omega, by omega⟩, Int.emod_nonneg _ (by omega), Int.emod_lt_of_pos _ hm⟩
      exact Int.lt_trans (Int.emod_lt_of_pos _ (by decide)) (by decide)
  obtain ⟨d, s, e, r, o', rfl, rfl, h⟩ := key
  exact ⟨r, o', e, h⟩
end W9

/-! W9z: stores that grow, texts of data, dicts -/
namespace W9
open PySem L2
section
variable {C : Cts} {QD : D → Store → Prop} {st : Store}
theorem x_eqP {a b : D} {p q : PyData} (h : scalD a b = false) (h1 : pyD st a = some p) (h2 : pyD st b = some q) (h3 : SeqAt.shaped p = true) (h4 : SeqAt.shaped q = true) : wp (cmpD .Eq a b) QD st ↔ QD (.bl (PyData.eqv p q)) st :=
  wp_ok (by simp only [cmpD, eqD, h, h1, h2, h3, h4, and_self, if_true, if_false, Bool.false_eq_true])
theorem x_neP {a b : D} {p q : PyData} (h : scalD a b = false) (h1 : pyD st a = some p) (h2 : pyD st b = some q) (h3 : SeqAt.shaped p = true) (h4 : SeqAt.shaped q = true) : wp (cmpD .NotEq a b) QD st ↔ QD (.bl (!PyData.eqv p q)) st :=
  wp_ok (by simp only [cmpD, eqD, h, h1, h2, h3, h4, and_self, if_true, if_false, Bool.false_eq_true])
end
/-! ### dicts -/
theorem getKv_nil (k : D) : getKv [] k = none := rfl
theorem getKv_cons (k k1 d : D) (r : List (D × D)) : getKv ((k1, d) :: r) k = if k1 = k then some d else getKv r k := by
  unfold getKv
  rw [List.find?_cons]
  by_cases h : k1 = k
  · simp [h]
  · simp [h]
theorem getKv_append (k : D) : ∀ (l r : List (D × D)), getKv (l ++ r) k = (getKv l k).or (getKv r k)
  | [], r => by simp [getKv_nil]
  | (k1, d) :: l, r => by
    rw [List.cons_append, getKv_cons, getKv_cons, getKv_append k l r]
    split <;> simp
theorem getKv_any {k : D} : ∀ {l : List (D × D)}, (l.any fun kv => decide (kv.1 = k)) = (getKv l k).isSome
  | [] => rfl
  | (k1, d) :: l => by
    rw [List.any_cons, getKv_cons, getKv_any (l := l)]
    by_cases h : k1 = k <;> simp [h]
theorem getKv_put (k k' d : D) (l : List (D × D)) : getKv (putKv l k d) k' = if k = k' then some d else getKv l k' := by
  unfold putKv
  split
  · rename_i h
    induction l with
    | nil => simp at h
    | cons p l ih =>
      obtain ⟨k1, d1⟩ := p
      rw [List.map_cons]
      by_cases h1 : k1 = k
      · simp only [h1, if_true]
        rw [getKv_cons, getKv_cons]
        by_cases h2 : k = k'
        · simp [h2]
        · simp only [if_neg h2]
          clear ih h
          induction l with
          | nil => rfl
          | cons q l ih =>
            obtain ⟨k2, d2⟩ := q
            rw [List.map_cons]
            by_cases h3 : k2 = k
            · simp only [h3, if_true]
              rw [getKv_cons, getKv_cons, if_neg h2, if_neg h2]; exact ih
            · simp only [if_neg h3]
              rw [getKv_cons, getKv_cons, ih]
      · simp only [if_neg h1]
        have h' : (l.any fun kv => decide (kv.1 = k)) = true := by simpa [h1] using h
        rw [getKv_cons, getKv_cons, ih h']
        by_cases h2 : k1 = k'
        · subst h2
          simp [Ne.symm h1]
        · simp [h2]
  · rename_i h
    rw [getKv_append, getKv_cons, getKv_nil]
    have hn : getKv l k = none := by
      rw [getKv_any] at h
      cases hg : getKv l k with
      | none => rfl
      | some x => rw [hg] at h; simp at h
    by_cases h2 : k = k'
    · subst h2; rw [hn]; simp
    · simp [h2]
theorem putKv_len (l : List (D × D)) (k d : D) : (putKv l k d).length ≤ l.length + 1 := by
  unfold putKv
  split <;> simp
/-- all keys are texts -/
def keysS (l : List (D × D)) : Prop := ∀ p ∈ l, ∃ s, p.1 = .str s
theorem kind_strs {l : List (D × D)} (h : keysS l) (s : Str) : kindOk l (.str s) = true := by
  cases l with
  | nil => rfl
  | cons p r =>
    obtain ⟨k, d⟩ := p
    obtain ⟨z, hz⟩ := h _ List.mem_cons_self
    have hz' : k = .str z := hz
    subst hz'
    rfl
theorem keysS_put {l : List (D × D)} (h : keysS l) (s : Str) (d : D) : keysS (putKv l (.str s) d) := by
  unfold putKv
  split
  · intro p hp
    obtain ⟨q, hq, rfl⟩ := List.mem_map.mp hp
    obtain ⟨z, hz⟩ := h q hq
    refine ⟨z, ?_⟩
    split <;> exact hz
  · intro p hp
    rcases List.mem_append.mp hp with hp | hp
    · exact h p hp
    · rw [List.mem_singleton.mp hp]; exact ⟨s, rfl⟩
/-- all keys are (text, number) -/
def keysP (l : List (D × D)) : Prop := ∀ p ∈ l, ∃ s i, p.1 = .tup [.str s, .int i] ∧ (s = "book" → i ≠ 0)
theorem keyT_pair {s : Str} {i : Int} (h : s = "book" → i ≠ 0) : (keyT (.tup [.str s, .int i])).isSome = true := by
  have : ¬ ([D.str s, D.int i] = bookD) := by
    intro e
    simp only [bookD, List.cons.injEq, D.str.injEq, D.int.injEq, and_true] at e
    exact h e.1 e.2
  simp only [keyT, if_neg this, keysD, keyD]
  rfl
theorem kind_pairs {l : List (D × D)} (h : keysP l) {s : Str} {i : Int} (hs : s = "book" → i ≠ 0) : kindOk l (.tup [.str s, .int i]) = true := by
  cases l with
  | nil => simp only [kindOk, keyT_pair hs, Bool.or_true]
  | cons p r =>
    obtain ⟨k, d⟩ := p
    obtain ⟨z, j, hz, hz2⟩ := h _ List.mem_cons_self
    have hz' : k = .tup [.str z, .int j] := hz
    subst hz'
    simp only [kindOk, keyT_pair hs, keyT_pair hz2, Bool.and_self, Bool.or_true]
theorem keysP_put {l : List (D × D)} (h : keysP l) {s : Str} {i : Int} (hs : s = "book" → i ≠ 0) (d : D) : keysP (putKv l (.tup [.str s, .int i]) d) := by
  unfold putKv
  split
  · intro p hp
    obtain ⟨q, hq, rfl⟩ := List.mem_map.mp hp
    obtain ⟨z, j, hz⟩ := h q hq
    refine ⟨z, j, ?_⟩
    split <;> exact hz
  · intro p hp
    rcases List.mem_append.mp hp with hp | hp
    · exact h p hp
    · rw [List.mem_singleton.mp hp]; exact ⟨s, i, rfl, hs⟩
/-! ### the text of data -/
mutual
def rsz : PyData → Nat
  | .none => 4
  | .bool _ => 5
  | .int _ => 1921
  | .str x => 10 * x.length + 2
  | .list xs => rszs xs + 3
  | .tuple xs => rszs xs + 3
  | .dict _ => 0
def rszs : List PyData → Nat
  | [] => 0
  | x :: xs => rsz x + 2 + rszs xs
end
theorem join_le (ts : List Str) : (Str.join ", " ts).length ≤ piled ts := by
  by_cases h : ts = []
  · subst h; exact Nat.le_refl 0
  · have := join_length_add ts h; omega
theorem tupText_le (ts : List Str) : (tupleText ts).length ≤ piled ts + 3 := by
  unfold tupleText
  rw [strLen_append, strLen_append]
  have e1 : ((("(" : String) : Str)).length = 1 := rfl
  have e3 : (((if ts.length == 1 then ",)" else ")" : String) : Str)).length ≤ 2 := by split <;> decide
  have := join_le ts
  omega
theorem lstText_le (ts : List Str) : (listText ts).length ≤ piled ts + 3 := by
  cases ts with
  | nil => decide
  | cons t r =>
    have h := textFrom_length_pos r 1 (("[" : Str) ++ (if (0 : Nat) > 0 then ", " else "" : String) ++ t) (Nat.succ_pos 0)
    have z : (listText (t :: r)).length = (textFrom 1 (("[" : Str) ++ (if (0 : Nat) > 0 then ", " else "" : String) ++ t) r).length + 1 := strLen_append _ _
    rw [z, h, strLen_append, strLen_append, piled_cons]
    have e1 : ((("[" : String) : Str)).length = 1 := rfl
    have e2 : ((((if (0 : Nat) > 0 then ", " else "" : String) : String) : Str)).length = 0 := rfl
    omega
mutual
theorem shown_le : ∀ d : PyData, d.canLay0 = true → d.showable = true → d.shown.length ≤ rsz d
  | .none, _, _ => by decide
  | .bool b, _, _ => by cases b <;> decide
  | .int i, _, h => by
    simp only [PyData.showable, decide_eq_true_eq] at h
    have := PySem.int_text_length_le (a := i) (k := 1920) (by decide) h
    simp only [PyData.shown, rsz]
    exact Nat.le_trans (Nat.le_of_eq (ofString_length _)) this
  | .str x, h, _ => by
    simp only [PyData.shown, rsz]
    refine StrLaws.reprText_len x fun c hc => ?_
    simp only [PyData.canLay0, PyData.strOk] at h
    rw [Array.all_eq_true_iff_forall_mem] at h
    have := h c (by simpa using hc)
    have h2 := of_decide_eq_true this
    exact Nat.lt_trans h2 (by decide)
  | .tuple xs, h, h2 => by
    simp only [PyData.shown, rsz]
    have := showns_le xs (by simpa [PyData.canLay0] using h) (by simpa [PyData.showable] using h2) 
    exact Nat.le_trans (tupText_le _) (by omega)
  | .list xs, h, h2 => by
    simp only [PyData.shown, rsz]
    have := showns_le xs (by simpa [PyData.canLay0] using h) (by simpa [PyData.showable] using h2)
    exact Nat.le_trans (lstText_le _) (by omega)
  | .dict _, h, _ => by simp [PyData.canLay0] at h
theorem showns_le : ∀ ds : List PyData, PyData.canLayAll0 ds = true → PyData.showableAll ds = true → piled (PyData.shownAll ds) ≤ rszs ds
  | [], _, _ => Nat.le_refl 0
  | d :: ds, h, h2 => by
    simp only [PyData.canLayAll0, Bool.and_eq_true] at h
    simp only [PyData.showableAll, Bool.and_eq_true] at h2
    simp only [PyData.shownAll, piled_cons, rszs]
    have a := shown_le d h.1 h2.1
    have b := showns_le ds h.2 h2.2
    omega
end
/-- repr of data that is not too big -/
theorem x_repr {QD : D → Store → Prop} {st : Store} {d : D} {p : PyData} (h1 : pyD st d = some p) (h2 : p.canLay0 = true) (h3 : p.showable = true) (h4 : p.depth ≤ 60) (h5 : rsz p ≤ bigN) : wp (biD .repr [d]) QD st ↔ QD (.str p.shown) st :=
  wp_ok (by
    have := Nat.le_trans (shown_le p h2 h3) h5
    simp only [biD, h1, h2, h3, h4, this, and_self, if_true])
/-! ### the hand in a growing store -/
structure HandA (i : Nat) (n : Int) (s : Store) : Prop where
  ex : ∃ o, s[i]? = some o ∧ HandO n o
/-- all but what stands at ks is as it was -/
structure Kp (ks : List Nat) (s s' : Store) : Prop where
  len : s.length ≤ s'.length
  at' : ∀ k o, k ∉ ks → s[k]? = some o → s'[k]? = some o
theorem Kp.refl (ks : List Nat) (s : Store) : Kp ks s s := ⟨Nat.le_refl _, fun _ _ _ h => h⟩
theorem Kp.trans {ks : List Nat} {s s1 s2 : Store} (a : Kp ks s s1) (b : Kp ks s1 s2) : Kp ks s s2 := ⟨Nat.le_trans a.len b.len, fun k o n h => b.at' k o n (a.at' k o n h)⟩
theorem Kp.more {ks ks' : List Nat} {s s1 : Store} (a : Kp ks s s1) (h : ∀ k ∈ ks, k ∈ ks') : Kp ks' s s1 := ⟨a.len, fun k o n e => a.at' k o (fun z => n (h k z)) e⟩
theorem Kp.app (ks : List Nat) (s t : Store) : Kp ks s (s ++ t) := ⟨by simp, fun k o _ h => by rw [List.getElem?_append_left (List.getElem?_eq_some_iff.mp h).1]; exact h⟩
theorem Kp.pre {s s' : Store} (h : s <+: s') (ks : List Nat) : Kp ks s s' := by obtain ⟨t, rfl⟩ := h; exact Kp.app ks s t
theorem Kp.set {ks : List Nat} {s : Store} {k : Nat} {o : Ob} (h : k ∈ ks) : Kp ks s (s.set k o) := ⟨by simp, fun j o' n e => by rw [List.getElem?_set_ne (fun z => n (by rw [← z]; exact h))]; exact e⟩
theorem HandA.kp {i : Nat} {n : Int} {ks : List Nat} {s s' : Store} (a : HandA i n s) (h : Kp ks s s') (hi : i ∉ ks) : HandA i n s' := let ⟨o, e, q⟩ := a.ex; ⟨o, h.at' i o hi e, q⟩
theorem HandA.app {i : Nat} {n : Int} {s : Store} (a : HandA i n s) (t : Store) : HandA i n (s ++ t) := a.kp (ks := []) (Kp.app _ _ _) (by simp)
theorem HandA.lt {i : Nat} {n : Int} {s : Store} (a : HandA i n s) : i < s.length := let ⟨o, e, q⟩ := a.ex; (List.getElem?_eq_some_iff.mp e).1
theorem HandO.mono {m n : Int} {o : Ob} (a : HandO m o) (h : m ≤ n) : HandO n o := let ⟨x, y, z, e, h1, h2, h3, h4⟩ := a.ex; ⟨x, y, z, e, h1, h2, h3, by omega⟩
theorem HandA.mono {i : Nat} {m n : Int} {s : Store} (a : HandA i m s) (h : m ≤ n) : HandA i n s := let ⟨o, e, q⟩ := a.ex; ⟨o, e, q.mono h⟩
theorem log_small {m : Int} (h0 : 0 < m) (h : m < 2 ^ 200) : m.natAbs.log2 < 9000 := by
  have h1 : m.natAbs < 2 ^ 200 := by
    have : (m.natAbs : Int) < 2 ^ 200 := by rw [Int.natAbs_of_nonneg (by omega)]; exact h
    exact_mod_cast this
  have := (Nat.log2_lt (by omega)).mpr h1
  omega
theorem take_wp {C : Cts} {i : Nat} {n m : Int} {st : Store} {QD : D → Store → Prop} (hi : HandA i n st) (hn : n < 2 ^ 40) (hm : 0 < m) (hm2 : m < 2 ^ 62)
    (h : ∀ r s', HandA i (n + 1) s' → Kp [i] st s' → 0 ≤ r → r < m → QD (.int r) s') : wp (callDef C 5 take_b [.ob i, .int m]) QD st := by
  obtain ⟨o, ho, hh⟩ := hi.ex
  have hlt := hi.lt
  obtain ⟨r, o', e, h1, h2, h3⟩ := take_ok (C := C) ho hh hn hm (log_small hm (Int.lt_trans hm2 (by decide)))
  exact ⟨.int r, st.set i o', e, h r _ ⟨o', by simp [hlt], h1⟩ (Kp.set (by simp)) h2 h3⟩
def hand_b : Sms :=
  (.cons (.asg 2 (.cst (.int 0)))
    (.cons (.ite (.cmp .Lt (.var 1) (.bi .len (.cons (.var 0) .nil)))
    (.cons (.asg 2 (.bi .abs (.cons (.idx (.var 0) (.var 1)) .nil)))
    .nil)
    .nil)
    (.cons (.asg 3 (.ite (.cmp .GtE (.var 2) (.bin .Pow (.cst (.int 10)) (.cst (.int 18)))) (.bin .Mod (.var 2) (.bin .Pow (.bin .Pow (.cst (.int 10)) (.cst (.int 60))) (.cst (.int 17)))) (.cst (.int 0))))
    (.cons (.ret (.lst (.cons (.var 3) (.cons (.bin .Add (.bin .Add (.bin .Mod (.var 2) (.cst (.int 2305843009213693951))) (.bin .Mult (.cst (.int 7919)) (.var 1))) (.cst (.int 11))) (.cons (.cst (.int 0)) .nil)))))
    .nil))))
theorem atI_nat {α : Type} {xs : List α} {k : Int} (h0 : 0 ≤ k) (h1 : k < xs.length) : ∃ x, atI xs k = some x ∧ x ∈ xs ∧ xs[k.toNat]? = some x := by
  have hl : k.toNat < xs.length := by omega
  refine ⟨xs[k.toNat], ?_, List.getElem_mem hl, List.getElem?_eq_getElem hl⟩
  unfold atI ixN
  rw [if_pos h0, if_pos h1]
  exact List.getElem?_eq_getElem hl
theorem hand_wp {C : Cts} {ns : List Int} {k : Int} {st : Store} {QD : D → Store → Prop} (h0 : 0 ≤ k) (h1 : k < 1000)
    (h : ∀ o, HandO 0 o → QD (.ob st.length) (st ++ [o])) : wp (callDef C 4 hand_b [.fls (ns.map D.int), .int k]) QD st := by
  have key : ∀ c : Int, 0 ≤ c → ∀ x3 : Option D, wp (runs C (.cons (.asg 3 (.ite (.cmp .GtE (.var 2) (.bin .Pow (.cst (.int 10)) (.cst (.int 18)))) (.bin .Mod (.var 2) (.bin .Pow (.bin .Pow (.cst (.int 10)) (.cst (.int 60))) (.cst (.int 17)))) (.cst (.int 0))))
    (.cons (.ret (.lst (.cons (.var 3) (.cons (.bin .Add (.bin .Add (.bin .Mod (.var 2) (.cst (.int 2305843009213693951))) (.bin .Mult (.cst (.int 7919)) (.var 1))) (.cst (.int 11))) (.cons (.cst (.int 0)) .nil)))))
    .nil)) [some (.fls (ns.map D.int)), some (.int k), some (.int c), x3]) (endQ QD) st := by
    intro c hc x3
    have fin : ∀ d : Int, ∃ a b c0 : Int, Ob.lst [.int d, .int (c % 2305843009213693951 + 7919 * k + 11), .int 0] = .lst [.int a, .int b, .int c0] ∧ 0 ≤ b ∧ b < 2 ^ 62 ∧ 0 ≤ c0 ∧ c0 ≤ 0 := by
      intro d
      have e1 : 0 ≤ c % 2305843009213693951 := Int.emod_nonneg _ (by decide)
      have e2 : c % 2305843009213693951 < 2305843009213693951 := Int.emod_lt_of_pos _ (by decide)
      exact ⟨d, _, 0, rfl, by omega, by omega, by omega, by omega⟩
    have m1 : mulOk 7919 k = true := mulOk_left (by decide) (by decide)
    have p1 : (0 : Int) ≤ 18 ∧ (Builtin.Int.intBits 10 : Int) * 18 ≤ 2 ^ 27 := by decide +kernel
    have p2 : (0 : Int) ≤ 60 ∧ (Builtin.Int.intBits 10 : Int) * 60 ≤ 2 ^ 27 := by decide +kernel
    have p3 : (0 : Int) ≤ 17 ∧ (Builtin.Int.intBits (10 ^ (60 : Int).toNat) : Int) * 17 ≤ 2 ^ 27 := by decide +kernel
    have p4 : (0 : Int) < (10 ^ (60 : Int).toNat) ^ (17 : Int).toNat := by decide +kernel
    simp only [wp_callDef, wp_cons, wp_nil, wp_asg, wp_expr, wp_retS, wp_retN, wp_iteS, wp_pass, wp_brk, wp_cont, wp_setIx, wp_augX, wp_asgT, wp_for, wp_varX, wp_cst, wp_bin, wp_cmp, wp_cmpT, wp_chainT, wp_andT, wp_orT, wp_notT, wp_iteE, wp_idx, wp_sl, wp_call, wp_callK, wp_call0, wp_globX, wp_dictX, wp_bi, wp_tup, wp_lst, wp_dict0, wp_meth, wp_lc, wp_evs_nil, wp_evs_cons, wp_evo_none, wp_evo_some, wp_seq, wp_enum, wp_rng1, wp_rng2, wp_idxT, wp_varT, wp_callT, wp_callKT, wp_biT, x_truB, tsto_none, tsto_some,
  seqQ_nx, seqQ_ret, seqQ_bk, seqQ_ct, endQ_ret, endQ_nx, varQ_some, lstQ_some, dctQ_some, optQ_some, blQ_bl, inQ_int, rgQ_int, rg2Q_int,
  x_eqSS, x_eqII, x_neSS, x_neII, str_we, str_ew, decide_true, decide_false, if_true, if_false, Bool.false_eq_true, reduceIte, x_addI, x_addT, x_addS, x_addL, x_subI, x_mulI, x_divI, x_modI, x_powI, x_ltI, x_leI, x_gtI, x_geI, x_is, x_isnot, x_isB, x_isNB, x_ixT, x_ixF, x_abs, x_lenT, x_lenF, x_intI, x_intB, x_max2, x_min2, x_seqT, x_seqF, x_slT, x_slF,
  List.map_cons, List.map_nil, List.length_cons, List.length_nil, List.cons_append, List.nil_append, List.replicate_succ, List.replicate_zero, Nat.reduceSub, Nat.reduceAdd, List.set_cons_zero, List.set_cons_succ, List.getElem?_cons_zero, List.getElem?_cons_succ, Nat.add_zero, Nat.zero_add, Nat.sub_self, decide_eq_true_eq]
    refine ⟨p1, ?_⟩
    split
    · refine ⟨p2, p3, p4, by decide, m1, by decide, h _ ⟨fin _⟩⟩
    · refine ⟨by decide, m1, by decide, h _ ⟨fin _⟩⟩
  unfold hand_b
  simp only [wp_callDef, wp_cons, wp_nil, wp_asg, wp_expr, wp_retS, wp_retN, wp_iteS, wp_pass, wp_brk, wp_cont, wp_setIx, wp_augX, wp_asgT, wp_for, wp_varX, wp_cst, wp_bin, wp_cmp, wp_cmpT, wp_chainT, wp_andT, wp_orT, wp_notT, wp_iteE, wp_idx, wp_sl, wp_call, wp_callK, wp_call0, wp_globX, wp_dictX, wp_bi, wp_tup, wp_lst, wp_dict0, wp_meth, wp_lc, wp_evs_nil, wp_evs_cons, wp_evo_none, wp_evo_some, wp_seq, wp_enum, wp_rng1, wp_rng2, wp_idxT, wp_varT, wp_callT, wp_callKT, wp_biT, x_truB, tsto_none, tsto_some,
  seqQ_nx, seqQ_ret, seqQ_bk, seqQ_ct, endQ_ret, endQ_nx, varQ_some, lstQ_some, dctQ_some, optQ_some, blQ_bl, inQ_int, rgQ_int, rg2Q_int,
  x_eqSS, x_eqII, x_neSS, x_neII, str_we, str_ew, decide_true, decide_false, if_true, if_false, Bool.false_eq_true, reduceIte, x_addI, x_addT, x_addS, x_addL, x_subI, x_mulI, x_divI, x_modI, x_powI, x_ltI, x_leI, x_gtI, x_geI, x_is, x_isnot, x_isB, x_isNB, x_ixT, x_ixF, x_abs, x_lenT, x_lenF, x_intI, x_intB, x_max2, x_min2, x_seqT, x_seqF, x_slT, x_slF,
  List.map_cons, List.map_nil, List.length_cons, List.length_nil, List.cons_append, List.nil_append, List.replicate_succ, List.replicate_zero, Nat.reduceSub, Nat.reduceAdd, List.set_cons_zero, List.set_cons_succ, List.getElem?_cons_zero, List.getElem?_cons_succ, Nat.add_zero, Nat.zero_add, Nat.sub_self, decide_eq_true_eq]
  split
  · rename_i hlt
    simp only [List.length_map] at hlt
    obtain ⟨x, hx, hm, _⟩ := atI_nat (xs := ns.map D.int) h0 (by simpa using hlt)
    obtain ⟨z, hz, rfl⟩ := List.mem_map.mp hm
    simp only [wp_callDef, wp_cons, wp_nil, wp_asg, wp_expr, wp_retS, wp_retN, wp_iteS, wp_pass, wp_brk, wp_cont, wp_setIx, wp_augX, wp_asgT, wp_for, wp_varX, wp_cst, wp_bin, wp_cmp, wp_cmpT, wp_chainT, wp_andT, wp_orT, wp_notT, wp_iteE, wp_idx, wp_sl, wp_call, wp_callK, wp_call0, wp_globX, wp_dictX, wp_bi, wp_tup, wp_lst, wp_dict0, wp_meth, wp_lc, wp_evs_nil, wp_evs_cons, wp_evo_none, wp_evo_some, wp_seq, wp_enum, wp_rng1, wp_rng2, wp_idxT, wp_varT, wp_callT, wp_callKT, wp_biT, x_truB, tsto_none, tsto_some,
  seqQ_nx, seqQ_ret, seqQ_bk, seqQ_ct, endQ_ret, endQ_nx, varQ_some, lstQ_some, dctQ_some, optQ_some, blQ_bl, inQ_int, rgQ_int, rg2Q_int,
  x_eqSS, x_eqII, x_neSS, x_neII, str_we, str_ew, decide_true, decide_false, if_true, if_false, Bool.false_eq_true, reduceIte, x_addI, x_addT, x_addS, x_addL, x_subI, x_mulI, x_divI, x_modI, x_powI, x_ltI, x_leI, x_gtI, x_geI, x_is, x_isnot, x_isB, x_isNB, x_ixT, x_ixF, x_abs, x_lenT, x_lenF, x_intI, x_intB, x_max2, x_min2, x_seqT, x_seqF, x_slT, x_slF,
  List.map_cons, List.map_nil, List.length_cons, List.length_nil, List.cons_append, List.nil_append, List.replicate_succ, List.replicate_zero, Nat.reduceSub, Nat.reduceAdd, List.set_cons_zero, List.set_cons_succ, List.getElem?_cons_zero, List.getElem?_cons_succ, Nat.add_zero, Nat.zero_add, Nat.sub_self, decide_eq_true_eq, hx]
    have := key (if z < 0 then -z else z) (by split <;> omega) none
    simp only [wp_callDef, wp_cons, wp_nil, wp_asg, wp_expr, wp_retS, wp_retN, wp_iteS, wp_pass, wp_brk, wp_cont, wp_setIx, wp_augX, wp_asgT, wp_for, wp_varX, wp_cst, wp_bin, wp_cmp, wp_cmpT, wp_chainT, wp_andT, wp_orT, wp_notT, wp_iteE, wp_idx, wp_sl, wp_call, wp_callK, wp_call0, wp_globX, wp_dictX, wp_bi, wp_tup, wp_lst, wp_dict0, wp_meth, wp_lc, wp_evs_nil, wp_evs_cons, wp_evo_none, wp_evo_some, wp_seq, wp_enum, wp_rng1, wp_rng2, wp_idxT, wp_varT, wp_callT, wp_callKT, wp_biT, x_truB, tsto_none, tsto_some,
  seqQ_nx, seqQ_ret, seqQ_bk, seqQ_ct, endQ_ret, endQ_nx, varQ_some, lstQ_some, dctQ_some, optQ_some, blQ_bl, inQ_int, rgQ_int, rg2Q_int,
  x_eqSS, x_eqII, x_neSS, x_neII, str_we, str_ew, decide_true, decide_false, if_true, if_false, Bool.false_eq_true, reduceIte, x_addI, x_addT, x_addS, x_addL, x_subI, x_mulI, x_divI, x_modI, x_powI, x_ltI, x_leI, x_gtI, x_geI, x_is, x_isnot, x_isB, x_isNB, x_ixT, x_ixF, x_abs, x_lenT, x_lenF, x_intI, x_intB, x_max2, x_min2, x_seqT, x_seqF, x_slT, x_slF,
  List.map_cons, List.map_nil, List.length_cons, List.length_nil, List.cons_append, List.nil_append, List.replicate_succ, List.replicate_zero, Nat.reduceSub, Nat.reduceAdd, List.set_cons_zero, List.set_cons_succ, List.getElem?_cons_zero, List.getElem?_cons_succ, Nat.add_zero, Nat.zero_add, Nat.sub_self, decide_eq_true_eq] at this
    exact this
  · have := key 0 (by omega) none
    simp only [wp_callDef, wp_cons, wp_nil, wp_asg, wp_expr, wp_retS, wp_retN, wp_iteS, wp_pass, wp_brk, wp_cont, wp_setIx, wp_augX, wp_asgT, wp_for, wp_varX, wp_cst, wp_bin, wp_cmp, wp_cmpT, wp_chainT, wp_andT, wp_orT, wp_notT, wp_iteE, wp_idx, wp_sl, wp_call, wp_callK, wp_call0, wp_globX, wp_dictX, wp_bi, wp_tup, wp_lst, wp_dict0, wp_meth, wp_lc, wp_evs_nil, wp_evs_cons, wp_evo_none, wp_evo_some, wp_seq, wp_enum, wp_rng1, wp_rng2, wp_idxT, wp_varT, wp_callT, wp_callKT, wp_biT, x_truB, tsto_none, tsto_some,
  seqQ_nx, seqQ_ret, seqQ_bk, seqQ_ct, endQ_ret, endQ_nx, varQ_some, lstQ_some, dctQ_some, optQ_some, blQ_bl, inQ_int, rgQ_int, rg2Q_int,
  x_eqSS, x_eqII, x_neSS, x_neII, str_we, str_ew, decide_true, decide_false, if_true, if_false, Bool.false_eq_true, reduceIte, x_addI, x_addT, x_addS, x_addL, x_subI, x_mulI, x_divI, x_modI, x_powI, x_ltI, x_leI, x_gtI, x_geI, x_is, x_isnot, x_isB, x_isNB, x_ixT, x_ixF, x_abs, x_lenT, x_lenF, x_intI, x_intB, x_max2, x_min2, x_seqT, x_seqF, x_slT, x_slF,
  List.map_cons, List.map_nil, List.length_cons, List.length_nil, List.cons_append, List.nil_append, List.replicate_succ, List.replicate_zero, Nat.reduceSub, Nat.reduceAdd, List.set_cons_zero, List.set_cons_succ, List.getElem?_cons_zero, List.getElem?_cons_succ, Nat.add_zero, Nat.zero_add, Nat.sub_self, decide_eq_true_eq] at this
    exact this
end W9

/-! Y1: views of a store, rules that go by them -/
namespace W9
open PySem L2
def At (s : Store) : List (Nat × Ob) → Prop
  | [] => True
  | p :: L => s[p.1]? = some p.2 ∧ (∀ q ∈ L, q.1 ≠ p.1) ∧ At s L
theorem At.get : ∀ {L : List (Nat × Ob)} {s : Store} (h : At s L) (k : Nat) {i : Nat} {o : Ob}, L[k]? = some (i, o) → s[i]? = some o
  | [], _, _, _, _, _, e => by simp at e
  | p :: L, s, h, 0, i, o, e => by
    simp only [List.getElem?_cons_zero, Option.some.injEq] at e
    subst e
    exact h.1
  | p :: L, s, h, k + 1, i, o, e => At.get h.2.2 k (by simpa using e)
theorem At.keep : ∀ {L : List (Nat × Ob)} {s s' : Store}, (∀ p ∈ L, s'[p.1]? = s[p.1]?) → At s L → At s' L
  | [], _, _, _, _ => True.intro
  | p :: L, s, s', e, h => ⟨(e p List.mem_cons_self).trans h.1, h.2.1, At.keep (fun q hq => e q (List.mem_cons_of_mem _ hq)) h.2.2⟩
theorem At.set : ∀ {L : List (Nat × Ob)} {s : Store} (h : At s L) (k : Nat) {i : Nat} {o0 : Ob} (o : Ob), L[k]? = some (i, o0) → At (s.set i o) (L.set k (i, o))
  | [], _, _, _, _, _, _, e => by simp at e
  | p :: L, s, h, 0, i, o0, o, e => by
    simp only [List.getElem?_cons_zero, Option.some.injEq] at e
    subst e
    have hi : i < s.length := (List.getElem?_eq_some_iff.mp h.1).1
    refine ⟨by simp [hi], h.2.1, At.keep (fun q hq => ?_) h.2.2⟩
    exact List.getElem?_set_ne (Ne.symm (h.2.1 q hq))
  | p :: L, s, h, k + 1, i, o0, o, e => by
    have e' : L[k]? = some (i, o0) := by simpa using e
    have hp : p.1 ≠ i := Ne.symm (h.2.1 _ (List.mem_of_getElem? e'))
    refine ⟨(List.getElem?_set_ne (Ne.symm hp)).trans h.1, fun q hq => ?_, At.set h.2.2 k o e'⟩
    rcases List.mem_or_eq_of_mem_set hq with z | z
    · exact h.2.1 q z
    · rw [z]; exact Ne.symm hp
theorem At.lt {L : List (Nat × Ob)} {s : Store} (h : At s L) : ∀ p ∈ L, p.1 < s.length := by
  intro p hp
  obtain ⟨k, hk⟩ := List.mem_iff_getElem?.mp hp
  exact (List.getElem?_eq_some_iff.mp (h.get k (i := p.1) (o := p.2) hk)).1
/-- what a thing says of the store leans on the objects ks alone -/
def Own (ks : List Nat) (P : Store → Prop) : Prop := ∀ s s' : Store, (∀ k ∈ ks, s'[k]? = s[k]?) → P s → P s'
theorem own_true : Own [] fun _ => True := fun _ _ _ _ => True.intro
structure Lv (s0 : Store) (ks : List Nat) (P : Store → Prop) (L : List (Nat × Ob)) (s : Store) : Prop where
  kp : Kp ks s0 s
  at' : At s L
  fr : ∀ p ∈ L, s0.length ≤ p.1
  old : ∀ k ∈ ks, k < s0.length
  own : Own ks P
  pr : P s
abbrev Lv0 (s0 : Store) (L : List (Nat × Ob)) (s : Store) : Prop := Lv s0 [] (fun _ => True) L s
section
variable {s0 s s' : Store} {ks : List Nat} {P P' : Store → Prop} {L : List (Nat × Ob)} {QD : D → Store → Prop} {QU : Unit → Store → Prop}
theorem Lv.start0 (s : Store) : Lv0 s [] s := ⟨Kp.refl _ _, True.intro, (fun _ h => nomatch h), (fun _ h => nomatch h), own_true, True.intro⟩
theorem Lv.start (old : ∀ k ∈ ks, k < s.length) (own : Own ks P) (pr : P s) : Lv s ks P [] s := ⟨Kp.refl _ _, True.intro, (fun _ h => nomatch h), old, own, pr⟩
theorem Lv.get (V : Lv s0 ks P L s) (k : Nat) {i : Nat} {o : Ob} (h : L[k]? = some (i, o)) : s[i]? = some o := V.at'.get k h
theorem Lv.nin (V : Lv s0 ks P L s) {p : Nat × Ob} (hp : p ∈ L) : p.1 ∉ ks := fun z => by
  have := V.old _ z
  have := V.fr _ hp
  omega
theorem Lv.call (V : Lv s0 ks P L s) (K : Kp ks s s') (pr : P' s') (own : Own ks P') : Lv s0 ks P' L s' :=
  ⟨V.kp.trans K, V.at'.keep fun p hp => by
    have h := V.at'.lt p hp
    have e : s[p.1]? = some s[p.1] := List.getElem?_eq_getElem h
    rw [e]; exact K.at' _ _ (V.nin hp) e, V.fr, V.old, own, pr⟩
theorem Lv.call0 (V : Lv s0 ks P L s) (K : Kp [] s s') : Lv s0 ks P L s' := by
  refine V.call (P' := P) (K.more fun _ h => nomatch h) (V.own s s' (fun k hk => ?_) V.pr) V.own
  have h : k < s.length := Nat.lt_of_lt_of_le (V.old k hk) V.kp.len
  have e : s[k]? = some s[k] := List.getElem?_eq_getElem h
  rw [e]; exact K.at' _ _ (by simp) e
theorem Lv.new (V : Lv s0 ks P L s) (o : Ob) : Lv s0 ks P ((s.length, o) :: L) (s ++ [o]) := by
  have W := V.call0 (Kp.app [] s [o])
  refine ⟨W.kp, ⟨by simp, fun q hq => ?_, W.at'⟩, fun p hp => ?_, V.old, V.own, W.pr⟩
  · have := V.at'.lt q hq
    omega
  · rcases List.mem_cons.mp hp with rfl | hp
    · exact V.kp.len
    · exact V.fr p hp
theorem Lv.set (V : Lv s0 ks P L s) (k : Nat) {i : Nat} {o0 : Ob} (o : Ob) (h : L[k]? = some (i, o0)) : Lv s0 ks P (L.set k (i, o)) (s.set i o) := by
  have hm := List.mem_of_getElem? h
  have hi := V.fr _ hm
  refine ⟨⟨by simp only [List.length_set]; exact V.kp.len, fun j u n e => ?_⟩, V.at'.set k o h, fun p hp => ?_, V.old, V.own, V.own s _ (fun j hj => ?_) V.pr⟩
  · have hj := (List.getElem?_eq_some_iff.mp e).1
    rw [List.getElem?_set_ne (by omega)]
    exact V.kp.at' j u n e
  · rcases List.mem_or_eq_of_mem_set hp with z | z
    · exact V.fr p z
    · rw [z]; exact hi
  · have hj := V.old j hj
    exact List.getElem?_set_ne (by omega)
theorem Lv.sub (V : Lv s0 ks P L s) {L' : List (Nat × Ob)} (h : L'.Sublist L) : Lv s0 ks P L' s := by
  refine ⟨V.kp, ?_, fun p hp => V.fr p (h.mem hp), V.old, V.own, V.pr⟩
  have := V.at'
  clear V
  induction h with
  | slnil => exact True.intro
  | cons a _ ih => exact ih this.2.2
  | cons_cons a hs ih => exact ⟨this.1, fun q hq => this.2.1 q (hs.mem hq), ih this.2.2⟩
theorem Lv.nil (V : Lv s0 ks P L s) : Lv s0 ks P [] s := V.sub (List.nil_sublist _)
/-- a view from a later beginning on -/
theorem Lv.at0 (V : Lv s0 ks P L s) : Lv s ks P [] s := ⟨Kp.refl _ _, True.intro, (fun _ h => nomatch h), fun k hk => Nat.lt_of_lt_of_le (V.old k hk) V.kp.len, V.own, V.pr⟩
theorem Lv.mono (V : Lv s0 ks P L s) (h : ∀ s, P s → P' s) (own : Own ks P') : Lv s0 ks P' L s := ⟨V.kp, V.at', V.fr, V.old, own, h _ V.pr⟩
/-! a new object -/
def alloc (o : Ob) : M D := fun st => .ok (.ob st.length) (st ++ [o])
theorem wp_alloc {o : Ob} : wp (alloc o) QD s ↔ QD (.ob s.length) (s ++ [o]) := wp_ok rfl
theorem Lv.alloc (V : Lv s0 ks P L s) {o : Ob} (h : ∀ k s1, Lv s0 ks P ((k, o) :: L) s1 → QD (.ob k) s1) : wp (W9.alloc o) QD s := wp_alloc.mpr (h _ _ (V.new o))
theorem Lv.append (V : Lv s0 ks P L s) (k : Nat) {j : Nat} {xs : List D} {x : D} (hk : L[k]? = some (j, .lst xs)) (hb : xs.length < bigN) (h : ∀ s1, Lv s0 ks P (L.set k (j, .lst (xs ++ [x]))) s1 → QD .non s1) : wp (meD .append .list (.ob j) [x]) QD s := by
  rw [x_app (V.get k hk)]
  exact ⟨hb, h _ (V.set k _ hk)⟩
theorem Lv.tyL (V : Lv s0 ks P L s) (k : Nat) {j : Nat} {xs : List D} (hk : L[k]? = some (j, .lst xs)) : tyD s (.ob j) = some .list := x_tyL (V.get k hk)
theorem Lv.tyD' (V : Lv s0 ks P L s) (k : Nat) {j : Nat} {xs : List (D × D)} (hk : L[k]? = some (j, .dct xs)) : tyD s (.ob j) = some .dict := x_tyD (V.get k hk)
/-- x.append(y) -/
theorem Lv.meAppend (V : Lv s0 ks P L s) (k : Nat) {j : Nat} {xs : List D} {m : M (List D)} (hk : L[k]? = some (j, .lst xs)) (h : wp m (fun ds s => wp (meD .append .list (.ob j) ds) QD s) s) : ∃ T, tyD s (.ob j) = some T ∧ wp m (fun ds s => wp (meD .append T (.ob j) ds) QD s) s := ⟨_, V.tyL k hk, h⟩
theorem x_ext {j i : Nat} {xs ys : List D} (h : s[j]? = some (.lst xs)) (h2 : s[i]? = some (.lst ys)) : wp (meD .extend .list (.ob j) [.ob i]) QD s ↔ xs.length + ys.length ≤ bigN ∧ QD .non (s.set j (.lst (xs ++ ys))) := by
  unfold wp
  simp only [meD, h, h2]
  constructor
  · rintro ⟨a, s, e, q⟩
    split at e
    · rename_i hk; cases e; exact ⟨hk, q⟩
    · cases e
  · rintro ⟨hk, q⟩
    exact ⟨.non, _, by rw [if_pos hk], q⟩
theorem Lv.extend (V : Lv s0 ks P L s) (k : Nat) {j i : Nat} {xs ys : List D} (hk : L[k]? = some (j, .lst xs)) (hi : s[i]? = some (.lst ys)) (hb : xs.length + ys.length ≤ bigN) (h : ∀ s1, Lv s0 ks P (L.set k (j, .lst (xs ++ ys))) s1 → QD .non s1) : wp (meD .extend .list (.ob j) [.ob i]) QD s := by
  rw [x_ext (V.get k hk) hi]
  exact ⟨hb, h _ (V.set k _ hk)⟩
/-- an owned object is changed by a call -/
theorem Lv.upd (V : Lv s0 ks P L s) (k : Nat) {j : Nat} {o0 o : Ob} (hk : L[k]? = some (j, o0)) (K : Kp [j] s s') (h : s'[j]? = some o) : Lv s0 ks P (L.set k (j, o)) s' := by
  have hm := List.mem_of_getElem? hk
  have hi := V.fr _ hm
  have same : ∀ i, i < s.length → i ≠ j → s'[i]? = s[i]? := fun i hl hne => by
    have e : s[i]? = some s[i] := List.getElem?_eq_getElem hl
    rw [e]; exact K.at' _ _ (by simpa using hne) e
  refine ⟨⟨Nat.le_trans V.kp.len K.len, fun i u n e => ?_⟩, ?_, fun p hp => ?_, V.old, V.own, V.own s _ (fun i hj => ?_) V.pr⟩
  · have hj := (List.getElem?_eq_some_iff.mp e).1
    exact K.at' i u (by simp; omega) (V.kp.at' i u n e)
  · have A := V.at'
    have : ∀ (L : List (Nat × Ob)) (k : Nat), At s L → L[k]? = some (j, o0) → At s' (L.set k (j, o)) := by
      intro L
      induction L with
      | nil => intro k _ e; simp at e
      | cons p L ih =>
        intro k A e
        cases k with
        | zero =>
          simp only [List.getElem?_cons_zero, Option.some.injEq] at e
          subst e
          exact ⟨h, A.2.1, At.keep (fun q hq => same _ (A.2.2.lt q hq) (A.2.1 q hq)) A.2.2⟩
        | succ k =>
          have e' : L[k]? = some (j, o0) := by simpa using e
          have hp : p.1 ≠ j := Ne.symm (A.2.1 _ (List.mem_of_getElem? e'))
          refine ⟨(same _ (A.lt p List.mem_cons_self) hp).trans A.1, fun q hq => ?_, ih k A.2.2 e'⟩
          rcases List.mem_or_eq_of_mem_set hq with z | z
          · exact A.2.1 q z
          · rw [z]; exact Ne.symm hp
    exact this L k A hk
  · rcases List.mem_or_eq_of_mem_set hp with z | z
    · exact V.fr p z
    · rw [z]; exact hi
  · have h1 := V.old i hj
    have h2 := V.kp.len
    have hi' : s0.length ≤ j := hi
    exact same i (by omega) (by omega)
theorem Lv.addL (V : Lv s0 ks P L s) {i j : Nat} {xs ys : List D} (h1 : s[i]? = some (.lst xs)) (h2 : s[j]? = some (.lst ys)) (hb : xs.length + ys.length ≤ bigN) (h : ∀ k s1, Lv s0 ks P ((k, .lst (xs ++ ys)) :: L) s1 → QD (.ob k) s1) : wp (binD .Add (.ob i) (.ob j)) QD s := by
  rw [x_addL, h1, lstQ_some, h2, lstQ_some]
  exact ⟨hb, h _ _ (V.new _)⟩
theorem Lv.mulL (V : Lv s0 ks P L s) {i : Nat} {n : Int} {xs : List D} (h1 : s[i]? = some (.lst xs)) (h0 : 0 ≤ n) (hn : n ≤ 1000) (hb : xs.length ≤ 1000) (h : ∀ k s1, Lv s0 ks P ((k, .lst (List.replicate n.toNat xs).flatten) :: L) s1 → QD (.ob k) s1) : wp (binD .Mult (.ob i) (.int n)) QD s := by
  have hbig : bigN = 16777216 := rfl
  have hm : xs.length * n.toNat ≤ 1000 * 1000 := Nat.mul_le_mul hb (by omega)
  refine ⟨_, _, ?_, h _ _ (V.new _)⟩
  simp only [binD, mulD, h1]
  rw [if_pos ⟨by omega, by omega, by omega⟩]
theorem Lv.mk' (V : Lv s0 ks P L s) {c : Str} {g : List D → M D} {ds : List D} (h : ∀ k s1, Lv s0 ks P ((k, .ins c []) :: L) s1 → wp (g (.ob k :: ds)) (fun d s => d = .non ∧ QD (.ob k) s) s1) : wp (mkD c g ds) QD s := x_mk.mpr (h _ _ (V.new _))
theorem Lv.setFld (V : Lv s0 ks P L s) (k : Nat) {j : Nat} {c f : Str} {fs : List (Str × D)} {d : D} {fl : Str → Str → Bool} (hk : L[k]? = some (j, .ins c fs)) (hf : fl c f = true) (hl : fs.length < 900) (h : ∀ s1, Lv s0 ks P (L.set k (j, .ins c (putFd f d fs))) s1 → QU () s1) : wp (setFldD fl f (.ob j) d) QU s := by
  rw [x_setFld (V.get k hk)]
  exact ⟨⟨hf, hl⟩, h _ (V.set k _ hk)⟩
end
section
variable {C : Cts} {env : Env} {QD : D → Store → Prop} {QB : Bool → Store → Prop} {QL : List D → Store → Prop} {st : Store}
theorem wp_lstA {es : Exs} : wp ((bo C (.lst es)).1 env) QD st ↔ wp (evs C es env) (fun ds s => ds.length ≤ bigN ∧ wp (alloc (.lst ds)) QD s) st := by simp only [wp_alloc]; exact wp_lst
theorem wp_dict0A : wp ((bo C .dict0).1 env) QD st ↔ wp (alloc (.dct [])) QD st := by simp only [wp_alloc]; exact wp_dict0
theorem wp_dictA {ks : List Str} {es : Exs} : wp ((bo C (.dict ks es)).1 env) QD st ↔ wp (evs C es env) (fun ds s => (ks.length = ds.length ∧ ks.length ≤ 15) ∧ wp (alloc (.dct ((ks.map D.str).zip ds))) QD s) st := by simp only [wp_alloc]; exact wp_dictX
theorem wp_lcA {own : List Nat} {src : Src} {tg : Tg} {c : Exo} {e : Ex} : wp ((bo C (.lc own src tg c e)).1 env) QD st ↔ wp (srcE C src env) (fun p s => wp (loopC p.2 (compF tg own env (tsto C c) (bo C e).1) p.1) (fun ds s => ds.length ≤ bigN ∧ wp (alloc (.lst ds)) QD s) s) st := by simp only [wp_alloc]; exact wp_lc
theorem x_slFA {xs : List D} {lo hi : Option Int} : wp (slD (.fls xs) lo hi) QD st ↔ wp (alloc (.lst (cutL xs lo hi))) QD st := by simp only [wp_alloc]; exact x_slF
theorem x_slLA {j : Nat} {xs : List D} {lo hi : Option Int} (h : st[j]? = some (.lst xs)) : wp (slD (.ob j) lo hi) QD st ↔ wp (alloc (.lst (cutL xs lo hi))) QD st := by simp only [wp_alloc]; exact x_slL h
theorem x_listT {xs : List D} : wp (biD .list [.tup xs]) QD st ↔ wp (alloc (.lst xs)) QD st := Iff.rfl
theorem x_listL {j : Nat} {xs : List D} (h : st[j]? = some (.lst xs)) : wp (biD .list [.ob j]) QD st ↔ wp (alloc (.lst xs)) QD st := by
  rw [wp_alloc]; exact wp_ok (by simp only [biD, itemsL, h])
theorem x_tupT {xs : List D} : wp (biD .tuple [.tup xs]) QD st ↔ QD (.tup xs) st := wp_ok rfl
theorem wp_negX {a : Ex} : wp ((bo C (.neg a)).1 env) QD st ↔ wp ((bo C a).1 env) (fun x s => wp (negD x) QD s) st := by
  conv => lhs; unfold bo
  simp only [wp_bind]
theorem x_negI {i : Int} : wp (negD (.int i)) QD st ↔ QD (.int (-i)) st := wp_ok rfl
theorem wp_and {a b : Ex} : wp ((bo C (.and a b)).1 env) QD st ↔ wp ((bo C a).1 env) (blQ fun r s => if r = true then wp ((bo C b).1 env) QD s else QD (.bl false) s) st := by
  conv => lhs; unfold bo
  rw [wp_bind]
  constructor
  · exact fun h => wp_mono h fun d s q => by
      cases d with
      | bl b => cases b with
        | true => exact q
        | false => exact wp_ret.mp q
      | _ => exact wp_no.mp q
  · exact fun h => wp_mono h fun d s q => by
      cases d with
      | bl b => cases b with
        | true => exact q
        | false => exact wp_ret.mpr q
      | _ => exact q.elim
theorem wp_or {a b : Ex} : wp ((bo C (.or a b)).1 env) QD st ↔ wp ((bo C a).1 env) (blQ fun r s => if r = true then QD (.bl true) s else wp ((bo C b).1 env) QD s) st := by
  conv => lhs; unfold bo
  rw [wp_bind]
  constructor
  · exact fun h => wp_mono h fun d s q => by
      cases d with
      | bl b => cases b with
        | true => exact wp_ret.mp q
        | false => exact q
      | _ => exact wp_no.mp q
  · exact fun h => wp_mono h fun d s q => by
      cases d with
      | bl b => cases b with
        | true => exact wp_ret.mpr q
        | false => exact q
      | _ => exact q.elim
theorem wp_not {a : Ex} : wp ((bo C (.not a)).1 env) QD st ↔ wp ((bo C a).1 env) (blQ fun r s => QD (.bl (!r)) s) st := by
  conv => lhs; unfold bo
  rw [wp_bind]
  constructor
  · exact fun h => wp_mono h fun d s q => by
      cases d with
      | bl b => exact wp_ret.mp q
      | _ => exact wp_no.mp q
  · exact fun h => wp_mono h fun d s q => by
      cases d with
      | bl b => exact wp_ret.mpr q
      | _ => exact q.elim
theorem wp_chain {o1 o2 : CmpOp} {a b c : Ex} : wp ((bo C (.chain o1 o2 a b c)).1 env) QD st ↔ wp ((bo C a).1 env) (fun x s => wp ((bo C b).1 env) (fun y s => wp (cmpD o1 x y) (blQ fun r s => if r = true then wp ((bo C c).1 env) (fun z s => wp (cmpD o2 y z) QD s) s else QD (.bl false) s) s) s) st := by
  conv => lhs; unfold bo
  simp only [wp_bind]
  constructor
  · exact fun h => wp_mono h fun x s q => wp_mono q fun y s q => wp_mono q fun d s q => by
      cases d with
      | bl b => cases b with
        | true => exact wp_bind.mp q
        | false => exact wp_ret.mp q
      | _ => exact wp_no.mp q
  · exact fun h => wp_mono h fun x s q => wp_mono q fun y s q => wp_mono q fun d s q => by
      cases d with
      | bl b => cases b with
        | true => exact wp_bind.mpr q
        | false => exact wp_ret.mpr q
      | _ => exact q.elim
theorem wp_iteT {c a b : Ex} : wp ((bo C (.ite c a b)).2 env) QB st ↔ wp ((bo C c).2 env) (fun r s => if r = true then wp ((bo C a).2 env) QB s else wp ((bo C b).2 env) QB s) st := by
  conv => lhs; unfold bo
  simp only [wp_bind, wp_ite]
theorem x_slS {z : Str} {lo hi : Option Int} : wp (slD (.str z) lo hi) QD st ↔ z.length ≤ bigN ∧ QD (.str (cutS z lo hi)) st := wp_gd
end
/-! ### several targets -/
def setAll : Env → List Nat → List D → Env
  | env, i :: is, x :: xs => setAll (env.set i (some x)) is xs
  | env, _, _ => env
theorem setAll_cons {env : Env} {i : Nat} {is : List Nat} {x : D} {xs : List D} : setAll env (i :: is) (x :: xs) = setAll (env.set i (some x)) is xs := rfl
theorem setAll_nil {env : Env} : setAll env [] [] = env := rfl
theorem setAll_eq : ∀ (is : List Nat) (xs : List D) (env : Env), (is.zip xs).foldl (fun e p => e.set p.1 (some p.2)) env = setAll env is xs
  | [], _, _ => rfl
  | _ :: _, [], _ => rfl
  | i :: is, x :: xs, env => by simp only [List.zip_cons_cons, List.foldl_cons, setAll, setAll_eq is xs]
theorem x_bindT {is : List Nat} {xs : List D} {env : Env} {s : Store} {Q : Env → Prop} : (∃ env1, bindT (.tup is) (.tup xs) env s = some env1 ∧ Q env1) ↔ xs.length = is.length ∧ Q (setAll env is xs) := by
  simp only [bindT, setAll_eq]
  by_cases h : xs.length = is.length
  · simp [h]
  · simp [h]
theorem x_bindL {is : List Nat} {xs : List D} {env : Env} {s : Store} {j : Nat} {Q : Env → Prop} (hj : s[j]? = some (.lst xs)) : (∃ env1, bindT (.tup is) (.ob j) env s = some env1 ∧ Q env1) ↔ xs.length = is.length ∧ Q (setAll env is xs) := by
  simp only [bindT, hj, setAll_eq]
  by_cases h : xs.length = is.length
  · simp [h]
  · simp [h]
/-! ### loops -/
section
variable {α : Type} {gd : List (Nat × List D)} {st : Store}
theorem loopC_map {f : D → M (Option D)} (e q : α → D) (p : α → Bool) (hg : gdOk st gd = true) : ∀ (L : List α), (∀ a ∈ L, wp (f (e a)) (fun o s => o = (if p a = true then some (q a) else none) ∧ s = st) st) → wp (loopC gd f (L.map e)) (fun ds s => ds = (L.filter p).map q ∧ s = st) st
  | [], _ => ⟨[], st, by simp only [List.map_nil, loopC, hg, if_true], rfl, rfl⟩
  | a :: L, h => by
    obtain ⟨o, s1, e1, z1, z2⟩ := h a List.mem_cons_self
    obtain ⟨ds, s2, e2, z3, z4⟩ := loopC_map e q p hg L fun b hb => h b (List.mem_cons_of_mem _ hb)
    rw [z1, z2] at e1
    rw [z3, z4] at e2
    refine ⟨(if p a = true then some (q a) else none).toList ++ (L.filter p).map q, st, by simp only [List.map_cons, loopC, hg, if_true, e1, e2], ?_, rfl⟩
    cases hp : p a <;> simp [hp]
/-- .. of all -/
theorem loopC_all {f : D → M (Option D)} (e q : α → D) (hg : gdOk st gd = true) (L : List α) (h : ∀ a ∈ L, wp (f (e a)) (fun o s => o = some (q a) ∧ s = st) st) : wp (loopC gd f (L.map e)) (fun ds s => ds = L.map q ∧ s = st) st := by
  have := loopC_map (gd := gd) e q (fun _ => true) hg L fun a ha => by simpa using h a ha
  rw [show L.filter (fun _ => true) = L from List.filter_eq_self.mpr fun _ _ => rfl] at this
  exact this
/-- a comprehension with an invariant of the store -/
theorem loopC_inv {f : D → M (Option D)} (e : α → D) (L : List α) (I : List α → List D → Store → Prop)
    (hs : ∀ P a R ds s, L = P ++ a :: R → I P ds s → gdOk s gd = true ∧ wp (f (e a)) (fun o s1 => I (P ++ [a]) (ds ++ o.toList) s1) s)
    (hz : ∀ ds s, I L ds s → gdOk s gd = true) (h : I [] [] st) : wp (loopC gd f (L.map e)) (fun ds s => I L ds s) st := by
  have key : ∀ (R P : List α) (ds : List D) (s : Store), L = P ++ R → I P ds s → wp (loopC gd f (R.map e)) (fun es s => I L (ds ++ es) s) s := by
    intro R
    induction R with
    | nil =>
      intro P ds s hL hI
      rw [List.append_nil] at hL
      subst hL
      exact ⟨[], s, by simp only [List.map_nil, loopC, hz _ _ hI, if_true], by show I L (ds ++ []) s; rw [List.append_nil]; exact hI⟩
    | cons a R ih =>
      intro P ds s hL hI
      obtain ⟨h1, o, s1, e1, q⟩ := hs P a R ds s hL hI
      have hL' : L = (P ++ [a]) ++ R := by rw [hL]; simp
      obtain ⟨es, s2, e3, q3⟩ := ih (P ++ [a]) (ds ++ o.toList) s1 hL' q
      exact ⟨o.toList ++ es, s2, by simp only [List.map_cons, loopC, h1, if_true, e1, e3], by show I L (ds ++ (o.toList ++ es)) s2; rw [← List.append_assoc]; exact q3⟩
  have := key L [] [] st rfl h
  simpa using this
theorem loopF_map {f : D → Env → M Fl} {Q : Fl → Store → Prop} (e : α → D) (L : List α) (I : List α → Env → Store → Prop)
    (hs : ∀ P a R env s, L = P ++ a :: R → I P env s → gdOk s gd = true ∧ wp (f (e a) env) (fun fl s1 => match fl with | .nx e1 => I (P ++ [a]) e1 s1 | .ct e1 => I (P ++ [a]) e1 s1 | .bk e1 => Q (.nx e1) s1 | .ret v => Q (.ret v) s1) s)
    (hz : ∀ env s, I L env s → gdOk s gd = true ∧ Q (.nx env) s) {env : Env} (h : I [] env st) : wp (loopF gd f (L.map e) env) Q st := by
  have key : ∀ (R P : List α) (env : Env) (s : Store), L = P ++ R → I P env s → wp (loopF gd f (R.map e) env) Q s := by
    intro R
    induction R with
    | nil =>
      intro P env s hL hI
      rw [List.append_nil] at hL
      subst hL
      obtain ⟨h1, h2⟩ := hz env s hI
      exact ⟨.nx env, s, by simp only [List.map_nil, loopF, h1, if_true], h2⟩
    | cons a R ih =>
      intro P env s hL hI
      obtain ⟨h1, fl, s1, e1, q⟩ := hs P a R env s hL hI
      have hL' : L = (P ++ [a]) ++ R := by rw [hL]; simp
      cases fl with
      | nx e2 =>
        obtain ⟨x, s2, e3, q3⟩ := ih (P ++ [a]) e2 s1 hL' q
        exact ⟨x, s2, by simp only [List.map_cons, loopF, h1, if_true, e1]; exact e3, q3⟩
      | ct e2 =>
        obtain ⟨x, s2, e3, q3⟩ := ih (P ++ [a]) e2 s1 hL' q
        exact ⟨x, s2, by simp only [List.map_cons, loopF, h1, if_true, e1]; exact e3, q3⟩
      | bk e2 => exact ⟨.nx e2, s1, by simp only [List.map_cons, loopF, h1, if_true, e1], q⟩
      | ret v => exact ⟨.ret v, s1, by simp only [List.map_cons, loopF, h1, if_true, e1], q⟩
  exact key L [] env st rfl h
/-- turns that all go on -/
theorem loopF_nx {f : D → Env → M Fl} {Q : Fl → Store → Prop} (e : α → D) (L : List α) (I : List α → Env → Store → Prop)
    (hs : ∀ P a R env s, L = P ++ a :: R → I P env s → gdOk s gd = true ∧ wp (f (e a) env) (fun fl s1 => ∃ e1, fl = .nx e1 ∧ I (P ++ [a]) e1 s1) s)
    (hz : ∀ env s, I L env s → gdOk s gd = true ∧ Q (.nx env) s) {env : Env} (h : I [] env st) : wp (loopF gd f (L.map e) env) Q st :=
  loopF_map e L I (fun P a R env s hL hI => ⟨(hs P a R env s hL hI).1, wp_mono (hs P a R env s hL hI).2 fun fl s1 ⟨e1, h1, h2⟩ => by subst h1; exact h2⟩) hz h
end
theorem big0 : (0 ≤ bigN) = True := eq_true (by decide)
theorem big1 : (1 ≤ bigN) = True := eq_true (by decide)
theorem big2 : (2 ≤ bigN) = True := eq_true (by decide)
theorem big3 : (3 ≤ bigN) = True := eq_true (by decide)
theorem big4 : (4 ≤ bigN) = True := eq_true (by decide)
theorem big5 : (5 ≤ bigN) = True := eq_true (by decide)
theorem big6 : (6 ≤ bigN) = True := eq_true (by decide)
theorem big7 : (7 ≤ bigN) = True := eq_true (by decide)
theorem big8 : (8 ≤ bigN) = True := eq_true (by decide)
theorem big9 : (9 ≤ bigN) = True := eq_true (by decide)
theorem big10 : (10 ≤ bigN) = True := eq_true (by decide)
theorem loopF_enum {α : Type} {gd : List (Nat × List D)} {st : Store} {f : D → Env → M Fl} {Q : Fl → Store → Prop} (e : α → D) (L : List α) (I : List α → Env → Store → Prop)
    (hs : ∀ P a R env s, L = P ++ a :: R → I P env s → gdOk s gd = true ∧ wp (f (.tup [.int (P.length : Nat), e a]) env) (fun fl s1 => ∃ e1, fl = .nx e1 ∧ I (P ++ [a]) e1 s1) s)
    (hz : ∀ env s, I L env s → gdOk s gd = true ∧ Q (.nx env) s) {env : Env} (h : I [] env st) : wp (loopF gd f (pairs 0 (L.map e)) env) Q st := by
  have key : ∀ (R P : List α) (env : Env) (s : Store), L = P ++ R → I P env s → wp (loopF gd f (pairs P.length (R.map e)) env) Q s := by
    intro R
    induction R with
    | nil =>
      intro P env s hL hI
      rw [List.append_nil] at hL
      subst hL
      obtain ⟨h1, h2⟩ := hz env s hI
      exact ⟨.nx env, s, by simp only [List.map_nil, pairs, loopF, h1, if_true], h2⟩
    | cons a R ih =>
      intro P env s hL hI
      obtain ⟨h1, fl, s1, e1, e2, rfl, q⟩ := hs P a R env s hL hI
      have hL' : L = (P ++ [a]) ++ R := by rw [hL]; simp
      obtain ⟨x, s2, e3, q3⟩ := ih (P ++ [a]) e2 s1 hL' q
      rw [List.length_append] at e3
      exact ⟨x, s2, by simp only [List.map_cons, pairs, loopF, h1, if_true, e1]; exact e3, q3⟩
  exact key L [] env st rfl h
theorem blsOf_map : ∀ bs : List Bool, blsOf (bs.map D.bl) = some bs
  | [] => rfl
  | b :: bs => by simp only [List.map_cons, blsOf, blsOf_map bs]
theorem x_allL {j : Nat} {bs : List Bool} {st : Store} {QD : D → Store → Prop} (h : st[j]? = some (.lst (bs.map D.bl))) : wp (biD .all [.ob j]) QD st ↔ QD (.bl (bs.all id)) st := wp_ok (by simp only [biD, itemsL, h, blsOf_map])
theorem x_anyL {j : Nat} {bs : List Bool} {st : Store} {QD : D → Store → Prop} (h : st[j]? = some (.lst (bs.map D.bl))) : wp (biD .any [.ob j]) QD st ↔ QD (.bl (bs.any id)) st := wp_ok (by simp only [biD, itemsL, h, blsOf_map])
theorem intsOf_map : ∀ is : List Int, intsOf (is.map D.int) = some is
  | [] => rfl
  | i :: is => by simp only [List.map_cons, intsOf, intsOf_map is]
theorem x_maxL {j : Nat} {i : Int} {is : List Int} {st : Store} {QD : D → Store → Prop} (h : st[j]? = some (.lst ((i :: is).map D.int))) : wp (biD .max [.ob j]) QD st ↔ QD (.int (maxI i is)) st := wp_ok (by simp only [biD, itemsL, h, intsOf_map])
theorem x_enumL {j : Nat} {xs : List D} {st : Store} {QS : SI → Store → Prop} (h : st[j]? = some (.lst xs)) : wp (enumS (.ob j)) QS st ↔ QS (pairs 0 xs, [(j, xs)]) st := wp_ok (by simp only [enumS, h])
theorem gd_none {s : Store} : gdOk s [] = true := rfl
theorem gd_lst {s : Store} {j : Nat} {xs : List D} (h : s[j]? = some (.lst xs)) : gdOk s [(j, xs)] = true := gd_one.mpr h
theorem rngI_map (n : Int) : rngI 0 n = (List.range n.toNat).map fun i : Nat => D.int (i : Nat) := by
  unfold rngI
  rw [Int.sub_zero]
  simp only [Int.zero_add]
theorem rng_okc {c : Int} (h0 : 0 ≤ c) (h1 : c ≤ 100000000) : rngOk c = true := by
  unfold rngOk
  simp only [Bool.and_eq_true, decide_eq_true_eq]
  omega
theorem imax' {a b : Int} : (if b > a then b else a) = max a b := by split <;> omega
theorem imin' {a b : Int} : (if b < a then b else a) = min a b := by split <;> omega
theorem cutL_drop {α : Type} (l : List α) {m : Int} (h : 0 ≤ m) : cutL l (some m) none = l.drop m.toNat := by
  unfold cutL
  simp only [HT.sIx]
  rw [if_neg (by omega)]
  by_cases hl : m.toNat ≤ l.length
  · rw [Nat.min_eq_left hl, List.take_of_length_le (by rw [List.length_drop]; omega)]
  · rw [Nat.min_eq_right (by omega), List.drop_of_length_le (by omega), List.drop_of_length_le (by omega)]
    simp
theorem cutL_take {α : Type} (l : List α) {m : Int} (h : 0 ≤ m) : cutL l none (some m) = l.take m.toNat := by
  unfold cutL
  simp only [HT.sIx, List.drop_zero, Nat.sub_zero]
  rw [if_neg (by omega)]
  by_cases hl : m.toNat ≤ l.length
  · rw [Nat.min_eq_left hl]
  · rw [Nat.min_eq_right (by omega), List.take_of_length_le (by omega), List.take_of_length_le (by omega)]
end W9

/-! Y2: data that may be shown -/
namespace W9
open PySem L2
mutual
def toP : D → PyData
  | .non => .none
  | .bl b => .bool b
  | .int i => .int i
  | .str s => .str s
  | .tup xs => .tuple (toPs xs)
  | .fls xs => .list (toPs xs)
  | .ob _ => .none
def toPs : List D → List PyData
  | [] => []
  | x :: xs => toP x :: toPs xs
end
theorem toPs_map : ∀ xs : List D, toPs xs = xs.map toP
  | [] => rfl
  | x :: xs => by simp only [toPs, List.map_cons, toPs_map xs]
mutual
def rz : PyData → Nat
  | .none => 4
  | .bool _ => 5
  | .int i => if i.natAbs.log2 < 20 then 21 else 1921
  | .str x => 10 * x.length + 2
  | .list xs => rzs xs + 3
  | .tuple xs => rzs xs + 3
  | .dict _ => 0
def rzs : List PyData → Nat
  | [] => 0
  | x :: xs => rz x + 2 + rzs xs
end
mutual
theorem shown_lez : ∀ d : PyData, d.canLay0 = true → d.showable = true → d.shown.length ≤ rz d
  | .none, _, _ => by decide
  | .bool b, _, _ => by cases b <;> decide
  | .int i, _, h => by
    simp only [PyData.showable, decide_eq_true_eq] at h
    simp only [PyData.shown, rz]
    refine Nat.le_trans (Nat.le_of_eq (ofString_length _)) ?_
    split
    · rename_i h2
      exact PySem.int_text_length_le (a := i) (k := 20) (by decide) h2
    · exact PySem.int_text_length_le (a := i) (k := 1920) (by decide) h
  | .str x, h, _ => by
    simp only [PyData.shown, rz]
    refine StrLaws.reprText_len x fun c hc => ?_
    simp only [PyData.canLay0, PyData.strOk] at h
    rw [Array.all_eq_true_iff_forall_mem] at h
    have := h c (by simpa using hc)
    have h2 := of_decide_eq_true this
    exact Nat.lt_trans h2 (by decide)
  | .tuple xs, h, h2 => by
    simp only [PyData.shown, rz]
    have := showns_lez xs (by simpa [PyData.canLay0] using h) (by simpa [PyData.showable] using h2) 
    exact Nat.le_trans (tupText_le _) (by omega)
  | .list xs, h, h2 => by
    simp only [PyData.shown, rz]
    have := showns_lez xs (by simpa [PyData.canLay0] using h) (by simpa [PyData.showable] using h2)
    exact Nat.le_trans (lstText_le _) (by omega)
  | .dict _, h, _ => by simp [PyData.canLay0] at h
theorem showns_lez : ∀ ds : List PyData, PyData.canLayAll0 ds = true → PyData.showableAll ds = true → piled (PyData.shownAll ds) ≤ rzs ds
  | [], _, _ => Nat.le_refl 0
  | d :: ds, h, h2 => by
    simp only [PyData.canLayAll0, Bool.and_eq_true] at h
    simp only [PyData.showableAll, Bool.and_eq_true] at h2
    simp only [PyData.shownAll, piled_cons, rzs]
    have a := shown_lez d h.1 h2.1
    have b := showns_lez ds h.2 h2.2
    omega
end
/-- repr of data that is not too big -/
theorem x_reprz {QD : D → Store → Prop} {st : Store} {d : D} {p : PyData} (h1 : pyD st d = some p) (h2 : p.canLay0 = true) (h3 : p.showable = true) (h4 : p.depth ≤ 60) (h5 : rz p ≤ bigN) : wp (biD .repr [d]) QD st ↔ QD (.str p.shown) st :=
  wp_ok (by
    have := Nat.le_trans (shown_lez p h2 h3) h5
    simp only [biD, h1, h2, h3, h4, this, and_self, if_true])
/-- data that may be shown: its text has at most n signs, it is k deep -/
structure Shw (n k : Nat) (d : D) : Prop where
  py : ∀ f, pyG f d = some (toP d)
  lay : (toP d).canLay0 = true
  sh : (toP d).showable = true
  sz : rz (toP d) ≤ n
  dp : (toP d).depth ≤ k
theorem layAll : ∀ {ps : List PyData}, (∀ p ∈ ps, p.canLay0 = true) → PyData.canLayAll0 ps = true
  | [], _ => rfl
  | p :: ps, h => by simp only [PyData.canLayAll0, h p List.mem_cons_self, layAll fun q hq => h q (List.mem_cons_of_mem _ hq), Bool.and_self]
theorem showAll : ∀ {ps : List PyData}, (∀ p ∈ ps, p.showable = true) → PyData.showableAll ps = true
  | [], _ => rfl
  | p :: ps, h => by simp only [PyData.showableAll, h p List.mem_cons_self, showAll fun q hq => h q (List.mem_cons_of_mem _ hq), Bool.and_self]
theorem rzAll {n : Nat} : ∀ {ps : List PyData}, (∀ p ∈ ps, rz p ≤ n) → rzs ps ≤ (n + 2) * ps.length
  | [], _ => Nat.zero_le _
  | p :: ps, h => by
    have h1 := h p List.mem_cons_self
    have h2 := rzAll (n := n) (ps := ps) fun q hq => h q (List.mem_cons_of_mem _ hq)
    simp only [rzs, List.length_cons]
    rw [Nat.mul_add]
    omega
theorem depthAll {k : Nat} : ∀ {ps : List PyData}, (∀ p ∈ ps, p.depth ≤ k) → PyData.depthAll ps ≤ k
  | [], _ => Nat.zero_le _
  | p :: ps, h => by
    have h1 := h p List.mem_cons_self
    have h2 := depthAll (k := k) (ps := ps) fun q hq => h q (List.mem_cons_of_mem _ hq)
    simp only [PyData.depthAll]
    omega
theorem pyGs_toPs (f : Nat → Option PyData) : ∀ xs : List D, (∀ x ∈ xs, pyG f x = some (toP x)) → pyGs f xs = some (toPs xs)
  | [], _ => rfl
  | x :: xs, h => by simp only [pyGs, toPs, h x List.mem_cons_self, pyGs_toPs f xs fun y hy => h y (List.mem_cons_of_mem _ hy)]
section
variable {n k : Nat}
theorem Shw.mono {n' k' : Nat} {d : D} (h : Shw n k d) (h1 : n ≤ n') (h2 : k ≤ k') : Shw n' k' d := ⟨h.py, h.lay, h.sh, Nat.le_trans h.sz h1, Nat.le_trans h.dp h2⟩
theorem Shw.non : Shw 4 0 .non := ⟨fun _ => rfl, rfl, rfl, Nat.le_refl _, Nat.le_refl _⟩
theorem Shw.bl (b : Bool) : Shw 5 0 (.bl b) := ⟨fun _ => rfl, rfl, rfl, Nat.le_refl _, Nat.le_refl _⟩
theorem Shw.int {i : Int} (h : i.natAbs.log2 < 1920) : Shw 1921 0 (.int i) := ⟨fun _ => rfl, rfl, decide_eq_true h, by simp only [toP, rz]; split <;> omega, Nat.le_refl _⟩
theorem log2_lt {i : Int} {k : Nat} (h0 : -(2 ^ k : Nat) < i) (h1 : i < (2 ^ k : Nat)) (hk : 0 < k) : i.natAbs.log2 < k := by
  by_cases h : i = 0
  · subst h; simpa using hk
  · exact (Nat.log2_lt (by omega)).mpr (by omega)
theorem Shw.int20 {i : Int} (h0 : -1048576 < i) (h1 : i < 1048576) : Shw 21 0 (.int i) := by
  have := log2_lt (i := i) (k := 20) (by simpa using h0) (by simpa using h1) (by decide)
  exact ⟨fun _ => rfl, rfl, decide_eq_true (by omega), by simp only [toP, rz, this, if_true]; omega, Nat.le_refl _⟩
theorem Shw.str {s : Str} {m : Nat} (h : PyData.strOk s = true) (hl : s.length ≤ m) : Shw (10 * m + 2) 0 (.str s) := ⟨fun _ => rfl, h, rfl, by simp only [toP, rz]; omega, Nat.le_refl _⟩
theorem Shw.tup {xs : List D} (h : ∀ x ∈ xs, Shw n k x) : Shw ((n + 2) * xs.length + 3) (k + 1) (.tup xs) := by
  have hm : ∀ {Q : PyData → Prop}, (∀ x ∈ xs, Q (toP x)) → ∀ p ∈ toPs xs, Q p := fun h p hp => by
    rw [toPs_map] at hp
    obtain ⟨x, hx, rfl⟩ := List.mem_map.mp hp
    exact h x hx
  refine ⟨fun f => ?_, ?_, ?_, ?_, ?_⟩
  · simp only [pyG, pyGs_toPs f xs fun x hx => (h x hx).py f, toP]
  · simp only [toP, PyData.canLay0]
    exact layAll (hm fun x hx => (h x hx).lay)
  · simp only [toP, PyData.showable]
    exact showAll (hm fun x hx => (h x hx).sh)
  · simp only [toP, rz]
    have := rzAll (hm fun x hx => (h x hx).sz)
    rw [toPs_map, List.length_map] at this
    rw [toPs_map]
    omega
  · simp only [toP, PyData.depth]
    have := depthAll (hm fun x hx => (h x hx).dp)
    omega
theorem Shw.tupM {α : Type} {f : α → D} {l : List α} (h : ∀ x ∈ l, Shw n k (f x)) : Shw ((n + 2) * l.length + 3) (k + 1) (.tup (l.map f)) := by
  have := Shw.tup (n := n) (k := k) (xs := l.map f) fun x hx => by
    obtain ⟨a, ha, rfl⟩ := List.mem_map.mp hx
    exact h a ha
  rw [List.length_map] at this
  exact this
theorem x_shw {QD : D → Store → Prop} {st : Store} {d : D} (h : Shw n k d) (hn : n ≤ bigN) (hk : k ≤ 60) : wp (biD .repr [d]) QD st ↔ QD (.str (toP d).shown) st :=
  x_reprz (h.py _) h.lay h.sh (Nat.le_trans h.dp hk) (Nat.le_trans h.sz hn)
theorem Shw.tup1 {a : D} (h : Shw n k a) : Shw (n + 5) (k + 1) (.tup [a]) := (Shw.tup (fun x hx => by rw [List.mem_singleton.mp hx]; exact h)).mono (by simp) (Nat.le_refl _)
theorem Shw.tup2 {a b : D} {m : Nat} (h : Shw n k a) (h2 : Shw m k b) : Shw (2 * max n m + 7) (k + 1) (.tup [a, b]) := by
  refine (Shw.tup (n := max n m) (k := k) fun x hx => ?_).mono (by simp; omega) (Nat.le_refl _)
  simp only [List.mem_cons, List.not_mem_nil, or_false] at hx
  rcases hx with rfl | rfl
  · exact h.mono (by omega) (Nat.le_refl _)
  · exact h2.mono (by omega) (Nat.le_refl _)
end
section
variable {n k n' k' : Nat} {QD : D → Store → Prop} {st : Store}
theorem Shw.shaped {d : D} (h : Shw n k d) (hk : k ≤ 64) : SeqAt.shaped (toP d) = true := by
  unfold SeqAt.shaped
  rw [h.lay, decide_eq_true (Nat.le_trans h.dp hk)]
  rfl
theorem Shw.refl {d : D} (h : Shw n k d) : PyData.eqv (toP d) (toP d) = true := SeqAt.eqv_refl _ h.lay
theorem x_eqW {a b : D} (ha : Shw n k a) (hb : Shw n' k' b) (hk : k ≤ 64) (hk' : k' ≤ 64) (hs : scalD a b = false) : wp (cmpD .Eq a b) QD st ↔ QD (.bl (PyData.eqv (toP a) (toP b))) st :=
  x_eqP hs (ha.py _) (hb.py _) (ha.shaped hk) (hb.shaped hk')
theorem x_neW {a b : D} (ha : Shw n k a) (hb : Shw n' k' b) (hk : k ≤ 64) (hk' : k' ≤ 64) (hs : scalD a b = false) : wp (cmpD .NotEq a b) QD st ↔ QD (.bl (!PyData.eqv (toP a) (toP b))) st :=
  x_neP hs (ha.py _) (hb.py _) (ha.shaped hk) (hb.shaped hk')
/-- a list of the store, shown -/
theorem pyD_lst {j : Nat} {xs : List D} (hj : st[j]? = some (.lst xs)) (h : ∀ x ∈ xs, Shw n k x) : pyD st (.ob j) = some (.list (toPs xs)) := by
  show pyO st 4 j = _
  unfold pyO
  rw [hj]
  simp only [pyGs_toPs _ xs fun x hx => (h x hx).py _]
theorem lst_shaped {xs : List D} (h : ∀ x ∈ xs, Shw n k x) (hk : k ≤ 63) : SeqAt.shaped (.list (toPs xs)) = true := by
  have t := (Shw.tup h).shaped (by omega)
  unfold SeqAt.shaped at t ⊢
  exact t
/-- x in a list -/
theorem x_inL {x : D} {j : Nat} {xs : List D} (hj : st[j]? = some (.lst xs)) (hx : Shw n k x) (h : ∀ x ∈ xs, Shw n' k' x) (hk : k ≤ 63) (hk' : k' ≤ 63) : wp (cmpD .In x (.ob j)) QD st ↔ QD (.bl ((toPs xs).any fun z => PyData.eqv z (toP x))) st :=
  wp_ok (by
    simp only [cmpD, inD, hj, inSeq]
    rw [show pyD st x = some (toP x) from hx.py _, pyD_lst hj h]
    simp only [hx.shaped (by omega), lst_shaped h hk', and_self, if_true]
    rfl)
/-- x in a tuple, x not in a tuple -/
theorem x_inT {x : D} {xs : List D} {n'' k'' : Nat} (hx : Shw n k x) (h : Shw n'' k'' (.tup xs)) (hk : k ≤ 63) (hk' : k'' ≤ 63) : wp (cmpD .In x (.tup xs)) QD st ↔ QD (.bl ((toPs xs).any fun z => PyData.eqv z (toP x))) st :=
  wp_ok (by
    simp only [cmpD, inD, inSeq]
    rw [show pyD st x = some (toP x) from hx.py _, show pyD st (.tup xs) = some (toP (.tup xs)) from h.py _]
    have h2 : SeqAt.shaped (.tuple (toPs xs)) = true := h.shaped (by omega)
    simp only [toP, hx.shaped (by omega), h2, and_self, if_true]
    rfl)
theorem x_ninT {x : D} {xs : List D} {n'' k'' : Nat} (hx : Shw n k x) (h : Shw n'' k'' (.tup xs)) (hk : k ≤ 63) (hk' : k'' ≤ 63) : wp (cmpD .NotIn x (.tup xs)) QD st ↔ QD (.bl (!((toPs xs).any fun z => PyData.eqv z (toP x)))) st :=
  wp_ok (by
    simp only [cmpD, inD, inSeq]
    rw [show pyD st x = some (toP x) from hx.py _, show pyD st (.tup xs) = some (toP (.tup xs)) from h.py _]
    have h2 : SeqAt.shaped (.tuple (toPs xs)) = true := h.shaped (by omega)
    simp only [toP, hx.shaped (by omega), h2, and_self, if_true]
    rfl)
theorem any_self {xs : List D} {x : D} (h : Shw n k x) (hm : x ∈ xs) : ((toPs xs).any fun z => PyData.eqv z (toP x)) = true := by
  rw [toPs_map, List.any_map, List.any_eq_true]
  exact ⟨x, hm, h.refl⟩
end
end W9

/-! Y3: the draws of k36 and its like -/
namespace W9
open PySem L2
def rest36_b : Sms :=
  (.cons (.ite (.cmp .Gt (.idx (.var 0) (.cst (.str "left"))) (.cst (.int 0)))
    (.cons (.asg 3 (.bin .Mod (.idx (.var 0) (.cst (.str "left"))) (.var 1)))
    (.cons (.setIx (.var 0) (.cst (.str "left")) (.bin .FloorDiv (.idx (.var 0) (.cst (.str "left"))) (.var 1)))
    (.cons (.ret (.var 3))
    .nil)))
    .nil)
    (.cons (.setIx (.var 0) (.cst (.str "seed")) (.bin .Mod (.bin .Add (.bin .Mult (.idx (.var 0) (.cst (.str "seed"))) (.cst (.int 1181783497276652981))) (.cst (.int 12345678910987))) (.cst (.int 2305843009213693951))))
    (.cons (.ret (.bin .Mod (.bin .FloorDiv (.bin .Mod (.bin .Mult (.idx (.var 0) (.cst (.str "seed"))) (.idx (.var 0) (.cst (.str "seed")))) (.cst (.int 2305843009213693921))) (.cst (.int 65537))) (.var 1)))
    .nil)))
def next36_b : Sms :=
  (.cons (.ite (.and (.cmp .Eq (.idx (.var 0) (.cst (.str "left"))) (.cst (.int 0))) (.cmp .Lt (.idx (.var 0) (.cst (.str "at"))) (.bi .len (.cons (.idx (.var 0) (.cst (.str "cells"))) .nil))))
    (.cons (.asg 2 (.idx (.idx (.var 0) (.cst (.str "cells"))) (.idx (.var 0) (.cst (.str "at")))))
    (.cons (.setIx (.var 0) (.cst (.str "at")) (.bin .Add (.idx (.var 0) (.cst (.str "at"))) (.cst (.int 1))))
    (.cons (.setIx (.var 0) (.cst (.str "seed")) (.bin .Mod (.bin .Add (.bin .Add (.bin .Mult (.idx (.var 0) (.cst (.str "seed"))) (.cst (.int 7368787))) (.bin .Mod (.var 2) (.bin .Pow (.cst (.int 10)) (.cst (.int 30))))) (.cst (.int 11))) (.cst (.int 2305843009213693951))))
    (.cons (.setIx (.var 0) (.cst (.str "left")) (.bin .Mult (.var 2) (.bi .int (.cons (.cmp .GtE (.var 2) (.bin .Pow (.cst (.int 10)) (.cst (.int 18)))) .nil))))
    .nil))))
    .nil)
    rest36_b)
def of36_b : Sms :=
  (.cons (.ret (.idx (.var 1) (.call "_law_next" (.cons (.var 0) (.cons (.bi .len (.cons (.var 1) .nil)) .nil)))))
    .nil)
def begin36_b : Sms :=
  (.cons (.ret (.dict ["cells", "at", "left", "seed"] (.cons (.bi .list (.cons (.sl (.var 0) .none (.some (.cst (.int 63)))) .nil)) (.cons (.cst (.int 0)) (.cons (.cst (.int 0)) (.cons (.bin .Add (.cst (.int 1000003)) (.bi .len (.cons (.sl (.var 0) .none (.some (.cst (.int 63)))) .nil))) .nil))))))
    .nil)
def kv4 (c : Nat) (a l z : Int) : List (D × D) := [(.str "cells", .ob c), (.str "at", .int a), (.str "left", .int l), (.str "seed", .int z)]
theorem n_ca : (("cells" : Str) = "at") = False := eq_false (by decide +kernel)
theorem n_cl : (("cells" : Str) = "left") = False := eq_false (by decide +kernel)
theorem n_cs : (("cells" : Str) = "seed") = False := eq_false (by decide +kernel)
theorem n_al : (("at" : Str) = "left") = False := eq_false (by decide +kernel)
theorem n_as : (("at" : Str) = "seed") = False := eq_false (by decide +kernel)
theorem n_ls : (("left" : Str) = "seed") = False := eq_false (by decide +kernel)
theorem n_sl : (("seed" : Str) = "left") = False := eq_false (by decide +kernel)
theorem n_sa : (("seed" : Str) = "at") = False := eq_false (by decide +kernel)
theorem n_la : (("left" : Str) = "at") = False := eq_false (by decide +kernel)
section
variable {c : Nat} {a l z x : Int}
theorem k4 {k : Str} : (kindOk (kv4 c a l z) (.str k) = true) = True := eq_true rfl
theorem len4 : ((kv4 c a l z).length < bigN) = True := eq_true (by show 4 < bigN; decide)
theorem g4c : getKv (kv4 c a l z) (.str "cells") = some (.ob c) := by simp only [kv4, getKv_cons, if_true]
theorem g4a : getKv (kv4 c a l z) (.str "at") = some (.int a) := by simp only [kv4, getKv_cons, D.str.injEq, n_ca, if_false, if_true]
theorem g4l : getKv (kv4 c a l z) (.str "left") = some (.int l) := by simp only [kv4, getKv_cons, D.str.injEq, n_cl, n_al, if_false, if_true]
theorem g4s : getKv (kv4 c a l z) (.str "seed") = some (.int z) := by simp only [kv4, getKv_cons, D.str.injEq, n_cs, n_as, n_ls, if_false, if_true]
theorem p4a : putKv (kv4 c a l z) (.str "at") (.int x) = kv4 c x l z := by simp [kv4, putKv, n_ca, n_la, n_sa]
theorem p4l : putKv (kv4 c a l z) (.str "left") (.int x) = kv4 c a x z := by simp [kv4, putKv, n_cl, n_al, n_sl]
theorem p4s : putKv (kv4 c a l z) (.str "seed") (.int x) = kv4 c a l x := by simp [kv4, putKv, n_cs, n_as, n_ls]
end
/-- draws lie at i, their cells at c -/
structure Dr (i c : Nat) (cs : List Int) (s : Store) : Prop where
  ne : i ≠ c
  ex : ∃ a l z : Int, s[i]? = some (.dct (kv4 c a l z)) ∧ 0 ≤ a ∧ 0 ≤ l ∧ 0 ≤ z ∧ z < 2305843009213693951
  cl : s[c]? = some (.lst (cs.map D.int))
theorem own_dr (i c : Nat) (cs : List Int) : Own [i, c] (Dr i c cs) := fun s s' e h => by
  obtain ⟨a, l, z, h1, h2⟩ := h.ex
  exact ⟨h.ne, ⟨a, l, z, (e i (by simp)).trans h1, h2⟩, (e c (by simp)).trans h.cl⟩
theorem Dr.old {i c : Nat} {cs : List Int} {s : Store} (h : Dr i c cs s) : ∀ k ∈ [i, c], k < s.length := by
  obtain ⟨a, l, z, h1, _⟩ := h.ex
  intro k hk
  simp only [List.mem_cons, List.not_mem_nil, or_false] at hk
  rcases hk with rfl | rfl
  · exact (List.getElem?_eq_some_iff.mp h1).1
  · exact (List.getElem?_eq_some_iff.mp h.cl).1
theorem Dr.set {i c : Nat} {cs : List Int} {s : Store} (h : Dr i c cs s) {a l z : Int} (h0 : 0 ≤ a) (h1 : 0 ≤ l) (h2 : 0 ≤ z) (h3 : z < 2305843009213693951) : Dr i c cs (s.set i (.dct (kv4 c a l z))) := by
  have hi := h.old i (by simp)
  exact ⟨h.ne, ⟨a, l, z, by simp [hi], h0, h1, h2, h3⟩, by rw [List.getElem?_set_ne h.ne]; exact h.cl⟩
theorem kp_set2 {i c : Nat} {s : Store} {o : Ob} : Kp [i, c] s (s.set i o) := Kp.set (by simp)
section
variable {C : Cts} {i c : Nat} {cs : List Int} {m : Int} {s : Store} {Q : D → Store → Prop}
theorem rest36 {x2 x3 : Option D} (h : Dr i c cs s) (h0 : 0 < m) (h1 : m < 2 ^ 62) (q : ∀ r s', Kp [i, c] s s' → Dr i c cs s' → 0 ≤ r → r < m → Q (.int r) s') :
    wp (runs C rest36_b [some (.ob i), some (.int m), x2, x3]) (endQ Q) s := by
  obtain ⟨a, l, z, hi, ha, hl, hz, hz2⟩ := h.ex
  have hlt := h.old i (by simp)
  unfold rest36_b
  have hlog : m.natAbs.log2 < 9000 := log_small h0 (by omega)
  try simp only [wp_cons, wp_nil, wp_asg, wp_expr, wp_retS, wp_retN, wp_iteS, wp_pass, wp_brk, wp_cont, wp_setIx, wp_augX, wp_asgT, wp_for, wp_varX, wp_cst, wp_bin, wp_cmp, wp_cmpT, wp_chainT, wp_chain, wp_and, wp_or, wp_not, wp_iteT, wp_negX, x_negI, x_slS, x_listT, x_tupT, x_bindT, setAll_cons, setAll_nil, true_and, and_true, eq_self, big0, big1, big2, big3, big4, big5, big6, big7, big8, big9, big10, wp_fld, wp_fldT, wp_mcall, wp_mcallT, wp_make, wp_setFld, wp_augFld, wp_asgF, wp_whil, wp_zip, insQ_some, asgFQ_eq, x_setFlds0, x_setFlds1, x_augA, x_augS, x_zipT, x_mulT1, x_mulT0, wp_andT, wp_orT, wp_notT, wp_iteE, wp_idx, wp_sl, wp_call, wp_callK, wp_call0, wp_globX, wp_dictA, wp_bi, wp_tup, wp_lstA, wp_dict0A, wp_meth, wp_lcA, wp_evs_nil, wp_evs_cons, wp_evo_none, wp_evo_some, wp_seq, wp_enum, wp_rng1, wp_rng2, wp_idxT, wp_varT, wp_callT, wp_callKT, wp_biT, x_truB, tsto_none, tsto_some,
  seqQ_nx, seqQ_ret, seqQ_bk, seqQ_ct, endQ_ret, endQ_nx, varQ_some, lstQ_some, dctQ_some, optQ_some, blQ_bl, inQ_int, rgQ_int, rg2Q_int,
  x_eqSS, x_eqII, x_neSS, x_neII, str_we, str_ew, decide_true, decide_false, if_true, if_false, Bool.false_eq_true, reduceIte, x_addI, x_addT, x_addS, x_subI, x_mulI, x_divI, x_modI, x_powI, x_ltI, x_leI, x_gtI, x_geI, x_is, x_isnot, x_isB, x_isNB, x_ixT, x_ixF, x_abs, x_lenT, x_lenF, x_intI, x_intB, x_max2, x_min2, x_seqT, x_seqF, x_slT, x_slFA,
  List.map_cons, List.map_nil, List.length_cons, List.length_nil, List.cons_append, List.nil_append, List.replicate_succ, List.replicate_zero, Nat.reduceSub, Nat.reduceAdd, List.set_cons_zero, List.set_cons_succ, List.getElem?_cons_zero, List.getElem?_cons_succ, Nat.add_zero, Nat.zero_add, Nat.sub_self, decide_eq_true_eq, x_ixD hi, k4, g4l, true_and]
  by_cases hp : l > 0
  · simp only [if_pos hp]
    try simp only [wp_cons, wp_nil, wp_asg, wp_expr, wp_retS, wp_retN, wp_iteS, wp_pass, wp_brk, wp_cont, wp_setIx, wp_augX, wp_asgT, wp_for, wp_varX, wp_cst, wp_bin, wp_cmp, wp_cmpT, wp_chainT, wp_chain, wp_and, wp_or, wp_not, wp_iteT, wp_negX, x_negI, x_slS, x_listT, x_tupT, x_bindT, setAll_cons, setAll_nil, true_and, and_true, eq_self, big0, big1, big2, big3, big4, big5, big6, big7, big8, big9, big10, wp_fld, wp_fldT, wp_mcall, wp_mcallT, wp_make, wp_setFld, wp_augFld, wp_asgF, wp_whil, wp_zip, insQ_some, asgFQ_eq, x_setFlds0, x_setFlds1, x_augA, x_augS, x_zipT, x_mulT1, x_mulT0, wp_andT, wp_orT, wp_notT, wp_iteE, wp_idx, wp_sl, wp_call, wp_callK, wp_call0, wp_globX, wp_dictA, wp_bi, wp_tup, wp_lstA, wp_dict0A, wp_meth, wp_lcA, wp_evs_nil, wp_evs_cons, wp_evo_none, wp_evo_some, wp_seq, wp_enum, wp_rng1, wp_rng2, wp_idxT, wp_varT, wp_callT, wp_callKT, wp_biT, x_truB, tsto_none, tsto_some,
  seqQ_nx, seqQ_ret, seqQ_bk, seqQ_ct, endQ_ret, endQ_nx, varQ_some, lstQ_some, dctQ_some, optQ_some, blQ_bl, inQ_int, rgQ_int, rg2Q_int,
  x_eqSS, x_eqII, x_neSS, x_neII, str_we, str_ew, decide_true, decide_false, if_true, if_false, Bool.false_eq_true, reduceIte, x_addI, x_addT, x_addS, x_subI, x_mulI, x_divI, x_modI, x_powI, x_ltI, x_leI, x_gtI, x_geI, x_is, x_isnot, x_isB, x_isNB, x_ixT, x_ixF, x_abs, x_lenT, x_lenF, x_intI, x_intB, x_max2, x_min2, x_seqT, x_seqF, x_slT, x_slFA,
  List.map_cons, List.map_nil, List.length_cons, List.length_nil, List.cons_append, List.nil_append, List.replicate_succ, List.replicate_zero, Nat.reduceSub, Nat.reduceAdd, List.set_cons_zero, List.set_cons_succ, List.getElem?_cons_zero, List.getElem?_cons_succ, Nat.add_zero, Nat.zero_add, Nat.sub_self, decide_eq_true_eq, x_ixD hi, k4, g4l, true_and, x_setK hi, len4, p4l]
    exact ⟨h0, ⟨h0, hlog⟩, q _ _ kp_set2 (h.set ha (Int.ediv_nonneg hl (by omega)) hz hz2) (Int.emod_nonneg _ (by omega)) (Int.emod_lt_of_pos _ h0)⟩
  · simp only [if_neg hp]
    have h2 : ∀ y : Int, (s.set i (.dct (kv4 c a l y)))[i]? = some (.dct (kv4 c a l y)) := fun y => by simp [hlt]
    try simp only [wp_cons, wp_nil, wp_asg, wp_expr, wp_retS, wp_retN, wp_iteS, wp_pass, wp_brk, wp_cont, wp_setIx, wp_augX, wp_asgT, wp_for, wp_varX, wp_cst, wp_bin, wp_cmp, wp_cmpT, wp_chainT, wp_chain, wp_and, wp_or, wp_not, wp_iteT, wp_negX, x_negI, x_slS, x_listT, x_tupT, x_bindT, setAll_cons, setAll_nil, true_and, and_true, eq_self, big0, big1, big2, big3, big4, big5, big6, big7, big8, big9, big10, wp_fld, wp_fldT, wp_mcall, wp_mcallT, wp_make, wp_setFld, wp_augFld, wp_asgF, wp_whil, wp_zip, insQ_some, asgFQ_eq, x_setFlds0, x_setFlds1, x_augA, x_augS, x_zipT, x_mulT1, x_mulT0, wp_andT, wp_orT, wp_notT, wp_iteE, wp_idx, wp_sl, wp_call, wp_callK, wp_call0, wp_globX, wp_dictA, wp_bi, wp_tup, wp_lstA, wp_dict0A, wp_meth, wp_lcA, wp_evs_nil, wp_evs_cons, wp_evo_none, wp_evo_some, wp_seq, wp_enum, wp_rng1, wp_rng2, wp_idxT, wp_varT, wp_callT, wp_callKT, wp_biT, x_truB, tsto_none, tsto_some,
  seqQ_nx, seqQ_ret, seqQ_bk, seqQ_ct, endQ_ret, endQ_nx, varQ_some, lstQ_some, dctQ_some, optQ_some, blQ_bl, inQ_int, rgQ_int, rg2Q_int,
  x_eqSS, x_eqII, x_neSS, x_neII, str_we, str_ew, decide_true, decide_false, if_true, if_false, Bool.false_eq_true, reduceIte, x_addI, x_addT, x_addS, x_subI, x_mulI, x_divI, x_modI, x_powI, x_ltI, x_leI, x_gtI, x_geI, x_is, x_isnot, x_isB, x_isNB, x_ixT, x_ixF, x_abs, x_lenT, x_lenF, x_intI, x_intB, x_max2, x_min2, x_seqT, x_seqF, x_slT, x_slFA,
  List.map_cons, List.map_nil, List.length_cons, List.length_nil, List.cons_append, List.nil_append, List.replicate_succ, List.replicate_zero, Nat.reduceSub, Nat.reduceAdd, List.set_cons_zero, List.set_cons_succ, List.getElem?_cons_zero, List.getElem?_cons_succ, Nat.add_zero, Nat.zero_add, Nat.sub_self, decide_eq_true_eq, x_ixD hi, k4, g4s, true_and, x_setK hi, len4, p4s, x_ixD (h2 _)]
    have e1 : 0 ≤ (z * 1181783497276652981 + 12345678910987) % 2305843009213693951 := Int.emod_nonneg _ (by decide)
    have e2 : (z * 1181783497276652981 + 12345678910987) % 2305843009213693951 < 2305843009213693951 := Int.emod_lt_of_pos _ (by decide)
    exact ⟨mulOk_left (by omega) (by omega), by decide, mulOk_left (by omega) (by omega), by decide, ⟨by decide, by decide⟩, h0, q _ _ kp_set2 (h.set ha hl e1 e2) (Int.emod_nonneg _ (by omega)) (Int.emod_lt_of_pos _ h0)⟩
theorem next36_wp (h : Dr i c cs s) (h0 : 0 < m) (h1 : m < 2 ^ 62) (q : ∀ r s', Kp [i, c] s s' → Dr i c cs s' → 0 ≤ r → r < m → Q (.int r) s') : wp (callDef C 4 next36_b [.ob i, .int m]) Q s := by
  obtain ⟨a, l, z, hi, ha, hl, hz, hz2⟩ := h.ex
  have hlt := h.old i (by simp)
  rw [wp_callDef]
  unfold next36_b
  rw [wp_cons, wp_iteS]
  try simp only [wp_cons, wp_nil, wp_asg, wp_expr, wp_retS, wp_retN, wp_iteS, wp_pass, wp_brk, wp_cont, wp_setIx, wp_augX, wp_asgT, wp_for, wp_varX, wp_cst, wp_bin, wp_cmp, wp_cmpT, wp_chainT, wp_chain, wp_and, wp_or, wp_not, wp_iteT, wp_negX, x_negI, x_slS, x_listT, x_tupT, x_bindT, setAll_cons, setAll_nil, true_and, and_true, eq_self, big0, big1, big2, big3, big4, big5, big6, big7, big8, big9, big10, wp_fld, wp_fldT, wp_mcall, wp_mcallT, wp_make, wp_setFld, wp_augFld, wp_asgF, wp_whil, wp_zip, insQ_some, asgFQ_eq, x_setFlds0, x_setFlds1, x_augA, x_augS, x_zipT, x_mulT1, x_mulT0, wp_andT, wp_orT, wp_notT, wp_iteE, wp_idx, wp_sl, wp_call, wp_callK, wp_call0, wp_globX, wp_dictA, wp_bi, wp_tup, wp_lstA, wp_dict0A, wp_meth, wp_lcA, wp_evs_nil, wp_evs_cons, wp_evo_none, wp_evo_some, wp_seq, wp_enum, wp_rng1, wp_rng2, wp_idxT, wp_varT, wp_callT, wp_callKT, wp_biT, x_truB, tsto_none, tsto_some,
  seqQ_nx, seqQ_ret, seqQ_bk, seqQ_ct, endQ_ret, endQ_nx, varQ_some, lstQ_some, dctQ_some, optQ_some, blQ_bl, inQ_int, rgQ_int, rg2Q_int,
  x_eqSS, x_eqII, x_neSS, x_neII, str_we, str_ew, decide_true, decide_false, if_true, if_false, Bool.false_eq_true, reduceIte, x_addI, x_addT, x_addS, x_subI, x_mulI, x_divI, x_modI, x_powI, x_ltI, x_leI, x_gtI, x_geI, x_is, x_isnot, x_isB, x_isNB, x_ixT, x_ixF, x_abs, x_lenT, x_lenF, x_intI, x_intB, x_max2, x_min2, x_seqT, x_seqF, x_slT, x_slFA,
  List.map_cons, List.map_nil, List.length_cons, List.length_nil, List.cons_append, List.nil_append, List.replicate_succ, List.replicate_zero, Nat.reduceSub, Nat.reduceAdd, List.set_cons_zero, List.set_cons_succ, List.getElem?_cons_zero, List.getElem?_cons_succ, Nat.add_zero, Nat.zero_add, Nat.sub_self, decide_eq_true_eq, x_ixD hi, k4, g4l, g4a, g4c, true_and, x_lenL h.cl]
  have rest : ∀ {x2 x3 : Option D} {s1 : Store}, Dr i c cs s1 → Kp [i, c] s s1 → _ := fun {x2 x3 s1} D1 K1 => rest36 (C := C) (x2 := x2) (x3 := x3) (Q := Q) D1 h0 h1 fun r s' K D' r0 r1 => q r s' (K1.trans K) D' r0 r1
  have rest0 := rest (x2 := none) (x3 := none) h (Kp.refl _ _)
  by_cases hl0 : l = 0
  · simp only [if_pos hl0]
    by_cases hat : a < ((cs.map D.int).length : Int)
    · simp only [if_pos hat]
      obtain ⟨d, hd, hm, _⟩ := atI_nat (xs := cs.map D.int) ha hat
      obtain ⟨cell, _, rfl⟩ := List.mem_map.mp hm
      rw [x_ixL h.cl, hd, optQ_some]
      have h2 : (s.set i (.dct (kv4 c (a + 1) l z)))[i]? = some (.dct (kv4 c (a + 1) l z)) := by simp [hlt]
      have p1 : (0 : Int) ≤ 30 ∧ (Builtin.Int.intBits 10 : Int) * 30 ≤ 2 ^ 27 := by decide +kernel
      have p2 : (0 : Int) ≤ 18 ∧ (Builtin.Int.intBits 10 : Int) * 18 ≤ 2 ^ 27 := by decide +kernel
      have p3 : (0 : Int) < 10 ^ (30 : Int).toNat := by decide +kernel
      try simp only [wp_cons, wp_nil, wp_asg, wp_expr, wp_retS, wp_retN, wp_iteS, wp_pass, wp_brk, wp_cont, wp_setIx, wp_augX, wp_asgT, wp_for, wp_varX, wp_cst, wp_bin, wp_cmp, wp_cmpT, wp_chainT, wp_chain, wp_and, wp_or, wp_not, wp_iteT, wp_negX, x_negI, x_slS, x_listT, x_tupT, x_bindT, setAll_cons, setAll_nil, true_and, and_true, eq_self, big0, big1, big2, big3, big4, big5, big6, big7, big8, big9, big10, wp_fld, wp_fldT, wp_mcall, wp_mcallT, wp_make, wp_setFld, wp_augFld, wp_asgF, wp_whil, wp_zip, insQ_some, asgFQ_eq, x_setFlds0, x_setFlds1, x_augA, x_augS, x_zipT, x_mulT1, x_mulT0, wp_andT, wp_orT, wp_notT, wp_iteE, wp_idx, wp_sl, wp_call, wp_callK, wp_call0, wp_globX, wp_dictA, wp_bi, wp_tup, wp_lstA, wp_dict0A, wp_meth, wp_lcA, wp_evs_nil, wp_evs_cons, wp_evo_none, wp_evo_some, wp_seq, wp_enum, wp_rng1, wp_rng2, wp_idxT, wp_varT, wp_callT, wp_callKT, wp_biT, x_truB, tsto_none, tsto_some,
  seqQ_nx, seqQ_ret, seqQ_bk, seqQ_ct, endQ_ret, endQ_nx, varQ_some, lstQ_some, dctQ_some, optQ_some, blQ_bl, inQ_int, rgQ_int, rg2Q_int,
  x_eqSS, x_eqII, x_neSS, x_neII, str_we, str_ew, decide_true, decide_false, if_true, if_false, Bool.false_eq_true, reduceIte, x_addI, x_addT, x_addS, x_subI, x_mulI, x_divI, x_modI, x_powI, x_ltI, x_leI, x_gtI, x_geI, x_is, x_isnot, x_isB, x_isNB, x_ixT, x_ixF, x_abs, x_lenT, x_lenF, x_intI, x_intB, x_max2, x_min2, x_seqT, x_seqF, x_slT, x_slFA,
  List.map_cons, List.map_nil, List.length_cons, List.length_nil, List.cons_append, List.nil_append, List.replicate_succ, List.replicate_zero, Nat.reduceSub, Nat.reduceAdd, List.set_cons_zero, List.set_cons_succ, List.getElem?_cons_zero, List.getElem?_cons_succ, Nat.add_zero, Nat.zero_add, Nat.sub_self, decide_eq_true_eq, x_ixD hi, k4, g4a, true_and, x_setK hi, len4, p4a, x_ixD h2, g4s, x_setK h2, p4s]
      generalize hse : (z * 7368787 + cell % 10 ^ (30 : Int).toNat + 11) % 2305843009213693951 = se
      have e1 : 0 ≤ se := by rw [← hse]; exact Int.emod_nonneg _ (by decide)
      have e2 : se < 2305843009213693951 := by rw [← hse]; exact Int.emod_lt_of_pos _ (by decide)
      have h3 : (s.set i (.dct (kv4 c (a + 1) l se)))[i]? = some (.dct (kv4 c (a + 1) l se)) := by simp [hlt]
      simp only [List.set_set]
      simp only [x_setK h3, k4, len4, true_and, p4l, List.set_set]
      refine ⟨mulOk_left (by omega) (by omega), p1, p3, by decide, p2, mulOk_right ?_ ?_, ?_⟩
      · split <;> decide
      · split <;> decide
      · have hle : 0 ≤ cell * (if cell ≥ 10 ^ (18 : Int).toNat then 1 else 0) := by
          split
          · rename_i hc
            have : (10 : Int) ^ (18 : Int).toNat = 1000000000000000000 := by decide
            omega
          · omega
        have D1 := h.set (a := a + 1) (z := se) (by omega) hle e1 e2
        have r := rest (x2 := some (.int cell)) (x3 := none) D1 kp_set2
        exact r
    · simp only [if_neg hat]
      exact rest0
  · simp only [if_neg hl0]
    exact rest0
/-- one of a list that stands -/
theorem of36_wp {C1 : Cts} {j : Nat} {ds : List D} (hC : C.fn "_law_next" = callDef C1 4 next36_b) (h : Dr i c cs s) (hj : s[j]? = some (.lst ds)) (hij : j ∉ [i, c]) (h0 : ds ≠ []) (h1 : ds.length < 2 ^ 60)
    (q : ∀ d ∈ ds, ∀ s', Kp [i, c] s s' → Dr i c cs s' → Q d s') : wp (callDef C 2 of36_b [.ob i, .ob j]) Q s := by
  rw [wp_callDef]
  unfold of36_b
  try simp only [wp_cons, wp_nil, wp_asg, wp_expr, wp_retS, wp_retN, wp_iteS, wp_pass, wp_brk, wp_cont, wp_setIx, wp_augX, wp_asgT, wp_for, wp_varX, wp_cst, wp_bin, wp_cmp, wp_cmpT, wp_chainT, wp_chain, wp_and, wp_or, wp_not, wp_iteT, wp_negX, x_negI, x_slS, x_listT, x_tupT, x_bindT, setAll_cons, setAll_nil, true_and, and_true, eq_self, big0, big1, big2, big3, big4, big5, big6, big7, big8, big9, big10, wp_fld, wp_fldT, wp_mcall, wp_mcallT, wp_make, wp_setFld, wp_augFld, wp_asgF, wp_whil, wp_zip, insQ_some, asgFQ_eq, x_setFlds0, x_setFlds1, x_augA, x_augS, x_zipT, x_mulT1, x_mulT0, wp_andT, wp_orT, wp_notT, wp_iteE, wp_idx, wp_sl, wp_call, wp_callK, wp_call0, wp_globX, wp_dictA, wp_bi, wp_tup, wp_lstA, wp_dict0A, wp_meth, wp_lcA, wp_evs_nil, wp_evs_cons, wp_evo_none, wp_evo_some, wp_seq, wp_enum, wp_rng1, wp_rng2, wp_idxT, wp_varT, wp_callT, wp_callKT, wp_biT, x_truB, tsto_none, tsto_some,
  seqQ_nx, seqQ_ret, seqQ_bk, seqQ_ct, endQ_ret, endQ_nx, varQ_some, lstQ_some, dctQ_some, optQ_some, blQ_bl, inQ_int, rgQ_int, rg2Q_int,
  x_eqSS, x_eqII, x_neSS, x_neII, str_we, str_ew, decide_true, decide_false, if_true, if_false, Bool.false_eq_true, reduceIte, x_addI, x_addT, x_addS, x_subI, x_mulI, x_divI, x_modI, x_powI, x_ltI, x_leI, x_gtI, x_geI, x_is, x_isnot, x_isB, x_isNB, x_ixT, x_ixF, x_abs, x_lenT, x_lenF, x_intI, x_intB, x_max2, x_min2, x_seqT, x_seqF, x_slT, x_slFA,
  List.map_cons, List.map_nil, List.length_cons, List.length_nil, List.cons_append, List.nil_append, List.replicate_succ, List.replicate_zero, Nat.reduceSub, Nat.reduceAdd, List.set_cons_zero, List.set_cons_succ, List.getElem?_cons_zero, List.getElem?_cons_succ, Nat.add_zero, Nat.zero_add, Nat.sub_self, decide_eq_true_eq, x_lenL hj, hC]
  have hp : 0 < ds.length := List.length_pos_iff.mpr h0
  refine next36_wp h (by omega) (by omega) fun r s' K D r0 r1 => ?_
  have hj' : s'[j]? = some (.lst ds) := K.at' _ _ hij hj
  obtain ⟨d, hd, hm, _⟩ := atI_nat (xs := ds) r0 r1
  try simp only [wp_cons, wp_nil, wp_asg, wp_expr, wp_retS, wp_retN, wp_iteS, wp_pass, wp_brk, wp_cont, wp_setIx, wp_augX, wp_asgT, wp_for, wp_varX, wp_cst, wp_bin, wp_cmp, wp_cmpT, wp_chainT, wp_chain, wp_and, wp_or, wp_not, wp_iteT, wp_negX, x_negI, x_slS, x_listT, x_tupT, x_bindT, setAll_cons, setAll_nil, true_and, and_true, eq_self, big0, big1, big2, big3, big4, big5, big6, big7, big8, big9, big10, wp_fld, wp_fldT, wp_mcall, wp_mcallT, wp_make, wp_setFld, wp_augFld, wp_asgF, wp_whil, wp_zip, insQ_some, asgFQ_eq, x_setFlds0, x_setFlds1, x_augA, x_augS, x_zipT, x_mulT1, x_mulT0, wp_andT, wp_orT, wp_notT, wp_iteE, wp_idx, wp_sl, wp_call, wp_callK, wp_call0, wp_globX, wp_dictA, wp_bi, wp_tup, wp_lstA, wp_dict0A, wp_meth, wp_lcA, wp_evs_nil, wp_evs_cons, wp_evo_none, wp_evo_some, wp_seq, wp_enum, wp_rng1, wp_rng2, wp_idxT, wp_varT, wp_callT, wp_callKT, wp_biT, x_truB, tsto_none, tsto_some,
  seqQ_nx, seqQ_ret, seqQ_bk, seqQ_ct, endQ_ret, endQ_nx, varQ_some, lstQ_some, dctQ_some, optQ_some, blQ_bl, inQ_int, rgQ_int, rg2Q_int,
  x_eqSS, x_eqII, x_neSS, x_neII, str_we, str_ew, decide_true, decide_false, if_true, if_false, Bool.false_eq_true, reduceIte, x_addI, x_addT, x_addS, x_subI, x_mulI, x_divI, x_modI, x_powI, x_ltI, x_leI, x_gtI, x_geI, x_is, x_isnot, x_isB, x_isNB, x_ixT, x_ixF, x_abs, x_lenT, x_lenF, x_intI, x_intB, x_max2, x_min2, x_seqT, x_seqF, x_slT, x_slFA,
  List.map_cons, List.map_nil, List.length_cons, List.length_nil, List.cons_append, List.nil_append, List.replicate_succ, List.replicate_zero, Nat.reduceSub, Nat.reduceAdd, List.set_cons_zero, List.set_cons_succ, List.getElem?_cons_zero, List.getElem?_cons_succ, Nat.add_zero, Nat.zero_add, Nat.sub_self, decide_eq_true_eq, x_ixL hj', hd]
  exact q d hm s' K D
theorem begin36_wp {ns : List Int} (q : ∀ i c cs s', Kp [] s s' → s.length ≤ i → Dr i c cs s' → Q (.ob i) s') (hl : ns.length ≤ 63) : wp (callDef C 1 begin36_b [.fls (ns.map D.int)]) Q s := by
  rw [wp_callDef]
  unfold begin36_b
  try simp only [wp_cons, wp_nil, wp_asg, wp_expr, wp_retS, wp_retN, wp_iteS, wp_pass, wp_brk, wp_cont, wp_setIx, wp_augX, wp_asgT, wp_for, wp_varX, wp_cst, wp_bin, wp_cmp, wp_cmpT, wp_chainT, wp_chain, wp_and, wp_or, wp_not, wp_iteT, wp_negX, x_negI, x_slS, x_listT, x_tupT, x_bindT, setAll_cons, setAll_nil, true_and, and_true, eq_self, big0, big1, big2, big3, big4, big5, big6, big7, big8, big9, big10, wp_fld, wp_fldT, wp_mcall, wp_mcallT, wp_make, wp_setFld, wp_augFld, wp_asgF, wp_whil, wp_zip, insQ_some, asgFQ_eq, x_setFlds0, x_setFlds1, x_augA, x_augS, x_zipT, x_mulT1, x_mulT0, wp_andT, wp_orT, wp_notT, wp_iteE, wp_idx, wp_sl, wp_call, wp_callK, wp_call0, wp_globX, wp_dictA, wp_bi, wp_tup, wp_lstA, wp_dict0A, wp_meth, wp_lcA, wp_evs_nil, wp_evs_cons, wp_evo_none, wp_evo_some, wp_seq, wp_enum, wp_rng1, wp_rng2, wp_idxT, wp_varT, wp_callT, wp_callKT, wp_biT, x_truB, tsto_none, tsto_some,
  seqQ_nx, seqQ_ret, seqQ_bk, seqQ_ct, endQ_ret, endQ_nx, varQ_some, lstQ_some, dctQ_some, optQ_some, blQ_bl, inQ_int, rgQ_int, rg2Q_int,
  x_eqSS, x_eqII, x_neSS, x_neII, str_we, str_ew, decide_true, decide_false, if_true, if_false, Bool.false_eq_true, reduceIte, x_addI, x_addT, x_addS, x_subI, x_mulI, x_divI, x_modI, x_powI, x_ltI, x_leI, x_gtI, x_geI, x_is, x_isnot, x_isB, x_isNB, x_ixT, x_ixF, x_abs, x_lenT, x_lenF, x_intI, x_intB, x_max2, x_min2, x_seqT, x_seqF, x_slT, x_slFA,
  List.map_cons, List.map_nil, List.length_cons, List.length_nil, List.cons_append, List.nil_append, List.replicate_succ, List.replicate_zero, Nat.reduceSub, Nat.reduceAdd, List.set_cons_zero, List.set_cons_succ, List.getElem?_cons_zero, List.getElem?_cons_succ, Nat.add_zero, Nat.zero_add, Nat.sub_self, decide_eq_true_eq]
  refine (Lv.start0 s).alloc fun k1 s1 V1 => ?_
  rw [x_listL (V1.get 0 rfl)]
  refine V1.alloc fun k2 s2 V2 => ?_
  try simp only [wp_cons, wp_nil, wp_asg, wp_expr, wp_retS, wp_retN, wp_iteS, wp_pass, wp_brk, wp_cont, wp_setIx, wp_augX, wp_asgT, wp_for, wp_varX, wp_cst, wp_bin, wp_cmp, wp_cmpT, wp_chainT, wp_chain, wp_and, wp_or, wp_not, wp_iteT, wp_negX, x_negI, x_slS, x_listT, x_tupT, x_bindT, setAll_cons, setAll_nil, true_and, and_true, eq_self, big0, big1, big2, big3, big4, big5, big6, big7, big8, big9, big10, wp_fld, wp_fldT, wp_mcall, wp_mcallT, wp_make, wp_setFld, wp_augFld, wp_asgF, wp_whil, wp_zip, insQ_some, asgFQ_eq, x_setFlds0, x_setFlds1, x_augA, x_augS, x_zipT, x_mulT1, x_mulT0, wp_andT, wp_orT, wp_notT, wp_iteE, wp_idx, wp_sl, wp_call, wp_callK, wp_call0, wp_globX, wp_dictA, wp_bi, wp_tup, wp_lstA, wp_dict0A, wp_meth, wp_lcA, wp_evs_nil, wp_evs_cons, wp_evo_none, wp_evo_some, wp_seq, wp_enum, wp_rng1, wp_rng2, wp_idxT, wp_varT, wp_callT, wp_callKT, wp_biT, x_truB, tsto_none, tsto_some,
  seqQ_nx, seqQ_ret, seqQ_bk, seqQ_ct, endQ_ret, endQ_nx, varQ_some, lstQ_some, dctQ_some, optQ_some, blQ_bl, inQ_int, rgQ_int, rg2Q_int,
  x_eqSS, x_eqII, x_neSS, x_neII, str_we, str_ew, decide_true, decide_false, if_true, if_false, Bool.false_eq_true, reduceIte, x_addI, x_addT, x_addS, x_subI, x_mulI, x_divI, x_modI, x_powI, x_ltI, x_leI, x_gtI, x_geI, x_is, x_isnot, x_isB, x_isNB, x_ixT, x_ixF, x_abs, x_lenT, x_lenF, x_intI, x_intB, x_max2, x_min2, x_seqT, x_seqF, x_slT, x_slFA,
  List.map_cons, List.map_nil, List.length_cons, List.length_nil, List.cons_append, List.nil_append, List.replicate_succ, List.replicate_zero, Nat.reduceSub, Nat.reduceAdd, List.set_cons_zero, List.set_cons_succ, List.getElem?_cons_zero, List.getElem?_cons_succ, Nat.add_zero, Nat.zero_add, Nat.sub_self, decide_eq_true_eq]
  refine V2.alloc fun k3 s3 V3 => ?_
  rw [x_lenL (V3.get 0 rfl)]
  try simp only [wp_cons, wp_nil, wp_asg, wp_expr, wp_retS, wp_retN, wp_iteS, wp_pass, wp_brk, wp_cont, wp_setIx, wp_augX, wp_asgT, wp_for, wp_varX, wp_cst, wp_bin, wp_cmp, wp_cmpT, wp_chainT, wp_chain, wp_and, wp_or, wp_not, wp_iteT, wp_negX, x_negI, x_slS, x_listT, x_tupT, x_bindT, setAll_cons, setAll_nil, true_and, and_true, eq_self, big0, big1, big2, big3, big4, big5, big6, big7, big8, big9, big10, wp_fld, wp_fldT, wp_mcall, wp_mcallT, wp_make, wp_setFld, wp_augFld, wp_asgF, wp_whil, wp_zip, insQ_some, asgFQ_eq, x_setFlds0, x_setFlds1, x_augA, x_augS, x_zipT, x_mulT1, x_mulT0, wp_andT, wp_orT, wp_notT, wp_iteE, wp_idx, wp_sl, wp_call, wp_callK, wp_call0, wp_globX, wp_dictA, wp_bi, wp_tup, wp_lstA, wp_dict0A, wp_meth, wp_lcA, wp_evs_nil, wp_evs_cons, wp_evo_none, wp_evo_some, wp_seq, wp_enum, wp_rng1, wp_rng2, wp_idxT, wp_varT, wp_callT, wp_callKT, wp_biT, x_truB, tsto_none, tsto_some,
  seqQ_nx, seqQ_ret, seqQ_bk, seqQ_ct, endQ_ret, endQ_nx, varQ_some, lstQ_some, dctQ_some, optQ_some, blQ_bl, inQ_int, rgQ_int, rg2Q_int,
  x_eqSS, x_eqII, x_neSS, x_neII, str_we, str_ew, decide_true, decide_false, if_true, if_false, Bool.false_eq_true, reduceIte, x_addI, x_addT, x_addS, x_subI, x_mulI, x_divI, x_modI, x_powI, x_ltI, x_leI, x_gtI, x_geI, x_is, x_isnot, x_isB, x_isNB, x_ixT, x_ixF, x_abs, x_lenT, x_lenF, x_intI, x_intB, x_max2, x_min2, x_seqT, x_seqF, x_slT, x_slFA,
  List.map_cons, List.map_nil, List.length_cons, List.length_nil, List.cons_append, List.nil_append, List.replicate_succ, List.replicate_zero, Nat.reduceSub, Nat.reduceAdd, List.set_cons_zero, List.set_cons_succ, List.getElem?_cons_zero, List.getElem?_cons_succ, Nat.add_zero, Nat.zero_add, Nat.sub_self, decide_eq_true_eq]
  refine ⟨by decide, V3.alloc fun k4 s4 V4 => ?_⟩
  have h1 := V4.get 0 rfl
  have h2 := V4.get 2 rfl
  have hne : k4 ≠ k2 := by
    have := V4.at'.2.1 (k2, _) (List.mem_cons_of_mem _ List.mem_cons_self)
    exact fun z => this z.symm
  have hc : (cutL (ns.map D.int) none (some 63)) = (ns.take 63).map D.int := by rw [cutL_take _ (by decide), List.map_take]; rfl
  rw [hc] at h1 h2
  refine q k4 k2 (ns.take 63) s4 V4.kp (V4.fr (k4, _) List.mem_cons_self) ⟨hne, ⟨0, 0, _, h1, by omega, by omega, ?_, ?_⟩, h2⟩
  · simp only [List.length_map]; omega
  · simp only [List.length_map, List.length_take]; omega
end
section
variable {C1 C2 : Cts} {i c : Nat} {cs : List Int} {s0 s : Store} {L : List (Nat × Ob)} {Q : D → Store → Prop}
theorem Lv.next36 {m : Int} (V : Lv s0 [i, c] (Dr i c cs) L s) (h0 : 0 < m) (h1 : m < 2 ^ 62) (q : ∀ r s1, Lv s0 [i, c] (Dr i c cs) L s1 → 0 ≤ r → r < m → Q (.int r) s1) : wp (callDef C1 4 next36_b [.ob i, .int m]) Q s :=
  next36_wp V.pr h0 h1 fun r s' K D r0 r1 => q r s' (V.call K D (own_dr i c cs)) r0 r1
theorem Lv.pick36 {ds : List D} (V : Lv s0 [i, c] (Dr i c cs) L s) (hC : C2.fn "_law_next" = callDef C1 4 next36_b) (h0 : ds ≠ []) (h1 : ds.length < 2 ^ 60) (q : ∀ d ∈ ds, ∀ s1, Lv s0 [i, c] (Dr i c cs) L s1 → Q d s1) :
    wp (W9.alloc (.lst ds)) (fun x s => wp (callDef C2 2 of36_b [.ob i, x]) Q s) s :=
  V.alloc fun k s1 V1 => of36_wp hC V1.pr (V1.get 0 rfl) (V1.nin (p := (k, .lst ds)) (by simp)) h0 h1 fun d hd s' K D => q d hd s' ((V1.call K D (own_dr i c cs)).sub (List.sublist_cons_self _ _))
theorem Lv.pickN36 {ds : List D} {m : Int} (V : Lv s0 [i, c] (Dr i c cs) L s) (h0 : 0 < m) (hm : m = ds.length) (h1 : m < 2 ^ 62) (q : ∀ d ∈ ds, ∀ s1, Lv s0 [i, c] (Dr i c cs) L s1 → Q d s1) :
    wp (W9.alloc (.lst ds)) (fun x s => wp (callDef C1 4 next36_b [.ob i, .int m]) (fun r s => wp (ixD x r) Q s) s) s :=
  V.alloc fun k s1 V1 => V1.next36 h0 h1 fun r s' V2 r0 r1 => by
    obtain ⟨d, hd, hm', _⟩ := atI_nat (xs := ds) r0 (by omega)
    rw [x_ixL (V2.get 0 rfl), hd, optQ_some]
    exact q d hm' s' (V2.sub (List.sublist_cons_self _ _))
end
theorem mem_int {z : D} {l : List Int} (h : z ∈ l.map D.int) : ∃ g ∈ l, z = .int g := let ⟨g, a, b⟩ := List.mem_map.mp h; ⟨g, a, b.symm⟩
theorem mem_str {z : D} {l : List Str} (h : z ∈ l.map D.str) : ∃ g ∈ l, z = .str g := let ⟨g, a, b⟩ := List.mem_map.mp h; ⟨g, a, b.symm⟩
end W9

/-! Y4: joining -/
namespace W9
open PySem L2
structure Wd where
  row : Str
  key : Str
  text : Str
  time : Int
structure Jn where
  l : Str
  r : Str
  win : Int
  late : Int
abbrev wdD (w : Wd) : D := .tup [.str w.row, .str w.key, .str w.text, .int w.time]
abbrev jnD (J : Jn) : D := .tup [.str J.l, .str J.r, .int J.win, .int J.late]
structure Pr where
  key : Str
  left : Str
  right : Str
  time : Int
abbrev prD (p : Pr) : D := .tup [.str p.key, .str p.left, .str p.right, .int p.time]
def isLate (J : Jn) (c t : Int) : Bool := decide (t + J.late < c)
def iabs (i : Int) : Int := if i < 0 then -i else i
def near (J : Jn) (w o : Wd) : Bool := !decide (w.row = o.row) && (decide (w.key = o.key) && decide (iabs (w.time - o.time) ≤ J.win))
def pairOf (J : Jn) (w o : Wd) : Pr := if w.row = J.l then ⟨w.key, w.text, o.text, max w.time o.time⟩ else ⟨w.key, o.text, w.text, max w.time o.time⟩
structure JS where
  clock : Int
  kept : List Wd
  found : List Pr
def jmade (J : Jn) (c : Int) (kept : List Wd) (w : Wd) : List Pr := if isLate J c w.time = true then [] else (kept.filter (near J w)).map (pairOf J w)
def jstep (J : Jn) (s : JS) (w : Wd) : JS := ⟨max s.clock w.time, if isLate J s.clock w.time = true then s.kept else s.kept ++ [w], s.found ++ jmade J s.clock s.kept w⟩
def jrun (J : Jn) (ws : List Wd) : JS := ws.foldl (jstep J) ⟨-1, [], []⟩
theorem jrun_snoc (J : Jn) (ws : List Wd) (w : Wd) : jrun J (ws ++ [w]) = jstep J (jrun J ws) w := by simp [jrun]
theorem jstep_late {J : Jn} {s : JS} {w : Wd} (h : isLate J s.clock w.time = true) : jstep J s w = ⟨max s.clock w.time, s.kept, s.found⟩ := by simp [jstep, jmade, h]
theorem jstep_ok {J : Jn} {s : JS} {w : Wd} (h : ¬ isLate J s.clock w.time = true) : jstep J s w = ⟨max s.clock w.time, s.kept ++ [w], s.found ++ (s.kept.filter (near J w)).map (pairOf J w)⟩ := by simp [jstep, jmade, h]
theorem jrun_kept (J : Jn) (ws : List Wd) : (jrun J ws).kept.length ≤ ws.length := by
  unfold jrun
  rw [← List.reverse_reverse ws]
  generalize ws.reverse = l
  induction l with
  | nil => simp
  | cons w l ih =>
    rw [List.reverse_cons, List.foldl_append]
    simp only [List.foldl_cons, List.foldl_nil, jstep, List.length_append, List.length_cons, List.length_nil] at ih ⊢
    split
    · omega
    · simp only [List.length_append, List.length_cons, List.length_nil]; omega
theorem jmade_len {J : Jn} {c : Int} {kept : List Wd} {w : Wd} : (jmade J c kept w).length ≤ kept.length := by
  unfold jmade
  split
  · simp
  · rw [List.length_map]; exact List.length_filter_le _ _
theorem jrun_found (J : Jn) (n : Nat) : ∀ ws : List Wd, ws.length ≤ n → (jrun J ws).found.length ≤ ws.length * n := by
  intro ws
  rw [← List.reverse_reverse ws]
  generalize ws.reverse = l
  induction l with
  | nil => intro _; simp [jrun]
  | cons w l ih =>
    intro h
    rw [List.reverse_cons] at h ⊢
    rw [jrun_snoc]
    simp only [List.length_append, List.length_cons, List.length_nil] at h
    have := ih (by omega)
    have h2 := jmade_len (J := J) (c := (jrun J l.reverse).clock) (kept := (jrun J l.reverse).kept) (w := w)
    have h3 := jrun_kept J l.reverse
    simp only [jstep, List.length_append, List.length_cons, List.length_nil, Nat.add_mul]
    omega
section
variable {C : Cts} {J : Jn} {w o : Wd} {st : Store} {Q : D → Store → Prop}
def is_late_b : Sms :=
  (.cons (.asgT [3, 4, 5, 6] (.var 0))
    (.cons (.ret (.cmp .Lt (.bin .Add (.var 2) (.var 6)) (.var 1)))
    .nil))
def are_near_b : Sms :=
  (.cons (.asgT [3, 4, 5, 6] (.var 0))
    (.cons (.ret (.and (.cmp .NotEq (.idx (.var 1) (.cst (.int 0))) (.idx (.var 2) (.cst (.int 0)))) (.and (.cmp .Eq (.idx (.var 1) (.cst (.int 1))) (.idx (.var 2) (.cst (.int 1)))) (.cmp .LtE (.bi .abs (.cons (.bin .Sub (.idx (.var 1) (.cst (.int 3))) (.idx (.var 2) (.cst (.int 3)))) .nil)) (.var 5)))))
    .nil))
def pair_made_b : Sms :=
  (.cons (.asgT [3, 4] (.ite (.cmp .Eq (.idx (.var 1) (.cst (.int 0))) (.idx (.var 0) (.cst (.int 0)))) (.tup (.cons (.var 1) (.cons (.var 2) .nil))) (.tup (.cons (.var 2) (.cons (.var 1) .nil)))))
    (.cons (.ret (.tup (.cons (.idx (.var 1) (.cst (.int 1))) (.cons (.idx (.var 3) (.cst (.int 2))) (.cons (.idx (.var 4) (.cst (.int 2))) (.cons (.bi .max (.cons (.idx (.var 1) (.cst (.int 3))) (.cons (.idx (.var 2) (.cst (.int 3))) .nil))) .nil))))))
    .nil))
theorem a4 {a b c d : D} : atI [a, b, c, d] 0 = some a ∧ atI [a, b, c, d] 1 = some b ∧ atI [a, b, c, d] 2 = some c ∧ atI [a, b, c, d] 3 = some d := ⟨rfl, rfl, rfl, rfl⟩
theorem is_late_wp {c t : Int} : wp (callDef C 7 is_late_b [jnD J, .int c, .int t]) Q st ↔ Q (.bl (isLate J c t)) st := by
  rw [wp_callDef]
  unfold is_late_b isLate
  try simp only [wp_cons, wp_nil, wp_asg, wp_expr, wp_retS, wp_retN, wp_iteS, wp_pass, wp_brk, wp_cont, wp_setIx, wp_augX, wp_asgT, wp_for, wp_varX, wp_cst, wp_bin, wp_cmp, wp_cmpT, wp_chainT, wp_chain, wp_and, wp_or, wp_not, wp_iteT, wp_negX, x_negI, x_slS, x_listT, x_tupT, x_bindT, setAll_cons, setAll_nil, true_and, and_true, eq_self, big0, big1, big2, big3, big4, big5, big6, big7, big8, big9, big10, wp_fld, wp_fldT, wp_mcall, wp_mcallT, wp_make, wp_setFld, wp_augFld, wp_asgF, wp_whil, wp_zip, insQ_some, asgFQ_eq, x_setFlds0, x_setFlds1, x_augA, x_augS, x_zipT, x_mulT1, x_mulT0, wp_andT, wp_orT, wp_notT, wp_iteE, wp_idx, wp_sl, wp_call, wp_callK, wp_call0, wp_globX, wp_dictA, wp_bi, wp_tup, wp_lstA, wp_dict0A, wp_meth, wp_lcA, wp_evs_nil, wp_evs_cons, wp_evo_none, wp_evo_some, wp_seq, wp_enum, wp_rng1, wp_rng2, wp_idxT, wp_varT, wp_callT, wp_callKT, wp_biT, x_truB, tsto_none, tsto_some,
  seqQ_nx, seqQ_ret, seqQ_bk, seqQ_ct, endQ_ret, endQ_nx, varQ_some, lstQ_some, dctQ_some, optQ_some, blQ_bl, inQ_int, rgQ_int, rg2Q_int,
  x_eqSS, x_eqII, x_neSS, x_neII, str_we, str_ew, decide_true, decide_false, if_true, if_false, Bool.false_eq_true, reduceIte, x_addI, x_addT, x_addS, x_subI, x_mulI, x_divI, x_modI, x_powI, x_ltI, x_leI, x_gtI, x_geI, x_is, x_isnot, x_isB, x_isNB, x_ixT, x_ixF, x_abs, x_lenT, x_lenF, x_intI, x_intB, x_max2, x_min2, x_seqT, x_seqF, x_slT, x_slFA,
  List.map_cons, List.map_nil, List.length_cons, List.length_nil, List.cons_append, List.nil_append, List.replicate_succ, List.replicate_zero, Nat.reduceSub, Nat.reduceAdd, List.set_cons_zero, List.set_cons_succ, List.getElem?_cons_zero, List.getElem?_cons_succ, Nat.add_zero, Nat.zero_add, Nat.sub_self, decide_eq_true_eq]
theorem are_near_wp : wp (callDef C 7 are_near_b [jnD J, wdD w, wdD o]) Q st ↔ Q (.bl (near J w o)) st := by
  have key : wp (callDef C 7 are_near_b [jnD J, wdD w, wdD o]) (fun d s => d = .bl (near J w o) ∧ s = st) st := by
    rw [wp_callDef]
    unfold are_near_b
    try simp only [wp_cons, wp_nil, wp_asg, wp_expr, wp_retS, wp_retN, wp_iteS, wp_pass, wp_brk, wp_cont, wp_setIx, wp_augX, wp_asgT, wp_for, wp_varX, wp_cst, wp_bin, wp_cmp, wp_cmpT, wp_chainT, wp_chain, wp_and, wp_or, wp_not, wp_iteT, wp_negX, x_negI, x_slS, x_listT, x_tupT, x_bindT, setAll_cons, setAll_nil, true_and, and_true, eq_self, big0, big1, big2, big3, big4, big5, big6, big7, big8, big9, big10, wp_fld, wp_fldT, wp_mcall, wp_mcallT, wp_make, wp_setFld, wp_augFld, wp_asgF, wp_whil, wp_zip, insQ_some, asgFQ_eq, x_setFlds0, x_setFlds1, x_augA, x_augS, x_zipT, x_mulT1, x_mulT0, wp_andT, wp_orT, wp_notT, wp_iteE, wp_idx, wp_sl, wp_call, wp_callK, wp_call0, wp_globX, wp_dictA, wp_bi, wp_tup, wp_lstA, wp_dict0A, wp_meth, wp_lcA, wp_evs_nil, wp_evs_cons, wp_evo_none, wp_evo_some, wp_seq, wp_enum, wp_rng1, wp_rng2, wp_idxT, wp_varT, wp_callT, wp_callKT, wp_biT, x_truB, tsto_none, tsto_some,
  seqQ_nx, seqQ_ret, seqQ_bk, seqQ_ct, endQ_ret, endQ_nx, varQ_some, lstQ_some, dctQ_some, optQ_some, blQ_bl, inQ_int, rgQ_int, rg2Q_int,
  x_eqSS, x_eqII, x_neSS, x_neII, str_we, str_ew, decide_true, decide_false, if_true, if_false, Bool.false_eq_true, reduceIte, x_addI, x_addT, x_addS, x_subI, x_mulI, x_divI, x_modI, x_powI, x_ltI, x_leI, x_gtI, x_geI, x_is, x_isnot, x_isB, x_isNB, x_ixT, x_ixF, x_abs, x_lenT, x_lenF, x_intI, x_intB, x_max2, x_min2, x_seqT, x_seqF, x_slT, x_slFA,
  List.map_cons, List.map_nil, List.length_cons, List.length_nil, List.cons_append, List.nil_append, List.replicate_succ, List.replicate_zero, Nat.reduceSub, Nat.reduceAdd, List.set_cons_zero, List.set_cons_succ, List.getElem?_cons_zero, List.getElem?_cons_succ, Nat.add_zero, Nat.zero_add, Nat.sub_self, decide_eq_true_eq, a4]
    unfold near iabs
    by_cases h1 : w.row = o.row
    · simp [h1]
    · by_cases h2 : w.key = o.key
      · simp [h1, h2]
      · simp [h1, h2]
  exact wp_ok (wp_eq.mp key)
theorem pair_made_wp : wp (callDef C 5 pair_made_b [jnD J, wdD w, wdD o]) Q st ↔ Q (prD (pairOf J w o)) st := by
  have key : wp (callDef C 5 pair_made_b [jnD J, wdD w, wdD o]) (fun d s => d = prD (pairOf J w o) ∧ s = st) st := by
    rw [wp_callDef]
    unfold pair_made_b
    try simp only [wp_cons, wp_nil, wp_asg, wp_expr, wp_retS, wp_retN, wp_iteS, wp_pass, wp_brk, wp_cont, wp_setIx, wp_augX, wp_asgT, wp_for, wp_varX, wp_cst, wp_bin, wp_cmp, wp_cmpT, wp_chainT, wp_chain, wp_and, wp_or, wp_not, wp_iteT, wp_negX, x_negI, x_slS, x_listT, x_tupT, x_bindT, setAll_cons, setAll_nil, true_and, and_true, eq_self, big0, big1, big2, big3, big4, big5, big6, big7, big8, big9, big10, wp_fld, wp_fldT, wp_mcall, wp_mcallT, wp_make, wp_setFld, wp_augFld, wp_asgF, wp_whil, wp_zip, insQ_some, asgFQ_eq, x_setFlds0, x_setFlds1, x_augA, x_augS, x_zipT, x_mulT1, x_mulT0, wp_andT, wp_orT, wp_notT, wp_iteE, wp_idx, wp_sl, wp_call, wp_callK, wp_call0, wp_globX, wp_dictA, wp_bi, wp_tup, wp_lstA, wp_dict0A, wp_meth, wp_lcA, wp_evs_nil, wp_evs_cons, wp_evo_none, wp_evo_some, wp_seq, wp_enum, wp_rng1, wp_rng2, wp_idxT, wp_varT, wp_callT, wp_callKT, wp_biT, x_truB, tsto_none, tsto_some,
  seqQ_nx, seqQ_ret, seqQ_bk, seqQ_ct, endQ_ret, endQ_nx, varQ_some, lstQ_some, dctQ_some, optQ_some, blQ_bl, inQ_int, rgQ_int, rg2Q_int,
  x_eqSS, x_eqII, x_neSS, x_neII, str_we, str_ew, decide_true, decide_false, if_true, if_false, Bool.false_eq_true, reduceIte, x_addI, x_addT, x_addS, x_subI, x_mulI, x_divI, x_modI, x_powI, x_ltI, x_leI, x_gtI, x_geI, x_is, x_isnot, x_isB, x_isNB, x_ixT, x_ixF, x_abs, x_lenT, x_lenF, x_intI, x_intB, x_max2, x_min2, x_seqT, x_seqF, x_slT, x_slFA,
  List.map_cons, List.map_nil, List.length_cons, List.length_nil, List.cons_append, List.nil_append, List.replicate_succ, List.replicate_zero, Nat.reduceSub, Nat.reduceAdd, List.set_cons_zero, List.set_cons_succ, List.getElem?_cons_zero, List.getElem?_cons_succ, Nat.add_zero, Nat.zero_add, Nat.sub_self, decide_eq_true_eq, a4]
    unfold pairOf
    by_cases h1 : w.row = J.l
    · simp only [if_pos h1]
      rw [imax']
    · simp only [if_neg h1]
      rw [imax']
  exact wp_ok (wp_eq.mp key)
end
/-! ### joined -/
def joined_b1 : Sms :=
  (.cons (.ite (.not (.call "is_late" (.cons (.var 0) (.cons (.var 2) (.cons (.idx (.var 5) (.cst (.int 3))) .nil)))))
    (.cons (.expr (.meth .extend (.var 4) (.cons (.lc [6] (.seq (.var 3)) (.name 6) (.some (.call "are_near" (.cons (.var 0) (.cons (.var 5) (.cons (.var 6) .nil))))) (.call "pair_made" (.cons (.var 0) (.cons (.var 5) (.cons (.var 6) .nil))))) .nil)))
    (.cons (.expr (.meth .append (.var 3) (.cons (.var 5) .nil)))
    .nil))
    .nil)
    (.cons (.asg 2 (.bi .max (.cons (.var 2) (.cons (.idx (.var 5) (.cst (.int 3))) .nil))))
    .nil))
def joined_b : Sms :=
  (.cons (.asg 2 (.neg (.cst (.int 1))))
    (.cons (.asg 3 (.lst .nil))
    (.cons (.asg 4 (.lst .nil))
    (.cons (.forS (.seq (.var 1)) (.name 5) joined_b1)
    (.cons (.ret (.bi .tuple (.cons (.var 4) .nil)))
    .nil)))))
structure JoinC (C : Cts) : Prop where
  late : ∃ C1, C.fn "is_late" = callDef C1 7 is_late_b
  near : ∃ C1, C.fn "are_near" = callDef C1 7 are_near_b
  pair : ∃ C1, C.fn "pair_made" = callDef C1 5 pair_made_b
theorem joined_wp {C : Cts} {J : Jn} {ws : List Wd} {st : Store} {Q : D → Store → Prop} (hC : JoinC C) (hl : ws.length ≤ 1000) (q : ∀ s, Kp [] st s → Q (.tup ((jrun J ws).found.map prD)) s) :
    wp (callDef C 7 joined_b [jnD J, .tup (ws.map wdD)]) Q st := by
  obtain ⟨_, eL⟩ := hC.late
  obtain ⟨_, eN⟩ := hC.near
  obtain ⟨_, eP⟩ := hC.pair
  have hbig : bigN = 16777216 := rfl
  rw [wp_callDef]
  unfold joined_b
  try simp only [wp_cons, wp_nil, wp_asg, wp_expr, wp_retS, wp_retN, wp_iteS, wp_pass, wp_brk, wp_cont, wp_setIx, wp_augX, wp_asgT, wp_for, wp_varX, wp_cst, wp_bin, wp_cmp, wp_cmpT, wp_chainT, wp_chain, wp_and, wp_or, wp_not, wp_iteT, wp_negX, x_negI, x_slS, x_listT, x_tupT, x_bindT, setAll_cons, setAll_nil, true_and, and_true, eq_self, big0, big1, big2, big3, big4, big5, big6, big7, big8, big9, big10, wp_fld, wp_fldT, wp_mcall, wp_mcallT, wp_make, wp_setFld, wp_augFld, wp_asgF, wp_whil, wp_zip, insQ_some, asgFQ_eq, x_setFlds0, x_setFlds1, x_augA, x_augS, x_zipT, x_mulT1, x_mulT0, wp_andT, wp_orT, wp_notT, wp_iteE, wp_idx, wp_sl, wp_call, wp_callK, wp_call0, wp_globX, wp_dictA, wp_bi, wp_tup, wp_lstA, wp_dict0A, wp_meth, wp_lcA, wp_evs_nil, wp_evs_cons, wp_evo_none, wp_evo_some, wp_seq, wp_enum, wp_rng1, wp_rng2, wp_idxT, wp_varT, wp_callT, wp_callKT, wp_biT, x_truB, tsto_none, tsto_some,
  seqQ_nx, seqQ_ret, seqQ_bk, seqQ_ct, endQ_ret, endQ_nx, varQ_some, lstQ_some, dctQ_some, optQ_some, blQ_bl, inQ_int, rgQ_int, rg2Q_int,
  x_eqSS, x_eqII, x_neSS, x_neII, str_we, str_ew, decide_true, decide_false, if_true, if_false, Bool.false_eq_true, reduceIte, x_addI, x_addT, x_addS, x_subI, x_mulI, x_divI, x_modI, x_powI, x_ltI, x_leI, x_gtI, x_geI, x_is, x_isnot, x_isB, x_isNB, x_ixT, x_ixF, x_abs, x_lenT, x_lenF, x_intI, x_intB, x_max2, x_min2, x_seqT, x_seqF, x_slT, x_slFA,
  List.map_cons, List.map_nil, List.length_cons, List.length_nil, List.cons_append, List.nil_append, List.replicate_succ, List.replicate_zero, Nat.reduceSub, Nat.reduceAdd, List.set_cons_zero, List.set_cons_succ, List.getElem?_cons_zero, List.getElem?_cons_succ, Nat.add_zero, Nat.zero_add, Nat.sub_self, decide_eq_true_eq]
  refine (Lv.start0 st).alloc fun k s1 V1 => V1.alloc fun f s2 V2 => ?_
  refine loopF_nx (gd := []) wdD ws (fun P env s => ∃ y5 y6, env = [some (jnD J), some (.tup (ws.map wdD)), some (.int (jrun J P).clock), some (.ob k), some (.ob f), y5, y6] ∧ Lv0 st [(f, .lst ((jrun J P).found.map prD)), (k, .lst ((jrun J P).kept.map wdD))] s) ?_ ?_ ⟨none, none, rfl, V2⟩
  · rintro P w R env s hL ⟨y5, y6, rfl, V⟩
    refine ⟨rfl, ?_⟩
    have hPl : P.length + 1 ≤ ws.length := by rw [hL]; simp
    have hk := jrun_kept J P
    have hfd := jrun_found J 1000 P (by omega)
    rw [wp_forF (env1 := [some (jnD J), some (.tup (ws.map wdD)), some (.int (jrun J P).clock), some (.ob k), some (.ob f), some (wdD w), y6]) rfl]
    rw [jrun_snoc]
    generalize jrun J P = js at V hk hfd ⊢
    unfold joined_b1
    try simp only [wp_cons, wp_nil, wp_asg, wp_expr, wp_retS, wp_retN, wp_iteS, wp_pass, wp_brk, wp_cont, wp_setIx, wp_augX, wp_asgT, wp_for, wp_varX, wp_cst, wp_bin, wp_cmp, wp_cmpT, wp_chainT, wp_chain, wp_and, wp_or, wp_not, wp_iteT, wp_negX, x_negI, x_slS, x_listT, x_tupT, x_bindT, setAll_cons, setAll_nil, true_and, and_true, eq_self, big0, big1, big2, big3, big4, big5, big6, big7, big8, big9, big10, wp_fld, wp_fldT, wp_mcall, wp_mcallT, wp_make, wp_setFld, wp_augFld, wp_asgF, wp_whil, wp_zip, insQ_some, asgFQ_eq, x_setFlds0, x_setFlds1, x_augA, x_augS, x_zipT, x_mulT1, x_mulT0, wp_andT, wp_orT, wp_notT, wp_iteE, wp_idx, wp_sl, wp_call, wp_callK, wp_call0, wp_globX, wp_dictA, wp_bi, wp_tup, wp_lstA, wp_dict0A, wp_meth, wp_lcA, wp_evs_nil, wp_evs_cons, wp_evo_none, wp_evo_some, wp_seq, wp_enum, wp_rng1, wp_rng2, wp_idxT, wp_varT, wp_callT, wp_callKT, wp_biT, x_truB, tsto_none, tsto_some,
  seqQ_nx, seqQ_ret, seqQ_bk, seqQ_ct, endQ_ret, endQ_nx, varQ_some, lstQ_some, dctQ_some, optQ_some, blQ_bl, inQ_int, rgQ_int, rg2Q_int,
  x_eqSS, x_eqII, x_neSS, x_neII, str_we, str_ew, decide_true, decide_false, if_true, if_false, Bool.false_eq_true, reduceIte, x_addI, x_addT, x_addS, x_subI, x_mulI, x_divI, x_modI, x_powI, x_ltI, x_leI, x_gtI, x_geI, x_is, x_isnot, x_isB, x_isNB, x_ixT, x_ixF, x_abs, x_lenT, x_lenF, x_intI, x_intB, x_max2, x_min2, x_seqT, x_seqF, x_slT, x_slFA,
  List.map_cons, List.map_nil, List.length_cons, List.length_nil, List.cons_append, List.nil_append, List.replicate_succ, List.replicate_zero, Nat.reduceSub, Nat.reduceAdd, List.set_cons_zero, List.set_cons_succ, List.getElem?_cons_zero, List.getElem?_cons_succ, Nat.add_zero, Nat.zero_add, Nat.sub_self, decide_eq_true_eq, a4, eL, is_late_wp]
    by_cases h : isLate J js.clock w.time = true
    · rw [jstep_late h]
      simp only [h, Bool.not_true, Bool.false_eq_true, if_false]
      try simp only [wp_cons, wp_nil, wp_asg, wp_expr, wp_retS, wp_retN, wp_iteS, wp_pass, wp_brk, wp_cont, wp_setIx, wp_augX, wp_asgT, wp_for, wp_varX, wp_cst, wp_bin, wp_cmp, wp_cmpT, wp_chainT, wp_chain, wp_and, wp_or, wp_not, wp_iteT, wp_negX, x_negI, x_slS, x_listT, x_tupT, x_bindT, setAll_cons, setAll_nil, true_and, and_true, eq_self, big0, big1, big2, big3, big4, big5, big6, big7, big8, big9, big10, wp_fld, wp_fldT, wp_mcall, wp_mcallT, wp_make, wp_setFld, wp_augFld, wp_asgF, wp_whil, wp_zip, insQ_some, asgFQ_eq, x_setFlds0, x_setFlds1, x_augA, x_augS, x_zipT, x_mulT1, x_mulT0, wp_andT, wp_orT, wp_notT, wp_iteE, wp_idx, wp_sl, wp_call, wp_callK, wp_call0, wp_globX, wp_dictA, wp_bi, wp_tup, wp_lstA, wp_dict0A, wp_meth, wp_lcA, wp_evs_nil, wp_evs_cons, wp_evo_none, wp_evo_some, wp_seq, wp_enum, wp_rng1, wp_rng2, wp_idxT, wp_varT, wp_callT, wp_callKT, wp_biT, x_truB, tsto_none, tsto_some,
  seqQ_nx, seqQ_ret, seqQ_bk, seqQ_ct, endQ_ret, endQ_nx, varQ_some, lstQ_some, dctQ_some, optQ_some, blQ_bl, inQ_int, rgQ_int, rg2Q_int,
  x_eqSS, x_eqII, x_neSS, x_neII, str_we, str_ew, decide_true, decide_false, if_true, if_false, Bool.false_eq_true, reduceIte, x_addI, x_addT, x_addS, x_subI, x_mulI, x_divI, x_modI, x_powI, x_ltI, x_leI, x_gtI, x_geI, x_is, x_isnot, x_isB, x_isNB, x_ixT, x_ixF, x_abs, x_lenT, x_lenF, x_intI, x_intB, x_max2, x_min2, x_seqT, x_seqF, x_slT, x_slFA,
  List.map_cons, List.map_nil, List.length_cons, List.length_nil, List.cons_append, List.nil_append, List.replicate_succ, List.replicate_zero, Nat.reduceSub, Nat.reduceAdd, List.set_cons_zero, List.set_cons_succ, List.getElem?_cons_zero, List.getElem?_cons_succ, Nat.add_zero, Nat.zero_add, Nat.sub_self, decide_eq_true_eq, a4, imax']
      exact ⟨_, rfl, _, _, rfl, V⟩
    · rw [jstep_ok h]
      have h' : isLate J js.clock w.time = false := by simpa using h
      simp only [h', Bool.not_false, if_true]
      try simp only [wp_cons, wp_nil, wp_asg, wp_expr, wp_retS, wp_retN, wp_iteS, wp_pass, wp_brk, wp_cont, wp_setIx, wp_augX, wp_asgT, wp_for, wp_varX, wp_cst, wp_bin, wp_cmp, wp_cmpT, wp_chainT, wp_chain, wp_and, wp_or, wp_not, wp_iteT, wp_negX, x_negI, x_slS, x_listT, x_tupT, x_bindT, setAll_cons, setAll_nil, true_and, and_true, eq_self, big0, big1, big2, big3, big4, big5, big6, big7, big8, big9, big10, wp_fld, wp_fldT, wp_mcall, wp_mcallT, wp_make, wp_setFld, wp_augFld, wp_asgF, wp_whil, wp_zip, insQ_some, asgFQ_eq, x_setFlds0, x_setFlds1, x_augA, x_augS, x_zipT, x_mulT1, x_mulT0, wp_andT, wp_orT, wp_notT, wp_iteE, wp_idx, wp_sl, wp_call, wp_callK, wp_call0, wp_globX, wp_dictA, wp_bi, wp_tup, wp_lstA, wp_dict0A, wp_meth, wp_lcA, wp_evs_nil, wp_evs_cons, wp_evo_none, wp_evo_some, wp_seq, wp_enum, wp_rng1, wp_rng2, wp_idxT, wp_varT, wp_callT, wp_callKT, wp_biT, x_truB, tsto_none, tsto_some,
  seqQ_nx, seqQ_ret, seqQ_bk, seqQ_ct, endQ_ret, endQ_nx, varQ_some, lstQ_some, dctQ_some, optQ_some, blQ_bl, inQ_int, rgQ_int, rg2Q_int,
  x_eqSS, x_eqII, x_neSS, x_neII, str_we, str_ew, decide_true, decide_false, if_true, if_false, Bool.false_eq_true, reduceIte, x_addI, x_addT, x_addS, x_subI, x_mulI, x_divI, x_modI, x_powI, x_ltI, x_leI, x_gtI, x_geI, x_is, x_isnot, x_isB, x_isNB, x_ixT, x_ixF, x_abs, x_lenT, x_lenF, x_intI, x_intB, x_max2, x_min2, x_seqT, x_seqF, x_slT, x_slFA,
  List.map_cons, List.map_nil, List.length_cons, List.length_nil, List.cons_append, List.nil_append, List.replicate_succ, List.replicate_zero, Nat.reduceSub, Nat.reduceAdd, List.set_cons_zero, List.set_cons_succ, List.getElem?_cons_zero, List.getElem?_cons_succ, Nat.add_zero, Nat.zero_add, Nat.sub_self, decide_eq_true_eq]
      refine ⟨.list, V.tyL 0 rfl, ?_⟩
      rw [x_seqL (V.get 1 rfl)]
      refine wp_mono (loopC_map (gd := [(k, js.kept.map wdD)]) wdD (fun o => prD (pairOf J w o)) (near J w) (gd_lst (V.get 1 rfl)) js.kept fun o _ => ?_) fun ds s' ⟨h1, h2⟩ => ?_
      · rw [wp_compF (env1 := [some (jnD J), some (.tup (ws.map wdD)), some (.int js.clock), some (.ob k), some (.ob f), some (wdD w), some (wdD o)]) rfl]
        try simp only [wp_cons, wp_nil, wp_asg, wp_expr, wp_retS, wp_retN, wp_iteS, wp_pass, wp_brk, wp_cont, wp_setIx, wp_augX, wp_asgT, wp_for, wp_varX, wp_cst, wp_bin, wp_cmp, wp_cmpT, wp_chainT, wp_chain, wp_and, wp_or, wp_not, wp_iteT, wp_negX, x_negI, x_slS, x_listT, x_tupT, x_bindT, setAll_cons, setAll_nil, true_and, and_true, eq_self, big0, big1, big2, big3, big4, big5, big6, big7, big8, big9, big10, wp_fld, wp_fldT, wp_mcall, wp_mcallT, wp_make, wp_setFld, wp_augFld, wp_asgF, wp_whil, wp_zip, insQ_some, asgFQ_eq, x_setFlds0, x_setFlds1, x_augA, x_augS, x_zipT, x_mulT1, x_mulT0, wp_andT, wp_orT, wp_notT, wp_iteE, wp_idx, wp_sl, wp_call, wp_callK, wp_call0, wp_globX, wp_dictA, wp_bi, wp_tup, wp_lstA, wp_dict0A, wp_meth, wp_lcA, wp_evs_nil, wp_evs_cons, wp_evo_none, wp_evo_some, wp_seq, wp_enum, wp_rng1, wp_rng2, wp_idxT, wp_varT, wp_callT, wp_callKT, wp_biT, x_truB, tsto_none, tsto_some,
  seqQ_nx, seqQ_ret, seqQ_bk, seqQ_ct, endQ_ret, endQ_nx, varQ_some, lstQ_some, dctQ_some, optQ_some, blQ_bl, inQ_int, rgQ_int, rg2Q_int,
  x_eqSS, x_eqII, x_neSS, x_neII, str_we, str_ew, decide_true, decide_false, if_true, if_false, Bool.false_eq_true, reduceIte, x_addI, x_addT, x_addS, x_subI, x_mulI, x_divI, x_modI, x_powI, x_ltI, x_leI, x_gtI, x_geI, x_is, x_isnot, x_isB, x_isNB, x_ixT, x_ixF, x_abs, x_lenT, x_lenF, x_intI, x_intB, x_max2, x_min2, x_seqT, x_seqF, x_slT, x_slFA,
  List.map_cons, List.map_nil, List.length_cons, List.length_nil, List.cons_append, List.nil_append, List.replicate_succ, List.replicate_zero, Nat.reduceSub, Nat.reduceAdd, List.set_cons_zero, List.set_cons_succ, List.getElem?_cons_zero, List.getElem?_cons_succ, Nat.add_zero, Nat.zero_add, Nat.sub_self, decide_eq_true_eq, eN, are_near_wp, eP, pair_made_wp]
        by_cases hn : near J w o = true
        · simp [hn]
        · simp [hn]
      subst h1 h2
      have hfl : (js.kept.filter (near J w)).length ≤ js.kept.length := List.length_filter_le _ _
      refine ⟨by rw [List.length_map]; omega, V.alloc fun g s2 W => ?_⟩
      refine W.extend 1 rfl (W.get 0 rfl) (by simp only [List.length_map]; omega) fun s3 W3 => ?_
      try simp only [wp_cons, wp_nil, wp_asg, wp_expr, wp_retS, wp_retN, wp_iteS, wp_pass, wp_brk, wp_cont, wp_setIx, wp_augX, wp_asgT, wp_for, wp_varX, wp_cst, wp_bin, wp_cmp, wp_cmpT, wp_chainT, wp_chain, wp_and, wp_or, wp_not, wp_iteT, wp_negX, x_negI, x_slS, x_listT, x_tupT, x_bindT, setAll_cons, setAll_nil, true_and, and_true, eq_self, big0, big1, big2, big3, big4, big5, big6, big7, big8, big9, big10, wp_fld, wp_fldT, wp_mcall, wp_mcallT, wp_make, wp_setFld, wp_augFld, wp_asgF, wp_whil, wp_zip, insQ_some, asgFQ_eq, x_setFlds0, x_setFlds1, x_augA, x_augS, x_zipT, x_mulT1, x_mulT0, wp_andT, wp_orT, wp_notT, wp_iteE, wp_idx, wp_sl, wp_call, wp_callK, wp_call0, wp_globX, wp_dictA, wp_bi, wp_tup, wp_lstA, wp_dict0A, wp_meth, wp_lcA, wp_evs_nil, wp_evs_cons, wp_evo_none, wp_evo_some, wp_seq, wp_enum, wp_rng1, wp_rng2, wp_idxT, wp_varT, wp_callT, wp_callKT, wp_biT, x_truB, tsto_none, tsto_some,
  seqQ_nx, seqQ_ret, seqQ_bk, seqQ_ct, endQ_ret, endQ_nx, varQ_some, lstQ_some, dctQ_some, optQ_some, blQ_bl, inQ_int, rgQ_int, rg2Q_int,
  x_eqSS, x_eqII, x_neSS, x_neII, str_we, str_ew, decide_true, decide_false, if_true, if_false, Bool.false_eq_true, reduceIte, x_addI, x_addT, x_addS, x_subI, x_mulI, x_divI, x_modI, x_powI, x_ltI, x_leI, x_gtI, x_geI, x_is, x_isnot, x_isB, x_isNB, x_ixT, x_ixF, x_abs, x_lenT, x_lenF, x_intI, x_intB, x_max2, x_min2, x_seqT, x_seqF, x_slT, x_slFA,
  List.map_cons, List.map_nil, List.length_cons, List.length_nil, List.cons_append, List.nil_append, List.replicate_succ, List.replicate_zero, Nat.reduceSub, Nat.reduceAdd, List.set_cons_zero, List.set_cons_succ, List.getElem?_cons_zero, List.getElem?_cons_succ, Nat.add_zero, Nat.zero_add, Nat.sub_self, decide_eq_true_eq]
      refine ⟨.list, W3.tyL 2 rfl, ?_⟩
      try simp only [wp_cons, wp_nil, wp_asg, wp_expr, wp_retS, wp_retN, wp_iteS, wp_pass, wp_brk, wp_cont, wp_setIx, wp_augX, wp_asgT, wp_for, wp_varX, wp_cst, wp_bin, wp_cmp, wp_cmpT, wp_chainT, wp_chain, wp_and, wp_or, wp_not, wp_iteT, wp_negX, x_negI, x_slS, x_listT, x_tupT, x_bindT, setAll_cons, setAll_nil, true_and, and_true, eq_self, big0, big1, big2, big3, big4, big5, big6, big7, big8, big9, big10, wp_fld, wp_fldT, wp_mcall, wp_mcallT, wp_make, wp_setFld, wp_augFld, wp_asgF, wp_whil, wp_zip, insQ_some, asgFQ_eq, x_setFlds0, x_setFlds1, x_augA, x_augS, x_zipT, x_mulT1, x_mulT0, wp_andT, wp_orT, wp_notT, wp_iteE, wp_idx, wp_sl, wp_call, wp_callK, wp_call0, wp_globX, wp_dictA, wp_bi, wp_tup, wp_lstA, wp_dict0A, wp_meth, wp_lcA, wp_evs_nil, wp_evs_cons, wp_evo_none, wp_evo_some, wp_seq, wp_enum, wp_rng1, wp_rng2, wp_idxT, wp_varT, wp_callT, wp_callKT, wp_biT, x_truB, tsto_none, tsto_some,
  seqQ_nx, seqQ_ret, seqQ_bk, seqQ_ct, endQ_ret, endQ_nx, varQ_some, lstQ_some, dctQ_some, optQ_some, blQ_bl, inQ_int, rgQ_int, rg2Q_int,
  x_eqSS, x_eqII, x_neSS, x_neII, str_we, str_ew, decide_true, decide_false, if_true, if_false, Bool.false_eq_true, reduceIte, x_addI, x_addT, x_addS, x_subI, x_mulI, x_divI, x_modI, x_powI, x_ltI, x_leI, x_gtI, x_geI, x_is, x_isnot, x_isB, x_isNB, x_ixT, x_ixF, x_abs, x_lenT, x_lenF, x_intI, x_intB, x_max2, x_min2, x_seqT, x_seqF, x_slT, x_slFA,
  List.map_cons, List.map_nil, List.length_cons, List.length_nil, List.cons_append, List.nil_append, List.replicate_succ, List.replicate_zero, Nat.reduceSub, Nat.reduceAdd, List.set_cons_zero, List.set_cons_succ, List.getElem?_cons_zero, List.getElem?_cons_succ, Nat.add_zero, Nat.zero_add, Nat.sub_self, decide_eq_true_eq]
      refine W3.append 2 rfl (by simp only [List.length_map]; omega) fun s4 W4 => ?_
      try simp only [wp_cons, wp_nil, wp_asg, wp_expr, wp_retS, wp_retN, wp_iteS, wp_pass, wp_brk, wp_cont, wp_setIx, wp_augX, wp_asgT, wp_for, wp_varX, wp_cst, wp_bin, wp_cmp, wp_cmpT, wp_chainT, wp_chain, wp_and, wp_or, wp_not, wp_iteT, wp_negX, x_negI, x_slS, x_listT, x_tupT, x_bindT, setAll_cons, setAll_nil, true_and, and_true, eq_self, big0, big1, big2, big3, big4, big5, big6, big7, big8, big9, big10, wp_fld, wp_fldT, wp_mcall, wp_mcallT, wp_make, wp_setFld, wp_augFld, wp_asgF, wp_whil, wp_zip, insQ_some, asgFQ_eq, x_setFlds0, x_setFlds1, x_augA, x_augS, x_zipT, x_mulT1, x_mulT0, wp_andT, wp_orT, wp_notT, wp_iteE, wp_idx, wp_sl, wp_call, wp_callK, wp_call0, wp_globX, wp_dictA, wp_bi, wp_tup, wp_lstA, wp_dict0A, wp_meth, wp_lcA, wp_evs_nil, wp_evs_cons, wp_evo_none, wp_evo_some, wp_seq, wp_enum, wp_rng1, wp_rng2, wp_idxT, wp_varT, wp_callT, wp_callKT, wp_biT, x_truB, tsto_none, tsto_some,
  seqQ_nx, seqQ_ret, seqQ_bk, seqQ_ct, endQ_ret, endQ_nx, varQ_some, lstQ_some, dctQ_some, optQ_some, blQ_bl, inQ_int, rgQ_int, rg2Q_int,
  x_eqSS, x_eqII, x_neSS, x_neII, str_we, str_ew, decide_true, decide_false, if_true, if_false, Bool.false_eq_true, reduceIte, x_addI, x_addT, x_addS, x_subI, x_mulI, x_divI, x_modI, x_powI, x_ltI, x_leI, x_gtI, x_geI, x_is, x_isnot, x_isB, x_isNB, x_ixT, x_ixF, x_abs, x_lenT, x_lenF, x_intI, x_intB, x_max2, x_min2, x_seqT, x_seqF, x_slT, x_slFA,
  List.map_cons, List.map_nil, List.length_cons, List.length_nil, List.cons_append, List.nil_append, List.replicate_succ, List.replicate_zero, Nat.reduceSub, Nat.reduceAdd, List.set_cons_zero, List.set_cons_succ, List.getElem?_cons_zero, List.getElem?_cons_succ, Nat.add_zero, Nat.zero_add, Nat.sub_self, decide_eq_true_eq, a4, imax']
      refine ⟨_, rfl, _, _, rfl, ?_⟩
      simp only [List.map_append, List.map_map, List.map_cons, List.map_nil]
      exact W4.sub (List.sublist_cons_self _ _)
  · rintro env s ⟨y5, y6, rfl, V⟩
    refine ⟨rfl, ?_⟩
    try simp only [wp_cons, wp_nil, wp_asg, wp_expr, wp_retS, wp_retN, wp_iteS, wp_pass, wp_brk, wp_cont, wp_setIx, wp_augX, wp_asgT, wp_for, wp_varX, wp_cst, wp_bin, wp_cmp, wp_cmpT, wp_chainT, wp_chain, wp_and, wp_or, wp_not, wp_iteT, wp_negX, x_negI, x_slS, x_listT, x_tupT, x_bindT, setAll_cons, setAll_nil, true_and, and_true, eq_self, big0, big1, big2, big3, big4, big5, big6, big7, big8, big9, big10, wp_fld, wp_fldT, wp_mcall, wp_mcallT, wp_make, wp_setFld, wp_augFld, wp_asgF, wp_whil, wp_zip, insQ_some, asgFQ_eq, x_setFlds0, x_setFlds1, x_augA, x_augS, x_zipT, x_mulT1, x_mulT0, wp_andT, wp_orT, wp_notT, wp_iteE, wp_idx, wp_sl, wp_call, wp_callK, wp_call0, wp_globX, wp_dictA, wp_bi, wp_tup, wp_lstA, wp_dict0A, wp_meth, wp_lcA, wp_evs_nil, wp_evs_cons, wp_evo_none, wp_evo_some, wp_seq, wp_enum, wp_rng1, wp_rng2, wp_idxT, wp_varT, wp_callT, wp_callKT, wp_biT, x_truB, tsto_none, tsto_some,
  seqQ_nx, seqQ_ret, seqQ_bk, seqQ_ct, endQ_ret, endQ_nx, varQ_some, lstQ_some, dctQ_some, optQ_some, blQ_bl, inQ_int, rgQ_int, rg2Q_int,
  x_eqSS, x_eqII, x_neSS, x_neII, str_we, str_ew, decide_true, decide_false, if_true, if_false, Bool.false_eq_true, reduceIte, x_addI, x_addT, x_addS, x_subI, x_mulI, x_divI, x_modI, x_powI, x_ltI, x_leI, x_gtI, x_geI, x_is, x_isnot, x_isB, x_isNB, x_ixT, x_ixF, x_abs, x_lenT, x_lenF, x_intI, x_intB, x_max2, x_min2, x_seqT, x_seqF, x_slT, x_slFA,
  List.map_cons, List.map_nil, List.length_cons, List.length_nil, List.cons_append, List.nil_append, List.replicate_succ, List.replicate_zero, Nat.reduceSub, Nat.reduceAdd, List.set_cons_zero, List.set_cons_succ, List.getElem?_cons_zero, List.getElem?_cons_succ, Nat.add_zero, Nat.zero_add, Nat.sub_self, decide_eq_true_eq, x_tupL (V.get 0 rfl)]
    exact q s V.kp
end W9

/-! Y5: what the laws of joining draw -/
namespace W9
open PySem L2
structure DrwC (C : Cts) : Prop where
  ex : ∃ C1 C2, C.fn "_law_next" = callDef C1 4 next36_b ∧ C.fn "_law_of" = callDef C2 2 of36_b ∧ C2.fn "_law_next" = callDef C1 4 next36_b
def joining36_b : Sms :=
  (.cons (.asgT [1, 2] (.idx (.lst (.cons (.tup (.cons (.cst (.str "left")) (.cons (.cst (.str "right")) .nil))) (.cons (.tup (.cons (.cst (.str "r")) (.cons (.cst (.str "l")) .nil))) (.cons (.tup (.cons (.cst (.str "a")) (.cons (.cst (.str "ab")) .nil))) (.cons (.tup (.cons (.cst (.str "out")) (.cons (.cst (.str "b")) .nil))) .nil))))) (.call "_law_next" (.cons (.var 0) (.cons (.cst (.int 4)) .nil)))))
    (.cons (.asgT [3, 4] (.lc [5] (.rng1 (.cst (.int 2))) (.name 5) .none (.call "_law_of" (.cons (.var 0) (.cons (.lst (.cons (.cst (.int 0)) (.cons (.cst (.int 1)) (.cons (.cst (.int 2)) (.cons (.cst (.int 5)) (.cons (.cst (.int 20)) (.cons (.cst (.int 99)) (.cons (.call "_law_next" (.cons (.var 0) (.cons (.cst (.int 100)) .nil))) .nil)))))))) .nil)))))
    (.cons (.ret (.tup (.cons (.var 1) (.cons (.var 2) (.cons (.var 3) (.cons (.var 4) .nil))))))
    .nil)))
def words36_b1 : Sms :=
  (.cons (.asg 10 (.call "_law_of" (.cons (.var 0) (.cons (.lst (.cons (.cst (.int 0)) (.cons (.cst (.int 0)) (.cons (.cst (.int 1)) (.cons (.var 6) (.cons (.bin .Add (.var 6) (.cst (.int 1))) (.cons (.var 7) (.cons (.bin .Add (.var 7) (.cst (.int 1))) (.cons (.bin .Add (.var 6) (.var 7)) (.cons (.bin .Add (.bin .Add (.var 6) (.var 7)) (.cst (.int 1))) (.cons (.cst (.int 7)) .nil))))))))))) .nil))))
    (.cons (.asg 11 (.bi .max (.cons (.cst (.int 0)) (.cons (.bi .min (.cons (.cst (.int 999)) (.cons (.bin .Add (.var 8) (.bin .Mult (.var 10) (.call "_law_of" (.cons (.var 0) (.cons (.lst (.cons (.cst (.int 1)) (.cons (.neg (.cst (.int 1))) (.cons (.neg (.cst (.int 1))) (.cons (.cst (.int 0)) .nil))))) .nil))))) .nil))) .nil))))
    (.cons (.asg 12 (.bin .Add (.call "_law_of" (.cons (.var 0) (.cons (.lst (.cons (.cst (.str "x")) (.cons (.cst (.str "abcdefgh")) (.cons (.cst (.str "left")) (.cons (.cst (.str "abcde")) (.cons (.cst (.str "abcd")) (.cons (.cst (.str "zz")) .nil))))))) .nil))) (.idx (.lst (.cons (.cst (.str "")) (.cons (.cst (.str "y")) .nil))) (.call "_law_next" (.cons (.var 0) (.cons (.cst (.int 2)) .nil))))))
    (.cons (.expr (.meth .append (.var 9) (.cons (.tup (.cons (.call "_law_of" (.cons (.var 0) (.cons (.lst (.cons (.var 4) (.cons (.var 5) .nil))) .nil))) (.cons (.call "_law_of" (.cons (.var 0) (.cons (.lst (.cons (.cst (.str "k")) (.cons (.cst (.str "k")) (.cons (.cst (.str "l")) (.cons (.cst (.str "kl")) .nil))))) .nil))) (.cons (.sl (.var 12) .none (.some (.cst (.int 8)))) (.cons (.var 11) .nil))))) .nil)))
    (.cons (.asg 8 (.call "_law_of" (.cons (.var 0) (.cons (.lst (.cons (.var 8) (.cons (.bi .max (.cons (.var 8) (.cons (.var 11) .nil))) .nil))) .nil))))
    .nil)))))
def words36_b : Sms :=
  (.cons (.asgT [4, 5, 6, 7] (.var 1))
    (.cons (.asgT [8, 9] (.tup (.cons (.call "_law_of" (.cons (.var 0) (.cons (.lst (.cons (.cst (.int 0)) (.cons (.cst (.int 5)) (.cons (.cst (.int 400)) (.cons (.cst (.int 999)) (.cons (.call "_law_next" (.cons (.var 0) (.cons (.cst (.int 1000)) .nil))) .nil)))))) .nil))) (.cons (.lst .nil) .nil))))
    (.cons (.forS (.rng1 (.var 2)) (.name 3) words36_b1)
    (.cons (.ret (.var 9))
    .nil))))
structure NmOk (s : Str) : Prop where
  ok : PyData.strOk s = true
  len : s.length ≤ 8
structure JnOk (J : Jn) : Prop where
  l : NmOk J.l
  r : NmOk J.r
  w0 : 0 ≤ J.win
  w1 : J.win ≤ 99
  l0 : 0 ≤ J.late
  l1 : J.late ≤ 99
structure WdOk (w : Wd) : Prop where
  row : NmOk w.row
  key : NmOk w.key
  text : NmOk w.text
  t0 : 0 ≤ w.time
  t1 : w.time ≤ 999
abbrev lrs : List (Str × Str) := [("left", "right"), ("r", "l"), ("a", "ab"), ("out", "b")]
theorem lrs_ok : ∀ p ∈ lrs, (PyData.strOk p.1 = true ∧ p.1.length ≤ 8) ∧ (PyData.strOk p.2 = true ∧ p.2.length ≤ 8) := by decide +kernel
section
variable {i c : Nat} {cs : List Int} {s0 s : Store} {L : List (Nat × Ob)} {Q : D → Store → Prop}
theorem joining_wp {C : Cts} (hC : DrwC C) (V : Lv s0 [i, c] (Dr i c cs) L s) (q : ∀ J s1, JnOk J → Lv s0 [i, c] (Dr i c cs) L s1 → Q (jnD J) s1) : wp (callDef C 6 joining36_b [.ob i]) Q s := by
  rw [wp_callDef]
  obtain ⟨C1, C2, eN, eO, eN7⟩ := hC.ex
  unfold joining36_b
  try simp only [wp_cons, wp_nil, wp_asg, wp_expr, wp_retS, wp_retN, wp_iteS, wp_pass, wp_brk, wp_cont, wp_setIx, wp_augX, wp_asgT, wp_for, wp_varX, wp_cst, wp_bin, wp_cmp, wp_cmpT, wp_chainT, wp_chain, wp_and, wp_or, wp_not, wp_iteT, wp_negX, x_negI, x_slS, x_listT, x_tupT, x_bindT, setAll_cons, setAll_nil, true_and, and_true, eq_self, big0, big1, big2, big3, big4, big5, big6, big7, big8, big9, big10, wp_fld, wp_fldT, wp_mcall, wp_mcallT, wp_make, wp_setFld, wp_augFld, wp_asgF, wp_whil, wp_zip, insQ_some, asgFQ_eq, x_setFlds0, x_setFlds1, x_augA, x_augS, x_zipT, x_mulT1, x_mulT0, wp_andT, wp_orT, wp_notT, wp_iteE, wp_idx, wp_sl, wp_call, wp_callK, wp_call0, wp_globX, wp_dictA, wp_bi, wp_tup, wp_lstA, wp_dict0A, wp_meth, wp_lcA, wp_evs_nil, wp_evs_cons, wp_evo_none, wp_evo_some, wp_seq, wp_enum, wp_rng1, wp_rng2, wp_idxT, wp_varT, wp_callT, wp_callKT, wp_biT, x_truB, tsto_none, tsto_some,
  seqQ_nx, seqQ_ret, seqQ_bk, seqQ_ct, endQ_ret, endQ_nx, varQ_some, lstQ_some, dctQ_some, optQ_some, blQ_bl, inQ_int, rgQ_int, rg2Q_int,
  x_eqSS, x_eqII, x_neSS, x_neII, str_we, str_ew, decide_true, decide_false, if_true, if_false, Bool.false_eq_true, reduceIte, x_addI, x_addT, x_addS, x_subI, x_mulI, x_divI, x_modI, x_powI, x_ltI, x_leI, x_gtI, x_geI, x_is, x_isnot, x_isB, x_isNB, x_ixT, x_ixF, x_abs, x_lenT, x_lenF, x_intI, x_intB, x_max2, x_min2, x_seqT, x_seqF, x_slT, x_slFA,
  List.map_cons, List.map_nil, List.length_cons, List.length_nil, List.cons_append, List.nil_append, List.replicate_succ, List.replicate_zero, Nat.reduceSub, Nat.reduceAdd, List.set_cons_zero, List.set_cons_succ, List.getElem?_cons_zero, List.getElem?_cons_succ, Nat.add_zero, Nat.zero_add, Nat.sub_self, decide_eq_true_eq, eN, eO]
  refine V.pickN36 (ds := lrs.map fun p => D.tup [.str p.1, .str p.2]) (by decide) rfl (by decide) fun d hd s1 V1 => ?_
  obtain ⟨⟨l, r⟩, hm, rfl⟩ := List.mem_map.mp hd
  obtain ⟨hl, hr⟩ := lrs_ok _ hm
  try simp only [wp_cons, wp_nil, wp_asg, wp_expr, wp_retS, wp_retN, wp_iteS, wp_pass, wp_brk, wp_cont, wp_setIx, wp_augX, wp_asgT, wp_for, wp_varX, wp_cst, wp_bin, wp_cmp, wp_cmpT, wp_chainT, wp_chain, wp_and, wp_or, wp_not, wp_iteT, wp_negX, x_negI, x_slS, x_listT, x_tupT, x_bindT, setAll_cons, setAll_nil, true_and, and_true, eq_self, big0, big1, big2, big3, big4, big5, big6, big7, big8, big9, big10, wp_fld, wp_fldT, wp_mcall, wp_mcallT, wp_make, wp_setFld, wp_augFld, wp_asgF, wp_whil, wp_zip, insQ_some, asgFQ_eq, x_setFlds0, x_setFlds1, x_augA, x_augS, x_zipT, x_mulT1, x_mulT0, wp_andT, wp_orT, wp_notT, wp_iteE, wp_idx, wp_sl, wp_call, wp_callK, wp_call0, wp_globX, wp_dictA, wp_bi, wp_tup, wp_lstA, wp_dict0A, wp_meth, wp_lcA, wp_evs_nil, wp_evs_cons, wp_evo_none, wp_evo_some, wp_seq, wp_enum, wp_rng1, wp_rng2, wp_idxT, wp_varT, wp_callT, wp_callKT, wp_biT, x_truB, tsto_none, tsto_some,
  seqQ_nx, seqQ_ret, seqQ_bk, seqQ_ct, endQ_ret, endQ_nx, varQ_some, lstQ_some, dctQ_some, optQ_some, blQ_bl, inQ_int, rgQ_int, rg2Q_int,
  x_eqSS, x_eqII, x_neSS, x_neII, str_we, str_ew, decide_true, decide_false, if_true, if_false, Bool.false_eq_true, reduceIte, x_addI, x_addT, x_addS, x_subI, x_mulI, x_divI, x_modI, x_powI, x_ltI, x_leI, x_gtI, x_geI, x_is, x_isnot, x_isB, x_isNB, x_ixT, x_ixF, x_abs, x_lenT, x_lenF, x_intI, x_intB, x_max2, x_min2, x_seqT, x_seqF, x_slT, x_slFA,
  List.map_cons, List.map_nil, List.length_cons, List.length_nil, List.cons_append, List.nil_append, List.replicate_succ, List.replicate_zero, Nat.reduceSub, Nat.reduceAdd, List.set_cons_zero, List.set_cons_succ, List.getElem?_cons_zero, List.getElem?_cons_succ, Nat.add_zero, Nat.zero_add, Nat.sub_self, decide_eq_true_eq]
  refine ⟨by decide, ?_⟩
  rw [rngI_map]
  refine wp_mono (loopC_inv (gd := []) (st := s1) (fun i : Nat => D.int (i : Nat)) (List.range (2 : Int).toNat) (fun P ds s => ∃ is : List Int, ds = is.map D.int ∧ is.length = P.length ∧ (∀ z ∈ is, 0 ≤ z ∧ z ≤ 99) ∧ Lv s0 [i, c] (Dr i c cs) L s) ?_ (fun _ _ _ => rfl) ⟨[], rfl, rfl, by simp, V1⟩) ?_
  · rintro P a R ds s2 hL ⟨is, rfl, hlen, hb, V2⟩
    refine ⟨rfl, ?_⟩
    rw [wp_compF (env1 := [some (.ob i), some (.str l), some (.str r), none, none, some (.int (a : Nat))]) rfl]
    try simp only [wp_cons, wp_nil, wp_asg, wp_expr, wp_retS, wp_retN, wp_iteS, wp_pass, wp_brk, wp_cont, wp_setIx, wp_augX, wp_asgT, wp_for, wp_varX, wp_cst, wp_bin, wp_cmp, wp_cmpT, wp_chainT, wp_chain, wp_and, wp_or, wp_not, wp_iteT, wp_negX, x_negI, x_slS, x_listT, x_tupT, x_bindT, setAll_cons, setAll_nil, true_and, and_true, eq_self, big0, big1, big2, big3, big4, big5, big6, big7, big8, big9, big10, wp_fld, wp_fldT, wp_mcall, wp_mcallT, wp_make, wp_setFld, wp_augFld, wp_asgF, wp_whil, wp_zip, insQ_some, asgFQ_eq, x_setFlds0, x_setFlds1, x_augA, x_augS, x_zipT, x_mulT1, x_mulT0, wp_andT, wp_orT, wp_notT, wp_iteE, wp_idx, wp_sl, wp_call, wp_callK, wp_call0, wp_globX, wp_dictA, wp_bi, wp_tup, wp_lstA, wp_dict0A, wp_meth, wp_lcA, wp_evs_nil, wp_evs_cons, wp_evo_none, wp_evo_some, wp_seq, wp_enum, wp_rng1, wp_rng2, wp_idxT, wp_varT, wp_callT, wp_callKT, wp_biT, x_truB, tsto_none, tsto_some,
  seqQ_nx, seqQ_ret, seqQ_bk, seqQ_ct, endQ_ret, endQ_nx, varQ_some, lstQ_some, dctQ_some, optQ_some, blQ_bl, inQ_int, rgQ_int, rg2Q_int,
  x_eqSS, x_eqII, x_neSS, x_neII, str_we, str_ew, decide_true, decide_false, if_true, if_false, Bool.false_eq_true, reduceIte, x_addI, x_addT, x_addS, x_subI, x_mulI, x_divI, x_modI, x_powI, x_ltI, x_leI, x_gtI, x_geI, x_is, x_isnot, x_isB, x_isNB, x_ixT, x_ixF, x_abs, x_lenT, x_lenF, x_intI, x_intB, x_max2, x_min2, x_seqT, x_seqF, x_slT, x_slFA,
  List.map_cons, List.map_nil, List.length_cons, List.length_nil, List.cons_append, List.nil_append, List.replicate_succ, List.replicate_zero, Nat.reduceSub, Nat.reduceAdd, List.set_cons_zero, List.set_cons_succ, List.getElem?_cons_zero, List.getElem?_cons_succ, Nat.add_zero, Nat.zero_add, Nat.sub_self, decide_eq_true_eq, eN, eO]
    refine V2.next36 (by decide) (by decide) fun z s3 V3 z0 z1 => ?_
    refine V3.pick36 (ds := ([0, 1, 2, 5, 20, 99, z] : List Int).map D.int) eN7 (by simp) (by simp) fun d hd s4 V4 => ?_
    obtain ⟨g, hg, rfl⟩ := mem_int hd
    refine ⟨is ++ [g], by simp, by simp [hlen], fun y hy => ?_, V4⟩
    rcases List.mem_append.mp hy with hy | hy
    · exact hb y hy
    · rw [List.mem_singleton.mp hy]
      simp only [List.mem_cons, List.not_mem_nil, or_false] at hg
      omega
  · rintro ds s2 ⟨is, rfl, hlen, hb, V2⟩
    have hlen : is.length = 2 := by rw [hlen]; rfl
    match is, hlen with
    | [a, b], _ =>
      have ha := hb a (by simp)
      have hb := hb b (by simp)
      try simp only [wp_cons, wp_nil, wp_asg, wp_expr, wp_retS, wp_retN, wp_iteS, wp_pass, wp_brk, wp_cont, wp_setIx, wp_augX, wp_asgT, wp_for, wp_varX, wp_cst, wp_bin, wp_cmp, wp_cmpT, wp_chainT, wp_chain, wp_and, wp_or, wp_not, wp_iteT, wp_negX, x_negI, x_slS, x_listT, x_tupT, x_bindT, setAll_cons, setAll_nil, true_and, and_true, eq_self, big0, big1, big2, big3, big4, big5, big6, big7, big8, big9, big10, wp_fld, wp_fldT, wp_mcall, wp_mcallT, wp_make, wp_setFld, wp_augFld, wp_asgF, wp_whil, wp_zip, insQ_some, asgFQ_eq, x_setFlds0, x_setFlds1, x_augA, x_augS, x_zipT, x_mulT1, x_mulT0, wp_andT, wp_orT, wp_notT, wp_iteE, wp_idx, wp_sl, wp_call, wp_callK, wp_call0, wp_globX, wp_dictA, wp_bi, wp_tup, wp_lstA, wp_dict0A, wp_meth, wp_lcA, wp_evs_nil, wp_evs_cons, wp_evo_none, wp_evo_some, wp_seq, wp_enum, wp_rng1, wp_rng2, wp_idxT, wp_varT, wp_callT, wp_callKT, wp_biT, x_truB, tsto_none, tsto_some,
  seqQ_nx, seqQ_ret, seqQ_bk, seqQ_ct, endQ_ret, endQ_nx, varQ_some, lstQ_some, dctQ_some, optQ_some, blQ_bl, inQ_int, rgQ_int, rg2Q_int,
  x_eqSS, x_eqII, x_neSS, x_neII, str_we, str_ew, decide_true, decide_false, if_true, if_false, Bool.false_eq_true, reduceIte, x_addI, x_addT, x_addS, x_subI, x_mulI, x_divI, x_modI, x_powI, x_ltI, x_leI, x_gtI, x_geI, x_is, x_isnot, x_isB, x_isNB, x_ixT, x_ixF, x_abs, x_lenT, x_lenF, x_intI, x_intB, x_max2, x_min2, x_seqT, x_seqF, x_slT, x_slFA,
  List.map_cons, List.map_nil, List.length_cons, List.length_nil, List.cons_append, List.nil_append, List.replicate_succ, List.replicate_zero, Nat.reduceSub, Nat.reduceAdd, List.set_cons_zero, List.set_cons_succ, List.getElem?_cons_zero, List.getElem?_cons_succ, Nat.add_zero, Nat.zero_add, Nat.sub_self, decide_eq_true_eq]
      refine V2.alloc fun k s3 V3 => ?_
      rw [x_bindL (V3.get 0 rfl)]
      try simp only [wp_cons, wp_nil, wp_asg, wp_expr, wp_retS, wp_retN, wp_iteS, wp_pass, wp_brk, wp_cont, wp_setIx, wp_augX, wp_asgT, wp_for, wp_varX, wp_cst, wp_bin, wp_cmp, wp_cmpT, wp_chainT, wp_chain, wp_and, wp_or, wp_not, wp_iteT, wp_negX, x_negI, x_slS, x_listT, x_tupT, x_bindT, setAll_cons, setAll_nil, true_and, and_true, eq_self, big0, big1, big2, big3, big4, big5, big6, big7, big8, big9, big10, wp_fld, wp_fldT, wp_mcall, wp_mcallT, wp_make, wp_setFld, wp_augFld, wp_asgF, wp_whil, wp_zip, insQ_some, asgFQ_eq, x_setFlds0, x_setFlds1, x_augA, x_augS, x_zipT, x_mulT1, x_mulT0, wp_andT, wp_orT, wp_notT, wp_iteE, wp_idx, wp_sl, wp_call, wp_callK, wp_call0, wp_globX, wp_dictA, wp_bi, wp_tup, wp_lstA, wp_dict0A, wp_meth, wp_lcA, wp_evs_nil, wp_evs_cons, wp_evo_none, wp_evo_some, wp_seq, wp_enum, wp_rng1, wp_rng2, wp_idxT, wp_varT, wp_callT, wp_callKT, wp_biT, x_truB, tsto_none, tsto_some,
  seqQ_nx, seqQ_ret, seqQ_bk, seqQ_ct, endQ_ret, endQ_nx, varQ_some, lstQ_some, dctQ_some, optQ_some, blQ_bl, inQ_int, rgQ_int, rg2Q_int,
  x_eqSS, x_eqII, x_neSS, x_neII, str_we, str_ew, decide_true, decide_false, if_true, if_false, Bool.false_eq_true, reduceIte, x_addI, x_addT, x_addS, x_subI, x_mulI, x_divI, x_modI, x_powI, x_ltI, x_leI, x_gtI, x_geI, x_is, x_isnot, x_isB, x_isNB, x_ixT, x_ixF, x_abs, x_lenT, x_lenF, x_intI, x_intB, x_max2, x_min2, x_seqT, x_seqF, x_slT, x_slFA,
  List.map_cons, List.map_nil, List.length_cons, List.length_nil, List.cons_append, List.nil_append, List.replicate_succ, List.replicate_zero, Nat.reduceSub, Nat.reduceAdd, List.set_cons_zero, List.set_cons_succ, List.getElem?_cons_zero, List.getElem?_cons_succ, Nat.add_zero, Nat.zero_add, Nat.sub_self, decide_eq_true_eq]
      exact q ⟨l, r, a, b⟩ s3 ⟨⟨hl.1, hl.2⟩, ⟨hr.1, hr.2⟩, ha.1, ha.2, hb.1, hb.2⟩ (V3.sub (List.sublist_cons_self _ _))
abbrev T6 : List Str := ["x", "abcdefgh", "left", "abcde", "abcd", "zz"]
abbrev T2 : List Str := ["", "y"]
abbrev K4 : List Str := ["k", "k", "l", "kl"]
theorem tex_ok : ∀ a ∈ T6, ∀ b ∈ T2, a.length + b.length ≤ 16 ∧ (a ++ b).length ≤ 16 ∧ PyData.strOk (cutS (a ++ b) none (some 8)) = true ∧ (cutS (a ++ b) none (some 8)).length ≤ 8 := by decide +kernel
theorem key_ok : ∀ a ∈ K4, PyData.strOk a = true ∧ a.length ≤ 8 := by decide +kernel
theorem words_body {C : Cts} (hC : DrwC C) {J : Jn} (hJ : JnOk J) {k clock : Int} {f : Nat} {ws : List Wd} {x1 x2 x10 x11 x12 : Option D} {QF : Fl → Store → Prop} (hc : 0 ≤ clock ∧ clock ≤ 999) (hl : ws.length < 1000) (hw : ∀ w ∈ ws, WdOk w) (V : Lv s0 [i, c] (Dr i c cs) [(f, .lst (ws.map wdD))] s)
    (q : ∀ (w : Wd) (clock' : Int) (y10 y11 y12 : Option D) s1, WdOk w → (w.row = J.l ∨ w.row = J.r) → 0 ≤ clock' → clock' ≤ 999 → Lv s0 [i, c] (Dr i c cs) [(f, .lst ((ws ++ [w]).map wdD))] s1 → QF (.nx [some (.ob i), x1, x2, some (.int k), some (.str J.l), some (.str J.r), some (.int J.win), some (.int J.late), some (.int clock'), some (.ob f), y10, y11, y12]) s1) :
    wp (runs C words36_b1 [some (.ob i), x1, x2, some (.int k), some (.str J.l), some (.str J.r), some (.int J.win), some (.int J.late), some (.int clock), some (.ob f), x10, x11, x12]) QF s := by
  have hbig : bigN = 16777216 := rfl
  have w0 := hJ.w0; have w1 := hJ.w1; have l0 := hJ.l0; have l1 := hJ.l1
  obtain ⟨C1, C2, eN, eO, eN7⟩ := hC.ex
  unfold words36_b1
  try simp only [wp_cons, wp_nil, wp_asg, wp_expr, wp_retS, wp_retN, wp_iteS, wp_pass, wp_brk, wp_cont, wp_setIx, wp_augX, wp_asgT, wp_for, wp_varX, wp_cst, wp_bin, wp_cmp, wp_cmpT, wp_chainT, wp_chain, wp_and, wp_or, wp_not, wp_iteT, wp_negX, x_negI, x_slS, x_listT, x_tupT, x_bindT, setAll_cons, setAll_nil, true_and, and_true, eq_self, big0, big1, big2, big3, big4, big5, big6, big7, big8, big9, big10, wp_fld, wp_fldT, wp_mcall, wp_mcallT, wp_make, wp_setFld, wp_augFld, wp_asgF, wp_whil, wp_zip, insQ_some, asgFQ_eq, x_setFlds0, x_setFlds1, x_augA, x_augS, x_zipT, x_mulT1, x_mulT0, wp_andT, wp_orT, wp_notT, wp_iteE, wp_idx, wp_sl, wp_call, wp_callK, wp_call0, wp_globX, wp_dictA, wp_bi, wp_tup, wp_lstA, wp_dict0A, wp_meth, wp_lcA, wp_evs_nil, wp_evs_cons, wp_evo_none, wp_evo_some, wp_seq, wp_enum, wp_rng1, wp_rng2, wp_idxT, wp_varT, wp_callT, wp_callKT, wp_biT, x_truB, tsto_none, tsto_some,
  seqQ_nx, seqQ_ret, seqQ_bk, seqQ_ct, endQ_ret, endQ_nx, varQ_some, lstQ_some, dctQ_some, optQ_some, blQ_bl, inQ_int, rgQ_int, rg2Q_int,
  x_eqSS, x_eqII, x_neSS, x_neII, str_we, str_ew, decide_true, decide_false, if_true, if_false, Bool.false_eq_true, reduceIte, x_addI, x_addT, x_addS, x_subI, x_mulI, x_divI, x_modI, x_powI, x_ltI, x_leI, x_gtI, x_geI, x_is, x_isnot, x_isB, x_isNB, x_ixT, x_ixF, x_abs, x_lenT, x_lenF, x_intI, x_intB, x_max2, x_min2, x_seqT, x_seqF, x_slT, x_slFA,
  List.map_cons, List.map_nil, List.length_cons, List.length_nil, List.cons_append, List.nil_append, List.replicate_succ, List.replicate_zero, Nat.reduceSub, Nat.reduceAdd, List.set_cons_zero, List.set_cons_succ, List.getElem?_cons_zero, List.getElem?_cons_succ, Nat.add_zero, Nat.zero_add, Nat.sub_self, decide_eq_true_eq, eN, eO]
  refine V.pick36 (ds := ([0, 0, 1, J.win, J.win + 1, J.late, J.late + 1, J.win + J.late, J.win + J.late + 1, 7] : List Int).map D.int) eN7 (by simp) (by simp) fun d hd s1 V1 => ?_
  obtain ⟨st, hst, rfl⟩ := mem_int hd
  have hst' : 0 ≤ st ∧ st ≤ 199 := by
    simp only [List.mem_cons, List.not_mem_nil, or_false] at hst
    omega
  try simp only [wp_cons, wp_nil, wp_asg, wp_expr, wp_retS, wp_retN, wp_iteS, wp_pass, wp_brk, wp_cont, wp_setIx, wp_augX, wp_asgT, wp_for, wp_varX, wp_cst, wp_bin, wp_cmp, wp_cmpT, wp_chainT, wp_chain, wp_and, wp_or, wp_not, wp_iteT, wp_negX, x_negI, x_slS, x_listT, x_tupT, x_bindT, setAll_cons, setAll_nil, true_and, and_true, eq_self, big0, big1, big2, big3, big4, big5, big6, big7, big8, big9, big10, wp_fld, wp_fldT, wp_mcall, wp_mcallT, wp_make, wp_setFld, wp_augFld, wp_asgF, wp_whil, wp_zip, insQ_some, asgFQ_eq, x_setFlds0, x_setFlds1, x_augA, x_augS, x_zipT, x_mulT1, x_mulT0, wp_andT, wp_orT, wp_notT, wp_iteE, wp_idx, wp_sl, wp_call, wp_callK, wp_call0, wp_globX, wp_dictA, wp_bi, wp_tup, wp_lstA, wp_dict0A, wp_meth, wp_lcA, wp_evs_nil, wp_evs_cons, wp_evo_none, wp_evo_some, wp_seq, wp_enum, wp_rng1, wp_rng2, wp_idxT, wp_varT, wp_callT, wp_callKT, wp_biT, x_truB, tsto_none, tsto_some,
  seqQ_nx, seqQ_ret, seqQ_bk, seqQ_ct, endQ_ret, endQ_nx, varQ_some, lstQ_some, dctQ_some, optQ_some, blQ_bl, inQ_int, rgQ_int, rg2Q_int,
  x_eqSS, x_eqII, x_neSS, x_neII, str_we, str_ew, decide_true, decide_false, if_true, if_false, Bool.false_eq_true, reduceIte, x_addI, x_addT, x_addS, x_subI, x_mulI, x_divI, x_modI, x_powI, x_ltI, x_leI, x_gtI, x_geI, x_is, x_isnot, x_isB, x_isNB, x_ixT, x_ixF, x_abs, x_lenT, x_lenF, x_intI, x_intB, x_max2, x_min2, x_seqT, x_seqF, x_slT, x_slFA,
  List.map_cons, List.map_nil, List.length_cons, List.length_nil, List.cons_append, List.nil_append, List.replicate_succ, List.replicate_zero, Nat.reduceSub, Nat.reduceAdd, List.set_cons_zero, List.set_cons_succ, List.getElem?_cons_zero, List.getElem?_cons_succ, Nat.add_zero, Nat.zero_add, Nat.sub_self, decide_eq_true_eq]
  refine V1.pick36 (ds := ([1, -1, -1, 0] : List Int).map D.int) eN7 (by simp) (by simp) fun d hd s2 V2 => ?_
  obtain ⟨sg, hsg, rfl⟩ := mem_int hd
  try simp only [wp_cons, wp_nil, wp_asg, wp_expr, wp_retS, wp_retN, wp_iteS, wp_pass, wp_brk, wp_cont, wp_setIx, wp_augX, wp_asgT, wp_for, wp_varX, wp_cst, wp_bin, wp_cmp, wp_cmpT, wp_chainT, wp_chain, wp_and, wp_or, wp_not, wp_iteT, wp_negX, x_negI, x_slS, x_listT, x_tupT, x_bindT, setAll_cons, setAll_nil, true_and, and_true, eq_self, big0, big1, big2, big3, big4, big5, big6, big7, big8, big9, big10, wp_fld, wp_fldT, wp_mcall, wp_mcallT, wp_make, wp_setFld, wp_augFld, wp_asgF, wp_whil, wp_zip, insQ_some, asgFQ_eq, x_setFlds0, x_setFlds1, x_augA, x_augS, x_zipT, x_mulT1, x_mulT0, wp_andT, wp_orT, wp_notT, wp_iteE, wp_idx, wp_sl, wp_call, wp_callK, wp_call0, wp_globX, wp_dictA, wp_bi, wp_tup, wp_lstA, wp_dict0A, wp_meth, wp_lcA, wp_evs_nil, wp_evs_cons, wp_evo_none, wp_evo_some, wp_seq, wp_enum, wp_rng1, wp_rng2, wp_idxT, wp_varT, wp_callT, wp_callKT, wp_biT, x_truB, tsto_none, tsto_some,
  seqQ_nx, seqQ_ret, seqQ_bk, seqQ_ct, endQ_ret, endQ_nx, varQ_some, lstQ_some, dctQ_some, optQ_some, blQ_bl, inQ_int, rgQ_int, rg2Q_int,
  x_eqSS, x_eqII, x_neSS, x_neII, str_we, str_ew, decide_true, decide_false, if_true, if_false, Bool.false_eq_true, reduceIte, x_addI, x_addT, x_addS, x_subI, x_mulI, x_divI, x_modI, x_powI, x_ltI, x_leI, x_gtI, x_geI, x_is, x_isnot, x_isB, x_isNB, x_ixT, x_ixF, x_abs, x_lenT, x_lenF, x_intI, x_intB, x_max2, x_min2, x_seqT, x_seqF, x_slT, x_slFA,
  List.map_cons, List.map_nil, List.length_cons, List.length_nil, List.cons_append, List.nil_append, List.replicate_succ, List.replicate_zero, Nat.reduceSub, Nat.reduceAdd, List.set_cons_zero, List.set_cons_succ, List.getElem?_cons_zero, List.getElem?_cons_succ, Nat.add_zero, Nat.zero_add, Nat.sub_self, decide_eq_true_eq]
  refine ⟨mulOk_left (by omega) (by omega), ?_⟩
  rw [imin', imax']
  generalize ht : max 0 (min 999 (clock + st * sg)) = tm
  have ht0 : 0 ≤ tm ∧ tm ≤ 999 := by omega
  refine V2.pick36 (ds := T6.map D.str) eN7 (by simp) (by simp) fun d hd s3 V3 => ?_
  obtain ⟨ta, hta, rfl⟩ := mem_str hd
  refine V3.pickN36 (ds := T2.map D.str) (by decide) rfl (by decide) fun d hd s4 V4 => ?_
  obtain ⟨tb, htb, rfl⟩ := mem_str hd
  obtain ⟨t1, t2, t3, t4⟩ := tex_ok ta hta tb htb
  try simp only [wp_cons, wp_nil, wp_asg, wp_expr, wp_retS, wp_retN, wp_iteS, wp_pass, wp_brk, wp_cont, wp_setIx, wp_augX, wp_asgT, wp_for, wp_varX, wp_cst, wp_bin, wp_cmp, wp_cmpT, wp_chainT, wp_chain, wp_and, wp_or, wp_not, wp_iteT, wp_negX, x_negI, x_slS, x_listT, x_tupT, x_bindT, setAll_cons, setAll_nil, true_and, and_true, eq_self, big0, big1, big2, big3, big4, big5, big6, big7, big8, big9, big10, wp_fld, wp_fldT, wp_mcall, wp_mcallT, wp_make, wp_setFld, wp_augFld, wp_asgF, wp_whil, wp_zip, insQ_some, asgFQ_eq, x_setFlds0, x_setFlds1, x_augA, x_augS, x_zipT, x_mulT1, x_mulT0, wp_andT, wp_orT, wp_notT, wp_iteE, wp_idx, wp_sl, wp_call, wp_callK, wp_call0, wp_globX, wp_dictA, wp_bi, wp_tup, wp_lstA, wp_dict0A, wp_meth, wp_lcA, wp_evs_nil, wp_evs_cons, wp_evo_none, wp_evo_some, wp_seq, wp_enum, wp_rng1, wp_rng2, wp_idxT, wp_varT, wp_callT, wp_callKT, wp_biT, x_truB, tsto_none, tsto_some,
  seqQ_nx, seqQ_ret, seqQ_bk, seqQ_ct, endQ_ret, endQ_nx, varQ_some, lstQ_some, dctQ_some, optQ_some, blQ_bl, inQ_int, rgQ_int, rg2Q_int,
  x_eqSS, x_eqII, x_neSS, x_neII, str_we, str_ew, decide_true, decide_false, if_true, if_false, Bool.false_eq_true, reduceIte, x_addI, x_addT, x_addS, x_subI, x_mulI, x_divI, x_modI, x_powI, x_ltI, x_leI, x_gtI, x_geI, x_is, x_isnot, x_isB, x_isNB, x_ixT, x_ixF, x_abs, x_lenT, x_lenF, x_intI, x_intB, x_max2, x_min2, x_seqT, x_seqF, x_slT, x_slFA,
  List.map_cons, List.map_nil, List.length_cons, List.length_nil, List.cons_append, List.nil_append, List.replicate_succ, List.replicate_zero, Nat.reduceSub, Nat.reduceAdd, List.set_cons_zero, List.set_cons_succ, List.getElem?_cons_zero, List.getElem?_cons_succ, Nat.add_zero, Nat.zero_add, Nat.sub_self, decide_eq_true_eq]
  refine ⟨by omega, .list, V4.tyL 0 rfl, ?_⟩
  refine V4.pick36 (ds := [J.l, J.r].map D.str) eN7 (by simp) (by simp) fun d hd s5 V5 => ?_
  obtain ⟨row, hrow, rfl⟩ := mem_str hd
  refine V5.pick36 (ds := K4.map D.str) eN7 (by simp) (by simp) fun d hd s6 V6 => ?_
  obtain ⟨key, hkey, rfl⟩ := mem_str hd
  have hro : NmOk row := by
    simp only [List.mem_cons, List.not_mem_nil, or_false] at hrow
    rcases hrow with rfl | rfl
    · exact hJ.l
    · exact hJ.r
  try simp only [wp_cons, wp_nil, wp_asg, wp_expr, wp_retS, wp_retN, wp_iteS, wp_pass, wp_brk, wp_cont, wp_setIx, wp_augX, wp_asgT, wp_for, wp_varX, wp_cst, wp_bin, wp_cmp, wp_cmpT, wp_chainT, wp_chain, wp_and, wp_or, wp_not, wp_iteT, wp_negX, x_negI, x_slS, x_listT, x_tupT, x_bindT, setAll_cons, setAll_nil, true_and, and_true, eq_self, big0, big1, big2, big3, big4, big5, big6, big7, big8, big9, big10, wp_fld, wp_fldT, wp_mcall, wp_mcallT, wp_make, wp_setFld, wp_augFld, wp_asgF, wp_whil, wp_zip, insQ_some, asgFQ_eq, x_setFlds0, x_setFlds1, x_augA, x_augS, x_zipT, x_mulT1, x_mulT0, wp_andT, wp_orT, wp_notT, wp_iteE, wp_idx, wp_sl, wp_call, wp_callK, wp_call0, wp_globX, wp_dictA, wp_bi, wp_tup, wp_lstA, wp_dict0A, wp_meth, wp_lcA, wp_evs_nil, wp_evs_cons, wp_evo_none, wp_evo_some, wp_seq, wp_enum, wp_rng1, wp_rng2, wp_idxT, wp_varT, wp_callT, wp_callKT, wp_biT, x_truB, tsto_none, tsto_some,
  seqQ_nx, seqQ_ret, seqQ_bk, seqQ_ct, endQ_ret, endQ_nx, varQ_some, lstQ_some, dctQ_some, optQ_some, blQ_bl, inQ_int, rgQ_int, rg2Q_int,
  x_eqSS, x_eqII, x_neSS, x_neII, str_we, str_ew, decide_true, decide_false, if_true, if_false, Bool.false_eq_true, reduceIte, x_addI, x_addT, x_addS, x_subI, x_mulI, x_divI, x_modI, x_powI, x_ltI, x_leI, x_gtI, x_geI, x_is, x_isnot, x_isB, x_isNB, x_ixT, x_ixF, x_abs, x_lenT, x_lenF, x_intI, x_intB, x_max2, x_min2, x_seqT, x_seqF, x_slT, x_slFA,
  List.map_cons, List.map_nil, List.length_cons, List.length_nil, List.cons_append, List.nil_append, List.replicate_succ, List.replicate_zero, Nat.reduceSub, Nat.reduceAdd, List.set_cons_zero, List.set_cons_succ, List.getElem?_cons_zero, List.getElem?_cons_succ, Nat.add_zero, Nat.zero_add, Nat.sub_self, decide_eq_true_eq]
  refine ⟨by omega, V6.append 0 rfl (by rw [List.length_map]; omega) fun s7 V7 => ?_⟩
  try simp only [wp_cons, wp_nil, wp_asg, wp_expr, wp_retS, wp_retN, wp_iteS, wp_pass, wp_brk, wp_cont, wp_setIx, wp_augX, wp_asgT, wp_for, wp_varX, wp_cst, wp_bin, wp_cmp, wp_cmpT, wp_chainT, wp_chain, wp_and, wp_or, wp_not, wp_iteT, wp_negX, x_negI, x_slS, x_listT, x_tupT, x_bindT, setAll_cons, setAll_nil, true_and, and_true, eq_self, big0, big1, big2, big3, big4, big5, big6, big7, big8, big9, big10, wp_fld, wp_fldT, wp_mcall, wp_mcallT, wp_make, wp_setFld, wp_augFld, wp_asgF, wp_whil, wp_zip, insQ_some, asgFQ_eq, x_setFlds0, x_setFlds1, x_augA, x_augS, x_zipT, x_mulT1, x_mulT0, wp_andT, wp_orT, wp_notT, wp_iteE, wp_idx, wp_sl, wp_call, wp_callK, wp_call0, wp_globX, wp_dictA, wp_bi, wp_tup, wp_lstA, wp_dict0A, wp_meth, wp_lcA, wp_evs_nil, wp_evs_cons, wp_evo_none, wp_evo_some, wp_seq, wp_enum, wp_rng1, wp_rng2, wp_idxT, wp_varT, wp_callT, wp_callKT, wp_biT, x_truB, tsto_none, tsto_some,
  seqQ_nx, seqQ_ret, seqQ_bk, seqQ_ct, endQ_ret, endQ_nx, varQ_some, lstQ_some, dctQ_some, optQ_some, blQ_bl, inQ_int, rgQ_int, rg2Q_int,
  x_eqSS, x_eqII, x_neSS, x_neII, str_we, str_ew, decide_true, decide_false, if_true, if_false, Bool.false_eq_true, reduceIte, x_addI, x_addT, x_addS, x_subI, x_mulI, x_divI, x_modI, x_powI, x_ltI, x_leI, x_gtI, x_geI, x_is, x_isnot, x_isB, x_isNB, x_ixT, x_ixF, x_abs, x_lenT, x_lenF, x_intI, x_intB, x_max2, x_min2, x_seqT, x_seqF, x_slT, x_slFA,
  List.map_cons, List.map_nil, List.length_cons, List.length_nil, List.cons_append, List.nil_append, List.replicate_succ, List.replicate_zero, Nat.reduceSub, Nat.reduceAdd, List.set_cons_zero, List.set_cons_succ, List.getElem?_cons_zero, List.getElem?_cons_succ, Nat.add_zero, Nat.zero_add, Nat.sub_self, decide_eq_true_eq]
  rw [imax']
  refine V7.pick36 (ds := ([clock, max clock tm] : List Int).map D.int) eN7 (by simp) (by simp) fun d hd s8 V8 => ?_
  obtain ⟨cl, hcl, rfl⟩ := mem_int hd
  have hcl' : 0 ≤ cl ∧ cl ≤ 999 := by
    simp only [List.mem_cons, List.not_mem_nil, or_false] at hcl
    omega
  try simp only [wp_cons, wp_nil, wp_asg, wp_expr, wp_retS, wp_retN, wp_iteS, wp_pass, wp_brk, wp_cont, wp_setIx, wp_augX, wp_asgT, wp_for, wp_varX, wp_cst, wp_bin, wp_cmp, wp_cmpT, wp_chainT, wp_chain, wp_and, wp_or, wp_not, wp_iteT, wp_negX, x_negI, x_slS, x_listT, x_tupT, x_bindT, setAll_cons, setAll_nil, true_and, and_true, eq_self, big0, big1, big2, big3, big4, big5, big6, big7, big8, big9, big10, wp_fld, wp_fldT, wp_mcall, wp_mcallT, wp_make, wp_setFld, wp_augFld, wp_asgF, wp_whil, wp_zip, insQ_some, asgFQ_eq, x_setFlds0, x_setFlds1, x_augA, x_augS, x_zipT, x_mulT1, x_mulT0, wp_andT, wp_orT, wp_notT, wp_iteE, wp_idx, wp_sl, wp_call, wp_callK, wp_call0, wp_globX, wp_dictA, wp_bi, wp_tup, wp_lstA, wp_dict0A, wp_meth, wp_lcA, wp_evs_nil, wp_evs_cons, wp_evo_none, wp_evo_some, wp_seq, wp_enum, wp_rng1, wp_rng2, wp_idxT, wp_varT, wp_callT, wp_callKT, wp_biT, x_truB, tsto_none, tsto_some,
  seqQ_nx, seqQ_ret, seqQ_bk, seqQ_ct, endQ_ret, endQ_nx, varQ_some, lstQ_some, dctQ_some, optQ_some, blQ_bl, inQ_int, rgQ_int, rg2Q_int,
  x_eqSS, x_eqII, x_neSS, x_neII, str_we, str_ew, decide_true, decide_false, if_true, if_false, Bool.false_eq_true, reduceIte, x_addI, x_addT, x_addS, x_subI, x_mulI, x_divI, x_modI, x_powI, x_ltI, x_leI, x_gtI, x_geI, x_is, x_isnot, x_isB, x_isNB, x_ixT, x_ixF, x_abs, x_lenT, x_lenF, x_intI, x_intB, x_max2, x_min2, x_seqT, x_seqF, x_slT, x_slFA,
  List.map_cons, List.map_nil, List.length_cons, List.length_nil, List.cons_append, List.nil_append, List.replicate_succ, List.replicate_zero, Nat.reduceSub, Nat.reduceAdd, List.set_cons_zero, List.set_cons_succ, List.getElem?_cons_zero, List.getElem?_cons_succ, Nat.add_zero, Nat.zero_add, Nat.sub_self, decide_eq_true_eq]
  refine q ⟨row, key, cutS (ta ++ tb) none (some 8), tm⟩ cl _ _ _ s8 ⟨hro, ⟨(key_ok key hkey).1, (key_ok key hkey).2⟩, ⟨t3, t4⟩, ht0.1, ht0.2⟩ (by simpa using hrow) hcl'.1 hcl'.2 ?_
  rw [List.map_append]
  exact V8
theorem words_wp {C : Cts} (hC : DrwC C) {J : Jn} {n : Nat} (hJ : JnOk J) (hn : n < 1000) (V : Lv s0 [i, c] (Dr i c cs) [] s)
    (q : ∀ f (ws : List Wd) s1, ws.length = n → (∀ w ∈ ws, WdOk w) → (∀ w ∈ ws, w.row = J.l ∨ w.row = J.r) → Lv s0 [i, c] (Dr i c cs) [(f, .lst (ws.map wdD))] s1 → Q (.ob f) s1) : wp (callDef C 13 words36_b [.ob i, jnD J, .int n]) Q s := by
  rw [wp_callDef]
  obtain ⟨C1, C2, eN, eO, eN7⟩ := hC.ex
  unfold words36_b
  try simp only [wp_cons, wp_nil, wp_asg, wp_expr, wp_retS, wp_retN, wp_iteS, wp_pass, wp_brk, wp_cont, wp_setIx, wp_augX, wp_asgT, wp_for, wp_varX, wp_cst, wp_bin, wp_cmp, wp_cmpT, wp_chainT, wp_chain, wp_and, wp_or, wp_not, wp_iteT, wp_negX, x_negI, x_slS, x_listT, x_tupT, x_bindT, setAll_cons, setAll_nil, true_and, and_true, eq_self, big0, big1, big2, big3, big4, big5, big6, big7, big8, big9, big10, wp_fld, wp_fldT, wp_mcall, wp_mcallT, wp_make, wp_setFld, wp_augFld, wp_asgF, wp_whil, wp_zip, insQ_some, asgFQ_eq, x_setFlds0, x_setFlds1, x_augA, x_augS, x_zipT, x_mulT1, x_mulT0, wp_andT, wp_orT, wp_notT, wp_iteE, wp_idx, wp_sl, wp_call, wp_callK, wp_call0, wp_globX, wp_dictA, wp_bi, wp_tup, wp_lstA, wp_dict0A, wp_meth, wp_lcA, wp_evs_nil, wp_evs_cons, wp_evo_none, wp_evo_some, wp_seq, wp_enum, wp_rng1, wp_rng2, wp_idxT, wp_varT, wp_callT, wp_callKT, wp_biT, x_truB, tsto_none, tsto_some,
  seqQ_nx, seqQ_ret, seqQ_bk, seqQ_ct, endQ_ret, endQ_nx, varQ_some, lstQ_some, dctQ_some, optQ_some, blQ_bl, inQ_int, rgQ_int, rg2Q_int,
  x_eqSS, x_eqII, x_neSS, x_neII, str_we, str_ew, decide_true, decide_false, if_true, if_false, Bool.false_eq_true, reduceIte, x_addI, x_addT, x_addS, x_subI, x_mulI, x_divI, x_modI, x_powI, x_ltI, x_leI, x_gtI, x_geI, x_is, x_isnot, x_isB, x_isNB, x_ixT, x_ixF, x_abs, x_lenT, x_lenF, x_intI, x_intB, x_max2, x_min2, x_seqT, x_seqF, x_slT, x_slFA,
  List.map_cons, List.map_nil, List.length_cons, List.length_nil, List.cons_append, List.nil_append, List.replicate_succ, List.replicate_zero, Nat.reduceSub, Nat.reduceAdd, List.set_cons_zero, List.set_cons_succ, List.getElem?_cons_zero, List.getElem?_cons_succ, Nat.add_zero, Nat.zero_add, Nat.sub_self, decide_eq_true_eq, eN, eO]
  refine V.next36 (by decide) (by decide) fun z s1 V1 z0 z1 => ?_
  refine V1.pick36 (ds := ([0, 5, 400, 999, z] : List Int).map D.int) eN7 (by simp) (by simp) fun d hd s2 V2 => ?_
  obtain ⟨cl, hcl, rfl⟩ := mem_int hd
  have hcl' : 0 ≤ cl ∧ cl ≤ 999 := by
    simp only [List.mem_cons, List.not_mem_nil, or_false] at hcl
    omega
  try simp only [wp_cons, wp_nil, wp_asg, wp_expr, wp_retS, wp_retN, wp_iteS, wp_pass, wp_brk, wp_cont, wp_setIx, wp_augX, wp_asgT, wp_for, wp_varX, wp_cst, wp_bin, wp_cmp, wp_cmpT, wp_chainT, wp_chain, wp_and, wp_or, wp_not, wp_iteT, wp_negX, x_negI, x_slS, x_listT, x_tupT, x_bindT, setAll_cons, setAll_nil, true_and, and_true, eq_self, big0, big1, big2, big3, big4, big5, big6, big7, big8, big9, big10, wp_fld, wp_fldT, wp_mcall, wp_mcallT, wp_make, wp_setFld, wp_augFld, wp_asgF, wp_whil, wp_zip, insQ_some, asgFQ_eq, x_setFlds0, x_setFlds1, x_augA, x_augS, x_zipT, x_mulT1, x_mulT0, wp_andT, wp_orT, wp_notT, wp_iteE, wp_idx, wp_sl, wp_call, wp_callK, wp_call0, wp_globX, wp_dictA, wp_bi, wp_tup, wp_lstA, wp_dict0A, wp_meth, wp_lcA, wp_evs_nil, wp_evs_cons, wp_evo_none, wp_evo_some, wp_seq, wp_enum, wp_rng1, wp_rng2, wp_idxT, wp_varT, wp_callT, wp_callKT, wp_biT, x_truB, tsto_none, tsto_some,
  seqQ_nx, seqQ_ret, seqQ_bk, seqQ_ct, endQ_ret, endQ_nx, varQ_some, lstQ_some, dctQ_some, optQ_some, blQ_bl, inQ_int, rgQ_int, rg2Q_int,
  x_eqSS, x_eqII, x_neSS, x_neII, str_we, str_ew, decide_true, decide_false, if_true, if_false, Bool.false_eq_true, reduceIte, x_addI, x_addT, x_addS, x_subI, x_mulI, x_divI, x_modI, x_powI, x_ltI, x_leI, x_gtI, x_geI, x_is, x_isnot, x_isB, x_isNB, x_ixT, x_ixF, x_abs, x_lenT, x_lenF, x_intI, x_intB, x_max2, x_min2, x_seqT, x_seqF, x_slT, x_slFA,
  List.map_cons, List.map_nil, List.length_cons, List.length_nil, List.cons_append, List.nil_append, List.replicate_succ, List.replicate_zero, Nat.reduceSub, Nat.reduceAdd, List.set_cons_zero, List.set_cons_succ, List.getElem?_cons_zero, List.getElem?_cons_succ, Nat.add_zero, Nat.zero_add, Nat.sub_self, decide_eq_true_eq]
  refine V2.alloc fun f s3 V3 => ?_
  try simp only [wp_cons, wp_nil, wp_asg, wp_expr, wp_retS, wp_retN, wp_iteS, wp_pass, wp_brk, wp_cont, wp_setIx, wp_augX, wp_asgT, wp_for, wp_varX, wp_cst, wp_bin, wp_cmp, wp_cmpT, wp_chainT, wp_chain, wp_and, wp_or, wp_not, wp_iteT, wp_negX, x_negI, x_slS, x_listT, x_tupT, x_bindT, setAll_cons, setAll_nil, true_and, and_true, eq_self, big0, big1, big2, big3, big4, big5, big6, big7, big8, big9, big10, wp_fld, wp_fldT, wp_mcall, wp_mcallT, wp_make, wp_setFld, wp_augFld, wp_asgF, wp_whil, wp_zip, insQ_some, asgFQ_eq, x_setFlds0, x_setFlds1, x_augA, x_augS, x_zipT, x_mulT1, x_mulT0, wp_andT, wp_orT, wp_notT, wp_iteE, wp_idx, wp_sl, wp_call, wp_callK, wp_call0, wp_globX, wp_dictA, wp_bi, wp_tup, wp_lstA, wp_dict0A, wp_meth, wp_lcA, wp_evs_nil, wp_evs_cons, wp_evo_none, wp_evo_some, wp_seq, wp_enum, wp_rng1, wp_rng2, wp_idxT, wp_varT, wp_callT, wp_callKT, wp_biT, x_truB, tsto_none, tsto_some,
  seqQ_nx, seqQ_ret, seqQ_bk, seqQ_ct, endQ_ret, endQ_nx, varQ_some, lstQ_some, dctQ_some, optQ_some, blQ_bl, inQ_int, rgQ_int, rg2Q_int,
  x_eqSS, x_eqII, x_neSS, x_neII, str_we, str_ew, decide_true, decide_false, if_true, if_false, Bool.false_eq_true, reduceIte, x_addI, x_addT, x_addS, x_subI, x_mulI, x_divI, x_modI, x_powI, x_ltI, x_leI, x_gtI, x_geI, x_is, x_isnot, x_isB, x_isNB, x_ixT, x_ixF, x_abs, x_lenT, x_lenF, x_intI, x_intB, x_max2, x_min2, x_seqT, x_seqF, x_slT, x_slFA,
  List.map_cons, List.map_nil, List.length_cons, List.length_nil, List.cons_append, List.nil_append, List.replicate_succ, List.replicate_zero, Nat.reduceSub, Nat.reduceAdd, List.set_cons_zero, List.set_cons_succ, List.getElem?_cons_zero, List.getElem?_cons_succ, Nat.add_zero, Nat.zero_add, Nat.sub_self, decide_eq_true_eq]
  refine ⟨rng_okc (by omega) (by omega), ?_⟩
  rw [rngI_map, Int.toNat_natCast]
  refine loopF_nx (gd := []) (fun i : Nat => D.int (i : Nat)) (List.range n) (fun P env s => ∃ y3 y10 y11 y12, ∃ (clock : Int) (ws : List Wd), env = [some (.ob i), some (jnD J), some (.int n), y3, some (.str J.l), some (.str J.r), some (.int J.win), some (.int J.late), some (.int clock), some (.ob f), y10, y11, y12] ∧ 0 ≤ clock ∧ clock ≤ 999 ∧ ws.length = P.length ∧ (∀ w ∈ ws, WdOk w) ∧ (∀ w ∈ ws, w.row = J.l ∨ w.row = J.r) ∧ Lv s0 [i, c] (Dr i c cs) [(f, .lst (ws.map wdD))] s) ?_ ?_ ⟨_, _, _, _, cl, [], rfl, hcl'.1, hcl'.2, rfl, by simp, by simp, V3⟩
  · rintro P a R env s hL ⟨y3, y10, y11, y12, clock, ws, rfl, c0, c1, hlen, hw, hr, V⟩
    have hPl : P.length < n := by
      have := congrArg List.length hL
      simp only [List.length_range, List.length_append, List.length_cons] at this
      omega
    refine ⟨rfl, ?_⟩
    rw [wp_forF (env1 := [some (.ob i), some (jnD J), some (.int n), some (.int (a : Nat)), some (.str J.l), some (.str J.r), some (.int J.win), some (.int J.late), some (.int clock), some (.ob f), y10, y11, y12]) rfl]
    refine words_body hC hJ ⟨c0, c1⟩ (by omega) hw V fun w clock' z10 z11 z12 s1 hwd hrw k0 k1 V1 => ⟨_, rfl, _, _, _, _, clock', ws ++ [w], rfl, k0, k1, by simp [hlen], fun y hy => ?_, fun y hy => ?_, V1⟩
    · rcases List.mem_append.mp hy with hy | hy
      · exact hw y hy
      · rw [List.mem_singleton.mp hy]; exact hwd
    · rcases List.mem_append.mp hy with hy | hy
      · exact hr y hy
      · rw [List.mem_singleton.mp hy]; exact hrw
  · rintro env s ⟨y3, y10, y11, y12, clock, ws, rfl, c0, c1, hlen, hw, hr, V⟩
    refine ⟨rfl, ?_⟩
    try simp only [wp_cons, wp_nil, wp_asg, wp_expr, wp_retS, wp_retN, wp_iteS, wp_pass, wp_brk, wp_cont, wp_setIx, wp_augX, wp_asgT, wp_for, wp_varX, wp_cst, wp_bin, wp_cmp, wp_cmpT, wp_chainT, wp_chain, wp_and, wp_or, wp_not, wp_iteT, wp_negX, x_negI, x_slS, x_listT, x_tupT, x_bindT, setAll_cons, setAll_nil, true_and, and_true, eq_self, big0, big1, big2, big3, big4, big5, big6, big7, big8, big9, big10, wp_fld, wp_fldT, wp_mcall, wp_mcallT, wp_make, wp_setFld, wp_augFld, wp_asgF, wp_whil, wp_zip, insQ_some, asgFQ_eq, x_setFlds0, x_setFlds1, x_augA, x_augS, x_zipT, x_mulT1, x_mulT0, wp_andT, wp_orT, wp_notT, wp_iteE, wp_idx, wp_sl, wp_call, wp_callK, wp_call0, wp_globX, wp_dictA, wp_bi, wp_tup, wp_lstA, wp_dict0A, wp_meth, wp_lcA, wp_evs_nil, wp_evs_cons, wp_evo_none, wp_evo_some, wp_seq, wp_enum, wp_rng1, wp_rng2, wp_idxT, wp_varT, wp_callT, wp_callKT, wp_biT, x_truB, tsto_none, tsto_some,
  seqQ_nx, seqQ_ret, seqQ_bk, seqQ_ct, endQ_ret, endQ_nx, varQ_some, lstQ_some, dctQ_some, optQ_some, blQ_bl, inQ_int, rgQ_int, rg2Q_int,
  x_eqSS, x_eqII, x_neSS, x_neII, str_we, str_ew, decide_true, decide_false, if_true, if_false, Bool.false_eq_true, reduceIte, x_addI, x_addT, x_addS, x_subI, x_mulI, x_divI, x_modI, x_powI, x_ltI, x_leI, x_gtI, x_geI, x_is, x_isnot, x_isB, x_isNB, x_ixT, x_ixF, x_abs, x_lenT, x_lenF, x_intI, x_intB, x_max2, x_min2, x_seqT, x_seqF, x_slT, x_slFA,
  List.map_cons, List.map_nil, List.length_cons, List.length_nil, List.cons_append, List.nil_append, List.replicate_succ, List.replicate_zero, Nat.reduceSub, Nat.reduceAdd, List.set_cons_zero, List.set_cons_succ, List.getElem?_cons_zero, List.getElem?_cons_succ, Nat.add_zero, Nat.zero_add, Nat.sub_self, decide_eq_true_eq]
    exact q f ws s (by rw [hlen]; simp) hw hr V
end
structure PrOk (p : Pr) : Prop where
  key : NmOk p.key
  left : NmOk p.left
  right : NmOk p.right
  t0 : 0 ≤ p.time
  t1 : p.time ≤ 999
theorem pair_ok {J : Jn} {w o : Wd} (hw : WdOk w) (ho : WdOk o) : PrOk (pairOf J w o) := by
  have := hw.t0; have := hw.t1; have := ho.t0; have := ho.t1
  unfold pairOf
  split
  · exact ⟨hw.key, hw.text, ho.text, by show 0 ≤ max w.time o.time; omega, by show max w.time o.time ≤ 999; omega⟩
  · exact ⟨hw.key, ho.text, hw.text, by show 0 ≤ max w.time o.time; omega, by show max w.time o.time ≤ 999; omega⟩
theorem jrun_ok {J : Jn} : ∀ ws : List Wd, (∀ w ∈ ws, WdOk w) → (∀ w ∈ (jrun J ws).kept, WdOk w) ∧ ∀ p ∈ (jrun J ws).found, PrOk p := by
  intro ws
  rw [← List.reverse_reverse ws]
  generalize ws.reverse = l
  induction l with
  | nil => intro _; simp [jrun]
  | cons w l ih =>
    intro h
    rw [List.reverse_cons] at h ⊢
    obtain ⟨h1, h2⟩ := ih fun v hv => h v (List.mem_append_left _ hv)
    have hw := h w (by simp)
    rw [jrun_snoc]
    refine ⟨fun v hv => ?_, fun p hp => ?_⟩
    · simp only [jstep] at hv
      split at hv
      · exact h1 v hv
      · rcases List.mem_append.mp hv with hv | hv
        · exact h1 v hv
        · rw [List.mem_singleton.mp hv]; exact hw
    · simp only [jstep, jmade] at hp
      rcases List.mem_append.mp hp with hp | hp
      · exact h2 p hp
      · split at hp
        · cases hp
        · obtain ⟨o, ho, rfl⟩ := List.mem_map.mp hp
          exact pair_ok hw (h1 o (List.mem_filter.mp ho).1)
theorem nm_shw {s : Str} (h : NmOk s) : Shw 82 0 (.str s) := Shw.str h.ok h.len
theorem four {a b c : Str} {t : Int} (ha : NmOk a) (hb : NmOk b) (hc : NmOk c) (h0 : 0 ≤ t) (h1 : t ≤ 999) : Shw 339 1 (.tup [.str a, .str b, .str c, .int t]) := by
  refine (Shw.tup (n := 82) (k := 0) fun x hx => ?_).mono (by simp) (Nat.le_refl _)
  simp only [List.mem_cons, List.not_mem_nil, or_false] at hx
  rcases hx with rfl | rfl | rfl | rfl
  · exact nm_shw ha
  · exact nm_shw hb
  · exact nm_shw hc
  · exact (Shw.int20 (by omega) (by omega)).mono (by omega) (Nat.le_refl _)
theorem four5 {a b c : Str} {t : Int} (ha : NmOk a) (hb : NmOk b) (hc : NmOk c) (h0 : 0 ≤ t) (h1 : t ≤ 100000) : Shw 339 1 (.tup [.str a, .str b, .str c, .int t]) := by
  refine (Shw.tup (n := 82) (k := 0) fun x hx => ?_).mono (by simp) (Nat.le_refl _)
  simp only [List.mem_cons, List.not_mem_nil, or_false] at hx
  rcases hx with rfl | rfl | rfl | rfl
  · exact nm_shw ha
  · exact nm_shw hb
  · exact nm_shw hc
  · exact (Shw.int20 (by omega) (by omega)).mono (by omega) (Nat.le_refl _)
theorem jn_shw {J : Jn} (h : JnOk J) : Shw 339 1 (jnD J) := by
  have := h.w0; have := h.w1; have := h.l0; have := h.l1
  refine (Shw.tup (n := 82) (k := 0) fun x hx => ?_).mono (by simp) (Nat.le_refl _)
  simp only [List.mem_cons, List.not_mem_nil, or_false] at hx
  rcases hx with rfl | rfl | rfl | rfl
  · exact nm_shw h.l
  · exact nm_shw h.r
  · exact (Shw.int20 (by omega) (by omega)).mono (by omega) (Nat.le_refl _)
  · exact (Shw.int20 (by omega) (by omega)).mono (by omega) (Nat.le_refl _)
end W9

/-! Y6: joiners -/
namespace W9
open PySem L2
def mayP (J : Jn) (c : Int) (o : Wd) : Bool := decide (c ≤ o.time + J.win + J.late)
def kClock (J : Jn) (c : Int) (w : Wd) : Int := if isLate J c w.time = true then c else max c w.time
def kHeld (J : Jn) (c : Int) (held : List Wd) (w : Wd) : List Wd := if isLate J c w.time = true then held else (held ++ [w]).filter (mayP J (max c w.time))
def kMade (J : Jn) (c : Int) (held : List Wd) (w : Wd) : List Pr := if isLate J c w.time = true then [] else (held.filter (near J w)).map (pairOf J w)
/-- a joiner as an object -/
def jnrO (J : Jn) (c : Int) (held : List Wd) : Ob := .ins "Joiner" [("joining", jnD J), ("clock_now", .int c), ("held", .tup (held.map wdD))]
structure JnrF (fl : Str → Str → Bool) : Prop where
  j : fl "Joiner" "joining" = true
  c : fl "Joiner" "clock_now" = true
  h : fl "Joiner" "held" = true
theorem n_jc : (("joining" : Str) == "clock_now") = false := by decide +kernel
theorem n_cj : (("clock_now" : Str) == "joining") = false := by decide +kernel
theorem n_hj : (("held" : Str) == "joining") = false := by decide +kernel
theorem n_hc : (("held" : Str) == "clock_now") = false := by decide +kernel
theorem m_jc : (("joining" : Str) = "clock_now") = False := eq_false (by decide +kernel)
theorem m_jh : (("joining" : Str) = "held") = False := eq_false (by decide +kernel)
theorem m_ch : (("clock_now" : Str) = "held") = False := eq_false (by decide +kernel)
section
variable {a b c d : D}
abbrev fs3 (a b c : D) : List (Str × D) := [("joining", a), ("clock_now", b), ("held", c)]
theorem l3j : (fs3 a b c).lookup ("joining" : Str) = some a := by simp only [List.lookup_cons, beq_self_eq_true]
theorem l3c : (fs3 a b c).lookup ("clock_now" : Str) = some b := by simp only [List.lookup_cons, n_cj, beq_self_eq_true]
theorem l3h : (fs3 a b c).lookup ("held" : Str) = some c := by simp only [List.lookup_cons, n_hj, n_hc, beq_self_eq_true]
theorem p3c : putFd "clock_now" d (fs3 a b c) = fs3 a d c := by simp only [putFd, m_jc, if_false, if_true]
theorem p3h : putFd "held" d (fs3 a b c) = fs3 a b d := by simp only [putFd, m_jh, m_ch, if_false, if_true]
abbrev fs1 (a : D) : List (Str × D) := [("joining", a)]
abbrev fs2 (a b : D) : List (Str × D) := [("joining", a), ("clock_now", b)]
theorem p0 : putFd "joining" a [] = fs1 a := rfl
theorem p1 : putFd "clock_now" b (fs1 a) = fs2 a b := by simp only [putFd, m_jc, if_false]
theorem p2 : putFd "held" c (fs2 a b) = fs3 a b c := by simp only [putFd, m_jh, m_ch, if_false]
theorem n_mj : (("may_pair" : Str) == "joining") = false := by decide +kernel
theorem n_mc : (("may_pair" : Str) == "clock_now") = false := by decide +kernel
theorem n_mh : (("may_pair" : Str) == "held") = false := by decide +kernel
theorem l3m : ((fs3 a b c).lookup ("may_pair" : Str)).isNone = true := by simp only [List.lookup_cons, n_mj, n_mc, n_mh, List.lookup_nil, Option.isNone_none]
theorem len3 : ((fs3 a b c).length < 900) = True := eq_true (by show 3 < 900; decide)
end
def init_b : Sms :=
  (.cons (.setFld (.var 0) "joining" (.var 1))
    (.cons (.setFld (.var 0) "clock_now" (.neg (.cst (.int 1))))
    (.cons (.setFld (.var 0) "held" (.tup .nil))
    .nil)))
def joiner_b : Sms :=
  (.cons (.asg 2 (.make ".__init__" "Joiner" [] (.cons (.var 0) .nil) .nil))
    (.cons (.asgF 2 ["clock_now", "held"] (.var 1))
    (.cons (.ret (.var 2))
    .nil)))
def state_b : Sms :=
  (.cons (.ret (.tup (.cons (.fld (.var 0) "clock_now") (.cons (.fld (.var 0) "held") .nil))))
    .nil)
def clock_b : Sms :=
  (.cons (.ret (.fld (.var 0) "clock_now"))
    .nil)
def kept_b : Sms :=
  (.cons (.ret (.fld (.var 0) "held"))
    .nil)
def may_pair_b : Sms :=
  (.cons (.asgT [2, 3, 4, 5] (.fld (.var 0) "joining"))
    (.cons (.ret (.cmp .GtE (.bin .Add (.bin .Add (.idx (.var 1) (.cst (.int 3))) (.var 4)) (.var 5)) (.fld (.var 0) "clock_now")))
    .nil))
def jtake_b : Sms :=
  (.cons (.asg 5 (.tup (.cons (.var 1) (.cons (.var 2) (.cons (.var 3) (.cons (.var 4) .nil))))))
    (.cons (.ite (.call "is_late" (.cons (.fld (.var 0) "joining") (.cons (.fld (.var 0) "clock_now") (.cons (.var 4) .nil))))
    (.cons (.ret (.tup .nil))
    .nil)
    .nil)
    (.cons (.asg 6 (.lc [8] (.seq (.fld (.var 0) "held")) (.name 8) (.some (.call "are_near" (.cons (.fld (.var 0) "joining") (.cons (.var 5) (.cons (.var 8) .nil))))) (.var 8)))
    (.cons (.asg 7 (.bi .tuple (.cons (.lc [8] (.seq (.var 6)) (.name 8) .none (.call "pair_made" (.cons (.fld (.var 0) "joining") (.cons (.var 5) (.cons (.var 8) .nil))))) .nil)))
    (.cons (.setFld (.var 0) "clock_now" (.bi .max (.cons (.fld (.var 0) "clock_now") (.cons (.var 4) .nil))))
    (.cons (.setFld (.var 0) "held" (.bi .tuple (.cons (.lc [9] (.seq (.bin .Add (.fld (.var 0) "held") (.tup (.cons (.var 5) .nil)))) (.name 9) (.some (.mcall ".may_pair" "may_pair" [] (.var 0) (.cons (.var 9) .nil) .nil)) (.var 9)) .nil)))
    (.cons (.ret (.var 7))
    .nil)))))))
section
variable {C : Cts} {J : Jn} {c : Int} {held : List Wd} {j : Nat} {s : Store} {Q : D → Store → Prop}
theorem clock_wp (hf : JnrF C.fl) (h : s[j]? = some (jnrO J c held)) : wp (callDef C 1 clock_b [.ob j]) Q s ↔ Q (.int c) s := by
  unfold jnrO at h
  rw [wp_callDef]
  unfold clock_b
  try simp only [wp_cons, wp_nil, wp_asg, wp_expr, wp_retS, wp_retN, wp_iteS, wp_pass, wp_brk, wp_cont, wp_setIx, wp_augX, wp_asgT, wp_for, wp_varX, wp_cst, wp_bin, wp_cmp, wp_cmpT, wp_chainT, wp_chain, wp_and, wp_or, wp_not, wp_iteT, wp_negX, x_negI, x_slS, x_listT, x_tupT, x_bindT, setAll_cons, setAll_nil, true_and, and_true, eq_self, big0, big1, big2, big3, big4, big5, big6, big7, big8, big9, big10, wp_fld, wp_fldT, wp_mcall, wp_mcallT, wp_make, wp_setFld, wp_augFld, wp_asgF, wp_whil, wp_zip, insQ_some, asgFQ_eq, x_setFlds0, x_setFlds1, x_augA, x_augS, x_zipT, x_mulT1, x_mulT0, wp_andT, wp_orT, wp_notT, wp_iteE, wp_idx, wp_sl, wp_call, wp_callK, wp_call0, wp_globX, wp_dictA, wp_bi, wp_tup, wp_lstA, wp_dict0A, wp_meth, wp_lcA, wp_evs_nil, wp_evs_cons, wp_evo_none, wp_evo_some, wp_seq, wp_enum, wp_rng1, wp_rng2, wp_idxT, wp_varT, wp_callT, wp_callKT, wp_biT, x_truB, tsto_none, tsto_some,
  seqQ_nx, seqQ_ret, seqQ_bk, seqQ_ct, endQ_ret, endQ_nx, varQ_some, lstQ_some, dctQ_some, optQ_some, blQ_bl, inQ_int, rgQ_int, rg2Q_int,
  x_eqSS, x_eqII, x_neSS, x_neII, str_we, str_ew, decide_true, decide_false, if_true, if_false, Bool.false_eq_true, reduceIte, x_addI, x_addT, x_addS, x_subI, x_mulI, x_divI, x_modI, x_powI, x_ltI, x_leI, x_gtI, x_geI, x_is, x_isnot, x_isB, x_isNB, x_ixT, x_ixF, x_abs, x_lenT, x_lenF, x_intI, x_intB, x_max2, x_min2, x_seqT, x_seqF, x_slT, x_slFA,
  List.map_cons, List.map_nil, List.length_cons, List.length_nil, List.cons_append, List.nil_append, List.replicate_succ, List.replicate_zero, Nat.reduceSub, Nat.reduceAdd, List.set_cons_zero, List.set_cons_succ, List.getElem?_cons_zero, List.getElem?_cons_succ, Nat.add_zero, Nat.zero_add, Nat.sub_self, decide_eq_true_eq, x_fld h, hf.c, l3c]
theorem kept_wp (hf : JnrF C.fl) (h : s[j]? = some (jnrO J c held)) : wp (callDef C 1 kept_b [.ob j]) Q s ↔ Q (.tup (held.map wdD)) s := by
  unfold jnrO at h
  rw [wp_callDef]
  unfold kept_b
  try simp only [wp_cons, wp_nil, wp_asg, wp_expr, wp_retS, wp_retN, wp_iteS, wp_pass, wp_brk, wp_cont, wp_setIx, wp_augX, wp_asgT, wp_for, wp_varX, wp_cst, wp_bin, wp_cmp, wp_cmpT, wp_chainT, wp_chain, wp_and, wp_or, wp_not, wp_iteT, wp_negX, x_negI, x_slS, x_listT, x_tupT, x_bindT, setAll_cons, setAll_nil, true_and, and_true, eq_self, big0, big1, big2, big3, big4, big5, big6, big7, big8, big9, big10, wp_fld, wp_fldT, wp_mcall, wp_mcallT, wp_make, wp_setFld, wp_augFld, wp_asgF, wp_whil, wp_zip, insQ_some, asgFQ_eq, x_setFlds0, x_setFlds1, x_augA, x_augS, x_zipT, x_mulT1, x_mulT0, wp_andT, wp_orT, wp_notT, wp_iteE, wp_idx, wp_sl, wp_call, wp_callK, wp_call0, wp_globX, wp_dictA, wp_bi, wp_tup, wp_lstA, wp_dict0A, wp_meth, wp_lcA, wp_evs_nil, wp_evs_cons, wp_evo_none, wp_evo_some, wp_seq, wp_enum, wp_rng1, wp_rng2, wp_idxT, wp_varT, wp_callT, wp_callKT, wp_biT, x_truB, tsto_none, tsto_some,
  seqQ_nx, seqQ_ret, seqQ_bk, seqQ_ct, endQ_ret, endQ_nx, varQ_some, lstQ_some, dctQ_some, optQ_some, blQ_bl, inQ_int, rgQ_int, rg2Q_int,
  x_eqSS, x_eqII, x_neSS, x_neII, str_we, str_ew, decide_true, decide_false, if_true, if_false, Bool.false_eq_true, reduceIte, x_addI, x_addT, x_addS, x_subI, x_mulI, x_divI, x_modI, x_powI, x_ltI, x_leI, x_gtI, x_geI, x_is, x_isnot, x_isB, x_isNB, x_ixT, x_ixF, x_abs, x_lenT, x_lenF, x_intI, x_intB, x_max2, x_min2, x_seqT, x_seqF, x_slT, x_slFA,
  List.map_cons, List.map_nil, List.length_cons, List.length_nil, List.cons_append, List.nil_append, List.replicate_succ, List.replicate_zero, Nat.reduceSub, Nat.reduceAdd, List.set_cons_zero, List.set_cons_succ, List.getElem?_cons_zero, List.getElem?_cons_succ, Nat.add_zero, Nat.zero_add, Nat.sub_self, decide_eq_true_eq, x_fld h, hf.h, l3h]
theorem state_wp (hf : JnrF C.fl) (h : s[j]? = some (jnrO J c held)) : wp (callDef C 1 state_b [.ob j]) Q s ↔ Q (.tup [.int c, .tup (held.map wdD)]) s := by
  unfold jnrO at h
  rw [wp_callDef]
  unfold state_b
  try simp only [wp_cons, wp_nil, wp_asg, wp_expr, wp_retS, wp_retN, wp_iteS, wp_pass, wp_brk, wp_cont, wp_setIx, wp_augX, wp_asgT, wp_for, wp_varX, wp_cst, wp_bin, wp_cmp, wp_cmpT, wp_chainT, wp_chain, wp_and, wp_or, wp_not, wp_iteT, wp_negX, x_negI, x_slS, x_listT, x_tupT, x_bindT, setAll_cons, setAll_nil, true_and, and_true, eq_self, big0, big1, big2, big3, big4, big5, big6, big7, big8, big9, big10, wp_fld, wp_fldT, wp_mcall, wp_mcallT, wp_make, wp_setFld, wp_augFld, wp_asgF, wp_whil, wp_zip, insQ_some, asgFQ_eq, x_setFlds0, x_setFlds1, x_augA, x_augS, x_zipT, x_mulT1, x_mulT0, wp_andT, wp_orT, wp_notT, wp_iteE, wp_idx, wp_sl, wp_call, wp_callK, wp_call0, wp_globX, wp_dictA, wp_bi, wp_tup, wp_lstA, wp_dict0A, wp_meth, wp_lcA, wp_evs_nil, wp_evs_cons, wp_evo_none, wp_evo_some, wp_seq, wp_enum, wp_rng1, wp_rng2, wp_idxT, wp_varT, wp_callT, wp_callKT, wp_biT, x_truB, tsto_none, tsto_some,
  seqQ_nx, seqQ_ret, seqQ_bk, seqQ_ct, endQ_ret, endQ_nx, varQ_some, lstQ_some, dctQ_some, optQ_some, blQ_bl, inQ_int, rgQ_int, rg2Q_int,
  x_eqSS, x_eqII, x_neSS, x_neII, str_we, str_ew, decide_true, decide_false, if_true, if_false, Bool.false_eq_true, reduceIte, x_addI, x_addT, x_addS, x_subI, x_mulI, x_divI, x_modI, x_powI, x_ltI, x_leI, x_gtI, x_geI, x_is, x_isnot, x_isB, x_isNB, x_ixT, x_ixF, x_abs, x_lenT, x_lenF, x_intI, x_intB, x_max2, x_min2, x_seqT, x_seqF, x_slT, x_slFA,
  List.map_cons, List.map_nil, List.length_cons, List.length_nil, List.cons_append, List.nil_append, List.replicate_succ, List.replicate_zero, Nat.reduceSub, Nat.reduceAdd, List.set_cons_zero, List.set_cons_succ, List.getElem?_cons_zero, List.getElem?_cons_succ, Nat.add_zero, Nat.zero_add, Nat.sub_self, decide_eq_true_eq, x_fld h, hf.h, hf.c, l3h, l3c]
theorem may_pair_wp {o : Wd} (hf : JnrF C.fl) (h : s[j]? = some (jnrO J c held)) : wp (callDef C 6 may_pair_b [.ob j, wdD o]) Q s ↔ Q (.bl (mayP J c o)) s := by
  unfold jnrO at h
  rw [wp_callDef]
  unfold may_pair_b mayP
  try simp only [wp_cons, wp_nil, wp_asg, wp_expr, wp_retS, wp_retN, wp_iteS, wp_pass, wp_brk, wp_cont, wp_setIx, wp_augX, wp_asgT, wp_for, wp_varX, wp_cst, wp_bin, wp_cmp, wp_cmpT, wp_chainT, wp_chain, wp_and, wp_or, wp_not, wp_iteT, wp_negX, x_negI, x_slS, x_listT, x_tupT, x_bindT, setAll_cons, setAll_nil, true_and, and_true, eq_self, big0, big1, big2, big3, big4, big5, big6, big7, big8, big9, big10, wp_fld, wp_fldT, wp_mcall, wp_mcallT, wp_make, wp_setFld, wp_augFld, wp_asgF, wp_whil, wp_zip, insQ_some, asgFQ_eq, x_setFlds0, x_setFlds1, x_augA, x_augS, x_zipT, x_mulT1, x_mulT0, wp_andT, wp_orT, wp_notT, wp_iteE, wp_idx, wp_sl, wp_call, wp_callK, wp_call0, wp_globX, wp_dictA, wp_bi, wp_tup, wp_lstA, wp_dict0A, wp_meth, wp_lcA, wp_evs_nil, wp_evs_cons, wp_evo_none, wp_evo_some, wp_seq, wp_enum, wp_rng1, wp_rng2, wp_idxT, wp_varT, wp_callT, wp_callKT, wp_biT, x_truB, tsto_none, tsto_some,
  seqQ_nx, seqQ_ret, seqQ_bk, seqQ_ct, endQ_ret, endQ_nx, varQ_some, lstQ_some, dctQ_some, optQ_some, blQ_bl, inQ_int, rgQ_int, rg2Q_int,
  x_eqSS, x_eqII, x_neSS, x_neII, str_we, str_ew, decide_true, decide_false, if_true, if_false, Bool.false_eq_true, reduceIte, x_addI, x_addT, x_addS, x_subI, x_mulI, x_divI, x_modI, x_powI, x_ltI, x_leI, x_gtI, x_geI, x_is, x_isnot, x_isB, x_isNB, x_ixT, x_ixF, x_abs, x_lenT, x_lenF, x_intI, x_intB, x_max2, x_min2, x_seqT, x_seqF, x_slT, x_slFA,
  List.map_cons, List.map_nil, List.length_cons, List.length_nil, List.cons_append, List.nil_append, List.replicate_succ, List.replicate_zero, Nat.reduceSub, Nat.reduceAdd, List.set_cons_zero, List.set_cons_succ, List.getElem?_cons_zero, List.getElem?_cons_succ, Nat.add_zero, Nat.zero_add, Nat.sub_self, decide_eq_true_eq, x_fld h, hf.j, hf.c, l3j, l3c, a4, ge_iff_le]
/-- a new joiner -/
theorem init_wp {ks : List Nat} {P : Store → Prop} {L : List (Nat × Ob)} {s0 : Store} (hf : JnrF C.fl) (V : Lv s0 ks P ((j, .ins "Joiner" []) :: L) s) (q : ∀ s1, Lv s0 ks P ((j, jnrO J (-1) []) :: L) s1 → Q .non s1) : wp (callDef C 2 init_b [.ob j, jnD J]) Q s := by
  rw [wp_callDef]
  unfold init_b
  try simp only [wp_cons, wp_nil, wp_asg, wp_expr, wp_retS, wp_retN, wp_iteS, wp_pass, wp_brk, wp_cont, wp_setIx, wp_augX, wp_asgT, wp_for, wp_varX, wp_cst, wp_bin, wp_cmp, wp_cmpT, wp_chainT, wp_chain, wp_and, wp_or, wp_not, wp_iteT, wp_negX, x_negI, x_slS, x_listT, x_tupT, x_bindT, setAll_cons, setAll_nil, true_and, and_true, eq_self, big0, big1, big2, big3, big4, big5, big6, big7, big8, big9, big10, wp_fld, wp_fldT, wp_mcall, wp_mcallT, wp_make, wp_setFld, wp_augFld, wp_asgF, wp_whil, wp_zip, insQ_some, asgFQ_eq, x_setFlds0, x_setFlds1, x_augA, x_augS, x_zipT, x_mulT1, x_mulT0, wp_andT, wp_orT, wp_notT, wp_iteE, wp_idx, wp_sl, wp_call, wp_callK, wp_call0, wp_globX, wp_dictA, wp_bi, wp_tup, wp_lstA, wp_dict0A, wp_meth, wp_lcA, wp_evs_nil, wp_evs_cons, wp_evo_none, wp_evo_some, wp_seq, wp_enum, wp_rng1, wp_rng2, wp_idxT, wp_varT, wp_callT, wp_callKT, wp_biT, x_truB, tsto_none, tsto_some,
  seqQ_nx, seqQ_ret, seqQ_bk, seqQ_ct, endQ_ret, endQ_nx, varQ_some, lstQ_some, dctQ_some, optQ_some, blQ_bl, inQ_int, rgQ_int, rg2Q_int,
  x_eqSS, x_eqII, x_neSS, x_neII, str_we, str_ew, decide_true, decide_false, if_true, if_false, Bool.false_eq_true, reduceIte, x_addI, x_addT, x_addS, x_subI, x_mulI, x_divI, x_modI, x_powI, x_ltI, x_leI, x_gtI, x_geI, x_is, x_isnot, x_isB, x_isNB, x_ixT, x_ixF, x_abs, x_lenT, x_lenF, x_intI, x_intB, x_max2, x_min2, x_seqT, x_seqF, x_slT, x_slFA,
  List.map_cons, List.map_nil, List.length_cons, List.length_nil, List.cons_append, List.nil_append, List.replicate_succ, List.replicate_zero, Nat.reduceSub, Nat.reduceAdd, List.set_cons_zero, List.set_cons_succ, List.getElem?_cons_zero, List.getElem?_cons_succ, Nat.add_zero, Nat.zero_add, Nat.sub_self, decide_eq_true_eq]
  refine V.setFld 0 rfl hf.j (by decide) fun s1 V1 => ?_
  have V1' : Lv s0 ks P ((j, .ins "Joiner" (putFd "joining" (jnD J) [])) :: L) s1 := V1
  rw [p0] at V1'
  try simp only [wp_cons, wp_nil, wp_asg, wp_expr, wp_retS, wp_retN, wp_iteS, wp_pass, wp_brk, wp_cont, wp_setIx, wp_augX, wp_asgT, wp_for, wp_varX, wp_cst, wp_bin, wp_cmp, wp_cmpT, wp_chainT, wp_chain, wp_and, wp_or, wp_not, wp_iteT, wp_negX, x_negI, x_slS, x_listT, x_tupT, x_bindT, setAll_cons, setAll_nil, true_and, and_true, eq_self, big0, big1, big2, big3, big4, big5, big6, big7, big8, big9, big10, wp_fld, wp_fldT, wp_mcall, wp_mcallT, wp_make, wp_setFld, wp_augFld, wp_asgF, wp_whil, wp_zip, insQ_some, asgFQ_eq, x_setFlds0, x_setFlds1, x_augA, x_augS, x_zipT, x_mulT1, x_mulT0, wp_andT, wp_orT, wp_notT, wp_iteE, wp_idx, wp_sl, wp_call, wp_callK, wp_call0, wp_globX, wp_dictA, wp_bi, wp_tup, wp_lstA, wp_dict0A, wp_meth, wp_lcA, wp_evs_nil, wp_evs_cons, wp_evo_none, wp_evo_some, wp_seq, wp_enum, wp_rng1, wp_rng2, wp_idxT, wp_varT, wp_callT, wp_callKT, wp_biT, x_truB, tsto_none, tsto_some,
  seqQ_nx, seqQ_ret, seqQ_bk, seqQ_ct, endQ_ret, endQ_nx, varQ_some, lstQ_some, dctQ_some, optQ_some, blQ_bl, inQ_int, rgQ_int, rg2Q_int,
  x_eqSS, x_eqII, x_neSS, x_neII, str_we, str_ew, decide_true, decide_false, if_true, if_false, Bool.false_eq_true, reduceIte, x_addI, x_addT, x_addS, x_subI, x_mulI, x_divI, x_modI, x_powI, x_ltI, x_leI, x_gtI, x_geI, x_is, x_isnot, x_isB, x_isNB, x_ixT, x_ixF, x_abs, x_lenT, x_lenF, x_intI, x_intB, x_max2, x_min2, x_seqT, x_seqF, x_slT, x_slFA,
  List.map_cons, List.map_nil, List.length_cons, List.length_nil, List.cons_append, List.nil_append, List.replicate_succ, List.replicate_zero, Nat.reduceSub, Nat.reduceAdd, List.set_cons_zero, List.set_cons_succ, List.getElem?_cons_zero, List.getElem?_cons_succ, Nat.add_zero, Nat.zero_add, Nat.sub_self, decide_eq_true_eq]
  refine V1'.setFld 0 rfl hf.c (by show 1 < 900; decide) fun s2 V2 => ?_
  have V2' : Lv s0 ks P ((j, .ins "Joiner" (putFd "clock_now" (.int (-1)) (fs1 (jnD J)))) :: L) s2 := V2
  rw [p1] at V2'
  try simp only [wp_cons, wp_nil, wp_asg, wp_expr, wp_retS, wp_retN, wp_iteS, wp_pass, wp_brk, wp_cont, wp_setIx, wp_augX, wp_asgT, wp_for, wp_varX, wp_cst, wp_bin, wp_cmp, wp_cmpT, wp_chainT, wp_chain, wp_and, wp_or, wp_not, wp_iteT, wp_negX, x_negI, x_slS, x_listT, x_tupT, x_bindT, setAll_cons, setAll_nil, true_and, and_true, eq_self, big0, big1, big2, big3, big4, big5, big6, big7, big8, big9, big10, wp_fld, wp_fldT, wp_mcall, wp_mcallT, wp_make, wp_setFld, wp_augFld, wp_asgF, wp_whil, wp_zip, insQ_some, asgFQ_eq, x_setFlds0, x_setFlds1, x_augA, x_augS, x_zipT, x_mulT1, x_mulT0, wp_andT, wp_orT, wp_notT, wp_iteE, wp_idx, wp_sl, wp_call, wp_callK, wp_call0, wp_globX, wp_dictA, wp_bi, wp_tup, wp_lstA, wp_dict0A, wp_meth, wp_lcA, wp_evs_nil, wp_evs_cons, wp_evo_none, wp_evo_some, wp_seq, wp_enum, wp_rng1, wp_rng2, wp_idxT, wp_varT, wp_callT, wp_callKT, wp_biT, x_truB, tsto_none, tsto_some,
  seqQ_nx, seqQ_ret, seqQ_bk, seqQ_ct, endQ_ret, endQ_nx, varQ_some, lstQ_some, dctQ_some, optQ_some, blQ_bl, inQ_int, rgQ_int, rg2Q_int,
  x_eqSS, x_eqII, x_neSS, x_neII, str_we, str_ew, decide_true, decide_false, if_true, if_false, Bool.false_eq_true, reduceIte, x_addI, x_addT, x_addS, x_subI, x_mulI, x_divI, x_modI, x_powI, x_ltI, x_leI, x_gtI, x_geI, x_is, x_isnot, x_isB, x_isNB, x_ixT, x_ixF, x_abs, x_lenT, x_lenF, x_intI, x_intB, x_max2, x_min2, x_seqT, x_seqF, x_slT, x_slFA,
  List.map_cons, List.map_nil, List.length_cons, List.length_nil, List.cons_append, List.nil_append, List.replicate_succ, List.replicate_zero, Nat.reduceSub, Nat.reduceAdd, List.set_cons_zero, List.set_cons_succ, List.getElem?_cons_zero, List.getElem?_cons_succ, Nat.add_zero, Nat.zero_add, Nat.sub_self, decide_eq_true_eq]
  refine V2'.setFld 0 rfl hf.h (by show 2 < 900; decide) fun s3 V3 => ?_
  have V3' : Lv s0 ks P ((j, .ins "Joiner" (putFd "held" (.tup []) (fs2 (jnD J) (.int (-1))))) :: L) s3 := V3
  rw [p2] at V3'
  try simp only [wp_cons, wp_nil, wp_asg, wp_expr, wp_retS, wp_retN, wp_iteS, wp_pass, wp_brk, wp_cont, wp_setIx, wp_augX, wp_asgT, wp_for, wp_varX, wp_cst, wp_bin, wp_cmp, wp_cmpT, wp_chainT, wp_chain, wp_and, wp_or, wp_not, wp_iteT, wp_negX, x_negI, x_slS, x_listT, x_tupT, x_bindT, setAll_cons, setAll_nil, true_and, and_true, eq_self, big0, big1, big2, big3, big4, big5, big6, big7, big8, big9, big10, wp_fld, wp_fldT, wp_mcall, wp_mcallT, wp_make, wp_setFld, wp_augFld, wp_asgF, wp_whil, wp_zip, insQ_some, asgFQ_eq, x_setFlds0, x_setFlds1, x_augA, x_augS, x_zipT, x_mulT1, x_mulT0, wp_andT, wp_orT, wp_notT, wp_iteE, wp_idx, wp_sl, wp_call, wp_callK, wp_call0, wp_globX, wp_dictA, wp_bi, wp_tup, wp_lstA, wp_dict0A, wp_meth, wp_lcA, wp_evs_nil, wp_evs_cons, wp_evo_none, wp_evo_some, wp_seq, wp_enum, wp_rng1, wp_rng2, wp_idxT, wp_varT, wp_callT, wp_callKT, wp_biT, x_truB, tsto_none, tsto_some,
  seqQ_nx, seqQ_ret, seqQ_bk, seqQ_ct, endQ_ret, endQ_nx, varQ_some, lstQ_some, dctQ_some, optQ_some, blQ_bl, inQ_int, rgQ_int, rg2Q_int,
  x_eqSS, x_eqII, x_neSS, x_neII, str_we, str_ew, decide_true, decide_false, if_true, if_false, Bool.false_eq_true, reduceIte, x_addI, x_addT, x_addS, x_subI, x_mulI, x_divI, x_modI, x_powI, x_ltI, x_leI, x_gtI, x_geI, x_is, x_isnot, x_isB, x_isNB, x_ixT, x_ixF, x_abs, x_lenT, x_lenF, x_intI, x_intB, x_max2, x_min2, x_seqT, x_seqF, x_slT, x_slFA,
  List.map_cons, List.map_nil, List.length_cons, List.length_nil, List.cons_append, List.nil_append, List.replicate_succ, List.replicate_zero, Nat.reduceSub, Nat.reduceAdd, List.set_cons_zero, List.set_cons_succ, List.getElem?_cons_zero, List.getElem?_cons_succ, Nat.add_zero, Nat.zero_add, Nat.sub_self, decide_eq_true_eq]
  exact q s3 V3'
theorem joiner_wp {C1 : Cts} {ks : List Nat} {P : Store → Prop} {L : List (Nat × Ob)} {s0 : Store} (hf : JnrF C.fl) (hf1 : JnrF C1.fl) (hi : C.mt ("Joiner" ++ ".__init__") ⟨"__init__", [], 2, some "Joiner"⟩ = callDef C1 2 init_b) (V : Lv s0 ks P L s)
    (q : ∀ k s1, Lv s0 ks P ((k, jnrO J c held) :: L) s1 → Q (.ob k) s1) : wp (callDef C 3 joiner_b [jnD J, .tup [.int c, .tup (held.map wdD)]]) Q s := by
  rw [wp_callDef]
  unfold joiner_b
  try simp only [wp_cons, wp_nil, wp_asg, wp_expr, wp_retS, wp_retN, wp_iteS, wp_pass, wp_brk, wp_cont, wp_setIx, wp_augX, wp_asgT, wp_for, wp_varX, wp_cst, wp_bin, wp_cmp, wp_cmpT, wp_chainT, wp_chain, wp_and, wp_or, wp_not, wp_iteT, wp_negX, x_negI, x_slS, x_listT, x_tupT, x_bindT, setAll_cons, setAll_nil, true_and, and_true, eq_self, big0, big1, big2, big3, big4, big5, big6, big7, big8, big9, big10, wp_fld, wp_fldT, wp_mcall, wp_mcallT, wp_make, wp_setFld, wp_augFld, wp_asgF, wp_whil, wp_zip, insQ_some, asgFQ_eq, x_setFlds0, x_setFlds1, x_augA, x_augS, x_zipT, x_mulT1, x_mulT0, wp_andT, wp_orT, wp_notT, wp_iteE, wp_idx, wp_sl, wp_call, wp_callK, wp_call0, wp_globX, wp_dictA, wp_bi, wp_tup, wp_lstA, wp_dict0A, wp_meth, wp_lcA, wp_evs_nil, wp_evs_cons, wp_evo_none, wp_evo_some, wp_seq, wp_enum, wp_rng1, wp_rng2, wp_idxT, wp_varT, wp_callT, wp_callKT, wp_biT, x_truB, tsto_none, tsto_some,
  seqQ_nx, seqQ_ret, seqQ_bk, seqQ_ct, endQ_ret, endQ_nx, varQ_some, lstQ_some, dctQ_some, optQ_some, blQ_bl, inQ_int, rgQ_int, rg2Q_int,
  x_eqSS, x_eqII, x_neSS, x_neII, str_we, str_ew, decide_true, decide_false, if_true, if_false, Bool.false_eq_true, reduceIte, x_addI, x_addT, x_addS, x_subI, x_mulI, x_divI, x_modI, x_powI, x_ltI, x_leI, x_gtI, x_geI, x_is, x_isnot, x_isB, x_isNB, x_ixT, x_ixF, x_abs, x_lenT, x_lenF, x_intI, x_intB, x_max2, x_min2, x_seqT, x_seqF, x_slT, x_slFA,
  List.map_cons, List.map_nil, List.length_cons, List.length_nil, List.cons_append, List.nil_append, List.replicate_succ, List.replicate_zero, Nat.reduceSub, Nat.reduceAdd, List.set_cons_zero, List.set_cons_succ, List.getElem?_cons_zero, List.getElem?_cons_succ, Nat.add_zero, Nat.zero_add, Nat.sub_self, decide_eq_true_eq, hi]
  refine V.mk' fun k s1 V1 => init_wp hf1 V1 fun s2 V2 => ⟨rfl, ?_⟩
  try simp only [wp_cons, wp_nil, wp_asg, wp_expr, wp_retS, wp_retN, wp_iteS, wp_pass, wp_brk, wp_cont, wp_setIx, wp_augX, wp_asgT, wp_for, wp_varX, wp_cst, wp_bin, wp_cmp, wp_cmpT, wp_chainT, wp_chain, wp_and, wp_or, wp_not, wp_iteT, wp_negX, x_negI, x_slS, x_listT, x_tupT, x_bindT, setAll_cons, setAll_nil, true_and, and_true, eq_self, big0, big1, big2, big3, big4, big5, big6, big7, big8, big9, big10, wp_fld, wp_fldT, wp_mcall, wp_mcallT, wp_make, wp_setFld, wp_augFld, wp_asgF, wp_whil, wp_zip, insQ_some, asgFQ_eq, x_setFlds0, x_setFlds1, x_augA, x_augS, x_zipT, x_mulT1, x_mulT0, wp_andT, wp_orT, wp_notT, wp_iteE, wp_idx, wp_sl, wp_call, wp_callK, wp_call0, wp_globX, wp_dictA, wp_bi, wp_tup, wp_lstA, wp_dict0A, wp_meth, wp_lcA, wp_evs_nil, wp_evs_cons, wp_evo_none, wp_evo_some, wp_seq, wp_enum, wp_rng1, wp_rng2, wp_idxT, wp_varT, wp_callT, wp_callKT, wp_biT, x_truB, tsto_none, tsto_some,
  seqQ_nx, seqQ_ret, seqQ_bk, seqQ_ct, endQ_ret, endQ_nx, varQ_some, lstQ_some, dctQ_some, optQ_some, blQ_bl, inQ_int, rgQ_int, rg2Q_int,
  x_eqSS, x_eqII, x_neSS, x_neII, str_we, str_ew, decide_true, decide_false, if_true, if_false, Bool.false_eq_true, reduceIte, x_addI, x_addT, x_addS, x_subI, x_mulI, x_divI, x_modI, x_powI, x_ltI, x_leI, x_gtI, x_geI, x_is, x_isnot, x_isB, x_isNB, x_ixT, x_ixF, x_abs, x_lenT, x_lenF, x_intI, x_intB, x_max2, x_min2, x_seqT, x_seqF, x_slT, x_slFA,
  List.map_cons, List.map_nil, List.length_cons, List.length_nil, List.cons_append, List.nil_append, List.replicate_succ, List.replicate_zero, Nat.reduceSub, Nat.reduceAdd, List.set_cons_zero, List.set_cons_succ, List.getElem?_cons_zero, List.getElem?_cons_succ, Nat.add_zero, Nat.zero_add, Nat.sub_self, decide_eq_true_eq]
  refine V2.setFld 0 rfl hf.c (by show 3 < 900; decide) fun s3 V3 => ?_
  have V3' : Lv s0 ks P ((k, .ins "Joiner" (putFd "clock_now" (.int c) (fs3 (jnD J) (.int (-1)) (.tup [])))) :: L) s3 := V3
  rw [p3c] at V3'
  refine V3'.setFld 0 rfl hf.h (by show 3 < 900; decide) fun s4 V4 => ?_
  have V4' : Lv s0 ks P ((k, .ins "Joiner" (putFd "held" (.tup (held.map wdD)) (fs3 (jnD J) (.int c) (.tup [])))) :: L) s4 := V4
  rw [p3h] at V4'
  try simp only [wp_cons, wp_nil, wp_asg, wp_expr, wp_retS, wp_retN, wp_iteS, wp_pass, wp_brk, wp_cont, wp_setIx, wp_augX, wp_asgT, wp_for, wp_varX, wp_cst, wp_bin, wp_cmp, wp_cmpT, wp_chainT, wp_chain, wp_and, wp_or, wp_not, wp_iteT, wp_negX, x_negI, x_slS, x_listT, x_tupT, x_bindT, setAll_cons, setAll_nil, true_and, and_true, eq_self, big0, big1, big2, big3, big4, big5, big6, big7, big8, big9, big10, wp_fld, wp_fldT, wp_mcall, wp_mcallT, wp_make, wp_setFld, wp_augFld, wp_asgF, wp_whil, wp_zip, insQ_some, asgFQ_eq, x_setFlds0, x_setFlds1, x_augA, x_augS, x_zipT, x_mulT1, x_mulT0, wp_andT, wp_orT, wp_notT, wp_iteE, wp_idx, wp_sl, wp_call, wp_callK, wp_call0, wp_globX, wp_dictA, wp_bi, wp_tup, wp_lstA, wp_dict0A, wp_meth, wp_lcA, wp_evs_nil, wp_evs_cons, wp_evo_none, wp_evo_some, wp_seq, wp_enum, wp_rng1, wp_rng2, wp_idxT, wp_varT, wp_callT, wp_callKT, wp_biT, x_truB, tsto_none, tsto_some,
  seqQ_nx, seqQ_ret, seqQ_bk, seqQ_ct, endQ_ret, endQ_nx, varQ_some, lstQ_some, dctQ_some, optQ_some, blQ_bl, inQ_int, rgQ_int, rg2Q_int,
  x_eqSS, x_eqII, x_neSS, x_neII, str_we, str_ew, decide_true, decide_false, if_true, if_false, Bool.false_eq_true, reduceIte, x_addI, x_addT, x_addS, x_subI, x_mulI, x_divI, x_modI, x_powI, x_ltI, x_leI, x_gtI, x_geI, x_is, x_isnot, x_isB, x_isNB, x_ixT, x_ixF, x_abs, x_lenT, x_lenF, x_intI, x_intB, x_max2, x_min2, x_seqT, x_seqF, x_slT, x_slFA,
  List.map_cons, List.map_nil, List.length_cons, List.length_nil, List.cons_append, List.nil_append, List.replicate_succ, List.replicate_zero, Nat.reduceSub, Nat.reduceAdd, List.set_cons_zero, List.set_cons_succ, List.getElem?_cons_zero, List.getElem?_cons_succ, Nat.add_zero, Nat.zero_add, Nat.sub_self, decide_eq_true_eq]
  exact q k s4 V4'
structure JnrC (C : Cts) : Prop where
  fl : JnrF C.fl
  late : ∃ C1, C.fn "is_late" = callDef C1 7 is_late_b
  near : ∃ C1, C.fn "are_near" = callDef C1 7 are_near_b
  pair : ∃ C1, C.fn "pair_made" = callDef C1 5 pair_made_b
  may : ∃ C1, JnrF C1.fl ∧ C.mt ("Joiner" ++ ".may_pair") ⟨"may_pair", [], 2, some "Joiner"⟩ = callDef C1 6 may_pair_b
theorem jtake_wp {w : Wd} (hC : JnrC C) (hl : held.length ≤ 1000) (h : s[j]? = some (jnrO J c held)) (q : ∀ s1, Kp [j] s s1 → s1[j]? = some (jnrO J (kClock J c w) (kHeld J c held w)) → Q (.tup ((kMade J c held w).map prD)) s1) :
    wp (callDef C 10 jtake_b [.ob j, .str w.row, .str w.key, .str w.text, .int w.time]) Q s := by
  obtain ⟨_, eL⟩ := hC.late
  obtain ⟨_, eN⟩ := hC.near
  obtain ⟨_, eP⟩ := hC.pair
  obtain ⟨C1, hf1, eM⟩ := hC.may
  have hf := hC.fl
  have hbig : bigN = 16777216 := rfl
  have h0 := h
  unfold jnrO at h
  rw [wp_callDef]
  unfold jtake_b
  try simp only [wp_cons, wp_nil, wp_asg, wp_expr, wp_retS, wp_retN, wp_iteS, wp_pass, wp_brk, wp_cont, wp_setIx, wp_augX, wp_asgT, wp_for, wp_varX, wp_cst, wp_bin, wp_cmp, wp_cmpT, wp_chainT, wp_chain, wp_and, wp_or, wp_not, wp_iteT, wp_negX, x_negI, x_slS, x_listT, x_tupT, x_bindT, setAll_cons, setAll_nil, true_and, and_true, eq_self, big0, big1, big2, big3, big4, big5, big6, big7, big8, big9, big10, wp_fld, wp_fldT, wp_mcall, wp_mcallT, wp_make, wp_setFld, wp_augFld, wp_asgF, wp_whil, wp_zip, insQ_some, asgFQ_eq, x_setFlds0, x_setFlds1, x_augA, x_augS, x_zipT, x_mulT1, x_mulT0, wp_andT, wp_orT, wp_notT, wp_iteE, wp_idx, wp_sl, wp_call, wp_callK, wp_call0, wp_globX, wp_dictA, wp_bi, wp_tup, wp_lstA, wp_dict0A, wp_meth, wp_lcA, wp_evs_nil, wp_evs_cons, wp_evo_none, wp_evo_some, wp_seq, wp_enum, wp_rng1, wp_rng2, wp_idxT, wp_varT, wp_callT, wp_callKT, wp_biT, x_truB, tsto_none, tsto_some,
  seqQ_nx, seqQ_ret, seqQ_bk, seqQ_ct, endQ_ret, endQ_nx, varQ_some, lstQ_some, dctQ_some, optQ_some, blQ_bl, inQ_int, rgQ_int, rg2Q_int,
  x_eqSS, x_eqII, x_neSS, x_neII, str_we, str_ew, decide_true, decide_false, if_true, if_false, Bool.false_eq_true, reduceIte, x_addI, x_addT, x_addS, x_subI, x_mulI, x_divI, x_modI, x_powI, x_ltI, x_leI, x_gtI, x_geI, x_is, x_isnot, x_isB, x_isNB, x_ixT, x_ixF, x_abs, x_lenT, x_lenF, x_intI, x_intB, x_max2, x_min2, x_seqT, x_seqF, x_slT, x_slFA,
  List.map_cons, List.map_nil, List.length_cons, List.length_nil, List.cons_append, List.nil_append, List.replicate_succ, List.replicate_zero, Nat.reduceSub, Nat.reduceAdd, List.set_cons_zero, List.set_cons_succ, List.getElem?_cons_zero, List.getElem?_cons_succ, Nat.add_zero, Nat.zero_add, Nat.sub_self, decide_eq_true_eq, x_fld h, hf.j, hf.c, hf.h, l3j, l3c, l3h, eL, is_late_wp, x_truB]
  unfold kClock kHeld kMade at q
  by_cases hlt : isLate J c w.time = true
  · simp only [hlt, if_true] at q ⊢
    exact q s (Kp.refl _ _) h0
  · simp only [hlt, if_false] at q ⊢
    refine wp_mono (loopC_map (gd := []) wdD wdD (near J w) rfl held fun o _ => ?_) fun ds s' ⟨h1, h2⟩ => ?_
    · rw [wp_compF (env1 := [some (.ob j), some (.str w.row), some (.str w.key), some (.str w.text), some (.int w.time), some (wdD w), none, none, some (wdD o), none]) rfl]
      try simp only [wp_cons, wp_nil, wp_asg, wp_expr, wp_retS, wp_retN, wp_iteS, wp_pass, wp_brk, wp_cont, wp_setIx, wp_augX, wp_asgT, wp_for, wp_varX, wp_cst, wp_bin, wp_cmp, wp_cmpT, wp_chainT, wp_chain, wp_and, wp_or, wp_not, wp_iteT, wp_negX, x_negI, x_slS, x_listT, x_tupT, x_bindT, setAll_cons, setAll_nil, true_and, and_true, eq_self, big0, big1, big2, big3, big4, big5, big6, big7, big8, big9, big10, wp_fld, wp_fldT, wp_mcall, wp_mcallT, wp_make, wp_setFld, wp_augFld, wp_asgF, wp_whil, wp_zip, insQ_some, asgFQ_eq, x_setFlds0, x_setFlds1, x_augA, x_augS, x_zipT, x_mulT1, x_mulT0, wp_andT, wp_orT, wp_notT, wp_iteE, wp_idx, wp_sl, wp_call, wp_callK, wp_call0, wp_globX, wp_dictA, wp_bi, wp_tup, wp_lstA, wp_dict0A, wp_meth, wp_lcA, wp_evs_nil, wp_evs_cons, wp_evo_none, wp_evo_some, wp_seq, wp_enum, wp_rng1, wp_rng2, wp_idxT, wp_varT, wp_callT, wp_callKT, wp_biT, x_truB, tsto_none, tsto_some,
  seqQ_nx, seqQ_ret, seqQ_bk, seqQ_ct, endQ_ret, endQ_nx, varQ_some, lstQ_some, dctQ_some, optQ_some, blQ_bl, inQ_int, rgQ_int, rg2Q_int,
  x_eqSS, x_eqII, x_neSS, x_neII, str_we, str_ew, decide_true, decide_false, if_true, if_false, Bool.false_eq_true, reduceIte, x_addI, x_addT, x_addS, x_subI, x_mulI, x_divI, x_modI, x_powI, x_ltI, x_leI, x_gtI, x_geI, x_is, x_isnot, x_isB, x_isNB, x_ixT, x_ixF, x_abs, x_lenT, x_lenF, x_intI, x_intB, x_max2, x_min2, x_seqT, x_seqF, x_slT, x_slFA,
  List.map_cons, List.map_nil, List.length_cons, List.length_nil, List.cons_append, List.nil_append, List.replicate_succ, List.replicate_zero, Nat.reduceSub, Nat.reduceAdd, List.set_cons_zero, List.set_cons_succ, List.getElem?_cons_zero, List.getElem?_cons_succ, Nat.add_zero, Nat.zero_add, Nat.sub_self, decide_eq_true_eq, x_fld h, hf.j, l3j, eN, are_near_wp, x_truB]
      by_cases hn : near J w o = true
      · simp [hn]
      · simp [hn]
    subst h1 h2
    have hfl : (held.filter (near J w)).length ≤ held.length := List.length_filter_le _ _
    refine ⟨by rw [List.length_map]; omega, ?_⟩
    refine (Lv.start0 s').alloc fun k s1 V1 => ?_
    have h1 : s1[j]? = some (.ins "Joiner" (fs3 (jnD J) (.int c) (.tup (held.map wdD)))) := V1.kp.at' _ _ (by simp) h
    rw [x_seqL (V1.get 0 rfl)]
    refine wp_mono (loopC_all (gd := [(k, (held.filter (near J w)).map wdD)]) wdD (fun o => prD (pairOf J w o)) (gd_lst (V1.get 0 rfl)) (held.filter (near J w)) fun o _ => ?_) fun ds s2 ⟨h2, h3⟩ => ?_
    · rw [wp_compF (env1 := [some (.ob j), some (.str w.row), some (.str w.key), some (.str w.text), some (.int w.time), some (wdD w), some (.ob k), none, some (wdD o), none]) rfl]
      try simp only [wp_cons, wp_nil, wp_asg, wp_expr, wp_retS, wp_retN, wp_iteS, wp_pass, wp_brk, wp_cont, wp_setIx, wp_augX, wp_asgT, wp_for, wp_varX, wp_cst, wp_bin, wp_cmp, wp_cmpT, wp_chainT, wp_chain, wp_and, wp_or, wp_not, wp_iteT, wp_negX, x_negI, x_slS, x_listT, x_tupT, x_bindT, setAll_cons, setAll_nil, true_and, and_true, eq_self, big0, big1, big2, big3, big4, big5, big6, big7, big8, big9, big10, wp_fld, wp_fldT, wp_mcall, wp_mcallT, wp_make, wp_setFld, wp_augFld, wp_asgF, wp_whil, wp_zip, insQ_some, asgFQ_eq, x_setFlds0, x_setFlds1, x_augA, x_augS, x_zipT, x_mulT1, x_mulT0, wp_andT, wp_orT, wp_notT, wp_iteE, wp_idx, wp_sl, wp_call, wp_callK, wp_call0, wp_globX, wp_dictA, wp_bi, wp_tup, wp_lstA, wp_dict0A, wp_meth, wp_lcA, wp_evs_nil, wp_evs_cons, wp_evo_none, wp_evo_some, wp_seq, wp_enum, wp_rng1, wp_rng2, wp_idxT, wp_varT, wp_callT, wp_callKT, wp_biT, x_truB, tsto_none, tsto_some,
  seqQ_nx, seqQ_ret, seqQ_bk, seqQ_ct, endQ_ret, endQ_nx, varQ_some, lstQ_some, dctQ_some, optQ_some, blQ_bl, inQ_int, rgQ_int, rg2Q_int,
  x_eqSS, x_eqII, x_neSS, x_neII, str_we, str_ew, decide_true, decide_false, if_true, if_false, Bool.false_eq_true, reduceIte, x_addI, x_addT, x_addS, x_subI, x_mulI, x_divI, x_modI, x_powI, x_ltI, x_leI, x_gtI, x_geI, x_is, x_isnot, x_isB, x_isNB, x_ixT, x_ixF, x_abs, x_lenT, x_lenF, x_intI, x_intB, x_max2, x_min2, x_seqT, x_seqF, x_slT, x_slFA,
  List.map_cons, List.map_nil, List.length_cons, List.length_nil, List.cons_append, List.nil_append, List.replicate_succ, List.replicate_zero, Nat.reduceSub, Nat.reduceAdd, List.set_cons_zero, List.set_cons_succ, List.getElem?_cons_zero, List.getElem?_cons_succ, Nat.add_zero, Nat.zero_add, Nat.sub_self, decide_eq_true_eq, x_fld h1, hf.j, l3j, eP, pair_made_wp]
    subst h2 h3
    refine ⟨by rw [List.length_map]; omega, V1.alloc fun k2 s3 V3 => ?_⟩
    rw [x_tupL (V3.get 0 rfl)]
    have h3 : s3[j]? = some (.ins "Joiner" (fs3 (jnD J) (.int c) (.tup (held.map wdD)))) := V3.kp.at' _ _ (by simp) h
    have hj3 : j < s3.length := (List.getElem?_eq_some_iff.mp h3).1
    rw [x_fld h3, l3c, optQ_some, x_max2]
    refine ⟨hf.c, ?_⟩
    rw [x_setFld h3]
    refine ⟨⟨hf.c, by show 3 < 900; decide⟩, ?_⟩
    rw [p3c, imax']
    have h4 : (s3.set j (.ins "Joiner" (fs3 (jnD J) (.int (max c w.time)) (.tup (held.map wdD)))))[j]? = some (jnrO J (max c w.time) held) := by simp [hj3, jnrO]
    have K4 : Kp [j] s' (s3.set j (.ins "Joiner" (fs3 (jnD J) (.int (max c w.time)) (.tup (held.map wdD))))) := (V3.kp.more (by simp)).trans (Kp.set (by simp))
    generalize s3.set j (.ins "Joiner" (fs3 (jnD J) (.int (max c w.time)) (.tup (held.map wdD)))) = s4 at h4 K4 ⊢
    have h4' : s4[j]? = some (.ins "Joiner" (fs3 (jnD J) (.int (max c w.time)) (.tup (held.map wdD)))) := h4
    try simp only [wp_cons, wp_nil, wp_asg, wp_expr, wp_retS, wp_retN, wp_iteS, wp_pass, wp_brk, wp_cont, wp_setIx, wp_augX, wp_asgT, wp_for, wp_varX, wp_cst, wp_bin, wp_cmp, wp_cmpT, wp_chainT, wp_chain, wp_and, wp_or, wp_not, wp_iteT, wp_negX, x_negI, x_slS, x_listT, x_tupT, x_bindT, setAll_cons, setAll_nil, true_and, and_true, eq_self, big0, big1, big2, big3, big4, big5, big6, big7, big8, big9, big10, wp_fld, wp_fldT, wp_mcall, wp_mcallT, wp_make, wp_setFld, wp_augFld, wp_asgF, wp_whil, wp_zip, insQ_some, asgFQ_eq, x_setFlds0, x_setFlds1, x_augA, x_augS, x_zipT, x_mulT1, x_mulT0, wp_andT, wp_orT, wp_notT, wp_iteE, wp_idx, wp_sl, wp_call, wp_callK, wp_call0, wp_globX, wp_dictA, wp_bi, wp_tup, wp_lstA, wp_dict0A, wp_meth, wp_lcA, wp_evs_nil, wp_evs_cons, wp_evo_none, wp_evo_some, wp_seq, wp_enum, wp_rng1, wp_rng2, wp_idxT, wp_varT, wp_callT, wp_callKT, wp_biT, x_truB, tsto_none, tsto_some,
  seqQ_nx, seqQ_ret, seqQ_bk, seqQ_ct, endQ_ret, endQ_nx, varQ_some, lstQ_some, dctQ_some, optQ_some, blQ_bl, inQ_int, rgQ_int, rg2Q_int,
  x_eqSS, x_eqII, x_neSS, x_neII, str_we, str_ew, decide_true, decide_false, if_true, if_false, Bool.false_eq_true, reduceIte, x_addI, x_addT, x_addS, x_subI, x_mulI, x_divI, x_modI, x_powI, x_ltI, x_leI, x_gtI, x_geI, x_is, x_isnot, x_isB, x_isNB, x_ixT, x_ixF, x_abs, x_lenT, x_lenF, x_intI, x_intB, x_max2, x_min2, x_seqT, x_seqF, x_slT, x_slFA,
  List.map_cons, List.map_nil, List.length_cons, List.length_nil, List.cons_append, List.nil_append, List.replicate_succ, List.replicate_zero, Nat.reduceSub, Nat.reduceAdd, List.set_cons_zero, List.set_cons_succ, List.getElem?_cons_zero, List.getElem?_cons_succ, Nat.add_zero, Nat.zero_add, Nat.sub_self, decide_eq_true_eq, x_fld h4', hf.h, l3h]
    refine ⟨by simp only [List.length_map]; omega, ?_⟩
    have em : held.map wdD ++ [wdD w] = (held ++ [w]).map wdD := by simp
    rw [em]
    refine wp_mono (loopC_map (gd := []) wdD wdD (mayP J (max c w.time)) rfl (held ++ [w]) fun o _ => ?_) fun ds s5 ⟨h5, h6⟩ => ?_
    · rw [wp_compF (env1 := [some (.ob j), some (.str w.row), some (.str w.key), some (.str w.text), some (.int w.time), some (wdD w), some (.ob k), some (.tup ((held.filter (near J w)).map fun o => prD (pairOf J w o))), none, some (wdD o)]) rfl]
      try simp only [wp_cons, wp_nil, wp_asg, wp_expr, wp_retS, wp_retN, wp_iteS, wp_pass, wp_brk, wp_cont, wp_setIx, wp_augX, wp_asgT, wp_for, wp_varX, wp_cst, wp_bin, wp_cmp, wp_cmpT, wp_chainT, wp_chain, wp_and, wp_or, wp_not, wp_iteT, wp_negX, x_negI, x_slS, x_listT, x_tupT, x_bindT, setAll_cons, setAll_nil, true_and, and_true, eq_self, big0, big1, big2, big3, big4, big5, big6, big7, big8, big9, big10, wp_fld, wp_fldT, wp_mcall, wp_mcallT, wp_make, wp_setFld, wp_augFld, wp_asgF, wp_whil, wp_zip, insQ_some, asgFQ_eq, x_setFlds0, x_setFlds1, x_augA, x_augS, x_zipT, x_mulT1, x_mulT0, wp_andT, wp_orT, wp_notT, wp_iteE, wp_idx, wp_sl, wp_call, wp_callK, wp_call0, wp_globX, wp_dictA, wp_bi, wp_tup, wp_lstA, wp_dict0A, wp_meth, wp_lcA, wp_evs_nil, wp_evs_cons, wp_evo_none, wp_evo_some, wp_seq, wp_enum, wp_rng1, wp_rng2, wp_idxT, wp_varT, wp_callT, wp_callKT, wp_biT, x_truB, tsto_none, tsto_some,
  seqQ_nx, seqQ_ret, seqQ_bk, seqQ_ct, endQ_ret, endQ_nx, varQ_some, lstQ_some, dctQ_some, optQ_some, blQ_bl, inQ_int, rgQ_int, rg2Q_int,
  x_eqSS, x_eqII, x_neSS, x_neII, str_we, str_ew, decide_true, decide_false, if_true, if_false, Bool.false_eq_true, reduceIte, x_addI, x_addT, x_addS, x_subI, x_mulI, x_divI, x_modI, x_powI, x_ltI, x_leI, x_gtI, x_geI, x_is, x_isnot, x_isB, x_isNB, x_ixT, x_ixF, x_abs, x_lenT, x_lenF, x_intI, x_intB, x_max2, x_min2, x_seqT, x_seqF, x_slT, x_slFA,
  List.map_cons, List.map_nil, List.length_cons, List.length_nil, List.cons_append, List.nil_append, List.replicate_succ, List.replicate_zero, Nat.reduceSub, Nat.reduceAdd, List.set_cons_zero, List.set_cons_succ, List.getElem?_cons_zero, List.getElem?_cons_succ, Nat.add_zero, Nat.zero_add, Nat.sub_self, decide_eq_true_eq, x_ins h4', eM, may_pair_wp hf1 h4, x_truB]
      refine ⟨l3m, ?_⟩
      by_cases hn : mayP J (max c w.time) o = true
      · simp [hn]
      · simp [hn]
    subst h5 h6
    have hfl2 : ((held ++ [w]).filter (mayP J (max c w.time))).length ≤ (held ++ [w]).length := List.length_filter_le _ _
    simp only [List.length_append, List.length_cons, List.length_nil] at hfl2
    refine ⟨by rw [List.length_map]; omega, ?_⟩
    rw [wp_alloc]
    have h7 : (s5 ++ [Ob.lst (((held ++ [w]).filter (mayP J (max c w.time))).map wdD)])[s5.length]? = some (.lst (((held ++ [w]).filter (mayP J (max c w.time))).map wdD)) := by simp
    rw [x_tupL h7]
    have hj5 : j < s5.length := (List.getElem?_eq_some_iff.mp h4).1
    have h8 : (s5 ++ [Ob.lst (((held ++ [w]).filter (mayP J (max c w.time))).map wdD)])[j]? = some (.ins "Joiner" (fs3 (jnD J) (.int (max c w.time)) (.tup (held.map wdD)))) := by rw [List.getElem?_append_left hj5]; exact h4'
    rw [x_setFld h8]
    refine ⟨⟨hf.h, by show 3 < 900; decide⟩, ?_⟩
    rw [p3h]
    have h9 : ((s5 ++ [Ob.lst (((held ++ [w]).filter (mayP J (max c w.time))).map wdD)]).set j (.ins "Joiner" (fs3 (jnD J) (.int (max c w.time)) (.tup (((held ++ [w]).filter (mayP J (max c w.time))).map wdD)))))[j]? = some (jnrO J (max c w.time) ((held ++ [w]).filter (mayP J (max c w.time)))) := by
      rw [List.getElem?_set_self (by rw [List.length_append]; omega)]
      rfl
    have K9 : Kp [j] s' ((s5 ++ [Ob.lst (((held ++ [w]).filter (mayP J (max c w.time))).map wdD)]).set j (.ins "Joiner" (fs3 (jnD J) (.int (max c w.time)) (.tup (((held ++ [w]).filter (mayP J (max c w.time))).map wdD))))) := (K4.trans (Kp.app _ _ _)).trans (Kp.set (by simp))
    have hq := q _ K9 h9
    try simp only [wp_cons, wp_nil, wp_asg, wp_expr, wp_retS, wp_retN, wp_iteS, wp_pass, wp_brk, wp_cont, wp_setIx, wp_augX, wp_asgT, wp_for, wp_varX, wp_cst, wp_bin, wp_cmp, wp_cmpT, wp_chainT, wp_chain, wp_and, wp_or, wp_not, wp_iteT, wp_negX, x_negI, x_slS, x_listT, x_tupT, x_bindT, setAll_cons, setAll_nil, true_and, and_true, eq_self, big0, big1, big2, big3, big4, big5, big6, big7, big8, big9, big10, wp_fld, wp_fldT, wp_mcall, wp_mcallT, wp_make, wp_setFld, wp_augFld, wp_asgF, wp_whil, wp_zip, insQ_some, asgFQ_eq, x_setFlds0, x_setFlds1, x_augA, x_augS, x_zipT, x_mulT1, x_mulT0, wp_andT, wp_orT, wp_notT, wp_iteE, wp_idx, wp_sl, wp_call, wp_callK, wp_call0, wp_globX, wp_dictA, wp_bi, wp_tup, wp_lstA, wp_dict0A, wp_meth, wp_lcA, wp_evs_nil, wp_evs_cons, wp_evo_none, wp_evo_some, wp_seq, wp_enum, wp_rng1, wp_rng2, wp_idxT, wp_varT, wp_callT, wp_callKT, wp_biT, x_truB, tsto_none, tsto_some,
  seqQ_nx, seqQ_ret, seqQ_bk, seqQ_ct, endQ_ret, endQ_nx, varQ_some, lstQ_some, dctQ_some, optQ_some, blQ_bl, inQ_int, rgQ_int, rg2Q_int,
  x_eqSS, x_eqII, x_neSS, x_neII, str_we, str_ew, decide_true, decide_false, if_true, if_false, Bool.false_eq_true, reduceIte, x_addI, x_addT, x_addS, x_subI, x_mulI, x_divI, x_modI, x_powI, x_ltI, x_leI, x_gtI, x_geI, x_is, x_isnot, x_isB, x_isNB, x_ixT, x_ixF, x_abs, x_lenT, x_lenF, x_intI, x_intB, x_max2, x_min2, x_seqT, x_seqF, x_slT, x_slFA,
  List.map_cons, List.map_nil, List.length_cons, List.length_nil, List.cons_append, List.nil_append, List.replicate_succ, List.replicate_zero, Nat.reduceSub, Nat.reduceAdd, List.set_cons_zero, List.set_cons_succ, List.getElem?_cons_zero, List.getElem?_cons_succ, Nat.add_zero, Nat.zero_add, Nat.sub_self, decide_eq_true_eq]
    simpa only [List.map_map, Function.comp_def, Bool.false_eq_true, if_false] using hq
end
/-! ### a joiner tells what plain joining tells -/
def jheld (J : Jn) (s : JS) : List Wd := s.kept.filter (mayP J s.clock)
section
variable {J : Jn} {s : JS} {w : Wd}
theorem late_lt (hl : 0 ≤ J.late) (h : isLate J s.clock w.time = true) : max s.clock w.time = s.clock := by
  have := of_decide_eq_true h
  omega
theorem step_clock (hl : 0 ≤ J.late) : kClock J s.clock w = (jstep J s w).clock := by
  unfold kClock jstep
  split
  · rename_i h; exact (late_lt hl h).symm
  · rfl
theorem step_held (hl : 0 ≤ J.late) : kHeld J s.clock (jheld J s) w = jheld J (jstep J s w) := by
  unfold kHeld
  split
  · rename_i h
    rw [jstep_late h]
    unfold jheld
    rw [late_lt hl h]
  · rename_i h
    rw [jstep_ok h]
    unfold jheld
    simp only [List.filter_append, List.filter_filter]
    congr 1
    apply List.filter_congr
    intro o _
    unfold mayP
    rw [Bool.eq_iff_iff]
    simp only [Bool.and_eq_true, decide_eq_true_eq]
    omega
theorem step_made : kMade J s.clock (jheld J s) w = jmade J s.clock s.kept w := by
  unfold kMade jmade
  split
  · rfl
  · rename_i h
    congr 1
    unfold jheld
    rw [List.filter_filter]
    apply List.filter_congr
    intro o _
    have hn : ¬ (w.time + J.late < s.clock) := fun z => h (decide_eq_true z)
    cases hne : near J w o with
    | false => rfl
    | true =>
      have h3 : iabs (w.time - o.time) ≤ J.win := by
        unfold near at hne
        simp only [Bool.and_eq_true, decide_eq_true_eq] at hne
        exact hne.2.2
      have : mayP J s.clock o = true := by
        unfold mayP
        rw [decide_eq_true_eq]
        unfold iabs at h3
        split at h3 <;> omega
      rw [this]; rfl
end
section
variable {a b c : D}
theorem nk1 : (("take" : Str) == "joining") = false := by decide +kernel
theorem nk2 : (("take" : Str) == "clock_now") = false := by decide +kernel
theorem nk3 : (("take" : Str) == "held") = false := by decide +kernel
theorem nl1 : (("clock" : Str) == "joining") = false := by decide +kernel
theorem nl2 : (("clock" : Str) == "clock_now") = false := by decide +kernel
theorem nl3 : (("clock" : Str) == "held") = false := by decide +kernel
theorem np1 : (("kept" : Str) == "joining") = false := by decide +kernel
theorem np2 : (("kept" : Str) == "clock_now") = false := by decide +kernel
theorem np3 : (("kept" : Str) == "held") = false := by decide +kernel
theorem nq1 : (("state" : Str) == "joining") = false := by decide +kernel
theorem nq2 : (("state" : Str) == "clock_now") = false := by decide +kernel
theorem nq3 : (("state" : Str) == "held") = false := by decide +kernel
theorem l3_take : (((fs3 a b c).lookup ("take" : Str)).isNone = true) = True := eq_true (by simp only [List.lookup_cons, nk1, nk2, nk3, List.lookup_nil, Option.isNone_none])
theorem l3_clock : (((fs3 a b c).lookup ("clock" : Str)).isNone = true) = True := eq_true (by simp only [List.lookup_cons, nl1, nl2, nl3, List.lookup_nil, Option.isNone_none])
theorem l3_kept : (((fs3 a b c).lookup ("kept" : Str)).isNone = true) = True := eq_true (by simp only [List.lookup_cons, np1, np2, np3, List.lookup_nil, Option.isNone_none])
theorem l3_state : (((fs3 a b c).lookup ("state" : Str)).isNone = true) = True := eq_true (by simp only [List.lookup_cons, nq1, nq2, nq3, List.lookup_nil, Option.isNone_none])
end
def pair_text_b : Sms :=
  (.cons (.asgT [1, 2, 3, 4] (.var 0))
    (.cons (.ret (.bin .Add (.sl (.var 2) .none (.some (.glob "HALF"))) (.sl (.var 3) .none (.some (.glob "HALF")))))
    .nil))
theorem ptext_wp {C : Cts} {p : Pr} {Q : D → Store → Prop} {st : Store} (hg : C.gl "HALF" = some (.int 4)) (h1 : p.left.length ≤ 1000) (h2 : p.right.length ≤ 1000) : wp (callDef C 5 pair_text_b [prD p]) Q st ↔ Q (.str (cutS p.left none (some 4) ++ cutS p.right none (some 4))) st := by
  have hbig : bigN = 16777216 := rfl
  have h3 := cutS_length p.left none (some 4)
  have h4 := cutS_length p.right none (some 4)
  have e1 : (p.left.length ≤ bigN) = True := eq_true (by omega)
  have e2 : (p.right.length ≤ bigN) = True := eq_true (by omega)
  have e3 : ((cutS p.left none (some 4)).length + (cutS p.right none (some 4)).length ≤ bigN) = True := eq_true (by omega)
  rw [wp_callDef]
  unfold pair_text_b
  try simp only [wp_cons, wp_nil, wp_asg, wp_expr, wp_retS, wp_retN, wp_iteS, wp_pass, wp_brk, wp_cont, wp_setIx, wp_augX, wp_asgT, wp_for, wp_varX, wp_cst, wp_bin, wp_cmp, wp_cmpT, wp_chainT, wp_chain, wp_and, wp_or, wp_not, wp_iteT, wp_negX, x_negI, x_slS, x_listT, x_tupT, x_bindT, setAll_cons, setAll_nil, true_and, and_true, eq_self, big0, big1, big2, big3, big4, big5, big6, big7, big8, big9, big10, wp_fld, wp_fldT, wp_mcall, wp_mcallT, wp_make, wp_setFld, wp_augFld, wp_asgF, wp_whil, wp_zip, insQ_some, asgFQ_eq, x_setFlds0, x_setFlds1, x_augA, x_augS, x_zipT, x_mulT1, x_mulT0, wp_andT, wp_orT, wp_notT, wp_iteE, wp_idx, wp_sl, wp_call, wp_callK, wp_call0, wp_globX, wp_dictA, wp_bi, wp_tup, wp_lstA, wp_dict0A, wp_meth, wp_lcA, wp_evs_nil, wp_evs_cons, wp_evo_none, wp_evo_some, wp_seq, wp_enum, wp_rng1, wp_rng2, wp_idxT, wp_varT, wp_callT, wp_callKT, wp_biT, x_truB, tsto_none, tsto_some,
  seqQ_nx, seqQ_ret, seqQ_bk, seqQ_ct, endQ_ret, endQ_nx, varQ_some, lstQ_some, dctQ_some, optQ_some, blQ_bl, inQ_int, rgQ_int, rg2Q_int,
  x_eqSS, x_eqII, x_neSS, x_neII, str_we, str_ew, decide_true, decide_false, if_true, if_false, Bool.false_eq_true, reduceIte, x_addI, x_addT, x_addS, x_subI, x_mulI, x_divI, x_modI, x_powI, x_ltI, x_leI, x_gtI, x_geI, x_is, x_isnot, x_isB, x_isNB, x_ixT, x_ixF, x_abs, x_lenT, x_lenF, x_intI, x_intB, x_max2, x_min2, x_seqT, x_seqF, x_slT, x_slFA,
  List.map_cons, List.map_nil, List.length_cons, List.length_nil, List.cons_append, List.nil_append, List.replicate_succ, List.replicate_zero, Nat.reduceSub, Nat.reduceAdd, List.set_cons_zero, List.set_cons_succ, List.getElem?_cons_zero, List.getElem?_cons_succ, Nat.add_zero, Nat.zero_add, Nat.sub_self, decide_eq_true_eq, hg, e1, e2, e3]
theorem eqv4 {a b c d e f : Str} {i j : Int} : PyData.eqv (toP (.tup [.str a, .str b, .str c, .int i])) (toP (.tup [.str d, .str e, .str f, .int j])) = (decide (a = d) && (decide (b = e) && (decide (c = f) && decide (i = j)))) := by
  simp only [toP, toPs, PyData.eqv, PyData.eqvAll, Bool.and_true]
  rw [Bool.eq_iff_iff]
  simp
end W9

/-! Y7: joiners step by step -/
namespace W9
open PySem L2
structure Du where
  made : List Pr
  clock : Int
  kept : List Wd
abbrev duD (d : Du) : D := .tup [.tup (d.made.map prD), .int d.clock, .tup (d.kept.map wdD)]
def due (J : Jn) (s : JS) (w : Wd) : Du := ⟨jmade J s.clock s.kept w, (jstep J s w).clock, jheld J (jstep J s w)⟩
def zd (J : Jn) : JS → List Wd → List (Wd × Du)
  | _, [] => []
  | s, w :: ws => (w, due J s w) :: zd J (jstep J s w) ws
abbrev js0 : JS := ⟨-1, [], []⟩
abbrev duesD (l : List (Wd × Du)) : List D := l.map fun x => duD x.2
section
variable {J : Jn}
theorem zd_fst : ∀ (ws : List Wd) (s : JS), (zd J s ws).map Prod.fst = ws
  | [], _ => rfl
  | w :: ws, s => by simp only [zd, List.map_cons, zd_fst ws]
theorem zd_len (ws : List Wd) (s : JS) : (zd J s ws).length = ws.length := by rw [← List.length_map (f := Prod.fst), zd_fst]
theorem zd_app : ∀ (a b : List Wd) (s : JS), zd J s (a ++ b) = zd J s a ++ zd J (a.foldl (jstep J) s) b
  | [], _, _ => rfl
  | w :: a, b, s => by simp only [List.cons_append, zd, List.foldl_cons, zd_app a b]
theorem zd_snoc (a : List Wd) (w : Wd) : zd J js0 (a ++ [w]) = zd J js0 a ++ [(w, due J (jrun J a) w)] := zd_app a [w] js0
theorem zd_at : ∀ (P : List (Wd × Du)) {x : Wd × Du} {R : List (Wd × Du)} (ws : List Wd) (s : JS), zd J s ws = P ++ x :: R → x.2 = due J ((P.map Prod.fst).foldl (jstep J) s) x.1
  | [], x, R, [], s, h => by cases h
  | [], x, R, w :: ws, s, h => by
    simp only [zd, List.nil_append, List.cons.injEq] at h
    obtain ⟨rfl, _⟩ := h
    rfl
  | p :: P, x, R, [], s, h => by cases h
  | p :: P, x, R, w :: ws, s, h => by
    simp only [zd, List.cons_append, List.cons.injEq] at h
    obtain ⟨rfl, h⟩ := h
    exact zd_at P ws _ h
theorem zd_pairs : ∀ (ws : List Wd) (s : JS), pairs2 (ws.map wdD) (duesD (zd J s ws)) = (zd J s ws).map fun x => D.tup [wdD x.1, duD x.2]
  | [], _ => rfl
  | w :: ws, s => by
    have := zd_pairs ws (jstep J s w)
    simp only [zd, duesD, List.map_cons, pairs2] at this ⊢
    rw [this]
theorem zd_drop (n : Nat) (ws : List Wd) : (zd J js0 ws).drop n = zd J (jrun J (ws.take n)) (ws.drop n) := by
  conv => lhs; rw [← List.take_append_drop n ws, zd_app]
  by_cases h : n ≤ ws.length
  · rw [List.drop_left' (by rw [zd_len, List.length_take]; omega)]
    rfl
  · have h1 : ws.drop n = [] := List.drop_eq_nil_of_le (by omega)
    rw [h1, List.drop_eq_nil_of_le (by rw [List.length_append, zd_len, List.length_take]; simp only [zd, List.length_nil]; omega)]
    rfl
theorem jrun_app (a b : List Wd) : jrun J (a ++ b) = b.foldl (jstep J) (jrun J a) := by simp [jrun]
theorem kept_in : ∀ ws : List Wd, ∀ w ∈ (jrun J ws).kept, w ∈ ws := by
  intro ws
  rw [← List.reverse_reverse ws]
  generalize ws.reverse = l
  induction l with
  | nil => simp [jrun]
  | cons v l ih =>
    rw [List.reverse_cons]
    intro w hw
    rw [jrun_snoc] at hw
    simp only [jstep] at hw
    split at hw
    · exact List.mem_append_left _ (ih w hw)
    · rcases List.mem_append.mp hw with hw | hw
      · exact List.mem_append_left _ (ih w hw)
      · exact List.mem_append_right _ hw
theorem clock_in : ∀ ws : List Wd, (∀ w ∈ ws, WdOk w) → -1 ≤ (jrun J ws).clock ∧ (jrun J ws).clock ≤ 999 := by
  intro ws
  rw [← List.reverse_reverse ws]
  generalize ws.reverse = l
  induction l with
  | nil => simp [jrun]
  | cons v l ih =>
    rw [List.reverse_cons]
    intro h
    rw [jrun_snoc]
    have h1 := ih fun w hw => h w (List.mem_append_left _ hw)
    have hv := h v (by simp)
    have := hv.t0; have := hv.t1
    show -1 ≤ max (jrun J l.reverse).clock v.time ∧ max (jrun J l.reverse).clock v.time ≤ 999
    omega
theorem held_in (ws : List Wd) : ∀ w ∈ jheld J (jrun J ws), w ∈ ws := fun w hw => kept_in ws w (List.mem_filter.mp hw).1
theorem held_len (ws : List Wd) : (jheld J (jrun J ws)).length ≤ ws.length := Nat.le_trans (List.length_filter_le _ _) (jrun_kept J ws)
theorem wd_shw {w : Wd} (h : WdOk w) : Shw 339 1 (wdD w) := four h.row h.key h.text h.t0 h.t1
theorem held_shw {ws : List Wd} (hw : ∀ w ∈ ws, WdOk w) (hl : ws.length ≤ 201) : Shw 70000 2 (.tup ((jheld J (jrun J ws)).map wdD)) := by
  have := held_len (J := J) ws
  exact (Shw.tupM (n := 339) (k := 1) fun o ho => wd_shw (hw o (held_in ws o ho))).mono (by omega) (Nat.le_refl _)
theorem made_shw {ws : List Wd} {w : Wd} (hw : ∀ w ∈ ws, WdOk w) (h : WdOk w) (hl : ws.length ≤ 201) : Shw 70000 2 (.tup ((jmade J (jrun J ws).clock (jrun J ws).kept w).map prD)) := by
  have h1 := jmade_len (J := J) (c := (jrun J ws).clock) (kept := (jrun J ws).kept) (w := w)
  have h2 := jrun_kept J ws
  refine (Shw.tupM (n := 339) (k := 1) fun p hp => ?_).mono (by omega) (Nat.le_refl _)
  have ok : PrOk p := by
    unfold jmade at hp
    split at hp
    · cases hp
    · obtain ⟨o, ho, rfl⟩ := List.mem_map.mp hp
      exact pair_ok h (hw o (kept_in ws o (List.mem_filter.mp ho).1))
  exact four ok.key ok.left ok.right ok.t0 ok.t1
theorem clk_shw {ws : List Wd} (hw : ∀ w ∈ ws, WdOk w) : Shw 21 0 (.int (jrun J ws).clock) := by
  have := clock_in (J := J) ws hw
  exact Shw.int20 (by omega) (by omega)
theorem Shw.tup3 {n k : Nat} {a b c : D} (ha : Shw n k a) (hb : Shw n k b) (hc : Shw n k c) : Shw (3 * n + 9) (k + 1) (.tup [a, b, c]) := by
  refine (Shw.tup (n := n) (k := k) fun x hx => ?_).mono (by simp only [List.length_cons, List.length_nil]; omega) (Nat.le_refl _)
  simp only [List.mem_cons, List.not_mem_nil, or_false] at hx
  rcases hx with rfl | rfl | rfl
  · exact ha
  · exact hb
  · exact hc
theorem ck_shw {ws : List Wd} (hw : ∀ w ∈ ws, WdOk w) (hl : ws.length ≤ 201) : Shw 150000 3 (.tup [.int (jrun J ws).clock, .tup ((jheld J (jrun J ws)).map wdD)]) :=
  (Shw.tup2 ((clk_shw hw).mono (Nat.le_refl _) (Nat.zero_le 2)) (held_shw hw hl)).mono (by omega) (Nat.le_refl _)
theorem shows_shw {ws : List Wd} (hw : ∀ w ∈ ws, WdOk w) (hl : ws.length ≤ 201) : Shw 500000 4 (.tup [.int (jrun J ws).clock, .tup ((jheld J (jrun J ws)).map wdD), .tup [.int (jrun J ws).clock, .tup ((jheld J (jrun J ws)).map wdD)]]) :=
  (Shw.tup3 ((clk_shw hw).mono (n' := 150000) (by omega) (Nat.zero_le 3)) ((held_shw hw hl).mono (by omega) (by omega)) (ck_shw hw hl)).mono (by omega) (Nat.le_refl _)
theorem its_shw {ws : List Wd} {w : Wd} (hw : ∀ w ∈ ws, WdOk w) (h : WdOk w) (hl : ws.length ≤ 200) : Shw 500000 3 (duD (due J (jrun J ws) w)) := by
  have hw' : ∀ v ∈ ws ++ [w], WdOk v := fun v hv => by
    rcases List.mem_append.mp hv with hv | hv
    · exact hw v hv
    · rw [List.mem_singleton.mp hv]; exact h
  have h1 := clk_shw (J := J) hw'
  have h2 := held_shw (J := J) hw' (by simp; omega)
  rw [jrun_snoc] at h1 h2
  exact (Shw.tup3 (made_shw hw h (by omega)) (h1.mono (by omega) (by omega)) h2).mono (by omega) (Nat.le_refl _)
theorem law_held {s : JS} {w : Wd} : (if isLate J s.clock w.time = true then jheld J s else jheld J s ++ [w]).filter (mayP J (max s.clock w.time)) = jheld J (jstep J s w) := by
  unfold jheld jstep
  split
  · simp only [List.filter_filter]
    apply List.filter_congr
    intro o _
    unfold mayP
    rw [Bool.eq_iff_iff]
    simp only [Bool.and_eq_true, decide_eq_true_eq]
    omega
  · simp only [List.filter_append, List.filter_filter]
    congr 1
    apply List.filter_congr
    intro o _
    unfold mayP
    rw [Bool.eq_iff_iff]
    simp only [Bool.and_eq_true, decide_eq_true_eq]
    omega
theorem near_iff {w o : Wd} : near J w o = true ↔ ¬ o.row = w.row ∧ o.key = w.key ∧ -J.win ≤ w.time - o.time ∧ w.time - o.time ≤ J.win := by
  unfold near iabs
  simp only [Bool.and_eq_true, Bool.not_eq_true', decide_eq_false_iff_not, decide_eq_true_eq]
  constructor
  · rintro ⟨a, b, c⟩
    refine ⟨fun h => a h.symm, b.symm, ?_, ?_⟩ <;> (split at c <;> omega)
  · rintro ⟨a, b, c, d⟩
    refine ⟨fun h => a h.symm, b.symm, ?_⟩
    split <;> omega
end
theorem atI_last {xs : List D} {x : D} : atI (xs ++ [x]) (-1) = some x := by
  unfold atI
  have h : ixN (xs ++ [x]).length (-1) = some xs.length := by
    unfold ixN
    simp only [List.length_append, List.length_cons, List.length_nil]
    rw [if_neg (by omega)]
    first | rfl | (rw [if_pos (by omega)]; congr 1; omega) | (congr 1; omega)
  rw [h]
  simp
theorem a3 {a b c : D} : atI [a, b, c] 0 = some a ∧ atI [a, b, c] 1 = some b ∧ atI [a, b, c] 2 = some c := ⟨rfl, rfl, rfl⟩
theorem cut13 {a b c : D} : cutL [a, b, c] (some 1) none = [b, c] := rfl
end W9

/-! the defs of law_k37_joiners_step_by_step (printed by gen.py) -/
namespace K37
open PySem L2 W9
def top (i : Nat) : Stmt := PySem.Challenge.pw_wholelog_k37_joiners_step_by_step.main.body.getD i (.Pass ⟨0, 0, 0, 0⟩)
def b_l_next : Sms :=
  (.cons (.ite (.and (.cmp .Eq (.idx (.var 0) (.cst (.str "left"))) (.cst (.int 0))) (.cmp .Lt (.idx (.var 0) (.cst (.str "at"))) (.bi .len (.cons (.idx (.var 0) (.cst (.str "cells"))) .nil))))
    (.cons (.asg 2 (.idx (.idx (.var 0) (.cst (.str "cells"))) (.idx (.var 0) (.cst (.str "at")))))
    (.cons (.setIx (.var 0) (.cst (.str "at")) (.bin .Add (.idx (.var 0) (.cst (.str "at"))) (.cst (.int 1))))
    (.cons (.setIx (.var 0) (.cst (.str "seed")) (.bin .Mod (.bin .Add (.bin .Add (.bin .Mult (.idx (.var 0) (.cst (.str "seed"))) (.cst (.int 7368787))) (.bin .Mod (.var 2) (.bin .Pow (.cst (.int 10)) (.cst (.int 30))))) (.cst (.int 11))) (.cst (.int 2305843009213693951))))
    (.cons (.setIx (.var 0) (.cst (.str "left")) (.bin .Mult (.var 2) (.bi .int (.cons (.cmp .GtE (.var 2) (.bin .Pow (.cst (.int 10)) (.cst (.int 18)))) .nil))))
    .nil))))
    .nil)
    (.cons (.ite (.cmp .Gt (.idx (.var 0) (.cst (.str "left"))) (.cst (.int 0)))
    (.cons (.asg 3 (.bin .Mod (.idx (.var 0) (.cst (.str "left"))) (.var 1)))
    (.cons (.setIx (.var 0) (.cst (.str "left")) (.bin .FloorDiv (.idx (.var 0) (.cst (.str "left"))) (.var 1)))
    (.cons (.ret (.var 3))
    .nil)))
    .nil)
    (.cons (.setIx (.var 0) (.cst (.str "seed")) (.bin .Mod (.bin .Add (.bin .Mult (.idx (.var 0) (.cst (.str "seed"))) (.cst (.int 1181783497276652981))) (.cst (.int 12345678910987))) (.cst (.int 2305843009213693951))))
    (.cons (.ret (.bin .Mod (.bin .FloorDiv (.bin .Mod (.bin .Mult (.idx (.var 0) (.cst (.str "seed"))) (.idx (.var 0) (.cst (.str "seed")))) (.cst (.int 2305843009213693921))) (.cst (.int 65537))) (.var 1)))
    .nil))))
def b_Joiner_init : Sms :=
  (.cons (.setFld (.var 0) "joining" (.var 1))
    (.cons (.setFld (.var 0) "clock_now" (.neg (.cst (.int 1))))
    (.cons (.setFld (.var 0) "held" (.tup .nil))
    .nil)))
def b_joiner : Sms :=
  (.cons (.asg 2 (.make ".__init__" "Joiner" [] (.cons (.var 0) .nil) .nil))
    (.cons (.asgF 2 ["clock_now", "held"] (.var 1))
    (.cons (.ret (.var 2))
    .nil)))
def b_Joiner_state : Sms :=
  (.cons (.ret (.tup (.cons (.fld (.var 0) "clock_now") (.cons (.fld (.var 0) "held") .nil))))
    .nil)
def b_Joiner_kept : Sms :=
  (.cons (.ret (.fld (.var 0) "held"))
    .nil)
def b_Joiner_clock : Sms :=
  (.cons (.ret (.fld (.var 0) "clock_now"))
    .nil)
def b_pair_made : Sms :=
  (.cons (.asgT [3, 4] (.ite (.cmp .Eq (.idx (.var 1) (.cst (.int 0))) (.idx (.var 0) (.cst (.int 0)))) (.tup (.cons (.var 1) (.cons (.var 2) .nil))) (.tup (.cons (.var 2) (.cons (.var 1) .nil)))))
    (.cons (.ret (.tup (.cons (.idx (.var 1) (.cst (.int 1))) (.cons (.idx (.var 3) (.cst (.int 2))) (.cons (.idx (.var 4) (.cst (.int 2))) (.cons (.bi .max (.cons (.idx (.var 1) (.cst (.int 3))) (.cons (.idx (.var 2) (.cst (.int 3))) .nil))) .nil))))))
    .nil))
def b_are_near : Sms :=
  (.cons (.asgT [3, 4, 5, 6] (.var 0))
    (.cons (.ret (.and (.cmp .NotEq (.idx (.var 1) (.cst (.int 0))) (.idx (.var 2) (.cst (.int 0)))) (.and (.cmp .Eq (.idx (.var 1) (.cst (.int 1))) (.idx (.var 2) (.cst (.int 1)))) (.cmp .LtE (.bi .abs (.cons (.bin .Sub (.idx (.var 1) (.cst (.int 3))) (.idx (.var 2) (.cst (.int 3)))) .nil)) (.var 5)))))
    .nil))
def b_is_late : Sms :=
  (.cons (.asgT [3, 4, 5, 6] (.var 0))
    (.cons (.ret (.cmp .Lt (.bin .Add (.var 2) (.var 6)) (.var 1)))
    .nil))
def b_Joiner_may_pair : Sms :=
  (.cons (.asgT [2, 3, 4, 5] (.fld (.var 0) "joining"))
    (.cons (.ret (.cmp .GtE (.bin .Add (.bin .Add (.idx (.var 1) (.cst (.int 3))) (.var 4)) (.var 5)) (.fld (.var 0) "clock_now")))
    .nil))
def b_Joiner_take : Sms :=
  (.cons (.asg 5 (.tup (.cons (.var 1) (.cons (.var 2) (.cons (.var 3) (.cons (.var 4) .nil))))))
    (.cons (.ite (.call "is_late" (.cons (.fld (.var 0) "joining") (.cons (.fld (.var 0) "clock_now") (.cons (.var 4) .nil))))
    (.cons (.ret (.tup .nil))
    .nil)
    .nil)
    (.cons (.asg 6 (.lc [8] (.seq (.fld (.var 0) "held")) (.name 8) (.some (.call "are_near" (.cons (.fld (.var 0) "joining") (.cons (.var 5) (.cons (.var 8) .nil))))) (.var 8)))
    (.cons (.asg 7 (.bi .tuple (.cons (.lc [8] (.seq (.var 6)) (.name 8) .none (.call "pair_made" (.cons (.fld (.var 0) "joining") (.cons (.var 5) (.cons (.var 8) .nil))))) .nil)))
    (.cons (.setFld (.var 0) "clock_now" (.bi .max (.cons (.fld (.var 0) "clock_now") (.cons (.var 4) .nil))))
    (.cons (.setFld (.var 0) "held" (.bi .tuple (.cons (.lc [9] (.seq (.bin .Add (.fld (.var 0) "held") (.tup (.cons (.var 5) .nil)))) (.name 9) (.some (.mcall ".may_pair" "may_pair" [] (.var 0) (.cons (.var 9) .nil) .nil)) (.var 9)) .nil)))
    (.cons (.ret (.var 7))
    .nil)))))))
def b_l_goes_on_1 : Sms :=
  (.cons (.ite (.or (.cmp .NotEq (.mcall ".take" "take" [] (.var 7) (.cons (.idx (.var 5) (.cst (.int 0))) (.cons (.idx (.var 5) (.cst (.int 1))) (.cons (.idx (.var 5) (.cst (.int 2))) (.cons (.idx (.var 5) (.cst (.int 3))) .nil)))) .nil) (.idx (.var 8) (.cst (.int 0)))) (.cmp .NotEq (.tup (.cons (.mcall ".clock" "clock" [] (.var 7) .nil .nil) (.cons (.mcall ".kept" "kept" [] (.var 7) .nil .nil) .nil))) (.sl (.var 8) (.some (.cst (.int 1))) .none)))
    (.cons (.ret (.cst (.bl false)))
    .nil)
    .nil)
    .nil)
def b_l_goes_on_2 : Sms :=
  (.cons (.expr (.mcall ".take" "take" [] (.var 4) (.cons (.idx (.var 5) (.cst (.int 0))) (.cons (.idx (.var 5) (.cst (.int 1))) (.cons (.idx (.var 5) (.cst (.int 2))) (.cons (.idx (.var 5) (.cst (.int 3))) .nil)))) .nil))
    .nil)
def b_l_goes_on : Sms :=
  (.cons (.asg 4 (.make ".__init__" "Joiner" [] (.cons (.var 0) .nil) .nil))
    (.cons (.forS (.seq (.sl (.var 1) .none (.some (.var 3)))) (.name 5) b_l_goes_on_2)
    (.cons (.asg 6 (.mcall ".state" "state" [] (.var 4) .nil .nil))
    (.cons (.asg 7 (.call "joiner" (.cons (.var 0) (.cons (.var 6) .nil))))
    (.cons (.forS (.zip (.sl (.var 1) (.some (.var 3)) .none) (.sl (.var 2) (.some (.var 3)) .none)) (.tup [5, 8]) b_l_goes_on_1)
    (.cons (.ret (.cmp .Eq (.mcall ".state" "state" [] (.var 4) .nil .nil) (.var 6)))
    .nil))))))
def b_l_steps_1 : Sms :=
  (.cons (.ite (.and (.cmp .NotEq (.idx (.var 15) (.cst (.int 0))) (.var 11)) (.and (.cmp .Eq (.idx (.var 15) (.cst (.int 1))) (.var 12)) (.chain .LtE .LtE (.neg (.var 5)) (.bin .Sub (.var 14) (.idx (.var 15) (.cst (.int 3)))) (.var 5))))
    (.cons (.asg 17 (.ite (.cmp .Eq (.var 11) (.var 3)) (.tup (.cons (.var 13) (.cons (.idx (.var 15) (.cst (.int 2))) .nil))) (.tup (.cons (.idx (.var 15) (.cst (.int 2))) (.cons (.var 13) .nil)))))
    (.cons (.expr (.meth .append (.var 10) (.cons (.tup (.cons (.var 12) (.cons (.idx (.var 17) (.cst (.int 0))) (.cons (.idx (.var 17) (.cst (.int 1))) (.cons (.bi .max (.cons (.var 14) (.cons (.idx (.var 15) (.cst (.int 3))) .nil))) .nil))))) .nil)))
    .nil))
    .nil)
    .nil)
def b_l_steps_2 : Sms :=
  (.cons (.asgT [11, 12, 13, 14] (.var 2))
    (.cons (.asg 10 (.lst .nil))
    (.cons (.ite (.cmp .GtE (.bin .Add (.var 14) (.var 6)) (.var 7))
    (.cons (.forS (.seq (.var 8)) (.name 15) b_l_steps_1)
    (.cons (.asg 8 (.bin .Add (.var 8) (.lst (.cons (.var 2) .nil))))
    .nil))
    .nil)
    (.cons (.asg 7 (.bi .max (.cons (.var 7) (.cons (.var 14) .nil))))
    (.cons (.asg 8 (.lc [16] (.seq (.var 8)) (.name 16) (.some (.cmp .GtE (.bin .Add (.bin .Add (.idx (.var 16) (.cst (.int 3))) (.var 5)) (.var 6)) (.var 7))) (.var 16)))
    (.cons (.expr (.meth .append (.var 9) (.cons (.tup (.cons (.bi .tuple (.cons (.var 10) .nil)) (.cons (.var 7) (.cons (.bi .tuple (.cons (.var 8) .nil)) .nil)))) .nil)))
    .nil))))))
def b_l_steps : Sms :=
  (.cons (.asgT [3, 4, 5, 6] (.var 0))
    (.cons (.asgT [7, 8, 9] (.tup (.cons (.neg (.cst (.int 1))) (.cons (.lst .nil) (.cons (.lst .nil) .nil)))))
    (.cons (.forS (.seq (.var 1)) (.name 2) b_l_steps_2)
    (.cons (.ret (.var 9))
    .nil))))
def b_l_of : Sms :=
  (.cons (.ret (.idx (.var 1) (.call "_law_next" (.cons (.var 0) (.cons (.bi .len (.cons (.var 1) .nil)) .nil)))))
    .nil)
def b_l_words_1 : Sms :=
  (.cons (.asg 10 (.call "_law_of" (.cons (.var 0) (.cons (.lst (.cons (.cst (.int 0)) (.cons (.cst (.int 0)) (.cons (.cst (.int 1)) (.cons (.var 6) (.cons (.bin .Add (.var 6) (.cst (.int 1))) (.cons (.var 7) (.cons (.bin .Add (.var 7) (.cst (.int 1))) (.cons (.bin .Add (.var 6) (.var 7)) (.cons (.bin .Add (.bin .Add (.var 6) (.var 7)) (.cst (.int 1))) (.cons (.cst (.int 7)) .nil))))))))))) .nil))))
    (.cons (.asg 11 (.bi .max (.cons (.cst (.int 0)) (.cons (.bi .min (.cons (.cst (.int 999)) (.cons (.bin .Add (.var 8) (.bin .Mult (.var 10) (.call "_law_of" (.cons (.var 0) (.cons (.lst (.cons (.cst (.int 1)) (.cons (.neg (.cst (.int 1))) (.cons (.neg (.cst (.int 1))) (.cons (.cst (.int 0)) .nil))))) .nil))))) .nil))) .nil))))
    (.cons (.asg 12 (.bin .Add (.call "_law_of" (.cons (.var 0) (.cons (.lst (.cons (.cst (.str "x")) (.cons (.cst (.str "abcdefgh")) (.cons (.cst (.str "left")) (.cons (.cst (.str "abcde")) (.cons (.cst (.str "abcd")) (.cons (.cst (.str "zz")) .nil))))))) .nil))) (.idx (.lst (.cons (.cst (.str "")) (.cons (.cst (.str "y")) .nil))) (.call "_law_next" (.cons (.var 0) (.cons (.cst (.int 2)) .nil))))))
    (.cons (.expr (.meth .append (.var 9) (.cons (.tup (.cons (.call "_law_of" (.cons (.var 0) (.cons (.lst (.cons (.var 4) (.cons (.var 5) .nil))) .nil))) (.cons (.call "_law_of" (.cons (.var 0) (.cons (.lst (.cons (.cst (.str "k")) (.cons (.cst (.str "k")) (.cons (.cst (.str "l")) (.cons (.cst (.str "kl")) .nil))))) .nil))) (.cons (.sl (.var 12) .none (.some (.cst (.int 8)))) (.cons (.var 11) .nil))))) .nil)))
    (.cons (.asg 8 (.call "_law_of" (.cons (.var 0) (.cons (.lst (.cons (.var 8) (.cons (.bi .max (.cons (.var 8) (.cons (.var 11) .nil))) .nil))) .nil))))
    .nil)))))
def b_l_words : Sms :=
  (.cons (.asgT [4, 5, 6, 7] (.var 1))
    (.cons (.asgT [8, 9] (.tup (.cons (.call "_law_of" (.cons (.var 0) (.cons (.lst (.cons (.cst (.int 0)) (.cons (.cst (.int 5)) (.cons (.cst (.int 400)) (.cons (.cst (.int 999)) (.cons (.call "_law_next" (.cons (.var 0) (.cons (.cst (.int 1000)) .nil))) .nil)))))) .nil))) (.cons (.lst .nil) .nil))))
    (.cons (.forS (.rng1 (.var 2)) (.name 3) b_l_words_1)
    (.cons (.ret (.var 9))
    .nil))))
def b_l_shows : Sms :=
  (.cons (.ret (.tup (.cons (.mcall ".clock" "clock" [] (.var 0) .nil .nil) (.cons (.mcall ".kept" "kept" [] (.var 0) .nil .nil) (.cons (.mcall ".state" "state" [] (.var 0) .nil .nil) .nil)))))
    .nil)
def b_l_joining : Sms :=
  (.cons (.asgT [1, 2] (.idx (.lst (.cons (.tup (.cons (.cst (.str "left")) (.cons (.cst (.str "right")) .nil))) (.cons (.tup (.cons (.cst (.str "r")) (.cons (.cst (.str "l")) .nil))) (.cons (.tup (.cons (.cst (.str "a")) (.cons (.cst (.str "ab")) .nil))) (.cons (.tup (.cons (.cst (.str "out")) (.cons (.cst (.str "b")) .nil))) .nil))))) (.call "_law_next" (.cons (.var 0) (.cons (.cst (.int 4)) .nil)))))
    (.cons (.asgT [3, 4] (.lc [5] (.rng1 (.cst (.int 2))) (.name 5) .none (.call "_law_of" (.cons (.var 0) (.cons (.lst (.cons (.cst (.int 0)) (.cons (.cst (.int 1)) (.cons (.cst (.int 2)) (.cons (.cst (.int 5)) (.cons (.cst (.int 20)) (.cons (.cst (.int 99)) (.cons (.call "_law_next" (.cons (.var 0) (.cons (.cst (.int 100)) .nil))) .nil)))))))) .nil)))))
    (.cons (.ret (.tup (.cons (.var 1) (.cons (.var 2) (.cons (.var 3) (.cons (.var 4) .nil))))))
    .nil)))
def b_l_right_1 : Sms :=
  (.cons (.ite (.cmp .NotEq (.bi .repr (.cons (.mcall ".take" "take" [] (.var 5) (.cons (.idx (.var 9) (.cst (.int 0))) (.cons (.idx (.var 9) (.cst (.int 1))) (.cons (.idx (.var 9) (.cst (.int 2))) (.cons (.idx (.var 9) (.cst (.int 3))) .nil)))) .nil) .nil)) (.bi .repr (.cons (.var 10) .nil)))
    (.cons (.ret (.cst (.bl false)))
    .nil)
    .nil)
    (.cons (.ite (.cmp .NotEq (.bi .repr (.cons (.call "_law_shows" (.cons (.var 5) .nil)) .nil)) (.bi .repr (.cons (.tup (.cons (.var 11) (.cons (.var 12) (.cons (.tup (.cons (.var 11) (.cons (.var 12) .nil))) .nil)))) .nil)))
    (.cons (.ret (.cst (.bl false)))
    .nil)
    .nil)
    (.cons (.ite (.cmp .Lt (.bi .len (.cons (.var 7) .nil)) (.cst (.int 12)))
    (.cons (.asg 13 (.idx (.call "_law_words" (.cons (.var 0) (.cons (.var 6) (.cons (.cst (.int 1)) .nil)))) (.cst (.int 0))))
    (.cons (.expr (.meth .append (.var 7) (.cons (.var 13) .nil)))
    (.cons (.asg 8 (.idx (.call "_law_steps" (.cons (.var 6) (.cons (.var 7) .nil))) (.neg (.cst (.int 1)))))
    (.cons (.ite (.cmp .NotEq (.tup (.cons (.mcall ".take" "take" [] (.var 3) (.cons (.idx (.var 13) (.cst (.int 0))) (.cons (.idx (.var 13) (.cst (.int 1))) (.cons (.idx (.var 13) (.cst (.int 2))) (.cons (.idx (.var 13) (.cst (.int 3))) .nil)))) .nil) (.cons (.mcall ".clock" "clock" [] (.var 3) .nil .nil) (.cons (.mcall ".kept" "kept" [] (.var 3) .nil .nil) .nil)))) (.var 8))
    (.cons (.ret (.cst (.bl false)))
    .nil)
    .nil)
    .nil))))
    .nil)
    .nil)))
def b_l_right : Sms :=
  (.cons (.asgT [4, 5] (.tup (.cons (.call "_law_steps" (.cons (.var 1) (.cons (.var 2) .nil))) (.cons (.make ".__init__" "Joiner" [] (.cons (.var 1) .nil) .nil) .nil))))
    (.cons (.asgT [6, 7, 8] (.tup (.cons (.call "_law_joining" (.cons (.var 0) .nil)) (.cons (.lst .nil) (.cons (.tup .nil) .nil)))))
    (.cons (.asg 3 (.make ".__init__" "Joiner" [] (.cons (.var 6) .nil) .nil))
    (.cons (.ite (.cmp .NotEq (.bi .repr (.cons (.call "_law_shows" (.cons (.var 5) .nil)) .nil)) (.bi .repr (.cons (.tup (.cons (.neg (.cst (.int 1))) (.cons (.tup .nil) (.cons (.tup (.cons (.neg (.cst (.int 1))) (.cons (.tup .nil) .nil))) .nil)))) .nil)))
    (.cons (.ret (.cst (.bl false)))
    .nil)
    .nil)
    (.cons (.forS (.zip (.var 2) (.var 4)) (.nest 9 [10, 11, 12]) b_l_right_1)
    (.cons (.ret (.bi .all (.cons (.lc [14] (.seq (.tup (.cons (.cst (.int 0)) (.cons (.bi .len (.cons (.var 2) .nil)) (.cons (.call "_law_next" (.cons (.var 0) (.cons (.bin .Add (.bi .len (.cons (.var 2) .nil)) (.cst (.int 1))) .nil))) .nil))))) (.name 14) .none (.call "_law_goes_on" (.cons (.var 1) (.cons (.var 2) (.cons (.var 4) (.cons (.var 14) .nil)))))) .nil)))
    .nil))))))
def b_l_long_right_1 : Sms :=
  (.cons (.ite (.or (.cmp .NotEq (.mcall ".take" "take" [] (.var 6) (.cons (.idx (.var 8) (.cst (.int 0))) (.cons (.idx (.var 8) (.cst (.int 1))) (.cons (.idx (.var 8) (.cst (.int 2))) (.cons (.idx (.var 8) (.cst (.int 3))) .nil)))) .nil) (.var 11)) (.cmp .NotEq (.mcall ".clock" "clock" [] (.var 6) .nil .nil) (.var 12)))
    (.cons (.ret (.cst (.bl false)))
    .nil)
    .nil)
    .nil)
def b_l_long_right_2 : Sms :=
  (.cons (.asgT [9, 10] (.tup (.cons (.call "_law_of" (.cons (.var 0) (.cons (.lst (.cons (.cst (.str "l")) (.cons (.cst (.str "r")) .nil))) .nil))) (.cons (.call "_law_of" (.cons (.var 0) (.cons (.lst (.cons (.cst (.str "k")) (.cons (.cst (.str "k")) (.cons (.cst (.str "kl")) .nil)))) .nil))) .nil))))
    (.cons (.expr (.meth .append (.var 5) (.cons (.tup (.cons (.var 9) (.cons (.var 10) (.cons (.sl (.cst (.str "abcdefgh")) .none (.some (.bin .Add (.cst (.int 1)) (.bin .Mod (.var 1) (.cst (.int 8)))))) (.cons (.bin .Add (.var 2) (.bin .Mod (.var 1) (.cst (.int 20)))) .nil))))) .nil)))
    .nil))
def b_l_long_right : Sms :=
  (.cons (.asgT [2, 3] (.tup (.cons (.call "_law_next" (.cons (.var 0) (.cons (.cst (.int 960)) .nil))) (.cons (.bin .Add (.cst (.int 20)) (.call "_law_next" (.cons (.var 0) (.cons (.cst (.int 20)) .nil)))) .nil))))
    (.cons (.asgT [4, 5] (.tup (.cons (.tup (.cons (.cst (.str "l")) (.cons (.cst (.str "r")) (.cons (.var 3) (.cons (.bin .Add (.cst (.int 20)) (.call "_law_next" (.cons (.var 0) (.cons (.cst (.int 80)) .nil)))) .nil))))) (.cons (.lst .nil) .nil))))
    (.cons (.forS (.rng1 (.cst (.int 160))) (.name 1) b_l_long_right_2)
    (.cons (.asgT [6, 7] (.tup (.cons (.make ".__init__" "Joiner" [] (.cons (.var 4) .nil) .nil) (.cons (.call "_law_steps" (.cons (.var 4) (.cons (.var 5) .nil))) .nil))))
    (.cons (.forS (.zip (.var 5) (.var 7)) (.nest 8 [11, 12, 13]) b_l_long_right_1)
    (.cons (.ret (.and (.cmp .Eq (.mcall ".kept" "kept" [] (.var 6) .nil .nil) (.idx (.idx (.var 7) (.neg (.cst (.int 1)))) (.cst (.int 2)))) (.call "_law_goes_on" (.cons (.var 4) (.cons (.var 5) (.cons (.var 7) (.cons (.bin .Add (.cst (.int 100)) (.call "_law_next" (.cons (.var 0) (.cons (.cst (.int 60)) .nil)))) .nil)))))))
    .nil))))))
def b_l_begin : Sms :=
  (.cons (.ret (.dict ["cells", "at", "left", "seed"] (.cons (.bi .list (.cons (.sl (.var 0) .none (.some (.cst (.int 63)))) .nil)) (.cons (.cst (.int 0)) (.cons (.cst (.int 0)) (.cons (.bin .Add (.cst (.int 1000003)) (.bi .len (.cons (.sl (.var 0) .none (.some (.cst (.int 63)))) .nil))) .nil))))))
    .nil)
def b_law_1 : Sms :=
  (.cons (.asg 3 (.call "_law_joining" (.cons (.var 1) .nil)))
    (.cons (.asg 4 (.ite (.cmp .Eq (.bin .Add (.call "_law_next" (.cons (.var 1) (.cons (.cst (.int 4)) .nil))) (.var 2)) (.cst (.int 0))) (.cst (.int 40)) (.call "_law_next" (.cons (.var 1) (.cons (.cst (.int 13)) .nil)))))
    (.cons (.ite (.not (.call "_law_right" (.cons (.var 1) (.cons (.var 3) (.cons (.call "_law_words" (.cons (.var 1) (.cons (.var 3) (.cons (.var 4) .nil)))) .nil)))))
    (.cons (.ret (.cst (.bl false)))
    .nil)
    .nil)
    .nil)))
def b_law : Sms :=
  (.cons (.asg 1 (.call "_law_begin" (.cons (.var 0) .nil)))
    (.cons (.ite (.not (.call "_law_long_right" (.cons (.var 1) .nil)))
    (.cons (.ret (.cst (.bl false)))
    .nil)
    .nil)
    (.cons (.forS (.rng1 (.bi .max (.cons (.cst (.int 5)) (.cons (.bi .min (.cons (.bi .len (.cons (.var 0) .nil)) (.cons (.cst (.int 8)) .nil))) .nil)))) (.name 2) b_law_1)
    (.cons (.ret (.cst (.bl true)))
    .nil))))
abbrev d_l_next : Df := ⟨"_law_next", top 9, ["_law_draws", "_law_many", "_law_cell", "_law_digit"], ["_law_draws", "_law_many"], b_l_next, [⟨"_law_next", [], 2, fun xs => xs⟩], none⟩
abbrev d_Joiner_init : Df := ⟨"__init__", inClass (top 5) 0, ["self", "joining"], ["self", "joining"], b_Joiner_init, [⟨"Joiner.__init__", [], 2, fun xs => xs⟩], some "Joiner"⟩
abbrev d_joiner : Df := ⟨"joiner", top 6, ["joining", "state", "found"], ["joining", "state"], b_joiner, [⟨"joiner", [], 2, fun xs => xs⟩], none⟩
abbrev d_Joiner_state : Df := ⟨"state", inClass (top 5) 5, ["self"], ["self"], b_Joiner_state, [⟨"Joiner.state", [], 1, fun xs => xs⟩], some "Joiner"⟩
abbrev d_Joiner_kept : Df := ⟨"kept", inClass (top 5) 4, ["self"], ["self"], b_Joiner_kept, [⟨"Joiner.kept", [], 1, fun xs => xs⟩], some "Joiner"⟩
abbrev d_Joiner_clock : Df := ⟨"clock", inClass (top 5) 3, ["self"], ["self"], b_Joiner_clock, [⟨"Joiner.clock", [], 1, fun xs => xs⟩], some "Joiner"⟩
abbrev d_pair_made : Df := ⟨"pair_made", top 3, ["joining", "word", "other", "first", "second"], ["joining", "word", "other"], b_pair_made, [⟨"pair_made", [], 3, fun xs => xs⟩], none⟩
abbrev d_are_near : Df := ⟨"are_near", top 2, ["joining", "word", "other", "left", "right", "within", "late"], ["joining", "word", "other"], b_are_near, [⟨"are_near", [], 3, fun xs => xs⟩], none⟩
abbrev d_is_late : Df := ⟨"is_late", top 1, ["joining", "clock", "time", "left", "right", "within", "late"], ["joining", "clock", "time"], b_is_late, [⟨"is_late", [], 3, fun xs => xs⟩], none⟩
abbrev d_Joiner_may_pair : Df := ⟨"may_pair", inClass (top 5) 2, ["self", "word", "left", "right", "within", "late"], ["self", "word"], b_Joiner_may_pair, [⟨"Joiner.may_pair", [], 2, fun xs => xs⟩], some "Joiner"⟩
abbrev d_Joiner_take : Df := ⟨"take", inClass (top 5) 1, ["self", "row", "key", "text", "time", "word", "near", "made", "other", "one"], ["self", "row", "key", "text", "time"], b_Joiner_take, [⟨"Joiner.take", [], 5, fun xs => xs⟩], some "Joiner"⟩
abbrev d_l_goes_on : Df := ⟨"_law_goes_on", top 15, ["_law_joining_here", "_law_words_here", "_law_dues", "_law_at", "_law_first", "_law_word", "_law_state", "_law_later", "_law_due"], ["_law_joining_here", "_law_words_here", "_law_dues", "_law_at"], b_l_goes_on, [⟨"_law_goes_on", [], 4, fun xs => xs⟩], none⟩
abbrev d_l_steps : Df := ⟨"_law_steps", top 13, ["_law_joining_here", "_law_words_here", "_law_word", "_law_left", "_law_right_here", "_law_within", "_law_late", "_law_clock", "_law_kept", "_law_found", "_law_made", "_law_row", "_law_key", "_law_text", "_law_time", "_law_other", "_law_one", "_law_both"], ["_law_joining_here", "_law_words_here"], b_l_steps, [⟨"_law_steps", [], 2, fun xs => xs⟩], none⟩
abbrev d_l_of : Df := ⟨"_law_of", top 10, ["_law_draws", "_law_some"], ["_law_draws", "_law_some"], b_l_of, [⟨"_law_of", [], 2, fun xs => xs⟩], none⟩
abbrev d_l_words : Df := ⟨"_law_words", top 12, ["_law_draws", "_law_joining_here", "_law_size", "_law_k", "_law_left", "_law_right_here", "_law_within", "_law_late", "_law_clock", "_law_found", "_law_step", "_law_time", "_law_text"], ["_law_draws", "_law_joining_here", "_law_size"], b_l_words, [⟨"_law_words", [], 3, fun xs => xs⟩], none⟩
abbrev d_l_shows : Df := ⟨"_law_shows", top 14, ["_law_one"], ["_law_one"], b_l_shows, [⟨"_law_shows", [], 1, fun xs => xs⟩], none⟩
abbrev d_l_joining : Df := ⟨"_law_joining", top 11, ["_law_draws", "_law_left", "_law_right_here", "_law_within", "_law_late", "_law_k"], ["_law_draws"], b_l_joining, [⟨"_law_joining", [], 1, fun xs => xs⟩], none⟩
abbrev d_l_right : Df := ⟨"_law_right", top 16, ["_law_draws", "_law_joining_here", "_law_words_here", "_law_second", "_law_dues", "_law_one", "_law_beside", "_law_other", "_law_its", "_law_word", "_law_made", "_law_clock", "_law_kept", "_law_more", "_law_at"], ["_law_draws", "_law_joining_here", "_law_words_here"], b_l_right, [⟨"_law_right", [], 3, fun xs => xs⟩], none⟩
abbrev d_l_long_right : Df := ⟨"_law_long_right", top 17, ["_law_draws", "_law_k", "_law_base", "_law_far", "_law_joining_here", "_law_words_here", "_law_one", "_law_dues", "_law_word", "_law_row", "_law_key", "_law_made", "_law_clock", "_law_kept"], ["_law_draws"], b_l_long_right, [⟨"_law_long_right", [], 1, fun xs => xs⟩], none⟩
abbrev d_l_begin : Df := ⟨"_law_begin", top 8, ["_law_script"], ["_law_script"], b_l_begin, [⟨"_law_begin", [], 1, fun xs => xs⟩], none⟩
abbrev d_law : Df := ⟨"law", top 18, ["_law_script", "_law_draws", "_law_turn", "_law_joining_here", "_law_size"], ["_law_script"], b_law, [⟨"law", [], 1, fun xs => xs⟩], none⟩
abbrev bs : List Str := ["abs", "all", "int", "len", "list", "max", "min", "range", "repr", "tuple", "zip"]
abbrev gs : List Str := []
abbrev cl : List (Str × List Str) := [("Joiner", ["clock_now", "held", "joining"])]
abbrev cs : List Str := ["Joiner"]
abbrev gl : Str → Option D := fun x => ([] : List (Str × D)).lookup x
abbrev md : Mod := ⟨gl, flOf cl⟩
theorem fl_Joiner_clock_now : md.fl "Joiner" "clock_now" = true := by decide +kernel
theorem fl_Joiner_held : md.fl "Joiner" "held" = true := by decide +kernel
theorem fl_Joiner_joining : md.fl "Joiner" "joining" = true := by decide +kernel
abbrev ds0 : List Df := []
abbrev C0 : Cts := (rawT md ds0).cts md
def g_l_next : List D → M D := callDef C0 4 b_l_next
abbrev ds1 : List Df := d_l_next :: ds0
abbrev C1 : Cts := (rawT md ds1).cts md
def g_Joiner_init : List D → M D := callDef C1 2 b_Joiner_init
abbrev ds2 : List Df := d_Joiner_init :: ds1
abbrev C2 : Cts := (rawT md ds2).cts md
def g_joiner : List D → M D := callDef C2 3 b_joiner
abbrev ds3 : List Df := d_joiner :: ds2
abbrev C3 : Cts := (rawT md ds3).cts md
def g_Joiner_state : List D → M D := callDef C3 1 b_Joiner_state
abbrev ds4 : List Df := d_Joiner_state :: ds3
abbrev C4 : Cts := (rawT md ds4).cts md
def g_Joiner_kept : List D → M D := callDef C4 1 b_Joiner_kept
abbrev ds5 : List Df := d_Joiner_kept :: ds4
abbrev C5 : Cts := (rawT md ds5).cts md
def g_Joiner_clock : List D → M D := callDef C5 1 b_Joiner_clock
abbrev ds6 : List Df := d_Joiner_clock :: ds5
abbrev C6 : Cts := (rawT md ds6).cts md
def g_pair_made : List D → M D := callDef C6 5 b_pair_made
abbrev ds7 : List Df := d_pair_made :: ds6
abbrev C7 : Cts := (rawT md ds7).cts md
def g_are_near : List D → M D := callDef C7 7 b_are_near
abbrev ds8 : List Df := d_are_near :: ds7
abbrev C8 : Cts := (rawT md ds8).cts md
def g_is_late : List D → M D := callDef C8 7 b_is_late
abbrev ds9 : List Df := d_is_late :: ds8
abbrev C9 : Cts := (rawT md ds9).cts md
def g_Joiner_may_pair : List D → M D := callDef C9 6 b_Joiner_may_pair
abbrev ds10 : List Df := d_Joiner_may_pair :: ds9
abbrev C10 : Cts := (rawT md ds10).cts md
def g_Joiner_take : List D → M D := callDef C10 10 b_Joiner_take
abbrev ds11 : List Df := d_Joiner_take :: ds10
abbrev C11 : Cts := (rawT md ds11).cts md
def g_l_goes_on : List D → M D := callDef C11 9 b_l_goes_on
abbrev ds12 : List Df := d_l_goes_on :: ds11
abbrev C12 : Cts := (rawT md ds12).cts md
def g_l_steps : List D → M D := callDef C12 18 b_l_steps
abbrev ds13 : List Df := d_l_steps :: ds12
abbrev C13 : Cts := (rawT md ds13).cts md
def g_l_of : List D → M D := callDef C13 2 b_l_of
abbrev ds14 : List Df := d_l_of :: ds13
abbrev C14 : Cts := (rawT md ds14).cts md
def g_l_words : List D → M D := callDef C14 13 b_l_words
abbrev ds15 : List Df := d_l_words :: ds14
abbrev C15 : Cts := (rawT md ds15).cts md
def g_l_shows : List D → M D := callDef C15 1 b_l_shows
abbrev ds16 : List Df := d_l_shows :: ds15
abbrev C16 : Cts := (rawT md ds16).cts md
def g_l_joining : List D → M D := callDef C16 6 b_l_joining
abbrev ds17 : List Df := d_l_joining :: ds16
abbrev C17 : Cts := (rawT md ds17).cts md
def g_l_right : List D → M D := callDef C17 15 b_l_right
abbrev ds18 : List Df := d_l_right :: ds17
abbrev C18 : Cts := (rawT md ds18).cts md
def g_l_long_right : List D → M D := callDef C18 14 b_l_long_right
abbrev ds19 : List Df := d_l_long_right :: ds18
abbrev C19 : Cts := (rawT md ds19).cts md
def g_l_begin : List D → M D := callDef C19 1 b_l_begin
abbrev ds20 : List Df := d_l_begin :: ds19
abbrev C20 : Cts := (rawT md ds20).cts md
def g_law : List D → M D := callDef C20 5 b_law
theorem m2_Joiner_init : C2.mt ("Joiner" ++ ".__init__") ⟨"__init__", [], 2, some "Joiner"⟩ = g_Joiner_init := by rfl
theorem f10_pair_made : C10.fn "pair_made" = g_pair_made := by rfl
theorem f10_are_near : C10.fn "are_near" = g_are_near := by rfl
theorem f10_is_late : C10.fn "is_late" = g_is_late := by rfl
theorem m10_Joiner_may_pair : C10.mt ("Joiner" ++ ".may_pair") ⟨"may_pair", [], 2, some "Joiner"⟩ = g_Joiner_may_pair := by rfl
theorem f11_joiner : C11.fn "joiner" = g_joiner := by rfl
theorem m11_Joiner_state : C11.mt ("Joiner" ++ ".state") ⟨"state", [], 1, some "Joiner"⟩ = g_Joiner_state := by rfl
theorem m11_Joiner_kept : C11.mt ("Joiner" ++ ".kept") ⟨"kept", [], 1, some "Joiner"⟩ = g_Joiner_kept := by rfl
theorem m11_Joiner_clock : C11.mt ("Joiner" ++ ".clock") ⟨"clock", [], 1, some "Joiner"⟩ = g_Joiner_clock := by rfl
theorem m11_Joiner_take : C11.mt ("Joiner" ++ ".take") ⟨"take", [], 5, some "Joiner"⟩ = g_Joiner_take := by rfl
theorem m11_Joiner_init : C11.mt ("Joiner" ++ ".__init__") ⟨"__init__", [], 2, some "Joiner"⟩ = g_Joiner_init := by rfl
theorem f13_l_next : C13.fn "_law_next" = g_l_next := by rfl
theorem f14_l_of : C14.fn "_law_of" = g_l_of := by rfl
theorem f14_l_next : C14.fn "_law_next" = g_l_next := by rfl
theorem m15_Joiner_state : C15.mt ("Joiner" ++ ".state") ⟨"state", [], 1, some "Joiner"⟩ = g_Joiner_state := by rfl
theorem m15_Joiner_kept : C15.mt ("Joiner" ++ ".kept") ⟨"kept", [], 1, some "Joiner"⟩ = g_Joiner_kept := by rfl
theorem m15_Joiner_clock : C15.mt ("Joiner" ++ ".clock") ⟨"clock", [], 1, some "Joiner"⟩ = g_Joiner_clock := by rfl
theorem f16_l_of : C16.fn "_law_of" = g_l_of := by rfl
theorem f16_l_next : C16.fn "_law_next" = g_l_next := by rfl
theorem f17_l_next : C17.fn "_law_next" = g_l_next := by rfl
theorem f17_l_goes_on : C17.fn "_law_goes_on" = g_l_goes_on := by rfl
theorem f17_l_steps : C17.fn "_law_steps" = g_l_steps := by rfl
theorem f17_l_words : C17.fn "_law_words" = g_l_words := by rfl
theorem f17_l_shows : C17.fn "_law_shows" = g_l_shows := by rfl
theorem f17_l_joining : C17.fn "_law_joining" = g_l_joining := by rfl
theorem m17_Joiner_kept : C17.mt ("Joiner" ++ ".kept") ⟨"kept", [], 1, some "Joiner"⟩ = g_Joiner_kept := by rfl
theorem m17_Joiner_clock : C17.mt ("Joiner" ++ ".clock") ⟨"clock", [], 1, some "Joiner"⟩ = g_Joiner_clock := by rfl
theorem m17_Joiner_take : C17.mt ("Joiner" ++ ".take") ⟨"take", [], 5, some "Joiner"⟩ = g_Joiner_take := by rfl
theorem m17_Joiner_init : C17.mt ("Joiner" ++ ".__init__") ⟨"__init__", [], 2, some "Joiner"⟩ = g_Joiner_init := by rfl
theorem f18_l_goes_on : C18.fn "_law_goes_on" = g_l_goes_on := by rfl
theorem f18_l_next : C18.fn "_law_next" = g_l_next := by rfl
theorem f18_l_steps : C18.fn "_law_steps" = g_l_steps := by rfl
theorem f18_l_of : C18.fn "_law_of" = g_l_of := by rfl
theorem m18_Joiner_kept : C18.mt ("Joiner" ++ ".kept") ⟨"kept", [], 1, some "Joiner"⟩ = g_Joiner_kept := by rfl
theorem m18_Joiner_clock : C18.mt ("Joiner" ++ ".clock") ⟨"clock", [], 1, some "Joiner"⟩ = g_Joiner_clock := by rfl
theorem m18_Joiner_take : C18.mt ("Joiner" ++ ".take") ⟨"take", [], 5, some "Joiner"⟩ = g_Joiner_take := by rfl
theorem m18_Joiner_init : C18.mt ("Joiner" ++ ".__init__") ⟨"__init__", [], 2, some "Joiner"⟩ = g_Joiner_init := by rfl
theorem f20_l_right : C20.fn "_law_right" = g_l_right := by rfl
theorem f20_l_words : C20.fn "_law_words" = g_l_words := by rfl
theorem f20_l_next : C20.fn "_law_next" = g_l_next := by rfl
theorem f20_l_joining : C20.fn "_law_joining" = g_l_joining := by rfl
theorem f20_l_long_right : C20.fn "_law_long_right" = g_l_long_right := by rfl
theorem f20_l_begin : C20.fn "_law_begin" = g_l_begin := by rfl
theorem bnd_l_next : d_l_next.bnd := fun _ _ _ _ _ _ us hl => match us, hl with | [_, _], _ => rfl
theorem ch_l_next : chD bs gs cs ds0 d_l_next = true := by decide +kernel
theorem bnd_Joiner_init : d_Joiner_init.bnd := fun _ _ _ _ _ _ us hl => match us, hl with | [_, _], _ => rfl
theorem ch_Joiner_init : chD bs gs cs ds1 d_Joiner_init = true := by decide +kernel
theorem bnd_joiner : d_joiner.bnd := fun _ _ _ _ _ _ us hl => match us, hl with | [_, _], _ => rfl
theorem ch_joiner : chD bs gs cs ds2 d_joiner = true := by decide +kernel
theorem bnd_Joiner_state : d_Joiner_state.bnd := fun _ _ _ _ _ _ us hl => match us, hl with | [_], _ => rfl
theorem ch_Joiner_state : chD bs gs cs ds3 d_Joiner_state = true := by decide +kernel
theorem bnd_Joiner_kept : d_Joiner_kept.bnd := fun _ _ _ _ _ _ us hl => match us, hl with | [_], _ => rfl
theorem ch_Joiner_kept : chD bs gs cs ds4 d_Joiner_kept = true := by decide +kernel
theorem bnd_Joiner_clock : d_Joiner_clock.bnd := fun _ _ _ _ _ _ us hl => match us, hl with | [_], _ => rfl
theorem ch_Joiner_clock : chD bs gs cs ds5 d_Joiner_clock = true := by decide +kernel
theorem bnd_pair_made : d_pair_made.bnd := fun _ _ _ _ _ _ us hl => match us, hl with | [_, _, _], _ => rfl
theorem ch_pair_made : chD bs gs cs ds6 d_pair_made = true := by decide +kernel
theorem bnd_are_near : d_are_near.bnd := fun _ _ _ _ _ _ us hl => match us, hl with | [_, _, _], _ => rfl
theorem ch_are_near : chD bs gs cs ds7 d_are_near = true := by decide +kernel
theorem bnd_is_late : d_is_late.bnd := fun _ _ _ _ _ _ us hl => match us, hl with | [_, _, _], _ => rfl
theorem ch_is_late : chD bs gs cs ds8 d_is_late = true := by decide +kernel
theorem bnd_Joiner_may_pair : d_Joiner_may_pair.bnd := fun _ _ _ _ _ _ us hl => match us, hl with | [_, _], _ => rfl
theorem ch_Joiner_may_pair : chD bs gs cs ds9 d_Joiner_may_pair = true := by decide +kernel
theorem bnd_Joiner_take : d_Joiner_take.bnd := fun _ _ _ _ _ _ us hl => match us, hl with | [_, _, _, _, _], _ => rfl
theorem ch_Joiner_take : chD bs gs cs ds10 d_Joiner_take = true := by decide +kernel
theorem bnd_l_goes_on : d_l_goes_on.bnd := fun _ _ _ _ _ _ us hl => match us, hl with | [_, _, _, _], _ => rfl
theorem ch_l_goes_on : chD bs gs cs ds11 d_l_goes_on = true := by decide +kernel
theorem bnd_l_steps : d_l_steps.bnd := fun _ _ _ _ _ _ us hl => match us, hl with | [_, _], _ => rfl
theorem ch_l_steps : chD bs gs cs ds12 d_l_steps = true := by decide +kernel
theorem bnd_l_of : d_l_of.bnd := fun _ _ _ _ _ _ us hl => match us, hl with | [_, _], _ => rfl
theorem ch_l_of : chD bs gs cs ds13 d_l_of = true := by decide +kernel
theorem bnd_l_words : d_l_words.bnd := fun _ _ _ _ _ _ us hl => match us, hl with | [_, _, _], _ => rfl
theorem ch_l_words : chD bs gs cs ds14 d_l_words = true := by decide +kernel
theorem bnd_l_shows : d_l_shows.bnd := fun _ _ _ _ _ _ us hl => match us, hl with | [_], _ => rfl
theorem ch_l_shows : chD bs gs cs ds15 d_l_shows = true := by decide +kernel
theorem bnd_l_joining : d_l_joining.bnd := fun _ _ _ _ _ _ us hl => match us, hl with | [_], _ => rfl
theorem ch_l_joining : chD bs gs cs ds16 d_l_joining = true := by decide +kernel
theorem bnd_l_right : d_l_right.bnd := fun _ _ _ _ _ _ us hl => match us, hl with | [_, _, _], _ => rfl
theorem ch_l_right : chD bs gs cs ds17 d_l_right = true := by decide +kernel
theorem bnd_l_long_right : d_l_long_right.bnd := fun _ _ _ _ _ _ us hl => match us, hl with | [_], _ => rfl
theorem ch_l_long_right : chD bs gs cs ds18 d_l_long_right = true := by decide +kernel
theorem bnd_l_begin : d_l_begin.bnd := fun _ _ _ _ _ _ us hl => match us, hl with | [_], _ => rfl
theorem ch_l_begin : chD bs gs cs ds19 d_l_begin = true := by decide +kernel
theorem bnd_law : d_law.bnd := fun _ _ _ _ _ _ us hl => match us, hl with | [_], _ => rfl
theorem ch_law : chD bs gs cs ds20 d_law = true := by decide +kernel
end K37

/-! K37: the steps, going on -/
namespace K37
open PySem L2 W9
theorem jf : JnrF md.fl := ⟨fl_Joiner_joining, fl_Joiner_clock_now, fl_Joiner_held⟩
theorem jC10 : JnrC C10 := ⟨jf, ⟨C8, f10_is_late⟩, ⟨C7, f10_are_near⟩, ⟨C6, f10_pair_made⟩, ⟨C9, jf, m10_Joiner_may_pair⟩⟩
theorem e_init2 : C2.mt ("Joiner" ++ ".__init__") ⟨"__init__", [], 2, some "Joiner"⟩ = callDef C1 2 init_b := m2_Joiner_init
theorem e_joiner11 : C11.fn "joiner" = callDef C2 3 joiner_b := f11_joiner
theorem e_state11 : C11.mt ("Joiner" ++ ".state") ⟨"state", [], 1, some "Joiner"⟩ = callDef C3 1 state_b := m11_Joiner_state
theorem e_kept11 : C11.mt ("Joiner" ++ ".kept") ⟨"kept", [], 1, some "Joiner"⟩ = callDef C4 1 kept_b := m11_Joiner_kept
theorem e_clock11 : C11.mt ("Joiner" ++ ".clock") ⟨"clock", [], 1, some "Joiner"⟩ = callDef C5 1 clock_b := m11_Joiner_clock
theorem e_take11 : C11.mt ("Joiner" ++ ".take") ⟨"take", [], 5, some "Joiner"⟩ = callDef C10 10 jtake_b := m11_Joiner_take
theorem e_init11 : C11.mt ("Joiner" ++ ".__init__") ⟨"__init__", [], 2, some "Joiner"⟩ = callDef C1 2 init_b := m11_Joiner_init
/-! ### the steps -/
def steps_t : Sms :=
    (.cons (.asg 7 (.bi .max (.cons (.var 7) (.cons (.var 14) .nil))))
    (.cons (.asg 8 (.lc [16] (.seq (.var 8)) (.name 16) (.some (.cmp .GtE (.bin .Add (.bin .Add (.idx (.var 16) (.cst (.int 3))) (.var 5)) (.var 6)) (.var 7))) (.var 16)))
    (.cons (.expr (.meth .append (.var 9) (.cons (.tup (.cons (.bi .tuple (.cons (.var 10) .nil)) (.cons (.var 7) (.cons (.bi .tuple (.cons (.var 8) .nil)) .nil)))) .nil)))
    .nil)))
theorem atI2 {a b : D} : atI [a, b] 0 = some a ∧ atI [a, b] 1 = some b := ⟨rfl, rfl⟩
section
variable {J : Jn} {w o : Wd} {s0 s : Store} {kj mj f wj : Nat} {c : Int} {K : List Wd} {M : List Pr} {F : List D} {y15 y16 y17 : Option D} {QF : Fl → Store → Prop}
theorem steps_tail (hK : K.length ≤ 1000) (hF : F.length ≤ 1000) (V : Lv0 s0 [(mj, .lst (M.map W9.prD)), (f, .lst F)] s) (hk : s[kj]? = some (.lst (K.map wdD)))
    (q : ∀ kj' s1, Lv0 s0 [(kj', .lst ((K.filter (mayP J (max c w.time))).map wdD)), (f, .lst (F ++ [duD ⟨M, max c w.time, K.filter (mayP J (max c w.time))⟩]))] s1 → QF (.nx [some (jnD J), some (.ob wj), some (wdD w), some (.str J.l), some (.str J.r), some (.int J.win), some (.int J.late), some (.int (max c w.time)), some (.ob kj'), some (.ob f), some (.ob mj), some (.str w.row), some (.str w.key), some (.str w.text), some (.int w.time), y15, y16, y17]) s1) :
    wp (runs C12 steps_t [some (jnD J), some (.ob wj), some (wdD w), some (.str J.l), some (.str J.r), some (.int J.win), some (.int J.late), some (.int c), some (.ob kj), some (.ob f), some (.ob mj), some (.str w.row), some (.str w.key), some (.str w.text), some (.int w.time), y15, y16, y17]) QF s := by
  have hbig : bigN = 16777216 := rfl
  unfold steps_t
  try simp only [wp_cons, wp_nil, wp_asg, wp_expr, wp_retS, wp_retN, wp_iteS, wp_pass, wp_brk, wp_cont, wp_setIx, wp_augX, wp_asgT, wp_for, wp_varX, wp_cst, wp_bin, wp_cmp, wp_cmpT, wp_chainT, wp_chain, wp_and, wp_or, wp_not, wp_iteT, wp_negX, x_negI, x_slS, x_listT, x_tupT, x_bindT, setAll_cons, setAll_nil, true_and, and_true, eq_self, big0, big1, big2, big3, big4, big5, big6, big7, big8, big9, big10, wp_fld, wp_fldT, wp_mcall, wp_mcallT, wp_make, wp_setFld, wp_augFld, wp_asgF, wp_whil, wp_zip, insQ_some, asgFQ_eq, x_setFlds0, x_setFlds1, x_augA, x_augS, x_zipT, x_mulT1, x_mulT0, wp_andT, wp_orT, wp_notT, wp_iteE, wp_idx, wp_sl, wp_call, wp_callK, wp_call0, wp_globX, wp_dictA, wp_bi, wp_tup, wp_lstA, wp_dict0A, wp_meth, wp_lcA, wp_evs_nil, wp_evs_cons, wp_evo_none, wp_evo_some, wp_seq, wp_enum, wp_rng1, wp_rng2, wp_idxT, wp_varT, wp_callT, wp_callKT, wp_biT, x_truB, tsto_none, tsto_some,
  seqQ_nx, seqQ_ret, seqQ_bk, seqQ_ct, endQ_ret, endQ_nx, varQ_some, lstQ_some, dctQ_some, optQ_some, blQ_bl, inQ_int, rgQ_int, rg2Q_int,
  x_eqSS, x_eqII, x_neSS, x_neII, str_we, str_ew, decide_true, decide_false, if_true, if_false, Bool.false_eq_true, reduceIte, x_addI, x_addT, x_addS, x_subI, x_mulI, x_divI, x_modI, x_powI, x_ltI, x_leI, x_gtI, x_geI, x_is, x_isnot, x_isB, x_isNB, x_ixT, x_ixF, x_abs, x_lenT, x_lenF, x_intI, x_intB, x_max2, x_min2, x_seqT, x_seqF, x_slT, x_slFA,
  List.map_cons, List.map_nil, List.length_cons, List.length_nil, List.cons_append, List.nil_append, List.replicate_succ, List.replicate_zero, Nat.reduceSub, Nat.reduceAdd, List.set_cons_zero, List.set_cons_succ, List.getElem?_cons_zero, List.getElem?_cons_succ, Nat.add_zero, Nat.zero_add, Nat.sub_self, decide_eq_true_eq]
  rw [imax', x_seqL hk]
  refine wp_mono (loopC_map (gd := [(kj, K.map wdD)]) wdD wdD (mayP J (max c w.time)) (gd_lst hk) K fun v _ => ?_) fun ds s1 ⟨h1, h2⟩ => ?_
  · rw [wp_compF (env1 := [some (jnD J), some (.ob wj), some (wdD w), some (.str J.l), some (.str J.r), some (.int J.win), some (.int J.late), some (.int (max c w.time)), some (.ob kj), some (.ob f), some (.ob mj), some (.str w.row), some (.str w.key), some (.str w.text), some (.int w.time), y15, some (wdD v), y17]) rfl]
    try simp only [wp_cons, wp_nil, wp_asg, wp_expr, wp_retS, wp_retN, wp_iteS, wp_pass, wp_brk, wp_cont, wp_setIx, wp_augX, wp_asgT, wp_for, wp_varX, wp_cst, wp_bin, wp_cmp, wp_cmpT, wp_chainT, wp_chain, wp_and, wp_or, wp_not, wp_iteT, wp_negX, x_negI, x_slS, x_listT, x_tupT, x_bindT, setAll_cons, setAll_nil, true_and, and_true, eq_self, big0, big1, big2, big3, big4, big5, big6, big7, big8, big9, big10, wp_fld, wp_fldT, wp_mcall, wp_mcallT, wp_make, wp_setFld, wp_augFld, wp_asgF, wp_whil, wp_zip, insQ_some, asgFQ_eq, x_setFlds0, x_setFlds1, x_augA, x_augS, x_zipT, x_mulT1, x_mulT0, wp_andT, wp_orT, wp_notT, wp_iteE, wp_idx, wp_sl, wp_call, wp_callK, wp_call0, wp_globX, wp_dictA, wp_bi, wp_tup, wp_lstA, wp_dict0A, wp_meth, wp_lcA, wp_evs_nil, wp_evs_cons, wp_evo_none, wp_evo_some, wp_seq, wp_enum, wp_rng1, wp_rng2, wp_idxT, wp_varT, wp_callT, wp_callKT, wp_biT, x_truB, tsto_none, tsto_some,
  seqQ_nx, seqQ_ret, seqQ_bk, seqQ_ct, endQ_ret, endQ_nx, varQ_some, lstQ_some, dctQ_some, optQ_some, blQ_bl, inQ_int, rgQ_int, rg2Q_int,
  x_eqSS, x_eqII, x_neSS, x_neII, str_we, str_ew, decide_true, decide_false, if_true, if_false, Bool.false_eq_true, reduceIte, x_addI, x_addT, x_addS, x_subI, x_mulI, x_divI, x_modI, x_powI, x_ltI, x_leI, x_gtI, x_geI, x_is, x_isnot, x_isB, x_isNB, x_ixT, x_ixF, x_abs, x_lenT, x_lenF, x_intI, x_intB, x_max2, x_min2, x_seqT, x_seqF, x_slT, x_slFA,
  List.map_cons, List.map_nil, List.length_cons, List.length_nil, List.cons_append, List.nil_append, List.replicate_succ, List.replicate_zero, Nat.reduceSub, Nat.reduceAdd, List.set_cons_zero, List.set_cons_succ, List.getElem?_cons_zero, List.getElem?_cons_succ, Nat.add_zero, Nat.zero_add, Nat.sub_self, decide_eq_true_eq, a4, ge_iff_le]
    by_cases h : max c w.time ≤ v.time + J.win + J.late
    · simp [h, mayP]
    · simp [h, mayP]
  subst h1 h2
  have hfl : (K.filter (mayP J (max c w.time))).length ≤ K.length := List.length_filter_le _ _
  refine ⟨by rw [List.length_map]; omega, V.alloc fun k s2 V2 => ?_⟩
  refine ⟨.list, V2.tyL 2 rfl, ?_⟩
  rw [x_tupL (V2.get 1 rfl), x_tupL (V2.get 0 rfl)]
  refine V2.append 2 rfl (by omega) fun s3 V3 => ?_
  try simp only [wp_cons, wp_nil, wp_asg, wp_expr, wp_retS, wp_retN, wp_iteS, wp_pass, wp_brk, wp_cont, wp_setIx, wp_augX, wp_asgT, wp_for, wp_varX, wp_cst, wp_bin, wp_cmp, wp_cmpT, wp_chainT, wp_chain, wp_and, wp_or, wp_not, wp_iteT, wp_negX, x_negI, x_slS, x_listT, x_tupT, x_bindT, setAll_cons, setAll_nil, true_and, and_true, eq_self, big0, big1, big2, big3, big4, big5, big6, big7, big8, big9, big10, wp_fld, wp_fldT, wp_mcall, wp_mcallT, wp_make, wp_setFld, wp_augFld, wp_asgF, wp_whil, wp_zip, insQ_some, asgFQ_eq, x_setFlds0, x_setFlds1, x_augA, x_augS, x_zipT, x_mulT1, x_mulT0, wp_andT, wp_orT, wp_notT, wp_iteE, wp_idx, wp_sl, wp_call, wp_callK, wp_call0, wp_globX, wp_dictA, wp_bi, wp_tup, wp_lstA, wp_dict0A, wp_meth, wp_lcA, wp_evs_nil, wp_evs_cons, wp_evo_none, wp_evo_some, wp_seq, wp_enum, wp_rng1, wp_rng2, wp_idxT, wp_varT, wp_callT, wp_callKT, wp_biT, x_truB, tsto_none, tsto_some,
  seqQ_nx, seqQ_ret, seqQ_bk, seqQ_ct, endQ_ret, endQ_nx, varQ_some, lstQ_some, dctQ_some, optQ_some, blQ_bl, inQ_int, rgQ_int, rg2Q_int,
  x_eqSS, x_eqII, x_neSS, x_neII, str_we, str_ew, decide_true, decide_false, if_true, if_false, Bool.false_eq_true, reduceIte, x_addI, x_addT, x_addS, x_subI, x_mulI, x_divI, x_modI, x_powI, x_ltI, x_leI, x_gtI, x_geI, x_is, x_isnot, x_isB, x_isNB, x_ixT, x_ixF, x_abs, x_lenT, x_lenF, x_intI, x_intB, x_max2, x_min2, x_seqT, x_seqF, x_slT, x_slFA,
  List.map_cons, List.map_nil, List.length_cons, List.length_nil, List.cons_append, List.nil_append, List.replicate_succ, List.replicate_zero, Nat.reduceSub, Nat.reduceAdd, List.set_cons_zero, List.set_cons_succ, List.getElem?_cons_zero, List.getElem?_cons_succ, Nat.add_zero, Nat.zero_add, Nat.sub_self, decide_eq_true_eq]
  exact q k s3 (V3.sub (List.Sublist.cons_cons _ (List.sublist_cons_self _ _)))
theorem steps_pair {KD : List D} (hM : M.length ≤ 1000) (V : Lv0 s0 [(mj, .lst (M.map W9.prD)), (kj, .lst KD), (f, .lst F)] s)
    (q : ∀ y17 s1, Lv0 s0 [(mj, .lst ((M ++ if near J w o = true then [pairOf J w o] else []).map W9.prD)), (kj, .lst KD), (f, .lst F)] s1 → QF (.nx [some (jnD J), some (.ob wj), some (wdD w), some (.str J.l), some (.str J.r), some (.int J.win), some (.int J.late), some (.int c), some (.ob kj), some (.ob f), some (.ob mj), some (.str w.row), some (.str w.key), some (.str w.text), some (.int w.time), some (wdD o), y16, y17]) s1) :
    wp (runs C12 b_l_steps_1 [some (jnD J), some (.ob wj), some (wdD w), some (.str J.l), some (.str J.r), some (.int J.win), some (.int J.late), some (.int c), some (.ob kj), some (.ob f), some (.ob mj), some (.str w.row), some (.str w.key), some (.str w.text), some (.int w.time), some (wdD o), y16, y17]) QF s := by
  have hbig : bigN = 16777216 := rfl
  have qn : near J w o = false → QF (.nx [some (jnD J), some (.ob wj), some (wdD w), some (.str J.l), some (.str J.r), some (.int J.win), some (.int J.late), some (.int c), some (.ob kj), some (.ob f), some (.ob mj), some (.str w.row), some (.str w.key), some (.str w.text), some (.int w.time), some (wdD o), y16, y17]) s := fun h => q y17 s (by rw [h]; simpa using V)
  have nn : ¬ (¬ o.row = w.row ∧ o.key = w.key ∧ -J.win ≤ w.time - o.time ∧ w.time - o.time ≤ J.win) → near J w o = false := fun h => by
    cases hn : near J w o with
    | false => rfl
    | true => exact (h (near_iff.mp hn)).elim
  unfold b_l_steps_1
  by_cases h1 : o.row = w.row
  · have := qn (nn fun z => z.1 h1)
    try simp only [wp_cons, wp_nil, wp_asg, wp_expr, wp_retS, wp_retN, wp_iteS, wp_pass, wp_brk, wp_cont, wp_setIx, wp_augX, wp_asgT, wp_for, wp_varX, wp_cst, wp_bin, wp_cmp, wp_cmpT, wp_chainT, wp_chain, wp_and, wp_or, wp_not, wp_iteT, wp_negX, x_negI, x_slS, x_listT, x_tupT, x_bindT, setAll_cons, setAll_nil, true_and, and_true, eq_self, big0, big1, big2, big3, big4, big5, big6, big7, big8, big9, big10, wp_fld, wp_fldT, wp_mcall, wp_mcallT, wp_make, wp_setFld, wp_augFld, wp_asgF, wp_whil, wp_zip, insQ_some, asgFQ_eq, x_setFlds0, x_setFlds1, x_augA, x_augS, x_zipT, x_mulT1, x_mulT0, wp_andT, wp_orT, wp_notT, wp_iteE, wp_idx, wp_sl, wp_call, wp_callK, wp_call0, wp_globX, wp_dictA, wp_bi, wp_tup, wp_lstA, wp_dict0A, wp_meth, wp_lcA, wp_evs_nil, wp_evs_cons, wp_evo_none, wp_evo_some, wp_seq, wp_enum, wp_rng1, wp_rng2, wp_idxT, wp_varT, wp_callT, wp_callKT, wp_biT, x_truB, tsto_none, tsto_some,
  seqQ_nx, seqQ_ret, seqQ_bk, seqQ_ct, endQ_ret, endQ_nx, varQ_some, lstQ_some, dctQ_some, optQ_some, blQ_bl, inQ_int, rgQ_int, rg2Q_int,
  x_eqSS, x_eqII, x_neSS, x_neII, str_we, str_ew, decide_true, decide_false, if_true, if_false, Bool.false_eq_true, reduceIte, x_addI, x_addT, x_addS, x_subI, x_mulI, x_divI, x_modI, x_powI, x_ltI, x_leI, x_gtI, x_geI, x_is, x_isnot, x_isB, x_isNB, x_ixT, x_ixF, x_abs, x_lenT, x_lenF, x_intI, x_intB, x_max2, x_min2, x_seqT, x_seqF, x_slT, x_slFA,
  List.map_cons, List.map_nil, List.length_cons, List.length_nil, List.cons_append, List.nil_append, List.replicate_succ, List.replicate_zero, Nat.reduceSub, Nat.reduceAdd, List.set_cons_zero, List.set_cons_succ, List.getElem?_cons_zero, List.getElem?_cons_succ, Nat.add_zero, Nat.zero_add, Nat.sub_self, decide_eq_true_eq, a4, h1, Bool.not_true]
    exact this
  by_cases h2 : o.key = w.key
  case neg =>
    have := qn (nn fun z => h2 z.2.1)
    try simp only [wp_cons, wp_nil, wp_asg, wp_expr, wp_retS, wp_retN, wp_iteS, wp_pass, wp_brk, wp_cont, wp_setIx, wp_augX, wp_asgT, wp_for, wp_varX, wp_cst, wp_bin, wp_cmp, wp_cmpT, wp_chainT, wp_chain, wp_and, wp_or, wp_not, wp_iteT, wp_negX, x_negI, x_slS, x_listT, x_tupT, x_bindT, setAll_cons, setAll_nil, true_and, and_true, eq_self, big0, big1, big2, big3, big4, big5, big6, big7, big8, big9, big10, wp_fld, wp_fldT, wp_mcall, wp_mcallT, wp_make, wp_setFld, wp_augFld, wp_asgF, wp_whil, wp_zip, insQ_some, asgFQ_eq, x_setFlds0, x_setFlds1, x_augA, x_augS, x_zipT, x_mulT1, x_mulT0, wp_andT, wp_orT, wp_notT, wp_iteE, wp_idx, wp_sl, wp_call, wp_callK, wp_call0, wp_globX, wp_dictA, wp_bi, wp_tup, wp_lstA, wp_dict0A, wp_meth, wp_lcA, wp_evs_nil, wp_evs_cons, wp_evo_none, wp_evo_some, wp_seq, wp_enum, wp_rng1, wp_rng2, wp_idxT, wp_varT, wp_callT, wp_callKT, wp_biT, x_truB, tsto_none, tsto_some,
  seqQ_nx, seqQ_ret, seqQ_bk, seqQ_ct, endQ_ret, endQ_nx, varQ_some, lstQ_some, dctQ_some, optQ_some, blQ_bl, inQ_int, rgQ_int, rg2Q_int,
  x_eqSS, x_eqII, x_neSS, x_neII, str_we, str_ew, decide_true, decide_false, if_true, if_false, Bool.false_eq_true, reduceIte, x_addI, x_addT, x_addS, x_subI, x_mulI, x_divI, x_modI, x_powI, x_ltI, x_leI, x_gtI, x_geI, x_is, x_isnot, x_isB, x_isNB, x_ixT, x_ixF, x_abs, x_lenT, x_lenF, x_intI, x_intB, x_max2, x_min2, x_seqT, x_seqF, x_slT, x_slFA,
  List.map_cons, List.map_nil, List.length_cons, List.length_nil, List.cons_append, List.nil_append, List.replicate_succ, List.replicate_zero, Nat.reduceSub, Nat.reduceAdd, List.set_cons_zero, List.set_cons_succ, List.getElem?_cons_zero, List.getElem?_cons_succ, Nat.add_zero, Nat.zero_add, Nat.sub_self, decide_eq_true_eq, a4, h1, h2, Bool.not_false]
    exact this
  by_cases h3 : -J.win ≤ w.time - o.time
  case neg =>
    have := qn (nn fun z => h3 z.2.2.1)
    try simp only [wp_cons, wp_nil, wp_asg, wp_expr, wp_retS, wp_retN, wp_iteS, wp_pass, wp_brk, wp_cont, wp_setIx, wp_augX, wp_asgT, wp_for, wp_varX, wp_cst, wp_bin, wp_cmp, wp_cmpT, wp_chainT, wp_chain, wp_and, wp_or, wp_not, wp_iteT, wp_negX, x_negI, x_slS, x_listT, x_tupT, x_bindT, setAll_cons, setAll_nil, true_and, and_true, eq_self, big0, big1, big2, big3, big4, big5, big6, big7, big8, big9, big10, wp_fld, wp_fldT, wp_mcall, wp_mcallT, wp_make, wp_setFld, wp_augFld, wp_asgF, wp_whil, wp_zip, insQ_some, asgFQ_eq, x_setFlds0, x_setFlds1, x_augA, x_augS, x_zipT, x_mulT1, x_mulT0, wp_andT, wp_orT, wp_notT, wp_iteE, wp_idx, wp_sl, wp_call, wp_callK, wp_call0, wp_globX, wp_dictA, wp_bi, wp_tup, wp_lstA, wp_dict0A, wp_meth, wp_lcA, wp_evs_nil, wp_evs_cons, wp_evo_none, wp_evo_some, wp_seq, wp_enum, wp_rng1, wp_rng2, wp_idxT, wp_varT, wp_callT, wp_callKT, wp_biT, x_truB, tsto_none, tsto_some,
  seqQ_nx, seqQ_ret, seqQ_bk, seqQ_ct, endQ_ret, endQ_nx, varQ_some, lstQ_some, dctQ_some, optQ_some, blQ_bl, inQ_int, rgQ_int, rg2Q_int,
  x_eqSS, x_eqII, x_neSS, x_neII, str_we, str_ew, decide_true, decide_false, if_true, if_false, Bool.false_eq_true, reduceIte, x_addI, x_addT, x_addS, x_subI, x_mulI, x_divI, x_modI, x_powI, x_ltI, x_leI, x_gtI, x_geI, x_is, x_isnot, x_isB, x_isNB, x_ixT, x_ixF, x_abs, x_lenT, x_lenF, x_intI, x_intB, x_max2, x_min2, x_seqT, x_seqF, x_slT, x_slFA,
  List.map_cons, List.map_nil, List.length_cons, List.length_nil, List.cons_append, List.nil_append, List.replicate_succ, List.replicate_zero, Nat.reduceSub, Nat.reduceAdd, List.set_cons_zero, List.set_cons_succ, List.getElem?_cons_zero, List.getElem?_cons_succ, Nat.add_zero, Nat.zero_add, Nat.sub_self, decide_eq_true_eq, a4, h1, h2, h3, Bool.not_false]
    exact this
  by_cases h4 : w.time - o.time ≤ J.win
  case neg =>
    have := qn (nn fun z => h4 z.2.2.2)
    try simp only [wp_cons, wp_nil, wp_asg, wp_expr, wp_retS, wp_retN, wp_iteS, wp_pass, wp_brk, wp_cont, wp_setIx, wp_augX, wp_asgT, wp_for, wp_varX, wp_cst, wp_bin, wp_cmp, wp_cmpT, wp_chainT, wp_chain, wp_and, wp_or, wp_not, wp_iteT, wp_negX, x_negI, x_slS, x_listT, x_tupT, x_bindT, setAll_cons, setAll_nil, true_and, and_true, eq_self, big0, big1, big2, big3, big4, big5, big6, big7, big8, big9, big10, wp_fld, wp_fldT, wp_mcall, wp_mcallT, wp_make, wp_setFld, wp_augFld, wp_asgF, wp_whil, wp_zip, insQ_some, asgFQ_eq, x_setFlds0, x_setFlds1, x_augA, x_augS, x_zipT, x_mulT1, x_mulT0, wp_andT, wp_orT, wp_notT, wp_iteE, wp_idx, wp_sl, wp_call, wp_callK, wp_call0, wp_globX, wp_dictA, wp_bi, wp_tup, wp_lstA, wp_dict0A, wp_meth, wp_lcA, wp_evs_nil, wp_evs_cons, wp_evo_none, wp_evo_some, wp_seq, wp_enum, wp_rng1, wp_rng2, wp_idxT, wp_varT, wp_callT, wp_callKT, wp_biT, x_truB, tsto_none, tsto_some,
  seqQ_nx, seqQ_ret, seqQ_bk, seqQ_ct, endQ_ret, endQ_nx, varQ_some, lstQ_some, dctQ_some, optQ_some, blQ_bl, inQ_int, rgQ_int, rg2Q_int,
  x_eqSS, x_eqII, x_neSS, x_neII, str_we, str_ew, decide_true, decide_false, if_true, if_false, Bool.false_eq_true, reduceIte, x_addI, x_addT, x_addS, x_subI, x_mulI, x_divI, x_modI, x_powI, x_ltI, x_leI, x_gtI, x_geI, x_is, x_isnot, x_isB, x_isNB, x_ixT, x_ixF, x_abs, x_lenT, x_lenF, x_intI, x_intB, x_max2, x_min2, x_seqT, x_seqF, x_slT, x_slFA,
  List.map_cons, List.map_nil, List.length_cons, List.length_nil, List.cons_append, List.nil_append, List.replicate_succ, List.replicate_zero, Nat.reduceSub, Nat.reduceAdd, List.set_cons_zero, List.set_cons_succ, List.getElem?_cons_zero, List.getElem?_cons_succ, Nat.add_zero, Nat.zero_add, Nat.sub_self, decide_eq_true_eq, a4, h1, h2, h3, h4, Bool.not_false]
    exact this
  have hn : near J w o = true := near_iff.mpr ⟨h1, h2, h3, h4⟩
  rw [hn] at q
  simp only [if_true, List.map_append, List.map_cons, List.map_nil] at q
  unfold pairOf at q
  by_cases hr : w.row = J.l
  · rw [if_pos hr] at q
    try simp only [wp_cons, wp_nil, wp_asg, wp_expr, wp_retS, wp_retN, wp_iteS, wp_pass, wp_brk, wp_cont, wp_setIx, wp_augX, wp_asgT, wp_for, wp_varX, wp_cst, wp_bin, wp_cmp, wp_cmpT, wp_chainT, wp_chain, wp_and, wp_or, wp_not, wp_iteT, wp_negX, x_negI, x_slS, x_listT, x_tupT, x_bindT, setAll_cons, setAll_nil, true_and, and_true, eq_self, big0, big1, big2, big3, big4, big5, big6, big7, big8, big9, big10, wp_fld, wp_fldT, wp_mcall, wp_mcallT, wp_make, wp_setFld, wp_augFld, wp_asgF, wp_whil, wp_zip, insQ_some, asgFQ_eq, x_setFlds0, x_setFlds1, x_augA, x_augS, x_zipT, x_mulT1, x_mulT0, wp_andT, wp_orT, wp_notT, wp_iteE, wp_idx, wp_sl, wp_call, wp_callK, wp_call0, wp_globX, wp_dictA, wp_bi, wp_tup, wp_lstA, wp_dict0A, wp_meth, wp_lcA, wp_evs_nil, wp_evs_cons, wp_evo_none, wp_evo_some, wp_seq, wp_enum, wp_rng1, wp_rng2, wp_idxT, wp_varT, wp_callT, wp_callKT, wp_biT, x_truB, tsto_none, tsto_some,
  seqQ_nx, seqQ_ret, seqQ_bk, seqQ_ct, endQ_ret, endQ_nx, varQ_some, lstQ_some, dctQ_some, optQ_some, blQ_bl, inQ_int, rgQ_int, rg2Q_int,
  x_eqSS, x_eqII, x_neSS, x_neII, str_we, str_ew, decide_true, decide_false, if_true, if_false, Bool.false_eq_true, reduceIte, x_addI, x_addT, x_addS, x_subI, x_mulI, x_divI, x_modI, x_powI, x_ltI, x_leI, x_gtI, x_geI, x_is, x_isnot, x_isB, x_isNB, x_ixT, x_ixF, x_abs, x_lenT, x_lenF, x_intI, x_intB, x_max2, x_min2, x_seqT, x_seqF, x_slT, x_slFA,
  List.map_cons, List.map_nil, List.length_cons, List.length_nil, List.cons_append, List.nil_append, List.replicate_succ, List.replicate_zero, Nat.reduceSub, Nat.reduceAdd, List.set_cons_zero, List.set_cons_succ, List.getElem?_cons_zero, List.getElem?_cons_succ, Nat.add_zero, Nat.zero_add, Nat.sub_self, decide_eq_true_eq, a4, h1, h2, h3, h4, decide_eq_true hr, Bool.not_false, atI2]
    rw [imax']
    refine ⟨.list, V.tyL 0 rfl, V.append 0 rfl (by rw [List.length_map]; omega) fun s3 V3 => ?_⟩
    try simp only [wp_cons, wp_nil, wp_asg, wp_expr, wp_retS, wp_retN, wp_iteS, wp_pass, wp_brk, wp_cont, wp_setIx, wp_augX, wp_asgT, wp_for, wp_varX, wp_cst, wp_bin, wp_cmp, wp_cmpT, wp_chainT, wp_chain, wp_and, wp_or, wp_not, wp_iteT, wp_negX, x_negI, x_slS, x_listT, x_tupT, x_bindT, setAll_cons, setAll_nil, true_and, and_true, eq_self, big0, big1, big2, big3, big4, big5, big6, big7, big8, big9, big10, wp_fld, wp_fldT, wp_mcall, wp_mcallT, wp_make, wp_setFld, wp_augFld, wp_asgF, wp_whil, wp_zip, insQ_some, asgFQ_eq, x_setFlds0, x_setFlds1, x_augA, x_augS, x_zipT, x_mulT1, x_mulT0, wp_andT, wp_orT, wp_notT, wp_iteE, wp_idx, wp_sl, wp_call, wp_callK, wp_call0, wp_globX, wp_dictA, wp_bi, wp_tup, wp_lstA, wp_dict0A, wp_meth, wp_lcA, wp_evs_nil, wp_evs_cons, wp_evo_none, wp_evo_some, wp_seq, wp_enum, wp_rng1, wp_rng2, wp_idxT, wp_varT, wp_callT, wp_callKT, wp_biT, x_truB, tsto_none, tsto_some,
  seqQ_nx, seqQ_ret, seqQ_bk, seqQ_ct, endQ_ret, endQ_nx, varQ_some, lstQ_some, dctQ_some, optQ_some, blQ_bl, inQ_int, rgQ_int, rg2Q_int,
  x_eqSS, x_eqII, x_neSS, x_neII, str_we, str_ew, decide_true, decide_false, if_true, if_false, Bool.false_eq_true, reduceIte, x_addI, x_addT, x_addS, x_subI, x_mulI, x_divI, x_modI, x_powI, x_ltI, x_leI, x_gtI, x_geI, x_is, x_isnot, x_isB, x_isNB, x_ixT, x_ixF, x_abs, x_lenT, x_lenF, x_intI, x_intB, x_max2, x_min2, x_seqT, x_seqF, x_slT, x_slFA,
  List.map_cons, List.map_nil, List.length_cons, List.length_nil, List.cons_append, List.nil_append, List.replicate_succ, List.replicate_zero, Nat.reduceSub, Nat.reduceAdd, List.set_cons_zero, List.set_cons_succ, List.getElem?_cons_zero, List.getElem?_cons_succ, Nat.add_zero, Nat.zero_add, Nat.sub_self, decide_eq_true_eq]
    exact q _ s3 V3
  · rw [if_neg hr] at q
    try simp only [wp_cons, wp_nil, wp_asg, wp_expr, wp_retS, wp_retN, wp_iteS, wp_pass, wp_brk, wp_cont, wp_setIx, wp_augX, wp_asgT, wp_for, wp_varX, wp_cst, wp_bin, wp_cmp, wp_cmpT, wp_chainT, wp_chain, wp_and, wp_or, wp_not, wp_iteT, wp_negX, x_negI, x_slS, x_listT, x_tupT, x_bindT, setAll_cons, setAll_nil, true_and, and_true, eq_self, big0, big1, big2, big3, big4, big5, big6, big7, big8, big9, big10, wp_fld, wp_fldT, wp_mcall, wp_mcallT, wp_make, wp_setFld, wp_augFld, wp_asgF, wp_whil, wp_zip, insQ_some, asgFQ_eq, x_setFlds0, x_setFlds1, x_augA, x_augS, x_zipT, x_mulT1, x_mulT0, wp_andT, wp_orT, wp_notT, wp_iteE, wp_idx, wp_sl, wp_call, wp_callK, wp_call0, wp_globX, wp_dictA, wp_bi, wp_tup, wp_lstA, wp_dict0A, wp_meth, wp_lcA, wp_evs_nil, wp_evs_cons, wp_evo_none, wp_evo_some, wp_seq, wp_enum, wp_rng1, wp_rng2, wp_idxT, wp_varT, wp_callT, wp_callKT, wp_biT, x_truB, tsto_none, tsto_some,
  seqQ_nx, seqQ_ret, seqQ_bk, seqQ_ct, endQ_ret, endQ_nx, varQ_some, lstQ_some, dctQ_some, optQ_some, blQ_bl, inQ_int, rgQ_int, rg2Q_int,
  x_eqSS, x_eqII, x_neSS, x_neII, str_we, str_ew, decide_true, decide_false, if_true, if_false, Bool.false_eq_true, reduceIte, x_addI, x_addT, x_addS, x_subI, x_mulI, x_divI, x_modI, x_powI, x_ltI, x_leI, x_gtI, x_geI, x_is, x_isnot, x_isB, x_isNB, x_ixT, x_ixF, x_abs, x_lenT, x_lenF, x_intI, x_intB, x_max2, x_min2, x_seqT, x_seqF, x_slT, x_slFA,
  List.map_cons, List.map_nil, List.length_cons, List.length_nil, List.cons_append, List.nil_append, List.replicate_succ, List.replicate_zero, Nat.reduceSub, Nat.reduceAdd, List.set_cons_zero, List.set_cons_succ, List.getElem?_cons_zero, List.getElem?_cons_succ, Nat.add_zero, Nat.zero_add, Nat.sub_self, decide_eq_true_eq, a4, h1, h2, h3, h4, decide_eq_false hr, Bool.not_false, atI2]
    rw [imax']
    refine ⟨.list, V.tyL 0 rfl, V.append 0 rfl (by rw [List.length_map]; omega) fun s3 V3 => ?_⟩
    try simp only [wp_cons, wp_nil, wp_asg, wp_expr, wp_retS, wp_retN, wp_iteS, wp_pass, wp_brk, wp_cont, wp_setIx, wp_augX, wp_asgT, wp_for, wp_varX, wp_cst, wp_bin, wp_cmp, wp_cmpT, wp_chainT, wp_chain, wp_and, wp_or, wp_not, wp_iteT, wp_negX, x_negI, x_slS, x_listT, x_tupT, x_bindT, setAll_cons, setAll_nil, true_and, and_true, eq_self, big0, big1, big2, big3, big4, big5, big6, big7, big8, big9, big10, wp_fld, wp_fldT, wp_mcall, wp_mcallT, wp_make, wp_setFld, wp_augFld, wp_asgF, wp_whil, wp_zip, insQ_some, asgFQ_eq, x_setFlds0, x_setFlds1, x_augA, x_augS, x_zipT, x_mulT1, x_mulT0, wp_andT, wp_orT, wp_notT, wp_iteE, wp_idx, wp_sl, wp_call, wp_callK, wp_call0, wp_globX, wp_dictA, wp_bi, wp_tup, wp_lstA, wp_dict0A, wp_meth, wp_lcA, wp_evs_nil, wp_evs_cons, wp_evo_none, wp_evo_some, wp_seq, wp_enum, wp_rng1, wp_rng2, wp_idxT, wp_varT, wp_callT, wp_callKT, wp_biT, x_truB, tsto_none, tsto_some,
  seqQ_nx, seqQ_ret, seqQ_bk, seqQ_ct, endQ_ret, endQ_nx, varQ_some, lstQ_some, dctQ_some, optQ_some, blQ_bl, inQ_int, rgQ_int, rg2Q_int,
  x_eqSS, x_eqII, x_neSS, x_neII, str_we, str_ew, decide_true, decide_false, if_true, if_false, Bool.false_eq_true, reduceIte, x_addI, x_addT, x_addS, x_subI, x_mulI, x_divI, x_modI, x_powI, x_ltI, x_leI, x_gtI, x_geI, x_is, x_isnot, x_isB, x_isNB, x_ixT, x_ixF, x_abs, x_lenT, x_lenF, x_intI, x_intB, x_max2, x_min2, x_seqT, x_seqF, x_slT, x_slFA,
  List.map_cons, List.map_nil, List.length_cons, List.length_nil, List.cons_append, List.nil_append, List.replicate_succ, List.replicate_zero, Nat.reduceSub, Nat.reduceAdd, List.set_cons_zero, List.set_cons_succ, List.getElem?_cons_zero, List.getElem?_cons_succ, Nat.add_zero, Nat.zero_add, Nat.sub_self, decide_eq_true_eq]
    exact q _ s3 V3
end
end K37

/-! K37b: the steps whole, going on -/
namespace K37
open PySem L2 W9
section
variable {J : Jn} {s0 s : Store} {wj : Nat} {ws : List Wd}
theorem steps_body {P : List Wd} {w : Wd} {kj f : Nat} {y10 y11 y12 y13 y14 y15 y16 y17 : Option D} {QF : Fl → Store → Prop} (hP : P.length ≤ 200)
    (V : Lv0 s0 [(kj, .lst ((jheld J (jrun J P)).map wdD)), (f, .lst (duesD (zd J js0 P)))] s)
    (q : ∀ kj' y10 y11 y12 y13 y14 y15 y16 y17 s1, Lv0 s0 [(kj', .lst ((jheld J (jrun J (P ++ [w]))).map wdD)), (f, .lst (duesD (zd J js0 (P ++ [w]))))] s1 → QF (.nx [some (jnD J), some (.ob wj), some (wdD w), some (.str J.l), some (.str J.r), some (.int J.win), some (.int J.late), some (.int (jrun J (P ++ [w])).clock), some (.ob kj'), some (.ob f), y10, y11, y12, y13, y14, y15, y16, y17]) s1) :
    wp (runs C12 b_l_steps_2 [some (jnD J), some (.ob wj), some (wdD w), some (.str J.l), some (.str J.r), some (.int J.win), some (.int J.late), some (.int (jrun J P).clock), some (.ob kj), some (.ob f), y10, y11, y12, y13, y14, y15, y16, y17]) QF s := by
  have hbig : bigN = 16777216 := rfl
  have hhl := held_len (J := J) P
  have hzl := zd_len (J := J) P js0
  have hdl : (duesD (zd J js0 P)).length ≤ 1000 := by rw [List.length_map]; omega
  have hsn : duesD (zd J js0 (P ++ [w])) = duesD (zd J js0 P) ++ [duD (due J (jrun J P) w)] := by rw [zd_snoc]; simp [duesD]
  have hmd := step_made (J := J) (s := jrun J P) (w := w)
  have hlh := law_held (J := J) (s := jrun J P) (w := w)
  rw [hsn, jrun_snoc] at q
  have hdue : due J (jrun J P) w = ⟨kMade J (jrun J P).clock (jheld J (jrun J P)) w, max (jrun J P).clock w.time, jheld J (jstep J (jrun J P) w)⟩ := by
    rw [hmd]; rfl
  rw [hdue] at q
  have hck : (jstep J (jrun J P) w).clock = max (jrun J P).clock w.time := rfl
  rw [hck] at q
  generalize jrun J P = js at *
  show wp (runs C12 (.cons (.asgT [11, 12, 13, 14] (.var 2))
    (.cons (.asg 10 (.lst .nil))
    (.cons (.ite (.cmp .GtE (.bin .Add (.var 14) (.var 6)) (.var 7))
    (.cons (.forS (.seq (.var 8)) (.name 15) b_l_steps_1)
    (.cons (.asg 8 (.bin .Add (.var 8) (.lst (.cons (.var 2) .nil))))
    .nil))
    .nil) steps_t))) _) _ _
  try simp only [wp_cons, wp_nil, wp_asg, wp_expr, wp_retS, wp_retN, wp_iteS, wp_pass, wp_brk, wp_cont, wp_setIx, wp_augX, wp_asgT, wp_for, wp_varX, wp_cst, wp_bin, wp_cmp, wp_cmpT, wp_chainT, wp_chain, wp_and, wp_or, wp_not, wp_iteT, wp_negX, x_negI, x_slS, x_listT, x_tupT, x_bindT, setAll_cons, setAll_nil, true_and, and_true, eq_self, big0, big1, big2, big3, big4, big5, big6, big7, big8, big9, big10, wp_fld, wp_fldT, wp_mcall, wp_mcallT, wp_make, wp_setFld, wp_augFld, wp_asgF, wp_whil, wp_zip, insQ_some, asgFQ_eq, x_setFlds0, x_setFlds1, x_augA, x_augS, x_zipT, x_mulT1, x_mulT0, wp_andT, wp_orT, wp_notT, wp_iteE, wp_idx, wp_sl, wp_call, wp_callK, wp_call0, wp_globX, wp_dictA, wp_bi, wp_tup, wp_lstA, wp_dict0A, wp_meth, wp_lcA, wp_evs_nil, wp_evs_cons, wp_evo_none, wp_evo_some, wp_seq, wp_enum, wp_rng1, wp_rng2, wp_idxT, wp_varT, wp_callT, wp_callKT, wp_biT, x_truB, tsto_none, tsto_some,
  seqQ_nx, seqQ_ret, seqQ_bk, seqQ_ct, endQ_ret, endQ_nx, varQ_some, lstQ_some, dctQ_some, optQ_some, blQ_bl, inQ_int, rgQ_int, rg2Q_int,
  x_eqSS, x_eqII, x_neSS, x_neII, str_we, str_ew, decide_true, decide_false, if_true, if_false, Bool.false_eq_true, reduceIte, x_addI, x_addT, x_addS, x_subI, x_mulI, x_divI, x_modI, x_powI, x_ltI, x_leI, x_gtI, x_geI, x_is, x_isnot, x_isB, x_isNB, x_ixT, x_ixF, x_abs, x_lenT, x_lenF, x_intI, x_intB, x_max2, x_min2, x_seqT, x_seqF, x_slT, x_slFA,
  List.map_cons, List.map_nil, List.length_cons, List.length_nil, List.cons_append, List.nil_append, List.replicate_succ, List.replicate_zero, Nat.reduceSub, Nat.reduceAdd, List.set_cons_zero, List.set_cons_succ, List.getElem?_cons_zero, List.getElem?_cons_succ, Nat.add_zero, Nat.zero_add, Nat.sub_self, decide_eq_true_eq, ge_iff_le]
  refine V.alloc fun mj s1 V1 => ?_
  by_cases hlt : isLate J js.clock w.time = true
  · have hc : ¬ (js.clock ≤ w.time + J.late) := by have := of_decide_eq_true hlt; omega
    rw [if_pos hlt] at hlh
    simp only [decide_eq_false hc, if_neg hc, Bool.false_eq_true, if_false]
    have hm0 : kMade J js.clock (jheld J js) w = [] := by unfold kMade; rw [if_pos hlt]
    rw [hm0] at q
    have := steps_tail (wj := wj) (c := js.clock) (w := w) (J := J) (M := []) (y15 := y15) (y16 := y16) (y17 := y17) (QF := QF) (K := jheld J js) (by omega) hdl (V1.sub (List.Sublist.cons_cons _ (List.sublist_cons_self _ _))) (V1.get 1 rfl) (fun kj' s2 V2 => by rw [hlh] at V2; exact q kj' _ _ _ _ _ _ _ _ s2 V2)
    exact this
  · have hc : js.clock ≤ w.time + J.late := by
      have : ¬ (w.time + J.late < js.clock) := fun z => hlt (decide_eq_true z)
      omega
    rw [if_neg hlt] at hlh
    simp only [decide_eq_true hc, if_pos hc, if_true]
    have hm1 : kMade J js.clock (jheld J js) w = ((jheld J js).filter (near J w)).map (pairOf J w) := by unfold kMade; rw [if_neg hlt]
    rw [hm1] at q
    rw [x_seqL (V1.get 1 rfl)]
    refine loopF_nx (gd := [(kj, (jheld J js).map wdD)]) wdD (jheld J js) (fun Ph env s' => ∃ y15 y17, env = [some (jnD J), some (.ob wj), some (wdD w), some (.str J.l), some (.str J.r), some (.int J.win), some (.int J.late), some (.int js.clock), some (.ob kj), some (.ob f), some (.ob mj), some (.str w.row), some (.str w.key), some (.str w.text), some (.int w.time), y15, y16, y17] ∧ Lv0 s0 [(mj, .lst (((Ph.filter (near J w)).map (pairOf J w)).map W9.prD)), (kj, .lst ((jheld J js).map wdD)), (f, .lst (duesD (zd J js0 P)))] s') ?_ ?_ ⟨_, _, rfl, V1⟩
    · rintro Ph o R env s' hL ⟨y15, y17, rfl, V⟩
      refine ⟨gd_lst (V.get 1 rfl), ?_⟩
      rw [wp_forF (env1 := [some (jnD J), some (.ob wj), some (wdD w), some (.str J.l), some (.str J.r), some (.int J.win), some (.int J.late), some (.int js.clock), some (.ob kj), some (.ob f), some (.ob mj), some (.str w.row), some (.str w.key), some (.str w.text), some (.int w.time), some (wdD o), y16, y17]) rfl]
      have hPl : Ph.length ≤ (jheld J js).length := by rw [hL]; simp
      have hfl : (Ph.filter (near J w)).length ≤ Ph.length := List.length_filter_le _ _
      refine steps_pair (by rw [List.length_map]; omega) V fun z17 s2 V2 => ⟨_, rfl, _, _, rfl, ?_⟩
      have e : ((Ph ++ [o]).filter (near J w)).map (pairOf J w) = (Ph.filter (near J w)).map (pairOf J w) ++ (if near J w o = true then [pairOf J w o] else []) := by
        rw [List.filter_append, List.map_append]
        congr 1
        cases hn : near J w o <;> simp [hn]
      rw [e]
      exact V2
    · rintro env s' ⟨y15, y17, rfl, V⟩
      refine ⟨gd_lst (V.get 1 rfl), ?_⟩
      try simp only [wp_cons, wp_nil, wp_asg, wp_expr, wp_retS, wp_retN, wp_iteS, wp_pass, wp_brk, wp_cont, wp_setIx, wp_augX, wp_asgT, wp_for, wp_varX, wp_cst, wp_bin, wp_cmp, wp_cmpT, wp_chainT, wp_chain, wp_and, wp_or, wp_not, wp_iteT, wp_negX, x_negI, x_slS, x_listT, x_tupT, x_bindT, setAll_cons, setAll_nil, true_and, and_true, eq_self, big0, big1, big2, big3, big4, big5, big6, big7, big8, big9, big10, wp_fld, wp_fldT, wp_mcall, wp_mcallT, wp_make, wp_setFld, wp_augFld, wp_asgF, wp_whil, wp_zip, insQ_some, asgFQ_eq, x_setFlds0, x_setFlds1, x_augA, x_augS, x_zipT, x_mulT1, x_mulT0, wp_andT, wp_orT, wp_notT, wp_iteE, wp_idx, wp_sl, wp_call, wp_callK, wp_call0, wp_globX, wp_dictA, wp_bi, wp_tup, wp_lstA, wp_dict0A, wp_meth, wp_lcA, wp_evs_nil, wp_evs_cons, wp_evo_none, wp_evo_some, wp_seq, wp_enum, wp_rng1, wp_rng2, wp_idxT, wp_varT, wp_callT, wp_callKT, wp_biT, x_truB, tsto_none, tsto_some,
  seqQ_nx, seqQ_ret, seqQ_bk, seqQ_ct, endQ_ret, endQ_nx, varQ_some, lstQ_some, dctQ_some, optQ_some, blQ_bl, inQ_int, rgQ_int, rg2Q_int,
  x_eqSS, x_eqII, x_neSS, x_neII, str_we, str_ew, decide_true, decide_false, if_true, if_false, Bool.false_eq_true, reduceIte, x_addI, x_addT, x_addS, x_subI, x_mulI, x_divI, x_modI, x_powI, x_ltI, x_leI, x_gtI, x_geI, x_is, x_isnot, x_isB, x_isNB, x_ixT, x_ixF, x_abs, x_lenT, x_lenF, x_intI, x_intB, x_max2, x_min2, x_seqT, x_seqF, x_slT, x_slFA,
  List.map_cons, List.map_nil, List.length_cons, List.length_nil, List.cons_append, List.nil_append, List.replicate_succ, List.replicate_zero, Nat.reduceSub, Nat.reduceAdd, List.set_cons_zero, List.set_cons_succ, List.getElem?_cons_zero, List.getElem?_cons_succ, Nat.add_zero, Nat.zero_add, Nat.sub_self, decide_eq_true_eq]
      refine V.alloc fun k2 s2 V2 => V2.addL (V2.get 2 rfl) (V2.get 0 rfl) (by simp only [List.length_map, List.length_cons, List.length_nil]; omega) fun k3 s3 V3 => ?_
      try simp only [wp_cons, wp_nil, wp_asg, wp_expr, wp_retS, wp_retN, wp_iteS, wp_pass, wp_brk, wp_cont, wp_setIx, wp_augX, wp_asgT, wp_for, wp_varX, wp_cst, wp_bin, wp_cmp, wp_cmpT, wp_chainT, wp_chain, wp_and, wp_or, wp_not, wp_iteT, wp_negX, x_negI, x_slS, x_listT, x_tupT, x_bindT, setAll_cons, setAll_nil, true_and, and_true, eq_self, big0, big1, big2, big3, big4, big5, big6, big7, big8, big9, big10, wp_fld, wp_fldT, wp_mcall, wp_mcallT, wp_make, wp_setFld, wp_augFld, wp_asgF, wp_whil, wp_zip, insQ_some, asgFQ_eq, x_setFlds0, x_setFlds1, x_augA, x_augS, x_zipT, x_mulT1, x_mulT0, wp_andT, wp_orT, wp_notT, wp_iteE, wp_idx, wp_sl, wp_call, wp_callK, wp_call0, wp_globX, wp_dictA, wp_bi, wp_tup, wp_lstA, wp_dict0A, wp_meth, wp_lcA, wp_evs_nil, wp_evs_cons, wp_evo_none, wp_evo_some, wp_seq, wp_enum, wp_rng1, wp_rng2, wp_idxT, wp_varT, wp_callT, wp_callKT, wp_biT, x_truB, tsto_none, tsto_some,
  seqQ_nx, seqQ_ret, seqQ_bk, seqQ_ct, endQ_ret, endQ_nx, varQ_some, lstQ_some, dctQ_some, optQ_some, blQ_bl, inQ_int, rgQ_int, rg2Q_int,
  x_eqSS, x_eqII, x_neSS, x_neII, str_we, str_ew, decide_true, decide_false, if_true, if_false, Bool.false_eq_true, reduceIte, x_addI, x_addT, x_addS, x_subI, x_mulI, x_divI, x_modI, x_powI, x_ltI, x_leI, x_gtI, x_geI, x_is, x_isnot, x_isB, x_isNB, x_ixT, x_ixF, x_abs, x_lenT, x_lenF, x_intI, x_intB, x_max2, x_min2, x_seqT, x_seqF, x_slT, x_slFA,
  List.map_cons, List.map_nil, List.length_cons, List.length_nil, List.cons_append, List.nil_append, List.replicate_succ, List.replicate_zero, Nat.reduceSub, Nat.reduceAdd, List.set_cons_zero, List.set_cons_succ, List.getElem?_cons_zero, List.getElem?_cons_succ, Nat.add_zero, Nat.zero_add, Nat.sub_self, decide_eq_true_eq]
      have h3 : s3[k3]? = some (.lst ((jheld J js ++ [w]).map wdD)) := by rw [List.map_append]; exact V3.get 0 rfl
      have V3' : Lv0 s0 [(mj, .lst ((((jheld J js).filter (near J w)).map (pairOf J w)).map W9.prD)), (f, .lst (duesD (zd J js0 P)))] s3 := V3.sub (.cons _ (.cons _ (.cons_cons _ (.cons _ (.cons_cons _ .slnil)))))
      exact steps_tail (by simp only [List.length_append, List.length_cons, List.length_nil]; omega) hdl V3' h3 (fun kj' s4 V4 => by rw [hlh] at V4; exact q kj' _ _ _ _ _ _ _ _ s4 V4)
theorem steps_wp {Q : D → Store → Prop} (hl : ws.length ≤ 200) (hwj : s[wj]? = some (.lst (ws.map wdD))) (q : ∀ k s1, Kp [] s s1 → s.length ≤ k → s1[k]? = some (.lst (duesD (zd J js0 ws))) → Q (.ob k) s1) :
    wp (callDef C12 18 b_l_steps [jnD J, .ob wj]) Q s := by
  rw [wp_callDef]
  unfold b_l_steps
  try simp only [wp_cons, wp_nil, wp_asg, wp_expr, wp_retS, wp_retN, wp_iteS, wp_pass, wp_brk, wp_cont, wp_setIx, wp_augX, wp_asgT, wp_for, wp_varX, wp_cst, wp_bin, wp_cmp, wp_cmpT, wp_chainT, wp_chain, wp_and, wp_or, wp_not, wp_iteT, wp_negX, x_negI, x_slS, x_listT, x_tupT, x_bindT, setAll_cons, setAll_nil, true_and, and_true, eq_self, big0, big1, big2, big3, big4, big5, big6, big7, big8, big9, big10, wp_fld, wp_fldT, wp_mcall, wp_mcallT, wp_make, wp_setFld, wp_augFld, wp_asgF, wp_whil, wp_zip, insQ_some, asgFQ_eq, x_setFlds0, x_setFlds1, x_augA, x_augS, x_zipT, x_mulT1, x_mulT0, wp_andT, wp_orT, wp_notT, wp_iteE, wp_idx, wp_sl, wp_call, wp_callK, wp_call0, wp_globX, wp_dictA, wp_bi, wp_tup, wp_lstA, wp_dict0A, wp_meth, wp_lcA, wp_evs_nil, wp_evs_cons, wp_evo_none, wp_evo_some, wp_seq, wp_enum, wp_rng1, wp_rng2, wp_idxT, wp_varT, wp_callT, wp_callKT, wp_biT, x_truB, tsto_none, tsto_some,
  seqQ_nx, seqQ_ret, seqQ_bk, seqQ_ct, endQ_ret, endQ_nx, varQ_some, lstQ_some, dctQ_some, optQ_some, blQ_bl, inQ_int, rgQ_int, rg2Q_int,
  x_eqSS, x_eqII, x_neSS, x_neII, str_we, str_ew, decide_true, decide_false, if_true, if_false, Bool.false_eq_true, reduceIte, x_addI, x_addT, x_addS, x_subI, x_mulI, x_divI, x_modI, x_powI, x_ltI, x_leI, x_gtI, x_geI, x_is, x_isnot, x_isB, x_isNB, x_ixT, x_ixF, x_abs, x_lenT, x_lenF, x_intI, x_intB, x_max2, x_min2, x_seqT, x_seqF, x_slT, x_slFA,
  List.map_cons, List.map_nil, List.length_cons, List.length_nil, List.cons_append, List.nil_append, List.replicate_succ, List.replicate_zero, Nat.reduceSub, Nat.reduceAdd, List.set_cons_zero, List.set_cons_succ, List.getElem?_cons_zero, List.getElem?_cons_succ, Nat.add_zero, Nat.zero_add, Nat.sub_self, decide_eq_true_eq]
  refine (Lv.start0 s).alloc fun kj s1 V1 => V1.alloc fun f s2 V2 => ?_
  try simp only [wp_cons, wp_nil, wp_asg, wp_expr, wp_retS, wp_retN, wp_iteS, wp_pass, wp_brk, wp_cont, wp_setIx, wp_augX, wp_asgT, wp_for, wp_varX, wp_cst, wp_bin, wp_cmp, wp_cmpT, wp_chainT, wp_chain, wp_and, wp_or, wp_not, wp_iteT, wp_negX, x_negI, x_slS, x_listT, x_tupT, x_bindT, setAll_cons, setAll_nil, true_and, and_true, eq_self, big0, big1, big2, big3, big4, big5, big6, big7, big8, big9, big10, wp_fld, wp_fldT, wp_mcall, wp_mcallT, wp_make, wp_setFld, wp_augFld, wp_asgF, wp_whil, wp_zip, insQ_some, asgFQ_eq, x_setFlds0, x_setFlds1, x_augA, x_augS, x_zipT, x_mulT1, x_mulT0, wp_andT, wp_orT, wp_notT, wp_iteE, wp_idx, wp_sl, wp_call, wp_callK, wp_call0, wp_globX, wp_dictA, wp_bi, wp_tup, wp_lstA, wp_dict0A, wp_meth, wp_lcA, wp_evs_nil, wp_evs_cons, wp_evo_none, wp_evo_some, wp_seq, wp_enum, wp_rng1, wp_rng2, wp_idxT, wp_varT, wp_callT, wp_callKT, wp_biT, x_truB, tsto_none, tsto_some,
  seqQ_nx, seqQ_ret, seqQ_bk, seqQ_ct, endQ_ret, endQ_nx, varQ_some, lstQ_some, dctQ_some, optQ_some, blQ_bl, inQ_int, rgQ_int, rg2Q_int,
  x_eqSS, x_eqII, x_neSS, x_neII, str_we, str_ew, decide_true, decide_false, if_true, if_false, Bool.false_eq_true, reduceIte, x_addI, x_addT, x_addS, x_subI, x_mulI, x_divI, x_modI, x_powI, x_ltI, x_leI, x_gtI, x_geI, x_is, x_isnot, x_isB, x_isNB, x_ixT, x_ixF, x_abs, x_lenT, x_lenF, x_intI, x_intB, x_max2, x_min2, x_seqT, x_seqF, x_slT, x_slFA,
  List.map_cons, List.map_nil, List.length_cons, List.length_nil, List.cons_append, List.nil_append, List.replicate_succ, List.replicate_zero, Nat.reduceSub, Nat.reduceAdd, List.set_cons_zero, List.set_cons_succ, List.getElem?_cons_zero, List.getElem?_cons_succ, Nat.add_zero, Nat.zero_add, Nat.sub_self, decide_eq_true_eq]
  have V2' : Lv0 s [(kj, .lst []), (f, .lst [])] s2 := by
    obtain ⟨k1, ⟨a1, a2, a3, a4, a5⟩, k3, k4, k5, k6⟩ := V2
    refine ⟨k1, ⟨a3, fun p hp => ?_, a1, (fun _ h => nomatch h), True.intro⟩, fun p hp => ?_, k4, k5, k6⟩
    · rw [List.mem_singleton.mp hp]
      exact Ne.symm (a2 (kj, _) List.mem_cons_self)
    · simp only [List.mem_cons, List.not_mem_nil, or_false] at hp
      rcases hp with rfl | rfl
      · exact k3 (kj, _) (by simp)
      · exact k3 (f, _) (by simp)
  have keep : ∀ {L : List (Nat × Ob)} {s1 : Store}, Lv0 s L s1 → s1[wj]? = some (.lst (ws.map wdD)) := fun V => V.kp.at' _ _ (by simp) hwj
  rw [x_seqL (keep V2')]
  refine loopF_nx (gd := [(wj, ws.map wdD)]) wdD ws (fun P env s' => ∃ kj y2 y10 y11 y12 y13 y14 y15 y16 y17, env = [some (jnD J), some (.ob wj), y2, some (.str J.l), some (.str J.r), some (.int J.win), some (.int J.late), some (.int (jrun J P).clock), some (.ob kj), some (.ob f), y10, y11, y12, y13, y14, y15, y16, y17] ∧ Lv0 s [(kj, .lst ((jheld J (jrun J P)).map wdD)), (f, .lst (duesD (zd J js0 P)))] s') ?_ ?_ ⟨kj, _, _, _, _, _, _, _, _, _, rfl, V2'⟩
  · rintro P w R env s' hL ⟨kj, y2, y10, y11, y12, y13, y14, y15, y16, y17, rfl, V⟩
    refine ⟨gd_lst (keep V), ?_⟩
    have hP : P.length ≤ 200 := by rw [hL] at hl; simp at hl; omega
    rw [wp_forF (env1 := [some (jnD J), some (.ob wj), some (wdD w), some (.str J.l), some (.str J.r), some (.int J.win), some (.int J.late), some (.int (jrun J P).clock), some (.ob kj), some (.ob f), y10, y11, y12, y13, y14, y15, y16, y17]) rfl]
    exact steps_body hP V fun kj' z10 z11 z12 z13 z14 z15 z16 z17 s1 V1 => ⟨_, rfl, kj', _, _, _, _, _, _, _, _, _, rfl, V1⟩
  · rintro env s' ⟨kj, y2, y10, y11, y12, y13, y14, y15, y16, y17, rfl, V⟩
    refine ⟨gd_lst (keep V), ?_⟩
    try simp only [wp_cons, wp_nil, wp_asg, wp_expr, wp_retS, wp_retN, wp_iteS, wp_pass, wp_brk, wp_cont, wp_setIx, wp_augX, wp_asgT, wp_for, wp_varX, wp_cst, wp_bin, wp_cmp, wp_cmpT, wp_chainT, wp_chain, wp_and, wp_or, wp_not, wp_iteT, wp_negX, x_negI, x_slS, x_listT, x_tupT, x_bindT, setAll_cons, setAll_nil, true_and, and_true, eq_self, big0, big1, big2, big3, big4, big5, big6, big7, big8, big9, big10, wp_fld, wp_fldT, wp_mcall, wp_mcallT, wp_make, wp_setFld, wp_augFld, wp_asgF, wp_whil, wp_zip, insQ_some, asgFQ_eq, x_setFlds0, x_setFlds1, x_augA, x_augS, x_zipT, x_mulT1, x_mulT0, wp_andT, wp_orT, wp_notT, wp_iteE, wp_idx, wp_sl, wp_call, wp_callK, wp_call0, wp_globX, wp_dictA, wp_bi, wp_tup, wp_lstA, wp_dict0A, wp_meth, wp_lcA, wp_evs_nil, wp_evs_cons, wp_evo_none, wp_evo_some, wp_seq, wp_enum, wp_rng1, wp_rng2, wp_idxT, wp_varT, wp_callT, wp_callKT, wp_biT, x_truB, tsto_none, tsto_some,
  seqQ_nx, seqQ_ret, seqQ_bk, seqQ_ct, endQ_ret, endQ_nx, varQ_some, lstQ_some, dctQ_some, optQ_some, blQ_bl, inQ_int, rgQ_int, rg2Q_int,
  x_eqSS, x_eqII, x_neSS, x_neII, str_we, str_ew, decide_true, decide_false, if_true, if_false, Bool.false_eq_true, reduceIte, x_addI, x_addT, x_addS, x_subI, x_mulI, x_divI, x_modI, x_powI, x_ltI, x_leI, x_gtI, x_geI, x_is, x_isnot, x_isB, x_isNB, x_ixT, x_ixF, x_abs, x_lenT, x_lenF, x_intI, x_intB, x_max2, x_min2, x_seqT, x_seqF, x_slT, x_slFA,
  List.map_cons, List.map_nil, List.length_cons, List.length_nil, List.cons_append, List.nil_append, List.replicate_succ, List.replicate_zero, Nat.reduceSub, Nat.reduceAdd, List.set_cons_zero, List.set_cons_succ, List.getElem?_cons_zero, List.getElem?_cons_succ, Nat.add_zero, Nat.zero_add, Nat.sub_self, decide_eq_true_eq]
    exact q f s' V.kp (V.fr (f, .lst (duesD (zd J js0 ws))) (by simp)) (V.get 1 rfl)
end
end K37

/-! K37c: going on -/
namespace W9
open PySem L2
theorem Lv.jtake {C : Cts} {s0 s : Store} {ks : List Nat} {P : Store → Prop} {L : List (Nat × Ob)} {J : Jn} {js : JS} {w : Wd} {j : Nat} {Q : D → Store → Prop} (V : Lv s0 ks P L s) (hC : JnrC C) (hl0 : 0 ≤ J.late) (k : Nat) (hk : L[k]? = some (j, jnrO J js.clock (jheld J js))) (hl : (jheld J js).length ≤ 1000)
    (q : ∀ s1, Lv s0 ks P (L.set k (j, jnrO J (jstep J js w).clock (jheld J (jstep J js w)))) s1 → Q (.tup ((jmade J js.clock js.kept w).map prD)) s1) : wp (callDef C 10 jtake_b [.ob j, .str w.row, .str w.key, .str w.text, .int w.time]) Q s :=
  jtake_wp hC hl (V.get k hk) fun s1 K g => by
    rw [step_clock hl0, step_held hl0] at g
    rw [step_made]
    exact q s1 (V.upd k hk K g)
end W9
namespace K37
open PySem L2 W9
abbrev stO (J : Jn) (js : JS) : Ob := jnrO J js.clock (jheld J js)
abbrev zpD (x : Wd × Du) : D := .tup [wdD x.1, duD x.2]
section
variable {J : Jn} {s0 s : Store} {wj dj : Nat} {ws : List Wd}
theorem goes_body {A : List Wd} {w : Wd} {x3 x4 x6 : Option D} {jl : Nat} {ks : List Nat} {Pr' : Store → Prop} {L : List (Nat × Ob)} {k : Nat} {QF : Fl → Store → Prop} (hJ : JnOk J) (hw : ∀ w ∈ A, WdOk w) (hl : A.length ≤ 200) (hwd : WdOk w) (V : Lv s0 ks Pr' L s) (hk : L[k]? = some (jl, stO J (jrun J A)))
    (q : ∀ s1, Lv s0 ks Pr' (L.set k (jl, stO J (jrun J (A ++ [w])))) s1 → QF (.nx [some (jnD J), some (.ob wj), some (.ob dj), x3, x4, some (wdD w), x6, some (.ob jl), some (duD (due J (jrun J A) w))]) s1) :
    wp (runs C11 b_l_goes_on_1 [some (jnD J), some (.ob wj), some (.ob dj), x3, x4, some (wdD w), x6, some (.ob jl), some (duD (due J (jrun J A) w))]) QF s := by
  have hw' : ∀ v ∈ A ++ [w], WdOk v := fun v hv => by
    rcases List.mem_append.mp hv with hv | hv
    · exact hw v hv
    · rw [List.mem_singleton.mp hv]; exact hwd
  have sm := made_shw (J := J) hw hwd (by omega)
  have sk := ck_shw (J := J) hw' (by simp; omega)
  have hhl := held_len (J := J) A
  rw [jrun_snoc] at sk q
  have e : duD (due J (jrun J A) w) = .tup [.tup ((jmade J (jrun J A).clock (jrun J A).kept w).map W9.prD), .int (jstep J (jrun J A) w).clock, .tup ((jheld J (jstep J (jrun J A) w)).map wdD)] := rfl
  rw [e] at q ⊢
  generalize jrun J A = js at *
  have h1 : s[jl]? = some (.ins "Joiner" (fs3 (jnD J) (.int js.clock) (.tup ((jheld J js).map wdD)))) := V.get k hk
  unfold b_l_goes_on_1
  try simp only [wp_cons, wp_nil, wp_asg, wp_expr, wp_retS, wp_retN, wp_iteS, wp_pass, wp_brk, wp_cont, wp_setIx, wp_augX, wp_asgT, wp_for, wp_varX, wp_cst, wp_bin, wp_cmp, wp_cmpT, wp_chainT, wp_chain, wp_and, wp_or, wp_not, wp_iteT, wp_negX, x_negI, x_slS, x_listT, x_tupT, x_bindT, setAll_cons, setAll_nil, true_and, and_true, eq_self, big0, big1, big2, big3, big4, big5, big6, big7, big8, big9, big10, wp_fld, wp_fldT, wp_mcall, wp_mcallT, wp_make, wp_setFld, wp_augFld, wp_asgF, wp_whil, wp_zip, insQ_some, asgFQ_eq, x_setFlds0, x_setFlds1, x_augA, x_augS, x_zipT, x_mulT1, x_mulT0, wp_andT, wp_orT, wp_notT, wp_iteE, wp_idx, wp_sl, wp_call, wp_callK, wp_call0, wp_globX, wp_dictA, wp_bi, wp_tup, wp_lstA, wp_dict0A, wp_meth, wp_lcA, wp_evs_nil, wp_evs_cons, wp_evo_none, wp_evo_some, wp_seq, wp_enum, wp_rng1, wp_rng2, wp_idxT, wp_varT, wp_callT, wp_callKT, wp_biT, x_truB, tsto_none, tsto_some,
  seqQ_nx, seqQ_ret, seqQ_bk, seqQ_ct, endQ_ret, endQ_nx, varQ_some, lstQ_some, dctQ_some, optQ_some, blQ_bl, inQ_int, rgQ_int, rg2Q_int,
  x_eqSS, x_eqII, x_neSS, x_neII, str_we, str_ew, decide_true, decide_false, if_true, if_false, Bool.false_eq_true, reduceIte, x_addI, x_addT, x_addS, x_subI, x_mulI, x_divI, x_modI, x_powI, x_ltI, x_leI, x_gtI, x_geI, x_is, x_isnot, x_isB, x_isNB, x_ixT, x_ixF, x_abs, x_lenT, x_lenF, x_intI, x_intB, x_max2, x_min2, x_seqT, x_seqF, x_slT, x_slFA,
  List.map_cons, List.map_nil, List.length_cons, List.length_nil, List.cons_append, List.nil_append, List.replicate_succ, List.replicate_zero, Nat.reduceSub, Nat.reduceAdd, List.set_cons_zero, List.set_cons_succ, List.getElem?_cons_zero, List.getElem?_cons_succ, Nat.add_zero, Nat.zero_add, Nat.sub_self, decide_eq_true_eq, x_ins h1, l3_take, e_take11, a4]
  refine V.jtake jC10 hJ.l0 k hk (by omega) fun s1 V1 => ?_
  have hk1 : (L.set k (jl, stO J (jstep J js w)))[k]? = some (jl, stO J (jstep J js w)) := by
    rw [List.getElem?_set_self]
    exact (List.getElem?_eq_some_iff.mp hk).1
  have h2 : s1[jl]? = some (.ins "Joiner" (fs3 (jnD J) (.int (jstep J js w).clock) (.tup ((jheld J (jstep J js w)).map wdD)))) := V1.get k hk1
  try simp only [wp_cons, wp_nil, wp_asg, wp_expr, wp_retS, wp_retN, wp_iteS, wp_pass, wp_brk, wp_cont, wp_setIx, wp_augX, wp_asgT, wp_for, wp_varX, wp_cst, wp_bin, wp_cmp, wp_cmpT, wp_chainT, wp_chain, wp_and, wp_or, wp_not, wp_iteT, wp_negX, x_negI, x_slS, x_listT, x_tupT, x_bindT, setAll_cons, setAll_nil, true_and, and_true, eq_self, big0, big1, big2, big3, big4, big5, big6, big7, big8, big9, big10, wp_fld, wp_fldT, wp_mcall, wp_mcallT, wp_make, wp_setFld, wp_augFld, wp_asgF, wp_whil, wp_zip, insQ_some, asgFQ_eq, x_setFlds0, x_setFlds1, x_augA, x_augS, x_zipT, x_mulT1, x_mulT0, wp_andT, wp_orT, wp_notT, wp_iteE, wp_idx, wp_sl, wp_call, wp_callK, wp_call0, wp_globX, wp_dictA, wp_bi, wp_tup, wp_lstA, wp_dict0A, wp_meth, wp_lcA, wp_evs_nil, wp_evs_cons, wp_evo_none, wp_evo_some, wp_seq, wp_enum, wp_rng1, wp_rng2, wp_idxT, wp_varT, wp_callT, wp_callKT, wp_biT, x_truB, tsto_none, tsto_some,
  seqQ_nx, seqQ_ret, seqQ_bk, seqQ_ct, endQ_ret, endQ_nx, varQ_some, lstQ_some, dctQ_some, optQ_some, blQ_bl, inQ_int, rgQ_int, rg2Q_int,
  x_eqSS, x_eqII, x_neSS, x_neII, str_we, str_ew, decide_true, decide_false, if_true, if_false, Bool.false_eq_true, reduceIte, x_addI, x_addT, x_addS, x_subI, x_mulI, x_divI, x_modI, x_powI, x_ltI, x_leI, x_gtI, x_geI, x_is, x_isnot, x_isB, x_isNB, x_ixT, x_ixF, x_abs, x_lenT, x_lenF, x_intI, x_intB, x_max2, x_min2, x_seqT, x_seqF, x_slT, x_slFA,
  List.map_cons, List.map_nil, List.length_cons, List.length_nil, List.cons_append, List.nil_append, List.replicate_succ, List.replicate_zero, Nat.reduceSub, Nat.reduceAdd, List.set_cons_zero, List.set_cons_succ, List.getElem?_cons_zero, List.getElem?_cons_succ, Nat.add_zero, Nat.zero_add, Nat.sub_self, decide_eq_true_eq, a3, x_neW sm sm (by decide) (by decide) rfl, sm.refl, Bool.not_true, x_ins h2, l3_clock, e_clock11, clock_wp (C := C5) jf (V1.get k hk1), l3_kept, e_kept11, kept_wp (C := C4) jf (V1.get k hk1), cut13, x_neW sk sk (by decide) (by decide) rfl, sk.refl]
  exact q s1 V1
theorem goes_wp {n : Nat} {Q : D → Store → Prop} (hJ : JnOk J) (hw : ∀ w ∈ ws, WdOk w) (hl : ws.length ≤ 200) (hn : n ≤ ws.length) (hwj : s[wj]? = some (.lst (ws.map wdD))) (hdj : s[dj]? = some (.lst (duesD (zd J js0 ws)))) (q : ∀ s1, Kp [] s s1 → Q (.bl true) s1) :
    wp (callDef C11 9 b_l_goes_on [jnD J, .ob wj, .ob dj, .int n]) Q s := by
  have keep : ∀ {L : List (Nat × Ob)} {s1 : Store}, Lv0 s L s1 → s1[wj]? = some (.lst (ws.map wdD)) := fun V => V.kp.at' _ _ (by simp) hwj
  have keepd : ∀ {L : List (Nat × Ob)} {s1 : Store}, Lv0 s L s1 → s1[dj]? = some (.lst (duesD (zd J js0 ws))) := fun V => V.kp.at' _ _ (by simp) hdj
  have cut1 : cutL (ws.map wdD) none (some (n : Int)) = (ws.take n).map wdD := by rw [cutL_take _ (by omega), ← List.map_take]; rfl
  have cut2 : cutL (ws.map wdD) (some (n : Int)) none = (ws.drop n).map wdD := by rw [cutL_drop _ (by omega), ← List.map_drop]; rfl
  have cut3 : cutL (duesD (zd J js0 ws)) (some (n : Int)) none = duesD (zd J (jrun J (ws.take n)) (ws.drop n)) := by rw [cutL_drop _ (by omega), ← List.map_drop, Int.toNat_natCast, zd_drop]
  have hht : ∀ A : List Wd, A.length ≤ 200 → (jheld J (jrun J A)).length ≤ 1000 := fun A h => by have := held_len (J := J) A; omega
  have htl : (ws.take n).length ≤ 200 := by rw [List.length_take]; omega
  rw [wp_callDef]
  unfold b_l_goes_on
  try simp only [wp_cons, wp_nil, wp_asg, wp_expr, wp_retS, wp_retN, wp_iteS, wp_pass, wp_brk, wp_cont, wp_setIx, wp_augX, wp_asgT, wp_for, wp_varX, wp_cst, wp_bin, wp_cmp, wp_cmpT, wp_chainT, wp_chain, wp_and, wp_or, wp_not, wp_iteT, wp_negX, x_negI, x_slS, x_listT, x_tupT, x_bindT, setAll_cons, setAll_nil, true_and, and_true, eq_self, big0, big1, big2, big3, big4, big5, big6, big7, big8, big9, big10, wp_fld, wp_fldT, wp_mcall, wp_mcallT, wp_make, wp_setFld, wp_augFld, wp_asgF, wp_whil, wp_zip, insQ_some, asgFQ_eq, x_setFlds0, x_setFlds1, x_augA, x_augS, x_zipT, x_mulT1, x_mulT0, wp_andT, wp_orT, wp_notT, wp_iteE, wp_idx, wp_sl, wp_call, wp_callK, wp_call0, wp_globX, wp_dictA, wp_bi, wp_tup, wp_lstA, wp_dict0A, wp_meth, wp_lcA, wp_evs_nil, wp_evs_cons, wp_evo_none, wp_evo_some, wp_seq, wp_enum, wp_rng1, wp_rng2, wp_idxT, wp_varT, wp_callT, wp_callKT, wp_biT, x_truB, tsto_none, tsto_some,
  seqQ_nx, seqQ_ret, seqQ_bk, seqQ_ct, endQ_ret, endQ_nx, varQ_some, lstQ_some, dctQ_some, optQ_some, blQ_bl, inQ_int, rgQ_int, rg2Q_int,
  x_eqSS, x_eqII, x_neSS, x_neII, str_we, str_ew, decide_true, decide_false, if_true, if_false, Bool.false_eq_true, reduceIte, x_addI, x_addT, x_addS, x_subI, x_mulI, x_divI, x_modI, x_powI, x_ltI, x_leI, x_gtI, x_geI, x_is, x_isnot, x_isB, x_isNB, x_ixT, x_ixF, x_abs, x_lenT, x_lenF, x_intI, x_intB, x_max2, x_min2, x_seqT, x_seqF, x_slT, x_slFA,
  List.map_cons, List.map_nil, List.length_cons, List.length_nil, List.cons_append, List.nil_append, List.replicate_succ, List.replicate_zero, Nat.reduceSub, Nat.reduceAdd, List.set_cons_zero, List.set_cons_succ, List.getElem?_cons_zero, List.getElem?_cons_succ, Nat.add_zero, Nat.zero_add, Nat.sub_self, decide_eq_true_eq, e_init11]
  refine (Lv.start0 s).mk' fun jo s1 V1 => init_wp (J := J) jf V1 fun s2 V2 => ⟨rfl, ?_⟩
  try simp only [wp_cons, wp_nil, wp_asg, wp_expr, wp_retS, wp_retN, wp_iteS, wp_pass, wp_brk, wp_cont, wp_setIx, wp_augX, wp_asgT, wp_for, wp_varX, wp_cst, wp_bin, wp_cmp, wp_cmpT, wp_chainT, wp_chain, wp_and, wp_or, wp_not, wp_iteT, wp_negX, x_negI, x_slS, x_listT, x_tupT, x_bindT, setAll_cons, setAll_nil, true_and, and_true, eq_self, big0, big1, big2, big3, big4, big5, big6, big7, big8, big9, big10, wp_fld, wp_fldT, wp_mcall, wp_mcallT, wp_make, wp_setFld, wp_augFld, wp_asgF, wp_whil, wp_zip, insQ_some, asgFQ_eq, x_setFlds0, x_setFlds1, x_augA, x_augS, x_zipT, x_mulT1, x_mulT0, wp_andT, wp_orT, wp_notT, wp_iteE, wp_idx, wp_sl, wp_call, wp_callK, wp_call0, wp_globX, wp_dictA, wp_bi, wp_tup, wp_lstA, wp_dict0A, wp_meth, wp_lcA, wp_evs_nil, wp_evs_cons, wp_evo_none, wp_evo_some, wp_seq, wp_enum, wp_rng1, wp_rng2, wp_idxT, wp_varT, wp_callT, wp_callKT, wp_biT, x_truB, tsto_none, tsto_some,
  seqQ_nx, seqQ_ret, seqQ_bk, seqQ_ct, endQ_ret, endQ_nx, varQ_some, lstQ_some, dctQ_some, optQ_some, blQ_bl, inQ_int, rgQ_int, rg2Q_int,
  x_eqSS, x_eqII, x_neSS, x_neII, str_we, str_ew, decide_true, decide_false, if_true, if_false, Bool.false_eq_true, reduceIte, x_addI, x_addT, x_addS, x_subI, x_mulI, x_divI, x_modI, x_powI, x_ltI, x_leI, x_gtI, x_geI, x_is, x_isnot, x_isB, x_isNB, x_ixT, x_ixF, x_abs, x_lenT, x_lenF, x_intI, x_intB, x_max2, x_min2, x_seqT, x_seqF, x_slT, x_slFA,
  List.map_cons, List.map_nil, List.length_cons, List.length_nil, List.cons_append, List.nil_append, List.replicate_succ, List.replicate_zero, Nat.reduceSub, Nat.reduceAdd, List.set_cons_zero, List.set_cons_succ, List.getElem?_cons_zero, List.getElem?_cons_succ, Nat.add_zero, Nat.zero_add, Nat.sub_self, decide_eq_true_eq]
  rw [x_slLA (keep V2), cut1]
  refine V2.alloc fun k3 s3 V3 => ?_
  rw [x_seqL (V3.get 0 rfl)]
  refine loopF_nx (gd := [(k3, (ws.take n).map wdD)]) wdD (ws.take n) (fun P env s' => ∃ y5 y6 y7 y8, env = [some (jnD J), some (.ob wj), some (.ob dj), some (.int n), some (.ob jo), y5, y6, y7, y8] ∧ Lv0 s [(k3, .lst ((ws.take n).map wdD)), (jo, stO J (jrun J P))] s') ?_ ?_ ⟨_, _, _, _, rfl, V3⟩
  · rintro P w R env s' hL ⟨y5, y6, y7, y8, rfl, V⟩
    refine ⟨gd_lst (V.get 0 rfl), ?_⟩
    rw [wp_forF (env1 := [some (jnD J), some (.ob wj), some (.ob dj), some (.int n), some (.ob jo), some (wdD w), y6, y7, y8]) rfl]
    have h1 : s'[jo]? = some (.ins "Joiner" (fs3 (jnD J) (.int (jrun J P).clock) (.tup ((jheld J (jrun J P)).map wdD)))) := V.get 1 rfl
    unfold b_l_goes_on_2
    try simp only [wp_cons, wp_nil, wp_asg, wp_expr, wp_retS, wp_retN, wp_iteS, wp_pass, wp_brk, wp_cont, wp_setIx, wp_augX, wp_asgT, wp_for, wp_varX, wp_cst, wp_bin, wp_cmp, wp_cmpT, wp_chainT, wp_chain, wp_and, wp_or, wp_not, wp_iteT, wp_negX, x_negI, x_slS, x_listT, x_tupT, x_bindT, setAll_cons, setAll_nil, true_and, and_true, eq_self, big0, big1, big2, big3, big4, big5, big6, big7, big8, big9, big10, wp_fld, wp_fldT, wp_mcall, wp_mcallT, wp_make, wp_setFld, wp_augFld, wp_asgF, wp_whil, wp_zip, insQ_some, asgFQ_eq, x_setFlds0, x_setFlds1, x_augA, x_augS, x_zipT, x_mulT1, x_mulT0, wp_andT, wp_orT, wp_notT, wp_iteE, wp_idx, wp_sl, wp_call, wp_callK, wp_call0, wp_globX, wp_dictA, wp_bi, wp_tup, wp_lstA, wp_dict0A, wp_meth, wp_lcA, wp_evs_nil, wp_evs_cons, wp_evo_none, wp_evo_some, wp_seq, wp_enum, wp_rng1, wp_rng2, wp_idxT, wp_varT, wp_callT, wp_callKT, wp_biT, x_truB, tsto_none, tsto_some,
  seqQ_nx, seqQ_ret, seqQ_bk, seqQ_ct, endQ_ret, endQ_nx, varQ_some, lstQ_some, dctQ_some, optQ_some, blQ_bl, inQ_int, rgQ_int, rg2Q_int,
  x_eqSS, x_eqII, x_neSS, x_neII, str_we, str_ew, decide_true, decide_false, if_true, if_false, Bool.false_eq_true, reduceIte, x_addI, x_addT, x_addS, x_subI, x_mulI, x_divI, x_modI, x_powI, x_ltI, x_leI, x_gtI, x_geI, x_is, x_isnot, x_isB, x_isNB, x_ixT, x_ixF, x_abs, x_lenT, x_lenF, x_intI, x_intB, x_max2, x_min2, x_seqT, x_seqF, x_slT, x_slFA,
  List.map_cons, List.map_nil, List.length_cons, List.length_nil, List.cons_append, List.nil_append, List.replicate_succ, List.replicate_zero, Nat.reduceSub, Nat.reduceAdd, List.set_cons_zero, List.set_cons_succ, List.getElem?_cons_zero, List.getElem?_cons_succ, Nat.add_zero, Nat.zero_add, Nat.sub_self, decide_eq_true_eq, x_ins h1, l3_take, e_take11, a4]
    refine V.jtake jC10 hJ.l0 1 rfl (hht P (by rw [hL] at htl; simp at htl; omega)) fun s4 V4 => ?_
    try simp only [wp_cons, wp_nil, wp_asg, wp_expr, wp_retS, wp_retN, wp_iteS, wp_pass, wp_brk, wp_cont, wp_setIx, wp_augX, wp_asgT, wp_for, wp_varX, wp_cst, wp_bin, wp_cmp, wp_cmpT, wp_chainT, wp_chain, wp_and, wp_or, wp_not, wp_iteT, wp_negX, x_negI, x_slS, x_listT, x_tupT, x_bindT, setAll_cons, setAll_nil, true_and, and_true, eq_self, big0, big1, big2, big3, big4, big5, big6, big7, big8, big9, big10, wp_fld, wp_fldT, wp_mcall, wp_mcallT, wp_make, wp_setFld, wp_augFld, wp_asgF, wp_whil, wp_zip, insQ_some, asgFQ_eq, x_setFlds0, x_setFlds1, x_augA, x_augS, x_zipT, x_mulT1, x_mulT0, wp_andT, wp_orT, wp_notT, wp_iteE, wp_idx, wp_sl, wp_call, wp_callK, wp_call0, wp_globX, wp_dictA, wp_bi, wp_tup, wp_lstA, wp_dict0A, wp_meth, wp_lcA, wp_evs_nil, wp_evs_cons, wp_evo_none, wp_evo_some, wp_seq, wp_enum, wp_rng1, wp_rng2, wp_idxT, wp_varT, wp_callT, wp_callKT, wp_biT, x_truB, tsto_none, tsto_some,
  seqQ_nx, seqQ_ret, seqQ_bk, seqQ_ct, endQ_ret, endQ_nx, varQ_some, lstQ_some, dctQ_some, optQ_some, blQ_bl, inQ_int, rgQ_int, rg2Q_int,
  x_eqSS, x_eqII, x_neSS, x_neII, str_we, str_ew, decide_true, decide_false, if_true, if_false, Bool.false_eq_true, reduceIte, x_addI, x_addT, x_addS, x_subI, x_mulI, x_divI, x_modI, x_powI, x_ltI, x_leI, x_gtI, x_geI, x_is, x_isnot, x_isB, x_isNB, x_ixT, x_ixF, x_abs, x_lenT, x_lenF, x_intI, x_intB, x_max2, x_min2, x_seqT, x_seqF, x_slT, x_slFA,
  List.map_cons, List.map_nil, List.length_cons, List.length_nil, List.cons_append, List.nil_append, List.replicate_succ, List.replicate_zero, Nat.reduceSub, Nat.reduceAdd, List.set_cons_zero, List.set_cons_succ, List.getElem?_cons_zero, List.getElem?_cons_succ, Nat.add_zero, Nat.zero_add, Nat.sub_self, decide_eq_true_eq]
    refine ⟨_, rfl, _, _, _, _, rfl, ?_⟩
    rw [jrun_snoc]
    exact V4
  · rintro env s' ⟨y5, y6, y7, y8, rfl, V⟩
    refine ⟨gd_lst (V.get 0 rfl), ?_⟩
    have h1 : s'[jo]? = some (.ins "Joiner" (fs3 (jnD J) (.int (jrun J (ws.take n)).clock) (.tup ((jheld J (jrun J (ws.take n))).map wdD)))) := V.get 1 rfl
    try simp only [wp_cons, wp_nil, wp_asg, wp_expr, wp_retS, wp_retN, wp_iteS, wp_pass, wp_brk, wp_cont, wp_setIx, wp_augX, wp_asgT, wp_for, wp_varX, wp_cst, wp_bin, wp_cmp, wp_cmpT, wp_chainT, wp_chain, wp_and, wp_or, wp_not, wp_iteT, wp_negX, x_negI, x_slS, x_listT, x_tupT, x_bindT, setAll_cons, setAll_nil, true_and, and_true, eq_self, big0, big1, big2, big3, big4, big5, big6, big7, big8, big9, big10, wp_fld, wp_fldT, wp_mcall, wp_mcallT, wp_make, wp_setFld, wp_augFld, wp_asgF, wp_whil, wp_zip, insQ_some, asgFQ_eq, x_setFlds0, x_setFlds1, x_augA, x_augS, x_zipT, x_mulT1, x_mulT0, wp_andT, wp_orT, wp_notT, wp_iteE, wp_idx, wp_sl, wp_call, wp_callK, wp_call0, wp_globX, wp_dictA, wp_bi, wp_tup, wp_lstA, wp_dict0A, wp_meth, wp_lcA, wp_evs_nil, wp_evs_cons, wp_evo_none, wp_evo_some, wp_seq, wp_enum, wp_rng1, wp_rng2, wp_idxT, wp_varT, wp_callT, wp_callKT, wp_biT, x_truB, tsto_none, tsto_some,
  seqQ_nx, seqQ_ret, seqQ_bk, seqQ_ct, endQ_ret, endQ_nx, varQ_some, lstQ_some, dctQ_some, optQ_some, blQ_bl, inQ_int, rgQ_int, rg2Q_int,
  x_eqSS, x_eqII, x_neSS, x_neII, str_we, str_ew, decide_true, decide_false, if_true, if_false, Bool.false_eq_true, reduceIte, x_addI, x_addT, x_addS, x_subI, x_mulI, x_divI, x_modI, x_powI, x_ltI, x_leI, x_gtI, x_geI, x_is, x_isnot, x_isB, x_isNB, x_ixT, x_ixF, x_abs, x_lenT, x_lenF, x_intI, x_intB, x_max2, x_min2, x_seqT, x_seqF, x_slT, x_slFA,
  List.map_cons, List.map_nil, List.length_cons, List.length_nil, List.cons_append, List.nil_append, List.replicate_succ, List.replicate_zero, Nat.reduceSub, Nat.reduceAdd, List.set_cons_zero, List.set_cons_succ, List.getElem?_cons_zero, List.getElem?_cons_succ, Nat.add_zero, Nat.zero_add, Nat.sub_self, decide_eq_true_eq, x_ins h1, l3_state, e_state11, state_wp (C := C3) jf (V.get 1 rfl), e_joiner11]
    refine joiner_wp jf jf e_init2 V fun jl s5 V5 => ?_
    try simp only [wp_cons, wp_nil, wp_asg, wp_expr, wp_retS, wp_retN, wp_iteS, wp_pass, wp_brk, wp_cont, wp_setIx, wp_augX, wp_asgT, wp_for, wp_varX, wp_cst, wp_bin, wp_cmp, wp_cmpT, wp_chainT, wp_chain, wp_and, wp_or, wp_not, wp_iteT, wp_negX, x_negI, x_slS, x_listT, x_tupT, x_bindT, setAll_cons, setAll_nil, true_and, and_true, eq_self, big0, big1, big2, big3, big4, big5, big6, big7, big8, big9, big10, wp_fld, wp_fldT, wp_mcall, wp_mcallT, wp_make, wp_setFld, wp_augFld, wp_asgF, wp_whil, wp_zip, insQ_some, asgFQ_eq, x_setFlds0, x_setFlds1, x_augA, x_augS, x_zipT, x_mulT1, x_mulT0, wp_andT, wp_orT, wp_notT, wp_iteE, wp_idx, wp_sl, wp_call, wp_callK, wp_call0, wp_globX, wp_dictA, wp_bi, wp_tup, wp_lstA, wp_dict0A, wp_meth, wp_lcA, wp_evs_nil, wp_evs_cons, wp_evo_none, wp_evo_some, wp_seq, wp_enum, wp_rng1, wp_rng2, wp_idxT, wp_varT, wp_callT, wp_callKT, wp_biT, x_truB, tsto_none, tsto_some,
  seqQ_nx, seqQ_ret, seqQ_bk, seqQ_ct, endQ_ret, endQ_nx, varQ_some, lstQ_some, dctQ_some, optQ_some, blQ_bl, inQ_int, rgQ_int, rg2Q_int,
  x_eqSS, x_eqII, x_neSS, x_neII, str_we, str_ew, decide_true, decide_false, if_true, if_false, Bool.false_eq_true, reduceIte, x_addI, x_addT, x_addS, x_subI, x_mulI, x_divI, x_modI, x_powI, x_ltI, x_leI, x_gtI, x_geI, x_is, x_isnot, x_isB, x_isNB, x_ixT, x_ixF, x_abs, x_lenT, x_lenF, x_intI, x_intB, x_max2, x_min2, x_seqT, x_seqF, x_slT, x_slFA,
  List.map_cons, List.map_nil, List.length_cons, List.length_nil, List.cons_append, List.nil_append, List.replicate_succ, List.replicate_zero, Nat.reduceSub, Nat.reduceAdd, List.set_cons_zero, List.set_cons_succ, List.getElem?_cons_zero, List.getElem?_cons_succ, Nat.add_zero, Nat.zero_add, Nat.sub_self, decide_eq_true_eq]
    rw [x_slLA (keep V5), cut2]
    refine V5.alloc fun k6 s6 V6 => ?_
    rw [x_slLA (keepd V6), cut3]
    refine V6.alloc fun k7 s7 V7 => ?_
    rw [x_zipL (V7.get 1 rfl) (V7.get 0 rfl), zd_pairs]
    have hall : ∀ P x R, zd J (jrun J (ws.take n)) (ws.drop n) = P ++ x :: R → ws = (ws.take n ++ P.map Prod.fst) ++ x.1 :: R.map Prod.fst := fun P x R h => by
      have h2 := congrArg (List.map Prod.fst) h
      rw [zd_fst, List.map_append, List.map_cons] at h2
      conv => lhs; rw [← List.take_append_drop n ws, h2]
      simp
    refine loopF_nx (gd := [(k6, (ws.drop n).map wdD), (k7, duesD (zd J (jrun J (ws.take n)) (ws.drop n)))]) zpD (zd J (jrun J (ws.take n)) (ws.drop n)) (fun P env s' => ∃ y5 y8, env = [some (jnD J), some (.ob wj), some (.ob dj), some (.int n), some (.ob jo), y5, some (.tup [.int (jrun J (ws.take n)).clock, .tup ((jheld J (jrun J (ws.take n))).map wdD)]), some (.ob jl), y8] ∧ Lv0 s [(k7, .lst (duesD (zd J (jrun J (ws.take n)) (ws.drop n)))), (k6, .lst ((ws.drop n).map wdD)), (jl, stO J (jrun J (ws.take n ++ P.map Prod.fst))), (k3, .lst ((ws.take n).map wdD)), (jo, stO J (jrun J (ws.take n)))] s') ?_ ?_ ⟨_, _, rfl, by rw [List.map_nil, List.append_nil]; exact V7⟩
    · rintro P x R env s' hL ⟨y5', y8', rfl, V⟩
      refine ⟨gd_two.mpr ⟨V.get 1 rfl, V.get 0 rfl⟩, ?_⟩
      have hws := hall P x R hL
      have hx := zd_at P (ws.drop n) _ hL
      rw [← jrun_app] at hx
      obtain ⟨w, d⟩ := x
      simp only at hx hws
      subst hx
      have hA : ∀ v ∈ ws.take n ++ P.map Prod.fst, WdOk v := fun v hv => hw v (by rw [hws]; exact List.mem_append_left _ hv)
      have hAl : (ws.take n ++ P.map Prod.fst).length ≤ 200 := by
        have := congrArg List.length hws
        rw [List.length_append] at this
        omega
      have hwd : WdOk w := hw w (by rw [hws]; simp)
      rw [wp_forF (env1 := [some (jnD J), some (.ob wj), some (.ob dj), some (.int n), some (.ob jo), some (wdD w), some (.tup [.int (jrun J (ws.take n)).clock, .tup ((jheld J (jrun J (ws.take n))).map wdD)]), some (.ob jl), some (duD (due J (jrun J (ws.take n ++ P.map Prod.fst)) w))]) rfl]
      refine goes_body hJ hA hAl hwd V (k := 2) rfl fun s8 V8 => ⟨_, rfl, _, _, rfl, ?_⟩
      rw [List.map_append, ← List.append_assoc]
      exact V8
    · rintro env s' ⟨y5', y8', rfl, V⟩
      refine ⟨gd_two.mpr ⟨V.get 1 rfl, V.get 0 rfl⟩, ?_⟩
      have h9 : s'[jo]? = some (.ins "Joiner" (fs3 (jnD J) (.int (jrun J (ws.take n)).clock) (.tup ((jheld J (jrun J (ws.take n))).map wdD)))) := V.get 4 rfl
      have sk := ck_shw (J := J) (ws := ws.take n) (fun v hv => hw v (List.mem_of_mem_take hv)) (by omega)
      try simp only [wp_cons, wp_nil, wp_asg, wp_expr, wp_retS, wp_retN, wp_iteS, wp_pass, wp_brk, wp_cont, wp_setIx, wp_augX, wp_asgT, wp_for, wp_varX, wp_cst, wp_bin, wp_cmp, wp_cmpT, wp_chainT, wp_chain, wp_and, wp_or, wp_not, wp_iteT, wp_negX, x_negI, x_slS, x_listT, x_tupT, x_bindT, setAll_cons, setAll_nil, true_and, and_true, eq_self, big0, big1, big2, big3, big4, big5, big6, big7, big8, big9, big10, wp_fld, wp_fldT, wp_mcall, wp_mcallT, wp_make, wp_setFld, wp_augFld, wp_asgF, wp_whil, wp_zip, insQ_some, asgFQ_eq, x_setFlds0, x_setFlds1, x_augA, x_augS, x_zipT, x_mulT1, x_mulT0, wp_andT, wp_orT, wp_notT, wp_iteE, wp_idx, wp_sl, wp_call, wp_callK, wp_call0, wp_globX, wp_dictA, wp_bi, wp_tup, wp_lstA, wp_dict0A, wp_meth, wp_lcA, wp_evs_nil, wp_evs_cons, wp_evo_none, wp_evo_some, wp_seq, wp_enum, wp_rng1, wp_rng2, wp_idxT, wp_varT, wp_callT, wp_callKT, wp_biT, x_truB, tsto_none, tsto_some,
  seqQ_nx, seqQ_ret, seqQ_bk, seqQ_ct, endQ_ret, endQ_nx, varQ_some, lstQ_some, dctQ_some, optQ_some, blQ_bl, inQ_int, rgQ_int, rg2Q_int,
  x_eqSS, x_eqII, x_neSS, x_neII, str_we, str_ew, decide_true, decide_false, if_true, if_false, Bool.false_eq_true, reduceIte, x_addI, x_addT, x_addS, x_subI, x_mulI, x_divI, x_modI, x_powI, x_ltI, x_leI, x_gtI, x_geI, x_is, x_isnot, x_isB, x_isNB, x_ixT, x_ixF, x_abs, x_lenT, x_lenF, x_intI, x_intB, x_max2, x_min2, x_seqT, x_seqF, x_slT, x_slFA,
  List.map_cons, List.map_nil, List.length_cons, List.length_nil, List.cons_append, List.nil_append, List.replicate_succ, List.replicate_zero, Nat.reduceSub, Nat.reduceAdd, List.set_cons_zero, List.set_cons_succ, List.getElem?_cons_zero, List.getElem?_cons_succ, Nat.add_zero, Nat.zero_add, Nat.sub_self, decide_eq_true_eq, x_ins h9, l3_state, e_state11, state_wp (C := C3) jf (V.get 4 rfl), x_eqW sk sk (by decide) (by decide) rfl, sk.refl]
      exact q s' V.kp
end
end K37

/-! K37d: a row of words -/
namespace K37
open PySem L2 W9
theorem e_steps17 : C17.fn "_law_steps" = callDef C12 18 b_l_steps := f17_l_steps
theorem e_init17 : C17.mt ("Joiner" ++ ".__init__") ⟨"__init__", [], 2, some "Joiner"⟩ = callDef C1 2 init_b := m17_Joiner_init
theorem e_joining17 : C17.fn "_law_joining" = callDef C16 6 joining36_b := f17_l_joining
theorem e_shows17 : C17.fn "_law_shows" = callDef C15 1 b_l_shows := f17_l_shows
theorem e_words17 : C17.fn "_law_words" = callDef C14 13 words36_b := f17_l_words
theorem e_next17 : C17.fn "_law_next" = callDef C0 4 next36_b := f17_l_next
theorem e_goes17 : C17.fn "_law_goes_on" = callDef C11 9 b_l_goes_on := f17_l_goes_on
theorem e_kept17 : C17.mt ("Joiner" ++ ".kept") ⟨"kept", [], 1, some "Joiner"⟩ = callDef C4 1 kept_b := m17_Joiner_kept
theorem e_clock17 : C17.mt ("Joiner" ++ ".clock") ⟨"clock", [], 1, some "Joiner"⟩ = callDef C5 1 clock_b := m17_Joiner_clock
theorem e_take17 : C17.mt ("Joiner" ++ ".take") ⟨"take", [], 5, some "Joiner"⟩ = callDef C10 10 jtake_b := m17_Joiner_take
theorem e_state15 : C15.mt ("Joiner" ++ ".state") ⟨"state", [], 1, some "Joiner"⟩ = callDef C3 1 state_b := m15_Joiner_state
theorem e_kept15 : C15.mt ("Joiner" ++ ".kept") ⟨"kept", [], 1, some "Joiner"⟩ = callDef C4 1 kept_b := m15_Joiner_kept
theorem e_clock15 : C15.mt ("Joiner" ++ ".clock") ⟨"clock", [], 1, some "Joiner"⟩ = callDef C5 1 clock_b := m15_Joiner_clock
theorem d14 : DrwC C14 := ⟨C0, C13, f14_l_next, f14_l_of, f13_l_next⟩
theorem d16 : DrwC C16 := ⟨C0, C13, f16_l_next, f16_l_of, f13_l_next⟩
theorem shows_wp {J : Jn} {c : Int} {held : List Wd} {j : Nat} {s : Store} {Q : D → Store → Prop} (h : s[j]? = some (jnrO J c held)) : wp (callDef C15 1 b_l_shows [.ob j]) Q s ↔ Q (.tup [.int c, .tup (held.map wdD), .tup [.int c, .tup (held.map wdD)]]) s := by
  have h1 : s[j]? = some (.ins "Joiner" (fs3 (jnD J) (.int c) (.tup (held.map wdD)))) := h
  rw [wp_callDef]
  unfold b_l_shows
  try simp only [wp_cons, wp_nil, wp_asg, wp_expr, wp_retS, wp_retN, wp_iteS, wp_pass, wp_brk, wp_cont, wp_setIx, wp_augX, wp_asgT, wp_for, wp_varX, wp_cst, wp_bin, wp_cmp, wp_cmpT, wp_chainT, wp_chain, wp_and, wp_or, wp_not, wp_iteT, wp_negX, x_negI, x_slS, x_listT, x_tupT, x_bindT, setAll_cons, setAll_nil, true_and, and_true, eq_self, big0, big1, big2, big3, big4, big5, big6, big7, big8, big9, big10, wp_fld, wp_fldT, wp_mcall, wp_mcallT, wp_make, wp_setFld, wp_augFld, wp_asgF, wp_whil, wp_zip, insQ_some, asgFQ_eq, x_setFlds0, x_setFlds1, x_augA, x_augS, x_zipT, x_mulT1, x_mulT0, wp_andT, wp_orT, wp_notT, wp_iteE, wp_idx, wp_sl, wp_call, wp_callK, wp_call0, wp_globX, wp_dictA, wp_bi, wp_tup, wp_lstA, wp_dict0A, wp_meth, wp_lcA, wp_evs_nil, wp_evs_cons, wp_evo_none, wp_evo_some, wp_seq, wp_enum, wp_rng1, wp_rng2, wp_idxT, wp_varT, wp_callT, wp_callKT, wp_biT, x_truB, tsto_none, tsto_some,
  seqQ_nx, seqQ_ret, seqQ_bk, seqQ_ct, endQ_ret, endQ_nx, varQ_some, lstQ_some, dctQ_some, optQ_some, blQ_bl, inQ_int, rgQ_int, rg2Q_int,
  x_eqSS, x_eqII, x_neSS, x_neII, str_we, str_ew, decide_true, decide_false, if_true, if_false, Bool.false_eq_true, reduceIte, x_addI, x_addT, x_addS, x_subI, x_mulI, x_divI, x_modI, x_powI, x_ltI, x_leI, x_gtI, x_geI, x_is, x_isnot, x_isB, x_isNB, x_ixT, x_ixF, x_abs, x_lenT, x_lenF, x_intI, x_intB, x_max2, x_min2, x_seqT, x_seqF, x_slT, x_slFA,
  List.map_cons, List.map_nil, List.length_cons, List.length_nil, List.cons_append, List.nil_append, List.replicate_succ, List.replicate_zero, Nat.reduceSub, Nat.reduceAdd, List.set_cons_zero, List.set_cons_succ, List.getElem?_cons_zero, List.getElem?_cons_succ, Nat.add_zero, Nat.zero_add, Nat.sub_self, decide_eq_true_eq, x_ins h1, l3_clock, e_clock15, clock_wp (C := C5) jf h, l3_kept, e_kept15, kept_wp (C := C4) jf h, l3_state, e_state15, state_wp (C := C3) jf h]
section
variable {i c : Nat} {cs : List Int} {s0 s : Store} {J J2 : Jn} {ws : List Wd} {wj dj : Nat}
theorem right_body {A os : List Wd} {w : Wd} {js jo ol : Nat} {y8 y13 y14 : Option D} {QF : Fl → Store → Prop} (hJ : JnOk J) (hJ2 : JnOk J2) (hw : ∀ w ∈ A, WdOk w) (hl : A.length ≤ 200) (hwd : WdOk w) (ho : ∀ w ∈ os, WdOk w) (hol : os.length ≤ 12)
    (V : Lv s0 [i, c] (Dr i c cs) [(js, stO J2 (jrun J2 os)), (ol, .lst (os.map wdD)), (jo, stO J (jrun J A))] s)
    (q : ∀ os' y8 y13 s1, (∀ w ∈ os', WdOk w) → os'.length ≤ 12 → Lv s0 [i, c] (Dr i c cs) [(js, stO J2 (jrun J2 os')), (ol, .lst (os'.map wdD)), (jo, stO J (jrun J (A ++ [w])))] s1 → QF (.nx [some (.ob i), some (jnD J), some (.ob wj), some (.ob js), some (.ob dj), some (.ob jo), some (jnD J2), some (.ob ol), y8, some (wdD w), some (.tup ((jmade J (jrun J A).clock (jrun J A).kept w).map W9.prD)), some (.int (jrun J (A ++ [w])).clock), some (.tup ((jheld J (jrun J (A ++ [w]))).map wdD)), y13, y14]) s1) :
    wp (runs C17 b_l_right_1 [some (.ob i), some (jnD J), some (.ob wj), some (.ob js), some (.ob dj), some (.ob jo), some (jnD J2), some (.ob ol), y8, some (wdD w), some (.tup ((jmade J (jrun J A).clock (jrun J A).kept w).map W9.prD)), some (.int (jrun J (A ++ [w])).clock), some (.tup ((jheld J (jrun J (A ++ [w]))).map wdD)), y13, y14]) QF s := by
  have hbig : bigN = 16777216 := rfl
  have hw' : ∀ v ∈ A ++ [w], WdOk v := fun v hv => by
    rcases List.mem_append.mp hv with hv | hv
    · exact hw v hv
    · rw [List.mem_singleton.mp hv]; exact hwd
  have sm := made_shw (J := J) hw hwd (by omega)
  have ss := shows_shw (J := J) hw' (by simp; omega)
  have hhl := held_len (J := J) A
  have hst : jrun J (A ++ [w]) = jstep J (jrun J A) w := jrun_snoc J A w
  rw [hst] at q ss ⊢
  have h1 : s[jo]? = some (.ins "Joiner" (fs3 (jnD J) (.int (jrun J A).clock) (.tup ((jheld J (jrun J A)).map wdD)))) := V.get 2 rfl
  unfold b_l_right_1
  try simp only [wp_cons, wp_nil, wp_asg, wp_expr, wp_retS, wp_retN, wp_iteS, wp_pass, wp_brk, wp_cont, wp_setIx, wp_augX, wp_asgT, wp_for, wp_varX, wp_cst, wp_bin, wp_cmp, wp_cmpT, wp_chainT, wp_chain, wp_and, wp_or, wp_not, wp_iteT, wp_negX, x_negI, x_slS, x_listT, x_tupT, x_bindT, setAll_cons, setAll_nil, true_and, and_true, eq_self, big0, big1, big2, big3, big4, big5, big6, big7, big8, big9, big10, wp_fld, wp_fldT, wp_mcall, wp_mcallT, wp_make, wp_setFld, wp_augFld, wp_asgF, wp_whil, wp_zip, insQ_some, asgFQ_eq, x_setFlds0, x_setFlds1, x_augA, x_augS, x_zipT, x_mulT1, x_mulT0, wp_andT, wp_orT, wp_notT, wp_iteE, wp_idx, wp_sl, wp_call, wp_callK, wp_call0, wp_globX, wp_dictA, wp_bi, wp_tup, wp_lstA, wp_dict0A, wp_meth, wp_lcA, wp_evs_nil, wp_evs_cons, wp_evo_none, wp_evo_some, wp_seq, wp_enum, wp_rng1, wp_rng2, wp_idxT, wp_varT, wp_callT, wp_callKT, wp_biT, x_truB, tsto_none, tsto_some,
  seqQ_nx, seqQ_ret, seqQ_bk, seqQ_ct, endQ_ret, endQ_nx, varQ_some, lstQ_some, dctQ_some, optQ_some, blQ_bl, inQ_int, rgQ_int, rg2Q_int,
  x_eqSS, x_eqII, x_neSS, x_neII, str_we, str_ew, decide_true, decide_false, if_true, if_false, Bool.false_eq_true, reduceIte, x_addI, x_addT, x_addS, x_subI, x_mulI, x_divI, x_modI, x_powI, x_ltI, x_leI, x_gtI, x_geI, x_is, x_isnot, x_isB, x_isNB, x_ixT, x_ixF, x_abs, x_lenT, x_lenF, x_intI, x_intB, x_max2, x_min2, x_seqT, x_seqF, x_slT, x_slFA,
  List.map_cons, List.map_nil, List.length_cons, List.length_nil, List.cons_append, List.nil_append, List.replicate_succ, List.replicate_zero, Nat.reduceSub, Nat.reduceAdd, List.set_cons_zero, List.set_cons_succ, List.getElem?_cons_zero, List.getElem?_cons_succ, Nat.add_zero, Nat.zero_add, Nat.sub_self, decide_eq_true_eq, x_ins h1, l3_take, e_take17, a4]
  refine V.jtake jC10 hJ.l0 2 rfl (by omega) fun s1 V1 => ?_
  have g1 : s1[jo]? = some (jnrO J (jstep J (jrun J A) w).clock (jheld J (jstep J (jrun J A) w))) := V1.get 2 rfl
  have V1' : Lv s0 [i, c] (Dr i c cs) [(js, stO J2 (jrun J2 os)), (ol, .lst (os.map wdD)), (jo, stO J (jstep J (jrun J A) w))] s1 := V1
  clear V1 h1 hst hw' hhl
  try simp only [wp_cons, wp_nil, wp_asg, wp_expr, wp_retS, wp_retN, wp_iteS, wp_pass, wp_brk, wp_cont, wp_setIx, wp_augX, wp_asgT, wp_for, wp_varX, wp_cst, wp_bin, wp_cmp, wp_cmpT, wp_chainT, wp_chain, wp_and, wp_or, wp_not, wp_iteT, wp_negX, x_negI, x_slS, x_listT, x_tupT, x_bindT, setAll_cons, setAll_nil, true_and, and_true, eq_self, big0, big1, big2, big3, big4, big5, big6, big7, big8, big9, big10, wp_fld, wp_fldT, wp_mcall, wp_mcallT, wp_make, wp_setFld, wp_augFld, wp_asgF, wp_whil, wp_zip, insQ_some, asgFQ_eq, x_setFlds0, x_setFlds1, x_augA, x_augS, x_zipT, x_mulT1, x_mulT0, wp_andT, wp_orT, wp_notT, wp_iteE, wp_idx, wp_sl, wp_call, wp_callK, wp_call0, wp_globX, wp_dictA, wp_bi, wp_tup, wp_lstA, wp_dict0A, wp_meth, wp_lcA, wp_evs_nil, wp_evs_cons, wp_evo_none, wp_evo_some, wp_seq, wp_enum, wp_rng1, wp_rng2, wp_idxT, wp_varT, wp_callT, wp_callKT, wp_biT, x_truB, tsto_none, tsto_some,
  seqQ_nx, seqQ_ret, seqQ_bk, seqQ_ct, endQ_ret, endQ_nx, varQ_some, lstQ_some, dctQ_some, optQ_some, blQ_bl, inQ_int, rgQ_int, rg2Q_int,
  x_eqSS, x_eqII, x_neSS, x_neII, str_we, str_ew, decide_true, decide_false, if_true, if_false, Bool.false_eq_true, reduceIte, x_addI, x_addT, x_addS, x_subI, x_mulI, x_divI, x_modI, x_powI, x_ltI, x_leI, x_gtI, x_geI, x_is, x_isnot, x_isB, x_isNB, x_ixT, x_ixF, x_abs, x_lenT, x_lenF, x_intI, x_intB, x_max2, x_min2, x_seqT, x_seqF, x_slT, x_slFA,
  List.map_cons, List.map_nil, List.length_cons, List.length_nil, List.cons_append, List.nil_append, List.replicate_succ, List.replicate_zero, Nat.reduceSub, Nat.reduceAdd, List.set_cons_zero, List.set_cons_succ, List.getElem?_cons_zero, List.getElem?_cons_succ, Nat.add_zero, Nat.zero_add, Nat.sub_self, decide_eq_true_eq, x_shw sm (by decide) (by decide), e_shows17, shows_wp g1, x_shw ss (by decide) (by decide), Bool.not_true, x_lenL (V1'.get 1 rfl), List.length_map]
  by_cases hlt : (os.length : Int) < 12
  · simp only [decide_eq_true hlt, if_pos hlt, if_true]
    try simp only [wp_cons, wp_nil, wp_asg, wp_expr, wp_retS, wp_retN, wp_iteS, wp_pass, wp_brk, wp_cont, wp_setIx, wp_augX, wp_asgT, wp_for, wp_varX, wp_cst, wp_bin, wp_cmp, wp_cmpT, wp_chainT, wp_chain, wp_and, wp_or, wp_not, wp_iteT, wp_negX, x_negI, x_slS, x_listT, x_tupT, x_bindT, setAll_cons, setAll_nil, true_and, and_true, eq_self, big0, big1, big2, big3, big4, big5, big6, big7, big8, big9, big10, wp_fld, wp_fldT, wp_mcall, wp_mcallT, wp_make, wp_setFld, wp_augFld, wp_asgF, wp_whil, wp_zip, insQ_some, asgFQ_eq, x_setFlds0, x_setFlds1, x_augA, x_augS, x_zipT, x_mulT1, x_mulT0, wp_andT, wp_orT, wp_notT, wp_iteE, wp_idx, wp_sl, wp_call, wp_callK, wp_call0, wp_globX, wp_dictA, wp_bi, wp_tup, wp_lstA, wp_dict0A, wp_meth, wp_lcA, wp_evs_nil, wp_evs_cons, wp_evo_none, wp_evo_some, wp_seq, wp_enum, wp_rng1, wp_rng2, wp_idxT, wp_varT, wp_callT, wp_callKT, wp_biT, x_truB, tsto_none, tsto_some,
  seqQ_nx, seqQ_ret, seqQ_bk, seqQ_ct, endQ_ret, endQ_nx, varQ_some, lstQ_some, dctQ_some, optQ_some, blQ_bl, inQ_int, rgQ_int, rg2Q_int,
  x_eqSS, x_eqII, x_neSS, x_neII, str_we, str_ew, decide_true, decide_false, if_true, if_false, Bool.false_eq_true, reduceIte, x_addI, x_addT, x_addS, x_subI, x_mulI, x_divI, x_modI, x_powI, x_ltI, x_leI, x_gtI, x_geI, x_is, x_isnot, x_isB, x_isNB, x_ixT, x_ixF, x_abs, x_lenT, x_lenF, x_intI, x_intB, x_max2, x_min2, x_seqT, x_seqF, x_slT, x_slFA,
  List.map_cons, List.map_nil, List.length_cons, List.length_nil, List.cons_append, List.nil_append, List.replicate_succ, List.replicate_zero, Nat.reduceSub, Nat.reduceAdd, List.set_cons_zero, List.set_cons_succ, List.getElem?_cons_zero, List.getElem?_cons_succ, Nat.add_zero, Nat.zero_add, Nat.sub_self, decide_eq_true_eq, e_words17]
    refine words_wp (n := 1) d14 hJ2 (by decide) V1'.at0 fun f ws1 s2 hlen hwo _ V2 => ?_
    obtain ⟨w2, rfl⟩ := List.length_eq_one_iff.mp hlen
    have hw2 : WdOk w2 := hwo w2 (by simp)
    have V3 := V1'.call V2.kp V2.pr (own_dr i c cs)
    rw [x_ixL (V2.get 0 rfl)]
    try simp only [wp_cons, wp_nil, wp_asg, wp_expr, wp_retS, wp_retN, wp_iteS, wp_pass, wp_brk, wp_cont, wp_setIx, wp_augX, wp_asgT, wp_for, wp_varX, wp_cst, wp_bin, wp_cmp, wp_cmpT, wp_chainT, wp_chain, wp_and, wp_or, wp_not, wp_iteT, wp_negX, x_negI, x_slS, x_listT, x_tupT, x_bindT, setAll_cons, setAll_nil, true_and, and_true, eq_self, big0, big1, big2, big3, big4, big5, big6, big7, big8, big9, big10, wp_fld, wp_fldT, wp_mcall, wp_mcallT, wp_make, wp_setFld, wp_augFld, wp_asgF, wp_whil, wp_zip, insQ_some, asgFQ_eq, x_setFlds0, x_setFlds1, x_augA, x_augS, x_zipT, x_mulT1, x_mulT0, wp_andT, wp_orT, wp_notT, wp_iteE, wp_idx, wp_sl, wp_call, wp_callK, wp_call0, wp_globX, wp_dictA, wp_bi, wp_tup, wp_lstA, wp_dict0A, wp_meth, wp_lcA, wp_evs_nil, wp_evs_cons, wp_evo_none, wp_evo_some, wp_seq, wp_enum, wp_rng1, wp_rng2, wp_idxT, wp_varT, wp_callT, wp_callKT, wp_biT, x_truB, tsto_none, tsto_some,
  seqQ_nx, seqQ_ret, seqQ_bk, seqQ_ct, endQ_ret, endQ_nx, varQ_some, lstQ_some, dctQ_some, optQ_some, blQ_bl, inQ_int, rgQ_int, rg2Q_int,
  x_eqSS, x_eqII, x_neSS, x_neII, str_we, str_ew, decide_true, decide_false, if_true, if_false, Bool.false_eq_true, reduceIte, x_addI, x_addT, x_addS, x_subI, x_mulI, x_divI, x_modI, x_powI, x_ltI, x_leI, x_gtI, x_geI, x_is, x_isnot, x_isB, x_isNB, x_ixT, x_ixF, x_abs, x_lenT, x_lenF, x_intI, x_intB, x_max2, x_min2, x_seqT, x_seqF, x_slT, x_slFA,
  List.map_cons, List.map_nil, List.length_cons, List.length_nil, List.cons_append, List.nil_append, List.replicate_succ, List.replicate_zero, Nat.reduceSub, Nat.reduceAdd, List.set_cons_zero, List.set_cons_succ, List.getElem?_cons_zero, List.getElem?_cons_succ, Nat.add_zero, Nat.zero_add, Nat.sub_self, decide_eq_true_eq, show atI ([w2].map wdD) 0 = some (wdD w2) from rfl]
    refine ⟨.list, V3.tyL 1 rfl, V3.append 1 rfl (by rw [List.length_map]; omega) fun s4 V4 => ?_⟩
    have h4 : s4[ol]? = some (.lst ((os ++ [w2]).map wdD)) := by rw [List.map_append]; exact V4.get 1 rfl
    have V4' : Lv s0 [i, c] (Dr i c cs) [(js, stO J2 (jrun J2 os)), (ol, .lst ((os ++ [w2]).map wdD)), (jo, stO J (jstep J (jrun J A) w))] s4 := by rw [List.map_append]; exact V4
    try simp only [wp_cons, wp_nil, wp_asg, wp_expr, wp_retS, wp_retN, wp_iteS, wp_pass, wp_brk, wp_cont, wp_setIx, wp_augX, wp_asgT, wp_for, wp_varX, wp_cst, wp_bin, wp_cmp, wp_cmpT, wp_chainT, wp_chain, wp_and, wp_or, wp_not, wp_iteT, wp_negX, x_negI, x_slS, x_listT, x_tupT, x_bindT, setAll_cons, setAll_nil, true_and, and_true, eq_self, big0, big1, big2, big3, big4, big5, big6, big7, big8, big9, big10, wp_fld, wp_fldT, wp_mcall, wp_mcallT, wp_make, wp_setFld, wp_augFld, wp_asgF, wp_whil, wp_zip, insQ_some, asgFQ_eq, x_setFlds0, x_setFlds1, x_augA, x_augS, x_zipT, x_mulT1, x_mulT0, wp_andT, wp_orT, wp_notT, wp_iteE, wp_idx, wp_sl, wp_call, wp_callK, wp_call0, wp_globX, wp_dictA, wp_bi, wp_tup, wp_lstA, wp_dict0A, wp_meth, wp_lcA, wp_evs_nil, wp_evs_cons, wp_evo_none, wp_evo_some, wp_seq, wp_enum, wp_rng1, wp_rng2, wp_idxT, wp_varT, wp_callT, wp_callKT, wp_biT, x_truB, tsto_none, tsto_some,
  seqQ_nx, seqQ_ret, seqQ_bk, seqQ_ct, endQ_ret, endQ_nx, varQ_some, lstQ_some, dctQ_some, optQ_some, blQ_bl, inQ_int, rgQ_int, rg2Q_int,
  x_eqSS, x_eqII, x_neSS, x_neII, str_we, str_ew, decide_true, decide_false, if_true, if_false, Bool.false_eq_true, reduceIte, x_addI, x_addT, x_addS, x_subI, x_mulI, x_divI, x_modI, x_powI, x_ltI, x_leI, x_gtI, x_geI, x_is, x_isnot, x_isB, x_isNB, x_ixT, x_ixF, x_abs, x_lenT, x_lenF, x_intI, x_intB, x_max2, x_min2, x_seqT, x_seqF, x_slT, x_slFA,
  List.map_cons, List.map_nil, List.length_cons, List.length_nil, List.cons_append, List.nil_append, List.replicate_succ, List.replicate_zero, Nat.reduceSub, Nat.reduceAdd, List.set_cons_zero, List.set_cons_succ, List.getElem?_cons_zero, List.getElem?_cons_succ, Nat.add_zero, Nat.zero_add, Nat.sub_self, decide_eq_true_eq, e_steps17]
    refine steps_wp (J := J2) (ws := os ++ [w2]) (by simp only [List.length_append, List.length_cons, List.length_nil]; omega) h4 fun k s5 K5 _ h5 => ?_
    have V5 := V4'.call0 K5
    have hsn : duesD (zd J2 js0 (os ++ [w2])) = duesD (zd J2 js0 os) ++ [duD (due J2 (jrun J2 os) w2)] := by rw [zd_snoc]; simp [duesD]
    rw [hsn] at h5
    have hhl := held_len (J := J2) os
    have si := its_shw (J := J2) ho hw2 (by omega)
    have e : duD (due J2 (jrun J2 os) w2) = .tup [.tup ((jmade J2 (jrun J2 os).clock (jrun J2 os).kept w2).map W9.prD), .int (jstep J2 (jrun J2 os) w2).clock, .tup ((jheld J2 (jstep J2 (jrun J2 os) w2)).map wdD)] := rfl
    rw [x_ixL h5, W9.atI_last, optQ_some]
    rw [e] at si ⊢
    have h6 : s5[js]? = some (.ins "Joiner" (fs3 (jnD J2) (.int (jrun J2 os).clock) (.tup ((jheld J2 (jrun J2 os)).map wdD)))) := V5.get 0 rfl
    try simp only [wp_cons, wp_nil, wp_asg, wp_expr, wp_retS, wp_retN, wp_iteS, wp_pass, wp_brk, wp_cont, wp_setIx, wp_augX, wp_asgT, wp_for, wp_varX, wp_cst, wp_bin, wp_cmp, wp_cmpT, wp_chainT, wp_chain, wp_and, wp_or, wp_not, wp_iteT, wp_negX, x_negI, x_slS, x_listT, x_tupT, x_bindT, setAll_cons, setAll_nil, true_and, and_true, eq_self, big0, big1, big2, big3, big4, big5, big6, big7, big8, big9, big10, wp_fld, wp_fldT, wp_mcall, wp_mcallT, wp_make, wp_setFld, wp_augFld, wp_asgF, wp_whil, wp_zip, insQ_some, asgFQ_eq, x_setFlds0, x_setFlds1, x_augA, x_augS, x_zipT, x_mulT1, x_mulT0, wp_andT, wp_orT, wp_notT, wp_iteE, wp_idx, wp_sl, wp_call, wp_callK, wp_call0, wp_globX, wp_dictA, wp_bi, wp_tup, wp_lstA, wp_dict0A, wp_meth, wp_lcA, wp_evs_nil, wp_evs_cons, wp_evo_none, wp_evo_some, wp_seq, wp_enum, wp_rng1, wp_rng2, wp_idxT, wp_varT, wp_callT, wp_callKT, wp_biT, x_truB, tsto_none, tsto_some,
  seqQ_nx, seqQ_ret, seqQ_bk, seqQ_ct, endQ_ret, endQ_nx, varQ_some, lstQ_some, dctQ_some, optQ_some, blQ_bl, inQ_int, rgQ_int, rg2Q_int,
  x_eqSS, x_eqII, x_neSS, x_neII, str_we, str_ew, decide_true, decide_false, if_true, if_false, Bool.false_eq_true, reduceIte, x_addI, x_addT, x_addS, x_subI, x_mulI, x_divI, x_modI, x_powI, x_ltI, x_leI, x_gtI, x_geI, x_is, x_isnot, x_isB, x_isNB, x_ixT, x_ixF, x_abs, x_lenT, x_lenF, x_intI, x_intB, x_max2, x_min2, x_seqT, x_seqF, x_slT, x_slFA,
  List.map_cons, List.map_nil, List.length_cons, List.length_nil, List.cons_append, List.nil_append, List.replicate_succ, List.replicate_zero, Nat.reduceSub, Nat.reduceAdd, List.set_cons_zero, List.set_cons_succ, List.getElem?_cons_zero, List.getElem?_cons_succ, Nat.add_zero, Nat.zero_add, Nat.sub_self, decide_eq_true_eq, x_ins h6, l3_take, e_take17, a4]
    refine V5.jtake jC10 hJ2.l0 0 rfl (by omega) fun s7 V7 => ?_
    have g7 : s7[js]? = some (jnrO J2 (jstep J2 (jrun J2 os) w2).clock (jheld J2 (jstep J2 (jrun J2 os) w2))) := V7.get 0 rfl
    have h7 : s7[js]? = some (.ins "Joiner" (fs3 (jnD J2) (.int (jstep J2 (jrun J2 os) w2).clock) (.tup ((jheld J2 (jstep J2 (jrun J2 os) w2)).map wdD)))) := g7
    try simp only [wp_cons, wp_nil, wp_asg, wp_expr, wp_retS, wp_retN, wp_iteS, wp_pass, wp_brk, wp_cont, wp_setIx, wp_augX, wp_asgT, wp_for, wp_varX, wp_cst, wp_bin, wp_cmp, wp_cmpT, wp_chainT, wp_chain, wp_and, wp_or, wp_not, wp_iteT, wp_negX, x_negI, x_slS, x_listT, x_tupT, x_bindT, setAll_cons, setAll_nil, true_and, and_true, eq_self, big0, big1, big2, big3, big4, big5, big6, big7, big8, big9, big10, wp_fld, wp_fldT, wp_mcall, wp_mcallT, wp_make, wp_setFld, wp_augFld, wp_asgF, wp_whil, wp_zip, insQ_some, asgFQ_eq, x_setFlds0, x_setFlds1, x_augA, x_augS, x_zipT, x_mulT1, x_mulT0, wp_andT, wp_orT, wp_notT, wp_iteE, wp_idx, wp_sl, wp_call, wp_callK, wp_call0, wp_globX, wp_dictA, wp_bi, wp_tup, wp_lstA, wp_dict0A, wp_meth, wp_lcA, wp_evs_nil, wp_evs_cons, wp_evo_none, wp_evo_some, wp_seq, wp_enum, wp_rng1, wp_rng2, wp_idxT, wp_varT, wp_callT, wp_callKT, wp_biT, x_truB, tsto_none, tsto_some,
  seqQ_nx, seqQ_ret, seqQ_bk, seqQ_ct, endQ_ret, endQ_nx, varQ_some, lstQ_some, dctQ_some, optQ_some, blQ_bl, inQ_int, rgQ_int, rg2Q_int,
  x_eqSS, x_eqII, x_neSS, x_neII, str_we, str_ew, decide_true, decide_false, if_true, if_false, Bool.false_eq_true, reduceIte, x_addI, x_addT, x_addS, x_subI, x_mulI, x_divI, x_modI, x_powI, x_ltI, x_leI, x_gtI, x_geI, x_is, x_isnot, x_isB, x_isNB, x_ixT, x_ixF, x_abs, x_lenT, x_lenF, x_intI, x_intB, x_max2, x_min2, x_seqT, x_seqF, x_slT, x_slFA,
  List.map_cons, List.map_nil, List.length_cons, List.length_nil, List.cons_append, List.nil_append, List.replicate_succ, List.replicate_zero, Nat.reduceSub, Nat.reduceAdd, List.set_cons_zero, List.set_cons_succ, List.getElem?_cons_zero, List.getElem?_cons_succ, Nat.add_zero, Nat.zero_add, Nat.sub_self, decide_eq_true_eq, x_ins h7, l3_clock, e_clock17, clock_wp (C := C5) jf g7, l3_kept, e_kept17, kept_wp (C := C4) jf g7, x_neW si si (by decide) (by decide) rfl, si.refl, Bool.not_true]
    refine q (os ++ [w2]) _ _ s7 (fun v hv => ?_) (by simp only [List.length_append, List.length_cons, List.length_nil]; omega) ?_
    · rcases List.mem_append.mp hv with hv | hv
      · exact ho v hv
      · rw [List.mem_singleton.mp hv]; exact hw2
    · rw [jrun_snoc]
      exact V7
  · simp only [decide_eq_false hlt, if_neg hlt, Bool.false_eq_true, if_false]
    try simp only [wp_cons, wp_nil, wp_asg, wp_expr, wp_retS, wp_retN, wp_iteS, wp_pass, wp_brk, wp_cont, wp_setIx, wp_augX, wp_asgT, wp_for, wp_varX, wp_cst, wp_bin, wp_cmp, wp_cmpT, wp_chainT, wp_chain, wp_and, wp_or, wp_not, wp_iteT, wp_negX, x_negI, x_slS, x_listT, x_tupT, x_bindT, setAll_cons, setAll_nil, true_and, and_true, eq_self, big0, big1, big2, big3, big4, big5, big6, big7, big8, big9, big10, wp_fld, wp_fldT, wp_mcall, wp_mcallT, wp_make, wp_setFld, wp_augFld, wp_asgF, wp_whil, wp_zip, insQ_some, asgFQ_eq, x_setFlds0, x_setFlds1, x_augA, x_augS, x_zipT, x_mulT1, x_mulT0, wp_andT, wp_orT, wp_notT, wp_iteE, wp_idx, wp_sl, wp_call, wp_callK, wp_call0, wp_globX, wp_dictA, wp_bi, wp_tup, wp_lstA, wp_dict0A, wp_meth, wp_lcA, wp_evs_nil, wp_evs_cons, wp_evo_none, wp_evo_some, wp_seq, wp_enum, wp_rng1, wp_rng2, wp_idxT, wp_varT, wp_callT, wp_callKT, wp_biT, x_truB, tsto_none, tsto_some,
  seqQ_nx, seqQ_ret, seqQ_bk, seqQ_ct, endQ_ret, endQ_nx, varQ_some, lstQ_some, dctQ_some, optQ_some, blQ_bl, inQ_int, rgQ_int, rg2Q_int,
  x_eqSS, x_eqII, x_neSS, x_neII, str_we, str_ew, decide_true, decide_false, if_true, if_false, Bool.false_eq_true, reduceIte, x_addI, x_addT, x_addS, x_subI, x_mulI, x_divI, x_modI, x_powI, x_ltI, x_leI, x_gtI, x_geI, x_is, x_isnot, x_isB, x_isNB, x_ixT, x_ixF, x_abs, x_lenT, x_lenF, x_intI, x_intB, x_max2, x_min2, x_seqT, x_seqF, x_slT, x_slFA,
  List.map_cons, List.map_nil, List.length_cons, List.length_nil, List.cons_append, List.nil_append, List.replicate_succ, List.replicate_zero, Nat.reduceSub, Nat.reduceAdd, List.set_cons_zero, List.set_cons_succ, List.getElem?_cons_zero, List.getElem?_cons_succ, Nat.add_zero, Nat.zero_add, Nat.sub_self, decide_eq_true_eq]
    exact q os _ _ s1 ho hol V1'
theorem right_wp {Q : D → Store → Prop} (hJ : JnOk J) (hw : ∀ w ∈ ws, WdOk w) (hl : ws.length ≤ 200) (hwj0 : s[wj]? = some (.lst (ws.map wdD))) (hne : wj ∉ [i, c]) (hD : Dr i c cs s)
    (q : ∀ s1, Kp [i, c] s s1 → Dr i c cs s1 → Q (.bl true) s1) : wp (callDef C17 15 b_l_right [.ob i, jnD J, .ob wj]) Q s := by
  have V0 : Lv s [i, c] (Dr i c cs) [] s := Lv.start hD.old (own_dr i c cs) hD
  have hbig : bigN = 16777216 := rfl
  rw [wp_callDef]
  unfold b_l_right
  try simp only [wp_cons, wp_nil, wp_asg, wp_expr, wp_retS, wp_retN, wp_iteS, wp_pass, wp_brk, wp_cont, wp_setIx, wp_augX, wp_asgT, wp_for, wp_varX, wp_cst, wp_bin, wp_cmp, wp_cmpT, wp_chainT, wp_chain, wp_and, wp_or, wp_not, wp_iteT, wp_negX, x_negI, x_slS, x_listT, x_tupT, x_bindT, setAll_cons, setAll_nil, true_and, and_true, eq_self, big0, big1, big2, big3, big4, big5, big6, big7, big8, big9, big10, wp_fld, wp_fldT, wp_mcall, wp_mcallT, wp_make, wp_setFld, wp_augFld, wp_asgF, wp_whil, wp_zip, insQ_some, asgFQ_eq, x_setFlds0, x_setFlds1, x_augA, x_augS, x_zipT, x_mulT1, x_mulT0, wp_andT, wp_orT, wp_notT, wp_iteE, wp_idx, wp_sl, wp_call, wp_callK, wp_call0, wp_globX, wp_dictA, wp_bi, wp_tup, wp_lstA, wp_dict0A, wp_meth, wp_lcA, wp_evs_nil, wp_evs_cons, wp_evo_none, wp_evo_some, wp_seq, wp_enum, wp_rng1, wp_rng2, wp_idxT, wp_varT, wp_callT, wp_callKT, wp_biT, x_truB, tsto_none, tsto_some,
  seqQ_nx, seqQ_ret, seqQ_bk, seqQ_ct, endQ_ret, endQ_nx, varQ_some, lstQ_some, dctQ_some, optQ_some, blQ_bl, inQ_int, rgQ_int, rg2Q_int,
  x_eqSS, x_eqII, x_neSS, x_neII, str_we, str_ew, decide_true, decide_false, if_true, if_false, Bool.false_eq_true, reduceIte, x_addI, x_addT, x_addS, x_subI, x_mulI, x_divI, x_modI, x_powI, x_ltI, x_leI, x_gtI, x_geI, x_is, x_isnot, x_isB, x_isNB, x_ixT, x_ixF, x_abs, x_lenT, x_lenF, x_intI, x_intB, x_max2, x_min2, x_seqT, x_seqF, x_slT, x_slFA,
  List.map_cons, List.map_nil, List.length_cons, List.length_nil, List.cons_append, List.nil_append, List.replicate_succ, List.replicate_zero, Nat.reduceSub, Nat.reduceAdd, List.set_cons_zero, List.set_cons_succ, List.getElem?_cons_zero, List.getElem?_cons_succ, Nat.add_zero, Nat.zero_add, Nat.sub_self, decide_eq_true_eq, e_steps17, e_init17]
  refine steps_wp (J := J) hl hwj0 fun dj sB K1 hdl hdj0 => ?_
  have V1' := V0.call0 K1
  have hned : dj ∉ [i, c] := fun z => by have := hD.old dj z; omega
  have hwj1 : sB[wj]? = some (.lst (ws.map wdD)) := K1.at' _ _ (by simp) hwj0
  have V1 := V1'.at0
  have keep : ∀ {L : List (Nat × Ob)} {s1 : Store}, Lv sB [i, c] (Dr i c cs) L s1 → s1[wj]? = some (.lst (ws.map wdD)) := fun V => V.kp.at' _ _ hne hwj1
  have keepd : ∀ {L : List (Nat × Ob)} {s1 : Store}, Lv sB [i, c] (Dr i c cs) L s1 → s1[dj]? = some (.lst (duesD (zd J js0 ws))) := fun V => V.kp.at' _ _ hned hdj0
  refine V1.mk' fun jo s2 V2 => init_wp (J := J) jf V2 fun s3 V3 => ⟨rfl, ?_⟩
  try simp only [wp_cons, wp_nil, wp_asg, wp_expr, wp_retS, wp_retN, wp_iteS, wp_pass, wp_brk, wp_cont, wp_setIx, wp_augX, wp_asgT, wp_for, wp_varX, wp_cst, wp_bin, wp_cmp, wp_cmpT, wp_chainT, wp_chain, wp_and, wp_or, wp_not, wp_iteT, wp_negX, x_negI, x_slS, x_listT, x_tupT, x_bindT, setAll_cons, setAll_nil, true_and, and_true, eq_self, big0, big1, big2, big3, big4, big5, big6, big7, big8, big9, big10, wp_fld, wp_fldT, wp_mcall, wp_mcallT, wp_make, wp_setFld, wp_augFld, wp_asgF, wp_whil, wp_zip, insQ_some, asgFQ_eq, x_setFlds0, x_setFlds1, x_augA, x_augS, x_zipT, x_mulT1, x_mulT0, wp_andT, wp_orT, wp_notT, wp_iteE, wp_idx, wp_sl, wp_call, wp_callK, wp_call0, wp_globX, wp_dictA, wp_bi, wp_tup, wp_lstA, wp_dict0A, wp_meth, wp_lcA, wp_evs_nil, wp_evs_cons, wp_evo_none, wp_evo_some, wp_seq, wp_enum, wp_rng1, wp_rng2, wp_idxT, wp_varT, wp_callT, wp_callKT, wp_biT, x_truB, tsto_none, tsto_some,
  seqQ_nx, seqQ_ret, seqQ_bk, seqQ_ct, endQ_ret, endQ_nx, varQ_some, lstQ_some, dctQ_some, optQ_some, blQ_bl, inQ_int, rgQ_int, rg2Q_int,
  x_eqSS, x_eqII, x_neSS, x_neII, str_we, str_ew, decide_true, decide_false, if_true, if_false, Bool.false_eq_true, reduceIte, x_addI, x_addT, x_addS, x_subI, x_mulI, x_divI, x_modI, x_powI, x_ltI, x_leI, x_gtI, x_geI, x_is, x_isnot, x_isB, x_isNB, x_ixT, x_ixF, x_abs, x_lenT, x_lenF, x_intI, x_intB, x_max2, x_min2, x_seqT, x_seqF, x_slT, x_slFA,
  List.map_cons, List.map_nil, List.length_cons, List.length_nil, List.cons_append, List.nil_append, List.replicate_succ, List.replicate_zero, Nat.reduceSub, Nat.reduceAdd, List.set_cons_zero, List.set_cons_succ, List.getElem?_cons_zero, List.getElem?_cons_succ, Nat.add_zero, Nat.zero_add, Nat.sub_self, decide_eq_true_eq, e_joining17]
  refine joining_wp d16 V3 fun J2 s4 hJ2 V4 => ?_
  try simp only [wp_cons, wp_nil, wp_asg, wp_expr, wp_retS, wp_retN, wp_iteS, wp_pass, wp_brk, wp_cont, wp_setIx, wp_augX, wp_asgT, wp_for, wp_varX, wp_cst, wp_bin, wp_cmp, wp_cmpT, wp_chainT, wp_chain, wp_and, wp_or, wp_not, wp_iteT, wp_negX, x_negI, x_slS, x_listT, x_tupT, x_bindT, setAll_cons, setAll_nil, true_and, and_true, eq_self, big0, big1, big2, big3, big4, big5, big6, big7, big8, big9, big10, wp_fld, wp_fldT, wp_mcall, wp_mcallT, wp_make, wp_setFld, wp_augFld, wp_asgF, wp_whil, wp_zip, insQ_some, asgFQ_eq, x_setFlds0, x_setFlds1, x_augA, x_augS, x_zipT, x_mulT1, x_mulT0, wp_andT, wp_orT, wp_notT, wp_iteE, wp_idx, wp_sl, wp_call, wp_callK, wp_call0, wp_globX, wp_dictA, wp_bi, wp_tup, wp_lstA, wp_dict0A, wp_meth, wp_lcA, wp_evs_nil, wp_evs_cons, wp_evo_none, wp_evo_some, wp_seq, wp_enum, wp_rng1, wp_rng2, wp_idxT, wp_varT, wp_callT, wp_callKT, wp_biT, x_truB, tsto_none, tsto_some,
  seqQ_nx, seqQ_ret, seqQ_bk, seqQ_ct, endQ_ret, endQ_nx, varQ_some, lstQ_some, dctQ_some, optQ_some, blQ_bl, inQ_int, rgQ_int, rg2Q_int,
  x_eqSS, x_eqII, x_neSS, x_neII, str_we, str_ew, decide_true, decide_false, if_true, if_false, Bool.false_eq_true, reduceIte, x_addI, x_addT, x_addS, x_subI, x_mulI, x_divI, x_modI, x_powI, x_ltI, x_leI, x_gtI, x_geI, x_is, x_isnot, x_isB, x_isNB, x_ixT, x_ixF, x_abs, x_lenT, x_lenF, x_intI, x_intB, x_max2, x_min2, x_seqT, x_seqF, x_slT, x_slFA,
  List.map_cons, List.map_nil, List.length_cons, List.length_nil, List.cons_append, List.nil_append, List.replicate_succ, List.replicate_zero, Nat.reduceSub, Nat.reduceAdd, List.set_cons_zero, List.set_cons_succ, List.getElem?_cons_zero, List.getElem?_cons_succ, Nat.add_zero, Nat.zero_add, Nat.sub_self, decide_eq_true_eq]
  refine V4.alloc fun ol s5 V5 => ?_
  try simp only [wp_cons, wp_nil, wp_asg, wp_expr, wp_retS, wp_retN, wp_iteS, wp_pass, wp_brk, wp_cont, wp_setIx, wp_augX, wp_asgT, wp_for, wp_varX, wp_cst, wp_bin, wp_cmp, wp_cmpT, wp_chainT, wp_chain, wp_and, wp_or, wp_not, wp_iteT, wp_negX, x_negI, x_slS, x_listT, x_tupT, x_bindT, setAll_cons, setAll_nil, true_and, and_true, eq_self, big0, big1, big2, big3, big4, big5, big6, big7, big8, big9, big10, wp_fld, wp_fldT, wp_mcall, wp_mcallT, wp_make, wp_setFld, wp_augFld, wp_asgF, wp_whil, wp_zip, insQ_some, asgFQ_eq, x_setFlds0, x_setFlds1, x_augA, x_augS, x_zipT, x_mulT1, x_mulT0, wp_andT, wp_orT, wp_notT, wp_iteE, wp_idx, wp_sl, wp_call, wp_callK, wp_call0, wp_globX, wp_dictA, wp_bi, wp_tup, wp_lstA, wp_dict0A, wp_meth, wp_lcA, wp_evs_nil, wp_evs_cons, wp_evo_none, wp_evo_some, wp_seq, wp_enum, wp_rng1, wp_rng2, wp_idxT, wp_varT, wp_callT, wp_callKT, wp_biT, x_truB, tsto_none, tsto_some,
  seqQ_nx, seqQ_ret, seqQ_bk, seqQ_ct, endQ_ret, endQ_nx, varQ_some, lstQ_some, dctQ_some, optQ_some, blQ_bl, inQ_int, rgQ_int, rg2Q_int,
  x_eqSS, x_eqII, x_neSS, x_neII, str_we, str_ew, decide_true, decide_false, if_true, if_false, Bool.false_eq_true, reduceIte, x_addI, x_addT, x_addS, x_subI, x_mulI, x_divI, x_modI, x_powI, x_ltI, x_leI, x_gtI, x_geI, x_is, x_isnot, x_isB, x_isNB, x_ixT, x_ixF, x_abs, x_lenT, x_lenF, x_intI, x_intB, x_max2, x_min2, x_seqT, x_seqF, x_slT, x_slFA,
  List.map_cons, List.map_nil, List.length_cons, List.length_nil, List.cons_append, List.nil_append, List.replicate_succ, List.replicate_zero, Nat.reduceSub, Nat.reduceAdd, List.set_cons_zero, List.set_cons_succ, List.getElem?_cons_zero, List.getElem?_cons_succ, Nat.add_zero, Nat.zero_add, Nat.sub_self, decide_eq_true_eq, e_init17]
  refine V5.mk' fun js s6 V6 => init_wp (J := J2) jf V6 fun s7 V7 => ⟨rfl, ?_⟩
  have ss := shows_shw (J := J) (ws := []) (by simp) (by simp)
  have ss' : Shw 500000 4 (.tup [.int (-1), .tup [], .tup [.int (-1), .tup []]]) := ss
  have hsh : ∀ QQ : D → Store → Prop, wp (callDef C15 1 b_l_shows [.ob jo]) QQ s7 ↔ QQ (.tup [.int (-1), .tup [], .tup [.int (-1), .tup []]]) s7 := fun QQ => shows_wp (J := J) (held := []) (V7.get 2 rfl)
  try simp only [wp_cons, wp_nil, wp_asg, wp_expr, wp_retS, wp_retN, wp_iteS, wp_pass, wp_brk, wp_cont, wp_setIx, wp_augX, wp_asgT, wp_for, wp_varX, wp_cst, wp_bin, wp_cmp, wp_cmpT, wp_chainT, wp_chain, wp_and, wp_or, wp_not, wp_iteT, wp_negX, x_negI, x_slS, x_listT, x_tupT, x_bindT, setAll_cons, setAll_nil, true_and, and_true, eq_self, big0, big1, big2, big3, big4, big5, big6, big7, big8, big9, big10, wp_fld, wp_fldT, wp_mcall, wp_mcallT, wp_make, wp_setFld, wp_augFld, wp_asgF, wp_whil, wp_zip, insQ_some, asgFQ_eq, x_setFlds0, x_setFlds1, x_augA, x_augS, x_zipT, x_mulT1, x_mulT0, wp_andT, wp_orT, wp_notT, wp_iteE, wp_idx, wp_sl, wp_call, wp_callK, wp_call0, wp_globX, wp_dictA, wp_bi, wp_tup, wp_lstA, wp_dict0A, wp_meth, wp_lcA, wp_evs_nil, wp_evs_cons, wp_evo_none, wp_evo_some, wp_seq, wp_enum, wp_rng1, wp_rng2, wp_idxT, wp_varT, wp_callT, wp_callKT, wp_biT, x_truB, tsto_none, tsto_some,
  seqQ_nx, seqQ_ret, seqQ_bk, seqQ_ct, endQ_ret, endQ_nx, varQ_some, lstQ_some, dctQ_some, optQ_some, blQ_bl, inQ_int, rgQ_int, rg2Q_int,
  x_eqSS, x_eqII, x_neSS, x_neII, str_we, str_ew, decide_true, decide_false, if_true, if_false, Bool.false_eq_true, reduceIte, x_addI, x_addT, x_addS, x_subI, x_mulI, x_divI, x_modI, x_powI, x_ltI, x_leI, x_gtI, x_geI, x_is, x_isnot, x_isB, x_isNB, x_ixT, x_ixF, x_abs, x_lenT, x_lenF, x_intI, x_intB, x_max2, x_min2, x_seqT, x_seqF, x_slT, x_slFA,
  List.map_cons, List.map_nil, List.length_cons, List.length_nil, List.cons_append, List.nil_append, List.replicate_succ, List.replicate_zero, Nat.reduceSub, Nat.reduceAdd, List.set_cons_zero, List.set_cons_succ, List.getElem?_cons_zero, List.getElem?_cons_succ, Nat.add_zero, Nat.zero_add, Nat.sub_self, decide_eq_true_eq, e_shows17, hsh, x_shw ss' (by decide) (by decide), Bool.not_true]
  rw [x_zipL (keep V7) (keepd V7), zd_pairs]
  have hall : ∀ P x R, zd J js0 ws = P ++ x :: R → ws = P.map Prod.fst ++ x.1 :: R.map Prod.fst := fun P x R h => by
    have h2 := congrArg (List.map Prod.fst) h
    rw [zd_fst, List.map_append, List.map_cons] at h2
    exact h2
  refine loopF_nx (gd := [(wj, ws.map wdD), (dj, duesD (zd J js0 ws))]) zpD (zd J js0 ws) (fun P env s' => ∃ (os : List Wd) (y8 y9 y10 y11 y12 y13 y14 : Option D), env = [some (.ob i), some (jnD J), some (.ob wj), some (.ob js), some (.ob dj), some (.ob jo), some (jnD J2), some (.ob ol), y8, y9, y10, y11, y12, y13, y14] ∧ (∀ w ∈ os, WdOk w) ∧ os.length ≤ 12 ∧ Lv sB [i, c] (Dr i c cs) [(js, stO J2 (jrun J2 os)), (ol, .lst (os.map wdD)), (jo, stO J (jrun J (P.map Prod.fst)))] s') ?_ ?_ ⟨[], _, _, _, _, _, _, _, rfl, by simp, by simp, V7⟩
  · rintro P x R env s' hL ⟨os, y8, y9, y10, y11, y12, y13, y14, rfl, ho, hol, V⟩
    refine ⟨gd_two.mpr ⟨keep V, keepd V⟩, ?_⟩
    have hws := hall P x R hL
    have hx := zd_at P ws _ hL
    obtain ⟨w, d⟩ := x
    simp only at hx hws
    subst hx
    have hA : ∀ v ∈ P.map Prod.fst, WdOk v := fun v hv => hw v (by rw [hws]; exact List.mem_append_left _ hv)
    have hAl : (P.map Prod.fst).length ≤ 200 := by
      have := congrArg List.length hws
      rw [List.length_append] at this
      omega
    have hwd : WdOk w := hw w (by rw [hws]; simp)
    rw [wp_forF (env1 := [some (.ob i), some (jnD J), some (.ob wj), some (.ob js), some (.ob dj), some (.ob jo), some (jnD J2), some (.ob ol), y8, some (wdD w), some (.tup ((jmade J (jrun J (P.map Prod.fst)).clock (jrun J (P.map Prod.fst)).kept w).map W9.prD)), some (.int (jstep J (jrun J (P.map Prod.fst)) w).clock), some (.tup ((jheld J (jstep J (jrun J (P.map Prod.fst)) w)).map wdD)), y13, y14]) rfl]
    rw [← jrun_snoc]
    refine right_body hJ hJ2 hA hAl hwd ho hol V fun os' z8 z13 s8 ho' hol' V8 => ⟨_, rfl, os', _, _, _, _, _, _, _, rfl, ho', hol', ?_⟩
    rw [List.map_append]
    exact V8
  · rintro env s' ⟨os, y8, y9, y10, y11, y12, y13, y14, rfl, ho, hol, V⟩
    refine ⟨gd_two.mpr ⟨keep V, keepd V⟩, ?_⟩
    try simp only [wp_cons, wp_nil, wp_asg, wp_expr, wp_retS, wp_retN, wp_iteS, wp_pass, wp_brk, wp_cont, wp_setIx, wp_augX, wp_asgT, wp_for, wp_varX, wp_cst, wp_bin, wp_cmp, wp_cmpT, wp_chainT, wp_chain, wp_and, wp_or, wp_not, wp_iteT, wp_negX, x_negI, x_slS, x_listT, x_tupT, x_bindT, setAll_cons, setAll_nil, true_and, and_true, eq_self, big0, big1, big2, big3, big4, big5, big6, big7, big8, big9, big10, wp_fld, wp_fldT, wp_mcall, wp_mcallT, wp_make, wp_setFld, wp_augFld, wp_asgF, wp_whil, wp_zip, insQ_some, asgFQ_eq, x_setFlds0, x_setFlds1, x_augA, x_augS, x_zipT, x_mulT1, x_mulT0, wp_andT, wp_orT, wp_notT, wp_iteE, wp_idx, wp_sl, wp_call, wp_callK, wp_call0, wp_globX, wp_dictA, wp_bi, wp_tup, wp_lstA, wp_dict0A, wp_meth, wp_lcA, wp_evs_nil, wp_evs_cons, wp_evo_none, wp_evo_some, wp_seq, wp_enum, wp_rng1, wp_rng2, wp_idxT, wp_varT, wp_callT, wp_callKT, wp_biT, x_truB, tsto_none, tsto_some,
  seqQ_nx, seqQ_ret, seqQ_bk, seqQ_ct, endQ_ret, endQ_nx, varQ_some, lstQ_some, dctQ_some, optQ_some, blQ_bl, inQ_int, rgQ_int, rg2Q_int,
  x_eqSS, x_eqII, x_neSS, x_neII, str_we, str_ew, decide_true, decide_false, if_true, if_false, Bool.false_eq_true, reduceIte, x_addI, x_addT, x_addS, x_subI, x_mulI, x_divI, x_modI, x_powI, x_ltI, x_leI, x_gtI, x_geI, x_is, x_isnot, x_isB, x_isNB, x_ixT, x_ixF, x_abs, x_lenT, x_lenF, x_intI, x_intB, x_max2, x_min2, x_seqT, x_seqF, x_slT, x_slFA,
  List.map_cons, List.map_nil, List.length_cons, List.length_nil, List.cons_append, List.nil_append, List.replicate_succ, List.replicate_zero, Nat.reduceSub, Nat.reduceAdd, List.set_cons_zero, List.set_cons_succ, List.getElem?_cons_zero, List.getElem?_cons_succ, Nat.add_zero, Nat.zero_add, Nat.sub_self, decide_eq_true_eq, e_next17, x_lenL (keep V), List.length_map]
    refine V.next36 (by omega) (by omega) fun r s8 V8 r0 r1 => ?_
    obtain ⟨n, rfl⟩ := Int.eq_ofNat_of_zero_le r0
    refine wp_mono (loopC_inv (gd := []) (st := s8) (fun m : Nat => D.int (m : Nat)) [0, ws.length, n] (fun P ds s' => ds = (P.map fun _ => true).map D.bl ∧ Lv sB [i, c] (Dr i c cs) [] s') ?_ (fun _ _ _ => rfl) ⟨rfl, V8.nil⟩) ?_
    · rintro P m R ds s9 hL ⟨rfl, V9⟩
      refine ⟨rfl, ?_⟩
      have hm : m ≤ ws.length := by
        have : m ∈ [0, ws.length, n] := by rw [hL]; simp
        simp only [List.mem_cons, List.not_mem_nil, or_false] at this
        omega
      rw [wp_compF (env1 := [some (.ob i), some (jnD J), some (.ob wj), some (.ob js), some (.ob dj), some (.ob jo), some (jnD J2), some (.ob ol), y8, y9, y10, y11, y12, y13, some (.int (m : Nat))]) rfl]
      try simp only [wp_cons, wp_nil, wp_asg, wp_expr, wp_retS, wp_retN, wp_iteS, wp_pass, wp_brk, wp_cont, wp_setIx, wp_augX, wp_asgT, wp_for, wp_varX, wp_cst, wp_bin, wp_cmp, wp_cmpT, wp_chainT, wp_chain, wp_and, wp_or, wp_not, wp_iteT, wp_negX, x_negI, x_slS, x_listT, x_tupT, x_bindT, setAll_cons, setAll_nil, true_and, and_true, eq_self, big0, big1, big2, big3, big4, big5, big6, big7, big8, big9, big10, wp_fld, wp_fldT, wp_mcall, wp_mcallT, wp_make, wp_setFld, wp_augFld, wp_asgF, wp_whil, wp_zip, insQ_some, asgFQ_eq, x_setFlds0, x_setFlds1, x_augA, x_augS, x_zipT, x_mulT1, x_mulT0, wp_andT, wp_orT, wp_notT, wp_iteE, wp_idx, wp_sl, wp_call, wp_callK, wp_call0, wp_globX, wp_dictA, wp_bi, wp_tup, wp_lstA, wp_dict0A, wp_meth, wp_lcA, wp_evs_nil, wp_evs_cons, wp_evo_none, wp_evo_some, wp_seq, wp_enum, wp_rng1, wp_rng2, wp_idxT, wp_varT, wp_callT, wp_callKT, wp_biT, x_truB, tsto_none, tsto_some,
  seqQ_nx, seqQ_ret, seqQ_bk, seqQ_ct, endQ_ret, endQ_nx, varQ_some, lstQ_some, dctQ_some, optQ_some, blQ_bl, inQ_int, rgQ_int, rg2Q_int,
  x_eqSS, x_eqII, x_neSS, x_neII, str_we, str_ew, decide_true, decide_false, if_true, if_false, Bool.false_eq_true, reduceIte, x_addI, x_addT, x_addS, x_subI, x_mulI, x_divI, x_modI, x_powI, x_ltI, x_leI, x_gtI, x_geI, x_is, x_isnot, x_isB, x_isNB, x_ixT, x_ixF, x_abs, x_lenT, x_lenF, x_intI, x_intB, x_max2, x_min2, x_seqT, x_seqF, x_slT, x_slFA,
  List.map_cons, List.map_nil, List.length_cons, List.length_nil, List.cons_append, List.nil_append, List.replicate_succ, List.replicate_zero, Nat.reduceSub, Nat.reduceAdd, List.set_cons_zero, List.set_cons_succ, List.getElem?_cons_zero, List.getElem?_cons_succ, Nat.add_zero, Nat.zero_add, Nat.sub_self, decide_eq_true_eq, e_goes17]
      refine goes_wp hJ hw hl hm (keep V9) (keepd V9) fun s10 K10 => ⟨by simp, V9.call0 K10⟩
    · rintro ds s9 ⟨rfl, V9⟩
      refine ⟨by simp only [List.length_map, List.length_cons, List.length_nil]; omega, V9.alloc fun k10 s10 V10 => ?_⟩
      rw [x_allL (V10.get 0 rfl)]
      have K : Kp [i, c] s s10 := (K1.more (by simp)).trans V10.kp
      have := q s10 K V10.pr
      simpa using this
end
end K37

/-! K37e: the long row, the law -/
namespace W9
open PySem L2
theorem Lv.more {s0 s : Store} {ks : List Nat} {P : Store → Prop} {L : List (Nat × Ob)} (V : Lv s0 ks P L s) {k : Nat} {o : Ob} (h : s[k]? = some o) (h0 : s0.length ≤ k) (hne : ∀ p ∈ L, p.1 ≠ k) : Lv s0 ks P ((k, o) :: L) s :=
  ⟨V.kp, ⟨h, hne, V.at'⟩, fun p hp => by
    rcases List.mem_cons.mp hp with rfl | hp
    · exact h0
    · exact V.fr p hp, V.old, V.own, V.pr⟩
end W9
namespace K37
open PySem L2 W9
theorem e_goes18 : C18.fn "_law_goes_on" = callDef C11 9 b_l_goes_on := f18_l_goes_on
theorem e_next18 : C18.fn "_law_next" = callDef C0 4 next36_b := f18_l_next
theorem e_steps18 : C18.fn "_law_steps" = callDef C12 18 b_l_steps := f18_l_steps
theorem e_of18 : C18.fn "_law_of" = callDef C13 2 of36_b := f18_l_of
theorem e_kept18 : C18.mt ("Joiner" ++ ".kept") ⟨"kept", [], 1, some "Joiner"⟩ = callDef C4 1 kept_b := m18_Joiner_kept
theorem e_clock18 : C18.mt ("Joiner" ++ ".clock") ⟨"clock", [], 1, some "Joiner"⟩ = callDef C5 1 clock_b := m18_Joiner_clock
theorem e_take18 : C18.mt ("Joiner" ++ ".take") ⟨"take", [], 5, some "Joiner"⟩ = callDef C10 10 jtake_b := m18_Joiner_take
theorem e_init18 : C18.mt ("Joiner" ++ ".__init__") ⟨"__init__", [], 2, some "Joiner"⟩ = callDef C1 2 init_b := m18_Joiner_init
theorem e_next13 : C13.fn "_law_next" = callDef C0 4 next36_b := f13_l_next
abbrev R2 : List Str := ["l", "r"]
abbrev K3 : List Str := ["k", "k", "kl"]
theorem r2_ok : ∀ a ∈ R2, PyData.strOk a = true ∧ a.length ≤ 8 := by decide +kernel
theorem k3_ok : ∀ a ∈ K3, PyData.strOk a = true ∧ a.length ≤ 8 := by decide +kernel
theorem cut_ok' : ∀ m ∈ List.range 8, PyData.strOk (cutS ("abcdefgh" : Str) none (some (1 + (m : Nat) : Int))) = true ∧ (cutS ("abcdefgh" : Str) none (some (1 + (m : Nat) : Int))).length ≤ 8 := by decide +kernel
theorem cut_ok {m : Int} (h0 : 0 ≤ m) (h1 : m < 8) : NmOk (cutS ("abcdefgh" : Str) none (some (1 + m))) := by
  obtain ⟨n, rfl⟩ := Int.eq_ofNat_of_zero_le h0
  have := cut_ok' n (List.mem_range.mpr (by omega))
  exact ⟨this.1, this.2⟩
theorem abc_len : (("abcdefgh" : Str).length ≤ bigN) = True := eq_true (by decide +kernel)
section
variable {i c : Nat} {cs : List Int} {s : Store}
theorem long_wp {Q : D → Store → Prop} (hD : Dr i c cs s) (q : ∀ s1, Kp [i, c] s s1 → Dr i c cs s1 → Q (.bl true) s1) : wp (callDef C18 14 b_l_long_right [.ob i]) Q s := by
  have V0 : Lv s [i, c] (Dr i c cs) [] s := Lv.start hD.old (own_dr i c cs) hD
  have hbig : bigN = 16777216 := rfl
  rw [wp_callDef]
  unfold b_l_long_right
  try simp only [wp_cons, wp_nil, wp_asg, wp_expr, wp_retS, wp_retN, wp_iteS, wp_pass, wp_brk, wp_cont, wp_setIx, wp_augX, wp_asgT, wp_for, wp_varX, wp_cst, wp_bin, wp_cmp, wp_cmpT, wp_chainT, wp_chain, wp_and, wp_or, wp_not, wp_iteT, wp_negX, x_negI, x_slS, x_listT, x_tupT, x_bindT, setAll_cons, setAll_nil, true_and, and_true, eq_self, big0, big1, big2, big3, big4, big5, big6, big7, big8, big9, big10, wp_fld, wp_fldT, wp_mcall, wp_mcallT, wp_make, wp_setFld, wp_augFld, wp_asgF, wp_whil, wp_zip, insQ_some, asgFQ_eq, x_setFlds0, x_setFlds1, x_augA, x_augS, x_zipT, x_mulT1, x_mulT0, wp_andT, wp_orT, wp_notT, wp_iteE, wp_idx, wp_sl, wp_call, wp_callK, wp_call0, wp_globX, wp_dictA, wp_bi, wp_tup, wp_lstA, wp_dict0A, wp_meth, wp_lcA, wp_evs_nil, wp_evs_cons, wp_evo_none, wp_evo_some, wp_seq, wp_enum, wp_rng1, wp_rng2, wp_idxT, wp_varT, wp_callT, wp_callKT, wp_biT, x_truB, tsto_none, tsto_some,
  seqQ_nx, seqQ_ret, seqQ_bk, seqQ_ct, endQ_ret, endQ_nx, varQ_some, lstQ_some, dctQ_some, optQ_some, blQ_bl, inQ_int, rgQ_int, rg2Q_int,
  x_eqSS, x_eqII, x_neSS, x_neII, str_we, str_ew, decide_true, decide_false, if_true, if_false, Bool.false_eq_true, reduceIte, x_addI, x_addT, x_addS, x_subI, x_mulI, x_divI, x_modI, x_powI, x_ltI, x_leI, x_gtI, x_geI, x_is, x_isnot, x_isB, x_isNB, x_ixT, x_ixF, x_abs, x_lenT, x_lenF, x_intI, x_intB, x_max2, x_min2, x_seqT, x_seqF, x_slT, x_slFA,
  List.map_cons, List.map_nil, List.length_cons, List.length_nil, List.cons_append, List.nil_append, List.replicate_succ, List.replicate_zero, Nat.reduceSub, Nat.reduceAdd, List.set_cons_zero, List.set_cons_succ, List.getElem?_cons_zero, List.getElem?_cons_succ, Nat.add_zero, Nat.zero_add, Nat.sub_self, decide_eq_true_eq, e_next18]
  refine V0.next36 (by decide) (by decide) fun base s1 V1 b0 b1 => ?_
  refine V1.next36 (by decide) (by decide) fun fa s2 V2 f0 f1 => ?_
  try simp only [wp_cons, wp_nil, wp_asg, wp_expr, wp_retS, wp_retN, wp_iteS, wp_pass, wp_brk, wp_cont, wp_setIx, wp_augX, wp_asgT, wp_for, wp_varX, wp_cst, wp_bin, wp_cmp, wp_cmpT, wp_chainT, wp_chain, wp_and, wp_or, wp_not, wp_iteT, wp_negX, x_negI, x_slS, x_listT, x_tupT, x_bindT, setAll_cons, setAll_nil, true_and, and_true, eq_self, big0, big1, big2, big3, big4, big5, big6, big7, big8, big9, big10, wp_fld, wp_fldT, wp_mcall, wp_mcallT, wp_make, wp_setFld, wp_augFld, wp_asgF, wp_whil, wp_zip, insQ_some, asgFQ_eq, x_setFlds0, x_setFlds1, x_augA, x_augS, x_zipT, x_mulT1, x_mulT0, wp_andT, wp_orT, wp_notT, wp_iteE, wp_idx, wp_sl, wp_call, wp_callK, wp_call0, wp_globX, wp_dictA, wp_bi, wp_tup, wp_lstA, wp_dict0A, wp_meth, wp_lcA, wp_evs_nil, wp_evs_cons, wp_evo_none, wp_evo_some, wp_seq, wp_enum, wp_rng1, wp_rng2, wp_idxT, wp_varT, wp_callT, wp_callKT, wp_biT, x_truB, tsto_none, tsto_some,
  seqQ_nx, seqQ_ret, seqQ_bk, seqQ_ct, endQ_ret, endQ_nx, varQ_some, lstQ_some, dctQ_some, optQ_some, blQ_bl, inQ_int, rgQ_int, rg2Q_int,
  x_eqSS, x_eqII, x_neSS, x_neII, str_we, str_ew, decide_true, decide_false, if_true, if_false, Bool.false_eq_true, reduceIte, x_addI, x_addT, x_addS, x_subI, x_mulI, x_divI, x_modI, x_powI, x_ltI, x_leI, x_gtI, x_geI, x_is, x_isnot, x_isB, x_isNB, x_ixT, x_ixF, x_abs, x_lenT, x_lenF, x_intI, x_intB, x_max2, x_min2, x_seqT, x_seqF, x_slT, x_slFA,
  List.map_cons, List.map_nil, List.length_cons, List.length_nil, List.cons_append, List.nil_append, List.replicate_succ, List.replicate_zero, Nat.reduceSub, Nat.reduceAdd, List.set_cons_zero, List.set_cons_succ, List.getElem?_cons_zero, List.getElem?_cons_succ, Nat.add_zero, Nat.zero_add, Nat.sub_self, decide_eq_true_eq]
  refine V2.next36 (by decide) (by decide) fun la s3 V3 l0 l1 => ?_
  try simp only [wp_cons, wp_nil, wp_asg, wp_expr, wp_retS, wp_retN, wp_iteS, wp_pass, wp_brk, wp_cont, wp_setIx, wp_augX, wp_asgT, wp_for, wp_varX, wp_cst, wp_bin, wp_cmp, wp_cmpT, wp_chainT, wp_chain, wp_and, wp_or, wp_not, wp_iteT, wp_negX, x_negI, x_slS, x_listT, x_tupT, x_bindT, setAll_cons, setAll_nil, true_and, and_true, eq_self, big0, big1, big2, big3, big4, big5, big6, big7, big8, big9, big10, wp_fld, wp_fldT, wp_mcall, wp_mcallT, wp_make, wp_setFld, wp_augFld, wp_asgF, wp_whil, wp_zip, insQ_some, asgFQ_eq, x_setFlds0, x_setFlds1, x_augA, x_augS, x_zipT, x_mulT1, x_mulT0, wp_andT, wp_orT, wp_notT, wp_iteE, wp_idx, wp_sl, wp_call, wp_callK, wp_call0, wp_globX, wp_dictA, wp_bi, wp_tup, wp_lstA, wp_dict0A, wp_meth, wp_lcA, wp_evs_nil, wp_evs_cons, wp_evo_none, wp_evo_some, wp_seq, wp_enum, wp_rng1, wp_rng2, wp_idxT, wp_varT, wp_callT, wp_callKT, wp_biT, x_truB, tsto_none, tsto_some,
  seqQ_nx, seqQ_ret, seqQ_bk, seqQ_ct, endQ_ret, endQ_nx, varQ_some, lstQ_some, dctQ_some, optQ_some, blQ_bl, inQ_int, rgQ_int, rg2Q_int,
  x_eqSS, x_eqII, x_neSS, x_neII, str_we, str_ew, decide_true, decide_false, if_true, if_false, Bool.false_eq_true, reduceIte, x_addI, x_addT, x_addS, x_subI, x_mulI, x_divI, x_modI, x_powI, x_ltI, x_leI, x_gtI, x_geI, x_is, x_isnot, x_isB, x_isNB, x_ixT, x_ixF, x_abs, x_lenT, x_lenF, x_intI, x_intB, x_max2, x_min2, x_seqT, x_seqF, x_slT, x_slFA,
  List.map_cons, List.map_nil, List.length_cons, List.length_nil, List.cons_append, List.nil_append, List.replicate_succ, List.replicate_zero, Nat.reduceSub, Nat.reduceAdd, List.set_cons_zero, List.set_cons_succ, List.getElem?_cons_zero, List.getElem?_cons_succ, Nat.add_zero, Nat.zero_add, Nat.sub_self, decide_eq_true_eq]
  refine V3.alloc fun wj s4 V4 => ?_
  try simp only [wp_cons, wp_nil, wp_asg, wp_expr, wp_retS, wp_retN, wp_iteS, wp_pass, wp_brk, wp_cont, wp_setIx, wp_augX, wp_asgT, wp_for, wp_varX, wp_cst, wp_bin, wp_cmp, wp_cmpT, wp_chainT, wp_chain, wp_and, wp_or, wp_not, wp_iteT, wp_negX, x_negI, x_slS, x_listT, x_tupT, x_bindT, setAll_cons, setAll_nil, true_and, and_true, eq_self, big0, big1, big2, big3, big4, big5, big6, big7, big8, big9, big10, wp_fld, wp_fldT, wp_mcall, wp_mcallT, wp_make, wp_setFld, wp_augFld, wp_asgF, wp_whil, wp_zip, insQ_some, asgFQ_eq, x_setFlds0, x_setFlds1, x_augA, x_augS, x_zipT, x_mulT1, x_mulT0, wp_andT, wp_orT, wp_notT, wp_iteE, wp_idx, wp_sl, wp_call, wp_callK, wp_call0, wp_globX, wp_dictA, wp_bi, wp_tup, wp_lstA, wp_dict0A, wp_meth, wp_lcA, wp_evs_nil, wp_evs_cons, wp_evo_none, wp_evo_some, wp_seq, wp_enum, wp_rng1, wp_rng2, wp_idxT, wp_varT, wp_callT, wp_callKT, wp_biT, x_truB, tsto_none, tsto_some,
  seqQ_nx, seqQ_ret, seqQ_bk, seqQ_ct, endQ_ret, endQ_nx, varQ_some, lstQ_some, dctQ_some, optQ_some, blQ_bl, inQ_int, rgQ_int, rg2Q_int,
  x_eqSS, x_eqII, x_neSS, x_neII, str_we, str_ew, decide_true, decide_false, if_true, if_false, Bool.false_eq_true, reduceIte, x_addI, x_addT, x_addS, x_subI, x_mulI, x_divI, x_modI, x_powI, x_ltI, x_leI, x_gtI, x_geI, x_is, x_isnot, x_isB, x_isNB, x_ixT, x_ixF, x_abs, x_lenT, x_lenF, x_intI, x_intB, x_max2, x_min2, x_seqT, x_seqF, x_slT, x_slFA,
  List.map_cons, List.map_nil, List.length_cons, List.length_nil, List.cons_append, List.nil_append, List.replicate_succ, List.replicate_zero, Nat.reduceSub, Nat.reduceAdd, List.set_cons_zero, List.set_cons_succ, List.getElem?_cons_zero, List.getElem?_cons_succ, Nat.add_zero, Nat.zero_add, Nat.sub_self, decide_eq_true_eq]
  refine ⟨rng_okc (by decide) (by decide), ?_⟩
  rw [rngI_map]
  have hr := r2_ok "l" (by simp)
  have hr2 := r2_ok "r" (by simp)
  have hJ : JnOk ⟨"l", "r", 20 + fa, 20 + la⟩ := ⟨⟨hr.1, hr.2⟩, ⟨hr2.1, hr2.2⟩, by show 0 ≤ 20 + fa; omega, by show 20 + fa ≤ 99; omega, by show 0 ≤ 20 + la; omega, by show 20 + la ≤ 99; omega⟩
  have eJ : (D.tup [.str "l", .str "r", .int (20 + fa), .int (20 + la)]) = jnD ⟨"l", "r", 20 + fa, 20 + la⟩ := rfl
  rw [eJ]
  generalize (⟨"l", "r", 20 + fa, 20 + la⟩ : Jn) = J at *
  refine loopF_nx (gd := []) (fun i : Nat => D.int (i : Nat)) (List.range (160 : Int).toNat) (fun P env s' => ∃ (ws : List Wd) (y1 y6 y7 y8 y9 y10 y11 y12 y13 : Option D), env = [some (.ob i), y1, some (.int base), some (.int (20 + fa)), some (jnD J), some (.ob wj), y6, y7, y8, y9, y10, y11, y12, y13] ∧ ws.length = P.length ∧ (∀ w ∈ ws, WdOk w) ∧ Lv s [i, c] (Dr i c cs) [(wj, .lst (ws.map wdD))] s') ?_ ?_ ⟨[], _, _, _, _, _, _, _, _, _, rfl, rfl, by simp, V4⟩
  · rintro P a R env s' hL ⟨ws, y1, y6, y7, y8, y9, y10, y11, y12, y13, rfl, hlen, hw, V⟩
    refine ⟨rfl, ?_⟩
    have hPl : P.length < 160 := by
      have := congrArg List.length hL
      simp only [List.length_range, List.length_append, List.length_cons] at this
      have e : (160 : Int).toNat = 160 := rfl
      omega
    rw [wp_forF (env1 := [some (.ob i), some (.int (a : Nat)), some (.int base), some (.int (20 + fa)), some (jnD J), some (.ob wj), y6, y7, y8, y9, y10, y11, y12, y13]) rfl]
    unfold b_l_long_right_2
    try simp only [wp_cons, wp_nil, wp_asg, wp_expr, wp_retS, wp_retN, wp_iteS, wp_pass, wp_brk, wp_cont, wp_setIx, wp_augX, wp_asgT, wp_for, wp_varX, wp_cst, wp_bin, wp_cmp, wp_cmpT, wp_chainT, wp_chain, wp_and, wp_or, wp_not, wp_iteT, wp_negX, x_negI, x_slS, x_listT, x_tupT, x_bindT, setAll_cons, setAll_nil, true_and, and_true, eq_self, big0, big1, big2, big3, big4, big5, big6, big7, big8, big9, big10, wp_fld, wp_fldT, wp_mcall, wp_mcallT, wp_make, wp_setFld, wp_augFld, wp_asgF, wp_whil, wp_zip, insQ_some, asgFQ_eq, x_setFlds0, x_setFlds1, x_augA, x_augS, x_zipT, x_mulT1, x_mulT0, wp_andT, wp_orT, wp_notT, wp_iteE, wp_idx, wp_sl, wp_call, wp_callK, wp_call0, wp_globX, wp_dictA, wp_bi, wp_tup, wp_lstA, wp_dict0A, wp_meth, wp_lcA, wp_evs_nil, wp_evs_cons, wp_evo_none, wp_evo_some, wp_seq, wp_enum, wp_rng1, wp_rng2, wp_idxT, wp_varT, wp_callT, wp_callKT, wp_biT, x_truB, tsto_none, tsto_some,
  seqQ_nx, seqQ_ret, seqQ_bk, seqQ_ct, endQ_ret, endQ_nx, varQ_some, lstQ_some, dctQ_some, optQ_some, blQ_bl, inQ_int, rgQ_int, rg2Q_int,
  x_eqSS, x_eqII, x_neSS, x_neII, str_we, str_ew, decide_true, decide_false, if_true, if_false, Bool.false_eq_true, reduceIte, x_addI, x_addT, x_addS, x_subI, x_mulI, x_divI, x_modI, x_powI, x_ltI, x_leI, x_gtI, x_geI, x_is, x_isnot, x_isB, x_isNB, x_ixT, x_ixF, x_abs, x_lenT, x_lenF, x_intI, x_intB, x_max2, x_min2, x_seqT, x_seqF, x_slT, x_slFA,
  List.map_cons, List.map_nil, List.length_cons, List.length_nil, List.cons_append, List.nil_append, List.replicate_succ, List.replicate_zero, Nat.reduceSub, Nat.reduceAdd, List.set_cons_zero, List.set_cons_succ, List.getElem?_cons_zero, List.getElem?_cons_succ, Nat.add_zero, Nat.zero_add, Nat.sub_self, decide_eq_true_eq, e_of18]
    refine V.pick36 (ds := R2.map D.str) e_next13 (by simp) (by simp) fun d hd s5 V5 => ?_
    obtain ⟨row, hrow, rfl⟩ := mem_str hd
    refine V5.pick36 (ds := K3.map D.str) e_next13 (by simp) (by simp) fun d hd s6 V6 => ?_
    obtain ⟨key, hkey, rfl⟩ := mem_str hd
    try simp only [wp_cons, wp_nil, wp_asg, wp_expr, wp_retS, wp_retN, wp_iteS, wp_pass, wp_brk, wp_cont, wp_setIx, wp_augX, wp_asgT, wp_for, wp_varX, wp_cst, wp_bin, wp_cmp, wp_cmpT, wp_chainT, wp_chain, wp_and, wp_or, wp_not, wp_iteT, wp_negX, x_negI, x_slS, x_listT, x_tupT, x_bindT, setAll_cons, setAll_nil, true_and, and_true, eq_self, big0, big1, big2, big3, big4, big5, big6, big7, big8, big9, big10, wp_fld, wp_fldT, wp_mcall, wp_mcallT, wp_make, wp_setFld, wp_augFld, wp_asgF, wp_whil, wp_zip, insQ_some, asgFQ_eq, x_setFlds0, x_setFlds1, x_augA, x_augS, x_zipT, x_mulT1, x_mulT0, wp_andT, wp_orT, wp_notT, wp_iteE, wp_idx, wp_sl, wp_call, wp_callK, wp_call0, wp_globX, wp_dictA, wp_bi, wp_tup, wp_lstA, wp_dict0A, wp_meth, wp_lcA, wp_evs_nil, wp_evs_cons, wp_evo_none, wp_evo_some, wp_seq, wp_enum, wp_rng1, wp_rng2, wp_idxT, wp_varT, wp_callT, wp_callKT, wp_biT, x_truB, tsto_none, tsto_some,
  seqQ_nx, seqQ_ret, seqQ_bk, seqQ_ct, endQ_ret, endQ_nx, varQ_some, lstQ_some, dctQ_some, optQ_some, blQ_bl, inQ_int, rgQ_int, rg2Q_int,
  x_eqSS, x_eqII, x_neSS, x_neII, str_we, str_ew, decide_true, decide_false, if_true, if_false, Bool.false_eq_true, reduceIte, x_addI, x_addT, x_addS, x_subI, x_mulI, x_divI, x_modI, x_powI, x_ltI, x_leI, x_gtI, x_geI, x_is, x_isnot, x_isB, x_isNB, x_ixT, x_ixF, x_abs, x_lenT, x_lenF, x_intI, x_intB, x_max2, x_min2, x_seqT, x_seqF, x_slT, x_slFA,
  List.map_cons, List.map_nil, List.length_cons, List.length_nil, List.cons_append, List.nil_append, List.replicate_succ, List.replicate_zero, Nat.reduceSub, Nat.reduceAdd, List.set_cons_zero, List.set_cons_succ, List.getElem?_cons_zero, List.getElem?_cons_succ, Nat.add_zero, Nat.zero_add, Nat.sub_self, decide_eq_true_eq, abc_len, show ((0 : Int) < 8) = True from eq_true (by decide), show ((0 : Int) < 20) = True from eq_true (by decide)]
    refine ⟨.list, V6.tyL 0 rfl, V6.append 0 rfl (by rw [List.length_map]; omega) fun s7 V7 => ?_⟩
    try simp only [wp_cons, wp_nil, wp_asg, wp_expr, wp_retS, wp_retN, wp_iteS, wp_pass, wp_brk, wp_cont, wp_setIx, wp_augX, wp_asgT, wp_for, wp_varX, wp_cst, wp_bin, wp_cmp, wp_cmpT, wp_chainT, wp_chain, wp_and, wp_or, wp_not, wp_iteT, wp_negX, x_negI, x_slS, x_listT, x_tupT, x_bindT, setAll_cons, setAll_nil, true_and, and_true, eq_self, big0, big1, big2, big3, big4, big5, big6, big7, big8, big9, big10, wp_fld, wp_fldT, wp_mcall, wp_mcallT, wp_make, wp_setFld, wp_augFld, wp_asgF, wp_whil, wp_zip, insQ_some, asgFQ_eq, x_setFlds0, x_setFlds1, x_augA, x_augS, x_zipT, x_mulT1, x_mulT0, wp_andT, wp_orT, wp_notT, wp_iteE, wp_idx, wp_sl, wp_call, wp_callK, wp_call0, wp_globX, wp_dictA, wp_bi, wp_tup, wp_lstA, wp_dict0A, wp_meth, wp_lcA, wp_evs_nil, wp_evs_cons, wp_evo_none, wp_evo_some, wp_seq, wp_enum, wp_rng1, wp_rng2, wp_idxT, wp_varT, wp_callT, wp_callKT, wp_biT, x_truB, tsto_none, tsto_some,
  seqQ_nx, seqQ_ret, seqQ_bk, seqQ_ct, endQ_ret, endQ_nx, varQ_some, lstQ_some, dctQ_some, optQ_some, blQ_bl, inQ_int, rgQ_int, rg2Q_int,
  x_eqSS, x_eqII, x_neSS, x_neII, str_we, str_ew, decide_true, decide_false, if_true, if_false, Bool.false_eq_true, reduceIte, x_addI, x_addT, x_addS, x_subI, x_mulI, x_divI, x_modI, x_powI, x_ltI, x_leI, x_gtI, x_geI, x_is, x_isnot, x_isB, x_isNB, x_ixT, x_ixF, x_abs, x_lenT, x_lenF, x_intI, x_intB, x_max2, x_min2, x_seqT, x_seqF, x_slT, x_slFA,
  List.map_cons, List.map_nil, List.length_cons, List.length_nil, List.cons_append, List.nil_append, List.replicate_succ, List.replicate_zero, Nat.reduceSub, Nat.reduceAdd, List.set_cons_zero, List.set_cons_succ, List.getElem?_cons_zero, List.getElem?_cons_succ, Nat.add_zero, Nat.zero_add, Nat.sub_self, decide_eq_true_eq]
    have ok : WdOk ⟨row, key, cutS "abcdefgh" none (some (1 + (a : Int) % 8)), base + (a : Int) % 20⟩ := ⟨⟨(r2_ok row hrow).1, (r2_ok row hrow).2⟩, ⟨(k3_ok key hkey).1, (k3_ok key hkey).2⟩, cut_ok (by omega) (by omega), by show 0 ≤ base + (a : Int) % 20; omega, by show base + (a : Int) % 20 ≤ 999; omega⟩
    refine ⟨_, rfl, ws ++ [⟨row, key, cutS "abcdefgh" none (some (1 + (a : Int) % 8)), base + (a : Int) % 20⟩], _, _, _, _, _, _, _, _, _, rfl, by simp [hlen], fun y hy => ?_, by rw [List.map_append]; exact V7⟩
    rcases List.mem_append.mp hy with hy | hy
    · exact hw y hy
    · rw [List.mem_singleton.mp hy]; exact ok
  · rintro env s' ⟨ws, y1, y6, y7, y8, y9, y10, y11, y12, y13, rfl, hlen, hw, V⟩
    refine ⟨rfl, ?_⟩
    have hlen' : ws.length = 160 := by rw [hlen]; simp
    try simp only [wp_cons, wp_nil, wp_asg, wp_expr, wp_retS, wp_retN, wp_iteS, wp_pass, wp_brk, wp_cont, wp_setIx, wp_augX, wp_asgT, wp_for, wp_varX, wp_cst, wp_bin, wp_cmp, wp_cmpT, wp_chainT, wp_chain, wp_and, wp_or, wp_not, wp_iteT, wp_negX, x_negI, x_slS, x_listT, x_tupT, x_bindT, setAll_cons, setAll_nil, true_and, and_true, eq_self, big0, big1, big2, big3, big4, big5, big6, big7, big8, big9, big10, wp_fld, wp_fldT, wp_mcall, wp_mcallT, wp_make, wp_setFld, wp_augFld, wp_asgF, wp_whil, wp_zip, insQ_some, asgFQ_eq, x_setFlds0, x_setFlds1, x_augA, x_augS, x_zipT, x_mulT1, x_mulT0, wp_andT, wp_orT, wp_notT, wp_iteE, wp_idx, wp_sl, wp_call, wp_callK, wp_call0, wp_globX, wp_dictA, wp_bi, wp_tup, wp_lstA, wp_dict0A, wp_meth, wp_lcA, wp_evs_nil, wp_evs_cons, wp_evo_none, wp_evo_some, wp_seq, wp_enum, wp_rng1, wp_rng2, wp_idxT, wp_varT, wp_callT, wp_callKT, wp_biT, x_truB, tsto_none, tsto_some,
  seqQ_nx, seqQ_ret, seqQ_bk, seqQ_ct, endQ_ret, endQ_nx, varQ_some, lstQ_some, dctQ_some, optQ_some, blQ_bl, inQ_int, rgQ_int, rg2Q_int,
  x_eqSS, x_eqII, x_neSS, x_neII, str_we, str_ew, decide_true, decide_false, if_true, if_false, Bool.false_eq_true, reduceIte, x_addI, x_addT, x_addS, x_subI, x_mulI, x_divI, x_modI, x_powI, x_ltI, x_leI, x_gtI, x_geI, x_is, x_isnot, x_isB, x_isNB, x_ixT, x_ixF, x_abs, x_lenT, x_lenF, x_intI, x_intB, x_max2, x_min2, x_seqT, x_seqF, x_slT, x_slFA,
  List.map_cons, List.map_nil, List.length_cons, List.length_nil, List.cons_append, List.nil_append, List.replicate_succ, List.replicate_zero, Nat.reduceSub, Nat.reduceAdd, List.set_cons_zero, List.set_cons_succ, List.getElem?_cons_zero, List.getElem?_cons_succ, Nat.add_zero, Nat.zero_add, Nat.sub_self, decide_eq_true_eq, e_init18, e_steps18]
    refine V.mk' fun jo s5 V5 => init_wp (J := J) jf V5 fun s6 V6 => ⟨rfl, ?_⟩
    refine steps_wp (J := J) (ws := ws) (by omega) (V6.get 1 rfl) fun dj s7 K7 hdl h7 => ?_
    have V7 := (V6.call0 K7).more h7 (Nat.le_trans V6.kp.len hdl) (fun p hp => by have := V6.at'.lt p hp; omega)
    try simp only [wp_cons, wp_nil, wp_asg, wp_expr, wp_retS, wp_retN, wp_iteS, wp_pass, wp_brk, wp_cont, wp_setIx, wp_augX, wp_asgT, wp_for, wp_varX, wp_cst, wp_bin, wp_cmp, wp_cmpT, wp_chainT, wp_chain, wp_and, wp_or, wp_not, wp_iteT, wp_negX, x_negI, x_slS, x_listT, x_tupT, x_bindT, setAll_cons, setAll_nil, true_and, and_true, eq_self, big0, big1, big2, big3, big4, big5, big6, big7, big8, big9, big10, wp_fld, wp_fldT, wp_mcall, wp_mcallT, wp_make, wp_setFld, wp_augFld, wp_asgF, wp_whil, wp_zip, insQ_some, asgFQ_eq, x_setFlds0, x_setFlds1, x_augA, x_augS, x_zipT, x_mulT1, x_mulT0, wp_andT, wp_orT, wp_notT, wp_iteE, wp_idx, wp_sl, wp_call, wp_callK, wp_call0, wp_globX, wp_dictA, wp_bi, wp_tup, wp_lstA, wp_dict0A, wp_meth, wp_lcA, wp_evs_nil, wp_evs_cons, wp_evo_none, wp_evo_some, wp_seq, wp_enum, wp_rng1, wp_rng2, wp_idxT, wp_varT, wp_callT, wp_callKT, wp_biT, x_truB, tsto_none, tsto_some,
  seqQ_nx, seqQ_ret, seqQ_bk, seqQ_ct, endQ_ret, endQ_nx, varQ_some, lstQ_some, dctQ_some, optQ_some, blQ_bl, inQ_int, rgQ_int, rg2Q_int,
  x_eqSS, x_eqII, x_neSS, x_neII, str_we, str_ew, decide_true, decide_false, if_true, if_false, Bool.false_eq_true, reduceIte, x_addI, x_addT, x_addS, x_subI, x_mulI, x_divI, x_modI, x_powI, x_ltI, x_leI, x_gtI, x_geI, x_is, x_isnot, x_isB, x_isNB, x_ixT, x_ixF, x_abs, x_lenT, x_lenF, x_intI, x_intB, x_max2, x_min2, x_seqT, x_seqF, x_slT, x_slFA,
  List.map_cons, List.map_nil, List.length_cons, List.length_nil, List.cons_append, List.nil_append, List.replicate_succ, List.replicate_zero, Nat.reduceSub, Nat.reduceAdd, List.set_cons_zero, List.set_cons_succ, List.getElem?_cons_zero, List.getElem?_cons_succ, Nat.add_zero, Nat.zero_add, Nat.sub_self, decide_eq_true_eq]
    rw [x_zipL (V7.get 2 rfl) (V7.get 0 rfl), zd_pairs]
    have hall : ∀ P x R, zd J js0 ws = P ++ x :: R → ws = P.map Prod.fst ++ x.1 :: R.map Prod.fst := fun P x R h => by
      have h2 := congrArg (List.map Prod.fst) h
      rw [zd_fst, List.map_append, List.map_cons] at h2
      exact h2
    refine loopF_nx (gd := [(wj, ws.map wdD), (dj, duesD (zd J js0 ws))]) zpD (zd J js0 ws) (fun P env s' => ∃ (y1 y8 y9 y10 y11 y12 y13 : Option D), env = [some (.ob i), y1, some (.int base), some (.int (20 + fa)), some (jnD J), some (.ob wj), some (.ob jo), some (.ob dj), y8, y9, y10, y11, y12, y13] ∧ Lv s [i, c] (Dr i c cs) [(dj, .lst (duesD (zd J js0 ws))), (jo, stO J (jrun J (P.map Prod.fst))), (wj, .lst (ws.map wdD))] s') ?_ ?_ ⟨_, _, _, _, _, _, _, rfl, V7⟩
    · rintro P x R env s' hL ⟨y1, y8, y9, y10, y11, y12, y13, rfl, V⟩
      refine ⟨gd_two.mpr ⟨V.get 2 rfl, V.get 0 rfl⟩, ?_⟩
      have hws := hall P x R hL
      have hx := zd_at P ws _ hL
      obtain ⟨w, d⟩ := x
      simp only at hx hws
      subst hx
      have hA : ∀ v ∈ P.map Prod.fst, WdOk v := fun v hv => hw v (by rw [hws]; exact List.mem_append_left _ hv)
      have hAl : (P.map Prod.fst).length ≤ 200 := by
        have := congrArg List.length hws
        rw [List.length_append] at this
        omega
      have hwd : WdOk w := hw w (by rw [hws]; simp)
      rw [wp_forF (env1 := [some (.ob i), y1, some (.int base), some (.int (20 + fa)), some (jnD J), some (.ob wj), some (.ob jo), some (.ob dj), some (wdD w), y9, y10, some (.tup ((jmade J (jrun J (P.map Prod.fst)).clock (jrun J (P.map Prod.fst)).kept w).map W9.prD)), some (.int (jstep J (jrun J (P.map Prod.fst)) w).clock), some (.tup ((jheld J (jstep J (jrun J (P.map Prod.fst)) w)).map wdD))]) rfl]
      have sm := made_shw (J := J) hA hwd (by omega)
      have hhl := held_len (J := J) (P.map Prod.fst)
      have h1 : s'[jo]? = some (.ins "Joiner" (fs3 (jnD J) (.int (jrun J (P.map Prod.fst)).clock) (.tup ((jheld J (jrun J (P.map Prod.fst))).map wdD)))) := V.get 1 rfl
      unfold b_l_long_right_1
      try simp only [wp_cons, wp_nil, wp_asg, wp_expr, wp_retS, wp_retN, wp_iteS, wp_pass, wp_brk, wp_cont, wp_setIx, wp_augX, wp_asgT, wp_for, wp_varX, wp_cst, wp_bin, wp_cmp, wp_cmpT, wp_chainT, wp_chain, wp_and, wp_or, wp_not, wp_iteT, wp_negX, x_negI, x_slS, x_listT, x_tupT, x_bindT, setAll_cons, setAll_nil, true_and, and_true, eq_self, big0, big1, big2, big3, big4, big5, big6, big7, big8, big9, big10, wp_fld, wp_fldT, wp_mcall, wp_mcallT, wp_make, wp_setFld, wp_augFld, wp_asgF, wp_whil, wp_zip, insQ_some, asgFQ_eq, x_setFlds0, x_setFlds1, x_augA, x_augS, x_zipT, x_mulT1, x_mulT0, wp_andT, wp_orT, wp_notT, wp_iteE, wp_idx, wp_sl, wp_call, wp_callK, wp_call0, wp_globX, wp_dictA, wp_bi, wp_tup, wp_lstA, wp_dict0A, wp_meth, wp_lcA, wp_evs_nil, wp_evs_cons, wp_evo_none, wp_evo_some, wp_seq, wp_enum, wp_rng1, wp_rng2, wp_idxT, wp_varT, wp_callT, wp_callKT, wp_biT, x_truB, tsto_none, tsto_some,
  seqQ_nx, seqQ_ret, seqQ_bk, seqQ_ct, endQ_ret, endQ_nx, varQ_some, lstQ_some, dctQ_some, optQ_some, blQ_bl, inQ_int, rgQ_int, rg2Q_int,
  x_eqSS, x_eqII, x_neSS, x_neII, str_we, str_ew, decide_true, decide_false, if_true, if_false, Bool.false_eq_true, reduceIte, x_addI, x_addT, x_addS, x_subI, x_mulI, x_divI, x_modI, x_powI, x_ltI, x_leI, x_gtI, x_geI, x_is, x_isnot, x_isB, x_isNB, x_ixT, x_ixF, x_abs, x_lenT, x_lenF, x_intI, x_intB, x_max2, x_min2, x_seqT, x_seqF, x_slT, x_slFA,
  List.map_cons, List.map_nil, List.length_cons, List.length_nil, List.cons_append, List.nil_append, List.replicate_succ, List.replicate_zero, Nat.reduceSub, Nat.reduceAdd, List.set_cons_zero, List.set_cons_succ, List.getElem?_cons_zero, List.getElem?_cons_succ, Nat.add_zero, Nat.zero_add, Nat.sub_self, decide_eq_true_eq, x_ins h1, l3_take, e_take18, a4]
      refine V.jtake jC10 hJ.l0 1 rfl (by omega) fun s8 V8 => ?_
      have g8 : s8[jo]? = some (jnrO J (jstep J (jrun J (P.map Prod.fst)) w).clock (jheld J (jstep J (jrun J (P.map Prod.fst)) w))) := V8.get 1 rfl
      have h8 : s8[jo]? = some (.ins "Joiner" (fs3 (jnD J) (.int (jstep J (jrun J (P.map Prod.fst)) w).clock) (.tup ((jheld J (jstep J (jrun J (P.map Prod.fst)) w)).map wdD)))) := g8
      try simp only [wp_cons, wp_nil, wp_asg, wp_expr, wp_retS, wp_retN, wp_iteS, wp_pass, wp_brk, wp_cont, wp_setIx, wp_augX, wp_asgT, wp_for, wp_varX, wp_cst, wp_bin, wp_cmp, wp_cmpT, wp_chainT, wp_chain, wp_and, wp_or, wp_not, wp_iteT, wp_negX, x_negI, x_slS, x_listT, x_tupT, x_bindT, setAll_cons, setAll_nil, true_and, and_true, eq_self, big0, big1, big2, big3, big4, big5, big6, big7, big8, big9, big10, wp_fld, wp_fldT, wp_mcall, wp_mcallT, wp_make, wp_setFld, wp_augFld, wp_asgF, wp_whil, wp_zip, insQ_some, asgFQ_eq, x_setFlds0, x_setFlds1, x_augA, x_augS, x_zipT, x_mulT1, x_mulT0, wp_andT, wp_orT, wp_notT, wp_iteE, wp_idx, wp_sl, wp_call, wp_callK, wp_call0, wp_globX, wp_dictA, wp_bi, wp_tup, wp_lstA, wp_dict0A, wp_meth, wp_lcA, wp_evs_nil, wp_evs_cons, wp_evo_none, wp_evo_some, wp_seq, wp_enum, wp_rng1, wp_rng2, wp_idxT, wp_varT, wp_callT, wp_callKT, wp_biT, x_truB, tsto_none, tsto_some,
  seqQ_nx, seqQ_ret, seqQ_bk, seqQ_ct, endQ_ret, endQ_nx, varQ_some, lstQ_some, dctQ_some, optQ_some, blQ_bl, inQ_int, rgQ_int, rg2Q_int,
  x_eqSS, x_eqII, x_neSS, x_neII, str_we, str_ew, decide_true, decide_false, if_true, if_false, Bool.false_eq_true, reduceIte, x_addI, x_addT, x_addS, x_subI, x_mulI, x_divI, x_modI, x_powI, x_ltI, x_leI, x_gtI, x_geI, x_is, x_isnot, x_isB, x_isNB, x_ixT, x_ixF, x_abs, x_lenT, x_lenF, x_intI, x_intB, x_max2, x_min2, x_seqT, x_seqF, x_slT, x_slFA,
  List.map_cons, List.map_nil, List.length_cons, List.length_nil, List.cons_append, List.nil_append, List.replicate_succ, List.replicate_zero, Nat.reduceSub, Nat.reduceAdd, List.set_cons_zero, List.set_cons_succ, List.getElem?_cons_zero, List.getElem?_cons_succ, Nat.add_zero, Nat.zero_add, Nat.sub_self, decide_eq_true_eq, x_neW sm sm (by decide) (by decide) rfl, sm.refl, Bool.not_true, x_ins h8, l3_clock, e_clock18, clock_wp (C := C5) jf g8]
      refine ⟨_, rfl, _, _, _, _, _, _, _, rfl, ?_⟩
      rw [List.map_append, show jrun J (P.map Prod.fst ++ [(w, due J ((P.map Prod.fst).foldl (jstep J) js0) w)].map Prod.fst) = jstep J (jrun J (P.map Prod.fst)) w from jrun_snoc _ _ _]
      exact V8
    · rintro env s' ⟨y1, y8, y9, y10, y11, y12, y13, rfl, V⟩
      refine ⟨gd_two.mpr ⟨V.get 2 rfl, V.get 0 rfl⟩, ?_⟩
      rw [zd_fst] at V
      have g9 : s'[jo]? = some (jnrO J (jrun J ws).clock (jheld J (jrun J ws))) := V.get 1 rfl
      have h9 : s'[jo]? = some (.ins "Joiner" (fs3 (jnD J) (.int (jrun J ws).clock) (.tup ((jheld J (jrun J ws)).map wdD)))) := g9
      have sk := held_shw (J := J) hw (by omega)
      obtain ⟨A, w, hAw⟩ : ∃ A w, ws = A ++ [w] := by
        rcases List.eq_nil_or_concat ws with h | ⟨A, w, h⟩
        · rw [h] at hlen'; simp at hlen'
        · exact ⟨A, w, by simpa using h⟩
      have hsn : duesD (zd J js0 ws) = duesD (zd J js0 A) ++ [.tup [.tup ((jmade J (jrun J A).clock (jrun J A).kept w).map W9.prD), .int (jrun J ws).clock, .tup ((jheld J (jrun J ws)).map wdD)]] := by
        rw [hAw, zd_snoc, jrun_snoc]; simp [duesD, due]
      have hdd : s'[dj]? = some (.lst (duesD (zd J js0 A) ++ [.tup [.tup ((jmade J (jrun J A).clock (jrun J A).kept w).map W9.prD), .int (jrun J ws).clock, .tup ((jheld J (jrun J ws)).map wdD)]])) := by rw [← hsn]; exact V.get 0 rfl
      try simp only [wp_cons, wp_nil, wp_asg, wp_expr, wp_retS, wp_retN, wp_iteS, wp_pass, wp_brk, wp_cont, wp_setIx, wp_augX, wp_asgT, wp_for, wp_varX, wp_cst, wp_bin, wp_cmp, wp_cmpT, wp_chainT, wp_chain, wp_and, wp_or, wp_not, wp_iteT, wp_negX, x_negI, x_slS, x_listT, x_tupT, x_bindT, setAll_cons, setAll_nil, true_and, and_true, eq_self, big0, big1, big2, big3, big4, big5, big6, big7, big8, big9, big10, wp_fld, wp_fldT, wp_mcall, wp_mcallT, wp_make, wp_setFld, wp_augFld, wp_asgF, wp_whil, wp_zip, insQ_some, asgFQ_eq, x_setFlds0, x_setFlds1, x_augA, x_augS, x_zipT, x_mulT1, x_mulT0, wp_andT, wp_orT, wp_notT, wp_iteE, wp_idx, wp_sl, wp_call, wp_callK, wp_call0, wp_globX, wp_dictA, wp_bi, wp_tup, wp_lstA, wp_dict0A, wp_meth, wp_lcA, wp_evs_nil, wp_evs_cons, wp_evo_none, wp_evo_some, wp_seq, wp_enum, wp_rng1, wp_rng2, wp_idxT, wp_varT, wp_callT, wp_callKT, wp_biT, x_truB, tsto_none, tsto_some,
  seqQ_nx, seqQ_ret, seqQ_bk, seqQ_ct, endQ_ret, endQ_nx, varQ_some, lstQ_some, dctQ_some, optQ_some, blQ_bl, inQ_int, rgQ_int, rg2Q_int,
  x_eqSS, x_eqII, x_neSS, x_neII, str_we, str_ew, decide_true, decide_false, if_true, if_false, Bool.false_eq_true, reduceIte, x_addI, x_addT, x_addS, x_subI, x_mulI, x_divI, x_modI, x_powI, x_ltI, x_leI, x_gtI, x_geI, x_is, x_isnot, x_isB, x_isNB, x_ixT, x_ixF, x_abs, x_lenT, x_lenF, x_intI, x_intB, x_max2, x_min2, x_seqT, x_seqF, x_slT, x_slFA,
  List.map_cons, List.map_nil, List.length_cons, List.length_nil, List.cons_append, List.nil_append, List.replicate_succ, List.replicate_zero, Nat.reduceSub, Nat.reduceAdd, List.set_cons_zero, List.set_cons_succ, List.getElem?_cons_zero, List.getElem?_cons_succ, Nat.add_zero, Nat.zero_add, Nat.sub_self, decide_eq_true_eq, x_ins h9, l3_kept, e_kept18, kept_wp (C := C4) jf g9, x_ixL hdd, W9.atI_last, a3, x_eqW sk sk (by decide) (by decide) rfl, sk.refl, e_next18, e_goes18]
      refine V.next36 (by decide) (by decide) fun r s8 V8 r0 r1 => ?_
      obtain ⟨n, rfl⟩ := Int.eq_ofNat_of_zero_le r0
      have e : (100 + (n : Int)) = ((100 + n : Nat) : Int) := by omega
      rw [x_addI, e]
      exact goes_wp hJ hw (by omega) (by omega) (V8.get 2 rfl) (V8.get 0 rfl) fun s9 K9 => q s9 (V8.call0 K9).kp (V8.call0 K9).pr
end
theorem e_right : C20.fn "_law_right" = callDef C17 15 b_l_right := f20_l_right
theorem e_words : C20.fn "_law_words" = callDef C14 13 words36_b := f20_l_words
theorem e_joining : C20.fn "_law_joining" = callDef C16 6 joining36_b := f20_l_joining
theorem e_next20 : C20.fn "_law_next" = callDef C0 4 next36_b := f20_l_next
theorem e_long : C20.fn "_law_long_right" = callDef C18 14 b_l_long_right := f20_l_long_right
theorem e_begin : C20.fn "_law_begin" = callDef C19 1 begin36_b := f20_l_begin
theorem law_wp (ns : List Int) (hl : ns.length ≤ 63) : wp (callDef C20 5 b_law [.fls (ns.map D.int)]) (fun d _ => d = .bl true) [] := by
  rw [wp_callDef]
  unfold b_law
  try simp only [wp_cons, wp_nil, wp_asg, wp_expr, wp_retS, wp_retN, wp_iteS, wp_pass, wp_brk, wp_cont, wp_setIx, wp_augX, wp_asgT, wp_for, wp_varX, wp_cst, wp_bin, wp_cmp, wp_cmpT, wp_chainT, wp_chain, wp_and, wp_or, wp_not, wp_iteT, wp_negX, x_negI, x_slS, x_listT, x_tupT, x_bindT, setAll_cons, setAll_nil, true_and, and_true, eq_self, big0, big1, big2, big3, big4, big5, big6, big7, big8, big9, big10, wp_fld, wp_fldT, wp_mcall, wp_mcallT, wp_make, wp_setFld, wp_augFld, wp_asgF, wp_whil, wp_zip, insQ_some, asgFQ_eq, x_setFlds0, x_setFlds1, x_augA, x_augS, x_zipT, x_mulT1, x_mulT0, wp_andT, wp_orT, wp_notT, wp_iteE, wp_idx, wp_sl, wp_call, wp_callK, wp_call0, wp_globX, wp_dictA, wp_bi, wp_tup, wp_lstA, wp_dict0A, wp_meth, wp_lcA, wp_evs_nil, wp_evs_cons, wp_evo_none, wp_evo_some, wp_seq, wp_enum, wp_rng1, wp_rng2, wp_idxT, wp_varT, wp_callT, wp_callKT, wp_biT, x_truB, tsto_none, tsto_some,
  seqQ_nx, seqQ_ret, seqQ_bk, seqQ_ct, endQ_ret, endQ_nx, varQ_some, lstQ_some, dctQ_some, optQ_some, blQ_bl, inQ_int, rgQ_int, rg2Q_int,
  x_eqSS, x_eqII, x_neSS, x_neII, str_we, str_ew, decide_true, decide_false, if_true, if_false, Bool.false_eq_true, reduceIte, x_addI, x_addT, x_addS, x_subI, x_mulI, x_divI, x_modI, x_powI, x_ltI, x_leI, x_gtI, x_geI, x_is, x_isnot, x_isB, x_isNB, x_ixT, x_ixF, x_abs, x_lenT, x_lenF, x_intI, x_intB, x_max2, x_min2, x_seqT, x_seqF, x_slT, x_slFA,
  List.map_cons, List.map_nil, List.length_cons, List.length_nil, List.cons_append, List.nil_append, List.replicate_succ, List.replicate_zero, Nat.reduceSub, Nat.reduceAdd, List.set_cons_zero, List.set_cons_succ, List.getElem?_cons_zero, List.getElem?_cons_succ, Nat.add_zero, Nat.zero_add, Nat.sub_self, decide_eq_true_eq, e_begin]
  refine begin36_wp (fun i c cs s1 K hi D1 => ?_) hl
  try simp only [wp_cons, wp_nil, wp_asg, wp_expr, wp_retS, wp_retN, wp_iteS, wp_pass, wp_brk, wp_cont, wp_setIx, wp_augX, wp_asgT, wp_for, wp_varX, wp_cst, wp_bin, wp_cmp, wp_cmpT, wp_chainT, wp_chain, wp_and, wp_or, wp_not, wp_iteT, wp_negX, x_negI, x_slS, x_listT, x_tupT, x_bindT, setAll_cons, setAll_nil, true_and, and_true, eq_self, big0, big1, big2, big3, big4, big5, big6, big7, big8, big9, big10, wp_fld, wp_fldT, wp_mcall, wp_mcallT, wp_make, wp_setFld, wp_augFld, wp_asgF, wp_whil, wp_zip, insQ_some, asgFQ_eq, x_setFlds0, x_setFlds1, x_augA, x_augS, x_zipT, x_mulT1, x_mulT0, wp_andT, wp_orT, wp_notT, wp_iteE, wp_idx, wp_sl, wp_call, wp_callK, wp_call0, wp_globX, wp_dictA, wp_bi, wp_tup, wp_lstA, wp_dict0A, wp_meth, wp_lcA, wp_evs_nil, wp_evs_cons, wp_evo_none, wp_evo_some, wp_seq, wp_enum, wp_rng1, wp_rng2, wp_idxT, wp_varT, wp_callT, wp_callKT, wp_biT, x_truB, tsto_none, tsto_some,
  seqQ_nx, seqQ_ret, seqQ_bk, seqQ_ct, endQ_ret, endQ_nx, varQ_some, lstQ_some, dctQ_some, optQ_some, blQ_bl, inQ_int, rgQ_int, rg2Q_int,
  x_eqSS, x_eqII, x_neSS, x_neII, str_we, str_ew, decide_true, decide_false, if_true, if_false, Bool.false_eq_true, reduceIte, x_addI, x_addT, x_addS, x_subI, x_mulI, x_divI, x_modI, x_powI, x_ltI, x_leI, x_gtI, x_geI, x_is, x_isnot, x_isB, x_isNB, x_ixT, x_ixF, x_abs, x_lenT, x_lenF, x_intI, x_intB, x_max2, x_min2, x_seqT, x_seqF, x_slT, x_slFA,
  List.map_cons, List.map_nil, List.length_cons, List.length_nil, List.cons_append, List.nil_append, List.replicate_succ, List.replicate_zero, Nat.reduceSub, Nat.reduceAdd, List.set_cons_zero, List.set_cons_succ, List.getElem?_cons_zero, List.getElem?_cons_succ, Nat.add_zero, Nat.zero_add, Nat.sub_self, decide_eq_true_eq, e_long]
  refine long_wp D1 fun s2 K2 D2 => ?_
  try simp only [wp_cons, wp_nil, wp_asg, wp_expr, wp_retS, wp_retN, wp_iteS, wp_pass, wp_brk, wp_cont, wp_setIx, wp_augX, wp_asgT, wp_for, wp_varX, wp_cst, wp_bin, wp_cmp, wp_cmpT, wp_chainT, wp_chain, wp_and, wp_or, wp_not, wp_iteT, wp_negX, x_negI, x_slS, x_listT, x_tupT, x_bindT, setAll_cons, setAll_nil, true_and, and_true, eq_self, big0, big1, big2, big3, big4, big5, big6, big7, big8, big9, big10, wp_fld, wp_fldT, wp_mcall, wp_mcallT, wp_make, wp_setFld, wp_augFld, wp_asgF, wp_whil, wp_zip, insQ_some, asgFQ_eq, x_setFlds0, x_setFlds1, x_augA, x_augS, x_zipT, x_mulT1, x_mulT0, wp_andT, wp_orT, wp_notT, wp_iteE, wp_idx, wp_sl, wp_call, wp_callK, wp_call0, wp_globX, wp_dictA, wp_bi, wp_tup, wp_lstA, wp_dict0A, wp_meth, wp_lcA, wp_evs_nil, wp_evs_cons, wp_evo_none, wp_evo_some, wp_seq, wp_enum, wp_rng1, wp_rng2, wp_idxT, wp_varT, wp_callT, wp_callKT, wp_biT, x_truB, tsto_none, tsto_some,
  seqQ_nx, seqQ_ret, seqQ_bk, seqQ_ct, endQ_ret, endQ_nx, varQ_some, lstQ_some, dctQ_some, optQ_some, blQ_bl, inQ_int, rgQ_int, rg2Q_int,
  x_eqSS, x_eqII, x_neSS, x_neII, str_we, str_ew, decide_true, decide_false, if_true, if_false, Bool.false_eq_true, reduceIte, x_addI, x_addT, x_addS, x_subI, x_mulI, x_divI, x_modI, x_powI, x_ltI, x_leI, x_gtI, x_geI, x_is, x_isnot, x_isB, x_isNB, x_ixT, x_ixF, x_abs, x_lenT, x_lenF, x_intI, x_intB, x_max2, x_min2, x_seqT, x_seqF, x_slT, x_slFA,
  List.map_cons, List.map_nil, List.length_cons, List.length_nil, List.cons_append, List.nil_append, List.replicate_succ, List.replicate_zero, Nat.reduceSub, Nat.reduceAdd, List.set_cons_zero, List.set_cons_succ, List.getElem?_cons_zero, List.getElem?_cons_succ, Nat.add_zero, Nat.zero_add, Nat.sub_self, decide_eq_true_eq, x_truB, Bool.not_true]
  rw [imin', imax', rngI_map]
  refine ⟨rng_okc (by omega) (by simp only [List.length_map]; omega), ?_⟩
  have V : Lv s2 [i, c] (Dr i c cs) [] s2 := Lv.start D2.old (own_dr i c cs) D2
  refine loopF_nx (gd := []) (fun i : Nat => D.int (i : Nat)) _ (fun P env s => ∃ y2 y3 y4, env = [some (.fls (ns.map D.int)), some (.ob i), y2, y3, y4] ∧ Lv s2 [i, c] (Dr i c cs) [] s) ?_ ?_ ⟨_, _, _, rfl, V⟩
  · rintro P a R env s hL ⟨y2, y3, y4, rfl, V⟩
    refine ⟨rfl, ?_⟩
    rw [wp_forF (env1 := [some (.fls (ns.map D.int)), some (.ob i), some (.int (a : Nat)), y3, y4]) rfl]
    unfold b_law_1
    try simp only [wp_cons, wp_nil, wp_asg, wp_expr, wp_retS, wp_retN, wp_iteS, wp_pass, wp_brk, wp_cont, wp_setIx, wp_augX, wp_asgT, wp_for, wp_varX, wp_cst, wp_bin, wp_cmp, wp_cmpT, wp_chainT, wp_chain, wp_and, wp_or, wp_not, wp_iteT, wp_negX, x_negI, x_slS, x_listT, x_tupT, x_bindT, setAll_cons, setAll_nil, true_and, and_true, eq_self, big0, big1, big2, big3, big4, big5, big6, big7, big8, big9, big10, wp_fld, wp_fldT, wp_mcall, wp_mcallT, wp_make, wp_setFld, wp_augFld, wp_asgF, wp_whil, wp_zip, insQ_some, asgFQ_eq, x_setFlds0, x_setFlds1, x_augA, x_augS, x_zipT, x_mulT1, x_mulT0, wp_andT, wp_orT, wp_notT, wp_iteE, wp_idx, wp_sl, wp_call, wp_callK, wp_call0, wp_globX, wp_dictA, wp_bi, wp_tup, wp_lstA, wp_dict0A, wp_meth, wp_lcA, wp_evs_nil, wp_evs_cons, wp_evo_none, wp_evo_some, wp_seq, wp_enum, wp_rng1, wp_rng2, wp_idxT, wp_varT, wp_callT, wp_callKT, wp_biT, x_truB, tsto_none, tsto_some,
  seqQ_nx, seqQ_ret, seqQ_bk, seqQ_ct, endQ_ret, endQ_nx, varQ_some, lstQ_some, dctQ_some, optQ_some, blQ_bl, inQ_int, rgQ_int, rg2Q_int,
  x_eqSS, x_eqII, x_neSS, x_neII, str_we, str_ew, decide_true, decide_false, if_true, if_false, Bool.false_eq_true, reduceIte, x_addI, x_addT, x_addS, x_subI, x_mulI, x_divI, x_modI, x_powI, x_ltI, x_leI, x_gtI, x_geI, x_is, x_isnot, x_isB, x_isNB, x_ixT, x_ixF, x_abs, x_lenT, x_lenF, x_intI, x_intB, x_max2, x_min2, x_seqT, x_seqF, x_slT, x_slFA,
  List.map_cons, List.map_nil, List.length_cons, List.length_nil, List.cons_append, List.nil_append, List.replicate_succ, List.replicate_zero, Nat.reduceSub, Nat.reduceAdd, List.set_cons_zero, List.set_cons_succ, List.getElem?_cons_zero, List.getElem?_cons_succ, Nat.add_zero, Nat.zero_add, Nat.sub_self, decide_eq_true_eq, e_joining, e_words, e_next20, e_right]
    refine joining_wp d16 V fun J s3 hJ V3 => ?_
    refine V3.next36 (by decide) (by decide) fun r s4 V4 r0 r1 => ?_
    try simp only [wp_cons, wp_nil, wp_asg, wp_expr, wp_retS, wp_retN, wp_iteS, wp_pass, wp_brk, wp_cont, wp_setIx, wp_augX, wp_asgT, wp_for, wp_varX, wp_cst, wp_bin, wp_cmp, wp_cmpT, wp_chainT, wp_chain, wp_and, wp_or, wp_not, wp_iteT, wp_negX, x_negI, x_slS, x_listT, x_tupT, x_bindT, setAll_cons, setAll_nil, true_and, and_true, eq_self, big0, big1, big2, big3, big4, big5, big6, big7, big8, big9, big10, wp_fld, wp_fldT, wp_mcall, wp_mcallT, wp_make, wp_setFld, wp_augFld, wp_asgF, wp_whil, wp_zip, insQ_some, asgFQ_eq, x_setFlds0, x_setFlds1, x_augA, x_augS, x_zipT, x_mulT1, x_mulT0, wp_andT, wp_orT, wp_notT, wp_iteE, wp_idx, wp_sl, wp_call, wp_callK, wp_call0, wp_globX, wp_dictA, wp_bi, wp_tup, wp_lstA, wp_dict0A, wp_meth, wp_lcA, wp_evs_nil, wp_evs_cons, wp_evo_none, wp_evo_some, wp_seq, wp_enum, wp_rng1, wp_rng2, wp_idxT, wp_varT, wp_callT, wp_callKT, wp_biT, x_truB, tsto_none, tsto_some,
  seqQ_nx, seqQ_ret, seqQ_bk, seqQ_ct, endQ_ret, endQ_nx, varQ_some, lstQ_some, dctQ_some, optQ_some, blQ_bl, inQ_int, rgQ_int, rg2Q_int,
  x_eqSS, x_eqII, x_neSS, x_neII, str_we, str_ew, decide_true, decide_false, if_true, if_false, Bool.false_eq_true, reduceIte, x_addI, x_addT, x_addS, x_subI, x_mulI, x_divI, x_modI, x_powI, x_ltI, x_leI, x_gtI, x_geI, x_is, x_isnot, x_isB, x_isNB, x_ixT, x_ixF, x_abs, x_lenT, x_lenF, x_intI, x_intB, x_max2, x_min2, x_seqT, x_seqF, x_slT, x_slFA,
  List.map_cons, List.map_nil, List.length_cons, List.length_nil, List.cons_append, List.nil_append, List.replicate_succ, List.replicate_zero, Nat.reduceSub, Nat.reduceAdd, List.set_cons_zero, List.set_cons_succ, List.getElem?_cons_zero, List.getElem?_cons_succ, Nat.add_zero, Nat.zero_add, Nat.sub_self, decide_eq_true_eq]
    by_cases hz : r + (a : Int) = 0
    · simp only [decide_eq_true hz, if_pos hz, if_true]
      try simp only [wp_cons, wp_nil, wp_asg, wp_expr, wp_retS, wp_retN, wp_iteS, wp_pass, wp_brk, wp_cont, wp_setIx, wp_augX, wp_asgT, wp_for, wp_varX, wp_cst, wp_bin, wp_cmp, wp_cmpT, wp_chainT, wp_chain, wp_and, wp_or, wp_not, wp_iteT, wp_negX, x_negI, x_slS, x_listT, x_tupT, x_bindT, setAll_cons, setAll_nil, true_and, and_true, eq_self, big0, big1, big2, big3, big4, big5, big6, big7, big8, big9, big10, wp_fld, wp_fldT, wp_mcall, wp_mcallT, wp_make, wp_setFld, wp_augFld, wp_asgF, wp_whil, wp_zip, insQ_some, asgFQ_eq, x_setFlds0, x_setFlds1, x_augA, x_augS, x_zipT, x_mulT1, x_mulT0, wp_andT, wp_orT, wp_notT, wp_iteE, wp_idx, wp_sl, wp_call, wp_callK, wp_call0, wp_globX, wp_dictA, wp_bi, wp_tup, wp_lstA, wp_dict0A, wp_meth, wp_lcA, wp_evs_nil, wp_evs_cons, wp_evo_none, wp_evo_some, wp_seq, wp_enum, wp_rng1, wp_rng2, wp_idxT, wp_varT, wp_callT, wp_callKT, wp_biT, x_truB, tsto_none, tsto_some,
  seqQ_nx, seqQ_ret, seqQ_bk, seqQ_ct, endQ_ret, endQ_nx, varQ_some, lstQ_some, dctQ_some, optQ_some, blQ_bl, inQ_int, rgQ_int, rg2Q_int,
  x_eqSS, x_eqII, x_neSS, x_neII, str_we, str_ew, decide_true, decide_false, if_true, if_false, Bool.false_eq_true, reduceIte, x_addI, x_addT, x_addS, x_subI, x_mulI, x_divI, x_modI, x_powI, x_ltI, x_leI, x_gtI, x_geI, x_is, x_isnot, x_isB, x_isNB, x_ixT, x_ixF, x_abs, x_lenT, x_lenF, x_intI, x_intB, x_max2, x_min2, x_seqT, x_seqF, x_slT, x_slFA,
  List.map_cons, List.map_nil, List.length_cons, List.length_nil, List.cons_append, List.nil_append, List.replicate_succ, List.replicate_zero, Nat.reduceSub, Nat.reduceAdd, List.set_cons_zero, List.set_cons_succ, List.getElem?_cons_zero, List.getElem?_cons_succ, Nat.add_zero, Nat.zero_add, Nat.sub_self, decide_eq_true_eq]
      refine words_wp (n := 40) d14 hJ (by decide) V4 fun f ws s5 hwl hw hr V5 => ?_
      refine right_wp hJ hw (by omega) (V5.get 0 rfl) (V5.nin (p := (f, .lst (ws.map wdD))) (by simp)) V5.pr fun s6 K6 D6 => ?_
      have V6 := (V5.call K6 D6 (own_dr i c cs)).nil
      try simp only [wp_cons, wp_nil, wp_asg, wp_expr, wp_retS, wp_retN, wp_iteS, wp_pass, wp_brk, wp_cont, wp_setIx, wp_augX, wp_asgT, wp_for, wp_varX, wp_cst, wp_bin, wp_cmp, wp_cmpT, wp_chainT, wp_chain, wp_and, wp_or, wp_not, wp_iteT, wp_negX, x_negI, x_slS, x_listT, x_tupT, x_bindT, setAll_cons, setAll_nil, true_and, and_true, eq_self, big0, big1, big2, big3, big4, big5, big6, big7, big8, big9, big10, wp_fld, wp_fldT, wp_mcall, wp_mcallT, wp_make, wp_setFld, wp_augFld, wp_asgF, wp_whil, wp_zip, insQ_some, asgFQ_eq, x_setFlds0, x_setFlds1, x_augA, x_augS, x_zipT, x_mulT1, x_mulT0, wp_andT, wp_orT, wp_notT, wp_iteE, wp_idx, wp_sl, wp_call, wp_callK, wp_call0, wp_globX, wp_dictA, wp_bi, wp_tup, wp_lstA, wp_dict0A, wp_meth, wp_lcA, wp_evs_nil, wp_evs_cons, wp_evo_none, wp_evo_some, wp_seq, wp_enum, wp_rng1, wp_rng2, wp_idxT, wp_varT, wp_callT, wp_callKT, wp_biT, x_truB, tsto_none, tsto_some,
  seqQ_nx, seqQ_ret, seqQ_bk, seqQ_ct, endQ_ret, endQ_nx, varQ_some, lstQ_some, dctQ_some, optQ_some, blQ_bl, inQ_int, rgQ_int, rg2Q_int,
  x_eqSS, x_eqII, x_neSS, x_neII, str_we, str_ew, decide_true, decide_false, if_true, if_false, Bool.false_eq_true, reduceIte, x_addI, x_addT, x_addS, x_subI, x_mulI, x_divI, x_modI, x_powI, x_ltI, x_leI, x_gtI, x_geI, x_is, x_isnot, x_isB, x_isNB, x_ixT, x_ixF, x_abs, x_lenT, x_lenF, x_intI, x_intB, x_max2, x_min2, x_seqT, x_seqF, x_slT, x_slFA,
  List.map_cons, List.map_nil, List.length_cons, List.length_nil, List.cons_append, List.nil_append, List.replicate_succ, List.replicate_zero, Nat.reduceSub, Nat.reduceAdd, List.set_cons_zero, List.set_cons_succ, List.getElem?_cons_zero, List.getElem?_cons_succ, Nat.add_zero, Nat.zero_add, Nat.sub_self, decide_eq_true_eq, x_truB, Bool.not_true]
      exact ⟨_, rfl, _, _, _, rfl, V6⟩
    · simp only [decide_eq_false hz, if_neg hz, Bool.false_eq_true, if_false]
      try simp only [wp_cons, wp_nil, wp_asg, wp_expr, wp_retS, wp_retN, wp_iteS, wp_pass, wp_brk, wp_cont, wp_setIx, wp_augX, wp_asgT, wp_for, wp_varX, wp_cst, wp_bin, wp_cmp, wp_cmpT, wp_chainT, wp_chain, wp_and, wp_or, wp_not, wp_iteT, wp_negX, x_negI, x_slS, x_listT, x_tupT, x_bindT, setAll_cons, setAll_nil, true_and, and_true, eq_self, big0, big1, big2, big3, big4, big5, big6, big7, big8, big9, big10, wp_fld, wp_fldT, wp_mcall, wp_mcallT, wp_make, wp_setFld, wp_augFld, wp_asgF, wp_whil, wp_zip, insQ_some, asgFQ_eq, x_setFlds0, x_setFlds1, x_augA, x_augS, x_zipT, x_mulT1, x_mulT0, wp_andT, wp_orT, wp_notT, wp_iteE, wp_idx, wp_sl, wp_call, wp_callK, wp_call0, wp_globX, wp_dictA, wp_bi, wp_tup, wp_lstA, wp_dict0A, wp_meth, wp_lcA, wp_evs_nil, wp_evs_cons, wp_evo_none, wp_evo_some, wp_seq, wp_enum, wp_rng1, wp_rng2, wp_idxT, wp_varT, wp_callT, wp_callKT, wp_biT, x_truB, tsto_none, tsto_some,
  seqQ_nx, seqQ_ret, seqQ_bk, seqQ_ct, endQ_ret, endQ_nx, varQ_some, lstQ_some, dctQ_some, optQ_some, blQ_bl, inQ_int, rgQ_int, rg2Q_int,
  x_eqSS, x_eqII, x_neSS, x_neII, str_we, str_ew, decide_true, decide_false, if_true, if_false, Bool.false_eq_true, reduceIte, x_addI, x_addT, x_addS, x_subI, x_mulI, x_divI, x_modI, x_powI, x_ltI, x_leI, x_gtI, x_geI, x_is, x_isnot, x_isB, x_isNB, x_ixT, x_ixF, x_abs, x_lenT, x_lenF, x_intI, x_intB, x_max2, x_min2, x_seqT, x_seqF, x_slT, x_slFA,
  List.map_cons, List.map_nil, List.length_cons, List.length_nil, List.cons_append, List.nil_append, List.replicate_succ, List.replicate_zero, Nat.reduceSub, Nat.reduceAdd, List.set_cons_zero, List.set_cons_succ, List.getElem?_cons_zero, List.getElem?_cons_succ, Nat.add_zero, Nat.zero_add, Nat.sub_self, decide_eq_true_eq]
      refine V4.next36 (by decide) (by decide) fun r' s5 V5 r0 r1 => ?_
      obtain ⟨n, rfl⟩ := Int.eq_ofNat_of_zero_le r0
      refine words_wp d14 hJ (by omega) V5 fun f ws s6 hwl hw hr V6 => ?_
      refine right_wp hJ hw (by omega) (V6.get 0 rfl) (V6.nin (p := (f, .lst (ws.map wdD))) (by simp)) V6.pr fun s7 K7 D7 => ?_
      have V7 := (V6.call K7 D7 (own_dr i c cs)).nil
      try simp only [wp_cons, wp_nil, wp_asg, wp_expr, wp_retS, wp_retN, wp_iteS, wp_pass, wp_brk, wp_cont, wp_setIx, wp_augX, wp_asgT, wp_for, wp_varX, wp_cst, wp_bin, wp_cmp, wp_cmpT, wp_chainT, wp_chain, wp_and, wp_or, wp_not, wp_iteT, wp_negX, x_negI, x_slS, x_listT, x_tupT, x_bindT, setAll_cons, setAll_nil, true_and, and_true, eq_self, big0, big1, big2, big3, big4, big5, big6, big7, big8, big9, big10, wp_fld, wp_fldT, wp_mcall, wp_mcallT, wp_make, wp_setFld, wp_augFld, wp_asgF, wp_whil, wp_zip, insQ_some, asgFQ_eq, x_setFlds0, x_setFlds1, x_augA, x_augS, x_zipT, x_mulT1, x_mulT0, wp_andT, wp_orT, wp_notT, wp_iteE, wp_idx, wp_sl, wp_call, wp_callK, wp_call0, wp_globX, wp_dictA, wp_bi, wp_tup, wp_lstA, wp_dict0A, wp_meth, wp_lcA, wp_evs_nil, wp_evs_cons, wp_evo_none, wp_evo_some, wp_seq, wp_enum, wp_rng1, wp_rng2, wp_idxT, wp_varT, wp_callT, wp_callKT, wp_biT, x_truB, tsto_none, tsto_some,
  seqQ_nx, seqQ_ret, seqQ_bk, seqQ_ct, endQ_ret, endQ_nx, varQ_some, lstQ_some, dctQ_some, optQ_some, blQ_bl, inQ_int, rgQ_int, rg2Q_int,
  x_eqSS, x_eqII, x_neSS, x_neII, str_we, str_ew, decide_true, decide_false, if_true, if_false, Bool.false_eq_true, reduceIte, x_addI, x_addT, x_addS, x_subI, x_mulI, x_divI, x_modI, x_powI, x_ltI, x_leI, x_gtI, x_geI, x_is, x_isnot, x_isB, x_isNB, x_ixT, x_ixF, x_abs, x_lenT, x_lenF, x_intI, x_intB, x_max2, x_min2, x_seqT, x_seqF, x_slT, x_slFA,
  List.map_cons, List.map_nil, List.length_cons, List.length_nil, List.cons_append, List.nil_append, List.replicate_succ, List.replicate_zero, Nat.reduceSub, Nat.reduceAdd, List.set_cons_zero, List.set_cons_succ, List.getElem?_cons_zero, List.getElem?_cons_succ, Nat.add_zero, Nat.zero_add, Nat.sub_self, decide_eq_true_eq, x_truB, Bool.not_true]
      exact ⟨_, rfl, _, _, _, rfl, V7⟩
  · rintro env s ⟨y2, y3, y4, rfl, V⟩
    refine ⟨rfl, ?_⟩
    try simp only [wp_cons, wp_nil, wp_asg, wp_expr, wp_retS, wp_retN, wp_iteS, wp_pass, wp_brk, wp_cont, wp_setIx, wp_augX, wp_asgT, wp_for, wp_varX, wp_cst, wp_bin, wp_cmp, wp_cmpT, wp_chainT, wp_chain, wp_and, wp_or, wp_not, wp_iteT, wp_negX, x_negI, x_slS, x_listT, x_tupT, x_bindT, setAll_cons, setAll_nil, true_and, and_true, eq_self, big0, big1, big2, big3, big4, big5, big6, big7, big8, big9, big10, wp_fld, wp_fldT, wp_mcall, wp_mcallT, wp_make, wp_setFld, wp_augFld, wp_asgF, wp_whil, wp_zip, insQ_some, asgFQ_eq, x_setFlds0, x_setFlds1, x_augA, x_augS, x_zipT, x_mulT1, x_mulT0, wp_andT, wp_orT, wp_notT, wp_iteE, wp_idx, wp_sl, wp_call, wp_callK, wp_call0, wp_globX, wp_dictA, wp_bi, wp_tup, wp_lstA, wp_dict0A, wp_meth, wp_lcA, wp_evs_nil, wp_evs_cons, wp_evo_none, wp_evo_some, wp_seq, wp_enum, wp_rng1, wp_rng2, wp_idxT, wp_varT, wp_callT, wp_callKT, wp_biT, x_truB, tsto_none, tsto_some,
  seqQ_nx, seqQ_ret, seqQ_bk, seqQ_ct, endQ_ret, endQ_nx, varQ_some, lstQ_some, dctQ_some, optQ_some, blQ_bl, inQ_int, rgQ_int, rg2Q_int,
  x_eqSS, x_eqII, x_neSS, x_neII, str_we, str_ew, decide_true, decide_false, if_true, if_false, Bool.false_eq_true, reduceIte, x_addI, x_addT, x_addS, x_subI, x_mulI, x_divI, x_modI, x_powI, x_ltI, x_leI, x_gtI, x_geI, x_is, x_isnot, x_isB, x_isNB, x_ixT, x_ixF, x_abs, x_lenT, x_lenF, x_intI, x_intB, x_max2, x_min2, x_seqT, x_seqF, x_slT, x_slFA,
  List.map_cons, List.map_nil, List.length_cons, List.length_nil, List.cons_append, List.nil_append, List.replicate_succ, List.replicate_zero, Nat.reduceSub, Nat.reduceAdd, List.set_cons_zero, List.set_cons_succ, List.getElem?_cons_zero, List.getElem?_cons_succ, Nat.add_zero, Nat.zero_add, Nat.sub_self, decide_eq_true_eq]
theorem law_true (ns : List Int) (hl : ns.length ≤ 63) (hb : ∀ z ∈ ns, Builtin.Int.intBits z ≤ 1048576) : ∃ sr, d_law.raw (rawT md ds20) md [.fls (ns.map D.int)] [] = .ok (.bl true) sr := by
  obtain ⟨d, s, e, rfl⟩ := law_wp ns hl
  exact ⟨s, e⟩
end K37

open PySem PySem.W PyProof.Rows
set_option maxRecDepth 100000 in
set_option maxHeartbeats 0 in
theorem PySem.Challenge.cw_wholelog_k37_joiners_step_by_step_holds : PySem.Challenge.rw_wholelog_k37_joiners_step_by_step.Holds := by
  w_on; o_law; k_head; (case hw => w_witness2)
  k_fill
  refine W9.walkR (l := PySem.Challenge.rw_wholelog_k37_joiners_step_by_step) (e := K37.d_law) (ds := K37.ds20) (bs := K37.bs) (gs := K37.gs) (cl := K37.cl) (gl := K37.gl) rfl (by decide) rfl (fun w h Y => PySem.W.kIn_of Y) ⟨rfl, by decide, by decide⟩ rfl rfl rfl ?F (fun ns hl hb => K37.law_true ns hl hb)
  case F =>
    intro w
    refine' ⟨⟨⟨?i20, K37.ch_law⟩, ⟨?i19, K37.ch_l_begin⟩, ⟨?i18, K37.ch_l_long_right⟩, ⟨?i17, K37.ch_l_right⟩, ⟨?i16, K37.ch_l_joining⟩, ⟨?i15, K37.ch_l_shows⟩, ⟨?i14, K37.ch_l_words⟩, ⟨?i13, K37.ch_l_of⟩, ⟨?i12, K37.ch_l_steps⟩, ⟨?i11, K37.ch_l_goes_on⟩, ⟨?i10, K37.ch_Joiner_take⟩, ⟨?i9, K37.ch_Joiner_may_pair⟩, ⟨?i8, K37.ch_is_late⟩, ⟨?i7, K37.ch_are_near⟩, ⟨?i6, K37.ch_pair_made⟩, ⟨?i5, K37.ch_Joiner_clock⟩, ⟨?i4, K37.ch_Joiner_kept⟩, ⟨?i3, K37.ch_Joiner_state⟩, ⟨?i2, K37.ch_joiner⟩, ⟨?i1, K37.ch_Joiner_init⟩, ⟨?i0, K37.ch_l_next⟩, trivial⟩, W9.forall_bs ?zz, ⟨?wcl0, trivial⟩, fun mg h kin G => ?gg⟩
    (case i0 => refine' W9.defIn_plain K37.bnd_l_next rfl rfl ?a ?l ?c ?k; (case a => k_is); (case l => k_is); (case c => k_is); (case k => k_is))
    (case i1 => refine' W9.defIn_mplain K37.bnd_Joiner_init rfl rfl (W9.clsN_mk ?wns ?wpg ?whd ?wpo ?wsa) ?a ?l ?c ?wfn ?k; (case wns => k_is); (case wpg => k_is); (case whd => k_is); (case wpo => k_is); (case wsa => k_is); (case a => k_is); (case l => k_is); (case c => k_is); (case wfn => k_is); (case k => k_is))
    (case i2 => refine' W9.defIn_plain K37.bnd_joiner rfl rfl ?a ?l ?c ?k; (case a => k_is); (case l => k_is); (case c => k_is); (case k => k_is))
    (case i3 => refine' W9.defIn_mplain K37.bnd_Joiner_state rfl rfl (W9.clsN_mk ?wns ?wpg ?whd ?wpo ?wsa) ?a ?l ?c ?wfn ?k; (case wns => k_is); (case wpg => k_is); (case whd => k_is); (case wpo => k_is); (case wsa => k_is); (case a => k_is); (case l => k_is); (case c => k_is); (case wfn => k_is); (case k => k_is))
    (case i4 => refine' W9.defIn_mplain K37.bnd_Joiner_kept rfl rfl (W9.clsN_mk ?wns ?wpg ?whd ?wpo ?wsa) ?a ?l ?c ?wfn ?k; (case wns => k_is); (case wpg => k_is); (case whd => k_is); (case wpo => k_is); (case wsa => k_is); (case a => k_is); (case l => k_is); (case c => k_is); (case wfn => k_is); (case k => k_is))
    (case i5 => refine' W9.defIn_mplain K37.bnd_Joiner_clock rfl rfl (W9.clsN_mk ?wns ?wpg ?whd ?wpo ?wsa) ?a ?l ?c ?wfn ?k; (case wns => k_is); (case wpg => k_is); (case whd => k_is); (case wpo => k_is); (case wsa => k_is); (case a => k_is); (case l => k_is); (case c => k_is); (case wfn => k_is); (case k => k_is))
    (case i6 => refine' W9.defIn_plain K37.bnd_pair_made rfl rfl ?a ?l ?c ?k; (case a => k_is); (case l => k_is); (case c => k_is); (case k => k_is))
    (case i7 => refine' W9.defIn_plain K37.bnd_are_near rfl rfl ?a ?l ?c ?k; (case a => k_is); (case l => k_is); (case c => k_is); (case k => k_is))
    (case i8 => refine' W9.defIn_plain K37.bnd_is_late rfl rfl ?a ?l ?c ?k; (case a => k_is); (case l => k_is); (case c => k_is); (case k => k_is))
    (case i9 => refine' W9.defIn_mplain K37.bnd_Joiner_may_pair rfl rfl (W9.clsN_mk ?wns ?wpg ?whd ?wpo ?wsa) ?a ?l ?c ?wfn ?k; (case wns => k_is); (case wpg => k_is); (case whd => k_is); (case wpo => k_is); (case wsa => k_is); (case a => k_is); (case l => k_is); (case c => k_is); (case wfn => k_is); (case k => k_is))
    (case i10 => refine' W9.defIn_mplain K37.bnd_Joiner_take rfl rfl (W9.clsN_mk ?wns ?wpg ?whd ?wpo ?wsa) ?a ?l ?c ?wfn ?k; (case wns => k_is); (case wpg => k_is); (case whd => k_is); (case wpo => k_is); (case wsa => k_is); (case a => k_is); (case l => k_is); (case c => k_is); (case wfn => k_is); (case k => k_is))
    (case i11 => refine' W9.defIn_plain K37.bnd_l_goes_on rfl rfl ?a ?l ?c ?k; (case a => k_is); (case l => k_is); (case c => k_is); (case k => k_is))
    (case i12 => refine' W9.defIn_plain K37.bnd_l_steps rfl rfl ?a ?l ?c ?k; (case a => k_is); (case l => k_is); (case c => k_is); (case k => k_is))
    (case i13 => refine' W9.defIn_plain K37.bnd_l_of rfl rfl ?a ?l ?c ?k; (case a => k_is); (case l => k_is); (case c => k_is); (case k => k_is))
    (case i14 => refine' W9.defIn_plain K37.bnd_l_words rfl rfl ?a ?l ?c ?k; (case a => k_is); (case l => k_is); (case c => k_is); (case k => k_is))
    (case i15 => refine' W9.defIn_plain K37.bnd_l_shows rfl rfl ?a ?l ?c ?k; (case a => k_is); (case l => k_is); (case c => k_is); (case k => k_is))
    (case i16 => refine' W9.defIn_plain K37.bnd_l_joining rfl rfl ?a ?l ?c ?k; (case a => k_is); (case l => k_is); (case c => k_is); (case k => k_is))
    (case i17 => refine' W9.defIn_plain K37.bnd_l_right rfl rfl ?a ?l ?c ?k; (case a => k_is); (case l => k_is); (case c => k_is); (case k => k_is))
    (case i18 => refine' W9.defIn_plain K37.bnd_l_long_right rfl rfl ?a ?l ?c ?k; (case a => k_is); (case l => k_is); (case c => k_is); (case k => k_is))
    (case i19 => refine' W9.defIn_plain K37.bnd_l_begin rfl rfl ?a ?l ?c ?k; (case a => k_is); (case l => k_is); (case c => k_is); (case k => k_is))
    (case i20 => refine' W9.defIn_plain K37.bnd_law rfl rfl ?a ?l ?c ?k; (case a => k_is); (case l => k_is); (case c => k_is); (case k => k_is))
    (case wcl0 => refine' W9.clsF_mk ?wns ?wpg ?whd ?wpo ?wsa ?wmk ?wkp ⟨?wnf0, ?wnf1, ?wnf2, trivial⟩; (case wns => k_is); (case wpg => k_is); (case whd => k_is); (case wpo => k_is); (case wsa => k_is); (case wmk => k_is); (case wkp => k_is); (case wnf0 => k_is); (case wnf1 => k_is); (case wnf2 => k_is))
    (case gg => refine' W9.gls_nil)
    (case zz => refine' ⟨?z0, ?z1, ?z2, ?z3, ?z4, ?z5, ?z6, ?z7, ?z8, ?z9, ?z10, trivial⟩; (case z0 => k_is); (case z1 => k_is); (case z2 => k_is); (case z3 => k_is); (case z4 => k_is); (case z5 => k_is); (case z6 => k_is); (case z7 => k_is); (case z8 => k_is); (case z9 => k_is); (case z10 => k_is))
#print axioms PySem.Challenge.cw_wholelog_k37_joiners_step_by_step_holds
