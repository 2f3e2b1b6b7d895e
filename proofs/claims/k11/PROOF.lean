import PyProof.Rows.All
import HandS.TupMul
import HandS.DictComp
import HandS.Walk
import HandS.Comp
import HandS.Sort
import HandS.Conv
import HandS.DictTup
import KE.KDictCopyH
import HandS.ForMost
import HandS.Flow
import HandS.Wide
import HandS.EndBits
import HandS.TupAny
import HandS.TupLe
import HandS.Deep
import HandS.SortInts
import HandS.Style
import HandS.NoneIn
import KE.GoesEnum
import KE.GoesMore
import HandS.RaiseMore
import HandS.TryOnly
import HandS.SetKeys
import PyProof.DictMoreH
import HandS.Defaults
import HandS.SetFor
import HandS.SetBool
import HandS.Strs
import HandS.Zip
import HandS.Words
import PySem.Challenge.RW_wholelog_k11_last_ones_and_reading_on
set_option Elab.async false
set_option linter.all false
set_option maxRecDepth 100000
set_option maxHeartbeats 4000000
/-! W9A: a tuple times 0 and 1 -/
namespace W9
open PySem PySem.Spec PyProof.Rows L2
theorem tuple_mul1 (l : Addr) (items : Array Value) (n : Nat) (dd : Option Addr) (sl : Array (Option Value)) (u : Tok) :
    Meets (Builtin.«tuple.__mul__» ⟨[.ref l, .int 1 u], []⟩) (fun _ R s => s.heap.get? l = some { cls := .type "tuple", dict := dd, data := .seq items n, slots := sl } ∧
      R (.ok (.ret (Value.ref l))) s) :=
  .of_wp fun prog w A R s h => by
    obtain ⟨hp, g, d, tk, os⟩ := s
    obtain ⟨hl, h⟩ := h
    have f1 := AutoSeq1.idx_int
    wp_walk using wpAny_loadPart' hl
    exact ⟨_, rfl, h⟩
theorem tuple_mul0 (l : Addr) (items : Array Value) (n : Nat) (dd : Option Addr) (sl : Array (Option Value)) (u : Tok) (c1 : (items.isEmpty || (0 : Int) == 1) = false) :
    Meets (Builtin.«tuple.__mul__» ⟨[.ref l, .int 0 u], []⟩) (fun _ R s => s.heap.get? l = some { cls := .type "tuple", dict := dd, data := .seq items n, slots := sl } ∧
      R (.ok (.ret (Value.ref s.heap.objs.size))) { s with heap := s.heap.push { cls := Value.type "tuple", data := Data.seq #[] }, toks := s.toks }) :=
  .of_wp fun prog w A R s h => by
    obtain ⟨hp, g, d, tk, os⟩ := s
    obtain ⟨hl, h⟩ := h
    have f1 := AutoSeq1.idx_int
    wp_walk using wpAny_loadPart' hl
    repeat (first
      | (refine wpAny_ite_false (decide_eq_false (by rw [c1]; exact Bool.false_ne_true)) ?_; wp_walk using wpAny_loadPart' hl))
    exact ⟨_, rfl, h⟩
section
variable {X : Cx}
theorem op_repT1 : OpR X (binaryOp .Mult) (fun x y H Q => ∃ l xs, x = .ref l ∧ y = .int 1 ∧ SqT X.K H l xs ∧ Q (.ref l) H) := by
  intro pins s σ H x y v u Q I rx ry h
  obtain ⟨l, xs, rfl, rfl, hT, q⟩ := h
  cases rx
  obtain ⟨t, rfl⟩ := ry
  obtain ⟨its, r, ⟨⟨cls, dd, data, sl⟩, ho, hc, n, hd⟩, hs⟩ := I.tuple hT
  simp only at hc hd
  subst hc hd
  refine wpAny_binaryOp_repeat_ref (T := "tuple") (U := "int") (by decide) ⟨_, ho, rfl⟩ (fun s' => typeIs_int s' 1 t) noFill_tuple_mul F.fills_int_mul F.slot_int_rmul repeat_tuple F.slot_int_index.lookup
    (call_meets F.slot_int_rmul (typeIs_int s 1 t) F.entry_int_rmul (F.args_int_rmul_2 _ _) (int_rmul_tuple 1 t l its.toArray n dd sl)
      ⟨ho, rfl, ⟨_, ho, rfl⟩, call_meets F.slot_tuple_mul ⟨_, ho, rfl⟩ F.entry_tuple_mul (F.args_tuple_mul_2 _ _) (tuple_mul1 l its.toArray n dd sl t) ⟨ho, ?_⟩⟩)
  exact ⟨.ref l, H, I, rfl, q⟩
theorem op_repT0 : OpR X (binaryOp .Mult) (fun x y H Q => ∃ l xs, x = .ref l ∧ y = .int 0 ∧ SqT X.K H l xs ∧ xs ≠ [] ∧ ∀ p, H p = none → Q (.ref p) (upd H p (.tup []))) := by
  intro pins s σ H x y v u Q I rx ry h
  obtain ⟨l, xs, rfl, rfl, hT, hne, q⟩ := h
  cases rx
  obtain ⟨t, rfl⟩ := ry
  obtain ⟨its, r, ⟨⟨cls, dd, data, sl⟩, ho, hc, n, hd⟩, hs⟩ := I.tuple hT
  simp only at hc hd
  subst hc hd
  have hle : its.length = xs.length := r.length.symm
  have hn : its ≠ [] := fun e => hne (by
    rw [e] at hle
    exact List.eq_nil_of_length_eq_zero hle.symm)
  have c1 : (its.toArray.isEmpty || (0 : Int) == 1) = false := by
    cases its with
    | nil => exact absurd rfl hn
    | cons a b => rfl
  refine wpAny_binaryOp_repeat_ref (T := "tuple") (U := "int") (by decide) ⟨_, ho, rfl⟩ (fun s' => typeIs_int s' 0 t) noFill_tuple_mul F.fills_int_mul F.slot_int_rmul repeat_tuple F.slot_int_index.lookup
    (call_meets F.slot_int_rmul (typeIs_int s 0 t) F.entry_int_rmul (F.args_int_rmul_2 _ _) (int_rmul_tuple 0 t l its.toArray n dd sl)
      ⟨ho, rfl, ⟨_, ho, rfl⟩, call_meets F.slot_tuple_mul ⟨_, ho, rfl⟩ F.entry_tuple_mul (F.args_tuple_mul_2 _ _) (tuple_mul0 l its.toArray n dd sl t c1) ⟨ho, ?_⟩⟩)
  refine ⟨.ref s.heap.objs.size, _, I.laid (t' := s.toks) (o := .tup []) (fun b ob q => Heap.get?_push_of_some _ q) (Nat.le_refl _) ?_, rfl, q _ (I.hok.fresh (Nat.le_refl _))⟩
  exact ⟨by rw [sizeLine_eq]; decide, _, .nil, IsTup.new _ _⟩
end
end W9

/-! W9B: dict comprehensions: a walk, an assignment -/
namespace W9
open PySem PySem.Spec L2 PyProof.Rows
section
variable {X : Cx}
/-- name = {k: v for ..} on one line, the name a local -/
theorem ps_setDc {i : Nat} {y : Str} {py : Pos} {kx vx tg iter : Expr} {ifs : List Expr} {scope : Scope} {own : List (Str × Nat)} {pos spos : Pos} {wi : TI} {g : TG} {tt : TT} {tk tv : TE} (hc : X.calm = true) (hN : X.N.Nodup) (hy : X.N[i]? = some y) (hyl : X.env.scope.names.lookup y = some .local)
    (hsw : swapsWith (.DictComp kx vx [⟨tg, iter, ifs, 0⟩] scope pos) (some (.Name y py)) spos.line X.env = pure true) (hi : PI X tg iter wi) (ok : BlkOk X.N X.env.scope scope own)
    (hg : ∀ (s : Shared) (H : Hp) (C : Addr) (cl : List (Str × Addr)) (fp : List Addr), PG (X.blk s H scope (compEnvC scope cl C X.env) fp) tg g) (ht : ∀ (s : Shared) (H : Hp) (C : Addr) (cl : List (Str × Addr)) (fp : List Addr), PTs (X.blk s H scope (compEnvC scope cl C X.env) fp) ifs tt)
    (hk : ∀ (s : Shared) (H : Hp) (C : Addr) (cl : List (Str × Addr)) (fp : List Addr), PE (X.blk s H scope (compEnvC scope cl C X.env) fp) kx tk)
    (he : ∀ (s : Shared) (H : Hp) (C : Addr) (cl : List (Str × Addr)) (fp : List Addr), PE (X.blk s H scope (compEnvC scope cl C X.env) fp) vx tv) (hs : ∀ x, foldedSetIterable iter X.env x = pure x) :
    PS X (.Assign [.Name y py] (.DictComp kx vx [⟨tg, iter, ifs, 0⟩] scope pos) spos) (tAsg (tDc wi g tt tk tv (own.map (·.2))) (gName i)) := by
  refine ⟨fun pins s σ H D I h => ?_⟩
  rw [exec_Assign_Name_used _ _ _ _ hsw]
  refine wpAny_bind (wpAny_standAt (wpAny_bind ?_))
  show wpAny _ X.A (do let _ ← comprehension (.DictComp kx vx [⟨tg, iter, ifs, 0⟩] scope pos) scope X.env (firstIterPos [⟨tg, iter, ifs, 0⟩] pos) newDict false (eval iter X.env) (some (assign (.Name y py) X.env))) _ _ s
  have h : tDc wi g tt tk tv (own.map (·.2)) σ H (fun x H1 => gName i x σ H1 D.nx) := h
  refine wpAny_bind (thn (dc_core (Qf := fun _ s' => SP X pins D .next s') hc hN I hi ok hg ht hk he hs h fun L C s' m H' I' q hn f => ?_) fun _ s' hq => wpAny_pure (wpAny_pure hq))
  show wpAny _ _ (assign (.Name y py) X.env (.ref L)) _ _ _
  refine wpAny_assign_Name (store_ok2 (v := V.ref L) I' hN hy (.inl hyl) rfl (fun s2 I2 ⟨a, sb, ha⟩ => ?_) (.inr hyl))
  obtain ⟨f0, f1, f2, f3, f4, f5⟩ := f
  have haC : C ≠ a := by
    rcases ha with z | z
    · rw [z]; exact f1
    · exact fun e => f4 y a z e.symm
  refine ⟨m, hn.sameBut sb haC, fun h3 sb3 => ?_⟩
  exact ⟨_, H', I2.turned (t' := s2.toks) (fun b o hb e => (sb3.2 b hb).trans e) f0 f1 f3 f4 f5, q⟩
end
section
variable {J : It} {n : Nat} {G : Hp → Prop} {Y : Nat → Hp → V → Hp → Prop}
/-- a dict comprehension over a walk -/
theorem dc_it (w : Walk J n G Y) {g : TG} {tt : TT} {tk tv : TE} {vs : List Nat} {σ : L2.St} {H1 : Hp} {D : Addr} {Qd : Hp → Prop} (Pv : Nat → Hp → Prop) (h0 : Pv 0 (upd H1 D (.dK []))) (hG : ∀ i H, i ≤ n → Pv i H → G H)
    (hs : ∀ i x H H', i < n → Pv i H → Y i H x H' → g x (wipe σ vs) H' fun σ2 H2 => wipe σ2 vs = wipe σ vs ∧ tt σ2 H2 fun b H3 =>
      if b = true then tk σ2 H3 fun y H4 => tv σ2 H4 fun z H5 => ∃ kvs k, y = kV k ∧ H5 D = some (.dK kvs) ∧ kvs.length < sizeLine ∧ Pv (i + 1) (upd H5 D (.dK (putK kvs k z))) else Pv (i + 1) H3) (hd : ∀ H, Pv n H → Qd H) :
    ∃ W : Nat → Nat → Hp → Prop, (∃ m, W 0 m (upd H1 D (.dK []))) ∧ ∀ i m H, W i m H →
      (J.stop i H ∧ Qd H) ∨ (J.go i H ∧ ∃ Nx : Hp → Prop, (∀ H', Nx H' → ∃ m', m' < m ∧ W (i + 1) m' H') ∧ ∀ x H', J.yld i H x H' → g x (wipe σ vs) H' fun σ2 H2 => wipe σ2 vs = wipe σ vs ∧ tt σ2 H2 fun b H3 =>
        if b = true then tk σ2 H3 fun y H4 => tv σ2 H4 fun z H5 => ∃ kvs k, y = kV k ∧ H5 D = some (.dK kvs) ∧ kvs.length < sizeLine ∧ Nx (upd H5 D (.dK (putK kvs k z))) else Nx H3) := by
  refine ⟨fun i m H => m = n - i ∧ i ≤ n ∧ Pv i H, ⟨n, by simp, Nat.zero_le _, h0⟩, ?_⟩
  rintro i m H ⟨rfl, hi, p⟩
  have q := hG i H hi p
  by_cases hlt : i < n
  · refine .inr ⟨w.goes i H hlt q, Pv (i + 1), fun H' p' => ⟨n - (i + 1), by omega, rfl, hlt, p'⟩, fun x H' y => hs i x H H' hlt p (w.yields i H x H' hlt q y)⟩
  · have e : i = n := by omega
    subst e
    exact .inl ⟨w.stops H q, hd H p⟩
end
end W9

/-! W9D: list(d.values()) -/
namespace W9
open PySem PySem.Spec L2 PyProof.Rows PySem.W
/-- the values of the dict at a -/
def ValsAt (H : Hp) (a : Addr) (vs : List V) : Prop := (∃ kvs, H a = some (.dK kvs) ∧ vs = kvs.map (·.2)) ∨ (∃ kvs, H a = some (.dT kvs) ∧ vs = kvs.map (·.2))
theorem vals_raw {P : Program} {w : World} {H : Hp} {h : Heap} {a : Addr} {vs : List V} (ok : HOk P w H h) (e : ValsAt H a vs) : vs.length ≤ sizeLine ∧ (a == sysModules) = false ∧ ∃ es ep, h.DictRaw a es ep ∧ es.size = vs.length ∧ ∀ i (hi : i < es.size) v, vs[i]? = some v → RelV v es[i].val := by
  rcases e with ⟨kvs, e, rfl⟩ | ⟨kvs, e, rfl⟩
  · obtain ⟨z, hs, us, rel, dof⟩ := dk_of ok e
    obtain ⟨es, ep, hr, hz, hat⟩ := dof.raw
    have hl : kvs.length = us.length := KV.length rel
    refine ⟨by rw [List.length_map]; exact z, hs, es, ep, hr, by rw [hz, List.length_map, hl], fun i hi v hv => ?_⟩
    have hiu : i < us.length := by rw [← hz]; exact hi
    obtain ⟨k, u, hku⟩ : ∃ k u, us[i]? = some (k, u) := ⟨_, _, List.getElem?_eq_getElem hiu⟩
    obtain ⟨x, g1, g2⟩ := KV.at' rel hku
    rw [List.getElem?_map, g1] at hv
    cases hv
    rw [(hat i hi k u hku).2]
    exact g2
  · obtain ⟨z, hs, us, rel, dof⟩ := dt_of ok e
    obtain ⟨es, ep, hr, hz, hat⟩ := dof.raw
    have hl : kvs.length = us.length := Paired.length rel
    refine ⟨by rw [List.length_map]; exact z, hs, es, ep, hr, by rw [hz, List.length_map, hl], fun i hi v hv => ?_⟩
    obtain ⟨y, hy, _, hval, _⟩ := hat i hi
    rw [hval]
    rw [List.getElem?_map] at hv
    obtain ⟨p, hp, rfl⟩ := Option.map_eq_some_iff.mp hv
    clear hat hval hr hz
    have : ∀ {kvs : List (List Key × V)} {us : List (List Key × Addr × Value)} (i : Nat), Paired (fun (p : List Key × V) (q : List Key × Addr × Value) => p.1 = q.1 ∧ H q.2.1 = some (.tup (p.1.map kV)) ∧ RelV p.2 q.2.2) kvs us → kvs[i]? = some p → us[i]? = some y → RelV p.2 y.2.2 := by
      intro kvs us i r
      induction r generalizing i with
      | nil => intro h; simp at h
      | cons h r ih =>
        cases i with
        | zero =>
          intro h1 h2
          simp at h1 h2
          subst h1 h2
          exact h.2.2
        | succ i =>
          intro h1 h2
          exact ih i (by simpa using h1) (by simpa using h2)
    exact this i rel hp hy
section
variable {X : Cx} {o : Expr} {p pos apos mpos : Pos} {td : TE}
def tListVals (td : TE) : TE := fun σ H Q => td σ H fun x H1 => ∃ a vs, x = V.ref a ∧ ValsAt H1 a vs ∧ ∀ q, H1 q = none → Q (.ref q) (upd H1 q (.lst vs))
theorem pe_listVals (hc : X.calm = true) (hg : Gl X "list") (hm : X.mg "list" = none) (hd : PE X o td) (hbase : attributeBase o "values" X.env (eval o X.env) = eval o X.env) (hline : (apos.endLine == mpos.line) = true)
    (hse : starEach [Expr.Call (.Attribute o "values" apos) [] [] mpos] X.env = [(false, eval (Expr.Call (.Attribute o "values" apos) [] [] mpos) X.env)] := by rfl) :
    PE X (.Call (.Name "list" p) [.Call (.Attribute o "values" apos) [] [] mpos] [] pos) (tListVals td) := by
  refine ⟨fun pins s σ H Q I h => ?_⟩
  refine wpAny_Call_Name_kw (ld_blt I hg hm (u := .type "list") (by first | rfl | decide +kernel) ?_ (by first | decide +kernel | decide) (by first | decide +kernel | decide))
  rw [hse]
  refine PySem.callWith_type1 (wpAny_Call_method0_late hbase hline (thn (hd.run pins s σ H _ I h) fun v s1 ⟨x, H1, I1, r1, a, vs, ex, ha, q⟩ => ?_))
  subst ex
  obtain rfl : v = Value.ref a := r1
  obtain ⟨z, hsys, es, ep, raw, hz, hat⟩ := vals_raw I1.hok ha
  have raw' := raw
  obtain ⟨ob, ho, ex, hdat⟩ := raw'
  refine ⟨"dict", "dict.values", F.plainAttrs_dict, F.slot_dict_values, F.type_dict_values, ⟨ob, ho, ex.1⟩, fun b e => ?_, Calls.callWith_builtin rfl (PySem.evalArgs_none ?_)⟩
  · cases e
    exact ⟨ob, ho, ex.2.1⟩
  refine call_meetsIn F.slot_dict_values ⟨ob, ho, ex.1⟩ F.entry_dict_values (F.args_dict_values_1 _) (meets_dict_values_raw a hsys) ⟨⟨es, ep, raw⟩, ?_⟩
  have k1 : ∀ b u, s1.heap.get? b = some u → (s1.heap.push { cls := .type "dict_values", data := .fields #[.ref a] }).get? b = some u := fun b u e => Heap.get?_push_of_some _ e
  refine PySem.W.kdl_call (KdlSrc.rawValues (r := s1.heap.objs.size) (d := a) (es := es) (ep := ep)) (I1.ok.hd hc) ⟨⟨_, Heap.get?_push_size _ rfl, rfl, rfl⟩, raw.at fun o e => k1 a o e⟩ (by rw [hz]; exact z) fun h' tk acc' c' hkeep hS hacc => ?_
  have hsz : (s1.heap.push { cls := .type "dict_values", data := .fields #[.ref a] }).objs.size = s1.heap.objs.size + 1 := Heap.size_push _ _
  refine ⟨.ref _, upd H1 _ (.lst vs), I1.laid (fun b u e => hkeep b u (k1 b u e)) (by rw [hsz]; exact Nat.le_succ _) (show ObjOk X.prog X.w _ _ _ (.lst vs) from ⟨z, acc'.toList, c', ?_, ?_⟩), rfl, q _ (I1.hok.fresh (by rw [hsz]; exact Nat.le_succ _))⟩
  · have el : acc'.toList.length = acc'.size := by simp
    refine vals_of_at (by rw [el, hacc.1, hz]) fun j x w h1 h2 => ?_
    obtain ⟨hi, hw⟩ := hacc.2 j w (by rw [← Array.getElem?_toList]; exact h2)
    rw [hw]
    exact hat j hi x h1
  · rw [Array.toArray_toList]; exact hS
end
end W9

/-! W9a: data as trees, a store of objects, and how both lie in the hand layer's heap -/
namespace W9
open PySem L2

/-- data: immutable things as trees, mutable ones by their number in the store -/
inductive D where
  | non | bl (b : Bool) | int (i : Int) | str (s : Str) | tup (xs : List D) | fls (xs : List D) | ob (i : Nat)
mutual
def D.beq : D → D → Bool
  | .non, .non => true
  | .bl a, .bl b => a == b
  | .int a, .int b => a == b
  | .str a, .str b => decide (a = b)
  | .tup a, .tup b => D.beqs a b
  | .fls a, .fls b => D.beqs a b
  | .ob a, .ob b => a == b
  | _, _ => false
def D.beqs : List D → List D → Bool
  | [], [] => true
  | a :: as, b :: bs => D.beq a b && D.beqs as bs
  | _, _ => false
end
mutual
theorem D.beq_iff : ∀ a b : D, D.beq a b = true ↔ a = b
  | .non, b => by cases b <;> simp [D.beq]
  | .bl x, b => by cases b <;> simp [D.beq]
  | .int x, b => by cases b <;> simp [D.beq]
  | .str x, b => by cases b <;> simp [D.beq]
  | .ob x, b => by cases b <;> simp [D.beq]
  | .tup xs, b => by
    cases b with
    | tup ys => simp only [D.beq, D.tup.injEq]; exact D.beqs_iff xs ys
    | _ => simp [D.beq]
  | .fls xs, b => by
    cases b with
    | fls ys => simp only [D.beq, D.fls.injEq]; exact D.beqs_iff xs ys
    | _ => simp [D.beq]
theorem D.beqs_iff : ∀ a b : List D, D.beqs a b = true ↔ a = b
  | [], [] => by simp [D.beqs]
  | [], _ :: _ => by simp [D.beqs]
  | _ :: _, [] => by simp [D.beqs]
  | x :: xs, y :: ys => by simp only [D.beqs, Bool.and_eq_true, List.cons.injEq, D.beq_iff x y, D.beqs_iff xs ys]
end
instance : DecidableEq D := fun a b => decidable_of_iff _ (D.beq_iff a b)

inductive Ob where
  | lst (xs : List D) | dct (kvs : List (D × D)) | ins (c : Str) (fs : List (Str × D))
  deriving DecidableEq
abbrev Store := List Ob

/-- the one tuple of the program's top -/
abbrev bookD : List D := [.str "book", .int 0]
/-! ### how data lie -/
/-- a list that is never written: the script, a list of the module -/
def SqF (K : PySem.W.Frag) (H : Hp) (a : Addr) (xs : List V) : Prop := (∃ o, H a = some (.frz o (.lst xs))) ∨
  ∃ (o : Obj) (its : Array Value) (n : Nat), K.lookup a = some o ∧ o.cls = .type "list" ∧ o.dict = none ∧ o.data = .seq its n ∧ its.size ≤ sizeLine ∧ Vals xs its.toList
theorem SqF.sq {K : PySem.W.Frag} {H : Hp} {a : Addr} {xs : List V} (h : SqF K H a xs) : SqL K H a xs := by
  rcases h with ⟨o, h⟩ | h
  · exact .inl (.inr ⟨o, h⟩)
  · exact .inr h
mutual
inductive Rep (K : PySem.W.Frag) (ρ : List Addr) (H : Hp) : D → V → Prop
  | non : Rep K ρ H .non .non
  | bl (b : Bool) : Rep K ρ H (.bl b) (.bl b)
  | int (i : Int) : Rep K ρ H (.int i) (.int i)
  | str (x : Str) : Rep K ρ H (.str x) (.str x)
  | tup {a : Addr} {ds : List D} {vs : List V} : SqT K H a vs → Reps K ρ H ds vs → (H a = some (.tup vs) ∨ ds = bookD) → Rep K ρ H (.tup ds) (.ref a)
  | fls {a : Addr} {ds : List D} {vs : List V} : SqF K H a vs → Reps K ρ H ds vs → Rep K ρ H (.fls ds) (.ref a)
  | ob {i : Nat} {a : Addr} : ρ[i]? = some a → Rep K ρ H (.ob i) (.ref a)
inductive Reps (K : PySem.W.Frag) (ρ : List Addr) (H : Hp) : List D → List V → Prop
  | nil : Reps K ρ H [] []
  | cons {d : D} {ds : List D} {v : V} {vs : List V} : Rep K ρ H d v → Reps K ρ H ds vs → Reps K ρ H (d :: ds) (v :: vs)
end

/-- keys of dicts -/
def keyD : D → Option Key
  | .int i => some (.inl i)
  | .str s => some (.inr s)
  | _ => none
def keysD : List D → Option (List Key)
  | [] => some []
  | d :: ds => match keyD d, keysD ds with
    | some k, some ks => some (k :: ks)
    | _, _ => none
def keyT : D → Option (List Key)
  | .tup ds => if ds = bookD then none else keysD ds
  | _ => none
/-- a dict's pairs as the hand layer has them -/
inductive KvK (K : PySem.W.Frag) (ρ : List Addr) (H : Hp) : List (D × D) → List (Key × V) → Prop
  | nil : KvK K ρ H [] []
  | cons {k d : D} {r : List (D × D)} {key : Key} {v : V} {vr : List (Key × V)} : keyD k = some key → Rep K ρ H d v → KvK K ρ H r vr → KvK K ρ H ((k, d) :: r) ((key, v) :: vr)
inductive KvT (K : PySem.W.Frag) (ρ : List Addr) (H : Hp) : List (D × D) → List (List Key × V) → Prop
  | nil : KvT K ρ H [] []
  | cons {k d : D} {r : List (D × D)} {key : List Key} {v : V} {vr : List (List Key × V)} : keyT k = some key → Rep K ρ H d v → KvT K ρ H r vr → KvT K ρ H ((k, d) :: r) ((key, v) :: vr)

/-- the class of a name -/
structure ClsN (K : PySem.W.Frag) (c : Str) (C : Addr) : Prop where
  ns : PySem.W.nsIn K mainGlobals c = some (some (.ref C))
  cls : Cls K C
theorem ClsN.uniq {K : PySem.W.Frag} {c : Str} {C C' : Addr} (h : ClsN K c C) (h' : ClsN K c C') : C' = C := by
  have := h.ns.symm.trans h'.ns
  cases this
  rfl
/-- the attributes of an instance -/
inductive FsR (K : PySem.W.Frag) (ρ : List Addr) (H : Hp) : List (Str × D) → List (Str × V) → Prop
  | nil : FsR K ρ H [] []
  | cons {f : Str} {d : D} {v : V} {r : List (Str × D)} {vr : List (Str × V)} : Rep K ρ H d v → FsR K ρ H r vr → FsR K ρ H ((f, d) :: r) ((f, v) :: vr)
def putFd (f : Str) (d : D) : List (Str × D) → List (Str × D)
  | [] => [(f, d)]
  | (g, x) :: r => if g = f then (g, d) :: r else (g, x) :: putFd f d r
def ObRep (K : PySem.W.Frag) (ρ : List Addr) (H : Hp) (a : Addr) : Ob → Prop
  | .lst ds => ∃ vs, H a = some (.lst vs) ∧ Reps K ρ H ds vs
  | .dct kvs => (∃ ks, H a = some (.dK ks) ∧ KvK K ρ H kvs ks) ∨ (∃ ks, H a = some (.dT ks) ∧ KvT K ρ H kvs ks)
  | .ins c fs => ∃ C dx vs, ClsN K c C ∧ H a = some (.ins C dx vs) ∧ FsR K ρ H fs vs

structure Sim (K : PySem.W.Frag) (ρ : List Addr) (st : Store) (H : Hp) : Prop where
  len : ρ.length = st.length
  nd : ρ.Nodup
  ob : ∀ (i : Nat) (o : Ob) (a : Addr), st[i]? = some o → ρ[i]? = some a → ObRep K ρ H a o

structure Grow (ρ : List Addr) (H : Hp) (ρ' : List Addr) (H' : Hp) : Prop where
  pre : ρ <+: ρ'
  fr : ∀ a ∈ ρ', a ∉ ρ → H a = none
  frame : ∀ b o, H b = some o → b ∉ ρ → H' b = some o
  tups : ∀ b xs, H b = some (.tup xs) → H' b = some (.tup xs)
  frzs : ∀ b o u, H b = some (.frz o u) → H' b = some (.frz o u)

theorem Grow.refl (ρ : List Addr) (H : Hp) : Grow ρ H ρ H := ⟨List.prefix_refl _, fun a h n => absurd h n, fun _ _ h _ => h, fun _ _ h => h, fun _ _ _ h => h⟩
theorem Grow.trans {ρ ρ1 ρ2 : List Addr} {H H1 H2 : Hp} (g : Grow ρ H ρ1 H1) (h : Grow ρ1 H1 ρ2 H2) : Grow ρ H ρ2 H2 := by
  refine ⟨g.pre.trans h.pre, fun a ha hn => ?_, fun b o e hb => h.frame b o (g.frame b o e hb) fun z => ?_, fun b xs e => h.tups b xs (g.tups b xs e), fun b o u e => h.frzs b o u (g.frzs b o u e)⟩
  · by_cases h1 : a ∈ ρ1
    · exact g.fr a h1 hn
    · have q := h.fr a ha h1
      cases e : H a with
      | none => rfl
      | some o => rw [g.frame a o e hn] at q; cases q
  · have q := g.fr b z hb
    rw [e] at q; cases q
/-- what data lean on -/
structure Keep (ρ : List Addr) (H : Hp) (ρ' : List Addr) (H' : Hp) : Prop where
  pre : ρ <+: ρ'
  tups : ∀ b xs, H b = some (.tup xs) → H' b = some (.tup xs)
  frzs : ∀ b o u, H b = some (.frz o u) → H' b = some (.frz o u)
theorem Grow.keep {ρ ρ1 : List Addr} {H H1 : Hp} (g : Grow ρ H ρ1 H1) : Keep ρ H ρ1 H1 := ⟨g.pre, g.tups, g.frzs⟩
theorem Keep.ix {ρ ρ1 : List Addr} {H H1 : Hp} (g : Keep ρ H ρ1 H1) {i : Nat} {a : Addr} (h : ρ[i]? = some a) : ρ1[i]? = some a := by
  obtain ⟨t, rfl⟩ := g.pre
  rw [List.getElem?_append_left (List.getElem?_eq_some_iff.mp h).1]
  exact h
theorem Keep.sqt {K : PySem.W.Frag} {ρ ρ1 : List Addr} {H H1 : Hp} (g : Keep ρ H ρ1 H1) {a : Addr} {vs : List V} (h : SqT K H a vs) : SqT K H1 a vs := by
  rcases h with (h | ⟨o, h⟩) | h
  · exact .inl (.inl (g.tups _ _ h))
  · exact .inl (.inr ⟨o, g.frzs _ _ _ h⟩)
  · exact .inr h
theorem Keep.sqf {K : PySem.W.Frag} {ρ ρ1 : List Addr} {H H1 : Hp} (g : Keep ρ H ρ1 H1) {a : Addr} {vs : List V} (h : SqF K H a vs) : SqF K H1 a vs := by
  rcases h with ⟨o, h⟩ | h
  · exact .inl ⟨o, g.frzs _ _ _ h⟩
  · exact .inr h
theorem Grow.ix {ρ ρ1 : List Addr} {H H1 : Hp} (g : Grow ρ H ρ1 H1) {i : Nat} {a : Addr} (h : ρ[i]? = some a) : ρ1[i]? = some a := g.keep.ix h
theorem Grow.sqt {K : PySem.W.Frag} {ρ ρ1 : List Addr} {H H1 : Hp} (g : Grow ρ H ρ1 H1) {a : Addr} {vs : List V} (h : SqT K H a vs) : SqT K H1 a vs := g.keep.sqt h
theorem Grow.sqf {K : PySem.W.Frag} {ρ ρ1 : List Addr} {H H1 : Hp} (g : Grow ρ H ρ1 H1) {a : Addr} {vs : List V} (h : SqF K H a vs) : SqF K H1 a vs := g.keep.sqf h
mutual
theorem Rep.keep {K : PySem.W.Frag} {ρ ρ1 : List Addr} {H H1 : Hp} (g : Keep ρ H ρ1 H1) : ∀ {d : D} {v : V}, Rep K ρ H d v → Rep K ρ1 H1 d v
  | _, _, .non => .non
  | _, _, .bl b => .bl b
  | _, _, .int i => .int i
  | _, _, .str x => .str x
  | _, _, .tup h hs hb => .tup (g.sqt h) (Reps.keep g hs) (hb.imp (g.tups _ _) id)
  | _, _, .fls h hs => .fls (g.sqf h) (Reps.keep g hs)
  | _, _, .ob h => .ob (g.ix h)
theorem Reps.keep {K : PySem.W.Frag} {ρ ρ1 : List Addr} {H H1 : Hp} (g : Keep ρ H ρ1 H1) : ∀ {ds : List D} {vs : List V}, Reps K ρ H ds vs → Reps K ρ1 H1 ds vs
  | _, _, .nil => .nil
  | _, _, .cons h hs => .cons (Rep.keep g h) (Reps.keep g hs)
end
theorem KvK.keep {K : PySem.W.Frag} {ρ ρ1 : List Addr} {H H1 : Hp} (g : Keep ρ H ρ1 H1) : ∀ {ds : List (D × D)} {vs : List (Key × V)}, KvK K ρ H ds vs → KvK K ρ1 H1 ds vs
  | _, _, .nil => .nil
  | _, _, .cons e h hs => .cons e (Rep.keep g h) (KvK.keep g hs)
theorem KvT.keep {K : PySem.W.Frag} {ρ ρ1 : List Addr} {H H1 : Hp} (g : Keep ρ H ρ1 H1) : ∀ {ds : List (D × D)} {vs : List (List Key × V)}, KvT K ρ H ds vs → KvT K ρ1 H1 ds vs
  | _, _, .nil => .nil
  | _, _, .cons e h hs => .cons e (Rep.keep g h) (KvT.keep g hs)
theorem FsR.keep {K : PySem.W.Frag} {ρ ρ1 : List Addr} {H H1 : Hp} (g : Keep ρ H ρ1 H1) : ∀ {ds : List (Str × D)} {vs : List (Str × V)}, FsR K ρ H ds vs → FsR K ρ1 H1 ds vs
  | _, _, .nil => .nil
  | _, _, .cons h hs => .cons (Rep.keep g h) (FsR.keep g hs)
theorem FsR.length {K : PySem.W.Frag} {ρ : List Addr} {H : Hp} : ∀ {ds : List (Str × D)} {vs : List (Str × V)}, FsR K ρ H ds vs → ds.length = vs.length
  | _, _, .nil => rfl
  | _, _, .cons _ h => congrArg (· + 1) (FsR.length h)
theorem FsR.look {K : PySem.W.Frag} {ρ : List Addr} {H : Hp} (f : Str) : ∀ {ds : List (Str × D)} {vs : List (Str × V)}, FsR K ρ H ds vs → (ds.lookup f = none ∧ vs.lookup f = none) ∨ ∃ d v, ds.lookup f = some d ∧ vs.lookup f = some v ∧ Rep K ρ H d v
  | _, _, .nil => .inl ⟨rfl, rfl⟩
  | _, _, .cons (f := g) (r := r) (vr := vr) h hs => by
    rw [List.lookup_cons, List.lookup_cons]
    cases e : (f == g) with
    | true => exact .inr ⟨_, _, rfl, rfl, h⟩
    | false => exact FsR.look f hs
theorem FsR.put {K : PySem.W.Frag} {ρ : List Addr} {H : Hp} {d : D} {v : V} (f : Str) (q : Rep K ρ H d v) : ∀ {ds : List (Str × D)} {vs : List (Str × V)}, FsR K ρ H ds vs → FsR K ρ H (putFd f d ds) (putF f v vs)
  | _, _, .nil => .cons q .nil
  | _, _, .cons (f := g) h hs => by
    unfold putFd putF
    split
    · exact .cons q hs
    · exact .cons h (FsR.put f q hs)
theorem Rep.grow {K : PySem.W.Frag} {ρ ρ1 : List Addr} {H H1 : Hp} (g : Grow ρ H ρ1 H1) {d : D} {v : V} (h : Rep K ρ H d v) : Rep K ρ1 H1 d v := h.keep g.keep
theorem Reps.grow {K : PySem.W.Frag} {ρ ρ1 : List Addr} {H H1 : Hp} (g : Grow ρ H ρ1 H1) {ds : List D} {vs : List V} (h : Reps K ρ H ds vs) : Reps K ρ1 H1 ds vs := h.keep g.keep
theorem KvK.grow {K : PySem.W.Frag} {ρ ρ1 : List Addr} {H H1 : Hp} (g : Grow ρ H ρ1 H1) {ds : List (D × D)} {vs : List (Key × V)} (h : KvK K ρ H ds vs) : KvK K ρ1 H1 ds vs := h.keep g.keep
theorem KvT.grow {K : PySem.W.Frag} {ρ ρ1 : List Addr} {H H1 : Hp} (g : Grow ρ H ρ1 H1) {ds : List (D × D)} {vs : List (List Key × V)} (h : KvT K ρ H ds vs) : KvT K ρ1 H1 ds vs := h.keep g.keep
theorem Reps.length {K : PySem.W.Frag} {ρ : List Addr} {H : Hp} : ∀ {ds : List D} {vs : List V}, Reps K ρ H ds vs → ds.length = vs.length
  | _, _, .nil => rfl
  | _, _, .cons _ h => congrArg (· + 1) (Reps.length h)
theorem Reps.append {K : PySem.W.Frag} {ρ : List Addr} {H : Hp} : ∀ {ds es : List D} {vs ws : List V}, Reps K ρ H ds vs → Reps K ρ H es ws → Reps K ρ H (ds ++ es) (vs ++ ws)
  | _, _, _, _, .nil, h => h
  | _, _, _, _, .cons a b, h => .cons a (Reps.append b h)
theorem Reps.get {K : PySem.W.Frag} {ρ : List Addr} {H : Hp} : ∀ {ds : List D} {vs : List V} {i : Nat} {d : D}, Reps K ρ H ds vs → ds[i]? = some d → ∃ v, vs[i]? = some v ∧ Rep K ρ H d v
  | _, _, _, _, .nil, e => by simp at e
  | _, _, 0, _, .cons r _, e => by simp at e; subst e; exact ⟨_, rfl, r⟩
  | _, _, i + 1, d, .cons _ t, e => by
    obtain ⟨u, h1, h2⟩ := Reps.get (i := i) (d := d) t (by simpa using e)
    exact ⟨u, by simpa using h1, h2⟩
theorem Reps.get' {K : PySem.W.Frag} {ρ : List Addr} {H : Hp} : ∀ {ds : List D} {vs : List V} {i : Nat} {v : V}, Reps K ρ H ds vs → vs[i]? = some v → ∃ d, ds[i]? = some d ∧ Rep K ρ H d v
  | _, _, _, _, .nil, e => by simp at e
  | _, _, 0, _, .cons r _, e => by simp at e; subst e; exact ⟨_, rfl, r⟩
  | _, _, i + 1, d, .cons _ t, e => by
    obtain ⟨u, h1, h2⟩ := Reps.get' (i := i) (v := d) t (by simpa using e)
    exact ⟨u, by simpa using h1, h2⟩
theorem Reps.set {K : PySem.W.Frag} {ρ : List Addr} {H : Hp} {d : D} {v : V} (r : Rep K ρ H d v) : ∀ {ds : List D} {vs : List V} (i : Nat), Reps K ρ H ds vs → Reps K ρ H (ds.set i d) (vs.set i v)
  | _, _, _, .nil => .nil
  | _, _, 0, .cons _ t => .cons r t
  | _, _, i + 1, .cons q t => .cons q (Reps.set r i t)
theorem Reps.take {K : PySem.W.Frag} {ρ : List Addr} {H : Hp} : ∀ {ds : List D} {vs : List V} (n : Nat), Reps K ρ H ds vs → Reps K ρ H (ds.take n) (vs.take n)
  | _, _, 0, _ => .nil
  | _, _, _ + 1, .nil => .nil
  | _, _, n + 1, .cons r t => .cons r (Reps.take n t)
theorem Reps.drop {K : PySem.W.Frag} {ρ : List Addr} {H : Hp} : ∀ {ds : List D} {vs : List V} (n : Nat), Reps K ρ H ds vs → Reps K ρ H (ds.drop n) (vs.drop n)
  | _, _, 0, r => r
  | _, _, _ + 1, .nil => .nil
  | _, _, n + 1, .cons _ t => Reps.drop n t
theorem Reps.eraseIdx {K : PySem.W.Frag} {ρ : List Addr} {H : Hp} : ∀ {ds : List D} {vs : List V} (n : Nat), Reps K ρ H ds vs → Reps K ρ H (ds.eraseIdx n) (vs.eraseIdx n)
  | _, _, _, .nil => .nil
  | _, _, 0, .cons _ t => t
  | _, _, n + 1, .cons r t => .cons r (Reps.eraseIdx n t)
/-- an object's description stands while the heap at its own place does -/
theorem ObRep.keep {K : PySem.W.Frag} {ρ ρ1 : List Addr} {H H1 : Hp} {a : Addr} {o : Ob} (g : Keep ρ H ρ1 H1) (ha : ∀ u, H a = some u → H1 a = some u) (h : ObRep K ρ H a o) : ObRep K ρ1 H1 a o := by
  cases o with
  | lst ds => obtain ⟨vs, e, r⟩ := h; exact ⟨vs, ha _ e, r.keep g⟩
  | dct kvs =>
    rcases h with ⟨ks, e, r⟩ | ⟨ks, e, r⟩
    · exact .inl ⟨ks, ha _ e, r.keep g⟩
    · exact .inr ⟨ks, ha _ e, r.keep g⟩
  | ins c fs => obtain ⟨C, dx, vs, cn, e, r⟩ := h; exact ⟨C, dx, vs, cn, ha _ e, r.keep g⟩
theorem ObRep.grow {K : PySem.W.Frag} {ρ ρ1 : List Addr} {H H1 : Hp} {a : Addr} {o : Ob} (g : Grow ρ H ρ1 H1) (ha : ∀ u, H a = some u → H1 a = some u) (h : ObRep K ρ H a o) : ObRep K ρ1 H1 a o := h.keep g.keep ha

section
variable {K : PySem.W.Frag} {ρ : List Addr} {st : Store} {H : Hp}
theorem Sim.addr (S : Sim K ρ st H) {i : Nat} {o : Ob} (h : st[i]? = some o) : ∃ a, ρ[i]? = some a ∧ ObRep K ρ H a o := by
  have hi : i < ρ.length := by rw [S.len]; exact (List.getElem?_eq_some_iff.mp h).1
  exact ⟨ρ[i], by simp [hi], S.ob i o ρ[i] h (by simp [hi])⟩
/-- a heap object outside the store's comes: nothing changes -/
theorem grow_new {p : Addr} {u : HO} (hp : H p = none) : Grow ρ H ρ (upd H p u) :=
  ⟨List.prefix_refl _, fun a h n => absurd h n, fun b o e _ => by rw [upd_ne (ne_of_none e hp)]; exact e, fun b xs e => by rw [upd_ne (ne_of_none e hp)]; exact e, fun b o xs e => by rw [upd_ne (ne_of_none e hp)]; exact e⟩
theorem Sim.new (S : Sim K ρ st H) {p : Addr} {u : HO} (hp : H p = none) : Sim K ρ st (upd H p u) :=
  ⟨S.len, S.nd, fun i o a h1 h2 => (S.ob i o a h1 h2).grow (grow_new hp) fun w e => by rw [upd_ne (ne_of_none e hp)]; exact e⟩
theorem grow_lay {p : Addr} {u : HO} (hp : H p = none) : Grow ρ H (ρ ++ [p]) (upd H p u) := by
  refine ⟨List.prefix_append _ _, fun a h n => ?_, (grow_new (ρ := ρ) hp).frame, (grow_new (ρ := ρ) hp).tups, (grow_new (ρ := ρ) hp).frzs⟩
  rcases List.mem_append.mp h with h | h
  · exact absurd h n
  · rw [List.mem_singleton.mp h]; exact hp
theorem Sim.free (S : Sim K ρ st H) {p : Addr} (hp : H p = none) : p ∉ ρ := by
  intro h
  obtain ⟨i, hi, e⟩ := List.getElem_of_mem h
  have hi' : i < st.length := by rw [← S.len]; exact hi
  have e2 : ρ[i]? = some p := by simp [hi, e]
  have r := S.ob i st[i] p (by simp [hi']) e2
  cases q : st[i] with
  | lst ds => rw [q] at r; obtain ⟨vs, z, _⟩ := r; rw [hp] at z; cases z
  | dct kvs =>
    rw [q] at r
    rcases r with ⟨_, z, _⟩ | ⟨_, z, _⟩ <;> (rw [hp] at z; cases z)
  | ins c fs => rw [q] at r; obtain ⟨_, _, _, _, z, _⟩ := r; rw [hp] at z; cases z
end
end W9

/-! W9b: what runs, by values of the store: the monad, what is wanted of a piece of syntax, operators -/
namespace W9
open PySem L2

structure Exn where
  cls : Str
  val : D
/-- an answer: a value and the store, an exception, or nothing is told -/
inductive R (α : Type) where
  | ok (a : α) (st : Store)
  | ex (x : Exn) (st : Store)
  | no
abbrev M (α : Type) := Store → R α
@[reducible] def M.bind {α β : Type} (m : M α) (f : α → M β) : M β := fun st => match m st with
  | .ok a st1 => f a st1
  | .ex x st1 => .ex x st1
  | .no => .no
abbrev Env := List (Option D)

/-! ### what is wanted of a piece of syntax, at one state -/
def WE (X : Cx) (e : Expr) (σ : L2.St) (H : Hp) (Q : VK) : Prop := ∀ (pins : List (Addr × Obj)) (s : Shared), Inv X pins σ H s → wpAny (model X.prog X.w) X.A (eval e X.env) (EP X pins σ Q) X.xe s
def WT (X : Cx) (e : Expr) (σ : L2.St) (H : Hp) (Q : Bool → Hp → Prop) : Prop := ∀ (pins : List (Addr × Obj)) (s : Shared), Inv X pins σ H s → wpAny (model X.prog X.w) X.A (isTrue e X.env (eval e X.env)) (TP X pins σ Q) X.xe s
def WA (X : Cx) (es : List Expr) (σ : L2.St) (H : Hp) (Q : List V → Hp → Prop) : Prop := ∀ (pos : Pos) (pins : List (Addr × Obj)) (s : Shared), Inv X pins σ H s → wpAny (model X.prog X.w) X.A (spliced (backTo pos (starEach es X.env))) (AP X pins σ Q) X.xe s
def WS (X : Cx) (st : Stmt) (D : Ends) (σ : L2.St) (H : Hp) : Prop := ∀ (pins : List (Addr × Obj)) (s : Shared), Inv X pins σ H s → wpAny (model X.prog X.w) X.A (exec st X.env) (SP X pins D) X.xe s
def WSs (X : Cx) (st : List Stmt) (D : Ends) (σ : L2.St) (H : Hp) : Prop := ∀ (pins : List (Addr × Obj)) (s : Shared), Inv X pins σ H s → wpAny (model X.prog X.w) X.A (execs st X.env) (SP X pins D) X.xe s
section
variable {X : Cx} {e : Expr} {σ : L2.St} {H : Hp}
theorem pe_we : PE X e (WE X e) := ⟨fun pins s σ H Q I h => h pins s I⟩
theorem pt_wt : PT X e (WT X e) := ⟨fun pins s σ H Q I h => h pins s I⟩
theorem pa_wa {es : List Expr} : PA X es (WA X es) := ⟨fun pos pins s σ H Q I h => h pos pins s I⟩
theorem ps_ws {st : Stmt} : PS X st (WS X st) := ⟨fun pins s σ H D I h => h pins s I⟩
theorem pss_ws {st : List Stmt} : PSs X st (WSs X st) := ⟨fun pins s σ H D I h => h pins s I⟩
theorem we_of {t : TE} {Q : VK} (p : PE X e t) (h : t σ H Q) : WE X e σ H Q := fun pins s I => p.run pins s σ H Q I h
theorem wt_of {t : TT} {Q : Bool → Hp → Prop} (p : PT X e t) (h : t σ H Q) : WT X e σ H Q := fun pins s I => p.run pins s σ H Q I h
theorem wa_of {es : List Expr} {t : TA} {Q : List V → Hp → Prop} (p : PA X es t) (h : t σ H Q) : WA X es σ H Q := fun pos pins s I => p.run pos pins s σ H Q I h
theorem ws_of {st : Stmt} {t : TS} {D : Ends} (p : PS X st t) (h : t D σ H) : WS X st D σ H := fun pins s I => p.run pins s σ H D I h
theorem wss_of {st : List Stmt} {t : TS} {D : Ends} (p : PSs X st t) (h : t D σ H) : WSs X st D σ H := fun pins s I => p.run pins s σ H D I h
theorem WE.mono {Q Q' : VK} (h : WE X e σ H Q) (k : ∀ v H', Q v H' → Q' v H') : WE X e σ H Q' := fun pins s I => thn (h pins s I) fun u s' ⟨v, H', I', r, q⟩ => ⟨v, H', I', r, k v H' q⟩
end

/-! ### the frame's names -/
structure EnvR (K : PySem.W.Frag) (ρ : List Addr) (H : Hp) (env : Env) (σ : L2.St) : Prop where
  len : σ.length = env.length
  at' : ∀ (i : Nat) (d : D), env[i]? = some (some d) → ∃ v, σ[i]? = some (some v) ∧ Rep K ρ H d v
theorem EnvR.grow {K : PySem.W.Frag} {ρ ρ1 : List Addr} {H H1 : Hp} {env : Env} {σ : L2.St} (g : Grow ρ H ρ1 H1) (h : EnvR K ρ H env σ) : EnvR K ρ1 H1 env σ :=
  ⟨h.len, fun i d e => let ⟨v, a, b⟩ := h.at' i d e; ⟨v, a, b.grow g⟩⟩
theorem EnvR.set {K : PySem.W.Frag} {ρ : List Addr} {H : Hp} {env : Env} {σ : L2.St} {d : D} {v : V} (h : EnvR K ρ H env σ) (r : Rep K ρ H d v) (i : Nat) : EnvR K ρ H (env.set i (some d)) (σ.set i (some v)) := by
  refine ⟨by simp [h.len], fun j d' e => ?_⟩
  by_cases hj : i = j
  · subst hj
    by_cases hi : i < env.length
    · rw [List.getElem?_set_self hi] at e
      cases e
      exact ⟨v, by rw [List.getElem?_set_self (by rw [h.len]; exact hi)], r⟩
    · rw [List.getElem?_eq_none (by simpa using hi)] at e; cases e
  · rw [List.getElem?_set_ne hj] at e
    rw [List.getElem?_set_ne hj]
    exact h.at' j d' e

/-- the answer stands -/
def Post (K : PySem.W.Frag) (ρ : List Addr) (H : Hp) (st : Store) (d : D) (Q : VK) : Prop := ∀ ρ' H' v, Grow ρ H ρ' H' → Sim K ρ' st H' → Rep K ρ' H' d v → Q v H'
def Posts (K : PySem.W.Frag) (ρ : List Addr) (H : Hp) (st : Store) (ds : List D) (Q : List V → Hp → Prop) : Prop := ∀ ρ' H' vs, Grow ρ H ρ' H' → Sim K ρ' st H' → Reps K ρ' H' ds vs → Q vs H'
def PostB (K : PySem.W.Frag) (ρ : List Addr) (H : Hp) (st : Store) (b : Bool) (Q : Bool → Hp → Prop) : Prop := ∀ ρ' H', Grow ρ H ρ' H' → Sim K ρ' st H' → Q b H'

def SndE (X : Cx) (e : Expr) (m : Env → M D) : Prop := ∀ ρ st env σ H d st', Sim X.K ρ st H → EnvR X.K ρ H env σ → m env st = .ok d st' → ∀ Q, Post X.K ρ H st' d Q → WE X e σ H Q
def SndT (X : Cx) (e : Expr) (m : Env → M Bool) : Prop := ∀ ρ st env σ H b st', Sim X.K ρ st H → EnvR X.K ρ H env σ → m env st = .ok b st' → ∀ Q, PostB X.K ρ H st' b Q → WT X e σ H Q
def SndA (X : Cx) (es : List Expr) (m : Env → M (List D)) : Prop := ∀ ρ st env σ H ds st', Sim X.K ρ st H → EnvR X.K ρ H env σ → m env st = .ok ds st' → ∀ Q, Posts X.K ρ H st' ds Q → WA X es σ H Q

/-- an operation on values -/
def OkOp (X : Cx) (f : Value → Value → Sem Value) (g : D → D → M D) : Prop := ∀ ρ st H x y v w d st', Sim X.K ρ st H → Rep X.K ρ H x v → Rep X.K ρ H y w → g x y st = .ok d st' →
  ∃ r : R2, OpR X f r ∧ ∀ Q, Post X.K ρ H st' d Q → r v w H Q
def OkCall (X : Cx) (f : Value) (g : List D → M D) : Prop := ∀ ρ st H xs vs d st', Sim X.K ρ st H → Reps X.K ρ H xs vs → g xs st = .ok d st' →
  ∃ r : List V → Hp → VK → Prop, CallR X f r ∧ ∀ Q, Post X.K ρ H st' d Q → r vs H Q

theorem Post.self {K : PySem.W.Frag} {ρ : List Addr} {H : Hp} {st : Store} {d : D} {Q : VK} {v : V} (p : Post K ρ H st d Q) (S : Sim K ρ st H) (r : Rep K ρ H d v) : Q v H := p ρ H v (Grow.refl _ _) S r
theorem Post.grow {K : PySem.W.Frag} {ρ ρ1 : List Addr} {H H1 : Hp} {st : Store} {d : D} {Q : VK} (p : Post K ρ H st d Q) (g : Grow ρ H ρ1 H1) : Post K ρ1 H1 st d Q := fun ρ' H' v g' S r => p ρ' H' v (g.trans g') S r
/-- a new tuple -/
theorem Post.tup {K : PySem.W.Frag} {ρ : List Addr} {H : Hp} {st : Store} {ds : List D} {vs : List V} {Q : VK} {p : Addr} (P : Post K ρ H st (.tup ds) Q) (S : Sim K ρ st H) (r : Reps K ρ H ds vs) (hp : H p = none) : Q (.ref p) (upd H p (.tup vs)) :=
  P ρ _ _ (grow_new hp) (S.new hp) (.tup (.inl (.inl upd_same)) (r.grow (grow_new hp)) (.inl upd_same))
/-- a new store object -/
theorem Sim.lay {K : PySem.W.Frag} {ρ : List Addr} {st : Store} {H : Hp} {p : Addr} {u : HO} {o : Ob} (S : Sim K ρ st H) (hp : H p = none) (h : ObRep K (ρ ++ [p]) (upd H p u) p o) : Sim K (ρ ++ [p]) (st ++ [o]) (upd H p u) := by
  have np := S.free hp
  refine ⟨by simp [S.len], ?_, fun i o' a h1 h2 => ?_⟩
  · rw [List.nodup_append]
    exact ⟨S.nd, by simp, fun a ha b hb => by rw [List.mem_singleton.mp hb]; exact fun z => np (z ▸ ha)⟩
  · by_cases hi : i < st.length
    · rw [List.getElem?_append_left hi] at h1
      rw [List.getElem?_append_left (by rw [S.len]; exact hi)] at h2
      exact (S.ob i o' a h1 h2).grow (grow_lay hp) fun w e => by rw [upd_ne (ne_of_none e hp)]; exact e
    · have h3 : i - st.length = 0 ∧ o' = o := by
        rw [List.getElem?_append_right (Nat.le_of_not_lt hi)] at h1
        cases q : i - st.length with
        | zero => rw [q] at h1; simp at h1; exact ⟨rfl, h1.symm⟩
        | succ k => rw [q] at h1; simp at h1
      obtain ⟨h3, rfl⟩ := h3
      rw [List.getElem?_append_right (by rw [S.len]; exact Nat.le_of_not_lt hi), S.len, h3] at h2
      simp at h2
      subst h2
      exact h
theorem Post.lst {K : PySem.W.Frag} {ρ : List Addr} {H : Hp} {st : Store} {ds : List D} {vs : List V} {Q : VK} {p : Addr} (P : Post K ρ H (st ++ [.lst ds]) (.ob st.length) Q) (S : Sim K ρ st H) (r : Reps K ρ H ds vs) (hp : H p = none) : Q (.ref p) (upd H p (.lst vs)) := by
  refine P (ρ ++ [p]) _ _ (grow_lay hp) (S.lay hp ⟨vs, upd_same, r.grow (grow_lay hp)⟩) (.ob ?_)
  rw [List.getElem?_append_right (by rw [S.len]; exact Nat.le_refl _), S.len]
  simp
/-- a store object is written -/
theorem Sim.grow_set {K : PySem.W.Frag} {ρ : List Addr} {st : Store} {H : Hp} {i : Nat} {a : Addr} {u : HO} (S : Sim K ρ st H) (ha : ρ[i]? = some a) (hm : Mut (H a)) : Grow ρ H ρ (upd H a u) := by
  have hmem : a ∈ ρ := List.mem_of_getElem? ha
  refine ⟨List.prefix_refl _, fun b hb n => absurd hb n, fun b o e hb => by rw [upd_ne (fun z => hb (by rw [z]; exact hmem))]; exact e, fun b xs e => ?_, fun b o xs e => ?_⟩
  · rw [upd_ne (fun z => by rw [z] at e; rw [e] at hm; exact hm)]; exact e
  · rw [upd_ne (fun z => by rw [z] at e; rw [e] at hm; exact hm)]; exact e
theorem Sim.set {K : PySem.W.Frag} {ρ : List Addr} {st : Store} {H : Hp} {i : Nat} {a : Addr} {u : HO} {o : Ob} (S : Sim K ρ st H) (ha : ρ[i]? = some a) (hm : Mut (H a)) (h : ObRep K ρ (upd H a u) a o) : Sim K ρ (st.set i o) (upd H a u) := by
  refine ⟨by simp [S.len], S.nd, fun j o' b h1 h2 => ?_⟩
  by_cases hj : i = j
  · subst hj
    have hi : i < st.length := by rw [← S.len]; exact (List.getElem?_eq_some_iff.mp ha).1
    rw [List.getElem?_set_self hi] at h1
    cases h1
    rw [ha] at h2; cases h2
    exact h
  · rw [List.getElem?_set_ne hj] at h1
    refine (S.ob j o' b h1 h2).grow (S.grow_set ha hm) fun w e => ?_
    rw [upd_ne]
    · exact e
    · intro z
      subst z
      exact hj (by
        obtain ⟨q1, e1⟩ := List.getElem?_eq_some_iff.mp ha
        obtain ⟨q2, e2⟩ := List.getElem?_eq_some_iff.mp h2
        exact (List.getElem_inj S.nd).mp (e1.trans e2.symm))

/-! ### data as the library reads it -/
mutual
def pyG (f : Nat → Option PyData) : D → Option PyData
  | .non => some .none
  | .bl b => some (.bool b)
  | .int i => some (.int i)
  | .str x => some (.str x)
  | .tup xs => match pyGs f xs with | some ys => some (.tuple ys) | none => none
  | .fls xs => match pyGs f xs with | some ys => some (.list ys) | none => none
  | .ob i => f i
def pyGs (f : Nat → Option PyData) : List D → Option (List PyData)
  | [] => some []
  | x :: xs => match pyG f x, pyGs f xs with
    | some y, some ys => some (y :: ys)
    | _, _ => none
end
/-- lists by the store, as deep as n -/
def pyO (st : Store) : Nat → Nat → Option PyData
  | 0, _ => none
  | n + 1, i => match st[i]? with
    | some (.lst xs) => match pyGs (pyO st n) xs with | some ys => some (.list ys) | none => none
    | _ => none
def pyD (st : Store) (d : D) : Option PyData := pyG (pyO st 4) d
section
variable {K : PySem.W.Frag} {ρ : List Addr} {st : Store} {H : Hp}
mutual
theorem pyG_dp {f : Nat → Option PyData} (hf : ∀ i a d, ρ[i]? = some a → f i = some d → Dp K H (.ref a) d) : ∀ {d : D} {v : V} {p : PyData}, Rep K ρ H d v → pyG f d = some p → Dp K H v p
  | _, _, _, .non, e => by simp only [pyG] at e; cases e; exact .non
  | _, _, _, .bl b, e => by simp only [pyG] at e; cases e; exact .bl b
  | _, _, _, .int i, e => by simp only [pyG] at e; cases e; exact .int i
  | _, _, _, .str x, e => by simp only [pyG] at e; cases e; exact .str x
  | _, _, _, .tup h hs _, e => by
    simp only [pyG] at e
    split at e
    · rename_i ys q; cases e; exact .tup h (pyGs_dp hf hs q)
    · cases e
  | _, _, _, .fls h hs, e => by
    simp only [pyG] at e
    split at e
    · rename_i ys q; cases e; exact .lst h.sq (pyGs_dp hf hs q)
    · cases e
  | _, _, _, .ob h, e => by
    simp only [pyG] at e
    exact hf _ _ _ h e
theorem pyGs_dp {f : Nat → Option PyData} (hf : ∀ i a d, ρ[i]? = some a → f i = some d → Dp K H (.ref a) d) : ∀ {ds : List D} {vs : List V} {ps : List PyData}, Reps K ρ H ds vs → pyGs f ds = some ps → DpAll K H vs ps
  | _, _, _, .nil, e => by simp only [pyGs] at e; cases e; exact .nil
  | _, _, _, .cons h hs, e => by
    simp only [pyGs] at e
    split at e
    · rename_i y ys q1 q2; cases e; exact .cons (pyG_dp hf h q1) (pyGs_dp hf hs q2)
    · cases e
end
theorem pyO_dp (S : Sim K ρ st H) : ∀ (n i : Nat) (a : Addr) (d : PyData), ρ[i]? = some a → pyO st n i = some d → Dp K H (.ref a) d
  | 0, _, _, _, _, e => by simp only [pyO] at e; cases e
  | n + 1, i, a, d, h, e => by
    simp only [pyO] at e
    split at e
    · rename_i xs q
      split at e
      · rename_i ys q2
        cases e
        obtain ⟨vs, h1, h2⟩ := S.ob i _ a q h
        exact .lst (.inl (.inl h1)) (pyGs_dp (pyO_dp S n) h2 q2)
      · cases e
    · cases e
theorem pyD_dp (S : Sim K ρ st H) {d : D} {v : V} {p : PyData} (r : Rep K ρ H d v) (e : pyD st d = some p) : Dp K H v p := pyG_dp (pyO_dp S 4) r e
end
end W9

/-! W9c: operators and built-ins upon data -/
namespace W9
open PySem L2
abbrev bigN : Nat := 16777216
theorem big_eq : sizeLine = bigN := sizeLine_eq

/-! ### arithmetic -/
def mulOk (i j : Int) : Bool := (decide (-(2 ^ 64) < i) && decide (i < 2 ^ 64)) || (decide (-(2 ^ 64) < j) && decide (j < 2 ^ 64)) || decide (i.natAbs.log2 + j.natAbs.log2 < 1000000)
def addD : D → D → M D
  | .int i, .int j => fun st => .ok (.int (i + j)) st
  | .str a, .str b => fun st => if a.length + b.length ≤ bigN then .ok (.str (a ++ b)) st else .no
  | .tup xs, .tup ys => fun st => if xs.length + ys.length ≤ bigN then .ok (.tup (xs ++ ys)) st else .no
  | .ob i, .ob j => fun st => match st[i]?, st[j]? with
    | some (.lst xs), some (.lst ys) => if xs.length + ys.length ≤ bigN then .ok (.ob st.length) (st ++ [.lst (xs ++ ys)]) else .no
    | _, _ => .no
  | _, _ => fun _ => .no
def subD : D → D → M D
  | .int i, .int j => fun st => .ok (.int (i - j)) st
  | _, _ => fun _ => .no
def mulD : D → D → M D
  | .int i, .int j => fun st => if mulOk i j = true then .ok (.int (i * j)) st else .no
  | .ob i, .int k => fun st => match st[i]? with
    | some (.lst xs) => if -(2 ^ 63) ≤ k ∧ k < 2 ^ 63 ∧ xs.length * k.toNat ≤ bigN then .ok (.ob st.length) (st ++ [.lst (List.replicate k.toNat xs).flatten]) else .no
    | _ => .no
  | .tup xs, .int k => fun st => if k = 1 then .ok (.tup xs) st else if k = 0 ∧ xs ≠ [] then .ok (.tup []) st else .no
  | _, _ => fun _ => .no
def divD : D → D → M D
  | .int i, .int j => fun st => if 0 < j ∧ j.natAbs.log2 < 9000 then .ok (.int (i / j)) st else .no
  | _, _ => fun _ => .no
def modD : D → D → M D
  | .int i, .int j => fun st => if 0 < j then .ok (.int (i % j)) st else .no
  | _, _ => fun _ => .no
def powD : D → D → M D
  | .int i, .int j => fun st => if 0 ≤ j ∧ (Builtin.Int.intBits i : Int) * j ≤ 2 ^ 27 then .ok (.int (i ^ j.toNat)) st else .no
  | _, _ => fun _ => .no

section
variable {X : Cx}
theorem op_powW : OpR X (binaryOp .Pow) (rI (fun i j => 0 ≤ j ∧ (Builtin.Int.intBits i : Int) * j ≤ 2 ^ 27) fun i j => .int (i ^ j.toNat)) := opI fun _ _ _ _ _ _ _ hc q => PyProof.Rows.pow_int hc.1 hc.2 q
theorem ok_add : OkOp X (binaryOp .Add) addD := by
  intro ρ st H x y v w d st' S rx ry e
  cases rx with
  | int i =>
    cases ry with
    | int j => simp only [addD] at e; cases e; exact ⟨_, op_add, fun Q p => ⟨i, j, rfl, rfl, p.self S (.int _)⟩⟩
    | _ => simp only [addD] at e; cases e
  | str a =>
    cases ry with
    | str b =>
      simp only [addD] at e
      split at e
      · cases e; rename_i h; exact ⟨_, op_add_str, fun Q p => ⟨a, b, rfl, rfl, by rw [big_eq]; exact h, p.self S (.str _)⟩⟩
      · cases e
    | _ => simp only [addD] at e; cases e
  | tup hx hxs hxb =>
    cases ry with
    | tup hy hys hyb =>
      simp only [addD] at e
      split at e
      · cases e
        rename_i hl
        refine ⟨_, op_catA, fun Q p => ⟨_, _, _, _, rfl, rfl, hx, hy, by rw [big_eq, ← hxs.length, ← hys.length]; exact hl, fun h0 => ?_, fun h0 h1 => ?_, fun h0 h1 q hq => ?_⟩⟩
        · subst h0
          cases hxs
          exact p.self S (.tup hy hys hyb)
        · subst h1
          cases hys
          rw [List.append_nil] at p
          exact p.self S (.tup hx hxs hxb)
        · exact p.tup S (hxs.append hys) hq
      · cases e
    | _ => simp only [addD] at e; cases e
  | ob hx =>
    cases ry with
    | ob hy =>
      simp only [addD] at e
      split at e
      · rename_i xs ys e1 e2
        split at e
        · rename_i hl
          cases e
          obtain ⟨vs, a1, r1⟩ := S.ob _ _ _ e1 hx
          obtain ⟨ws, a2, r2⟩ := S.ob _ _ _ e2 hy
          exact ⟨_, op_cat, fun Q p => ⟨_, _, vs, ws, rfl, rfl, a1, a2, by rw [big_eq, ← r1.length, ← r2.length]; exact hl, fun q hq => p.lst S (r1.append r2) hq⟩⟩
        · cases e
      · cases e
    | _ => simp only [addD] at e; cases e
  | _ => simp only [addD] at e; cases e
theorem ok_sub : OkOp X (binaryOp .Sub) subD := by
  intro ρ st H x y v w d st' S rx ry e
  cases rx with
  | int i =>
    cases ry with
    | int j => simp only [subD] at e; cases e; exact ⟨_, op_sub, fun Q p => ⟨i, j, rfl, rfl, p.self S (.int _)⟩⟩
    | _ => simp only [subD] at e; cases e
  | _ => simp only [subD] at e; cases e
theorem reps_rep {K : PySem.W.Frag} {ρ : List Addr} {H : Hp} {ds : List D} {vs : List V} (h : Reps K ρ H ds vs) : ∀ k : Nat, Reps K ρ H (List.replicate k ds).flatten (List.replicate k vs).flatten
  | 0 => .nil
  | k + 1 => by simp only [List.replicate_succ, List.flatten_cons]; exact h.append (reps_rep h k)
theorem ok_mul : OkOp X (binaryOp .Mult) mulD := by
  intro ρ st H x y v w d st' S rx ry e
  cases rx with
  | int i =>
    cases ry with
    | int j =>
      simp only [mulD] at e
      split at e
      · cases e
        rename_i h
        unfold mulOk at h
        simp only [Bool.or_eq_true, Bool.and_eq_true, decide_eq_true_eq] at h
        rcases h with (h | h) | h
        · exact ⟨_, op_mul, fun Q p => ⟨i, j, rfl, rfl, .inl h, p.self S (.int _)⟩⟩
        · exact ⟨_, op_mul, fun Q p => ⟨i, j, rfl, rfl, .inr h, p.self S (.int _)⟩⟩
        · exact ⟨_, op_mulW, fun Q p => ⟨i, j, rfl, rfl, h, p.self S (.int _)⟩⟩
      · cases e
    | _ => simp only [mulD] at e; cases e
  | ob hx =>
    cases ry with
    | int k =>
      simp only [mulD] at e
      split at e
      · rename_i xs e1
        split at e
        · rename_i h
          cases e
          obtain ⟨vs, a1, r1⟩ := S.ob _ _ _ e1 hx
          refine ⟨_, op_rep, fun Q p => ⟨_, k, vs, rfl, rfl, a1, h.1, h.2.1, by rw [big_eq, ← r1.length]; exact h.2.2, fun q hq => ?_⟩⟩
          exact p.lst S (reps_rep r1 _) hq
        · cases e
      · cases e
    | _ => simp only [mulD] at e; cases e
  | tup h1 h2 hb =>
    cases ry with
    | int k =>
      simp only [mulD] at e
      split at e
      · rename_i hk
        subst hk
        cases e
        exact ⟨_, op_repT1, fun Q p => ⟨_, _, rfl, rfl, h1, p.self S (.tup h1 h2 hb)⟩⟩
      · split at e
        · rename_i hk
          obtain ⟨rfl, hne⟩ := hk
          cases e
          refine ⟨_, op_repT0, fun Q p => ⟨_, _, rfl, rfl, h1, fun z => hne ?_, fun q hq => p.tup S .nil hq⟩⟩
          have := h2.length
          rw [z] at this
          exact List.eq_nil_of_length_eq_zero this
        · cases e
    | _ => simp only [mulD] at e; cases e
  | _ => simp only [mulD] at e; cases e
theorem ok_div : OkOp X (binaryOp .FloorDiv) divD := by
  intro ρ st H x y v w d st' S rx ry e
  cases rx with
  | int i =>
    cases ry with
    | int j =>
      simp only [divD] at e
      split at e
      · cases e; rename_i h; exact ⟨_, op_fdivW, fun Q p => ⟨i, j, rfl, rfl, h, p.self S (.int _)⟩⟩
      · cases e
    | _ => simp only [divD] at e; cases e
  | _ => simp only [divD] at e; cases e
theorem ok_mod : OkOp X (binaryOp .Mod) modD := by
  intro ρ st H x y v w d st' S rx ry e
  cases rx with
  | int i =>
    cases ry with
    | int j =>
      simp only [modD] at e
      split at e
      · cases e; rename_i h; exact ⟨_, op_mod, fun Q p => ⟨i, j, rfl, rfl, h, p.self S (.int _)⟩⟩
      · cases e
    | _ => simp only [modD] at e; cases e
  | _ => simp only [modD] at e; cases e
theorem ok_pow : OkOp X (binaryOp .Pow) powD := by
  intro ρ st H x y v w d st' S rx ry e
  cases rx with
  | int i =>
    cases ry with
    | int j =>
      simp only [powD] at e
      split at e
      · cases e; rename_i h; exact ⟨_, op_powW, fun Q p => ⟨i, j, rfl, rfl, h, p.self S (.int _)⟩⟩
      · cases e
    | _ => simp only [powD] at e; cases e
  | _ => simp only [powD] at e; cases e

/-! ### comparisons -/
/-- two plain values whose likeness is told by looking at them -/
def scalD : D → D → Bool
  | .non, .non => true | .non, .bl _ => true | .non, .int _ => true | .non, .str _ => true
  | .bl _, .non => true | .bl _, .bl _ => true | .bl _, .str _ => true
  | .int _, .non => true | .int _, .int _ => true | .int _, .str _ => true
  | .str _, .non => true | .str _, .bl _ => true | .str _, .int _ => true | .str _, .str _ => true
  | _, _ => false
theorem scal_rep {K : PySem.W.Frag} {ρ : List Addr} {H : Hp} {x y : D} {v w : V} (rx : Rep K ρ H x v) (ry : Rep K ρ H y w) (h : scalD x y = true) : scal v w = true ∧ decide (v = w) = decide (x = y) := by
  cases rx <;> cases ry <;> first | (cases h; done) | exact ⟨rfl, by rw [Bool.eq_iff_iff]; simp⟩
def eqD (neg : Bool) (x y : D) : M D := fun st => if scalD x y = true then .ok (.bl (if neg then !decide (x = y) else decide (x = y))) st else match pyD st x, pyD st y with
  | some p, some q => if SeqAt.shaped p = true ∧ SeqAt.shaped q = true then .ok (.bl (if neg then !PyData.eqv p q else PyData.eqv p q)) st else .no
  | _, _ => .no
theorem ok_eq (hu : X.A.units + 64 < cLine) : OkOp X (compareOp .Eq) (eqD false) := by
  intro ρ st H x y v w d st' S rx ry e
  simp only [eqD] at e
  split at e
  · rename_i hs
    obtain ⟨h1, h2⟩ := scal_rep rx ry hs
    cases e
    exact ⟨_, op_eq, fun Q k => ⟨h1, by rw [h2]; exact k.self S (.bl _)⟩⟩
  split at e
  · rename_i p q e1 e2
    split at e
    · rename_i h
      cases e
      exact ⟨_, op_eqD hu, fun Q k => ⟨p, q, pyD_dp S rx e1, pyD_dp S ry e2, h.1, h.2, k.self S (.bl _)⟩⟩
    · cases e
  · cases e
theorem ok_ne (hu : X.A.units + 64 < cLine) : OkOp X (compareOp .NotEq) (eqD true) := by
  intro ρ st H x y v w d st' S rx ry e
  simp only [eqD] at e
  split at e
  · rename_i hs
    obtain ⟨h1, h2⟩ := scal_rep rx ry hs
    cases e
    exact ⟨_, op_ne, fun Q k => ⟨h1, by rw [h2]; exact k.self S (.bl _)⟩⟩
  split at e
  · rename_i p q e1 e2
    split at e
    · rename_i h
      cases e
      exact ⟨_, op_neD hu, fun Q k => ⟨p, q, pyD_dp S rx e1, pyD_dp S ry e2, h.1, h.2, k.self S (.bl _)⟩⟩
    · cases e
  · cases e
def ltD : D → D → M D
  | .int i, .int j => fun st => .ok (.bl (decide (i < j))) st
  | .str a, .str b => fun st => .ok (.bl (decide (a.cps.toList < b.cps.toList))) st
  | _, _ => fun _ => .no
def leD : D → D → M D
  | .int i, .int j => fun st => .ok (.bl (decide (i ≤ j))) st
  | _, _ => fun _ => .no
def gtD : D → D → M D
  | .int i, .int j => fun st => .ok (.bl (decide (j < i))) st
  | _, _ => fun _ => .no
def geD : D → D → M D
  | .int i, .int j => fun st => .ok (.bl (decide (j ≤ i))) st
  | _, _ => fun _ => .no
theorem ok_lt : OkOp X (compareOp .Lt) ltD := by
  intro ρ st H x y v w d st' S rx ry e
  cases rx with
  | int i =>
    cases ry with
    | int j => simp only [ltD] at e; cases e; exact ⟨_, op_lt, fun Q p => ⟨i, j, rfl, rfl, p.self S (.bl _)⟩⟩
    | _ => simp only [ltD] at e; cases e
  | str i =>
    cases ry with
    | str j => simp only [ltD] at e; cases e; exact ⟨_, op_lt_str, fun Q p => ⟨i, j, rfl, rfl, p.self S (.bl _)⟩⟩
    | _ => simp only [ltD] at e; cases e
  | _ => simp only [ltD] at e; cases e
theorem ok_le : OkOp X (compareOp .LtE) leD := by
  intro ρ st H x y v w d st' S rx ry e
  cases rx with
  | int i =>
    cases ry with
    | int j => simp only [leD] at e; cases e; exact ⟨_, op_le, fun Q p => ⟨i, j, rfl, rfl, p.self S (.bl _)⟩⟩
    | _ => simp only [leD] at e; cases e
  | _ => simp only [leD] at e; cases e
theorem ok_gt : OkOp X (compareOp .Gt) gtD := by
  intro ρ st H x y v w d st' S rx ry e
  cases rx with
  | int i =>
    cases ry with
    | int j => simp only [gtD] at e; cases e; exact ⟨_, op_gt, fun Q p => ⟨i, j, rfl, rfl, p.self S (.bl _)⟩⟩
    | _ => simp only [gtD] at e; cases e
  | _ => simp only [gtD] at e; cases e
theorem ok_ge : OkOp X (compareOp .GtE) geD := by
  intro ρ st H x y v w d st' S rx ry e
  cases rx with
  | int i =>
    cases ry with
    | int j => simp only [geD] at e; cases e; exact ⟨_, op_ge, fun Q p => ⟨i, j, rfl, rfl, p.self S (.bl _)⟩⟩
    | _ => simp only [geD] at e; cases e
  | _ => simp only [geD] at e; cases e
/-- is, is not: None and the bools -/
def isD (neg : Bool) : D → D → M D := fun x y st => match y with
  | .non => .ok (.bl (match x with | .non => !neg | _ => neg)) st
  | .bl b => match x with
    | .bl a => .ok (.bl (if neg = true then !decide (a = b) else decide (a = b))) st
    | .non => .ok (.bl neg) st
    | _ => .no
  | _ => .no
theorem rep_non {K : PySem.W.Frag} {ρ : List Addr} {H : Hp} {x : D} {v : V} (r : Rep K ρ H x v) : decide (v = .non) = (match x with | .non => true | _ => false) := by
  cases r <;> first | rfl | simp
theorem op_nb : OpR X (compareOp .Is) (fun x y H Q => x = .non ∧ (∃ b, y = .bl b) ∧ Q (.bl false) H) := by
  rintro pins s σ H x y v u Q I rx ry ⟨rfl, ⟨b, rfl⟩, q⟩
  cases (show v = Value.none from rx)
  cases (show u = Value.bool b from ry)
  exact wpAny_is_other rfl (fun z => nomatch z) ⟨.bl false, H, I, rfl, q⟩
theorem op_nbn : OpR X (compareOp .IsNot) (fun x y H Q => x = .non ∧ (∃ b, y = .bl b) ∧ Q (.bl true) H) := by
  rintro pins s σ H x y v u Q I rx ry ⟨rfl, ⟨b, rfl⟩, q⟩
  cases (show v = Value.none from rx)
  cases (show u = Value.bool b from ry)
  exact wpAny_isNot_other rfl (fun z => nomatch z) ⟨.bl true, H, I, rfl, q⟩
theorem ok_is : OkOp X (compareOp .Is) (isD false) := by
  intro ρ st H x y v w d st' S rx ry e
  cases ry with
  | non =>
    simp only [isD] at e
    cases e
    refine ⟨_, op_isN, fun Q p => ⟨rfl, ?_⟩⟩
    rw [rep_non rx]
    have q := p.self S (.bl _)
    cases x <;> exact q
  | bl b =>
    cases rx with
    | non => simp only [isD] at e; cases e; exact ⟨_, op_nb, fun Q p => ⟨rfl, ⟨b, rfl⟩, p.self S (.bl _)⟩⟩
    | bl a => simp only [isD] at e; cases e; exact ⟨_, op_isBl, fun Q p => ⟨a, b, rfl, rfl, p.self S (.bl _)⟩⟩
    | _ => simp only [isD] at e; cases e
  | _ => simp only [isD] at e; cases e
theorem ok_isnot : OkOp X (compareOp .IsNot) (isD true) := by
  intro ρ st H x y v w d st' S rx ry e
  cases ry with
  | non =>
    simp only [isD] at e
    cases e
    refine ⟨_, op_notN, fun Q p => ⟨rfl, ?_⟩⟩
    rw [rep_non rx]
    have q := p.self S (.bl _)
    cases x <;> exact q
  | bl b =>
    cases rx with
    | non => simp only [isD] at e; cases e; exact ⟨_, op_nbn, fun Q p => ⟨rfl, ⟨b, rfl⟩, p.self S (.bl _)⟩⟩
    | bl a => simp only [isD] at e; cases e; exact ⟨_, op_notBl, fun Q p => ⟨a, b, rfl, rfl, p.self S (.bl _)⟩⟩
    | _ => simp only [isD] at e; cases e
  | _ => simp only [isD] at e; cases e

/-! ### in -/
/-- a dict's value by its key -/
def getKv (kvs : List (D × D)) (k : D) : Option D := (kvs.find? fun kv => decide (kv.1 = k)).map (·.2)
def putKv (kvs : List (D × D)) (k d : D) : List (D × D) := if (kvs.any fun kv => decide (kv.1 = k)) then kvs.map fun kv => if kv.1 = k then (kv.1, d) else kv else kvs ++ [(k, d)]
def delKv (kvs : List (D × D)) (k : D) : List (D × D) := kvs.filter fun kv => decide (kv.1 ≠ k)
theorem keyD_inj {a b : D} {k : Key} (ha : keyD a = some k) (hb : keyD b = some k) : a = b := by
  cases a <;> cases b <;> simp only [keyD] at ha hb <;> first | (cases ha; done) | (cases hb; done) | skip
  all_goals (cases ha; cases hb; try rfl)
theorem keysD_inj : ∀ {a b : List D} {k : List Key}, keysD a = some k → keysD b = some k → a = b
  | [], [], _, _, _ => rfl
  | [], y :: ys, k, ha, hb => by
    simp only [keysD] at ha hb
    cases ha
    split at hb <;> cases hb
  | x :: xs, [], k, ha, hb => by
    simp only [keysD] at ha hb
    cases hb
    split at ha <;> cases ha
  | x :: xs, y :: ys, k, ha, hb => by
    simp only [keysD] at ha hb
    split at ha
    · rename_i k1 ks1 e1 e2
      split at hb
      · rename_i k2 ks2 e3 e4
        cases ha
        cases hb
        rw [keyD_inj e1 e3, keysD_inj e2 e4]
      · cases hb
    · cases ha
theorem keyT_inj {a b : D} {k : List Key} (ha : keyT a = some k) (hb : keyT b = some k) : a = b := by
  cases a <;> simp only [keyT] at ha <;> try (cases ha; done)
  cases b <;> simp only [keyT] at hb <;> try (cases hb; done)
  split at ha
  · cases ha
  · split at hb
    · cases hb
    · rw [keysD_inj ha hb]
section kv
variable {K : PySem.W.Frag} {ρ : List Addr} {H : Hp}
theorem KvK.get {k : D} {key : Key} (hk : keyD k = some key) : ∀ {kvs : List (D × D)} {ks : List (Key × V)}, KvK K ρ H kvs ks → (getKv kvs k = none ∧ valV ks key = none) ∨ ∃ d v, getKv kvs k = some d ∧ valV ks key = some v ∧ Rep K ρ H d v
  | _, _, .nil => .inl ⟨rfl, rfl⟩
  | _, _, .cons (k := k1) (d := d1) (r := r) (key := key1) (v := v1) (vr := vr) e h t => by
    by_cases q : k1 = k
    · subst q
      rw [hk] at e; cases e
      exact .inr ⟨d1, v1, by simp [getKv], by rw [valV_pos rfl], h⟩
    · have q2 : ¬ key1 = key := fun z => q (keyD_inj e (by rw [z]; exact hk))
      have e2 : getKv ((k1, d1) :: r) k = getKv r k := by simp [getKv, q]
      rw [e2, valV_neg (p := (key1, v1)) q2]
      exact KvK.get hk t
theorem KvT.get {k : D} {key : List Key} (hk : keyT k = some key) : ∀ {kvs : List (D × D)} {ks : List (List Key × V)}, KvT K ρ H kvs ks → (getKv kvs k = none ∧ valV ks key = none) ∨ ∃ d v, getKv kvs k = some d ∧ valV ks key = some v ∧ Rep K ρ H d v
  | _, _, .nil => .inl ⟨rfl, rfl⟩
  | _, _, .cons (k := k1) (d := d1) (r := r) (key := key1) (v := v1) (vr := vr) e h t => by
    by_cases q : k1 = k
    · subst q
      rw [hk] at e; cases e
      exact .inr ⟨d1, v1, by simp [getKv], by rw [valV_pos rfl], h⟩
    · have q2 : ¬ key1 = key := fun z => q (keyT_inj e (by rw [z]; exact hk))
      have e2 : getKv ((k1, d1) :: r) k = getKv r k := by simp [getKv, q]
      rw [e2, valV_neg (p := (key1, v1)) q2]
      exact KvT.get hk t
theorem KvK.snoc {k d : D} {key : Key} {v : V} (hk : keyD k = some key) (r : Rep K ρ H d v) : ∀ {kvs : List (D × D)} {ks : List (Key × V)}, KvK K ρ H kvs ks → KvK K ρ H (kvs ++ [(k, d)]) (ks ++ [(key, v)])
  | _, _, .nil => .cons hk r .nil
  | _, _, .cons a b t => .cons a b (KvK.snoc hk r t)
theorem KvT.snoc {k d : D} {key : List Key} {v : V} (hk : keyT k = some key) (r : Rep K ρ H d v) : ∀ {kvs : List (D × D)} {ks : List (List Key × V)}, KvT K ρ H kvs ks → KvT K ρ H (kvs ++ [(k, d)]) (ks ++ [(key, v)])
  | _, _, .nil => .cons hk r .nil
  | _, _, .cons a b t => .cons a b (KvT.snoc hk r t)
theorem KvK.any {k : D} {key : Key} (hk : keyD k = some key) : ∀ {kvs : List (D × D)} {ks : List (Key × V)}, KvK K ρ H kvs ks → (kvs.any fun kv => decide (kv.1 = k)) = (ks.any fun kv => decide (kv.1 = key))
  | _, _, .nil => rfl
  | _, _, .cons (k := k1) (key := key1) e h t => by
    have q : decide (k1 = k) = decide (key1 = key) := by
      by_cases z : k1 = k
      · subst z; rw [hk] at e; cases e; simp
      · have q2 : ¬ key1 = key := fun y => z (keyD_inj e (by rw [y]; exact hk))
        simp [z, q2]
    simp only [List.any_cons, q, KvK.any hk t]
theorem KvT.any {k : D} {key : List Key} (hk : keyT k = some key) : ∀ {kvs : List (D × D)} {ks : List (List Key × V)}, KvT K ρ H kvs ks → (kvs.any fun kv => decide (kv.1 = k)) = (ks.any fun kv => decide (kv.1 = key))
  | _, _, .nil => rfl
  | _, _, .cons (k := k1) (key := key1) e h t => by
    have q : decide (k1 = k) = decide (key1 = key) := by
      by_cases z : k1 = k
      · subst z; rw [hk] at e; cases e; simp
      · have q2 : ¬ key1 = key := fun y => z (keyT_inj e (by rw [y]; exact hk))
        simp [z, q2]
    simp only [List.any_cons, q, KvT.any hk t]
theorem KvK.repl {k d : D} {key : Key} {v : V} (hk : keyD k = some key) (r : Rep K ρ H d v) : ∀ {kvs : List (D × D)} {ks : List (Key × V)}, KvK K ρ H kvs ks → KvK K ρ H (kvs.map fun kv => if kv.1 = k then (kv.1, d) else kv) (ks.map fun kv => if kv.1 = key then (kv.1, v) else kv)
  | _, _, .nil => .nil
  | _, _, .cons (k := k1) (key := key1) e h t => by
    have ih := KvK.repl hk r t
    simp only [List.map_cons]
    by_cases z : k1 = k
    · subst z
      rw [hk] at e; cases e
      rw [if_pos rfl, if_pos rfl]
      exact .cons hk r ih
    · have q2 : ¬ key1 = key := fun y => z (keyD_inj e (by rw [y]; exact hk))
      rw [if_neg z, if_neg q2]
      exact .cons e h ih
theorem KvT.repl {k d : D} {key : List Key} {v : V} (hk : keyT k = some key) (r : Rep K ρ H d v) : ∀ {kvs : List (D × D)} {ks : List (List Key × V)}, KvT K ρ H kvs ks → KvT K ρ H (kvs.map fun kv => if kv.1 = k then (kv.1, d) else kv) (ks.map fun kv => if kv.1 = key then (kv.1, v) else kv)
  | _, _, .nil => .nil
  | _, _, .cons (k := k1) (key := key1) e h t => by
    have ih := KvT.repl hk r t
    simp only [List.map_cons]
    by_cases z : k1 = k
    · subst z
      rw [hk] at e; cases e
      rw [if_pos rfl, if_pos rfl]
      exact .cons hk r ih
    · have q2 : ¬ key1 = key := fun y => z (keyT_inj e (by rw [y]; exact hk))
      rw [if_neg z, if_neg q2]
      exact .cons e h ih
theorem KvK.put {k d : D} {key : Key} {v : V} (hk : keyD k = some key) (r : Rep K ρ H d v) {kvs : List (D × D)} {ks : List (Key × V)} (t : KvK K ρ H kvs ks) : KvK K ρ H (putKv kvs k d) (putK ks key v) := by
  unfold putKv putK
  rw [t.any hk]
  split
  · rename_i h; first | (rw [if_pos h]; exact t.repl hk r) | exact t.repl hk r
  · rename_i h; first | (rw [if_neg h]; exact t.snoc hk r) | exact t.snoc hk r
theorem KvT.put {k d : D} {key : List Key} {v : V} (hk : keyT k = some key) (r : Rep K ρ H d v) {kvs : List (D × D)} {ks : List (List Key × V)} (t : KvT K ρ H kvs ks) : KvT K ρ H (putKv kvs k d) (putK ks key v) := by
  unfold putKv putK
  rw [t.any hk]
  split
  · rename_i h; first | (rw [if_pos h]; exact t.repl hk r) | exact t.repl hk r
  · rename_i h; first | (rw [if_neg h]; exact t.snoc hk r) | exact t.snoc hk r
theorem KvK.del {k : D} {key : Key} (hk : keyD k = some key) : ∀ {kvs : List (D × D)} {ks : List (Key × V)}, KvK K ρ H kvs ks → KvK K ρ H (delKv kvs k) (dropK ks key)
  | _, _, .nil => .nil
  | _, _, .cons (k := k1) (key := key1) e h t => by
    have ih := KvK.del hk t
    unfold delKv dropK at ih ⊢
    by_cases z : k1 = k
    · subst z
      rw [hk] at e; cases e
      simpa using ih
    · have q2 : ¬ key1 = key := fun y => z (keyD_inj e (by rw [y]; exact hk))
      rw [List.filter_cons, List.filter_cons, if_pos (by simpa using z), if_pos (by simpa using q2)]
      exact .cons e h ih
theorem KvK.length : ∀ {kvs : List (D × D)} {ks : List (Key × V)}, KvK K ρ H kvs ks → kvs.length = ks.length
  | _, _, .nil => rfl
  | _, _, .cons _ _ t => congrArg (· + 1) (KvK.length t)
theorem KvT.length : ∀ {kvs : List (D × D)} {ks : List (List Key × V)}, KvT K ρ H kvs ks → kvs.length = ks.length
  | _, _, .nil => rfl
  | _, _, .cons _ _ t => congrArg (· + 1) (KvT.length t)
theorem rep_key {k : D} {key : Key} {v : V} (hk : keyD k = some key) (r : Rep K ρ H k v) : v = kV key := by
  cases r <;> simp only [keyD] at hk <;> first | (cases hk; rfl) | (cases hk)
theorem reps_keys : ∀ {ds : List D} {ks : List Key} {vs : List V}, keysD ds = some ks → Reps K ρ H ds vs → vs = ks.map kV
  | _, _, _, hk, .nil => by simp only [keysD] at hk; cases hk; rfl
  | _, _, _, hk, .cons r t => by
    simp only [keysD] at hk
    split at hk
    · rename_i e1 e2
      cases hk
      rw [rep_key e1 r, reps_keys e2 t]; rfl
    · cases hk
end kv
end
end W9

/-! W9d: dicts, membership, subscripts, slices, methods of lists and dicts -/
namespace W9
open PySem L2

/-! ### an empty dict is of either kind -/
section
variable {X : Cx} {pins : List (Addr × Obj)} {σ : L2.St} {H : Hp} {s : Shared} {a : Addr}
theorem inv_toT (I : Inv X pins σ H s) (h : H a = some (.dK [])) : Inv X pins σ (upd H a (.dT [])) s := by
  obtain ⟨z, hd, vs, rel, o, es, ep, e1, e2, e3, e4, e5, e6⟩ := I.hok a _ h
  cases rel
  have e7 : es.toList = [] := by
    cases q : es.toList with
    | nil => rfl
    | cons x r => rw [q] at e5; cases e5
  exact I.write (x := a) (e := a) (t' := s.toks) (by rw [h]; exact True.intro) (.inl rfl) (fun b u _ q => q) ⟨o, e1⟩ ⟨Nat.zero_le _, hd, [], .nil, o, es, ep, e1, e2, e3, e7, List.nodup_nil⟩
theorem dictOf_nil {P : Program} {w : World} {h : Heap} {o : Obj} {es : Array DictEntry} {ep : Nat} (e1 : h.get? a = some o) (e2 : o.ExactDict) (e3 : o.data = .dict es ep) (e7 : es.toList = []) : h.DictOf (mixKind P w) a [] := by
  have e8 : es = #[] := by
    have := congrArg List.toArray e7
    simpa using this
  subst e8
  have n := Heap.DictOf.new (knd := mixKind P w) h
  obtain ⟨o', es', ep', f1, f2, f3, f4, f5, f6⟩ := n
  rw [Heap.get?_push_size _ rfl] at f1
  cases f1
  cases f3
  exact ⟨o, #[], ep, e1, e2, e3, f4, f5, f6⟩
theorem inv_toK (I : Inv X pins σ H s) (h : H a = some (.dT [])) : Inv X pins σ (upd H a (.dK [])) s := by
  obtain ⟨z, hd, xs, rel, o, es, ep, e1, e2, e3, e4, e5⟩ := I.hok a _ h
  cases rel
  exact I.write (x := a) (e := a) (t' := s.toks) (by rw [h]; exact True.intro) (.inl rfl) (fun b u _ q => q) ⟨o, e1⟩ ⟨Nat.zero_le _, hd, [], .nil, dictOf_nil e1 e2 e3 e4⟩
theorem upd_back {H : Hp} {o u : HO} (h : H a = some o) : upd (upd H a u) a o = H := by
  rw [upd_upd]
  funext b
  by_cases hb : b = a
  · subst hb; rw [upd_same, h]
  · rw [upd_ne hb]
end

/-- a tuple with None among its items -/
def keysN : List D → Option (List (Option Key))
  | [] => some []
  | d :: ds => match (match d with | .non => some none | d => (keyD d).map some), keysN ds with
    | some k, some ks => some (k :: ks)
    | _, _ => none
def nonKey (kvs : List (D × D)) (k : D) : Bool := match k with
  | .tup ds => (keysN ds).isSome && decide (D.non ∈ ds) && (match kvs with | [] => true | (k1, _) :: _ => (keyT k1).isSome)
  | _ => false
/-- the key is of the dict's kind -/
def kindOk (kvs : List (D × D)) (k : D) : Bool := match kvs with
  | [] => (keyD k).isSome || (keyT k).isSome
  | (k1, _) :: _ => ((keyD k1).isSome && (keyD k).isSome) || ((keyT k1).isSome && (keyT k).isSome)
section
variable {X : Cx} {pins : List (Addr × Obj)} {σ : L2.St} {H : Hp} {s : Shared} {a : Addr} {ρ : List Addr} {kvs : List (D × D)} {k d : D} {y v : V}
theorem keyT_tracked {K : PySem.W.Frag} {ks : List Key} (hk : keyT k = some ks) (r : Rep K ρ H k y) : ∃ b, y = .ref b ∧ H b = some (.tup (ks.map kV)) := by
  cases r with
  | tup h hs hb =>
    simp only [keyT] at hk
    split at hk
    · cases hk
    · rename_i nb
      refine ⟨_, rfl, ?_⟩
      rcases hb with hb | hb
      · rw [hb, reps_keys hk hs]
      · exact absurd hb nb
  | _ => simp only [keyT] at hk; cases hk
theorem keyT_of_keyD {x : D} (h : (keyD x).isSome = true) (h2 : (keyT x).isSome = true) : False := by
  cases x <;> simp [keyD, keyT] at h h2
theorem dg_at (I : Inv X pins σ H s) (o : ObRep X.K ρ H a (.dct kvs)) (r : Rep X.K ρ H k y) (hk : kindOk kvs k = true) :
    ∃ H2 ov, Inv X pins σ H2 s ∧ DGet H2 a y ov ∧ (∀ s', Inv X pins σ H2 s' → Inv X pins σ H s') ∧ ((getKv kvs k = none ∧ ov = none) ∨ ∃ d v, getKv kvs k = some d ∧ ov = some v ∧ Rep X.K ρ H d v) := by
  have sameK : ∀ ks key, H a = some (.dK ks) → KvK X.K ρ H kvs ks → keyD k = some key → ∃ H2 ov, Inv X pins σ H2 s ∧ DGet H2 a y ov ∧ (∀ s', Inv X pins σ H2 s' → Inv X pins σ H s') ∧ ((getKv kvs k = none ∧ ov = none) ∨ ∃ d v, getKv kvs k = some d ∧ ov = some v ∧ Rep X.K ρ H d v) := by
    intro ks key e kv hk1
    refine ⟨H, valV ks key, I, by rw [rep_key hk1 r]; exact DGet.k e, fun _ z => z, ?_⟩
    rcases kv.get hk1 with ⟨h1, h2⟩ | ⟨d, v, h1, h2, h3⟩
    · exact .inl ⟨h1, h2⟩
    · exact .inr ⟨d, v, h1, h2, h3⟩
  have sameT : ∀ ks key, H a = some (.dT ks) → KvT X.K ρ H kvs ks → keyT k = some key → ∃ H2 ov, Inv X pins σ H2 s ∧ DGet H2 a y ov ∧ (∀ s', Inv X pins σ H2 s' → Inv X pins σ H s') ∧ ((getKv kvs k = none ∧ ov = none) ∨ ∃ d v, getKv kvs k = some d ∧ ov = some v ∧ Rep X.K ρ H d v) := by
    intro ks key e kv hk1
    obtain ⟨b, rfl, hb⟩ := keyT_tracked hk1 r
    refine ⟨H, valV ks key, I, DGet.t e hb, fun _ z => z, ?_⟩
    rcases kv.get hk1 with ⟨h1, h2⟩ | ⟨d, v, h1, h2, h3⟩
    · exact .inl ⟨h1, h2⟩
    · exact .inr ⟨d, v, h1, h2, h3⟩
  rcases o with ⟨ks, e, kv⟩ | ⟨ks, e, kv⟩
  · cases q : keyD k with
    | some key => exact sameK ks key e kv q
    | none =>
      have hT : ∃ key, keyT k = some key ∧ kvs = [] := by
        cases kvs with
        | nil =>
          simp only [kindOk, q, Option.isSome_none, Bool.false_or] at hk
          obtain ⟨key, hk⟩ := Option.isSome_iff_exists.mp hk
          exact ⟨key, hk, rfl⟩
        | cons p t =>
          obtain ⟨k1, d1⟩ := p
          simp only [kindOk, q, Option.isSome_none, Bool.and_false, Bool.false_or, Bool.and_eq_true] at hk
          cases kv with
          | cons h1 _ _ => exact (keyT_of_keyD (by rw [h1]; rfl) hk.1).elim
      obtain ⟨key, hk1, rfl⟩ := hT
      cases kv
      obtain ⟨b, rfl, hb⟩ := keyT_tracked hk1 r
      refine ⟨upd H a (.dT []), none, inv_toT I e, ?_, fun s' J => ?_, .inl ⟨rfl, rfl⟩⟩
      · exact .inr ⟨[], key, b, .inl upd_same, rfl, by rw [upd_ne (ne_of hb e (fun z => nomatch z))]; exact hb, rfl⟩
      · have := inv_toK J upd_same
        rwa [upd_back e] at this
  · cases q : keyT k with
    | some key => exact sameT ks key e kv q
    | none =>
      have hT : ∃ key, keyD k = some key ∧ kvs = [] := by
        cases kvs with
        | nil =>
          simp only [kindOk, q, Option.isSome_none, Bool.or_false] at hk
          obtain ⟨key, hk⟩ := Option.isSome_iff_exists.mp hk
          exact ⟨key, hk, rfl⟩
        | cons p t =>
          obtain ⟨k1, d1⟩ := p
          simp only [kindOk, q, Option.isSome_none, Bool.and_false, Bool.or_false, Bool.and_eq_true] at hk
          cases kv with
          | cons h1 _ _ => exact (keyT_of_keyD hk.1 (by rw [h1]; rfl)).elim
      obtain ⟨key, hk1, rfl⟩ := hT
      cases kv
      refine ⟨upd H a (.dK []), none, inv_toK I e, ?_, fun s' J => ?_, .inl ⟨rfl, rfl⟩⟩
      · rw [rep_key hk1 r]; exact .inl ⟨[], key, .inl upd_same, rfl, rfl⟩
      · have := inv_toT J upd_same
        rwa [upd_back e] at this
/-- a look and a put: the new heap, what it means -/
theorem dp_at {st : Store} {i : Nat} (I : Inv X pins σ H s) (S : Sim X.K ρ st H) (hi : ρ[i]? = some a) (o : ObRep X.K ρ H a (.dct kvs)) (r : Rep X.K ρ H k y) (hk : kindOk kvs k = true) (hl : kvs.length < bigN) (rv : Rep X.K ρ H d v) :
    ∃ H2 ov u, Inv X pins σ H2 s ∧ DGet H2 a y ov ∧ (∀ s', Inv X pins σ H2 s' → Inv X pins σ H s') ∧ ((getKv kvs k = none ∧ ov = none) ∨ ∃ d v, getKv kvs k = some d ∧ ov = some v ∧ Rep X.K ρ H d v) ∧
      DPut H2 a y v (upd H a u) ∧ Mut (H a) ∧ ObRep X.K ρ (upd H a u) a (.dct (putKv kvs k d)) := by
  have mutK : ∀ ks, H a = some (.dK ks) → Mut (H a) := fun ks e => by rw [e]; exact True.intro
  have mutT : ∀ ks, H a = some (.dT ks) → Mut (H a) := fun ks e => by rw [e]; exact True.intro
  have gr : ∀ u, Mut (H a) → Grow ρ H ρ (upd H a u) := fun u m => S.grow_set hi m
  rcases o with ⟨ks, e, kv⟩ | ⟨ks, e, kv⟩
  · cases q : keyD k with
    | some key =>
      refine ⟨H, valV ks key, _, I, by rw [rep_key q r]; exact DGet.k e, fun _ z => z, ?_, by rw [rep_key q r]; exact DPut.k e (by rw [big_eq, ← kv.length]; exact hl), mutK ks e, .inl ⟨_, upd_same, ?_⟩⟩
      · rcases kv.get q with ⟨h1, h2⟩ | ⟨d, v, h1, h2, h3⟩
        · exact .inl ⟨h1, h2⟩
        · exact .inr ⟨d, v, h1, h2, h3⟩
      · exact (kv.put q rv).grow (gr _ (mutK ks e))
    | none =>
      have hT : ∃ key, keyT k = some key ∧ kvs = [] := by
        cases kvs with
        | nil =>
          simp only [kindOk, q, Option.isSome_none, Bool.false_or] at hk
          obtain ⟨key, hk⟩ := Option.isSome_iff_exists.mp hk
          exact ⟨key, hk, rfl⟩
        | cons p t =>
          obtain ⟨k1, d1⟩ := p
          simp only [kindOk, q, Option.isSome_none, Bool.and_false, Bool.false_or, Bool.and_eq_true] at hk
          cases kv with
          | cons h1 _ _ => exact (keyT_of_keyD (by rw [h1]; rfl) hk.1).elim
      obtain ⟨key, hk1, rfl⟩ := hT
      cases kv
      obtain ⟨b, rfl, hb⟩ := keyT_tracked hk1 r
      have hb' : (upd H a (.dT [])) b = some (.tup (key.map kV)) := by rw [upd_ne (ne_of hb e (fun z => nomatch z))]; exact hb
      refine ⟨upd H a (.dT []), none, .dT (putK [] key v), inv_toT I e, .inr ⟨[], key, b, .inl upd_same, rfl, hb', rfl⟩, fun s' J => ?_, .inl ⟨rfl, rfl⟩, ?_, mutK _ e, .inr ⟨_, upd_same, ?_⟩⟩
      · have := inv_toK J upd_same
        rwa [upd_back e] at this
      · have := DPut.t (v := v) (upd_same (H := H) (a := a) (o := .dT [])) hb' (by decide)
        rwa [upd_upd] at this
      · exact (KvT.put hk1 rv (.nil (K := X.K) (ρ := ρ) (H := H))).grow (gr _ (mutK _ e))
  · cases q : keyT k with
    | some key =>
      obtain ⟨b, rfl, hb⟩ := keyT_tracked q r
      refine ⟨H, valV ks key, _, I, DGet.t e hb, fun _ z => z, ?_, DPut.t e hb (by rw [big_eq, ← kv.length]; exact hl), mutT ks e, .inr ⟨_, upd_same, ?_⟩⟩
      · rcases kv.get q with ⟨h1, h2⟩ | ⟨d, v, h1, h2, h3⟩
        · exact .inl ⟨h1, h2⟩
        · exact .inr ⟨d, v, h1, h2, h3⟩
      · exact (kv.put q rv).grow (gr _ (mutT ks e))
    | none =>
      have hT : ∃ key, keyD k = some key ∧ kvs = [] := by
        cases kvs with
        | nil =>
          simp only [kindOk, q, Option.isSome_none, Bool.or_false] at hk
          obtain ⟨key, hk⟩ := Option.isSome_iff_exists.mp hk
          exact ⟨key, hk, rfl⟩
        | cons p t =>
          obtain ⟨k1, d1⟩ := p
          simp only [kindOk, q, Option.isSome_none, Bool.and_false, Bool.or_false, Bool.and_eq_true] at hk
          cases kv with
          | cons h1 _ _ => exact (keyT_of_keyD hk.1 (by rw [h1]; rfl)).elim
      obtain ⟨key, hk1, rfl⟩ := hT
      cases kv
      refine ⟨upd H a (.dK []), none, .dK (putK [] key v), inv_toK I e, by rw [rep_key hk1 r]; exact .inl ⟨[], key, .inl upd_same, rfl, rfl⟩, fun s' J => ?_, .inl ⟨rfl, rfl⟩, ?_, mutT _ e, .inl ⟨_, upd_same, ?_⟩⟩
      · have := inv_toT J upd_same
        rwa [upd_back e] at this
      · have := DPut.k (k := key) (v := v) (upd_same (H := H) (a := a) (o := .dK [])) (by decide)
        rw [upd_upd] at this
        rw [rep_key hk1 r]
        exact this
      · exact (KvK.put hk1 rv (.nil (K := X.K) (ρ := ρ) (H := H))).grow (gr _ (mutT _ e))
end
end W9

/-! W9e: enumerate of a text and of a tuple -/
namespace W9
open PySem L2
open Sem (wp)
theorem meets_enum1 {v : Value} {o : Obj} {H : Heap → Prop} (B : Begins v o H) :
    Meets (Builtin.«enumerate.__new__» ⟨[.type "enumerate", v], []⟩) (fun _ R s => H s.heap ∧
      R (.ok (.ret (.ref (s.heap.push o).objs.size))) { s with heap := (s.heap.push o).push { cls := .type "enumerate", data := .fields #[.none, .bool false, .ref s.heap.objs.size, rawInt 0, .none, .none] } }) :=
  .of_wp fun prog w A R s h => by
    obtain ⟨hp, g, d, tk, os⟩ := s; obtain ⟨h1, h⟩ := h
    have hsub := sub_enumerate
    have q1 : ∀ {A' : Around} {E : Value → Shared → Prop} {Q : Value → Shared → Prop}, Q (.ref hp.objs.size) ⟨hp.push o, g, d, tk, os⟩ → wpAny (model prog w) A' (pyIter v) Q E ⟨hp, g, d, tk, os⟩ :=
      fun q => B.iter prog w _ _ ⟨hp, g, d, tk, os⟩ _ h1 q
    wp_walk using q1
    refine wpAny_stack_any fun st => wpAny_pure ?_
    split
    · rename_i c _ _ _ _ _
      cases (c == Value.type "enumerate")
      · wp_walk using q1
        exact ⟨_, rfl, h⟩
      · wp_walk using q1
        exact ⟨_, rfl, h⟩
    · wp_walk using q1
      exact ⟨_, rfl, h⟩
section
variable {prog : Program} {w : World} {A : Around} {E : Value → Shared → Prop} {s : Shared}
theorem enum1_begins {v : Value} {o : Obj} {H : Heap → Prop} {Q : Value → Shared → Prop} (B : Begins v o H) (h1 : H s.heap)
    (h : ∀ h', IsEnum h' (s.heap.objs.size + 1) s.heap.objs.size 0 .none → h'.get? s.heap.objs.size = some o → h'.objs.size = s.heap.objs.size + 2 →
      (∀ b o, s.heap.get? b = some o → h'.get? b = some o) → Q (.ref (s.heap.objs.size + 1)) { s with heap := h' }) :
    wpAny (model prog w) A (call (.type "enumerate") [v]) Q E s := by
  refine callType_new F.called_enumerate (by decide) (F.typeCall_enumerate_1 _) (F.newCall_enumerate_1 _) (fun obj => F.args_object_init_2 obj _) F.entry_enumerate_new
    (meets_enum1 B) ⟨h1, ?_⟩
  have hz : (s.heap.push o).objs.size = s.heap.objs.size + 1 := Heap.size_push ..
  show _ ∧ _
  rw [hz]
  have he : IsEnum ((s.heap.push o).push { cls := .type "enumerate", data := .fields #[.none, .bool false, .ref s.heap.objs.size, rawInt 0, .none, .none] }) (s.heap.objs.size + 1) s.heap.objs.size 0 .none := by
    have := Heap.get?_push_size (s.heap.push o) (o := { cls := .type "enumerate", data := .fields #[.none, .bool false, .ref s.heap.objs.size, rawInt 0, .none, .none] }) rfl
    rw [hz] at this; exact this
  exact ⟨⟨_, he, rfl⟩, h _ he (Heap.get?_push_of_some _ (Heap.get?_push_size _ B.free)) (by rw [Heap.size_push, hz]) fun b o x => Heap.get?_push_of_some _ (Heap.get?_push_of_some _ x)⟩
end
/-- n pairs (i, x), x told by P (a place, a value) -/
def Itx (n : Nat) (Y : Nat → V → Prop) : It :=
  ⟨fun i _ => i < n, fun i H v H' => ∃ T x, v = .ref T ∧ H T = none ∧ H' = upd H T (.tup [.int (i : Nat), x]) ∧ Y i x, fun i _ => n ≤ i⟩
theorem draws_text {prog : Program} {w : World} {A : Around} (hh : A.handled = none) (it : Addr) (x : Str) (t : Tok) :
    Draws prog w A it [it] x.cps.size (fun i v => ∃ c u, x.cps[i]? = some c ∧ v = .str ⟨#[c]⟩ u) (fun i h => h.IsStrIter it (strIterType x) x t i) := Draws.text hh it x t
/-- an enumerate whose source has its own cells alone: a text -/
theorem turn_enumS {P : Program} {w : World} {K : PySem.W.Frag} {elts : List Expr} {kk : Nat} {tpos : Pos} (x : Str) (t : Tok) (e it : Addr) (hne : e ≠ it) :
    Turn P w K (.Tuple elts kk tpos) (Itx x.cps.size fun i v => ∃ c, x.cps[i]? = some c ∧ v = .str ⟨#[c]⟩) [e, it] e (fun i h => i ≤ x.cps.size ∧ (∃ old, IsEnum h e it ((0 : Int) + (i : Int)) old) ∧ h.IsStrIter it (strIterType x) x t i) where
  mem := by simp
  obj := fun i h st b hb => by
    obtain ⟨_, ⟨old, he⟩, ⟨o, ho, hc, hd⟩⟩ := st
    have e' : b = e ∨ b = it := by simpa using hb
    rcases e' with z | z
    · rw [z]; exact ⟨_, he, fun v q => nomatch q⟩
    · rw [z]; exact ⟨o, ho, fun v q => by rw [hd] at q; cases q⟩
  keep := fun i h h' st k => let ⟨hi, ⟨old, he⟩, ⟨o, ho, r⟩⟩ := st; ⟨hi, ⟨old, k e (by simp) _ he⟩, ⟨o, k it (by simp) o ho, r⟩⟩
  item := by
    intro X hP hw hK hc i pins s σ H E I hf st hg
    subst hP hw hK
    obtain ⟨_, st1, st2⟩ := st
    have W := WalksT.enumFrom (prog := X.prog) (w := X.w) (A := X.A) 0 (draws_text (A := X.A.in1) (show X.A.in1.handled = none from I.ok.hd hc) it x t) e hne (by simp [hne]) (by simp)
    refine W.item i s _ _ hg ⟨st1, st2⟩ fun T vals h' tk hP hT hTup mid hk => ?_
    refine ⟨_, rfl, W.go elts kk tpos i T { s with heap := h', toks := tk } _ _ mid fun h'' st'' hk2 => ?_⟩
    obtain ⟨tt, y, ⟨c, u, hc1, hy⟩, hv⟩ := hP
    subst hy hv
    have hTw : T ∉ [e, it] := W.apart i T h' mid
    have hTup2 : h''.IsTuple T #[.int ((0 : Int) + (i : Int)) tt, .str ⟨#[c]⟩ u] := by
      obtain ⟨oo, h1, h2⟩ := hTup
      exact ⟨oo, hk2 T oo hTw h1, h2⟩
    have e0 : (0 : Int) + (i : Int) = ((i : Nat) : Int) := Int.zero_add _
    have new : ObjOk X.prog X.w (upd H T (.tup [.int (i : Nat), .str ⟨#[c]⟩])) h'' T (.tup [.int (i : Nat), .str ⟨#[c]⟩]) :=
      ⟨by show 2 ≤ sizeLine; decide, [.int ((0 : Int) + (i : Int)) tt, .str ⟨#[c]⟩ u], .cons ⟨_, by rw [e0]⟩ (.cons ⟨_, rfl⟩ .nil), hTup2⟩
    have I1 : Inv X pins σ (upd H T (.tup [.int (i : Nat), .str ⟨#[c]⟩])) { s with heap := h'', toks := tk } :=
      I.turnedNew (ch := [e, it]) (fun b ob hb q => hk2 b ob hb (hk b ob hb q)) hf hT new
    refine ⟨.ref T, _, I1, rfl, ⟨T, _, rfl, I.hok.fresh hT, rfl, c, hc1, rfl⟩, ⟨hg, st''.1, st''.2⟩, fun b hb => ?_⟩
    have hb' : b ≠ T := fun z => hTw (z ▸ hb)
    rw [upd_ne hb']
    exact (hf b hb).1
  done := by
    intro X hP hw hK hc i pins s σ H E I hf st hg
    subst hP hw hK
    obtain ⟨hi, st1, st2⟩ := st
    have hin : i = x.cps.size := Nat.le_antisymm hi hg
    subst hin
    have W := WalksT.enumFrom (prog := X.prog) (w := X.w) (A := X.A) 0 (draws_text (A := X.A.in1) (show X.A.in1.handled = none from I.ok.hd hc) it x t) e hne (by simp [hne]) (by simp)
    exact W.done s _ _ ⟨st1, st2⟩ fun h' tk hk => ⟨rfl, I.turnedL (ch := [e, it]) (fun b o hb q => hk b o hb q) hf⟩
  self := fun A i s Q E st h => let ⟨_, ⟨_, he⟩, _⟩ := st; wpAny_pyIter_enum he h
def iEnumS (ta : TA) : TI := fun σ H R => ta σ H fun vs H1 => ∃ x : Str, vs = [.str x] ∧ R (Itx x.cps.size fun i v => ∃ c, x.cps[i]? = some c ∧ v = .str ⟨#[c]⟩) H1
theorem pi_enumS {X : Cx} {e : Expr} {ta : TA} {p pos tpos : Pos} {elts : List Expr} {kk : Nat} (hg : Gl X "enumerate") (hm : X.mg "enumerate" = none) (ha : PA X [e] ta) (hs : starEach [e] X.env = [(false, eval e X.env)] := by rfl) :
    PI X (.Tuple elts kk tpos) (.Call (.Name "enumerate" p) [e] [] pos) (iEnumS ta) := by
  refine ⟨fun pins s σ H R I h => ?_⟩
  refine PyProof.Rows.Call_ (ld_blt I hg hm PyProof.Rows.boot_enumerate (PyProof.Rows.callWith_type1 (thn (ha.run pos pins s σ H _ I h) fun us s1 ⟨vs, H1, I1, r1, q1⟩ => ?_) hs rfl))
  obtain ⟨x, ex, q⟩ := q1
  subst ex
  cases r1 with
  | cons r rr =>
    cases rr
    obtain ⟨t, rfl⟩ := r
    refine enum1_begins (begins_text x t) trivial fun h' he ho hsz hk => wpAny_pyIter_enum he ?_
    have I2 : Inv X pins σ H1 { s1 with heap := h' } := I1.kept (t' := s1.toks) hk
    refine ⟨s1.heap.objs.size + 1, [s1.heap.objs.size + 1, s1.heap.objs.size], _, _, H1, rfl, I2, turn_enumS x t (s1.heap.objs.size + 1) s1.heap.objs.size (Nat.succ_ne_self _), ⟨Nat.zero_le _, ⟨.none, by simpa using he⟩, ⟨_, ho, rfl, rfl⟩⟩, fun b hb => ?_, q⟩
    have e' : b = s1.heap.objs.size + 1 ∨ b = s1.heap.objs.size := by simpa using hb
    have hle : s1.heap.objs.size ≤ b := by
      rcases e' with z | z
      · rw [z]; exact Nat.le_add_right _ _
      · rw [z]; exact Nat.le_refl _
    exact I1.fpOk hle (I1.hok.fresh hle)
end W9

/-! W9f: membership, subscripts, slices, methods, built-ins by values -/
namespace W9
open PySem L2
section
variable {X : Cx}

/-! ### in -/
def rInT (K : PySem.W.Frag) (neg : Bool) : R2 := fun x y H Q => ∃ d ds, Dp K H x d ∧ Dp K H y (.tuple ds) ∧ SeqAt.shaped d = true ∧ SeqAt.shaped (.tuple ds) = true ∧ Q (.bl (if neg then !ds.any fun z => PyData.eqv z d else ds.any fun z => PyData.eqv z d)) H
theorem room_in' {A : Around} {d : PyData} {n : Nat} (h : SeqAt.shaped d = true) (hu : A.units + 65 < cLine) : A.units + 1 + min n d.depth < cLine := by
  have h2 : (d.canLay0 && decide (d.depth ≤ 64)) = true := h
  rw [Bool.and_eq_true] at h2
  have := of_decide_eq_true h2.2
  have := Nat.min_le_right n d.depth
  omega
theorem op_inT (hu : X.A.units + 65 < cLine) : OpR X (compareOp .In) (rInT X.K false) := by
  intro pins s σ H x y v u Q I rx ry h
  obtain ⟨d, ds, hd, he, sd, se, q⟩ := h
  obtain ⟨as, r1⟩ := Dp.reads I d x v hd rx
  obtain ⟨bs, r2⟩ := Dp.reads I (.tuple ds) y u he ry
  exact SeqAt.in_tuple_reads r2 r1 (SeqAt.canLay_of_shaped se) (SeqAt.canLay_of_shaped sd) (room_in' sd hu) ⟨.bl _, H, I, rfl, q⟩
theorem op_notInT (hu : X.A.units + 65 < cLine) : OpR X (compareOp .NotIn) (rInT X.K true) := by
  intro pins s σ H x y v u Q I rx ry h
  obtain ⟨d, ds, hd, he, sd, se, q⟩ := h
  obtain ⟨as, r1⟩ := Dp.reads I d x v hd rx
  obtain ⟨bs, r2⟩ := Dp.reads I (.tuple ds) y u he ry
  exact SeqAt.notIn_tuple_reads r2 r1 (SeqAt.canLay_of_shaped se) (SeqAt.canLay_of_shaped sd) (room_in' sd hu) ⟨.bl _, H, I, rfl, q⟩
/-- in a dict -/
def rInDct (K : PySem.W.Frag) (neg : Bool) : R2 := fun x y H Q => ∃ ρ kvs k a, y = .ref a ∧ ObRep K ρ H a (.dct kvs) ∧ Rep K ρ H k x ∧ kindOk kvs k = true ∧ Q (.bl (if neg then !(getKv kvs k).isSome else (getKv kvs k).isSome)) H
theorem op_inDct (hu : X.A.units + 65 < cLine) : OpR X (compareOp .In) (rInDct X.K false) := by
  intro pins s σ H x y v u Q I rx ry h
  obtain ⟨ρ, kvs, k, a, rfl, ho, rk, hk, q⟩ := h
  cases ry
  obtain ⟨H2, ov, I2, g, back, res⟩ := dg_at I ho rk hk
  refine d_in (by omega) I2 g rx fun s' J => ?_
  have e : ov.isSome = (getKv kvs k).isSome := by
    rcases res with ⟨e1, e2⟩ | ⟨d, z, e1, e2, _⟩ <;> rw [e1, e2] <;> rfl
  exact ⟨.bl ov.isSome, H, back _ J, rfl, by rw [e]; exact q⟩
theorem op_notInDct (hu : X.A.units + 65 < cLine) : OpR X (compareOp .NotIn) (rInDct X.K true) := by
  intro pins s σ H x y v u Q I rx ry h
  obtain ⟨ρ, kvs, k, a, rfl, ho, rk, hk, q⟩ := h
  cases ry
  obtain ⟨H2, ov, I2, g, back, res⟩ := dg_at I ho rk hk
  refine d_notIn (by omega) I2 g rx fun s' J => ?_
  have e : ov.isSome = (getKv kvs k).isSome := by
    rcases res with ⟨e1, e2⟩ | ⟨d, z, e1, e2, _⟩ <;> rw [e1, e2] <;> rfl
  exact ⟨.bl (!ov.isSome), H, back _ J, rfl, by rw [e]; exact q⟩
def ifn (neg b : Bool) : Bool := if neg then !b else b
def inSeq (neg : Bool) (x y : D) : M D := fun st => match pyD st x, pyD st y with
  | some p, some (.list qs) => if SeqAt.shaped p = true ∧ SeqAt.shaped (.list qs) = true then .ok (.bl (ifn neg (qs.any fun z => PyData.eqv z p))) st else .no
  | some p, some (.tuple qs) => if SeqAt.shaped p = true ∧ SeqAt.shaped (.tuple qs) = true then .ok (.bl (ifn neg (qs.any fun z => PyData.eqv z p))) st else .no
  | _, _ => .no
def inD (neg : Bool) (x y : D) : M D := fun st => match y with
  | .str b => match x with
    | .str a => match a.cps.toList with
      | [c] => .ok (.bl (ifn neg (decide (c ∈ b.cps.toList)))) st
      | _ => .no
    | _ => .no
  | .ob i => match st[i]? with
    | some (.dct kvs) => if kindOk kvs x = true then .ok (.bl (ifn neg (getKv kvs x).isSome)) st else .no
    | _ => inSeq neg x y st
  | _ => inSeq neg x y st
theorem ok_inSeq (hu : X.A.units + 65 < cLine) (neg : Bool) {ρ : List Addr} {st st' : Store} {H : Hp} {x y d : D} {v w : V} (S : Sim X.K ρ st H) (rx : Rep X.K ρ H x v) (ry : Rep X.K ρ H y w) (e : inSeq neg x y st = .ok d st') :
    ∃ r : R2, OpR X (compareOp (if neg then .NotIn else .In)) r ∧ ∀ Q, Post X.K ρ H st' d Q → r v w H Q := by
  unfold inSeq at e
  split at e
  · rename_i p qs e1 e2
    split at e
    · rename_i h
      cases e
      cases neg with
      | false => exact ⟨_, op_inD hu, fun Q k => ⟨p, qs, pyD_dp S rx e1, pyD_dp S ry e2, h.1, h.2, k.self S (.bl _)⟩⟩
      | true => exact ⟨_, op_notInD hu, fun Q k => ⟨p, qs, pyD_dp S rx e1, pyD_dp S ry e2, h.1, h.2, k.self S (.bl _)⟩⟩
    · cases e
  · rename_i p qs e1 e2
    split at e
    · rename_i h
      cases e
      cases neg with
      | false => exact ⟨_, op_inT hu, fun Q k => ⟨p, qs, pyD_dp S rx e1, pyD_dp S ry e2, h.1, h.2, k.self S (.bl _)⟩⟩
      | true => exact ⟨_, op_notInT hu, fun Q k => ⟨p, qs, pyD_dp S rx e1, pyD_dp S ry e2, h.1, h.2, k.self S (.bl _)⟩⟩
    · cases e
  · cases e
theorem ok_inB (hu : X.A.units + 65 < cLine) (neg : Bool) : OkOp X (compareOp (if neg then .NotIn else .In)) (inD neg) := by
  intro ρ st H x y v w d st' S rx ry e
  cases ry with
  | str b =>
    simp only [inD] at e
    split at e
    · rename_i a
      cases rx
      split at e
      · rename_i c hc
        cases e
        have ea : a = ⟨#[c]⟩ := by
          obtain ⟨cps⟩ := a
          congr 1
          have := congrArg List.toArray hc
          simpa using this
        subst ea
        cases neg with
        | false => exact ⟨_, op_in_sign, fun Q k => ⟨c, b, rfl, rfl, k.self S (.bl _)⟩⟩
        | true => exact ⟨_, op_notIn_sign, fun Q k => ⟨c, b, rfl, rfl, k.self S (.bl _)⟩⟩
      · cases e
    · cases e
  | ob hy =>
    simp only [inD] at e
    split at e
    · rename_i kvs h1
      split at e
      · rename_i hk
        cases e
        have ho := S.ob _ _ _ h1 hy
        cases neg with
        | false => exact ⟨_, op_inDct hu, fun Q k => ⟨ρ, kvs, x, _, rfl, ho, rx, hk, k.self S (.bl _)⟩⟩
        | true => exact ⟨_, op_notInDct hu, fun Q k => ⟨ρ, kvs, x, _, rfl, ho, rx, hk, k.self S (.bl _)⟩⟩
      · cases e
    · exact ok_inSeq hu neg S rx (.ob hy) e
  | non => exact ok_inSeq hu neg S rx .non e
  | bl b => exact ok_inSeq hu neg S rx (.bl b) e
  | int i => exact ok_inSeq hu neg S rx (.int i) e
  | tup a b c => exact ok_inSeq hu neg S rx (.tup a b c) e
  | fls a b => exact ok_inSeq hu neg S rx (.fls a b) e
theorem ok_in (hu : X.A.units + 65 < cLine) : OkOp X (compareOp .In) (inD false) := ok_inB hu false
theorem ok_notin (hu : X.A.units + 65 < cLine) : OkOp X (compareOp .NotIn) (inD true) := ok_inB hu true

/-! ### subscripts -/
def ixD (o i : D) : M D := fun st => match o, i with
  | .tup xs, .int k => match atI xs k with | some d => .ok d st | none => .no
  | .fls xs, .int k => match atI xs k with | some d => .ok d st | none => .no
  | .str z, .int k => if z.length ≤ bigN then match atI z.cps.toList k with | some c => .ok (.str ⟨#[c]⟩) st | none => .no else .no
  | .ob j, k => match st[j]? with
    | some (.lst xs) => match k with
      | .int k => match atI xs k with | some d => .ok d st | none => .no
      | _ => .no
    | some (.dct kvs) => if kindOk kvs k = true then match getKv kvs k with | some d => .ok d st | none => .no else .no
    | _ => .no
  | _, _ => .no
/-- whether the thing is a dict -/
def isDct (st : Store) : D → Bool
  | .ob j => match st[j]? with | some (.dct _) => true | _ => false
  | _ => false
theorem reps_atI {K : PySem.W.Frag} {ρ : List Addr} {H : Hp} {ds : List D} {vs : List V} {k : Int} {d : D} (r : Reps K ρ H ds vs) (e : atI ds k = some d) : ∃ v, atI vs k = some v ∧ Rep K ρ H d v := by
  unfold atI at e ⊢
  rw [← r.length]
  cases q : ixN ds.length k with
  | none => rw [q] at e; cases e
  | some j =>
    rw [q] at e
    exact r.get e
theorem ok_ix {ρ : List Addr} {st st' : Store} {H : Hp} {x y d : D} {v w : V} (S : Sim X.K ρ st H) (rx : Rep X.K ρ H x v) (ry : Rep X.K ρ H y w) (hn : isDct st x = false) (e : ixD x y st = .ok d st') :
    ∃ r : R2, IxR X r ∧ ∀ Q, Post X.K ρ H st' d Q → r v w H Q := by
  cases rx with
  | tup hx hs _ =>
    cases ry with
    | int k =>
      simp only [ixD] at e
      split at e
      · rename_i d' h1
        cases e
        obtain ⟨z, h2, rz⟩ := reps_atI hs h1
        exact ⟨_, ix_tup, fun Q p => ⟨_, _, k, z, rfl, rfl, hx, h2, p.self S rz⟩⟩
      · cases e
    | _ => simp only [ixD] at e; cases e
  | fls hx hs =>
    cases ry with
    | int k =>
      simp only [ixD] at e
      split at e
      · rename_i d' h1
        cases e
        obtain ⟨z, h2, rz⟩ := reps_atI hs h1
        exact ⟨_, ix_list, fun Q p => ⟨_, _, k, z, rfl, rfl, hx.sq, h2, p.self S rz⟩⟩
      · cases e
    | _ => simp only [ixD] at e; cases e
  | str z =>
    cases ry with
    | int k =>
      simp only [ixD] at e
      split at e
      · rename_i hl
        split at e
        · rename_i c h1
          cases e
          exact ⟨_, ix_str, fun Q p => ⟨z, k, c, rfl, rfl, by rw [big_eq]; exact hl, h1, p.self S (.str _)⟩⟩
        · cases e
      · cases e
    | _ => simp only [ixD] at e; cases e
  | ob hx =>
    simp only [ixD] at e
    split at e
    · rename_i xs h1
      obtain ⟨vs, h2, hs⟩ := S.ob _ _ _ h1 hx
      split at e
      · rename_i k
        cases ry
        split at e
        · rename_i d' h3
          cases e
          obtain ⟨z, h4, rz⟩ := reps_atI hs h3
          exact ⟨_, ix_list, fun Q p => ⟨_, vs, k, z, rfl, rfl, SqL.of h2, h4, p.self S rz⟩⟩
        · cases e
      · cases e
    · rename_i kvs h1
      simp only [isDct, h1] at hn
      cases hn
    · cases e
  | _ => cases ry <;> (simp only [ixD] at e; cases e)
/-- d[k] of a dict, the key there -/
def tDGetD (K : PySem.W.Frag) (td ty : TE) : TE := fun σ H Q => td σ H fun x H1 => ty σ H1 fun y H2 => ∃ ρ kvs k a d v, x = .ref a ∧ ObRep K ρ H2 a (.dct kvs) ∧ Rep K ρ H2 k y ∧ kindOk kvs k = true ∧ getKv kvs k = some d ∧ (∀ v, Rep K ρ H2 d v → Q v H2) ∧ v = V.non
theorem pe_dgetD {o i : Expr} {pos : Pos} {td ty : TE} (hu : X.A.units + 1 < cLine) (ho : PE X o td) (hi : PE X i ty) (hs : NoSl i) : PE X (.Subscript o i pos) (tDGetD X.K td ty) := by
  refine ⟨fun pins s σ H Q I h => ?_⟩
  refine subD_of PySem.F.slot_dict_getitem.lookup hs (thn (ho.run pins s σ H _ I h) fun u s1 ⟨x, H1, I1, rx, q1⟩ => thn (hi.run pins s1 σ H1 _ I1 q1) fun iv s2 ⟨y, H2, I2, ry, ρ, kvs, k, a, d, _, ex, ob, rk, hk, hg, q2, _⟩ => ?_)
  subst ex
  obtain rfl : u = Value.ref a := rx
  obtain ⟨H3, ov, I3, g, back, res⟩ := dg_at I2 ob rk hk
  rcases res with ⟨e1, _⟩ | ⟨d', z, e1, e2, rz⟩
  · rw [hg] at e1; cases e1
  · rw [hg] at e1; cases e1
    subst e2
    exact ⟨dict_typeIs I3 g, d_getItem hu I3 g ry fun w' s3 J rw' => ⟨z, H2, back _ J, rw', q2 z rz⟩⟩

/-! ### slices -/
def cutL {α : Type} (xs : List α) (lo hi : Option Int) : List α := (xs.drop (HT.sIx xs.length 0 lo)).take (HT.sIx xs.length xs.length hi - HT.sIx xs.length 0 lo)
def slD (x : D) (lo hi : Option Int) : M D := fun st => match x with
  | .tup xs => .ok (.tup (cutL xs lo hi)) st
  | .fls xs => .ok (.ob st.length) (st ++ [.lst (cutL xs lo hi)])
  | .ob j => match st[j]? with
    | some (.lst xs) => .ok (.ob st.length) (st ++ [.lst (cutL xs lo hi)])
    | _ => .no
  | .str z => if z.length ≤ bigN then .ok (.str (cutS z lo hi)) st else .no
  | _ => .no
theorem reps_cut {K : PySem.W.Frag} {ρ : List Addr} {H : Hp} {ds : List D} {vs : List V} (r : Reps K ρ H ds vs) (lo hi : Option Int) : Reps K ρ H (cutL ds lo hi) (cutV vs lo hi) := by
  unfold cutL cutV
  rw [r.length]
  exact (r.drop _).take _
theorem cut_whole {α : Type} (xs : List α) (lo hi : Option Int) (h : HT.sIx xs.length 0 lo = 0 ∧ HT.sIx xs.length xs.length hi = xs.length) : cutL xs lo hi = xs := by
  unfold cutL
  rw [h.1, h.2]
  simp
theorem ok_sl {ρ : List Addr} {st st' : Store} {H : Hp} {x d : D} {v : V} {lo hi : Option Int} (S : Sim X.K ρ st H) (rx : Rep X.K ρ H x v) (e : slD x lo hi st = .ok d st') :
    ∃ r : V → Option Int → Option Int → Hp → VK → Prop, SlR X r ∧ ∀ Q, Post X.K ρ H st' d Q → r v lo hi H Q := by
  cases rx with
  | tup hx hs hb =>
    simp only [slD] at e
    cases e
    refine ⟨_, sl_tupA, fun Q p => ⟨_, _, rfl, hx, fun hw => ?_, fun hw q hq => p.tup S (reps_cut hs lo hi) hq⟩⟩
    rw [cut_whole _ _ _ (by rw [hs.length]; exact hw)] at p
    exact p.self S (.tup hx hs hb)
  | fls hx hs =>
    simp only [slD] at e
    cases e
    exact ⟨_, sl_list, fun Q p => ⟨_, _, rfl, hx.sq, fun q hq => p.lst S (reps_cut hs lo hi) hq⟩⟩
  | str z =>
    simp only [slD] at e
    split at e
    · rename_i hl
      cases e
      exact ⟨_, sl_str, fun Q p => ⟨z, rfl, by rw [big_eq]; exact hl, p.self S (.str _)⟩⟩
    · cases e
  | ob hx =>
    simp only [slD] at e
    split at e
    · rename_i xs h1
      cases e
      obtain ⟨vs, h2, hs⟩ := S.ob _ _ _ h1 hx
      exact ⟨_, sl_list, fun Q p => ⟨_, vs, rfl, SqL.of h2, fun q hq => p.lst S (reps_cut hs lo hi) hq⟩⟩
    · cases e
  | _ => simp only [slD] at e; cases e
end
end W9

/-! W9g: built-in functions, methods -/
namespace W9
open PySem L2

inductive Bi where
  | len | abs | int | ord | sum | min | max | all | any | tuple | list | sorted | repr | str
  deriving DecidableEq
def Bi.name : Bi → Str
  | .len => "len" | .abs => "abs" | .int => "int" | .ord => "ord" | .sum => "sum" | .min => "min" | .max => "max" | .all => "all" | .any => "any" | .tuple => "tuple" | .list => "list" | .sorted => "sorted" | .repr => "repr" | .str => "str"

def intsOf : List D → Option (List Int)
  | [] => some []
  | .int i :: r => match intsOf r with | some is => some (i :: is) | none => none
  | _ => none
def blsOf : List D → Option (List Bool)
  | [] => some []
  | .bl i :: r => match blsOf r with | some is => some (i :: is) | none => none
  | _ => none
/-- the least, the greatest of a list -/
def minI : Int → List Int → Int
  | m, [] => m
  | m, x :: r => minI (if x < m then x else m) r
def maxI : Int → List Int → Int
  | m, [] => m
  | m, x :: r => maxI (if m < x then x else m) r
def insI (x : Int) : List Int → List Int
  | [] => [x]
  | y :: r => if x ≤ y then x :: y :: r else y :: insI x r
def sortI : List Int → List Int
  | [] => []
  | x :: r => insI x (sortI r)
/-- a list's items, wherever it stands -/
def itemsL (st : Store) : D → Option (List D)
  | .fls xs => some xs
  | .ob i => match st[i]? with | some (.lst xs) => some xs | _ => none
  | _ => none
def biD : Bi → List D → M D
  | .len, [.tup xs] => fun st => .ok (.int xs.length) st
  | .len, [.str z] => fun st => if z.length ≤ bigN then .ok (.int z.length) st else .no
  | .len, [x] => fun st => match itemsL st x with | some xs => .ok (.int xs.length) st | none => .no
  | .abs, [.int i] => fun st => .ok (.int (if i < 0 then -i else i)) st
  | .int, [.int i] => fun st => .ok (.int i) st
  | .int, [.bl b] => fun st => .ok (.int (if b then 1 else 0)) st
  | .ord, [.str z] => fun st => if z.length = 1 then .ok (.int (z.cps.getD 0 0 : Nat)) st else .no
  | .sum, [x] => fun st => match itemsL st x with
    | some xs => match intsOf xs with | some is => .ok (.int is.sum) st | none => .no
    | none => .no
  | .min, [.int i, .int j] => fun st => .ok (.int (if j < i then j else i)) st
  | .max, [.int i, .int j] => fun st => .ok (.int (if j > i then j else i)) st
  | .min, [x] => fun st => match itemsL st x with
    | some xs => match intsOf xs with | some (i :: is) => .ok (.int (minI i is)) st | _ => .no
    | none => .no
  | .max, [x] => fun st => match itemsL st x with
    | some xs => match intsOf xs with | some (i :: is) => .ok (.int (maxI i is)) st | _ => .no
    | none => .no
  | .all, [x] => fun st => match itemsL st x with
    | some xs => match blsOf xs with | some is => .ok (.bl (is.all id)) st | none => .no
    | none => .no
  | .any, [x] => fun st => match itemsL st x with
    | some xs => match blsOf xs with | some is => .ok (.bl (is.any id)) st | none => .no
    | none => .no
  | .tuple, [.tup xs] => fun st => .ok (.tup xs) st
  | .tuple, [x] => fun st => match itemsL st x with | some xs => .ok (.tup xs) st | none => .no
  | .list, [.tup xs] => fun st => .ok (.ob st.length) (st ++ [.lst xs])
  | .list, [x] => fun st => match itemsL st x with | some xs => .ok (.ob st.length) (st ++ [.lst xs]) | none => .no
  | .sorted, [x] => fun st => match itemsL st x with
    | some xs => match intsOf xs with | some is => .ok (.ob st.length) (st ++ [.lst ((sortI is).map .int)]) | none => .no
    | none => .no
  | .repr, [x] => fun st => match pyD st x with
    | some p => if p.canLay0 = true ∧ p.showable = true ∧ p.depth ≤ 60 ∧ p.shown.length ≤ bigN then .ok (.str p.shown) st else .no
    | none => .no
  | .str, [.int i] => fun st => if i.natAbs.log2 < 1920 then .ok (.str (toString i)) st else .no
  | .str, [.str z] => fun st => .ok (.str z) st
  | _, _ => fun _ => .no

section
variable {K : PySem.W.Frag} {ρ : List Addr} {st : Store} {H : Hp}
theorem itemsL_rep (S : Sim K ρ st H) {x : D} {v : V} {xs : List D} (r : Rep K ρ H x v) (e : itemsL st x = some xs) : ∃ a vs, v = .ref a ∧ SqL K H a vs ∧ Reps K ρ H xs vs := by
  cases r with
  | fls h hs => simp only [itemsL] at e; cases e; exact ⟨_, _, rfl, h.sq, hs⟩
  | ob h =>
    simp only [itemsL] at e
    split at e
    · rename_i ys h1
      cases e
      obtain ⟨vs, h2, h3⟩ := S.ob _ _ _ h1 h
      exact ⟨_, vs, rfl, SqL.of h2, h3⟩
    · cases e
  | _ => simp only [itemsL] at e; cases e
theorem intsOf_reps : ∀ {xs : List D} {is : List Int} {vs : List V}, intsOf xs = some is → Reps K ρ H xs vs → vs = is.map V.int
  | _, _, _, e, .nil => by simp only [intsOf] at e; cases e; rfl
  | _, _, _, e, .cons r t => by
    cases r with
    | int i =>
      simp only [intsOf] at e
      split at e
      · rename_i is' e1
        cases e
        rw [intsOf_reps e1 t]; rfl
      · cases e
    | _ => simp only [intsOf] at e; cases e
theorem blsOf_reps : ∀ {xs : List D} {is : List Bool} {vs : List V}, blsOf xs = some is → Reps K ρ H xs vs → vs = is.map V.bl
  | _, _, _, e, .nil => by simp only [blsOf] at e; cases e; rfl
  | _, _, _, e, .cons r t => by
    cases r with
    | bl i =>
      simp only [blsOf] at e
      split at e
      · rename_i is' e1
        cases e
        rw [blsOf_reps e1 t]; rfl
      · cases e
    | _ => simp only [blsOf] at e; cases e
theorem reps_ints (is : List Int) : Reps K ρ H (is.map .int) (is.map V.int) := by
  induction is with
  | nil => exact .nil
  | cons i r ih => exact .cons (.int i) ih
end
theorem minI_le : ∀ (l : List Int) (m : Int), minI m l ≤ m ∧ (∀ y ∈ l, minI m l ≤ y) ∧ (minI m l = m ∨ minI m l ∈ l)
  | [], m => ⟨Int.le_refl _, fun y h => absurd h (by simp), .inl rfl⟩
  | x :: r, m => by
    simp only [minI]
    by_cases hc : x < m
    · rw [if_pos hc]
      obtain ⟨h1, h2, h3⟩ := minI_le r x
      refine ⟨by omega, fun y hy => ?_, .inr ?_⟩
      · rcases List.mem_cons.mp hy with rfl | hy
        · exact h1
        · exact h2 y hy
      · rcases h3 with h3 | h3
        · rw [h3]; exact List.mem_cons_self
        · exact List.mem_cons_of_mem _ h3
    · rw [if_neg hc]
      obtain ⟨h1, h2, h3⟩ := minI_le r m
      refine ⟨h1, fun y hy => ?_, h3.imp id (List.mem_cons_of_mem _)⟩
      rcases List.mem_cons.mp hy with rfl | hy
      · omega
      · exact h2 y hy
theorem maxI_le : ∀ (l : List Int) (m : Int), m ≤ maxI m l ∧ (∀ y ∈ l, y ≤ maxI m l) ∧ (maxI m l = m ∨ maxI m l ∈ l)
  | [], m => ⟨Int.le_refl _, fun y h => absurd h (by simp), .inl rfl⟩
  | x :: r, m => by
    simp only [maxI]
    by_cases hc : m < x
    · rw [if_pos hc]
      obtain ⟨h1, h2, h3⟩ := maxI_le r x
      refine ⟨by omega, fun y hy => ?_, .inr ?_⟩
      · rcases List.mem_cons.mp hy with rfl | hy
        · exact h1
        · exact h2 y hy
      · rcases h3 with h3 | h3
        · rw [h3]; exact List.mem_cons_self
        · exact List.mem_cons_of_mem _ h3
    · rw [if_neg hc]
      obtain ⟨h1, h2, h3⟩ := maxI_le r m
      refine ⟨h1, fun y hy => ?_, h3.imp id (List.mem_cons_of_mem _)⟩
      rcases List.mem_cons.mp hy with rfl | hy
      · omega
      · exact h2 y hy
theorem insI_perm (x : Int) : ∀ l : List Int, (insI x l).Perm (x :: l)
  | [] => List.Perm.refl _
  | y :: r => by
    simp only [insI]
    split
    · exact List.Perm.refl _
    · exact ((insI_perm x r).cons y).trans (List.Perm.swap x y r)
theorem sortI_perm : ∀ l : List Int, (sortI l).Perm l
  | [] => List.Perm.refl _
  | x :: r => (insI_perm x _).trans ((sortI_perm r).cons x)
theorem insI_sorted (x : Int) : ∀ {l : List Int}, l.Pairwise (· ≤ ·) → (insI x l).Pairwise (· ≤ ·)
  | [], _ => by simp [insI]
  | y :: r, h => by
    have hh := List.pairwise_cons.mp h
    simp only [insI]
    split
    · rename_i hxy
      refine List.pairwise_cons.mpr ⟨fun z hz => ?_, h⟩
      rcases List.mem_cons.mp hz with rfl | hz
      · exact hxy
      · exact Int.le_trans hxy (hh.1 z hz)
    · rename_i hxy
      refine List.pairwise_cons.mpr ⟨fun z hz => ?_, insI_sorted x hh.2⟩
      rcases List.mem_cons.mp ((insI_perm x r).mem_iff.mp hz) with rfl | hz
      · omega
      · exact hh.1 z hz
theorem sortI_sorted : ∀ l : List Int, (sortI l).Pairwise (· ≤ ·)
  | [] => List.Pairwise.nil
  | x :: r => insI_sorted x (sortI_sorted r)
theorem sorted_unique {a b : List Int} (p : a.Perm b) (ha : a.Pairwise (· ≤ ·)) (hb : b.Pairwise (· ≤ ·)) : a = b :=
  p.eq_of_pairwise (fun x y _ _ h1 h2 => Int.le_antisymm h1 h2) ha hb

/-! ### repr of data -/
def rRepr (K : PySem.W.Frag) : List V → Hp → VK → Prop := fun xs H Q => ∃ x p, xs = [x] ∧ Dp K H x p ∧ p.canLay0 = true ∧ p.showable = true ∧ p.depth ≤ 60 ∧ p.shown.length ≤ sizeLine ∧ Q (.str p.shown) H
section
variable {X : Cx}
theorem cr_repr (hg : X.A.guards = some []) (hu : X.A.units + 65 < cLine) : CallR X (.builtin "repr") (rRepr X.K) := by
  intro pins s σ H xs us Q I r h
  obtain ⟨x, p, rfl, hd, hl, hs, hdp, hz, q⟩ := h
  obtain ⟨u, rfl, ru⟩ := vals1 r
  cases hd with
  | non => cases ru; exact PySem.P.repr_of_none ⟨.str _, H, I.tok _, ⟨_, rfl⟩, q⟩
  | bl b => cases ru; exact PySem.P.repr_of_bool ⟨.str _, H, I.tok _, ⟨_, rfl⟩, q⟩
  | int i =>
    obtain ⟨t, rfl⟩ := ru
    exact PySem.P.repr_of_int (of_decide_eq_true hs) ⟨.str _, H, I.tok _, ⟨_, rfl⟩, q⟩
  | str z =>
    obtain ⟨t, rfl⟩ := ru
    exact PySem.P.repr_of_str ⟨.str _, H, I.tok _, ⟨_, rfl⟩, q⟩ hz
  | lst h1 h2 =>
    obtain ⟨as, rr⟩ := Dp.reads I _ _ u (.lst h1 h2) ru
    cases ru
    exact repr_of_reads' rr hs (PyData.noDict_hsm (PyData.hasDict_of_canLay _ hl)) hg (by omega) (fun b o e => e) (fun h' t tk hk => ⟨.str _, H, I.kept (t' := tk) hk, ⟨_, rfl⟩, q⟩) hz
  | tup h1 h2 =>
    obtain ⟨as, rr⟩ := Dp.reads I _ _ u (.tup h1 h2) ru
    cases ru
    exact repr_of_reads' rr hs (PyData.noDict_hsm (PyData.hasDict_of_canLay _ hl)) hg (by omega) (fun b o e => e) (fun h' t tk hk => ⟨.str _, H, I.kept (t' := tk) hk, ⟨_, rfl⟩, q⟩) hz

/-- the value that the name holds -/
def Bi.val : Bi → Value
  | .int => .type "int" | .tuple => .type "tuple" | .list => .type "list" | .str => .type "str"
  | .len => .builtin "len" | .abs => .builtin "abs" | .ord => .builtin "ord" | .sum => .builtin "sum" | .min => .builtin "min" | .max => .builtin "max"
  | .all => .builtin "all" | .any => .builtin "any" | .sorted => .builtin "sorted" | .repr => .builtin "repr"
theorem reps1 {K : PySem.W.Frag} {ρ : List Addr} {H : Hp} {x : D} {vs : List V} (h : Reps K ρ H [x] vs) : ∃ v, vs = [v] ∧ Rep K ρ H x v := by
  cases h with
  | cons r t => cases t; exact ⟨_, rfl, r⟩
theorem reps2 {K : PySem.W.Frag} {ρ : List Addr} {H : Hp} {x y : D} {vs : List V} (h : Reps K ρ H [x, y] vs) : ∃ v w, vs = [v, w] ∧ Rep K ρ H x v ∧ Rep K ρ H y w := by
  cases h with
  | cons r t =>
    cases t with
    | cons r2 t2 => cases t2; exact ⟨_, _, rfl, r, r2⟩
theorem rep_tup {K : PySem.W.Frag} {ρ : List Addr} {H : Hp} {ds : List D} {v : V} (h : Rep K ρ H (.tup ds) v) : ∃ a vs, v = .ref a ∧ SqT K H a vs ∧ Reps K ρ H ds vs := by
  cases h with
  | tup a b c => exact ⟨_, _, rfl, a, b⟩
theorem ok_bi (hc : X.calm = true) (hg : X.A.guards = some []) (hu : X.A.units + 65 < cLine) (b : Bi) : OkCall X b.val (biD b) := by
  intro ρ st H xs vs d st' S r e
  have seq : ∀ (x : D) (ys : List D), xs = [x] → itemsL st x = some ys → ∃ a ws, vs = [.ref a] ∧ SqL X.K H a ws ∧ Reps X.K ρ H ys ws := by
    rintro x ys rfl h
    obtain ⟨v, rfl, rv⟩ := reps1 r
    obtain ⟨a, ws, rfl, h1, h2⟩ := itemsL_rep S rv h
    exact ⟨a, ws, rfl, h1, h2⟩
  unfold biD at e
  split at e
  all_goals (try dsimp only at e)
  · cases e
    obtain ⟨v, rfl, rv⟩ := reps1 r
    obtain ⟨a, ws, rfl, h1, h2⟩ := rep_tup rv
    exact ⟨_, call_len_seq, fun Q p => ⟨a, ws, rfl, .inr h1, by rw [← h2.length]; exact p.self S (.int _)⟩⟩
  · split at e
    · rename_i hl
      cases e
      obtain ⟨v, rfl, rv⟩ := reps1 r
      cases rv
      exact ⟨_, call_len_str, fun Q p => ⟨_, rfl, by rw [big_eq]; exact hl, p.self S (.int _)⟩⟩
    · cases e
  · split at e
    · rename_i ys h
      cases e
      obtain ⟨a, ws, rfl, h1, h2⟩ := seq _ _ rfl h
      exact ⟨_, call_len_seq, fun Q p => ⟨a, ws, rfl, .inl h1, by rw [← h2.length]; exact p.self S (.int _)⟩⟩
    · cases e
  · cases e
    obtain ⟨v, rfl, rv⟩ := reps1 r
    cases rv
    exact ⟨_, call_abs, fun Q p => ⟨_, rfl, p.self S (.int _)⟩⟩
  · cases e
    obtain ⟨v, rfl, rv⟩ := reps1 r
    cases rv
    exact ⟨_, call_int1, fun Q p => .inl ⟨_, rfl, p.self S (.int _)⟩⟩
  · cases e
    obtain ⟨v, rfl, rv⟩ := reps1 r
    cases rv
    exact ⟨_, call_int1, fun Q p => .inr ⟨_, rfl, p.self S (.int _)⟩⟩
  · split at e
    · rename_i hl
      cases e
      obtain ⟨v, rfl, rv⟩ := reps1 r
      cases rv
      exact ⟨_, call_ord, fun Q p => ⟨_, rfl, hl, p.self S (.int _)⟩⟩
    · cases e
  · split at e
    · rename_i ys h
      split at e
      · rename_i is h3
        cases e
        obtain ⟨a, ws, rfl, h1, h2⟩ := seq _ _ rfl h
        rw [intsOf_reps h3 h2] at h1
        exact ⟨_, cr_sum hc, fun Q p => ⟨a, is, rfl, h1, p.self S (.int _)⟩⟩
      · cases e
    · cases e
  · cases e
    obtain ⟨v, w, rfl, rv, rw'⟩ := reps2 r
    cases rv; cases rw'
    exact ⟨_, call_min2 hc, fun Q p => ⟨_, _, rfl, p.self S (.int _)⟩⟩
  · cases e
    obtain ⟨v, w, rfl, rv, rw'⟩ := reps2 r
    cases rv; cases rw'
    exact ⟨_, call_max2 hc, fun Q p => ⟨_, _, rfl, p.self S (.int _)⟩⟩
  · split at e
    · rename_i ys h
      split at e
      · rename_i i is h3
        cases e
        obtain ⟨a, ws, rfl, h1, h2⟩ := seq _ _ rfl h
        rw [intsOf_reps h3 h2] at h1
        refine ⟨_, cr_min hc, fun Q p => ⟨a, i :: is, rfl, h1, by simp, fun m hm hle => ?_⟩⟩
        have e1 : m = minI i is := by
          obtain ⟨q1, q2, q3⟩ := minI_le is i
          have a1 : m ≤ minI i is := hle _ (by rcases q3 with q3 | q3 <;> simp [q3])
          have a2 : minI i is ≤ m := by
            rcases List.mem_cons.mp hm with rfl | hm
            · exact q1
            · exact q2 m hm
          omega
        rw [e1]
        exact p.self S (.int _)
      · cases e
    · cases e
  · split at e
    · rename_i ys h
      split at e
      · rename_i i is h3
        cases e
        obtain ⟨a, ws, rfl, h1, h2⟩ := seq _ _ rfl h
        rw [intsOf_reps h3 h2] at h1
        refine ⟨_, cr_max hc, fun Q p => ⟨a, i :: is, rfl, h1, by simp, fun m hm hle => ?_⟩⟩
        have e1 : m = maxI i is := by
          obtain ⟨q1, q2, q3⟩ := maxI_le is i
          have a1 : maxI i is ≤ m := hle _ (by rcases q3 with q3 | q3 <;> simp [q3])
          have a2 : m ≤ maxI i is := by
            rcases List.mem_cons.mp hm with rfl | hm
            · exact q1
            · exact q2 m hm
          omega
        rw [e1]
        exact p.self S (.int _)
      · cases e
    · cases e
  · split at e
    · rename_i ys h
      split at e
      · rename_i is h3
        cases e
        obtain ⟨a, ws, rfl, h1, h2⟩ := seq _ _ rfl h
        rw [blsOf_reps h3 h2] at h1
        exact ⟨_, cr_all hc, fun Q p => ⟨a, is, rfl, h1, p.self S (.bl _)⟩⟩
      · cases e
    · cases e
  · split at e
    · rename_i ys h
      split at e
      · rename_i is h3
        cases e
        obtain ⟨a, ws, rfl, h1, h2⟩ := seq _ _ rfl h
        rw [blsOf_reps h3 h2] at h1
        exact ⟨_, cr_any hc, fun Q p => ⟨a, is, rfl, h1, p.self S (.bl _)⟩⟩
      · cases e
    · cases e
  · cases e
    obtain ⟨v, rfl, rv⟩ := reps1 r
    obtain ⟨a, ws, rfl, h1, h2⟩ := rep_tup rv
    exact ⟨_, call_tuple_of, fun Q p => ⟨a, ws, rfl, .inr ⟨h1, p.self S rv⟩⟩⟩
  · split at e
    · rename_i ys h
      cases e
      obtain ⟨a, ws, rfl, h1, h2⟩ := seq _ _ rfl h
      exact ⟨_, call_tuple_of, fun Q p => ⟨a, ws, rfl, .inl ⟨h1, fun l hl => p.tup S h2 hl⟩⟩⟩
    · cases e
  · cases e
    obtain ⟨v, rfl, rv⟩ := reps1 r
    obtain ⟨a, ws, rfl, h1, h2⟩ := rep_tup rv
    exact ⟨_, call_list_of, fun Q p => ⟨a, ws, rfl, .inr h1, fun l hl => p.lst S h2 hl⟩⟩
  · split at e
    · rename_i ys h
      cases e
      obtain ⟨a, ws, rfl, h1, h2⟩ := seq _ _ rfl h
      exact ⟨_, call_list_of, fun Q p => ⟨a, ws, rfl, .inl h1, fun l hl => p.lst S h2 hl⟩⟩
    · cases e
  · split at e
    · rename_i ys h
      split at e
      · rename_i is h3
        cases e
        obtain ⟨a, ws, rfl, h1, h2⟩ := seq _ _ rfl h
        rw [intsOf_reps h3 h2] at h1
        refine ⟨_, cr_sortedI, fun Q p => ⟨a, is, rfl, h1, fun ns' q perm srt hq => ?_⟩⟩
        have e1 : ns' = sortI is := sorted_unique (perm.trans (sortI_perm is).symm) srt (sortI_sorted is)
        subst e1
        exact p.lst S (reps_ints _) hq
      · cases e
    · cases e
  · split at e
    · rename_i p h
      split at e
      · rename_i hh
        cases e
        obtain ⟨v, rfl, rv⟩ := reps1 r
        exact ⟨_, cr_repr hg hu, fun Q k => ⟨v, p, rfl, pyD_dp S rv h, hh.1, hh.2.1, hh.2.2.1, by rw [big_eq]; exact hh.2.2.2, k.self S (.str _)⟩⟩
      · cases e
    · cases e
  · split at e
    · rename_i hl
      cases e
      obtain ⟨v, rfl, rv⟩ := reps1 r
      cases rv
      exact ⟨_, call_str_int, fun Q p => ⟨_, rfl, hl, p.self S (.str _)⟩⟩
    · cases e
  · cases e
    obtain ⟨v, rfl, rv⟩ := reps1 r
    cases rv
    exact ⟨_, SkE.call_str_str, fun Q p => ⟨_, rfl, p.self S (.str _)⟩⟩
  · cases e

/-! ### methods -/
inductive Me where
  | append | extend | get | setdefault
  deriving DecidableEq
def Me.name : Me → Str
  | .append => "append" | .extend => "extend" | .get => "get" | .setdefault => "setdefault"
/-- the kind of an object -/
inductive Ty where
  | list | dict
  deriving DecidableEq
def tyD (st : Store) : D → Option Ty
  | .ob i => match st[i]? with | some (.lst _) => some .list | some (.dct _) => some .dict | _ => none
  | _ => none
def meD : Me → Ty → D → List D → M D
  | .append, .list, .ob i, [x] => fun st => match st[i]? with
    | some (.lst xs) => if xs.length < bigN then .ok .non (st.set i (.lst (xs ++ [x]))) else .no
    | _ => .no
  | .extend, .list, .ob i, [.ob j] => fun st => match st[i]?, st[j]? with
    | some (.lst xs), some (.lst ys) => if xs.length + ys.length ≤ bigN then .ok .non (st.set i (.lst (xs ++ ys))) else .no
    | _, _ => .no
  | .get, .dict, .ob i, [k] => fun st => match st[i]? with
    | some (.dct kvs) => if kindOk kvs k = true then .ok ((getKv kvs k).getD .non) st else .no
    | _ => .no
  | .get, .dict, .ob i, [k, x] => fun st => match st[i]? with
    | some (.dct kvs) => if kindOk kvs k = true then .ok ((getKv kvs k).getD x) st else if nonKey kvs k = true then .ok x st else .no
    | _ => .no
  | .setdefault, .dict, .ob i, [k, x] => fun st => match st[i]? with
    | some (.dct kvs) => if kindOk kvs k = true ∧ kvs.length < bigN then (match getKv kvs k with
      | some d => .ok d st
      | none => .ok x (st.set i (.dct (putKv kvs k x)))) else .no
    | _ => .no
  | _, _, _, _ => fun _ => .no
end
end W9

/-! W9h: methods -/
namespace W9
open PySem L2
section
variable {X : Cx} {pins : List (Addr × Obj)} {σ : L2.St} {H H' : Hp} {s : Shared} {a : Addr} {y z : V} {u r : Value} {ov : Option V}
theorem RelO.none_iff' {o : Option V} {u : Option Value} (r : RelO o u) : o = none ↔ u = none := by
  cases o with
  | none => exact ⟨fun _ => RelO.none_of r, fun _ => rfl⟩
  | some v => obtain ⟨w, rfl, _⟩ := RelO.some_of r; exact ⟨fun h => (by cases h), fun h => (by cases h)⟩
/-- setdefault, by what a look and a put would be -/
theorem setd_at {Q : Value → Shared → Prop} {E : Value → Shared → Prop} (hu : X.A.units + 1 < cLine) (I : Inv X pins σ H s) (p : DPut H a y z H') (g : DGet H a y ov) (ry : RelV y u) (rz : RelV z r)
    (h1 : ∀ v, ov = some v → ∀ (w' : Value) (s' : Shared), Inv X pins σ H s' → RelV v w' → Q w' s') (h2 : ov = none → ∀ (w' : Value) (s' : Shared), Inv X pins σ H' s' → RelV z w' → Q w' s') :
    wpAny (model X.prog X.w) X.A (call (.builtin "dict.setdefault") [.ref a, u, r]) Q E s := by
  rcases p with ⟨kvs, k, e, ey, l, eH⟩ | ⟨kvs, k, b, e, ey, eb, l, eH⟩
  · subst ey eH
    have eo : ov = valV kvs k := by
      rcases g with ⟨kvs', k', e', ey', l'⟩ | ⟨kvs', k', b', e', ey', _, l'⟩
      · rcases e' with e' | ⟨o, e'⟩
        · rw [e] at e'; cases e'
          rw [l', kV_inj ey']
        · rw [e] at e'; cases e'
      · rcases e' with e' | ⟨o, e'⟩ <;> (rw [e] at e'; cases e')
    rw [eo] at h1 h2
    exact d_setd I e ry rz l h1 h2
  · subst ey eH
    have eo : ov = valV kvs k := by
      rcases g with ⟨kvs', k', e', ey', l'⟩ | ⟨kvs', k', b', e', ey', eb', l'⟩
      · rcases e' with e' | ⟨o, e'⟩ <;> (rw [e] at e'; cases e')
      · rcases e' with e' | ⟨o, e'⟩
        · rw [e] at e'; cases e'
          cases ey'
          rw [eb] at eb'
          have := kVs_inj (HO.tup.inj (Option.some.inj eb'))
          rw [l', this]
        · rw [e] at e'; cases e'
    cases (show u = Value.ref b from ry)
    obtain ⟨hz0, hd, xs, rel, dd⟩ := dt_of I.hok e
    have hz : xs.length ≤ sizeLine := by rw [← Paired.length rel]; exact hz0
    have rv := rel.val k
    rw [← eo] at rv
    refine call_setdefault_heap (knd := tupleKind (mixKind X.prog X.w)) (tupleKind_room_in1 hu) (key_of I.hok eb) hd dd (fun p hp => ?_) (fun hn h' dd' hs => ?_) hz
    · rw [hp] at rv
      cases q : ov with
      | none => rw [q] at rv; exact (show False from rv).elim
      | some v => rw [q] at rv; exact h1 v q _ _ (I.tok _) rv
    · have hl : (putK kvs k z).length ≤ sizeLine := by have := length_putK kvs k z; omega
      refine h2 ((RelO.none_iff' rv).mpr (by rw [hn]; rfl)) _ _ ?_ rz
      obtain ⟨q, es, ep, hq, x2, x3, x4, _, x5⟩ := dd'
      refine d_write I (by rw [e]; exact True.intro) hs ⟨q, hq⟩ ⟨hl, hd, _, (rel.put k eb rz).keeps fun c ys ec => ?_, q, es, ep, hq, x2, x3, x4, x5⟩
      rw [upd_ne (ne_of ec e (fun z => nomatch z))]
      exact ec
end
section
variable {X : Cx}
def rGet1 (K : PySem.W.Frag) : V → List V → Hp → VK → Prop := fun x xs H Q => ∃ ρ kvs k a y, x = .ref a ∧ xs = [y] ∧ ObRep K ρ H a (.dct kvs) ∧ Rep K ρ H k y ∧ kindOk kvs k = true ∧ ∀ v, Rep K ρ H ((getKv kvs k).getD .non) v → Q v H
theorem mt_get1 (hu : X.A.units + 1 < cLine) : MtR X "dict.get" (rGet1 X.K) := by
  intro pins s σ H x xs v us Q I rx rs h
  obtain ⟨ρ, kvs, k, a, y, rfl, rfl, ob, rk, hk, q⟩ := h
  cases rx
  obtain ⟨u, rfl, ru⟩ := vals1 rs
  obtain ⟨H2, ov, I2, g, back, res⟩ := dg_at I ob rk hk
  refine d_get1 hu I2 g ru fun w' s' J rw' => ?_
  rcases res with ⟨e1, e2⟩ | ⟨d, z, e1, e2, rz⟩
  · subst e2
    rw [e1] at q
    exact ⟨.non, H, back _ J, rw', q _ .non⟩
  · subst e2
    rw [e1] at q
    exact ⟨z, H, back _ J, rw', q _ rz⟩
def rGet2 (K : PySem.W.Frag) : V → List V → Hp → VK → Prop := fun x xs H Q => ∃ ρ kvs k d a y z, x = .ref a ∧ xs = [y, z] ∧ ObRep K ρ H a (.dct kvs) ∧ Rep K ρ H k y ∧ Rep K ρ H d z ∧ kindOk kvs k = true ∧ ∀ v, Rep K ρ H ((getKv kvs k).getD d) v → Q v H
theorem mt_get2 (hu : X.A.units + 1 < cLine) : MtR X "dict.get" (rGet2 X.K) := by
  intro pins s σ H x xs v us Q I rx rs h
  obtain ⟨ρ, kvs, k, d, a, y, z, rfl, rfl, ob, rk, rd, hk, q⟩ := h
  cases rx
  obtain ⟨u, u2, rfl, ru, ru2⟩ := vals2 rs
  obtain ⟨H2, ov, I2, g, back, res⟩ := dg_at I ob rk hk
  refine d_get2 hu I2 g ru ru2 fun w' s' J rw' => ?_
  rcases res with ⟨e1, e2⟩ | ⟨d', z', e1, e2, rz⟩
  · subst e2
    rw [e1] at q
    exact ⟨z, H, back _ J, rw', q _ rd⟩
  · subst e2
    rw [e1] at q
    exact ⟨z', H, back _ J, rw', q _ rz⟩
/-! ### a tuple with None among its items as key -/
theorem itemsN {P : Program} {w : World} {K : PySem.W.Frag} {ρ : List Addr} {H : Hp} : ∀ (ds : List D) {ks : List (Option Key)} {vs : List V} {us : List Value}, keysN ds = some ks → Reps K ρ H ds vs → Vals vs us → ItemsAre (noneKind P w) ks us
  | [], ks, vs, us, hk, r, q => by
    simp only [keysN] at hk
    cases hk
    cases r
    cases q
    exact .nil
  | d :: ds, ks, vs, us, hk, r, q => by
    simp only [keysN] at hk
    split at hk
    · rename_i k ks e1 e2
      cases hk
      cases r with
      | cons rd t =>
        cases q with
        | cons ru ru2 =>
          refine .cons ?_ (itemsN ds e2 t ru2)
          cases rd with
          | non =>
            cases e1
            cases ru
            rfl
          | int i =>
            simp only [keyD, Option.map_some] at e1
            cases e1
            exact kV_is (P := P) (w := w) (k := .inl i) ru
          | str x =>
            simp only [keyD, Option.map_some] at e1
            cases e1
            exact kV_is (P := P) (w := w) (k := .inr x) ru
          | _ => simp only [keyD, Option.map_none] at e1; cases e1
    · cases hk
theorem items_up {P : Program} {w : World} : ∀ {ks : List Key} {us : List Value}, ItemsAre (mixKind P w) ks us → ItemsAre (noneKind P w) (ks.map some) us
  | _, _, .nil => .nil
  | _, _, .cons h t => .cons h (items_up t)
theorem dict_up {P : Program} {w : World} {h : Heap} {a : Addr} {xs : List (List Key × Addr × Value)} (d : h.DictOfH (tupleKind (mixKind P w)) a xs) : h.DictOfH (tupleKind (noneKind P w)) a (xs.map fun x => (x.1.map some, x.2)) := by
  obtain ⟨o, es, ep, ho, hx, hdt, he, hk, hn⟩ := d
  refine ⟨o, es, ep, ho, hx, hdt, ?_, fun x hm => ?_, ?_⟩
  · rw [he, List.map_map]
    refine List.map_congr_left fun x _ => ?_
    show (⟨_, _, _⟩ : DictEntry) = ⟨_, _, _⟩
    congr 1
    show tupleKeyHash (mixKind P w) x.1 = tupleKeyHash (noneKind P w) (x.1.map some)
    unfold tupleKeyHash
    rw [List.map_map]
    rfl
  · obtain ⟨y, hy, rfl⟩ := List.mem_map.mp hm
    obtain ⟨o, its, n, h1, h2, h3, h4⟩ := hk y hy
    exact ⟨o, its, n, h1, h2, h3, items_up h4⟩
  · rw [List.map_map]
    have e : ((fun x : List (Option Key) × Addr × Value => x.1) ∘ fun x : List Key × Addr × Value => (x.1.map some, x.2)) = (fun k : List Key => k.map some) ∘ (·.1) := rfl
    rw [e, ← List.map_map]
    refine List.Pairwise.map (R := fun a b => a ≠ b) _ (fun a b hab z => hab ?_) hn
    exact (List.map_inj_right (fun x y e => Option.some.inj e)).mp z
theorem at_up {xs : List (List Key × Addr × Value)} {ks : List (Option Key)} (h : none ∈ ks) : atKey (xs.map fun x => (x.1.map some, x.2)) ks = none := by
  unfold atKey
  rw [List.find?_eq_none.mpr]
  · rfl
  · intro x hx hd
    obtain ⟨y, hy, rfl⟩ := List.mem_map.mp hx
    have e : y.1.map some = ks := of_decide_eq_true hd
    rw [← e] at h
    obtain ⟨z, _, hz⟩ := List.mem_map.mp h
    cases hz
theorem keysN_none : ∀ {ds : List D} {ks : List (Option Key)}, keysN ds = some ks → D.non ∈ ds → none ∈ ks
  | [], _, _, h => nomatch h
  | d :: ds, ks, hk, h => by
    simp only [keysN] at hk
    split at hk
    · rename_i k ks' e1 e2
      cases hk
      rcases List.mem_cons.mp h with e | e
      · subst e
        cases e1
        exact List.mem_cons_self
      · exact List.mem_cons_of_mem _ (keysN_none e2 e)
    · cases hk
def rGet2N (K : PySem.W.Frag) : V → List V → Hp → VK → Prop := fun x xs H Q => ∃ ρ kvs k a y z, x = .ref a ∧ xs = [y, z] ∧ ObRep K ρ H a (.dct kvs) ∧ Rep K ρ H k y ∧ nonKey kvs k = true ∧ Q z H
theorem mt_get2N (hu : X.A.units + 1 < cLine) : MtR X "dict.get" (rGet2N X.K) := by
  intro pins s σ H x xs v us Q I rx rs h
  obtain ⟨ρ, kvs, k, a, y, z, rfl, rfl, ob, rk, hk, q⟩ := h
  cases rx
  obtain ⟨u, u2, rfl, ru, ru2⟩ := vals2 rs
  cases rk with
  | tup sq hs hb =>
    rename_i b ds vs
    simp only [nonKey, Bool.and_eq_true, decide_eq_true_eq] at hk
    obtain ⟨⟨hk1, hk2⟩, hk3⟩ := hk
    obtain ⟨ks, hks⟩ := Option.isSome_iff_exists.mp hk1
    have hbb : H b = some (.tup vs) := by
      rcases hb with hb | hb
      · exact hb
      · rw [hb] at hk2; simp [bookD] at hk2
    cases (show u = Value.ref b from ru)
    -- by the dict of tuples
    have main : ∀ {H2 : Hp} {kT : List (List Key × V)}, Inv X pins σ H2 s → (∀ s', Inv X pins σ H2 s' → Inv X pins σ H s') → H2 a = some (.dT kT) → wpAny (model X.prog X.w) X.A (call (.builtin "dict.get") [.ref a, .ref b, u2]) (EP X pins σ Q) X.xe s := by
      intro H2 kT I2 back e
      obtain ⟨zz, hd, xs, rel, dd⟩ := dt_of I2.hok e
      have dn := dict_up dd
      have isk : (tupleKind (noneKind X.prog X.w)).is s.heap ks b := by
        obtain ⟨_, its, r, o, h1, h2, n, h3⟩ := (show ObjOk X.prog X.w H s.heap b (.tup vs) from I.hok b _ hbb)
        exact ⟨o, its.toArray, n, h1, h2, h3, by simpa using itemsN ds hks hs r⟩
      refine call_meetsIn PySem.F.slot_dict_get dd.typeIs PySem.F.entry_dict_get (PySem.F.args_dict_get_3 _ _ _) (meetsH_dict_get_default (tupleKind (noneKind X.prog X.w)) a b hd u2) ⟨tupleKind_room_in1 hu, ks, _, isk, dn, ?_⟩
      rw [at_up (keysN_none hks hk2)]
      exact ⟨z, H, back _ (I2.tok _), ru2, q⟩
    rcases ob with ⟨kK, e, kv⟩ | ⟨kT, e, kv⟩
    · cases kv with
      | nil => exact main (inv_toT I e) (fun s' J => by have := inv_toK J upd_same; rwa [upd_back e] at this) upd_same
      | cons h1 _ _ => exact (keyT_of_keyD (by rw [h1]; rfl) hk3).elim
    · exact main I (fun _ J => J) e
  | _ => simp [nonKey] at hk
def rSetd (K : PySem.W.Frag) : V → List V → Hp → VK → Prop := fun x xs H Q => ∃ (ρ : List Addr) (st : Store) (i : Nat) (kvs : List (D × D)) (k d : D) (a : Addr) (y z : V), x = .ref a ∧ xs = [y, z] ∧ Sim K ρ st H ∧ ρ[i]? = some a ∧ ObRep K ρ H a (.dct kvs) ∧ Rep K ρ H k y ∧ Rep K ρ H d z ∧ kindOk kvs k = true ∧ kvs.length < bigN ∧
  (∀ d' v, getKv kvs k = some d' → Rep K ρ H d' v → Q v H) ∧ (getKv kvs k = none → ∀ u, Mut (H a) → ObRep K ρ (upd H a u) a (.dct (putKv kvs k d)) → Q z (upd H a u))
theorem mt_setd (hu : X.A.units + 1 < cLine) : MtR X "dict.setdefault" (rSetd X.K) := by
  intro pins s σ H x xs v us Q I rx rs h
  obtain ⟨ρ, st, i, kvs, k, d, a, y, z, rfl, rfl, S, hi, ob, rk, rd, hk, hl, q1, q2⟩ := h
  cases rx
  obtain ⟨u, u2, rfl, ru, ru2⟩ := vals2 rs
  obtain ⟨H2, ov, w, I2, g, back, res, p, mu, ob'⟩ := dp_at I S hi ob rk hk hl rd
  refine setd_at hu I2 p g ru ru2 (fun v hv w' s' J rw' => ?_) fun hv w' s' J rw' => ?_
  · rcases res with ⟨_, e2⟩ | ⟨d', z', e1, e2, rz⟩
    · rw [hv] at e2; cases e2
    · rw [hv] at e2; cases e2
      exact ⟨v, H, back _ J, rw', q1 d' v e1 rz⟩
  · rcases res with ⟨e1, _⟩ | ⟨d', z', e1, e2, rz⟩
    · exact ⟨z, _, J, rw', q2 e1 w mu ob'⟩
    · rw [hv] at e2; cases e2
def Me.id : Me → Ty → String
  | .append, _ => "list.append"
  | .extend, _ => "list.extend"
  | .get, _ => "dict.get"
  | .setdefault, _ => "dict.setdefault"
theorem mutL {H : Hp} {a : Addr} {vs : List V} (h : H a = some (.lst vs)) : Mut (H a) := by rw [h]; exact True.intro
theorem ok_me (hu : X.A.units + 1 < cLine) (m : Me) (T : Ty) : ∀ ρ st H x xs v vs d st', Sim X.K ρ st H → Rep X.K ρ H x v → Reps X.K ρ H xs vs → meD m T x xs st = .ok d st' → ∃ r, MtR X (m.id T) r ∧ ∀ Q, Post X.K ρ H st' d Q → r v vs H Q := by
  intro ρ st H x xs v vs d st' S rx rs e
  unfold meD at e
  split at e
  all_goals (try dsimp only at e)
  · split at e
    · rename_i ys h1
      split at e
      · rename_i hl
        cases e
        cases rx with
        | ob hx =>
          obtain ⟨w, rfl, rw'⟩ := reps1 rs
          obtain ⟨ws, h2, h3⟩ := S.ob _ _ _ h1 hx
          have mu := mutL h2
          refine ⟨_, mt_append, fun Q p => ⟨_, ws, w, rfl, rfl, h2, by rw [big_eq, ← h3.length]; exact hl, ?_⟩⟩
          exact p ρ _ _ (S.grow_set hx mu) (S.set hx mu ⟨_, upd_same, (h3.append (.cons rw' .nil)).grow (S.grow_set hx mu)⟩) .non
      · cases e
    · cases e
  · split at e
    · rename_i ys zs h1 h1'
      split at e
      · rename_i hl
        cases e
        cases rx with
        | ob hx =>
          obtain ⟨w, rfl, rw'⟩ := reps1 rs
          cases rw' with
          | ob hy =>
            obtain ⟨ws, h2, h3⟩ := S.ob _ _ _ h1 hx
            obtain ⟨ws', h2', h3'⟩ := S.ob _ _ _ h1' hy
            have mu := mutL h2
            refine ⟨_, mt_extend, fun Q p => ⟨_, _, ws, ws', rfl, rfl, h2, h2', by rw [big_eq, ← h3.length, ← h3'.length]; exact hl, ?_⟩⟩
            exact p ρ _ _ (S.grow_set hx mu) (S.set hx mu ⟨_, upd_same, (h3.append h3').grow (S.grow_set hx mu)⟩) .non
      · cases e
    · cases e
  · split at e
    · rename_i kvs h1
      split at e
      · rename_i hk
        cases e
        cases rx with
        | ob hx =>
          obtain ⟨w, rfl, rw'⟩ := reps1 rs
          exact ⟨_, mt_get1 hu, fun Q p => ⟨ρ, kvs, _, _, w, rfl, rfl, S.ob _ _ _ h1 hx, rw', hk, fun v rv => p.self S rv⟩⟩
      · cases e
    · cases e
  · split at e
    · rename_i kvs h1
      split at e
      · rename_i hk
        cases e
        cases rx with
        | ob hx =>
          obtain ⟨w, w2, rfl, rw', rw2⟩ := reps2 rs
          exact ⟨_, mt_get2 hu, fun Q p => ⟨ρ, kvs, _, _, _, w, w2, rfl, rfl, S.ob _ _ _ h1 hx, rw', rw2, hk, fun v rv => p.self S rv⟩⟩
      · split at e
        · rename_i hk
          cases e
          cases rx with
          | ob hx =>
            obtain ⟨w, w2, rfl, rw', rw2⟩ := reps2 rs
            exact ⟨_, mt_get2N hu, fun Q p => ⟨ρ, kvs, _, _, w, w2, rfl, rfl, S.ob _ _ _ h1 hx, rw', hk, p.self S rw2⟩⟩
        · cases e
    · cases e
  · split at e
    · rename_i kvs h1
      split at e
      · rename_i hk
        cases rx with
        | ob hx =>
          obtain ⟨w, w2, rfl, rw', rw2⟩ := reps2 rs
          refine ⟨_, mt_setd hu, fun Q p => ⟨ρ, st, _, kvs, _, _, _, w, w2, rfl, rfl, S, hx, S.ob _ _ _ h1 hx, rw', rw2, hk.1, hk.2, fun d' v hg rv => ?_, fun hg u mu ob' => ?_⟩⟩
          · rw [hg] at e
            cases e
            exact p.self S rv
          · rw [hg] at e
            cases e
            exact p ρ _ _ (S.grow_set hx mu) (S.set hx mu ob') (rw2.grow (S.grow_set hx mu))
      · cases e
    · cases e
  · cases e
end
end W9

/-! W9i: defs that are called where no repr is under way, by what they do upon the store -/
namespace W9
open PySem PySem.Spec PyProof.Rows L2
structure FnG (P : Program) (w : World) (K : PySem.W.Frag) (mg : Str → Option Value) (base : Heap) (CX : CXT) (k : Nat) (f : Addr) (fd : FuncData) (ps : List Str) (sp : Sp) : Prop where
  len : ∀ vs H Q E, sp vs H Q E → vs.length = ps.length
  run : ∀ (A : Around) (outer : List PySem.Env) (s : Shared) (H : Hp) (args : Args) (us : List Value) (vs : List V) (Q : VK) (E : XK), Room k A → A.guards = some [] → Env0 P w K mg base A outer s H → BindsTo s fd args (ps.zip us) →
    Vals vs us → sp vs H Q E → codeAny (model P w) A (.call (.ref f) args) (CR CX outer P w H s Q E) s
section
variable {P : Program} {w : World} {K : PySem.W.Frag} {mg : Str → Option Value} {base : Heap} {CX : CXT} {j k : Nat} {f : Addr} {fd : FuncData} {ps : List Str} {sp sp' : Sp}
theorem FnG.up (F : FnG P w K mg base CX j f fd ps sp) (h : j ≤ k) : FnG P w K mg base CX k f fd ps sp :=
  ⟨F.len, fun A outer s H args us vs Q E room => F.run A outer s H args us vs Q E (room.mono h)⟩
theorem FnG.weak (F : FnG P w K mg base CX k f fd ps sp) (h : ∀ vs H Q E, sp' vs H Q E → sp vs H Q E) : FnG P w K mg base CX k f fd ps sp' :=
  ⟨fun vs H Q E x => F.len vs H Q E (h _ _ _ _ x), fun A outer s H args us vs Q E room gd e0 hb hv x => F.run A outer s H args us vs Q E room gd e0 hb hv (h _ _ _ _ x)⟩
/-- a def by its body -/
theorem fnG_of {name qual : Str} {params : Arguments} {body : List Stmt} {scope : Scope} {dV kV doc pm cdv ct oc : Value} {an od : Option Addr} {osl : Array (Option Value)} {N : List Str}
    (lk : K.lookup f = some ⟨oc, od, .func (PySem.W.fnOf name qual params body scope dV kV doc pm an cdv ct), osl⟩) (code : PySem.W.codeIn K cdv qual = true) (S : FnScope N ps scope) (len : ∀ vs H Q E, sp vs H Q E → vs.length = ps.length)
    (go : ∀ (A : Around) (outer : List PySem.Env) (s : Shared) (H : Hp) (vs : List V) (Q : VK) (E : XK), Room k (A.deeper (envOfC qual scope s.heap.objs.size f cdv)) → A.guards = some [] → sp vs H Q E →
      WSs (cxOf CX P w K mg base N qual scope f cdv A outer s H E) body { nx := fun _ H' => Q .non H', rt := Q } (start N vs) H) :
    FnG P w K mg base CX (k + 1) f (PySem.W.fnOf name qual params body scope dV kV doc pm an cdv ct) ps sp := by
  refine ⟨len, fun A outer s H args us vs Q E room gd e0 hb rel hsp => ?_⟩
  have hl := len _ _ _ _ hsp
  have KX : K.In s.heap := e0.mod.kin.keeps fun b o z => (e0.bs b o z).1
  have nolim : s.heap.NoLimit := e0.mod.nolimit.keeps fun b o z => (e0.bs b o z).1
  have kinds : ∀ y ∈ ps.zip us, scope.names.lookup y.1 = some .local ∨ (scope.names.lookup y.1 = some .cell ∧ ((cellsFrom (s.heap.objs.size + 1) scope.names []).lookup y.1).isSome = true) := fun ⟨n, v⟩ hy =>
    (S.par n (List.of_mem_zip hy).1).imp id fun z => ⟨z, PySem.W.cellsFrom_some _ _ _ (.inl z)⟩
  refine codeAny_call_function room.depth (KX _ _ lk) rfl S.co S.gen rfl (PySem.W.codeRec_of KX code) (hb _ _ _ _ ?_)
  refine wpAny_newFunctionEnv_cells S.kind kinds fun env eenv s1 x => ?_
  subst eenv
  refine ⟨nolim.keeps x.toInCall.keep, codeAny_func ?_⟩
  have wb := go A outer s H vs Q E (room.deeper _) gd hsp
  have I : Inv (cxOf CX P w K mg base N qual scope f cdv A outer s H E) [] (start N vs) H s1 := inv_start S room.hd e0 hl rel x
  refine wpAny_mono (wb [] s1 I) (fun flow s' hs => ?_) fun _ _ hs => hs
  have done : ∀ {σ' : L2.St} {H' : Hp} {v : V} {u : Value}, Inv (cxOf CX P w K mg base N qual scope f cdv A outer s H E) [] σ' H' s' → RelV v u → Q v H' → CE outer P w H s Q u s' :=
    fun {σ' H' v u} J rv q => ⟨v, H', J.os, J.bare, J.base, J.hok, rv, q⟩
  cases flow with
  | ret u => obtain ⟨v, σ', H', J, rv, q⟩ := hs; exact done J rv q
  | next => obtain ⟨σ', H', J, q⟩ := hs; exact done (v := V.non) (u := Value.none) J rfl q
  | brk => obtain ⟨_, _, _, q⟩ := hs; exact q.elim
  | cont => obtain ⟨_, _, _, q⟩ := hs; exact q.elim
end

/-! ### a def's promise by a function upon the store -/
def spF (K : PySem.W.Frag) (n : Nat) (g : List D → M D) : Sp := fun vs H Q _ => ∃ ρ st ds d st', ds.length = n ∧ Sim K ρ st H ∧ Reps K ρ H ds vs ∧ g ds st = .ok d st' ∧ Post K ρ H st' d Q
/-- a call with some values by place, and others by the names ks -/
def CallF (P : Program) (w : World) (K : PySem.W.Frag) (mg : Str → Option Value) (base : Heap) (k : Nat) (f : Addr) (ks : List Str) (sp : Sp) : Prop :=
  ∀ (A : Around) (outer : List PySem.Env) (s : Shared) (H : Hp) (us ws : List Value) (vs zs : List V) (Q : VK), Room k A → A.guards = some [] → Env0 P w K mg base A outer s H → Vals vs us → Vals zs ws → ws.length = ks.length → sp (vs ++ zs) H Q E0 →
    codeAny (model P w) A (.call (.ref f) ⟨us, ks.zip ws⟩) (CR CX0 outer P w H s Q E0) s
/-- a way of calling a name: the names of its keywords, how many values in all -/
structure Frm where
  x : Str
  ks : List Str
  n : Nat
  kd : Option Str := none
  deriving DecidableEq
/-- how a callee is found: a name of the module, a method of a class -/
def FoundAt (K : PySem.W.Frag) (mg : Str → Option Value) (x : Str) (f : Addr) : Option Str → Prop
  | none => mg x = some (.ref f) ∧ PySem.W.keepIn K (.ref f) = true
  | some c => ∃ C, ClsN K c C ∧ Meth K C x f
/-- what is known of a name that is called -/
structure Callee (P : Program) (w : World) (K : PySem.W.Frag) (mg : Str → Option Value) (base : Heap) (k : Nat) (m : Frm) (g : List D → M D) : Prop where
  ex : ∃ f, CallF P w K mg base k f m.ks (spF K m.n g) ∧ FoundAt K mg m.x f m.kd
theorem kinS {P : Program} {w : World} {K : PySem.W.Frag} {mg : Str → Option Value} {base : Heap} {A : Around} {outer : List PySem.Env} {s : Shared} {H : Hp} (e0 : Env0 P w K mg base A outer s H) : K.In s.heap := e0.mod.kin.keeps fun b o z => (e0.bs b o z).1
section
variable {P : Program} {w : World} {K : PySem.W.Frag} {mg : Str → Option Value} {base : Heap} {k : Nat} {f : Addr} {fd : FuncData} {ps ks : List Str} {n : Nat} {g : List D → M D}
/-- all values by place, the defaults ds behind them -/
theorem callF_of {dds : List D} {dvs : List V} {dus : List Value} (F : FnG P w K mg base CX0 k f fd ps (spF K (n + dds.length) g)) (hb : Binds K fd ps dus) (hd : Vals dvs dus) (hr : ∀ ρ H, Reps K ρ H dds dvs) : CallF P w K mg base k f [] (spF K n fun xs => g (xs ++ dds)) := by
  intro A outer s H us ws vs zs Q room gd e0 rv rz hl sp
  have hw : ws = [] := List.length_eq_zero_iff.mp hl
  subst hw
  cases rz
  rw [List.append_nil] at sp
  obtain ⟨ρ, st, xs, d, st', h1, S, r, e, p⟩ := sp
  have sp2 : spF K (n + dds.length) g (vs ++ dvs) H Q E0 := ⟨ρ, st, xs ++ dds, d, st', by rw [List.length_append, h1], S, r.append (hr ρ H), e, p⟩
  have rr := rv.append hd
  have hl2 : (us ++ dus).length = ps.length := by rw [← rr.length]; exact F.len _ _ _ _ sp2
  exact F.run A outer s H ⟨us, []⟩ (us ++ dus) (vs ++ dvs) Q E0 room gd e0 (hb s us (kinS e0) hl2) rr sp2
/-- some by place, some by names; π: how the values stand as parameters -/
theorem callF_kw {n0 : Nat} {gv : List Value → List Value → List Value} {gV : List V → List V → List V} {gD : List D → List D} {m : Nat} (F : FnG P w K mg base CX0 k f fd ps (spF K m g)) (hb : KBn K fd ps n0 ks gv gV) (hn : n = n0 + ks.length)
    (hr : ∀ ρ H xs vs zs, xs.length = n → vs.length = n0 → Reps K ρ H xs (vs ++ zs) → Reps K ρ H (gD xs) (gV vs zs) ∧ (gD xs).length = m) : CallF P w K mg base k f ks (spF K n fun xs => g (gD xs)) := by
  intro A outer s H us ws vs zs Q room gd e0 rv rz hl sp
  obtain ⟨ρ, st, xs, d, st', h1, S, r, e, p⟩ := sp
  have hlen := r.length
  rw [List.length_append] at hlen
  have hz : zs.length = ks.length := by rw [rz.length]; exact hl
  have hv : vs.length = n0 := by omega
  obtain ⟨r2, l2⟩ := hr ρ H xs vs zs h1 hv r
  have sp2 : spF K m g (gV vs zs) H Q E0 := ⟨ρ, st, gD xs, d, st', l2, S, r2, e, p⟩
  exact F.run A outer s H ⟨us, ks.zip ws⟩ (gv us ws) (gV vs zs) Q E0 room gd e0 (hb.to s us ws (kinS e0) (by rw [← rv.length]; exact hv) hl) (hb.rel rv rz) sp2
end
section
variable {X : Cx} {k : Nat} {x : Str} {n : Nat} {g : List D → M D}
theorem callG {f : Addr} {ks : List Str} {sp : Sp} {pins : List (Addr × Obj)} {σ : L2.St} {H : Hp} {s : Shared} {Q : VK} {us ws : List Value} {vs zs : List V} (F : CallF X.prog X.w X.K X.mg X.base k f ks sp) (room : Room k X.A) (gd : X.A.guards = some [])
    (I : Inv X pins σ H s) (rel : Vals vs us) (rz : Vals zs ws) (hl : ws.length = ks.length) (h : sp (vs ++ zs) H Q E0) : wpAny (model X.prog X.w) X.A (call (.ref f) us (ks.zip ws)) (EP X pins σ Q) X.xe s := by
  refine wpAny_call (codeAny_mono (F X.A X.stack s H us ws vs zs Q room gd I.env0 rel rz hl h) fun res s' z => ?_)
  cases res with
  | error e => exact False.elim z
  | ok flow =>
    cases flow with
    | ret u => exact I.after z
    | next => exact z.elim
    | brk => exact z.elim
    | cont => exact z.elim
/-- f(e, ..) -/
theorem pe_callG {f : Addr} {sp : Sp} {p pos : Pos} {e : Expr} {es : List Expr} {t : TA} (F : CallF X.prog X.w X.K X.mg X.base k f [] sp) (room : Room k X.A) (gd : X.A.guards = some []) (gl : Gl X x) (hm : X.mg x = some (.ref f))
    (hk : PySem.W.keepIn X.K (.ref f) = true) (ha : PA X (e :: es) t) (hdb : (x == ("__debug__" : Str)) = false) (he : starEach (e :: es) X.env = (false, eval e X.env) :: starEach es X.env)
    (hpl : (backTo pos (starEach es X.env)).any (·.1) = false) : PE X (.Call (.Name x p) (e :: es) [] pos) (fun σ H Q => t σ H fun vs H1 => sp vs H1 Q E0) := by
  refine ⟨fun pins s σ H Q I h => ?_⟩
  refine wpAny_Call_Name_kw (ld_glob I gl hm ?_ hdb)
  refine PySem.W.callWith_K (h₀ := X.base) I.ok.mod.kin hk (thn (ha.run pos pins s σ H _ I h) fun us s1 ⟨vs, H1, I1, rel, q⟩ => ⟨I1.kIn, ?_⟩) he hpl
  exact callG (ks := []) (ws := []) (zs := []) F room gd I1 rel .nil rfl (by rw [List.append_nil]; exact q)
/-- f() -/
theorem pe_callG0 {f : Addr} {sp : Sp} {p pos : Pos} (F : CallF X.prog X.w X.K X.mg X.base k f [] sp) (room : Room k X.A) (gd : X.A.guards = some []) (gl : Gl X x) (hm : X.mg x = some (.ref f))
    (hk : PySem.W.keepIn X.K (.ref f) = true) (hdb : (x == ("__debug__" : Str)) = false) : PE X (.Call (.Name x p) [] [] pos) (fun σ H Q => sp [] H Q E0) := by
  refine ⟨fun pins s σ H Q I h => ?_⟩
  refine wpAny_Call_Name_kw (ld_glob I gl hm ?_ hdb)
  exact PySem.W.callWith_K0 I.kIn hk (callG (us := []) (vs := []) (ks := []) (ws := []) (zs := []) F room gd I .nil .nil rfl h)
/-- f(e, .., k = v, ..) -/
theorem pe_callGK {f : Addr} {ks : List Str} {sp : Sp} {p pos : Pos} {e : Expr} {es : List Expr} {kws : List Keyword} {t tk : TA} (F : CallF X.prog X.w X.K X.mg X.base k f ks sp) (room : Room k X.A) (gd : X.A.guards = some []) (gl : Gl X x) (hm : X.mg x = some (.ref f))
    (hk : PySem.W.keepIn X.K (.ref f) = true) (ha : PA X (e :: es) t) (hkw : PK X kws tk) (hdb : (x == ("__debug__" : Str)) = false) (he : starEach (e :: es) X.env = (false, eval e X.env) :: starEach es X.env)
    (hall : (backToKw pos (keywordEach kws X.env)).all (·.1.isSome) = true) (hks : (backToKw pos (keywordEach kws X.env)).filterMap (·.1) = ks)
    (hpl : ((backTo pos (starEach (e :: es) X.env)).any (·.1) || (backToKw pos (keywordEach kws X.env)).any (·.1.isNone)) = false) :
    PE X (.Call (.Name x p) (e :: es) kws pos) (fun σ H Q => t σ H fun vs H1 => tk σ H1 fun zs H2 => zs.length = ks.length ∧ sp (vs ++ zs) H2 Q E0) := by
  refine ⟨fun pins s σ H Q I h => ?_⟩
  refine wpAny_Call_Name_kw (ld_glob I gl hm ?_ hdb)
  refine PySem.W.callWith_KW (h₀ := X.base) I.ok.mod.kin hk hall (thn (ha.run pos pins s σ H _ I h) fun us s1 ⟨vs, H1, I1, rel, q⟩ => ?_) hpl he
  refine thn (hkw.run pos pins s1 σ H1 _ I1 q) fun ws s2 ⟨zs, H2, I2, rz, hz, q2⟩ => ⟨I2.kIn, ?_⟩
  rw [hks]
  exact callG F room gd I2 rel rz (by rw [← rz.length]; exact hz) q2
/-- f(k = v, ..) -/
theorem pe_callGK0 {f : Addr} {ks : List Str} {sp : Sp} {p pos : Pos} {kws : List Keyword} {tk : TA} (F : CallF X.prog X.w X.K X.mg X.base k f ks sp) (room : Room k X.A) (gd : X.A.guards = some []) (gl : Gl X x) (hm : X.mg x = some (.ref f))
    (hk : PySem.W.keepIn X.K (.ref f) = true) (hkw : PK X kws tk) (hdb : (x == ("__debug__" : Str)) = false)
    (hall : (backToKw pos (keywordEach kws X.env)).all (·.1.isSome) = true) (hks : (backToKw pos (keywordEach kws X.env)).filterMap (·.1) = ks)
    (hpl : ((backTo pos (starEach [] X.env)).any (·.1) || (backToKw pos (keywordEach kws X.env)).any (·.1.isNone)) = false) :
    PE X (.Call (.Name x p) [] kws pos) (fun σ H Q => tk σ H fun zs H2 => zs.length = ks.length ∧ sp zs H2 Q E0) := by
  refine ⟨fun pins s σ H Q I h => ?_⟩
  refine wpAny_Call_Name_kw (ld_glob I gl hm ?_ hdb)
  refine PySem.W.callWith_KW0 (h₀ := X.base) I.ok.mod.kin hk hall (thn (hkw.run pos pins s σ H _ I h) fun ws s2 ⟨zs, H2, I2, rz, hz, q2⟩ => ⟨I2.kIn, ?_⟩) hpl
  rw [hks]
  exact callG (us := []) (vs := []) F room gd I2 .nil rz (by rw [← rz.length]; exact hz) q2
/-! ### methods of own classes -/
/-- what a call of an attribute is, where it has few arguments on its line -/
theorem meth_eval {o : Expr} {m : Str} {apos pos : Pos} {args : List Expr} {kws : List Keyword} {env : PySem.Env} (hbase : attributeBase o m env (eval o env) = eval o env)
    (hfew : methodCallForm (args.length + kws.length) (backTo pos (starEach args env)) (backToKw pos (keywordEach kws env)) = true) (hline : (apos.endLine == pos.line) = true) :
    eval (.Call (.Attribute o m apos) args kws pos) env = (do
      let ov ← eval o env
      standAt apos.atName
      let (f, first) ← holding [ov] (getMethod ov m (do return (← importBound o env).getD true))
      callWith pos f first (backTo pos (starEach args env)) (backToKw pos (keywordEach kws env))) := by
  rw [eval, hbase]
  unfold methodCall calleeOf methodCallPos
  rw [hfew]
  simp only [if_true, hline, Bool.not_true, Bool.false_or, pure_bind]
/-- what is asked of an object whose method is called -/
def MetAt (X : Cx) (k : Nat) (m : Str) (ks : List Str) (x : V) (H : Hp) (sp : Sp) : Prop := ∃ f C a dx fs, CallF X.prog X.w X.K X.mg X.base k f ks sp ∧ Cls X.K C ∧ Meth X.K C m f ∧ x = .ref a ∧ H a = some (.ins C dx fs) ∧ fs.lookup m = none
theorem pe_mcallG {o : Expr} {m : Str} {apos pos : Pos} {e : Expr} {es : List Expr} {kws : List Keyword} {ks : List Str} {ta : TE} {t tk : TA} (room : Room k X.A) (gd : X.A.guards = some []) (ho : PE X o ta) (ha : PA X (e :: es) t) (hkw : PK X kws tk)
    (he : starEach (e :: es) X.env = (false, eval e X.env) :: starEach es X.env)
    (hall : (backToKw pos (keywordEach kws X.env)).all (·.1.isSome) = true) (hks : (backToKw pos (keywordEach kws X.env)).filterMap (·.1) = ks)
    (hpl : ((backTo pos (starEach (e :: es) X.env)).any (·.1) || (backToKw pos (keywordEach kws X.env)).any (·.1.isNone)) = false)
    (hbase : attributeBase o m X.env (eval o X.env) = eval o X.env) (hfew : methodCallForm ((e :: es).length + kws.length) (backTo pos (starEach (e :: es) X.env)) (backToKw pos (keywordEach kws X.env)) = true) (hline : (apos.endLine == pos.line) = true) :
    PE X (.Call (.Attribute o m apos) (e :: es) kws pos) (fun σ H Q => ta σ H fun x H1 => ∃ sp, MetAt X k m ks x H1 sp ∧ t σ H1 fun vs H2 => tk σ H2 fun zs H3 => zs.length = ks.length ∧ sp (x :: (vs ++ zs)) H3 Q E0) := by
  refine ⟨fun pins s σ H Q I h => ?_⟩
  refine PySem.W.methodCall_KW (thn (ho.run pins s σ H _ I h) fun u s1 ⟨x, H1, I1, rx, sp, ⟨f, C, a, dx, fs, F, c, hm, ex, ea, l⟩, q⟩ => ?_) (meth_eval hbase hfew hline)
  subst ex
  obtain rfl : u = Value.ref a := rx
  refine getmeth_ok I1 ea c hm l ?_
  refine PySem.W.callWith_KW (first := [.ref a]) (h₀ := X.base) I.ok.mod.kin hm.kp hall (thn (ha.run pos pins s1 σ H1 _ I1 q) fun us s2 ⟨vs, H2, I2, r, q2⟩ => ?_) hpl he
  refine thn (hkw.run pos pins s2 σ H2 _ I2 q2) fun ws s3 ⟨zs, H3, I3, rz, hz, q3⟩ => ⟨I3.kIn, ?_⟩
  rw [hks]
  exact callG (us := .ref a :: us) (vs := .ref a :: vs) F room gd I3 (.cons rfl r) rz (by rw [← rz.length]; exact hz) q3
theorem pe_mcallG0 {o : Expr} {m : Str} {apos pos : Pos} {kws : List Keyword} {ks : List Str} {ta : TE} {tk : TA} (room : Room k X.A) (gd : X.A.guards = some []) (ho : PE X o ta) (hkw : PK X kws tk)
    (hall : (backToKw pos (keywordEach kws X.env)).all (·.1.isSome) = true) (hks : (backToKw pos (keywordEach kws X.env)).filterMap (·.1) = ks)
    (hpl : ((backTo pos (starEach [] X.env)).any (·.1) || (backToKw pos (keywordEach kws X.env)).any (·.1.isNone)) = false)
    (hbase : attributeBase o m X.env (eval o X.env) = eval o X.env) (hfew : methodCallForm (([] : List Expr).length + kws.length) (backTo pos (starEach [] X.env)) (backToKw pos (keywordEach kws X.env)) = true) (hline : (apos.endLine == pos.line) = true) :
    PE X (.Call (.Attribute o m apos) [] kws pos) (fun σ H Q => ta σ H fun x H1 => ∃ sp, MetAt X k m ks x H1 sp ∧ tk σ H1 fun zs H3 => zs.length = ks.length ∧ sp (x :: zs) H3 Q E0) := by
  refine ⟨fun pins s σ H Q I h => ?_⟩
  refine PySem.W.methodCall_KW (thn (ho.run pins s σ H _ I h) fun u s1 ⟨x, H1, I1, rx, sp, ⟨f, C, a, dx, fs, F, c, hm, ex, ea, l⟩, q⟩ => ?_) (meth_eval hbase hfew hline)
  subst ex
  obtain rfl : u = Value.ref a := rx
  refine getmeth_ok I1 ea c hm l ?_
  refine PySem.W.callWith_KW0 (first := [.ref a]) (h₀ := X.base) I.ok.mod.kin hm.kp hall (thn (hkw.run pos pins s1 σ H1 _ I1 q) fun ws s3 ⟨zs, H3, I3, rz, hz, q3⟩ => ⟨I3.kIn, ?_⟩) hpl
  rw [hks]
  exact callG (us := [.ref a]) (vs := [.ref a]) F room gd I3 (.cons rfl .nil) rz (by rw [← rz.length]; exact hz) q3
/-! ### new instances -/
theorem run_makeG {C f : Addr} {ks : List Str} {sp : Sp} {pins : List (Addr × Obj)} {σ : L2.St} {H : Hp} {s : Shared} {Q : VK} {us ws : List Value} {vs zs : List V} (M : Mk X.K C f) (F : CallF X.prog X.w X.K X.mg X.base k f ks sp) (room : Room (k + 1) X.A) (gd : X.A.guards = some [])
    (I : Inv X pins σ H s) (rel : Vals vs us) (rz : Vals zs ws) (hl : ws.length = ks.length)
    (h : ∀ x dx, H x = none → H dx = none → dx ≠ x → sp (.ref x :: (vs ++ zs)) (upd (upd H dx (.own x)) x (.ins C dx [])) (fun v H2 => v = .non ∧ Q (.ref x) H2) E0) :
    wpAny (model X.prog X.w) X.A (call (.ref C) us (ks.zip ws)) (EP X pins σ Q) X.xe s := by
  have hq := h (s.heap.objs.size + 1) s.heap.objs.size (I.hok.fresh (Nat.le_succ _)) (I.hok.fresh (Nat.le_refl _)) (Nat.ne_of_lt (Nat.lt_succ_self _))
  have I2 := Inv.made (C := C) I
  refine wpAny_call (make_map (f := f) I.kIn M.makes M.init (beq_iff_eq.mp M.fn) (codeAny_mono (F _ X.stack _ _ (Value.ref (s.heap.objs.size + 1) :: us) ws (V.ref (s.heap.objs.size + 1) :: vs) zs _ (room.make C us (ks.zip ws)) gd
    (I2.env0.make C us (ks.zip ws)) (.cons rfl rel) rz hl hq) fun r s' hq' => ?_))
  cases r with
  | error e => exact False.elim hq'
  | ok fl =>
    cases fl with
    | ret u =>
      obtain ⟨v, H', I3, rv, ev, q3⟩ := I2.after hq'
      subst ev
      exact ⟨rv, ⟨V.ref (s.heap.objs.size + 1), H', I3, rfl, q3⟩⟩
    | next => exact False.elim hq'
    | brk => exact False.elim hq'
    | cont => exact False.elim hq'
def tMkG (C : Addr) (ks : List Str) (sp : Sp) (vs zs : List V) (H2 : Hp) (Q : VK) : Prop := zs.length = ks.length ∧ ∀ x dx, H2 x = none → H2 dx = none → dx ≠ x → sp (.ref x :: (vs ++ zs)) (upd (upd H2 dx (.own x)) x (.ins C dx [])) (fun v H3 => v = .non ∧ Q (.ref x) H3) E0
theorem pe_makeG {C f : Addr} {ks : List Str} {sp : Sp} {p pos : Pos} {e : Expr} {es : List Expr} {kws : List Keyword} {t tk : TA} (M : Mk X.K C f) (F : CallF X.prog X.w X.K X.mg X.base k f ks sp) (room : Room (k + 1) X.A) (gd : X.A.guards = some []) (gl : Gl X x) (hm : X.mg x = some (.ref C))
    (ha : PA X (e :: es) t) (hkw : PK X kws tk) (hdb : (x == ("__debug__" : Str)) = false) (he : starEach (e :: es) X.env = (false, eval e X.env) :: starEach es X.env)
    (hall : (backToKw pos (keywordEach kws X.env)).all (·.1.isSome) = true) (hks : (backToKw pos (keywordEach kws X.env)).filterMap (·.1) = ks)
    (hpl : ((backTo pos (starEach (e :: es) X.env)).any (·.1) || (backToKw pos (keywordEach kws X.env)).any (·.1.isNone)) = false) :
    PE X (.Call (.Name x p) (e :: es) kws pos) (fun σ H Q => t σ H fun vs H1 => tk σ H1 fun zs H2 => tMkG C ks sp vs zs H2 Q) := by
  refine ⟨fun pins s σ H Q I h => ?_⟩
  refine wpAny_Call_Name_kw (ld_glob I gl hm ?_ hdb)
  refine PySem.W.callWith_KW (h₀ := X.base) I.ok.mod.kin M.kp hall (thn (ha.run pos pins s σ H _ I h) fun us s1 ⟨vs, H1, I1, rel, q⟩ => ?_) hpl he
  refine thn (hkw.run pos pins s1 σ H1 _ I1 q) fun ws s2 ⟨zs, H2, I2, rz, hz, q2⟩ => ⟨I2.kIn, ?_⟩
  rw [hks]
  exact run_makeG M F room gd I2 rel rz (by rw [← rz.length]; exact hz) q2
theorem pe_makeG0 {C f : Addr} {ks : List Str} {sp : Sp} {p pos : Pos} {kws : List Keyword} {tk : TA} (M : Mk X.K C f) (F : CallF X.prog X.w X.K X.mg X.base k f ks sp) (room : Room (k + 1) X.A) (gd : X.A.guards = some []) (gl : Gl X x) (hm : X.mg x = some (.ref C))
    (hkw : PK X kws tk) (hdb : (x == ("__debug__" : Str)) = false)
    (hall : (backToKw pos (keywordEach kws X.env)).all (·.1.isSome) = true) (hks : (backToKw pos (keywordEach kws X.env)).filterMap (·.1) = ks)
    (hpl : ((backTo pos (starEach [] X.env)).any (·.1) || (backToKw pos (keywordEach kws X.env)).any (·.1.isNone)) = false) :
    PE X (.Call (.Name x p) [] kws pos) (fun σ H Q => tk σ H fun zs H2 => tMkG C ks sp [] zs H2 Q) := by
  refine ⟨fun pins s σ H Q I h => ?_⟩
  refine wpAny_Call_Name_kw (ld_glob I gl hm ?_ hdb)
  refine PySem.W.callWith_KW0 (h₀ := X.base) I.ok.mod.kin M.kp hall (thn (hkw.run pos pins s σ H _ I h) fun ws s2 ⟨zs, H2, I2, rz, hz, q2⟩ => ⟨I2.kIn, ?_⟩) hpl
  rw [hks]
  exact run_makeG (us := []) (vs := []) M F room gd I2 .nil rz (by rw [← rz.length]; exact hz) q2
/-! ### attributes as targets -/
def gFld (K : PySem.W.Frag) (to : TE) (f : Str) : TG := fun v σ H Q => to σ H fun x H1 => ∃ a C dx fs, x = .ref a ∧ H1 a = some (.ins C dx fs) ∧ Cls K C ∧ NoAttr K C f ∧ fs.length < 1000 ∧ Q σ (upd H1 a (.ins C dx (putF f v fs)))
end
end W9

/-! W9F: enumerate of a tuple -/
namespace W9
open PySem L2
open Sem (wp)
/-- n pairs (i, x), x the i-th of the tuple at a -/
def IteT (K : PySem.W.Frag) (a : Addr) (n : Nat) : It :=
  ⟨fun i H => i < n ∧ ∃ xs, SqT K H a xs ∧ xs.length = n, fun i H v H' => ∃ T x, v = .ref T ∧ H T = none ∧ H' = upd H T (.tup [.int (i : Nat), x]) ∧ ∀ xs, SqT K H a xs → xs[i]? = some x, fun i H => n ≤ i ∧ ∃ xs, SqT K H a xs ∧ xs.length = n⟩
theorem turn_enumT {P : Program} {w : World} {K : PySem.W.Frag} {elts : List Expr} {kk : Nat} {tpos : Pos} {n : Nat} (a e it : Addr) (hne : e ≠ it) (hea : e ≠ a) (hai : a ≠ it) :
    Turn P w K (.Tuple elts kk tpos) (IteT K a n) [e, it] e (fun i h => i ≤ n ∧ (∃ old, IsEnum h e it ((0 : Int) + (i : Int)) old) ∧ h.IsTupleIter it a i) where
  mem := by simp
  obj := fun i h st b hb => by
    obtain ⟨_, ⟨old, he⟩, ⟨o, ho, hc, hd⟩⟩ := st
    have e' : b = e ∨ b = it := by simpa using hb
    rcases e' with z | z
    · rw [z]; exact ⟨_, he, fun v q => nomatch q⟩
    · rw [z]; exact ⟨o, ho, fun v q => by rw [hd] at q; cases q⟩
  keep := fun i h h' st k => let ⟨hi, ⟨old, he⟩, ht⟩ := st; ⟨hi, ⟨old, k e (by simp) _ he⟩, ht.at fun o q => k it (by simp) o q⟩
  item := by
    intro X hP hw hK hc i pins s σ H E I hf st hg
    subst hP hw hK
    obtain ⟨_, st1, st2⟩ := st
    obtain ⟨hin, xs, hq, hxl⟩ := hg
    obtain ⟨its, rv, p, hz⟩ := I.tuple hq
    have hil : its.toArray.size = n := by rw [← hxl, rv.length]; simp
    have W := WalksT.enumFrom (prog := X.prog) (w := X.w) (A := X.A) 0 (Draws.tuple (A := X.A.in1) (show X.A.in1.handled = none from I.ok.hd hc) it a hai its.toArray) e hne (by simp [hne, hea]) (by simp)
    refine W.item i s _ _ (by rw [hil]; exact hin) ⟨st1, st2, p⟩ fun T vals h' tk hP hT hTup mid hk => ?_
    refine ⟨_, rfl, W.go elts kk tpos i T { s with heap := h', toks := tk } _ _ mid fun h'' st'' hk2 => ?_⟩
    obtain ⟨tt, y, hy, hv⟩ := hP
    subst hv
    have hxi : i < xs.length := by omega
    obtain ⟨u, hu, ru⟩ := rv.get (List.getElem?_eq_getElem hxi)
    have hyu : y = u := by
      have h1 : its.toArray[i]? = some u := by simpa using hu
      rw [h1] at hy; exact (Option.some.inj hy).symm
    subst hyu
    have hTw : T ∉ [e, it] := fun z => W.apart i T h' mid (by simp only [List.mem_cons, List.not_mem_nil, or_false] at z ⊢; rcases z with z | z; exact .inl z; exact .inr z)
    have hTup2 : h''.IsTuple T #[.int ((0 : Int) + (i : Int)) tt, y] := by
      obtain ⟨oo, h1, h2⟩ := hTup
      exact ⟨oo, hk2 T oo hTw h1, h2⟩
    have e0 : (0 : Int) + (i : Int) = ((i : Nat) : Int) := Int.zero_add _
    have new : ObjOk X.prog X.w (upd H T (.tup [.int (i : Nat), xs[i]])) h'' T (.tup [.int (i : Nat), xs[i]]) :=
      ⟨by show 2 ≤ sizeLine; decide, [.int ((0 : Int) + (i : Int)) tt, y], .cons ⟨_, by rw [e0]⟩ (.cons ru .nil), hTup2⟩
    have I1 : Inv X pins σ (upd H T (.tup [.int (i : Nat), xs[i]])) { s with heap := h'', toks := tk } :=
      I.turnedNew (ch := [e, it]) (fun b ob hb q => hk2 b ob hb (hk b ob hb q)) hf hT new
    refine ⟨.ref T, _, I1, rfl, ⟨T, _, rfl, I.hok.fresh hT, rfl, fun ys hy => by rw [I.tuple_inj hy hq]; exact List.getElem?_eq_getElem hxi⟩, ⟨hin, st''.1, st''.2.1⟩, fun b hb => ?_⟩
    have hb' : b ≠ T := fun z => hTw (z ▸ hb)
    rw [upd_ne hb']
    exact (hf b hb).1
  done := by
    intro X hP hw hK hc i pins s σ H E I hf st hg
    subst hP hw hK
    obtain ⟨hi, st1, st2⟩ := st
    obtain ⟨hni, xs, hq, hxl⟩ := hg
    obtain ⟨its, rv, p, hz⟩ := I.tuple hq
    have hil : its.toArray.size = n := by rw [← hxl, rv.length]; simp
    have hin : i = its.toArray.size := by omega
    subst hin
    have W := WalksT.enumFrom (prog := X.prog) (w := X.w) (A := X.A) 0 (Draws.tuple (A := X.A.in1) (show X.A.in1.handled = none from I.ok.hd hc) it a hai its.toArray) e hne (by simp [hne, hea]) (by simp)
    exact W.done s _ _ ⟨st1, st2, p⟩ fun h' tk hk => ⟨rfl, I.turnedL (ch := [e, it]) (fun b o hb q => hk b o hb q) hf⟩
  self := fun A i s Q E st h => let ⟨_, ⟨_, he⟩, _⟩ := st; wpAny_pyIter_enum he h
def iEnumT (K : PySem.W.Frag) (ta : TA) : TI := fun σ H R => ta σ H fun vs H1 => ∃ a xs, vs = [.ref a] ∧ SqT K H1 a xs ∧ R (IteT K a xs.length) H1
theorem pi_enumT {X : Cx} {e : Expr} {ta : TA} {p pos tpos : Pos} {elts : List Expr} {kk : Nat} (hg : Gl X "enumerate") (hm : X.mg "enumerate" = none) (ha : PA X [e] ta) (hs : starEach [e] X.env = [(false, eval e X.env)] := by rfl) :
    PI X (.Tuple elts kk tpos) (.Call (.Name "enumerate" p) [e] [] pos) (iEnumT X.K ta) := by
  refine ⟨fun pins s σ H R I h => ?_⟩
  refine PyProof.Rows.Call_ (ld_blt I hg hm PyProof.Rows.boot_enumerate (PyProof.Rows.callWith_type1 (thn (ha.run pos pins s σ H _ I h) fun us s1 ⟨vs, H1, I1, r1, q1⟩ => ?_) hs rfl))
  obtain ⟨a, xs, ex, hq, q⟩ := q1
  subst ex
  cases r1 with
  | cons r rr =>
    cases rr
    cases r
    obtain ⟨its, rv, p', hz⟩ := I1.tuple hq
    have hal : a < s1.heap.objs.size := by obtain ⟨o, ho, _⟩ := p'; exact Heap.lt_size ho
    refine enum1_begins (begins_tuple a its.toArray) p' fun h' he ho hsz hk => wpAny_pyIter_enum he ?_
    have I2 : Inv X pins σ H1 { s1 with heap := h' } := I1.kept (t' := s1.toks) hk
    refine ⟨s1.heap.objs.size + 1, [s1.heap.objs.size + 1, s1.heap.objs.size], _, _, H1, rfl, I2, turn_enumT a (s1.heap.objs.size + 1) s1.heap.objs.size (Nat.succ_ne_self _) (Nat.ne_of_gt (Nat.lt_succ_of_lt hal)) (Nat.ne_of_lt hal), ⟨Nat.zero_le _, ⟨.none, by simpa using he⟩, ⟨_, ho, rfl, rfl⟩⟩, fun b hb => ?_, q⟩
    have e' : b = s1.heap.objs.size + 1 ∨ b = s1.heap.objs.size := by simpa using hb
    have hle : s1.heap.objs.size ≤ b := by
      rcases e' with z | z
      · rw [z]; exact Nat.le_add_right _ _
      · rw [z]; exact Nat.le_refl _
    exact I1.fpOk hle (I1.hok.fresh hle)
end W9

/-! W9G: sets of ints: set(list), sorted(set), any number of members -/
namespace W9
open PySem PySem.Spec L2 PyProof.Rows
/-- an empty set -/
abbrev eset (w : World) : Obj := { cls := .type "set", dict := none, data := .set #[] 0 (.fresh 0 0 (!w.params.followText "set-order")) }
section
variable {P : Program} {w : World} {A : Around} {E : Value → Shared → Prop} {s : Shared}
theorem sorted_setA {a : Addr} {S : Int → Bool} {n : Nat} {Q : Value → Shared → Prop} (R : SetR w s.heap a S n) (hh : A.handled = none)
    (hQ : ∀ s' p (out : List Value) (c : Nat) (ns : List Int), (∀ b o, s.heap.get? b = some o → s'.heap.get? b = some o) → s'.gens = s.gens → s'.os = s.os → s.heap.objs.size ≤ p → s'.heap.get? p = some (seqObj "list" out.toArray c) → IntsAre out ns → ns.Pairwise (· < ·) → (∀ k, k ∈ ns ↔ S k = true) → ns.length = n → n ≤ sizeLine → Q (.ref p) s') :
    wpAny (model P w) A (call (.builtin "sorted") [.ref a]) Q E s := by
  obtain ⟨o, es, ep, t, ho, hex, hd, g, nd, hm, hb, hf, hn, hr, hl⟩ := R
  have hns : n ≤ sizeLine := by rw [← hn]; exact fits_of_scanBound hb
  refine Calls.call_function_entry kind_sorted plain_sorted entry_sorted (args_sorted1 _) ?_
  unfold Builtin.«sorted»
  refine wpAny_bind (m := checkCount "sorted" 1 1 _) (wpAny_pure ?_)
  refine wpAny_bind (collect_set (A := A.in1) hh ⟨o, ho, hex.1, hd⟩ hf hb hr hl fun s1 vs k1 hz g1 o1 pm => ?_)
  have vl : vs.length = n := by rw [pm.length_eq, List.length_map, Array.length_toList]; exact hn
  have ia : IntsAre vs (vs.map Builtin.Re.reRawOf) := ints_of vs fun v hv => by
    obtain ⟨e, he, q⟩ := List.mem_map.mp (pm.mem_iff.mp hv)
    obtain ⟨k, tk, q1, _⟩ := g e he
    exact ⟨k, tk, by rw [← q]; exact q1⟩
  have pk : (vs.map Builtin.Re.reRawOf).Perm (es.toList.map keyOf) := by
    have q := pm.map Builtin.Re.reRawOf
    rw [List.map_map] at q
    exact q
  refine wpAny_bind (wpAny_newList ?_ (by rw [vl]; exact hns))
  have lo : (s1.heap.push (seqObj "list" vs.toArray 0)).get? s1.heap.objs.size = some (seqObj "list" vs.toArray 0) := Heap.get?_push_size _ rfl
  refine wpAny_bind (wpAny_holding (wpAny_call_entry slot_list_sort ⟨_, lo, rfl⟩ entry_list_sort
    (SrtO.list_sort_ord SrtO.swo_int lo (by rw [vl]; exact hns) (fun h2 => SrtO.ints_sortable ia h2) fun out b1 b2 => ⟨_, rfl, ?_⟩) (args_list_sort _)))
  obtain ⟨a1, a2, a3⟩ := SrtO.ints_out ia b1 b2
  obtain ⟨c, hc⟩ := sortedHeap_at (vs := vs) (out := out.toArray) lo
  have pn : (out.map SrtO.iv).Perm (es.toList.map keyOf) := a2.trans pk
  refine wpAny_pure ⟨_, rfl, hQ _ s1.heap.objs.size out c _ (fun b u e => ?_) g1 o1 hz hc a1 (lt_of_le_nodup _ a3 (pn.nodup_iff.mpr nd)) (fun k => by rw [pn.mem_iff, ← hm k]) ?_ hns⟩
  · have q := k1 b u e
    have lt := Heap.lt_size q
    show (sortedHeap (s1.heap.push (seqObj "list" vs.toArray 0)) s1.heap.objs.size vs out.toArray).get? b = some u
    rw [sortedHeap_old (Nat.ne_of_lt lt) (by rw [size_push']; exact Nat.lt_succ_of_lt lt)]
    exact Heap.get?_push_of_some _ q
  · rw [pn.length_eq, List.length_map, Array.length_toList]; exact hn
set_option maxHeartbeats 3200000 in
theorem set_of_list {l : Addr} {items : Array Value} (ns : List Int) {Q : Value → Shared → Prop} (hh : A.handled = none) (il : s.heap.IsList l items) (ia : IntsAre items.toList ns) (hb : ns.length + 1 < scanBound)
    (h : ∀ (h' : Heap) (tk c : Nat), SetR w h' s.heap.objs.size (fun j => decide (j ∈ ns)) c → (∀ b o, s.heap.get? b = some o → h'.get? b = some o) → Q (.ref s.heap.objs.size) { s with heap := h', toks := tk }) :
    wpAny (model P w) A (call (.type "set") [.ref l]) Q E s := by
  have isz : items.size = ns.length := by
    have q := IntsAre.length ia
    rwa [Array.length_toList] at q
  obtain ⟨mc, mt, hmro⟩ := F.called_set.mro
  have hmade := F.called_set.made
  have hsub := F.called_set.sub
  refine wpAny_call (codeAny_of_tree ?_)
  show wpAny _ _ (callAny (.type "set") _) _ _ _
  refine wpAny_pure ⟨Code.quiet_builtin _ (by decide +kernel), codeAny_builtin F.entry_type_call ?_⟩
  rw [Around.under_plain (weight_type_call_type "set" [.ref l] []) rfl]
  have c1 := F.called_set.notType
  have c2 := F.called_set.canCreate
  have c3 := F.typeCall_set_1 (.ref l)
  repeat (any_goals (first | assumption | wp_step))
  refine codeAny_mono (code_set_led1 (.ref l) (E := E) (Q₁ := fun ob s₁ => ob = .ref s.heap.objs.size ∧ s₁ = { s with heap := s.heap.push (eset w) }) ⟨rfl, rfl⟩) fun r s₁ hr => ?_
  cases r with
  | error e => exact hr
  | ok fl =>
    cases fl with
    | ret ob =>
      obtain ⟨rfl, rfl⟩ := hr
      have eS : (s.heap.push (eset w)).get? s.heap.objs.size = some (eset w) := Heap.get?_push_size _ rfl
      have eT : Shared.TypeIs { s with heap := s.heap.push (eset w) } (.ref s.heap.objs.size) "set" := ⟨_, eS, rfl⟩
      have c4 := F.called_set.init.lookup
      have c5 := F.called_set.init.bind (.ref s.heap.objs.size)
      repeat (any_goals (first | assumption | wp_step))
      refine codeAny_mono (codeAny_call_builtin (R := wants (fun r s₂ => r = .none ∧ ∃ h' tk c, s₂ = { s with heap := h', toks := tk } ∧ SetR w h' s.heap.objs.size (fun j => decide (j ∈ ns)) c ∧ (∀ b o, s.heap.get? b = some o → h'.get? b = some o)) E) F.called_set.init.plain F.entry_set_init (check_set_init_1 eT ?_)) fun r₂ s₂ hr₂ => ?_
      · obtain ⟨ol, hol, hcl, nl, hdl⟩ := il
        obtain ⟨kc, kd, kx, ks⟩ := ol
        simp only at hcl hdl
        subst hcl hdl
        have hol' : (s.heap.push (eset w)).get? l = some { cls := .type "list", dict := kd, data := .seq items nl, slots := ks } := Heap.get?_push_of_some _ hol
        have u1 := F.sub_list_set
        have u2 := F.sub_list_frozenset
        have u3 : (Value.type "list" == Value.type "dict") = false := by decide
        have il1 : (s.heap.push (eset w)).IsList l items := ⟨_, hol', rfl, nl, rfl⟩
        unfold Builtin.«set.__init__» noKeywords Builtin.Frozenset.updateFrom
        generalize hPI : pyIter = PI
        wp_walk
        subst hPI
        refine wpAny_pyIter_list il1 (wpAny_bind (wpAny_runValue ?_))
        have lS : l < s.heap.objs.size := Heap.lt_size hol
        have h3 : A.in1.in1.in1.handled = none := by simp [hh]
        have zs : (s.heap.push (eset w)).objs.size = s.heap.objs.size + 1 := Heap.size_push ..
        have nI : l ≠ (s.heap.push (eset w)).objs.size := by rw [zs]; exact Nat.ne_of_lt (Nat.lt_succ_of_lt lS)
        have nS : s.heap.objs.size ∉ [(s.heap.push (eset w)).objs.size, l] := by
          rw [zs]; simp only [List.mem_cons, List.not_mem_nil, or_false, not_or]; exact ⟨Nat.ne_of_lt (Nat.lt_succ_self _), Nat.ne_of_gt lS⟩
        have val : ∀ (i : Nat) (v : Value), items[i]? = some v → ∃ k t, ns[i]? = some k ∧ v = .int k t := fun i v hv => by
          have hi : i < ns.length := by rw [← isz]; exact (Array.getElem?_eq_some_iff.mp hv).1
          obtain ⟨t, e⟩ := PyProof.Rows.IntsAre.int_at ia i v (by rw [Array.getElem?_toList]; exact hv)
          refine ⟨ns[i], t, List.getElem?_eq_getElem hi, ?_⟩
          rw [e, List.getD_eq_getElem?_getD, List.getElem?_eq_getElem hi] <;> rfl
        refine set_update_ints ((Walks.list h3 _ l nI items).toS) s.heap.objs.size nS ns isz hb val (items.size - 0) 0 _ (by omega) (Nat.zero_le _) ⟨⟨_, Heap.get?_push_size _ rfl, rfl, rfl⟩, (il1.push _)⟩
          ⟨0, Nat.le_refl 0, setR_new_at (Heap.get?_push_of_some _ eS)⟩ fun s' c' hm hc' hS' => ?_
        obtain ⟨h', g2, d', tk', os'⟩ := s'
        obtain rfl : g2 = s.gens := hm.gens
        obtain rfl : d' = s.drawn := hm.drawn
        obtain rfl : os' = s.os := hm.os
        show wpAny _ _ _ _ _ _
        refine wpAny_pure ?_
        show wpAny _ _ (ret Value.none) _ _ _
        refine wpAny_pure ⟨rfl, h', tk', c', rfl, hS', fun b o e => ?_⟩
        have hb0 : b < s.heap.objs.size := Heap.lt_size e
        refine hm.heap b o ?_ (Heap.get?_push_of_some _ (Heap.get?_push_of_some _ e))
        simp only [List.mem_cons, List.not_mem_nil, or_false, not_or]
        rw [zs]; exact ⟨Nat.ne_of_lt hb0, Nat.ne_of_lt (Nat.lt_succ_of_lt hb0)⟩
      · cases r₂ with
        | error e => exact hr₂
        | ok fl₂ =>
          cases fl₂ with
          | ret r =>
            obtain ⟨rfl, h', tk, c', rfl, hS', hk'⟩ := hr₂
            repeat (any_goals (first | assumption | wp_step))
            exact h _ _ _ hS' hk'
          | next => exact hr₂
          | brk => exact hr₂
          | cont => exact hr₂
    | next => exact hr
    | brk => exact hr
    | cont => exact hr
end
section
variable {X : Cx}
/-- sorted(a set) -/
def rSortSet (w : World) : List V → Hp → VK → Prop := fun vs H Q => ∃ (a : Addr) (S : Int → Bool) (n : Nat), vs = [V.ref a] ∧ H a = some (SetO w a S n) ∧
  ∀ (ns : List Int) (p : Addr), ns.Pairwise (· < ·) → (∀ k : Int, k ∈ ns ↔ S k = true) → H p = none → Q (.ref p) (upd H p (.lst (ns.map V.int)))
theorem cr_sortSet (hc : X.calm = true) : CallR X (.builtin "sorted") (rSortSet X.w) := by
  intro pins s σ H vs us Q I r h
  obtain ⟨a, S, n, rfl, ha, q⟩ := h
  have R := setO_get I ha
  rw [Vals.ref1 r]
  refine sorted_setA R (I.ok.hd hc) fun s' p out c ns k g o hp hg hi hs hm hl hz => ?_
  have len : (ns.map V.int).length ≤ sizeLine := by rw [List.length_map, hl]; exact hz
  have hn : H p = none := I.hok.fresh hp
  have J : Inv X pins σ (upd H p (.lst (ns.map V.int))) { s with heap := s'.heap, gens := s'.gens, drawn := s'.drawn, toks := s'.toks } :=
    I.call (ch := []) (Un.laid k hp hn) (I.hok.laid k hp ⟨len, out, c, vals_of_ints hi, hg⟩) (by rw [g]; exact I.bare) (fun _ z => nomatch z)
  have eq : s' = { s with heap := s'.heap, gens := s'.gens, drawn := s'.drawn, toks := s'.toks } := by
    cases s'; cases s; cases o; rfl
  rw [eq]
  exact ⟨.ref p, _, J, rfl, q ns p hs hm hn⟩
/-- set(a list of ints) -/
def rSetL (w : World) (K : PySem.W.Frag) : List V → Hp → VK → Prop := fun vs H Q => ∃ (a : Addr) (ns : List Int), vs = [V.ref a] ∧ SqL K H a (ns.map V.int) ∧ ns.length + 1 < scanBound ∧
  ∀ (c : Nat) (p : Addr), H p = none → Q (.ref p) (upd H p (SetO w p (fun j => decide (j ∈ ns)) c))
theorem cr_setL (hc : X.calm = true) : CallR X (.type "set") (rSetL X.w X.K) := by
  intro pins s σ H vs us Q I r h
  obtain ⟨a, ns, rfl, hs, hb, q⟩ := h
  rw [Vals.ref1 r]
  obtain ⟨its, rv, il, hz⟩ := I.list hs
  refine set_of_list ns (I.ok.hd hc) il.isList (by simpa using rv.ints) hb fun h' tk c hS hk => ?_
  exact ⟨.ref _, _, I.laid (t' := tk) hk (Nat.le_refl _) (setO_new hS), rfl, q c _ (I.hok.fresh (Nat.le_refl _))⟩
end
end W9

/-! W9H: {x for ..}, x an int -/
namespace W9
open PySem PySem.Spec L2 PyProof.Rows
section
variable {X : Cx}
/-- what is wanted of a turn that ends with an int for the set at D -/
def addQ (w : World) (D : Addr) (Nx : Hp → Prop) : VK := fun y H4 => ∃ (c : Int) (S : Int → Bool) (n : Nat), y = .int c ∧ H4 D = some (SetO w D S n) ∧ n + 1 < scanBound ∧ Nx (upd H4 D (SetO w D (fun j => S j || decide (j = c)) (if S c = true then n else n + 1)))
/-- a turn of the comprehension -/
def turnQ (w : World) (g : TG) (tt : TT) (te : TE) (vs : List Nat) (σ : L2.St) (D : Addr) (Nx : Hp → Prop) (x : V) (H' : Hp) : Prop := g x (wipe σ vs) H' fun σ2 H2 => wipe σ2 vs = wipe σ vs ∧ tt σ2 H2 fun b H3 => if b = true then te σ2 H3 (addQ w D Nx) else Nx H3
def tIc (w : World) (wi : TI) (g : TG) (tt : TT) (te : TE) (vs : List Nat) : TE := fun σ H Q => wi σ H fun J H1 => ∀ D, H1 D = none → ∃ W : Nat → Nat → Hp → Prop, (∃ m, W 0 m (upd H1 D (SetO w D (fun _ => false) 0))) ∧ ∀ i m H, W i m H →
  (J.stop i H ∧ Q (.ref D) H) ∨ (J.go i H ∧ ∃ Nx : Hp → Prop, (∀ H', Nx H' → ∃ m', m' < m ∧ W (i + 1) m' H') ∧ ∀ x H', J.yld i H x H' → turnQ w g tt te vs σ D Nx x H')
abbrev AllBlk (X : Cx) (scope : Scope) (φ : Cx → Prop) : Prop := ∀ (s : Shared) (H : Hp) (C : Addr) (cl : List (Str × Addr)) (fp : List Addr), φ (X.blk s H scope (compEnvC scope cl C X.env) fp)
theorem pe_ic {elt tg iter : Expr} {ifs : List Expr} {scope : Scope} {own : List (Str × Nat)} {pos : Pos} {wi : TI} {g : TG} {tt : TT} {te : TE} (hc : X.calm = true) (hN : X.N.Nodup) (hi : PI X tg iter wi) (ok : BlkOk X.N X.env.scope scope own)
    (hg : AllBlk X scope fun Y => PG Y tg g) (ht : AllBlk X scope fun Y => PTs Y ifs tt) (he : AllBlk X scope fun Y => PE Y elt te) (hs : ∀ x, foldedSetIterable iter X.env x = pure x) :
    PE X (.SetComp elt [⟨tg, iter, ifs, 0⟩] scope pos) (tIc X.w wi g tt te (own.map (·.2))) := by
  refine ⟨fun pins s σ H Q I h => ?_⟩
  rw [PpSet.eval_SetComp]
  have fr : ∀ y ∈ scope.names, y.2 = .free → ∃ c, X.env.cells.lookup y.1 = some c := fun y hy e => (ok.free y hy e).elim (fun k => I.ok.has _ (.inl k)) fun k => I.ok.has _ (.inr k)
  refine wpAny_comprehension_free (use := none) rfl hs (closure_ok fr) ok.kind (fun y hy e => by rw [ok.uniq y hy, e]) (thn (hi.run pins s σ H _ I h) fun xv s1 hx => thn hx fun itv s2 h2 => ?_)
  obtain ⟨it, fp, tn, J, H2, e, I2, T, z2, f2, q⟩ := h2
  subst e
  refine PpSet.newSet_ok (newEnv_comp ?_)
  generalize eD : s2.heap.objs.size = D
  obtain ⟨W, ⟨m0, w0⟩, turn⟩ := q D (I2.hok.fresh (Nat.le_of_eq eD))
  generalize es3 : ({ s2 with heap := s2.heap.push (eset X.w) } : Shared) = s3
  have h3 : s3.heap = s2.heap.push (eset X.w) := by rw [← es3]
  have I3 : Inv X pins σ (upd H2 D (SetO X.w D (fun _ => false) 0)) s3 := by
    rw [← es3]
    refine I2.laid (t' := s2.toks) (fun b o e => Heap.get?_push_of_some _ e) (Nat.le_of_eq eD) ?_
    rw [← eD]
    exact setO_new (setR_fresh X.w)
  have f3 : ∀ b ∈ fp, FpOk X pins (upd H2 D (SetO X.w D (fun _ => false) 0)) b ∧ b < s3.heap.objs.size := fun b hb => by
    obtain ⟨ob, eo, _⟩ := T.obj _ _ z2 b hb
    have lt := Heap.lt_size eo
    refine ⟨⟨?_, (f2 b hb).2⟩, by rw [h3, Heap.size_push]; exact Nat.lt_succ_of_lt lt⟩
    rw [upd_ne (by rw [← eD]; exact Nat.ne_of_lt lt)]
    exact (f2 b hb).1
  have z3 : tn 0 s3.heap := T.keep _ _ _ z2 fun b _ o e => by rw [h3]; exact Heap.get?_push_of_some _ e
  have I4 := block_start I3 ok hN f3
  have pg := hg s3 (upd H2 D (SetO X.w D (fun _ => false) 0)) s3.heap.objs.size (cellsFrom (s3.heap.objs.size + 1) scope.names (cloFrom X.env.cells scope.names [])) fp
  have pt := ht s3 (upd H2 D (SetO X.w D (fun _ => false) 0)) s3.heap.objs.size (cellsFrom (s3.heap.objs.size + 1) scope.names (cloFrom X.env.cells scope.names [])) fp
  have pe := he s3 (upd H2 D (SetO X.w D (fun _ => false) 0)) s3.heap.objs.size (cellsFrom (s3.heap.objs.size + 1) scope.names (cloFrom X.env.cells scope.names [])) fp
  show codeAny _ _ (.compStart (.SetComp elt [⟨tg, iter, ifs, 0⟩] scope pos) 0 (.ref it) (.ref D) (compEnvC scope (cellsFrom (s3.heap.objs.size + 1) scope.names (cloFrom X.env.cells scope.names [])) s3.heap.objs.size X.env)) (compPost (model X.prog X.w) X.A X.xe none (EP X pins σ Q) (.ref D) s3.heap.objs.size) { s3 with heap := pushCells (s3.heap.push { cls := .type "dict", data := .dict #[] }) scope.names }
  have nf : ∀ b ∈ fp, (upd H2 D (SetO X.w D (fun _ => false) 0)) b = none := fun b hb => (f3 b hb).1.1
  generalize ec : compEnvC scope (cellsFrom (s3.heap.objs.size + 1) scope.names (cloFrom X.env.cells scope.names [])) s3.heap.objs.size X.env = ce at I4 pg pt pe ⊢
  have lc : ce.locals = s3.heap.objs.size := by subst ec; rfl
  generalize eH : upd H2 D (SetO X.w D (fun _ => false) 0) = H3 at I3 I4 pg pt pe w0 nf f3
  generalize e4 : ({ s3 with heap := pushCells (s3.heap.push { cls := .type "dict", data := .dict #[] }) scope.names } : Shared) = s4 at I4 ⊢
  have z4 : tn 0 s4.heap := T.keep _ _ _ z3 fun b _ o e => by rw [← e4]; exact pushCells_keeps _ _ _ _ (Heap.get?_push_of_some _ e)
  have fpk : ∀ {σ' : L2.St} {H' : Hp} {s' : Shared}, Inv (X.blk s3 H3 scope ce fp) [] σ' H' s' → (∀ b ∈ fp, H' b = none) → ∀ b ∈ fp, FpOk (X.blk s3 H3 scope ce fp) [] H' b := fun {σ' H' s'} J' hn b hb =>
    ⟨hn b hb, (J'.ok.exf b hb).1, J'.ok.exfs b hb, .inl hb, fun x c e => (J'.ok.exf b hb).2 x c e, fun p hp => absurd (show p ∈ ([] : List (Addr × Obj)) ++ [] from hp) (by simp)⟩
  have loop : codeAny (model X.prog X.w) X.A (.compLoop (.SetComp elt [⟨tg, iter, ifs, 0⟩] scope pos) 0 (.ref it) (.ref D) ce) (compPost (model X.prog X.w) X.A X.xe none (EP X pins σ Q) (.ref D) s3.heap.objs.size) s4 := by
    refine PpSet.compLoopS_any (fun n s' => ∃ i H', Inv (X.blk s3 H3 scope ce fp) [] (wipe σ (own.map (·.2))) H' s' ∧ tn i s'.heap ∧ (∀ b ∈ fp, H' b = none) ∧ W i n H') ?_ m0 ⟨0, H3, I4, z4, nf, w0⟩
    rintro n s5 ⟨i, H5, I5, z5, n5, w5⟩
    rcases turn i n H5 w5 with ⟨stop, qq⟩ | ⟨go, Nx, hNx, step⟩
    · refine thnF (T.done (X.blk s3 H3 scope ce fp) rfl rfl rfl hc i [] s5 _ H5 (fun _ _ => False) I5 (fpk I5 n5) z5 stop) fun r s6 ⟨hr, I6⟩ => ?_
      subst hr
      have I7 : Inv X pins σ H5 s6 := I3.call' (ch := fp) I6.os I6.base I6.hok I6.bare fun b hb => ⟨(f3 b hb).1.2.2.2.1, (f3 b hb).1.2.1, (f3 b hb).1.2.2.2.2.1, (f3 b hb).1.2.2.2.2.2⟩
      have nC : H5 s3.heap.objs.size = none := by
        have z : H5 ce.locals = none := I6.free
        rwa [lc] at z
      obtain ⟨m, hn, _⟩ := I6.loc
      have hn : s6.heap.Ns ce.locals m := hn
      rw [lc] at hn
      obtain ⟨f0, f1, f2, f3, f4, f5⟩ := I3.fpOk (Nat.le_refl _) nC
      exact ⟨m, hn, fun h'' sb => ⟨.ref D, H5, I7.turned (t' := s6.toks) (fun b o hb e => (sb.2 b hb).trans e) f0 f1 f3 f4 f5, rfl, qq⟩⟩
    · refine thnF (T.item (X.blk s3 H3 scope ce fp) rfl rfl rfl hc i [] s5 _ H5 (fun _ _ => False) I5 (fpk I5 n5) z5 go) fun r s6 ⟨u, hr, h6⟩ => ?_
      subst hr
      refine thnF h6 fun _ s7 ⟨x, H7, I7, r7, y7, z7, n7⟩ => ?_
      refine thnF (pg.run _ s7 _ H7 x u _ (I7.pinned (fpk I7 n7) (T.obj _ _ z7)) r7 (step x H7 y7)) fun _ s8 ⟨σ8, H8, I8, hw8, q8⟩ => thnF (pt.run _ s8 σ8 H8 _ I8 q8) fun b s9 ⟨H9, I9, q9⟩ => ?_
      have fin : ∀ {s' : Shared} {H' : Hp}, Inv (X.blk s3 H3 scope ce fp) ([] ++ pinsAt fp s7.heap) σ8 H' s' → Nx H' → ∃ m, m < n ∧ ∃ i H', Inv (X.blk s3 H3 scope ce fp) [] (wipe σ (own.map (·.2))) H' s' ∧ tn i s'.heap ∧ (∀ b ∈ fp, H' b = none) ∧ W i m H' := by
        intro s' H' I' nx
        obtain ⟨m', hm, w'⟩ := hNx H' nx
        have pin : ∀ b ∈ fp, ∀ o, s7.heap.get? b = some o → s'.heap.get? b = some o ∧ H' b = none := fun b hb o e => let z := I'.pin (b, o) (List.mem_append_right _ (List.mem_append_right _ (mem_pinsAt hb e))); ⟨z.1, z.2.1⟩
        refine ⟨m', hm, i + 1, H', (I'.unpinned (pins := [])).weak (by rw [← hw8, wipe_length]) (fun j v e => ?_), T.keep _ _ _ z7 fun b hb o e => (pin b hb o e).1, fun b hb => ?_, w'⟩
        · rw [← hw8] at e; exact (wipe_some e).1
        · obtain ⟨o, e, _⟩ := T.obj _ _ z7 b hb; exact (pin b hb o e).2
      cases b with
      | false => exact fin I9 q9
      | true =>
        refine thnF (pe.run _ s9 σ8 H9 _ I9 q9) fun z s10 ⟨yv, H10, I10, r10, k, S0, n0, ey, hD10, hz10, nx⟩ => ?_
        subst ey
        refine thnF (mt_sadd (X := X.blk s3 H3 scope ce fp) _ s10 σ8 H10 (.ref D) [.int k] (.ref D) [z] (fun _ H' => Nx H') I10 rfl (.cons r10 .nil) ⟨D, k, S0, n0, rfl, rfl, hD10, hz10, nx⟩) fun _ s11 ⟨_, H11, I11, _, nx'⟩ => fin I11 nx'
  exact PpSet.codeAny_compStart_set loop (T.self X.A 0 _ _ _ z4 loop)
variable {J : It} {n : Nat} {G : Hp → Prop} {Y : Nat → Hp → V → Hp → Prop}
theorem ic_it (w : World) (wk : Walk J n G Y) {g : TG} {tt : TT} {te : TE} {vs : List Nat} {σ : L2.St} {H1 : Hp} {D : Addr} {Qd : Hp → Prop} (Pv : Nat → Hp → Prop) (h0 : Pv 0 (upd H1 D (SetO w D (fun _ => false) 0))) (hG : ∀ i H, i ≤ n → Pv i H → G H)
    (hs : ∀ i x H H', i < n → Pv i H → Y i H x H' → turnQ w g tt te vs σ D (Pv (i + 1)) x H') (hd : ∀ H, Pv n H → Qd H) :
    ∃ W : Nat → Nat → Hp → Prop, (∃ m, W 0 m (upd H1 D (SetO w D (fun _ => false) 0))) ∧ ∀ i m H, W i m H →
      (J.stop i H ∧ Qd H) ∨ (J.go i H ∧ ∃ Nx : Hp → Prop, (∀ H', Nx H' → ∃ m', m' < m ∧ W (i + 1) m' H') ∧ ∀ x H', J.yld i H x H' → turnQ w g tt te vs σ D Nx x H') := by
  refine ⟨fun i m H => m = n - i ∧ i ≤ n ∧ Pv i H, ⟨n, by simp, Nat.zero_le _, h0⟩, ?_⟩
  rintro i m H ⟨rfl, hi, p⟩
  have q := hG i H hi p
  by_cases hlt : i < n
  · exact .inr ⟨wk.goes i H hlt q, Pv (i + 1), fun H' p' => ⟨n - (i + 1), by omega, rfl, hlt, p'⟩, fun x H' y => hs i x H H' hlt p (wk.yields i H x H' hlt q y)⟩
  · obtain rfl : i = n := by omega
    exact .inl ⟨wk.stops H q, hd H p⟩
end
end W9

/-! W9j: the core language and its interpreter -/
namespace W9
open PySem L2

/-- ints, rising, each once -/
def insU (x : Int) : List Int → List Int
  | [] => [x]
  | y :: r => if x < y then x :: y :: r else if x = y then y :: r else y :: insU x r
def sortU : List Int → List Int
  | [] => []
  | x :: r => insU x (sortU r)
def ssetL (xs : List D) : M D := fun st => match intsOf xs with
  | some is => if is.length ≤ 4000 then .ok (.ob st.length) (st ++ [.lst ((sortU is).map D.int)]) else .no
  | none => .no
def valsD (x : D) : M D := fun st => match x with
  | .ob j => (match st[j]? with | some (.dct kvs) => .ok (.ob st.length) (st ++ [.lst (kvs.map (·.2))]) | _ => .no)
  | _ => .no
/-- things done with values, the arguments evaluated first: list(d.values()), sorted(set(l)) -/
inductive Prm where
  | vals | sset
  deriving DecidableEq
def primD : Prm → List D → M D
  | .vals, [x] => valsD x
  | .sset, [x] => fun st => (match itemsL st x with | some xs => ssetL xs st | none => .no)
  | _, _ => fun _ => .no
/-- targets: slots -/
inductive Tg where
  | name (i : Nat)
  | tup (is : List Nat)
  | nest (i : Nat) (is : List Nat)
mutual
inductive Ex where
  | var (i : Nat)
  | cst (d : D)
  | glob (x : Str)
  | tup (es : Exs)
  | lst (es : Exs)
  | dict0
  | dict (ks : List Str) (es : Exs)
  | bin (op : Operator) (a b : Ex)
  | neg (a : Ex)
  | cmp (op : CmpOp) (a b : Ex)
  | chain (o1 o2 : CmpOp) (a b c : Ex)
  | and (a b : Ex)
  | or (a b : Ex)
  | not (a : Ex)
  | ite (c a b : Ex)
  | idx (a i : Ex)
  | sl (a : Ex) (lo hi : Exo)
  | call (f : Str) (es : Exs)
  | call0 (f : Str)
  | callK (tag f : Str) (ks : List Str) (es kes : Exs)
  | bi (f : Bi) (es : Exs)
  | meth (m : Me) (o : Ex) (es : Exs)
  | lc (own : List Nat) (src : Src) (tg : Tg) (c : Exo) (e : Ex)
  | dc (own : List Nat) (src : Src) (tg : Tg) (c : Exo) (k v : Ex)
  | ssc (own : List Nat) (src : Src) (tg : Tg) (c : Exo) (e : Ex)
  | prim (p : Prm) (es : Exs)
  | fld (o : Ex) (f : Str)
  | mcall (tag m : Str) (ks : List Str) (o : Ex) (es kes : Exs)
  | make (tag c : Str) (ks : List Str) (es kes : Exs)
inductive Exs where
  | nil
  | cons (e : Ex) (es : Exs)
inductive Exo where
  | none
  | some (e : Ex)
inductive Src where
  | seq (e : Ex)
  | rng1 (a : Ex)
  | rng2 (a b : Ex)
  | enum (e : Ex)
  | zip (a b : Ex)
end
mutual
inductive Sm where
  | asg (i : Nat) (e : Ex)
  | asgT (is : List Nat) (e : Ex)
  | setIx (o i e : Ex)
  | aug (i : Nat) (op : Operator) (e : Ex)
  | expr (e : Ex)
  | ret (e : Ex)
  | retN
  | ite (c : Ex) (a b : Sms)
  | forS (src : Src) (tg : Tg) (body : Sms)
  | pass
  | brk
  | cont
  | never
  | setFld (o : Ex) (f : Str) (e : Ex)
  | augFld (o : Ex) (f : Str) (op : Operator) (e : Ex)
  | asgF (v : Nat) (fs : List Str) (e : Ex)
  | whil (n : Nat) (c : Ex) (b : Sms)
inductive Sms where
  | nil
  | cons (s : Sm) (r : Sms)
end

/-- the functions by name, the module's constants -/
structure Cts where
  fn : Str → List D → M D
  gl : Str → Option D
  mt : Str → Frm → List D → M D := fun _ _ _ _ => .no
  fl : Str → Str → Bool := fun _ _ => false

def binD : Operator → D → D → M D
  | .Add => addD
  | .Sub => subD
  | .Mult => mulD
  | .FloorDiv => divD
  | .Mod => modD
  | .Pow => powD
  | _ => fun _ _ _ => .no
def cmpD : CmpOp → D → D → M D
  | .Eq => eqD false
  | .NotEq => eqD true
  | .Lt => ltD
  | .LtE => leD
  | .Gt => gtD
  | .GtE => geD
  | .Is => isD false
  | .IsNot => isD true
  | .In => inD false
  | .NotIn => inD true
def negD : D → M D
  | .int i => fun st => .ok (.int (-i)) st
  | _ => fun _ => .no
def truthD : D → M Bool
  | .non => fun st => .ok false st
  | .bl b => fun st => .ok b st
  | .int i => fun st => .ok (i != 0) st
  | .str z => fun st => if z.length ≤ bigN then .ok ((z.length : Int) != 0) st else .no
  | .tup xs => fun st => .ok (!xs.isEmpty) st
  | x => fun st => match itemsL st x with | some xs => .ok (!xs.isEmpty) st | none => .no
def bindT : Tg → D → Env → Store → Option Env
  | .name i, d, env, _ => some (env.set i (some d))
  | .tup is, d, env, st => match d with
    | .tup xs => if xs.length = is.length then some ((is.zip xs).foldl (fun e p => e.set p.1 (some p.2)) env) else none
    | .ob j => match st[j]? with
      | some (.lst xs) => if xs.length = is.length then some ((is.zip xs).foldl (fun e p => e.set p.1 (some p.2)) env) else none
      | _ => none
    | _ => none
  | .nest i is, d, env, st => match d with
    | .tup [x, .tup xs] => if xs.length = is.length then some ((is.zip xs).foldl (fun e p => e.set p.1 (some p.2)) (env.set i (some x))) else none
    | _ => none
def wipeE (env : Env) : List Nat → Env
  | [] => env
  | v :: vs => (wipeE env vs).set v none
/-- the list that a loop goes over stands as it was -/
def gdOk (st : Store) : List (Nat × List D) → Bool
  | [] => true
  | (j, xs) :: r => decide (st[j]? = some (.lst xs)) && gdOk st r
theorem gd_one {st : Store} {j : Nat} {xs : List D} : gdOk st [(j, xs)] = true ↔ st[j]? = some (.lst xs) := by simp [gdOk]
theorem gd_two {st : Store} {j i : Nat} {xs ys : List D} : gdOk st [(j, xs), (i, ys)] = true ↔ st[j]? = some (.lst xs) ∧ st[i]? = some (.lst ys) := by simp [gdOk]
def loopC (gd : List (Nat × List D)) (f : D → M (Option D)) : List D → M (List D)
  | [] => fun st => if gdOk st gd = true then .ok [] st else .no
  | d :: r => fun st => if gdOk st gd = true then (match f d st with
    | .ok o st1 => match loopC gd f r st1 with
      | .ok l st2 => .ok (o.toList ++ l) st2
      | .ex x st2 => .ex x st2
      | .no => .no
    | .ex x st1 => .ex x st1
    | .no => .no) else .no
/-- what a source gives: its items, and which list must stand -/
def seqS (x : D) : M (List D × List (Nat × List D)) := fun st => match x with
  | .tup xs => .ok (xs, []) st
  | .fls xs => .ok (xs, []) st
  | .str z => .ok (z.cps.toList.map fun c => .str ⟨#[c]⟩, []) st
  | .ob j => match st[j]? with
    | some (.lst xs) => .ok (xs, [(j, xs)]) st
    | _ => .no
  | _ => .no
def rngI (lo hi : Int) : List D := (List.range (hi - lo).toNat).map fun i => .int (lo + (i : Nat))
def rngOk (i : Int) : Bool := decide (-(2 ^ 62) ≤ i) && decide (i < 2 ^ 62)
def pairs : Nat → List D → List D
  | _, [] => []
  | n, d :: r => .tup [.int (n : Nat), d] :: pairs (n + 1) r
def enumS (x : D) : M (List D × List (Nat × List D)) := fun st => match x with
  | .tup xs => .ok (pairs 0 xs, []) st
  | .fls xs => .ok (pairs 0 xs, []) st
  | .str z => .ok (pairs 0 (z.cps.toList.map fun c => .str ⟨#[c]⟩), []) st
  | .ob j => match st[j]? with
    | some (.lst xs) => .ok (pairs 0 xs, [(j, xs)]) st
    | _ => .no
  | _ => .no
def pairs2 : List D → List D → List D
  | x :: xs, y :: ys => .tup [x, y] :: pairs2 xs ys
  | _, _ => []
/-- zip of two tuples, of two lists -/
def zipS (x y : D) : M (List D × List (Nat × List D)) := fun st => match x, y with
  | .tup xs, .tup ys => .ok (pairs2 xs ys, []) st
  | .ob j, .ob i => match st[j]?, st[i]? with
    | some (.lst xs), some (.lst ys) => .ok (pairs2 xs ys, [(j, xs), (i, ys)]) st
    | _, _ => .no
  | _, _ => .no
/-! instances -/
def insD (st : Store) : D → Option (Str × List (Str × D))
  | .ob j => match st[j]? with | some (.ins c fs) => some (c, fs) | _ => none
  | _ => none
def fldD (fl : Str → Str → Bool) (f : Str) (x : D) : M D := fun st => match insD st x with
  | some (c, fs) => if fl c f = true then (match fs.lookup f with | some d => .ok d st | none => .no) else .no
  | none => .no
def setFldD (fl : Str → Str → Bool) (f : Str) (x d : D) : M Unit := fun st => match x with
  | .ob j => match st[j]? with
    | some (.ins c fs) => if fl c f = true ∧ fs.length < 900 then .ok () (st.set j (.ins c (putFd f d fs))) else .no
    | _ => .no
  | _ => .no
/-- the object is one of the class yet -/
def sameC (c : Str) (x : D) : M Unit := fun st => match insD st x with
  | some (c2, _) => if c2 = c then .ok () st else .no
  | none => .no
def setFlds (fl : Str → Str → Bool) (x : D) : List Str → List D → M Unit
  | [], [] => fun st => .ok () st
  | f :: fs, d :: ds => M.bind (setFldD fl f x d) fun _ => setFlds fl x fs ds
  | _, _ => fun _ => .no
/-- a new instance, filled by g -/
def mkD (c : Str) (g : List D → M D) (ds : List D) : M D := fun st => match g (.ob st.length :: ds) (st ++ [.ins c []]) with
  | .ok .non st1 => .ok (.ob st.length) st1
  | _ => .no
/-- how a statement ends -/
inductive Fl where
  | nx (env : Env)
  | ret (d : D)
  | bk (env : Env)
  | ct (env : Env)
/-- a comprehension's turn -/
def compF (t : Tg) (own : List Nat) (env : Env) (mt : Env → M Bool) (me : Env → M D) : D → M (Option D) := fun d st => match bindT t d (wipeE env own) st with
  | some env1 => match mt env1 st with
    | .ok true st1 => (match me env1 st1 with | .ok d st2 => .ok (some d) st2 | .ex x st2 => .ex x st2 | .no => .no)
    | .ok false st1 => .ok none st1
    | .ex x st1 => .ex x st1
    | .no => .no
  | none => .no
/-- a for's turn -/
def forF (t : Tg) (mb : Env → M Fl) : D → Env → M Fl := fun d e st => match bindT t d e st with
  | some e1 => mb e1 st
  | none => .no
abbrev EvM := (Env → M D) × (Env → M Bool)
/-- a value whose test is its truth -/
@[reducible] def plain (v : Env → M D) : EvM := (v, fun env => M.bind (v env) fun x => truthD x)
/-- a value that is a truth -/
@[reducible] def boolE (v : Env → M D) : EvM := (v, fun env => M.bind (v env) fun x => match x with | .bl b => fun st => .ok b st | _ => fun _ => .no)
def pairM (mk mv : Env → M D) : Env → M D := fun env => M.bind (mk env) fun k => M.bind (mv env) fun v st => .ok (.tup [k, v]) st
/-- a dict of pairs -/
def dctOf : List D → List (D × D) → Option (List (D × D))
  | [], acc => some acc
  | d :: r, acc => match d with
    | .tup [k, v] => if (keyD k).isSome = true then dctOf r (putKv acc k v) else none
    | _ => none
def dctR (ds : List D) : M D := fun st => if ds.length ≤ bigN then (match dctOf ds [] with | some kvs => .ok (.ob st.length) (st ++ [.dct kvs]) | none => .no) else .no
mutual
def bo (C : Cts) : Ex → EvM
  | .var i => plain fun env st => match env[i]? with | some (some d) => .ok d st | _ => .no
  | .cst d => plain fun _ st => .ok d st
  | .glob x => plain fun _ st => match C.gl x with | some d => .ok d st | none => .no
  | .tup es => plain fun env => M.bind (evs C es env) fun ds st => if ds.length ≤ bigN then .ok (.tup ds) st else .no
  | .lst es => plain fun env => M.bind (evs C es env) fun ds st => if ds.length ≤ bigN then .ok (.ob st.length) (st ++ [.lst ds]) else .no
  | .dict0 => plain fun _ st => .ok (.ob st.length) (st ++ [.dct []])
  | .dict ks es => plain fun env => M.bind (evs C es env) fun ds st => if ks.length = ds.length ∧ ks.length ≤ 15 then .ok (.ob st.length) (st ++ [.dct ((ks.map D.str).zip ds)]) else .no
  | .bin op a b => plain fun env => M.bind ((bo C a).1 env) fun x => M.bind ((bo C b).1 env) fun y => binD op x y
  | .neg a => plain fun env => M.bind ((bo C a).1 env) fun x => negD x
  | .cmp op a b => boolE fun env => M.bind ((bo C a).1 env) fun x => M.bind ((bo C b).1 env) fun y => cmpD op x y
  | .chain o1 o2 a b c => boolE fun env => M.bind ((bo C a).1 env) fun x => M.bind ((bo C b).1 env) fun y => M.bind (cmpD o1 x y) fun r => match r with
    | .bl true => M.bind ((bo C c).1 env) fun z => cmpD o2 y z
    | .bl false => fun st => .ok (.bl false) st
    | _ => fun _ => .no
  | .and a b => (fun env => M.bind ((bo C a).1 env) fun x => match x with
      | .bl true => (bo C b).1 env
      | .bl false => fun st => .ok (.bl false) st
      | _ => fun _ => .no,
    fun env => M.bind ((bo C a).2 env) fun r => if r = true then (bo C b).2 env else fun st => .ok false st)
  | .or a b => (fun env => M.bind ((bo C a).1 env) fun x => match x with
      | .bl false => (bo C b).1 env
      | .bl true => fun st => .ok (.bl true) st
      | _ => fun _ => .no,
    fun env => M.bind ((bo C a).2 env) fun r => if r = true then fun st => .ok true st else (bo C b).2 env)
  | .not a => (fun env => M.bind ((bo C a).1 env) fun x => match x with
      | .bl b => fun st => .ok (.bl (!b)) st
      | _ => fun _ => .no,
    fun env => M.bind ((bo C a).2 env) fun r st => .ok (!r) st)
  | .ite c a b => (fun env => M.bind ((bo C c).2 env) fun r => if r = true then (bo C a).1 env else (bo C b).1 env,
    fun env => M.bind ((bo C c).2 env) fun r => if r = true then (bo C a).2 env else (bo C b).2 env)
  | .idx a i => plain fun env => M.bind ((bo C a).1 env) fun x => M.bind ((bo C i).1 env) fun y => ixD x y
  | .sl a lo hi => plain fun env => M.bind ((bo C a).1 env) fun x => M.bind (evo C lo env) fun l => M.bind (evo C hi env) fun h => slD x l h
  | .call f es => plain fun env => M.bind (evs C es env) fun ds => C.fn f ds
  | .call0 f => plain fun _ => C.fn f []
  | .callK tag _ _ es kes => plain fun env => M.bind (evs C es env) fun ds => M.bind (evs C kes env) fun zs => C.fn tag (ds ++ zs)
  | .bi f es => plain fun env => M.bind (evs C es env) fun ds => biD f ds
  | .meth m o es => plain fun env => M.bind ((bo C o).1 env) fun x st => match tyD st x with
    | some T => M.bind (evs C es env) (fun ds => meD m T x ds) st
    | none => .no
  | .fld o f => plain fun env => M.bind ((bo C o).1 env) fun x => fldD C.fl f x
  | .mcall tag m ks o es kes => plain fun env => M.bind ((bo C o).1 env) fun x st => match insD st x with
    | some (c, fs) => if (fs.lookup m).isNone = true then M.bind (evs C es env) (fun ds => M.bind (evs C kes env) fun zs => C.mt (c ++ tag) ⟨m, ks, ds.length + zs.length + 1, some c⟩ (x :: (ds ++ zs))) st else .no
    | none => .no
  | .make tag c ks es kes => plain fun env => M.bind (evs C es env) fun ds => M.bind (evs C kes env) fun zs => mkD c (C.mt (c ++ tag) ⟨"__init__", ks, ds.length + zs.length + 1, some c⟩) (ds ++ zs)
  | .lc own src tg c e => plain fun env => M.bind (srcE C src env) fun p => M.bind (loopC p.2 (compF tg own env (tsto C c) (bo C e).1) p.1) fun ds st => if ds.length ≤ bigN then .ok (.ob st.length) (st ++ [.lst ds]) else .no
  | .dc own src tg c k v => plain fun env => M.bind (srcE C src env) fun p => M.bind (loopC p.2 (compF tg own env (tsto C c) (pairM (bo C k).1 (bo C v).1)) p.1) dctR
  | .ssc own src tg c e => plain fun env => M.bind (srcE C src env) fun p => M.bind (loopC p.2 (compF tg own env (tsto C c) (bo C e).1) p.1) ssetL
  | .prim p es => plain fun env => M.bind (evs C es env) fun ds => primD p ds
def evs (C : Cts) : Exs → Env → M (List D)
  | .nil => fun _ st => .ok [] st
  | .cons e es => fun env => M.bind ((bo C e).1 env) fun d => M.bind (evs C es env) fun ds st => .ok (d :: ds) st
def evo (C : Cts) : Exo → Env → M (Option Int)
  | .none => fun _ st => .ok none st
  | .some e => fun env => M.bind ((bo C e).1 env) fun d => match d with | .int i => fun st => .ok (some i) st | _ => fun _ => .no
def tsto (C : Cts) : Exo → Env → M Bool
  | .none => fun _ st => .ok true st
  | .some e => (bo C e).2
def srcE (C : Cts) : Src → Env → M (List D × List (Nat × List D))
  | .seq e => fun env => M.bind ((bo C e).1 env) fun x => seqS x
  | .rng1 a => fun env => M.bind ((bo C a).1 env) fun x => match x with
    | .int n => fun st => if rngOk n = true then .ok (rngI 0 n, []) st else .no
    | _ => fun _ => .no
  | .rng2 a b => fun env => M.bind ((bo C a).1 env) fun x => M.bind ((bo C b).1 env) fun y => match x, y with
    | .int l, .int h => fun st => if rngOk l = true ∧ rngOk h = true then .ok (rngI l h, []) st else .no
    | _, _ => fun _ => .no
  | .enum e => fun env => M.bind ((bo C e).1 env) fun x => enumS x
  | .zip a b => fun env => M.bind ((bo C a).1 env) fun x => M.bind ((bo C b).1 env) fun y => zipS x y
end
abbrev ev (C : Cts) (e : Ex) : Env → M D := (bo C e).1
abbrev tst (C : Cts) (e : Ex) : Env → M Bool := (bo C e).2
def setD (o i d : D) : M Unit := fun st => match o with
  | .ob j => match st[j]? with
    | some (.lst xs) => match i with
      | .int k => match ixN xs.length k with
        | some n => .ok () (st.set j (.lst (xs.set n d)))
        | none => .no
      | _ => .no
    | some (.dct kvs) => if kindOk kvs i = true ∧ kvs.length < bigN then .ok () (st.set j (.dct (putKv kvs i d))) else .no
    | _ => .no
  | _ => .no
def augD : Operator → D → D → M D
  | .Add, .int i, .int j => fun st => .ok (.int (i + j)) st
  | .Sub, .int i, .int j => fun st => .ok (.int (i - j)) st
  | _, _, _ => fun _ => .no
/-- the turns of a for -/
def loopF (gd : List (Nat × List D)) (f : D → Env → M Fl) : List D → Env → M Fl
  | [] => fun env st => if gdOk st gd = true then .ok (.nx env) st else .no
  | d :: r => fun env st => if gdOk st gd = true then (match f d env st with
    | .ok (.nx e1) st1 => loopF gd f r e1 st1
    | .ok (.ct e1) st1 => loopF gd f r e1 st1
    | .ok (.bk e1) st1 => .ok (.nx e1) st1
    | .ok (.ret v) st1 => .ok (.ret v) st1
    | .ex x st1 => .ex x st1
    | .no => .no) else .no
/-- the turns of a while -/
def loopW (c : Env → M Bool) (b : Env → M Fl) : Nat → Env → M Fl
  | 0 => fun _ _ => .no
  | n + 1 => fun env => M.bind (c env) fun r => if r = true then M.bind (b env) (fun fl => match fl with
    | .nx e1 => loopW c b n e1
    | .ct e1 => loopW c b n e1
    | .bk e1 => fun st => .ok (.nx e1) st
    | .ret v => fun st => .ok (.ret v) st) else fun st => .ok (.nx env) st
mutual
def run (C : Cts) : Sm → Env → M Fl
  | .asg i e => fun env => M.bind (ev C e env) fun d st => .ok (.nx (env.set i (some d))) st
  | .asgT is e => fun env => M.bind (ev C e env) fun d st => match bindT (.tup is) d env st with | some env1 => .ok (.nx env1) st | none => .no
  | .setIx o i e => fun env => M.bind (ev C e env) fun d => M.bind (ev C o env) fun x => M.bind (ev C i env) fun y => M.bind (setD x y d) fun _ st => .ok (.nx env) st
  | .aug i op e => fun env st => match env[i]? with
    | some (some x) => M.bind (ev C e env) (fun y => M.bind (augD op x y) fun z st => .ok (.nx (env.set i (some z))) st) st
    | _ => .no
  | .expr e => fun env => M.bind (ev C e env) fun _ st => .ok (.nx env) st
  | .ret e => fun env => M.bind (ev C e env) fun d st => .ok (.ret d) st
  | .retN => fun _ st => .ok (.ret .non) st
  | .ite c a b => fun env => M.bind (tst C c env) fun r => if r = true then runs C a env else runs C b env
  | .forS src tg body => fun env => M.bind (srcE C src env) fun p => loopF p.2 (forF tg (runs C body)) p.1 env
  | .pass => fun env st => .ok (.nx env) st
  | .brk => fun env st => .ok (.bk env) st
  | .cont => fun env st => .ok (.ct env) st
  | .never => fun _ _ => .no
  | .setFld o f e => fun env => M.bind (ev C e env) fun d => M.bind (ev C o env) fun x => M.bind (setFldD C.fl f x d) fun _ st => .ok (.nx env) st
  | .augFld o f op e => fun env => M.bind (ev C o env) fun x st => match insD st x with
    | some (c, _) => M.bind (fldD C.fl f x) (fun v => M.bind (ev C e env) fun y => M.bind (augD op v y) fun z => M.bind (sameC c x) fun _ => M.bind (setFldD C.fl f x z) fun _ st => .ok (.nx env) st) st
    | none => .no
  | .asgF v fs e => fun env => M.bind (ev C e env) fun d st => match env[v]?, d with
    | some (some x), .tup ds => M.bind (setFlds C.fl x fs ds) (fun _ st => .ok (.nx env) st) st
    | _, _ => .no
  | .whil n c b => fun env => loopW (tst C c) (runs C b) n env
def runs (C : Cts) : Sms → Env → M Fl
  | .nil => fun env st => .ok (.nx env) st
  | .cons s r => fun env => M.bind (run C s env) fun fl => match fl with
    | .nx e1 => runs C r e1
    | .ret d => fun st => .ok (.ret d) st
    | .bk e1 => fun st => .ok (.bk e1) st
    | .ct e1 => fun st => .ok (.ct e1) st
end
/-- a def: how many names, its body -/
def callDef (C : Cts) (nN : Nat) (body : Sms) : List D → M D := fun ds => M.bind (runs C body (ds.map some ++ List.replicate (nN - ds.length) none)) fun fl => match fl with
  | .ret d => fun st => .ok d st
  | .nx _ => fun st => .ok .non st
  | _ => fun _ => .no
end W9

/-! W9k: one construct after another: what the interpreter tells is what runs -/
namespace W9
open PySem L2
theorem bind_ok {α β : Type} {m : M α} {f : α → M β} {st st2 : Store} {b : β} (h : M.bind m f st = .ok b st2) : ∃ a st1, m st = .ok a st1 ∧ f a st1 = .ok b st2 := by
  unfold M.bind at h
  split at h
  · rename_i a st1 e; exact ⟨a, st1, e, h⟩
  · cases h
  · cases h
section
variable {X : Cx}
/-! ### the widest rule of an operation -/
theorem opr_max {f : Value → Value → Sem Value} : OpR X f (fun x y H Q => ∃ r, OpR X f r ∧ r x y H Q) := by
  intro pins s σ H x y v u Q I rx ry h
  obtain ⟨r, h1, h2⟩ := h
  exact h1 pins s σ H x y v u Q I rx ry h2
theorem callr_max {f : Value} : CallR X f (fun xs H Q => ∃ r, CallR X f r ∧ r xs H Q) := by
  intro pins s σ H xs us Q I rs h
  obtain ⟨r, h1, h2⟩ := h
  exact h1 pins s σ H xs us Q I rs h2
theorem mtr_max {id : String} : MtR X id (fun x xs H Q => ∃ r, MtR X id r ∧ r x xs H Q) := by
  intro pins s σ H x xs v us Q I rx rs h
  obtain ⟨r, h1, h2⟩ := h
  exact h1 pins s σ H x xs v us Q I rx rs h2
theorem ixr_max : IxR X (fun x y H Q => ∃ r, IxR X r ∧ r x y H Q) := by
  intro value slice pins s σ H x y v u Q I rx ry h hs
  obtain ⟨r, h1, h2⟩ := h
  exact h1 value slice pins s σ H x y v u Q I rx ry h2 hs
theorem slr_max : SlR X (fun x lo hi H Q => ∃ r, SlR X r ∧ r x lo hi H Q) := by
  intro pins s σ H x v vl vu lo hi sl Q I rx hs pl pu h
  obtain ⟨r, h1, h2⟩ := h
  exact h1 pins s σ H x v vl vu lo hi sl Q I rx hs pl pu h2

/-! ### expressions -/
variable {a b c : Expr} {ma mb mc : Env → M D} {pos : Pos}
theorem snd_two (ha : SndE X a ma) (hb : SndE X b mb) {ρ : List Addr} {st st1 st2 : Store} {env : Env} {σ : L2.St} {H : Hp} {x y : D} (S : Sim X.K ρ st H) (R : EnvR X.K ρ H env σ) (e1 : ma env st = .ok x st1) (e2 : mb env st1 = .ok y st2)
    {Q : V → V → Hp → Prop} (h : ∀ ρ' H' v w, Grow ρ H ρ' H' → Sim X.K ρ' st2 H' → Rep X.K ρ' H' x v → Rep X.K ρ' H' y w → Q v w H') : WE X a σ H fun v H1 => WE X b σ H1 fun w H2 => Q v w H2 :=
  ha ρ st env σ H x st1 S R e1 _ fun ρ1 H1 v g1 S1 r1 => hb ρ1 st1 env σ H1 y st2 S1 (R.grow g1) e2 _ fun ρ2 H2 w g2 S2 r2 => h ρ2 H2 v w (g1.trans g2) S2 (r1.grow g2) r2
theorem snd_bin {op : Operator} {g : D → D → M D} (ho : OkOp X (binaryOp op) g) (ha : SndE X a ma) (hb : SndE X b mb) : SndE X (.BinOp a op b pos) (fun env => M.bind (ma env) fun x => M.bind (mb env) fun y => g x y) := by
  intro ρ st env σ H d st' S R e Q P
  obtain ⟨x, st1, e1, e⟩ := bind_ok e
  obtain ⟨y, st2, e2, e3⟩ := bind_ok e
  refine we_of (pe_op opr_max pe_we pe_we) (snd_two ha hb S R e1 e2 fun ρ' H' v w g' S' r1 r2 => ?_)
  obtain ⟨r, h1, h2⟩ := ho ρ' st2 H' x y v w d st' S' r1 r2 e3
  exact ⟨r, h1, h2 Q (P.grow g')⟩
theorem snd_cmp {op : CmpOp} {g : D → D → M D} (ho : OkOp X (compareOp op) g) (hm : behindInMarks op b = false) (ha : SndE X a ma) (hb : SndE X b mb) : SndE X (.Compare a [op] [b] pos) (fun env => M.bind (ma env) fun x => M.bind (mb env) fun y => g x y) := by
  intro ρ st env σ H d st' S R e Q P
  obtain ⟨x, st1, e1, e⟩ := bind_ok e
  obtain ⟨y, st2, e2, e3⟩ := bind_ok e
  refine we_of (pe_cmpR opr_max pe_we pe_we hm) (snd_two ha hb S R e1 e2 fun ρ' H' v w g' S' r1 r2 => ?_)
  obtain ⟨r, h1, h2⟩ := ho ρ' st2 H' x y v w d st' S' r1 r2 e3
  exact ⟨r, h1, h2 Q (P.grow g')⟩
theorem rep_bl {K : PySem.W.Frag} {ρ : List Addr} {H : Hp} {b : Bool} {v : V} (r : Rep K ρ H (.bl b) v) : v = .bl b := by cases r; rfl
theorem rep_int {K : PySem.W.Frag} {ρ : List Addr} {H : Hp} {b : Int} {v : V} (r : Rep K ρ H (.int b) v) : v = .int b := by cases r; rfl
theorem rep_str {K : PySem.W.Frag} {ρ : List Addr} {H : Hp} {b : Str} {v : V} (r : Rep K ρ H (.str b) v) : v = .str b := by cases r; rfl
/-- a comparison as a test -/
theorem sndT_cmp {op : CmpOp} {g : D → D → M D} (ho : OkOp X (compareOp op) g) (hm : behindInMarks op b = false) (ha : SndE X a ma) (hb : SndE X b mb) :
    SndT X (.Compare a [op] [b] pos) (fun env => M.bind (M.bind (ma env) fun x => M.bind (mb env) fun y => g x y) fun x => match x with | .bl b => fun st => .ok b st | _ => fun _ => .no) := by
  intro ρ st env σ H k st' S R e Q P
  obtain ⟨z, st3, e, e4⟩ := bind_ok e
  obtain ⟨x, st1, e1, e⟩ := bind_ok e
  obtain ⟨y, st2, e2, e3⟩ := bind_ok e
  cases z with
  | bl k' =>
    cases e4
    refine wt_of (pt_cmpR opr_max pe_we pe_we hm) (snd_two ha hb S R e1 e2 fun ρ' H' v w g' S' r1 r2 => ?_)
    obtain ⟨r, h1, h2⟩ := ho ρ' st2 H' x y v w _ _ S' r1 r2 e3
    exact ⟨r, h1, h2 _ fun ρ2 H2 u g2 S2 ru => ⟨k, rep_bl ru, P ρ2 H2 (g'.trans g2) S2⟩⟩
  | _ => cases e4
theorem snd_three (ha : SndE X a ma) (hb : SndE X b mb) {o1 : CmpOp} {g1 : D → D → M D} (ho : OkOp X (compareOp o1) g1) {ρ : List Addr} {st st1 st2 st3 : Store} {env : Env} {σ : L2.St} {H : Hp} {x y : D} {k : Bool} (S : Sim X.K ρ st H) (R : EnvR X.K ρ H env σ)
    (e1 : ma env st = .ok x st1) (e2 : mb env st1 = .ok y st2) (e3 : g1 x y st2 = .ok (.bl k) st3) {Q : V → V → V → Hp → Prop}
    (h : ∀ ρ' H' w, Grow ρ H ρ' H' → Sim X.K ρ' st3 H' → Rep X.K ρ' H' y w → ∀ v, Q v w (.bl k) H') :
    WE X a σ H fun v H1 => WE X b σ H1 fun w H2 => ∃ r, OpR X (compareOp o1) r ∧ r v w H2 fun z H3 => Q v w z H3 :=
  snd_two ha hb S R e1 e2 fun ρ' H' v w g' S' r1 r2 => by
    obtain ⟨r, h1, h2⟩ := ho ρ' st2 H' x y v w _ st3 S' r1 r2 e3
    refine ⟨r, h1, h2 _ fun ρ2 H2 u g2 S2 ru => ?_⟩
    cases ru
    exact h ρ2 H2 w (g'.trans g2) S2 (r2.grow g2) v
theorem chain_run {o1 o2 : CmpOp} {g1 g2 : D → D → M D} (ho : OkOp X (compareOp o1) g1) (ho2 : OkOp X (compareOp o2) g2) (ha : SndE X a ma) (hb : SndE X b mb) (hc : SndE X c mc) {ρ : List Addr} {st st' : Store} {env : Env} {σ : L2.St} {H : Hp} {d : D} (S : Sim X.K ρ st H) (R : EnvR X.K ρ H env σ)
    (e : (M.bind (ma env) fun x => M.bind (mb env) fun y => M.bind (g1 x y) fun r => match r with
    | .bl true => M.bind (mc env) fun z => g2 y z
    | .bl false => fun st => .ok (.bl false) st
    | _ => fun _ => .no) st = .ok d st') {Q : VK} (P : Post X.K ρ H st' d Q) :
    tChain (fun x y H Q => ∃ r, OpR X (compareOp o1) r ∧ r x y H Q) (fun x y H Q => ∃ r, OpR X (compareOp o2) r ∧ r x y H Q) (WE X a) (WE X b) (WE X c) σ H Q := by
  obtain ⟨x, st1, e1, e⟩ := bind_ok e
  obtain ⟨y, st2, e2, e⟩ := bind_ok e
  obtain ⟨z, st3, e3, e⟩ := bind_ok e
  cases z with
  | bl k =>
    refine snd_three ha hb ho S R e1 e2 e3 fun ρ' H' w g' S' rw' v => ⟨k, rfl, ?_⟩
    cases k with
    | true =>
      rw [if_pos rfl]
      obtain ⟨u, st4, e4, e5⟩ := bind_ok e
      refine hc ρ' st3 env σ H' u st4 S' (R.grow g') e4 _ fun ρ2 H2 t g2' S2 r2 => ?_
      obtain ⟨r, h1, h2⟩ := ho2 ρ2 st4 H2 y u w t d st' S2 (rw'.grow g2') r2 e5
      exact ⟨r, h1, h2 Q (P.grow (g'.trans g2'))⟩
    | false =>
      rw [if_neg (by decide)]
      cases e
      exact P ρ' H' _ g' S' (.bl false)
  | _ => cases e
theorem snd_chain {o1 o2 : CmpOp} {g1 g2 : D → D → M D} (ho : OkOp X (compareOp o1) g1) (ho2 : OkOp X (compareOp o2) g2) (hm2 : lastMarks [o1, o2] [b, c] = false) (ha : SndE X a ma) (hb : SndE X b mb) (hc : SndE X c mc) :
    SndE X (.Compare a [o1, o2] [b, c] pos) (fun env => M.bind (ma env) fun x => M.bind (mb env) fun y => M.bind (g1 x y) fun r => match r with
    | .bl true => M.bind (mc env) fun z => g2 y z
    | .bl false => fun st => .ok (.bl false) st
    | _ => fun _ => .no) := fun ρ st env σ H d st' S R e Q P => we_of (pe_chain opr_max opr_max pe_we pe_we pe_we hm2) (chain_run ho ho2 ha hb hc S R e P)
theorem sndT_chain {o1 o2 : CmpOp} {g1 g2 : D → D → M D} (ho : OkOp X (compareOp o1) g1) (ho2 : OkOp X (compareOp o2) g2) (hm2 : lastMarks [o1, o2] [b, c] = false) (ha : SndE X a ma) (hb : SndE X b mb) (hc : SndE X c mc) :
    SndT X (.Compare a [o1, o2] [b, c] pos) (fun env => M.bind (M.bind (ma env) fun x => M.bind (mb env) fun y => M.bind (g1 x y) fun r => match r with
    | .bl true => M.bind (mc env) fun z => g2 y z
    | .bl false => fun st => .ok (.bl false) st
    | _ => fun _ => .no) fun x => match x with | .bl b => fun st => .ok b st | _ => fun _ => .no) := by
  intro ρ st env σ H k st' S R e Q P
  obtain ⟨z, st3, e, e4⟩ := bind_ok e
  cases z with
  | bl k' =>
    cases e4
    exact wt_of (pt_chain opr_max opr_max pe_we pe_we pe_we hm2) (chain_run ho ho2 ha hb hc S R e fun ρ2 H2 u g2 S2 ru => ⟨k, rep_bl ru, P ρ2 H2 g2 S2⟩)
  | _ => cases e4
/-! and, or, not -/
def WTw (X : Cx) (e : Expr) (σ : L2.St) (H : Hp) (Q : Bool → Hp → Prop) : Prop := ∀ (whole : Sem Value) (pins : List (Addr × Obj)) (s : Shared), Inv X pins σ H s → wpAny (model X.prog X.w) X.A (isTrue e X.env whole) (TP X pins σ Q) X.xe s
theorem pw_wt {e : Expr} : PW X e (WTw X e) := ⟨fun whole pins s σ H Q I h => h whole pins s I⟩
theorem wtw_of {e : Expr} {t : TT} {σ : L2.St} {H : Hp} {Q : Bool → Hp → Prop} (p : PW X e t) (h : t σ H Q) : WTw X e σ H Q := fun whole pins s I => p.run whole pins s σ H Q I h
def SndW (X : Cx) (e : Expr) (m : Env → M Bool) : Prop := ∀ ρ st env σ H b st', Sim X.K ρ st H → EnvR X.K ρ H env σ → m env st = .ok b st' → ∀ Q, PostB X.K ρ H st' b Q → WTw X e σ H Q
theorem SndW.t {e : Expr} {m : Env → M Bool} (h : SndW X e m) : SndT X e m := fun ρ st env σ H b st' S R e Q P pins s I => h ρ st env σ H b st' S R e Q P _ pins s I
variable {ta tb : Env → M Bool} {rest : List Expr}
theorem PostB.grow {K : PySem.W.Frag} {ρ ρ1 : List Addr} {H H1 : Hp} {st : Store} {b : Bool} {Q : Bool → Hp → Prop} (p : PostB K ρ H st b Q) (g : Grow ρ H ρ1 H1) : PostB K ρ1 H1 st b Q := fun ρ' H' g' S => p ρ' H' (g.trans g') S
theorem sndW_one_and (h : SndT X a ta) : SndW X (.BoolOp .And [a] pos) ta := fun ρ st env σ H k st' S R e Q P => wtw_of (pw_and1 pt_wt) (h ρ st env σ H k st' S R e Q P)
theorem sndW_one_or (h : SndT X a ta) : SndW X (.BoolOp .Or [a] pos) ta := fun ρ st env σ H k st' S R e Q P => wtw_of (pw_or1 pt_wt) (h ρ st env σ H k st' S R e Q P)
theorem sndW_and (ha : SndT X a ta) (hb : SndW X (.BoolOp .And (b :: rest) pos) tb) : SndW X (.BoolOp .And (a :: b :: rest) pos) (fun env => M.bind (ta env) fun r => if r = true then tb env else fun st => .ok false st) := by
  intro ρ st env σ H k st' S R e Q P
  obtain ⟨r, st1, e1, e2⟩ := bind_ok e
  refine wtw_of (pw_and pt_wt pw_wt) (ha ρ st env σ H r st1 S R e1 _ fun ρ1 H1 g1 S1 => ?_)
  cases r with
  | true => rw [if_pos rfl] at e2 ⊢; exact hb ρ1 st1 env σ H1 k st' S1 (R.grow g1) e2 Q (P.grow g1)
  | false => rw [if_neg (by decide)] at e2 ⊢; cases e2; exact P ρ1 H1 g1 S1
theorem sndW_or (ha : SndT X a ta) (hb : SndW X (.BoolOp .Or (b :: rest) pos) tb) : SndW X (.BoolOp .Or (a :: b :: rest) pos) (fun env => M.bind (ta env) fun r => if r = true then fun st => .ok true st else tb env) := by
  intro ρ st env σ H k st' S R e Q P
  obtain ⟨r, st1, e1, e2⟩ := bind_ok e
  refine wtw_of (pw_or pt_wt pw_wt) (ha ρ st env σ H r st1 S R e1 _ fun ρ1 H1 g1 S1 => ?_)
  cases r with
  | true => rw [if_pos rfl] at e2 ⊢; cases e2; exact P ρ1 H1 g1 S1
  | false => rw [if_neg (by decide)] at e2 ⊢; exact hb ρ1 st1 env σ H1 k st' S1 (R.grow g1) e2 Q (P.grow g1)
theorem sndT_not (ha : SndT X a ta) : SndT X (.UnaryOp .Not a pos) (fun env => M.bind (ta env) fun r st => .ok (!r) st) := by
  intro ρ st env σ H k st' S R e Q P
  obtain ⟨r, st1, e1, e2⟩ := bind_ok e
  cases e2
  exact wt_of (pt_not pt_wt) (ha ρ st env σ H r _ S R e1 _ fun ρ1 H1 g1 S1 => P ρ1 H1 g1 S1)
theorem snd_one {op : BoolOp} (h : SndE X a ma) : SndE X (.BoolOp op [a] pos) ma := fun ρ st env σ H d st' S R e Q P => we_of (pe_one pe_we) (h ρ st env σ H d st' S R e Q P)
theorem snd_and (ha : SndE X a ma) (hb : SndE X (.BoolOp .And (b :: rest) pos) mb) : SndE X (.BoolOp .And (a :: b :: rest) pos) (fun env => M.bind (ma env) fun x => match x with
      | .bl true => mb env
      | .bl false => fun st => .ok (.bl false) st
      | _ => fun _ => .no) := by
  intro ρ st env σ H d st' S R e Q P
  obtain ⟨x, st1, e1, e2⟩ := bind_ok e
  cases x with
  | bl k =>
    refine we_of (pe_and pe_we pe_we) (ha ρ st env σ H _ st1 S R e1 _ fun ρ1 H1 v g1 S1 r1 => ⟨k, rep_bl r1, ?_⟩)
    cases k with
    | true => rw [if_pos rfl]; exact hb ρ1 st1 env σ H1 d st' S1 (R.grow g1) e2 Q (P.grow g1)
    | false => rw [if_neg (by decide)]; cases e2; exact P ρ1 H1 _ g1 S1 (.bl false)
  | _ => cases e2
theorem snd_or (ha : SndE X a ma) (hb : SndE X (.BoolOp .Or (b :: rest) pos) mb) : SndE X (.BoolOp .Or (a :: b :: rest) pos) (fun env => M.bind (ma env) fun x => match x with
      | .bl false => mb env
      | .bl true => fun st => .ok (.bl true) st
      | _ => fun _ => .no) := by
  intro ρ st env σ H d st' S R e Q P
  obtain ⟨x, st1, e1, e2⟩ := bind_ok e
  cases x with
  | bl k =>
    refine we_of (pe_or pe_we pe_we) (ha ρ st env σ H _ st1 S R e1 _ fun ρ1 H1 v g1 S1 r1 => ⟨k, rep_bl r1, ?_⟩)
    cases k with
    | false => rw [if_neg (by decide)]; exact hb ρ1 st1 env σ H1 d st' S1 (R.grow g1) e2 Q (P.grow g1)
    | true => rw [if_pos rfl]; cases e2; exact P ρ1 H1 _ g1 S1 (.bl true)
  | _ => cases e2
theorem snd_not (ha : SndE X a ma) : SndE X (.UnaryOp .Not a pos) (fun env => M.bind (ma env) fun x => match x with
      | .bl b => fun st => .ok (.bl (!b)) st
      | _ => fun _ => .no) := by
  intro ρ st env σ H d st' S R e Q P
  obtain ⟨x, st1, e1, e2⟩ := bind_ok e
  cases x with
  | bl k =>
    cases e2
    exact we_of (pe_not pe_we) (ha ρ st env σ H _ _ S R e1 _ fun ρ1 H1 v g1 S1 r1 => ⟨k, rep_bl r1, P ρ1 H1 _ g1 S1 (.bl _)⟩)
  | _ => cases e2
theorem snd_neg (ha : SndE X a ma) : SndE X (.UnaryOp .USub a pos) (fun env => M.bind (ma env) fun x => negD x) := by
  intro ρ st env σ H d st' S R e Q P
  obtain ⟨x, st1, e1, e2⟩ := bind_ok e
  cases x with
  | int k =>
    cases e2
    exact we_of (pe_un un_neg pe_we) (ha ρ st env σ H _ _ S R e1 _ fun ρ1 H1 v g1 S1 r1 => ⟨k, rep_int r1, P ρ1 H1 _ g1 S1 (.int _)⟩)
  | _ => cases e2
theorem snd_ite (hc : SndT X c tb) (ha : SndE X a ma) (hb : SndE X b mb) : SndE X (.IfExp c a b pos) (fun env => M.bind (tb env) fun r => if r = true then ma env else mb env) := by
  intro ρ st env σ H d st' S R e Q P
  obtain ⟨r, st1, e1, e2⟩ := bind_ok e
  refine we_of (pe_ifExp pt_wt pe_we pe_we) (hc ρ st env σ H r st1 S R e1 _ fun ρ1 H1 g1 S1 => ?_)
  cases r with
  | true => rw [if_pos rfl] at e2 ⊢; exact ha ρ1 st1 env σ H1 d st' S1 (R.grow g1) e2 Q (P.grow g1)
  | false => rw [if_neg (by decide)] at e2 ⊢; exact hb ρ1 st1 env σ H1 d st' S1 (R.grow g1) e2 Q (P.grow g1)
/-- truth of any value -/
theorem tru_rep {ρ : List Addr} {st st' : Store} {H : Hp} {x : D} {v : V} {k : Bool} (S : Sim X.K ρ st H) (r : Rep X.K ρ H x v) (e : truthD x st = .ok k st') : st' = st ∧ TruV X.K v H k := by
  cases r with
  | non => cases e; exact ⟨rfl, rfl⟩
  | bl b => cases e; exact ⟨rfl, rfl⟩
  | int i => cases e; exact ⟨rfl, rfl⟩
  | str z =>
    simp only [truthD] at e
    split at e
    · rename_i hl; cases e; exact ⟨rfl, by rw [big_eq]; exact hl, rfl⟩
    · cases e
  | tup h hs _ =>
    cases e
    refine ⟨rfl, .inr (.inl ⟨_, h, ?_⟩)⟩
    cases hs <;> rfl
  | fls h hs =>
    cases e
    refine ⟨rfl, .inl ⟨_, h.sq, ?_⟩⟩
    cases hs <;> rfl
  | ob h =>
    simp only [truthD] at e
    split at e
    · rename_i ys h1
      cases e
      obtain ⟨a, vs, e1, h2, h3⟩ := itemsL_rep S (.ob h) h1
      cases e1
      refine ⟨rfl, .inl ⟨vs, h2, ?_⟩⟩
      cases h3 <;> rfl
    · cases e
theorem sndT_plain (ha : SndE X a ma) (he : ∀ whole, isTrue a X.env whole = (do let v ← whole; standAt a.pos; holding [v] (truthy v))) : SndT X a (fun env => M.bind (ma env) fun x => truthD x) := by
  intro ρ st env σ H k st' S R e Q P
  obtain ⟨x, st1, e1, e2⟩ := bind_ok e
  refine wt_of (pt_truth pe_we he) (ha ρ st env σ H x st1 S R e1 _ fun ρ1 H1 v g1 S1 r1 => ?_)
  obtain ⟨h1, h2⟩ := tru_rep S1 r1 e2
  subst h1
  exact ⟨k, h2, P ρ1 H1 g1 S1⟩

/-! ### names, constants -/
theorem snd_var {i : Nat} {x : Str} (hN : X.N[i]? = some x) (hv : Vis X.env.scope x) (hd : (x == ("__debug__" : Str)) = false) (hcd : (x == ("__classdict__" : Str)) = false) :
    SndE X (.Name x pos) (fun env st => match env[i]? with | some (some d) => .ok d st | _ => .no) := by
  intro ρ st env σ H d st' S R e Q P
  dsimp only at e
  split at e
  · rename_i d' h1
    cases e
    obtain ⟨v, h2, r⟩ := R.at' i _ h1
    exact we_of (pe_var hN hv hd hcd) ⟨v, h2, P.self S r⟩
  · cases e
theorem snd_int {i : Int} {j : Nat} : SndE X (.Constant (.int i) j pos) (fun _ st => .ok (.int i) st) := by
  intro ρ st env σ H d st' S R e Q P
  cases e
  exact we_of pe_int (P.self S (.int i))
theorem snd_str {i : Str} {j : Nat} : SndE X (.Constant (.str i) j pos) (fun _ st => .ok (.str i) st) := by
  intro ρ st env σ H d st' S R e Q P
  cases e
  exact we_of pe_str (P.self S (.str i))
theorem snd_bl {i : Bool} {j : Nat} : SndE X (.Constant (.bool i) j pos) (fun _ st => .ok (.bl i) st) := by
  intro ρ st env σ H d st' S R e Q P
  cases e
  exact we_of pe_bl (P.self S (.bl i))
theorem snd_non {j : Nat} : SndE X (.Constant .none j pos) (fun _ st => .ok .non st) := by
  intro ρ st env σ H d st' S R e Q P
  cases e
  exact we_of pe_non (P.self S .non)
theorem snd_glob {x : Str} {d0 : D} {u : Value} {v : V} (hg : Gl X x) (hm : X.mg x = some u) (r : RelV v u) (hr : ∀ ρ H, Rep X.K ρ H d0 v) (hd : (x == ("__debug__" : Str)) = false) : SndE X (.Name x pos) (fun _ st => .ok d0 st) := by
  intro ρ st env σ H d st' S R e Q P
  cases e
  exact we_of (pe_glob hg hm r hd) (P.self S (hr ρ H))

/-! ### argument lists, displays -/
variable {es : List Expr} {ms : Env → M (List D)}
theorem sndA_nil : SndA X [] (fun _ st => .ok [] st) := by
  intro ρ st env σ H ds st' S R e Q P
  cases e
  exact wa_of pa_nil (P ρ H [] (Grow.refl _ _) S .nil)
theorem sndA_cons (ha : SndE X a ma) (hs : SndA X es ms) (hst : starEach (a :: es) X.env = (false, eval a X.env) :: starEach es X.env) : SndA X (a :: es) (fun env => M.bind (ma env) fun d => M.bind (ms env) fun ds st => .ok (d :: ds) st) := by
  intro ρ st env σ H ds st' S R e Q P
  obtain ⟨x, st1, e1, e2⟩ := bind_ok e
  obtain ⟨xs, st2, e2, e3⟩ := bind_ok e2
  cases e3
  exact wa_of (pa_cons pe_we pa_wa hst) (ha ρ st env σ H x st1 S R e1 _ fun ρ1 H1 v g1 S1 r1 => hs ρ1 st1 env σ H1 xs st' S1 (R.grow g1) e2 _ fun ρ2 H2 vs g2 S2 r2 => P ρ2 H2 _ (g1.trans g2) S2 (.cons (r1.grow g2) r2))
theorem snd_tup {k : Nat} (hs : SndA X es ms) : SndE X (.Tuple es k pos) (fun env => M.bind (ms env) fun ds st => if ds.length ≤ bigN then .ok (.tup ds) st else .no) := by
  intro ρ st env σ H d st' S R e Q P
  obtain ⟨xs, st1, e1, e2⟩ := bind_ok e
  split at e2
  · rename_i hl
    cases e2
    exact we_of (pe_tup pa_wa) (hs ρ st env σ H xs _ S R e1 _ fun ρ1 H1 vs g1 S1 r1 => ⟨by rw [big_eq, ← r1.length]; exact hl, fun p hp => (P.grow g1).tup S1 r1 hp⟩)
  · cases e2
theorem snd_lst (hs : SndA X es ms) : SndE X (.List es pos) (fun env => M.bind (ms env) fun ds st => if ds.length ≤ bigN then .ok (.ob st.length) (st ++ [.lst ds]) else .no) := by
  intro ρ st env σ H d st' S R e Q P
  obtain ⟨xs, st1, e1, e2⟩ := bind_ok e
  split at e2
  · rename_i hl
    cases e2
    exact we_of (pe_lst pa_wa) (hs ρ st env σ H xs _ S R e1 _ fun ρ1 H1 vs g1 S1 r1 => ⟨by rw [big_eq, ← r1.length]; exact hl, fun p hp => (P.grow g1).lst S1 r1 hp⟩)
  · cases e2
theorem Post.dct {K : PySem.W.Frag} {ρ : List Addr} {H : Hp} {st : Store} {kvs : List (D × D)} {ks : List (Key × V)} {Q : VK} {p : Addr} (P : Post K ρ H (st ++ [.dct kvs]) (.ob st.length) Q) (S : Sim K ρ st H) (r : KvK K ρ H kvs ks) (hp : H p = none) : Q (.ref p) (upd H p (.dK ks)) := by
  refine P (ρ ++ [p]) _ _ (grow_lay hp) (S.lay hp (.inl ⟨ks, upd_same, r.grow (grow_lay hp)⟩)) (.ob ?_)
  rw [List.getElem?_append_right (by rw [S.len]; exact Nat.le_refl _), S.len]
  simp
theorem snd_dict0 : SndE X (.Dict [] [] pos) (fun _ st => .ok (.ob st.length) (st ++ [.dct []])) := by
  intro ρ st env σ H d st' S R e Q P
  cases e
  exact we_of pe_dnewK fun p hp => P.dct S .nil hp

/-! ### subscripts, slices -/
theorem snd_idx (hu : X.A.units + 1 < cLine) (hs : PlainIx b) (ha : SndE X a ma) (hb : SndE X b mb) : SndE X (.Subscript a b pos) (fun env => M.bind (ma env) fun x => M.bind (mb env) fun y => ixD x y) := by
  intro ρ st env σ H d st' S R e Q P
  obtain ⟨x, st1, e1, e⟩ := bind_ok e
  obtain ⟨y, st2, e2, e3⟩ := bind_ok e
  cases hd : isDct st2 x with
  | false =>
    refine we_of (pe_ix ixr_max pe_we pe_we hs) (snd_two ha hb S R e1 e2 fun ρ' H' v w g' S' r1 r2 => ?_)
    obtain ⟨r, h1, h2⟩ := ok_ix (X := X) S' r1 r2 hd e3
    exact ⟨r, h1, h2 Q (P.grow g')⟩
  | true =>
    cases x with
    | ob j =>
      simp only [isDct] at hd
      split at hd
      · rename_i kvs h1
        simp only [ixD, h1] at e3
        split at e3
        · rename_i hk
          split at e3
          · rename_i d' hg
            cases e3
            refine we_of (pe_dgetD hu pe_we pe_we hs) (snd_two ha hb S R e1 e2 fun ρ' H' v w g' S' r1 r2 => ?_)
            cases r1 with
            | ob hx => exact ⟨ρ', kvs, y, _, _, V.non, rfl, S'.ob _ _ _ h1 hx, r2, hk, hg, fun z rz => (P.grow g').self S' rz, rfl⟩
          · cases e3
        · cases e3
      · cases hd
    | _ => simp only [isDct] at hd; cases hd
def SndO (X : Cx) (e : Option Expr) (m : Env → M (Option Int)) : Prop := ∀ ρ st env σ H o st', Sim X.K ρ st H → EnvR X.K ρ H env σ → m env st = .ok o st' → ∃ t, PO X e t ∧ ∀ Q : Option Int → Hp → Prop, (∀ ρ' H', Grow ρ H ρ' H' → Sim X.K ρ' st' H' → Q o H') → t σ H Q
theorem sndO_none : SndO X none (fun _ st => .ok none st) := by
  intro ρ st env σ H o st' S R e
  cases e
  exact ⟨_, po_none, fun Q h => h ρ H (Grow.refl _ _) S⟩
theorem sndO_some (ha : SndE X a ma) : SndO X (some a) (fun env => M.bind (ma env) fun d => match d with | .int i => fun st => .ok (some i) st | _ => fun _ => .no) := by
  intro ρ st env σ H o st' S R e
  obtain ⟨x, st1, e1, e2⟩ := bind_ok e
  cases x with
  | int k =>
    cases e2
    exact ⟨_, po_some pe_we, fun Q h => ha ρ st env σ H _ _ S R e1 _ fun ρ1 H1 v g1 S1 r1 => ⟨k, rep_int r1, h ρ1 H1 g1 S1⟩⟩
  | _ => cases e2
/-- the widest reading of an optional part -/
def WO (X : Cx) (e : Option Expr) : TO := fun σ H Q => ∃ t, PO X e t ∧ t σ H Q
theorem po_wo {e : Option Expr} : PO X e (WO X e) := by
  constructor
  intros
  rename_i h
  obtain ⟨t, h1, h2⟩ := h
  first | exact h1.run _ _ _ _ _ (by assumption) h2 | (apply h1.run <;> assumption)
theorem snd_sl {lo hi : Option Expr} {ml mh : Env → M (Option Int)} {p2 : Pos} (ha : SndE X a ma) (hl : SndO X lo ml) (hh : SndO X hi mh) : SndE X (.Subscript a (.Slice lo hi none p2) pos) (fun env => M.bind (ma env) fun x => M.bind (ml env) fun l => M.bind (mh env) fun h => slD x l h) := by
  intro ρ st env σ H d st' S R e Q P
  obtain ⟨x, st1, e1, e⟩ := bind_ok e
  obtain ⟨l, st2, e2, e⟩ := bind_ok e
  obtain ⟨h, st3, e3, e4⟩ := bind_ok e
  refine we_of (pe_slice slr_max pe_we po_wo po_wo) (ha ρ st env σ H x st1 S R e1 _ fun ρ1 H1 v g1 S1 r1 => ?_)
  obtain ⟨t2, q2, k2⟩ := hl ρ1 st1 env σ H1 l st2 S1 (R.grow g1) e2
  refine ⟨t2, q2, k2 _ fun ρ2 H2 g2 S2 => ?_⟩
  obtain ⟨t3, q3, k3⟩ := hh ρ2 st2 env σ H2 h st3 S2 (R.grow (g1.trans g2)) e3
  refine ⟨t3, q3, k3 _ fun ρ3 H3 g3 S3 => ?_⟩
  obtain ⟨r, h1, h2⟩ := ok_sl (X := X) S3 (r1.grow (g2.trans g3)) e4
  exact ⟨r, h1, h2 Q (P.grow ((g1.trans g2).trans g3))⟩
end
end W9

/-! W9l: calls, methods, sources of loops, targets -/
namespace W9
open PySem L2
section
variable {X : Cx} {e : Expr} {es : List Expr} {ms : Env → M (List D)} {p pos : Pos} {x : Str}
theorem snd_call {k : Nat} {m : Frm} {g : List D → M D} (cal : Callee X.prog X.w X.K X.mg X.base k m g) (hkd : m.kd = none) (hks : m.ks = []) (hx : m.x = x) (room : Room k X.A) (gd : X.A.guards = some []) (gl : Gl X x) (hdb : (x == ("__debug__" : Str)) = false) (he : starEach (e :: es) X.env = (false, eval e X.env) :: starEach es X.env)
    (hpl : (backTo pos (starEach es X.env)).any (·.1) = false) (hs : SndA X (e :: es) ms) (hlen : ∀ env st ds st', ms env st = .ok ds st' → ds.length = m.n) : SndE X (.Call (.Name x p) (e :: es) [] pos) (fun env => M.bind (ms env) fun ds => g ds) := by
  intro ρ st env σ H d st' S R e Q P
  obtain ⟨ds, st1, e1, e2⟩ := bind_ok e
  obtain ⟨f, F, fa⟩ := cal.ex
  rw [hkd] at fa
  obtain ⟨hm, hk⟩ := fa
  rw [hks] at F
  rw [hx] at hm
  exact we_of (pe_callG F room gd gl hm hk pa_wa hdb he hpl) (hs ρ st env σ H ds st1 S R e1 _ fun ρ1 H1 vs g1 S1 r1 => ⟨ρ1, st1, ds, d, st', hlen _ _ _ _ e1, S1, r1, e2, P.grow g1⟩)
theorem snd_call0 {k : Nat} {m : Frm} {g : List D → M D} (cal : Callee X.prog X.w X.K X.mg X.base k m g) (hkd : m.kd = none) (hks : m.ks = []) (hx : m.x = x) (hn : m.n = 0) (room : Room k X.A) (gd : X.A.guards = some []) (gl : Gl X x) (hdb : (x == ("__debug__" : Str)) = false) : SndE X (.Call (.Name x p) [] [] pos) (fun _ => g []) := by
  intro ρ st env σ H d st' S R e Q P
  obtain ⟨f, F, fa⟩ := cal.ex
  rw [hkd] at fa
  obtain ⟨hm, hk⟩ := fa
  rw [hks] at F
  rw [hx] at hm
  exact we_of (pe_callG0 F room gd gl hm hk hdb) ⟨ρ, st, [], d, st', hn.symm, S, .nil, e, P⟩
/-- the values of keywords -/
def WK (X : Cx) (kws : List Keyword) (σ : L2.St) (H : Hp) (Q : List V → Hp → Prop) : Prop := ∀ (pos : Pos) (pins : List (Addr × Obj)) (s : Shared), Inv X pins σ H s → wpAny (model X.prog X.w) X.A (evalAll ((backToKw pos (keywordEach kws X.env)).map (·.2))) (AP X pins σ Q) X.xe s
theorem pk_wk {kws : List Keyword} : PK X kws (WK X kws) := ⟨fun pos pins s σ H Q I h => h pos pins s I⟩
theorem wk_of {kws : List Keyword} {t : TA} {σ : L2.St} {H : Hp} {Q : List V → Hp → Prop} (p : PK X kws t) (h : t σ H Q) : WK X kws σ H Q := fun pos pins s I => p.run pos pins s σ H Q I h
def SndK (X : Cx) (kws : List Keyword) (m : Env → M (List D)) : Prop := ∀ ρ st env σ H ds st', Sim X.K ρ st H → EnvR X.K ρ H env σ → m env st = .ok ds st' → ∀ Q, Posts X.K ρ H st' ds Q → WK X kws σ H Q
theorem sndK_nil : SndK X [] (fun _ st => .ok [] st) := by
  intro ρ st env σ H ds st' S R e Q P
  cases e
  exact wk_of pk_nil (P ρ H [] (Grow.refl _ _) S .nil)
theorem sndK_cons {nm : Option Str} {kpos : Pos} {kws : List Keyword} {a : Expr} {ma : Env → M D} {mk : Env → M (List D)} (ha : SndE X a ma) (hk : SndK X kws mk) : SndK X (⟨nm, a, kpos⟩ :: kws) (fun env => M.bind (ma env) fun d => M.bind (mk env) fun ds st => .ok (d :: ds) st) := by
  intro ρ st env σ H ds st' S R e Q P
  obtain ⟨d, st1, e1, e⟩ := bind_ok e
  obtain ⟨ds', st2, e2, e3⟩ := bind_ok e
  cases e3
  exact wk_of (pk_cons pe_we pk_wk) (ha ρ st env σ H d st1 S R e1 _ fun ρ1 H1 v g1 S1 r1 => hk ρ1 st1 env σ H1 ds' _ S1 (R.grow g1) e2 _ fun ρ2 H2 vs g2 S2 r2 => P ρ2 H2 (v :: vs) (g1.trans g2) S2 (.cons (r1.grow g2) r2))
theorem snd_callK {k : Nat} {m : Frm} {g : List D → M D} {kws : List Keyword} {mk : Env → M (List D)} (cal : Callee X.prog X.w X.K X.mg X.base k m g) (hkd : m.kd = none) (hx : m.x = x) (room : Room k X.A) (gd : X.A.guards = some []) (gl : Gl X x) (hdb : (x == ("__debug__" : Str)) = false) (he : starEach (e :: es) X.env = (false, eval e X.env) :: starEach es X.env)
    (hall : (backToKw pos (keywordEach kws X.env)).all (·.1.isSome) = true) (hks : (backToKw pos (keywordEach kws X.env)).filterMap (·.1) = m.ks)
    (hpl : ((backTo pos (starEach (e :: es) X.env)).any (·.1) || (backToKw pos (keywordEach kws X.env)).any (·.1.isNone)) = false) (hs : SndA X (e :: es) ms) (hk : SndK X kws mk)
    (hlen : ∀ env st ds st' zs st'', ms env st = .ok ds st' → mk env st' = .ok zs st'' → (ds ++ zs).length = m.n ∧ zs.length = m.ks.length) : SndE X (.Call (.Name x p) (e :: es) kws pos) (fun env => M.bind (ms env) fun ds => M.bind (mk env) fun zs => g (ds ++ zs)) := by
  intro ρ st env σ H d st' S R e Q P
  obtain ⟨ds, st1, e1, e⟩ := bind_ok e
  obtain ⟨zs, st2, e2, e3⟩ := bind_ok e
  obtain ⟨f, F, fa⟩ := cal.ex
  rw [hkd] at fa
  obtain ⟨hm, hkp⟩ := fa
  rw [hx] at hm
  obtain ⟨l1, l2⟩ := hlen _ _ _ _ _ _ e1 e2
  refine we_of (pe_callGK F room gd gl hm hkp pa_wa pk_wk hdb he hall hks hpl) (hs ρ st env σ H ds st1 S R e1 _ fun ρ1 H1 vs g1 S1 r1 => hk ρ1 st1 env σ H1 zs st2 S1 (R.grow g1) e2 _ fun ρ2 H2 ws g2 S2 r2 => ⟨by rw [← r2.length]; exact l2, ρ2, st2, ds ++ zs, d, st', l1, S2, (r1.grow g2).append r2, e3, P.grow (g1.trans g2)⟩)
theorem snd_callK0 {k : Nat} {m : Frm} {g : List D → M D} {kws : List Keyword} {mk : Env → M (List D)} (cal : Callee X.prog X.w X.K X.mg X.base k m g) (hkd : m.kd = none) (hx : m.x = x) (room : Room k X.A) (gd : X.A.guards = some []) (gl : Gl X x) (hdb : (x == ("__debug__" : Str)) = false)
    (hall : (backToKw pos (keywordEach kws X.env)).all (·.1.isSome) = true) (hks : (backToKw pos (keywordEach kws X.env)).filterMap (·.1) = m.ks)
    (hpl : ((backTo pos (starEach [] X.env)).any (·.1) || (backToKw pos (keywordEach kws X.env)).any (·.1.isNone)) = false) (hk : SndK X kws mk)
    (hlen : ∀ env st zs st'', mk env st = .ok zs st'' → zs.length = m.n ∧ zs.length = m.ks.length) : SndE X (.Call (.Name x p) [] kws pos) (fun env => M.bind (fun st => .ok [] st) fun ds => M.bind (mk env) fun zs => g (ds ++ zs)) := by
  intro ρ st env σ H d st' S R e Q P
  obtain ⟨ds, st1, e1, e⟩ := bind_ok e
  cases e1
  obtain ⟨zs, st2, e2, e3⟩ := bind_ok e
  obtain ⟨f, F, fa⟩ := cal.ex
  rw [hkd] at fa
  obtain ⟨hm, hkp⟩ := fa
  rw [hx] at hm
  obtain ⟨l1, l2⟩ := hlen _ _ _ _ e2
  refine we_of (pe_callGK0 F room gd gl hm hkp pk_wk hdb hall hks hpl) (hk ρ st env σ H zs st2 S R e2 _ fun ρ2 H2 ws g2 S2 r2 => ⟨by rw [← r2.length]; exact l2, ρ2, st2, zs, d, st', l1, S2, r2, e3, P.grow g2⟩)
/-! ### instances -/
theorem ins_rep {ρ : List Addr} {st : Store} {H : Hp} {x : D} {v : V} {c : Str} {fs : List (Str × D)} (S : Sim X.K ρ st H) (r : Rep X.K ρ H x v) (h : insD st x = some (c, fs)) : ∃ j a C dx vs, x = .ob j ∧ v = .ref a ∧ ρ[j]? = some a ∧ st[j]? = some (.ins c fs) ∧ ClsN X.K c C ∧ H a = some (.ins C dx vs) ∧ FsR X.K ρ H fs vs := by
  cases r with
  | @ob j a hx =>
    simp only [insD] at h
    split at h
    · rename_i c' fs' h1
      cases h
      obtain ⟨C, dx, vs, h2, h3, h4⟩ := S.ob _ _ _ h1 hx
      exact ⟨j, a, C, dx, vs, rfl, rfl, hx, h1, h2, h3, h4⟩
    · cases h
  | _ => simp only [insD] at h; cases h
theorem snd_fld {o : Expr} {f : Str} {mo : Env → M D} {fl : Str → Str → Bool} (hfl : ∀ c C, fl c f = true → ClsN X.K c C → NoAttr X.K C f) (hb : attributeBase o f X.env (eval o X.env) = eval o X.env) (ho : SndE X o mo) :
    SndE X (.Attribute o f pos) (fun env => M.bind (mo env) fun x => fldD fl f x) := by
  intro ρ st env σ H d st' S R e Q P
  obtain ⟨x, st1, e1, e2⟩ := bind_ok e
  simp only [fldD] at e2
  split at e2
  · rename_i c fs hi
    split at e2
    · rename_i hc
      split at e2
      · rename_i d' hd
        cases e2
        refine we_of (pe_fld pe_we hb) (ho ρ st env σ H x _ S R e1 _ fun ρ1 H1 v g1 S1 r1 => ?_)
        obtain ⟨j, a, C, dx, vs, rfl, rfl, h1, h2, h3, h4, h5⟩ := ins_rep S1 r1 hi
        rcases h5.look f with ⟨z, _⟩ | ⟨d2, v2, z1, z2, z3⟩
        · rw [z] at hd; cases hd
        · rw [z1] at hd; cases hd
          exact ⟨a, C, dx, vs, v2, rfl, h4, h3.cls, hfl c C hc h3, z2, P ρ1 H1 v2 g1 S1 z3⟩
      · cases e2
    · cases e2
  · cases e2
theorem met_at {k : Nat} {c m tag : Str} {ks : List Str} {n : Nat} {g : List D → M D} {ρ : List Addr} {st : Store} {H : Hp} {x : D} {v : V} {fs : List (Str × D)} (cal : Callee X.prog X.w X.K X.mg X.base k ⟨m, ks, n, some c⟩ g) (S : Sim X.K ρ st H) (r : Rep X.K ρ H x v) (h : insD st x = some (c, fs))
    (hl : (fs.lookup m).isNone = true) : MetAt X k m ks v H (spF X.K n g) := by
  obtain ⟨f, F, C', c1, c2⟩ := cal.ex
  obtain ⟨j, a, C, dx, vs, rfl, rfl, h1, h2, h3, h4, h5⟩ := ins_rep S r h
  have hC := c1.uniq h3
  subst hC
  refine ⟨f, C, a, dx, vs, F, h3.cls, c2, rfl, h4, ?_⟩
  rcases h5.look m with ⟨_, z⟩ | ⟨d2, v2, z1, z2, z3⟩
  · exact z
  · rw [z1] at hl; cases hl
theorem snd_mcall {k : Nat} {o : Expr} {m tag : Str} {apos : Pos} {kws : List Keyword} {ks : List Str} {mo : Env → M D} {mk : Env → M (List D)} {mt : Str → Frm → List D → M D} (hmt : ∀ tg fr, (∀ xs st, mt tg fr xs st = .no) ∨ Callee X.prog X.w X.K X.mg X.base k fr (mt tg fr))
    (room : Room k X.A) (gd : X.A.guards = some []) (he : starEach (e :: es) X.env = (false, eval e X.env) :: starEach es X.env)
    (hall : (backToKw pos (keywordEach kws X.env)).all (·.1.isSome) = true) (hks : (backToKw pos (keywordEach kws X.env)).filterMap (·.1) = ks)
    (hpl : ((backTo pos (starEach (e :: es) X.env)).any (·.1) || (backToKw pos (keywordEach kws X.env)).any (·.1.isNone)) = false)
    (hbase : attributeBase o m X.env (eval o X.env) = eval o X.env) (hfew : methodCallForm ((e :: es).length + kws.length) (backTo pos (starEach (e :: es) X.env)) (backToKw pos (keywordEach kws X.env)) = true) (hline : (apos.endLine == pos.line) = true)
    (ho : SndE X o mo) (hs : SndA X (e :: es) ms) (hk : SndK X kws mk) (hlen : ∀ env st zs st'', mk env st = .ok zs st'' → zs.length = ks.length) :
    SndE X (.Call (.Attribute o m apos) (e :: es) kws pos) (fun env => M.bind (mo env) fun x st => match insD st x with
      | some (c, fs) => if (fs.lookup m).isNone = true then M.bind (ms env) (fun ds => M.bind (mk env) fun zs => mt (c ++ tag) ⟨m, ks, ds.length + zs.length + 1, some c⟩ (x :: (ds ++ zs))) st else .no
      | none => .no) := by
  intro ρ st env σ H d st' S R e Q P
  obtain ⟨x, st1, e1, e2⟩ := bind_ok e
  split at e2
  · rename_i c fs hi
    split at e2
    · rename_i hl
      obtain ⟨ds, st2, e2, e3⟩ := bind_ok e2
      obtain ⟨zs, st3, e3, e4⟩ := bind_ok e3
      rcases hmt (c ++ tag) ⟨m, ks, ds.length + zs.length + 1, some c⟩ with z | cal
      · rw [z] at e4; cases e4
      refine we_of (pe_mcallG room gd pe_we pa_wa pk_wk he hall hks hpl hbase hfew hline) (ho ρ st env σ H x st1 S R e1 _ fun ρ1 H1 v g1 S1 r1 => ⟨_, met_at (tag := tag) cal S1 r1 hi hl, ?_⟩)
      refine hs ρ1 st1 env σ H1 ds st2 S1 (R.grow g1) e2 _ fun ρ2 H2 vs g2 S2 r2 => hk ρ2 st2 env σ H2 zs st3 S2 (R.grow (g1.trans g2)) e3 _ fun ρ3 H3 ws g3 S3 r3 => ⟨by rw [← r3.length]; exact hlen _ _ _ _ e3, ?_⟩
      exact ⟨ρ3, st3, x :: (ds ++ zs), d, st', by simp only [List.length_cons, List.length_append], S3, .cons (r1.grow (g2.trans g3)) ((r2.grow g3).append r3), e4, P.grow ((g1.trans g2).trans g3)⟩
    · cases e2
  · cases e2
theorem snd_mcall0 {k : Nat} {o : Expr} {m tag : Str} {apos : Pos} {kws : List Keyword} {ks : List Str} {mo : Env → M D} {mk : Env → M (List D)} {mt : Str → Frm → List D → M D} (hmt : ∀ tg fr, (∀ xs st, mt tg fr xs st = .no) ∨ Callee X.prog X.w X.K X.mg X.base k fr (mt tg fr))
    (room : Room k X.A) (gd : X.A.guards = some [])
    (hall : (backToKw pos (keywordEach kws X.env)).all (·.1.isSome) = true) (hks : (backToKw pos (keywordEach kws X.env)).filterMap (·.1) = ks)
    (hpl : ((backTo pos (starEach [] X.env)).any (·.1) || (backToKw pos (keywordEach kws X.env)).any (·.1.isNone)) = false)
    (hbase : attributeBase o m X.env (eval o X.env) = eval o X.env) (hfew : methodCallForm (([] : List Expr).length + kws.length) (backTo pos (starEach [] X.env)) (backToKw pos (keywordEach kws X.env)) = true) (hline : (apos.endLine == pos.line) = true)
    (ho : SndE X o mo) (hk : SndK X kws mk) (hlen : ∀ env st zs st'', mk env st = .ok zs st'' → zs.length = ks.length) :
    SndE X (.Call (.Attribute o m apos) [] kws pos) (fun env => M.bind (mo env) fun x st => match insD st x with
      | some (c, fs) => if (fs.lookup m).isNone = true then M.bind (fun st => .ok [] st) (fun ds => M.bind (mk env) fun zs => mt (c ++ tag) ⟨m, ks, ds.length + zs.length + 1, some c⟩ (x :: (ds ++ zs))) st else .no
      | none => .no) := by
  intro ρ st env σ H d st' S R e Q P
  obtain ⟨x, st1, e1, e2⟩ := bind_ok e
  split at e2
  · rename_i c fs hi
    split at e2
    · rename_i hl
      obtain ⟨ds, st2, e2, e3⟩ := bind_ok e2
      cases e2
      obtain ⟨zs, st3, e3, e4⟩ := bind_ok e3
      rcases hmt (c ++ tag) ⟨m, ks, ([] : List D).length + zs.length + 1, some c⟩ with z | cal
      · rw [z] at e4; cases e4
      refine we_of (pe_mcallG0 room gd pe_we pk_wk hall hks hpl hbase hfew hline) (ho ρ st env σ H x st1 S R e1 _ fun ρ1 H1 v g1 S1 r1 => ⟨_, met_at (tag := tag) cal S1 r1 hi hl, ?_⟩)
      refine hk ρ1 st1 env σ H1 zs st3 S1 (R.grow g1) e3 _ fun ρ3 H3 ws g3 S3 r3 => ⟨by rw [← r3.length]; exact hlen _ _ _ _ e3, ?_⟩
      exact ⟨ρ3, st3, x :: zs, d, st', by simp, S3, .cons (r1.grow g3) r3, e4, P.grow (g1.trans g3)⟩
    · cases e2
  · cases e2
/-- a class that can be made -/
structure ClsM (K : PySem.W.Frag) (mg : Str → Option Value) (c : Str) : Prop where
  ex : ∃ C, ClsN K c C ∧ PySem.W.makesIn K C = true ∧ PySem.W.keepIn K (.ref C) = true ∧ mg c = some (.ref C)
theorem mk_post {c : Str} {C : Addr} {k n : Nat} {ks : List Str} {g : List D → M D} {ρ : List Addr} {st st' : Store} {H : Hp} {ds : List D} {vs zs : List V} {d : D} {Q : VK} (cn : ClsN X.K c C) (S : Sim X.K ρ st H) (r : Reps X.K ρ H ds (vs ++ zs)) (hz : zs.length = ks.length) (hn : ds.length + 1 = n)
    (e : mkD c g ds st = .ok d st') (P : Post X.K ρ H st' d Q) : tMkG C ks (spF X.K n g) vs zs H Q := by
  refine ⟨hz, fun x dx hx hdx hne => ?_⟩
  simp only [mkD] at e
  split at e
  · rename_i st1 e1
    cases e
    have hx2 : upd H dx (.own x) x = none := by rw [upd_ne (Ne.symm hne)]; exact hx
    have S2 := S.new (u := .own x) hdx
    have g2 : Grow ρ H ρ (upd H dx (.own x)) := grow_new hdx
    have S3 := S2.lay (u := .ins C dx []) (o := .ins c []) hx2 ⟨C, dx, [], cn, upd_same, .nil⟩
    have g3 : Grow ρ H (ρ ++ [x]) (upd (upd H dx (.own x)) x (.ins C dx [])) := g2.trans (grow_lay hx2)
    have ho : (ρ ++ [x])[st.length]? = some x := by
      rw [List.getElem?_append_right (by rw [S.len]; exact Nat.le_refl _), S.len]; simp
    refine ⟨ρ ++ [x], st ++ [.ins c []], .ob st.length :: ds, .non, st', by rw [List.length_cons]; exact hn, S3, .cons (.ob ho) (r.grow g3), e1, fun ρ' H' v g' S' r' => ⟨?_, P ρ' H' (.ref x) (g3.trans g') S' (.ob (g'.ix ho))⟩⟩
    cases r'
    rfl
  · cases e
theorem snd_make {k : Nat} {c tag : Str} {kws : List Keyword} {ks : List Str} {mk : Env → M (List D)} {mt : Str → Frm → List D → M D} (hmt : ∀ tg fr, (∀ xs st, mt tg fr xs st = .no) ∨ Callee X.prog X.w X.K X.mg X.base k fr (mt tg fr)) (hc : ClsM X.K X.mg c)
    (room : Room (k + 1) X.A) (gd : X.A.guards = some []) (gl : Gl X c) (hdb : (c == ("__debug__" : Str)) = false) (he : starEach (e :: es) X.env = (false, eval e X.env) :: starEach es X.env)
    (hall : (backToKw pos (keywordEach kws X.env)).all (·.1.isSome) = true) (hks : (backToKw pos (keywordEach kws X.env)).filterMap (·.1) = ks)
    (hpl : ((backTo pos (starEach (e :: es) X.env)).any (·.1) || (backToKw pos (keywordEach kws X.env)).any (·.1.isNone)) = false) (hs : SndA X (e :: es) ms) (hk : SndK X kws mk) (hlen : ∀ env st zs st'', mk env st = .ok zs st'' → zs.length = ks.length) :
    SndE X (.Call (.Name c p) (e :: es) kws pos) (fun env => M.bind (ms env) fun ds => M.bind (mk env) fun zs => mkD c (mt (c ++ tag) ⟨"__init__", ks, ds.length + zs.length + 1, some c⟩) (ds ++ zs)) := by
  intro ρ st env σ H d st' S R e Q P
  obtain ⟨ds, st1, e1, e⟩ := bind_ok e
  obtain ⟨zs, st2, e2, e3⟩ := bind_ok e
  rcases hmt (c ++ tag) ⟨"__init__", ks, ds.length + zs.length + 1, some c⟩ with z | cal
  · simp only [mkD] at e3; rw [z] at e3; cases e3
  obtain ⟨C, cn, m1, m2, m3⟩ := hc.ex
  obtain ⟨f, F, C', c1, c2⟩ := cal.ex
  have hC := cn.uniq c1
  subst hC
  refine we_of (pe_makeG ⟨m1, c2.at_, c2.fn, m2⟩ F room gd gl m3 pa_wa pk_wk hdb he hall hks hpl) (hs ρ st env σ H ds st1 S R e1 _ fun ρ1 H1 vs g1 S1 r1 => hk ρ1 st1 env σ H1 zs st2 S1 (R.grow g1) e2 _ fun ρ2 H2 ws g2 S2 r2 => ?_)
  exact mk_post (k := k) cn S2 ((r1.grow g2).append r2) (by rw [← r2.length]; exact hlen _ _ _ _ e2) (by rw [List.length_append]) e3 (P.grow (g1.trans g2))
theorem snd_make0 {k : Nat} {c tag : Str} {kws : List Keyword} {ks : List Str} {mk : Env → M (List D)} {mt : Str → Frm → List D → M D} (hmt : ∀ tg fr, (∀ xs st, mt tg fr xs st = .no) ∨ Callee X.prog X.w X.K X.mg X.base k fr (mt tg fr)) (hc : ClsM X.K X.mg c)
    (room : Room (k + 1) X.A) (gd : X.A.guards = some []) (gl : Gl X c) (hdb : (c == ("__debug__" : Str)) = false)
    (hall : (backToKw pos (keywordEach kws X.env)).all (·.1.isSome) = true) (hks : (backToKw pos (keywordEach kws X.env)).filterMap (·.1) = ks)
    (hpl : ((backTo pos (starEach [] X.env)).any (·.1) || (backToKw pos (keywordEach kws X.env)).any (·.1.isNone)) = false) (hk : SndK X kws mk) (hlen : ∀ env st zs st'', mk env st = .ok zs st'' → zs.length = ks.length) :
    SndE X (.Call (.Name c p) [] kws pos) (fun env => M.bind (fun st => .ok [] st) fun ds => M.bind (mk env) fun zs => mkD c (mt (c ++ tag) ⟨"__init__", ks, ds.length + zs.length + 1, some c⟩) (ds ++ zs)) := by
  intro ρ st env σ H d st' S R e Q P
  obtain ⟨ds, st1, e1, e⟩ := bind_ok e
  cases e1
  obtain ⟨zs, st2, e2, e3⟩ := bind_ok e
  rcases hmt (c ++ tag) ⟨"__init__", ks, ([] : List D).length + zs.length + 1, some c⟩ with z | cal
  · simp only [mkD] at e3; rw [z] at e3; cases e3
  obtain ⟨C, cn, m1, m2, m3⟩ := hc.ex
  obtain ⟨f, F, C', c1, c2⟩ := cal.ex
  have hC := cn.uniq c1
  subst hC
  refine we_of (pe_makeG0 ⟨m1, c2.at_, c2.fn, m2⟩ F room gd gl m3 pk_wk hdb hall hks hpl) (hk ρ st env σ H zs st2 S R e2 _ fun ρ2 H2 ws g2 S2 r2 => ?_)
  exact mk_post (k := k) cn S2 r2 (by rw [← r2.length]; exact hlen _ _ _ _ e2) (by simp) e3 (P.grow g2)
theorem boot_bi : ∀ b : Bi, bootBuiltins b.name = some b.val := by
  intro b
  cases b <;> decide +kernel
theorem bi_name1 : ∀ b : Bi, b.name ≠ "__name__" := by intro b; cases b <;> decide +kernel
theorem bi_name2 : ∀ b : Bi, (b.name == ("__debug__" : Str)) = false := by intro b; cases b <;> decide +kernel
theorem snd_bi {b : Bi} (hc : X.calm = true) (gd : X.A.guards = some []) (hu : X.A.units + 65 < cLine) (gl : Gl X b.name) (hm : X.mg b.name = none) (he : starEach (e :: es) X.env = (false, eval e X.env) :: starEach es X.env)
    (hpl : (backTo pos (starEach es X.env)).any (·.1) = false) (hs : SndA X (e :: es) ms) : SndE X (.Call (.Name b.name p) (e :: es) [] pos) (fun env => M.bind (ms env) fun ds => biD b ds) := by
  intro ρ st env σ H d st' S R e Q P
  obtain ⟨ds, st1, e1, e2⟩ := bind_ok e
  have hv := boot_bi b
  have key : WA X (_ :: es) σ H fun vs H1 => ∃ r, CallR X b.val r ∧ r vs H1 Q := hs ρ st env σ H ds st1 S R e1 _ fun ρ1 H1 vs g1 S1 r1 => by
    obtain ⟨r, h1, h2⟩ := ok_bi hc gd hu b ρ1 st1 H1 ds vs d st' S1 r1 e2
    exact ⟨r, h1, h2 Q (P.grow g1)⟩
  cases hb : b.val with
  | builtin id => rw [hb] at hv key; exact we_of (pe_callB callr_max gl hm hv pa_wa (bi_name1 b) (bi_name2 b) he hpl) key
  | type T => rw [hb] at hv key; exact we_of (pe_callTy callr_max gl hm hv pa_wa (bi_name1 b) (bi_name2 b) he hpl) key
  | _ => cases b <;> cases hb
/-! methods of built-in things -/
def Ty.str : Ty → String
  | .list => "list"
  | .dict => "dict"
def meOk : Me → Ty → Bool
  | .append, .list => true
  | .extend, .list => true
  | .get, .dict => true
  | .setdefault, .dict => true
  | _, _ => false
theorem me_ok {m : Me} {T : Ty} {x d : D} {ds : List D} {st st' : Store} (h : meD m T x ds st = .ok d st') : meOk m T = true := by
  cases m <;> cases T <;> first | rfl | (simp only [meD] at h; cases h)
theorem ty_rep {ρ : List Addr} {st : Store} {H : Hp} {x : D} {v : V} {T : Ty} (S : Sim X.K ρ st H) (r : Rep X.K ρ H x v) (h : tyD st x = some T) : tyV X.K T.str v H := by
  cases r with
  | ob hx =>
    simp only [tyD] at h
    split at h
    · rename_i xs h1
      cases h
      obtain ⟨vs, h2, _⟩ := S.ob _ _ _ h1 hx
      exact .inl ⟨rfl, vs, SqL.of h2⟩
    · rename_i kvs h1
      cases h
      rcases S.ob _ _ _ h1 hx with ⟨ks, h2, _⟩ | ⟨ks, h2, _⟩
      · exact .inr (.inr (.inl ⟨rfl, .inl ⟨ks, h2⟩⟩))
      · exact .inr (.inr (.inl ⟨rfl, .inr ⟨ks, h2⟩⟩))
    · cases h
  | _ => simp only [tyD] at h; cases h
theorem snd_meth {m : Me} {o : Expr} {mo : Env → M D} {apos : Pos} (hu : X.A.units + 1 < cLine) (hbase : attributeBase o m.name X.env (eval o X.env) = eval o X.env)
    (hfew : ((backTo pos (starEach (e :: es) X.env)).all (fun x => !x.1) && (backToKw pos (keywordEach [] X.env)).all (fun x => x.1.isSome) && decide ((e :: es).length + ([] : List Keyword).length + (if ([] : List Keyword).isEmpty then 0 else 1) < 30)) = true)
    (hline : (apos.endLine == pos.line) = true) (he : starEach (e :: es) X.env = (false, eval e X.env) :: starEach es X.env) (hpl : (backTo pos (starEach es X.env)).any (·.1) = false) (ho : SndE X o mo) (hs : SndA X (e :: es) ms) :
    SndE X (.Call (.Attribute o m.name apos) (e :: es) [] pos) (fun env => M.bind (mo env) fun x st => match tyD st x with
    | some T => M.bind (ms env) (fun ds => meD m T x ds) st
    | none => .no) := by
  intro ρ st env σ H d st' S R eq Q P
  obtain ⟨x, st1, e1, e2⟩ := bind_ok eq
  split at e2
  · rename_i T hT
    obtain ⟨ds, st2, e2, e3⟩ := bind_ok e2
    have go : ∀ {name : Str} {id : String}, PlainAttrs T.str → Slot T.str name id → typeOf (.builtin id) = pure (.type "method_descriptor") → name = m.name → id = m.id T → WE X (.Call (.Attribute o m.name apos) (e :: es) [] pos) σ H Q := by
      intro name id pa sl ty hn hi
      subst hn hi
      refine we_of (pe_bm pa sl ty mtr_max pe_we pa_wa hbase hfew hline he hpl) (ho ρ st env σ H x st1 S R e1 _ fun ρ1 H1 v g1 S1 r1 => ⟨ty_rep S1 r1 hT, ?_⟩)
      refine hs ρ1 st1 env σ H1 ds st2 S1 (R.grow g1) e2 _ fun ρ2 H2 vs g2 S2 r2 => ?_
      obtain ⟨r, h1, h2⟩ := ok_me hu m T ρ2 st2 H2 x ds v vs d st' S2 (r1.grow g2) r2 e3
      exact ⟨r, h1, h2 Q (P.grow (g1.trans g2))⟩
    have hok := me_ok e3
    cases m <;> cases T <;> first
      | (cases hok; done)
      | exact go PySem.F.plainAttrs_list PySem.F.slot_list_append PySem.F.type_list_append rfl rfl
      | exact go PySem.F.plainAttrs_list PySem.F.slot_list_extend PySem.F.type_list_extend rfl rfl
      | exact go PySem.F.plainAttrs_dict PySem.F.slot_dict_get PySem.F.type_dict_get rfl rfl
      | exact go PySem.F.plainAttrs_dict PySem.F.slot_dict_setdefault PySem.F.type_dict_setdefault rfl rfl
  · cases e2
end

/-! ### sources of loops -/
/-- the walk that a source makes -/
structure Wk (K : PySem.W.Frag) (ρ : List Addr) (H : Hp) (items : List D) (gd : List (Nat × List D)) (J : It) : Prop where
  ex : ∃ G Y, Walk J items.length G Y ∧ (∀ ρ2 H2 st2, Grow ρ H ρ2 H2 → Sim K ρ2 st2 H2 → gdOk st2 gd = true → G H2) ∧
    ∀ (i : Nat) ρ2 H2 st2 x H3, Grow ρ H ρ2 H2 → Sim K ρ2 st2 H2 → gdOk st2 gd = true → i < items.length → Y i H2 x H3 → Grow ρ2 H2 ρ2 H3 ∧ Sim K ρ2 st2 H3 ∧ ∃ d, items[i]? = some d ∧ Rep K ρ2 H3 d x
def SndI (X : Cx) (tg iter : Expr) (m : Env → M (List D × List (Nat × List D))) : Prop := ∀ ρ st env σ H p st', Sim X.K ρ st H → EnvR X.K ρ H env σ → m env st = .ok p st' →
  ∃ wi, PI X tg iter wi ∧ ∀ R : It → Hp → Prop, (∀ ρ' H' J, Grow ρ H ρ' H' → Sim X.K ρ' st' H' → Wk X.K ρ' H' p.1 p.2 J → R J H') → wi σ H R
section
variable {K : PySem.W.Frag} {ρ : List Addr} {H : Hp}
theorem wk_tup {a : Addr} {ds : List D} {vs : List V} (h : SqT K H a vs) (hs : Reps K ρ H ds vs) : Wk K ρ H ds [] (Itt K a) := by
  refine ⟨_, _, by rw [hs.length]; exact walk_tup (K := K) (a := a) (xs := vs), fun ρ2 H2 st2 g S _ => g.sqt h, fun i ρ2 H2 st2 x H3 g S _ hi y => ?_⟩
  obtain ⟨rfl, y⟩ := y
  obtain ⟨d, h1, h2⟩ := hs.get' y
  exact ⟨Grow.refl _ _, S, d, h1, h2.grow g⟩
theorem wk_fls {a : Addr} {ds : List D} {vs : List V} (h : SqF K H a vs) (hs : Reps K ρ H ds vs) : Wk K ρ H ds [] (Itl K a) := by
  refine ⟨_, _, by rw [hs.length]; exact walk_list (K := K) (a := a) (xs := vs), fun ρ2 H2 st2 g S _ => (g.sqf h).sq, fun i ρ2 H2 st2 x H3 g S _ hi y => ?_⟩
  obtain ⟨rfl, y⟩ := y
  obtain ⟨d, h1, h2⟩ := hs.get' y
  exact ⟨Grow.refl _ _, S, d, h1, h2.grow g⟩
theorem walk_len {a : Addr} {n : Nat} : Walk (Itl K a) n (fun H => ∃ vs, SqL K H a vs ∧ vs.length = n) (fun i H x H' => H' = H ∧ ∀ vs, SqL K H a vs → vs[i]? = some x) :=
  ⟨fun i H hi ⟨vs, h, hl⟩ => ⟨vs, vs[i]'(by omega), h, by simp⟩, fun H ⟨vs, h, hl⟩ => ⟨vs, h, by omega⟩, fun i H x H' _ _ y => y⟩
theorem wk_lst {a : Addr} {j : Nat} {ds : List D} (hj : ρ[j]? = some a) : Wk K ρ H ds [(j, ds)] (Itl K a) := by
  have look : ∀ {ρ2 : List Addr} {H2 : Hp} {st2 : Store}, Grow ρ H ρ2 H2 → Sim K ρ2 st2 H2 → gdOk st2 [(j, ds)] = true → ∃ vs, SqL K H2 a vs ∧ Reps K ρ2 H2 ds vs := fun {ρ2 H2 st2} g S h => by
    obtain ⟨vs, h1, h2⟩ := S.ob j _ a (gd_one.mp h) (g.ix hj)
    exact ⟨vs, SqL.of h1, h2⟩
  refine ⟨_, _, walk_len, fun ρ2 H2 st2 g S h => ?_, fun i ρ2 H2 st2 x H3 g S h hi y => ?_⟩
  · obtain ⟨vs, h1, h2⟩ := look g S h
    exact ⟨vs, h1, h2.length.symm⟩
  · obtain ⟨rfl, y⟩ := y
    obtain ⟨vs, h1, h2⟩ := look g S h
    obtain ⟨d, h3, h4⟩ := h2.get' (y vs h1)
    exact ⟨Grow.refl _ _, S, d, h3, h4⟩
theorem wk_str {z : Str} : Wk K ρ H (z.cps.toList.map fun c => D.str ⟨#[c]⟩) [] (Its z) := by
  refine ⟨_, _, by simpa using walk_str (z := z), fun _ _ _ _ _ _ => trivial, fun i ρ2 H2 st2 x H3 g S _ hi y => ?_⟩
  obtain ⟨rfl, c, h1, rfl⟩ := y
  refine ⟨Grow.refl _ _, S, .str ⟨#[c]⟩, ?_, .str _⟩
  rw [List.getElem?_map, Array.getElem?_toList, h1]
  rfl
theorem rngI_get {lo hi : Int} {i : Nat} (h : i < (rngI lo hi).length) : (rngI lo hi)[i]? = some (.int (lo + (i : Nat))) := by
  unfold rngI at h ⊢
  rw [List.length_map, List.length_range] at h
  rw [List.getElem?_map, List.getElem?_range h]
  rfl
theorem wk_rng {lo hi : Int} : Wk K ρ H (rngI lo hi) [] (Itr lo (hi - lo).toNat) := by
  have hl : (rngI lo hi).length = (hi - lo).toNat := by unfold rngI; simp
  refine ⟨_, _, by rw [hl]; exact walk_range, fun _ _ _ _ _ _ => trivial, fun i ρ2 H2 st2 x H3 g S _ hi' y => ?_⟩
  obtain ⟨rfl, rfl⟩ := y
  exact ⟨Grow.refl _ _, S, _, rngI_get hi', .int _⟩
theorem pairs_len : ∀ (l : List D) (n : Nat), (pairs n l).length = l.length
  | [], _ => rfl
  | _ :: r, n => congrArg (· + 1) (pairs_len r (n + 1))
theorem pairs_get : ∀ (l : List D) (n i : Nat), (pairs n l)[i]? = (l[i]?).map fun d => .tup [.int ((n + i : Nat) : Int), d]
  | [], _, _ => by simp [pairs]
  | d :: r, n, 0 => by simp [pairs]
  | d :: r, n, i + 1 => by
    have := pairs_get r (n + 1) i
    simp only [pairs, List.getElem?_cons_succ, this]
    congr 2
    funext z
    congr 4
    omega
theorem rep_pair {ρ2 : List Addr} {H2 : Hp} {st2 : Store} {T : Addr} {i : Nat} {d : D} {v : V} (S : Sim K ρ2 st2 H2) (hT : H2 T = none) (r : Rep K ρ2 H2 d v) : Grow ρ2 H2 ρ2 (upd H2 T (.tup [.int (i : Nat), v])) ∧ Sim K ρ2 st2 (upd H2 T (.tup [.int (i : Nat), v])) ∧
    Rep K ρ2 (upd H2 T (.tup [.int (i : Nat), v])) (.tup [.int (i : Nat), d]) (.ref T) :=
  ⟨grow_new hT, S.new hT, .tup (.inl (.inl upd_same)) (.cons (.int _) (.cons (r.grow (grow_new hT)) .nil)) (.inl upd_same)⟩
theorem walk_enumL {a : Addr} {n : Nat} : Walk (Ite K a) n (fun H => ∃ vs, SqL K H a vs ∧ vs.length = n) (fun i H v H' => ∃ T x, v = .ref T ∧ H T = none ∧ H' = upd H T (.tup [.int (i : Nat), x]) ∧ ∀ xs, SqL K H a xs → xs[i]? = some x) :=
  ⟨fun i H hi ⟨vs, h, hl⟩ => ⟨vs, vs[i]'(by omega), h, by simp⟩, fun H ⟨vs, h, hl⟩ => ⟨vs, h, by omega⟩, fun i H x H' _ _ y => y⟩
theorem wk_enumL {a : Addr} {ds : List D} {gd : List (Nat × List D)} (look : ∀ {ρ2 : List Addr} {H2 : Hp} {st2 : Store}, Grow ρ H ρ2 H2 → Sim K ρ2 st2 H2 → gdOk st2 gd = true → ∃ vs, SqL K H2 a vs ∧ Reps K ρ2 H2 ds vs) : Wk K ρ H (pairs 0 ds) gd (Ite K a) := by
  refine ⟨_, _, by rw [pairs_len]; exact walk_enumL, fun ρ2 H2 st2 g S h => ?_, fun i ρ2 H2 st2 x H3 g S h hi y => ?_⟩
  · obtain ⟨vs, h1, h2⟩ := look g S h
    exact ⟨vs, h1, h2.length.symm⟩
  · obtain ⟨T, v, rfl, hT, rfl, y⟩ := y
    obtain ⟨vs, h1, h2⟩ := look g S h
    obtain ⟨d, h3, h4⟩ := h2.get' (y vs h1)
    obtain ⟨q1, q2, q3⟩ := rep_pair (i := i) S hT h4
    refine ⟨q1, q2, _, ?_, q3⟩
    rw [pairs_get, h3]
    simp
theorem walk_enumT {a : Addr} {n : Nat} : Walk (IteT K a n) n (fun H => ∃ vs, SqT K H a vs ∧ vs.length = n) (fun i H v H' => ∃ T x, v = .ref T ∧ H T = none ∧ H' = upd H T (.tup [.int (i : Nat), x]) ∧ ∀ xs, SqT K H a xs → xs[i]? = some x) :=
  ⟨fun i H hi h => ⟨hi, h⟩, fun H h => ⟨Nat.le_refl _, h⟩, fun i H x H' _ _ y => y⟩
theorem wk_enumT {a : Addr} {ds : List D} {vs : List V} (h1 : SqT K H a vs) (h2 : Reps K ρ H ds vs) : Wk K ρ H (pairs 0 ds) [] (IteT K a vs.length) := by
  refine ⟨_, _, by rw [pairs_len, h2.length]; exact walk_enumT, fun ρ2 H2 st2 g S h => ?_, fun i ρ2 H2 st2 x H3 g S h hi y => ?_⟩
  · exact ⟨vs, g.sqt h1, rfl⟩
  obtain ⟨T, v, rfl, hT, rfl, y⟩ := y
  obtain ⟨d, h3, h4⟩ := (h2.grow g).get' (y vs (g.sqt h1))
  obtain ⟨q1, q2, q3⟩ := rep_pair (i := i) S hT h4
  refine ⟨q1, q2, _, ?_, q3⟩
  rw [pairs_get, h3]
  simp
theorem wk_enumS {z : Str} : Wk K ρ H (pairs 0 (z.cps.toList.map fun c => D.str ⟨#[c]⟩)) [] (Itx z.cps.size fun i v => ∃ c, z.cps[i]? = some c ∧ v = .str ⟨#[c]⟩) := by
  have hl : (pairs 0 (z.cps.toList.map fun c => D.str ⟨#[c]⟩)).length = z.cps.size := by rw [pairs_len]; simp
  refine ⟨fun _ => True, fun i H v H' => ∃ T x, v = .ref T ∧ H T = none ∧ H' = upd H T (.tup [.int (i : Nat), x]) ∧ ∃ c, z.cps[i]? = some c ∧ x = .str ⟨#[c]⟩, ?_, fun _ _ _ _ _ _ => trivial, fun i ρ2 H2 st2 x H3 g S _ hi y => ?_⟩
  · rw [hl]
    exact ⟨fun i H hi _ => hi, fun H _ => Nat.le_refl _, fun i H x H' _ _ y => y⟩
  · obtain ⟨T, v, rfl, hT, rfl, c, h1, rfl⟩ := y
    obtain ⟨q1, q2, q3⟩ := rep_pair (i := i) S hT (.str (K := K) (ρ := ρ2) (H := H2) ⟨#[c]⟩)
    refine ⟨q1, q2, _, ?_, q3⟩
    rw [pairs_get, List.getElem?_map, Array.getElem?_toList, h1]
    simp
end
section
variable {X : Cx} {tg a b : Expr} {ma mb : Env → M D} {p pos : Pos}
theorem sndI_seq (ha : SndE X a ma) : SndI X tg a (fun env => M.bind (ma env) fun x => seqS x) := by
  intro ρ st env σ H pr st' S R e
  obtain ⟨x, st1, e1, e2⟩ := bind_ok e
  unfold seqS at e2
  split at e2
  · cases e2
    refine ⟨_, pi_tup pe_we, fun R' h => ha ρ st env σ H _ _ S R e1 _ fun ρ1 H1 v g1 S1 r1 => ?_⟩
    obtain ⟨ad, vs, rfl, h1, h2⟩ := rep_tup r1
    exact ⟨ad, rfl, ⟨vs, h1⟩, h ρ1 H1 _ g1 S1 (wk_tup h1 h2)⟩
  · cases e2
    refine ⟨_, pi_list pe_we, fun R' h => ha ρ st env σ H _ _ S R e1 _ fun ρ1 H1 v g1 S1 r1 => ?_⟩
    cases r1 with
    | fls h1 h2 => exact ⟨_, rfl, ⟨_, h1.sq⟩, h ρ1 H1 _ g1 S1 (wk_fls h1 h2)⟩
  · cases e2
    refine ⟨_, pi_str pe_we, fun R' h => ha ρ st env σ H _ _ S R e1 _ fun ρ1 H1 v g1 S1 r1 => ?_⟩
    cases r1
    exact ⟨_, rfl, h ρ1 H1 _ g1 S1 wk_str⟩
  · split at e2
    · rename_i xs hj
      cases e2
      refine ⟨_, pi_list pe_we, fun R' h => ha ρ st env σ H _ _ S R e1 _ fun ρ1 H1 v g1 S1 r1 => ?_⟩
      cases r1 with
      | ob hx =>
        obtain ⟨vs, h1, h2⟩ := S1.ob _ _ _ hj hx
        exact ⟨_, rfl, ⟨vs, SqL.of h1⟩, h ρ1 H1 _ g1 S1 (wk_lst hx)⟩
    · cases e2
  · cases e2
theorem rng_ok {i : Int} (h : rngOk i = true) : -(2 ^ 62) ≤ i ∧ i < 2 ^ 62 := by
  unfold rngOk at h
  rw [Bool.and_eq_true] at h
  exact ⟨of_decide_eq_true h.1, of_decide_eq_true h.2⟩
theorem sndI_rng1 (hg : Gl X "range") (hm : X.mg "range" = none) (hs : starEach [a] X.env = [(false, eval a X.env)]) (ha : SndE X a ma) : SndI X tg (.Call (.Name "range" p) [a] [] pos) (fun env => M.bind (ma env) fun x => match x with
    | .int n => fun st => if rngOk n = true then .ok (rngI 0 n, []) st else .no
    | _ => fun _ => .no) := by
  intro ρ st env σ H pr st' S R e
  obtain ⟨x, st1, e1, e2⟩ := bind_ok e
  cases x with
  | int n =>
    dsimp only at e2
    split at e2
    · rename_i hr
      cases e2
      obtain ⟨h1, h2⟩ := rng_ok hr
      refine ⟨_, pi_range1 hg hm (pa_cons pe_we pa_nil hs) hs, fun R' h => ha ρ st env σ H _ _ S R e1 _ fun ρ1 H1 v g1 S1 r1 => ?_⟩
      cases r1
      have w := wk_rng (K := X.K) (ρ := ρ1) (H := H1) (lo := 0) (hi := n)
      rw [Int.sub_zero] at w
      exact ⟨n, rfl, h1, h2, h ρ1 H1 _ g1 S1 w⟩
    · cases e2
  | _ => cases e2
theorem sndI_rng2 (hg : Gl X "range") (hm : X.mg "range" = none) (hs : starEach [a, b] X.env = [(false, eval a X.env), (false, eval b X.env)]) (hs2 : starEach [b] X.env = [(false, eval b X.env)]) (ha : SndE X a ma) (hb : SndE X b mb) :
    SndI X tg (.Call (.Name "range" p) [a, b] [] pos) (fun env => M.bind (ma env) fun x => M.bind (mb env) fun y => match x, y with
    | .int l, .int h => fun st => if rngOk l = true ∧ rngOk h = true then .ok (rngI l h, []) st else .no
    | _, _ => fun _ => .no) := by
  intro ρ st env σ H pr st' S R e
  obtain ⟨x, st1, e1, e2⟩ := bind_ok e
  obtain ⟨y, st2, e2', e3⟩ := bind_ok e2
  clear e2 e
  split at e3
  · rename_i l h
    split at e3
    · rename_i hr
      cases e3
      obtain ⟨h1, h2⟩ := rng_ok hr.1
      obtain ⟨h3, h4⟩ := rng_ok hr.2
      refine ⟨_, pi_range2 hg hm (pa_cons pe_we (pa_cons pe_we pa_nil hs2) (by rw [hs, hs2])) hs hs2, fun R' hR => snd_two ha hb S R e1 e2' fun ρ' H' v w g' S' r1 r2 => ?_⟩
      cases r1; cases r2
      exact ⟨l, h, rfl, ⟨h1, h2, h3, h4⟩, hR ρ' H' _ g' S' wk_rng⟩
    · cases e3
  · cases e3
theorem sndI_enum {elts : List Expr} {kk : Nat} {tpos : Pos} (hg : Gl X "enumerate") (hm : X.mg "enumerate" = none) (hs : starEach [a] X.env = [(false, eval a X.env)]) (ha : SndE X a ma) :
    SndI X (.Tuple elts kk tpos) (.Call (.Name "enumerate" p) [a] [] pos) (fun env => M.bind (ma env) fun x => enumS x) := by
  intro ρ st env σ H pr st' S R e
  obtain ⟨x, st1, e1, e2⟩ := bind_ok e
  unfold enumS at e2
  split at e2
  · cases e2
    refine ⟨_, pi_enumT hg hm (pa_cons pe_we pa_nil hs) hs, fun R' h => ha ρ st env σ H _ _ S R e1 _ fun ρ1 H1 v g1 S1 r1 => ?_⟩
    obtain ⟨ad, vs, rfl, h1, h2⟩ := rep_tup r1
    exact ⟨ad, vs, rfl, h1, h ρ1 H1 _ g1 S1 (wk_enumT h1 h2)⟩
  · cases e2
    refine ⟨_, pi_enum hg hm (pa_cons pe_we pa_nil hs) hs, fun R' h => ha ρ st env σ H _ _ S R e1 _ fun ρ1 H1 v g1 S1 r1 => ?_⟩
    cases r1 with
    | fls h1 h2 => exact ⟨_, _, rfl, h1.sq, h ρ1 H1 _ g1 S1 (wk_enumL fun g S _ => ⟨_, (g.sqf h1).sq, h2.grow g⟩)⟩
  · cases e2
    refine ⟨_, pi_enumS hg hm (pa_cons pe_we pa_nil hs) hs, fun R' h => ha ρ st env σ H _ _ S R e1 _ fun ρ1 H1 v g1 S1 r1 => ?_⟩
    cases r1
    exact ⟨_, rfl, h ρ1 H1 _ g1 S1 wk_enumS⟩
  · split at e2
    · rename_i xs hj
      cases e2
      refine ⟨_, pi_enum hg hm (pa_cons pe_we pa_nil hs) hs, fun R' h => ha ρ st env σ H _ _ S R e1 _ fun ρ1 H1 v g1 S1 r1 => ?_⟩
      cases r1 with
      | ob hx =>
        obtain ⟨vs, h1, h2⟩ := S1.ob _ _ _ hj hx
        refine ⟨_, vs, rfl, SqL.of h1, h ρ1 H1 _ g1 S1 (wk_enumL fun {ρ2 H2 st2} g S hgd => ?_)⟩
        obtain ⟨vs', h3, h4⟩ := S.ob _ _ _ (gd_one.mp hgd) (g.ix hx)
        exact ⟨vs', SqL.of h3, h4⟩
    · cases e2
  · cases e2
end
theorem pairs2_len : ∀ xs ys : List D, (pairs2 xs ys).length = min xs.length ys.length
  | [], _ => by simp [pairs2]
  | _ :: _, [] => by simp [pairs2]
  | x :: xs, y :: ys => by simp only [pairs2, List.length_cons, pairs2_len xs ys]; omega
theorem pairs2_get : ∀ (xs ys : List D) (i : Nat) (x y : D), xs[i]? = some x → ys[i]? = some y → (pairs2 xs ys)[i]? = some (.tup [x, y])
  | [], _, _, _, _, h, _ => by simp at h
  | _ :: _, [], _, _, _, _, h => by simp at h
  | x :: xs, y :: ys, 0, a, b, h1, h2 => by simp at h1 h2; simp [pairs2, h1, h2]
  | x :: xs, y :: ys, i + 1, a, b, h1, h2 => by
    simp only [pairs2, List.getElem?_cons_succ] at h1 h2 ⊢
    exact pairs2_get xs ys i a b h1 h2
theorem rep_two {K : PySem.W.Frag} {ρ2 : List Addr} {H2 : Hp} {st2 : Store} {T : Addr} {d e : D} {v w : V} (S : Sim K ρ2 st2 H2) (hT : H2 T = none) (r : Rep K ρ2 H2 d v) (q : Rep K ρ2 H2 e w) : Grow ρ2 H2 ρ2 (upd H2 T (.tup [v, w])) ∧ Sim K ρ2 st2 (upd H2 T (.tup [v, w])) ∧
    Rep K ρ2 (upd H2 T (.tup [v, w])) (.tup [d, e]) (.ref T) :=
  ⟨grow_new hT, S.new hT, .tup (.inl (.inl upd_same)) (.cons (r.grow (grow_new hT)) (.cons (q.grow (grow_new hT)) .nil)) (.inl upd_same)⟩
theorem walk_zipL {K : PySem.W.Frag} {a b : Addr} {n : Nat} : Walk (Itz K a b) n (fun H => ∃ xs ys, SqL K H a xs ∧ SqL K H b ys ∧ min xs.length ys.length = n)
    (fun i H v H' => ∃ T x y, v = .ref T ∧ H T = none ∧ H' = upd H T (.tup [x, y]) ∧ (∀ xs, SqL K H a xs → xs[i]? = some x) ∧ ∀ ys, SqL K H b ys → ys[i]? = some y) :=
  ⟨fun i H hi ⟨xs, ys, h1, h2, hl⟩ => ⟨xs, ys, xs[i]'(by omega), ys[i]'(by omega), h1, h2, by simp, by simp⟩, fun H ⟨xs, ys, h1, h2, hl⟩ => ⟨xs, ys, h1, h2, by omega⟩, fun i H x H' _ _ y => y⟩
theorem walk_zipT {K : PySem.W.Frag} {a b : Addr} {n : Nat} : Walk (RZ.ItzT K a b) n (fun H => ∃ xs ys, SqT K H a xs ∧ SqT K H b ys ∧ min xs.length ys.length = n)
    (fun i H v H' => ∃ T x y, v = .ref T ∧ H T = none ∧ H' = upd H T (.tup [x, y]) ∧ (∀ xs, SqT K H a xs → xs[i]? = some x) ∧ ∀ ys, SqT K H b ys → ys[i]? = some y) :=
  ⟨fun i H hi ⟨xs, ys, h1, h2, hl⟩ => ⟨xs, ys, xs[i]'(by omega), ys[i]'(by omega), h1, h2, by simp, by simp⟩, fun H ⟨xs, ys, h1, h2, hl⟩ => ⟨xs, ys, h1, h2, by omega⟩, fun i H x H' _ _ y => y⟩
theorem wk_zipL {K : PySem.W.Frag} {ρ : List Addr} {H : Hp} {a b : Addr} {ds es : List D} {gd : List (Nat × List D)} (look : ∀ {ρ2 : List Addr} {H2 : Hp} {st2 : Store}, Grow ρ H ρ2 H2 → Sim K ρ2 st2 H2 → gdOk st2 gd = true → ∃ vs ws, SqL K H2 a vs ∧ Reps K ρ2 H2 ds vs ∧ SqL K H2 b ws ∧ Reps K ρ2 H2 es ws) : Wk K ρ H (pairs2 ds es) gd (Itz K a b) := by
  refine ⟨_, _, by rw [pairs2_len]; exact walk_zipL, fun ρ2 H2 st2 g S h => ?_, fun i ρ2 H2 st2 x H3 g S h hi y => ?_⟩
  · obtain ⟨vs, ws, h1, h2, h3, h4⟩ := look g S h
    exact ⟨vs, ws, h1, h3, by rw [h2.length, h4.length]⟩
  · obtain ⟨T, v, w, rfl, hT, rfl, y1, y2⟩ := y
    obtain ⟨vs, ws, h1, h2, h3, h4⟩ := look g S h
    obtain ⟨d, d1, d2⟩ := h2.get' (y1 vs h1)
    obtain ⟨e, e1, e2⟩ := h4.get' (y2 ws h3)
    obtain ⟨q1, q2, q3⟩ := rep_two S hT d2 e2
    exact ⟨q1, q2, _, pairs2_get _ _ _ _ _ d1 e1, q3⟩
theorem wk_zipT {K : PySem.W.Frag} {ρ : List Addr} {H : Hp} {a b : Addr} {ds es : List D} {gd : List (Nat × List D)} (look : ∀ {ρ2 : List Addr} {H2 : Hp} {st2 : Store}, Grow ρ H ρ2 H2 → Sim K ρ2 st2 H2 → gdOk st2 gd = true → ∃ vs ws, SqT K H2 a vs ∧ Reps K ρ2 H2 ds vs ∧ SqT K H2 b ws ∧ Reps K ρ2 H2 es ws) : Wk K ρ H (pairs2 ds es) gd (RZ.ItzT K a b) := by
  refine ⟨_, _, by rw [pairs2_len]; exact walk_zipT, fun ρ2 H2 st2 g S h => ?_, fun i ρ2 H2 st2 x H3 g S h hi y => ?_⟩
  · obtain ⟨vs, ws, h1, h2, h3, h4⟩ := look g S h
    exact ⟨vs, ws, h1, h3, by rw [h2.length, h4.length]⟩
  · obtain ⟨T, v, w, rfl, hT, rfl, y1, y2⟩ := y
    obtain ⟨vs, ws, h1, h2, h3, h4⟩ := look g S h
    obtain ⟨d, d1, d2⟩ := h2.get' (y1 vs h1)
    obtain ⟨e, e1, e2⟩ := h4.get' (y2 ws h3)
    obtain ⟨q1, q2, q3⟩ := rep_two S hT d2 e2
    exact ⟨q1, q2, _, pairs2_get _ _ _ _ _ d1 e1, q3⟩
theorem sndI_zip {X : Cx} {a b : Expr} {ma mb : Env → M D} {p pos : Pos} {elts : List Expr} {kk : Nat} {tpos : Pos} (hg : Gl X "zip") (hm : X.mg "zip" = none) (hs : starEach [a, b] X.env = (false, eval a X.env) :: starEach [b] X.env) (hs2 : starEach [b] X.env = [(false, eval b X.env)]) (ha : SndE X a ma) (hb : SndE X b mb) :
    SndI X (.Tuple elts kk tpos) (.Call (.Name "zip" p) [a, b] [] pos) (fun env => M.bind (ma env) fun x => M.bind (mb env) fun y => zipS x y) := by
  intro ρ st env σ H pr st' S R e
  obtain ⟨x, st1, e1, e⟩ := bind_ok e
  obtain ⟨y, st2, e2, e3⟩ := bind_ok e
  have hpl : (backTo pos (starEach [b] X.env)).any (·.1) = false := by rw [hs2]; rfl
  refine ⟨_, RZ.pi_zipA hg hm (pa_cons pe_we (pa_cons pe_we pa_nil hs2) (by rw [hs, hs2])) hs hpl, fun R' h => ?_⟩
  refine snd_two ha hb S R e1 e2 fun ρ1 H1 v w g1 S1 r1 r2 => ?_
  unfold zipS at e3
  split at e3
  · cases e3
    cases r1 with
    | tup h1 h2 _ =>
      cases r2 with
      | tup h3 h4 _ => exact ⟨_, _, _, _, rfl, .inr ⟨h1, h3, h ρ1 H1 _ g1 S1 (wk_zipT fun g S _ => ⟨_, _, g.sqt h1, h2.grow g, g.sqt h3, h4.grow g⟩)⟩⟩
  · split at e3
    · rename_i xs ys hj hi
      cases e3
      cases r1 with
      | ob hx =>
        cases r2 with
        | ob hy =>
          obtain ⟨vs, h1, h2⟩ := S1.ob _ _ _ hj hx
          obtain ⟨ws, h3, h4⟩ := S1.ob _ _ _ hi hy
          refine ⟨_, _, vs, ws, rfl, .inl ⟨SqL.of h1, SqL.of h3, h ρ1 H1 _ g1 S1 (wk_zipL fun {ρ2 H2 st2} g S hgd => ?_)⟩⟩
          obtain ⟨k1, k2⟩ := gd_two.mp hgd
          obtain ⟨vs', h5, h6⟩ := S.ob _ _ _ k1 (g.ix hx)
          obtain ⟨ws', h7, h8⟩ := S.ob _ _ _ k2 (g.ix hy)
          exact ⟨vs', ws', SqL.of h5, h6, SqL.of h7, h8⟩
    · cases e3
  · cases e3
end W9

/-! W9m: targets, loops, comprehensions, statements -/
namespace W9
open PySem L2
def WG (X : Cx) (tg : Expr) : TG := fun v σ H Q => ∀ (pins : List (Addr × Obj)) (s : Shared) (u : Value), Inv X pins σ H s → RelV v u → wpAny (model X.prog X.w) X.A (assign tg X.env u) (fun _ s' => ∃ σ' H', Inv X pins σ' H' s' ∧ Q σ' H') X.xe s
theorem pg_wg {X : Cx} {tg : Expr} : PG X tg (WG X tg) := ⟨fun pins s σ H v u Q I r h => h pins s u I r⟩
theorem wg_of {X : Cx} {tg : Expr} {t : TG} {v : V} {σ : L2.St} {H : Hp} {Q : L2.St → Hp → Prop} (p : PG X tg t) (h : t v σ H Q) : WG X tg v σ H Q := fun pins s u I r => p.run pins s σ H v u Q I r h
def Tg.slots : Tg → List Nat
  | .name i => [i]
  | .tup is => is
  | .nest i is => i :: is
def SndG (X : Cx) (tg : Expr) (t : Tg) : Prop := ∀ ρ st env σ H d v env', Sim X.K ρ st H → EnvR X.K ρ H env σ → Rep X.K ρ H d v → bindT t d env st = some env' → ∀ Q : L2.St → Hp → Prop,
  (∀ σ', EnvR X.K ρ H env' σ' → (∀ vs : List Nat, (∀ i ∈ t.slots, i ∈ vs) → wipe σ' vs = wipe σ vs) → Q σ' H) → WG X tg v σ H Q
theorem wipe_at {σ : L2.St} {j : Nat} (hj : j < σ.length) : ∀ {vs : List Nat}, j ∈ vs → (wipe σ vs)[j]? = some none
  | [], h => absurd h (by simp)
  | v :: vs, h => by
    unfold wipe
    by_cases e : v = j
    · subst e
      rw [List.getElem?_set_self (by rw [wipe_length]; exact hj)]
    · rw [List.getElem?_set_ne e]
      rcases List.mem_cons.mp h with h | h
      · exact absurd h.symm e
      · exact wipe_at hj h
theorem wipe_set {σ : L2.St} {i : Nat} {x : Option V} {vs : List Nat} (hi : i ∈ vs) : wipe (σ.set i x) vs = wipe σ vs := by
  apply List.ext_getElem?
  intro j
  by_cases hj : j < σ.length
  · by_cases hv : j ∈ vs
    · rw [wipe_at (by simpa using hj) hv, wipe_at hj hv]
    · rw [wipe_out hv, wipe_out hv, List.getElem?_set_ne (fun e => hv (by rw [← e]; exact hi))]
  · rw [List.getElem?_eq_none (by rw [wipe_length]; simpa using hj), List.getElem?_eq_none (by rw [wipe_length]; simpa using hj)]
section
variable {X : Cx} {pos : Pos}
theorem sndG_name {i : Nat} {x : Str} (hN : X.N.Nodup) (hi : X.N[i]? = some x) (hx : Loc X.env.scope x) (hf : X.fn x = true ∨ X.env.scope.names.lookup x = some .local) : SndG X (.Name x pos) (.name i) := by
  intro ρ st env σ H d v env' S R r e Q h
  simp only [bindT] at e
  cases e
  exact wg_of (pg_name hN hi hx hf) (h _ (R.set r i) fun vs hv => wipe_set (hv i (by simp [Tg.slots])))
/-- names one after another -/
def gNames : List Nat → TGs
  | [] => gNil
  | i :: is => gCons (gName i) (gNames is)
def nameOk (X : Cx) (e : Expr) (i : Nat) : Prop := ∃ x p, e = .Name x p ∧ X.N[i]? = some x ∧ Loc X.env.scope x ∧ (X.fn x = true ∨ X.env.scope.names.lookup x = some .local)
inductive Nms (X : Cx) : List Expr → List Nat → Prop
  | nil : Nms X [] []
  | cons {e : Expr} {es : List Expr} {i : Nat} {is : List Nat} : nameOk X e i → Nms X es is → Nms X (e :: es) (i :: is)
theorem pgs_names (hN : X.N.Nodup) : ∀ {es : List Expr} {is : List Nat}, Nms X es is → PGs X es (gNames is)
  | _, _, .nil => pgs_nil
  | _, _, .cons (es := es) h t => by
    obtain ⟨x, p, rfl, h1, h2, h3⟩ := h
    exact pgs_cons (pg_name hN h1 h2 h3) (pgs_names hN t) rfl
theorem nms_len : ∀ {es : List Expr} {is : List Nat}, Nms X es is → (assignEach es X.env).length = is.length ∧ (assignEach es X.env).findIdx? (·.1) = none ∧ es.length = is.length
  | _, _, .nil => ⟨rfl, rfl, rfl⟩
  | _, _, .cons h t => by
    obtain ⟨x, p, rfl, _⟩ := h
    obtain ⟨h1, h2, h3⟩ := nms_len t
    refine ⟨congrArg (· + 1) h1, ?_, congrArg (· + 1) h3⟩
    show List.findIdx? (·.1) ((false, assign (.Name x p) X.env) :: assignEach _ X.env) = none
    rw [List.findIdx?_cons]
    simp [h2]
theorem gNames_run {K : PySem.W.Frag} {ρ : List Addr} {H : Hp} {Q : L2.St → Hp → Prop} : ∀ (is : List Nat) (ds : List D) (vs : List V) (env : Env) (σ : L2.St), ds.length = is.length → Reps K ρ H ds vs → EnvR K ρ H env σ →
    (∀ σ', EnvR K ρ H ((is.zip ds).foldl (fun e p => e.set p.1 (some p.2)) env) σ' → (∀ ws : List Nat, (∀ i ∈ is, i ∈ ws) → wipe σ' ws = wipe σ ws) → Q σ' H) → gNames is vs σ H Q := by
  intro is
  induction is with
  | nil =>
    intro ds vs env σ hl r R h
    cases r with
    | nil => exact ⟨rfl, h σ R fun _ _ => rfl⟩
    | cons _ _ => simp at hl
  | cons i is ih =>
    intro ds vs env σ hl r R h
    cases r with
    | nil => simp at hl
    | @cons d ds v vs r t =>
      refine ⟨v, vs, rfl, ih ds vs _ _ (by simpa using hl) t (R.set r i) fun σ' R' hw => h σ' R' fun ws hws => ?_⟩
      rw [hw ws fun j hj => hws j (List.mem_cons_of_mem _ hj), wipe_set (hws i List.mem_cons_self)]
theorem sndG_tup {es : List Expr} {is : List Nat} {k : Nat} (hc : X.calm = true) (hN : X.N.Nodup) (hn : Nms X es is) : SndG X (.Tuple es k pos) (.tup is) := by
  intro ρ st env σ H d v env' S R r e Q h
  obtain ⟨l1, l2, l3⟩ := nms_len hn
  simp only [bindT] at e
  split at e
  · rename_i xs
    split at e
    · rename_i hl
      cases e
      obtain ⟨a, vs, rfl, h1, h2⟩ := rep_tup r
      exact wg_of (pg_tup hc (pgs_names hN hn) l1 l2) ⟨a, vs, rfl, h1, by rw [← h2.length]; exact hl, gNames_run _ _ _ _ _ hl h2 R h⟩
    · cases e
  · split at e
    · rename_i xs hj
      split at e
      · rename_i hl
        cases e
        cases r with
        | ob hx =>
          obtain ⟨vs, h1, h2⟩ := S.ob _ _ _ hj hx
          exact wg_of (pg_lst hc (pgs_names hN hn) l1 l2) ⟨_, vs, rfl, SqL.of h1, by rw [← h2.length]; exact hl, gNames_run _ _ _ _ _ hl h2 R h⟩
      · cases e
    · cases e
  · cases e

/-- (name, (name, ..)) -/
theorem sndG_nest {x : Str} {px p2 : Pos} {es : List Expr} {i : Nat} {is : List Nat} {k k2 : Nat} (hc : X.calm = true) (hN : X.N.Nodup) (h1 : nameOk X (.Name x px) i) (hn : Nms X es is) : SndG X (.Tuple [.Name x px, .Tuple es k2 p2] k pos) (.nest i is) := by
  intro ρ st env σ H d v env' S R r e Q h
  obtain ⟨l1, l2, l3⟩ := nms_len hn
  obtain ⟨x', p', e0, n1, n2, n3⟩ := h1
  cases e0
  simp only [bindT] at e
  split at e
  · rename_i d1 xs
    split at e
    · rename_i hl
      cases e
      obtain ⟨a, vs, rfl, q1, q2⟩ := rep_tup r
      cases q2 with
      | @cons _ _ v1 _ r1 q3 =>
        cases q3 with
        | @cons _ _ v2 _ r2 q4 =>
          cases q4
          obtain ⟨a2, vs2, rfl, t1, t2⟩ := rep_tup r2
          refine wg_of (pg_tup (n := 2) hc (pgs_cons (pg_name hN n1 n2 n3) (pgs_cons (pg_tup hc (pgs_names hN hn) l1 l2) pgs_nil rfl) rfl) rfl rfl) ⟨a, _, rfl, q1, rfl, v1, _, rfl, .ref a2, [], rfl, a2, vs2, rfl, t1, by rw [← t2.length]; exact hl, ?_⟩
          refine gNames_run _ _ _ _ _ hl t2 (R.set r1 i) fun σ' R' hw => ⟨rfl, h σ' R' fun ws hws => ?_⟩
          rw [hw ws fun j hj => hws j (List.mem_cons_of_mem _ hj), wipe_set (hws i List.mem_cons_self)]
    · cases e
  · cases e
/-! ### statements -/
def PostF (K : PySem.W.Frag) (ρ : List Addr) (H : Hp) (st : Store) (fl : Fl) (D : Ends) : Prop := match fl with
  | .nx env => ∀ ρ' H' σ', Grow ρ H ρ' H' → Sim K ρ' st H' → EnvR K ρ' H' env σ' → D.nx σ' H'
  | .bk env => ∀ ρ' H' σ', Grow ρ H ρ' H' → Sim K ρ' st H' → EnvR K ρ' H' env σ' → D.bk σ' H'
  | .ct env => ∀ ρ' H' σ', Grow ρ H ρ' H' → Sim K ρ' st H' → EnvR K ρ' H' env σ' → D.ct σ' H'
  | .ret d => ∀ ρ' H' v, Grow ρ H ρ' H' → Sim K ρ' st H' → Rep K ρ' H' d v → D.rt v H'
theorem PostF.grow {K : PySem.W.Frag} {ρ ρ1 : List Addr} {H H1 : Hp} {st : Store} {fl : Fl} {D : Ends} (p : PostF K ρ H st fl D) (g : Grow ρ H ρ1 H1) : PostF K ρ1 H1 st fl D := by
  cases fl with
  | nx env => exact fun ρ' H' σ' g' S R => p ρ' H' σ' (g.trans g') S R
  | bk env => exact fun ρ' H' σ' g' S R => p ρ' H' σ' (g.trans g') S R
  | ct env => exact fun ρ' H' σ' g' S R => p ρ' H' σ' (g.trans g') S R
  | ret d => exact fun ρ' H' v g' S R => p ρ' H' v (g.trans g') S R
def SndS (X : Cx) (s : Stmt) (m : Env → M Fl) : Prop := ∀ ρ st env σ H fl st', Sim X.K ρ st H → EnvR X.K ρ H env σ → m env st = .ok fl st' → ∀ D, PostF X.K ρ H st' fl D → WS X s D σ H
def SndSs (X : Cx) (s : List Stmt) (m : Env → M Fl) : Prop := ∀ ρ st env σ H fl st', Sim X.K ρ st H → EnvR X.K ρ H env σ → m env st = .ok fl st' → ∀ D, PostF X.K ρ H st' fl D → WSs X s D σ H
theorem sndSs_nil : SndSs X [] (fun env st => .ok (.nx env) st) := by
  intro ρ st env σ H fl st' S R e D P
  cases e
  exact wss_of pss_nil (P ρ H σ (Grow.refl _ _) S R)
theorem sndSs_cons {s : Stmt} {r : List Stmt} {m : Env → M Fl} {mr : Env → M Fl} (h1 : SndS X s m) (h2 : SndSs X r mr) : SndSs X (s :: r) (fun env => M.bind (m env) fun fl => match fl with
    | .nx e1 => mr e1
    | .ret d => fun st => .ok (.ret d) st
    | .bk e1 => fun st => .ok (.bk e1) st
    | .ct e1 => fun st => .ok (.ct e1) st) := by
  intro ρ st env σ H fl st' S R e D P
  obtain ⟨f1, st1, e1, e2⟩ := bind_ok e
  refine wss_of (pss_cons ps_ws pss_ws) (h1 ρ st env σ H f1 st1 S R e1 _ ?_)
  cases f1 with
  | nx env1 => exact fun ρ' H' σ' g' S' R' => h2 ρ' st1 env1 σ' H' fl st' S' R' e2 D (P.grow g')
  | ret d => cases e2; exact P
  | bk env1 => cases e2; exact P
  | ct env1 => cases e2; exact P
variable {a b c o i : Expr} {ma mb mo mi : Env → M D} {tc : Env → M Bool} {x : Str} {j : Nat}
theorem sndS_asg {pos' : Pos} (hN : X.N.Nodup) (hj : X.N[j]? = some x) (hx : Loc X.env.scope x) (hf : X.fn x = true ∨ X.env.scope.names.lookup x = some .local) (hs : swapsWith a (some (.Name x pos')) pos.line X.env = pure false) (ha : SndE X a ma) :
    SndS X (.Assign [.Name x pos'] a pos) (fun env => M.bind (ma env) fun d st => .ok (.nx (env.set j (some d))) st) := by
  intro ρ st env σ H fl st' S R e D P
  obtain ⟨d, st1, e1, e2⟩ := bind_ok e
  cases e2
  exact ws_of (ps_set hN hj hx pe_we hs hf) (ha ρ st env σ H d _ S R e1 _ fun ρ1 H1 v g1 S1 r1 => P ρ1 H1 _ g1 S1 ((R.grow g1).set r1 j))
theorem sndS_tgt {tg : Expr} {is : List Nat} (hs : swapsWithSole [tg] a pos.line X.env = pure false) (hw : swappedStores [tg] a X.env = pure none) (h1 : (assignEach [tg] X.env).map (·.2) = [assign tg X.env]) (ha : SndE X a ma) (hg : SndG X tg (.tup is)) :
    SndS X (.Assign [tg] a pos) (fun env => M.bind (ma env) fun d st => match bindT (.tup is) d env st with | some env1 => .ok (.nx env1) st | none => .no) := by
  intro ρ st env σ H fl st' S R e D P
  obtain ⟨d, st1, e1, e2⟩ := bind_ok e
  split at e2
  · rename_i env1 hb
    cases e2
    exact ws_of (ps_asg pe_we pg_wg hs hw h1) (ha ρ st env σ H d _ S R e1 _ fun ρ1 H1 v g1 S1 r1 => hg ρ1 _ env σ H1 d v env1 S1 (R.grow g1) r1 hb _ fun σ' R' _ => P ρ1 H1 σ' g1 S1 R')
  · cases e2
theorem sndS_par2 {y : Str} {l k2 : Nat} {kt : Nat} {px py pt pt2 : Pos} {ms : Env → M (List D)} (hc : X.calm = true) (hN : X.N.Nodup) (hj : X.N[j]? = some x) (hl : X.N[l]? = some y) (hjl : j ≠ l) (hx : X.env.scope.names.lookup x = some .local) (hy : X.env.scope.names.lookup y = some .local)
    (hw : swappedStores [.Tuple [.Name x px, .Name y py] kt pt] (.Tuple [a, b] k2 pt2) X.env = pure (some [x, y])) (hA : SndA X [a, b] ms) :
    SndS X (.Assign [.Tuple [.Name x px, .Name y py] kt pt] (.Tuple [a, b] k2 pt2) pos) (fun env => M.bind (M.bind (ms env) fun ds st => if ds.length ≤ bigN then .ok (.tup ds) st else .no) fun d st => match bindT (.tup [j, l]) d env st with | some env1 => .ok (.nx env1) st | none => .no) := by
  intro ρ st env σ H fl st' S R e D P
  obtain ⟨d, st1, e1, e2⟩ := bind_ok e
  obtain ⟨ds, st2, e1, e3⟩ := bind_ok e1
  split at e3
  · cases e3
    simp only [bindT] at e2
    split at e2
    · rename_i env1 hb
      cases e2
      split at hb
      · rename_i hlen
        cases hb
        refine ws_of (ps_par hc hN hj hl hjl hx hy pa_wa hw rfl) (hA ρ st env σ H ds _ S R e1 _ fun ρ1 H1 vs g1 S1 r1 => ?_)
        match ds, vs, r1, hlen with
        | [d1, d2], [v1, v2], .cons q1 (.cons q2 .nil), _ => exact ⟨v1, v2, rfl, P ρ1 H1 _ g1 S1 (((R.grow g1).set q1 j).set q2 l)⟩
      · cases hb
    · cases e2
  · cases e3
theorem sndS_par3 {y z : Str} {l n k2 : Nat} {kt : Nat} {px py pz pt pt2 : Pos} {ms : Env → M (List D)} (hc : X.calm = true) (hN : X.N.Nodup) (hj : X.N[j]? = some x) (hl : X.N[l]? = some y) (hn : X.N[n]? = some z) (hjl : j ≠ l) (hjn : j ≠ n) (hln : l ≠ n)
    (hx : X.env.scope.names.lookup x = some .local) (hy : X.env.scope.names.lookup y = some .local) (hz : X.env.scope.names.lookup z = some .local)
    (hw : swappedStores [.Tuple [.Name x px, .Name y py, .Name z pz] kt pt] (.Tuple [a, b, c] k2 pt2) X.env = pure (some [x, y, z])) (hA : SndA X [a, b, c] ms) :
    SndS X (.Assign [.Tuple [.Name x px, .Name y py, .Name z pz] kt pt] (.Tuple [a, b, c] k2 pt2) pos) (fun env => M.bind (M.bind (ms env) fun ds st => if ds.length ≤ bigN then .ok (.tup ds) st else .no) fun d st => match bindT (.tup [j, l, n]) d env st with | some env1 => .ok (.nx env1) st | none => .no) := by
  intro ρ st env σ H fl st' S R e D P
  obtain ⟨d, st1, e1, e2⟩ := bind_ok e
  obtain ⟨ds, st2, e1, e3⟩ := bind_ok e1
  split at e3
  · cases e3
    simp only [bindT] at e2
    split at e2
    · rename_i env1 hb
      cases e2
      split at hb
      · rename_i hlen
        cases hb
        refine ws_of (ps_par3 hc hN hj hl hn hjl hjn hln hx hy hz pa_wa hw rfl) (hA ρ st env σ H ds _ S R e1 _ fun ρ1 H1 vs g1 S1 r1 => ?_)
        match ds, vs, r1, hlen with
        | [d1, d2, d3], [v1, v2, v3], .cons q1 (.cons q2 (.cons q3 .nil)), _ => exact ⟨v1, v2, v3, rfl, P ρ1 H1 _ g1 S1 ((((R.grow g1).set q1 j).set q2 l).set q3 n)⟩
      · cases hb
    · cases e2
  · cases e3
theorem ok_set (hu : X.A.units + 1 < cLine) {ρ : List Addr} {st st' : Store} {H : Hp} {od id d : D} {ov iv v : V} (S : Sim X.K ρ st H) (ro : Rep X.K ρ H od ov) (ri : Rep X.K ρ H id iv) (rd : Rep X.K ρ H d v) (e : setD od id d st = .ok () st') :
    ∀ (pins : List (Addr × Obj)) (s : Shared) (σ : L2.St) (uo ui u : Value), Inv X pins σ H s → RelV ov uo → RelV iv ui → RelV v u → wpAny (model X.prog X.w) X.A (setItem uo ui u) (fun _ s' => ∃ H', Inv X pins σ H' s' ∧ Grow ρ H ρ H' ∧ Sim X.K ρ st' H') X.xe s := by
  intro pins s σ uo ui u I r1 r2 r3
  cases ro with
  | ob hx =>
    simp only [setD] at e
    split at e
    · rename_i xs hj
      obtain ⟨vs, h1, h2⟩ := S.ob _ _ _ hj hx
      have mu := mutL h1
      split at e
      · rename_i k
        split at e
        · rename_i n hn
          cases e
          cases ri
          refine set_list pins s σ H _ _ v uo ui u (fun H' => Grow ρ H ρ H' ∧ Sim X.K ρ _ H') I r1 r2 r3 ⟨_, vs, k, n, rfl, rfl, h1, by rw [← h2.length]; exact hn, S.grow_set hx mu, S.set hx mu ⟨_, upd_same, ((h2.set rd n).grow (S.grow_set hx mu))⟩⟩
        · cases e
      · cases e
    · rename_i kvs hj
      split at e
      · rename_i hk
        cases e
        obtain ⟨H2, ov2, w, I2, g, back, res, p, mu, ob'⟩ := dp_at I S hx (S.ob _ _ _ hj hx) ri hk.1 hk.2 rd
        cases r1
        exact d_setItem hu I2 p r2 r3 fun s' J => ⟨_, J, S.grow_set hx mu, S.set hx mu ob'⟩
      · cases e
    · cases e
  | _ => simp only [setD] at e; cases e
theorem sndS_set {pos' : Pos} (hu : X.A.units + 1 < cLine) (hs : swapsWith a (some (.Subscript o i pos')) pos.line X.env = pure false) (ha : SndE X a ma) (ho : SndE X o mo) (hi : SndE X i mi) :
    SndS X (.Assign [.Subscript o i pos'] a pos) (fun env => M.bind (ma env) fun d => M.bind (mo env) fun x => M.bind (mi env) fun y => M.bind (setD x y d) fun _ st => .ok (.nx env) st) := by
  intro ρ st env σ H fl st' S R e D P pins s I
  obtain ⟨d, st1, e1, e⟩ := bind_ok e
  obtain ⟨od, st2, e2, e⟩ := bind_ok e
  obtain ⟨id, st3, e3, e⟩ := bind_ok e
  obtain ⟨_, st4, e4, e5⟩ := bind_ok e
  cases e5
  have key : WE X a σ H fun v H1 => WE X o σ H1 fun ov H2 => WE X i σ H2 fun iv H3 => ∃ ρ3, Grow ρ H ρ3 H3 ∧ Sim X.K ρ3 st3 H3 ∧ Rep X.K ρ3 H3 d v ∧ Rep X.K ρ3 H3 od ov ∧ Rep X.K ρ3 H3 id iv :=
    ha ρ st env σ H d st1 S R e1 _ fun ρ1 H1 v g1 S1 r1 => ho ρ1 st1 env σ H1 od st2 S1 (R.grow g1) e2 _ fun ρ2 H2 ov g2 S2 r2 => hi ρ2 st2 env σ H2 id st3 S2 (R.grow (g1.trans g2)) e3 _ fun ρ3 H3 iv g3 S3 r3 =>
      ⟨ρ3, (g1.trans g2).trans g3, S3, r1.grow (g2.trans g3), r2.grow g3, r3⟩
  refine wpAny_Assign_Subscript (thn (key pins s I) fun u s1 ⟨v, H1, I1, rv, q1⟩ => thn (q1 pins s1 I1) fun uo s2 ⟨ov, H2, I2, ro, q2⟩ => thn (q2 pins s2 I2) fun ui s3 ⟨iv, H3, I3, ri, ρ3, g3, S3, h1, h2, h3⟩ => ?_) hs
  exact thn (ok_set hu S3 h2 h3 h1 e4 pins s3 σ uo ui u I3 ro ri rv) fun _ s4 ⟨H4, I4, g4, S4⟩ => ⟨σ, H4, I4, P ρ3 H4 σ (g3.trans g4) S4 (R.grow (g3.trans g4))⟩
theorem sndS_expr (hs : swapsWith a none pos.line X.env = pure false) (ha : SndE X a ma) : SndS X (.Expr a pos) (fun env => M.bind (ma env) fun _ st => .ok (.nx env) st) := by
  intro ρ st env σ H fl st' S R e D P
  obtain ⟨d, st1, e1, e2⟩ := bind_ok e
  cases e2
  exact ws_of (ps_expr pe_we hs) (ha ρ st env σ H d _ S R e1 _ fun ρ1 H1 v g1 S1 r1 => P ρ1 H1 σ g1 S1 (R.grow g1))
theorem sndS_ret (ha : SndE X a ma) : SndS X (.Return (some a) pos) (fun env => M.bind (ma env) fun d st => .ok (.ret d) st) := by
  intro ρ st env σ H fl st' S R e D P
  obtain ⟨d, st1, e1, e2⟩ := bind_ok e
  cases e2
  exact ws_of (ps_ret pe_we) (ha ρ st env σ H d _ S R e1 _ P)
theorem sndS_retN : SndS X (.Return none pos) (fun _ st => .ok (.ret .non) st) := by
  intro ρ st env σ H fl st' S R e D P
  cases e
  exact ws_of ps_retN (P ρ H .non (Grow.refl _ _) S .non)
theorem sndS_ite {sa sb : List Stmt} {m1 m2 : Env → M Fl} (hc : SndT X c tc) (h1 : SndSs X sa m1) (h2 : SndSs X sb m2) : SndS X (.If c sa sb pos) (fun env => M.bind (tc env) fun r => if r = true then m1 env else m2 env) := by
  intro ρ st env σ H fl st' S R e D P
  obtain ⟨r, st1, e1, e2⟩ := bind_ok e
  refine ws_of (ps_if pt_wt pss_ws pss_ws) (hc ρ st env σ H r st1 S R e1 _ fun ρ1 H1 g1 S1 => ?_)
  cases r with
  | true => rw [if_pos rfl] at e2 ⊢; exact h1 ρ1 st1 env σ H1 fl st' S1 (R.grow g1) e2 D (P.grow g1)
  | false => rw [if_neg (by decide)] at e2 ⊢; exact h2 ρ1 st1 env σ H1 fl st' S1 (R.grow g1) e2 D (P.grow g1)
theorem sndS_pass : SndS X (.Pass pos) (fun env st => .ok (.nx env) st) := by
  intro ρ st env σ H fl st' S R e D P
  cases e
  exact ws_of ps_pass (P ρ H σ (Grow.refl _ _) S R)
theorem sndS_brk : SndS X (.Break pos) (fun env st => .ok (.bk env) st) := by
  intro ρ st env σ H fl st' S R e D P
  cases e
  exact ws_of ps_break (P ρ H σ (Grow.refl _ _) S R)
theorem sndS_cont : SndS X (.Continue pos) (fun env st => .ok (.ct env) st) := by
  intro ρ st env σ H fl st' S R e D P
  cases e
  exact ws_of ps_continue (P ρ H σ (Grow.refl _ _) S R)
theorem sndS_never {s : Stmt} : SndS X s (fun _ _ => .no) := by
  intro ρ st env σ H fl st' S R e D P
  cases e
theorem ok_aug {op : Operator} {x y d : D} {st st' : Store} (h : augD op x y st = .ok d st') : st' = st ∧ ((op = .Add ∧ ∃ i j, x = .int i ∧ y = .int j ∧ d = .int (i + j)) ∨ (op = .Sub ∧ ∃ i j, x = .int i ∧ y = .int j ∧ d = .int (i - j))) := by
  unfold augD at h
  split at h
  · cases h; exact ⟨rfl, .inl ⟨rfl, _, _, rfl, rfl, rfl⟩⟩
  · cases h; exact ⟨rfl, .inr ⟨rfl, _, _, rfl, rfl, rfl⟩⟩
  · cases h
theorem sndS_aug {op : Operator} {pos' : Pos} (hN : X.N.Nodup) (hj : X.N[j]? = some x) (hx : Loc X.env.scope x) (hf : X.fn x = true ∨ X.env.scope.names.lookup x = some .local) (ha : SndE X a ma) :
    SndS X (.AugAssign (.Name x pos') op a pos) (fun env st => match env[j]? with
    | some (some x) => M.bind (ma env) (fun y => M.bind (augD op x y) fun z st => .ok (.nx (env.set j (some z))) st) st
    | _ => .no) := by
  intro ρ st env σ H fl st' S R e D P
  dsimp only at e
  split at e
  · rename_i xd hx1
    obtain ⟨y, st1, e1, e2⟩ := bind_ok e
    obtain ⟨z, st2, e2, e3⟩ := bind_ok e2
    cases e3
    obtain ⟨v0, h0, r0⟩ := R.at' _ _ hx1
    obtain ⟨hst, ha2⟩ := ok_aug e2
    subst hst
    rcases ha2 with ⟨rfl, i, k, rfl, rfl, rfl⟩ | ⟨rfl, i, k, rfl, rfl, rfl⟩
    · cases r0
      exact ws_of (ps_aug hN hj hx pe_we ip_add hf) ⟨_, h0, ha ρ st env σ H _ _ S R e1 _ fun ρ1 H1 v g1 S1 r1 => ⟨i, k, rfl, rep_int r1, P ρ1 H1 _ g1 S1 ((R.grow g1).set (.int _) j)⟩⟩
    · cases r0
      exact ws_of (ps_aug hN hj hx pe_we ip_sub hf) ⟨_, h0, ha ρ st env σ H _ _ S R e1 _ fun ρ1 H1 v g1 S1 r1 => ⟨i, k, rfl, rep_int r1, P ρ1 H1 _ g1 S1 ((R.grow g1).set (.int _) j)⟩⟩
  · cases e
end
/-! ### attributes -/
section
variable {X : Cx} {a o : Expr} {ma mo : Env → M D} {f : Str} {pos pos' : Pos} {fl : Str → Str → Bool}
theorem ok_setFld {ρ : List Addr} {st st' : Store} {H : Hp} {x d : D} {v w : V} (hfl : ∀ c C, fl c f = true → ClsN X.K c C → NoAttr X.K C f) (S : Sim X.K ρ st H) (r : Rep X.K ρ H x v) (q : Rep X.K ρ H d w) (e : setFldD fl f x d st = .ok () st') :
    ∃ a C dx vs, v = .ref a ∧ H a = some (.ins C dx vs) ∧ Cls X.K C ∧ NoAttr X.K C f ∧ vs.length < 1000 ∧ Grow ρ H ρ (upd H a (.ins C dx (putF f w vs))) ∧ Sim X.K ρ st' (upd H a (.ins C dx (putF f w vs))) := by
  simp only [setFldD] at e
  split at e
  · rename_i j
    split at e
    · rename_i c fs hj
      split at e
      · rename_i hc
        cases e
        have hi : insD st (.ob j) = some (c, fs) := by simp only [insD, hj]
        obtain ⟨j', a, C, dx, vs, e1, rfl, h1, h2, h3, h4, h5⟩ := ins_rep S r hi
        cases e1
        have hm : Mut (H a) := by rw [h4]; exact True.intro
        have g := S.grow_set (u := .ins C dx (putF f w vs)) h1 hm
        have hl := h5.length
        exact ⟨a, C, dx, vs, rfl, h4, h3.cls, hfl c C hc.1 h3, by omega, g, S.set h1 hm ⟨C, dx, putF f w vs, h3, upd_same, (FsR.put f q h5).keep g.keep⟩⟩
      · cases e
    · cases e
  · cases e
theorem sndS_setFld (hfl : ∀ c C, fl c f = true → ClsN X.K c C → NoAttr X.K C f) (hs : swapsWith a (some (.Attribute o f pos')) pos.line X.env = pure false) (ha : SndE X a ma) (ho : SndE X o mo) :
    SndS X (.Assign [.Attribute o f pos'] a pos) (fun env => M.bind (ma env) fun d => M.bind (mo env) fun x => M.bind (setFldD fl f x d) fun _ st => .ok (.nx env) st) := by
  intro ρ st env σ H fl' st' S R e D P
  obtain ⟨d, st1, e1, e⟩ := bind_ok e
  obtain ⟨x, st2, e2, e⟩ := bind_ok e
  obtain ⟨u, st3, e3, e4⟩ := bind_ok e
  cases e4
  refine ws_of (ps_fld pe_we pe_we hs) (snd_two ha ho S R e1 e2 fun ρ1 H1 w v g1 S1 rd rx => ?_)
  obtain ⟨b, C, dx, vs, rfl, h4, h5, h6, h7, g, S2⟩ := ok_setFld hfl S1 rx rd e3
  exact ⟨b, C, dx, vs, rfl, h4, h5, h6, h7, P ρ1 _ σ (g1.trans g) S2 (R.grow (g1.trans g))⟩
theorem sndS_augFld {op : Operator} (hfl : ∀ c C, fl c f = true → ClsN X.K c C → NoAttr X.K C f) (ha : SndE X a ma) (ho : SndE X o mo) :
    SndS X (.AugAssign (.Attribute o f pos') op a pos) (fun env => M.bind (mo env) fun x st => match insD st x with
      | some (c, _) => M.bind (fldD fl f x) (fun v => M.bind (ma env) fun y => M.bind (augD op v y) fun z => M.bind (sameC c x) fun _ => M.bind (setFldD fl f x z) fun _ st => .ok (.nx env) st) st
      | none => .no) := by
  intro ρ st env σ H fl' st' S R e D P
  obtain ⟨x, st1, e1, e⟩ := bind_ok e
  split at e
  rotate_left
  · cases e
  rename_i c fs hi
  obtain ⟨v0, st2, e2, e⟩ := bind_ok e
  obtain ⟨y, st3, e3, e⟩ := bind_ok e
  obtain ⟨z, st4, e4, e⟩ := bind_ok e
  obtain ⟨u0, st5, e5, e⟩ := bind_ok e
  obtain ⟨u, st6, e6, e7⟩ := bind_ok e
  cases e7
  obtain ⟨hst, ha2⟩ := ok_aug e4
  subst hst
  simp only [sameC] at e5
  split at e5
  rotate_left
  · cases e5
  rename_i c2 fs2 hi2
  split at e5
  rotate_left
  · cases e5
  rename_i hcc
  cases e5
  subst hcc
  simp only [fldD, hi] at e2
  split at e2
  rotate_left
  · cases e2
  rename_i hc
  split at e2
  rotate_left
  · cases e2
  rename_i d' hd
  cases e2
  have fin : ∀ {rd : V → V → Hp → VK → Prop}, InOp X op rd → (∀ (w1 w2 : V) (H1 : Hp) (Q : VK), (∃ ρ, Rep X.K ρ H1 v0 w1) → (∃ ρ, Rep X.K ρ H1 y w2) → (∀ w3, (∀ ρ, Rep X.K ρ H1 z w3) → Q w3 H1) → rd w1 w2 H1 Q) → WS X (.AugAssign (.Attribute o f pos') op a pos) D σ H := by
    intro rd hop hrd
    refine ws_of (ps_fldaug pe_we pe_we hop) (ho ρ st env σ H x _ S R e1 _ fun ρ1 H1 v g1 S1 r1 => ?_)
    obtain ⟨j, b, C, dx, vs, rfl, rfl, h1, h2, h3, h4, h5⟩ := ins_rep S1 r1 hi
    rcases h5.look f with ⟨q, _⟩ | ⟨d2, v2, z1, z2, z3⟩
    · rw [q] at hd; cases hd
    rw [z1] at hd; cases hd
    refine ⟨b, C, dx, vs, v2, rfl, h4, h3.cls, hfl _ C hc h3, z2, ha ρ1 _ env σ H1 y _ S1 (R.grow g1) e3 _ fun ρ2 H2 w g2 S2 r2 => hrd v2 w H2 _ ⟨ρ2, z3.grow g2⟩ ⟨ρ2, r2⟩ fun w3 hz => ?_⟩
    obtain ⟨b', C', dx', vs', eb, k4, k5, k6, k7, g, S3⟩ := ok_setFld hfl S2 (r1.grow g2) (hz ρ2) e6
    cases eb
    obtain ⟨j3, b3, C3, dx3, vs3, _, eb3, _, _, c3, hb3, _⟩ := ins_rep S2 (r1.grow g2) hi2
    cases eb3
    rw [k4] at hb3
    cases hb3
    have hC := c3.uniq h3
    subst hC
    exact ⟨dx', vs', k4, k7, P ρ2 _ σ ((g1.trans g2).trans g) S3 (R.grow ((g1.trans g2).trans g))⟩
  rcases ha2 with ⟨rfl, i, k, rfl, rfl, rfl⟩ | ⟨rfl, i, k, rfl, rfl, rfl⟩
  · exact fin in_add fun w1 w2 H1 Q ⟨_, q1⟩ ⟨_, q2⟩ h => ⟨i, k, rep_int q1, rep_int q2, h _ fun _ => .int _⟩
  · exact fin in_sub fun w1 w2 H1 Q ⟨_, q1⟩ ⟨_, q2⟩ h => ⟨i, k, rep_int q1, rep_int q2, h _ fun _ => .int _⟩
/-- a name's attributes, one after another -/
theorem pg_fld {to : TE} (ho : PE X o to) : PG X (.Attribute o f pos) (gFld X.K to f) := by
  refine ⟨fun pins s σ H v u Q I r h => ?_⟩
  rw [assign_Attribute]
  refine wpAny_bind (wpAny_holding (thn (ho.run pins s σ H _ I h) fun ov s1 ⟨x, H1, I1, r1, a, C, dx, fs, ex, ea, c, n, l, q⟩ => ?_))
  subst ex
  obtain rfl : ov = Value.ref a := r1
  exact wpAny_bind (wpAny_standAt (wpAny_bind (wpAny_holding (setattr_ok I1 ea c n l r fun s2 I2 => wpAny_release ⟨σ, _, I2, q⟩))))
end
/-- targets x.f, .. of one name -/
inductive Flts (X : Cx) (x : Str) : List Expr → List Str → Prop
  | nil : Flts X x [] []
  | cons {f : Str} {p q : Pos} {es : List Expr} {fs : List Str} : Flts X x es fs → Flts X x (.Attribute (.Name x p) f q :: es) (f :: fs)
def gFlds (K : PySem.W.Frag) (i : Nat) : List Str → TGs
  | [] => gNil
  | f :: fs => gCons (gFld K (tVar i) f) (gFlds K i fs)
section
variable {X : Cx} {a : Expr} {ma : Env → M D} {pos : Pos} {fl : Str → Str → Bool} {x : Str} {i : Nat}
theorem pgs_flds (hN : X.N[i]? = some x) (hv : Vis X.env.scope x) (hb : (x == ("__debug__" : Str)) = false) (hb2 : (x == ("__classdict__" : Str)) = false) : ∀ {es : List Expr} {fs : List Str}, Flts X x es fs → PGs X es (gFlds X.K i fs)
  | _, _, .nil => pgs_nil
  | _, _, .cons h => pgs_cons (pg_fld (pe_var hN hv hb hb2)) (pgs_flds hN hv hb hb2 h) rfl
theorem flts_len : ∀ {es : List Expr} {fs : List Str}, Flts X x es fs → (assignEach es X.env).length = fs.length ∧ (assignEach es X.env).findIdx? (·.1) = none
  | _, _, .nil => ⟨rfl, rfl⟩
  | _, _, .cons (f := f) (p := p) (q := q) h => by
    obtain ⟨h1, h2⟩ := flts_len h
    refine ⟨congrArg (· + 1) h1, ?_⟩
    show List.findIdx? (·.1) ((false, assign (.Attribute (.Name x p) f q) X.env) :: assignEach _ X.env) = none
    rw [List.findIdx?_cons]
    simp [h2]
theorem flds_run {v : V} {d : D} {env : Env} {σ : L2.St} {Q : L2.St → Hp → Prop} (hfl : ∀ f c C, fl c f = true → ClsN X.K c C → NoAttr X.K C f) (hσ : σ[i]? = some (some v)) : ∀ (fs : List Str) {ρ : List Addr} {H : Hp} {st st' : Store} {ds : List D} {vs : List V}, Sim X.K ρ st H → EnvR X.K ρ H env σ → Rep X.K ρ H d v → Reps X.K ρ H ds vs → setFlds fl d fs ds st = .ok () st' →
    (∀ H', Grow ρ H ρ H' → Sim X.K ρ st' H' → Q σ H') → gFlds X.K i fs vs σ H Q
  | [], ρ, H, st, st', ds, vs, S, R, r, rs, e, h => by
    cases rs with
    | nil => simp only [setFlds] at e; cases e; exact ⟨rfl, h H (Grow.refl _ _) S⟩
    | cons _ _ => simp only [setFlds] at e; cases e
  | f :: fs, ρ, H, st, st', ds, vs, S, R, r, rs, e, h => by
    cases rs with
    | nil => simp only [setFlds] at e; cases e
    | @cons d1 ds1 v1 vs1 r1 rs1 =>
      simp only [setFlds] at e
      obtain ⟨u, st1, e1, e2⟩ := bind_ok e
      obtain ⟨b, C, dx, ws, eb, k4, k5, k6, k7, g, S3⟩ := ok_setFld (hfl f) S r r1 e1
      subst eb
      exact ⟨v1, vs1, rfl, .ref b, hσ, b, C, dx, ws, rfl, k4, k5, k6, k7, flds_run hfl hσ fs S3 (R.grow g) (r.grow g) (rs1.grow g) e2 fun H' g' S' => h H' (g.trans g') S'⟩
theorem setFlds_len {x : D} : ∀ {fs : List Str} {ds : List D} {st st' : Store}, setFlds fl x fs ds st = .ok () st' → ds.length = fs.length
  | [], [], _, _, _ => rfl
  | [], _ :: _, _, _, e => by simp only [setFlds] at e; cases e
  | _ :: _, [], _, _, e => by simp only [setFlds] at e; cases e
  | f :: fs, d :: ds, st, st', e => by
    simp only [setFlds] at e
    obtain ⟨u, st1, e1, e2⟩ := bind_ok e
    exact congrArg (· + 1) (setFlds_len e2)
theorem sndS_asgF {es : List Expr} {fs : List Str} {k : Nat} {p : Pos} (hc : X.calm = true) (hfl : ∀ f c C, fl c f = true → ClsN X.K c C → NoAttr X.K C f) (hN : X.N[i]? = some x) (hv : Vis X.env.scope x) (hb : (x == ("__debug__" : Str)) = false) (hb2 : (x == ("__classdict__" : Str)) = false) (hf : Flts X x es fs)
    (hs : swapsWithSole [.Tuple es k p] a pos.line X.env = pure false) (hw : swappedStores [.Tuple es k p] a X.env = pure none) (ha : SndE X a ma) :
    SndS X (.Assign [.Tuple es k p] a pos) (fun env => M.bind (ma env) fun d st => match env[i]?, d with
      | some (some x), .tup ds => M.bind (setFlds fl x fs ds) (fun _ st => .ok (.nx env) st) st
      | _, _ => .no) := by
  intro ρ st env σ H fl' st' S R e D P
  obtain ⟨d, st1, e1, e2⟩ := bind_ok e
  split at e2
  · rename_i xd ds hx
    obtain ⟨u, st2, e2, e3⟩ := bind_ok e2
    cases e3
    obtain ⟨l1, l2⟩ := flts_len hf
    obtain ⟨v0, h0, r0⟩ := R.at' _ _ hx
    refine ws_of (ps_asg pe_we (pg_tup hc (pgs_flds hN hv hb hb2 hf) l1 l2) hs hw rfl) (ha ρ st env σ H _ _ S R e1 _ fun ρ1 H1 v g1 S1 r1 => ?_)
    obtain ⟨b, vs, rfl, h1, h2⟩ := rep_tup r1
    have hl : vs.length = fs.length := by rw [← h2.length]; exact setFlds_len e2
    exact ⟨b, vs, rfl, h1, hl, flds_run hfl h0 fs S1 (R.grow g1) (r0.grow g1) h2 e2 fun H' g' S' => P ρ1 H' σ (g1.trans g') S' (R.grow (g1.trans g'))⟩
  · cases e2
end
end W9

/-! W9n: for loops, list comprehensions -/
namespace W9
open PySem L2
theorem loopF_gd {gd : List (Nat × List D)} {f : D → Env → M Fl} : ∀ {l : List D} {env : Env} {st st' : Store} {fl : Fl}, loopF gd f l env st = .ok fl st' → gdOk st gd = true
  | [], env, st, st', fl, h => by
    simp only [loopF] at h
    split at h
    · assumption
    · cases h
  | d :: r, env, st, st', fl, h => by
    simp only [loopF] at h
    split at h
    · assumption
    · cases h
theorem loopC_gd {gd : List (Nat × List D)} {f : D → M (Option D)} : ∀ {l : List D} {st st' : Store} {ds : List D}, loopC gd f l st = .ok ds st' → gdOk st gd = true
  | [], st, st', fl, h => by
    simp only [loopC] at h
    split at h
    · assumption
    · cases h
  | d :: r, st, st', fl, h => by
    simp only [loopC] at h
    split at h
    · assumption
    · cases h
theorem compF_app (t : Tg) (own : List Nat) (env : Env) (mt : Env → M Bool) (me : Env → M D) (d : D) (st : Store) : compF t own env mt me d st = (match bindT t d (wipeE env own) st with
  | some env1 => match mt env1 st with
    | .ok true st1 => (match me env1 st1 with | .ok d st2 => .ok (some d) st2 | .ex x st2 => .ex x st2 | .no => .no)
    | .ok false st1 => .ok none st1
    | .ex x st1 => .ex x st1
    | .no => .no
  | none => .no) := rfl
section
variable {X : Cx} {tg iter : Expr} {t : Tg} {pos : Pos} {mI : Env → M (List D × List (Nat × List D))}
theorem sndS_for {body : List Stmt} {mb : Env → M Fl} (hp : PassesOwn (model X.prog X.w) X.A X.env X.xe) (hc : X.calm = true) (hfs : ∀ x, foldedSetIterable iter X.env x = pure x) (hI : SndI X tg iter mI) (hG : SndG X tg t) (hB : SndSs X body mb) :
    SndS X (.For tg iter body [] pos) (fun env => M.bind (mI env) fun p => loopF p.2 (forF t mb) p.1 env) := by
  intro ρ st env σ H fl st' S R e D P
  obtain ⟨⟨items, gd⟩, st1, e1, e2⟩ := bind_ok e
  obtain ⟨wi, hwi, hR⟩ := hI ρ st env σ H _ st1 S R e1
  refine ws_of (ps_for hp hc hwi pg_wg pss_ws hfs) (hR _ fun ρ1 H1 J g1 S1 W => ?_)
  obtain ⟨G, Y, w, hG', hY⟩ := W.ex
  dsimp only at e2 w hG' hY
  refine for_it w (fun i σ' H' => ∃ ρ' env' st2, Grow ρ1 H1 ρ' H' ∧ Sim X.K ρ' st2 H' ∧ EnvR X.K ρ' H' env' σ' ∧ loopF gd (forF t mb) (items.drop i) env' st2 = .ok fl st') ⟨ρ1, env, st1, Grow.refl _ _, S1, R.grow g1, by simpa using e2⟩ ?_ ?_ ?_
  · rintro i σ' H' hi ⟨ρ', env', st2, g', S', R', e'⟩
    exact hG' ρ' H' st2 g' S' (loopF_gd e')
  · rintro i x σ' H' H'' hi ⟨ρ', env', st2, g', S', R', e'⟩ y
    obtain ⟨q1, q2, d, q3, q4⟩ := hY i ρ' H' st2 x H'' g' S' (loopF_gd e') hi y
    have hd : items.drop i = d :: items.drop (i + 1) := by
      obtain ⟨hlt, hget⟩ := List.getElem?_eq_some_iff.mp q3
      rw [List.drop_eq_getElem_cons hlt, hget]
    rw [hd] at e'
    simp only [loopF, forF] at e'
    split at e'
    · cases hb : bindT t d env' st2 with
      | none => rw [hb] at e'; cases e'
      | some env1 =>
        rw [hb] at e'
        dsimp only at e'
        refine hG ρ' st2 env' σ' H'' d x env1 q2 (R'.grow q1) q4 hb _ fun σ2 R2 _ => ?_
        have gg : Grow ρ1 H1 ρ' H'' := g'.trans q1
        cases hm : mb env1 st2 with
        | ok f1 st3 =>
          rw [hm] at e'
          refine hB ρ' st2 env1 σ2 H'' f1 st3 q2 R2 hm _ ?_
          cases f1 with
          | nx e3 => exact fun ρ3 H3 σ3 g3 S3 R3 => ⟨ρ3, e3, st3, gg.trans g3, S3, R3, e'⟩
          | ct e3 => exact fun ρ3 H3 σ3 g3 S3 R3 => ⟨ρ3, e3, st3, gg.trans g3, S3, R3, e'⟩
          | bk e3 => cases e'; exact fun ρ3 H3 σ3 g3 S3 R3 => P ρ3 H3 σ3 (g1.trans (gg.trans g3)) S3 R3
          | ret v => cases e'; exact fun ρ3 H3 σ3 g3 S3 R3 => P ρ3 H3 σ3 (g1.trans (gg.trans g3)) S3 R3
        | ex x st3 => rw [hm] at e'; cases e'
        | no => rw [hm] at e'; cases e'
    · cases e'
  · rintro σ' H' ⟨ρ', env', st2, g', S', R', e'⟩
    rw [List.drop_eq_nil_of_le (Nat.le_refl _)] at e'
    simp only [loopF] at e'
    split at e'
    · cases e'
      exact P ρ' H' σ' (g1.trans g') S' R'
    · cases e'

/-! ### comprehensions -/
theorem EnvR.wipe {K : PySem.W.Frag} {ρ : List Addr} {H : Hp} {env : Env} {σ : L2.St} (R : EnvR K ρ H env σ) : ∀ vs : List Nat, EnvR K ρ H (wipeE env vs) (L2.wipe σ vs)
  | [] => R
  | v :: vs => by
    have ih := EnvR.wipe R vs
    refine ⟨by simp [L2.wipe, wipeE, ih.len], fun j d e => ?_⟩
    unfold wipeE at e
    unfold L2.wipe
    by_cases hj : v = j
    · subst hj
      by_cases hv : v < (wipeE env vs).length
      · rw [List.getElem?_set_self hv] at e; cases e
      · rw [List.getElem?_eq_none (by simpa using hv)] at e; cases e
    · rw [List.getElem?_set_ne hj] at e ⊢
      exact ih.at' j d e
/-- the heap's object at an address that the store does not know is written -/
theorem keep_other {ρ : List Addr} {H : Hp} {p : Addr} {vs : List V} {u : HO} (h : H p = some (.lst vs)) : Keep ρ H ρ (upd H p u) :=
  ⟨List.prefix_refl _, fun b xs e => by rw [upd_ne (fun z => by rw [z, h] at e; cases e)]; exact e, fun b o xs e => by rw [upd_ne (fun z => by rw [z, h] at e; cases e)]; exact e⟩
theorem Sim.other {K : PySem.W.Frag} {ρ : List Addr} {st : Store} {H : Hp} {p : Addr} {vs : List V} {u : HO} (S : Sim K ρ st H) (h : H p = some (.lst vs)) (hp : p ∉ ρ) : Sim K ρ st (upd H p u) :=
  ⟨S.len, S.nd, fun i o a h1 h2 => (S.ob i o a h1 h2).keep (keep_other h) fun w e => by rw [upd_ne (fun z => hp (by rw [← z]; exact List.mem_of_getElem? h2))]; exact e⟩
theorem Grow.other {ρ ρ1 : List Addr} {H H1 : Hp} {p : Addr} {u : HO} (g : Grow ρ H ρ1 H1) (h : H p = none) : Grow ρ H ρ1 (upd H1 p u) :=
  ⟨g.pre, g.fr, fun b o e hb => by rw [upd_ne (ne_of_none e h)]; exact g.frame b o e hb, fun b xs e => by rw [upd_ne (ne_of_none e h)]; exact g.tups b xs e, fun b o xs e => by rw [upd_ne (ne_of_none e h)]; exact g.frzs b o xs e⟩
/-- from the list at p, that the store does not know, to the store -/
theorem Sim.take {K : PySem.W.Frag} {ρ : List Addr} {st : Store} {H : Hp} {p : Addr} {vs : List V} {ds : List D} (S : Sim K ρ st H) (h : H p = some (.lst vs)) (hp : p ∉ ρ) (r : Reps K ρ H ds vs) : Sim K (ρ ++ [p]) (st ++ [.lst ds]) H := by
  have kp : Keep ρ H (ρ ++ [p]) H := ⟨List.prefix_append _ _, fun _ _ e => e, fun _ _ _ e => e⟩
  refine ⟨by simp [S.len], ?_, fun i o a h1 h2 => ?_⟩
  · rw [List.nodup_append]
    exact ⟨S.nd, by simp, fun a ha b hb => by rw [List.mem_singleton.mp hb]; exact fun z => hp (by rw [← z]; exact ha)⟩
  · by_cases hi : i < st.length
    · rw [List.getElem?_append_left hi] at h1
      rw [List.getElem?_append_left (by rw [S.len]; exact hi)] at h2
      exact (S.ob i o a h1 h2).keep kp fun w e => e
    · have h3 : i - st.length = 0 ∧ o = .lst ds := by
        rw [List.getElem?_append_right (Nat.le_of_not_lt hi)] at h1
        cases q : i - st.length with
        | zero => rw [q] at h1; simp at h1; exact ⟨rfl, h1.symm⟩
        | succ k => rw [q] at h1; simp at h1
      obtain ⟨h3, rfl⟩ := h3
      rw [List.getElem?_append_right (by rw [S.len]; exact Nat.le_of_not_lt hi), S.len, h3] at h2
      simp at h2
      subst h2
      exact ⟨vs, h, r.keep kp⟩
/-- the blocks of a comprehension in X -/
def Blks (X : Cx) (scope : Scope) (φ : Cx → Prop) : Prop := ∀ (s : Shared) (H : Hp) (C : Addr) (cl : List (Str × Addr)) (fp : List Addr), φ (X.blk s H scope (compEnvC scope cl C X.env) fp)
def gB (X : Cx) (scope : Scope) (tg : Expr) : TG := fun v σ H Q => Blks X scope fun Y => WG Y tg v σ H Q
def tBk (X : Cx) (scope : Scope) (e : Expr) : TE := fun σ H Q => Blks X scope fun Y => WE Y e σ H Q
/-- the tests of a comprehension: none or one -/
def ttB (X : Cx) (scope : Scope) (c : Option Expr) : TT := fun σ H Q => match c with
  | none => Q true H
  | some c => Blks X scope fun Y => WT Y c σ H Q
def SndTo (X : Cx) (scope : Scope) (c : Option Expr) (m : Env → M Bool) : Prop := match c with
  | none => ∀ env st, m env st = .ok true st
  | some c => Blks X scope fun Y => SndT Y c m
theorem pts_B {scope : Scope} {c : Option Expr} : Blks X scope fun Y => PTs Y c.toList (ttB X scope c) := by
  intro s H C cl fp
  cases c with
  | none => exact pts_nil
  | some c => exact pts_one ⟨fun pins s' σ H' Q I h => h s H C cl fp pins s' I⟩
variable {elt : Expr} {scope : Scope} {own : List Nat} {c : Option Expr} {me : Env → M D} {mt : Env → M Bool}
/-- one comprehension's reading -/
theorem lc_run (hI : SndI X tg iter mI) (hG : Blks X scope fun Y => SndG Y tg t) (hT : SndTo X scope c mt) (hE : Blks X scope fun Y => SndE Y elt me) (hsub : ∀ i ∈ t.slots, i ∈ own)
    {ρ : List Addr} {st st' : Store} {env : Env} {σ : L2.St} {H : Hp} {d : D} (S : Sim X.K ρ st H) (R : EnvR X.K ρ H env σ)
    (e : (M.bind (mI env) fun p => M.bind (loopC p.2 (compF t own env mt me) p.1) fun ds st => if ds.length ≤ bigN then .ok (.ob st.length) (st ++ [.lst ds]) else .no) st = .ok d st') {Q : VK} (P : Post X.K ρ H st' d Q) :
    ∃ wi, PI X tg iter wi ∧ tLc wi (gB X scope tg) (ttB X scope c) (tBk X scope elt) own σ H Q := by
  obtain ⟨⟨items, gd⟩, st1, e1, e2⟩ := bind_ok e
  obtain ⟨ds, st2, e4, e3⟩ := bind_ok e2
  dsimp only at e4 e3
  split at e3
  · rename_i hlen
    cases e3
    obtain ⟨wi, hwi, hR⟩ := hI ρ st env σ H _ st1 S R e1
    refine ⟨wi, hwi, hR _ fun ρ1 H1 J g1 S1 W Dl hDl => ?_⟩
    obtain ⟨G, Y, w, hG', hY⟩ := W.ex
    dsimp only at w hG' hY
    have hD1 : Dl ∉ ρ1 := S1.free hDl
    refine lc_it w (fun i H' => ∃ ρ' st3 acc accD rest, Grow ρ1 H1 ρ' H' ∧ Sim X.K ρ' st3 H' ∧ H' Dl = some (.lst acc) ∧ Dl ∉ ρ' ∧ Reps X.K ρ' H' accD acc ∧ loopC gd (compF t own env mt me) (items.drop i) st3 = .ok rest st2 ∧ ds = accD ++ rest)
      ⟨ρ1, st1, [], [], ds, (Grow.refl _ _).other hDl, S1.new hDl, upd_same, hD1, .nil, by simpa using e4, by simp⟩ ?_ ?_ ?_
    · rintro i H' hi ⟨ρ', st3, acc, accD, rest, g', S', hD', hDn, ra, e', eds⟩
      exact hG' ρ' H' st3 g' S' (loopC_gd e')
    · rintro i x H' H'' hi ⟨ρ', st3, acc, accD, rest, g', S', hD', hDn, ra, e', eds⟩ y
      obtain ⟨q1, q2, it, q3, q4⟩ := hY i ρ' H' st3 x H'' g' S' (loopC_gd e') hi y
      have hd : items.drop i = it :: items.drop (i + 1) := by
        obtain ⟨hlt, hget⟩ := List.getElem?_eq_some_iff.mp q3
        rw [List.drop_eq_getElem_cons hlt, hget]
      rw [hd] at e'
      have hD'' : H'' Dl = some (.lst acc) := q1.frame _ _ hD' hDn
      have gg : Grow ρ1 H1 ρ' H'' := g'.trans q1
      simp only [loopC] at e'
      rw [compF_app] at e'
      split at e'
      · cases hb : bindT t it (wipeE env own) st3 with
        | none => rw [hb] at e'; cases e'
        | some env1 =>
          rw [hb] at e'
          dsimp only at e'
          intro s0 H0 C0 cl0 fp0
          refine hG s0 H0 C0 cl0 fp0 ρ' st3 (wipeE env own) (L2.wipe σ own) H'' it x env1 q2 (((R.grow g1).grow gg).wipe own) q4 hb _ fun σ2 R2 hw2 => ⟨?_, ?_⟩
          · have h1 := hw2 own hsub
            rw [h1]
            -- wiping twice
            apply List.ext_getElem?
            intro j
            by_cases hj : j < σ.length
            · by_cases hv : j ∈ own
              · rw [wipe_at (by rw [wipe_length]; exact hj) hv, wipe_at hj hv]
              · rw [wipe_out hv]
            · rw [List.getElem?_eq_none (by rw [wipe_length, wipe_length]; simpa using hj), List.getElem?_eq_none (by rw [wipe_length]; simpa using hj)]
          -- the test
          have after : ∀ (k : Bool) (st4 : Store), mt env1 st3 = .ok k st4 → ∀ ρ4 H4, Grow ρ' H'' ρ4 H4 → Sim X.K ρ4 st4 H4 →
              if k = true then tBk X scope elt σ2 H4 (fun y H5 => ∃ acc', H5 Dl = some (.lst acc') ∧ acc'.length < sizeLine ∧ ∃ ρ' st3 acc accD rest, Grow ρ1 H1 ρ' (upd H5 Dl (.lst (acc' ++ [y]))) ∧ Sim X.K ρ' st3 (upd H5 Dl (.lst (acc' ++ [y]))) ∧ (upd H5 Dl (.lst (acc' ++ [y]))) Dl = some (.lst acc) ∧ Dl ∉ ρ' ∧ Reps X.K ρ' (upd H5 Dl (.lst (acc' ++ [y]))) accD acc ∧ loopC gd (compF t own env mt me) (items.drop (i + 1)) st3 = .ok rest st2 ∧ ds = accD ++ rest)
              else ∃ ρ' st3 acc accD rest, Grow ρ1 H1 ρ' H4 ∧ Sim X.K ρ' st3 H4 ∧ H4 Dl = some (.lst acc) ∧ Dl ∉ ρ' ∧ Reps X.K ρ' H4 accD acc ∧ loopC gd (compF t own env mt me) (items.drop (i + 1)) st3 = .ok rest st2 ∧ ds = accD ++ rest := by
            intro k st4 hk ρ4 H4 g4 S4
            rw [hk] at e'
            have hDn4 : Dl ∉ ρ4 := fun z => by
              have := g4.fr Dl z hDn
              rw [hD''] at this; cases this
            have hD4 : H4 Dl = some (.lst acc) := g4.frame _ _ hD'' hDn
            cases k with
            | false =>
              rw [if_neg (by decide)]
              dsimp only at e'
              cases hl : loopC gd (compF t own env mt me) (items.drop (i + 1)) st4 with
              | ok l st5 =>
                rw [hl] at e'
                cases e'
                exact ⟨ρ4, st4, acc, accD, l, gg.trans g4, S4, hD4, hDn4, (ra.grow q1).grow g4, hl, by simpa using eds⟩
              | ex x st5 => rw [hl] at e'; cases e'
              | no => rw [hl] at e'; cases e'
            | true =>
              rw [if_pos rfl]
              dsimp only at e'
              intro s1 H1' C1 cl1 fp1
              cases hm : me env1 st4 with
              | ok dv st5 =>
                rw [hm] at e'
                dsimp only at e'
                refine hE s1 H1' C1 cl1 fp1 ρ4 st4 env1 σ2 H4 dv st5 S4 (R2.grow g4) hm _ fun ρ5 H5 v5 g5 S5 r5 => ?_
                have hDn5 : Dl ∉ ρ5 := fun z => by
                  have := g5.fr Dl z hDn4
                  rw [hD4] at this; cases this
                have hD5 : H5 Dl = some (.lst acc) := g5.frame _ _ hD4 hDn4
                cases hl : loopC gd (compF t own env mt me) (items.drop (i + 1)) st5 with
                | ok l st6 =>
                  rw [hl] at e'
                  cases e'
                  have ra5 := ((ra.grow q1).grow g4).grow g5
                  have hlt : acc.length < sizeLine := by
                    have h1 := ra.length
                    have h2 := congrArg List.length eds
                    simp at h2
                    rw [big_eq]
                    omega
                  exact ⟨acc, hD5, hlt, ρ5, st5, acc ++ [v5], accD ++ [dv], l, ((gg.trans g4).trans g5).other hDl, S5.other hD5 hDn5, upd_same, hDn5, (ra5.append (.cons r5 .nil)).keep (keep_other hD5), hl, by simpa using eds⟩
                | ex x st6 => rw [hl] at e'; cases e'
                | no => rw [hl] at e'; cases e'
              | ex x st5 => rw [hm] at e'; cases e'
              | no => rw [hm] at e'; cases e'
          cases hk : mt env1 st3 with
          | ok k st4 =>
            cases c with
            | none =>
              have hm := hT env1 st3
              rw [hk] at hm
              cases hm
              exact after true st3 hk ρ' H'' (Grow.refl _ _) q2
            | some cc =>
              intro s1 H1' C1 cl1 fp1
              exact hT s1 H1' C1 cl1 fp1 ρ' st3 env1 σ2 H'' k st4 q2 R2 hk _ fun ρ4 H4 g4 S4 => after k st4 hk ρ4 H4 g4 S4
          | ex x st4 => rw [hk] at e'; cases e'
          | no => rw [hk] at e'; cases e'
      · cases e'
    · rintro H' ⟨ρ', st3, acc, accD, rest, g', S', hD', hDn, ra, e', eds⟩
      rw [List.drop_eq_nil_of_le (Nat.le_refl _)] at e'
      simp only [loopC] at e'
      split at e'
      · cases e'
        have eds' : ds = accD := by simpa using eds
        subst eds'
        refine P (ρ' ++ [Dl]) H' (.ref Dl) ?_ (S'.take hD' hDn ra) (.ob ?_)
        · have gg := g1.trans g'
          refine ⟨gg.pre.trans (List.prefix_append _ _), fun a ha hn => ?_, gg.frame, gg.tups, gg.frzs⟩
          rcases List.mem_append.mp ha with ha | ha
          · exact gg.fr a ha hn
          · rw [List.mem_singleton.mp ha]
            cases q : H Dl with
            | none => rfl
            | some o =>
              have hnρ : Dl ∉ ρ := fun z => hD1 (g1.pre.subset z)
              have := g1.frame Dl o q hnρ
              rw [hDl] at this; cases this
        · rw [List.getElem?_append_right (by rw [S'.len]; exact Nat.le_refl _), S'.len]
          simp
      · cases e'
  · cases e3
theorem snd_lc {ownp : List (Str × Nat)} (hc : X.calm = true) (hN : X.N.Nodup) (ok : BlkOk X.N X.env.scope scope ownp) (hown : ownp.map (·.2) = own) (hfs : ∀ x, foldedSetIterable iter X.env x = pure x)
    (hI : SndI X tg iter mI) (hG : Blks X scope fun Y => SndG Y tg t) (hT : SndTo X scope c mt) (hE : Blks X scope fun Y => SndE Y elt me) (hsub : ∀ i ∈ t.slots, i ∈ own) :
    SndE X (.ListComp elt [⟨tg, iter, c.toList, 0⟩] scope pos) (fun env => M.bind (mI env) fun p => M.bind (loopC p.2 (compF t own env mt me) p.1) fun ds st => if ds.length ≤ bigN then .ok (.ob st.length) (st ++ [.lst ds]) else .no) := by
  intro ρ st env σ H d st' S R e Q P
  obtain ⟨wi, hwi, h⟩ := lc_run hI hG hT hE hsub S R e P
  subst hown
  exact we_of (pe_lc hc hN hwi ok (fun s H C cl fp => ⟨fun pins s' σ H' v u Q I r h => h s H C cl fp pins s' u I r⟩) pts_B (fun s H C cl fp => ⟨fun pins s' σ H' Q I h => h s H C cl fp pins s' I⟩) hfs) h
theorem sndS_setLc {ownp : List (Str × Nat)} {j : Nat} {y : Str} {py spos : Pos} (hc : X.calm = true) (hN : X.N.Nodup) (hy : X.N[j]? = some y) (hyl : X.env.scope.names.lookup y = some .local) (hsw : swapsWith (.ListComp elt [⟨tg, iter, c.toList, 0⟩] scope pos) (some (.Name y py)) spos.line X.env = pure true)
    (ok : BlkOk X.N X.env.scope scope ownp) (hown : ownp.map (·.2) = own) (hfs : ∀ x, foldedSetIterable iter X.env x = pure x)
    (hI : SndI X tg iter mI) (hG : Blks X scope fun Y => SndG Y tg t) (hT : SndTo X scope c mt) (hE : Blks X scope fun Y => SndE Y elt me) (hsub : ∀ i ∈ t.slots, i ∈ own) :
    SndS X (.Assign [.Name y py] (.ListComp elt [⟨tg, iter, c.toList, 0⟩] scope pos) spos) (fun env => M.bind (M.bind (mI env) fun p => M.bind (loopC p.2 (compF t own env mt me) p.1) fun ds st => if ds.length ≤ bigN then .ok (.ob st.length) (st ++ [.lst ds]) else .no) fun d st => .ok (.nx (env.set j (some d))) st) := by
  intro ρ st env σ H fl st' S R e D P
  obtain ⟨d, st1, e1, e2⟩ := bind_ok e
  cases e2
  obtain ⟨wi, hwi, h⟩ := lc_run (Q := fun x H1 => gName j x σ H1 D.nx) hI hG hT hE hsub S R e1 fun ρ1 H1 v g1 S1 r1 => P ρ1 H1 _ g1 S1 ((R.grow g1).set r1 j)
  subst hown
  exact ws_of (ps_setLc hc hN hy hyl hsw hwi ok (fun s H C cl fp => ⟨fun pins s' σ H' v u Q I r h => h s H C cl fp pins s' u I r⟩) pts_B (fun s H C cl fp => ⟨fun pins s' σ H' Q I h => h s H C cl fp pins s' I⟩) hfs) h
end
/-! ### a dict written out -/
theorem keep_dk {ρ : List Addr} {H : Hp} {p : Addr} {l ks : List (Key × V)} (h : H p = some (.dK l)) : Keep ρ H (ρ ++ [p]) (upd H p (.dK ks)) :=
  ⟨List.prefix_append _ _, fun b xs e => by rw [upd_ne (fun z => by rw [z, h] at e; cases e)]; exact e, fun b o xs e => by rw [upd_ne (fun z => by rw [z, h] at e; cases e)]; exact e⟩
theorem Sim.takeD {K : PySem.W.Frag} {ρ : List Addr} {st : Store} {H : Hp} {p : Addr} {l ks : List (Key × V)} {kvs : List (D × D)} (S : Sim K ρ st H) (h : H p = some (.dK l)) (hp : p ∉ ρ) (r : KvK K ρ H kvs ks) : Sim K (ρ ++ [p]) (st ++ [.dct kvs]) (upd H p (.dK ks)) := by
  have kp : Keep ρ H (ρ ++ [p]) (upd H p (.dK ks)) := keep_dk h
  refine ⟨by simp [S.len], ?_, fun i o a h1 h2 => ?_⟩
  · rw [List.nodup_append]
    exact ⟨S.nd, by simp, fun a ha b hb => by rw [List.mem_singleton.mp hb]; exact fun z => hp (by rw [← z]; exact ha)⟩
  · by_cases hi : i < st.length
    · rw [List.getElem?_append_left hi] at h1
      rw [List.getElem?_append_left (by rw [S.len]; exact hi)] at h2
      refine (S.ob i o a h1 h2).keep kp fun w e => ?_
      rw [upd_ne (fun z => hp (by rw [← z]; exact List.mem_of_getElem? h2))]
      exact e
    · have h3 : i - st.length = 0 ∧ o = .dct kvs := by
        rw [List.getElem?_append_right (Nat.le_of_not_lt hi)] at h1
        cases q : i - st.length with
        | zero => rw [q] at h1; simp at h1; exact ⟨rfl, h1.symm⟩
        | succ k => rw [q] at h1; simp at h1
      obtain ⟨h3, rfl⟩ := h3
      rw [List.getElem?_append_right (by rw [S.len]; exact Nat.le_of_not_lt hi), S.len, h3] at h2
      simp at h2
      subst h2
      exact .inl ⟨ks, upd_same, r.keep kp⟩
theorem Grow.takeN {ρ ρ1 : List Addr} {H H1 : Hp} {p : Addr} {u u2 : HO} (g : Grow ρ (upd H p u) ρ1 H1) (hp : H p = none) : Grow ρ H (ρ1 ++ [p]) (upd H1 p u2) := by
  refine ⟨g.pre.trans (List.prefix_append _ _), fun a ha hn => ?_, fun b o eb hb => ?_, fun b xs eb => ?_, fun b o v eb => ?_⟩
  · by_cases h : a = p
    · rw [h]; exact hp
    · rcases List.mem_append.mp ha with ha | ha
      · have := g.fr a ha hn
        rw [upd_ne h] at this
        exact this
      · exact absurd (List.mem_singleton.mp ha) h
  · have h := ne_of_none eb hp
    rw [upd_ne h]
    exact g.frame b o (by rw [upd_ne h]; exact eb) hb
  · have h := ne_of_none eb hp
    rw [upd_ne h]
    exact g.tups b xs (by rw [upd_ne h]; exact eb)
  · have h := ne_of_none eb hp
    rw [upd_ne h]
    exact g.frzs b o v (by rw [upd_ne h]; exact eb)
section
variable {X : Cx} {pos : Pos}
/-- the pairs of a display whose keys are the texts ks -/
def SndP (X : Cx) (pos : Pos) (keys : List (Option Expr)) (vals : List Expr) (ks : List Str) (m : Env → M (List D)) : Prop := ∃ trs, PPs X pos keys vals trs ∧
  ∀ ρ st env σ H ds st', Sim X.K ρ st H → EnvR X.K ρ H env σ → m env st = .ok ds st' → ∀ Q : List (V × V) → Hp → Prop, (∀ ρ' H' vs, Grow ρ H ρ' H' → Sim X.K ρ' st' H' → Reps X.K ρ' H' ds vs → Q ((ks.zip vs).map fun q => (V.str q.1, q.2)) H') → tPairs trs σ H Q
theorem sndP_nil : SndP X pos [] [] [] (fun _ st => .ok [] st) := by
  refine ⟨[], pps_nil, fun ρ st env σ H ds st' S R e Q P => ?_⟩
  cases e
  exact P ρ H [] (Grow.refl _ _) S .nil
theorem sndP_cons {x : Str} {k : Nat} {kp : Pos} {v : Expr} {mv : Env → M D} {keys : List (Option Expr)} {vals : List Expr} {ks : List Str} {m : Env → M (List D)} (hv : SndE X v mv) (hr : SndP X pos keys vals ks m) :
    SndP X pos (some (.Constant (.str x) k kp) :: keys) (v :: vals) (x :: ks) (fun env => M.bind (mv env) fun d => M.bind (m env) fun ds st => .ok (d :: ds) st) := by
  obtain ⟨trs, h1, h2⟩ := hr
  refine ⟨_, pps_cons pe_str pe_we h1, fun ρ st env σ H ds st' S R e Q P => ?_⟩
  obtain ⟨d, st1, e1, e⟩ := bind_ok e
  obtain ⟨ds', st2, e2, e3⟩ := bind_ok e
  cases e3
  exact hv ρ st env σ H d st1 S R e1 _ fun ρ1 H1 u g1 S1 r1 => h2 ρ1 st1 env σ H1 ds' _ S1 (R.grow g1) e2 _ fun ρ2 H2 vs g2 S2 r2 => P ρ2 H2 (u :: vs) (g1.trans g2) S2 (.cons (r1.grow g2) r2)
theorem merge_nodup : ∀ (more acc : List (Key × V)), ((acc ++ more).map (·.1)).Nodup → mergeK acc more = acc ++ more
  | [], acc, _ => by simp [mergeK]
  | p :: r, acc, h => by
    show mergeK (putK acc p.1 p.2) r = _
    have hp : putK acc p.1 p.2 = acc ++ [p] := by
      have hn : ∀ q ∈ acc, q.1 ≠ p.1 := by
        rw [List.map_append, List.nodup_append] at h
        exact fun q hq => h.2.2 q.1 (List.mem_map_of_mem hq) p.1 (by simp)
      have ha : (acc.any fun kv => decide (kv.1 = p.1)) = false := by
        rw [List.any_eq_false]
        exact fun q hq => by simpa using hn q hq
      unfold putK
      rw [ha, if_neg (by decide)]
    rw [hp, merge_nodup r (acc ++ [p]) (by simpa using h)]
    simp
theorem kvK_strs {K : PySem.W.Frag} {ρ : List Addr} {H : Hp} : ∀ {ks : List Str} {ds : List D} {vs : List V}, Reps K ρ H ds vs → ks.length = ds.length → KvK K ρ H ((ks.map D.str).zip ds) ((ks.zip vs).map fun q => ((Sum.inr q.1 : Key), q.2))
  | [], _, _, .nil, _ => .nil
  | [], _, _, .cons _ _, h => by simp at h
  | _ :: _, _, _, .nil, h => by simp at h
  | k :: ks, _, _, .cons r1 r2, h => .cons rfl r1 (kvK_strs r2 (by simpa using h))
theorem snd_disp {keys : List (Option Expr)} {vals : List Expr} {ks : List Str} {m : Env → M (List D)} (hp : SndP X pos keys vals ks m) (hall : keys.all (·.isSome) = true) (hl : keys.length = vals.length) (h0 : keys ≠ []) (h15 : keys.length ≤ 15) (nd : ks.Nodup) :
    SndE X (.Dict keys vals pos) (fun env => M.bind (m env) fun ds st => if ks.length = ds.length ∧ ks.length ≤ 15 then .ok (.ob st.length) (st ++ [.dct ((ks.map D.str).zip ds)]) else .no) := by
  intro ρ st env σ H d st' S R e Q P
  obtain ⟨trs, h1, h2⟩ := hp
  obtain ⟨ds, st1, e1, e2⟩ := bind_ok e
  split at e2
  · rename_i hk
    cases e2
    refine we_of (pe_disp h1 hall hl h0 h15) fun p hp => ?_
    have hpn : p ∉ ρ := S.free hp
    refine h2 ρ st env σ _ ds st1 (S.new hp) (R.grow ((Grow.refl _ _).other hp)) e1 _ fun ρ1 H1 vs g1 S1 r1 => ?_
    have hp1 : H1 p = some (.dK []) := g1.frame p _ upd_same hpn
    have hpn1 : p ∉ ρ1 := fun z => by
      have := g1.fr p z hpn
      rw [upd_same] at this
      cases this
    refine ⟨hp1, (ks.zip vs).map fun q => ((Sum.inr q.1 : Key), q.2), by rw [List.map_map]; rfl, ?_, ?_⟩
    · rw [List.length_map, List.length_zip]
      exact Nat.le_trans (Nat.min_le_left _ _) hk.2
    have hz : ((ks.zip vs).map fun q => ((Sum.inr q.1 : Key), q.2)).map (·.1) = ks.map Sum.inr := by
      have z1 : ((ks.zip vs).map fun q => ((Sum.inr q.1 : Key), q.2)).map (·.1) = ((ks.zip vs).map Prod.fst).map Sum.inr := by
        rw [List.map_map, List.map_map]
        rfl
      rw [z1, List.map_fst_zip (by rw [← r1.length]; omega)]
    rw [merge_nodup _ [] (by
      rw [List.nil_append, hz]
      exact List.Pairwise.map _ (fun a b hab z => hab (Sum.inr.inj z)) nd), List.nil_append]
    have sim := S1.takeD hp1 hpn1 (kvK_strs r1 hk.1)
    refine P (ρ1 ++ [p]) _ _ ?_ sim (.ob ?_)
    · exact g1.takeN hp
    · rw [List.getElem?_append_right (by rw [S1.len]; exact Nat.le_refl _), S1.len]
      simp
  · cases e2
end
/-! ### while -/
section
variable {X : Cx} {c : Expr} {pos : Pos}
theorem sndS_while {body : List Stmt} {mc : Env → M Bool} {mb : Env → M Fl} {n : Nat} (hp : PassesOwn (model X.prog X.w) X.A X.env X.xe) (hc : SndT X c mc) (hB : SndSs X body mb) : SndS X (.While c body [] pos) (fun env => loopW mc mb n env) := by
  intro ρ st env σ H fl st' S R e D P
  refine ws_of (ps_while hp pt_wt pss_ws) ⟨fun m σ' H' => ∃ ρ' env' st2, Grow ρ H ρ' H' ∧ Sim X.K ρ' st2 H' ∧ EnvR X.K ρ' H' env' σ' ∧ loopW mc mb m env' st2 = .ok fl st', ⟨n, ρ, env, st, Grow.refl _ _, S, R, e⟩, ?_⟩
  rintro m σ' H' ⟨ρ', env', st2, g', S', R', e'⟩
  cases m with
  | zero => simp only [loopW] at e'; cases e'
  | succ m =>
    simp only [loopW] at e'
    obtain ⟨r, st3, e1, e2⟩ := bind_ok e'
    refine hc ρ' st2 env' σ' H' r st3 S' R' e1 _ fun ρ1 H1 g1 S1 => ?_
    cases r with
    | true =>
      rw [if_pos rfl] at e2 ⊢
      obtain ⟨fl2, st4, e3, e4⟩ := bind_ok e2
      refine ⟨fun σ2 H2 => ∃ m', m' < m + 1 ∧ ∃ ρ' env' st2, Grow ρ H ρ' H2 ∧ Sim X.K ρ' st2 H2 ∧ EnvR X.K ρ' H2 env' σ2 ∧ loopW mc mb m' env' st2 = .ok fl st', fun σ2 H2 z => z, hB ρ1 st3 env' σ' H1 fl2 st4 S1 (R'.grow g1) e3 _ ?_⟩
      cases fl2 with
      | nx e5 => exact fun ρ2 H2 σ2 g2 S2 R2 => ⟨m, Nat.lt_succ_self _, ρ2, e5, st4, (g'.trans g1).trans g2, S2, R2, e4⟩
      | ct e5 => exact fun ρ2 H2 σ2 g2 S2 R2 => ⟨m, Nat.lt_succ_self _, ρ2, e5, st4, (g'.trans g1).trans g2, S2, R2, e4⟩
      | bk e5 => cases e4; exact fun ρ2 H2 σ2 g2 S2 R2 => P ρ2 H2 σ2 ((g'.trans g1).trans g2) S2 R2
      | ret v => cases e4; exact fun ρ2 H2 v2 g2 S2 r2 => P ρ2 H2 v2 ((g'.trans g1).trans g2) S2 r2
    | false =>
      rw [if_neg (by decide)] at e2 ⊢
      cases e2
      exact P ρ1 H1 σ' (g'.trans g1) S1 (R'.grow g1)
end
end W9

/-! W9C: dict comprehensions -/
namespace W9
open PySem L2
theorem putKv_len (kvs : List (D × D)) (k d : D) : (putKv kvs k d).length ≤ kvs.length + 1 := by
  unfold putKv
  split <;> simp
theorem keep_otherD {ρ : List Addr} {H : Hp} {p : Addr} {l : List (Key × V)} {u : HO} (h : H p = some (.dK l)) : Keep ρ H ρ (upd H p u) :=
  ⟨List.prefix_refl _, fun b xs e => by rw [upd_ne (fun z => by rw [z, h] at e; cases e)]; exact e, fun b o xs e => by rw [upd_ne (fun z => by rw [z, h] at e; cases e)]; exact e⟩
theorem Sim.otherD {K : PySem.W.Frag} {ρ : List Addr} {st : Store} {H : Hp} {p : Addr} {l : List (Key × V)} {u : HO} (S : Sim K ρ st H) (h : H p = some (.dK l)) (hp : p ∉ ρ) : Sim K ρ st (upd H p u) :=
  ⟨S.len, S.nd, fun i o a h1 h2 => (S.ob i o a h1 h2).keep (keep_otherD h) fun w e => by rw [upd_ne (fun z => hp (by rw [← z]; exact List.mem_of_getElem? h2))]; exact e⟩
theorem upd_self {H : Hp} {p : Addr} {u : HO} (h : H p = some u) : upd H p u = H := by
  funext b
  by_cases hb : b = p
  · rw [hb, upd_same, h]
  · rw [upd_ne hb]
section
variable {X : Cx} {tg iter : Expr} {t : Tg} {pos : Pos} {mI : Env → M (List D × List (Nat × List D))}
variable {kx vx : Expr} {scope : Scope} {own : List Nat} {c : Option Expr} {mk mv : Env → M D} {mt : Env → M Bool}
theorem dc_run (hI : SndI X tg iter mI) (hG : Blks X scope fun Y => SndG Y tg t) (hT : SndTo X scope c mt) (hK : Blks X scope fun Y => SndE Y kx mk) (hV : Blks X scope fun Y => SndE Y vx mv) (hsub : ∀ i ∈ t.slots, i ∈ own)
    {ρ : List Addr} {st st' : Store} {env : Env} {σ : L2.St} {H : Hp} {d : D} (S : Sim X.K ρ st H) (R : EnvR X.K ρ H env σ)
    (e : (M.bind (mI env) fun p => M.bind (loopC p.2 (compF t own env mt (pairM mk mv)) p.1) dctR) st = .ok d st') {Q : VK} (P : Post X.K ρ H st' d Q) :
    ∃ wi, PI X tg iter wi ∧ tDc wi (gB X scope tg) (ttB X scope c) (tBk X scope kx) (tBk X scope vx) own σ H Q := by
  obtain ⟨⟨items, gd⟩, st1, e1, e2⟩ := bind_ok e
  obtain ⟨ds, st2, e4, e3⟩ := bind_ok e2
  dsimp only [dctR] at e4 e3
  split at e3
  · rename_i hlen
    cases hkv : dctOf ds [] with
    | none => rw [hkv] at e3; cases e3
    | some kvs =>
    rw [hkv] at e3
    cases e3
    obtain ⟨wi, hwi, hR⟩ := hI ρ st env σ H _ st1 S R e1
    refine ⟨wi, hwi, hR _ fun ρ1 H1 J g1 S1 W Dl hDl => ?_⟩
    obtain ⟨G, Y, w, hG', hY⟩ := W.ex
    dsimp only at w hG' hY
    have hD1 : Dl ∉ ρ1 := S1.free hDl
    refine dc_it w (fun i H' => ∃ ρ' st3 acc accKv rest, Grow ρ1 H1 ρ' H' ∧ Sim X.K ρ' st3 H' ∧ H' Dl = some (.dK acc) ∧ Dl ∉ ρ' ∧ KvK X.K ρ' H' accKv acc ∧ loopC gd (compF t own env mt (pairM mk mv)) (items.drop i) st3 = .ok rest st2 ∧ dctOf rest accKv = some kvs ∧ accKv.length + rest.length ≤ bigN)
      ⟨ρ1, st1, [], [], ds, (Grow.refl _ _).other hDl, S1.new hDl, upd_same, hD1, .nil, by simpa using e4, hkv, by simpa using hlen⟩ ?_ ?_ ?_
    · rintro i H' hi ⟨ρ', st3, acc, accKv, rest, g', S', hD', hDn, ra, e', ekv, el⟩
      exact hG' ρ' H' st3 g' S' (loopC_gd e')
    · rintro i x H' H'' hi ⟨ρ', st3, acc, accKv, rest, g', S', hD', hDn, ra, e', ekv, el⟩ y
      obtain ⟨q1, q2, it, q3, q4⟩ := hY i ρ' H' st3 x H'' g' S' (loopC_gd e') hi y
      have hd : items.drop i = it :: items.drop (i + 1) := by
        obtain ⟨hlt, hget⟩ := List.getElem?_eq_some_iff.mp q3
        rw [List.drop_eq_getElem_cons hlt, hget]
      rw [hd] at e'
      have hD'' : H'' Dl = some (.dK acc) := q1.frame _ _ hD' hDn
      have gg : Grow ρ1 H1 ρ' H'' := g'.trans q1
      simp only [loopC] at e'
      rw [compF_app] at e'
      split at e'
      · cases hb : bindT t it (wipeE env own) st3 with
        | none => rw [hb] at e'; cases e'
        | some env1 =>
          rw [hb] at e'
          dsimp only at e'
          intro s0 H0 C0 cl0 fp0
          refine hG s0 H0 C0 cl0 fp0 ρ' st3 (wipeE env own) (L2.wipe σ own) H'' it x env1 q2 (((R.grow g1).grow gg).wipe own) q4 hb _ fun σ2 R2 hw2 => ⟨?_, ?_⟩
          · have h1 := hw2 own hsub
            rw [h1]
            apply List.ext_getElem?
            intro j
            by_cases hj : j < σ.length
            · by_cases hv : j ∈ own
              · rw [wipe_at (by rw [wipe_length]; exact hj) hv, wipe_at hj hv]
              · rw [wipe_out hv]
            · rw [List.getElem?_eq_none (by rw [wipe_length, wipe_length]; simpa using hj), List.getElem?_eq_none (by rw [wipe_length]; simpa using hj)]
          have after : ∀ (k : Bool) (st4 : Store), mt env1 st3 = .ok k st4 → ∀ ρ4 H4, Grow ρ' H'' ρ4 H4 → Sim X.K ρ4 st4 H4 →
              if k = true then tBk X scope kx σ2 H4 (fun y H5 => tBk X scope vx σ2 H5 fun z H6 => ∃ ks k, y = kV k ∧ H6 Dl = some (.dK ks) ∧ ks.length < sizeLine ∧ ∃ ρ' st3 acc accKv rest, Grow ρ1 H1 ρ' (upd H6 Dl (.dK (putK ks k z))) ∧ Sim X.K ρ' st3 (upd H6 Dl (.dK (putK ks k z))) ∧ (upd H6 Dl (.dK (putK ks k z))) Dl = some (.dK acc) ∧ Dl ∉ ρ' ∧ KvK X.K ρ' (upd H6 Dl (.dK (putK ks k z))) accKv acc ∧ loopC gd (compF t own env mt (pairM mk mv)) (items.drop (i + 1)) st3 = .ok rest st2 ∧ dctOf rest accKv = some kvs ∧ accKv.length + rest.length ≤ bigN)
              else ∃ ρ' st3 acc accKv rest, Grow ρ1 H1 ρ' H4 ∧ Sim X.K ρ' st3 H4 ∧ H4 Dl = some (.dK acc) ∧ Dl ∉ ρ' ∧ KvK X.K ρ' H4 accKv acc ∧ loopC gd (compF t own env mt (pairM mk mv)) (items.drop (i + 1)) st3 = .ok rest st2 ∧ dctOf rest accKv = some kvs ∧ accKv.length + rest.length ≤ bigN := by
            intro k st4 hk ρ4 H4 g4 S4
            rw [hk] at e'
            have hDn4 : Dl ∉ ρ4 := fun z => by
              have := g4.fr Dl z hDn
              rw [hD''] at this; cases this
            have hD4 : H4 Dl = some (.dK acc) := g4.frame _ _ hD'' hDn
            cases k with
            | false =>
              rw [if_neg (by decide)]
              dsimp only at e'
              cases hl : loopC gd (compF t own env mt (pairM mk mv)) (items.drop (i + 1)) st4 with
              | ok l st5 =>
                rw [hl] at e'
                cases e'
                exact ⟨ρ4, st4, acc, accKv, l, gg.trans g4, S4, hD4, hDn4, (ra.grow q1).grow g4, hl, by simpa using ekv, by simpa using el⟩
              | ex x st5 => rw [hl] at e'; cases e'
              | no => rw [hl] at e'; cases e'
            | true =>
              rw [if_pos rfl]
              dsimp only at e'
              intro s1 H1' C1 cl1 fp1
              cases hmk : mk env1 st4 with
              | ok dk st5 =>
                cases hmv : mv env1 st5 with
                | ok dv st6 =>
                  have hpm : pairM mk mv env1 st4 = .ok (.tup [dk, dv]) st6 := by simp only [pairM, M.bind, hmk, hmv]
                  rw [hpm] at e'
                  dsimp only at e'
                  cases hl : loopC gd (compF t own env mt (pairM mk mv)) (items.drop (i + 1)) st6 with
                  | ok l st7 =>
                    rw [hl] at e'
                    cases e'
                    have ekv' : dctOf (.tup [dk, dv] :: l) accKv = some kvs := by simpa using ekv
                    have el' : accKv.length + (l.length + 1) ≤ bigN := by simpa using el
                    simp only [dctOf] at ekv'
                    split at ekv'
                    · rename_i hks
                      obtain ⟨key, hkey⟩ := Option.isSome_iff_exists.mp hks
                      refine hK s1 H1' C1 cl1 fp1 ρ4 st4 env1 σ2 H4 dk st5 S4 (R2.grow g4) hmk _ fun ρ5 H5 v5 g5 S5 r5 => ?_
                      intro s2 H2' C2 cl2 fp2
                      refine hV s2 H2' C2 cl2 fp2 ρ5 st5 env1 σ2 H5 dv st6 S5 ((R2.grow g4).grow g5) hmv _ fun ρ6 H6 v6 g6 S6 r6 => ?_
                      have hDn5 : Dl ∉ ρ5 := fun z => by
                        have := g5.fr Dl z hDn4
                        rw [hD4] at this; cases this
                      have hD5 : H5 Dl = some (.dK acc) := g5.frame _ _ hD4 hDn4
                      have hDn6 : Dl ∉ ρ6 := fun z => by
                        have := g6.fr Dl z hDn5
                        rw [hD5] at this; cases this
                      have hD6 : H6 Dl = some (.dK acc) := g6.frame _ _ hD5 hDn5
                      have ra6 := (((ra.grow q1).grow g4).grow g5).grow g6
                      have hlt : acc.length < sizeLine := by
                        have h1 := ra.length
                        rw [big_eq]
                        omega
                      have hpl := putKv_len accKv dk dv
                      exact ⟨acc, key, rep_key hkey r5, hD6, hlt, ρ6, st6, putK acc key v6, putKv accKv dk dv, l, (((gg.trans g4).trans g5).trans g6).other hDl, S6.otherD hD6 hDn6, upd_same, hDn6, (KvK.put hkey r6 ra6).keep (keep_otherD hD6), hl, ekv', by omega⟩
                    · cases ekv'
                  | ex x st7 => rw [hl] at e'; cases e'
                  | no => rw [hl] at e'; cases e'
                | ex x st6 =>
                  have hpm : pairM mk mv env1 st4 = .ex x st6 := by simp only [pairM, M.bind, hmk, hmv]
                  rw [hpm] at e'; cases e'
                | no =>
                  have hpm : pairM mk mv env1 st4 = .no := by simp only [pairM, M.bind, hmk, hmv]
                  rw [hpm] at e'; cases e'
              | ex x st5 =>
                have hpm : pairM mk mv env1 st4 = .ex x st5 := by simp only [pairM, M.bind, hmk]
                rw [hpm] at e'; cases e'
              | no =>
                have hpm : pairM mk mv env1 st4 = .no := by simp only [pairM, M.bind, hmk]
                rw [hpm] at e'; cases e'
          cases hk : mt env1 st3 with
          | ok k st4 =>
            cases c with
            | none =>
              have hm := hT env1 st3
              rw [hk] at hm
              cases hm
              exact after true st3 hk ρ' H'' (Grow.refl _ _) q2
            | some cc =>
              intro s1 H1' C1 cl1 fp1
              exact hT s1 H1' C1 cl1 fp1 ρ' st3 env1 σ2 H'' k st4 q2 R2 hk _ fun ρ4 H4 g4 S4 => after k st4 hk ρ4 H4 g4 S4
          | ex x st4 => rw [hk] at e'; cases e'
          | no => rw [hk] at e'; cases e'
      · cases e'
    · rintro H' ⟨ρ', st3, acc, accKv, rest, g', S', hD', hDn, ra, e', ekv, el⟩
      rw [List.drop_eq_nil_of_le (Nat.le_refl _)] at e'
      simp only [loopC] at e'
      split at e'
      · cases e'
        simp only [dctOf] at ekv
        cases ekv
        refine P (ρ' ++ [Dl]) H' (.ref Dl) ?_ ?_ (.ob ?_)
        · have gg := g1.trans g'
          refine ⟨gg.pre.trans (List.prefix_append _ _), fun a ha hn => ?_, gg.frame, gg.tups, gg.frzs⟩
          rcases List.mem_append.mp ha with ha | ha
          · exact gg.fr a ha hn
          · rw [List.mem_singleton.mp ha]
            cases q : H Dl with
            | none => rfl
            | some o =>
              have hnρ : Dl ∉ ρ := fun z => hD1 (g1.pre.subset z)
              have := g1.frame Dl o q hnρ
              rw [hDl] at this; cases this
        · have := S'.takeD (ks := acc) hD' hDn ra
          rw [upd_self hD'] at this
          exact this
        · rw [List.getElem?_append_right (by rw [S'.len]; exact Nat.le_refl _), S'.len]
          simp
      · cases e'
  · cases e3
theorem snd_dc {ownp : List (Str × Nat)} (hc : X.calm = true) (hN : X.N.Nodup) (ok : BlkOk X.N X.env.scope scope ownp) (hown : ownp.map (·.2) = own) (hfs : ∀ x, foldedSetIterable iter X.env x = pure x)
    (hI : SndI X tg iter mI) (hG : Blks X scope fun Y => SndG Y tg t) (hT : SndTo X scope c mt) (hK : Blks X scope fun Y => SndE Y kx mk) (hV : Blks X scope fun Y => SndE Y vx mv) (hsub : ∀ i ∈ t.slots, i ∈ own) :
    SndE X (.DictComp kx vx [⟨tg, iter, c.toList, 0⟩] scope pos) (fun env => M.bind (mI env) fun p => M.bind (loopC p.2 (compF t own env mt (pairM mk mv)) p.1) dctR) := by
  intro ρ st env σ H d st' S R e Q P
  obtain ⟨wi, hwi, h⟩ := dc_run hI hG hT hK hV hsub S R e P
  subst hown
  exact we_of (pe_dc hc hN hwi ok (fun s H C cl fp => ⟨fun pins s' σ H' v u Q I r h => h s H C cl fp pins s' u I r⟩) pts_B (fun s H C cl fp => ⟨fun pins s' σ H' Q I h => h s H C cl fp pins s' I⟩) (fun s H C cl fp => ⟨fun pins s' σ H' Q I h => h s H C cl fp pins s' I⟩) hfs) h
theorem sndS_setDc {ownp : List (Str × Nat)} {j : Nat} {y : Str} {py spos : Pos} (hc : X.calm = true) (hN : X.N.Nodup) (hy : X.N[j]? = some y) (hyl : X.env.scope.names.lookup y = some .local) (hsw : swapsWith (.DictComp kx vx [⟨tg, iter, c.toList, 0⟩] scope pos) (some (.Name y py)) spos.line X.env = pure true)
    (ok : BlkOk X.N X.env.scope scope ownp) (hown : ownp.map (·.2) = own) (hfs : ∀ x, foldedSetIterable iter X.env x = pure x)
    (hI : SndI X tg iter mI) (hG : Blks X scope fun Y => SndG Y tg t) (hT : SndTo X scope c mt) (hK : Blks X scope fun Y => SndE Y kx mk) (hV : Blks X scope fun Y => SndE Y vx mv) (hsub : ∀ i ∈ t.slots, i ∈ own) :
    SndS X (.Assign [.Name y py] (.DictComp kx vx [⟨tg, iter, c.toList, 0⟩] scope pos) spos) (fun env => M.bind (M.bind (mI env) fun p => M.bind (loopC p.2 (compF t own env mt (pairM mk mv)) p.1) dctR) fun d st => .ok (.nx (env.set j (some d))) st) := by
  intro ρ st env σ H fl st' S R e D P
  obtain ⟨d, st1, e1, e2⟩ := bind_ok e
  cases e2
  obtain ⟨wi, hwi, h⟩ := dc_run (Q := fun x H1 => gName j x σ H1 D.nx) hI hG hT hK hV hsub S R e1 fun ρ1 H1 v g1 S1 r1 => P ρ1 H1 _ g1 S1 ((R.grow g1).set r1 j)
  subst hown
  exact ws_of (ps_setDc hc hN hy hyl hsw hwi ok (fun s H C cl fp => ⟨fun pins s' σ H' v u Q I r h => h s H C cl fp pins s' u I r⟩) pts_B (fun s H C cl fp => ⟨fun pins s' σ H' Q I h => h s H C cl fp pins s' I⟩) (fun s H C cl fp => ⟨fun pins s' σ H' Q I h => h s H C cl fp pins s' I⟩) hfs) h
end
end W9

/-! W9V: list(d.values()), sorted(set(l)), sorted({..}), sound -/
namespace W9
open PySem L2
theorem KvK.vals {K : PySem.W.Frag} {ρ : List Addr} {H : Hp} : ∀ {kvs : List (D × D)} {ks : List (Key × V)}, KvK K ρ H kvs ks → Reps K ρ H (kvs.map (·.2)) (ks.map (·.2))
  | _, _, .nil => .nil
  | _, _, .cons _ r t => .cons r (KvK.vals t)
theorem KvT.vals {K : PySem.W.Frag} {ρ : List Addr} {H : Hp} : ∀ {kvs : List (D × D)} {ks : List (List Key × V)}, KvT K ρ H kvs ks → Reps K ρ H (kvs.map (·.2)) (ks.map (·.2))
  | _, _, .nil => .nil
  | _, _, .cons _ r t => .cons r (KvT.vals t)
theorem snd_vals {X : Cx} {o : Expr} {p pos apos mpos : Pos} {mo : Env → M D} (hc : X.calm = true) (hg : Gl X "list") (hm : X.mg "list" = none) (ho : SndE X o mo) (hbase : attributeBase o "values" X.env (eval o X.env) = eval o X.env) (hline : (apos.endLine == mpos.line) = true) :
    SndE X (.Call (.Name "list" p) [.Call (.Attribute o "values" apos) [] [] mpos] [] pos) (fun env => M.bind (mo env) fun x => primD .vals [x]) := by
  intro ρ st env σ H d st' S R e Q P
  obtain ⟨x, st1, e1, e2⟩ := bind_ok e
  simp only [primD] at e2
  cases x with
  | ob j =>
    simp only [valsD] at e2
    split at e2
    · rename_i kvs hj
      cases e2
      refine we_of (pe_listVals hc hg hm pe_we hbase hline) ?_
      refine ho ρ st env σ H _ st1 S R e1 _ fun ρ1 H1 v g1 S1 r1 => ?_
      obtain ⟨a, ha, orep⟩ := S1.addr hj
      have hv : v = .ref a := by
        cases r1 with
        | ob h => rw [ha] at h; cases h; rfl
      rcases orep with ⟨ks, h1, h2⟩ | ⟨ks, h1, h2⟩
      · exact ⟨a, ks.map (·.2), hv, .inl ⟨ks, h1, rfl⟩, fun q hq => (P.grow g1).lst S1 h2.vals hq⟩
      · exact ⟨a, ks.map (·.2), hv, .inr ⟨ks, h1, rfl⟩, fun q hq => (P.grow g1).lst S1 h2.vals hq⟩
    · cases e2
  | _ => cases e2
/-! ### ints, rising, each once -/
theorem insU_mem (x : Int) : ∀ (l : List Int) (k : Int), k ∈ insU x l ↔ k = x ∨ k ∈ l
  | [], k => by simp [insU]
  | y :: r, k => by
    unfold insU
    split
    · simp
    · split
      · rename_i h; subst h; simp
      · rw [List.mem_cons, insU_mem x r k, List.mem_cons]
        constructor
        · rintro (h | h | h)
          · exact .inr (.inl h)
          · exact .inl h
          · exact .inr (.inr h)
        · rintro (h | h | h)
          · exact .inr (.inl h)
          · exact .inl h
          · exact .inr (.inr h)
theorem insU_rise (x : Int) : ∀ {l : List Int}, l.Pairwise (· < ·) → (insU x l).Pairwise (· < ·)
  | [], _ => by simp [insU]
  | y :: r, h => by
    obtain ⟨h1, h2⟩ := List.pairwise_cons.mp h
    unfold insU
    split
    · rename_i hx
      exact List.pairwise_cons.mpr ⟨fun z hz => by rcases List.mem_cons.mp hz with rfl | hz; exact hx; exact Int.lt_trans hx (h1 z hz), h⟩
    · split
      · exact h
      · refine List.pairwise_cons.mpr ⟨fun z hz => ?_, insU_rise x h2⟩
        rcases (insU_mem x r z).mp hz with rfl | hz
        · omega
        · exact h1 z hz
theorem sortU_mem : ∀ (l : List Int) (k : Int), k ∈ sortU l ↔ k ∈ l
  | [], k => by simp [sortU]
  | x :: r, k => by simp only [sortU]; rw [insU_mem, sortU_mem r k, List.mem_cons]
theorem sortU_rise : ∀ (l : List Int), (sortU l).Pairwise (· < ·)
  | [] => .nil
  | x :: r => insU_rise x (sortU_rise r)
theorem rise_unique : ∀ {a b : List Int}, a.Pairwise (· < ·) → b.Pairwise (· < ·) → (∀ k, k ∈ a ↔ k ∈ b) → a = b
  | [], [], _, _, _ => rfl
  | [], y :: b, _, _, h => absurd ((h y).mpr List.mem_cons_self) (by simp)
  | x :: a, [], _, _, h => absurd ((h x).mp List.mem_cons_self) (by simp)
  | x :: a, y :: b, ha, hb, h => by
    obtain ⟨a1, a2⟩ := List.pairwise_cons.mp ha
    obtain ⟨b1, b2⟩ := List.pairwise_cons.mp hb
    have e : x = y := by
      rcases List.mem_cons.mp ((h x).mp List.mem_cons_self) with e | e
      · exact e
      · rcases List.mem_cons.mp ((h y).mpr List.mem_cons_self) with e2 | e2
        · exact e2.symm
        · have := b1 x e; have := a1 y e2; omega
    subst e
    rw [rise_unique a2 b2 fun k => ?_]
    constructor
    · intro hk
      rcases List.mem_cons.mp ((h k).mp (List.mem_cons_of_mem _ hk)) with e | e
      · have := a1 k hk; omega
      · exact e
    · intro hk
      rcases List.mem_cons.mp ((h k).mpr (List.mem_cons_of_mem _ hk)) with e | e
      · have := b1 k hk; omega
      · exact e
theorem rise_sortU {ns : List Int} {l : List Int} (h : ns.Pairwise (· < ·)) (hm : ∀ k, k ∈ ns ↔ k ∈ l) : ns = sortU l := rise_unique h (sortU_rise l) fun k => by rw [hm, sortU_mem]
/-- what sorted makes of the set -/
theorem sorted_end {X : Cx} {ρ : List Addr} {st : Store} {H : Hp} {a : Addr} {F : Int → Bool} {n : Nat} {is : List Int} {Q : VK} (P : Post X.K ρ H (st ++ [.lst ((sortU is).map D.int)]) (.ob st.length) Q) (S : Sim X.K ρ st H) (ha : H a = some (SetO X.w a F n)) (hF : ∀ k, F k = true ↔ k ∈ is) : rSortSet X.w [.ref a] H Q := by
  refine ⟨a, F, n, rfl, ha, fun ns p h1 h2 hp => ?_⟩
  rw [rise_sortU (l := is) h1 fun k => by rw [h2, hF]]
  exact P.lst S (reps_ints _) hp
theorem snd_sset {X : Cx} {a : Expr} {p p2 q pos : Pos} {ma : Env → M D} (hc : X.calm = true) (hg : Gl X "sorted") (hm : X.mg "sorted" = none) (hg2 : Gl X "set") (hm2 : X.mg "set" = none) (hs : starEach [a] X.env = (false, eval a X.env) :: starEach [] X.env) (ha : SndE X a ma) :
    SndE X (.Call (.Name "sorted" p) [.Call (.Name "set" p2) [a] [] q] [] pos) (fun env => M.bind (ma env) fun x => primD .sset [x]) := by
  intro ρ st env σ H d st' S R e Q P
  obtain ⟨x, st1, e1, e2⟩ := bind_ok e
  simp only [primD] at e2
  split at e2
  · rename_i xs hx
    unfold ssetL at e2
    split at e2
    · rename_i is his
      split at e2
      · rename_i hl
        cases e2
        refine we_of (pe_callB (cr_sortSet hc) hg hm (by rfl) (pa_cons (pe_callTy (cr_setL hc) hg2 hm2 (by rfl) (pa_cons pe_we pa_nil hs) (by decide) (by decide) hs rfl) pa_nil rfl) (by decide) (by decide) rfl rfl) ?_
        refine ha ρ st env σ H _ st1 S R e1 _ fun ρ1 H1 v g1 S1 r1 => ?_
        obtain ⟨ad, vs, rfl, h1, h2⟩ := itemsL_rep S1 r1 hx
        rw [intsOf_reps his h2] at h1
        refine ⟨ad, is, rfl, h1, by unfold scanBound; omega, fun c p hp => ?_⟩
        exact sorted_end ((P.grow g1).grow (grow_new hp)) (S1.new hp) upd_same (by simp)
      · cases e2
    · cases e2
  · cases e2
section
variable {X : Cx} {tg iter : Expr} {t : Tg} {pos : Pos} {mI : Env → M (List D × List (Nat × List D))}
variable {elt : Expr} {scope : Scope} {own : List Nat} {c : Option Expr} {me : Env → M D} {mt : Env → M Bool}
theorem keep_otherS {ρ : List Addr} {H : Hp} {p : Addr} {w : World} {F : Int → Bool} {n : Nat} {u : HO} (h : H p = some (SetO w p F n)) : Keep ρ H ρ (upd H p u) :=
  ⟨List.prefix_refl _, fun b xs e => by rw [upd_ne (fun z => by rw [z, h] at e; cases e)]; exact e, fun b o xs e => by rw [upd_ne (fun z => by rw [z, h] at e; cases e)]; exact e⟩
theorem Sim.otherS {K : PySem.W.Frag} {ρ : List Addr} {st : Store} {H : Hp} {p : Addr} {w : World} {F : Int → Bool} {n : Nat} {u : HO} (S : Sim K ρ st H) (h : H p = some (SetO w p F n)) (hp : p ∉ ρ) : Sim K ρ st (upd H p u) :=
  ⟨S.len, S.nd, fun i o a h1 h2 => (S.ob i o a h1 h2).keep (keep_otherS h) fun w e => by rw [upd_ne (fun z => hp (by rw [← z]; exact List.mem_of_getElem? h2))]; exact e⟩
theorem intsOf_cons {d : D} {l : List D} {is : List Int} (h : intsOf (d :: l) = some is) : ∃ i r, d = .int i ∧ intsOf l = some r ∧ is = i :: r := by
  cases d with
  | int i =>
    simp only [intsOf] at h
    split at h
    · rename_i r e; cases h; exact ⟨i, r, rfl, e, rfl⟩
    · cases h
  | _ => simp only [intsOf] at h; cases h
/-- how far the set at Dl is filled -/
structure SAt (X : Cx) (ρ1 : List Addr) (H1 : Hp) (Dl : Addr) (loop : Store → R (List D)) (st2 : Store) (is : List Int) (H' : Hp) : Prop where
  ex : ∃ ρ' st3 F n acc rest r, Grow ρ1 H1 ρ' H' ∧ Sim X.K ρ' st3 H' ∧ H' Dl = some (SetO X.w Dl F n) ∧ Dl ∉ ρ' ∧ (∀ k, F k = true ↔ k ∈ acc) ∧ n ≤ acc.length ∧ loop st3 = .ok rest st2 ∧ intsOf rest = some r ∧ is = acc ++ r
theorem ssc_run (hI : SndI X tg iter mI) (hG : Blks X scope fun Y => SndG Y tg t) (hT : SndTo X scope c mt) (hE : Blks X scope fun Y => SndE Y elt me) (hsub : ∀ i ∈ t.slots, i ∈ own)
    {ρ : List Addr} {st st' : Store} {env : Env} {σ : L2.St} {H : Hp} {d : D} (S : Sim X.K ρ st H) (R : EnvR X.K ρ H env σ)
    (e : (M.bind (mI env) fun p => M.bind (loopC p.2 (compF t own env mt me) p.1) ssetL) st = .ok d st') {Q : VK} (P : Post X.K ρ H st' d Q) :
    ∃ wi, PI X tg iter wi ∧ tIc X.w wi (gB X scope tg) (ttB X scope c) (tBk X scope elt) own σ H (fun v H' => rSortSet X.w [v] H' Q) := by
  obtain ⟨⟨items, gd⟩, st1, e1, e2⟩ := bind_ok e
  obtain ⟨ds, st2, e4, e3⟩ := bind_ok e2
  dsimp only [ssetL] at e4 e3
  split at e3
  · rename_i is his
    split at e3
    · rename_i hlen
      cases e3
      obtain ⟨wi, hwi, hR⟩ := hI ρ st env σ H _ st1 S R e1
      refine ⟨wi, hwi, hR _ fun ρ1 H1 J g1 S1 W Dl hDl => ?_⟩
      obtain ⟨G, Y, w, hG', hY⟩ := W.ex
      dsimp only at w hG' hY
      have hD1 : Dl ∉ ρ1 := S1.free hDl
      refine ic_it X.w w (fun i H' => SAt X ρ1 H1 Dl (loopC gd (compF t own env mt me) (items.drop i)) st2 is H')
        ⟨ρ1, st1, _, 0, [], ds, is, (Grow.refl _ _).other hDl, S1.new hDl, upd_same, hD1, by simp, Nat.le_refl _, by simpa using e4, his, rfl⟩ ?_ ?_ ?_
      · rintro i H' hi ⟨ρ', st3, F, n, acc, rest, r, g', S', hD', hDn, hF, hn, e', er, eds⟩
        exact hG' ρ' H' st3 g' S' (loopC_gd e')
      · rintro i x H' H'' hi ⟨ρ', st3, F, n, acc, rest, r, g', S', hD', hDn, hF, hn, e', er, eds⟩ y
        obtain ⟨q1, q2, it, q3, q4⟩ := hY i ρ' H' st3 x H'' g' S' (loopC_gd e') hi y
        have hd : items.drop i = it :: items.drop (i + 1) := by
          obtain ⟨hlt, hget⟩ := List.getElem?_eq_some_iff.mp q3
          rw [List.drop_eq_getElem_cons hlt, hget]
        rw [hd] at e'
        have hD'' : H'' Dl = some (SetO X.w Dl F n) := q1.frame _ _ hD' hDn
        have gg : Grow ρ1 H1 ρ' H'' := g'.trans q1
        simp only [loopC] at e'
        rw [compF_app] at e'
        split at e'
        · cases hb : bindT t it (wipeE env own) st3 with
          | none => rw [hb] at e'; cases e'
          | some env1 =>
            rw [hb] at e'
            dsimp only at e'
            intro s0 H0 C0 cl0 fp0
            refine hG s0 H0 C0 cl0 fp0 ρ' st3 (wipeE env own) (L2.wipe σ own) H'' it x env1 q2 (((R.grow g1).grow gg).wipe own) q4 hb _ fun σ2 R2 hw2 => ⟨?_, ?_⟩
            · have h1 := hw2 own hsub
              rw [h1]
              apply List.ext_getElem?
              intro j
              by_cases hj : j < σ.length
              · by_cases hv : j ∈ own
                · rw [wipe_at (by rw [wipe_length]; exact hj) hv, wipe_at hj hv]
                · rw [wipe_out hv]
              · rw [List.getElem?_eq_none (by rw [wipe_length, wipe_length]; simpa using hj), List.getElem?_eq_none (by rw [wipe_length]; simpa using hj)]
            have after : ∀ (k : Bool) (st4 : Store), mt env1 st3 = .ok k st4 → ∀ ρ4 H4, Grow ρ' H'' ρ4 H4 → Sim X.K ρ4 st4 H4 →
                if k = true then tBk X scope elt σ2 H4 (addQ X.w Dl fun H' => SAt X ρ1 H1 Dl (loopC gd (compF t own env mt me) (items.drop (i + 1))) st2 is H')
                else SAt X ρ1 H1 Dl (loopC gd (compF t own env mt me) (items.drop (i + 1))) st2 is H4 := by
              intro k st4 hk ρ4 H4 g4 S4
              rw [hk] at e'
              have hDn4 : Dl ∉ ρ4 := fun z => by
                have := g4.fr Dl z hDn
                rw [hD''] at this; cases this
              have hD4 : H4 Dl = some (SetO X.w Dl F n) := g4.frame _ _ hD'' hDn
              cases k with
              | false =>
                rw [if_neg (by decide)]
                dsimp only at e'
                cases hl : loopC gd (compF t own env mt me) (items.drop (i + 1)) st4 with
                | ok l st5 =>
                  rw [hl] at e'
                  cases e'
                  exact ⟨ρ4, st4, F, n, acc, l, r, gg.trans g4, S4, hD4, hDn4, hF, hn, hl, by simpa using er, eds⟩
                | ex x st5 => rw [hl] at e'; cases e'
                | no => rw [hl] at e'; cases e'
              | true =>
                rw [if_pos rfl]
                dsimp only at e'
                intro s1 H1' C1 cl1 fp1
                cases hm : me env1 st4 with
                | ok dv st5 =>
                  rw [hm] at e'
                  dsimp only at e'
                  refine hE s1 H1' C1 cl1 fp1 ρ4 st4 env1 σ2 H4 dv st5 S4 (R2.grow g4) hm _ fun ρ5 H5 v5 g5 S5 r5 => ?_
                  have hDn5 : Dl ∉ ρ5 := fun z => by
                    have := g5.fr Dl z hDn4
                    rw [hD4] at this; cases this
                  have hD5 : H5 Dl = some (SetO X.w Dl F n) := g5.frame _ _ hD4 hDn4
                  cases hl : loopC gd (compF t own env mt me) (items.drop (i + 1)) st5 with
                  | ok l st6 =>
                    rw [hl] at e'
                    cases e'
                    obtain ⟨z, r', rfl, er', rfl⟩ := intsOf_cons (by simpa using er)
                    cases r5
                    have hlt : n + 1 < scanBound := by
                      have h2 := congrArg List.length eds
                      simp at h2
                      unfold scanBound
                      omega
                    refine ⟨z, F, n, rfl, hD5, hlt, ρ5, st5, _, _, acc ++ [z], l, r', ((gg.trans g4).trans g5).other hDl, S5.otherS hD5 hDn5, upd_same, hDn5, fun k => ?_, ?_, hl, er', by simpa using eds⟩
                    · simp [hF k]
                    · rw [List.length_append]
                      show (if F z = true then n else n + 1) ≤ acc.length + 1
                      split <;> omega
                  | ex x st6 => rw [hl] at e'; cases e'
                  | no => rw [hl] at e'; cases e'
                | ex x st5 => rw [hm] at e'; cases e'
                | no => rw [hm] at e'; cases e'
            cases hk : mt env1 st3 with
            | ok k st4 =>
              cases c with
              | none =>
                have hm := hT env1 st3
                rw [hk] at hm
                cases hm
                exact after true st3 hk ρ' H'' (Grow.refl _ _) q2
              | some cc =>
                intro s1 H1' C1 cl1 fp1
                exact hT s1 H1' C1 cl1 fp1 ρ' st3 env1 σ2 H'' k st4 q2 R2 hk _ fun ρ4 H4 g4 S4 => after k st4 hk ρ4 H4 g4 S4
            | ex x st4 => rw [hk] at e'; cases e'
            | no => rw [hk] at e'; cases e'
        · cases e'
      · rintro H' ⟨ρ', st3, F, n, acc, rest, r, g', S', hD', hDn, hF, hn, e', er, eds⟩
        rw [List.drop_eq_nil_of_le (Nat.le_refl _)] at e'
        simp only [loopC] at e'
        split at e'
        · cases e'
          simp only [intsOf] at er
          cases er
          rw [List.append_nil] at eds
          subst eds
          exact sorted_end (P.grow (g1.trans g')) S' hD' hF
        · cases e'
    · cases e3
  · cases e3
theorem snd_ssc {ownp : List (Str × Nat)} {p pos2 : Pos} (hg : Gl X "sorted") (hm : X.mg "sorted" = none) (hc : X.calm = true) (hN : X.N.Nodup) (ok : BlkOk X.N X.env.scope scope ownp) (hown : ownp.map (·.2) = own) (hfs : ∀ x, foldedSetIterable iter X.env x = pure x)
    (hI : SndI X tg iter mI) (hG : Blks X scope fun Y => SndG Y tg t) (hT : SndTo X scope c mt) (hE : Blks X scope fun Y => SndE Y elt me) (hsub : ∀ i ∈ t.slots, i ∈ own) :
    SndE X (.Call (.Name "sorted" p) [.SetComp elt [⟨tg, iter, c.toList, 0⟩] scope pos] [] pos2) (fun env => M.bind (mI env) fun p => M.bind (loopC p.2 (compF t own env mt me) p.1) ssetL) := by
  intro ρ st env σ H d st' S R e Q P
  obtain ⟨wi, hwi, h⟩ := ssc_run hI hG hT hE hsub S R e P
  subst hown
  exact we_of (pe_callB (cr_sortSet hc) hg hm (by rfl) (pa_cons (pe_ic hc hN hwi ok (fun s H C cl fp => ⟨fun pins s' σ H' v u Q I r h => h s H C cl fp pins s' u I r⟩) pts_B (fun s H C cl fp => ⟨fun pins s' σ H' Q I h => h s H C cl fp pins s' I⟩) hfs) pa_nil rfl) (by decide) (by decide) rfl rfl) h
end
end W9

/-! W9o: the checker -/
namespace W9
open PySem L2
structure Stc where
  N : List Str
  sc : Scope
  cf : Str → Bool
  bs : List Str
  fs : List (Str × Frm)
  gs : List Str
  cs : List Str := []
def visB (sc : Scope) (x : Str) : Bool := match sc.names.lookup x with | some .local => true | some .cell => true | some .free => true | _ => false
def locB (sc : Scope) (x : Str) : Bool := match sc.names.lookup x with | some .local => true | some .cell => true | _ => false
def isLoc (sc : Scope) (x : Str) : Bool := match sc.names.lookup x with | some .local => true | _ => false
def glB (sc : Scope) (x : Str) : Bool := match sc.names.lookup x with | some .globalImplicit => true | _ => false
def okNm (x : Str) : Bool := !(x == ("__debug__" : Str)) && !(x == ("__classdict__" : Str))
def stB (T : Stc) (x : Str) : Bool := T.cf x || isLoc T.sc x
def slotB (T : Stc) (i : Nat) (x : Str) : Bool := decide (T.N[i]? = some x)
def Stc.blk (T : Stc) (scope : Scope) : Stc := { T with sc := relS scope T.sc, cf := fun x => scope.names.lookup x == some .cell }
def notStar : Expr → Bool
  | .Starred .. => false
  | _ => true
def notSet : Expr → Bool
  | .Set .. => false
  | _ => true
def notSlice : Expr → Bool
  | .Slice .. => false
  | _ => true
def baseOk : Expr → Bool
  | .Call (.Name x _) [] [] _ => x != ("super" : Str)
  | _ => true
def notComp : Expr → Bool
  | .ListComp .. => false
  | .SetComp .. => false
  | .DictComp .. => false
  | _ => true
/-- a, b = x, y: stored as a tuple's items are -/
def swN (sc : Scope) (ts : List Expr) (value : Expr) : Bool :=
  match value with
  | .Tuple vs _ _ =>
    (!(ts.length == 2 || ts.length == 3) || vs.length != ts.length) ||
    (vs.any fun | .Starred .. => true | _ => false) ||
    ((ts.filterMap fun
      | .Name id pos => if sc.names.lookup id == some .local && pos.line == (ts.head?.map (·.pos.line)).getD 0 then some id else none
      | _ => none).length != ts.length) ||
    vs.all (foldedForSure 8)
  | _ => true
/-- .. or exchanged -/
def par2B (sc : Scope) (ts : List Expr) (v : Expr) : Bool := match ts, v with
  | [.Name x px, .Name y py], .Tuple [a, b] _ _ => isLoc sc x && isLoc sc y && (py.line == px.line) && decide (x ≠ y) && notStar a && notStar b && !([a, b].all (foldedForSure 8)) && !([a, b].all (constantsAlone 8))
  | _, _ => false
def par3B (sc : Scope) (ts : List Expr) (v : Expr) : Bool := match ts, v with
  | [.Name x px, .Name y py, .Name z pz], .Tuple [a, b, c] _ _ => isLoc sc x && isLoc sc y && isLoc sc z && (py.line == px.line) && (pz.line == px.line) && decide (x ≠ y) && decide (x ≠ z) && decide (y ≠ z) && notStar a && notStar b && notStar c &&
    !([a, b, c].all (foldedForSure 8)) && !([a, b, c].all (constantsAlone 8))
  | _, _ => false
def isTupE : Ex → Bool
  | .tup _ => true
  | _ => false
def chNs (T : Stc) : List Expr → List Nat → Bool
  | [], [] => true
  | .Name x _ :: es, i :: is => slotB T i x && locB T.sc x && stB T x && chNs T es is
  | _, _ => false
def chTg (T : Stc) (e : Expr) : Tg → Bool
  | .name i => match e with | .Name x _ => slotB T i x && locB T.sc x && stB T x | _ => false
  | .tup is => match e with | .Tuple es _ _ => chNs T es is | _ => false
  | .nest i is => match e with | .Tuple [.Name x _, .Tuple es _ _] _ _ => slotB T i x && locB T.sc x && stB T x && chNs T es is | _ => false
/-- x.f, .. -/
def chFl (x : Str) : List Expr → List Str → Bool
  | [], [] => true
  | .Attribute (.Name y _) g _ :: es, f :: fs => decide (y = x) && decide (g = f) && chFl x es fs
  | _, _ => false
def headN : List Expr → Option Str
  | .Attribute (.Name y _) _ _ :: _ => some y
  | _ => none
def cstB (e : Expr) (d : D) : Bool := match e with
  | .Constant (.int i) _ _ => decide (d = .int i)
  | .Constant (.str s) _ _ => decide (d = .str s)
  | .Constant (.bool b) _ _ => decide (d = .bl b)
  | .Constant .none _ _ => decide (d = .non)
  | _ => false
def isTup : Expr → Bool
  | .Tuple .. => true
  | _ => false
def ownP (T : Stc) (own : List Nat) : List (Str × Nat) := own.map fun i => (T.N.getD i "", i)
def okBin : Operator → Bool
  | .Add => true | .Sub => true | .Mult => true | .FloorDiv => true | .Mod => true | .Pow => true | _ => false
/-- the keys of a display -/
def chKs : List Str → List (Option Expr) → Bool
  | [], [] => true
  | k :: ks, some (.Constant (.str x) _ _) :: es => decide (x = k) && chKs ks es
  | _, _ => false
/-- the arguments of a thing done with values -/
def chPr (T : Stc) : Prm → Expr → Option (List Expr)
  | .vals, e => (match e with
    | .Call (.Name x _) [.Call (.Attribute o nm ap) [] [] cp] [] _ => if decide (x = ("list" : Str)) && T.bs.contains x && glB T.sc x && decide (nm = ("values" : Str)) && baseOk o && (ap.endLine == cp.line) then some [o] else none
    | _ => none)
  | .sset, e => (match e with
    | .Call (.Name x _) [.Call (.Name y _) [z] [] _] [] _ => if decide (x = ("sorted" : Str)) && decide (y = ("set" : Str)) && T.bs.contains x && T.bs.contains y && glB T.sc x && glB T.sc y then some [z] else none
    | _ => none)
mutual
def chE (T : Stc) : Ex → Expr → Bool
  | .var i, e => (match e with | .Name x _ => slotB T i x && visB T.sc x && okNm x | _ => false)
  | .cst d, e => cstB e d
  | .glob y, e => (match e with | .Name x _ => decide (x = y) && T.gs.contains x && glB T.sc x && okNm x | _ => false)
  | .tup es, e => (match e with | .Tuple xs _ _ => chA T es xs | _ => false)
  | .lst es, e => (match e with | .List xs _ => chA T es xs | _ => false)
  | .dict0, e => (match e with | .Dict [] [] _ => true | _ => false)
  | .dict ks es, e => (match e with
    | .Dict (k :: keys) vals _ => chKs ks (k :: keys) && decide (ks.Nodup) && decide (ks.length ≤ 15) && chA T es vals && decide (vals.length = ks.length)
    | _ => false)
  | .bin op a b, e => (match e with | .BinOp x o y _ => decide (o = op) && okBin op && chE T a x && chE T b y | _ => false)
  | .neg a, e => (match e with | .UnaryOp .USub x _ => chE T a x | _ => false)
  | .cmp op a b, e => (match e with | .Compare x [o] [y] _ => decide (o = op) && notSet y && chE T a x && chE T b y | _ => false)
  | .chain o1 o2 a b c, e => (match e with | .Compare x [p1, p2] [y, z] _ => decide (p1 = o1) && decide (p2 = o2) && notSet z && chE T a x && chE T b y && chE T c z | _ => false)
  | .and a b, e => (match e with
    | .BoolOp .And [x, y] _ => chE T a x && chE T b y
    | .BoolOp .And (x :: y :: z :: r) pos => chE T a x && chE T b (.BoolOp .And (y :: z :: r) pos)
    | _ => false)
  | .or a b, e => (match e with
    | .BoolOp .Or [x, y] _ => chE T a x && chE T b y
    | .BoolOp .Or (x :: y :: z :: r) pos => chE T a x && chE T b (.BoolOp .Or (y :: z :: r) pos)
    | _ => false)
  | .not a, e => (match e with | .UnaryOp .Not x _ => chE T a x | _ => false)
  | .ite c a b, e => (match e with | .IfExp x y z _ => chE T c x && chE T a y && chE T b z | _ => false)
  | .idx a i, e => (match e with | .Subscript x y _ => notSlice y && chE T a x && chE T i y | _ => false)
  | .sl a lo hi, e => (match e with | .Subscript x (.Slice l h none _) _ => chE T a x && chO T lo l && chO T hi h | _ => false)
  | .call f es, e => (match e with | .Call (.Name x _) (y :: ys) [] _ => decide (x = f) && T.fs.contains (x, ⟨x, [], ys.length + 1, none⟩) && glB T.sc x && okNm x && chA T es (y :: ys) | _ => false)
  | .call0 f, e => (match e with | .Call (.Name x _) [] [] _ => decide (x = f) && T.fs.contains (x, ⟨x, [], 0, none⟩) && glB T.sc x && okNm x | _ => false)
  | .callK tag f ks es kes, e => (match e with
    | .Call (.Name x _) ys kws _ => decide (x = f) && T.fs.contains (tag, ⟨x, ks, ys.length + kws.length, none⟩) && glB T.sc x && okNm x && decide (kws.map (·.arg) = ks.map some) && chA T es ys && chA T kes (kws.map (·.value))
    | _ => false)
  | .fld o f, e => (match e with | .Attribute x nm _ => decide (nm = f) && baseOk x && chE T o x | _ => false)
  | .mcall _ m ks o es kes, e => (match e with
    | .Call (.Attribute x nm ap) ys kws cp => decide (nm = m) && baseOk x && (ap.endLine == cp.line) && decide (ys.length + kws.length < 20) && decide (kws.map (·.arg) = ks.map some) && chE T o x && chA T es ys && chA T kes (kws.map (·.value))
    | _ => false)
  | .make _ c ks es kes, e => (match e with
    | .Call (.Name x _) ys kws _ => decide (x = c) && T.cs.contains c && glB T.sc x && okNm x && decide (kws.map (·.arg) = ks.map some) && chA T es ys && chA T kes (kws.map (·.value))
    | _ => false)
  | .bi b es, e => (match e with | .Call (.Name x _) (y :: ys) [] _ => decide (x = b.name) && T.bs.contains x && glB T.sc x && chA T es (y :: ys) | _ => false)
  | .meth m o es, e => (match e with | .Call (.Attribute x nm ap) (y :: ys) [] cp => decide (nm = m.name) && baseOk x && (ap.endLine == cp.line) && decide ((y :: ys).length < 20) && chE T o x && chA T es (y :: ys) | _ => false)
  | .lc own src tg c el, e => (match e with
    | .ListComp elt [⟨t, iter, ifs, 0⟩] scope _ => blkC T.N T.sc scope (ownP T own) && notSet iter && chI T src t iter && chTg (T.blk scope) t tg && chO (T.blk scope) c ifs.head? && decide (ifs.length ≤ 1) && chE (T.blk scope) el elt && tg.slots.all (fun i => own.contains i)
    | _ => false)
  | .dc own src tg c kk vv, e => (match e with
    | .DictComp ka va [⟨t, iter, ifs, 0⟩] scope _ => blkC T.N T.sc scope (ownP T own) && notSet iter && chI T src t iter && chTg (T.blk scope) t tg && chO (T.blk scope) c ifs.head? && decide (ifs.length ≤ 1) && chE (T.blk scope) kk ka && chE (T.blk scope) vv va && tg.slots.all (fun i => own.contains i)
    | _ => false)
  | .ssc own src tg c el, e => (match e with
    | .Call (.Name x _) [.SetComp elt [⟨t, iter, ifs, 0⟩] scope _] [] _ => decide (x = ("sorted" : Str)) && T.bs.contains x && glB T.sc x && (blkC T.N T.sc scope (ownP T own) && notSet iter && chI T src t iter && chTg (T.blk scope) t tg && chO (T.blk scope) c ifs.head? && decide (ifs.length ≤ 1) && chE (T.blk scope) el elt && tg.slots.all (fun i => own.contains i))
    | _ => false)
  | .prim p es, e => (match chPr T p e with | some xs => chA T es xs | none => false)
def chA (T : Stc) : Exs → List Expr → Bool
  | .nil, es => (match es with | [] => true | _ => false)
  | .cons c cs, es => (match es with | e :: r => notStar e && chE T c e && chA T cs r | _ => false)
def chO (T : Stc) : Exo → Option Expr → Bool
  | .none, o => (match o with | none => true | _ => false)
  | .some c, o => (match o with | some e => chE T c e | _ => false)
def chI (T : Stc) : Src → Expr → Expr → Bool
  | .seq c, _, e => chE T c e
  | .rng1 a, _, e => (match e with | .Call (.Name x _) [y] [] _ => decide (x = ("range" : Str)) && T.bs.contains x && glB T.sc x && notStar y && chE T a y | _ => false)
  | .rng2 a b, _, e => (match e with | .Call (.Name x _) [y, z] [] _ => decide (x = ("range" : Str)) && T.bs.contains x && glB T.sc x && notStar y && notStar z && chE T a y && chE T b z | _ => false)
  | .enum a, t, e => (match e with | .Call (.Name x _) [y] [] _ => isTup t && decide (x = ("enumerate" : Str)) && T.bs.contains x && glB T.sc x && notStar y && chE T a y | _ => false)
  | .zip a b, t, e => (match e with | .Call (.Name x _) [y, z] [] _ => isTup t && decide (x = ("zip" : Str)) && T.bs.contains x && glB T.sc x && notStar y && notStar z && chE T a y && chE T b z | _ => false)
end
/-- name = comprehension: whether the stores are exchanged -/
def swB (sc : Scope) (x : Str) (px : Pos) : Expr → Bool
  | .DictComp _ _ _ s p => (sc.names.lookup x == some .local) && (px.line == p.line) && !(s.names.any fun (n, k) => n == x && (k == .local || k == .cell))
  | .ListComp _ _ s p => (sc.names.lookup x == some .local) && (px.line == p.line) && !(s.names.any fun (n, k) => n == x && (k == .local || k == .cell))
  | _ => false
def isLcE : Ex → Bool
  | .lc .. => true
  | .dc .. => true
  | _ => false
mutual
def chS (T : Stc) : Sm → Stmt → Bool
  | .asg i c, s => (match s with | .Assign [.Name x px] v _ => slotB T i x && locB T.sc x && stB T x && chE T c v && (notComp v || isLcE c) | _ => false)
  | .asgT is c, s => (match s with
    | .Assign [.Tuple ts k p] v pos => chE T c v && chNs T ts is && (swN T.sc ts v || ((par2B T.sc ts v || par3B T.sc ts v) && isTupE c && decide (is.Nodup)))
    | _ => false)
  | .setIx o i c, s => (match s with | .Assign [.Subscript x y _] v _ => notSlice y && chE T c v && chE T o x && chE T i y | _ => false)
  | .aug i op c, s => (match s with | .AugAssign (.Name x _) o v _ => slotB T i x && locB T.sc x && stB T x && decide (o = op) && chE T c v | _ => false)
  | .expr c, s => (match s with | .Expr v _ => notComp v && chE T c v | _ => false)
  | .ret c, s => (match s with | .Return (some v) _ => chE T c v | _ => false)
  | .retN, s => (match s with | .Return none _ => true | _ => false)
  | .ite c a b, s => (match s with | .If x y z _ => chE T c x && chSs T a y && chSs T b z | _ => false)
  | .forS src tg body, s => (match s with | .For t iter b [] _ => notSet iter && chI T src t iter && chTg T t tg && chSs T body b | _ => false)
  | .pass, s => (match s with | .Pass _ => true | _ => false)
  | .brk, s => (match s with | .Break _ => true | _ => false)
  | .cont, s => (match s with | .Continue _ => true | _ => false)
  | .never, _ => true
  | .setFld o f c, s => (match s with | .Assign [.Attribute x nm _] v _ => decide (nm = f) && chE T c v && chE T o x | _ => false)
  | .augFld o f op c, s => (match s with | .AugAssign (.Attribute x nm _) o' v _ => decide (nm = f) && decide (o' = op) && chE T c v && chE T o x | _ => false)
  | .asgF i fs c, s => (match s with
    | .Assign [.Tuple ts k p] v pos => (match headN ts with
      | some x => slotB T i x && visB T.sc x && okNm x && chFl x ts fs && chE T c v && swN T.sc ts v
      | none => false)
    | _ => false)
  | .whil _ c b, s => (match s with | .While x y [] _ => chE T c x && chSs T b y | _ => false)
def chSs (T : Stc) : Sms → List Stmt → Bool
  | .nil, s => (match s with | [] => true | _ => false)
  | .cons c cs, s => (match s with | x :: r => chS T c x && chSs T cs r | _ => false)
end
end W9

/-! W9p: the checker is right -/
namespace W9
open PySem L2
theorem kindOf_eq (env : PySem.Env) (x : Str) : env.kindOf x = env.scope.names.lookup x := rfl
theorem isLoc_eq {sc : Scope} {x : Str} (h : isLoc sc x = true) : sc.names.lookup x = some .local := by
  unfold isLoc at h
  split at h
  · assumption
  · cases h
theorem locB_eq {sc : Scope} {x : Str} (h : locB sc x = true) : Loc sc x := by
  unfold locB at h
  split at h
  · exact .inl (by assumption)
  · exact .inr (by assumption)
  · cases h
theorem visB_eq {sc : Scope} {x : Str} (h : visB sc x = true) : Vis sc x := by
  unfold visB at h
  split at h
  · exact .inl (by assumption)
  · exact .inr (.inl (by assumption))
  · exact .inr (.inr (by assumption))
  · cases h
theorem glB_eq {sc : Scope} {x : Str} (h : glB sc x = true) : sc.names.lookup x = some .globalImplicit := by
  unfold glB at h
  split at h
  · assumption
  · cases h
theorem star_cons {e : Expr} {es : List Expr} {env : PySem.Env} (h : notStar e = true) : starEach (e :: es) env = (false, eval e env) :: starEach es env := by
  cases e <;> first | rfl | (cases h)
theorem star_any {env : PySem.Env} {pos : Pos} : ∀ {es : List Expr}, es.all notStar = true → (backTo pos (starEach es env)).any (·.1) = false
  | [], _ => rfl
  | e :: es, h => by
    simp only [List.all_cons, Bool.and_eq_true] at h
    rw [star_cons h.1]
    have ih := star_any (env := env) (pos := pos) h.2
    show (false || (backTo pos (starEach es env)).any (·.1)) = false
    rw [ih]; rfl
theorem star_all {env : PySem.Env} {pos : Pos} : ∀ {es : List Expr}, es.all notStar = true → (backTo pos (starEach es env)).all (fun x => !x.1) = true
  | [], _ => rfl
  | e :: es, h => by
    simp only [List.all_cons, Bool.and_eq_true] at h
    rw [star_cons h.1]
    have ih := star_all (env := env) (pos := pos) h.2
    show (true && (backTo pos (starEach es env)).all (fun x => !x.1)) = true
    rw [ih]; rfl
theorem set_marks {op : CmpOp} {e : Expr} (h : notSet e = true) : behindInMarks op e = false := by
  cases e <;> first | rfl | (cases h)
theorem set_fold {e : Expr} {env : PySem.Env} (h : notSet e = true) : ∀ x, foldedSetIterable e env x = pure x := by
  intro x
  cases e <;> first | rfl | (cases h)
theorem slice_plain {e : Expr} (h : notSlice e = true) : PlainIx e := by
  intro o i
  cases e <;> first | rfl | (cases h)
theorem base_ok {o : Expr} {n : Str} {env : PySem.Env} {w : Sem Value} (h : baseOk o = true) : attributeBase o n env w = w := by
  unfold baseOk at h
  split at h
  · rename_i x p pos
    unfold attributeBase
    simp only [h, Bool.true_or, if_true, bind_pure]
  · rename_i hn
    unfold attributeBase
    split
    · exact absurd rfl (hn _ _ _)
    · rfl
theorem comp_sw {v : Expr} {t : Option Expr} {l : Nat} {env : PySem.Env} (h : notComp v = true) : swapsWith v t l env = pure false := by
  cases v <;> first | rfl | (cases h)
theorem sw_tup {v : Expr} {ts : List Expr} {k : Nat} {p : Pos} {l : Nat} {env : PySem.Env} : swapsWith v (some (.Tuple ts k p)) l env = pure false := by cases v <;> rfl
theorem sw_sub {v o i : Expr} {p : Pos} {l : Nat} {env : PySem.Env} : swapsWith v (some (.Subscript o i p)) l env = pure false := by cases v <;> rfl
theorem sw_att {v o : Expr} {f : Str} {p : Pos} {l : Nat} {env : PySem.Env} : swapsWith v (some (.Attribute o f p)) l env = pure false := by cases v <;> rfl
theorem block_fn {env : PySem.Env} (h : env.scope.kind = .function) : env.blockKind = .function := by
  unfold Env.blockKind
  rw [h]; rfl
theorem swN_ok {ts : List Expr} {v : Expr} {k : Nat} {p : Pos} {env : PySem.Env} (h : swN env.scope ts v = true) : swappedStores [.Tuple ts k p] v env = pure none := by
  unfold swN at h
  split at h
  · rename_i vs k2 p2
    simp only [Bool.or_eq_true] at h
    unfold swappedStores
    simp only [pure_bind]
    split
    · rfl
    · rename_i c1
      split
      · rfl
      · rename_i c2
        split
        · rfl
        · rename_i c3
          split
          · rfl
          · rename_i c4
            exfalso
            rcases h with ((h | h) | h) | h
            · apply c1
              simp only [Bool.or_eq_true]
              exact .inl h
            · exact c2 h
            · apply c3
              simp only [Bool.or_eq_true]
              exact .inl h
            · exact c4 h
  · rename_i hn
    unfold swappedStores
    cases v <;> first | rfl | exact absurd rfl (hn _ _ _)
theorem any_star : ∀ {vs : List Expr}, vs.all notStar = true → (vs.any fun | .Starred .. => true | _ => false) = false
  | [], _ => rfl
  | e :: es, h => by
    simp only [List.all_cons, Bool.and_eq_true] at h
    rw [List.any_cons, any_star h.2]
    cases e <;> first | rfl | (cases h.1)
theorem par2_ok {x y : Str} {px py p p2 : Pos} {a b : Expr} {k k2 : Nat} {env : PySem.Env} (hk : env.scope.kind = .function) (h : par2B env.scope [.Name x px, .Name y py] (.Tuple [a, b] k2 p2) = true) :
    swappedStores [.Tuple [.Name x px, .Name y py] k p] (.Tuple [a, b] k2 p2) env = pure (some [x, y]) := by
  have hb := block_fn hk
  simp only [par2B, Bool.and_eq_true, decide_eq_true_eq, Bool.not_eq_true'] at h
  obtain ⟨⟨⟨⟨⟨⟨⟨h1, h2⟩, h3⟩, h4⟩, h5⟩, h6⟩, h7⟩, h8⟩ := h
  have e1 := isLoc_eq h1
  have e2 := isLoc_eq h2
  have hs := any_star (vs := [a, b]) (by simp [h5, h6])
  have h3' : py.line = px.line := beq_iff_eq.mp h3
  unfold swappedStores
  simp only [pure_bind, hb, hs, h7, h8]
  simp [kindOf_eq, e1, e2, Expr.pos, h3', h4, List.eraseDups_cons, Ne.symm h4]
  intro hh
  exfalso
  rcases hh with hh | hh
  · cases a <;> first | (cases hh; done) | (cases h5; done)
  · cases b <;> first | (cases hh; done) | (cases h6; done)
theorem par3_ok {x y z : Str} {px py pz p p2 : Pos} {a b c : Expr} {k k2 : Nat} {env : PySem.Env} (hk : env.scope.kind = .function) (h : par3B env.scope [.Name x px, .Name y py, .Name z pz] (.Tuple [a, b, c] k2 p2) = true) :
    swappedStores [.Tuple [.Name x px, .Name y py, .Name z pz] k p] (.Tuple [a, b, c] k2 p2) env = pure (some [x, y, z]) := by
  have hb := block_fn hk
  simp only [par3B, Bool.and_eq_true, decide_eq_true_eq, Bool.not_eq_true'] at h
  obtain ⟨⟨⟨⟨⟨⟨⟨⟨⟨⟨⟨⟨h1, h2⟩, h0⟩, h3⟩, h3z⟩, h4⟩, h4z⟩, h4y⟩, h5⟩, h6⟩, h6c⟩, h7⟩, h8⟩ := h
  have e1 := isLoc_eq h1
  have e2 := isLoc_eq h2
  have e3 := isLoc_eq h0
  have hs := any_star (vs := [a, b, c]) (by simp [h5, h6, h6c])
  have h3' : py.line = px.line := beq_iff_eq.mp h3
  have h3'' : pz.line = px.line := beq_iff_eq.mp h3z
  unfold swappedStores
  simp only [pure_bind, hb, hs, h7, h8]
  simp [kindOf_eq, e1, e2, e3, Expr.pos, h3', h3'', h4, h4z, h4y, List.eraseDups_cons, Ne.symm h4, Ne.symm h4z, Ne.symm h4y]
  intro hh
  exfalso
  rcases hh with hh | hh | hh
  · cases a <;> first | (cases hh; done) | (cases h5; done)
  · cases b <;> first | (cases hh; done) | (cases h6; done)
  · cases c <;> first | (cases hh; done) | (cases h6c; done)
theorem swB_ok {x : Str} {px pos spos : Pos} {elt : Expr} {gs : List Comprehension} {scope : Scope} {l : Nat} {env : PySem.Env} (hk : env.scope.kind = .function) : swapsWith (.ListComp elt gs scope pos) (some (.Name x px)) l env = pure (swB env.scope x px (.ListComp elt gs scope pos)) := by
  have hb := block_fn hk
  unfold swapsWith
  simp only [pure_bind, hb, kindOf_eq, swB, Expr.pos]
  simp
theorem swB_okD {x : Str} {px pos spos : Pos} {kx vx : Expr} {gs : List Comprehension} {scope : Scope} {l : Nat} {env : PySem.Env} (hk : env.scope.kind = .function) : swapsWith (.DictComp kx vx gs scope pos) (some (.Name x px)) l env = pure (swB env.scope x px (.DictComp kx vx gs scope pos)) := by
  have hb := block_fn hk
  unfold swapsWith
  simp only [pure_bind, hb, kindOf_eq, swB, Expr.pos]
  simp
theorem kw_ok {env : PySem.Env} {pos : Pos} : ∀ {kws : List Keyword} {ks : List Str}, kws.map (·.arg) = ks.map some → (backToKw pos (keywordEach kws env)).all (·.1.isSome) = true ∧ (backToKw pos (keywordEach kws env)).filterMap (·.1) = ks ∧ (backToKw pos (keywordEach kws env)).any (·.1.isNone) = false ∧ kws.length = ks.length
  | [], [], _ => ⟨rfl, rfl, rfl, rfl⟩
  | [], _ :: _, h => by simp at h
  | _ :: _, [], h => by simp at h
  | ⟨nm, e, kp⟩ :: kws, k :: ks, h => by
    simp only [List.map_cons, List.cons.injEq] at h
    obtain ⟨h1, h2⟩ := h
    have h1' : nm = some k := h1
    subst h1'
    obtain ⟨a, b, c, d⟩ := kw_ok (env := env) (pos := pos) h2
    refine ⟨?_, ?_, ?_, congrArg (· + 1) d⟩
    · show ((some k).isSome && (backToKw pos (keywordEach kws env)).all (·.1.isSome)) = true
      rw [a]; rfl
    · show k :: (backToKw pos (keywordEach kws env)).filterMap (·.1) = k :: ks
      rw [b]
    · show ((some k).isNone || (backToKw pos (keywordEach kws env)).any (·.1.isNone)) = false
      rw [c]; rfl
theorem star_any2 {env : PySem.Env} {pos : Pos} {es : List Expr} (h : es.all notStar = true) : (backTo pos (starEach es env)).any (·.1) = false := star_any h
end W9

/-! W9q: THE SOUNDNESS: what the checker takes runs as the interpreter tells -/
namespace W9
open PySem L2
structure Good (X : Cx) (T : Stc) (C : Cts) (k : Nat) : Prop where
  N : X.N = T.N
  nd : T.N.Nodup
  sc : X.env.scope = T.sc
  kind : T.sc.kind = .function
  fn : ∀ x, T.cf x = true → X.fn x = true
  calm : X.calm = true
  gd : X.A.guards = some []
  rm1 : Room (k + 1) X.A
  bi : ∀ x ∈ T.bs, X.mg x = none
  fns : ∀ p ∈ T.fs, Callee X.prog X.w X.K X.mg X.base k p.2 (C.fn p.1)
  gls : ∀ x ∈ T.gs, ∃ d u v, C.gl x = some d ∧ X.mg x = some u ∧ RelV v u ∧ ∀ ρ H, Rep X.K ρ H d v
  pas : PassesOwn (model X.prog X.w) X.A X.env X.xe
  mts : ∀ tg fr, (∀ xs st, C.mt tg fr xs st = .no) ∨ Callee X.prog X.w X.K X.mg X.base k fr (C.mt tg fr)
  fls : ∀ f c D, C.fl c f = true → ClsN X.K c D → NoAttr X.K D f
  cls : ∀ c ∈ T.cs, ClsM X.K X.mg c
theorem Good.room {X : Cx} {T : Stc} {C : Cts} {k : Nat} (G : Good X T C k) : Room k X.A := G.rm1.mono (Nat.le_succ k)
section
variable {X : Cx} {T : Stc} {C : Cts} {k : Nat}
theorem Good.u65 (G : Good X T C k) : X.A.units + 65 < cLine := by have := G.room.un; omega
theorem Good.u1 (G : Good X T C k) : X.A.units + 1 < cLine := by have := G.room.un; omega
theorem Good.slot (G : Good X T C k) {i : Nat} {x : Str} (h : slotB T i x = true) : X.N[i]? = some x := by
  rw [G.N]; exact of_decide_eq_true h
theorem Good.ndX (G : Good X T C k) : X.N.Nodup := by rw [G.N]; exact G.nd
theorem Good.gl (G : Good X T C k) {x : Str} (h : glB T.sc x = true) : Gl X x := by
  show X.env.kindOf x = _
  rw [kindOf_eq, G.sc]
  exact glB_eq h
theorem Good.st (G : Good X T C k) {x : Str} (h : stB T x = true) : X.fn x = true ∨ X.env.scope.names.lookup x = some .local := by
  unfold stB at h
  rw [Bool.or_eq_true] at h
  rcases h with h | h
  · exact .inl (G.fn x h)
  · exact .inr (by rw [G.sc]; exact isLoc_eq h)
theorem Good.loc (G : Good X T C k) {x : Str} (h : locB T.sc x = true) : Loc X.env.scope x := by rw [G.sc]; exact locB_eq h
theorem okNm_eq {x : Str} (h : okNm x = true) : (x == ("__debug__" : Str)) = false ∧ (x == ("__classdict__" : Str)) = false := by
  unfold okNm at h
  simp only [Bool.and_eq_true, Bool.not_eq_true'] at h
  exact h
theorem Good.blk (G : Good X T C k) (scope : Scope) (hk : scope.kind = .function) : Blks X scope fun Y => Good Y (T.blk scope) C k := by
  intro s H C0 cl fp
  refine ⟨G.N, G.nd, ?_, hk, fun x h => h, G.calm, G.gd, G.rm1, G.bi, G.fns, G.gls, PassesOwn.never, G.mts, G.fls, G.cls⟩
  show relabel scope X.env = relS scope T.sc
  rw [← G.sc]
  rfl
theorem ch_nms (G : Good X T C k) : ∀ {es : List Expr} {is : List Nat}, chNs T es is = true → Nms X es is
  | [], [], _ => .nil
  | [], _ :: _, h => by simp [chNs] at h
  | e :: es, is, h => by
    cases is with
    | nil => cases e <;> simp [chNs] at h
    | cons i is =>
      cases e with
      | Name x p =>
        simp only [chNs, Bool.and_eq_true] at h
        exact .cons ⟨x, p, rfl, G.slot h.1.1.1, G.loc h.1.1.2, G.st h.1.2⟩ (ch_nms G h.2)
      | _ => simp [chNs] at h
theorem ch_tg (G : Good X T C k) {e : Expr} {t : Tg} (h : chTg T e t = true) : SndG X e t := by
  cases t with
  | name i =>
    simp only [chTg] at h
    split at h
    · simp only [Bool.and_eq_true] at h
      exact sndG_name G.ndX (G.slot h.1.1) (G.loc h.1.2) (G.st h.2)
    · cases h
  | tup is =>
    simp only [chTg] at h
    split at h
    · exact sndG_tup G.calm G.ndX (ch_nms G h)
    · cases h
  | nest i is =>
    simp only [chTg] at h
    split at h
    · simp only [Bool.and_eq_true] at h
      exact sndG_nest G.calm G.ndX ⟨_, _, rfl, G.slot h.1.1.1, G.loc h.1.1.2, G.st h.1.2⟩ (ch_nms G h.2)
    · cases h
theorem ok_binD (op : Operator) (h : okBin op = true) : OkOp X (binaryOp op) (binD op) := by
  cases op <;> first | (cases h; done) | exact ok_add | exact ok_sub | exact ok_mul | exact ok_div | exact ok_mod | exact ok_pow
theorem ok_cmpD (G : Good X T C k) (op : CmpOp) : OkOp X (compareOp op) (cmpD op) := by
  have h1 := G.u65
  cases op <;> first | exact ok_eq (by omega) | exact ok_ne (by omega) | exact ok_lt | exact ok_le | exact ok_gt | exact ok_ge | exact ok_is | exact ok_isnot | exact ok_in h1 | exact ok_notin h1
theorem pt_ife {a b c : Expr} {pos : Pos} {tc ta tb : TT} (hc : PT X c tc) (ha : PT X a ta) (hb : PT X b tb) : PT X (.IfExp c a b pos) (fun σ H Q => tc σ H fun r H1 => if r = true then ta σ H1 Q else tb σ H1 Q) := by
  refine ⟨fun pins s σ H Q I h => ?_⟩
  unfold PySem.isTrue
  refine wpAny_bind (thn (hc.run pins s σ H _ I h) fun r s1 ⟨H1, I1, q1⟩ => ?_)
  cases r with
  | true => exact ha.run pins s1 σ H1 Q I1 q1
  | false => exact hb.run pins s1 σ H1 Q I1 q1
theorem sndT_ite {a b c : Expr} {pos : Pos} {tc ta tb : Env → M Bool} (hc : SndT X c tc) (ha : SndT X a ta) (hb : SndT X b tb) : SndT X (.IfExp c a b pos) (fun env => M.bind (tc env) fun r => if r = true then ta env else tb env) := by
  intro ρ st env σ H d st' S R e Q P
  obtain ⟨r, st1, e1, e2⟩ := bind_ok e
  refine wt_of (pt_ife pt_wt pt_wt pt_wt) (hc ρ st env σ H r st1 S R e1 _ fun ρ1 H1 g1 S1 => ?_)
  cases r with
  | true => rw [if_pos rfl] at e2 ⊢; exact ha ρ1 st1 env σ H1 d st' S1 (R.grow g1) e2 Q (P.grow g1)
  | false => rw [if_neg (by decide)] at e2 ⊢; exact hb ρ1 st1 env σ H1 d st' S1 (R.grow g1) e2 Q (P.grow g1)
end
theorem evs_len (C : Cts) : ∀ (cs : Exs) (T : Stc) (es : List Expr) (env : Env) (st : Store) (ds : List D) (st' : Store), chA T cs es = true → evs C cs env st = .ok ds st' → ds.length = es.length
  | .nil, T, es, env, st, ds, st', h, e => by
    simp only [chA] at h
    split at h
    · cases e; rfl
    · cases h
  | .cons c cs, T, es, env, st, ds, st', h, e => by
    simp only [chA] at h
    split at h
    · simp only [Bool.and_eq_true] at h
      obtain ⟨x, st1, e1, e2⟩ := bind_ok e
      obtain ⟨xs, st2, e2, e3⟩ := bind_ok e2
      cases e3
      exact congrArg (· + 1) (evs_len C cs T _ env st1 xs _ h.2 e2)
    · cases h
theorem chA_nil {T : Stc} {cs : Exs} (h : chA T cs [] = true) : cs = .nil := by
  cases cs with
  | nil => rfl
  | cons _ _ => simp [chA] at h
theorem chA_star (T : Stc) : ∀ (cs : Exs) (es : List Expr), chA T cs es = true → es.all notStar = true
  | .nil, es, h => by
    simp only [chA] at h
    split at h
    · rfl
    · cases h
  | .cons c cs, es, h => by
    simp only [chA] at h
    split at h
    · simp only [Bool.and_eq_true] at h
      simp only [List.all_cons, Bool.and_eq_true]
      exact ⟨h.1.1, chA_star T cs _ h.2⟩
    · cases h
theorem blk_kind {N : List Str} {sc scope : Scope} {own : List (Str × Nat)} (h : blkC N sc scope own = true) : scope.kind = .function := (blkOk_by h).kind
theorem own_map (T : Stc) (own : List Nat) : (ownP T own).map (·.2) = own := by
  unfold ownP
  rw [List.map_map]
  exact List.map_id own
theorem chKs_ok : ∀ {ks : List Str} {keys : List (Option Expr)}, chKs ks keys = true → keys.all (·.isSome) = true ∧ ks.length = keys.length
  | [], [], _ => ⟨rfl, rfl⟩
  | [], _ :: _, h => by simp [chKs] at h
  | _ :: _, [], h => by simp [chKs] at h
  | k :: ks, o :: keys, h => by
    unfold chKs at h
    split at h
    · simp at *
    · rename_i h1 h2
      cases h1
      cases h2
      simp only [Bool.and_eq_true] at h
      obtain ⟨a, b⟩ := chKs_ok h.2
      exact ⟨by simp [a], congrArg (· + 1) b⟩
    · cases h
/-- the value and the test -/
def Both (X : Cx) (e : Expr) (m : EvM) : Prop := SndE X e m.1 ∧ SndT X e m.2 ∧ ((∃ op vs p, e = .BoolOp op vs p) → SndW X e m.2)
theorem both_plain {X : Cx} {e : Expr} {v : Env → M D} (h : SndE X e v) (he : ∀ whole, isTrue e X.env whole = (do let v ← whole; standAt e.pos; holding [v] (truthy v))) (hb : ∀ op vs p, e ≠ .BoolOp op vs p) : Both X e (plain v) :=
  ⟨h, sndT_plain h he, fun ⟨op, vs, p, z⟩ => absurd z (hb op vs p)⟩
theorem chPr_one {T : Stc} {p : Prm} {e : Expr} {xs : List Expr} (h : chPr T p e = some xs) : ∃ o, xs = [o] := by
  cases p <;> simp only [chPr] at h <;> split at h <;> first | (cases h; done) | (split at h <;> first | (cases h; done) | (cases h; exact ⟨_, rfl⟩))
theorem evs1 {C : Cts} {c : Ex} {env : Env} {f : List D → M D} : M.bind (evs C (.cons c .nil) env) f = M.bind ((bo C c).1 env) fun x => f [x] := by
  funext st
  simp only [evs, M.bind]
  cases (bo C c).1 env st <;> rfl
theorem sPr1 {X : Cx} {T : Stc} {C : Cts} {k : Nat} {e o : Expr} (p : Prm) (G : Good X T C k) (hx : chPr T p e = some [o]) (hs : notStar o = true) {m : Env → M D} (ho : SndE X o m) : Both X e (plain fun env => M.bind (m env) fun x => primD p [x]) := by
  cases p with
  | vals =>
    simp only [chPr] at hx
    split at hx
    · rename_i x px o' nm ap cp pos
      split at hx
      · rename_i h
        cases hx
        simp only [Bool.and_eq_true, decide_eq_true_eq] at h
        obtain ⟨⟨⟨⟨⟨rfl, h2⟩, h3⟩, rfl⟩, h5⟩, h6⟩ := h
        exact both_plain (snd_vals G.calm (G.gl h3) (G.bi _ (by simpa using h2)) ho (base_ok h5) h6) (fun _ => rfl) (fun _ _ _ z => nomatch z)
      · cases hx
    · cases hx
  | sset =>
    simp only [chPr] at hx
    split at hx
    · rename_i x px y py z p2 pos
      split at hx
      · rename_i h
        cases hx
        simp only [Bool.and_eq_true, decide_eq_true_eq] at h
        obtain ⟨⟨⟨⟨⟨rfl, rfl⟩, h3⟩, h4⟩, h5⟩, h6⟩ := h
        exact both_plain (snd_sset G.calm (G.gl h5) (G.bi _ (by simpa using h3)) (G.gl h6) (G.bi _ (by simpa using h4)) (star_cons hs) ho) (fun _ => rfl) (fun _ _ _ z => nomatch z)
      · cases hx
    · cases hx
mutual
theorem sE (C : Cts) : ∀ (c : Ex) {X : Cx} {T : Stc} {k : Nat} {e : Expr}, Good X T C k → chE T c e = true → Both X e (bo C c)
  | .var i, X, T, k, e, G, h => by
    simp only [chE] at h
    split at h
    · simp only [Bool.and_eq_true] at h
      obtain ⟨h3, h4⟩ := okNm_eq h.2
      exact both_plain (snd_var (G.slot h.1.1) (by rw [G.sc]; exact visB_eq h.1.2) h3 h4) (fun _ => rfl) (fun _ _ _ z => nomatch z)
    · cases h
  | .cst d, X, T, k, e, G, h => by
    simp only [chE, cstB] at h
    split at h
    · have := of_decide_eq_true h; subst this; exact both_plain snd_int (fun _ => rfl) (fun _ _ _ z => nomatch z)
    · have := of_decide_eq_true h; subst this; exact both_plain snd_str (fun _ => rfl) (fun _ _ _ z => nomatch z)
    · have := of_decide_eq_true h; subst this; exact both_plain snd_bl (fun _ => rfl) (fun _ _ _ z => nomatch z)
    · have := of_decide_eq_true h; subst this; exact both_plain snd_non (fun _ => rfl) (fun _ _ _ z => nomatch z)
    · cases h
  | .glob y, X, T, k, e, G, h => by
    simp only [chE] at h
    split at h
    · simp only [Bool.and_eq_true, List.contains_eq_mem, decide_eq_true_eq] at h
      obtain ⟨⟨⟨h1, h2⟩, h3⟩, h4⟩ := h
      rename_i x0 p0
      subst h1
      obtain ⟨d, u, v, g1, g2, g3, g4⟩ := G.gls _ h2
      have key : (bo C (.glob x0)) = plain (fun _ st => .ok d st) := by
        unfold bo
        rw [g1]
      rw [key]
      exact both_plain (snd_glob (G.gl h3) g2 g3 g4 (okNm_eq h4).1) (fun _ => rfl) (fun _ _ _ z => nomatch z)
    · cases h
  | .tup es, X, T, k, e, G, h => by
    simp only [chE] at h
    split at h
    · exact both_plain (snd_tup (sA C es G h)) (fun _ => rfl) (fun _ _ _ z => nomatch z)
    · cases h
  | .lst es, X, T, k, e, G, h => by
    simp only [chE] at h
    split at h
    · exact both_plain (snd_lst (sA C es G h)) (fun _ => rfl) (fun _ _ _ z => nomatch z)
    · cases h
  | .dict0, X, T, k, e, G, h => by
    simp only [chE] at h
    split at h
    · exact both_plain snd_dict0 (fun _ => rfl) (fun _ _ _ z => nomatch z)
    · cases h
  | .dict ks es, X, T, k, e, G, h => by
    simp only [chE] at h
    split at h
    · simp only [Bool.and_eq_true, decide_eq_true_eq] at h
      obtain ⟨⟨⟨⟨h1, h2⟩, h3⟩, h4⟩, h5⟩ := h
      obtain ⟨a1, a2⟩ := chKs_ok h1
      exact both_plain (snd_disp (sP C es G h1 h4 h5) a1 (by rw [← a2, h5]) (by simp) (by rw [← a2]; exact h3) h2) (fun _ => rfl) (fun _ _ _ z => nomatch z)
    · cases h
  | .bin op a b, X, T, k, e, G, h => by
    simp only [chE] at h
    split at h
    · simp only [Bool.and_eq_true, decide_eq_true_eq] at h
      obtain ⟨⟨⟨h1, h2⟩, h3⟩, h4⟩ := h
      subst h1
      exact both_plain (snd_bin (ok_binD _ h2) (sE C a G h3).1 (sE C b G h4).1) (fun _ => rfl) (fun _ _ _ z => nomatch z)
    · cases h
  | .neg a, X, T, k, e, G, h => by
    simp only [chE] at h
    split at h
    · exact both_plain (snd_neg (sE C a G h).1) (fun _ => rfl) (fun _ _ _ z => nomatch z)
    · cases h
  | .cmp op a b, X, T, k, e, G, h => by
    simp only [chE] at h
    split at h
    · simp only [Bool.and_eq_true, decide_eq_true_eq] at h
      obtain ⟨⟨⟨h1, h2⟩, h3⟩, h4⟩ := h
      subst h1
      exact ⟨snd_cmp (ok_cmpD G _) (set_marks h2) (sE C a G h3).1 (sE C b G h4).1, sndT_cmp (ok_cmpD G _) (set_marks h2) (sE C a G h3).1 (sE C b G h4).1, fun ⟨_, _, _, z⟩ => nomatch z⟩
    · cases h
  | .chain o1 o2 a b c, X, T, k, e, G, h => by
    simp only [chE] at h
    split at h
    · simp only [Bool.and_eq_true, decide_eq_true_eq] at h
      obtain ⟨⟨⟨⟨⟨h1, h2⟩, h3⟩, h4⟩, h5⟩, h6⟩ := h
      subst h1 h2
      exact ⟨snd_chain (ok_cmpD G _) (ok_cmpD G _) (set_marks h3) (sE C a G h4).1 (sE C b G h5).1 (sE C c G h6).1, sndT_chain (ok_cmpD G _) (ok_cmpD G _) (set_marks h3) (sE C a G h4).1 (sE C b G h5).1 (sE C c G h6).1, fun ⟨_, _, _, z⟩ => nomatch z⟩
    · cases h
  | .and a b, X, T, k, e, G, h => by
    simp only [chE] at h
    split at h
    · simp only [Bool.and_eq_true] at h
      have ha := sE C a G h.1
      have hb := sE C b G h.2
      rename_i x0 y0 pos0
      have w := sndW_and (pos := pos0) ha.2.1 (sndW_one_and (pos := pos0) hb.2.1)
      exact ⟨snd_and ha.1 (snd_one hb.1), w.t, fun _ => w⟩
    · simp only [Bool.and_eq_true] at h
      have ha := sE C a G h.1
      have hb := sE C b G h.2
      have w := sndW_and ha.2.1 (hb.2.2 ⟨_, _, _, rfl⟩)
      exact ⟨snd_and ha.1 hb.1, w.t, fun _ => w⟩
    · cases h
  | .or a b, X, T, k, e, G, h => by
    simp only [chE] at h
    split at h
    · simp only [Bool.and_eq_true] at h
      have ha := sE C a G h.1
      have hb := sE C b G h.2
      rename_i x0 y0 pos0
      have w := sndW_or (pos := pos0) ha.2.1 (sndW_one_or (pos := pos0) hb.2.1)
      exact ⟨snd_or ha.1 (snd_one hb.1), w.t, fun _ => w⟩
    · simp only [Bool.and_eq_true] at h
      have ha := sE C a G h.1
      have hb := sE C b G h.2
      have w := sndW_or ha.2.1 (hb.2.2 ⟨_, _, _, rfl⟩)
      exact ⟨snd_or ha.1 hb.1, w.t, fun _ => w⟩
    · cases h
  | .not a, X, T, k, e, G, h => by
    simp only [chE] at h
    split at h
    · have ha := sE C a G h
      exact ⟨snd_not ha.1, sndT_not ha.2.1, fun ⟨_, _, _, z⟩ => nomatch z⟩
    · cases h
  | .ite c a b, X, T, k, e, G, h => by
    simp only [chE] at h
    split at h
    · simp only [Bool.and_eq_true] at h
      have hc := sE C c G h.1.1
      have ha := sE C a G h.1.2
      have hb := sE C b G h.2
      exact ⟨snd_ite hc.2.1 ha.1 hb.1, sndT_ite hc.2.1 ha.2.1 hb.2.1, fun ⟨_, _, _, z⟩ => nomatch z⟩
    · cases h
  | .idx a i, X, T, k, e, G, h => by
    simp only [chE] at h
    split at h
    · simp only [Bool.and_eq_true] at h
      exact both_plain (snd_idx G.u1 (slice_plain h.1.1) (sE C a G h.1.2).1 (sE C i G h.2).1) (fun _ => rfl) (fun _ _ _ z => nomatch z)
    · cases h
  | .sl a lo hi, X, T, k, e, G, h => by
    simp only [chE] at h
    split at h
    · simp only [Bool.and_eq_true] at h
      exact both_plain (snd_sl (sE C a G h.1.1).1 (sO C lo G h.1.2) (sO C hi G h.2)) (fun _ => rfl) (fun _ _ _ z => nomatch z)
    · cases h
  | .call f es, X, T, k, e, G, h => by
    simp only [chE] at h
    split at h
    · simp only [Bool.and_eq_true, decide_eq_true_eq, List.contains_eq_mem] at h
      obtain ⟨⟨⟨⟨h1, h2⟩, h3⟩, h4⟩, h5⟩ := h
      subst h1
      have st := chA_star T es _ h5
      simp only [List.all_cons, Bool.and_eq_true] at st
      exact both_plain (snd_call (G.fns _ h2) rfl rfl rfl G.room G.gd (G.gl h3) (okNm_eq h4).1 (star_cons st.1) (star_any st.2) (sA C es G h5) (fun env s ds s' hh => evs_len C es T _ env s ds s' h5 hh)) (fun _ => rfl) (fun _ _ _ z => nomatch z)
    · cases h
  | .call0 f, X, T, k, e, G, h => by
    simp only [chE] at h
    split at h
    · simp only [Bool.and_eq_true, decide_eq_true_eq, List.contains_eq_mem] at h
      obtain ⟨⟨⟨h1, h2⟩, h3⟩, h4⟩ := h
      subst h1
      exact both_plain (snd_call0 (G.fns _ h2) rfl rfl rfl rfl G.room G.gd (G.gl h3) (okNm_eq h4).1) (fun _ => rfl) (fun _ _ _ z => nomatch z)
    · cases h
  | .callK tag f ks es kes, X, T, k, e, G, h => by
    simp only [chE] at h
    split at h
    · rename_i x0 p0 ys0 kws0 pos0
      simp only [Bool.and_eq_true, decide_eq_true_eq, List.contains_eq_mem] at h
      obtain ⟨⟨⟨⟨⟨⟨h1, h2⟩, h3⟩, h4⟩, h5⟩, h6⟩, h7⟩ := h
      subst h1
      obtain ⟨k1, k2, k3, k4⟩ := kw_ok (env := X.env) (pos := pos0) h5
      cases ys0 with
      | nil =>
        have hes := chA_nil h6
        subst hes
        refine both_plain (snd_callK0 (G.fns _ h2) rfl rfl G.room G.gd (G.gl h3) (okNm_eq h4).1 k1 k2 ?_ (sK C kes G h7) ?_) (fun _ => rfl) (fun _ _ _ z => nomatch z)
        · rw [k3]; rfl
        · intro env s zs s'' e2
          have l2 := evs_len C kes T _ env s zs s'' h7 e2
          rw [List.length_map] at l2
          exact ⟨by rw [l2]; simp, by rw [l2, k4]⟩
      | cons y0 ys0 =>
        have st := chA_star T es _ h6
        have st' := st
        simp only [List.all_cons, Bool.and_eq_true] at st'
        refine both_plain (snd_callK (G.fns _ h2) rfl rfl G.room G.gd (G.gl h3) (okNm_eq h4).1 (star_cons st'.1) k1 k2 ?_ (sA C es G h6) (sK C kes G h7) ?_) (fun _ => rfl) (fun _ _ _ z => nomatch z)
        · rw [star_any2 st, k3]; rfl
        · intro env s ds s' zs s'' e1 e2
          have l1 := evs_len C es T _ env s ds s' h6 e1
          have l2 := evs_len C kes T _ env s' zs s'' h7 e2
          rw [List.length_map] at l2
          exact ⟨by rw [List.length_append, l1, l2], by rw [l2, k4]⟩
    · cases h
  | .fld o f, X, T, k, e, G, h => by
    simp only [chE] at h
    split at h
    · simp only [Bool.and_eq_true, decide_eq_true_eq] at h
      obtain ⟨⟨h1, h2⟩, h3⟩ := h
      subst h1
      exact both_plain (snd_fld (G.fls _) (base_ok h2) (sE C o G h3).1) (fun _ => rfl) (fun _ _ _ z => nomatch z)
    · cases h
  | .mcall tag m ks o es kes, X, T, k, e, G, h => by
    simp only [chE] at h
    split at h
    · rename_i o0 nm0 ap0 ys0 kws0 pos0
      simp only [Bool.and_eq_true, decide_eq_true_eq] at h
      obtain ⟨⟨⟨⟨⟨⟨⟨h1, h2⟩, h3⟩, h4⟩, h5⟩, h6⟩, h7⟩, h8⟩ := h
      subst h1
      obtain ⟨k1, k2, k3, k4⟩ := kw_ok (env := X.env) (pos := pos0) h5
      have hlen : ∀ env st zs st'', evs C kes env st = .ok zs st'' → zs.length = ks.length := by
        intro env s zs s'' e2
        have l2 := evs_len C kes T _ env s zs s'' h8 e2
        rw [List.length_map] at l2
        rw [l2, k4]
      cases ys0 with
      | nil =>
        have hes := chA_nil h7
        subst hes
        refine both_plain (snd_mcall0 (tag := tag) G.mts G.room G.gd k1 k2 (by rw [k3]; rfl) (base_ok h2) ?_ h3 (sE C o G h6).1 (sK C kes G h8) hlen) (fun _ => rfl) (fun _ _ _ z => nomatch z)
        unfold methodCallForm
        rw [k1]
        show (true && true && decide _) = true
        simp only [Bool.true_and, decide_eq_true_eq]
        split <;> omega
      | cons y0 ys0 =>
        have st := chA_star T es _ h7
        have st' := st
        simp only [List.all_cons, Bool.and_eq_true] at st'
        refine both_plain (snd_mcall (tag := tag) G.mts G.room G.gd (star_cons st'.1) k1 k2 (by rw [star_any2 st, k3]; rfl) (base_ok h2) ?_ h3 (sE C o G h6).1 (sA C es G h7) (sK C kes G h8) hlen) (fun _ => rfl) (fun _ _ _ z => nomatch z)
        unfold methodCallForm
        rw [k1]
        rw [show (backTo pos0 (starEach (y0 :: ys0) X.env)).all (!·.1) = true from star_all st]
        simp only [Bool.true_and, decide_eq_true_eq]
        split <;> omega
    · cases h
  | .make tag c ks es kes, X, T, k, e, G, h => by
    simp only [chE] at h
    split at h
    · rename_i x0 p0 ys0 kws0 pos0
      simp only [Bool.and_eq_true, decide_eq_true_eq, List.contains_eq_mem] at h
      obtain ⟨⟨⟨⟨⟨⟨h1, h2⟩, h3⟩, h4⟩, h5⟩, h6⟩, h7⟩ := h
      subst h1
      obtain ⟨k1, k2, k3, k4⟩ := kw_ok (env := X.env) (pos := pos0) h5
      have hlen : ∀ env st zs st'', evs C kes env st = .ok zs st'' → zs.length = ks.length := by
        intro env s zs s'' e2
        have l2 := evs_len C kes T _ env s zs s'' h7 e2
        rw [List.length_map] at l2
        rw [l2, k4]
      cases ys0 with
      | nil =>
        have hes := chA_nil h6
        subst hes
        exact both_plain (snd_make0 (tag := tag) G.mts (G.cls _ h2) G.rm1 G.gd (G.gl h3) (okNm_eq h4).1 k1 k2 (by rw [k3]; rfl) (sK C kes G h7) hlen) (fun _ => rfl) (fun _ _ _ z => nomatch z)
      | cons y0 ys0 =>
        have st := chA_star T es _ h6
        have st' := st
        simp only [List.all_cons, Bool.and_eq_true] at st'
        exact both_plain (snd_make (tag := tag) G.mts (G.cls _ h2) G.rm1 G.gd (G.gl h3) (okNm_eq h4).1 (star_cons st'.1) k1 k2 (by rw [star_any2 st, k3]; rfl) (sA C es G h6) (sK C kes G h7) hlen) (fun _ => rfl) (fun _ _ _ z => nomatch z)
    · cases h
  | .bi b es, X, T, k, e, G, h => by
    simp only [chE] at h
    split at h
    · simp only [Bool.and_eq_true, decide_eq_true_eq, List.contains_eq_mem] at h
      obtain ⟨⟨⟨h1, h2⟩, h3⟩, h5⟩ := h
      subst h1
      have st := chA_star T es _ h5
      simp only [List.all_cons, Bool.and_eq_true] at st
      exact both_plain (snd_bi G.calm G.gd G.u65 (G.gl h3) (G.bi _ h2) (star_cons st.1) (star_any st.2) (sA C es G h5)) (fun _ => rfl) (fun _ _ _ z => nomatch z)
    · cases h
  | .meth m o es, X, T, k, e, G, h => by
    simp only [chE] at h
    split at h
    · simp only [Bool.and_eq_true, decide_eq_true_eq] at h
      obtain ⟨⟨⟨⟨⟨h1, h2⟩, h3⟩, h4⟩, h5⟩, h6⟩ := h
      subst h1
      have st := chA_star T es _ h6
      have st' := st
      simp only [List.all_cons, Bool.and_eq_true] at st'
      refine both_plain (snd_meth G.u1 (base_ok h2) ?_ h3 (star_cons st'.1) (star_any st'.2) (sE C o G h5).1 (sA C es G h6)) (fun _ => rfl) (fun _ _ _ z => nomatch z)
      rw [star_all st]
      show (true && true && decide _) = true
      simp only [Bool.true_and, decide_eq_true_eq]
      show _ + 0 + 0 < 30
      omega
    · cases h
  | .lc own src tg c el, X, T, k, e, G, h => by
    simp only [chE] at h
    split at h
    · rename_i elt t iter ifs scope pos
      simp only [Bool.and_eq_true, decide_eq_true_eq] at h
      obtain ⟨⟨⟨⟨⟨⟨⟨h1, h2⟩, h3⟩, h4⟩, h5⟩, h6⟩, h7⟩, h8⟩ := h
      have GB := G.blk scope (blk_kind h1)
      have hc : ifs = ifs.head?.toList := by
        match ifs, h6 with
        | [], _ => rfl
        | [_], _ => rfl
      rw [hc]
      refine both_plain (snd_lc (t := tg) (own := own) (ownp := ownP T own) G.calm G.ndX ?_ (own_map T own) (set_fold h2) (sI C src G h3) (fun s H C0 cl fp => ch_tg (GB s H C0 cl fp) h4) (sTo C c GB h5) (fun s H C0 cl fp => (sE C el (GB s H C0 cl fp) h7).1) ?_) (fun _ => rfl) (fun _ _ _ z => nomatch z)
      · rw [G.N, G.sc]; exact blkOk_by h1
      · intro i hi
        have := List.all_eq_true.mp h8 i hi
        simpa using this
    · cases h
  | .dc own src tg c kk vv, X, T, k, e, G, h => by
    simp only [chE] at h
    split at h
    · rename_i ka va t iter ifs scope pos
      simp only [Bool.and_eq_true, decide_eq_true_eq] at h
      obtain ⟨⟨⟨⟨⟨⟨⟨⟨h1, h2⟩, h3⟩, h4⟩, h5⟩, h6⟩, h7⟩, h7v⟩, h8⟩ := h
      have GB := G.blk scope (blk_kind h1)
      have hc : ifs = ifs.head?.toList := by
        match ifs, h6 with
        | [], _ => rfl
        | [_], _ => rfl
      rw [hc]
      refine both_plain (snd_dc (t := tg) (own := own) (ownp := ownP T own) G.calm G.ndX ?_ (own_map T own) (set_fold h2) (sI C src G h3) (fun s H C0 cl fp => ch_tg (GB s H C0 cl fp) h4) (sTo C c GB h5) (fun s H C0 cl fp => (sE C kk (GB s H C0 cl fp) h7).1) (fun s H C0 cl fp => (sE C vv (GB s H C0 cl fp) h7v).1) ?_) (fun _ => rfl) (fun _ _ _ z => nomatch z)
      · rw [G.N, G.sc]; exact blkOk_by h1
      · intro i hi
        have := List.all_eq_true.mp h8 i hi
        simpa using this
    · cases h
  | .ssc own src tg c el, X, T, k, e, G, h => by
    simp only [chE] at h
    split at h
    · rename_i x px elt t iter ifs scope pos pos2
      simp only [Bool.and_eq_true, decide_eq_true_eq] at h
      obtain ⟨⟨⟨hx, hb⟩, hgl⟩, ⟨⟨⟨⟨⟨⟨⟨h1, h2⟩, h3⟩, h4⟩, h5⟩, h6⟩, h7⟩, h8⟩⟩ := h
      subst hx
      have GB := G.blk scope (blk_kind h1)
      have hc : ifs = ifs.head?.toList := by
        match ifs, h6 with
        | [], _ => rfl
        | [_], _ => rfl
      rw [hc]
      refine both_plain (snd_ssc (t := tg) (own := own) (ownp := ownP T own) (G.gl hgl) (G.bi _ (by simpa using hb)) G.calm G.ndX ?_ (own_map T own) (set_fold h2) (sI C src G h3) (fun s H C0 cl fp => ch_tg (GB s H C0 cl fp) h4) (sTo C c GB h5) (fun s H C0 cl fp => (sE C el (GB s H C0 cl fp) h7).1) ?_) (fun _ => rfl) (fun _ _ _ z => nomatch z)
      · rw [G.N, G.sc]; exact blkOk_by h1
      · intro i hi
        have := List.all_eq_true.mp h8 i hi
        simpa using this
    · cases h
  | .prim p .nil, X, T, k, e, G, h => by
    simp only [chE] at h
    split at h
    · rename_i xs hxs
      obtain ⟨o, rfl⟩ := chPr_one hxs
      simp [chA] at h
    · cases h
  | .prim p (.cons c .nil), X, T, k, e, G, h => by
    simp only [chE] at h
    split at h
    · rename_i xs hxs
      obtain ⟨o, rfl⟩ := chPr_one hxs
      simp only [chA, Bool.and_eq_true] at h
      have := sPr1 p G hxs h.1.1 (sE C c G h.1.2).1
      simp only [bo]
      rw [show (fun env => M.bind (evs C (.cons c .nil) env) fun ds => primD p ds) = fun env => M.bind ((bo C c).1 env) fun x => primD p [x] from funext fun env => evs1]
      exact this
    · cases h
  | .prim p (.cons c (.cons c2 r)), X, T, k, e, G, h => by
    simp only [chE] at h
    split at h
    · rename_i xs hxs
      obtain ⟨o, rfl⟩ := chPr_one hxs
      simp [chA] at h
    · cases h
theorem sA (C : Cts) : ∀ (cs : Exs) {X : Cx} {T : Stc} {k : Nat} {es : List Expr}, Good X T C k → chA T cs es = true → SndA X es (evs C cs)
  | .nil, X, T, k, es, G, h => by
    simp only [chA] at h
    split at h
    · exact sndA_nil
    · cases h
  | .cons c cs, X, T, k, es, G, h => by
    simp only [chA] at h
    split at h
    · simp only [Bool.and_eq_true] at h
      exact sndA_cons (sE C c G h.1.2).1 (sA C cs G h.2) (star_cons h.1.1)
    · cases h
theorem sK (C : Cts) : ∀ (cs : Exs) {X : Cx} {T : Stc} {k : Nat} {kws : List Keyword}, Good X T C k → chA T cs (kws.map (·.value)) = true → SndK X kws (evs C cs)
  | .nil, X, T, k, kws, G, h => by
    cases kws with
    | nil => exact sndK_nil
    | cons a r => simp [chA] at h
  | .cons c cs, X, T, k, kws, G, h => by
    cases kws with
    | nil => simp [chA] at h
    | cons a r =>
      obtain ⟨nm, v, kp⟩ := a
      simp only [List.map_cons, chA, Bool.and_eq_true] at h
      exact sndK_cons (sE C c G h.1.2).1 (sK C cs G h.2)
theorem sP (C : Cts) : ∀ (cs : Exs) {X : Cx} {T : Stc} {k : Nat} {pos : Pos} {ks : List Str} {keys : List (Option Expr)} {vals : List Expr}, Good X T C k → chKs ks keys = true → chA T cs vals = true → vals.length = ks.length → SndP X pos keys vals ks (evs C cs)
  | .nil, X, T, k, pos, ks, keys, vals, G, hk, h, hl => by
    cases vals with
    | nil =>
      cases ks with
      | nil =>
        cases keys with
        | nil => exact sndP_nil
        | cons _ _ => simp [chKs] at hk
      | cons _ _ => simp at hl
    | cons _ _ => simp [chA] at h
  | .cons c cs, X, T, k, pos, ks, keys, vals, G, hk, h, hl => by
    cases vals with
    | nil => simp [chA] at h
    | cons v vals =>
      simp only [chA, Bool.and_eq_true] at h
      cases ks with
      | nil => simp at hl
      | cons x ks =>
        unfold chKs at hk
        split at hk
        · simp at *
        · rename_i h2
          cases h2
          simp only [Bool.and_eq_true, decide_eq_true_eq] at hk
          obtain ⟨rfl, hk⟩ := hk
          exact sndP_cons (sE C c G h.1.2).1 (sP C cs G hk h.2 (by simpa using hl))
        · cases hk
theorem sO (C : Cts) : ∀ (c : Exo) {X : Cx} {T : Stc} {k : Nat} {o : Option Expr}, Good X T C k → chO T c o = true → SndO X o (evo C c)
  | .none, X, T, k, o, G, h => by
    simp only [chO] at h
    split at h
    · exact sndO_none
    · cases h
  | .some c, X, T, k, o, G, h => by
    simp only [chO] at h
    split at h
    · exact sndO_some (sE C c G h).1
    · cases h
theorem sTo (C : Cts) : ∀ (c : Exo) {X : Cx} {T : Stc} {k : Nat} {scope : Scope} {o : Option Expr}, (Blks X scope fun Y => Good Y T C k) → chO T c o = true → SndTo X scope o (tsto C c)
  | .none, X, T, k, scope, o, G, h => by
    simp only [chO] at h
    split at h
    · exact fun _ _ => rfl
    · cases h
  | .some c, X, T, k, scope, o, G, h => by
    simp only [chO] at h
    split at h
    · exact fun s H C0 cl fp => (sE C c (G s H C0 cl fp) h).2.1
    · cases h
theorem sI (C : Cts) : ∀ (c : Src) {X : Cx} {T : Stc} {k : Nat} {t e : Expr}, Good X T C k → chI T c t e = true → SndI X t e (srcE C c)
  | .seq c, X, T, k, t, e, G, h => by
    simp only [chI] at h
    exact sndI_seq (sE C c G h).1
  | .rng1 a, X, T, k, t, e, G, h => by
    simp only [chI] at h
    split at h
    · simp only [Bool.and_eq_true, decide_eq_true_eq, List.contains_eq_mem] at h
      obtain ⟨⟨⟨⟨h1, h2⟩, h3⟩, h4⟩, h5⟩ := h
      subst h1
      exact sndI_rng1 (G.gl h3) (G.bi _ h2) (star_cons h4) (sE C a G h5).1
    · cases h
  | .rng2 a b, X, T, k, t, e, G, h => by
    simp only [chI] at h
    split at h
    · simp only [Bool.and_eq_true, decide_eq_true_eq, List.contains_eq_mem] at h
      obtain ⟨⟨⟨⟨⟨⟨h1, h2⟩, h3⟩, h4⟩, h4'⟩, h5⟩, h6⟩ := h
      subst h1
      exact sndI_rng2 (G.gl h3) (G.bi _ h2) (by rw [star_cons h4, star_cons h4']; rfl) (star_cons h4') (sE C a G h5).1 (sE C b G h6).1
    · cases h
  | .enum a, X, T, k, t, e, G, h => by
    simp only [chI] at h
    split at h
    · simp only [Bool.and_eq_true, decide_eq_true_eq, List.contains_eq_mem] at h
      obtain ⟨⟨⟨⟨⟨h0, h1⟩, h2⟩, h3⟩, h4⟩, h5⟩ := h
      subst h1
      cases t with
      | Tuple elts kk tpos => exact sndI_enum (G.gl h3) (G.bi _ h2) (star_cons h4) (sE C a G h5).1
      | _ => cases h0
    · cases h
  | .zip a b, X, T, k, t, e, G, h => by
    simp only [chI] at h
    split at h
    · simp only [Bool.and_eq_true, decide_eq_true_eq, List.contains_eq_mem] at h
      obtain ⟨⟨⟨⟨⟨⟨⟨h0, h1⟩, h2⟩, h3⟩, h4⟩, h5⟩, h6⟩, h7⟩ := h
      subst h1
      cases t with
      | Tuple elts kk tpos => exact sndI_zip (G.gl h3) (G.bi _ h2) (star_cons h4) (star_cons h5) (sE C a G h6).1 (sE C b G h7).1
      | _ => cases h0
    · cases h
end
end W9

/-! W9r: THE SOUNDNESS of the statements -/
namespace W9
open PySem L2
theorem chNs_len {T : Stc} : ∀ {es : List Expr} {is : List Nat}, chNs T es is = true → es.length = is.length
  | [], [], _ => rfl
  | [], _ :: _, h => by simp [chNs] at h
  | e :: es, is, h => by
    cases is with
    | nil => cases e <;> simp [chNs] at h
    | cons i is =>
      cases e with
      | Name x p =>
        simp only [chNs, Bool.and_eq_true] at h
        exact congrArg (· + 1) (chNs_len h.2)
      | _ => simp [chNs] at h
theorem sS_par2 {X : Cx} {T : Stc} {C : Cts} {k : Nat} (G : Good X T C k) {ts : List Expr} {v : Expr} {is : List Nat} {es : Exs} {kt : Nat} {p pos : Pos} (h1 : par2B T.sc ts v = true) (hc : chE T (.tup es) v = true) (hn : chNs T ts is = true) (hd : is.Nodup) :
    SndS X (.Assign [.Tuple ts kt p] v pos) (run C (.asgT is (.tup es))) := by
  unfold par2B at h1
  split at h1
  · rename_i x px y py a b k2 p2
    have h1' : par2B X.env.scope [.Name x px, .Name y py] (.Tuple [a, b] k2 p2) = true := by rw [G.sc]; exact h1
    have hw := par2_ok (k := kt) (p := p) (by rw [G.sc]; exact G.kind) h1'
    simp only [Bool.and_eq_true] at h1
    match is, hn, hd with
    | [j, l], hn, hd =>
      simp only [chNs, Bool.and_eq_true] at hn
      simp only [chE] at hc
      have hjl : j ≠ l := by simp at hd; exact hd
      exact sndS_par2 G.calm G.ndX (G.slot hn.1.1.1) (G.slot hn.2.1.1.1) hjl (by rw [G.sc]; exact isLoc_eq h1.1.1.1.1.1.1.1) (by rw [G.sc]; exact isLoc_eq h1.1.1.1.1.1.1.2) hw (sA C es G hc)
    | [], hn, _ => simp [chNs] at hn
    | [_], hn, _ => simp [chNs] at hn
    | _ :: _ :: _ :: _, hn, _ => simp [chNs] at hn
  · cases h1
theorem sS_par3 {X : Cx} {T : Stc} {C : Cts} {k : Nat} (G : Good X T C k) {ts : List Expr} {v : Expr} {is : List Nat} {es : Exs} {kt : Nat} {p pos : Pos} (h1 : par3B T.sc ts v = true) (hc : chE T (.tup es) v = true) (hn : chNs T ts is = true) (hd : is.Nodup) :
    SndS X (.Assign [.Tuple ts kt p] v pos) (run C (.asgT is (.tup es))) := by
  unfold par3B at h1
  split at h1
  · rename_i x px y py z pz a b c k2 p2
    have h1' : par3B X.env.scope [.Name x px, .Name y py, .Name z pz] (.Tuple [a, b, c] k2 p2) = true := by rw [G.sc]; exact h1
    have hw := par3_ok (k := kt) (p := p) (by rw [G.sc]; exact G.kind) h1'
    simp only [Bool.and_eq_true] at h1
    match is, hn, hd with
    | [j, l, n], hn, hd =>
      simp only [chNs, Bool.and_eq_true] at hn
      simp only [chE] at hc
      simp at hd
      obtain ⟨⟨d1, d2⟩, d3⟩ := hd
      exact sndS_par3 G.calm G.ndX (G.slot hn.1.1.1) (G.slot hn.2.1.1.1) (G.slot hn.2.2.1.1.1) d1 d2 d3 (by rw [G.sc]; exact isLoc_eq h1.1.1.1.1.1.1.1.1.1.1.1.1) (by rw [G.sc]; exact isLoc_eq h1.1.1.1.1.1.1.1.1.1.1.1.2) (by rw [G.sc]; exact isLoc_eq h1.1.1.1.1.1.1.1.1.1.1.2) hw (sA C es G hc)
    | [], hn, _ => simp [chNs] at hn
    | [_], hn, _ => simp [chNs] at hn
    | [_, _], hn, _ => simp [chNs] at hn
    | _ :: _ :: _ :: _ :: _, hn, _ => simp [chNs] at hn
  · cases h1
theorem comp_sws {v : Expr} {ts : List Expr} {l : Nat} {env : PySem.Env} (h : notComp v = true) : swapsWithSole ts v l env = pure false := by
  unfold swapsWithSole
  split <;> first | exact comp_sw h | rfl
theorem sws_tup {v : Expr} {ts : List Expr} {k : Nat} {p : Pos} {l : Nat} {env : PySem.Env} : swapsWithSole [.Tuple ts k p] v l env = pure false := by cases v <;> rfl
theorem chFl_ok {X : Cx} {x : Str} : ∀ {es : List Expr} {fs : List Str}, chFl x es fs = true → Flts X x es fs
  | [], [], _ => .nil
  | [], _ :: _, h => by simp [chFl] at h
  | e :: es, fs, h => by
    unfold chFl at h
    split at h
    · simp at *
    · rename_i h1
      cases h1
      simp only [Bool.and_eq_true, decide_eq_true_eq] at h
      obtain ⟨⟨rfl, rfl⟩, h⟩ := h
      exact .cons (chFl_ok h)
    · cases h
mutual
theorem sS (C : Cts) : ∀ (c : Sm) {X : Cx} {T : Stc} {k : Nat} {s : Stmt}, Good X T C k → chS T c s = true → SndS X s (run C c)
  | .asg i c, X, T, k, s, G, h => by
    simp only [chS] at h
    split at h
    · rename_i x px v spos
      simp only [Bool.and_eq_true] at h
      obtain ⟨⟨⟨⟨h1, h2⟩, h3⟩, h4⟩, h5⟩ := h
      cases hnc : notComp v with
      | true => exact sndS_asg G.ndX (G.slot h1) (G.loc h2) (G.st h3) (comp_sw hnc) (sE C c G h4).1
      | false =>
        rw [hnc, Bool.false_or] at h5
        cases c with
        | lc own src tg c el =>
          have hE := (sE C (.lc own src tg c el) G h4).1
          simp only [chE] at h4
          split at h4
          · rename_i elt t iter ifs scope pos
            have sw := swB_ok (x := x) (px := px) (pos := pos) (spos := spos) (elt := elt) (gs := [⟨t, iter, ifs, 0⟩]) (scope := scope) (l := spos.line) (env := X.env) (by rw [G.sc]; exact G.kind)
            cases hsw : swB X.env.scope x px (.ListComp elt [⟨t, iter, ifs, 0⟩] scope pos) with
            | false =>
              rw [hsw] at sw
              exact sndS_asg G.ndX (G.slot h1) (G.loc h2) (G.st h3) sw hE
            | true =>
              rw [hsw] at sw
              simp only [Bool.and_eq_true, decide_eq_true_eq] at h4
              obtain ⟨⟨⟨⟨⟨⟨⟨g1, g2⟩, g3⟩, g4⟩, g5⟩, g6⟩, g7⟩, g8⟩ := h4
              have GB := G.blk scope (blk_kind g1)
              have hc : ifs = ifs.head?.toList := by
                match ifs, g6 with
                | [], _ => rfl
                | [_], _ => rfl
              have hyl : X.env.scope.names.lookup x = some .local := by
                simp only [swB, Bool.and_eq_true] at hsw
                exact beq_iff_eq.mp hsw.1.1
              rw [hc] at sw ⊢
              refine sndS_setLc (t := tg) (own := own) (ownp := ownP T own) G.calm G.ndX (G.slot h1) hyl sw ?_ (own_map T own) (set_fold g2) (sI C src G g3) (fun s H C0 cl fp => ch_tg (GB s H C0 cl fp) g4) (sTo C c GB g5) (fun s H C0 cl fp => (sE C el (GB s H C0 cl fp) g7).1) ?_
              · rw [G.N, G.sc]; exact blkOk_by g1
              · intro i hi
                have := List.all_eq_true.mp g8 i hi
                simpa using this
          · cases h4
        | dc own src tg c kk vv =>
          have hE := (sE C (.dc own src tg c kk vv) G h4).1
          simp only [chE] at h4
          split at h4
          · rename_i ka va t iter ifs scope pos
            have sw := swB_okD (x := x) (px := px) (pos := pos) (spos := spos) (kx := ka) (vx := va) (gs := [⟨t, iter, ifs, 0⟩]) (scope := scope) (l := spos.line) (env := X.env) (by rw [G.sc]; exact G.kind)
            cases hsw : swB X.env.scope x px (.DictComp ka va [⟨t, iter, ifs, 0⟩] scope pos) with
            | false =>
              rw [hsw] at sw
              exact sndS_asg G.ndX (G.slot h1) (G.loc h2) (G.st h3) sw hE
            | true =>
              rw [hsw] at sw
              simp only [Bool.and_eq_true, decide_eq_true_eq] at h4
              obtain ⟨⟨⟨⟨⟨⟨⟨⟨g1, g2⟩, g3⟩, g4⟩, g5⟩, g6⟩, g7⟩, g7v⟩, g8⟩ := h4
              have GB := G.blk scope (blk_kind g1)
              have hc : ifs = ifs.head?.toList := by
                match ifs, g6 with
                | [], _ => rfl
                | [_], _ => rfl
              have hyl : X.env.scope.names.lookup x = some .local := by
                simp only [swB, Bool.and_eq_true] at hsw
                exact beq_iff_eq.mp hsw.1.1
              rw [hc] at sw ⊢
              refine sndS_setDc (t := tg) (own := own) (ownp := ownP T own) G.calm G.ndX (G.slot h1) hyl sw ?_ (own_map T own) (set_fold g2) (sI C src G g3) (fun s H C0 cl fp => ch_tg (GB s H C0 cl fp) g4) (sTo C c GB g5) (fun s H C0 cl fp => (sE C kk (GB s H C0 cl fp) g7).1) (fun s H C0 cl fp => (sE C vv (GB s H C0 cl fp) g7v).1) ?_
              · rw [G.N, G.sc]; exact blkOk_by g1
              · intro i hi
                have := List.all_eq_true.mp g8 i hi
                simpa using this
          · cases h4
        | _ => cases h5
    · cases h
  | .asgT is c, X, T, k, s, G, h => by
    simp only [chS] at h
    split at h
    · rename_i ts kt p v pos
      simp only [Bool.and_eq_true, Bool.or_eq_true, decide_eq_true_eq] at h
      obtain ⟨⟨h2, h3⟩, h4⟩ := h
      rcases h4 with h4 | ⟨⟨h4, h5⟩, h6⟩
      · refine sndS_tgt sws_tup (swN_ok (by rw [G.sc]; exact h4)) rfl (sE C c G h2).1 (sndG_tup G.calm G.ndX (ch_nms G h3))
      · cases c with
        | tup es =>
          rcases h4 with h4 | h4
          · exact sS_par2 G h4 h2 h3 h6
          · exact sS_par3 G h4 h2 h3 h6
        | _ => cases h5
    · cases h
  | .setIx o i c, X, T, k, s, G, h => by
    simp only [chS] at h
    split at h
    · simp only [Bool.and_eq_true] at h
      obtain ⟨⟨⟨h2, h3⟩, h4⟩, h5⟩ := h
      exact sndS_set G.u1 sw_sub (sE C c G h3).1 (sE C o G h4).1 (sE C i G h5).1
    · cases h
  | .aug i op c, X, T, k, s, G, h => by
    simp only [chS] at h
    split at h
    · simp only [Bool.and_eq_true, decide_eq_true_eq] at h
      obtain ⟨⟨⟨⟨h1, h2⟩, h3⟩, h4⟩, h5⟩ := h
      subst h4
      exact sndS_aug G.ndX (G.slot h1) (G.loc h2) (G.st h3) (sE C c G h5).1
    · cases h
  | .expr c, X, T, k, s, G, h => by
    simp only [chS] at h
    split at h
    · simp only [Bool.and_eq_true] at h
      exact sndS_expr (comp_sw h.1) (sE C c G h.2).1
    · cases h
  | .ret c, X, T, k, s, G, h => by
    simp only [chS] at h
    split at h
    · exact sndS_ret (sE C c G h).1
    · cases h
  | .retN, X, T, k, s, G, h => by
    simp only [chS] at h
    split at h
    · exact sndS_retN
    · cases h
  | .ite c a b, X, T, k, s, G, h => by
    simp only [chS] at h
    split at h
    · simp only [Bool.and_eq_true] at h
      exact sndS_ite (sE C c G h.1.1).2.1 (sSs C a G h.1.2) (sSs C b G h.2)
    · cases h
  | .forS src tg body, X, T, k, s, G, h => by
    simp only [chS] at h
    split at h
    · simp only [Bool.and_eq_true] at h
      exact sndS_for G.pas G.calm (set_fold h.1.1.1) (sI C src G h.1.1.2) (ch_tg G h.1.2) (sSs C body G h.2)
    · cases h
  | .pass, X, T, k, s, G, h => by
    simp only [chS] at h
    split at h
    · exact sndS_pass
    · cases h
  | .brk, X, T, k, s, G, h => by
    simp only [chS] at h
    split at h
    · exact sndS_brk
    · cases h
  | .cont, X, T, k, s, G, h => by
    simp only [chS] at h
    split at h
    · exact sndS_cont
    · cases h
  | .never, X, T, k, s, G, h => sndS_never
  | .setFld o f c, X, T, k, s, G, h => by
    simp only [chS] at h
    split at h
    · simp only [Bool.and_eq_true, decide_eq_true_eq] at h
      obtain ⟨⟨h1, h2⟩, h3⟩ := h
      subst h1
      exact sndS_setFld (G.fls _) sw_att (sE C c G h2).1 (sE C o G h3).1
    · cases h
  | .augFld o f op c, X, T, k, s, G, h => by
    simp only [chS] at h
    split at h
    · simp only [Bool.and_eq_true, decide_eq_true_eq] at h
      obtain ⟨⟨⟨h1, h2⟩, h3⟩, h4⟩ := h
      subst h1 h2
      exact sndS_augFld (G.fls _) (sE C c G h3).1 (sE C o G h4).1
    · cases h
  | .asgF i fs c, X, T, k, s, G, h => by
    simp only [chS] at h
    split at h
    · split at h
      · simp only [Bool.and_eq_true] at h
        obtain ⟨⟨⟨⟨⟨h1, h2⟩, h3⟩, h4⟩, h5⟩, h6⟩ := h
        exact sndS_asgF G.calm G.fls (G.slot h1) (by rw [G.sc]; exact visB_eq h2) (okNm_eq h3).1 (okNm_eq h3).2 (chFl_ok h4) sws_tup (swN_ok (by rw [G.sc]; exact h6)) (sE C c G h5).1
      · cases h
    · cases h
  | .whil n c b, X, T, k, s, G, h => by
    simp only [chS] at h
    split at h
    · simp only [Bool.and_eq_true] at h
      exact sndS_while G.pas (sE C c G h.1).2.1 (sSs C b G h.2)
    · cases h
theorem sSs (C : Cts) : ∀ (c : Sms) {X : Cx} {T : Stc} {k : Nat} {s : List Stmt}, Good X T C k → chSs T c s = true → SndSs X s (runs C c)
  | .nil, X, T, k, s, G, h => by
    simp only [chSs] at h
    split at h
    · exact sndSs_nil
    · cases h
  | .cons c cs, X, T, k, s, G, h => by
    simp only [chSs] at h
    split at h
    · simp only [Bool.and_eq_true] at h
      exact sndSs_cons (sS C c G h.1) (sSs C cs G h.2)
    · cases h
end
end W9

/-! W9s: defs by their core text, tables of defs -/
namespace W9
open PySem PySem.Spec PyProof.Rows L2
theorem envR_start {K : PySem.W.Frag} {ρ : List Addr} {H : Hp} {ds : List D} {vs : List V} (N : List Str) (r : Reps K ρ H ds vs) : EnvR K ρ H (ds.map some ++ List.replicate (N.length - ds.length) none) (L2.start N vs) := by
  refine ⟨by unfold L2.start; simp [r.length], fun i d h => ?_⟩
  unfold L2.start
  by_cases hi : i < ds.length
  · rw [List.getElem?_append_left (by simpa using hi), List.getElem?_map] at h
    cases e : ds[i]? with
    | none => rw [e] at h; cases h
    | some d' =>
      rw [e] at h
      have h' : some (some d') = some (some d) := h
      cases h'
      obtain ⟨v, h1, h2⟩ := r.get e
      refine ⟨v, ?_, h2⟩
      rw [List.getElem?_append_left (by rw [List.length_map, ← r.length]; exact hi), List.getElem?_map, h1]
      rfl
  · rw [List.getElem?_append_right (by simpa using hi), List.getElem?_replicate] at h
    split at h <;> cases h
/-- a way of calling a def: its tag, the keywords' names, how many values, how they stand as parameters -/
structure En where
  tag : Str
  ks : List Str
  n : Nat
  gD : List D → List D
/-- a def: its name, its statement, its slots, its parameters, its core, the ways of calling it -/
structure Df where
  name : Str
  st : Stmt
  N : List Str
  ps : List Str
  body : Sms
  ents : List En
  cls : Option Str := none
/-- its name with its class -/
def Df.qual (d : Df) : Str := match d.cls with | none => d.name | some c => c ++ "." ++ d.name
def EnOk (K : PySem.W.Frag) (fd : FuncData) (ps : List Str) (e : En) : Prop := ∀ (P : Program) (w : World) (mg : Str → Option Value) (base : Heap) (k : Nat) (f : Addr) (g : List D → M D),
  FnG P w K mg base CX0 k f fd ps (spF K ps.length g) → CallF P w K mg base k f e.ks (spF K e.n fun xs => g (e.gD xs))
def EnsOk (K : PySem.W.Frag) (fd : FuncData) (ps : List Str) : List En → Prop
  | [] => True
  | e :: es => EnOk K fd ps e ∧ EnsOk K fd ps es
theorem EnsOk.mem {K : PySem.W.Frag} {fd : FuncData} {ps : List Str} : ∀ {es : List En}, EnsOk K fd ps es → ∀ e ∈ es, EnOk K fd ps e
  | _ :: _, ⟨h1, h2⟩, e, he => by
    rcases List.mem_cons.mp he with z | z
    · rw [z]; exact h1
    · exact EnsOk.mem h2 e z
/-- the defaults dd behind the values -/
theorem enOk_dflt {K : PySem.W.Frag} {fd : FuncData} {ps : List Str} {tag : Str} {n : Nat} {dd : List D} {dv : List V} {du : List Value} (hn : n + dd.length = ps.length) (hb : Binds K fd ps du) (hd : Vals dv du) (hr : ∀ ρ H, Reps K ρ H dd dv) : EnOk K fd ps ⟨tag, [], n, fun xs => xs ++ dd⟩ := by
  intro P w mg base k f g F
  rw [← hn] at F
  exact callF_of F hb hd hr
theorem enOk_plain {K : PySem.W.Frag} {fd : FuncData} {ps : List Str} {tag : Str} (h : ∀ us : List Value, us.length = ps.length → bindArgs fd ⟨us, []⟩ = pure (ps.zip us)) : EnOk K fd ps ⟨tag, [], ps.length, fun xs => xs⟩ := by
  intro P w mg base k f g F
  have := callF_of (n := ps.length) (dds := []) (dvs := []) (dus := []) F (Binds.all h) .nil (fun _ _ => .nil)
  simpa only [List.append_nil] using this
/-- some values by the names of the last parameters -/
theorem enOk_kw {K : PySem.W.Frag} {fd : FuncData} {ps ks : List Str} {tag : Str} {n0 : Nat} (hn : n0 + ks.length = ps.length) (hb : ∀ (us ws : List Value), us.length = n0 → ws.length = ks.length → bindArgs fd ⟨us, ks.zip ws⟩ = pure (ps.zip (us ++ ws))) : EnOk K fd ps ⟨tag, ks, ps.length, fun xs => xs⟩ := by
  intro P w mg base k f g F
  exact callF_kw (n0 := n0) (gv := fun us ws => us ++ ws) (gV := fun vs zs => vs ++ zs) (gD := fun xs => xs) F ⟨fun s us ws _ h1 h2 => .of_eq (hb us ws h1 h2), fun r1 r2 => r1.append r2⟩ hn.symm fun ρ H xs vs zs h1 h2 r => ⟨r, h1⟩
theorem getD_vals : ∀ {vs : List V} {us : List Value} (i : Nat), Vals vs us → RelV (vs.getD i .non) (us.getD i .none)
  | _, _, _, .nil => rfl
  | _, _, 0, .cons r _ => r
  | _, _, i + 1, .cons _ t => getD_vals i t
theorem getD_reps {K : PySem.W.Frag} {ρ : List Addr} {H : Hp} : ∀ {ds : List D} {vs : List V} (i : Nat), Reps K ρ H ds vs → Rep K ρ H (ds.getD i .non) (vs.getD i .non)
  | _, _, _, .nil => .non
  | _, _, 0, .cons r _ => r
  | _, _, i + 1, .cons _ t => getD_reps i t
theorem map_vals {vs : List V} {us : List Value} (h : Vals vs us) : ∀ idx : List Nat, Vals (idx.map fun i => vs.getD i .non) (idx.map fun i => us.getD i .none)
  | [] => .nil
  | i :: idx => .cons (getD_vals i h) (map_vals h idx)
theorem map_reps {K : PySem.W.Frag} {ρ : List Addr} {H : Hp} {ds : List D} {vs : List V} (h : Reps K ρ H ds vs) : ∀ idx : List Nat, Reps K ρ H (idx.map fun i => ds.getD i .non) (idx.map fun i => vs.getD i .non)
  | [] => .nil
  | i :: idx => .cons (getD_reps i h) (map_reps h idx)
/-- values by names, in any order -/
theorem enOk_kwp {K : PySem.W.Frag} {fd : FuncData} {ps ks : List Str} {tag : Str} {n0 : Nat} {idx : List Nat} (hn : n0 + ks.length = ps.length) (hi : idx.length = ps.length)
    (hb : ∀ (us ws : List Value), us.length = n0 → ws.length = ks.length → bindArgs fd ⟨us, ks.zip ws⟩ = pure (ps.zip (idx.map fun i => (us ++ ws).getD i .none))) : EnOk K fd ps ⟨tag, ks, ps.length, fun xs => idx.map fun i => xs.getD i .non⟩ := by
  intro P w mg base k f g F
  exact callF_kw (n0 := n0) (gv := fun us ws => idx.map fun i => (us ++ ws).getD i .none) (gV := fun vs zs => idx.map fun i => (vs ++ zs).getD i .non) (gD := fun xs => idx.map fun i => xs.getD i .non) F ⟨fun s us ws _ h1 h2 => .of_eq (hb us ws h1 h2), fun r1 r2 => map_vals (r1.append r2) idx⟩ hn.symm
    fun ρ H xs vs zs h1 h2 r => ⟨map_reps r idx, by rw [List.length_map]; exact hi⟩
def KwIn (K : PySem.W.Frag) (D : Addr) : List (Str × Value) → Prop
  | [] => True
  | q :: l => PySem.W.nsIn K D q.1 = some (some q.2) ∧ KwIn K D l
theorem KwIn.all {K : PySem.W.Frag} {D : Addr} : ∀ {l : List (Str × Value)}, KwIn K D l → ∀ q ∈ l, PySem.W.nsIn K D q.1 = some (some q.2)
  | _ :: _, ⟨h1, h2⟩, q, hq => by
    rcases List.mem_cons.mp hq with e | e
    · rw [e]; exact h1
    · exact KwIn.all h2 q e
/-- keyword-only parameters that are left out -/
theorem enOk_kwd0 {K : PySem.W.Frag} {fd : FuncData} {ps : List Str} {tag : Str} {n : Nat} {D : Addr} {kws : List (Str × Value)} {dd : List W9.D} {dv : List V} (hn : n + dd.length = ps.length) (hks : KwIn K D kws) (hv : Vals dv (kws.map (·.2))) (hr : ∀ ρ H, Reps K ρ H dd dv)
    (hc : ∀ us : List Value, us.length = n → KwChain D kws (bindArgs fd ⟨us, []⟩) (ps.zip (us ++ kws.map (·.2)))) : EnOk K fd ps ⟨tag, [], n, fun xs => xs ++ dd⟩ := by
  refine enOk_dflt hn (fun s us X hl => BindsTo.of_looks fun M => KwChain.looks X hks.all (hc us ?_)) hv hr
  have h1 := hv.length
  have h2 := (hr [] (fun _ => none)).length
  rw [List.length_append] at hl
  omega
def fsB (N ps : List Str) (sc : Scope) : Bool := decide (sc.kind = .function) && !sc.isCoroutine && !sc.isGenerator && decide N.Nodup && decide (N.take ps.length = ps) && ps.all (fun x => locB sc x) && sc.names.all (fun y => !(y.2 == .free))
theorem fsB_ok {N ps : List Str} {sc : Scope} (h : fsB N ps sc = true) : FnScope N ps sc := by
  unfold fsB at h
  simp only [Bool.and_eq_true, decide_eq_true_eq, Bool.not_eq_true', List.all_eq_true] at h
  obtain ⟨⟨⟨⟨⟨⟨h1, h2⟩, h3⟩, h4⟩, h5⟩, h6⟩, h7⟩ := h
  refine ⟨h1, h2, h3, h4, h5, fun x hx => locB_eq (h6 x hx), fun y hy e => ?_⟩
  have := h7 y hy
  rw [e] at this
  exact absurd this (by decide)
/-- where it stands: a name of the module, a method of a class -/
def StandsAt (K : PySem.W.Frag) (name : Str) (f : Addr) : Option Str → Prop
  | none => PySem.W.nsIn K mainGlobals name = some (some (.ref f)) ∧ PySem.W.keepIn K (.ref f) = true
  | some c => ∃ C, ClsN K c C ∧ Meth K C name f
/-- it stands behind the top -/
structure DefIn (K : PySem.W.Frag) (d : Df) : Prop where
  ex : ∃ (f : Addr) (oc : Value) (od an : Option Addr) (osl : Array (Option Value)) (dV kV doc pm cdv ct : Value), StandsAt K d.name f d.cls ∧
    K.lookup f = some ⟨oc, od, .func (PySem.W.fnOf d.name d.qual (defArgs d.st) (defBody d.st) (defScope d.st) dV kV doc pm an cdv ct), osl⟩ ∧ PySem.W.codeIn K cdv d.qual = true ∧
    EnsOk K (PySem.W.fnOf d.name d.qual (defArgs d.st) (defBody d.st) (defScope d.st) dV kV doc pm an cdv ct) d.ps d.ents
theorem defIn_mk {K : PySem.W.Frag} {d : Df} {f : Addr} {oc : Value} {od an : Option Addr} {osl : Array (Option Value)} {dV kV doc pm cdv ct : Value} (hc : d.cls = none) (a : PySem.W.nsIn K mainGlobals d.name = some (some (.ref f)))
    (l : K.lookup f = some ⟨oc, od, .func (PySem.W.fnOf d.name d.qual (defArgs d.st) (defBody d.st) (defScope d.st) dV kV doc pm an cdv ct), osl⟩) (c : PySem.W.codeIn K cdv d.qual = true) (k : PySem.W.keepIn K (.ref f) = true)
    (e : EnsOk K (PySem.W.fnOf d.name d.qual (defArgs d.st) (defBody d.st) (defScope d.st) dV kV doc pm an cdv ct) d.ps d.ents) : DefIn K d :=
  ⟨f, oc, od, an, osl, dV, kV, doc, pm, cdv, ct, by rw [hc]; exact ⟨a, k⟩, l, c, e⟩
theorem defIn_mt {K : PySem.W.Frag} {d : Df} {c : Str} {C f : Addr} {oc : Value} {od an : Option Addr} {osl : Array (Option Value)} {dV kV doc pm cdv ct : Value} (hc : d.cls = some c) (cn : ClsN K c C) (at_ : PySem.W.findIn K (.ref C) d.name = some (some (.ref f)))
    (l : K.lookup f = some ⟨oc, od, .func (PySem.W.fnOf d.name d.qual (defArgs d.st) (defBody d.st) (defScope d.st) dV kV doc pm an cdv ct), osl⟩) (cd : PySem.W.codeIn K cdv d.qual = true) (fn : PySem.W.isFn K (.ref f) = true) (k : PySem.W.keepIn K (.ref f) = true)
    (e : EnsOk K (PySem.W.fnOf d.name d.qual (defArgs d.st) (defBody d.st) (defScope d.st) dV kV doc pm an cdv ct) d.ps d.ents) : DefIn K d :=
  ⟨f, oc, od, an, osl, dV, kV, doc, pm, cdv, ct, by rw [hc]; exact ⟨C, cn, at_, fn, k⟩, l, cd, e⟩
/-- how its arguments bind, all by place -/
def Df.bnd (d : Df) : Prop := ∀ (kV doc pm : Value) (an : Option Addr) (cdv ct : Value) (us : List Value), us.length = d.ps.length → bindArgs (PySem.W.fnOf d.name d.qual (defArgs d.st) (defBody d.st) (defScope d.st) .none kV doc pm an cdv ct) ⟨us, []⟩ = pure (d.ps.zip us)
/-- a def without defaults, called by place -/
theorem defIn_plain {K : PySem.W.Frag} {d : Df} {tag : Str} {f : Addr} {oc : Value} {od an : Option Addr} {osl : Array (Option Value)} {kV doc pm cdv ct : Value} (hb : d.bnd) (hc : d.cls = none) (he : d.ents = [⟨tag, [], d.ps.length, fun xs => xs⟩]) (a : PySem.W.nsIn K mainGlobals d.name = some (some (.ref f)))
    (l : K.lookup f = some ⟨oc, od, .func (PySem.W.fnOf d.name d.qual (defArgs d.st) (defBody d.st) (defScope d.st) .none kV doc pm an cdv ct), osl⟩) (c : PySem.W.codeIn K cdv d.qual = true) (k : PySem.W.keepIn K (.ref f) = true) : DefIn K d :=
  defIn_mk hc a l c k (by rw [he]; exact ⟨enOk_plain (hb kV doc pm an cdv ct), trivial⟩)
theorem defIn_mplain {K : PySem.W.Frag} {d : Df} {tag c : Str} {C f : Addr} {oc : Value} {od an : Option Addr} {osl : Array (Option Value)} {kV doc pm cdv ct : Value} (hb : d.bnd) (hc : d.cls = some c) (he : d.ents = [⟨tag, [], d.ps.length, fun xs => xs⟩]) (cn : ClsN K c C) (at_ : PySem.W.findIn K (.ref C) d.name = some (some (.ref f)))
    (l : K.lookup f = some ⟨oc, od, .func (PySem.W.fnOf d.name d.qual (defArgs d.st) (defBody d.st) (defScope d.st) .none kV doc pm an cdv ct), osl⟩) (cd : PySem.W.codeIn K cdv d.qual = true) (fn : PySem.W.isFn K (.ref f) = true) (k : PySem.W.keepIn K (.ref f) = true) : DefIn K d :=
  defIn_mt hc cn at_ l cd fn k (by rw [he]; exact ⟨enOk_plain (hb kV doc pm an cdv ct), trivial⟩)
abbrev Tab := List (Str × Frm × (List D → M D))
def Tab.fn (t : Tab) (x : Str) : List D → M D := match t.lookup x with | some p => p.2 | none => fun _ _ => .no
/-- a method by its tag and its form -/
def Tab.mt (t : Tab) (x : Str) (fr : Frm) : List D → M D := match t.lookup x with | some p => (if p.1 = fr then p.2 else fun _ _ => .no) | none => fun _ _ => .no
/-- what the module's names tell: its constants, the attributes that no class has -/
structure Mod where
  gl : Str → Option D
  fl : Str → Str → Bool
def Tab.cts (t : Tab) (m : Mod) : Cts := ⟨t.fn, m.gl, t.mt, m.fl⟩
def Tab.sig (t : Tab) : List (Str × Frm) := t.map fun p => (p.1, p.2.1)
/-- a def's rows in the table -/
def Df.rows (d : Df) (m : List D → M D) : Tab := d.ents.map fun e => (e.tag, ⟨d.name, e.ks, e.n, d.cls⟩, fun xs => m (e.gD xs))
def Df.sig (d : Df) : List (Str × Frm) := d.ents.map fun e => (e.tag, ⟨d.name, e.ks, e.n, d.cls⟩)
section
variable {P : Program} {w : World} {K : PySem.W.Frag} {mg : Str → Option Value} {base : Heap}
/-- a table's promises -/
def TabOk (P : Program) (w : World) (K : PySem.W.Frag) (mg : Str → Option Value) (base : Heap) (k : Nat) (t : Tab) : Prop := (t.map (·.1)).Nodup ∧ ∀ p ∈ t, Callee P w K mg base k p.2.1 p.2.2
def FlsOk (K : PySem.W.Frag) (fl : Str → Str → Bool) : Prop := ∀ f c C, fl c f = true → ClsN K c C → NoAttr K C f
def ClsOk (K : PySem.W.Frag) (mg : Str → Option Value) (cs : List Str) : Prop := ∀ c ∈ cs, ClsM K mg c
def GlsOk (K : PySem.W.Frag) (mg : Str → Option Value) (gs : List Str) (gl : Str → Option D) : Prop := ∀ x ∈ gs, ∃ d u v, gl x = some d ∧ mg x = some u ∧ RelV v u ∧ ∀ ρ H, Rep K ρ H d v
theorem Callee.up {m : Frm} {j k : Nat} {g : List D → M D} (c : Callee P w K mg base j m g) (h : j ≤ k) : Callee P w K mg base k m g := by
  obtain ⟨f, F, h2⟩ := c.ex
  exact ⟨f, fun A outer s H us ws vs zs Q room => F A outer s H us ws vs zs Q (room.mono h), h2⟩
theorem lookup_mem {α : Type} {x : Str} {v : α} : ∀ {t : List (Str × α)}, (t.map (·.1)).Nodup → (x, v) ∈ t → t.lookup x = some v
  | (y, u) :: t, nd, h => by
    simp only [List.map_cons, List.nodup_cons] at nd
    rcases List.mem_cons.mp h with e | e
    · cases e; simp [List.lookup]
    · have hne : ¬ x = y := by
        rintro rfl
        exact nd.1 (List.mem_map.mpr ⟨_, e, rfl⟩)
      have : (x == y) = false := by simpa using hne
      rw [List.lookup_cons, this]
      exact lookup_mem nd.2 e
theorem tab_fns {k : Nat} {t : Tab} (h : TabOk P w K mg base k t) : ∀ p ∈ t.sig, Callee P w K mg base k p.2 (t.fn p.1) := by
  intro p hp
  obtain ⟨⟨x, n, g⟩, hq, rfl⟩ := List.mem_map.mp hp
  have := h.2 _ hq
  show Callee P w K mg base k n (t.fn x)
  have e : t.fn x = g := by
    unfold Tab.fn
    rw [lookup_mem h.1 hq]
  rw [e]
  exact this
theorem tab_mts {k : Nat} {t : Tab} (h : TabOk P w K mg base k t) : ∀ tg fr, (∀ xs st, t.mt tg fr xs st = .no) ∨ Callee P w K mg base k fr (t.mt tg fr) := by
  intro tg fr
  unfold Tab.mt
  cases e : t.lookup tg with
  | none => exact .inl fun _ _ => rfl
  | some p =>
    by_cases hp : p.1 = fr
    · refine .inr ?_
      simp only [if_pos hp]
      have hm : (tg, p) ∈ t := by
        clear h
        induction t with
        | nil => cases e
        | cons q t ih =>
          rw [List.lookup_cons] at e
          cases hq : (tg == q.1) with
          | true =>
            rw [hq] at e
            cases e
            have : tg = q.1 := by simpa using hq
            rw [this]
            exact List.mem_cons_self
          | false => rw [hq] at e; exact List.mem_cons_of_mem _ (ih e)
      have c := h.2 _ hm
      rw [hp] at c
      exact c
    · exact .inl fun _ _ => by simp only [if_neg hp]
/-- the checker's table for a def -/
abbrev stcOf (d : Df) (bs : List Str) (fs : List (Str × Frm)) (gs cs : List Str) : Stc := ⟨d.N, defScope d.st, fun _ => true, bs, fs, gs, cs⟩
/-- THE RULE for a def -/
theorem callee_of {d : Df} {k : Nat} {t : Tab} {bs gs cs : List Str} {m : Mod} (T : TabOk P w K mg base k t) (hbs : ∀ x ∈ bs, mg x = none) (hgs : GlsOk K mg gs m.gl) (hfl : FlsOk K m.fl) (hcs : ClsOk K mg cs) (hd : DefIn K d) (hmg : ∀ x f, PySem.W.nsIn K mainGlobals x = some (some (.ref f)) → mg x = some (.ref f))
    (hf : fsB d.N d.ps (defScope d.st) = true) (hc : chSs (stcOf d bs t.sig gs cs) d.body (defBody d.st) = true) :
    ∀ p ∈ d.rows (callDef (t.cts m) d.N.length d.body), Callee P w K mg base (k + 2) p.2.1 p.2.2 := by
  obtain ⟨f, oc, od, an, osl, dV, kV, doc, pm, cdv, ct, a1, l1, c1, en⟩ := hd.ex
  have S := fsB_ok hf
  have F : FnG P w K mg base CX0 (k + 2) f (PySem.W.fnOf d.name d.qual (defArgs d.st) (defBody d.st) (defScope d.st) dV kV doc pm an cdv ct) d.ps (spF K d.ps.length (callDef (t.cts m) d.N.length d.body)) := by
    refine fnG_of (k := k + 1) l1 c1 S ?_ ?_
    · rintro vs H Q E ⟨ρ, st, ds, r, st', hl, _, hr, _⟩
      rw [← hr.length]; exact hl
    · rintro A outer s H vs Q E room gd ⟨ρ, st, ds, r, st', hl, Sm, hr, e, p⟩
      have G : Good (cxOf CX0 P w K mg base d.N d.qual (defScope d.st) f cdv A outer s H E).nox (stcOf d bs t.sig gs cs) (t.cts m) k :=
        ⟨rfl, S.nd, rfl, S.kind, fun _ _ => rfl, rfl, gd, room, hbs, tab_fns T, hgs, PassesOwn.never, tab_mts T, hfl, hcs⟩
      have snd := sSs (t.cts m) d.body G hc
      unfold callDef at e
      obtain ⟨fl, st1, e1, e2⟩ := bind_ok e
      refine wss_of (PSs.nox pss_ws) (snd ρ st _ (L2.start d.N vs) H fl st1 Sm (envR_start d.N hr) e1 _ ?_)
      cases fl with
      | nx env => cases e2; exact fun ρ' H' σ' g' S' R' => p ρ' H' .non g' S' .non
      | ret v => cases e2; exact fun ρ' H' v' g' S' r' => p ρ' H' v' g' S' r'
      | bk env => cases e2
      | ct env => cases e2
  intro p hp
  obtain ⟨e, he, rfl⟩ := List.mem_map.mp hp
  refine ⟨f, en.mem e he P w mg base (k + 2) f _ F, ?_⟩
  show FoundAt K mg d.name f d.cls
  cases hk : d.cls with
  | none => rw [hk] at a1; exact ⟨hmg _ f a1.1, a1.2⟩
  | some c => rw [hk] at a1; exact a1
theorem tab_step {d : Df} {k : Nat} {t : Tab} {bs gs cs : List Str} {m : Mod} (T : TabOk P w K mg base k t) (hbs : ∀ x ∈ bs, mg x = none) (hgs : GlsOk K mg gs m.gl) (hfl : FlsOk K m.fl) (hcs : ClsOk K mg cs) (hd : DefIn K d) (hmg : ∀ x f, PySem.W.nsIn K mainGlobals x = some (some (.ref f)) → mg x = some (.ref f))
    (hf : fsB d.N d.ps (defScope d.st) = true) (hc : chSs (stcOf d bs t.sig gs cs) d.body (defBody d.st) = true) (hn : ((d.sig ++ t.sig).map (·.1)).Nodup) : TabOk P w K mg base (k + 2) (d.rows (callDef (t.cts m) d.N.length d.body) ++ t) := by
  have c := callee_of T hbs hgs hfl hcs hd hmg hf hc
  refine ⟨?_, fun p hp => ?_⟩
  · have : (d.rows (callDef (t.cts m) d.N.length d.body) ++ t).map (·.1) = (d.sig ++ t.sig).map (·.1) := by
      simp only [List.map_append, Df.rows, Df.sig, Tab.sig, List.map_map]
      rfl
    rw [this]; exact hn
  · rcases List.mem_append.mp hp with e | e
    · exact c p e
    · exact (T.2 p e).up (Nat.le_add_right k 2)
end
end W9

/-! W9u: the law's own end -/
namespace W9
open PySem PySem.Spec PyProof.Rows L2
/-- one call of law from a heap where nothing but the script (at a) may be tracked -/
theorem end_core {P : Program} {w : World} {K : PySem.W.Frag} {mg bm : Str → Option Value} {k : Nat} {fl a : Addr} {x : Str} {s1 : Shared} {us : List Value} {ns : List Int} {g : List D → M D} {H : Hp} {sr : Store}
    (kin : K.In s1.heap) (gns : s1.heap.Ns mainGlobals mg) (bns : s1.heap.Ns builtinsNs bm) (boot : ∀ z : Str, z ≠ "__name__" → bm z = bootBuiltins z) (nol : s1.heap.NoLimit) (nog : s1.gens = #[])
    (at_a : s1.heap.get? a = some { cls := .type "list", data := .seq us.toArray }) (room : Room k callerA) (hx : mg x = some (.ref fl))
    (cal : ∀ B : Heap, K.In B → B.Ns mainGlobals mg → Callee P w K mg B k ⟨x, [], 1, none⟩ g) (res : g [.fls (ns.map D.int)] [] = .ok (.bl true) sr)
    (only : Only H) (sq : SqF K H a (ns.map V.int)) (hh : HOk P w H s1.heap) (hA : ∀ b, H b ≠ none → b = a) (hK : H a ≠ none → K.lookup a = none) :
    codeAny (model P w) callerA (.call (.ref fl) ⟨[.ref a], []⟩) (fun r s' => r = .ok (.ret (.bool true)) ∧ OldK s1.heap s'.heap ∧ s'.os = s1.os ∧ AllBare s'.gens) s1 := by
  have isA : ∀ {b : Addr} {u : HO}, H b = some u → b = a := fun {b u} z => hA b (by rw [z]; simp)
  have plain : ∀ {b : Addr} {o : Obj} {es : Array DictEntry} {ep : Nat}, s1.heap.get? b = some o → o.data = .dict es ep → H b = none := by
    intro b o es ep z zd
    cases hb : H b with
    | none => rfl
    | some u =>
      cases isA hb
      rw [at_a] at z
      cases z
      have : Data.seq us.toArray _ = Data.dict es ep := zd
      cases this
  have nsH : ∀ {b : Addr} {m : Str → Option Value}, s1.heap.Ns b m → (hidT s1.heap H).Ns b m := by
    rintro b m ⟨o, es, ep, z, zd, zr⟩
    exact ⟨o, es, ep, hidT_get z (plain z zd), zd, zr⟩
  have kinH : K.In (hidT s1.heap H) := by
    intro b o z
    refine hidT_get (kin b o z) ?_
    cases hb : H b with
    | none => rfl
    | some u =>
      cases isA hb
      rw [hK (by rw [hb]; simp)] at z
      cases z
  obtain ⟨mc, lim1, lim2⟩ := nol
  have e0 : Env0 P w K mg (hidT s1.heap H) callerA [] s1 H :=
    ⟨rfl, ⟨kinH, nsH gns, ⟨bm, nsH bns, boot⟩, ⟨mc, nsH lim1, lim2⟩⟩, fun b o z => of_hidT z, Nat.le_of_eq (hidT_size _ _), trivial, fun b z => (nomatch z), hh, .of_eq nog⟩
  obtain ⟨f, F, m2, kp⟩ := (cal _ kinH (nsH gns)).ex
  rw [hx] at m2
  cases m2
  have sp1 : spF K 1 g [.ref a] H (fun v _ => v = .bl true) E0 := by
    refine ⟨[], [], [.fls (ns.map D.int)], .bl true, sr, rfl, ⟨rfl, List.nodup_nil, fun i o b z => by simp at z⟩, .cons (.fls sq (reps_ints ns)) .nil, res, fun ρ' H' v _ _ r => ?_⟩
    cases r
    rfl
  refine codeAny_mono (F callerA [] s1 H [.ref a] [] [.ref a] [] _ room rfl e0 (.cons rfl .nil) .nil rfl sp1) fun r s' z => ?_
  match r, z with
  | .ok (.ret u), ⟨v, H', os, bare, un, ok', rv, (q : v = .bl true)⟩ =>
    subst q
    obtain rfl : u = Value.bool true := rv
    refine ⟨rfl, OldK.of_keep fun b o zb => ?_, os, bare⟩
    rcases only b with h0 | ⟨ob, xs, h0⟩
    · exact un.keep b o zb h0 (fun y => (nomatch y)) (by simp)
    · obtain ⟨p1, _⟩ := hh b _ h0
      obtain ⟨p2, _⟩ := ok' b _ (un.frzs b ob _ h0)
      rw [zb] at p1
      cases p1
      exact p2
/-- THE END -/
theorem walkG {l : PySem.W.OpenLaw} {n k : Nat} {q : Program} {loose : List Str} {XP : (Str → Option Value) → Heap → Prop} {YP : World → Heap → Prop} {d : DefRec} {KP : Params → PySem.W.Frag} (hn : l.most = some n) (small : n ≤ sizeLine) (hdf : d.params.defaults = []) (room : Room k callerA)
    (hY : ∀ (w : World) (h : Heap), YP w h → (KP w.params).In h)
    (F : ∀ (w : World) (mg : Str → Option Value) (h : Heap), (KP w.params).In h → h.Ns mainGlobals mg → ∃ g, (∀ B : Heap, (KP w.params).In B → B.Ns mainGlobals mg → Callee l.prog w (KP w.params) mg B k ⟨d.name, [], 1, none⟩ g) ∧
      ∀ ns : List Int, ns.length ≤ n → (∀ z ∈ ns, Builtin.Int.intBits z ≤ 1048576) → ∃ sr, g [.fls (ns.map D.int)] [] = .ok (.bl true) sr) :
    PySem.W.WalkO q loose XP YP l.row.toRowW d [] (fun f vs => PySem.call f vs) := by
  refine Att.attach_callB hn hdf fun w s0 s1 mg bm fl o pm cd doc a us ns G Y ho hd hcd hmg at_a hints hlen bits nog => ?_
  have kin := hY w _ Y
  obtain ⟨g, cal, res⟩ := F w mg _ kin G.T.g
  obtain ⟨sr, res⟩ := res ns hlen bits
  have lv := hints.length
  have sz : ns.length ≤ sizeLine := Nat.le_trans hlen small
  cases hk : (KP w.params).lookup a with
  | some o =>
    have z := kin a o hk
    rw [at_a] at z
    cases z
    exact end_core kin G.T.g G.T.b G.T.builtins G.T.nolimit nog at_a room hmg cal res (H := fun _ => none) (fun _ => .inl rfl) (.inr ⟨_, us.toArray, _, hk, rfl, rfl, rfl, by rw [List.size_toArray, lv]; exact sz, by simpa using vals_ints hints⟩)
      (fun b u y => by have y' : (none : Option HO) = some u := y; cases y') (fun b y => absurd rfl y) fun y => absurd rfl y
  | none =>
    refine end_core kin G.T.g G.T.b G.T.builtins G.T.nolimit nog at_a room hmg cal res (H := fun b => if b = a then some (.frz { cls := .type "list", data := .seq us.toArray } (.lst (ns.map V.int))) else none) (fun b => ?_) (.inl ⟨_, if_pos rfl⟩) (fun b u y => ?_) (fun b y => ?_) fun _ => hk
    · by_cases e : b = a
      · exact .inr ⟨_, _, if_pos e⟩
      · exact .inl (if_neg e)
    · by_cases e : b = a
      · cases (if_pos e).symm.trans y
        subst e
        exact ⟨at_a, by rw [List.length_map]; exact sz, us, _, vals_ints hints, at_a⟩
      · cases (if_neg e).symm.trans y
    · by_cases e : b = a
      · exact e
      · exact absurd (if_neg e) y
end W9

/-! W9v: tables of raw defs; reasoning about the interpreter -/
namespace W9
open PySem PySem.Spec PyProof.Rows L2
/-! ### raw tables -/
def Df.raw (d : Df) (t : Tab) (m : Mod) : List D → M D := callDef (t.cts m) d.N.length d.body
/-- defs, the last one first -/
def rawT (m : Mod) : List Df → Tab
  | [] => []
  | d :: ds => d.rows (d.raw (rawT m ds) m) ++ rawT m ds
def sigD : List Df → List (Str × Frm)
  | [] => []
  | d :: ds => d.sig ++ sigD ds
theorem sig_raw (m : Mod) : ∀ ds : List Df, (rawT m ds).sig = sigD ds
  | [] => rfl
  | d :: ds => by
    show Tab.sig (d.rows (d.raw (rawT m ds) m) ++ rawT m ds) = d.sig ++ sigD ds
    rw [← sig_raw m ds]
    simp only [Tab.sig, Df.rows, Df.sig, List.map_append, List.map_map]
    rfl
def chD (bs gs cs : List Str) (ds : List Df) (d : Df) : Bool := fsB d.N d.ps (defScope d.st) && chSs (stcOf d bs (sigD ds) gs cs) d.body (defBody d.st) && decide ((d.sig ++ sigD ds).map (·.1)).Nodup
def Alls (K : PySem.W.Frag) (bs gs cs : List Str) : List Df → Prop
  | [] => True
  | d :: ds => (DefIn K d ∧ chD bs gs cs ds d = true) ∧ Alls K bs gs cs ds
theorem raw_ok {P : Program} {w : World} {K : PySem.W.Frag} {mg : Str → Option Value} {base h : Heap} {bs gs cs : List Str} {m : Mod} (kin : K.In h) (G : h.Ns mainGlobals mg) (hbs : ∀ x ∈ bs, mg x = none) (hgs : GlsOk K mg gs m.gl) (hfl : FlsOk K m.fl) (hcs : ClsOk K mg cs) :
    ∀ {ds : List Df}, Alls K bs gs cs ds → TabOk P w K mg base (2 * ds.length) (rawT m ds)
  | [], _ => ⟨List.nodup_nil, fun _ h => nomatch h⟩
  | d :: ds, ⟨⟨h1, h3⟩, h4⟩ => by
    unfold chD at h3
    simp only [Bool.and_eq_true, decide_eq_true_eq] at h3
    exact tab_step (raw_ok kin G hbs hgs hfl hcs h4) hbs hgs hfl hcs h1 (fun x f z => PySem.W.mg_of kin G z) h3.1.1 (by rw [sig_raw]; exact h3.1.2) (by rw [sig_raw]; exact h3.2)
/-! ### classes -/
def AllN (K : PySem.W.Frag) (C : Addr) : List Str → Prop
  | [] => True
  | f :: fs => PySem.W.findIn K (.ref C) f = some none ∧ AllN K C fs
theorem AllN.mem {K : PySem.W.Frag} {C : Addr} : ∀ {fs : List Str}, AllN K C fs → ∀ f ∈ fs, NoAttr K C f
  | _ :: _, ⟨h1, h2⟩, f, hf => by
    rcases List.mem_cons.mp hf with e | e
    · rw [e]; exact h1
    · exact AllN.mem h2 f e
structure ClsF (K : PySem.W.Frag) (c : Str) (fs : List Str) : Prop where
  ex : ∃ C, ClsN K c C ∧ PySem.W.makesIn K C = true ∧ PySem.W.keepIn K (.ref C) = true ∧ ∀ f ∈ fs, NoAttr K C f
theorem clsF_mk {K : PySem.W.Frag} {c : Str} {fs : List Str} {C : Addr} (ns : PySem.W.nsIn K mainGlobals c = some (some (.ref C))) (pg : PySem.W.plainGet K C Str.empty = true) (hd : PySem.W.hasDictIn K C = true) (po : PySem.W.plainOver K C = true)
    (sa : PySem.W.findIn K (.ref C) "__setattr__" = some (some (.builtin "object.__setattr__"))) (mk : PySem.W.makesIn K C = true) (kp : PySem.W.keepIn K (.ref C) = true) (nf : AllN K C fs) : ClsF K c fs := ⟨C, ⟨ns, pg, hd, po, sa⟩, mk, kp, nf.mem⟩
theorem clsN_mk {K : PySem.W.Frag} {c : Str} {C : Addr} (ns : PySem.W.nsIn K mainGlobals c = some (some (.ref C))) (pg : PySem.W.plainGet K C Str.empty = true) (hd : PySem.W.hasDictIn K C = true) (po : PySem.W.plainOver K C = true)
    (sa : PySem.W.findIn K (.ref C) "__setattr__" = some (some (.builtin "object.__setattr__"))) : ClsN K c C := ⟨ns, pg, hd, po, sa⟩
def AllC (K : PySem.W.Frag) : List (Str × List Str) → Prop
  | [] => True
  | p :: r => ClsF K p.1 p.2 ∧ AllC K r
theorem AllC.mem {K : PySem.W.Frag} : ∀ {l : List (Str × List Str)}, AllC K l → ∀ p ∈ l, ClsF K p.1 p.2
  | _ :: _, ⟨h1, h2⟩, p, hp => by
    rcases List.mem_cons.mp hp with e | e
    · rw [e]; exact h1
    · exact AllC.mem h2 p e
def flOf (l : List (Str × List Str)) (c f : Str) : Bool := l.any fun p => decide (p.1 = c) && p.2.contains f
theorem flOf_ok {K : PySem.W.Frag} {l : List (Str × List Str)} (h : AllC K l) : FlsOk K (flOf l) := by
  intro f c C hf cn
  unfold flOf at hf
  rw [List.any_eq_true] at hf
  obtain ⟨p, hp, hq⟩ := hf
  simp only [Bool.and_eq_true, decide_eq_true_eq, List.contains_eq_mem] at hq
  obtain ⟨D, c1, _, _, c4⟩ := (h.mem p hp).ex
  rw [hq.1] at c1
  have e := cn.uniq c1
  subst e
  exact c4 f hq.2
theorem clsOk_of {K : PySem.W.Frag} {mg : Str → Option Value} {h : Heap} {l : List (Str × List Str)} (kin : K.In h) (G : h.Ns mainGlobals mg) (a : AllC K l) : ClsOk K mg (l.map (·.1)) := by
  intro c hc
  obtain ⟨p, hp, rfl⟩ := List.mem_map.mp hc
  obtain ⟨D, c1, c2, c3, _⟩ := (a.mem p hp).ex
  exact ⟨D, c1, c2, c3, PySem.W.mg_of kin G c1.ns⟩
/-- THE END for raw tables: the last def is the law -/
theorem walkR {l : PySem.W.OpenLaw} {n : Nat} {q : Program} {loose : List Str} {XP : (Str → Option Value) → Heap → Prop} {YP : World → Heap → Prop} {d : DefRec} {KP : Params → PySem.W.Frag} (hn : l.most = some n) (small : n ≤ sizeLine) (hdf : d.params.defaults = [])
    (hY : ∀ (w : World) (h : Heap), YP w h → (KP w.params).In h) {bs gs : List Str} {cl : List (Str × List Str)} {gl : Str → Option D} {e : Df} {ds : List Df} (room : Room (2 * (ds.length + 1)) callerA) (hname : e.name = d.name) (hcl : e.cls = none) (hps : e.ents = [⟨e.name, [], 1, fun xs => xs⟩])
    (F : ∀ (w : World), Alls (KP w.params) bs gs (cl.map (·.1)) (e :: ds) ∧ (∀ x ∈ bs, PySem.W.nsIn (KP w.params) mainGlobals x = some none) ∧ AllC (KP w.params) cl ∧ ∀ (mg : Str → Option Value) (h : Heap), (KP w.params).In h → h.Ns mainGlobals mg → GlsOk (KP w.params) mg gs gl)
    (res : ∀ ns : List Int, ns.length ≤ n → (∀ z ∈ ns, Builtin.Int.intBits z ≤ 1048576) → ∃ sr, e.raw (rawT ⟨gl, flOf cl⟩ ds) ⟨gl, flOf cl⟩ [.fls (ns.map D.int)] [] = .ok (.bl true) sr) :
    PySem.W.WalkO q loose XP YP l.row.toRowW d [] (fun f vs => PySem.call f vs) := by
  refine walkG hn small hdf room hY fun w mg h kin G => ⟨e.raw (rawT ⟨gl, flOf cl⟩ ds) ⟨gl, flOf cl⟩, fun B kB GB => ?_, res⟩
  obtain ⟨h1, h2, h4, h3⟩ := F w
  have t := raw_ok (P := l.prog) (w := w) (base := B) (m := ⟨gl, flOf cl⟩) kB GB (fun x hx => PySem.W.mg_none_of kB GB (h2 x hx)) (h3 mg B kB GB) (flOf_ok h4) (clsOk_of kB GB h4) h1
  have hm : ((e.name, ⟨e.name, [], 1, none⟩, e.raw (rawT ⟨gl, flOf cl⟩ ds) ⟨gl, flOf cl⟩) : Str × Frm × (List D → M D)) ∈ rawT ⟨gl, flOf cl⟩ (e :: ds) := by
    refine List.mem_append_left _ ?_
    unfold Df.rows
    rw [hps, hcl]
    exact List.mem_cons_self
  have c := t.2 _ hm
  have c' : Callee l.prog w (KP w.params) mg B (2 * (ds.length + 1)) ⟨e.name, [], 1, none⟩ (e.raw (rawT ⟨gl, flOf cl⟩ ds) ⟨gl, flOf cl⟩) := c
  rw [hname] at c'
  exact c'
theorem gls_nil {K : PySem.W.Frag} {mg : Str → Option Value} {gl : Str → Option D} : GlsOk K mg [] gl := fun x hx => nomatch hx
/-! ### wp -/
def wp {α : Type} (m : M α) (Q : α → Store → Prop) (st : Store) : Prop := ∃ a s, m st = .ok a s ∧ Q a s
section
variable {α β : Type} {st : Store}
theorem wp_mono {m : M α} {Q Q' : α → Store → Prop} (h : wp m Q st) (k : ∀ a s, Q a s → Q' a s) : wp m Q' st := let ⟨a, s, e, q⟩ := h; ⟨a, s, e, k a s q⟩
theorem wp_ok {a : α} {s : Store} {Q : α → Store → Prop} {m : M α} (e : m st = .ok a s) : wp m Q st ↔ Q a s := by
  constructor
  · rintro ⟨a', s', e', q⟩
    rw [e] at e'
    cases e'
    exact q
  · exact fun q => ⟨a, s, e, q⟩
theorem wp_ret {f : Store → α} {g : Store → Store} {Q : α → Store → Prop} : wp (fun st => R.ok (f st) (g st)) Q st ↔ Q (f st) (g st) := wp_ok rfl
theorem wp_rt {a : α} {Q : α → Store → Prop} : wp (R.ok a) Q st ↔ Q a st := wp_ok rfl
theorem wp_no {Q : α → Store → Prop} : wp (fun _ => (R.no : R α)) Q st ↔ False := ⟨fun ⟨_, _, e, _⟩ => (nomatch e), False.elim⟩
theorem wp_bind {m : M α} {k : α → M β} {Q : β → Store → Prop} : wp (M.bind m k) Q st ↔ wp m (fun a s => wp (k a) Q s) st := by
  constructor
  · rintro ⟨b, s, e, q⟩
    obtain ⟨a, s1, e1, e2⟩ := bind_ok e
    exact ⟨a, s1, e1, b, s, e2, q⟩
  · rintro ⟨a, s1, e1, b, s, e2, q⟩
    refine ⟨b, s, ?_, q⟩
    show (M.bind m k) st = _
    unfold M.bind
    rw [e1]
    exact e2
theorem wp_ite {c : Prop} [Decidable c] {a b : M α} {Q : α → Store → Prop} : wp (if c then a else b) Q st ↔ (if c then wp a Q st else wp b Q st) := by
  split <;> exact Iff.rfl
theorem wp_gd {c : Store → Prop} [∀ s, Decidable (c s)] {f : Store → α} {g : Store → Store} {Q : α → Store → Prop} : wp (fun st => if c st then R.ok (f st) (g st) else R.no) Q st ↔ c st ∧ Q (f st) (g st) := by
  unfold wp
  by_cases h : c st
  · simp only [if_pos h]
    exact ⟨fun ⟨a, s, e, q⟩ => by cases e; exact ⟨h, q⟩, fun ⟨_, q⟩ => ⟨_, _, rfl, q⟩⟩
  · simp only [if_neg h]
    exact ⟨fun ⟨a, s, e, q⟩ => (nomatch e), fun ⟨z, _⟩ => absurd z h⟩
theorem wp_eq {m : M α} {a : α} {s : Store} : wp m (fun b t => b = a ∧ t = s) st ↔ m st = .ok a s := by
  constructor
  · rintro ⟨b, t, e, h1, h2⟩
    subst h1 h2
    exact e
  · exact fun e => ⟨a, s, e, rfl, rfl⟩
end
/-- the end of a def -/
def endQ (Q : D → Store → Prop) : Fl → Store → Prop
  | .ret d, s => Q d s
  | .nx _, s => Q .non s
  | _, _ => False
theorem wp_callDef {C : Cts} {n : Nat} {body : Sms} {ds : List D} {Q : D → Store → Prop} {st : Store} : wp (callDef C n body ds) Q st ↔ wp (runs C body (ds.map some ++ List.replicate (n - ds.length) none)) (endQ Q) st := by
  unfold callDef
  rw [wp_bind]
  unfold wp
  constructor
  · rintro ⟨fl, s, e, b, s2, e2, q⟩
    refine ⟨fl, s, e, ?_⟩
    cases fl with
    | ret d => cases e2; exact q
    | nx _ => cases e2; exact q
    | bk _ => cases e2
    | ct _ => cases e2
  · rintro ⟨fl, s, e, q⟩
    refine ⟨fl, s, e, ?_⟩
    cases fl with
    | ret d => exact ⟨d, s, rfl, q⟩
    | nx _ => exact ⟨.non, s, rfl, q⟩
    | bk _ => exact q.elim
    | ct _ => exact q.elim
/-- after a statement -/
def seqQ (C : Cts) (r : Sms) (Q : Fl → Store → Prop) : Fl → Store → Prop
  | .nx e, s => wp (runs C r e) Q s
  | fl, s => Q fl s
theorem seqQ_nx {C : Cts} {r : Sms} {Q : Fl → Store → Prop} {e : Env} {s : Store} : seqQ C r Q (.nx e) s = wp (runs C r e) Q s := rfl
theorem seqQ_ret {C : Cts} {r : Sms} {Q : Fl → Store → Prop} {d : D} {s : Store} : seqQ C r Q (.ret d) s = Q (.ret d) s := rfl
theorem seqQ_bk {C : Cts} {r : Sms} {Q : Fl → Store → Prop} {e : Env} {s : Store} : seqQ C r Q (.bk e) s = Q (.bk e) s := rfl
theorem seqQ_ct {C : Cts} {r : Sms} {Q : Fl → Store → Prop} {e : Env} {s : Store} : seqQ C r Q (.ct e) s = Q (.ct e) s := rfl
theorem endQ_ret {Q : D → Store → Prop} {d : D} {s : Store} : endQ Q (.ret d) s = Q d s := rfl
theorem endQ_nx {Q : D → Store → Prop} {e : Env} {s : Store} : endQ Q (.nx e) s = Q .non s := rfl
theorem wp_cons {C : Cts} {c : Sm} {r : Sms} {env : Env} {Q : Fl → Store → Prop} {st : Store} : wp (runs C (.cons c r) env) Q st ↔ wp (run C c env) (seqQ C r Q) st := by
  unfold runs
  rw [wp_bind]
  constructor
  · exact fun h => wp_mono h fun fl s q => by
      cases fl with
      | nx e => exact q
      | ret d => exact wp_ret.mp q
      | bk e => exact wp_ret.mp q
      | ct e => exact wp_ret.mp q
  · exact fun h => wp_mono h fun fl s q => by
      cases fl with
      | nx e => exact q
      | ret d => exact wp_ret.mpr q
      | bk e => exact wp_ret.mpr q
      | ct e => exact wp_ret.mpr q
theorem wp_nil {C : Cts} {env : Env} {Q : Fl → Store → Prop} {st : Store} : wp (runs C .nil env) Q st ↔ Q (.nx env) st := by unfold runs; exact wp_ret
section
variable {C : Cts} {env : Env} {Q : Fl → Store → Prop} {QD : D → Store → Prop} {QB : Bool → Store → Prop} {QL : List D → Store → Prop} {st : Store}
theorem wp_asg {i : Nat} {e : Ex} : wp (run C (.asg i e) env) Q st ↔ wp ((bo C e).1 env) (fun d s => Q (.nx (env.set i (some d))) s) st := by
  unfold run; rw [wp_bind]; simp only [wp_rt]
theorem wp_expr {e : Ex} : wp (run C (.expr e) env) Q st ↔ wp ((bo C e).1 env) (fun _ s => Q (.nx env) s) st := by
  unfold run; rw [wp_bind]; simp only [wp_rt]
theorem wp_retS {e : Ex} : wp (run C (.ret e) env) Q st ↔ wp ((bo C e).1 env) (fun d s => Q (.ret d) s) st := by
  unfold run; rw [wp_bind]; simp only [wp_rt]
theorem wp_retN : wp (run C .retN env) Q st ↔ Q (.ret .non) st := by unfold run; exact wp_ret
theorem wp_iteS {c : Ex} {a b : Sms} : wp (run C (.ite c a b) env) Q st ↔ wp ((bo C c).2 env) (fun r s => if r = true then wp (runs C a env) Q s else wp (runs C b env) Q s) st := by
  unfold run; rw [wp_bind]; simp only [wp_ite]
theorem wp_pass : wp (run C .pass env) Q st ↔ Q (.nx env) st := by unfold run; exact wp_ret
theorem wp_brk : wp (run C .brk env) Q st ↔ Q (.bk env) st := by unfold run; exact wp_ret
theorem wp_cont : wp (run C .cont env) Q st ↔ Q (.ct env) st := by unfold run; exact wp_ret
theorem wp_for {src : Src} {tg : Tg} {body : Sms} : wp (run C (.forS src tg body) env) Q st ↔ wp (srcE C src env) (fun p s => wp (loopF p.2 (forF tg (runs C body)) p.1 env) Q s) st := by
  unfold run; rw [wp_bind]
theorem wp_asgT {is : List Nat} {e : Ex} : wp (run C (.asgT is e) env) Q st ↔ wp ((bo C e).1 env) (fun d s => ∃ env1, bindT (.tup is) d env s = some env1 ∧ Q (.nx env1) s) st := by
  unfold run
  rw [wp_bind]
  constructor
  · exact fun h => wp_mono h fun d s ⟨fl, s2, e, q⟩ => by
      dsimp only at e
      split at e
      · rename_i env1 h1
        cases e
        exact ⟨env1, h1, q⟩
      · cases e
  · exact fun h => wp_mono h fun d s ⟨env1, h1, q⟩ => ⟨.nx env1, s, by simp only [h1], q⟩
theorem wp_setIx {o i e : Ex} : wp (run C (.setIx o i e) env) Q st ↔ wp ((bo C e).1 env) (fun d s => wp ((bo C o).1 env) (fun x s => wp ((bo C i).1 env) (fun y s => wp (setD x y d) (fun _ s => Q (.nx env) s) s) s) s) st := by
  unfold run; simp only [wp_bind, wp_ret, wp_rt]
theorem wp_augS {i : Nat} {op : Operator} {e : Ex} {x : D} (h : env[i]? = some (some x)) : wp (run C (.aug i op e) env) Q st ↔ wp ((bo C e).1 env) (fun y s => wp (augD op x y) (fun z s => Q (.nx (env.set i (some z))) s) s) st := by
  have : run C (.aug i op e) env = M.bind (ev C e env) (fun y => M.bind (augD op x y) fun z st => R.ok (Fl.nx (env.set i (some z))) st) := by
    funext st
    simp only [run, h]
  rw [this]
  simp only [wp_bind, wp_ret, wp_rt]
/-! expressions -/
theorem wp_var {i : Nat} {d : D} (h : env[i]? = some (some d)) : wp ((bo C (.var i)).1 env) QD st ↔ QD d st := by
  unfold bo
  exact wp_ok (by simp only [h])
theorem wp_cst {d : D} : wp ((bo C (.cst d)).1 env) QD st ↔ QD d st := by unfold bo; exact wp_ret
theorem wp_bin {op : Operator} {a b : Ex} : wp ((bo C (.bin op a b)).1 env) QD st ↔ wp ((bo C a).1 env) (fun x s => wp ((bo C b).1 env) (fun y s => wp (binD op x y) QD s) s) st := by
  conv => lhs; unfold bo
  simp only [wp_bind]
theorem wp_cmp {op : CmpOp} {a b : Ex} : wp ((bo C (.cmp op a b)).1 env) QD st ↔ wp ((bo C a).1 env) (fun x s => wp ((bo C b).1 env) (fun y s => wp (cmpD op x y) QD s) s) st := by
  conv => lhs; unfold bo
  simp only [wp_bind]
def blQ (QB : Bool → Store → Prop) : D → Store → Prop
  | .bl b, s => QB b s
  | _, _ => False
theorem blQ_bl {QB : Bool → Store → Prop} {b : Bool} {s : Store} : blQ QB (.bl b) s = QB b s := rfl
theorem wp_blQ {m : M D} : wp (M.bind m fun x => match x with | .bl b => fun st => .ok b st | _ => fun _ => .no) QB st ↔ wp m (blQ QB) st := by
  rw [wp_bind]
  constructor
  · exact fun h => wp_mono h fun d s q => by cases d <;> first | exact wp_ret.mp q | exact wp_no.mp q
  · exact fun h => wp_mono h fun d s q => by cases d <;> first | exact wp_ret.mpr q | exact q.elim
theorem wp_cmpT {op : CmpOp} {a b : Ex} : wp ((bo C (.cmp op a b)).2 env) QB st ↔ wp ((bo C (.cmp op a b)).1 env) (blQ QB) st := by
  unfold bo; exact wp_blQ
theorem wp_chainT {o1 o2 : CmpOp} {a b c : Ex} : wp ((bo C (.chain o1 o2 a b c)).2 env) QB st ↔ wp ((bo C (.chain o1 o2 a b c)).1 env) (blQ QB) st := by
  unfold bo; exact wp_blQ
theorem wp_andT {a b : Ex} : wp ((bo C (.and a b)).2 env) QB st ↔ wp ((bo C a).2 env) (fun r s => if r = true then wp ((bo C b).2 env) QB s else QB false s) st := by
  conv => lhs; unfold bo
  simp only [wp_bind, wp_ite, wp_rt]
theorem wp_orT {a b : Ex} : wp ((bo C (.or a b)).2 env) QB st ↔ wp ((bo C a).2 env) (fun r s => if r = true then QB true s else wp ((bo C b).2 env) QB s) st := by
  conv => lhs; unfold bo
  simp only [wp_bind, wp_ite, wp_rt]
theorem wp_notT {a : Ex} : wp ((bo C (.not a)).2 env) QB st ↔ wp ((bo C a).2 env) (fun r s => QB (!r) s) st := by
  conv => lhs; unfold bo
  simp only [wp_bind, wp_ret, wp_rt]
theorem wp_iteE {c a b : Ex} : wp ((bo C (.ite c a b)).1 env) QD st ↔ wp ((bo C c).2 env) (fun r s => if r = true then wp ((bo C a).1 env) QD s else wp ((bo C b).1 env) QD s) st := by
  conv => lhs; unfold bo
  simp only [wp_bind, wp_ite]
theorem wp_idx {a i : Ex} : wp ((bo C (.idx a i)).1 env) QD st ↔ wp ((bo C a).1 env) (fun x s => wp ((bo C i).1 env) (fun y s => wp (ixD x y) QD s) s) st := by
  conv => lhs; unfold bo
  simp only [wp_bind]
theorem wp_sl {a : Ex} {lo hi : Exo} : wp ((bo C (.sl a lo hi)).1 env) QD st ↔ wp ((bo C a).1 env) (fun x s => wp (evo C lo env) (fun l s => wp (evo C hi env) (fun h s => wp (slD x l h) QD s) s) s) st := by
  conv => lhs; unfold bo
  simp only [wp_bind]
theorem wp_call {f : Str} {es : Exs} : wp ((bo C (.call f es)).1 env) QD st ↔ wp (evs C es env) (fun ds s => wp (C.fn f ds) QD s) st := by
  conv => lhs; unfold bo
  simp only [wp_bind]
theorem wp_bi {f : Bi} {es : Exs} : wp ((bo C (.bi f es)).1 env) QD st ↔ wp (evs C es env) (fun ds s => wp (biD f ds) QD s) st := by
  conv => lhs; unfold bo
  simp only [wp_bind]
theorem wp_tup {es : Exs} : wp ((bo C (.tup es)).1 env) QD st ↔ wp (evs C es env) (fun ds s => ds.length ≤ bigN ∧ QD (.tup ds) s) st := by
  conv => lhs; unfold bo
  simp only [wp_bind, wp_gd]
theorem wp_lst {es : Exs} : wp ((bo C (.lst es)).1 env) QD st ↔ wp (evs C es env) (fun ds s => ds.length ≤ bigN ∧ QD (.ob s.length) (s ++ [.lst ds])) st := by
  conv => lhs; unfold bo
  simp only [wp_bind, wp_gd]
theorem wp_dict0 : wp ((bo C .dict0).1 env) QD st ↔ QD (.ob st.length) (st ++ [.dct []]) := by
  unfold bo; exact wp_ret
theorem wp_meth {m : Me} {o : Ex} {es : Exs} : wp ((bo C (.meth m o es)).1 env) QD st ↔ wp ((bo C o).1 env) (fun x s => ∃ T, tyD s x = some T ∧ wp (evs C es env) (fun ds s => wp (meD m T x ds) QD s) s) st := by
  conv => lhs; unfold bo
  rw [wp_bind]
  constructor
  · exact fun h => wp_mono h fun x s ⟨d, s2, e, q⟩ => by
      dsimp only at e
      split at e
      · rename_i T hT
        exact ⟨T, hT, wp_bind.mp ⟨d, s2, e, q⟩⟩
      · cases e
  · exact fun h => wp_mono h fun x s ⟨T, hT, q⟩ => by
      obtain ⟨d, s2, e, q⟩ := wp_bind.mpr q
      exact ⟨d, s2, by simp only [hT]; exact e, q⟩
theorem wp_lc {own : List Nat} {src : Src} {tg : Tg} {c : Exo} {e : Ex} : wp ((bo C (.lc own src tg c e)).1 env) QD st ↔ wp (srcE C src env) (fun p s => wp (loopC p.2 (compF tg own env (tsto C c) (bo C e).1) p.1) (fun ds s => ds.length ≤ bigN ∧ QD (.ob s.length) (s ++ [.lst ds])) s) st := by
  conv => lhs; unfold bo
  simp only [wp_bind, wp_gd]
theorem wp_evs_nil : wp (evs C .nil env) QL st ↔ QL [] st := by unfold evs; exact wp_ret
theorem wp_evs_cons {e : Ex} {es : Exs} : wp (evs C (.cons e es) env) QL st ↔ wp ((bo C e).1 env) (fun d s => wp (evs C es env) (fun ds s => QL (d :: ds) s) s) st := by
  conv => lhs; unfold evs
  simp only [wp_bind, wp_ret, wp_rt]
theorem wp_evo_none {QO : Option Int → Store → Prop} : wp (evo C .none env) QO st ↔ QO none st := by unfold evo; exact wp_ret
def inQ (QO : Option Int → Store → Prop) : D → Store → Prop
  | .int i, s => QO (some i) s
  | _, _ => False
theorem inQ_int {QO : Option Int → Store → Prop} {i : Int} {s : Store} : inQ QO (.int i) s = QO (some i) s := rfl
theorem wp_evo_some {e : Ex} {QO : Option Int → Store → Prop} : wp (evo C (.some e) env) QO st ↔ wp ((bo C e).1 env) (inQ QO) st := by
  unfold evo
  rw [wp_bind]
  constructor
  · exact fun h => wp_mono h fun d s q => by cases d <;> first | exact wp_ret.mp q | exact wp_no.mp q
  · exact fun h => wp_mono h fun d s q => by cases d <;> first | exact wp_ret.mpr q | exact q.elim
abbrev SI := List D × List (Nat × List D)
theorem wp_seq {e : Ex} {QS : SI → Store → Prop} : wp (srcE C (.seq e) env) QS st ↔ wp ((bo C e).1 env) (fun x s => wp (seqS x) QS s) st := by
  unfold srcE; rw [wp_bind]
theorem wp_enum {e : Ex} {QS : SI → Store → Prop} : wp (srcE C (.enum e) env) QS st ↔ wp ((bo C e).1 env) (fun x s => wp (enumS x) QS s) st := by
  unfold srcE; rw [wp_bind]
def rgQ (QS : SI → Store → Prop) : D → Store → Prop
  | .int n, s => rngOk n = true ∧ QS (rngI 0 n, []) s
  | _, _ => False
theorem rgQ_int {QS : SI → Store → Prop} {n : Int} {s : Store} : rgQ QS (.int n) s = (rngOk n = true ∧ QS (rngI 0 n, []) s) := rfl
theorem wp_rng1 {a : Ex} {QS : SI → Store → Prop} : wp (srcE C (.rng1 a) env) QS st ↔ wp ((bo C a).1 env) (rgQ QS) st := by
  unfold srcE
  rw [wp_bind]
  constructor
  · exact fun h => wp_mono h fun d s q => by cases d <;> first | exact wp_gd.mp q | exact wp_no.mp q
  · exact fun h => wp_mono h fun d s q => by cases d <;> first | exact wp_gd.mpr q | exact q.elim
def rg2Q (QS : SI → Store → Prop) : D → D → Store → Prop
  | .int l, .int h, s => (rngOk l = true ∧ rngOk h = true) ∧ QS (rngI l h, []) s
  | _, _, _ => False
theorem rg2Q_int {QS : SI → Store → Prop} {l h : Int} {s : Store} : rg2Q QS (.int l) (.int h) s = ((rngOk l = true ∧ rngOk h = true) ∧ QS (rngI l h, []) s) := rfl
theorem wp_rng2 {a b : Ex} {QS : SI → Store → Prop} : wp (srcE C (.rng2 a b) env) QS st ↔ wp ((bo C a).1 env) (fun x s => wp ((bo C b).1 env) (fun y s => rg2Q QS x y s) s) st := by
  unfold srcE
  simp only [wp_bind]
  constructor
  · exact fun h => wp_mono h fun x s q => wp_mono q fun y s q => by cases x <;> cases y <;> first | exact wp_gd.mp q | exact wp_no.mp q
  · exact fun h => wp_mono h fun x s q => wp_mono q fun y s q => by cases x <;> cases y <;> first | exact wp_gd.mpr q | exact q.elim
end
/-- the truth of a value -/
theorem wp_plainT {C : Cts} {e : Ex} {env : Env} {QB : Bool → Store → Prop} {st : Store} (h : (bo C e).2 = fun env => M.bind ((bo C e).1 env) fun x => truthD x) : wp ((bo C e).2 env) QB st ↔ wp ((bo C e).1 env) (fun x s => wp (truthD x) QB s) st := by
  rw [h]; exact wp_bind
/-! loops -/
theorem wp_loopF {gd : List (Nat × List D)} {f : D → Env → M Fl} {Q : Fl → Store → Prop} (I : List D → Env → Store → Prop) (hg : ∀ r e s, I r e s → gdOk s gd = true) (hz : ∀ e s, I [] e s → Q (.nx e) s)
    (hs : ∀ d r e s, I (d :: r) e s → wp (f d e) (fun fl s1 => match fl with | .nx e1 => I r e1 s1 | .ct e1 => I r e1 s1 | .bk e1 => Q (.nx e1) s1 | .ret v => Q (.ret v) s1) s) :
    ∀ (l : List D) (env : Env) (st : Store), I l env st → wp (loopF gd f l env) Q st
  | [], env, st, h => by
    unfold loopF
    exact ⟨.nx env, st, if_pos (hg _ _ _ h), hz _ _ h⟩
  | d :: r, env, st, h => by
    obtain ⟨fl, s1, e, q⟩ := hs d r env st h
    have hgd := hg _ _ _ h
    cases fl with
    | nx e1 =>
      obtain ⟨a, s2, e2, q2⟩ := wp_loopF I hg hz hs r e1 s1 q
      exact ⟨a, s2, by simp only [loopF, hgd, if_true, e]; exact e2, q2⟩
    | ct e1 =>
      obtain ⟨a, s2, e2, q2⟩ := wp_loopF I hg hz hs r e1 s1 q
      exact ⟨a, s2, by simp only [loopF, hgd, if_true, e]; exact e2, q2⟩
    | bk e1 => exact ⟨.nx e1, s1, by simp only [loopF, hgd, if_true, e], q⟩
    | ret v => exact ⟨.ret v, s1, by simp only [loopF, hgd, if_true, e], q⟩
theorem gd_mono {st s : Store} : ∀ {gd : List (Nat × List D)}, gdOk st gd = true → st <+: s → gdOk s gd = true
  | [], _, _ => rfl
  | (j, xs) :: r, hg, p => by
    simp only [gdOk, Bool.and_eq_true, decide_eq_true_eq] at hg ⊢
    refine ⟨?_, gd_mono hg.2 p⟩
    obtain ⟨t, rfl⟩ := p
    rw [List.getElem?_append_left (List.getElem?_eq_some_iff.mp hg.1).1]; exact hg.1
/-- a comprehension whose turns only add to the store -/
theorem wp_loopC {gd : List (Nat × List D)} {f : D → M (Option D)} {F : D → Option D} {st : Store} (hg : gdOk st gd = true) :
    ∀ (l : List D) (s : Store), st <+: s → (∀ d ∈ l, ∀ s, st <+: s → wp (f d) (fun o s1 => o = F d ∧ s <+: s1) s) → wp (loopC gd f l) (fun ds s1 => ds = l.filterMap F ∧ s <+: s1) s
  | [], s, p, h => by
    have : gdOk s gd = true := gd_mono hg p
    exact ⟨[], s, by simp only [loopC, this, if_true], rfl, List.prefix_refl _⟩
  | d :: r, s, p, h => by
    have hgs : gdOk s gd = true := gd_mono hg p
    obtain ⟨o, s1, e1, rfl, p1⟩ := h d List.mem_cons_self s p
    obtain ⟨ds, s2, e2, rfl, p2⟩ := wp_loopC hg r s1 (p.trans p1) fun d hd => h d (List.mem_cons_of_mem _ hd)
    refine ⟨(F d).toList ++ r.filterMap F, s2, by simp only [loopC, hgs, if_true, e1, e2], ?_, p1.trans p2⟩
    cases hF : F d <;> simp [List.filterMap_cons, hF]
theorem wp_compF {t : Tg} {own : List Nat} {env : Env} {mt : Env → M Bool} {me : Env → M D} {d : D} {st : Store} {QO : Option D → Store → Prop} {env1 : Env} (hb : bindT t d (wipeE env own) st = some env1) :
    wp (compF t own env mt me d) QO st ↔ wp (mt env1) (fun r s => if r = true then wp (me env1) (fun x s => QO (some x) s) s else QO none s) st := by
  unfold wp compF
  simp only [hb]
  constructor
  · rintro ⟨o, s, e, q⟩
    split at e
    · rename_i s1 e1
      refine ⟨true, s1, e1, ?_⟩
      rw [if_pos rfl]
      split at e
      · rename_i x s2 e2
        cases e
        exact ⟨x, _, e2, q⟩
      · cases e
      · cases e
    · rename_i s1 e1
      cases e
      exact ⟨false, _, e1, by rw [if_neg (by decide)]; exact q⟩
    · cases e
    · cases e
  · rintro ⟨r, s1, e1, h⟩
    cases r with
    | true =>
      rw [if_pos rfl] at h
      obtain ⟨x, s2, e2, q⟩ := h
      exact ⟨some x, s2, by rw [e1]; simp only [e2], q⟩
    | false =>
      rw [if_neg (by decide)] at h
      exact ⟨none, s1, by rw [e1], h⟩
theorem wp_forF {t : Tg} {mb : Env → M Fl} {d : D} {env env1 : Env} {st : Store} {Q : Fl → Store → Prop} (hb : bindT t d env st = some env1) : wp (forF t mb d env) Q st ↔ wp (mb env1) Q st := by
  unfold wp forF
  simp only [hb]
end W9

/-! W9w: small words for the ends -/
namespace W9
open PySem PySem.Spec PyProof.Rows L2
def AllB (K : PySem.W.Frag) : List Str → Prop
  | [] => True
  | x :: r => PySem.W.nsIn K mainGlobals x = some none ∧ AllB K r
theorem forall_bs {K : PySem.W.Frag} : ∀ {bs : List Str}, AllB K bs → ∀ x ∈ bs, PySem.W.nsIn K mainGlobals x = some none
  | y :: r, ⟨h1, h2⟩, x, hx => by
    rcases List.mem_cons.mp hx with e | e
    · rw [e]; exact h1
    · exact forall_bs h2 x e
/-- a number of the module -/
theorem gls_int {K : PySem.W.Frag} {mg : Str → Option Value} {h : Heap} {gs : List Str} {gl : Str → Option D} {x : Str} {i : Int} {t : Nat} (kin : K.In h) (G : h.Ns mainGlobals mg) (hx : PySem.W.nsIn K mainGlobals x = some (some (.int i t))) (hg : gl x = some (.int i)) (r : GlsOk K mg gs gl) : GlsOk K mg (x :: gs) gl := by
  intro y hy
  rcases List.mem_cons.mp hy with e | e
  · subst e
    exact ⟨_, _, .int i, hg, PySem.W.mg_of kin G hx, ⟨_, rfl⟩, fun _ _ => .int i⟩
  · exact r y e
end W9

/-! W9x: reading the interpreter by simp -/
namespace W9
open PySem L2
def varQ (o : Option (Option D)) (Q : D → Store → Prop) (s : Store) : Prop := match o with
  | some (some d) => Q d s
  | _ => False
theorem varQ_some {d : D} {Q : D → Store → Prop} {s : Store} : varQ (some (some d)) Q s = Q d s := rfl
section
variable {C : Cts} {env : Env} {Q : Fl → Store → Prop} {QD : D → Store → Prop} {QB : Bool → Store → Prop} {QL : List D → Store → Prop} {QS : SI → Store → Prop} {st : Store}
theorem wp_varX {i : Nat} : wp ((bo C (.var i)).1 env) QD st ↔ varQ env[i]? QD st := by
  unfold bo
  unfold wp varQ
  constructor
  · rintro ⟨a, s, e, q⟩
    dsimp only at e
    split at e
    · rename_i h; cases e; first | exact q | (rw [h]; exact q)
    · cases e
  · intro h
    split at h
    · rename_i d hd; exact ⟨d, st, by dsimp only; rw [hd], h⟩
    · exact h.elim
theorem wp_augX {i : Nat} {op : Operator} {e : Ex} : wp (run C (.aug i op e) env) Q st ↔ varQ env[i]? (fun x s => wp ((bo C e).1 env) (fun y s => wp (augD op x y) (fun z s => Q (.nx (env.set i (some z))) s) s) s) st := by
  cases h : env[i]? with
  | none =>
    constructor
    · rintro ⟨a, s, e1, q⟩
      simp only [run, h] at e1
      cases e1
    · exact fun z => z.elim
  | some o =>
    cases o with
    | none =>
      constructor
      · rintro ⟨a, s, e1, q⟩
        simp only [run, h] at e1
        cases e1
      · exact fun z => z.elim
    | some x => exact wp_augS h
theorem wp_callK {tag f : Str} {ks : List Str} {es kes : Exs} : wp ((bo C (.callK tag f ks es kes)).1 env) QD st ↔ wp (evs C es env) (fun ds s => wp (evs C kes env) (fun zs s => wp (C.fn tag (ds ++ zs)) QD s) s) st := by
  conv => lhs; unfold bo
  simp only [wp_bind]
theorem wp_call0 {f : Str} : wp ((bo C (.call0 f)).1 env) QD st ↔ wp (C.fn f []) QD st := by
  conv => lhs; unfold bo
theorem wp_globX {x : Str} : wp ((bo C (.glob x)).1 env) QD st ↔ varQ (some (C.gl x)) QD st := by
  unfold bo
  unfold wp varQ
  cases h : C.gl x with
  | none =>
    constructor
    · rintro ⟨a, s, e, q⟩
      simp only [h] at e
      cases e
    · exact fun z => z.elim
  | some d =>
    constructor
    · rintro ⟨a, s, e, q⟩
      simp only [h] at e
      cases e
      exact q
    · exact fun q => ⟨d, st, by simp only [h], q⟩
theorem wp_dictX {ks : List Str} {es : Exs} : wp ((bo C (.dict ks es)).1 env) QD st ↔ wp (evs C es env) (fun ds s => (ks.length = ds.length ∧ ks.length ≤ 15) ∧ QD (.ob s.length) (s ++ [.dct ((ks.map D.str).zip ds)])) st := by
  conv => lhs; unfold bo
  simp only [wp_bind, wp_gd]
theorem wp_idxT {a i : Ex} : wp ((bo C (.idx a i)).2 env) QB st ↔ wp ((bo C (.idx a i)).1 env) (fun x s => wp (truthD x) QB s) st := wp_plainT (by unfold bo; rfl)
theorem wp_varT {i : Nat} : wp ((bo C (.var i)).2 env) QB st ↔ wp ((bo C (.var i)).1 env) (fun x s => wp (truthD x) QB s) st := wp_plainT (by unfold bo; rfl)
theorem wp_callT {f : Str} {es : Exs} : wp ((bo C (.call f es)).2 env) QB st ↔ wp ((bo C (.call f es)).1 env) (fun x s => wp (truthD x) QB s) st := wp_plainT (by unfold bo; rfl)
theorem wp_callKT {tag f : Str} {ks : List Str} {es kes : Exs} : wp ((bo C (.callK tag f ks es kes)).2 env) QB st ↔ wp ((bo C (.callK tag f ks es kes)).1 env) (fun x s => wp (truthD x) QB s) st := wp_plainT (by unfold bo; rfl)
theorem wp_biT {f : Bi} {es : Exs} : wp ((bo C (.bi f es)).2 env) QB st ↔ wp ((bo C (.bi f es)).1 env) (fun x s => wp (truthD x) QB s) st := wp_plainT (by unfold bo; rfl)
theorem x_truB {b : Bool} : wp (truthD (.bl b)) QB st ↔ QB b st := wp_ok rfl
theorem tsto_none : wp (tsto C .none env) QB st ↔ QB true st := by unfold tsto; exact wp_ret
theorem tsto_some {e : Ex} : wp (tsto C (.some e) env) QB st ↔ wp ((bo C e).2 env) QB st := by unfold tsto; exact Iff.rfl
/-! operators upon known things -/
theorem x_addI {a b : Int} : wp (binD .Add (.int a) (.int b)) QD st ↔ QD (.int (a + b)) st := wp_ok rfl
theorem x_addT {a b : List D} : wp (binD .Add (.tup a) (.tup b)) QD st ↔ a.length + b.length ≤ bigN ∧ QD (.tup (a ++ b)) st := wp_gd
theorem x_addS {a b : Str} : wp (binD .Add (.str a) (.str b)) QD st ↔ a.length + b.length ≤ bigN ∧ QD (.str (a ++ b)) st := wp_gd
def lstQ (o : Option Ob) (Q : List D → Prop) : Prop := match o with | some (.lst xs) => Q xs | _ => False
theorem lstQ_some {xs : List D} {Q : List D → Prop} : lstQ (some (.lst xs)) Q = Q xs := rfl
def dctQ (o : Option Ob) (Q : List (D × D) → Prop) : Prop := match o with | some (.dct xs) => Q xs | _ => False
theorem dctQ_some {xs : List (D × D)} {Q : List (D × D) → Prop} : dctQ (some (.dct xs)) Q = Q xs := rfl
theorem x_addL {i j : Nat} : wp (binD .Add (.ob i) (.ob j)) QD st ↔ lstQ st[i]? fun xs => lstQ st[j]? fun ys => xs.length + ys.length ≤ bigN ∧ QD (.ob st.length) (st ++ [.lst (xs ++ ys)]) := by
  unfold wp lstQ
  simp only [binD, addD]
  constructor
  · rintro ⟨a, s, e, q⟩
    split at e
    · rename_i xs ys h1 h2
      rw [h1, h2]
      split at e
      · cases e; exact ⟨by assumption, q⟩
      · cases e
    · cases e
  · intro h
    split at h
    · rename_i xs h1
      split at h
      · rename_i ys h2
        exact ⟨_, _, by rw [h1, h2]; simp only [h.1, if_true], h.2⟩
      · exact h.elim
    · exact h.elim
theorem x_subI {a b : Int} : wp (binD .Sub (.int a) (.int b)) QD st ↔ QD (.int (a - b)) st := wp_ok rfl
theorem x_mulI {a b : Int} : wp (binD .Mult (.int a) (.int b)) QD st ↔ mulOk a b = true ∧ QD (.int (a * b)) st := wp_gd
theorem x_mulT1 {xs : List D} : wp (binD .Mult (.tup xs) (.int 1)) QD st ↔ QD (.tup xs) st := wp_ok rfl
theorem x_mulT0 {x : D} {xs : List D} : wp (binD .Mult (.tup (x :: xs)) (.int 0)) QD st ↔ QD (.tup []) st := wp_ok (by simp only [binD, mulD]; rfl)
theorem x_divI {a b : Int} : wp (binD .FloorDiv (.int a) (.int b)) QD st ↔ (0 < b ∧ b.natAbs.log2 < 9000) ∧ QD (.int (a / b)) st := wp_gd
theorem x_modI {a b : Int} : wp (binD .Mod (.int a) (.int b)) QD st ↔ 0 < b ∧ QD (.int (a % b)) st := wp_gd
theorem x_powI {a b : Int} : wp (binD .Pow (.int a) (.int b)) QD st ↔ (0 ≤ b ∧ (Builtin.Int.intBits a : Int) * b ≤ 2 ^ 27) ∧ QD (.int (a ^ b.toNat)) st := wp_gd
theorem x_ltI {a b : Int} : wp (cmpD .Lt (.int a) (.int b)) QD st ↔ QD (.bl (decide (a < b))) st := wp_ok rfl
theorem x_leI {a b : Int} : wp (cmpD .LtE (.int a) (.int b)) QD st ↔ QD (.bl (decide (a ≤ b))) st := wp_ok rfl
theorem x_gtI {a b : Int} : wp (cmpD .Gt (.int a) (.int b)) QD st ↔ QD (.bl (decide (a > b))) st := wp_ok rfl
theorem x_geI {a b : Int} : wp (cmpD .GtE (.int a) (.int b)) QD st ↔ QD (.bl (decide (a ≥ b))) st := wp_ok rfl
theorem x_is {a : D} : wp (cmpD .Is a .non) QD st ↔ QD (.bl (match a with | .non => true | _ => false)) st := wp_ok (by cases a <;> rfl)
theorem x_isnot {a : D} : wp (cmpD .IsNot a .non) QD st ↔ QD (.bl (match a with | .non => false | _ => true)) st := wp_ok (by cases a <;> rfl)
theorem x_isB {a b : Bool} : wp (cmpD .Is (.bl a) (.bl b)) QD st ↔ QD (.bl (decide (a = b))) st := wp_ok rfl
theorem x_isNB {b : Bool} : wp (cmpD .Is .non (.bl b)) QD st ↔ QD (.bl false) st := wp_ok rfl
def optQ {α : Type} (o : Option α) (Q : α → Prop) : Prop := match o with | some a => Q a | none => False
theorem optQ_some {α : Type} {a : α} {Q : α → Prop} : optQ (some a) Q = Q a := rfl
theorem wp_opt {α β : Type} {o : Option β} {m : M α} {f : β → α} {g : β → Store} {Q : α → Store → Prop} (h1 : ∀ d, o = some d → m st = .ok (f d) (g d)) (h2 : o = none → m st = .no) : wp m Q st ↔ optQ o fun d => Q (f d) (g d) := by
  cases o with
  | some d => exact wp_ok (h1 d rfl)
  | none =>
    unfold wp
    rw [h2 rfl]
    exact ⟨fun ⟨a, s, e, q⟩ => (nomatch e), fun z => z.elim⟩
theorem x_ixT {xs : List D} {k : Int} : wp (ixD (.tup xs) (.int k)) QD st ↔ optQ (atI xs k) fun d => QD d st := wp_opt (f := fun d => d) (g := fun _ => st) (fun d h => by simp only [ixD, h]) fun h => by simp only [ixD, h]
theorem x_ixF {xs : List D} {k : Int} : wp (ixD (.fls xs) (.int k)) QD st ↔ optQ (atI xs k) fun d => QD d st := wp_opt (f := fun d => d) (g := fun _ => st) (fun d h => by simp only [ixD, h]) fun h => by simp only [ixD, h]
theorem x_ixL {j : Nat} {k : Int} {xs : List D} (h : st[j]? = some (.lst xs)) : wp (ixD (.ob j) (.int k)) QD st ↔ optQ (atI xs k) fun d => QD d st := by
  unfold wp optQ
  simp only [ixD, h]
  constructor
  · rintro ⟨a, s, e, q⟩
    split at e
    · rename_i h; cases e; first | exact q | (rw [h]; exact q)
    · cases e
  · intro h
    split at h
    · rename_i d hd; exact ⟨d, st, by rw [hd], h⟩
    · exact h.elim
theorem x_ixD {j : Nat} {k : D} {kvs : List (D × D)} (h : st[j]? = some (.dct kvs)) : wp (ixD (.ob j) k) QD st ↔ kindOk kvs k = true ∧ optQ (getKv kvs k) fun d => QD d st := by
  unfold wp optQ
  simp only [ixD, h]
  constructor
  · rintro ⟨a, s, e, q⟩
    split at e
    · rename_i hk
      split at e
      · rename_i h; cases e; first | exact ⟨hk, q⟩ | (rw [h]; exact ⟨hk, q⟩)
      · cases e
    · cases e
  · rintro ⟨hk, h⟩
    split at h
    · rename_i d hd; exact ⟨d, st, by rw [if_pos hk, hd], h⟩
    · exact h.elim
theorem x_setL {j : Nat} {k : Int} {n : Nat} {d : D} {xs : List D} {QU : Unit → Store → Prop} (h : st[j]? = some (.lst xs)) (hn : ixN xs.length k = some n) : wp (setD (.ob j) (.int k) d) QU st ↔ QU () (st.set j (.lst (xs.set n d))) := wp_ok (by simp only [setD, h, hn])
theorem x_setK {j : Nat} {k : D} {d : D} {kvs : List (D × D)} {QU : Unit → Store → Prop} (h : st[j]? = some (.dct kvs)) : wp (setD (.ob j) k d) QU st ↔ (kindOk kvs k = true ∧ kvs.length < bigN) ∧ QU () (st.set j (.dct (putKv kvs k d))) := by
  unfold wp
  simp only [setD, h]
  constructor
  · rintro ⟨a, s, e, q⟩
    split at e
    · rename_i hk; cases e; exact ⟨hk, q⟩
    · cases e
  · rintro ⟨hk, q⟩
    exact ⟨(), _, by rw [if_pos hk], q⟩
theorem x_abs {i : Int} : wp (biD .abs [.int i]) QD st ↔ QD (.int (if i < 0 then -i else i)) st := wp_ok rfl
theorem x_lenT {xs : List D} : wp (biD .len [.tup xs]) QD st ↔ QD (.int xs.length) st := wp_ok rfl
theorem x_lenF {xs : List D} : wp (biD .len [.fls xs]) QD st ↔ QD (.int xs.length) st := wp_ok rfl
theorem x_lenL {j : Nat} {xs : List D} (h : st[j]? = some (.lst xs)) : wp (biD .len [.ob j]) QD st ↔ QD (.int xs.length) st := wp_ok (by simp only [biD, itemsL, h])
theorem x_intI {i : Int} : wp (biD .int [.int i]) QD st ↔ QD (.int i) st := wp_ok rfl
theorem x_intB {b : Bool} : wp (biD .int [.bl b]) QD st ↔ QD (.int (if b then 1 else 0)) st := wp_ok rfl
theorem x_max2 {i j : Int} : wp (biD .max [.int i, .int j]) QD st ↔ QD (.int (if j > i then j else i)) st := wp_ok rfl
theorem x_min2 {i j : Int} : wp (biD .min [.int i, .int j]) QD st ↔ QD (.int (if j < i then j else i)) st := wp_ok rfl
theorem x_tupL {j : Nat} {xs : List D} (h : st[j]? = some (.lst xs)) : wp (biD .tuple [.ob j]) QD st ↔ QD (.tup xs) st := wp_ok (by simp only [biD, itemsL, h])
theorem x_seqT {xs : List D} : wp (seqS (.tup xs)) QS st ↔ QS (xs, []) st := wp_ok rfl
theorem x_seqF {xs : List D} : wp (seqS (.fls xs)) QS st ↔ QS (xs, []) st := wp_ok rfl
theorem x_seqL {j : Nat} {xs : List D} (h : st[j]? = some (.lst xs)) : wp (seqS (.ob j)) QS st ↔ QS (xs, [(j, xs)]) st := wp_ok (by simp only [seqS, h])
theorem x_slT {xs : List D} {lo hi : Option Int} : wp (slD (.tup xs) lo hi) QD st ↔ QD (.tup (cutL xs lo hi)) st := wp_ok rfl
theorem x_slF {xs : List D} {lo hi : Option Int} : wp (slD (.fls xs) lo hi) QD st ↔ QD (.ob st.length) (st ++ [.lst (cutL xs lo hi)]) := wp_ok rfl
theorem x_slL {j : Nat} {xs : List D} {lo hi : Option Int} (h : st[j]? = some (.lst xs)) : wp (slD (.ob j) lo hi) QD st ↔ QD (.ob st.length) (st ++ [.lst (cutL xs lo hi)]) := wp_ok (by simp only [slD, h])
theorem x_app {j : Nat} {x : D} {xs : List D} (h : st[j]? = some (.lst xs)) : wp (meD .append .list (.ob j) [x]) QD st ↔ xs.length < bigN ∧ QD .non (st.set j (.lst (xs ++ [x]))) := by
  unfold wp
  simp only [meD, h]
  constructor
  · rintro ⟨a, s, e, q⟩
    split at e
    · rename_i hk; cases e; exact ⟨hk, q⟩
    · cases e
  · rintro ⟨hk, q⟩
    exact ⟨.non, _, by rw [if_pos hk], q⟩
theorem x_get1 {j : Nat} {k : D} {kvs : List (D × D)} (h : st[j]? = some (.dct kvs)) : wp (meD .get .dict (.ob j) [k]) QD st ↔ kindOk kvs k = true ∧ QD ((getKv kvs k).getD .non) st := by
  unfold wp
  simp only [meD, h]
  constructor
  · rintro ⟨a, s, e, q⟩
    split at e
    · rename_i hk; cases e; exact ⟨hk, q⟩
    · cases e
  · rintro ⟨hk, q⟩
    exact ⟨_, _, by rw [if_pos hk], q⟩
theorem x_get2 {j : Nat} {k x : D} {kvs : List (D × D)} (h : st[j]? = some (.dct kvs)) (hn : nonKey kvs k = false := by first | rfl | simp [nonKey]) : wp (meD .get .dict (.ob j) [k, x]) QD st ↔ kindOk kvs k = true ∧ QD ((getKv kvs k).getD x) st := by
  unfold wp
  simp only [meD, h, hn, Bool.false_eq_true, if_false]
  constructor
  · rintro ⟨a, s, e, q⟩
    split at e
    · rename_i hk; cases e; exact ⟨hk, q⟩
    · cases e
  · rintro ⟨hk, q⟩
    exact ⟨_, _, by rw [if_pos hk], q⟩
theorem nonKey_kind {kvs : List (D × D)} {k : D} (h : nonKey kvs k = true) : kindOk kvs k = false := by
  cases k with
  | tup ds =>
    simp only [nonKey, Bool.and_eq_true, decide_eq_true_eq] at h
    have hk : keyT (.tup ds) = none := by
      have : ∀ ds : List D, D.non ∈ ds → keysD ds = none := by
        intro ds
        induction ds with
        | nil => intro h; exact nomatch h
        | cons d ds ih =>
          intro h
          simp only [keysD]
          rcases List.mem_cons.mp h with e | e
          · subst e; rfl
          · rw [ih e]
            cases keyD d <;> rfl
      simp only [keyT, this ds h.1.2]
      split <;> rfl
    cases kvs with
    | nil => simp [kindOk, keyD, hk]
    | cons p r => simp [kindOk, keyD, hk]
  | _ => simp [nonKey] at h
theorem x_get2N {j : Nat} {k x : D} {kvs : List (D × D)} (h : st[j]? = some (.dct kvs)) (hn : nonKey kvs k = true) : wp (meD .get .dict (.ob j) [k, x]) QD st ↔ QD x st :=
  wp_ok (by simp only [meD, h, hn, nonKey_kind hn, Bool.false_eq_true, if_false, if_true])
theorem x_setd {j : Nat} {k x : D} {kvs : List (D × D)} (h : st[j]? = some (.dct kvs)) : wp (meD .setdefault .dict (.ob j) [k, x]) QD st ↔ (kindOk kvs k = true ∧ kvs.length < bigN) ∧ (match getKv kvs k with | some d => QD d st | none => QD x (st.set j (.dct (putKv kvs k x)))) := by
  unfold wp
  simp only [meD, h]
  constructor
  · rintro ⟨a, s, e, q⟩
    split at e
    · rename_i hk
      refine ⟨hk, ?_⟩
      split at e
      · rename_i d hd; cases e; first | exact q | (rw [hd]; exact q)
      · rename_i hd; cases e; first | exact q | (rw [hd]; exact q)
    · cases e
  · rintro ⟨hk, q⟩
    rw [if_pos hk]
    split at q
    · rename_i d hd; first | exact ⟨_, _, rfl, q⟩ | (rw [hd]; exact ⟨_, _, rfl, q⟩)
    · rename_i hd; first | exact ⟨_, _, rfl, q⟩ | (rw [hd]; exact ⟨_, _, rfl, q⟩)
theorem x_inK {j : Nat} {k : D} {kvs : List (D × D)} {neg : Bool} (h : st[j]? = some (.dct kvs)) : wp (inD neg k (.ob j)) QD st ↔ kindOk kvs k = true ∧ QD (.bl (ifn neg (getKv kvs k).isSome)) st := by
  unfold wp
  simp only [inD, h]
  constructor
  · rintro ⟨a, s, e, q⟩
    split at e
    · rename_i hk; cases e; exact ⟨hk, q⟩
    · cases e
  · rintro ⟨hk, q⟩
    exact ⟨_, _, by rw [if_pos hk], q⟩
theorem x_tyL {j : Nat} {xs : List D} (h : st[j]? = some (.lst xs)) : tyD st (.ob j) = some .list := by simp only [tyD, h]
theorem x_tyD {j : Nat} {xs : List (D × D)} (h : st[j]? = some (.dct xs)) : tyD st (.ob j) = some .dict := by simp only [tyD, h]
theorem x_eqS {a b : D} (h : scalD a b = true) : wp (cmpD .Eq a b) QD st ↔ QD (.bl (decide (a = b))) st := wp_ok (by simp only [cmpD, eqD, h, if_true]; rfl)
theorem x_neS {a b : D} (h : scalD a b = true) : wp (cmpD .NotEq a b) QD st ↔ QD (.bl (!decide (a = b))) st := wp_ok (by simp only [cmpD, eqD, h, if_true])
theorem x_eqSS {a b : Str} : wp (cmpD .Eq (.str a) (.str b)) QD st ↔ QD (.bl (decide (a = b))) st := by
  rw [x_eqS rfl]
  simp only [D.str.injEq]
theorem x_neSS {a b : Str} : wp (cmpD .NotEq (.str a) (.str b)) QD st ↔ QD (.bl (!decide (a = b))) st := by
  rw [x_neS rfl]
  simp only [D.str.injEq]
theorem x_eqII {a b : Int} : wp (cmpD .Eq (.int a) (.int b)) QD st ↔ QD (.bl (decide (a = b))) st := by
  rw [x_eqS rfl]
  simp only [D.int.injEq]
theorem x_neII {a b : Int} : wp (cmpD .NotEq (.int a) (.int b)) QD st ↔ QD (.bl (!decide (a = b))) st := by
  rw [x_neS rfl]
  simp only [D.int.injEq]
theorem str_we : (("word" : Str) = "end") = False := eq_false (by decide +kernel)
theorem str_ew : (("end" : Str) = "word") = False := eq_false (by decide +kernel)
/-! instances -/
def insQ (o : Option (Str × List (Str × D))) (Q : Str → List (Str × D) → Prop) : Prop := match o with | some (c, fs) => Q c fs | none => False
theorem insQ_some {c : Str} {fs : List (Str × D)} {Q : Str → List (Str × D) → Prop} : insQ (some (c, fs)) Q = Q c fs := rfl
theorem x_ins {j : Nat} {c : Str} {fs : List (Str × D)} (h : st[j]? = some (.ins c fs)) : insD st (.ob j) = some (c, fs) := by simp only [insD, h]
theorem wp_fld {o : Ex} {f : Str} : wp ((bo C (.fld o f)).1 env) QD st ↔ wp ((bo C o).1 env) (fun x s => wp (fldD C.fl f x) QD s) st := by
  conv => lhs; unfold bo
  simp only [wp_bind]
theorem wp_fldT {o : Ex} {f : Str} : wp ((bo C (.fld o f)).2 env) QB st ↔ wp ((bo C (.fld o f)).1 env) (fun x s => wp (truthD x) QB s) st := wp_plainT (by unfold bo; rfl)
theorem x_fld {fl : Str → Str → Bool} {f : Str} {j : Nat} {c : Str} {fs : List (Str × D)} (h : st[j]? = some (.ins c fs)) : wp (fldD fl f (.ob j)) QD st ↔ fl c f = true ∧ optQ (fs.lookup f) fun d => QD d st := by
  unfold wp optQ
  simp only [fldD, x_ins h]
  constructor
  · rintro ⟨a, s, e, q⟩
    split at e
    · rename_i hk
      refine ⟨hk, ?_⟩
      split at e
      · rename_i d hd; cases e; first | exact q | (rw [hd]; exact q)
      · cases e
    · cases e
  · rintro ⟨hk, q⟩
    rw [if_pos hk]
    split at q
    · rename_i d hd; first | exact ⟨_, _, rfl, q⟩ | (rw [hd]; exact ⟨_, _, rfl, q⟩)
    · exact q.elim
theorem wp_mcall {tag m : Str} {ks : List Str} {o : Ex} {es kes : Exs} : wp ((bo C (.mcall tag m ks o es kes)).1 env) QD st ↔ wp ((bo C o).1 env) (fun x s => insQ (insD s x) fun c fs => (fs.lookup m).isNone = true ∧
    wp (evs C es env) (fun ds s => wp (evs C kes env) (fun zs s => wp (C.mt (c ++ tag) ⟨m, ks, ds.length + zs.length + 1, some c⟩ (x :: (ds ++ zs))) QD s) s) s) st := by
  conv => lhs; unfold bo
  rw [wp_bind]
  constructor
  · exact fun h => wp_mono h fun x s ⟨d, s2, e, q⟩ => by
      unfold insQ
      dsimp only at e
      split at e
      · rename_i c fs hi
        try rw [hi]
        split at e
        · rename_i hl
          refine ⟨hl, ?_⟩
          have : wp (M.bind (evs C es env) fun ds => M.bind (evs C kes env) fun zs => C.mt (c ++ tag) ⟨m, ks, ds.length + zs.length + 1, some c⟩ (x :: (ds ++ zs))) QD s := ⟨d, s2, e, q⟩
          simpa only [wp_bind] using this
        · cases e
      · cases e
  · exact fun h => wp_mono h fun x s q => by
      unfold insQ at q
      split at q
      · rename_i c fs hi
        obtain ⟨hl, q⟩ := q
        have : wp (M.bind (evs C es env) fun ds => M.bind (evs C kes env) fun zs => C.mt (c ++ tag) ⟨m, ks, ds.length + zs.length + 1, some c⟩ (x :: (ds ++ zs))) QD s := by simpa only [wp_bind] using q
        obtain ⟨d, s2, e, q⟩ := this
        exact ⟨d, s2, by simp only [hi, hl, if_true]; exact e, q⟩
      · exact q.elim
theorem wp_mcallT {tag m : Str} {ks : List Str} {o : Ex} {es kes : Exs} : wp ((bo C (.mcall tag m ks o es kes)).2 env) QB st ↔ wp ((bo C (.mcall tag m ks o es kes)).1 env) (fun x s => wp (truthD x) QB s) st := wp_plainT (by unfold bo; rfl)
theorem wp_make {tag c : Str} {ks : List Str} {es kes : Exs} : wp ((bo C (.make tag c ks es kes)).1 env) QD st ↔ wp (evs C es env) (fun ds s => wp (evs C kes env) (fun zs s => wp (mkD c (C.mt (c ++ tag) ⟨"__init__", ks, ds.length + zs.length + 1, some c⟩) (ds ++ zs)) QD s) s) st := by
  conv => lhs; unfold bo
  simp only [wp_bind]
theorem x_mk {c : Str} {g : List D → M D} {ds : List D} : wp (mkD c g ds) QD st ↔ wp (g (.ob st.length :: ds)) (fun d s => d = .non ∧ QD (.ob st.length) s) (st ++ [.ins c []]) := by
  unfold wp mkD
  constructor
  · rintro ⟨a, s, e, q⟩
    split at e
    · rename_i st1 e1
      cases e
      exact ⟨.non, _, e1, rfl, q⟩
    · cases e
  · rintro ⟨a, s, e, rfl, q⟩
    exact ⟨.ob st.length, s, by rw [e], q⟩
theorem wp_setFld {o e : Ex} {f : Str} : wp (run C (.setFld o f e) env) Q st ↔ wp ((bo C e).1 env) (fun d s => wp ((bo C o).1 env) (fun x s => wp (setFldD C.fl f x d) (fun _ s => Q (.nx env) s) s) s) st := by
  unfold run; simp only [wp_bind, wp_ret, wp_rt]
theorem x_setFld {fl : Str → Str → Bool} {f : Str} {j : Nat} {c : Str} {fs : List (Str × D)} {d : D} {QU : Unit → Store → Prop} (h : st[j]? = some (.ins c fs)) : wp (setFldD fl f (.ob j) d) QU st ↔ (fl c f = true ∧ fs.length < 900) ∧ QU () (st.set j (.ins c (putFd f d fs))) := by
  unfold wp
  simp only [setFldD, h]
  constructor
  · rintro ⟨a, s, e, q⟩
    split at e
    · rename_i hk; cases e; exact ⟨hk, q⟩
    · cases e
  · rintro ⟨hk, q⟩
    exact ⟨(), _, by rw [if_pos hk], q⟩
theorem wp_augFld {o e : Ex} {f : Str} {op : Operator} : wp (run C (.augFld o f op e) env) Q st ↔ wp ((bo C o).1 env) (fun x s => insQ (insD s x) fun c _ => wp (fldD C.fl f x) (fun v s => wp ((bo C e).1 env) (fun y s => wp (augD op v y) (fun z s => wp (sameC c x) (fun _ s => wp (setFldD C.fl f x z) (fun _ s => Q (.nx env) s) s) s) s) s) s) st := by
  unfold run
  rw [wp_bind]
  constructor
  · exact fun h => wp_mono h fun x s ⟨d, s2, e1, q⟩ => by
      unfold insQ
      dsimp only at e1
      split at e1
      · rename_i c fs hi
        try rw [hi]
        have : wp (M.bind (fldD C.fl f x) fun v => M.bind (ev C e env) fun y => M.bind (augD op v y) fun z => M.bind (sameC c x) fun _ => M.bind (setFldD C.fl f x z) fun _ st => R.ok (Fl.nx env) st) Q s := ⟨d, s2, e1, q⟩
        simpa only [wp_bind, wp_ret, wp_rt] using this
      · cases e1
  · exact fun h => wp_mono h fun x s q => by
      unfold insQ at q
      split at q
      · rename_i c fs hi
        have : wp (M.bind (fldD C.fl f x) fun v => M.bind (ev C e env) fun y => M.bind (augD op v y) fun z => M.bind (sameC c x) fun _ => M.bind (setFldD C.fl f x z) fun _ st => R.ok (Fl.nx env) st) Q s := by simpa only [wp_bind, wp_ret, wp_rt] using q
        obtain ⟨d, s2, e1, q⟩ := this
        exact ⟨d, s2, by simp only [hi]; exact e1, q⟩
      · exact q.elim
theorem x_sameC {c c2 : Str} {j : Nat} {fs : List (Str × D)} {QU : Unit → Store → Prop} (h : st[j]? = some (.ins c2 fs)) : wp (sameC c (.ob j)) QU st ↔ c2 = c ∧ QU () st := by
  unfold wp
  simp only [sameC, x_ins h]
  constructor
  · rintro ⟨a, s, e, q⟩
    split at e
    · rename_i hk; cases e; exact ⟨hk, q⟩
    · cases e
  · rintro ⟨hk, q⟩
    exact ⟨(), _, by rw [if_pos hk], q⟩
theorem x_augA {a b : Int} : wp (augD .Add (.int a) (.int b)) QD st ↔ QD (.int (a + b)) st := wp_ok rfl
theorem x_augS {a b : Int} : wp (augD .Sub (.int a) (.int b)) QD st ↔ QD (.int (a - b)) st := wp_ok rfl
def asgFQ (fl : Str → Str → Bool) (fs : List Str) (Q : Store → Prop) : Option (Option D) → D → Store → Prop
  | some (some x), .tup ds, s => wp (setFlds fl x fs ds) (fun _ s => Q s) s
  | _, _, _ => False
theorem asgFQ_eq {fl : Str → Str → Bool} {fs : List Str} {Q : Store → Prop} {x : D} {ds : List D} {s : Store} : asgFQ fl fs Q (some (some x)) (.tup ds) s = wp (setFlds fl x fs ds) (fun _ s => Q s) s := rfl
theorem wp_asgF {i : Nat} {fs : List Str} {e : Ex} : wp (run C (.asgF i fs e) env) Q st ↔ wp ((bo C e).1 env) (fun d s => asgFQ C.fl fs (fun s => Q (.nx env) s) env[i]? d s) st := by
  unfold run
  rw [wp_bind]
  have key : ∀ (d : D) (s : Store), wp (fun st => match env[i]?, d with | some (some x), .tup ds => M.bind (setFlds C.fl x fs ds) (fun _ st => R.ok (Fl.nx env) st) st | _, _ => .no) Q s ↔ asgFQ C.fl fs (fun s => Q (.nx env) s) env[i]? d s := by
    intro d s
    cases h : env[i]? with
    | none => exact ⟨fun ⟨r, s2, e1, q⟩ => (nomatch e1), fun z => z.elim⟩
    | some o =>
      cases o with
      | none => exact ⟨fun ⟨r, s2, e1, q⟩ => (nomatch e1), fun z => z.elim⟩
      | some x =>
        cases d with
        | tup ds =>
          rw [asgFQ_eq]
          show wp (M.bind (setFlds C.fl x fs ds) fun _ st => R.ok (Fl.nx env) st) Q s ↔ _
          simp only [wp_bind, wp_ret, wp_rt]
        | _ => exact ⟨fun ⟨r, s2, e1, q⟩ => (nomatch e1), fun z => z.elim⟩
  exact ⟨fun h => wp_mono h fun d s q => (key d s).mp q, fun h => wp_mono h fun d s q => (key d s).mpr q⟩
theorem x_setFlds0 {fl : Str → Str → Bool} {x : D} {QU : Unit → Store → Prop} : wp (setFlds fl x [] []) QU st ↔ QU () st := wp_ok rfl
theorem x_setFlds1 {fl : Str → Str → Bool} {x d : D} {f : Str} {fs : List Str} {ds : List D} {QU : Unit → Store → Prop} : wp (setFlds fl x (f :: fs) (d :: ds)) QU st ↔ wp (setFldD fl f x d) (fun _ s => wp (setFlds fl x fs ds) QU s) st := wp_bind
theorem wp_whil {n : Nat} {c : Ex} {b : Sms} : wp (run C (.whil n c b) env) Q st ↔ wp (loopW (bo C c).2 (runs C b) n env) Q st := by unfold run; exact Iff.rfl
theorem wp_zip {a b : Ex} : wp (srcE C (.zip a b) env) QS st ↔ wp ((bo C a).1 env) (fun x s => wp ((bo C b).1 env) (fun y s => wp (zipS x y) QS s) s) st := by
  unfold srcE; simp only [wp_bind]
theorem x_zipT {xs ys : List D} : wp (zipS (.tup xs) (.tup ys)) QS st ↔ QS (pairs2 xs ys, []) st := wp_ok rfl
theorem x_zipL {j i : Nat} {xs ys : List D} (h : st[j]? = some (.lst xs)) (h2 : st[i]? = some (.lst ys)) : wp (zipS (.ob j) (.ob i)) QS st ↔ QS (pairs2 xs ys, [(j, xs), (i, ys)]) st := wp_ok (by simp only [zipS, h, h2])
end
/-- a while by an invariant that tells how many turns are left at most -/
theorem loopW_inv {c : Env → M Bool} {b : Env → M Fl} {Q : Fl → Store → Prop} (I : Nat → Env → Store → Prop)
    (hs : ∀ n env s, I n env s → wp (c env) (fun r s => if r = true then ∃ k, n = k + 1 ∧ wp (b env) (fun fl s => match fl with | .nx e => I k e s | .ct e => I k e s | .bk e => Q (.nx e) s | .ret v => Q (.ret v) s) s else Q (.nx env) s) s) :
    ∀ (n m : Nat) (env : Env) (s : Store), I n env s → n < m → wp (loopW c b m env) Q s
  | n, 0, env, s, h, hl => absurd hl (Nat.not_lt_zero _)
  | n, m + 1, env, s, h, hl => by
    obtain ⟨r, s1, e1, q⟩ := hs n env s h
    cases r with
    | false =>
      rw [if_neg (by decide)] at q
      exact ⟨.nx env, s1, by simp only [loopW, M.bind, e1]; rfl, q⟩
    | true =>
      rw [if_pos rfl] at q
      obtain ⟨k, hk, fl, s2, e2, q⟩ := q
      cases fl with
      | nx e =>
        obtain ⟨f, s3, e3, q3⟩ := loopW_inv I hs k m e s2 q (by omega)
        exact ⟨f, s3, by simp only [loopW, M.bind, e1, if_true, e2]; exact e3, q3⟩
      | ct e =>
        obtain ⟨f, s3, e3, q3⟩ := loopW_inv I hs k m e s2 q (by omega)
        exact ⟨f, s3, by simp only [loopW, M.bind, e1, if_true, e2]; exact e3, q3⟩
      | bk e => exact ⟨.nx e, s2, by simp only [loopW, M.bind, e1, if_true, e2], q⟩
      | ret v => exact ⟨.ret v, s2, by simp only [loopW, M.bind, e1, if_true, e2], q⟩
end W9

/-! W9y: the hand of the laws -/
namespace W9
open PySem L2
def take_b : Sms :=
  (.cons (.ite (.cmp .Gt (.idx (.var 0) (.cst (.int 0))) (.cst (.int 0)))
    (.cons (.asg 4 (.bin .Mod (.idx (.var 0) (.cst (.int 0))) (.var 1)))
    (.cons (.setIx (.var 0) (.cst (.int 0)) (.bin .FloorDiv (.idx (.var 0) (.cst (.int 0))) (.var 1)))
    (.cons (.ret (.var 4))
    .nil)))
    .nil)
    (.cons (.setIx (.var 0) (.cst (.int 2)) (.bin .Add (.idx (.var 0) (.cst (.int 2))) (.cst (.int 1))))
    (.cons (.asg 2 (.idx (.var 0) (.cst (.int 2))))
    (.cons (.asg 3 (.bin .Mod (.bin .Mult (.bin .Add (.idx (.var 0) (.cst (.int 1))) (.bin .Mult (.cst (.int 39373)) (.var 2))) (.bin .Add (.cst (.int 48271)) (.bin .Mult (.var 2) (.var 2)))) (.cst (.int 2305843009213693921))))
    (.cons (.setIx (.var 0) (.cst (.int 1)) (.bin .Mod (.bin .Mult (.var 3) (.bin .Add (.bin .Mod (.var 3) (.cst (.int 1000003))) (.cst (.int 17)))) (.cst (.int 2305843009213693907))))
    (.cons (.ret (.bin .Mod (.bin .FloorDiv (.idx (.var 0) (.cst (.int 1))) (.cst (.int 131071))) (.var 1)))
    .nil))))))
/-- a hand lies at i, from which at most n numbers have been drawn -/
structure HandO (n : Int) (o : Ob) : Prop where
  ex : ∃ a b c : Int, o = .lst [.int a, .int b, .int c] ∧ 0 ≤ b ∧ b < 2 ^ 62 ∧ 0 ≤ c ∧ c ≤ n
theorem mulOk_left {i j : Int} (h1 : -(2 ^ 64) < i) (h2 : i < 2 ^ 64) : mulOk i j = true := by
  unfold mulOk
  simp only [decide_eq_true h1, decide_eq_true h2, Bool.and_self, Bool.true_or]
theorem mulOk_right {i j : Int} (h1 : -(2 ^ 64) < j) (h2 : j < 2 ^ 64) : mulOk i j = true := by
  unfold mulOk
  simp only [decide_eq_true h1, decide_eq_true h2, Bool.and_self, Bool.true_or, Bool.or_true]
theorem at3 {a b c : D} : atI [a, b, c] 0 = some a ∧ atI [a, b, c] 1 = some b ∧ atI [a, b, c] 2 = some c := ⟨rfl, rfl, rfl⟩
theorem take_ok {C : Cts} {i : Nat} {n m : Int} {o : Ob} {st : Store} (hi : st[i]? = some o) (ho : HandO n o) (hn : n < 2 ^ 40) (hm : 0 < m) (hm2 : m.natAbs.log2 < 9000) :
    ∃ r o', callDef C 5 take_b [.ob i, .int m] st = .ok (.int r) (st.set i o') ∧ HandO (n + 1) o' ∧ 0 ≤ r ∧ r < m := by
  obtain ⟨a, b, c, rfl, hb, hb2, hc, hcn⟩ := ho.ex
  have hlt : i < st.length := (List.getElem?_eq_some_iff.mp hi).1
  have key : wp (callDef C 5 take_b [.ob i, .int m]) (fun d s => ∃ r o', d = .int r ∧ s = st.set i o' ∧ HandO (n + 1) o' ∧ 0 ≤ r ∧ r < m) st := by
    unfold take_b
    simp only [wp_callDef, wp_cons, wp_nil, wp_asg, wp_expr, wp_retS, wp_retN, wp_iteS, wp_pass, wp_brk, wp_cont, wp_setIx, wp_augX, wp_asgT, wp_for, wp_varX, wp_cst, wp_bin, wp_cmp, wp_cmpT, wp_chainT, wp_andT, wp_orT, wp_notT, wp_iteE, wp_idx, wp_sl, wp_call, wp_callK, wp_call0, wp_globX, wp_dictX, wp_bi, wp_tup, wp_lst, wp_dict0, wp_meth, wp_lc, wp_evs_nil, wp_evs_cons, wp_evo_none, wp_evo_some, wp_seq, wp_enum, wp_rng1, wp_rng2, wp_idxT, wp_varT, wp_callT, wp_callKT, wp_biT, x_truB, tsto_none, tsto_some,
  seqQ_nx, seqQ_ret, seqQ_bk, seqQ_ct, endQ_ret, endQ_nx, varQ_some, lstQ_some, dctQ_some, optQ_some, blQ_bl, inQ_int, rgQ_int, rg2Q_int,
  x_eqSS, x_eqII, x_neSS, x_neII, str_we, str_ew, decide_true, decide_false, if_true, if_false, Bool.false_eq_true, reduceIte, x_addI, x_addT, x_addS, x_addL, x_subI, x_mulI, x_divI, x_modI, x_powI, x_ltI, x_leI, x_gtI, x_geI, x_is, x_isnot, x_isB, x_isNB, x_ixT, x_ixF, x_abs, x_lenT, x_lenF, x_intI, x_intB, x_max2, x_min2, x_seqT, x_seqF, x_slT, x_slF,
  List.map_cons, List.map_nil, List.length_cons, List.length_nil, List.cons_append, List.nil_append, List.replicate_succ, List.replicate_zero, Nat.reduceSub, Nat.reduceAdd, List.set_cons_zero, List.set_cons_succ, List.getElem?_cons_zero, List.getElem?_cons_succ, Nat.add_zero, Nat.zero_add, Nat.sub_self, decide_eq_true_eq, x_ixL hi, at3]
    by_cases ha : a > 0
    · simp only [if_pos ha]
      simp only [wp_callDef, wp_cons, wp_nil, wp_asg, wp_expr, wp_retS, wp_retN, wp_iteS, wp_pass, wp_brk, wp_cont, wp_setIx, wp_augX, wp_asgT, wp_for, wp_varX, wp_cst, wp_bin, wp_cmp, wp_cmpT, wp_chainT, wp_andT, wp_orT, wp_notT, wp_iteE, wp_idx, wp_sl, wp_call, wp_callK, wp_call0, wp_globX, wp_dictX, wp_bi, wp_tup, wp_lst, wp_dict0, wp_meth, wp_lc, wp_evs_nil, wp_evs_cons, wp_evo_none, wp_evo_some, wp_seq, wp_enum, wp_rng1, wp_rng2, wp_idxT, wp_varT, wp_callT, wp_callKT, wp_biT, x_truB, tsto_none, tsto_some,
  seqQ_nx, seqQ_ret, seqQ_bk, seqQ_ct, endQ_ret, endQ_nx, varQ_some, lstQ_some, dctQ_some, optQ_some, blQ_bl, inQ_int, rgQ_int, rg2Q_int,
  x_eqSS, x_eqII, x_neSS, x_neII, str_we, str_ew, decide_true, decide_false, if_true, if_false, Bool.false_eq_true, reduceIte, x_addI, x_addT, x_addS, x_addL, x_subI, x_mulI, x_divI, x_modI, x_powI, x_ltI, x_leI, x_gtI, x_geI, x_is, x_isnot, x_isB, x_isNB, x_ixT, x_ixF, x_abs, x_lenT, x_lenF, x_intI, x_intB, x_max2, x_min2, x_seqT, x_seqF, x_slT, x_slF,
  List.map_cons, List.map_nil, List.length_cons, List.length_nil, List.cons_append, List.nil_append, List.replicate_succ, List.replicate_zero, Nat.reduceSub, Nat.reduceAdd, List.set_cons_zero, List.set_cons_succ, List.getElem?_cons_zero, List.getElem?_cons_succ, Nat.add_zero, Nat.zero_add, Nat.sub_self, decide_eq_true_eq, x_ixL hi, at3, x_setL (n := 0) (k := 0) hi rfl]
      refine ⟨hm, ⟨hm, hm2⟩, a % m, _, rfl, rfl, ⟨_, _, _, rfl, hb, hb2, hc, by omega⟩, Int.emod_nonneg _ (by omega), Int.emod_lt_of_pos _ hm⟩
    · simp only [if_neg ha]
      have h2 : (st.set i (.lst [.int a, .int b, .int (c + 1)]))[i]? = some (.lst [.int a, .int b, .int (c + 1)]) := by simp [hlt]
      have h3 : ∀ z : D, ((st.set i (.lst [.int a, .int b, .int (c + 1)])).set i (.lst [.int a, z, .int (c + 1)]))[i]? = some (.lst [.int a, z, .int (c + 1)]) := fun z => by simp [hlt]
      simp only [wp_callDef, wp_cons, wp_nil, wp_asg, wp_expr, wp_retS, wp_retN, wp_iteS, wp_pass, wp_brk, wp_cont, wp_setIx, wp_augX, wp_asgT, wp_for, wp_varX, wp_cst, wp_bin, wp_cmp, wp_cmpT, wp_chainT, wp_andT, wp_orT, wp_notT, wp_iteE, wp_idx, wp_sl, wp_call, wp_callK, wp_call0, wp_globX, wp_dictX, wp_bi, wp_tup, wp_lst, wp_dict0, wp_meth, wp_lc, wp_evs_nil, wp_evs_cons, wp_evo_none, wp_evo_some, wp_seq, wp_enum, wp_rng1, wp_rng2, wp_idxT, wp_varT, wp_callT, wp_callKT, wp_biT, x_truB, tsto_none, tsto_some,
  seqQ_nx, seqQ_ret, seqQ_bk, seqQ_ct, endQ_ret, endQ_nx, varQ_some, lstQ_some, dctQ_some, optQ_some, blQ_bl, inQ_int, rgQ_int, rg2Q_int,
  x_eqSS, x_eqII, x_neSS, x_neII, str_we, str_ew, decide_true, decide_false, if_true, if_false, Bool.false_eq_true, reduceIte, x_addI, x_addT, x_addS, x_addL, x_subI, x_mulI, x_divI, x_modI, x_powI, x_ltI, x_leI, x_gtI, x_geI, x_is, x_isnot, x_isB, x_isNB, x_ixT, x_ixF, x_abs, x_lenT, x_lenF, x_intI, x_intB, x_max2, x_min2, x_seqT, x_seqF, x_slT, x_slF,
  List.map_cons, List.map_nil, List.length_cons, List.length_nil, List.cons_append, List.nil_append, List.replicate_succ, List.replicate_zero, Nat.reduceSub, Nat.reduceAdd, List.set_cons_zero, List.set_cons_succ, List.getElem?_cons_zero, List.getElem?_cons_succ, Nat.add_zero, Nat.zero_add, Nat.sub_self, decide_eq_true_eq, x_ixL hi, at3, x_setL (n := 2) (k := 2) hi rfl, x_ixL h2, x_setL (n := 1) (k := 1) h2 rfl, x_ixL (h3 _)]
      have m1 : mulOk 39373 (c + 1) = true := mulOk_left (by decide) (by decide)
      have m2 : mulOk (c + 1) (c + 1) = true := mulOk_left (by omega) (by omega)
      have m3 : mulOk (b + 39373 * (c + 1)) (48271 + (c + 1) * (c + 1)) = true := mulOk_left (by omega) (by omega)
      have e1 : 0 ≤ (b + 39373 * (c + 1)) * (48271 + (c + 1) * (c + 1)) % 2305843009213693921 := Int.emod_nonneg _ (by decide)
      have e2 : (b + 39373 * (c + 1)) * (48271 + (c + 1) * (c + 1)) % 2305843009213693921 < 2305843009213693921 := Int.emod_lt_of_pos _ (by decide)
      refine ⟨m1, m2, m3, by decide, by decide, mulOk_left (by omega) (by omega), by decide, ⟨by decide, by decide⟩, hm, _, _, rfl, List.set_set .., ⟨_, _, _, rfl, Int.emod_nonneg _ (by decide), ?_, by omega, by omega⟩, Int.emod_nonneg _ (by omega), Int.emod_lt_of_pos _ hm⟩
      exact Int.lt_trans (Int.emod_lt_of_pos _ (by decide)) (by decide)
  obtain ⟨d, s, e, r, o', rfl, rfl, h⟩ := key
  exact ⟨r, o', e, h⟩
end W9

/-! W9z: stores that grow, texts of data, dicts -/
namespace W9
open PySem L2
section
variable {C : Cts} {QD : D → Store → Prop} {st : Store}
theorem x_eqP {a b : D} {p q : PyData} (h : scalD a b = false) (h1 : pyD st a = some p) (h2 : pyD st b = some q) (h3 : SeqAt.shaped p = true) (h4 : SeqAt.shaped q = true) : wp (cmpD .Eq a b) QD st ↔ QD (.bl (PyData.eqv p q)) st :=
  wp_ok (by simp only [cmpD, eqD, h, h1, h2, h3, h4, and_self, if_true, if_false, Bool.false_eq_true])
theorem x_neP {a b : D} {p q : PyData} (h : scalD a b = false) (h1 : pyD st a = some p) (h2 : pyD st b = some q) (h3 : SeqAt.shaped p = true) (h4 : SeqAt.shaped q = true) : wp (cmpD .NotEq a b) QD st ↔ QD (.bl (!PyData.eqv p q)) st :=
  wp_ok (by simp only [cmpD, eqD, h, h1, h2, h3, h4, and_self, if_true, if_false, Bool.false_eq_true])
end
/-! ### dicts -/
theorem getKv_nil (k : D) : getKv [] k = none := rfl
theorem getKv_cons (k k1 d : D) (r : List (D × D)) : getKv ((k1, d) :: r) k = if k1 = k then some d else getKv r k := by
  unfold getKv
  rw [List.find?_cons]
  by_cases h : k1 = k
  · simp [h]
  · simp [h]
theorem getKv_append (k : D) : ∀ (l r : List (D × D)), getKv (l ++ r) k = (getKv l k).or (getKv r k)
  | [], r => by simp [getKv_nil]
  | (k1, d) :: l, r => by
    rw [List.cons_append, getKv_cons, getKv_cons, getKv_append k l r]
    split <;> simp
theorem getKv_any {k : D} : ∀ {l : List (D × D)}, (l.any fun kv => decide (kv.1 = k)) = (getKv l k).isSome
  | [] => rfl
  | (k1, d) :: l => by
    rw [List.any_cons, getKv_cons, getKv_any (l := l)]
    by_cases h : k1 = k <;> simp [h]
theorem getKv_put (k k' d : D) (l : List (D × D)) : getKv (putKv l k d) k' = if k = k' then some d else getKv l k' := by
  unfold putKv
  split
  · rename_i h
    induction l with
    | nil => simp at h
    | cons p l ih =>
      obtain ⟨k1, d1⟩ := p
      rw [List.map_cons]
      by_cases h1 : k1 = k
      · simp only [h1, if_true]
        rw [getKv_cons, getKv_cons]
        by_cases h2 : k = k'
        · simp [h2]
        · simp only [if_neg h2]
          clear ih h
          induction l with
          | nil => rfl
          | cons q l ih =>
            obtain ⟨k2, d2⟩ := q
            rw [List.map_cons]
            by_cases h3 : k2 = k
            · simp only [h3, if_true]
              rw [getKv_cons, getKv_cons, if_neg h2, if_neg h2]; exact ih
            · simp only [if_neg h3]
              rw [getKv_cons, getKv_cons, ih]
      · simp only [if_neg h1]
        have h' : (l.any fun kv => decide (kv.1 = k)) = true := by simpa [h1] using h
        rw [getKv_cons, getKv_cons, ih h']
        by_cases h2 : k1 = k'
        · subst h2
          simp [Ne.symm h1]
        · simp [h2]
  · rename_i h
    rw [getKv_append, getKv_cons, getKv_nil]
    have hn : getKv l k = none := by
      rw [getKv_any] at h
      cases hg : getKv l k with
      | none => rfl
      | some x => rw [hg] at h; simp at h
    by_cases h2 : k = k'
    · subst h2; rw [hn]; simp
    · simp [h2]
/-- all keys are texts -/
def keysS (l : List (D × D)) : Prop := ∀ p ∈ l, ∃ s, p.1 = .str s
theorem kind_strs {l : List (D × D)} (h : keysS l) (s : Str) : kindOk l (.str s) = true := by
  cases l with
  | nil => rfl
  | cons p r =>
    obtain ⟨k, d⟩ := p
    obtain ⟨z, hz⟩ := h _ List.mem_cons_self
    have hz' : k = .str z := hz
    subst hz'
    rfl
theorem keysS_put {l : List (D × D)} (h : keysS l) (s : Str) (d : D) : keysS (putKv l (.str s) d) := by
  unfold putKv
  split
  · intro p hp
    obtain ⟨q, hq, rfl⟩ := List.mem_map.mp hp
    obtain ⟨z, hz⟩ := h q hq
    refine ⟨z, ?_⟩
    split <;> exact hz
  · intro p hp
    rcases List.mem_append.mp hp with hp | hp
    · exact h p hp
    · rw [List.mem_singleton.mp hp]; exact ⟨s, rfl⟩
/-- all keys are (text, number) -/
def keysP (l : List (D × D)) : Prop := ∀ p ∈ l, ∃ s i, p.1 = .tup [.str s, .int i] ∧ (s = "book" → i ≠ 0)
theorem keyT_pair {s : Str} {i : Int} (h : s = "book" → i ≠ 0) : (keyT (.tup [.str s, .int i])).isSome = true := by
  have : ¬ ([D.str s, D.int i] = bookD) := by
    intro e
    simp only [bookD, List.cons.injEq, D.str.injEq, D.int.injEq, and_true] at e
    exact h e.1 e.2
  simp only [keyT, if_neg this, keysD, keyD]
  rfl
theorem kind_pairs {l : List (D × D)} (h : keysP l) {s : Str} {i : Int} (hs : s = "book" → i ≠ 0) : kindOk l (.tup [.str s, .int i]) = true := by
  cases l with
  | nil => simp only [kindOk, keyT_pair hs, Bool.or_true]
  | cons p r =>
    obtain ⟨k, d⟩ := p
    obtain ⟨z, j, hz, hz2⟩ := h _ List.mem_cons_self
    have hz' : k = .tup [.str z, .int j] := hz
    subst hz'
    simp only [kindOk, keyT_pair hs, keyT_pair hz2, Bool.and_self, Bool.or_true]
theorem keysP_put {l : List (D × D)} (h : keysP l) {s : Str} {i : Int} (hs : s = "book" → i ≠ 0) (d : D) : keysP (putKv l (.tup [.str s, .int i]) d) := by
  unfold putKv
  split
  · intro p hp
    obtain ⟨q, hq, rfl⟩ := List.mem_map.mp hp
    obtain ⟨z, j, hz⟩ := h q hq
    refine ⟨z, j, ?_⟩
    split <;> exact hz
  · intro p hp
    rcases List.mem_append.mp hp with hp | hp
    · exact h p hp
    · rw [List.mem_singleton.mp hp]; exact ⟨s, i, rfl, hs⟩
/-! ### the text of data -/
mutual
def rsz : PyData → Nat
  | .none => 4
  | .bool _ => 5
  | .int _ => 1921
  | .str x => 10 * x.length + 2
  | .list xs => rszs xs + 3
  | .tuple xs => rszs xs + 3
  | .dict _ => 0
def rszs : List PyData → Nat
  | [] => 0
  | x :: xs => rsz x + 2 + rszs xs
end
theorem join_le (ts : List Str) : (Str.join ", " ts).length ≤ piled ts := by
  by_cases h : ts = []
  · subst h; exact Nat.le_refl 0
  · have := join_length_add ts h; omega
theorem tupText_le (ts : List Str) : (tupleText ts).length ≤ piled ts + 3 := by
  unfold tupleText
  rw [strLen_append, strLen_append]
  have e1 : ((("(" : String) : Str)).length = 1 := rfl
  have e3 : (((if ts.length == 1 then ",)" else ")" : String) : Str)).length ≤ 2 := by split <;> decide
  have := join_le ts
  omega
theorem lstText_le (ts : List Str) : (listText ts).length ≤ piled ts + 3 := by
  cases ts with
  | nil => decide
  | cons t r =>
    have h := textFrom_length_pos r 1 (("[" : Str) ++ (if (0 : Nat) > 0 then ", " else "" : String) ++ t) (Nat.succ_pos 0)
    have z : (listText (t :: r)).length = (textFrom 1 (("[" : Str) ++ (if (0 : Nat) > 0 then ", " else "" : String) ++ t) r).length + 1 := strLen_append _ _
    rw [z, h, strLen_append, strLen_append, piled_cons]
    have e1 : ((("[" : String) : Str)).length = 1 := rfl
    have e2 : ((((if (0 : Nat) > 0 then ", " else "" : String) : String) : Str)).length = 0 := rfl
    omega
mutual
theorem shown_le : ∀ d : PyData, d.canLay0 = true → d.showable = true → d.shown.length ≤ rsz d
  | .none, _, _ => by decide
  | .bool b, _, _ => by cases b <;> decide
  | .int i, _, h => by
    simp only [PyData.showable, decide_eq_true_eq] at h
    have := PySem.int_text_length_le (a := i) (k := 1920) (by decide) h
    simp only [PyData.shown, rsz]
    exact Nat.le_trans (Nat.le_of_eq (ofString_length _)) this
  | .str x, h, _ => by
    simp only [PyData.shown, rsz]
    refine StrLaws.reprText_len x fun c hc => ?_
    simp only [PyData.canLay0, PyData.strOk] at h
    rw [Array.all_eq_true_iff_forall_mem] at h
    have := h c (by simpa using hc)
    have h2 := of_decide_eq_true this
    exact Nat.lt_trans h2 (by decide)
  | .tuple xs, h, h2 => by
    simp only [PyData.shown, rsz]
    have := showns_le xs (by simpa [PyData.canLay0] using h) (by simpa [PyData.showable] using h2) 
    exact Nat.le_trans (tupText_le _) (by omega)
  | .list xs, h, h2 => by
    simp only [PyData.shown, rsz]
    have := showns_le xs (by simpa [PyData.canLay0] using h) (by simpa [PyData.showable] using h2)
    exact Nat.le_trans (lstText_le _) (by omega)
  | .dict _, h, _ => by simp [PyData.canLay0] at h
theorem showns_le : ∀ ds : List PyData, PyData.canLayAll0 ds = true → PyData.showableAll ds = true → piled (PyData.shownAll ds) ≤ rszs ds
  | [], _, _ => Nat.le_refl 0
  | d :: ds, h, h2 => by
    simp only [PyData.canLayAll0, Bool.and_eq_true] at h
    simp only [PyData.showableAll, Bool.and_eq_true] at h2
    simp only [PyData.shownAll, piled_cons, rszs]
    have a := shown_le d h.1 h2.1
    have b := showns_le ds h.2 h2.2
    omega
end
/-- repr of data that is not too big -/
theorem x_repr {QD : D → Store → Prop} {st : Store} {d : D} {p : PyData} (h1 : pyD st d = some p) (h2 : p.canLay0 = true) (h3 : p.showable = true) (h4 : p.depth ≤ 60) (h5 : rsz p ≤ bigN) : wp (biD .repr [d]) QD st ↔ QD (.str p.shown) st :=
  wp_ok (by
    have := Nat.le_trans (shown_le p h2 h3) h5
    simp only [biD, h1, h2, h3, h4, this, and_self, if_true])
/-! ### the hand in a growing store -/
structure HandA (i : Nat) (n : Int) (s : Store) : Prop where
  ex : ∃ o, s[i]? = some o ∧ HandO n o
/-- all but what stands at ks is as it was -/
structure Kp (ks : List Nat) (s s' : Store) : Prop where
  len : s.length ≤ s'.length
  at' : ∀ k o, k ∉ ks → s[k]? = some o → s'[k]? = some o
theorem Kp.refl (ks : List Nat) (s : Store) : Kp ks s s := ⟨Nat.le_refl _, fun _ _ _ h => h⟩
theorem Kp.trans {ks : List Nat} {s s1 s2 : Store} (a : Kp ks s s1) (b : Kp ks s1 s2) : Kp ks s s2 := ⟨Nat.le_trans a.len b.len, fun k o n h => b.at' k o n (a.at' k o n h)⟩
theorem Kp.more {ks ks' : List Nat} {s s1 : Store} (a : Kp ks s s1) (h : ∀ k ∈ ks, k ∈ ks') : Kp ks' s s1 := ⟨a.len, fun k o n e => a.at' k o (fun z => n (h k z)) e⟩
theorem Kp.app (ks : List Nat) (s t : Store) : Kp ks s (s ++ t) := ⟨by simp, fun k o _ h => by rw [List.getElem?_append_left (List.getElem?_eq_some_iff.mp h).1]; exact h⟩
theorem Kp.pre {s s' : Store} (h : s <+: s') (ks : List Nat) : Kp ks s s' := by obtain ⟨t, rfl⟩ := h; exact Kp.app ks s t
theorem Kp.set {ks : List Nat} {s : Store} {k : Nat} {o : Ob} (h : k ∈ ks) : Kp ks s (s.set k o) := ⟨by simp, fun j o' n e => by rw [List.getElem?_set_ne (fun z => n (by rw [← z]; exact h))]; exact e⟩
theorem HandA.kp {i : Nat} {n : Int} {ks : List Nat} {s s' : Store} (a : HandA i n s) (h : Kp ks s s') (hi : i ∉ ks) : HandA i n s' := let ⟨o, e, q⟩ := a.ex; ⟨o, h.at' i o hi e, q⟩
theorem HandA.app {i : Nat} {n : Int} {s : Store} (a : HandA i n s) (t : Store) : HandA i n (s ++ t) := a.kp (ks := []) (Kp.app _ _ _) (by simp)
theorem HandA.lt {i : Nat} {n : Int} {s : Store} (a : HandA i n s) : i < s.length := let ⟨o, e, q⟩ := a.ex; (List.getElem?_eq_some_iff.mp e).1
theorem HandO.mono {m n : Int} {o : Ob} (a : HandO m o) (h : m ≤ n) : HandO n o := let ⟨x, y, z, e, h1, h2, h3, h4⟩ := a.ex; ⟨x, y, z, e, h1, h2, h3, by omega⟩
theorem HandA.mono {i : Nat} {m n : Int} {s : Store} (a : HandA i m s) (h : m ≤ n) : HandA i n s := let ⟨o, e, q⟩ := a.ex; ⟨o, e, q.mono h⟩
theorem log_small {m : Int} (h0 : 0 < m) (h : m < 2 ^ 200) : m.natAbs.log2 < 9000 := by
  have h1 : m.natAbs < 2 ^ 200 := by
    have : (m.natAbs : Int) < 2 ^ 200 := by rw [Int.natAbs_of_nonneg (by omega)]; exact h
    exact_mod_cast this
  have := (Nat.log2_lt (by omega)).mpr h1
  omega
theorem take_wp {C : Cts} {i : Nat} {n m : Int} {st : Store} {QD : D → Store → Prop} (hi : HandA i n st) (hn : n < 2 ^ 40) (hm : 0 < m) (hm2 : m < 2 ^ 62)
    (h : ∀ r s', HandA i (n + 1) s' → Kp [i] st s' → 0 ≤ r → r < m → QD (.int r) s') : wp (callDef C 5 take_b [.ob i, .int m]) QD st := by
  obtain ⟨o, ho, hh⟩ := hi.ex
  have hlt := hi.lt
  obtain ⟨r, o', e, h1, h2, h3⟩ := take_ok (C := C) ho hh hn hm (log_small hm (Int.lt_trans hm2 (by decide)))
  exact ⟨.int r, st.set i o', e, h r _ ⟨o', by simp [hlt], h1⟩ (Kp.set (by simp)) h2 h3⟩
def hand_b : Sms :=
  (.cons (.asg 2 (.cst (.int 0)))
    (.cons (.ite (.cmp .Lt (.var 1) (.bi .len (.cons (.var 0) .nil)))
    (.cons (.asg 2 (.bi .abs (.cons (.idx (.var 0) (.var 1)) .nil)))
    .nil)
    .nil)
    (.cons (.asg 3 (.ite (.cmp .GtE (.var 2) (.bin .Pow (.cst (.int 10)) (.cst (.int 18)))) (.bin .Mod (.var 2) (.bin .Pow (.bin .Pow (.cst (.int 10)) (.cst (.int 60))) (.cst (.int 17)))) (.cst (.int 0))))
    (.cons (.ret (.lst (.cons (.var 3) (.cons (.bin .Add (.bin .Add (.bin .Mod (.var 2) (.cst (.int 2305843009213693951))) (.bin .Mult (.cst (.int 7919)) (.var 1))) (.cst (.int 11))) (.cons (.cst (.int 0)) .nil)))))
    .nil))))
theorem atI_nat {α : Type} {xs : List α} {k : Int} (h0 : 0 ≤ k) (h1 : k < xs.length) : ∃ x, atI xs k = some x ∧ x ∈ xs ∧ xs[k.toNat]? = some x := by
  have hl : k.toNat < xs.length := by omega
  refine ⟨xs[k.toNat], ?_, List.getElem_mem hl, List.getElem?_eq_getElem hl⟩
  unfold atI ixN
  rw [if_pos h0, if_pos h1]
  exact List.getElem?_eq_getElem hl
theorem hand_wp {C : Cts} {ns : List Int} {k : Int} {st : Store} {QD : D → Store → Prop} (h0 : 0 ≤ k) (h1 : k < 1000)
    (h : ∀ o, HandO 0 o → QD (.ob st.length) (st ++ [o])) : wp (callDef C 4 hand_b [.fls (ns.map D.int), .int k]) QD st := by
  have key : ∀ c : Int, 0 ≤ c → ∀ x3 : Option D, wp (runs C (.cons (.asg 3 (.ite (.cmp .GtE (.var 2) (.bin .Pow (.cst (.int 10)) (.cst (.int 18)))) (.bin .Mod (.var 2) (.bin .Pow (.bin .Pow (.cst (.int 10)) (.cst (.int 60))) (.cst (.int 17)))) (.cst (.int 0))))
    (.cons (.ret (.lst (.cons (.var 3) (.cons (.bin .Add (.bin .Add (.bin .Mod (.var 2) (.cst (.int 2305843009213693951))) (.bin .Mult (.cst (.int 7919)) (.var 1))) (.cst (.int 11))) (.cons (.cst (.int 0)) .nil)))))
    .nil)) [some (.fls (ns.map D.int)), some (.int k), some (.int c), x3]) (endQ QD) st := by
    intro c hc x3
    have fin : ∀ d : Int, ∃ a b c0 : Int, Ob.lst [.int d, .int (c % 2305843009213693951 + 7919 * k + 11), .int 0] = .lst [.int a, .int b, .int c0] ∧ 0 ≤ b ∧ b < 2 ^ 62 ∧ 0 ≤ c0 ∧ c0 ≤ 0 := by
      intro d
      have e1 : 0 ≤ c % 2305843009213693951 := Int.emod_nonneg _ (by decide)
      have e2 : c % 2305843009213693951 < 2305843009213693951 := Int.emod_lt_of_pos _ (by decide)
      exact ⟨d, _, 0, rfl, by omega, by omega, by omega, by omega⟩
    have m1 : mulOk 7919 k = true := mulOk_left (by decide) (by decide)
    have p1 : (0 : Int) ≤ 18 ∧ (Builtin.Int.intBits 10 : Int) * 18 ≤ 2 ^ 27 := by decide +kernel
    have p2 : (0 : Int) ≤ 60 ∧ (Builtin.Int.intBits 10 : Int) * 60 ≤ 2 ^ 27 := by decide +kernel
    have p3 : (0 : Int) ≤ 17 ∧ (Builtin.Int.intBits (10 ^ (60 : Int).toNat) : Int) * 17 ≤ 2 ^ 27 := by decide +kernel
    have p4 : (0 : Int) < (10 ^ (60 : Int).toNat) ^ (17 : Int).toNat := by decide +kernel
    simp only [wp_callDef, wp_cons, wp_nil, wp_asg, wp_expr, wp_retS, wp_retN, wp_iteS, wp_pass, wp_brk, wp_cont, wp_setIx, wp_augX, wp_asgT, wp_for, wp_varX, wp_cst, wp_bin, wp_cmp, wp_cmpT, wp_chainT, wp_andT, wp_orT, wp_notT, wp_iteE, wp_idx, wp_sl, wp_call, wp_callK, wp_call0, wp_globX, wp_dictX, wp_bi, wp_tup, wp_lst, wp_dict0, wp_meth, wp_lc, wp_evs_nil, wp_evs_cons, wp_evo_none, wp_evo_some, wp_seq, wp_enum, wp_rng1, wp_rng2, wp_idxT, wp_varT, wp_callT, wp_callKT, wp_biT, x_truB, tsto_none, tsto_some,
  seqQ_nx, seqQ_ret, seqQ_bk, seqQ_ct, endQ_ret, endQ_nx, varQ_some, lstQ_some, dctQ_some, optQ_some, blQ_bl, inQ_int, rgQ_int, rg2Q_int,
  x_eqSS, x_eqII, x_neSS, x_neII, str_we, str_ew, decide_true, decide_false, if_true, if_false, Bool.false_eq_true, reduceIte, x_addI, x_addT, x_addS, x_addL, x_subI, x_mulI, x_divI, x_modI, x_powI, x_ltI, x_leI, x_gtI, x_geI, x_is, x_isnot, x_isB, x_isNB, x_ixT, x_ixF, x_abs, x_lenT, x_lenF, x_intI, x_intB, x_max2, x_min2, x_seqT, x_seqF, x_slT, x_slF,
  List.map_cons, List.map_nil, List.length_cons, List.length_nil, List.cons_append, List.nil_append, List.replicate_succ, List.replicate_zero, Nat.reduceSub, Nat.reduceAdd, List.set_cons_zero, List.set_cons_succ, List.getElem?_cons_zero, List.getElem?_cons_succ, Nat.add_zero, Nat.zero_add, Nat.sub_self, decide_eq_true_eq]
    refine ⟨p1, ?_⟩
    split
    · refine ⟨p2, p3, p4, by decide, m1, by decide, h _ ⟨fin _⟩⟩
    · refine ⟨by decide, m1, by decide, h _ ⟨fin _⟩⟩
  unfold hand_b
  simp only [wp_callDef, wp_cons, wp_nil, wp_asg, wp_expr, wp_retS, wp_retN, wp_iteS, wp_pass, wp_brk, wp_cont, wp_setIx, wp_augX, wp_asgT, wp_for, wp_varX, wp_cst, wp_bin, wp_cmp, wp_cmpT, wp_chainT, wp_andT, wp_orT, wp_notT, wp_iteE, wp_idx, wp_sl, wp_call, wp_callK, wp_call0, wp_globX, wp_dictX, wp_bi, wp_tup, wp_lst, wp_dict0, wp_meth, wp_lc, wp_evs_nil, wp_evs_cons, wp_evo_none, wp_evo_some, wp_seq, wp_enum, wp_rng1, wp_rng2, wp_idxT, wp_varT, wp_callT, wp_callKT, wp_biT, x_truB, tsto_none, tsto_some,
  seqQ_nx, seqQ_ret, seqQ_bk, seqQ_ct, endQ_ret, endQ_nx, varQ_some, lstQ_some, dctQ_some, optQ_some, blQ_bl, inQ_int, rgQ_int, rg2Q_int,
  x_eqSS, x_eqII, x_neSS, x_neII, str_we, str_ew, decide_true, decide_false, if_true, if_false, Bool.false_eq_true, reduceIte, x_addI, x_addT, x_addS, x_addL, x_subI, x_mulI, x_divI, x_modI, x_powI, x_ltI, x_leI, x_gtI, x_geI, x_is, x_isnot, x_isB, x_isNB, x_ixT, x_ixF, x_abs, x_lenT, x_lenF, x_intI, x_intB, x_max2, x_min2, x_seqT, x_seqF, x_slT, x_slF,
  List.map_cons, List.map_nil, List.length_cons, List.length_nil, List.cons_append, List.nil_append, List.replicate_succ, List.replicate_zero, Nat.reduceSub, Nat.reduceAdd, List.set_cons_zero, List.set_cons_succ, List.getElem?_cons_zero, List.getElem?_cons_succ, Nat.add_zero, Nat.zero_add, Nat.sub_self, decide_eq_true_eq]
  split
  · rename_i hlt
    simp only [List.length_map] at hlt
    obtain ⟨x, hx, hm, _⟩ := atI_nat (xs := ns.map D.int) h0 (by simpa using hlt)
    obtain ⟨z, hz, rfl⟩ := List.mem_map.mp hm
    simp only [wp_callDef, wp_cons, wp_nil, wp_asg, wp_expr, wp_retS, wp_retN, wp_iteS, wp_pass, wp_brk, wp_cont, wp_setIx, wp_augX, wp_asgT, wp_for, wp_varX, wp_cst, wp_bin, wp_cmp, wp_cmpT, wp_chainT, wp_andT, wp_orT, wp_notT, wp_iteE, wp_idx, wp_sl, wp_call, wp_callK, wp_call0, wp_globX, wp_dictX, wp_bi, wp_tup, wp_lst, wp_dict0, wp_meth, wp_lc, wp_evs_nil, wp_evs_cons, wp_evo_none, wp_evo_some, wp_seq, wp_enum, wp_rng1, wp_rng2, wp_idxT, wp_varT, wp_callT, wp_callKT, wp_biT, x_truB, tsto_none, tsto_some,
  seqQ_nx, seqQ_ret, seqQ_bk, seqQ_ct, endQ_ret, endQ_nx, varQ_some, lstQ_some, dctQ_some, optQ_some, blQ_bl, inQ_int, rgQ_int, rg2Q_int,
  x_eqSS, x_eqII, x_neSS, x_neII, str_we, str_ew, decide_true, decide_false, if_true, if_false, Bool.false_eq_true, reduceIte, x_addI, x_addT, x_addS, x_addL, x_subI, x_mulI, x_divI, x_modI, x_powI, x_ltI, x_leI, x_gtI, x_geI, x_is, x_isnot, x_isB, x_isNB, x_ixT, x_ixF, x_abs, x_lenT, x_lenF, x_intI, x_intB, x_max2, x_min2, x_seqT, x_seqF, x_slT, x_slF,
  List.map_cons, List.map_nil, List.length_cons, List.length_nil, List.cons_append, List.nil_append, List.replicate_succ, List.replicate_zero, Nat.reduceSub, Nat.reduceAdd, List.set_cons_zero, List.set_cons_succ, List.getElem?_cons_zero, List.getElem?_cons_succ, Nat.add_zero, Nat.zero_add, Nat.sub_self, decide_eq_true_eq, hx]
    have := key (if z < 0 then -z else z) (by split <;> omega) none
    simp only [wp_callDef, wp_cons, wp_nil, wp_asg, wp_expr, wp_retS, wp_retN, wp_iteS, wp_pass, wp_brk, wp_cont, wp_setIx, wp_augX, wp_asgT, wp_for, wp_varX, wp_cst, wp_bin, wp_cmp, wp_cmpT, wp_chainT, wp_andT, wp_orT, wp_notT, wp_iteE, wp_idx, wp_sl, wp_call, wp_callK, wp_call0, wp_globX, wp_dictX, wp_bi, wp_tup, wp_lst, wp_dict0, wp_meth, wp_lc, wp_evs_nil, wp_evs_cons, wp_evo_none, wp_evo_some, wp_seq, wp_enum, wp_rng1, wp_rng2, wp_idxT, wp_varT, wp_callT, wp_callKT, wp_biT, x_truB, tsto_none, tsto_some,
  seqQ_nx, seqQ_ret, seqQ_bk, seqQ_ct, endQ_ret, endQ_nx, varQ_some, lstQ_some, dctQ_some, optQ_some, blQ_bl, inQ_int, rgQ_int, rg2Q_int,
  x_eqSS, x_eqII, x_neSS, x_neII, str_we, str_ew, decide_true, decide_false, if_true, if_false, Bool.false_eq_true, reduceIte, x_addI, x_addT, x_addS, x_addL, x_subI, x_mulI, x_divI, x_modI, x_powI, x_ltI, x_leI, x_gtI, x_geI, x_is, x_isnot, x_isB, x_isNB, x_ixT, x_ixF, x_abs, x_lenT, x_lenF, x_intI, x_intB, x_max2, x_min2, x_seqT, x_seqF, x_slT, x_slF,
  List.map_cons, List.map_nil, List.length_cons, List.length_nil, List.cons_append, List.nil_append, List.replicate_succ, List.replicate_zero, Nat.reduceSub, Nat.reduceAdd, List.set_cons_zero, List.set_cons_succ, List.getElem?_cons_zero, List.getElem?_cons_succ, Nat.add_zero, Nat.zero_add, Nat.sub_self, decide_eq_true_eq] at this
    exact this
  · have := key 0 (by omega) none
    simp only [wp_callDef, wp_cons, wp_nil, wp_asg, wp_expr, wp_retS, wp_retN, wp_iteS, wp_pass, wp_brk, wp_cont, wp_setIx, wp_augX, wp_asgT, wp_for, wp_varX, wp_cst, wp_bin, wp_cmp, wp_cmpT, wp_chainT, wp_andT, wp_orT, wp_notT, wp_iteE, wp_idx, wp_sl, wp_call, wp_callK, wp_call0, wp_globX, wp_dictX, wp_bi, wp_tup, wp_lst, wp_dict0, wp_meth, wp_lc, wp_evs_nil, wp_evs_cons, wp_evo_none, wp_evo_some, wp_seq, wp_enum, wp_rng1, wp_rng2, wp_idxT, wp_varT, wp_callT, wp_callKT, wp_biT, x_truB, tsto_none, tsto_some,
  seqQ_nx, seqQ_ret, seqQ_bk, seqQ_ct, endQ_ret, endQ_nx, varQ_some, lstQ_some, dctQ_some, optQ_some, blQ_bl, inQ_int, rgQ_int, rg2Q_int,
  x_eqSS, x_eqII, x_neSS, x_neII, str_we, str_ew, decide_true, decide_false, if_true, if_false, Bool.false_eq_true, reduceIte, x_addI, x_addT, x_addS, x_addL, x_subI, x_mulI, x_divI, x_modI, x_powI, x_ltI, x_leI, x_gtI, x_geI, x_is, x_isnot, x_isB, x_isNB, x_ixT, x_ixF, x_abs, x_lenT, x_lenF, x_intI, x_intB, x_max2, x_min2, x_seqT, x_seqF, x_slT, x_slF,
  List.map_cons, List.map_nil, List.length_cons, List.length_nil, List.cons_append, List.nil_append, List.replicate_succ, List.replicate_zero, Nat.reduceSub, Nat.reduceAdd, List.set_cons_zero, List.set_cons_succ, List.getElem?_cons_zero, List.getElem?_cons_succ, Nat.add_zero, Nat.zero_add, Nat.sub_self, decide_eq_true_eq] at this
    exact this
end W9

/-! W9X: one keyword-only parameter that is left out -/
namespace W9
open PySem L2
theorem enOk_kwd1 {K : PySem.W.Frag} {fd : FuncData} {ps : List Str} {tag : Str} {n : Nat} {A : Addr} {x : Str} {u : Value} {d : D} {v : V} (hn : n + 1 = ps.length) (hk : PySem.W.nsIn K A x = some (some u)) (hv : RelV v u) (hr : ∀ ρ H, Rep K ρ H d v)
    (hc : ∀ us : List Value, us.length = n → KwChain A [(x, u)] (bindArgs fd ⟨us, []⟩) (ps.zip (us ++ [u]))) : EnOk K fd ps ⟨tag, [], n, fun xs => xs ++ [d]⟩ :=
  enOk_kwd0 (kws := [(x, u)]) (dd := [d]) (dv := [v]) hn ⟨hk, trivial⟩ (.cons hv .nil) (fun ρ H => .cons (hr ρ H) .nil) hc
end W9

/-! Y1: views of a store, rules that go by them -/
namespace W9
open PySem L2
def At (s : Store) : List (Nat × Ob) → Prop
  | [] => True
  | p :: L => s[p.1]? = some p.2 ∧ (∀ q ∈ L, q.1 ≠ p.1) ∧ At s L
theorem At.get : ∀ {L : List (Nat × Ob)} {s : Store} (h : At s L) (k : Nat) {i : Nat} {o : Ob}, L[k]? = some (i, o) → s[i]? = some o
  | [], _, _, _, _, _, e => by simp at e
  | p :: L, s, h, 0, i, o, e => by
    simp only [List.getElem?_cons_zero, Option.some.injEq] at e
    subst e
    exact h.1
  | p :: L, s, h, k + 1, i, o, e => At.get h.2.2 k (by simpa using e)
theorem At.keep : ∀ {L : List (Nat × Ob)} {s s' : Store}, (∀ p ∈ L, s'[p.1]? = s[p.1]?) → At s L → At s' L
  | [], _, _, _, _ => True.intro
  | p :: L, s, s', e, h => ⟨(e p List.mem_cons_self).trans h.1, h.2.1, At.keep (fun q hq => e q (List.mem_cons_of_mem _ hq)) h.2.2⟩
theorem At.set : ∀ {L : List (Nat × Ob)} {s : Store} (h : At s L) (k : Nat) {i : Nat} {o0 : Ob} (o : Ob), L[k]? = some (i, o0) → At (s.set i o) (L.set k (i, o))
  | [], _, _, _, _, _, _, e => by simp at e
  | p :: L, s, h, 0, i, o0, o, e => by
    simp only [List.getElem?_cons_zero, Option.some.injEq] at e
    subst e
    have hi : i < s.length := (List.getElem?_eq_some_iff.mp h.1).1
    refine ⟨by simp [hi], h.2.1, At.keep (fun q hq => ?_) h.2.2⟩
    exact List.getElem?_set_ne (Ne.symm (h.2.1 q hq))
  | p :: L, s, h, k + 1, i, o0, o, e => by
    have e' : L[k]? = some (i, o0) := by simpa using e
    have hp : p.1 ≠ i := Ne.symm (h.2.1 _ (List.mem_of_getElem? e'))
    refine ⟨(List.getElem?_set_ne (Ne.symm hp)).trans h.1, fun q hq => ?_, At.set h.2.2 k o e'⟩
    rcases List.mem_or_eq_of_mem_set hq with z | z
    · exact h.2.1 q z
    · rw [z]; exact Ne.symm hp
theorem At.lt {L : List (Nat × Ob)} {s : Store} (h : At s L) : ∀ p ∈ L, p.1 < s.length := by
  intro p hp
  obtain ⟨k, hk⟩ := List.mem_iff_getElem?.mp hp
  exact (List.getElem?_eq_some_iff.mp (h.get k (i := p.1) (o := p.2) hk)).1
/-- what a thing says of the store leans on the objects ks alone -/
def Own (ks : List Nat) (P : Store → Prop) : Prop := ∀ s s' : Store, (∀ k ∈ ks, s'[k]? = s[k]?) → P s → P s'
theorem own_true : Own [] fun _ => True := fun _ _ _ _ => True.intro
structure Lv (s0 : Store) (ks : List Nat) (P : Store → Prop) (L : List (Nat × Ob)) (s : Store) : Prop where
  kp : Kp ks s0 s
  at' : At s L
  fr : ∀ p ∈ L, s0.length ≤ p.1
  old : ∀ k ∈ ks, k < s0.length
  own : Own ks P
  pr : P s
abbrev Lv0 (s0 : Store) (L : List (Nat × Ob)) (s : Store) : Prop := Lv s0 [] (fun _ => True) L s
section
variable {s0 s s' : Store} {ks : List Nat} {P P' : Store → Prop} {L : List (Nat × Ob)} {QD : D → Store → Prop} {QU : Unit → Store → Prop}
theorem Lv.start0 (s : Store) : Lv0 s [] s := ⟨Kp.refl _ _, True.intro, (fun _ h => nomatch h), (fun _ h => nomatch h), own_true, True.intro⟩
theorem Lv.start (old : ∀ k ∈ ks, k < s.length) (own : Own ks P) (pr : P s) : Lv s ks P [] s := ⟨Kp.refl _ _, True.intro, (fun _ h => nomatch h), old, own, pr⟩
theorem Lv.get (V : Lv s0 ks P L s) (k : Nat) {i : Nat} {o : Ob} (h : L[k]? = some (i, o)) : s[i]? = some o := V.at'.get k h
theorem Lv.nin (V : Lv s0 ks P L s) {p : Nat × Ob} (hp : p ∈ L) : p.1 ∉ ks := fun z => by
  have := V.old _ z
  have := V.fr _ hp
  omega
theorem Lv.call (V : Lv s0 ks P L s) (K : Kp ks s s') (pr : P' s') (own : Own ks P') : Lv s0 ks P' L s' :=
  ⟨V.kp.trans K, V.at'.keep fun p hp => by
    have h := V.at'.lt p hp
    have e : s[p.1]? = some s[p.1] := List.getElem?_eq_getElem h
    rw [e]; exact K.at' _ _ (V.nin hp) e, V.fr, V.old, own, pr⟩
theorem Lv.call0 (V : Lv s0 ks P L s) (K : Kp [] s s') : Lv s0 ks P L s' := by
  refine V.call (P' := P) (K.more fun _ h => nomatch h) (V.own s s' (fun k hk => ?_) V.pr) V.own
  have h : k < s.length := Nat.lt_of_lt_of_le (V.old k hk) V.kp.len
  have e : s[k]? = some s[k] := List.getElem?_eq_getElem h
  rw [e]; exact K.at' _ _ (by simp) e
theorem Lv.new (V : Lv s0 ks P L s) (o : Ob) : Lv s0 ks P ((s.length, o) :: L) (s ++ [o]) := by
  have W := V.call0 (Kp.app [] s [o])
  refine ⟨W.kp, ⟨by simp, fun q hq => ?_, W.at'⟩, fun p hp => ?_, V.old, V.own, W.pr⟩
  · have := V.at'.lt q hq
    omega
  · rcases List.mem_cons.mp hp with rfl | hp
    · exact V.kp.len
    · exact V.fr p hp
theorem Lv.set (V : Lv s0 ks P L s) (k : Nat) {i : Nat} {o0 : Ob} (o : Ob) (h : L[k]? = some (i, o0)) : Lv s0 ks P (L.set k (i, o)) (s.set i o) := by
  have hm := List.mem_of_getElem? h
  have hi := V.fr _ hm
  refine ⟨⟨by simp only [List.length_set]; exact V.kp.len, fun j u n e => ?_⟩, V.at'.set k o h, fun p hp => ?_, V.old, V.own, V.own s _ (fun j hj => ?_) V.pr⟩
  · have hj := (List.getElem?_eq_some_iff.mp e).1
    rw [List.getElem?_set_ne (by omega)]
    exact V.kp.at' j u n e
  · rcases List.mem_or_eq_of_mem_set hp with z | z
    · exact V.fr p z
    · rw [z]; exact hi
  · have hj := V.old j hj
    exact List.getElem?_set_ne (by omega)
theorem Lv.sub (V : Lv s0 ks P L s) {L' : List (Nat × Ob)} (h : L'.Sublist L) : Lv s0 ks P L' s := by
  refine ⟨V.kp, ?_, fun p hp => V.fr p (h.mem hp), V.old, V.own, V.pr⟩
  have := V.at'
  clear V
  induction h with
  | slnil => exact True.intro
  | cons a _ ih => exact ih this.2.2
  | cons_cons a hs ih => exact ⟨this.1, fun q hq => this.2.1 q (hs.mem hq), ih this.2.2⟩
theorem Lv.nil (V : Lv s0 ks P L s) : Lv s0 ks P [] s := V.sub (List.nil_sublist _)
/-- a view from a later beginning on -/
theorem Lv.at0 (V : Lv s0 ks P L s) : Lv s ks P [] s := ⟨Kp.refl _ _, True.intro, (fun _ h => nomatch h), fun k hk => Nat.lt_of_lt_of_le (V.old k hk) V.kp.len, V.own, V.pr⟩
theorem Lv.mono (V : Lv s0 ks P L s) (h : ∀ s, P s → P' s) (own : Own ks P') : Lv s0 ks P' L s := ⟨V.kp, V.at', V.fr, V.old, own, h _ V.pr⟩
/-! a new object -/
def alloc (o : Ob) : M D := fun st => .ok (.ob st.length) (st ++ [o])
theorem wp_alloc {o : Ob} : wp (alloc o) QD s ↔ QD (.ob s.length) (s ++ [o]) := wp_ok rfl
theorem Lv.alloc (V : Lv s0 ks P L s) {o : Ob} (h : ∀ k s1, Lv s0 ks P ((k, o) :: L) s1 → QD (.ob k) s1) : wp (W9.alloc o) QD s := wp_alloc.mpr (h _ _ (V.new o))
theorem Lv.append (V : Lv s0 ks P L s) (k : Nat) {j : Nat} {xs : List D} {x : D} (hk : L[k]? = some (j, .lst xs)) (hb : xs.length < bigN) (h : ∀ s1, Lv s0 ks P (L.set k (j, .lst (xs ++ [x]))) s1 → QD .non s1) : wp (meD .append .list (.ob j) [x]) QD s := by
  rw [x_app (V.get k hk)]
  exact ⟨hb, h _ (V.set k _ hk)⟩
theorem Lv.tyL (V : Lv s0 ks P L s) (k : Nat) {j : Nat} {xs : List D} (hk : L[k]? = some (j, .lst xs)) : tyD s (.ob j) = some .list := x_tyL (V.get k hk)
theorem Lv.tyD' (V : Lv s0 ks P L s) (k : Nat) {j : Nat} {xs : List (D × D)} (hk : L[k]? = some (j, .dct xs)) : tyD s (.ob j) = some .dict := x_tyD (V.get k hk)
/-- x.append(y) -/
theorem Lv.meAppend (V : Lv s0 ks P L s) (k : Nat) {j : Nat} {xs : List D} {m : M (List D)} (hk : L[k]? = some (j, .lst xs)) (h : wp m (fun ds s => wp (meD .append .list (.ob j) ds) QD s) s) : ∃ T, tyD s (.ob j) = some T ∧ wp m (fun ds s => wp (meD .append T (.ob j) ds) QD s) s := ⟨_, V.tyL k hk, h⟩
theorem x_ext {j i : Nat} {xs ys : List D} (h : s[j]? = some (.lst xs)) (h2 : s[i]? = some (.lst ys)) : wp (meD .extend .list (.ob j) [.ob i]) QD s ↔ xs.length + ys.length ≤ bigN ∧ QD .non (s.set j (.lst (xs ++ ys))) := by
  unfold wp
  simp only [meD, h, h2]
  constructor
  · rintro ⟨a, s, e, q⟩
    split at e
    · rename_i hk; cases e; exact ⟨hk, q⟩
    · cases e
  · rintro ⟨hk, q⟩
    exact ⟨.non, _, by rw [if_pos hk], q⟩
theorem Lv.extend (V : Lv s0 ks P L s) (k : Nat) {j i : Nat} {xs ys : List D} (hk : L[k]? = some (j, .lst xs)) (hi : s[i]? = some (.lst ys)) (hb : xs.length + ys.length ≤ bigN) (h : ∀ s1, Lv s0 ks P (L.set k (j, .lst (xs ++ ys))) s1 → QD .non s1) : wp (meD .extend .list (.ob j) [.ob i]) QD s := by
  rw [x_ext (V.get k hk) hi]
  exact ⟨hb, h _ (V.set k _ hk)⟩
/-- an owned object is changed by a call -/
theorem Lv.upd (V : Lv s0 ks P L s) (k : Nat) {j : Nat} {o0 o : Ob} (hk : L[k]? = some (j, o0)) (K : Kp [j] s s') (h : s'[j]? = some o) : Lv s0 ks P (L.set k (j, o)) s' := by
  have hm := List.mem_of_getElem? hk
  have hi := V.fr _ hm
  have same : ∀ i, i < s.length → i ≠ j → s'[i]? = s[i]? := fun i hl hne => by
    have e : s[i]? = some s[i] := List.getElem?_eq_getElem hl
    rw [e]; exact K.at' _ _ (by simpa using hne) e
  refine ⟨⟨Nat.le_trans V.kp.len K.len, fun i u n e => ?_⟩, ?_, fun p hp => ?_, V.old, V.own, V.own s _ (fun i hj => ?_) V.pr⟩
  · have hj := (List.getElem?_eq_some_iff.mp e).1
    exact K.at' i u (by simp; omega) (V.kp.at' i u n e)
  · have A := V.at'
    have : ∀ (L : List (Nat × Ob)) (k : Nat), At s L → L[k]? = some (j, o0) → At s' (L.set k (j, o)) := by
      intro L
      induction L with
      | nil => intro k _ e; simp at e
      | cons p L ih =>
        intro k A e
        cases k with
        | zero =>
          simp only [List.getElem?_cons_zero, Option.some.injEq] at e
          subst e
          exact ⟨h, A.2.1, At.keep (fun q hq => same _ (A.2.2.lt q hq) (A.2.1 q hq)) A.2.2⟩
        | succ k =>
          have e' : L[k]? = some (j, o0) := by simpa using e
          have hp : p.1 ≠ j := Ne.symm (A.2.1 _ (List.mem_of_getElem? e'))
          refine ⟨(same _ (A.lt p List.mem_cons_self) hp).trans A.1, fun q hq => ?_, ih k A.2.2 e'⟩
          rcases List.mem_or_eq_of_mem_set hq with z | z
          · exact A.2.1 q z
          · rw [z]; exact Ne.symm hp
    exact this L k A hk
  · rcases List.mem_or_eq_of_mem_set hp with z | z
    · exact V.fr p z
    · rw [z]; exact hi
  · have h1 := V.old i hj
    have h2 := V.kp.len
    have hi' : s0.length ≤ j := hi
    exact same i (by omega) (by omega)
theorem Lv.addL (V : Lv s0 ks P L s) {i j : Nat} {xs ys : List D} (h1 : s[i]? = some (.lst xs)) (h2 : s[j]? = some (.lst ys)) (hb : xs.length + ys.length ≤ bigN) (h : ∀ k s1, Lv s0 ks P ((k, .lst (xs ++ ys)) :: L) s1 → QD (.ob k) s1) : wp (binD .Add (.ob i) (.ob j)) QD s := by
  rw [x_addL, h1, lstQ_some, h2, lstQ_some]
  exact ⟨hb, h _ _ (V.new _)⟩
theorem Lv.mulL (V : Lv s0 ks P L s) {i : Nat} {n : Int} {xs : List D} (h1 : s[i]? = some (.lst xs)) (h0 : 0 ≤ n) (hn : n ≤ 1000) (hb : xs.length ≤ 1000) (h : ∀ k s1, Lv s0 ks P ((k, .lst (List.replicate n.toNat xs).flatten) :: L) s1 → QD (.ob k) s1) : wp (binD .Mult (.ob i) (.int n)) QD s := by
  have hbig : bigN = 16777216 := rfl
  have hm : xs.length * n.toNat ≤ 1000 * 1000 := Nat.mul_le_mul hb (by omega)
  refine ⟨_, _, ?_, h _ _ (V.new _)⟩
  simp only [binD, mulD, h1]
  rw [if_pos ⟨by omega, by omega, by omega⟩]
theorem Lv.mk' (V : Lv s0 ks P L s) {c : Str} {g : List D → M D} {ds : List D} (h : ∀ k s1, Lv s0 ks P ((k, .ins c []) :: L) s1 → wp (g (.ob k :: ds)) (fun d s => d = .non ∧ QD (.ob k) s) s1) : wp (mkD c g ds) QD s := x_mk.mpr (h _ _ (V.new _))
theorem Lv.setFld (V : Lv s0 ks P L s) (k : Nat) {j : Nat} {c f : Str} {fs : List (Str × D)} {d : D} {fl : Str → Str → Bool} (hk : L[k]? = some (j, .ins c fs)) (hf : fl c f = true) (hl : fs.length < 900) (h : ∀ s1, Lv s0 ks P (L.set k (j, .ins c (putFd f d fs))) s1 → QU () s1) : wp (setFldD fl f (.ob j) d) QU s := by
  rw [x_setFld (V.get k hk)]
  exact ⟨⟨hf, hl⟩, h _ (V.set k _ hk)⟩
end
section
variable {C : Cts} {env : Env} {QD : D → Store → Prop} {QB : Bool → Store → Prop} {QL : List D → Store → Prop} {st : Store}
theorem wp_lstA {es : Exs} : wp ((bo C (.lst es)).1 env) QD st ↔ wp (evs C es env) (fun ds s => ds.length ≤ bigN ∧ wp (alloc (.lst ds)) QD s) st := by simp only [wp_alloc]; exact wp_lst
theorem wp_dict0A : wp ((bo C .dict0).1 env) QD st ↔ wp (alloc (.dct [])) QD st := by simp only [wp_alloc]; exact wp_dict0
theorem wp_dictA {ks : List Str} {es : Exs} : wp ((bo C (.dict ks es)).1 env) QD st ↔ wp (evs C es env) (fun ds s => (ks.length = ds.length ∧ ks.length ≤ 15) ∧ wp (alloc (.dct ((ks.map D.str).zip ds))) QD s) st := by simp only [wp_alloc]; exact wp_dictX
theorem wp_lcA {own : List Nat} {src : Src} {tg : Tg} {c : Exo} {e : Ex} : wp ((bo C (.lc own src tg c e)).1 env) QD st ↔ wp (srcE C src env) (fun p s => wp (loopC p.2 (compF tg own env (tsto C c) (bo C e).1) p.1) (fun ds s => ds.length ≤ bigN ∧ wp (alloc (.lst ds)) QD s) s) st := by simp only [wp_alloc]; exact wp_lc
theorem wp_ssc {own : List Nat} {src : Src} {tg : Tg} {c : Exo} {e : Ex} : wp ((bo C (.ssc own src tg c e)).1 env) QD st ↔ wp (srcE C src env) (fun p s => wp (loopC p.2 (compF tg own env (tsto C c) (bo C e).1) p.1) (fun ds s1 => wp (ssetL ds) QD s1) s) st := by
  conv => lhs; unfold bo
  simp only [wp_bind]
theorem wp_prim {p : Prm} {es : Exs} : wp ((bo C (.prim p es)).1 env) QD st ↔ wp (evs C es env) (fun ds s => wp (primD p ds) QD s) st := by
  conv => lhs; unfold bo
  simp only [wp_bind]
theorem x_ssetL {ds : List D} {is : List Int} (h : intsOf ds = some is) : wp (ssetL ds) QD st ↔ is.length ≤ 4000 ∧ wp (alloc (.lst ((sortU is).map D.int))) QD st := by
  simp only [wp_alloc]
  unfold ssetL
  by_cases hl : is.length ≤ 4000
  · simp only [wp, h, hl, if_true, true_and]
    constructor
    · rintro ⟨a, s, e, q⟩; cases e; exact q
    · intro q; exact ⟨_, _, rfl, q⟩
  · simp only [wp, h, hl, if_false, false_and, iff_false]
    rintro ⟨a, s, e, q⟩; cases e
theorem x_sset {j : Nat} {xs : List D} {is : List Int} (hj : st[j]? = some (.lst xs)) (h : intsOf xs = some is) : wp (primD .sset [.ob j]) QD st ↔ is.length ≤ 4000 ∧ wp (alloc (.lst ((sortU is).map D.int))) QD st := by
  rw [← x_ssetL h]
  simp only [wp, primD, itemsL, hj]
theorem x_vals {j : Nat} {kvs : List (D × D)} (hj : st[j]? = some (.dct kvs)) : wp (primD .vals [.ob j]) QD st ↔ wp (alloc (.lst (kvs.map (·.2)))) QD st := by
  simp only [wp_alloc]
  simp only [wp, primD, valsD, hj]
  constructor
  · rintro ⟨a, s, e, q⟩; cases e; exact q
  · intro q; exact ⟨_, _, rfl, q⟩
theorem wp_dcA {own : List Nat} {src : Src} {tg : Tg} {c : Exo} {k v : Ex} : wp ((bo C (.dc own src tg c k v)).1 env) QD st ↔ wp (srcE C src env) (fun p s => wp (loopC p.2 (compF tg own env (tsto C c) (pairM (bo C k).1 (bo C v).1)) p.1) (fun ds s => wp (dctR ds) QD s) s) st := by
  conv => lhs; unfold bo
  simp only [wp_bind]
theorem wp_pairM {mk mv : Env → M D} : wp (pairM mk mv env) QD st ↔ wp (mk env) (fun k s => wp (mv env) (fun v s => QD (.tup [k, v]) s) s) st := by
  unfold pairM
  simp only [wp_bind, wp_ret, wp_rt]
theorem x_dctR {ds : List D} {kvs : List (D × D)} (h : dctOf ds [] = some kvs) : wp (dctR ds) QD st ↔ ds.length ≤ bigN ∧ wp (alloc (.dct kvs)) QD st := by
  rw [wp_alloc]
  unfold wp
  simp only [dctR, h]
  constructor
  · rintro ⟨a, s, e, q⟩
    split at e
    · rename_i hk; cases e; exact ⟨hk, q⟩
    · cases e
  · rintro ⟨hk, q⟩
    exact ⟨_, _, by rw [if_pos hk], q⟩
theorem x_slFA {xs : List D} {lo hi : Option Int} : wp (slD (.fls xs) lo hi) QD st ↔ wp (alloc (.lst (cutL xs lo hi))) QD st := by simp only [wp_alloc]; exact x_slF
theorem x_slLA {j : Nat} {xs : List D} {lo hi : Option Int} (h : st[j]? = some (.lst xs)) : wp (slD (.ob j) lo hi) QD st ↔ wp (alloc (.lst (cutL xs lo hi))) QD st := by simp only [wp_alloc]; exact x_slL h
theorem x_listT {xs : List D} : wp (biD .list [.tup xs]) QD st ↔ wp (alloc (.lst xs)) QD st := Iff.rfl
theorem x_listL {j : Nat} {xs : List D} (h : st[j]? = some (.lst xs)) : wp (biD .list [.ob j]) QD st ↔ wp (alloc (.lst xs)) QD st := by
  rw [wp_alloc]; exact wp_ok (by simp only [biD, itemsL, h])
theorem x_tupT {xs : List D} : wp (biD .tuple [.tup xs]) QD st ↔ QD (.tup xs) st := wp_ok rfl
theorem wp_negX {a : Ex} : wp ((bo C (.neg a)).1 env) QD st ↔ wp ((bo C a).1 env) (fun x s => wp (negD x) QD s) st := by
  conv => lhs; unfold bo
  simp only [wp_bind]
theorem x_negI {i : Int} : wp (negD (.int i)) QD st ↔ QD (.int (-i)) st := wp_ok rfl
theorem wp_and {a b : Ex} : wp ((bo C (.and a b)).1 env) QD st ↔ wp ((bo C a).1 env) (blQ fun r s => if r = true then wp ((bo C b).1 env) QD s else QD (.bl false) s) st := by
  conv => lhs; unfold bo
  rw [wp_bind]
  constructor
  · exact fun h => wp_mono h fun d s q => by
      cases d with
      | bl b => cases b with
        | true => exact q
        | false => exact wp_ret.mp q
      | _ => exact wp_no.mp q
  · exact fun h => wp_mono h fun d s q => by
      cases d with
      | bl b => cases b with
        | true => exact q
        | false => exact wp_ret.mpr q
      | _ => exact q.elim
theorem wp_or {a b : Ex} : wp ((bo C (.or a b)).1 env) QD st ↔ wp ((bo C a).1 env) (blQ fun r s => if r = true then QD (.bl true) s else wp ((bo C b).1 env) QD s) st := by
  conv => lhs; unfold bo
  rw [wp_bind]
  constructor
  · exact fun h => wp_mono h fun d s q => by
      cases d with
      | bl b => cases b with
        | true => exact wp_ret.mp q
        | false => exact q
      | _ => exact wp_no.mp q
  · exact fun h => wp_mono h fun d s q => by
      cases d with
      | bl b => cases b with
        | true => exact wp_ret.mpr q
        | false => exact q
      | _ => exact q.elim
theorem wp_not {a : Ex} : wp ((bo C (.not a)).1 env) QD st ↔ wp ((bo C a).1 env) (blQ fun r s => QD (.bl (!r)) s) st := by
  conv => lhs; unfold bo
  rw [wp_bind]
  constructor
  · exact fun h => wp_mono h fun d s q => by
      cases d with
      | bl b => exact wp_ret.mp q
      | _ => exact wp_no.mp q
  · exact fun h => wp_mono h fun d s q => by
      cases d with
      | bl b => exact wp_ret.mpr q
      | _ => exact q.elim
theorem wp_chain {o1 o2 : CmpOp} {a b c : Ex} : wp ((bo C (.chain o1 o2 a b c)).1 env) QD st ↔ wp ((bo C a).1 env) (fun x s => wp ((bo C b).1 env) (fun y s => wp (cmpD o1 x y) (blQ fun r s => if r = true then wp ((bo C c).1 env) (fun z s => wp (cmpD o2 y z) QD s) s else QD (.bl false) s) s) s) st := by
  conv => lhs; unfold bo
  simp only [wp_bind]
  constructor
  · exact fun h => wp_mono h fun x s q => wp_mono q fun y s q => wp_mono q fun d s q => by
      cases d with
      | bl b => cases b with
        | true => exact wp_bind.mp q
        | false => exact wp_ret.mp q
      | _ => exact wp_no.mp q
  · exact fun h => wp_mono h fun x s q => wp_mono q fun y s q => wp_mono q fun d s q => by
      cases d with
      | bl b => cases b with
        | true => exact wp_bind.mpr q
        | false => exact wp_ret.mpr q
      | _ => exact q.elim
theorem wp_iteT {c a b : Ex} : wp ((bo C (.ite c a b)).2 env) QB st ↔ wp ((bo C c).2 env) (fun r s => if r = true then wp ((bo C a).2 env) QB s else wp ((bo C b).2 env) QB s) st := by
  conv => lhs; unfold bo
  simp only [wp_bind, wp_ite]
theorem x_slS {z : Str} {lo hi : Option Int} : wp (slD (.str z) lo hi) QD st ↔ z.length ≤ bigN ∧ QD (.str (cutS z lo hi)) st := wp_gd
end
/-! ### several targets -/
def setAll : Env → List Nat → List D → Env
  | env, i :: is, x :: xs => setAll (env.set i (some x)) is xs
  | env, _, _ => env
theorem setAll_cons {env : Env} {i : Nat} {is : List Nat} {x : D} {xs : List D} : setAll env (i :: is) (x :: xs) = setAll (env.set i (some x)) is xs := rfl
theorem setAll_nil {env : Env} : setAll env [] [] = env := rfl
theorem setAll_eq : ∀ (is : List Nat) (xs : List D) (env : Env), (is.zip xs).foldl (fun e p => e.set p.1 (some p.2)) env = setAll env is xs
  | [], _, _ => rfl
  | _ :: _, [], _ => rfl
  | i :: is, x :: xs, env => by simp only [List.zip_cons_cons, List.foldl_cons, setAll, setAll_eq is xs]
theorem x_bindT {is : List Nat} {xs : List D} {env : Env} {s : Store} {Q : Env → Prop} : (∃ env1, bindT (.tup is) (.tup xs) env s = some env1 ∧ Q env1) ↔ xs.length = is.length ∧ Q (setAll env is xs) := by
  simp only [bindT, setAll_eq]
  by_cases h : xs.length = is.length
  · simp [h]
  · simp [h]
theorem x_bindL {is : List Nat} {xs : List D} {env : Env} {s : Store} {j : Nat} {Q : Env → Prop} (hj : s[j]? = some (.lst xs)) : (∃ env1, bindT (.tup is) (.ob j) env s = some env1 ∧ Q env1) ↔ xs.length = is.length ∧ Q (setAll env is xs) := by
  simp only [bindT, hj, setAll_eq]
  by_cases h : xs.length = is.length
  · simp [h]
  · simp [h]
/-! ### loops -/
section
variable {α : Type} {gd : List (Nat × List D)} {st : Store}
theorem loopC_map {f : D → M (Option D)} (e q : α → D) (p : α → Bool) (hg : gdOk st gd = true) : ∀ (L : List α), (∀ a ∈ L, wp (f (e a)) (fun o s => o = (if p a = true then some (q a) else none) ∧ s = st) st) → wp (loopC gd f (L.map e)) (fun ds s => ds = (L.filter p).map q ∧ s = st) st
  | [], _ => ⟨[], st, by simp only [List.map_nil, loopC, hg, if_true], rfl, rfl⟩
  | a :: L, h => by
    obtain ⟨o, s1, e1, z1, z2⟩ := h a List.mem_cons_self
    obtain ⟨ds, s2, e2, z3, z4⟩ := loopC_map e q p hg L fun b hb => h b (List.mem_cons_of_mem _ hb)
    rw [z1, z2] at e1
    rw [z3, z4] at e2
    refine ⟨(if p a = true then some (q a) else none).toList ++ (L.filter p).map q, st, by simp only [List.map_cons, loopC, hg, if_true, e1, e2], ?_, rfl⟩
    cases hp : p a <;> simp [hp]
/-- .. of all -/
theorem loopC_all {f : D → M (Option D)} (e q : α → D) (hg : gdOk st gd = true) (L : List α) (h : ∀ a ∈ L, wp (f (e a)) (fun o s => o = some (q a) ∧ s = st) st) : wp (loopC gd f (L.map e)) (fun ds s => ds = L.map q ∧ s = st) st := by
  have := loopC_map (gd := gd) e q (fun _ => true) hg L fun a ha => by simpa using h a ha
  rw [show L.filter (fun _ => true) = L from List.filter_eq_self.mpr fun _ _ => rfl] at this
  exact this
/-- a comprehension with an invariant of the store -/
theorem loopC_inv {f : D → M (Option D)} (e : α → D) (L : List α) (I : List α → List D → Store → Prop)
    (hs : ∀ P a R ds s, L = P ++ a :: R → I P ds s → gdOk s gd = true ∧ wp (f (e a)) (fun o s1 => I (P ++ [a]) (ds ++ o.toList) s1) s)
    (hz : ∀ ds s, I L ds s → gdOk s gd = true) (h : I [] [] st) : wp (loopC gd f (L.map e)) (fun ds s => I L ds s) st := by
  have key : ∀ (R P : List α) (ds : List D) (s : Store), L = P ++ R → I P ds s → wp (loopC gd f (R.map e)) (fun es s => I L (ds ++ es) s) s := by
    intro R
    induction R with
    | nil =>
      intro P ds s hL hI
      rw [List.append_nil] at hL
      subst hL
      exact ⟨[], s, by simp only [List.map_nil, loopC, hz _ _ hI, if_true], by show I L (ds ++ []) s; rw [List.append_nil]; exact hI⟩
    | cons a R ih =>
      intro P ds s hL hI
      obtain ⟨h1, o, s1, e1, q⟩ := hs P a R ds s hL hI
      have hL' : L = (P ++ [a]) ++ R := by rw [hL]; simp
      obtain ⟨es, s2, e3, q3⟩ := ih (P ++ [a]) (ds ++ o.toList) s1 hL' q
      exact ⟨o.toList ++ es, s2, by simp only [List.map_cons, loopC, h1, if_true, e1, e3], by show I L (ds ++ (o.toList ++ es)) s2; rw [← List.append_assoc]; exact q3⟩
  have := key L [] [] st rfl h
  simpa using this
theorem loopF_map {f : D → Env → M Fl} {Q : Fl → Store → Prop} (e : α → D) (L : List α) (I : List α → Env → Store → Prop)
    (hs : ∀ P a R env s, L = P ++ a :: R → I P env s → gdOk s gd = true ∧ wp (f (e a) env) (fun fl s1 => match fl with | .nx e1 => I (P ++ [a]) e1 s1 | .ct e1 => I (P ++ [a]) e1 s1 | .bk e1 => Q (.nx e1) s1 | .ret v => Q (.ret v) s1) s)
    (hz : ∀ env s, I L env s → gdOk s gd = true ∧ Q (.nx env) s) {env : Env} (h : I [] env st) : wp (loopF gd f (L.map e) env) Q st := by
  have key : ∀ (R P : List α) (env : Env) (s : Store), L = P ++ R → I P env s → wp (loopF gd f (R.map e) env) Q s := by
    intro R
    induction R with
    | nil =>
      intro P env s hL hI
      rw [List.append_nil] at hL
      subst hL
      obtain ⟨h1, h2⟩ := hz env s hI
      exact ⟨.nx env, s, by simp only [List.map_nil, loopF, h1, if_true], h2⟩
    | cons a R ih =>
      intro P env s hL hI
      obtain ⟨h1, fl, s1, e1, q⟩ := hs P a R env s hL hI
      have hL' : L = (P ++ [a]) ++ R := by rw [hL]; simp
      cases fl with
      | nx e2 =>
        obtain ⟨x, s2, e3, q3⟩ := ih (P ++ [a]) e2 s1 hL' q
        exact ⟨x, s2, by simp only [List.map_cons, loopF, h1, if_true, e1]; exact e3, q3⟩
      | ct e2 =>
        obtain ⟨x, s2, e3, q3⟩ := ih (P ++ [a]) e2 s1 hL' q
        exact ⟨x, s2, by simp only [List.map_cons, loopF, h1, if_true, e1]; exact e3, q3⟩
      | bk e2 => exact ⟨.nx e2, s1, by simp only [List.map_cons, loopF, h1, if_true, e1], q⟩
      | ret v => exact ⟨.ret v, s1, by simp only [List.map_cons, loopF, h1, if_true, e1], q⟩
  exact key L [] env st rfl h
/-- turns that all go on -/
theorem loopF_nx {f : D → Env → M Fl} {Q : Fl → Store → Prop} (e : α → D) (L : List α) (I : List α → Env → Store → Prop)
    (hs : ∀ P a R env s, L = P ++ a :: R → I P env s → gdOk s gd = true ∧ wp (f (e a) env) (fun fl s1 => ∃ e1, fl = .nx e1 ∧ I (P ++ [a]) e1 s1) s)
    (hz : ∀ env s, I L env s → gdOk s gd = true ∧ Q (.nx env) s) {env : Env} (h : I [] env st) : wp (loopF gd f (L.map e) env) Q st :=
  loopF_map e L I (fun P a R env s hL hI => ⟨(hs P a R env s hL hI).1, wp_mono (hs P a R env s hL hI).2 fun fl s1 ⟨e1, h1, h2⟩ => by subst h1; exact h2⟩) hz h
end
theorem big0 : (0 ≤ bigN) = True := eq_true (by decide)
theorem big1 : (1 ≤ bigN) = True := eq_true (by decide)
theorem big2 : (2 ≤ bigN) = True := eq_true (by decide)
theorem big3 : (3 ≤ bigN) = True := eq_true (by decide)
theorem big4 : (4 ≤ bigN) = True := eq_true (by decide)
theorem big5 : (5 ≤ bigN) = True := eq_true (by decide)
theorem big6 : (6 ≤ bigN) = True := eq_true (by decide)
theorem big7 : (7 ≤ bigN) = True := eq_true (by decide)
theorem big8 : (8 ≤ bigN) = True := eq_true (by decide)
theorem big9 : (9 ≤ bigN) = True := eq_true (by decide)
theorem big10 : (10 ≤ bigN) = True := eq_true (by decide)
theorem loopF_enum {α : Type} {gd : List (Nat × List D)} {st : Store} {f : D → Env → M Fl} {Q : Fl → Store → Prop} (e : α → D) (L : List α) (I : List α → Env → Store → Prop)
    (hs : ∀ P a R env s, L = P ++ a :: R → I P env s → gdOk s gd = true ∧ wp (f (.tup [.int (P.length : Nat), e a]) env) (fun fl s1 => ∃ e1, fl = .nx e1 ∧ I (P ++ [a]) e1 s1) s)
    (hz : ∀ env s, I L env s → gdOk s gd = true ∧ Q (.nx env) s) {env : Env} (h : I [] env st) : wp (loopF gd f (pairs 0 (L.map e)) env) Q st := by
  have key : ∀ (R P : List α) (env : Env) (s : Store), L = P ++ R → I P env s → wp (loopF gd f (pairs P.length (R.map e)) env) Q s := by
    intro R
    induction R with
    | nil =>
      intro P env s hL hI
      rw [List.append_nil] at hL
      subst hL
      obtain ⟨h1, h2⟩ := hz env s hI
      exact ⟨.nx env, s, by simp only [List.map_nil, pairs, loopF, h1, if_true], h2⟩
    | cons a R ih =>
      intro P env s hL hI
      obtain ⟨h1, fl, s1, e1, e2, rfl, q⟩ := hs P a R env s hL hI
      have hL' : L = (P ++ [a]) ++ R := by rw [hL]; simp
      obtain ⟨x, s2, e3, q3⟩ := ih (P ++ [a]) e2 s1 hL' q
      rw [List.length_append] at e3
      exact ⟨x, s2, by simp only [List.map_cons, pairs, loopF, h1, if_true, e1]; exact e3, q3⟩
  exact key L [] env st rfl h
theorem blsOf_map : ∀ bs : List Bool, blsOf (bs.map D.bl) = some bs
  | [] => rfl
  | b :: bs => by simp only [List.map_cons, blsOf, blsOf_map bs]
theorem x_allL {j : Nat} {bs : List Bool} {st : Store} {QD : D → Store → Prop} (h : st[j]? = some (.lst (bs.map D.bl))) : wp (biD .all [.ob j]) QD st ↔ QD (.bl (bs.all id)) st := wp_ok (by simp only [biD, itemsL, h, blsOf_map])
theorem x_anyL {j : Nat} {bs : List Bool} {st : Store} {QD : D → Store → Prop} (h : st[j]? = some (.lst (bs.map D.bl))) : wp (biD .any [.ob j]) QD st ↔ QD (.bl (bs.any id)) st := wp_ok (by simp only [biD, itemsL, h, blsOf_map])
theorem intsOf_map : ∀ is : List Int, intsOf (is.map D.int) = some is
  | [] => rfl
  | i :: is => by simp only [List.map_cons, intsOf, intsOf_map is]
theorem x_maxL {j : Nat} {i : Int} {is : List Int} {st : Store} {QD : D → Store → Prop} (h : st[j]? = some (.lst ((i :: is).map D.int))) : wp (biD .max [.ob j]) QD st ↔ QD (.int (maxI i is)) st := wp_ok (by simp only [biD, itemsL, h, intsOf_map])
theorem x_enumL {j : Nat} {xs : List D} {st : Store} {QS : SI → Store → Prop} (h : st[j]? = some (.lst xs)) : wp (enumS (.ob j)) QS st ↔ QS (pairs 0 xs, [(j, xs)]) st := wp_ok (by simp only [enumS, h])
theorem gd_none {s : Store} : gdOk s [] = true := rfl
theorem gd_lst {s : Store} {j : Nat} {xs : List D} (h : s[j]? = some (.lst xs)) : gdOk s [(j, xs)] = true := gd_one.mpr h
theorem rngI_map (n : Int) : rngI 0 n = (List.range n.toNat).map fun i : Nat => D.int (i : Nat) := by
  unfold rngI
  rw [Int.sub_zero]
  simp only [Int.zero_add]
theorem rng_okc {c : Int} (h0 : 0 ≤ c) (h1 : c ≤ 100000000) : rngOk c = true := by
  unfold rngOk
  simp only [Bool.and_eq_true, decide_eq_true_eq]
  omega
theorem imax' {a b : Int} : (if b > a then b else a) = max a b := by split <;> omega
theorem imin' {a b : Int} : (if b < a then b else a) = min a b := by split <;> omega
theorem cutL_drop {α : Type} (l : List α) {m : Int} (h : 0 ≤ m) : cutL l (some m) none = l.drop m.toNat := by
  unfold cutL
  simp only [HT.sIx]
  rw [if_neg (by omega)]
  by_cases hl : m.toNat ≤ l.length
  · rw [Nat.min_eq_left hl, List.take_of_length_le (by rw [List.length_drop]; omega)]
  · rw [Nat.min_eq_right (by omega), List.drop_of_length_le (by omega), List.drop_of_length_le (by omega)]
    simp
theorem cutL_take {α : Type} (l : List α) {m : Int} (h : 0 ≤ m) : cutL l none (some m) = l.take m.toNat := by
  unfold cutL
  simp only [HT.sIx, List.drop_zero, Nat.sub_zero]
  rw [if_neg (by omega)]
  by_cases hl : m.toNat ≤ l.length
  · rw [Nat.min_eq_left hl]
  · rw [Nat.min_eq_right (by omega), List.take_of_length_le (by omega), List.take_of_length_le (by omega)]
end W9

/-! W9L: the reading of logs -/
namespace W9
open PySem L2
section
variable {α : Type} {gd : List (Nat × List D)} {st : Store}
theorem gd_pre {s : Store} (h : gdOk st gd = true) (p : st <+: s) : gdOk s gd = true := by
  induction gd with
  | nil => rfl
  | cons q r ih =>
    obtain ⟨j, xs⟩ := q
    simp only [gdOk, Bool.and_eq_true, decide_eq_true_eq] at h ⊢
    refine ⟨?_, ih h.2⟩
    obtain ⟨t, rfl⟩ := p
    rw [List.getElem?_append_left (List.getElem?_eq_some_iff.mp h.1).1]; exact h.1
/-- a comprehension whose turns leave the store as it is -/
theorem wp_loopC_map {f : D → M (Option D)} (e q : α → D) (p : α → Bool) (hg : gdOk st gd = true) : ∀ (L : List α), (∀ a ∈ L, wp (f (e a)) (fun o s => o = (if p a = true then some (q a) else none) ∧ s = st) st) → wp (loopC gd f (L.map e)) (fun ds s => ds = (L.filter p).map q ∧ s = st) st
  | [], _ => ⟨[], st, by simp only [List.map_nil, loopC, hg, if_true], rfl, rfl⟩
  | a :: L, h => by
    obtain ⟨o, s1, e1, z1, z2⟩ := h a List.mem_cons_self
    obtain ⟨ds, s2, e2, z3, z4⟩ := wp_loopC_map e q p hg L fun b hb => h b (List.mem_cons_of_mem _ hb)
    rw [z1, z2] at e1
    rw [z3, z4] at e2
    refine ⟨(if p a = true then some (q a) else none).toList ++ (L.filter p).map q, st, by simp only [List.map_cons, loopC, hg, if_true, e1, e2], ?_, rfl⟩
    cases hp : p a <;> simp [hp]
/-- .. or leave garbage -/
theorem wp_loopC_mapG {f : D → M (Option D)} (e q : α → D) (p : α → Bool) (hg : gdOk st gd = true) : ∀ (L : List α) (s : Store), st <+: s → (∀ a ∈ L, ∀ s, st <+: s → wp (f (e a)) (fun o s1 => o = (if p a = true then some (q a) else none) ∧ s <+: s1) s) → wp (loopC gd f (L.map e)) (fun ds s1 => ds = (L.filter p).map q ∧ s <+: s1) s
  | [], s, hp, _ => ⟨[], s, by simp only [List.map_nil, loopC, gd_pre hg hp, if_true], rfl, List.prefix_refl _⟩
  | a :: L, s, hp, h => by
    obtain ⟨o, s1, e1, rfl, p1⟩ := h a List.mem_cons_self s hp
    obtain ⟨ds, s2, e2, rfl, p2⟩ := wp_loopC_mapG e q p hg L s1 (hp.trans p1) fun b hb => h b (List.mem_cons_of_mem _ hb)
    refine ⟨(if p a = true then some (q a) else none).toList ++ (L.filter p).map q, s2, by simp only [List.map_cons, loopC, gd_pre hg hp, if_true, e1, e2], ?_, p1.trans p2⟩
    cases hp : p a <;> simp [hp]
theorem wp_loopF_map {f : D → Env → M Fl} {Q : Fl → Store → Prop} (e : α → D) (L : List α) (I : List α → Env → Store → Prop)
    (hs : ∀ P a R env s, L = P ++ a :: R → I P env s → gdOk s gd = true ∧ wp (f (e a) env) (fun fl s1 => match fl with | .nx e1 => I (P ++ [a]) e1 s1 | .ct e1 => I (P ++ [a]) e1 s1 | .bk e1 => Q (.nx e1) s1 | .ret v => Q (.ret v) s1) s)
    (hz : ∀ env s, I L env s → gdOk s gd = true ∧ Q (.nx env) s) {env : Env} (h : I [] env st) : wp (loopF gd f (L.map e) env) Q st := by
  have key : ∀ (R P : List α) (env : Env) (s : Store), L = P ++ R → I P env s → wp (loopF gd f (R.map e) env) Q s := by
    intro R
    induction R with
    | nil =>
      intro P env s hL hI
      rw [List.append_nil] at hL
      subst hL
      obtain ⟨h1, h2⟩ := hz env s hI
      exact ⟨.nx env, s, by simp only [List.map_nil, loopF, h1, if_true], h2⟩
    | cons a R ih =>
      intro P env s hL hI
      obtain ⟨h1, fl, s1, e1, q⟩ := hs P a R env s hL hI
      have hL' : L = (P ++ [a]) ++ R := by rw [hL]; simp
      cases fl with
      | nx e2 =>
        obtain ⟨x, s2, e3, q3⟩ := ih (P ++ [a]) e2 s1 hL' q
        exact ⟨x, s2, by simp only [List.map_cons, loopF, h1, if_true, e1]; exact e3, q3⟩
      | ct e2 =>
        obtain ⟨x, s2, e3, q3⟩ := ih (P ++ [a]) e2 s1 hL' q
        exact ⟨x, s2, by simp only [List.map_cons, loopF, h1, if_true, e1]; exact e3, q3⟩
      | bk e2 => exact ⟨.nx e2, s1, by simp only [List.map_cons, loopF, h1, if_true, e1], q⟩
      | ret v => exact ⟨.ret v, s1, by simp only [List.map_cons, loopF, h1, if_true, e1], q⟩
  exact key L [] env st rfl h
end
/-! ### records and entries -/
inductive Rec where
  | word (g : Str) (n : Int) (dl : Option Int) (k t : Str) (tm : Int)
  | fin (g : Str) (dl : Int) (b : Bool)
def Rec.giver : Rec → Str
  | .word g _ _ _ _ _ => g
  | .fin g _ _ => g
def optD : Option Int → D
  | none => .non
  | some i => .int i
def recD : Rec → D
  | .word g n dl k t tm => .tup [.str "word", .str g, .int n, optD dl, .str k, .str t, .int tm]
  | .fin g dl b => .tup [.str "end", .str g, .int dl, .bl b]
abbrev Ent := Int × Rec
def entD (e : Ent) : D := .tup [.int e.1, recD e.2]
def Wf (L : List Ent) : Prop := ∀ e ∈ L, e.2.giver ≠ "book"
theorem Wf.sub {L M : List Ent} (h : Wf L) (s : ∀ e ∈ M, e ∈ L) : Wf M := fun e he => h e (s e he)
/-- a list of entries, as a tuple or as a list of the store -/
def LogAt (x : D) (st : Store) (L : List Ent) : Prop := x = .tup (L.map entD) ∨ ∃ j, x = .ob j ∧ st[j]? = some (.lst (L.map entD))
theorem LogAt.pre {x : D} {st s : Store} {L : List Ent} (h : LogAt x st L) (p : st <+: s) : LogAt x s L := by
  rcases h with h | ⟨j, h1, h2⟩
  · exact .inl h
  · obtain ⟨t, rfl⟩ := p
    exact .inr ⟨j, h1, by rw [List.getElem?_append_left (List.getElem?_eq_some_iff.mp h2).1]; exact h2⟩
theorem LogAt.kp {x : D} {st s : Store} {L : List Ent} {ks : List Nat} (h : LogAt x st L) (p : Kp ks st s) (hk : ∀ j ∈ ks, x ≠ .ob j) : LogAt x s L := by
  rcases h with h | ⟨j, h1, h2⟩
  · exact .inl h
  · exact .inr ⟨j, h1, p.at' j _ (fun z => hk j z h1) h2⟩
theorem logAt_seq {x : D} {st : Store} {L : List Ent} (h : LogAt x st L) : ∃ gd, gdOk st gd = true ∧ (gd = [] ∨ ∃ j, x = .ob j ∧ gd = [(j, L.map entD)]) ∧ ∀ QS : SI → Store → Prop, wp (seqS x) QS st ↔ QS (L.map entD, gd) st := by
  rcases h with rfl | ⟨j, rfl, h2⟩
  · exact ⟨[], rfl, .inl rfl, fun QS => x_seqT⟩
  · exact ⟨[(j, L.map entD)], by simp [gdOk, h2], .inr ⟨j, rfl, rfl⟩, fun QS => x_seqL h2⟩
def below_b : Sms :=
  (.cons (.ret (.lc [2] (.seq (.var 0)) (.name 2) (.some (.cmp .Lt (.idx (.var 2) (.cst (.int 0))) (.var 1))) (.var 2)))
    .nil)
abbrev ltE (e : Int) : Ent → Bool := fun p => decide (p.1 < e)
theorem atE (e : Ent) : atI [D.int e.1, recD e.2] 0 = some (.int e.1) := rfl
theorem below_wp {C : Cts} {x : D} {e : Int} {L : List Ent} {st : Store} {QD : D → Store → Prop} (h : LogAt x st L) (hl : L.length ≤ bigN) (q : QD (.ob st.length) (st ++ [.lst ((L.filter (ltE e)).map entD)])) :
    wp (callDef C 3 below_b [x, .int e]) QD st := by
  obtain ⟨gd, hg, _, hs⟩ := logAt_seq h
  unfold below_b
  simp only [wp_callDef, wp_cons, wp_nil, wp_asg, wp_expr, wp_retS, wp_retN, wp_iteS, wp_pass, wp_brk, wp_cont, wp_setIx, wp_augX, wp_asgT, wp_for, wp_varX, wp_cst, wp_bin, wp_cmp, wp_cmpT, wp_chainT, wp_andT, wp_orT, wp_notT, wp_iteE, wp_idx, wp_sl, wp_call, wp_callK, wp_call0, wp_globX, wp_dictX, wp_bi, wp_tup, wp_lst, wp_dict0, wp_meth, wp_lc, wp_evs_nil, wp_evs_cons, wp_evo_none, wp_evo_some, wp_seq, wp_enum, wp_rng1, wp_rng2, wp_idxT, wp_varT, wp_callT, wp_callKT, wp_biT, x_truB, tsto_none, tsto_some,
  seqQ_nx, seqQ_ret, seqQ_bk, seqQ_ct, endQ_ret, endQ_nx, varQ_some, lstQ_some, dctQ_some, optQ_some, blQ_bl, inQ_int, rgQ_int, rg2Q_int,
  x_eqSS, x_eqII, x_neSS, x_neII, str_we, str_ew, decide_true, decide_false, if_true, if_false, Bool.false_eq_true, reduceIte, x_addI, x_addT, x_addS, x_addL, x_subI, x_mulI, x_divI, x_modI, x_powI, x_ltI, x_leI, x_gtI, x_geI, x_is, x_isnot, x_isB, x_isNB, x_ixT, x_ixF, x_abs, x_lenT, x_lenF, x_intI, x_intB, x_max2, x_min2, x_seqT, x_seqF, x_slT, x_slF,
  List.map_cons, List.map_nil, List.length_cons, List.length_nil, List.cons_append, List.nil_append, List.replicate_succ, List.replicate_zero, Nat.reduceSub, Nat.reduceAdd, List.set_cons_zero, List.set_cons_succ, List.getElem?_cons_zero, List.getElem?_cons_succ, Nat.add_zero, Nat.zero_add, Nat.sub_self, decide_eq_true_eq, hs]
  have key := wp_loopC_map (f := compF (.name 2) [2] [some x, some (.int e), none] (tsto C (.some (.cmp .Lt (.idx (.var 2) (.cst (.int 0))) (.var 1)))) (bo C (.var 2)).1) entD entD (ltE e) hg L (fun a ha => by
    rw [wp_compF (env1 := [some x, some (.int e), some (entD a)]) rfl]
    unfold entD
    simp only [wp_callDef, wp_cons, wp_nil, wp_asg, wp_expr, wp_retS, wp_retN, wp_iteS, wp_pass, wp_brk, wp_cont, wp_setIx, wp_augX, wp_asgT, wp_for, wp_varX, wp_cst, wp_bin, wp_cmp, wp_cmpT, wp_chainT, wp_andT, wp_orT, wp_notT, wp_iteE, wp_idx, wp_sl, wp_call, wp_callK, wp_call0, wp_globX, wp_dictX, wp_bi, wp_tup, wp_lst, wp_dict0, wp_meth, wp_lc, wp_evs_nil, wp_evs_cons, wp_evo_none, wp_evo_some, wp_seq, wp_enum, wp_rng1, wp_rng2, wp_idxT, wp_varT, wp_callT, wp_callKT, wp_biT, x_truB, tsto_none, tsto_some,
  seqQ_nx, seqQ_ret, seqQ_bk, seqQ_ct, endQ_ret, endQ_nx, varQ_some, lstQ_some, dctQ_some, optQ_some, blQ_bl, inQ_int, rgQ_int, rg2Q_int,
  x_eqSS, x_eqII, x_neSS, x_neII, str_we, str_ew, decide_true, decide_false, if_true, if_false, Bool.false_eq_true, reduceIte, x_addI, x_addT, x_addS, x_addL, x_subI, x_mulI, x_divI, x_modI, x_powI, x_ltI, x_leI, x_gtI, x_geI, x_is, x_isnot, x_isB, x_isNB, x_ixT, x_ixF, x_abs, x_lenT, x_lenF, x_intI, x_intB, x_max2, x_min2, x_seqT, x_seqF, x_slT, x_slF,
  List.map_cons, List.map_nil, List.length_cons, List.length_nil, List.cons_append, List.nil_append, List.replicate_succ, List.replicate_zero, Nat.reduceSub, Nat.reduceAdd, List.set_cons_zero, List.set_cons_succ, List.getElem?_cons_zero, List.getElem?_cons_succ, Nat.add_zero, Nat.zero_add, Nat.sub_self, decide_eq_true_eq, atE]
    by_cases h : a.1 < e
    · simp [h, ltE, wp_varX, varQ_some]
    · simp [h, ltE])
  refine wp_mono key fun ds s ⟨h1, h2⟩ => ?_
  subst h1 h2
  exact ⟨by rw [List.length_map]; exact Nat.le_trans (List.length_filter_le _ _) hl, q⟩
end W9

/-! W9M: first_ends, stop_of, settled, visible -/
namespace W9
open PySem L2
theorem x_notinK {QD : D → Store → Prop} {st : Store} {j : Nat} {k : D} {kvs : List (D × D)} (h : st[j]? = some (.dct kvs)) : wp (cmpD .NotIn k (.ob j)) QD st ↔ kindOk kvs k = true ∧ QD (.bl (ifn true (getKv kvs k).isSome)) st := x_inK h
theorem x_iniK {QD : D → Store → Prop} {st : Store} {j : Nat} {k : D} {kvs : List (D × D)} (h : st[j]? = some (.dct kvs)) : wp (cmpD .In k (.ob j)) QD st ↔ kindOk kvs k = true ∧ QD (.bl (ifn false (getKv kvs k).isSome)) st := x_inK h
def first_ends_b : Sms :=
  (.cons (.asg 1 .dict0)
    (.cons (.forS (.seq (.var 0)) (.tup [2, 3])
    (.cons (.ite (.cmp .Eq (.idx (.var 3) (.cst (.int 0))) (.cst (.str "end")))
    (.cons (.expr (.meth .setdefault (.var 1) (.cons (.tup (.cons (.idx (.var 3) (.cst (.int 1))) (.cons (.idx (.var 3) (.cst (.int 2))) .nil))) (.cons (.idx (.var 3) (.cst (.int 3))) .nil))))
    .nil)
    .nil)
    .nil))
    (.cons (.ret (.var 1))
    .nil)))
def stop_of_b : Sms :=
  (.cons (.forS (.seq (.var 0)) (.tup [3, 4])
    (.cons (.ite (.and (.cmp .Eq (.idx (.var 4) (.cst (.int 0))) (.cst (.str "word"))) (.and (.cmp .IsNot (.idx (.var 4) (.cst (.int 3))) (.cst .non)) (.cmp .NotIn (.tup (.cons (.idx (.var 4) (.cst (.int 1))) (.cons (.idx (.var 4) (.cst (.int 3))) .nil))) (.var 1))))
    (.cons (.ret (.var 3))
    .nil)
    .nil)
    .nil))
    (.cons (.ret (.var 2))
    .nil))
abbrev endAt (g : Str) (d : Int) : Ent → Option Bool := fun e => match e.2 with
  | .fin g' d' b => if g' = g ∧ d' = d then some b else none
  | _ => none
def fstEnd (L : List Ent) (g : Str) (d : Int) : Option Bool := L.findSome? (endAt g d)
structure EndsK (L : List Ent) (kvs : List (D × D)) : Prop where
  keys : keysP kvs
  len : kvs.length ≤ L.length
  get : ∀ g d, getKv kvs (.tup [.str g, .int d]) = (fstEnd L g d).map D.bl
theorem at4 {a b c d : D} : atI [a, b, c, d] 0 = some a ∧ atI [a, b, c, d] 1 = some b ∧ atI [a, b, c, d] 2 = some c ∧ atI [a, b, c, d] 3 = some d := ⟨rfl, rfl, rfl, rfl⟩
theorem at7 {a b c d e f g : D} : atI [a, b, c, d, e, f, g] 0 = some a ∧ atI [a, b, c, d, e, f, g] 1 = some b ∧ atI [a, b, c, d, e, f, g] 2 = some c ∧ atI [a, b, c, d, e, f, g] 3 = some d ∧ atI [a, b, c, d, e, f, g] 4 = some e ∧ atI [a, b, c, d, e, f, g] 5 = some f ∧ atI [a, b, c, d, e, f, g] 6 = some g :=
  ⟨rfl, rfl, rfl, rfl, rfl, rfl, rfl⟩
theorem fstEnd_snoc (P : List Ent) (a : Ent) (g : Str) (d : Int) : fstEnd (P ++ [a]) g d = (fstEnd P g d).or (endAt g d a) := by
  unfold fstEnd
  rw [List.findSome?_append]
  simp [List.findSome?]
  cases endAt g d a <;> rfl
theorem ends_word {P : List Ent} {kvs : List (D × D)} {p : Int} {g k t : Str} {n tm : Int} {dl : Option Int} (h : EndsK P kvs) : EndsK (P ++ [(p, .word g n dl k t tm)]) kvs :=
  ⟨h.keys, by have := h.len; simp; omega, fun g' d' => by rw [fstEnd_snoc, h.get]; show _ = Option.map _ (Option.or _ none); rw [Option.or_none]⟩
theorem ends_fin {P : List Ent} {kvs : List (D × D)} {p d : Int} {g : Str} {b : Bool} (h : EndsK P kvs) (hg : g ≠ "book") : EndsK (P ++ [(p, .fin g d b)]) (match getKv kvs (.tup [.str g, .int d]) with | some _ => kvs | none => putKv kvs (.tup [.str g, .int d]) (.bl b)) := by
  have hl := h.len
  have hb : g = "book" → d ≠ 0 := fun z => absurd z hg
  cases hk : getKv kvs (.tup [.str g, .int d]) with
  | some x =>
    refine ⟨h.keys, by simp; omega, fun g' d' => ?_⟩
    rw [fstEnd_snoc, h.get]
    cases hf : fstEnd P g' d' with
    | some y => rfl
    | none =>
      simp only [Option.none_or, endAt]
      split
      · rename_i hh
        obtain ⟨rfl, rfl⟩ := hh
        rw [h.get, hf] at hk
        cases hk
      · rfl
  | none =>
    refine ⟨keysP_put h.keys hb _, by have := putKv_len kvs (.tup [.str g, .int d]) (.bl b); simp; omega, fun g' d' => ?_⟩
    rw [getKv_put, fstEnd_snoc]
    by_cases hh : g = g' ∧ d = d'
    · obtain ⟨rfl, rfl⟩ := hh
      rw [h.get] at hk
      have hn : fstEnd P g d = none := by
        cases hf : fstEnd P g d with
        | none => rfl
        | some y => rw [hf] at hk; cases hk
      rw [hn]
      simp [endAt]
    · have : ¬ (D.tup [.str g, .int d] = .tup [.str g', .int d']) := by
        intro e
        simp only [D.tup.injEq, List.cons.injEq, D.str.injEq, D.int.injEq, and_true] at e
        exact hh e
      rw [if_neg this, h.get]
      simp only [endAt, if_neg hh, Option.or_none]
theorem first_ends_wp {C : Cts} {x : D} {L : List Ent} {st : Store} {QD : D → Store → Prop} (h : LogAt x st L) (hw : Wf L) (hl : L.length < bigN) (q : ∀ kvs, EndsK L kvs → QD (.ob st.length) (st ++ [.dct kvs])) :
    wp (callDef C 4 first_ends_b [x]) QD st := by
  have h' : ∀ o, LogAt x (st ++ [o]) L := fun o => h.pre ⟨[o], rfl⟩
  unfold first_ends_b
  simp only [wp_callDef, wp_cons, wp_nil, wp_asg, wp_expr, wp_retS, wp_retN, wp_iteS, wp_pass, wp_brk, wp_cont, wp_setIx, wp_augX, wp_asgT, wp_for, wp_varX, wp_cst, wp_bin, wp_cmp, wp_cmpT, wp_chainT, wp_andT, wp_orT, wp_notT, wp_iteE, wp_idx, wp_sl, wp_call, wp_callK, wp_call0, wp_globX, wp_dictX, wp_bi, wp_tup, wp_lst, wp_dict0, wp_meth, wp_lc, wp_evs_nil, wp_evs_cons, wp_evo_none, wp_evo_some, wp_seq, wp_enum, wp_rng1, wp_rng2, wp_idxT, wp_varT, wp_callT, wp_callKT, wp_biT, x_truB, tsto_none, tsto_some,
  seqQ_nx, seqQ_ret, seqQ_bk, seqQ_ct, endQ_ret, endQ_nx, varQ_some, lstQ_some, dctQ_some, optQ_some, blQ_bl, inQ_int, rgQ_int, rg2Q_int,
  x_eqSS, x_eqII, x_neSS, x_neII, str_we, str_ew, decide_true, decide_false, if_true, if_false, Bool.false_eq_true, reduceIte, x_addI, x_addT, x_addS, x_addL, x_subI, x_mulI, x_divI, x_modI, x_powI, x_ltI, x_leI, x_gtI, x_geI, x_is, x_isnot, x_isB, x_isNB, x_ixT, x_ixF, x_abs, x_lenT, x_lenF, x_intI, x_intB, x_max2, x_min2, x_seqT, x_seqF, x_slT, x_slF,
  List.map_cons, List.map_nil, List.length_cons, List.length_nil, List.cons_append, List.nil_append, List.replicate_succ, List.replicate_zero, Nat.reduceSub, Nat.reduceAdd, List.set_cons_zero, List.set_cons_succ, List.getElem?_cons_zero, List.getElem?_cons_succ, Nat.add_zero, Nat.zero_add, Nat.sub_self, decide_eq_true_eq]
  obtain ⟨gd, hg, hgd, hs⟩ := logAt_seq (h' (.dct []))
  rw [hs]
  have pre : ∀ o, gdOk (st ++ [o]) gd = true := by
    intro o
    rcases hgd with rfl | ⟨j, rfl, rfl⟩
    · rfl
    · rcases h with hh | ⟨j', h1, h2⟩
      · cases hh
      · cases h1
        simp only [gdOk, Bool.and_true, decide_eq_true_eq]
        rw [List.getElem?_append_left (List.getElem?_eq_some_iff.mp h2).1]; exact h2
  refine wp_loopF_map entD L (fun P env s => ∃ kvs e2 e3, env = [some x, some (.ob st.length), e2, e3] ∧ s = st ++ [.dct kvs] ∧ EndsK P kvs) ?_ ?_ ⟨[], none, none, rfl, rfl, ⟨fun _ hp => (nomatch hp), Nat.le_refl _, fun _ _ => rfl⟩⟩
  · rintro P ⟨p, r⟩ R env s hL ⟨kvs, e2, e3, rfl, rfl, hk⟩
    refine ⟨pre _, ?_⟩
    have hat : (st ++ [Ob.dct kvs])[st.length]? = some (.dct kvs) := by simp
    have hPl : P.length < L.length := by rw [hL]; simp
    rw [wp_forF (env1 := [some x, some (.ob st.length), some (.int p), some (recD r)]) rfl]
    have hwf : r.giver ≠ "book" := hw (p, r) (by rw [hL]; simp)
    cases r with
    | word g n dl k t tm =>
      unfold recD
      simp only [wp_callDef, wp_cons, wp_nil, wp_asg, wp_expr, wp_retS, wp_retN, wp_iteS, wp_pass, wp_brk, wp_cont, wp_setIx, wp_augX, wp_asgT, wp_for, wp_varX, wp_cst, wp_bin, wp_cmp, wp_cmpT, wp_chainT, wp_andT, wp_orT, wp_notT, wp_iteE, wp_idx, wp_sl, wp_call, wp_callK, wp_call0, wp_globX, wp_dictX, wp_bi, wp_tup, wp_lst, wp_dict0, wp_meth, wp_lc, wp_evs_nil, wp_evs_cons, wp_evo_none, wp_evo_some, wp_seq, wp_enum, wp_rng1, wp_rng2, wp_idxT, wp_varT, wp_callT, wp_callKT, wp_biT, x_truB, tsto_none, tsto_some,
  seqQ_nx, seqQ_ret, seqQ_bk, seqQ_ct, endQ_ret, endQ_nx, varQ_some, lstQ_some, dctQ_some, optQ_some, blQ_bl, inQ_int, rgQ_int, rg2Q_int,
  x_eqSS, x_eqII, x_neSS, x_neII, str_we, str_ew, decide_true, decide_false, if_true, if_false, Bool.false_eq_true, reduceIte, x_addI, x_addT, x_addS, x_addL, x_subI, x_mulI, x_divI, x_modI, x_powI, x_ltI, x_leI, x_gtI, x_geI, x_is, x_isnot, x_isB, x_isNB, x_ixT, x_ixF, x_abs, x_lenT, x_lenF, x_intI, x_intB, x_max2, x_min2, x_seqT, x_seqF, x_slT, x_slF,
  List.map_cons, List.map_nil, List.length_cons, List.length_nil, List.cons_append, List.nil_append, List.replicate_succ, List.replicate_zero, Nat.reduceSub, Nat.reduceAdd, List.set_cons_zero, List.set_cons_succ, List.getElem?_cons_zero, List.getElem?_cons_succ, Nat.add_zero, Nat.zero_add, Nat.sub_self, decide_eq_true_eq, at7]
      exact ⟨kvs, _, _, rfl, rfl, ends_word hk⟩
    | fin g d b =>
      unfold recD
      simp only [wp_callDef, wp_cons, wp_nil, wp_asg, wp_expr, wp_retS, wp_retN, wp_iteS, wp_pass, wp_brk, wp_cont, wp_setIx, wp_augX, wp_asgT, wp_for, wp_varX, wp_cst, wp_bin, wp_cmp, wp_cmpT, wp_chainT, wp_andT, wp_orT, wp_notT, wp_iteE, wp_idx, wp_sl, wp_call, wp_callK, wp_call0, wp_globX, wp_dictX, wp_bi, wp_tup, wp_lst, wp_dict0, wp_meth, wp_lc, wp_evs_nil, wp_evs_cons, wp_evo_none, wp_evo_some, wp_seq, wp_enum, wp_rng1, wp_rng2, wp_idxT, wp_varT, wp_callT, wp_callKT, wp_biT, x_truB, tsto_none, tsto_some,
  seqQ_nx, seqQ_ret, seqQ_bk, seqQ_ct, endQ_ret, endQ_nx, varQ_some, lstQ_some, dctQ_some, optQ_some, blQ_bl, inQ_int, rgQ_int, rg2Q_int,
  x_eqSS, x_eqII, x_neSS, x_neII, str_we, str_ew, decide_true, decide_false, if_true, if_false, Bool.false_eq_true, reduceIte, x_addI, x_addT, x_addS, x_addL, x_subI, x_mulI, x_divI, x_modI, x_powI, x_ltI, x_leI, x_gtI, x_geI, x_is, x_isnot, x_isB, x_isNB, x_ixT, x_ixF, x_abs, x_lenT, x_lenF, x_intI, x_intB, x_max2, x_min2, x_seqT, x_seqF, x_slT, x_slF,
  List.map_cons, List.map_nil, List.length_cons, List.length_nil, List.cons_append, List.nil_append, List.replicate_succ, List.replicate_zero, Nat.reduceSub, Nat.reduceAdd, List.set_cons_zero, List.set_cons_succ, List.getElem?_cons_zero, List.getElem?_cons_succ, Nat.add_zero, Nat.zero_add, Nat.sub_self, decide_eq_true_eq, at4, x_setd hat]
      have hb : g = "book" → d ≠ 0 := fun z => absurd z hwf
      refine ⟨.dict, x_tyD hat, by decide, ?_⟩
      rw [x_setd hat]
      have hkl := hk.len
      refine ⟨⟨kind_pairs hk.keys hb, by omega⟩, ?_⟩
      have hf := ends_fin (p := p) (d := d) (b := b) (g := g) hk hwf
      cases hg2 : getKv kvs (.tup [.str g, .int d]) with
      | some z =>
        rw [hg2] at hf
        exact ⟨_, _, _, rfl, rfl, hf⟩
      | none =>
        rw [hg2] at hf
        refine ⟨_, _, _, rfl, ?_, hf⟩
        simp
  · rintro env s ⟨kvs, e2, e3, rfl, rfl, hk⟩
    refine ⟨pre _, ?_⟩
    simp only [wp_callDef, wp_cons, wp_nil, wp_asg, wp_expr, wp_retS, wp_retN, wp_iteS, wp_pass, wp_brk, wp_cont, wp_setIx, wp_augX, wp_asgT, wp_for, wp_varX, wp_cst, wp_bin, wp_cmp, wp_cmpT, wp_chainT, wp_andT, wp_orT, wp_notT, wp_iteE, wp_idx, wp_sl, wp_call, wp_callK, wp_call0, wp_globX, wp_dictX, wp_bi, wp_tup, wp_lst, wp_dict0, wp_meth, wp_lc, wp_evs_nil, wp_evs_cons, wp_evo_none, wp_evo_some, wp_seq, wp_enum, wp_rng1, wp_rng2, wp_idxT, wp_varT, wp_callT, wp_callKT, wp_biT, x_truB, tsto_none, tsto_some,
  seqQ_nx, seqQ_ret, seqQ_bk, seqQ_ct, endQ_ret, endQ_nx, varQ_some, lstQ_some, dctQ_some, optQ_some, blQ_bl, inQ_int, rgQ_int, rg2Q_int,
  x_eqSS, x_eqII, x_neSS, x_neII, str_we, str_ew, decide_true, decide_false, if_true, if_false, Bool.false_eq_true, reduceIte, x_addI, x_addT, x_addS, x_addL, x_subI, x_mulI, x_divI, x_modI, x_powI, x_ltI, x_leI, x_gtI, x_geI, x_is, x_isnot, x_isB, x_isNB, x_ixT, x_ixF, x_abs, x_lenT, x_lenF, x_intI, x_intB, x_max2, x_min2, x_seqT, x_seqF, x_slT, x_slF,
  List.map_cons, List.map_nil, List.length_cons, List.length_nil, List.cons_append, List.nil_append, List.replicate_succ, List.replicate_zero, Nat.reduceSub, Nat.reduceAdd, List.set_cons_zero, List.set_cons_succ, List.getElem?_cons_zero, List.getElem?_cons_succ, Nat.add_zero, Nat.zero_add, Nat.sub_self, decide_eq_true_eq]
    exact q kvs hk
/-- a word that hangs upon a dealing without an end -/
def openW (F : Str → Int → Option Bool) : Ent → Bool := fun a => match a.2 with
  | .word g _ (some d) _ _ _ => (F g d).isNone
  | _ => false
def stopM (L : List Ent) (F : Str → Int → Option Bool) (e : Int) : Int := ((L.find? (openW F)).map (·.1)).getD e
theorem stop_of_wp {C : Cts} {x : D} {j : Nat} {e : Int} {L E : List Ent} {kvs : List (D × D)} {st : Store} {QD : D → Store → Prop} (h : LogAt x st L) (hw : Wf L) (hj : st[j]? = some (.dct kvs)) (hk : EndsK E kvs) (q : QD (.int (stopM L (fstEnd E) e)) st) :
    wp (callDef C 5 stop_of_b [x, .ob j, .int e]) QD st := by
  obtain ⟨gd, hg, hgd, hs⟩ := logAt_seq h
  unfold stop_of_b
  simp only [wp_callDef, wp_cons, wp_nil, wp_asg, wp_expr, wp_retS, wp_retN, wp_iteS, wp_pass, wp_brk, wp_cont, wp_setIx, wp_augX, wp_asgT, wp_for, wp_varX, wp_cst, wp_bin, wp_cmp, wp_cmpT, wp_chainT, wp_andT, wp_orT, wp_notT, wp_iteE, wp_idx, wp_sl, wp_call, wp_callK, wp_call0, wp_globX, wp_dictX, wp_bi, wp_tup, wp_lst, wp_dict0, wp_meth, wp_lc, wp_evs_nil, wp_evs_cons, wp_evo_none, wp_evo_some, wp_seq, wp_enum, wp_rng1, wp_rng2, wp_idxT, wp_varT, wp_callT, wp_callKT, wp_biT, x_truB, tsto_none, tsto_some,
  seqQ_nx, seqQ_ret, seqQ_bk, seqQ_ct, endQ_ret, endQ_nx, varQ_some, lstQ_some, dctQ_some, optQ_some, blQ_bl, inQ_int, rgQ_int, rg2Q_int,
  x_eqSS, x_eqII, x_neSS, x_neII, str_we, str_ew, decide_true, decide_false, if_true, if_false, Bool.false_eq_true, reduceIte, x_addI, x_addT, x_addS, x_addL, x_subI, x_mulI, x_divI, x_modI, x_powI, x_ltI, x_leI, x_gtI, x_geI, x_is, x_isnot, x_isB, x_isNB, x_ixT, x_ixF, x_abs, x_lenT, x_lenF, x_intI, x_intB, x_max2, x_min2, x_seqT, x_seqF, x_slT, x_slF,
  List.map_cons, List.map_nil, List.length_cons, List.length_nil, List.cons_append, List.nil_append, List.replicate_succ, List.replicate_zero, Nat.reduceSub, Nat.reduceAdd, List.set_cons_zero, List.set_cons_succ, List.getElem?_cons_zero, List.getElem?_cons_succ, Nat.add_zero, Nat.zero_add, Nat.sub_self, decide_eq_true_eq]
  rw [hs]
  refine wp_loopF_map entD L (fun P env s => ∃ e3 e4, env = [some x, some (.ob j), some (.int e), e3, e4] ∧ s = st ∧ ∀ a ∈ P, openW (fstEnd E) a = false) ?_ ?_ ⟨none, none, rfl, rfl, fun _ hp => (nomatch hp)⟩
  · rintro P ⟨p, r⟩ R env s hL ⟨e3, e4, rfl, rfl, hP⟩
    refine ⟨hg, ?_⟩
    rw [wp_forF (env1 := [some x, some (.ob j), some (.int e), some (.int p), some (recD r)]) rfl]
    have hwf : r.giver ≠ "book" := hw (p, r) (by rw [hL]; simp)
    have snoc : openW (fstEnd E) (p, r) = false → ∀ a ∈ P ++ [(p, r)], openW (fstEnd E) a = false := by
      intro z a ha
      rcases List.mem_append.mp ha with ha | ha
      · exact hP a ha
      · rw [List.mem_singleton.mp ha]; exact z
    cases r with
    | word g n dl k t tm =>
      cases dl with
      | none =>
        unfold recD optD
        simp only [wp_callDef, wp_cons, wp_nil, wp_asg, wp_expr, wp_retS, wp_retN, wp_iteS, wp_pass, wp_brk, wp_cont, wp_setIx, wp_augX, wp_asgT, wp_for, wp_varX, wp_cst, wp_bin, wp_cmp, wp_cmpT, wp_chainT, wp_andT, wp_orT, wp_notT, wp_iteE, wp_idx, wp_sl, wp_call, wp_callK, wp_call0, wp_globX, wp_dictX, wp_bi, wp_tup, wp_lst, wp_dict0, wp_meth, wp_lc, wp_evs_nil, wp_evs_cons, wp_evo_none, wp_evo_some, wp_seq, wp_enum, wp_rng1, wp_rng2, wp_idxT, wp_varT, wp_callT, wp_callKT, wp_biT, x_truB, tsto_none, tsto_some,
  seqQ_nx, seqQ_ret, seqQ_bk, seqQ_ct, endQ_ret, endQ_nx, varQ_some, lstQ_some, dctQ_some, optQ_some, blQ_bl, inQ_int, rgQ_int, rg2Q_int,
  x_eqSS, x_eqII, x_neSS, x_neII, str_we, str_ew, decide_true, decide_false, if_true, if_false, Bool.false_eq_true, reduceIte, x_addI, x_addT, x_addS, x_addL, x_subI, x_mulI, x_divI, x_modI, x_powI, x_ltI, x_leI, x_gtI, x_geI, x_is, x_isnot, x_isB, x_isNB, x_ixT, x_ixF, x_abs, x_lenT, x_lenF, x_intI, x_intB, x_max2, x_min2, x_seqT, x_seqF, x_slT, x_slF,
  List.map_cons, List.map_nil, List.length_cons, List.length_nil, List.cons_append, List.nil_append, List.replicate_succ, List.replicate_zero, Nat.reduceSub, Nat.reduceAdd, List.set_cons_zero, List.set_cons_succ, List.getElem?_cons_zero, List.getElem?_cons_succ, Nat.add_zero, Nat.zero_add, Nat.sub_self, decide_eq_true_eq, at7]
        exact ⟨_, _, rfl, trivial, snoc rfl⟩
      | some d =>
        have hb : g = "book" → d ≠ 0 := fun z => absurd z hwf
        unfold recD optD
        simp only [wp_callDef, wp_cons, wp_nil, wp_asg, wp_expr, wp_retS, wp_retN, wp_iteS, wp_pass, wp_brk, wp_cont, wp_setIx, wp_augX, wp_asgT, wp_for, wp_varX, wp_cst, wp_bin, wp_cmp, wp_cmpT, wp_chainT, wp_andT, wp_orT, wp_notT, wp_iteE, wp_idx, wp_sl, wp_call, wp_callK, wp_call0, wp_globX, wp_dictX, wp_bi, wp_tup, wp_lst, wp_dict0, wp_meth, wp_lc, wp_evs_nil, wp_evs_cons, wp_evo_none, wp_evo_some, wp_seq, wp_enum, wp_rng1, wp_rng2, wp_idxT, wp_varT, wp_callT, wp_callKT, wp_biT, x_truB, tsto_none, tsto_some,
  seqQ_nx, seqQ_ret, seqQ_bk, seqQ_ct, endQ_ret, endQ_nx, varQ_some, lstQ_some, dctQ_some, optQ_some, blQ_bl, inQ_int, rgQ_int, rg2Q_int,
  x_eqSS, x_eqII, x_neSS, x_neII, str_we, str_ew, decide_true, decide_false, if_true, if_false, Bool.false_eq_true, reduceIte, x_addI, x_addT, x_addS, x_addL, x_subI, x_mulI, x_divI, x_modI, x_powI, x_ltI, x_leI, x_gtI, x_geI, x_is, x_isnot, x_isB, x_isNB, x_ixT, x_ixF, x_abs, x_lenT, x_lenF, x_intI, x_intB, x_max2, x_min2, x_seqT, x_seqF, x_slT, x_slF,
  List.map_cons, List.map_nil, List.length_cons, List.length_nil, List.cons_append, List.nil_append, List.replicate_succ, List.replicate_zero, Nat.reduceSub, Nat.reduceAdd, List.set_cons_zero, List.set_cons_succ, List.getElem?_cons_zero, List.getElem?_cons_succ, Nat.add_zero, Nat.zero_add, Nat.sub_self, decide_eq_true_eq, at7]
        refine ⟨by decide, ?_⟩
        rw [x_notinK hj]
        refine ⟨kind_pairs hk.keys hb, ?_⟩
        rw [blQ_bl, hk.get]
        cases hf : fstEnd E g d with
        | some z =>
          simp only [ifn, Option.map_some, Option.isSome_some]
          simp only [wp_callDef, wp_cons, wp_nil, wp_asg, wp_expr, wp_retS, wp_retN, wp_iteS, wp_pass, wp_brk, wp_cont, wp_setIx, wp_augX, wp_asgT, wp_for, wp_varX, wp_cst, wp_bin, wp_cmp, wp_cmpT, wp_chainT, wp_andT, wp_orT, wp_notT, wp_iteE, wp_idx, wp_sl, wp_call, wp_callK, wp_call0, wp_globX, wp_dictX, wp_bi, wp_tup, wp_lst, wp_dict0, wp_meth, wp_lc, wp_evs_nil, wp_evs_cons, wp_evo_none, wp_evo_some, wp_seq, wp_enum, wp_rng1, wp_rng2, wp_idxT, wp_varT, wp_callT, wp_callKT, wp_biT, x_truB, tsto_none, tsto_some,
  seqQ_nx, seqQ_ret, seqQ_bk, seqQ_ct, endQ_ret, endQ_nx, varQ_some, lstQ_some, dctQ_some, optQ_some, blQ_bl, inQ_int, rgQ_int, rg2Q_int,
  x_eqSS, x_eqII, x_neSS, x_neII, str_we, str_ew, decide_true, decide_false, if_true, if_false, Bool.false_eq_true, reduceIte, x_addI, x_addT, x_addS, x_addL, x_subI, x_mulI, x_divI, x_modI, x_powI, x_ltI, x_leI, x_gtI, x_geI, x_is, x_isnot, x_isB, x_isNB, x_ixT, x_ixF, x_abs, x_lenT, x_lenF, x_intI, x_intB, x_max2, x_min2, x_seqT, x_seqF, x_slT, x_slF,
  List.map_cons, List.map_nil, List.length_cons, List.length_nil, List.cons_append, List.nil_append, List.replicate_succ, List.replicate_zero, Nat.reduceSub, Nat.reduceAdd, List.set_cons_zero, List.set_cons_succ, List.getElem?_cons_zero, List.getElem?_cons_succ, Nat.add_zero, Nat.zero_add, Nat.sub_self, decide_eq_true_eq]
          exact ⟨_, _, rfl, trivial, snoc (by simp [openW, hf])⟩
        | none =>
          simp only [ifn, Option.map_none, Option.isSome_none]
          simp only [wp_callDef, wp_cons, wp_nil, wp_asg, wp_expr, wp_retS, wp_retN, wp_iteS, wp_pass, wp_brk, wp_cont, wp_setIx, wp_augX, wp_asgT, wp_for, wp_varX, wp_cst, wp_bin, wp_cmp, wp_cmpT, wp_chainT, wp_andT, wp_orT, wp_notT, wp_iteE, wp_idx, wp_sl, wp_call, wp_callK, wp_call0, wp_globX, wp_dictX, wp_bi, wp_tup, wp_lst, wp_dict0, wp_meth, wp_lc, wp_evs_nil, wp_evs_cons, wp_evo_none, wp_evo_some, wp_seq, wp_enum, wp_rng1, wp_rng2, wp_idxT, wp_varT, wp_callT, wp_callKT, wp_biT, x_truB, tsto_none, tsto_some,
  seqQ_nx, seqQ_ret, seqQ_bk, seqQ_ct, endQ_ret, endQ_nx, varQ_some, lstQ_some, dctQ_some, optQ_some, blQ_bl, inQ_int, rgQ_int, rg2Q_int,
  x_eqSS, x_eqII, x_neSS, x_neII, str_we, str_ew, decide_true, decide_false, if_true, if_false, Bool.false_eq_true, reduceIte, x_addI, x_addT, x_addS, x_addL, x_subI, x_mulI, x_divI, x_modI, x_powI, x_ltI, x_leI, x_gtI, x_geI, x_is, x_isnot, x_isB, x_isNB, x_ixT, x_ixF, x_abs, x_lenT, x_lenF, x_intI, x_intB, x_max2, x_min2, x_seqT, x_seqF, x_slT, x_slF,
  List.map_cons, List.map_nil, List.length_cons, List.length_nil, List.cons_append, List.nil_append, List.replicate_succ, List.replicate_zero, Nat.reduceSub, Nat.reduceAdd, List.set_cons_zero, List.set_cons_succ, List.getElem?_cons_zero, List.getElem?_cons_succ, Nat.add_zero, Nat.zero_add, Nat.sub_self, decide_eq_true_eq]
          have hfind : L.find? (openW (fstEnd E)) = some (p, .word g n (some d) k t tm) := by
            rw [hL, List.find?_append]
            have h1 : P.find? (openW (fstEnd E)) = none := List.find?_eq_none.mpr fun a ha => by rw [hP a ha]; decide
            rw [h1]
            simp [List.find?_cons, openW, hf]
          unfold stopM at q
          rw [hfind] at q
          exact q
    | fin g d b =>
      unfold recD
      simp only [wp_callDef, wp_cons, wp_nil, wp_asg, wp_expr, wp_retS, wp_retN, wp_iteS, wp_pass, wp_brk, wp_cont, wp_setIx, wp_augX, wp_asgT, wp_for, wp_varX, wp_cst, wp_bin, wp_cmp, wp_cmpT, wp_chainT, wp_andT, wp_orT, wp_notT, wp_iteE, wp_idx, wp_sl, wp_call, wp_callK, wp_call0, wp_globX, wp_dictX, wp_bi, wp_tup, wp_lst, wp_dict0, wp_meth, wp_lc, wp_evs_nil, wp_evs_cons, wp_evo_none, wp_evo_some, wp_seq, wp_enum, wp_rng1, wp_rng2, wp_idxT, wp_varT, wp_callT, wp_callKT, wp_biT, x_truB, tsto_none, tsto_some,
  seqQ_nx, seqQ_ret, seqQ_bk, seqQ_ct, endQ_ret, endQ_nx, varQ_some, lstQ_some, dctQ_some, optQ_some, blQ_bl, inQ_int, rgQ_int, rg2Q_int,
  x_eqSS, x_eqII, x_neSS, x_neII, str_we, str_ew, decide_true, decide_false, if_true, if_false, Bool.false_eq_true, reduceIte, x_addI, x_addT, x_addS, x_addL, x_subI, x_mulI, x_divI, x_modI, x_powI, x_ltI, x_leI, x_gtI, x_geI, x_is, x_isnot, x_isB, x_isNB, x_ixT, x_ixF, x_abs, x_lenT, x_lenF, x_intI, x_intB, x_max2, x_min2, x_seqT, x_seqF, x_slT, x_slF,
  List.map_cons, List.map_nil, List.length_cons, List.length_nil, List.cons_append, List.nil_append, List.replicate_succ, List.replicate_zero, Nat.reduceSub, Nat.reduceAdd, List.set_cons_zero, List.set_cons_succ, List.getElem?_cons_zero, List.getElem?_cons_succ, Nat.add_zero, Nat.zero_add, Nat.sub_self, decide_eq_true_eq, at4]
      exact ⟨_, _, rfl, trivial, snoc rfl⟩
  · rintro env s ⟨e3, e4, rfl, rfl, hP⟩
    refine ⟨hg, ?_⟩
    simp only [wp_callDef, wp_cons, wp_nil, wp_asg, wp_expr, wp_retS, wp_retN, wp_iteS, wp_pass, wp_brk, wp_cont, wp_setIx, wp_augX, wp_asgT, wp_for, wp_varX, wp_cst, wp_bin, wp_cmp, wp_cmpT, wp_chainT, wp_andT, wp_orT, wp_notT, wp_iteE, wp_idx, wp_sl, wp_call, wp_callK, wp_call0, wp_globX, wp_dictX, wp_bi, wp_tup, wp_lst, wp_dict0, wp_meth, wp_lc, wp_evs_nil, wp_evs_cons, wp_evo_none, wp_evo_some, wp_seq, wp_enum, wp_rng1, wp_rng2, wp_idxT, wp_varT, wp_callT, wp_callKT, wp_biT, x_truB, tsto_none, tsto_some,
  seqQ_nx, seqQ_ret, seqQ_bk, seqQ_ct, endQ_ret, endQ_nx, varQ_some, lstQ_some, dctQ_some, optQ_some, blQ_bl, inQ_int, rgQ_int, rg2Q_int,
  x_eqSS, x_eqII, x_neSS, x_neII, str_we, str_ew, decide_true, decide_false, if_true, if_false, Bool.false_eq_true, reduceIte, x_addI, x_addT, x_addS, x_addL, x_subI, x_mulI, x_divI, x_modI, x_powI, x_ltI, x_leI, x_gtI, x_geI, x_is, x_isnot, x_isB, x_isNB, x_ixT, x_ixF, x_abs, x_lenT, x_lenF, x_intI, x_intB, x_max2, x_min2, x_seqT, x_seqF, x_slT, x_slF,
  List.map_cons, List.map_nil, List.length_cons, List.length_nil, List.cons_append, List.nil_append, List.replicate_succ, List.replicate_zero, Nat.reduceSub, Nat.reduceAdd, List.set_cons_zero, List.set_cons_succ, List.getElem?_cons_zero, List.getElem?_cons_succ, Nat.add_zero, Nat.zero_add, Nat.sub_self, decide_eq_true_eq]
    have hfind : L.find? (openW (fstEnd E)) = none := List.find?_eq_none.mpr fun a ha => by rw [hP a ha]; decide
    unfold stopM at q
    rw [hfind] at q
    exact q
end W9

/-! W9N: settled, visible -/
namespace W9
open PySem L2
def settled_b : Sms :=
  (.cons (.asg 2 (.call "below" (.cons (.var 0) (.cons (.var 1) .nil))))
    (.cons (.ret (.call "stop_of" (.cons (.var 2) (.cons (.call "first_ends" (.cons (.var 2) .nil)) (.cons (.var 1) .nil)))))
    .nil))
def visible_b : Sms :=
  (.cons (.asg 2 (.call "below" (.cons (.var 0) (.cons (.var 1) .nil))))
    (.cons (.asg 3 (.call "first_ends" (.cons (.var 2) .nil)))
    (.cons (.asg 4 (.lst .nil))
    (.cons (.forS (.seq (.call "below" (.cons (.var 2) (.cons (.call "stop_of" (.cons (.var 2) (.cons (.var 3) (.cons (.var 1) .nil)))) .nil)))) (.tup [5, 6])
    (.cons (.ite (.and (.cmp .Eq (.idx (.var 6) (.cst (.int 0))) (.cst (.str "word"))) (.or (.cmp .Is (.idx (.var 6) (.cst (.int 3))) (.cst .non)) (.idx (.var 3) (.tup (.cons (.idx (.var 6) (.cst (.int 1))) (.cons (.idx (.var 6) (.cst (.int 3))) .nil))))))
    (.cons (.expr (.meth .append (.var 4) (.cons (.bin .Add (.tup (.cons (.var 5) .nil)) (.sl (.var 6) (.some (.cst (.int 4))) .none)) .nil)))
    .nil)
    .nil)
    .nil))
    (.cons (.ret (.bi .tuple (.cons (.var 4) .nil)))
    .nil)))))
/-- a table knows the readers -/
structure Reads4 (C : Cts) : Prop where
  below : ∃ C', C.fn "below" = callDef C' 3 below_b
  ends : ∃ C', C.fn "first_ends" = callDef C' 4 first_ends_b
  stop : ∃ C', C.fn "stop_of" = callDef C' 5 stop_of_b
def cutE (L : List Ent) (e : Int) : List Ent := L.filter (ltE e)
def settledM (L : List Ent) (e : Int) : Int := stopM (cutE L e) (fstEnd (cutE L e)) e
theorem cutE_len (L : List Ent) (e : Int) : (cutE L e).length ≤ L.length := List.length_filter_le _ _
theorem cutE_wf {L : List Ent} (h : Wf L) (e : Int) : Wf (cutE L e) := h.sub fun _ ha => (List.mem_filter.mp ha).1
theorem below_wp2 {C : Cts} {x : D} {e : Int} {L : List Ent} {st : Store} {QD : D → Store → Prop} (h : LogAt x st L) (hl : L.length ≤ bigN) (q : QD (.ob st.length) (st ++ [.lst ((cutE L e).map entD)])) : wp (callDef C 3 below_b [x, .int e]) QD st := below_wp h hl q
theorem settled_wp {C : Cts} (RC : Reads4 C) {x : D} {e : Int} {L : List Ent} {st : Store} {QD : D → Store → Prop} (h : LogAt x st L) (hw : Wf L) (hl : L.length < bigN) (q : ∀ s, st <+: s → QD (.int (settledM L e)) s) :
    wp (callDef C 3 settled_b [x, .int e]) QD st := by
  obtain ⟨C1, b1⟩ := RC.below
  obtain ⟨C2, b2⟩ := RC.ends
  obtain ⟨C3, b3⟩ := RC.stop
  have hl2 := cutE_len L e
  unfold settled_b
  rw [wp_callDef]
  simp only [wp_cons, wp_nil, wp_asg, wp_expr, wp_retS, wp_retN, wp_iteS, wp_pass, wp_brk, wp_cont, wp_setIx, wp_augX, wp_asgT, wp_for, wp_varX, wp_cst, wp_bin, wp_cmp, wp_cmpT, wp_chainT, wp_andT, wp_orT, wp_notT, wp_iteE, wp_idx, wp_sl, wp_call, wp_callK, wp_call0, wp_globX, wp_dictX, wp_bi, wp_tup, wp_lst, wp_dict0, wp_meth, wp_lc, wp_evs_nil, wp_evs_cons, wp_evo_none, wp_evo_some, wp_seq, wp_enum, wp_rng1, wp_rng2, wp_idxT, wp_varT, wp_callT, wp_callKT, wp_biT, x_truB, tsto_none, tsto_some,
  seqQ_nx, seqQ_ret, seqQ_bk, seqQ_ct, endQ_ret, endQ_nx, varQ_some, lstQ_some, dctQ_some, optQ_some, blQ_bl, inQ_int, rgQ_int, rg2Q_int,
  x_eqSS, x_eqII, x_neSS, x_neII, str_we, str_ew, decide_true, decide_false, if_true, if_false, Bool.false_eq_true, reduceIte, x_addI, x_addT, x_addS, x_addL, x_subI, x_mulI, x_divI, x_modI, x_powI, x_ltI, x_leI, x_gtI, x_geI, x_is, x_isnot, x_isB, x_isNB, x_ixT, x_ixF, x_abs, x_lenT, x_lenF, x_intI, x_intB, x_max2, x_min2, x_seqT, x_seqF, x_slT, x_slF,
  List.map_cons, List.map_nil, List.length_cons, List.length_nil, List.cons_append, List.nil_append, List.replicate_succ, List.replicate_zero, Nat.reduceSub, Nat.reduceAdd, List.set_cons_zero, List.set_cons_succ, List.getElem?_cons_zero, List.getElem?_cons_succ, Nat.add_zero, Nat.zero_add, Nat.sub_self, decide_eq_true_eq, b1, b2, b3]
  refine below_wp2 h (by omega) ?_
  have h2 : LogAt (.ob st.length) (st ++ [.lst ((cutE L e).map entD)]) (cutE L e) := .inr ⟨_, rfl, by simp⟩
  refine first_ends_wp h2 (cutE_wf hw e) (by omega) fun kvs hk => ?_
  refine stop_of_wp (h2.pre ⟨[.dct kvs], rfl⟩) (cutE_wf hw e) (by simp) hk (q _ ⟨[.lst ((cutE L e).map entD), .dct kvs], by simp⟩)
abbrev Srt (L : List Ent) : Prop := L.Pairwise fun a b => a.1 < b.1
theorem Srt.cut {L : List Ent} (h : Srt L) (e : Int) : Srt (cutE L e) := List.Pairwise.sublist List.filter_sublist h
/-- ahead of the stop nothing is open -/
theorem stop_ahead {L : List Ent} {F : Str → Int → Option Bool} {e : Int} (h : Srt L) {a : Ent} (ha : a ∈ L) (hlt : a.1 < stopM L F e) : openW F a = false := by
  cases ho : openW F a with
  | false => rfl
  | true =>
    exfalso
    unfold stopM at hlt
    cases hf : L.find? (openW F) with
    | none => have := List.find?_eq_none.mp hf a ha; rw [ho] at this; exact this rfl
    | some b =>
      rw [hf] at hlt
      have hlt' : a.1 < b.1 := hlt
      obtain ⟨_, as, bs, hL, has⟩ := List.find?_eq_some_iff_append.mp hf
      rw [hL] at ha h
      rcases List.mem_append.mp ha with ha | ha
      · have := has a ha; rw [ho] at this; cases this
      · rcases List.mem_cons.mp ha with e1 | e1
        · subst e1; omega
        · have := (List.pairwise_append.mp h).2.1
          have := (List.pairwise_cons.mp this).1 a e1
          omega
def visOf (F : Str → Int → Option Bool) : Ent → Option (Int × Str × Str × Int) := fun a => match a.2 with
  | .word g _ none k t tm => some (a.1, k, t, tm)
  | .word g _ (some d) k t tm => if F g d = some true then some (a.1, k, t, tm) else none
  | _ => none
def visD (v : Int × Str × Str × Int) : D := .tup [.int v.1, .str v.2.1, .str v.2.2.1, .int v.2.2.2]
def visM (L : List Ent) (e : Int) : List (Int × Str × Str × Int) := (cutE (cutE L e) (settledM L e)).filterMap (visOf (fstEnd (cutE L e)))
theorem cut7 {a b c d e f g : D} : cutL [a, b, c, d, e, f, g] (some 4) none = [e, f, g] := rfl
theorem visible_wp {C : Cts} (RC : Reads4 C) {x : D} {e : Int} {L : List Ent} {st : Store} {QD : D → Store → Prop} (h : LogAt x st L) (hw : Wf L) (hsr : Srt L) (hl : L.length < bigN) (q : ∀ s, st <+: s → QD (.tup ((visM L e).map visD)) s) :
    wp (callDef C 7 visible_b [x, .int e]) QD st := by
  obtain ⟨C1, b1⟩ := RC.below
  obtain ⟨C2, b2⟩ := RC.ends
  obtain ⟨C3, b3⟩ := RC.stop
  have hl2 := cutE_len L e
  have hl3 := cutE_len (cutE L e) (settledM L e)
  unfold visible_b
  rw [wp_callDef]
  simp only [wp_cons, wp_nil, wp_asg, wp_expr, wp_retS, wp_retN, wp_iteS, wp_pass, wp_brk, wp_cont, wp_setIx, wp_augX, wp_asgT, wp_for, wp_varX, wp_cst, wp_bin, wp_cmp, wp_cmpT, wp_chainT, wp_andT, wp_orT, wp_notT, wp_iteE, wp_idx, wp_sl, wp_call, wp_callK, wp_call0, wp_globX, wp_dictX, wp_bi, wp_tup, wp_lst, wp_dict0, wp_meth, wp_lc, wp_evs_nil, wp_evs_cons, wp_evo_none, wp_evo_some, wp_seq, wp_enum, wp_rng1, wp_rng2, wp_idxT, wp_varT, wp_callT, wp_callKT, wp_biT, x_truB, tsto_none, tsto_some,
  seqQ_nx, seqQ_ret, seqQ_bk, seqQ_ct, endQ_ret, endQ_nx, varQ_some, lstQ_some, dctQ_some, optQ_some, blQ_bl, inQ_int, rgQ_int, rg2Q_int,
  x_eqSS, x_eqII, x_neSS, x_neII, str_we, str_ew, decide_true, decide_false, if_true, if_false, Bool.false_eq_true, reduceIte, x_addI, x_addT, x_addS, x_addL, x_subI, x_mulI, x_divI, x_modI, x_powI, x_ltI, x_leI, x_gtI, x_geI, x_is, x_isnot, x_isB, x_isNB, x_ixT, x_ixF, x_abs, x_lenT, x_lenF, x_intI, x_intB, x_max2, x_min2, x_seqT, x_seqF, x_slT, x_slF,
  List.map_cons, List.map_nil, List.length_cons, List.length_nil, List.cons_append, List.nil_append, List.replicate_succ, List.replicate_zero, Nat.reduceSub, Nat.reduceAdd, List.set_cons_zero, List.set_cons_succ, List.getElem?_cons_zero, List.getElem?_cons_succ, Nat.add_zero, Nat.zero_add, Nat.sub_self, decide_eq_true_eq, b1, b2, b3]
  refine below_wp2 h (by omega) ?_
  have h2 : LogAt (.ob st.length) (st ++ [Ob.lst ((cutE L e).map entD)]) (cutE L e) := .inr ⟨_, rfl, by simp⟩
  refine first_ends_wp h2 (cutE_wf hw e) (by omega) fun kvs hk => ?_
  refine ⟨by decide, ?_⟩
  have h3 : LogAt (.ob st.length) (st ++ [Ob.lst ((cutE L e).map entD)] ++ [Ob.dct kvs] ++ [Ob.lst []]) (cutE L e) := .inr ⟨_, rfl, by simp⟩
  refine stop_of_wp h3 (cutE_wf hw e) (E := cutE L e) (kvs := kvs) (by simp) hk ?_
  refine below_wp2 h3 (by omega) ?_
  generalize hB : cutE (cutE L e) (settledM L e) = B
  have hB' : cutE (cutE L e) (stopM (cutE L e) (fstEnd (cutE L e)) e) = B := hB
  rw [hB']
  have hat : ∀ fs : List D, (st ++ [Ob.lst ((cutE L e).map entD)] ++ [Ob.dct kvs] ++ [Ob.lst fs] ++ [Ob.lst (B.map entD)])[st.length + 2]? = some (.lst fs) := fun fs => by simp
  have hat3 : ∀ fs : List D, (st ++ [Ob.lst ((cutE L e).map entD)] ++ [Ob.dct kvs] ++ [Ob.lst fs] ++ [Ob.lst (B.map entD)])[st.length + 1]? = some (.dct kvs) := fun fs => by simp
  have hat4 : ∀ fs : List D, (st ++ [Ob.lst ((cutE L e).map entD)] ++ [Ob.dct kvs] ++ [Ob.lst fs] ++ [Ob.lst (B.map entD)])[st.length + 3]? = some (.lst (B.map entD)) := fun fs => by simp
  have hset : ∀ fs gs : List D, (st ++ [Ob.lst ((cutE L e).map entD)] ++ [Ob.dct kvs] ++ [Ob.lst fs] ++ [Ob.lst (B.map entD)]).set (st.length + 2) (.lst gs) = st ++ [Ob.lst ((cutE L e).map entD)] ++ [Ob.dct kvs] ++ [Ob.lst gs] ++ [Ob.lst (B.map entD)] := fun fs gs => by simp
  have hlen : (st ++ [Ob.lst ((cutE L e).map entD)] ++ [Ob.dct kvs] ++ [Ob.lst []]).length = st.length + 3 := by simp
  have hlen2 : (st ++ [Ob.lst ((cutE L e).map entD)] ++ [Ob.dct kvs]).length = st.length + 2 := by simp
  have hlen1 : (st ++ [Ob.lst ((cutE L e).map entD)]).length = st.length + 1 := by simp
  rw [hlen, hlen2, hlen1]
  have hBsub : ∀ a ∈ B, a ∈ cutE L e ∧ a.1 < settledM L e := by
    intro a ha
    rw [← hB] at ha
    obtain ⟨h1, h2⟩ := List.mem_filter.mp ha
    exact ⟨h1, of_decide_eq_true h2⟩
  have hBl : B.length ≤ L.length := by rw [← hB]; omega
  rw [x_seqL (hat4 [])]
  refine wp_loopF_map entD B (fun P env s => ∃ e5 e6, env = [some x, some (.int e), some (.ob st.length), some (.ob (st.length + 1)), some (.ob (st.length + 2)), e5, e6] ∧ s = st ++ [Ob.lst ((cutE L e).map entD)] ++ [Ob.dct kvs] ++ [Ob.lst ((P.filterMap (visOf (fstEnd (cutE L e)))).map visD)] ++ [Ob.lst (B.map entD)]) ?_ ?_ ⟨none, none, rfl, rfl⟩
  · rintro P ⟨p, r⟩ R env s hL ⟨e5, e6, rfl, rfl⟩
    refine ⟨by simp only [gdOk, Bool.and_true, decide_eq_true_eq]; exact hat4 _, ?_⟩
    have hPl : (P.filterMap (visOf (fstEnd (cutE L e)))).length ≤ P.length := List.length_filterMap_le _ _
    have hPB : P.length ≤ B.length := by rw [hL]; simp
    rw [wp_forF (env1 := [some x, some (.int e), some (.ob st.length), some (.ob (st.length + 1)), some (.ob (st.length + 2)), some (.int p), some (recD r)]) rfl]
    obtain ⟨hin, hlt⟩ := hBsub (p, r) (by rw [hL]; simp)
    have hop := stop_ahead (hsr.cut e) hin hlt
    have hwf : r.giver ≠ "book" := cutE_wf hw e (p, r) hin
    have snoc : ∀ o, visOf (fstEnd (cutE L e)) (p, r) = o → (P ++ [(p, r)]).filterMap (visOf (fstEnd (cutE L e))) = P.filterMap (visOf (fstEnd (cutE L e))) ++ o.toList := by
      intro o ho
      rw [List.filterMap_append, ← ho]
      cases h0 : visOf (fstEnd (cutE L e)) (p, r) <;> simp [h0]
    have add : ∀ v, visOf (fstEnd (cutE L e)) (p, r) = some v → ((P ++ [(p, r)]).filterMap (visOf (fstEnd (cutE L e)))).map visD = (P.filterMap (visOf (fstEnd (cutE L e)))).map visD ++ [visD v] := by
      intro v hv
      rw [snoc _ hv]; simp
    have same : visOf (fstEnd (cutE L e)) (p, r) = none → ((P ++ [(p, r)]).filterMap (visOf (fstEnd (cutE L e)))).map visD = (P.filterMap (visOf (fstEnd (cutE L e)))).map visD := by
      intro hv
      rw [snoc _ hv]; simp
    cases r with
    | word g n dl k t tm =>
      cases dl with
      | none =>
        unfold recD optD
        simp only [wp_callDef, wp_cons, wp_nil, wp_asg, wp_expr, wp_retS, wp_retN, wp_iteS, wp_pass, wp_brk, wp_cont, wp_setIx, wp_augX, wp_asgT, wp_for, wp_varX, wp_cst, wp_bin, wp_cmp, wp_cmpT, wp_chainT, wp_andT, wp_orT, wp_notT, wp_iteE, wp_idx, wp_sl, wp_call, wp_callK, wp_call0, wp_globX, wp_dictX, wp_bi, wp_tup, wp_lst, wp_dict0, wp_meth, wp_lc, wp_evs_nil, wp_evs_cons, wp_evo_none, wp_evo_some, wp_seq, wp_enum, wp_rng1, wp_rng2, wp_idxT, wp_varT, wp_callT, wp_callKT, wp_biT, x_truB, tsto_none, tsto_some,
  seqQ_nx, seqQ_ret, seqQ_bk, seqQ_ct, endQ_ret, endQ_nx, varQ_some, lstQ_some, dctQ_some, optQ_some, blQ_bl, inQ_int, rgQ_int, rg2Q_int,
  x_eqSS, x_eqII, x_neSS, x_neII, str_we, str_ew, decide_true, decide_false, if_true, if_false, Bool.false_eq_true, reduceIte, x_addI, x_addT, x_addS, x_addL, x_subI, x_mulI, x_divI, x_modI, x_powI, x_ltI, x_leI, x_gtI, x_geI, x_is, x_isnot, x_isB, x_isNB, x_ixT, x_ixF, x_abs, x_lenT, x_lenF, x_intI, x_intB, x_max2, x_min2, x_seqT, x_seqF, x_slT, x_slF,
  List.map_cons, List.map_nil, List.length_cons, List.length_nil, List.cons_append, List.nil_append, List.replicate_succ, List.replicate_zero, Nat.reduceSub, Nat.reduceAdd, List.set_cons_zero, List.set_cons_succ, List.getElem?_cons_zero, List.getElem?_cons_succ, Nat.add_zero, Nat.zero_add, Nat.sub_self, decide_eq_true_eq, at7, cut7]
        refine ⟨.list, x_tyL (hat _), by decide, by decide, ?_⟩
        rw [x_app (hat _)]
        refine ⟨by rw [List.length_map]; omega, _, _, rfl, ?_⟩
        rw [hset, add (p, k, t, tm) rfl]
        rfl
      | some d =>
        have hb : g = "book" → d ≠ 0 := fun z => absurd z hwf
        unfold recD optD
        simp only [wp_callDef, wp_cons, wp_nil, wp_asg, wp_expr, wp_retS, wp_retN, wp_iteS, wp_pass, wp_brk, wp_cont, wp_setIx, wp_augX, wp_asgT, wp_for, wp_varX, wp_cst, wp_bin, wp_cmp, wp_cmpT, wp_chainT, wp_andT, wp_orT, wp_notT, wp_iteE, wp_idx, wp_sl, wp_call, wp_callK, wp_call0, wp_globX, wp_dictX, wp_bi, wp_tup, wp_lst, wp_dict0, wp_meth, wp_lc, wp_evs_nil, wp_evs_cons, wp_evo_none, wp_evo_some, wp_seq, wp_enum, wp_rng1, wp_rng2, wp_idxT, wp_varT, wp_callT, wp_callKT, wp_biT, x_truB, tsto_none, tsto_some,
  seqQ_nx, seqQ_ret, seqQ_bk, seqQ_ct, endQ_ret, endQ_nx, varQ_some, lstQ_some, dctQ_some, optQ_some, blQ_bl, inQ_int, rgQ_int, rg2Q_int,
  x_eqSS, x_eqII, x_neSS, x_neII, str_we, str_ew, decide_true, decide_false, if_true, if_false, Bool.false_eq_true, reduceIte, x_addI, x_addT, x_addS, x_addL, x_subI, x_mulI, x_divI, x_modI, x_powI, x_ltI, x_leI, x_gtI, x_geI, x_is, x_isnot, x_isB, x_isNB, x_ixT, x_ixF, x_abs, x_lenT, x_lenF, x_intI, x_intB, x_max2, x_min2, x_seqT, x_seqF, x_slT, x_slF,
  List.map_cons, List.map_nil, List.length_cons, List.length_nil, List.cons_append, List.nil_append, List.replicate_succ, List.replicate_zero, Nat.reduceSub, Nat.reduceAdd, List.set_cons_zero, List.set_cons_succ, List.getElem?_cons_zero, List.getElem?_cons_succ, Nat.add_zero, Nat.zero_add, Nat.sub_self, decide_eq_true_eq, at7, cut7]
        refine ⟨by decide, ?_⟩
        rw [x_ixD (hat3 _)]
        refine ⟨kind_pairs hk.keys hb, ?_⟩
        rw [hk.get]
        cases hf : fstEnd (cutE L e) g d with
        | none => simp [openW, hf] at hop
        | some z =>
          simp only [Option.map_some]
          simp only [wp_callDef, wp_cons, wp_nil, wp_asg, wp_expr, wp_retS, wp_retN, wp_iteS, wp_pass, wp_brk, wp_cont, wp_setIx, wp_augX, wp_asgT, wp_for, wp_varX, wp_cst, wp_bin, wp_cmp, wp_cmpT, wp_chainT, wp_andT, wp_orT, wp_notT, wp_iteE, wp_idx, wp_sl, wp_call, wp_callK, wp_call0, wp_globX, wp_dictX, wp_bi, wp_tup, wp_lst, wp_dict0, wp_meth, wp_lc, wp_evs_nil, wp_evs_cons, wp_evo_none, wp_evo_some, wp_seq, wp_enum, wp_rng1, wp_rng2, wp_idxT, wp_varT, wp_callT, wp_callKT, wp_biT, x_truB, tsto_none, tsto_some,
  seqQ_nx, seqQ_ret, seqQ_bk, seqQ_ct, endQ_ret, endQ_nx, varQ_some, lstQ_some, dctQ_some, optQ_some, blQ_bl, inQ_int, rgQ_int, rg2Q_int,
  x_eqSS, x_eqII, x_neSS, x_neII, str_we, str_ew, decide_true, decide_false, if_true, if_false, Bool.false_eq_true, reduceIte, x_addI, x_addT, x_addS, x_addL, x_subI, x_mulI, x_divI, x_modI, x_powI, x_ltI, x_leI, x_gtI, x_geI, x_is, x_isnot, x_isB, x_isNB, x_ixT, x_ixF, x_abs, x_lenT, x_lenF, x_intI, x_intB, x_max2, x_min2, x_seqT, x_seqF, x_slT, x_slF,
  List.map_cons, List.map_nil, List.length_cons, List.length_nil, List.cons_append, List.nil_append, List.replicate_succ, List.replicate_zero, Nat.reduceSub, Nat.reduceAdd, List.set_cons_zero, List.set_cons_succ, List.getElem?_cons_zero, List.getElem?_cons_succ, Nat.add_zero, Nat.zero_add, Nat.sub_self, decide_eq_true_eq]
          cases z with
          | true =>
            simp only [wp_callDef, wp_cons, wp_nil, wp_asg, wp_expr, wp_retS, wp_retN, wp_iteS, wp_pass, wp_brk, wp_cont, wp_setIx, wp_augX, wp_asgT, wp_for, wp_varX, wp_cst, wp_bin, wp_cmp, wp_cmpT, wp_chainT, wp_andT, wp_orT, wp_notT, wp_iteE, wp_idx, wp_sl, wp_call, wp_callK, wp_call0, wp_globX, wp_dictX, wp_bi, wp_tup, wp_lst, wp_dict0, wp_meth, wp_lc, wp_evs_nil, wp_evs_cons, wp_evo_none, wp_evo_some, wp_seq, wp_enum, wp_rng1, wp_rng2, wp_idxT, wp_varT, wp_callT, wp_callKT, wp_biT, x_truB, tsto_none, tsto_some,
  seqQ_nx, seqQ_ret, seqQ_bk, seqQ_ct, endQ_ret, endQ_nx, varQ_some, lstQ_some, dctQ_some, optQ_some, blQ_bl, inQ_int, rgQ_int, rg2Q_int,
  x_eqSS, x_eqII, x_neSS, x_neII, str_we, str_ew, decide_true, decide_false, if_true, if_false, Bool.false_eq_true, reduceIte, x_addI, x_addT, x_addS, x_addL, x_subI, x_mulI, x_divI, x_modI, x_powI, x_ltI, x_leI, x_gtI, x_geI, x_is, x_isnot, x_isB, x_isNB, x_ixT, x_ixF, x_abs, x_lenT, x_lenF, x_intI, x_intB, x_max2, x_min2, x_seqT, x_seqF, x_slT, x_slF,
  List.map_cons, List.map_nil, List.length_cons, List.length_nil, List.cons_append, List.nil_append, List.replicate_succ, List.replicate_zero, Nat.reduceSub, Nat.reduceAdd, List.set_cons_zero, List.set_cons_succ, List.getElem?_cons_zero, List.getElem?_cons_succ, Nat.add_zero, Nat.zero_add, Nat.sub_self, decide_eq_true_eq, at7, cut7]
            refine ⟨.list, x_tyL (hat _), by decide, by decide, ?_⟩
            rw [x_app (hat _)]
            refine ⟨by rw [List.length_map]; omega, _, _, rfl, ?_⟩
            rw [hset, add (p, k, t, tm) (by simp [visOf, hf])]
            rfl
          | false =>
            simp only [wp_callDef, wp_cons, wp_nil, wp_asg, wp_expr, wp_retS, wp_retN, wp_iteS, wp_pass, wp_brk, wp_cont, wp_setIx, wp_augX, wp_asgT, wp_for, wp_varX, wp_cst, wp_bin, wp_cmp, wp_cmpT, wp_chainT, wp_andT, wp_orT, wp_notT, wp_iteE, wp_idx, wp_sl, wp_call, wp_callK, wp_call0, wp_globX, wp_dictX, wp_bi, wp_tup, wp_lst, wp_dict0, wp_meth, wp_lc, wp_evs_nil, wp_evs_cons, wp_evo_none, wp_evo_some, wp_seq, wp_enum, wp_rng1, wp_rng2, wp_idxT, wp_varT, wp_callT, wp_callKT, wp_biT, x_truB, tsto_none, tsto_some,
  seqQ_nx, seqQ_ret, seqQ_bk, seqQ_ct, endQ_ret, endQ_nx, varQ_some, lstQ_some, dctQ_some, optQ_some, blQ_bl, inQ_int, rgQ_int, rg2Q_int,
  x_eqSS, x_eqII, x_neSS, x_neII, str_we, str_ew, decide_true, decide_false, if_true, if_false, Bool.false_eq_true, reduceIte, x_addI, x_addT, x_addS, x_addL, x_subI, x_mulI, x_divI, x_modI, x_powI, x_ltI, x_leI, x_gtI, x_geI, x_is, x_isnot, x_isB, x_isNB, x_ixT, x_ixF, x_abs, x_lenT, x_lenF, x_intI, x_intB, x_max2, x_min2, x_seqT, x_seqF, x_slT, x_slF,
  List.map_cons, List.map_nil, List.length_cons, List.length_nil, List.cons_append, List.nil_append, List.replicate_succ, List.replicate_zero, Nat.reduceSub, Nat.reduceAdd, List.set_cons_zero, List.set_cons_succ, List.getElem?_cons_zero, List.getElem?_cons_succ, Nat.add_zero, Nat.zero_add, Nat.sub_self, decide_eq_true_eq]
            refine ⟨_, _, rfl, ?_⟩
            rw [same (by simp [visOf, hf])]
    | fin g d b =>
      unfold recD
      simp only [wp_callDef, wp_cons, wp_nil, wp_asg, wp_expr, wp_retS, wp_retN, wp_iteS, wp_pass, wp_brk, wp_cont, wp_setIx, wp_augX, wp_asgT, wp_for, wp_varX, wp_cst, wp_bin, wp_cmp, wp_cmpT, wp_chainT, wp_andT, wp_orT, wp_notT, wp_iteE, wp_idx, wp_sl, wp_call, wp_callK, wp_call0, wp_globX, wp_dictX, wp_bi, wp_tup, wp_lst, wp_dict0, wp_meth, wp_lc, wp_evs_nil, wp_evs_cons, wp_evo_none, wp_evo_some, wp_seq, wp_enum, wp_rng1, wp_rng2, wp_idxT, wp_varT, wp_callT, wp_callKT, wp_biT, x_truB, tsto_none, tsto_some,
  seqQ_nx, seqQ_ret, seqQ_bk, seqQ_ct, endQ_ret, endQ_nx, varQ_some, lstQ_some, dctQ_some, optQ_some, blQ_bl, inQ_int, rgQ_int, rg2Q_int,
  x_eqSS, x_eqII, x_neSS, x_neII, str_we, str_ew, decide_true, decide_false, if_true, if_false, Bool.false_eq_true, reduceIte, x_addI, x_addT, x_addS, x_addL, x_subI, x_mulI, x_divI, x_modI, x_powI, x_ltI, x_leI, x_gtI, x_geI, x_is, x_isnot, x_isB, x_isNB, x_ixT, x_ixF, x_abs, x_lenT, x_lenF, x_intI, x_intB, x_max2, x_min2, x_seqT, x_seqF, x_slT, x_slF,
  List.map_cons, List.map_nil, List.length_cons, List.length_nil, List.cons_append, List.nil_append, List.replicate_succ, List.replicate_zero, Nat.reduceSub, Nat.reduceAdd, List.set_cons_zero, List.set_cons_succ, List.getElem?_cons_zero, List.getElem?_cons_succ, Nat.add_zero, Nat.zero_add, Nat.sub_self, decide_eq_true_eq, at4]
      refine ⟨_, _, rfl, ?_⟩
      rw [same rfl]
  · rintro env s ⟨e5, e6, rfl, rfl⟩
    refine ⟨by simp only [gdOk, Bool.and_true, decide_eq_true_eq]; exact hat4 _, ?_⟩
    simp only [wp_callDef, wp_cons, wp_nil, wp_asg, wp_expr, wp_retS, wp_retN, wp_iteS, wp_pass, wp_brk, wp_cont, wp_setIx, wp_augX, wp_asgT, wp_for, wp_varX, wp_cst, wp_bin, wp_cmp, wp_cmpT, wp_chainT, wp_andT, wp_orT, wp_notT, wp_iteE, wp_idx, wp_sl, wp_call, wp_callK, wp_call0, wp_globX, wp_dictX, wp_bi, wp_tup, wp_lst, wp_dict0, wp_meth, wp_lc, wp_evs_nil, wp_evs_cons, wp_evo_none, wp_evo_some, wp_seq, wp_enum, wp_rng1, wp_rng2, wp_idxT, wp_varT, wp_callT, wp_callKT, wp_biT, x_truB, tsto_none, tsto_some,
  seqQ_nx, seqQ_ret, seqQ_bk, seqQ_ct, endQ_ret, endQ_nx, varQ_some, lstQ_some, dctQ_some, optQ_some, blQ_bl, inQ_int, rgQ_int, rg2Q_int,
  x_eqSS, x_eqII, x_neSS, x_neII, str_we, str_ew, decide_true, decide_false, if_true, if_false, Bool.false_eq_true, reduceIte, x_addI, x_addT, x_addS, x_addL, x_subI, x_mulI, x_divI, x_modI, x_powI, x_ltI, x_leI, x_gtI, x_geI, x_is, x_isnot, x_isB, x_isNB, x_ixT, x_ixF, x_abs, x_lenT, x_lenF, x_intI, x_intB, x_max2, x_min2, x_seqT, x_seqF, x_slT, x_slF,
  List.map_cons, List.map_nil, List.length_cons, List.length_nil, List.cons_append, List.nil_append, List.replicate_succ, List.replicate_zero, Nat.reduceSub, Nat.reduceAdd, List.set_cons_zero, List.set_cons_succ, List.getElem?_cons_zero, List.getElem?_cons_succ, Nat.add_zero, Nat.zero_add, Nat.sub_self, decide_eq_true_eq]
    rw [x_tupL (hat _)]
    have := q (st ++ [Ob.lst ((cutE L e).map entD)] ++ [Ob.dct kvs] ++ [Ob.lst ((B.filterMap (visOf (fstEnd (cutE L e)))).map visD)] ++ [Ob.lst (B.map entD)]) ⟨[Ob.lst ((cutE L e).map entD), Ob.dct kvs, Ob.lst ((B.filterMap (visOf (fstEnd (cutE L e)))).map visD), Ob.lst (B.map entD)], by simp⟩
    unfold visM at this
    rw [hB] at this
    exact this
end W9

/-! W9O: the law's own settled and visible -/
namespace W9
open PySem L2
def lfe_b : Sms :=
  (.cons (.asg 4 (.lc [5, 6] (.seq (.var 0)) (.tup [5, 6]) (.some (.and (.cmp .Lt (.var 5) (.var 1)) (.cmp .Eq (.sl (.var 6) .none (.some (.cst (.int 3)))) (.tup (.cons (.cst (.str "end")) (.cons (.var 2) (.cons (.var 3) .nil))))))) (.idx (.var 6) (.cst (.int 3)))))
    (.cons (.ret (.idx (.bin .Add (.var 4) (.lst (.cons (.cst .non) .nil))) (.cst (.int 0))))
    .nil))
def lset_b : Sms :=
  (.cons (.asg 2 (.lc [3, 4] (.seq (.var 0)) (.tup [3, 4]) (.some (.and (.cmp .Eq (.idx (.var 4) (.cst (.int 0))) (.cst (.str "word"))) (.and (.cmp .Lt (.var 3) (.var 1)) (.and (.cmp .IsNot (.idx (.var 4) (.cst (.int 3))) (.cst .non)) (.cmp .Is (.call "_law_first_end" (.cons (.var 0) (.cons (.var 1) (.cons (.idx (.var 4) (.cst (.int 1))) (.cons (.idx (.var 4) (.cst (.int 3))) .nil))))) (.cst .non)))))) (.var 3)))
    (.cons (.ret (.bi .min (.cons (.bin .Add (.var 2) (.lst (.cons (.var 1) .nil))) .nil)))
    .nil))
def lvis_b : Sms :=
  (.cons (.asgT [2, 3] (.tup (.cons (.call "_law_settled" (.cons (.var 0) (.cons (.var 1) .nil))) (.cons (.lst .nil) .nil))))
    (.cons (.forS (.seq (.var 0)) (.tup [4, 5])
    (.cons (.ite (.and (.cmp .Eq (.idx (.var 5) (.cst (.int 0))) (.cst (.str "word"))) (.cmp .Lt (.var 4) (.var 2)))
    (.cons (.ite (.or (.cmp .Is (.idx (.var 5) (.cst (.int 3))) (.cst .non)) (.cmp .Is (.call "_law_first_end" (.cons (.var 0) (.cons (.var 1) (.cons (.idx (.var 5) (.cst (.int 1))) (.cons (.idx (.var 5) (.cst (.int 3))) .nil))))) (.cst (.bl true))))
    (.cons (.expr (.meth .append (.var 3) (.cons (.tup (.cons (.var 4) (.cons (.idx (.var 5) (.cst (.int 4))) (.cons (.idx (.var 5) (.cst (.int 5))) (.cons (.idx (.var 5) (.cst (.int 6))) .nil))))) .nil)))
    .nil)
    .nil)
    .nil)
    .nil)
    .nil))
    (.cons (.ret (.bi .tuple (.cons (.var 3) .nil)))
    .nil)))
def WfS (L : List Ent) : Prop := ∀ e ∈ L, PyData.strOk e.2.giver = true
def boD : Option Bool → D
  | none => .non
  | some b => .bl b
theorem cut3a {a b c d : D} : cutL [a, b, c, d] none (some 3) = [a, b, c] := rfl
theorem cut3b {a b c d e f g : D} : cutL [a, b, c, d, e, f, g] none (some 3) = [a, b, c] := rfl
theorem sh3 {a b : Str} {i : Int} (ha : PyData.strOk a = true) (hb : PyData.strOk b = true) : SeqAt.shaped (.tuple [.str a, .str b, .int i]) = true := by
  simp only [SeqAt.shaped, PyData.canLay0, PyData.canLayAll0, ha, hb, Bool.and_self, Bool.true_and]
  rfl
theorem ok_word : PyData.strOk "word" = true := by decide +kernel
theorem ok_end : PyData.strOk "end" = true := by decide +kernel
theorem eqv3 {a b c d : Str} {i j : Int} : PyData.eqv (.tuple [.str a, .str b, .int i]) (.tuple [.str c, .str d, .int j]) = (decide (a = c) && (decide (b = d) && decide (i = j))) := by
  simp only [PyData.eqv, PyData.eqvAll, Bool.and_true]
  rfl
theorem eq3 {QD : D → Store → Prop} {st : Store} {a b c d : Str} {i j : Int} (ha : PyData.strOk a = true) (hb : PyData.strOk b = true) (hc : PyData.strOk c = true) (hd : PyData.strOk d = true) : wp (cmpD .Eq (.tup [.str a, .str b, .int i]) (.tup [.str c, .str d, .int j])) QD st ↔ QD (.bl (decide (a = c) && (decide (b = d) && decide (i = j)))) st := by
  rw [x_eqP (p := .tuple [.str a, .str b, .int i]) (q := .tuple [.str c, .str d, .int j]) rfl rfl rfl (sh3 ha hb) (sh3 hc hd), eqv3]
abbrev logT (L : List Ent) : D := .tup (L.map entD)
theorem head_findSome {L : List Ent} {g : Str} {d e : Int} : fstEnd (cutE L e) g d = ((L.filter fun a => decide (a.1 < e) && (endAt g d a).isSome).map fun a => (endAt g d a).getD false).head? := by
  unfold fstEnd cutE
  induction L with
  | nil => rfl
  | cons a L ih =>
    by_cases h1 : a.1 < e
    · cases h2 : endAt g d a with
      | some b => simp [List.filter_cons, h1, h2]
      | none => simp [List.filter_cons, h1, h2]; simpa using ih
    · simp [List.filter_cons, h1]; simpa using ih
theorem atI_head {α : Type} {x : α} {xs : List α} : atI (x :: xs) 0 = some x := by
  unfold atI ixN
  rw [if_pos (by decide), if_pos (by simp only [List.length_cons]; omega)]
  rfl
theorem lfe_wp {C : Cts} {L : List Ent} {e d : Int} {g : Str} {st : Store} {QD : D → Store → Prop} (hw : WfS L) (hg : PyData.strOk g = true) (hl : L.length < bigN) (q : ∀ s, st <+: s → QD (boD (fstEnd (cutE L e) g d)) s) :
    wp (callDef C 7 lfe_b [logT L, .int e, .str g, .int d]) QD st := by
  unfold lfe_b
  simp only [wp_callDef, wp_cons, wp_nil, wp_asg, wp_expr, wp_retS, wp_retN, wp_iteS, wp_pass, wp_brk, wp_cont, wp_setIx, wp_augX, wp_asgT, wp_for, wp_varX, wp_cst, wp_bin, wp_cmp, wp_cmpT, wp_chainT, wp_andT, wp_orT, wp_notT, wp_iteE, wp_idx, wp_sl, wp_call, wp_callK, wp_call0, wp_globX, wp_dictX, wp_bi, wp_tup, wp_lst, wp_dict0, wp_meth, wp_lc, wp_evs_nil, wp_evs_cons, wp_evo_none, wp_evo_some, wp_seq, wp_enum, wp_rng1, wp_rng2, wp_idxT, wp_varT, wp_callT, wp_callKT, wp_biT, x_truB, tsto_none, tsto_some,
  seqQ_nx, seqQ_ret, seqQ_bk, seqQ_ct, endQ_ret, endQ_nx, varQ_some, lstQ_some, dctQ_some, optQ_some, blQ_bl, inQ_int, rgQ_int, rg2Q_int,
  x_eqSS, x_eqII, x_neSS, x_neII, str_we, str_ew, decide_true, decide_false, if_true, if_false, Bool.false_eq_true, reduceIte, x_addI, x_addT, x_addS, x_addL, x_subI, x_mulI, x_divI, x_modI, x_powI, x_ltI, x_leI, x_gtI, x_geI, x_is, x_isnot, x_isB, x_isNB, x_ixT, x_ixF, x_abs, x_lenT, x_lenF, x_intI, x_intB, x_max2, x_min2, x_seqT, x_seqF, x_slT, x_slF,
  List.map_cons, List.map_nil, List.length_cons, List.length_nil, List.cons_append, List.nil_append, List.replicate_succ, List.replicate_zero, Nat.reduceSub, Nat.reduceAdd, List.set_cons_zero, List.set_cons_succ, List.getElem?_cons_zero, List.getElem?_cons_succ, Nat.add_zero, Nat.zero_add, Nat.sub_self, decide_eq_true_eq]
  have key := wp_loopC_map (st := st) (gd := []) (f := compF (.tup [5, 6]) [5, 6] [some (logT L), some (.int e), some (.str g), some (.int d), none, none, none] (tsto C (.some (.and (.cmp .Lt (.var 5) (.var 1)) (.cmp .Eq (.sl (.var 6) .none (.some (.cst (.int 3)))) (.tup (.cons (.cst (.str "end")) (.cons (.var 2) (.cons (.var 3) .nil)))))))) (bo C (.idx (.var 6) (.cst (.int 3)))).1) entD (fun a => .bl ((endAt g d a).getD false)) (fun a => decide (a.1 < e) && (endAt g d a).isSome) rfl L (fun a ha => by
    obtain ⟨p, r⟩ := a
    rw [wp_compF (env1 := [some (logT L), some (.int e), some (.str g), some (.int d), none, some (.int p), some (recD r)]) rfl]
    have hs := hw (p, r) ha
    cases r with
    | word g' n dl k t tm =>
      have hs' : PyData.strOk g' = true := hs
      unfold recD
      simp only [wp_callDef, wp_cons, wp_nil, wp_asg, wp_expr, wp_retS, wp_retN, wp_iteS, wp_pass, wp_brk, wp_cont, wp_setIx, wp_augX, wp_asgT, wp_for, wp_varX, wp_cst, wp_bin, wp_cmp, wp_cmpT, wp_chainT, wp_andT, wp_orT, wp_notT, wp_iteE, wp_idx, wp_sl, wp_call, wp_callK, wp_call0, wp_globX, wp_dictX, wp_bi, wp_tup, wp_lst, wp_dict0, wp_meth, wp_lc, wp_evs_nil, wp_evs_cons, wp_evo_none, wp_evo_some, wp_seq, wp_enum, wp_rng1, wp_rng2, wp_idxT, wp_varT, wp_callT, wp_callKT, wp_biT, x_truB, tsto_none, tsto_some,
  seqQ_nx, seqQ_ret, seqQ_bk, seqQ_ct, endQ_ret, endQ_nx, varQ_some, lstQ_some, dctQ_some, optQ_some, blQ_bl, inQ_int, rgQ_int, rg2Q_int,
  x_eqSS, x_eqII, x_neSS, x_neII, str_we, str_ew, decide_true, decide_false, if_true, if_false, Bool.false_eq_true, reduceIte, x_addI, x_addT, x_addS, x_addL, x_subI, x_mulI, x_divI, x_modI, x_powI, x_ltI, x_leI, x_gtI, x_geI, x_is, x_isnot, x_isB, x_isNB, x_ixT, x_ixF, x_abs, x_lenT, x_lenF, x_intI, x_intB, x_max2, x_min2, x_seqT, x_seqF, x_slT, x_slF,
  List.map_cons, List.map_nil, List.length_cons, List.length_nil, List.cons_append, List.nil_append, List.replicate_succ, List.replicate_zero, Nat.reduceSub, Nat.reduceAdd, List.set_cons_zero, List.set_cons_succ, List.getElem?_cons_zero, List.getElem?_cons_succ, Nat.add_zero, Nat.zero_add, Nat.sub_self, decide_eq_true_eq, at7, cut3b, eq3 ok_word hs' ok_end hg]
      by_cases h : p < e
      · simp [h, eq3 ok_word hs' ok_end hg, blQ_bl, str_we, endAt, bigN]
      · simp [h]
    | fin g' d' b =>
      have hs' : PyData.strOk g' = true := hs
      unfold recD
      simp only [wp_callDef, wp_cons, wp_nil, wp_asg, wp_expr, wp_retS, wp_retN, wp_iteS, wp_pass, wp_brk, wp_cont, wp_setIx, wp_augX, wp_asgT, wp_for, wp_varX, wp_cst, wp_bin, wp_cmp, wp_cmpT, wp_chainT, wp_andT, wp_orT, wp_notT, wp_iteE, wp_idx, wp_sl, wp_call, wp_callK, wp_call0, wp_globX, wp_dictX, wp_bi, wp_tup, wp_lst, wp_dict0, wp_meth, wp_lc, wp_evs_nil, wp_evs_cons, wp_evo_none, wp_evo_some, wp_seq, wp_enum, wp_rng1, wp_rng2, wp_idxT, wp_varT, wp_callT, wp_callKT, wp_biT, x_truB, tsto_none, tsto_some,
  seqQ_nx, seqQ_ret, seqQ_bk, seqQ_ct, endQ_ret, endQ_nx, varQ_some, lstQ_some, dctQ_some, optQ_some, blQ_bl, inQ_int, rgQ_int, rg2Q_int,
  x_eqSS, x_eqII, x_neSS, x_neII, str_we, str_ew, decide_true, decide_false, if_true, if_false, Bool.false_eq_true, reduceIte, x_addI, x_addT, x_addS, x_addL, x_subI, x_mulI, x_divI, x_modI, x_powI, x_ltI, x_leI, x_gtI, x_geI, x_is, x_isnot, x_isB, x_isNB, x_ixT, x_ixF, x_abs, x_lenT, x_lenF, x_intI, x_intB, x_max2, x_min2, x_seqT, x_seqF, x_slT, x_slF,
  List.map_cons, List.map_nil, List.length_cons, List.length_nil, List.cons_append, List.nil_append, List.replicate_succ, List.replicate_zero, Nat.reduceSub, Nat.reduceAdd, List.set_cons_zero, List.set_cons_succ, List.getElem?_cons_zero, List.getElem?_cons_succ, Nat.add_zero, Nat.zero_add, Nat.sub_self, decide_eq_true_eq, at4, cut3a, eq3 ok_end hs' ok_end hg]
      by_cases h : p < e
      · by_cases h2 : g' = g ∧ d' = d
        · simp [h, h2, eq3 ok_end hg ok_end hg, blQ_bl, endAt, bigN]
        · simp [h, h2, eq3 ok_end hs' ok_end hg, blQ_bl, endAt, bigN]
      · simp [h])
  refine wp_mono key fun ds s ⟨h1, h2⟩ => ?_
  subst h1 h2
  have hlen : ((L.filter fun a => decide (a.1 < e) && (endAt g d a).isSome).map fun a => D.bl ((endAt g d a).getD false)).length ≤ L.length := by rw [List.length_map]; exact List.length_filter_le _ _
  refine ⟨by omega, by decide, ?_⟩
  have hh := head_findSome (L := L) (g := g) (d := d) (e := e)
  generalize hX : (L.filter fun a => decide (a.1 < e) && (endAt g d a).isSome) = X at hh hlen ⊢
  have i1 : (s ++ [Ob.lst (X.map fun a => D.bl ((endAt g d a).getD false))] ++ [Ob.lst [D.non]])[s.length]? = some (.lst (X.map fun a => D.bl ((endAt g d a).getD false))) := by simp
  have i2 : (s ++ [Ob.lst (X.map fun a => D.bl ((endAt g d a).getD false))] ++ [Ob.lst [D.non]])[(s ++ [Ob.lst (X.map fun a => D.bl ((endAt g d a).getD false))]).length]? = some (.lst [D.non]) := by simp
  rw [i1, i2]
  simp only [lstQ_some]
  refine ⟨by simp only [List.length_cons, List.length_nil]; omega, ?_⟩
  rw [x_ixL (xs := X.map (fun a => D.bl ((endAt g d a).getD false)) ++ [D.non]) (by simp)]
  have := q (s ++ [Ob.lst (X.map fun a => D.bl ((endAt g d a).getD false))] ++ [Ob.lst [D.non]] ++ [Ob.lst (X.map (fun a => D.bl ((endAt g d a).getD false)) ++ [D.non])]) ⟨[Ob.lst (X.map fun a => D.bl ((endAt g d a).getD false)), Ob.lst [D.non], Ob.lst (X.map (fun a => D.bl ((endAt g d a).getD false)) ++ [D.non])], by simp⟩
  rw [hh] at this
  cases X with
  | nil => exact this
  | cons a X =>
    rw [List.map_cons, List.cons_append, atI_head]
    exact this
theorem x_minL {QD : D → Store → Prop} {st : Store} {j : Nat} {i : Int} {l : List Int} (h : st[j]? = some (.lst ((i :: l).map D.int))) : wp (biD .min [.ob j]) QD st ↔ QD (.int (minI i l)) st :=
  wp_ok (by simp only [biD, itemsL, h, intsOf_map])
theorem minI_eq {m : Int} : ∀ {l : List Int}, (∀ x ∈ l, m ≤ x) → minI m l = m
  | [], _ => rfl
  | x :: l, h => by
    have h1 : m ≤ x := h x List.mem_cons_self
    unfold minI
    rw [if_neg (by omega)]
    exact minI_eq fun y hy => h y (List.mem_cons_of_mem _ hy)
/-- the first open word, or the end, is the least of all -/
theorem settled_min {L : List Ent} {e : Int} (hs : Srt L) : ∃ i l, ((L.filter fun a => decide (a.1 < e) && openW (fstEnd (cutE L e)) a).map (·.1) ++ [e]) = i :: l ∧ minI i l = settledM L e := by
  have hf : (L.filter fun a => decide (a.1 < e) && openW (fstEnd (cutE L e)) a) = (cutE L e).filter (openW (fstEnd (cutE L e))) := by
    unfold cutE
    rw [List.filter_filter]
    congr 1
    funext a
    exact Bool.and_comm _ _
  rw [hf]
  unfold settledM stopM
  rw [← List.head?_filter]
  have hlt : ∀ a ∈ (cutE L e).filter (openW (fstEnd (cutE L e))), a.1 < e := fun a ha => of_decide_eq_true (List.mem_filter.mp (List.mem_filter.mp ha).1).2
  have hsr : Srt ((cutE L e).filter (openW (fstEnd (cutE L e)))) := List.Pairwise.sublist List.filter_sublist (hs.cut e)
  generalize (cutE L e).filter (openW (fstEnd (cutE L e))) = X at hlt hsr
  cases X with
  | nil => exact ⟨e, [], rfl, rfl⟩
  | cons a X =>
    refine ⟨a.1, X.map (·.1) ++ [e], rfl, ?_⟩
    refine minI_eq fun x hx => ?_
    rcases List.mem_append.mp hx with hx | hx
    · obtain ⟨b, hb, rfl⟩ := List.mem_map.mp hx
      have := (List.pairwise_cons.mp hsr).1 b hb
      omega
    · rw [List.mem_singleton.mp hx]
      have := hlt a List.mem_cons_self
      omega
theorem lset_wp {C : Cts} (RC : ∃ C', C.fn "_law_first_end" = callDef C' 7 lfe_b) {L : List Ent} {e : Int} {st : Store} {QD : D → Store → Prop} (hw : WfS L) (hs : Srt L) (hl : L.length < bigN) (q : ∀ s, st <+: s → QD (.int (settledM L e)) s) :
    wp (callDef C 5 lset_b [logT L, .int e]) QD st := by
  obtain ⟨C1, b1⟩ := RC
  unfold lset_b
  rw [wp_callDef]
  simp only [wp_cons, wp_nil, wp_asg, wp_expr, wp_retS, wp_retN, wp_iteS, wp_pass, wp_brk, wp_cont, wp_setIx, wp_augX, wp_asgT, wp_for, wp_varX, wp_cst, wp_bin, wp_cmp, wp_cmpT, wp_chainT, wp_andT, wp_orT, wp_notT, wp_iteE, wp_idx, wp_sl, wp_call, wp_callK, wp_call0, wp_globX, wp_dictX, wp_bi, wp_tup, wp_lst, wp_dict0, wp_meth, wp_lc, wp_evs_nil, wp_evs_cons, wp_evo_none, wp_evo_some, wp_seq, wp_enum, wp_rng1, wp_rng2, wp_idxT, wp_varT, wp_callT, wp_callKT, wp_biT, x_truB, tsto_none, tsto_some,
  seqQ_nx, seqQ_ret, seqQ_bk, seqQ_ct, endQ_ret, endQ_nx, varQ_some, lstQ_some, dctQ_some, optQ_some, blQ_bl, inQ_int, rgQ_int, rg2Q_int,
  x_eqSS, x_eqII, x_neSS, x_neII, str_we, str_ew, decide_true, decide_false, if_true, if_false, Bool.false_eq_true, reduceIte, x_addI, x_addT, x_addS, x_addL, x_subI, x_mulI, x_divI, x_modI, x_powI, x_ltI, x_leI, x_gtI, x_geI, x_is, x_isnot, x_isB, x_isNB, x_ixT, x_ixF, x_abs, x_lenT, x_lenF, x_intI, x_intB, x_max2, x_min2, x_seqT, x_seqF, x_slT, x_slF,
  List.map_cons, List.map_nil, List.length_cons, List.length_nil, List.cons_append, List.nil_append, List.replicate_succ, List.replicate_zero, Nat.reduceSub, Nat.reduceAdd, List.set_cons_zero, List.set_cons_succ, List.getElem?_cons_zero, List.getElem?_cons_succ, Nat.add_zero, Nat.zero_add, Nat.sub_self, decide_eq_true_eq]
  have key := wp_loopC_mapG (st := st) (gd := []) (f := compF (.tup [3, 4]) [3, 4] [some (logT L), some (.int e), none, none, none] (tsto C (.some (.and (.cmp .Eq (.idx (.var 4) (.cst (.int 0))) (.cst (.str "word"))) (.and (.cmp .Lt (.var 3) (.var 1)) (.and (.cmp .IsNot (.idx (.var 4) (.cst (.int 3))) (.cst .non)) (.cmp .Is (.call "_law_first_end" (.cons (.var 0) (.cons (.var 1) (.cons (.idx (.var 4) (.cst (.int 1))) (.cons (.idx (.var 4) (.cst (.int 3))) .nil))))) (.cst .non))))))) (bo C (.var 3)).1) entD (fun a => .int a.1) (fun a => decide (a.1 < e) && openW (fstEnd (cutE L e)) a) rfl L st (List.prefix_refl _) (fun a ha s hp => by
    obtain ⟨p, r⟩ := a
    rw [wp_compF (env1 := [some (logT L), some (.int e), none, some (.int p), some (recD r)]) rfl]
    have hs' := hw (p, r) ha
    cases r with
    | word g n dl k t tm =>
      cases dl with
      | none =>
        unfold recD optD
        simp only [wp_cons, wp_nil, wp_asg, wp_expr, wp_retS, wp_retN, wp_iteS, wp_pass, wp_brk, wp_cont, wp_setIx, wp_augX, wp_asgT, wp_for, wp_varX, wp_cst, wp_bin, wp_cmp, wp_cmpT, wp_chainT, wp_andT, wp_orT, wp_notT, wp_iteE, wp_idx, wp_sl, wp_call, wp_callK, wp_call0, wp_globX, wp_dictX, wp_bi, wp_tup, wp_lst, wp_dict0, wp_meth, wp_lc, wp_evs_nil, wp_evs_cons, wp_evo_none, wp_evo_some, wp_seq, wp_enum, wp_rng1, wp_rng2, wp_idxT, wp_varT, wp_callT, wp_callKT, wp_biT, x_truB, tsto_none, tsto_some,
  seqQ_nx, seqQ_ret, seqQ_bk, seqQ_ct, endQ_ret, endQ_nx, varQ_some, lstQ_some, dctQ_some, optQ_some, blQ_bl, inQ_int, rgQ_int, rg2Q_int,
  x_eqSS, x_eqII, x_neSS, x_neII, str_we, str_ew, decide_true, decide_false, if_true, if_false, Bool.false_eq_true, reduceIte, x_addI, x_addT, x_addS, x_addL, x_subI, x_mulI, x_divI, x_modI, x_powI, x_ltI, x_leI, x_gtI, x_geI, x_is, x_isnot, x_isB, x_isNB, x_ixT, x_ixF, x_abs, x_lenT, x_lenF, x_intI, x_intB, x_max2, x_min2, x_seqT, x_seqF, x_slT, x_slF,
  List.map_cons, List.map_nil, List.length_cons, List.length_nil, List.cons_append, List.nil_append, List.replicate_succ, List.replicate_zero, Nat.reduceSub, Nat.reduceAdd, List.set_cons_zero, List.set_cons_succ, List.getElem?_cons_zero, List.getElem?_cons_succ, Nat.add_zero, Nat.zero_add, Nat.sub_self, decide_eq_true_eq, at7]
        by_cases h : p < e
        · simp [h, blQ_bl, openW, x_isnot]
        · simp [h, openW]
      | some d =>
        unfold recD optD
        simp only [wp_cons, wp_nil, wp_asg, wp_expr, wp_retS, wp_retN, wp_iteS, wp_pass, wp_brk, wp_cont, wp_setIx, wp_augX, wp_asgT, wp_for, wp_varX, wp_cst, wp_bin, wp_cmp, wp_cmpT, wp_chainT, wp_andT, wp_orT, wp_notT, wp_iteE, wp_idx, wp_sl, wp_call, wp_callK, wp_call0, wp_globX, wp_dictX, wp_bi, wp_tup, wp_lst, wp_dict0, wp_meth, wp_lc, wp_evs_nil, wp_evs_cons, wp_evo_none, wp_evo_some, wp_seq, wp_enum, wp_rng1, wp_rng2, wp_idxT, wp_varT, wp_callT, wp_callKT, wp_biT, x_truB, tsto_none, tsto_some,
  seqQ_nx, seqQ_ret, seqQ_bk, seqQ_ct, endQ_ret, endQ_nx, varQ_some, lstQ_some, dctQ_some, optQ_some, blQ_bl, inQ_int, rgQ_int, rg2Q_int,
  x_eqSS, x_eqII, x_neSS, x_neII, str_we, str_ew, decide_true, decide_false, if_true, if_false, Bool.false_eq_true, reduceIte, x_addI, x_addT, x_addS, x_addL, x_subI, x_mulI, x_divI, x_modI, x_powI, x_ltI, x_leI, x_gtI, x_geI, x_is, x_isnot, x_isB, x_isNB, x_ixT, x_ixF, x_abs, x_lenT, x_lenF, x_intI, x_intB, x_max2, x_min2, x_seqT, x_seqF, x_slT, x_slF,
  List.map_cons, List.map_nil, List.length_cons, List.length_nil, List.cons_append, List.nil_append, List.replicate_succ, List.replicate_zero, Nat.reduceSub, Nat.reduceAdd, List.set_cons_zero, List.set_cons_succ, List.getElem?_cons_zero, List.getElem?_cons_succ, Nat.add_zero, Nat.zero_add, Nat.sub_self, decide_eq_true_eq, at7, b1]
        by_cases h : p < e
        · simp only [h, if_true, decide_true, Bool.true_and]
          refine lfe_wp hw hs' hl fun s1 p1 => ?_
          cases hf : fstEnd (cutE L e) g d with
          | none => simp [boD, openW, hf, wp_varX, varQ_some, p1]
          | some b => simp [boD, openW, hf, wp_varX, varQ_some, p1]
        · simp [h]
    | fin g d b =>
      unfold recD
      simp only [wp_cons, wp_nil, wp_asg, wp_expr, wp_retS, wp_retN, wp_iteS, wp_pass, wp_brk, wp_cont, wp_setIx, wp_augX, wp_asgT, wp_for, wp_varX, wp_cst, wp_bin, wp_cmp, wp_cmpT, wp_chainT, wp_andT, wp_orT, wp_notT, wp_iteE, wp_idx, wp_sl, wp_call, wp_callK, wp_call0, wp_globX, wp_dictX, wp_bi, wp_tup, wp_lst, wp_dict0, wp_meth, wp_lc, wp_evs_nil, wp_evs_cons, wp_evo_none, wp_evo_some, wp_seq, wp_enum, wp_rng1, wp_rng2, wp_idxT, wp_varT, wp_callT, wp_callKT, wp_biT, x_truB, tsto_none, tsto_some,
  seqQ_nx, seqQ_ret, seqQ_bk, seqQ_ct, endQ_ret, endQ_nx, varQ_some, lstQ_some, dctQ_some, optQ_some, blQ_bl, inQ_int, rgQ_int, rg2Q_int,
  x_eqSS, x_eqII, x_neSS, x_neII, str_we, str_ew, decide_true, decide_false, if_true, if_false, Bool.false_eq_true, reduceIte, x_addI, x_addT, x_addS, x_addL, x_subI, x_mulI, x_divI, x_modI, x_powI, x_ltI, x_leI, x_gtI, x_geI, x_is, x_isnot, x_isB, x_isNB, x_ixT, x_ixF, x_abs, x_lenT, x_lenF, x_intI, x_intB, x_max2, x_min2, x_seqT, x_seqF, x_slT, x_slF,
  List.map_cons, List.map_nil, List.length_cons, List.length_nil, List.cons_append, List.nil_append, List.replicate_succ, List.replicate_zero, Nat.reduceSub, Nat.reduceAdd, List.set_cons_zero, List.set_cons_succ, List.getElem?_cons_zero, List.getElem?_cons_succ, Nat.add_zero, Nat.zero_add, Nat.sub_self, decide_eq_true_eq, at4]
      simp [openW])
  refine wp_mono key fun ds s ⟨h1, h2⟩ => ?_
  subst h1
  have hlen : ((L.filter fun a => decide (a.1 < e) && openW (fstEnd (cutE L e)) a).map fun a => D.int a.1).length ≤ L.length := by rw [List.length_map]; exact List.length_filter_le _ _
  obtain ⟨i, l, hil, hmin⟩ := settled_min (e := e) hs
  refine ⟨by omega, by decide, ?_⟩
  generalize hX : (L.filter fun a => decide (a.1 < e) && openW (fstEnd (cutE L e)) a) = X at hil hlen ⊢
  have i1 : (s ++ [Ob.lst (X.map fun a => D.int a.1)] ++ [Ob.lst [D.int e]])[s.length]? = some (.lst (X.map fun a => D.int a.1)) := by simp
  have i2 : (s ++ [Ob.lst (X.map fun a => D.int a.1)] ++ [Ob.lst [D.int e]])[(s ++ [Ob.lst (X.map fun a => D.int a.1)]).length]? = some (.lst [D.int e]) := by simp
  rw [i1, i2]
  simp only [lstQ_some]
  refine ⟨by simp only [List.length_cons, List.length_nil]; omega, ?_⟩
  have e1 : X.map (fun a => D.int a.1) ++ [D.int e] = (i :: l).map D.int := by rw [← hil]; simp
  rw [e1, x_minL (i := i) (l := l) (by simp), hmin]
  exact q _ (h2.trans ⟨[Ob.lst (X.map fun a => D.int a.1), Ob.lst [D.int e], Ob.lst ((i :: l).map D.int)], by simp⟩)
theorem Kp.setNew {st s : Store} {j : Nat} {o : Ob} (h : Kp [] st s) (hj : st.length ≤ j) : Kp [] st (s.set j o) := by
  refine ⟨by rw [List.length_set]; exact h.len, fun k o' n e => ?_⟩
  have : k < st.length := (List.getElem?_eq_some_iff.mp e).1
  rw [List.getElem?_set_ne (by omega)]
  exact h.at' k o' n e
theorem settled_le {L : List Ent} {e : Int} : settledM L e ≤ e := by
  unfold settledM stopM
  cases h : (cutE L e).find? (openW (fstEnd (cutE L e))) with
  | none => exact Int.le_refl e
  | some a =>
    have := List.mem_of_find?_eq_some h
    have := of_decide_eq_true (List.mem_filter.mp this).2
    exact Int.le_of_lt this
theorem visM_eq {L : List Ent} {e : Int} : visM L e = L.filterMap fun a => if a.1 < settledM L e then visOf (fstEnd (cutE L e)) a else none := by
  unfold visM
  have hle := settled_le (L := L) (e := e)
  generalize settledM L e = S at *
  generalize visOf (fstEnd (cutE L e)) = V
  unfold cutE
  rw [List.filter_filter, List.filterMap_filter]
  congr 1
  funext a
  by_cases h : a.1 < S
  · have : a.1 < e := by omega
    simp [ltE, h, this]
  · simp [ltE, h]
theorem lvis_wp {C : Cts} (RC : ∃ C', C.fn "_law_first_end" = callDef C' 7 lfe_b) (RS : ∃ C', C.fn "_law_settled" = callDef C' 5 lset_b ∧ ∃ C2, C'.fn "_law_first_end" = callDef C2 7 lfe_b) {L : List Ent} {e : Int} {st : Store} {QD : D → Store → Prop} (hw : WfS L) (hs : Srt L) (hl : L.length < bigN) (q : ∀ s, Kp [] st s → QD (.tup ((visM L e).map visD)) s) :
    wp (callDef C 6 lvis_b [logT L, .int e]) QD st := by
  obtain ⟨C1, b1⟩ := RC
  obtain ⟨C2, b2, RC2⟩ := RS
  unfold lvis_b
  rw [wp_callDef]
  simp only [wp_cons, wp_nil, wp_asg, wp_expr, wp_retS, wp_retN, wp_iteS, wp_pass, wp_brk, wp_cont, wp_setIx, wp_augX, wp_asgT, wp_for, wp_varX, wp_cst, wp_bin, wp_cmp, wp_cmpT, wp_chainT, wp_andT, wp_orT, wp_notT, wp_iteE, wp_idx, wp_sl, wp_call, wp_callK, wp_call0, wp_globX, wp_dictX, wp_bi, wp_tup, wp_lst, wp_dict0, wp_meth, wp_lc, wp_evs_nil, wp_evs_cons, wp_evo_none, wp_evo_some, wp_seq, wp_enum, wp_rng1, wp_rng2, wp_idxT, wp_varT, wp_callT, wp_callKT, wp_biT, x_truB, tsto_none, tsto_some,
  seqQ_nx, seqQ_ret, seqQ_bk, seqQ_ct, endQ_ret, endQ_nx, varQ_some, lstQ_some, dctQ_some, optQ_some, blQ_bl, inQ_int, rgQ_int, rg2Q_int,
  x_eqSS, x_eqII, x_neSS, x_neII, str_we, str_ew, decide_true, decide_false, if_true, if_false, Bool.false_eq_true, reduceIte, x_addI, x_addT, x_addS, x_addL, x_subI, x_mulI, x_divI, x_modI, x_powI, x_ltI, x_leI, x_gtI, x_geI, x_is, x_isnot, x_isB, x_isNB, x_ixT, x_ixF, x_abs, x_lenT, x_lenF, x_intI, x_intB, x_max2, x_min2, x_seqT, x_seqF, x_slT, x_slF,
  List.map_cons, List.map_nil, List.length_cons, List.length_nil, List.cons_append, List.nil_append, List.replicate_succ, List.replicate_zero, Nat.reduceSub, Nat.reduceAdd, List.set_cons_zero, List.set_cons_succ, List.getElem?_cons_zero, List.getElem?_cons_succ, Nat.add_zero, Nat.zero_add, Nat.sub_self, decide_eq_true_eq, b2]
  refine lset_wp RC2 hw hs hl fun s0 p0 => ?_
  refine ⟨by decide, by decide, [some (logT L), some (.int e), some (.int (settledM L e)), some (.ob s0.length), none, none], rfl, ?_⟩
  simp only [wp_cons, wp_nil, wp_asg, wp_expr, wp_retS, wp_retN, wp_iteS, wp_pass, wp_brk, wp_cont, wp_setIx, wp_augX, wp_asgT, wp_for, wp_varX, wp_cst, wp_bin, wp_cmp, wp_cmpT, wp_chainT, wp_andT, wp_orT, wp_notT, wp_iteE, wp_idx, wp_sl, wp_call, wp_callK, wp_call0, wp_globX, wp_dictX, wp_bi, wp_tup, wp_lst, wp_dict0, wp_meth, wp_lc, wp_evs_nil, wp_evs_cons, wp_evo_none, wp_evo_some, wp_seq, wp_enum, wp_rng1, wp_rng2, wp_idxT, wp_varT, wp_callT, wp_callKT, wp_biT, x_truB, tsto_none, tsto_some,
  seqQ_nx, seqQ_ret, seqQ_bk, seqQ_ct, endQ_ret, endQ_nx, varQ_some, lstQ_some, dctQ_some, optQ_some, blQ_bl, inQ_int, rgQ_int, rg2Q_int,
  x_eqSS, x_eqII, x_neSS, x_neII, str_we, str_ew, decide_true, decide_false, if_true, if_false, Bool.false_eq_true, reduceIte, x_addI, x_addT, x_addS, x_addL, x_subI, x_mulI, x_divI, x_modI, x_powI, x_ltI, x_leI, x_gtI, x_geI, x_is, x_isnot, x_isB, x_isNB, x_ixT, x_ixF, x_abs, x_lenT, x_lenF, x_intI, x_intB, x_max2, x_min2, x_seqT, x_seqF, x_slT, x_slF,
  List.map_cons, List.map_nil, List.length_cons, List.length_nil, List.cons_append, List.nil_append, List.replicate_succ, List.replicate_zero, Nat.reduceSub, Nat.reduceAdd, List.set_cons_zero, List.set_cons_succ, List.getElem?_cons_zero, List.getElem?_cons_succ, Nat.add_zero, Nat.zero_add, Nat.sub_self, decide_eq_true_eq]
  rw [visM_eq] at q
  refine wp_loopF_map (gd := []) entD L (fun P env s => ∃ e4 e5, env = [some (logT L), some (.int e), some (.int (settledM L e)), some (.ob s0.length), e4, e5] ∧ Kp [] st s ∧ s[s0.length]? = some (.lst ((P.filterMap fun a => if a.1 < settledM L e then visOf (fstEnd (cutE L e)) a else none).map visD))) ?_ ?_ ⟨none, none, rfl, (Kp.pre p0 []).trans (Kp.app _ _ _), by simp⟩
  · rintro P ⟨p, r⟩ R env s hL ⟨e4, e5, rfl, hk, hf⟩
    refine ⟨rfl, ?_⟩
    have hPl : (P.filterMap fun a => if a.1 < settledM L e then visOf (fstEnd (cutE L e)) a else none).length ≤ P.length := List.length_filterMap_le _ _
    have hPL : P.length ≤ L.length := by rw [hL]; simp
    have hs0 : st.length ≤ s0.length := p0.length_le
    have hs' := hw (p, r) (by rw [hL]; simp)
    have snoc : ∀ o, (if p < settledM L e then visOf (fstEnd (cutE L e)) (p, r) else none) = o → (P ++ [(p, r)]).filterMap (fun a => if a.1 < settledM L e then visOf (fstEnd (cutE L e)) a else none) = P.filterMap (fun a => if a.1 < settledM L e then visOf (fstEnd (cutE L e)) a else none) ++ o.toList := by
      intro o ho
      rw [List.filterMap_append, ← ho]
      cases h0 : (if p < settledM L e then visOf (fstEnd (cutE L e)) (p, r) else none) <;> simp [h0]
    rw [wp_forF (env1 := [some (logT L), some (.int e), some (.int (settledM L e)), some (.ob s0.length), some (.int p), some (recD r)]) rfl]
    have same : (if p < settledM L e then visOf (fstEnd (cutE L e)) (p, r) else none) = none → ∀ s1, Kp [] st s1 → s1[s0.length]? = some (.lst ((P.filterMap fun a => if a.1 < settledM L e then visOf (fstEnd (cutE L e)) a else none).map visD)) → ∃ e4 e5, [some (logT L), some (D.int e), some (.int (settledM L e)), some (.ob s0.length), some (.int p), some (recD r)] = [some (logT L), some (.int e), some (.int (settledM L e)), some (.ob s0.length), e4, e5] ∧ Kp [] st s1 ∧ s1[s0.length]? = some (.lst (((P ++ [(p, r)]).filterMap fun a => if a.1 < settledM L e then visOf (fstEnd (cutE L e)) a else none).map visD)) := by
      intro h0 s1 k1 h1
      refine ⟨_, _, rfl, k1, ?_⟩
      rw [snoc _ h0, h1]; simp
    have add : ∀ v, (if p < settledM L e then visOf (fstEnd (cutE L e)) (p, r) else none) = some v → ∀ s1, Kp [] st s1 → s1[s0.length]? = some (.lst ((P.filterMap fun a => if a.1 < settledM L e then visOf (fstEnd (cutE L e)) a else none).map visD)) → ∃ T, tyD s1 (.ob s0.length) = some T ∧ 4 ≤ bigN ∧ wp (meD .append T (.ob s0.length) [visD v]) (fun _ s2 => ∃ e4 e5, [some (logT L), some (D.int e), some (.int (settledM L e)), some (.ob s0.length), some (.int p), some (recD r)] = [some (logT L), some (.int e), some (.int (settledM L e)), some (.ob s0.length), e4, e5] ∧ Kp [] st s2 ∧ s2[s0.length]? = some (.lst (((P ++ [(p, r)]).filterMap fun a => if a.1 < settledM L e then visOf (fstEnd (cutE L e)) a else none).map visD))) s1 := by
      intro v h0 s1 k1 h1
      refine ⟨.list, x_tyL h1, by decide, ?_⟩
      rw [x_app h1]
      refine ⟨by rw [List.length_map]; omega, _, _, rfl, k1.setNew hs0, ?_⟩
      have : s0.length < s1.length := (List.getElem?_eq_some_iff.mp h1).1
      rw [snoc _ h0]; simp [this]
    cases r with
    | word g n dl k t tm =>
      cases dl with
      | none =>
        unfold recD optD at same add ⊢
        simp only [wp_cons, wp_nil, wp_asg, wp_expr, wp_retS, wp_retN, wp_iteS, wp_pass, wp_brk, wp_cont, wp_setIx, wp_augX, wp_asgT, wp_for, wp_varX, wp_cst, wp_bin, wp_cmp, wp_cmpT, wp_chainT, wp_andT, wp_orT, wp_notT, wp_iteE, wp_idx, wp_sl, wp_call, wp_callK, wp_call0, wp_globX, wp_dictX, wp_bi, wp_tup, wp_lst, wp_dict0, wp_meth, wp_lc, wp_evs_nil, wp_evs_cons, wp_evo_none, wp_evo_some, wp_seq, wp_enum, wp_rng1, wp_rng2, wp_idxT, wp_varT, wp_callT, wp_callKT, wp_biT, x_truB, tsto_none, tsto_some,
  seqQ_nx, seqQ_ret, seqQ_bk, seqQ_ct, endQ_ret, endQ_nx, varQ_some, lstQ_some, dctQ_some, optQ_some, blQ_bl, inQ_int, rgQ_int, rg2Q_int,
  x_eqSS, x_eqII, x_neSS, x_neII, str_we, str_ew, decide_true, decide_false, if_true, if_false, Bool.false_eq_true, reduceIte, x_addI, x_addT, x_addS, x_addL, x_subI, x_mulI, x_divI, x_modI, x_powI, x_ltI, x_leI, x_gtI, x_geI, x_is, x_isnot, x_isB, x_isNB, x_ixT, x_ixF, x_abs, x_lenT, x_lenF, x_intI, x_intB, x_max2, x_min2, x_seqT, x_seqF, x_slT, x_slF,
  List.map_cons, List.map_nil, List.length_cons, List.length_nil, List.cons_append, List.nil_append, List.replicate_succ, List.replicate_zero, Nat.reduceSub, Nat.reduceAdd, List.set_cons_zero, List.set_cons_succ, List.getElem?_cons_zero, List.getElem?_cons_succ, Nat.add_zero, Nat.zero_add, Nat.sub_self, decide_eq_true_eq, at7]
        by_cases h : p < settledM L e
        · simp only [if_pos h]
          exact add (p, k, t, tm) (by rw [if_pos h]; rfl) s hk hf
        · simp only [if_neg h]
          exact same (if_neg h) s hk hf
      | some d =>
        unfold recD optD at same add ⊢
        simp only [wp_cons, wp_nil, wp_asg, wp_expr, wp_retS, wp_retN, wp_iteS, wp_pass, wp_brk, wp_cont, wp_setIx, wp_augX, wp_asgT, wp_for, wp_varX, wp_cst, wp_bin, wp_cmp, wp_cmpT, wp_chainT, wp_andT, wp_orT, wp_notT, wp_iteE, wp_idx, wp_sl, wp_call, wp_callK, wp_call0, wp_globX, wp_dictX, wp_bi, wp_tup, wp_lst, wp_dict0, wp_meth, wp_lc, wp_evs_nil, wp_evs_cons, wp_evo_none, wp_evo_some, wp_seq, wp_enum, wp_rng1, wp_rng2, wp_idxT, wp_varT, wp_callT, wp_callKT, wp_biT, x_truB, tsto_none, tsto_some,
  seqQ_nx, seqQ_ret, seqQ_bk, seqQ_ct, endQ_ret, endQ_nx, varQ_some, lstQ_some, dctQ_some, optQ_some, blQ_bl, inQ_int, rgQ_int, rg2Q_int,
  x_eqSS, x_eqII, x_neSS, x_neII, str_we, str_ew, decide_true, decide_false, if_true, if_false, Bool.false_eq_true, reduceIte, x_addI, x_addT, x_addS, x_addL, x_subI, x_mulI, x_divI, x_modI, x_powI, x_ltI, x_leI, x_gtI, x_geI, x_is, x_isnot, x_isB, x_isNB, x_ixT, x_ixF, x_abs, x_lenT, x_lenF, x_intI, x_intB, x_max2, x_min2, x_seqT, x_seqF, x_slT, x_slF,
  List.map_cons, List.map_nil, List.length_cons, List.length_nil, List.cons_append, List.nil_append, List.replicate_succ, List.replicate_zero, Nat.reduceSub, Nat.reduceAdd, List.set_cons_zero, List.set_cons_succ, List.getElem?_cons_zero, List.getElem?_cons_succ, Nat.add_zero, Nat.zero_add, Nat.sub_self, decide_eq_true_eq, at7, b1]
        by_cases h : p < settledM L e
        · simp only [if_pos h]
          refine lfe_wp hw hs' hl fun s1 p1 => ?_
          have hk1 := hk.trans (Kp.pre p1 [])
          have hf1 := (Kp.pre p1 []).at' _ _ (by simp) hf
          cases hF : fstEnd (cutE L e) g d with
          | none =>
            simp only [boD, x_isNB, blQ_bl]
            exact same (by rw [if_pos h]; simp [visOf, hF]) s1 hk1 hf1
          | some b =>
            simp only [boD, x_isB, blQ_bl]
            cases b with
            | true => exact add (p, k, t, tm) (by rw [if_pos h]; simp [visOf, hF]) s1 hk1 hf1
            | false => exact same (by rw [if_pos h]; simp [visOf, hF]) s1 hk1 hf1
        · simp only [if_neg h]
          exact same (if_neg h) s hk hf
    | fin g d b =>
      unfold recD at same ⊢
      simp only [wp_cons, wp_nil, wp_asg, wp_expr, wp_retS, wp_retN, wp_iteS, wp_pass, wp_brk, wp_cont, wp_setIx, wp_augX, wp_asgT, wp_for, wp_varX, wp_cst, wp_bin, wp_cmp, wp_cmpT, wp_chainT, wp_andT, wp_orT, wp_notT, wp_iteE, wp_idx, wp_sl, wp_call, wp_callK, wp_call0, wp_globX, wp_dictX, wp_bi, wp_tup, wp_lst, wp_dict0, wp_meth, wp_lc, wp_evs_nil, wp_evs_cons, wp_evo_none, wp_evo_some, wp_seq, wp_enum, wp_rng1, wp_rng2, wp_idxT, wp_varT, wp_callT, wp_callKT, wp_biT, x_truB, tsto_none, tsto_some,
  seqQ_nx, seqQ_ret, seqQ_bk, seqQ_ct, endQ_ret, endQ_nx, varQ_some, lstQ_some, dctQ_some, optQ_some, blQ_bl, inQ_int, rgQ_int, rg2Q_int,
  x_eqSS, x_eqII, x_neSS, x_neII, str_we, str_ew, decide_true, decide_false, if_true, if_false, Bool.false_eq_true, reduceIte, x_addI, x_addT, x_addS, x_addL, x_subI, x_mulI, x_divI, x_modI, x_powI, x_ltI, x_leI, x_gtI, x_geI, x_is, x_isnot, x_isB, x_isNB, x_ixT, x_ixF, x_abs, x_lenT, x_lenF, x_intI, x_intB, x_max2, x_min2, x_seqT, x_seqF, x_slT, x_slF,
  List.map_cons, List.map_nil, List.length_cons, List.length_nil, List.cons_append, List.nil_append, List.replicate_succ, List.replicate_zero, Nat.reduceSub, Nat.reduceAdd, List.set_cons_zero, List.set_cons_succ, List.getElem?_cons_zero, List.getElem?_cons_succ, Nat.add_zero, Nat.zero_add, Nat.sub_self, decide_eq_true_eq, at4]
      exact same (by split <;> rfl) s hk hf
  · rintro env s ⟨e4, e5, rfl, hk, hf⟩
    refine ⟨rfl, ?_⟩
    simp only [wp_cons, wp_nil, wp_asg, wp_expr, wp_retS, wp_retN, wp_iteS, wp_pass, wp_brk, wp_cont, wp_setIx, wp_augX, wp_asgT, wp_for, wp_varX, wp_cst, wp_bin, wp_cmp, wp_cmpT, wp_chainT, wp_andT, wp_orT, wp_notT, wp_iteE, wp_idx, wp_sl, wp_call, wp_callK, wp_call0, wp_globX, wp_dictX, wp_bi, wp_tup, wp_lst, wp_dict0, wp_meth, wp_lc, wp_evs_nil, wp_evs_cons, wp_evo_none, wp_evo_some, wp_seq, wp_enum, wp_rng1, wp_rng2, wp_idxT, wp_varT, wp_callT, wp_callKT, wp_biT, x_truB, tsto_none, tsto_some,
  seqQ_nx, seqQ_ret, seqQ_bk, seqQ_ct, endQ_ret, endQ_nx, varQ_some, lstQ_some, dctQ_some, optQ_some, blQ_bl, inQ_int, rgQ_int, rg2Q_int,
  x_eqSS, x_eqII, x_neSS, x_neII, str_we, str_ew, decide_true, decide_false, if_true, if_false, Bool.false_eq_true, reduceIte, x_addI, x_addT, x_addS, x_addL, x_subI, x_mulI, x_divI, x_modI, x_powI, x_ltI, x_leI, x_gtI, x_geI, x_is, x_isnot, x_isB, x_isNB, x_ixT, x_ixF, x_abs, x_lenT, x_lenF, x_intI, x_intB, x_max2, x_min2, x_seqT, x_seqF, x_slT, x_slF,
  List.map_cons, List.map_nil, List.length_cons, List.length_nil, List.cons_append, List.nil_append, List.replicate_succ, List.replicate_zero, Nat.reduceSub, Nat.reduceAdd, List.set_cons_zero, List.set_cons_succ, List.getElem?_cons_zero, List.getElem?_cons_succ, Nat.add_zero, Nat.zero_add, Nat.sub_self, decide_eq_true_eq]
    rw [x_tupL hf]
    exact q s hk
end W9

/-! W9P: the logs that the laws make -/
namespace W9
open PySem L2
def part_b : Sms :=
  (.cons (.ret (.bin .Mod (.bi .sum (.cons (.lc [2, 3] (.enum (.var 0)) (.tup [2, 3]) .none (.bin .Mult (.bi .ord (.cons (.var 3) .nil)) (.bin .Add (.var 2) (.cst (.int 1))))) .nil)) (.var 1)))
    .nil)
def keys_b : Sms :=
  (.cons (.asg 2 (.lst (.cons (.cst (.str "a")) (.cons (.cst (.str "b")) (.cons (.cst (.str "c")) (.cons (.cst (.str "d")) (.cons (.cst (.str "ab")) (.cons (.cst (.str "ba")) (.cons (.cst (.str "zz")) (.cons (.cst (.str "end")) (.cons (.cst (.str "word")) (.cons (.cst (.str "mark")) (.cons (.cst (.str "zzzzzz")) (.cons (.cst (.str "abcdef")) (.cons (.cst (.str "book")) (.cons (.cst (.str "none")) .nil))))))))))))))))
    (.cons (.ret (.lc [3] (.seq (.var 2)) (.name 3) (.some (.cmp .Eq (.call "_law_part" (.cons (.var 3) (.cons (.var 1) .nil))) (.var 0))) (.var 3)))
    .nil))
abbrev lotS : List Str := ["a", "b", "c", "d", "ab", "ba", "zz", "end", "word", "mark", "zzzzzz", "abcdef", "book", "none"]
def idxP : Nat → List Nat → List (Nat × Nat)
  | _, [] => []
  | n, c :: r => (n, c) :: idxP (n + 1) r
theorem pairs_idx : ∀ (n : Nat) (cs : List Nat), pairs n (cs.map fun c => D.str ⟨#[c]⟩) = (idxP n cs).map fun p => D.tup [.int (p.1 : Nat), .str ⟨#[p.2]⟩]
  | _, [] => rfl
  | n, c :: r => by simp only [List.map_cons, pairs, idxP, pairs_idx (n + 1) r]
theorem idx_mem : ∀ {n : Nat} {cs : List Nat} {p : Nat × Nat}, p ∈ idxP n cs → p.2 ∈ cs
  | n, c :: r, p, h => by
    rcases List.mem_cons.mp h with e | e
    · rw [e]; exact List.mem_cons_self
    · exact List.mem_cons_of_mem _ (idx_mem e)
theorem idx_len : ∀ (n : Nat) (cs : List Nat), (idxP n cs).length = cs.length
  | _, [] => rfl
  | n, c :: r => by simp only [idxP, List.length_cons, idx_len (n + 1) r]
def partM (z : Str) : Int := ((idxP 0 z.cps.toList).map fun p => (p.2 : Int) * ((p.1 : Int) + 1)).sum
theorem x_sumL {QD : D → Store → Prop} {st : Store} {j : Nat} {l : List Int} (h : st[j]? = some (.lst (l.map D.int))) : wp (biD .sum [.ob j]) QD st ↔ QD (.int l.sum) st :=
  wp_ok (by simp only [biD, itemsL, h, intsOf_map])
theorem x_ord1 {QD : D → Store → Prop} {st : Store} {c : Nat} : wp (biD .ord [.str ⟨#[c]⟩]) QD st ↔ QD (.int (c : Nat)) st := wp_ok rfl
theorem x_enumS {QS : SI → Store → Prop} {st : Store} {z : Str} : wp (enumS (.str z)) QS st ↔ QS (pairs 0 (z.cps.toList.map fun c => .str ⟨#[c]⟩), []) st := wp_ok rfl
theorem part_wp {C : Cts} {z : Str} {m : Int} {st : Store} {QD : D → Store → Prop} (hz : ∀ c ∈ z.cps.toList, c < 1000000) (hl : z.cps.toList.length ≤ 1000) (hm : 0 < m) (q : ∀ s, st <+: s → QD (.int (partM z % m)) s) :
    wp (callDef C 4 part_b [.str z, .int m]) QD st := by
  unfold part_b
  simp only [wp_callDef, wp_cons, wp_nil, wp_asg, wp_expr, wp_retS, wp_retN, wp_iteS, wp_pass, wp_brk, wp_cont, wp_setIx, wp_augX, wp_asgT, wp_for, wp_varX, wp_cst, wp_bin, wp_cmp, wp_cmpT, wp_chainT, wp_andT, wp_orT, wp_notT, wp_iteE, wp_idx, wp_sl, wp_call, wp_callK, wp_call0, wp_globX, wp_dictX, wp_bi, wp_tup, wp_lst, wp_dict0, wp_meth, wp_lc, wp_evs_nil, wp_evs_cons, wp_evo_none, wp_evo_some, wp_seq, wp_enum, wp_rng1, wp_rng2, wp_idxT, wp_varT, wp_callT, wp_callKT, wp_biT, x_truB, tsto_none, tsto_some,
  seqQ_nx, seqQ_ret, seqQ_bk, seqQ_ct, endQ_ret, endQ_nx, varQ_some, lstQ_some, dctQ_some, optQ_some, blQ_bl, inQ_int, rgQ_int, rg2Q_int,
  x_eqSS, x_eqII, x_neSS, x_neII, str_we, str_ew, decide_true, decide_false, if_true, if_false, Bool.false_eq_true, reduceIte, x_addI, x_addT, x_addS, x_addL, x_subI, x_mulI, x_divI, x_modI, x_powI, x_ltI, x_leI, x_gtI, x_geI, x_is, x_isnot, x_isB, x_isNB, x_ixT, x_ixF, x_abs, x_lenT, x_lenF, x_intI, x_intB, x_max2, x_min2, x_seqT, x_seqF, x_slT, x_slF,
  List.map_cons, List.map_nil, List.length_cons, List.length_nil, List.cons_append, List.nil_append, List.replicate_succ, List.replicate_zero, Nat.reduceSub, Nat.reduceAdd, List.set_cons_zero, List.set_cons_succ, List.getElem?_cons_zero, List.getElem?_cons_succ, Nat.add_zero, Nat.zero_add, Nat.sub_self, decide_eq_true_eq, x_enumS]
  rw [pairs_idx]
  have key := wp_loopC_map (st := st) (gd := []) (f := compF (.tup [2, 3]) [2, 3] [some (.str z), some (.int m), none, none] (tsto C .none) (bo C (.bin .Mult (.bi .ord (.cons (.var 3) .nil)) (.bin .Add (.var 2) (.cst (.int 1))))).1) (fun p : Nat × Nat => D.tup [.int (p.1 : Nat), .str ⟨#[p.2]⟩]) (fun p => .int ((p.2 : Int) * ((p.1 : Int) + 1))) (fun _ => true) rfl (idxP 0 z.cps.toList) (fun a ha => by
    rw [wp_compF (env1 := [some (.str z), some (.int m), some (.int (a.1 : Nat)), some (.str ⟨#[a.2]⟩)]) rfl]
    have hc := hz _ (idx_mem ha)
    simp only [wp_callDef, wp_cons, wp_nil, wp_asg, wp_expr, wp_retS, wp_retN, wp_iteS, wp_pass, wp_brk, wp_cont, wp_setIx, wp_augX, wp_asgT, wp_for, wp_varX, wp_cst, wp_bin, wp_cmp, wp_cmpT, wp_chainT, wp_andT, wp_orT, wp_notT, wp_iteE, wp_idx, wp_sl, wp_call, wp_callK, wp_call0, wp_globX, wp_dictX, wp_bi, wp_tup, wp_lst, wp_dict0, wp_meth, wp_lc, wp_evs_nil, wp_evs_cons, wp_evo_none, wp_evo_some, wp_seq, wp_enum, wp_rng1, wp_rng2, wp_idxT, wp_varT, wp_callT, wp_callKT, wp_biT, x_truB, tsto_none, tsto_some,
  seqQ_nx, seqQ_ret, seqQ_bk, seqQ_ct, endQ_ret, endQ_nx, varQ_some, lstQ_some, dctQ_some, optQ_some, blQ_bl, inQ_int, rgQ_int, rg2Q_int,
  x_eqSS, x_eqII, x_neSS, x_neII, str_we, str_ew, decide_true, decide_false, if_true, if_false, Bool.false_eq_true, reduceIte, x_addI, x_addT, x_addS, x_addL, x_subI, x_mulI, x_divI, x_modI, x_powI, x_ltI, x_leI, x_gtI, x_geI, x_is, x_isnot, x_isB, x_isNB, x_ixT, x_ixF, x_abs, x_lenT, x_lenF, x_intI, x_intB, x_max2, x_min2, x_seqT, x_seqF, x_slT, x_slF,
  List.map_cons, List.map_nil, List.length_cons, List.length_nil, List.cons_append, List.nil_append, List.replicate_succ, List.replicate_zero, Nat.reduceSub, Nat.reduceAdd, List.set_cons_zero, List.set_cons_succ, List.getElem?_cons_zero, List.getElem?_cons_succ, Nat.add_zero, Nat.zero_add, Nat.sub_self, decide_eq_true_eq, x_ord1]
    exact ⟨mulOk_left (by omega) (by omega), trivial, trivial⟩)
  refine wp_mono key fun ds s ⟨h1, h2⟩ => ?_
  subst h1 h2
  rw [List.filter_eq_self.mpr (fun _ _ => rfl)]
  have e1 : (idxP 0 z.cps.toList).map (fun p => D.int ((p.2 : Int) * ((p.1 : Int) + 1))) = ((idxP 0 z.cps.toList).map fun p => (p.2 : Int) * ((p.1 : Int) + 1)).map D.int := by rw [List.map_map]; rfl
  refine ⟨by rw [List.length_map, idx_len]; have : bigN = 16777216 := rfl; omega, ?_⟩
  rw [e1, x_sumL (l := (idxP 0 z.cps.toList).map fun p => (p.2 : Int) * ((p.1 : Int) + 1)) (by simp)]
  simp only [wp_callDef, wp_cons, wp_nil, wp_asg, wp_expr, wp_retS, wp_retN, wp_iteS, wp_pass, wp_brk, wp_cont, wp_setIx, wp_augX, wp_asgT, wp_for, wp_varX, wp_cst, wp_bin, wp_cmp, wp_cmpT, wp_chainT, wp_andT, wp_orT, wp_notT, wp_iteE, wp_idx, wp_sl, wp_call, wp_callK, wp_call0, wp_globX, wp_dictX, wp_bi, wp_tup, wp_lst, wp_dict0, wp_meth, wp_lc, wp_evs_nil, wp_evs_cons, wp_evo_none, wp_evo_some, wp_seq, wp_enum, wp_rng1, wp_rng2, wp_idxT, wp_varT, wp_callT, wp_callKT, wp_biT, x_truB, tsto_none, tsto_some,
  seqQ_nx, seqQ_ret, seqQ_bk, seqQ_ct, endQ_ret, endQ_nx, varQ_some, lstQ_some, dctQ_some, optQ_some, blQ_bl, inQ_int, rgQ_int, rg2Q_int,
  x_eqSS, x_eqII, x_neSS, x_neII, str_we, str_ew, decide_true, decide_false, if_true, if_false, Bool.false_eq_true, reduceIte, x_addI, x_addT, x_addS, x_addL, x_subI, x_mulI, x_divI, x_modI, x_powI, x_ltI, x_leI, x_gtI, x_geI, x_is, x_isnot, x_isB, x_isNB, x_ixT, x_ixF, x_abs, x_lenT, x_lenF, x_intI, x_intB, x_max2, x_min2, x_seqT, x_seqF, x_slT, x_slF,
  List.map_cons, List.map_nil, List.length_cons, List.length_nil, List.cons_append, List.nil_append, List.replicate_succ, List.replicate_zero, Nat.reduceSub, Nat.reduceAdd, List.set_cons_zero, List.set_cons_succ, List.getElem?_cons_zero, List.getElem?_cons_succ, Nat.add_zero, Nat.zero_add, Nat.sub_self, decide_eq_true_eq]
  exact ⟨hm, q _ ⟨_, rfl⟩⟩
theorem lot_ok : ∀ z ∈ lotS, (∀ c ∈ z.cps.toList, c < 1000000) ∧ z.cps.toList.length ≤ 1000 ∧ PyData.strOk z = true ∧ z.length ≤ 10 := by decide +kernel
def keysM (part : Int) : List Str := lotS.filter fun z => decide (partM z % 2 = part)
theorem keys_ne : keysM 0 ≠ [] ∧ keysM 1 ≠ [] := by decide +kernel
theorem keys_wp {C : Cts} (RC : ∃ C', C.fn "_law_part" = callDef C' 4 part_b) {part : Int} {st : Store} {QD : D → Store → Prop} (q : ∀ s, st <+: s → QD (.ob s.length) (s ++ [.lst ((keysM part).map D.str)])) :
    wp (callDef C 4 keys_b [.int part, .int 2]) QD st := by
  obtain ⟨C1, b1⟩ := RC
  unfold keys_b
  rw [wp_callDef]
  simp only [wp_cons, wp_nil, wp_asg, wp_expr, wp_retS, wp_retN, wp_iteS, wp_pass, wp_brk, wp_cont, wp_setIx, wp_augX, wp_asgT, wp_for, wp_varX, wp_cst, wp_bin, wp_cmp, wp_cmpT, wp_chainT, wp_andT, wp_orT, wp_notT, wp_iteE, wp_idx, wp_sl, wp_call, wp_callK, wp_call0, wp_globX, wp_dictX, wp_bi, wp_tup, wp_lst, wp_dict0, wp_meth, wp_lc, wp_evs_nil, wp_evs_cons, wp_evo_none, wp_evo_some, wp_seq, wp_enum, wp_rng1, wp_rng2, wp_idxT, wp_varT, wp_callT, wp_callKT, wp_biT, x_truB, tsto_none, tsto_some,
  seqQ_nx, seqQ_ret, seqQ_bk, seqQ_ct, endQ_ret, endQ_nx, varQ_some, lstQ_some, dctQ_some, optQ_some, blQ_bl, inQ_int, rgQ_int, rg2Q_int,
  x_eqSS, x_eqII, x_neSS, x_neII, str_we, str_ew, decide_true, decide_false, if_true, if_false, Bool.false_eq_true, reduceIte, x_addI, x_addT, x_addS, x_addL, x_subI, x_mulI, x_divI, x_modI, x_powI, x_ltI, x_leI, x_gtI, x_geI, x_is, x_isnot, x_isB, x_isNB, x_ixT, x_ixF, x_abs, x_lenT, x_lenF, x_intI, x_intB, x_max2, x_min2, x_seqT, x_seqF, x_slT, x_slF,
  List.map_cons, List.map_nil, List.length_cons, List.length_nil, List.cons_append, List.nil_append, List.replicate_succ, List.replicate_zero, Nat.reduceSub, Nat.reduceAdd, List.set_cons_zero, List.set_cons_succ, List.getElem?_cons_zero, List.getElem?_cons_succ, Nat.add_zero, Nat.zero_add, Nat.sub_self, decide_eq_true_eq]
  refine ⟨by decide, ?_⟩
  rw [x_seqL (xs := lotS.map D.str) (by simp)]
  have hat : (st ++ [Ob.lst (lotS.map D.str)])[st.length]? = some (.lst (lotS.map D.str)) := by simp
  have key := wp_loopC_mapG (st := st ++ [Ob.lst (lotS.map D.str)]) (gd := [(st.length, lotS.map D.str)]) (f := compF (.name 3) [3] [some (.int part), some (.int 2), some (.ob st.length), none] (tsto C (.some (.cmp .Eq (.call "_law_part" (.cons (.var 3) (.cons (.var 1) .nil))) (.var 0)))) (bo C (.var 3)).1) D.str D.str (fun z => decide (partM z % 2 = part)) (by simp only [gdOk, Bool.and_true, decide_eq_true_eq]; exact hat) lotS _ (List.prefix_refl _) (fun z hz s hp => by
    rw [wp_compF (env1 := [some (.int part), some (.int 2), some (.ob st.length), some (.str z)]) rfl]
    obtain ⟨h1, h2, _⟩ := lot_ok z hz
    simp only [wp_cons, wp_nil, wp_asg, wp_expr, wp_retS, wp_retN, wp_iteS, wp_pass, wp_brk, wp_cont, wp_setIx, wp_augX, wp_asgT, wp_for, wp_varX, wp_cst, wp_bin, wp_cmp, wp_cmpT, wp_chainT, wp_andT, wp_orT, wp_notT, wp_iteE, wp_idx, wp_sl, wp_call, wp_callK, wp_call0, wp_globX, wp_dictX, wp_bi, wp_tup, wp_lst, wp_dict0, wp_meth, wp_lc, wp_evs_nil, wp_evs_cons, wp_evo_none, wp_evo_some, wp_seq, wp_enum, wp_rng1, wp_rng2, wp_idxT, wp_varT, wp_callT, wp_callKT, wp_biT, x_truB, tsto_none, tsto_some,
  seqQ_nx, seqQ_ret, seqQ_bk, seqQ_ct, endQ_ret, endQ_nx, varQ_some, lstQ_some, dctQ_some, optQ_some, blQ_bl, inQ_int, rgQ_int, rg2Q_int,
  x_eqSS, x_eqII, x_neSS, x_neII, str_we, str_ew, decide_true, decide_false, if_true, if_false, Bool.false_eq_true, reduceIte, x_addI, x_addT, x_addS, x_addL, x_subI, x_mulI, x_divI, x_modI, x_powI, x_ltI, x_leI, x_gtI, x_geI, x_is, x_isnot, x_isB, x_isNB, x_ixT, x_ixF, x_abs, x_lenT, x_lenF, x_intI, x_intB, x_max2, x_min2, x_seqT, x_seqF, x_slT, x_slF,
  List.map_cons, List.map_nil, List.length_cons, List.length_nil, List.cons_append, List.nil_append, List.replicate_succ, List.replicate_zero, Nat.reduceSub, Nat.reduceAdd, List.set_cons_zero, List.set_cons_succ, List.getElem?_cons_zero, List.getElem?_cons_succ, Nat.add_zero, Nat.zero_add, Nat.sub_self, decide_eq_true_eq, b1]
    refine part_wp h1 h2 (by decide) fun s1 p1 => ?_
    simp only [wp_cons, wp_nil, wp_asg, wp_expr, wp_retS, wp_retN, wp_iteS, wp_pass, wp_brk, wp_cont, wp_setIx, wp_augX, wp_asgT, wp_for, wp_varX, wp_cst, wp_bin, wp_cmp, wp_cmpT, wp_chainT, wp_andT, wp_orT, wp_notT, wp_iteE, wp_idx, wp_sl, wp_call, wp_callK, wp_call0, wp_globX, wp_dictX, wp_bi, wp_tup, wp_lst, wp_dict0, wp_meth, wp_lc, wp_evs_nil, wp_evs_cons, wp_evo_none, wp_evo_some, wp_seq, wp_enum, wp_rng1, wp_rng2, wp_idxT, wp_varT, wp_callT, wp_callKT, wp_biT, x_truB, tsto_none, tsto_some,
  seqQ_nx, seqQ_ret, seqQ_bk, seqQ_ct, endQ_ret, endQ_nx, varQ_some, lstQ_some, dctQ_some, optQ_some, blQ_bl, inQ_int, rgQ_int, rg2Q_int,
  x_eqSS, x_eqII, x_neSS, x_neII, str_we, str_ew, decide_true, decide_false, if_true, if_false, Bool.false_eq_true, reduceIte, x_addI, x_addT, x_addS, x_addL, x_subI, x_mulI, x_divI, x_modI, x_powI, x_ltI, x_leI, x_gtI, x_geI, x_is, x_isnot, x_isB, x_isNB, x_ixT, x_ixF, x_abs, x_lenT, x_lenF, x_intI, x_intB, x_max2, x_min2, x_seqT, x_seqF, x_slT, x_slF,
  List.map_cons, List.map_nil, List.length_cons, List.length_nil, List.cons_append, List.nil_append, List.replicate_succ, List.replicate_zero, Nat.reduceSub, Nat.reduceAdd, List.set_cons_zero, List.set_cons_succ, List.getElem?_cons_zero, List.getElem?_cons_succ, Nat.add_zero, Nat.zero_add, Nat.sub_self, decide_eq_true_eq]
    by_cases h : partM z % 2 = part
    · simp [h, wp_varX, varQ_some, p1]
    · simp [h, p1])
  refine wp_mono key fun ds s ⟨h1, h2⟩ => ?_
  subst h1
  refine ⟨?_, q s ((List.prefix_append st _).trans h2)⟩
  rw [List.length_map]
  exact Nat.le_trans (List.length_filter_le _ _) (by decide)
/-! ### the hand and the things beside it -/
structure LSt (i j4 j7 j8 : Nat) (ks fs : List D) (kvs : List (D × D)) (n : Int) (s : Store) : Prop where
  hand : HandA i n s
  k4 : s[j4]? = some (.lst ks)
  f7 : s[j7]? = some (.lst fs)
  d8 : s[j8]? = some (.dct kvs)
section
variable {i j4 j7 j8 : Nat} {ks fs : List D} {kvs : List (D × D)} {n : Int} {s : Store}
theorem LSt.take (S : LSt i j4 j7 j8 ks fs kvs n s) (hd : i ≠ j4 ∧ i ≠ j7 ∧ i ≠ j8) {n' : Int} {s' : Store} (H : HandA i n' s') (K : Kp [i] s s') : LSt i j4 j7 j8 ks fs kvs n' s' :=
  ⟨H, K.at' _ _ (by simp; omega) S.k4, K.at' _ _ (by simp; omega) S.f7, K.at' _ _ (by simp; omega) S.d8⟩
theorem LSt.app (S : LSt i j4 j7 j8 ks fs kvs n s) (t : Store) : LSt i j4 j7 j8 ks fs kvs n (s ++ t) :=
  ⟨S.hand.app t, (Kp.app [] s t).at' _ _ (by simp) S.k4, (Kp.app [] s t).at' _ _ (by simp) S.f7, (Kp.app [] s t).at' _ _ (by simp) S.d8⟩
theorem LSt.setD (S : LSt i j4 j7 j8 ks fs kvs n s) (hd : j8 ≠ i ∧ j8 ≠ j4 ∧ j8 ≠ j7) (kvs' : List (D × D)) : LSt i j4 j7 j8 ks fs kvs' n (s.set j8 (.dct kvs')) :=
  ⟨S.hand.kp (Kp.set (ks := [j8]) (by simp)) (by simp; omega), (Kp.set (ks := [j8]) (by simp)).at' _ _ (by simp; omega) S.k4, (Kp.set (ks := [j8]) (by simp)).at' _ _ (by simp; omega) S.f7, by simp [(List.getElem?_eq_some_iff.mp S.d8).1]⟩
theorem LSt.setF (S : LSt i j4 j7 j8 ks fs kvs n s) (hd : j7 ≠ i ∧ j7 ≠ j4 ∧ j7 ≠ j8) (fs' : List D) : LSt i j4 j7 j8 ks fs' kvs n (s.set j7 (.lst fs')) :=
  ⟨S.hand.kp (Kp.set (ks := [j7]) (by simp)) (by simp; omega), (Kp.set (ks := [j7]) (by simp)).at' _ _ (by simp; omega) S.k4, by simp [(List.getElem?_eq_some_iff.mp S.f7).1], (Kp.set (ks := [j7]) (by simp)).at' _ _ (by simp; omega) S.d8⟩
/-- one of a list that was just written -/
theorem pick_wp {C : Cts} {m : Int} {ds : List D} {Q : D → Store → Prop} (H : HandA i n s) (hn : n < 2 ^ 40) (hm : m = ds.length) (h0 : 0 < m) (h1 : m < 2 ^ 62) (q : ∀ d ∈ ds, ∀ s', HandA i (n + 1) s' → Kp [i] s s' → Q d s') :
    wp (callDef C 5 take_b [.ob i, .int m]) (fun d s' => wp (ixD (.ob s.length) d) Q s') (s ++ [.lst ds]) := by
  have hi := H.lt
  refine take_wp (H.app _) hn h0 h1 fun r s' H' K' r0 r1 => ?_
  have hat : s'[s.length]? = some (.lst ds) := K'.at' _ _ (by simp; omega) (by simp)
  rw [x_ixL hat]
  obtain ⟨x, hx, hm', _⟩ := atI_nat (xs := ds) r0 (by omega)
  rw [hx, optQ_some]
  exact q x hm' s' H' ((Kp.app [i] s _).trans K')
/-- one of a list that stands -/
theorem pickAt_wp {C : Cts} {m : Int} {j : Nat} {ds : List D} {Q : D → Store → Prop} (H : HandA i n s) (hn : n < 2 ^ 40) (hj : s[j]? = some (.lst ds)) (hij : i ≠ j) (hm : m = ds.length) (h0 : 0 < m) (h1 : m < 2 ^ 62) (q : ∀ d ∈ ds, ∀ s', HandA i (n + 1) s' → Kp [i] s s' → Q d s') :
    wp (callDef C 5 take_b [.ob i, .int m]) (fun d s' => wp (ixD (.ob j) d) Q s') s := by
  refine take_wp H hn h0 h1 fun r s' H' K' r0 r1 => ?_
  have hat : s'[j]? = some (.lst ds) := K'.at' _ _ (by simp; omega) hj
  rw [x_ixL hat]
  obtain ⟨x, hx, hm', _⟩ := atI_nat (xs := ds) r0 (by omega)
  rw [hx, optQ_some]
  exact q x hm' s' H' K'
end
end W9

/-! W9Q: the logs that the laws make: the loop -/
namespace W9
open PySem L2
def turn2_b : Sms :=
  (.cons (.expr (.meth .append (.var 7) (.cons (.tup (.cons (.var 6) (.cons (.var 13) .nil))) .nil)))
    (.cons (.asg 6 (.bin .Add (.bin .Add (.var 6) (.cst (.int 1))) (.bin .Mult (.idx (.lst (.cons (.cst (.int 0)) (.cons (.cst (.int 0)) (.cons (.cst (.int 1)) (.cons (.cst (.int 5)) .nil))))) (.call "_law_take" (.cons (.var 0) (.cons (.cst (.int 4)) .nil)))) (.bi .int (.cons (.var 2) .nil)))))
    .nil))
def turn_b : Sms :=
  (.cons (.asgT [10, 11] (.tup (.cons (.call "_law_take" (.cons (.var 0) (.cons (.cst (.int 8)) .nil))) (.cons (.idx (.lst (.cons (.cst (.str "a")) (.cons (.cst (.str "b")) (.cons (.cst (.str "word")) .nil)))) (.call "_law_take" (.cons (.var 0) (.cons (.cst (.int 3)) .nil)))) .nil))))
    (.cons (.asg 9 (.idx (.lst (.cons (.cst .non) (.cons (.cst (.int 1)) (.cons (.cst (.int 2)) (.cons (.cst (.int 3)) (.cons (.cst (.int 999999)) .nil)))))) (.call "_law_take" (.cons (.var 0) (.cons (.cst (.int 5)) .nil)))))
    (.cons (.ite (.cmp .Lt (.var 10) (.cst (.int 6)))
    (.cons (.setIx (.var 8) (.var 11) (.bin .Add (.meth .get (.var 8) (.cons (.var 11) (.cons (.cst (.int 0)) .nil))) (.idx (.lst (.cons (.cst (.int 1)) (.cons (.cst (.int 1)) (.cons (.cst (.int 2)) (.cons (.cst (.int 900)) .nil))))) (.call "_law_take" (.cons (.var 0) (.cons (.cst (.int 4)) .nil))))))
    (.cons (.asgT [14, 15] (.tup (.cons (.idx (.var 4) (.call "_law_take" (.cons (.var 0) (.cons (.bi .len (.cons (.var 4) .nil)) .nil)))) (.cons (.idx (.lst (.cons (.cst (.int 0)) (.cons (.cst (.int 5)) (.cons (.cst (.int 999)) (.cons (.call "_law_take" (.cons (.var 0) (.cons (.cst (.int 1000)) .nil))) .nil))))) (.call "_law_take" (.cons (.var 0) (.cons (.cst (.int 4)) .nil)))) .nil))))
    (.cons (.asg 12 (.idx (.lst (.cons (.cst (.str "x")) (.cons (.cst (.str "y")) (.cons (.cst (.str "zzzzzzzz")) (.cons (.cst (.str "end")) .nil))))) (.call "_law_take" (.cons (.var 0) (.cons (.cst (.int 4)) .nil)))))
    (.cons (.asg 13 (.tup (.cons (.cst (.str "word")) (.cons (.var 11) (.cons (.idx (.var 8) (.var 11)) (.cons (.var 9) (.cons (.var 14) (.cons (.var 12) (.cons (.var 15) .nil)))))))))
    .nil))))
    (.cons (.asg 13 (.tup (.cons (.cst (.str "end")) (.cons (.var 11) (.cons (.idx (.lst (.cons (.var 9) (.cons (.cst (.int 1)) .nil))) (.bi .int (.cons (.cmp .Is (.var 9) (.cst .non)) .nil))) (.cons (.cmp .Gt (.call "_law_take" (.cons (.var 0) (.cons (.cst (.int 3)) .nil))) (.cst (.int 0))) .nil))))))
    .nil))
    turn2_b)))
def log_b : Sms :=
  (.cons (.asg 3 (.call "_law_take" (.cons (.var 0) (.cons (.cst (.int 2)) .nil))))
    (.cons (.asg 4 (.sl (.call "_law_keys" (.cons (.var 3) (.cons (.cst (.int 2)) .nil))) .none (.some (.bin .Add (.cst (.int 1)) (.call "_law_take" (.cons (.var 0) (.cons (.cst (.int 7)) .nil)))))))
    (.cons (.asgT [6, 7, 8] (.tup (.cons (.idx (.lst (.cons (.cst (.int 0)) (.cons (.call "_law_take" (.cons (.var 0) (.cons (.cst (.int 5)) .nil))) .nil))) (.bi .int (.cons (.var 2) .nil))) (.cons (.lst .nil) (.cons .dict0 .nil)))))
    (.cons (.forS (.rng1 (.var 1)) (.name 5)
    turn_b)
    (.cons (.ret (.bi .tuple (.cons (.var 7) .nil)))
    .nil)))))

abbrev givS : List Str := ["a", "b", "word"]
abbrev texS : List Str := ["x", "y", "zzzzzzzz", "end"]
/-- a record as the laws make it -/
def GoodR : Rec → Prop
  | .word g n dl k t tm => g ∈ givS ∧ 0 < n ∧ n ≤ 1000000 ∧ k ∈ lotS ∧ t ∈ texS ∧ 0 ≤ tm ∧ tm < 1000 ∧ (∀ d, dl = some d → 1 ≤ d ∧ d ≤ 999999)
  | .fin g d b => g ∈ givS ∧ 1 ≤ d ∧ d ≤ 999999
structure Made (L : List Ent) (top : Int) : Prop where
  srt : Srt L
  rc : ∀ e ∈ L, GoodR e.2
  pl : ∀ e ∈ L, 0 ≤ e.1 ∧ e.1 < top
/-- the last numbers -/
structure LastK (kvs : List (D × D)) (m : Int) : Prop where
  keys : keysS kvs
  len : kvs.length ≤ m
  get : ∀ g, getKv kvs (.str g) = none ∨ ∃ n, getKv kvs (.str g) = some (.int n) ∧ 0 ≤ n ∧ n ≤ 900 * m
theorem LastK.at {kvs : List (D × D)} {m : Int} (h : LastK kvs m) (hm : 0 ≤ m) (g : Str) : ∃ n, (getKv kvs (.str g)).getD (.int 0) = .int n ∧ 0 ≤ n ∧ n ≤ 900 * m := by
  rcases h.get g with e | ⟨n, e, h1, h2⟩
  · exact ⟨0, by rw [e]; rfl, by omega, by omega⟩
  · exact ⟨n, by rw [e]; rfl, h1, h2⟩
theorem LastK.put {kvs : List (D × D)} {m n : Int} (h : LastK kvs m) (g : Str) (h0 : 0 ≤ n) (h1 : n ≤ 900 * (m + 1)) : LastK (putKv kvs (.str g) (.int n)) (m + 1) := by
  refine ⟨keysS_put h.keys g _, by have := putKv_len kvs (.str g) (.int n); have := h.len; omega, fun g' => ?_⟩
  rw [getKv_put]
  split
  · exact .inr ⟨n, rfl, h0, h1⟩
  · rcases h.get g' with e | ⟨n', e, h2, h3⟩
    · exact .inl e
    · exact .inr ⟨n', e, h2, by omega⟩
theorem Made.snoc {L : List Ent} {p p' : Int} {r : Rec} (h : Made L p) (hp : 0 ≤ p) (hr : GoodR r) (hlt : p < p') : Made (L ++ [(p, r)]) p' := by
  refine ⟨?_, fun e he => ?_, fun e he => ?_⟩
  · refine List.pairwise_append.mpr ⟨h.srt, List.pairwise_singleton _ _, fun a ha b hb => ?_⟩
    rw [List.mem_singleton.mp hb]
    exact (h.pl a ha).2
  · rcases List.mem_append.mp he with he | he
    · exact h.rc e he
    · rw [List.mem_singleton.mp he]; exact hr
  · rcases List.mem_append.mp he with he | he
    · have := h.pl e he; exact ⟨this.1, by omega⟩
    · rw [List.mem_singleton.mp he]; exact ⟨hp, hlt⟩
theorem mem_strs {z : D} {l : List Str} (h : z ∈ l.map D.str) : ∃ g ∈ l, z = .str g := let ⟨g, a, b⟩ := List.mem_map.mp h; ⟨g, a, b.symm⟩
theorem mem_ints {z : D} {l : List Int} (h : z ∈ l.map D.int) : ∃ g ∈ l, z = .int g := let ⟨g, a, b⟩ := List.mem_map.mp h; ⟨g, a, b.symm⟩
abbrev envT (i j4 j7 j8 : Nat) (cnt p : Int) (hol : Bool) (e3 e5 e9 e10 e11 e12 e13 e14 e15 : Option D) : Env := [some (.ob i), some (.int cnt), some (.bl hol), e3, some (.ob j4), e5, some (.int p), some (.ob j7), some (.ob j8), e9, e10, e11, e12, e13, e14, e15]
structure Dst (i j4 j7 j8 : Nat) : Prop where
  a : i ≠ j4 ∧ i ≠ j7 ∧ i ≠ j8
  b : j8 ≠ i ∧ j8 ≠ j4 ∧ j8 ≠ j7
  c : j7 ≠ i ∧ j7 ≠ j4 ∧ j7 ≠ j8
/-- what a turn leaves -/
def TurnQ (i j4 j7 j8 : Nat) (ks : List Str) (cnt : Int) (hol : Bool) (e3 : Option D) (p : Int) (l : Nat) (n m : Int) (s : Store) : Fl → Store → Prop := fun fl s' =>
  ∃ e5 e9 e10 e11 e12 e13 e14 e15 L' kvs' p', fl = .nx (envT i j4 j7 j8 cnt p' hol e3 e5 e9 e10 e11 e12 e13 e14 e15) ∧ LSt i j4 j7 j8 (ks.map D.str) (L'.map entD) kvs' n s' ∧ L'.length = l ∧ Made L' p' ∧ p < p' ∧ p' ≤ p + 6 ∧ LastK kvs' m ∧ Kp [i, j7, j8] s s'
theorem turn2_wp {C C1 : Cts} (bt : C.fn "_law_take" = callDef C1 5 take_b) {i j4 j7 j8 : Nat} (dd : Dst i j4 j7 j8) {ks : List Str} {L : List Ent} {kvs : List (D × D)} {cnt p n m : Int} {hol : Bool} {e3 e5 e9 e10 e11 e12 e14 e15 : Option D} {r : Rec} {s0 s : Store}
    (S : LSt i j4 j7 j8 (ks.map D.str) (L.map entD) kvs n s) (hn : n < 2 ^ 39) (hL : Made L p) (hp : 0 ≤ p) (hr : GoodR r) (hl : L.length ≤ 1000) (hK : LastK kvs m) (K0 : Kp [i, j7, j8] s0 s) :
    wp (runs C turn2_b (envT i j4 j7 j8 cnt p hol e3 e5 e9 e10 e11 e12 (some (recD r)) e14 e15)) (TurnQ i j4 j7 j8 ks cnt hol e3 p (L.length + 1) (n + 1) m s0) s := by
  unfold turn2_b envT
  simp only [wp_cons, wp_nil, wp_asg, wp_expr, wp_retS, wp_retN, wp_iteS, wp_pass, wp_brk, wp_cont, wp_setIx, wp_augX, wp_asgT, wp_for, wp_varX, wp_cst, wp_bin, wp_cmp, wp_cmpT, wp_chainT, wp_andT, wp_orT, wp_notT, wp_iteE, wp_idx, wp_sl, wp_call, wp_callK, wp_call0, wp_globX, wp_dictX, wp_bi, wp_tup, wp_lst, wp_dict0, wp_meth, wp_lc, wp_evs_nil, wp_evs_cons, wp_evo_none, wp_evo_some, wp_seq, wp_enum, wp_rng1, wp_rng2, wp_idxT, wp_varT, wp_callT, wp_callKT, wp_biT, x_truB, tsto_none, tsto_some,
  seqQ_nx, seqQ_ret, seqQ_bk, seqQ_ct, endQ_ret, endQ_nx, varQ_some, lstQ_some, dctQ_some, optQ_some, blQ_bl, inQ_int, rgQ_int, rg2Q_int,
  x_eqSS, x_eqII, x_neSS, x_neII, str_we, str_ew, decide_true, decide_false, if_true, if_false, Bool.false_eq_true, reduceIte, x_addI, x_addT, x_addS, x_addL, x_subI, x_mulI, x_divI, x_modI, x_powI, x_ltI, x_leI, x_gtI, x_geI, x_is, x_isnot, x_isB, x_isNB, x_ixT, x_ixF, x_abs, x_lenT, x_lenF, x_intI, x_intB, x_max2, x_min2, x_seqT, x_seqF, x_slT, x_slF,
  List.map_cons, List.map_nil, List.length_cons, List.length_nil, List.cons_append, List.nil_append, List.replicate_succ, List.replicate_zero, Nat.reduceSub, Nat.reduceAdd, List.set_cons_zero, List.set_cons_succ, List.getElem?_cons_zero, List.getElem?_cons_succ, Nat.add_zero, Nat.zero_add, Nat.sub_self, decide_eq_true_eq, bt]
  refine ⟨.list, x_tyL S.f7, by decide, ?_⟩
  rw [x_app S.f7]
  refine ⟨by rw [List.length_map]; have : bigN = 16777216 := rfl; omega, by decide, ?_⟩
  have S1 := S.setF dd.c (L.map entD ++ [.tup [.int p, recD r]])
  have K1 : Kp [i, j7, j8] s0 (s.set j7 (.lst (L.map entD ++ [.tup [.int p, recD r]]))) := K0.trans (Kp.set (by simp))
  refine pick_wp (ds := [0, 0, 1, 5].map D.int) S1.hand (by omega) rfl (by decide) (by decide) fun d hd s2 H2 K2 => ?_
  obtain ⟨v, hv, rfl⟩ := mem_ints (l := [0, 0, 1, 5]) hd
  have hv' : 0 ≤ v ∧ v ≤ 5 := by
    simp only [List.mem_cons, List.not_mem_nil, or_false] at hv
    omega
  have S2 := S1.take dd.a H2 K2
  try simp only [wp_cons, wp_nil, wp_asg, wp_expr, wp_retS, wp_retN, wp_iteS, wp_pass, wp_brk, wp_cont, wp_setIx, wp_augX, wp_asgT, wp_for, wp_varX, wp_cst, wp_bin, wp_cmp, wp_cmpT, wp_chainT, wp_andT, wp_orT, wp_notT, wp_iteE, wp_idx, wp_sl, wp_call, wp_callK, wp_call0, wp_globX, wp_dictX, wp_bi, wp_tup, wp_lst, wp_dict0, wp_meth, wp_lc, wp_evs_nil, wp_evs_cons, wp_evo_none, wp_evo_some, wp_seq, wp_enum, wp_rng1, wp_rng2, wp_idxT, wp_varT, wp_callT, wp_callKT, wp_biT, x_truB, tsto_none, tsto_some,
  seqQ_nx, seqQ_ret, seqQ_bk, seqQ_ct, endQ_ret, endQ_nx, varQ_some, lstQ_some, dctQ_some, optQ_some, blQ_bl, inQ_int, rgQ_int, rg2Q_int,
  x_eqSS, x_eqII, x_neSS, x_neII, str_we, str_ew, decide_true, decide_false, if_true, if_false, Bool.false_eq_true, reduceIte, x_addI, x_addT, x_addS, x_addL, x_subI, x_mulI, x_divI, x_modI, x_powI, x_ltI, x_leI, x_gtI, x_geI, x_is, x_isnot, x_isB, x_isNB, x_ixT, x_ixF, x_abs, x_lenT, x_lenF, x_intI, x_intB, x_max2, x_min2, x_seqT, x_seqF, x_slT, x_slF,
  List.map_cons, List.map_nil, List.length_cons, List.length_nil, List.cons_append, List.nil_append, List.replicate_succ, List.replicate_zero, Nat.reduceSub, Nat.reduceAdd, List.set_cons_zero, List.set_cons_succ, List.getElem?_cons_zero, List.getElem?_cons_succ, Nat.add_zero, Nat.zero_add, Nat.sub_self, decide_eq_true_eq]
  refine ⟨mulOk_left (by omega) (by omega), e5, e9, e10, e11, e12, some (recD r), e14, e15, L ++ [(p, r)], kvs, p + 1 + v * (if hol = true then 1 else 0), rfl, ?_, by simp, ?_, ?_, ?_, hK, K1.trans (K2.more (by simp))⟩
  · have : (L ++ [(p, r)]).map entD = L.map entD ++ [.tup [.int p, recD r]] := by simp [entD]
    rw [this]
    exact S2
  · refine hL.snoc hp hr ?_
    split <;> omega
  · split <;> omega
  · split <;> omega
theorem deal_opt {d : D} (h : d ∈ ([.non, .int 1, .int 2, .int 3, .int 999999] : List D)) : ∃ o : Option Int, d = optD o ∧ ∀ z, o = some z → 1 ≤ z ∧ z ≤ 999999 := by
  simp only [List.mem_cons, List.not_mem_nil, or_false] at h
  rcases h with rfl | rfl | rfl | rfl | rfl
  · exact ⟨none, rfl, fun z hz => nomatch hz⟩
  · exact ⟨some 1, rfl, fun z hz => by cases hz; decide⟩
  · exact ⟨some 2, rfl, fun z hz => by cases hz; decide⟩
  · exact ⟨some 3, rfl, fun z hz => by cases hz; decide⟩
  · exact ⟨some 999999, rfl, fun z hz => by cases hz; decide⟩
theorem LastK.up {kvs : List (D × D)} {m : Int} (h : LastK kvs m) : LastK kvs (m + 1) :=
  ⟨h.keys, by have := h.len; omega, fun g => (h.get g).imp id fun ⟨n, e, h1, h2⟩ => ⟨n, e, h1, by omega⟩⟩
theorem LSt.mono {i j4 j7 j8 : Nat} {ks fs : List D} {kvs : List (D × D)} {n n' : Int} {s : Store} (S : LSt i j4 j7 j8 ks fs kvs n s) (h : n ≤ n') : LSt i j4 j7 j8 ks fs kvs n' s := ⟨S.hand.mono h, S.k4, S.f7, S.d8⟩
theorem TurnQ.mono {i j4 j7 j8 : Nat} {ks : List Str} {cnt : Int} {hol : Bool} {e3 : Option D} {p : Int} {l : Nat} {n n' m : Int} {s s' : Store} {fl : Fl} (h : TurnQ i j4 j7 j8 ks cnt hol e3 p l n m s fl s') (hn : n ≤ n') : TurnQ i j4 j7 j8 ks cnt hol e3 p l n' m s fl s' := by
  obtain ⟨a5, a9, a10, a11, a12, a13, a14, a15, L', kvs', p', h1, h2, h3⟩ := h
  exact ⟨a5, a9, a10, a11, a12, a13, a14, a15, L', kvs', p', h1, h2.mono hn, h3⟩
theorem turn_wp {C C1 : Cts} (bt : C.fn "_law_take" = callDef C1 5 take_b) {i j4 j7 j8 : Nat} (dd : Dst i j4 j7 j8) {ks : List Str} {L : List Ent} {kvs : List (D × D)} {cnt p n m : Int} {hol : Bool} {e3 e5 e9 e10 e11 e12 e13 e14 e15 : Option D} {s : Store}
    (S : LSt i j4 j7 j8 (ks.map D.str) (L.map entD) kvs n s) (hn : n < 2 ^ 38) (hks : ∀ k ∈ ks, k ∈ lotS) (hk0 : ks ≠ []) (hk1 : ks.length ≤ 14) (hL : Made L p) (hp : 0 ≤ p) (hl : L.length ≤ 1000) (hK : LastK kvs m) (hm : 0 ≤ m) (hm2 : m ≤ 1000) :
    wp (runs C turn_b (envT i j4 j7 j8 cnt p hol e3 e5 e9 e10 e11 e12 e13 e14 e15)) (TurnQ i j4 j7 j8 ks cnt hol e3 p (L.length + 1) (n + 10) (m + 1) s) s := by
  have hks2 : 0 < ks.length := List.length_pos_iff.mpr hk0
  unfold turn_b
  unfold envT
  simp only [wp_cons, wp_nil, wp_asg, wp_expr, wp_retS, wp_retN, wp_iteS, wp_pass, wp_brk, wp_cont, wp_setIx, wp_augX, wp_asgT, wp_for, wp_varX, wp_cst, wp_bin, wp_cmp, wp_cmpT, wp_chainT, wp_andT, wp_orT, wp_notT, wp_iteE, wp_idx, wp_sl, wp_call, wp_callK, wp_call0, wp_globX, wp_dictX, wp_bi, wp_tup, wp_lst, wp_dict0, wp_meth, wp_lc, wp_evs_nil, wp_evs_cons, wp_evo_none, wp_evo_some, wp_seq, wp_enum, wp_rng1, wp_rng2, wp_idxT, wp_varT, wp_callT, wp_callKT, wp_biT, x_truB, tsto_none, tsto_some,
  seqQ_nx, seqQ_ret, seqQ_bk, seqQ_ct, endQ_ret, endQ_nx, varQ_some, lstQ_some, dctQ_some, optQ_some, blQ_bl, inQ_int, rgQ_int, rg2Q_int,
  x_eqSS, x_eqII, x_neSS, x_neII, str_we, str_ew, decide_true, decide_false, if_true, if_false, Bool.false_eq_true, reduceIte, x_addI, x_addT, x_addS, x_addL, x_subI, x_mulI, x_divI, x_modI, x_powI, x_ltI, x_leI, x_gtI, x_geI, x_is, x_isnot, x_isB, x_isNB, x_ixT, x_ixF, x_abs, x_lenT, x_lenF, x_intI, x_intB, x_max2, x_min2, x_seqT, x_seqF, x_slT, x_slF,
  List.map_cons, List.map_nil, List.length_cons, List.length_nil, List.cons_append, List.nil_append, List.replicate_succ, List.replicate_zero, Nat.reduceSub, Nat.reduceAdd, List.set_cons_zero, List.set_cons_succ, List.getElem?_cons_zero, List.getElem?_cons_succ, Nat.add_zero, Nat.zero_add, Nat.sub_self, decide_eq_true_eq, bt]
  refine take_wp S.hand (by omega) (by decide) (by decide) fun way s1 H1 K1 w0 w1 => ?_
  have S1 := S.take dd.a H1 K1
  have Q1 : Kp [i, j7, j8] s s1 := K1.more (by simp)
  refine ⟨by decide, pick_wp (ds := givS.map D.str) H1 (by omega) rfl (by decide) (by decide) fun d hd s2 H2 K2 => ?_⟩
  obtain ⟨g, hg, rfl⟩ := mem_strs hd
  have S2 := S1.take dd.a H2 K2
  have Q2 := Q1.trans (K2.more (ks' := [i, j7, j8]) (by simp))
  refine ⟨by decide, envT i j4 j7 j8 cnt p hol e3 e5 e9 (some (.int way)) (some (.str g)) e12 e13 e14 e15, rfl, ?_⟩
  unfold envT
  try simp only [wp_cons, wp_nil, wp_asg, wp_expr, wp_retS, wp_retN, wp_iteS, wp_pass, wp_brk, wp_cont, wp_setIx, wp_augX, wp_asgT, wp_for, wp_varX, wp_cst, wp_bin, wp_cmp, wp_cmpT, wp_chainT, wp_andT, wp_orT, wp_notT, wp_iteE, wp_idx, wp_sl, wp_call, wp_callK, wp_call0, wp_globX, wp_dictX, wp_bi, wp_tup, wp_lst, wp_dict0, wp_meth, wp_lc, wp_evs_nil, wp_evs_cons, wp_evo_none, wp_evo_some, wp_seq, wp_enum, wp_rng1, wp_rng2, wp_idxT, wp_varT, wp_callT, wp_callKT, wp_biT, x_truB, tsto_none, tsto_some,
  seqQ_nx, seqQ_ret, seqQ_bk, seqQ_ct, endQ_ret, endQ_nx, varQ_some, lstQ_some, dctQ_some, optQ_some, blQ_bl, inQ_int, rgQ_int, rg2Q_int,
  x_eqSS, x_eqII, x_neSS, x_neII, str_we, str_ew, decide_true, decide_false, if_true, if_false, Bool.false_eq_true, reduceIte, x_addI, x_addT, x_addS, x_addL, x_subI, x_mulI, x_divI, x_modI, x_powI, x_ltI, x_leI, x_gtI, x_geI, x_is, x_isnot, x_isB, x_isNB, x_ixT, x_ixF, x_abs, x_lenT, x_lenF, x_intI, x_intB, x_max2, x_min2, x_seqT, x_seqF, x_slT, x_slF,
  List.map_cons, List.map_nil, List.length_cons, List.length_nil, List.cons_append, List.nil_append, List.replicate_succ, List.replicate_zero, Nat.reduceSub, Nat.reduceAdd, List.set_cons_zero, List.set_cons_succ, List.getElem?_cons_zero, List.getElem?_cons_succ, Nat.add_zero, Nat.zero_add, Nat.sub_self, decide_eq_true_eq]
  refine ⟨by decide, pick_wp (ds := [.non, .int 1, .int 2, .int 3, .int 999999]) H2 (by omega) rfl (by decide) (by decide) fun d hd s3 H3 K3 => ?_⟩
  obtain ⟨o, rfl, ho⟩ := deal_opt hd
  have S3 := S2.take dd.a H3 K3
  have Q3 := Q2.trans (K3.more (ks' := [i, j7, j8]) (by simp))
  try simp only [wp_cons, wp_nil, wp_asg, wp_expr, wp_retS, wp_retN, wp_iteS, wp_pass, wp_brk, wp_cont, wp_setIx, wp_augX, wp_asgT, wp_for, wp_varX, wp_cst, wp_bin, wp_cmp, wp_cmpT, wp_chainT, wp_andT, wp_orT, wp_notT, wp_iteE, wp_idx, wp_sl, wp_call, wp_callK, wp_call0, wp_globX, wp_dictX, wp_bi, wp_tup, wp_lst, wp_dict0, wp_meth, wp_lc, wp_evs_nil, wp_evs_cons, wp_evo_none, wp_evo_some, wp_seq, wp_enum, wp_rng1, wp_rng2, wp_idxT, wp_varT, wp_callT, wp_callKT, wp_biT, x_truB, tsto_none, tsto_some,
  seqQ_nx, seqQ_ret, seqQ_bk, seqQ_ct, endQ_ret, endQ_nx, varQ_some, lstQ_some, dctQ_some, optQ_some, blQ_bl, inQ_int, rgQ_int, rg2Q_int,
  x_eqSS, x_eqII, x_neSS, x_neII, str_we, str_ew, decide_true, decide_false, if_true, if_false, Bool.false_eq_true, reduceIte, x_addI, x_addT, x_addS, x_addL, x_subI, x_mulI, x_divI, x_modI, x_powI, x_ltI, x_leI, x_gtI, x_geI, x_is, x_isnot, x_isB, x_isNB, x_ixT, x_ixF, x_abs, x_lenT, x_lenF, x_intI, x_intB, x_max2, x_min2, x_seqT, x_seqF, x_slT, x_slF,
  List.map_cons, List.map_nil, List.length_cons, List.length_nil, List.cons_append, List.nil_append, List.replicate_succ, List.replicate_zero, Nat.reduceSub, Nat.reduceAdd, List.set_cons_zero, List.set_cons_succ, List.getElem?_cons_zero, List.getElem?_cons_succ, Nat.add_zero, Nat.zero_add, Nat.sub_self, decide_eq_true_eq]
  by_cases hway : way < 6
  · simp only [if_pos hway]
    refine ⟨.dict, x_tyD S3.d8, ?_⟩
    rw [x_get2 S3.d8]
    refine ⟨kind_strs hK.keys g, ?_⟩
    obtain ⟨n0, hn0, n1, n2⟩ := hK.at hm g
    rw [hn0]
    refine ⟨by decide, pick_wp (ds := [1, 1, 2, 900].map D.int) H3 (by omega) rfl (by decide) (by decide) fun d hd s4 H4 K4 => ?_⟩
    obtain ⟨inc, hinc, rfl⟩ := mem_ints (l := [1, 1, 2, 900]) hd
    have hi' : 1 ≤ inc ∧ inc ≤ 900 := by
      simp only [List.mem_cons, List.not_mem_nil, or_false] at hinc
      omega
    have S4 := S3.take dd.a H4 K4
    have Q4 := Q3.trans (K4.more (ks' := [i, j7, j8]) (by simp))
    try simp only [wp_cons, wp_nil, wp_asg, wp_expr, wp_retS, wp_retN, wp_iteS, wp_pass, wp_brk, wp_cont, wp_setIx, wp_augX, wp_asgT, wp_for, wp_varX, wp_cst, wp_bin, wp_cmp, wp_cmpT, wp_chainT, wp_andT, wp_orT, wp_notT, wp_iteE, wp_idx, wp_sl, wp_call, wp_callK, wp_call0, wp_globX, wp_dictX, wp_bi, wp_tup, wp_lst, wp_dict0, wp_meth, wp_lc, wp_evs_nil, wp_evs_cons, wp_evo_none, wp_evo_some, wp_seq, wp_enum, wp_rng1, wp_rng2, wp_idxT, wp_varT, wp_callT, wp_callKT, wp_biT, x_truB, tsto_none, tsto_some,
  seqQ_nx, seqQ_ret, seqQ_bk, seqQ_ct, endQ_ret, endQ_nx, varQ_some, lstQ_some, dctQ_some, optQ_some, blQ_bl, inQ_int, rgQ_int, rg2Q_int,
  x_eqSS, x_eqII, x_neSS, x_neII, str_we, str_ew, decide_true, decide_false, if_true, if_false, Bool.false_eq_true, reduceIte, x_addI, x_addT, x_addS, x_addL, x_subI, x_mulI, x_divI, x_modI, x_powI, x_ltI, x_leI, x_gtI, x_geI, x_is, x_isnot, x_isB, x_isNB, x_ixT, x_ixF, x_abs, x_lenT, x_lenF, x_intI, x_intB, x_max2, x_min2, x_seqT, x_seqF, x_slT, x_slF,
  List.map_cons, List.map_nil, List.length_cons, List.length_nil, List.cons_append, List.nil_append, List.replicate_succ, List.replicate_zero, Nat.reduceSub, Nat.reduceAdd, List.set_cons_zero, List.set_cons_succ, List.getElem?_cons_zero, List.getElem?_cons_succ, Nat.add_zero, Nat.zero_add, Nat.sub_self, decide_eq_true_eq]
    rw [x_setK S4.d8]
    refine ⟨⟨kind_strs hK.keys g, by have := hK.len; have : bigN = 16777216 := rfl; omega⟩, ?_⟩
    have S5 := S4.setD dd.b (putKv kvs (.str g) (.int (n0 + inc)))
    have hK5 := hK.put g (n := n0 + inc) (by omega) (by omega)
    have Q5 : Kp [i, j7, j8] s (s4.set j8 (.dct (putKv kvs (.str g) (.int (n0 + inc))))) := Q4.trans (Kp.set (by simp))
    generalize s4.set j8 (.dct (putKv kvs (.str g) (.int (n0 + inc)))) = s5 at S5 Q5
    have H5 := S5.hand
    rw [x_lenL S5.k4]
    refine pickAt_wp H5 (by omega) S5.k4 dd.a.1 rfl (by rw [List.length_map]; omega) (by rw [List.length_map]; omega) fun d hd s6 H6 K6 => ?_
    obtain ⟨key, hkey, rfl⟩ := mem_strs hd
    have S6 := S5.take dd.a H6 K6
    have Q6 := Q5.trans (K6.more (ks' := [i, j7, j8]) (by simp))
    refine take_wp H6 (by omega) (by decide) (by decide) fun tm s7 H7 K7 t0 t1 => ?_
    have S7 := S6.take dd.a H7 K7
    have Q7 := Q6.trans (K7.more (ks' := [i, j7, j8]) (by simp))
    refine ⟨by decide, pick_wp (ds := [0, 5, 999, tm].map D.int) H7 (by omega) rfl (by decide) (by decide) fun d hd s8 H8 K8 => ?_⟩
    obtain ⟨tm2, htm, rfl⟩ := mem_ints (l := [0, 5, 999, tm]) hd
    have ht' : 0 ≤ tm2 ∧ tm2 < 1000 := by
      simp only [List.mem_cons, List.not_mem_nil, or_false] at htm
      omega
    have S8 := S7.take dd.a H8 K8
    have Q8 := Q7.trans (K8.more (ks' := [i, j7, j8]) (by simp))
    refine ⟨by decide, envT i j4 j7 j8 cnt p hol e3 e5 (some (optD o)) (some (.int way)) (some (.str g)) e12 e13 (some (.str key)) (some (.int tm2)), rfl, ?_⟩
    unfold envT
    try simp only [wp_cons, wp_nil, wp_asg, wp_expr, wp_retS, wp_retN, wp_iteS, wp_pass, wp_brk, wp_cont, wp_setIx, wp_augX, wp_asgT, wp_for, wp_varX, wp_cst, wp_bin, wp_cmp, wp_cmpT, wp_chainT, wp_andT, wp_orT, wp_notT, wp_iteE, wp_idx, wp_sl, wp_call, wp_callK, wp_call0, wp_globX, wp_dictX, wp_bi, wp_tup, wp_lst, wp_dict0, wp_meth, wp_lc, wp_evs_nil, wp_evs_cons, wp_evo_none, wp_evo_some, wp_seq, wp_enum, wp_rng1, wp_rng2, wp_idxT, wp_varT, wp_callT, wp_callKT, wp_biT, x_truB, tsto_none, tsto_some,
  seqQ_nx, seqQ_ret, seqQ_bk, seqQ_ct, endQ_ret, endQ_nx, varQ_some, lstQ_some, dctQ_some, optQ_some, blQ_bl, inQ_int, rgQ_int, rg2Q_int,
  x_eqSS, x_eqII, x_neSS, x_neII, str_we, str_ew, decide_true, decide_false, if_true, if_false, Bool.false_eq_true, reduceIte, x_addI, x_addT, x_addS, x_addL, x_subI, x_mulI, x_divI, x_modI, x_powI, x_ltI, x_leI, x_gtI, x_geI, x_is, x_isnot, x_isB, x_isNB, x_ixT, x_ixF, x_abs, x_lenT, x_lenF, x_intI, x_intB, x_max2, x_min2, x_seqT, x_seqF, x_slT, x_slF,
  List.map_cons, List.map_nil, List.length_cons, List.length_nil, List.cons_append, List.nil_append, List.replicate_succ, List.replicate_zero, Nat.reduceSub, Nat.reduceAdd, List.set_cons_zero, List.set_cons_succ, List.getElem?_cons_zero, List.getElem?_cons_succ, Nat.add_zero, Nat.zero_add, Nat.sub_self, decide_eq_true_eq]
    refine ⟨by decide, pick_wp (ds := texS.map D.str) H8 (by omega) rfl (by decide) (by decide) fun d hd s9 H9 K9 => ?_⟩
    obtain ⟨tx, htx, rfl⟩ := mem_strs hd
    have S9 := S8.take dd.a H9 K9
    have Q9 := Q8.trans (K9.more (ks' := [i, j7, j8]) (by simp))
    try simp only [wp_cons, wp_nil, wp_asg, wp_expr, wp_retS, wp_retN, wp_iteS, wp_pass, wp_brk, wp_cont, wp_setIx, wp_augX, wp_asgT, wp_for, wp_varX, wp_cst, wp_bin, wp_cmp, wp_cmpT, wp_chainT, wp_andT, wp_orT, wp_notT, wp_iteE, wp_idx, wp_sl, wp_call, wp_callK, wp_call0, wp_globX, wp_dictX, wp_bi, wp_tup, wp_lst, wp_dict0, wp_meth, wp_lc, wp_evs_nil, wp_evs_cons, wp_evo_none, wp_evo_some, wp_seq, wp_enum, wp_rng1, wp_rng2, wp_idxT, wp_varT, wp_callT, wp_callKT, wp_biT, x_truB, tsto_none, tsto_some,
  seqQ_nx, seqQ_ret, seqQ_bk, seqQ_ct, endQ_ret, endQ_nx, varQ_some, lstQ_some, dctQ_some, optQ_some, blQ_bl, inQ_int, rgQ_int, rg2Q_int,
  x_eqSS, x_eqII, x_neSS, x_neII, str_we, str_ew, decide_true, decide_false, if_true, if_false, Bool.false_eq_true, reduceIte, x_addI, x_addT, x_addS, x_addL, x_subI, x_mulI, x_divI, x_modI, x_powI, x_ltI, x_leI, x_gtI, x_geI, x_is, x_isnot, x_isB, x_isNB, x_ixT, x_ixF, x_abs, x_lenT, x_lenF, x_intI, x_intB, x_max2, x_min2, x_seqT, x_seqF, x_slT, x_slF,
  List.map_cons, List.map_nil, List.length_cons, List.length_nil, List.cons_append, List.nil_append, List.replicate_succ, List.replicate_zero, Nat.reduceSub, Nat.reduceAdd, List.set_cons_zero, List.set_cons_succ, List.getElem?_cons_zero, List.getElem?_cons_succ, Nat.add_zero, Nat.zero_add, Nat.sub_self, decide_eq_true_eq]
    rw [x_ixD S9.d8, getKv_put, if_pos rfl]
    refine ⟨kind_strs hK5.keys g, ?_⟩
    try simp only [wp_cons, wp_nil, wp_asg, wp_expr, wp_retS, wp_retN, wp_iteS, wp_pass, wp_brk, wp_cont, wp_setIx, wp_augX, wp_asgT, wp_for, wp_varX, wp_cst, wp_bin, wp_cmp, wp_cmpT, wp_chainT, wp_andT, wp_orT, wp_notT, wp_iteE, wp_idx, wp_sl, wp_call, wp_callK, wp_call0, wp_globX, wp_dictX, wp_bi, wp_tup, wp_lst, wp_dict0, wp_meth, wp_lc, wp_evs_nil, wp_evs_cons, wp_evo_none, wp_evo_some, wp_seq, wp_enum, wp_rng1, wp_rng2, wp_idxT, wp_varT, wp_callT, wp_callKT, wp_biT, x_truB, tsto_none, tsto_some,
  seqQ_nx, seqQ_ret, seqQ_bk, seqQ_ct, endQ_ret, endQ_nx, varQ_some, lstQ_some, dctQ_some, optQ_some, blQ_bl, inQ_int, rgQ_int, rg2Q_int,
  x_eqSS, x_eqII, x_neSS, x_neII, str_we, str_ew, decide_true, decide_false, if_true, if_false, Bool.false_eq_true, reduceIte, x_addI, x_addT, x_addS, x_addL, x_subI, x_mulI, x_divI, x_modI, x_powI, x_ltI, x_leI, x_gtI, x_geI, x_is, x_isnot, x_isB, x_isNB, x_ixT, x_ixF, x_abs, x_lenT, x_lenF, x_intI, x_intB, x_max2, x_min2, x_seqT, x_seqF, x_slT, x_slF,
  List.map_cons, List.map_nil, List.length_cons, List.length_nil, List.cons_append, List.nil_append, List.replicate_succ, List.replicate_zero, Nat.reduceSub, Nat.reduceAdd, List.set_cons_zero, List.set_cons_succ, List.getElem?_cons_zero, List.getElem?_cons_succ, Nat.add_zero, Nat.zero_add, Nat.sub_self, decide_eq_true_eq]
    refine ⟨by decide, ?_⟩
    have fin := turn2_wp (C := C) bt dd (cnt := cnt) (hol := hol) (e3 := e3) (e5 := e5) (e9 := some (optD o)) (e10 := some (.int way)) (e11 := some (.str g)) (e12 := some (.str tx)) (e14 := some (.str key)) (e15 := some (.int tm2)) (r := .word g (n0 + inc) o key tx tm2) S9 (by omega) hL hp ⟨hg, by omega, by omega, hks _ hkey, htx, ht'.1, ht'.2, ho⟩ hl hK5 Q9
    exact wp_mono fin fun fl s' h => h.mono (by omega)
  · simp only [if_neg hway]
    refine ⟨by decide, ?_⟩
    have hat : (s3 ++ [Ob.lst [optD o, .int 1]])[s3.length]? = some (.lst [optD o, .int 1]) := by simp
    have S4 := S3.app [Ob.lst [optD o, .int 1]]
    have Q4 : Kp [i, j7, j8] s (s3 ++ [Ob.lst [optD o, .int 1]]) := Q3.trans (Kp.app _ _ _)
    have go : ∀ dl : Int, 1 ≤ dl → dl ≤ 999999 → wp (callDef C1 5 take_b [D.ob i, D.int 3]) (fun x s1 => wp (cmpD .Gt x (.int 0)) (fun d1 s2 => 4 ≤ bigN ∧ wp (runs C turn2_b [some (.ob i), some (.int cnt), some (.bl hol), e3, some (.ob j4), e5, some (.int p), some (.ob j7), some (.ob j8), some (optD o), some (.int way), some (.str g), e12, some (.tup [.str "end", .str g, .int dl, d1]), e14, e15]) (TurnQ i j4 j7 j8 ks cnt hol e3 p (L.length + 1) (n + 10) (m + 1) s) s2) s1) (s3 ++ [Ob.lst [optD o, .int 1]]) := by
      intro dl d1 d2
      refine take_wp S4.hand (by omega) (by decide) (by decide) fun rr s5 H5 K5 r0 r1 => ?_
      have S5 := S4.take dd.a H5 K5
      have Q5 := Q4.trans (K5.more (ks' := [i, j7, j8]) (by simp))
      rw [x_gtI]
      refine ⟨by decide, ?_⟩
      have fin := turn2_wp (C := C) bt dd (cnt := cnt) (hol := hol) (e3 := e3) (e5 := e5) (e9 := some (optD o)) (e10 := some (.int way)) (e11 := some (.str g)) (e12 := e12) (e14 := e14) (e15 := e15) (r := .fin g dl (decide (rr > 0))) S5 (by omega) hL hp ⟨hg, d1, d2⟩ hl hK.up Q5
      exact wp_mono fin fun fl s' h => h.mono (by omega)
    rw [x_ixL hat]
    cases o with
    | none => exact go 1 (by decide) (by decide)
    | some z => exact go z (ho z rfl).1 (ho z rfl).2
end W9

/-! W9R: a whole log of the laws -/
namespace W9
open PySem L2
theorem cut_map {α β : Type} (f : α → β) (l : List α) (lo hi : Option Int) : cutL (l.map f) lo hi = (cutL l lo hi).map f := by
  unfold cutL
  simp only [List.length_map, List.map_take, List.map_drop]
theorem cut_some {α : Type} {l : List α} (h : l ≠ []) {r : Int} (hr : 0 ≤ r) : cutL l none (some (1 + r)) ≠ [] := by
  unfold cutL
  simp only [HT.sIx]
  rw [if_neg (by omega)]
  intro e
  have := congrArg List.length e
  have hl : 0 < l.length := List.length_pos_iff.mpr h
  simp only [List.length_take, List.length_drop, List.length_nil] at this
  omega
theorem cut_sub {α : Type} {l : List α} {lo hi : Option Int} {x : α} (h : x ∈ cutL l lo hi) : x ∈ l := by
  unfold cutL at h
  exact List.mem_of_mem_drop (List.mem_of_mem_take h)
theorem cut_le {α : Type} {l : List α} {lo hi : Option Int} : (cutL l lo hi).length ≤ l.length := by
  unfold cutL
  simp only [List.length_take, List.length_drop]
  omega
theorem keys_ne' {r : Int} (h0 : 0 ≤ r) (h1 : r < 2) : keysM r ≠ [] := by
  have : r = 0 ∨ r = 1 := by omega
  rcases this with rfl | rfl
  · exact keys_ne.1
  · exact keys_ne.2
theorem Kp.fresh {i j7 j8 : Nat} {s s1 s2 : Store} (a : Kp [i] s s1) (b : Kp [i, j7, j8] s1 s2) (h7 : s.length ≤ j7) (h8 : s.length ≤ j8) : Kp [i] s s2 := by
  refine ⟨Nat.le_trans a.len b.len, fun k o hk e => ?_⟩
  have : k < s.length := (List.getElem?_eq_some_iff.mp e).1
  refine b.at' k o ?_ (a.at' k o hk e)
  simp only [List.mem_cons, List.not_mem_nil, or_false] at hk ⊢
  omega
theorem rng_small {c : Int} (h0 : 0 ≤ c) (h1 : c ≤ 1000) : rngOk c = true := by
  unfold rngOk
  rw [decide_eq_true (by omega), decide_eq_true (by omega)]
  rfl
theorem log_wp {C C1 C2 : Cts} (bt : C.fn "_law_take" = callDef C1 5 take_b) (bk : C.fn "_law_keys" = callDef C2 4 keys_b) (bp : ∃ C', C2.fn "_law_part" = callDef C' 4 part_b) {i : Nat} {cnt n : Int} {hol : Bool} {s : Store} {QD : D → Store → Prop}
    (H : HandA i n s) (hn : n < 2 ^ 37) (hc : 0 ≤ cnt) (hc2 : cnt ≤ 100)
    (q : ∀ L s', Made L 1000 → (L.length : Int) = cnt → HandA i (n + 3 + 10 * cnt) s' → Kp [i] s s' → QD (logT L) s') : wp (callDef C 16 log_b [.ob i, .int cnt, .bl hol]) QD s := by
  have hi := H.lt
  unfold log_b
  rw [wp_callDef]
  simp only [wp_cons, wp_nil, wp_asg, wp_expr, wp_retS, wp_retN, wp_iteS, wp_pass, wp_brk, wp_cont, wp_setIx, wp_augX, wp_asgT, wp_for, wp_varX, wp_cst, wp_bin, wp_cmp, wp_cmpT, wp_chainT, wp_andT, wp_orT, wp_notT, wp_iteE, wp_idx, wp_sl, wp_call, wp_callK, wp_call0, wp_globX, wp_dictX, wp_bi, wp_tup, wp_lst, wp_dict0, wp_meth, wp_lc, wp_evs_nil, wp_evs_cons, wp_evo_none, wp_evo_some, wp_seq, wp_enum, wp_rng1, wp_rng2, wp_idxT, wp_varT, wp_callT, wp_callKT, wp_biT, x_truB, tsto_none, tsto_some,
  seqQ_nx, seqQ_ret, seqQ_bk, seqQ_ct, endQ_ret, endQ_nx, varQ_some, lstQ_some, dctQ_some, optQ_some, blQ_bl, inQ_int, rgQ_int, rg2Q_int,
  x_eqSS, x_eqII, x_neSS, x_neII, str_we, str_ew, decide_true, decide_false, if_true, if_false, Bool.false_eq_true, reduceIte, x_addI, x_addT, x_addS, x_addL, x_subI, x_mulI, x_divI, x_modI, x_powI, x_ltI, x_leI, x_gtI, x_geI, x_is, x_isnot, x_isB, x_isNB, x_ixT, x_ixF, x_abs, x_lenT, x_lenF, x_intI, x_intB, x_max2, x_min2, x_seqT, x_seqF, x_slT, x_slF,
  List.map_cons, List.map_nil, List.length_cons, List.length_nil, List.cons_append, List.nil_append, List.replicate_succ, List.replicate_zero, Nat.reduceSub, Nat.reduceAdd, List.set_cons_zero, List.set_cons_succ, List.getElem?_cons_zero, List.getElem?_cons_succ, Nat.add_zero, Nat.zero_add, Nat.sub_self, decide_eq_true_eq, bt, bk]
  refine take_wp H (by omega) (by decide) (by decide) fun part s1 H1 K1 a0 a1 => ?_
  refine keys_wp bp fun s2 p2 => ?_
  have H2 : HandA i (n + 1) (s2 ++ [.lst ((keysM part).map D.str)]) := (H1.kp (Kp.pre p2 []) (by simp)).app _
  have K2 : Kp [i] s (s2 ++ [.lst ((keysM part).map D.str)]) := (K1.trans (Kp.pre p2 [i])).trans (Kp.app _ _ _)
  have hi2 : i < s2.length := Nat.lt_of_lt_of_le H1.lt p2.length_le
  refine take_wp H2 (by omega) (by decide) (by decide) fun r7 s3 H3 K3 b0 b1 => ?_
  have hat3 : s3[s2.length]? = some (.lst ((keysM part).map D.str)) := K3.at' _ _ (by simp; omega) (by simp)
  have Q3 := K2.trans K3
  try simp only [wp_cons, wp_nil, wp_asg, wp_expr, wp_retS, wp_retN, wp_iteS, wp_pass, wp_brk, wp_cont, wp_setIx, wp_augX, wp_asgT, wp_for, wp_varX, wp_cst, wp_bin, wp_cmp, wp_cmpT, wp_chainT, wp_andT, wp_orT, wp_notT, wp_iteE, wp_idx, wp_sl, wp_call, wp_callK, wp_call0, wp_globX, wp_dictX, wp_bi, wp_tup, wp_lst, wp_dict0, wp_meth, wp_lc, wp_evs_nil, wp_evs_cons, wp_evo_none, wp_evo_some, wp_seq, wp_enum, wp_rng1, wp_rng2, wp_idxT, wp_varT, wp_callT, wp_callKT, wp_biT, x_truB, tsto_none, tsto_some,
  seqQ_nx, seqQ_ret, seqQ_bk, seqQ_ct, endQ_ret, endQ_nx, varQ_some, lstQ_some, dctQ_some, optQ_some, blQ_bl, inQ_int, rgQ_int, rg2Q_int,
  x_eqSS, x_eqII, x_neSS, x_neII, str_we, str_ew, decide_true, decide_false, if_true, if_false, Bool.false_eq_true, reduceIte, x_addI, x_addT, x_addS, x_addL, x_subI, x_mulI, x_divI, x_modI, x_powI, x_ltI, x_leI, x_gtI, x_geI, x_is, x_isnot, x_isB, x_isNB, x_ixT, x_ixF, x_abs, x_lenT, x_lenF, x_intI, x_intB, x_max2, x_min2, x_seqT, x_seqF, x_slT, x_slF,
  List.map_cons, List.map_nil, List.length_cons, List.length_nil, List.cons_append, List.nil_append, List.replicate_succ, List.replicate_zero, Nat.reduceSub, Nat.reduceAdd, List.set_cons_zero, List.set_cons_succ, List.getElem?_cons_zero, List.getElem?_cons_succ, Nat.add_zero, Nat.zero_add, Nat.sub_self, decide_eq_true_eq]
  rw [x_slL hat3, cut_map]
  generalize hks : cutL (keysM part) none (some (1 + r7)) = ks
  have hk0 : ks ≠ [] := by rw [← hks]; exact cut_some (keys_ne' a0 a1) b0
  have hk1 : ks.length ≤ 14 := by
    rw [← hks]
    exact Nat.le_trans cut_le (Nat.le_trans (List.length_filter_le _ _) (by decide))
  have hkl : ∀ k ∈ ks, k ∈ lotS := fun k hk => by
    rw [← hks] at hk
    exact (List.mem_filter.mp (cut_sub hk)).1
  have H3' := H3.app [.lst (ks.map D.str)]
  refine take_wp H3' (by omega) (by decide) (by decide) fun r5 s4 H4 K4 c0 c1 => ?_
  have hat4 : s4[s3.length]? = some (.lst (ks.map D.str)) := K4.at' _ _ (by have := H3.lt; simp; omega) (by simp)
  have Q4 := (Q3.trans (Kp.app [i] s3 [.lst (ks.map D.str)])).trans K4
  refine ⟨by decide, ?_⟩
  rw [x_ixL (xs := [.int 0, .int r5]) (by simp)]
  have hp : ∃ p : Int, 0 ≤ p ∧ p ≤ 4 ∧ atI [D.int 0, D.int r5] (if hol = true then 1 else 0) = some (.int p) := by
    cases hol with
    | true => exact ⟨r5, c0, by omega, rfl⟩
    | false => exact ⟨0, by decide, by decide, rfl⟩
  obtain ⟨p, p0, p1, hpk⟩ := hp
  rw [hpk, optQ_some]
  have l4 : s3.length < s4.length := (List.getElem?_eq_some_iff.mp hat4).1
  have e1 : (s4 ++ [Ob.lst [D.int 0, D.int r5]]).length = s4.length + 1 := by simp
  have e2 : (s4 ++ [Ob.lst [D.int 0, D.int r5]] ++ [Ob.lst []]).length = s4.length + 2 := by simp
  rw [e2, e1]
  generalize hs5 : s4 ++ [Ob.lst [D.int 0, D.int r5]] ++ [Ob.lst []] ++ [Ob.dct []] = s5
  have S5 : LSt i s3.length (s4.length + 1) (s4.length + 2) (ks.map D.str) (([] : List Ent).map entD) [] (n + 3) s5 := by
    rw [← hs5]
    refine ⟨((H4.app _).app _).app _ |>.mono (by omega), ?_, by simp, by simp⟩
    rw [List.append_assoc, List.append_assoc, List.getElem?_append_left l4]
    exact hat4
  have Q5 : Kp [i] s s5 := by
    rw [← hs5]
    exact ((Q4.trans (Kp.app _ _ _)).trans (Kp.app _ _ _)).trans (Kp.app _ _ _)
  have hs4 : s.length ≤ s4.length := Q4.len
  have hi3 := H3.lt
  have dd : Dst i s3.length (s4.length + 1) (s4.length + 2) := ⟨⟨by omega, by omega, by omega⟩, ⟨by omega, by omega, by omega⟩, ⟨by omega, by omega, by omega⟩⟩
  refine ⟨by decide, by decide, envT i s3.length (s4.length + 1) (s4.length + 2) cnt p hol (some (.int part)) none none none none none none none none, rfl, ?_⟩
  unfold envT
  simp only [wp_cons, wp_nil, wp_asg, wp_expr, wp_retS, wp_retN, wp_iteS, wp_pass, wp_brk, wp_cont, wp_setIx, wp_augX, wp_asgT, wp_for, wp_varX, wp_cst, wp_bin, wp_cmp, wp_cmpT, wp_chainT, wp_andT, wp_orT, wp_notT, wp_iteE, wp_idx, wp_sl, wp_call, wp_callK, wp_call0, wp_globX, wp_dictX, wp_bi, wp_tup, wp_lst, wp_dict0, wp_meth, wp_lc, wp_evs_nil, wp_evs_cons, wp_evo_none, wp_evo_some, wp_seq, wp_enum, wp_rng1, wp_rng2, wp_idxT, wp_varT, wp_callT, wp_callKT, wp_biT, x_truB, tsto_none, tsto_some,
  seqQ_nx, seqQ_ret, seqQ_bk, seqQ_ct, endQ_ret, endQ_nx, varQ_some, lstQ_some, dctQ_some, optQ_some, blQ_bl, inQ_int, rgQ_int, rg2Q_int,
  x_eqSS, x_eqII, x_neSS, x_neII, str_we, str_ew, decide_true, decide_false, if_true, if_false, Bool.false_eq_true, reduceIte, x_addI, x_addT, x_addS, x_addL, x_subI, x_mulI, x_divI, x_modI, x_powI, x_ltI, x_leI, x_gtI, x_geI, x_is, x_isnot, x_isB, x_isNB, x_ixT, x_ixF, x_abs, x_lenT, x_lenF, x_intI, x_intB, x_max2, x_min2, x_seqT, x_seqF, x_slT, x_slF,
  List.map_cons, List.map_nil, List.length_cons, List.length_nil, List.cons_append, List.nil_append, List.replicate_succ, List.replicate_zero, Nat.reduceSub, Nat.reduceAdd, List.set_cons_zero, List.set_cons_succ, List.getElem?_cons_zero, List.getElem?_cons_succ, Nat.add_zero, Nat.zero_add, Nat.sub_self, decide_eq_true_eq]
  refine ⟨rng_small hc (by omega), ?_⟩
  unfold rngI
  refine wp_loopF_map (gd := []) (fun k : Nat => D.int (0 + (k : Int))) (List.range (cnt - 0).toNat) (fun P env s' => ∃ f5 f9 f10 f11 f12 f13 f14 f15 L kvs p', env = envT i s3.length (s4.length + 1) (s4.length + 2) cnt p' hol (some (.int part)) f5 f9 f10 f11 f12 f13 f14 f15 ∧
      LSt i s3.length (s4.length + 1) (s4.length + 2) (ks.map D.str) (L.map entD) kvs (n + 3 + 10 * P.length) s' ∧ L.length = P.length ∧ Made L p' ∧ 0 ≤ p' ∧ p' ≤ 4 + 6 * P.length ∧ LastK kvs P.length ∧ Kp [i, s4.length + 1, s4.length + 2] s5 s') ?_ ?_
      ⟨none, none, none, none, none, none, none, none, [], [], p, rfl, S5.mono (by simp), rfl, ⟨List.Pairwise.nil, fun _ he => (nomatch he), fun _ he => (nomatch he)⟩, p0, by simp; omega, ⟨fun _ hx => (nomatch hx), by simp, fun g => .inl rfl⟩, Kp.refl _ _⟩
  · rintro P a R env s' hL ⟨f5, f9, f10, f11, f12, f13, f14, f15, L, kvs, p', rfl, S6, hLl, hM, q0, q1, hK, K6⟩
    refine ⟨rfl, ?_⟩
    have hPl : P.length + 1 ≤ 100 := by
      have := congrArg List.length hL
      simp only [List.length_range, List.length_append, List.length_cons] at this
      omega
    rw [wp_forF (env1 := envT i s3.length (s4.length + 1) (s4.length + 2) cnt p' hol (some (.int part)) (some (.int (0 + (a : Int)))) f9 f10 f11 f12 f13 f14 f15) rfl]
    refine wp_mono (turn_wp bt dd S6 (by omega) hkl hk0 hk1 hM q0 (by omega) hK (by omega) (by omega)) fun fl s7 hT => ?_
    obtain ⟨g5, g9, g10, g11, g12, g13, g14, g15, L', kvs', p2, rfl, S7, hl7, hM7, q2, q3, hK7, K7⟩ := hT
    refine ⟨g5, g9, g10, g11, g12, g13, g14, g15, L', kvs', p2, rfl, S7.mono ?_, ?_, hM7, by omega, ?_, ?_, K6.trans K7⟩
    · simp only [List.length_append, List.length_cons, List.length_nil]; omega
    · simp only [List.length_append, List.length_cons, List.length_nil]; omega
    · simp only [List.length_append, List.length_cons, List.length_nil]; omega
    · have : ((P ++ [a]).length : Int) = (P.length : Int) + 1 := by simp
      rw [this]
      exact hK7
  · rintro env s' ⟨f5, f9, f10, f11, f12, f13, f14, f15, L, kvs, p', rfl, S6, hLl, hM, q0, q1, hK, K6⟩
    refine ⟨rfl, ?_⟩
    simp only [List.length_range] at hLl q1 S6
    unfold envT
    simp only [wp_cons, wp_nil, wp_asg, wp_expr, wp_retS, wp_retN, wp_iteS, wp_pass, wp_brk, wp_cont, wp_setIx, wp_augX, wp_asgT, wp_for, wp_varX, wp_cst, wp_bin, wp_cmp, wp_cmpT, wp_chainT, wp_andT, wp_orT, wp_notT, wp_iteE, wp_idx, wp_sl, wp_call, wp_callK, wp_call0, wp_globX, wp_dictX, wp_bi, wp_tup, wp_lst, wp_dict0, wp_meth, wp_lc, wp_evs_nil, wp_evs_cons, wp_evo_none, wp_evo_some, wp_seq, wp_enum, wp_rng1, wp_rng2, wp_idxT, wp_varT, wp_callT, wp_callKT, wp_biT, x_truB, tsto_none, tsto_some,
  seqQ_nx, seqQ_ret, seqQ_bk, seqQ_ct, endQ_ret, endQ_nx, varQ_some, lstQ_some, dctQ_some, optQ_some, blQ_bl, inQ_int, rgQ_int, rg2Q_int,
  x_eqSS, x_eqII, x_neSS, x_neII, str_we, str_ew, decide_true, decide_false, if_true, if_false, Bool.false_eq_true, reduceIte, x_addI, x_addT, x_addS, x_addL, x_subI, x_mulI, x_divI, x_modI, x_powI, x_ltI, x_leI, x_gtI, x_geI, x_is, x_isnot, x_isB, x_isNB, x_ixT, x_ixF, x_abs, x_lenT, x_lenF, x_intI, x_intB, x_max2, x_min2, x_seqT, x_seqF, x_slT, x_slF,
  List.map_cons, List.map_nil, List.length_cons, List.length_nil, List.cons_append, List.nil_append, List.replicate_succ, List.replicate_zero, Nat.reduceSub, Nat.reduceAdd, List.set_cons_zero, List.set_cons_succ, List.getElem?_cons_zero, List.getElem?_cons_succ, Nat.add_zero, Nat.zero_add, Nat.sub_self, decide_eq_true_eq]
    rw [x_tupL S6.f7]
    refine q L s' ⟨hM.srt, hM.rc, fun e he => ⟨(hM.pl e he).1, by have := (hM.pl e he).2; omega⟩⟩ (by omega) (S6.hand.mono (by omega)) (Q5.fresh K6 (by omega) (by omega))
end W9

/-! W9S: ends of a log; data that are shown -/
namespace W9
open PySem L2
theorem wp_neg {C : Cts} {a : Ex} {env : Env} {QD : D → Store → Prop} {st : Store} : wp ((bo C (.neg a)).1 env) QD st ↔ wp ((bo C a).1 env) (fun x s => wp (negD x) QD s) st := by
  conv => lhs; unfold bo
  simp only [wp_bind]
theorem x_neg {i : Int} {QD : D → Store → Prop} {st : Store} : wp (negD (.int i)) QD st ↔ QD (.int (-i)) st := wp_ok rfl
def optP : Option Int → PyData
  | none => .none
  | some i => .int i
def recP : Rec → PyData
  | .word g n dl k t tm => .tuple [.str "word", .str g, .int n, optP dl, .str k, .str t, .int tm]
  | .fin g dl b => .tuple [.str "end", .str g, .int dl, .bool b]
def entP (e : Ent) : PyData := .tuple [.int e.1, recP e.2]
theorem py_rec (f : Nat → Option PyData) (r : Rec) : pyG f (recD r) = some (recP r) := by
  cases r with
  | word g n dl k t tm => cases dl <;> rfl
  | fin g dl b => rfl
theorem py_ent (f : Nat → Option PyData) (e : Ent) : pyG f (entD e) = some (entP e) := by
  unfold entD entP
  simp only [pyG, pyGs, py_rec]
theorem py_map {α : Type} (f : Nat → Option PyData) (d : α → D) (p : α → PyData) (h : ∀ a, pyG f (d a) = some (p a)) : ∀ L : List α, pyGs f (L.map d) = some (L.map p)
  | [] => rfl
  | a :: L => by simp only [List.map_cons, pyGs, h a, py_map f d p h L]
theorem py_log (st : Store) (L : List Ent) : pyD st (logT L) = some (.tuple (L.map entP)) := by
  unfold pyD logT
  simp only [pyG, py_map _ entD entP (py_ent _) L]
theorem lay_map {α : Type} (p : α → PyData) : ∀ L : List α, (∀ a ∈ L, (p a).canLay0 = true) → PyData.canLayAll0 (L.map p) = true
  | [], _ => rfl
  | a :: L, h => by
    simp only [List.map_cons, PyData.canLayAll0, h a List.mem_cons_self, lay_map p L fun b hb => h b (List.mem_cons_of_mem _ hb), Bool.and_self]
theorem show_map {α : Type} (p : α → PyData) : ∀ L : List α, (∀ a ∈ L, (p a).showable = true) → PyData.showableAll (L.map p) = true
  | [], _ => rfl
  | a :: L, h => by
    simp only [List.map_cons, PyData.showableAll, h a List.mem_cons_self, show_map p L fun b hb => h b (List.mem_cons_of_mem _ hb), Bool.and_self]
theorem depth_map {α : Type} (p : α → PyData) (n : Nat) : ∀ L : List α, (∀ a ∈ L, (p a).depth ≤ n) → PyData.depthAll (L.map p) ≤ n
  | [], _ => Nat.zero_le _
  | a :: L, h => by
    simp only [List.map_cons, PyData.depthAll]
    exact Nat.max_le.mpr ⟨h a List.mem_cons_self, depth_map p n L fun b hb => h b (List.mem_cons_of_mem _ hb)⟩
theorem rsz_map {α : Type} (p : α → PyData) (n : Nat) : ∀ L : List α, (∀ a ∈ L, rsz (p a) ≤ n) → rszs (L.map p) ≤ (n + 2) * L.length
  | [], _ => Nat.zero_le _
  | a :: L, h => by
    simp only [List.map_cons, rszs, List.length_cons]
    have h1 := h a List.mem_cons_self
    have h2 := rsz_map p n L fun b hb => h b (List.mem_cons_of_mem _ hb)
    rw [Nat.mul_add]
    omega
theorem giv_ok : ∀ z ∈ givS, PyData.strOk z = true ∧ z ≠ "book" := by decide +kernel
theorem tex_ok : ∀ z ∈ texS, PyData.strOk z = true ∧ z.length ≤ 10 := by decide +kernel
theorem Made.wf {L : List Ent} {t : Int} (h : Made L t) : Wf L := by
  intro e he
  have := h.rc e he
  cases hr : e.2 with
  | word g n dl k t tm => rw [hr] at this; exact (giv_ok g this.1).2
  | fin g d b => rw [hr] at this; exact (giv_ok g this.1).2
theorem Made.wfs {L : List Ent} {t : Int} (h : Made L t) : WfS L := by
  intro e he
  have := h.rc e he
  cases hr : e.2 with
  | word g n dl k t tm => rw [hr] at this; exact (giv_ok g this.1).1
  | fin g d b => rw [hr] at this; exact (giv_ok g this.1).1
theorem ent_lay {e : Ent} (h : GoodR e.2) : (entP e).canLay0 = true := by
  obtain ⟨p, r⟩ := e
  cases r with
  | word g n dl k t tm =>
    have h1 := (giv_ok g h.1).1
    have h2 := (lot_ok k h.2.2.2.1).2.2.1
    have h3 := (tex_ok t h.2.2.2.2.1).1
    cases dl <;> simp only [entP, recP, optP, PyData.canLay0, PyData.canLayAll0, h1, h2, h3, ok_word, Bool.and_self, Bool.and_true]
  | fin g d b =>
    have h1 := (giv_ok g h.1).1
    simp only [entP, recP, PyData.canLay0, PyData.canLayAll0, h1, ok_end, Bool.and_self, Bool.and_true]
theorem ent_depth (e : Ent) : (entP e).depth ≤ 10 := by
  obtain ⟨p, r⟩ := e
  cases r with
  | word g n dl k t tm => cases dl <;> simp [entP, recP, optP, PyData.depth, PyData.depthAll]
  | fin g d b => simp [entP, recP, PyData.depth, PyData.depthAll]
theorem log_shaped {L : List Ent} {t : Int} (h : Made L t) : SeqAt.shaped (.tuple (L.map entP)) = true := by
  have h1 := lay_map entP L fun a ha => ent_lay (h.rc a ha)
  have h2 := depth_map entP 10 L fun a _ => ent_depth a
  have h3 : (PyData.tuple (L.map entP)).depth ≤ 64 := by
    simp only [PyData.depth]
    omega
  have h4 : (PyData.tuple (L.map entP)).canLay0 = true := by simp only [PyData.canLay0]; exact h1
  unfold SeqAt.shaped
  rw [h4, decide_eq_true h3]
  rfl
theorem ne_empty {L : List Ent} {t : Int} {QD : D → Store → Prop} {st : Store} (h : Made L t) : wp (cmpD .NotEq (logT L) (.tup [])) QD st ↔ QD (.bl (!L.isEmpty)) st := by
  rw [x_neP (p := .tuple (L.map entP)) (q := .tuple []) rfl (py_log st L) rfl (log_shaped h) rfl]
  cases L with
  | nil => simp [PyData.eqv, PyData.eqvAll]
  | cons a L => simp [PyData.eqv, PyData.eqvAll]
def ends_b : Sms :=
  (.cons (.asg 1 (.ite (.cmp .NotEq (.var 0) (.tup .nil)) (.bin .Add (.idx (.idx (.var 0) (.neg (.cst (.int 1)))) (.cst (.int 0))) (.cst (.int 1))) (.cst (.int 0))))
    (.cons (.ret (.lst (.cons (.cst (.int 0)) (.cons (.var 1) (.cons (.bin .Add (.var 1) (.cst (.int 3))) .nil)))))
    .nil))
theorem at_last {α : Type} {xs : List α} (h : xs ≠ []) : ∃ x ∈ xs, atI xs (-1) = some x := by
  have hl : 0 < xs.length := List.length_pos_iff.mpr h
  have hi : xs.length - 1 < xs.length := by omega
  refine ⟨xs[xs.length - 1], List.getElem_mem hi, ?_⟩
  unfold atI ixN
  rw [if_neg (by decide), if_pos (by omega)]
  have : ((-1 : Int) + (xs.length : Int)).toNat = xs.length - 1 := by omega
  simp only [this, Option.bind_some]
  exact List.getElem?_eq_getElem hi
theorem ends_wp {C : Cts} {L : List Ent} {st : Store} {QD : D → Store → Prop} (h : Made L 1000) (q : ∀ a, 0 ≤ a → a ≤ 1000 → QD (.ob st.length) (st ++ [.lst [.int 0, .int a, .int (a + 3)]])) : wp (callDef C 2 ends_b [logT L]) QD st := by
  unfold ends_b
  simp only [wp_callDef, wp_cons, wp_nil, wp_asg, wp_expr, wp_retS, wp_retN, wp_iteS, wp_pass, wp_brk, wp_cont, wp_setIx, wp_augX, wp_asgT, wp_for, wp_varX, wp_cst, wp_bin, wp_cmp, wp_cmpT, wp_chainT, wp_andT, wp_orT, wp_notT, wp_iteE, wp_idx, wp_sl, wp_call, wp_callK, wp_call0, wp_globX, wp_dictX, wp_bi, wp_tup, wp_lst, wp_dict0, wp_meth, wp_lc, wp_evs_nil, wp_evs_cons, wp_evo_none, wp_evo_some, wp_seq, wp_enum, wp_rng1, wp_rng2, wp_idxT, wp_varT, wp_callT, wp_callKT, wp_biT, x_truB, tsto_none, tsto_some,
  seqQ_nx, seqQ_ret, seqQ_bk, seqQ_ct, endQ_ret, endQ_nx, varQ_some, lstQ_some, dctQ_some, optQ_some, blQ_bl, inQ_int, rgQ_int, rg2Q_int,
  x_eqSS, x_eqII, x_neSS, x_neII, str_we, str_ew, decide_true, decide_false, if_true, if_false, Bool.false_eq_true, reduceIte, x_addI, x_addT, x_addS, x_addL, x_subI, x_mulI, x_divI, x_modI, x_powI, x_ltI, x_leI, x_gtI, x_geI, x_is, x_isnot, x_isB, x_isNB, x_ixT, x_ixF, x_abs, x_lenT, x_lenF, x_intI, x_intB, x_max2, x_min2, x_seqT, x_seqF, x_slT, x_slF,
  List.map_cons, List.map_nil, List.length_cons, List.length_nil, List.cons_append, List.nil_append, List.replicate_succ, List.replicate_zero, Nat.reduceSub, Nat.reduceAdd, List.set_cons_zero, List.set_cons_succ, List.getElem?_cons_zero, List.getElem?_cons_succ, Nat.add_zero, Nat.zero_add, Nat.sub_self, decide_eq_true_eq, ne_empty h, wp_neg, x_neg]
  by_cases hL : L = []
  · subst hL
    simp only [List.isEmpty_nil, Bool.not_true, Bool.false_eq_true, if_false]
    refine ⟨by decide, by decide, q 0 (by decide) (by decide)⟩
  · have he : L.isEmpty = false := by cases L <;> first | rfl | exact absurd rfl hL
    simp only [he, Bool.not_false, if_true]
    have hL' : L.map entD ≠ [] := by simpa using hL
    obtain ⟨x, hx, hat⟩ := at_last hL'
    obtain ⟨e, hem, rfl⟩ := List.mem_map.mp hx
    have hp := h.pl e hem
    rw [hat]
    unfold entD
    simp only [wp_callDef, wp_cons, wp_nil, wp_asg, wp_expr, wp_retS, wp_retN, wp_iteS, wp_pass, wp_brk, wp_cont, wp_setIx, wp_augX, wp_asgT, wp_for, wp_varX, wp_cst, wp_bin, wp_cmp, wp_cmpT, wp_chainT, wp_andT, wp_orT, wp_notT, wp_iteE, wp_idx, wp_sl, wp_call, wp_callK, wp_call0, wp_globX, wp_dictX, wp_bi, wp_tup, wp_lst, wp_dict0, wp_meth, wp_lc, wp_evs_nil, wp_evs_cons, wp_evo_none, wp_evo_some, wp_seq, wp_enum, wp_rng1, wp_rng2, wp_idxT, wp_varT, wp_callT, wp_callKT, wp_biT, x_truB, tsto_none, tsto_some,
  seqQ_nx, seqQ_ret, seqQ_bk, seqQ_ct, endQ_ret, endQ_nx, varQ_some, lstQ_some, dctQ_some, optQ_some, blQ_bl, inQ_int, rgQ_int, rg2Q_int,
  x_eqSS, x_eqII, x_neSS, x_neII, str_we, str_ew, decide_true, decide_false, if_true, if_false, Bool.false_eq_true, reduceIte, x_addI, x_addT, x_addS, x_addL, x_subI, x_mulI, x_divI, x_modI, x_powI, x_ltI, x_leI, x_gtI, x_geI, x_is, x_isnot, x_isB, x_isNB, x_ixT, x_ixF, x_abs, x_lenT, x_lenF, x_intI, x_intB, x_max2, x_min2, x_seqT, x_seqF, x_slT, x_slF,
  List.map_cons, List.map_nil, List.length_cons, List.length_nil, List.cons_append, List.nil_append, List.replicate_succ, List.replicate_zero, Nat.reduceSub, Nat.reduceAdd, List.set_cons_zero, List.set_cons_succ, List.getElem?_cons_zero, List.getElem?_cons_succ, Nat.add_zero, Nat.zero_add, Nat.sub_self, decide_eq_true_eq, atE]
    refine ⟨by decide, by decide, q (e.1 + 1) (by omega) (by omega)⟩
def visP (v : Int × Str × Str × Int) : PyData := .tuple [.int v.1, .str v.2.1, .str v.2.2.1, .int v.2.2.2]
theorem log2_small {i : Int} (h0 : 0 ≤ i) (h : i ≤ 1000000) : decide (i.natAbs.log2 < 1920) = true := by
  rw [decide_eq_true_eq]
  by_cases hz : i.natAbs = 0
  · rw [hz]; decide
  · have : i.natAbs < 2 ^ 30 := by have : (i.natAbs : Int) = i := Int.natAbs_of_nonneg h0; omega
    have := (Nat.log2_lt hz).mpr this
    omega
theorem vis_of {L : List Ent} {e : Int} {v : Int × Str × Str × Int} (h : Made L 1000) (hv : v ∈ visM L e) : 0 ≤ v.1 ∧ v.1 < 1000 ∧ v.2.1 ∈ lotS ∧ v.2.2.1 ∈ texS ∧ 0 ≤ v.2.2.2 ∧ v.2.2.2 < 1000 := by
  rw [visM_eq] at hv
  obtain ⟨a, ha, hv⟩ := List.mem_filterMap.mp hv
  have hp := h.pl a ha
  have hr := h.rc a ha
  split at hv
  · unfold visOf at hv
    obtain ⟨p, r⟩ := a
    cases r with
    | word g n dl k t tm =>
      cases dl with
      | none =>
        have hv' : some (p, k, t, tm) = some v := hv
        cases hv'
        exact ⟨hp.1, hp.2, hr.2.2.2.1, hr.2.2.2.2.1, hr.2.2.2.2.2.1, hr.2.2.2.2.2.2.1⟩
      | some d =>
        dsimp only at hv
        split at hv
        · cases hv
          exact ⟨hp.1, hp.2, hr.2.2.2.1, hr.2.2.2.2.1, hr.2.2.2.2.2.1, hr.2.2.2.2.2.2.1⟩
        · cases hv
    | fin g d b => cases hv
  · cases hv
theorem visM_len {L : List Ent} {e : Int} : (visM L e).length ≤ L.length := by
  rw [visM_eq]
  exact List.length_filterMap_le _ _
theorem repr_vis {L : List Ent} {e : Int} {QD : D → Store → Prop} {st : Store} (h : Made L 1000) (hl : L.length ≤ 1000) : wp (biD .repr [.tup ((visM L e).map visD)]) QD st ↔ QD (.str (PyData.tuple ((visM L e).map visP)).shown) st := by
  have hvl := visM_len (L := L) (e := e)
  refine x_repr ?_ ?_ ?_ ?_ ?_
  · unfold pyD
    simp only [pyG, py_map _ visD visP (fun a => rfl)]
  · simp only [PyData.canLay0]
    refine lay_map visP _ fun a ha => ?_
    obtain ⟨h1, h2, h3, h4, h5, h6⟩ := vis_of h ha
    simp only [visP, PyData.canLay0, PyData.canLayAll0, (lot_ok _ h3).2.2.1, (tex_ok _ h4).1, Bool.and_self]
  · simp only [PyData.showable]
    refine show_map visP _ fun a ha => ?_
    obtain ⟨h1, h2, h3, h4, h5, h6⟩ := vis_of h ha
    simp only [visP, PyData.showable, PyData.showableAll, log2_small h1 (by omega), log2_small h5 (by omega), Bool.and_self]
  · have := depth_map visP 10 (visM L e) fun a _ => by simp [visP, PyData.depth, PyData.depthAll]
    simp only [PyData.depth]
    omega
  · have := rsz_map visP 5000 (visM L e) fun a ha => by
      obtain ⟨h1, h2, h3, h4, h5, h6⟩ := vis_of h ha
      have a1 := (lot_ok _ h3).2.2.2
      have a2 := (tex_ok _ h4).2
      simp only [visP, rsz, rszs]
      omega
    simp only [rsz]
    have h3 : (5000 + 2) * (visM L e).length ≤ 5002 * 1000 := Nat.mul_le_mul (Nat.le_refl _) (by omega)
    have : bigN = 16777216 := rfl
    omega
theorem repr_int {i : Int} {QD : D → Store → Prop} {st : Store} (h0 : 0 ≤ i) (h1 : i ≤ 1000000) : wp (biD .repr [.int i]) QD st ↔ QD (.str (PyData.int i).shown) st :=
  x_repr rfl rfl (log2_small h0 h1) (Nat.zero_le _) (show 1921 ≤ bigN by decide)
theorem settled_ge {L : List Ent} {e : Int} (h : Made L 1000) (he : 0 ≤ e) : 0 ≤ settledM L e := by
  unfold settledM stopM
  cases hf : (cutE L e).find? (openW (fstEnd (cutE L e))) with
  | none => exact he
  | some a => exact (h.pl a (List.mem_filter.mp (List.mem_of_find?_eq_some hf)).1).1
end W9

/-! W9T: data that may be shown -/
namespace W9
open PySem L2
mutual
def toPy : D → PyData
  | .non => .none
  | .bl b => .bool b
  | .int i => .int i
  | .str s => .str s
  | .tup xs => .tuple (toPys xs)
  | .fls xs => .list (toPys xs)
  | .ob _ => .none
def toPys : List D → List PyData
  | [] => []
  | x :: xs => toPy x :: toPys xs
end
theorem toPys_map : ∀ xs : List D, toPys xs = xs.map toPy
  | [] => rfl
  | x :: xs => by simp only [toPys, List.map_cons, toPys_map xs]
/-- data that may be shown: its text has at most n signs, it is k deep -/
structure RpN (n k : Nat) (d : D) : Prop where
  py : ∀ f, pyG f d = some (toPy d)
  lay : (toPy d).canLay0 = true
  sh : (toPy d).showable = true
  sz : rsz (toPy d) ≤ n
  dp : (toPy d).depth ≤ k
section
variable {n k : Nat}
theorem RpN.mono {n' k' : Nat} {d : D} (h : RpN n k d) (h1 : n ≤ n') (h2 : k ≤ k') : RpN n' k' d := ⟨h.py, h.lay, h.sh, Nat.le_trans h.sz h1, Nat.le_trans h.dp h2⟩
theorem RpN.non : RpN 4 0 .non := ⟨fun _ => rfl, rfl, rfl, Nat.le_refl _, Nat.le_refl _⟩
theorem RpN.bl (b : Bool) : RpN 5 0 (.bl b) := ⟨fun _ => rfl, rfl, rfl, Nat.le_refl _, Nat.le_refl _⟩
theorem RpN.int {i : Int} (h : decide (i.natAbs.log2 < 1920) = true) : RpN 1921 0 (.int i) := ⟨fun _ => rfl, rfl, h, Nat.le_refl _, Nat.le_refl _⟩
theorem RpN.intS {i : Int} (h0 : 0 ≤ i) (h1 : i ≤ 1000000) : RpN 1921 0 (.int i) := RpN.int (log2_small h0 h1)
theorem RpN.str {s : Str} {m : Nat} (h : PyData.strOk s = true) (hl : s.length ≤ m) : RpN (10 * m + 2) 0 (.str s) := ⟨fun _ => rfl, h, rfl, by simp only [toPy, rsz]; omega, Nat.le_refl _⟩
theorem pyGs_toPys (f : Nat → Option PyData) : ∀ xs : List D, (∀ x ∈ xs, pyG f x = some (toPy x)) → pyGs f xs = some (toPys xs)
  | [], _ => rfl
  | x :: xs, h => by simp only [pyGs, toPys, h x List.mem_cons_self, pyGs_toPys f xs fun y hy => h y (List.mem_cons_of_mem _ hy)]
theorem RpN.tup {xs : List D} (h : ∀ x ∈ xs, RpN n k x) : RpN ((n + 2) * xs.length + 3) (k + 1) (.tup xs) := by
  refine ⟨fun f => ?_, ?_, ?_, ?_, ?_⟩
  · simp only [pyG, pyGs_toPys f xs fun x hx => (h x hx).py f, toPy]
  · simp only [toPy, PyData.canLay0, toPys_map]
    exact lay_map toPy xs fun x hx => (h x hx).lay
  · simp only [toPy, PyData.showable, toPys_map]
    exact show_map toPy xs fun x hx => (h x hx).sh
  · simp only [toPy, rsz, toPys_map]
    have := rsz_map toPy n xs fun x hx => (h x hx).sz
    omega
  · simp only [toPy, PyData.depth, toPys_map]
    have := depth_map toPy k xs fun x hx => (h x hx).dp
    omega
theorem x_reprD {QD : D → Store → Prop} {st : Store} {d : D} (h : RpN n k d) (hn : n ≤ bigN) (hk : k ≤ 60) : wp (biD .repr [d]) QD st ↔ QD (.str (toPy d).shown) st :=
  x_repr (h.py _) h.lay h.sh (Nat.le_trans h.dp hk) (Nat.le_trans h.sz hn)
theorem RpN.shaped {d : D} (h : RpN n k d) (hk : k ≤ 64) : SeqAt.shaped (toPy d) = true := by
  unfold SeqAt.shaped
  rw [h.lay, decide_eq_true (Nat.le_trans h.dp hk)]
  rfl
end
/-- a visible word -/
theorem rp_vis {L : List Ent} {e : Int} {v : Int × Str × Str × Int} (h : Made L 1000) (hv : v ∈ visM L e) : RpN 10000 1 (visD v) := by
  obtain ⟨h1, h2, h3, h4, h5, h6⟩ := vis_of h hv
  unfold visD
  refine (RpN.tup (n := 1921) (k := 0) fun x hx => ?_).mono (by simp) (by simp)
  simp only [List.mem_cons, List.not_mem_nil, or_false] at hx
  rcases hx with rfl | rfl | rfl | rfl
  · exact RpN.intS h1 (by omega)
  · exact (RpN.str (lot_ok _ h3).2.2.1 (lot_ok _ h3).2.2.2).mono (by omega) (Nat.le_refl _)
  · exact (RpN.str (tex_ok _ h4).1 (tex_ok _ h4).2).mono (by omega) (Nat.le_refl _)
  · exact RpN.intS h5 (by omega)
/-! ### slices from the beginning -/
theorem cut_take {α : Type} (l : List α) {m : Int} (h : 0 ≤ m) : cutL l none (some m) = l.take m.toNat := by
  unfold cutL
  simp only [HT.sIx, List.drop_zero, Nat.sub_zero]
  rw [if_neg (by omega)]
  by_cases hl : m.toNat ≤ l.length
  · rw [Nat.min_eq_left hl]
  · rw [Nat.min_eq_right (by omega), List.take_of_length_le (by omega), List.take_of_length_le (by omega)]
theorem at_lastE {α : Type} {xs : List α} : atI xs (-1) = xs.getLast? := by
  cases xs with
  | nil => rfl
  | cons x xs =>
    unfold atI ixN
    rw [if_neg (by decide), if_pos (by simp only [List.length_cons]; omega)]
    simp only [Option.bind_some, List.getLast?_eq_getElem?]
    congr 1
    simp
    omega
/-! ### a comprehension that keeps some -/
theorem comp_filter {α : Type} {C : Cts} {env : Env} {V : List α} {f : α → D} {i : Nat} {p : α → Bool} {st : Store} {gd : List (Nat × List D)} (hg : gdOk st gd = true) (t : Exo) (hi : i < env.length) (ht : ∀ v ∈ V, wp (tsto C t (env.set i (some (f v)))) (fun b s => b = p v ∧ s = st) st) :
    wp (loopC gd (compF (.name i) [i] env (tsto C t) (bo C (.var i)).1) (V.map f)) (fun ds s => ds = (V.filter p).map f ∧ s = st) st := by
  refine wp_loopC_map (st := st) (gd := gd) f f p hg V (fun v hv => ?_)
  have hb : bindT (.name i) (f v) (wipeE env [i]) st = some (env.set i (some (f v))) := by simp [bindT, wipeE]
  rw [wp_compF hb]
  refine wp_mono (ht v hv) fun b s ⟨h1, h2⟩ => ?_
  subst h1 h2
  have hv2 : (env.set i (some (f v)))[i]? = some (some (f v)) := by simp [hi]
  cases h : p v <;> simp [wp_varX, hv2, varQ_some]
end W9

/-! W9U: last_of, read_from -/
namespace W9
open PySem L2
/-- what a table tells of visible and settled -/
def VisC (C : Cts) (fv : Str) (L : List Ent) (e : Int) : Prop := ∀ (st : Store) (Q : D → Store → Prop), (∀ s, Kp [] st s → Q (.tup ((visM L e).map visD)) s) → wp (C.fn fv [logT L, .int e]) Q st
def SetC (C : Cts) (fs : Str) (L : List Ent) (e : Int) : Prop := ∀ (st : Store) (Q : D → Store → Prop), (∀ s, Kp [] st s → Q (.int (settledM L e)) s) → wp (C.fn fs [logT L, .int e]) Q st
def read_b (op : CmpOp) (fv fs : Str) : Sms :=
  (.cons (.asg 4 (.sl (.lc [5] (.seq (.call fv (.cons (.var 0) (.cons (.var 1) .nil)))) (.name 5) (.some (.cmp .GtE (.idx (.var 5) (.cst (.int 0))) (.var 2))) (.var 5)) .none (.some (.var 3))))
    (.cons (.ite (.cmp op (.bi .len (.cons (.var 4) .nil)) (.var 3))
    (.cons (.ret (.tup (.cons (.bi .tuple (.cons (.var 4) .nil)) (.cons (.bin .Add (.idx (.idx (.var 4) (.neg (.cst (.int 1)))) (.cst (.int 0))) (.cst (.int 1))) .nil))))
    .nil)
    .nil)
    (.cons (.ret (.tup (.cons (.bi .tuple (.cons (.var 4) .nil)) (.cons (.bi .max (.cons (.var 2) (.cons (.call fs (.cons (.var 0) (.cons (.var 1) .nil))) .nil))) .nil))))
    .nil)))
abbrev Vis := Int × Str × Str × Int
def fromM (L : List Ent) (e p : Int) : List Vis := (visM L e).filter fun v => decide (p ≤ v.1)
def readW (L : List Ent) (e p m : Int) : List Vis := (fromM L e p).take m.toNat
def readN (L : List Ent) (e p m : Int) : Int := if ((readW L e p m).length : Int) = m then (((readW L e p m).getLast?).map (·.1)).getD 0 + 1 else max p (settledM L e)
def readM (L : List Ent) (e p m : Int) : D := .tup [.tup ((readW L e p m).map visD), .int (readN L e p m)]
theorem at0 {v : Vis} : atI [D.int v.1, .str v.2.1, .str v.2.2.1, .int v.2.2.2] 0 = some (.int v.1) := rfl
theorem at1 {v : Vis} : atI [D.int v.1, .str v.2.1, .str v.2.2.1, .int v.2.2.2] 1 = some (.str v.2.1) := rfl
theorem imax {a b : Int} : (if b > a then b else a) = max a b := by split <;> omega
theorem vis_from {C : Cts} {env : Env} {V : List Vis} {i : Nat} {p : Int} {st : Store} (t : Ex) (hp : ∀ v : Vis, wp ((bo C t).1 (env.set i (some (visD v)))) (fun d s => d = .int p ∧ s = st) st) (hi : i < env.length) :
    wp (loopC [] (compF (.name i) [i] env (tsto C (.some (.cmp .GtE (.idx (.var i) (.cst (.int 0))) t))) (bo C (.var i)).1) (V.map visD)) (fun ds s => ds = (V.filter fun v => decide (p ≤ v.1)).map visD ∧ s = st) st := by
  refine wp_loopC_map (st := st) (gd := []) visD visD (fun v => decide (p ≤ v.1)) rfl V (fun v _ => ?_)
  have hb : bindT (.name i) (visD v) (wipeE env [i]) st = some (env.set i (some (visD v))) := by simp [bindT, wipeE]
  rw [wp_compF hb, tsto_some, wp_cmpT, wp_cmp, wp_idx, wp_varX]
  have hv : (env.set i (some (visD v)))[i]? = some (some (visD v)) := by simp [hi]
  rw [hv, varQ_some, wp_cst]
  unfold visD
  rw [x_ixT, at0, optQ_some]
  refine wp_mono (hp v) fun d s ⟨h1, h2⟩ => ?_
  subst h1 h2
  rw [x_geI, blQ_bl]
  have hv2 : (env.set i (some (D.tup [D.int v.1, .str v.2.1, .str v.2.2.1, .int v.2.2.2])))[i]? = some (some (D.tup [D.int v.1, .str v.2.1, .str v.2.2.1, .int v.2.2.2])) := by simp [hi]
  by_cases h : p ≤ v.1
  · simp [h, wp_varX, hv2, varQ_some, hi]
  · simp [h]
theorem fromM_len {L : List Ent} {e p : Int} : (fromM L e p).length ≤ L.length := Nat.le_trans (List.length_filter_le _ _) visM_len
theorem readW_len {L : List Ent} {e p m : Int} : (readW L e p m).length ≤ L.length := by
  unfold readW
  rw [List.length_take]
  have := fromM_len (L := L) (e := e) (p := p)
  omega
theorem read_wp {C : Cts} {fv fs : Str} {op : CmpOp} (hop : op = .Eq ∨ op = .GtE) {L : List Ent} {e p m : Int} {st : Store} {QD : D → Store → Prop} (hv : VisC C fv L e) (hs : SetC C fs L e) (hl : L.length < bigN) (hm : 1 ≤ m)
    (q : ∀ s, Kp [] st s → QD (readM L e p m) s) : wp (callDef C 6 (read_b op fv fs) [logT L, .int e, .int p, .int m]) QD st := by
  unfold read_b
  rw [wp_callDef]
  simp only [wp_cons, wp_nil, wp_asg, wp_expr, wp_retS, wp_retN, wp_iteS, wp_pass, wp_brk, wp_cont, wp_setIx, wp_augX, wp_asgT, wp_for, wp_varX, wp_cst, wp_bin, wp_cmp, wp_cmpT, wp_chainT, wp_andT, wp_orT, wp_notT, wp_iteE, wp_idx, wp_sl, wp_call, wp_callK, wp_call0, wp_globX, wp_dictX, wp_bi, wp_tup, wp_lst, wp_dict0, wp_meth, wp_lc, wp_evs_nil, wp_evs_cons, wp_evo_none, wp_evo_some, wp_seq, wp_enum, wp_rng1, wp_rng2, wp_idxT, wp_varT, wp_callT, wp_callKT, wp_biT, x_truB, tsto_none, tsto_some,
  seqQ_nx, seqQ_ret, seqQ_bk, seqQ_ct, endQ_ret, endQ_nx, varQ_some, lstQ_some, dctQ_some, optQ_some, blQ_bl, inQ_int, rgQ_int, rg2Q_int,
  x_eqSS, x_eqII, x_neSS, x_neII, str_we, str_ew, decide_true, decide_false, if_true, if_false, Bool.false_eq_true, reduceIte, x_addI, x_addT, x_addS, x_addL, x_subI, x_mulI, x_divI, x_modI, x_powI, x_ltI, x_leI, x_gtI, x_geI, x_is, x_isnot, x_isB, x_isNB, x_ixT, x_ixF, x_abs, x_lenT, x_lenF, x_intI, x_intB, x_max2, x_min2, x_seqT, x_seqF, x_slT, x_slF,
  List.map_cons, List.map_nil, List.length_cons, List.length_nil, List.cons_append, List.nil_append, List.replicate_succ, List.replicate_zero, Nat.reduceSub, Nat.reduceAdd, List.set_cons_zero, List.set_cons_succ, List.getElem?_cons_zero, List.getElem?_cons_succ, Nat.add_zero, Nat.zero_add, Nat.sub_self, decide_eq_true_eq]
  refine hv st _ fun s1 K1 => ?_
  rw [x_seqT]
  refine wp_mono (vis_from (V := visM L e) (st := s1) (p := p) (i := 5) (.var 2) (fun v => by rw [wp_varX]; exact ⟨rfl, rfl⟩) (by simp)) fun ds s ⟨h1, h2⟩ => ?_
  subst h1 h2
  have hfl := fromM_len (L := L) (e := e) (p := p)
  refine ⟨by rw [List.length_map]; unfold fromM at hfl; omega, ?_⟩
  have hat : (s ++ [Ob.lst ((fromM L e p).map visD)])[s.length]? = some (.lst ((fromM L e p).map visD)) := by simp
  rw [show (visM L e).filter (fun v => decide (p ≤ v.1)) = fromM L e p from rfl]
  rw [x_slL hat, cut_map, cut_take _ (by omega)]
  have hW : (fromM L e p).take m.toNat = readW L e p m := rfl
  rw [hW]
  have hat2 : (s ++ [Ob.lst ((fromM L e p).map visD)] ++ [Ob.lst ((readW L e p m).map visD)])[(s ++ [Ob.lst ((fromM L e p).map visD)]).length]? = some (.lst ((readW L e p m).map visD)) := by simp
  have K2 : Kp [] st (s ++ [Ob.lst ((fromM L e p).map visD)] ++ [Ob.lst ((readW L e p m).map visD)]) := (K1.trans (Kp.app _ _ _)).trans (Kp.app _ _ _)
  generalize (s ++ [Ob.lst ((fromM L e p).map visD)] ++ [Ob.lst ((readW L e p m).map visD)]) = s2 at hat2 K2 ⊢
  generalize (s ++ [Ob.lst ((fromM L e p).map visD)]).length = j at hat2 ⊢
  rw [x_lenL hat2, List.length_map]
  have hle : ((readW L e p m).length : Int) ≤ m := by
    unfold readW
    rw [List.length_take]
    omega
  have hc : wp (cmpD op (.int ((readW L e p m).length : Int)) (.int m)) = wp (cmpD .Eq (.int ((readW L e p m).length : Int)) (.int m)) := by
    rcases hop with rfl | rfl
    · rfl
    · funext Q s
      apply propext
      rw [x_geI, x_eqII]
      have : decide (((readW L e p m).length : Int) ≥ m) = decide (((readW L e p m).length : Int) = m) := by
        rw [decide_eq_decide]; omega
      rw [this]
  rw [hc, x_eqII, blQ_bl]
  by_cases h : ((readW L e p m).length : Int) = m
  · have hN : readN L e p m = (((readW L e p m).getLast?).map (·.1)).getD 0 + 1 := by unfold readN; rw [if_pos h]
    have hne : readW L e p m ≠ [] := by
      intro z
      rw [z] at h
      simp at h
      omega
    obtain ⟨v, hvm, hvl⟩ : ∃ v ∈ readW L e p m, (readW L e p m).getLast? = some v := ⟨_, List.getLast_mem hne, List.getLast?_eq_some_getLast hne⟩
    rw [decide_eq_true h]
    simp only [wp_cons, wp_nil, wp_asg, wp_expr, wp_retS, wp_retN, wp_iteS, wp_pass, wp_brk, wp_cont, wp_setIx, wp_augX, wp_asgT, wp_for, wp_varX, wp_cst, wp_bin, wp_cmp, wp_cmpT, wp_chainT, wp_andT, wp_orT, wp_notT, wp_iteE, wp_idx, wp_sl, wp_call, wp_callK, wp_call0, wp_globX, wp_dictX, wp_bi, wp_tup, wp_lst, wp_dict0, wp_meth, wp_lc, wp_evs_nil, wp_evs_cons, wp_evo_none, wp_evo_some, wp_seq, wp_enum, wp_rng1, wp_rng2, wp_idxT, wp_varT, wp_callT, wp_callKT, wp_biT, x_truB, tsto_none, tsto_some,
  seqQ_nx, seqQ_ret, seqQ_bk, seqQ_ct, endQ_ret, endQ_nx, varQ_some, lstQ_some, dctQ_some, optQ_some, blQ_bl, inQ_int, rgQ_int, rg2Q_int,
  x_eqSS, x_eqII, x_neSS, x_neII, str_we, str_ew, decide_true, decide_false, if_true, if_false, Bool.false_eq_true, reduceIte, x_addI, x_addT, x_addS, x_addL, x_subI, x_mulI, x_divI, x_modI, x_powI, x_ltI, x_leI, x_gtI, x_geI, x_is, x_isnot, x_isB, x_isNB, x_ixT, x_ixF, x_abs, x_lenT, x_lenF, x_intI, x_intB, x_max2, x_min2, x_seqT, x_seqF, x_slT, x_slF,
  List.map_cons, List.map_nil, List.length_cons, List.length_nil, List.cons_append, List.nil_append, List.replicate_succ, List.replicate_zero, Nat.reduceSub, Nat.reduceAdd, List.set_cons_zero, List.set_cons_succ, List.getElem?_cons_zero, List.getElem?_cons_succ, Nat.add_zero, Nat.zero_add, Nat.sub_self, decide_eq_true_eq]
    rw [x_tupL hat2, wp_neg, wp_cst, x_neg, x_ixL hat2, at_lastE, List.getLast?_map, hvl]
    simp only [Option.map_some, optQ_some]
    unfold visD
    simp only [wp_cons, wp_nil, wp_asg, wp_expr, wp_retS, wp_retN, wp_iteS, wp_pass, wp_brk, wp_cont, wp_setIx, wp_augX, wp_asgT, wp_for, wp_varX, wp_cst, wp_bin, wp_cmp, wp_cmpT, wp_chainT, wp_andT, wp_orT, wp_notT, wp_iteE, wp_idx, wp_sl, wp_call, wp_callK, wp_call0, wp_globX, wp_dictX, wp_bi, wp_tup, wp_lst, wp_dict0, wp_meth, wp_lc, wp_evs_nil, wp_evs_cons, wp_evo_none, wp_evo_some, wp_seq, wp_enum, wp_rng1, wp_rng2, wp_idxT, wp_varT, wp_callT, wp_callKT, wp_biT, x_truB, tsto_none, tsto_some,
  seqQ_nx, seqQ_ret, seqQ_bk, seqQ_ct, endQ_ret, endQ_nx, varQ_some, lstQ_some, dctQ_some, optQ_some, blQ_bl, inQ_int, rgQ_int, rg2Q_int,
  x_eqSS, x_eqII, x_neSS, x_neII, str_we, str_ew, decide_true, decide_false, if_true, if_false, Bool.false_eq_true, reduceIte, x_addI, x_addT, x_addS, x_addL, x_subI, x_mulI, x_divI, x_modI, x_powI, x_ltI, x_leI, x_gtI, x_geI, x_is, x_isnot, x_isB, x_isNB, x_ixT, x_ixF, x_abs, x_lenT, x_lenF, x_intI, x_intB, x_max2, x_min2, x_seqT, x_seqF, x_slT, x_slF,
  List.map_cons, List.map_nil, List.length_cons, List.length_nil, List.cons_append, List.nil_append, List.replicate_succ, List.replicate_zero, Nat.reduceSub, Nat.reduceAdd, List.set_cons_zero, List.set_cons_succ, List.getElem?_cons_zero, List.getElem?_cons_succ, Nat.add_zero, Nat.zero_add, Nat.sub_self, decide_eq_true_eq, at0]
    refine ⟨by decide, ?_⟩
    have : readM L e p m = .tup [.tup ((readW L e p m).map visD), .int (v.1 + 1)] := by unfold readM; rw [hN, hvl]; rfl
    rw [this] at q
    exact q s2 K2
  · have hN : readN L e p m = max p (settledM L e) := by unfold readN; rw [if_neg h]
    rw [decide_eq_false h]
    simp only [wp_cons, wp_nil, wp_asg, wp_expr, wp_retS, wp_retN, wp_iteS, wp_pass, wp_brk, wp_cont, wp_setIx, wp_augX, wp_asgT, wp_for, wp_varX, wp_cst, wp_bin, wp_cmp, wp_cmpT, wp_chainT, wp_andT, wp_orT, wp_notT, wp_iteE, wp_idx, wp_sl, wp_call, wp_callK, wp_call0, wp_globX, wp_dictX, wp_bi, wp_tup, wp_lst, wp_dict0, wp_meth, wp_lc, wp_evs_nil, wp_evs_cons, wp_evo_none, wp_evo_some, wp_seq, wp_enum, wp_rng1, wp_rng2, wp_idxT, wp_varT, wp_callT, wp_callKT, wp_biT, x_truB, tsto_none, tsto_some,
  seqQ_nx, seqQ_ret, seqQ_bk, seqQ_ct, endQ_ret, endQ_nx, varQ_some, lstQ_some, dctQ_some, optQ_some, blQ_bl, inQ_int, rgQ_int, rg2Q_int,
  x_eqSS, x_eqII, x_neSS, x_neII, str_we, str_ew, decide_true, decide_false, if_true, if_false, Bool.false_eq_true, reduceIte, x_addI, x_addT, x_addS, x_addL, x_subI, x_mulI, x_divI, x_modI, x_powI, x_ltI, x_leI, x_gtI, x_geI, x_is, x_isnot, x_isB, x_isNB, x_ixT, x_ixF, x_abs, x_lenT, x_lenF, x_intI, x_intB, x_max2, x_min2, x_seqT, x_seqF, x_slT, x_slF,
  List.map_cons, List.map_nil, List.length_cons, List.length_nil, List.cons_append, List.nil_append, List.replicate_succ, List.replicate_zero, Nat.reduceSub, Nat.reduceAdd, List.set_cons_zero, List.set_cons_succ, List.getElem?_cons_zero, List.getElem?_cons_succ, Nat.add_zero, Nat.zero_add, Nat.sub_self, decide_eq_true_eq]
    rw [x_tupL hat2]
    refine hs s2 _ fun s3 K3 => ?_
    simp only [wp_cons, wp_nil, wp_asg, wp_expr, wp_retS, wp_retN, wp_iteS, wp_pass, wp_brk, wp_cont, wp_setIx, wp_augX, wp_asgT, wp_for, wp_varX, wp_cst, wp_bin, wp_cmp, wp_cmpT, wp_chainT, wp_andT, wp_orT, wp_notT, wp_iteE, wp_idx, wp_sl, wp_call, wp_callK, wp_call0, wp_globX, wp_dictX, wp_bi, wp_tup, wp_lst, wp_dict0, wp_meth, wp_lc, wp_evs_nil, wp_evs_cons, wp_evo_none, wp_evo_some, wp_seq, wp_enum, wp_rng1, wp_rng2, wp_idxT, wp_varT, wp_callT, wp_callKT, wp_biT, x_truB, tsto_none, tsto_some,
  seqQ_nx, seqQ_ret, seqQ_bk, seqQ_ct, endQ_ret, endQ_nx, varQ_some, lstQ_some, dctQ_some, optQ_some, blQ_bl, inQ_int, rgQ_int, rg2Q_int,
  x_eqSS, x_eqII, x_neSS, x_neII, str_we, str_ew, decide_true, decide_false, if_true, if_false, Bool.false_eq_true, reduceIte, x_addI, x_addT, x_addS, x_addL, x_subI, x_mulI, x_divI, x_modI, x_powI, x_ltI, x_leI, x_gtI, x_geI, x_is, x_isnot, x_isB, x_isNB, x_ixT, x_ixF, x_abs, x_lenT, x_lenF, x_intI, x_intB, x_max2, x_min2, x_seqT, x_seqF, x_slT, x_slF,
  List.map_cons, List.map_nil, List.length_cons, List.length_nil, List.cons_append, List.nil_append, List.replicate_succ, List.replicate_zero, Nat.reduceSub, Nat.reduceAdd, List.set_cons_zero, List.set_cons_succ, List.getElem?_cons_zero, List.getElem?_cons_succ, Nat.add_zero, Nat.zero_add, Nat.sub_self, decide_eq_true_eq]
    refine ⟨by decide, ?_⟩
    rw [imax]
    have := q s3 (K2.trans K3)
    unfold readM at this
    rw [hN] at this
    exact this
def last_of_b : Sms :=
  (.cons (.asg 3 (.cst .non))
    (.cons (.forS (.seq (.call "visible" (.cons (.var 0) (.cons (.var 1) .nil)))) (.name 4)
    (.cons (.ite (.cmp .Eq (.idx (.var 4) (.cst (.int 1))) (.var 2))
    (.cons (.asg 3 (.var 4))
    .nil)
    .nil)
    .nil))
    (.cons (.ret (.var 3))
    .nil)))
def lastW (V : List Vis) (k : Str) : Option Vis := (V.filter fun v => decide (v.2.1 = k)).getLast?
def lastD : Option Vis → D
  | none => .non
  | some v => visD v
theorem lastW_snoc (V : List Vis) (v : Vis) (k : Str) : lastW (V ++ [v]) k = if v.2.1 = k then some v else lastW V k := by
  unfold lastW
  rw [List.filter_append]
  by_cases h : v.2.1 = k
  · simp [h]
  · simp [h]
theorem last_wp {C : Cts} {L : List Ent} {e : Int} {k : Str} {st : Store} {QD : D → Store → Prop} (hv : VisC C "visible" L e) (q : ∀ s, Kp [] st s → QD (lastD (lastW (visM L e) k)) s) : wp (callDef C 5 last_of_b [logT L, .int e, .str k]) QD st := by
  unfold last_of_b
  rw [wp_callDef]
  simp only [wp_cons, wp_nil, wp_asg, wp_expr, wp_retS, wp_retN, wp_iteS, wp_pass, wp_brk, wp_cont, wp_setIx, wp_augX, wp_asgT, wp_for, wp_varX, wp_cst, wp_bin, wp_cmp, wp_cmpT, wp_chainT, wp_andT, wp_orT, wp_notT, wp_iteE, wp_idx, wp_sl, wp_call, wp_callK, wp_call0, wp_globX, wp_dictX, wp_bi, wp_tup, wp_lst, wp_dict0, wp_meth, wp_lc, wp_evs_nil, wp_evs_cons, wp_evo_none, wp_evo_some, wp_seq, wp_enum, wp_rng1, wp_rng2, wp_idxT, wp_varT, wp_callT, wp_callKT, wp_biT, x_truB, tsto_none, tsto_some,
  seqQ_nx, seqQ_ret, seqQ_bk, seqQ_ct, endQ_ret, endQ_nx, varQ_some, lstQ_some, dctQ_some, optQ_some, blQ_bl, inQ_int, rgQ_int, rg2Q_int,
  x_eqSS, x_eqII, x_neSS, x_neII, str_we, str_ew, decide_true, decide_false, if_true, if_false, Bool.false_eq_true, reduceIte, x_addI, x_addT, x_addS, x_addL, x_subI, x_mulI, x_divI, x_modI, x_powI, x_ltI, x_leI, x_gtI, x_geI, x_is, x_isnot, x_isB, x_isNB, x_ixT, x_ixF, x_abs, x_lenT, x_lenF, x_intI, x_intB, x_max2, x_min2, x_seqT, x_seqF, x_slT, x_slF,
  List.map_cons, List.map_nil, List.length_cons, List.length_nil, List.cons_append, List.nil_append, List.replicate_succ, List.replicate_zero, Nat.reduceSub, Nat.reduceAdd, List.set_cons_zero, List.set_cons_succ, List.getElem?_cons_zero, List.getElem?_cons_succ, Nat.add_zero, Nat.zero_add, Nat.sub_self, decide_eq_true_eq]
  refine hv st _ fun s1 K1 => ?_
  rw [x_seqT]
  refine wp_loopF_map visD (visM L e) (fun P env s => ∃ e4, env = [some (logT L), some (.int e), some (.str k), some (lastD (lastW P k)), e4] ∧ s = s1) ?_ ?_ ⟨none, rfl, rfl⟩
  · rintro P v R env s hL ⟨e4, rfl, rfl⟩
    refine ⟨rfl, ?_⟩
    rw [wp_forF (env1 := [some (logT L), some (.int e), some (.str k), some (lastD (lastW P k)), some (visD v)]) rfl]
    unfold visD
    simp only [wp_cons, wp_nil, wp_asg, wp_expr, wp_retS, wp_retN, wp_iteS, wp_pass, wp_brk, wp_cont, wp_setIx, wp_augX, wp_asgT, wp_for, wp_varX, wp_cst, wp_bin, wp_cmp, wp_cmpT, wp_chainT, wp_andT, wp_orT, wp_notT, wp_iteE, wp_idx, wp_sl, wp_call, wp_callK, wp_call0, wp_globX, wp_dictX, wp_bi, wp_tup, wp_lst, wp_dict0, wp_meth, wp_lc, wp_evs_nil, wp_evs_cons, wp_evo_none, wp_evo_some, wp_seq, wp_enum, wp_rng1, wp_rng2, wp_idxT, wp_varT, wp_callT, wp_callKT, wp_biT, x_truB, tsto_none, tsto_some,
  seqQ_nx, seqQ_ret, seqQ_bk, seqQ_ct, endQ_ret, endQ_nx, varQ_some, lstQ_some, dctQ_some, optQ_some, blQ_bl, inQ_int, rgQ_int, rg2Q_int,
  x_eqSS, x_eqII, x_neSS, x_neII, str_we, str_ew, decide_true, decide_false, if_true, if_false, Bool.false_eq_true, reduceIte, x_addI, x_addT, x_addS, x_addL, x_subI, x_mulI, x_divI, x_modI, x_powI, x_ltI, x_leI, x_gtI, x_geI, x_is, x_isnot, x_isB, x_isNB, x_ixT, x_ixF, x_abs, x_lenT, x_lenF, x_intI, x_intB, x_max2, x_min2, x_seqT, x_seqF, x_slT, x_slF,
  List.map_cons, List.map_nil, List.length_cons, List.length_nil, List.cons_append, List.nil_append, List.replicate_succ, List.replicate_zero, Nat.reduceSub, Nat.reduceAdd, List.set_cons_zero, List.set_cons_succ, List.getElem?_cons_zero, List.getElem?_cons_succ, Nat.add_zero, Nat.zero_add, Nat.sub_self, decide_eq_true_eq, at1]
    by_cases h : v.2.1 = k
    · simp only [h, decide_true, if_true]
      rw [lastW_snoc, if_pos h]
      simp only [lastD, visD, h]
      exact ⟨_, rfl, by simp⟩
    · simp only [h, decide_false, if_false]
      rw [lastW_snoc, if_neg h]
      exact ⟨_, rfl, by simp⟩
  · rintro env s ⟨e4, rfl, rfl⟩
    refine ⟨rfl, ?_⟩
    simp only [wp_cons, wp_nil, wp_asg, wp_expr, wp_retS, wp_retN, wp_iteS, wp_pass, wp_brk, wp_cont, wp_setIx, wp_augX, wp_asgT, wp_for, wp_varX, wp_cst, wp_bin, wp_cmp, wp_cmpT, wp_chainT, wp_andT, wp_orT, wp_notT, wp_iteE, wp_idx, wp_sl, wp_call, wp_callK, wp_call0, wp_globX, wp_dictX, wp_bi, wp_tup, wp_lst, wp_dict0, wp_meth, wp_lc, wp_evs_nil, wp_evs_cons, wp_evo_none, wp_evo_some, wp_seq, wp_enum, wp_rng1, wp_rng2, wp_idxT, wp_varT, wp_callT, wp_callKT, wp_biT, x_truB, tsto_none, tsto_some,
  seqQ_nx, seqQ_ret, seqQ_bk, seqQ_ct, endQ_ret, endQ_nx, varQ_some, lstQ_some, dctQ_some, optQ_some, blQ_bl, inQ_int, rgQ_int, rg2Q_int,
  x_eqSS, x_eqII, x_neSS, x_neII, str_we, str_ew, decide_true, decide_false, if_true, if_false, Bool.false_eq_true, reduceIte, x_addI, x_addT, x_addS, x_addL, x_subI, x_mulI, x_divI, x_modI, x_powI, x_ltI, x_leI, x_gtI, x_geI, x_is, x_isnot, x_isB, x_isNB, x_ixT, x_ixF, x_abs, x_lenT, x_lenF, x_intI, x_intB, x_max2, x_min2, x_seqT, x_seqF, x_slT, x_slF,
  List.map_cons, List.map_nil, List.length_cons, List.length_nil, List.cons_append, List.nil_append, List.replicate_succ, List.replicate_zero, Nat.reduceSub, Nat.reduceAdd, List.set_cons_zero, List.set_cons_succ, List.getElem?_cons_zero, List.getElem?_cons_succ, Nat.add_zero, Nat.zero_add, Nat.sub_self, decide_eq_true_eq]
    exact q _ K1
end W9

/-! the defs of law_k11_last_ones_and_reading_on (printed by gen.py) -/
namespace K11
open PySem L2 W9
def top (i : Nat) : Stmt := PySem.Challenge.pw_wholelog_k11_last_ones_and_reading_on.main.body.getD i (.Pass ⟨0, 0, 0, 0⟩)
def b_stop_of_1 : Sms :=
  (.cons (.ite (.and (.cmp .Eq (.idx (.var 4) (.cst (.int 0))) (.cst (.str "word"))) (.and (.cmp .IsNot (.idx (.var 4) (.cst (.int 3))) (.cst .non)) (.cmp .NotIn (.tup (.cons (.idx (.var 4) (.cst (.int 1))) (.cons (.idx (.var 4) (.cst (.int 3))) .nil))) (.var 1))))
    (.cons (.ret (.var 3))
    .nil)
    .nil)
    .nil)
def b_stop_of : Sms :=
  (.cons (.forS (.seq (.var 0)) (.tup [3, 4]) b_stop_of_1)
    (.cons (.ret (.var 2))
    .nil))
def b_first_ends_1 : Sms :=
  (.cons (.ite (.cmp .Eq (.idx (.var 3) (.cst (.int 0))) (.cst (.str "end")))
    (.cons (.expr (.meth .setdefault (.var 1) (.cons (.tup (.cons (.idx (.var 3) (.cst (.int 1))) (.cons (.idx (.var 3) (.cst (.int 2))) .nil))) (.cons (.idx (.var 3) (.cst (.int 3))) .nil))))
    .nil)
    .nil)
    .nil)
def b_first_ends : Sms :=
  (.cons (.asg 1 .dict0)
    (.cons (.forS (.seq (.var 0)) (.tup [2, 3]) b_first_ends_1)
    (.cons (.ret (.var 1))
    .nil)))
def b_below : Sms :=
  (.cons (.ret (.lc [2] (.seq (.var 0)) (.name 2) (.some (.cmp .Lt (.idx (.var 2) (.cst (.int 0))) (.var 1))) (.var 2)))
    .nil)
def b_settled : Sms :=
  (.cons (.asg 2 (.call "below" (.cons (.var 0) (.cons (.var 1) .nil))))
    (.cons (.ret (.call "stop_of" (.cons (.var 2) (.cons (.call "first_ends" (.cons (.var 2) .nil)) (.cons (.var 1) .nil)))))
    .nil))
def b_visible_1 : Sms :=
  (.cons (.ite (.and (.cmp .Eq (.idx (.var 6) (.cst (.int 0))) (.cst (.str "word"))) (.or (.cmp .Is (.idx (.var 6) (.cst (.int 3))) (.cst .non)) (.idx (.var 3) (.tup (.cons (.idx (.var 6) (.cst (.int 1))) (.cons (.idx (.var 6) (.cst (.int 3))) .nil))))))
    (.cons (.expr (.meth .append (.var 4) (.cons (.bin .Add (.tup (.cons (.var 5) .nil)) (.sl (.var 6) (.some (.cst (.int 4))) .none)) .nil)))
    .nil)
    .nil)
    .nil)
def b_visible : Sms :=
  (.cons (.asg 2 (.call "below" (.cons (.var 0) (.cons (.var 1) .nil))))
    (.cons (.asg 3 (.call "first_ends" (.cons (.var 2) .nil)))
    (.cons (.asg 4 (.lst .nil))
    (.cons (.forS (.seq (.call "below" (.cons (.var 2) (.cons (.call "stop_of" (.cons (.var 2) (.cons (.var 3) (.cons (.var 1) .nil)))) .nil)))) (.tup [5, 6]) b_visible_1)
    (.cons (.ret (.bi .tuple (.cons (.var 4) .nil)))
    .nil)))))
def b_read_from : Sms :=
  (.cons (.asg 4 (.sl (.lc [5] (.seq (.call "visible" (.cons (.var 0) (.cons (.var 1) .nil)))) (.name 5) (.some (.cmp .GtE (.idx (.var 5) (.cst (.int 0))) (.var 2))) (.var 5)) .none (.some (.var 3))))
    (.cons (.ite (.cmp .Eq (.bi .len (.cons (.var 4) .nil)) (.var 3))
    (.cons (.ret (.tup (.cons (.bi .tuple (.cons (.var 4) .nil)) (.cons (.bin .Add (.idx (.idx (.var 4) (.neg (.cst (.int 1)))) (.cst (.int 0))) (.cst (.int 1))) .nil))))
    .nil)
    .nil)
    (.cons (.ret (.tup (.cons (.bi .tuple (.cons (.var 4) .nil)) (.cons (.bi .max (.cons (.var 2) (.cons (.call "settled" (.cons (.var 0) (.cons (.var 1) .nil))) .nil))) .nil))))
    .nil)))
def b_l_first_end : Sms :=
  (.cons (.asg 4 (.lc [5, 6] (.seq (.var 0)) (.tup [5, 6]) (.some (.and (.cmp .Lt (.var 5) (.var 1)) (.cmp .Eq (.sl (.var 6) .none (.some (.cst (.int 3)))) (.tup (.cons (.cst (.str "end")) (.cons (.var 2) (.cons (.var 3) .nil))))))) (.idx (.var 6) (.cst (.int 3)))))
    (.cons (.ret (.idx (.bin .Add (.var 4) (.lst (.cons (.cst .non) .nil))) (.cst (.int 0))))
    .nil))
def b_l_settled : Sms :=
  (.cons (.asg 2 (.lc [3, 4] (.seq (.var 0)) (.tup [3, 4]) (.some (.and (.cmp .Eq (.idx (.var 4) (.cst (.int 0))) (.cst (.str "word"))) (.and (.cmp .Lt (.var 3) (.var 1)) (.and (.cmp .IsNot (.idx (.var 4) (.cst (.int 3))) (.cst .non)) (.cmp .Is (.call "_law_first_end" (.cons (.var 0) (.cons (.var 1) (.cons (.idx (.var 4) (.cst (.int 1))) (.cons (.idx (.var 4) (.cst (.int 3))) .nil))))) (.cst .non)))))) (.var 3)))
    (.cons (.ret (.bi .min (.cons (.bin .Add (.var 2) (.lst (.cons (.var 1) .nil))) .nil)))
    .nil))
def b_l_visible_1 : Sms :=
  (.cons (.ite (.and (.cmp .Eq (.idx (.var 5) (.cst (.int 0))) (.cst (.str "word"))) (.cmp .Lt (.var 4) (.var 2)))
    (.cons (.ite (.or (.cmp .Is (.idx (.var 5) (.cst (.int 3))) (.cst .non)) (.cmp .Is (.call "_law_first_end" (.cons (.var 0) (.cons (.var 1) (.cons (.idx (.var 5) (.cst (.int 1))) (.cons (.idx (.var 5) (.cst (.int 3))) .nil))))) (.cst (.bl true))))
    (.cons (.expr (.meth .append (.var 3) (.cons (.tup (.cons (.var 4) (.cons (.idx (.var 5) (.cst (.int 4))) (.cons (.idx (.var 5) (.cst (.int 5))) (.cons (.idx (.var 5) (.cst (.int 6))) .nil))))) .nil)))
    .nil)
    .nil)
    .nil)
    .nil)
    .nil)
def b_l_visible : Sms :=
  (.cons (.asgT [2, 3] (.tup (.cons (.call "_law_settled" (.cons (.var 0) (.cons (.var 1) .nil))) (.cons (.lst .nil) .nil))))
    (.cons (.forS (.seq (.var 0)) (.tup [4, 5]) b_l_visible_1)
    (.cons (.ret (.bi .tuple (.cons (.var 3) .nil)))
    .nil)))
def b_l_read : Sms :=
  (.cons (.asg 4 (.sl (.lc [5] (.seq (.call "_law_visible" (.cons (.var 0) (.cons (.var 1) .nil)))) (.name 5) (.some (.cmp .GtE (.idx (.var 5) (.cst (.int 0))) (.var 2))) (.var 5)) .none (.some (.var 3))))
    (.cons (.ite (.cmp .GtE (.bi .len (.cons (.var 4) .nil)) (.var 3))
    (.cons (.ret (.tup (.cons (.bi .tuple (.cons (.var 4) .nil)) (.cons (.bin .Add (.idx (.idx (.var 4) (.neg (.cst (.int 1)))) (.cst (.int 0))) (.cst (.int 1))) .nil))))
    .nil)
    .nil)
    (.cons (.ret (.tup (.cons (.bi .tuple (.cons (.var 4) .nil)) (.cons (.bi .max (.cons (.var 2) (.cons (.call "_law_settled" (.cons (.var 0) (.cons (.var 1) .nil))) .nil))) .nil))))
    .nil)))
def b_l_take : Sms :=
  (.cons (.ite (.cmp .Gt (.idx (.var 0) (.cst (.int 0))) (.cst (.int 0)))
    (.cons (.asg 4 (.bin .Mod (.idx (.var 0) (.cst (.int 0))) (.var 1)))
    (.cons (.setIx (.var 0) (.cst (.int 0)) (.bin .FloorDiv (.idx (.var 0) (.cst (.int 0))) (.var 1)))
    (.cons (.ret (.var 4))
    .nil)))
    .nil)
    (.cons (.setIx (.var 0) (.cst (.int 2)) (.bin .Add (.idx (.var 0) (.cst (.int 2))) (.cst (.int 1))))
    (.cons (.asg 2 (.idx (.var 0) (.cst (.int 2))))
    (.cons (.asg 3 (.bin .Mod (.bin .Mult (.bin .Add (.idx (.var 0) (.cst (.int 1))) (.bin .Mult (.cst (.int 39373)) (.var 2))) (.bin .Add (.cst (.int 48271)) (.bin .Mult (.var 2) (.var 2)))) (.cst (.int 2305843009213693921))))
    (.cons (.setIx (.var 0) (.cst (.int 1)) (.bin .Mod (.bin .Mult (.var 3) (.bin .Add (.bin .Mod (.var 3) (.cst (.int 1000003))) (.cst (.int 17)))) (.cst (.int 2305843009213693907))))
    (.cons (.ret (.bin .Mod (.bin .FloorDiv (.idx (.var 0) (.cst (.int 1))) (.cst (.int 131071))) (.var 1)))
    .nil))))))
def b_last_of_1 : Sms :=
  (.cons (.ite (.cmp .Eq (.idx (.var 4) (.cst (.int 1))) (.var 2))
    (.cons (.asg 3 (.var 4))
    .nil)
    .nil)
    .nil)
def b_last_of : Sms :=
  (.cons (.asg 3 (.cst .non))
    (.cons (.forS (.seq (.call "visible" (.cons (.var 0) (.cons (.var 1) .nil)))) (.name 4) b_last_of_1)
    (.cons (.ret (.var 3))
    .nil)))
def b_l_ends : Sms :=
  (.cons (.asg 1 (.ite (.cmp .NotEq (.var 0) (.tup .nil)) (.bin .Add (.idx (.idx (.var 0) (.neg (.cst (.int 1)))) (.cst (.int 0))) (.cst (.int 1))) (.cst (.int 0))))
    (.cons (.ret (.lst (.cons (.cst (.int 0)) (.cons (.var 1) (.cons (.bin .Add (.var 1) (.cst (.int 3))) .nil)))))
    .nil))
def b_l_part : Sms :=
  (.cons (.ret (.bin .Mod (.bi .sum (.cons (.lc [2, 3] (.enum (.var 0)) (.tup [2, 3]) .none (.bin .Mult (.bi .ord (.cons (.var 3) .nil)) (.bin .Add (.var 2) (.cst (.int 1))))) .nil)) (.var 1)))
    .nil)
def b_l_keys : Sms :=
  (.cons (.asg 2 (.lst (.cons (.cst (.str "a")) (.cons (.cst (.str "b")) (.cons (.cst (.str "c")) (.cons (.cst (.str "d")) (.cons (.cst (.str "ab")) (.cons (.cst (.str "ba")) (.cons (.cst (.str "zz")) (.cons (.cst (.str "end")) (.cons (.cst (.str "word")) (.cons (.cst (.str "mark")) (.cons (.cst (.str "zzzzzz")) (.cons (.cst (.str "abcdef")) (.cons (.cst (.str "book")) (.cons (.cst (.str "none")) .nil))))))))))))))))
    (.cons (.ret (.lc [3] (.seq (.var 2)) (.name 3) (.some (.cmp .Eq (.call "_law_part" (.cons (.var 3) (.cons (.var 1) .nil))) (.var 0))) (.var 3)))
    .nil))
def b_l_log_1 : Sms :=
  (.cons (.asgT [10, 11] (.tup (.cons (.call "_law_take" (.cons (.var 0) (.cons (.cst (.int 8)) .nil))) (.cons (.idx (.lst (.cons (.cst (.str "a")) (.cons (.cst (.str "b")) (.cons (.cst (.str "word")) .nil)))) (.call "_law_take" (.cons (.var 0) (.cons (.cst (.int 3)) .nil)))) .nil))))
    (.cons (.asg 9 (.idx (.lst (.cons (.cst .non) (.cons (.cst (.int 1)) (.cons (.cst (.int 2)) (.cons (.cst (.int 3)) (.cons (.cst (.int 999999)) .nil)))))) (.call "_law_take" (.cons (.var 0) (.cons (.cst (.int 5)) .nil)))))
    (.cons (.ite (.cmp .Lt (.var 10) (.cst (.int 6)))
    (.cons (.setIx (.var 8) (.var 11) (.bin .Add (.meth .get (.var 8) (.cons (.var 11) (.cons (.cst (.int 0)) .nil))) (.idx (.lst (.cons (.cst (.int 1)) (.cons (.cst (.int 1)) (.cons (.cst (.int 2)) (.cons (.cst (.int 900)) .nil))))) (.call "_law_take" (.cons (.var 0) (.cons (.cst (.int 4)) .nil))))))
    (.cons (.asgT [14, 15] (.tup (.cons (.idx (.var 4) (.call "_law_take" (.cons (.var 0) (.cons (.bi .len (.cons (.var 4) .nil)) .nil)))) (.cons (.idx (.lst (.cons (.cst (.int 0)) (.cons (.cst (.int 5)) (.cons (.cst (.int 999)) (.cons (.call "_law_take" (.cons (.var 0) (.cons (.cst (.int 1000)) .nil))) .nil))))) (.call "_law_take" (.cons (.var 0) (.cons (.cst (.int 4)) .nil)))) .nil))))
    (.cons (.asg 12 (.idx (.lst (.cons (.cst (.str "x")) (.cons (.cst (.str "y")) (.cons (.cst (.str "zzzzzzzz")) (.cons (.cst (.str "end")) .nil))))) (.call "_law_take" (.cons (.var 0) (.cons (.cst (.int 4)) .nil)))))
    (.cons (.asg 13 (.tup (.cons (.cst (.str "word")) (.cons (.var 11) (.cons (.idx (.var 8) (.var 11)) (.cons (.var 9) (.cons (.var 14) (.cons (.var 12) (.cons (.var 15) .nil)))))))))
    .nil))))
    (.cons (.asg 13 (.tup (.cons (.cst (.str "end")) (.cons (.var 11) (.cons (.idx (.lst (.cons (.var 9) (.cons (.cst (.int 1)) .nil))) (.bi .int (.cons (.cmp .Is (.var 9) (.cst .non)) .nil))) (.cons (.cmp .Gt (.call "_law_take" (.cons (.var 0) (.cons (.cst (.int 3)) .nil))) (.cst (.int 0))) .nil))))))
    .nil))
    (.cons (.expr (.meth .append (.var 7) (.cons (.tup (.cons (.var 6) (.cons (.var 13) .nil))) .nil)))
    (.cons (.asg 6 (.bin .Add (.bin .Add (.var 6) (.cst (.int 1))) (.bin .Mult (.idx (.lst (.cons (.cst (.int 0)) (.cons (.cst (.int 0)) (.cons (.cst (.int 1)) (.cons (.cst (.int 5)) .nil))))) (.call "_law_take" (.cons (.var 0) (.cons (.cst (.int 4)) .nil)))) (.bi .int (.cons (.var 2) .nil)))))
    .nil)))))
def b_l_log : Sms :=
  (.cons (.asg 3 (.call "_law_take" (.cons (.var 0) (.cons (.cst (.int 2)) .nil))))
    (.cons (.asg 4 (.sl (.call "_law_keys" (.cons (.var 3) (.cons (.cst (.int 2)) .nil))) .none (.some (.bin .Add (.cst (.int 1)) (.call "_law_take" (.cons (.var 0) (.cons (.cst (.int 7)) .nil)))))))
    (.cons (.asgT [6, 7, 8] (.tup (.cons (.idx (.lst (.cons (.cst (.int 0)) (.cons (.call "_law_take" (.cons (.var 0) (.cons (.cst (.int 5)) .nil))) .nil))) (.bi .int (.cons (.var 2) .nil))) (.cons (.lst .nil) (.cons .dict0 .nil)))))
    (.cons (.forS (.rng1 (.var 1)) (.name 5) b_l_log_1)
    (.cons (.ret (.bi .tuple (.cons (.var 7) .nil)))
    .nil)))))
def b_l_hand : Sms :=
  (.cons (.asg 2 (.cst (.int 0)))
    (.cons (.ite (.cmp .Lt (.var 1) (.bi .len (.cons (.var 0) .nil)))
    (.cons (.asg 2 (.bi .abs (.cons (.idx (.var 0) (.var 1)) .nil)))
    .nil)
    .nil)
    (.cons (.asg 3 (.ite (.cmp .GtE (.var 2) (.bin .Pow (.cst (.int 10)) (.cst (.int 18)))) (.bin .Mod (.var 2) (.bin .Pow (.bin .Pow (.cst (.int 10)) (.cst (.int 60))) (.cst (.int 17)))) (.cst (.int 0))))
    (.cons (.ret (.lst (.cons (.var 3) (.cons (.bin .Add (.bin .Add (.bin .Mod (.var 2) (.cst (.int 2305843009213693951))) (.bin .Mult (.cst (.int 7919)) (.var 1))) (.cst (.int 11))) (.cons (.cst (.int 0)) .nil)))))
    .nil))))
def b_law_1 : Sms :=
  (.cons (.asg 12 (.idx (.lst (.cons (.cst (.int 0)) (.cons (.call "_law_take" (.cons (.var 2) (.cons (.bin .Add (.var 5) (.cst (.int 1))) .nil))) (.cons (.var 5) (.cons (.bin .Add (.var 5) (.cst (.int 4))) .nil))))) (.call "_law_take" (.cons (.var 2) (.cons (.cst (.int 4)) .nil)))))
    (.cons (.asg 13 (.bi .len (.cons (.lc [15] (.seq (.var 6)) (.name 15) (.some (.cmp .GtE (.idx (.var 15) (.cst (.int 0))) (.var 12))) (.var 15)) .nil)))
    (.cons (.asg 14 (.bi .max (.cons (.cst (.int 1)) (.cons (.idx (.lst (.cons (.cst (.int 1)) (.cons (.cst (.int 2)) (.cons (.var 13) (.cons (.bin .Add (.var 13) (.cst (.int 1))) (.cons (.bin .Sub (.var 13) (.cst (.int 1))) (.cons (.cst (.int 99)) .nil))))))) (.call "_law_take" (.cons (.var 2) (.cons (.cst (.int 6)) .nil)))) .nil))))
    (.cons (.ite (.cmp .NotEq (.bi .repr (.cons (.callK "read_from(most)" "read_from" ["most"] (.cons (.var 4) (.cons (.var 5) (.cons (.var 12) .nil))) (.cons (.var 14) .nil)) .nil)) (.bi .repr (.cons (.call "_law_read" (.cons (.var 4) (.cons (.var 5) (.cons (.var 12) (.cons (.var 14) .nil))))) .nil)))
    (.cons (.ret (.cst (.bl false)))
    .nil)
    .nil)
    (.cons (.ite (.cmp .NotEq (.bi .repr (.cons (.call "read_from" (.cons (.var 4) (.cons (.var 5) (.cons (.var 12) .nil)))) .nil)) (.bi .repr (.cons (.call "_law_read" (.cons (.var 4) (.cons (.var 5) (.cons (.var 12) (.cons (.cst (.int 8)) .nil))))) .nil)))
    (.cons (.ret (.cst (.bl false)))
    .nil)
    .nil)
    .nil)))))
def b_law_2 : Sms :=
  (.cons (.asg 11 (.idx (.bin .Add (.lst (.cons (.cst .non) .nil)) (.lc [15] (.seq (.var 6)) (.name 15) (.some (.cmp .Eq (.idx (.var 15) (.cst (.int 1))) (.var 7))) (.var 15))) (.neg (.cst (.int 1)))))
    (.cons (.ite (.cmp .NotEq (.bi .repr (.cons (.call "last_of" (.cons (.var 4) (.cons (.var 5) (.cons (.var 7) .nil)))) .nil)) (.bi .repr (.cons (.var 11) .nil)))
    (.cons (.ret (.cst (.bl false)))
    .nil)
    .nil)
    .nil))
def b_law_3 : Sms :=
  (.cons (.asgT [9, 10] (.tup (.cons (.cmp .Eq (.call "_law_take" (.cons (.var 2) (.cons (.cst (.int 2)) .nil))) (.cst (.int 0))) (.cons (.cmp .Eq (.call "_law_take" (.cons (.var 2) (.cons (.cst (.int 6)) .nil))) (.cst (.int 0))) .nil))))
    (.cons (.asg 4 (.call "_law_log" (.cons (.var 2) (.cons (.bin .Add (.call "_law_take" (.cons (.var 2) (.cons (.cst (.int 21)) .nil))) (.bin .Mult (.cst (.int 59)) (.bi .int (.cons (.var 10) .nil)))) (.cons (.var 9) .nil)))))
    (.cons (.asg 5 (.idx (.bin .Add (.call "_law_ends" (.cons (.var 4) .nil)) (.lst (.cons (.call "_law_take" (.cons (.var 2) (.cons (.cst (.int 40)) .nil))) .nil))) (.bin .Add (.cst (.int 1)) (.call "_law_take" (.cons (.var 2) (.cons (.cst (.int 3)) .nil))))))
    (.cons (.asg 6 (.call "_law_visible" (.cons (.var 4) (.cons (.var 5) .nil))))
    (.cons (.forS (.seq (.lst (.cons (.cst (.str "a")) (.cons (.cst (.str "b")) (.cons (.cst (.str "ab")) (.cons (.cst (.str "zzzzzz")) (.cons (.cst (.str "never")) .nil))))))) (.name 7) b_law_2)
    (.cons (.forS (.rng1 (.cst (.int 6))) (.name 8) b_law_1)
    .nil))))))
def b_law_4 : Sms :=
  (.cons (.asg 2 (.call "_law_hand" (.cons (.var 0) (.cons (.var 1) .nil))))
    (.cons (.forS (.rng1 (.cst (.int 3))) (.name 3) b_law_3)
    .nil))
def b_law : Sms :=
  (.cons (.ite (.cmp .NotEq (.glob "READ") (.cst (.int 8)))
    (.cons (.ret (.cst (.bl false)))
    .nil)
    .nil)
    (.cons (.forS (.rng1 (.bin .Add (.cst (.int 1)) (.bi .len (.cons (.sl (.var 0) .none (.some (.cst (.int 5)))) .nil)))) (.name 1) b_law_4)
    (.cons (.ret (.cst (.bl true)))
    .nil)))
abbrev d_stop_of : Df := ⟨"stop_of", top 4, ["entries", "ends", "end", "place", "record"], ["entries", "ends", "end"], b_stop_of, [⟨"stop_of", [], 3, fun xs => xs⟩], none⟩
abbrev d_first_ends : Df := ⟨"first_ends", top 3, ["entries", "found", "place", "record"], ["entries"], b_first_ends, [⟨"first_ends", [], 1, fun xs => xs⟩], none⟩
abbrev d_below : Df := ⟨"below", top 2, ["log", "end", "entry"], ["log", "end"], b_below, [⟨"below", [], 2, fun xs => xs⟩], none⟩
abbrev d_settled : Df := ⟨"settled", top 5, ["log", "end", "entries"], ["log", "end"], b_settled, [⟨"settled", [], 2, fun xs => xs⟩], none⟩
abbrev d_visible : Df := ⟨"visible", top 6, ["log", "end", "entries", "ends", "found", "place", "record"], ["log", "end"], b_visible, [⟨"visible", [], 2, fun xs => xs⟩], none⟩
abbrev d_read_from : Df := ⟨"read_from", top 8, ["log", "end", "place", "most", "found", "word"], ["log", "end", "place", "most"], b_read_from, [⟨"read_from", [], 3, fun xs => xs ++ [(.int 8)]⟩, ⟨"read_from(most)", ["most"], 4, fun xs => xs⟩], none⟩
abbrev d_l_first_end : Df := ⟨"_law_first_end", top 16, ["_law_log_here", "_law_end", "_law_giver", "_law_deal", "_law_some", "_law_place", "_law_record"], ["_law_log_here", "_law_end", "_law_giver", "_law_deal"], b_l_first_end, [⟨"_law_first_end", [], 4, fun xs => xs⟩], none⟩
abbrev d_l_settled : Df := ⟨"_law_settled", top 17, ["_law_log_here", "_law_end", "_law_some", "_law_place", "_law_record"], ["_law_log_here", "_law_end"], b_l_settled, [⟨"_law_settled", [], 2, fun xs => xs⟩], none⟩
abbrev d_l_visible : Df := ⟨"_law_visible", top 18, ["_law_log_here", "_law_end", "_law_stop", "_law_found", "_law_place", "_law_record"], ["_law_log_here", "_law_end"], b_l_visible, [⟨"_law_visible", [], 2, fun xs => xs⟩], none⟩
abbrev d_l_read : Df := ⟨"_law_read", top 19, ["_law_log_here", "_law_end", "_law_place", "_law_many", "_law_some", "_law_word"], ["_law_log_here", "_law_end", "_law_place", "_law_many"], b_l_read, [⟨"_law_read", [], 4, fun xs => xs⟩], none⟩
abbrev d_l_take : Df := ⟨"_law_take", top 11, ["_law_hand_here", "_law_many", "_law_turn", "_law_mixed", "_law_digit"], ["_law_hand_here", "_law_many"], b_l_take, [⟨"_law_take", [], 2, fun xs => xs⟩], none⟩
abbrev d_last_of : Df := ⟨"last_of", top 7, ["log", "end", "key", "found", "word"], ["log", "end", "key"], b_last_of, [⟨"last_of", [], 3, fun xs => xs⟩], none⟩
abbrev d_l_ends : Df := ⟨"_law_ends", top 15, ["_law_log_here", "_law_last"], ["_law_log_here"], b_l_ends, [⟨"_law_ends", [], 1, fun xs => xs⟩], none⟩
abbrev d_l_part : Df := ⟨"_law_part", top 12, ["_law_key", "_law_parts", "_law_k", "_law_letter"], ["_law_key", "_law_parts"], b_l_part, [⟨"_law_part", [], 2, fun xs => xs⟩], none⟩
abbrev d_l_keys : Df := ⟨"_law_keys", top 13, ["_law_part_here", "_law_parts", "_law_lot", "_law_key"], ["_law_part_here", "_law_parts"], b_l_keys, [⟨"_law_keys", [], 2, fun xs => xs⟩], none⟩
abbrev d_l_log : Df := ⟨"_law_log", top 14, ["_law_hand_here", "_law_count", "_law_holes", "_law_part_here", "_law_keys_here", "_law_turn", "_law_place", "_law_found", "_law_last", "_law_deal", "_law_way", "_law_giver", "_law_text", "_law_record", "_law_key", "_law_time"], ["_law_hand_here", "_law_count", "_law_holes"], b_l_log, [⟨"_law_log", [], 3, fun xs => xs⟩], none⟩
abbrev d_l_hand : Df := ⟨"_law_hand", top 10, ["_law_script", "_law_nth", "_law_cell", "_law_digits"], ["_law_script", "_law_nth"], b_l_hand, [⟨"_law_hand", [], 2, fun xs => xs⟩], none⟩
abbrev d_law : Df := ⟨"law", top 20, ["_law_script", "_law_nth", "_law_hand_here", "_law_turn", "_law_log_here", "_law_end", "_law_seen", "_law_key", "_law_again", "_law_holes", "_law_big", "_law_due", "_law_place", "_law_left", "_law_many", "_law_word"], ["_law_script"], b_law, [⟨"law", [], 1, fun xs => xs⟩], none⟩
abbrev bs : List Str := ["abs", "enumerate", "int", "len", "max", "min", "ord", "range", "repr", "sum", "tuple"]
abbrev gs : List Str := ["READ"]
abbrev cl : List (Str × List Str) := []
abbrev cs : List Str := []
abbrev gl : Str → Option D := fun x => ([("READ", .int 8)] : List (Str × D)).lookup x
abbrev md : Mod := ⟨gl, flOf cl⟩
abbrev ds0 : List Df := []
abbrev C0 : Cts := (rawT md ds0).cts md
def g_stop_of : List D → M D := callDef C0 5 b_stop_of
abbrev ds1 : List Df := d_stop_of :: ds0
abbrev C1 : Cts := (rawT md ds1).cts md
def g_first_ends : List D → M D := callDef C1 4 b_first_ends
abbrev ds2 : List Df := d_first_ends :: ds1
abbrev C2 : Cts := (rawT md ds2).cts md
def g_below : List D → M D := callDef C2 3 b_below
abbrev ds3 : List Df := d_below :: ds2
abbrev C3 : Cts := (rawT md ds3).cts md
def g_settled : List D → M D := callDef C3 3 b_settled
abbrev ds4 : List Df := d_settled :: ds3
abbrev C4 : Cts := (rawT md ds4).cts md
def g_visible : List D → M D := callDef C4 7 b_visible
abbrev ds5 : List Df := d_visible :: ds4
abbrev C5 : Cts := (rawT md ds5).cts md
def g_read_from : List D → M D := callDef C5 6 b_read_from
abbrev ds6 : List Df := d_read_from :: ds5
abbrev C6 : Cts := (rawT md ds6).cts md
def g_l_first_end : List D → M D := callDef C6 7 b_l_first_end
abbrev ds7 : List Df := d_l_first_end :: ds6
abbrev C7 : Cts := (rawT md ds7).cts md
def g_l_settled : List D → M D := callDef C7 5 b_l_settled
abbrev ds8 : List Df := d_l_settled :: ds7
abbrev C8 : Cts := (rawT md ds8).cts md
def g_l_visible : List D → M D := callDef C8 6 b_l_visible
abbrev ds9 : List Df := d_l_visible :: ds8
abbrev C9 : Cts := (rawT md ds9).cts md
def g_l_read : List D → M D := callDef C9 6 b_l_read
abbrev ds10 : List Df := d_l_read :: ds9
abbrev C10 : Cts := (rawT md ds10).cts md
def g_l_take : List D → M D := callDef C10 5 b_l_take
abbrev ds11 : List Df := d_l_take :: ds10
abbrev C11 : Cts := (rawT md ds11).cts md
def g_last_of : List D → M D := callDef C11 5 b_last_of
abbrev ds12 : List Df := d_last_of :: ds11
abbrev C12 : Cts := (rawT md ds12).cts md
def g_l_ends : List D → M D := callDef C12 2 b_l_ends
abbrev ds13 : List Df := d_l_ends :: ds12
abbrev C13 : Cts := (rawT md ds13).cts md
def g_l_part : List D → M D := callDef C13 4 b_l_part
abbrev ds14 : List Df := d_l_part :: ds13
abbrev C14 : Cts := (rawT md ds14).cts md
def g_l_keys : List D → M D := callDef C14 4 b_l_keys
abbrev ds15 : List Df := d_l_keys :: ds14
abbrev C15 : Cts := (rawT md ds15).cts md
def g_l_log : List D → M D := callDef C15 16 b_l_log
abbrev ds16 : List Df := d_l_log :: ds15
abbrev C16 : Cts := (rawT md ds16).cts md
def g_l_hand : List D → M D := callDef C16 4 b_l_hand
abbrev ds17 : List Df := d_l_hand :: ds16
abbrev C17 : Cts := (rawT md ds17).cts md
def g_law : List D → M D := callDef C17 16 b_law
theorem f3_stop_of : C3.fn "stop_of" = g_stop_of := by rfl
theorem f3_first_ends : C3.fn "first_ends" = g_first_ends := by rfl
theorem f3_below : C3.fn "below" = g_below := by rfl
theorem f4_below : C4.fn "below" = g_below := by rfl
theorem f4_stop_of : C4.fn "stop_of" = g_stop_of := by rfl
theorem f4_first_ends : C4.fn "first_ends" = g_first_ends := by rfl
theorem f5_settled : C5.fn "settled" = g_settled := by rfl
theorem f5_visible : C5.fn "visible" = g_visible := by rfl
theorem f7_l_first_end : C7.fn "_law_first_end" = g_l_first_end := by rfl
theorem f8_l_first_end : C8.fn "_law_first_end" = g_l_first_end := by rfl
theorem f8_l_settled : C8.fn "_law_settled" = g_l_settled := by rfl
theorem f9_l_settled : C9.fn "_law_settled" = g_l_settled := by rfl
theorem f9_l_visible : C9.fn "_law_visible" = g_l_visible := by rfl
theorem f11_visible : C11.fn "visible" = g_visible := by rfl
theorem f14_l_part : C14.fn "_law_part" = g_l_part := by rfl
theorem f15_l_take : C15.fn "_law_take" = g_l_take := by rfl
theorem f15_l_keys : C15.fn "_law_keys" = g_l_keys := by rfl
theorem f17_read_from : C17.fn "read_from" = (fun xs => g_read_from (xs ++ [(.int 8)])) := by rfl
theorem f17_l_read : C17.fn "_law_read" = g_l_read := by rfl
theorem f17_read_from_most : C17.fn "read_from(most)" = g_read_from := by rfl
theorem f17_l_take : C17.fn "_law_take" = g_l_take := by rfl
theorem f17_last_of : C17.fn "last_of" = g_last_of := by rfl
theorem f17_l_visible : C17.fn "_law_visible" = g_l_visible := by rfl
theorem f17_l_ends : C17.fn "_law_ends" = g_l_ends := by rfl
theorem f17_l_log : C17.fn "_law_log" = g_l_log := by rfl
theorem f17_l_hand : C17.fn "_law_hand" = g_l_hand := by rfl
theorem bnd_stop_of : d_stop_of.bnd := fun _ _ _ _ _ _ us hl => match us, hl with | [_, _, _], _ => rfl
theorem ch_stop_of : chD bs gs cs ds0 d_stop_of = true := by decide +kernel
theorem bnd_first_ends : d_first_ends.bnd := fun _ _ _ _ _ _ us hl => match us, hl with | [_], _ => rfl
theorem ch_first_ends : chD bs gs cs ds1 d_first_ends = true := by decide +kernel
theorem bnd_below : d_below.bnd := fun _ _ _ _ _ _ us hl => match us, hl with | [_, _], _ => rfl
theorem ch_below : chD bs gs cs ds2 d_below = true := by decide +kernel
theorem bnd_settled : d_settled.bnd := fun _ _ _ _ _ _ us hl => match us, hl with | [_, _], _ => rfl
theorem ch_settled : chD bs gs cs ds3 d_settled = true := by decide +kernel
theorem bnd_visible : d_visible.bnd := fun _ _ _ _ _ _ us hl => match us, hl with | [_, _], _ => rfl
theorem ch_visible : chD bs gs cs ds4 d_visible = true := by decide +kernel
theorem kc_read_from (D : Addr) (doc pm : Value) (an : Option Addr) (cdv ct : Value) (u0 : Value) (us : List Value) (hl : us.length = 3) : KwChain D [("most", u0)] (bindArgs (PySem.W.fnOf d_read_from.name d_read_from.qual (defArgs d_read_from.st) (defBody d_read_from.st) (defScope d_read_from.st) .none (.ref D) doc pm an cdv ct) ⟨us, []⟩) (d_read_from.ps.zip (us ++ [u0])) := match us, hl with | [_, _, _], _ => ⟨_, _, _, _, _, _, rfl, rfl, rfl⟩
theorem kk_read_from_most (kV doc pm : Value) (an : Option Addr) (cdv ct : Value) (us ws : List Value) (hl : us.length = 3) (hl2 : ws.length = 1) : bindArgs (PySem.W.fnOf d_read_from.name d_read_from.qual (defArgs d_read_from.st) (defBody d_read_from.st) (defScope d_read_from.st) .none kV doc pm an cdv ct) ⟨us, (["most"] : List Str).zip ws⟩ = pure (d_read_from.ps.zip (us ++ ws)) := match us, hl, ws, hl2 with | [_, _, _], _, [_], _ => rfl
theorem ch_read_from : chD bs gs cs ds5 d_read_from = true := by decide +kernel
theorem bnd_l_first_end : d_l_first_end.bnd := fun _ _ _ _ _ _ us hl => match us, hl with | [_, _, _, _], _ => rfl
theorem ch_l_first_end : chD bs gs cs ds6 d_l_first_end = true := by decide +kernel
theorem bnd_l_settled : d_l_settled.bnd := fun _ _ _ _ _ _ us hl => match us, hl with | [_, _], _ => rfl
theorem ch_l_settled : chD bs gs cs ds7 d_l_settled = true := by decide +kernel
theorem bnd_l_visible : d_l_visible.bnd := fun _ _ _ _ _ _ us hl => match us, hl with | [_, _], _ => rfl
theorem ch_l_visible : chD bs gs cs ds8 d_l_visible = true := by decide +kernel
theorem bnd_l_read : d_l_read.bnd := fun _ _ _ _ _ _ us hl => match us, hl with | [_, _, _, _], _ => rfl
theorem ch_l_read : chD bs gs cs ds9 d_l_read = true := by decide +kernel
theorem bnd_l_take : d_l_take.bnd := fun _ _ _ _ _ _ us hl => match us, hl with | [_, _], _ => rfl
theorem ch_l_take : chD bs gs cs ds10 d_l_take = true := by decide +kernel
theorem bnd_last_of : d_last_of.bnd := fun _ _ _ _ _ _ us hl => match us, hl with | [_, _, _], _ => rfl
theorem ch_last_of : chD bs gs cs ds11 d_last_of = true := by decide +kernel
theorem bnd_l_ends : d_l_ends.bnd := fun _ _ _ _ _ _ us hl => match us, hl with | [_], _ => rfl
theorem ch_l_ends : chD bs gs cs ds12 d_l_ends = true := by decide +kernel
theorem bnd_l_part : d_l_part.bnd := fun _ _ _ _ _ _ us hl => match us, hl with | [_, _], _ => rfl
theorem ch_l_part : chD bs gs cs ds13 d_l_part = true := by decide +kernel
theorem bnd_l_keys : d_l_keys.bnd := fun _ _ _ _ _ _ us hl => match us, hl with | [_, _], _ => rfl
theorem ch_l_keys : chD bs gs cs ds14 d_l_keys = true := by decide +kernel
theorem bnd_l_log : d_l_log.bnd := fun _ _ _ _ _ _ us hl => match us, hl with | [_, _, _], _ => rfl
theorem ch_l_log : chD bs gs cs ds15 d_l_log = true := by decide +kernel
theorem bnd_l_hand : d_l_hand.bnd := fun _ _ _ _ _ _ us hl => match us, hl with | [_, _], _ => rfl
theorem ch_l_hand : chD bs gs cs ds16 d_l_hand = true := by decide +kernel
theorem bnd_law : d_law.bnd := fun _ _ _ _ _ _ us hl => match us, hl with | [_], _ => rfl
theorem ch_law : chD bs gs cs ds17 d_law = true := by decide +kernel
end K11

/-! K11: the law -/
namespace K11
open PySem L2 W9
theorem r3 : Reads4 C3 := ⟨⟨C2, f3_below⟩, ⟨C1, f3_first_ends⟩, ⟨C0, f3_stop_of⟩⟩
theorem r4 : Reads4 C4 := ⟨⟨C2, f4_below⟩, ⟨C1, f4_first_ends⟩, ⟨C0, f4_stop_of⟩⟩
section
variable {L : List Ent} {e : Int} (hM : Made L 1000) (hl : L.length ≤ 1000)
theorem big1 (hl : L.length ≤ 1000) : L.length < bigN := by have : bigN = 16777216 := rfl; omega
include hM hl
theorem vis4 {C : Cts} (h : C.fn "visible" = callDef C4 7 visible_b) : VisC C "visible" L e := fun st Q q => by
  rw [h]; exact visible_wp r4 (.inl rfl) hM.wf hM.srt (big1 hl) fun s p => q s (Kp.pre p [])
theorem set5 : SetC C5 "settled" L e := fun st Q q => by
  rw [f5_settled]; exact settled_wp r3 (.inl rfl) hM.wf (big1 hl) fun s p => q s (Kp.pre p [])
theorem lvis {C : Cts} (h : C.fn "_law_visible" = callDef C8 6 lvis_b) : VisC C "_law_visible" L e := fun st Q q => by
  rw [h]; exact lvis_wp ⟨C6, f8_l_first_end⟩ ⟨C7, f8_l_settled, C6, f7_l_first_end⟩ hM.wfs hM.srt (big1 hl) q
theorem lset9 : SetC C9 "_law_settled" L e := fun st Q q => by
  rw [f9_l_settled]; exact lset_wp ⟨C6, f7_l_first_end⟩ hM.wfs hM.srt (big1 hl) fun s p => q s (Kp.pre p [])
theorem read_w {p m : Int} (hm : 1 ≤ m) {st : Store} {Q : D → Store → Prop} (q : ∀ s, Kp [] st s → Q (readM L e p m) s) : wp (callDef C5 6 (read_b .Eq "visible" "settled") [logT L, .int e, .int p, .int m]) Q st :=
  read_wp (.inl rfl) (vis4 hM hl f5_visible) (set5 hM hl) (big1 hl) hm q
theorem lread_w {p m : Int} (hm : 1 ≤ m) {st : Store} {Q : D → Store → Prop} (q : ∀ s, Kp [] st s → Q (readM L e p m) s) : wp (callDef C9 6 (read_b .GtE "_law_visible" "_law_settled") [logT L, .int e, .int p, .int m]) Q st :=
  read_wp (.inr rfl) (lvis hM hl f9_l_visible) (lset9 hM hl) (big1 hl) hm q
end
theorem e_read : C17.fn "read_from(most)" = callDef C5 6 (read_b .Eq "visible" "settled") := f17_read_from_most
theorem e_read8 : C17.fn "read_from" = fun xs => callDef C5 6 (read_b .Eq "visible" "settled") (xs ++ [.int 8]) := f17_read_from
theorem e_lread : C17.fn "_law_read" = callDef C9 6 (read_b .GtE "_law_visible" "_law_settled") := f17_l_read
theorem e_last : C17.fn "last_of" = callDef C11 5 last_of_b := f17_last_of
theorem e_take : C17.fn "_law_take" = callDef C10 5 take_b := f17_l_take
theorem e_ends : C17.fn "_law_ends" = callDef C12 2 ends_b := f17_l_ends
theorem e_log : C17.fn "_law_log" = callDef C15 16 log_b := f17_l_log
theorem e_hand : C17.fn "_law_hand" = callDef C16 4 hand_b := f17_l_hand
theorem e_lvis : C17.fn "_law_visible" = callDef C8 6 lvis_b := f17_l_visible
theorem rp_read {L : List Ent} {e p m : Int} (hM : Made L 1000) (hl : L.length ≤ 100) (h0 : 0 ≤ e) (h1 : e ≤ 10000) (p0 : 0 ≤ p) (p1 : p ≤ 20000) : RpN 3000000 3 (readM L e p m) := by
  have hw := readW_len (L := L) (e := e) (p := p) (m := m)
  have hv : ∀ v ∈ readW L e p m, v ∈ visM L e := fun v hv => (List.mem_filter.mp (List.mem_of_mem_take hv)).1
  have r1 : RpN 1100000 2 (.tup ((readW L e p m).map visD)) := by
    refine (RpN.tup (n := 10000) (k := 1) fun x hx => ?_).mono ?_ (Nat.le_refl _)
    · obtain ⟨v, hvm, rfl⟩ := List.mem_map.mp hx
      exact rp_vis hM (hv v hvm)
    · rw [List.length_map]; omega
  have r2 : 0 ≤ readN L e p m ∧ readN L e p m ≤ 1000000 := by
    unfold readN
    split
    · cases h : (readW L e p m).getLast? with
      | none => simp
      | some v =>
        have := vis_of hM (hv v (List.mem_of_getLast? h))
        simp only [Option.map_some, Option.getD_some]
        omega
    · have := settled_ge hM h0
      have := settled_le (L := L) (e := e)
      omega
  unfold readM
  refine (RpN.tup (n := 1100000) (k := 2) fun x hx => ?_).mono (by simp) (Nat.le_refl _)
  simp only [List.mem_cons, List.not_mem_nil, or_false] at hx
  rcases hx with rfl | rfl
  · exact r1
  · exact (RpN.intS r2.1 r2.2).mono (by omega) (by omega)
theorem rp_last {L : List Ent} {e : Int} {k : Str} (hM : Made L 1000) : RpN 10000 1 (lastD (lastW (visM L e) k)) := by
  cases h : lastW (visM L e) k with
  | none => exact RpN.non.mono (by omega) (by omega)
  | some v =>
    have := (List.mem_filter.mp (List.mem_of_getLast? h)).1
    exact rp_vis hM this
section
variable {x0 x1 x2 x3 x7 x8 x9 x10 x11 x12 x13 x14 x15 : Option D}
theorem keys_body {L : List Ent} {e : Int} {k : Str} {s : Store} {Q : Fl → Store → Prop} (hM : Made L 1000) (hl : L.length ≤ 1000)
    (q : ∀ x s', Kp [] s s' → Q (.nx [x0, x1, x2, x3, some (logT L), some (.int e), some (.tup ((visM L e).map visD)), some (.str k), x8, x9, x10, x, x12, x13, x14, x15]) s') :
    wp (runs C17 b_law_2 [x0, x1, x2, x3, some (logT L), some (.int e), some (.tup ((visM L e).map visD)), some (.str k), x8, x9, x10, x11, x12, x13, x14, x15]) Q s := by
  have hvl := visM_len (L := L) (e := e)
  have hbig : bigN = 16777216 := rfl
  unfold b_law_2
  simp only [wp_cons, wp_nil, wp_asg, wp_expr, wp_retS, wp_retN, wp_iteS, wp_pass, wp_brk, wp_cont, wp_setIx, wp_augX, wp_asgT, wp_for, wp_varX, wp_cst, wp_bin, wp_cmp, wp_cmpT, wp_chainT, wp_andT, wp_orT, wp_notT, wp_iteE, wp_idx, wp_sl, wp_call, wp_callK, wp_call0, wp_globX, wp_dictX, wp_bi, wp_tup, wp_lst, wp_dict0, wp_meth, wp_lc, wp_evs_nil, wp_evs_cons, wp_evo_none, wp_evo_some, wp_seq, wp_enum, wp_rng1, wp_rng2, wp_idxT, wp_varT, wp_callT, wp_callKT, wp_biT, x_truB, tsto_none, tsto_some,
  seqQ_nx, seqQ_ret, seqQ_bk, seqQ_ct, endQ_ret, endQ_nx, varQ_some, lstQ_some, dctQ_some, optQ_some, blQ_bl, inQ_int, rgQ_int, rg2Q_int,
  x_eqSS, x_eqII, x_neSS, x_neII, str_we, str_ew, decide_true, decide_false, if_true, if_false, Bool.false_eq_true, reduceIte, x_addI, x_addT, x_addS, x_addL, x_subI, x_mulI, x_divI, x_modI, x_powI, x_ltI, x_leI, x_gtI, x_geI, x_is, x_isnot, x_isB, x_isNB, x_ixT, x_ixF, x_abs, x_lenT, x_lenF, x_intI, x_intB, x_max2, x_min2, x_seqT, x_seqF, x_slT, x_slF,
  List.map_cons, List.map_nil, List.length_cons, List.length_nil, List.cons_append, List.nil_append, List.replicate_succ, List.replicate_zero, Nat.reduceSub, Nat.reduceAdd, List.set_cons_zero, List.set_cons_succ, List.getElem?_cons_zero, List.getElem?_cons_succ, Nat.add_zero, Nat.zero_add, Nat.sub_self, decide_eq_true_eq, e_last]
  refine ⟨by decide, ?_⟩
  refine wp_mono (comp_filter (V := visM L e) (f := visD) (p := fun v => decide (v.2.1 = k)) rfl _ (by simp) fun v _ => ?_) fun ds s1 ⟨h1, h2⟩ => ?_
  · simp only [List.set_cons_succ, List.set_cons_zero]
    unfold visD
    simp only [wp_cons, wp_nil, wp_asg, wp_expr, wp_retS, wp_retN, wp_iteS, wp_pass, wp_brk, wp_cont, wp_setIx, wp_augX, wp_asgT, wp_for, wp_varX, wp_cst, wp_bin, wp_cmp, wp_cmpT, wp_chainT, wp_andT, wp_orT, wp_notT, wp_iteE, wp_idx, wp_sl, wp_call, wp_callK, wp_call0, wp_globX, wp_dictX, wp_bi, wp_tup, wp_lst, wp_dict0, wp_meth, wp_lc, wp_evs_nil, wp_evs_cons, wp_evo_none, wp_evo_some, wp_seq, wp_enum, wp_rng1, wp_rng2, wp_idxT, wp_varT, wp_callT, wp_callKT, wp_biT, x_truB, tsto_none, tsto_some,
  seqQ_nx, seqQ_ret, seqQ_bk, seqQ_ct, endQ_ret, endQ_nx, varQ_some, lstQ_some, dctQ_some, optQ_some, blQ_bl, inQ_int, rgQ_int, rg2Q_int,
  x_eqSS, x_eqII, x_neSS, x_neII, str_we, str_ew, decide_true, decide_false, if_true, if_false, Bool.false_eq_true, reduceIte, x_addI, x_addT, x_addS, x_addL, x_subI, x_mulI, x_divI, x_modI, x_powI, x_ltI, x_leI, x_gtI, x_geI, x_is, x_isnot, x_isB, x_isNB, x_ixT, x_ixF, x_abs, x_lenT, x_lenF, x_intI, x_intB, x_max2, x_min2, x_seqT, x_seqF, x_slT, x_slF,
  List.map_cons, List.map_nil, List.length_cons, List.length_nil, List.cons_append, List.nil_append, List.replicate_succ, List.replicate_zero, Nat.reduceSub, Nat.reduceAdd, List.set_cons_zero, List.set_cons_succ, List.getElem?_cons_zero, List.getElem?_cons_succ, Nat.add_zero, Nat.zero_add, Nat.sub_self, decide_eq_true_eq, at1]
    first | exact ⟨rfl, rfl⟩ | simp
  subst h1 h2
  have hfl : ((visM L e).filter fun v => decide (v.2.1 = k)).length ≤ L.length := Nat.le_trans (List.length_filter_le _ _) hvl
  refine ⟨by rw [List.length_map]; omega, ?_⟩

  have g1 : (s ++ [Ob.lst [D.non]] ++ [Ob.lst (((visM L e).filter fun v => decide (v.2.1 = k)).map visD)])[s.length]? = some (.lst [D.non]) := by simp
  have g2 : (s ++ [Ob.lst [D.non]] ++ [Ob.lst (((visM L e).filter fun v => decide (v.2.1 = k)).map visD)])[(s ++ [Ob.lst [D.non]]).length]? = some (.lst (((visM L e).filter fun v => decide (v.2.1 = k)).map visD)) := by simp
  have g3 : Kp [] s (s ++ [Ob.lst [D.non]] ++ [Ob.lst (((visM L e).filter fun v => decide (v.2.1 = k)).map visD)]) := (Kp.app _ _ _).trans (Kp.app _ _ _)
  generalize s ++ [Ob.lst [D.non]] ++ [Ob.lst (((visM L e).filter fun v => decide (v.2.1 = k)).map visD)] = s2 at g1 g2 g3 ⊢
  rw [g1, lstQ_some, g2, lstQ_some]
  refine ⟨by simp only [List.length_cons, List.length_nil, List.length_map]; omega, ?_⟩
  rw [wp_neg, wp_cst, x_neg, x_ixL (xs := [D.non] ++ ((visM L e).filter fun v => decide (v.2.1 = k)).map visD) (by simp), at_lastE]
  have hlast : ([D.non] ++ ((visM L e).filter fun v => decide (v.2.1 = k)).map visD).getLast? = some (lastD (lastW (visM L e) k)) := by
    rw [List.getLast?_append, List.getLast?_map]
    unfold lastW
    cases ((visM L e).filter fun v => decide (v.2.1 = k)).getLast? <;> rfl
  rw [hlast, optQ_some]
  refine last_wp (vis4 hM hl f11_visible) fun s3 K3 => ?_
  rw [x_reprD (rp_last hM) (by decide) (by decide), x_reprD (rp_last hM) (by decide) (by decide), x_neSS, blQ_bl, decide_eq_true rfl]
  try simp only [wp_cons, wp_nil, wp_asg, wp_expr, wp_retS, wp_retN, wp_iteS, wp_pass, wp_brk, wp_cont, wp_setIx, wp_augX, wp_asgT, wp_for, wp_varX, wp_cst, wp_bin, wp_cmp, wp_cmpT, wp_chainT, wp_andT, wp_orT, wp_notT, wp_iteE, wp_idx, wp_sl, wp_call, wp_callK, wp_call0, wp_globX, wp_dictX, wp_bi, wp_tup, wp_lst, wp_dict0, wp_meth, wp_lc, wp_evs_nil, wp_evs_cons, wp_evo_none, wp_evo_some, wp_seq, wp_enum, wp_rng1, wp_rng2, wp_idxT, wp_varT, wp_callT, wp_callKT, wp_biT, x_truB, tsto_none, tsto_some,
  seqQ_nx, seqQ_ret, seqQ_bk, seqQ_ct, endQ_ret, endQ_nx, varQ_some, lstQ_some, dctQ_some, optQ_some, blQ_bl, inQ_int, rgQ_int, rg2Q_int,
  x_eqSS, x_eqII, x_neSS, x_neII, str_we, str_ew, decide_true, decide_false, if_true, if_false, Bool.false_eq_true, reduceIte, x_addI, x_addT, x_addS, x_addL, x_subI, x_mulI, x_divI, x_modI, x_powI, x_ltI, x_leI, x_gtI, x_geI, x_is, x_isnot, x_isB, x_isNB, x_ixT, x_ixF, x_abs, x_lenT, x_lenF, x_intI, x_intB, x_max2, x_min2, x_seqT, x_seqF, x_slT, x_slF,
  List.map_cons, List.map_nil, List.length_cons, List.length_nil, List.cons_append, List.nil_append, List.replicate_succ, List.replicate_zero, Nat.reduceSub, Nat.reduceAdd, List.set_cons_zero, List.set_cons_succ, List.getElem?_cons_zero, List.getElem?_cons_succ, Nat.add_zero, Nat.zero_add, Nat.sub_self, decide_eq_true_eq]
  exact q _ s3 ((g3.trans (Kp.app _ _ _)).trans K3)
theorem reads_body {L : List Ent} {e n : Int} {i : Nat} {s : Store} {Q : Fl → Store → Prop} (hM : Made L 1000) (hl : L.length ≤ 100) (h0 : 0 ≤ e) (h1 : e ≤ 10000) (H : HandA i n s) (hn : n < 2 ^ 39)
    (q : ∀ y12 y13 y14 s', HandA i (n + 3) s' → Q (.nx [x0, x1, some (.ob i), x3, some (logT L), some (.int e), some (.tup ((visM L e).map visD)), x7, x8, x9, x10, x11, y12, y13, y14, x15]) s') :
    wp (runs C17 b_law_1 [x0, x1, some (.ob i), x3, some (logT L), some (.int e), some (.tup ((visM L e).map visD)), x7, x8, x9, x10, x11, x12, x13, x14, x15]) Q s := by
  have hvl := visM_len (L := L) (e := e)
  have hbig : bigN = 16777216 := rfl
  unfold b_law_1
  simp only [wp_cons, wp_nil, wp_asg, wp_expr, wp_retS, wp_retN, wp_iteS, wp_pass, wp_brk, wp_cont, wp_setIx, wp_augX, wp_asgT, wp_for, wp_varX, wp_cst, wp_bin, wp_cmp, wp_cmpT, wp_chainT, wp_andT, wp_orT, wp_notT, wp_iteE, wp_idx, wp_sl, wp_call, wp_callK, wp_call0, wp_globX, wp_dictX, wp_bi, wp_tup, wp_lst, wp_dict0, wp_meth, wp_lc, wp_evs_nil, wp_evs_cons, wp_evo_none, wp_evo_some, wp_seq, wp_enum, wp_rng1, wp_rng2, wp_idxT, wp_varT, wp_callT, wp_callKT, wp_biT, x_truB, tsto_none, tsto_some,
  seqQ_nx, seqQ_ret, seqQ_bk, seqQ_ct, endQ_ret, endQ_nx, varQ_some, lstQ_some, dctQ_some, optQ_some, blQ_bl, inQ_int, rgQ_int, rg2Q_int,
  x_eqSS, x_eqII, x_neSS, x_neII, str_we, str_ew, decide_true, decide_false, if_true, if_false, Bool.false_eq_true, reduceIte, x_addI, x_addT, x_addS, x_addL, x_subI, x_mulI, x_divI, x_modI, x_powI, x_ltI, x_leI, x_gtI, x_geI, x_is, x_isnot, x_isB, x_isNB, x_ixT, x_ixF, x_abs, x_lenT, x_lenF, x_intI, x_intB, x_max2, x_min2, x_seqT, x_seqF, x_slT, x_slF,
  List.map_cons, List.map_nil, List.length_cons, List.length_nil, List.cons_append, List.nil_append, List.replicate_succ, List.replicate_zero, Nat.reduceSub, Nat.reduceAdd, List.set_cons_zero, List.set_cons_succ, List.getElem?_cons_zero, List.getElem?_cons_succ, Nat.add_zero, Nat.zero_add, Nat.sub_self, decide_eq_true_eq, e_take, e_read, e_lread]
  refine take_wp H (by omega) (by omega) (by omega) fun r s1 H1 K1 r0 r1 => ?_
  refine ⟨by decide, pick_wp (ds := [0, r, e, e + 4].map D.int) H1 (by omega) rfl (by decide) (by decide) fun d hd s2 H2 K2 => ?_⟩
  obtain ⟨p, hp, rfl⟩ := mem_ints (l := [0, r, e, e + 4]) hd
  have hp' : 0 ≤ p ∧ p ≤ 20000 := by
    simp only [List.mem_cons, List.not_mem_nil, or_false] at hp
    omega
  refine wp_mono (comp_filter (V := visM L e) (f := visD) (p := fun v => decide (p ≤ v.1)) rfl _ (by simp) fun v _ => ?_) fun ds s3 ⟨h2, h3⟩ => ?_
  · simp only [List.set_cons_succ, List.set_cons_zero]
    unfold visD
    simp only [wp_cons, wp_nil, wp_asg, wp_expr, wp_retS, wp_retN, wp_iteS, wp_pass, wp_brk, wp_cont, wp_setIx, wp_augX, wp_asgT, wp_for, wp_varX, wp_cst, wp_bin, wp_cmp, wp_cmpT, wp_chainT, wp_andT, wp_orT, wp_notT, wp_iteE, wp_idx, wp_sl, wp_call, wp_callK, wp_call0, wp_globX, wp_dictX, wp_bi, wp_tup, wp_lst, wp_dict0, wp_meth, wp_lc, wp_evs_nil, wp_evs_cons, wp_evo_none, wp_evo_some, wp_seq, wp_enum, wp_rng1, wp_rng2, wp_idxT, wp_varT, wp_callT, wp_callKT, wp_biT, x_truB, tsto_none, tsto_some,
  seqQ_nx, seqQ_ret, seqQ_bk, seqQ_ct, endQ_ret, endQ_nx, varQ_some, lstQ_some, dctQ_some, optQ_some, blQ_bl, inQ_int, rgQ_int, rg2Q_int,
  x_eqSS, x_eqII, x_neSS, x_neII, str_we, str_ew, decide_true, decide_false, if_true, if_false, Bool.false_eq_true, reduceIte, x_addI, x_addT, x_addS, x_addL, x_subI, x_mulI, x_divI, x_modI, x_powI, x_ltI, x_leI, x_gtI, x_geI, x_is, x_isnot, x_isB, x_isNB, x_ixT, x_ixF, x_abs, x_lenT, x_lenF, x_intI, x_intB, x_max2, x_min2, x_seqT, x_seqF, x_slT, x_slF,
  List.map_cons, List.map_nil, List.length_cons, List.length_nil, List.cons_append, List.nil_append, List.replicate_succ, List.replicate_zero, Nat.reduceSub, Nat.reduceAdd, List.set_cons_zero, List.set_cons_succ, List.getElem?_cons_zero, List.getElem?_cons_succ, Nat.add_zero, Nat.zero_add, Nat.sub_self, decide_eq_true_eq, at0]
    first | exact ⟨rfl, rfl⟩ | simp
  subst h2 h3
  have hfl : ((visM L e).filter fun v => decide (p ≤ v.1)).length ≤ L.length := Nat.le_trans (List.length_filter_le _ _) hvl
  refine ⟨by rw [List.length_map]; omega, ?_⟩
  have H3 := H2.app [Ob.lst (((visM L e).filter fun v => decide (p ≤ v.1)).map visD)]
  have hat3 : (s3 ++ [Ob.lst (((visM L e).filter fun v => decide (p ≤ v.1)).map visD)])[s3.length]? = some (.lst (((visM L e).filter fun v => decide (p ≤ v.1)).map visD)) := by simp
  rw [x_lenL hat3, List.length_map]
  generalize hlf : (((visM L e).filter fun v => decide (p ≤ v.1)).length : Int) = lf
  generalize (s3 ++ [Ob.lst (((visM L e).filter fun v => decide (p ≤ v.1)).map visD)]) = s4 at H3
  try simp only [wp_cons, wp_nil, wp_asg, wp_expr, wp_retS, wp_retN, wp_iteS, wp_pass, wp_brk, wp_cont, wp_setIx, wp_augX, wp_asgT, wp_for, wp_varX, wp_cst, wp_bin, wp_cmp, wp_cmpT, wp_chainT, wp_andT, wp_orT, wp_notT, wp_iteE, wp_idx, wp_sl, wp_call, wp_callK, wp_call0, wp_globX, wp_dictX, wp_bi, wp_tup, wp_lst, wp_dict0, wp_meth, wp_lc, wp_evs_nil, wp_evs_cons, wp_evo_none, wp_evo_some, wp_seq, wp_enum, wp_rng1, wp_rng2, wp_idxT, wp_varT, wp_callT, wp_callKT, wp_biT, x_truB, tsto_none, tsto_some,
  seqQ_nx, seqQ_ret, seqQ_bk, seqQ_ct, endQ_ret, endQ_nx, varQ_some, lstQ_some, dctQ_some, optQ_some, blQ_bl, inQ_int, rgQ_int, rg2Q_int,
  x_eqSS, x_eqII, x_neSS, x_neII, str_we, str_ew, decide_true, decide_false, if_true, if_false, Bool.false_eq_true, reduceIte, x_addI, x_addT, x_addS, x_addL, x_subI, x_mulI, x_divI, x_modI, x_powI, x_ltI, x_leI, x_gtI, x_geI, x_is, x_isnot, x_isB, x_isNB, x_ixT, x_ixF, x_abs, x_lenT, x_lenF, x_intI, x_intB, x_max2, x_min2, x_seqT, x_seqF, x_slT, x_slF,
  List.map_cons, List.map_nil, List.length_cons, List.length_nil, List.cons_append, List.nil_append, List.replicate_succ, List.replicate_zero, Nat.reduceSub, Nat.reduceAdd, List.set_cons_zero, List.set_cons_succ, List.getElem?_cons_zero, List.getElem?_cons_succ, Nat.add_zero, Nat.zero_add, Nat.sub_self, decide_eq_true_eq]
  refine ⟨by decide, pick_wp (ds := [1, 2, lf, lf + 1, lf - 1, 99].map D.int) H3 (by omega) rfl (by decide) (by decide) fun d hd s5 H5 K5 => ?_⟩
  obtain ⟨m, hm, rfl⟩ := mem_ints (l := [1, 2, lf, lf + 1, lf - 1, 99]) hd
  try simp only [wp_cons, wp_nil, wp_asg, wp_expr, wp_retS, wp_retN, wp_iteS, wp_pass, wp_brk, wp_cont, wp_setIx, wp_augX, wp_asgT, wp_for, wp_varX, wp_cst, wp_bin, wp_cmp, wp_cmpT, wp_chainT, wp_andT, wp_orT, wp_notT, wp_iteE, wp_idx, wp_sl, wp_call, wp_callK, wp_call0, wp_globX, wp_dictX, wp_bi, wp_tup, wp_lst, wp_dict0, wp_meth, wp_lc, wp_evs_nil, wp_evs_cons, wp_evo_none, wp_evo_some, wp_seq, wp_enum, wp_rng1, wp_rng2, wp_idxT, wp_varT, wp_callT, wp_callKT, wp_biT, x_truB, tsto_none, tsto_some,
  seqQ_nx, seqQ_ret, seqQ_bk, seqQ_ct, endQ_ret, endQ_nx, varQ_some, lstQ_some, dctQ_some, optQ_some, blQ_bl, inQ_int, rgQ_int, rg2Q_int,
  x_eqSS, x_eqII, x_neSS, x_neII, str_we, str_ew, decide_true, decide_false, if_true, if_false, Bool.false_eq_true, reduceIte, x_addI, x_addT, x_addS, x_addL, x_subI, x_mulI, x_divI, x_modI, x_powI, x_ltI, x_leI, x_gtI, x_geI, x_is, x_isnot, x_isB, x_isNB, x_ixT, x_ixF, x_abs, x_lenT, x_lenF, x_intI, x_intB, x_max2, x_min2, x_seqT, x_seqF, x_slT, x_slF,
  List.map_cons, List.map_nil, List.length_cons, List.length_nil, List.cons_append, List.nil_append, List.replicate_succ, List.replicate_zero, Nat.reduceSub, Nat.reduceAdd, List.set_cons_zero, List.set_cons_succ, List.getElem?_cons_zero, List.getElem?_cons_succ, Nat.add_zero, Nat.zero_add, Nat.sub_self, decide_eq_true_eq]
  have hm1 : 1 ≤ (if m > 1 then m else 1) := by split <;> omega
  generalize (if m > 1 then m else 1) = mm at hm1 ⊢
  refine read_w hM (by omega) hm1 fun s6 K6 => ?_
  have rp := rp_read (m := mm) hM hl h0 h1 hp'.1 hp'.2
  have rp8 := rp_read (m := 8) hM hl h0 h1 hp'.1 hp'.2
  rw [x_reprD rp (by decide) (by decide)]
  refine lread_w hM (by omega) hm1 fun s7 K7 => ?_
  rw [x_reprD rp (by decide) (by decide), x_neSS, blQ_bl, decide_eq_true rfl]
  try simp only [wp_cons, wp_nil, wp_asg, wp_expr, wp_retS, wp_retN, wp_iteS, wp_pass, wp_brk, wp_cont, wp_setIx, wp_augX, wp_asgT, wp_for, wp_varX, wp_cst, wp_bin, wp_cmp, wp_cmpT, wp_chainT, wp_andT, wp_orT, wp_notT, wp_iteE, wp_idx, wp_sl, wp_call, wp_callK, wp_call0, wp_globX, wp_dictX, wp_bi, wp_tup, wp_lst, wp_dict0, wp_meth, wp_lc, wp_evs_nil, wp_evs_cons, wp_evo_none, wp_evo_some, wp_seq, wp_enum, wp_rng1, wp_rng2, wp_idxT, wp_varT, wp_callT, wp_callKT, wp_biT, x_truB, tsto_none, tsto_some,
  seqQ_nx, seqQ_ret, seqQ_bk, seqQ_ct, endQ_ret, endQ_nx, varQ_some, lstQ_some, dctQ_some, optQ_some, blQ_bl, inQ_int, rgQ_int, rg2Q_int,
  x_eqSS, x_eqII, x_neSS, x_neII, str_we, str_ew, decide_true, decide_false, if_true, if_false, Bool.false_eq_true, reduceIte, x_addI, x_addT, x_addS, x_addL, x_subI, x_mulI, x_divI, x_modI, x_powI, x_ltI, x_leI, x_gtI, x_geI, x_is, x_isnot, x_isB, x_isNB, x_ixT, x_ixF, x_abs, x_lenT, x_lenF, x_intI, x_intB, x_max2, x_min2, x_seqT, x_seqF, x_slT, x_slF,
  List.map_cons, List.map_nil, List.length_cons, List.length_nil, List.cons_append, List.nil_append, List.replicate_succ, List.replicate_zero, Nat.reduceSub, Nat.reduceAdd, List.set_cons_zero, List.set_cons_succ, List.getElem?_cons_zero, List.getElem?_cons_succ, Nat.add_zero, Nat.zero_add, Nat.sub_self, decide_eq_true_eq]
  rw [e_read8]
  show wp (callDef C5 6 (read_b .Eq "visible" "settled") [logT L, .int e, .int p, .int 8]) _ s7
  refine read_w hM (by omega) (by decide) fun s8 K8 => ?_
  rw [x_reprD rp8 (by decide) (by decide)]
  refine lread_w hM (by omega) (by decide) fun s9 K9 => ?_
  rw [x_reprD rp8 (by decide) (by decide), x_neSS, blQ_bl, decide_eq_true rfl]
  try simp only [wp_cons, wp_nil, wp_asg, wp_expr, wp_retS, wp_retN, wp_iteS, wp_pass, wp_brk, wp_cont, wp_setIx, wp_augX, wp_asgT, wp_for, wp_varX, wp_cst, wp_bin, wp_cmp, wp_cmpT, wp_chainT, wp_andT, wp_orT, wp_notT, wp_iteE, wp_idx, wp_sl, wp_call, wp_callK, wp_call0, wp_globX, wp_dictX, wp_bi, wp_tup, wp_lst, wp_dict0, wp_meth, wp_lc, wp_evs_nil, wp_evs_cons, wp_evo_none, wp_evo_some, wp_seq, wp_enum, wp_rng1, wp_rng2, wp_idxT, wp_varT, wp_callT, wp_callKT, wp_biT, x_truB, tsto_none, tsto_some,
  seqQ_nx, seqQ_ret, seqQ_bk, seqQ_ct, endQ_ret, endQ_nx, varQ_some, lstQ_some, dctQ_some, optQ_some, blQ_bl, inQ_int, rgQ_int, rg2Q_int,
  x_eqSS, x_eqII, x_neSS, x_neII, str_we, str_ew, decide_true, decide_false, if_true, if_false, Bool.false_eq_true, reduceIte, x_addI, x_addT, x_addS, x_addL, x_subI, x_mulI, x_divI, x_modI, x_powI, x_ltI, x_leI, x_gtI, x_geI, x_is, x_isnot, x_isB, x_isNB, x_ixT, x_ixF, x_abs, x_lenT, x_lenF, x_intI, x_intB, x_max2, x_min2, x_seqT, x_seqF, x_slT, x_slF,
  List.map_cons, List.map_nil, List.length_cons, List.length_nil, List.cons_append, List.nil_append, List.replicate_succ, List.replicate_zero, Nat.reduceSub, Nat.reduceAdd, List.set_cons_zero, List.set_cons_succ, List.getElem?_cons_zero, List.getElem?_cons_succ, Nat.add_zero, Nat.zero_add, Nat.sub_self, decide_eq_true_eq]
  exact q _ _ _ s9 ((H5.kp (((K6.trans K7).trans K8).trans K9) (by simp)).mono (by omega))
end
end K11

/-! K11b: the law's loops -/
namespace K11
open PySem L2 W9
abbrev keyS : List Str := ["a", "b", "ab", "zzzzzz", "never"]
theorem body3 {x0 x1 x3 x4 x5 x6 x7 x8 x9 x10 x11 x12 x13 x14 x15 : Option D} {i : Nat} {n : Int} {s : Store} (H : HandA i n s) (hn : n < 2 ^ 36) :
    wp (runs C17 b_law_3 [x0, x1, some (.ob i), x3, x4, x5, x6, x7, x8, x9, x10, x11, x12, x13, x14, x15]) (fun fl s' => ∃ y4 y5 y6 y7 y8 y9 y10 y11 y12 y13 y14 y15, fl = .nx [x0, x1, some (.ob i), x3, y4, y5, y6, y7, y8, y9, y10, y11, y12, y13, y14, y15] ∧ HandA i (n + 2000) s') s := by
  unfold b_law_3
  simp only [wp_cons, wp_nil, wp_asg, wp_expr, wp_retS, wp_retN, wp_iteS, wp_pass, wp_brk, wp_cont, wp_setIx, wp_augX, wp_asgT, wp_for, wp_varX, wp_cst, wp_bin, wp_cmp, wp_cmpT, wp_chainT, wp_andT, wp_orT, wp_notT, wp_iteE, wp_idx, wp_sl, wp_call, wp_callK, wp_call0, wp_globX, wp_dictX, wp_bi, wp_tup, wp_lst, wp_dict0, wp_meth, wp_lc, wp_evs_nil, wp_evs_cons, wp_evo_none, wp_evo_some, wp_seq, wp_enum, wp_rng1, wp_rng2, wp_idxT, wp_varT, wp_callT, wp_callKT, wp_biT, x_truB, tsto_none, tsto_some,
  seqQ_nx, seqQ_ret, seqQ_bk, seqQ_ct, endQ_ret, endQ_nx, varQ_some, lstQ_some, dctQ_some, optQ_some, blQ_bl, inQ_int, rgQ_int, rg2Q_int,
  x_eqSS, x_eqII, x_neSS, x_neII, str_we, str_ew, decide_true, decide_false, if_true, if_false, Bool.false_eq_true, reduceIte, x_addI, x_addT, x_addS, x_addL, x_subI, x_mulI, x_divI, x_modI, x_powI, x_ltI, x_leI, x_gtI, x_geI, x_is, x_isnot, x_isB, x_isNB, x_ixT, x_ixF, x_abs, x_lenT, x_lenF, x_intI, x_intB, x_max2, x_min2, x_seqT, x_seqF, x_slT, x_slF,
  List.map_cons, List.map_nil, List.length_cons, List.length_nil, List.cons_append, List.nil_append, List.replicate_succ, List.replicate_zero, Nat.reduceSub, Nat.reduceAdd, List.set_cons_zero, List.set_cons_succ, List.getElem?_cons_zero, List.getElem?_cons_succ, Nat.add_zero, Nat.zero_add, Nat.sub_self, decide_eq_true_eq, e_take, e_log, e_ends, e_lvis]
  refine take_wp H (by omega) (by decide) (by decide) fun h s1 H1 K1 a0 a1 => ?_
  try simp only [wp_cons, wp_nil, wp_asg, wp_expr, wp_retS, wp_retN, wp_iteS, wp_pass, wp_brk, wp_cont, wp_setIx, wp_augX, wp_asgT, wp_for, wp_varX, wp_cst, wp_bin, wp_cmp, wp_cmpT, wp_chainT, wp_andT, wp_orT, wp_notT, wp_iteE, wp_idx, wp_sl, wp_call, wp_callK, wp_call0, wp_globX, wp_dictX, wp_bi, wp_tup, wp_lst, wp_dict0, wp_meth, wp_lc, wp_evs_nil, wp_evs_cons, wp_evo_none, wp_evo_some, wp_seq, wp_enum, wp_rng1, wp_rng2, wp_idxT, wp_varT, wp_callT, wp_callKT, wp_biT, x_truB, tsto_none, tsto_some,
  seqQ_nx, seqQ_ret, seqQ_bk, seqQ_ct, endQ_ret, endQ_nx, varQ_some, lstQ_some, dctQ_some, optQ_some, blQ_bl, inQ_int, rgQ_int, rg2Q_int,
  x_eqSS, x_eqII, x_neSS, x_neII, str_we, str_ew, decide_true, decide_false, if_true, if_false, Bool.false_eq_true, reduceIte, x_addI, x_addT, x_addS, x_addL, x_subI, x_mulI, x_divI, x_modI, x_powI, x_ltI, x_leI, x_gtI, x_geI, x_is, x_isnot, x_isB, x_isNB, x_ixT, x_ixF, x_abs, x_lenT, x_lenF, x_intI, x_intB, x_max2, x_min2, x_seqT, x_seqF, x_slT, x_slF,
  List.map_cons, List.map_nil, List.length_cons, List.length_nil, List.cons_append, List.nil_append, List.replicate_succ, List.replicate_zero, Nat.reduceSub, Nat.reduceAdd, List.set_cons_zero, List.set_cons_succ, List.getElem?_cons_zero, List.getElem?_cons_succ, Nat.add_zero, Nat.zero_add, Nat.sub_self, decide_eq_true_eq]
  refine take_wp H1 (by omega) (by decide) (by decide) fun g s2 H2 K2 b0 b1 => ?_
  try simp only [wp_cons, wp_nil, wp_asg, wp_expr, wp_retS, wp_retN, wp_iteS, wp_pass, wp_brk, wp_cont, wp_setIx, wp_augX, wp_asgT, wp_for, wp_varX, wp_cst, wp_bin, wp_cmp, wp_cmpT, wp_chainT, wp_andT, wp_orT, wp_notT, wp_iteE, wp_idx, wp_sl, wp_call, wp_callK, wp_call0, wp_globX, wp_dictX, wp_bi, wp_tup, wp_lst, wp_dict0, wp_meth, wp_lc, wp_evs_nil, wp_evs_cons, wp_evo_none, wp_evo_some, wp_seq, wp_enum, wp_rng1, wp_rng2, wp_idxT, wp_varT, wp_callT, wp_callKT, wp_biT, x_truB, tsto_none, tsto_some,
  seqQ_nx, seqQ_ret, seqQ_bk, seqQ_ct, endQ_ret, endQ_nx, varQ_some, lstQ_some, dctQ_some, optQ_some, blQ_bl, inQ_int, rgQ_int, rg2Q_int,
  x_eqSS, x_eqII, x_neSS, x_neII, str_we, str_ew, decide_true, decide_false, if_true, if_false, Bool.false_eq_true, reduceIte, x_addI, x_addT, x_addS, x_addL, x_subI, x_mulI, x_divI, x_modI, x_powI, x_ltI, x_leI, x_gtI, x_geI, x_is, x_isnot, x_isB, x_isNB, x_ixT, x_ixF, x_abs, x_lenT, x_lenF, x_intI, x_intB, x_max2, x_min2, x_seqT, x_seqF, x_slT, x_slF,
  List.map_cons, List.map_nil, List.length_cons, List.length_nil, List.cons_append, List.nil_append, List.replicate_succ, List.replicate_zero, Nat.reduceSub, Nat.reduceAdd, List.set_cons_zero, List.set_cons_succ, List.getElem?_cons_zero, List.getElem?_cons_succ, Nat.add_zero, Nat.zero_add, Nat.sub_self, decide_eq_true_eq]
  refine ⟨by decide, [x0, x1, some (.ob i), x3, x4, x5, x6, x7, x8, some (.bl (decide (h = 0))), some (.bl (decide (g = 0))), x11, x12, x13, x14, x15], rfl, ?_⟩
  simp only [wp_cons, wp_nil, wp_asg, wp_expr, wp_retS, wp_retN, wp_iteS, wp_pass, wp_brk, wp_cont, wp_setIx, wp_augX, wp_asgT, wp_for, wp_varX, wp_cst, wp_bin, wp_cmp, wp_cmpT, wp_chainT, wp_andT, wp_orT, wp_notT, wp_iteE, wp_idx, wp_sl, wp_call, wp_callK, wp_call0, wp_globX, wp_dictX, wp_bi, wp_tup, wp_lst, wp_dict0, wp_meth, wp_lc, wp_evs_nil, wp_evs_cons, wp_evo_none, wp_evo_some, wp_seq, wp_enum, wp_rng1, wp_rng2, wp_idxT, wp_varT, wp_callT, wp_callKT, wp_biT, x_truB, tsto_none, tsto_some,
  seqQ_nx, seqQ_ret, seqQ_bk, seqQ_ct, endQ_ret, endQ_nx, varQ_some, lstQ_some, dctQ_some, optQ_some, blQ_bl, inQ_int, rgQ_int, rg2Q_int,
  x_eqSS, x_eqII, x_neSS, x_neII, str_we, str_ew, decide_true, decide_false, if_true, if_false, Bool.false_eq_true, reduceIte, x_addI, x_addT, x_addS, x_addL, x_subI, x_mulI, x_divI, x_modI, x_powI, x_ltI, x_leI, x_gtI, x_geI, x_is, x_isnot, x_isB, x_isNB, x_ixT, x_ixF, x_abs, x_lenT, x_lenF, x_intI, x_intB, x_max2, x_min2, x_seqT, x_seqF, x_slT, x_slF,
  List.map_cons, List.map_nil, List.length_cons, List.length_nil, List.cons_append, List.nil_append, List.replicate_succ, List.replicate_zero, Nat.reduceSub, Nat.reduceAdd, List.set_cons_zero, List.set_cons_succ, List.getElem?_cons_zero, List.getElem?_cons_succ, Nat.add_zero, Nat.zero_add, Nat.sub_self, decide_eq_true_eq]
  refine take_wp H2 (by omega) (by decide) (by decide) fun c s3 H3 K3 c0 c1 => ?_
  try simp only [wp_cons, wp_nil, wp_asg, wp_expr, wp_retS, wp_retN, wp_iteS, wp_pass, wp_brk, wp_cont, wp_setIx, wp_augX, wp_asgT, wp_for, wp_varX, wp_cst, wp_bin, wp_cmp, wp_cmpT, wp_chainT, wp_andT, wp_orT, wp_notT, wp_iteE, wp_idx, wp_sl, wp_call, wp_callK, wp_call0, wp_globX, wp_dictX, wp_bi, wp_tup, wp_lst, wp_dict0, wp_meth, wp_lc, wp_evs_nil, wp_evs_cons, wp_evo_none, wp_evo_some, wp_seq, wp_enum, wp_rng1, wp_rng2, wp_idxT, wp_varT, wp_callT, wp_callKT, wp_biT, x_truB, tsto_none, tsto_some,
  seqQ_nx, seqQ_ret, seqQ_bk, seqQ_ct, endQ_ret, endQ_nx, varQ_some, lstQ_some, dctQ_some, optQ_some, blQ_bl, inQ_int, rgQ_int, rg2Q_int,
  x_eqSS, x_eqII, x_neSS, x_neII, str_we, str_ew, decide_true, decide_false, if_true, if_false, Bool.false_eq_true, reduceIte, x_addI, x_addT, x_addS, x_addL, x_subI, x_mulI, x_divI, x_modI, x_powI, x_ltI, x_leI, x_gtI, x_geI, x_is, x_isnot, x_isB, x_isNB, x_ixT, x_ixF, x_abs, x_lenT, x_lenF, x_intI, x_intB, x_max2, x_min2, x_seqT, x_seqF, x_slT, x_slF,
  List.map_cons, List.map_nil, List.length_cons, List.length_nil, List.cons_append, List.nil_append, List.replicate_succ, List.replicate_zero, Nat.reduceSub, Nat.reduceAdd, List.set_cons_zero, List.set_cons_succ, List.getElem?_cons_zero, List.getElem?_cons_succ, Nat.add_zero, Nat.zero_add, Nat.sub_self, decide_eq_true_eq]
  refine ⟨mulOk_left (by decide) (by decide), ?_⟩
  have hcnt : 0 ≤ c + 59 * (if decide (g = 0) = true then 1 else 0) ∧ c + 59 * (if decide (g = 0) = true then 1 else 0) ≤ 79 := by split <;> omega
  simp only [decide_eq_true_eq] at hcnt
  refine log_wp (C1 := C10) (C2 := C14) f15_l_take f15_l_keys ⟨C13, f14_l_part⟩ H3 (by omega) hcnt.1 (by omega) fun L s4 hM hl H4 K4 => ?_
  refine ends_wp hM fun a q0 q1 => ?_
  have hl2 : L.length ≤ 100 := by omega
  have H5 := H4.app [.lst [.int 0, .int a, .int (a + 3)]]
  have hi4 := H4.lt
  refine take_wp H5 (by omega) (by decide) (by decide) fun t s5 H6 K6 d0 d1 => ?_
  have hat : s5[s4.length]? = some (.lst [.int 0, .int a, .int (a + 3)]) := K6.at' _ _ (by simp; omega) (by simp)
  refine ⟨by decide, ?_⟩
  rw [x_addL]
  have g1 : (s5 ++ [Ob.lst [D.int t]])[s4.length]? = some (.lst [.int 0, .int a, .int (a + 3)]) := (Kp.app [] s5 _).at' _ _ (by simp) hat
  rw [g1, lstQ_some, show (s5 ++ [Ob.lst [D.int t]])[s5.length]? = some (.lst [D.int t]) by simp, lstQ_some]
  refine ⟨by simp only [List.length_cons, List.length_nil]; decide, ?_⟩
  have H7 := (H6.app [Ob.lst [D.int t]]).app [Ob.lst ([D.int 0, .int a, .int (a + 3)] ++ [D.int t])]
  have hlen : (s5 ++ [Ob.lst [D.int t]]).length = s5.length + 1 := by simp
  refine take_wp H7 (by omega) (by decide) (by decide) fun r s6 H8 K8 e0 e1 => ?_
  have hat8 : s6[(s5 ++ [Ob.lst [D.int t]]).length]? = some (.lst ([0, a, a + 3, t].map D.int)) := K8.at' _ _ (by have := H6.lt; simp; omega) (by simp)
  try simp only [wp_cons, wp_nil, wp_asg, wp_expr, wp_retS, wp_retN, wp_iteS, wp_pass, wp_brk, wp_cont, wp_setIx, wp_augX, wp_asgT, wp_for, wp_varX, wp_cst, wp_bin, wp_cmp, wp_cmpT, wp_chainT, wp_andT, wp_orT, wp_notT, wp_iteE, wp_idx, wp_sl, wp_call, wp_callK, wp_call0, wp_globX, wp_dictX, wp_bi, wp_tup, wp_lst, wp_dict0, wp_meth, wp_lc, wp_evs_nil, wp_evs_cons, wp_evo_none, wp_evo_some, wp_seq, wp_enum, wp_rng1, wp_rng2, wp_idxT, wp_varT, wp_callT, wp_callKT, wp_biT, x_truB, tsto_none, tsto_some,
  seqQ_nx, seqQ_ret, seqQ_bk, seqQ_ct, endQ_ret, endQ_nx, varQ_some, lstQ_some, dctQ_some, optQ_some, blQ_bl, inQ_int, rgQ_int, rg2Q_int,
  x_eqSS, x_eqII, x_neSS, x_neII, str_we, str_ew, decide_true, decide_false, if_true, if_false, Bool.false_eq_true, reduceIte, x_addI, x_addT, x_addS, x_addL, x_subI, x_mulI, x_divI, x_modI, x_powI, x_ltI, x_leI, x_gtI, x_geI, x_is, x_isnot, x_isB, x_isNB, x_ixT, x_ixF, x_abs, x_lenT, x_lenF, x_intI, x_intB, x_max2, x_min2, x_seqT, x_seqF, x_slT, x_slF,
  List.map_cons, List.map_nil, List.length_cons, List.length_nil, List.cons_append, List.nil_append, List.replicate_succ, List.replicate_zero, Nat.reduceSub, Nat.reduceAdd, List.set_cons_zero, List.set_cons_succ, List.getElem?_cons_zero, List.getElem?_cons_succ, Nat.add_zero, Nat.zero_add, Nat.sub_self, decide_eq_true_eq]
  rw [x_ixL hat8]
  obtain ⟨x, hx, hm', _⟩ := atI_nat (xs := [0, a, a + 3, t].map D.int) (k := 1 + r) (by omega) (by simp; omega)
  obtain ⟨e, he, rfl⟩ := mem_ints (l := [0, a, a + 3, t]) hm'
  have he' : 0 ≤ e ∧ e ≤ 10000 := by
    simp only [List.mem_cons, List.not_mem_nil, or_false] at he
    omega
  rw [hx, optQ_some]
  refine lvis_wp ⟨C6, f8_l_first_end⟩ ⟨C7, f8_l_settled, C6, f7_l_first_end⟩ hM.wfs hM.srt (big1 (by omega)) fun s7 K9 => ?_
  have H9 := H8.kp K9 (by simp)
  refine ⟨by decide, ?_⟩
  rw [x_seqL (j := s7.length) (xs := keyS.map D.str) (by simp)]
  have hatk : (s7 ++ [Ob.lst (keyS.map D.str)])[s7.length]? = some (.lst (keyS.map D.str)) := by simp
  have H10 := H9.app [Ob.lst (keyS.map D.str)]
  change wp (loopF [(s7.length, keyS.map D.str)] (forF (.name 7) (runs C17 b_law_2)) (keyS.map D.str) _) _ (s7 ++ [Ob.lst (keyS.map D.str)])
  generalize s7 ++ [Ob.lst (keyS.map D.str)] = s8 at hatk H10 ⊢
  refine wp_loopF_map (gd := [(s7.length, keyS.map D.str)]) (st := s8) D.str keyS (fun P env s' => ∃ y7 y11, env = [x0, x1, some (.ob i), x3, some (logT L), some (.int e), some (.tup ((visM L e).map visD)), y7, x8, some (.bl (decide (h = 0))), some (.bl (decide (g = 0))), y11, x12, x13, x14, x15] ∧ Kp [] s8 s') ?_ ?_ ⟨x7, x11, rfl, Kp.refl _ _⟩
  · rintro P k R env s' hL ⟨y7, y11, rfl, K⟩
    refine ⟨gd_lst (K.at' _ _ (by simp) hatk), ?_⟩
    rw [wp_forF (env1 := [x0, x1, some (.ob i), x3, some (logT L), some (.int e), some (.tup ((visM L e).map visD)), some (.str k), x8, some (.bl (decide (h = 0))), some (.bl (decide (g = 0))), y11, x12, x13, x14, x15]) rfl]
    exact keys_body hM (by omega) fun x s'' K' => ⟨_, _, rfl, K.trans K'⟩
  · rintro env s' ⟨y7, y11, rfl, K⟩
    refine ⟨gd_lst (K.at' _ _ (by simp) hatk), ?_⟩
    have H11 := H10.kp K (by simp)
    simp only [wp_cons, wp_nil, wp_asg, wp_expr, wp_retS, wp_retN, wp_iteS, wp_pass, wp_brk, wp_cont, wp_setIx, wp_augX, wp_asgT, wp_for, wp_varX, wp_cst, wp_bin, wp_cmp, wp_cmpT, wp_chainT, wp_andT, wp_orT, wp_notT, wp_iteE, wp_idx, wp_sl, wp_call, wp_callK, wp_call0, wp_globX, wp_dictX, wp_bi, wp_tup, wp_lst, wp_dict0, wp_meth, wp_lc, wp_evs_nil, wp_evs_cons, wp_evo_none, wp_evo_some, wp_seq, wp_enum, wp_rng1, wp_rng2, wp_idxT, wp_varT, wp_callT, wp_callKT, wp_biT, x_truB, tsto_none, tsto_some,
  seqQ_nx, seqQ_ret, seqQ_bk, seqQ_ct, endQ_ret, endQ_nx, varQ_some, lstQ_some, dctQ_some, optQ_some, blQ_bl, inQ_int, rgQ_int, rg2Q_int,
  x_eqSS, x_eqII, x_neSS, x_neII, str_we, str_ew, decide_true, decide_false, if_true, if_false, Bool.false_eq_true, reduceIte, x_addI, x_addT, x_addS, x_addL, x_subI, x_mulI, x_divI, x_modI, x_powI, x_ltI, x_leI, x_gtI, x_geI, x_is, x_isnot, x_isB, x_isNB, x_ixT, x_ixF, x_abs, x_lenT, x_lenF, x_intI, x_intB, x_max2, x_min2, x_seqT, x_seqF, x_slT, x_slF,
  List.map_cons, List.map_nil, List.length_cons, List.length_nil, List.cons_append, List.nil_append, List.replicate_succ, List.replicate_zero, Nat.reduceSub, Nat.reduceAdd, List.set_cons_zero, List.set_cons_succ, List.getElem?_cons_zero, List.getElem?_cons_succ, Nat.add_zero, Nat.zero_add, Nat.sub_self, decide_eq_true_eq]
    refine ⟨by decide, ?_⟩
    show wp (loopF [] (forF (.name 8) (runs C17 b_law_1)) ((List.range 6).map fun k : Nat => D.int (0 + (k : Int))) _) _ s'
    refine wp_loopF_map (gd := []) (fun k : Nat => D.int (0 + (k : Int))) (List.range 6) (fun P env s2 => ∃ y8 y12 y13 y14, env = [x0, x1, some (.ob i), x3, some (logT L), some (.int e), some (.tup ((visM L e).map visD)), y7, y8, some (.bl (decide (h = 0))), some (.bl (decide (g = 0))), y11, y12, y13, y14, x15] ∧ HandA i (n + 1500 + 3 * P.length) s2) ?_ ?_ ⟨x8, x12, x13, x14, rfl, H11.mono (by simp; omega)⟩
    · rintro P k R env s2 hL ⟨y8, y12, y13, y14, rfl, HH⟩
      refine ⟨rfl, ?_⟩
      have hPl : P.length ≤ 6 := by
        have := congrArg List.length hL
        simp only [List.length_range, List.length_append, List.length_cons] at this
        omega
      rw [wp_forF (env1 := [x0, x1, some (.ob i), x3, some (logT L), some (.int e), some (.tup ((visM L e).map visD)), y7, some (.int (0 + (k : Int))), some (.bl (decide (h = 0))), some (.bl (decide (g = 0))), y11, y12, y13, y14, x15]) rfl]
      exact reads_body hM hl2 he'.1 he'.2 HH (by omega) fun z12 z13 z14 s3 H3 => ⟨_, _, _, _, rfl, H3.mono (by simp; omega)⟩
    · rintro env s2 ⟨y8, y12, y13, y14, rfl, HH⟩
      refine ⟨rfl, ?_⟩
      try simp only [wp_cons, wp_nil, wp_asg, wp_expr, wp_retS, wp_retN, wp_iteS, wp_pass, wp_brk, wp_cont, wp_setIx, wp_augX, wp_asgT, wp_for, wp_varX, wp_cst, wp_bin, wp_cmp, wp_cmpT, wp_chainT, wp_andT, wp_orT, wp_notT, wp_iteE, wp_idx, wp_sl, wp_call, wp_callK, wp_call0, wp_globX, wp_dictX, wp_bi, wp_tup, wp_lst, wp_dict0, wp_meth, wp_lc, wp_evs_nil, wp_evs_cons, wp_evo_none, wp_evo_some, wp_seq, wp_enum, wp_rng1, wp_rng2, wp_idxT, wp_varT, wp_callT, wp_callKT, wp_biT, x_truB, tsto_none, tsto_some,
  seqQ_nx, seqQ_ret, seqQ_bk, seqQ_ct, endQ_ret, endQ_nx, varQ_some, lstQ_some, dctQ_some, optQ_some, blQ_bl, inQ_int, rgQ_int, rg2Q_int,
  x_eqSS, x_eqII, x_neSS, x_neII, str_we, str_ew, decide_true, decide_false, if_true, if_false, Bool.false_eq_true, reduceIte, x_addI, x_addT, x_addS, x_addL, x_subI, x_mulI, x_divI, x_modI, x_powI, x_ltI, x_leI, x_gtI, x_geI, x_is, x_isnot, x_isB, x_isNB, x_ixT, x_ixF, x_abs, x_lenT, x_lenF, x_intI, x_intB, x_max2, x_min2, x_seqT, x_seqF, x_slT, x_slF,
  List.map_cons, List.map_nil, List.length_cons, List.length_nil, List.cons_append, List.nil_append, List.replicate_succ, List.replicate_zero, Nat.reduceSub, Nat.reduceAdd, List.set_cons_zero, List.set_cons_succ, List.getElem?_cons_zero, List.getElem?_cons_succ, Nat.add_zero, Nat.zero_add, Nat.sub_self, decide_eq_true_eq]
      exact ⟨_, _, _, _, _, _, _, _, _, _, _, _, rfl, HH.mono (by simp; omega)⟩
theorem body4 {ns : List Int} {k : Int} {x2 x3 x4 x5 x6 x7 x8 x9 x10 x11 x12 x13 x14 x15 : Option D} {s : Store} (h0 : 0 ≤ k) (h1 : k < 1000) :
    wp (runs C17 b_law_4 [some (.fls (ns.map D.int)), some (.int k), x2, x3, x4, x5, x6, x7, x8, x9, x10, x11, x12, x13, x14, x15]) (fun fl s' => ∃ y2 y3 y4 y5 y6 y7 y8 y9 y10 y11 y12 y13 y14 y15, fl = .nx [some (.fls (ns.map D.int)), some (.int k), y2, y3, y4, y5, y6, y7, y8, y9, y10, y11, y12, y13, y14, y15]) s := by
  unfold b_law_4
  simp only [wp_cons, wp_nil, wp_asg, wp_expr, wp_retS, wp_retN, wp_iteS, wp_pass, wp_brk, wp_cont, wp_setIx, wp_augX, wp_asgT, wp_for, wp_varX, wp_cst, wp_bin, wp_cmp, wp_cmpT, wp_chainT, wp_andT, wp_orT, wp_notT, wp_iteE, wp_idx, wp_sl, wp_call, wp_callK, wp_call0, wp_globX, wp_dictX, wp_bi, wp_tup, wp_lst, wp_dict0, wp_meth, wp_lc, wp_evs_nil, wp_evs_cons, wp_evo_none, wp_evo_some, wp_seq, wp_enum, wp_rng1, wp_rng2, wp_idxT, wp_varT, wp_callT, wp_callKT, wp_biT, x_truB, tsto_none, tsto_some,
  seqQ_nx, seqQ_ret, seqQ_bk, seqQ_ct, endQ_ret, endQ_nx, varQ_some, lstQ_some, dctQ_some, optQ_some, blQ_bl, inQ_int, rgQ_int, rg2Q_int,
  x_eqSS, x_eqII, x_neSS, x_neII, str_we, str_ew, decide_true, decide_false, if_true, if_false, Bool.false_eq_true, reduceIte, x_addI, x_addT, x_addS, x_addL, x_subI, x_mulI, x_divI, x_modI, x_powI, x_ltI, x_leI, x_gtI, x_geI, x_is, x_isnot, x_isB, x_isNB, x_ixT, x_ixF, x_abs, x_lenT, x_lenF, x_intI, x_intB, x_max2, x_min2, x_seqT, x_seqF, x_slT, x_slF,
  List.map_cons, List.map_nil, List.length_cons, List.length_nil, List.cons_append, List.nil_append, List.replicate_succ, List.replicate_zero, Nat.reduceSub, Nat.reduceAdd, List.set_cons_zero, List.set_cons_succ, List.getElem?_cons_zero, List.getElem?_cons_succ, Nat.add_zero, Nat.zero_add, Nat.sub_self, decide_eq_true_eq, e_hand]
  refine hand_wp h0 h1 fun o ho => ?_
  refine ⟨by decide, ?_⟩
  show wp (loopF [] (forF (.name 3) (runs C17 b_law_3)) ((List.range 3).map fun k : Nat => D.int (0 + (k : Int))) _) _ _
  refine wp_loopF_map (gd := []) (fun k : Nat => D.int (0 + (k : Int))) (List.range 3) (fun P env s' => ∃ y3 y4 y5 y6 y7 y8 y9 y10 y11 y12 y13 y14 y15, env = [some (.fls (ns.map D.int)), some (.int k), some (.ob s.length), y3, y4, y5, y6, y7, y8, y9, y10, y11, y12, y13, y14, y15] ∧ HandA s.length (2000 * P.length) s') ?_ ?_
    ⟨x3, x4, x5, x6, x7, x8, x9, x10, x11, x12, x13, x14, x15, rfl, ⟨o, by simp, ho.mono (by simp)⟩⟩
  · rintro P a R env s' hL ⟨y3, y4, y5, y6, y7, y8, y9, y10, y11, y12, y13, y14, y15, rfl, H⟩
    refine ⟨rfl, ?_⟩
    have hPl : P.length ≤ 3 := by
      have := congrArg List.length hL
      simp only [List.length_range, List.length_append, List.length_cons] at this
      omega
    rw [wp_forF (env1 := [some (.fls (ns.map D.int)), some (.int k), some (.ob s.length), some (.int (0 + (a : Int))), y4, y5, y6, y7, y8, y9, y10, y11, y12, y13, y14, y15]) rfl]
    refine wp_mono (body3 H (by omega)) fun fl s2 h => ?_
    obtain ⟨z4, z5, z6, z7, z8, z9, z10, z11, z12, z13, z14, z15, rfl, H2⟩ := h
    exact ⟨_, _, _, _, _, _, _, _, _, _, _, _, _, rfl, H2.mono (by simp; omega)⟩
  · rintro env s' ⟨y3, y4, y5, y6, y7, y8, y9, y10, y11, y12, y13, y14, y15, rfl, H⟩
    refine ⟨rfl, ?_⟩
    try simp only [wp_cons, wp_nil, wp_asg, wp_expr, wp_retS, wp_retN, wp_iteS, wp_pass, wp_brk, wp_cont, wp_setIx, wp_augX, wp_asgT, wp_for, wp_varX, wp_cst, wp_bin, wp_cmp, wp_cmpT, wp_chainT, wp_andT, wp_orT, wp_notT, wp_iteE, wp_idx, wp_sl, wp_call, wp_callK, wp_call0, wp_globX, wp_dictX, wp_bi, wp_tup, wp_lst, wp_dict0, wp_meth, wp_lc, wp_evs_nil, wp_evs_cons, wp_evo_none, wp_evo_some, wp_seq, wp_enum, wp_rng1, wp_rng2, wp_idxT, wp_varT, wp_callT, wp_callKT, wp_biT, x_truB, tsto_none, tsto_some,
  seqQ_nx, seqQ_ret, seqQ_bk, seqQ_ct, endQ_ret, endQ_nx, varQ_some, lstQ_some, dctQ_some, optQ_some, blQ_bl, inQ_int, rgQ_int, rg2Q_int,
  x_eqSS, x_eqII, x_neSS, x_neII, str_we, str_ew, decide_true, decide_false, if_true, if_false, Bool.false_eq_true, reduceIte, x_addI, x_addT, x_addS, x_addL, x_subI, x_mulI, x_divI, x_modI, x_powI, x_ltI, x_leI, x_gtI, x_geI, x_is, x_isnot, x_isB, x_isNB, x_ixT, x_ixF, x_abs, x_lenT, x_lenF, x_intI, x_intB, x_max2, x_min2, x_seqT, x_seqF, x_slT, x_slF,
  List.map_cons, List.map_nil, List.length_cons, List.length_nil, List.cons_append, List.nil_append, List.replicate_succ, List.replicate_zero, Nat.reduceSub, Nat.reduceAdd, List.set_cons_zero, List.set_cons_succ, List.getElem?_cons_zero, List.getElem?_cons_succ, Nat.add_zero, Nat.zero_add, Nat.sub_self, decide_eq_true_eq]
    exact ⟨_, _, _, _, _, _, _, _, _, _, _, _, _, _, rfl⟩
theorem glR : C17.gl "READ" = some (.int 8) := rfl
theorem law_wp (ns : List Int) (hl : ns.length ≤ 63) : wp (callDef C17 16 b_law [.fls (ns.map D.int)]) (fun d _ => d = .bl true) [] := by
  unfold b_law
  rw [wp_callDef]
  simp only [wp_cons, wp_nil, wp_asg, wp_expr, wp_retS, wp_retN, wp_iteS, wp_pass, wp_brk, wp_cont, wp_setIx, wp_augX, wp_asgT, wp_for, wp_varX, wp_cst, wp_bin, wp_cmp, wp_cmpT, wp_chainT, wp_andT, wp_orT, wp_notT, wp_iteE, wp_idx, wp_sl, wp_call, wp_callK, wp_call0, wp_globX, wp_dictX, wp_bi, wp_tup, wp_lst, wp_dict0, wp_meth, wp_lc, wp_evs_nil, wp_evs_cons, wp_evo_none, wp_evo_some, wp_seq, wp_enum, wp_rng1, wp_rng2, wp_idxT, wp_varT, wp_callT, wp_callKT, wp_biT, x_truB, tsto_none, tsto_some,
  seqQ_nx, seqQ_ret, seqQ_bk, seqQ_ct, endQ_ret, endQ_nx, varQ_some, lstQ_some, dctQ_some, optQ_some, blQ_bl, inQ_int, rgQ_int, rg2Q_int,
  x_eqSS, x_eqII, x_neSS, x_neII, str_we, str_ew, decide_true, decide_false, if_true, if_false, Bool.false_eq_true, reduceIte, x_addI, x_addT, x_addS, x_addL, x_subI, x_mulI, x_divI, x_modI, x_powI, x_ltI, x_leI, x_gtI, x_geI, x_is, x_isnot, x_isB, x_isNB, x_ixT, x_ixF, x_abs, x_lenT, x_lenF, x_intI, x_intB, x_max2, x_min2, x_seqT, x_seqF, x_slT, x_slF,
  List.map_cons, List.map_nil, List.length_cons, List.length_nil, List.cons_append, List.nil_append, List.replicate_succ, List.replicate_zero, Nat.reduceSub, Nat.reduceAdd, List.set_cons_zero, List.set_cons_succ, List.getElem?_cons_zero, List.getElem?_cons_succ, Nat.add_zero, Nat.zero_add, Nat.sub_self, decide_eq_true_eq, glR]
  rw [x_lenL (xs := cutL (ns.map D.int) none (some 5)) (by simp)]
  try simp only [wp_cons, wp_nil, wp_asg, wp_expr, wp_retS, wp_retN, wp_iteS, wp_pass, wp_brk, wp_cont, wp_setIx, wp_augX, wp_asgT, wp_for, wp_varX, wp_cst, wp_bin, wp_cmp, wp_cmpT, wp_chainT, wp_andT, wp_orT, wp_notT, wp_iteE, wp_idx, wp_sl, wp_call, wp_callK, wp_call0, wp_globX, wp_dictX, wp_bi, wp_tup, wp_lst, wp_dict0, wp_meth, wp_lc, wp_evs_nil, wp_evs_cons, wp_evo_none, wp_evo_some, wp_seq, wp_enum, wp_rng1, wp_rng2, wp_idxT, wp_varT, wp_callT, wp_callKT, wp_biT, x_truB, tsto_none, tsto_some,
  seqQ_nx, seqQ_ret, seqQ_bk, seqQ_ct, endQ_ret, endQ_nx, varQ_some, lstQ_some, dctQ_some, optQ_some, blQ_bl, inQ_int, rgQ_int, rg2Q_int,
  x_eqSS, x_eqII, x_neSS, x_neII, str_we, str_ew, decide_true, decide_false, if_true, if_false, Bool.false_eq_true, reduceIte, x_addI, x_addT, x_addS, x_addL, x_subI, x_mulI, x_divI, x_modI, x_powI, x_ltI, x_leI, x_gtI, x_geI, x_is, x_isnot, x_isB, x_isNB, x_ixT, x_ixF, x_abs, x_lenT, x_lenF, x_intI, x_intB, x_max2, x_min2, x_seqT, x_seqF, x_slT, x_slF,
  List.map_cons, List.map_nil, List.length_cons, List.length_nil, List.cons_append, List.nil_append, List.replicate_succ, List.replicate_zero, Nat.reduceSub, Nat.reduceAdd, List.set_cons_zero, List.set_cons_succ, List.getElem?_cons_zero, List.getElem?_cons_succ, Nat.add_zero, Nat.zero_add, Nat.sub_self, decide_eq_true_eq]
  have hc : (cutL (ns.map D.int) none (some 5)).length ≤ 63 := Nat.le_trans cut_le (by rw [List.length_map]; exact hl)
  generalize (cutL (ns.map D.int) none (some 5)).length = c at hc ⊢
  refine ⟨rng_small (by omega) (by omega), ?_⟩
  unfold rngI
  refine wp_loopF_map (gd := []) (fun k : Nat => D.int (0 + (k : Int))) (List.range (1 + (c : Int) - 0).toNat) (fun P env s' => ∃ y1 y2 y3 y4 y5 y6 y7 y8 y9 y10 y11 y12 y13 y14 y15, env = [some (.fls (ns.map D.int)), y1, y2, y3, y4, y5, y6, y7, y8, y9, y10, y11, y12, y13, y14, y15]) ?_ ?_ ⟨none, none, none, none, none, none, none, none, none, none, none, none, none, none, none, rfl⟩
  · rintro P a R env s' hL ⟨y1, y2, y3, y4, y5, y6, y7, y8, y9, y10, y11, y12, y13, y14, y15, rfl⟩
    refine ⟨rfl, ?_⟩
    have ha : a ∈ List.range (1 + (c : Int) - 0).toNat := by rw [hL]; simp
    have ha2 := List.mem_range.mp ha
    rw [wp_forF (env1 := [some (.fls (ns.map D.int)), some (.int (0 + (a : Int))), y2, y3, y4, y5, y6, y7, y8, y9, y10, y11, y12, y13, y14, y15]) rfl]
    refine wp_mono (body4 (by omega) (by omega)) fun fl s2 h => ?_
    obtain ⟨z2, z3, z4, z5, z6, z7, z8, z9, z10, z11, z12, z13, z14, z15, rfl⟩ := h
    exact ⟨_, _, _, _, _, _, _, _, _, _, _, _, _, _, _, rfl⟩
  · rintro env s' ⟨y1, y2, y3, y4, y5, y6, y7, y8, y9, y10, y11, y12, y13, y14, y15, rfl⟩
    refine ⟨rfl, ?_⟩
    simp only [wp_cons, wp_nil, wp_asg, wp_expr, wp_retS, wp_retN, wp_iteS, wp_pass, wp_brk, wp_cont, wp_setIx, wp_augX, wp_asgT, wp_for, wp_varX, wp_cst, wp_bin, wp_cmp, wp_cmpT, wp_chainT, wp_andT, wp_orT, wp_notT, wp_iteE, wp_idx, wp_sl, wp_call, wp_callK, wp_call0, wp_globX, wp_dictX, wp_bi, wp_tup, wp_lst, wp_dict0, wp_meth, wp_lc, wp_evs_nil, wp_evs_cons, wp_evo_none, wp_evo_some, wp_seq, wp_enum, wp_rng1, wp_rng2, wp_idxT, wp_varT, wp_callT, wp_callKT, wp_biT, x_truB, tsto_none, tsto_some,
  seqQ_nx, seqQ_ret, seqQ_bk, seqQ_ct, endQ_ret, endQ_nx, varQ_some, lstQ_some, dctQ_some, optQ_some, blQ_bl, inQ_int, rgQ_int, rg2Q_int,
  x_eqSS, x_eqII, x_neSS, x_neII, str_we, str_ew, decide_true, decide_false, if_true, if_false, Bool.false_eq_true, reduceIte, x_addI, x_addT, x_addS, x_addL, x_subI, x_mulI, x_divI, x_modI, x_powI, x_ltI, x_leI, x_gtI, x_geI, x_is, x_isnot, x_isB, x_isNB, x_ixT, x_ixF, x_abs, x_lenT, x_lenF, x_intI, x_intB, x_max2, x_min2, x_seqT, x_seqF, x_slT, x_slF,
  List.map_cons, List.map_nil, List.length_cons, List.length_nil, List.cons_append, List.nil_append, List.replicate_succ, List.replicate_zero, Nat.reduceSub, Nat.reduceAdd, List.set_cons_zero, List.set_cons_succ, List.getElem?_cons_zero, List.getElem?_cons_succ, Nat.add_zero, Nat.zero_add, Nat.sub_self, decide_eq_true_eq]
theorem law_true (ns : List Int) (hl : ns.length ≤ 63) (hb : ∀ z ∈ ns, Builtin.Int.intBits z ≤ 1048576) : ∃ sr, d_law.raw (rawT md ds17) md [.fls (ns.map D.int)] [] = .ok (.bl true) sr := by
  obtain ⟨d, s, e, rfl⟩ := law_wp ns hl
  exact ⟨s, e⟩
end K11

open PySem PySem.W PyProof.Rows
set_option maxRecDepth 100000 in
set_option maxHeartbeats 0 in
theorem PySem.Challenge.cw_wholelog_k11_last_ones_and_reading_on_holds : PySem.Challenge.rw_wholelog_k11_last_ones_and_reading_on.Holds := by
  w_on; o_law; k_head; (case hw => w_witness2)
  k_fill
  refine W9.walkR (l := PySem.Challenge.rw_wholelog_k11_last_ones_and_reading_on) (e := K11.d_law) (ds := K11.ds17) (bs := K11.bs) (gs := K11.gs) (cl := K11.cl) (gl := K11.gl) rfl (by decide) rfl (fun w h Y => PySem.W.kIn_of Y) ⟨rfl, by decide, by decide⟩ rfl rfl rfl ?F (fun ns hl hb => K11.law_true ns hl hb)
  case F =>
    intro w
    refine' ⟨⟨⟨?i17, K11.ch_law⟩, ⟨?i16, K11.ch_l_hand⟩, ⟨?i15, K11.ch_l_log⟩, ⟨?i14, K11.ch_l_keys⟩, ⟨?i13, K11.ch_l_part⟩, ⟨?i12, K11.ch_l_ends⟩, ⟨?i11, K11.ch_last_of⟩, ⟨?i10, K11.ch_l_take⟩, ⟨?i9, K11.ch_l_read⟩, ⟨?i8, K11.ch_l_visible⟩, ⟨?i7, K11.ch_l_settled⟩, ⟨?i6, K11.ch_l_first_end⟩, ⟨?i5, K11.ch_read_from⟩, ⟨?i4, K11.ch_visible⟩, ⟨?i3, K11.ch_settled⟩, ⟨?i2, K11.ch_below⟩, ⟨?i1, K11.ch_first_ends⟩, ⟨?i0, K11.ch_stop_of⟩, trivial⟩, W9.forall_bs ?zz, trivial, fun mg h kin G => ?gg⟩
    (case i0 => refine' W9.defIn_plain K11.bnd_stop_of rfl rfl ?a ?l ?c ?k; (case a => k_is); (case l => k_is); (case c => k_is); (case k => k_is))
    (case i1 => refine' W9.defIn_plain K11.bnd_first_ends rfl rfl ?a ?l ?c ?k; (case a => k_is); (case l => k_is); (case c => k_is); (case k => k_is))
    (case i2 => refine' W9.defIn_plain K11.bnd_below rfl rfl ?a ?l ?c ?k; (case a => k_is); (case l => k_is); (case c => k_is); (case k => k_is))
    (case i3 => refine' W9.defIn_plain K11.bnd_settled rfl rfl ?a ?l ?c ?k; (case a => k_is); (case l => k_is); (case c => k_is); (case k => k_is))
    (case i4 => refine' W9.defIn_plain K11.bnd_visible rfl rfl ?a ?l ?c ?k; (case a => k_is); (case l => k_is); (case c => k_is); (case k => k_is))
    (case i5 => refine' W9.defIn_mk rfl ?a ?l ?c ?k ?e; (case a => k_is); (case l => k_is); (case c => k_is); (case k => k_is); (case e => refine' ⟨W9.enOk_kwd1 (x := "most") rfl ?wq0 ?wr0 (fun _ _ => (.int 8)) (fun us h => K11.kc_read_from _ _ _ _ _ _ _ us h), W9.enOk_kw rfl (fun us ws h1 h2 => K11.kk_read_from_most _ _ _ _ _ _ us ws h1 h2), trivial⟩; (case wq0 => k_is); (case wr0 => first | rfl | exact ⟨_, rfl⟩)))
    (case i6 => refine' W9.defIn_plain K11.bnd_l_first_end rfl rfl ?a ?l ?c ?k; (case a => k_is); (case l => k_is); (case c => k_is); (case k => k_is))
    (case i7 => refine' W9.defIn_plain K11.bnd_l_settled rfl rfl ?a ?l ?c ?k; (case a => k_is); (case l => k_is); (case c => k_is); (case k => k_is))
    (case i8 => refine' W9.defIn_plain K11.bnd_l_visible rfl rfl ?a ?l ?c ?k; (case a => k_is); (case l => k_is); (case c => k_is); (case k => k_is))
    (case i9 => refine' W9.defIn_plain K11.bnd_l_read rfl rfl ?a ?l ?c ?k; (case a => k_is); (case l => k_is); (case c => k_is); (case k => k_is))
    (case i10 => refine' W9.defIn_plain K11.bnd_l_take rfl rfl ?a ?l ?c ?k; (case a => k_is); (case l => k_is); (case c => k_is); (case k => k_is))
    (case i11 => refine' W9.defIn_plain K11.bnd_last_of rfl rfl ?a ?l ?c ?k; (case a => k_is); (case l => k_is); (case c => k_is); (case k => k_is))
    (case i12 => refine' W9.defIn_plain K11.bnd_l_ends rfl rfl ?a ?l ?c ?k; (case a => k_is); (case l => k_is); (case c => k_is); (case k => k_is))
    (case i13 => refine' W9.defIn_plain K11.bnd_l_part rfl rfl ?a ?l ?c ?k; (case a => k_is); (case l => k_is); (case c => k_is); (case k => k_is))
    (case i14 => refine' W9.defIn_plain K11.bnd_l_keys rfl rfl ?a ?l ?c ?k; (case a => k_is); (case l => k_is); (case c => k_is); (case k => k_is))
    (case i15 => refine' W9.defIn_plain K11.bnd_l_log rfl rfl ?a ?l ?c ?k; (case a => k_is); (case l => k_is); (case c => k_is); (case k => k_is))
    (case i16 => refine' W9.defIn_plain K11.bnd_l_hand rfl rfl ?a ?l ?c ?k; (case a => k_is); (case l => k_is); (case c => k_is); (case k => k_is))
    (case i17 => refine' W9.defIn_plain K11.bnd_law rfl rfl ?a ?l ?c ?k; (case a => k_is); (case l => k_is); (case c => k_is); (case k => k_is))
    (case gg => refine' (W9.gls_int kin G ?wgl0 rfl W9.gls_nil); (case wgl0 => k_is))
    (case zz => refine' ⟨?z0, ?z1, ?z2, ?z3, ?z4, ?z5, ?z6, ?z7, ?z8, ?z9, ?z10, trivial⟩; (case z0 => k_is); (case z1 => k_is); (case z2 => k_is); (case z3 => k_is); (case z4 => k_is); (case z5 => k_is); (case z6 => k_is); (case z7 => k_is); (case z8 => k_is); (case z9 => k_is); (case z10 => k_is))
#print axioms PySem.Challenge.cw_wholelog_k11_last_ones_and_reading_on_holds
