import PyProof.Rows.All
import Wide.All
import OpenK.AllK
import Wide.FinOn
import KE.KStar
import KE.GoesEnum
import HandS.Base
import HandS.Call
import HandS.List
import HandS.Iter
import HandS.Words
import HandS.Walk
import KE.KDictKeyed
import HandS.Dict
import HandS.Evl
import HandS.IsInst
import KE.KItemsList
import HandS.ListItems
import HandS.Conv
import KE.LtData
import KE.SortData
import KE.SortCalls
import KE.DataMinMax
import HandS.SortRule
import HandS.Deep
import HandS.Flow
import HandS.Wide
import HandS.TupAny
import HandS.DictComp
import HandS.Comp
import PySem.Challenge.RW_counterlines_k81_whole_quotients_counted
import HandS.WordsDict
import HandS.SortInts
import HandS.ForMost
/-! the mirror of the program's functions over plain data, and the law over the mirror -/
namespace CL
abbrev Pr := Int × Int
abbrev Plan := List Pr
abbrev Off := Int × Int
/-- a plan without a first one that need not be called -/
def least (o : Off) : Plan → Plan
  | [] => []
  | q :: r => if (((q :: r).length : Nat) : Int) = o.1 ∧ q.2 = 0 then r else q :: r
def lookD : Plan → Int → Int
  | [], _ => 0
  | q :: r, k => if q.1 = k then q.2 else lookD r k
def dropP (d : Plan) (k : Int) : Plan := d.filter fun q => decide (q.1 ≠ k)
def stepJ (c : Int) (d : Plan) (q : Pr) : Plan := dropP d q.1 ++ [(q.1, (lookD d q.1 + q.2) % c)]
def join (c : Int) (one other : Plan) : Plan := other.foldl (stepJ c) one
/-! ### order -/
def prLt (a b : Pr) : Bool := if a.1 = b.1 then decide (a.2 < b.2) else decide (a.1 < b.1)
def planLt : Plan → Plan → Bool
  | [], [] => false
  | [], _ :: _ => true
  | _ :: _, [] => false
  | x :: xs, y :: ys => if x = y then planLt xs ys else prLt x y
def ins (p : Plan) : List Plan → List Plan
  | [] => [p]
  | q :: r => if planLt q p then q :: ins p r else p :: q :: r
def isort : List Plan → List Plan
  | [] => []
  | p :: r => ins p (isort r)
/-! ### deeds -/
def rng (n : Int) : List Int := (List.range n.toNat).map fun (i : Nat) => (i : Int)
def more (c : Int) (pl : Plan) (q : Int) : List Plan := if q ∈ pl.map Prod.fst then [] else (rng c).map fun n => pl ++ [(q, n)]
def longer (o : Off) (pl : Plan) : List Plan := (rng o.1).flatMap (more o.2 pl)
def round (o : Off) (last : List Plan) : List Plan := last.flatMap (longer o)
def rounds (o : Off) : Nat → List Plan × List Plan
  | 0 => ([[]], [[]])
  | n + 1 => ((rounds o n).1 ++ round o (rounds o n).2, round o (rounds o n).2)
def found (o : Off) : List Plan := (rounds o o.1.toNat).1
def deeds (o : Off) : List Plan := isort ((found o).filter fun p => decide (least o p = p))
def goesOn (o : Off) (one goal : Plan) : List Plan := (deeds o).filter fun p => decide (least o (join o.2 one p) = least o goal)
def goesAhead (o : Off) (one goal : Plan) : List Plan := (deeds o).filter fun p => decide (least o (join o.2 p one) = least o goal)
/-! ### numbers -/
def fact : Nat → Int
  | 0 => 1
  | n + 1 => fact n * ((n : Int) + 1)
def chooseS (many : Int) : Nat → Int
  | 0 => 1
  | n + 1 => chooseS many n * (many - n) / ((n : Int) + 1)
def raised (b : Int) : Nat → Int
  | 0 => 1
  | n + 1 => raised b n * b
def numS (o : Off) : Nat → Int
  | 0 => fact o.1.toNat * (o.2 - 1) * raised o.2 (o.1 - 1).toNat
  | n + 1 => numS o n + chooseS o.1 n * fact n * raised o.2 n
def numDeeds (o : Off) : Int := numS o o.1.toNat
/-! ### classes -/
def peopleIn (o : Off) (p : Plan) : List Int :=
  if ((p.length : Nat) : Int) = o.1 - 1 then (rng o.1).filter (fun q => decide (q ∉ p.map Prod.fst)) ++ p.map Prod.fst else p.map Prod.fst
def behindIn (o : Off) (one other : Plan) : Bool :=
  if o.1 - 1 ≤ ((one.length : Nat) : Int) then decide (o.1 - 1 ≤ ((other.length : Nat) : Int))
  else if (one.all fun q => decide (q.1 ∈ other.map Prod.fst)) = true then true else decide (((other.length : Nat) : Int) = o.1 - 1)
def aheadIn (o : Off) (one other : Plan) : Bool :=
  decide ((peopleIn o one).length ≤ (peopleIn o other).length) && decide ((peopleIn o other).drop ((peopleIn o other).length - (peopleIn o one).length) = peopleIn o one)
def insI (p : Int) : List Int → List Int
  | [] => [p]
  | q :: r => if q < p then q :: insI p r else p :: q :: r
def isortI : List Int → List Int
  | [] => []
  | p :: r => insI p (isortI r)
def sameBehind (o : Off) (one other : Plan) : Bool := decide (isortI (peopleIn o one) = isortI (peopleIn o other))
/-! ### meets -/
def cost (o : Off) (p : Plan) : Int := (p.map fun q => if 0 < q.2 then q.2 else o.2).sum
section
variable {α : Type}
def lookT (t : List (Plan × α)) (k : Plan) : Option α := (t.find? fun kv => decide (kv.1 = k)).map (·.2)
def putT (t : List (Plan × α)) (k : Plan) (v : α) : List (Plan × α) :=
  if (t.any fun kv => decide (kv.1 = k)) = true then t.map (fun kv => if kv.1 = k then (kv.1, v) else kv) else t ++ [(k, v)]
end
def stepC (o : Off) (base : Plan) (t : List (Plan × Int)) (p : Plan) : List (Plan × Int) :=
  let there := least o (join o.2 base p)
  putT t there (if (lookT t there).getD 1000000 < cost o p then (lookT t there).getD 1000000 else cost o p)
def costs (o : Off) (base : Plan) : List (Plan × Int) := (deeds o).foldl (stepC o base) []
def both (t u : List (Plan × Int)) : List (Int × Plan) := t.filterMap fun kv => (lookT u kv.1).map fun c => (kv.2 + c, kv.1)
def cpLt (a b : Int × Plan) : Bool := if a.1 = b.1 then planLt a.2 b.2 else decide (a.1 < b.1)
def minP (x : Int × Plan) (xs : List (Int × Plan)) : Int × Plan := xs.foldl (fun a y => if cpLt y a = true then y else a) x
def meet (o : Off) (one other : Plan) : Int × Plan :=
  match both (costs o (least o one)) (costs o (least o other)) with
  | [] => (-1, [])
  | x :: xs => minP x xs
def stepF (o : Off) (base : Plan) (t : List (Plan × Bool)) (p : Plan) : List (Plan × Bool) := putT t (least o (join o.2 base p)) true
def reach (o : Off) (base : Plan) : List (Plan × Bool) := (deeds o).foldl (stepF o base) []
def common (o : Off) (one other : Plan) : List Plan :=
  isort ((reach o one).filterMap fun kv => if (lookT (reach o other) kv.1).isSome = true then some kv.1 else none)
/-! ### the law -/
def offs : List Off := [(1, 4), (2, 2), (2, 3), (3, 1), (2, 1)]
def prod (o : Off) (one other : Plan) : Plan := least o (join o.2 one other)
def law1 (o : Off) (one : Plan) : Bool := decide (((deeds o).map fun g => ((goesOn o one g).length : Int)).sum = numDeeds o)
def law2 (o : Off) (one : Plan) : Bool := decide (((deeds o).map fun g => ((goesAhead o one g).length : Int)).sum = numDeeds o)
def law3 (o : Off) (one other : Plan) : Bool := behindIn o (least o one) (least o (prod o one other)) && aheadIn o (least o other) (least o (prod o one other))
def law4 (o : Off) (one other : Plan) : Bool := behindIn o (least o (prod o one other)) (least o one) == sameBehind o (least o one) (least o (prod o one other))
def law5 (o : Off) (one other : Plan) : Bool := decide ((meet o one other).2 ∈ common o one other) && decide ((meet o one other).1 ≤ 2 * (o.1 * o.2 - 1))
def law6 (o : Off) (one other : Plan) : Bool := decide ((meet o one other).1 = 0) == decide (least o one = least o other)
def law7 (o : Off) (one : Plan) : Bool := decide (least o one ∈ goesOn o [] one) && decide (goesAhead o [] one = [least o one])
def all1 (o : Off) (one : Plan) : Bool := law1 o one && law2 o one && law7 o one
def all2 (o : Off) (one other : Plan) : Bool := law3 o one other && law4 o one other && law5 o one other && law6 o one other
end CL
/-! the order of plans; the one sorted list -/
namespace CL
theorem prLt_irrefl (a : Pr) : prLt a a = false := by
  unfold prLt
  rw [if_pos rfl]
  exact decide_eq_false (Int.lt_irrefl _)
theorem prLt_iff {a b : Pr} : prLt a b = true ↔ a.1 < b.1 ∨ (a.1 = b.1 ∧ a.2 < b.2) := by
  unfold prLt
  by_cases h : a.1 = b.1
  · rw [if_pos h, decide_eq_true_iff]
    omega
  · rw [if_neg h, decide_eq_true_iff]
    omega
theorem prLt_total {a b : Pr} (h : a ≠ b) : prLt a b = true ∨ prLt b a = true := by
  rw [prLt_iff, prLt_iff]
  by_cases h1 : a.1 = b.1
  · have h2 : a.2 ≠ b.2 := fun e => h (Prod.ext h1 e)
    omega
  · omega
theorem prLt_asym {a b : Pr} (h : prLt a b = true) : prLt b a = false := by
  cases e : prLt b a with
  | false => rfl
  | true =>
    rw [prLt_iff] at h e
    omega
theorem prLt_trans {a b c : Pr} (h : prLt a b = true) (h2 : prLt b c = true) : prLt a c = true := by
  rw [prLt_iff] at h h2 ⊢
  omega
theorem planLt_cons (x y : Pr) (xs ys : Plan) : planLt (x :: xs) (y :: ys) = if x = y then planLt xs ys else prLt x y := rfl
theorem planLt_irrefl : ∀ p : Plan, planLt p p = false
  | [] => rfl
  | x :: xs => by rw [planLt_cons, if_pos rfl, planLt_irrefl xs]
theorem planLt_total : ∀ {p q : Plan}, p ≠ q → planLt p q = true ∨ planLt q p = true
  | [], [], h => absurd rfl h
  | [], _ :: _, _ => .inl rfl
  | _ :: _, [], _ => .inr rfl
  | x :: xs, y :: ys, h => by
    rw [planLt_cons, planLt_cons]
    by_cases e : x = y
    · rw [if_pos e, if_pos e.symm]
      exact planLt_total fun z => h (by rw [e, z])
    · rw [if_neg e, if_neg (Ne.symm e)]
      exact prLt_total e
theorem planLt_trans : ∀ {p q r : Plan}, planLt p q = true → planLt q r = true → planLt p r = true
  | [], q, [], _, h2 => by cases q <;> simp [planLt] at h2
  | [], _, _ :: _, _, _ => rfl
  | _ :: _, [], _, h1, _ => by cases h1
  | _ :: _, _ :: _, [], _, h2 => by cases h2
  | x :: xs, y :: ys, z :: zs, h1, h2 => by
    rw [planLt_cons] at h1 h2 ⊢
    by_cases e : x = y
    · rw [if_pos e] at h1
      by_cases f : y = z
      · rw [if_pos f] at h2
        rw [if_pos (e.trans f)]
        exact planLt_trans h1 h2
      · rw [if_neg f] at h2
        rw [if_neg (by rw [e]; exact f), e]
        exact h2
    · rw [if_neg e] at h1
      by_cases f : y = z
      · rw [if_neg (by rw [← f]; exact e), ← f]
        exact h1
      · rw [if_neg f] at h2
        have h3 := prLt_trans h1 h2
        by_cases g : x = z
        · rw [g, prLt_irrefl] at h3
          cases h3
        · rw [if_neg g]
          exact h3
theorem planLt_asym {p q : Plan} (h : planLt p q = true) : planLt q p = false := by
  cases e : planLt q p with
  | false => rfl
  | true =>
    have z := planLt_trans h e
    rw [planLt_irrefl] at z
    cases z
theorem planLt_neg {x y z : Plan} (h1 : planLt y x = false) (h2 : planLt z y = false) : planLt z x = false := by
  cases e : planLt z x with
  | false => rfl
  | true =>
    by_cases g : x = y
    · rw [← g, e] at h2
      cases h2
    · rcases planLt_total g with k | k
      · rw [planLt_trans e k] at h2
        cases h2
      · rw [k] at h1
        cases h1
theorem ins_perm (p : Plan) : ∀ l : List Plan, (ins p l).Perm (p :: l)
  | [] => List.Perm.refl _
  | q :: r => by
    unfold ins
    by_cases h : planLt q p = true
    · rw [if_pos h]
      exact ((ins_perm p r).cons q).trans (List.Perm.swap p q r)
    · rw [if_neg h]
theorem isort_perm : ∀ l : List Plan, (isort l).Perm l
  | [] => List.Perm.refl _
  | p :: r => (ins_perm p (isort r)).trans ((isort_perm r).cons p)
abbrev Up (l : List Plan) : Prop := l.Pairwise fun a b => planLt b a = false
theorem ins_up (p : Plan) : ∀ {l : List Plan}, Up l → Up (ins p l)
  | [], _ => List.pairwise_singleton _ _
  | q :: r, h => by
    obtain ⟨h1, h2⟩ := List.pairwise_cons.mp h
    unfold ins
    by_cases k : planLt q p = true
    · rw [if_pos k]
      refine List.pairwise_cons.mpr ⟨fun z hz => ?_, ins_up p h2⟩
      rcases List.mem_cons.mp ((ins_perm p r).mem_iff.mp hz) with e | hz
      · rw [e]
        exact planLt_asym k
      · exact h1 z hz
    · rw [if_neg k]
      have k' : planLt q p = false := by
        cases e : planLt q p with
        | false => rfl
        | true => exact absurd e k
      refine List.pairwise_cons.mpr ⟨fun z hz => ?_, h⟩
      rcases List.mem_cons.mp hz with e | hz
      · rw [e]
        exact k'
      · exact planLt_neg k' (h1 z hz)
theorem isort_up : ∀ l : List Plan, Up (isort l)
  | [] => List.Pairwise.nil
  | p :: r => ins_up p (isort_up r)
theorem up_unique : ∀ {l m : List Plan}, Up l → Up m → l.Perm m → l = m
  | [], m, _, _, h => (List.Perm.eq_nil h.symm).symm
  | x :: l, [], _, _, h => absurd h.length_eq (by simp)
  | x :: l, y :: m, hl, hm, h => by
    obtain ⟨a1, a2⟩ := List.pairwise_cons.mp hl
    obtain ⟨b1, b2⟩ := List.pairwise_cons.mp hm
    have e : x = y := by
      by_cases e : x = y
      · exact e
      · have h1 : planLt x y = false := by
          rcases List.mem_cons.mp (h.mem_iff.mp (List.mem_cons_self (a := x) (l := l))) with z | z
          · exact absurd z e
          · exact b1 x z
        have h2 : planLt y x = false := by
          rcases List.mem_cons.mp (h.mem_iff.mpr (List.mem_cons_self (a := y) (l := m))) with z | z
          · exact absurd z.symm e
          · exact a1 y z
        rcases planLt_total e with k | k
        · rw [k] at h1
          cases h1
        · rw [k] at h2
          cases h2
    subst e
    rw [up_unique a2 b2 h.cons_inv]
theorem isort_of {l m : List Plan} (h : Up l) (p : l.Perm m) : l = isort m := up_unique h (isort_up m) (p.trans (isort_perm m).symm)
end CL
set_option Elab.async false
set_option linter.all false
set_option maxRecDepth 100000
set_option maxHeartbeats 4000000
/-! rules of our own: stars in displays, enumerate of a tuple -/
namespace CL
open PySem PySem.Spec PyProof.Rows L2
section
variable {X : Cx} {e : Expr} {es : List Expr} {te : TE} {t : TA} {p : Pos}
/-- *e, .. in a display: e a list or a tuple -/
def tStar (K : PySem.W.Frag) (te : TE) (t : TA) : TA := fun σ H Q => te σ H fun x H1 => ∃ a xs, x = .ref a ∧ (SqL K H1 a xs ∨ SqT K H1 a xs) ∧ t σ H1 fun ys H2 => Q (xs ++ ys) H2
theorem pa_star (ha : PE X e te) (hr : PA X es t) (hs : starEach (.Starred e p :: es) X.env = (true, eval e X.env) :: starEach es X.env := by rfl) : PA X (.Starred e p :: es) (tStar X.K te t) := by
  refine ⟨fun pos pins s σ H Q I h => ?_⟩
  refine PySem.W.items_star (thn (ha.run pins s σ H _ I h) fun u s1 ⟨x, H1, I1, r1, a, xs, ex, hq, q1⟩ => ?_) hs
  subst ex
  cases r1
  have fin : ∀ (its : List Value), Vals xs its → ∀ h', (∀ b o', s1.heap.get? b = some o' → h'.get? b = some o') →
      wpAny (model X.prog X.w) X.A (spliced (backTo pos (starEach es X.env))) (fun vs s₃ => AP X pins σ Q (its ++ vs) s₃) X.xe { s1 with heap := h' } := fun its rv h' hk =>
    thn (hr.run pos pins { s1 with heap := h' } σ H1 _ (I1.kept (t' := s1.toks) hk) q1) fun us s2 ⟨ys, H2, I2, r2, q2⟩ => ⟨xs ++ ys, H2, I2, rv.append r2, q2⟩
  unfold PySem.W.StarOf notIterableAtAll
  rcases hq with hq | hq
  · obtain ⟨its, rv, ⟨o, n, ho, hc, hd0, hd⟩, hz⟩ := I1.list hq
    have hlen := rv.length
    have hT : s1.TypeIs (.ref a) "list" := ⟨o, ho, hc⟩
    refine wpAny_bind (wpAny_specialOf hT PySem.F.slot_list_iter.lookup (wpAny_pure ⟨rfl, ?_⟩))
    exact wpAny_collect_seq a (.inl rfl) ho hc hd (fun h' hk => fin its rv h' hk) (by rw [List.size_toArray]; omega)
  · obtain ⟨its, rv, ⟨o, ho, hc, n, hd⟩, hz⟩ := I1.tuple hq
    have hlen := rv.length
    have hT : s1.TypeIs (.ref a) "tuple" := ⟨o, ho, hc⟩
    refine wpAny_bind (wpAny_specialOf hT PySem.F.slot_tuple_iter.lookup (wpAny_pure ⟨rfl, ?_⟩))
    exact wpAny_collect_seq a (.inr rfl) ho hc hd (fun h' hk => fin its rv h' hk) (by rw [List.size_toArray]; omega)
end

/-! ### enumerate(t), t a tuple -/
set_option maxHeartbeats 4000000 in
theorem meets_enumerate_one {v : Value} {o : Obj} {Hh : Heap → Prop} (B : Begins v o Hh) :
    Meets (Builtin.«enumerate.__new__» ⟨[.type "enumerate", v], []⟩) (fun _ R s => Hh s.heap ∧
      R (.ok (.ret (.ref (s.heap.push o).objs.size))) { s with heap := (s.heap.push o).push { cls := .type "enumerate", data := .fields #[.none, .bool false, .ref s.heap.objs.size, rawInt 0, .none, .none] } }) :=
  .of_wp fun prog w A R s h => by
    obtain ⟨hp, g, d, tk, os⟩ := s
    obtain ⟨h1, h⟩ := h
    have hsub := sub_enumerate
    have q1 : ∀ {A' : Around} {E : Value → Shared → Prop} {Q : Value → Shared → Prop}, Q (.ref hp.objs.size) ⟨hp.push o, g, d, tk, os⟩ → wpAny (model prog w) A' (pyIter v) Q E ⟨hp, g, d, tk, os⟩ :=
      fun q => B.iter prog w _ _ ⟨hp, g, d, tk, os⟩ _ h1 q
    wp_walk using q1
    refine wpAny_stack_any fun st => wpAny_pure ?_
    split
    · rename_i c _ _ _ _ _
      cases (c == Value.type "enumerate")
      · wp_walk using q1
        exact ⟨_, rfl, h⟩
      · wp_walk using q1
        exact ⟨_, rfl, h⟩
    · wp_walk using q1
      exact ⟨_, rfl, h⟩
theorem enum_one {prog : Program} {w : World} {A : Around} {E : Value → Shared → Prop} {s : Shared} {v : Value} {o : Obj} {Hh : Heap → Prop} {Q : Value → Shared → Prop} (B : Begins v o Hh) (h1 : Hh s.heap)
    (h : ∀ h', IsEnum h' (s.heap.objs.size + 1) s.heap.objs.size 0 .none → h'.get? s.heap.objs.size = some o → h'.objs.size = s.heap.objs.size + 2 →
      (∀ b o, s.heap.get? b = some o → h'.get? b = some o) → Q (.ref (s.heap.objs.size + 1)) { s with heap := h' }) :
    wpAny (model prog w) A (call (.type "enumerate") [v]) Q E s := by
  refine callType_new F.called_enumerate (by decide) (F.typeCall_enumerate_1 _) (F.newCall_enumerate_1 _) (fun obj => F.args_object_init_2 obj _) F.entry_enumerate_new (meets_enumerate_one B) ⟨h1, ?_⟩
  have hz : (s.heap.push o).objs.size = s.heap.objs.size + 1 := Heap.size_push ..
  show _ ∧ _
  rw [hz]
  have he : IsEnum ((s.heap.push o).push { cls := .type "enumerate", data := .fields #[.none, .bool false, .ref s.heap.objs.size, rawInt 0, .none, .none] }) (s.heap.objs.size + 1) s.heap.objs.size 0 .none := by
    have q := Heap.get?_push_size (s.heap.push o) (o := { cls := .type "enumerate", data := .fields #[.none, .bool false, .ref s.heap.objs.size, rawInt 0, .none, .none] }) rfl
    rw [hz] at q
    exact q
  exact ⟨⟨_, he, rfl⟩, h _ he (Heap.get?_push_of_some _ (Heap.get?_push_size _ B.free)) (by rw [Heap.size_push, hz]) fun b o x => Heap.get?_push_of_some _ (Heap.get?_push_of_some _ x)⟩
/-- the tuple at a, each item in a new pair -/
def IteT (K : PySem.W.Frag) (a : Addr) : It :=
  ⟨fun i H => ∃ (xs : List V) (x : V), SqT K H a xs ∧ xs[i]? = some x, fun i H v H' => ∃ T x, v = .ref T ∧ H T = none ∧ H' = upd H T (.tup [.int (i : Nat), x]) ∧ ∀ xs, SqT K H a xs → xs[i]? = some x, fun i H => ∃ xs : List V, SqT K H a xs ∧ xs.length ≤ i⟩
theorem turn_enumT {P : Program} {w : World} {K : PySem.W.Frag} {elts : List Expr} {kk : Nat} {tpos : Pos} (a e it : Addr) (hai : a ≠ it) :
    Turn P w K (.Tuple elts kk tpos) (IteT K a) [e, it] e (fun i h => (∃ old, IsEnum h e it ((i : Nat) : Int) old) ∧ h.IsTupleIter it a i ∧ e ≠ it ∧ e ≠ a) where
  mem := by simp
  obj := fun i h st b hb => by
    obtain ⟨⟨old, he⟩, ⟨o, ho, hc, hd⟩, _, _⟩ := st
    have e' : b = e ∨ b = it := by simpa using hb
    rcases e' with z | z
    · rw [z]
      exact ⟨_, he, fun v q => nomatch q⟩
    · rw [z]
      exact ⟨o, ho, fun v q => by rw [hd] at q; cases q⟩
  keep := fun i h h' st k => let ⟨⟨old, he⟩, hi, hne, hna⟩ := st; ⟨⟨old, k e (by simp) _ he⟩, hi.at fun o q => k it (by simp) o q, hne, hna⟩
  item := by
    intro X hP hw hK hc i pins s σ H E I hf st hg
    subst hP hw hK
    obtain ⟨⟨old, he⟩, hit, hne, hna⟩ := st
    obtain ⟨xs, x, hq, hx⟩ := hg
    obtain ⟨its, rv, p, hz⟩ := I.tuple hq
    obtain ⟨u, hu, ru⟩ := rv.get hx
    have hil : i < its.toArray.size := by
      rw [List.size_toArray]
      exact (List.getElem?_eq_some_iff.mp hu).1
    have hel : e < s.heap.objs.size := Heap.lt_size he
    have hitl : it < s.heap.objs.size := by
      obtain ⟨_, q, _⟩ := hit
      exact Heap.lt_size q
    have D : Draws X.prog X.w X.A.in1 it [it, a] its.toArray.size (fun i v => its.toArray[i]? = some v) (fun i h => h.IsTupleIter it a i ∧ h.IsTuple a its.toArray) := Draws.tuple (A := X.A.in1) (I.ok.hd hc) it a hai its.toArray
    have hef : e ∉ [it, a] := fun hm => by
      rcases List.mem_cons.mp hm with z | hm
      · exact hne z
      · exact hna (List.mem_singleton.mp hm)
    refine wpAny_pyNext_enum_itemC D he ⟨hit, p⟩ hil hne hef fun x' h' tk hPx ho hst hT hsz hk => ?_
    have exu : x' = u := by
      have e1 : its.toArray[i]? = some u := by simpa using hu
      rw [e1] at hPx
      exact (Option.some.inj hPx).symm
    subst exu
    refine ⟨_, rfl, wpAny_letOwnedTupleGo_enum (s := { s with heap := h', toks := tk + 1 }) ho fun h'' he' sb => ?_⟩
    have hT2 : h''.get? s.heap.objs.size = some { cls := .type "tuple", data := .seq #[.int i tk, x'] } := (sb.2 _ (Nat.ne_of_gt hel)).trans hT
    have new : ObjOk X.prog X.w (upd H s.heap.objs.size (.tup [.int (i : Nat), x])) h'' s.heap.objs.size (.tup [.int (i : Nat), x]) :=
      ⟨by show 2 ≤ sizeLine; decide, [.int i tk, x'], .cons ⟨_, rfl⟩ (.cons ru .nil), ⟨_, hT2, rfl, _, rfl⟩⟩
    have I1 : Inv X pins σ (upd H s.heap.objs.size (.tup [.int (i : Nat), x])) { s with heap := h'', toks := tk + 1 } :=
      I.turnedNew (ch := [e, it]) (fun b ob hb q => (sb.2 b (fun z => hb (by simp [z]))).trans (hk b ob (fun z => hb (by simp [z])) (fun z => hb (by simp [z])) q)) hf (Nat.le_refl _) new
    refine ⟨.ref s.heap.objs.size, _, I1, rfl, ⟨_, x, rfl, I.hok.fresh (Nat.le_refl _), rfl, fun ys hy => by rw [I.tuple_inj hy hq]; exact hx⟩, ⟨⟨x', ?_⟩, hst.1.at fun o q => (sb.2 it (Ne.symm hne)).trans q, hne, hna⟩, fun b hb => ?_⟩
    · have e1 : ((i + 1 : Nat) : Int) = (i : Int) + 1 := by omega
      rw [e1]
      exact he'
    · have hb' : b < s.heap.objs.size := by
        have e' : b = e ∨ b = it := by simpa using hb
        rcases e' with z | z
        · rw [z]; exact hel
        · rw [z]; exact hitl
      rw [upd_ne (Nat.ne_of_lt hb')]
      exact (hf b hb).1
  done := by
    intro X hP hw hK hc i pins s σ H E I hf st hg
    subst hP hw hK
    obtain ⟨⟨old, he⟩, hit, hne, hna⟩ := st
    obtain ⟨xs, hq, hx⟩ := hg
    obtain ⟨its, rv, p, hz⟩ := I.tuple hq
    obtain ⟨f0, f1, f2, f3, f4, f5⟩ := hf it (by simp)
    have hl := rv.length
    have D : Draws X.prog X.w X.A.in1 it [it, a] i (fun _ _ => False) (fun j h => j = i ∧ h.IsTupleIter it a i ∧ h.IsTuple a its.toArray) := by
      refine ⟨fun _ _ st => ?_, fun _ _ _ st k => ?_, fun j s' Q E' hj st => absurd st.1 (Nat.ne_of_lt hj), fun s' Q E' st hE => ?_⟩
      · obtain ⟨_, ⟨o, ho, _⟩, _⟩ := st
        exact ⟨o, ho⟩
      · exact ⟨st.1, st.2.1.at fun o q => k it (by simp) o q, st.2.2.at fun o q => k a (by simp) o q⟩
      · obtain ⟨_, h1, h2⟩ := st
        exact wpAny_nextOf_tuple_end (I.ok.hd hc) h1 h2 (by simp; omega) hE
    exact wpAny_pyNext_enum_endD D he ⟨rfl, hit, p⟩ fun h' eb => ⟨rfl, I.turned (t' := s.toks) (fun b o hb q => eb b o hb q) f0 f1 f3 f4 f5⟩
  self := fun A i s Q E st h => let ⟨⟨_, he⟩, _⟩ := st; wpAny_pyIter_enum he h
def iEnumT (K : PySem.W.Frag) (ta : TA) : TI := fun σ H R => ta σ H fun vs H1 => ∃ a xs, vs = [.ref a] ∧ SqT K H1 a xs ∧ R (IteT K a) H1
theorem pi_enumT {X : Cx} {e : Expr} {ta : TA} {p pos tpos : Pos} {elts : List Expr} {kk : Nat} (hg : Gl X "enumerate") (hm : X.mg "enumerate" = none) (ha : PA X [e] ta) (hs : starEach [e] X.env = [(false, eval e X.env)] := by rfl) :
    PI X (.Tuple elts kk tpos) (.Call (.Name "enumerate" p) [e] [] pos) (iEnumT X.K ta) := by
  refine ⟨fun pins s σ H R I h => ?_⟩
  refine Call_ (ld_blt I hg hm boot_enumerate (PyProof.Rows.callWith_type1 (thn (ha.run pos pins s σ H _ I h) fun us s1 ⟨vs, H1, I1, r1, q1⟩ => ?_) hs rfl))
  obtain ⟨a, xs, ex, hq, q⟩ := q1
  subst ex
  obtain ⟨u, rfl, ru⟩ := vals1 r1
  cases ru
  obtain ⟨its, rv, p', hz⟩ := I1.tuple hq
  have hal : a < s1.heap.objs.size := by
    obtain ⟨_, z, _⟩ := p'
    exact Heap.lt_size z
  refine enum_one (begins_tuple a its.toArray) p' fun h' he hit hsz hk => wpAny_pyIter_enum he ?_
  have I2 : Inv X pins σ H1 { s1 with heap := h' } := I1.kept (t' := s1.toks) hk
  refine ⟨s1.heap.objs.size + 1, [s1.heap.objs.size + 1, s1.heap.objs.size], _, _, H1, rfl, I2, turn_enumT a (s1.heap.objs.size + 1) s1.heap.objs.size (Nat.ne_of_lt hal), ⟨⟨.none, he⟩, ⟨_, hit, rfl, rfl⟩, Nat.succ_ne_self _, Nat.ne_of_gt (Nat.lt_succ_of_lt hal)⟩, fun b hb => ?_, q⟩
  have e' : b = s1.heap.objs.size + 1 ∨ b = s1.heap.objs.size := by simpa using hb
  have hle : s1.heap.objs.size ≤ b := by
    rcases e' with z | z
    · rw [z]; exact Nat.le_add_right _ _
    · rw [z]; exact Nat.le_refl _
  exact I1.fpOk hle (I1.hok.fresh hle)
/-- over a tuple that stays -/
theorem for_enumT {K : PySem.W.Frag} {a : Addr} {xs : List V} {g : TG} {tb : TS} {D : Ends} {σ : L2.St} {H : Hp} (Pv : Nat → L2.St → Hp → Prop) (h0 : Pv 0 σ H) (hl : ∀ i σ H, i ≤ xs.length → Pv i σ H → SqT K H a xs)
    (hs : ∀ i x σ H T, xs[i]? = some x → Pv i σ H → H T = none → g (.ref T) σ (upd H T (.tup [.int (i : Nat), x])) fun σ2 H2 => tb { D with nx := Pv (i + 1), ct := Pv (i + 1), bk := D.nx } σ2 H2) (hd : ∀ σ H, Pv xs.length σ H → D.nx σ H) :
    ∃ W : Nat → Nat → L2.St → Hp → Prop, (∃ m, W 0 m σ H) ∧ ∀ i m σ H, W i m σ H →
      ((IteT K a).stop i H ∧ D.nx σ H) ∨ ((IteT K a).go i H ∧ ∃ N : L2.St → Hp → Prop, (∀ σ' H', N σ' H' → ∃ m', m' < m ∧ W (i + 1) m' σ' H') ∧ ∀ x H', (IteT K a).yld i H x H' → g x σ H' fun σ2 H2 => tb { D with nx := N, ct := N, bk := D.nx } σ2 H2) := by
  refine ⟨fun i m σ H => m = xs.length - i ∧ i ≤ xs.length ∧ Pv i σ H, ⟨xs.length, by simp, Nat.zero_le _, h0⟩, ?_⟩
  rintro i m σ H ⟨rfl, hle, p⟩
  have q := hl i σ H hle p
  by_cases hlt : i < xs.length
  · refine .inr ⟨⟨xs, xs[i], q, by simp [hlt]⟩, Pv (i + 1), fun σ' H' p' => ⟨xs.length - (i + 1), by omega, rfl, hlt, p'⟩, fun x H' y => ?_⟩
    obtain ⟨T, z, rfl, hT, rfl, hz⟩ := y
    exact hs i z σ H T (hz xs q) p hT
  · have e : i = xs.length := by omega
    subst e
    exact .inl ⟨⟨xs, q, Nat.le_refl _⟩, hd σ H p⟩
end CL
set_option Elab.async false
set_option linter.all false
set_option maxRecDepth 100000
set_option maxHeartbeats 4000000
/-! what stands for a pair, a plan, a list of plans; dicts whose keys are plans -/
namespace CL
open PySem PySem.Spec PyProof.Rows L2 Evl
def IsPr (H : Hp) (v : V) (q : Pr) : Prop := ∃ a, v = .ref a ∧ H a = some (.tup [.int q.1, .int q.2])
def IsPlan (H : Hp) (v : V) (p : Plan) : Prop := ∃ a vs, v = .ref a ∧ H a = some (.tup vs) ∧ Paired (IsPr H) vs p
/-- at the address a list of plans -/
def PlansAt (H : Hp) (a : Addr) (ps : List Plan) : Prop := ∃ vs, H a = some (.lst vs) ∧ Paired (IsPlan H) vs ps
theorem IsPr.mono {H H' : Hp} (e : Ex H H') {v : V} {q : Pr} (h : IsPr H v q) : IsPr H' v q := by
  obtain ⟨a, rfl, h⟩ := h
  exact ⟨a, rfl, e _ _ h⟩
theorem prs_mono {H H' : Hp} (e : Ex H H') {vs : List V} {p : Plan} (h : Paired (IsPr H) vs p) : Paired (IsPr H') vs p := Paired.mapP h fun _ _ z => z.mono e
theorem IsPlan.mono {H H' : Hp} (e : Ex H H') {v : V} {p : Plan} (h : IsPlan H v p) : IsPlan H' v p := by
  obtain ⟨a, vs, rfl, h, r⟩ := h
  exact ⟨a, vs, rfl, e _ _ h, prs_mono e r⟩
theorem plans_mono {H H' : Hp} (e : Ex H H') {vs : List V} {ps : List Plan} (h : Paired (IsPlan H) vs ps) : Paired (IsPlan H') vs ps := Paired.mapP h fun _ _ z => z.mono e
theorem PlansAt.mono {H H' : Hp} (e : Ex H H') {a : Addr} {ps : List Plan} (h : PlansAt H a ps) : PlansAt H' a ps := by
  obtain ⟨vs, h, r⟩ := h
  exact ⟨vs, e _ _ h, plans_mono e r⟩
/-- tuples alone are looked at -/
theorem IsPr.tups {H H' : Hp} (e : ∀ b xs, H b = some (.tup xs) → H' b = some (.tup xs)) {v : V} {q : Pr} (h : IsPr H v q) : IsPr H' v q := by
  obtain ⟨a, rfl, h⟩ := h
  exact ⟨a, rfl, e _ _ h⟩
theorem IsPlan.tups {H H' : Hp} (e : ∀ b xs, H b = some (.tup xs) → H' b = some (.tup xs)) {v : V} {p : Plan} (h : IsPlan H v p) : IsPlan H' v p := by
  obtain ⟨a, vs, rfl, h, r⟩ := h
  exact ⟨a, vs, rfl, e _ _ h, Paired.mapP r fun _ _ z => z.tups e⟩
theorem tups_upd {H : Hp} {a : Addr} {o : HO} (h : ∀ xs, H a ≠ some (.tup xs)) : ∀ b xs, H b = some (.tup xs) → upd H a o b = some (.tup xs) := fun b xs q => by
  rw [upd_ne fun z => h xs (by rw [← z]; exact q)]
  exact q
theorem paired_at {α β : Type} {R : α → β → Prop} : ∀ {xs : List α} {ys : List β} {i : Nat} {x : α}, Paired R xs ys → xs[i]? = some x → ∃ y, ys[i]? = some y ∧ R x y
  | _, _, _, _, .nil, h => by simp at h
  | _, _, 0, _, .cons r _, h => ⟨_, rfl, by cases h; exact r⟩
  | _, _, i + 1, _, .cons _ t, h => paired_at (i := i) t (by simpa using h)
theorem paired_at' {α β : Type} {R : α → β → Prop} : ∀ {xs : List α} {ys : List β} {i : Nat} {y : β}, Paired R xs ys → ys[i]? = some y → ∃ x, xs[i]? = some x ∧ R x y
  | _, _, _, _, .nil, h => by simp at h
  | _, _, 0, _, .cons r _, h => ⟨_, rfl, by cases h; exact r⟩
  | _, _, i + 1, _, .cons _ t, h => paired_at' (i := i) t (by simpa using h)

/-! ### a plan as a key -/
def prK (q : Pr) : NestedKey := .tup [.num q.1, .num q.2]
def pk (p : Plan) : NestedKey := .tup (p.map prK)
theorem prK_inj {a b : Pr} (h : prK a = prK b) : a = b := by
  obtain ⟨a1, a2⟩ := a
  obtain ⟨b1, b2⟩ := b
  simp only [prK, NestedKey.tup.injEq, List.cons.injEq, NestedKey.num.injEq, and_true] at h
  rw [h.1, h.2]
theorem prKs_inj : ∀ {a b : Plan}, a.map prK = b.map prK → a = b
  | [], [], _ => rfl
  | [], _ :: _, h => by simp at h
  | _ :: _, [], h => by simp at h
  | x :: xs, y :: ys, h => by
    rw [List.map_cons, List.map_cons] at h
    injection h with h1 h2
    rw [prK_inj h1, prKs_inj h2]
theorem pk_inj {a b : Plan} (h : pk a = pk b) : a = b := by
  simp only [pk, NestedKey.tup.injEq] at h
  exact prKs_inj h
theorem prKs_depth : ∀ p : Plan, NestedKey.depthAll (p.map prK) ≤ 1
  | [] => by simp [NestedKey.depthAll]
  | q :: r => by
    have h := prKs_depth r
    simp only [List.map_cons, NestedKey.depthAll, prK, NestedKey.depth]
    omega
theorem pk_depth (p : Plan) : (pk p).depth ≤ 8 := by
  have h := prKs_depth p
  simp only [pk, NestedKey.depth]
  omega
section
variable {P : Program} {w : World} {H : Hp} {h : Heap}
theorem pr_key (ok : HOk P w H h) {v : V} {u : Value} {q : Pr} (x : IsPr H v q) (r : RelV v u) : NestedIs h (prK q) u := by
  obtain ⟨a, rfl, e⟩ := x
  cases r
  obtain ⟨_, its, rv, o, h1, h2, n, h3⟩ := (show ObjOk P w H h a (.tup [.int q.1, .int q.2]) from ok a _ e)
  obtain ⟨u1, u2, rfl, r1, r2⟩ := vals2 rv
  obtain ⟨t1, rfl⟩ := r1
  obtain ⟨t2, rfl⟩ := r2
  exact .tup h1 h2 h3 (.cons (.int _ _) (.cons (.int _ _) .nil))
theorem prs_key (ok : HOk P w H h) : ∀ {vs : List V} {us : List Value} {p : Plan}, Paired (IsPr H) vs p → Vals vs us → NestedAll h (p.map prK) us
  | _, _, _, .nil, .nil => .nil
  | _, _, _, .cons x t, .cons r s => .cons (pr_key ok x r) (prs_key ok t s)
theorem plan_key (ok : HOk P w H h) {b : Addr} {p : Plan} (x : IsPlan H (.ref b) p) : (nestedKind P w).is h (pk p) b := by
  obtain ⟨a, vs, e0, e, r⟩ := x
  cases e0
  obtain ⟨_, its, rv, o, h1, h2, n, h3⟩ := (show ObjOk P w H h b (.tup vs) from ok b _ e)
  exact ⟨.tup h1 h2 h3 (by simpa using prs_key ok r rv), pk_depth p⟩
end

/-! ### dicts whose keys are plans -/
abbrev XN := List (NestedKey × Addr × Value)
abbrev KN (H : Hp) : List (Plan × V) → XN → Prop := Paired fun p q => pk p.1 = q.1 ∧ IsPlan H (.ref q.2.1) p.1 ∧ RelV p.2 q.2.2
theorem KN.val {H : Hp} {kvs : List (Plan × V)} {xs : XN} (r : KN H kvs xs) (k : Plan) : RelO (valV kvs k) ((atKey xs (pk k)).map (·.2)) := by
  induction r with
  | nil => exact True.intro
  | @cons p q ps qs h t ih =>
    obtain ⟨h1, _, h2⟩ := h
    by_cases e : p.1 = k
    · have e' : q.1 = pk k := by rw [← h1, e]
      have b : atKey (q :: qs) (pk k) = some q.2 := by simp [atKey, List.find?_cons, e']
      rw [valV_pos e, b]
      exact h2
    · have e' : ¬ q.1 = pk k := fun z => e (pk_inj (h1.trans z))
      have b : atKey (q :: qs) (pk k) = atKey qs (pk k) := by simp [atKey, List.find?_cons, e']
      rw [valV_neg e, b]
      exact ih
theorem KN.repl {H : Hp} {kvs : List (Plan × V)} {xs : XN} (r : KN H kvs xs) (k : Plan) {y : V} {u : Value} (ry : RelV y u) :
    KN H (kvs.map fun kv => if kv.1 = k then (kv.1, y) else kv) (xs.map (putAt (pk k) u)) := by
  induction r with
  | nil => exact .nil
  | @cons p q ps qs h t ih =>
    rw [List.map_cons, List.map_cons]
    refine .cons ?_ ih
    obtain ⟨h1, h2, h3⟩ := h
    unfold putAt
    by_cases e : p.1 = k
    · rw [if_pos e, if_pos (by rw [← h1, e])]
      exact ⟨h1, h2, ry⟩
    · rw [if_neg e, if_neg (fun z => e (pk_inj (h1.trans z)))]
      exact ⟨h1, h2, h3⟩
theorem KN.put {H : Hp} {kvs : List (Plan × V)} {xs : XN} (r : KN H kvs xs) (k : Plan) {b : Addr} {y : V} {u : Value} (hb : IsPlan H (.ref b) k) (ry : RelV y u) :
    KN H (putK kvs k y) (storedH xs (pk k) b u) := by
  have e : (kvs.any fun kv => decide (kv.1 = k)) = (atKey xs (pk k)).isSome := by
    rw [valV_any, (r.val k).isSome_eq, Option.isSome_map]
  unfold putK storedH
  rw [e]
  by_cases q : (atKey xs (pk k)).isSome = true
  · rw [if_pos q, if_pos q]
    exact r.repl k ry
  · rw [if_neg q, if_neg q]
    exact Paired.snoc r ⟨rfl, hb, ry⟩
/-- the object at a is o -/
abbrev HObj (a : Addr) (o : Obj) : HO := .ext fun h => h.get? a = some o
/-- at a stands a dict with the plans' keys and values kvs -/
def DN (P : Program) (w : World) (H : Hp) (a : Addr) (kvs : List (Plan × V)) : Prop :=
  (a == sysModules) = false ∧ kvs.length ≤ sizeLine ∧ ∃ (o : Obj) (es : Array DictEntry) (ep : Nat) (xs : XN), H a = some (HObj a o) ∧ o.ExactDict ∧ o.data = .dict es ep ∧ es.toList = xs.map (entryOfKey (nestedKind P w)) ∧ (xs.map (·.1)).Nodup ∧ KN H kvs xs
theorem DN.mono {P : Program} {w : World} {H H' : Hp} (e : Ex H H') {a : Addr} {kvs : List (Plan × V)} (d : DN P w H a kvs) : DN P w H' a kvs := by
  obtain ⟨h1, h2, o, es, ep, xs, h3, h4, h5, h6, h7, h8⟩ := d
  exact ⟨h1, h2, o, es, ep, xs, e _ _ h3, h4, h5, h6, h7, Paired.mapP h8 fun _ _ z => ⟨z.1, z.2.1.mono e, z.2.2⟩⟩
/-- it stands where its own object and the tuples stand -/
theorem DN.keep {P : Program} {w : World} {H H' : Hp} {a : Addr} {kvs : List (Plan × V)} (d : DN P w H a kvs) (e : ∀ o, H a = some o → H' a = some o) (t : ∀ b xs, H b = some (.tup xs) → H' b = some (.tup xs)) : DN P w H' a kvs := by
  obtain ⟨h1, h2, o, es, ep, xs, h3, h4, h5, h6, h7, h8⟩ := d
  exact ⟨h1, h2, o, es, ep, xs, e _ h3, h4, h5, h6, h7, Paired.mapP h8 fun _ _ z => ⟨z.1, z.2.1.tups t, z.2.2⟩⟩
theorem DN.ext {P : Program} {w : World} {H : Hp} {a : Addr} {kvs : List (Plan × V)} (d : DN P w H a kvs) : ∃ φ, H a = some (.ext φ) := by
  obtain ⟨_, _, o, _, _, _, h3, _⟩ := d
  exact ⟨_, h3⟩
section
variable {X : Cx} {pins : List (Addr × Obj)} {σ : L2.St} {H : Hp} {s : Shared} {a b : Addr} {kvs : List (Plan × V)} {k : Plan} {v : V} {A : Around} {E : Value → Shared → Prop}
theorem Inv.dn (I : Inv X pins σ H s) (d : DN X.prog X.w H a kvs) : (a == sysModules) = false ∧ kvs.length ≤ sizeLine ∧ ∃ (o : Obj) (es : Array DictEntry) (ep : Nat) (xs : XN),
    s.heap.get? a = some o ∧ o.ExactDict ∧ o.data = .dict es ep ∧ es.toList = xs.map (entryOfKey (nestedKind X.prog X.w)) ∧ KN H kvs xs ∧ s.heap.DictOfH (nestedKind X.prog X.w) a xs := by
  obtain ⟨h1, h2, o, es, ep, xs, h3, h4, h5, h6, h7, h8⟩ := d
  have q : ObjOk X.prog X.w H s.heap a (HObj a o) := I.hok a _ h3
  have ho : s.heap.get? a = some o := q.1
  refine ⟨h1, h2, o, es, ep, xs, ho, h4, h5, h6, h8, o, es, ep, ho, h4, h5, h6, fun x hx => ?_, h7⟩
  have all : ∀ {l : List (Plan × V)} {m : XN}, KN H l m → ∀ x ∈ m, (nestedKind X.prog X.w).is s.heap x.1 x.2.1 := by
    intro l m z
    induction z with
    | nil => intro x hx; exact nomatch hx
    | @cons p q ps qs hq t ih =>
      intro x hx
      rcases List.mem_cons.mp hx with e | hx
      · subst e
        rw [← hq.1]
        exact plan_key I.hok hq.2.1
      · exact ih x hx
  exact all h8 x hx
theorem objOk_obj {P : Program} {w : World} {H : Hp} {h : Heap} {a : Addr} {o : Obj} (e : h.get? a = some o) : ObjOk P w H h a (HObj a o) := ⟨e, ⟨o, e⟩, fun _ _ p k => k _ p⟩
abbrev RoomN (A : Around) : Prop := A.units + 16 < cLine
theorem roomN_in1 {A : Around} (h : RoomN A) (P : Program) (w : World) : (nestedKind P w).room A.in1 := by
  show A.units + 1 + 8 < cLine
  have h' : A.units + 16 < cLine := h
  omega
/-- d[k] = v -/
theorem dn_set {r : Value} {Q : Unit → Shared → Prop} (hu : RoomN A) (I : Inv X pins σ H s) (d : DN X.prog X.w H a kvs) (hk : IsPlan H (.ref b) k) (hl : kvs.length < sizeLine) (rv : RelV v r)
    (h : ∀ s' o, DN X.prog X.w (upd H a (HObj a o)) a (putK kvs k v) → Inv X pins σ (upd H a (HObj a o)) s' → Q () s') :
    wpAny (model X.prog X.w) A (setItem (.ref a) (.ref b) r) Q E s := by
  have dd := d
  obtain ⟨_, _, o0, _, _, _, h3, _⟩ := dd
  obtain ⟨hs, hz, o, es, ep, xs, ho, ex, hd, he, rel, dh⟩ := Inv.dn I d
  have hz' : xs.length ≤ sizeLine := by
    rw [← Paired.length rel]
    exact hz
  refine wpAny_setItem_heap (hsz := hz') (roomN_in1 hu _ _) (plan_key I.hok hk) dh fun h' dd' hs' => ?_
  obtain ⟨q, es', ep', hq, h2, h4, h5, _, h6⟩ := dd'
  have I' : Inv X pins σ (upd H a (HObj a q)) { s with heap := h', toks := s.toks + (nestedKind X.prog X.w).draws (pk k) } :=
    d_write I (by rw [h3]; exact True.intro) hs' ⟨q, hq⟩ (objOk_obj hq)
  have tp : ∀ c xs, H c = some (.tup xs) → upd H a (HObj a q) c = some (.tup xs) := tups_upd fun xs z => by
    rw [h3] at z
    cases z
  refine h _ q ⟨hs, ?_, q, es', ep', _, upd_same, h2, h4, h5, h6, Paired.mapP (rel.put k hk rv) fun _ _ z => ⟨z.1, z.2.1.tups tp, z.2.2⟩⟩ I'
  have := length_putK kvs k v
  omega
/-- k in d -/
theorem dn_in {Q : Value → Shared → Prop} (hu : RoomN A) (I : Inv X pins σ H s) (d : DN X.prog X.w H a kvs) (hk : IsPlan H (.ref b) k) (h : ∀ s', Inv X pins σ H s' → Q (.bool (valV kvs k).isSome) s') :
    wpAny (model X.prog X.w) A (compareOp .In (.ref b) (.ref a)) Q E s := by
  obtain ⟨hs, hz, o, es, ep, xs, ho, ex, hd, he, rel, dh⟩ := Inv.dn I d
  refine wpAny_in_heap (roomN_in1 hu _ _) (plan_key I.hok hk) hs dh ?_
  have q := (rel.val k).isSome_eq
  rw [Option.isSome_map] at q
  rw [← q]
  exact h _ (I.tok _)
/-- d[k], there -/
theorem dn_get {Q : Value → Shared → Prop} (hu : RoomN A) (I : Inv X pins σ H s) (d : DN X.prog X.w H a kvs) (hk : IsPlan H (.ref b) k) (hv : valV kvs k = some v) (h : ∀ w' s', Inv X pins σ H s' → RelV v w' → Q w' s') :
    wpAny (model X.prog X.w) A (getItem (.ref a) (.ref b)) Q E s := by
  obtain ⟨hs, hz, o, es, ep, xs, ho, ex, hd, he, rel, dh⟩ := Inv.dn I d
  obtain ⟨w', hw, rw'⟩ := RelO.some_of (v := v) (o := (atKey xs (pk k)).map (·.2)) (by rw [← hv]; exact rel.val k)
  obtain ⟨p, hp, hp2⟩ := Option.map_eq_some_iff.mp hw
  refine wpAny_getItem_heap (roomN_in1 hu _ _) (plan_key I.hok hk) dh hp ?_
  rw [hp2]
  exact h w' _ (I.tok _) rw'
/-- d.get(k, x) -/
theorem dn_get2 {z : V} {r : Value} {Q : Value → Shared → Prop} (hu : RoomN A) (I : Inv X pins σ H s) (d : DN X.prog X.w H a kvs) (hk : IsPlan H (.ref b) k) (rz : RelV z r) (h : ∀ w' s', Inv X pins σ H s' → RelV ((valV kvs k).getD z) w' → Q w' s') :
    wpAny (model X.prog X.w) A (call (.builtin "dict.get") [.ref a, .ref b, r]) Q E s := by
  obtain ⟨hs, hz, o, es, ep, xs, ho, ex, hd, he, rel, dh⟩ := Inv.dn I d
  refine call_meetsIn PySem.F.slot_dict_get dh.typeIs PySem.F.entry_dict_get (PySem.F.args_dict_get_3 _ _ _) (meetsH_dict_get_default (nestedKind X.prog X.w) a b hs r) ⟨roomN_in1 hu _ _, pk k, xs, plan_key I.hok hk, dh, h _ _ (I.tok _) ?_⟩
  exact (rel.val k).getD rz
end
/-! ### as rules -/
section
variable {X : Cx} {o i e f value : Expr} {pos pos' tpos apos cpos : Pos} {td ty tv tx : TE}
/-- {}, to be a dict of plans -/
def tDNewN (P : Program) (w : World) : TE := fun _ H Q => ∀ p ob, H p = none → DN P w (upd H p (HObj p ob)) p [] → Q (.ref p) (upd H p (HObj p ob))
theorem pe_dnewN : PE X (.Dict [] [] pos) (tDNewN X.prog X.w) := ⟨fun pins s σ H Q I h => by
  have e : (s.heap.push { cls := .type "dict", data := .dict #[] }).get? s.heap.objs.size = some { cls := .type "dict", data := .dict #[] } := Heap.get?_push_size _ rfl
  refine wpAny_Dict_empty ⟨.ref s.heap.objs.size, _, I.laid (a := s.heap.objs.size) (o := HObj s.heap.objs.size { cls := .type "dict", data := .dict #[] }) (t' := s.toks) (fun _ _ q => Heap.get?_push_of_some _ q) (Nat.le_refl _) (objOk_obj e), rfl, h _ _ (I.hok.fresh (Nat.le_refl _)) ?_⟩
  exact ⟨beq_eq_false_iff_ne.mpr (Ne.symm (Nat.ne_of_lt I.big)), Nat.zero_le _, _, #[], 0, [], upd_same, ⟨rfl, rfl, rfl⟩, rfl, rfl, List.nodup_nil, .nil⟩⟩
def tNGet (P : Program) (w : World) (td ty : TE) : TE := fun σ H Q => td σ H fun x H1 => ty σ H1 fun y H2 => ∃ a b kvs k v, x = .ref a ∧ y = .ref b ∧ DN P w H2 a kvs ∧ IsPlan H2 (.ref b) k ∧ valV kvs k = some v ∧ Q v H2
theorem dn_type {pins : List (Addr × Obj)} {σ : L2.St} {H : Hp} {s : Shared} {a : Addr} {kvs : List (Plan × V)} (I : Inv X pins σ H s) (d : DN X.prog X.w H a kvs) :
    s.TypeIs (.ref a) "dict" ∧ ∀ b, Value.ref a = .ref b → ∃ ob, s.heap.get? b = some ob ∧ ob.dict = none := by
  obtain ⟨_, _, o, _, _, _, ho, ex, _⟩ := Inv.dn I d
  refine ⟨⟨o, ho, ex.1⟩, fun b q => ?_⟩
  cases q
  exact ⟨o, ho, ex.2.1⟩
theorem pe_nget (hu : RoomN X.A) (ho : PE X o td) (hi : PE X i ty) (hs : NoSl i) : PE X (.Subscript o i pos) (tNGet X.prog X.w td ty) := by
  refine ⟨fun pins s σ H Q I h => ?_⟩
  refine subD_of PySem.F.slot_dict_getitem.lookup hs (thn (ho.run pins s σ H _ I h) fun u s1 ⟨x, H1, I1, rx, q1⟩ => thn (hi.run pins s1 σ H1 _ I1 q1) fun iv s2 ⟨y, H2, I2, ry, a, b, kvs, k, v, ex, ey, d, hk, hv, q2⟩ => ?_)
  subst ex ey
  cases rx
  cases ry
  exact ⟨(dn_type I2 d).1, dn_get hu I2 d hk hv fun w' s3 I3 rw' => ⟨v, H2, I3, rw', q2⟩⟩
def tNIn (P : Program) (w : World) (ty td : TE) : TE := fun σ H Q => ty σ H fun y H1 => td σ H1 fun x H2 => ∃ a b kvs k, x = .ref a ∧ y = .ref b ∧ DN P w H2 a kvs ∧ IsPlan H2 (.ref b) k ∧ Q (.bl (valV kvs k).isSome) H2
theorem pc_nin (hu : RoomN X.A) (hi : PE X i ty) (ho : PE X o td) : PC X .In i o (tNIn X.prog X.w ty td) := by
  refine ⟨fun pins s σ H Q I h => ?_⟩
  refine thn (hi.run pins s σ H _ I h) fun iv s1 ⟨y, H1, I1, ry, q1⟩ => thn (ho.run pins s1 σ H1 _ I1 q1) fun u s2 ⟨x, H2, I2, rx, a, b, kvs, k, ex, ey, d, hk, q2⟩ => ?_
  subst ex ey
  cases rx
  cases ry
  exact dn_in hu I2 d hk fun s3 I3 => ⟨.bl _, H2, I3, rfl, q2⟩
def sNPut (P : Program) (w : World) (td ty tv : TE) : TS := fun D σ H => tv σ H fun v H1 => td σ H1 fun x H2 => ty σ H2 fun y H3 => ∃ a b kvs k, x = .ref a ∧ y = .ref b ∧ DN P w H3 a kvs ∧ IsPlan H3 (.ref b) k ∧ kvs.length < sizeLine ∧
  ∀ ob, DN P w (upd H3 a (HObj a ob)) a (putK kvs k v) → D.nx σ (upd H3 a (HObj a ob))
theorem ps_nput (hu : RoomN X.A) (ho : PE X o td) (hi : PE X i ty) (hv : PE X value tv) (hs : swapsWith value (some (.Subscript o i pos')) pos.line X.env = pure false) :
    PS X (.Assign [.Subscript o i pos'] value pos) (sNPut X.prog X.w td ty tv) := by
  refine ⟨fun pins s σ H D I h => ?_⟩
  refine wpAny_Assign_Subscript (thn (hv.run pins s σ H _ I h) fun r s1 ⟨v, H1, I1, rv, q1⟩ => thn (ho.run pins s1 σ H1 _ I1 q1) fun u s2 ⟨x, H2, I2, rx, q2⟩ => thn (hi.run pins s2 σ H2 _ I2 q2) fun iv s3 ⟨y, H3, I3, ry, a, b, kvs, k, ex, ey, d, hk, hl, q3⟩ => ?_) hs
  subst ex ey
  cases rx
  cases ry
  exact dn_set hu I3 d hk hl rv fun s4 ob d4 I4 => ⟨σ, _, I4, q3 ob d4⟩
def tNGet2 (P : Program) (w : World) (td ty tx : TE) : TE := fun σ H Q => td σ H fun x H1 => (∃ a kvs, x = .ref a ∧ DN P w H1 a kvs) ∧ ty σ H1 fun y H2 => tx σ H2 fun z H3 => ∃ a b kvs k, x = .ref a ∧ y = .ref b ∧ DN P w H3 a kvs ∧ IsPlan H3 (.ref b) k ∧ Q ((valV kvs k).getD z) H3
theorem pe_nget2 (hu : RoomN X.A) (ho : PE X o td) (he : PE X e ty) (hf : PE X f tx) (m : M2 X o "get" apos e f cpos) : PE X (.Call (.Attribute o "get" apos) [e, f] [] cpos) (tNGet2 X.prog X.w td ty tx) := by
  refine ⟨fun pins s σ H Q I h => ?_⟩
  refine wpAny_Call_method m.base m.few m.line PySem.F.plainAttrs_dict PySem.F.slot_dict_get PySem.F.type_dict_get (thn (ho.run pins s σ H _ I h) fun u s1 ⟨x, H1, I1, rx, ⟨a0, kvs0, ex0, d0⟩, q1⟩ => ?_)
  subst ex0
  cases rx
  obtain ⟨t1, t2⟩ := dn_type I1 d0
  refine ⟨t1, t2, ?_⟩
  rw [m.trees]
  refine Calls.callWith_builtin rfl (Calls.evalArgs_plain (Calls.spliced_cons (thn (he.run pins s1 σ H1 _ I1 q1) fun iv s2 ⟨y, H2, I2, ry, q2⟩ =>
    Calls.spliced_cons (thn (hf.run pins s2 σ H2 _ I2 q2) fun fv s3 ⟨z, H3, I3, rz, a, b, kvs, k, ex, ey, d, hk, q3⟩ => Calls.spliced_nil ?_))))
  cases ex
  subst ey
  cases ry
  exact dn_get2 hu I3 d hk rz fun w' s4 I4 rw' => ⟨_, H3, I4, rw', q3⟩
/-! ### for k in d -/
def ItN (P : Program) (w : World) (d : Addr) (o : Obj) (kvs : List (Plan × V)) : It :=
  ⟨fun i H => H d = some (HObj d o) ∧ DN P w H d kvs ∧ i < kvs.length, fun i H x H' => H' = H ∧ ∃ (k : Plan) (v : V), kvs[i]? = some (k, v) ∧ IsPlan H x k, fun i H => H d = some (HObj d o) ∧ DN P w H d kvs ∧ kvs.length ≤ i⟩
theorem turn_keysN {P : Program} {w : World} {K : PySem.W.Frag} {tg : Expr} {d : Addr} {o : Obj} {es : Array DictEntry} {ep : Nat} {kvs : List (Plan × V)} (it : Addr) (hod : o.data = .dict es ep) :
    Turn P w K tg (ItN P w d o kvs) [it] it (fun i h => h.IsKeyIter it d i kvs.length ep) where
  mem := by simp
  obj := fun i h st b hb => by
    have e : b = it := by simpa using hb
    subst e
    obtain ⟨oi, e, c, dd⟩ := st
    exact ⟨oi, e, fun v z => by rw [dd] at z; cases z⟩
  keep := fun i h h' st k => st.at fun oi e => k it (by simp) oi e
  item := by
    intro X hP hw hK hc i pins s σ H E I hf st hg
    subst hP hw hK
    obtain ⟨ho0, hd, hi⟩ := hg
    obtain ⟨f0, f1, f2, f3, f4, f5⟩ := hf it (by simp)
    obtain ⟨hs, hz, o', es', ep', xs, hgd, hx, hdt, he, rel, dh⟩ := Inv.dn I hd
    have q0 : ObjOk X.prog X.w H s.heap d (HObj d o) := I.hok d _ ho0
    have hgo : s.heap.get? d = some o := q0.1
    rw [hgo] at hgd
    cases hgd
    obtain ⟨rfl, rfl⟩ := dict_ep hod hdt
    obtain ⟨⟨k, v⟩, hkv⟩ : ∃ p, kvs[i]? = some p := ⟨kvs[i], List.getElem?_eq_getElem hi⟩
    obtain ⟨y, hy, e1, e2, _⟩ := paired_at rel hkv
    have hen : es'[i]? = some (entryOfKey (nestedKind X.prog X.w) y) := by
      rw [entry_at he i, hy]
      rfl
    have hsz : es'.size = kvs.length := by
      have l1 : es'.size = xs.length := by
        have z := congrArg List.length he
        rw [List.length_map, Array.length_toList] at z
        exact z
      rw [l1, Paired.length rel]
    refine next_key_item st hgo hod hsz hen fun h' st' sb => ?_
    have I1 : Inv X pins σ H { s with heap := h' } := I.turned (t' := s.toks) (fun b ob hb e => (sb.2 b hb).trans e) f0 f1 f3 f4 f5
    obtain ⟨oi, e, c, dd⟩ := id st'
    exact ⟨_, rfl, go_of (s := { s with heap := h' }) e c dd (by decide) ⟨.ref y.2.1, H, I1, rfl, ⟨rfl, k, v, hkv, e2⟩, st', fun b hb => (hf b hb).1⟩⟩
  done := by
    intro X hP hw hK hc i pins s σ H E I hf st hg
    subst hP hw hK
    obtain ⟨ho0, hd, hi⟩ := hg
    obtain ⟨f0, f1, f2, f3, f4, f5⟩ := hf it (by simp)
    obtain ⟨hs, hz, o', es', ep', xs, hgd, hx, hdt, he, rel, dh⟩ := Inv.dn I hd
    have q0 : ObjOk X.prog X.w H s.heap d (HObj d o) := I.hok d _ ho0
    have hgo : s.heap.get? d = some o := q0.1
    rw [hgo] at hgd
    cases hgd
    obtain ⟨rfl, rfl⟩ := dict_ep hod hdt
    have hsz : es'.size = kvs.length := by
      have l1 : es'.size = xs.length := by
        have z := congrArg List.length he
        rw [List.length_map, Array.length_toList] at z
        exact z
      rw [l1, Paired.length rel]
    exact next_key_end (I.ok.hd hc) st hgo hod hsz hi fun h' eb => ⟨rfl, I.turned (t' := s.toks) (fun b o hb e => eb b o hb e) f0 f1 f3 f4 f5⟩
  self := fun A i s Q E st h => by
    refine wpAny_pyIter_slot st.typeIs F.slot_dict_keyiterator_iter (wpAny_call_entry F.slot_dict_keyiterator_iter st.typeIs F.entry_dict_keyiterator_iter ?_ (F.args_dict_keyiterator_iter_1 _))
    show wpAny _ _ (ret (.ref it)) _ _ s
    exact wpAny_pure ⟨_, rfl, "dict_keyiterator", _, st.typeIs, F.slot_dict_keyiterator_next.lookup, h⟩
def iKeysN (P : Program) (w : World) (td : TE) : TI := fun σ H R => td σ H fun x H1 => ∃ d kvs, x = .ref d ∧ DN P w H1 d kvs ∧ ∀ o, H1 d = some (HObj d o) → R (ItN P w d o kvs) H1
theorem pi_keysN {tg : Expr} (he : PE X e td) : PI X tg e (iKeysN X.prog X.w td) := by
  refine ⟨fun pins s σ H R I h => ?_⟩
  refine thn (he.run pins s σ H _ I h) fun u s1 ⟨x, H1, I1, rx, d, kvs, ex, hd, q⟩ => ?_
  subst ex
  cases rx
  have hd0 := hd
  obtain ⟨_, _, o, es, ep, xs, h3, h4, h5, h6, h7, rel⟩ := hd0
  obtain ⟨hs, _⟩ := Inv.dn I1 hd
  have q0 : ObjOk X.prog X.w H1 s1.heap d (HObj d o) := I1.hok d _ h3
  have hsz : es.size = kvs.length := by
    have z := congrArg List.length h6
    rw [List.length_map, Array.length_toList] at z
    rw [z, Paired.length rel]
  refine iter_keys hs q0.1 h4 h5 (pi_one (tk := s1.toks) I1 _ (turn_keysN _ h5) ⟨_, Heap.get?_push_size _ rfl, rfl, ?_⟩ (q o h3))
  rw [hsz]
  rfl
end
end CL
set_option Elab.async false
set_option linter.all false
set_option maxRecDepth 100000
set_option maxHeartbeats 4000000
/-! tuple(d.items()) -/
namespace CL
open PySem PySem.Spec PyProof.Rows L2 Evl
section
variable {prog : Program} {w : World} {A : Around} {E : Value → Shared → Prop} {s : Shared} {r d : Addr} {K : Type} [DecidableEq K] {knd : KeyKind prog w K} {kvs : List (K × Value)} {ep : Nat}
theorem code_tuple_items {Q₁ : Value → Shared → Prop} (hh : A.handled = none) (hv : s.heap.IsItemsView r d) (hm : s.heap.DictAt knd d kvs ep) (hn : kvs.length ≤ sizeLine)
    (h : ∀ (h' : Heap) (tk : Nat) (as : List Addr), (∀ b o, s.heap.get? b = some o → h'.get? b = some o) → as.length = kvs.length → PySem.W.KdxG knd kvs s.heap.objs.size h' as →
      Q₁ (.ref h'.objs.size) { s with heap := h'.push { cls := .type "tuple", data := .seq (as.map Value.ref).toArray }, toks := tk }) :
    codeAny (model prog w) A (.call (.builtin "tuple.__new__") ⟨[.type "tuple", .ref r], []⟩) (wants Q₁ E) s := by
  refine codeAny_of_tree ?_
  show wpAny _ A.in1 (do checkBuiltinCall "tuple.__new__" ⟨[.type "tuple", .ref r], []⟩; again (.builtin "tuple.__new__" ⟨[.type "tuple", .ref r], []⟩)) _ _ s
  refine wpAny_bind (wpAny_of_eq (F.newCall_tuple_1 _) (wpAny_pure ⟨plainId_quiet F.plain_tuple_new _, codeAny_builtin F.entry_tuple_new ?_⟩))
  rw [Around.under_plainId F.plain_tuple_new _]
  have hsub := sub_tuple_self
  have hinit := init_tuple_lookup
  have hmh := madeHere_tuple
  have hTI : s.TypeIs (.ref r) "dict_items" := hv.typeIs
  have hh1 : A.in1.handled = none := hh
  have col : ∀ {R : List Value → Shared → Prop} {E : Value → Shared → Prop}, (∀ (h' : Heap) (tk : Nat) (as : List Addr), (∀ b o, s.heap.get? b = some o → h'.get? b = some o) → as.length = kvs.length → PySem.W.KdxG knd kvs s.heap.objs.size h' as → R (as.map Value.ref) { s with heap := h', toks := tk }) →
      wpAny (model prog w) A.in1 (collect (.ref r)) R E s := fun k => PySem.W.kdx_collect (A := A.in1) hh1 hv hm hn k
  wp_walk using wpAny_typeOf hTI, col
  intro h' tk as hk hl hG
  show wpAny _ _ (Builtin.Tuple.tupleExact (as.map Value.ref).toArray >>= fun v => ret v) _ _ _
  unfold Builtin.Tuple.tupleExact
  refine wpAny_bind (wpAny_newObj_type ?_ (by show (as.map Value.ref).toArray.size ≤ sizeLine; rw [List.size_toArray, List.length_map, hl]; exact hn))
  exact wpAny_pure (h h' tk as hk hl hG)
theorem call_tuple_items {Q : Value → Shared → Prop} (hh : A.handled = none) (hv : s.heap.IsItemsView r d) (hm : s.heap.DictAt knd d kvs ep) (hn : kvs.length ≤ sizeLine)
    (h : ∀ (h' : Heap) (tk : Nat) (as : List Addr), (∀ b o, s.heap.get? b = some o → h'.get? b = some o) → as.length = kvs.length → PySem.W.KdxG knd kvs s.heap.objs.size h' as →
      Q (.ref h'.objs.size) { s with heap := h'.push { cls := .type "tuple", data := .seq (as.map Value.ref).toArray }, toks := tk }) :
    wpAny (model prog w) A (call (.type "tuple") [.ref r]) Q E s := by
  refine callType_codes (Q₁ := fun obj s₁ => s₁.TypeIs obj "tuple" ∧ Q obj s₁) F.called_tuple (F.typeCall_tuple_1 _) F.entry_object_init
    (code_tuple_items (A := A.in1) hh hv hm hn fun h' tk as hk hl hG => ⟨⟨_, Heap.get?_push_size _ rfl, rfl⟩, h h' tk as hk hl hG⟩) fun obj s₁ h₁ => ?_
  exact ⟨h₁.1, F.args_object_init_2 obj _, object_init_meets F.called_tuple.init.lookup F.called_tuple.made (by decide) prog w A.in1 _ s₁ ⟨h₁.1, rfl, h₁.2⟩⟩
end
def rItemsT : V → Hp → VK → Prop := fun x H Q => ∃ (d : Addr) (kvs : List (Key × V)), x = .ref d ∧ H d = some (.dK kvs) ∧
  ∀ (H' : Hp) (p : Addr) (ts : List Addr), Ex H H' → H p = none → H' p = some (.tup (ts.map V.ref)) → Paired (fun (t : Addr) (q : Key × V) => H' t = some (.tup [kV q.1, q.2])) ts kvs → Q (.ref p) H'
def tTupItems (te : TE) : TE := fun σ H Q => te σ H fun x H1 => rItemsT x H1 Q
section
variable {X : Cx} {e : Expr} {te : TE} {p apos cpos pos : Pos}
theorem itemsT_laid {pins : List (Addr × Obj)} {σ : L2.St} {H : Hp} {s : Shared} {h' : Heap} {tk : Nat} {kvs : List (Key × V)} {vs : List (Key × Value)} {as : List Addr} (I : Inv X pins σ H s) (kv : KV kvs vs)
    (hk : ∀ b o, s.heap.get? b = some o → h'.get? b = some o) (hl : as.length = vs.length) (hG : PySem.W.KdxG (mixKind X.prog X.w) vs s.heap.objs.size h' as) :
    ∃ H' : Hp, Ex H H' ∧ Paired (fun (t : Addr) (q : Key × V) => H' t = some (.tup [kV q.1, q.2])) as kvs ∧ Inv X pins σ H' { s with heap := h', toks := tk } := by
  have lk : kvs.length = vs.length := Paired.length kv
  have nd : as.Nodup := List.Pairwise.imp (fun {a b} (h : a < b) => Nat.ne_of_lt h) hG.rise
  have new : ∀ t ∈ as, H t = none := fun t ht => I.hok.fresh (Nat.le_of_lt (hG.above t ht))
  have atP := LiI.putT_at as kvs H (by omega) nd
  have off : ∀ b, b ∉ as → LiI.putT H as kvs b = H b := fun b h1 => LiI.putT_off as kvs _ h1
  have low : ∀ b o, s.heap.get? b = some o → b ∉ as := fun b o e z => absurd (Heap.lt_size e) (Nat.not_lt.mpr (Nat.le_of_lt (hG.above b z)))
  have kp : ∀ b u, H b = some u → (LiI.putT H as kvs) b = some u := fun b u e => by
    rw [off b (fun z => by rw [new b z] at e; cases e)]
    exact e
  refine ⟨LiI.putT H as kvs, kp, atP, ?_⟩
  refine I.call' (ch := []) rfl ⟨fun b o q _ _ _ => hk b o q, fun b o q _ _ _ => ⟨o.slots, hk b o q⟩, fun b o q n _ => ?_, fun b o q _ => ⟨o, hk b o q⟩, fun b xs q => kp b _ q, fun b o u q => kp b _ q, fun b ps q => ⟨#[], by rw [kp b _ q]; simp⟩⟩ (fun b u q => ?_) I.bare fun b z => by simp at z
  · rw [off b (low b o q)]
    exact n
  · by_cases hb : b ∈ as
    · obtain ⟨j, pk', e1, e2, e3⟩ := LiI.paired_ix atP hb
      rw [e3] at q
      cases q
      obtain ⟨key, k, x, f1, f2, f3⟩ := hG.pairs j b e1
      obtain ⟨qv, g1, g2, g3⟩ := LiI.paired_get kv e2
      rw [f1] at g1
      cases g1
      have rk : RelV (kV pk'.1) key := by
        rw [g2]
        exact relV_key (show keyIs k key = true from f2)
      exact ⟨by show 2 ≤ sizeLine; decide, [key, x], .cons rk (.cons g3 .nil), ⟨_, f3, rfl, _, rfl⟩⟩
    · rw [off b hb] at q
      exact (I.hok b u q).stay (fun d v _ y => hk d v y) (fun d y => kp d _ y) fun d xs y => kp d _ y
/-- tuple(e.items()) -/
theorem pe_tupItems (hc : X.calm = true) (he : PE X e te) (hg : Gl X "tuple") (hm : X.mg "tuple" = none) (hbase : attributeBase e "items" X.env (eval e X.env) = eval e X.env := by rfl) (hline : (apos.endLine == cpos.line) = true := by rfl)
    (hs : starEach [.Call (.Attribute e "items" apos) [] [] cpos] X.env = (false, eval (.Call (.Attribute e "items" apos) [] [] cpos) X.env) :: starEach [] X.env := by rfl) :
    PE X (.Call (.Name "tuple" p) [.Call (.Attribute e "items" apos) [] [] cpos] [] pos) (tTupItems te) := by
  refine ⟨fun pins s σ H Q I hq => ?_⟩
  refine wpAny_Call_Name_kw (ld_blt I hg hm boot_tuple ?_)
  refine PyProof.Rows.callWith_type1 ?_ hs rfl
  rw [hs]
  show wpAny _ _ (spliced ((false, eval (.Call (.Attribute e "items" apos) [] [] cpos) X.env) :: backTo pos (starEach [] X.env))) _ _ s
  refine Calls.spliced_cons ?_
  refine wpAny_Call_method (T := "dict") (id := "dict.items") hbase rfl hline F.plainAttrs_dict F.slot_dict_items F.type_dict_items (thn (he.run pins s σ H _ I hq) fun u s1 ⟨x, H1, I1, rx, d, kvs, ex, hd, q⟩ => ?_)
  subst ex
  obtain rfl : u = Value.ref d := rx
  obtain ⟨hz, hs0, vs, kv, hdo⟩ := I1.hok d _ hd
  obtain ⟨ep, hat⟩ := hdo.dictAt
  have lk : kvs.length = vs.length := Paired.length kv
  have I2 : Inv X pins σ H1 { s1 with heap := s1.heap.push { cls := .type "dict_items", data := .fields #[.ref d] } } := I1.kept (t' := s1.toks) fun b ob q => Heap.get?_push_of_some _ q
  refine ⟨hdo.typeIs, hdo.mapOf.noDict, ?_⟩
  show wpAny _ _ (callWith cpos (.builtin "dict.items") [.ref d] [] []) _ X.xe s1
  refine method_meetsIn F.slot_dict_items F.entry_dict_items rfl (PySem.evalArgs_none ⟨rfl, hdo.typeIs, F.args_dict_items_1 _, _, meets_dict_items (mixKind X.prog X.w) d hs0, ⟨vs, hdo⟩, ?_⟩)
  refine Calls.spliced_nil ?_
  refine call_tuple_items (knd := mixKind X.prog X.w) (kvs := vs) (ep := ep) (I1.ok.hd hc) ⟨_, Heap.get?_push_size _ rfl, rfl, rfl⟩ (hat.push _) (by omega) fun h' tk as hk hl hG => ?_
  obtain ⟨H', k1, k2, J⟩ := itemsT_laid (tk := tk) I2 kv hk hl hG
  have hlen : (as.map V.ref).length ≤ sizeLine := by
    rw [List.length_map]
    omega
  have J2 : Inv X pins σ (upd H' h'.objs.size (.tup (as.map V.ref))) { s1 with heap := h'.push { cls := .type "tuple", data := .seq (as.map Value.ref).toArray }, toks := tk } :=
    J.laid (t' := tk) (fun b o e => Heap.get?_push_of_some _ e) (Nat.le_refl _) (show ObjOk X.prog X.w _ _ _ (.tup (as.map V.ref)) from ⟨hlen, _, LiI.vals_refs as, IsTup.new _ _⟩)
  have hn : H' h'.objs.size = none := J.hok.fresh (Nat.le_refl _)
  refine ⟨.ref h'.objs.size, _, J2, rfl, q _ _ as (k1.trans (Ex.new hn)) ?_ upd_same (Paired.mapP k2 fun t p z => Ex.new hn _ _ z)⟩
  exact fresh_back k1 hn
end
end CL
set_option Elab.async false
set_option linter.all false
set_option maxRecDepth 100000
set_option maxHeartbeats 4000000
/-! plans as data; sorted of plans; min of pairs (int, plan) -/
namespace CL
open PySem PySem.Spec PyProof.Rows L2 Evl
def encR (q : Pr) : PyData := .tuple [.int q.1, .int q.2]
def encP (p : Plan) : PyData := .tuple (p.map encR)
def encC (c : Int × Plan) : PyData := .tuple [.int c.1, encP c.2]
section
open PySem.W
theorem encR_alike (a b : Pr) : alike (encR a) (encR b) = true := by simp [encR, alike, alikeAll]
theorem encRs_alike : ∀ p q : Plan, alikeAll (p.map encR) (q.map encR) = true
  | [], _ => by simp [alikeAll]
  | _ :: _, [] => by simp [alikeAll]
  | x :: xs, y :: ys => by
    rw [List.map_cons, List.map_cons, alikeAll, encR_alike, encRs_alike xs ys]
    rfl
theorem encP_alike (p q : Plan) : alike (encP p) (encP q) = true := by
  unfold encP
  rw [alike]
  exact encRs_alike p q
theorem encC_alike (c d : Int × Plan) : alike (encC c) (encC d) = true := by
  unfold encC
  rw [alike, alikeAll, alikeAll, encP_alike, alike, alikeAll]
  rfl
theorem encR_eqv (a b : Pr) : PyData.eqv (encR a) (encR b) = decide (a = b) := by
  have e : PyData.eqv (encR a) (encR b) = ((a.1 == b.1) && ((a.2 == b.2) && true)) := by simp only [encR, PyData.eqv, PyData.eqvAll]
  rw [e]
  by_cases h : a = b
  · rw [h]
    simp
  · rw [decide_eq_false h]
    by_cases h1 : a.1 = b.1
    · have h2 : a.2 ≠ b.2 := fun z => h (Prod.ext h1 z)
      have q : (a.2 == b.2) = false := beq_eq_false_iff_ne.mpr h2
      rw [q, Bool.false_and, Bool.and_false]
    · have q : (a.1 == b.1) = false := beq_eq_false_iff_ne.mpr h1
      rw [q, Bool.false_and]
theorem encRs_eqv : ∀ p q : Plan, PyData.eqvAll (p.map encR) (q.map encR) = decide (p = q)
  | [], [] => by simp [PyData.eqvAll]
  | [], _ :: _ => by simp [PyData.eqvAll]
  | _ :: _, [] => by simp [PyData.eqvAll]
  | x :: xs, y :: ys => by
    rw [List.map_cons, List.map_cons, eqv_all_cons, encR_eqv, encRs_eqv xs ys, ← Bool.decide_and]
    exact decide_eq_decide.mpr (by rw [List.cons.injEq])
theorem encP_eqv (p q : Plan) : PyData.eqv (encP p) (encP q) = decide (p = q) := by
  have e : PyData.eqv (encP p) (encP q) = PyData.eqvAll (p.map encR) (q.map encR) := by simp only [encP, PyData.eqv]
  rw [e, encRs_eqv]
theorem encR_lt (a b : Pr) : dataLt (encR a) (encR b) = prLt a b := by
  unfold encR
  rw [dataLt_ii]
  cases e : prLt a b with
  | true => exact decide_eq_true (prLt_iff.mp e)
  | false => exact decide_eq_false fun z => by rw [prLt_iff.mpr z] at e; cases e
theorem encRs_lt : ∀ p q : Plan, PyProof.Rows.lexLt itemOrd (keyToksAll (p.map encR)) (keyToksAll (q.map encR)) = planLt p q
  | [], [] => lex_irrefl _
  | [], y :: ys => by
    rw [List.map_cons, toks_all_cons]
    show PyProof.Rows.lexLt itemOrd (keyToksAll []) _ = true
    simp only [keyToksAll]
    rw [lex_diff (O := itemOrd) (by simp)]
    rfl
  | x :: xs, [] => by
    rw [List.map_cons, toks_all_cons]
    show PyProof.Rows.lexLt itemOrd _ (keyToksAll []) = false
    simp only [keyToksAll]
    rw [lex_diff (O := itemOrd) (by simp)]
    rfl
  | x :: xs, y :: ys => by
    rw [List.map_cons, List.map_cons, dataLt_cons (encR_alike x y), encR_eqv, encRs_lt xs ys, encR_lt, planLt_cons]
    by_cases h : x = y
    · rw [decide_eq_true h, if_pos rfl, if_pos h]
    · rw [decide_eq_false h, if_neg Bool.false_ne_true, if_neg h]
theorem encP_lt (p q : Plan) : dataLt (encP p) (encP q) = planLt p q := by
  unfold encP
  rw [dataLt_tuple, encRs_lt]
theorem encC_lt (c d : Int × Plan) : dataLt (encC c) (encC d) = cpLt c d := by
  unfold encC
  rw [dataLt_pair (by simp [alike]) (encP_alike _ _), encP_eqv, encP_lt, dataLt_int]
  have e1 : PyData.eqv (.int c.1) (.int d.1) = decide (c.1 = d.1) := by
    simp only [PyData.eqv]
    by_cases h : c.1 = d.1
    · rw [decide_eq_true h]
      exact beq_iff_eq.mpr h
    · rw [decide_eq_false h]
      exact beq_eq_false_iff_ne.mpr h
  rw [e1]
  unfold cpLt
  by_cases h : c.1 = d.1
  · rw [decide_eq_true h, if_pos rfl, if_pos h]
    by_cases g : c.2 = d.2
    · rw [decide_eq_true g, if_pos rfl, g, planLt_irrefl]
    · rw [decide_eq_false g, if_neg Bool.false_ne_true]
  · rw [decide_eq_false h, if_neg Bool.false_ne_true, if_neg h]
theorem encR_depth (q : Pr) : (encR q).depth = 1 := by simp [encR, PyData.depth, PyData.depthAll]
theorem encRs_depth : ∀ p : Plan, PyData.depthAll (p.map encR) ≤ 1
  | [] => by simp [PyData.depthAll]
  | x :: xs => by
    have h := encRs_depth xs
    rw [List.map_cons, PyData.depthAll, encR_depth]
    omega
theorem encP_depth (p : Plan) : (encP p).depth ≤ 2 := by
  have h := encRs_depth p
  simp only [encP, PyData.depth]
  omega
theorem encC_depth (c : Int × Plan) : (encC c).depth ≤ 3 := by
  have h := encP_depth c.2
  simp only [encC, PyData.depth, PyData.depthAll]
  omega
theorem encR_lay (q : Pr) : (encR q).canLay0 = true := by simp [encR, PyData.canLay0, PyData.canLayAll0]
theorem encRs_lay : ∀ p : Plan, PyData.canLayAll0 (p.map encR) = true
  | [] => by simp [PyData.canLayAll0]
  | x :: xs => by
    rw [List.map_cons, PyData.canLayAll0, encR_lay, encRs_lay xs]
    rfl
theorem encP_lay (p : Plan) : (encP p).canLay0 = true := by
  simp only [encP, PyData.canLay0]
  exact encRs_lay p
theorem encPs_lay : ∀ ps : List Plan, PyData.canLayAll0 (ps.map encP) = true
  | [] => by simp [PyData.canLayAll0]
  | p :: r => by
    rw [List.map_cons, PyData.canLayAll0, encP_lay, encPs_lay r]
    rfl
theorem encPs_depth : ∀ ps : List Plan, PyData.depthAll (ps.map encP) ≤ 2
  | [] => by simp [PyData.depthAll]
  | p :: r => by
    have h := encPs_depth r
    have h2 := encP_depth p
    rw [List.map_cons, PyData.depthAll]
    omega
theorem encP_shaped (p : Plan) : SeqAt.shaped (encP p) = true := by
  have h := encP_depth p
  show ((encP p).canLay0 && decide ((encP p).depth ≤ 64)) = true
  rw [encP_lay, decide_eq_true (by omega)]
  rfl
theorem encPs_shaped (ps : List Plan) : SeqAt.shaped (.list (ps.map encP)) = true := by
  have h2 : PyData.depth (.list (ps.map encP)) ≤ 64 := by
    have h := encPs_depth ps
    simp only [PyData.depth]
    omega
  show (PyData.canLay0 (.list (ps.map encP)) && decide (PyData.depth (.list (ps.map encP)) ≤ 64)) = true
  rw [decide_eq_true h2, Bool.and_true]
  simp only [PyData.canLay0]
  exact encPs_lay ps
theorem encPs_any (d : Plan) : ∀ ps : List Plan, ((ps.map encP).any fun z => PyData.eqv z (encP d)) = decide (d ∈ ps)
  | [] => by simp
  | p :: r => by
    rw [List.map_cons, List.any_cons, encP_eqv, encPs_any d r, ← Bool.decide_or]
    exact decide_eq_decide.mpr (by rw [List.mem_cons]; exact ⟨fun z => z.imp Eq.symm id, fun z => z.imp Eq.symm id⟩)
theorem encPs_eqv : ∀ ps qs : List Plan, PyData.eqvAll (ps.map encP) (qs.map encP) = decide (ps = qs)
  | [], [] => by simp [PyData.eqvAll]
  | [], _ :: _ => by simp [PyData.eqvAll]
  | _ :: _, [] => by simp [PyData.eqvAll]
  | x :: xs, y :: ys => by
    rw [List.map_cons, List.map_cons, eqv_all_cons, encP_eqv, encPs_eqv xs ys, ← Bool.decide_and]
    exact decide_eq_decide.mpr (by rw [List.cons.injEq])
theorem encP_inj {p q : Plan} (h : encP p = encP q) : p = q := by
  have e := encP_eqv p q
  rw [h, encP_eqv, decide_eq_true rfl] at e
  exact of_decide_eq_true e.symm
theorem encC_inj {c d : Int × Plan} (h : encC c = encC d) : c = d := by
  unfold encC at h
  simp only [PyData.tuple.injEq, List.cons.injEq, PyData.int.injEq, and_true] at h
  exact Prod.ext h.1 (encP_inj h.2)
theorem minC (x : Int × Plan) : ∀ xs : List (Int × Plan), minD (encC x) (xs.map encC) = encC (minP x xs) := fun xs => by
  unfold minD minP
  induction xs generalizing x with
  | nil => rfl
  | cons y ys ih =>
    rw [List.map_cons, List.foldl_cons, List.foldl_cons, ← ih, encC_lt y x]
    cases cpLt y x <;> rfl
end
/-! ### what stands for data -/
section
variable {K : PySem.W.Frag} {H : Hp}
theorem IsPr.dp {v : V} {q : Pr} (h : IsPr H v q) : Dp K H v (encR q) := by
  obtain ⟨a, rfl, e⟩ := h
  exact .tup (SqT.of e) (.cons (.int _) (.cons (.int _) .nil))
theorem prs_dp : ∀ {vs : List V} {p : Plan}, Paired (IsPr H) vs p → DpAll K H vs (p.map encR)
  | _, _, .nil => .nil
  | _, _, .cons x t => .cons x.dp (prs_dp t)
theorem IsPlan.dp {v : V} {p : Plan} (h : IsPlan H v p) : Dp K H v (encP p) := by
  obtain ⟨a, vs, rfl, e, r⟩ := h
  exact .tup (SqT.of e) (prs_dp r)
theorem plans_dp : ∀ {vs : List V} {ps : List Plan}, Paired (IsPlan H) vs ps → DpAll K H vs (ps.map encP)
  | _, _, .nil => .nil
  | _, _, .cons x t => .cons x.dp (plans_dp t)
theorem PlansAt.dp {a : Addr} {ps : List Plan} (h : PlansAt H a ps) : Dp K H (.ref a) (.list (ps.map encP)) := by
  obtain ⟨vs, e, r⟩ := h
  exact .lst (SqL.of e) (plans_dp r)
end
def IsCP (H : Hp) (v : V) (c : Int × Plan) : Prop := ∃ a pv, v = .ref a ∧ H a = some (.tup [.int c.1, pv]) ∧ IsPlan H pv c.2
theorem IsCP.mono {H H' : Hp} (e : Ex H H') {v : V} {c : Int × Plan} (h : IsCP H v c) : IsCP H' v c := by
  obtain ⟨a, pv, rfl, q, r⟩ := h
  exact ⟨a, pv, rfl, e _ _ q, r.mono e⟩
theorem IsCP.dp {K : PySem.W.Frag} {H : Hp} {v : V} {c : Int × Plan} (h : IsCP H v c) : Dp K H v (encC c) := by
  obtain ⟨a, pv, rfl, q, r⟩ := h
  exact .tup (SqT.of q) (.cons (.int _) (.cons r.dp .nil))
theorem cps_dp {K : PySem.W.Frag} {H : Hp} : ∀ {vs : List V} {cs : List (Int × Plan)}, Paired (IsCP H) vs cs → DpAll K H vs (cs.map encC)
  | _, _, .nil => .nil
  | _, _, .cons x t => .cons x.dp (cps_dp t)
/-! ### min -/
section
variable {X : Cx}
def rMinC (K : PySem.W.Frag) : List V → Hp → VK → Prop := fun vs H Q => ∃ (a : Addr) (xs : List V) (c : Int × Plan) (cs : List (Int × Plan)), vs = [V.ref a] ∧ SqL K H a xs ∧ Paired (IsCP H) xs (c :: cs) ∧ ∀ v, IsCP H v (minP c cs) → Q v H
theorem cpDepth : ∀ cs : List (Int × Plan), PyData.depthAll (cs.map encC) ≤ 3
  | [] => by simp [PyData.depthAll]
  | c :: r => by
    have h := cpDepth r
    have h2 := encC_depth c
    rw [List.map_cons, PyData.depthAll]
    omega
theorem cr_minC (hc : X.calm = true) (hu : X.A.units + 64 < cLine) : CallR X (.builtin "min") (rMinC X.K) := by
  intro pins s σ H vs us Q I r h
  obtain ⟨a, xs, c, cs, rfl, hs, hx, q⟩ := h
  obtain ⟨u, rfl, ru⟩ := vals1 r
  obtain rfl : u = Value.ref a := ru
  obtain ⟨its, rv, hl, hz⟩ := I.list hs
  obtain ⟨as, hr⟩ := Dp.readsAll I _ _ its (cps_dp hx) rv
  have hal : PySem.W.AlikeAll (encC c :: cs.map encC) := by
    have e : encC c :: cs.map encC = (c :: cs).map encC := rfl
    rw [e]
    refine ⟨fun x hx y hy => ?_, fun x hx => ?_⟩
    · obtain ⟨x', _, rfl⟩ := List.mem_map.mp hx
      obtain ⟨y', _, rfl⟩ := List.mem_map.mp hy
      exact encC_alike _ _
    · obtain ⟨x', _, rfl⟩ := List.mem_map.mp hx
      exact fun z => nomatch z
  have hd : PyData.depthAll (encC c :: cs.map encC) ≤ 3 := cpDepth (c :: cs)
  refine PySem.W.min_list_data (x := encC c) (xs := cs.map encC) (I.ok.hd hc) hl.isList hr hal (by omega) fun i v h' tk bs hv hrd hk => ?_
  have hv' : its[i]? = some v := by simpa using hv
  have hil : i < xs.length := by
    rw [rv.length]
    exact (List.getElem?_eq_some_iff.mp hv').1
  obtain ⟨u', hu', ru'⟩ := rv.get (List.getElem?_eq_getElem hil)
  rw [hv'] at hu'
  cases hu'
  obtain ⟨ci, hci, hcp⟩ := paired_at hx (List.getElem?_eq_getElem hil)
  have I' : Inv X pins σ H { s with heap := h', toks := tk } := I.kept hk
  obtain ⟨as2, hr2⟩ := Dp.reads I' (encC ci) _ v hcp.dp ru'
  rw [minC] at hrd
  have e : encC ci = encC (minP c cs) := PySem.W.alike_unique _ _ _ _ _ (encC_alike _ _) hr2 hrd
  rw [encC_inj e] at hcp
  exact ⟨_, H, I', ru', q _ hcp⟩
end
/-! ### sorted -/
section
open PySem.W
variable {prog : Program} {w : World} {A : Around} {E : Value → Shared → Prop} {s : Shared}
theorem call_tuple_lt {Q : Value → Shared → Prop} {l b : Addr} {items items2 : Array Value} {e r : Nat → Bool} (hl : s.heap.IsTuple l items) (hb : s.heap.IsTuple b items2)
    (he : ∀ j (h1 : j < items.size) (h2 : j < items2.size), SeqAt.EqAt A.in1 s items[j] items2[j] (e j)) (hr : ∀ j (h1 : j < items.size) (h2 : j < items2.size), e j = false → SeqAt.RcLt A.in1 s items[j] items2[j] (r j))
    (h : Q (.bool (SeqAt.firstLt e r (decide (items.size < items2.size)) (List.range (min items.size items2.size)))) s) : wpAny (model prog w) A (call (.builtin "tuple.__lt__") [.ref l, .ref b]) Q E s := by
  obtain ⟨⟨cls, dd, data, sl⟩, ho, hc, n, hd⟩ := id hl
  obtain ⟨⟨cls2, dd2, data2, sl2⟩, ho2, hc2, n2, hd2⟩ := id hb
  simp only at hc hd hc2 hd2
  subst hc hd hc2 hd2
  exact call_meets F.slot_tuple_lt ⟨_, ho, rfl⟩ F.entry_tuple_lt (F.args_tuple_lt_2 _ _) (SeqAt.tuple_ltAt l b items items2 n n2 dd dd2 sl sl2 e r) ⟨ho, ho2, he, hr, h⟩
/-- one tuple against another, as sorting asks where all keys are of one type -/
theorem oneLt_tuple {xs ys : List PyData} {a b : Value} {as bs : List Addr} {Q : Bool → Shared → Prop} (ra : Reads s.heap a (.tuple xs) as) (rb : Reads s.heap b (.tuple ys) bs) (hal : alikeAll xs ys = true)
    (hu : A.units + min (PyData.tuple xs).depth (PyData.tuple ys).depth < cLine) (hq : Q (dataLt (.tuple xs) (.tuple ys)) s) : wpAny (model prog w) A (oneLt' true a b) Q E s := by
  cases ra with
  | @tuple l o vs n _ as₁ h1 h2 h3 h4 =>
    cases rb with
    | @tuple l' o' vs' n' _ bs₁ k1 k2 k3 k4 =>
      have n1 : vs.size = xs.length := by simpa using SeqAt.ReadsAll.length _ _ _ h4
      have n2 : vs'.size = ys.length := by simpa using SeqAt.ReadsAll.length _ _ _ k4
      rw [dataLt_tuple, ← firstLt_toks xs ys hal, ← n1, ← n2] at hq
      rw [oneLt'_eq]
      simp only [if_true]
      refine wpAny_bind (wpAny_cRoomFor (SeqAt.room_here hu) ?_)
      refine wpAny_bind (wpAny_callSpecialIfBound?_slot (T := "tuple") ⟨_, h1, h2⟩ F.slot_tuple_lt (call_tuple_lt (e := SeqAt.pairEq xs ys) (r := fun j => dataLt (xs.getD j .none) (ys.getD j .none)) ⟨_, h1, h2, _, h3⟩ ⟨_, k1, k2, _, k3⟩ (fun j j1 j2 => ?_) (fun j j1 j2 hj => ?_) ?_))
      · have z := eqAt_alikeAll xs ys A.in1 s vs.toList vs'.toList _ _ h4 k4 hal (SeqAt.room_in hu) j (by simpa using j1) (by simpa using j2)
        simpa using z
      · have z := rcLt_alikeAll xs ys A.in1 s vs.toList vs'.toList _ _ h4 k4 hal (SeqAt.room_in hu) j (by simpa using j1) (by simpa using j2) hj
        simpa using z
      · exact wpAny_truthy_bool hq
/-- the values are tuples, of these items -/
def Tups (h : Heap) : List Value → List (Array Value) → Prop
  | [], [] => True
  | v :: vs, x :: xs => (∃ a o n, v = .ref a ∧ h.get? a = some o ∧ o.cls = .type "tuple" ∧ o.data = .seq x n) ∧ Tups h vs xs
  | _, _ => False
theorem tups_firsts {M : Model} : ∀ (vs : List Value) (xs : List (Array Value)) {Q : List (Option Value) → Shared → Prop}, Tups s.heap vs xs → Q (xs.map fun x => x[0]?) s → wpAny M A (vs.mapM firstOfTuple') Q E s
  | [], [], _, _, h => by
    rw [List.mapM_nil]
    exact wpAny_pure h
  | [], _ :: _, _, t, _ => t.elim
  | _ :: _, [], _, t, _ => t.elim
  | v :: vs, x :: xs, Q, t, h => by
    obtain ⟨⟨a, o, n, rfl, ho, hc, hd⟩, t⟩ := t
    rw [List.mapM_cons]
    refine wpAny_bind ?_
    rw [kas_first_eq]
    refine wpAny_bind (Looks.here (show Looks M s.heap (typeOf (.ref a)) o.cls from (Looks.ld ho).andThen .now) ?_)
    rw [hc, if_neg (by decide)]
    refine wpAny_bind (listItems_at ho hd (wpAny_pure ?_))
    exact wpAny_bind (tups_firsts vs xs (Q := fun bs s' => wpAny M A (pure (x[0]? :: bs)) Q E s') t (wpAny_pure h))
theorem tups_looks {M : Model} {h : Heap} : ∀ {vs : List Value} {xs : List (Array Value)}, Tups h vs xs → ∀ v ∈ vs, Looks M h (typeOf v) (Value.type "tuple")
  | [], _, _, v, hv => nomatch hv
  | _ :: _, [], t, _, _ => t.elim
  | w :: vs, x :: xs, t, v, hv => by
    obtain ⟨⟨a, o, n, rfl, ho, hc, hd⟩, t⟩ := t
    rcases List.mem_cons.mp hv with e | hv
    · rw [e]
      exact hc ▸ (Looks.ld ho).andThen .now
    · exact tups_looks t v hv
/-- the kind, where some key is the empty tuple -/
theorem kind_mixed {M : Model} {vs : List Value} {xs : List (Array Value)} {Q : SortKind → Shared → Prop} (t : Tups s.heap vs xs) (h2 : 0 < vs.length) (hno : (xs.all fun x => (x[0]?).isSome) = false) (h : Q (if ((xs[0]?).bind fun x => x[0]?).isSome = true then general' else oneType') s) :
    wpAny M A (keyKind' vs.toArray) Q E s := by
  rw [keyKind'_eq, List.mapM_toArray, map_eq_pure_bind]
  refine wpAny_bind (wpAny_bind (tups_firsts vs xs t (wpAny_pure ?_)))
  have hall : ¬ (((xs.map fun x => x[0]?).toArray.all fun x => x.isSome) = true) := by
    rw [List.all_toArray, List.all_map]
    intro z
    have e : xs.all (Option.isSome ∘ fun x => x[0]?) = xs.all fun x => (x[0]?).isSome := rfl
    rw [e, hno] at z
    cases z
  rw [if_neg hall]
  have h0 : ((xs.map fun x => x[0]?).toArray[0]?.bind id) = (xs[0]?).bind fun x => x[0]? := by
    rw [List.getElem?_toArray, List.getElem?_map]
    cases xs[0]? <;> rfl
  rw [h0]
  by_cases c : ((xs[0]?).bind fun x => x[0]?).isSome = true
  · rw [if_pos c] at h ⊢
    exact wpAny_pure h
  · rw [if_neg c] at h ⊢
    rw [oneTypeOnly'_eq, List.mapM_toArray, map_eq_pure_bind]
    refine wpAny_bind (wpAny_bind (wpAny_bind (kas_mapM (r := Value.type "tuple") _ (fun v hv Q' hq => (tups_looks t v hv).here hq) (wpAny_pure ?_))))
    obtain ⟨v, r, rfl⟩ : ∃ v r, vs = v :: r := by
      match vs, h2 with
      | v :: r, _ => exact ⟨v, r, rfl⟩
    have hall2 : ((List.map (fun _ => Value.type "tuple") (v :: r)).toArray.all fun x => x == Value.type "tuple") = true := by
      simp only [List.all_toArray, List.all_map, List.all_eq_true]
      intro _ _
      rfl
    have h1 : (List.map (fun _ => Value.type "tuple") (v :: r)).toArray[0]? = some (Value.type "tuple") := by simp
    rw [h1]
    simp only [hall2, if_true]
    first
      | exact wpAny_pure (wpAny_pure h)
      | exact wpAny_pure h
      | exact wpAny_bind (wpAny_pure (wpAny_pure h))
/-- values that read as plans -/
abbrev EachP (h : Heap) (vs : List Value) (ps : List Plan) : Prop := Paired (fun v p => ∃ as, Reads h v (encP p) as) vs ps
theorem eachP_is {h : Heap} : ∀ {vs : List Value} {ps : List Plan}, EachP h vs ps → EachIs (fun v d => ∃ as, Reads h v d as) vs (ps.map encP)
  | _, _, .nil => .nil
  | _, _, .cons x t => .cons x (eachP_is t)
theorem eachP_tups {h : Heap} : ∀ {vs : List Value} {ps : List Plan}, EachP h vs ps → ∃ xs, Tups h vs xs ∧ xs.map (fun x => (x[0]?).isSome) = ps.map fun p => !p.isEmpty
  | _, _, .nil => ⟨[], trivial, rfl⟩
  | v :: vs, p :: ps, .cons ⟨as, r⟩ t => by
    obtain ⟨xs, h1, h2⟩ := eachP_tups t
    cases r with
    | @tuple a o x n _ as₁ k1 k2 k3 k4 =>
      refine ⟨x :: xs, ⟨⟨a, o, n, rfl, k1, k2, k3⟩, h1⟩, ?_⟩
      have n1 : x.size = p.length := by simpa using SeqAt.ReadsAll.length _ _ _ k4
      rw [List.map_cons, List.map_cons, h2]
      cases p with
      | nil =>
        have e : x[0]? = none := by
          rw [Array.getElem?_eq_none_iff]
          simp only [List.length_nil] at n1
          omega
        rw [e]
        rfl
      | cons q r =>
        have e : 0 < x.size := by
          simp only [List.length_cons] at n1
          omega
        rw [Array.getElem?_eq_getElem e]
        rfl
/-- the kind of a list of plans, and how the keys compare by it -/
theorem plans_sort {vs : List Value} {ps : List Plan} (e : EachP s.heap vs ps) (hu : A.units + 8 < cLine) (h2 : 2 ≤ vs.length) :
    ∃ κ, (∀ (Q : SortKind → Shared → Prop) (E : Value → Shared → Prop), Q κ s → wpAny (model prog w) A (keyKind' vs.toArray) Q E s) ∧
      ∀ (x y : Value) (p q : Plan) (as bs : List Addr), Reads s.heap x (encP p) as → Reads s.heap y (encP q) bs → (p ∈ ps ∧ q ∈ ps) → ∀ (E : Value → Shared → Prop) (Q : Bool → Shared → Prop), Q (planLt p q) s → wpAny (model prog w) A (keyLt' κ x y) Q E s := by
  have hl : vs.length = ps.length := Paired.length e
  have room : ∀ p q : Plan, A.units + min (encP p).depth (encP q).depth < cLine := fun p q => by
    have h := encP_depth p
    omega
  by_cases c : ∀ p ∈ ps, p ≠ []
  · have hk : Sortable (ps.map encP) := .inl fun d hd => by
      obtain ⟨p, hp, rfl⟩ := List.mem_map.mp hd
      cases p with
      | nil => exact absurd rfl (c _ hp)
      | cons q r => exact ⟨encR q, r.map encR, rfl⟩
    have hal : AllAlike (ps.map encP) := fun d hd d' hd' => by
      obtain ⟨p, _, rfl⟩ := List.mem_map.mp hd
      obtain ⟨q, _, rfl⟩ := List.mem_map.mp hd'
      exact encP_alike p q
    obtain ⟨kd, k1, k2⟩ := (SortsAt.data (prog := prog) (w := w) (A := A) (s := s) (eachP_is e) hal hk (fun d hd => by
      obtain ⟨p, _, rfl⟩ := List.mem_map.mp hd
      have h := encP_depth p
      omega)).kind
    refine ⟨kd, fun Q E hq => k2 h2 E hq, fun x y p q as bs rx ry hpq E Q hq => ?_⟩
    refine k1 E _ _ _ _ (dataKind_some hal (List.mem_map.mpr ⟨p, hpq.1, rfl⟩) rx) (dataKind_some hal (List.mem_map.mpr ⟨q, hpq.2, rfl⟩) ry) ?_
    show Q (dataLt (encP p) (encP q)) s
    rw [encP_lt]
    exact hq
  · obtain ⟨xs, t1, t2⟩ := eachP_tups e
    have hno : (xs.all fun x => (x[0]?).isSome) = false := by
      cases z : xs.all fun x => (x[0]?).isSome with
      | false => rfl
      | true =>
        refine absurd (fun p hp => ?_) c
        intro ep
        have e1 : (xs.map fun x => (x[0]?).isSome).all id = true := by
          rw [List.all_map]
          exact z
        rw [t2, List.all_map, List.all_eq_true] at e1
        have e2 := e1 p hp
        rw [ep] at e2
        cases e2
    refine ⟨if ((xs[0]?).bind fun x => x[0]?).isSome = true then general' else oneType', fun Q E hq => kind_mixed t1 (by omega) hno hq, fun x y p q as bs rx ry hpq E Q hq => ?_⟩
    have hq' : Q (dataLt (encP p) (encP q)) s := by
      rw [encP_lt]
      exact hq
    by_cases g : ((xs[0]?).bind fun x => x[0]?).isSome = true
    · rw [if_pos g]
      show wpAny _ _ (oneLt' false x y) Q E s
      exact oneLt_alike (fun z => absurd z Bool.false_ne_true) rx ry (encP_alike p q) (fun z => nomatch z) (room p q) hq'
    · rw [if_neg g]
      show wpAny _ _ (oneLt' true x y) Q E s
      exact oneLt_tuple rx ry (encRs_alike p q) (room p q) hq'
end
theorem isPlan_inj {X : Cx} {pins : List (Addr × Obj)} {σ : L2.St} {H : Hp} {s : Shared} (I : Inv X pins σ H s) {v : V} {u : Value} {p q : Plan} (r : RelV v u) (h : IsPlan H v p) (h' : IsPlan H v q) : p = q := by
  obtain ⟨as, r1⟩ := Dp.reads (X := X) I (encP p) v u h.dp r
  obtain ⟨bs, r2⟩ := Dp.reads (X := X) I (encP q) v u h'.dp r
  exact encP_inj (PySem.W.alike_unique _ _ _ _ _ (encP_alike p q) r1 r2)
open Classical in
noncomputable def planOf (H : Hp) (v : V) : Plan := if h : ∃ p, IsPlan H v p then h.choose else []
theorem planOf_is {X : Cx} {pins : List (Addr × Obj)} {σ : L2.St} {H : Hp} {s : Shared} (I : Inv X pins σ H s) {v : V} {u : Value} {p : Plan} (r : RelV v u) (h : IsPlan H v p) : planOf H v = p := by
  have hx : ∃ p, IsPlan H v p := ⟨p, h⟩
  have e : planOf H v = hx.choose := by
    unfold planOf
    rw [dif_pos hx]
  rw [e]
  exact isPlan_inj I r hx.choose_spec h
theorem swo_plan {α : Type} (k : α → Plan) : SrtO.Swo fun x y => planLt (k x) (k y) := ⟨fun _ _ h => planLt_asym h, fun _ _ _ h1 h2 => planLt_neg h1 h2⟩
theorem perm_paired {α β : Type} {R : α → β → Prop} {xs ys : List α} (p : ys.Perm xs) : ∀ {bs : List β}, Paired R xs bs → ∃ cs, Paired R ys cs ∧ cs.Perm bs := by
  induction p with
  | nil => intro bs h; cases h; exact ⟨[], .nil, List.Perm.refl _⟩
  | cons x _ ih =>
    intro bs h
    cases h with
    | cons r t =>
      obtain ⟨cs, h1, h2⟩ := ih t
      exact ⟨_ :: cs, .cons r h1, h2.cons _⟩
  | swap x y l =>
    intro bs h
    cases h with
    | cons r t =>
      cases t with
      | cons r2 t2 => exact ⟨_ :: _ :: _, .cons r2 (.cons r t2), List.Perm.swap _ _ _⟩
  | trans _ _ ih1 ih2 =>
    intro bs h
    obtain ⟨cs, h1, h2⟩ := ih2 h
    obtain ⟨ds, h3, h4⟩ := ih1 h1
    exact ⟨ds, h3, h4.trans h2⟩
def rSortPl (K : PySem.W.Frag) : List V → Hp → VK → Prop := fun vs H Q => ∃ (a : Addr) (xs : List V) (ps : List Plan), vs = [V.ref a] ∧ SqL K H a xs ∧ Paired (IsPlan H) xs ps ∧
  ∀ ys p, Paired (IsPlan H) ys (isort ps) → H p = none → Q (.ref p) (upd H p (.lst ys))
theorem vals_each {X : Cx} {pins : List (Addr × Obj)} {σ : L2.St} {H : Hp} {s : Shared} (I : Inv X pins σ H s) : ∀ {xs : List V} {us : List Value} {ps : List Plan}, Vals xs us → Paired (IsPlan H) xs ps → EachP s.heap us ps
  | _, _, _, .nil, .nil => .nil
  | _, _, _, .cons r rs, .cons x t => .cons (Dp.reads (X := X) I (encP _) _ _ x.dp r) (vals_each I rs t)
theorem cr_sortPl {X : Cx} (hu : X.A.units + 64 < cLine) : CallR X (.builtin "sorted") (rSortPl X.K) := by
  intro pins s σ H vs us Q I r h
  obtain ⟨a, xs, ps, rfl, hs, hx, q⟩ := h
  obtain ⟨its, rv, hl, hz⟩ := I.list hs
  obtain ⟨u, rfl, ru⟩ := vals1 r
  obtain rfl : u = Value.ref a := ru
  have hxr : ∀ x ∈ xs, ∃ a, x = V.ref a := fun x hm => by
    obtain ⟨i, hi⟩ := List.mem_iff_getElem?.mp hm
    obtain ⟨p, _, b, _, e, _⟩ := paired_at hx hi
    exact ⟨b, e⟩
  obtain ⟨e1, e2⟩ := refs_back rv hxr
  have hE := vals_each I rv hx
  refine SrtO.sorted_ord (swo_plan fun u => planOf H (backV u)) hl.isList (by rw [← rv.length]; exact hz) (fun h2 h₁ b hb kp h' kp2 => ?_) fun out h1 h2 => ?_
  · have keep : ∀ c o, s.heap.get? c = some o → h'.get? c = some o := fun c o z => kp2 c o (kp c o z).1 (kp c o z).2
    have hE' : EachP h' its ps := Paired.mapP hE fun _ _ ⟨as, z⟩ => ⟨as, Reads.keeps keep z⟩
    obtain ⟨κ, k1, k2⟩ := plans_sort (prog := X.prog) (w := X.w) (A := X.A.in1.in1) (s := { s with heap := h' }) hE' (by show X.A.units + 1 + 1 + 8 < cLine; omega) h2
    refine ⟨κ, k1, fun x y hxm hym => ?_⟩
    have find : ∀ v ∈ its, ∃ p as, p ∈ ps ∧ Reads h' v (encP p) as ∧ planOf H (backV v) = p := fun v hv => by
      obtain ⟨i, hi⟩ := List.mem_iff_getElem?.mp hv
      have hil : i < xs.length := by
        rw [rv.length]
        exact (List.getElem?_eq_some_iff.mp hi).1
      obtain ⟨u', hu', ru'⟩ := rv.get (List.getElem?_eq_getElem hil)
      rw [hi] at hu'
      cases hu'
      obtain ⟨p, hp, hip⟩ := paired_at hx (List.getElem?_eq_getElem hil)
      obtain ⟨p2, hp2, as, z⟩ := paired_at hE' hi
      rw [hp] at hp2
      cases hp2
      obtain ⟨b', eb⟩ := e2 v hv
      have ex : backV v = xs[i] := by
        have e3 : xs[i]? = (its.map backV)[i]? := by rw [← e1]
        rw [List.getElem?_eq_getElem hil, List.getElem?_map, hi] at e3
        exact (Option.some.inj e3).symm
      refine ⟨p, as, List.mem_of_getElem? hp, z, ?_⟩
      rw [ex]
      exact planOf_is I ru' hip
    obtain ⟨p, as, m1, r1, f1⟩ := find x.1 hxm
    obtain ⟨p', as', m2, r2, f2⟩ := find y.1 hym
    refine k2 x.1 y.1 p p' as as' r1 r2 ⟨m1, m2⟩ _ _ ⟨rfl, ?_⟩
    show planLt p p' = planLt (planOf H (backV x.1)) (planOf H (backV y.1))
    rw [f1, f2]
  · obtain ⟨ep, he'⟩ := PyProof.Rows.sortedAll_at s.heap its out.toArray
    have h3 : ∀ u ∈ out, ∃ a, u = Value.ref a := fun u hu => e2 u (h2.perm.mem_iff.mp hu)
    have hperm : (out.map backV).Perm xs := by
      rw [e1]
      exact h2.perm.map backV
    obtain ⟨cs, g1, g2⟩ := perm_paired hperm hx
    have hup : Up cs := by
      have z : (out.map backV).Pairwise fun x y => planLt (planOf H y) (planOf H x) = false := List.pairwise_map.mpr h1
      refine List.pairwise_iff_getElem.mpr fun i j hi hj hij => ?_
      have hl2 := Paired.length g1
      have hi' : i < (out.map backV).length := by omega
      have hj' : j < (out.map backV).length := by omega
      have zz := List.pairwise_iff_getElem.mp z i j hi' hj' hij
      obtain ⟨c1, d1, d2⟩ := paired_at g1 (List.getElem?_eq_getElem hi')
      obtain ⟨c2, d3, d4⟩ := paired_at g1 (List.getElem?_eq_getElem hj')
      rw [List.getElem?_eq_getElem hi] at d1
      rw [List.getElem?_eq_getElem hj] at d3
      cases d1
      cases d3
      have rr : ∀ k (hk : k < (out.map backV).length), ∃ u, RelV (out.map backV)[k] u := fun k hk => by
        rw [List.length_map] at hk
        obtain ⟨b, eb⟩ := h3 _ (List.getElem_mem hk)
        exact ⟨out[k], by rw [List.getElem_map, eb]; rfl⟩
      obtain ⟨u1, ru1⟩ := rr i hi'
      obtain ⟨u2, ru2⟩ := rr j hj'
      rw [planOf_is I ru2 d4, planOf_is I ru1 d2] at zz
      exact zz
    rw [isort_of hup g2] at g1
    have hlen : (out.map backV).length ≤ sizeLine := by
      rw [hperm.length_eq]
      exact hz
    exact ⟨.ref _, upd H (s.heap.objs.size + 1) (.lst (out.map backV)), I.laid (t' := s.toks) (fun _ _ => PyProof.Rows.sortedAll_old) (Nat.le_succ _) ⟨hlen, out, ep, vals_back h3, by simpa using he'⟩, rfl, q _ _ g1 (I.hok.fresh (Nat.le_succ _))⟩
end CL
set_option Elab.async false
set_option linter.all false
set_option maxRecDepth 100000
set_option maxHeartbeats 4000000
/-! the defs' texts; small defs -/
namespace CL
open PySem PySem.Spec PyProof.Rows L2 Evl
def topS (i : Nat) : Stmt := PySem.Challenge.pw_counterlines_k81_whole_quotients_counted.main.body.getD i (.Pass ⟨0, 0, 0, 0⟩)
/-- a def of the text as it stands behind the top -/
def Def (K : PySem.W.Frag) (mg : Str → Option Value) (x : Str) (st : Stmt) (ps : List Str) : Prop := ∃ f fd, Fun K x x st f fd ∧ mg x = some (.ref f) ∧ Binds K fd ps []
/-- .. that keeps its promise -/
def Ok (P : Program) (w : World) (K : PySem.W.Frag) (mg : Str → Option Value) (base : Heap) (k : Nat) (x : Str) (ps : List Str) (sp : Sp) : Prop :=
  ∃ f fd, FnOk P w K mg base CX0 k f fd ps sp ∧ mg x = some (.ref f) ∧ PySem.W.keepIn K (.ref f) = true ∧ Binds K fd ps []
/-- the built-in names that the text uses are the built-ins -/
structure Bl (mg : Str → Option Value) : Prop where
  isi : mg "isinstance" = none
  int : mg "int" = none
  bool : mg "bool" = none
  tuple : mg "tuple" = none
  len : mg "len" = none
  range : mg "range" = none
  enum : mg "enumerate" = none
  sorted : mg "sorted" = none
  min : mg "min" = none
  sum : mg "sum" = none
  all : mg "all" = none
  list : mg "list" = none
  mp : ∃ t, mg "MOST_PEOPLE" = some (.int 7 t)
  mc : ∃ t, mg "MOST_COUNTERS" = some (.int 6 t)
  md : ∃ t, mg "MOST_DEEDS" = some (.int 20000 t)
section
variable {P : Program} {w : World} {K : PySem.W.Frag} {mg : Str → Option Value} {base : Heap}
theorem Ok.mk' {x : Str} {st : Stmt} {ps N : List Str} {k : Nat} {sp : Sp} (D : Def K mg x st ps) (S : FnScope N ps (defScope st)) (len : ∀ vs H Q E, sp vs H Q E → vs.length = ps.length)
    (hbody : ∀ (f : Addr) (cdv : Value) (A : Around) (outer : List Env) (s : Shared) (H : Hp) (vs : List V) (Q : VK) (E : XK), Room k (A.deeper (envOfC x (defScope st) s.heap.objs.size f cdv)) → sp vs H Q E →
      ∃ t, PSs (cxOf CX0 P w K mg base N x (defScope st) f cdv A outer s H E).nox (defBody st) t ∧ t { nx := fun _ H' => Q .non H', rt := Q } (start N vs) H) : Ok P w K mg base (k + 1) x ps sp := by
  obtain ⟨f, fd, F, hm, hb⟩ := D
  exact ⟨f, fd, F.ok S len (hbody f), hm, F.kp, hb⟩
theorem Ok.mono {j k : Nat} {x : Str} {ps : List Str} {sp : Sp} (O : Ok P w K mg base j x ps sp) (h : j ≤ k) : Ok P w K mg base k x ps sp := by
  obtain ⟨f, fd, F, hm, hk, hb⟩ := O
  exact ⟨f, fd, F.mono h, hm, hk, hb⟩
end
theorem Ok.call {X : Cx} {k : Nat} {x : Str} {ps : List Str} {sp : Sp} {e : Expr} {es : List Expr} {t : TA} {p pos : Pos} (O : Ok X.prog X.w X.K X.mg X.base k x ps sp) (hr : Room k X.A) (hg : Gl X x) (ha : PA X (e :: es) t) (hdb : (x == ("__debug__" : Str)) = false := by decide)
    (he : starEach (e :: es) X.env = (false, eval e X.env) :: starEach es X.env := by rfl) (hpl : (backTo pos (starEach es X.env)).any (·.1) = false := by rfl) : PE X (.Call (.Name x p) (e :: es) [] pos) (tCall sp [] E0 t) := by
  obtain ⟨f, fd, F, hm, hk, hb⟩ := O
  exact pe_call F hr hg hm hk hb .nil pass0 ha hdb he hpl
/-! ### checks -/
abbrev sIsInteger : Stmt := topS 1
abbrev sIsIn : Stmt := topS 2
abbrev sIsList : Stmt := topS 3
theorem scIsInteger : FnScope ["value"] ["value"] (defScope sIsInteger) := ⟨rfl, rfl, rfl, by decide +kernel, rfl, by decide +kernel, by decide +kernel⟩
theorem scIsIn : FnScope ["value", "least", "most"] ["value", "least", "most"] (defScope sIsIn) := ⟨rfl, rfl, rfl, by decide +kernel, rfl, by decide +kernel, by decide +kernel⟩
theorem scIsList : FnScope ["value", "least", "most"] ["value", "least", "most"] (defScope sIsList) := ⟨rfl, rfl, rfl, by decide +kernel, rfl, by decide +kernel, by decide +kernel⟩
section
variable {P : Program} {w : World} {K : PySem.W.Frag} {mg : Str → Option Value} {base : Heap}
def spIsInteger : Sp := fun vs H Q _ => ∃ i : Int, vs = [.int i] ∧ Q (.bl true) H
theorem ok_is_integer (D : Def K mg "is_integer" sIsInteger ["value"]) (B : Bl mg) : Ok P w K mg base 1 "is_integer" ["value"] spIsInteger := by
  refine Ok.mk' D scIsInteger (fun vs H Q E ⟨i, h, _⟩ => by rw [h]; rfl) fun f cdv A outer s H vs Q E hr ⟨i, hv, q⟩ => ?_
  subst hv
  refine ⟨_, pss_one (ps_ret (pe_and (pe_callB call_isi (by rfl) B.isi boot_isinstance (pa_cons (pv 0) (pa_cons (pe_bltn (v := .ty "int") (by rfl) B.int (by decide +kernel) rfl) pa_nil)))
    (pe_one (pe_not (pe_callB call_isi (by rfl) B.isi boot_isinstance (pa_cons (pv 0) (pa_cons (pe_bltn (v := .ty "bool") (by rfl) B.bool (by decide +kernel) rfl) pa_nil))))))), ?_⟩
  refine ⟨.int i, rfl, .int i, .ty "int", .type "int", .type "int", true, rfl, .ty _, .base (.int i), kit_ty (by decide +kernel), true, rfl, iteT ?_⟩
  exact ⟨.int i, rfl, .int i, .ty "bool", .type "int", .type "bool", false, rfl, .ty _, .base (.int i), kit_ty (by decide +kernel), false, rfl, q⟩
def spIsIn : Sp := fun vs H Q _ => ∃ i a b : Int, vs = [.int i, .int a, .int b] ∧ Q (.bl (decide (a ≤ i) && decide (i ≤ b))) H
theorem ok_is_in (D : Def K mg "is_in" sIsIn ["value", "least", "most"]) (O : Ok P w K mg base 1 "is_integer" ["value"] spIsInteger) : Ok P w K mg base 2 "is_in" ["value", "least", "most"] spIsIn := by
  refine Ok.mk' D scIsIn (fun vs H Q E ⟨i, a, b, h, _⟩ => by rw [h]; rfl) fun f cdv A outer s H vs Q E hr ⟨i, a, b, hv, q⟩ => ?_
  subst hv
  refine ⟨_, pss_one (ps_ret (pe_and (O.call hr (by rfl) (pa_cons (pv 0) pa_nil)) (pe_one (pe_chain op_le op_le (pv 1) (pv 0) (pv 2))))), ?_⟩
  refine ⟨.int i, rfl, i, rfl, true, rfl, iteT ?_⟩
  refine ⟨.int a, rfl, .int i, rfl, a, i, rfl, rfl, decide (a ≤ i), rfl, ite2 (fun h => ?_) (fun h => ?_)⟩
  · refine ⟨.int b, rfl, i, b, rfl, rfl, ?_⟩
    rw [h, Bool.true_and] at q
    exact q
  · have h' : decide (a ≤ i) = false := by
      cases z : decide (a ≤ i) with
      | false => rfl
      | true => exact absurd z h
    rw [h', Bool.false_and] at q
    exact q
def spIsList : Sp := fun vs H Q _ => ∃ (p : Addr) (xs : List V) (a b : Int), vs = [.ref p, .int a, .int b] ∧ H p = some (.tup xs) ∧ Q (.bl (decide (a ≤ (xs.length : Int)) && decide ((xs.length : Int) ≤ b))) H
theorem ok_is_list (D : Def K mg "is_list" sIsList ["value", "least", "most"]) (B : Bl mg) : Ok P w K mg base 1 "is_list" ["value", "least", "most"] spIsList := by
  refine Ok.mk' D scIsList (fun vs H Q E ⟨p, xs, a, b, h, _⟩ => by rw [h]; rfl) fun f cdv A outer s H vs Q E hr ⟨p, xs, a, b, hv, hp, q⟩ => ?_
  subst hv
  refine ⟨_, pss_one (ps_ret (pe_and (pe_callB call_isi (by rfl) B.isi boot_isinstance (pa_cons (pv 0) (pa_cons (pe_bltn (v := .ty "tuple") (by rfl) B.tuple (by decide +kernel) rfl) pa_nil)))
    (pe_one (pe_chain op_le op_le (pv 1) (pe_callB call_len_seq (by rfl) B.len PySem.boot_len (pa_cons (pv 0) pa_nil)) (pv 2))))), ?_⟩
  refine ⟨.ref p, rfl, .ref p, .ty "tuple", .type "tuple", .type "tuple", true, rfl, .ty _, .base (.tup hp), kit_ty (by decide +kernel), true, rfl, iteT ?_⟩
  refine ⟨.int a, rfl, .ref p, rfl, p, xs, rfl, .inr (SqT.of hp), a, xs.length, rfl, rfl, decide (a ≤ (xs.length : Int)), rfl, ite2 (fun h => ?_) (fun h => ?_)⟩
  · refine ⟨.int b, rfl, xs.length, b, rfl, rfl, ?_⟩
    rw [h, Bool.true_and] at q
    exact q
  · have h' : decide (a ≤ (xs.length : Int)) = false := by
      cases z : decide (a ≤ (xs.length : Int)) with
      | false => rfl
      | true => exact absurd z h
    rw [h', Bool.false_and] at q
    exact q
end
end CL
set_option Elab.async false
set_option linter.all false
set_option maxRecDepth 100000
set_option maxHeartbeats 4000000
namespace CL
open PySem PySem.Spec PyProof.Rows L2 Evl
/-! ### words -/
theorem iteN {c : Bool} {A B : Prop} (h : c = true) (b : B) : if (!c) = true then A else B := by
  rw [h]
  exact iteF b
theorem iteB {c d : Bool} {A B : Prop} (h : c = d) (b : if d = true then A else B) : if c = true then A else B := by
  rw [h]
  exact b
theorem decV_int {i j : Int} : decide (V.int i = V.int j) = decide (i = j) := decide_eq_decide.mpr ⟨fun h => by injection h, fun h => by rw [h]⟩
theorem valV_none {κ : Type} [DecidableEq κ] {kvs : List (κ × V)} {k : κ} (h : k ∉ kvs.map (·.1)) : valV kvs k = none := by
  cases e : valV kvs k with
  | none => rfl
  | some v => exact absurd (valV_in e) h
theorem least_cons (o : Off) (q : Pr) (r : Plan) : least o (q :: r) = if (((q :: r).length : Nat) : Int) = o.1 ∧ q.2 = 0 then r else q :: r := rfl
structure OffOk (o : Off) : Prop where
  p1 : 1 ≤ o.1
  p7 : o.1 ≤ 7
  c1 : 1 ≤ o.2
  c6 : o.2 ≤ 6
structure VP (o : Off) (p : Plan) : Prop where
  len : (p.length : Int) ≤ o.1
  rg : ∀ q ∈ p, 0 ≤ q.1 ∧ q.1 ≤ o.1 - 1 ∧ 0 ≤ q.2 ∧ q.2 ≤ o.2 - 1
  nd : (p.map Prod.fst).Nodup
theorem cutT (xs : List V) (h : xs ≠ []) : cutV xs (some 1) none = xs.drop 1 := by
  unfold cutV
  have e : HT.sIx xs.length 0 (some 1) = min 1 xs.length := HT.sIx_nat xs.length 0 1
  rw [e, HT.sIx_none]
  cases xs with
  | nil => exact absurd rfl h
  | cons x r =>
    have e2 : min 1 (x :: r).length = 1 := by
      rw [List.length_cons]
      omega
    rw [e2]
    exact List.take_of_length_le (by simp)
abbrev sNeedOffice : Stmt := topS 12
abbrev sFactorial : Stmt := topS 13
abbrev sChoose : Stmt := topS 14
abbrev sRaised : Stmt := topS 15
abbrev sLeastIn : Stmt := topS 17
abbrev sNeedPlan : Stmt := topS 18
abbrev sNeedPairs : Stmt := topS 19
theorem scNeedOffice : FnScope ["office"] ["office"] (defScope sNeedOffice) := ⟨rfl, rfl, rfl, by decide +kernel, rfl, by decide +kernel, by decide +kernel⟩
theorem scFactorial : FnScope ["many", "found", "number"] ["many"] (defScope sFactorial) := ⟨rfl, rfl, rfl, by decide +kernel, rfl, by decide +kernel, by decide +kernel⟩
theorem scChoose : FnScope ["many", "some", "found", "number"] ["many", "some"] (defScope sChoose) := ⟨rfl, rfl, rfl, by decide +kernel, rfl, by decide +kernel, by decide +kernel⟩
theorem scRaised : FnScope ["base", "times", "found", "turn"] ["base", "times"] (defScope sRaised) := ⟨rfl, rfl, rfl, by decide +kernel, rfl, by decide +kernel, by decide +kernel⟩
theorem scLeastIn : FnScope ["office", "plan"] ["office", "plan"] (defScope sLeastIn) := ⟨rfl, rfl, rfl, by decide +kernel, rfl, by decide +kernel, by decide +kernel⟩
theorem scNeedPlan : FnScope ["office", "plan"] ["office", "plan"] (defScope sNeedPlan) := ⟨rfl, rfl, rfl, by decide +kernel, rfl, by decide +kernel, by decide +kernel⟩
theorem scNeedPairs : FnScope ["office", "plan", "met", "index", "pair"] ["office", "plan"] (defScope sNeedPairs) := ⟨rfl, rfl, rfl, by decide +kernel, rfl, by decide +kernel, by decide +kernel⟩
section
variable {P : Program} {w : World} {K : PySem.W.Frag} {mg : Str → Option Value} {base : Heap}
/-! ### need_office -/
def spNeedOffice : Sp := fun vs H Q _ => ∃ v o, vs = [v] ∧ IsPr H v o ∧ OffOk o ∧ Q .non H
theorem ok_need_office (D : Def K mg "need_office" sNeedOffice ["office"]) (B : Bl mg) (L : Ok P w K mg base 1 "is_list" ["value", "least", "most"] spIsList) (I : Ok P w K mg base 2 "is_in" ["value", "least", "most"] spIsIn) :
    Ok P w K mg base 3 "need_office" ["office"] spNeedOffice := by
  refine Ok.mk' D scNeedOffice (fun vs H Q E ⟨v, o, h, _⟩ => by rw [h]; rfl) fun f cdv A outer s H vs Q E hr ⟨v, o, hv, ho, oo, q⟩ => ?_
  subst hv
  obtain ⟨a, rfl, ha⟩ := ho
  obtain ⟨t7, m7⟩ := B.mp
  obtain ⟨t6, m6⟩ := B.mc
  refine ⟨_, pss_one (ps_if (PW.pt (pw_or (pt_not (pt_val (L.call (hr.mono (by decide)) (by rfl) (pa_cons (pv 0) (pa_cons pe_int (pa_cons pe_int pa_nil))))))
    (pw_or (pt_not (pt_val (I.call hr (by rfl) (pa_cons (pe_ix ix_tup (pv 0) pe_int (fun _ _ => rfl)) (pa_cons pe_int (pa_cons (pe_glob (v := .int 7) (by rfl) m7 ⟨_, rfl⟩) pa_nil))))))
      (pw_or1 (pt_not (pt_val (I.call hr (by rfl) (pa_cons (pe_ix ix_tup (pv 0) pe_int (fun _ _ => rfl)) (pa_cons pe_int (pa_cons (pe_glob (v := .int 6) (by rfl) m6 ⟨_, rfl⟩) pa_nil))))))))))
    pss_never pss_nil), ?_⟩
  refine ⟨.ref a, rfl, a, _, 2, 2, rfl, ha, _, rfl, iteN rfl ?_⟩
  refine ⟨.ref a, rfl, a, _, 0, .int o.1, rfl, rfl, SqT.of ha, rfl, o.1, 1, 7, rfl, _, rfl, iteN ?_ ?_⟩
  · rw [decide_eq_true oo.p1, decide_eq_true oo.p7]
    rfl
  refine ⟨.ref a, rfl, a, _, 1, .int o.2, rfl, rfl, SqT.of ha, rfl, o.2, 1, 6, rfl, _, rfl, iteN ?_ q⟩
  rw [decide_eq_true oo.c1, decide_eq_true oo.c6]
  rfl
/-! ### least_in -/
def spLeastIn : Sp := fun vs H Q _ => ∃ vo vp o p, vs = [vo, vp] ∧ IsPr H vo o ∧ IsPlan H vp p ∧ 1 ≤ o.1 ∧ ∀ v H', Ex H H' → IsPlan H' v (least o p) → Q v H'
theorem paired_len {α β : Type} {R : α → β → Prop} {xs : List α} {ys : List β} (h : Paired R xs ys) : xs.length = ys.length := Paired.length h
theorem ok_least_in (D : Def K mg "least_in" sLeastIn ["office", "plan"]) (B : Bl mg) : Ok P w K mg base 1 "least_in" ["office", "plan"] spLeastIn := by
  refine Ok.mk' D scLeastIn (fun vs H Q E ⟨_, _, _, _, h, _⟩ => by rw [h]; rfl) fun f cdv A outer s H vs Q E hr ⟨vo, vp, o, p, hv, ho, hp, h1, q⟩ => ?_
  subst hv
  obtain ⟨a, rfl, ha⟩ := ho
  have hp0 := hp
  obtain ⟨b, xs, rfl, hb, hx⟩ := hp0
  have hl := paired_len hx
  refine ⟨_, pss_cons (ps_if (PW.pt (pw_and (pt_cmpR op_eq (pe_callB call_len_seq (by rfl) B.len PySem.boot_len (pa_cons (pv 1) pa_nil)) (pe_ix ix_tup (pv 0) pe_int (fun _ _ => rfl)) (nomark _))
      (pw_and1 (pt_cmpR op_eq (pe_ix ix_tup (pe_ix ix_tup (pv 1) pe_int (fun _ _ => rfl)) pe_int (fun _ _ => rfl)) pe_int (nomark _)))))
      (pss_one (ps_ret (pe_slice sl_tup (pv 1) (po_some pe_int) po_none))) pss_nil)
    (pss_one (ps_ret (pv 1))), ?_⟩
  refine ⟨.ref b, rfl, b, xs, rfl, .inr (SqT.of hb), .ref a, rfl, a, _, 0, .int o.1, rfl, rfl, SqT.of ha, rfl, rfl, _, rfl, iteB decV_int ?_⟩
  have fin : least o p = p → Q (.ref b) H := fun e => q _ _ (Ex.refl H) (by rw [e]; exact hp)
  refine ite2 (fun h => ?_) (fun h => iteF ?_)
  · have h : ((xs.length : Nat) : Int) = o.1 := of_decide_eq_true h
    cases hx with
    | nil =>
      simp only [List.length_nil] at h
      omega
    | @cons x qq xr pr hq ht =>
      obtain ⟨c, rfl, hc⟩ := hq
      refine ⟨.ref b, rfl, b, _, 0, .ref c, rfl, rfl, SqT.of hb, atI_nat (j := 0) rfl, c, _, 1, .int qq.2, rfl, rfl, SqT.of hc, rfl, rfl, _, rfl, ?_⟩
      rw [decV_int]
      have hl' : (((qq :: pr).length : Nat) : Int) = o.1 := by rw [← hl]; exact h
      refine ite2 (fun g => ?_) (fun g => ?_)
      · have g : qq.2 = 0 := of_decide_eq_true g
        refine ⟨.ref b, rfl, 1, rfl, b, _, rfl, SqT.of hb, fun z => ?_, fun d hd => ?_⟩
        · have e : HT.sIx ((V.ref c) :: xr).length 0 (some 1) = min 1 ((V.ref c) :: xr).length := HT.sIx_nat _ 0 1
          have z1 := z.1
          rw [e, List.length_cons] at z1
          omega
        · have e : least o (qq :: pr) = pr := by
            rw [least_cons, if_pos ⟨hl', g⟩]
          refine q _ _ (Ex.new hd) ?_
          rw [e, cutT _ (by simp)]
          exact ⟨d, xr, rfl, upd_same, prs_mono (Ex.new hd) ht⟩
      · have g : ¬ qq.2 = 0 := fun z => g (decide_eq_true z)
        refine ⟨.ref b, rfl, fin ?_⟩
        rw [least_cons, if_neg fun z => g z.2]
  · have h : ¬ ((xs.length : Nat) : Int) = o.1 := fun z => h (decide_eq_true z)
    refine ⟨.ref b, rfl, fin ?_⟩
    cases p with
    | nil => rfl
    | cons qq pr =>
      rw [least_cons, if_neg fun z => h (by rw [hl]; exact z.1)]
/-! ### need_pairs, need_plan -/
abbrev metK (l : Plan) : List (Key × V) := l.map fun q => (Sum.inl q.1, V.bl true)
theorem metK_no {l : Plan} {k : Int} (h : k ∉ l.map Prod.fst) : valV (metK l) (Sum.inl k) = none := by
  refine valV_none fun m => h ?_
  rw [List.map_map] at m
  obtain ⟨q, hq, e⟩ := List.mem_map.mp m
  exact List.mem_map.mpr ⟨q, hq, Sum.inl.inj e⟩
theorem take_not {p : Plan} {i : Nat} {q : Pr} (nd : (p.map Prod.fst).Nodup) (h : p[i]? = some q) : q.1 ∉ (p.take i).map Prod.fst := fun m => by
  obtain ⟨z, hz, e⟩ := List.mem_map.mp m
  obtain ⟨j, hj⟩ := List.mem_iff_getElem?.mp hz
  have hji : j < i := by
    have := (List.getElem?_eq_some_iff.mp hj).1
    rw [List.length_take] at this
    omega
  rw [List.getElem?_take_of_lt hji] at hj
  have a1 : (p.map Prod.fst)[j]? = some q.1 := by
    rw [List.getElem?_map, hj]
    exact congrArg some e
  have a2 : (p.map Prod.fst)[i]? = some q.1 := by
    rw [List.getElem?_map, h]
    rfl
  have := (List.getElem?_inj (List.getElem?_eq_some_iff.mp a1).1 nd).mp (a1.trans a2.symm)
  omega
def spNeedPairs : Sp := fun vs H Q _ => ∃ vo vp o p, vs = [vo, vp] ∧ IsPr H vo o ∧ IsPlan H vp p ∧ OffOk o ∧ VP o p ∧ ∀ H', Ex H H' → Q .non H'
theorem ok_need_pairs (D : Def K mg "need_pairs" sNeedPairs ["office", "plan"]) (B : Bl mg) (L : Ok P w K mg base 1 "is_list" ["value", "least", "most"] spIsList) (I : Ok P w K mg base 2 "is_in" ["value", "least", "most"] spIsIn) :
    Ok P w K mg base 3 "need_pairs" ["office", "plan"] spNeedPairs := by
  refine Ok.mk' D scNeedPairs (fun vs H Q E ⟨_, _, _, _, h, _⟩ => by rw [h]; rfl) fun f cdv A outer s H vs Q E hr ⟨vo, vp, o, p, hv, ho, hp, oo, vo', q⟩ => ?_
  subst hv
  obtain ⟨a, rfl, ha⟩ := ho
  obtain ⟨b, xs, rfl, hb, hx⟩ := hp
  have hl := paired_len hx
  have hu := hu_of hr
  refine ⟨_, pss_cons (ps_if (pt_not (pt_val (L.call (hr.mono (by decide)) (by rfl) (pa_cons (pv 1) (pa_cons pe_int (pa_cons (pe_ix ix_tup (pv 0) pe_int (fun _ _ => rfl)) pa_nil)))))) pss_never pss_nil)
    (pss_cons (ps_set (i := 2) scNeedPairs.nd rfl (.inl rfl) pe_dnewK)
    (pss_one (ps_for PassesOwn.never rfl (pi_enumT (by rfl) B.enum (pa_cons (pv 1) pa_nil))
      (pg_tup rfl (pgs_cons (pg_name (i := 3) scNeedPairs.nd rfl (.inl rfl)) (pgs_cons (pg_name (i := 4) scNeedPairs.nd rfl (.inl rfl)) pgs_nil)))
      (pss_cons (ps_if (PW.pt (pw_or (pt_not (pt_val (L.call (hr.mono (by decide)) (by rfl) (pa_cons (pv 4) (pa_cons pe_int (pa_cons pe_int pa_nil))))))
          (pw_or (pt_not (pt_val (I.call hr (by rfl) (pa_cons (pe_ix ix_tup (pv 4) pe_int (fun _ _ => rfl)) (pa_cons pe_int (pa_cons (pe_op op_sub (pe_ix ix_tup (pv 0) pe_int (fun _ _ => rfl)) pe_int) pa_nil))))))
            (pw_or1 (pt_not (pt_val (I.call hr (by rfl) (pa_cons (pe_ix ix_tup (pv 4) pe_int (fun _ _ => rfl)) (pa_cons pe_int (pa_cons (pe_op op_sub (pe_ix ix_tup (pv 0) pe_int (fun _ _ => rfl)) pe_int) pa_nil)))))))))) pss_never pss_nil)
      (pss_cons (ps_if (pt_cmp (pc_din hu (pe_ix ix_tup (pv 4) pe_int (fun _ _ => rfl)) (pv 2))) pss_never pss_nil)
      (pss_one (ps_dput hu (pv 2) (pe_ix ix_tup (pv 4) pe_int (fun _ _ => rfl)) pe_bl rfl))))))), ?_⟩
  refine ⟨.ref b, rfl, .ref a, rfl, a, _, 0, .int o.1, rfl, rfl, SqT.of ha, rfl, b, xs, 0, o.1, rfl, hb, _, rfl, iteN ?_ ?_⟩
  · rw [hl, decide_eq_true vo'.len, decide_eq_true (by omega)]
    rfl
  intro m hm
  refine ⟨.ref b, rfl, b, xs, rfl, SqT.of (Ex.new hm _ _ hb), ?_⟩
  refine for_enumT (xs := xs) (fun i σ H' => ∃ y3 y4, σ = [some (.ref a), some (.ref b), some (.ref m), y3, y4] ∧ Ex H H' ∧ H' m = some (.dK (metK (p.take i))))
    ⟨none, none, rfl, Ex.new hm, upd_same⟩ (fun i σ H' _ ⟨_, _, _, e, _⟩ => SqT.of (e _ _ hb)) (fun i x σ H' T hix ⟨y3, y4, es, e, em⟩ hT => ?_) (fun σ H' ⟨_, _, _, e, _⟩ => q H' e)
  subst es
  obtain ⟨qq, hqq, hpr⟩ := paired_at hx hix
  obtain ⟨c, rfl, hc⟩ := hpr
  have e1 : Ex H (upd H' T (.tup [.int (i : Nat), .ref c])) := e.trans (Ex.new hT)
  have hc1 := e1 _ _ hc
  have ha1 := e1 _ _ ha
  have hm1 : (upd H' T (.tup [.int (i : Nat), .ref c])) m = some (.dK (metK (p.take i))) := Ex.new hT _ _ em
  have hin : qq ∈ p := List.mem_of_getElem? hqq
  obtain ⟨r1, r2, r3, r4⟩ := vo'.rg qq hin
  have hno := metK_no (take_not vo'.nd hqq)
  refine ⟨T, _, rfl, SqT.of upd_same, rfl, _, _, rfl, _, [], rfl, rfl, ?_⟩
  refine ⟨.ref c, rfl, c, _, 2, 2, rfl, hc1, _, rfl, iteN rfl ?_⟩
  refine ⟨.ref c, rfl, c, _, 0, .int qq.1, rfl, rfl, SqT.of hc1, rfl, .ref a, rfl, a, _, 0, .int o.1, rfl, rfl, SqT.of ha1, rfl, o.1, 1, rfl, rfl, qq.1, 0, o.1 - 1, rfl, _, rfl, iteN ?_ ?_⟩
  · rw [decide_eq_true r1, decide_eq_true r2]
    rfl
  refine ⟨.ref c, rfl, c, _, 1, .int qq.2, rfl, rfl, SqT.of hc1, rfl, .ref a, rfl, a, _, 1, .int o.2, rfl, rfl, SqT.of ha1, rfl, o.2, 1, rfl, rfl, qq.2, 0, o.2 - 1, rfl, _, rfl, iteN ?_ ?_⟩
  · rw [decide_eq_true r3, decide_eq_true r4]
    rfl
  refine ⟨.ref c, rfl, c, _, 0, .int qq.1, rfl, rfl, SqT.of hc1, rfl, .ref m, rfl, m, _, rfl, DGet.k (k := Sum.inl qq.1) hm1, _, rfl, ?_⟩
  rw [hno]
  refine iteF ?_
  refine ⟨.ref m, rfl, .ref c, rfl, c, _, 0, .int qq.1, rfl, rfl, SqT.of hc1, rfl, m, _, rfl, DPut.k (k := Sum.inl qq.1) hm1 ?_, _, _, rfl, ?_, ?_⟩
  · have z := vo'.len
    have z2 := oo.p7
    have z3 : (metK (p.take i)).length ≤ p.length := by
      rw [List.length_map, List.length_take]
      exact Nat.min_le_right _ _
    exact small1000 (by omega)
  · exact e1.mut hm
  · rw [upd_same, putK_new _ hno]
    have e2 : p.take (i + 1) = p.take i ++ [qq] := by rw [List.take_add_one, hqq]; rfl
    rw [e2]
    unfold metK
    rw [List.map_append]
    rfl
def spNeedPlan : Sp := fun vs H Q _ => ∃ vo vp o p, vs = [vo, vp] ∧ IsPr H vo o ∧ IsPlan H vp p ∧ OffOk o ∧ VP o p ∧ ∀ H', Ex H H' → Q .non H'
theorem ok_need_plan (D : Def K mg "need_plan" sNeedPlan ["office", "plan"]) (O : Ok P w K mg base 3 "need_office" ["office"] spNeedOffice) (N : Ok P w K mg base 3 "need_pairs" ["office", "plan"] spNeedPairs) :
    Ok P w K mg base 4 "need_plan" ["office", "plan"] spNeedPlan := by
  refine Ok.mk' D scNeedPlan (fun vs H Q E ⟨_, _, _, _, h, _⟩ => by rw [h]; rfl) fun f cdv A outer s H vs Q E hr ⟨vo, vp, o, p, hv, ho, hp, oo, vo', q⟩ => ?_
  subst hv
  refine ⟨_, pss_cons (ps_expr (O.call hr (by rfl) (pa_cons (pv 0) pa_nil))) (pss_one (ps_expr (N.call hr (by rfl) (pa_cons (pv 0) (pa_cons (pv 1) pa_nil))))), ?_⟩
  exact ⟨vo, rfl, vo, o, rfl, ho, oo, vo, rfl, vp, rfl, vo, vp, o, p, rfl, ho, hp, oo, vo', q⟩
end
end CL
set_option Elab.async false
set_option linter.all false
set_option maxRecDepth 100000
set_option maxHeartbeats 4000000
/-! numbers of deeds -/
namespace CL
open PySem PySem.Spec PyProof.Rows L2 Evl
abbrev sNumDeeds : Stmt := topS 22
abbrev sCountDeeds : Stmt := topS 23
abbrev sNeedFew : Stmt := topS 40
theorem scNumDeeds : FnScope ["office", "people", "counters", "found", "many"] ["office"] (defScope sNumDeeds) := ⟨rfl, rfl, rfl, by decide +kernel, rfl, by decide +kernel, by decide +kernel⟩
theorem scCountDeeds : FnScope ["office"] ["office"] (defScope sCountDeeds) := ⟨rfl, rfl, rfl, by decide +kernel, rfl, by decide +kernel, by decide +kernel⟩
theorem scNeedFew : FnScope ["office"] ["office"] (defScope sNeedFew) := ⟨rfl, rfl, rfl, by decide +kernel, rfl, by decide +kernel, by decide +kernel⟩
def Bd (x : Int) : Prop := -(2 ^ 64) < x ∧ x < 2 ^ 64
instance (x : Int) : Decidable (Bd x) := by
  unfold Bd
  infer_instance
theorem fact_bd : ∀ n, n < 8 → Bd (fact n) := by decide
theorem offs_ok : ∀ o ∈ offs, 1 ≤ o.1 ∧ o.1 ≤ 3 ∧ 1 ≤ o.2 ∧ o.2 ≤ 4 ∧ ((o.1.toNat : Nat) : Int) = o.1 ∧ numDeeds o ≤ 20000 := by decide +kernel
theorem offs_bd : ∀ o ∈ offs, Bd (fact o.1.toNat) ∧ Bd (fact o.1.toNat * (o.2 - 1)) ∧ ∀ i, i < o.1.toNat → Bd (chooseS o.1 i) ∧ Bd (chooseS o.1 i * fact i) := by decide +kernel
theorem offOk_of {o : Off} (h : o ∈ offs) : OffOk o := by
  obtain ⟨h1, h2, h3, h4, _⟩ := offs_ok o h
  exact ⟨h1, by omega, h3, by omega⟩
section
variable {P : Program} {w : World} {K : PySem.W.Frag} {mg : Str → Option Value} {base : Heap}
def spFactorial : Sp := fun vs H Q _ => ∃ n : Nat, vs = [.int (n : Int)] ∧ n ≤ 7 ∧ Q (.int (fact n)) H
theorem ok_factorial (D : Def K mg "factorial" sFactorial ["many"]) (B : Bl mg) : Ok P w K mg base 1 "factorial" ["many"] spFactorial := by
  refine Ok.mk' D scFactorial (fun vs H Q E ⟨_, h, _⟩ => by rw [h]; rfl) fun f cdv A outer s H vs Q E hr ⟨n, hv, hn, q⟩ => ?_
  subst hv
  refine ⟨_, pss_cons (ps_set (i := 1) scFactorial.nd rfl (.inl rfl) pe_int)
    (pss_cons (ps_for PassesOwn.never rfl (pi_range2 (by rfl) B.range (pa_cons pe_int (pa_cons (pe_op op_add (pv 0) pe_int) pa_nil))) (pg_name (i := 2) scFactorial.nd rfl (.inl rfl))
      (pss_one (ps_set (i := 1) scFactorial.nd rfl (.inl rfl) (pe_op op_mul (pv 1) (pv 2)))))
    (pss_one (ps_ret (pv 1)))), ?_⟩
  refine ⟨.int n, rfl, n, 1, rfl, rfl, 2, (n : Int) + 1, rfl, ⟨by omega, by omega, by omega, by omega⟩, ?_⟩
  refine for_range (lo := 2) (n := ((n : Int) + 1 - 2).toNat) (fun i σ H' => H' = H ∧ ∃ y, σ = [some (.int (n : Int)), some (.int (fact (i + 1))), y]) ⟨rfl, none, rfl⟩ (fun i σ H' hi ⟨eh, y, es⟩ => ?_) (fun σ H' ⟨eh, y, es⟩ => ?_)
  · subst eh es
    refine ⟨.int (fact (i + 1)), rfl, .int (2 + (i : Nat)), rfl, _, _, rfl, rfl, .inl (fact_bd _ (by omega)), rfl, some (.int (2 + (i : Nat))), ?_⟩
    have e : fact (i + 1) * (2 + ((i : Nat) : Int)) = fact (i + 1 + 1) := by
      show _ = fact (i + 1) * (((i + 1 : Nat) : Int) + 1)
      congr 1
      omega
    rw [← e]
    rfl
  · subst eh es
    refine ⟨.int _, rfl, ?_⟩
    have e : fact (((n : Int) + 1 - 2).toNat + 1) = fact n := by
      cases n with
      | zero => rfl
      | succ m =>
        have e2 : (((m + 1 : Nat) : Int) + 1 - 2).toNat = m := by omega
        rw [e2]
    show Q (.int (fact (((n : Int) + 1 - 2).toNat + 1))) H'
    rw [e]
    exact q
def spChoose : Sp := fun vs H Q _ => ∃ (m : Int) (n : Nat), vs = [.int m, .int (n : Int)] ∧ (n : Int) ≤ m ∧ m ≤ 7 ∧ Q (.int (chooseS m n)) H
theorem ok_choose (D : Def K mg "choose" sChoose ["many", "some"]) (B : Bl mg) : Ok P w K mg base 1 "choose" ["many", "some"] spChoose := by
  refine Ok.mk' D scChoose (fun vs H Q E ⟨_, _, h, _⟩ => by rw [h]; rfl) fun f cdv A outer s H vs Q E hr ⟨m, n, hv, hn, hm, q⟩ => ?_
  subst hv
  refine ⟨_, pss_cons (ps_if (pt_not (pt_chain op_le op_le pe_int (pv 1) (pv 0))) (pss_one (ps_ret pe_int)) pss_nil)
    (pss_cons (ps_set (i := 2) scChoose.nd rfl (.inl rfl) pe_int)
    (pss_cons (ps_for PassesOwn.never rfl (pi_range1 (by rfl) B.range (pa_cons (pv 1) pa_nil)) (pg_name (i := 3) scChoose.nd rfl (.inl rfl))
      (pss_one (ps_set (i := 2) scChoose.nd rfl (.inl rfl) (pe_op op_fdiv (pe_op op_mul (pv 2) (pe_op op_sub (pv 0) (pv 3))) (pe_op op_add (pv 3) pe_int)))))
    (pss_one (ps_ret (pv 2))))), ?_⟩
  refine ⟨.int n, rfl, 0, n, rfl, rfl, _, rfl, ?_⟩
  rw [decide_eq_true (show (0 : Int) ≤ (n : Int) by omega)]
  refine iteT ⟨.int m, rfl, n, m, rfl, rfl, _, rfl, iteN (decide_eq_true hn) ?_⟩
  refine ⟨.int n, rfl, n, rfl, by omega, by omega, ?_⟩
  refine for_range (lo := 0) (n := (n : Int).toNat) (fun i σ H' => H' = H ∧ ∃ y, σ = [some (.int m), some (.int (n : Int)), some (.int (chooseS m i)), y]) ⟨rfl, none, rfl⟩ (fun i σ H' hi ⟨eh, y, es⟩ => ?_) (fun σ H' ⟨eh, y, es⟩ => ?_)
  · subst eh es
    refine ⟨.int (chooseS m i), rfl, .int m, rfl, .int (0 + (i : Nat)), rfl, _, _, rfl, rfl, _, _, rfl, rfl, .inr ⟨by omega, by omega⟩, .int (0 + (i : Nat)), rfl, _, _, rfl, rfl, _, _, rfl, rfl, ⟨by omega, by omega⟩, rfl, some (.int (0 + (i : Nat))), ?_⟩
    rw [Int.zero_add]
    rfl
  · subst eh es
    refine ⟨.int _, rfl, ?_⟩
    show Q (.int (chooseS m (n : Int).toNat)) H'
    rw [Int.toNat_natCast]
    exact q
def spRaised : Sp := fun vs H Q _ => ∃ (b : Int) (n : Nat), vs = [.int b, .int (n : Int)] ∧ Bd b ∧ n ≤ 7 ∧ Q (.int (raised b n)) H
theorem ok_raised (D : Def K mg "raised" sRaised ["base", "times"]) (B : Bl mg) : Ok P w K mg base 1 "raised" ["base", "times"] spRaised := by
  refine Ok.mk' D scRaised (fun vs H Q E ⟨_, _, h, _⟩ => by rw [h]; rfl) fun f cdv A outer s H vs Q E hr ⟨b, n, hv, hb, hn, q⟩ => ?_
  subst hv
  refine ⟨_, pss_cons (ps_set (i := 2) scRaised.nd rfl (.inl rfl) pe_int)
    (pss_cons (ps_for PassesOwn.never rfl (pi_range1 (by rfl) B.range (pa_cons (pv 1) pa_nil)) (pg_name (i := 3) scRaised.nd rfl (.inl rfl))
      (pss_one (ps_set (i := 2) scRaised.nd rfl (.inl rfl) (pe_op op_mul (pv 2) (pv 0)))))
    (pss_one (ps_ret (pv 2)))), ?_⟩
  refine ⟨.int n, rfl, n, rfl, by omega, by omega, ?_⟩
  refine for_range (lo := 0) (n := (n : Int).toNat) (fun i σ H' => H' = H ∧ ∃ y, σ = [some (.int b), some (.int (n : Int)), some (.int (raised b i)), y]) ⟨rfl, none, rfl⟩ (fun i σ H' hi ⟨eh, y, es⟩ => ?_) (fun σ H' ⟨eh, y, es⟩ => ?_)
  · subst eh es
    exact ⟨.int (raised b i), rfl, .int b, rfl, _, _, rfl, rfl, .inr hb, rfl, some (.int (0 + (i : Nat))), rfl⟩
  · subst eh es
    refine ⟨.int _, rfl, ?_⟩
    show Q (.int (raised b (n : Int).toNat)) H'
    rw [Int.toNat_natCast]
    exact q
def spNumDeeds : Sp := fun vs H Q _ => ∃ v o, vs = [v] ∧ IsPr H v o ∧ o ∈ offs ∧ Q (.int (numDeeds o)) H
theorem ok_number_of_deeds (D : Def K mg "number_of_deeds" sNumDeeds ["office"]) (B : Bl mg) (F : Ok P w K mg base 1 "factorial" ["many"] spFactorial) (C : Ok P w K mg base 1 "choose" ["many", "some"] spChoose) (R : Ok P w K mg base 1 "raised" ["base", "times"] spRaised) :
    Ok P w K mg base 2 "number_of_deeds" ["office"] spNumDeeds := by
  refine Ok.mk' D scNumDeeds (fun vs H Q E ⟨_, _, h, _⟩ => by rw [h]; rfl) fun f cdv A outer s H vs Q E hr ⟨v, o, hv, ho, hoo, q⟩ => ?_
  subst hv
  obtain ⟨a, rfl, ha⟩ := ho
  obtain ⟨p1, p3, c1, c4, ep, _⟩ := offs_ok o hoo
  obtain ⟨b1, b2, b3⟩ := offs_bd o hoo
  refine ⟨_, pss_cons (ps_asg (pv 0) (pg_tup rfl (pgs_cons (pg_name (i := 1) scNumDeeds.nd rfl (.inl rfl)) (pgs_cons (pg_name (i := 2) scNumDeeds.nd rfl (.inl rfl)) pgs_nil))))
    (pss_cons (ps_set (i := 3) scNumDeeds.nd rfl (.inl rfl) (pe_op op_mul (pe_op op_mul (F.call hr (by rfl) (pa_cons (pv 1) pa_nil)) (pe_op op_sub (pv 2) pe_int)) (R.call hr (by rfl) (pa_cons (pv 2) (pa_cons (pe_op op_sub (pv 1) pe_int) pa_nil)))))
    (pss_cons (ps_for PassesOwn.never rfl (pi_range1 (by rfl) B.range (pa_cons (pv 1) pa_nil)) (pg_name (i := 4) scNumDeeds.nd rfl (.inl rfl))
      (pss_one (ps_aug (i := 3) scNumDeeds.nd rfl (.inl rfl) (pe_op op_mul (pe_op op_mul (C.call hr (by rfl) (pa_cons (pv 1) (pa_cons (pv 4) pa_nil))) (F.call hr (by rfl) (pa_cons (pv 4) pa_nil))) (R.call hr (by rfl) (pa_cons (pv 2) (pa_cons (pv 4) pa_nil)))) ip_add)))
    (pss_one (ps_ret (pv 3))))), ?_⟩
  refine ⟨.ref a, rfl, a, _, rfl, SqT.of ha, rfl, _, _, rfl, _, [], rfl, rfl, ?_⟩
  refine ⟨.int o.1, rfl, o.1.toNat, by rw [ep]; rfl, by omega, .int o.2, rfl, _, _, rfl, rfl, _, _, rfl, rfl, .inl b1, ?_⟩
  refine ⟨.int o.2, rfl, .int o.1, rfl, o.1, 1, rfl, rfl, o.2, (o.1 - 1).toNat, ?_, ⟨by omega, by omega⟩, by omega, _, _, rfl, rfl, .inl b2, ?_⟩
  · have e : (((o.1 - 1).toNat : Nat) : Int) = o.1 - 1 := by omega
    rw [e]
    rfl
  refine ⟨.int o.1, rfl, o.1, rfl, by omega, by omega, ?_⟩
  refine for_range (lo := 0) (n := o.1.toNat) (fun i σ H' => H' = H ∧ ∃ y, σ = [some (.ref a), some (.int o.1), some (.int o.2), some (.int (numS o i)), y]) ⟨rfl, none, rfl⟩ (fun i σ H' hi ⟨eh, y, es⟩ => ?_) (fun σ H' ⟨eh, y, es⟩ => ?_)
  · subst eh es
    obtain ⟨b4, b5⟩ := b3 i hi
    have e0 : (0 : Int) + ((i : Nat) : Int) = (i : Nat) := Int.zero_add _
    refine ⟨.int (numS o i), rfl, ?_⟩
    refine ⟨.int o.1, rfl, .int (0 + (i : Nat)), rfl, o.1, i, by rw [e0]; rfl, by omega, by omega, ?_⟩
    refine ⟨.int (0 + (i : Nat)), rfl, i, by rw [e0]; rfl, by omega, _, _, rfl, rfl, .inl b4, ?_⟩
    refine ⟨.int o.2, rfl, .int (0 + (i : Nat)), rfl, o.2, i, by rw [e0]; rfl, ⟨by omega, by omega⟩, by omega, _, _, rfl, rfl, .inl b5, _, _, rfl, rfl, rfl, some (.int (0 + (i : Nat))), rfl⟩
  · subst eh es
    exact ⟨.int _, rfl, q⟩
theorem ok_count_deeds (D : Def K mg "count_deeds" sCountDeeds ["office"]) (O : Ok P w K mg base 3 "need_office" ["office"] spNeedOffice) (N : Ok P w K mg base 3 "number_of_deeds" ["office"] spNumDeeds) :
    Ok P w K mg base 4 "count_deeds" ["office"] spNumDeeds := by
  refine Ok.mk' D scCountDeeds (fun vs H Q E ⟨_, _, h, _⟩ => by rw [h]; rfl) fun f cdv A outer s H vs Q E hr ⟨v, o, hv, ho, hoo, q⟩ => ?_
  subst hv
  refine ⟨_, pss_cons (ps_expr (O.call hr (by rfl) (pa_cons (pv 0) pa_nil))) (pss_one (ps_ret (N.call hr (by rfl) (pa_cons (pv 0) pa_nil)))), ?_⟩
  exact ⟨v, rfl, v, o, rfl, ho, offOk_of hoo, v, rfl, v, o, rfl, ho, hoo, q⟩
def spNeedFew : Sp := fun vs H Q _ => ∃ v o, vs = [v] ∧ IsPr H v o ∧ o ∈ offs ∧ Q .non H
theorem ok_need_few (D : Def K mg "need_few" sNeedFew ["office"]) (B : Bl mg) (N : Ok P w K mg base 2 "number_of_deeds" ["office"] spNumDeeds) : Ok P w K mg base 3 "need_few" ["office"] spNeedFew := by
  refine Ok.mk' D scNeedFew (fun vs H Q E ⟨_, _, h, _⟩ => by rw [h]; rfl) fun f cdv A outer s H vs Q E hr ⟨v, o, hv, ho, hoo, q⟩ => ?_
  subst hv
  obtain ⟨tm, mm⟩ := B.md
  obtain ⟨_, _, _, _, _, le⟩ := offs_ok o hoo
  refine ⟨_, pss_one (ps_if (pt_cmpR op_gt (N.call hr (by rfl) (pa_cons (pv 0) pa_nil)) (pe_glob (v := .int 20000) (by rfl) mm ⟨_, rfl⟩) (nomark _)) pss_never pss_nil), ?_⟩
  refine ⟨v, rfl, v, o, rfl, ho, hoo, _, _, rfl, rfl, _, rfl, ?_⟩
  rw [decide_eq_false (by omega)]
  exact iteF q
end
end CL
set_option Elab.async false
set_option linter.all false
set_option maxRecDepth 100000
set_option maxHeartbeats 4000000
/-! name = {..}, the name a local of the block -/
namespace CL
open PySem PySem.Spec PyProof.Rows L2 Evl
section
variable {X : Cx}
theorem ps_setDc {i : Nat} {y : Str} {py : Pos} {kx vx tg iter : Expr} {ifs : List Expr} {scope : Scope} {own : List (Str × Nat)} {pos spos : Pos} {wi : TI} {g : TG} {tt : TT} {tk tv : TE} (hc : X.calm = true) (hN : X.N.Nodup) (hy : X.N[i]? = some y) (hyl : X.env.scope.names.lookup y = some .local)
    (hsw : swapsWith (.DictComp kx vx [⟨tg, iter, ifs, 0⟩] scope pos) (some (.Name y py)) spos.line X.env = pure true) (hi : PI X tg iter wi) (ok : BlkOk X.N X.env.scope scope own)
    (hg : ∀ (s : Shared) (H : Hp) (C : Addr) (cl : List (Str × Addr)) (fp : List Addr), PG (X.blk s H scope (compEnvC scope cl C X.env) fp) tg g) (ht : ∀ (s : Shared) (H : Hp) (C : Addr) (cl : List (Str × Addr)) (fp : List Addr), PTs (X.blk s H scope (compEnvC scope cl C X.env) fp) ifs tt)
    (hk : ∀ (s : Shared) (H : Hp) (C : Addr) (cl : List (Str × Addr)) (fp : List Addr), PE (X.blk s H scope (compEnvC scope cl C X.env) fp) kx tk)
    (he : ∀ (s : Shared) (H : Hp) (C : Addr) (cl : List (Str × Addr)) (fp : List Addr), PE (X.blk s H scope (compEnvC scope cl C X.env) fp) vx tv) (hs : ∀ x, foldedSetIterable iter X.env x = pure x := by intro _; rfl) :
    PS X (.Assign [.Name y py] (.DictComp kx vx [⟨tg, iter, ifs, 0⟩] scope pos) spos) (tAsg (tDc wi g tt tk tv (own.map (·.2))) (gName i)) := by
  refine ⟨fun pins s σ H D I h => ?_⟩
  rw [exec_Assign_Name_used _ _ _ _ hsw]
  refine wpAny_bind (wpAny_standAt (wpAny_bind ?_))
  show wpAny _ X.A (do let _ ← comprehension (.DictComp kx vx [⟨tg, iter, ifs, 0⟩] scope pos) scope X.env (firstIterPos [⟨tg, iter, ifs, 0⟩] pos) newDict false (eval iter X.env) (some (assign (.Name y py) X.env))) _ _ s
  have h : tDc wi g tt tk tv (own.map (·.2)) σ H (fun x H1 => gName i x σ H1 D.nx) := h
  refine wpAny_bind (thn (dc_core (Qf := fun _ s' => SP X pins D .next s') hc hN I hi ok hg ht hk he hs h fun L C s' m H' I' q hn f => ?_) fun _ s' hq => wpAny_pure (wpAny_pure hq))
  show wpAny _ _ (assign (.Name y py) X.env (.ref L)) _ _ _
  refine wpAny_assign_Name (store_ok2 (v := V.ref L) I' hN hy (.inl hyl) rfl (fun s2 I2 ⟨a, sb, ha⟩ => ?_) (.inr hyl))
  obtain ⟨f0, f1, f2, f3, f4, f5⟩ := f
  have haC : C ≠ a := by
    rcases ha with z | z
    · rw [z]; exact f1
    · exact fun e => f4 y a z e.symm
  refine ⟨m, hn.sameBut sb haC, fun h3 sb3 => ?_⟩
  exact ⟨_, H', I2.turned (t' := s2.toks) (fun b o hb e => (sb3.2 b hb).trans e) f0 f1 f3 f4 f5, q⟩
theorem sw_dc {kx vx : Expr} {gs : List Comprehension} {scope : Scope} {pos py : Pos} {y : Str} {l : Nat} {env : Env} (hk : env.scope.kind = .function) (hy : env.scope.names.lookup y = some .local) (hl : (py.line == pos.line) = true)
    (ha : (scope.names.any fun (n, k) => n == y && (k == .local || k == .cell)) = false) : swapsWith (.DictComp kx vx gs scope pos) (some (.Name y py)) l env = pure true := by
  have ky : env.kindOf y = some .local := hy
  have hb : env.blockKind = .function := by unfold Env.blockKind; rw [hk]; rfl
  unfold swapsWith
  simp only [hb, ky, ha, Expr.pos, hl]
  rfl
end
end CL
set_option Elab.async false
set_option linter.all false
set_option maxRecDepth 100000
set_option maxHeartbeats 4000000
/-! joined, product -/
namespace CL
open PySem PySem.Spec PyProof.Rows L2 Evl
abbrev plK (l : Plan) : List (Key × V) := l.map fun q => (Sum.inl q.1, V.int q.2)
theorem plK_drop (k : Int) : ∀ l : Plan, dropK (plK l) (Sum.inl k) = plK (dropP l k)
  | [] => rfl
  | q :: r => by
    have ih := plK_drop k r
    unfold dropK dropP plK at ih ⊢
    rw [List.map_cons, List.filter_cons, List.filter_cons, ih]
    by_cases h : q.1 = k
    · have h1 : decide ((Sum.inl q.1 : Key) ≠ Sum.inl k) = false := decide_eq_false (by rw [h]; exact fun z => z rfl)
      have h2 : decide (q.1 ≠ k) = false := decide_eq_false (by rw [h]; exact fun z => z rfl)
      simp only [h1, h2, Bool.false_eq_true, if_false]
    · have h1 : decide ((Sum.inl q.1 : Key) ≠ Sum.inl k) = true := decide_eq_true fun z => h (Sum.inl.inj z)
      have h2 : decide (q.1 ≠ k) = true := decide_eq_true h
      simp only [h1, h2, if_true, List.map_cons]
theorem plK_val (k : Int) : ∀ l : Plan, (valV (plK l) (Sum.inl k) = some (.int (lookD l k))) ∨ (valV (plK l) (Sum.inl k) = none ∧ lookD l k = 0 ∧ dropP l k = l)
  | [] => .inr ⟨rfl, rfl, rfl⟩
  | q :: r => by
    by_cases h : q.1 = k
    · refine .inl ?_
      rw [plK, List.map_cons, valV_pos (by rw [h]), lookD, if_pos h]
    · have e : valV (plK (q :: r)) (Sum.inl k) = valV (plK r) (Sum.inl k) := valV_neg fun z => h (Sum.inl.inj z)
      have e2 : lookD (q :: r) k = lookD r k := by rw [lookD, if_neg h]
      rw [e, e2]
      rcases plK_val k r with z | ⟨z1, z2, z3⟩
      · exact .inl z
      · refine .inr ⟨z1, z2, ?_⟩
        unfold dropP at z3 ⊢
        rw [List.filter_cons, decide_eq_true h, if_pos rfl, z3]
theorem dropP_no (k : Int) (l : Plan) : k ∉ (dropP l k).map Prod.fst := fun m => by
  obtain ⟨q, hq, e⟩ := List.mem_map.mp m
  have := (List.mem_filter.mp hq).2
  exact (of_decide_eq_true this) e
theorem plK_no {l : Plan} {k : Int} (h : k ∉ l.map Prod.fst) : valV (plK l) (Sum.inl k) = none := by
  refine valV_none fun m => h ?_
  rw [List.map_map] at m
  obtain ⟨q, hq, e⟩ := List.mem_map.mp m
  exact List.mem_map.mpr ⟨q, hq, Sum.inl.inj e⟩
theorem plK_put {l : Plan} {k v : Int} (h : k ∉ l.map Prod.fst) : putK (plK l) (Sum.inl k) (.int v) = plK (l ++ [(k, v)]) := by
  rw [putK_new _ (plK_no h)]
  unfold plK
  rw [List.map_append]
  rfl
theorem stepJ_len (c : Int) (d : Plan) (q : Pr) : (stepJ c d q).length ≤ d.length + 1 := by
  unfold stepJ dropP
  rw [List.length_append]
  have := List.length_filter_le (fun z : Pr => decide (z.1 ≠ q.1)) d
  simp only [List.length_singleton]
  omega
theorem join_len (c : Int) : ∀ (other one : Plan), (other.foldl (stepJ c) one).length ≤ one.length + other.length
  | [], one => Nat.le_refl _
  | q :: r, one => by
    have h1 := stepJ_len c one q
    have h2 := join_len c r (stepJ c one q)
    rw [List.foldl_cons, List.length_cons]
    omega
theorem items_plan {H : Hp} : ∀ {ts : List Addr} {l : Plan}, Paired (fun (t : Addr) (q : Key × V) => H t = some (.tup [kV q.1, q.2])) ts (plK l) → Paired (IsPr H) (ts.map V.ref) l
  | [], [], .nil => .nil
  | t :: ts, q :: r, .cons h t' => .cons ⟨t, rfl, h⟩ (items_plan t')
abbrev gPair (K : PySem.W.Frag) (i j : Nat) : TG := gTup K 2 (gCons (gName i) (gCons (gName j) gNil))
abbrev sJoined : Stmt := topS 26
abbrev sProduct : Stmt := topS 27
abbrev nJoined : List Str := ["office", "one", "other", "counters", "person", "number", "found", "before"]
theorem scJoined : FnScope nJoined ["office", "one", "other"] (defScope sJoined) := ⟨rfl, rfl, rfl, by decide +kernel, rfl, by decide +kernel, by decide +kernel⟩
theorem scProduct : FnScope ["office", "one", "other"] ["office", "one", "other"] (defScope sProduct) := ⟨rfl, rfl, rfl, by decide +kernel, rfl, by decide +kernel, by decide +kernel⟩
section
variable {P : Program} {w : World} {K : PySem.W.Frag} {mg : Str → Option Value} {base : Heap}
def JInv (a b1 b2 : Addr) (c : Int) (m : Addr) (H : Hp) (d : Plan) (σ : L2.St) (H' : Hp) : Prop := ∃ y4 y5 y7, σ = [some (.ref a), some (.ref b1), some (.ref b2), some (.int c), y4, y5, some (.ref m), y7] ∧ Ex H H' ∧ H' m = some (.dK (plK d))
def spJoined : Sp := fun vs H Q _ => ∃ vo v1 v2 o p1 p2, vs = [vo, v1, v2] ∧ IsPr H vo o ∧ IsPlan H v1 p1 ∧ IsPlan H v2 p2 ∧ 0 < o.2 ∧ (p1.map Prod.fst).Nodup ∧ p1.length ≤ 100 ∧ p2.length ≤ 100 ∧ ∀ v H', Ex H H' → IsPlan H' v (join o.2 p1 p2) → Q v H'
theorem ok_joined (D : Def K mg "joined" sJoined ["office", "one", "other"]) (B : Bl mg) : Ok P w K mg base 1 "joined" ["office", "one", "other"] spJoined := by
  refine Ok.mk' D scJoined (fun vs H Q E ⟨_, _, _, _, _, _, h, _⟩ => by rw [h]; rfl) fun f cdv A outer s H vs Q E hr ⟨vo, v1, v2, o, p1, p2, hv, ho, h1, h2, hc, nd, l1, l2, q⟩ => ?_
  subst hv
  obtain ⟨a, rfl, ha⟩ := ho
  obtain ⟨b1, xs1, rfl, hb1, hx1⟩ := h1
  obtain ⟨b2, xs2, rfl, hb2, hx2⟩ := h2
  have hl1 := paired_len hx1
  have hl2 := paired_len hx2
  have hu := hu_of hr
  refine ⟨_, pss_cons (ps_set (i := 3) scJoined.nd rfl (.inl rfl) (pe_ix ix_tup (pv 0) pe_int (fun _ _ => rfl)))
    (pss_cons (ps_setDc (i := 6) (own := [("person", 4), ("number", 5)]) (g := gPair K 4 5) (tt := tYes) (tk := tVar 4) (tv := tVar 5) rfl scJoined.nd rfl rfl (sw_dc rfl rfl rfl (by decide +kernel)) (pi_tup (pv 1)) (blkOk_by (N := nJoined) (sc := defScope sJoined) (by decide +kernel))
      (fun _ _ _ _ _ => pg_tup rfl (pgs_cons (pg_name (i := 4) scJoined.nd rfl (.inl rfl)) (pgs_cons (pg_name (i := 5) scJoined.nd rfl (.inl rfl)) pgs_nil)))
      (fun _ _ _ _ _ => pts_nil) (fun _ _ _ _ _ => pv 4) (fun _ _ _ _ _ => pv 5))
    (pss_cons (ps_for PassesOwn.never rfl (pi_tup (pv 2)) (pg_tup rfl (pgs_cons (pg_name (i := 4) scJoined.nd rfl (.inl rfl)) (pgs_cons (pg_name (i := 5) scJoined.nd rfl (.inl rfl)) pgs_nil)))
      (pss_cons (ps_set (i := 7) scJoined.nd rfl (.inl rfl) (pe_dpop2 (pv 6) (pv 4) pe_int ⟨rfl, rfl, rfl, rfl⟩))
      (pss_one (ps_dput hu (pv 6) (pv 4) (pe_op op_mod (pe_op op_add (pv 7) (pv 5)) (pv 3)) rfl))))
    (pss_one (ps_ret (pe_tupItems rfl (pv 6) (by rfl) B.tuple))))), ?_⟩
  refine ⟨.ref a, rfl, a, _, 1, .int o.2, rfl, rfl, SqT.of ha, rfl, ?_⟩
  refine ⟨.ref b1, rfl, b1, rfl, ⟨xs1, SqT.of hb1⟩, ?_⟩
  intro m hm
  refine dc_tup (K := K) (xs := xs1) (fun i H' => Ex H H' ∧ H' m = some (.dK (plK (p1.take i)))) ⟨Ex.new hm, upd_same⟩ (fun i H' _ ⟨e, _⟩ => SqT.of (e _ _ hb1)) (fun i x H' hix ⟨e, em⟩ => ?_) (fun H' ⟨e, em⟩ => ?_)
  · obtain ⟨qq, hqq, hpr⟩ := paired_at hx1 hix
    obtain ⟨c, rfl, hcq⟩ := hpr
    refine ⟨c, _, rfl, SqT.of (e _ _ hcq), rfl, ?_⟩
    have hno := take_not nd hqq
    refine ⟨_, _, rfl, _, [], rfl, rfl, rfl, ?_⟩
    refine ⟨.int qq.1, rfl, .int qq.2, rfl, _, Sum.inl qq.1, rfl, em, ?_, e.mut hm, ?_⟩
    · rw [List.length_map, List.length_take]
      exact small1000 (by omega)
    · have e2 : p1.take (i + 1) = p1.take i ++ [qq] := by rw [List.take_add_one, hqq]; rfl
      rw [upd_same, plK_put hno, e2]
  rw [hl1, List.take_length] at em
  refine ⟨.ref b2, rfl, b2, rfl, ⟨xs2, SqT.of (e _ _ hb2)⟩, ?_⟩
  refine for_tup (K := K) (xs := xs2) (fun i => JInv a b1 b2 o.2 m H ((p2.take i).foldl (stepJ o.2) p1))
    ⟨none, none, none, rfl, e, em⟩ (fun i σ H' _ ⟨_, _, _, _, e, _⟩ => SqT.of (e _ _ hb2)) (fun i x σ H' hix ⟨y4, y5, y7, es, e, em⟩ => ?_) (fun σ H' ⟨y4, y5, y7, es, e, em⟩ => ?_)
  · subst es
    obtain ⟨qq, hqq, hpr⟩ := paired_at hx2 hix
    obtain ⟨c, rfl, hcq⟩ := hpr
    have e2 : p2.take (i + 1) = p2.take i ++ [qq] := by rw [List.take_add_one, hqq]; rfl
    have e3 : (p2.take (i + 1)).foldl (stepJ o.2) p1 = stepJ o.2 ((p2.take i).foldl (stepJ o.2) p1) qq := by rw [e2, List.foldl_append]; rfl
    have hlen := join_len o.2 (p2.take i) p1
    generalize (p2.take i).foldl (stepJ o.2) p1 = d at em e3 hlen
    have hd : d.length ≤ 200 := by
      have : (p2.take i).length ≤ p2.length := by
        rw [List.length_take]
        exact Nat.min_le_right _ _
      omega
    have hd2 : (dropP d qq.1).length ≤ 200 := by
      have := List.length_filter_le (fun z : Pr => decide (z.1 ≠ qq.1)) d
      unfold dropP
      omega
    refine ⟨c, _, rfl, SqT.of (e _ _ hcq), rfl, _, _, rfl, _, [], rfl, rfl, ?_⟩
    have step : ∀ H2 z, z = lookD d qq.1 → Ex H H2 → H2 m = some (.dK (plK (dropP d qq.1))) → JInv a b1 b2 o.2 m H (stepJ o.2 d qq) [some (.ref a), some (.ref b1), some (.ref b2), some (.int o.2), some (.int qq.1), some (.int qq.2), some (.ref m), some (.int z)] (upd H2 m (.dK (putK (plK (dropP d qq.1)) (Sum.inl qq.1) (.int ((z + qq.2) % o.2))))) := fun H2 z ez e2 em2 => by
      subst ez
      refine ⟨_, _, _, rfl, e2.mut hm, ?_⟩
      rw [upd_same, plK_put (dropP_no _ _)]
      rfl
    refine ⟨.ref m, rfl, m, rfl, .inl ⟨_, .inl em⟩, .int qq.1, rfl, plK d, Sum.inl qq.1, em, rfl, fun v hv => ?_, fun hv => ?_⟩
    · have hv' : v = .int (lookD d qq.1) := by
        rcases plK_val qq.1 d with z | ⟨z, _⟩
        · rw [hv] at z
          exact Option.some.inj z
        · rw [hv] at z
          cases z
      subst hv'
      rw [plK_drop]
      refine ⟨.int (lookD d qq.1), rfl, .int qq.2, rfl, _, _, rfl, rfl, .int o.2, rfl, _, _, rfl, rfl, hc, ?_⟩
      refine ⟨.ref m, rfl, .int qq.1, rfl, m, _, rfl, DPut.k (k := Sum.inl qq.1) upd_same ?_, ?_⟩
      · rw [List.length_map]
        exact small1000 (by omega)
      · show JInv a b1 b2 o.2 m H _ _ _
        rw [e3]
        exact step _ _ rfl (e.mut hm) upd_same
    · have hz : lookD d qq.1 = 0 ∧ dropP d qq.1 = d := by
        rcases plK_val qq.1 d with z | ⟨_, z⟩
        · rw [hv] at z
          cases z
        · exact z
      refine ⟨.int 0, rfl, .int qq.2, rfl, _, _, rfl, rfl, .int o.2, rfl, _, _, rfl, rfl, hc, ?_⟩
      refine ⟨.ref m, rfl, .int qq.1, rfl, m, _, rfl, DPut.k (k := Sum.inl qq.1) em ?_, ?_⟩
      · rw [List.length_map]
        exact small1000 (by omega)
      · have z := step H' 0 hz.1.symm e (by rw [hz.2]; exact em)
        rw [hz.2] at z
        show JInv a b1 b2 o.2 m H _ _ _
        rw [e3]
        exact z
  · subst es
    rw [hl2, List.take_length] at em
    refine ⟨.ref m, rfl, m, _, rfl, em, fun H2 p ts e2 hp hpt hts => ?_⟩
    exact q _ _ (e.trans e2) ⟨p, _, rfl, hpt, items_plan hts⟩
end
end CL
set_option Elab.async false
set_option linter.all false
set_option maxRecDepth 100000
set_option maxHeartbeats 4000000
/-! heap words, product, all_deeds, deeds -/
namespace CL
open PySem PySem.Spec PyProof.Rows L2 Evl
theorem nt_lst {H : Hp} {a : Addr} {xs : List V} (h : H a = some (.lst xs)) : ∀ ys, H a ≠ some (.tup ys) := fun ys z => by
  rw [h] at z
  cases z
theorem one_small {v : V} : [v].length ≤ sizeLine := Nat.le_of_lt (small1000 (by simp))
theorem two_small {v u : V} : [v, u].length ≤ sizeLine := Nat.le_of_lt (small1000 (by simp))
theorem nt_none {H : Hp} {a : Addr} (h : H a = none) : ∀ ys, H a ≠ some (.tup ys) := fun ys z => by
  rw [h] at z
  cases z
theorem nt_dK {H : Hp} {a : Addr} {xs : List (Key × V)} (h : H a = some (.dK xs)) : ∀ ys, H a ≠ some (.tup ys) := fun ys z => by
  rw [h] at z
  cases z
theorem IsPr.upd {H : Hp} {a : Addr} {o : HO} (nt : ∀ xs, H a ≠ some (.tup xs)) {v : V} {q : Pr} (h : IsPr H v q) : IsPr (upd H a o) v q := h.tups (tups_upd nt)
theorem IsPlan.upd {H : Hp} {a : Addr} {o : HO} (nt : ∀ xs, H a ≠ some (.tup xs)) {v : V} {p : Plan} (h : IsPlan H v p) : IsPlan (upd H a o) v p := h.tups (tups_upd nt)
theorem plans_upd {H : Hp} {a : Addr} {o : HO} (nt : ∀ xs, H a ≠ some (.tup xs)) {vs : List V} {ps : List Plan} (h : Paired (IsPlan H) vs ps) : Paired (IsPlan (upd H a o)) vs ps := Paired.mapP h fun _ _ z => z.upd nt
theorem PlansAt.upd {H : Hp} {a b : Addr} {o : HO} (nt : ∀ xs, H a ≠ some (.tup xs)) (ne : b ≠ a) {ps : List Plan} (h : PlansAt H b ps) : PlansAt (upd H a o) b ps := by
  obtain ⟨vs, h1, h2⟩ := h
  exact ⟨vs, by rw [upd_ne ne]; exact h1, plans_upd nt h2⟩
theorem plansAt_put {H : Hp} {a : Addr} (nt : ∀ xs, H a ≠ some (.tup xs)) {vs : List V} {ps : List Plan} (h : Paired (IsPlan H) vs ps) : PlansAt (upd H a (.lst vs)) a ps := ⟨vs, upd_same, plans_upd nt h⟩
theorem paired_app {α β : Type} {R : α → β → Prop} : ∀ {xs us : List α} {ys ws : List β}, Paired R xs ys → Paired R us ws → Paired R (xs ++ us) (ys ++ ws)
  | _, _, _, _, .nil, h => h
  | _, _, _, _, .cons r t, h => .cons r (paired_app t h)
theorem rng_at {n : Int} {i : Nat} (h : i < n.toNat) : (rng n)[i]? = some (i : Int) := by
  unfold rng
  rw [List.getElem?_map, List.getElem?_range h]
  rfl
theorem rng_take {n : Int} {i : Nat} (h : i < n.toNat) : (rng n).take (i + 1) = (rng n).take i ++ [(i : Int)] := by
  rw [List.take_add_one, rng_at h]
  rfl
theorem rng_len (n : Int) : (rng n).length = n.toNat := by
  unfold rng
  rw [List.length_map, List.length_range]
theorem rng_all (n : Int) : (rng n).take n.toNat = rng n := List.take_of_length_le (by rw [rng_len]; exact Nat.le_refl _)
theorem take_snoc {α : Type} {l : List α} {i : Nat} {x : α} (h : l[i]? = some x) : l.take (i + 1) = l.take i ++ [x] := by
  rw [List.take_add_one, h]
  rfl
theorem metK_some (l : Plan) (k : Int) : (valV (metK l) (Sum.inl k)).isSome = decide (k ∈ l.map Prod.fst) := by
  by_cases h : k ∈ l.map Prod.fst
  · rw [decide_eq_true h]
    cases e : valV (metK l) (Sum.inl k) with
    | some _ => rfl
    | none =>
      obtain ⟨q, hq, eq⟩ := List.mem_map.mp h
      have z : ((metK l).any fun kv => decide (kv.1 = Sum.inl k)) = true := List.any_eq_true.mpr ⟨_, List.mem_map.mpr ⟨q, hq, rfl⟩, by rw [eq]; exact decide_eq_true rfl⟩
      rw [valV_any, e] at z
      cases z
  · rw [decide_eq_false h, metK_no h]
    rfl
theorem metK_snoc (l : Plan) (q : Pr) (h : q.1 ∉ l.map Prod.fst) : putK (metK l) (Sum.inl q.1) (V.bl true) = metK (l ++ [q]) := by
  rw [putK_new _ (metK_no h)]
  unfold metK
  rw [List.map_append]
  rfl
theorem offs_rounds : ∀ o ∈ offs, ∀ i, i < 4 → i ≤ o.1.toNat → (rounds o i).1.length ≤ 100 ∧ (rounds o i).2.length ≤ 100 ∧ ∀ p ∈ (rounds o i).2, p.length ≤ 3 ∧ (p.map Prod.fst).Nodup := by decide +kernel
theorem flat_len {α β : Type} (f : α → List β) (B : Nat) : ∀ l : List α, (∀ x ∈ l, (f x).length ≤ B) → (l.flatMap f).length ≤ l.length * B
  | [], _ => by simp
  | x :: r, h => by
    have h1 := h x List.mem_cons_self
    have h2 := flat_len f B r fun y hy => h y (List.mem_cons_of_mem _ hy)
    rw [List.flatMap_cons, List.length_append, List.length_cons, Nat.add_mul]
    omega
theorem more_len (c : Int) (pl : Plan) (q : Int) : (more c pl q).length ≤ c.toNat := by
  unfold more
  by_cases h : q ∈ pl.map Prod.fst
  · rw [if_pos h]
    exact Nat.zero_le _
  · rw [if_neg h, List.length_map, rng_len]
    exact Nat.le_refl _
theorem longer_len (o : Off) (pl : Plan) : (longer o pl).length ≤ o.1.toNat * o.2.toNat := by
  have h := flat_len (more o.2 pl) o.2.toNat (rng o.1) fun x _ => more_len _ _ _
  rw [rng_len] at h
  exact h
abbrev sAllDeeds : Stmt := topS 24
abbrev sDeeds : Stmt := topS 25
abbrev nAllDeeds : List Str := ["office", "people", "counters", "found", "last", "turn", "longer", "plan", "person", "met", "number"]
theorem scAllDeeds : FnScope nAllDeeds ["office"] (defScope sAllDeeds) := ⟨rfl, rfl, rfl, by decide +kernel, rfl, by decide +kernel, by decide +kernel⟩
theorem scDeeds : FnScope ["office"] ["office"] (defScope sDeeds) := ⟨rfl, rfl, rfl, by decide +kernel, rfl, by decide +kernel, by decide +kernel⟩
section
variable {P : Program} {w : World} {K : PySem.W.Frag} {mg : Str → Option Value} {base : Heap}
/-! ### product -/
def spProduct : Sp := fun vs H Q _ => ∃ vo v1 v2 o p1 p2, vs = [vo, v1, v2] ∧ IsPr H vo o ∧ IsPlan H v1 p1 ∧ IsPlan H v2 p2 ∧ OffOk o ∧ VP o p1 ∧ VP o p2 ∧ ∀ v H', Ex H H' → IsPlan H' v (prod o p1 p2) → Q v H'
theorem VP.len100 {o : Off} {p : Plan} (h : VP o p) (oo : OffOk o) : p.length ≤ 100 := by
  have := h.len
  have := oo.p7
  omega
theorem ok_product (D : Def K mg "product" sProduct ["office", "one", "other"]) (N : Ok P w K mg base 4 "need_plan" ["office", "plan"] spNeedPlan) (NP : Ok P w K mg base 4 "need_pairs" ["office", "plan"] spNeedPairs)
    (L : Ok P w K mg base 4 "least_in" ["office", "plan"] spLeastIn) (J : Ok P w K mg base 4 "joined" ["office", "one", "other"] spJoined) : Ok P w K mg base 5 "product" ["office", "one", "other"] spProduct := by
  refine Ok.mk' D scProduct (fun vs H Q E ⟨_, _, _, _, _, _, h, _⟩ => by rw [h]; rfl) fun f cdv A outer s H vs Q E hr ⟨vo, v1, v2, o, p1, p2, hv, ho, h1, h2, oo, vp1, vp2, q⟩ => ?_
  subst hv
  refine ⟨_, pss_cons (ps_expr (N.call hr (by rfl) (pa_cons (pv 0) (pa_cons (pv 1) pa_nil)))) (pss_cons (ps_expr (NP.call hr (by rfl) (pa_cons (pv 0) (pa_cons (pv 2) pa_nil))))
    (pss_one (ps_ret (L.call hr (by rfl) (pa_cons (pv 0) (pa_cons (J.call hr (by rfl) (pa_cons (pv 0) (pa_cons (pv 1) (pa_cons (pv 2) pa_nil)))) pa_nil)))))), ?_⟩
  refine ⟨vo, rfl, v1, rfl, vo, v1, o, p1, rfl, ho, h1, oo, vp1, fun Ha ea => ?_⟩
  refine ⟨vo, rfl, v2, rfl, vo, v2, o, p2, rfl, ho.mono ea, h2.mono ea, oo, vp2, fun Hb eb => ?_⟩
  have e := ea.trans eb
  refine ⟨vo, rfl, vo, rfl, v1, rfl, v2, rfl, vo, v1, v2, o, p1, p2, rfl, ho.mono e, h1.mono e, h2.mono e, by have := oo.c1; omega, vp1.nd, vp1.len100 oo, vp2.len100 oo, fun vj Hc ec hj => ?_⟩
  refine ⟨vo, vj, o, _, rfl, ho.mono (e.trans ec), hj, oo.p1, fun vl Hd ed hl => ?_⟩
  exact q _ _ ((e.trans ec).trans ed) hl
/-! ### all_deeds -/
def AInv (vo : V) (o : Off) (H : Hp) (i : Nat) (σ : L2.St) (H' : Hp) : Prop := ∃ F L y5 y6 y7 y8 y9 y10, σ = [some vo, some (.int o.1), some (.int o.2), some (.ref F), some (.ref L), y5, y6, y7, y8, y9, y10] ∧ Ex H H' ∧ H F = none ∧ F ≠ L ∧ PlansAt H' F (rounds o i).1 ∧ PlansAt H' L (rounds o i).2
def BInv (vo : V) (o : Off) (F L G : Addr) (y5 : Option V) (H : Hp) (ps : List Plan) (σ : L2.St) (H' : Hp) : Prop := ∃ y7 y8 y9 y10, σ = [some vo, some (.int o.1), some (.int o.2), some (.ref F), some (.ref L), y5, some (.ref G), y7, y8, y9, y10] ∧ Ex H H' ∧ PlansAt H' G ps
def CInv (vo : V) (o : Off) (F L G : Addr) (y5 : Option V) (x : V) (m : Addr) (pl : Plan) (H : Hp) (ps : List Plan) (σ : L2.St) (H' : Hp) : Prop :=
  ∃ y8 y10, σ = [some vo, some (.int o.1), some (.int o.2), some (.ref F), some (.ref L), y5, some (.ref G), some x, y8, some (.ref m), y10] ∧ Ex H H' ∧ H' m = some (.dK (metK pl)) ∧ PlansAt H' G ps
def spAllDeeds : Sp := fun vs H Q _ => ∃ v o, vs = [v] ∧ IsPr H v o ∧ o ∈ offs ∧ ∀ a H', Ex H H' → PlansAt H' a (deeds o) → Q (.ref a) H'
theorem ok_all_deeds (D : Def K mg "all_deeds" sAllDeeds ["office"]) (B : Bl mg) (L : Ok P w K mg base 1 "least_in" ["office", "plan"] spLeastIn) : Ok P w K mg base 2 "all_deeds" ["office"] spAllDeeds := by
  refine Ok.mk' D scAllDeeds (fun vs H Q E ⟨_, _, h, _⟩ => by rw [h]; rfl) fun f cdv A outer s H vs Q E hr ⟨vo, o, hv, ho, hoo, q⟩ => ?_
  subst hv
  have hu := hu_of hr
  have hu64 := hr.units
  obtain ⟨p1, p3, c1, c4, ep, _⟩ := offs_ok o hoo
  refine ⟨_, pss_cons (ps_asg (pv 0) (pg_tup rfl (pgs_cons (pg_name (i := 1) scAllDeeds.nd rfl (.inl rfl)) (pgs_cons (pg_name (i := 2) scAllDeeds.nd rfl (.inl rfl)) pgs_nil))))
    (pss_cons (ps_par (i := 3) (j := 4) rfl scAllDeeds.nd rfl rfl (by decide) rfl rfl (pa_cons (pe_lst (pa_cons (pe_tup pa_nil) pa_nil)) (pa_cons (pe_lst (pa_cons (pe_tup pa_nil) pa_nil)) pa_nil)) rfl)
    (pss_cons (ps_for PassesOwn.never rfl (pi_range1 (by rfl) B.range (pa_cons (pv 1) pa_nil)) (pg_name (i := 5) scAllDeeds.nd rfl (.inl rfl))
      (pss_cons (ps_set (i := 6) scAllDeeds.nd rfl (.inl rfl) (pe_lst pa_nil))
      (pss_cons (ps_for PassesOwn.never rfl (pi_list (pv 4)) (pg_name (i := 7) scAllDeeds.nd rfl (.inr rfl))
        (pss_cons (ps_setDc (i := 9) (own := [("person", 8), ("number", 10)]) (g := gPair K 8 10) (tt := tYes) (tk := tVar 8) (tv := tC (V.bl true)) rfl scAllDeeds.nd rfl rfl (sw_dc rfl rfl rfl (by decide +kernel)) (pi_tup (pv 7))
            (blkOk_by (N := nAllDeeds) (sc := defScope sAllDeeds) (by decide +kernel))
            (fun _ _ _ _ _ => pg_tup rfl (pgs_cons (pg_name (i := 8) scAllDeeds.nd rfl (.inl rfl)) (pgs_cons (pg_name (i := 10) scAllDeeds.nd rfl (.inl rfl)) pgs_nil)))
            (fun _ _ _ _ _ => pts_nil) (fun _ _ _ _ _ => pv 8) (fun _ _ _ _ _ => pe_bl))
        (pss_one (ps_for PassesOwn.never rfl (pi_range1 (by rfl) B.range (pa_cons (pv 1) pa_nil)) (pg_name (i := 8) scAllDeeds.nd rfl (.inr rfl))
          (pss_one (ps_if (pt_cmp (pc_dnotin hu (pv 8) (pv 9)))
            (pss_one (ps_expr (pe_bm PySem.F.plainAttrs_list PySem.F.slot_list_extend PySem.F.type_list_extend mt_extend (pv 6)
              (pa_cons (pe_lc (own := [("number", 10)]) (g := gName 10) (tt := tYes) (te := tTup (tStar K (tVar 7) (tCons (tTup (tCons (tVar 8) (tCons (tVar 10) tNil))) tNil))) rfl scAllDeeds.nd (pi_range1 (by rfl) B.range (pa_cons (pv 2) pa_nil))
                (blkOk_by (N := nAllDeeds) (sc := defScope sAllDeeds) (by decide +kernel)) (fun _ _ _ _ _ => pg_name (i := 10) scAllDeeds.nd rfl (.inl rfl)) (fun _ _ _ _ _ => pts_nil)
                (fun _ _ _ _ _ => pe_tup (pa_star (pv 7) (pa_cons (pe_tup (pa_cons (pv 8) (pa_cons (pv 10) pa_nil))) pa_nil)))) pa_nil)))) pss_nil))))))
      (pss_cons (ps_expr (pe_bm PySem.F.plainAttrs_list PySem.F.slot_list_extend PySem.F.type_list_extend mt_extend (pv 3) (pa_cons (pv 6) pa_nil)))
      (pss_one (ps_set (i := 4) scAllDeeds.nd rfl (.inl rfl) (pv 6)))))))
    (pss_one (ps_ret (pe_callB (cr_sortPl hu64) (by rfl) B.sorted boot_sorted (pa_cons (pe_lc (own := [("plan", 7)]) (g := gName 7) (tt := tTest (tOp (rEqD K) (tCall spLeastIn [] E0 (tCons (tVar 0) (tCons (tVar 7) tNil))) (tVar 7))) (te := tVar 7)
      rfl scAllDeeds.nd (pi_list (pv 3)) (blkOk_by (N := nAllDeeds) (sc := defScope sAllDeeds) (by decide +kernel)) (fun _ _ _ _ _ => pg_name (i := 7) scAllDeeds.nd rfl (.inl rfl))
      (fun _ _ _ _ _ => pts_one (pt_cmpR (op_eqD hu64) (L.call hr (by rfl) (pa_cons (pv 0) (pa_cons (pv 7) pa_nil))) (pv 7) (nomark _))) (fun _ _ _ _ _ => pv 7)) pa_nil)))))), ?_⟩
  obtain ⟨a, rfl, ha⟩ := ho
  refine ⟨.ref a, rfl, a, _, rfl, SqT.of ha, rfl, _, _, rfl, _, [], rfl, rfl, ?_⟩
  -- [()], [()]
  refine ⟨Nat.zero_le _, fun t1 ht1 => ⟨one_small, fun F hF => ⟨Nat.zero_le _, fun t2 ht2 => ⟨one_small, fun M hM => ?_⟩⟩⟩⟩
  refine ⟨_, _, rfl, ?_⟩
  have x1 : Ex H (upd H t1 (.tup [])) := Ex.new ht1
  have x2 : Ex (upd H t1 (.tup [])) (upd (upd H t1 (.tup [])) F (.lst [.ref t1])) := Ex.new hF
  have x3 : Ex (upd (upd H t1 (.tup [])) F (.lst [.ref t1])) (upd (upd (upd H t1 (.tup [])) F (.lst [.ref t1])) t2 (.tup [])) := Ex.new ht2
  have fM : F ≠ M := fun z => by
    rw [← z, x3 _ _ upd_same] at hM
    cases hM
  have x4 := Ex.new (o := .lst [.ref t2]) hM
  have HF : H F = none := by
    cases e : H F with
    | none => rfl
    | some o =>
      rw [x1 _ _ e] at hF
      cases hF
  have pF : PlansAt (upd (upd H t1 (.tup [])) F (.lst [.ref t1])) F [[]] := plansAt_put (nt_none hF) (.cons ⟨t1, [], rfl, upd_same, .nil⟩ .nil)
  have pM : PlansAt (upd (upd (upd (upd H t1 (.tup [])) F (.lst [.ref t1])) t2 (.tup [])) M (.lst [.ref t2])) M [[]] := plansAt_put (nt_none hM) (.cons ⟨t2, [], rfl, upd_same, .nil⟩ .nil)
  have e4 := x1.trans (x2.trans (x3.trans x4))
  have pF4 := pF.mono (x3.trans x4)
  generalize upd (upd (upd (upd H t1 (.tup [])) F (.lst [.ref t1])) t2 (.tup [])) M (.lst [.ref t2]) = H4 at e4 pF4 pM ⊢
  refine ⟨.int o.1, rfl, o.1, rfl, by omega, by omega, ?_⟩
  refine for_range (lo := 0) (n := o.1.toNat) (fun i => AInv (.ref a) o H i) ⟨F, M, none, none, none, none, none, none, rfl, e4, HF, fM, pF4, pM⟩ (fun i σ H1 hi ⟨F, L, y5, y6, y7, y8, y9, y10, es, e1, hF, fL, pF, pL⟩ => ?_) (fun σ H1 ⟨F, L, y5, y6, y7, y8, y9, y10, es, e1, hF, fL, pF, pL⟩ => ?_)
  · subst es
    obtain ⟨r1, r2, r3⟩ := offs_rounds o hoo i (by omega) (by omega)
    refine ⟨Nat.zero_le _, fun G hG => ?_⟩
    obtain ⟨xsL, hL, hxL⟩ := pL
    have hlL := paired_len hxL
    have eG : Ex H1 (upd H1 G (.lst [])) := Ex.new hG
    refine ⟨.ref L, rfl, L, rfl, ⟨xsL, SqL.of (eG _ _ hL)⟩, ?_⟩
    refine for_list (K := K) (xs := xsL) (fun j => BInv (.ref a) o F L G (some (.int (0 + (i : Nat)))) H1 (((rounds o i).2.take j).flatMap (longer o))) ⟨y7, y8, y9, y10, rfl, eG, plansAt_put (nt_none hG) .nil⟩
      (fun j σ H2 _ ⟨_, _, _, _, _, e2, _⟩ => SqL.of (e2 _ _ hL)) (fun j x σ H2 hjx ⟨y7, y8, y9, y10, es, e2, pG⟩ => ?_) (fun σ H2 ⟨y7, y8, y9, y10, es, e2, pG⟩ => ?_)
    · subst es
      obtain ⟨pl, hpl, hx⟩ := paired_at hxL hjx
      obtain ⟨l3, nd⟩ := r3 pl (List.mem_of_getElem? hpl)
      obtain ⟨b, xb, rfl, hb, hxb⟩ := hx
      have hlb := paired_len hxb
      have jlt : j < (rounds o i).2.length := (List.getElem?_eq_some_iff.mp hpl).1
      have hpre : ((((rounds o i).2.take j).flatMap (longer o)).length) ≤ 100 * 12 := by
        have z := flat_len (longer o) 12 ((rounds o i).2.take j) fun y _ => by
          have z := longer_len o y
          have z2 : o.1.toNat * o.2.toNat ≤ 3 * 4 := Nat.mul_le_mul (by omega) (by omega)
          omega
        have z3 : ((rounds o i).2.take j).length ≤ 100 := by
          rw [List.length_take]
          omega
        have z4 := Nat.mul_le_mul_right 12 z3
        omega
      generalize hpp : ((rounds o i).2.take j).flatMap (longer o) = pre at pG hpre
      have hnext : ((rounds o i).2.take (j + 1)).flatMap (longer o) = pre ++ longer o pl := by
        rw [take_snoc hpl, List.flatMap_append, hpp, List.flatMap_cons, List.flatMap_nil, List.append_nil]
      refine ⟨.ref b, rfl, b, rfl, ⟨xb, SqT.of (e2 _ _ hb)⟩, ?_⟩
      intro m hm
      refine dc_tup (K := K) (xs := xb) (fun k H3 => Ex H2 H3 ∧ H3 m = some (.dK (metK (pl.take k)))) ⟨Ex.new hm, upd_same⟩ (fun k H3 _ ⟨e3, _⟩ => SqT.of (e3 _ _ (e2 _ _ hb))) (fun k x H3 hkx ⟨e3, em⟩ => ?_) (fun H3 ⟨e3, em⟩ => ?_)
      · obtain ⟨qq, hqq, hpr⟩ := paired_at hxb hkx
        obtain ⟨c, rfl, hcq⟩ := hpr
        refine ⟨c, _, rfl, SqT.of (e3 _ _ (e2 _ _ hcq)), rfl, _, _, rfl, _, [], rfl, rfl, rfl, ?_⟩
        refine ⟨.int qq.1, rfl, _, Sum.inl qq.1, rfl, em, ?_, e3.mut hm, ?_⟩
        · rw [List.length_map, List.length_take]
          exact small1000 (by omega)
        · rw [upd_same, metK_snoc _ _ (take_not nd hqq), take_snoc hqq]
      rw [hlb, List.take_length] at em
      refine ⟨.int o.1, rfl, o.1, rfl, by omega, by omega, ?_⟩
      refine for_range (lo := 0) (n := o.1.toNat) (fun k => CInv (.ref a) o F L G (some (.int (0 + (i : Nat)))) (.ref b) m pl H1 (pre ++ ((rng o.1).take k).flatMap (more o.2 pl))) ⟨y8, y10, rfl, e2.trans e3, em, by
        rw [List.take_zero, List.flatMap_nil, List.append_nil]
        exact pG.mono e3⟩ (fun k σ H4 hk ⟨y8, y10, es, e4, em, pG⟩ => ?_) (fun σ H4 ⟨y8, y10, es, e4, em, pG⟩ => ?_)
      · subst es
        have hq : ((rng o.1).take (k + 1)).flatMap (more o.2 pl) = ((rng o.1).take k).flatMap (more o.2 pl) ++ more o.2 pl k := by
          rw [rng_take hk, List.flatMap_append, List.flatMap_cons, List.flatMap_nil, List.append_nil]
        have hpre2 : (pre ++ ((rng o.1).take k).flatMap (more o.2 pl)).length ≤ 2000 := by
          have z := flat_len (more o.2 pl) 4 ((rng o.1).take k) fun y _ => by
            have z := more_len o.2 pl y
            omega
          have z3 : ((rng o.1).take k).length ≤ 3 := by
            rw [List.length_take]
            omega
          rw [List.length_append]
          omega
        refine ⟨.int (0 + (k : Nat)), rfl, .ref m, rfl, m, _, rfl, DGet.k (k := Sum.inl (0 + (k : Int))) em, _, rfl, ?_⟩
        rw [metK_some, show (0 : Int) + (k : Int) = (k : Int) from Int.zero_add _]
        refine ite2 (fun h => ?_) (fun h => ?_)
        · have hno : (k : Int) ∉ pl.map Prod.fst := fun z => by
            rw [decide_eq_true z] at h
            cases h
          have hm1 : more o.2 pl k = (rng o.2).map fun n => pl ++ [((k : Int), n)] := by
            unfold more
            rw [if_neg hno]
          rw [hm1] at hq
          generalize hp2 : pre ++ ((rng o.1).take k).flatMap (more o.2 pl) = pre2 at pG hpre2
          obtain ⟨xsG, hG4, hxG⟩ := pG
          have hlG := paired_len hxG
          refine ⟨.ref G, rfl, .inl ⟨rfl, _, SqL.of hG4⟩, .int o.2, rfl, o.2, rfl, by omega, by omega, ?_⟩
          intro T hT
          refine lc_range (lo := 0) (n := o.2.toNat) (fun n H5 => Ex H4 H5 ∧ PlansAt H5 T (((rng o.2).take n).map fun n => pl ++ [((k : Int), n)])) ⟨Ex.new hT, plansAt_put (nt_none hT) .nil⟩ (fun n H5 hn ⟨e5, pT⟩ => ?_) (fun H5 ⟨e5, pT⟩ => ?_)
          · refine ⟨rfl, ?_⟩
            have eb := (e4.trans e5) _ _ hb
            refine ⟨.ref b, rfl, b, xb, rfl, .inr (SqT.of eb), .int (k : Int), rfl, .int (0 + (n : Nat)), rfl, two_small, fun u hu5 => ⟨?_, fun u2 hu6 => ?_⟩⟩
            · rw [List.length_append, hlb]
              exact Nat.le_of_lt (small1000 (by simp only [List.length_singleton]; omega))
            have e6 : Ex H5 (upd H5 u (.tup [.int (k : Int), .int (0 + (n : Nat))])) := Ex.new hu5
            have e7 := e6.trans (Ex.new (o := .tup (xb ++ [.ref u])) hu6)
            obtain ⟨xsT, hT5, hxT⟩ := pT
            have hlT := paired_len hxT
            have hnew : IsPlan (upd (upd H5 u (.tup [.int (k : Int), .int (0 + (n : Nat))])) u2 (.tup (xb ++ [.ref u]))) (.ref u2) (pl ++ [((k : Int), (n : Int))]) := by
              refine ⟨u2, _, rfl, upd_same, Paired.snoc (prs_mono (e4.trans (e5.trans e7)) hxb) ⟨u, rfl, ?_⟩⟩
              rw [Int.zero_add]
              rw [Int.zero_add] at hu6
              exact Ex.new hu6 _ _ upd_same
            refine ⟨xsT, e7 _ _ hT5, ?_, ?_, ?_⟩
            · rw [hlT, List.length_map, List.length_take]
              exact small1000 (by omega)
            · exact (e5.trans e7).mut hT
            · rw [rng_take hn, List.map_append]
              exact plansAt_put (nt_lst (e7 _ _ hT5)) (Paired.snoc (plans_mono e7 hxT) hnew)
          · rw [rng_all] at pT
            obtain ⟨xsT, hT5, hxT⟩ := pT
            have hlT := paired_len hxT
            rw [List.length_map, rng_len] at hlT
            refine ⟨G, T, xsG, xsT, rfl, rfl, e5 _ _ hG4, hT5, Nat.le_of_lt (Nat.lt_of_le_of_lt (show xsG.length + xsT.length ≤ 3000 by omega) (by decide)), ?_⟩
            refine ⟨_, _, rfl, (e4.trans e5).mut hG, ?_, ?_⟩
            · rw [upd_ne (ne_of (e5 _ _ em) (e5 _ _ hG4) (by intro z; cases z))]
              exact e5 _ _ em
            · rw [hq, ← List.append_assoc, hp2]
              exact plansAt_put (nt_lst (e5 _ _ hG4)) (paired_app (plans_mono e5 hxG) hxT)
        · have hin : (k : Int) ∈ pl.map Prod.fst := by
            by_cases z : (k : Int) ∈ pl.map Prod.fst
            · exact z
            · exact absurd (by rw [decide_eq_false z]; rfl) h
          have hm1 : more o.2 pl k = [] := by
            unfold more
            rw [if_pos hin]
          rw [hm1, List.append_nil] at hq
          refine ⟨_, _, rfl, e4, em, ?_⟩
          rw [hq]
          exact pG
      · subst es
        refine ⟨_, _, _, _, rfl, e4, ?_⟩
        rw [hnext]
        rw [rng_all] at pG
        exact pG
    · subst es
      have hall : ((rounds o i).2.take xsL.length).flatMap (longer o) = round o (rounds o i).2 := by
        rw [hlL, List.take_length]
        rfl
      rw [hall] at pG
      obtain ⟨xsF, hF1, hxF⟩ := pF
      have hlF := paired_len hxF
      obtain ⟨zs, hz, hxz⟩ := pG
      have hlz := paired_len hxz
      obtain ⟨r4, r5, _⟩ := offs_rounds o hoo (i + 1) (by omega) (by omega)
      have hr5 : (round o (rounds o i).2).length ≤ 100 := r5
      have FG : F ≠ G := fun z => by
        rw [z, hG] at hF1
        cases hF1
      refine ⟨.ref F, rfl, .inl ⟨rfl, _, SqL.of (e2 _ _ hF1)⟩, .ref G, rfl, F, G, xsF, zs, rfl, rfl, e2 _ _ hF1, hz, Nat.le_of_lt (small1000 (by omega)), ?_⟩
      refine ⟨.ref G, rfl, F, G, _, _, _, _, _, _, rfl, (e1.trans e2).mut hF, hF, FG, ?_, ?_⟩
      · exact plansAt_put (nt_lst (e2 _ _ hF1)) (paired_app (plans_mono e2 hxF) hxz)
      · exact PlansAt.upd (nt_lst (e2 _ _ hF1)) FG.symm ⟨zs, hz, hxz⟩
  · subst es
    obtain ⟨xsF, hF1, hxF⟩ := pF
    have hlF := paired_len hxF
    obtain ⟨r1, _, _⟩ := offs_rounds o hoo o.1.toNat (by omega) (Nat.le_refl _)
    refine ⟨.ref F, rfl, F, rfl, ⟨xsF, SqL.of hF1⟩, ?_⟩
    intro T hT
    refine lc_list (K := K) (xs := xsF) (fun j H2 => Ex H1 H2 ∧ PlansAt H2 T (((found o).take j).filter fun p => decide (least o p = p))) ⟨Ex.new hT, plansAt_put (nt_none hT) .nil⟩ (fun j H2 _ ⟨e2, _⟩ => SqL.of (e2 _ _ hF1)) (fun j x H2 hjx ⟨e2, pT⟩ => ?_) (fun H2 ⟨e2, pT⟩ => ?_)
    · obtain ⟨pl, hpl, hx⟩ := paired_at hxF hjx
      have hnx : ((found o).take (j + 1)).filter (fun p => decide (least o p = p)) = ((found o).take j).filter (fun p => decide (least o p = p)) ++ if decide (least o pl = pl) = true then [pl] else [] := by
        have hpl' : (found o)[j]? = some pl := hpl
        rw [take_snoc hpl', List.filter_append, List.filter_cons, List.filter_nil]
      refine ⟨rfl, ?_⟩
      refine ⟨.ref a, rfl, x, rfl, .ref a, x, o, pl, rfl, ⟨a, rfl, (e1.trans e2) _ _ ha⟩, hx.mono e2, p1, fun v H3 e3 hv => ?_⟩
      have hx3 := hx.mono (e2.trans e3)
      refine ⟨x, rfl, _, _, hv.dp, hx3.dp, encP_shaped _, encP_shaped _, _, rfl, ?_⟩
      rw [encP_eqv]
      refine ite2 (fun h => ?_) (fun h => ?_)
      · obtain ⟨xsT, hT5, hxT⟩ := pT
        have hlT := paired_len hxT
        rw [if_pos h] at hnx
        refine ⟨x, rfl, xsT, e3 _ _ hT5, ?_, (e2.trans e3).mut hT, ?_⟩
        · have z := List.length_filter_le (fun p => decide (least o p = p)) ((found o).take j)
          have z2 : ((found o).take j).length ≤ 100 := by
            have : (found o).length ≤ 100 := r1
            rw [List.length_take]
            omega
          rw [hlT]
          exact small1000 (by omega)
        · rw [hnx]
          exact plansAt_put (nt_lst (e3 _ _ hT5)) (Paired.snoc (plans_mono e3 hxT) hx3)
      · rw [if_neg h, List.append_nil] at hnx
        refine ⟨e2.trans e3, ?_⟩
        rw [hnx]
        exact pT.mono e3
    · have hall : (found o).take xsF.length = found o := by
        rw [hlF]
        exact List.take_length
      rw [hall] at pT
      obtain ⟨xsT, hT5, hxT⟩ := pT
      refine ⟨T, xsT, _, rfl, SqL.of hT5, hxT, fun ys p hys hp => ?_⟩
      exact q p _ ((e1.trans e2).trans (Ex.new hp)) ⟨ys, upd_same, plans_upd (nt_none hp) hys⟩
/-! ### deeds -/
theorem ok_deeds (D : Def K mg "deeds" sDeeds ["office"]) (B : Bl mg) (O : Ok P w K mg base 3 "need_office" ["office"] spNeedOffice) (N : Ok P w K mg base 3 "number_of_deeds" ["office"] spNumDeeds) (A : Ok P w K mg base 3 "all_deeds" ["office"] spAllDeeds) :
    Ok P w K mg base 4 "deeds" ["office"] spAllDeeds := by
  refine Ok.mk' D scDeeds (fun vs H Q E ⟨_, _, h, _⟩ => by rw [h]; rfl) fun f cdv AA outer s H vs Q E hr ⟨vo, o, hv, ho, hoo, q⟩ => ?_
  subst hv
  obtain ⟨tm, mm⟩ := B.md
  obtain ⟨_, _, _, _, _, le⟩ := offs_ok o hoo
  refine ⟨_, pss_cons (ps_expr (O.call hr (by rfl) (pa_cons (pv 0) pa_nil))) (pss_cons (ps_if (pt_cmpR op_gt (N.call hr (by rfl) (pa_cons (pv 0) pa_nil)) (pe_glob (v := .int 20000) (by rfl) mm ⟨_, rfl⟩) (nomark _)) pss_never pss_nil)
    (pss_one (ps_ret (A.call hr (by rfl) (pa_cons (pv 0) pa_nil))))), ?_⟩
  refine ⟨vo, rfl, vo, o, rfl, ho, offOk_of hoo, vo, rfl, vo, o, rfl, ho, hoo, _, _, rfl, rfl, _, rfl, ?_⟩
  rw [decide_eq_false (by omega)]
  exact iteF ⟨vo, rfl, vo, o, rfl, ho, hoo, q⟩
end
end CL
set_option Elab.async false
set_option linter.all false
set_option maxRecDepth 100000
set_option maxHeartbeats 4000000
/-! goes_on, goes_ahead -/
namespace CL
open PySem PySem.Spec PyProof.Rows L2 Evl
def vpB (o : Off) (p : Plan) : Bool := decide ((p.length : Int) ≤ o.1) && (p.all fun q => decide (0 ≤ q.1 ∧ q.1 ≤ o.1 - 1 ∧ 0 ≤ q.2 ∧ q.2 ≤ o.2 - 1)) && decide (p.map Prod.fst).Nodup
theorem vp_of {o : Off} {p : Plan} (h : vpB o p = true) : VP o p := by
  unfold vpB at h
  rw [Bool.and_eq_true, Bool.and_eq_true] at h
  obtain ⟨⟨h1, h2⟩, h3⟩ := h
  exact ⟨of_decide_eq_true h1, fun q hq => of_decide_eq_true (List.all_eq_true.mp h2 q hq), of_decide_eq_true h3⟩
theorem offs_deeds : ∀ o ∈ offs, (deeds o).length ≤ 100 ∧ 0 < (deeds o).length ∧ ∀ p ∈ deeds o, vpB o p = true := by decide +kernel
abbrev sGoesOn : Stmt := topS 28
abbrev sGoesAhead : Stmt := topS 29
abbrev nGoesOn : List Str := ["office", "one", "goal", "least", "found", "plan"]
abbrev nGoesAhead : List Str := ["office", "one", "goal", "least", "plan"]
theorem scGoesOn : FnScope nGoesOn ["office", "one", "goal"] (defScope sGoesOn) := ⟨rfl, rfl, rfl, by decide +kernel, rfl, by decide +kernel, by decide +kernel⟩
theorem scGoesAhead : FnScope nGoesAhead ["office", "one", "goal"] (defScope sGoesAhead) := ⟨rfl, rfl, rfl, by decide +kernel, rfl, by decide +kernel, by decide +kernel⟩
section
variable {P : Program} {w : World} {K : PySem.W.Frag} {mg : Str → Option Value} {base : Heap}
def spGoes (F : Off → Plan → Plan → List Plan) : Sp := fun vs H Q _ => ∃ vo v1 v2 o p1 p2, vs = [vo, v1, v2] ∧ IsPr H vo o ∧ IsPlan H v1 p1 ∧ IsPlan H v2 p2 ∧ o ∈ offs ∧ VP o p1 ∧ VP o p2 ∧ ∀ a H', Ex H H' → PlansAt H' a (F o p1 p2) → Q (.ref a) H'
def GInv (vo v1 v2 vl : V) (R a : Addr) (xs : List V) (ds : List Plan) (H : Hp) (ps : List Plan) (σ : L2.St) (H' : Hp) : Prop :=
  ∃ y, σ = [some vo, some v1, some v2, some vl, some (.ref R), y] ∧ Ex H H' ∧ H' a = some (.lst xs) ∧ Paired (IsPlan H') xs ds ∧ PlansAt H' R ps
theorem filter_take {α : Type} (g : α → Bool) {l : List α} {j : Nat} {x : α} (h : l[j]? = some x) : (l.take (j + 1)).filter g = (l.take j).filter g ++ if g x = true then [x] else [] := by
  rw [take_snoc h, List.filter_append, List.filter_cons, List.filter_nil]
theorem filter_take_len {α : Type} (g : α → Bool) (l : List α) (j : Nat) : ((l.take j).filter g).length ≤ l.length := by
  have h1 := List.length_filter_le g (l.take j)
  have h2 : (l.take j).length ≤ l.length := by
    rw [List.length_take]
    exact Nat.min_le_right _ _
  omega
theorem ok_goes_on (D : Def K mg "goes_on" sGoesOn ["office", "one", "goal"]) (B : Bl mg) (N : Ok P w K mg base 4 "need_plan" ["office", "plan"] spNeedPlan) (NP : Ok P w K mg base 4 "need_pairs" ["office", "plan"] spNeedPairs)
    (ND : Ok P w K mg base 4 "number_of_deeds" ["office"] spNumDeeds) (L : Ok P w K mg base 4 "least_in" ["office", "plan"] spLeastIn) (J : Ok P w K mg base 4 "joined" ["office", "one", "other"] spJoined) (AD : Ok P w K mg base 4 "all_deeds" ["office"] spAllDeeds) :
    Ok P w K mg base 5 "goes_on" ["office", "one", "goal"] (spGoes goesOn) := by
  refine Ok.mk' D scGoesOn (fun vs H Q E ⟨_, _, _, _, _, _, h, _⟩ => by rw [h]; rfl) fun f cdv A outer s H vs Q E hr ⟨vo, v1, v2, o, p1, p2, hv, ho, h1, h2, hoo, vp1, vp2, q⟩ => ?_
  subst hv
  have oo := offOk_of hoo
  obtain ⟨tm, mm⟩ := B.md
  obtain ⟨_, _, _, _, _, le⟩ := offs_ok o hoo
  obtain ⟨ld, l0, vd⟩ := offs_deeds o hoo
  have hu64 := hr.units
  refine ⟨_, pss_cons (ps_expr (N.call hr (by rfl) (pa_cons (pv 0) (pa_cons (pv 1) pa_nil)))) (pss_cons (ps_expr (NP.call hr (by rfl) (pa_cons (pv 0) (pa_cons (pv 2) pa_nil))))
    (pss_cons (ps_if (pt_cmpR op_gt (ND.call hr (by rfl) (pa_cons (pv 0) pa_nil)) (pe_glob (v := .int 20000) (by rfl) mm ⟨_, rfl⟩) (nomark _)) pss_never pss_nil)
    (pss_cons (ps_par (i := 3) (j := 4) rfl scGoesOn.nd rfl rfl (by decide) rfl rfl (pa_cons (L.call hr (by rfl) (pa_cons (pv 0) (pa_cons (pv 2) pa_nil))) (pa_cons (pe_lst pa_nil) pa_nil)) rfl)
    (pss_cons (ps_for PassesOwn.never rfl (pi_list (AD.call hr (by rfl) (pa_cons (pv 0) pa_nil))) (pg_name (i := 5) scGoesOn.nd rfl (.inl rfl))
      (pss_one (ps_if (pt_cmpR (op_eqD hu64) (L.call hr (by rfl) (pa_cons (pv 0) (pa_cons (J.call hr (by rfl) (pa_cons (pv 0) (pa_cons (pv 1) (pa_cons (pv 5) pa_nil)))) pa_nil))) (pv 3) (nomark _))
        (pss_one (ps_expr (pe_bm PySem.F.plainAttrs_list PySem.F.slot_list_append PySem.F.type_list_append mt_append (pv 4) (pa_cons (pv 5) pa_nil)))) pss_nil)))
    (pss_one (ps_ret (pv 4))))))), ?_⟩
  refine ⟨vo, rfl, v1, rfl, vo, v1, o, p1, rfl, ho, h1, oo, vp1, fun Ha ea => ?_⟩
  refine ⟨vo, rfl, v2, rfl, vo, v2, o, p2, rfl, ho.mono ea, h2.mono ea, oo, vp2, fun Hb eb => ?_⟩
  have e := ea.trans eb
  refine ⟨vo, rfl, vo, o, rfl, ho.mono e, hoo, _, _, rfl, rfl, _, rfl, ?_⟩
  rw [decide_eq_false (by omega)]
  refine iteF ?_
  refine ⟨vo, rfl, v2, rfl, vo, v2, o, p2, rfl, ho.mono e, h2.mono e, oo.p1, fun vl Hc ec hl => ?_⟩
  refine ⟨Nat.zero_le _, fun R hR => ⟨_, _, rfl, ?_⟩⟩
  have e2 := (e.trans ec).trans (Ex.new (o := .lst []) hR)
  have er : Ex Hc (upd Hc R (.lst [])) := Ex.new hR
  refine ⟨vo, rfl, vo, o, rfl, ho.mono e2, hoo, fun a Hd ed hpd => ?_⟩
  obtain ⟨xs, ha, hx⟩ := hpd
  have hlx := paired_len hx
  refine ⟨a, rfl, ⟨xs, SqL.of ha⟩, ?_⟩
  have hRd : Hd R = some (.lst []) := ed _ _ upd_same
  have aR : a ≠ R := fun z => by
    rw [z, hRd] at ha
    cases ha
    simp only [List.length_nil] at hlx
    omega
  refine for_list (K := K) (xs := xs) (fun j => GInv vo v1 v2 vl R a xs (deeds o) Hc (((deeds o).take j).filter fun p => decide (least o (join o.2 p1 p) = least o p2)))
    ⟨none, rfl, er.trans ed, ha, hx, ⟨[], hRd, .nil⟩⟩ (fun j σ H' _ ⟨_, _, _, ha, _⟩ => SqL.of ha) (fun j x σ H1 hjx ⟨y, es, e1, ha1, hx1, pR⟩ => ?_) (fun σ H1 ⟨y, es, e1, ha1, hx1, pR⟩ => ?_)
  · subst es
    obtain ⟨pl, hpl, hxp⟩ := paired_at hx1 hjx
    have vpl := vp_of (vd pl (List.mem_of_getElem? hpl))
    have eo := (e.trans ec).trans e1
    have hnx := filter_take (fun p => decide (least o (join o.2 p1 p) = least o p2)) hpl
    refine ⟨vo, rfl, vo, rfl, v1, rfl, x, rfl, vo, v1, x, o, p1, pl, rfl, ho.mono eo, h1.mono eo, hxp, by have := oo.c1; omega, vp1.nd, vp1.len100 oo, vpl.len100 oo, fun vj H2 e2 hj => ?_⟩
    refine ⟨vo, vj, o, _, rfl, ho.mono (eo.trans e2), hj, oo.p1, fun vk H3 e3 hk => ?_⟩
    have hlk := hl.mono ((e1.trans e2).trans e3)
    refine ⟨vl, rfl, _, _, hk.dp, hlk.dp, encP_shaped _, encP_shaped _, _, rfl, ?_⟩
    rw [encP_eqv]
    have e13 := e2.trans e3
    refine ite2 (fun h => ?_) (fun h => ?_)
    · rw [if_pos h] at hnx
      obtain ⟨xsR, hR1, hxR⟩ := pR
      have hlR := paired_len hxR
      refine ⟨.ref R, rfl, .inl ⟨rfl, _, SqL.of (e13 _ _ hR1)⟩, x, rfl, R, xsR, x, rfl, rfl, e13 _ _ hR1, ?_, ?_⟩
      · have z := filter_take_len (fun p => decide (least o (join o.2 p1 p) = least o p2)) (deeds o) j
        exact small1000 (by omega)
      · refine ⟨_, rfl, (e1.trans e13).mut hR, ?_, plans_upd (nt_lst (e13 _ _ hR1)) (plans_mono e13 hx1), ?_⟩
        · rw [upd_ne aR]
          exact e13 _ _ ha1
        · rw [hnx]
          exact plansAt_put (nt_lst (e13 _ _ hR1)) (Paired.snoc (plans_mono e13 hxR) (hxp.mono e13))
    · rw [if_neg h, List.append_nil] at hnx
      refine ⟨_, rfl, e1.trans e13, e13 _ _ ha1, plans_mono e13 hx1, ?_⟩
      rw [hnx]
      exact pR.mono e13
  · subst es
    rw [hlx, List.take_length] at pR
    exact ⟨.ref R, rfl, q R H1 ((e.trans ec).trans e1) pR⟩
theorem ok_goes_ahead (D : Def K mg "goes_ahead" sGoesAhead ["office", "one", "goal"]) (B : Bl mg) (N : Ok P w K mg base 4 "need_plan" ["office", "plan"] spNeedPlan) (NP : Ok P w K mg base 4 "need_pairs" ["office", "plan"] spNeedPairs)
    (ND : Ok P w K mg base 4 "number_of_deeds" ["office"] spNumDeeds) (L : Ok P w K mg base 4 "least_in" ["office", "plan"] spLeastIn) (J : Ok P w K mg base 4 "joined" ["office", "one", "other"] spJoined) (AD : Ok P w K mg base 4 "all_deeds" ["office"] spAllDeeds) :
    Ok P w K mg base 5 "goes_ahead" ["office", "one", "goal"] (spGoes goesAhead) := by
  refine Ok.mk' D scGoesAhead (fun vs H Q E ⟨_, _, _, _, _, _, h, _⟩ => by rw [h]; rfl) fun f cdv A outer s H vs Q E hr ⟨vo, v1, v2, o, p1, p2, hv, ho, h1, h2, hoo, vp1, vp2, q⟩ => ?_
  subst hv
  have oo := offOk_of hoo
  obtain ⟨tm, mm⟩ := B.md
  obtain ⟨_, _, _, _, _, le⟩ := offs_ok o hoo
  obtain ⟨ld, l0, vd⟩ := offs_deeds o hoo
  have hu64 := hr.units
  refine ⟨_, pss_cons (ps_expr (N.call hr (by rfl) (pa_cons (pv 0) (pa_cons (pv 1) pa_nil)))) (pss_cons (ps_expr (NP.call hr (by rfl) (pa_cons (pv 0) (pa_cons (pv 2) pa_nil))))
    (pss_cons (ps_if (pt_cmpR op_gt (ND.call hr (by rfl) (pa_cons (pv 0) pa_nil)) (pe_glob (v := .int 20000) (by rfl) mm ⟨_, rfl⟩) (nomark _)) pss_never pss_nil)
    (pss_cons (ps_set (i := 3) scGoesAhead.nd rfl (.inr rfl) (L.call hr (by rfl) (pa_cons (pv 0) (pa_cons (pv 2) pa_nil))))
    (pss_one (ps_ret (pe_lc (own := [("plan", 4)]) (g := gName 4) (tt := tTest (tOp (rEqD K) (tCall spLeastIn [] E0 (tCons (tVar 0) (tCons (tCall spJoined [] E0 (tCons (tVar 0) (tCons (tVar 4) (tCons (tVar 1) tNil)))) tNil))) (tVar 3))) (te := tVar 4)
      rfl scGoesAhead.nd (pi_list (AD.call hr (by rfl) (pa_cons (pv 0) pa_nil))) (blkOk_by (N := nGoesAhead) (sc := defScope sGoesAhead) (by decide +kernel)) (fun _ _ _ _ _ => pg_name (i := 4) scGoesAhead.nd rfl (.inl rfl))
      (fun _ _ _ _ _ => pts_one (pt_cmpR (op_eqD hu64) (L.call hr (by rfl) (pa_cons (pv 0) (pa_cons (J.call hr (by rfl) (pa_cons (pv 0) (pa_cons (pv 4) (pa_cons (pv 1) pa_nil)))) pa_nil))) (pv 3) (nomark _))) (fun _ _ _ _ _ => pv 4))))))), ?_⟩
  refine ⟨vo, rfl, v1, rfl, vo, v1, o, p1, rfl, ho, h1, oo, vp1, fun Ha ea => ?_⟩
  refine ⟨vo, rfl, v2, rfl, vo, v2, o, p2, rfl, ho.mono ea, h2.mono ea, oo, vp2, fun Hb eb => ?_⟩
  have e := ea.trans eb
  refine ⟨vo, rfl, vo, o, rfl, ho.mono e, hoo, _, _, rfl, rfl, _, rfl, ?_⟩
  rw [decide_eq_false (by omega)]
  refine iteF ?_
  refine ⟨vo, rfl, v2, rfl, vo, v2, o, p2, rfl, ho.mono e, h2.mono e, oo.p1, fun vl Hc ec hl => ?_⟩
  have e2 := e.trans ec
  refine ⟨vo, rfl, vo, o, rfl, ho.mono e2, hoo, fun a Hd ed hpd => ?_⟩
  obtain ⟨xs, ha, hx⟩ := hpd
  have hlx := paired_len hx
  refine ⟨a, rfl, ⟨xs, SqL.of ha⟩, fun R hR => ?_⟩
  refine lc_list (K := K) (xs := xs) (fun j H' => Ex Hd H' ∧ PlansAt H' R (((deeds o).take j).filter fun p => decide (least o (join o.2 p p1) = least o p2)))
    ⟨Ex.new hR, plansAt_put (nt_none hR) .nil⟩ (fun j H' _ ⟨e', _⟩ => SqL.of (e' _ _ ha)) (fun j x H1 hjx ⟨e1, pR⟩ => ?_) (fun H1 ⟨e1, pR⟩ => ?_)
  · obtain ⟨pl, hpl, hxp0⟩ := paired_at hx hjx
    have hxp := hxp0.mono e1
    have vpl := vp_of (vd pl (List.mem_of_getElem? hpl))
    have eo := (e2.trans ed).trans e1
    have hnx := filter_take (fun p => decide (least o (join o.2 p p1) = least o p2)) hpl
    refine ⟨rfl, ?_⟩
    refine ⟨vo, rfl, vo, rfl, x, rfl, v1, rfl, vo, x, v1, o, pl, p1, rfl, ho.mono eo, hxp, h1.mono eo, by have := oo.c1; omega, vpl.nd, vpl.len100 oo, vp1.len100 oo, fun vj H2 e2' hj => ?_⟩
    refine ⟨vo, vj, o, _, rfl, ho.mono (eo.trans e2'), hj, oo.p1, fun vk H3 e3 hk => ?_⟩
    have hlk := hl.mono (((ed.trans e1).trans e2').trans e3)
    refine ⟨vl, rfl, _, _, hk.dp, hlk.dp, encP_shaped _, encP_shaped _, _, rfl, ?_⟩
    rw [encP_eqv]
    have e13 := e2'.trans e3
    refine ite2 (fun h => ?_) (fun h => ?_)
    · rw [if_pos h] at hnx
      obtain ⟨xsR, hR1, hxR⟩ := pR
      have hlR := paired_len hxR
      refine ⟨x, rfl, xsR, e13 _ _ hR1, ?_, (e1.trans e13).mut hR, ?_⟩
      · have z := filter_take_len (fun p => decide (least o (join o.2 p p1) = least o p2)) (deeds o) j
        exact small1000 (by omega)
      · rw [hnx]
        exact plansAt_put (nt_lst (e13 _ _ hR1)) (Paired.snoc (plans_mono e13 hxR) (hxp.mono e13))
    · rw [if_neg h, List.append_nil] at hnx
      refine ⟨e1.trans e13, ?_⟩
      rw [hnx]
      exact pR.mono e13
  · rw [hlx, List.take_length] at pR
    exact q R H1 ((e2.trans ed).trans e1) pR
end
end CL
set_option Elab.async false
set_option linter.all false
set_option maxRecDepth 100000
set_option maxHeartbeats 0
/-! the law over the mirror, office by office, by computation -/
namespace CL
theorem offs_mem {P : Off → Prop} (h1 : P (1, 4)) (h2 : P (2, 2)) (h3 : P (2, 3)) (h4 : P (3, 1)) (h5 : P (2, 1)) : ∀ o ∈ offs, P o := fun o ho => by
  unfold offs at ho
  rcases List.mem_cons.mp ho with e | ho
  · rw [e]; exact h1
  rcases List.mem_cons.mp ho with e | ho
  · rw [e]; exact h2
  rcases List.mem_cons.mp ho with e | ho
  · rw [e]; exact h3
  rcases List.mem_cons.mp ho with e | ho
  · rw [e]; exact h4
  rcases List.mem_cons.mp ho with e | ho
  · rw [e]; exact h5
  cases ho
def chkO (o : Off) : Bool := (found o).all fun p => vpB o p && all1 o p
def chkP (o : Off) (one other : Plan) : Bool := vpB o (prod o one other) && !(both (costs o (least o one)) (costs o (least o other))).isEmpty && all2 o one other
def chkPs (o : Off) : Bool := (found o).all fun one => (found o).all fun other => chkP o one other
theorem chkO_all : ∀ o ∈ offs, chkO o = true := offs_mem (by decide +kernel) (by decide +kernel) (by decide +kernel) (by decide +kernel) (by decide +kernel)
theorem chkPs_14 : chkPs (1, 4) = true := by decide +kernel
theorem chkPs_22 : chkPs (2, 2) = true := by decide +kernel
theorem chkPs_31 : chkPs (3, 1) = true := by decide +kernel
theorem chkPs_21 : chkPs (2, 1) = true := by decide +kernel
end CL
set_option Elab.async false
set_option linter.all false
set_option maxRecDepth 100000
set_option maxHeartbeats 0
/-! the office (2, 3): its tables written out, so that each is computed once -/
namespace CL
def meetB (b : List (Int × Plan)) : Int × Plan := match b with
  | [] => (-1, [])
  | x :: xs => minP x xs
/-- one pair, the tables of costs and of what is reached given -/
def pairW (o : Off) (one other : Plan) (t u : List (Plan × Int)) (r v : List (Plan × Bool)) : Bool :=
  vpB o (prod o one other) && !(both t u).isEmpty && (law3 o one other && law4 o one other && (decide ((meetB (both t u)).2 ∈ isort (r.filterMap fun kv => if (lookT v kv.1).isSome = true then some kv.1 else none)) && decide ((meetB (both t u)).1 ≤ 2 * (o.1 * o.2 - 1))) &&
    (decide ((meetB (both t u)).1 = 0) == decide (least o one = least o other)))
theorem pairW_is (o : Off) (one other : Plan) : chkP o one other = pairW o one other (costs o (least o one)) (costs o (least o other)) (reach o one) (reach o other) := by
  unfold chkP pairW all2 law5 law6 meet common
  rfl
abbrev Row3 := Plan × List (Plan × Int) × List (Plan × Bool)
def rows23 : List Row3 := [([], ([([], 0), ([(0, 0)], 3), ([(0, 1)], 1), ([(0, 1), (1, 0)], 4), ([(0, 1), (1, 1)], 2), ([(0, 1), (1, 2)], 3), ([(0, 2)], 2), ([(0, 2), (1, 0)], 5), ([(0, 2), (1, 1)], 3),
  ([(0, 2), (1, 2)], 4), ([(1, 0)], 3), ([(1, 1)], 1), ([(1, 1), (0, 0)], 4), ([(1, 1), (0, 1)], 2), ([(1, 1), (0, 2)], 3), ([(1, 2)], 2), ([(1, 2), (0, 0)], 5), ([(1, 2), (0, 1)],
  3), ([(1, 2), (0, 2)], 4)], [([], true), ([(0, 0)], true), ([(0, 1)], true), ([(0, 1), (1, 0)], true), ([(0, 1), (1, 1)], true), ([(0, 1), (1, 2)], true), ([(0, 2)], true), ([(0,
  2), (1, 0)], true), ([(0, 2), (1, 1)], true), ([(0, 2), (1, 2)], true), ([(1, 0)], true), ([(1, 1)], true), ([(1, 1), (0, 0)], true), ([(1, 1), (0, 1)], true), ([(1, 1), (0, 2)],
  true), ([(1, 2)], true), ([(1, 2), (0, 0)], true), ([(1, 2), (0, 1)], true), ([(1, 2), (0, 2)], true)])), ([(0, 0)], ([([(0, 0)], 0), ([(0, 1)], 1), ([(0, 1), (1, 0)], 4), ([(0,
  1), (1, 1)], 2), ([(0, 1), (1, 2)], 3), ([(0, 2)], 2), ([(0, 2), (1, 0)], 5), ([(0, 2), (1, 1)], 3), ([(0, 2), (1, 2)], 4), ([(1, 0)], 3), ([(1, 1)], 1), ([(1, 1), (0, 0)], 4),
  ([(1, 1), (0, 1)], 2), ([(1, 1), (0, 2)], 3), ([(1, 2)], 2), ([(1, 2), (0, 0)], 5), ([(1, 2), (0, 1)], 3), ([(1, 2), (0, 2)], 4)], [([(0, 0)], true), ([(0, 1)], true), ([(0, 1),
  (1, 0)], true), ([(0, 1), (1, 1)], true), ([(0, 1), (1, 2)], true), ([(0, 2)], true), ([(0, 2), (1, 0)], true), ([(0, 2), (1, 1)], true), ([(0, 2), (1, 2)], true), ([(1, 0)],
  true), ([(1, 1)], true), ([(1, 1), (0, 0)], true), ([(1, 1), (0, 1)], true), ([(1, 1), (0, 2)], true), ([(1, 2)], true), ([(1, 2), (0, 0)], true), ([(1, 2), (0, 1)], true), ([(1,
  2), (0, 2)], true)])), ([(0, 1)], ([([(0, 1)], 0), ([(0, 2)], 1), ([(0, 2), (1, 0)], 4), ([(0, 2), (1, 1)], 2), ([(0, 2), (1, 2)], 3), ([(0, 0)], 2), ([(1, 0)], 5), ([(1, 1)], 3),
  ([(1, 2)], 4), ([(0, 1), (1, 0)], 3), ([(0, 1), (1, 1)], 1), ([(1, 1), (0, 1)], 4), ([(1, 1), (0, 2)], 2), ([(1, 1), (0, 0)], 3), ([(0, 1), (1, 2)], 2), ([(1, 2), (0, 1)], 5),
  ([(1, 2), (0, 2)], 3), ([(1, 2), (0, 0)], 4)], [([(0, 1)], true), ([(0, 2)], true), ([(0, 2), (1, 0)], true), ([(0, 2), (1, 1)], true), ([(0, 2), (1, 2)], true), ([(0, 0)], true),
  ([(1, 0)], true), ([(1, 1)], true), ([(1, 2)], true), ([(0, 1), (1, 0)], true), ([(0, 1), (1, 1)], true), ([(1, 1), (0, 1)], true), ([(1, 1), (0, 2)], true), ([(1, 1), (0, 0)],
  true), ([(0, 1), (1, 2)], true), ([(1, 2), (0, 1)], true), ([(1, 2), (0, 2)], true), ([(1, 2), (0, 0)], true)])), ([(0, 2)], ([([(0, 2)], 0), ([(0, 0)], 1), ([(1, 0)], 4), ([(1,
  1)], 2), ([(1, 2)], 3), ([(0, 1)], 2), ([(0, 1), (1, 0)], 5), ([(0, 1), (1, 1)], 3), ([(0, 1), (1, 2)], 4), ([(0, 2), (1, 0)], 3), ([(0, 2), (1, 1)], 1), ([(1, 1), (0, 2)], 4),
  ([(1, 1), (0, 0)], 2), ([(1, 1), (0, 1)], 3), ([(0, 2), (1, 2)], 2), ([(1, 2), (0, 2)], 5), ([(1, 2), (0, 0)], 3), ([(1, 2), (0, 1)], 4)], [([(0, 2)], true), ([(0, 0)], true),
  ([(1, 0)], true), ([(1, 1)], true), ([(1, 2)], true), ([(0, 1)], true), ([(0, 1), (1, 0)], true), ([(0, 1), (1, 1)], true), ([(0, 1), (1, 2)], true), ([(0, 2), (1, 0)], true),
  ([(0, 2), (1, 1)], true), ([(1, 1), (0, 2)], true), ([(1, 1), (0, 0)], true), ([(1, 1), (0, 1)], true), ([(0, 2), (1, 2)], true), ([(1, 2), (0, 2)], true), ([(1, 2), (0, 0)],
  true), ([(1, 2), (0, 1)], true)])), ([(1, 0)], ([([(1, 0)], 0), ([(0, 0)], 3), ([(0, 1)], 1), ([(0, 1), (1, 0)], 4), ([(0, 1), (1, 1)], 2), ([(0, 1), (1, 2)], 3), ([(0, 2)], 2),
  ([(0, 2), (1, 0)], 5), ([(0, 2), (1, 1)], 3), ([(0, 2), (1, 2)], 4), ([(1, 1)], 1), ([(1, 1), (0, 0)], 4), ([(1, 1), (0, 1)], 2), ([(1, 1), (0, 2)], 3), ([(1, 2)], 2), ([(1, 2),
  (0, 0)], 5), ([(1, 2), (0, 1)], 3), ([(1, 2), (0, 2)], 4)], [([(1, 0)], true), ([(0, 0)], true), ([(0, 1)], true), ([(0, 1), (1, 0)], true), ([(0, 1), (1, 1)], true), ([(0, 1), (1,
  2)], true), ([(0, 2)], true), ([(0, 2), (1, 0)], true), ([(0, 2), (1, 1)], true), ([(0, 2), (1, 2)], true), ([(1, 1)], true), ([(1, 1), (0, 0)], true), ([(1, 1), (0, 1)], true),
  ([(1, 1), (0, 2)], true), ([(1, 2)], true), ([(1, 2), (0, 0)], true), ([(1, 2), (0, 1)], true), ([(1, 2), (0, 2)], true)])), ([(1, 1)], ([([(1, 1)], 0), ([(1, 1), (0, 0)], 3),
  ([(1, 1), (0, 1)], 1), ([(0, 1), (1, 1)], 4), ([(0, 1), (1, 2)], 2), ([(0, 1), (1, 0)], 3), ([(1, 1), (0, 2)], 2), ([(0, 2), (1, 1)], 5), ([(0, 2), (1, 2)], 3), ([(0, 2), (1, 0)],
  4), ([(1, 2)], 1), ([(1, 2), (0, 0)], 4), ([(1, 2), (0, 1)], 2), ([(1, 2), (0, 2)], 3), ([(1, 0)], 2), ([(0, 0)], 5), ([(0, 1)], 3), ([(0, 2)], 4)], [([(1, 1)], true), ([(1, 1),
  (0, 0)], true), ([(1, 1), (0, 1)], true), ([(0, 1), (1, 1)], true), ([(0, 1), (1, 2)], true), ([(0, 1), (1, 0)], true), ([(1, 1), (0, 2)], true), ([(0, 2), (1, 1)], true), ([(0,
  2), (1, 2)], true), ([(0, 2), (1, 0)], true), ([(1, 2)], true), ([(1, 2), (0, 0)], true), ([(1, 2), (0, 1)], true), ([(1, 2), (0, 2)], true), ([(1, 0)], true), ([(0, 0)], true),
  ([(0, 1)], true), ([(0, 2)], true)])), ([(1, 2)], ([([(1, 2)], 0), ([(1, 2), (0, 0)], 3), ([(1, 2), (0, 1)], 1), ([(0, 1), (1, 2)], 4), ([(0, 1), (1, 0)], 2), ([(0, 1), (1, 1)],
  3), ([(1, 2), (0, 2)], 2), ([(0, 2), (1, 2)], 5), ([(0, 2), (1, 0)], 3), ([(0, 2), (1, 1)], 4), ([(1, 0)], 1), ([(0, 0)], 4), ([(0, 1)], 2), ([(0, 2)], 3), ([(1, 1)], 2), ([(1, 1),
  (0, 0)], 5), ([(1, 1), (0, 1)], 3), ([(1, 1), (0, 2)], 4)], [([(1, 2)], true), ([(1, 2), (0, 0)], true), ([(1, 2), (0, 1)], true), ([(0, 1), (1, 2)], true), ([(0, 1), (1, 0)],
  true), ([(0, 1), (1, 1)], true), ([(1, 2), (0, 2)], true), ([(0, 2), (1, 2)], true), ([(0, 2), (1, 0)], true), ([(0, 2), (1, 1)], true), ([(1, 0)], true), ([(0, 0)], true), ([(0,
  1)], true), ([(0, 2)], true), ([(1, 1)], true), ([(1, 1), (0, 0)], true), ([(1, 1), (0, 1)], true), ([(1, 1), (0, 2)], true)])), ([(0, 0), (1, 0)], ([([(1, 0)], 0), ([(0, 0)], 3),
  ([(0, 1)], 1), ([(0, 1), (1, 0)], 4), ([(0, 1), (1, 1)], 2), ([(0, 1), (1, 2)], 3), ([(0, 2)], 2), ([(0, 2), (1, 0)], 5), ([(0, 2), (1, 1)], 3), ([(0, 2), (1, 2)], 4), ([(1, 1)],
  1), ([(1, 1), (0, 0)], 4), ([(1, 1), (0, 1)], 2), ([(1, 1), (0, 2)], 3), ([(1, 2)], 2), ([(1, 2), (0, 0)], 5), ([(1, 2), (0, 1)], 3), ([(1, 2), (0, 2)], 4)], [([(1, 0)], true),
  ([(0, 0)], true), ([(0, 1)], true), ([(0, 1), (1, 0)], true), ([(0, 1), (1, 1)], true), ([(0, 1), (1, 2)], true), ([(0, 2)], true), ([(0, 2), (1, 0)], true), ([(0, 2), (1, 1)],
  true), ([(0, 2), (1, 2)], true), ([(1, 1)], true), ([(1, 1), (0, 0)], true), ([(1, 1), (0, 1)], true), ([(1, 1), (0, 2)], true), ([(1, 2)], true), ([(1, 2), (0, 0)], true), ([(1,
  2), (0, 1)], true), ([(1, 2), (0, 2)], true)])), ([(0, 0), (1, 1)], ([([(1, 1)], 0), ([(1, 1), (0, 0)], 3), ([(1, 1), (0, 1)], 1), ([(0, 1), (1, 1)], 4), ([(0, 1), (1, 2)], 2),
  ([(0, 1), (1, 0)], 3), ([(1, 1), (0, 2)], 2), ([(0, 2), (1, 1)], 5), ([(0, 2), (1, 2)], 3), ([(0, 2), (1, 0)], 4), ([(1, 2)], 1), ([(1, 2), (0, 0)], 4), ([(1, 2), (0, 1)], 2),
  ([(1, 2), (0, 2)], 3), ([(1, 0)], 2), ([(0, 0)], 5), ([(0, 1)], 3), ([(0, 2)], 4)], [([(1, 1)], true), ([(1, 1), (0, 0)], true), ([(1, 1), (0, 1)], true), ([(0, 1), (1, 1)], true),
  ([(0, 1), (1, 2)], true), ([(0, 1), (1, 0)], true), ([(1, 1), (0, 2)], true), ([(0, 2), (1, 1)], true), ([(0, 2), (1, 2)], true), ([(0, 2), (1, 0)], true), ([(1, 2)], true), ([(1,
  2), (0, 0)], true), ([(1, 2), (0, 1)], true), ([(1, 2), (0, 2)], true), ([(1, 0)], true), ([(0, 0)], true), ([(0, 1)], true), ([(0, 2)], true)])), ([(0, 0), (1, 2)], ([([(1, 2)],
  0), ([(1, 2), (0, 0)], 3), ([(1, 2), (0, 1)], 1), ([(0, 1), (1, 2)], 4), ([(0, 1), (1, 0)], 2), ([(0, 1), (1, 1)], 3), ([(1, 2), (0, 2)], 2), ([(0, 2), (1, 2)], 5), ([(0, 2), (1,
  0)], 3), ([(0, 2), (1, 1)], 4), ([(1, 0)], 1), ([(0, 0)], 4), ([(0, 1)], 2), ([(0, 2)], 3), ([(1, 1)], 2), ([(1, 1), (0, 0)], 5), ([(1, 1), (0, 1)], 3), ([(1, 1), (0, 2)], 4)],
  [([(1, 2)], true), ([(1, 2), (0, 0)], true), ([(1, 2), (0, 1)], true), ([(0, 1), (1, 2)], true), ([(0, 1), (1, 0)], true), ([(0, 1), (1, 1)], true), ([(1, 2), (0, 2)], true), ([(0,
  2), (1, 2)], true), ([(0, 2), (1, 0)], true), ([(0, 2), (1, 1)], true), ([(1, 0)], true), ([(0, 0)], true), ([(0, 1)], true), ([(0, 2)], true), ([(1, 1)], true), ([(1, 1), (0, 0)],
  true), ([(1, 1), (0, 1)], true), ([(1, 1), (0, 2)], true)])), ([(0, 1), (1, 0)], ([([(0, 1), (1, 0)], 0), ([(0, 1)], 3), ([(0, 2)], 1), ([(0, 2), (1, 0)], 4), ([(0, 2), (1, 1)],
  2), ([(0, 2), (1, 2)], 3), ([(0, 0)], 2), ([(1, 0)], 5), ([(1, 1)], 3), ([(1, 2)], 4), ([(0, 1), (1, 1)], 1), ([(1, 1), (0, 1)], 4), ([(1, 1), (0, 2)], 2), ([(1, 1), (0, 0)], 3),
  ([(0, 1), (1, 2)], 2), ([(1, 2), (0, 1)], 5), ([(1, 2), (0, 2)], 3), ([(1, 2), (0, 0)], 4)], [([(0, 1), (1, 0)], true), ([(0, 1)], true), ([(0, 2)], true), ([(0, 2), (1, 0)],
  true), ([(0, 2), (1, 1)], true), ([(0, 2), (1, 2)], true), ([(0, 0)], true), ([(1, 0)], true), ([(1, 1)], true), ([(1, 2)], true), ([(0, 1), (1, 1)], true), ([(1, 1), (0, 1)],
  true), ([(1, 1), (0, 2)], true), ([(1, 1), (0, 0)], true), ([(0, 1), (1, 2)], true), ([(1, 2), (0, 1)], true), ([(1, 2), (0, 2)], true), ([(1, 2), (0, 0)], true)])), ([(0, 1), (1,
  1)], ([([(0, 1), (1, 1)], 0), ([(1, 1), (0, 1)], 3), ([(1, 1), (0, 2)], 1), ([(0, 2), (1, 1)], 4), ([(0, 2), (1, 2)], 2), ([(0, 2), (1, 0)], 3), ([(1, 1), (0, 0)], 2), ([(1, 1)],
  5), ([(1, 2)], 3), ([(1, 0)], 4), ([(0, 1), (1, 2)], 1), ([(1, 2), (0, 1)], 4), ([(1, 2), (0, 2)], 2), ([(1, 2), (0, 0)], 3), ([(0, 1), (1, 0)], 2), ([(0, 1)], 5), ([(0, 2)], 3),
  ([(0, 0)], 4)], [([(0, 1), (1, 1)], true), ([(1, 1), (0, 1)], true), ([(1, 1), (0, 2)], true), ([(0, 2), (1, 1)], true), ([(0, 2), (1, 2)], true), ([(0, 2), (1, 0)], true), ([(1,
  1), (0, 0)], true), ([(1, 1)], true), ([(1, 2)], true), ([(1, 0)], true), ([(0, 1), (1, 2)], true), ([(1, 2), (0, 1)], true), ([(1, 2), (0, 2)], true), ([(1, 2), (0, 0)], true),
  ([(0, 1), (1, 0)], true), ([(0, 1)], true), ([(0, 2)], true), ([(0, 0)], true)])), ([(0, 1), (1, 2)], ([([(0, 1), (1, 2)], 0), ([(1, 2), (0, 1)], 3), ([(1, 2), (0, 2)], 1), ([(0,
  2), (1, 2)], 4), ([(0, 2), (1, 0)], 2), ([(0, 2), (1, 1)], 3), ([(1, 2), (0, 0)], 2), ([(1, 2)], 5), ([(1, 0)], 3), ([(1, 1)], 4), ([(0, 1), (1, 0)], 1), ([(0, 1)], 4), ([(0, 2)],
  2), ([(0, 0)], 3), ([(0, 1), (1, 1)], 2), ([(1, 1), (0, 1)], 5), ([(1, 1), (0, 2)], 3), ([(1, 1), (0, 0)], 4)], [([(0, 1), (1, 2)], true), ([(1, 2), (0, 1)], true), ([(1, 2), (0,
  2)], true), ([(0, 2), (1, 2)], true), ([(0, 2), (1, 0)], true), ([(0, 2), (1, 1)], true), ([(1, 2), (0, 0)], true), ([(1, 2)], true), ([(1, 0)], true), ([(1, 1)], true), ([(0, 1),
  (1, 0)], true), ([(0, 1)], true), ([(0, 2)], true), ([(0, 0)], true), ([(0, 1), (1, 1)], true), ([(1, 1), (0, 1)], true), ([(1, 1), (0, 2)], true), ([(1, 1), (0, 0)], true)])),
  ([(0, 2), (1, 0)], ([([(0, 2), (1, 0)], 0), ([(0, 2)], 3), ([(0, 0)], 1), ([(1, 0)], 4), ([(1, 1)], 2), ([(1, 2)], 3), ([(0, 1)], 2), ([(0, 1), (1, 0)], 5), ([(0, 1), (1, 1)], 3),
  ([(0, 1), (1, 2)], 4), ([(0, 2), (1, 1)], 1), ([(1, 1), (0, 2)], 4), ([(1, 1), (0, 0)], 2), ([(1, 1), (0, 1)], 3), ([(0, 2), (1, 2)], 2), ([(1, 2), (0, 2)], 5), ([(1, 2), (0, 0)],
  3), ([(1, 2), (0, 1)], 4)], [([(0, 2), (1, 0)], true), ([(0, 2)], true), ([(0, 0)], true), ([(1, 0)], true), ([(1, 1)], true), ([(1, 2)], true), ([(0, 1)], true), ([(0, 1), (1,
  0)], true), ([(0, 1), (1, 1)], true), ([(0, 1), (1, 2)], true), ([(0, 2), (1, 1)], true), ([(1, 1), (0, 2)], true), ([(1, 1), (0, 0)], true), ([(1, 1), (0, 1)], true), ([(0, 2),
  (1, 2)], true), ([(1, 2), (0, 2)], true), ([(1, 2), (0, 0)], true), ([(1, 2), (0, 1)], true)])), ([(0, 2), (1, 1)], ([([(0, 2), (1, 1)], 0), ([(1, 1), (0, 2)], 3), ([(1, 1), (0,
  0)], 1), ([(1, 1)], 4), ([(1, 2)], 2), ([(1, 0)], 3), ([(1, 1), (0, 1)], 2), ([(0, 1), (1, 1)], 5), ([(0, 1), (1, 2)], 3), ([(0, 1), (1, 0)], 4), ([(0, 2), (1, 2)], 1), ([(1, 2),
  (0, 2)], 4), ([(1, 2), (0, 0)], 2), ([(1, 2), (0, 1)], 3), ([(0, 2), (1, 0)], 2), ([(0, 2)], 5), ([(0, 0)], 3), ([(0, 1)], 4)], [([(0, 2), (1, 1)], true), ([(1, 1), (0, 2)], true),
  ([(1, 1), (0, 0)], true), ([(1, 1)], true), ([(1, 2)], true), ([(1, 0)], true), ([(1, 1), (0, 1)], true), ([(0, 1), (1, 1)], true), ([(0, 1), (1, 2)], true), ([(0, 1), (1, 0)],
  true), ([(0, 2), (1, 2)], true), ([(1, 2), (0, 2)], true), ([(1, 2), (0, 0)], true), ([(1, 2), (0, 1)], true), ([(0, 2), (1, 0)], true), ([(0, 2)], true), ([(0, 0)], true), ([(0,
  1)], true)])), ([(0, 2), (1, 2)], ([([(0, 2), (1, 2)], 0), ([(1, 2), (0, 2)], 3), ([(1, 2), (0, 0)], 1), ([(1, 2)], 4), ([(1, 0)], 2), ([(1, 1)], 3), ([(1, 2), (0, 1)], 2), ([(0,
  1), (1, 2)], 5), ([(0, 1), (1, 0)], 3), ([(0, 1), (1, 1)], 4), ([(0, 2), (1, 0)], 1), ([(0, 2)], 4), ([(0, 0)], 2), ([(0, 1)], 3), ([(0, 2), (1, 1)], 2), ([(1, 1), (0, 2)], 5),
  ([(1, 1), (0, 0)], 3), ([(1, 1), (0, 1)], 4)], [([(0, 2), (1, 2)], true), ([(1, 2), (0, 2)], true), ([(1, 2), (0, 0)], true), ([(1, 2)], true), ([(1, 0)], true), ([(1, 1)], true),
  ([(1, 2), (0, 1)], true), ([(0, 1), (1, 2)], true), ([(0, 1), (1, 0)], true), ([(0, 1), (1, 1)], true), ([(0, 2), (1, 0)], true), ([(0, 2)], true), ([(0, 0)], true), ([(0, 1)],
  true), ([(0, 2), (1, 1)], true), ([(1, 1), (0, 2)], true), ([(1, 1), (0, 0)], true), ([(1, 1), (0, 1)], true)])), ([(1, 0), (0, 0)], ([([(0, 0)], 0), ([(0, 1)], 1), ([(0, 1), (1,
  0)], 4), ([(0, 1), (1, 1)], 2), ([(0, 1), (1, 2)], 3), ([(0, 2)], 2), ([(0, 2), (1, 0)], 5), ([(0, 2), (1, 1)], 3), ([(0, 2), (1, 2)], 4), ([(1, 0)], 3), ([(1, 1)], 1), ([(1, 1),
  (0, 0)], 4), ([(1, 1), (0, 1)], 2), ([(1, 1), (0, 2)], 3), ([(1, 2)], 2), ([(1, 2), (0, 0)], 5), ([(1, 2), (0, 1)], 3), ([(1, 2), (0, 2)], 4)], [([(0, 0)], true), ([(0, 1)], true),
  ([(0, 1), (1, 0)], true), ([(0, 1), (1, 1)], true), ([(0, 1), (1, 2)], true), ([(0, 2)], true), ([(0, 2), (1, 0)], true), ([(0, 2), (1, 1)], true), ([(0, 2), (1, 2)], true), ([(1,
  0)], true), ([(1, 1)], true), ([(1, 1), (0, 0)], true), ([(1, 1), (0, 1)], true), ([(1, 1), (0, 2)], true), ([(1, 2)], true), ([(1, 2), (0, 0)], true), ([(1, 2), (0, 1)], true),
  ([(1, 2), (0, 2)], true)])), ([(1, 0), (0, 1)], ([([(0, 1)], 0), ([(0, 2)], 1), ([(0, 2), (1, 0)], 4), ([(0, 2), (1, 1)], 2), ([(0, 2), (1, 2)], 3), ([(0, 0)], 2), ([(1, 0)], 5),
  ([(1, 1)], 3), ([(1, 2)], 4), ([(0, 1), (1, 0)], 3), ([(0, 1), (1, 1)], 1), ([(1, 1), (0, 1)], 4), ([(1, 1), (0, 2)], 2), ([(1, 1), (0, 0)], 3), ([(0, 1), (1, 2)], 2), ([(1, 2),
  (0, 1)], 5), ([(1, 2), (0, 2)], 3), ([(1, 2), (0, 0)], 4)], [([(0, 1)], true), ([(0, 2)], true), ([(0, 2), (1, 0)], true), ([(0, 2), (1, 1)], true), ([(0, 2), (1, 2)], true), ([(0,
  0)], true), ([(1, 0)], true), ([(1, 1)], true), ([(1, 2)], true), ([(0, 1), (1, 0)], true), ([(0, 1), (1, 1)], true), ([(1, 1), (0, 1)], true), ([(1, 1), (0, 2)], true), ([(1, 1),
  (0, 0)], true), ([(0, 1), (1, 2)], true), ([(1, 2), (0, 1)], true), ([(1, 2), (0, 2)], true), ([(1, 2), (0, 0)], true)])), ([(1, 0), (0, 2)], ([([(0, 2)], 0), ([(0, 0)], 1), ([(1,
  0)], 4), ([(1, 1)], 2), ([(1, 2)], 3), ([(0, 1)], 2), ([(0, 1), (1, 0)], 5), ([(0, 1), (1, 1)], 3), ([(0, 1), (1, 2)], 4), ([(0, 2), (1, 0)], 3), ([(0, 2), (1, 1)], 1), ([(1, 1),
  (0, 2)], 4), ([(1, 1), (0, 0)], 2), ([(1, 1), (0, 1)], 3), ([(0, 2), (1, 2)], 2), ([(1, 2), (0, 2)], 5), ([(1, 2), (0, 0)], 3), ([(1, 2), (0, 1)], 4)], [([(0, 2)], true), ([(0,
  0)], true), ([(1, 0)], true), ([(1, 1)], true), ([(1, 2)], true), ([(0, 1)], true), ([(0, 1), (1, 0)], true), ([(0, 1), (1, 1)], true), ([(0, 1), (1, 2)], true), ([(0, 2), (1, 0)],
  true), ([(0, 2), (1, 1)], true), ([(1, 1), (0, 2)], true), ([(1, 1), (0, 0)], true), ([(1, 1), (0, 1)], true), ([(0, 2), (1, 2)], true), ([(1, 2), (0, 2)], true), ([(1, 2), (0,
  0)], true), ([(1, 2), (0, 1)], true)])), ([(1, 1), (0, 0)], ([([(1, 1), (0, 0)], 0), ([(1, 1), (0, 1)], 1), ([(0, 1), (1, 1)], 4), ([(0, 1), (1, 2)], 2), ([(0, 1), (1, 0)], 3),
  ([(1, 1), (0, 2)], 2), ([(0, 2), (1, 1)], 5), ([(0, 2), (1, 2)], 3), ([(0, 2), (1, 0)], 4), ([(1, 1)], 3), ([(1, 2)], 1), ([(1, 2), (0, 0)], 4), ([(1, 2), (0, 1)], 2), ([(1, 2),
  (0, 2)], 3), ([(1, 0)], 2), ([(0, 0)], 5), ([(0, 1)], 3), ([(0, 2)], 4)], [([(1, 1), (0, 0)], true), ([(1, 1), (0, 1)], true), ([(0, 1), (1, 1)], true), ([(0, 1), (1, 2)], true),
  ([(0, 1), (1, 0)], true), ([(1, 1), (0, 2)], true), ([(0, 2), (1, 1)], true), ([(0, 2), (1, 2)], true), ([(0, 2), (1, 0)], true), ([(1, 1)], true), ([(1, 2)], true), ([(1, 2), (0,
  0)], true), ([(1, 2), (0, 1)], true), ([(1, 2), (0, 2)], true), ([(1, 0)], true), ([(0, 0)], true), ([(0, 1)], true), ([(0, 2)], true)])), ([(1, 1), (0, 1)], ([([(1, 1), (0, 1)],
  0), ([(1, 1), (0, 2)], 1), ([(0, 2), (1, 1)], 4), ([(0, 2), (1, 2)], 2), ([(0, 2), (1, 0)], 3), ([(1, 1), (0, 0)], 2), ([(1, 1)], 5), ([(1, 2)], 3), ([(1, 0)], 4), ([(0, 1), (1,
  1)], 3), ([(0, 1), (1, 2)], 1), ([(1, 2), (0, 1)], 4), ([(1, 2), (0, 2)], 2), ([(1, 2), (0, 0)], 3), ([(0, 1), (1, 0)], 2), ([(0, 1)], 5), ([(0, 2)], 3), ([(0, 0)], 4)], [([(1, 1),
  (0, 1)], true), ([(1, 1), (0, 2)], true), ([(0, 2), (1, 1)], true), ([(0, 2), (1, 2)], true), ([(0, 2), (1, 0)], true), ([(1, 1), (0, 0)], true), ([(1, 1)], true), ([(1, 2)],
  true), ([(1, 0)], true), ([(0, 1), (1, 1)], true), ([(0, 1), (1, 2)], true), ([(1, 2), (0, 1)], true), ([(1, 2), (0, 2)], true), ([(1, 2), (0, 0)], true), ([(0, 1), (1, 0)], true),
  ([(0, 1)], true), ([(0, 2)], true), ([(0, 0)], true)])), ([(1, 1), (0, 2)], ([([(1, 1), (0, 2)], 0), ([(1, 1), (0, 0)], 1), ([(1, 1)], 4), ([(1, 2)], 2), ([(1, 0)], 3), ([(1, 1),
  (0, 1)], 2), ([(0, 1), (1, 1)], 5), ([(0, 1), (1, 2)], 3), ([(0, 1), (1, 0)], 4), ([(0, 2), (1, 1)], 3), ([(0, 2), (1, 2)], 1), ([(1, 2), (0, 2)], 4), ([(1, 2), (0, 0)], 2), ([(1,
  2), (0, 1)], 3), ([(0, 2), (1, 0)], 2), ([(0, 2)], 5), ([(0, 0)], 3), ([(0, 1)], 4)], [([(1, 1), (0, 2)], true), ([(1, 1), (0, 0)], true), ([(1, 1)], true), ([(1, 2)], true), ([(1,
  0)], true), ([(1, 1), (0, 1)], true), ([(0, 1), (1, 1)], true), ([(0, 1), (1, 2)], true), ([(0, 1), (1, 0)], true), ([(0, 2), (1, 1)], true), ([(0, 2), (1, 2)], true), ([(1, 2),
  (0, 2)], true), ([(1, 2), (0, 0)], true), ([(1, 2), (0, 1)], true), ([(0, 2), (1, 0)], true), ([(0, 2)], true), ([(0, 0)], true), ([(0, 1)], true)])), ([(1, 2), (0, 0)], ([([(1,
  2), (0, 0)], 0), ([(1, 2), (0, 1)], 1), ([(0, 1), (1, 2)], 4), ([(0, 1), (1, 0)], 2), ([(0, 1), (1, 1)], 3), ([(1, 2), (0, 2)], 2), ([(0, 2), (1, 2)], 5), ([(0, 2), (1, 0)], 3),
  ([(0, 2), (1, 1)], 4), ([(1, 2)], 3), ([(1, 0)], 1), ([(0, 0)], 4), ([(0, 1)], 2), ([(0, 2)], 3), ([(1, 1)], 2), ([(1, 1), (0, 0)], 5), ([(1, 1), (0, 1)], 3), ([(1, 1), (0, 2)],
  4)], [([(1, 2), (0, 0)], true), ([(1, 2), (0, 1)], true), ([(0, 1), (1, 2)], true), ([(0, 1), (1, 0)], true), ([(0, 1), (1, 1)], true), ([(1, 2), (0, 2)], true), ([(0, 2), (1, 2)],
  true), ([(0, 2), (1, 0)], true), ([(0, 2), (1, 1)], true), ([(1, 2)], true), ([(1, 0)], true), ([(0, 0)], true), ([(0, 1)], true), ([(0, 2)], true), ([(1, 1)], true), ([(1, 1), (0,
  0)], true), ([(1, 1), (0, 1)], true), ([(1, 1), (0, 2)], true)])), ([(1, 2), (0, 1)], ([([(1, 2), (0, 1)], 0), ([(1, 2), (0, 2)], 1), ([(0, 2), (1, 2)], 4), ([(0, 2), (1, 0)], 2),
  ([(0, 2), (1, 1)], 3), ([(1, 2), (0, 0)], 2), ([(1, 2)], 5), ([(1, 0)], 3), ([(1, 1)], 4), ([(0, 1), (1, 2)], 3), ([(0, 1), (1, 0)], 1), ([(0, 1)], 4), ([(0, 2)], 2), ([(0, 0)],
  3), ([(0, 1), (1, 1)], 2), ([(1, 1), (0, 1)], 5), ([(1, 1), (0, 2)], 3), ([(1, 1), (0, 0)], 4)], [([(1, 2), (0, 1)], true), ([(1, 2), (0, 2)], true), ([(0, 2), (1, 2)], true),
  ([(0, 2), (1, 0)], true), ([(0, 2), (1, 1)], true), ([(1, 2), (0, 0)], true), ([(1, 2)], true), ([(1, 0)], true), ([(1, 1)], true), ([(0, 1), (1, 2)], true), ([(0, 1), (1, 0)],
  true), ([(0, 1)], true), ([(0, 2)], true), ([(0, 0)], true), ([(0, 1), (1, 1)], true), ([(1, 1), (0, 1)], true), ([(1, 1), (0, 2)], true), ([(1, 1), (0, 0)], true)])), ([(1, 2),
  (0, 2)], ([([(1, 2), (0, 2)], 0), ([(1, 2), (0, 0)], 1), ([(1, 2)], 4), ([(1, 0)], 2), ([(1, 1)], 3), ([(1, 2), (0, 1)], 2), ([(0, 1), (1, 2)], 5), ([(0, 1), (1, 0)], 3), ([(0, 1),
  (1, 1)], 4), ([(0, 2), (1, 2)], 3), ([(0, 2), (1, 0)], 1), ([(0, 2)], 4), ([(0, 0)], 2), ([(0, 1)], 3), ([(0, 2), (1, 1)], 2), ([(1, 1), (0, 2)], 5), ([(1, 1), (0, 0)], 3), ([(1,
  1), (0, 1)], 4)], [([(1, 2), (0, 2)], true), ([(1, 2), (0, 0)], true), ([(1, 2)], true), ([(1, 0)], true), ([(1, 1)], true), ([(1, 2), (0, 1)], true), ([(0, 1), (1, 2)], true),
  ([(0, 1), (1, 0)], true), ([(0, 1), (1, 1)], true), ([(0, 2), (1, 2)], true), ([(0, 2), (1, 0)], true), ([(0, 2)], true), ([(0, 0)], true), ([(0, 1)], true), ([(0, 2), (1, 1)],
  true), ([(1, 1), (0, 2)], true), ([(1, 1), (0, 0)], true), ([(1, 1), (0, 1)], true)]))]
theorem rows_found : rows23.map Prod.fst = found (2, 3) := by decide +kernel
theorem rows_ok : (rows23.all fun e => decide (costs (2, 3) (least (2, 3) e.1) = e.2.1) && decide (reach (2, 3) e.1 = e.2.2)) = true := by decide +kernel
theorem rows_pairs : (rows23.all fun e => rows23.all fun f => pairW (2, 3) e.1 f.1 e.2.1 f.2.1 e.2.2 f.2.2) = true := by decide +kernel
theorem chkPs_23 : chkPs (2, 3) = true := by
  unfold chkPs
  rw [← rows_found, List.all_map]
  refine List.all_eq_true.mpr fun e he => ?_
  show (rows23.map Prod.fst).all (fun other => chkP (2, 3) e.1 other) = true
  rw [List.all_map]
  refine List.all_eq_true.mpr fun f hf => ?_
  show chkP (2, 3) e.1 f.1 = true
  have h1 := List.all_eq_true.mp rows_ok e he
  have h2 := List.all_eq_true.mp rows_ok f hf
  rw [Bool.and_eq_true] at h1 h2
  have a1 := of_decide_eq_true h1.1
  have a2 := of_decide_eq_true h1.2
  have b1 := of_decide_eq_true h2.1
  have b2 := of_decide_eq_true h2.2
  rw [pairW_is, a1, a2, b1, b2]
  exact List.all_eq_true.mp (List.all_eq_true.mp rows_pairs e he) f hf
end CL
set_option Elab.async false
set_option linter.all false
set_option maxRecDepth 100000
set_option maxHeartbeats 4000000
/-! sorted of a tuple of ints; tuples of ints as data -/
namespace CL
open PySem PySem.Spec PyProof.Rows L2 Evl
section
variable {prog : Program} {w : World} {A : Around} {E : Value → Shared → Prop} {s : Shared}
/-- the items of a tuple collected, as of a list (turned from collect_list) -/
theorem collect_tupF {l : Addr} {vs : List Value} {Q : List Value → Shared → Prop} (hl : IsTup s.heap l vs.toArray)
    (h : Q vs { s with heap := (s.heap.push (seqObj "list" #[] 0)).update s.heap.objs.size (Obj.mapSeq (· ++ vs.toArray)) }) (hsz : vs.length ≤ sizeLine) :
    wpAny (model prog w) A (collect (.ref l)) Q E s := by
  obtain ⟨o, ho, hc, n, hd⟩ := id hl
  unfold collect
  refine wpAny_bind (wpAny_runValue (codeAny_builtin entry_proto_collect' ?_))
  show wpAny _ _ (do again (.builtin "list.__iadd__" ⟨[← newList [], .ref l], []⟩)) _ _ s
  refine wpAny_bind (wpAny_newList (wpAny_pure ⟨Code.quiet_builtin _ (by decide +kernel), codeAny_builtin entry_list_iadd' ?_⟩))
  show wpAny _ _ (Builtin.List.listExtendWith (.ref s.heap.objs.size) (.ref l) (.ref s.heap.objs.size)) _ _ { s with heap := s.heap.push (seqObj "list" #[] 0) }
  unfold Builtin.List.listExtendWith
  have ho' : (s.heap.push (seqObj "list" #[] 0)).get? l = some o := Heap.get?_push_of_some _ ho
  refine wpAny_bind (wpAny_typeOf (T := "tuple") ⟨o, ho', hc⟩ ?_)
  have ht : (Value.type "tuple" == Value.type "tuple") = true := by rfl
  rw [if_pos (by rw [ht, Bool.or_true])]
  refine wpAny_bind (listItems_at ho' hd ?_)
  refine wpAny_bind (listItems_at (xs := #[]) (n := 0) (Heap.get?_push_size _ rfl) rfl ?_)
  rw [if_neg (by simp)]
  refine wpAny_bind (listUpdate_at (xs := #[]) (n := 0) (Heap.get?_push_size _ rfl) rfl ?_ (Nat.zero_le _) (by show (#[] ++ vs.toArray).size ≤ sizeLine + 1; simp only [Array.size_append, List.size_toArray, List.length_nil]; omega))
  refine wpAny_pure ?_
  show wpAny (model prog w) A (do
      let o ← load s.heap.objs.size
      match o.data with
      | .seq xs _ => pure xs.toList
      | _ => unsupported "internal:collect") Q E { s with heap := (s.heap.push (seqObj "list" #[] 0)).update s.heap.objs.size (Obj.mapSeq (· ++ vs.toArray)) }
  refine wpAny_bind (wpAny_load (get?_update_seq (Heap.get?_push_size _ rfl) _) ?_)
  show wpAny _ _ (pure ((#[] : Array Value) ++ vs.toArray).toList) Q E _
  rw [show ((#[] : Array Value) ++ vs.toArray).toList = vs by simp]
  exact wpAny_pure h
/-- sorted(t), t a tuple of ints -/
theorem sorted_intsTup {l : Addr} {vs : List Value} {ns : List Int} {Q : Value → Shared → Prop} (hl : IsTup s.heap l vs.toArray) (hI : IntsAre vs ns) (h64 : vs.length < 64)
    (h : ∀ (out : Array Value) (ns' : List Int), IntsAre out.toList ns' → ns'.Perm ns → ns'.Pairwise (· ≤ ·) → Q (.ref (s.heap.objs.size + 1)) { s with heap := sortedAll s.heap vs out }) :
    wpAny (model prog w) A (call (.builtin "sorted") [.ref l]) Q E s := by
  refine Calls.call_function_entry kind_sorted plain_sorted entry_sorted (args_sorted1 _) ?_
  unfold Builtin.«sorted»
  refine wpAny_bind (m := checkCount "sorted" 1 1 _) (wpAny_pure ?_)
  refine wpAny_bind (collect_tupF hl ?_ (small64 h64))
  refine wpAny_bind (wpAny_newList ?_ (small64 h64))
  have hsz : ((s.heap.push (seqObj "list" #[] 0)).update s.heap.objs.size (Obj.mapSeq (· ++ vs.toArray))).objs.size = s.heap.objs.size + 1 := by
    rw [Heap.size_update, size_push']
  have hoL : (((s.heap.push (seqObj "list" #[] 0)).update s.heap.objs.size (Obj.mapSeq (· ++ vs.toArray))).push (seqObj "list" vs.toArray 0)).get? (s.heap.objs.size + 1) = some (seqObj "list" vs.toArray 0) := by
    rw [← hsz]; exact Heap.get?_push_size _ rfl
  show wpAny _ _ _ _ _ { s with heap := ((s.heap.push (seqObj "list" #[] 0)).update s.heap.objs.size (Obj.mapSeq (· ++ vs.toArray))).push (seqObj "list" vs.toArray 0) }
  rw [hsz]
  refine wpAny_bind (wpAny_holding (wpAny_call_entry slot_list_sort ⟨_, hoL, rfl⟩ entry_list_sort (list_sort_tree hoL hI h64 fun out ns' a1 a2 a3 => ⟨_, rfl, ?_⟩) (args_list_sort _)))
  exact wpAny_pure ⟨_, rfl, h out ns' a1 a2 a3⟩
end
def rSortedIT (K : PySem.W.Frag) : List V → Hp → VK → Prop := fun vs H Q => ∃ (a : Addr) (ns : List Int), vs = [V.ref a] ∧ SqT K H a (ns.map V.int) ∧ ns.length < 64 ∧
  ∀ (ns' : List Int) (p : Addr), ns'.Perm ns → ns'.Pairwise (· ≤ ·) → H p = none → Q (.ref p) (upd H p (.lst (ns'.map V.int)))
theorem cr_sortedIT {X : Cx} : CallR X (.builtin "sorted") (rSortedIT X.K) := by
  intro pins s σ H vs us Q I r h
  obtain ⟨a, ns, rfl, hs, hn, q⟩ := h
  obtain ⟨its, rv, hl, hz⟩ := I.tuple hs
  rw [Vals.ref1 r]
  have hi := rv.ints
  have h64 : its.length < 64 := by
    rw [← rv.length, List.length_map]
    exact hn
  refine sorted_intsTup hl hi h64 fun out ns' k1 k2 k3 => ?_
  obtain ⟨ep, he'⟩ := PyProof.Rows.sortedAll_at s.heap its out
  have hlen : (ns'.map V.int).length ≤ sizeLine := by
    rw [List.length_map, k2.length_eq]
    exact small64 hn
  exact ⟨.ref _, upd H (s.heap.objs.size + 1) (.lst (ns'.map V.int)), I.laid (t' := s.toks) (fun _ _ => PyProof.Rows.sortedAll_old) (Nat.le_succ _) ⟨hlen, out.toList, ep, vals_of_ints k1, by simpa using he'⟩, rfl, q _ _ k2 k3 (I.hok.fresh (Nat.le_succ _))⟩
/-! ### isortI is the sorted one -/
theorem insI_perm (p : Int) : ∀ l, (insI p l).Perm (p :: l)
  | [] => List.Perm.refl _
  | q :: r => by
    unfold insI
    by_cases h : q < p
    · rw [if_pos h]
      exact ((insI_perm p r).cons q).trans (List.Perm.swap p q r)
    · rw [if_neg h]
theorem isortI_perm : ∀ l, (isortI l).Perm l
  | [] => List.Perm.refl _
  | p :: r => (insI_perm p (isortI r)).trans ((isortI_perm r).cons p)
theorem insI_up (p : Int) : ∀ l : List Int, l.Pairwise (· ≤ ·) → (insI p l).Pairwise (· ≤ ·)
  | [], _ => by simp [insI]
  | q :: r, h => by
    obtain ⟨h1, h2⟩ := List.pairwise_cons.mp h
    unfold insI
    by_cases g : q < p
    · rw [if_pos g]
      refine List.pairwise_cons.mpr ⟨fun x hx => ?_, insI_up p r h2⟩
      rcases List.mem_cons.mp ((insI_perm p r).mem_iff.mp hx) with e | hx
      · omega
      · exact h1 x hx
    · rw [if_neg g]
      refine List.pairwise_cons.mpr ⟨fun x hx => ?_, h⟩
      rcases List.mem_cons.mp hx with e | hx
      · omega
      · have := h1 x hx
        omega
theorem isortI_up : ∀ l, (isortI l).Pairwise (· ≤ ·)
  | [] => .nil
  | p :: r => insI_up p _ (isortI_up r)
theorem upI_unique : ∀ {xs ys : List Int}, xs.Perm ys → xs.Pairwise (· ≤ ·) → ys.Pairwise (· ≤ ·) → xs = ys := fun h h1 h2 =>
  List.Perm.eq_of_pairwise (fun a b _ _ z1 z2 => Int.le_antisymm z1 z2) h1 h2 h
theorem isortI_of {xs ys : List Int} (h : xs.Perm ys) (h1 : xs.Pairwise (· ≤ ·)) : xs = isortI ys := upI_unique (h.trans (isortI_perm ys).symm) h1 (isortI_up ys)
/-! ### ints as data -/
abbrev encI (l : List Int) : List PyData := l.map PyData.int
theorem int_eqv (a b : Int) : PyData.eqv (.int a) (.int b) = decide (a = b) := by
  simp only [PyData.eqv]
  by_cases h : a = b
  · rw [decide_eq_true h]
    exact beq_iff_eq.mpr h
  · rw [decide_eq_false h]
    exact beq_eq_false_iff_ne.mpr h
theorem encI_any (k : Int) : ∀ l : List Int, ((encI l).any fun z => PyData.eqv z (.int k)) = decide (k ∈ l)
  | [] => by simp
  | p :: r => by
    rw [encI, List.map_cons, List.any_cons, int_eqv, encI_any k r, ← Bool.decide_or]
    exact decide_eq_decide.mpr (by rw [List.mem_cons]; exact ⟨fun z => z.imp Eq.symm id, fun z => z.imp Eq.symm id⟩)
open PySem.W in
theorem encI_eqv : ∀ ps qs : List Int, PyData.eqvAll (encI ps) (encI qs) = decide (ps = qs)
  | [], [] => by simp [PyData.eqvAll]
  | [], _ :: _ => by simp [PyData.eqvAll]
  | _ :: _, [] => by simp [PyData.eqvAll]
  | x :: xs, y :: ys => by
    rw [encI, encI, List.map_cons, List.map_cons, eqv_all_cons, int_eqv, encI_eqv xs ys, ← Bool.decide_and]
    exact decide_eq_decide.mpr (by rw [List.cons.injEq])
theorem encI_lay : ∀ ps : List Int, PyData.canLayAll0 (encI ps) = true
  | [] => by simp [PyData.canLayAll0]
  | p :: r => by
    rw [encI, List.map_cons, PyData.canLayAll0, encI_lay r]
    simp [PyData.canLay0]
theorem encI_depth : ∀ ps : List Int, PyData.depthAll (encI ps) ≤ 1
  | [] => by simp [PyData.depthAll]
  | p :: r => by
    have h : PyData.depthAll (r.map PyData.int) ≤ 1 := encI_depth r
    rw [encI, List.map_cons, PyData.depthAll]
    simp only [PyData.depth]
    omega
theorem encI_shapedL (ps : List Int) : SeqAt.shaped (.list (encI ps)) = true := by
  have h2 : PyData.depth (.list (encI ps)) ≤ 64 := by
    have h := encI_depth ps
    simp only [PyData.depth]
    omega
  show (PyData.canLay0 (.list (encI ps)) && decide (PyData.depth (.list (encI ps)) ≤ 64)) = true
  rw [decide_eq_true h2, Bool.and_true]
  simp only [PyData.canLay0]
  exact encI_lay ps
theorem encI_shapedT (ps : List Int) : SeqAt.shaped (.tuple (encI ps)) = true := by
  have h2 : PyData.depth (.tuple (encI ps)) ≤ 64 := by
    have h := encI_depth ps
    simp only [PyData.depth]
    omega
  show (PyData.canLay0 (.tuple (encI ps)) && decide (PyData.depth (.tuple (encI ps)) ≤ 64)) = true
  rw [decide_eq_true h2, Bool.and_true]
  simp only [PyData.canLay0]
  exact encI_lay ps
theorem int_shaped (k : Int) : SeqAt.shaped (.int k) = true := by
  show (PyData.canLay0 (.int k) && decide (PyData.depth (.int k) ≤ 64)) = true
  simp [PyData.canLay0, PyData.depth]
theorem encT_eqv (ps qs : List Int) : PyData.eqv (.tuple (encI ps)) (.tuple (encI qs)) = decide (ps = qs) := by
  have e : PyData.eqv (.tuple (encI ps)) (.tuple (encI qs)) = PyData.eqvAll (encI ps) (encI qs) := by simp only [PyData.eqv]
  rw [e, encI_eqv]
theorem encL_eqv (ps qs : List Int) : PyData.eqv (.list (encI ps)) (.list (encI qs)) = decide (ps = qs) := by
  have e : PyData.eqv (.list (encI ps)) (.list (encI qs)) = PyData.eqvAll (encI ps) (encI qs) := by simp only [PyData.eqv]
  rw [e, encI_eqv]
section
variable {K : PySem.W.Frag} {H : Hp}
theorem ints_dp : ∀ l : List Int, DpAll K H (l.map V.int) (encI l)
  | [] => .nil
  | k :: r => .cons (.int k) (ints_dp r)
end
def IsInts (H : Hp) (v : V) (l : List Int) : Prop := ∃ a, v = .ref a ∧ H a = some (.tup (l.map V.int))
theorem IsInts.mono {H H' : Hp} (e : Ex H H') {v : V} {l : List Int} (h : IsInts H v l) : IsInts H' v l := by
  obtain ⟨a, rfl, h⟩ := h
  exact ⟨a, rfl, e _ _ h⟩
theorem IsInts.dp {K : PySem.W.Frag} {H : Hp} {v : V} {l : List Int} (h : IsInts H v l) : Dp K H v (.tuple (encI l)) := by
  obtain ⟨a, rfl, h⟩ := h
  exact .tup (SqT.of h) (ints_dp l)
end CL
set_option Elab.async false
set_option linter.all false
set_option maxRecDepth 100000
set_option maxHeartbeats 4000000
/-! people_in, is_behind_in, .. -/
namespace CL
open PySem PySem.Spec PyProof.Rows L2 Evl
abbrev sPeopleIn : Stmt := topS 31
abbrev sMadeBehind : Stmt := topS 32
abbrev sBehindIn : Stmt := topS 33
abbrev sMadeAhead : Stmt := topS 34
abbrev sAheadIn : Stmt := topS 35
abbrev sSameBehind : Stmt := topS 36
abbrev nPeopleIn : List Str := ["office", "plan", "found", "person", "number"]
abbrev nBehindIn : List Str := ["office", "one", "other", "met", "person", "number"]
abbrev nAheadIn : List Str := ["office", "one", "other", "first", "second"]
abbrev nOOO : List Str := ["office", "one", "other"]
theorem scPeopleIn : FnScope nPeopleIn ["office", "plan"] (defScope sPeopleIn) := ⟨rfl, rfl, rfl, by decide +kernel, rfl, by decide +kernel, by decide +kernel⟩
theorem scMadeBehind : FnScope nOOO nOOO (defScope sMadeBehind) := ⟨rfl, rfl, rfl, by decide +kernel, rfl, by decide +kernel, by decide +kernel⟩
theorem scBehindIn : FnScope nBehindIn nOOO (defScope sBehindIn) := ⟨rfl, rfl, rfl, by decide +kernel, rfl, by decide +kernel, by decide +kernel⟩
theorem scMadeAhead : FnScope nOOO nOOO (defScope sMadeAhead) := ⟨rfl, rfl, rfl, by decide +kernel, rfl, by decide +kernel, by decide +kernel⟩
theorem scAheadIn : FnScope nAheadIn nOOO (defScope sAheadIn) := ⟨rfl, rfl, rfl, by decide +kernel, rfl, by decide +kernel, by decide +kernel⟩
theorem scSameBehind : FnScope nAheadIn nOOO (defScope sSameBehind) := ⟨rfl, rfl, rfl, by decide +kernel, rfl, by decide +kernel, by decide +kernel⟩
theorem decV_bl {i j : Bool} : decide (V.bl i = V.bl j) = decide (i = j) := decide_eq_decide.mpr ⟨fun h => by injection h, fun h => by rw [h]⟩
theorem map_take_snoc {p : Plan} {i : Nat} {q : Pr} (h : p[i]? = some q) : ((p.map Prod.fst).take (i + 1)).map V.int = ((p.map Prod.fst).take i).map V.int ++ [V.int q.1] := by
  have e : (p.map Prod.fst)[i]? = some q.1 := by
    rw [List.getElem?_map, h]
    rfl
  rw [take_snoc e, List.map_append]
  rfl
section
variable {P : Program} {w : World} {K : PySem.W.Frag} {mg : Str → Option Value} {base : Heap}
/-! ### people_in -/
def spPeopleIn : Sp := fun vs H Q _ => ∃ vo vp o p, vs = [vo, vp] ∧ IsPr H vo o ∧ IsPlan H vp p ∧ OffOk o ∧ p.length ≤ 100 ∧ ∀ v H', Ex H H' → IsInts H' v (peopleIn o p) → Q v H'
theorem ok_people_in (D : Def K mg "people_in" sPeopleIn ["office", "plan"]) (B : Bl mg) : Ok P w K mg base 1 "people_in" ["office", "plan"] spPeopleIn := by
  refine Ok.mk' D scPeopleIn (fun vs H Q E ⟨_, _, _, _, h, _⟩ => by rw [h]; rfl) fun f cdv A outer s H vs Q E hr ⟨vo, vp, o, p, hv, ho, hp, oo, hlp, q⟩ => ?_
  subst hv
  obtain ⟨a, rfl, ha⟩ := ho
  obtain ⟨b, xs, rfl, hb, hx⟩ := hp
  have hlx := paired_len hx
  have hu65 : (A.deeper (envOfC "people_in" (defScope sPeopleIn) s.heap.objs.size f cdv)).units + 65 < cLine := by
    have := hr.un
    omega
  refine ⟨_, pss_cons (ps_set (i := 2) scPeopleIn.nd rfl (.inr rfl) (pe_lc (own := [("person", 3), ("number", 4)]) (g := gPair K 3 4) (tt := tYes) (te := tVar 3) rfl scPeopleIn.nd (pi_tup (pv 1))
      (blkOk_by (N := nPeopleIn) (sc := defScope sPeopleIn) (by decide +kernel))
      (fun _ _ _ _ _ => pg_tup rfl (pgs_cons (pg_name (i := 3) scPeopleIn.nd rfl (.inl rfl)) (pgs_cons (pg_name (i := 4) scPeopleIn.nd rfl (.inl rfl)) pgs_nil)))
      (fun _ _ _ _ _ => pts_nil) (fun _ _ _ _ _ => pv 3)))
    (pss_cons (ps_if (pt_cmpR op_eq (pe_callB call_len_seq (by rfl) B.len PySem.boot_len (pa_cons (pv 2) pa_nil)) (pe_op op_sub (pe_ix ix_tup (pv 0) pe_int (fun _ _ => rfl)) pe_int) (nomark _))
      (pss_one (ps_set (i := 2) scPeopleIn.nd rfl (.inr rfl) (pe_lst (pa_star (pe_lc (own := [("person", 3)]) (g := gName 3) (tt := tTest (tOp (rNotInD K) (tVar 3) (tVar 2))) (te := tVar 3) rfl scPeopleIn.nd
          (pi_range1 (by rfl) B.range (pa_cons (pe_ix ix_tup (pv 0) pe_int (fun _ _ => rfl)) pa_nil)) (blkOk_by (N := nPeopleIn) (sc := defScope sPeopleIn) (by decide +kernel))
          (fun _ _ _ _ _ => pg_name (i := 3) scPeopleIn.nd rfl (.inl rfl)) (fun _ _ _ _ _ => pts_one (pt_cmpR (op_notInD hu65) (pv 3) (pv 2) (by rfl))) (fun _ _ _ _ _ => pv 3))
        (pa_star (pv 2) pa_nil))))) pss_nil)
    (pss_one (ps_ret (pe_tupleOf (by rfl) B.tuple (pv 2))))), ?_⟩
  refine ⟨.ref b, rfl, b, rfl, ⟨xs, SqT.of hb⟩, fun T hT => ?_⟩
  refine lc_tup (K := K) (xs := xs) (fun i H' => Ex H H' ∧ H' T = some (.lst (((p.map Prod.fst).take i).map V.int))) ⟨Ex.new hT, upd_same⟩ (fun i H' _ ⟨e, _⟩ => SqT.of (e _ _ hb)) (fun i x H1 hix ⟨e, eT⟩ => ?_) (fun H1 ⟨e, eT⟩ => ?_)
  · obtain ⟨qq, hqq, hpr⟩ := paired_at hx hix
    obtain ⟨c, rfl, hcq⟩ := hpr
    refine ⟨c, _, rfl, SqT.of (e _ _ hcq), rfl, _, _, rfl, _, [], rfl, rfl, rfl, ?_⟩
    refine ⟨.int qq.1, rfl, _, eT, ?_, e.mut hT, ?_⟩
    · rw [List.length_map, List.length_take, List.length_map]
      exact small1000 (by omega)
    · rw [upd_same, map_take_snoc hqq]
  have hall : (p.map Prod.fst).take xs.length = p.map Prod.fst := List.take_of_length_le (by rw [List.length_map]; omega)
  rw [hall] at eT
  refine ⟨.ref T, rfl, T, _, rfl, .inl (SqL.of eT), .ref a, rfl, a, _, 0, .int o.1, rfl, rfl, SqT.of (e _ _ ha), rfl, o.1, 1, rfl, rfl, rfl, _, rfl, iteB decV_int ?_⟩
  rw [List.length_map, List.length_map]
  refine ite2 (fun h => ?_) (fun h => ?_)
  · have h : ((p.length : Nat) : Int) = o.1 - 1 := of_decide_eq_true h
    have hpi : peopleIn o p = (rng o.1).filter (fun q => decide (q ∉ p.map Prod.fst)) ++ p.map Prod.fst := by
      unfold peopleIn
      rw [if_pos h]
    have p7 := oo.p7
    have p1 := oo.p1
    refine ⟨.ref a, rfl, a, _, 0, .int o.1, rfl, rfl, SqT.of (e _ _ ha), rfl, o.1, rfl, by omega, by omega, fun U hU => ?_⟩
    refine lc_range (lo := 0) (n := o.1.toNat) (fun n H2 => Ex H1 H2 ∧ H2 U = some (.lst ((((rng o.1).take n).filter (fun q => decide (q ∉ p.map Prod.fst))).map V.int))) ⟨Ex.new hU, upd_same⟩ (fun n H2 hn ⟨e2, eU⟩ => ?_) (fun H2 ⟨e2, eU⟩ => ?_)
    · refine ⟨rfl, ?_⟩
      have z0 : (0 : Int) + (n : Int) = (n : Int) := Int.zero_add _
      have hnx := filter_take (fun q => decide (q ∉ p.map Prod.fst)) (rng_at hn)
      refine ⟨.int (0 + (n : Nat)), rfl, .ref T, rfl, .int (0 + (n : Nat)), encI (p.map Prod.fst), .int _, .lst (SqL.of (e2 _ _ eT)) (ints_dp _), int_shaped _, encI_shapedL _, _, rfl, ?_⟩
      rw [encI_any, z0, ← decide_not]
      refine ite2 (fun g => ?_) (fun g => ?_)
      · rw [if_pos g] at hnx
        refine ⟨.int (n : Int), rfl, _, eU, ?_, e2.mut hU, ?_⟩
        · rw [List.length_map]
          have z := filter_take_len (fun q => decide (q ∉ p.map Prod.fst)) (rng o.1) n
          rw [rng_len] at z
          exact small1000 (by omega)
        · rw [upd_same, hnx, List.map_append]
          rfl
      · rw [if_neg g, List.append_nil] at hnx
        rw [hnx]
        exact ⟨e2, eU⟩
    · rw [rng_all] at eU
      refine ⟨U, _, rfl, .inl (SqL.of eU), .ref T, rfl, T, _, rfl, .inl (SqL.of (e2 _ _ eT)), ?_, fun W hW => ?_⟩
      · rw [List.append_nil, List.length_append, List.length_map, List.length_map, List.length_map]
        have z := List.length_filter_le (fun q => decide (q ∉ p.map Prod.fst)) (rng o.1)
        rw [rng_len] at z
        exact Nat.le_of_lt (small1000 (by omega))
      · rw [List.append_nil, ← List.map_append, ← hpi]
        refine ⟨.ref W, rfl, .inl ⟨W, _, rfl, SqL.of upd_same, fun q' hq' => ?_⟩⟩
        exact q _ _ (((e.trans e2).trans (Ex.new hW)).trans (Ex.new hq')) ⟨q', rfl, upd_same⟩
  · have h : ¬ ((p.length : Nat) : Int) = o.1 - 1 := fun z => h (decide_eq_true z)
    have hpi : peopleIn o p = p.map Prod.fst := by
      unfold peopleIn
      rw [if_neg h]
    refine ⟨.ref T, rfl, .inl ⟨T, _, rfl, SqL.of eT, fun q' hq' => ?_⟩⟩
    refine q _ _ (e.trans (Ex.new hq')) ⟨q', rfl, ?_⟩
    rw [hpi]
    exact upd_same
/-! ### is_behind_in -/
def spBB (F : Off → Plan → Plan → Bool) : Sp := fun vs H Q _ => ∃ vo v1 v2 o p1 p2, vs = [vo, v1, v2] ∧ IsPr H vo o ∧ IsPlan H v1 p1 ∧ IsPlan H v2 p2 ∧ OffOk o ∧ VP o p1 ∧ VP o p2 ∧ ∀ H', Ex H H' → Q (.bl (F o p1 p2)) H'
theorem all_take {l : Plan} (g : Pr → Bool) {i : Nat} {q : Pr} (h : l[i]? = some q) : ((l.take (i + 1)).map fun q => V.bl (g q)) = ((l.take i).map fun q => V.bl (g q)) ++ [V.bl (g q)] := by
  rw [take_snoc h, List.map_append]
  rfl
theorem plK_some (l : Plan) (k : Int) : (valV (plK l) (Sum.inl k)).isSome = decide (k ∈ l.map Prod.fst) := by
  by_cases h : k ∈ l.map Prod.fst
  · rw [decide_eq_true h]
    cases e : valV (plK l) (Sum.inl k) with
    | some _ => rfl
    | none =>
      obtain ⟨q, hq, eq⟩ := List.mem_map.mp h
      have z : ((plK l).any fun kv => decide (kv.1 = Sum.inl k)) = true := List.any_eq_true.mpr ⟨_, List.mem_map.mpr ⟨q, hq, rfl⟩, by rw [eq]; exact decide_eq_true rfl⟩
      rw [valV_any, e] at z
      cases z
  · rw [decide_eq_false h, plK_no h]
    rfl
theorem ok_is_behind_in (D : Def K mg "is_behind_in" sBehindIn nOOO) (B : Bl mg) : Ok P w K mg base 1 "is_behind_in" nOOO (spBB behindIn) := by
  refine Ok.mk' D scBehindIn (fun vs H Q E ⟨_, _, _, _, _, _, h, _⟩ => by rw [h]; rfl) fun f cdv A outer s H vs Q E hr ⟨vo, v1, v2, o, p1, p2, hv, ho, h1, h2, oo, vp1, vp2, q⟩ => ?_
  subst hv
  obtain ⟨a, rfl, ha⟩ := ho
  obtain ⟨b1, xs1, rfl, hb1, hx1⟩ := h1
  obtain ⟨b2, xs2, rfl, hb2, hx2⟩ := h2
  have hl1 := paired_len hx1
  have hl2 := paired_len hx2
  have hu := hu_of hr
  have l1 := vp1.len100 oo
  have l2 := vp2.len100 oo
  refine ⟨_, pss_cons (ps_if (pt_cmpR op_ge (pe_callB call_len_seq (by rfl) B.len PySem.boot_len (pa_cons (pv 1) pa_nil)) (pe_op op_sub (pe_ix ix_tup (pv 0) pe_int (fun _ _ => rfl)) pe_int) (nomark _))
      (pss_one (ps_ret (pe_cmpR op_ge (pe_callB call_len_seq (by rfl) B.len PySem.boot_len (pa_cons (pv 2) pa_nil)) (pe_op op_sub (pe_ix ix_tup (pv 0) pe_int (fun _ _ => rfl)) pe_int) (nomark _)))) pss_nil)
    (pss_cons (ps_set (i := 3) scBehindIn.nd rfl (.inr rfl) (pe_dc (own := [("person", 4), ("number", 5)]) (g := gPair K 4 5) (tt := tYes) (tk := tVar 4) (tv := tVar 5) rfl scBehindIn.nd (pi_tup (pv 2)) (blkOk_by (N := nBehindIn) (sc := defScope sBehindIn) (by decide +kernel))
      (fun _ _ _ _ _ => pg_tup rfl (pgs_cons (pg_name (i := 4) scBehindIn.nd rfl (.inl rfl)) (pgs_cons (pg_name (i := 5) scBehindIn.nd rfl (.inl rfl)) pgs_nil)))
      (fun _ _ _ _ _ => pts_nil) (fun _ _ _ _ _ => pv 4) (fun _ _ _ _ _ => pv 5)))
    (pss_cons (ps_if (pt_not (pt_val (pe_callB (cr_all rfl) (by rfl) B.all boot_all (pa_cons (pe_lc (own := [("person", 4), ("number", 5)]) (g := gPair K 4 5) (tt := tYes) (te := tDIn (tVar 4) (tVar 3)) rfl scBehindIn.nd (pi_tup (pv 1)) (blkOk_by (N := nBehindIn) (sc := defScope sBehindIn) (by decide +kernel))
      (fun _ _ _ _ _ => pg_tup rfl (pgs_cons (pg_name (i := 4) scBehindIn.nd rfl (.inl rfl)) (pgs_cons (pg_name (i := 5) scBehindIn.nd rfl (.inl rfl)) pgs_nil)))
      (fun _ _ _ _ _ => pts_nil) (fun _ _ _ _ _ => pe_cmp (pc_din hu (pv 4) (pv 3)))) pa_nil))))
      (pss_one (ps_ret (pe_cmpR op_eq (pe_callB call_len_seq (by rfl) B.len PySem.boot_len (pa_cons (pv 2) pa_nil)) (pe_op op_sub (pe_ix ix_tup (pv 0) pe_int (fun _ _ => rfl)) pe_int) (nomark _)))) pss_nil)
    (pss_one (ps_ret pe_bl)))), ?_⟩
  refine ⟨.ref b1, rfl, b1, _, rfl, .inr (SqT.of hb1), .ref a, rfl, a, _, 0, .int o.1, rfl, rfl, SqT.of ha, rfl, o.1, 1, rfl, rfl, _, _, rfl, rfl, _, rfl, ?_⟩
  rw [hl1]
  refine ite2 (fun h => ?_) (fun h => ?_)
  · have h : o.1 - 1 ≤ ((p1.length : Nat) : Int) := of_decide_eq_true h
    have hb : behindIn o p1 p2 = decide (o.1 - 1 ≤ ((p2.length : Nat) : Int)) := by
      unfold behindIn
      rw [if_pos h]
    refine ⟨.ref b2, rfl, b2, _, rfl, .inr (SqT.of hb2), .ref a, rfl, a, _, 0, .int o.1, rfl, rfl, SqT.of ha, rfl, o.1, 1, rfl, rfl, _, _, rfl, rfl, ?_⟩
    rw [hl2]
    have z := q H (Ex.refl H)
    rw [hb] at z
    exact z
  have h : ¬ o.1 - 1 ≤ ((p1.length : Nat) : Int) := fun z => h (decide_eq_true z)
  have hb : behindIn o p1 p2 = if (p1.all fun q => decide (q.1 ∈ p2.map Prod.fst)) = true then true else decide (((p2.length : Nat) : Int) = o.1 - 1) := by
    unfold behindIn
    rw [if_neg h]
  refine ⟨.ref b2, rfl, b2, rfl, ⟨xs2, SqT.of hb2⟩, fun m hm => ?_⟩
  refine dc_tup (K := K) (xs := xs2) (fun i H' => Ex H H' ∧ H' m = some (.dK (plK (p2.take i)))) ⟨Ex.new hm, upd_same⟩ (fun i H' _ ⟨e, _⟩ => SqT.of (e _ _ hb2)) (fun i x H' hix ⟨e, em⟩ => ?_) (fun H1 ⟨e, em⟩ => ?_)
  · obtain ⟨qq, hqq, hpr⟩ := paired_at hx2 hix
    obtain ⟨c, rfl, hcq⟩ := hpr
    have hno := take_not vp2.nd hqq
    refine ⟨c, _, rfl, SqT.of (e _ _ hcq), rfl, _, _, rfl, _, [], rfl, rfl, rfl, ?_⟩
    refine ⟨.int qq.1, rfl, .int qq.2, rfl, _, Sum.inl qq.1, rfl, em, ?_, e.mut hm, ?_⟩
    · rw [List.length_map, List.length_take]
      exact small1000 (by omega)
    · rw [upd_same, plK_put hno, take_snoc hqq]
  rw [hl2, List.take_length] at em
  refine ⟨.ref b1, rfl, b1, rfl, ⟨xs1, SqT.of (e _ _ hb1)⟩, fun T hT => ?_⟩
  refine lc_tup (K := K) (xs := xs1) (fun i H' => Ex H1 H' ∧ H' T = some (.lst ((p1.take i).map fun q => V.bl (decide (q.1 ∈ p2.map Prod.fst))))) ⟨Ex.new hT, upd_same⟩ (fun i H' _ ⟨e', _⟩ => SqT.of (e' _ _ (e _ _ hb1))) (fun i x H2 hix ⟨e2, eT⟩ => ?_) (fun H2 ⟨e2, eT⟩ => ?_)
  · obtain ⟨qq, hqq, hpr⟩ := paired_at hx1 hix
    obtain ⟨c, rfl, hcq⟩ := hpr
    refine ⟨c, _, rfl, SqT.of (e2 _ _ (e _ _ hcq)), rfl, _, _, rfl, _, [], rfl, rfl, rfl, ?_⟩
    refine ⟨.int qq.1, rfl, .ref m, rfl, m, _, rfl, DGet.k (k := Sum.inl qq.1) (e2 _ _ em), _, eT, ?_, e2.mut hT, ?_⟩
    · rw [List.length_map, List.length_take]
      exact small1000 (by omega)
    · rw [upd_same, plK_some, all_take (fun q => decide (q.1 ∈ p2.map Prod.fst)) hqq]
  have hall : (p1.take xs1.length) = p1 := by
    rw [hl1]
    exact List.take_length
  rw [hall] at eT
  have eT' : H2 T = some (.lst ((p1.map fun q => decide (q.1 ∈ p2.map Prod.fst)).map V.bl)) := by
    rw [eT, List.map_map]
    rfl
  have hid : ((p1.map fun q => decide (q.1 ∈ p2.map Prod.fst)).all id) = p1.all fun q => decide (q.1 ∈ p2.map Prod.fst) := by
    rw [List.all_map]
    rfl
  refine ⟨T, _, rfl, SqL.of eT', _, rfl, ?_⟩
  rw [hid]
  have ez := e.trans e2
  have z := q H2 ez
  rw [hb] at z
  by_cases g : (p1.all fun q => decide (q.1 ∈ p2.map Prod.fst)) = true
  · rw [if_pos g] at z
    refine iteN g ?_
    exact z
  · rw [if_neg g] at z
    rw [Bool.eq_false_iff.mpr g]
    refine iteT ?_
    refine ⟨.ref b2, rfl, b2, _, rfl, .inr (SqT.of (ez _ _ hb2)), .ref a, rfl, a, _, 0, .int o.1, rfl, rfl, SqT.of (ez _ _ ha), rfl, o.1, 1, rfl, rfl, rfl, ?_⟩
    rw [decV_int, hl2]
    exact z
end
end CL
set_option Elab.async false
set_option linter.all false
set_option maxRecDepth 100000
set_option maxHeartbeats 4000000
/-! is_made_behind, is_ahead_in, is_made_ahead, same_behind -/
namespace CL
open PySem PySem.Spec PyProof.Rows L2 Evl
theorem vp_least {o : Off} {p : Plan} (h : VP o p) : VP o (least o p) := by
  cases p with
  | nil => exact h
  | cons q r =>
    rw [least_cons]
    by_cases c : (((q :: r).length : Nat) : Int) = o.1 ∧ q.2 = 0
    · rw [if_pos c]
      refine ⟨?_, fun x hx => h.rg x (List.mem_cons_of_mem _ hx), ?_⟩
      · have := h.len
        rw [List.length_cons] at this
        omega
      · have := h.nd
        rw [List.map_cons] at this
        exact (List.nodup_cons.mp this).2
    · rw [if_neg c]
      exact h
theorem cut_drop (xs : List V) (k : Nat) (h : k ≤ xs.length) : cutV xs (some (k : Int)) none = xs.drop k := by
  unfold cutV
  have e : HT.sIx xs.length 0 (some (k : Int)) = min k xs.length := HT.sIx_nat xs.length 0 k
  rw [e, HT.sIx_none, Nat.min_eq_left h]
  exact List.take_of_length_le (by simp)
section
variable {P : Program} {w : World} {K : PySem.W.Frag} {mg : Str → Option Value} {base : Heap}
theorem ok_is_made_behind (D : Def K mg "is_made_behind" sMadeBehind nOOO) (N : Ok P w K mg base 4 "need_plan" ["office", "plan"] spNeedPlan) (NP : Ok P w K mg base 4 "need_pairs" ["office", "plan"] spNeedPairs)
    (L : Ok P w K mg base 4 "least_in" ["office", "plan"] spLeastIn) (B : Ok P w K mg base 4 "is_behind_in" nOOO (spBB behindIn)) :
    Ok P w K mg base 5 "is_made_behind" nOOO (spBB fun o a b => behindIn o (least o a) (least o b)) := by
  refine Ok.mk' D scMadeBehind (fun vs H Q E ⟨_, _, _, _, _, _, h, _⟩ => by rw [h]; rfl) fun f cdv A outer s H vs Q E hr ⟨vo, v1, v2, o, p1, p2, hv, ho, h1, h2, oo, vp1, vp2, q⟩ => ?_
  subst hv
  refine ⟨_, pss_cons (ps_expr (N.call hr (by rfl) (pa_cons (pv 0) (pa_cons (pv 1) pa_nil)))) (pss_cons (ps_expr (NP.call hr (by rfl) (pa_cons (pv 0) (pa_cons (pv 2) pa_nil))))
    (pss_one (ps_ret (B.call hr (by rfl) (pa_cons (pv 0) (pa_cons (L.call hr (by rfl) (pa_cons (pv 0) (pa_cons (pv 1) pa_nil))) (pa_cons (L.call hr (by rfl) (pa_cons (pv 0) (pa_cons (pv 2) pa_nil))) pa_nil))))))), ?_⟩
  refine ⟨vo, rfl, v1, rfl, vo, v1, o, p1, rfl, ho, h1, oo, vp1, fun Ha ea => ?_⟩
  refine ⟨vo, rfl, v2, rfl, vo, v2, o, p2, rfl, ho.mono ea, h2.mono ea, oo, vp2, fun Hb eb => ?_⟩
  have e := ea.trans eb
  refine ⟨vo, rfl, vo, rfl, v1, rfl, vo, v1, o, p1, rfl, ho.mono e, h1.mono e, oo.p1, fun va Hc ec ha => ?_⟩
  have e2 := e.trans ec
  refine ⟨vo, rfl, v2, rfl, vo, v2, o, p2, rfl, ho.mono e2, h2.mono e2, oo.p1, fun vb Hd ed hb => ?_⟩
  have e3 := e2.trans ed
  exact ⟨vo, va, vb, o, _, _, rfl, ho.mono e3, ha.mono ed, hb, oo, vp_least vp1, vp_least vp2, fun He ee => q He (e3.trans ee)⟩
theorem ok_is_ahead_in (D : Def K mg "is_ahead_in" sAheadIn nOOO) (B : Bl mg) (PI : Ok P w K mg base 1 "people_in" ["office", "plan"] spPeopleIn) : Ok P w K mg base 2 "is_ahead_in" nOOO (spBB aheadIn) := by
  refine Ok.mk' D scAheadIn (fun vs H Q E ⟨_, _, _, _, _, _, h, _⟩ => by rw [h]; rfl) fun f cdv A outer s H vs Q E hr ⟨vo, v1, v2, o, p1, p2, hv, ho, h1, h2, oo, vp1, vp2, q⟩ => ?_
  subst hv
  have hu64 := hr.units
  refine ⟨_, pss_cons (ps_par (i := 3) (j := 4) rfl scAheadIn.nd rfl rfl (by decide) rfl rfl (pa_cons (PI.call hr (by rfl) (pa_cons (pv 0) (pa_cons (pv 1) pa_nil))) (pa_cons (PI.call hr (by rfl) (pa_cons (pv 0) (pa_cons (pv 2) pa_nil))) pa_nil)) rfl)
    (pss_one (ps_ret (pe_and (pe_cmpR op_le (pe_callB call_len_seq (by rfl) B.len PySem.boot_len (pa_cons (pv 3) pa_nil)) (pe_callB call_len_seq (by rfl) B.len PySem.boot_len (pa_cons (pv 4) pa_nil)) (nomark _))
      (pe_one (pe_cmpR (op_eqD hu64) (pe_slice sl_tupA (pv 4) (po_some (pe_op op_sub (pe_callB call_len_seq (by rfl) B.len PySem.boot_len (pa_cons (pv 4) pa_nil)) (pe_callB call_len_seq (by rfl) B.len PySem.boot_len (pa_cons (pv 3) pa_nil)))) po_none) (pv 3) (nomark _)))))), ?_⟩
  refine ⟨vo, rfl, v1, rfl, vo, v1, o, p1, rfl, ho, h1, oo, vp1.len100 oo, fun va Ha ea ha => ?_⟩
  refine ⟨vo, rfl, v2, rfl, vo, v2, o, p2, rfl, ho.mono ea, h2.mono ea, oo, vp2.len100 oo, fun vb Hb eb hb => ?_⟩
  have e := ea.trans eb
  have haI := ha.mono eb
  have hbI := hb
  clear ha
  have ha := haI
  obtain ⟨a, rfl, ha⟩ := ha
  obtain ⟨b, rfl, hb⟩ := hb
  refine ⟨_, _, rfl, ?_⟩
  refine ⟨.ref a, rfl, a, _, rfl, .inr (SqT.of ha), .ref b, rfl, b, _, rfl, .inr (SqT.of hb), _, _, rfl, rfl, _, rfl, ?_⟩
  have z := q Hb e
  unfold aheadIn at z
  rw [List.length_map, List.length_map]
  have cast : decide (((peopleIn o p1).length : Int) ≤ ((peopleIn o p2).length : Int)) = decide ((peopleIn o p1).length ≤ (peopleIn o p2).length) := decide_eq_decide.mpr (by omega)
  rw [cast]
  refine ite2 (fun h => ?_) (fun h => ?_)
  · have hle : (peopleIn o p1).length ≤ (peopleIn o p2).length := of_decide_eq_true h
    rw [h, Bool.true_and] at z
    generalize hk : (peopleIn o p2).length - (peopleIn o p1).length = k at z
    have hkI : (((peopleIn o p2).length : Nat) : Int) - ((peopleIn o p1).length : Nat) = (k : Int) := by omega
    have hkl : k ≤ ((peopleIn o p2).map V.int).length := by
      rw [List.length_map]
      omega
    have hcut := cut_drop ((peopleIn o p2).map V.int) k hkl
    have hix : HT.sIx ((peopleIn o p2).map V.int).length 0 (some (k : Int)) = min k ((peopleIn o p2).map V.int).length := HT.sIx_nat _ 0 k
    refine ⟨.ref b, rfl, .ref b, rfl, b, _, rfl, .inr (SqT.of hb), .ref a, rfl, a, _, rfl, .inr (SqT.of ha), _, _, rfl, rfl, _, rfl, ?_⟩
    rw [List.length_map, List.length_map, hkI]
    have fin : ∀ H' v, Ex Hb H' → IsInts H' v ((peopleIn o p2).drop k) → ∃ d e, Dp K H' v d ∧ Dp K H' (.ref a) e ∧ SeqAt.shaped d = true ∧ SeqAt.shaped e = true ∧ Q (.bl (PyData.eqv d e)) H' := fun H' v e' hv => by
      refine ⟨_, _, hv.dp, (haI.mono e').dp, encI_shapedT _, encI_shapedT _, ?_⟩
      rw [encT_eqv]
      have z' := q H' (e.trans e')
      unfold aheadIn at z'
      rw [h, Bool.true_and, hk] at z'
      exact z'
    refine ⟨b, _, rfl, SqT.of hb, fun w => ⟨.ref a, rfl, ?_⟩, fun w d hd => ⟨.ref a, rfl, ?_⟩⟩
    · have w1 := w.1
      rw [hix, Nat.min_eq_left hkl] at w1
      refine fin Hb _ (Ex.refl _) ?_
      rw [w1, List.drop_zero]
      exact hbI
    · refine fin _ _ (Ex.new hd) ⟨d, rfl, ?_⟩
      rw [upd_same, hcut, List.map_drop]
  · have hf : decide ((peopleIn o p1).length ≤ (peopleIn o p2).length) = false := Bool.eq_false_iff.mpr h
    rw [hf, Bool.false_and] at z
    exact z
theorem ok_is_made_ahead (D : Def K mg "is_made_ahead" sMadeAhead nOOO) (N : Ok P w K mg base 4 "need_plan" ["office", "plan"] spNeedPlan) (NP : Ok P w K mg base 4 "need_pairs" ["office", "plan"] spNeedPairs)
    (L : Ok P w K mg base 4 "least_in" ["office", "plan"] spLeastIn) (B : Ok P w K mg base 4 "is_ahead_in" nOOO (spBB aheadIn)) :
    Ok P w K mg base 5 "is_made_ahead" nOOO (spBB fun o a b => aheadIn o (least o a) (least o b)) := by
  refine Ok.mk' D scMadeAhead (fun vs H Q E ⟨_, _, _, _, _, _, h, _⟩ => by rw [h]; rfl) fun f cdv A outer s H vs Q E hr ⟨vo, v1, v2, o, p1, p2, hv, ho, h1, h2, oo, vp1, vp2, q⟩ => ?_
  subst hv
  refine ⟨_, pss_cons (ps_expr (N.call hr (by rfl) (pa_cons (pv 0) (pa_cons (pv 1) pa_nil)))) (pss_cons (ps_expr (NP.call hr (by rfl) (pa_cons (pv 0) (pa_cons (pv 2) pa_nil))))
    (pss_one (ps_ret (B.call hr (by rfl) (pa_cons (pv 0) (pa_cons (L.call hr (by rfl) (pa_cons (pv 0) (pa_cons (pv 1) pa_nil))) (pa_cons (L.call hr (by rfl) (pa_cons (pv 0) (pa_cons (pv 2) pa_nil))) pa_nil))))))), ?_⟩
  refine ⟨vo, rfl, v1, rfl, vo, v1, o, p1, rfl, ho, h1, oo, vp1, fun Ha ea => ?_⟩
  refine ⟨vo, rfl, v2, rfl, vo, v2, o, p2, rfl, ho.mono ea, h2.mono ea, oo, vp2, fun Hb eb => ?_⟩
  have e := ea.trans eb
  refine ⟨vo, rfl, vo, rfl, v1, rfl, vo, v1, o, p1, rfl, ho.mono e, h1.mono e, oo.p1, fun va Hc ec ha => ?_⟩
  have e2 := e.trans ec
  refine ⟨vo, rfl, v2, rfl, vo, v2, o, p2, rfl, ho.mono e2, h2.mono e2, oo.p1, fun vb Hd ed hb => ?_⟩
  have e3 := e2.trans ed
  exact ⟨vo, va, vb, o, _, _, rfl, ho.mono e3, ha.mono ed, hb, oo, vp_least vp1, vp_least vp2, fun He ee => q He (e3.trans ee)⟩
theorem people_len {o : Off} {p : Plan} (oo : OffOk o) (h : VP o p) : (peopleIn o p).length < 64 := by
  have h7 := oo.p7
  have h1 := oo.p1
  have hl := h.len
  unfold peopleIn
  by_cases c : ((p.length : Nat) : Int) = o.1 - 1
  · rw [if_pos c, List.length_append, List.length_map]
    have z := List.length_filter_le (fun q => decide (q ∉ p.map Prod.fst)) (rng o.1)
    rw [rng_len] at z
    omega
  · rw [if_neg c, List.length_map]
    omega
theorem ok_same_behind (D : Def K mg "same_behind" sSameBehind nOOO) (BB : Bl mg) (N : Ok P w K mg base 4 "need_plan" ["office", "plan"] spNeedPlan) (NP : Ok P w K mg base 4 "need_pairs" ["office", "plan"] spNeedPairs)
    (L : Ok P w K mg base 4 "least_in" ["office", "plan"] spLeastIn) (PI : Ok P w K mg base 4 "people_in" ["office", "plan"] spPeopleIn) :
    Ok P w K mg base 5 "same_behind" nOOO (spBB fun o a b => sameBehind o (least o a) (least o b)) := by
  refine Ok.mk' D scSameBehind (fun vs H Q E ⟨_, _, _, _, _, _, h, _⟩ => by rw [h]; rfl) fun f cdv A outer s H vs Q E hr ⟨vo, v1, v2, o, p1, p2, hv, ho, h1, h2, oo, vp1, vp2, q⟩ => ?_
  subst hv
  have hu64 := hr.units
  refine ⟨_, pss_cons (ps_expr (N.call hr (by rfl) (pa_cons (pv 0) (pa_cons (pv 1) pa_nil)))) (pss_cons (ps_expr (NP.call hr (by rfl) (pa_cons (pv 0) (pa_cons (pv 2) pa_nil))))
    (pss_cons (ps_par (i := 3) (j := 4) rfl scSameBehind.nd rfl rfl (by decide) rfl rfl (pa_cons (L.call hr (by rfl) (pa_cons (pv 0) (pa_cons (pv 1) pa_nil))) (pa_cons (L.call hr (by rfl) (pa_cons (pv 0) (pa_cons (pv 2) pa_nil))) pa_nil)) rfl)
    (pss_one (ps_ret (pe_cmpR (op_eqD hu64) (pe_callB cr_sortedIT (by rfl) BB.sorted boot_sorted (pa_cons (PI.call hr (by rfl) (pa_cons (pv 0) (pa_cons (pv 3) pa_nil))) pa_nil)) (pe_callB cr_sortedIT (by rfl) BB.sorted boot_sorted (pa_cons (PI.call hr (by rfl) (pa_cons (pv 0) (pa_cons (pv 4) pa_nil))) pa_nil)) (nomark _)))))), ?_⟩
  refine ⟨vo, rfl, v1, rfl, vo, v1, o, p1, rfl, ho, h1, oo, vp1, fun Ha ea => ?_⟩
  refine ⟨vo, rfl, v2, rfl, vo, v2, o, p2, rfl, ho.mono ea, h2.mono ea, oo, vp2, fun Hb eb => ?_⟩
  have e := ea.trans eb
  refine ⟨vo, rfl, v1, rfl, vo, v1, o, p1, rfl, ho.mono e, h1.mono e, oo.p1, fun va Hc ec ha => ?_⟩
  have e2 := e.trans ec
  refine ⟨vo, rfl, v2, rfl, vo, v2, o, p2, rfl, ho.mono e2, h2.mono e2, oo.p1, fun vb Hd ed hb => ?_⟩
  have e3 := e2.trans ed
  refine ⟨_, _, rfl, ?_⟩
  refine ⟨vo, rfl, va, rfl, vo, va, o, _, rfl, ho.mono e3, ha.mono ed, oo, (vp_least vp1).len100 oo, fun vc He ee hc => ?_⟩
  obtain ⟨c, rfl, hc⟩ := hc
  refine ⟨c, _, rfl, SqT.of hc, people_len oo (vp_least vp1), fun ns1 t1 pm1 up1 hn1 => ?_⟩
  rw [isortI_of pm1 up1]
  have e4 : Ex Hd _ := ee.trans (Ex.new (o := .lst ((isortI (peopleIn o (least o p1))).map V.int)) hn1)
  refine ⟨vo, rfl, vb, rfl, vo, vb, o, _, rfl, ho.mono (e3.trans e4), hb.mono e4, oo, (vp_least vp2).len100 oo, fun vd Hf ef hd => ?_⟩
  obtain ⟨d, rfl, hd⟩ := hd
  refine ⟨d, _, rfl, SqT.of hd, people_len oo (vp_least vp2), fun ns2 t2 pm2 up2 hn2 => ?_⟩
  rw [isortI_of pm2 up2]
  have e5 : Ex Hf _ := Ex.new (o := .lst ((isortI (peopleIn o (least o p2))).map V.int)) hn2
  refine ⟨_, _, .lst (SqL.of (e5 _ _ (ef _ _ upd_same))) (ints_dp _), .lst (SqL.of upd_same) (ints_dp _), encI_shapedL _, encI_shapedL _, ?_⟩
  rw [encL_eqv]
  exact q _ (((e3.trans e4).trans ef).trans e5)
end
end CL
set_option Elab.async false
set_option linter.all false
set_option maxRecDepth 100000
set_option maxHeartbeats 4000000
/-! tables whose keys are plans -/
namespace CL
open PySem PySem.Spec PyProof.Rows L2 Evl
section
variable {α : Type}
abbrev encT (f : α → V) (t : List (Plan × α)) : List (Plan × V) := t.map fun kv => (kv.1, f kv.2)
theorem encT_val (f : α → V) (k : Plan) : ∀ t : List (Plan × α), valV (encT f t) k = (lookT t k).map f
  | [] => rfl
  | kv :: r => by
    have ih := encT_val f k r
    by_cases h : kv.1 = k
    · rw [encT, List.map_cons, valV_pos h]
      unfold lookT
      rw [List.find?_cons, decide_eq_true h]
      rfl
    · rw [encT, List.map_cons, valV_neg h]
      unfold lookT
      rw [List.find?_cons, decide_eq_false h]
      exact ih
theorem encT_put (f : α → V) (k : Plan) (v : α) (t : List (Plan × α)) : putK (encT f t) k (f v) = encT f (putT t k v) := by
  unfold putK putT
  have e : ((encT f t).any fun kv => decide (kv.1 = k)) = t.any fun kv => decide (kv.1 = k) := by
    rw [encT, List.any_map]
    rfl
  rw [e]
  by_cases h : (t.any fun kv => decide (kv.1 = k)) = true
  · rw [if_pos h, if_pos h, encT, encT, List.map_map, List.map_map]
    refine List.map_congr_left fun kv _ => ?_
    simp only [Function.comp]
    by_cases g : kv.1 = k
    · rw [if_pos g, if_pos g]
    · rw [if_neg g, if_neg g]
  · rw [if_neg h, if_neg h, encT, encT, List.map_append]
    rfl
theorem putT_len (t : List (Plan × α)) (k : Plan) (v : α) : (putT t k v).length ≤ t.length + 1 := by
  unfold putT
  by_cases h : (t.any fun kv => decide (kv.1 = k)) = true
  · rw [if_pos h, List.length_map]
    omega
  · rw [if_neg h, List.length_append]
    simp
theorem fold_len {β γ : Type} (g : List γ → β → List γ) (h : ∀ t p, (g t p).length ≤ t.length + 1) : ∀ (l : List β) (t : List γ), (l.foldl g t).length ≤ t.length + l.length
  | [], t => Nat.le_refl _
  | p :: r, t => by
    have h1 := h t p
    have h2 := fold_len g h r (g t p)
    rw [List.foldl_cons, List.length_cons]
    omega
end
theorem fold_take {β γ : Type} (g : γ → β → γ) {l : List β} {i : Nat} {p : β} (t : γ) (h : l[i]? = some p) : (l.take (i + 1)).foldl g t = g ((l.take i).foldl g t) p := by
  rw [take_snoc h, List.foldl_append]
  rfl
/-- over the keys of a dict of plans -/
theorem lc_keysN {P : Program} {w : World} {d : Addr} {o : Obj} {kvs : List (Plan × V)} {g : TG} {tt : TT} {te : TE} {vs : List Nat} {σ : L2.St} {H1 : Hp} {D : Addr} {Qd : Hp → Prop} (Pv : Nat → Hp → Prop) (h0 : Pv 0 (upd H1 D (.lst [])))
    (hl : ∀ i H, i ≤ kvs.length → Pv i H → H d = some (HObj d o) ∧ DN P w H d kvs)
    (hs : ∀ i k v x H, kvs[i]? = some (k, v) → Pv i H → IsPlan H x k → g x (wipe σ vs) H fun σ2 H2 => wipe σ2 vs = wipe σ vs ∧ tt σ2 H2 fun b H3 =>
      if b = true then te σ2 H3 fun y H4 => ∃ acc, H4 D = some (.lst acc) ∧ acc.length < sizeLine ∧ Pv (i + 1) (upd H4 D (.lst (acc ++ [y]))) else Pv (i + 1) H3) (hd : ∀ H, Pv kvs.length H → Qd H) :
    ∃ W : Nat → Nat → Hp → Prop, (∃ m, W 0 m (upd H1 D (.lst []))) ∧ ∀ i m H, W i m H →
      ((ItN P w d o kvs).stop i H ∧ Qd H) ∨ ((ItN P w d o kvs).go i H ∧ ∃ Nx : Hp → Prop, (∀ H', Nx H' → ∃ m', m' < m ∧ W (i + 1) m' H') ∧ ∀ x H', (ItN P w d o kvs).yld i H x H' → g x (wipe σ vs) H' fun σ2 H2 => wipe σ2 vs = wipe σ vs ∧ tt σ2 H2 fun b H3 =>
        if b = true then te σ2 H3 fun y H4 => ∃ acc, H4 D = some (.lst acc) ∧ acc.length < sizeLine ∧ Nx (upd H4 D (.lst (acc ++ [y]))) else Nx H3) := by
  refine ⟨fun i m H => m = kvs.length - i ∧ i ≤ kvs.length ∧ Pv i H, ⟨kvs.length, by simp, Nat.zero_le _, h0⟩, ?_⟩
  rintro i m H ⟨rfl, hi, p⟩
  obtain ⟨q1, q2⟩ := hl i H hi p
  by_cases hlt : i < kvs.length
  · refine .inr ⟨⟨q1, q2, hlt⟩, Pv (i + 1), fun H' p' => ⟨kvs.length - (i + 1), by omega, rfl, hlt, p'⟩, fun x H' y => ?_⟩
    obtain ⟨e, k, v, hk, hx⟩ := y
    subst e
    exact hs i k v x _ hk p hx
  · have e : i = kvs.length := by omega
    subst e
    exact .inl ⟨⟨q1, q2, Nat.le_refl _⟩, hd H p⟩
/-- two dicts of plans by the side -/
def Tabs {α : Type} (f : α → V) (P : Program) (w : World) (d : Nat → Addr) (H0 H : Hp) (tabs : Nat → List (Plan × α)) : Prop := d 0 ≠ d 1 ∧ H0 (d 0) = none ∧ H0 (d 1) = none ∧ ∀ s, s < 2 → DN P w H (d s) (encT f (tabs s))
theorem DN.nt {P : Program} {w : World} {H : Hp} {a : Addr} {kvs : List (Plan × V)} (d : DN P w H a kvs) : ∀ ys, H a ≠ some (.tup ys) := fun ys z => by
  obtain ⟨φ, e⟩ := d.ext
  rw [e] at z
  cases z
theorem DN.upd {P : Program} {w : World} {H : Hp} {a b : Addr} {o : HO} {kvs : List (Plan × V)} (d : DN P w H a kvs) (nt : ∀ xs, H b ≠ some (.tup xs)) (ne : a ≠ b) : DN P w (upd H b o) a kvs := d.keep (fun _ z => by rw [upd_ne ne]; exact z) (tups_upd nt)
/-- one of the two stored to -/
theorem Tabs.put {α : Type} {f : α → V} {P : Program} {w : World} {d : Nat → Addr} {H0 H : Hp} {tabs : Nat → List (Plan × α)} (T : Tabs f P w d H0 H tabs) {s : Nat} (hs : s < 2) {k : Plan} {v : α} {ob : Obj}
    (h : DN P w (L2.upd H (d s) (HObj (d s) ob)) (d s) (putK (encT f (tabs s)) k (f v))) : Tabs f P w d H0 (L2.upd H (d s) (HObj (d s) ob)) fun z => if z = s then putT (tabs z) k v else tabs z := by
  obtain ⟨h1, h2, h3, h4⟩ := T
  refine ⟨h1, h2, h3, fun z hz => ?_⟩
  dsimp only
  by_cases e : z = s
  · subst e
    rw [if_pos rfl, ← encT_put]
    exact h
  · rw [if_neg e]
    refine (h4 z hz).upd (h4 s hs).nt fun q => ?_
    have : (z = 0 ∧ s = 1) ∨ (z = 1 ∧ s = 0) := by omega
    rcases this with ⟨rfl, rfl⟩ | ⟨rfl, rfl⟩
    · exact h1 q
    · exact h1 q.symm
theorem Tabs.none {α : Type} {f : α → V} {P : Program} {w : World} {d : Nat → Addr} {H0 H : Hp} {tabs : Nat → List (Plan × α)} (T : Tabs f P w d H0 H tabs) {s : Nat} (hs : s < 2) : H0 (d s) = none := by
  have : s = 0 ∨ s = 1 := by omega
  rcases this with rfl | rfl
  · exact T.2.1
  · exact T.2.2.1
theorem Tabs.mono {α : Type} {f : α → V} {P : Program} {w : World} {d : Nat → Addr} {H0 H H' : Hp} {tabs : Nat → List (Plan × α)} (T : Tabs f P w d H0 H tabs) (e : Ex H H') : Tabs f P w d H0 H' tabs := ⟨T.1, T.2.1, T.2.2.1, fun s hs => (T.2.2.2 s hs).mono e⟩
abbrev two {β : Type} (a b : β) : Nat → β := fun s => if s = 0 then a else b
end CL
set_option Elab.async false
set_option linter.all false
set_option maxRecDepth 100000
set_option maxHeartbeats 4000000
/-! needs, cost_of, meet_behind, common_behind -/
namespace CL
open PySem PySem.Spec PyProof.Rows L2 Evl
theorem DN.nodup {P : Program} {w : World} {H : Hp} {a : Addr} {kvs : List (Plan × V)} (d : DN P w H a kvs) : (kvs.map (·.1)).Nodup := by
  obtain ⟨_, _, o, es, ep, xs, _, _, _, _, h7, h8⟩ := d
  have e : xs.map (·.1) = (kvs.map (·.1)).map pk := by
    have all : ∀ {l : List (Plan × V)} {m : XN}, KN H l m → m.map (·.1) = (l.map (·.1)).map pk := by
      intro l m z
      induction z with
      | nil => rfl
      | @cons p q ps qs h t ih =>
        rw [List.map_cons, List.map_cons, List.map_cons, ih, ← h.1]
    exact all h8
  rw [e] at h7
  exact List.Pairwise.imp (fun h g => h (by rw [g])) (List.pairwise_map.mp h7)
theorem valV_mem {κ : Type} [DecidableEq κ] {k : κ} {v : V} : ∀ {kvs : List (κ × V)}, (kvs.map (·.1)).Nodup → (k, v) ∈ kvs → valV kvs k = some v
  | [], _, h => nomatch h
  | p :: r, nd, h => by
    rw [List.map_cons] at nd
    obtain ⟨n1, n2⟩ := List.nodup_cons.mp nd
    rcases List.mem_cons.mp h with e | h
    · subst e
      exact valV_pos rfl
    · have ne : ¬ p.1 = k := fun z => n1 (by rw [z]; exact List.mem_map.mpr ⟨_, h, rfl⟩)
      rw [valV_neg ne]
      exact valV_mem n2 h
def CPsAt (H : Hp) (a : Addr) (cs : List (Int × Plan)) : Prop := ∃ vs, H a = some (.lst vs) ∧ Paired (IsCP H) vs cs
theorem cps_mono {H H' : Hp} (e : Ex H H') {vs : List V} {ps : List (Int × Plan)} (h : Paired (IsCP H) vs ps) : Paired (IsCP H') vs ps := Paired.mapP h fun _ _ z => z.mono e
theorem IsCP.upd {H : Hp} {a : Addr} {o : HO} (nt : ∀ xs, H a ≠ some (.tup xs)) {v : V} {c : Int × Plan} (h : IsCP H v c) : IsCP (upd H a o) v c := by
  obtain ⟨b, pv, rfl, q, r⟩ := h
  exact ⟨b, pv, rfl, tups_upd nt _ _ q, r.upd nt⟩
theorem cps_upd {H : Hp} {a : Addr} {o : HO} (nt : ∀ xs, H a ≠ some (.tup xs)) {vs : List V} {ps : List (Int × Plan)} (h : Paired (IsCP H) vs ps) : Paired (IsCP (upd H a o)) vs ps := Paired.mapP h fun _ _ z => z.upd nt
theorem cpsAt_put {H : Hp} {a : Addr} (nt : ∀ xs, H a ≠ some (.tup xs)) {vs : List V} {ps : List (Int × Plan)} (h : Paired (IsCP H) vs ps) : CPsAt (upd H a (.lst vs)) a ps := ⟨vs, upd_same, cps_upd nt h⟩
abbrev sNeeds : Stmt := topS 38
abbrev sCostOf : Stmt := topS 41
abbrev sMeet : Stmt := topS 42
abbrev sCommon : Stmt := topS 43
abbrev nNeeds : List Str := ["office", "plan", "person", "number"]
abbrev nMeet : List Str := ["office", "one", "other", "first", "second", "costs", "plan", "side", "base", "there", "both"]
abbrev nCommon : List Str := ["office", "one", "other", "found", "plan", "side", "base"]
theorem scNeeds : FnScope nNeeds ["office", "plan"] (defScope sNeeds) := ⟨rfl, rfl, rfl, by decide +kernel, rfl, by decide +kernel, by decide +kernel⟩
theorem scCostOf : FnScope ["office", "plan"] ["office", "plan"] (defScope sCostOf) := ⟨rfl, rfl, rfl, by decide +kernel, rfl, by decide +kernel, by decide +kernel⟩
theorem scMeet : FnScope nMeet nOOO (defScope sMeet) := ⟨rfl, rfl, rfl, by decide +kernel, rfl, by decide +kernel, by decide +kernel⟩
theorem scCommon : FnScope nCommon nOOO (defScope sCommon) := ⟨rfl, rfl, rfl, by decide +kernel, rfl, by decide +kernel, by decide +kernel⟩
abbrev needF (o : Off) (q : Pr) : Int := if 0 < q.2 then q.2 else o.2
theorem needs_snoc (o : Off) {l : Plan} {i : Nat} {q : Pr} (h : l[i]? = some q) : ((l.take (i + 1)).map (needF o)).map V.int = ((l.take i).map (needF o)).map V.int ++ [V.int (needF o q)] := by
  rw [take_snoc h, List.map_append, List.map_append]
  rfl
section
variable {P : Program} {w : World} {K : PySem.W.Frag} {mg : Str → Option Value} {base : Heap}
def spNeeds : Sp := fun vs H Q _ => ∃ vo vp o p, vs = [vo, vp] ∧ IsPr H vo o ∧ IsPlan H vp p ∧ p.length ≤ 100 ∧ ∀ a H', Ex H H' → H' a = some (.lst ((p.map (needF o)).map V.int)) → Q (.ref a) H'
theorem ok_needs (D : Def K mg "needs" sNeeds ["office", "plan"]) (B : Bl mg) : Ok P w K mg base 1 "needs" ["office", "plan"] spNeeds := by
  refine Ok.mk' D scNeeds (fun vs H Q E ⟨_, _, _, _, h, _⟩ => by rw [h]; rfl) fun f cdv A outer s H vs Q E hr ⟨vo, vp, o, p, hv, ho, hp, hlp, q⟩ => ?_
  subst hv
  obtain ⟨a, rfl, ha⟩ := ho
  obtain ⟨b, xs, rfl, hb, hx⟩ := hp
  have hlx := paired_len hx
  refine ⟨_, pss_one (ps_ret (pe_lc (own := [("person", 2), ("number", 3)]) (g := gPair K 2 3) (tt := tYes) (te := tIf (tTest (tOp (rI0 fun i j => .bl (decide (j < i))) (tVar 3) (tC (.int 0)))) (tVar 3) (tOp (rIxT K) (tVar 0) (tC (.int 1)))) rfl scNeeds.nd (pi_tup (pv 1))
      (blkOk_by (N := nNeeds) (sc := defScope sNeeds) (by decide +kernel))
      (fun _ _ _ _ _ => pg_tup rfl (pgs_cons (pg_name (i := 2) scNeeds.nd rfl (.inl rfl)) (pgs_cons (pg_name (i := 3) scNeeds.nd rfl (.inl rfl)) pgs_nil)))
      (fun _ _ _ _ _ => pts_nil) (fun _ _ _ _ _ => pe_ifExp (pt_cmpR op_gt (pv 3) pe_int (nomark _)) (pv 3) (pe_ix ix_tup (pv 0) pe_int (fun _ _ => rfl))))), ?_⟩
  refine ⟨.ref b, rfl, b, rfl, ⟨xs, SqT.of hb⟩, fun T hT => ?_⟩
  refine lc_tup (K := K) (xs := xs) (fun i H' => Ex H H' ∧ H' T = some (.lst (((p.take i).map (needF o)).map V.int))) ⟨Ex.new hT, upd_same⟩ (fun i H' _ ⟨e, _⟩ => SqT.of (e _ _ hb)) (fun i x H1 hix ⟨e, eT⟩ => ?_) (fun H1 ⟨e, eT⟩ => ?_)
  · obtain ⟨qq, hqq, hpr⟩ := paired_at hx hix
    obtain ⟨c, rfl, hcq⟩ := hpr
    refine ⟨c, _, rfl, SqT.of (e _ _ hcq), rfl, _, _, rfl, _, [], rfl, rfl, rfl, ?_⟩
    have fin : ∀ z, z = needF o qq → ∃ acc, H1 T = some (.lst acc) ∧ acc.length < sizeLine ∧ Ex H (upd H1 T (.lst (acc ++ [V.int z]))) ∧ (upd H1 T (.lst (acc ++ [V.int z]))) T = some (.lst (((p.take (i + 1)).map (needF o)).map V.int)) := fun z ez => by
      refine ⟨_, eT, ?_, e.mut hT, ?_⟩
      · rw [List.length_map, List.length_map, List.length_take]
        exact small1000 (by omega)
      · rw [upd_same, needs_snoc o hqq, ez]
    refine ⟨.int qq.2, rfl, _, _, rfl, rfl, _, rfl, ?_⟩
    refine ite2 (fun h => ?_) (fun h => ?_)
    · have h : 0 < qq.2 := of_decide_eq_true h
      exact ⟨.int qq.2, rfl, fin _ (if_pos h).symm⟩
    · have h : ¬ 0 < qq.2 := fun z => h (decide_eq_true z)
      exact ⟨.ref a, rfl, a, _, 1, .int o.2, rfl, rfl, SqT.of (e _ _ ha), rfl, fin _ (if_neg h).symm⟩
  · rw [hlx, List.take_length] at eT
    exact q T H1 e eT
def spCostOf : Sp := fun vs H Q _ => ∃ vo vp o p, vs = [vo, vp] ∧ IsPr H vo o ∧ IsPlan H vp p ∧ p.length ≤ 100 ∧ ∀ H', Ex H H' → Q (.int (cost o p)) H'
theorem ok_cost_of (D : Def K mg "cost_of" sCostOf ["office", "plan"]) (B : Bl mg) (N : Ok P w K mg base 1 "needs" ["office", "plan"] spNeeds) : Ok P w K mg base 2 "cost_of" ["office", "plan"] spCostOf := by
  refine Ok.mk' D scCostOf (fun vs H Q E ⟨_, _, _, _, h, _⟩ => by rw [h]; rfl) fun f cdv A outer s H vs Q E hr ⟨vo, vp, o, p, hv, ho, hp, hlp, q⟩ => ?_
  subst hv
  refine ⟨_, pss_one (ps_ret (pe_callB (cr_sum rfl) (by rfl) B.sum boot_sum (pa_cons (N.call hr (by rfl) (pa_cons (pv 0) (pa_cons (pv 1) pa_nil))) pa_nil))), ?_⟩
  exact ⟨vo, rfl, vp, rfl, vo, vp, o, p, rfl, ho, hp, hlp, fun a H' e ha => ⟨a, _, rfl, SqL.of ha, q H' e⟩⟩
end
end CL
set_option Elab.async false
set_option linter.all false
set_option maxRecDepth 100000
set_option maxHeartbeats 4000000
/-! meet_behind -/
namespace CL
open PySem PySem.Spec PyProof.Rows L2 Evl
theorem Tabs.congr {α : Type} {f : α → V} {P : Program} {w : World} {d : Nat → Addr} {H0 H : Hp} {t t' : Nat → List (Plan × α)} (T : Tabs f P w d H0 H t) (e0 : t 0 = t' 0) (e1 : t 1 = t' 1) : Tabs f P w d H0 H t' := by
  refine ⟨T.1, T.2.1, T.2.2.1, fun s hs => ?_⟩
  have z := T.2.2.2 s hs
  have : s = 0 ∨ s = 1 := by omega
  rcases this with rfl | rfl
  · rw [← e0]
    exact z
  · rw [← e1]
    exact z
theorem Tabs.upd {α : Type} {f : α → V} {P : Program} {w : World} {d : Nat → Addr} {H0 H : Hp} {t : Nat → List (Plan × α)} {b : Addr} {o : HO} (T : Tabs f P w d H0 H t) (nt : ∀ xs, H b ≠ some (.tup xs)) (ne : ∀ s, s < 2 → d s ≠ b) : Tabs f P w d H0 (upd H b o) t :=
  ⟨T.1, T.2.1, T.2.2.1, fun s hs => (T.2.2.2 s hs).upd nt (ne s hs)⟩
theorem DN.ne_lst {P : Program} {w : World} {H : Hp} {a b : Addr} {kvs : List (Plan × V)} {xs : List V} (d : DN P w H a kvs) (h : H b = some (.lst xs)) : b ≠ a := fun z => by
  obtain ⟨φ, e⟩ := d.ext
  rw [z, e] at h
  cases h
abbrev boths (t u : List (Plan × Int)) : Plan × Int → Option (Int × Plan) := fun kv => (lookT u kv.1).map fun c => (kv.2 + c, kv.1)
theorem filterMap_take {α β : Type} (g : α → Option β) {l : List α} {i : Nat} {x : α} (h : l[i]? = some x) : (l.take (i + 1)).filterMap g = (l.take i).filterMap g ++ (g x).toList := by
  rw [take_snoc h, List.filterMap_append]
  cases e : g x with
  | none => simp [e]
  | some y => simp [e]
theorem filterMap_take_len {α β : Type} (g : α → Option β) (l : List α) (j : Nat) : ((l.take j).filterMap g).length ≤ l.length := by
  have h1 := List.length_filterMap_le g (l.take j)
  have h2 : (l.take j).length ≤ l.length := by
    rw [List.length_take]
    exact Nat.min_le_right _ _
  omega
/-- both dicts after s sides of a turn -/
abbrev sided {α : Type} (g : Nat → List (Plan × α) → List (Plan × α)) (tabs : Nat → List (Plan × α)) (s : Nat) : Nat → List (Plan × α) := fun z => if z < s then g z (tabs z) else tabs z
theorem sided_step {α : Type} (g : Nat → List (Plan × α) → List (Plan × α)) (tabs : Nat → List (Plan × α)) (s : Nat) {k : Plan} {v : α} (h : putT (sided g tabs s s) k v = g s (tabs s)) :
    (fun z => if z = s then putT (sided g tabs s z) k v else sided g tabs s z) = sided g tabs (s + 1) := by
  funext z
  by_cases e : z = s
  · subst e
    rw [if_pos rfl, h]
    exact (if_pos (Nat.lt_succ_self _)).symm
  · rw [if_neg e]
    unfold sided
    by_cases g' : z < s
    · rw [if_pos g', if_pos (Nat.lt_succ_of_lt g')]
    · rw [if_neg g', if_neg (by omega)]
section
variable {P : Program} {w : World} {K : PySem.W.Frag} {mg : Str → Option Value} {base : Heap}
def MIn {α : Type} (f : α → V) (P : Program) (w : World) (C a : Addr) (d : Nat → Addr) (xs : List V) (ds : List Plan) (H0 : Hp) (tabs : Nat → List (Plan × α)) (H : Hp) : Prop :=
  Ex H0 H ∧ H C = some (.lst [.ref (d 0), .ref (d 1)]) ∧ Tabs f P w d H0 H tabs ∧ H a = some (.lst xs) ∧ Paired (IsPlan H) xs ds
theorem MIn.mono {α : Type} {f : α → V} {C a : Addr} {d : Nat → Addr} {xs : List V} {ds : List Plan} {H0 H H' : Hp} {tabs : Nat → List (Plan × α)} (m : MIn f P w C a d xs ds H0 tabs H) (e : Ex H H') : MIn f P w C a d xs ds H0 tabs H' :=
  ⟨m.1.trans e, e _ _ m.2.1, m.2.2.1.mono e, e _ _ m.2.2.2.1, plans_mono e m.2.2.2.2⟩
theorem MIn.put {α : Type} {f : α → V} {C a : Addr} {d : Nat → Addr} {xs : List V} {ds : List Plan} {H0 H : Hp} {tabs : Nat → List (Plan × α)} (m : MIn f P w C a d xs ds H0 tabs H) {s : Nat} (hs : s < 2) {k : Plan} {v : α} {ob : Obj}
    (h : DN P w (L2.upd H (d s) (HObj (d s) ob)) (d s) (putK (encT f (tabs s)) k (f v))) : MIn f P w C a d xs ds H0 (fun z => if z = s then putT (tabs z) k v else tabs z) (L2.upd H (d s) (HObj (d s) ob)) := by
  obtain ⟨e, hC, T, ha, hx⟩ := m
  have dn := T.2.2.2 s hs
  refine ⟨e.mut (T.none hs), ?_, T.put hs h, ?_, plans_upd dn.nt hx⟩
  · rw [upd_ne (dn.ne_lst hC)]
    exact hC
  · rw [upd_ne (dn.ne_lst ha)]
    exact ha
def MInv (vo v1 v2 va vb : V) (P : Program) (w : World) (C a : Addr) (d : Nat → Addr) (xs : List V) (ds : List Plan) (H0 : Hp) (tabs : Nat → List (Plan × Int)) (σ : L2.St) (H : Hp) : Prop :=
  ∃ y6 y7 y8 y9, σ = [some vo, some v1, some v2, some va, some vb, some (.ref C), y6, y7, y8, y9, none] ∧ MIn V.int P w C a d xs ds H0 tabs H
def NInv (vo v1 v2 va vb x : V) (P : Program) (w : World) (C a T : Addr) (d : Nat → Addr) (xs : List V) (ds : List Plan) (H0 : Hp) (tabs : Nat → List (Plan × Int)) (σ : L2.St) (H : Hp) : Prop :=
  ∃ y7 y8 y9, σ = [some vo, some v1, some v2, some va, some vb, some (.ref C), some x, y7, y8, y9, none] ∧ MIn V.int P w C a d xs ds H0 tabs H ∧ H T = some (.tup [va, vb])
def spMeet : Sp := fun vs H Q _ => ∃ vo v1 v2 o p1 p2, vs = [vo, v1, v2] ∧ IsPr H vo o ∧ IsPlan H v1 p1 ∧ IsPlan H v2 p2 ∧ o ∈ offs ∧ VP o p1 ∧ VP o p2 ∧ both (costs o (least o p1)) (costs o (least o p2)) ≠ [] ∧ ∀ v H', Ex H H' → IsCP H' v (meet o p1 p2) → Q v H'
theorem two_at {va vb z : V} {s : Nat} (h : [va, vb][s]? = some z) : s < 2 ∧ z = two va vb s := by
  match s, h with
  | 0, h => exact ⟨by omega, (Option.some.inj h).symm⟩
  | 1, h => exact ⟨by omega, (Option.some.inj h).symm⟩
theorem two_atI {u v : V} {s : Nat} (h : s < 2) : atI [u, v] (s : Int) = some (two u v s) := by
  have : s = 0 ∨ s = 1 := by omega
  rcases this with rfl | rfl <;> rfl
theorem two_refs {d : Nat → Addr} {s : Nat} (h : s < 2) : two (V.ref (d 0)) (V.ref (d 1)) s = V.ref (d s) := by
  have : s = 0 ∨ s = 1 := by omega
  rcases this with rfl | rfl <;> rfl
theorem two_plan {H : Hp} {va vb : V} {pa pb : Plan} (ha : IsPlan H va pa) (hb : IsPlan H vb pb) {s : Nat} (h : s < 2) : IsPlan H (two va vb s) (two pa pb s) := by
  have : s = 0 ∨ s = 1 := by omega
  rcases this with rfl | rfl
  · exact ha
  · exact hb
theorem two_vp {o : Off} {pa pb : Plan} (ha : VP o pa) (hb : VP o pb) {s : Nat} (h : s < 2) : VP o (two pa pb s) := by
  have : s = 0 ∨ s = 1 := by omega
  rcases this with rfl | rfl
  · exact ha
  · exact hb
theorem MIn.congr {α : Type} {f : α → V} {C a : Addr} {d : Nat → Addr} {xs : List V} {ds : List Plan} {H0 H : Hp} {t t' : Nat → List (Plan × α)} (m : MIn f P w C a d xs ds H0 t H) (e0 : t 0 = t' 0) (e1 : t 1 = t' 1) : MIn f P w C a d xs ds H0 t' H :=
  ⟨m.1, m.2.1, m.2.2.1.congr e0 e1, m.2.2.2⟩
theorem getD_enc (t : List (Plan × Int)) (k : Plan) : (valV (encT V.int t) k).getD (.int (10 ^ (6 : Int).toNat)) = .int ((lookT t k).getD 1000000) := by
  rw [encT_val]
  cases lookT t k <;> rfl
theorem encT_at {α : Type} {f : α → V} {t : List (Plan × α)} {i : Nat} {k : Plan} {v : V} (h : (encT f t)[i]? = some (k, v)) : ∃ c, t[i]? = some (k, c) ∧ v = f c := by
  rw [encT, List.getElem?_map] at h
  obtain ⟨kv, e1, e2⟩ := Option.map_eq_some_iff.mp h
  obtain ⟨k', c⟩ := kv
  cases e2
  exact ⟨c, e1, rfl⟩
theorem ne_none_of {H H' : Hp} (e : Ex H H') {a : Addr} (h : H' a = none) : H a = none := by
  cases z : H a with
  | none => rfl
  | some o =>
    rw [e _ _ z] at h
    cases h
theorem stepC_len (o : Off) (b : Plan) (t : List (Plan × Int)) (p : Plan) : (stepC o b t p).length ≤ t.length + 1 := putT_len _ _ _
theorem ok_meet_behind (D : Def K mg "meet_behind" sMeet nOOO) (B : Bl mg) (N : Ok P w K mg base 4 "need_plan" ["office", "plan"] spNeedPlan) (NP : Ok P w K mg base 4 "need_pairs" ["office", "plan"] spNeedPairs)
    (NF : Ok P w K mg base 4 "need_few" ["office"] spNeedFew) (L : Ok P w K mg base 4 "least_in" ["office", "plan"] spLeastIn) (J : Ok P w K mg base 4 "joined" ["office", "one", "other"] spJoined)
    (AD : Ok P w K mg base 4 "all_deeds" ["office"] spAllDeeds) (CO : Ok P w K mg base 4 "cost_of" ["office", "plan"] spCostOf) : Ok P w K mg base 5 "meet_behind" nOOO spMeet := by
  refine Ok.mk' D scMeet (fun vs H Q E ⟨_, _, _, _, _, _, h, _⟩ => by rw [h]; rfl) fun f cdv A outer s H vs Q E hr ⟨vo, v1, v2, o, p1, p2, hv, ho, h1, h2, hoo, vp1, vp2, hne, q⟩ => ?_
  subst hv
  have oo := offOk_of hoo
  obtain ⟨ld, l0, vd⟩ := offs_deeds o hoo
  have hu64 := hr.units
  have hun : RoomN (A.deeper (envOfC "meet_behind" (defScope sMeet) s.heap.objs.size f cdv)) := by
    have := hr.un
    show _ + 16 < cLine
    omega
  refine ⟨_, pss_cons (ps_expr (N.call hr (by rfl) (pa_cons (pv 0) (pa_cons (pv 1) pa_nil)))) (pss_cons (ps_expr (NP.call hr (by rfl) (pa_cons (pv 0) (pa_cons (pv 2) pa_nil)))) (pss_cons (ps_expr (NF.call hr (by rfl) (pa_cons (pv 0) pa_nil)))
    (pss_cons (ps_par (i := 3) (j := 4) rfl scMeet.nd rfl rfl (by decide) rfl rfl (pa_cons (L.call hr (by rfl) (pa_cons (pv 0) (pa_cons (pv 1) pa_nil))) (pa_cons (L.call hr (by rfl) (pa_cons (pv 0) (pa_cons (pv 2) pa_nil))) pa_nil)) rfl)
    (pss_cons (ps_set (i := 5) scMeet.nd rfl (.inr rfl) (pe_lst (pa_cons pe_dnewN (pa_cons pe_dnewN pa_nil))))
    (pss_cons (ps_for PassesOwn.never rfl (pi_list (AD.call hr (by rfl) (pa_cons (pv 0) pa_nil))) (pg_name (i := 6) scMeet.nd rfl (.inl rfl))
      (pss_one (ps_for PassesOwn.never rfl (pi_enumT (by rfl) B.enum (pa_cons (pe_tup (pa_cons (pv 3) (pa_cons (pv 4) pa_nil))) pa_nil))
        (pg_tup rfl (pgs_cons (pg_name (i := 7) scMeet.nd rfl (.inl rfl)) (pgs_cons (pg_name (i := 8) scMeet.nd rfl (.inl rfl)) pgs_nil)))
        (pss_cons (ps_set (i := 9) scMeet.nd rfl (.inl rfl) (L.call hr (by rfl) (pa_cons (pv 0) (pa_cons (J.call hr (by rfl) (pa_cons (pv 0) (pa_cons (pv 8) (pa_cons (pv 6) pa_nil)))) pa_nil))))
        (pss_one (ps_nput hun (pe_ix ix_list (pv 5) (pv 7) (fun _ _ => rfl)) (pv 9)
          (pe_callB (call_min2 rfl) (by rfl) B.min boot_min (pa_cons (CO.call hr (by rfl) (pa_cons (pv 0) (pa_cons (pv 6) pa_nil)))
            (pa_cons (pe_nget2 hun (pe_ix ix_list (pv 5) (pv 7) (fun _ _ => rfl)) (pv 9) (pe_op op_pow pe_int pe_int) ⟨rfl, rfl, rfl, rfl⟩) pa_nil))) rfl))))))
    (pss_cons (ps_setLc (i := 10) (own := [("plan", 6)]) (g := gName 6) (tt := tB (tNIn P w (tVar 6) (tOp (rIxL K) (tVar 5) (tC (.int 1)))))
        (te := tTup (tCons (tOp (rI0 fun i j => .int (i + j)) (tNGet P w (tOp (rIxL K) (tVar 5) (tC (.int 0))) (tVar 6)) (tNGet P w (tOp (rIxL K) (tVar 5) (tC (.int 1))) (tVar 6))) (tCons (tVar 6) tNil)))
        rfl scMeet.nd rfl rfl (sw_true rfl rfl rfl (by decide +kernel)) (pi_keysN (pe_ix ix_list (pv 5) pe_int (fun _ _ => rfl))) (blkOk_by (N := nMeet) (sc := defScope sMeet) (by decide +kernel))
        (fun _ _ _ _ _ => pg_name (i := 6) scMeet.nd rfl (.inl rfl)) (fun _ _ _ _ _ => pts_one (pt_cmp (pc_nin hun (pv 6) (pe_ix ix_list (pv 5) pe_int (fun _ _ => rfl)))))
        (fun _ _ _ _ _ => pe_tup (pa_cons (pe_op op_add (pe_nget hun (pe_ix ix_list (pv 5) pe_int (fun _ _ => rfl)) (pv 6) (fun _ _ => rfl)) (pe_nget hun (pe_ix ix_list (pv 5) pe_int (fun _ _ => rfl)) (pv 6) (fun _ _ => rfl))) (pa_cons (pv 6) pa_nil))))
    (pss_one (ps_ret (pe_callB (cr_minC rfl hu64) (by rfl) B.min boot_min (pa_cons (pv 10) pa_nil)))))))))), ?_⟩
  refine ⟨vo, rfl, v1, rfl, vo, v1, o, p1, rfl, ho, h1, oo, vp1, fun Ha ea => ?_⟩
  refine ⟨vo, rfl, v2, rfl, vo, v2, o, p2, rfl, ho.mono ea, h2.mono ea, oo, vp2, fun Hb eb => ?_⟩
  have e := ea.trans eb
  refine ⟨vo, rfl, vo, o, rfl, ho.mono e, hoo, ?_⟩
  refine ⟨vo, rfl, v1, rfl, vo, v1, o, p1, rfl, ho.mono e, h1.mono e, oo.p1, fun va Hc ec hva => ?_⟩
  have e2 := e.trans ec
  refine ⟨vo, rfl, v2, rfl, vo, v2, o, p2, rfl, ho.mono e2, h2.mono e2, oo.p1, fun vb H0 ed hvb => ?_⟩
  have e3 := e2.trans ed
  have hva := hva.mono ed
  have ho0 := ho.mono e3
  refine ⟨_, _, rfl, ?_⟩
  intro da ob0 hda dn0 db ob1 hdb dn1
  refine ⟨two_small, fun C hC => ?_⟩
  have x1 : Ex H0 (upd H0 da (HObj da ob0)) := Ex.new hda
  have x2 : Ex (upd H0 da (HObj da ob0)) (upd (upd H0 da (HObj da ob0)) db (HObj db ob1)) := Ex.new hdb
  have x3 : Ex (upd (upd H0 da (HObj da ob0)) db (HObj db ob1)) (upd (upd (upd H0 da (HObj da ob0)) db (HObj db ob1)) C (.lst [.ref da, .ref db])) := Ex.new hC
  have dab : da ≠ db := fun z => by
    rw [← z, upd_same] at hdb
    cases hdb
  have hdb0 : H0 db = none := ne_none_of x1 hdb
  have dn0' := (dn0.mono x2).mono x3
  have dn1' := dn1.mono x3
  have x13 := x1.trans (x2.trans x3)
  have hC3 : (upd (upd (upd H0 da (HObj da ob0)) db (HObj db ob1)) C (.lst [.ref da, .ref db])) C = some (.lst [.ref da, .ref db]) := upd_same
  generalize upd (upd (upd H0 da (HObj da ob0)) db (HObj db ob1)) C (.lst [.ref da, .ref db]) = H3 at x3 dn0' dn1' x13 hC3 ⊢
  obtain ⟨d, hd0, hd1⟩ : ∃ d : Nat → Addr, d 0 = da ∧ d 1 = db := ⟨two da db, rfl, rfl⟩
  subst hd0 hd1
  have T3 : Tabs V.int P w d H0 H3 (two [] []) := ⟨dab, hda, hdb0, fun s hs => by
    have : s = 0 ∨ s = 1 := by omega
    rcases this with rfl | rfl
    · exact dn0'
    · exact dn1'⟩
  refine ⟨vo, rfl, vo, o, rfl, ho0.mono x13, hoo, fun a H4 e4 hpd => ?_⟩
  obtain ⟨xs, ha, hx⟩ := hpd
  have hlx := paired_len hx
  refine ⟨a, rfl, ⟨xs, SqL.of ha⟩, ?_⟩
  refine for_list (K := K) (xs := xs) (fun i => MInv vo v1 v2 va vb P w C a d xs (deeds o) H0 (two (((deeds o).take i).foldl (stepC o (least o p1)) []) (((deeds o).take i).foldl (stepC o (least o p2)) [])))
    ⟨_, _, _, _, rfl, x13.trans e4, e4 _ _ hC3, T3.mono e4, ha, hx⟩ (fun i σ H' _ ⟨_, _, _, _, _, m⟩ => SqL.of m.2.2.2.1) (fun i x σ H1 hix ⟨y6, y7, y8, y9, es, m⟩ => ?_) (fun σ H1 ⟨y6, y7, y8, y9, es, m⟩ => ?_)
  · subst es
    obtain ⟨pl, hpl, hxp⟩ := paired_at m.2.2.2.2 hix
    have vpl := vp_of (vd pl (List.mem_of_getElem? hpl))
    have hla := fold_len (stepC o (least o p1)) (stepC_len o (least o p1)) ((deeds o).take i) []
    have hlb := fold_len (stepC o (least o p2)) (stepC_len o (least o p2)) ((deeds o).take i) []
    have htk : ((deeds o).take i).length ≤ 100 := by
      rw [List.length_take]
      omega
    have f1 := fold_take (stepC o (least o p1)) [] hpl
    have f2 := fold_take (stepC o (least o p2)) [] hpl
    generalize ((deeds o).take i).foldl (stepC o (least o p1)) [] = ta at m hla f1
    generalize ((deeds o).take i).foldl (stepC o (least o p2)) [] = tb at m hlb f2
    simp only [List.length_nil, Nat.zero_add] at hla hlb
    refine ⟨va, rfl, vb, rfl, two_small, fun T hT => ⟨T, [va, vb], rfl, SqT.of upd_same, ?_⟩⟩
    refine for_enumT (K := K) (xs := [va, vb]) (fun s => NInv vo v1 v2 va vb x P w C a T d xs (deeds o) H0 (sided (fun z t => stepC o (two (least o p1) (least o p2) z) t pl) (two ta tb) s))
      ⟨_, _, _, rfl, (m.mono (Ex.new hT)).congr rfl rfl, upd_same⟩ (fun s σ H' _ ⟨_, _, _, _, _, hT'⟩ => SqT.of hT') (fun s z σ H2 T2 hsz ⟨y7, y8, y9, es, m2, hT'⟩ hT2 => ?_) (fun σ H2 ⟨y7, y8, y9, es, m2, hT'⟩ => ?_)
    · subst es
      obtain ⟨hs, rfl⟩ := two_at hsz
      have e3' : Ex H2 (upd H2 T2 (.tup [.int (s : Nat), two va vb s])) := Ex.new hT2
      have m3 := m2.mono e3'
      have hT3 := e3' _ _ hT'
      refine ⟨T2, _, rfl, SqT.of upd_same, rfl, _, _, rfl, _, [], rfl, rfl, ?_⟩
      generalize upd H2 T2 (.tup [.int (s : Nat), two va vb s]) = H3' at e3' m3 hT3 ⊢
      obtain ⟨pl', hpl', hxp3⟩ := paired_at m3.2.2.2.2 hix
      have epl : pl' = pl := by
        rw [hpl] at hpl'
        exact (Option.some.inj hpl').symm
      subst epl
      have hbase : IsPlan H3' (two va vb s) (two (least o p1) (least o p2) s) := two_plan (hva.mono m3.1) (hvb.mono m3.1) hs
      have vbase : VP o (two (least o p1) (least o p2) s) := two_vp (vp_least vp1) (vp_least vp2) hs
      refine ⟨vo, rfl, vo, rfl, two va vb s, rfl, x, rfl, vo, _, x, o, _, _, rfl, ho0.mono m3.1, hbase, hxp3, by have := oo.c1; omega, vbase.nd, vbase.len100 oo, vpl.len100 oo, fun vj H4' e4' hj => ?_⟩
      have m4 := m3.mono e4'
      refine ⟨vo, vj, o, _, rfl, ho0.mono m4.1, hj, oo.p1, fun vt H5 e5 ht => ?_⟩
      have m5 := m4.mono e5
      have htI := ht
      obtain ⟨tb', txs, rfl, _, _⟩ := ht
      refine ⟨vo, rfl, x, rfl, vo, x, o, _, rfl, ho0.mono m5.1, (hxp3.mono e4').mono e5, vpl.len100 oo, fun H6 e6 => ?_⟩
      have m6 := m5.mono e6
      have htI := htI.mono e6
      have hT6 := e6 _ _ (e5 _ _ (e4' _ _ hT3))
      have dn := m6.2.2.1.2.2.2 s hs
      refine ⟨.ref C, rfl, .int s, rfl, C, _, s, _, rfl, rfl, SqL.of m6.2.1, two_atI hs, ⟨d s, _, two_refs hs, dn⟩, .ref tb', rfl, _, _, rfl, rfl, ⟨by decide, by decide, by decide⟩, d s, tb', _, _, two_refs hs, rfl, dn, htI, _, _, by rw [getD_enc], ?_⟩
      refine ⟨.ref C, rfl, .int s, rfl, C, _, s, _, rfl, rfl, SqL.of m6.2.1, two_atI hs, .ref tb', rfl, d s, tb', _, _, two_refs hs, rfl, dn, htI, ?_, fun ob hdn => ?_⟩
      · have ess : sided (fun z t => stepC o (two (least o p1) (least o p2) z) t pl') (two ta tb) s s = two ta tb s := if_neg (Nat.lt_irrefl s)
        rw [ess, List.length_map]
        have : s = 0 ∨ s = 1 := by omega
        rcases this with rfl | rfl
        · exact small1000 (show ta.length ≤ 1000 by omega)
        · exact small1000 (show tb.length ≤ 1000 by omega)
      · have m7 := m6.put hs hdn
        rw [sided_step] at m7
        · refine ⟨_, _, _, rfl, m7, ?_⟩
          rw [upd_ne fun z => dn.nt _ (by rw [← z]; exact hT6)]
          exact hT6
        · have ess : sided (fun z t => stepC o (two (least o p1) (least o p2) z) t pl') (two ta tb) s s = two ta tb s := if_neg (Nat.lt_irrefl s)
          rw [ess]
          rfl
    · subst es
      refine ⟨_, _, _, _, rfl, m2.congr ?_ ?_⟩
      · exact f1.symm
      · exact f2.symm
  · subst es
    rw [hlx, List.take_length] at m
    have m : MIn V.int P w C a d xs (deeds o) H0 (two (costs o (least o p1)) (costs o (least o p2))) H1 := m
    have dnA : DN P w H1 (d 0) (encT V.int (costs o (least o p1))) := m.2.2.1.2.2.2 0 (by omega)
    have dnB : DN P w H1 (d 1) (encT V.int (costs o (least o p2))) := m.2.2.1.2.2.2 1 (by omega)
    have lenA : (costs o (least o p1)).length ≤ 100 := by
      have z := fold_len (stepC o (least o p1)) (stepC_len o (least o p1)) (deeds o) []
      simp only [List.length_nil, Nat.zero_add] at z
      exact Nat.le_trans z ld
    have hC1 := m.2.1
    cases hbb : both (costs o (least o p1)) (costs o (least o p2)) with
    | nil => exact absurd hbb hne
    | cons c cs =>
    have hmeet : meet o p1 p2 = minP c cs := by
      unfold meet
      rw [hbb]
    have hb2 : (costs o (least o p1)).filterMap (boths (costs o (least o p1)) (costs o (least o p2))) = c :: cs := hbb
    generalize costs o (least o p1) = t0 at dnA lenA hb2
    generalize costs o (least o p2) = t1 at dnB hb2
    have nd0 := dnA.nodup
    refine ⟨.ref C, rfl, C, _, 0, .ref (d 0), rfl, rfl, SqL.of hC1, rfl, d 0, _, rfl, dnA, fun ob hob D hD => ?_⟩
    refine lc_keysN (fun i H' => Ex H1 H' ∧ CPsAt H' D ((t0.take i).filterMap (boths t0 t1))) ⟨Ex.new hD, cpsAt_put (nt_none hD) .nil⟩ (fun i H' _ ⟨e', _⟩ => ⟨e' _ _ hob, dnA.mono e'⟩) (fun i k v x H2 hkv ⟨e', pD⟩ hxk => ?_) (fun H2 ⟨e', pD⟩ => ?_)
    · obtain ⟨c0, hc0, rfl⟩ := encT_at hkv
      have hxI := hxk
      obtain ⟨xb, xvs, rfl, _, _⟩ := hxk
      have hC2 := e' _ _ hC1
      refine ⟨rfl, ?_⟩
      refine ⟨.ref xb, rfl, .ref C, rfl, C, _, 1, .ref (d 1), rfl, rfl, SqL.of hC2, rfl, d 1, xb, _, k, rfl, rfl, dnB.mono e', hxI, _, rfl, ?_⟩
      have hnx := filterMap_take (boths t0 t1) hc0
      rw [encT_val, Option.isSome_map]
      cases hk1 : lookT t1 k with
      | none =>
        have hb0 : boths t0 t1 (k, c0) = none := by
          unfold boths
          rw [hk1]
          rfl
        rw [hb0] at hnx
        refine iteF ⟨e', ?_⟩
        rw [hnx]
        simpa using pD
      | some c1 =>
        have hb0 : boths t0 t1 (k, c0) = some (c0 + c1, k) := by
          unfold boths
          rw [hk1]
          rfl
        rw [hb0] at hnx
        refine iteT ?_
        have v0 : valV (encT V.int t0) k = some (.int c0) := valV_mem nd0 (List.mem_of_getElem? hkv)
        have v1' : valV (encT V.int t1) k = some (.int c1) := by
          rw [encT_val, hk1]
          rfl
        refine ⟨.ref C, rfl, C, _, 0, .ref (d 0), rfl, rfl, SqL.of hC2, rfl, .ref xb, rfl, d 0, xb, _, k, .int c0, rfl, rfl, dnA.mono e', hxI, v0, ?_⟩
        refine ⟨.ref C, rfl, C, _, 1, .ref (d 1), rfl, rfl, SqL.of hC2, rfl, .ref xb, rfl, d 1, xb, _, k, .int c1, rfl, rfl, dnB.mono e', hxI, v1', ?_⟩
        refine ⟨_, _, rfl, rfl, .ref xb, rfl, two_small, fun p hp => ?_⟩
        obtain ⟨acc, hacc, hpa⟩ := pD
        have hla := paired_len hpa
        have ep : Ex H2 (upd H2 p (.tup [.int (c0 + c1), .ref xb])) := Ex.new hp
        refine ⟨acc, ep _ _ hacc, ?_, (e'.trans ep).mut hD, ?_⟩
        · have z := filterMap_take_len (boths t0 t1) t0 i
          rw [hla]
          exact small1000 (by omega)
        · rw [hnx]
          exact cpsAt_put (nt_lst (ep _ _ hacc)) (Paired.snoc (cps_mono ep hpa) ⟨p, .ref xb, rfl, upd_same, hxI.mono ep⟩)
    · have hall : t0.take (encT V.int t0).length = t0 := List.take_of_length_le (by rw [List.length_map]; exact Nat.le_refl _)
      rw [hall, hb2] at pD
      obtain ⟨acc, hacc, hpa⟩ := pD
      refine ⟨.ref D, rfl, D, acc, c, cs, rfl, SqL.of hacc, hpa, fun v hv => ?_⟩
      refine q v H2 (e3.trans (m.1.trans e')) ?_
      rw [hmeet]
      exact hv
end
end CL
set_option Elab.async false
set_option linter.all false
set_option maxRecDepth 100000
set_option maxHeartbeats 4000000
/-! common_behind -/
namespace CL
open PySem PySem.Spec PyProof.Rows L2 Evl
abbrev boolV : Bool → V := V.bl
abbrev commons (u : List (Plan × Bool)) : Plan × Bool → Option Plan := fun kv => if (lookT u kv.1).isSome = true then some kv.1 else none
theorem stepF_len (o : Off) (b : Plan) (t : List (Plan × Bool)) (p : Plan) : (stepF o b t p).length ≤ t.length + 1 := putT_len _ _ _
section
variable {P : Program} {w : World} {K : PySem.W.Frag} {mg : Str → Option Value} {base : Heap}
def CVInv (vo v1 v2 : V) (P : Program) (w : World) (C a : Addr) (d : Nat → Addr) (xs : List V) (ds : List Plan) (H0 : Hp) (tabs : Nat → List (Plan × Bool)) (σ : L2.St) (H : Hp) : Prop :=
  ∃ y4 y5 y6, σ = [some vo, some v1, some v2, some (.ref C), y4, y5, y6] ∧ MIn boolV P w C a d xs ds H0 tabs H
def CNInv (vo v1 v2 x : V) (P : Program) (w : World) (C a T : Addr) (d : Nat → Addr) (xs : List V) (ds : List Plan) (H0 : Hp) (tabs : Nat → List (Plan × Bool)) (σ : L2.St) (H : Hp) : Prop :=
  ∃ y5 y6, σ = [some vo, some v1, some v2, some (.ref C), some x, y5, y6] ∧ MIn boolV P w C a d xs ds H0 tabs H ∧ H T = some (.tup [v1, v2])
theorem ok_common_behind (D : Def K mg "common_behind" sCommon nOOO) (B : Bl mg) (N : Ok P w K mg base 4 "need_plan" ["office", "plan"] spNeedPlan) (NP : Ok P w K mg base 4 "need_pairs" ["office", "plan"] spNeedPairs)
    (NF : Ok P w K mg base 4 "need_few" ["office"] spNeedFew) (L : Ok P w K mg base 4 "least_in" ["office", "plan"] spLeastIn) (J : Ok P w K mg base 4 "joined" ["office", "one", "other"] spJoined)
    (AD : Ok P w K mg base 4 "all_deeds" ["office"] spAllDeeds) : Ok P w K mg base 5 "common_behind" nOOO (spGoes common) := by
  refine Ok.mk' D scCommon (fun vs H Q E ⟨_, _, _, _, _, _, h, _⟩ => by rw [h]; rfl) fun f cdv A outer s H vs Q E hr ⟨vo, v1, v2, o, p1, p2, hv, ho, h1, h2, hoo, vp1, vp2, q⟩ => ?_
  subst hv
  have oo := offOk_of hoo
  obtain ⟨ld, l0, vd⟩ := offs_deeds o hoo
  have hu64 := hr.units
  have hun : RoomN (A.deeper (envOfC "common_behind" (defScope sCommon) s.heap.objs.size f cdv)) := by
    have := hr.un
    show _ + 16 < cLine
    omega
  refine ⟨_, pss_cons (ps_expr (N.call hr (by rfl) (pa_cons (pv 0) (pa_cons (pv 1) pa_nil)))) (pss_cons (ps_expr (NP.call hr (by rfl) (pa_cons (pv 0) (pa_cons (pv 2) pa_nil)))) (pss_cons (ps_expr (NF.call hr (by rfl) (pa_cons (pv 0) pa_nil)))
    (pss_cons (ps_set (i := 3) scCommon.nd rfl (.inr rfl) (pe_lst (pa_cons pe_dnewN (pa_cons pe_dnewN pa_nil))))
    (pss_cons (ps_for PassesOwn.never rfl (pi_list (AD.call hr (by rfl) (pa_cons (pv 0) pa_nil))) (pg_name (i := 4) scCommon.nd rfl (.inl rfl))
      (pss_one (ps_for PassesOwn.never rfl (pi_enumT (by rfl) B.enum (pa_cons (pe_tup (pa_cons (pv 1) (pa_cons (pv 2) pa_nil))) pa_nil))
        (pg_tup rfl (pgs_cons (pg_name (i := 5) scCommon.nd rfl (.inl rfl)) (pgs_cons (pg_name (i := 6) scCommon.nd rfl (.inl rfl)) pgs_nil)))
        (pss_one (ps_nput hun (pe_ix ix_list (pv 3) (pv 5) (fun _ _ => rfl)) (L.call hr (by rfl) (pa_cons (pv 0) (pa_cons (J.call hr (by rfl) (pa_cons (pv 0) (pa_cons (pv 6) (pa_cons (pv 4) pa_nil)))) pa_nil))) pe_bl rfl)))))
    (pss_one (ps_ret (pe_callB (cr_sortPl hu64) (by rfl) B.sorted boot_sorted (pa_cons (pe_lc (own := [("plan", 4)]) (g := gName 4) (tt := tB (tNIn P w (tVar 4) (tOp (rIxL K) (tVar 3) (tC (.int 1))))) (te := tVar 4)
        rfl scCommon.nd (pi_keysN (pe_ix ix_list (pv 3) pe_int (fun _ _ => rfl))) (blkOk_by (N := nCommon) (sc := defScope sCommon) (by decide +kernel))
        (fun _ _ _ _ _ => pg_name (i := 4) scCommon.nd rfl (.inl rfl)) (fun _ _ _ _ _ => pts_one (pt_cmp (pc_nin hun (pv 4) (pe_ix ix_list (pv 3) pe_int (fun _ _ => rfl)))))
        (fun _ _ _ _ _ => pv 4)) pa_nil)))))))), ?_⟩
  refine ⟨vo, rfl, v1, rfl, vo, v1, o, p1, rfl, ho, h1, oo, vp1, fun Ha ea => ?_⟩
  refine ⟨vo, rfl, v2, rfl, vo, v2, o, p2, rfl, ho.mono ea, h2.mono ea, oo, vp2, fun H0 eb => ?_⟩
  have e3 := ea.trans eb
  have ho0 := ho.mono e3
  refine ⟨vo, rfl, vo, o, rfl, ho0, hoo, ?_⟩
  have hva := h1.mono e3
  have hvb := h2.mono e3
  intro da ob0 hda dn0 db ob1 hdb dn1
  refine ⟨two_small, fun C hC => ?_⟩
  have x1 : Ex H0 (upd H0 da (HObj da ob0)) := Ex.new hda
  have x2 : Ex (upd H0 da (HObj da ob0)) (upd (upd H0 da (HObj da ob0)) db (HObj db ob1)) := Ex.new hdb
  have x3 : Ex (upd (upd H0 da (HObj da ob0)) db (HObj db ob1)) (upd (upd (upd H0 da (HObj da ob0)) db (HObj db ob1)) C (.lst [.ref da, .ref db])) := Ex.new hC
  have dab : da ≠ db := fun z => by
    rw [← z, upd_same] at hdb
    cases hdb
  have hdb0 : H0 db = none := ne_none_of x1 hdb
  have dn0' := (dn0.mono x2).mono x3
  have dn1' := dn1.mono x3
  have x13 := x1.trans (x2.trans x3)
  have hC3 : (upd (upd (upd H0 da (HObj da ob0)) db (HObj db ob1)) C (.lst [.ref da, .ref db])) C = some (.lst [.ref da, .ref db]) := upd_same
  generalize upd (upd (upd H0 da (HObj da ob0)) db (HObj db ob1)) C (.lst [.ref da, .ref db]) = H3 at x3 dn0' dn1' x13 hC3 ⊢
  obtain ⟨d, hd0, hd1⟩ : ∃ d : Nat → Addr, d 0 = da ∧ d 1 = db := ⟨two da db, rfl, rfl⟩
  subst hd0 hd1
  have T3 : Tabs boolV P w d H0 H3 (two [] []) := ⟨dab, hda, hdb0, fun s hs => by
    have : s = 0 ∨ s = 1 := by omega
    rcases this with rfl | rfl
    · exact dn0'
    · exact dn1'⟩
  refine ⟨vo, rfl, vo, o, rfl, ho0.mono x13, hoo, fun a H4 e4 hpd => ?_⟩
  obtain ⟨xs, ha, hx⟩ := hpd
  have hlx := paired_len hx
  refine ⟨a, rfl, ⟨xs, SqL.of ha⟩, ?_⟩
  refine for_list (K := K) (xs := xs) (fun i => CVInv vo v1 v2 P w C a d xs (deeds o) H0 (two (((deeds o).take i).foldl (stepF o p1) []) (((deeds o).take i).foldl (stepF o p2) [])))
    ⟨_, _, _, rfl, x13.trans e4, e4 _ _ hC3, T3.mono e4, ha, hx⟩ (fun i σ H' _ ⟨_, _, _, _, m⟩ => SqL.of m.2.2.2.1) (fun i x σ H1 hix ⟨y4, y5, y6, es, m⟩ => ?_) (fun σ H1 ⟨y4, y5, y6, es, m⟩ => ?_)
  · subst es
    obtain ⟨pl, hpl, hxp⟩ := paired_at m.2.2.2.2 hix
    have vpl := vp_of (vd pl (List.mem_of_getElem? hpl))
    have hla := fold_len (stepF o p1) (stepF_len o p1) ((deeds o).take i) []
    have hlb := fold_len (stepF o p2) (stepF_len o p2) ((deeds o).take i) []
    have htk : ((deeds o).take i).length ≤ 100 := by
      rw [List.length_take]
      omega
    have f1 := fold_take (stepF o p1) [] hpl
    have f2 := fold_take (stepF o p2) [] hpl
    generalize ((deeds o).take i).foldl (stepF o p1) [] = ta at m hla f1
    generalize ((deeds o).take i).foldl (stepF o p2) [] = tb at m hlb f2
    simp only [List.length_nil, Nat.zero_add] at hla hlb
    refine ⟨v1, rfl, v2, rfl, two_small, fun T hT => ⟨T, [v1, v2], rfl, SqT.of upd_same, ?_⟩⟩
    refine for_enumT (K := K) (xs := [v1, v2]) (fun s => CNInv vo v1 v2 x P w C a T d xs (deeds o) H0 (sided (fun z t => stepF o (two p1 p2 z) t pl) (two ta tb) s))
      ⟨_, _, rfl, (m.mono (Ex.new hT)).congr rfl rfl, upd_same⟩ (fun s σ H' _ ⟨_, _, _, _, hT'⟩ => SqT.of hT') (fun s z σ H2 T2 hsz ⟨y5, y6, es, m2, hT'⟩ hT2 => ?_) (fun σ H2 ⟨y5, y6, es, m2, hT'⟩ => ?_)
    · subst es
      obtain ⟨hs, rfl⟩ := two_at hsz
      have e3' : Ex H2 (upd H2 T2 (.tup [.int (s : Nat), two v1 v2 s])) := Ex.new hT2
      have m3 := m2.mono e3'
      have hT3 := e3' _ _ hT'
      refine ⟨T2, _, rfl, SqT.of upd_same, rfl, _, _, rfl, _, [], rfl, rfl, ?_⟩
      generalize upd H2 T2 (.tup [.int (s : Nat), two v1 v2 s]) = H3' at e3' m3 hT3 ⊢
      have ess : sided (fun z t => stepF o (two p1 p2 z) t pl) (two ta tb) s s = two ta tb s := if_neg (Nat.lt_irrefl s)
      obtain ⟨pl', hpl', hxp3⟩ := paired_at m3.2.2.2.2 hix
      have epl : pl' = pl := by
        rw [hpl] at hpl'
        exact (Option.some.inj hpl').symm
      rw [epl] at hxp3
      have hbase : IsPlan H3' (two v1 v2 s) (two p1 p2 s) := two_plan (hva.mono m3.1) (hvb.mono m3.1) hs
      have vbase : VP o (two p1 p2 s) := two_vp vp1 vp2 hs
      refine ⟨.ref C, rfl, .int s, rfl, C, _, s, _, rfl, rfl, SqL.of m3.2.1, two_atI hs, ?_⟩
      refine ⟨vo, rfl, vo, rfl, two v1 v2 s, rfl, x, rfl, vo, _, x, o, _, _, rfl, ho0.mono m3.1, hbase, hxp3, by have := oo.c1; omega, vbase.nd, vbase.len100 oo, vpl.len100 oo, fun vj H4' e4' hj => ?_⟩
      have m4 := m3.mono e4'
      refine ⟨vo, vj, o, _, rfl, ho0.mono m4.1, hj, oo.p1, fun vt H5 e5 ht => ?_⟩
      have m5 := m4.mono e5
      have htI := ht
      obtain ⟨tb', txs, rfl, _, _⟩ := ht
      have hT6 := e5 _ _ (e4' _ _ hT3)
      have dn := m5.2.2.1.2.2.2 s hs
      refine ⟨d s, tb', _, _, two_refs hs, rfl, dn, htI, ?_, fun ob hdn => ?_⟩
      · rw [ess, List.length_map]
        have : s = 0 ∨ s = 1 := by omega
        rcases this with rfl | rfl
        · exact small1000 (show ta.length ≤ 1000 by omega)
        · exact small1000 (show tb.length ≤ 1000 by omega)
      · have m7 := m5.put (v := true) hs hdn
        rw [sided_step] at m7
        · refine ⟨_, _, rfl, m7, ?_⟩
          rw [upd_ne fun z => dn.nt _ (by rw [← z]; exact hT6)]
          exact hT6
        · rw [ess]
          rfl
    · subst es
      refine ⟨_, _, _, rfl, m2.congr ?_ ?_⟩
      · exact f1.symm
      · exact f2.symm
  · subst es
    rw [hlx, List.take_length] at m
    have m : MIn boolV P w C a d xs (deeds o) H0 (two (reach o p1) (reach o p2)) H1 := m
    have dnA : DN P w H1 (d 0) (encT boolV (reach o p1)) := m.2.2.1.2.2.2 0 (by omega)
    have dnB : DN P w H1 (d 1) (encT boolV (reach o p2)) := m.2.2.1.2.2.2 1 (by omega)
    have lenA : (reach o p1).length ≤ 100 := by
      have z := fold_len (stepF o p1) (stepF_len o p1) (deeds o) []
      simp only [List.length_nil, Nat.zero_add] at z
      exact Nat.le_trans z ld
    have hC1 := m.2.1
    have hcm : common o p1 p2 = isort ((reach o p1).filterMap (commons (reach o p2))) := rfl
    generalize reach o p1 = t0 at dnA lenA hcm
    generalize reach o p2 = t1 at dnB hcm
    refine ⟨.ref C, rfl, C, _, 0, .ref (d 0), rfl, rfl, SqL.of hC1, rfl, d 0, _, rfl, dnA, fun ob hob D hD => ?_⟩
    refine lc_keysN (fun i H' => Ex H1 H' ∧ PlansAt H' D ((t0.take i).filterMap (commons t1))) ⟨Ex.new hD, plansAt_put (nt_none hD) .nil⟩ (fun i H' _ ⟨e', _⟩ => ⟨e' _ _ hob, dnA.mono e'⟩) (fun i k v x H2 hkv ⟨e', pD⟩ hxk => ?_) (fun H2 ⟨e', pD⟩ => ?_)
    · obtain ⟨c0, hc0, rfl⟩ := encT_at hkv
      have hxI := hxk
      obtain ⟨xb, xvs, rfl, _, _⟩ := hxk
      have hC2 := e' _ _ hC1
      refine ⟨rfl, ?_⟩
      refine ⟨.ref xb, rfl, .ref C, rfl, C, _, 1, .ref (d 1), rfl, rfl, SqL.of hC2, rfl, d 1, xb, _, k, rfl, rfl, dnB.mono e', hxI, _, rfl, ?_⟩
      have hnx := filterMap_take (commons t1) hc0
      rw [encT_val, Option.isSome_map]
      cases hk1 : lookT t1 k with
      | none =>
        have hb0 : commons t1 (k, c0) = none := by
          unfold commons
          rw [hk1]
          rfl
        rw [hb0] at hnx
        refine iteF ⟨e', ?_⟩
        rw [hnx]
        simpa using pD
      | some c1 =>
        have hb0 : commons t1 (k, c0) = some k := by
          unfold commons
          rw [hk1]
          rfl
        rw [hb0] at hnx
        refine iteT ?_
        obtain ⟨acc, hacc, hpa⟩ := pD
        have hla := paired_len hpa
        refine ⟨.ref xb, rfl, acc, hacc, ?_, e'.mut hD, ?_⟩
        · have z := filterMap_take_len (commons t1) t0 i
          rw [hla]
          exact small1000 (by omega)
        · rw [hnx]
          exact plansAt_put (nt_lst hacc) (Paired.snoc hpa hxI)
    · have hall : t0.take (encT boolV t0).length = t0 := List.take_of_length_le (by rw [List.length_map]; exact Nat.le_refl _)
      rw [hall] at pD
      obtain ⟨acc, hacc, hpa⟩ := pD
      refine ⟨D, acc, _, rfl, SqL.of hacc, hpa, fun ys p hys hp => ?_⟩
      refine q p _ (e3.trans ((m.1.trans e').trans (Ex.new hp))) ⟨ys, upd_same, ?_⟩
      rw [hcm]
      exact plans_upd (nt_none hp) hys
end
end CL
set_option Elab.async false
set_option linter.all false
set_option maxRecDepth 100000
set_option maxHeartbeats 4000000
/-! the law's draws -/
namespace CL
open PySem PySem.Spec PyProof.Rows L2 Evl
/-- all but r stands -/
def ExB (r : Addr) (H H' : Hp) : Prop := ∀ b o, b ≠ r → H b = some o → H' b = some o
theorem ExB.refl (r : Addr) (H : Hp) : ExB r H H := fun _ _ _ h => h
theorem ExB.trans {r : Addr} {H H' H'' : Hp} (a : ExB r H H') (b : ExB r H' H'') : ExB r H H'' := fun c o n h => b c o n (a c o n h)
theorem ex_b {r : Addr} {H H' : Hp} (a : Ex H H') : ExB r H H' := fun c o _ h => a c o h
theorem ExB.upd {r : Addr} {H : Hp} {o : HO} : ExB r H (upd H r o) := fun c u n h => by
  rw [upd_ne n]
  exact h
/-- the row of a draw: script, place, seed, rest -/
def RowOk (H : Hp) (r s : Addr) : Prop := ∃ p z n : Int, H r = some (.lst [.ref s, .int p, .int z, .int n]) ∧ 0 ≤ p ∧ 0 ≤ z ∧ z < 2147483647
theorem RowOk.mono {H H' : Hp} (e : Ex H H') {r s : Addr} (h : RowOk H r s) : RowOk H' r s := by
  obtain ⟨p, z, n, h1, h2⟩ := h
  exact ⟨p, z, n, e _ _ h1, h2⟩
theorem ExB.tups {r s : Addr} {H H' : Hp} (e : ExB r H H') (h : RowOk H r s) : ∀ b xs, H b = some (.tup xs) → H' b = some (.tup xs) := fun b xs q => e b _ (fun z => by
  obtain ⟨_, _, _, h1, _⟩ := h
  rw [z, h1] at q
  cases q) q
theorem IsPr.rows {r s : Addr} {H H' : Hp} (e : ExB r H H') (h : RowOk H r s) {v : V} {q : Pr} (x : IsPr H v q) : IsPr H' v q := x.tups (e.tups h)
theorem IsPlan.rows {r s : Addr} {H H' : Hp} (e : ExB r H H') (h : RowOk H r s) {v : V} {q : Plan} (x : IsPlan H v q) : IsPlan H' v q := x.tups (e.tups h)
theorem ExB.ex0 {r : Addr} {H0 H H' : Hp} (e : Ex H0 H) (h : H0 r = none) (b : ExB r H H') : Ex H0 H' := fun c o q => b c o (fun z => by
  rw [z, h] at q
  cases q) (e c o q)
abbrev sTaken : Stmt := topS 45
abbrev sPick : Stmt := topS 46
abbrev sLawLeast : Stmt := topS 47
abbrev sDraw : Stmt := topS 48
abbrev nTaken : List Str := ["_law_row", "_law_many", "_law_found", "_law_cell"]
abbrev nDraw : List Str := ["_law_row", "_law_office", "_law_left", "_law_found", "_law_turn"]
theorem scTaken : FnScope nTaken ["_law_row", "_law_many"] (defScope sTaken) := ⟨rfl, rfl, rfl, by decide +kernel, rfl, by decide +kernel, by decide +kernel⟩
theorem scPick : FnScope ["_law_row", "_law_things"] ["_law_row", "_law_things"] (defScope sPick) := ⟨rfl, rfl, rfl, by decide +kernel, rfl, by decide +kernel, by decide +kernel⟩
theorem scLawLeast : FnScope ["_law_office", "_law_plan"] ["_law_office", "_law_plan"] (defScope sLawLeast) := ⟨rfl, rfl, rfl, by decide +kernel, rfl, by decide +kernel, by decide +kernel⟩
theorem scDraw : FnScope nDraw ["_law_row", "_law_office"] (defScope sDraw) := ⟨rfl, rfl, rfl, by decide +kernel, rfl, by decide +kernel, by decide +kernel⟩
section
variable {P : Program} {w : World} {K : PySem.W.Frag} {mg : Str → Option Value} {base : Heap}
def spTaken (K : PySem.W.Frag) : Sp := fun vs H Q _ => ∃ (r s : Addr) (ns : List Int) (many : Int) (H0 : Hp), vs = [.ref r, .int many] ∧ Ex H0 H ∧ H0 r = none ∧ SqL K H0 s (ns.map V.int) ∧ RowOk H r s ∧ 0 < many ∧ many < 1000 ∧
  ∀ v H', ExB r H H' → RowOk H' r s → 0 ≤ v → v < many → Q (.int v) H'
theorem ok_taken (D : Def K mg "_law_taken" sTaken ["_law_row", "_law_many"]) (B : Bl mg) : Ok P w K mg base 1 "_law_taken" ["_law_row", "_law_many"] (spTaken K) := by
  refine Ok.mk' D scTaken (fun vs H Q E ⟨_, _, _, _, _, h, _⟩ => by rw [h]; rfl) fun f cdv A outer s0 H vs Q E hr ⟨r, s, ns, many, H0, hv, e0, h0, hs, hrow, m0, m1, q⟩ => ?_
  subst hv
  refine ⟨_, pss_cons (ps_if (pt_cmpR op_gt (pe_ix ix_list (pv 0) pe_int (fun _ _ => rfl)) pe_int (nomark _))
      (pss_cons (ps_set (i := 2) scTaken.nd rfl (.inl rfl) (pe_op op_mod (pe_callTy call_int1 (by rfl) B.int PySem.Pv.boot_int (pa_cons (pe_ix ix_list (pv 0) pe_int (fun _ _ => rfl)) pa_nil)) (pv 1)))
      (pss_cons (ps_asg (pe_op op_fdiv (pe_ix ix_list (pv 0) pe_int (fun _ _ => rfl)) (pv 1)) (pg_sub (pv 0) pe_int set_list))
      (pss_one (ps_ret (pv 2))))) pss_nil)
    (pss_cons (ps_asg (pe_op op_add (pe_ix ix_list (pv 0) pe_int (fun _ _ => rfl)) pe_int) (pg_sub (pv 0) pe_int set_list))
    (pss_cons (ps_if (pt_cmpR op_gt (pe_ix ix_list (pv 0) pe_int (fun _ _ => rfl)) (pe_callB call_len_seq (by rfl) B.len PySem.boot_len (pa_cons (pe_ix ix_list (pv 0) pe_int (fun _ _ => rfl)) pa_nil)) (nomark _))
      (pss_cons (ps_asg (pe_op op_mod (pe_callTy call_int1 (by rfl) B.int PySem.Pv.boot_int (pa_cons (pe_op op_add (pe_op op_mul (pe_ix ix_list (pv 0) pe_int (fun _ _ => rfl)) pe_int) pe_int) pa_nil)) pe_int) (pg_sub (pv 0) pe_int set_list))
      (pss_one (ps_ret (pe_op op_mod (pe_callTy call_int1 (by rfl) B.int PySem.Pv.boot_int (pa_cons (pe_op op_fdiv (pe_ix ix_list (pv 0) pe_int (fun _ _ => rfl)) pe_int) pa_nil)) (pv 1))))) pss_nil)
    (pss_cons (ps_set (i := 3) scTaken.nd rfl (.inl rfl) (pe_ix ix_list (pe_ix ix_list (pv 0) pe_int (fun _ _ => rfl)) (pe_op op_sub (pe_ix ix_list (pv 0) pe_int (fun _ _ => rfl)) pe_int) (fun _ _ => rfl)))
    (pss_cons (ps_asg (pe_op op_mod (pe_callTy call_int1 (by rfl) B.int PySem.Pv.boot_int (pa_cons (pe_op op_add (pe_op op_add (pe_op op_mul (pe_ix ix_list (pv 0) pe_int (fun _ _ => rfl)) pe_int) (pv 3)) pe_int) pa_nil)) pe_int) (pg_sub (pv 0) pe_int set_list))
    (pss_cons (ps_if (pt_cmpR op_ge (pv 3) (pe_op op_pow pe_int pe_int) (nomark _))
      (pss_one (ps_asg (pe_op op_fdiv (pv 3) (pv 1)) (pg_sub (pv 0) pe_int set_list))) pss_nil)
    (pss_one (ps_ret (pe_op op_mod (pe_callTy call_int1 (by rfl) B.int PySem.Pv.boot_int (pa_cons (pv 3) pa_nil)) (pv 1))))))))), ?_⟩
  obtain ⟨p, z, n, hR, p0, z0, z1⟩ := hrow
  have md : ∀ x : Int, 0 ≤ x % many ∧ x % many < many := fun x => ⟨Int.emod_nonneg _ (by omega), Int.emod_lt_of_pos _ m0⟩
  have mz : ∀ x : Int, 0 ≤ x % 2147483647 ∧ x % 2147483647 < 2147483647 := fun x => ⟨Int.emod_nonneg _ (by decide), Int.emod_lt_of_pos _ (by decide)⟩
  refine ⟨.ref r, rfl, r, _, 3, .int n, rfl, rfl, SqL.of hR, rfl, _, _, rfl, rfl, _, rfl, ite2 (fun _ => ?_) (fun _ => ?_)⟩
  · refine ⟨.ref r, rfl, r, _, 3, .int n, rfl, rfl, SqL.of hR, rfl, .inl ⟨n, rfl, .int many, rfl, _, _, rfl, rfl, m0, ?_⟩⟩
    refine ⟨.ref r, rfl, r, _, 3, .int n, rfl, rfl, SqL.of hR, rfl, .int many, rfl, _, _, rfl, rfl, ⟨m0, by omega⟩, .ref r, rfl, r, _, 3, 3, rfl, rfl, hR, rfl, ?_⟩
    exact ⟨.int (n % many), rfl, q _ _ ExB.upd ⟨p, z, n / many, upd_same, p0, z0, z1⟩ (md n).1 (md n).2⟩
  · refine ⟨.ref r, rfl, r, _, 1, .int p, rfl, rfl, SqL.of hR, rfl, _, _, rfl, rfl, .ref r, rfl, r, _, 1, 1, rfl, rfl, hR, rfl, ?_⟩
    have b1 : ExB r H (upd H r (.lst (([.ref s, .int p, .int z, .int n] : List V).set 1 (.int (p + 1))))) := ExB.upd
    have hR1 : (upd H r (.lst (([.ref s, .int p, .int z, .int n] : List V).set 1 (.int (p + 1))))) r = some (.lst [.ref s, .int (p + 1), .int z, .int n]) := upd_same
    generalize (upd H r (.lst (([.ref s, .int p, .int z, .int n] : List V).set 1 (.int (p + 1))))) = H1 at b1 hR1 ⊢
    have hs1 : SqL K H1 s (ns.map V.int) := Same.seq (ExB.ex0 e0 h0 b1) hs
    refine ⟨.ref r, rfl, r, _, 1, .int (p + 1), rfl, rfl, SqL.of hR1, rfl, .ref r, rfl, r, _, 0, .ref s, rfl, rfl, SqL.of hR1, rfl, s, _, rfl, .inl hs1, _, _, rfl, rfl, _, rfl, ite2 (fun _ => ?_) (fun hle => ?_)⟩
    · refine ⟨.ref r, rfl, r, _, 2, .int z, rfl, rfl, SqL.of hR1, rfl, _, _, rfl, rfl, .inl ⟨by omega, by omega⟩, _, _, rfl, rfl, .inl ⟨_, rfl, _, _, rfl, rfl, (show (0 : Int) < 2147483647 by decide), .ref r, rfl, r, _, 2, 2, rfl, rfl, hR1, rfl, ?_⟩⟩
      have hz := mz (z * 48271 + 11)
      refine ⟨.ref r, rfl, r, _, 2, .int ((z * 48271 + 11) % 2147483647), rfl, rfl, SqL.of upd_same, rfl, _, _, rfl, rfl, ⟨by decide, by decide⟩, .inl ⟨_, rfl, .int many, rfl, _, _, rfl, rfl, m0, ?_⟩⟩
      exact q _ _ (b1.trans ExB.upd) ⟨p + 1, _, n, upd_same, by omega, hz.1, hz.2⟩ (md _).1 (md _).2
    · have hle : ¬ ((ns.map V.int).length : Int) < p + 1 := fun zz => hle (decide_eq_true zz)
      rw [List.length_map] at hle
      have hpn : ((p.toNat : Nat) : Int) = p := Int.toNat_of_nonneg p0
      have hcell : atI (ns.map V.int) (p + 1 - 1) = some (V.int (cellOf ns p.toNat)) := by
        have e : p + 1 - 1 = ((p.toNat : Nat) : Int) := by omega
        rw [e]
        exact atI_cell (by omega)
      generalize cellOf ns p.toNat = c at hcell
      refine ⟨.ref r, rfl, r, _, 0, .ref s, rfl, rfl, SqL.of hR1, rfl, .ref r, rfl, r, _, 1, .int (p + 1), rfl, rfl, SqL.of hR1, rfl, _, _, rfl, rfl, s, _, _, _, rfl, rfl, hs1, hcell, ?_⟩
      refine ⟨.ref r, rfl, r, _, 2, .int z, rfl, rfl, SqL.of hR1, rfl, _, _, rfl, rfl, .inl ⟨by omega, by omega⟩, .int c, rfl, _, _, rfl, rfl, _, _, rfl, rfl, .inl ⟨_, rfl, _, _, rfl, rfl, (show (0 : Int) < 2147483647 by decide), .ref r, rfl, r, _, 2, 2, rfl, rfl, hR1, rfl, ?_⟩⟩
      have hz := mz (z * 48271 + c + 11)
      refine ⟨.int c, rfl, _, _, rfl, rfl, ⟨by decide, by decide, by decide⟩, _, _, rfl, rfl, _, rfl, ite2 (fun _ => ?_) (fun _ => ?_)⟩
      · refine ⟨.int c, rfl, .int many, rfl, _, _, rfl, rfl, ⟨m0, by omega⟩, .ref r, rfl, r, _, 3, 3, rfl, rfl, upd_same, rfl, ?_⟩
        refine ⟨.int c, rfl, .inl ⟨c, rfl, .int many, rfl, _, _, rfl, rfl, m0, ?_⟩⟩
        exact q _ _ ((b1.trans ExB.upd).trans ExB.upd) ⟨p + 1, (z * 48271 + c + 11) % 2147483647, c / many, upd_same, by omega, hz.1, hz.2⟩ (md _).1 (md _).2
      · refine ⟨.int c, rfl, .inl ⟨c, rfl, .int many, rfl, _, _, rfl, rfl, m0, ?_⟩⟩
        exact q _ _ (b1.trans ExB.upd) ⟨p + 1, (z * 48271 + c + 11) % 2147483647, n, upd_same, by omega, hz.1, hz.2⟩ (md _).1 (md _).2
/-! ### _law_least -/
theorem ok_law_least (D : Def K mg "_law_least" sLawLeast ["_law_office", "_law_plan"]) (B : Bl mg) : Ok P w K mg base 1 "_law_least" ["_law_office", "_law_plan"] spLeastIn := by
  refine Ok.mk' D scLawLeast (fun vs H Q E ⟨_, _, _, _, h, _⟩ => by rw [h]; rfl) fun f cdv A outer s H vs Q E hr ⟨vo, vp, o, p, hv, ho, hp, h1, q⟩ => ?_
  subst hv
  obtain ⟨a, rfl, ha⟩ := ho
  have hp0 := hp
  obtain ⟨b, xs, rfl, hb, hx⟩ := hp0
  have hl := paired_len hx
  refine ⟨_, pss_one (ps_ret (pe_ifExp (PW.pt (pw_and (pt_cmpR op_eq (pe_callB call_len_seq (by rfl) B.len PySem.boot_len (pa_cons (pv 1) pa_nil)) (pe_ix ix_tup (pv 0) pe_int (fun _ _ => rfl)) (nomark _))
      (pw_and1 (pt_cmpR op_eq (pe_ix ix_tup (pe_ix ix_tup (pv 1) pe_int (fun _ _ => rfl)) pe_int (fun _ _ => rfl)) pe_int (nomark _)))))
      (pe_slice sl_tup (pv 1) (po_some pe_int) po_none) (pv 1))), ?_⟩
  refine ⟨.ref b, rfl, b, xs, rfl, .inr (SqT.of hb), .ref a, rfl, a, _, 0, .int o.1, rfl, rfl, SqT.of ha, rfl, rfl, _, rfl, iteB decV_int ?_⟩
  have fin : least o p = p → Q (.ref b) H := fun e => q _ _ (Ex.refl H) (by rw [e]; exact hp)
  refine ite2 (fun h => ?_) (fun h => iteF ?_)
  · have h : ((xs.length : Nat) : Int) = o.1 := of_decide_eq_true h
    cases hx with
    | nil =>
      simp only [List.length_nil] at h
      omega
    | @cons x qq xr pr hq ht =>
      obtain ⟨c, rfl, hc⟩ := hq
      refine ⟨.ref b, rfl, b, _, 0, .ref c, rfl, rfl, SqT.of hb, atI_nat (j := 0) rfl, c, _, 1, .int qq.2, rfl, rfl, SqT.of hc, rfl, rfl, _, rfl, ?_⟩
      rw [decV_int]
      have hl' : (((qq :: pr).length : Nat) : Int) = o.1 := by rw [← hl]; exact h
      refine ite2 (fun g => ?_) (fun g => ?_)
      · have g : qq.2 = 0 := of_decide_eq_true g
        refine ⟨.ref b, rfl, 1, rfl, b, _, rfl, SqT.of hb, fun z => ?_, fun d hd => ?_⟩
        · have e : HT.sIx ((V.ref c) :: xr).length 0 (some 1) = min 1 ((V.ref c) :: xr).length := HT.sIx_nat _ 0 1
          have z1 := z.1
          rw [e, List.length_cons] at z1
          omega
        · have e : least o (qq :: pr) = pr := by
            rw [least_cons, if_pos ⟨hl', g⟩]
          refine q _ _ (Ex.new hd) ?_
          rw [e, cutT _ (by simp)]
          exact ⟨d, xr, rfl, upd_same, prs_mono (Ex.new hd) ht⟩
      · have g : ¬ qq.2 = 0 := fun z => g (decide_eq_true z)
        refine ⟨.ref b, rfl, fin ?_⟩
        rw [least_cons, if_neg fun z => g z.2]
  · have h : ¬ ((xs.length : Nat) : Int) = o.1 := fun z => h (decide_eq_true z)
    refine ⟨.ref b, rfl, fin ?_⟩
    cases p with
    | nil => rfl
    | cons qq pr =>
      rw [least_cons, if_neg fun z => h (by rw [hl]; exact z.1)]
/-! ### _law_pick, of offices -/
def spPick (K : PySem.W.Frag) : Sp := fun vs H Q _ => ∃ (r s t : Addr) (ns : List Int) (xs : List V) (os : List Pr) (H0 : Hp), vs = [.ref r, .ref t] ∧ Ex H0 H ∧ H0 r = none ∧ SqL K H0 s (ns.map V.int) ∧ RowOk H r s ∧ t ≠ r ∧ H t = some (.lst xs) ∧ Paired (IsPr H) xs os ∧ 0 < os.length ∧ os.length < 1000 ∧
  ∀ v o H', ExB r H H' → RowOk H' r s → o ∈ os → IsPr H' v o → Q v H'
theorem ok_pick (D : Def K mg "_law_pick" sPick ["_law_row", "_law_things"]) (B : Bl mg) (T : Ok P w K mg base 1 "_law_taken" ["_law_row", "_law_many"] (spTaken K)) : Ok P w K mg base 2 "_law_pick" ["_law_row", "_law_things"] (spPick K) := by
  refine Ok.mk' D scPick (fun vs H Q E ⟨_, _, _, _, _, _, _, h, _⟩ => by rw [h]; rfl) fun f cdv A outer s0 H vs Q E hr ⟨r, s, t, ns, xs, os, H0, hv, e0, h0, hs, hrow, tr, ht, hx, l0, l1, q⟩ => ?_
  subst hv
  have hl := paired_len hx
  refine ⟨_, pss_one (ps_ret (pe_ix ix_list (pv 1) (T.call hr (by rfl) (pa_cons (pv 0) (pa_cons (pe_callB call_len_seq (by rfl) B.len PySem.boot_len (pa_cons (pv 1) pa_nil)) pa_nil))) (fun _ _ => rfl))), ?_⟩
  refine ⟨.ref t, rfl, .ref r, rfl, .ref t, rfl, t, _, rfl, .inl (SqL.of ht), r, s, ns, _, H0, rfl, e0, h0, hs, hrow, by omega, by omega, fun v H' eb hrow' v0 v1 => ?_⟩
  have hvn : ((v.toNat : Nat) : Int) = v := Int.toNat_of_nonneg v0
  have hlt : v.toNat < xs.length := by omega
  have hx' : Paired (IsPr H') xs os := Paired.mapP hx fun _ _ z => z.rows eb hrow
  obtain ⟨o, ho, hpo⟩ := paired_at hx' (List.getElem?_eq_getElem hlt)
  refine ⟨t, xs, v, xs[v.toNat], rfl, rfl, SqL.of (eb _ _ tr ht), ?_, q _ o H' eb hrow' (List.mem_of_getElem? ho) hpo⟩
  have z := atI_nat (List.getElem?_eq_getElem hlt)
  rw [hvn] at z
  exact z
end
end CL
set_option Elab.async false
set_option linter.all false
set_option maxRecDepth 100000
set_option maxHeartbeats 4000000
/-! a plan drawn -/
namespace CL
open PySem PySem.Spec PyProof.Rows L2 Evl
theorem erase_map {α β : Type} (f : α → β) : ∀ (l : List α) (k : Nat), (l.map f).eraseIdx k = (l.eraseIdx k).map f
  | [], _ => rfl
  | _ :: _, 0 => rfl
  | x :: r, k + 1 => by
    rw [List.map_cons, List.eraseIdx_cons_succ, List.eraseIdx_cons_succ, erase_map f r k, List.map_cons]
theorem erase_perm {α : Type} : ∀ (l : List α) (k : Nat) (h : k < l.length), (l[k] :: l.eraseIdx k).Perm l
  | x :: r, 0, _ => List.Perm.refl _
  | x :: r, k + 1, h => by
    have ih := erase_perm r k (by simpa using h)
    rw [List.eraseIdx_cons_succ, List.getElem_cons_succ]
    exact (List.Perm.swap _ _ _).trans (ih.cons x)
theorem mem_rng {m n : Int} : n ∈ rng m ↔ 0 ≤ n ∧ n < m := by
  unfold rng
  rw [List.mem_map]
  constructor
  · rintro ⟨i, hi, rfl⟩
    have := List.mem_range.mp hi
    omega
  · rintro ⟨h0, h1⟩
    exact ⟨n.toNat, List.mem_range.mpr (by omega), by omega⟩
theorem rng_nodup (m : Int) : (rng m).Nodup := by
  unfold rng
  refine List.Pairwise.map _ (fun a b h => ?_) List.nodup_range
  intro z
  exact h (by omega)
theorem rgV_rng (m : Int) : rgV 0 m = (rng m).map V.int := by
  unfold rgV rng
  rw [List.map_map, Int.sub_zero]
  refine List.map_congr_left fun i _ => ?_
  show V.int (0 + (i : Int)) = V.int (i : Int)
  rw [Int.zero_add]
theorem rounds_step {o : Off} {i : Nat} {pl : Plan} {x n : Int} (h : pl ∈ (rounds o i).2) (hx : x ∈ rng o.1) (hn : x ∉ pl.map Prod.fst) (hv : n ∈ rng o.2) : pl ++ [(x, n)] ∈ (rounds o (i + 1)).2 := by
  show pl ++ [(x, n)] ∈ (rounds o i).2.flatMap (longer o)
  refine List.mem_flatMap.mpr ⟨pl, h, ?_⟩
  unfold longer
  refine List.mem_flatMap.mpr ⟨x, hx, ?_⟩
  unfold more
  rw [if_neg hn]
  exact List.mem_map.mpr ⟨n, hv, rfl⟩
theorem rounds_last {o : Off} : ∀ {i : Nat} {p : Plan}, p ∈ (rounds o i).2 → p ∈ (rounds o i).1
  | 0, _, h => h
  | i + 1, p, h => List.mem_append.mpr (.inr h)
theorem rounds_le {o : Off} {i : Nat} {p : Plan} (h : p ∈ (rounds o i).1) : ∀ d : Nat, p ∈ (rounds o (i + d)).1
  | 0 => h
  | d + 1 => List.mem_append.mpr (.inl (rounds_le h d))
/-- what a draw has met so far -/
structure Drawn (o : Off) (i : Nat) (L : List Int) (pl : Plan) : Prop where
  mem : pl ∈ (rounds o i).2
  perm : (L ++ pl.map Prod.fst).Perm (rng o.1)
  len : pl.length = i
theorem Drawn.left {o : Off} {i : Nat} {L : List Int} {pl : Plan} (h : Drawn o i L pl) : L.length + i = o.1.toNat := by
  have z := h.perm.length_eq
  rw [List.length_append, List.length_map, h.len, rng_len] at z
  exact z
theorem Drawn.step {o : Off} {i k : Nat} {L : List Int} {pl : Plan} {n : Int} (h : Drawn o i L pl) (hk : k < L.length) (hn : n ∈ rng o.2) : Drawn o (i + 1) (L.eraseIdx k) (pl ++ [(L[k], n)]) := by
  have nd : (L ++ pl.map Prod.fst).Nodup := h.perm.nodup_iff.mpr (rng_nodup _)
  have hx : L[k] ∈ L := List.getElem_mem hk
  have hno : L[k] ∉ pl.map Prod.fst := fun m => by
    have := (List.nodup_append.mp nd).2.2 _ hx _ m
    exact this rfl
  have hin : L[k] ∈ rng o.1 := h.perm.mem_iff.mp (List.mem_append.mpr (.inl hx))
  refine ⟨rounds_step h.mem hin hno hn, ?_, by rw [List.length_append, h.len]; rfl⟩
  rw [List.map_append]
  refine List.Perm.trans ?_ h.perm
  show (L.eraseIdx k ++ (pl.map Prod.fst ++ [L[k]])).Perm (L ++ pl.map Prod.fst)
  rw [← List.append_assoc]
  refine (List.perm_append_comm).trans ?_
  show ((L[k] :: L.eraseIdx k) ++ pl.map Prod.fst).Perm _
  exact (erase_perm _ _ hk).append_right _
section
variable {P : Program} {w : World} {K : PySem.W.Frag} {mg : Str → Option Value} {base : Heap}
def spDraw (K : PySem.W.Frag) : Sp := fun vs H Q _ => ∃ (r s : Addr) (vo : V) (ns : List Int) (o : Off) (H0 : Hp), vs = [.ref r, vo] ∧ Ex H0 H ∧ H0 r = none ∧ SqL K H0 s (ns.map V.int) ∧ RowOk H r s ∧ IsPr H vo o ∧ o ∈ offs ∧
  ∀ v p H', ExB r H H' → RowOk H' r s → p ∈ found o → IsPlan H' v p → Q v H'
def DInv (r s Lr Fr : Addr) (vo : V) (o : Off) (H : Hp) (i : Nat) (σ : L2.St) (H' : Hp) : Prop :=
  ∃ y L pl vs, σ = [some (.ref r), some vo, some (.ref Lr), some (.ref Fr), y] ∧ ExB r H H' ∧ RowOk H' r s ∧ Drawn o i L pl ∧ H' Lr = some (.lst (L.map V.int)) ∧ H' Fr = some (.lst vs) ∧ Paired (IsPr H') vs pl
theorem ok_draw (D : Def K mg "_law_draw_plan" sDraw ["_law_row", "_law_office"]) (B : Bl mg) (T : Ok P w K mg base 1 "_law_taken" ["_law_row", "_law_many"] (spTaken K)) : Ok P w K mg base 2 "_law_draw_plan" ["_law_row", "_law_office"] (spDraw K) := by
  refine Ok.mk' D scDraw (fun vs H Q E ⟨_, _, _, _, _, _, h, _⟩ => by rw [h]; rfl) fun f cdv A outer s0 H vs Q E hr ⟨r, s, vo, ns, o, H0, hv, e0, h0, hs, hrow, ho, hoo, q⟩ => ?_
  subst hv
  obtain ⟨a, rfl, ha⟩ := ho
  obtain ⟨p1, p3, c1, c4, ep, _⟩ := offs_ok o hoo
  refine ⟨_, pss_cons (ps_par (i := 2) (j := 3) rfl scDraw.nd rfl rfl (by decide) rfl rfl (pa_cons (pe_listRg rfl (by rfl) B.list (prg_1 (by rfl) B.range (pe_ix ix_tup (pv 1) pe_int (fun _ _ => rfl)))) (pa_cons (pe_lst pa_nil) pa_nil)) rfl)
    (pss_cons (ps_for PassesOwn.never rfl (pi_range1 (by rfl) B.range (pa_cons (T.call hr (by rfl) (pa_cons (pv 0) (pa_cons (pe_op op_add (pe_ix ix_tup (pv 1) pe_int (fun _ _ => rfl)) pe_int) pa_nil))) pa_nil)) (pg_name (i := 4) scDraw.nd rfl (.inl rfl))
      (pss_one (ps_expr (pe_bm PySem.F.plainAttrs_list PySem.F.slot_list_append PySem.F.type_list_append mt_append (pv 3)
        (pa_cons (pe_tup (pa_cons (pe_bm PySem.F.plainAttrs_list PySem.F.slot_list_pop PySem.F.type_list_pop mt_popAt (pv 2) (pa_cons (T.call hr (by rfl) (pa_cons (pv 0) (pa_cons (pe_callB call_len_seq (by rfl) B.len PySem.boot_len (pa_cons (pv 2) pa_nil)) pa_nil))) pa_nil))
          (pa_cons (T.call hr (by rfl) (pa_cons (pv 0) (pa_cons (pe_ix ix_tup (pv 1) pe_int (fun _ _ => rfl)) pa_nil))) pa_nil))) pa_nil)))))
    (pss_one (ps_ret (pe_tupleOf (by rfl) B.tuple (pv 3))))), ?_⟩
  refine ⟨.ref a, rfl, a, _, 0, .int o.1, rfl, rfl, SqT.of ha, rfl, o.1, rfl, RgOk.of_le (by omega) (by omega) (by omega) (by omega), fun Lr hLr => ?_⟩
  rw [rgV_rng]
  refine ⟨Nat.zero_le _, fun Fr hFr => ⟨_, _, rfl, ?_⟩⟩
  have x1 : Ex H (upd H Lr (.lst ((rng o.1).map V.int))) := Ex.new hLr
  have x2 : Ex (upd H Lr (.lst ((rng o.1).map V.int))) (upd (upd H Lr (.lst ((rng o.1).map V.int))) Fr (.lst [])) := Ex.new hFr
  have hL1 : (upd (upd H Lr (.lst ((rng o.1).map V.int))) Fr (.lst [])) Lr = some (.lst ((rng o.1).map V.int)) := x2 _ _ upd_same
  have hF1 : (upd (upd H Lr (.lst ((rng o.1).map V.int))) Fr (.lst [])) Fr = some (.lst []) := upd_same
  have LF : Lr ≠ Fr := fun z => by
    rw [← z, upd_same] at hFr
    cases hFr
  have hF0 : H Fr = none := ne_none_of x1 hFr
  have x12 := x1.trans x2
  generalize (upd (upd H Lr (.lst ((rng o.1).map V.int))) Fr (.lst [])) = H1 at x12 hL1 hF1 ⊢
  have Lnr : Lr ≠ r := fun z => by
    obtain ⟨_, _, _, h1, _⟩ := hrow
    rw [z, h1] at hLr
    cases hLr
  have Fnr : Fr ≠ r := fun z => by
    obtain ⟨_, _, _, h1, _⟩ := hrow
    rw [z, h1] at hF0
    cases hF0
  have ar : a ≠ r := fun z => by
    obtain ⟨_, _, _, h1, _⟩ := hrow
    rw [z, h1] at ha
    cases ha
  refine ⟨.ref r, rfl, .ref a, rfl, a, _, 0, .int o.1, rfl, rfl, SqT.of (x12 _ _ ha), rfl, _, _, rfl, rfl, r, s, ns, _, H0, rfl, e0.trans x12, h0, hs, hrow.mono x12, by omega, by omega, fun m H2 b2 row2 m0 m1 => ⟨m, rfl, by omega, by omega, ?_⟩⟩
  refine for_range (lo := 0) (n := m.toNat) (fun i => DInv r s Lr Fr (.ref a) o H i)
    ⟨none, rng o.1, [], [], rfl, (ex_b x12).trans b2, row2, ⟨List.mem_singleton.mpr rfl, by rw [List.map_nil, List.append_nil], rfl⟩, b2 _ _ Lnr hL1, b2 _ _ Fnr hF1, .nil⟩
    (fun i σ H3 hi ⟨y, L, pl, vs, es, b3, row3, dr, hL3, hF3, hp3⟩ => ?_) (fun σ H3 ⟨y, L, pl, vs, es, b3, row3, dr, hL3, hF3, hp3⟩ => ?_)
  · subst es
    have hleft := dr.left
    have hlen := paired_len hp3
    have hpl := dr.len
    refine ⟨.ref Fr, rfl, .inl ⟨rfl, _, SqL.of hF3⟩, .ref Lr, rfl, .inl ⟨rfl, _, SqL.of hL3⟩, .ref r, rfl, .ref Lr, rfl, Lr, _, rfl, .inl (SqL.of hL3), r, s, ns, _, H0, rfl, ExB.ex0 e0 h0 b3, h0, hs, row3, ?_, ?_, fun v H4 b4 row4 v0 v1 => ?_⟩
    · rw [List.length_map]
      omega
    · rw [List.length_map]
      omega
    rw [List.length_map] at v1
    have hvn : ((v.toNat : Nat) : Int) = v := Int.toNat_of_nonneg v0
    have hk : v.toNat < L.length := by omega
    have hL4 := b4 _ _ Lnr hL3
    have hF4 := b4 _ _ Fnr hF3
    have hp4 : Paired (IsPr H4) vs pl := Paired.mapP hp3 fun _ _ z => z.rows b4 row3
    have hat : (L.map V.int)[v.toNat]? = some (.int L[v.toNat]) := by
      rw [List.getElem?_map, List.getElem?_eq_getElem hk]
      rfl
    refine ⟨Lr, L.map V.int, v, v.toNat, .int L[v.toNat], rfl, rfl, hL4, by omega, by omega, PySem.seqIndex_of v0 (by rw [List.length_map]; omega), hat, ?_⟩
    have her : (L.map V.int).eraseIdx v.toNat = (L.eraseIdx v.toNat).map V.int := erase_map _ _ _
    rw [her]
    have hL5 : (upd H4 Lr (.lst ((L.eraseIdx v.toNat).map V.int))) Lr = some (.lst ((L.eraseIdx v.toNat).map V.int)) := upd_same
    have hF5 : (upd H4 Lr (.lst ((L.eraseIdx v.toNat).map V.int))) Fr = some (.lst vs) := by
      rw [upd_ne LF.symm]
      exact hF4
    have hp5 : Paired (IsPr (upd H4 Lr (.lst ((L.eraseIdx v.toNat).map V.int)))) vs pl := Paired.mapP hp4 fun _ _ z => z.upd (nt_lst hL4)
    have row5 : RowOk (upd H4 Lr (.lst ((L.eraseIdx v.toNat).map V.int))) r s := by
      obtain ⟨p', z', n', h1, h2⟩ := row4
      exact ⟨p', z', n', by rw [upd_ne Lnr.symm]; exact h1, h2⟩
    have b5 : ExB r H (upd H4 Lr (.lst ((L.eraseIdx v.toNat).map V.int))) := fun c u hc hu => by
      rw [upd_ne fun z => by rw [z, hLr] at hu; cases hu]
      exact b4 _ _ hc (b3 _ _ hc hu)
    generalize (upd H4 Lr (.lst ((L.eraseIdx v.toNat).map V.int))) = H5 at hL5 hF5 hp5 row5 b5 ⊢
    have ha5 := b5 _ _ ar ha
    refine ⟨.ref r, rfl, .ref a, rfl, a, _, 1, .int o.2, rfl, rfl, SqT.of ha5, rfl, r, s, ns, _, H0, rfl, ExB.ex0 e0 h0 b5, h0, hs, row5, by omega, by omega, fun n H6 b6 row6 n0 n1 => ?_⟩
    have hL6 := b6 _ _ Lnr hL5
    have hF6 := b6 _ _ Fnr hF5
    have hp6 : Paired (IsPr H6) vs pl := Paired.mapP hp5 fun _ _ z => z.rows b6 row5
    refine ⟨two_small, fun u hu => ?_⟩
    have e7 : Ex H6 (upd H6 u (.tup [.int L[v.toNat], .int n])) := Ex.new hu
    have hu7 : (upd H6 u (.tup [.int L[v.toNat], .int n])) u = some (.tup [.int L[v.toNat], .int n]) := upd_same
    generalize (upd H6 u (.tup [.int L[v.toNat], .int n])) = H7 at e7 hu7 ⊢
    refine ⟨Fr, vs, .ref u, rfl, rfl, e7 _ _ hF6, ?_, ?_⟩
    · rw [hlen, hpl]
      exact small1000 (by omega)
    have dr2 := dr.step (n := n) hk (mem_rng.mpr ⟨n0, n1⟩)
    have Fr7 := e7 _ _ hF6
    refine ⟨some (.int (0 + (i : Nat))), _, _, _, rfl, ?_, ?_, dr2, ?_, upd_same, ?_⟩
    · intro c w' hc hu'
      rw [upd_ne fun z => by rw [z, hF0] at hu'; cases hu']
      exact e7 _ _ (b6 _ _ hc (b5 _ _ hc hu'))
    · obtain ⟨p', z', n', h1, h2⟩ := row6
      exact ⟨p', z', n', by rw [upd_ne Fnr.symm]; exact e7 _ _ h1, h2⟩
    · rw [upd_ne LF]
      exact e7 _ _ hL6
    · exact Paired.snoc (Paired.mapP (prs_mono e7 hp6) fun _ _ z => z.upd (nt_lst Fr7)) ⟨u, rfl, by rw [upd_ne (ne_of hu7 Fr7 (by intro z; cases z))]; exact hu7⟩
  · subst es
    refine ⟨.ref Fr, rfl, .inl ⟨Fr, vs, rfl, SqL.of hF3, fun t ht => ?_⟩⟩
    have e4 : Ex H3 (upd H3 t (.tup vs)) := Ex.new ht
    refine q (.ref t) pl _ (b3.trans (ex_b e4)) (row3.mono e4) ?_ ⟨t, vs, rfl, upd_same, prs_mono e4 hp3⟩
    have z := rounds_le (rounds_last dr.mem) (o.1.toNat - m.toNat)
    have e : m.toNat + (o.1.toNat - m.toNat) = o.1.toNat := by omega
    rw [e] at z
    exact z
end
end CL
set_option Elab.async false
set_option linter.all false
set_option maxRecDepth 100000
set_option maxHeartbeats 4000000
/-! the law -/
namespace CL
open PySem PySem.Spec PyProof.Rows L2 Evl
abbrev sLaw : Stmt := topS 49
abbrev nLaw : List Str := ["_law_script", "_law_row", "_law_office", "_law_some", "_law_one", "_law_other", "_law_both", "_law_calls", "_law_plan", "_law_least_here", "_law_goal"]
theorem scLaw : FnScope nLaw ["_law_script"] (defScope sLaw) := ⟨rfl, rfl, rfl, by decide +kernel, rfl, by decide +kernel, by decide +kernel⟩
def spLaw (K : PySem.W.Frag) : Sp := fun vs H Q _ => ∃ (a : Addr) (ns : List Int), vs = [.ref a] ∧ SqL K H a (ns.map V.int) ∧ ∀ H', Q (.bl true) H'
def rLenQ (K : PySem.W.Frag) : List V → Hp → VK → Prop := fun xs H Q => ∃ p ys, xs = [.ref p] ∧ (SqL K H p ys ∨ SqT K H p ys) ∧ Q (.int ys.length) H
/-- what the law asks of what is drawn -/
structure Kept (o : Off) (p1 p2 : Plan) : Prop where
  vp1 : VP o p1
  vp2 : VP o p2
  vpb : VP o (prod o p1 p2)
  ne : both (costs o (least o p1)) (costs o (least o p2)) ≠ []
  l1 : law1 o p1 = true
  l2 : law2 o p1 = true
  l3 : law3 o p1 p2 = true
  l4 : law4 o p1 p2 = true
  l5 : law5 o p1 p2 = true
  l6 : law6 o p1 p2 = true
  l7 : law7 o p1 = true
theorem Kept.l1' {o : Off} {p1 p2 : Plan} (k : Kept o p1 p2) : decide (((deeds o).map fun z => ((goesOn o p1 z).length : Int)).sum = numDeeds o) = true := k.l1
theorem Kept.l2' {o : Off} {p1 p2 : Plan} (k : Kept o p1 p2) : decide (((deeds o).map fun z => ((goesAhead o p1 z).length : Int)).sum = numDeeds o) = true := k.l2
theorem Kept.l3a {o : Off} {p1 p2 : Plan} (k : Kept o p1 p2) : behindIn o (least o p1) (least o (prod o p1 p2)) = true := by
  have z := k.l3
  unfold law3 at z
  rw [Bool.and_eq_true] at z
  exact z.1
theorem Kept.l3b {o : Off} {p1 p2 : Plan} (k : Kept o p1 p2) : aheadIn o (least o p2) (least o (prod o p1 p2)) = true := by
  have z := k.l3
  unfold law3 at z
  rw [Bool.and_eq_true] at z
  exact z.2
theorem Kept.l4' {o : Off} {p1 p2 : Plan} (k : Kept o p1 p2) : decide (behindIn o (least o (prod o p1 p2)) (least o p1) = sameBehind o (least o p1) (least o (prod o p1 p2))) = true := by
  have z := k.l4
  unfold law4 at z
  exact decide_eq_true (eq_of_beq z)
theorem Kept.l5a {o : Off} {p1 p2 : Plan} (k : Kept o p1 p2) : decide ((meet o p1 p2).2 ∈ common o p1 p2) = true := by
  have z := k.l5
  unfold law5 at z
  rw [Bool.and_eq_true] at z
  exact z.1
theorem Kept.l5b {o : Off} {p1 p2 : Plan} (k : Kept o p1 p2) : decide (2 * (o.1 * o.2 - 1) < (meet o p1 p2).1) = false := by
  have z := k.l5
  unfold law5 at z
  rw [Bool.and_eq_true] at z
  have z2 := of_decide_eq_true z.2
  exact decide_eq_false (by omega)
theorem Kept.l6' {o : Off} {p1 p2 : Plan} (k : Kept o p1 p2) : decide (decide ((meet o p1 p2).1 = 0) = decide (least o p1 = least o p2)) = true := by
  have z := k.l6
  unfold law6 at z
  exact decide_eq_true (eq_of_beq z)
theorem Kept.l7a {o : Off} {p1 p2 : Plan} (k : Kept o p1 p2) : decide (least o p1 ∈ goesOn o [] p1) = true := by
  have z := k.l7
  unfold law7 at z
  rw [Bool.and_eq_true] at z
  exact z.1
theorem Kept.l7b {o : Off} {p1 p2 : Plan} (k : Kept o p1 p2) : decide (goesAhead o [] p1 = [least o p1]) = true := by
  have z := k.l7
  unfold law7 at z
  rw [Bool.and_eq_true] at z
  exact z.2
theorem row_not_plans {H : Hp} {a s : Addr} {p z n : Int} {ps : List Plan} (h1 : H a = some (.lst [.ref s, .int p, .int z, .int n])) (h2 : PlansAt H a ps) : False := by
  obtain ⟨vs, h3, h4⟩ := h2
  rw [h1] at h3
  cases h3
  cases h4 with
  | cons _ t =>
    cases t with
    | cons x _ =>
      obtain ⟨_, _, e, _⟩ := x
      cases e
section
variable {P : Program} {w : World} {K : PySem.W.Frag} {mg : Str → Option Value} {base : Heap}
theorem ok_law (Kp : ∀ o ∈ offs, ∀ p1 ∈ found o, ∀ p2 ∈ found o, Kept o p1 p2) {f : Addr} {fd : FuncData} (F : Fun K "law" "law" sLaw f fd) (B : Bl mg)
    (PK : Ok P w K mg base 5 "_law_pick" ["_law_row", "_law_things"] (spPick K)) (DP : Ok P w K mg base 5 "_law_draw_plan" ["_law_row", "_law_office"] (spDraw K)) (DE : Ok P w K mg base 5 "deeds" ["office"] spAllDeeds)
    (GO : Ok P w K mg base 5 "goes_on" ["office", "one", "goal"] (spGoes goesOn)) (GA : Ok P w K mg base 5 "goes_ahead" ["office", "one", "goal"] (spGoes goesAhead)) (CD : Ok P w K mg base 5 "count_deeds" ["office"] spNumDeeds)
    (PR : Ok P w K mg base 5 "product" ["office", "one", "other"] spProduct) (MB : Ok P w K mg base 5 "is_made_behind" nOOO (spBB fun o a b => behindIn o (least o a) (least o b)))
    (MA : Ok P w K mg base 5 "is_made_ahead" nOOO (spBB fun o a b => aheadIn o (least o a) (least o b))) (SB : Ok P w K mg base 5 "same_behind" nOOO (spBB fun o a b => sameBehind o (least o a) (least o b)))
    (ME : Ok P w K mg base 5 "meet_behind" nOOO spMeet) (CB : Ok P w K mg base 5 "common_behind" nOOO (spGoes common)) (LL : Ok P w K mg base 5 "_law_least" ["_law_office", "_law_plan"] spLeastIn) :
    FnOk P w K mg base CX0 6 f fd ["_law_script"] (spLaw K) := by
  refine F.ok scLaw (fun vs H Q E ⟨_, _, h, _⟩ => by rw [h]; rfl) fun cdv A outer s0 H0 vs Q E hr ⟨s, ns, hv, hs, q⟩ => ?_
  subst hv
  have hu64 := hr.units
  have hu65 : (A.deeper (envOfC "law" (defScope sLaw) s0.heap.objs.size f cdv)).units + 65 < cLine := by
    have := hr.un
    omega
  refine ⟨_, pss_cons (ps_set (i := 1) scLaw.nd rfl (.inl rfl) (pe_lst (pa_cons (pv 0) (pa_cons pe_int (pa_cons pe_int (pa_cons pe_int pa_nil))))))
    (pss_cons (ps_set (i := 2) scLaw.nd rfl (.inr rfl) (PK.call hr (by rfl) (pa_cons (pv 1) (pa_cons (pe_lst (pa_cons (pe_tup (pa_cons pe_int (pa_cons pe_int pa_nil))) (pa_cons (pe_tup (pa_cons pe_int (pa_cons pe_int pa_nil)))
      (pa_cons (pe_tup (pa_cons pe_int (pa_cons pe_int pa_nil))) (pa_cons (pe_tup (pa_cons pe_int (pa_cons pe_int pa_nil))) (pa_cons (pe_tup (pa_cons pe_int (pa_cons pe_int pa_nil))) pa_nil)))))) pa_nil))))
    (pss_cons (ps_asg (pe_tup (pa_cons (DE.call hr (by rfl) (pa_cons (pv 2) pa_nil)) (pa_cons (DP.call hr (by rfl) (pa_cons (pv 1) (pa_cons (pv 2) pa_nil))) (pa_cons (DP.call hr (by rfl) (pa_cons (pv 1) (pa_cons (pv 2) pa_nil))) pa_nil))))
      (pg_tup rfl (pgs_cons (pg_name (i := 3) scLaw.nd rfl (.inl rfl)) (pgs_cons (pg_name (i := 4) scLaw.nd rfl (.inr rfl)) (pgs_cons (pg_name (i := 5) scLaw.nd rfl (.inl rfl)) pgs_nil)))))
    (pss_cons (ps_if (pt_cmpR op_ne (pe_callB (cr_sum rfl) (by rfl) B.sum boot_sum (pa_cons (pe_lc (own := [("_law_goal", 10)]) (g := gName 10) (tt := tYes) (te := tCB (rLenQ K) (tCons (tCall (spGoes goesOn) [] E0 (tCons (tVar 2) (tCons (tVar 4) (tCons (tVar 10) tNil)))) tNil)) rfl scLaw.nd (pi_list (pv 3))
          (blkOk_by (N := nLaw) (sc := defScope sLaw) (by decide +kernel)) (fun _ _ _ _ _ => pg_name (i := 10) scLaw.nd rfl (.inl rfl)) (fun _ _ _ _ _ => pts_nil)
          (fun _ _ _ _ _ => pe_callB call_len_seq (by rfl) B.len PySem.boot_len (pa_cons (GO.call hr (by rfl) (pa_cons (pv 2) (pa_cons (pv 4) (pa_cons (pv 10) pa_nil)))) pa_nil))) pa_nil)) (CD.call hr (by rfl) (pa_cons (pv 2) pa_nil)) (nomark _)) (pss_one (ps_ret pe_bl)) pss_nil)
    (pss_cons (ps_if (pt_cmpR op_ne (pe_callB (cr_sum rfl) (by rfl) B.sum boot_sum (pa_cons (pe_lc (own := [("_law_goal", 10)]) (g := gName 10) (tt := tYes) (te := tCB (rLenQ K) (tCons (tCall (spGoes goesAhead) [] E0 (tCons (tVar 2) (tCons (tVar 4) (tCons (tVar 10) tNil)))) tNil)) rfl scLaw.nd (pi_list (pv 3))
          (blkOk_by (N := nLaw) (sc := defScope sLaw) (by decide +kernel)) (fun _ _ _ _ _ => pg_name (i := 10) scLaw.nd rfl (.inl rfl)) (fun _ _ _ _ _ => pts_nil)
          (fun _ _ _ _ _ => pe_callB call_len_seq (by rfl) B.len PySem.boot_len (pa_cons (GA.call hr (by rfl) (pa_cons (pv 2) (pa_cons (pv 4) (pa_cons (pv 10) pa_nil)))) pa_nil))) pa_nil)) (CD.call hr (by rfl) (pa_cons (pv 2) pa_nil)) (nomark _)) (pss_one (ps_ret pe_bl)) pss_nil)
    (pss_cons (ps_set (i := 6) scLaw.nd rfl (.inl rfl) (PR.call hr (by rfl) (pa_cons (pv 2) (pa_cons (pv 4) (pa_cons (pv 5) pa_nil)))))
    (pss_cons (ps_if (PW.pt (pw_or (pt_not (pt_val (MB.call hr (by rfl) (pa_cons (pv 2) (pa_cons (pv 4) (pa_cons (pv 6) pa_nil)))))) (pw_or1 (pt_not (pt_val (MA.call hr (by rfl) (pa_cons (pv 2) (pa_cons (pv 5) (pa_cons (pv 6) pa_nil))))))))) (pss_one (ps_ret pe_bl)) pss_nil)
    (pss_cons (ps_if (pt_cmpR op_ne (MB.call hr (by rfl) (pa_cons (pv 2) (pa_cons (pv 6) (pa_cons (pv 4) pa_nil)))) (SB.call hr (by rfl) (pa_cons (pv 2) (pa_cons (pv 4) (pa_cons (pv 6) pa_nil)))) (nomark _)) (pss_one (ps_ret pe_bl)) pss_nil)
    (pss_cons (ps_asg (ME.call hr (by rfl) (pa_cons (pv 2) (pa_cons (pv 4) (pa_cons (pv 5) pa_nil)))) (pg_tup rfl (pgs_cons (pg_name (i := 7) scLaw.nd rfl (.inl rfl)) (pgs_cons (pg_name (i := 8) scLaw.nd rfl (.inl rfl)) pgs_nil))))
    (pss_cons (ps_if (PW.pt (pw_or (pt_cmpR (op_notInD hu65) (pv 8) (CB.call hr (by rfl) (pa_cons (pv 2) (pa_cons (pv 4) (pa_cons (pv 5) pa_nil)))) (by rfl))
      (pw_or1 (pt_cmpR op_gt (pv 7) (pe_op op_mul pe_int (pe_op op_sub (pe_op op_mul (pe_ix ix_tup (pv 2) pe_int (fun _ _ => rfl)) (pe_ix ix_tup (pv 2) pe_int (fun _ _ => rfl))) pe_int)) (nomark _))))) (pss_one (ps_ret pe_bl)) pss_nil)
    (pss_cons (ps_set (i := 9) scLaw.nd rfl (.inl rfl) (LL.call hr (by rfl) (pa_cons (pv 2) (pa_cons (pv 4) pa_nil))))
    (pss_cons (ps_if (PW.pt (pw_or (pt_cmpR op_ne (pe_cmpR op_eq (pv 7) pe_int (nomark _)) (pe_cmpR (op_eqD hu64) (pv 9) (LL.call hr (by rfl) (pa_cons (pv 2) (pa_cons (pv 5) pa_nil))) (nomark _)) (nomark _))
      (pw_or1 (pt_cmpR (op_notInD hu65) (pv 9) (GO.call hr (by rfl) (pa_cons (pv 2) (pa_cons (pe_tup pa_nil) (pa_cons (pv 4) pa_nil)))) (by rfl))))) (pss_one (ps_ret pe_bl)) pss_nil)
    (pss_one (ps_ret (pe_cmpR (op_eqD hu64) (GA.call hr (by rfl) (pa_cons (pv 2) (pa_cons (pe_tup pa_nil) (pa_cons (pv 4) pa_nil)))) (pe_lst (pa_cons (pv 9) pa_nil)) (nomark _))))))))))))))), ?_⟩
  -- the row
  refine ⟨.ref s, rfl, Nat.le_of_lt (small1000 (show 4 ≤ 1000 by decide)), fun r hr0 => ?_⟩
  have a1 : Ex H0 (upd H0 r (.lst [.ref s, .int 0, .int 7081, .int 0])) := Ex.new hr0
  have row1 : RowOk (upd H0 r (.lst [.ref s, .int 0, .int 7081, .int 0])) r s := ⟨0, 7081, 0, upd_same, by decide, by decide, by decide⟩
  generalize upd H0 r (.lst [.ref s, .int 0, .int 7081, .int 0]) = G1 at a1 row1 ⊢
  -- the offices
  refine ⟨.ref r, rfl, two_small, fun t1 h1 => ?_⟩
  have a2 : Ex G1 (upd G1 t1 (.tup [.int 1, .int 4])) := Ex.new h1
  have b1 : IsPr (upd G1 t1 (.tup [.int 1, .int 4])) (.ref t1) (1, 4) := ⟨t1, rfl, upd_same⟩
  generalize upd G1 t1 (.tup [.int 1, .int 4]) = G2 at a2 b1 ⊢
  refine ⟨two_small, fun t2 h2 => ?_⟩
  have a3 : Ex G2 (upd G2 t2 (.tup [.int 2, .int 2])) := Ex.new h2
  have b2 : IsPr (upd G2 t2 (.tup [.int 2, .int 2])) (.ref t2) (2, 2) := ⟨t2, rfl, upd_same⟩
  generalize upd G2 t2 (.tup [.int 2, .int 2]) = G3 at a3 b2 ⊢
  refine ⟨two_small, fun t3 h3 => ?_⟩
  have a4 : Ex G3 (upd G3 t3 (.tup [.int 2, .int 3])) := Ex.new h3
  have b3 : IsPr (upd G3 t3 (.tup [.int 2, .int 3])) (.ref t3) (2, 3) := ⟨t3, rfl, upd_same⟩
  generalize upd G3 t3 (.tup [.int 2, .int 3]) = G4 at a4 b3 ⊢
  refine ⟨two_small, fun t4 h4 => ?_⟩
  have a5 : Ex G4 (upd G4 t4 (.tup [.int 3, .int 1])) := Ex.new h4
  have b4 : IsPr (upd G4 t4 (.tup [.int 3, .int 1])) (.ref t4) (3, 1) := ⟨t4, rfl, upd_same⟩
  generalize upd G4 t4 (.tup [.int 3, .int 1]) = G5 at a5 b4 ⊢
  refine ⟨two_small, fun t5 h5 => ?_⟩
  have a6 : Ex G5 (upd G5 t5 (.tup [.int 2, .int 1])) := Ex.new h5
  have b5 : IsPr (upd G5 t5 (.tup [.int 2, .int 1])) (.ref t5) (2, 1) := ⟨t5, rfl, upd_same⟩
  generalize upd G5 t5 (.tup [.int 2, .int 1]) = G6 at a6 b5 ⊢
  refine ⟨Nat.le_of_lt (small1000 (show 5 ≤ 1000 by decide)), fun T hT => ?_⟩
  have a7 : Ex G6 (upd G6 T (.lst [.ref t1, .ref t2, .ref t3, .ref t4, .ref t5])) := Ex.new hT
  have hT7 : (upd G6 T (.lst [.ref t1, .ref t2, .ref t3, .ref t4, .ref t5])) T = some (.lst [.ref t1, .ref t2, .ref t3, .ref t4, .ref t5]) := upd_same
  generalize upd G6 T (.lst [.ref t1, .ref t2, .ref t3, .ref t4, .ref t5]) = G7 at a7 hT7 ⊢
  have c67 := a7
  have c57 := a6.trans c67
  have c47 := a5.trans c57
  have c37 := a4.trans c47
  have c27 := a3.trans c37
  have c17 := a2.trans c27
  have row6 := row1.mono (a2.trans (a3.trans (a4.trans (a5.trans a6))))
  have Tr : T ≠ r := fun z => by
    obtain ⟨_, _, _, z1, _⟩ := row6
    rw [z, z1] at hT
    cases hT
  have hoffs : Paired (IsPr G7) [.ref t1, .ref t2, .ref t3, .ref t4, .ref t5] offs := .cons (b1.mono c27) (.cons (b2.mono c37) (.cons (b3.mono c47) (.cons (b4.mono c57) (.cons (b5.mono c67) .nil))))
  refine ⟨r, s, T, ns, _, offs, H0, rfl, a1.trans c17, hr0, hs, row1.mono c17, Tr, hT7, hoffs, by decide, by decide, fun vo o G8 eb8 row8 ho hvo => ?_⟩
  have x8 := ExB.ex0 (a1.trans c17) hr0 eb8
  clear hoffs hT7 Tr row6 c17 c27 c37 c47 c57 c67 a7 hT b5 a6 h5 b4 a5 h4 b3 a4 h3 b2 a3 h2 b1 a2 h1 row1 a1
  have oo := offOk_of ho
  obtain ⟨ld, l0, vd⟩ := offs_deeds o ho
  obtain ⟨o1, o3, o2, o4, _, _⟩ := offs_ok o ho
  -- deeds, two draws
  refine ⟨vo, rfl, vo, o, rfl, hvo, ho, fun g G9 e9 hpg => ?_⟩
  have row9 := row8.mono e9
  have hvo9 := hvo.mono e9
  refine ⟨.ref r, rfl, vo, rfl, r, s, vo, ns, o, H0, rfl, x8.trans e9, hr0, hs, row9, hvo9, ho, fun v1 p1 G10 e10 row10 m1 hp1 => ?_⟩
  have x10 := ExB.ex0 (x8.trans e9) hr0 e10
  have hvo10 := hvo9.rows e10 row9
  refine ⟨.ref r, rfl, vo, rfl, r, s, vo, ns, o, H0, rfl, x10, hr0, hs, row10, hvo10, ho, fun v2 p2 G11 e11 row11 m2 hp2 => ?_⟩
  have hvo11 := hvo10.rows e11 row10
  have hp1 := hp1.rows e11 row10
  obtain ⟨xs, hg, hx⟩ := hpg
  have gr : g ≠ r := fun z => by
    obtain ⟨p', z', n', q1, _⟩ := row9
    rw [← z] at q1
    exact row_not_plans q1 ⟨xs, hg, hx⟩
  have hg11 := e11 _ _ gr (e10 _ _ gr hg)
  have hx11 : Paired (IsPlan G11) xs (deeds o) := Paired.mapP hx fun _ _ z => (z.rows e10 row9).rows e11 row10
  refine ⟨Nat.le_of_lt (small1000 (show 3 ≤ 1000 by decide)), fun U hU => ?_⟩
  refine ⟨U, _, rfl, SqT.of upd_same, rfl, _, _, rfl, _, _, rfl, _, [], rfl, rfl, ?_⟩
  have e12 : Ex G11 (upd G11 U (.tup [.ref g, v1, v2])) := Ex.new hU
  generalize upd G11 U (.tup [.ref g, v1, v2]) = HB at e12 ⊢
  have hvo := hvo11.mono e12
  have hp1 := hp1.mono e12
  have hp2 := hp2.mono e12
  have hg := e12 _ _ hg11
  have hx := plans_mono e12 hx11
  have hlx := paired_len hx
  clear hx11 hg11 gr hvo11 e11 x10 hvo10 e10 hvo9 row9 e9 x8 eb8 row8 row10 row11 e12 hU
  have kp := Kp o ho p1 m1 p2 m2
  have hvo' := hvo
  obtain ⟨a, rfl, ha⟩ := hvo'
  have e1 : Ex HB HB := Ex.refl HB
  -- the sum over goesOn
  refine ⟨.ref g, rfl, g, rfl, ⟨xs, SqL.of (e1 _ _ hg)⟩, fun T1 hT1 => ?_⟩
  refine lc_list (K := K) (xs := xs) (fun i H' => Ex HB H' ∧ H' T1 = some (.lst ((((deeds o).take i).map fun z => ((goesOn o p1 z).length : Int)).map V.int))) ⟨Ex.new hT1, upd_same⟩
    (fun i H' _ ⟨e', _⟩ => SqL.of (e' _ _ (e1 _ _ hg))) (fun i x H' hix ⟨e', eT⟩ => ?_) (fun H2 ⟨e', eT⟩ => ?_)
  · obtain ⟨pl, hpl, hxp⟩ := paired_at hx hix
    have vpl := vp_of (vd pl (List.mem_of_getElem? hpl))
    have et := e1.trans e'
    refine ⟨rfl, ?_⟩
    refine ⟨.ref a, rfl, v1, rfl, x, rfl, .ref a, v1, x, o, p1, pl, rfl, ⟨a, rfl, et _ _ ha⟩, hp1.mono et, hxp.mono et, ho, kp.vp1, vpl, fun b H2 e2 hb => ?_⟩
    obtain ⟨ys, hy, hpy⟩ := hb
    refine ⟨b, ys, rfl, .inl (SqL.of hy), _, e2 _ _ eT, ?_, (e'.trans e2).mut hT1, ?_⟩
    · rw [List.length_map, List.length_map, List.length_take]
      exact small1000 (by omega)
    · rw [upd_same, paired_len hpy, take_snoc hpl, List.map_append, List.map_append]
      rfl
  rw [hlx, List.take_length] at eT
  have e2 := e1.trans e'
  refine ⟨T1, _, rfl, SqL.of eT, ?_⟩
  refine ⟨.ref a, rfl, .ref a, o, rfl, ⟨a, rfl, e2 _ _ ha⟩, ho, rfl, _, rfl, iteN ?_ ?_⟩
  · rw [decV_int]
    exact kp.l1'
  -- the sum over goesAhead
  refine ⟨.ref g, rfl, g, rfl, ⟨xs, SqL.of (e2 _ _ hg)⟩, fun T2 hT2 => ?_⟩
  refine lc_list (K := K) (xs := xs) (fun i H' => Ex H2 H' ∧ H' T2 = some (.lst ((((deeds o).take i).map fun z => ((goesAhead o p1 z).length : Int)).map V.int))) ⟨Ex.new hT2, upd_same⟩
    (fun i H' _ ⟨e', _⟩ => SqL.of (e' _ _ (e2 _ _ hg))) (fun i x H' hix ⟨e', eT⟩ => ?_) (fun H3 ⟨e', eT⟩ => ?_)
  · obtain ⟨pl, hpl, hxp⟩ := paired_at hx hix
    have vpl := vp_of (vd pl (List.mem_of_getElem? hpl))
    have et := e2.trans e'
    refine ⟨rfl, ?_⟩
    refine ⟨.ref a, rfl, v1, rfl, x, rfl, .ref a, v1, x, o, p1, pl, rfl, ⟨a, rfl, et _ _ ha⟩, hp1.mono et, hxp.mono et, ho, kp.vp1, vpl, fun b H2 e2 hb => ?_⟩
    obtain ⟨ys, hy, hpy⟩ := hb
    refine ⟨b, ys, rfl, .inl (SqL.of hy), _, e2 _ _ eT, ?_, (e'.trans e2).mut hT2, ?_⟩
    · rw [List.length_map, List.length_map, List.length_take]
      exact small1000 (by omega)
    · rw [upd_same, paired_len hpy, take_snoc hpl, List.map_append, List.map_append]
      rfl
  rw [hlx, List.take_length] at eT
  have e3 := e2.trans e'
  refine ⟨T2, _, rfl, SqL.of eT, ?_⟩
  refine ⟨.ref a, rfl, .ref a, o, rfl, ⟨a, rfl, e3 _ _ ha⟩, ho, rfl, _, rfl, iteN ?_ ?_⟩
  · rw [decV_int]
    exact kp.l2'
  -- the product
  refine ⟨.ref a, rfl, v1, rfl, v2, rfl, .ref a, v1, v2, o, p1, p2, rfl, hvo.mono e3, hp1.mono e3, hp2.mono e3, oo, kp.vp1, kp.vp2, fun vb H4 e34 hb => ?_⟩
  have e4 := e3.trans e34
  refine ⟨.ref a, rfl, v1, rfl, vb, rfl, .ref a, v1, vb, o, p1, _, rfl, hvo.mono e4, hp1.mono e4, hb, oo, kp.vp1, kp.vpb, fun H5 e45 => ⟨_, rfl, iteN kp.l3a ?_⟩⟩
  have e5 := e4.trans e45
  have hb := hb.mono e45
  refine ⟨.ref a, rfl, v2, rfl, vb, rfl, .ref a, v2, vb, o, p2, _, rfl, hvo.mono e5, hp2.mono e5, hb, oo, kp.vp2, kp.vpb, fun H6 e56 => ⟨_, rfl, iteN kp.l3b ?_⟩⟩
  have e6 := e5.trans e56
  have hb := hb.mono e56
  -- behind and behind again
  refine ⟨.ref a, rfl, vb, rfl, v1, rfl, .ref a, vb, v1, o, _, p1, rfl, hvo.mono e6, hb, hp1.mono e6, oo, kp.vpb, kp.vp1, fun H7 e67 => ?_⟩
  have e7 := e6.trans e67
  have hb := hb.mono e67
  refine ⟨.ref a, rfl, v1, rfl, vb, rfl, .ref a, v1, vb, o, p1, _, rfl, hvo.mono e7, hp1.mono e7, hb, oo, kp.vp1, kp.vpb, fun H8 e78 => ?_⟩
  have e8 := e7.trans e78
  refine ⟨rfl, _, rfl, iteN (by rw [decV_bl]; exact kp.l4') ?_⟩
  -- the meet
  refine ⟨.ref a, rfl, v1, rfl, v2, rfl, .ref a, v1, v2, o, p1, p2, rfl, hvo.mono e8, hp1.mono e8, hp2.mono e8, ho, kp.vp1, kp.vp2, kp.ne, fun vm H9 e89 hm => ?_⟩
  have e9 := e8.trans e89
  obtain ⟨c, pvm, rfl, hc, hpm⟩ := hm
  refine ⟨c, _, rfl, SqT.of hc, rfl, _, _, rfl, _, [], rfl, rfl, ?_⟩
  refine ⟨pvm, rfl, .ref a, rfl, v1, rfl, v2, rfl, .ref a, v1, v2, o, p1, p2, rfl, hvo.mono e9, hp1.mono e9, hp2.mono e9, ho, kp.vp1, kp.vp2, fun d H10 e910 hd => ?_⟩
  have e10 := e9.trans e910
  refine ⟨_, _, (hpm.mono e910).dp, hd.dp, encP_shaped _, encPs_shaped _, _, rfl, iteN (by rw [encPs_any]; exact kp.l5a) ?_⟩
  refine ⟨.int (meet o p1 p2).1, rfl, .ref a, rfl, a, _, 0, .int o.1, rfl, rfl, SqT.of (e10 _ _ ha), rfl, .ref a, rfl, a, _, 1, .int o.2, rfl, rfl, SqT.of (e10 _ _ ha), rfl, _, _, rfl, rfl, .inl ⟨by omega, by omega⟩, _, _, rfl, rfl, _, _, rfl, rfl, .inl ⟨by decide, by decide⟩, _, _, rfl, rfl, _, rfl, ?_⟩
  rw [kp.l5b]
  refine iteF ?_
  -- the least
  refine ⟨.ref a, rfl, v1, rfl, .ref a, v1, o, p1, rfl, hvo.mono e10, hp1.mono e10, oo.p1, fun vl H11 e1011 hl => ?_⟩
  have e11 := e10.trans e1011
  refine ⟨.int (meet o p1 p2).1, rfl, rfl, vl, rfl, .ref a, rfl, v2, rfl, .ref a, v2, o, p2, rfl, hvo.mono e11, hp2.mono e11, oo.p1, fun vk H12 e1112 hk => ?_⟩
  have e12 := e11.trans e1112
  have hl := hl.mono e1112
  refine ⟨_, _, hl.dp, hk.dp, encP_shaped _, encP_shaped _, rfl, _, rfl, iteN (by rw [decV_bl, decV_int, encP_eqv]; exact kp.l6') ?_⟩
  have v0 : VP o [] := ⟨by have := oo.p1; show (0 : Int) ≤ o.1; omega, fun x hx => (nomatch hx), List.nodup_nil⟩
  refine ⟨vl, rfl, .ref a, rfl, Nat.zero_le _, fun t ht => ⟨v1, rfl, ?_⟩⟩
  have e1213 : Ex H12 (upd H12 t (.tup [])) := Ex.new ht
  have h0' : IsPlan (upd H12 t (.tup [])) (.ref t) [] := ⟨t, [], rfl, upd_same, .nil⟩
  generalize upd H12 t (.tup []) = H13 at e1213 h0' ⊢
  have e13 := e12.trans e1213
  refine ⟨.ref a, .ref t, v1, o, [], p1, rfl, hvo.mono e13, h0', hp1.mono e13, ho, v0, kp.vp1, fun d H14 e1314 hd => ?_⟩
  have e14 := e13.trans e1314
  have hl := (hl.mono e1213).mono e1314
  refine ⟨_, _, hl.dp, hd.dp, encP_shaped _, encPs_shaped _, _, rfl, iteN (by rw [encPs_any]; exact kp.l7a) ?_⟩
  -- the answer
  refine ⟨.ref a, rfl, Nat.zero_le _, fun t ht => ⟨v1, rfl, ?_⟩⟩
  have e1415 : Ex H14 (upd H14 t (.tup [])) := Ex.new ht
  have h0' : IsPlan (upd H14 t (.tup [])) (.ref t) [] := ⟨t, [], rfl, upd_same, .nil⟩
  generalize upd H14 t (.tup []) = H15 at e1415 h0' ⊢
  have e15 := e14.trans e1415
  refine ⟨.ref a, .ref t, v1, o, [], p1, rfl, hvo.mono e15, h0', hp1.mono e15, ho, v0, kp.vp1, fun d H16 e1516 hd => ?_⟩
  have hl := (hl.mono e1415).mono e1516
  refine ⟨vl, rfl, one_small, fun L hL => ?_⟩
  have e1617 : Ex H16 (upd H16 L (.lst [vl])) := Ex.new hL
  have hLp : PlansAt (upd H16 L (.lst [vl])) L [least o p1] := ⟨[vl], upd_same, .cons (hl.mono e1617) .nil⟩
  refine ⟨_, _, (hd.mono e1617).dp, hLp.dp, encPs_shaped _, encPs_shaped _, ?_⟩
  have z : PyData.eqv (.list ((goesAhead o [] p1).map encP)) (.list ([least o p1].map encP)) = true := by
    have e : PyData.eqv (.list ((goesAhead o [] p1).map encP)) (.list ([least o p1].map encP)) = PyData.eqvAll ((goesAhead o [] p1).map encP) ([least o p1].map encP) := by simp only [PyData.eqv]
    rw [e, encPs_eqv]
    exact kp.l7b
  rw [z]
  exact q _
end
end CL
set_option Elab.async false
set_option linter.all false
set_option maxRecDepth 100000
set_option maxHeartbeats 4000000
/-! what the top has left; the end -/
namespace CL
open PySem PySem.Spec PyProof.Rows L2 Evl
theorem chkPs_all : ∀ o ∈ offs, chkPs o = true := offs_mem chkPs_14 chkPs_22 chkPs_23 chkPs_31 chkPs_21
theorem kept_all : ∀ o ∈ offs, ∀ p1 ∈ found o, ∀ p2 ∈ found o, Kept o p1 p2 := fun o ho p1 h1 p2 h2 => by
  have a1 := List.all_eq_true.mp (chkO_all o ho) p1 h1
  have a2 := List.all_eq_true.mp (chkO_all o ho) p2 h2
  have b := List.all_eq_true.mp (List.all_eq_true.mp (chkPs_all o ho) p1 h1) p2 h2
  rw [Bool.and_eq_true] at a1 a2
  have c := a1.2
  unfold all1 at c
  rw [Bool.and_eq_true, Bool.and_eq_true] at c
  unfold chkP all2 at b
  rw [Bool.and_eq_true, Bool.and_eq_true, Bool.and_eq_true, Bool.and_eq_true, Bool.and_eq_true] at b
  obtain ⟨⟨b1, b2⟩, ⟨⟨b3, b4⟩, b5⟩, b6⟩ := b
  refine ⟨vp_of a1.1, vp_of a2.1, vp_of b1, fun z => ?_, c.1.1, c.1.2, b3, b4, b5, b6, c.2⟩
  rw [z] at b2
  cases b2
theorem def_mk {K : PySem.W.Frag} {h : Heap} {mg : Str → Option Value} (X : K.In h) (G : h.Ns mainGlobals mg) {x : Str} {st : Stmt} {ps : List Str} {f : Addr} {od an : Option Addr} {sl : Array (Option Value)} {oc kV dc pm cd ct : Value}
    (a : PySem.W.nsIn K mainGlobals x = some (some (.ref f))) (l : K.lookup f = some ⟨oc, od, .func (PySem.W.fnOf x x (defArgs st) (defBody st) (defScope st) .none kV dc pm an cd ct), sl⟩) (c : PySem.W.codeIn K cd x = true) (k : PySem.W.keepIn K (.ref f) = true)
    (b : ∀ (kV dc pm : Value) (an : Option Addr) (cd ct : Value) (us : List Value), us.length = ps.length → bindArgs (PySem.W.fnOf x x (defArgs st) (defBody st) (defScope st) .none kV dc pm an cd ct) ⟨us, []⟩ = pure (ps.zip us)) : Def K mg x st ps :=
  ⟨f, _, fun_mk (st := st) l c k, PySem.W.mg_of X G a, (fun_mk (st := st) l c k).binds b⟩
theorem int_mk {K : PySem.W.Frag} {h : Heap} {mg : Str → Option Value} (X : K.In h) (G : h.Ns mainGlobals mg) {x : Str} {i : Int} {t : Tok} (a : PySem.W.nsIn K mainGlobals x = some (some (.int i t))) : ∃ t, mg x = some (.int i t) := ⟨t, PySem.W.mg_of X G a⟩
theorem walk {l : PySem.W.OpenLaw} {q : Program} {loose : List Str} {XP : (Str → Option Value) → Heap → Prop} {YP : World → Heap → Prop} {d : DefRec} {K : Params → PySem.W.Frag} (hn : l.most = some 63) (hdf : d.params.defaults = [])
    (hY : ∀ (w : World) (h : Heap), YP w h → (K w.params).In h)
    (F : ∀ (w : World) (mg : Str → Option Value) (fa : Addr) (h : Heap), (K w.params).In h → h.Ns mainGlobals mg → mg d.name = some (.ref fa) →
      ∃ fd : FuncData, (∀ (s : Shared) (u : Value), BindsTo s fd ⟨[u], []⟩ [("_law_script", u)]) ∧ ∀ base : Heap, (K w.params).In base → base.Ns mainGlobals mg → FnOk l.prog w (K w.params) mg base CX0 6 fa fd ["_law_script"] (spLaw (K w.params))) :
    PySem.W.WalkO q loose XP YP l.row.toRowW d [] (fun f vs => PySem.call f vs) :=
  L2.walk_of (n := 63) (k := 6) (x := "_law_script") (CX := fun _ => CX0) (sp := fun w => spLaw (K w.params)) hn (by decide) hdf ⟨rfl, by decide, by decide⟩ hY F (fun _ _ a ns _ _ hS => ⟨a, ns, rfl, hS, fun _ => rfl⟩) fun _ _ _ _ _ z => z
/-- every def of the text as it stands behind the top -/
structure Defs (K : PySem.W.Frag) (mg : Str → Option Value) : Prop where
  d0 : Def K mg "is_integer" sIsInteger ["value"]
  d1 : Def K mg "is_in" sIsIn ["value", "least", "most"]
  d2 : Def K mg "is_list" sIsList ["value", "least", "most"]
  d3 : Def K mg "need_office" sNeedOffice ["office"]
  d4 : Def K mg "factorial" sFactorial ["many"]
  d5 : Def K mg "choose" sChoose ["many", "some"]
  d6 : Def K mg "raised" sRaised ["base", "times"]
  d7 : Def K mg "least_in" sLeastIn ["office", "plan"]
  d8 : Def K mg "need_plan" sNeedPlan ["office", "plan"]
  d9 : Def K mg "need_pairs" sNeedPairs ["office", "plan"]
  d10 : Def K mg "number_of_deeds" sNumDeeds ["office"]
  d11 : Def K mg "count_deeds" sCountDeeds ["office"]
  d12 : Def K mg "all_deeds" sAllDeeds ["office"]
  d13 : Def K mg "deeds" sDeeds ["office"]
  d14 : Def K mg "joined" sJoined nOOO
  d15 : Def K mg "product" sProduct nOOO
  d16 : Def K mg "goes_on" sGoesOn ["office", "one", "goal"]
  d17 : Def K mg "goes_ahead" sGoesAhead ["office", "one", "goal"]
  d18 : Def K mg "people_in" sPeopleIn ["office", "plan"]
  d19 : Def K mg "is_made_behind" sMadeBehind nOOO
  d20 : Def K mg "is_behind_in" sBehindIn nOOO
  d21 : Def K mg "is_made_ahead" sMadeAhead nOOO
  d22 : Def K mg "is_ahead_in" sAheadIn nOOO
  d23 : Def K mg "same_behind" sSameBehind nOOO
  d24 : Def K mg "needs" sNeeds ["office", "plan"]
  d25 : Def K mg "need_few" sNeedFew ["office"]
  d26 : Def K mg "cost_of" sCostOf ["office", "plan"]
  d27 : Def K mg "meet_behind" sMeet nOOO
  d28 : Def K mg "common_behind" sCommon nOOO
  d29 : Def K mg "_law_taken" sTaken ["_law_row", "_law_many"]
  d30 : Def K mg "_law_pick" sPick ["_law_row", "_law_things"]
  d31 : Def K mg "_law_least" sLawLeast ["_law_office", "_law_plan"]
  d32 : Def K mg "_law_draw_plan" sDraw ["_law_row", "_law_office"]
section
variable {P : Program} {w : World} {K : PySem.W.Frag} {mg : Str → Option Value} {base : Heap}
/-- the law from the defs' texts -/
theorem law_of (B : Bl mg) (T : Defs K mg) {f : Addr} {fd : FuncData} (F : Fun K "law" "law" sLaw f fd) : FnOk P w K mg base CX0 6 f fd ["_law_script"] (spLaw K) := by
  have isInteger := ok_is_integer (P := P) (w := w) (base := base) T.d0 B
  have isIn := ok_is_in T.d1 isInteger
  have isList := ok_is_list (P := P) (w := w) (base := base) T.d2 B
  have needOffice := ok_need_office T.d3 B isList isIn
  have fac := ok_factorial (P := P) (w := w) (base := base) T.d4 B
  have cho := ok_choose (P := P) (w := w) (base := base) T.d5 B
  have rai := ok_raised (P := P) (w := w) (base := base) T.d6 B
  have leastIn := ok_least_in (P := P) (w := w) (base := base) T.d7 B
  have needPairs := ok_need_pairs T.d9 B isList isIn
  have needPlan := ok_need_plan T.d8 needOffice needPairs
  have numDeeds := ok_number_of_deeds T.d10 B fac cho rai
  have countDeeds := ok_count_deeds T.d11 needOffice (numDeeds.mono (by decide))
  have allDeeds := ok_all_deeds T.d12 B leastIn
  have deedsOf := ok_deeds T.d13 B needOffice (numDeeds.mono (by decide)) (allDeeds.mono (by decide))
  have joinedOf := ok_joined (P := P) (w := w) (base := base) T.d14 B
  have np4 := needPairs.mono (show 3 ≤ 4 by decide)
  have li4 := leastIn.mono (show 1 ≤ 4 by decide)
  have jo4 := joinedOf.mono (show 1 ≤ 4 by decide)
  have nd4 := numDeeds.mono (show 2 ≤ 4 by decide)
  have ad4 := allDeeds.mono (show 2 ≤ 4 by decide)
  have productOf := ok_product T.d15 needPlan np4 li4 jo4
  have goesOnOf := ok_goes_on T.d16 B needPlan np4 nd4 li4 jo4 ad4
  have goesAheadOf := ok_goes_ahead T.d17 B needPlan np4 nd4 li4 jo4 ad4
  have peopleOf := ok_people_in (P := P) (w := w) (base := base) T.d18 B
  have behindOf := ok_is_behind_in (P := P) (w := w) (base := base) T.d20 B
  have madeBehind := ok_is_made_behind T.d19 needPlan np4 li4 (behindOf.mono (by decide))
  have aheadOf := ok_is_ahead_in T.d22 B peopleOf
  have madeAhead := ok_is_made_ahead T.d21 needPlan np4 li4 (aheadOf.mono (by decide))
  have sameOf := ok_same_behind T.d23 B needPlan np4 li4 (peopleOf.mono (by decide))
  have needsOf := ok_needs (P := P) (w := w) (base := base) T.d24 B
  have few := ok_need_few T.d25 B numDeeds
  have few4 := few.mono (show 3 ≤ 4 by decide)
  have costOf := ok_cost_of T.d26 B needsOf
  have meetOf := ok_meet_behind T.d27 B needPlan np4 few4 li4 jo4 ad4 (costOf.mono (by decide))
  have commonOf := ok_common_behind T.d28 B needPlan np4 few4 li4 jo4 ad4
  have taken := ok_taken (P := P) (w := w) (base := base) T.d29 B
  have pick := ok_pick T.d30 B taken
  have lawLeast := ok_law_least (P := P) (w := w) (base := base) T.d31 B
  have draw := ok_draw T.d32 B taken
  exact ok_law kept_all F B (pick.mono (by decide)) (draw.mono (by decide)) (deedsOf.mono (by decide)) goesOnOf goesAheadOf (countDeeds.mono (by decide)) productOf madeBehind madeAhead sameOf meetOf commonOf (lawLeast.mono (by decide))
end
theorem law_mk {l : PySem.W.OpenLaw} {w : World} {K : PySem.W.Frag} {h : Heap} {mg : Str → Option Value} {fa f : Addr} (X : K.In h) (G : h.Ns mainGlobals mg) (hfa : mg "law" = some (.ref fa)) (B : Bl mg) (T : Defs K mg)
    {od an : Option Addr} {sl : Array (Option Value)} {oc kV dc pm cd ct : Value} (a : PySem.W.nsIn K mainGlobals "law" = some (some (.ref f)))
    (lk : K.lookup f = some ⟨oc, od, .func (PySem.W.fnOf "law" "law" (defArgs sLaw) (defBody sLaw) (defScope sLaw) .none kV dc pm an cd ct), sl⟩) (c : PySem.W.codeIn K cd "law" = true) (k : PySem.W.keepIn K (.ref f) = true) :
    ∃ fd : FuncData, (∀ (s : Shared) (v : Value), BindsTo s fd ⟨[v], []⟩ [("_law_script", v)]) ∧ ∀ base : Heap, K.In base → base.Ns mainGlobals mg → FnOk l.prog w K mg base CX0 6 fa fd ["_law_script"] (spLaw K) := by
  have e := hfa.symm.trans (PySem.W.mg_of X G a)
  cases e
  exact ⟨PySem.W.fnOf "law" "law" (defArgs sLaw) (defBody sLaw) (defScope sLaw) .none kV dc pm an cd ct, fun s v => .of_eq rfl, fun base _ _ => law_of B T (fun_mk (st := sLaw) lk c k)⟩
end CL
set_option Elab.async false
set_option linter.all false
open PySem PySem.W PyProof.Rows in
set_option maxRecDepth 100000 in
set_option maxHeartbeats 0 in
theorem PySem.Challenge.cw_counterlines_k81_whole_quotients_counted_holds : PySem.Challenge.rw_counterlines_k81_whole_quotients_counted.Holds := by
  w_on; o_law; k_head; (case hw => w_witness2)
  k_fill
  refine CL.walk (l := PySem.Challenge.rw_counterlines_k81_whole_quotients_counted) rfl rfl (fun w h Y => PySem.W.kIn_of Y) ?F
  case F =>
    intro w mg fa h KX G hmg
    refine' CL.law_mk KX G hmg ⟨PySem.W.mg_none_of KX G ?b_isi,
      PySem.W.mg_none_of KX G ?b_int,
      PySem.W.mg_none_of KX G ?b_bool,
      PySem.W.mg_none_of KX G ?b_tuple,
      PySem.W.mg_none_of KX G ?b_len,
      PySem.W.mg_none_of KX G ?b_range,
      PySem.W.mg_none_of KX G ?b_enum,
      PySem.W.mg_none_of KX G ?b_sorted,
      PySem.W.mg_none_of KX G ?b_min,
      PySem.W.mg_none_of KX G ?b_sum,
      PySem.W.mg_none_of KX G ?b_all,
      PySem.W.mg_none_of KX G ?b_list,
      CL.int_mk KX G ?b_mp,
      CL.int_mk KX G ?b_mc,
      CL.int_mk KX G ?b_md⟩
      ⟨CL.def_mk KX G ?a0 ?l0 ?c0 ?k0 (fun _ _ _ _ _ _ us hl => match us, hl with | [_], _ => rfl),
      CL.def_mk KX G ?a1 ?l1 ?c1 ?k1 (fun _ _ _ _ _ _ us hl => match us, hl with | [_, _, _], _ => rfl),
      CL.def_mk KX G ?a2 ?l2 ?c2 ?k2 (fun _ _ _ _ _ _ us hl => match us, hl with | [_, _, _], _ => rfl),
      CL.def_mk KX G ?a3 ?l3 ?c3 ?k3 (fun _ _ _ _ _ _ us hl => match us, hl with | [_], _ => rfl),
      CL.def_mk KX G ?a4 ?l4 ?c4 ?k4 (fun _ _ _ _ _ _ us hl => match us, hl with | [_], _ => rfl),
      CL.def_mk KX G ?a5 ?l5 ?c5 ?k5 (fun _ _ _ _ _ _ us hl => match us, hl with | [_, _], _ => rfl),
      CL.def_mk KX G ?a6 ?l6 ?c6 ?k6 (fun _ _ _ _ _ _ us hl => match us, hl with | [_, _], _ => rfl),
      CL.def_mk KX G ?a7 ?l7 ?c7 ?k7 (fun _ _ _ _ _ _ us hl => match us, hl with | [_, _], _ => rfl),
      CL.def_mk KX G ?a8 ?l8 ?c8 ?k8 (fun _ _ _ _ _ _ us hl => match us, hl with | [_, _], _ => rfl),
      CL.def_mk KX G ?a9 ?l9 ?c9 ?k9 (fun _ _ _ _ _ _ us hl => match us, hl with | [_, _], _ => rfl),
      CL.def_mk KX G ?a10 ?l10 ?c10 ?k10 (fun _ _ _ _ _ _ us hl => match us, hl with | [_], _ => rfl),
      CL.def_mk KX G ?a11 ?l11 ?c11 ?k11 (fun _ _ _ _ _ _ us hl => match us, hl with | [_], _ => rfl),
      CL.def_mk KX G ?a12 ?l12 ?c12 ?k12 (fun _ _ _ _ _ _ us hl => match us, hl with | [_], _ => rfl),
      CL.def_mk KX G ?a13 ?l13 ?c13 ?k13 (fun _ _ _ _ _ _ us hl => match us, hl with | [_], _ => rfl),
      CL.def_mk KX G ?a14 ?l14 ?c14 ?k14 (fun _ _ _ _ _ _ us hl => match us, hl with | [_, _, _], _ => rfl),
      CL.def_mk KX G ?a15 ?l15 ?c15 ?k15 (fun _ _ _ _ _ _ us hl => match us, hl with | [_, _, _], _ => rfl),
      CL.def_mk KX G ?a16 ?l16 ?c16 ?k16 (fun _ _ _ _ _ _ us hl => match us, hl with | [_, _, _], _ => rfl),
      CL.def_mk KX G ?a17 ?l17 ?c17 ?k17 (fun _ _ _ _ _ _ us hl => match us, hl with | [_, _, _], _ => rfl),
      CL.def_mk KX G ?a18 ?l18 ?c18 ?k18 (fun _ _ _ _ _ _ us hl => match us, hl with | [_, _], _ => rfl),
      CL.def_mk KX G ?a19 ?l19 ?c19 ?k19 (fun _ _ _ _ _ _ us hl => match us, hl with | [_, _, _], _ => rfl),
      CL.def_mk KX G ?a20 ?l20 ?c20 ?k20 (fun _ _ _ _ _ _ us hl => match us, hl with | [_, _, _], _ => rfl),
      CL.def_mk KX G ?a21 ?l21 ?c21 ?k21 (fun _ _ _ _ _ _ us hl => match us, hl with | [_, _, _], _ => rfl),
      CL.def_mk KX G ?a22 ?l22 ?c22 ?k22 (fun _ _ _ _ _ _ us hl => match us, hl with | [_, _, _], _ => rfl),
      CL.def_mk KX G ?a23 ?l23 ?c23 ?k23 (fun _ _ _ _ _ _ us hl => match us, hl with | [_, _, _], _ => rfl),
      CL.def_mk KX G ?a24 ?l24 ?c24 ?k24 (fun _ _ _ _ _ _ us hl => match us, hl with | [_, _], _ => rfl),
      CL.def_mk KX G ?a25 ?l25 ?c25 ?k25 (fun _ _ _ _ _ _ us hl => match us, hl with | [_], _ => rfl),
      CL.def_mk KX G ?a26 ?l26 ?c26 ?k26 (fun _ _ _ _ _ _ us hl => match us, hl with | [_, _], _ => rfl),
      CL.def_mk KX G ?a27 ?l27 ?c27 ?k27 (fun _ _ _ _ _ _ us hl => match us, hl with | [_, _, _], _ => rfl),
      CL.def_mk KX G ?a28 ?l28 ?c28 ?k28 (fun _ _ _ _ _ _ us hl => match us, hl with | [_, _, _], _ => rfl),
      CL.def_mk KX G ?a29 ?l29 ?c29 ?k29 (fun _ _ _ _ _ _ us hl => match us, hl with | [_, _], _ => rfl),
      CL.def_mk KX G ?a30 ?l30 ?c30 ?k30 (fun _ _ _ _ _ _ us hl => match us, hl with | [_, _], _ => rfl),
      CL.def_mk KX G ?a31 ?l31 ?c31 ?k31 (fun _ _ _ _ _ _ us hl => match us, hl with | [_, _], _ => rfl),
      CL.def_mk KX G ?a32 ?l32 ?c32 ?k32 (fun _ _ _ _ _ _ us hl => match us, hl with | [_, _], _ => rfl)⟩
      ?a ?l ?c ?k
    (case b_isi => k_is)
    (case b_int => k_is)
    (case b_bool => k_is)
    (case b_tuple => k_is)
    (case b_len => k_is)
    (case b_range => k_is)
    (case b_enum => k_is)
    (case b_sorted => k_is)
    (case b_min => k_is)
    (case b_sum => k_is)
    (case b_all => k_is)
    (case b_list => k_is)
    (case b_mp => k_is)
    (case b_mc => k_is)
    (case b_md => k_is)
    (case a0 => k_is)
    (case l0 => k_is)
    (case c0 => k_is)
    (case k0 => k_is)
    (case a1 => k_is)
    (case l1 => k_is)
    (case c1 => k_is)
    (case k1 => k_is)
    (case a2 => k_is)
    (case l2 => k_is)
    (case c2 => k_is)
    (case k2 => k_is)
    (case a3 => k_is)
    (case l3 => k_is)
    (case c3 => k_is)
    (case k3 => k_is)
    (case a4 => k_is)
    (case l4 => k_is)
    (case c4 => k_is)
    (case k4 => k_is)
    (case a5 => k_is)
    (case l5 => k_is)
    (case c5 => k_is)
    (case k5 => k_is)
    (case a6 => k_is)
    (case l6 => k_is)
    (case c6 => k_is)
    (case k6 => k_is)
    (case a7 => k_is)
    (case l7 => k_is)
    (case c7 => k_is)
    (case k7 => k_is)
    (case a8 => k_is)
    (case l8 => k_is)
    (case c8 => k_is)
    (case k8 => k_is)
    (case a9 => k_is)
    (case l9 => k_is)
    (case c9 => k_is)
    (case k9 => k_is)
    (case a10 => k_is)
    (case l10 => k_is)
    (case c10 => k_is)
    (case k10 => k_is)
    (case a11 => k_is)
    (case l11 => k_is)
    (case c11 => k_is)
    (case k11 => k_is)
    (case a12 => k_is)
    (case l12 => k_is)
    (case c12 => k_is)
    (case k12 => k_is)
    (case a13 => k_is)
    (case l13 => k_is)
    (case c13 => k_is)
    (case k13 => k_is)
    (case a14 => k_is)
    (case l14 => k_is)
    (case c14 => k_is)
    (case k14 => k_is)
    (case a15 => k_is)
    (case l15 => k_is)
    (case c15 => k_is)
    (case k15 => k_is)
    (case a16 => k_is)
    (case l16 => k_is)
    (case c16 => k_is)
    (case k16 => k_is)
    (case a17 => k_is)
    (case l17 => k_is)
    (case c17 => k_is)
    (case k17 => k_is)
    (case a18 => k_is)
    (case l18 => k_is)
    (case c18 => k_is)
    (case k18 => k_is)
    (case a19 => k_is)
    (case l19 => k_is)
    (case c19 => k_is)
    (case k19 => k_is)
    (case a20 => k_is)
    (case l20 => k_is)
    (case c20 => k_is)
    (case k20 => k_is)
    (case a21 => k_is)
    (case l21 => k_is)
    (case c21 => k_is)
    (case k21 => k_is)
    (case a22 => k_is)
    (case l22 => k_is)
    (case c22 => k_is)
    (case k22 => k_is)
    (case a23 => k_is)
    (case l23 => k_is)
    (case c23 => k_is)
    (case k23 => k_is)
    (case a24 => k_is)
    (case l24 => k_is)
    (case c24 => k_is)
    (case k24 => k_is)
    (case a25 => k_is)
    (case l25 => k_is)
    (case c25 => k_is)
    (case k25 => k_is)
    (case a26 => k_is)
    (case l26 => k_is)
    (case c26 => k_is)
    (case k26 => k_is)
    (case a27 => k_is)
    (case l27 => k_is)
    (case c27 => k_is)
    (case k27 => k_is)
    (case a28 => k_is)
    (case l28 => k_is)
    (case c28 => k_is)
    (case k28 => k_is)
    (case a29 => k_is)
    (case l29 => k_is)
    (case c29 => k_is)
    (case k29 => k_is)
    (case a30 => k_is)
    (case l30 => k_is)
    (case c30 => k_is)
    (case k30 => k_is)
    (case a31 => k_is)
    (case l31 => k_is)
    (case c31 => k_is)
    (case k31 => k_is)
    (case a32 => k_is)
    (case l32 => k_is)
    (case c32 => k_is)
    (case k32 => k_is)
    (case a => k_is)
    (case l => k_is)
    (case c => k_is)
    (case k => k_is)
#print axioms PySem.Challenge.cw_counterlines_k81_whole_quotients_counted_holds
