import PyProof.Rows.All
import Wide.All
import OpenK.AllK
import Wide.FinOn
import HandS.ForMost
import HandS.GenList
import HandS.TupAny
import KE.GoesComp2
import KE.GoesEnum
import PyProof.RulesMatch
import HandS.Lambda
import HandS.Iter
import HandS.Conv
import HandS.IsInst
import PySem.Challenge.RW_tablelaws_k68_trails_listed
import HandS.Evl
set_option Elab.async false
set_option linter.all false
set_option maxRecDepth 100000
set_option maxHeartbeats 8100000
namespace TG
open PySem PySem.Spec PyProof.Rows L2

/-! ### the mirror of the trails -/
def longer (t : List Int) (p : Int) : Nat → List (Int × Int) → List (List Int × Int)
  | _, [] => []
  | k, a :: r => (if a.1 = p ∧ (k : Int) ∉ t then [(t ++ [(k : Int)], a.2)] else []) ++ longer t p (k + 1) r
def round (ars : List (Int × Int)) (f : List (List Int × Int)) : List (List Int × Int) := f.flatMap fun x => longer x.1 x.2 1 ars
def rounds (ars : List (Int × Int)) : Nat → List (List Int × Int) → List (List Int × Int)
  | 0, f => f
  | n + 1, f => rounds ars n (round ars f)

theorem longer_append (t : List Int) (p : Int) : ∀ (k : Nat) (a b : List (Int × Int)), longer t p k (a ++ b) = longer t p k a ++ longer t p (k + a.length) b
  | k, [], b => by simp [longer]
  | k, x :: a, b => by
    have e : k + (x :: a).length = k + 1 + a.length := by simp only [List.length_cons]; omega
    rw [List.cons_append, longer, longer, longer_append t p (k + 1) a b, e, List.append_assoc]
theorem longer_take (t : List Int) (p : Int) (ars : List (Int × Int)) (j : Nat) (a : Int × Int) (h : ars[j]? = some a) :
    longer t p 1 (ars.take (j + 1)) = longer t p 1 (ars.take j) ++ (if a.1 = p ∧ (1 + (j : Int)) ∉ t then [(t ++ [1 + (j : Int)], a.2)] else []) := by
  have hl : (ars.take j).length = j := by
    rw [List.length_take]
    have := (List.getElem?_eq_some_iff.mp h).1
    omega
  rw [List.take_add_one, h, longer_append, hl]
  show _ ++ longer t p (1 + j) [a] = _
  rw [longer, longer, List.append_nil]
  have e : ((1 + j : Nat) : Int) = 1 + (j : Int) := by omega
  rw [e]
theorem round_take (ars : List (Int × Int)) (f : List (List Int × Int)) (i : Nat) (x : List Int × Int) (h : f[i]? = some x) :
    round ars (f.take (i + 1)) = round ars (f.take i) ++ longer x.1 x.2 1 ars := by
  rw [List.take_add_one, h]
  show List.flatMap _ (_ ++ [x]) = _
  rw [List.flatMap_append, List.flatMap_cons, List.flatMap_nil, List.append_nil]
  rfl

/-! ### what stands in the heap -/
/-- v is the pair of a trail and a point, none of its tuples at W -/
def Item (lo : Nat) (W : List Addr) (h : Heap) (v : Value) (x : List Int × Int) : Prop :=
  ∃ (p t : Addr) (tk : Tok) (its : List Value), v = .ref p ∧ (p ∉ W ∧ lo ≤ p) ∧ (t ∉ W ∧ lo ≤ t) ∧ IsTup h p #[.ref t, .int x.2 tk] ∧ IsTup h t its.toArray ∧ IntsAre its x.1
def Arr (h : Heap) (v : Value) (x : Int × Int) : Prop := ∃ (p : Addr) (t1 t2 : Tok), v = .ref p ∧ IsTup h p #[.int x.1 t1, .int x.2 t2]
theorem pmono {α β : Type} {F G : α → β → Prop} (f : ∀ a b, F a b → G a b) : ∀ {l : List α} {m : List β}, Paired F l m → Paired G l m
  | _, _, .nil => .nil
  | _, _, .cons r t => .cons (f _ _ r) (pmono f t)
theorem pget {α β : Type} {F : α → β → Prop} : ∀ {l : List α} {m : List β} {i : Nat} {a : α}, Paired F l m → l[i]? = some a → ∃ b, m[i]? = some b ∧ F a b
  | _, _, _, _, .nil, e => by simp at e
  | _, _, 0, _, .cons r _, e => by simp at e; subst e; exact ⟨_, rfl, r⟩
  | _, _, i + 1, a, .cons _ t, e => by
    obtain ⟨u, h1, h2⟩ := pget (i := i) (a := a) t (by simpa using e)
    exact ⟨u, by simpa using h1, h2⟩
theorem plen {α β : Type} {F : α → β → Prop} : ∀ {l : List α} {m : List β}, Paired F l m → l.length = m.length
  | _, _, .nil => rfl
  | _, _, .cons _ t => by rw [List.length_cons, List.length_cons, plen t]
theorem papp {α β : Type} {F : α → β → Prop} : ∀ {l : List α} {m : List β} {l' : List α} {m' : List β}, Paired F l m → Paired F l' m' → Paired F (l ++ l') (m ++ m')
  | _, _, _, _, .nil, s => s
  | _, _, _, _, .cons r t, s => .cons r (papp t s)
theorem tup_at {h h' : Heap} {a : Addr} {its : Array Value} (x : IsTup h a its) (e : ∀ o, h.get? a = some o → h'.get? a = some o) : IsTup h' a its :=
  let ⟨o, ho, r⟩ := x
  ⟨o, e o ho, r⟩
theorem Item.keep {lo : Nat} {W : List Addr} {h h' : Heap} {v : Value} {x : List Int × Int} (i : Item lo W h v x) (k : ∀ b o, b ∉ W → h.get? b = some o → h'.get? b = some o) : Item lo W h' v x := by
  obtain ⟨p, t, tk, its, e, hp, ht, i1, i2, i3⟩ := i
  exact ⟨p, t, tk, its, e, hp, ht, tup_at i1 fun o q => k p o hp.1 q, tup_at i2 fun o q => k t o ht.1 q, i3⟩
theorem Item.sub {lo : Nat} {W W' : List Addr} {h : Heap} {v : Value} {x : List Int × Int} (i : Item lo W h v x) (k : ∀ b, b ∈ W' → b ∈ W ∨ h.objs.size ≤ b) : Item lo W' h v x := by
  obtain ⟨p, t, tk, its, e, hp, ht, i1, i2, i3⟩ := i
  refine ⟨p, t, tk, its, e, ⟨fun m => ?_, hp.2⟩, ⟨fun m => ?_, ht.2⟩, i1, i2, i3⟩
  · rcases k p m with z | z
    · exact hp.1 z
    · exact absurd (Nat.lt_of_lt_of_le i1.lt z) (Nat.lt_irrefl _)
  · rcases k t m with z | z
    · exact ht.1 z
    · exact absurd (Nat.lt_of_lt_of_le i2.lt z) (Nat.lt_irrefl _)
theorem Arr.keep {h h' : Heap} {v : Value} {x : Int × Int} (i : Arr h v x) (k : ∀ b o, h.get? b = some o → h'.get? b = some o) : Arr h' v x := by
  obtain ⟨p, t1, t2, e, q⟩ := i
  exact ⟨p, t1, t2, e, q.keeps k⟩
def isI (n : Int) : Value → Bool
  | .int i _ => i == n
  | _ => false
theorem ints_any {n : Int} {A : Around} {s : Shared} {tk : Tok} {its : List Value} {t : List Int} (h : IntsAre its t) :
    (∀ y ∈ its, SeqAt.EqAt A s y (.int n tk) (isI n y)) ∧ its.any (isI n) = t.any (· == n) := by
  induction h with
  | nil => exact ⟨fun y h => (nomatch h), rfl⟩
  | cons i tk' r ih =>
    obtain ⟨h1, h2⟩ := ih
    refine ⟨fun y hy => ?_, ?_⟩
    · rcases List.mem_cons.mp hy with e | hy
      · subst e
        have := L2.eqAt_V (A := A) (s := s) (y := .int i) (x := .int n) (u := .int i tk') (v := .int n tk) ⟨_, rfl⟩ ⟨_, rfl⟩ rfl rfl
        have e : L2.eqV (.int i) (.int n) = (i == n) := rfl
        rw [e] at this
        exact this
      · exact h1 y hy
    · simp only [List.any_cons, h2, isI]
theorem any_iff (t : List Int) (n : Int) : (!t.any (· == n)) = decide (n ∉ t) := by
  by_cases h : n ∈ t
  · have : t.any (· == n) = true := List.any_eq_true.mpr ⟨n, h, by simp⟩
    simp [this, h]
  · have : t.any (· == n) = false := by
      rw [List.any_eq_false]
      intro x hx e
      exact h ((by simpa using e : x = n) ▸ hx)
    simp [this, h]
end TG

namespace TG
open PySem PySem.Spec PyProof.Rows L2

/-- the comprehension's scope -/
def scC : Scope := { kind := .function, names := [((".0" : Str), .local), ("trail", .local), ("point", .local), ("number", .local), ("tail", .local), ("head", .local), ("enumerate", .globalImplicit), ("arrows", .free)], isGenerator := false, isCoroutine := false, more := [] }
/-- an env of the generator's -/
structure GEnv (env : Env) (c0 : Addr) : Prop where
  kind : env.scope.kind = .function
  ka : env.kindOf "arrows" = some .cell
  kf : env.kindOf "found" = some .local
  ku : env.kindOf "_" = some .local
  ks : env.kindOf "start" = some .local
  ke : env.kindOf "end" = some .local
  kt : env.kindOf "trail" = some .local
  kp : env.kindOf "point" = some .local
  cells : env.cells.lookup ("arrows" : Str) = some c0
abbrev ce (env : Env) (c0 C : Addr) : Env := compEnvC scC [(("arrows" : Str), c0)] C env
section
variable {env : Env} {c0 C : Addr}
theorem GEnv.kc (g : GEnv env c0) {x : Str} (h : scC.names.lookup x = some .local) : (ce env c0 C).kindOf x = some .local := lookup_relabel_local h
theorem GEnv.kA (g : GEnv env c0) : (ce env c0 C).kindOf "arrows" = some .cell := by
  have h1 : (env.scope.kind == ScopeKind.function) = true := by rw [g.kind]; rfl
  have h2 : (env.kindOf "arrows" == some NameKind.cell) = true := by rw [g.ka]; rfl
  unfold Env.kindOf
  simp only [ce, compEnvC, relabel, scC, List.map]
  have n1 : (NameKind.local == NameKind.free) = false := by decide
  have n2 : (NameKind.globalImplicit == NameKind.free) = false := by decide
  have n3 : (NameKind.free == NameKind.free) = true := by decide
  simp only [h1, h2, n1, n2, n3, Bool.and_true, Bool.false_and, Bool.false_eq_true, if_false, if_true]
  decide +kernel
theorem GEnv.kE (g : GEnv env c0) : (ce env c0 C).kindOf "enumerate" = some .globalImplicit := by
  have h1 : (env.scope.kind == ScopeKind.function) = true := by rw [g.kind]; rfl
  have h2 : (env.kindOf "arrows" == some NameKind.cell) = true := by rw [g.ka]; rfl
  unfold Env.kindOf
  simp only [ce, compEnvC, relabel, scC, List.map]
  have n1 : (NameKind.local == NameKind.free) = false := by decide
  have n2 : (NameKind.globalImplicit == NameKind.free) = false := by decide
  have n3 : (NameKind.free == NameKind.free) = true := by decide
  simp only [h1, h2, n1, n2, n3, Bool.and_true, Bool.false_and, Bool.false_eq_true, if_false, if_true]
  decide +kernel
theorem GEnv.kk (g : GEnv env c0) : (ce env c0 C).scope.kind = .function := rfl
theorem GEnv.clos (g : GEnv env c0) : closureFor scC env = pure [(("arrows" : Str), c0)] := by
  unfold closureFor
  simp only [scC, List.forIn_cons, List.forIn_nil]
  unfold cellOf
  rw [g.cells]
  rfl
end
end TG

namespace TG
open PySem PySem.Spec PyProof.Rows L2

/-- the second clause's target, its test, the element -/
def tgt2 (p1 p2 p3 p4 p5 : Pos) (k1 k2 : Nat) : Expr := .Tuple [.Name "number" p1, .Tuple [.Name "tail" p2, .Name "head" p3] k1 p4] k2 p5
def tst2 (p1 p2 p3 p4 p5 p6 p7 : Pos) : Expr := .BoolOp .And [.Compare (.Name "tail" p1) [.Eq] [.Name "point" p2] p3, .Compare (.Name "number" p4) [.NotIn] [.Name "trail" p5] p6] p7
def elt2 (p1 p2 p3 p4 p5 p6 : Pos) (k1 k2 : Nat) : Expr := .Tuple [.BinOp (.Name "trail" p1) .Add (.Tuple [.Name "number" p2] k1 p3) p4, .Name "head" p5] k2 p6
def itr2 (p1 p2 p3 p4 : Pos) (k1 : Nat) : Expr := .Call (.Name "enumerate" p1) [.Name "arrows" p2, .Constant (.int 1) k1 p3] [] p4

theorem ne_of_lt' {a b : Nat} (h : a < b) : a ≠ b := by omega
theorem not_mem4 {a b c : Nat} {l : List Nat} (h1 : a ≠ b) (h2 : a ≠ c) (h3 : a ∉ l) : a ∉ b :: c :: l := by
  intro h
  rcases List.mem_cons.mp h with e | h
  · exact h1 e
  rcases List.mem_cons.mp h with e | h
  · exact h2 e
  · exact h3 h
section
variable {P : Program} {w : World} {A : Around} {env : Env} {c0 C : Addr}

/-- the test: is the arrow to be taken -/
theorem test_ok {E : Value → Shared → Prop} {s : Shared} {m : Str → Option Value} {p1 p2 p3 p4 p5 p6 p7 : Pos} {a p n : Int} {t1 t2 t3 : Tok} {tr : Addr} {its : List Value} {t : List Int} {Q : Bool → Shared → Prop} (g : GEnv env c0)
    (hn : s.heap.Ns C m) (h1 : m "tail" = some (.int a t1)) (h2 : m "point" = some (.int p t2)) (h3 : m "number" = some (.int n t3)) (h4 : m "trail" = some (.ref tr)) (ht : IsTup s.heap tr its.toArray) (hi : IntsAre its t)
    (hQ : Q (decide (a = p ∧ n ∉ t)) s) : wpAny (model P w) A (testsOf [tst2 p1 p2 p3 p4 p5 p6 p7] (ce env c0 C)) Q E s := by
  refine wpAny_tests_one ?_
  refine isTrue_and (wpAny_isTrue_Compare1 (wpAny_Name (wpAny_loadName_local g.kk (g.kc (by decide +kernel)) hn h1 ?_)))
  refine wpAny_Name (wpAny_loadName_local g.kk (g.kc (by decide +kernel)) hn h2 ?_)
  refine PyProof.Rows.eq_int (wpAny_truthy_bool ?_)
  by_cases e : a = p
  · have e1 : (a == p) = true := by simp [e]
    rw [e1, if_pos rfl]
    refine isTrue_and (wpAny_isTrue_Compare1 (wpAny_Name (wpAny_loadName_local g.kk (g.kc (by decide +kernel)) hn h3 ?_)) (by rfl))
    refine wpAny_Name (wpAny_loadName_local g.kk (g.kc (by decide +kernel)) hn h4 ?_)
    obtain ⟨q1, q2⟩ := ints_any (n := n) (A := A.in1) (s := s) (tk := t3) hi
    refine SeqAt.notIn_tupleAt (isI n) (show s.heap.IsTuple tr its.toArray from ht) (fun y hy => q1 y (by simpa using hy)) (wpAny_truthy_bool ?_)
    have e2 : (!(its.toArray.any (isI n))) = decide (a = p ∧ n ∉ t) := by
      rw [show its.toArray.any (isI n) = its.any (isI n) by simp, q2, any_iff]
      simp [e]
    rw [e2]
    cases hd : decide (a = p ∧ n ∉ t) with
    | true =>
      rw [if_pos rfl]
      refine isTrue_and_nil ?_
      rw [hd] at hQ
      exact hQ
    | false =>
      rw [if_neg Bool.false_ne_true]
      rw [hd] at hQ
      exact hQ
  · have e1 : (a == p) = false := by simp [e]
    rw [e1, if_neg Bool.false_ne_true]
    have e2 : decide (a = p ∧ n ∉ t) = false := by simp [e]
    rw [e2] at hQ
    exact hQ

/-- the element: a new pair -/
theorem elt_ok {E : Value → Shared → Prop} {s : Shared} {m : Str → Option Value} {p1 p2 p3 p4 p5 p6 : Pos} {k1 k2 : Nat} {n b : Int} {t3 t5 : Tok} {tr : Addr} {its : List Value} {t : List Int} {lo : Nat} {Q : Value → Shared → Prop} (g : GEnv env c0) (hlo : lo ≤ s.heap.objs.size)
    (hn : s.heap.Ns C m) (h3 : m "number" = some (.int n t3)) (h4 : m "trail" = some (.ref tr)) (h5 : m "head" = some (.int b t5)) (ht : IsTup s.heap tr its.toArray) (hi : IntsAre its t) (hz : t.length + 1 ≤ sizeLine)
    (hQ : ∀ v h', (∀ c o, s.heap.get? c = some o → h'.get? c = some o) → (∀ W : List Addr, (∀ x ∈ W, x < s.heap.objs.size) → Item lo W h' v (t ++ [n], b)) → Q v { s with heap := h' }) :
    wpAny (model P w) A (eval (elt2 p1 p2 p3 p4 p5 p6 k1 k2) (ce env c0 C)) Q E s := by
  have hil : its.length = t.length := by
    clear hQ ht
    induction hi with
    | nil => rfl
    | cons _ _ _ ih => simp only [List.length_cons] at hz ⊢; rw [ih (by omega)]
  refine wpAny_Tuple_spliced ?_
  refine Calls.spliced_cons (wpAny_BinOp (wpAny_Name (wpAny_loadName_local g.kk (g.kc (by decide +kernel)) hn h4 ?_)))
  refine wpAny_Tuple_spliced ?_
  refine Calls.spliced_cons (wpAny_Name (wpAny_loadName_local g.kk (g.kc (by decide +kernel)) hn h3 ?_))
  refine Calls.spliced_nil ⟨by show 1 ≤ sizeLine; decide, ?_⟩
  generalize hH1 : s.heap.push { cls := .type "tuple", data := .seq [Value.int n t3].toArray } = H1
  have k1 : ∀ c o, s.heap.get? c = some o → H1.get? c = some o := fun c o e => hH1 ▸ Heap.get?_push_of_some _ e
  have hu : IsTup H1 s.heap.objs.size [Value.int n t3].toArray := hH1 ▸ IsTup.new s.heap _
  have z1 : H1.objs.size = s.heap.objs.size + 1 := by rw [← hH1, Heap.size_push]
  have fin : ∀ (q : Addr) (H2 : Heap) (js : List Value), s.heap.objs.size ≤ q → (∀ c o, s.heap.get? c = some o → H2.get? c = some o) → IsTup H2 q js.toArray → IntsAre js (t ++ [n]) →
      wpAny (model P w) A (spliced (backTo p6 (starEach [.Name "head" p5] (ce env c0 C)))) (fun vs s₁ => (Value.ref q :: vs).length ≤ sizeLine ∧ Q (.ref s₁.heap.objs.size) { s₁ with heap := s₁.heap.push { cls := .type "tuple", data := .seq (Value.ref q :: vs).toArray } }) E { s with heap := H2 } := by
    intro q H2 js hq k2 hj hi2
    refine Calls.spliced_cons (wpAny_Name (wpAny_loadName_local g.kk (g.kc (by decide +kernel)) (hn.at' fun o e => k2 _ o e) h5 ?_))
    refine Calls.spliced_nil ⟨by show 2 ≤ sizeLine; decide, ?_⟩
    refine hQ _ _ (fun c o e => Heap.get?_push_of_some _ (k2 c o e)) fun W hW => ?_
    refine ⟨_, q, t5, js, rfl, ⟨fun hm => ?_, Nat.le_trans hlo (Nat.le_of_lt (Nat.lt_of_le_of_lt hq hj.lt))⟩, ⟨fun hm => ?_, Nat.le_trans hlo hq⟩, IsTup.new H2 _, hj.push _, hi2⟩
    · exact absurd (Nat.lt_of_lt_of_le (hW _ hm) (Nat.le_of_lt (Nat.lt_of_le_of_lt hq hj.lt))) (Nat.lt_irrefl _)
    · exact absurd (Nat.lt_of_lt_of_le (hW _ hm) hq) (Nat.lt_irrefl _)
  have happ : IntsAre (its ++ [Value.int n t3]) (t ++ [n]) := by
    clear hQ ht fin hil hz h4
    induction hi with
    | nil => exact .cons _ _ .nil
    | cons i tk r ih => exact .cons _ _ ih
  by_cases he : its = []
  · subst he
    cases hi
    refine L2.cat_tup0 (s := { s with heap := H1 }) (tup_at ht fun o e => k1 _ o e) hu ?_
    exact fin _ H1 [Value.int n t3] (Nat.le_refl _) k1 hu happ
  · refine HT.cat_tup (s := { s with heap := H1 }) (vs := its) (ws := [Value.int n t3]) (tup_at ht fun o e => k1 _ o e) hu he (fun z => nomatch z) (fun _ => ?_) (by rw [hil]; exact hz)
    refine fin _ _ (its ++ [Value.int n t3]) ?_ (fun c o e => Heap.get?_push_of_some _ (k1 c o e)) (IsTup.new H1 _) happ
    show s.heap.objs.size ≤ H1.objs.size
    rw [z1]
    exact Nat.le_succ _
end
end TG

namespace TG
open PySem PySem.Spec PyProof.Rows L2

theorem lt_succ2 {a b : Nat} (h : a < b) : a ≠ b ∧ a ≠ b + 1 := by omega
theorem lt4 {a b c d : Nat} (h : b ≤ c) (h2 : c ≤ d) (h1 : a < b) : a < d := by omega
theorem nt1 : ¬ (("number" : Str) = "head") := by decide +kernel
theorem nt2 : ¬ (("number" : Str) = "tail") := by decide +kernel
theorem nt3 : ¬ (("tail" : Str) = "head") := by decide +kernel
theorem nt4 : ¬ (("trail" : Str) = "head") := by decide +kernel
theorem nt5 : ¬ (("trail" : Str) = "tail") := by decide +kernel
theorem nt6 : ¬ (("trail" : Str) = "number") := by decide +kernel
theorem nt7 : ¬ (("point" : Str) = "head") := by decide +kernel
theorem nt8 : ¬ (("point" : Str) = "tail") := by decide +kernel
theorem nt9 : ¬ (("point" : Str) = "number") := by decide +kernel
def Ms (m : Str → Option Value) (x : Str) (v : Value) : Str → Option Value := fun y => if y = x then some v else m y
section
variable {P : Program} {w : World} {A : Around} {env : Env} {c0 C : Addr}

/-- storing the second clause's item -/
theorem tgt_ok {E : Value → Shared → Prop} {s : Shared} {m : Str → Option Value} {p1 p2 p3 p4 p5 : Pos} {k1 k2 : Nat} {T pa : Addr} {n a b : Int} {t1 t2 t3 : Tok} {Q : Unit → Shared → Prop} (g : GEnv env c0) (hh : A.handled = none)
    (hn : s.heap.Ns C m) (hT : IsTup s.heap T #[.int n t1, .ref pa]) (hA : IsTup s.heap pa #[.int a t2, .int b t3]) (hc : pa ≠ C)
    (hQ : ∀ h' tk m', (∀ c o, c ≠ C → s.heap.get? c = some o → h'.get? c = some o) → h'.Ns C m' → m' "number" = some (.int n t1) → m' "tail" = some (.int a t2) → m' "head" = some (.int b t3) → m' "trail" = m "trail" → m' "point" = m "point" → s.toks ≤ tk →
      Q () { s with heap := h', toks := tk }) :
    wpAny (model P w) A (assign (tgt2 p1 p2 p3 p4 p5 k1 k2) (ce env c0 C) (.ref T)) Q E s := by
  have hp : ((ce env c0 C).scope.kind == .class || ((ce env c0 C).scope.kind == .module && (ce env c0 C).locals != (ce env c0 C).globals)) = false := rfl
  have up : ∀ {h h' : Heap}, Heap.ExtBut h.objs.size h h' → ∀ c o, h.get? c = some o → h'.get? c = some o := fun x c o e => x c o (Nat.ne_of_lt (Heap.lt_size e)) e
  have hCs : C < s.heap.objs.size := let ⟨_, _, _, e, _⟩ := hn; Heap.lt_size e
  refine wpAny_assign_Tuple hh (show s.heap.IsTuple T _ from hT) rfl rfl fun h1 x1 => ?_
  have u1 := up x1
  show wpAny _ _ (assignInOrder [assign (.Name "number" p1) _, assign (.Tuple [.Name "tail" p2, .Name "head" p3] k1 p4) _] [_, _]) _ _ _
  refine wpAny_assignInOrder_more (wpAny_assign_Name (wpAny_storeName_local (g.kc (by decide +kernel)) (hn.at' fun o e => u1 _ o e) (fun h2 n2 s2 => ?_) hp))
  refine wpAny_assignInOrder_more ?_
  refine wpAny_assign_Tuple hh (show Heap.IsTuple _ pa _ from tup_at hA fun o e => s2.extBut _ _ hc (u1 _ o e)) rfl rfl fun h3 x3 => ?_
  have u3 := up x3
  show wpAny _ _ (assignInOrder [assign (.Name "tail" p2) _, assign (.Name "head" p3) _] [_, _]) _ _ _
  refine wpAny_assignInOrder_more (wpAny_assign_Name (wpAny_storeName_local (g.kc (by decide +kernel)) (n2.at' fun o e => u3 _ o e) (fun h4 n4 s4 => ?_) hp))
  refine wpAny_assignInOrder_more (wpAny_assign_Name (wpAny_storeName_local (g.kc (by decide +kernel)) n4 (fun h5 n5 s5 => ?_) hp))
  refine wpAny_assignInOrder_none (wpAny_assignInOrder_none ?_)
  refine hQ h5 _ _ (fun c o hc' e => s5.extBut _ _ hc' (s4.extBut _ _ hc' (u3 _ _ (s2.extBut _ _ hc' (u1 _ _ e))))) n5 ?_ ?_ ?_ ?_ ?_ ?_
  · simp only [nt1, nt2, if_false, if_true]
  · simp only [nt3, if_false, if_true]
  · simp only [if_true]
  · simp only [nt4, nt5, nt6, if_false]
  · simp only [nt7, nt8, nt9, if_false]
  · show s.toks ≤ s.toks + 1 + 1 + 1
    omega

/-- the second clause, walked: the pairs that one pair gives -/
theorem inner_ok {Ee : Value → Shared → Prop} {s : Shared} {m : Str → Option Value} {E : Value → Shared → Prop} {a1 a2 a3 a4 a5 b1 b2 b3 b4 b5 b6 b7 d1 d2 d3 d4 d5 d6 e1 e2 e3 e4 : Pos} {k1 k2 k3 k4 k5 : Nat}
    {D ar tr : Addr} {ys : List Value} {acc : List (List Int × Int)} {aits its : List Value} {ars : List (Int × Int)} {t : List Int} {p : Int} {tp : Tok} {Wr : List Addr} {lo : Nat} {Out : List Value → Shared → Prop} (g : GEnv env c0) (hh : A.handled = none) (hlo : lo ≤ s.heap.objs.size)
    (hen : ∀ R : Value → Shared → Prop, R (.type "enumerate") s → wpAny (model P w) A (eval (.Name "enumerate" e1) (ce env c0 C)) R E s)
    (hn : s.heap.Ns C m) (ht : m "trail" = some (.ref tr)) (hp : m "point" = some (.int p tp)) (hT : IsTup s.heap tr its.toArray) (hi : IntsAre its t) (hc : s.heap.IsCell c0 (some (.ref ar))) (hal : s.heap.IsList ar aits.toArray)
    (hars : Paired (Arr s.heap) aits ars) (hD : s.heap.PlainList D ys.toArray) (hacc : Paired (Item lo (D :: C :: Wr) s.heap) ys acc) (hDC : D ≠ C) (hW : ∀ b ∈ Wr, b < s.heap.objs.size)
    (hz : t.length + 1 ≤ sizeLine) (hz2 : ys.length + ars.length ≤ sizeLine)
    (off : ∀ b, b = tr ∨ b = ar ∨ b = c0 ∨ (∃ v ∈ aits, v = .ref b) → b ∉ D :: C :: Wr)
    (hOut : ∀ h' tk m' ys', (∀ c o, c ∉ D :: C :: [] → s.heap.get? c = some o → h'.get? c = some o) → h'.Ns C m' → Paired (Item lo (D :: C :: Wr) h') ys' (acc ++ longer t p 1 ars) → s.toks ≤ tk → h'.PlainList D ys'.toArray → Out ys' { s with heap := h', toks := tk }) :
    wpAny (model P w) A (eval (itr2 e1 e2 e3 e4 k3) (ce env c0 C)) (fun xv s4 => wpAny (model P w) A (pyIter xv) (Lc2Inner P w A Ee (ce env c0 C) (tgt2 a1 a2 a3 a4 a5 k1 k2) [tst2 b1 b2 b3 b4 b5 b6 b7] (elt2 d1 d2 d3 d4 d5 d6 k4 k5) D ys Out) E s4) E s := by
  refine wpAny_Call_Name_kw (hen _ ?_)
  refine PyProof.Rows.callWith_type1 ?_ (by rfl) (by rfl)
  refine Calls.spliced_cons (wpAny_Name (wpAny_loadName_cell g.kk g.kA (by rfl) hc ?_))
  refine Calls.spliced_cons (wpAny_Constant_int (k := k3) (pos := e3) ?_)
  refine Calls.spliced_nil ?_
  refine enum_begins (begins_list ar aits.toArray) hal (by decide) (by decide) fun h1 hE hI hz1 k1 => ?_
  refine wpAny_pyIter_enum hE ?_
  have hCs : C < s.heap.objs.size := let ⟨_, _, _, e, _⟩ := hn; Heap.lt_size e
  have hDs : D < s.heap.objs.size := let ⟨_, e⟩ := hD; Heap.lt_size e
  have hals : ar < s.heap.objs.size := let ⟨_, e, _⟩ := hal; Heap.lt_size e
  have hcs : c0 < s.heap.objs.size := let ⟨_, e, _⟩ := hc; Heap.lt_size e
  obtain ⟨nC1, nC2⟩ := lt_succ2 hCs
  obtain ⟨nD1, nD2⟩ := lt_succ2 hDs
  have oar := off ar (.inr (.inl rfl))
  have oc0 := off c0 (.inr (.inr (.inl rfl)))
  have otr := off tr (.inl rfl)
  have small : ∀ b, b < s.heap.objs.size → b ∉ [s.heap.objs.size + 1, s.heap.objs.size] := fun b hb hm => by
    obtain ⟨q1, q2⟩ := lt_succ2 hb
    rcases List.mem_cons.mp hm with e | hm
    · exact q2 e
    · exact q1 (List.mem_singleton.mp hm)
  have inW : ∀ b, b ∉ D :: C :: Wr → b ∉ [D, C] := fun b h hm => h (by
    rcases List.mem_cons.mp hm with e | hm
    · exact e ▸ List.mem_cons_self
    · exact (List.mem_singleton.mp hm) ▸ List.mem_cons_of_mem _ List.mem_cons_self)
  have nW : ∀ b, b < s.heap.objs.size → b ∉ D :: C :: Wr → b ∉ D :: [s.heap.objs.size + 1, s.heap.objs.size] ∧ b ≠ C := fun b hb h => ⟨fun hm => by
    rcases List.mem_cons.mp hm with e | hm
    · exact h (e ▸ List.mem_cons_self)
    · exact small b hb hm, fun e => h (e ▸ List.mem_cons_of_mem _ List.mem_cons_self)⟩
  have hie : ∀ {h : Heap} {v : Value} {x : List Int × Int}, Item lo (D :: C :: (s.heap.objs.size + 1) :: s.heap.objs.size :: Wr) h v x → Item lo (D :: C :: Wr) h v x := fun i => i.sub fun b hb => .inl (by
    rcases List.mem_cons.mp hb with e | hb
    · exact e ▸ List.mem_cons_self
    rcases List.mem_cons.mp hb with e | hb
    · exact e ▸ List.mem_cons_of_mem _ List.mem_cons_self
    · exact List.mem_cons_of_mem _ (List.mem_cons_of_mem _ (List.mem_cons_of_mem _ (List.mem_cons_of_mem _ hb))))
  have iki : ∀ {h h' : Heap} {v : Value} {x : List Int × Int}, Item lo (D :: C :: (s.heap.objs.size + 1) :: s.heap.objs.size :: Wr) h v x → (∀ c o, c ∉ [D, C, s.heap.objs.size + 1, s.heap.objs.size] → h.get? c = some o → h'.get? c = some o) →
      Item lo (D :: C :: (s.heap.objs.size + 1) :: s.heap.objs.size :: Wr) h' v x := fun i k => i.keep fun b o hb e => k b o (fun hm => hb (by
    simp only [List.mem_cons, List.mem_nil_iff, or_false] at hm ⊢
    rcases hm with h | h | h | h
    · exact .inl h
    · exact .inr (.inl h)
    · exact .inr (.inr (.inl h))
    · exact .inr (.inr (.inr (.inl h))))) e
  refine ⟨s.heap.objs.size + 1, [s.heap.objs.size + 1, s.heap.objs.size, ar], [s.heap.objs.size + 1, s.heap.objs.size], aits.toArray.size, _, _,
    fun j ys' s' => ∃ h tk m', s' = { s with heap := h, toks := tk } ∧ (∀ c o, c ∉ [D, C, s.heap.objs.size + 1, s.heap.objs.size] → h1.get? c = some o → h.get? c = some o) ∧ h.Ns C m' ∧ m' "trail" = some (.ref tr) ∧ m' "point" = some (.int p tp) ∧
      Paired (Item lo (D :: C :: (s.heap.objs.size + 1) :: s.heap.objs.size :: Wr) h) ys' (acc ++ longer t p 1 (ars.take j)) ∧ ys'.length ≤ ys.length + j ∧ s.toks ≤ tk,
    rfl, Goes.enumFrom 1 (Draws.list (A := A.in1) hh s.heap.objs.size ar (Nat.ne_of_lt hals) aits.toArray) (s.heap.objs.size + 1) (Nat.ne_of_gt (Nat.lt_succ_self _)) ?_ ?_, ?_, ?_, ?_, ?_, ?_, ?_, ?_⟩
  · intro hm
    rcases List.mem_cons.mp hm with e | hm
    · exact Nat.succ_ne_self _ e
    · exact absurd (List.mem_singleton.mp hm).symm (lt_succ2 hals).2
  · exact List.mem_cons_self
  · intro hm
    rcases List.mem_cons.mp hm with e | hm
    · exact nD2 e
    rcases List.mem_cons.mp hm with e | hm
    · exact nD1 e
    · exact oar ((List.mem_singleton.mp hm) ▸ List.mem_cons_self)
  · exact ⟨⟨_, by rw [show (1 : Int) + ((0 : Nat) : Int) = 1 by rfl]; exact hE⟩, ⟨_, hI, rfl, rfl⟩, hal.at fun o e => k1 _ o e⟩
  · obtain ⟨n, e⟩ := hD
    exact ⟨n, k1 _ _ e⟩
  · refine ⟨h1, s.toks + 1, m, rfl, fun _ _ _ e => e, hn.at' fun o e => k1 _ o e, ht, hp, ?_, Nat.le_refl _, Nat.le_succ _⟩
    rw [List.take_zero, longer, List.append_nil]
    exact pmono (fun v x i => (i.sub fun b hb => (by
      rcases List.mem_cons.mp hb with e | hb
      · exact .inl (e ▸ List.mem_cons_self)
      rcases List.mem_cons.mp hb with e | hb
      · exact .inl (e ▸ List.mem_cons_of_mem _ List.mem_cons_self)
      rcases List.mem_cons.mp hb with e | hb
      · exact .inr (e ▸ Nat.le_succ _)
      rcases List.mem_cons.mp hb with e | hb
      · exact .inr (e ▸ Nat.le_refl _)
      · exact .inl (List.mem_cons_of_mem _ (List.mem_cons_of_mem _ hb)))).keep fun b o _ e => k1 b o e) hacc
  · rintro j ys' s' h' tk' ⟨h, tk, m', rfl, q1, q2, q3, q4, q5, q6, q7⟩ hk htk
    have hk' : ∀ c o, c ∉ [D, C, s.heap.objs.size + 1, s.heap.objs.size] → h.get? c = some o → h'.get? c = some o := fun c o hc' e => hk c o (fun hm => hc' (by
      simp only [List.mem_cons, List.mem_nil_iff, or_false] at hm ⊢
      rcases hm with h | h | h
      · exact .inl h
      · exact .inr (.inr (.inl h))
      · exact .inr (.inr (.inr h)))) e
    have hCk : C ∉ D :: [s.heap.objs.size + 1, s.heap.objs.size] := fun hm => by
      rcases List.mem_cons.mp hm with e | hm
      · exact hDC e.symm
      · exact small C hCs hm
    refine ⟨h', tk', m', rfl, fun c o hc' e => hk' c o hc' (q1 c o hc' e), q2.at' fun o e => hk C o hCk e, q3, q4, pmono (fun v x i => iki i hk') q5, q6, Nat.le_trans q7 htk⟩
  · rintro j v ys' s' hj ⟨T, tk1, x, rfl, hx, hTT⟩ st ⟨h, tk, m', rfl, q1, q2, q3, q4, q5, q6, q7⟩ hpl
    have hx' : aits[j]? = some x := by simpa using hx
    obtain ⟨a, ha, pa, t2, t3, ex, hpa⟩ := pget hars hx'
    obtain ⟨⟨old, hEn⟩, hIt, hAl⟩ := st
    have opa : pa ∉ D :: C :: Wr := off pa (.inr (.inr (.inr ⟨x, List.mem_of_getElem? hx', ex⟩)))
    have opa4 : ∀ b, b < s.heap.objs.size → b ∉ D :: C :: Wr → b ∉ [D, C, s.heap.objs.size + 1, s.heap.objs.size] := fun b hb ho hm => by
      rcases List.mem_cons.mp hm with e | hm
      · exact ho (e ▸ List.mem_cons_self)
      rcases List.mem_cons.mp hm with e | hm
      · exact ho (e ▸ List.mem_cons_of_mem _ List.mem_cons_self)
      · exact small b hb hm
    have hpa1 : IsTup h pa #[.int a.1 t2, .int a.2 t3] := tup_at hpa fun o e => q1 pa o (opa4 pa hpa.lt opa) (k1 _ o e)
    have hcpa : pa ≠ C := fun e => opa (e ▸ List.mem_cons_of_mem _ List.mem_cons_self)
    have htr1 : IsTup h tr its.toArray := tup_at hT fun o e => q1 tr o (opa4 tr hT.lt otr) (k1 _ o e)
    have hctr : tr ≠ C := fun e => otr (e ▸ List.mem_cons_of_mem _ List.mem_cons_self)
    have hes : s.heap.objs.size + 1 < h.objs.size := Heap.lt_size hEn
    have her := longer_take t p ars j a ha
    rw [ex] at hTT
    refine tgt_ok (s := { s with heap := h, toks := tk }) g hh q2 (show IsTup h T _ from hTT) hpa1 hcpa fun h2 tk2 m2 u2 n2 r1 r2 r3 r4 r5 htk2 => ?_
    have cN : ∀ b, b ∉ [D, C, s.heap.objs.size + 1, s.heap.objs.size] → b ≠ C := fun b hb e => hb (e ▸ List.mem_cons_of_mem _ List.mem_cons_self)
    have st2 : ∀ h' : Heap, (∀ c o, c ≠ C → h.get? c = some o → h'.get? c = some o) → ((∃ old, IsEnum h' (s.heap.objs.size + 1) s.heap.objs.size (1 + ((j + 1 : Nat) : Int)) old) ∧ h'.IsListIter s.heap.objs.size ar (j + 1) ∧ h'.IsList ar aits.toArray) ∧ h'.PlainList D ys'.toArray := fun h' u =>
      ⟨⟨⟨old, u _ _ (Ne.symm nC2) hEn⟩, hIt.at fun o e => u _ o (Ne.symm nC1) e, hAl.at fun o e => u _ o (fun e => oar (e ▸ List.mem_cons_of_mem _ List.mem_cons_self)) e⟩, let ⟨n, e⟩ := hpl; ⟨n, u _ _ hDC e⟩⟩
    refine test_ok (s := { s with heap := h2, toks := tk2 }) g n2 r2 (r5.trans q4) r1 (r4.trans q3) (tup_at htr1 fun o e => u2 _ o hctr e) hi ?_
    by_cases hd : a.1 = p ∧ (1 + (j : Int)) ∉ t
    · rw [decide_eq_true hd, if_pos rfl]
      have hes2 : s.heap.objs.size + 1 < h2.objs.size := Heap.lt_size (u2 _ _ (Ne.symm nC2) hEn)
      refine elt_ok (s := { s with heap := h2, toks := tk2 }) (lo := lo) g (Nat.le_trans hlo (Nat.le_of_lt (Nat.lt_of_succ_lt hes2))) n2 r1 (r4.trans q3) r3 (tup_at htr1 fun o e => u2 _ o hctr e) hi hz fun v3 h3 u3 i3 => ?_
      have u23 : ∀ c o, c ≠ C → h.get? c = some o → h3.get? c = some o := fun c o hc' e => u3 c o (u2 c o hc' e)
      obtain ⟨st3, pl3⟩ := st2 h3 u23
      have hja : j < ars.length := (List.getElem?_eq_some_iff.mp ha).1
      refine ⟨Nat.le_trans q6 (Nat.le_trans (Nat.add_le_add_left (Nat.le_of_lt hja) _) hz2), ⟨h3, tk2, m2, rfl, fun c o hc' e => u23 c o (cN c hc') (q1 c o hc' e), n2.at' fun o e => u3 _ o e, r4.trans q3, r5.trans q4, ?_, ?_, Nat.le_trans q7 htk2⟩, st3, pl3⟩
      · rw [her, if_pos hd, ← List.append_assoc]
        refine Paired.snoc (pmono (fun v x i => iki i fun c o hc' e => u23 c o (cN c hc') e) q5) (i3 _ fun b hb => ?_)
        rcases List.mem_cons.mp hb with e | hb
        · rw [e]
          exact Nat.lt_trans (lt4 (Nat.le_refl _) (Nat.le_succ _) hDs) hes2
        rcases List.mem_cons.mp hb with e | hb
        · rw [e]
          exact Nat.lt_trans (lt4 (Nat.le_refl _) (Nat.le_succ _) hCs) hes2
        rcases List.mem_cons.mp hb with e | hb
        · rw [e]
          exact hes2
        rcases List.mem_cons.mp hb with e | hb
        · rw [e]
          exact Nat.lt_of_succ_lt hes2
        · exact Nat.lt_trans (lt4 (Nat.le_refl _) (Nat.le_succ _) (hW b hb)) hes2
      · rw [List.length_append, List.length_singleton]
        exact Nat.succ_le_succ q6
    · rw [decide_eq_false hd, if_neg Bool.false_ne_true]
      obtain ⟨st3, pl3⟩ := st2 h2 u2
      refine ⟨⟨h2, tk2, m2, rfl, fun c o hc' e => u2 c o (cN c hc') (q1 c o hc' e), n2, r4.trans q3, r5.trans q4, ?_, Nat.le_succ_of_le q6, Nat.le_trans q7 htk2⟩, st3, pl3⟩
      rw [her, if_neg hd, List.append_nil]
      exact pmono (fun v x i => iki i fun c o hc' e => u2 c o (cN c hc') e) q5
  · rintro ys' s' ⟨h, tk, m', rfl, q1, q2, q3, q4, q5, q6, q7⟩ hpl
    have hsz : aits.toArray.size = ars.length := by rw [List.size_toArray]; exact plen hars
    rw [hsz, List.take_length] at q5
    refine hOut h tk m' ys' (fun c o hc' e => q1 c o (fun hm => ?_) (k1 c o e)) q2 (pmono (fun v x i => hie i) q5) q7 hpl
    simp only [List.mem_cons, List.mem_nil_iff, or_false] at hm hc'
    rcases hm with h | h | h | h
    · exact hc' (.inl h)
    · exact hc' (.inr h)
    · exact (lt_succ2 (Heap.lt_size e)).2 h
    · exact (lt_succ2 (Heap.lt_size e)).1 h
end
end TG

namespace TG
open PySem PySem.Spec PyProof.Rows L2

theorem longer_len (t : List Int) (p : Int) : ∀ (k : Nat) (ars : List (Int × Int)), (longer t p k ars).length ≤ ars.length
  | _, [] => Nat.le_refl _
  | k, a :: r => by
    have := longer_len t p (k + 1) r
    rw [longer, List.length_append, List.length_cons]
    split
    · simp only [List.length_cons, List.length_nil]; omega
    · simp only [List.length_nil]; omega
theorem round_len (ars : List (Int × Int)) : ∀ f : List (List Int × Int), (round ars f).length ≤ f.length * ars.length
  | [] => by simp [round]
  | x :: r => by
    have h1 := round_len ars r
    have h2 := longer_len x.1 x.2 1 ars
    unfold round at h1 ⊢
    rw [List.flatMap_cons, List.length_append, List.length_cons, Nat.add_mul, Nat.one_mul]
    omega
theorem lt3 {b S D C : Nat} (h : b < S) (h1 : S + 1 ≤ D) (h2 : S + 1 ≤ C) : b ≠ S ∧ b ≠ D ∧ b ≠ C := by omega
def lcomp (t1 t2 t3 : Pos) (q1 q2 : Nat) (f1 : Pos) (a1 a2 a3 a4 a5 b1 b2 b3 b4 b5 b6 b7 d1 d2 d3 d4 d5 d6 e1 e2 e3 e4 pos : Pos) (k1 k2 k3 k4 k5 : Nat) : Expr :=
  .ListComp (elt2 d1 d2 d3 d4 d5 d6 k4 k5) [⟨.Tuple [.Name "trail" t1, .Name "point" t2] q1 t3, .Name "found" f1, [], 0⟩, ⟨tgt2 a1 a2 a3 a4 a5 k1 k2, itr2 e1 e2 e3 e4 k3, [tst2 b1 b2 b3 b4 b5 b6 b7], 0⟩] scC pos
/-- what the arrows' list says -/
structure Ars (h : Heap) (c0 ar : Addr) (aits : List Value) (ars : List (Int × Int)) : Prop where
  cell : h.IsCell c0 (some (.ref ar))
  lst : h.IsList ar aits.toArray
  arr : Paired (Arr h) aits ars
theorem Ars.keep {h h' : Heap} {c0 ar : Addr} {aits : List Value} {ars : List (Int × Int)} (x : Ars h c0 ar aits ars) {L : Addr} {m : Str → Option Value} (hn : h.Ns L m) (k : ∀ b o, b ≠ L → h.get? b = some o → h'.get? b = some o) : Ars h' c0 ar aits ars := by
  obtain ⟨oL, es, ep, hL, hd, _⟩ := hn
  obtain ⟨⟨o1, e1, d1⟩, ⟨o2, e2, c2, n2, d2⟩, a⟩ := x
  have h1 : c0 ≠ L := fun z => by rw [z, hL] at e1; cases e1; rw [hd] at d1; cases d1
  have h2 : ar ≠ L := fun z => by rw [z, hL] at e2; cases e2; rw [hd] at d2; cases d2
  refine ⟨⟨o1, k _ _ h1 e1, d1⟩, ⟨o2, k _ _ h2 e2, c2, n2, d2⟩, pmono (fun v x i => ?_) a⟩
  obtain ⟨p, t1, t2, e, ⟨o, ho, hc, n, hd2⟩⟩ := i
  refine ⟨p, t1, t2, e, ⟨o, k _ _ (fun z => ?_) ho, hc, n, hd2⟩⟩
  rw [z, hL] at ho; cases ho; rw [hd] at hd2; cases hd2
theorem Ars.off {h : Heap} {c0 ar L : Addr} {m : Str → Option Value} {aits : List Value} {ars : List (Int × Int)} (x : Ars h c0 ar aits ars) (hn : h.Ns L m) : ∀ b, b = ar ∨ b = c0 ∨ (∃ v ∈ aits, v = .ref b) → b ≠ L ∧ b < h.objs.size := by
  obtain ⟨oL, es, ep, hL, hd, _⟩ := hn
  obtain ⟨⟨o1, e1, d1⟩, ⟨o2, e2, c2, n2, d2⟩, a⟩ := x
  rintro b (rfl | rfl | ⟨v, hv, rfl⟩)
  · exact ⟨fun z => (by rw [z, hL] at e2; cases e2; rw [hd] at d2; cases d2), Heap.lt_size e2⟩
  · exact ⟨fun z => (by rw [z, hL] at e1; cases e1; rw [hd] at d1; cases d1), Heap.lt_size e1⟩
  · obtain ⟨i, hi⟩ := List.mem_iff_getElem?.mp hv
    obtain ⟨y, _, p, t1, t2, e, ⟨o, ho, hc, n, hd2⟩⟩ := pget a hi
    cases e
    exact ⟨fun z => (by rw [z, hL] at ho; cases ho; rw [hd] at hd2; cases hd2), Heap.lt_size ho⟩
section
variable {P : Program} {w : World} {A : Around} {env : Env} {c0 : Addr}
/-- found = [..]: one round -/
theorem outer_ok {E : Value → Shared → Prop} {s : Shared} {m : Str → Option Value} {t1 t2 t3 : Pos} {q1 q2 : Nat} {f1 a1 a2 a3 a4 a5 b1 b2 b3 b4 b5 b6 b7 d1 d2 d3 d4 d5 d6 e1 e2 e3 e4 pos py spos : Pos} {k1 k2 k3 k4 k5 : Nat}
    {ar F : Addr} {aits fits : List Value} {ars : List (Int × Int)} {f : List (List Int × Int)} {Q : Flow → Shared → Prop} {Wx : List Addr} {lo : Nat} (g : GEnv env c0) (hh : A.handled = none) (hlo : lo ≤ s.heap.objs.size) (hl : py.line = pos.line)
    (hen : ∀ (C : Addr) (s' : Shared) (R E : Value → Shared → Prop), (∀ c o, c ≠ env.locals → s.heap.get? c = some o → s'.heap.get? c = some o) → R (.type "enumerate") s' → wpAny (model P w) A (eval (.Name "enumerate" e1) (ce env c0 C)) R E s')
    (hn : s.heap.Ns env.locals m) (hf : m "found" = some (.ref F)) (hF : s.heap.IsList F fits.toArray) (hfs : Paired (Item lo (env.locals :: Wx) s.heap) fits f) (hA : Ars s.heap c0 ar aits ars)
    (hx1 : ∀ b ∈ Wx, b < s.heap.objs.size) (hx2 : ∀ b, b = ar ∨ b = c0 ∨ (∃ v ∈ aits, v = .ref b) → b ∉ Wx) (hz : ∀ x ∈ f, x.1.length + 1 ≤ sizeLine) (hz2 : f.length * ars.length ≤ sizeLine)
    (hQ : ∀ h' tk D ys, (∀ c o, c ≠ env.locals → s.heap.get? c = some o → h'.get? c = some o) → h'.Ns env.locals (fun z => if z = "found" then some (.ref D) else m z) → h'.IsList D ys.toArray → s.heap.objs.size ≤ D → Paired (Item lo (env.locals :: Wx) h') ys (round ars f) → Q .next { s with heap := h', toks := tk }) :
    wpAny (model P w) A (exec (.Assign [.Name "found" py] (lcomp t1 t2 t3 q1 q2 f1 a1 a2 a3 a4 a5 b1 b2 b3 b4 b5 b6 b7 d1 d2 d3 d4 d5 d6 e1 e2 e3 e4 pos k1 k2 k3 k4 k5) spos) env) Q E s := by
  have hLs : env.locals < s.heap.objs.size := let ⟨_, _, _, e, _⟩ := hn; Heap.lt_size e
  have hFs : F < s.heap.objs.size := let ⟨_, e, _⟩ := hF; Heap.lt_size e
  have hcls : (env.scope.kind == .class || (env.scope.kind == .module && env.locals != env.globals)) = false := by rw [g.kind]; rfl
  refine Assign_ListComp2_goes (cl := [(("arrows" : Str), c0)]) (L2.sw_true g.kind g.kf (by rw [hl]; simp) (by decide +kernel)) g.clos (by decide +kernel) rfl (by decide +kernel) ?_
  refine wpAny_Name (wpAny_loadName_local g.kind g.kf hn hf ?_)
  refine wpAny_pyIter_list hF ?_
  refine ⟨s.heap.objs.size, _, _, _, _, _, rfl, Goes.list hh s.heap.objs.size F (Nat.ne_of_lt hFs) fits.toArray, ⟨⟨_, Heap.get?_push_size _ rfl, rfl, rfl⟩, hF.at fun o e => Heap.get?_push_of_some _ e⟩, fun b hb => ?_, fun D C s3 hB => ?_⟩
  · rw [List.mem_singleton.mp hb]
    show s.heap.objs.size < (s.heap.push _).objs.size
    rw [Heap.size_push]
    exact Nat.lt_succ_self _
  obtain ⟨⟨h3, tk3, rfl⟩, old, nD, nC, hDC, hnC⟩ := hB
  have eS : (s.heap.push { cls := .type "list_iterator", data := .fields #[.ref F, .int 0 0] }).objs.size = s.heap.objs.size + 1 := Heap.size_push ..
  have nD' : s.heap.objs.size + 1 ≤ D := by rw [← eS]; exact nD
  have nC' : s.heap.objs.size + 1 ≤ C := by rw [← eS]; exact nC
  have k3 : ∀ c o, s.heap.get? c = some o → h3.get? c = some o := fun c o e => old c o (Heap.get?_push_of_some _ e)
  have hCs3 : C < h3.objs.size := let ⟨_, _, _, e, _⟩ := hnC; Heap.lt_size e
  have sm : ∀ b, b < s.heap.objs.size → b ≠ env.locals → b ∉ Wx → b ∉ D :: C :: s.heap.objs.size :: env.locals :: Wx := fun b hb hbL hbx hm => by
    obtain ⟨z1, z2, z3⟩ := lt3 hb nD' nC'
    rcases List.mem_cons.mp hm with e | hm
    · exact z2 e
    rcases List.mem_cons.mp hm with e | hm
    · exact z3 e
    rcases List.mem_cons.mp hm with e | hm
    · exact z1 e
    rcases List.mem_cons.mp hm with e | hm
    · exact hbL e
    · exact hbx hm
  have hLC : env.locals ≠ C := (lt3 hLs nD' nC').2.2
  have hLD : env.locals ≠ D := (lt3 hLs nD' nC').2.1
  refine ⟨fun i ys s' => ∃ h tk mc, s' = { s with heap := h, toks := tk } ∧ (∀ c o, s.heap.get? c = some o → h.get? c = some o) ∧ h.Ns C mc ∧ Paired (Item lo (D :: C :: s.heap.objs.size :: env.locals :: Wx) h) ys (round ars (f.take i)), fun _ _ => False,
    ⟨h3, tk3, _, rfl, k3, hnC, by rw [List.take_zero]; exact .nil⟩, fun _ _ z => z.elim, ?_, fun _ => rfl, ?_, ?_⟩
  · rintro i ys s' h' tk' ⟨h, tk, mc, rfl, u, n, pr⟩ hk _
    have hk' : ∀ c o, c ≠ s.heap.objs.size → h.get? c = some o → h'.get? c = some o := fun c o hc e => hk c o (fun hm => hc (List.mem_singleton.mp hm)) e
    refine ⟨h', tk', mc, rfl, fun c o e => hk' c o (lt3 (Heap.lt_size e) nD' nC').1 (u c o e), n.at' fun o e => hk' C o (Nat.ne_of_gt nC') e, pmono (fun v x j => j.keep fun b o hb e => hk' b o (fun z => hb (z ▸ List.mem_cons_of_mem _ (List.mem_cons_of_mem _ List.mem_cons_self))) e) pr⟩
  · rintro i v ys s' hi hv ⟨st1, st2⟩ ⟨h, tk, mc, rfl, u, n, pr⟩ hpl
    have hv' : fits[i]? = some v := by simpa using hv
    obtain ⟨x, hx, p, t, tkp, its, rfl, hp, ht, i1, i2, i3⟩ := pget hfs hv'
    have i1h : IsTup h p _ := tup_at i1 fun o e => u p o e
    have i2h : IsTup h t _ := tup_at i2 fun o e => u t o e
    have hp' : ((ce env c0 C).scope.kind == .class || ((ce env c0 C).scope.kind == .module && (ce env c0 C).locals != (ce env c0 C).globals)) = false := rfl
    refine wpAny_assign_Tuple hh (show Heap.IsTuple _ p _ from i1h) rfl rfl fun h5 x5 => ?_
    have u5 : ∀ c o, h.get? c = some o → h5.get? c = some o := fun c o e => x5 c o (Nat.ne_of_lt (Heap.lt_size e)) e
    show wpAny _ _ (assignInOrder [assign (.Name "trail" t1) _, assign (.Name "point" t2) _] [_, _]) _ _ _
    refine wpAny_assignInOrder_more (wpAny_assign_Name (wpAny_storeName_local (g.kc (by decide +kernel)) (n.at' fun o e => u5 _ o e) (fun h6 n6 s6 => ?_) hp'))
    refine wpAny_assignInOrder_more (wpAny_assign_Name (wpAny_storeName_local (g.kc (by decide +kernel)) n6 (fun h7 n7 s7 => ?_) hp'))
    refine wpAny_assignInOrder_none (wpAny_tests_nil ?_)
    rw [if_pos rfl]
    have u7 : ∀ c o, c ≠ C → h.get? c = some o → h7.get? c = some o := fun c o hc e => s7.extBut _ _ hc (s6.extBut _ _ hc (u5 _ _ e))
    have nC : ∀ {c o}, s.heap.get? c = some o → c ≠ C := fun e => (lt3 (Heap.lt_size e) nD' nC').2.2
    have o7 : ∀ c o, s.heap.get? c = some o → h7.get? c = some o := fun c o e => u7 c o (nC e) (u c o e)
    have hIh : s.heap.objs.size < h7.objs.size := by
      obtain ⟨oo, eo, _⟩ := id st1
      exact Heap.lt_size (u7 _ oo (Nat.ne_of_lt nC') eo)
    have hA7 : Ars h7 c0 ar aits ars := hA.keep hn fun c o _ e => o7 c o e
    have hiF : i < f.length := (List.getElem?_eq_some_iff.mp hx).1
    have hlen : ys.length = (round ars (f.take i)).length := plen pr
    have hrl := round_len ars (f.take i)
    rw [List.length_take, Nat.min_eq_left (Nat.le_of_lt hiF)] at hrl
    have hb : ys.length + ars.length ≤ sizeLine := by
      rw [hlen]
      refine Nat.le_trans (Nat.add_le_add_right hrl _) (Nat.le_trans ?_ hz2)
      rw [← Nat.succ_mul]
      exact Nat.mul_le_mul_right _ hiF
    refine inner_ok (s := { s with heap := h7, toks := _ }) (m := fun y => if y = "point" then some (.int x.2 tkp) else if y = "trail" then some (.ref t) else mc y) (Wr := s.heap.objs.size :: env.locals :: Wx) (p := x.2) (tp := tkp) (acc := round ars (f.take i)) (lo := lo) g hh (Nat.le_trans hlo (Nat.le_of_lt hIh)) (fun R hR => hen C _ R _ (fun c o _ e => o7 c o e) hR) n7 ?_ ?_ (tup_at i2 fun o e => o7 t o e) i3 hA7.cell hA7.lst hA7.arr ?_ ?_ hDC ?_ (hz x (List.mem_of_getElem? hx)) hb ?_ ?_
    · show (if ("trail" : Str) = "point" then _ else if ("trail" : Str) = "trail" then _ else _) = _
      rw [if_neg (by decide +kernel), if_pos rfl]
    · show (if ("point" : Str) = "point" then _ else _) = _
      rw [if_pos rfl]
    · obtain ⟨n, e⟩ := hpl
      exact ⟨n, u7 _ _ hDC e⟩
    · exact pmono (fun v x j => j.keep fun b o hb e => u7 b o (fun z => hb (z ▸ List.mem_cons_of_mem _ List.mem_cons_self)) e) pr
    · intro b hb
      rcases List.mem_cons.mp hb with e | hb
      · rw [e]
        obtain ⟨oo, eo, _⟩ := id st1
        exact Heap.lt_size (u7 _ oo (Nat.ne_of_lt nC') eo)
      rcases List.mem_cons.mp hb with e | hb
      · rw [e]
        exact Nat.lt_trans hLs hIh
      · exact Nat.lt_trans (hx1 b hb) hIh
    · rintro b (hb | hb)
      · rw [hb]
        exact sm t i2.lt (fun z => ht.1 (z ▸ List.mem_cons_self)) fun z => ht.1 (List.mem_cons_of_mem _ z)
      · obtain ⟨z1, z2⟩ := hA.off hn b hb
        exact sm b z2 z1 (hx2 b hb)
    · intro h8 tk8 m8 ys8 u8 n8 pr8 _ pl8
      have o8 : ∀ c o, s.heap.get? c = some o → h8.get? c = some o := fun c o e => u8 c o (fun hm => by
        obtain ⟨_, z2, z3⟩ := lt3 (Heap.lt_size e) nD' nC'
        rcases List.mem_cons.mp hm with e | hm
        · exact z2 e
        · exact z3 (List.mem_singleton.mp hm)) (o7 c o e)
      have nI : s.heap.objs.size ∉ [D, C] := fun hm => by
        rcases List.mem_cons.mp hm with e | hm
        · exact Nat.ne_of_lt nD' e
        · exact Nat.ne_of_lt nC' (List.mem_singleton.mp hm)
      refine ⟨⟨h8, tk8, m8, rfl, o8, n8, by rw [round_take ars f i x hx]; exact pr8⟩, ⟨st1.at fun o e => u8 _ o nI (u7 _ o (Nat.ne_of_lt nC') e), st2.at fun o e => ?_⟩, pl8⟩
      obtain ⟨oF, eF, _⟩ := id hF
      have q := u _ _ eF
      have e' : h.get? F = some o := e
      rw [q] at e'
      cases e'
      exact o8 _ _ eF
  · rintro ys s' ⟨h, tk, mc, rfl, u, n, pr⟩ hpl
    have hsz : fits.toArray.size = f.length := by rw [List.size_toArray]; exact plen hfs
    rw [hsz, List.take_length] at pr
    refine compEnds_store (m := m) (mc := mc) g.kf hcls (hn.at' fun o e => u _ o e) n hLC fun h9 tk9 n9 u9 => ?_
    obtain ⟨nn, e⟩ := hpl
    refine hQ h9 tk9 D ys (fun c o hc e => u9 c o hc (lt3 (Heap.lt_size e) nD' nC').2.2 (u c o e)) n9 ⟨_, u9 _ _ (Ne.symm hLD) hDC e, rfl, nn, rfl⟩ (Nat.le_of_succ_le nD') ?_
    refine pmono (fun v x j => ?_) pr
    refine (j.keep fun b o hb e => u9 b o (fun z => hb (z ▸ List.mem_cons_of_mem _ (List.mem_cons_of_mem _ (List.mem_cons_of_mem _ List.mem_cons_self)))) (fun z => hb (z ▸ List.mem_cons_of_mem _ List.mem_cons_self)) e).sub fun b hb => .inl ?_
    exact List.mem_cons_of_mem _ (List.mem_cons_of_mem _ (List.mem_cons_of_mem _ hb))
end
end TG

namespace TG
open PySem PySem.Spec PyProof.Rows L2

theorem rounds_succ (ars : List (Int × Int)) : ∀ (n : Nat) (f : List (List Int × Int)), rounds ars (n + 1) f = round ars (rounds ars n f)
  | 0, f => rfl
  | n + 1, f => by
    rw [rounds, rounds_succ ars n (round ars f)]
    rfl
theorem rounds_len (ars : List (Int × Int)) (f : List (List Int × Int)) : ∀ n : Nat, (rounds ars n f).length ≤ f.length * ars.length ^ n
  | 0 => by simp [rounds]
  | n + 1 => by
    rw [rounds_succ, Nat.pow_succ, ← Nat.mul_assoc]
    exact Nat.le_trans (round_len ars _) (Nat.mul_le_mul_right _ (rounds_len ars f n))
theorem longer_mem {t : List Int} {p : Int} {x : List Int × Int} : ∀ {k : Nat} {ars : List (Int × Int)}, x ∈ longer t p k ars → x.1.length = t.length + 1
  | _, [], h => by cases h
  | k, a :: r, h => by
    rw [longer, List.mem_append] at h
    rcases h with h | h
    · split at h
      · rw [List.mem_singleton.mp h, List.length_append, List.length_singleton]
      · cases h
    · exact longer_mem h
theorem rounds_mem (ars : List (Int × Int)) (st : Int) : ∀ (n : Nat) (x : List Int × Int), x ∈ rounds ars n [([], st)] → x.1.length = n
  | 0, x, h => by rw [rounds, List.mem_singleton] at h; rw [h]; rfl
  | n + 1, x, h => by
    rw [rounds_succ] at h
    obtain ⟨y, hy, hx⟩ := List.mem_flatMap.mp h
    rw [longer_mem hx, rounds_mem ars st n y hy]
theorem pow6 {n k : Nat} (hn : n ≤ 6) (hk : k ≤ 6) : n ^ k ≤ 46656 := Nat.le_trans (Nat.pow_le_pow_left hn k) (Nat.le_trans (Nat.pow_le_pow_right (by decide) hk) (by decide))

section
variable {P : Program} {w : World} {A : Around} {env : Env} {c0 : Addr}
/-- found = [((), start)] -/
theorem s1_ok {E : Value → Shared → Prop} {s : Shared} {m : Str → Option Value} {p1 p2 p3 p4 p5 p6 : Pos} {k1 k2 : Nat} {st : Int} {tst : Tok} {lo : Nat} {Q : Flow → Shared → Prop} (g : GEnv env c0) (hlo : lo ≤ s.heap.objs.size)
    (hn : s.heap.Ns env.locals m) (hs : m "start" = some (.int st tst))
    (hQ : ∀ h' tk F fits, (∀ c o, c ≠ env.locals → s.heap.get? c = some o → h'.get? c = some o) → h'.Ns env.locals (fun z => if z = "found" then some (.ref F) else m z) → h'.IsList F fits.toArray → s.heap.objs.size ≤ F → Paired (Item lo [env.locals] h') fits [([], st)] → Q .next { s with heap := h', toks := tk }) :
    wpAny (model P w) A (exec (.Assign [.Name "found" p1] (.List [.Tuple [.Tuple [] k1 p2, .Name "start" p3] k2 p4] p5) p6) env) Q E s := by
  have hLs : env.locals < s.heap.objs.size := let ⟨_, _, _, e, _⟩ := hn; Heap.lt_size e
  have hcls : (env.scope.kind == .class || (env.scope.kind == .module && env.locals != env.globals)) = false := by rw [g.kind]; rfl
  refine wpAny_Assign_Name ?_ (by rfl)
  refine wpAny_List_spliced (Calls.spliced_cons (wpAny_Tuple_spliced (x1 := k2) (Calls.spliced_cons (wpAny_Tuple_spliced (x1 := k1) (Calls.spliced_nil ⟨by show 0 ≤ sizeLine; decide, ?_⟩)))))
  generalize hH1 : s.heap.push { cls := .type "tuple", data := .seq ([] : List Value).toArray } = H1
  have z1 : H1.objs.size = s.heap.objs.size + 1 := by rw [← hH1, Heap.size_push]
  have kk1 : ∀ c o, s.heap.get? c = some o → H1.get? c = some o := fun c o e => hH1 ▸ Heap.get?_push_of_some _ e
  have t1 : IsTup H1 s.heap.objs.size ([] : List Value).toArray := hH1 ▸ IsTup.new s.heap _
  refine Calls.spliced_cons (wpAny_Name (wpAny_loadName_local g.kind g.ks (hn.at' fun o e => kk1 _ o e) hs ?_))
  refine Calls.spliced_nil ⟨by show 2 ≤ sizeLine; decide, ?_⟩
  dsimp only
  generalize hH2 : H1.push { cls := .type "tuple", data := .seq [Value.ref s.heap.objs.size, Value.int st tst].toArray } = H2
  have z2 : H2.objs.size = s.heap.objs.size + 2 := by rw [← hH2, Heap.size_push, z1]
  have k2 : ∀ c o, H1.get? c = some o → H2.get? c = some o := fun c o e => hH2 ▸ Heap.get?_push_of_some _ e
  have t2 : IsTup H2 H1.objs.size #[Value.ref s.heap.objs.size, Value.int st tst] := hH2 ▸ IsTup.new H1 _
  refine Calls.spliced_nil ⟨by show 1 ≤ sizeLine; decide, ?_⟩
  dsimp only
  generalize hH3 : H2.push { cls := .type "list", data := .seq [Value.ref H1.objs.size].toArray } = H3
  have k3 : ∀ c o, H2.get? c = some o → H3.get? c = some o := fun c o e => hH3 ▸ Heap.get?_push_of_some _ e
  have t3 : H3.IsList H2.objs.size [Value.ref H1.objs.size].toArray := hH3 ▸ ⟨_, Heap.get?_push_size _ rfl, rfl, _, rfl⟩
  have kk : ∀ c o, s.heap.get? c = some o → H3.get? c = some o := fun c o e => k3 c o (k2 c o (kk1 c o e))
  refine wpAny_storeName_local g.kf (hn.at' fun o e => kk _ o e) (fun h9 n9 s9 => ?_) hcls
  have nL : ∀ {b : Nat}, s.heap.objs.size ≤ b → b ≠ env.locals := fun hb => Nat.ne_of_gt (Nat.lt_of_lt_of_le hLs hb)
  have b1 : s.heap.objs.size ≤ H1.objs.size := by rw [z1]; exact Nat.le_succ _
  have b2 : s.heap.objs.size ≤ H2.objs.size := by rw [z2]; exact Nat.le_add_right _ _
  refine hQ h9 _ H2.objs.size [Value.ref H1.objs.size] (fun c o hc e => s9.extBut c o hc (kk c o e)) n9 (t3.at fun o e => s9.extBut _ o (nL b2) e) b2 (.cons ?_ .nil)
  refine ⟨H1.objs.size, s.heap.objs.size, tst, [], rfl, ⟨fun hm => nL b1 (List.mem_singleton.mp hm), Nat.le_trans hlo b1⟩, ⟨fun hm => nL (Nat.le_refl _) (List.mem_singleton.mp hm), hlo⟩, ?_, ?_, .nil⟩
  · exact tup_at t2 fun o e => s9.extBut _ o (nL b1) (k3 _ o e)
  · exact tup_at t1 fun o e => s9.extBut _ o (nL (Nat.le_refl _)) (k3 _ o (k2 _ o e))

/-- for _ in arrows: found = [..] -/
theorem s2_ok {s : Shared} {m : Str → Option Value} {g1 g2 g3 t1 t2 t3 : Pos} {q1 q2 : Nat} {f1 a1 a2 a3 a4 a5 b1 b2 b3 b4 b5 b6 b7 d1 d2 d3 d4 d5 d6 e1 e2 e3 e4 pos py spos : Pos} {k1 k2 k3 k4 k5 : Nat}
    {ar F : Addr} {aits fits : List Value} {ars : List (Int × Int)} {st : Int} {lo : Nat} {Q : Flow → Shared → Prop} (g : GEnv env c0) (hh : A.handled = none) (hlo : lo ≤ s.heap.objs.size) (hl : py.line = pos.line)
    (hen : ∀ (C : Addr) (s' : Shared) (R E : Value → Shared → Prop), (∀ c o, c ≠ env.locals → s.heap.get? c = some o → s'.heap.get? c = some o) → R (.type "enumerate") s' → wpAny (model P w) A (eval (.Name "enumerate" e1) (ce env c0 C)) R E s')
    (hn : s.heap.Ns env.locals m) (hf : m "found" = some (.ref F)) (hF : s.heap.IsList F fits.toArray) (hfs : Paired (Item lo [env.locals] s.heap) fits [([], st)]) (hA : Ars s.heap c0 ar aits ars) (h6 : ars.length ≤ 6)
    (hQ : ∀ h' tk D ys m', (∀ c o, c ≠ env.locals → s.heap.get? c = some o → h'.get? c = some o) → h'.Ns env.locals m' → m' "found" = some (.ref D) → m' "end" = m "end" → h'.IsList D ys.toArray → (D = F ∨ s.heap.objs.size ≤ D) → Paired (Item lo [env.locals] h') ys (rounds ars ars.length [([], st)]) → Q .next { s with heap := h', toks := tk }) :
    wpAny (model P w) A (exec (.For (.Name "_" g1) (.Name "arrows" g2) [.Assign [.Name "found" py] (lcomp t1 t2 t3 q1 q2 f1 a1 a2 a3 a4 a5 b1 b2 b3 b4 b5 b6 b7 d1 d2 d3 d4 d5 d6 e1 e2 e3 e4 pos k1 k2 k3 k4 k5) spos] [] g3) env) Q (fun _ _ => False) s := by
  have hLs : env.locals < s.heap.objs.size := let ⟨_, _, _, e, _⟩ := hn; Heap.lt_size e
  have hcls : (env.scope.kind == .class || (env.scope.kind == .module && env.locals != env.globals)) = false := by rw [g.kind]; rfl
  obtain ⟨oar, olt⟩ := hA.off hn ar (.inl rfl)
  refine exec_For_goes ?_
  refine wpAny_Name (wpAny_loadName_cell g.kind g.ka g.cells hA.cell ?_)
  refine wpAny_pyIter_list hA.lst ?_
  refine ⟨s.heap.objs.size, _, _, _, _, _, fun i s' => ∃ h tk D ys m', s' = { s with heap := h, toks := tk } ∧ (∀ c o, c ≠ env.locals → s.heap.get? c = some o → h.get? c = some o) ∧ h.Ns env.locals m' ∧ m' "found" = some (.ref D) ∧ m' "end" = m "end" ∧ h.IsList D ys.toArray ∧ D ≠ s.heap.objs.size ∧ (D = F ∨ s.heap.objs.size ≤ D) ∧
      Paired (Item lo [env.locals, s.heap.objs.size] h) ys (rounds ars i [([], st)]),
    rfl, Goes.list hh s.heap.objs.size ar (Nat.ne_of_lt olt) aits.toArray, ⟨⟨_, Heap.get?_push_size _ rfl, rfl, rfl⟩, hA.lst.at fun o e => Heap.get?_push_of_some _ e⟩, ?_, ?_, ?_, ?_⟩
  · obtain ⟨oF, eF, _⟩ := id hF
    refine ⟨_, _, F, fits, m, rfl, fun c o _ e => Heap.get?_push_of_some _ e, hn.at' fun o e => Heap.get?_push_of_some _ e, hf, rfl, hF.at fun o e => Heap.get?_push_of_some _ e, Nat.ne_of_lt (Heap.lt_size eF), .inl rfl, ?_⟩
    refine pmono (fun v x j => (j.sub fun b hb => ?_).keep fun b o _ e => Heap.get?_push_of_some _ e) hfs
    rcases List.mem_cons.mp hb with e | hb
    · exact .inl (e ▸ List.mem_cons_self)
    · exact .inr (Nat.le_of_eq (List.mem_singleton.mp hb).symm)
  · rintro i s' h' tk' ⟨h, tk, D, ys, m', rfl, u, n, r1, r2, r3, r4, r6, r5⟩ hk _
    have hk' : ∀ c o, c ≠ s.heap.objs.size → h.get? c = some o → h'.get? c = some o := fun c o hc e => hk c o (fun hm => hc (List.mem_singleton.mp hm)) e
    refine ⟨h', tk', D, ys, m', rfl, fun c o hc e => hk' c o (Nat.ne_of_lt (Heap.lt_size e)) (u c o hc e), n.at' fun o e => hk' _ o (Nat.ne_of_lt hLs) e, r1, r2, r3.at fun o e => hk' _ o r4 e, r4, r6, pmono (fun v x j => j.keep fun b o hb e => hk' b o (fun z => hb (z ▸ List.mem_cons_of_mem _ List.mem_cons_self)) e) r5⟩
  · rintro i v s' hi hv ⟨st1, st2⟩ ⟨h, tk, D, ys, m', rfl, u, n, r1, r2, r3, r4, r6, r5⟩
    have hi' : i < ars.length := by
      have e := plen hA.arr
      have e2 : aits.toArray.size = aits.length := List.size_toArray
      rw [e2, e] at hi
      exact hi
    refine wpAny_assign_Name (wpAny_storeName_local g.ku n (fun h5 n5 s5 => ?_) hcls)
    have u5 : ∀ c o, c ≠ env.locals → h.get? c = some o → h5.get? c = some o := fun c o hc e => s5.extBut c o hc e
    have uS : ∀ c o, c ≠ env.locals → s.heap.get? c = some o → h5.get? c = some o := fun c o hc e => u5 c o hc (u c o hc e)
    have nDL : D ≠ env.locals := fun z => by
      obtain ⟨oL, es, ep, hL, hd, _⟩ := id n
      obtain ⟨o2, e2, c2, n2, d2⟩ := id r3
      rw [z, hL] at e2; cases e2; rw [hd] at d2; cases d2
    refine wpAny_execs_cons (outer_ok (s := { s with heap := h5, toks := _ }) (ar := ar) (F := D) (aits := aits) (fits := ys) (ars := ars) (f := rounds ars i [([], st)]) (Wx := [s.heap.objs.size]) (lo := lo) g hh ?_ hl (fun C s' R E k hR => hen C s' R E (fun c o hc e => k c o hc (uS c o hc e)) hR) n5 ?_ (r3.at fun o e => u5 _ o nDL e) ?_ (hA.keep hn uS) ?_ ?_ ?_ ?_ ?_)
    · obtain ⟨oo, eo, _⟩ := id st1
      exact Nat.le_trans hlo (Nat.le_of_lt (Heap.lt_size (u5 _ oo (Nat.ne_of_gt hLs) eo)))
    · show (if ("found" : Str) = "_" then _ else _) = _
      rw [if_neg (by decide +kernel)]
      exact r1
    · exact pmono (fun v x j => j.keep fun b o hb e => u5 b o (fun z => hb (z ▸ List.mem_cons_self)) e) r5
    · intro b hb
      rw [List.mem_singleton.mp hb]
      obtain ⟨oo, eo, _⟩ := id st1
      exact Heap.lt_size (u5 _ oo (Nat.ne_of_gt hLs) eo)
    · intro b hb hm
      have q := (hA.off hn b hb).2
      rw [List.mem_singleton.mp hm] at q
      exact absurd q (Nat.lt_irrefl _)
    · intro x hx
      rw [rounds_mem ars st i x hx]
      exact Nat.le_trans (Nat.le_trans hi' h6) (by decide)
    · have q := rounds_len ars [([], st)] i
      rw [List.length_singleton, Nat.one_mul] at q
      refine Nat.le_trans (Nat.mul_le_mul q h6) (Nat.le_trans (Nat.mul_le_mul_right 6 (pow6 h6 (Nat.le_trans (Nat.le_of_lt hi') h6))) (by decide))
    · intro h9 tk9 D9 ys9 u9 n9 l9 d9 p9
      have nIL : s.heap.objs.size ≠ env.locals := Nat.ne_of_gt hLs
      refine wpAny_execs_nil ⟨⟨h9, tk9, D9, ys9, _, rfl, fun c o hc e => u9 c o hc (uS c o hc e), n9, ?_, ?_, l9, ?_, ?_, ?_⟩, ?_, ?_⟩
      · show (if ("found" : Str) = "found" then _ else _) = _
        rw [if_pos rfl]
      · show (if ("end" : Str) = "found" then _ else if ("end" : Str) = "_" then _ else _) = _
        rw [if_neg (by decide +kernel), if_neg (by decide +kernel)]
        exact r2
      · obtain ⟨oo, eo, _⟩ := id st1
        exact Nat.ne_of_gt (Nat.lt_of_lt_of_le (Heap.lt_size (u5 _ oo nIL eo)) d9)
      · obtain ⟨oo, eo, _⟩ := id st1
        exact .inr (Nat.le_of_lt (Nat.lt_of_lt_of_le (Heap.lt_size (u5 _ oo nIL eo)) d9))
      · rw [rounds_succ]
        exact p9
      · exact st1.at fun o e => u9 _ o nIL (u5 _ o nIL e)
      · exact st2.at fun o e => u9 _ o oar (u5 _ o oar e)
  · rintro s' ⟨h, tk, D, ys, m', rfl, u, n, r1, r2, r3, r4, r6, r5⟩
    have e : aits.toArray.size = ars.length := by rw [List.size_toArray]; exact plen hA.arr
    rw [e] at r5
    refine wpAny_execs_nil (hQ h tk D ys m' u n r1 r2 r3 r6 (pmono (fun v x j => j.sub fun b hb => .inl ?_) r5))
    rw [List.mem_singleton.mp hb]
    exact List.mem_cons_self
end
end TG

namespace TG
open PySem PySem.Spec PyProof.Rows L2

/-- a generator's code runs on, to an end that is as Φ says -/
def Go (M : Model) (A : Around) (Φ : End → Shared → Prop) (c : Code) (t : Sem PySem.Fin) (fs : List Frame) (s : Shared) : Prop :=
  ∀ Γ p, Γ.code = c → Γ.Woken A → ∃ e s', Runs M Γ p t fs s e s' ∧ Φ e s'
section
variable {M : Model} {A : Around} {Φ : End → Shared → Prop} {c : Code} {fs : List Frame} {s : Shared}
theorem go_wrap {α : Type} {m : Sem α} {K : α → Sem PySem.Fin} {J : Value → Sem PySem.Fin} {gd : Bool → Bool} {lv : List Value → List Value}
    (h : wpAny M (A.over c fs) m (fun a s' => Go M A Φ c (K a) fs s') (fun _ _ => False) s) : Go M A Φ c (m.wrap K J gd lv) fs s := by
  rintro Γ p rfl hΓ
  exact runs_wrap_of_wp K J gd lv m (h (Γ.over fs) p (hΓ.over fs)) (fun a p' s' h' => h' Γ p' rfl hΓ) (fun x p' s' h' => h'.elim)
theorem go_bind {α β : Type} {m : Sem α} {K : α → Sem β} {K' : β → Sem PySem.Fin} {J : Value → Sem PySem.Fin} {gd : Bool → Bool} {lv : List Value → List Value}
    (h : wpAny M (A.over c fs) m (fun a s' => Go M A Φ c ((K a).wrap K' J gd lv) fs s') (fun _ _ => False) s) : Go M A Φ c ((m >>= K).wrap K' J gd lv) fs s := by
  rw [Sem.bind_eq_wrap', Sem.wrap_wrap]
  exact go_wrap h
theorem go_call {c' : Code} {h : Option Value} {g : Bool} {l : List Value} {k : Result → Sem PySem.Fin} (hc : ∀ p, Go M A Φ c' (M.den c') (.ret k h g l c p [] :: fs) s) : Go M A Φ c (.call c' h g l k) fs s := by
  rintro Γ p rfl hΓ
  obtain ⟨e, s', hr, he⟩ := hc p (Γ.goto c') p rfl (hΓ.goto c')
  exact ⟨e, s', runs_call_seg hr, he⟩
theorem go_leaf {k : Result → Sem PySem.Fin} {h : Option Value} {g : Bool} {l kp : List Value} {c₁ : Code} {p₁ : Pos} (r : Result) (hk : Go M A Φ c₁ (k r) fs s) : Go M A Φ c (leafOf r) (.ret k h g l c₁ p₁ kp :: fs) s := by
  rintro Γ p rfl hΓ
  obtain ⟨e, s', hr, he⟩ := hk (Γ.goto c₁) p₁ rfl (hΓ.goto c₁)
  exact ⟨e, s', Runs.pop r hr, he⟩
theorem go_again {c' : Code} (hq : c'.quiet = true) (hc : Go M A Φ c' (M.den c') fs s) : Go M A Φ c (.pure (.again c')) fs s := by
  rintro Γ p rfl hΓ
  obtain ⟨e, s', hr, he⟩ := hc (Γ.goto c') p rfl (hΓ.goto c')
  exact ⟨e, s', Runs.head (c₁ := c') (fun _ _ x => .again hq x) hr, he⟩
theorem go_end (r : Result) (h : Φ (.ret r) s) : Go M A Φ c (leafOf r) [] s := by
  rintro Γ p rfl _
  exact ⟨.ret r, s, Runs.leaf r, h⟩
theorem go_yield {v : Value} {g : Bool} {l : List Value} {k : Resume → Sem PySem.Fin} (hfs : splitAtGen fs = none) (h : ∀ p, Φ (.susp v g l k c p fs) s) : Go M A Φ c (.yield v g l k) fs s := by
  rintro Γ p rfl _
  exact ⟨_, s, Runs.yield' fs hfs, h p⟩
theorem go_at {p' : Pos} {k : Unit → Sem PySem.Fin} (h : Go M A Φ c (k ()) fs s) : Go M A Φ c (.at p' k) fs s :=
  go_wrap (m := standAt p') (K := k) (J := .raise) (gd := id) (lv := id) (wpAny_standAt h)
theorem go_point {l : List Value} {k : Unit → Sem PySem.Fin} (h : Go M A Φ c (k ()) fs s) : Go M A Φ c (.point l k) fs s :=
  go_wrap (m := point) (K := k) (J := .raise) (gd := id) (lv := fun _ => l) (wpAny_point h)
end
section
variable {P : Program} {w : World} {A : Around} {Φ : End → Shared → Prop} {c : Code} {fs : List Frame} {s : Shared} {env : Env}
  {K : Flow → Sem PySem.Fin} {J : Value → Sem PySem.Fin} {gd : Bool → Bool} {lv : List Value → List Value}
/-- an if in a generator -/
theorem go_ifs {test : Expr} {body orelse : List Stmt} {pos : Pos}
    (h : wpAny (model P w) (A.over c fs) (isTrue test env (eval test env)) (fun b s' => if b = true then Go (model P w) A Φ c ((execs body env).wrap K J gd lv) fs s' else Go (model P w) A Φ c ((execs orelse env).wrap K J gd lv) fs s') (fun _ _ => False) s) :
    Go (model P w) A Φ c ((exec (.If test body orelse pos) env).wrap K J gd lv) fs s := by
  rw [exec_If]
  refine go_bind (wpAny_standAt (go_bind (wpAny_mono h (fun b s' hb => ?_) fun _ _ z => z.elim)))
  cases b with
  | true => exact hb
  | false => exact hb
/-- a for in a generator: where it begins -/
theorem go_fors {target iter : Expr} {body : List Stmt} {pos : Pos}
    (h : wpAny (model P w) (A.over c fs) (eval iter env) (fun x s₁ => wpAny (model P w) (A.over c fs) (pyIter x) (fun it s₂ => ∀ p, Go (model P w) A Φ (.forLoop target it body [] env) ((model P w).den (.forLoop target it body [] env))
      (.ret (fun r => ((match r with | .ok f => (.pure f : Sem Flow) | .error e => .raise e).onRaise (cameBack env)).wrap K J gd lv) none (gd false) (lv []) c p [] :: fs) s₂) (fun _ _ => False) s₁) (fun _ _ => False) s)
    (hs : ∀ x, foldedSetIterable iter env x = pure x := by intro _; rfl) :
    Go (model P w) A Φ c ((exec (.For target iter body [] pos) env).wrap K J gd lv) fs s := by
  rw [exec_For]
  refine go_bind (wpAny_standAt (go_bind (wpAny_mono h (fun x s₁ h₁ => ?_) fun _ _ z => z.elim)))
  refine go_bind (wpAny_of_eq (hs x) (go_bind (wpAny_standAt (go_bind (wpAny_holding (wpAny_mono h₁ (fun it s₂ h₂ => ?_) fun _ _ z => z.elim))))))
  exact go_call h₂
/-- one turn -/
theorem go_turn {target : Expr} {it : Value} {body : List Stmt}
    (h : wpAny (model P w) (A.over (.forLoop target it body [] env) fs) (pyNext it) (fun r s₁ => match r with
      | none => Go (model P w) A Φ (.block [] env) (.pure (.done .next)) fs s₁
      | some v => wpAny (model P w) (A.over (.forLoop target it body [] env) fs) (letOwnedTupleGo target it v) (fun _ s₂ => wpAny (model P w) (A.over (.forLoop target it body [] env) fs) (assign target env v) (fun _ s₃ =>
          Go (model P w) A Φ (.forLoop target it body [] env) ((execs body env).wrap (fun f => match f with
            | .next | .cont => .pure (.again (.forLoop target it body [] env))
            | .brk => .pure (.done .next)
            | .ret v => .pure (.done (.ret v))) (fun e => (do noteFrame e env; theTreesLotGoes e : Sem Unit).wrap (fun _ => .raise e) .raise id id) id id) fs s₃) (fun _ _ => False) s₂) (fun _ _ => False) s₁) (fun _ _ => False) s) :
    Go (model P w) A Φ (.forLoop target it body [] env) ((model P w).den (.forLoop target it body [] env)) fs s := by
  show Go _ A Φ _ ((forTurn target it body [] env).onRaise (fun x => do noteFrame x env; theTreesLotGoes x)) fs s
  unfold forTurn
  rw [Sem.onRaise_eq_wrap]
  refine go_bind (wpAny_standAt (go_bind (wpAny_onRaise (wpAny_mono h (fun r s₁ h₁ => ?_) fun _ _ z => z.elim))))
  cases r with
  | none =>
    show Go _ A Φ _ (.pure (.again (.block [] env))) fs s₁
    refine go_again rfl ?_
    exact h₁
  | some v =>
    refine go_bind (wpAny_mono h₁ (fun _ s₂ h₂ => go_bind (wpAny_mono h₂ (fun _ s₃ h₃ => ?_) fun _ _ z => z.elim)) fun _ _ z => z.elim)
    rw [Sem.bind_eq_wrap', Sem.wrap_wrap]
    rw [Sem.wrap_congr (execs body env) _ _ (K' := fun f => match f with
            | .next | .cont => .pure (.again (.forLoop target it body [] env))
            | .brk => .pure (.done .next)
            | .ret v => .pure (.done (.ret v))) (H' := (fun e => (do noteFrame e env; theTreesLotGoes e : Sem Unit).wrap (fun _ => .raise e) .raise id id))
        (fun f => by cases f <;> rfl)
        (fun e => by first | exact Sem.bind_eq_wrap _ _ | (show (do noteFrame e env; theTreesLotGoes e : Sem Unit).bind (fun _ => .raise e) = _; rw [Sem.bind_eq_wrap]))]
    exact h₃
/-- yield as a statement -/
theorem go_yields {e : Expr} {ypos pos : Pos} (hfs : splitAtGen fs = none)
    (h : wpAny (model P w) (A.over c fs) (eval e env) (fun v s' => ∀ (l : List Value) (k : Resume → Sem PySem.Fin) (p : Pos), (∀ (Ψ : End → Shared → Prop) (s'' : Shared), Go (model P w) A Ψ c (K .next) fs s'' → Go (model P w) A Ψ c (k (.send .none)) fs s'') → Φ (.susp v (gd false) l k c p fs) s') (fun _ _ => False) s)
    (hco : env.scope.isCoroutine = false := by rfl) (hi : interactive env = false := by rfl) :
    Go (model P w) A Φ c ((exec (.Expr (.Yield (some e) ypos) pos) env).wrap K J gd lv) fs s := by
  rw [exec_Expr env _ pos hi rfl]
  have hy : ∀ v, yieldOut env v = yieldValue v := fun v => by simp only [yieldOut, hco, Bool.false_eq_true, if_false]
  refine go_bind (wpAny_standAt ?_)
  show Go (model P w) A Φ c (((eval e env >>= fun v => (standAt ypos >>= fun _ => yieldOut env v)) >>= fun x => dropValue (.Yield (some e) ypos) pos x).wrap K J gd lv) fs s
  simp only [hy]
  rw [Sem.bind_eq_wrap', Sem.bind_eq_wrap', Sem.wrap_wrap, Sem.wrap_wrap]
  refine go_wrap (wpAny_mono h (fun v s' h' => ?_) fun _ _ z => z.elim)
  refine go_at (go_yield hfs fun p => ?_)
  exact h' _ _ p fun Ψ s'' hs => hs
end
end TG

namespace TG
open PySem PySem.Spec PyProof.Rows L2

/-- from s to s' nothing was touched but W -/
def Since (W : List Addr) (s s' : Shared) : Prop := ∃ h tk, s' = { s with heap := h, toks := tk } ∧ ∀ b o, b ∉ W → s.heap.get? b = some o → h.get? b = some o
theorem Since.trans {W : List Addr} {s s1 s2 : Shared} (x : Since W s s1) (y : Since W s1 s2) : Since W s s2 := by
  obtain ⟨h, tk, rfl, k⟩ := x
  obtain ⟨h', tk', rfl, k'⟩ := y
  exact ⟨h', tk', rfl, fun b o hb e => k' b o hb (k b o hb e)⟩
/-- v is a tuple of the ints x -/
def TupI (lo : Nat) (h : Heap) (v : Value) (x : List Int) : Prop := ∃ (T : Addr) (its : List Value), v = .ref T ∧ lo ≤ T ∧ IsTup h T its.toArray ∧ IntsAre its x
/-- how a sleeping generator's things lie: its frame L, its iterator it over the list D, at place i -/
structure TPre (lo : Nat) (L it D : Addr) (en : Int) (ys : List Value) (f : List (List Int × Int)) (i : Nat) (h : Heap) : Prop where
  ns : ∃ m te, h.Ns L m ∧ m "end" = some (.int en te)
  iter : h.IsListIter it D i
  lst : h.IsList D ys.toArray
  items : ∀ (k : Nat) v x, i ≤ k → ys[k]? = some v → f[k]? = some x → Item lo [L, it] h v x
/-- what comes of waking it: one after another the trails -/
def Fut (M : Model) (A : Around) (lo : Nat) (L it D : Addr) (en : Int) (ys : List Value) (f : List (List Int × Int)) : List (List Int) → Nat → Code → (Resume → Sem PySem.Fin) → List Frame → Prop
  | [], i, c, k, fs => ∀ s, TPre lo L it D en ys f i s.heap → Go M A (fun e s' => e = .ret (.ok (.ret .none)) ∧ Since [L, it] s s') c (k (.send .none)) fs s
  | x :: r, i, c, k, fs => ∀ s, TPre lo L it D en ys f i s.heap → Go M A (fun e s' => ∃ v l k' c' p' fs' i', e = .susp v false l k' c' p' fs' ∧ fs'.any Frame.guarded = false ∧ Since [L, it] s s' ∧ TupI lo s'.heap v x ∧ TPre lo L it D en ys f i' s'.heap ∧ Fut M A lo L it D en ys f r i' c' k' fs') c (k (.send .none)) fs s
/-- what is handed out from the i-th pair on -/
def outs (en : Int) (f : List (List Int × Int)) (i : Nat) : List (List Int) := ((f.drop i).filter fun x => decide (x.2 = en)).map (·.1)
theorem outs_end {en : Int} {f : List (List Int × Int)} {i : Nat} (h : f.length ≤ i) : outs en f i = [] := by
  unfold outs
  rw [List.drop_eq_nil_of_le h]
  rfl
theorem outs_at {en : Int} {f : List (List Int × Int)} {i : Nat} {x : List Int × Int} (h : f[i]? = some x) : outs en f i = (if x.2 = en then [x.1] else []) ++ outs en f (i + 1) := by
  obtain ⟨hi, e⟩ := List.getElem?_eq_some_iff.mp h
  unfold outs
  rw [List.drop_eq_getElem_cons hi, e, List.filter_cons]
  by_cases q : x.2 = en
  · rw [if_pos (decide_eq_true q), if_pos q]
    rfl
  · rw [if_neg (fun z => q (of_decide_eq_true z)), if_neg q]
    rfl

section
variable {P : Program} {w : World} {A : Around} {env : Env} {c0 it D : Addr} {en : Int} {ys : List Value} {f : List (List Int × Int)} {lo : Nat}
def tgt3 (p1 p2 p3 : Pos) (k : Nat) : Expr := .Tuple [.Name "trail" p1, .Name "point" p2] k p3
def bod3 (p1 p2 p3 p4 p5 p6 p7 : Pos) : List Stmt := [.If (.Compare (.Name "point" p1) [.Eq] [.Name "end" p2] p3) [.Expr (.Yield (some (.Name "trail" p4)) p5) p6] [] p7]
/-- the loop that hands out -/
theorem loop_ok {p1 p2 p3 b1 b2 b3 b4 b5 b6 b7 : Pos} {k1 : Nat} {fs : List Frame} (g : GEnv env c0) (hco : env.scope.isCoroutine = false) (hLi : env.locals ≠ it) (hDL : D ≠ env.locals) (hDi : D ≠ it) (hlen : ys.length = f.length) (hfs : splitAtGen fs = none) (hfg : fs.any Frame.guarded = false)
    (hov : (A.over (.forLoop (tgt3 p1 p2 p3 k1) (.ref it) (bod3 b1 b2 b3 b4 b5 b6 b7) [] env) fs).handled = none)
    (hend : ∀ (Ψ : End → Shared → Prop) (s : Shared), Ψ (.ret (.ok (.ret .none))) s → Go (model P w) A Ψ (.block [] env) (.pure (.done .next)) fs s) :
    ∀ (r i : Nat) (Φ : End → Shared → Prop) (s : Shared), f.length - i = r → TPre lo env.locals it D en ys f i s.heap →
      (∀ s', Since [env.locals, it] s s' → outs en f i = [] → Φ (.ret (.ok (.ret .none))) s') →
      (∀ s' v l k' p' i' x r', Since [env.locals, it] s s' → outs en f i = x :: r' → TupI lo s'.heap v x → TPre lo env.locals it D en ys f i' s'.heap → Fut (model P w) A lo env.locals it D en ys f r' i' (.forLoop (tgt3 p1 p2 p3 k1) (.ref it) (bod3 b1 b2 b3 b4 b5 b6 b7) [] env) k' fs →
        Φ (.susp v false l k' (.forLoop (tgt3 p1 p2 p3 k1) (.ref it) (bod3 b1 b2 b3 b4 b5 b6 b7) [] env) p' fs) s') →
      Go (model P w) A Φ (.forLoop (tgt3 p1 p2 p3 k1) (.ref it) (bod3 b1 b2 b3 b4 b5 b6 b7) [] env) ((model P w).den (.forLoop (tgt3 p1 p2 p3 k1) (.ref it) (bod3 b1 b2 b3 b4 b5 b6 b7) [] env)) fs s := by
  have hcls : (env.scope.kind == .class || (env.scope.kind == .module && env.locals != env.globals)) = false := by rw [g.kind]; rfl
  intro r
  induction r with
  | zero =>
    intro i Φ s hr hp h0 h1
    obtain ⟨_, hit, hls, _⟩ := hp
    refine go_turn ?_
    refine wpAny_pyNext_list_end hov hit hls (by simp; omega) fun h' eb => ?_
    exact hend _ _ (h0 _ ⟨h', s.toks, rfl, fun b o hb e => eb b o (fun z => hb (z ▸ List.mem_cons_of_mem _ List.mem_cons_self)) e⟩ (outs_end (by omega)))
  | succ r ih =>
    intro i Φ s hr hp h0 h1
    obtain ⟨⟨m, te, hn, hme⟩, hit, hls, hitm⟩ := hp
    have hi : i < f.length := by omega
    obtain ⟨x, hx⟩ : ∃ x, f[i]? = some x := ⟨f[i], List.getElem?_eq_getElem hi⟩
    obtain ⟨v, hv⟩ : ∃ v, ys[i]? = some v := ⟨ys[i]'(by omega), List.getElem?_eq_getElem (by omega)⟩
    obtain ⟨p, t, tkp, its, rfl, hpW, htW, i1, i2, i3⟩ := hitm i v x (Nat.le_refl _) hv hx
    have hoa := outs_at (en := en) hx
    have pit : p ≠ it := fun z => hpW.1 (z ▸ List.mem_cons_of_mem _ List.mem_cons_self)
    have tit : t ≠ it := fun z => htW.1 (z ▸ List.mem_cons_of_mem _ List.mem_cons_self)
    have tL : t ≠ env.locals := fun z => htW.1 (z ▸ List.mem_cons_self)
    refine go_turn ?_
    refine wpAny_pyNext_list_item hit hls (x := .ref p) (by simpa using hv) fun h1' hit1 sb1 => ?_
    have u1 : ∀ c o, c ≠ it → s.heap.get? c = some o → h1'.get? c = some o := fun c o hc e => (sb1.2 c hc).trans e
    obtain ⟨oi, ei, ci, di⟩ := id hit1
    refine L2.go_of (s := { s with heap := h1' }) ei ci di (by decide) ?_
    refine wpAny_assign_Tuple hov (show Heap.IsTuple _ p _ from tup_at i1 fun o e => u1 _ o pit e) rfl rfl fun h2 x2 => ?_
    have u2 : ∀ c o, h1'.get? c = some o → h2.get? c = some o := fun c o e => x2 c o (Nat.ne_of_lt (Heap.lt_size e)) e
    show wpAny _ _ (assignInOrder [assign (.Name "trail" p1) _, assign (.Name "point" p2) _] [_, _]) _ _ _
    refine wpAny_assignInOrder_more (wpAny_assign_Name (wpAny_storeName_local g.kt (hn.at' fun o e => u2 _ o (u1 _ o hLi e)) (fun h3 n3 s3 => ?_) hcls))
    refine wpAny_assignInOrder_more (wpAny_assign_Name (wpAny_storeName_local g.kp n3 (fun h4 n4 s4 => ?_) hcls))
    refine wpAny_assignInOrder_none ?_
    have u4 : ∀ c o, c ≠ env.locals → h1'.get? c = some o → h4.get? c = some o := fun c o hc e => s4.extBut _ _ hc (s3.extBut _ _ hc (u2 _ _ e))
    have uW : ∀ c o, c ∉ [env.locals, it] → s.heap.get? c = some o → h4.get? c = some o := fun c o hc e => u4 c o (fun z => hc (z ▸ List.mem_cons_self)) (u1 c o (fun z => hc (z ▸ List.mem_cons_of_mem _ List.mem_cons_self)) e)
    have hs4 : ∀ tk, Since [env.locals, it] s { s with heap := h4, toks := tk } := fun tk => ⟨h4, tk, rfl, uW⟩
    have m1 : (fun y : Str => if y = "point" then some (Value.int x.2 tkp) else if y = "trail" then some (Value.ref t) else m y) "end" = some (.int en te) := by
      show (if ("end" : Str) = "point" then _ else if ("end" : Str) = "trail" then _ else _) = _
      rw [if_neg (by decide +kernel), if_neg (by decide +kernel)]
      exact hme
    have m2 : (fun y : Str => if y = "point" then some (Value.int x.2 tkp) else if y = "trail" then some (Value.ref t) else m y) "point" = some (Value.int x.2 tkp) := by
      show (if ("point" : Str) = "point" then _ else _) = _
      rw [if_pos rfl]
    have m3 : (fun y : Str => if y = "point" then some (Value.int x.2 tkp) else if y = "trail" then some (Value.ref t) else m y) "trail" = some (Value.ref t) := by
      show (if ("trail" : Str) = "point" then _ else if ("trail" : Str) = "trail" then _ else _) = _
      rw [if_neg (by decide +kernel), if_pos rfl]
    have pre4 : TPre lo env.locals it D en ys f (i + 1) h4 := ⟨⟨_, te, n4, m1⟩, hit1.at fun o e => u4 _ o (Ne.symm hLi) e, hls.at fun o e => u4 _ o hDL (u1 _ o hDi e), fun k v x hk e1 e2 => (hitm k v x (Nat.le_of_succ_le hk) e1 e2).keep fun b o hb e => uW b o hb e⟩
    rw [bod3, execs_cons_wrap]
    refine go_ifs (wpAny_isTrue_Compare1 (wpAny_Name (wpAny_loadName_local g.kind g.kp n4 m2 ?_)))
    refine wpAny_Name (wpAny_loadName_local g.kind g.ke n4 m1 ?_)
    refine PyProof.Rows.eq_int (wpAny_truthy_bool ?_)
    -- what goes on behind the turn
    have next : ∀ (Ψ : End → Shared → Prop) (s'' : Shared), TPre lo env.locals it D en ys f (i + 1) s''.heap → (∀ s', Since [env.locals, it] s'' s' → outs en f (i + 1) = [] → Ψ (.ret (.ok (.ret .none))) s') →
        (∀ s' v l k' p' i' x r', Since [env.locals, it] s'' s' → outs en f (i + 1) = x :: r' → TupI lo s'.heap v x → TPre lo env.locals it D en ys f i' s'.heap → Fut (model P w) A lo env.locals it D en ys f r' i' (.forLoop (tgt3 p1 p2 p3 k1) (.ref it) (bod3 b1 b2 b3 b4 b5 b6 b7) [] env) k' fs →
          Ψ (.susp v false l k' (.forLoop (tgt3 p1 p2 p3 k1) (.ref it) (bod3 b1 b2 b3 b4 b5 b6 b7) [] env) p' fs) s') →
        Go (model P w) A Ψ (.forLoop (tgt3 p1 p2 p3 k1) (.ref it) (bod3 b1 b2 b3 b4 b5 b6 b7) [] env) (.pure (.again (.forLoop (tgt3 p1 p2 p3 k1) (.ref it) (bod3 b1 b2 b3 b4 b5 b6 b7) [] env))) fs s'' := fun Ψ s'' hp' q0 q1 =>
      go_again rfl (ih (i + 1) Ψ s'' (by omega) hp' q0 q1)
    by_cases hq : x.2 = en
    · rw [if_pos (by simp [hq])]
      rw [if_pos hq] at hoa
      rw [execs_cons_wrap]
      refine go_yields hfs (wpAny_Name (wpAny_loadName_local g.kind g.kt n4 m3 ?_)) hco (by simp [interactive, g.kind])
      intro l k p' hk
      refine h1 _ (.ref t) l k p' (i + 1) x.1 (outs en f (i + 1)) (hs4 _) hoa ⟨t, its, rfl, htW.2, tup_at i2 fun o e => uW _ o htW.1 e, i3⟩ pre4 ?_
      cases ho : outs en f (i + 1) with
      | nil =>
        intro s'' hp''
        refine hk _ s'' ?_
        refine next _ s'' hp'' (fun s' hs' _ => ⟨rfl, hs'⟩) fun s' v l k' p' i' x r' _ e => ?_
        rw [ho] at e
        cases e
      | cons y r' =>
        intro s'' hp''
        refine hk _ s'' ?_
        refine next _ s'' hp'' (fun s' hs' e => ?_) fun s' v l k' p' i' x r'' hs' e hT hp3 hF => ?_
        · rw [ho] at e
          cases e
        · rw [ho] at e
          cases e
          exact ⟨v, l, k', _, p', fs, i', rfl, hfg, hs', hT, hp3, hF⟩
    · rw [if_neg (by simp [hq])]
      rw [if_neg hq, List.nil_append] at hoa
      show Go (model P w) A Φ _ (.pure (.again _)) fs _
      refine next Φ _ pre4 (fun s' hs' e => h0 s' ((hs4 _).trans hs') (hoa.trans e)) fun s' v l k' p' i' x r' hs' e hT hp3 hF => h1 s' v l k' p' i' x r' ((hs4 _).trans hs') (hoa.trans e) hT hp3 hF
end
end TG

namespace TG
open PySem PySem.Spec PyProof.Rows L2

def trailsM (ars : List (Int × Int)) (st en : Int) : List (List Int) := outs en (rounds ars ars.length [([], st)]) 0
section
variable {M : Model} {P : Program} {w : World} {A : Around} {Φ : End → Shared → Prop} {env : Env} {c0 : Addr} {s : Shared}
theorem go_func {body : List Stmt} (h : Go (model P w) A Φ (.func body env) ((execs body env).wrap (fun f => .pure (.done (.ret (match f with | .ret v => v | _ => .none)))) (fun e => (leaving env e).wrap (fun _ => .raise e) .raise id id) id id) [] s) :
    Go (model P w) A Φ (.func body env) ((model P w).den (.func body env)) [] s := by
  show Go _ A Φ _ (.point [] fun _ => ((execs body env).onRaise (leaving env)) >>= _) [] s
  refine go_point ?_
  rw [Sem.onRaise_eq_wrap, Sem.bind_eq_wrap', Sem.wrap_wrap]
  rw [Sem.wrap_congr (execs body env) _ _ (K' := fun f => .pure (.done (.ret (match f with | .ret v => v | _ => .none)))) (H' := fun e => (leaving env e).wrap (fun _ => .raise e) .raise id id) (fun f => by cases f <;> rfl)
    (fun e => by rw [Sem.bind_eq_wrap, Sem.wrap_wrap]; rfl)]
  exact h

/-- the three statements of the generator -/
def st1 (p1 p2 p3 p4 p5 p6 : Pos) (k1 k2 : Nat) : Stmt := .Assign [.Name "found" p1] (.List [.Tuple [.Tuple [] k1 p2, .Name "start" p3] k2 p4] p5) p6
def st2 (g1 g2 g3 py spos : Pos) (e : Expr) : Stmt := .For (.Name "_" g1) (.Name "arrows" g2) [.Assign [.Name "found" py] e spos] [] g3
def st3 (t1 t2 t3 f1 b1 b2 b3 b4 b5 b6 b7 pos : Pos) (k : Nat) : Stmt := .For (tgt3 t1 t2 t3 k) (.Name "found" f1) (bod3 b1 b2 b3 b4 b5 b6 b7) [] pos

theorem first_ok {z1 z2 z3 z4 z5 z6 g1 g2 g3 py spos t1 t2 t3 f1 a1 a2 a3 a4 a5 b1 b2 b3 b4 b5 b6 b7 d1 d2 d3 d4 d5 d6 e1 e2 e3 e4 pos y1 y2 y3 y4 x1 x2 x3 x4 x5 x6 x7 y5 : Pos} {k1 k2 k3 k4 k5 k6 k7 k8 q1 q2 : Nat} {m : Str → Option Value} {ar : Addr} {aits : List Value} {ars : List (Int × Int)} {st en : Int} {tst ten : Tok}
    (g : GEnv env c0) (hh : A.handled = none) (hco : env.scope.isCoroutine = false) (hl : py.line = pos.line)
    (hen : ∀ (C : Addr) (s' : Shared) (B : Around) (R E : Value → Shared → Prop), (∀ c o, c ≠ env.locals → s.heap.get? c = some o → s'.heap.get? c = some o) → R (.type "enumerate") s' → wpAny (model P w) B (eval (.Name "enumerate" e1) (ce env c0 C)) R E s')
    (hn : s.heap.Ns env.locals m) (hs : m "start" = some (.int st tst)) (he : m "end" = some (.int en ten)) (hA : Ars s.heap c0 ar aits ars) (h6 : ars.length ≤ 6)
    (h0 : ∀ s', trailsM ars st en = [] → Since [env.locals] s s' → Φ (.ret (.ok (.ret .none))) s')
    (h1 : ∀ s' x r v l k' c' p' fs' it D ys i', trailsM ars st en = x :: r → Since [env.locals] s s' → s.heap.objs.size ≤ it → it < s'.heap.objs.size → s.heap.objs.size ≤ D → TupI s.heap.objs.size s'.heap v x → TPre s.heap.objs.size env.locals it D en ys (rounds ars ars.length [([], st)]) i' s'.heap → fs'.any Frame.guarded = false →
      Fut (model P w) A s.heap.objs.size env.locals it D en ys (rounds ars ars.length [([], st)]) r i' c' k' fs' → Φ (.susp v false l k' c' p' fs') s') :
    Go (model P w) A Φ (.func [st1 z1 z2 z3 z4 z5 z6 k6 k7, st2 g1 g2 g3 py spos (lcomp t1 t2 t3 q1 q2 f1 a1 a2 a3 a4 a5 b1 b2 b3 b4 b5 b6 b7 d1 d2 d3 d4 d5 d6 e1 e2 e3 e4 pos k1 k2 k3 k4 k5), st3 y1 y2 y3 y4 x1 x2 x3 x4 x5 x6 x7 y5 k8] env)
      ((model P w).den (.func [st1 z1 z2 z3 z4 z5 z6 k6 k7, st2 g1 g2 g3 py spos (lcomp t1 t2 t3 q1 q2 f1 a1 a2 a3 a4 a5 b1 b2 b3 b4 b5 b6 b7 d1 d2 d3 d4 d5 d6 e1 e2 e3 e4 pos k1 k2 k3 k4 k5), st3 y1 y2 y3 y4 x1 x2 x3 x4 x5 x6 x7 y5 k8] env)) [] s := by
  have hLs : env.locals < s.heap.objs.size := let ⟨_, _, _, e, _⟩ := hn; Heap.lt_size e
  refine go_func ?_
  rw [execs_cons_wrap]
  refine go_wrap ?_
  rw [GenW.over_func]
  refine s1_ok (lo := s.heap.objs.size) g (Nat.le_refl _) hn hs fun h2 tk2 F fits u2 n2 l2 f2 p2 => ?_
  show Go _ A Φ _ ((execs _ env).wrap _ _ id id) [] _
  rw [execs_cons_wrap]
  refine go_wrap ?_
  rw [GenW.over_func]
  refine s2_ok (s := { s with heap := h2, toks := tk2 }) (ar := ar) (aits := aits) (ars := ars) (st := st) (lo := s.heap.objs.size) g hh (let ⟨_, e, _⟩ := l2; Nat.le_trans f2 (Nat.le_of_lt (Heap.lt_size e))) hl (fun C s' R E k hR => hen C s' _ R E (fun c o hc e => k c o hc (u2 c o hc e)) hR) n2 (by show (if ("found" : Str) = "found" then _ else _) = _; rw [if_pos rfl]) l2 p2 (hA.keep hn u2) h6 fun h3 tk3 D ys m3 u3 n3 r3 r4 l3 f3 p3 => ?_
  have he3 : m3 "end" = some (.int en ten) := by
    rw [r4]
    show (if ("end" : Str) = "found" then _ else _) = _
    rw [if_neg (by decide +kernel)]
    exact he
  have u23 : ∀ c o, c ≠ env.locals → s.heap.get? c = some o → h3.get? c = some o := fun c o hc e => u3 c o hc (u2 c o hc e)
  show Go _ A Φ _ ((execs _ env).wrap _ _ id id) [] _
  rw [execs_cons_wrap]
  refine go_fors ?_
  rw [GenW.over_func]
  refine wpAny_Name (wpAny_loadName_local g.kind g.kf n3 r3 ?_)
  refine wpAny_pyIter_list l3 ?_
  intro p
  generalize hH4 : h3.push { cls := .type "list_iterator", data := .fields #[.ref D, .int 0 0] } = H4
  have z4 : H4.objs.size = h3.objs.size + 1 := by rw [← hH4, Heap.size_push]
  have u4 : ∀ c o, h3.get? c = some o → H4.get? c = some o := fun c o e => hH4 ▸ Heap.get?_push_of_some _ e
  have it4 : H4.IsListIter h3.objs.size D 0 := hH4 ▸ ⟨_, Heap.get?_push_size _ rfl, rfl, rfl⟩
  have hL3 : env.locals < h3.objs.size := let ⟨_, _, _, e, _⟩ := n3; Heap.lt_size e
  have hD3 : D < h3.objs.size := let ⟨_, e, _⟩ := l3; Heap.lt_size e
  have nDL : D ≠ env.locals := fun z => by
    obtain ⟨oL, es, ep, hL, hd, _⟩ := id n3
    obtain ⟨o2, e2, c2, n2, d2⟩ := id l3
    rw [z, hL] at e2; cases e2; rw [hd] at d2; cases d2
  have hsD : s.heap.objs.size ≤ D := by
    obtain ⟨_, eF, _⟩ := id l2
    have hF := Heap.lt_size eF
    rcases f3 with z | z
    · rw [z]
      exact f2
    · exact Nat.le_trans f2 (Nat.le_trans (Nat.le_of_lt hF) z)
  have hsz : s.heap.objs.size ≤ h3.objs.size := Nat.le_of_lt (Nat.lt_of_le_of_lt hsD hD3)
  have sin : ∀ s' : Shared, Since [env.locals, h3.objs.size] { s with heap := H4, toks := tk3 } s' → Since [env.locals] s s' := fun s' q => by
    obtain ⟨h, tk, rfl, k⟩ := q
    refine ⟨h, tk, rfl, fun b o hb e => k b o (fun hm => ?_) (u4 b o (u23 b o (fun z => hb (z ▸ List.mem_cons_self)) e))⟩
    rcases List.mem_cons.mp hm with z | hm
    · exact hb (z ▸ List.mem_cons_self)
    · have := Heap.lt_size (u23 b o (fun z => hb (z ▸ List.mem_cons_self)) e)
      rw [List.mem_singleton.mp hm] at this
      exact absurd this (Nat.lt_irrefl _)
  refine loop_ok (it := h3.objs.size) (D := D) (en := en) (ys := ys) (f := rounds ars ars.length [([], st)]) (lo := s.heap.objs.size) g hco (Nat.ne_of_lt hL3) nDL (Nat.ne_of_lt hD3) (plen p3) rfl rfl ?_ ?_ _ 0 Φ _ rfl ?_ ?_ ?_
  · show (A.over _ [_]).handled = none
    exact hh
  · intro Ψ s' hΨ
    refine go_leaf (.ok .next) ?_
    show Go _ A Ψ _ (.pure (.done (.ret .none))) [] s'
    exact go_end (.ok (.ret .none)) hΨ
  · refine ⟨⟨m3, ten, n3.at' fun o e => u4 _ o e, he3⟩, it4, l3.at fun o e => u4 _ o e, fun k v x _ e1 e2 => ?_⟩
    obtain ⟨x', e2', i⟩ := pget p3 e1
    rw [e2] at e2'
    cases e2'
    refine (i.sub fun b hb => ?_).keep fun b o _ e => u4 b o e
    rcases List.mem_cons.mp hb with z | hb
    · exact .inl (z ▸ List.mem_cons_self)
    · exact .inr (Nat.le_of_eq (List.mem_singleton.mp hb).symm)
  · intro s' hs' e
    exact h0 s' e (sin s' hs')
  · intro s' v l k' p' i' x r' hs' e hT hp hF
    refine h1 s' x r' v l k' _ p' _ h3.objs.size D ys i' e (sin s' hs') hsz ?_ hsD hT hp rfl hF
    obtain ⟨_, ⟨oi, ei, _⟩, _, _⟩ := id hp
    exact Heap.lt_size ei
end
end TG

namespace TG
open PySem PySem.Spec PyProof.Rows L2
open Sem (wp)

/-- a generator that has not begun: what comes of waking it the first time -/
def Fresh (P : Program) (w : World) (L ar : Addr) (st en : Int) (c : Code) (h : Heap) (U : Addr → Prop) : Prop :=
  ∀ (A : Around) (Φ : End → Shared → Prop) (s : Shared) (aits : List Value) (ars : List (Int × Int)), A.handled = none → (∀ b o, U b → h.get? b = some o → s.heap.get? b = some o) → s.heap.IsList ar aits.toArray → Paired (Arr s.heap) aits ars → ars.length ≤ 6 →
    (∀ s', trailsM ars st en = [] → Since [L] s s' → Φ (.ret (.ok (.ret .none))) s') →
    (∀ s' x r v l k' c' p' fs' it D ys i', trailsM ars st en = x :: r → Since [L] s s' → s.heap.objs.size ≤ it → it < s'.heap.objs.size → s.heap.objs.size ≤ D → TupI s.heap.objs.size s'.heap v x → TPre s.heap.objs.size L it D en ys (rounds ars ars.length [([], st)]) i' s'.heap → fs'.any Frame.guarded = false →
      Fut (model P w) A s.heap.objs.size L it D en ys (rounds ars ars.length [([], st)]) r i' c' k' fs' → Φ (.susp v false l k' c' p' fs') s') →
    Go (model P w) A Φ c ((model P w).den c) [] s
/-- a generator that sleeps: what comes of waking it -/
def Sleep (P : Program) (w : World) (A : Around) (lo : Nat) (L it D : Addr) (en : Int) (ys : List Value) (f : List (List Int × Int)) (r : List (List Int)) (i : Nat) (gs : GenState) : Prop :=
  ∃ k l c p fs, gs = .suspended k l c p fs false ∧ Fut (model P w) A lo L it D en ys f r i c k fs

section
variable {P : Program} {w : World} {A : Around} {E : Value → Shared → Prop} {s : Shared}
theorem wake_code {g : Nat} {gs : GenState} {Φ : End → Shared → Prop} {α : Type} {l : List Value} {K : GenResult → Sem α} {Q : α → Shared → Prop} {c : Code} {t : Sem PySem.Fin} {fs : List Frame} (hg : s.gens[g]? = some gs)
    (hs : (gs = .fresh c ∧ t = (model P w).den c ∧ fs = []) ∨ ∃ k l' p cl, gs = .suspended k l' c p fs cl ∧ t = k (.send .none)) (hgo : Go (model P w) A Φ c t fs (s.setGen g .running))
    (hΦ : ∀ e s₁, Φ e s₁ → e.quiet = true ∧ wpAny (model P w) A (K e.result) Q E (s₁.setGen g e.genState)) : wpAny (model P w) A (.resume g (.send .none) l K) Q E s := by
  intro Γ p hΓ
  rw [Sem.wp_resume]
  rcases hs with ⟨rfl, rfl, rfl⟩ | ⟨k, l', p', cl, rfl, rfl⟩
  · obtain ⟨e₁, s₁, hr, he⟩ := hgo (Γ.wake c p) p rfl (hΓ.wake c p)
    obtain ⟨hq, hk⟩ := hΦ e₁ s₁ he
    exact ⟨_, _, by unfold Wakes; rw [hg]; exact ⟨e₁, s₁, hr, hq, rfl, rfl⟩, hk Γ p hΓ⟩
  · obtain ⟨e₁, s₁, hr, he⟩ := hgo (Γ.wake c p) p' rfl (hΓ.wake c p)
    obtain ⟨hq, hk⟩ := hΦ e₁ s₁ he
    exact ⟨_, _, by unfold Wakes; rw [hg]; exact ⟨e₁, s₁, hr, hq, rfl, rfl⟩, hk Γ p hΓ⟩
theorem set_set {s : Shared} {g : Nat} {x : GenState} {h : Heap} {tk : Nat} : ({ s.setGen g .running with heap := h, toks := tk } : Shared).setGen g x = { s with heap := h, toks := tk, gens := s.gens.setIfInBounds g x } := by
  simp [Shared.setGen]

/-- next, where something is handed out -/
theorem next_out {a : Addr} {g : Nat} {gs : GenState} {Φ : End → Shared → Prop} {c : Code} {t : Sem PySem.Fin} {fs : List Frame} {Q : Option Value → Shared → Prop} (hl : s.heap.NoLimit) (hroom : A.depth < recursionLimit) (hg : s.heap.IsGen a g) (hgs : s.gens[g]? = some gs)
    (hs : (gs = .fresh c ∧ t = (model P w).den c ∧ fs = []) ∨ ∃ k l' p cl, gs = .suspended k l' c p fs cl ∧ t = k (.send .none)) (hgo : Go (model P w) A.in1 Φ c t fs (s.setGen g .running))
    (hΦ : ∀ e s₁, Φ e s₁ → ∃ v l k' c' p' fs', e = .susp v false l k' c' p' fs' ∧ fs'.any Frame.guarded = false ∧ Q (some v) (s₁.setGen g (.suspended k' l c' p' fs' false))) : wpAny (model P w) A (pyNext (.ref a)) Q E s := by
  unfold pyNext
  refine wpAny_bind (wpAny_attempt (wpAny_callSpecial?_slot (name := Str.ofString "__next__") hg.typeIs slot_gen_next (wpAny_call_entry slot_gen_next hg.typeIs entry_gen_next ?_ (args_gen_next _))))
  show wpAny _ A.in1 (Builtin.Generator.genWake (.ref a) (.send .none)) _ _ s
  unfold Builtin.Generator.genWake
  refine wpAny_bind (wpAny_holding (wpAny_genNumber hg (wpAny_bind (wpAny_genState hgs ?_))))
  rcases hs with ⟨rfl, rfl, rfl⟩ | ⟨k, l', p, cl, rfl, rfl⟩
  · refine wpAny_bind (wpAny_roomToWake hl hroom ?_)
    show wpAny _ A.in1 (.resume g (.send .none) [] _) _ _ s
    refine wake_code hgs (.inl ⟨rfl, rfl, rfl⟩) hgo fun e s₁ he => ?_
    obtain ⟨v, l, k', c', p', fs', rfl, hf, hq⟩ := hΦ e s₁ he
    refine ⟨by simp [End.quiet, hf], ?_⟩
    have e : (End.susp v false l k' c' p' fs').genState = .suspended k' l c' p' fs' false := by simp [End.genState, hf]
    rw [e]
    exact wpAny_pure ⟨v, rfl, wpAny_pure hq⟩
  · refine wpAny_bind (wpAny_roomToWake hl hroom ?_)
    show wpAny _ A.in1 (.resume g (.send .none) [] _) _ _ s
    refine wake_code hgs (.inr ⟨k, l', p, cl, rfl, rfl⟩) hgo fun e s₁ he => ?_
    obtain ⟨v, l, k', c', p', fs', rfl, hf, hq⟩ := hΦ e s₁ he
    refine ⟨by simp [End.quiet, hf], ?_⟩
    have e : (End.susp v false l k' c' p' fs').genState = .suspended k' l c' p' fs' false := by simp [End.genState, hf]
    rw [e]
    exact wpAny_pure ⟨v, rfl, wpAny_pure hq⟩
/-- next, where it ends -/
theorem next_end {a : Addr} {g : Nat} {gs : GenState} {W : List Addr} {c : Code} {t : Sem PySem.Fin} {fs : List Frame} {Q : Option Value → Shared → Prop} (hh : A.handled = none) (hl : s.heap.NoLimit) (hroom : A.depth < recursionLimit) (hg : s.heap.IsGen a g) (hgs : s.gens[g]? = some gs)
    (hs : (gs = .fresh c ∧ t = (model P w).den c ∧ fs = []) ∨ ∃ k l' p cl, gs = .suspended k l' c p fs cl ∧ t = k (.send .none)) (hgo : Go (model P w) A.in1 (fun e s' => e = .ret (.ok (.ret .none)) ∧ Since W (s.setGen g .running) s') c t fs (s.setGen g .running))
    (hQ : ∀ h' tk, (∀ b o, b ∉ W → s.heap.get? b = some o → h'.get? b = some o) → Q none { s with heap := h', toks := tk, gens := s.gens.setIfInBounds g .finished }) : wpAny (model P w) A (pyNext (.ref a)) Q E s := by
  refine L2.next_genG (n := 0) (gs := gs) (F := fun _ _ s₁ => Since W (s.setGen g .running) s₁) (Er := fun _ _ => False) (Y := fun _ _ _ _ _ => False) hh hl hroom hg hgs ?_ (fun _ _ _ _ z => z.elim) (fun s₁ hs₁ h' hk => ?_) fun _ _ z => z.elim
  · rcases hs with ⟨rfl, rfl, rfl⟩ | ⟨k, l', p, cl, rfl, rfl⟩
    · refine ⟨rfl, fun Γ p h1 h2 => ?_⟩
      obtain ⟨e, s', hr, rfl, hs'⟩ := hgo Γ p h1 h2
      exact ⟨_, s', hr, .inl ⟨.inl rfl, hs'⟩⟩
    · intro Γ p h1 h2
      obtain ⟨e, s', hr, rfl, hs'⟩ := hgo Γ p h1 h2
      exact ⟨_, s', hr, .inl ⟨.inl rfl, hs'⟩⟩
  · obtain ⟨h, tk, rfl, k⟩ := hs₁
    rw [set_set]
    exact hQ h' tk fun b o hb e => hk b o (k b o hb e)

/-- the first next -/
theorem next_fresh {a L ar : Addr} {g : Nat} {c : Code} {st en : Int} {h0 : Heap} {aits : List Value} {ars : List (Int × Int)} {Q : Option Value → Shared → Prop} (hh : A.handled = none) (hl : s.heap.NoLimit) (hroom : A.depth < recursionLimit) (hg : s.heap.IsGen a g) (hgs : s.gens[g]? = some (.fresh c))
    {U : Addr → Prop} (hF : Fresh P w L ar st en c h0 U) (hk : ∀ b o, U b → h0.get? b = some o → s.heap.get? b = some o) (hls : s.heap.IsList ar aits.toArray) (harr : Paired (Arr s.heap) aits ars) (h6 : ars.length ≤ 6)
    (q0 : trailsM ars st en = [] → ∀ h' tk, (∀ b o, b ≠ L → s.heap.get? b = some o → h'.get? b = some o) → Q none { s with heap := h', toks := tk, gens := s.gens.setIfInBounds g .finished })
    (q1 : ∀ x r v h' tk gs' it D ys i', trailsM ars st en = x :: r → (∀ b o, b ≠ L → s.heap.get? b = some o → h'.get? b = some o) → s.heap.objs.size ≤ it → it < h'.objs.size → s.heap.objs.size ≤ D → TupI s.heap.objs.size h' v x → TPre s.heap.objs.size L it D en ys (rounds ars ars.length [([], st)]) i' h' →
      Sleep P w A.in1 s.heap.objs.size L it D en ys (rounds ars ars.length [([], st)]) r i' gs' → Q (some v) { s with heap := h', toks := tk, gens := s.gens.setIfInBounds g gs' }) :
    wpAny (model P w) A (pyNext (.ref a)) Q E s := by
  have kw : ∀ {s' : Shared}, Since [L] (s.setGen g .running) s' → ∃ h tk, s' = { s.setGen g .running with heap := h, toks := tk } ∧ ∀ b o, b ≠ L → s.heap.get? b = some o → h.get? b = some o := fun ⟨h, tk, e, k⟩ => ⟨h, tk, e, fun b o hb q => k b o (fun hm => hb (List.mem_singleton.mp hm)) q⟩
  cases ht : trailsM ars st en with
  | nil =>
    refine next_end (W := [L]) (c := c) (t := (model P w).den c) (fs := []) hh hl hroom hg hgs (.inl ⟨rfl, rfl, rfl⟩) ?_ fun h' tk k => q0 ht h' tk fun b o hb e => k b o (fun hm => hb (List.mem_singleton.mp hm)) e
    refine hF A.in1 _ (s.setGen g .running) aits ars hh hk hls harr h6 (fun s' _ hs' => ⟨rfl, hs'⟩) fun s' x r v l k' c' p' fs' it D ys i' e => ?_
    rw [ht] at e
    cases e
  | cons x r =>
    refine next_out (c := c) (t := (model P w).den c) (fs := []) (Φ := fun e s' => ∃ v l k' c' p' fs' it D ys i', e = .susp v false l k' c' p' fs' ∧ Since [L] (s.setGen g .running) s' ∧ s.heap.objs.size ≤ it ∧ it < s'.heap.objs.size ∧ s.heap.objs.size ≤ D ∧ TupI s.heap.objs.size s'.heap v x ∧ TPre s.heap.objs.size L it D en ys (rounds ars ars.length [([], st)]) i' s'.heap ∧
      fs'.any Frame.guarded = false ∧ Fut (model P w) A.in1 s.heap.objs.size L it D en ys (rounds ars ars.length [([], st)]) r i' c' k' fs') hl hroom hg hgs (.inl ⟨rfl, rfl, rfl⟩) ?_ ?_
    · refine hF A.in1 _ (s.setGen g .running) aits ars hh hk hls harr h6 (fun s' e _ => ?_) fun s' x' r' v l k' c' p' fs' it D ys i' e hs' z1 z2 z3 hT hp hf hFu => ?_
      · rw [ht] at e
        cases e
      · rw [ht] at e
        cases e
        exact ⟨v, l, k', c', p', fs', it, D, ys, i', rfl, hs', z1, z2, z3, hT, hp, hf, hFu⟩
    · rintro e s₁ ⟨v, l, k', c', p', fs', it, D, ys, i', rfl, hs', z1, z2, z3, hT, hp, hf, hFu⟩
      refine ⟨v, l, k', c', p', fs', rfl, hf, ?_⟩
      obtain ⟨h, tk, rfl, k⟩ := kw hs'
      rw [set_set]
      exact q1 x r v h tk _ it D ys i' ht k z1 z2 z3 hT hp ⟨k', l, c', p', fs', rfl, hFu⟩
/-- a later next -/
theorem next_sleep {a L it D : Addr} {g i : Nat} {gs : GenState} {en : Int} {ys : List Value} {f : List (List Int × Int)} {rr : List (List Int)} {lo : Nat} {Q : Option Value → Shared → Prop} (hh : A.handled = none) (hl : s.heap.NoLimit) (hroom : A.depth < recursionLimit) (hg : s.heap.IsGen a g) (hgs : s.gens[g]? = some gs)
    (hS : Sleep P w A.in1 lo L it D en ys f rr i gs) (hp : TPre lo L it D en ys f i s.heap)
    (q0 : rr = [] → ∀ h' tk, (∀ b o, b ∉ [L, it] → s.heap.get? b = some o → h'.get? b = some o) → Q none { s with heap := h', toks := tk, gens := s.gens.setIfInBounds g .finished })
    (q1 : ∀ x r v h' tk gs' i', rr = x :: r → (∀ b o, b ∉ [L, it] → s.heap.get? b = some o → h'.get? b = some o) → TupI lo h' v x → TPre lo L it D en ys f i' h' → Sleep P w A.in1 lo L it D en ys f r i' gs' → Q (some v) { s with heap := h', toks := tk, gens := s.gens.setIfInBounds g gs' }) :
    wpAny (model P w) A (pyNext (.ref a)) Q E s := by
  obtain ⟨k, l, c, p, fs, rfl, hFu⟩ := hS
  cases rr with
  | nil =>
    exact next_end (W := [L, it]) (c := c) (t := k (.send .none)) (fs := fs) hh hl hroom hg hgs (.inr ⟨k, l, p, _, rfl, rfl⟩) (hFu (s.setGen g .running) hp) fun h' tk kk => q0 rfl h' tk kk
  | cons x r =>
    refine next_out (c := c) (t := k (.send .none)) (fs := fs) hl hroom hg hgs (.inr ⟨k, l, p, _, rfl, rfl⟩) (hFu (s.setGen g .running) hp) ?_
    rintro e s₁ ⟨v, l, k', c', p', fs', i', rfl, hf, ⟨h, tk, rfl, kk⟩, hT, hp', hF'⟩
    refine ⟨v, l, k', c', p', fs', rfl, hf, ?_⟩
    rw [set_set]
    exact q1 x r v h tk _ i' rfl kk hT hp' ⟨k', l, c', p', fs', rfl, hF'⟩
end
end TG

namespace TG
open PySem PySem.Spec PyProof.Rows L2

/-- the generator def's scope -/
structure TScope (sc : Scope) : Prop where
  kind : sc.kind = .function
  co : sc.isCoroutine = false
  gen : sc.isGenerator = true
  names : sc.names = [(("arrows" : Str), .cell), ("start", .local), ("end", .local), ("found", .local), ("_", .local), ("trail", .local), ("point", .local)]
/-- the body: three statements of this form -/
inductive TBody : List Stmt → Prop where
  | mk {z1 z2 z3 z4 z5 z6 g1 g2 g3 py spos t1 t2 t3 f1 a1 a2 a3 a4 a5 b1 b2 b3 b4 b5 b6 b7 d1 d2 d3 d4 d5 d6 e1 e2 e3 e4 pos y1 y2 y3 y4 x1 x2 x3 x4 x5 x6 x7 y5 : Pos} {k1 k2 k3 k4 k5 k6 k7 k8 q1 q2 : Nat} (hl : py.line = pos.line) :
      TBody [st1 z1 z2 z3 z4 z5 z6 k6 k7, st2 g1 g2 g3 py spos (lcomp t1 t2 t3 q1 q2 f1 a1 a2 a3 a4 a5 b1 b2 b3 b4 b5 b6 b7 d1 d2 d3 d4 d5 d6 e1 e2 e3 e4 pos k1 k2 k3 k4 k5), st3 y1 y2 y3 y4 x1 x2 x3 x4 x5 x6 x7 y5 k8]
/-- a call of the generator def gives a generator that has not begun -/
def TMade (P : Program) (w : World) (base : Heap) (ar : Addr) (st en : Int) (s : Shared) (u : Value) (s' : Shared) : Prop :=
  ∃ (a L : Addr) (c : Code) (h : Heap) (tk : Nat), u = .ref a ∧ s' = { s with heap := h, toks := tk, gens := s.gens.push (.fresh c) } ∧ (∀ b o, s.heap.get? b = some o → h.get? b = some o) ∧ s.heap.objs.size ≤ L ∧ L < a ∧ (∃ m, h.Ns L m) ∧ h.IsGen a s.gens.size ∧ Fresh P w L ar st en c h fun b => (∃ o, base.get? b = some o) ∨ s.heap.objs.size ≤ b
section
variable {P : Program} {w : World} {K : PySem.W.Frag} {mg : Str → Option Value} {base : Heap} {k : Nat} {f : Addr} {name qual : Str} {params : Arguments} {body : List Stmt} {scope : Scope} {dV kV doc pm cdv ct oc : Value} {an od : Option Addr} {osl : Array (Option Value)}
theorem made_ok (lk : K.lookup f = some ⟨oc, od, .func (PySem.W.fnOf name qual params body scope dV kV doc pm an cdv ct), osl⟩) (hcd : PySem.W.codeIn K cdv qual = true) (S : TScope scope) (B : TBody body) (hen : mg "enumerate" = none)
    {A : Around} {outer : List Env} {s : Shared} {H : Hp} {args : Args} {ar : Addr} {st en : Int} {t1 t2 : Tok} (hd : A.depth < recursionLimit) (e0 : Env0 P w K mg base A outer s H)
    (hb : BindsTo s (PySem.W.fnOf name qual params body scope dV kV doc pm an cdv ct) args [(("arrows" : Str), .ref ar), ("start", .int st t1), ("end", .int en t2)]) :
    codeAny (model P w) A (.call (.ref f) args) (fun r s' => ∃ u, r = .ok (.ret u) ∧ TMade P w base ar st en s u s') s := by
  have KX : K.In s.heap := e0.mod.kin.keeps fun b o e => (e0.bs b o e).1
  have lim : s.heap.NoLimit := e0.mod.nolimit.keeps fun b o e => (e0.bs b o e).1
  have hk1 : ∀ x : Str × Value, x ∈ [(("arrows" : Str), Value.ref ar), ("start", .int st t1), ("end", .int en t2)] → scope.names.lookup x.1 = some .local ∨ (scope.names.lookup x.1 = some .cell ∧ ((cellsFrom (s.heap.objs.size + 1) scope.names []).lookup x.1).isSome = true) := by
    rw [S.names]
    intro x hx
    rcases List.mem_cons.mp hx with rfl | hx
    · exact .inr ⟨by dsimp only; decide +kernel, PySem.W.cellsFrom_some _ _ _ (.inl (by dsimp only; decide +kernel))⟩
    rcases List.mem_cons.mp hx with rfl | hx
    · exact .inl (by dsimp only; decide +kernel)
    · rw [List.mem_singleton.mp hx]
      exact .inl (by dsimp only; decide +kernel)
  refine codeAny_call_generator hd (KX _ _ lk) rfl S.co S.gen rfl (PySem.W.codeRec_of KX hcd) (hb _ _ _ _ ?_)
  refine wpAny_newFunctionEnv_cells S.kind hk1 fun env he s1 x => ?_
  have lim1 : s1.heap.NoLimit := lim.keeps x.toInCall.keep
  refine ⟨lim1, _, rfl, ?_⟩
  obtain ⟨h1, tk1, rfl, kp⟩ := x.done
  have hL : env.locals = s.heap.objs.size := by rw [he]; rfl
  have hsc : env.scope = scope := by rw [he]; rfl
  have hkd : ∀ y, env.kindOf y = scope.names.lookup y := fun y => by unfold Env.kindOf; rw [hsc]
  have hcl : ∃ c0, env.cells.lookup ("arrows" : Str) = some c0 := by
    have e : env.cells = cellsFrom (s.heap.objs.size + 1) scope.names [] := by rw [he]; rfl
    rw [e]
    exact L2.cell_has (by rw [S.names]; decide +kernel)
  obtain ⟨c0, hc0⟩ := hcl
  have g : GEnv env c0 := ⟨by rw [hsc]; exact S.kind, by rw [hkd, S.names]; decide +kernel, by rw [hkd, S.names]; decide +kernel, by rw [hkd, S.names]; decide +kernel, by rw [hkd, S.names]; decide +kernel, by rw [hkd, S.names]; decide +kernel, by rw [hkd, S.names]; decide +kernel, by rw [hkd, S.names]; decide +kernel, hc0⟩
  have nd : ([("arrows" : Str), "start", "end"]).Nodup := by decide +kernel
  have ns := x.toInCall.ns
  have hcell : h1.IsCell c0 (some (.ref ar)) := by
    have q := x.cell _ _ hc0
    rw [show [(("arrows" : Str), Value.ref ar), ("start", .int st t1), ("end", .int en t2)] = ([("arrows" : Str), "start", "end"]).zip [Value.ref ar, .int st t1, .int en t2] from rfl] at q
    rw [L2.bindC_get (i := 0) nd rfl rfl (by rw [g.ka]; decide)] at q
    exact q
  have hst : (bindL env.kindOf [(("arrows" : Str), Value.ref ar), ("start", .int st t1), ("end", .int en t2)] fun _ => none) "start" = some (.int st t1) := by
    rw [show [(("arrows" : Str), Value.ref ar), ("start", .int st t1), ("end", .int en t2)] = ([("arrows" : Str), "start", "end"]).zip [Value.ref ar, .int st t1, .int en t2] from rfl]
    exact L2.bindL_get (i := 1) nd rfl rfl g.ks
  have hen' : (bindL env.kindOf [(("arrows" : Str), Value.ref ar), ("start", .int st t1), ("end", .int en t2)] fun _ => none) "end" = some (.int en t2) := by
    rw [show [(("arrows" : Str), Value.ref ar), ("start", .int st t1), ("end", .int en t2)] = ([("arrows" : Str), "start", "end"]).zip [Value.ref ar, .int st t1, .int en t2] from rfl]
    exact L2.bindL_get (i := 2) nd rfl rfl g.ke
  have hLa : env.locals < h1.objs.size := let ⟨_, _, _, e, _⟩ := ns; Heap.lt_size e
  have up : ∀ (go : Obj) b o, h1.get? b = some o → (h1.push go).get? b = some o := fun go b o e => Heap.get?_push_of_some _ e
  refine ⟨h1.objs.size, env.locals, _, _, _, rfl, rfl, fun b o e => up _ b o (kp b o e), Nat.le_of_eq hL.symm, hLa, ⟨_, ns.at' fun o e => up _ _ o e⟩, ⟨_, _, _, Heap.get?_push_size _ rfl, rfl, rfl, rfl⟩, ?_⟩
  cases B with
  | mk hl =>
  intro A' Φ s2 aits ars hh hk hls harr h6 q0 q1
  have kk : ∀ b o, s.heap.objs.size ≤ b → h1.get? b = some o → s2.heap.get? b = some o := fun b o ub e => hk b o (.inr ub) (up _ b o e)
  have uL : s.heap.objs.size ≤ env.locals := Nat.le_of_eq hL.symm
  have uc : s.heap.objs.size ≤ c0 := by
    have e : env.cells = cellsFrom (s.heap.push { cls := .type "dict", data := .cell none }).objs.size scope.names [] := by rw [he, Heap.size_push]; rfl
    exact ((cellsFrom_ok scope.names (s.heap.push { cls := .type "dict", data := .cell none }) s.heap.objs.size [] ⟨fun n c h => (by cases h), .nil⟩ (by rw [Heap.size_push]; exact Nat.le_succ _)).empty _ _ (mem_of_lookup (e ▸ hc0))).2
  refine first_ok (ar := ar) (aits := aits) (ars := ars) (st := st) (en := en) g hh (by rw [hsc]; exact S.co) hl (fun C s' B R E k hR => ?_) (ns.at' fun o e => kk _ o uL e) hst hen' ⟨(let ⟨o, e, d⟩ := hcell; ⟨o, kk _ _ uc e, d⟩), hls, harr⟩ h6 q0 q1
  obtain ⟨mb, b1, b2⟩ := e0.mod.blt
  have kb : ∀ b o, base.get? b = some o → s'.heap.get? b = some o := fun b o e => by
    have e1 := (e0.bs b o e).1
    exact k b o (by rw [hL]; exact Nat.ne_of_lt (Heap.lt_size e1)) (hk b o (.inl ⟨o, e⟩) (up _ _ _ (kp b o e1)))
  have gl : (ce env c0 C).globals = mainGlobals := by show env.globals = _; rw [he]; rfl
  have gb : (ce env c0 C).builtins = builtinsNs := by show env.builtins = _; rw [he]; rfl
  exact Calls.Name_function_global g.kk g.kE (Calls.loadGlobal_builtin (by rw [gl]; exact e0.mod.glob.keeps kb) hen (by rw [gb]; exact b1.keeps kb) ((b2 "enumerate" (by decide +kernel)).trans (by decide +kernel)) hR) (by decide +kernel)
end
end TG

namespace TG
open PySem PySem.Spec PyProof.Rows L2

theorem TPre.shift {lo : Nat} {L it D : Addr} {en : Int} {ys : List Value} {f : List (List Int × Int)} {i : Nat} {h h' : Heap} {S : Addr} (x : TPre lo L it D en ys f i h) (hSL : S ≠ L) (hSi : S ≠ it) (hSD : S ≠ D) (nt : ∀ its, ¬ IsTup h S its) (k : ∀ b o, b ≠ S → h.get? b = some o → h'.get? b = some o) : TPre lo L it D en ys f i h' := by
  obtain ⟨⟨m, te, n, e⟩, i1, l1, t1⟩ := x
  refine ⟨⟨m, te, n.at' fun o e => k _ o (Ne.symm hSL) e, e⟩, i1.at fun o e => k _ o (Ne.symm hSi) e, l1.at fun o e => k _ o (Ne.symm hSD) e, fun j v y hj e1 e2 => ?_⟩
  obtain ⟨p, t, tk, its, e, w1, w2, a1, a2, a3⟩ := t1 j v y hj e1 e2
  exact ⟨p, t, tk, its, e, w1, w2, tup_at a1 fun o e => k p o (fun z => nt _ (z ▸ a1)) e, tup_at a2 fun o e => k t o (fun z => nt _ (z ▸ a2)) e, a3⟩
theorem TPre.keep {lo : Nat} {L it D : Addr} {en : Int} {ys : List Value} {f : List (List Int × Int)} {i : Nat} {h h' : Heap} (x : TPre lo L it D en ys f i h) (k : ∀ b o, h.get? b = some o → h'.get? b = some o) : TPre lo L it D en ys f i h' := by
  obtain ⟨⟨m, te, n, e⟩, i1, l1, t1⟩ := x
  exact ⟨⟨m, te, n.at' fun o e => k _ o e, e⟩, i1.at fun o e => k _ o e, l1.at fun o e => k _ o e, fun j v y hj e1 e2 => (t1 j v y hj e1 e2).keep fun b o _ e => k b o e⟩
theorem TupI.keep {lo : Nat} {h h' : Heap} {v : Value} {x : List Int} (t : TupI lo h v x) (W : List Addr) (nt : ∀ b ∈ W, ∀ its, ¬ IsTup h b its) (k : ∀ b o, b ∉ W → h.get? b = some o → h'.get? b = some o) : TupI lo h' v x := by
  obtain ⟨T, its, e, l, a, i⟩ := t
  exact ⟨T, its, e, l, tup_at a fun o e => k T o (fun hm => nt T hm _ a) e, i⟩
theorem nt_ns {h : Heap} {L : Addr} {m : Str → Option Value} (n : h.Ns L m) : ∀ its, ¬ IsTup h L its := fun its ⟨o, e, c, k, d⟩ => by
  obtain ⟨oL, es, ep, hL, hd, _⟩ := n
  rw [e] at hL; cases hL; rw [d] at hd; cases hd
theorem nt_it {h : Heap} {L D : Addr} {i : Nat} (n : h.IsListIter L D i) : ∀ its, ¬ IsTup h L its := fun its ⟨o, e, c, k, d⟩ => by
  obtain ⟨o2, e2, c2, d2⟩ := n
  rw [e] at e2; cases e2; rw [d] at d2; cases d2
theorem nt_lst {h : Heap} {S : Addr} {acc : Array Value} {c : Nat} (e2 : h.get? S = some (lstObj acc c)) : ∀ its, ¬ IsTup h S its := fun its ⟨o, e, c, k, d⟩ => by
  rw [e] at e2; cases e2
  exact absurd (show Value.type "list" = .type "tuple" from c) (by decide +kernel)
section
variable {P : Program} {w : World} {A : Around} {s : Shared}
/-- list(g), from the second item on -/
theorem drain_sleep {R : Result → Shared → Prop} {S a L it D : Addr} {g : Nat} {en : Int} {ys : List Value} {f : List (List Int × Int)} {res : Value} {lo : Nat} (hh : A.handled = none) (hd : A.depth < recursionLimit) (hSa : S ≠ a) (hSL : S ≠ L) (hSi : S ≠ it) (hSD : S ≠ D)
    (haL : a ≠ L) (hai : a ≠ it) (hcS : cStatics ≠ S) (hcL : cStatics ≠ L) (hci : cStatics ≠ it) :
    ∀ (rr : List (List Int)) (i : Nat) (gs : GenState) (s : Shared) (acc : Array Value) (c : Nat) (xs : List (List Int)), s.heap.NoLimit → s.heap.IsGen a g → s.gens[g]? = some gs → Sleep P w A.in1.in1 lo L it D en ys f rr i gs → TPre lo L it D en ys f i s.heap → s.heap.get? S = some (lstObj acc c) →
      Paired (TupI lo s.heap) acc.toList xs → xs.length + rr.length ≤ sizeLine →
      (∀ h' tk acc' c', (∀ b o, b ∉ [S, L, it] → s.heap.get? b = some o → h'.get? b = some o) → h'.get? S = some (lstObj acc' c') → Paired (TupI lo h') acc'.toList (xs ++ rr) → ∀ gs', gs'.bare = true → R (.ok (.ret res)) { s with heap := h', toks := tk, gens := s.gens.setIfInBounds g gs' }) →
      codeAny (model P w) A (.builtin "list.extend.loop" ⟨[.ref S, .ref a, res], []⟩) R s := by
  intro rr
  induction rr with
  | nil =>
    intro i gs s acc c xs hl hg hgs hsl hp hS hpr hz hR
    refine codeAny_builtin F.entry_extend_loop ?_
    rw [Around.under_plainId F.plain_extend_loop _]
    show wpAny _ A.in1 (pyNext (.ref a) >>= _) _ _ s
    refine wpAny_bind (next_sleep (A := A.in1) hh hl hd hg hgs hsl hp (fun _ h' tk k => ?_) fun x r v h' tk gs' i' e => by cases e)
    refine wpAny_pure (hR h' tk acc c (fun b o hb e => k b o (fun hm => hb (List.mem_cons_of_mem _ hm)) e) (k _ _ (fun hm => ?_) hS) ?_ _ rfl)
    · rcases List.mem_cons.mp hm with z | hm
      · exact hSL z
      · exact hSi (List.mem_singleton.mp hm)
    · rw [List.append_nil]
      obtain ⟨⟨m, te, n, _⟩, i1, _, _⟩ := hp
      refine pmono (fun v x t => t.keep [L, it] (fun b hb => ?_) k) hpr
      rcases List.mem_cons.mp hb with z | hb
      · rw [z]; exact nt_ns n
      · rw [List.mem_singleton.mp hb]; exact nt_it i1
  | cons x r ih =>
    intro i gs s acc c xs hl hg hgs hsl hp hS hpr hz hR
    have hgl : g < s.gens.size := (Array.getElem?_eq_some_iff.mp hgs).1
    refine codeAny_builtin F.entry_extend_loop ?_
    rw [Around.under_plainId F.plain_extend_loop _]
    show wpAny _ A.in1 (pyNext (.ref a) >>= _) _ _ s
    refine wpAny_bind (next_sleep (A := A.in1) hh hl hd hg hgs hsl hp (fun e => by cases e) fun x' r' v h' tk gs' i' e k hT hp' hs' => ?_)
    cases e
    have kS : ∀ b, b ≠ L → b ≠ it → b ∉ [L, it] := fun b h1 h2 hm => by
      rcases List.mem_cons.mp hm with z | hm
      · exact h1 z
      · exact h2 (List.mem_singleton.mp hm)
    have hS1 : h'.get? S = some (lstObj acc c) := k _ _ (kS _ hSL hSi) hS
    have hsz : acc.size < sizeLine := by
      have e := plen hpr
      simp only [Array.length_toList] at e
      simp only [List.length_cons] at hz
      omega
    show wpAny _ A.in1 (updateSeq S (·.push v) >>= _) _ _ _
    refine wpAny_bind ?_
    refine wpAny_updateSeq hS1 rfl (wpAny_pure ⟨plainId_quiet F.plain_extend_loop _, ?_⟩) (Nat.le_of_lt hsz) (by show (acc.push v).size ≤ sizeLine + 1; rw [Array.size_push]; omega)
    have k3 : ∀ b o, b ≠ S → h'.get? b = some o → (h'.update S (Obj.mapSeq (·.push v))).get? b = some o := fun b o hb e => (Heap.get?_update_other _ _ (Ne.symm hb)).trans e
    obtain ⟨c3, hS3⟩ : ∃ c3, (h'.update S (Obj.mapSeq (·.push v))).get? S = some (lstObj (acc.push v) c3) := ⟨_, Heap.get?_update_self _ hS1 rfl⟩
    have ntS := nt_lst hS1
    obtain ⟨⟨m, te, n, _⟩, i1, _, _⟩ := id hp
    refine ih i' gs' { s with heap := h'.update S (Obj.mapSeq (·.push v)), toks := tk, gens := s.gens.setIfInBounds g gs' } (acc.push v) c3 (xs ++ [x]) ?_ ?_ ?_ hs' (hp'.shift hSL hSi hSD ntS k3) hS3 ?_ ?_ ?_
    · obtain ⟨mc, hn, hnn⟩ := hl
      exact ⟨mc, hn.at' fun o e => k3 _ o hcS (k _ _ (kS _ hcL hci) e), hnn⟩
    · obtain ⟨o, nm, qn, ho, r⟩ := hg
      exact ⟨o, nm, qn, k3 _ _ (Ne.symm hSa) (k _ _ (kS _ haL hai) ho), r⟩
    · simp [hgl]
    · rw [Array.toList_push]
      refine (pmono (fun v x t => ?_) hpr).snoc (hT.keep [S] (fun b hb => by rw [List.mem_singleton.mp hb]; exact ntS) fun b o hb e => k3 b o (fun z => hb (List.mem_singleton.mpr z)) e)
      refine (t.keep [L, it] (fun b hb => ?_) k).keep [S] (fun b hb => by rw [List.mem_singleton.mp hb]; exact ntS) fun b o hb e => k3 b o (fun z => hb (List.mem_singleton.mpr z)) e
      rcases List.mem_cons.mp hb with z | hb
      · rw [z]; exact nt_ns n
      · rw [List.mem_singleton.mp hb]; exact nt_it i1
    · rw [List.length_append, List.length_singleton]
      simp only [List.length_cons] at hz
      omega
    · intro h9 tk9 acc9 c9 k9 hS9 hpr9 gs9 hb9
      have q := hR h9 tk9 acc9 c9 (fun b o hb e => ?_) hS9 (by rw [List.append_assoc] at hpr9; exact hpr9) gs9 hb9
      · have e : (s.gens.setIfInBounds g gs').setIfInBounds g gs9 = s.gens.setIfInBounds g gs9 := by simp
        show R _ { s with heap := h9, toks := tk9, gens := (s.gens.setIfInBounds g gs').setIfInBounds g gs9 }
        rw [e]
        exact q
      · exact k9 b o hb (k3 b o (fun z => hb (z ▸ List.mem_cons_self)) (k b o (fun hm => hb (List.mem_cons_of_mem _ hm)) e))
end
end TG

namespace TG
open PySem PySem.Spec PyProof.Rows L2

section
variable {P : Program} {w : World} {A : Around} {s : Shared}
/-- list(g), from the first item on -/
theorem drain_fresh {R : Result → Shared → Prop} {S a L ar : Addr} {g : Nat} {c : Code} {st en : Int} {h0 : Heap} {aits : List Value} {ars : List (Int × Int)} {res : Value} {n : Nat} (hh : A.handled = none) (hd : A.depth < recursionLimit) (hl : s.heap.NoLimit) (hg : s.heap.IsGen a g) (hgs : s.gens[g]? = some (.fresh c))
    {U : Addr → Prop} (hF : Fresh P w L ar st en c h0 U) (hk : ∀ b o, U b → h0.get? b = some o → s.heap.get? b = some o) (hls : s.heap.IsList ar aits.toArray) (harr : Paired (Arr s.heap) aits ars) (h6 : ars.length ≤ 6) (hSa : S ≠ a) (hSL : S ≠ L) (haL : a ≠ L) (hcS : cStatics ≠ S) (hcL : cStatics ≠ L) (hns : ∃ m, s.heap.Ns L m)
    (hS : s.heap.get? S = some (lstObj #[] n)) (hz : (trailsM ars st en).length ≤ sizeLine)
    (hR : ∀ h' tk acc' c', (∀ b o, b ≠ S → b ≠ L → s.heap.get? b = some o → h'.get? b = some o) → h'.get? S = some (lstObj acc' c') → Paired (TupI s.heap.objs.size h') acc'.toList (trailsM ars st en) → ∀ gs', gs'.bare = true → R (.ok (.ret res)) { s with heap := h', toks := tk, gens := s.gens.setIfInBounds g gs' }) :
    codeAny (model P w) A (.builtin "list.extend.loop" ⟨[.ref S, .ref a, res], []⟩) R s := by
  have hgl : g < s.gens.size := (Array.getElem?_eq_some_iff.mp hgs).1
  have hSs : S < s.heap.objs.size := Heap.lt_size hS
  have has : a < s.heap.objs.size := let ⟨_, _, _, e, _⟩ := hg; Heap.lt_size e
  have hcs : cStatics < s.heap.objs.size := let ⟨_, hn, _⟩ := hl; hn.lt
  refine codeAny_builtin F.entry_extend_loop ?_
  rw [Around.under_plainId F.plain_extend_loop _]
  show wpAny _ A.in1 (pyNext (.ref a) >>= _) _ _ s
  refine wpAny_bind (next_fresh (A := A.in1) hh hl hd hg hgs hF hk hls harr h6 (fun e h' tk k => ?_) fun x r v h' tk gs' it D ys i' e k z1 z2 z3 hT hp hs => ?_)
  · refine wpAny_pure (hR h' tk #[] n (fun b o _ hb e => k b o hb e) (k _ _ hSL hS) ?_ _ rfl)
    rw [e]
    exact .nil
  · have hS1 : h'.get? S = some (lstObj #[] n) := k _ _ hSL hS
    show wpAny _ A.in1 (updateSeq S (·.push v) >>= _) _ _ _
    refine wpAny_bind ?_
    refine wpAny_updateSeq hS1 rfl (wpAny_pure ⟨plainId_quiet F.plain_extend_loop _, ?_⟩) (Nat.zero_le _) (by show 1 ≤ sizeLine + 1; decide)
    have k3 : ∀ b o, b ≠ S → h'.get? b = some o → (h'.update S (Obj.mapSeq (·.push v))).get? b = some o := fun b o hb e => (Heap.get?_update_other _ _ (Ne.symm hb)).trans e
    obtain ⟨c3, hS3⟩ : ∃ c3, (h'.update S (Obj.mapSeq (·.push v))).get? S = some (lstObj (#[].push v) c3) := ⟨_, Heap.get?_update_self _ hS1 rfl⟩
    have ntS := nt_lst hS1
    have hSi : S ≠ it := Nat.ne_of_lt (Nat.lt_of_lt_of_le hSs z1)
    have hSD : S ≠ D := Nat.ne_of_lt (Nat.lt_of_lt_of_le hSs z3)
    have hai : a ≠ it := Nat.ne_of_lt (Nat.lt_of_lt_of_le has z1)
    have hci : cStatics ≠ it := Nat.ne_of_lt (Nat.lt_of_lt_of_le hcs z1)
    rw [e] at hz hR
    refine drain_sleep (g := g) (it := it) (D := D) hh hd hSa hSL hSi hSD haL hai hcS hcL hci r i' gs' { s with heap := h'.update S (Obj.mapSeq (·.push v)), toks := tk, gens := s.gens.setIfInBounds g gs' } (#[].push v) c3 [x] ?_ ?_ ?_ hs (hp.shift hSL hSi hSD ntS k3) hS3 ?_ ?_ ?_
    · obtain ⟨mc, hn, hnn⟩ := hl
      exact ⟨mc, hn.at' fun o e => k3 _ o hcS (k _ _ hcL e), hnn⟩
    · obtain ⟨o, nm, qn, ho, r⟩ := hg
      exact ⟨o, nm, qn, k3 _ _ (Ne.symm hSa) (k _ _ haL ho), r⟩
    · simp [hgl]
    · exact .cons (hT.keep [S] (fun b hb => by rw [List.mem_singleton.mp hb]; exact ntS) fun b o hb e => k3 b o (fun z => hb (List.mem_singleton.mpr z)) e) .nil
    · simp only [List.length_cons, List.length_nil] at hz ⊢
      omega
    · intro h9 tk9 acc9 c9 k9 hS9 hpr9 gs9 hb9
      have e2 : (s.gens.setIfInBounds g gs').setIfInBounds g gs9 = s.gens.setIfInBounds g gs9 := by simp
      show R _ { s with heap := h9, toks := tk9, gens := (s.gens.setIfInBounds g gs').setIfInBounds g gs9 }
      rw [e2]
      refine hR h9 tk9 acc9 c9 (fun b o hb hb2 e => k9 b o (fun hm => ?_) (k3 b o hb (k b o hb2 e))) hS9 hpr9 gs9 hb9
      rcases List.mem_cons.mp hm with z | hm
      · exact hb z
      rcases List.mem_cons.mp hm with z | hm
      · exact hb2 z
      · exact Nat.ne_of_lt (Nat.lt_of_lt_of_le (Heap.lt_size e) z1) (List.mem_singleton.mp hm)

/-- list(g) of a generator that has not begun -/
theorem list_fresh {Q : Value → Shared → Prop} {E : Value → Shared → Prop} {a L ar : Addr} {g : Nat} {c : Code} {st en : Int} {h0 : Heap} {aits : List Value} {ars : List (Int × Int)} (hh : A.handled = none) (hd : A.depth < recursionLimit) (hl : s.heap.NoLimit) (hg : s.heap.IsGen a g) (hgs : s.gens[g]? = some (.fresh c))
    {U : Addr → Prop} (hF : Fresh P w L ar st en c h0 U) (hk : ∀ b o, U b → h0.get? b = some o → s.heap.get? b = some o) (hls : s.heap.IsList ar aits.toArray) (harr : Paired (Arr s.heap) aits ars) (h6 : ars.length ≤ 6) (haL : a ≠ L) (hcL : cStatics ≠ L) (hns : ∃ m, s.heap.Ns L m)
    (hz : (trailsM ars st en).length ≤ sizeLine)
    (hQ : ∀ h' tk S acc' c', (∀ b o, b ≠ L → s.heap.get? b = some o → h'.get? b = some o) → s.heap.objs.size ≤ S → h'.get? S = some (lstObj acc' c') → Paired (TupI s.heap.objs.size h') acc'.toList (trailsM ars st en) → ∀ gs', gs'.bare = true → Q (.ref S) { s with heap := h', toks := tk, gens := s.gens.setIfInBounds g gs' }) :
    wpAny (model P w) A (call (.type "list") [.ref a]) Q E s := by
  have has : a < s.heap.objs.size := let ⟨_, _, _, e, _⟩ := hg; Heap.lt_size e
  have hLs : L < s.heap.objs.size := let ⟨_, n⟩ := hns; n.lt
  have hcs : cStatics < s.heap.objs.size := let ⟨_, hn, _⟩ := hl; hn.lt
  have hSa : s.heap.objs.size ≠ a := Nat.ne_of_gt has
  have hSL : s.heap.objs.size ≠ L := Nat.ne_of_gt hLs
  have hSc : cStatics ≠ s.heap.objs.size := Nat.ne_of_lt hcs
  refine callType_codes (Q₁ := fun obj s₁ => obj = .ref s.heap.objs.size ∧ s₁ = { s with heap := s.heap.push { cls := .type "list", data := .seq #[] } }) F.called_list (F.typeCall_list_1 _) F.entry_list_init (code_list_new _ ⟨rfl, rfl⟩) fun obj s₁ e₁ => ?_
  obtain ⟨rfl, rfl⟩ := e₁
  have hS : (s.heap.push { cls := .type "list", data := .seq #[] }).get? s.heap.objs.size = some { cls := .type "list", data := .seq #[] } := Heap.get?_push_size _ rfl
  refine ⟨⟨_, hS, rfl⟩, F.args_list_init_2 _ _, ?_⟩
  show wpAny _ A.in1.in1 (do let old ← Builtin.List.listItems (.ref s.heap.objs.size); Builtin.List.listUpdate (.ref s.heap.objs.size) (fun _ => #[]); letGo old.toList.reverse; Builtin.List.listExtendWith (.ref s.heap.objs.size) (.ref a) .none) _ _ _
  refine wpAny_bind ?_
  unfold Builtin.List.listItems
  refine wpAny_bind (wpAny_seqItems hS rfl (wpAny_pure ?_))
  show wpAny _ A.in1.in1 (updateSeq s.heap.objs.size (fun _ => #[]) >>= fun _ => letGo (#[] : Array Value).toList.reverse >>= fun _ => Builtin.List.listExtendWith (.ref s.heap.objs.size) (.ref a) .none) _ _ _
  refine wpAny_bind (wpAny_updateSeq hS rfl ?_)
  have hS2 := Heap.get?_update_self (Obj.mapSeq (fun _ => (#[] : Array Value))) hS rfl
  refine wpAny_bind (wpAny_letGo ?_)
  unfold Builtin.List.listExtendWith
  have up : ∀ (h : Heap) (f : Obj → Obj), (∀ b o, s.heap.get? b = some o → h.get? b = some o) → ∀ b o, s.heap.get? b = some o → (h.update s.heap.objs.size f).get? b = some o := fun h f q b o e => (Heap.get?_update_other _ _ (Ne.symm (Nat.ne_of_lt (Heap.lt_size e)))).trans (q b o e)
  have k1 : ∀ b o, s.heap.get? b = some o → (s.heap.push { cls := .type "list", data := .seq #[] }).get? b = some o := fun b o e => Heap.get?_push_of_some _ e
  have k2 := up _ (Obj.mapSeq (fun _ => (#[] : Array Value))) k1
  have gty : ∀ {h : Heap}, (∀ b o, s.heap.get? b = some o → h.get? b = some o) → h.IsGen a g := fun {h} q => hg.keeps q
  refine wpAny_bind (wpAny_typeOf (Heap.IsGen.typeIs (s := { s with heap := _ }) (gty k2)) ?_)
  have e1 : Builtin.List.listSameRef (.ref s.heap.objs.size) (.ref a) = false := by simp [Builtin.List.listSameRef, hSa]
  have e2 : (Value.type "generator" == Value.type "list") = false := by decide
  have e3 : (Value.type "generator" == Value.type "tuple") = false := by decide
  simp only [e1, e2, e3, Bool.or_false, Bool.false_eq_true, if_false]
  refine wpAny_bind (wpAny_pyIter_gen (s := { s with heap := _ }) (gty k2) ?_)
  refine wpAny_bind (wpAny_holding ?_)
  unfold Builtin.List.listLengthHint
  refine wpAny_bind (wpAny_specialOf (Heap.IsGen.typeIs (s := { s with heap := _ }) (gty k2)) F.gen_no_len ?_)
  show wpAny _ A.in1.in1 (specialOf (Value.ref a) (Str.ofString "__length_hint__") >>= _) _ _ _
  refine wpAny_bind (wpAny_specialOf (Heap.IsGen.typeIs (s := { s with heap := _ }) (gty k2)) F.gen_no_hint ?_)
  refine wpAny_pure ?_
  show wpAny _ A.in1.in1 (rule "list.extend.makes-room" >>= fun _ => Builtin.List.listTouch (.ref s.heap.objs.size) >>= fun _ => again (.builtin "list.extend.loop" ⟨[.ref s.heap.objs.size, .ref a, .none], []⟩)) _ _ _
  refine wpAny_bind (wpAny_rule ?_)
  refine wpAny_bind ?_
  show wpAny _ A.in1.in1 (updateSeq s.heap.objs.size (·.push .none) >>= fun _ => updateSeq s.heap.objs.size (·.pop)) _ _ _
  refine wpAny_bind (wpAny_updateSeq hS2 rfl ?_)
  have hS3 := Heap.get?_update_self (Obj.mapSeq (·.push Value.none)) hS2 rfl
  refine wpAny_updateSeq (hz := by seq_fits) hS3 rfl ?_
  have hS4 := Heap.get?_update_self (Obj.mapSeq (·.pop)) hS3 rfl
  have k4 := up _ (Obj.mapSeq (·.pop)) (up _ (Obj.mapSeq (·.push Value.none)) k2)
  refine wpAny_pure ⟨plainId_quiet F.plain_extend_loop _, ?_⟩
  refine drain_fresh (A := A.in1) (L := L) (ar := ar) hh hd ?_ (gty k4) hgs hF (fun b o ub e => k4 b o (hk b o ub e)) (hls.at fun o e => k4 _ o e) (pmono (fun v x i => i.keep k4) harr) h6 hSa hSL haL hSc hcL (let ⟨m, n⟩ := hns; ⟨m, n.at' fun o e => k4 _ o e⟩) hS4 hz ?_
  · obtain ⟨mc, hn, hnn⟩ := hl
    exact ⟨mc, hn.at' fun o e => k4 _ o e, hnn⟩
  · intro h' tk acc' c' k hS' hpr gs' hb
    exact ⟨rfl, hQ h' tk s.heap.objs.size acc' c' (fun b o hb e => k b o (Nat.ne_of_lt (Heap.lt_size e)) hb (k4 b o e)) (Nat.le_refl _) hS' (pmono (fun v x t => (let ⟨T, its, e, l, r⟩ := t; ⟨T, its, e, Nat.le_trans (Nat.le_of_lt (Heap.lt_size hS4)) l, r⟩)) hpr) gs' hb⟩
end
end TG

namespace TG
open PySem PySem.Spec PyProof.Rows L2

/-- all objects are kept, new ones are tracked -/
theorem grow {X : Cx} {pins : List (Addr × Obj)} {σ : L2.St} {H H' : Hp} {s s' : Shared} (I : Inv X pins σ H s) (os : s'.os = s.os) (kp : ∀ b o, s.heap.get? b = some o → s'.heap.get? b = some o) (hb : AllBare s'.gens)
    (hH : ∀ b, b < s.heap.objs.size → H' b = H b) (hn : ∀ b u, s.heap.objs.size ≤ b → H' b = some u → ObjOk X.prog X.w H' s'.heap b u) : Inv X pins σ H' s' := by
  have tr : ∀ b u, H b = some u → H' b = some u := fun b u e => (hH b (I.hok.lt e)).trans e
  refine I.call' (ch := []) os ⟨fun b o e _ _ _ => kp b o e, fun b o e _ _ _ => ⟨o.slots, kp b o e⟩, fun b o e n _ => (hH b (Heap.lt_size e)).trans n, fun b o e _ => ⟨o, kp b o e⟩, fun b xs e => tr b _ e, fun b o u e => tr b _ e, fun b ps e => ⟨#[], by rw [tr b _ e]; simp⟩⟩ (fun b u e => ?_) hb fun b z => by simp at z
  by_cases q : b < s.heap.objs.size
  · rw [hH b q] at e
    exact (I.hok b u e).stay (fun c v _ y => kp c v y) (fun c y => tr c _ y) fun c xs y => tr c _ y
  · exact hn b u (Nat.le_of_not_lt q) e
/-- no frame, no cell: what a generator made in a call of ours -/
def Arrs (K : PySem.W.Frag) (H : Hp) (its : List V) (ars : List (Int × Int)) : Prop := Paired (fun v (a : Int × Int) => ∃ p, v = .ref p ∧ SqT K H p [.int a.1, .int a.2]) its ars
theorem arrs_heap {X : Cx} {pins : List (Addr × Obj)} {σ : L2.St} {H : Hp} {s : Shared} (I : Inv X pins σ H s) {its : List V} {ars : List (Int × Int)} (h : Arrs X.K H its ars) {us : List Value} (r : Vals its us) : Paired (Arr s.heap) us ars := by
  induction h generalizing us with
  | nil => cases r; exact .nil
  | cons a _ ih =>
    cases r with
    | cons r1 r2 =>
      obtain ⟨p, rfl, ht⟩ := a
      cases r1
      obtain ⟨ws, rv, ip, _⟩ := I.tuple ht
      cases rv with
      | cons q1 q2 =>
        cases q2 with
        | cons q3 q4 =>
          cases q4
          obtain ⟨t1, rfl⟩ := q1
          obtain ⟨t2, rfl⟩ := q3
          exact .cons ⟨p, t1, t2, rfl, ip⟩ (ih r2)
/-- the generator def as it stands -/
structure TDef (K : PySem.W.Frag) (mg : Str → Option Value) (x : Str) (f : Addr) : Prop where
  ex : ∃ (name qual : Str) (params : Arguments) (body : List Stmt) (scope : Scope) (dV kV doc pm cdv ct oc : Value) (an od : Option Addr) (osl : Array (Option Value)), K.lookup f = some ⟨oc, od, .func (PySem.W.fnOf name qual params body scope dV kV doc pm an cdv ct), osl⟩ ∧
    PySem.W.codeIn K cdv qual = true ∧ TScope scope ∧ TBody body ∧ ∀ (a b c : Value), bindArgs (PySem.W.fnOf name qual params body scope dV kV doc pm an cdv ct) ⟨[a, b, c], []⟩ = pure [(("arrows" : Str), a), ("start", b), ("end", c)]
  mgx : mg x = some (.ref f)
  kp : PySem.W.keepIn K (.ref f) = true
  en : mg "enumerate" = none
section
variable {X : Cx}
/-- what trails(..) asks of its arguments -/
def tArgs (K : PySem.W.Frag) (t : TA) : L2.St → Hp → (Addr → Int → Int → List (Int × Int) → Hp → Prop) → Prop := fun σ H C => t σ H fun vs H1 => ∃ ar st en its ars, vs = [.ref ar, .int st, .int en] ∧ SqL K H1 ar its ∧ Arrs K H1 its ars ∧ ars.length ≤ 6 ∧ C ar st en ars H1
theorem run_made {x : Str} {f : Addr} {p pos : Pos} {e : Expr} {es : List Expr} {t : TA} {pins : List (Addr × Obj)} {σ : L2.St} {H : Hp} {s : Shared} {C : Addr → Int → Int → List (Int × Int) → Hp → Prop} (T : TDef X.K X.mg x f) (hr : X.A.depth < recursionLimit) (hg : Gl X x) (ha : PA X (e :: es) t) (I : Inv X pins σ H s)
    (h : tArgs X.K t σ H C) (hdb : (x == ("__debug__" : Str)) = false := by decide) (he : starEach (e :: es) X.env = (false, eval e X.env) :: starEach es X.env := by rfl) (hpl : (backTo pos (starEach es X.env)).any (·.1) = false := by rfl) :
    wpAny (model X.prog X.w) X.A (eval (.Call (.Name x p) (e :: es) [] pos) X.env) (fun u s' => ∃ s1 H1 ar st en its us ars, Inv X pins σ H1 s1 ∧ SqL X.K H1 ar its ∧ s1.heap.IsList ar us.toArray ∧ Paired (Arr s1.heap) us ars ∧ ars.length ≤ 6 ∧ C ar st en ars H1 ∧ TMade X.prog X.w X.base ar st en s1 u s') X.xe s := by
  refine wpAny_Call_Name_kw (ld_glob I hg T.mgx ?_ hdb)
  refine PySem.W.callWith_K (h₀ := X.base) I.ok.mod.kin T.kp (thn (ha.run pos pins s σ H _ I h) fun us s1 ⟨vs, H1, I1, r, q⟩ => ⟨I1.kIn, ?_⟩) he hpl
  obtain ⟨ar, st, en, its, ars, rfl, hS, hA, h6, hC⟩ := q
  obtain ⟨ws, rv, pl, _⟩ := I1.list hS
  have harr := arrs_heap I1 hA rv
  cases r with
  | cons r1 r =>
  cases r with
  | cons r2 r =>
  cases r with
  | cons r3 r =>
  cases r
  cases r1
  obtain ⟨t2, rfl⟩ := r2
  obtain ⟨t3, rfl⟩ := r3
  obtain ⟨name, qual, params, body, scope, dV, kV, doc, pm, cdv, ct, oc, an, od, osl, lk, hcd, S, B, hbd⟩ := T.ex
  refine wpAny_call (codeAny_mono (made_ok lk hcd S B T.en hr I1.env0 (.of_eq (hbd _ _ _))) fun r s' hq => ?_)
  obtain ⟨u, rfl, hm⟩ := hq
  exact ⟨s1, H1, ar, st, en, its, ws, ars, I1, hS, pl.isList, harr, h6, hC, hm⟩
/-- list(trails(..)) -/
def tListT (K : PySem.W.Frag) (t : TA) : TE := fun σ H Q => tArgs K t σ H fun _ st en ars H1 => (trailsM ars st en).length ≤ sizeLine ∧ ∀ (H' : Hp) (p : Addr) (Ts : List Addr), Same H1 H' → H1 p = none → H' p = some (.lst (Ts.map V.ref)) → Paired (fun T (x : List Int) => H' T = some (.tup (x.map V.int))) Ts (trailsM ars st en) → Q (.ref p) H'
theorem tups_of {lo : Nat} {h : Heap} : ∀ {vs : List Value} {xs : List (List Int)}, Paired (TupI lo h) vs xs → ∃ Ts : List Addr, vs = Ts.map Value.ref ∧ Paired (fun T (x : List Int) => lo ≤ T ∧ ∃ its : List Value, IsTup h T its.toArray ∧ IntsAre its x) Ts xs
  | _, _, .nil => ⟨[], rfl, .nil⟩
  | _, _, .cons a r => by
    obtain ⟨Ts, e, q⟩ := tups_of r
    obtain ⟨T, its, e1, l, i1, i2⟩ := a
    exact ⟨T :: Ts, by rw [e1, e]; rfl, .cons ⟨l, its, i1, i2⟩ q⟩
theorem vals_ints : ∀ {its : List Value} {x : List Int}, IntsAre its x → Vals (x.map V.int) its := fun h => by
  induction h with
  | nil => exact .nil
  | cons n t _ ih => exact .cons ⟨t, rfl⟩ ih
theorem map_inj : ∀ {x y : List Int}, x.map V.int = y.map V.int → x = y
  | [], [], _ => rfl
  | [], _ :: _, h => by cases h
  | _ :: _, [], h => by cases h
  | a :: x, b :: y, h => by
    injection h with h1 h2
    injection h1 with h1
    rw [h1, map_inj h2]
theorem tup_one {h : Heap} {T : Addr} {its its' : List Value} {x y : List Int} (a : IsTup h T its.toArray) (b : IsTup h T its'.toArray) (i : IntsAre its x) (j : IntsAre its' y) : x = y := by
  obtain ⟨o, e, _, n, d⟩ := a
  obtain ⟨o', e', _, n', d'⟩ := b
  rw [e] at e'
  cases e'
  rw [d] at d'
  injection d' with d1 _
  have : its = its' := by simpa using congrArg Array.toList d1
  subst this
  exact map_inj (Vals.inj (vals_ints i) (vals_ints j))
theorem lookup_zip {Pr : Addr → List Int → Prop} (one : ∀ T x y, Pr T x → Pr T y → x = y) : ∀ {Ts : List Addr} {xs : List (List Int)}, Paired Pr Ts xs → (∀ b x, (Ts.zip xs).lookup b = some x → Pr b x) ∧ Paired (fun T x => (Ts.zip xs).lookup T = some x) Ts xs
  | _, _, .nil => ⟨fun b x h => (by cases h), .nil⟩
  | _, _, .cons (a := T) (b := x) (l₁ := Ts) (l₂ := xs) p r => by
    obtain ⟨h1, h2⟩ := lookup_zip one r
    have lk : ∀ b, (List.zip (T :: Ts) (x :: xs)).lookup b = if b = T then some x else (Ts.zip xs).lookup b := fun b => by
      rw [List.zip_cons_cons, List.lookup_cons]
      by_cases e : b = T
      · have : (b == T) = true := by simp [e]
        rw [this, if_pos e]
      · have : (b == T) = false := by simpa using e
        rw [this, if_neg e]
    refine ⟨fun b y h => ?_, .cons (by rw [lk, if_pos rfl]) ?_⟩
    · rw [lk] at h
      by_cases e : b = T
      · rw [if_pos e] at h
        cases h
        rw [e]
        exact p
      · rw [if_neg e] at h
        exact h1 b y h
    · refine pmono (fun T' x' q => ?_) h2
      rw [lk]
      by_cases e : T' = T
      · rw [if_pos e]
        rw [one T x x' p (e ▸ h1 _ _ q)]
      · rw [if_neg e]
        exact q
/-- what stands behind list(g) -/
def trk (H : Hp) (S : Addr) (Ts : List Addr) (xs : List (List Int)) : Hp := fun b => if b = S then some (.lst (Ts.map V.ref)) else match (Ts.zip xs).lookup b with | some x => some (.tup (x.map V.int)) | none => H b
theorem bare_set {gens : Array GenState} {g : Nat} {x : GenState} (h : AllBare gens) (hx : x.bare = true) : AllBare (gens.setIfInBounds g x) := fun y hy => by
  rcases Array.mem_or_eq_of_mem_setIfInBounds hy with z | z
  · exact h y z
  · rw [z]
    exact hx
theorem trails_len {ars : List (Int × Int)} {st en : Int} {x : List Int} (h : x ∈ trailsM ars st en) : x.length = ars.length := by
  unfold trailsM outs at h
  obtain ⟨y, hy, rfl⟩ := List.mem_map.mp h
  exact rounds_mem ars st _ y (List.mem_of_mem_drop (List.mem_filter.mp hy).1)
theorem zip_mem {xs : List (List Int)} : ∀ {Ts : List Addr} {b : Addr} {x : List Int}, (Ts.zip xs).lookup b = some x → x ∈ xs := by
  induction xs with
  | nil => intro Ts b x h; cases Ts <;> simp at h
  | cons y xs ih =>
    intro Ts b x h
    cases Ts with
    | nil => simp at h
    | cons T Ts =>
      rw [List.zip_cons_cons, List.lookup_cons] at h
      split at h
      · cases h
        exact .head _
      · exact .tail _ (ih h)
theorem pe_listT {x nm : Str} {f : Addr} {p p' pos pos' : Pos} {e : Expr} {es : List Expr} {t : TA} (T : TDef X.K X.mg x f) (hr : Room 3 X.A) (hg : Gl X x) (ha : PA X (e :: es) t) (hgl : Gl X nm) (hmg : X.mg nm = none) (hv : bootBuiltins nm = some (.type "list")) (hnm : nm ≠ "__name__" := by decide) (hdl : (nm == ("__debug__" : Str)) = false := by decide)
    (hdb : (x == ("__debug__" : Str)) = false := by decide) (he : starEach (e :: es) X.env = (false, eval e X.env) :: starEach es X.env := by rfl) (hpl : (backTo pos (starEach es X.env)).any (·.1) = false := by rfl)
    (hel : starEach [.Call (.Name x p) (e :: es) [] pos] X.env = (false, eval (.Call (.Name x p) (e :: es) [] pos) X.env) :: starEach [] X.env := by rfl) :
    PE X (.Call (.Name nm p') [.Call (.Name x p) (e :: es) [] pos] [] pos') (tListT X.K t) := by
  refine ⟨fun pins s σ H Q I hq => ?_⟩
  refine wpAny_Call_Name_kw (ld_blt I hgl hmg hv ?_ hnm hdl)
  refine PyProof.Rows.callWith_type1 ?_ hel rfl
  rw [hel]
  show wpAny _ _ (spliced ((false, eval (.Call (.Name x p) (e :: es) [] pos) X.env) :: backTo pos' (starEach [] X.env))) _ _ s
  refine Calls.spliced_cons (thn (run_made T (Nat.lt_of_le_of_lt (Nat.le_add_right _ _) (Nat.lt_of_le_of_lt (Nat.le_add_right _ _) hr.dp)) hg ha I hq hdb he hpl) fun u s2 h2 => ?_)
  refine Calls.spliced_nil ?_
  obtain ⟨s1, H1, ar, st, en, its, us, ars, I1, hS, hls, harr, h6, ⟨hz, hC⟩, a, L, c, h, tk, rfl, rfl, kp, hsL, hLa, hns, hgn, hF⟩ := h2
  have lim : h.NoLimit := (I1.ok.mod.nolimit.keeps I1.bk).keeps kp
  have hcs : cStatics < s1.heap.objs.size := let ⟨_, hn, _⟩ := (I1.ok.mod.nolimit.keeps I1.bk); hn.lt
  refine list_fresh (s := { s1 with heap := h, toks := tk, gens := s1.gens.push (.fresh c) }) (L := L) (ar := ar) (g := s1.gens.size) hr.hd (Nat.lt_of_le_of_lt (Nat.le_add_right _ _) (Nat.lt_of_le_of_lt (Nat.le_add_right _ _) hr.dp)) lim hgn (by simp) hF (fun _ _ _ e => e) (hls.at fun o e => kp _ o e) (pmono (fun v x i => i.keep kp) harr) h6 (Nat.ne_of_gt hLa) (Nat.ne_of_lt (Nat.lt_of_lt_of_le hcs hsL)) hns hz ?_
  intro h' tk' S acc c' k hSs hS' hpr gs' hb
  obtain ⟨Ts, eacc, hTs⟩ := tups_of hpr
  have kall : ∀ b o, s1.heap.get? b = some o → h'.get? b = some o := fun b o e => k b o (Nat.ne_of_lt (Nat.lt_of_lt_of_le (Heap.lt_size e) hsL)) (kp b o e)
  have hsz : s1.heap.objs.size ≤ h.objs.size := Nat.le_of_lt (Nat.lt_of_le_of_lt hsL (let ⟨_, n⟩ := hns; n.lt))
  obtain ⟨l1, l2⟩ := lookup_zip (Pr := fun T (x : List Int) => h.objs.size ≤ T ∧ ∃ its : List Value, IsTup h' T its.toArray ∧ IntsAre its x) (fun T x y ⟨_, a1, b1, c1⟩ ⟨_, a2, b2, c2⟩ => tup_one b1 b2 c1 c2) hTs
  have hSt : ∀ its, ¬ IsTup h' S its := nt_lst hS'
  have bz : s1.heap.objs.size ≤ S := Nat.le_trans hsz hSs
  have nS : ∀ b, (∃ x, (Ts.zip (trailsM ars st en)).lookup b = some x) → b ≠ S := fun b ⟨x, e⟩ z => by
    obtain ⟨_, its, i1, _⟩ := l1 b x e
    exact hSt _ (z ▸ i1)
  have hH : ∀ b, b < s1.heap.objs.size → trk H1 S Ts (trailsM ars st en) b = H1 b := fun b hb => by
    unfold trk
    rw [if_neg (Nat.ne_of_lt (Nat.lt_of_lt_of_le hb bz))]
    cases q : (Ts.zip (trailsM ars st en)).lookup b with
    | none => rfl
    | some x => exact absurd (Nat.lt_of_lt_of_le hb (Nat.le_trans hsz (l1 b x q).1)) (Nat.lt_irrefl _)
  have eqS : trk H1 S Ts (trailsM ars st en) S = some (.lst (Ts.map V.ref)) := by unfold trk; rw [if_pos rfl]
  have eqT : Paired (fun T (x : List Int) => trk H1 S Ts (trailsM ars st en) T = some (.tup (x.map V.int))) Ts (trailsM ars st en) := pmono (fun T x q => by
    unfold trk
    rw [if_neg (nS T ⟨x, q⟩), q]) l2
  have I2 : Inv X pins σ (trk H1 S Ts (trailsM ars st en)) { s1 with heap := h', toks := tk', gens := (s1.gens.push (.fresh c)).setIfInBounds s1.gens.size gs' } := by
    refine grow I1 rfl kall (bare_set (AllBare.push I1.bare rfl) hb) hH fun b u hb e => ?_
    unfold trk at e
    by_cases q : b = S
    · rw [if_pos q] at e
      cases e
      refine ⟨?_, acc.toList, c', ?_, ?_⟩
      · rw [List.length_map, plen hTs]
        exact hz
      · rw [eacc]
        clear eacc hTs l1 l2 nS hH eqS eqT
        induction Ts with
        | nil => exact .nil
        | cons T Ts ih => exact .cons rfl ih
      · rw [q]
        exact hS'
    · rw [if_neg q] at e
      cases q2 : (Ts.zip (trailsM ars st en)).lookup b with
      | none =>
        rw [q2] at e
        exact absurd (I1.hok.lt e) (Nat.not_lt.mpr hb)
      | some x =>
        rw [q2] at e
        cases e
        obtain ⟨_, its, i1, i2⟩ := l1 b x q2
        refine ⟨?_, its, vals_ints i2, i1⟩
        have hm := zip_mem q2
        rw [List.length_map, trails_len hm]
        exact Nat.le_trans h6 (by decide)
  exact ⟨.ref S, _, I2, rfl, hC _ S Ts (fun b o e => (hH b (I1.hok.lt e)).trans e) (I1.hok.fresh bz) eqS eqT⟩
end
end TG

namespace TG
open PySem PySem.Spec PyProof.Rows L2

/-- what next leaves, seen from before the call that made it: only new objects -/
theorem grow_tup {X : Cx} {pins : List (Addr × Obj)} {σ : L2.St} {H : Hp} {s s' : Shared} {T : Addr} {its : List Value} {x : List Int} (I : Inv X pins σ H s) (os : s'.os = s.os) (kp : ∀ b o, s.heap.get? b = some o → s'.heap.get? b = some o) (hb : AllBare s'.gens)
    (hT : s.heap.objs.size ≤ T) (ht : IsTup s'.heap T its.toArray) (hi : IntsAre its x) (hx : x.length ≤ sizeLine) : Inv X pins σ (upd H T (.tup (x.map V.int))) s' := by
  refine grow I os kp hb (fun b hb => upd_ne (Nat.ne_of_lt (Nat.lt_of_lt_of_le hb hT))) fun b u hb e => ?_
  by_cases q : b = T
  · subst q
    rw [upd_same] at e
    cases e
    exact ⟨by rw [List.length_map]; exact hx, its, vals_ints hi, ht⟩
  · rw [upd_ne q] at e
    exact absurd (I.hok.lt e) (Nat.not_lt.mpr hb)
section
variable {X : Cx}
/-- for x in trails(..): a body that always leaves the loop -/
def tForT (K : PySem.W.Frag) (t : TA) (i : Nat) (tb : TS) : TS := fun D σ H => tArgs K t σ H fun _ st en ars H1 => (trailsM ars st en = [] → D.nx σ H1) ∧
  ∀ x r, trailsM ars st en = x :: r → ∀ (H' : Hp) (T : Addr), Same H1 H' → H1 T = none → H' T = some (.tup (x.map V.int)) → tb { nx := fun _ _ => False, ct := fun _ _ => False, bk := D.nx, rt := D.rt } (σ.set i (some (.ref T))) H'
theorem ps_forT {x z : Str} {f : Addr} {i : Nat} {p pos pt ps : Pos} {e : Expr} {es : List Expr} {t : TA} {body : List Stmt} {tb : TS} (hp : PassesOwn (model X.prog X.w) X.A X.env X.xe) (hc : X.calm = true) (T : TDef X.K X.mg x f) (hr : Room 3 X.A) (hg : Gl X x) (ha : PA X (e :: es) t)
    (hN : X.N.Nodup) (hi : X.N[i]? = some z) (hz : Loc X.env.scope z) (hb : PSs X body tb) (hf : X.fn z = true ∨ X.env.scope.names.lookup z = some .local := by first | exact .inl rfl | exact .inr rfl | assumption)
    (hdb : (x == ("__debug__" : Str)) = false := by decide) (he : starEach (e :: es) X.env = (false, eval e X.env) :: starEach es X.env := by rfl) (hpl : (backTo pos (starEach es X.env)).any (·.1) = false := by rfl)
    (hs : ∀ v, foldedSetIterable (.Call (.Name x p) (e :: es) [] pos) X.env v = pure v := by intro _; rfl) :
    PS X (.For (.Name z pt) (.Call (.Name x p) (e :: es) [] pos) body [] ps) (tForT X.K t i tb) := by
  have hd1 : X.A.depth < recursionLimit := Nat.lt_of_le_of_lt (Nat.le_add_right _ _) (Nat.lt_of_le_of_lt (Nat.le_add_right _ _) hr.dp)
  refine ⟨fun pins s σ H D I hq => ?_⟩
  refine wpAny_For (thn (run_made T hd1 hg ha I hq hdb he hpl) fun u s2 h2 => ?_) hs
  obtain ⟨s1, H1, ar, st, en, its, us, ars, I1, hS, hls, harr, h6, ⟨hC0, hC1⟩, a, L, c, h, tk, rfl, rfl, kp, hsL, hLa, hns, hgn, hF⟩ := h2
  refine wpAny_pyIter_gen (s := { s1 with heap := h, toks := tk, gens := s1.gens.push (.fresh c) }) hgn ?_
  refine codeAny_forLoop_any (fun n s' => s' = { s1 with heap := h, toks := tk, gens := s1.gens.push (.fresh c) }) ?_ 0 rfl
  rintro n s3 rfl
  have lim : h.NoLimit := (I1.ok.mod.nolimit.keeps I1.bk).keeps kp
  have kall : ∀ {h' : Heap}, (∀ b o, b ≠ L → h.get? b = some o → h'.get? b = some o) → ∀ b o, s1.heap.get? b = some o → h'.get? b = some o := fun k b o e => k b o (Nat.ne_of_lt (Nat.lt_of_lt_of_le (Heap.lt_size e) hsL)) (kp b o e)
  have hsz : s1.heap.objs.size ≤ h.objs.size := Nat.le_of_lt (Nat.lt_of_le_of_lt hsL (let ⟨_, n⟩ := hns; n.lt))
  refine wpAny_passesOwn hp (next_fresh (s := { s1 with heap := h, toks := tk, gens := s1.gens.push (.fresh c) }) (L := L) (ar := ar) (g := s1.gens.size) (I.ok.hd hc) lim hd1 hgn (by simp) hF (fun _ _ _ e => e) (hls.at fun o e => kp _ o e) (pmono (fun v x i => i.keep kp) harr) h6 (fun e h' tk' k => ?_) fun y r v h' tk' gs' it D' ys i' e k z1 z2 z3 hT hpT hsl => ?_)
  · have I2 : Inv X pins σ H1 { s1 with heap := h', toks := tk', gens := (s1.gens.push (.fresh c)).setIfInBounds s1.gens.size .finished } :=
      grow I1 rfl (kall k) (bare_set (AllBare.push I1.bare rfl) rfl) (fun _ _ => rfl) fun b u hb e => absurd (I1.hok.lt e) (Nat.not_lt.mpr hb)
    exact wpAny_execs_nil ⟨σ, H1, I2, hC0 e⟩
  · obtain ⟨T0, tits, rfl, lT, hT1, hT2⟩ := hT
    have hbz : s1.heap.objs.size ≤ T0 := Nat.le_trans hsz lT
    have hy : y.length = ars.length := trails_len (e ▸ List.mem_cons_self)
    have I2 : Inv X pins σ (upd H1 T0 (.tup (y.map V.int))) { s1 with heap := h', toks := tk', gens := (s1.gens.push (.fresh c)).setIfInBounds s1.gens.size gs' } := by
      refine grow_tup I1 rfl (kall k) (bare_set (AllBare.push I1.bare rfl) ?_) hbz hT1 hT2 (Nat.le_trans (Nat.le_of_eq hy) (Nat.le_trans h6 (by decide)))
      obtain ⟨k9, l9, c9, p9, f9, rfl, _⟩ := hsl
      rfl
    have q := hC1 y r e _ T0 (fun b o eb => (upd_ne (Nat.ne_of_lt (Nat.lt_of_lt_of_le (I1.hok.lt eb) hbz))).trans eb) (I1.hok.fresh hbz) upd_same
    refine wpAny_passesOwn hp (wpAny_pure ?_)
    refine wpAny_passesOwn hp (wpAny_assign_Name (store_ok I2 hN hi hz (show RelV (.ref T0) (.ref T0) from rfl) (fun s' I' => ?_) hf))
    refine wpAny_passesOwn hp (thn (hb.run pins s' _ _ _ I' q) fun f s7 q7 => ?_)
    cases f with
    | next => obtain ⟨_, _, _, z⟩ := q7; exact z.elim
    | cont => obtain ⟨_, _, _, z⟩ := q7; exact z.elim
    | brk => exact q7
    | ret v => exact q7
end
end TG

namespace TG
open PySem PySem.Spec PyProof.Rows L2

/-- a StopIteration lies at e -/
def Stop (h : Heap) (e : Addr) : Prop := ∃ o, h.get? e = some o ∧ o.cls = .type "StopIteration"
section
variable {P : Program} {w : World} {A : Around} {E : Value → Shared → Prop} {s : Shared}
/-- what a draw by zip comes to: an item -/
theorem nx_out {a : Addr} {g : Nat} {gs : GenState} {Φ : End → Shared → Prop} {c : Code} {t : Sem PySem.Fin} {fs : List Frame} {Q : Value → Shared → Prop} (hl : s.heap.NoLimit) (hroom : A.depth < recursionLimit) (hg : s.heap.IsGen a g) (hgs : s.gens[g]? = some gs)
    (hs : (gs = .fresh c ∧ t = (model P w).den c ∧ fs = []) ∨ ∃ k l' p cl, gs = .suspended k l' c p fs cl ∧ t = k (.send .none)) (hgo : Go (model P w) A.in1 Φ c t fs (s.setGen g .running))
    (hΦ : ∀ e s₁, Φ e s₁ → ∃ v l k' c' p' fs', e = .susp v false l k' c' p' fs' ∧ fs'.any Frame.guarded = false ∧ Q v (s₁.setGen g (.suspended k' l c' p' fs' false))) : wpAny (model P w) A (Builtin.SmallTypes.nextOf (.ref a)) Q E s := by
  have fin : ∀ e s₁, Φ e s₁ → e.quiet = true ∧ ∃ v, e.result = .yielded v ∧ Q v (s₁.setGen g e.genState) := fun e s₁ he => by
    obtain ⟨v, l, k', c', p', fs', rfl, hf, hq⟩ := hΦ e s₁ he
    refine ⟨by simp [End.quiet, hf], v, rfl, ?_⟩
    have e : (End.susp v false l k' c' p' fs').genState = .suspended k' l c' p' fs' false := by simp [End.genState, hf]
    rw [e]
    exact hq
  unfold Builtin.SmallTypes.nextOf
  refine wpAny_bind (wpAny_callSpecial?_slot (name := Str.ofString "__next__") hg.typeIs slot_gen_next (wpAny_call_entry slot_gen_next hg.typeIs entry_gen_next ?_ (args_gen_next _)))
  show wpAny _ A.in1 (Builtin.Generator.genWake (.ref a) (.send .none)) _ _ s
  unfold Builtin.Generator.genWake
  refine wpAny_bind (wpAny_holding (wpAny_genNumber hg (wpAny_bind (wpAny_genState hgs ?_))))
  rcases hs with ⟨rfl, rfl, rfl⟩ | ⟨k, l', p, cl, rfl, rfl⟩
  · refine wpAny_bind (wpAny_roomToWake hl hroom ?_)
    refine wake_code hgs (.inl ⟨rfl, rfl, rfl⟩) hgo fun e s₁ he => ?_
    obtain ⟨h1, v, h2, hq⟩ := fin e s₁ he
    refine ⟨h1, ?_⟩
    rw [h2]
    exact wpAny_pure ⟨v, rfl, wpAny_pure hq⟩
  · refine wpAny_bind (wpAny_roomToWake hl hroom ?_)
    refine wake_code hgs (.inr ⟨k, l', p, cl, rfl, rfl⟩) hgo fun e s₁ he => ?_
    obtain ⟨h1, v, h2, hq⟩ := fin e s₁ he
    refine ⟨h1, ?_⟩
    rw [h2]
    exact wpAny_pure ⟨v, rfl, wpAny_pure hq⟩
/-- .. the end -/
theorem nx_stop {a : Addr} {g : Nat} {gs : GenState} {W : List Addr} {c : Code} {t : Sem PySem.Fin} {fs : List Frame} {Q : Value → Shared → Prop} (hh : A.handled = none) (hl : s.heap.NoLimit) (hroom : A.depth < recursionLimit) (hg : s.heap.IsGen a g) (hgs : s.gens[g]? = some gs)
    (hs : (gs = .fresh c ∧ t = (model P w).den c ∧ fs = []) ∨ ∃ k l' p cl, gs = .suspended k l' c p fs cl ∧ t = k (.send .none)) (hgo : Go (model P w) A.in1 (fun e s' => e = .ret (.ok (.ret .none)) ∧ Since W (s.setGen g .running) s') c t fs (s.setGen g .running))
    (hE : ∀ e h' tk, (∀ b o, b ∉ W → s.heap.get? b = some o → h'.get? b = some o) → Stop h' e → E (.ref e) { s with heap := h', toks := tk, gens := s.gens.setIfInBounds g .finished }) : wpAny (model P w) A (Builtin.SmallTypes.nextOf (.ref a)) Q E s := by
  have fin : ∀ s₁, Since W (s.setGen g .running) s₁ → ∀ {α : Type} {K : Value → Sem α} {R : α → Shared → Prop}, (∀ (x : Addr) s₁, E (.ref x) s₁ → wpAny (model P w) A.in1 (K (.ref x)) R E s₁) → wpAny (model P w) A.in1 (newExc (.type "StopIteration") [] >>= K) R E (s₁.setGen g .finished) := fun s₁ hs₁ => by
    intro α K R hK
    obtain ⟨h, tk, rfl, k⟩ := hs₁
    rw [set_set]
    refine wpAny_bind ?_
    simp only [newExc, newTuple]
    refine wpAny_bind (wpAny_newObj_type ?_ (by size_fits))
    refine wpAny_bind (m := firstArgMember _ _) (wpAny_of_eq (a := Value.none) (by first | rfl | (simp only [firstArgMember]; rfl)) ?_)
    refine wpAny_newObj_type ?_ (by size_fits)
    exact hK _ _ (hE _ _ _ (fun b o hb e => Heap.get?_push_of_some _ (Heap.get?_push_of_some _ (k b o hb e))) ⟨_, Heap.get?_push_size _ rfl, rfl⟩)
  unfold Builtin.SmallTypes.nextOf
  refine wpAny_bind (wpAny_callSpecial?_slot (name := Str.ofString "__next__") hg.typeIs slot_gen_next (wpAny_call_entry slot_gen_next hg.typeIs entry_gen_next ?_ (args_gen_next _)))
  show wpAny _ A.in1 (Builtin.Generator.genWake (.ref a) (.send .none)) _ _ s
  unfold Builtin.Generator.genWake
  refine wpAny_bind (wpAny_holding (wpAny_genNumber hg (wpAny_bind (wpAny_genState hgs ?_))))
  rcases hs with ⟨rfl, rfl, rfl⟩ | ⟨k, l', p, cl, rfl, rfl⟩
  · refine wpAny_bind (wpAny_roomToWake hl hroom ?_)
    refine wake_code hgs (.inl ⟨rfl, rfl, rfl⟩) hgo fun e s₁ he => ?_
    obtain ⟨rfl, he⟩ := he
    refine ⟨rfl, ?_⟩
    show wpAny _ A.in1 (newExc (.type "StopIteration") [] >>= _) _ _ _
    refine fin s₁ he fun x s₂ hx => ?_
    simp only [raiseNew]
    refine wpAny_bind (wpAny_bind (wpAny_handled ?_))
    first | rw [show A.in1.handled = none from hh] | rw [hh]
    exact wpAny_throw hx
  · refine wpAny_bind (wpAny_roomToWake hl hroom ?_)
    refine wake_code hgs (.inr ⟨k, l', p, cl, rfl, rfl⟩) hgo fun e s₁ he => ?_
    obtain ⟨rfl, he⟩ := he
    refine ⟨rfl, ?_⟩
    show wpAny _ A.in1 (newExc (.type "StopIteration") [] >>= _) _ _ _
    refine fin s₁ he fun x s₂ hx => ?_
    simp only [raiseNew]
    refine wpAny_bind (wpAny_bind (wpAny_handled ?_))
    first | rw [show A.in1.handled = none from hh] | rw [hh]
    exact wpAny_throw hx

theorem nx_fresh_item {a L ar : Addr} {g : Nat} {c : Code} {st en : Int} {h0 : Heap} {aits : List Value} {ars : List (Int × Int)} {x : List Int} {r : List (List Int)} {Q : Value → Shared → Prop} (hl : s.heap.NoLimit) (hh : A.handled = none) (hroom : A.depth < recursionLimit) (hg : s.heap.IsGen a g) (hgs : s.gens[g]? = some (.fresh c))
    {U : Addr → Prop} (hF : Fresh P w L ar st en c h0 U) (hk : ∀ b o, U b → h0.get? b = some o → s.heap.get? b = some o) (hls : s.heap.IsList ar aits.toArray) (harr : Paired (Arr s.heap) aits ars) (h6 : ars.length ≤ 6) (ht : trailsM ars st en = x :: r)
    (q1 : ∀ v h' tk gs' it D ys i', (∀ b o, b ≠ L → s.heap.get? b = some o → h'.get? b = some o) → s.heap.objs.size ≤ it → it < h'.objs.size → s.heap.objs.size ≤ D → TupI s.heap.objs.size h' v x → TPre s.heap.objs.size L it D en ys (rounds ars ars.length [([], st)]) i' h' →
      Sleep P w A.in1 s.heap.objs.size L it D en ys (rounds ars ars.length [([], st)]) r i' gs' → Q v { s with heap := h', toks := tk, gens := s.gens.setIfInBounds g gs' }) :
    wpAny (model P w) A (Builtin.SmallTypes.nextOf (.ref a)) Q E s := by
  refine nx_out (c := c) (t := (model P w).den c) (fs := []) (Φ := fun e s' => ∃ v l k' c' p' fs' it D ys i', e = .susp v false l k' c' p' fs' ∧ Since [L] (s.setGen g .running) s' ∧ s.heap.objs.size ≤ it ∧ it < s'.heap.objs.size ∧ s.heap.objs.size ≤ D ∧ TupI s.heap.objs.size s'.heap v x ∧ TPre s.heap.objs.size L it D en ys (rounds ars ars.length [([], st)]) i' s'.heap ∧
      fs'.any Frame.guarded = false ∧ Fut (model P w) A.in1 s.heap.objs.size L it D en ys (rounds ars ars.length [([], st)]) r i' c' k' fs') hl hroom hg hgs (.inl ⟨rfl, rfl, rfl⟩) ?_ ?_
  · refine hF A.in1 _ (s.setGen g .running) aits ars hh hk hls harr h6 (fun s' e _ => ?_) fun s' x' r' v l k' c' p' fs' it D ys i' e hs' z1 z2 z3 hT hp hf hFu => ?_
    · rw [ht] at e
      cases e
    · rw [ht] at e
      cases e
      exact ⟨v, l, k', c', p', fs', it, D, ys, i', rfl, hs', z1, z2, z3, hT, hp, hf, hFu⟩
  · rintro e s₁ ⟨v, l, k', c', p', fs', it, D, ys, i', rfl, ⟨h, tk, rfl, k⟩, z1, z2, z3, hT, hp, hf, hFu⟩
    refine ⟨v, l, k', c', p', fs', rfl, hf, ?_⟩
    rw [set_set]
    exact q1 v h tk _ it D ys i' (fun b o hb q => k b o (fun hm => hb (List.mem_singleton.mp hm)) q) z1 z2 z3 hT hp ⟨k', l, c', p', fs', rfl, hFu⟩
theorem nx_fresh_stop {a L ar : Addr} {g : Nat} {c : Code} {st en : Int} {h0 : Heap} {aits : List Value} {ars : List (Int × Int)} {Q : Value → Shared → Prop} (hl : s.heap.NoLimit) (hh : A.handled = none) (hroom : A.depth < recursionLimit) (hg : s.heap.IsGen a g) (hgs : s.gens[g]? = some (.fresh c))
    {U : Addr → Prop} (hF : Fresh P w L ar st en c h0 U) (hk : ∀ b o, U b → h0.get? b = some o → s.heap.get? b = some o) (hls : s.heap.IsList ar aits.toArray) (harr : Paired (Arr s.heap) aits ars) (h6 : ars.length ≤ 6) (ht : trailsM ars st en = [])
    (q0 : ∀ e h' tk, (∀ b o, b ∉ [L] → s.heap.get? b = some o → h'.get? b = some o) → Stop h' e → E (.ref e) { s with heap := h', toks := tk, gens := s.gens.setIfInBounds g .finished }) :
    wpAny (model P w) A (Builtin.SmallTypes.nextOf (.ref a)) Q E s := by
  refine nx_stop (W := [L]) (c := c) (t := (model P w).den c) (fs := []) hh hl hroom hg hgs (.inl ⟨rfl, rfl, rfl⟩) ?_ q0
  refine hF A.in1 _ (s.setGen g .running) aits ars hh hk hls harr h6 (fun s' _ hs' => ⟨rfl, hs'⟩) fun s' x r v l k' c' p' fs' it D ys i' e => ?_
  rw [ht] at e
  cases e
theorem nx_sleep_item {a L it D : Addr} {g i : Nat} {gs : GenState} {en : Int} {ys : List Value} {f : List (List Int × Int)} {x : List Int} {r : List (List Int)} {lo : Nat} {Q : Value → Shared → Prop} (hl : s.heap.NoLimit) (hroom : A.depth < recursionLimit) (hg : s.heap.IsGen a g) (hgs : s.gens[g]? = some gs)
    (hS : Sleep P w A.in1 lo L it D en ys f (x :: r) i gs) (hp : TPre lo L it D en ys f i s.heap)
    (q1 : ∀ v h' tk gs' i', (∀ b o, b ∉ [L, it] → s.heap.get? b = some o → h'.get? b = some o) → TupI lo h' v x → TPre lo L it D en ys f i' h' → Sleep P w A.in1 lo L it D en ys f r i' gs' → Q v { s with heap := h', toks := tk, gens := s.gens.setIfInBounds g gs' }) :
    wpAny (model P w) A (Builtin.SmallTypes.nextOf (.ref a)) Q E s := by
  obtain ⟨k, l, c, p, fs, rfl, hFu⟩ := hS
  refine nx_out (c := c) (t := k (.send .none)) (fs := fs) hl hroom hg hgs (.inr ⟨k, l, p, _, rfl, rfl⟩) (hFu (s.setGen g .running) hp) ?_
  rintro e s₁ ⟨v, l, k', c', p', fs', i', rfl, hf, ⟨h, tk, rfl, kk⟩, hT, hp', hF'⟩
  refine ⟨v, l, k', c', p', fs', rfl, hf, ?_⟩
  rw [set_set]
  exact q1 v h tk _ i' kk hT hp' ⟨k', l, c', p', fs', rfl, hF'⟩
theorem nx_sleep_stop {a L it D : Addr} {g i : Nat} {gs : GenState} {en : Int} {ys : List Value} {f : List (List Int × Int)} {lo : Nat} {Q : Value → Shared → Prop} (hh : A.handled = none) (hl : s.heap.NoLimit) (hroom : A.depth < recursionLimit) (hg : s.heap.IsGen a g) (hgs : s.gens[g]? = some gs)
    (hS : Sleep P w A.in1 lo L it D en ys f [] i gs) (hp : TPre lo L it D en ys f i s.heap)
    (q0 : ∀ e h' tk, (∀ b o, b ∉ [L, it] → s.heap.get? b = some o → h'.get? b = some o) → Stop h' e → E (.ref e) { s with heap := h', toks := tk, gens := s.gens.setIfInBounds g .finished }) :
    wpAny (model P w) A (Builtin.SmallTypes.nextOf (.ref a)) Q E s := by
  obtain ⟨k, l, c, p, fs, rfl, hFu⟩ := hS
  exact nx_stop (W := [L, it]) (c := c) (t := k (.send .none)) (fs := fs) hh hl hroom hg hgs (.inr ⟨k, l, p, _, rfl, rfl⟩) (hFu (s.setGen g .running) hp) q0
end
end TG

namespace TG
open PySem PySem.Spec PyProof.Rows L2
section
variable {P : Program} {w : World} {A : Around} {E : Value → Shared → Prop} {s : Shared} {z TI TO g1 g2 : Addr} {x0 y0 : Value}
/-- one step of zip over two iterators of any kind whose steps may move anything but the zip's own cells -/
theorem zip_step {Q : Option Value → Shared → Prop} {R1 : Heap → Value → Heap → Array GenState → Prop} {R2 : Array GenState → Heap → Value → Heap → Array GenState → Prop} (nz : TO ≠ z)
    (hz : IsZip s.heap z TI TO .none) (hTI : IsPair s.heap TI (.ref g1) (.ref g2)) (hTO : IsPair s.heap TO x0 y0)
    (d1 : ∀ (h1 : Heap) (K : Value → Shared → Prop) (E : Value → Shared → Prop), Heap.SameBut z s.heap h1 → (∀ v h2 tk gs, R1 h1 v h2 gs → K v { s with heap := h2, toks := tk, gens := gs }) → wpAny (model P w) A.in1 (Builtin.SmallTypes.nextOf (.ref g1)) K E { s with heap := h1 })
    (k1 : ∀ h1 v h2 gs, R1 h1 v h2 gs → ∀ b, b = z ∨ b = TO → ∀ o, h1.get? b = some o → h2.get? b = some o)
    (d2 : ∀ (h1 : Heap) (v : Value) (h2 : Heap) (tk : Nat) (gs : Array GenState) (h3 : Heap) (K : Value → Shared → Prop) (E : Value → Shared → Prop), Heap.SameBut z s.heap h1 → R1 h1 v h2 gs → Heap.SameBut TO h2 h3 → (∀ v' h4 tk' gs', R2 gs h3 v' h4 gs' → K v' { s with heap := h4, toks := tk', gens := gs' }) →
      wpAny (model P w) A.in1 (Builtin.SmallTypes.nextOf (.ref g2)) K E { s with heap := h3, toks := tk, gens := gs })
    (k2 : ∀ gs h1 v h2 gs', R2 gs h1 v h2 gs' → ∀ b, b = z ∨ b = TO → ∀ o, h1.get? b = some o → h2.get? b = some o)
    (hQ : ∀ h1 v h2 gs h3 v' h4 gs' h8 tk, Heap.SameBut z s.heap h1 → R1 h1 v h2 gs → Heap.SameBut TO h2 h3 → R2 gs h3 v' h4 gs' → IsZip h8 z TI TO (rawInt h4.objs.size) → IsPair h8 TO v v' → IsPair h8 h4.objs.size v v' → (∀ b o, b ≠ z → b ≠ TO → h4.get? b = some o → h8.get? b = some o) →
      Q (some (.ref h4.objs.size)) { s with heap := h8, toks := tk, gens := gs' }) :
    wpAny (model P w) A (pyNext (.ref z)) Q E s := by
  have hT : s.TypeIs (.ref z) "zip" := ⟨_, hz, rfl⟩
  unfold pyNext
  refine wpAny_bind (wpAny_attempt (wpAny_callSpecial?_slot (name := Str.ofString "__next__") hT F.slot_zip_next (wpAny_call_entry F.slot_zip_next hT F.entry_zip_next ?_ (F.args_zip_next_1 _))))
  show wpAny _ _ (field (.ref z) 2 >>= _) _ _ _
  refine wpAny_bind (wpAny_field hz rfl (x := .bool false) rfl ?_)
  show wpAny _ _ (field (.ref z) 3 >>= _) _ _ _
  refine wpAny_bind (wpAny_field hz rfl (x := .ref TI) rfl ?_)
  refine wpAny_bind (wpAny_seqItems hTI rfl ?_)
  show wpAny _ _ (Builtin.SmallTypes.ownedTupleIsFree (.ref z) >>= _) _ _ _
  refine wpAny_bind ?_
  unfold Builtin.SmallTypes.ownedTupleIsFree
  refine wpAny_bind (wpAny_field hz rfl (x := .none) rfl (wpAny_pure ?_))
  simp only [if_true]
  refine wpAny_bind (wpAny_rule ?_)
  refine wpAny_bind (wpAny_field hz rfl (x := .ref TO) rfl ?_)
  refine wpAny_bind (wpAny_setField_rec hz (by simp) fun h1 hz1 hs1 => ?_)
  replace hz1 : IsZip h1 z TI TO .ellipsis := hz1
  refine wpAny_bind ?_
  simp only [List.zipIdx_cons, List.zipIdx_nil, List.forIn_cons, List.forIn_nil]
  refine wpAny_bind (wpAny_bind (wpAny_onRaise ?_))
  show wpAny _ _ (Builtin.SmallTypes.nextOf (.ref g1) >>= _) _ _ _
  refine wpAny_bind (d1 h1 _ _ hs1 fun v h2 tk gs r1 => wpAny_pure ?_)
  have hz2 : IsZip h2 z TI TO .ellipsis := k1 _ _ _ _ r1 z (.inl rfl) _ hz1
  have hT2 : IsPair h2 TO x0 y0 := k1 _ _ _ _ r1 TO (.inr rfl) _ (hs1.extBut _ _ nz hTO)
  refine wpAny_bind (wpAny_seqItems (s := { s with heap := h2, toks := tk, gens := gs }) hT2 rfl ?_)
  refine wpAny_bind (wpAny_updateSeq_pair (s := { s with heap := h2, toks := tk, gens := gs }) hT2 fun h3 hT3 hs3 => ?_)
  replace hT3 : IsPair h3 TO v y0 := hT3
  refine wpAny_bind (wpAny_letGo (wpAny_pure ?_))
  refine wpAny_bind (wpAny_bind (wpAny_onRaise ?_))
  show wpAny _ _ (Builtin.SmallTypes.nextOf (.ref g2) >>= _) _ _ _
  refine wpAny_bind (d2 h1 v h2 tk gs h3 _ _ hs1 r1 hs3 fun v' h4 tk' gs' r2 => wpAny_pure ?_)
  have hz4 : IsZip h4 z TI TO .ellipsis := k2 _ _ _ _ _ r2 z (.inl rfl) _ (hs3.extBut _ _ (Ne.symm nz) hz2)
  have hT4 : IsPair h4 TO v y0 := k2 _ _ _ _ _ r2 TO (.inr rfl) _ hT3
  refine wpAny_bind (wpAny_seqItems (s := { s with heap := h4, toks := tk', gens := gs' }) hT4 rfl ?_)
  refine wpAny_bind (wpAny_updateSeq_pair (s := { s with heap := h4, toks := tk', gens := gs' }) hT4 fun h5 hT5 hs5 => ?_)
  replace hT5 : IsPair h5 TO v v' := hT5
  replace hs5 : Heap.SameBut TO h4 h5 := hs5
  refine wpAny_bind (wpAny_letGo (wpAny_pure (wpAny_pure ?_)))
  refine wpAny_bind (wpAny_seqItems (s := { s with heap := h5, toks := tk', gens := gs' }) hT5 rfl ?_)
  refine wpAny_bind (wpAny_newTuple ?_)
  have hz5 : IsZip h5 z TI TO .ellipsis := hs5.extBut _ _ (Ne.symm nz) hz4
  have zl : z < h5.objs.size := Heap.lt_size hz5
  show wpAny _ _ (Builtin.SmallTypes.ownedTupleHandOut (.ref z) (.ref h5.objs.size) >>= _) _ _ _
  refine wpAny_bind ?_
  unfold Builtin.SmallTypes.ownedTupleHandOut
  have hz6 : IsZip (h5.push { cls := .type "tuple", data := .seq #[v, v'] }) z TI TO .ellipsis := Heap.get?_push_of_some _ hz5
  refine wpAny_bind (wpAny_setField_rec (s := { s with heap := h5.push { cls := .type "tuple", data := .seq #[v, v'] }, toks := tk', gens := gs' }) hz6 (by simp) fun h7 hz7 hs7 => ?_)
  replace hz7 : IsZip h7 z TI TO (rawInt h5.objs.size) := hz7
  replace hs7 : Heap.SameBut z (h5.push { cls := .type "tuple", data := .seq #[v, v'] }) h7 := hs7
  refine wpAny_setField_rec (s := { s with heap := h7, toks := tk', gens := gs' }) hz7 (by simp) fun h8 hz8 hs8 => ?_
  replace hz8 : IsZip h8 z TI TO (rawInt h5.objs.size) := hz8
  replace hs8 : Heap.SameBut z h7 h8 := hs8
  have up : ∀ c o, c ≠ z → h5.get? c = some o → h8.get? c = some o := fun c o c1 e => hs8.extBut _ _ c1 (hs7.extBut _ _ c1 (Heap.get?_push_of_some _ e))
  have hT8 : IsPair h8 h5.objs.size v v' := hs8.extBut _ _ (Nat.ne_of_gt zl) (hs7.extBut _ _ (Nat.ne_of_gt zl) (Heap.get?_push_size _ rfl))
  have sz : h5.objs.size = h4.objs.size := hs5.1
  rw [sz] at hz8 hT8
  refine wpAny_pure ⟨_, rfl, ?_⟩
  show wpAny (model P w) A (pure (some (Value.ref h5.objs.size))) Q E _
  rw [sz]
  exact wpAny_pure (hQ h1 v h2 gs h3 v' h4 gs' h8 tk' hs1 r1 hs3 r2 hz8 (up _ _ nz hT5) hT8 fun b o b1 b2 e => up b o b1 (hs5.extBut _ _ b2 e))
/-- .. its end: the first has ended -/
theorem zip_stop {Q : Option Value → Shared → Prop} {R1 : Heap → Heap → Array GenState → Prop} 
    (hz : IsZip s.heap z TI TO .none) (hTI : IsPair s.heap TI (.ref g1) (.ref g2)) (hTO : IsPair s.heap TO x0 y0)
    (d1 : ∀ (h1 : Heap) (K : Value → Shared → Prop) (E : Value → Shared → Prop), Heap.SameBut z s.heap h1 → (∀ e h2 tk gs, R1 h1 h2 gs → Stop h2 e → E (.ref e) { s with heap := h2, toks := tk, gens := gs }) → wpAny (model P w) A.in1 (Builtin.SmallTypes.nextOf (.ref g1)) K E { s with heap := h1 })
    (k1 : ∀ h1 h2 gs, R1 h1 h2 gs → ∀ o, h1.get? z = some o → h2.get? z = some o)
    (hQ : ∀ h1 h2 gs h3 tk, Heap.SameBut z s.heap h1 → R1 h1 h2 gs → Heap.SameBut z h2 h3 → Q none { s with heap := h3, toks := tk, gens := gs }) :
    wpAny (model P w) A (pyNext (.ref z)) Q E s := by
  have hT : s.TypeIs (.ref z) "zip" := ⟨_, hz, rfl⟩
  unfold pyNext
  refine wpAny_bind (wpAny_attempt (wpAny_callSpecial?_slot (name := Str.ofString "__next__") hT F.slot_zip_next (wpAny_call_entry F.slot_zip_next hT F.entry_zip_next ?_ (F.args_zip_next_1 _))))
  show wpAny _ _ (field (.ref z) 2 >>= _) _ _ _
  refine wpAny_bind (wpAny_field hz rfl (x := .bool false) rfl ?_)
  show wpAny _ _ (field (.ref z) 3 >>= _) _ _ _
  refine wpAny_bind (wpAny_field hz rfl (x := .ref TI) rfl ?_)
  refine wpAny_bind (wpAny_seqItems hTI rfl ?_)
  show wpAny _ _ (Builtin.SmallTypes.ownedTupleIsFree (.ref z) >>= _) _ _ _
  refine wpAny_bind ?_
  unfold Builtin.SmallTypes.ownedTupleIsFree
  refine wpAny_bind (wpAny_field hz rfl (x := .none) rfl (wpAny_pure ?_))
  simp only [if_true]
  refine wpAny_bind (wpAny_rule ?_)
  refine wpAny_bind (wpAny_field hz rfl (x := .ref TO) rfl ?_)
  refine wpAny_bind (wpAny_setField_rec hz (by simp) fun h1 hz1 hs1 => ?_)
  replace hz1 : IsZip h1 z TI TO .ellipsis := hz1
  refine wpAny_bind ?_
  simp only [List.zipIdx_cons, List.zipIdx_nil, List.forIn_cons, List.forIn_nil]
  refine wpAny_bind (wpAny_bind (wpAny_onRaise ?_))
  show wpAny _ _ (Builtin.SmallTypes.nextOf (.ref g1) >>= _) _ _ _
  refine wpAny_bind (d1 h1 _ _ hs1 fun e h2 tk gs r1 he => ?_)
  have hz2 : IsZip h2 z TI TO .ellipsis := k1 _ _ _ r1 _ hz1
  obtain ⟨o, ho, hc⟩ := he
  have ez : e ≠ z := fun q => by subst q; rw [hz2] at ho; cases ho; simp at hc
  refine wpAny_setField_rec (s := { s with heap := h2, toks := tk, gens := gs }) hz2 (by simp) fun h3 _ hs3 => ?_
  replace hs3 : Heap.SameBut z h2 h3 := hs3
  refine wpAny_bind (wpAny_isInstance (s := { s with heap := h3, toks := tk, gens := gs }) (T := "StopIteration") (b := true) ⟨o, hs3.extBut _ _ ez ho, hc⟩ isSubtype_stop ?_)
  exact wpAny_pure (hQ h1 h2 gs h3 tk hs1 r1 hs3)
end
end TG

namespace TG
open PySem PySem.Spec PyProof.Rows L2
abbrev zg1 (h : Heap) (p q : Addr) : Heap := h.push { cls := .type "tuple", data := .seq #[.ref p, .ref q] }
abbrev zg2 (h : Heap) (p q : Addr) : Heap := (zg1 h p q).push { cls := .type "tuple", data := .seq #[.none, .none] }
abbrev zg3 (h : Heap) (p q : Addr) : Heap := (zg2 h p q).push { cls := .type "zip", data := .fields #[.none, .bool false, .bool false, .ref h.objs.size, .ref (zg1 h p q).objs.size] }
theorem meets_zipG (p q : Addr) (i j : Nat) :
    Meets (Builtin.«zip.__new__» ⟨[.type "zip", .ref p, .ref q], []⟩) (fun _ R s => s.heap.IsGen p i ∧ s.heap.IsGen q j ∧ R (.ok (.ret (.ref (zg2 s.heap p q).objs.size))) { s with heap := zg3 s.heap p q }) :=
  .of_wp fun prog w A R s h => by
    obtain ⟨hp, g, d, tk, os⟩ := s
    obtain ⟨a1, a2, h⟩ := h
    have hsub := sub_zip
    have b1 : Heap.IsGen (Shared.heap ⟨hp, g, d, tk, os⟩) p i := a1
    have b2 : Heap.IsGen (Shared.heap ⟨hp, g, d, tk, os⟩) q j := a2
    wp_walk using wpAny_pyIter_gen b1, wpAny_pyIter_gen b2
    exact ⟨_, rfl, h⟩
section
variable {P : Program} {w : World} {A : Around} {E : Value → Shared → Prop} {s : Shared}
theorem call_zipG {p q : Addr} {i j : Nat} {Q : Value → Shared → Prop} (hp : s.heap.IsGen p i) (hq : s.heap.IsGen q j)
    (h : ∀ h', IsZip h' (s.heap.objs.size + 2) s.heap.objs.size (s.heap.objs.size + 1) .none → IsPair h' s.heap.objs.size (.ref p) (.ref q) → IsPair h' (s.heap.objs.size + 1) .none .none →
      (∀ c o, s.heap.get? c = some o → h'.get? c = some o) → Q (.ref (s.heap.objs.size + 2)) { s with heap := h' }) :
    wpAny (model P w) A (call (.type "zip") [.ref p, .ref q]) Q E s := by
  refine callType_new F.called_zip (by decide) (F.typeCall_zip_2 _ _) (F.newCall_zip_2 _ _) (fun obj => F.args_object_init_3 obj _ _) F.entry_zip_new (meets_zipG p q i j) ⟨hp, hq, ?_⟩
  have z1 : (zg1 s.heap p q).objs.size = s.heap.objs.size + 1 := Heap.size_push ..
  have z2 : (zg2 s.heap p q).objs.size = s.heap.objs.size + 2 := by rw [Heap.size_push, z1]
  have e3 : (zg3 s.heap p q).get? (zg2 s.heap p q).objs.size = some _ := Heap.get?_push_size _ rfl
  have e2 : (zg3 s.heap p q).get? (zg1 s.heap p q).objs.size = some _ := Heap.get?_push_of_some _ (Heap.get?_push_size _ rfl)
  have e1 : (zg3 s.heap p q).get? s.heap.objs.size = some _ := Heap.get?_push_of_some _ (Heap.get?_push_of_some _ (Heap.get?_push_size _ rfl))
  show _ ∧ _
  rw [z1, z2] at e3
  rw [z1] at e2
  rw [z2]
  exact ⟨⟨_, e3, rfl⟩, h _ e3 e1 e2 fun c o x => Heap.get?_push_of_some _ (Heap.get?_push_of_some _ (Heap.get?_push_of_some _ x))⟩
end
end TG

namespace TG
open PySem PySem.Spec PyProof.Rows L2

/-! ### code that leaves the generators as they are -/
structure PEg (X : Cx) (e : Expr) (t : TE) : Prop where
  run : ∀ (P : List (Addr × Obj)) (s : Shared) (τ : L2.St) (H : Hp) (Q : VK), Inv X P τ H s → t τ H Q → wpAny (model X.prog X.w) X.A (eval e X.env) (fun u s' => s'.gens = s.gens ∧ EP X P τ Q u s') X.xe s
structure PTg (X : Cx) (e : Expr) (t : TT) : Prop where
  run : ∀ (P : List (Addr × Obj)) (s : Shared) (τ : L2.St) (H : Hp) (Q : Bool → Hp → Prop), Inv X P τ H s → t τ H Q → wpAny (model X.prog X.w) X.A (isTrue e X.env (eval e X.env)) (fun u s' => s'.gens = s.gens ∧ TP X P τ Q u s') X.xe s
structure PWg (X : Cx) (e : Expr) (t : TT) : Prop where
  run : ∀ (wh : Sem Value) (P : List (Addr × Obj)) (s : Shared) (τ : L2.St) (H : Hp) (Q : Bool → Hp → Prop), Inv X P τ H s → t τ H Q → wpAny (model X.prog X.w) X.A (isTrue e X.env wh) (fun u s' => s'.gens = s.gens ∧ TP X P τ Q u s') X.xe s
structure PSg (X : Cx) (st : Stmt) (t : TS) : Prop where
  run : ∀ (P : List (Addr × Obj)) (s : Shared) (τ : L2.St) (H : Hp) (D : Ends), Inv X P τ H s → t D τ H → wpAny (model X.prog X.w) X.A (exec st X.env) (fun f s' => s'.gens = s.gens ∧ SP X P D f s') X.xe s
structure PSsg (X : Cx) (st : List Stmt) (t : TS) : Prop where
  run : ∀ (P : List (Addr × Obj)) (s : Shared) (τ : L2.St) (H : Hp) (D : Ends), Inv X P τ H s → t D τ H → wpAny (model X.prog X.w) X.A (execs st X.env) (fun f s' => s'.gens = s.gens ∧ SP X P D f s') X.xe s
/-- an operation by values that leaves the generators -/
def OpG (X : Cx) (f : Value → Value → Sem Value) (r : R2) : Prop :=
  ∀ (P : List (Addr × Obj)) (s : Shared) (τ : L2.St) (H : Hp) (x y : V) (v u : Value) (Q : VK), Inv X P τ H s → RelV x v → RelV y u → r x y H Q → wpAny (model X.prog X.w) X.A (f v u) (fun u s' => s'.gens = s.gens ∧ EP X P τ Q u s') X.xe s
section
variable {X : Cx} {a b : Expr} {ta tb : TE} {pos : Pos}
theorem PWg.pt {e : Expr} {t : TT} (h : PWg X e t) : PTg X e t := ⟨h.run _⟩
theorem gvar (i : Nat) {x : Str} {pos : Pos} (hN : X.N[i]? = some x := by rfl) (hv : Vis X.env.scope x := by first | exact Or.inl rfl | exact Or.inr (Or.inl rfl) | exact Or.inr (Or.inr rfl)) (hd : (x == ("__debug__" : Str)) = false := by decide)
    (hcd : (x == ("__classdict__" : Str)) = false := by decide) : PEg X (.Name x pos) (tVar i) := by
  refine ⟨fun P s τ H Q J q => ?_⟩
  obtain ⟨v, e, q⟩ := q
  obtain ⟨m, n, l⟩ := J.loc
  obtain ⟨u, r, lk⟩ := l i x v hN e hv
  have done : s.gens = s.gens ∧ EP X P τ Q u s := ⟨rfl, v, H, J, r, q⟩
  rcases lk with ⟨k, hm⟩ | ⟨k | k, c, hc, hl⟩
  · exact wpAny_Name (wpAny_loadName_local J.ok.kind k n hm done) hd
  · exact wpAny_Name (wpAny_loadName_cell J.ok.kind k hc hl done) hd
  · exact wpAny_Name (wpAny_loadName_free J.ok.kind k hc hl done hcd) hd
theorem gint {i j pos} : PEg X (.Constant (.int i) j pos) (tC (.int i)) := ⟨fun _ _ _ H _ J q => wpAny_Constant_int ⟨rfl, .int i, H, J.tok _, ⟨_, rfl⟩, q⟩⟩
theorem gbl {b j pos} : PEg X (.Constant (.bool b) j pos) (tC (.bl b)) := ⟨fun _ _ _ H _ J q => Constant_bool ⟨rfl, .bl b, H, J, rfl, q⟩⟩
theorem gbin (ha : PEg X a ta) (hb : PEg X b tb) {P : List (Addr × Obj)} {s : Shared} {τ : L2.St} {H : Hp} {R : V → V → Hp → Prop} (J : Inv X P τ H s) (q : ta τ H fun x H1 => tb τ H1 fun y H2 => R x y H2)
    {α : Type} {Q : α → Shared → Prop} {f : Value → Value → Sem α}
    (hf : ∀ v u s2 x y H2, s2.gens = s.gens → Inv X P τ H2 s2 → RelV x v → RelV y u → R x y H2 → wpAny (model X.prog X.w) X.A (f v u) Q X.xe s2) :
    wpAny (model X.prog X.w) X.A (eval a X.env) (fun v s₁ => wpAny (model X.prog X.w) X.A (eval b X.env) (fun u s₂ => wpAny (model X.prog X.w) X.A (f v u) Q X.xe s₂) X.xe s₁) X.xe s := by
  refine thn (ha.run P s τ H _ J q) fun v s1 ⟨g1, x, H1, J1, r1, q1⟩ => ?_
  refine thn (hb.run P s1 τ H1 _ J1 q1) fun u s2 ⟨g2, y, H2, J2, r2, q2⟩ => ?_
  exact hf v u s2 x y H2 (g2.trans g1) J2 r1 r2 q2
theorem gop {op : Operator} {r : R2} (ho : OpG X (binaryOp op) r) (ha : PEg X a ta) (hb : PEg X b tb) : PEg X (.BinOp a op b pos) (tOp r ta tb) := by
  refine ⟨fun P s τ H Q J q => ?_⟩
  exact wpAny_BinOp (gbin ha hb J q fun v u s2 x y H2 g2 J2 rx ry q2 => thn (ho P s2 τ H2 x y v u Q J2 rx ry q2) fun _ _ z => ⟨z.1.trans g2, z.2⟩)
theorem gadd : OpG X (binaryOp .Add) (rI0 fun i j => .int (i + j)) := by
  intro P s τ H x y v u Q J rx ry q
  obtain ⟨i, j, rfl, rfl, q⟩ := q
  obtain ⟨t, rfl⟩ := rx
  obtain ⟨t', rfl⟩ := ry
  exact add_int ⟨rfl, .int (i + j), H, J.tok _, ⟨_, rfl⟩, q⟩
theorem gge : OpG X (compareOp .GtE) (rI0 fun i j => .bl (decide (j ≤ i))) := by
  intro P s τ H x y v u Q J rx ry q
  obtain ⟨i, j, rfl, rfl, q⟩ := q
  obtain ⟨t, rfl⟩ := rx
  obtain ⟨t', rfl⟩ := ry
  exact ge_int ⟨rfl, .bl _, H, J, rfl, q⟩
theorem gne (hu : X.A.units + 64 < cLine) : OpG X (compareOp .NotEq) (rNeD X.K) := by
  intro P s τ H x y v u Q J rx ry q
  obtain ⟨d, e, hd, he, sd, se, q⟩ := q
  obtain ⟨as, r1⟩ := Dp.reads J d x v hd rx
  obtain ⟨bs, r2⟩ := Dp.reads J e y u he ry
  exact SeqAt.compareNe_shaped r1 r2 sd se hu ⟨rfl, .bl _, H, J, rfl, q⟩
theorem gcmp {op : CmpOp} {r : R2} (ho : OpG X (compareOp op) r) (ha : PEg X a ta) (hb : PEg X b tb) (hm : behindInMarks op b = false) : PTg X (.Compare a [op] [b] pos) (tTest (tOp r ta tb)) := by
  refine ⟨fun P s τ H Q J q => ?_⟩
  refine wpAny_isTrue_Compare1 (gbin ha hb J q fun v u s2 x y H2 g2 J2 rx ry q2 => thn (ho P s2 τ H2 x y v u _ J2 rx ry q2) fun c s3 ⟨g3, z, H3, J3, r3, k, e, q3⟩ => ?_) hm
  subst e
  cases r3
  exact wpAny_truthy_bool ⟨g3.trans g2, H3, J3, q3⟩
theorem gor1 {t : TT} (ha : PTg X a t) : PWg X (.BoolOp .Or [a] pos) t := by
  refine ⟨fun wh P s τ H Q J q => ?_⟩
  refine isTrue_or (thn (ha.run P s τ H Q J q) fun c s1 e => ?_)
  cases c with
  | false => exact isTrue_or_nil e
  | true => exact e
theorem gor {t t' : TT} {rest : List Expr} (ha : PTg X a t) (hb : PWg X (.BoolOp .Or (b :: rest) pos) t') : PWg X (.BoolOp .Or (a :: b :: rest) pos) (tOr t t') := by
  refine ⟨fun wh P s τ H Q J q => ?_⟩
  refine isTrue_or (thn (ha.run P s τ H _ J q) fun c s1 ⟨g1, H1, J1, q1⟩ => ?_)
  cases c with
  | true => exact ⟨g1, H1, J1, q1⟩
  | false => exact thn (hb.run wh P s1 τ H1 Q J1 q1) fun _ _ z => ⟨z.1.trans g1, z.2⟩
/-- len(x) -/
theorem glen {x : Str} {p : Pos} (hg : Gl X x) (hm : X.mg x = none) (hv : bootBuiltins x = some (.builtin "len")) (ha : PEg X a ta) (hn : x ≠ "__name__" := by decide) (hdb : (x == ("__debug__" : Str)) = false := by decide)
    (he : starEach [a] X.env = [(false, eval a X.env)] := by rfl) : PEg X (.Call (.Name x p) [a] [] pos) (fun τ H Q => ta τ H fun x H1 => ∃ p ys, x = .ref p ∧ (SqL X.K H1 p ys ∨ SqT X.K H1 p ys) ∧ Q (.int ys.length) H1) := by
  refine ⟨fun P s τ H Q J q => ?_⟩
  refine wpAny_Call_Name_kw (ld_blt J hg hm hv ?_ hn hdb)
  refine PyProof.Rows.callWith_builtin1 ?_ he rfl
  rw [he]
  refine Calls.spliced_cons (thn (ha.run P s τ H _ J q) fun u s1 ⟨g1, x, H1, J1, r1, q1⟩ => ?_)
  refine Calls.spliced_nil ?_
  obtain ⟨p, ys, rfl, hq, q1⟩ := q1
  cases r1
  have hn := line63
  rcases hq with hq | hq
  · obtain ⟨its, r', pl, hz⟩ := J1.list hq
    have hlen := r'.length
    exact Calls.call_len_list pl.isList (by simp only [List.size_toArray] <;> omega) ⟨g1, .int ys.length, H1, J1.tok _, ⟨s1.toks + 1, by rw [List.size_toArray, hlen]⟩, q1⟩
  · obtain ⟨its, r', pl, hz⟩ := J1.tuple hq
    have hlen := r'.length
    exact len_tuple pl (by simp only [List.size_toArray] <;> omega) ⟨g1, .int ys.length, H1, J1.tok _, ⟨s1.toks + 1, by rw [List.size_toArray, hlen]⟩, q1⟩
/-- xs[i], 0 ≤ i -/
theorem gix (ha : PEg X a ta) (hb : PEg X b tb) (hs : PlainIx b) : PEg X (.Subscript a b pos) (fun τ H Q => ta τ H fun x H1 => tb τ H1 fun y H2 => ∃ p xs i v, x = .ref p ∧ y = .int i ∧ 0 ≤ i ∧ SqL X.K H2 p xs ∧ xs[i.toNat]? = some v ∧ Q v H2) := by
  refine ⟨fun P s τ H Q J q => ?_⟩
  refine Subscript_ (gbin ha hb J q fun v u s2 x y H2 g2 J2 rx ry q2 => ?_)
  obtain ⟨p, xs, i, z, rfl, rfl, h0, hq, he, q2⟩ := q2
  cases rx
  obtain ⟨t, rfl⟩ := ry
  obtain ⟨its, r, pl, hz⟩ := J2.list hq
  obtain ⟨w, ew, rw'⟩ := r.get he
  have hl := r.length
  have hn := line63
  have hi : i.toNat < xs.length := (List.getElem?_eq_some_iff.mp he).1
  exact item_listR pl.isList h0 (by omega) (by simpa using ew) ⟨g2, z, H2, J2, rw', q2⟩ (hs _ _)
theorem gret {te : TE} {e : Expr} (he : PEg X e te) : PSg X (.Return (some e) pos) (tRet te) := by
  refine ⟨fun P s τ H D J q => ?_⟩
  exact wpAny_Return_some (thn (he.run P s τ H _ J q) fun v s1 ⟨g1, x, H1, J1, r1, q1⟩ => ⟨g1, x, τ, H1, J1, r1, q1⟩)
theorem gif {c : Expr} {aa bb : List Stmt} {tc : TT} {t u : TS} (hc : PTg X c tc) (ha : PSsg X aa t) (hb : PSsg X bb u) : PSg X (.If c aa bb pos) (tIfS tc t u) := by
  refine ⟨fun P s τ H D J q => ?_⟩
  refine wpAny_If (thn (hc.run P s τ H _ J q) fun d s1 ⟨g1, H1, J1, q1⟩ => ?_)
  cases d with
  | true => exact thn (ha.run P s1 τ H1 D J1 q1) fun _ _ z => ⟨z.1.trans g1, z.2⟩
  | false => exact thn (hb.run P s1 τ H1 D J1 q1) fun _ _ z => ⟨z.1.trans g1, z.2⟩
theorem gnil : PSsg X [] tNext := ⟨fun _ _ τ H _ J q => wpAny_execs_nil ⟨rfl, τ, H, J, q⟩⟩
theorem gcons {st : Stmt} {rest : List Stmt} {t u : TS} (h1 : PSg X st t) (h2 : PSsg X rest u) : PSsg X (st :: rest) (tSeq t u) := by
  refine ⟨fun P s τ H D J q => ?_⟩
  refine wpAny_execs_cons (thn (h1.run P s τ H { D with nx := u D } J q) fun f s1 z => ?_)
  obtain ⟨g1, z⟩ := z
  cases f with
  | next =>
    obtain ⟨τ', H', J', q⟩ := z
    exact thn (h2.run P s1 τ' H' D J' q) fun _ _ z => ⟨z.1.trans g1, z.2⟩
  | ret v => exact ⟨g1, z⟩
  | brk => exact ⟨g1, z⟩
  | cont => exact ⟨g1, z⟩
theorem gone {st : Stmt} {t : TS} (h1 : PSg X st t) : PSsg X [st] t := by
  refine ⟨fun P s τ H D J q => ?_⟩
  refine wpAny_execs_cons (thn (h1.run P s τ H D J q) fun f s1 z => ?_)
  cases f with
  | next => exact wpAny_execs_nil z
  | ret v => exact z
  | brk => exact z
  | cont => exact z
/-- a store at a plain local, the state behind it -/
theorem gstore {M : Model} {A : Around} {E : Value → Shared → Prop} {P : List (Addr × Obj)} {τ : L2.St} {H : Hp} {s : Shared} {i : Nat} {x : Str} {v : V} {u : Value} {Q : Unit → Shared → Prop} (J : Inv X P τ H s) (hN : X.N.Nodup) (hi : X.N[i]? = some x) (hx : X.env.scope.names.lookup x = some .local) (r : RelV v u)
    (q : ∀ h' tk, Heap.SameBut X.env.locals s.heap h' → Inv X P (τ.set i (some v)) H { s with heap := h', toks := tk } → Q () { s with heap := h', toks := tk }) : wpAny M A (storeName X.env x u) Q E s := by
  obtain ⟨m, n, l⟩ := id J.loc
  have cls : (X.env.scope.kind == .class || (X.env.scope.kind == .module && X.env.locals != X.env.globals)) = false := by
    rw [J.ok.kind]
    rfl
  have il : i < τ.length := by
    rw [J.len]
    exact (List.getElem?_eq_some_iff.mp hi).1
  have old : ∀ {b : Addr} {o : Obj}, X.s_0.heap.get? b = some o → b ≠ X.env.locals := fun e => Nat.ne_of_lt (Nat.lt_of_lt_of_le (Heap.lt_size e) J.ok.above)
  refine wpAny_storeName_local hx n (fun h' n' same => ?_) cls
  refine q h' _ same ⟨J.ok, J.os, J.bare, ⟨?_, ?_, J.base.free, ?_, J.base.tups, J.base.frzs, J.base.tbls⟩, ⟨_, n', ?_⟩, ?_, J.free, J.freeC, ?_, ?_, by simpa using J.len⟩
  · intro b o e f1 f2 f3
    exact (same.2 b (old e)).trans (J.base.keep b o e f1 f2 f3)
  · intro b o e f1 f2 f3
    obtain ⟨sl, e'⟩ := J.base.slot b o e f1 f2 f3
    exact ⟨sl, (same.2 b (old e)).trans e'⟩
  · intro b o e f3
    obtain ⟨o', e'⟩ := J.base.there b o e f3
    exact ⟨o', (same.2 b (old e)).trans e'⟩
  · intro j y v' e1 e2 e3
    by_cases hj : j = i
    · subst hj
      have yx : x = y := Option.some.inj (hi.symm.trans e1)
      subst yx
      rw [List.getElem?_set_self il] at e2
      have vv : v = v' := Option.some.inj (Option.some.inj e2)
      subst vv
      exact ⟨u, r, .inl ⟨hx, by simp⟩⟩
    · rw [List.getElem?_set_ne (Ne.symm hj)] at e2
      obtain ⟨u', r', z⟩ := l j y v' e1 e2 e3
      refine ⟨u', r', ?_⟩
      rcases z with ⟨k, e⟩ | ⟨k, c, e, z⟩
      · have ny : y ≠ x := fun e => hj (nodup_ix hN e1 (e ▸ hi))
        exact .inl ⟨k, by simp [ny, e]⟩
      · exact .inr ⟨k, c, e, z.sameBut same (J.cne y c e)⟩
  · intro y c e
    obtain ⟨w', z⟩ := J.cell y c e
    exact ⟨w', z.sameBut same (J.cne y c e)⟩
  · intro p hp
    obtain ⟨e, f1, f2, f3, f4⟩ := J.pin p hp
    exact ⟨(same.2 p.1 f2).trans e, f1, f2, f3, f4⟩
  · intro b ob e
    refine (J.hok b ob e).stay (fun c w' hc z => (same.2 c ?_).trans z) (fun _ z => z) fun _ _ z => z
    rintro rfl
    rcases hc with rfl | hc
    · rw [J.free] at e
      cases e
    · rw [J.free] at hc
      cases hc
theorem gset {i : Nat} {x : Str} {e : Expr} {te : TE} {pos' : Pos} (hN : X.N.Nodup) (hi : X.N[i]? = some x) (hx : X.env.scope.names.lookup x = some .local) (he : PEg X e te) (hs : swapsWith e (some (.Name x pos')) pos.line X.env = pure false := by rfl) :
    PSg X (.Assign [.Name x pos'] e pos) (tAsg te (gName i)) := by
  refine ⟨fun P s τ H D J q => ?_⟩
  refine wpAny_Assign_Name (thn (he.run P s τ H _ J q) fun v s1 ⟨g1, y, H1, J1, r1, q1⟩ => ?_) hs
  exact gstore J1 hN hi hx r1 fun h' _ _ J2 => ⟨g1, _, H1, J2, q1⟩
end
end TG

namespace TG
open PySem PySem.Spec PyProof.Rows L2

/-- a trails generator that handed out k trails: its iterator at it (k > 0); V: what others may change while it has not begun -/
def GZ (P : Program) (w : World) (A : Around) (g : Nat) (L ar : Addr) (st en : Int) (ars : List (Int × Int)) (lo0 : Nat) (V : List Addr) (it : Addr) (k : Nat) (h : Heap) (gens : Array GenState) : Prop :=
  (k = 0 ∧ ∃ c h0 hA aits U, gens[g]? = some (.fresh c) ∧ Fresh P w L ar st en c h0 U ∧ (∀ b o, U b → h0.get? b = some o → b ∉ V ∧ h.get? b = some o) ∧ (∀ b o, hA.get? b = some o → b ∉ V ∧ h.get? b = some o) ∧ hA.IsList ar aits.toArray ∧ Paired (Arr hA) aits ars) ∨
  (k ≠ 0 ∧ ∃ gs D ys i lo, gens[g]? = some gs ∧ Sleep P w A.in1.in1 lo L it D en ys (rounds ars ars.length [([], st)]) ((trailsM ars st en).drop k) i gs ∧ TPre lo L it D en ys (rounds ars ars.length [([], st)]) i h ∧ lo0 ≤ lo ∧ lo ≤ it ∧ lo ≤ D)
theorem notLI {h : Heap} {b D : Addr} {i : Nat} {xs : Array Value} (x : h.IsListIter b D i) (y : h.IsList b xs) : False := by
  obtain ⟨o, e, c, d⟩ := x
  obtain ⟨o', e', c', _, d'⟩ := y
  rw [e] at e'; cases e'; rw [d] at d'; cases d'
section
variable {P : Program} {w : World} {A : Around} {g L ar : Nat} {st en : Int} {ars : List (Int × Int)} {lo0 : Nat} {V : List Addr} {it k : Nat} {h h' : Heap} {gens gens' : Array GenState}
theorem GZ.gens_of (z : GZ P w A g L ar st en ars lo0 V it k h gens) (e : gens'[g]? = gens[g]?) : GZ P w A g L ar st en ars lo0 V it k h gens' := by
  rcases z with ⟨hk, c, h0, hA, aits, U, e1, r⟩ | ⟨hk, gs, D, ys, i, lo, e1, r⟩
  · exact .inl ⟨hk, c, h0, hA, aits, U, e.trans e1, r⟩
  · exact .inr ⟨hk, gs, D, ys, i, lo, e.trans e1, r⟩
theorem GZ.keep {W : List Addr} (z : GZ P w A g L ar st en ars lo0 V it k h gens) (kp : ∀ b o, b ∉ W → h.get? b = some o → h'.get? b = some o) (hV : k = 0 → ∀ b ∈ W, b ∈ V ∨ h.objs.size ≤ b) (hL : L ∉ W) (hi : k ≠ 0 → it ∉ W)
    (hS : k ≠ 0 → ∀ b ∈ W, b < lo0 ∨ (∃ D i, h.IsListIter b D i) ∨ h.objs.size ≤ b) : GZ P w A g L ar st en ars lo0 V it k h' gens := by
  rcases z with ⟨hk, c, h0, hA, aits, U, e1, hF, k1, k2, r⟩ | ⟨hk, gs, D, ys, i, lo, e1, hs, hp, q1, q2, q3⟩
  · have kk : ∀ b o, b ∉ V → h.get? b = some o → h'.get? b = some o := fun b o n e => kp b o (fun hm => (hV hk b hm).elim n fun z => absurd (Heap.lt_size e) (Nat.not_lt.mpr z)) e
    exact .inl ⟨hk, c, h0, hA, aits, U, e1, hF, fun b o u e => ⟨(k1 b o u e).1, kk b o (k1 b o u e).1 (k1 b o u e).2⟩, fun b o e => ⟨(k2 b o e).1, kk b o (k2 b o e).1 (k2 b o e).2⟩, r⟩
  · have tup : ∀ {b its}, lo0 ≤ b → IsTup h b its → b ∉ W := fun {b its} hb ht hm => by
      rcases hS hk b hm with z | ⟨D', i', z⟩ | z
      · exact absurd hb (Nat.not_le.mpr z)
      · exact nt_it z _ ht
      · exact absurd ht.lt (Nat.not_lt.mpr z)
    obtain ⟨⟨m, te, n, e⟩, i1, l1, t1⟩ := hp
    refine .inr ⟨hk, gs, D, ys, i, lo, e1, hs, ⟨⟨m, te, n.at' fun o e => kp _ o hL e, e⟩, i1.at fun o e => kp _ o (hi hk) e, l1.at fun o e => kp _ o (fun hm => ?_) e, fun j v y hj e1 e2 => ?_⟩, q1, q2, q3⟩
    · rcases hS hk D hm with z | ⟨D', i', z⟩ | z
      · exact absurd (Nat.le_trans q1 q3) (Nat.not_le.mpr z)
      · exact notLI z l1
      · exact absurd (let ⟨_, e, _⟩ := l1; Heap.lt_size e) (Nat.not_lt.mpr z)
    · obtain ⟨p, t, tk, its, e, w1, w2, a1, a2, a3⟩ := t1 j v y hj e1 e2
      exact ⟨p, t, tk, its, e, w1, w2, tup_at a1 fun o e => kp p o (tup (Nat.le_trans q1 w1.2) a1) e, tup_at a2 fun o e => kp t o (tup (Nat.le_trans q1 w2.2) a2) e, a3⟩
/-- one trail more -/
theorem draw {E : Value → Shared → Prop} {K : Value → Shared → Prop} {s : Shared} {a : Addr} {x : List Int} (hl : s.heap.NoLimit) (hh : A.handled = none) (hroom : A.in1.depth < recursionLimit) (hg : s.heap.IsGen a g) (h6 : ars.length ≤ 6) (hlo : lo0 ≤ s.heap.objs.size)
    (z : GZ P w A g L ar st en ars lo0 V it k s.heap s.gens) (ht : (trailsM ars st en)[k]? = some x)
    (hK : ∀ v h' tk gs it', ((k = 0 ∧ s.heap.objs.size ≤ it') ∨ (k ≠ 0 ∧ it' = it ∧ ∃ D i, s.heap.IsListIter it D i)) → (∀ b o, b ∉ [L, it'] → s.heap.get? b = some o → h'.get? b = some o) → lo0 ≤ it' → it' < h'.objs.size → TupI lo0 h' v x → gs.bare = true →
      GZ P w A g L ar st en ars lo0 V it' (k + 1) h' (s.gens.setIfInBounds g gs) → K v { s with heap := h', toks := tk, gens := s.gens.setIfInBounds g gs }) :
    wpAny (model P w) A.in1 (Builtin.SmallTypes.nextOf (.ref a)) K E s := by
  have hd : (trailsM ars st en).drop k = x :: (trailsM ars st en).drop (k + 1) := by
    obtain ⟨hlt, e⟩ := List.getElem?_eq_some_iff.mp ht
    rw [List.drop_eq_getElem_cons hlt, e]
  have bare : ∀ {lo L it D en ys f r i gs}, Sleep P w A.in1.in1 lo L it D en ys f r i gs → gs.bare = true := fun ⟨_, _, _, _, _, e, _⟩ => by
    rw [e]
    rfl
  rcases z with ⟨hk, c, h0, hA, aits, U, e1, hF, k1, k2, ha, hp⟩ | ⟨hk, gs, D, ys, i, lo, e1, hs, hp, q1, q2, q3⟩
  · subst hk
    have hgl : g < s.gens.size := (Array.getElem?_eq_some_iff.mp e1).1
    refine nx_fresh_item (L := L) (ar := ar) (A := A.in1) (c := c) (r := (trailsM ars st en).drop 1) hl hh hroom hg e1 hF (fun b o u e => (k1 b o u e).2) (ha.at fun o e => (k2 _ o e).2) (pmono (fun v x i => i.keep fun b o e => (k2 b o e).2) hp) h6 hd fun v h' tk gs' it' D ys i' kk z1 z2 z3 hT hp' hs' => ?_
    refine hK v h' tk gs' it' (.inl ⟨rfl, z1⟩) (fun b o hb e => kk b o (fun q => hb (q ▸ List.mem_cons_self)) e) (Nat.le_trans hlo z1) z2 ?_ (bare hs') (.inr ⟨Nat.succ_ne_zero _, gs', D, ys, i', _, ?_, hs', hp', hlo, z1, z3⟩)
    · obtain ⟨T, its, e, l, r⟩ := hT
      exact ⟨T, its, e, Nat.le_trans hlo l, r⟩
    · simp [hgl]
  · have hgl : g < s.gens.size := (Array.getElem?_eq_some_iff.mp e1).1
    rw [hd] at hs
    have itl : it < s.heap.objs.size := by
      obtain ⟨o, e, _⟩ := hp.iter
      exact Heap.lt_size e
    refine nx_sleep_item (A := A.in1) hl hroom hg e1 hs hp fun v h' tk gs' i' kk hT hp' hs' => ?_
    refine hK v h' tk gs' it (.inr ⟨hk, rfl, _, _, hp.iter⟩) kk (Nat.le_trans q1 q2) ?_ ?_ (bare hs') (.inr ⟨Nat.succ_ne_zero _, gs', D, ys, i', lo, ?_, hs', hp', q1, q2, q3⟩)
    · obtain ⟨o, e, _⟩ := hp'.iter
      exact Heap.lt_size e
    · obtain ⟨T, its, e, l, r⟩ := hT
      exact ⟨T, its, e, Nat.le_trans q1 l, r⟩
    · simp [hgl]
/-- no trail more -/
theorem drawE {E : Value → Shared → Prop} {K : Value → Shared → Prop} {s : Shared} {a : Addr} (hl : s.heap.NoLimit) (hh : A.handled = none) (hroom : A.in1.depth < recursionLimit) (hg : s.heap.IsGen a g) (h6 : ars.length ≤ 6)
    (z : GZ P w A g L ar st en ars lo0 V it k s.heap s.gens) (ht : (trailsM ars st en).length ≤ k)
    (hE : ∀ e h' tk (W : List Addr), (∀ b ∈ W, b = L ∨ (lo0 ≤ b ∧ ∃ D i, s.heap.IsListIter b D i)) → (∀ b o, b ∉ W → s.heap.get? b = some o → h'.get? b = some o) → Stop h' e → E (.ref e) { s with heap := h', toks := tk, gens := s.gens.setIfInBounds g .finished }) :
    wpAny (model P w) A.in1 (Builtin.SmallTypes.nextOf (.ref a)) K E s := by
  have hd : (trailsM ars st en).drop k = [] := List.drop_eq_nil_of_le ht
  rcases z with ⟨hk, c, h0, hA, aits, U, e1, hF, k1, k2, ha, hp⟩ | ⟨hk, gs, D, ys, i, lo, e1, hs, hp, q1, q2, q3⟩
  · subst hk
    refine nx_fresh_stop (L := L) (ar := ar) (A := A.in1) (c := c) hl hh hroom hg e1 hF (fun b o u e => (k1 b o u e).2) (ha.at fun o e => (k2 _ o e).2) (pmono (fun v x i => i.keep fun b o e => (k2 b o e).2) hp) h6 (by simpa using hd) fun e h' tk kk hs => ?_
    exact hE e h' tk [L] (fun b hb => .inl (List.mem_singleton.mp hb)) kk hs
  · rw [hd] at hs
    refine nx_sleep_stop (A := A.in1) hh hl hroom hg e1 hs hp fun e h' tk kk hs => hE e h' tk [L, it] (fun b hb => ?_) kk hs
    rcases List.mem_cons.mp hb with q | hb
    · exact .inl q
    · rw [List.mem_singleton.mp hb]
      exact .inr ⟨Nat.le_trans q1 q2, _, _, hp.iter⟩
end
end TG

namespace TG
open PySem PySem.Spec PyProof.Rows L2

theorem nn {a b : Nat} (h : a < b ∨ b < a) : a ≠ b := fun e => by omega
theorem no1 {b c : Nat} (h : b ∈ [c]) (n : b < c ∨ c < b) : False := by
  have := List.mem_singleton.mp h
  omega
theorem no2 {b c d : Nat} (h : b ∈ [c, d]) (n : b < c ∨ c < b) (m : b < d ∨ d < b) : False := by
  have : b = c ∨ b = d := by simpa using h
  omega
/-- how the cells of a zip over two generators lie -/
structure Lay (L1 p1 L2 p2 TI TO z lo0 : Nat) : Prop where
  c0 : @LT.lt Nat _ cStatics L1
  c1 : L1 < p1
  c2 : p1 < L2
  c3 : L2 < p2
  c4 : p2 < TI
  c5 : TI < TO
  c6 : TO < z
  c7 : z < lo0
structure Cells (g1 g2 p1 p2 TI TO z : Nat) (f0 : Value) (h : Heap) : Prop where
  zp : IsZip h z TI TO f0
  ti : IsPair h TI (.ref p1) (.ref p2)
  to : ∃ x0 y0, IsPair h TO x0 y0 ∧ (∀ i t, x0 ≠ .int i t)
  e1 : h.IsGen p1 g1
  e2 : h.IsGen p2 g2
theorem gen_at {h h' : Heap} {a g : Nat} (x : h.IsGen a g) (e : ∀ o, h.get? a = some o → h'.get? a = some o) : h'.IsGen a g := let ⟨o, nm, qn, ho, r⟩ := x; ⟨o, nm, qn, e _ ho, r⟩
theorem lim_at {h h' : Heap} (x : h.NoLimit) (e : ∀ o, h.get? cStatics = some o → h'.get? cStatics = some o) : h'.NoLimit := let ⟨m, n, q⟩ := x; ⟨m, n.at' fun o y => e o y, q⟩
theorem TupI.at' {lo : Nat} {h h' : Heap} {v : Value} {x : List Int} {W : List Addr} (t : TupI lo h v x) (k : ∀ b o, b ∉ W → h.get? b = some o → h'.get? b = some o) (hW : ∀ b ∈ W, b < lo ∨ (∃ D i, h.IsListIter b D i) ∨ h.objs.size ≤ b) : TupI lo h' v x := by
  obtain ⟨T, its, e, l, a, i⟩ := t
  refine ⟨T, its, e, l, tup_at a fun o e => k T o (fun hm => ?_) e, i⟩
  rcases hW T hm with z | ⟨D, j, z⟩ | z
  · exact absurd l (Nat.not_le.mpr z)
  · exact nt_it z _ a
  · exact absurd a.lt (Nat.not_lt.mpr z)
section
variable {P : Program} {w : World} {A : Around} {g1 g2 L1 L2 p1 p2 TI TO z ar1 ar2 : Nat} {st1 en1 st2 en2 : Int} {as1 as2 : List (Int × Int)} {lo0 : Nat} {it1 it2 k : Nat} {s : Shared} {E : Value → Shared → Prop}
theorem GZ.itlo {g L ar : Nat} {st en : Int} {ars : List (Int × Int)} {V : List Addr} {it k : Nat} {h : Heap} {gens : Array GenState} (z : GZ P w A g L ar st en ars lo0 V it k h gens) (hk : k ≠ 0) : lo0 ≤ it := by
  rcases z with ⟨q, _⟩ | ⟨_, gs, D, ys, i, lo, e1, hs, hp, q1, q2, q3⟩
  · exact absurd q hk
  · exact Nat.le_trans q1 q2
theorem GZ.iter {g L ar : Nat} {st en : Int} {ars : List (Int × Int)} {V : List Addr} {it k : Nat} {h : Heap} {gens : Array GenState} (z : GZ P w A g L ar st en ars lo0 V it k h gens) (hk : k ≠ 0) : ∃ D i, h.IsListIter it D i := by
  rcases z with ⟨q, _⟩ | ⟨_, gs, D, ys, i, lo, e1, hs, hp, q1, q2, q3⟩
  · exact absurd q hk
  · exact ⟨_, _, hp.iter⟩
theorem zip_item {Q : Option Value → Shared → Prop} {x y : List Int} (ly : Lay L1 p1 L2 p2 TI TO z lo0) (gne : g1 ≠ g2) (hl : s.heap.NoLimit) (hh : A.handled = none) (hroom : A.in1.depth < recursionLimit) (hlo : lo0 ≤ s.heap.objs.size) (ab : AllBare s.gens)
    (C : Cells g1 g2 p1 p2 TI TO z .none s.heap) (Z1 : GZ P w A g1 L1 ar1 st1 en1 as1 lo0 [z, TO] it1 k s.heap s.gens) (Z2 : GZ P w A g2 L2 ar2 st2 en2 as2 lo0 [z, TO, L1] it2 k s.heap s.gens) (hne : k ≠ 0 → it1 ≠ it2) (h61 : as1.length ≤ 6) (h62 : as2.length ≤ 6)
    (ht1 : (trailsM as1 st1 en1)[k]? = some x) (ht2 : (trailsM as2 st2 en2)[k]? = some y)
    (hQ : ∀ (v v' : Value) (Tz : Addr) (h8 : Heap) (tk : Nat) (gs : Array GenState) (j1 j2 : Addr) (W : List Addr), (∀ b o, b ∉ W → s.heap.get? b = some o → h8.get? b = some o) → (∀ b ∈ W, (b = L1 ∨ b = L2 ∨ b = z ∨ b = TO) ∨ (lo0 ≤ b ∧ (s.heap.objs.size ≤ b ∨ ∃ D i, s.heap.IsListIter b D i))) →
      Cells g1 g2 p1 p2 TI TO z (rawInt Tz) h8 → IsPair h8 Tz v v' → TupI lo0 h8 v x → TupI lo0 h8 v' y → GZ P w A g1 L1 ar1 st1 en1 as1 lo0 [z, TO] j1 (k + 1) h8 gs → GZ P w A g2 L2 ar2 st2 en2 as2 lo0 [z, TO, L1] j2 (k + 1) h8 gs → j1 ≠ j2 → AllBare gs →
      Q (some (.ref Tz)) { s with heap := h8, toks := tk, gens := gs }) : wpAny (model P w) A (pyNext (.ref z)) Q E s := by
  obtain ⟨c0, c1, c2, c3, c4, c5, c6, c7⟩ := ly
  obtain ⟨hz, hTI, ⟨x0, y0, hTO, _⟩, e1, e2⟩ := C
  have one : ∀ {b c : Nat}, b ∈ [c] → b = c := fun h => List.mem_singleton.mp h
  have two : ∀ {b c d : Nat}, b ∈ [c, d] → b = c ∨ b = d := fun h => by simpa using h
  have keep1 : ∀ {h1 : Heap}, Heap.SameBut z s.heap h1 → ∀ b o, b ∉ [z] → s.heap.get? b = some o → h1.get? b = some o := fun hs b o hb e => hs.extBut b o (fun q => hb (q ▸ List.mem_singleton_self _)) e
  refine zip_step (R1 := fun h1 v h2 gs => ∃ j1, ((k = 0 ∧ h1.objs.size ≤ j1) ∨ (k ≠ 0 ∧ j1 = it1 ∧ ∃ D i, h1.IsListIter j1 D i)) ∧ (∀ b o, b ∉ [L1, j1] → h1.get? b = some o → h2.get? b = some o) ∧ lo0 ≤ j1 ∧ j1 < h2.objs.size ∧ TupI lo0 h2 v x ∧ GZ P w A g1 L1 ar1 st1 en1 as1 lo0 [z, TO] j1 (k + 1) h2 gs ∧ AllBare gs ∧ gs[g2]? = s.gens[g2]?)
    (R2 := fun gs h3 v h4 gs' => ∃ j2, ((k = 0 ∧ h3.objs.size ≤ j2) ∨ (k ≠ 0 ∧ j2 = it2 ∧ ∃ D i, h3.IsListIter j2 D i)) ∧ (∀ b o, b ∉ [L2, j2] → h3.get? b = some o → h4.get? b = some o) ∧ lo0 ≤ j2 ∧ TupI lo0 h4 v y ∧ GZ P w A g2 L2 ar2 st2 en2 as2 lo0 [z, TO, L1] j2 (k + 1) h4 gs' ∧ AllBare gs' ∧ gs'[g1]? = gs[g1]?)
    (nn (by omega)) hz hTI hTO ?_ ?_ ?_ ?_ ?_
  · intro h1 K E' hs hK
    refine draw (s := { s with heap := h1 }) (lim_at hl fun o e => keep1 hs _ o (fun h => no1 h (by omega)) e) hh hroom (gen_at e1 fun o e => keep1 hs _ o (fun h => no1 h (by omega)) e) h61 (by rw [hs.1]; exact hlo)
      (Z1.keep (W := [z]) (keep1 hs) (fun _ b hb => .inl (by rw [one hb]; simp)) (fun h => no1 h (by omega)) (fun hk h => no1 h (by have := Z1.itlo hk; omega)) (fun _ b hb => .inl (by rw [one hb]; exact c7))) ht1 ?_
    intro v h2 tk gs j1 cs kk lj jl hT hb hz'
    exact hK v h2 tk _ ⟨j1, cs.imp id (fun ⟨a, b, c⟩ => ⟨a, b, b ▸ c⟩), kk, lj, jl, hT, hz', bare_set ab hb, by rw [Array.getElem?_setIfInBounds_ne gne]⟩
  · rintro h1 v h2 gs ⟨j1, _, kk, lj, _⟩ b hb o e
    have hb : @Eq Nat b z ∨ @Eq Nat b TO := hb
    exact kk b o (fun h => no2 h (by omega) (by omega)) e
  · rintro h1 v h2 tk gs h3 K E' hs ⟨j1, cs, kk, lj, jl, hT, hz1, hb1, hg2⟩ hs3 hK
    have keep3 : ∀ b o, b ∉ [TO] → h2.get? b = some o → h3.get? b = some o := fun b o hb e => hs3.extBut b o (fun q => hb (q ▸ List.mem_singleton_self _)) e
    have z2 : GZ P w A g2 L2 ar2 st2 en2 as2 lo0 [z, TO, L1] it2 k h3 gs := by
      refine GZ.gens_of (gens' := gs) (gens := s.gens) ?_ hg2
      refine ((Z2.keep (W := [z]) (keep1 hs) (fun _ b hb => .inl (by rw [one hb]; simp)) (fun h => no1 h (by omega)) (fun hk h => no1 h (by have := Z2.itlo hk; omega)) (fun _ b hb => .inl (by rw [one hb]; exact c7))).keep (W := [L1, j1]) kk ?_ ?_ ?_ ?_).keep (W := [TO]) keep3 ?_ ?_ ?_ ?_
      · intro hk b hb
        rcases two hb with q | q
        · exact .inl (by rw [q]; simp)
        · rcases cs with ⟨_, w⟩ | ⟨w, _⟩
          · exact .inr (by rw [q]; exact w)
          · exact absurd hk w
      · exact fun h => no2 h (by omega) (by omega)
      · intro hk h
        have a := Z2.itlo hk
        rcases two h with q | q
        · exact absurd q (nn (by omega))
        · rcases cs with ⟨w, _⟩ | ⟨_, w, _⟩
          · exact hk w
          · exact hne hk (by rw [← w, q])
      · intro hk b hb
        rcases two hb with q | q
        · exact .inl (by rw [q]; show (L1 : Nat) < lo0; omega)
        · rcases cs with ⟨w, _⟩ | ⟨_, w, w2⟩
          · exact absurd w hk
          · exact .inr (.inl (by rw [q]; exact w2))
      · intro hk b hb
        exact .inl (by rw [one hb]; simp)
      · exact fun h => no1 h (by omega)
      · intro hk h
        exact no1 h (by have := Z2.itlo hk; omega)
      · intro hk b hb
        exact .inl (by rw [one hb]; show (TO : Nat) < lo0; omega)
    refine draw (s := { s with heap := h3, toks := tk, gens := gs }) (lim_at hl fun o e => keep3 _ o (fun h => no1 h (by omega)) (kk _ o (fun h => no2 h (by omega) (by omega)) (keep1 hs _ o (fun h => no1 h (by omega)) e))) hh hroom (gen_at e2 fun o e => keep3 _ o (fun h => no1 h (by omega)) (kk _ o (fun h => no2 h (by omega) (by omega)) (keep1 hs _ o (fun h => no1 h (by omega)) e))) h62 (by
      have q : h3.objs.size = h2.objs.size := hs3.1
      show (lo0 : Nat) ≤ h3.objs.size
      omega) z2 ht2 ?_
    intro v' h4 tk' gs' j2 cs2 kk2 lj2 jl2 hT2 hb2 hz2
    exact hK v' h4 tk' _ ⟨j2, cs2.imp id (fun ⟨a, b, c⟩ => ⟨a, b, b ▸ c⟩), kk2, lj2, hT2, hz2, bare_set hb1 hb2, by rw [Array.getElem?_setIfInBounds_ne (Ne.symm gne)]⟩
  · rintro gs h3 v h4 gs' ⟨j2, _, kk, lj, _⟩ b hb o e
    have hb : @Eq Nat b z ∨ @Eq Nat b TO := hb
    exact kk b o (fun h => no2 h (by omega) (by omega)) e
  · rintro h1 v h2 gs h3 v' h4 gs' h8 tk hs ⟨j1, cs, kk, lj, jl, hT, hz1, hb1, hg2⟩ hs3 ⟨j2, cs2, kk2, lj2, hT2, hz2, hb2, hg1⟩ hz8 hTO8 hTz k8
    have keep3 : ∀ b o, b ∉ [TO] → h2.get? b = some o → h3.get? b = some o := fun b o hb e => hs3.extBut b o (fun q => hb (q ▸ List.mem_singleton_self _)) e
    have keep8 : ∀ b o, b ∉ [z, TO] → h4.get? b = some o → h8.get? b = some o := fun b o hb e => k8 b o (fun q => hb (by simp [q])) (fun q => hb (by simp [q])) e
    have all : ∀ b o, b ∉ [z, TO, L1, j1, L2, j2] → s.heap.get? b = some o → h8.get? b = some o := fun b o hb e => by
      simp only [List.mem_cons, List.not_mem_nil, or_false, not_or] at hb
      obtain ⟨n1, n2, n3, n4, n5, n6⟩ := hb
      exact keep8 b o (by simp [n1, n2]) (kk2 b o (by simp [n5, n6]) (keep3 b o (by simp [n2]) (kk b o (by simp [n3, n4]) (keep1 hs b o (by simp [n1]) e))))
    have j2c : (∃ D i, h3.IsListIter j2 D i) ∨ h3.objs.size ≤ j2 := by
      rcases cs2 with ⟨_, w⟩ | ⟨_, _, w⟩
      · exact .inr w
      · exact .inl w
    have jne : j1 ≠ j2 := by
      rcases cs2 with ⟨hk, w⟩ | ⟨hk, w, _⟩
      · have q : h3.objs.size = h2.objs.size := hs3.1
        exact nn (by omega)
      · rcases cs with ⟨w', _⟩ | ⟨_, w', _⟩
        · exact absurd w' hk
        · intro q
          exact hne hk (by rw [← w', ← w, q])
    have oldi : ∀ {h h' : Heap} {j : Nat} {V' : Nat}, V' ≠ j → Heap.SameBut V' h h' → (∃ D i, h'.IsListIter j D i) → ∃ D i, h.IsListIter j D i := fun n hs ⟨D, i, o, e, r⟩ => ⟨D, i, o, (hs.2 _ (Ne.symm n)) ▸ e, r⟩
    have not : ∀ q, q ∉ [z, TO, L1, j1, L2, j2] ↔ (q ≠ z ∧ q ≠ TO ∧ q ≠ L1 ∧ q ≠ j1 ∧ q ≠ L2 ∧ q ≠ j2) := fun q => by simp
    refine hQ v v' h4.objs.size h8 tk gs' j1 j2 [z, TO, L1, j1, L2, j2] all ?_ ⟨hz8, (all _ _ ((not _).mpr ⟨nn (by omega), nn (by omega), nn (by omega), nn (by omega), nn (by omega), nn (by omega)⟩) hTI), ⟨v, v', hTO8, ?_⟩, gen_at e1 fun o e => all _ o ((not _).mpr ⟨nn (by omega), nn (by omega), nn (by omega), nn (by omega), nn (by omega), nn (by omega)⟩) e, gen_at e2 fun o e => all _ o ((not _).mpr ⟨nn (by omega), nn (by omega), nn (by omega), nn (by omega), nn (by omega), nn (by omega)⟩) e⟩ hTz ?_ ?_ ?_ ?_ jne hb2
    · intro b hb
      simp only [List.mem_cons, List.not_mem_nil, or_false] at hb
      rcases hb with q | q | q | q | q | q
      · exact .inl (by simp [q])
      · exact .inl (by simp [q])
      · exact .inl (by simp [q])
      · refine .inr ⟨by rw [q]; exact lj, ?_⟩
        rcases cs with ⟨_, w⟩ | ⟨_, _, w⟩
        · exact .inl (by rw [q, ← hs.1]; exact w)
        · exact .inr (by rw [q]; exact oldi (nn (by omega)) hs w)
      · exact .inl (by simp [q])
      · refine .inr ⟨by rw [q]; exact lj2, ?_⟩
        rw [q]
        rcases cs2 with ⟨hk, w⟩ | ⟨hk, w, _⟩
        · rcases cs with ⟨_, w'⟩ | ⟨w', _⟩
          · have a1 : h3.objs.size = h2.objs.size := hs3.1
            have a2 : h1.objs.size = s.heap.objs.size := hs.1
            exact .inl (by show (s.heap.objs.size : Nat) ≤ j2; omega)
          · exact absurd hk w'
        · rw [w]
          exact .inr (Z2.iter hk)
    · obtain ⟨T, its, rfl, _⟩ := hT
      intro i t q
      cases q
    · refine ((hT.at' (W := [TO]) keep3 fun b hb => .inl (by rw [one hb]; show (TO : Nat) < lo0; omega)).at' (W := [L2, j2]) kk2 fun b hb => ?_).at' (W := [z, TO]) keep8 fun b hb => .inl (by rcases two hb with q | q <;> rw [q] <;> first | (show (z : Nat) < lo0; omega) | (show (TO : Nat) < lo0; omega))
      rcases two hb with q | q
      · exact .inl (by rw [q]; show (L2 : Nat) < lo0; omega)
      · rw [q]
        exact .inr j2c
    · exact hT2.at' (W := [z, TO]) keep8 fun b hb => .inl (by rcases two hb with q | q <;> rw [q] <;> first | (show (z : Nat) < lo0; omega) | (show (TO : Nat) < lo0; omega))
    · refine ((GZ.gens_of (hz1.keep (W := [TO]) keep3 (fun q => absurd q (Nat.succ_ne_zero _)) (fun h => no1 h (by omega)) (fun _ h => no1 h (by omega)) fun _ b hb => .inl (by rw [one hb]; show (TO : Nat) < lo0; omega)) hg1).keep (W := [L2, j2]) kk2 (fun q => absurd q (Nat.succ_ne_zero _)) (fun h => no2 h (by omega) (by omega)) (fun _ h => no2 h (by omega) (by omega)) fun _ b hb => ?_).keep (W := [z, TO]) keep8 (fun q => absurd q (Nat.succ_ne_zero _)) (fun h => no2 h (by omega) (by omega)) (fun _ h => no2 h (by omega) (by omega)) fun _ b hb => .inl (by rcases two hb with q | q <;> rw [q] <;> first | (show (z : Nat) < lo0; omega) | (show (TO : Nat) < lo0; omega))
      rcases two hb with q | q
      · exact .inl (by rw [q]; show (L2 : Nat) < lo0; omega)
      · rw [q]
        exact .inr j2c
    · exact hz2.keep (W := [z, TO]) keep8 (fun q => absurd q (Nat.succ_ne_zero _)) (fun h => no2 h (by omega) (by omega)) (fun _ h => no2 h (by omega) (by omega)) fun _ b hb => .inl (by rcases two hb with q | q <;> rw [q] <;> first | (show (z : Nat) < lo0; omega) | (show (TO : Nat) < lo0; omega))
theorem zip_fin {Q : Option Value → Shared → Prop} (ly : Lay L1 p1 L2 p2 TI TO z lo0) (hl : s.heap.NoLimit) (hh : A.handled = none) (hroom : A.in1.depth < recursionLimit) (ab : AllBare s.gens)
    (C : Cells g1 g2 p1 p2 TI TO z .none s.heap) (Z1 : GZ P w A g1 L1 ar1 st1 en1 as1 lo0 [z, TO] it1 k s.heap s.gens) (h61 : as1.length ≤ 6) (ht1 : (trailsM as1 st1 en1).length ≤ k)
    (hQ : ∀ (h8 : Heap) (tk : Nat) (gs : Array GenState) (W : List Addr), (∀ b o, b ∉ W → s.heap.get? b = some o → h8.get? b = some o) → (∀ b ∈ W, (b = L1 ∨ b = L2 ∨ b = z ∨ b = TO) ∨ (lo0 ≤ b ∧ (s.heap.objs.size ≤ b ∨ ∃ D i, s.heap.IsListIter b D i))) → AllBare gs → Q none { s with heap := h8, toks := tk, gens := gs }) :
    wpAny (model P w) A (pyNext (.ref z)) Q E s := by
  obtain ⟨c0, c1, c2, c3, c4, c5, c6, c7⟩ := ly
  obtain ⟨hz, hTI, ⟨x0, y0, hTO, _⟩, e1, e2⟩ := C
  have keep1 : ∀ {h1 : Heap}, Heap.SameBut z s.heap h1 → ∀ b o, b ∉ [z] → s.heap.get? b = some o → h1.get? b = some o := fun hs b o hb e => hs.extBut b o (fun q => hb (q ▸ List.mem_singleton_self _)) e
  have one : ∀ {b c : Nat}, b ∈ [c] → b = c := fun h => List.mem_singleton.mp h
  refine zip_stop (R1 := fun h1 h2 gs => ∃ W : List Addr, (∀ b ∈ W, b = L1 ∨ (lo0 ≤ b ∧ ∃ D i, h1.IsListIter b D i)) ∧ (∀ b o, b ∉ W → h1.get? b = some o → h2.get? b = some o) ∧ AllBare gs) hz hTI hTO ?_ ?_ ?_
  · intro h1 K E' hs hK
    refine drawE (s := { s with heap := h1 }) (lim_at hl fun o e => keep1 hs _ o (fun h => no1 h (by omega)) e) hh hroom (gen_at e1 fun o e => keep1 hs _ o (fun h => no1 h (by omega)) e) h61
      (Z1.keep (W := [z]) (keep1 hs) (fun _ b hb => .inl (by rw [one hb]; simp)) (fun h => no1 h (by omega)) (fun hk h => no1 h (by have := Z1.itlo hk; omega)) (fun _ b hb => .inl (by rw [one hb]; exact c7))) ht1 ?_
    intro e h2 tk W hW kk st
    exact hK e h2 tk _ ⟨W, hW, kk, bare_set ab rfl⟩ st
  · rintro h1 h2 gs ⟨W, hW, kk, _⟩ o e
    refine kk z o (fun hm => ?_) e
    rcases hW z hm with q | ⟨q, _⟩
    · exact nn (by omega) q
    · exact absurd q (by show ¬ ((lo0 : Nat) ≤ z); omega)
  · rintro h1 h2 gs h3 tk hs ⟨W, hW, kk, hb⟩ hs3
    refine hQ h3 tk gs (z :: W) (fun b o hb e => ?_) (fun b hb => ?_) hb
    · have n1 : b ≠ z := fun q => hb (q ▸ List.mem_cons_self)
      exact hs3.extBut b o n1 (kk b o (fun hm => hb (List.mem_cons_of_mem _ hm)) (hs.extBut b o n1 e))
    · rcases List.mem_cons.mp hb with q | hb
      · exact .inl (by simp [q])
      · rcases hW b hb with q | ⟨q, D, i, o, w, r⟩
        · exact .inl (by simp [q])
        · have n1 : b ≠ z := fun q' => by subst q'; exact absurd q (by show ¬ ((lo0 : Nat) ≤ b); omega)
          exact .inr ⟨q, .inr ⟨D, i, o, (hs.2 _ n1) ▸ w, r⟩⟩
end
end TG

namespace TG
open PySem PySem.Spec PyProof.Rows L2
theorem ints_of : ∀ {its : List Value} {x : List Int}, Vals (x.map V.int) its → IntsAre its x
  | _, [], .nil => .nil
  | _, i :: r, .cons ⟨t, e⟩ q => by
    subst e
    exact .cons i t (ints_of q)
section
variable {X : Cx} {pins : List (Addr × Obj)} {σ : L2.St} {H : Hp} {s : Shared}
theorem inv_gens (I : Inv X pins σ H s) {g : Array GenState} (hg : AllBare g) : Inv X pins σ H { s with gens := g } := ⟨I.ok, I.os, hg, I.base, I.loc, I.cell, I.free, I.freeC, I.pin, I.hok, I.len⟩
/-- a tuple of ints that lies there is tracked from now on -/
theorem track {T : Addr} {its : List Value} {x : List Int} (I : Inv X pins σ H s) (hT : H T = none ∨ H T = some (.tup (x.map V.int))) (hf : ∀ H' : Hp, H' T = none → FpOk X pins H' T) (ht : IsTup s.heap T its.toArray) (hi : IntsAre its x) (hz : x.length ≤ sizeLine) :
    Inv X pins σ (upd H T (.tup (x.map V.int))) s := by
  rcases hT with hT | hT
  · have f := hf H hT
    have ne : ∀ b u, H b = some u → b ≠ T := fun b u e q => by
      rw [q, hT] at e
      cases e
    refine I.step (g' := s.gens) (t' := s.toks) (d' := s.drawn) (h' := s.heap) (ch := [T]) (fun b hb => ?_) (fun b o _ _ _ e _ => e) (fun b o _ _ _ e _ => ⟨o.slots, e⟩) (fun b o hb _ n => ?_) (fun b o _ e => ⟨o, e⟩) (fun b xs e => ?_) (fun b o u e => ?_) (fun b ps e => ⟨#[], ?_⟩) (fun _ n => n) (fun b u e => ?_) I.bare
    · have q : b = T := by simpa using hb
      subst q
      exact ⟨f.2.2.2.1, f.2.1, f.2.2.2.2.1, f.2.2.2.2.2⟩
    · rw [upd_ne fun q => hb (by simp [q])]
      exact n
    · rw [upd_ne (ne b _ e)]
      exact e
    · rw [upd_ne (ne b _ e)]
      exact e
    · rw [upd_ne (ne b _ e), e]
      simp
    · by_cases q : b = T
      · subst q
        rw [upd_same] at e
        cases e
        exact ⟨by rw [List.length_map]; exact hz, its, vals_ints hi, ht⟩
      · rw [upd_ne q] at e
        refine (I.hok b u e).stay (fun c v _ y => y) (fun c y => ?_) fun c xs y => ?_
        · rw [upd_ne (ne c _ y)]
          exact y
        · rw [upd_ne (ne c _ y)]
          exact y
  · have q : upd H T (.tup (x.map V.int)) = H := by
      funext b
      by_cases q : b = T
      · rw [q, upd_same, hT]
      · rw [upd_ne q]
    rw [q]
    exact I
end
section
variable {P : Program} {w : World} {A : Around} {g L ar : Nat} {st en : Int} {ars : List (Int × Int)} {lo0 base0 : Nat} {V : List Addr} {it k : Nat} {h h' : Heap} {gens : Array GenState}
/-- what a body leaves: every new object as it is, or a tuple of the same ints -/
def Left (base0 : Nat) (h h' : Heap) : Prop := ∀ b o, base0 ≤ b → h.get? b = some o → (∀ v, o.data ≠ .cell v) → h'.get? b = some o ∨ ∃ x its its', IsTup h b (List.toArray its) ∧ IntsAre its x ∧ IsTup h' b (List.toArray its') ∧ IntsAre its' x
theorem tup_it {h : Heap} {b : Addr} {u v : Array Value} (x : IsTup h b u) (y : IsTup h b v) : u = v := by
  obtain ⟨o, e, _, n, d⟩ := x
  obtain ⟨o', e', _, n', d'⟩ := y
  rw [e] at e'; cases e'; rw [d] at d'; injection d'
theorem Left.tup (l : Left base0 h h') {T : Addr} {its : List Value} {x : List Int} (hb : base0 ≤ T) (ht : IsTup h T its.toArray) (hi : IntsAre its x) : ∃ its' : List Value, IsTup h' T its'.toArray ∧ IntsAre its' x := by
  obtain ⟨o, e, c, n, d⟩ := id ht
  rcases l T o hb e (fun v q => by rw [d] at q; cases q) with e' | ⟨x', u, u', a1, a2, a3, a4⟩
  · exact ⟨its, ⟨o, e', c, n, d⟩, hi⟩
  · exact ⟨u', a3, (tup_one a1 ht a2 hi) ▸ a4⟩
theorem Left.ns (l : Left base0 h h') {L : Addr} {m : Str → Option Value} (hb : base0 ≤ L) (n : h.Ns L m) : h'.Ns L m := by
  obtain ⟨o, es, ep, e, d, q⟩ := id n
  rcases l L o hb e (fun v z => by rw [d] at z; cases z) with e' | ⟨x', u, u', a1, _⟩
  · exact ⟨o, es, ep, e', d, q⟩
  · exact absurd a1 (nt_ns n _)
theorem Left.iter (l : Left base0 h h') {it D : Addr} {i : Nat} (hb : base0 ≤ it) (n : h.IsListIter it D i) : h'.IsListIter it D i := by
  obtain ⟨o, e, c, d⟩ := id n
  rcases l it o hb e (fun v z => by rw [d] at z; cases z) with e' | ⟨x', u, u', a1, _⟩
  · exact ⟨o, e', c, d⟩
  · exact absurd a1 (nt_it n _)
theorem Left.list (l : Left base0 h h') {D : Addr} {xs : Array Value} (hb : base0 ≤ D) (n : h.IsList D xs) : h'.IsList D xs := by
  obtain ⟨o, e, c, k, d⟩ := id n
  rcases l D o hb e (fun v z => by rw [d] at z; cases z) with e' | ⟨x', u, u', ⟨o2, e2, c2, _⟩, _⟩
  · exact ⟨o, e', c, k, d⟩
  · rw [e] at e2
    cases e2
    rw [c] at c2
    exact absurd c2 (by decide +kernel)
theorem Left.pair (l : Left base0 h h') {T : Addr} {a b : Value} (hb : base0 ≤ T) (na : ∀ i t, a ≠ .int i t) (n : IsPair h T a b) : IsPair h' T a b := by
  rcases l T _ hb n (fun v z => by cases z) with e' | ⟨x', u, u', a1, a2, _⟩
  · exact e'
  · have q := tup_it a1 (⟨_, n, rfl, _, rfl⟩ : IsTup h T #[a, b])
    have q2 : u = [a, b] := by simpa using congrArg Array.toList q
    subst q2
    cases a2 with
    | cons i t _ => exact absurd rfl (na i t)
theorem Left.fields (l : Left base0 h h') {b : Addr} {o : Obj} {vs : Array Value} (hb : base0 ≤ b) (e : h.get? b = some o) (d : o.data = .fields vs) : h'.get? b = some o := by
  rcases l b o hb e (fun v z => by rw [d] at z; cases z) with e' | ⟨x', u, u', ⟨o2, e2, c2, n, d2⟩, _⟩
  · exact e'
  · rw [e] at e2
    cases e2
    rw [d] at d2
    cases d2
theorem GZ.left (z : GZ P w A g L ar st en ars lo0 V it (k + 1) h gens) (l : Left base0 h h') (hb : base0 ≤ lo0) (hL : base0 ≤ L) : GZ P w A g L ar st en ars lo0 V it (k + 1) h' gens := by
  rcases z with ⟨hk, _⟩ | ⟨hk, gs, D, ys, i, lo, e1, hs, hp, q1, q2, q3⟩
  · cases hk
  · obtain ⟨⟨m, te, n, e⟩, i1, l1, t1⟩ := hp
    have bl := Nat.le_trans hb q1
    refine .inr ⟨hk, gs, D, ys, i, lo, e1, hs, ⟨⟨m, te, l.ns hL n, e⟩, l.iter (Nat.le_trans bl q2) i1, l.list (Nat.le_trans bl q3) l1, fun j v y hj e1 e2 => ?_⟩, q1, q2, q3⟩
    obtain ⟨p, t, tk, its, e, w1, w2, a1, a2, a3⟩ := t1 j v y hj e1 e2
    obtain ⟨its', b2, b3⟩ := l.tup (Nat.le_trans bl w2.2) a2 a3
    obtain ⟨o, eo, co, no, d⟩ := id a1
    rcases l p o (Nat.le_trans bl w1.2) eo (fun v q => by rw [d] at q; cases q) with e' | ⟨x', u, u', c1, c2, _⟩
    · exact ⟨p, t, tk, its', e, w1, w2, ⟨o, e', co, no, d⟩, b2, b3⟩
    · have q2 : u = [Value.ref t, .int y.2 tk] := by simpa using congrArg Array.toList (tup_it c1 a1)
      subst q2
      cases c2
theorem Cells.left {g1 g2 p1 p2 TI TO z : Nat} (c : Cells g1 g2 p1 p2 TI TO z .none h) (l : Left base0 h h') (b1 : base0 ≤ p1) (b2 : base0 ≤ p2) (b3 : base0 ≤ TI) (b4 : base0 ≤ TO) (b5 : base0 ≤ z) : Cells g1 g2 p1 p2 TI TO z .none h' := by
  obtain ⟨hz, hTI, ⟨x0, y0, hTO, hx⟩, ⟨o1, n1, m1, e1, r1⟩, ⟨o2, n2, m2, e2, r2⟩⟩ := c
  exact ⟨l.fields b5 hz rfl, l.pair b3 (fun i t q => by cases q) hTI, ⟨x0, y0, l.pair b4 hx hTO, hx⟩, ⟨o1, n1, m1, l.fields b1 e1 r1.2.1, r1⟩, ⟨o2, n2, m2, l.fields b2 e2 r2.2.1, r2⟩⟩
end
section
variable {X : Cx}
/-- trails(x, y, z), three names -/
theorem run_names {x : Str} {f : Addr} {p pos q1 q2 q3 : Pos} {y1 y2 y3 : Str} {i1 i2 i3 : Nat} {pins : List (Addr × Obj)} {σ : L2.St} {H : Hp} {s : Shared} {Q : Value → Shared → Prop} (T : TDef X.K X.mg x f) (hr : X.A.depth < recursionLimit) (hg : Gl X x) (I : Inv X pins σ H s)
    (n1 : X.N[i1]? = some y1) (v1 : Vis X.env.scope y1) (n2 : X.N[i2]? = some y2) (v2 : Vis X.env.scope y2) (n3 : X.N[i3]? = some y3) (v3 : Vis X.env.scope y3)
    {ar : Addr} {st en : Int} {its : List V} {ars : List (Int × Int)} (e1 : σ[i1]? = some (some (.ref ar))) (e2 : σ[i2]? = some (some (.int st))) (e3 : σ[i3]? = some (some (.int en))) (hS : SqL X.K H ar its) (hA : Arrs X.K H its ars)
    (hQ : ∀ u us s', s.heap.IsList ar us.toArray → Paired (Arr s.heap) us ars → TMade X.prog X.w X.base ar st en s u s' → Q u s')
    (hdb : (x == ("__debug__" : Str)) = false := by decide) (hy1 : (y1 == ("__debug__" : Str)) = false := by decide) (hy2 : (y2 == ("__debug__" : Str)) = false := by decide) (hy3 : (y3 == ("__debug__" : Str)) = false := by decide)
    (hc1 : (y1 == ("__classdict__" : Str)) = false := by decide) (hc2 : (y2 == ("__classdict__" : Str)) = false := by decide) (hc3 : (y3 == ("__classdict__" : Str)) = false := by decide) :
    wpAny (model X.prog X.w) X.A (eval (.Call (.Name x p) [.Name y1 q1, .Name y2 q2, .Name y3 q3] [] pos) X.env) Q X.xe s := by
  have nm : ∀ {y : Str} {i : Nat} {v : V} {q : Pos} {R : Value → Shared → Prop}, X.N[i]? = some y → Vis X.env.scope y → σ[i]? = some (some v) → (y == ("__debug__" : Str)) = false → (y == ("__classdict__" : Str)) = false → (∀ u, RelV v u → R u s) → wpAny (model X.prog X.w) X.A (eval (.Name y q) X.env) R X.xe s := by
    intro y i v q R hN hv e hd hcd hR
    obtain ⟨m, n, l⟩ := I.loc
    obtain ⟨u, r, lk⟩ := l i y v hN e hv
    rcases lk with ⟨k, hm⟩ | ⟨k | k, c, hc, hl⟩
    · exact wpAny_Name (wpAny_loadName_local I.ok.kind k n hm (hR u r)) hd
    · exact wpAny_Name (wpAny_loadName_cell I.ok.kind k hc hl (hR u r)) hd
    · exact wpAny_Name (wpAny_loadName_free I.ok.kind k hc hl (hR u r) hcd) hd
  refine wpAny_Call_Name_kw (ld_glob I hg T.mgx ?_ hdb)
  refine PySem.W.callWith_K (h₀ := X.base) I.ok.mod.kin T.kp ?_ (show starEach [Expr.Name y1 q1, .Name y2 q2, .Name y3 q3] X.env = (false, eval (.Name y1 q1) X.env) :: starEach [.Name y2 q2, .Name y3 q3] X.env from rfl) rfl
  show wpAny _ _ (spliced ((false, eval (.Name y1 q1) X.env) :: backTo pos (starEach [.Name y2 q2, .Name y3 q3] X.env))) _ _ s
  refine Calls.spliced_cons (nm n1 v1 e1 hy1 hc1 fun u1 r1 => ?_)
  show wpAny _ _ (spliced (backTo pos ((false, eval (.Name y2 q2) X.env) :: starEach [.Name y3 q3] X.env))) _ _ s
  refine Calls.spliced_cons (nm n2 v2 e2 hy2 hc2 fun u2 r2 => ?_)
  show wpAny _ _ (spliced (backTo pos ((false, eval (.Name y3 q3) X.env) :: []))) _ _ s
  refine Calls.spliced_cons (nm n3 v3 e3 hy3 hc3 fun u3 r3 => ?_)
  refine Calls.spliced_nil ⟨I.kIn, ?_⟩
  cases r1
  obtain ⟨t2, rfl⟩ := r2
  obtain ⟨t3, rfl⟩ := r3
  obtain ⟨ws, rv, pl, _⟩ := I.list hS
  obtain ⟨name, qual, params, body, scope, dV, kV, doc, pm, cdv, ct, oc, an, od, osl, lk, hcd, S, B, hbd⟩ := T.ex
  refine wpAny_call (codeAny_mono (made_ok lk hcd S B T.en hr I.env0 (.of_eq (hbd _ _ _))) fun r s' hq => ?_)
  obtain ⟨u, rfl, hm⟩ := hq
  exact hQ u ws s' pl.isList (arrs_heap I hA rv) hm
end
end TG

namespace TG
open PySem PySem.Spec PyProof.Rows L2
section
variable {X : Cx} {pins : List (Addr × Obj)} {σ : L2.St} {H : Hp} {s : Shared}
theorem track2 {T : Addr} {its : List Value} {x : List Int} (I : Inv X pins σ H s) (hT : H T = none ∨ ∃ x' : List Int, H T = some (.tup (x'.map V.int))) (hf : ∀ H' : Hp, H' T = none → FpOk X pins H' T) (ht : IsTup s.heap T its.toArray) (hi : IntsAre its x) (hz : x.length ≤ sizeLine) :
    Inv X pins σ (upd H T (.tup (x.map V.int))) s ∧ Same H (upd H T (.tup (x.map V.int))) := by
  have hT' : H T = none ∨ H T = some (.tup (x.map V.int)) := by
    rcases hT with q | ⟨x', q⟩
    · exact .inl q
    · obtain ⟨_, us, r, t⟩ := I.hok T _ q
      exact .inr (tup_one t ht (ints_of r) hi ▸ q)
  refine ⟨track I hT' hf ht hi hz, fun b o e => ?_⟩
  by_cases q : b = T
  · subst q
    rw [upd_same]
    rcases hT' with z | z
    · rw [z] at e
      cases e
    · rw [z] at e
      exact e
  · rw [upd_ne q]
    exact e
theorem spliced2 {M : Model} {A : Around} {E : Value → Shared → Prop} {s : Shared} {env : Env} {pos : Pos} {a b : Expr} {Q : List Value → Shared → Prop} (he : starEach [a, b] env = [(false, eval a env), (false, eval b env)])
    (h : wpAny M A (eval a env) (fun u s1 => wpAny M A (eval b env) (fun v s2 => Q [u, v] s2) E s1) E s) : wpAny M A (spliced (backTo pos (starEach [a, b] env))) Q E s := by
  rw [he]
  refine Calls.spliced_cons (thn h fun u s1 h1 => ?_)
  refine Calls.spliced_cons (thn h1 fun v s2 h2 => ?_)
  exact Calls.spliced_nil h2
end
section
variable {X : Cx}
/-- for a, b in zip(trails(x, u, v), trails(y, v, u)) -/
def tForZ (K : PySem.W.Frag) (ia ib ku kv j1 j2 : Nat) (tb : TS) : TS := fun D σ H => ∃ (ar1 ar2 : Addr) (st en : Int) (l1 l2 : List V) (as1 as2 : List (Int × Int)),
  (σ[ia]? = some (some (.ref ar1)) ∧ σ[ib]? = some (some (.ref ar2)) ∧ σ[ku]? = some (some (.int st)) ∧ σ[kv]? = some (some (.int en))) ∧ (SqL K H ar1 l1 ∧ Arrs K H l1 as1 ∧ SqL K H ar2 l2 ∧ Arrs K H l2 as2) ∧ (as1.length ≤ 6 ∧ as2.length ≤ 6 ∧ (trailsM as1 st en).length = (trailsM as2 en st).length) ∧
  ∃ W : Nat → L2.St → Hp → Prop, W 0 σ H ∧ (∀ σ H, W (trailsM as1 st en).length σ H → D.nx σ H) ∧
  ∀ k x y σ H, (trailsM as1 st en)[k]? = some x → (trailsM as2 en st)[k]? = some y → W k σ H → ∀ (T T' : Addr) (H' : Hp), Same H H' → H' T = some (.tup (x.map V.int)) → H' T' = some (.tup (y.map V.int)) →
    tb { nx := fun σ2 H2 => H2 = H' ∧ W (k + 1) σ2 H2, rt := D.rt } ((σ.set j1 (some (.ref T))).set j2 (some (.ref T'))) H'
theorem ps_forZ {x y1 y2 u1 u2 t1 t2 : Str} {f : Addr} {ia ib ku kv j1 j2 : Nat} {pz p1 p2 po1 po2 q1 q2 q3 r1 r2 r3 m1 m2 tp ps pos : Pos} {kk : Nat} {body : List Stmt} {tb : TS} (hp : PassesOwn (model X.prog X.w) X.A X.env X.xe) (hc : X.calm = true) (T : TDef X.K X.mg x f) (hr : Room 3 X.A) (hg : Gl X x) (hgz : Gl X "zip") (hmz : X.mg "zip" = none)
    (hN : X.N.Nodup) (n1 : X.N[ia]? = some y1) (n2 : X.N[ib]? = some y2) (n3 : X.N[ku]? = some u1) (n4 : X.N[kv]? = some u2) (n5 : X.N[j1]? = some t1) (n6 : X.N[j2]? = some t2)
    (v1 : Vis X.env.scope y1) (v2 : Vis X.env.scope y2) (v3 : Vis X.env.scope u1) (v4 : Vis X.env.scope u2) (v5 : X.env.scope.names.lookup t1 = some .local) (v6 : X.env.scope.names.lookup t2 = some .local) (hb : PSsg X body tb)
    (d0 : (x == ("__debug__" : Str)) = false := by decide) (d1 : (y1 == ("__debug__" : Str)) = false := by decide) (d2 : (y2 == ("__debug__" : Str)) = false := by decide) (d3 : (u1 == ("__debug__" : Str)) = false := by decide) (d4 : (u2 == ("__debug__" : Str)) = false := by decide)
    (c1 : (y1 == ("__classdict__" : Str)) = false := by decide) (c2 : (y2 == ("__classdict__" : Str)) = false := by decide) (c3 : (u1 == ("__classdict__" : Str)) = false := by decide) (c4 : (u2 == ("__classdict__" : Str)) = false := by decide)
    (he : starEach [.Call (.Name x p1) [.Name y1 q1, .Name u1 q2, .Name u2 q3] [] po1, .Call (.Name x p2) [.Name y2 r1, .Name u2 r2, .Name u1 r3] [] po2] X.env = [(false, eval (.Call (.Name x p1) [.Name y1 q1, .Name u1 q2, .Name u2 q3] [] po1) X.env), (false, eval (.Call (.Name x p2) [.Name y2 r1, .Name u2 r2, .Name u1 r3] [] po2) X.env)] := by rfl)
    (hs : ∀ v, foldedSetIterable (.Call (.Name "zip" pz) [.Call (.Name x p1) [.Name y1 q1, .Name u1 q2, .Name u2 q3] [] po1, .Call (.Name x p2) [.Name y2 r1, .Name u2 r2, .Name u1 r3] [] po2] [] pos) X.env v = pure v := by intro _; rfl) :
    PS X (.For (.Tuple [.Name t1 m1, .Name t2 m2] kk tp) (.Call (.Name "zip" pz) [.Call (.Name x p1) [.Name y1 q1, .Name u1 q2, .Name u2 q3] [] po1, .Call (.Name x p2) [.Name y2 r1, .Name u2 r2, .Name u1 r3] [] po2] [] pos) body [] ps) (tForZ X.K ia ib ku kv j1 j2 tb) := by
  have hd1 : X.A.depth < recursionLimit := Nat.lt_of_le_of_lt (Nat.le_add_right _ _) (Nat.lt_of_le_of_lt (Nat.le_add_right _ _) hr.dp)
  refine ⟨fun pins s σ H D I hq => ?_⟩
  obtain ⟨ar1, ar2, st, en, l1, l2, as1, as2, ⟨s1, s2, s3, s4⟩, ⟨a1, b1, a2, b2⟩, ⟨h61, h62, hlen⟩, W, w0, wd, step⟩ := hq
  refine wpAny_For ?_ hs
  refine wpAny_Call_Name_kw (ld_blt I hgz hmz boot_zip ?_)
  refine PyProof.Rows.callWith_type1 ?_ he rfl
  refine spliced2 he (run_names T hd1 hg I n1 v1 n3 v3 n4 v4 s1 s3 s4 a1 b1 (fun g u1s sA hls1 ha1 M1 => ?_) d0 d1 d3 d4 c1 c3 c4)
  obtain ⟨e1, L1, cd1, hA, tkA, rfl, rfl, kpA, hL1, hLe1, hns1, hgn1, hF1⟩ := M1
  have IA : Inv X pins σ H { s with heap := hA, toks := tkA, gens := s.gens.push (.fresh cd1) } := grow I rfl kpA (AllBare.push I.bare rfl) (fun _ _ => rfl) fun b u hb e => absurd (I.hok.lt e) (Nat.not_lt.mpr hb)
  refine run_names T hd1 hg IA n2 v2 n4 v4 n3 v3 s2 s4 s3 a2 b2 (fun g' u2s sB hls2 ha2 M2 => ?_) d0 d2 d4 d3 c2 c4 c3
  obtain ⟨e2, L2, cd2, hB, tkB, rfl, rfl, kpB, hL2, hLe2, hns2, hgn2, hF2⟩ := M2
  obtain ⟨ws2, rv2, pl2, _⟩ := I.list a2
  have har2 := arrs_heap I b2 rv2
  refine call_zipG (hgn1.keeps kpB) hgn2 fun hC hz hTI hTO kpC => ?_
  refine wpAny_pyIter_zip hz ?_
  have cs0 : @LT.lt Nat _ cStatics s.heap.objs.size := let ⟨_, hn, _⟩ := I.nolimit; hn.lt
  have le1 : @LT.lt Nat _ e1 hA.objs.size := let ⟨_, _, _, e, _⟩ := hgn1; Heap.lt_size e
  have le2 : @LT.lt Nat _ e2 hB.objs.size := let ⟨_, _, _, e, _⟩ := hgn2; Heap.lt_size e
  have hL1' : @LE.le Nat _ s.heap.objs.size L1 := hL1
  have hL2' : @LE.le Nat _ hA.objs.size L2 := hL2
  have hLe1' : @LT.lt Nat _ L1 e1 := hLe1
  have hLe2' : @LT.lt Nat _ L2 e2 := hLe2
  have ly : Lay L1 e1 L2 e2 hB.objs.size (hB.objs.size + 1) (hB.objs.size + 2) (hB.objs.size + 3) := ⟨by omega, hLe1, by omega, hLe2, le2, by omega, by omega, by omega⟩
  have loc0 : @LT.lt Nat _ X.env.locals s.heap.objs.size := I.lt
  have gne : s.gens.size ≠ (s.gens.push (GenState.fresh cd1)).size := by simp
  have sfp : ∀ (H' : Hp) (b : Nat), s.heap.objs.size ≤ b → H' b = none → FpOk X pins H' b := fun H' b hb hn => I.fpOk hb hn
  refine codeAny_forLoop_any (fun n s' => ∃ k σ' H' it1 it2, n + k = (trailsM as1 st en).length ∧ Inv X pins σ' H' s' ∧ (∀ b : Nat, s.heap.objs.size ≤ b → (b < hB.objs.size + 3 → H' b = none) ∧ (H' b = none ∨ ∃ x : List Int, H' b = some (.tup (x.map V.int)))) ∧
    Cells s.gens.size (s.gens.push (GenState.fresh cd1)).size e1 e2 hB.objs.size (hB.objs.size + 1) (hB.objs.size + 2) .none s'.heap ∧ GZ X.prog X.w X.A s.gens.size L1 ar1 st en as1 (hB.objs.size + 3) [hB.objs.size + 2, hB.objs.size + 1] it1 k s'.heap s'.gens ∧
    GZ X.prog X.w X.A (s.gens.push (GenState.fresh cd1)).size L2 ar2 en st as2 (hB.objs.size + 3) [hB.objs.size + 2, hB.objs.size + 1, L1] it2 k s'.heap s'.gens ∧ (k ≠ 0 → it1 ≠ it2) ∧ W k σ' H') ?_ (trailsM as1 st en).length ?_
  · rintro n sC ⟨k, σ3, H3, it1, it2, hnk, I3, J, C3, Z1, Z2, hne, w3⟩
    have hloS : hB.objs.size + 3 ≤ sC.heap.objs.size := Heap.lt_size C3.zp
    have fpW : ∀ (Wl : List Addr), (∀ b ∈ Wl, (b = L1 ∨ b = L2 ∨ b = hB.objs.size + 2 ∨ b = hB.objs.size + 1) ∨ (hB.objs.size + 3 ≤ b ∧ (sC.heap.objs.size ≤ b ∨ ∃ D i, sC.heap.IsListIter b D i))) → ∀ b ∈ Wl, FpOk X pins H3 b := by
      intro Wl hW b hb
      rcases hW b hb with q | ⟨q1, q2⟩
      · have q' : @Eq Nat b L1 ∨ @Eq Nat b L2 ∨ @Eq Nat b (hB.objs.size + 2) ∨ @Eq Nat b (hB.objs.size + 1) := q
        exact sfp H3 b (by omega) ((J b (by omega)).1 (by omega))
      · have q1' : @LE.le Nat _ (hB.objs.size + 3) b := q1
        refine sfp H3 b (by omega) ?_
        rcases q2 with q2 | ⟨D', i', q2⟩
        · exact I3.hok.fresh q2
        · rcases (J b (by omega)).2 with q | ⟨x', q⟩
          · exact q
          · obtain ⟨_, us, r, t⟩ := I3.hok b _ q
            exact absurd t (nt_it q2 _)
    by_cases hk : k < (trailsM as1 st en).length
    · have ht1 : (trailsM as1 st en)[k]? = some (trailsM as1 st en)[k] := List.getElem?_eq_getElem hk
      have ht2 : (trailsM as2 en st)[k]? = some ((trailsM as2 en st)[k]'(by omega)) := List.getElem?_eq_getElem (by omega)
      generalize (trailsM as1 st en)[k] = xx at ht1
      generalize (trailsM as2 en st)[k]'(by omega) = yy at ht2
      refine wpAny_passesOwn hp (zip_item ly gne I3.nolimit (I3.ok.hd hc) hd1 hloS I3.bare C3 Z1 Z2 hne h61 h62 ht1 ht2 fun v v' Tz h8 tk gs i1 i2 Wl kW hW C8 hTz hv hv' G1 G2 ine hbs => ?_)
      have I8 : Inv X pins σ3 H3 { sC with heap := h8, toks := tk, gens := gs } := inv_gens (I3.turnedL (t' := tk) (ch := Wl) kW (fpW Wl hW)) hbs
      refine wpAny_passesOwn hp (wpAny_letOwnedTupleGo_zip (s := { sC with heap := h8, toks := tk, gens := gs }) C8.zp fun h9 hz9 hs9 => ?_)
      have hs9 : Heap.SameBut (hB.objs.size + 2) h8 h9 := hs9
      have k9 : ∀ b o, b ∉ [hB.objs.size + 2] → h8.get? b = some o → h9.get? b = some o := fun b o hb e => hs9.extBut b o (fun q => hb (q ▸ List.mem_singleton_self _)) e
      have I9 : Inv X pins σ3 H3 { sC with heap := h9, toks := tk, gens := gs } := I8.turnedL (t' := tk) (ch := [hB.objs.size + 2]) k9 fun b hb => sfp H3 b (by rw [List.mem_singleton.mp hb]; show (s.heap.objs.size : Nat) ≤ hB.objs.size + 2; omega) ((J b (by rw [List.mem_singleton.mp hb]; show (s.heap.objs.size : Nat) ≤ hB.objs.size + 2; omega)).1 (by rw [List.mem_singleton.mp hb]; show (hB.objs.size + 2 : Nat) < hB.objs.size + 3; omega))
      have one : ∀ {b c : Nat}, b ∈ [c] → b = c := fun h => List.mem_singleton.mp h
      obtain ⟨T1, its1, rfl, lT1, tT1, iT1⟩ := hv.at' (W := [hB.objs.size + 2]) k9 fun b hb => .inl (by rw [one hb]; show (hB.objs.size + 2 : Nat) < hB.objs.size + 3; omega)
      obtain ⟨T2, its2, rfl, lT2, tT2, iT2⟩ := hv'.at' (W := [hB.objs.size + 2]) k9 fun b hb => .inl (by rw [one hb]; show (hB.objs.size + 2 : Nat) < hB.objs.size + 3; omega)
      have lT1' : @LE.le Nat _ (hB.objs.size + 3) T1 := lT1
      have lT2' : @LE.le Nat _ (hB.objs.size + 3) T2 := lT2
      have zx : xx.length ≤ sizeLine := by
        rw [trails_len (List.mem_of_getElem? ht1)]
        exact Nat.le_trans h61 (by decide)
      have zy : yy.length ≤ sizeLine := by
        rw [trails_len (List.mem_of_getElem? ht2)]
        exact Nat.le_trans h62 (by decide)
      obtain ⟨I10, S10⟩ := track2 (x := xx) I9 (J T1 (by omega)).2 (fun H' hn => sfp H' T1 (by omega) hn) tT1 iT1 zx
      have J10 : ∀ b : Nat, s.heap.objs.size ≤ b → (b < hB.objs.size + 3 → upd H3 T1 (.tup (xx.map V.int)) b = none) ∧ (upd H3 T1 (.tup (xx.map V.int)) b = none ∨ ∃ x : List Int, upd H3 T1 (.tup (xx.map V.int)) b = some (.tup (x.map V.int))) := by
        intro b hb
        by_cases q : b = T1
        · subst q
          rw [upd_same]
          exact ⟨fun z => absurd lT1' (by omega), .inr ⟨_, rfl⟩⟩
        · rw [upd_ne q]
          exact J b hb
      obtain ⟨I11, S11⟩ := track2 (x := yy) I10 (J10 T2 (by omega)).2 (fun H' hn => sfp H' T2 (by omega) hn) tT2 iT2 zy
      have J11 : ∀ b : Nat, s.heap.objs.size ≤ b → (b < hB.objs.size + 3 → upd (upd H3 T1 (.tup (xx.map V.int))) T2 (.tup (yy.map V.int)) b = none) ∧ (upd (upd H3 T1 (.tup (xx.map V.int))) T2 (.tup (yy.map V.int)) b = none ∨ ∃ x : List Int, upd (upd H3 T1 (.tup (xx.map V.int))) T2 (.tup (yy.map V.int)) b = some (.tup (x.map V.int))) := by
        intro b hb
        by_cases q : b = T2
        · subst q
          rw [upd_same]
          exact ⟨fun z => absurd lT2' (by omega), .inr ⟨_, rfl⟩⟩
        · rw [upd_ne q]
          exact J10 b hb
      have eT2 : upd (upd H3 T1 (.tup (xx.map V.int))) T2 (.tup (yy.map V.int)) T2 = some (.tup (yy.map V.int)) := upd_same
      have eT1 : upd (upd H3 T1 (.tup (xx.map V.int))) T2 (.tup (yy.map V.int)) T1 = some (.tup (xx.map V.int)) := S11 T1 _ upd_same
      have S2 : Same H3 (upd (upd H3 T1 (.tup (xx.map V.int))) T2 (.tup (yy.map V.int))) := fun b o e => S11 b o (S10 b o e)
      generalize upd (upd H3 T1 (.tup (xx.map V.int))) T2 (.tup (yy.map V.int)) = H4 at I11 J11 eT1 eT2 S2
      have nzT : Tz ≠ hB.objs.size + 2 := fun q => by
        have e : h8.get? (hB.objs.size + 2) = _ := C8.zp
        have e' : h8.get? Tz = _ := hTz
        rw [q, e] at e'
        exact absurd (show Value.type "zip" = .type "tuple" from congrArg Obj.cls (Option.some.inj e')) (by decide +kernel)
      have hTz9 : IsTup h9 Tz #[.ref T1, .ref T2] := ⟨_, k9 _ _ (fun h => nzT (List.mem_singleton.mp h)) hTz, rfl, _, rfl⟩
      refine wpAny_passesOwn hp (assign_Tuple_tuple (s := { sC with heap := h9, toks := tk, gens := gs }) (I3.ok.hd hc) hTz9 (by rfl) (by rfl) fun h10 hx => ?_)
      have hx : Heap.ExtBut h9.objs.size h9 h10 := hx
      have k10 : ∀ b o, h9.get? b = some o → h10.get? b = some o := fun b o e => hx b o (Nat.ne_of_lt (Heap.lt_size e)) e
      have I12 : Inv X pins σ3 H4 { sC with heap := h10, toks := tk, gens := gs } := I11.kept (t' := tk) k10
      show wpAny _ _ (assignInOrder [assign (.Name t1 m1) X.env, assign (.Name t2 m2) X.env] [Value.ref T1, .ref T2]) _ _ _
      refine assignInOrder_cons (wpAny_assign_Name (gstore I12 hN n5 v5 (show RelV (.ref T1) (.ref T1) from rfl) fun h11 tk11 sb11 I13 => ?_))
      refine assignInOrder_cons (wpAny_assign_Name (gstore I13 hN n6 v6 (show RelV (.ref T2) (.ref T2) from rfl) fun h12 tk12 sb12 I14 => assignInOrder_nil ?_))
      have sb11 : Heap.SameBut X.env.locals h10 h11 := sb11
      have sb12 : Heap.SameBut X.env.locals h11 h12 := sb12
      have k12 : ∀ b o, b ∉ [X.env.locals] → h9.get? b = some o → h12.get? b = some o := fun b o hb e => by
        have n : b ≠ X.env.locals := fun q => hb (q ▸ List.mem_singleton_self _)
        exact sb12.extBut b o n (sb11.extBut b o n (k10 b o e))
      have nl : ∀ {b : Nat}, s.heap.objs.size ≤ b → b ∉ [X.env.locals] := fun hb h => no1 h (by omega)
      have C12 : Cells s.gens.size (s.gens.push (GenState.fresh cd1)).size e1 e2 hB.objs.size (hB.objs.size + 1) (hB.objs.size + 2) .none h12 := by
        obtain ⟨_, y2, ⟨x0, y0, y3, y4⟩, y5, y6⟩ := C8
        have nz : ∀ {b : Nat}, b < hB.objs.size + 2 → b ∉ [hB.objs.size + 2] := fun hb h => no1 h (by omega)
        exact ⟨k12 _ _ (nl (by omega)) hz9, k12 _ _ (nl (by omega)) (k9 _ _ (nz (by omega)) y2), ⟨x0, y0, k12 _ _ (nl (by omega)) (k9 _ _ (nz (by omega)) y3), y4⟩, gen_at y5 fun o e => k12 _ o (nl (by omega)) (k9 _ o (nz (by omega)) e), gen_at y6 fun o e => k12 _ o (nl (by omega)) (k9 _ o (nz (by omega)) e)⟩
      have G1' := (G1.keep (W := [hB.objs.size + 2]) k9 (fun q => absurd q (Nat.succ_ne_zero _)) (fun h => no1 h (by omega)) (fun hk h => no1 h (by have := G1.itlo hk; omega)) fun _ b hb => .inl (by rw [one hb]; show (hB.objs.size + 2 : Nat) < hB.objs.size + 3; omega)).keep (W := [X.env.locals]) k12 (fun q => absurd q (Nat.succ_ne_zero _)) (nl hL1') (fun hk h => no1 h (by have := G1.itlo hk; omega)) fun _ b hb => .inl (by rw [one hb]; show @LT.lt Nat _ X.env.locals (hB.objs.size + 3); omega)
      have G2' := (G2.keep (W := [hB.objs.size + 2]) k9 (fun q => absurd q (Nat.succ_ne_zero _)) (fun h => no1 h (by omega)) (fun hk h => no1 h (by have := G2.itlo hk; omega)) fun _ b hb => .inl (by rw [one hb]; show (hB.objs.size + 2 : Nat) < hB.objs.size + 3; omega)).keep (W := [X.env.locals]) k12 (fun q => absurd q (Nat.succ_ne_zero _)) (nl (by omega)) (fun hk h => no1 h (by have := G2.itlo hk; omega)) fun _ b hb => .inl (by rw [one hb]; show @LT.lt Nat _ X.env.locals (hB.objs.size + 3); omega)
      have fpx : ∃ fp : List Addr, (∀ b ∈ fp, FpOk X pins H4 b) ∧ (∀ b ∈ fp, ∃ o, h12.get? b = some o ∧ ∀ v, o.data ≠ .cell v) ∧ ∀ b o, s.heap.objs.size ≤ b → H4 b = none → h12.get? b = some o → (∀ v, o.data ≠ .cell v) → b ∈ fp := by
        classical
        refine ⟨(List.range h12.objs.size).filter fun b => decide (s.heap.objs.size ≤ b ∧ H4 b = none ∧ ∃ o, h12.get? b = some o ∧ ∀ v, o.data ≠ .cell v), fun b hb => ?_, fun b hb => ?_, fun b o q1 q2 q3 q4 => ?_⟩
        · have q := of_decide_eq_true (List.mem_filter.mp hb).2
          exact sfp H4 b q.1 q.2.1
        · exact (of_decide_eq_true (List.mem_filter.mp hb).2).2.2
        · exact List.mem_filter.mpr ⟨List.mem_range.mpr (Heap.lt_size q3), decide_eq_true ⟨q1, q2, o, q3, q4⟩⟩
      obtain ⟨fp, fp1, fp2, fp3⟩ := fpx
      have I15 := I14.pinned (fp := fp) fp1 fp2
      refine wpAny_passesOwn hp (thn (hb.run _ _ _ _ _ I15 (step k xx yy σ3 H3 ht1 ht2 w3 T1 T2 H4 S2 eT1 eT2)) fun fl s7 ⟨g7, q7⟩ => ?_)
      cases fl with
      | next =>
        obtain ⟨σ7, H7, I7, rfl, w7⟩ := q7
        have lf : Left s.heap.objs.size h12 s7.heap := by
          intro b o hb e nc
          rcases (J11 b hb).2 with q | ⟨x', q⟩
          · exact .inl (I7.pin (b, o) (List.mem_append_right _ (List.mem_append_right _ (mem_pinsAt (fp3 b o hb q e nc) e)))).1
          · obtain ⟨_, us, r, t⟩ := I14.hok b _ q
            obtain ⟨_, us', r', t'⟩ := I7.hok b _ q
            exact .inr ⟨x', us, us', t, ints_of r, t', ints_of r'⟩
        refine ⟨n - 1, by omega, k + 1, σ7, _, i1, i2, by omega, I7.unpinned, J11, C12.left lf (by omega) (by omega) (by omega) (by omega) (by omega), ?_, ?_, fun _ => ine, w7⟩
        · exact GZ.gens_of (G1'.left lf (by omega) hL1') (by rw [g7])
        · exact GZ.gens_of (G2'.left lf (by omega) (by omega)) (by rw [g7])
      | cont =>
        obtain ⟨_, _, _, q⟩ := q7
        exact q.elim
      | brk =>
        obtain ⟨_, _, _, q⟩ := q7
        exact q.elim
      | ret v =>
        obtain ⟨x7, σ7, H7, I7, r7, q7⟩ := q7
        exact ⟨x7, σ7, H7, I7.unpinned, r7, q7⟩
    · have hk' : k = (trailsM as1 st en).length := by omega
      refine wpAny_passesOwn hp (zip_fin ly I3.nolimit (I3.ok.hd hc) hd1 I3.bare C3 Z1 h61 (by omega) fun h8 tk gs Wl kW hW hbs => ?_)
      have I8 : Inv X pins σ3 H3 { sC with heap := h8, toks := tk, gens := gs } := inv_gens (I3.turnedL (t' := tk) (ch := Wl) kW (fpW Wl hW)) hbs
      exact wpAny_execs_nil ⟨σ3, H3, I8, wd _ _ (hk' ▸ w3)⟩
  · have IC : Inv X pins σ H { s with heap := hC, toks := tkB, gens := (s.gens.push (GenState.fresh cd1)).push (.fresh cd2) } := grow I rfl (fun b o e => kpC _ _ (kpB _ _ (kpA _ _ e))) (AllBare.push (AllBare.push I.bare rfl) rfl) (fun _ _ => rfl) fun b u hb e => absurd (I.hok.lt e) (Nat.not_lt.mpr hb)
    refine ⟨0, σ, H, 0, 0, rfl, IC, fun b hb => ⟨fun _ => I.hok.fresh hb, .inl (I.hok.fresh hb)⟩, ⟨hz, hTI, ⟨.none, .none, hTO, fun i t q => by cases q⟩, (hgn1.keeps kpB).keeps kpC, hgn2.keeps kpC⟩, .inl ⟨rfl, cd1, hA, s.heap, u1s, _, ?_, hF1, fun b o u e => ⟨?_, kpC _ _ (kpB _ _ e)⟩, fun b o e => ⟨?_, kpC _ _ (kpB _ _ (kpA _ _ e))⟩, hls1, ha1⟩,
      .inl ⟨rfl, cd2, hB, s.heap, ws2, _, ?_, hF2, fun b o u e => ⟨?_, kpC _ _ e⟩, fun b o e => ⟨?_, kpC _ _ (kpB _ _ (kpA _ _ e))⟩, pl2.isList, har2⟩, fun z => absurd rfl z, w0⟩
    · show ((s.gens.push (GenState.fresh cd1)).push (.fresh cd2))[s.gens.size]? = _
      rw [Array.getElem?_push, if_neg gne]
      simp
    · intro h
      have q1 : @LT.lt Nat _ b hA.objs.size := Heap.lt_size e
      exact no2 h (by omega) (by omega)
    · intro h
      have q1 : @LT.lt Nat _ b s.heap.objs.size := Heap.lt_size e
      exact no2 h (by omega) (by omega)
    · show ((s.gens.push (GenState.fresh cd1)).push (.fresh cd2))[(s.gens.push (GenState.fresh cd1)).size]? = _
      exact Array.getElem?_push_size
    · intro h
      have q1 : @LT.lt Nat _ b hB.objs.size := Heap.lt_size e
      have q2 : @Eq Nat b (hB.objs.size + 2) ∨ @Eq Nat b (hB.objs.size + 1) ∨ @Eq Nat b L1 := by simpa using h
      rcases u with ⟨o', u⟩ | u
      · have q3 : @LT.lt Nat _ b s.heap.objs.size := Heap.lt_size (I.bs b o' u).1
        omega
      · have u : @LE.le Nat _ hA.objs.size b := u
        omega
    · intro h
      have q1 : @LT.lt Nat _ b s.heap.objs.size := Heap.lt_size e
      have q2 : @Eq Nat b (hB.objs.size + 2) ∨ @Eq Nat b (hB.objs.size + 1) ∨ @Eq Nat b L1 := by simpa using h
      omega
end
end TG

namespace TG
open PySem PySem.Spec PyProof.Rows L2
def top (i : Nat) : Stmt := PySem.Challenge.pw_tablelaws_k68_trails_listed.main.body.getD i (.Pass ⟨0, 0, 0, 0⟩)
abbrev sCell : Stmt := top 3
abbrev sNumber : Stmt := top 4
abbrev sDrawn : Stmt := top 5
abbrev sPoints : Stmt := top 6
abbrev sArrows : Stmt := top 7
abbrev sLeads : Stmt := top 8
abbrev sDue : Stmt := top 9
abbrev sSame : Stmt := top 10
abbrev sTurn : Stmt := top 11
abbrev sLaw : Stmt := top 12
/-- the names of the built-ins -/
structure Blt (mg : Str → Option Value) : Prop where
  len : mg "len" = none
  abs : mg "abs" = none
  int : mg "int" = none
  range : mg "range" = none
  list : mg "list" = none
  tuple : mg "tuple" = none
  isi : mg "isinstance" = none
  bool : mg "bool" = none
  max : mg "max" = none
  zip : mg "zip" = none
def spCell (K : PySem.W.Frag) : Sp := fun vs H Q _ => ∃ (a : Addr) (ns : List Int) (k : Nat), vs = [.ref a, .int (k : Nat)] ∧ SqL K H a (ns.map V.int) ∧ ∀ n : Int, Q (.int n) H
def spNumber (K : PySem.W.Frag) : Sp := fun vs H Q _ => ∃ (a : Addr) (ns : List Int) (k : Nat), vs = [.ref a, .int (k : Nat)] ∧ SqL K H a (ns.map V.int) ∧ k ≤ 1000 ∧ ∀ n : Int, 0 ≤ n → Q (.int n) H
section
variable {P : Program} {w : World} {K : PySem.W.Frag} {mg : Str → Option Value} {base : Heap}
theorem scCell : FnScope ["script", "k"] ["script", "k"] (defScope sCell) := ⟨rfl, rfl, rfl, by decide +kernel, rfl, by decide +kernel, by decide +kernel⟩
theorem ok_cell {f : Addr} {fd : FuncData} (F : Fun K "_law_cell" "_law_cell" sCell f fd) (B : Blt mg) : FnOk P w K mg base CX0 1 f fd ["script", "k"] (spCell K) := by
  refine F.ok scCell (fun vs H Q E h => ?_) (fun cdv A outer s H vs Q E hr h => ?_)
  · obtain ⟨a, ns, k, rfl, _⟩ := h
    rfl
  · obtain ⟨a, ns, k, rfl, hS, q⟩ := h
    refine ⟨_, pss_cons (ps_if (pt_cmpR op_lt (pv 1) (pe_callB call_len_seq (by rfl) B.len PySem.boot_len (pa_cons (pv 0) pa_nil)) (nomark _)) (pss_one (ps_ret (pe_ix ix_list (pv 0) (pv 1) (fun _ _ => rfl)))) pss_nil)
      (pss_one (ps_ret (pe_op op_add (pe_op op_add (pe_op op_mul pe_int (pv 1)) (pe_op op_mul pe_int (pe_callB call_len_seq (by rfl) B.len PySem.boot_len (pa_cons (pv 0) pa_nil)))) pe_int))), ?_⟩
    refine ⟨_, rfl, _, rfl, a, _, rfl, .inl hS, _, _, rfl, rfl, _, rfl, ?_⟩
    refine ite2 (fun h => ?_) (fun h => ?_)
    · have hk : k < ns.length := by
        have h := of_decide_eq_true h
        rw [List.length_map] at h
        omega
      exact ⟨_, rfl, _, rfl, a, _, _, .int ns[k], rfl, rfl, hS, atI_nat (by simp [hk]), q _⟩
    · refine ⟨_, rfl, _, _, rfl, rfl, .inl ⟨by decide, by decide⟩, _, rfl, a, _, rfl, .inl hS, _, _, rfl, rfl, .inl ⟨by decide, by decide⟩, _, _, rfl, rfl, _, _, rfl, rfl, q _⟩
theorem nn_step {u : Int} (h : 0 ≤ u) : 0 ≤ u * (u % 65537 + 11) + u / 7 := by
  have r0 : 0 ≤ u % 65537 := Int.emod_nonneg _ (by decide)
  have := Int.mul_nonneg h (show 0 ≤ u % 65537 + 11 by omega)
  have := Int.ediv_nonneg h (show (0 : Int) ≤ 7 by decide)
  omega
theorem nn_small {u : Int} : -(2 ^ 64) < u % 65537 + 11 ∧ u % 65537 + 11 < 2 ^ 64 := by
  have r0 : 0 ≤ u % 65537 := Int.emod_nonneg _ (by decide)
  have r1 : u % 65537 < 65537 := Int.emod_lt_of_pos _ (by decide)
  omega
theorem scNumber : FnScope ["script", "k", "number"] ["script", "k"] (defScope sNumber) := ⟨rfl, rfl, rfl, by decide +kernel, rfl, by decide +kernel, by decide +kernel⟩
theorem ok_number {f f1 : Addr} {fd fd1 : FuncData} (F : Fun K "_law_number" "_law_number" sNumber f fd) (B : Blt mg) (F1 : Fun K "_law_cell" "_law_cell" sCell f1 fd1) (m1 : mg "_law_cell" = some (.ref f1)) (b1 : Binds K fd1 ["script", "k"] []) : FnOk P w K mg base CX0 2 f fd ["script", "k"] (spNumber K) := by
  have G1 : FnOk P w K mg base CX0 1 f1 fd1 ["script", "k"] (spCell K) := ok_cell F1 B
  refine F.ok scNumber (fun vs H Q E h => ?_) (fun cdv A outer s H vs Q E hr h => ?_)
  · obtain ⟨a, ns, k, rfl, _⟩ := h
    rfl
  · obtain ⟨a, ns, k, rfl, hS, hk, q⟩ := h
    refine ⟨_, pss_cons (ps_set (i := 2) scNumber.nd rfl (Or.inl rfl) (pe_callB call_abs (by rfl) B.abs (by decide +kernel) (pa_cons (pe_call G1 hr rfl m1 F1.kp b1 .nil pass0 (pa_cons (pv 0) (pa_cons (pv 1) pa_nil))) pa_nil)))
      (pss_cons (ps_if (pt_cmpR op_lt (pv 2) (pe_op op_pow pe_int pe_int) (nomark _))
        (pss_cons (ps_set (i := 2) scNumber.nd rfl (Or.inl rfl) (pe_op op_add (pe_op op_mul (pe_op op_add (pv 2) pe_int) (pe_op op_add (pv 2) pe_int)) (pe_op op_mul pe_int (pv 1))))
        (pss_cons (ps_set (i := 2) scNumber.nd rfl (Or.inl rfl) (pe_op op_add (pe_op op_mul (pv 2) (pe_op op_add (pe_op op_mod (pe_callTy call_int1 (by rfl) B.int (by decide +kernel) (pa_cons (pv 2) pa_nil)) pe_int) pe_int)) (pe_op op_fdiv (pv 2) pe_int)))
        (pss_one (ps_set (i := 2) scNumber.nd rfl (Or.inl rfl) (pe_op op_fdiv (pv 2) pe_int))))) pss_nil)
      (pss_one (ps_ret (pv 2)))), ?_⟩
    refine ⟨_, rfl, _, rfl, a, ns, k, rfl, hS, fun n => ⟨n, rfl, ?_⟩⟩
    generalize hv : (if n < 0 then -n else n) = v
    have v0 : 0 ≤ v := by
      rw [← hv]
      split <;> omega
    refine ⟨_, rfl, _, _, rfl, rfl, ⟨by decide, by decide, by decide⟩, _, _, rfl, rfl, _, rfl, ?_⟩
    refine ite2 (fun h => ?_) (fun h => ?_)
    · have h := of_decide_eq_true h
      have e18 : (10 : Int) ^ (18 : Int).toNat = 1000000000000000000 := by decide
      rw [e18] at h
      refine ⟨_, rfl, _, _, rfl, rfl, _, rfl, _, _, rfl, rfl, _, _, rfl, rfl, .inl ⟨by omega, by omega⟩, _, rfl, _, _, rfl, rfl, .inl ⟨by decide, by decide⟩, _, _, rfl, rfl, ?_⟩
      have w0 : 0 ≤ (v + 5) * (v + 48271) + 69621 * (k : Int) := by
        have := Int.mul_nonneg (show 0 ≤ v + 5 by omega) (show 0 ≤ v + 48271 by omega)
        omega
      refine ⟨_, rfl, _, rfl, .inl ⟨_, rfl, _, _, rfl, rfl, (by show (0 : Int) < 65537; decide), _, _, rfl, rfl, _, _, rfl, rfl, .inr nn_small, _, rfl, _, _, rfl, rfl, ⟨by decide, by decide⟩, _, _, rfl, rfl, ?_⟩⟩
      refine ⟨_, rfl, _, _, rfl, rfl, ⟨by decide, by decide⟩, _, rfl, q _ ?_⟩
      exact Int.ediv_nonneg (nn_step w0) (by decide)
    · exact ⟨_, rfl, q _ v0⟩
end
end TG

namespace TG
open PySem PySem.Spec PyProof.Rows L2
theorem same_new {H0 H : Hp} {p : Addr} {o : HO} (s : Same H0 H) (n : H0 p = none) : Same H0 (upd H p o) := fun b u e => by
  have q : b ≠ p := fun z => by
    rw [z, n] at e
    cases e
  rw [upd_ne q]
  exact s b u e
def spDrawn : Sp := fun vs H Q _ => ∃ (n : Int) (c : Nat), vs = [.int n, .int (c : Nat)] ∧ 0 ≤ n ∧ c ≤ 6 ∧ ∀ (H' : Hp) (p : Addr) (os : List Int), Same H H' → H p = none → H' p = some (.tup (os.map V.int)) → os.length = c → (∀ o ∈ os, 1 ≤ o ∧ o ≤ c) → Q (.ref p) H'
def spPoints (K : PySem.W.Frag) : Sp := fun vs H Q _ => ∃ (a : Addr) (ns : List Int) (m : Nat), vs = [.ref a, .int (m : Nat)] ∧ SqL K H a (ns.map V.int) ∧ m ≤ 4 ∧ ∀ (H' : Hp) (p : Addr) (ps : List Int), Same H H' → H p = none → H' p = some (.lst (ps.map V.int)) → ps.length = m → Q (.ref p) H'
theorem eraseIdx_map' {α β : Type} (f : α → β) : ∀ (l : List α) (k : Nat), (l.map f).eraseIdx k = (l.eraseIdx k).map f
  | [], _ => by simp
  | _ :: _, 0 => rfl
  | a :: r, k + 1 => by simp [eraseIdx_map' f r k]
theorem tyes {A B : Hp → Prop} {σ : L2.St} {H : Hp} (h : A H) : tYes σ H (fun b H3 => if b = true then A H3 else B H3) := by
  show if true = true then A H else B H
  rw [if_pos rfl]
  exact h
theorem rgV_ints (m : Nat) : rgV 1 ((m : Nat) + 1) = ((List.range m).map fun i => (1 : Int) + (i : Nat)).map V.int := by
  unfold rgV
  rw [List.map_map]
  have e : (((m : Nat) : Int) + 1 - 1).toNat = m := by omega
  rw [e]
  rfl
section
variable {P : Program} {w : World} {K : PySem.W.Frag} {mg : Str → Option Value} {base : Heap}
theorem scDrawn : FnScope ["number", "count", "left", "row", "at", "many"] ["number", "count"] (defScope sDrawn) := ⟨rfl, rfl, rfl, by decide +kernel, rfl, by decide +kernel, by decide +kernel⟩
theorem ok_drawn {f : Addr} {fd : FuncData} (F : Fun K "_law_drawn" "_law_drawn" sDrawn f fd) (B : Blt mg) : FnOk P w K mg base CX0 1 f fd ["number", "count"] spDrawn := by
  refine F.ok scDrawn (fun vs H Q E h => ?_) (fun cdv A outer s H vs Q E hr h => ?_)
  · obtain ⟨n, c, rfl, _⟩ := h
    rfl
  · obtain ⟨n, c, rfl, n0, c6, k⟩ := h
    refine ⟨_, pss_cons (ps_set (i := 2) scDrawn.nd rfl (Or.inl rfl) (pe_listRg rfl (by rfl) B.list (prg_2 (by rfl) B.range pe_int (pe_op op_add (pv 1) pe_int))))
      (pss_cons (ps_set (i := 3) scDrawn.nd rfl (Or.inl rfl) (pe_lst pa_nil))
      (pss_cons (ps_for PassesOwn.never rfl (pi_range1 (by rfl) B.range (pa_cons (pv 1) pa_nil)) (pg_name (i := 4) scDrawn.nd rfl (Or.inl rfl))
        (pss_cons (ps_set (i := 5) scDrawn.nd rfl (Or.inl rfl) (pe_callB call_len_seq (by rfl) B.len PySem.boot_len (pa_cons (pv 2) pa_nil)))
        (pss_cons (ps_expr (pe_bm PySem.F.plainAttrs_list PySem.F.slot_list_append PySem.F.type_list_append mt_append (pv 3) (pa_cons (pe_bm PySem.F.plainAttrs_list PySem.F.slot_list_pop PySem.F.type_list_pop mt_popAt (pv 2)
          (pa_cons (pe_op op_mod (pe_callTy call_int1 (by rfl) B.int (by decide +kernel) (pa_cons (pv 0) pa_nil)) (pv 5)) pa_nil)) pa_nil)))
        (pss_one (ps_set (i := 0) scDrawn.nd rfl (Or.inl rfl) (pe_op op_fdiv (pv 0) (pv 5)))))))
      (pss_one (ps_ret (pe_callTy call_tuple_of (by rfl) B.tuple (by decide +kernel) (pa_cons (pv 3) pa_nil)))))), ?_⟩
    refine ⟨_, rfl, _, _, rfl, rfl, _, _, rfl, rfl, RgOk.of_le (by decide) (by omega) (by decide) (by omega), fun l hl => ?_⟩
    rw [rgV_ints]
    refine ⟨Nat.zero_le _, fun r hr' => ?_⟩
    have nlr : l ≠ r := fun q => by
      rw [← q, upd_same] at hr'
      cases hr'
    have r0 : H r = none := by
      rw [upd_ne nlr.symm] at hr'
      exact hr'
    refine ⟨_, rfl, _, rfl, by omega, by omega, for_range (lo := 0) (n := (c : Int).toNat) (fun i σ H' => ∃ (n : Int) (ls os : List Int) (v4 v5 : Option V), σ = [some (.int n), some (.int c), some (.ref l), some (.ref r), v4, v5] ∧ 0 ≤ n ∧ Same H H' ∧ H' l = some (.lst (ls.map V.int)) ∧ H' r = some (.lst (os.map V.int)) ∧ os.length = i ∧ ls.length + i = c ∧ (∀ o ∈ os, 1 ≤ o ∧ o ≤ c) ∧ ∀ o ∈ ls, 1 ≤ o ∧ o ≤ c)
      ⟨n, _, [], none, none, rfl, n0, same_new (same_new (Same.refl _) hl) r0, by rw [upd_ne nlr]; exact upd_same, upd_same, rfl, by simp, by simp, ?_⟩ ?_ ?_⟩
    · intro o ho
      obtain ⟨i, hi, rfl⟩ := List.mem_map.mp ho
      have := List.mem_range.mp hi
      omega
    · rintro i σ H' hi ⟨n, ls, os, v4, v5, rfl, n0, s0, h1, h2, e1, e2, a1, a2⟩
      have hll : 0 < ls.length := by omega
      refine ⟨_, rfl, l, _, rfl, .inl (SqL.of h1), ?_⟩
      have m0 : 0 ≤ n % ((ls.map V.int).length : Int) := Int.emod_nonneg _ (by rw [List.length_map]; omega)
      have m1 : n % ((ls.map V.int).length : Int) < ((ls.map V.int).length : Int) := Int.emod_lt_of_pos _ (by rw [List.length_map]; omega)
      have hj : (n % ((ls.map V.int).length : Int)).toNat < ls.length := by
        rw [List.length_map] at m0 m1 ⊢
        omega
      have m2 : n % ((ls.map V.int).length : Int) < 2 ^ 63 := by
        rw [List.length_map] at m1 ⊢
        omega
      refine ⟨_, rfl, .inl ⟨rfl, _, SqL.of h2⟩, _, rfl, .inl ⟨rfl, _, SqL.of h1⟩, _, rfl, .inl ⟨_, rfl, _, rfl, _, _, rfl, rfl, (by show (0 : Int) < _; rw [List.length_map]; omega), l, _, _, _, .int (ls[(n % ((ls.map V.int).length : Int)).toNat]), rfl, rfl, h1, by omega, m2, seqIndex_of m0 m1, by simp [hj], ?_⟩⟩
      refine ⟨r, _, _, rfl, rfl, by rw [upd_ne nlr.symm]; exact h2, by rw [List.length_map]; exact small1000 (by omega), ?_⟩
      refine ⟨_, rfl, _, rfl, _, _, rfl, rfl, ⟨by rw [List.length_map]; omega, by rw [List.length_map]; omega⟩, ?_⟩
      refine ⟨_, ls.eraseIdx (n % ((ls.map V.int).length : Int)).toNat, os ++ [ls[(n % ((ls.map V.int).length : Int)).toNat]], _, _, rfl, Int.ediv_nonneg n0 (by omega), same_new (same_new s0 hl) r0, ?_, ?_, ?_, ?_, ?_, ?_⟩
      · rw [upd_ne nlr, upd_same, eraseIdx_map']
      · rw [upd_same, List.map_append]
        rfl
      · rw [List.length_append, List.length_singleton, e1]
      · rw [List.length_eraseIdx, if_pos hj]
        omega
      · intro o ho
        rcases List.mem_append.mp ho with z | z
        · exact a1 o z
        · rw [List.mem_singleton.mp z]
          exact a2 _ (List.getElem_mem hj)
      · intro o ho
        exact a2 o (List.mem_of_mem_eraseIdx ho)
    · rintro σ H' ⟨n, ls, os, v4, v5, rfl, n0, s0, h1, h2, e1, e2, a1, a2⟩
      refine ⟨_, rfl, r, _, rfl, .inl ⟨SqL.of h2, fun t ht => k _ t os (same_new s0 (s0.free ht)) (s0.free ht) upd_same (by omega) a1⟩⟩
theorem scPoints : FnScope ["script", "many", "number", "base", "step", "at"] ["script", "many"] (defScope sPoints) := ⟨rfl, rfl, rfl, by decide +kernel, rfl, by decide +kernel, by decide +kernel⟩
theorem ok_points {f f1 : Addr} {fd fd1 : FuncData} (F : Fun K "_law_points" "_law_points" sPoints f fd) (B : Blt mg) (G1 : FnOk P w K mg base CX0 2 f1 fd1 ["script", "k"] (spNumber K)) (m1 : mg "_law_number" = some (.ref f1)) (kp1 : PySem.W.keepIn K (.ref f1) = true) (b1 : Binds K fd1 ["script", "k"] []) : FnOk P w K mg base CX0 3 f fd ["script", "many"] (spPoints K) := by
  refine F.ok scPoints (fun vs H Q E h => ?_) (fun cdv A outer s H vs Q E hr h => ?_)
  · obtain ⟨a, ns, m, rfl, _⟩ := h
    rfl
  · obtain ⟨a, ns, m, rfl, hS, m4, k⟩ := h
    refine ⟨_, pss_cons (ps_set (i := 2) scPoints.nd rfl (Or.inl rfl) (pe_call G1 hr rfl m1 kp1 b1 .nil pass0 (pa_cons (pv 0) (pa_cons pe_int pa_nil))))
      (pss_cons (ps_if (pt_cmpR op_ne (pe_op op_mod (pe_callTy call_int1 (by rfl) B.int (by decide +kernel) (pa_cons (pv 2) pa_nil)) pe_int) pe_int (nomark _)) (pss_one (ps_ret (pe_listRg rfl (by rfl) B.list (prg_2 (by rfl) B.range pe_int (pe_op op_add (pv 1) pe_int))))) pss_nil)
      (pss_cons (ps_set (i := 3) scPoints.nd rfl (Or.inr rfl) (pe_op op_add pe_int (pe_op op_mod (pe_callTy call_int1 (by rfl) B.int (by decide +kernel) (pa_cons (pe_op op_fdiv (pv 2) pe_int) pa_nil)) (pe_op op_pow pe_int pe_int))))
      (pss_cons (ps_set (i := 4) scPoints.nd rfl (Or.inr rfl) (pe_op op_add pe_int (pe_op op_mod (pe_callTy call_int1 (by rfl) B.int (by decide +kernel) (pa_cons (pe_call G1 hr rfl m1 kp1 b1 .nil pass0 (pa_cons (pv 0) (pa_cons pe_int pa_nil))) pa_nil)) pe_int)))
      (pss_one (ps_ret (pe_lc (own := [("at", 5)]) (g := gName 5) (tt := tYes) rfl scPoints.nd (pi_range1 (by rfl) B.range (pa_cons (pv 1) pa_nil)) (blkOk_by (N := ["script", "many", "number", "base", "step", "at"]) (sc := defScope sPoints) (by decide +kernel)) (fun _ _ _ _ _ => pg_name (i := 5) scPoints.nd rfl (Or.inl rfl)) (fun _ _ _ _ _ => pts_nil)
        (fun _ _ _ _ _ => pe_op op_add (pv 3) (pe_op op_mul (pv 4) (pv 5))))))))), ?_⟩
    refine ⟨_, rfl, a, ns, 1, rfl, hS, by decide, fun n n0 => ?_⟩
    refine ⟨_, rfl, .inl ⟨_, rfl, _, _, rfl, rfl, (by show (0 : Int) < 3; decide), rfl, _, rfl, ?_⟩⟩
    have ret1 : ∀ p, H p = none → Q (.ref p) (upd H p (.lst (rgV 1 ((m : Nat) + 1)))) := fun p hp => by
      rw [rgV_ints]
      exact k _ p _ (same_new (Same.refl _) hp) hp upd_same (by simp)
    refine ite2 (fun _ => ?_) (fun _ => ?_)
    · exact ⟨_, rfl, _, _, rfl, rfl, _, _, rfl, rfl, RgOk.of_le (by decide) (by omega) (by decide) (by omega), ret1⟩
    · refine ⟨_, rfl, _, _, rfl, rfl, ⟨by decide, by decide⟩, .inl ⟨_, rfl, _, _, rfl, rfl, ⟨by decide, by decide, by decide⟩, _, _, rfl, rfl, (by show (0 : Int) < 10 ^ (20 : Int).toNat; decide), _, _, rfl, rfl, ?_⟩⟩
      refine ⟨_, rfl, a, ns, 2, rfl, hS, by decide, fun n' n0' => .inl ⟨_, rfl, _, _, rfl, rfl, (by show (0 : Int) < 1000; decide), _, _, rfl, rfl, ?_⟩⟩
      refine ⟨_, rfl, _, rfl, by omega, by omega, fun D hD => lc_range (lo := 0) (n := (m : Int).toNat) (fun i H' => ∃ acc : List Int, Same H H' ∧ H' D = some (.lst (acc.map V.int)) ∧ acc.length = i) ⟨[], same_new (Same.refl _) hD, upd_same, rfl⟩ ?_ ?_⟩
      · rintro i H' hi ⟨acc, s0, e1, e2⟩
        refine ⟨rfl, ?_⟩
        refine tyes ?_
        refine ⟨_, rfl, _, rfl, _, rfl, _, _, rfl, rfl, .inr ⟨by omega, by omega⟩, _, _, rfl, rfl, ?_⟩
        exact ⟨_, e1, by rw [List.length_map]; exact small1000 (by omega), acc ++ [_], same_new s0 hD, by rw [upd_same, List.map_append]; rfl, by rw [List.length_append, List.length_singleton, e2]⟩
      · rintro H' ⟨acc, s0, e1, e2⟩
        exact k _ D acc s0 hD e1 (by omega)
end
end TG

namespace TG
open PySem PySem.Spec PyProof.Rows L2
/-- the arrows as tracked pairs -/
def ArT (H : Hp) (its : List V) (ars : List (Int × Int)) : Prop := Paired (fun v (a : Int × Int) => ∃ p, v = .ref p ∧ H p = some (.tup [.int a.1, .int a.2])) its ars
theorem ArT.same {H H' : Hp} {its : List V} {ars : List (Int × Int)} (a : ArT H its ars) (s : Same H H') : ArT H' its ars := pmono (fun v x ⟨p, e, h⟩ => ⟨p, e, s _ _ h⟩) a
theorem ArT.arrs {K : PySem.W.Frag} {H : Hp} {its : List V} {ars : List (Int × Int)} (a : ArT H its ars) : Arrs K H its ars := pmono (fun v x ⟨p, e, h⟩ => ⟨p, e, SqT.of h⟩) a
theorem ArT.updL {H : Hp} {its : List V} {ars : List (Int × Int)} {r : Addr} {xs ys : List V} (a : ArT H its ars) (h : H r = some (.lst xs)) : ArT (upd H r (.lst ys)) its ars := pmono (fun v x ⟨p, e, h2⟩ => ⟨p, e, by rw [upd_ne (ne_of h2 h (by intro z; cases z))]; exact h2⟩) a
theorem snoc2 {α β : Type} {F : α → β → Prop} {l : List α} {m : List β} {a : α} {b : β} (x : Paired F l m) (y : F a b) : Paired F (l ++ [a]) (m ++ [b]) := papp x (.cons y .nil)
theorem at_int {ps : List Int} {i : Int} (h0 : 0 ≤ i) (h1 : i < ps.length) : atI (ps.map V.int) i = some (.int (ps.getD i.toNat 0)) := by
  have e : i = ((i.toNat : Nat) : Int) := by omega
  have hk : i.toNat < ps.length := by omega
  rw [e]
  refine atI_nat ?_
  rw [List.getElem?_map, Int.toNat_natCast, List.getD_eq_getElem?_getD, List.getElem?_eq_getElem hk]
  rfl
def spArrows (K : PySem.W.Frag) : Sp := fun vs H Q _ => ∃ (n wy : Int) (o p : Addr) (os ps : List Int), vs = [.int n, .ref o, .ref p, .int wy] ∧ 0 ≤ n ∧ H o = some (.tup (os.map V.int)) ∧ H p = some (.lst (ps.map V.int)) ∧ 1 ≤ ps.length ∧ ps.length ≤ 4 ∧ os.length ≤ 6 ∧ (∀ x ∈ os, 1 ≤ x ∧ x ≤ os.length) ∧
  ∀ (H' : Hp) (t ar : Addr) (its : List V) (ars : List (Int × Int)) (st en : Int), Same H H' → H ar = none → H' t = some (.tup [.ref ar, .int st, .int en]) → H' ar = some (.lst its) → ArT H' its ars → ars.length = os.length → Q (.ref t) H'
section
variable {P : Program} {w : World} {K : PySem.W.Frag} {mg : Str → Option Value} {base : Heap}
theorem scArrows : FnScope ["number", "order", "points", "way", "first", "at", "last", "row", "turn", "place"] ["number", "order", "points", "way"] (defScope sArrows) := ⟨rfl, rfl, rfl, by decide +kernel, rfl, by decide +kernel, by decide +kernel⟩
theorem ok_arrows {f : Addr} {fd : FuncData} (F : Fun K "_law_arrows" "_law_arrows" sArrows f fd) (B : Blt mg) : FnOk P w K mg base CX0 1 f fd ["number", "order", "points", "way"] (spArrows K) := by
  refine F.ok scArrows (fun vs H Q E h => ?_) (fun cdv A outer s H vs Q E hr h => ?_)
  · obtain ⟨n, wy, o, p, os, ps, rfl, _⟩ := h
    rfl
  · obtain ⟨n, wy, o, p, os, ps, rfl, n0, hO, hP, p1, p4, o6, oR, k⟩ := h
    have lp : (0 : Int) < ((ps.map V.int).length : Int) := by rw [List.length_map]; omega
    have fdv : ∀ i : Int, CDiv i ((ps.map V.int).length : Int) := fun i => ⟨lp, by rw [List.length_map]; omega⟩
    have md : ∀ i : Int, 0 ≤ i % ((ps.map V.int).length : Int) ∧ i % ((ps.map V.int).length : Int) < ps.length := fun i => ⟨Int.emod_nonneg _ (by omega), by have := Int.emod_lt_of_pos i lp; rw [List.length_map] at this ⊢; exact this⟩
    refine ⟨_, pss_cons (ps_set (i := 4) scArrows.nd rfl (Or.inl rfl) (pe_op op_mod (pe_callTy call_int1 (by rfl) B.int (by decide +kernel) (pa_cons (pv 0) pa_nil)) (pe_callB call_len_seq (by rfl) B.len PySem.boot_len (pa_cons (pv 2) pa_nil))))
      (pss_cons (ps_set (i := 5) scArrows.nd rfl (Or.inl rfl) (pv 4)) (pss_cons (ps_set (i := 6) scArrows.nd rfl (Or.inl rfl) (pv 4)) (pss_cons (ps_set (i := 7) scArrows.nd rfl (Or.inr rfl) (pe_lst pa_nil))
      (pss_cons (ps_for PassesOwn.never rfl (pi_range1 (by rfl) B.range (pa_cons (pe_callB call_len_seq (by rfl) B.len PySem.boot_len (pa_cons (pv 1) pa_nil)) pa_nil)) (pg_name (i := 8) scArrows.nd rfl (Or.inl rfl))
        (pss_cons (ps_set (i := 0) scArrows.nd rfl (Or.inl rfl) (pe_op op_fdiv (pv 0) (pe_callB call_len_seq (by rfl) B.len PySem.boot_len (pa_cons (pv 2) pa_nil))))
        (pss_cons (ps_set (i := 6) scArrows.nd rfl (Or.inl rfl) (pe_op op_mod (pe_callTy call_int1 (by rfl) B.int (by decide +kernel) (pa_cons (pv 0) pa_nil)) (pe_callB call_len_seq (by rfl) B.len PySem.boot_len (pa_cons (pv 2) pa_nil))))
        (Evl.pss_cut (ps_if (PW.pt (pw_and (pt_cmpR op_eq (pv 3) pe_int (nomark _)) (pw_and1 (pt_cmpR op_eq (pv 8) (pe_op op_sub (pe_callB call_len_seq (by rfl) B.len PySem.boot_len (pa_cons (pv 1) pa_nil)) pe_int) (nomark _))))) (pss_one (ps_set (i := 6) scArrows.nd rfl (Or.inl rfl) (pv 4))) pss_nil)
        (Evl.pss_cut (ps_if (pt_cmpR op_eq (pv 3) pe_int (nomark _)) (pss_one (ps_set (i := 6) scArrows.nd rfl (Or.inl rfl) (pe_op op_mod (pe_callTy call_int1 (by rfl) B.int (by decide +kernel) (pa_cons (pe_op op_add (pv 5) pe_int) pa_nil)) (pe_callB call_len_seq (by rfl) B.len PySem.boot_len (pa_cons (pv 2) pa_nil))))) pss_nil)
        (pss_cons (ps_expr (pe_bm PySem.F.plainAttrs_list PySem.F.slot_list_append PySem.F.type_list_append mt_append (pv 7) (pa_cons (pe_tup (pa_cons (pe_ix ix_list (pv 2) (pv 5) (fun _ _ => rfl)) (pa_cons (pe_ix ix_list (pv 2) (pv 6) (fun _ _ => rfl)) pa_nil))) pa_nil)))
        (pss_cons (ps_set (i := 5) scArrows.nd rfl (Or.inl rfl) (pv 6))
        (pss_one (ps_if (pt_cmpR op_eq (pv 3) pe_int (nomark _)) (pss_cons (ps_set (i := 0) scArrows.nd rfl (Or.inl rfl) (pe_op op_fdiv (pv 0) (pe_callB call_len_seq (by rfl) B.len PySem.boot_len (pa_cons (pv 2) pa_nil))))
          (pss_one (ps_set (i := 5) scArrows.nd rfl (Or.inl rfl) (pe_op op_mod (pe_callTy call_int1 (by rfl) B.int (by decide +kernel) (pa_cons (pv 0) pa_nil)) (pe_callB call_len_seq (by rfl) B.len PySem.boot_len (pa_cons (pv 2) pa_nil)))))) pss_nil)))))))))
      (pss_one (ps_ret (pe_tup (pa_cons (pe_lc (own := [("place", 9)]) (g := gName 9) (tt := tYes) rfl scArrows.nd (pi_tup (pv 1)) (blkOk_by (N := ["number", "order", "points", "way", "first", "at", "last", "row", "turn", "place"]) (sc := defScope sArrows) (by decide +kernel)) (fun _ _ _ _ _ => pg_name (i := 9) scArrows.nd rfl (Or.inl rfl)) (fun _ _ _ _ _ => pts_nil)
          (fun _ _ _ _ _ => pe_ix (r := rIxL K) ix_list (pv 7) (pe_op op_sub (pv 9) pe_int) (fun _ _ => rfl))) (pa_cons (pe_ix ix_list (pv 2) (pv 4) (fun _ _ => rfl)) (pa_cons (pe_ix ix_list (pv 2) (pv 6) (fun _ _ => rfl)) pa_nil)))))))))), ?_⟩
    refine ⟨_, rfl, .inl ⟨_, rfl, _, rfl, p, _, rfl, .inl (SqL.of hP), _, _, rfl, rfl, lp, ?_⟩⟩
    refine ⟨_, rfl, _, rfl, Nat.zero_le _, fun r hr' => ?_⟩
    refine ⟨_, rfl, o, _, rfl, .inr (SqT.of (same_new (Same.refl _) hr' _ _ hO)), _, rfl, by rw [List.length_map]; omega, by rw [List.length_map]; omega,
      for_range (lo := 0) (n := ((os.map V.int).length : Int).toNat) (fun i σ H' => ∃ (n f at' last : Int) (its : List V) (ars : List (Int × Int)) (v8 v9 : Option V), σ = [some (.int n), some (.ref o), some (.ref p), some (.int wy), some (.int f), some (.int at'), some (.int last), some (.ref r), v8, v9] ∧ 0 ≤ n ∧ (0 ≤ f ∧ f < ps.length) ∧ (0 ≤ at' ∧ at' < ps.length) ∧ (0 ≤ last ∧ last < ps.length) ∧
        Same H H' ∧ H' r = some (.lst its) ∧ ArT H' its ars ∧ ars.length = i) ⟨n, _, _, _, [], [], none, none, rfl, n0, md n, md n, md n, same_new (Same.refl _) hr', upd_same, .nil, rfl⟩ ?_ ?_⟩
    · rintro i σ H' hi ⟨n, f', a', l', its, ars, v8, v9, rfl, n0, hf, ha, hl, s0, e1, e2, e3⟩
      have hP' := s0 _ _ hP
      have hO' := s0 _ _ hO
      refine ⟨_, rfl, _, rfl, p, _, rfl, .inl (SqL.of hP'), _, _, rfl, rfl, fdv _, ?_⟩
      have n1 : 0 ≤ n / ((ps.map V.int).length : Int) := Int.ediv_nonneg n0 (by omega)
      refine ⟨_, rfl, .inl ⟨_, rfl, _, rfl, p, _, rfl, .inl (SqL.of hP'), _, _, rfl, rfl, lp, ?_⟩⟩
      refine ⟨fun σ' H2 => H2 = H' ∧ ∃ l2 : Int, σ' = [some (.int (n / ((ps.map V.int).length : Int))), some (.ref o), some (.ref p), some (.int wy), some (.int f'), some (.int a'), some (.int l2), some (.ref r), some (.int (0 + i)), v9] ∧ 0 ≤ l2 ∧ l2 < ps.length, ?_, ?_⟩
      · refine ⟨_, rfl, rfl, _, rfl, ?_⟩
        refine ite2 (fun _ => ?_) (fun _ => ?_)
        · refine ⟨_, rfl, _, rfl, o, _, rfl, .inr (SqT.of hO'), _, _, rfl, rfl, rfl, _, rfl, ?_⟩
          refine ite2 (fun _ => ?_) (fun _ => ?_)
          · exact ⟨_, rfl, rfl, _, rfl, hf⟩
          · exact ⟨rfl, _, rfl, md _⟩
        · exact iteF ⟨rfl, _, rfl, md _⟩
      · rintro σ' H2 ⟨rfl, l2, rfl, hl2⟩
        refine ⟨fun σ' H3 => H3 = H2 ∧ ∃ l2 : Int, σ' = [some (.int (n / ((ps.map V.int).length : Int))), some (.ref o), some (.ref p), some (.int wy), some (.int f'), some (.int a'), some (.int l2), some (.ref r), some (.int (0 + i)), v9] ∧ 0 ≤ l2 ∧ l2 < ps.length, ?_, ?_⟩
        · refine ⟨_, rfl, rfl, _, rfl, ?_⟩
          refine ite2 (fun _ => ?_) (fun _ => ?_)
          · exact ⟨_, rfl, _, _, rfl, rfl, .inl ⟨_, rfl, _, rfl, p, _, rfl, .inl (SqL.of hP'), _, _, rfl, rfl, lp, rfl, _, rfl, md _⟩⟩
          · exact ⟨rfl, _, rfl, hl2⟩
        · rintro σ' H3 ⟨rfl, l3, rfl, hl3⟩
          refine ⟨_, rfl, .inl ⟨rfl, _, SqL.of e1⟩, _, rfl, _, rfl, p, _, _, _, rfl, rfl, SqL.of hP', at_int ha.1 ha.2, _, rfl, _, rfl, p, _, _, _, rfl, rfl, SqL.of hP', at_int hl3.1 hl3.2, (by show 2 ≤ sizeLine; decide), fun t ht => ?_⟩
          have ntr : r ≠ t := ne_of_none e1 ht
          have e1' : upd H3 t (.tup [.int (ps.getD a'.toNat 0), .int (ps.getD l3.toNat 0)]) r = some (.lst its) := by
            rw [upd_ne ntr]
            exact e1
          refine ⟨r, its, _, rfl, rfl, e1', small1000 (by have := plen e2; rw [List.length_map] at hi; omega), ?_⟩
          have sA : ArT (upd (upd H3 t (.tup [.int (ps.getD a'.toNat 0), .int (ps.getD l3.toNat 0)])) r (.lst (its ++ [.ref t]))) (its ++ [.ref t]) (ars ++ [(ps.getD a'.toNat 0, ps.getD l3.toNat 0)]) :=
            snoc2 ((e2.same (same_new (Same.refl _) ht)).updL e1') ⟨t, rfl, by rw [upd_ne ntr.symm]; exact upd_same⟩
          have sS : Same H (upd (upd H3 t (.tup [.int (ps.getD a'.toNat 0), .int (ps.getD l3.toNat 0)])) r (.lst (its ++ [.ref t]))) := same_new (same_new s0 (s0.free ht)) hr'
          have hP2 := sS _ _ hP
          refine ⟨_, rfl, ?_⟩
          refine ⟨_, rfl, rfl, _, rfl, ?_⟩
          refine ite2 (fun _ => ?_) (fun _ => ?_)
          · refine ⟨_, rfl, _, rfl, p, _, rfl, .inl (SqL.of hP2), _, _, rfl, rfl, fdv _, ?_⟩
            refine ⟨_, rfl, .inl ⟨_, rfl, _, rfl, p, _, rfl, .inl (SqL.of hP2), _, _, rfl, rfl, lp, ?_⟩⟩
            exact ⟨_, f', _, l3, _, _, _, _, rfl, Int.ediv_nonneg n1 (by omega), hf, md _, hl3, sS, upd_same, sA, by rw [List.length_append, e3]; rfl⟩
          · exact ⟨_, f', l3, l3, _, _, _, _, rfl, n1, hf, hl3, hl3, sS, upd_same, sA, by rw [List.length_append, e3]; rfl⟩
    · rintro σ H' ⟨n, f', a', l', its, ars, v8, v9, rfl, n0, hf, ha, hl, s0, e1, e2, e3⟩
      have hP' := s0 _ _ hP
      have hO' := s0 _ _ hO
      have e3 : ars.length = os.length := by rw [e3, List.length_map]; omega
      refine ⟨_, rfl, o, rfl, ⟨_, SqT.of hO'⟩, fun D hD => lc_tup (xs := os.map V.int) (fun i H2 => ∃ (acc : List V) (bs : List (Int × Int)), Same H' H2 ∧ H2 D = some (.lst acc) ∧ ArT H2 acc bs ∧ bs.length = i) ⟨[], [], same_new (Same.refl _) hD, upd_same, .nil, rfl⟩ (fun i H2 _ ⟨acc, bs, s2, _⟩ => SqT.of (s2 _ _ hO')) ?_ ?_⟩
      · rintro i x H2 hx ⟨acc, bs, s2, d1, d2, d3⟩
        obtain ⟨xi, rfl, hxi⟩ : ∃ xi : Int, x = .int xi ∧ os[i]? = some xi := by
          rw [List.getElem?_map] at hx
          cases e : os[i]? with
          | none =>
            rw [e] at hx
            cases hx
          | some u =>
            rw [e] at hx
            exact ⟨u, (Option.some.inj hx).symm, rfl⟩
        have hR := oR xi (List.mem_of_getElem? hxi)
        have hlen : its.length = ars.length := plen e2
        have hj : (xi - 1).toNat < its.length := by omega
        obtain ⟨b, hb, q, eq, hq⟩ : ∃ b, ars[(xi - 1).toNat]? = some b ∧ ∃ q, its[(xi - 1).toNat] = .ref q ∧ H' q = some (.tup [.int b.1, .int b.2]) := by
          obtain ⟨b, h1, h2⟩ := pget e2 (List.getElem?_eq_getElem hj)
          exact ⟨b, h1, h2⟩
        refine ⟨rfl, ?_⟩
        refine tyes ?_
        refine ⟨_, rfl, _, rfl, _, _, rfl, rfl, r, its, xi - 1, its[(xi - 1).toNat], rfl, rfl, SqL.of (s2 _ _ e1), ?_, acc, d1, small1000 (by have := plen d2; have := (List.getElem?_eq_some_iff.mp hxi).1; omega), acc ++ [_], bs ++ [b], same_new s2 hD, upd_same, ?_, by rw [List.length_append, d3]; rfl⟩
        · have e : xi - 1 = (((xi - 1).toNat : Nat) : Int) := by omega
          have h2 : its[(xi - 1).toNat]? = some its[(xi - 1).toNat] := List.getElem?_eq_getElem hj
          generalize its[(xi - 1).toNat] = z at h2 ⊢
          rw [e]
          exact atI_nat h2
        · exact snoc2 (d2.updL d1) ⟨q, eq, by rw [upd_ne (ne_of (s2 _ _ hq) d1 (by intro z; cases z))]; exact s2 _ _ hq⟩
      · rintro H2 ⟨acc, bs, s2, d1, d2, d3⟩
        refine ⟨_, rfl, _, rfl, p, _, _, _, rfl, rfl, SqL.of (s2 _ _ hP'), at_int hf.1 hf.2, _, rfl, _, rfl, p, _, _, _, rfl, rfl, SqL.of (s2 _ _ hP'), at_int hl.1 hl.2, (by show 3 ≤ sizeLine; decide), fun t ht => ?_⟩
        refine k _ t D acc bs _ _ (same_new (s0.trans s2) ((s0.trans s2).free ht)) (s0.free hD) upd_same (by rw [upd_ne (ne_of_none d1 ht)]; exact d1) (d2.same (same_new (Same.refl _) ht)) (by rw [d3, List.length_map])
end
end TG

namespace TG
open PySem PySem.Spec PyProof.Rows L2
/-! ### the mirror -/
def leadsM (ars : List (Int × Int)) (en : Int) : Int → List Int → Bool
  | a, [] => decide (a = en)
  | a, p :: r => if (ars.getD (p - 1).toNat (0, 0)).1 = a then leadsM ars en (ars.getD (p - 1).toNat (0, 0)).2 r else false
def places (n : Nat) : List Int := (List.range n).map fun i => (1 : Int) + (i : Nat)
def growM (n : Nat) (r : List Int) : List (List Int) := ((places n).filter fun x => decide (x ∉ r)).map fun x => r ++ [x]
def rowsM (n : Nat) : Nat → List (List Int)
  | 0 => [[]]
  | k + 1 => (rowsM n k).flatMap (growM n)
def dueM (ars : List (Int × Int)) (st en : Int) : List (List Int) := (rowsM ars.length ars.length).filter (leadsM ars en st)
theorem places_len (n : Nat) : (places n).length = n := by simp [places]
theorem grow_len (n : Nat) (r : List Int) : (growM n r).length ≤ n := by
  unfold growM
  rw [List.length_map]
  exact Nat.le_trans (List.length_filter_le _ _) (Nat.le_of_eq (places_len n))
theorem flat_len {f : List Int → List (List Int)} {n : Nat} (h : ∀ r, (f r).length ≤ n) : ∀ l : List (List Int), (l.flatMap f).length ≤ l.length * n
  | [] => by simp
  | a :: l => by
    rw [List.flatMap_cons, List.length_append, List.length_cons, Nat.succ_mul]
    have := flat_len h l
    have := h a
    omega
theorem rows_len (n : Nat) : ∀ k : Nat, (rowsM n k).length ≤ n ^ k
  | 0 => by simp [rowsM]
  | k + 1 => by
    rw [Nat.pow_succ]
    exact Nat.le_trans (flat_len (grow_len n) _) (Nat.mul_le_mul_right _ (rows_len n k))
theorem grow_mem {n : Nat} {r x : List Int} (h : x ∈ growM n r) : x.length = r.length + 1 ∧ ∀ p ∈ x, p ∈ r ∨ (1 ≤ p ∧ p ≤ n) := by
  unfold growM at h
  obtain ⟨y, hy, rfl⟩ := List.mem_map.mp h
  obtain ⟨i, hi, rfl⟩ := List.mem_map.mp (List.mem_filter.mp hy).1
  have := List.mem_range.mp hi
  refine ⟨by simp, fun p hp => ?_⟩
  rcases List.mem_append.mp hp with q | q
  · exact .inl q
  · rw [List.mem_singleton.mp q]
    exact .inr (by omega)
theorem rows_mem {n : Nat} : ∀ {k : Nat} {x : List Int}, x ∈ rowsM n k → x.length = k ∧ ∀ p ∈ x, 1 ≤ p ∧ p ≤ (n : Int)
  | 0, x, h => by
    rw [List.mem_singleton.mp h]
    exact ⟨rfl, fun p hp => by cases hp⟩
  | k + 1, x, h => by
    obtain ⟨y, hy, hx⟩ := List.mem_flatMap.mp h
    obtain ⟨h1, h2⟩ := rows_mem hy
    obtain ⟨h3, h4⟩ := grow_mem hx
    exact ⟨by omega, fun p hp => (h4 p hp).elim (h2 p) id⟩
/-! ### what stands in the heap -/
def ArL (H : Hp) (a : Addr) (ars : List (Int × Int)) : Prop := ∃ its, H a = some (.lst its) ∧ ArT H its ars
theorem ArL.same {H H' : Hp} {a : Addr} {ars : List (Int × Int)} (x : ArL H a ars) (s : Same H H') : ArL H' a ars := let ⟨its, e, t⟩ := x; ⟨its, s _ _ e, t.same s⟩
def RowL (H : Hp) (its : List V) (rows : List (List Int)) : Prop := Paired (fun v (r : List Int) => ∃ p, v = .ref p ∧ H p = some (.lst (r.map V.int))) its rows
theorem RowL.same {H H' : Hp} {its : List V} {rows : List (List Int)} (x : RowL H its rows) (s : Same H H') : RowL H' its rows := pmono (fun v x ⟨p, e, h⟩ => ⟨p, e, s _ _ h⟩) x
def TupL (H : Hp) (its : List V) (rows : List (List Int)) : Prop := Paired (fun v (r : List Int) => ∃ p, v = .ref p ∧ H p = some (.tup (r.map V.int))) its rows
theorem TupL.same {H H' : Hp} {its : List V} {rows : List (List Int)} (x : TupL H its rows) (s : Same H H') : TupL H' its rows := pmono (fun v x ⟨p, e, h⟩ => ⟨p, e, s _ _ h⟩) x
theorem inV_int (x : Int) : ∀ r : List Int, inV (.int x) (r.map V.int) = decide (x ∈ r)
  | [] => rfl
  | a :: r => by
    have q := inV_int x r
    unfold inV at q ⊢
    rw [List.map_cons, List.any_cons, q]
    show ((a == x) || decide (x ∈ r)) = _
    by_cases h : x = a
    · subst h
      simp
    · have : (a == x) = false := by simpa using fun z => h z.symm
      simp [this, h]
theorem flat_ints : ∀ r : List Int, (r.map V.int).all flatV = true
  | [] => rfl
  | _ :: r => by
    rw [List.map_cons, List.all_cons, flat_ints r]
    rfl
def spLeads : Sp := fun vs H Q _ => ∃ (rw' ar : Addr) (st en : Int) (row : List Int) (ars : List (Int × Int)), vs = [.ref rw', .ref ar, .int st, .int en] ∧ H rw' = some (.lst (row.map V.int)) ∧ ArL H ar ars ∧ (∀ p ∈ row, 1 ≤ p ∧ p ≤ (ars.length : Int)) ∧ Q (.bl (leadsM ars en st row)) H
def spDue : Sp := fun vs H Q _ => ∃ (ar : Addr) (st en : Int) (ars : List (Int × Int)), vs = [.ref ar, .int st, .int en] ∧ ArL H ar ars ∧ ars.length ≤ 6 ∧ ∀ (H' : Hp) (D : Addr) (its : List V), Same H H' → H D = none → H' D = some (.lst its) → TupL H' its (dueM ars st en) → Q (.ref D) H'
def rTup (K : PySem.W.Frag) : List V → Hp → VK → Prop := fun xs H Q => ∃ p ys, xs = [.ref p] ∧ ((SqL K H p ys ∧ ∀ l, H l = none → Q (.ref l) (upd H l (.tup ys))) ∨ (SqT K H p ys ∧ Q (.ref p) H))
section
variable {P : Program} {w : World} {K : PySem.W.Frag} {mg : Str → Option Value} {base : Heap}
theorem scLeads : FnScope ["row", "arrows", "start", "end", "at", "place"] ["row", "arrows", "start", "end"] (defScope sLeads) := ⟨rfl, rfl, rfl, by decide +kernel, rfl, by decide +kernel, by decide +kernel⟩
theorem ok_leads {f : Addr} {fd : FuncData} (F : Fun K "_law_leads" "_law_leads" sLeads f fd) : FnOk P w K mg base CX0 1 f fd ["row", "arrows", "start", "end"] spLeads := by
  refine F.ok scLeads (fun vs H Q E h => ?_) (fun cdv A outer s H vs Q E hr h => ?_)
  · obtain ⟨rw', ar, st, en, row, ars, rfl, _⟩ := h
    rfl
  · obtain ⟨rw', ar, st, en, row, ars, rfl, hR, ⟨its, hA, tA⟩, hp, k⟩ := h
    refine ⟨_, pss_cons (ps_set (i := 4) scLeads.nd rfl (Or.inl rfl) (pv 2)) (pss_cons (ps_for PassesOwn.never rfl (pi_list (pv 0)) (pg_name (i := 5) scLeads.nd rfl (Or.inl rfl))
        (pss_cons (ps_if (pt_cmpR op_ne (pe_ix ix_tup (pe_ix ix_list (pv 1) (pe_op op_sub (pv 5) pe_int) (fun _ _ => rfl)) pe_int (fun _ _ => rfl)) (pv 4) (nomark _)) (pss_one (ps_ret pe_bl)) pss_nil)
        (pss_one (ps_set (i := 4) scLeads.nd rfl (Or.inl rfl) (pe_ix ix_tup (pe_ix ix_list (pv 1) (pe_op op_sub (pv 5) pe_int) (fun _ _ => rfl)) pe_int (fun _ _ => rfl))))))
      (pss_one (ps_ret (pe_cmpR op_eq (pv 4) (pv 3) (nomark _))))), ?_⟩
    refine ⟨_, rfl, _, rfl, rw', rfl, ⟨_, SqL.of hR⟩, for_list (xs := row.map V.int) (fun i σ H' => H' = H ∧ ∃ (a : Int) (v5 : Option V), σ = [some (.ref rw'), some (.ref ar), some (.int st), some (.int en), some (.int a), v5] ∧ leadsM ars en st row = leadsM ars en a (row.drop i)) ⟨rfl, st, none, rfl, rfl⟩ (fun i σ H' _ q => SqL.of (q.1 ▸ hR)) ?_ ?_⟩
    · rintro i x σ H' hx ⟨rfl, a, v5, rfl, e⟩
      obtain ⟨p, rfl, hxp⟩ : ∃ p : Int, x = .int p ∧ row[i]? = some p := by
        rw [List.getElem?_map] at hx
        cases e : row[i]? with
        | none =>
          rw [e] at hx
          cases hx
        | some u =>
          rw [e] at hx
          exact ⟨u, (Option.some.inj hx).symm, rfl⟩
      obtain ⟨hi, hpe⟩ := List.getElem?_eq_some_iff.mp hxp
      have hb := hp p (List.mem_of_getElem? hxp)
      have hl : its.length = ars.length := plen tA
      have hj : (p - 1).toNat < its.length := by omega
      obtain ⟨b, hb1, q, eq, hq⟩ : ∃ b, ars[(p - 1).toNat]? = some b ∧ ∃ q, its[(p - 1).toNat] = .ref q ∧ H' q = some (.tup [.int b.1, .int b.2]) := by
        obtain ⟨b, h1, h2⟩ := pget tA (List.getElem?_eq_getElem hj)
        exact ⟨b, h1, h2⟩
      have hbd : ars.getD (p - 1).toNat (0, 0) = b := by rw [List.getD_eq_getElem?_getD, hb1]; rfl
      have hat : atI its (p - 1) = some (.ref q) := by
        have h2 : its[(p - 1).toNat]? = some its[(p - 1).toNat] := List.getElem?_eq_getElem hj
        rw [eq] at h2
        have e : p - 1 = (((p - 1).toNat : Nat) : Int) := by omega
        rw [e]
        exact atI_nat h2
      rw [List.drop_eq_getElem_cons hi, hpe] at e
      have e' : leadsM ars en st row = if b.1 = a then leadsM ars en b.2 (row.drop (i + 1)) else false := by
        rw [e]
        show (if (ars.getD (p - 1).toNat (0, 0)).1 = a then leadsM ars en (ars.getD (p - 1).toNat (0, 0)).2 (row.drop (i + 1)) else false) = _
        rw [hbd]
      refine ⟨_, rfl, _, rfl, _, _, rfl, rfl, ar, its, _, _, rfl, rfl, SqL.of hA, hat, q, _, 0, .int b.1, rfl, rfl, SqT.of hq, rfl, _, rfl, rfl, _, rfl, ?_⟩
      refine ite2 (fun hne => ?_) (fun hne => ?_)
      · have : b.1 ≠ a := by simpa using hne
        rw [if_neg this] at e'
        rw [e'] at k
        exact k
      · have : b.1 = a := by simpa using hne
        rw [if_pos this] at e'
        refine ⟨_, rfl, _, rfl, _, _, rfl, rfl, ar, its, _, _, rfl, rfl, SqL.of hA, hat, q, _, 1, .int b.2, rfl, rfl, SqT.of hq, rfl, rfl, b.2, _, rfl, e'⟩
    · rintro σ H' ⟨rfl, a, v5, rfl, e⟩
      refine ⟨_, rfl, _, rfl, rfl, ?_⟩
      rw [List.length_map, List.drop_length] at e
      have e2 : leadsM ars en st row = decide (V.int a = V.int en) := by
        rw [e]
        show decide (a = en) = _
        by_cases h : a = en
        · simp [h]
        · simp [h]
      rw [e2] at k
      exact k
end
end TG

namespace TG
open PySem PySem.Spec PyProof.Rows L2
/-- rows that do not lie at D -/
def RowX (H : Hp) (D : Addr) (its : List V) (rows : List (List Int)) : Prop := Paired (fun v (r : List Int) => ∃ p, v = .ref p ∧ p ≠ D ∧ H p = some (.lst (r.map V.int))) its rows
theorem RowX.upd {H : Hp} {D : Addr} {its : List V} {rows : List (List Int)} {o : HO} (x : RowX H D its rows) : RowX (upd H D o) D its rows := pmono (fun v r ⟨p, e, n, h⟩ => ⟨p, e, n, by rw [upd_ne n]; exact h⟩) x
theorem RowX.row {H : Hp} {D : Addr} {its : List V} {rows : List (List Int)} (x : RowX H D its rows) : RowL H its rows := pmono (fun v r ⟨p, e, n, h⟩ => ⟨p, e, h⟩) x
theorem RowX.same {H H' : Hp} {D : Addr} {its : List V} {rows : List (List Int)} (x : RowX H D its rows) (s : Same H H') : RowX H' D its rows := pmono (fun v x ⟨p, e, n, h⟩ => ⟨p, e, n, s _ _ h⟩) x
/-- tuples do not lie where a list does -/
theorem TupL.updL {H : Hp} {its : List V} {rows : List (List Int)} {r : Addr} {xs ys : List V} (a : TupL H its rows) (h : H r = some (.lst xs)) : TupL (upd H r (.lst ys)) its rows := pmono (fun v x ⟨p, e, h2⟩ => ⟨p, e, by rw [upd_ne (ne_of h2 h (by intro z; cases z))]; exact h2⟩) a
def growK (n k : Nat) (r : List Int) : List (List Int) := (((List.range k).map fun i => (1 : Int) + (i : Nat)).filter fun x => decide (x ∉ r)).map fun x => r ++ [x]
theorem growK_succ (n k : Nat) (r : List Int) : growK n (k + 1) r = growK n k r ++ if decide ((1 : Int) + (k : Nat) ∉ r) = true then [r ++ [(1 : Int) + (k : Nat)]] else [] := by
  unfold growK
  rw [List.range_succ, List.map_append, List.filter_append, List.map_append]
  congr 1
  by_cases h : decide ((1 : Int) + (k : Nat) ∉ r) = true
  · rw [if_pos h, List.map_singleton, List.filter_cons, if_pos h]
    rfl
  · rw [if_neg h, List.map_singleton, List.filter_cons, if_neg h]
    rfl
section
variable {P : Program} {w : World} {K : PySem.W.Frag} {mg : Str → Option Value} {base : Heap}
theorem call_tupK {X : Cx} : CallR X (.type "tuple") (rTup X.K) := call_tuple_of
theorem scDue : FnScope ["arrows", "start", "end", "rows", "turn", "longer", "row", "place"] ["arrows", "start", "end"] (defScope sDue) := ⟨rfl, rfl, rfl, by decide +kernel, rfl, by decide +kernel, by decide +kernel⟩
theorem ok_due {f f1 : Addr} {fd fd1 : FuncData} (F : Fun K "_law_due" "_law_due" sDue f fd) (B : Blt mg) (F1 : Fun K "_law_leads" "_law_leads" sLeads f1 fd1) (m1 : mg "_law_leads" = some (.ref f1)) (b1 : Binds K fd1 ["row", "arrows", "start", "end"] []) : FnOk P w K mg base CX0 2 f fd ["arrows", "start", "end"] spDue := by
  have G1 : FnOk P w K mg base CX0 1 f1 fd1 ["row", "arrows", "start", "end"] spLeads := ok_leads F1
  refine F.ok scDue (fun vs H Q E h => ?_) (fun cdv A outer s H vs Q E hr h => ?_)
  · obtain ⟨ar, st, en, ars, rfl, _⟩ := h
    rfl
  · obtain ⟨ar, st, en, ars, rfl, ⟨its, hA, tA⟩, h6, k⟩ := h
    refine ⟨_, pss_cons (ps_set (i := 3) scDue.nd rfl (Or.inl rfl) (pe_lst (pa_cons (pe_lst pa_nil) pa_nil)))
      (pss_cons (ps_for PassesOwn.never rfl (pi_range1 (by rfl) B.range (pa_cons (pe_callB call_len_seq (by rfl) B.len PySem.boot_len (pa_cons (pv 0) pa_nil)) pa_nil)) (pg_name (i := 4) scDue.nd rfl (Or.inl rfl))
        (pss_cons (ps_set (i := 5) scDue.nd rfl (Or.inl rfl) (pe_lst pa_nil))
        (pss_cons (ps_for PassesOwn.never rfl (pi_list (pv 3)) (pg_name (i := 6) scDue.nd rfl (Or.inr rfl))
          (pss_one (ps_set (i := 5) scDue.nd rfl (Or.inl rfl) (pe_op op_cat (pv 5) (pe_lc (own := [("place", 7)]) (g := gName 7) (tt := tTest (tOp (rIn K true) (tVar 7) (tVar 6))) rfl scDue.nd (pi_range2 (by rfl) B.range (pa_cons pe_int (pa_cons (pe_op op_add (pe_callB call_len_seq (by rfl) B.len PySem.boot_len (pa_cons (pv 0) pa_nil)) pe_int) pa_nil)))
            (blkOk_by (N := ["arrows", "start", "end", "rows", "turn", "longer", "row", "place"]) (sc := defScope sDue) (by decide +kernel)) (fun _ _ _ _ _ => pg_name (i := 7) scDue.nd rfl (Or.inl rfl)) (fun _ _ _ _ _ => pts_one (pt_cmpR (r := rIn K true) op_notIn_seq (pv 7) (pv 6) (by with_unfolding_all rfl)))
            (fun _ _ _ _ _ => pe_op op_cat (pv 6) (pe_lst (pa_cons (pv 7) pa_nil))))))))
        (pss_one (ps_set (i := 3) scDue.nd rfl (Or.inl rfl) (pv 5))))))
      (pss_one (ps_ret (pe_lc (own := [("row", 6)]) (g := gName 6) (tt := tB (tCall spLeads [] E0 (tCons (tVar 6) (tCons (tVar 0) (tCons (tVar 1) (tCons (tVar 2) tNil)))))) rfl scDue.nd (pi_list (pv 3))
        (blkOk_by (N := ["arrows", "start", "end", "rows", "turn", "longer", "row", "place"]) (sc := defScope sDue) (by decide +kernel)) (fun _ _ _ _ _ => pg_name (i := 6) scDue.nd rfl (Or.inl rfl)) (fun _ _ _ _ _ => pts_one (pt_val (pe_call G1 hr rfl m1 F1.kp b1 .nil pass0 (pa_cons (pv 6) (pa_cons (pv 0) (pa_cons (pv 1) (pa_cons (pv 2) pa_nil)))))))
        (fun _ _ _ _ _ => pe_callTy (r := rTup K) call_tupK (by rfl) B.tuple (by decide +kernel) (pa_cons (pv 6) pa_nil)))))), ?_⟩
    refine ⟨Nat.zero_le _, fun r0 hr0 => ⟨by show 1 ≤ sizeLine; decide, fun rw' hrw => ?_⟩⟩
    have n01 : r0 ≠ rw' := fun q => by
      rw [← q, upd_same] at hrw
      cases hrw
    have hrw0 : H rw' = none := by
      rw [upd_ne n01.symm] at hrw
      exact hrw
    have sS := same_new (o := .lst [V.ref r0]) (same_new (o := .lst []) (Same.refl H) hr0) hrw0
    have hA0 := sS _ _ hA
    have al : its.length = ars.length := plen tA
    refine ⟨_, rfl, ar, _, rfl, .inl (SqL.of hA0), _, rfl, by omega, by omega, for_range (lo := 0) (n := ((its.length : Nat) : Int).toNat) (fun i σ H' => ∃ (rw' : Addr) (xs : List V) (v4 v5 v6 : Option V), σ = [some (.ref ar), some (.int st), some (.int en), some (.ref rw'), v4, v5, v6, none] ∧ Same H H' ∧ H' rw' = some (.lst xs) ∧ RowL H' xs (rowsM ars.length i))
      ⟨rw', _, none, none, none, rfl, sS, upd_same, .cons ⟨r0, rfl, by rw [upd_ne n01]; exact upd_same⟩ .nil⟩ ?_ ?_⟩
    · rintro i σ H1 hi ⟨rw', xs, v4, v5, v6, rfl, s1, e1, t1⟩
      have hi : i < ars.length := by omega
      have lx : xs.length = (rowsM ars.length i).length := plen t1
      have bd : (rowsM ars.length i).length * ars.length ≤ 46656 := by
        have h1 := Nat.mul_le_mul_right ars.length (rows_len ars.length i)
        rw [← Nat.pow_succ] at h1
        exact Nat.le_trans h1 (pow6 h6 (by omega))
      refine ⟨Nat.zero_le _, fun lg hlg => ?_⟩
      have s1' := same_new (o := .lst []) (Same.refl H1) hlg
      refine ⟨_, rfl, rw', rfl, ⟨_, SqL.of (s1' _ _ e1)⟩, for_list (xs := xs) (fun j σ H2 => ∃ (lg : Addr) (acc : List V) (v6 : Option V), σ = [some (.ref ar), some (.int st), some (.int en), some (.ref rw'), some (.int (0 + i)), some (.ref lg), v6, none] ∧ Same H1 H2 ∧ H2 lg = some (.lst acc) ∧ RowL H2 acc (((rowsM ars.length i).take j).flatMap (growM ars.length)))
        ⟨lg, [], v6, rfl, s1', upd_same, .nil⟩ (fun j σ H2 _ ⟨_, _, _, _, s2, _⟩ => SqL.of (s2 _ _ e1)) ?_ ?_⟩
      · rintro j x σ H2 hx ⟨lg, acc, v6, rfl, s2, e2, t2⟩
        obtain ⟨row, hrow, p, rfl, hp⟩ := pget t1 hx
        obtain ⟨hj, hre⟩ := List.getElem?_eq_some_iff.mp hrow
        have hp2 := s2 _ _ hp
        have hA2 := s2 _ _ (s1 _ _ hA)
        have hmem := rows_mem (List.mem_of_getElem? hrow)
        have b1 : (((rowsM ars.length i).take j).flatMap (growM ars.length)).length ≤ 46656 := by
          refine Nat.le_trans (flat_len (grow_len ars.length) _) (Nat.le_trans (Nat.mul_le_mul_right _ ?_) bd)
          rw [List.length_take]
          exact Nat.min_le_right _ _
        have la := plen t2
        refine ⟨_, rfl, _, rfl, ar, _, rfl, .inl (SqL.of hA2), _, _, rfl, rfl, _, _, rfl, ⟨by omega, by omega, by omega, by omega⟩, fun D hD => lc_range (lo := 1) (n := (((its.length : Nat) : Int) + 1 - 1).toNat) (fun m H3 => ∃ ys : List V, Same H2 H3 ∧ H3 D = some (.lst ys) ∧ RowX H3 D ys (growK ars.length m row)) ⟨[], same_new (Same.refl _) hD, upd_same, .nil⟩ ?_ ?_⟩
        · rintro m H3 hm ⟨ys, s3, e3, t3⟩
          have hm : m < ars.length := by omega
          have ly : ys.length = (growK ars.length m row).length := plen t3
          have lg' : (growK ars.length m row).length ≤ m := by
            unfold growK
            rw [List.length_map]
            exact Nat.le_trans (List.length_filter_le _ _) (by simp)
          refine ⟨rfl, ?_⟩
          refine ⟨_, rfl, _, rfl, p, _, rfl, .inl (SqL.of (s3 _ _ hp2)), rfl, flat_ints row, _, rfl, ?_⟩
          have iv : (if true = true then !inV (.int (1 + (m : Int))) (row.map V.int) else inV (.int (1 + (m : Int))) (row.map V.int)) = decide ((1 : Int) + (m : Nat) ∉ row) := by
            rw [if_pos rfl, inV_int]
            simp
          refine ite2 (fun hc => ?_) (fun hc => ?_)
          · rw [iv] at hc
            have g := growK_succ ars.length m row
            rw [if_pos hc] at g
            refine ⟨_, rfl, _, rfl, (by show 1 ≤ sizeLine; decide), fun q hq => ?_⟩
            have s4 := same_new (o := .lst [V.int (1 + (m : Int))]) (Same.refl H3) hq
            refine ⟨p, q, _, _, rfl, rfl, s4 _ _ (s3 _ _ hp2), upd_same, Nat.le_of_lt (small1000 (by rw [List.length_map]; simp only [List.length_cons, List.length_nil]; omega)), fun q2 hq2 => ?_⟩
            have s5 := s4.trans (same_new (o := .lst (row.map V.int ++ [V.int (1 + (m : Int))])) (Same.refl _) hq2)
            refine ⟨ys, s5 _ _ e3, small1000 (by omega), ys ++ [.ref q2], same_new (s3.trans s5) hD, upd_same, ?_⟩
            rw [g]
            refine papp ((t3.same s5).upd) (.cons ⟨q2, rfl, (ne_of_none (s4 _ _ e3) hq2).symm, ?_⟩ .nil)
            rw [upd_ne (ne_of_none (s4 _ _ e3) hq2).symm, upd_same, List.map_append]
            rfl
          · rw [iv] at hc
            have g := growK_succ ars.length m row
            rw [if_neg hc, List.append_nil] at g
            exact ⟨ys, s3, e3, by rw [g]; exact t3⟩
        · rintro H3 ⟨ys, s3, e3, t3⟩
          have ee : (((its.length : Nat) : Int) + 1 - 1).toNat = ars.length := by omega
          rw [ee] at t3
          have ly := plen t3
          have lgg : (growK ars.length ars.length row).length ≤ ars.length := grow_len ars.length row
          refine ⟨lg, D, acc, ys, rfl, rfl, s3 _ _ e2, e3, Nat.le_trans (show acc.length + ys.length ≤ 46656 + 6 by omega) (by decide), fun q hq => ?_⟩
          have s4 := same_new (o := .lst (acc ++ ys)) (Same.refl H3) hq
          refine ⟨q, acc ++ ys, _, rfl, (s2.trans s3).trans s4, upd_same, ?_⟩
          rw [List.take_add_one, hrow, List.flatMap_append]
          exact papp ((t2.same s3).same s4) (by
            show RowL _ ys ([row].flatMap (growM ars.length))
            rw [List.flatMap_cons, List.flatMap_nil, List.append_nil]
            exact t3.row.same s4)
      · rintro σ H2 ⟨lg, acc, v6, rfl, s2, e2, t2⟩
        rw [lx, List.take_length] at t2
        exact ⟨_, rfl, lg, acc, _, _, _, rfl, s1.trans s2, e2, t2⟩
    · rintro σ H1 ⟨rw', xs, v4, v5, v6, rfl, s1, e1, t1⟩
      have ee : ((its.length : Nat) : Int).toNat = ars.length := by omega
      rw [ee] at t1
      have lx : xs.length = (rowsM ars.length ars.length).length := plen t1
      have bx : (rowsM ars.length ars.length).length ≤ 46656 := Nat.le_trans (rows_len _ _) (pow6 h6 h6)
      refine ⟨_, rfl, rw', rfl, ⟨_, SqL.of e1⟩, fun D hD => lc_list (xs := xs) (fun j H2 => ∃ ys : List V, Same H1 H2 ∧ H2 D = some (.lst ys) ∧ TupL H2 ys (((rowsM ars.length ars.length).take j).filter (leadsM ars en st))) ⟨[], same_new (Same.refl _) hD, upd_same, .nil⟩ (fun j H2 _ ⟨_, s2, _⟩ => SqL.of (s2 _ _ e1)) ?_ ?_⟩
      · rintro j x H2 hx ⟨ys, s2, e2, t2⟩
        obtain ⟨row, hrow, p, rfl, hp⟩ := pget t1 hx
        have hmem := rows_mem (List.mem_of_getElem? hrow)
        have hp2 := s2 _ _ hp
        refine ⟨rfl, ?_⟩
        refine ⟨_, rfl, _, rfl, _, rfl, _, rfl, p, ar, st, en, row, ars, rfl, hp2, ⟨its, s2 _ _ (s1 _ _ hA), (tA.same s1).same s2⟩, hmem.2, _, rfl, ?_⟩
        have tk : ((rowsM ars.length ars.length).take (j + 1)).filter (leadsM ars en st) = ((rowsM ars.length ars.length).take j).filter (leadsM ars en st) ++ if leadsM ars en st row = true then [row] else [] := by
          rw [List.take_add_one, hrow, List.filter_append]
          congr 1
          show List.filter _ [row] = _
          rw [List.filter_cons]
          rfl
        refine ite2 (fun hc => ?_) (fun hc => ?_)
        · rw [if_pos hc] at tk
          refine ⟨_, rfl, p, _, rfl, .inl ⟨SqL.of hp2, fun T hT => ?_⟩⟩
          have s3 := same_new (o := .tup (row.map V.int)) (Same.refl H2) hT
          have lt : ys.length < sizeLine := by
            have h1 := plen t2
            have h2 : (((rowsM ars.length ars.length).take j).filter (leadsM ars en st)).length ≤ 46656 := Nat.le_trans (List.length_filter_le _ _) (Nat.le_trans (by rw [List.length_take]; exact Nat.min_le_right _ _) bx)
            exact Nat.lt_of_le_of_lt (show ys.length ≤ 46656 by omega) (by decide)
          refine ⟨ys, s3 _ _ e2, lt, ys ++ [.ref T], same_new (s2.trans s3) hD, upd_same, ?_⟩
          rw [tk]
          exact papp ((t2.same s3).updL (s3 _ _ e2)) (.cons ⟨T, rfl, by rw [upd_ne (ne_of_none e2 hT).symm]; exact upd_same⟩ .nil)
        · rw [if_neg hc, List.append_nil] at tk
          exact ⟨ys, s2, e2, by rw [tk]; exact t2⟩
      · rintro H2 ⟨ys, s2, e2, t2⟩
        rw [lx, List.take_length] at t2
        exact k H2 D ys (s1.trans s2) (s1.free hD) e2 t2
end
end TG

namespace TG
/-! ### the plain law: the orders filtered are the trails -/
def walkTo (ars : List (Int × Int)) : Int → List Int → Option Int
  | a, [] => some a
  | a, p :: r => if (ars.getD (p - 1).toNat (0, 0)).1 = a then walkTo ars (ars.getD (p - 1).toNat (0, 0)).2 r else none
theorem walk_leads (ars : List (Int × Int)) (en : Int) : ∀ (r : List Int) (a : Int), leadsM ars en a r = decide (walkTo ars a r = some en)
  | [], a => by simp [leadsM, walkTo]
  | p :: r, a => by
    unfold leadsM walkTo
    by_cases h : (ars.getD (p - 1).toNat (0, 0)).1 = a
    · rw [if_pos h, if_pos h]
      exact walk_leads ars en r _
    · rw [if_neg h, if_neg h]
      simp
theorem walk_snoc (ars : List (Int × Int)) (p : Int) : ∀ (r : List Int) (a : Int), walkTo ars a (r ++ [p]) = (walkTo ars a r).bind fun b => if (ars.getD (p - 1).toNat (0, 0)).1 = b then some (ars.getD (p - 1).toNat (0, 0)).2 else none
  | [], a => rfl
  | q :: r, a => by
    show walkTo ars a (q :: (r ++ [p])) = _
    unfold walkTo
    by_cases h : (ars.getD (q - 1).toNat (0, 0)).1 = a
    · rw [if_pos h, if_pos h]
      exact walk_snoc ars p r _
    · rw [if_neg h, if_neg h]
      rfl
def gM (ars : List (Int × Int)) (st : Int) (r : List Int) : Option (List Int × Int) := (walkTo ars st r).map fun p => (r, p)
theorem longer_grow (ars : List (Int × Int)) (t : List Int) (p : Int) : ∀ (l : List (Int × Int)) (j : Nat), (∀ i (h : i < l.length), ars.getD (j + i) (0, 0) = l[i]) →
    longer t p (j + 1) l = (((List.range l.length).map fun i => (1 : Int) + ((j + i : Nat) : Int)).filter fun x => decide (x ∉ t)).filterMap fun x => if (ars.getD (x - 1).toNat (0, 0)).1 = p then some (t ++ [x], (ars.getD (x - 1).toNat (0, 0)).2) else none
  | [], j, _ => rfl
  | a :: l, j, h => by
    have ih := longer_grow ars t p l (j + 1) fun i hi => by
      have := h (i + 1) (by simp only [List.length_cons]; omega)
      rw [show j + 1 + i = j + (i + 1) by omega, this]
      rfl
    have e0 : ars.getD j (0, 0) = a := by
      have := h 0 (by simp)
      simpa using this
    unfold longer
    rw [ih, List.length_cons, List.range_succ_eq_map, List.map_cons, List.filter_cons]
    have tail : (List.map (fun i => (1 : Int) + ((j + i : Nat) : Int)) (List.map Nat.succ (List.range l.length))) = (List.range l.length).map fun i => (1 : Int) + ((j + 1 + i : Nat) : Int) := by
      rw [List.map_map]
      refine List.map_congr_left fun i _ => ?_
      show (1 : Int) + ((j + (i + 1) : Nat) : Int) = _
      congr 2
      omega
    rw [tail]
    have e1 : (1 : Int) + ((j + 0 : Nat) : Int) = ((j + 1 : Nat) : Int) := by omega
    have e2 : (((j + 1 : Nat) : Int) - 1).toNat = j := by omega
    rw [e1]
    by_cases hm : ((j + 1 : Nat) : Int) ∈ t
    · rw [if_neg (fun z => z.2 hm)]
      have : decide (((j + 1 : Nat) : Int) ∉ t) = false := decide_eq_false fun z => z hm
      rw [this]
      rfl
    · have : decide (((j + 1 : Nat) : Int) ∉ t) = true := decide_eq_true hm
      rw [this, if_pos rfl, List.filterMap_cons, e2, e0]
      by_cases ha : a.1 = p
      · rw [if_pos ⟨ha, hm⟩, if_pos ha]
        rfl
      · rw [if_neg (fun z => ha z.1), if_neg ha]
        rfl
theorem grow_step (ars : List (Int × Int)) (st : Int) (r : List Int) : (growM ars.length r).filterMap (gM ars st) = match gM ars st r with | none => [] | some x => longer x.1 x.2 1 ars := by
  unfold growM
  rw [List.filterMap_map]
  unfold gM
  cases h : walkTo ars st r with
  | none =>
    show List.filterMap _ _ = []
    rw [List.filterMap_eq_nil_iff]
    intro x _
    show Option.map _ (walkTo ars st (r ++ [x])) = none
    rw [walk_snoc, h]
    rfl
  | some p =>
    show List.filterMap _ _ = longer r p 1 ars
    have q := longer_grow ars r p ars 0 fun i hi => by rw [Nat.zero_add, List.getD_eq_getElem?_getD, List.getElem?_eq_getElem hi]; rfl
    have e : (List.range ars.length).map (fun i => (1 : Int) + ((0 + i : Nat) : Int)) = places ars.length := by
      unfold places
      refine List.map_congr_left fun i _ => ?_
      rw [Nat.zero_add]
    rw [e] at q
    rw [q]
    congr 1
    funext x
    show Option.map _ (walkTo ars st (r ++ [x])) = _
    rw [walk_snoc, h]
    show Option.map _ (if (ars.getD (x - 1).toNat (0, 0)).1 = p then some (ars.getD (x - 1).toNat (0, 0)).2 else none) = _
    by_cases hx : (ars.getD (x - 1).toNat (0, 0)).1 = p
    · rw [if_pos hx, if_pos hx]
      rfl
    · rw [if_neg hx, if_neg hx]
      rfl
theorem flatMap_filterMap {α β γ : Type} (g : α → Option β) (f : β → List γ) : ∀ l : List α, (l.filterMap g).flatMap f = l.flatMap fun a => match g a with | none => [] | some b => f b
  | [] => rfl
  | a :: l => by
    rw [List.filterMap_cons, List.flatMap_cons, ← flatMap_filterMap g f l]
    cases g a with
    | none => rfl
    | some b => rfl
theorem filterMap_flatMap {α β γ : Type} (f : α → List β) (g : β → Option γ) : ∀ l : List α, (l.flatMap f).filterMap g = l.flatMap fun a => (f a).filterMap g
  | [] => rfl
  | a :: l => by rw [List.flatMap_cons, List.flatMap_cons, List.filterMap_append, filterMap_flatMap f g l]
theorem rounds_rows (ars : List (Int × Int)) (st : Int) : ∀ k : Nat, rounds ars k [([], st)] = (rowsM ars.length k).filterMap (gM ars st)
  | 0 => rfl
  | k + 1 => by
    rw [rounds_succ, rounds_rows ars st k]
    show ((rowsM ars.length k).filterMap (gM ars st)).flatMap (fun x => longer x.1 x.2 1 ars) = ((rowsM ars.length k).flatMap (growM ars.length)).filterMap (gM ars st)
    rw [flatMap_filterMap, filterMap_flatMap]
    congr 1
    funext r
    rw [grow_step]
    cases gM ars st r <;> rfl
theorem due_trails (ars : List (Int × Int)) (st en : Int) : dueM ars st en = trailsM ars st en := by
  unfold dueM trailsM outs
  rw [rounds_rows, List.drop_zero]
  generalize rowsM ars.length ars.length = l
  induction l with
  | nil => rfl
  | cons r l ih =>
    rw [List.filter_cons, List.filterMap_cons, walk_leads, ih]
    unfold gM
    cases h : walkTo ars st r with
    | none => simp
    | some p =>
      by_cases hp : p = en
      · subst hp
        simp
      · simp [hp]
/-! ### the way back -/
theorem sub_len {α : Type} [DecidableEq α] : ∀ {l m : List α}, l.Nodup → (∀ x ∈ l, x ∈ m) → l.length ≤ m.length
  | [], _, _, _ => Nat.zero_le _
  | a :: l, m, h, s => by
    have h' := List.nodup_cons.mp h
    have q := sub_len (l := l) (m := m.erase a) h'.2 fun x hx => by
      have n : x ≠ a := fun e => h'.1 (e ▸ hx)
      exact (List.mem_erase_of_ne n).mpr (s x (List.mem_cons_of_mem _ hx))
    have e := List.length_erase_of_mem (s a List.mem_cons_self)
    have p : 0 < m.length := List.length_pos_of_mem (s a List.mem_cons_self)
    rw [List.length_cons]
    omega
theorem rows_iff {n : Nat} : ∀ {k : Nat} {x : List Int}, x ∈ rowsM n k ↔ (x.length = k ∧ x.Nodup ∧ ∀ p ∈ x, 1 ≤ p ∧ p ≤ (n : Int))
  | 0, x => by
    constructor
    · intro h
      rw [List.mem_singleton.mp h]
      exact ⟨rfl, .nil, fun p hp => by cases hp⟩
    · rintro ⟨h, _⟩
      exact List.mem_singleton.mpr (List.eq_nil_of_length_eq_zero h)
  | k + 1, x => by
    constructor
    · intro h
      obtain ⟨y, hy, hx⟩ := List.mem_flatMap.mp h
      obtain ⟨h1, h2, h3⟩ := rows_iff.mp hy
      unfold growM at hx
      obtain ⟨z, hz, rfl⟩ := List.mem_map.mp hx
      obtain ⟨hz1, hz2⟩ := List.mem_filter.mp hz
      obtain ⟨i, hi, rfl⟩ := List.mem_map.mp hz1
      have := List.mem_range.mp hi
      have nz := of_decide_eq_true hz2
      refine ⟨by simp [h1], ?_, fun p hp => ?_⟩
      · rw [List.nodup_append]
        refine ⟨h2, by simp, fun a ha b hb e => ?_⟩
        rw [List.mem_singleton.mp hb] at e
        exact nz (e ▸ ha)
      · rcases List.mem_append.mp hp with q | q
        · exact h3 p q
        · rw [List.mem_singleton.mp q]
          omega
    · rintro ⟨h1, h2, h3⟩
      have hne : x ≠ [] := fun e => by
        rw [e] at h1
        cases h1
      have e := List.dropLast_concat_getLast hne
      rw [← e] at h2
      obtain ⟨n1, _, n3⟩ := List.nodup_append.mp h2
      have hl := h3 _ (List.getLast_mem hne)
      refine List.mem_flatMap.mpr ⟨x.dropLast, rows_iff.mpr ⟨by simp [h1], n1, fun p hp => h3 p ((List.dropLast_sublist x).subset hp)⟩, ?_⟩
      unfold growM
      refine List.mem_map.mpr ⟨x.getLast hne, List.mem_filter.mpr ⟨List.mem_map.mpr ⟨(x.getLast hne - 1).toNat, List.mem_range.mpr (by omega), by omega⟩, decide_eq_true fun z => n3 _ z _ (List.mem_singleton_self _) rfl⟩, e⟩
theorem grow_nodup (n : Nat) (r : List Int) : (growM n r).Nodup := by
  unfold growM places
  rw [List.nodup_iff_pairwise_ne, List.pairwise_map]
  refine List.Pairwise.filter _ ?_
  rw [List.pairwise_map]
  refine List.Pairwise.imp (R := fun a b => a < b) (fun h e => ?_) List.pairwise_lt_range
  have q := List.append_cancel_left e
  injection q with q _
  omega
theorem flat_nodup {f : List Int → List (List Int)} (hf : ∀ r, (f r).Nodup) (hd : ∀ r r' x, x ∈ f r → x ∈ f r' → r = r') : ∀ {l : List (List Int)}, l.Nodup → (l.flatMap f).Nodup
  | [], _ => .nil
  | a :: l, h => by
    have h' := List.nodup_cons.mp h
    rw [List.flatMap_cons, List.nodup_append]
    refine ⟨hf a, flat_nodup hf hd h'.2, fun x hx y hy e => ?_⟩
    subst e
    obtain ⟨b, hb, hxb⟩ := List.mem_flatMap.mp hy
    exact h'.1 (hd a b x hx hxb ▸ hb)
theorem rows_nodup (n : Nat) : ∀ k : Nat, (rowsM n k).Nodup
  | 0 => by simp [rowsM]
  | k + 1 => flat_nodup (grow_nodup n) (fun r r' x h h' => by
      unfold growM at h h'
      obtain ⟨y, _, rfl⟩ := List.mem_map.mp h
      obtain ⟨z, _, e⟩ := List.mem_map.mp h'
      have q := congrArg List.dropLast e
      simp at q
      exact q.symm) (rows_nodup n k)
def turnM (ars : List (Int × Int)) : List (Int × Int) := ars.map fun a => (a.2, a.1)
theorem turn_len (ars : List (Int × Int)) : (turnM ars).length = ars.length := by simp [turnM]
theorem turn_turn (ars : List (Int × Int)) : turnM (turnM ars) = ars := by
  unfold turnM
  rw [List.map_map]
  exact List.map_id _
theorem turn_get (ars : List (Int × Int)) (i : Nat) : (turnM ars).getD i (0, 0) = ((ars.getD i (0, 0)).2, (ars.getD i (0, 0)).1) := by
  unfold turnM
  rw [List.getD_eq_getElem?_getD, List.getD_eq_getElem?_getD, List.getElem?_map]
  cases ars[i]? with
  | none => rfl
  | some a => rfl
theorem walk_back (ars : List (Int × Int)) : ∀ (r : List Int) (a b : Int), walkTo ars a r = some b → walkTo (turnM ars) b r.reverse = some a
  | [], a, b, h => by
    have : a = b := Option.some.inj h
    subst this
    rfl
  | p :: r, a, b, h => by
    unfold walkTo at h
    by_cases hp : (ars.getD (p - 1).toNat (0, 0)).1 = a
    · rw [if_pos hp] at h
      have ih := walk_back ars r _ b h
      rw [List.reverse_cons, walk_snoc, ih]
      show (if ((turnM ars).getD (p - 1).toNat (0, 0)).1 = _ then _ else none) = _
      rw [turn_get, if_pos rfl]
      exact congrArg some hp
    · rw [if_neg hp] at h
      cases h
theorem due_le (ars : List (Int × Int)) (st en : Int) : (dueM ars st en).length ≤ (dueM (turnM ars) en st).length := by
  have h : ((dueM ars st en).map List.reverse).length ≤ (dueM (turnM ars) en st).length := by
    refine sub_len ?_ fun x hx => ?_
    · rw [List.nodup_iff_pairwise_ne, List.pairwise_map]
      have nd : (dueM ars st en).Pairwise fun a b => a ≠ b := List.nodup_iff_pairwise_ne.mp ((rows_nodup ars.length ars.length).sublist List.filter_sublist)
      refine nd.imp fun {a b} h e => h ?_
      have q := congrArg List.reverse e
      simpa using q
    · obtain ⟨y, hy, rfl⟩ := List.mem_map.mp hx
      obtain ⟨h1, h2⟩ := List.mem_filter.mp hy
      obtain ⟨g1, g2, g3⟩ := rows_iff.mp h1
      rw [walk_leads] at h2
      refine List.mem_filter.mpr ⟨rows_iff.mpr ⟨by rw [List.length_reverse, turn_len, g1], ?_, fun p hp => by rw [turn_len]; exact g3 p (List.mem_reverse.mp hp)⟩, ?_⟩
      · exact List.nodup_iff_pairwise_ne.mpr (List.pairwise_reverse.mpr ((List.nodup_iff_pairwise_ne.mp g2).imp fun h => h.symm))
      · rw [walk_leads]
        exact decide_eq_true (walk_back ars y st en (of_decide_eq_true h2))
  rw [List.length_map] at h
  exact h
theorem trails_back (ars : List (Int × Int)) (st en : Int) : (trailsM ars st en).length = (trailsM (turnM ars) en st).length := by
  rw [← due_trails, ← due_trails]
  refine Nat.le_antisymm (due_le ars st en) ?_
  have h := due_le (turnM ars) en st
  rw [turn_turn] at h
  exact h
end TG

namespace TG
open PySem PySem.Spec PyProof.Rows L2
/-! ### equality of such data -/
def tD (x : List Int) : PyData := .tuple (x.map .int)
def lD (xs : List (List Int)) : PyData := .list (xs.map tD)
theorem ints_lay : ∀ x : List Int, PyData.canLayAll0 (x.map PyData.int) = true
  | [] => by simp [PyData.canLayAll0]
  | i :: x => by simp [PyData.canLayAll0, PyData.canLay0, ints_lay x]
theorem ints_depth : ∀ x : List Int, PyData.depthAll (x.map PyData.int) ≤ 1
  | [] => by simp [PyData.depthAll]
  | i :: x => by
    have := ints_depth x
    simp only [List.map_cons, PyData.depthAll, PyData.depth]
    omega
theorem tD_lay (x : List Int) : (tD x).canLay0 = true := by
  simp only [tD, PyData.canLay0]
  exact ints_lay x
theorem tD_depth (x : List Int) : (tD x).depth ≤ 2 := by
  have := ints_depth x
  simp only [tD, PyData.depth]
  omega
theorem tDs_lay : ∀ xs : List (List Int), PyData.canLayAll0 (xs.map tD) = true
  | [] => by simp [PyData.canLayAll0]
  | x :: xs => by simp [PyData.canLayAll0, tD_lay x, tDs_lay xs]
theorem tDs_depth : ∀ xs : List (List Int), PyData.depthAll (xs.map tD) ≤ 2
  | [] => by simp [PyData.depthAll]
  | x :: xs => by
    have h1 := tDs_depth xs
    have h2 := tD_depth x
    simp only [List.map_cons, PyData.depthAll]
    omega
theorem lD_lay (xs : List (List Int)) : (lD xs).canLay0 = true := by
  simp only [lD, PyData.canLay0]
  exact tDs_lay xs
theorem tD_shaped (x : List Int) : SeqAt.shaped (tD x) = true := by
  have h := tD_depth x
  show ((tD x).canLay0 && decide ((tD x).depth ≤ 64)) = true
  rw [Bool.and_eq_true]
  exact ⟨tD_lay x, decide_eq_true (by omega)⟩
theorem lD_shaped (xs : List (List Int)) : SeqAt.shaped (lD xs) = true := by
  have h1 := tDs_depth xs
  have h2 : (lD xs).depth ≤ 64 := by
    simp only [lD, PyData.depth]
    omega
  show ((lD xs).canLay0 && decide ((lD xs).depth ≤ 64)) = true
  rw [Bool.and_eq_true]
  exact ⟨lD_lay xs, decide_eq_true h2⟩
theorem tD_eqv (x : List Int) : PyData.eqv (tD x) (tD x) = true := SeqAt.eqv_refl _ (tD_lay x)
theorem lD_eqv (xs : List (List Int)) : PyData.eqv (lD xs) (lD xs) = true := SeqAt.eqv_refl _ (lD_lay xs)
theorem dp_ints {K : PySem.W.Frag} {H : Hp} : ∀ x : List Int, DpAll K H (x.map V.int) (x.map PyData.int)
  | [] => .nil
  | i :: x => .cons (.int i) (dp_ints x)
theorem dp_tup {K : PySem.W.Frag} {H : Hp} {T : Addr} {x : List Int} (h : H T = some (.tup (x.map V.int))) : Dp K H (.ref T) (tD x) := .tup (SqT.of h) (dp_ints x)
theorem dp_tups {K : PySem.W.Frag} {H : Hp} : ∀ {its : List V} {xs : List (List Int)}, TupL H its xs → DpAll K H its (xs.map tD)
  | _, _, .nil => .nil
  | _, _, .cons ⟨p, e, h⟩ r => by
    subst e
    exact .cons (dp_tup h) (dp_tups r)
theorem dp_lst {K : PySem.W.Frag} {H : Hp} {a : Addr} {its : List V} {xs : List (List Int)} (h : H a = some (.lst its)) (t : TupL H its xs) : Dp K H (.ref a) (lD xs) := .lst (SqL.of h) (dp_tups t)
theorem ArT.tups {H : Hp} {its : List V} {ars : List (Int × Int)} (t : ArT H its ars) : TupL H its (ars.map fun a => [a.1, a.2]) := by
  induction t with
  | nil => exact .nil
  | cons a _ ih => exact .cons a ih
theorem ne_off {A B : Prop} {b : Bool} (h : b = true) (q : B) : if (!b) = true then A else B := by
  rw [h]
  exact iteF q
def spSame : Sp := fun vs H Q _ => ∃ (t d : Addr) (i1 i2 : List V) (xs : List (List Int)), vs = [.ref t, .ref d] ∧ H t = some (.lst i1) ∧ TupL H i1 xs ∧ H d = some (.lst i2) ∧ TupL H i2 xs ∧ Q (.bl true) H
def spTurn : Sp := fun vs H Q _ => ∃ (ar tu du : Addr) (st en : Int) (ars : List (Int × Int)) (its : List V), vs = [.ref ar, .ref tu, .int st, .int en, .ref du] ∧ ArL H ar ars ∧ ArL H tu (turnM ars) ∧ ars.length ≤ 6 ∧ H du = some (.lst its) ∧ TupL H its (trailsM ars st en) ∧ ∀ H' : Hp, Same H H' → Q (.bl true) H'
section
variable {P : Program} {w : World} {K : PySem.W.Frag} {mg : Str → Option Value} {base : Heap}
theorem scSame : FnScope ["told", "due", "trail", "place"] ["told", "due"] (defScope sSame) := ⟨rfl, rfl, rfl, by decide +kernel, rfl, by decide +kernel, by decide +kernel⟩
theorem ok_same {f : Addr} {fd : FuncData} (F : Fun K "_law_same" "_law_same" sSame f fd) (B : Blt mg) : FnOk P w K mg base CX0 1 f fd ["told", "due"] spSame := by
  refine F.ok scSame (fun vs H Q E h => ?_) (fun cdv A outer s H vs Q E hr h => ?_)
  · obtain ⟨t, d, i1, i2, xs, rfl, _⟩ := h
    rfl
  · obtain ⟨t, d, i1, i2, xs, rfl, h1, t1, h2, t2, k⟩ := h
    have hu : A.units + 64 < cLine := by
      have q : A.units + 3 + 16 * 0 + 200 < cLine := hr.un
      omega
    have hu2 : (A.deeper (envOfC "_law_same" (defScope sSame) s.heap.objs.size f cdv)).units + 64 < cLine := by
      have q := hr.un
      omega
    refine ⟨_, pss_cons (ps_if (pt_cmpR (op_neD hu2) (pv 0) (pv 1) (nomark _)) (pss_one (ps_ret pe_bl)) pss_nil)
      (pss_cons (ps_for PassesOwn.never rfl (pi_list (pv 0)) (pg_name (i := 2) scSame.nd rfl (Or.inl rfl))
        (pss_cons (ps_if (pt_not (pt_val (pe_callB call_isi (by rfl) B.isi PyProof.Rows.boot_isinstance (pa_cons (pv 2) (pa_cons (pe_bltn (v := .ty "tuple") (by rfl) B.tuple (by decide +kernel) rfl) pa_nil))))) (pss_one (ps_ret pe_bl)) pss_nil)
        (pss_one (ps_for PassesOwn.never rfl (pi_tup (pv 2)) (pg_name (i := 3) scSame.nd rfl (Or.inl rfl))
          (pss_one (ps_if (PW.pt (pw_or (pt_not (pt_val (pe_callB call_isi (by rfl) B.isi PyProof.Rows.boot_isinstance (pa_cons (pv 3) (pa_cons (pe_bltn (v := .ty "int") (by rfl) B.int (by decide +kernel) rfl) pa_nil)))))
            (pw_or1 (pt_val (pe_callB call_isi (by rfl) B.isi PyProof.Rows.boot_isinstance (pa_cons (pv 3) (pa_cons (pe_bltn (v := .ty "bool") (by rfl) B.bool (by decide +kernel) rfl) pa_nil))))))) (pss_one (ps_ret pe_bl)) pss_nil))))))
      (pss_one (ps_ret pe_bl))), ?_⟩
    refine ⟨_, rfl, _, rfl, lD xs, lD xs, dp_lst h1 t1, dp_lst h2 t2, lD_shaped xs, lD_shaped xs, _, rfl, ?_⟩
    refine ne_off (lD_eqv xs) ?_
    refine ⟨_, rfl, t, rfl, ⟨_, SqL.of h1⟩, for_list (xs := i1) (fun i σ H' => H' = H ∧ ∃ v2 v3 : Option V, σ = [some (.ref t), some (.ref d), v2, v3]) ⟨rfl, none, none, rfl⟩ (fun i σ H' _ q => SqL.of (q.1 ▸ h1)) ?_ ?_⟩
    · rintro i x σ H' hx ⟨rfl, v2, v3, rfl⟩
      obtain ⟨row, hrow, p, rfl, hp⟩ := pget t1 hx
      refine ⟨_, rfl, .ref p, .ty "tuple", _, _, true, rfl, .ty _, .base (.tup hp), kit_ty (by decide +kernel), true, rfl, ?_⟩
      refine iteF ?_
      refine ⟨_, rfl, p, rfl, ⟨_, SqT.of hp⟩, for_tup (xs := row.map V.int) (fun j σ H2 => H2 = H' ∧ ∃ v3 : Option V, σ = [some (.ref t), some (.ref d), some (.ref p), v3]) ⟨rfl, v3, rfl⟩ (fun i σ H' _ q => SqT.of (q.1 ▸ hp)) ?_ ?_⟩
      · rintro j y σ H2 hy ⟨rfl, v3, rfl⟩
        obtain ⟨u, rfl⟩ : ∃ u : Int, y = .int u := by
          rw [List.getElem?_map] at hy
          cases e : row[j]? with
          | none =>
            rw [e] at hy
            cases hy
          | some u =>
            rw [e] at hy
            exact ⟨u, (Option.some.inj hy).symm⟩
        refine ⟨_, rfl, .int u, .ty "int", _, _, true, rfl, .ty _, .base (.int u), kit_ty (by decide +kernel), true, rfl, ?_⟩
        refine iteF ?_
        refine ⟨_, rfl, .int u, .ty "bool", _, _, false, rfl, .ty _, .base (.int u), kit_ty (by decide +kernel), false, rfl, ?_⟩
        exact iteF ⟨rfl, _, rfl⟩
      · rintro σ H2 ⟨rfl, v3, rfl⟩
        exact ⟨rfl, _, _, rfl⟩
    · rintro σ H' ⟨rfl, v2, v3, rfl⟩
      exact k
theorem scTurn : FnScope ["arrows", "turned", "start", "end", "due", "back", "count", "one", "other"] ["arrows", "turned", "start", "end", "due"] (defScope sTurn) := ⟨rfl, rfl, rfl, by decide +kernel, rfl, by decide +kernel, by decide +kernel⟩
theorem ok_turn {f f0 f1 : Addr} {fd fd1 : FuncData} (F : Fun K "_law_in_turn" "_law_in_turn" sTurn f fd) (B : Blt mg) (T : TDef K mg "trails" f0) (G1 : FnOk P w K mg base CX0 2 f1 fd1 ["arrows", "start", "end"] spDue) (m1 : mg "_law_due" = some (.ref f1)) (kp1 : PySem.W.keepIn K (.ref f1) = true) (b1 : Binds K fd1 ["arrows", "start", "end"] []) :
    FnOk P w K mg base CX0 4 f fd ["arrows", "turned", "start", "end", "due"] spTurn := by
  refine F.ok scTurn (fun vs H Q E h => ?_) (fun cdv A outer s H vs Q E hr h => ?_)
  · obtain ⟨ar, tu, du, st, en, ars, its, rfl, _⟩ := h
    rfl
  · obtain ⟨ar, tu, du, st, en, ars, its, rfl, hA, hT, h6, hD, tD', k⟩ := h
    have hu2 : (A.deeper (envOfC "_law_in_turn" (defScope sTurn) s.heap.objs.size f cdv)).units + 64 < cLine := by
      have q := hr.un
      omega
    refine ⟨_, pss_cons (ps_set (i := 5) scTurn.nd rfl (Or.inl rfl) (pe_call G1 (hr.mono (by decide)) rfl m1 kp1 b1 .nil pass0 (pa_cons (pv 1) (pa_cons (pv 3) (pa_cons (pv 2) pa_nil)))))
      (pss_cons (ps_set (i := 6) scTurn.nd rfl (Or.inl rfl) pe_int)
      (pss_cons (ps_forZ (ia := 0) (ib := 1) (ku := 2) (kv := 3) (j1 := 7) (j2 := 8) PassesOwn.never rfl T hr (by rfl) (by rfl) B.zip scTurn.nd rfl rfl rfl rfl rfl rfl (Or.inl rfl) (Or.inl rfl) (Or.inl rfl) (Or.inl rfl) rfl rfl
        (gcons (gif (PWg.pt (gor (gcmp gge (gvar 6) (glen (by rfl) B.len PySem.boot_len (gvar 4)) (nomark _)) (gor (gcmp (gne hu2) (gvar 7) (gix (gvar 4) (gvar 6) (fun _ _ => rfl)) (nomark _)) (gor1 (gcmp (gne hu2) (gvar 8) (gix (gvar 5) (gvar 6) (fun _ _ => rfl)) (nomark _)))))) (gone (gret gbl)) gnil)
        (gone (gset (i := 6) scTurn.nd rfl rfl (gop gadd (gvar 6) gint)))))
      (pss_one (ps_ret (pe_cmpR op_eq (pv 6) (pe_callB call_len_seq (by rfl) B.len PySem.boot_len (pa_cons (pv 4) pa_nil)) (nomark _)))))), ?_⟩
    refine ⟨_, rfl, _, rfl, _, rfl, tu, en, st, turnM ars, rfl, hT, by rw [turn_len]; exact h6, fun H1 bk ib s1 nb hB tB' => ?_⟩
    rw [due_trails] at tB'
    obtain ⟨ia, eA, tA⟩ := hA.same s1
    obtain ⟨it, eT, tT⟩ := hT.same s1
    refine ⟨ar, tu, st, en, ia, it, ars, turnM ars, ⟨rfl, rfl, rfl, rfl⟩, ⟨SqL.of eA, tA.arrs, SqL.of eT, tT.arrs⟩, ⟨h6, by rw [turn_len]; exact h6, trails_back ars st en⟩, fun n σ H2 => Same H1 H2 ∧ ∃ v7 v8 : Option V, σ = [some (.ref ar), some (.ref tu), some (.int st), some (.int en), some (.ref du), some (.ref bk), some (.int (n : Nat)), v7, v8], ⟨Same.refl _, none, none, rfl⟩, ?_, ?_⟩
    · rintro σ H2 ⟨s2, v7, v8, rfl⟩
      refine ⟨_, rfl, _, rfl, du, _, rfl, .inl (SqL.of (s2 _ _ (s1 _ _ hD))), rfl, ?_⟩
      have e : decide (V.int (((trailsM ars st en).length : Nat) : Int) = V.int ((its.length : Nat) : Int)) = true := decide_eq_true (by rw [plen tD'])
      show Q (V.bl (decide (V.int (((trailsM ars st en).length : Nat) : Int) = V.int ((its.length : Nat) : Int)))) H2
      rw [e]
      exact k _ (s1.trans s2)
    · rintro n x y σ H2 hx hy ⟨s2, v7, v8, rfl⟩ T1 T2 H3 s3 e1 e2
      have hn : n < (trailsM ars st en).length := (List.getElem?_eq_some_iff.mp hx).1
      have hD3 := s3 _ _ (s2 _ _ (s1 _ _ hD))
      have hB3 := s3 _ _ (s2 _ _ hB)
      have pgi : ∀ {l : List V} {m : List (List Int)} {z : List Int}, TupL H3 l m → m[n]? = some z → ∃ p, l[n]? = some (.ref p) ∧ H3 p = some (.tup (z.map V.int)) := fun {l m z} t e => by
        obtain ⟨hm, em⟩ := List.getElem?_eq_some_iff.mp e
        have hl : n < l.length := by
          have := plen t
          omega
        obtain ⟨b, hb, p, q1, q2⟩ := pget t (List.getElem?_eq_getElem hl)
        rw [e] at hb
        cases hb
        exact ⟨p, by rw [List.getElem?_eq_getElem hl, q1], q2⟩
      obtain ⟨p, hp1, hp2⟩ := pgi (((tD'.same s1).same s2).same s3) hx
      obtain ⟨q, hq1, hq2⟩ := pgi ((tB'.same s2).same s3) hy
      refine ⟨_, rfl, _, rfl, du, _, rfl, .inl (SqL.of hD3), _, _, rfl, rfl, _, rfl, ?_⟩
      have c1 : decide ((((its.length : Nat)) : Int) ≤ ((n : Nat) : Int)) = false := decide_eq_false (by have := plen tD'; omega)
      rw [c1]
      refine iteF ?_
      refine ⟨_, rfl, _, rfl, _, rfl, du, _, _, _, rfl, rfl, by omega, SqL.of hD3, by rw [Int.toNat_natCast]; exact hp1, tD x, tD x, dp_tup e1, dp_tup hp2, tD_shaped x, tD_shaped x, _, rfl, ?_⟩
      rw [tD_eqv]
      refine iteF ?_
      refine ⟨_, rfl, _, rfl, _, rfl, bk, _, _, _, rfl, rfl, by omega, SqL.of hB3, by rw [Int.toNat_natCast]; exact hq1, tD y, tD y, dp_tup e2, dp_tup hq2, tD_shaped y, tD_shaped y, _, rfl, ?_⟩
      rw [tD_eqv]
      refine iteF ?_
      exact ⟨_, rfl, _, _, rfl, rfl, rfl, s2.trans s3, _, _, rfl⟩
end
end TG

namespace TG
open PySem PySem.Spec PyProof.Rows L2
abbrev NL : List Str := ["script", "number", "points", "many", "order", "arrows", "start", "end", "due", "handed", "trail", "choice", "point", "first", "last", "turned", "arrow", "goal", "longer"]
theorem trails_fit {ars : List (Int × Int)} (h : ars.length ≤ 6) (st en : Int) : (trailsM ars st en).length ≤ sizeLine := by
  rw [← due_trails]
  exact Nat.le_trans (List.length_filter_le _ _) (Nat.le_trans (rows_len _ _) (Nat.le_trans (pow6 h h) (by decide)))
theorem off {A B : Prop} {b : Bool} (h : b = false) (q : B) : if b = true then A else B := by
  rw [h]
  exact iteF q
theorem tups_at {H : Hp} : ∀ {Ts : List Addr} {xs : List (List Int)}, Paired (fun T (x : List Int) => H T = some (.tup (x.map V.int))) Ts xs → TupL H (Ts.map V.ref) xs
  | _, _, .nil => .nil
  | _, _, .cons a r => .cons ⟨_, rfl, a⟩ (tups_at r)
theorem manyK (j : Int) (h0 : 0 ≤ j) (h1 : j < 9) : ∃ c : Nat, c ≤ 5 ∧ atI [V.int 4, .int 1, .int 3, .int 5, .int 0, .int 3, .int 4, .int 2, .int 5] j = some (.int (c : Nat)) := by
  have : j = 0 ∨ j = 1 ∨ j = 2 ∨ j = 3 ∨ j = 4 ∨ j = 5 ∨ j = 6 ∨ j = 7 ∨ j = 8 := by omega
  rcases this with rfl | rfl | rfl | rfl | rfl | rfl | rfl | rfl | rfl
  · exact ⟨4, by decide, rfl⟩
  · exact ⟨1, by decide, rfl⟩
  · exact ⟨3, by decide, rfl⟩
  · exact ⟨5, by decide, rfl⟩
  · exact ⟨0, by decide, rfl⟩
  · exact ⟨3, by decide, rfl⟩
  · exact ⟨4, by decide, rfl⟩
  · exact ⟨2, by decide, rfl⟩
  · exact ⟨5, by decide, rfl⟩
def spLaw (K : PySem.W.Frag) : Sp := fun vs H Q _ => ∃ (a : Addr) (ns : List Int), vs = [.ref a] ∧ SqL K H a (ns.map V.int) ∧ ns.length ≤ 63 ∧ ∀ H', Q (.bl true) H'
/-- the comprehension that turns the arrows -/
theorem lc_turn {K : PySem.W.Frag} {ar D : Addr} {its : List V} {ars : List (Int × Int)} {σ : L2.St} {H1 : Hp} {Qd : Hp → Prop} (hl : 16 < σ.length) (hD : H1 D = none) (eA : H1 ar = some (.lst its)) (tA : ArT H1 its ars) (h6 : ars.length ≤ 6)
    (hd : ∀ H2 acc, Same H1 H2 → H2 D = some (.lst acc) → ArT H2 acc (turnM ars) → Qd H2) :
    ∃ W : Nat → Nat → Hp → Prop, (∃ m, W 0 m (upd H1 D (.lst []))) ∧ ∀ i m H, W i m H →
      ((Itl K ar).stop i H ∧ Qd H) ∨ ((Itl K ar).go i H ∧ ∃ Nx : Hp → Prop, (∀ H', Nx H' → ∃ m', m' < m ∧ W (i + 1) m' H') ∧ ∀ x H', (Itl K ar).yld i H x H' → gName 16 x (wipe σ [16]) H' fun σ2 H2 => wipe σ2 [16] = wipe σ [16] ∧ tYes σ2 H2 fun b H3 =>
        if b = true then tTup (tCons (tOp (rIxT K) (tVar 16) (tC (.int 1))) (tCons (tOp (rIxT K) (tVar 16) (tC (.int 0))) tNil)) σ2 H3 fun y H4 => ∃ acc, H4 D = some (.lst acc) ∧ acc.length < sizeLine ∧ Nx (upd H4 D (.lst (acc ++ [y]))) else Nx H3) := by
  refine lc_list (xs := its) (fun i H2 => ∃ acc : List V, Same H1 H2 ∧ H2 D = some (.lst acc) ∧ ArT H2 acc ((turnM ars).take i)) ⟨[], same_new (Same.refl _) hD, upd_same, .nil⟩ (fun i H2 _ ⟨_, s2, _⟩ => SqL.of (s2 _ _ eA)) ?_ ?_
  · rintro i x H2 hx ⟨acc, s2, e2, t2⟩
    obtain ⟨b, hb, p, rfl, hp⟩ := pget tA hx
    have hi : i < ars.length := (List.getElem?_eq_some_iff.mp hb).1
    have hl2 : ((wipe σ [16]).set 16 (some (V.ref p)))[16]? = some (some (V.ref p)) := by
      rw [List.getElem?_set_self]
      rw [wipe_length]
      exact hl
    refine ⟨by show (((σ.set 16 none).set 16 (some (V.ref p))).set 16 none) = σ.set 16 none; simp, ?_⟩
    refine tyes ?_
    refine ⟨_, hl2, p, _, 1, .int b.2, rfl, rfl, SqT.of (s2 _ _ hp), rfl, _, hl2, p, _, 0, .int b.1, rfl, rfl, SqT.of (s2 _ _ hp), rfl, (by show 2 ≤ sizeLine; decide), fun t ht => ?_⟩
    have s3 := same_new (o := .tup [V.int b.2, V.int b.1]) (Same.refl H2) ht
    refine ⟨acc, s3 _ _ e2, small1000 (by have := plen t2; rw [List.length_take, turn_len] at this; omega), acc ++ [.ref t], same_new (s2.trans s3) hD, upd_same, ?_⟩
    rw [List.take_add_one]
    have hbt : (turnM ars)[i]? = some (b.2, b.1) := by
      unfold turnM
      rw [List.getElem?_map, hb]
      rfl
    rw [hbt]
    exact snoc2 ((t2.same s3).updL (s3 _ _ e2)) ⟨t, rfl, by rw [upd_ne (ne_of_none e2 ht).symm]; exact upd_same⟩
  · rintro H2 ⟨acc, s2, e2, t2⟩
    have e : its.length = (turnM ars).length := by rw [plen tA, turn_len]
    rw [e, List.take_length] at t2
    exact hd H2 acc s2 e2 t2
section
variable {P : Program} {w : World} {K : PySem.W.Frag} {mg : Str → Option Value} {base : Heap}
theorem scLaw : FnScope NL ["script"] (defScope sLaw) := ⟨rfl, rfl, rfl, by decide +kernel, rfl, by decide +kernel, by decide +kernel⟩
structure Fns (P : Program) (w : World) (K : PySem.W.Frag) (mg : Str → Option Value) (base : Heap) (f1 f2 f3 f4 f5 f6 f7 f8 : Addr) (g1 g2 g3 g4 g5 g6 g7 : FuncData) : Prop where
  G1 : FnOk P w K mg base CX0 2 f1 g1 ["script", "k"] (spNumber K)
  m1 : mg "_law_number" = some (.ref f1)
  k1 : PySem.W.keepIn K (.ref f1) = true
  b1 : Binds K g1 ["script", "k"] []
  G2 : FnOk P w K mg base CX0 3 f2 g2 ["script", "many"] (spPoints K)
  m2 : mg "_law_points" = some (.ref f2)
  k2 : PySem.W.keepIn K (.ref f2) = true
  b2 : Binds K g2 ["script", "many"] []
  G3 : FnOk P w K mg base CX0 1 f3 g3 ["number", "count"] spDrawn
  m3 : mg "_law_drawn" = some (.ref f3)
  k3 : PySem.W.keepIn K (.ref f3) = true
  b3 : Binds K g3 ["number", "count"] []
  G4 : FnOk P w K mg base CX0 1 f4 g4 ["number", "order", "points", "way"] (spArrows K)
  m4 : mg "_law_arrows" = some (.ref f4)
  k4 : PySem.W.keepIn K (.ref f4) = true
  b4 : Binds K g4 ["number", "order", "points", "way"] []
  G5 : FnOk P w K mg base CX0 2 f5 g5 ["arrows", "start", "end"] spDue
  m5 : mg "_law_due" = some (.ref f5)
  k5 : PySem.W.keepIn K (.ref f5) = true
  b5 : Binds K g5 ["arrows", "start", "end"] []
  G6 : FnOk P w K mg base CX0 1 f6 g6 ["told", "due"] spSame
  m6 : mg "_law_same" = some (.ref f6)
  k6 : PySem.W.keepIn K (.ref f6) = true
  b6 : Binds K g6 ["told", "due"] []
  G7 : FnOk P w K mg base CX0 4 f7 g7 ["arrows", "turned", "start", "end", "due"] spTurn
  m7 : mg "_law_in_turn" = some (.ref f7)
  k7 : PySem.W.keepIn K (.ref f7) = true
  b7 : Binds K g7 ["arrows", "turned", "start", "end", "due"] []
  T : TDef K mg "trails" f8
theorem ok_law {f f1 f2 f3 f4 f5 f6 f7 f8 : Addr} {fd g1 g2 g3 g4 g5 g6 g7 : FuncData} (F : Fun K "law" "law" sLaw f fd) (B : Blt mg) (S : Fns P w K mg base f1 f2 f3 f4 f5 f6 f7 f8 g1 g2 g3 g4 g5 g6 g7) : FnOk P w K mg base CX0 5 f fd ["script"] (spLaw K) := by
  refine F.ok scLaw (fun vs H Q E h => ?_) (fun cdv A outer s H vs Q E hr h => ?_)
  · obtain ⟨a, ns, rfl, _⟩ := h
    rfl
  · obtain ⟨a, ns, rfl, hS, hlen, k⟩ := h
    have hr1 : Room 1 _ := hr.mono (by decide)
    have hr2 : Room 2 _ := hr.mono (by decide)
    have hr3 : Room 3 _ := hr.mono (by decide)
    have hu2 : (A.deeper (envOfC "law" (defScope sLaw) s.heap.objs.size f cdv)).units + 64 < cLine := by
      have q := hr.un
      omega
    refine ⟨_, pss_cons (ps_set (i := 1) scLaw.nd rfl (Or.inl rfl) (pe_call S.G1 hr2 rfl S.m1 S.k1 S.b1 .nil pass0 (pa_cons (pv 0) (pa_cons pe_int pa_nil))))
      (pss_cons (ps_set (i := 2) scLaw.nd rfl (Or.inl rfl) (pe_call S.G2 hr3 rfl S.m2 S.k2 S.b2 .nil pass0 (pa_cons (pv 0) (pa_cons (pe_op op_add pe_int (pe_op op_mod (pe_callTy call_int1 (by rfl) B.int (by decide +kernel) (pa_cons (pv 1) pa_nil)) pe_int)) pa_nil))))
      (pss_cons (ps_set (i := 3) scLaw.nd rfl (Or.inl rfl) (pe_ix ix_list (pe_lst (pa_cons pe_int (pa_cons pe_int (pa_cons pe_int (pa_cons pe_int (pa_cons pe_int (pa_cons pe_int (pa_cons pe_int (pa_cons pe_int (pa_cons pe_int pa_nil))))))))))
        (pe_op op_mod (pe_callTy call_int1 (by rfl) B.int (by decide +kernel) (pa_cons (pe_op op_fdiv (pv 1) pe_int) pa_nil)) pe_int) (fun _ _ => rfl)))
      (pss_cons (ps_set (i := 4) scLaw.nd rfl (Or.inl rfl) (pe_call S.G3 hr1 rfl S.m3 S.k3 S.b3 .nil pass0 (pa_cons (pe_call S.G1 hr2 rfl S.m1 S.k1 S.b1 .nil pass0 (pa_cons (pv 0) (pa_cons pe_int pa_nil))) (pa_cons (pv 3) pa_nil))))
      (pss_cons (ps_asg (pe_call S.G4 hr1 rfl S.m4 S.k4 S.b4 .nil pass0 (pa_cons (pe_call S.G1 hr2 rfl S.m1 S.k1 S.b1 .nil pass0 (pa_cons (pv 0) (pa_cons pe_int pa_nil))) (pa_cons (pv 4) (pa_cons (pv 2) (pa_cons (pe_op op_mod (pe_callTy call_int1 (by rfl) B.int (by decide +kernel) (pa_cons (pe_op op_fdiv (pv 1) pe_int) pa_nil)) pe_int) pa_nil)))))
        (pg_tup rfl (pgs_cons (pg_name (i := 5) scLaw.nd rfl (Or.inl rfl)) (pgs_cons (pg_name (i := 6) scLaw.nd rfl (Or.inl rfl)) (pgs_cons (pg_name (i := 7) scLaw.nd rfl (Or.inl rfl)) pgs_nil)))))
      (pss_cons (ps_set (i := 8) scLaw.nd rfl (Or.inl rfl) (pe_call S.G5 hr2 rfl S.m5 S.k5 S.b5 .nil pass0 (pa_cons (pv 5) (pa_cons (pv 6) (pa_cons (pv 7) pa_nil)))))
      (pss_cons (ps_set (i := 9) scLaw.nd rfl (Or.inl rfl) (pe_callTy call_list_of (by rfl) B.list boot_list (pa_cons (pv 5) pa_nil)))
      (Evl.pss_cut (ps_forT (i := 10) PassesOwn.never rfl S.T hr3 (by rfl) (pa_cons (pv 9) (pa_cons (pv 6) (pa_cons (pv 7) pa_nil))) scLaw.nd rfl (Or.inl rfl)
        (pss_cons (ps_if (PW.pt (pw_or (pt_cmpR op_eq (pe_callB call_len_seq (by rfl) B.len PySem.boot_len (pa_cons (pv 8) pa_nil)) pe_int (nomark _)) (pw_or1 (pt_cmpR (op_neD hu2) (pv 10) (pe_ix ix_list (pv 8) pe_int (fun _ _ => rfl)) (nomark _))))) (pss_one (ps_ret pe_bl)) pss_nil)
          (pss_one ps_break)))
      (pss_cons (ps_set (i := 11) scLaw.nd rfl (Or.inl rfl) (pe_op op_cat (pv 2) (pe_lst (pa_cons (pe_op op_add (pe_callB (cr_max rfl) (by rfl) B.max (by decide +kernel) (pa_cons (pv 2) pa_nil)) pe_int) pa_nil))))
      (pss_cons (ps_for PassesOwn.never rfl (pi_list (pv 11)) (pg_name (i := 12) scLaw.nd rfl (Or.inl rfl))
        (pss_one (ps_if (pt_not (pt_val (pe_call S.G6 hr1 rfl S.m6 S.k6 S.b6 .nil pass0 (pa_cons (pe_listT S.T hr3 (by rfl) (pa_cons (pv 9) (pa_cons (pv 6) (pa_cons (pv 12) pa_nil))) (by rfl) B.list boot_list) (pa_cons (pe_call S.G5 hr2 rfl S.m5 S.k5 S.b5 .nil pass0 (pa_cons (pv 5) (pa_cons (pv 6) (pa_cons (pv 12) pa_nil)))) pa_nil)))))
          (pss_one (ps_ret pe_bl)) pss_nil)))
      (pss_cons (ps_set (i := 13) scLaw.nd rfl (Or.inl rfl) (pe_ix ix_list (pv 11) (pe_op op_mod (pe_callTy call_int1 (by rfl) B.int (by decide +kernel) (pa_cons (pe_call S.G1 hr2 rfl S.m1 S.k1 S.b1 .nil pass0 (pa_cons (pv 0) (pa_cons pe_int pa_nil))) pa_nil)) (pe_callB call_len_seq (by rfl) B.len PySem.boot_len (pa_cons (pv 11) pa_nil))) (fun _ _ => rfl)))
      (pss_cons (ps_set (i := 14) scLaw.nd rfl (Or.inl rfl) (pe_ix ix_list (pv 11) (pe_op op_mod (pe_callTy call_int1 (by rfl) B.int (by decide +kernel) (pa_cons (pe_call S.G1 hr2 rfl S.m1 S.k1 S.b1 .nil pass0 (pa_cons (pv 0) (pa_cons pe_int pa_nil))) pa_nil)) (pe_callB call_len_seq (by rfl) B.len PySem.boot_len (pa_cons (pv 11) pa_nil))) (fun _ _ => rfl)))
      (pss_cons (ps_if (pt_not (pt_val (pe_call S.G6 hr1 rfl S.m6 S.k6 S.b6 .nil pass0 (pa_cons (pe_listT S.T hr3 (by rfl) (pa_cons (pv 9) (pa_cons (pv 13) (pa_cons (pv 14) pa_nil))) (by rfl) B.list boot_list) (pa_cons (pe_call S.G5 hr2 rfl S.m5 S.k5 S.b5 .nil pass0 (pa_cons (pv 5) (pa_cons (pv 13) (pa_cons (pv 14) pa_nil)))) pa_nil)))))
          (pss_one (ps_ret pe_bl)) pss_nil)
      (pss_cons (ps_if (PW.pt (pw_or (pt_not (pt_val (pe_call S.G6 hr1 rfl S.m6 S.k6 S.b6 .nil pass0 (pa_cons (pe_listT S.T hr3 (by rfl) (pa_cons (pv 9) (pa_cons (pv 6) (pa_cons (pv 7) pa_nil))) (by rfl) B.list boot_list) (pa_cons (pv 8) pa_nil))))) (pw_or1 (pt_cmpR (op_neD hu2) (pv 9) (pv 5) (nomark _)))))
          (pss_one (ps_ret pe_bl)) pss_nil)
      (pss_cons (ps_setLc (i := 15) (own := [("arrow", 16)]) (g := gName 16) (tt := tYes) rfl scLaw.nd rfl rfl (sw_true rfl rfl rfl (by decide +kernel)) (pi_list (pv 5)) (blkOk_by (N := NL) (sc := defScope sLaw) (by decide +kernel)) (fun _ _ _ _ _ => pg_name (i := 16) scLaw.nd rfl (Or.inl rfl)) (fun _ _ _ _ _ => pts_nil)
          (fun _ _ _ _ _ => pe_tup (pa_cons (pe_ix (r := rIxT K) ix_tup (pv 16) pe_int (fun _ _ => rfl)) (pa_cons (pe_ix (r := rIxT K) ix_tup (pv 16) pe_int (fun _ _ => rfl)) pa_nil))))
      (pss_cons (ps_if (pt_not (pt_val (pe_call S.G7 hr rfl S.m7 S.k7 S.b7 .nil pass0 (pa_cons (pv 9) (pa_cons (pv 15) (pa_cons (pv 6) (pa_cons (pv 7) (pa_cons (pv 8) pa_nil)))))))) (pss_one (ps_ret pe_bl)) pss_nil)
      (pss_cons (ps_set (i := 17) scLaw.nd rfl (Or.inl rfl) (pe_ix ix_list (pv 2) (pe_op op_mod (pe_callTy call_int1 (by rfl) B.int (by decide +kernel) (pa_cons (pe_call S.G1 hr2 rfl S.m1 S.k1 S.b1 .nil pass0 (pa_cons (pv 0) (pa_cons pe_int pa_nil))) pa_nil)) (pe_callB call_len_seq (by rfl) B.len PySem.boot_len (pa_cons (pv 2) pa_nil))) (fun _ _ => rfl)))
      (pss_cons (ps_set (i := 18) scLaw.nd rfl (Or.inl rfl) (pe_op op_cat (pv 5) (pe_lst (pa_cons (pe_tup (pa_cons (pv 7) (pa_cons (pv 17) pa_nil))) pa_nil))))
      (pss_cons (ps_expr (pe_bm PySem.F.plainAttrs_list PySem.F.slot_list_append PySem.F.type_list_append mt_append (pv 9) (pa_cons (pe_tup (pa_cons (pv 7) (pa_cons (pv 17) pa_nil))) pa_nil)))
      (pss_cons (ps_if (pt_not (pt_val (pe_call S.G6 hr1 rfl S.m6 S.k6 S.b6 .nil pass0 (pa_cons (pe_listT S.T hr3 (by rfl) (pa_cons (pv 9) (pa_cons (pv 6) (pa_cons (pv 17) pa_nil))) (by rfl) B.list boot_list) (pa_cons (pe_call S.G5 hr2 rfl S.m5 S.k5 S.b5 .nil pass0 (pa_cons (pv 18) (pa_cons (pv 6) (pa_cons (pv 17) pa_nil)))) pa_nil)))))
          (pss_one (ps_ret pe_bl)) pss_nil)
      (pss_one (ps_ret (pe_and (pe_cmpR (op_eqD hu2) (pv 9) (pv 18) (nomark _)) (pe_one (pe_cmpR (op_eqD hu2) (pv 15) (pe_lc (own := [("arrow", 16)]) (g := gName 16) (tt := tYes) rfl scLaw.nd (pi_list (pv 5)) (blkOk_by (N := NL) (sc := defScope sLaw) (by decide +kernel)) (fun _ _ _ _ _ => pg_name (i := 16) scLaw.nd rfl (Or.inl rfl)) (fun _ _ _ _ _ => pts_nil)
          (fun _ _ _ _ _ => pe_tup (pa_cons (pe_ix (r := rIxT K) ix_tup (pv 16) pe_int (fun _ _ => rfl)) (pa_cons (pe_ix (r := rIxT K) ix_tup (pv 16) pe_int (fun _ _ => rfl)) pa_nil)))) (nomark _))))))))))))))))))))))))), ?_⟩
    -- number, points, many
    refine ⟨_, rfl, a, ns, 0, rfl, hS, by decide, fun n n0 => ?_⟩
    obtain ⟨m, em, m1, m4⟩ : ∃ m : Nat, 1 + n % 4 = (m : Int) ∧ 1 ≤ m ∧ m ≤ 4 := ⟨(1 + n % 4).toNat, by omega, by omega, by omega⟩
    refine ⟨_, rfl, _, rfl, .inl ⟨_, rfl, _, _, rfl, rfl, (by show (0 : Int) < 4; decide), _, _, rfl, rfl, a, ns, m, congrArg (fun z => [V.ref a, V.int z]) em, hS, m4, fun H1 p ps s1 np hP lp => ?_⟩⟩
    obtain ⟨c, c5, hc⟩ := manyK (n / 4 % 9) (by omega) (by omega)
    refine ⟨(by show 9 ≤ sizeLine; decide), fun l hl => ⟨_, rfl, _, _, rfl, rfl, ⟨by decide, by decide⟩, .inl ⟨_, rfl, _, _, rfl, rfl, (by show (0 : Int) < 9; decide), l, _, _, _, rfl, rfl, SqL.of upd_same, hc, ?_⟩⟩⟩
    have s2 := same_new (o := .lst [V.int 4, .int 1, .int 3, .int 5, .int 0, .int 3, .int 4, .int 2, .int 5]) (Same.refl H1) hl
    generalize upd H1 l (.lst [V.int 4, .int 1, .int 3, .int 5, .int 0, .int 3, .int 4, .int 2, .int 5]) = H2 at s2
    -- order
    refine ⟨_, rfl, a, ns, 3, rfl, s2.seq (s1.seq hS), by decide, fun n3 n30 => ⟨_, rfl, n3, c, rfl, n30, by omega, fun H3 o os s3 no hO lo rO => ?_⟩⟩
    have sq3 := s3.seq (s2.seq (s1.seq hS))
    -- arrows, start, end
    refine ⟨_, rfl, a, ns, 4, rfl, sq3, by decide, fun n4 n40 => ⟨_, rfl, _, rfl, _, rfl, _, _, rfl, rfl, ⟨by decide, by decide⟩, .inl ⟨_, rfl, _, _, rfl, rfl, (by show (0 : Int) < 4; decide), n4, _, o, p, os, ps, rfl, n40, hO, s3 _ _ (s2 _ _ hP), by omega, by omega, by omega, fun x hx => by rw [lo]; exact rO x hx, fun H4 t ar its ars st en s4 nar ht hA tA la => ?_⟩⟩⟩
    refine ⟨t, _, rfl, SqT.of ht, rfl, _, _, rfl, _, _, rfl, _, _, rfl, rfl, ?_⟩
    have h5 : ars.length ≤ 5 := by omega
    have h6 : ars.length ≤ 6 := by omega
    -- due, handed
    refine ⟨_, rfl, _, rfl, _, rfl, ar, st, en, ars, rfl, ⟨its, hA, tA⟩, h6, fun H5 du di s5 nd hD5 tD5 => ?_⟩
    rw [due_trails] at tD5
    refine ⟨_, rfl, ar, its, rfl, .inl (SqL.of (s5 _ _ hA)), fun hd hh => ?_⟩
    have s6 := same_new (o := .lst its) (Same.refl H5) hh
    have hH6 : upd H5 hd (.lst its) hd = some (.lst its) := upd_same
    generalize upd H5 hd (.lst its) = H6 at s6 hH6
    have hne : ar ≠ hd := ne_of_none (s5 _ _ hA) hh
    have s46 := s5.trans s6
    have sq6 : SqL K H6 a (ns.map V.int) := s46.seq (s4.seq sq3)
    have hP6 : H6 p = some (.lst (ps.map V.int)) := s46 _ _ (s4 _ _ (s3 _ _ (s2 _ _ hP)))
    have hA6 : H6 ar = some (.lst its) := s46 _ _ hA
    have tA6 : ArT H6 its ars := tA.same s46
    have hD6 : H6 du = some (.lst di) := s6 _ _ hD5
    have tD6 : TupL H6 di (trailsM ars st en) := tD5.same s6
    clear hD5 tD5 hA tA hh ht hO s46 s5 s6 s4 s3 s2 s1 sq3 hS hP
    -- for trail in trails(..): .. break
    refine ⟨fun σ' H' => Same H6 H' ∧ ∃ v10 : Option V, σ' = [some (.ref a), some (.int n), some (.ref p), some (.int c), some (.ref o), some (.ref ar), some (.int st), some (.int en), some (.ref du), some (.ref hd), v10, none, none, none, none, none, none, none, none], ?_, ?_⟩
    · refine ⟨_, rfl, _, rfl, _, rfl, hd, st, en, its, ars, rfl, SqL.of hH6, tA6.arrs, h6, fun _ => ⟨Same.refl _, none, rfl⟩, fun x r ex H7 T s7 nT hT => ?_⟩
      have tD7 := tD6.same s7
      rw [ex] at tD7
      cases tD7 with
      | cons hv rest =>
        obtain ⟨q, rfl, hq⟩ := hv
        refine ⟨_, rfl, du, _, rfl, .inl (SqL.of (s7 _ _ hD6)), rfl, _, rfl, ?_⟩
        refine off (decide_eq_false fun z => by injection z with z; simp at z; omega) ?_
        refine ⟨_, rfl, _, rfl, du, _, 0, .ref q, rfl, rfl, SqL.of (s7 _ _ hD6), atI_nat (j := 0) rfl, tD x, tD x, dp_tup hT, dp_tup hq, tD_shaped x, tD_shaped x, _, rfl, ?_⟩
        rw [tD_eqv]
        exact iteF ⟨s7, _, rfl⟩
    rintro σ' H7 ⟨s7, v10, rfl⟩
    -- choice
    refine ⟨_, rfl, _, rfl, p, ps, rfl, SqL.of (s7 _ _ hP6), by omega, fun mx hmx _ => ⟨_, _, rfl, rfl, (by show 1 ≤ sizeLine; decide), fun q hq => ?_⟩⟩
    have s8 := same_new (o := .lst [V.int (mx + 1)]) s7 (s7.free hq)
    have hP8 := s8 _ _ hP6
    have hq8 : upd H7 q (.lst [V.int (mx + 1)]) q = some (.lst [V.int (mx + 1)]) := upd_same
    generalize upd H7 q (.lst [V.int (mx + 1)]) = H8 at s8 hP8 hq8
    refine ⟨p, q, _, _, rfl, rfl, hP8, hq8, Nat.le_of_lt (small1000 (by rw [List.length_map]; simp only [List.length_cons, List.length_nil]; omega)), fun ch hch => ?_⟩
    have s9 := same_new (o := .lst (ps.map V.int ++ [V.int (mx + 1)])) s8 (s8.free hch)
    have hC9 : upd H8 ch (.lst (ps.map V.int ++ [V.int (mx + 1)])) ch = some (.lst ((ps ++ [mx + 1]).map V.int)) := by
      rw [upd_same, List.map_append]
      rfl
    generalize upd H8 ch (.lst (ps.map V.int ++ [V.int (mx + 1)])) = H9 at s9 hC9
    have cl : (ps ++ [mx + 1]).length = ps.length + 1 := by simp
    generalize ps ++ [mx + 1] = cs at hC9 cl
    clear hq8 hP8 s8 hq hch s7
    -- for point in choice
    refine ⟨_, rfl, ch, rfl, ⟨_, SqL.of hC9⟩, for_list (xs := cs.map V.int) (fun i σ H' => Same H9 H' ∧ ∃ v12 : Option V, σ = [some (.ref a), some (.int n), some (.ref p), some (.int c), some (.ref o), some (.ref ar), some (.int st), some (.int en), some (.ref du), some (.ref hd), v10, some (.ref ch), v12, none, none, none, none, none, none]) ⟨Same.refl _, none, rfl⟩ (fun i σ H' _ q => SqL.of (q.1 _ _ hC9)) ?_ ?_⟩
    · rintro i y σ H' hy ⟨s10, v12, rfl⟩
      obtain ⟨u, rfl⟩ : ∃ u : Int, y = .int u := by
        rw [List.getElem?_map] at hy
        cases e : cs[i]? with
        | none =>
          rw [e] at hy
          cases hy
        | some u =>
          rw [e] at hy
          exact ⟨u, (Option.some.inj hy).symm⟩
      have sT := s9.trans s10
      refine ⟨_, rfl, _, rfl, _, rfl, hd, st, u, its, ars, rfl, SqL.of (sT _ _ hH6), (tA6.same sT).arrs, h6, trails_fit h6 st u, fun H11 L Ts s11 nL hL tL => ?_⟩
      refine ⟨_, rfl, _, rfl, _, rfl, ar, st, u, ars, rfl, ⟨its, s11 _ _ (sT _ _ hA6), (tA6.same sT).same s11⟩, h6, fun H12 D2 d2 s12 nD2 hD2 tD2 => ?_⟩
      rw [due_trails] at tD2
      refine ⟨L, D2, _, _, _, rfl, s12 _ _ hL, (tups_at tL).same s12, hD2, tD2, true, rfl, ?_⟩
      exact iteF ⟨(s10.trans s11).trans s12, _, rfl⟩
    rintro σ H10 ⟨s10, v12, rfl⟩
    -- first, last
    have lc : (0 : Int) < ((cs.map V.int).length : Int) := by rw [List.length_map]; omega
    have mc : ∀ i : Int, 0 ≤ i % ((cs.map V.int).length : Int) ∧ i % ((cs.map V.int).length : Int) < cs.length := fun i => ⟨Int.emod_nonneg _ (by omega), by have := Int.emod_lt_of_pos i lc; rw [List.length_map] at this ⊢; exact this⟩
    have sT := s9.trans s10
    have sq10 := sT.seq sq6
    have hC10 := s10 _ _ hC9
    refine ⟨_, rfl, _, rfl, a, ns, 5, rfl, sq10, by decide, fun n5 _ => .inl ⟨_, rfl, _, rfl, ch, _, rfl, .inl (SqL.of hC10), _, _, rfl, rfl, lc, ch, _, _, _, rfl, rfl, SqL.of hC10, at_int (mc n5).1 (mc n5).2, ?_⟩⟩
    refine ⟨_, rfl, _, rfl, a, ns, 6, rfl, sq10, by decide, fun n6 _ => .inl ⟨_, rfl, _, rfl, ch, _, rfl, .inl (SqL.of hC10), _, _, rfl, rfl, lc, ch, _, _, _, rfl, rfl, SqL.of hC10, at_int (mc n6).1 (mc n6).2, ?_⟩⟩
    generalize cs.getD (n5 % ((cs.map V.int).length : Int)).toNat 0 = x1
    generalize cs.getD (n6 % ((cs.map V.int).length : Int)).toNat 0 = x2
    refine ⟨_, rfl, _, rfl, _, rfl, hd, x1, x2, its, ars, rfl, SqL.of (sT _ _ hH6), (tA6.same sT).arrs, h6, trails_fit h6 x1 x2, fun H11 L Ts s11 nL hL tL => ?_⟩
    refine ⟨_, rfl, _, rfl, _, rfl, ar, x1, x2, ars, rfl, ⟨its, s11 _ _ (sT _ _ hA6), (tA6.same sT).same s11⟩, h6, fun H12 D2 d2 s12 nD2 hD2 tD2 => ?_⟩
    rw [due_trails] at tD2
    refine ⟨L, D2, _, _, _, rfl, s12 _ _ hL, (tups_at tL).same s12, hD2, tD2, true, rfl, ?_⟩
    refine iteF ?_
    have sV := (sT.trans s11).trans s12
    clear hD2 tD2 hL tL nL nD2 s12 s11 s10 s9 hC9 hC10 sq10 sT
    -- if not _law_same(list(trails(handed, start, end)), due) or handed != arrows
    refine ⟨_, rfl, _, rfl, _, rfl, hd, st, en, its, ars, rfl, SqL.of (sV _ _ hH6), (tA6.same sV).arrs, h6, trails_fit h6 st en, fun H13 L Ts s13 nL hL tL => ?_⟩
    have sW := sV.trans s13
    refine ⟨_, rfl, L, du, _, _, _, rfl, hL, tups_at tL, sW _ _ hD6, tD6.same sW, true, rfl, ?_⟩
    refine iteF ?_
    refine ⟨_, rfl, _, rfl, _, _, dp_lst (sW _ _ hH6) (tA6.same sW).tups, dp_lst (sW _ _ hA6) (tA6.same sW).tups, lD_shaped _, lD_shaped _, _, rfl, ?_⟩
    refine ne_off (lD_eqv _) ?_
    clear hL tL nL s13 sV
    -- turned
    refine ⟨_, rfl, ar, rfl, ⟨_, SqL.of (sW _ _ hA6)⟩, fun tu htu => lc_turn (by show 16 < 19; decide) htu (sW _ _ hA6) (tA6.same sW) h6 fun H14 tl s14 hT tT => ?_⟩
    have sX := sW.trans s14
    have sW0 := sW
    refine ⟨_, rfl, _, rfl, _, rfl, _, rfl, _, rfl, hd, tu, du, st, en, ars, di, rfl, ⟨its, sX _ _ hH6, tA6.same sX⟩, ⟨tl, hT, tT⟩, h6, sX _ _ hD6, tD6.same sX, fun H15 s15 => ⟨true, rfl, ?_⟩⟩
    refine iteF ?_
    have sY := sX.trans s15
    have hT15 := s15 _ _ hT
    have tT15 := tT.same s15
    clear hT tT s15 sX s14 sW
    -- goal
    have lp' : (0 : Int) < ((ps.map V.int).length : Int) := by rw [List.length_map]; omega
    have mp : ∀ i : Int, 0 ≤ i % ((ps.map V.int).length : Int) ∧ i % ((ps.map V.int).length : Int) < ps.length := fun i => ⟨Int.emod_nonneg _ (by omega), by have := Int.emod_lt_of_pos i lp'; rw [List.length_map] at this ⊢; exact this⟩
    refine ⟨_, rfl, _, rfl, a, ns, 7, rfl, sY.seq sq6, by decide, fun n7 _ => .inl ⟨_, rfl, _, rfl, p, _, rfl, .inl (SqL.of (sY _ _ hP6)), _, _, rfl, rfl, lp', p, _, _, _, rfl, rfl, SqL.of (sY _ _ hP6), at_int (mp n7).1 (mp n7).2, ?_⟩⟩
    generalize ps.getD (n7 % ((ps.map V.int).length : Int)).toNat 0 = gl
    have hA15 := sY _ _ hA6
    have hH15 := sY _ _ hH6
    have tA15 := tA6.same sY
    have li : its.length = ars.length := plen tA6
    have nth : tu ≠ hd := fun q => by
      rw [q] at htu
      exact absurd (sW0 _ _ hH6) (by rw [htu]; exact fun z => by cases z)
    -- longer
    refine ⟨_, rfl, _, rfl, _, rfl, (by show 2 ≤ sizeLine; decide), fun t1 ht1 => ⟨(by show 1 ≤ sizeLine; decide), fun q hq => ?_⟩⟩
    have u1 := same_new (o := .tup [V.int en, V.int gl]) (Same.refl H15) ht1
    have e1 : upd H15 t1 (.tup [V.int en, V.int gl]) t1 = some (.tup [V.int en, V.int gl]) := upd_same
    generalize upd H15 t1 (.tup [V.int en, V.int gl]) = H16 at u1 e1 hq
    have u2 := same_new (o := .lst [V.ref t1]) (Same.refl H16) hq
    have e2 : upd H16 q (.lst [V.ref t1]) q = some (.lst [V.ref t1]) := upd_same
    generalize upd H16 q (.lst [V.ref t1]) = H17 at u2 e2
    refine ⟨ar, q, its, _, rfl, rfl, u2 _ _ (u1 _ _ hA15), e2, Nat.le_of_lt (small1000 (by simp only [List.length_cons, List.length_nil]; omega)), fun lg hlg => ?_⟩
    have u3 := same_new (o := .lst (its ++ [V.ref t1])) (Same.refl H17) hlg
    have e3 : upd H17 lg (.lst (its ++ [V.ref t1])) lg = some (.lst (its ++ [V.ref t1])) := upd_same
    generalize upd H17 lg (.lst (its ++ [V.ref t1])) = H18 at u3 e3
    -- handed.append
    have u4 := (u1.trans u2).trans u3
    refine ⟨_, rfl, .inl ⟨rfl, _, SqL.of (u4 _ _ hH15)⟩, _, rfl, _, rfl, (by show 2 ≤ sizeLine; decide), fun t2 ht2 => ?_⟩
    have u5 := same_new (o := .tup [V.int en, V.int gl]) (Same.refl H18) ht2
    have e5 : upd H18 t2 (.tup [V.int en, V.int gl]) t2 = some (.tup [V.int en, V.int gl]) := upd_same
    generalize upd H18 t2 (.tup [V.int en, V.int gl]) = H19 at u5 e5
    have hH19 := u5 _ _ (u4 _ _ hH15)
    have hA19 := u5 _ _ (u4 _ _ hA15)
    have hL19 := u5 _ _ e3
    have hT19 := u5 _ _ (u4 _ _ hT15)
    have tA19 := (tA15.same u4).same u5
    have tT19 := (tT15.same u4).same u5
    have e1' := u5 _ _ (u3 _ _ (u2 _ _ e1))
    refine ⟨hd, its, _, rfl, rfl, hH19, small1000 (by omega), ?_⟩
    have nlh : lg ≠ hd := fun z => by
      rw [z] at hlg
      exact absurd ((u1.trans u2) _ _ hH15) (by rw [hlg]; exact fun z => by cases z)
    have hH20 : upd H19 hd (.lst (its ++ [V.ref t2])) hd = some (.lst (its ++ [V.ref t2])) := upd_same
    have hA20 : upd H19 hd (.lst (its ++ [V.ref t2])) ar = some (.lst its) := by rw [upd_ne hne]; exact hA19
    have hL20 : upd H19 hd (.lst (its ++ [V.ref t2])) lg = some (.lst (its ++ [V.ref t1])) := by rw [upd_ne nlh]; exact hL19
    have hT20 : upd H19 hd (.lst (its ++ [V.ref t2])) tu = some (.lst tl) := by rw [upd_ne nth]; exact hT19
    have tA20 := tA19.updL (ys := its ++ [V.ref t2]) hH19
    have tT20 := tT19.updL (ys := its ++ [V.ref t2]) hH19
    have tL20 : ArT (upd H19 hd (.lst (its ++ [V.ref t2]))) (its ++ [V.ref t1]) (ars ++ [(en, gl)]) := snoc2 tA20 ⟨t1, rfl, by rw [upd_ne (ne_of e1' hH19 (by intro z; cases z))]; exact e1'⟩
    have tH20 : ArT (upd H19 hd (.lst (its ++ [V.ref t2]))) (its ++ [V.ref t2]) (ars ++ [(en, gl)]) := snoc2 tA20 ⟨t2, rfl, by rw [upd_ne (ne_of e5 hH19 (by intro z; cases z))]; exact e5⟩
    generalize upd H19 hd (.lst (its ++ [V.ref t2])) = H20 at hH20 hA20 hL20 hT20 tA20 tT20 tL20 tH20
    have h66 : (ars ++ [(en, gl)]).length ≤ 6 := by simp only [List.length_append, List.length_cons, List.length_nil]; omega
    -- if not _law_same(list(trails(handed, start, goal)), _law_due(longer, start, goal))
    refine ⟨_, rfl, _, rfl, _, rfl, hd, st, gl, _, _, rfl, SqL.of hH20, tH20.arrs, h66, trails_fit h66 st gl, fun H21 L Ts s21 nL hL tL => ?_⟩
    refine ⟨_, rfl, _, rfl, _, rfl, lg, st, gl, _, rfl, ⟨_, s21 _ _ hL20, tL20.same s21⟩, h66, fun H22 D2 d2 s22 nD2 hD2 tD2 => ?_⟩
    rw [due_trails] at tD2
    refine ⟨L, D2, _, _, _, rfl, s22 _ _ hL, (tups_at tL).same s22, hD2, tD2, true, rfl, ?_⟩
    refine iteF ?_
    have sZ := s21.trans s22
    -- return handed == longer and turned == [..]
    refine ⟨_, rfl, _, rfl, _, _, dp_lst (sZ _ _ hH20) (tH20.same sZ).tups, dp_lst (sZ _ _ hL20) (tL20.same sZ).tups, lD_shaped _, lD_shaped _, true, by rw [lD_eqv], ?_⟩
    refine iteT ?_
    refine ⟨_, rfl, _, rfl, ar, rfl, ⟨_, SqL.of (sZ _ _ hA20)⟩, fun D hD => lc_turn (by show 16 < 19; decide) hD (sZ _ _ hA20) (tA20.same sZ) h6 fun H23 acc s23 hF tF => ?_⟩
    refine ⟨_, _, dp_lst (s23 _ _ (sZ _ _ hT20)) ((tT20.same sZ).same s23).tups, dp_lst hF tF.tups, lD_shaped _, lD_shaped _, ?_⟩
    rw [lD_eqv]
    exact k _
end
end TG

namespace TG
open PySem PySem.Spec PyProof.Rows L2
theorem t_scope : TScope (defScope (top 1)) := ⟨rfl, rfl, rfl, rfl⟩
theorem t_body : TBody (defBody (top 1)) := .mk (q2 := 0) rfl
theorem all_mk {l : PySem.W.OpenLaw} {w : World} {K : PySem.W.Frag} {h : Heap} {mg : Str → Option Value} {fa f1 f2 f3 f4 f5 f6 f7 f8 f9 f10 f11 : Addr} (X : K.In h) (G : h.Ns mainGlobals mg) (hfa : mg "law" = some (.ref fa))
    {od1 an1 od2 an2 od3 an3 od4 an4 od5 an5 od6 an6 od7 an7 od8 an8 od9 an9 od10 an10 od11 an11 : Option Addr} {sl1 sl2 sl3 sl4 sl5 sl6 sl7 sl8 sl9 sl10 sl11 : Array (Option Value)} {oc1 kV1 dc1 pm1 cd1 ct1 oc2 kV2 dc2 pm2 cd2 ct2 oc3 kV3 dc3 pm3 cd3 ct3 oc4 kV4 dc4 pm4 cd4 ct4 oc5 kV5 dc5 pm5 cd5 ct5 oc6 kV6 dc6 pm6 cd6 ct6 oc7 kV7 dc7 pm7 cd7 ct7 oc8 kV8 dc8 pm8 cd8 ct8 oc9 kV9 dc9 pm9 cd9 ct9 oc10 kV10 dc10 pm10 cd10 ct10 oc11 kV11 dc11 pm11 cd11 ct11 : Value}
    (a1 : PySem.W.nsIn K mainGlobals "_law_cell" = some (some (.ref f1))) (l1 : K.lookup f1 = some ⟨oc1, od1, .func (PySem.W.fnOf "_law_cell" "_law_cell" (defArgs sCell) (defBody sCell) (defScope sCell) .none kV1 dc1 pm1 an1 cd1 ct1), sl1⟩) (c1 : PySem.W.codeIn K cd1 "_law_cell" = true) (k1 : PySem.W.keepIn K (.ref f1) = true)
    (a2 : PySem.W.nsIn K mainGlobals "_law_number" = some (some (.ref f2))) (l2 : K.lookup f2 = some ⟨oc2, od2, .func (PySem.W.fnOf "_law_number" "_law_number" (defArgs sNumber) (defBody sNumber) (defScope sNumber) .none kV2 dc2 pm2 an2 cd2 ct2), sl2⟩) (c2 : PySem.W.codeIn K cd2 "_law_number" = true) (k2 : PySem.W.keepIn K (.ref f2) = true)
    (a3 : PySem.W.nsIn K mainGlobals "_law_drawn" = some (some (.ref f3))) (l3 : K.lookup f3 = some ⟨oc3, od3, .func (PySem.W.fnOf "_law_drawn" "_law_drawn" (defArgs sDrawn) (defBody sDrawn) (defScope sDrawn) .none kV3 dc3 pm3 an3 cd3 ct3), sl3⟩) (c3 : PySem.W.codeIn K cd3 "_law_drawn" = true) (k3 : PySem.W.keepIn K (.ref f3) = true)
    (a4 : PySem.W.nsIn K mainGlobals "_law_points" = some (some (.ref f4))) (l4 : K.lookup f4 = some ⟨oc4, od4, .func (PySem.W.fnOf "_law_points" "_law_points" (defArgs sPoints) (defBody sPoints) (defScope sPoints) .none kV4 dc4 pm4 an4 cd4 ct4), sl4⟩) (c4 : PySem.W.codeIn K cd4 "_law_points" = true) (k4 : PySem.W.keepIn K (.ref f4) = true)
    (a5 : PySem.W.nsIn K mainGlobals "_law_arrows" = some (some (.ref f5))) (l5 : K.lookup f5 = some ⟨oc5, od5, .func (PySem.W.fnOf "_law_arrows" "_law_arrows" (defArgs sArrows) (defBody sArrows) (defScope sArrows) .none kV5 dc5 pm5 an5 cd5 ct5), sl5⟩) (c5 : PySem.W.codeIn K cd5 "_law_arrows" = true) (k5 : PySem.W.keepIn K (.ref f5) = true)
    (a6 : PySem.W.nsIn K mainGlobals "_law_leads" = some (some (.ref f6))) (l6 : K.lookup f6 = some ⟨oc6, od6, .func (PySem.W.fnOf "_law_leads" "_law_leads" (defArgs sLeads) (defBody sLeads) (defScope sLeads) .none kV6 dc6 pm6 an6 cd6 ct6), sl6⟩) (c6 : PySem.W.codeIn K cd6 "_law_leads" = true) (k6 : PySem.W.keepIn K (.ref f6) = true)
    (a7 : PySem.W.nsIn K mainGlobals "_law_due" = some (some (.ref f7))) (l7 : K.lookup f7 = some ⟨oc7, od7, .func (PySem.W.fnOf "_law_due" "_law_due" (defArgs sDue) (defBody sDue) (defScope sDue) .none kV7 dc7 pm7 an7 cd7 ct7), sl7⟩) (c7 : PySem.W.codeIn K cd7 "_law_due" = true) (k7 : PySem.W.keepIn K (.ref f7) = true)
    (a8 : PySem.W.nsIn K mainGlobals "_law_same" = some (some (.ref f8))) (l8 : K.lookup f8 = some ⟨oc8, od8, .func (PySem.W.fnOf "_law_same" "_law_same" (defArgs sSame) (defBody sSame) (defScope sSame) .none kV8 dc8 pm8 an8 cd8 ct8), sl8⟩) (c8 : PySem.W.codeIn K cd8 "_law_same" = true) (k8 : PySem.W.keepIn K (.ref f8) = true)
    (a9 : PySem.W.nsIn K mainGlobals "_law_in_turn" = some (some (.ref f9))) (l9 : K.lookup f9 = some ⟨oc9, od9, .func (PySem.W.fnOf "_law_in_turn" "_law_in_turn" (defArgs sTurn) (defBody sTurn) (defScope sTurn) .none kV9 dc9 pm9 an9 cd9 ct9), sl9⟩) (c9 : PySem.W.codeIn K cd9 "_law_in_turn" = true) (k9 : PySem.W.keepIn K (.ref f9) = true)
    (a10 : PySem.W.nsIn K mainGlobals "law" = some (some (.ref f10))) (l10 : K.lookup f10 = some ⟨oc10, od10, .func (PySem.W.fnOf "law" "law" (defArgs sLaw) (defBody sLaw) (defScope sLaw) .none kV10 dc10 pm10 an10 cd10 ct10), sl10⟩) (c10 : PySem.W.codeIn K cd10 "law" = true) (k10 : PySem.W.keepIn K (.ref f10) = true)
    (a11 : PySem.W.nsIn K mainGlobals "trails" = some (some (.ref f11))) (l11 : K.lookup f11 = some ⟨oc11, od11, .func (PySem.W.fnOf "trails" "trails" (defArgs (top 1)) (defBody (top 1)) (defScope (top 1)) .none kV11 dc11 pm11 an11 cd11 ct11), sl11⟩) (c11 : PySem.W.codeIn K cd11 "trails" = true) (k11 : PySem.W.keepIn K (.ref f11) = true)
    (z1 : PySem.W.nsIn K mainGlobals "len" = some none) (z2 : PySem.W.nsIn K mainGlobals "abs" = some none) (z3 : PySem.W.nsIn K mainGlobals "int" = some none) (z4 : PySem.W.nsIn K mainGlobals "range" = some none) (z5 : PySem.W.nsIn K mainGlobals "list" = some none) (z6 : PySem.W.nsIn K mainGlobals "tuple" = some none) (z7 : PySem.W.nsIn K mainGlobals "isinstance" = some none) (z8 : PySem.W.nsIn K mainGlobals "bool" = some none) (z9 : PySem.W.nsIn K mainGlobals "max" = some none) (z10 : PySem.W.nsIn K mainGlobals "zip" = some none) (z11 : PySem.W.nsIn K mainGlobals "enumerate" = some none) :
    ∃ fd : FuncData, (∀ (s : Shared) (v : Value), BindsTo s fd ⟨[v], []⟩ [("script", v)]) ∧ ∀ base : Heap, K.In base → base.Ns mainGlobals mg → FnOk l.prog w K mg base CX0 5 fa fd ["script"] (spLaw K) := by
  have e := hfa.symm.trans (PySem.W.mg_of X G a10)
  cases e
  have B : Blt mg := ⟨PySem.W.mg_none_of X G z1, PySem.W.mg_none_of X G z2, PySem.W.mg_none_of X G z3, PySem.W.mg_none_of X G z4, PySem.W.mg_none_of X G z5, PySem.W.mg_none_of X G z6, PySem.W.mg_none_of X G z7, PySem.W.mg_none_of X G z8, PySem.W.mg_none_of X G z9, PySem.W.mg_none_of X G z10⟩
  have T : TDef K mg "trails" f11 := ⟨⟨_, _, _, _, _, _, _, _, _, _, _, _, _, _, _, l11, c11, t_scope, t_body, fun _ _ _ => rfl⟩, PySem.W.mg_of X G a11, k11, PySem.W.mg_none_of X G z11⟩
  have F1 := fun_mk (st := sCell) l1 c1 k1
  have b1 := F1.binds (ps := ["script", "k"]) fun _ _ _ _ _ _ us hl => match us, hl with | [_, _], _ => rfl
  have F2 := fun_mk (st := sNumber) l2 c2 k2
  have b2 := F2.binds (ps := ["script", "k"]) fun _ _ _ _ _ _ us hl => match us, hl with | [_, _], _ => rfl
  have F3 := fun_mk (st := sDrawn) l3 c3 k3
  have b3 := F3.binds (ps := ["number", "count"]) fun _ _ _ _ _ _ us hl => match us, hl with | [_, _], _ => rfl
  have F4 := fun_mk (st := sPoints) l4 c4 k4
  have b4 := F4.binds (ps := ["script", "many"]) fun _ _ _ _ _ _ us hl => match us, hl with | [_, _], _ => rfl
  have F5 := fun_mk (st := sArrows) l5 c5 k5
  have b5 := F5.binds (ps := ["number", "order", "points", "way"]) fun _ _ _ _ _ _ us hl => match us, hl with | [_, _, _, _], _ => rfl
  have F6 := fun_mk (st := sLeads) l6 c6 k6
  have b6 := F6.binds (ps := ["row", "arrows", "start", "end"]) fun _ _ _ _ _ _ us hl => match us, hl with | [_, _, _, _], _ => rfl
  have F7 := fun_mk (st := sDue) l7 c7 k7
  have b7 := F7.binds (ps := ["arrows", "start", "end"]) fun _ _ _ _ _ _ us hl => match us, hl with | [_, _, _], _ => rfl
  have F8 := fun_mk (st := sSame) l8 c8 k8
  have b8 := F8.binds (ps := ["told", "due"]) fun _ _ _ _ _ _ us hl => match us, hl with | [_, _], _ => rfl
  have F9 := fun_mk (st := sTurn) l9 c9 k9
  have b9 := F9.binds (ps := ["arrows", "turned", "start", "end", "due"]) fun _ _ _ _ _ _ us hl => match us, hl with | [_, _, _, _, _], _ => rfl
  have F10 := fun_mk (st := sLaw) l10 c10 k10
  refine ⟨PySem.W.fnOf "law" "law" (defArgs sLaw) (defBody sLaw) (defScope sLaw) .none kV10 dc10 pm10 an10 cd10 ct10, fun s v => .of_eq rfl, fun base _ _ => ?_⟩
  have GN : FnOk l.prog w K mg base CX0 2 f2 _ ["script", "k"] (spNumber K) := ok_number F2 B F1 (PySem.W.mg_of X G a1) b1
  have GD : FnOk l.prog w K mg base CX0 2 f7 _ ["arrows", "start", "end"] spDue := ok_due F7 B F6 (PySem.W.mg_of X G a6) b6
  exact ok_law F10 B ⟨GN, PySem.W.mg_of X G a2, k2, b2, ok_points F4 B GN (PySem.W.mg_of X G a2) k2 b2, PySem.W.mg_of X G a4, k4, b4, ok_drawn F3 B, PySem.W.mg_of X G a3, k3, b3, ok_arrows F5 B, PySem.W.mg_of X G a5, k5, b5, GD, PySem.W.mg_of X G a7, k7, b7, ok_same F8 B, PySem.W.mg_of X G a8, k8, b8,
    ok_turn F9 B T GD (PySem.W.mg_of X G a7) k7 b7, PySem.W.mg_of X G a9, k9, b9, T⟩
theorem walk {l : PySem.W.OpenLaw} {q : Program} {loose : List Str} {XP : (Str → Option Value) → Heap → Prop} {YP : World → Heap → Prop} {d : DefRec} {K : Params → PySem.W.Frag} (hn : l.most = some 63) (hdf : d.params.defaults = [])
    (hY : ∀ (w : World) (h : Heap), YP w h → (K w.params).In h)
    (F : ∀ (w : World) (mg : Str → Option Value) (fa : Addr) (h : Heap), (K w.params).In h → h.Ns mainGlobals mg → mg d.name = some (.ref fa) →
      ∃ fd : FuncData, (∀ (s : Shared) (u : Value), BindsTo s fd ⟨[u], []⟩ [("script", u)]) ∧ ∀ base : Heap, (K w.params).In base → base.Ns mainGlobals mg → FnOk l.prog w (K w.params) mg base CX0 5 fa fd ["script"] (spLaw (K w.params))) :
    PySem.W.WalkO q loose XP YP l.row.toRowW d [] (fun f vs => PySem.call f vs) :=
  L2.walk_of (n := 63) (k := 5) (x := "script") (CX := fun _ => CX0) (sp := fun w => spLaw (K w.params)) hn (by decide) hdf ⟨rfl, by decide, by decide⟩ hY F (fun _ _ a ns hl _ hS => ⟨a, ns, rfl, hS, hl, fun _ => rfl⟩) fun _ _ _ _ _ z => z
end TG

open PySem PySem.W PyProof.Rows in
set_option maxRecDepth 100000 in
set_option maxHeartbeats 0 in
theorem PySem.Challenge.cw_tablelaws_k68_trails_listed_holds : PySem.Challenge.rw_tablelaws_k68_trails_listed.Holds := by
  w_on; o_law; k_head; (case hw => w_witness2)
  k_fill
  refine TG.walk (l := PySem.Challenge.rw_tablelaws_k68_trails_listed) rfl rfl (fun w h Y => PySem.W.kIn_of Y) ?F
  case F =>
    intro w mg fa h KX G hmg
    refine' TG.all_mk KX G hmg ?a1 ?l1 ?c1 ?k1 ?a2 ?l2 ?c2 ?k2 ?a3 ?l3 ?c3 ?k3 ?a4 ?l4 ?c4 ?k4 ?a5 ?l5 ?c5 ?k5 ?a6 ?l6 ?c6 ?k6 ?a7 ?l7 ?c7 ?k7 ?a8 ?l8 ?c8 ?k8 ?a9 ?l9 ?c9 ?k9 ?a10 ?l10 ?c10 ?k10 ?a11 ?l11 ?c11 ?k11 ?z1 ?z2 ?z3 ?z4 ?z5 ?z6 ?z7 ?z8 ?z9 ?z10 ?z11
    (case a1 => k_is)
    (case l1 => k_is)
    (case c1 => k_is)
    (case k1 => k_is)
    (case a2 => k_is)
    (case l2 => k_is)
    (case c2 => k_is)
    (case k2 => k_is)
    (case a3 => k_is)
    (case l3 => k_is)
    (case c3 => k_is)
    (case k3 => k_is)
    (case a4 => k_is)
    (case l4 => k_is)
    (case c4 => k_is)
    (case k4 => k_is)
    (case a5 => k_is)
    (case l5 => k_is)
    (case c5 => k_is)
    (case k5 => k_is)
    (case a6 => k_is)
    (case l6 => k_is)
    (case c6 => k_is)
    (case k6 => k_is)
    (case a7 => k_is)
    (case l7 => k_is)
    (case c7 => k_is)
    (case k7 => k_is)
    (case a8 => k_is)
    (case l8 => k_is)
    (case c8 => k_is)
    (case k8 => k_is)
    (case a9 => k_is)
    (case l9 => k_is)
    (case c9 => k_is)
    (case k9 => k_is)
    (case a10 => k_is)
    (case l10 => k_is)
    (case c10 => k_is)
    (case k10 => k_is)
    (case a11 => k_is)
    (case l11 => k_is)
    (case c11 => k_is)
    (case k11 => k_is)
    (case z1 => k_is)
    (case z2 => k_is)
    (case z3 => k_is)
    (case z4 => k_is)
    (case z5 => k_is)
    (case z6 => k_is)
    (case z7 => k_is)
    (case z8 => k_is)
    (case z9 => k_is)
    (case z10 => k_is)
    (case z11 => k_is)
#print axioms PySem.Challenge.cw_tablelaws_k68_trails_listed_holds

