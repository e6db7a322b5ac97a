import PyProof.Rows.All
import Wide.All
import OpenK.AllK
import Wide.FinOn
import PySem.Challenge.RW_pq0452_01
open PySem PySem.W PyProof.Rows
set_option Elab.async false
set_option compiler.extract_closed false

/-! ## Hd -/
theorem Mine.reset_Hd : True := by
  w_top off
  first | walk1 | trivial
section
open PySem PySem.W PyProof.Rows
set_option Elab.async false
set_option maxRecDepth 100000
set_option maxHeartbeats 8000000
namespace Mine
theorem law_said : PySem.Challenge.rw_pq0452_01.wellSaid = true := by kernel_rfl
def keptOf : List Stmt → List Stmt
  | [a, _, b, c, _, d, e, _, f, _, g, _, h, i, j, k] => [a, b, c, d, e, f, g, h, i, j, k]
  | _ => []
def view : Program := { PySem.Challenge.rw_pq0452_01.row.toRowW.prog with main := { PySem.Challenge.rw_pq0452_01.row.toRowW.prog.main with body := keptOf PySem.Challenge.rw_pq0452_01.row.toRowW.prog.main.body } }
theorem view_ok : (chainsOk view && opensWell PySem.Challenge.rw_pq0452_01.row.prog && (frees PySem.Challenge.rw_pq0452_01.row.toRowW && PySem.Challenge.rw_pq0452_01.row.within.isEmpty)) = true := by kernel_rfl
set_option hygiene false
local macro_rules | `(tactic| o_law) => `(tactic| (refine holds_law (l := PySem.Challenge.rw_pq0452_01) law_said fun said => ?_))
local macro_rules | `(tactic| o_head $H) => `(tactic| (
  refine holds_open (q := Mine.view) (loose := [Str.ofString "GateloomError"]) (Xt := fun s => xlAt Mine.view [] s && recOk (RowW.records PySem.Challenge.rw_pq0452_01.row.toRowW) s) (XP := XL Mine.view []) (Yf := Hook.obs $H) (Ya := Hook.val $H) (YP := Hook.says $H) (N := 3514) ?hl (Hook.of $H) (Hook.keeps $H) (fun s e => xl_of s (Bool.and_eq_true_iff.mp e).1) XL.keeps (by rfl) (by rfl) (by rfl) (fun s e => recFacts_of (Bool.and_eq_true_iff.mp e).2) (by rfl) (by assumption) (by exact view_ok) ⟨rfl, rfl, rfl, rfl, rfl, by decide +kernel⟩ ?hw ?hc
  (case hl => (intro w; kernel_rfl))))
open_top hd for PySem.Challenge.rw_pq0452_01
end Mine
end

/-! ## Lp -/
theorem Mine.reset_Lp : True := by
  w_top off
  first | walk1 | trivial
section
open PySem PySem.W PyProof.Rows PySem.Calls
set_option Elab.async false
set_option maxRecDepth 100000
set_option maxHeartbeats 8000000
namespace Mine
section
variable {prog : Program} {w : World} {A : Around} {E : Value → Shared → Prop} {s : Shared} {env : Env} {h₀ : Heap} {x : Str} {body : List Stmt} {Q : Flow → Shared → Prop}
/-- the end of a turn: what the loop keeps -/
def TEnd (h₀ : Heap) (L I : Addr) (oI : Obj) (x : Str) (stored : List Str) (m₀ : Str → Option Value) (P : List (Addr × Obj) → Prop) (s₁ : Shared) (Q : Flow → Shared → Prop) (f : Flow) (s₂ : Shared) : Prop :=
  match f with
  | .ret v => Q (.ret v) s₂
  | .brk => Q .next s₂
  | _ => ∃ h' tk m' nx, s₂ = { s₁ with heap := h', toks := tk } ∧ Fr h₀ L h' m' ∧ News h₀ L h' ((I, oI) :: nx) ∧ (∀ p ∈ nx, p.1 ≠ I) ∧ (∀ y, y ≠ x → stored.contains y = false → m' y = m₀ y) ∧ P nx
theorem TEnd.next {L I : Addr} {oI : Obj} {stored : List Str} {m₀ : Str → Option Value} {P : List (Addr × Obj) → Prop} {s₁ : Shared} {h' : Heap} {tk : Nat} {m' : Str → Option Value} {nx : List (Addr × Obj)}
    (F : Fr h₀ L h' m') (N : News h₀ L h' ((I, oI) :: nx)) (ho : ∀ p ∈ nx, p.1 ≠ I) (hm : ∀ y, y ≠ x → stored.contains y = false → m' y = m₀ y) (hP : P nx) :
    TEnd h₀ L I oI x stored m₀ P s₁ Q .next { s₁ with heap := h', toks := tk } := ⟨h', tk, m', nx, rfl, F, N, ho, hm, hP⟩
theorem TEnd.cont {L I : Addr} {oI : Obj} {stored : List Str} {m₀ : Str → Option Value} {P : List (Addr × Obj) → Prop} {s₁ : Shared} {h' : Heap} {tk : Nat} {m' : Str → Option Value} {nx : List (Addr × Obj)}
    (F : Fr h₀ L h' m') (N : News h₀ L h' ((I, oI) :: nx)) (ho : ∀ p ∈ nx, p.1 ≠ I) (hm : ∀ y, y ≠ x → stored.contains y = false → m' y = m₀ y) (hP : P nx) :
    TEnd h₀ L I oI x stored m₀ P s₁ Q .cont { s₁ with heap := h', toks := tk } := ⟨h', tk, m', nx, rfl, F, N, ho, hm, hP⟩

theorem range_S {r : Addr} {b₀ : Int} {t₀ u₀ v₀ : Tok} {n : Nat} {m₀ : Str → Option Value} {news : List (Addr × Obj)} (stored : List Str) (P : Nat → List (Addr × Obj) → Prop)
    (hh : A.handled = none) (hr : IsRange s.heap r 0 b₀ 1 t₀ u₀ v₀) (hsmall : Builtin.Range.small 0 b₀ 1 = true) (hn : Builtin.Range.rangeSize 0 b₀ 1 = (n : Int))
    (F : Fr h₀ env.locals s.heap m₀) (N : News h₀ env.locals s.heap news) (hp : P 0 news)
    (turn : ∀ i t (u : Str → Option Value) nx h tk I oI, i < n → P i nx → (∀ p ∈ nx, p.1 ≠ I) →
      Fr h₀ env.locals h (fun y => if y = x then some (.int (i : Nat) t) else if stored.contains y then u y else m₀ y) → News h₀ env.locals h ((I, oI) :: nx) →
      wpAny (model prog w) A (execs body env) (TEnd h₀ env.locals I oI x stored m₀ (P (i + 1)) { s with heap := h, toks := tk } Q) E { s with heap := h, toks := tk })
    (done : ∀ (u : Str → Option Value) nx h tk, P n nx → Fr h₀ env.locals h (fun y => if y = x then u y else if stored.contains y then u y else m₀ y) → News h₀ env.locals h nx → Q .next { s with heap := h, toks := tk }) :
    wpAny (model prog w) A (pyIter (.ref r)) (fun it s₂ => LoopAtV prog w A h₀ env x body Q E it s₂) E s := by
  refine wpAny_pyIter_range hr hsmall ?_
  have W : Walks prog w A s.heap.objs.size [s.heap.objs.size] [s.heap.objs.size] n (fun i v => i < n ∧ ∃ t, v = .int (0 + i * 1) t)
      (fun i h => IsRangeIter h s.heap.objs.size (0 + (i : Nat) * 1) ((n : Int) - (i : Nat)) 1) := (Walks.range hh _ 0 1 n).bound
  let J : Nat → (Str → Option Value) → List (Addr × Obj) → Prop := fun i m₁ nx => P i nx ∧ ∀ y, y ≠ x → stored.contains y = false → m₁ y = m₀ y
  refine ⟨_, _, _, n, _, _, m₀, news, J, rfl, W, ?_, ?_, ?_, (by show IsRangeIter _ _ _ _ _; rw [hn]; simpa using Heap.get?_push_size _ rfl), F.push _, (fun p hp => ⟨Heap.get?_push_of_some _ (N p hp).1, (N p hp).2⟩), ⟨hp, fun _ _ _ => rfl⟩, ?_, ?_⟩
  · intro hm
    exact absurd F.ns.lt ((List.mem_singleton.mp hm) ▸ Nat.lt_irrefl _)
  · intro b hb
    rw [List.mem_singleton.mp hb]
    exact next_is_new F
  · intro p hp hI
    exact absurd (Heap.lt_size (N p hp).1) ((List.mem_singleton.mp hI) ▸ Nat.lt_irrefl _)
  · rintro i v m₁ nx s₁ own ⟨hh', tk', rfl⟩ hin ⟨_, t, rfl⟩ ⟨hP, hJ⟩ hoff hown _ hall hst' F₁ N₁
    obtain ⟨oI, hoI⟩ : ∃ o, hh'.get? s.heap.objs.size = some o := ⟨_, hst'⟩
    have hio : (s.heap.objs.size, oI) ∈ own := hall _ (List.mem_singleton.mpr rfl) (next_is_new F) _ hoI
    have hone := own_one hown (fun b hb => .inl (List.mem_singleton.mp hb)) hoI N₁
    have e1 : (0 : Int) + (i : Int) * 1 = (i : Nat) := by omega
    have e : (fun y => if y = x then some (Value.int (0 + (i : Int) * 1) t) else m₁ y) = fun y => if y = x then some (Value.int (i : Nat) t) else if stored.contains y then m₁ y else m₀ y := by
      funext y
      by_cases h1 : y = x
      · simp [h1]
      · simp only [if_neg h1]
        cases h2 : stored.contains y with
        | true => simp
        | false => simp only [Bool.false_eq_true, if_false]; exact hJ y h1 h2
    rw [e] at F₁
    refine wpAny_mono (turn i t m₁ nx hh' tk' s.heap.objs.size oI hin hP (fun p hp q => hoff p hp (List.mem_singleton.mpr q)) F₁ (news_one hio N₁)) (fun f s₂ p => ?_) fun _ _ e => e
    have fin : (∃ h' tk m' nx, s₂ = { s with heap := h', toks := tk } ∧ Fr h₀ env.locals h' m' ∧ News h₀ env.locals h' ((s.heap.objs.size, oI) :: nx) ∧ (∀ p ∈ nx, p.1 ≠ s.heap.objs.size) ∧ (∀ y, y ≠ x → stored.contains y = false → m' y = m₀ y) ∧ P (i + 1) nx) →
        LoopStepU h₀ env.locals [s.heap.objs.size] own (J (i + 1)) { s with heap := hh', toks := tk' } .next s₂ := by
      rintro ⟨h', tk, m', nx', e, F', N', ho', hm', hP'⟩
      refine ⟨rfl, h', tk, m', nx', e, F', fun p hp => ?_, fun p hp q => ho' p hp (List.mem_singleton.mp q), hP', hm'⟩
      rcases List.mem_append.mp hp with h1 | h1
      · rw [hone p h1]; exact N' _ (.head _)
      · exact N' _ (.tail _ h1)
    cases f with
    | ret v => exact .ret p
    | brk => exact .brk p
    | next => exact .next (fin p)
    | cont => exact .cont (fin p)
  · rintro h' tk m' nx F' N' _ ⟨hP, hJ⟩
    refine done m' nx h' tk hP ?_ N'
    have e : (fun y => if y = x then m' y else if stored.contains y then m' y else m₀ y) = m' := by
      funext y
      by_cases h1 : y = x
      · simp [h1]
      · simp only [if_neg h1]
        cases h2 : stored.contains y with
        | true => simp
        | false => simp only [Bool.false_eq_true, if_false]; exact (hJ y h1 h2).symm
    rw [e]; exact F'
end
end Mine
end

/-! ## Pre -/
theorem Mine.reset_Pre : True := by
  w_top off
  first | walk1 | trivial
section
open PySem PySem.W PyProof.Rows PySem.Calls
set_option Elab.async false
set_option maxRecDepth 100000
set_option maxHeartbeats 8000000
namespace Mine
noncomputable abbrev LL : List Str := looseW Mine.view [Str.ofString "GateloomError"]
abbrev tupleObj (vs : List Value) : Obj := { cls := .type "tuple", data := .seq vs.toArray }
theorem allLt_ne {d : Addr} : ∀ {l : List (Addr × Obj)}, AllLt d l → ∀ p ∈ l, p.1 ≠ d
  | [], _, _, hp => nomatch hp
  | q :: r, h, p, hp => by
    rcases List.mem_cons.mp hp with rfl | hp
    · exact Nat.ne_of_lt h.1
    · exact allLt_ne h.2 p hp
/-- a goal that the walk leaves to the hand -/
def Hold (P : Prop) : Prop := P
theorem Hold.out {P : Prop} (h : Hold P) : P := h
theorem Hold.mk {P : Prop} (h : P) : Hold P := h
theorem newsTail {h₀ h : Heap} {L : Addr} {p : Addr × Obj} {l : List (Addr × Obj)} (N : News h₀ L h (p :: l)) : News h₀ L h l := fun q hq => N q (.tail _ hq)
theorem newsSub {h₀ h : Heap} {L : Addr} {l l' : List (Addr × Obj)} (N : News h₀ L h l) (hs : ∀ p ∈ l', p ∈ l) : News h₀ L h l' := fun q hq => N q (hs q hq)
theorem subNil {α : Type} {l : List α} : ∀ p ∈ ([] : List α), p ∈ l := fun _ h => nomatch h
theorem subRfl {α : Type} {l : List α} : ∀ p ∈ l, p ∈ l := fun _ h => h
theorem subTail {α : Type} {a : α} {e l : List α} (t : ∀ p ∈ e, p ∈ l) : ∀ p ∈ e, p ∈ a :: l := fun p h => .tail _ (t p h)
theorem subCons {α : Type} {a : α} {e l : List α} (h : a ∈ l) (t : ∀ p ∈ e, p ∈ l) : ∀ p ∈ a :: e, p ∈ l := List.forall_mem_cons.mpr ⟨h, t⟩
theorem nL0 {a b : Nat} {q : Prop} (h : a < b ∧ q) : a ≠ b := Nat.ne_of_lt h.1
theorem nG0 {a b : Nat} {q : Prop} (h : b < a ∧ q) : a ≠ b := Nat.ne_of_gt h.1
theorem nL1 {a b : Nat} {p0 q : Prop} (h : p0 ∧ a < b ∧ q) : a ≠ b := Nat.ne_of_lt h.2.1
theorem nG1 {a b : Nat} {p0 q : Prop} (h : p0 ∧ b < a ∧ q) : a ≠ b := Nat.ne_of_gt h.2.1
theorem nLe1 {a b : Nat} {p0 : Prop} (h : p0 ∧ a < b) : a ≠ b := Nat.ne_of_lt h.2
theorem nGe1 {a b : Nat} {p0 : Prop} (h : p0 ∧ b < a) : a ≠ b := Nat.ne_of_gt h.2
theorem nL2 {a b : Nat} {p0 p1 q : Prop} (h : p0 ∧ p1 ∧ a < b ∧ q) : a ≠ b := Nat.ne_of_lt h.2.2.1
theorem nG2 {a b : Nat} {p0 p1 q : Prop} (h : p0 ∧ p1 ∧ b < a ∧ q) : a ≠ b := Nat.ne_of_gt h.2.2.1
theorem nLe2 {a b : Nat} {p0 p1 : Prop} (h : p0 ∧ p1 ∧ a < b) : a ≠ b := Nat.ne_of_lt h.2.2
theorem nGe2 {a b : Nat} {p0 p1 : Prop} (h : p0 ∧ p1 ∧ b < a) : a ≠ b := Nat.ne_of_gt h.2.2
theorem nL3 {a b : Nat} {p0 p1 p2 q : Prop} (h : p0 ∧ p1 ∧ p2 ∧ a < b ∧ q) : a ≠ b := Nat.ne_of_lt h.2.2.2.1
theorem nG3 {a b : Nat} {p0 p1 p2 q : Prop} (h : p0 ∧ p1 ∧ p2 ∧ b < a ∧ q) : a ≠ b := Nat.ne_of_gt h.2.2.2.1
theorem nLe3 {a b : Nat} {p0 p1 p2 : Prop} (h : p0 ∧ p1 ∧ p2 ∧ a < b) : a ≠ b := Nat.ne_of_lt h.2.2.2
theorem nGe3 {a b : Nat} {p0 p1 p2 : Prop} (h : p0 ∧ p1 ∧ p2 ∧ b < a) : a ≠ b := Nat.ne_of_gt h.2.2.2
theorem nL4 {a b : Nat} {p0 p1 p2 p3 q : Prop} (h : p0 ∧ p1 ∧ p2 ∧ p3 ∧ a < b ∧ q) : a ≠ b := Nat.ne_of_lt h.2.2.2.2.1
theorem nG4 {a b : Nat} {p0 p1 p2 p3 q : Prop} (h : p0 ∧ p1 ∧ p2 ∧ p3 ∧ b < a ∧ q) : a ≠ b := Nat.ne_of_gt h.2.2.2.2.1
theorem nLe4 {a b : Nat} {p0 p1 p2 p3 : Prop} (h : p0 ∧ p1 ∧ p2 ∧ p3 ∧ a < b) : a ≠ b := Nat.ne_of_lt h.2.2.2.2
theorem nGe4 {a b : Nat} {p0 p1 p2 p3 : Prop} (h : p0 ∧ p1 ∧ p2 ∧ p3 ∧ b < a) : a ≠ b := Nat.ne_of_gt h.2.2.2.2
theorem nL5 {a b : Nat} {p0 p1 p2 p3 p4 q : Prop} (h : p0 ∧ p1 ∧ p2 ∧ p3 ∧ p4 ∧ a < b ∧ q) : a ≠ b := Nat.ne_of_lt h.2.2.2.2.2.1
theorem nG5 {a b : Nat} {p0 p1 p2 p3 p4 q : Prop} (h : p0 ∧ p1 ∧ p2 ∧ p3 ∧ p4 ∧ b < a ∧ q) : a ≠ b := Nat.ne_of_gt h.2.2.2.2.2.1
theorem nLe5 {a b : Nat} {p0 p1 p2 p3 p4 : Prop} (h : p0 ∧ p1 ∧ p2 ∧ p3 ∧ p4 ∧ a < b) : a ≠ b := Nat.ne_of_lt h.2.2.2.2.2
theorem nGe5 {a b : Nat} {p0 p1 p2 p3 p4 : Prop} (h : p0 ∧ p1 ∧ p2 ∧ p3 ∧ p4 ∧ b < a) : a ≠ b := Nat.ne_of_gt h.2.2.2.2.2
theorem nL6 {a b : Nat} {p0 p1 p2 p3 p4 p5 q : Prop} (h : p0 ∧ p1 ∧ p2 ∧ p3 ∧ p4 ∧ p5 ∧ a < b ∧ q) : a ≠ b := Nat.ne_of_lt h.2.2.2.2.2.2.1
theorem nG6 {a b : Nat} {p0 p1 p2 p3 p4 p5 q : Prop} (h : p0 ∧ p1 ∧ p2 ∧ p3 ∧ p4 ∧ p5 ∧ b < a ∧ q) : a ≠ b := Nat.ne_of_gt h.2.2.2.2.2.2.1
theorem nLe6 {a b : Nat} {p0 p1 p2 p3 p4 p5 : Prop} (h : p0 ∧ p1 ∧ p2 ∧ p3 ∧ p4 ∧ p5 ∧ a < b) : a ≠ b := Nat.ne_of_lt h.2.2.2.2.2.2
theorem nGe6 {a b : Nat} {p0 p1 p2 p3 p4 p5 : Prop} (h : p0 ∧ p1 ∧ p2 ∧ p3 ∧ p4 ∧ p5 ∧ b < a) : a ≠ b := Nat.ne_of_gt h.2.2.2.2.2.2
theorem nL7 {a b : Nat} {p0 p1 p2 p3 p4 p5 p6 q : Prop} (h : p0 ∧ p1 ∧ p2 ∧ p3 ∧ p4 ∧ p5 ∧ p6 ∧ a < b ∧ q) : a ≠ b := Nat.ne_of_lt h.2.2.2.2.2.2.2.1
theorem nG7 {a b : Nat} {p0 p1 p2 p3 p4 p5 p6 q : Prop} (h : p0 ∧ p1 ∧ p2 ∧ p3 ∧ p4 ∧ p5 ∧ p6 ∧ b < a ∧ q) : a ≠ b := Nat.ne_of_gt h.2.2.2.2.2.2.2.1
theorem nLe7 {a b : Nat} {p0 p1 p2 p3 p4 p5 p6 : Prop} (h : p0 ∧ p1 ∧ p2 ∧ p3 ∧ p4 ∧ p5 ∧ p6 ∧ a < b) : a ≠ b := Nat.ne_of_lt h.2.2.2.2.2.2.2
theorem nGe7 {a b : Nat} {p0 p1 p2 p3 p4 p5 p6 : Prop} (h : p0 ∧ p1 ∧ p2 ∧ p3 ∧ p4 ∧ p5 ∧ p6 ∧ b < a) : a ≠ b := Nat.ne_of_gt h.2.2.2.2.2.2.2
theorem nL8 {a b : Nat} {p0 p1 p2 p3 p4 p5 p6 p7 q : Prop} (h : p0 ∧ p1 ∧ p2 ∧ p3 ∧ p4 ∧ p5 ∧ p6 ∧ p7 ∧ a < b ∧ q) : a ≠ b := Nat.ne_of_lt h.2.2.2.2.2.2.2.2.1
theorem nG8 {a b : Nat} {p0 p1 p2 p3 p4 p5 p6 p7 q : Prop} (h : p0 ∧ p1 ∧ p2 ∧ p3 ∧ p4 ∧ p5 ∧ p6 ∧ p7 ∧ b < a ∧ q) : a ≠ b := Nat.ne_of_gt h.2.2.2.2.2.2.2.2.1
theorem nLe8 {a b : Nat} {p0 p1 p2 p3 p4 p5 p6 p7 : Prop} (h : p0 ∧ p1 ∧ p2 ∧ p3 ∧ p4 ∧ p5 ∧ p6 ∧ p7 ∧ a < b) : a ≠ b := Nat.ne_of_lt h.2.2.2.2.2.2.2.2
theorem nGe8 {a b : Nat} {p0 p1 p2 p3 p4 p5 p6 p7 : Prop} (h : p0 ∧ p1 ∧ p2 ∧ p3 ∧ p4 ∧ p5 ∧ p6 ∧ p7 ∧ b < a) : a ≠ b := Nat.ne_of_gt h.2.2.2.2.2.2.2.2
theorem nL9 {a b : Nat} {p0 p1 p2 p3 p4 p5 p6 p7 p8 q : Prop} (h : p0 ∧ p1 ∧ p2 ∧ p3 ∧ p4 ∧ p5 ∧ p6 ∧ p7 ∧ p8 ∧ a < b ∧ q) : a ≠ b := Nat.ne_of_lt h.2.2.2.2.2.2.2.2.2.1
theorem nG9 {a b : Nat} {p0 p1 p2 p3 p4 p5 p6 p7 p8 q : Prop} (h : p0 ∧ p1 ∧ p2 ∧ p3 ∧ p4 ∧ p5 ∧ p6 ∧ p7 ∧ p8 ∧ b < a ∧ q) : a ≠ b := Nat.ne_of_gt h.2.2.2.2.2.2.2.2.2.1
theorem nLe9 {a b : Nat} {p0 p1 p2 p3 p4 p5 p6 p7 p8 : Prop} (h : p0 ∧ p1 ∧ p2 ∧ p3 ∧ p4 ∧ p5 ∧ p6 ∧ p7 ∧ p8 ∧ a < b) : a ≠ b := Nat.ne_of_lt h.2.2.2.2.2.2.2.2.2
theorem nGe9 {a b : Nat} {p0 p1 p2 p3 p4 p5 p6 p7 p8 : Prop} (h : p0 ∧ p1 ∧ p2 ∧ p3 ∧ p4 ∧ p5 ∧ p6 ∧ p7 ∧ p8 ∧ b < a) : a ≠ b := Nat.ne_of_gt h.2.2.2.2.2.2.2.2.2
theorem nL10 {a b : Nat} {p0 p1 p2 p3 p4 p5 p6 p7 p8 p9 q : Prop} (h : p0 ∧ p1 ∧ p2 ∧ p3 ∧ p4 ∧ p5 ∧ p6 ∧ p7 ∧ p8 ∧ p9 ∧ a < b ∧ q) : a ≠ b := Nat.ne_of_lt h.2.2.2.2.2.2.2.2.2.2.1
theorem nG10 {a b : Nat} {p0 p1 p2 p3 p4 p5 p6 p7 p8 p9 q : Prop} (h : p0 ∧ p1 ∧ p2 ∧ p3 ∧ p4 ∧ p5 ∧ p6 ∧ p7 ∧ p8 ∧ p9 ∧ b < a ∧ q) : a ≠ b := Nat.ne_of_gt h.2.2.2.2.2.2.2.2.2.2.1
theorem nLe10 {a b : Nat} {p0 p1 p2 p3 p4 p5 p6 p7 p8 p9 : Prop} (h : p0 ∧ p1 ∧ p2 ∧ p3 ∧ p4 ∧ p5 ∧ p6 ∧ p7 ∧ p8 ∧ p9 ∧ a < b) : a ≠ b := Nat.ne_of_lt h.2.2.2.2.2.2.2.2.2.2
theorem nGe10 {a b : Nat} {p0 p1 p2 p3 p4 p5 p6 p7 p8 p9 : Prop} (h : p0 ∧ p1 ∧ p2 ∧ p3 ∧ p4 ∧ p5 ∧ p6 ∧ p7 ∧ p8 ∧ p9 ∧ b < a) : a ≠ b := Nat.ne_of_gt h.2.2.2.2.2.2.2.2.2.2
theorem nL11 {a b : Nat} {p0 p1 p2 p3 p4 p5 p6 p7 p8 p9 p10 q : Prop} (h : p0 ∧ p1 ∧ p2 ∧ p3 ∧ p4 ∧ p5 ∧ p6 ∧ p7 ∧ p8 ∧ p9 ∧ p10 ∧ a < b ∧ q) : a ≠ b := Nat.ne_of_lt h.2.2.2.2.2.2.2.2.2.2.2.1
theorem nG11 {a b : Nat} {p0 p1 p2 p3 p4 p5 p6 p7 p8 p9 p10 q : Prop} (h : p0 ∧ p1 ∧ p2 ∧ p3 ∧ p4 ∧ p5 ∧ p6 ∧ p7 ∧ p8 ∧ p9 ∧ p10 ∧ b < a ∧ q) : a ≠ b := Nat.ne_of_gt h.2.2.2.2.2.2.2.2.2.2.2.1
theorem nLe11 {a b : Nat} {p0 p1 p2 p3 p4 p5 p6 p7 p8 p9 p10 : Prop} (h : p0 ∧ p1 ∧ p2 ∧ p3 ∧ p4 ∧ p5 ∧ p6 ∧ p7 ∧ p8 ∧ p9 ∧ p10 ∧ a < b) : a ≠ b := Nat.ne_of_lt h.2.2.2.2.2.2.2.2.2.2.2
theorem nGe11 {a b : Nat} {p0 p1 p2 p3 p4 p5 p6 p7 p8 p9 p10 : Prop} (h : p0 ∧ p1 ∧ p2 ∧ p3 ∧ p4 ∧ p5 ∧ p6 ∧ p7 ∧ p8 ∧ p9 ∧ p10 ∧ b < a) : a ≠ b := Nat.ne_of_gt h.2.2.2.2.2.2.2.2.2.2.2
theorem nL12 {a b : Nat} {p0 p1 p2 p3 p4 p5 p6 p7 p8 p9 p10 p11 q : Prop} (h : p0 ∧ p1 ∧ p2 ∧ p3 ∧ p4 ∧ p5 ∧ p6 ∧ p7 ∧ p8 ∧ p9 ∧ p10 ∧ p11 ∧ a < b ∧ q) : a ≠ b := Nat.ne_of_lt h.2.2.2.2.2.2.2.2.2.2.2.2.1
theorem nG12 {a b : Nat} {p0 p1 p2 p3 p4 p5 p6 p7 p8 p9 p10 p11 q : Prop} (h : p0 ∧ p1 ∧ p2 ∧ p3 ∧ p4 ∧ p5 ∧ p6 ∧ p7 ∧ p8 ∧ p9 ∧ p10 ∧ p11 ∧ b < a ∧ q) : a ≠ b := Nat.ne_of_gt h.2.2.2.2.2.2.2.2.2.2.2.2.1
theorem nLe12 {a b : Nat} {p0 p1 p2 p3 p4 p5 p6 p7 p8 p9 p10 p11 : Prop} (h : p0 ∧ p1 ∧ p2 ∧ p3 ∧ p4 ∧ p5 ∧ p6 ∧ p7 ∧ p8 ∧ p9 ∧ p10 ∧ p11 ∧ a < b) : a ≠ b := Nat.ne_of_lt h.2.2.2.2.2.2.2.2.2.2.2.2
theorem nGe12 {a b : Nat} {p0 p1 p2 p3 p4 p5 p6 p7 p8 p9 p10 p11 : Prop} (h : p0 ∧ p1 ∧ p2 ∧ p3 ∧ p4 ∧ p5 ∧ p6 ∧ p7 ∧ p8 ∧ p9 ∧ p10 ∧ p11 ∧ b < a) : a ≠ b := Nat.ne_of_gt h.2.2.2.2.2.2.2.2.2.2.2.2
theorem exNat {k : Int} (h : 0 ≤ k) : ∃ n : Nat, k = (n : Int) := ⟨k.toNat, by omega⟩
theorem ltNat {n m : Nat} (h : (n : Int) < (m : Int)) : n < m := by omega
theorem onePlus (k : Nat) : (1 : Int) + (k : Int) = ((k + 1 : Nat) : Int) := by omega
theorem le2 {k : Nat} (h : k ≤ 2) : k = 0 ∨ k = 1 ∨ k = 2 := by omega
theorem le100 {n : Nat} (h : n ≤ 3) : n ≤ 100 := by omega
theorem le1000 {n : Nat} (h : n ≤ 100) : n ≤ 1000 := by omega
theorem s1000 {n : Nat} (h : n ≤ 100) : n + 1 ≤ 1000 := by omega
theorem cwE {c : Int} {k : Nat} (h : c = 2 + ((k + 1 : Nat) : Int)) : c = (k : Int) + 3 := by omega
theorem cwE1 {c k : Int} (h : c = k + 3) : c + 1 = k + 4 := by omega
theorem cwE2 {c c2 k : Int} (h : c = k + 3) (h2 : c2 = c + ((2 : Nat) : Int)) : c2 = k + 5 := by omega
theorem sub_skip1 {α : Type} {a b : α} {l : List α} : ∀ p ∈ a :: l, p ∈ a :: b :: l := fun p hp => by
  rcases List.mem_cons.mp hp with rfl | hp
  · exact .head _
  · exact .tail _ (.tail _ hp)
theorem mem_head {α : Type} {a : α} {l : List α} : a ∈ a :: l := .head _
theorem seqIndex0 (n : Nat) : seqIndex? 0 (n + 1) = some 0 := by
  unfold seqIndex?
  simp
theorem rangeSz (n : Nat) : Builtin.Range.rangeSize 0 (n : Int) 1 = (n : Int) := by
  rw [rangeSize_nat]; omega
theorem rangeSm {n : Nat} (h : n ≤ 1000) : Builtin.Range.small 0 (n : Int) 1 = true := by
  unfold Builtin.Range.small Builtin.Range.rangeFitsLong
  rw [rangeSz]
  have h2 : (n : Int) ≤ 1000 := by omega
  have h3 : (0 : Int) ≤ n := by omega
  simp
  omega
section
variable {prog : Program} {w : World} {A : Around} {E : Value → Shared → Prop} {s : Shared} {h₀ : Heap} {L D : Addr} {m : Str → Option Value} {news news' : List (Addr × Obj)} {n : Nat}
theorem pop0 {u : Tok} {v : Value} {r : List Value} {Q : Value → Shared → Prop}
    (F : Fr h₀ L s.heap m) (N : News h₀ L s.heap news) (U : Upd D (W.listOf (v :: r).toArray n) (W.listOf r.toArray (n + 1)) news news') (hz : (v :: r).length ≤ 1000)
    (h : ∀ h', Fr h₀ L h' m → News h₀ L h' news' → Q v { s with heap := h' }) : wpAny (model prog w) A (call (.builtin "list.pop") [.ref D, .int 0 u]) Q E s :=
  kl_popAt (k := 0) (p := []) (y := v) (q := r) F N rfl (by rw [List.size_toArray]; exact seqIndex0 _) rfl U (by rw [PySem.sizeLine_eq]; show (v :: r).length ≤ _; omega) h
theorem appendL {us : List Value} {x : Value} {Q : Value → Shared → Prop} (F : Fr h₀ L s.heap m) (N : News h₀ L s.heap news) (U : Upd D (W.listOf us.toArray n) (W.listOf (us ++ [x]).toArray (n + 1)) news news') (hz : us.length ≤ 1000)
    (h : ∀ h', Fr h₀ L h' m → News h₀ L h' news' → Q .none { s with heap := h' }) : wpAny (model prog w) A (call (.builtin "list.append") [.ref D, x]) Q E s :=
  append_K (its := us.toArray) (n := n) F N (by rw [List.push_toArray]; exact U) h (by rw [PySem.sizeLine_eq, List.size_toArray]; omega)
/-- an int of a list of the ledger, at a place in bounds -/
theorem itemInts {value slice : PySem.Expr} {vs : List Value} {ns : List Int} {i : Nat} {u : Tok} {Q : Value → Shared → Prop} (N : News h₀ L s.heap news) (hm : (D, W.listOf vs.toArray n) ∈ news) (hI : IntsAre vs ns) (hi : i < ns.length) (hb : ns.length ≤ 1000)
    (h : ∀ t, Q (.int (ns.getD i 0) t) s)
    (hs : subscripted slice false (.ref D) (.int (i : Nat) u) = operate [.ref D, .int (i : Nat) u] (getItem (.ref D) (.int (i : Nat) u)) := by with_unfolding_all rfl) :
    wpAny (model prog w) A (subscriptTail value slice (.ref D) (.int (i : Nat) u)) Q E s := by
  have hl : s.heap.IsList D vs.toArray := ⟨_, (N _ hm).1, rfl, n, rfl⟩
  obtain ⟨t, ht⟩ := hI.get i ns[i] (by simp [hi])
  refine tail_any hl.typeIs slot_list_getitem.lookup (wpAny_getItem_list hl (by omega) (by omega) (x := .int ns[i] t) (by simpa using ht) ?_) hs
  have e : ns.getD i 0 = ns[i] := by simp [List.getD, hi]
  rw [← e]
  exact h t
end
end Mine
end

/-! ## Ex -/
theorem Mine.reset_Ex : True := by
  w_top off
  first | walk1 | trivial
section
open PySem PySem.W PyProof.Rows PySem.Calls
set_option Elab.async false
set_option maxRecDepth 100000
set_option maxHeartbeats 1000000
namespace Mine
section
variable {M : Model} {A : Around} {E : Value → Shared → Prop} {s : Shared}

/-- what an exception's passing through a frame leaves as it stood -/
structure Passed (fr ch : List Addr) (h h' : Heap) : Prop where
  same : ∀ b o, h.get? b = some o → b ∉ ch → b ∉ fr → h'.get? b = some o
  slots : ∀ b o, h.get? b = some o → b ∉ ch → ∃ sl, h'.get? b = some { o with slots := sl }

/-- an exception object that has a traceback entry which is not in flight -/
def Noted (b₀ h : Heap) (e : Addr) (cls x0 : Value) (dd : Option Addr) : Prop :=
  ∃ T oT ts x2 x3 x4 x5 sl, h.get? e = some ⟨cls, dd, .fields #[x0, .ref T, x2, x3, x4, x5], sl⟩ ∧ T ≠ e ∧ b₀.objs.size ≤ T ∧ h.get? T = some oT ∧ oT.cls = .type "traceback" ∧ oT.data = .fields ts ∧ ts[3]? = some .none

theorem entry_flight {base b₀ : Heap} {env : Env} {outer : List Env} {L e : Addr} {cls x0 head x1 x2 x3 x4 x5 : Value} {dd : Option Addr} {sl : Array (Option Value)} {hadNext : Bool} {Q : Unit → Shared → Prop}
    (hb₀ : b₀.objs.size ≤ s.heap.objs.size) (hfr : A.frames = some (env :: outer)) (hl : s.heap.FunFrames base (env :: outer)) (hf : env.frame = some L)
    (he : s.heap.get? e = some ⟨cls, dd, .fields #[x0, x1, x2, x3, x4, x5], sl⟩)
    (h : ∀ h', Passed ((env :: outer).filterMap (·.frame)) [e] s.heap h' → Noted b₀ h' e cls x0 dd → h'.FunFrames base (env :: outer) → Q () { s with heap := h' }) :
    wpAny M A (do let a ← frameOf env; let pl ← entryPlaceOf L hadNext; let b ← EntryCells.newEntry head a .none (rawInt L) .none pl; setField (.ref e) 1 b) (fun _ s' => wpAny M A (setFlight (.ref e) none) Q E s') E s := by
  have hene : e ∉ (env :: outer).filterMap (·.frame) := fun hm => by
    obtain ⟨_, o, ho, hnf⟩ := hl.mem hm
    rw [he] at ho; injection ho with ho; subst ho; exact hnf _ rfl
  refine wpAny_bind (wpAny_frameOf_fun hfr hl hf fun h₁ hs₁ => ?_)
  refine wpAny_bind (wpAny_entryPlaceOf fun pl hpl => ?_)
  unfold EntryCells.newEntry newFields
  refine wpAny_bind (wpAny_newObj_type ?_ (hpl.sizeOk5 _ _ _ _ _))
  have he₁ : h₁.get? e = some ⟨cls, dd, .fields #[x0, x1, x2, x3, x4, x5], sl⟩ := (hs₁.2.1 e hene).trans he
  generalize hTo : ({ cls := .type "traceback", dict := none, data := .fields ([head, .ref L, .none, rawInt L, .none] ++ (if pl.isEmpty then List.replicate 6 Value.none else pl)).toArray } : Obj) = oT
  have hTd : oT.data = .fields ([head, .ref L, .none, rawInt L, .none] ++ (if pl.isEmpty then List.replicate 6 Value.none else pl)).toArray := by rw [← hTo]
  have hTf : oT.isFreed = false := by rw [← hTo]; rfl
  have hTc : oT.cls = .type "traceback" := by rw [← hTo]
  have he₂ := Heap.get?_push_of_some (h := h₁) oT he₁
  refine wpAny_setField he₂ rfl (by simp) ?_
  have hTe : h₁.objs.size ≠ e := Nat.ne_of_gt (Heap.lt_size he₁)
  have he₃ : ((h₁.push oT).update e (Obj.mapFields (·.setIfInBounds 1 (Value.ref h₁.objs.size)))).get? e = some ⟨cls, dd, .fields #[x0, .ref h₁.objs.size, x2, x3, x4, x5], sl⟩ :=
    Heap.get?_update_self (Obj.mapFields (·.setIfInBounds 1 (Value.ref h₁.objs.size))) he₂ rfl
  have hT₃ : ((h₁.push oT).update e (Obj.mapFields (·.setIfInBounds 1 (Value.ref h₁.objs.size)))).get? h₁.objs.size = some oT :=
    (Heap.get?_update_other _ _ (Ne.symm hTe)).trans (Heap.get?_push_size h₁ hTf)
  unfold setFlight
  refine wpAny_bind (wpAny_field he₃ rfl (x := .ref h₁.objs.size) (by simp) ?_)
  rw [if_pos (show (Value.ref h₁.objs.size != Value.none) = true from by simp)]
  refine wpAny_setField hT₃ hTd (by simp only [List.size_toArray, List.length_append, List.length_cons, List.length_nil] <;> omega) (h _ ?_ ?_ ?_)
  · have keep : ∀ b o, b ≠ e → h₁.get? b = some o →
        (((h₁.push oT).update e (Obj.mapFields (·.setIfInBounds 1 (Value.ref h₁.objs.size)))).update h₁.objs.size
          (Obj.mapFields (·.setIfInBounds 3 ((none : Option Addr).elim Value.none fun f => rawInt f)))).get? b = some o := fun b o hbe hb => by
      have hbT : h₁.objs.size ≠ b := Nat.ne_of_gt (Heap.lt_size hb)
      rw [Heap.get?_update_other _ _ hbT, Heap.get?_update_other _ _ (Ne.symm hbe)]
      exact Heap.get?_push_of_some _ hb
    exact ⟨fun b o hb hbe hbf => keep b o (fun q => hbe (List.mem_singleton.mpr q)) ((hs₁.2.1 b hbf).trans hb), fun b o hb hbe => let ⟨sl', hs'⟩ := hs₁.2.2 b o hb; ⟨sl', keep b _ (fun q => hbe (List.mem_singleton.mpr q)) hs'⟩⟩
  · refine ⟨h₁.objs.size, _, _, x2, x3, x4, x5, sl, ?_, hTe, hs₁.1 ▸ hb₀, Heap.get?_update_self _ hT₃ (Obj.isFreed_of_fields (Obj.data_mapFields hTd _)), (Obj.cls_mapFields _ _).trans hTc, Obj.data_mapFields hTd _, ?_⟩
    · rw [Heap.get?_update_other _ _ hTe]; exact he₃
    · rcases hpl with rfl | ⟨_, _, _, _, _, _, _, rfl⟩ <;> simp
  · refine hl.of_keeps fun b o hb hnf => ?_
    have hbe : b ≠ e := fun q => by rw [q, he] at hb; injection hb with hb; subst hb; exact hnf _ rfl
    obtain ⟨sl', hs'⟩ := hs₁.2.2 b o hb
    have hbT : h₁.objs.size ≠ b := Nat.ne_of_gt (Heap.lt_size hs')
    refine ⟨{ o with slots := sl' }, ?_, rfl⟩
    rw [Heap.get?_update_other _ _ hbT, Heap.get?_update_other _ _ (Ne.symm hbe)]
    exact Heap.get?_push_of_some _ hs'

/-- the first frame: no entry yet -/
theorem note_first {base b₀ : Heap} {env : Env} {outer : List Env} {L e : Addr} {cls x0 x2 x3 x4 x5 : Value} {dd : Option Addr} {sl : Array (Option Value)} {Q : Unit → Shared → Prop}
    (hb₀ : b₀.objs.size ≤ s.heap.objs.size) (hfr : A.frames = some (env :: outer)) (hl : s.heap.FunFrames base (env :: outer)) (hf : env.frame = some L)
    (he : s.heap.get? e = some ⟨cls, dd, .fields #[x0, .none, x2, x3, x4, x5], sl⟩)
    (h : ∀ h', Passed ((env :: outer).filterMap (·.frame)) [e] s.heap h' → Noted b₀ h' e cls x0 dd → h'.FunFrames base (env :: outer) → Q () { s with heap := h' }) :
    wpAny M A (noteFrame (.ref e) env) (fun _ s' => wpAny M A (setFlight (.ref e) none) Q E s') E s := by
  unfold noteFrame
  simp only [hf]
  refine wpAny_bind (wpAny_field he rfl (x := .none) rfl ?_)
  rw [if_neg (by decide)]
  exact entry_flight hb₀ hfr hl hf he h

/-- a further frame -/
theorem note_next {base b₀ : Heap} {env : Env} {outer : List Env} {L e : Addr} {cls x0 : Value} {dd : Option Addr} {Q : Unit → Shared → Prop}
    (hb₀ : b₀.objs.size ≤ s.heap.objs.size) (hfr : A.frames = some (env :: outer)) (hl : s.heap.FunFrames base (env :: outer)) (hf : env.frame = some L) (hn : Noted b₀ s.heap e cls x0 dd)
    (h : ∀ h' T, b₀.objs.size ≤ T → (∃ oT ts, s.heap.get? T = some oT ∧ oT.data = .fields ts ∧ oT.cls = .type "traceback") → Passed ((env :: outer).filterMap (·.frame)) [e, T] s.heap h' → Noted b₀ h' e cls x0 dd → h'.FunFrames base (env :: outer) → Q () { s with heap := h' }) :
    wpAny M A (noteFrame (.ref e) env) (fun _ s' => wpAny M A (setFlight (.ref e) none) Q E s') E s := by
  obtain ⟨T, oT, ts, x2, x3, x4, x5, sl, he, hTe, hTb, hT, hcT, hdT, h3⟩ := hn
  unfold noteFrame
  simp only [hf]
  refine wpAny_bind (wpAny_field he rfl (x := .ref T) rfl ?_)
  rw [if_pos (show (Value.ref T != Value.none) = true from by simp)]
  refine wpAny_bind (wpAny_field hT hdT h3 ?_)
  rw [if_neg (show ¬ ((Value.none == rawInt L) = true) from by simp [rawInt])]
  refine wpAny_bind (wpAny_setField hT hdT (Array.getElem?_eq_some_iff.mp h3).1 ?_)
  have other : ∀ b, b ≠ T → (s.heap.update T (Obj.mapFields (·.setIfInBounds 3 Value.none))).get? b = s.heap.get? b := fun b hb => Heap.get?_update_other _ _ (Ne.symm hb)
  have noRecord : ∀ b o, s.heap.get? b = some o → (∀ vs, o.data ≠ .fields vs) → b ≠ T := fun b o hb hnf q => by
    rw [q, hT] at hb; injection hb with hb; subst hb; exact hnf ts hdT
  refine entry_flight (b₀ := b₀) (by rw [Heap.size_after_update]; exact hb₀) hfr (hl.of_keeps fun b o hb hnf => ⟨o, (other b (noRecord b o hb hnf)).trans hb, rfl⟩) hf ((other e (Ne.symm hTe)).trans he) fun h' hp hn' hl' => h h' T hTb ⟨oT, ts, hT, hdT, hcT⟩ ⟨fun b o hb hbe hbf => hp.same b o ((other b fun q => hbe (by simp [q])).trans hb) (fun q => hbe (by simp_all)) hbf, fun b o hb hbe => hp.slots b o ((other b fun q => hbe (by simp [q])).trans hb) fun q => hbe (by simp_all)⟩ hn' hl'

theorem leave_first {base b₀ : Heap} {env : Env} {outer : List Env} {L e : Addr} {cls x0 x2 x3 x4 x5 : Value} {dd : Option Addr} {sl : Array (Option Value)} {Q : Unit → Shared → Prop}
    (hb₀ : b₀.objs.size ≤ s.heap.objs.size) (hfr : A.frames = some (env :: outer)) (hl : s.heap.FunFrames base (env :: outer)) (hf : env.frame = some L)
    (he : s.heap.get? e = some ⟨cls, dd, .fields #[x0, .none, x2, x3, x4, x5], sl⟩)
    (h : ∀ h', Passed ((env :: outer).filterMap (·.frame)) [e] s.heap h' → Noted b₀ h' e cls x0 dd → h'.FunFrames base (env :: outer) → Q () { s with heap := h' }) :
    wpAny M A (leaving env (.ref e)) Q E s := by
  unfold leaving
  exact wpAny_bind (note_first hb₀ hfr hl hf he h)

/-- raise of an object that is made on the spot -/
theorem raise_made {K : Frag} {env : Env} {C : Addr} {x : Sem Value} {Q : Flow → Shared → Prop} (hh : A.handled = none) (hb : subIn K (.ref C) (.type "BaseException") = some true) (ht : typeIn K (.ref C) = some (.type "type"))
    (h : wpAny M A x (fun v s₁ => ∃ e dd x0 x2 x3 x4 x5 sl, v = .ref e ∧ K.In s₁.heap ∧ s₁.heap.get? e = some ⟨.ref C, dd, .fields #[x0, .none, x2, x3, x4, x5], sl⟩ ∧ E (.ref e) s₁) E s) :
    wpAny M A (raiseStmt env (some x) none) Q E s := by
  unfold raiseStmt
  refine wpAny_bind (wpAny_mono h (fun v s₁ h₁ => ?_) fun _ _ x => x)
  obtain ⟨e, dd, x0, x2, x3, x4, x5, sl, rfl, X, he, hE⟩ := h₁
  obtain ⟨hp, g, d, tk, os⟩ := s₁
  have hT : Looks M hp (typeOf (.ref e)) (.ref C) := (Looks.ld (part := none) he).andThen .now
  have hS : Looks M hp (isSubtype (.ref C) (.type "BaseException")) true := looks_subIn X hb
  have hTT : Looks M hp (typeOf (.ref C)) (.type "type") := looks_typeIn X ht
  have hN : Looks M hp (isType (.ref e)) false := (Looks.ld (part := none) he).andThen .now
  dsimp only
  refine wpAny_bind (wpAny_pure ?_)
  refine wpAny_bind (wpAny_holding ?_)
  unfold excFromValue isExcClass
  refine wpAny_bind (wpAny_bind (hN.here ?_))
  simp only [Bool.false_eq_true, if_false]
  refine wpAny_pure ?_
  simp only [Bool.false_eq_true, if_false]
  unfold isInstance
  refine wpAny_bind (wpAny_bind (hT.here (hS.here ?_)))
  simp only [if_true]
  refine wpAny_pure ?_
  (try dsimp only)
  refine wpAny_bind (hN.here ?_)
  simp only [Bool.false_eq_true, if_false]
  unfold raisedInstance
  refine wpAny_bind (wpAny_bind (hT.here (wpAny_bind (hTT.here ?_))))
  rw [if_pos (by simp)]
  refine wpAny_pure ?_
  (try dsimp only)
  unfold setFlight
  refine wpAny_bind (wpAny_bind (wpAny_field he rfl (x := .none) rfl ?_))
  rw [if_neg (by simp)]
  exact wpAny_pure (wpAny_raiseNew_none hh hE)
end
end Mine
end

/-! ## Xm -/
theorem Mine.reset_Xm : True := by
  w_top off
  first | walk1 | trivial
section
open PySem PySem.W PyProof.Rows PySem.Calls PySem.W.X
set_option Elab.async false
set_option maxRecDepth 100000
set_option maxHeartbeats 4000000
set_option rowWalk.seconds 0
set_option pp.deepTerms false
set_option pp.deepTerms.threshold 8
set_option pp.maxSteps 5000
namespace Mine
abbrev sKind : PySem.Str := ⟨⟨[107, 105, 110, 100]⟩⟩
abbrev sAt : PySem.Str := ⟨⟨[97, 116]⟩⟩
abbrev sDetail : PySem.Str := ⟨⟨[100, 101, 116, 97, 105, 108]⟩⟩
abbrev sAnc : PySem.Str := ⟨⟨[97, 115, 121, 110, 99, 95, 110, 111, 116, 95, 99, 111, 110, 115, 116, 97, 110, 116]⟩⟩
abbrev excDict (h1 h2 h3 : Int) (t1 t2 t3 t4 : Tok) : Obj :=
  { cls := .type "dict", data := .dict ⟨[⟨h1, .str sKind t1, .str sAnc t4⟩, ⟨h2, .str sAt t2, .int (-1) 209⟩, ⟨h3, .str sDetail t3, .str ⟨⟨[]⟩⟩ 210⟩]⟩ 3 }
abbrev excObj (dx d : Addr) : Obj := { cls := .ref 52, dict := some dx, data := .fields ⟨[.ref d, .none, .none, .none, .bool false, .none]⟩ }
def ExcRet (s : Shared) (Q : Value → Shared → Prop) : Prop :=
  ∀ (a b c d : Addr) (o2 o4 : Obj) (h1 h2 h3 : Int) (t1 t2 t3 t4 : Tok) (h' : Heap) (tk' : Nat), Mem s.heap h' [] [(a, excDict h1 h2 h3 t1 t2 t3 t4), (b, o2), (c, excObj a d), (d, o4)] → Q (.ref c) { s with heap := h', toks := tk' }
section
local macro_rules | `(tactic| x_close) => `(tactic| ((rename Mem _ _ _ _ => xD); (rename ExcRet _ _ => xR); exact xR _ _ _ _ _ _ _ _ _ _ _ _ _ _ _ xD))
theorem exc_make_g (w : World) (s : Shared) (env : Env) (outer : List Env) (t : Tok) (gd : Option (List Code))
   (Q E : Value → Shared → Prop) (X : (Mine.hd.heap_1 w.params).In s.heap) (prog : Program) (hz : PySem.Challenge.rw_pq0452_01 = PySem.Challenge.rw_pq0452_01) (hret : ExcRet s Q) :
   wpAny (model prog w) { handled := none, depth := 303, frames := some (env :: outer), guards := gd, units := 10 } (call (.ref 52) [.str (Str.ofString "async_not_constant") t]) Q E s := by
  revert X hz; k_fill; intro X _
  x_run
theorem exc_make (w : World) (s : Shared) (env : Env) (outer : List Env) (t : Tok) (gd : Option (List Code))
   (Q E : Value → Shared → Prop) (X : (Mine.hd.heap_1 w.params).In s.heap) (hret : ExcRet s Q) :
   wpAny (model PySem.Challenge.rw_pq0452_01.row.prog w) { handled := none, depth := 303, frames := some (env :: outer), guards := gd, units := 10 } (call (.ref 52) [.str (Str.ofString "async_not_constant") t]) Q E s := exc_make_g w s env outer t gd Q E X _ rfl hret
end
section
local macro_rules | `(tactic| x_close) => `(tactic| assumption)
theorem exc_kind_g (w : World) (s : Shared) (env : Env) (outer : List Env) (t : Tok) (gd : Option (List Code))
   (e dx T d : Addr) (h1 h2 h3 : Int) (t1 t2 t3 t4 : Tok) (x2 x3 x4 x5 : Value) (sl : Array (Option Value))
   (Q E : Value → Shared → Prop) (X : (Mine.hd.heap_1 w.params).In s.heap) (prog : Program) (hz : PySem.Challenge.rw_pq0452_01 = PySem.Challenge.rw_pq0452_01)
   (he : s.heap.get? e = some { cls := .ref 52, dict := some dx, data := .fields ⟨[.ref d, .ref T, x2, x3, x4, x5]⟩, slots := sl })
   (hdx : s.heap.get? dx = some (excDict h1 h2 h3 t1 t2 t3 t4)) (hq : Q (.str sAnc t4) s) :
   wpAny (model prog w) { handled := some (.ref e), depth := 302, frames := some (env :: outer), guards := gd, units := 7 } (call (.builtin "BaseException.__getattribute__") [.ref e, .str sKind t]) Q E s := by
  revert X hz; k_fill; intro X _
  dsimp only [excDict] at hdx
  x_run
theorem exc_kind (w : World) (s : Shared) (env : Env) (outer : List Env) (t : Tok) (gd : Option (List Code))
   (e dx T d : Addr) (h1 h2 h3 : Int) (t1 t2 t3 t4 : Tok) (x2 x3 x4 x5 : Value) (sl : Array (Option Value))
   (Q E : Value → Shared → Prop) (X : (Mine.hd.heap_1 w.params).In s.heap)
   (he : s.heap.get? e = some { cls := .ref 52, dict := some dx, data := .fields ⟨[.ref d, .ref T, x2, x3, x4, x5]⟩, slots := sl })
   (hdx : s.heap.get? dx = some (excDict h1 h2 h3 t1 t2 t3 t4)) (hq : Q (.str sAnc t4) s) :
   wpAny (model PySem.Challenge.rw_pq0452_01.row.prog w) { handled := some (.ref e), depth := 302, frames := some (env :: outer), guards := gd, units := 7 } (call (.builtin "BaseException.__getattribute__") [.ref e, .str sKind t]) Q E s := exc_kind_g w s env outer t gd e dx T d h1 h2 h3 t1 t2 t3 t4 x2 x3 x4 x5 sl Q E X _ rfl he hdx hq
end
theorem kind_eq : PySem.Str.ofString "kind" = sKind := by decide +kernel
theorem ga_bind (self : Value) : bindSpecial (.builtin "BaseException.__getattribute__") self = pure (.builtin "BaseException.__getattribute__", [self]) := by
  have hop : withoutEnding? "BaseException.__getattribute__" "#opaque" = none := by decide +kernel
  have hdat : withoutEnding? "BaseException.__getattribute__" "#data" = none := by decide +kernel
  have hk : builtinKind "BaseException.__getattribute__" = some .slot := by decide +kernel
  simp only [bindSpecial, typeOf, builtinType, hop, hdat, hk]; rfl
theorem attr_kind (w : World) (s : Shared) (env : Env) (outer : List Env) (gd : Option (List Code)) (expr : Bool)
   (e dx T d : Addr) (h1 h2 h3 : Int) (t1 t2 t3 t4 : Tok) (x2 x3 x4 x5 : Value) (sl : Array (Option Value))
   (Q E : Value → Shared → Prop) (X : (Mine.hd.heap_1 w.params).In s.heap)
   (hg : findIn (Mine.hd.heap_1 w.params) (.ref 52) "__getattribute__" = some (some (.builtin "BaseException.__getattribute__")))
   (hga : findIn (Mine.hd.heap_1 w.params) (.ref 52) "__getattr__" = some none)
   (he : s.heap.get? e = some { cls := .ref 52, dict := some dx, data := .fields ⟨[.ref d, .ref T, x2, x3, x4, x5]⟩, slots := sl })
   (hdx : s.heap.get? dx = some (excDict h1 h2 h3 t1 t2 t3 t4)) (hq : Q (.str sAnc t4) { s with toks := s.toks + 1 }) :
   wpAny (model PySem.Challenge.rw_pq0452_01.row.prog w) { handled := some (.ref e), depth := 302, frames := some (env :: outer), guards := gd, units := 7 } (getAttr (.ref e) (PySem.Str.ofString "kind") expr) Q E s := by
  rw [kind_eq]
  unfold getAttr mkText
  refine wpAny_bind (wpAny_bind (wpAny_fresh (wpAny_pure ?_)))
  unfold getAttrBy
  refine wpAny_holding ?_
  have hT : Looks (model PySem.Challenge.rw_pq0452_01.row.prog w) s.heap (typeOf (.ref e)) (.ref 52) := (Looks.ld (part := none) he).andThen .now
  refine wpAny_bind (hT.here (s := { s with toks := s.toks + 1 }) ?_)
  refine wpAny_bind ((looks_findIn X hg).here (s := { s with toks := s.toks + 1 }) ?_)
  dsimp only
  rw [if_neg (by decide +kernel)]
  unfold getAttrByItsOwn hookBefore
  refine wpAny_bind ?_
  rw [if_pos (by decide +kernel)]
  refine (looks_findIn X hga).here (s := { s with toks := s.toks + 1 }) ?_
  refine wpAny_bind (wpAny_attempt (wpAny_holding ?_))
  unfold callGetattribute
  rw [if_neg (by cases expr <;> decide +kernel)]
  unfold boundAndCalled
  rw [ga_bind]
  refine wpAny_bind (wpAny_pure ?_)
  exact exc_kind w { s with toks := s.toks + 1 } env outer _ gd e dx T d h1 h2 h3 t1 t2 t3 t4 x2 x3 x4 x5 sl _ _ X he hdx (wpAny_pure hq)
end Mine
end

/-! ## Mix -/
theorem Mine.reset_Mix : True := by
  w_top off
  first | walk1 | trivial
section
open PySem PySem.W PyProof.Rows PySem.Calls
set_option Elab.async false
set_option maxRecDepth 100000
set_option maxHeartbeats 1000000
namespace Mine
abbrev MK := Sum PySem.Str Int
def mixIs : MK → Value → Bool
  | .inl x, v => Value.isStrOf x v
  | .inr i, v => Value.isInt i v
theorem mix_no {x : PySem.Str} {i : Int} {v : Value} (h : Value.isStrOf x v = true) (h' : Value.isInt i v = true) : False := by
  obtain ⟨t, rfl⟩ := Value.isStrOf_shape h
  simp [Value.isInt] at h'
theorem mix_eq (prog : Program) (w : World) {A : Around} {E : Value → Shared → Prop} {s : Shared} {a b : MK} {u v : Value} {Q : Bool → Shared → Prop} (hu : mixIs a u = true) (hv : mixIs b v = true) (h : Q (decide (a = b)) s) :
    wpAny (model prog w) A (PySem.eqBool u v) Q E s := by
  rcases a with x | i <;> rcases b with y | j
  · exact (strKind prog w).eqBool (a := x) (b := y) hu hv (by simpa using h)
  · obtain ⟨t, rfl⟩ := Value.isStrOf_shape hu
    obtain ⟨t', rfl⟩ := Value.isInt_shape hv
    unfold eqBool
    try with_reducible refine wpAny_holding ?_
    show wpAny _ _ (if (Value.str x t == Value.int j t') = true then _ else _) Q E s
    rw [if_neg (by simp)]
    exact wpAny_bind (EqMixed.eq_str_int (wpAny_truthy_bool (by simpa using h)))
  · obtain ⟨t, rfl⟩ := Value.isInt_shape hu
    obtain ⟨t', rfl⟩ := Value.isStrOf_shape hv
    unfold eqBool
    try with_reducible refine wpAny_holding ?_
    show wpAny _ _ (if (Value.int i t == Value.str y t') = true then _ else _) Q E s
    rw [if_neg (by simp)]
    exact wpAny_bind (EqMixed.eq_int_str (wpAny_truthy_bool (by simpa using h)))
  · exact (intKind prog w).eqBool (a := i) (b := j) hu hv (by simpa using h)
def mixHash (w : World) : MK → Int
  | .inl x => hashStr w x
  | .inr i => hashInt i
theorem mix_hash (prog : Program) (w : World) {A : Around} {E : Value → Shared → Prop} {s : Shared} {k : MK} {v : Value} {Q : Int → Shared → Prop} (hv : mixIs k v = true) (h : Q (mixHash w k) { s with toks := s.toks + 1 }) :
    wpAny (model prog w) A (PySem.pyHash v) Q E s := by
  rcases k with x | i
  · exact (strKind prog w).pyHash (k := x) hv h
  · exact (intKind prog w).pyHash (k := i) hv h
theorem mix_inj (v : Value) (a b : MK) (ha : mixIs a v = true) (hb : mixIs b v = true) : a = b := by
  rcases a with x | i <;> rcases b with y | j
  · rw [Value.isStrOf_inj v _ _ ha hb]
  · exact (mix_no ha hb).elim
  · exact (mix_no hb ha).elim
  · rw [Value.isInt_inj v _ _ ha hb]
theorem mix_byValue (prog : Program) (w : World) (k : MK) (v : Value) (h : mixIs k v = true) : carriedByValue v = true := by
  rcases k with x | i
  · exact (strKind prog w).byValue x v h
  · exact (intKind prog w).byValue i v h
theorem mix_strs (prog : Program) (w : World) (k : MK) (x : PySem.Str) (t : Tok) (v : Value) (h : mixIs k (.str x t) = true) : mixIs k v = v.isStr x := by
  rcases k with y | i
  · exact (strKind prog w).strs y x t v h
  · simp [mixIs, Value.isInt] at h
def mixKind (prog : Program) (w : World) : KeyKind prog w MK := ⟨mixIs, mixHash w, mix_inj, mix_byValue prog w, mix_hash prog w, mix_eq prog w, mix_strs prog w⟩
end Mine
end

/-! ## Mk -/
theorem Mine.reset_Mk : True := by
  w_top off
  first | walk1 | trivial
section
open PySem PySem.W PyProof.Rows PySem.Calls
set_option Elab.async false
set_option maxRecDepth 100000
set_option maxHeartbeats 1000000
namespace Mine
abbrev Keys := List (List MK × Addr × Value)
/-- a dict of the ledger, keyed by tuples of the ledger -/
def IsMade (prog : Program) (w : World) (news : List (Addr × Obj)) (o : Obj) (xs : Keys) : Prop :=
  o.ExactDict ∧ ∃ es ep, o.data = .dict es ep ∧ es.toList = xs.map (entryOfKey (tupleKind (mixKind prog w))) ∧ (xs.map (·.1)).Nodup ∧ ∀ x ∈ xs, ∃ ok, (x.2.1, ok) ∈ news ∧ TupKeyObj (mixKind prog w) x.1 ok
section
variable {prog : Program} {w : World} {news news' : List (Addr × Obj)} {o : Obj} {xs : Keys} {h₀ h : Heap} {L d a : Addr} {m : Str → Option Value}
theorem IsMade.ofEmpty {K' : Type} [DecidableEq K'] {knd' : KeyKind prog w K'} (hd : o.IsDictOf knd' []) : IsMade prog w news o [] := by
  obtain ⟨es, ep, hc, hdat, _, hp, _⟩ := hd
  have he : es.toList = [] := List.length_eq_zero_iff.mp hp.length
  exact ⟨hc, es, ep, hdat, he, List.nodup_nil, fun _ hx => by simp at hx⟩
theorem IsMade.sub (M : IsMade prog w news o xs) (hs : ∀ p ∈ news, p.2.cls = .type "tuple" → p ∈ news') : IsMade prog w news' o xs := by
  obtain ⟨hc, es, ep, hd, he, hn, hk⟩ := M
  refine ⟨hc, es, ep, hd, he, hn, fun x hx => ?_⟩
  obtain ⟨ok, hm, t⟩ := hk x hx
  exact ⟨ok, hs _ hm t.1, t⟩
theorem IsMade.dict (N : News h₀ L h news) (hp : (d, o) ∈ news) (M : IsMade prog w news o xs) : h.DictOfH (tupleKind (mixKind prog w)) d xs :=
  let ⟨hc, es, ep, hd, he, hn, hk⟩ := M
  ⟨o, es, ep, N.get hp, hc, hd, he, fun x hx => let ⟨_, hmk, t⟩ := hk x hx; t.key (N.get hmk), hn⟩
theorem atKey_none {ks : List MK} (hno : ∀ x ∈ xs, x.1 ≠ ks) : atKey xs ks = none := by
  unfold atKey
  rw [List.find?_eq_none.mpr (fun x hx => by simpa using hno x hx)]
  rfl
theorem atKey_stored {ks : List MK} (a : Addr) (v : Value) (hno : ∀ x ∈ xs, x.1 ≠ ks) : atKey (storedH xs ks a v) ks = some (a, v) := by
  rw [storedH_new (atKey_none hno)]
  unfold atKey
  rw [List.find?_append, List.find?_eq_none.mpr (fun x hx => by simpa using hno x hx)]
  simp
variable {A : Around} {E : Value → Shared → Prop} {s : Shared} {ks : List MK} {vs : List Value}
theorem notin_made {Q : Value → Shared → Prop} (hu : A.units + 1 < cLine) (N : News h₀ L s.heap news) (hp : (d, o) ∈ news) (M : IsMade prog w news o xs) (lo : (d == sysModules) = false) (hka : (a, tupleObj vs) ∈ news)
    (tk : ItemsAre (mixKind prog w) ks vs) (hno : ∀ x ∈ xs, x.1 ≠ ks) (h : Q (.bool true) { s with toks := s.toks + (ks.length + 1) }) : wpAny (model prog w) A (compareOp .NotIn (.ref a) (.ref d)) Q E s :=
  wpAny_notIn_heap (knd := tupleKind (mixKind prog w)) (tupleKind_room_in1 hu) ((TupKeyObj.made tk).key (N.get hka)) lo (M.dict N hp) (by rw [atKey_none hno]; exact h)
theorem item_made {value slice : PySem.Expr} {p : Addr × Value} {Q : Value → Shared → Prop} (hu : A.units + 1 < cLine) (N : News h₀ L s.heap news) (hp : (d, o) ∈ news) (M : IsMade prog w news o xs) (hka : (a, tupleObj vs) ∈ news)
    (tk : ItemsAre (mixKind prog w) ks vs) (hat : atKey xs ks = some p) (h : Q p.2 { s with toks := s.toks + (ks.length + 1) })
    (hs : subscripted slice false (.ref d) (.ref a) = operate [.ref d, .ref a] (getItem (.ref d) (.ref a)) := by with_unfolding_all rfl) (hg : ∀ r, letTemporaryGo value (.ref d) r = pure () := by intro _; with_unfolding_all rfl) :
    wpAny (model prog w) A (subscriptTail value slice (.ref d) (.ref a)) Q E s :=
  have hD := M.dict N hp
  subscriptTail_builtin hD.typeIs slot_dict_getitem.lookup (wpAny_getItem_heap (tupleKind_room_in1 hu) ((TupKeyObj.made tk).key (N.get hka)) hD hat h) hs hg
theorem set_made {g : Obj → List (Addr × Obj)} {v : Value} {Q : Unit → Shared → Prop} (hu : A.units + 1 < cLine) (F : Fr h₀ L s.heap m) (N : News h₀ L s.heap news) (U : UpdF d o news g) (M : IsMade prog w news o xs) (hka : (a, tupleObj vs) ∈ news)
    (tk : ItemsAre (mixKind prog w) ks vs) (hsz : xs.length ≤ 1000)
    (h : ∀ h' o', Fr h₀ L h' m → News h₀ L h' (g o') → IsMade prog w (g o') o' (storedH xs ks a v) → Q () { s with heap := h', toks := s.toks + (ks.length + 1) }) :
    wpAny (model prog w) A (setItem (.ref d) (.ref a) v) Q E s := by
  obtain ⟨pre, post, rfl, hg, ha, hb⟩ := U.split
  have hin : (d, o) ∈ pre ++ (d, o) :: post := List.mem_append_right _ (.head _)
  have hm := N _ hin
  have hD := M.dict N hin
  have hne : ∀ {b : Addr} {ob : Obj} {ks' : List MK}, (b, ob) ∈ pre ++ (d, o) :: post → TupKeyObj (mixKind prog w) ks' ob → b ≠ d := by
    intro b ob ks' hb t e
    subst e
    obtain rfl : ob = o := Option.some.inj ((N.get hb).symm.trans (N.get hin))
    have h1 := t.1
    rw [M.1.1] at h1
    injection h1 with h2
    exact absurd h2 (by decide)
  have hxs : xs.length ≤ sizeLine := by rw [sizeLine_eq]; omega
  have keep : ∀ o' : Obj, ∀ p ∈ pre ++ (d, o) :: post, p.1 ≠ d → p ∈ g o' := fun o' p hp hpd => by
    rw [hg]
    rcases List.mem_append.mp hp with hp | hp
    · exact List.mem_append_left _ hp
    · rcases List.mem_cons.mp hp with rfl | hp
      · exact absurd rfl hpd
      · exact List.mem_append_right _ (.tail _ hp)
  refine wpAny_setItem_heap (hsz := hxs) (knd := tupleKind (mixKind prog w)) (tupleKind_room_in1 hu) ((TupKeyObj.made tk).key (N.get hka)) hD fun h' hm' hs => ?_
  obtain ⟨o', es', ep', ho', hc', hd', he', _, hn'⟩ := hm'
  refine h h' o' (F.change hs hm.2.1 hm.2.2) (hg o' ▸ N.setIn ha hb hs ho') ⟨hc', es', ep', hd', he', hn', fun x hx => ?_⟩
  rcases mem_storedH hx with ⟨y, hy, e1, e2⟩ | ⟨e1, e2⟩
  · obtain ⟨hcM, esM, epM, hdM, heM, hnM, hkM⟩ := M
    obtain ⟨oky, hmk, t⟩ := hkM y hy
    exact ⟨oky, by rw [e2]; exact keep o' _ hmk (hne hmk t), by rw [e1]; exact t⟩
  · exact ⟨_, by rw [e2]; exact keep o' _ hka (hne hka (TupKeyObj.made tk)), by rw [e1]; exact TupKeyObj.made tk⟩
theorem IsMade.keep1 (M : IsMade prog w news o xs) (p : Addr × Obj) : IsMade prog w (p :: news) o xs := M.sub fun _ hp _ => .tail _ hp
end
end Mine
end

/-! ## Ng -/
theorem Mine.reset_Ng : True := by
  w_top off
  first | walk1 | trivial
section
open PySem PySem.W PyProof.Rows PySem.Calls
set_option Elab.async false
set_option maxRecDepth 100000
set_option maxHeartbeats 1000000
namespace Mine
abbrev ent (w : World) (n : String) (t : Tok) (v : Value) : DictEntry := ⟨PyData.keyHash w.params (Str.ofString n), .str (Str.ofString n) t, v⟩
abbrev netDict (w : World) (nm : Value) (c : Int) (tc t1 t2 t3 t4 t5 : Tok) (li lo lc : Addr) : Obj :=
  dictOf [ent w "name" t1 nm, ent w "count" t2 (.int c tc), ent w "inputs" t3 (.ref li), ent w "outputs" t4 (.ref lo), ent w "cells" t5 (.ref lc)] 5
abbrev gDict (w : World) (t1 t2 t3 : Tok) (xn mk op : Addr) : Obj :=
  dictOf [ent w "netlist" t1 (.ref xn), ent w "made" t2 (.ref mk), ent w "opposite" t3 (.ref op)] 3
abbrev thePr : Program := PySem.Challenge.rw_pq0452_01.row.prog
theorem mixStr {prog : Program} {w : World} (x : Str) (t : Tok) : (mixKind prog w).is (.inl x) (.str x t) = true := (strKind_is prog w x t)
theorem mixInt {prog : Program} {w : World} (x : Int) (t : Tok) : (mixKind prog w).is (.inr x) (.int x t) = true := (intKind_is prog w x t)
theorem items3 {prog : Program} {w : World} (x : Str) (t : Tok) (a b : Int) (ta tb : Tok) : ItemsAre (mixKind prog w) [.inl x, .inr a, .inr b] [.str x t, .int a ta, .int b tb] :=
  .cons (mixStr x t) (.cons (mixInt a ta) (.cons (mixInt b tb) .nil))
theorem items4 {prog : Program} {w : World} (x : Str) (t : Tok) (a b c : Int) (ta tb tc : Tok) : ItemsAre (mixKind prog w) [.inl x, .inr a, .inr b, .inr c] [.str x t, .int a ta, .int b tb, .int c tc] :=
  .cons (mixStr x t) (.cons (mixInt a ta) (.cons (mixInt b tb) (.cons (mixInt c tc) .nil)))
/-- no key speaks of this net -/
def NoKey (act : Int) (xs : Keys) : Prop := ∀ x ∈ xs, (Sum.inr act : MK) ∉ x.1
theorem NoKey.ne {act : Int} {xs : Keys} (h : NoKey act xs) {ks : List MK} (hk : (Sum.inr act : MK) ∈ ks) : ∀ x ∈ xs, x.1 ≠ ks := fun x hx e => h x hx (e ▸ hk)
/-- a cell, in plain words -/
structure PCell where
  mux : Bool
  out : Int
  ins : List Int
abbrev kName (b : Bool) : Str := if b then Str.ofString "mux" else Str.ofString "or"
def CellAt (rest : List (Addr × Obj)) (pc : PCell) (v : Value) : Prop := ∃ ca ia t1 t2 vs, v = .ref ca ∧ (ca, tupleObj [.str (kName pc.mux) t1, .int pc.out t2, .ref ia, .none]) ∈ rest ∧ (ia, tupleObj vs) ∈ rest ∧ IntsAre vs pc.ins
inductive CellsAre (rest : List (Addr × Obj)) : List PCell → List Value → Prop
  | nil : CellsAre rest [] []
  | cons {pc v pcs vs} : CellAt rest pc v → CellsAre rest pcs vs → CellsAre rest (pc :: pcs) (v :: vs)
theorem CellAt.sub {rest rest' : List (Addr × Obj)} {pc : PCell} {v : Value} (h : CellAt rest pc v) (hs : ∀ p ∈ rest, p ∈ rest') : CellAt rest' pc v :=
  let ⟨ca, ia, t1, t2, vs, e, h1, h2, h3⟩ := h
  ⟨ca, ia, t1, t2, vs, e, hs _ h1, hs _ h2, h3⟩
theorem CellsAre.sub {rest rest' : List (Addr × Obj)} {pcs : List PCell} {vs : List Value} (h : CellsAre rest pcs vs) (hs : ∀ p ∈ rest, p ∈ rest') : CellsAre rest' pcs vs := by
  induction h with
  | nil => exact .nil
  | cons h1 _ ih => exact .cons (h1.sub hs) ih
theorem CellsAre.snoc {rest : List (Addr × Obj)} {pcs : List PCell} {vs : List Value} {pc : PCell} {v : Value} (h : CellsAre rest pcs vs) (h1 : CellAt rest pc v) : CellsAre rest (pcs ++ [pc]) (vs ++ [v]) := by
  induction h with
  | nil => exact .cons h1 .nil
  | cons h2 _ ih => exact .cons h2 ih
theorem CellsAre.length {rest : List (Addr × Obj)} {pcs : List PCell} {vs : List Value} (h : CellsAre rest pcs vs) : pcs.length = vs.length := by
  induction h with
  | nil => rfl
  | cons _ _ ih => simp [ih]
/-- where the netlist and the gates lie -/
structure NA where
  dn : Addr
  xn : Addr
  li : Addr
  lo : Addr
  lc : Addr
  ma : Addr
  xg : Addr
  dg : Addr
  op : Addr
  nm : Value
  t1 : Tok
  t2 : Tok
  t3 : Tok
  t4 : Tok
  t5 : Tok
  g1 : Tok
  g2 : Tok
  g3 : Tok
  oo : Obj
structure NetOk (w : World) (n : NA) (rest : List (Addr × Obj)) : Prop where
  xn : (n.xn, instObj 141 n.dn) ∈ rest
  xg : (n.xg, instObj 218 n.dg) ∈ rest
  dg : (n.dg, gDict w n.g1 n.g2 n.g3 n.xn n.ma n.op) ∈ rest
  op : (n.op, n.oo) ∈ rest
  oo : n.oo.IsDictOf (intKind thePr w) []
  ls : (n.op == sysModules) = false
  lm : (n.ma == sysModules) = false
  ne1 : @Ne Nat n.dn n.lc
  ne2 : @Ne Nat n.dn n.ma
  ne3 : @Ne Nat n.lc n.ma
  d1 : ∀ p ∈ rest, p.1 ≠ n.dn
  d2 : ∀ p ∈ rest, p.1 ≠ n.lc
  d3 : ∀ p ∈ rest, p.1 ≠ n.ma
abbrev netLed (w : World) (n : NA) (c : Int) (tc : Tok) (us : List Value) (nn : Nat) (om : Obj) (rest : List (Addr × Obj)) : List (Addr × Obj) :=
  (n.dn, netDict w n.nm c tc n.t1 n.t2 n.t3 n.t4 n.t5 n.li n.lo n.lc) :: (n.lc, W.listOf us.toArray nn) :: (n.ma, om) :: rest
/-- what a gate's making hands back: one more cell -/
def NetTo (w : World) (n : NA) (rest : List (Addr × Obj)) (us : List Value) (xs : Keys) (c : Int) (pc : PCell) (key : List MK) (h₀ : Heap) (L : Addr) (m : Str → Option Value) (s : Shared) (Q : Value → Shared → Prop) : Prop :=
  ∀ (tc' t : Tok) (v : Value) (om' : Obj) (nn' : Nat) (xs' : Keys) (rest' : List (Addr × Obj)) (h' : Heap) (tk' : Nat), Fr h₀ L h' m → News h₀ L h' (netLed w n (c + 1) tc' (us ++ [v]) nn' om' rest') → NetOk w n rest' → (∀ p ∈ rest, p ∈ rest') →
    CellAt rest' pc v → IsMade thePr w rest' om' xs' → xs'.length ≤ xs.length + 1 → (∀ x ∈ xs', (∃ y ∈ xs, x.1 = y.1) ∨ x.1 = key) → Q (.int c t) { s with heap := h', toks := tk' }
theorem NetOk.more {w : World} {n : NA} {rest : List (Addr × Obj)} (H : NetOk w n rest) (p : Addr × Obj) (h1 : @Ne Nat p.1 n.dn) (h2 : @Ne Nat p.1 n.lc) (h3 : @Ne Nat p.1 n.ma) : NetOk w n (p :: rest) where
  xn := .tail _ H.xn
  xg := .tail _ H.xg
  dg := .tail _ H.dg
  op := .tail _ H.op
  oo := H.oo
  ls := H.ls
  lm := H.lm
  ne1 := H.ne1
  ne2 := H.ne2
  ne3 := H.ne3
  d1 := fun q hq => (List.mem_cons.mp hq).elim (fun e => e ▸ h1) (H.d1 q)
  d2 := fun q hq => (List.mem_cons.mp hq).elim (fun e => e ▸ h2) (H.d2 q)
  d3 := fun q hq => (List.mem_cons.mp hq).elim (fun e => e ▸ h3) (H.d3 q)
theorem storedH_len {xs : Keys} {key : List MK} {a : Addr} {v : Value} : (storedH xs key a v).length ≤ xs.length + 1 := by
  unfold storedH
  split
  · rw [List.length_map]; omega
  · rw [List.length_append]; exact Nat.le_refl _
theorem net_close {w : World} {n : NA} {rest : List (Addr × Obj)} {us : List Value} {xs : Keys} {c : Int} {key : List MK} {h₀ : Heap} {L : Addr} {m : Str → Option Value} {s : Shared} {Q : Value → Shared → Prop} {b : Bool} {out : Int} {ins : List Int}
    {D1 D2 D3 : Addr} {t1 t2 tc' t : Tok} {vs : List Value} {ok o' : Obj} {v' : Value} {nn' : Nat} {h' : Heap} {tk' : Nat} {x : Int}
    (H : NetTo w n rest us xs x ⟨b, out, ins⟩ key h₀ L m s Q) (OK : NetOk w n rest) (hcx : c = x + 1) (F : Fr h₀ L h' m)
    (N : News h₀ L h' ((D1, tupleObj [.str (kName b) t1, .int out t2, .ref D2, .none]) :: (D2, tupleObj vs) :: (D3, ok) :: netLed w n c tc' (us ++ [.ref D1]) nn' o' rest))
    (M : IsMade thePr w ((D1, tupleObj [.str (kName b) t1, .int out t2, .ref D2, .none]) :: (D2, tupleObj vs) :: (D3, ok) :: netLed w n c tc' (us ++ [.ref D1]) nn' o' rest) o' (storedH xs key D3 v'))
    (hI : IntsAre vs ins) (l1 : @LT.lt Nat _ n.dn D1 ∧ @LT.lt Nat _ n.lc D1 ∧ @LT.lt Nat _ n.ma D1) (l2 : @LT.lt Nat _ n.dn D2 ∧ @LT.lt Nat _ n.lc D2 ∧ @LT.lt Nat _ n.ma D2) (l3 : @LT.lt Nat _ n.dn D3 ∧ @LT.lt Nat _ n.lc D3 ∧ @LT.lt Nat _ n.ma D3) : Q (.int x t) { s with heap := h', toks := tk' } := by
  obtain ⟨a1, a2, a3⟩ := l1
  obtain ⟨b1, b2, b3⟩ := l2
  obtain ⟨c1, c2, c3⟩ := l3
  subst hcx
  have e1 := Nat.ne_of_gt a1
  have e2 := Nat.ne_of_gt a2
  have e3 := Nat.ne_of_gt a3
  have e4 := Nat.ne_of_gt b1
  have e5 := Nat.ne_of_gt b2
  have e6 := Nat.ne_of_gt b3
  have e7 := Nat.ne_of_gt c1
  have e8 := Nat.ne_of_gt c2
  have e9 := Nat.ne_of_gt c3
  refine H tc' t (.ref D1) o' nn' _ ((D1, tupleObj [.str (kName b) t1, .int out t2, .ref D2, .none]) :: (D2, tupleObj vs) :: (D3, ok) :: rest) h' tk' F (newsSub N ?_) ?_ ?_ ⟨D1, D2, t1, t2, vs, rfl, .head _, .tail _ (.head _), hI⟩ (M.sub ?_) storedH_len ?_
  · dsimp only [netLed]
    repeat' (first | with_reducible exact subRfl | exact subNil | refine subCons ?_ ?_ | refine subTail ?_ | with_reducible exact mem_head | refine List.mem_cons_of_mem _ ?_)
  · exact ((OK.more _ e7 e8 e9).more _ e4 e5 e6).more _ e1 e2 e3
  · intro p hp
    exact .tail _ (.tail _ (.tail _ hp))
  · intro p hp hcl
    simp only [netLed, List.mem_cons] at hp ⊢
    rcases hp with hp | hp | hp | hp | hp | hp | hp
    · exact .inl hp
    · exact .inr (.inl hp)
    · exact .inr (.inr (.inl hp))
    · subst hp; exact absurd hcl (by simp)
    · subst hp; exact absurd hcl (by simp)
    · subst hp
      have h1 : o'.cls = .type "tuple" := hcl
      rw [M.1.1] at h1
      exact absurd h1 (by decide)
    · exact .inr (.inr (.inr hp))
  · intro y hy
    rcases mem_storedH hy with ⟨z, hz, e, _⟩ | ⟨e, _⟩
    · exact .inl ⟨z, hz, e⟩
    · exact .inr e
end Mine
end

/-! ## Lf -/
theorem Mine.reset_Lf : True := by
  w_top off
  first | walk1 | trivial
section
open PySem PySem.W PyProof.Rows PySem.Calls
set_option Elab.async false
set_option maxRecDepth 100000
set_option maxHeartbeats 1000000
namespace Mine
section
variable {prog : Program} {w : World} {A : Around} {E : Value → Shared → Prop} {s : Shared} {env : Env} {h₀ : Heap} {x : Str} {body : List Stmt} {Q : Flow → Shared → Prop} {σ : Type}
/-- the end of a turn, with what the loop's names hold -/
def FEnd (h₀ : Heap) (L I : Addr) (oI : Obj) (x : Str) (fr : σ → Str → Option Value) (P : σ → List (Addr × Obj) → Prop) (s₁ : Shared) (Q : Flow → Shared → Prop) (f : Flow) (s₂ : Shared) : Prop :=
  match f with
  | .ret v => Q (.ret v) s₂
  | .brk => Q .next s₂
  | _ => ∃ h' tk m' nx st, s₂ = { s₁ with heap := h', toks := tk } ∧ Fr h₀ L h' m' ∧ News h₀ L h' ((I, oI) :: nx) ∧ (∀ p ∈ nx, p.1 ≠ I) ∧ (∀ y, y ≠ x → m' y = fr st y) ∧ P st nx
theorem FEnd.next {L I : Addr} {oI : Obj} {fr : σ → Str → Option Value} {P : σ → List (Addr × Obj) → Prop} {s₁ : Shared} {h' : Heap} {tk : Nat} {m' : Str → Option Value} {nx : List (Addr × Obj)} (st : σ)
    (F : Fr h₀ L h' m') (N : News h₀ L h' ((I, oI) :: nx)) (ho : ∀ p ∈ nx, p.1 ≠ I) (hm : ∀ y, y ≠ x → m' y = fr st y) (hP : P st nx) :
    FEnd h₀ L I oI x fr P s₁ Q .next { s₁ with heap := h', toks := tk } := ⟨h', tk, m', nx, st, rfl, F, N, ho, hm, hP⟩
theorem FEnd.cont {L I : Addr} {oI : Obj} {fr : σ → Str → Option Value} {P : σ → List (Addr × Obj) → Prop} {s₁ : Shared} {h' : Heap} {tk : Nat} {m' : Str → Option Value} {nx : List (Addr × Obj)} (st : σ)
    (F : Fr h₀ L h' m') (N : News h₀ L h' ((I, oI) :: nx)) (ho : ∀ p ∈ nx, p.1 ≠ I) (hm : ∀ y, y ≠ x → m' y = fr st y) (hP : P st nx) :
    FEnd h₀ L I oI x fr P s₁ Q .cont { s₁ with heap := h', toks := tk } := ⟨h', tk, m', nx, st, rfl, F, N, ho, hm, hP⟩

theorem range_F {r : Addr} {b₀ : Int} {t₀ u₀ v₀ : Tok} {n : Nat} {m₀ : Str → Option Value} {news : List (Addr × Obj)} (fr : σ → Str → Option Value) (P : Nat → σ → List (Addr × Obj) → Prop)
    (hh : A.handled = none) (hr : IsRange s.heap r 0 b₀ 1 t₀ u₀ v₀) (hsmall : Builtin.Range.small 0 b₀ 1 = true) (hn : Builtin.Range.rangeSize 0 b₀ 1 = (n : Int))
    (F : Fr h₀ env.locals s.heap m₀) (N : News h₀ env.locals s.heap news) (st₀ : σ) (hfr : ∀ y, y ≠ x → m₀ y = fr st₀ y) (hp : P 0 st₀ news)
    (turn : ∀ i t st nx h tk I oI, oI.cls = .type "range_iterator" → i < n → P i st nx → (∀ p ∈ nx, p.1 ≠ I) →
      Fr h₀ env.locals h (fun y => if y = x then some (.int (i : Nat) t) else fr st y) → News h₀ env.locals h ((I, oI) :: nx) →
      wpAny (model prog w) A (execs body env) (FEnd h₀ env.locals I oI x fr (P (i + 1)) { s with heap := h, toks := tk } Q) E { s with heap := h, toks := tk })
    (done : ∀ (u : Option Value) st nx h tk, P n st nx → Fr h₀ env.locals h (fun y => if y = x then u else fr st y) → News h₀ env.locals h nx → Q .next { s with heap := h, toks := tk }) :
    wpAny (model prog w) A (pyIter (.ref r)) (fun it s₂ => LoopAtV prog w A h₀ env x body Q E it s₂) E s := by
  refine wpAny_pyIter_range hr hsmall ?_
  have W : Walks prog w A s.heap.objs.size [s.heap.objs.size] [s.heap.objs.size] n (fun i v => i < n ∧ ∃ t, v = .int (0 + i * 1) t)
      (fun i h => IsRangeIter h s.heap.objs.size (0 + (i : Nat) * 1) ((n : Int) - (i : Nat)) 1) := (Walks.range hh _ 0 1 n).bound
  let J : Nat → (Str → Option Value) → List (Addr × Obj) → Prop := fun i m₁ nx => ∃ st, P i st nx ∧ ∀ y, y ≠ x → m₁ y = fr st y
  refine ⟨_, _, _, n, _, _, m₀, news, J, rfl, W, ?_, ?_, ?_, (by show IsRangeIter _ _ _ _ _; rw [hn]; simpa using Heap.get?_push_size _ rfl), F.push _, (fun p hp => ⟨Heap.get?_push_of_some _ (N p hp).1, (N p hp).2⟩), ⟨st₀, hp, hfr⟩, ?_, ?_⟩
  · intro hm
    exact absurd F.ns.lt ((List.mem_singleton.mp hm) ▸ Nat.lt_irrefl _)
  · intro b hb
    rw [List.mem_singleton.mp hb]
    exact next_is_new F
  · intro p hp hI
    exact absurd (Heap.lt_size (N p hp).1) ((List.mem_singleton.mp hI) ▸ Nat.lt_irrefl _)
  · rintro i v m₁ nx s₁ own ⟨hh', tk', rfl⟩ hin ⟨_, t, rfl⟩ ⟨st, hP, hJ⟩ hoff hown _ hall hst' F₁ N₁
    obtain ⟨oI, hoI⟩ : ∃ o, hh'.get? s.heap.objs.size = some o := ⟨_, hst'⟩
    have hio : (s.heap.objs.size, oI) ∈ own := hall _ (List.mem_singleton.mpr rfl) (next_is_new F) _ hoI
    have hone := own_one hown (fun b hb => .inl (List.mem_singleton.mp hb)) hoI N₁
    have e1 : (0 : Int) + (i : Int) * 1 = (i : Nat) := by omega
    have e : (fun y => if y = x then some (Value.int (0 + (i : Int) * 1) t) else m₁ y) = fun y => if y = x then some (Value.int (i : Nat) t) else fr st y := by
      funext y
      by_cases h1 : y = x
      · simp [h1]
      · simp only [if_neg h1]; exact hJ y h1
    rw [e] at F₁
    have hcI : oI.cls = .type "range_iterator" := by
      have h9 : hh'.get? s.heap.objs.size = some _ := hst'
      rw [hoI] at h9
      exact (Option.some.inj h9) ▸ rfl
    refine wpAny_mono (turn i t st nx hh' tk' s.heap.objs.size oI hcI hin hP (fun p hp q => hoff p hp (List.mem_singleton.mpr q)) F₁ (news_one hio N₁)) (fun f s₂ p => ?_) fun _ _ e => e
    have fin : (∃ h' tk m' nx st, s₂ = { s with heap := h', toks := tk } ∧ Fr h₀ env.locals h' m' ∧ News h₀ env.locals h' ((s.heap.objs.size, oI) :: nx) ∧ (∀ p ∈ nx, p.1 ≠ s.heap.objs.size) ∧ (∀ y, y ≠ x → m' y = fr st y) ∧ P (i + 1) st nx) →
        LoopStepU h₀ env.locals [s.heap.objs.size] own (J (i + 1)) { s with heap := hh', toks := tk' } .next s₂ := by
      rintro ⟨h', tk, m', nx', st', e, F', N', ho', hm', hP'⟩
      refine ⟨rfl, h', tk, m', nx', e, F', fun p hp => ?_, fun p hp q => ho' p hp (List.mem_singleton.mp q), st', hP', hm'⟩
      rcases List.mem_append.mp hp with h1 | h1
      · rw [hone p h1]; exact N' _ (.head _)
      · exact N' _ (.tail _ h1)
    cases f with
    | ret v => exact .ret p
    | brk => exact .brk p
    | next => exact .next (fin p)
    | cont => exact .cont (fin p)
  · rintro h' tk m' nx F' N' _ ⟨st, hP, hJ⟩
    refine done (m' x) st nx h' tk hP ?_ N'
    have e : (fun y => if y = x then m' x else fr st y) = m' := by
      funext y
      by_cases h1 : y = x
      · simp [h1]
      · simp only [if_neg h1]; exact (hJ y h1).symm
    rw [e]; exact F'
end
end Mine
end

/-! ## Li -/
theorem Mine.reset_Li : True := by
  w_top off
  first | walk1 | trivial
section
open PySem PySem.W PyProof.Rows PySem.Calls
set_option Elab.async false
set_option maxRecDepth 100000
set_option maxHeartbeats 1000000
namespace Mine
section
variable {prog : Program} {w : World} {A : Around} {E : Value → Shared → Prop} {s : Shared} {env : Env} {h₀ : Heap} {x : Str} {target : Expr} {body : List Stmt} {Q : Flow → Shared → Prop} {σ : Type}
theorem own_two {I L l : Addr} {h : Heap} {o lo : Obj} {own nx : List (Addr × Obj)} (hown : ∀ p ∈ own, p.1 ∈ [I, l]) (ho : h.get? I = some o) (hl : (l, lo) ∈ nx) (N : News h₀ L h (own ++ nx)) :
    ∀ p ∈ own, p = (I, o) ∨ p = (l, lo) := by
  intro p hp
  have h3 := (N p (List.mem_append_left _ hp)).1
  have h4 := (N _ (List.mem_append_right _ hl)).1
  rcases List.mem_cons.mp (hown p hp) with e | e
  · left
    rw [e, ho] at h3
    exact Prod.ext e (Option.some.inj h3).symm
  · right
    have e := List.mem_singleton.mp e
    rw [e] at h3
    rw [h4] at h3
    exact Prod.ext e (Option.some.inj h3).symm
/-- a for over a list of the ledger -/
theorem list_F {l : Addr} {vs : List Value} {nn : Nat} {m₀ : Str → Option Value} {news : List (Addr × Obj)} (fr : σ → Str → Option Value) (P : Nat → σ → List (Addr × Obj) → Prop)
    (hh : A.handled = none) (hl : (l, W.listOf vs.toArray nn) ∈ news) (hP : ∀ i st nx, P i st nx → (l, W.listOf vs.toArray nn) ∈ nx)
    (F : Fr h₀ env.locals s.heap m₀) (N : News h₀ env.locals s.heap news) (st₀ : σ) (hfr : ∀ y, y ≠ x → m₀ y = fr st₀ y) (hp : P 0 st₀ news)
    (turn : ∀ i v st nx h tk I oI, vs[i]? = some v → P i st nx → (∀ p ∈ nx, p.1 ≠ I) →
      Fr h₀ env.locals h (fun y => if y = x then some v else fr st y) → News h₀ env.locals h ((I, oI) :: nx) →
      wpAny (model prog w) A (execs body env) (FEnd h₀ env.locals I oI x fr (P (i + 1)) { s with heap := h, toks := tk } Q) E { s with heap := h, toks := tk })
    (done : ∀ (u : Option Value) st nx h tk, P vs.length st nx → Fr h₀ env.locals h (fun y => if y = x then u else fr st y) → News h₀ env.locals h nx → Q .next { s with heap := h, toks := tk }) :
    wpAny (model prog w) A (pyIter (.ref l)) (fun it s₂ => LoopAtV prog w A h₀ env x body Q E it s₂) E s := by
  have hol : s.heap.get? l = some (W.listOf vs.toArray nn) := (N _ hl).1
  have hls : s.heap.IsList l vs.toArray := ⟨_, hol, rfl, nn, rfl⟩
  have hne : l ≠ s.heap.objs.size := Nat.ne_of_lt (Heap.lt_size hol)
  refine wpAny_pyIter_list hls ?_
  have W := Walks.list (prog := prog) (w := w) hh s.heap.objs.size l hne vs.toArray
  have hlen : vs.toArray.size = vs.length := by simp
  rw [hlen] at W
  let J : Nat → (Str → Option Value) → List (Addr × Obj) → Prop := fun i m₁ nx => ∃ st, P i st nx ∧ ∀ y, y ≠ x → m₁ y = fr st y
  refine ⟨_, _, _, vs.length, _, _, m₀, news, J, rfl, W, ?_, ?_, ?_, ⟨⟨_, Heap.get?_push_size _ rfl, rfl, rfl⟩, hls.at fun o e => Heap.get?_push_of_some _ e⟩, F.push _, (fun p hp => ⟨Heap.get?_push_of_some _ (N p hp).1, (N p hp).2⟩), ⟨st₀, hp, hfr⟩, ?_, ?_⟩
  · intro hm
    rcases List.mem_cons.mp hm with e | hm
    · exact absurd F.ns.lt (e ▸ Nat.lt_irrefl _)
    · exact (N _ hl).2.1 ((List.mem_singleton.mp hm).symm)
  · intro b hb
    rw [List.mem_singleton.mp hb]
    exact next_is_new F
  · intro p hp hI
    exact absurd (Heap.lt_size (N p hp).1) ((List.mem_singleton.mp hI) ▸ Nat.lt_irrefl _)
  · rintro i v m₁ nx s₁ own ⟨hh', tk', rfl⟩ hin hPv ⟨st, hP₁, hJ⟩ hoff hown hget hall hst' F₁ N₁
    have hPv' : vs[i]? = some v := by simpa using hPv
    obtain ⟨⟨oI, hoI, _⟩, _⟩ := id hst'
    have hio : (s.heap.objs.size, oI) ∈ own := hall _ (.head _) (next_is_new F) _ hoI
    have htwo := own_two hown hoI (hP _ _ _ hP₁) N₁
    have e : (fun y => if y = x then some v else m₁ y) = fun y => if y = x then some v else fr st y := by
      funext y
      by_cases h1 : y = x
      · simp [h1]
      · simp only [if_neg h1]; exact hJ y h1
    rw [e] at F₁
    refine wpAny_mono (turn i v st nx hh' tk' s.heap.objs.size oI hPv' hP₁ (fun p hp q => hoff p hp (List.mem_singleton.mpr q)) F₁ (news_one hio N₁)) (fun f s₂ p => ?_) fun _ _ e => e
    have fin : (∃ h' tk m' nx st, s₂ = { s with heap := h', toks := tk } ∧ Fr h₀ env.locals h' m' ∧ News h₀ env.locals h' ((s.heap.objs.size, oI) :: nx) ∧ (∀ p ∈ nx, p.1 ≠ s.heap.objs.size) ∧ (∀ y, y ≠ x → m' y = fr st y) ∧ P (i + 1) st nx) →
        LoopStepU h₀ env.locals [s.heap.objs.size] own (J (i + 1)) { s with heap := hh', toks := tk' } .next s₂ := by
      rintro ⟨h', tk, m', nx', st', e, F', N', ho', hm', hP'⟩
      refine ⟨rfl, h', tk, m', nx', e, F', fun p hp => ?_, fun p hp q => ho' p hp (List.mem_singleton.mp q), st', hP', hm'⟩
      rcases List.mem_append.mp hp with h1 | h1
      · rcases htwo p h1 with rfl | rfl
        · exact N' _ (.head _)
        · exact N' _ (.tail _ (hP _ _ _ hP'))
      · exact N' _ (.tail _ h1)
    cases f with
    | ret v => exact .ret p
    | brk => exact .brk p
    | next => exact .next (fin p)
    | cont => exact .cont (fin p)
  · rintro h' tk m' nx F' N' _ ⟨st, hP₁, hJ⟩
    refine done (m' x) st nx h' tk hP₁ ?_ N'
    have e : (fun y => if y = x then m' x else fr st y) = m' := by
      funext y
      by_cases h1 : y = x
      · simp [h1]
      · simp only [if_neg h1]; exact (hJ y h1).symm
    rw [e]; exact F'

/-- the end of a turn of a search -/
def SEnd (h₀ : Heap) (L I : Addr) (oI : Obj) (stored : List Str) (m₀ : Str → Option Value) (news : List (Addr × Obj)) (P : Prop) (s₁ : Shared) (Q : Flow → Shared → Prop) (f : Flow) (s₂ : Shared) : Prop :=
  match f with
  | .ret v => Q (.ret v) s₂
  | .brk => Q .next s₂
  | _ => ∃ h' tk m', s₂ = { s₁ with heap := h', toks := tk } ∧ Fr h₀ L h' m' ∧ News h₀ L h' ((I, oI) :: news) ∧ (∀ y, stored.contains y = false → m' y = m₀ y) ∧ P
/-- a for over a list of the ledger, any target, that stores nothing but its names -/
theorem list_T {l : Addr} {vs : List Value} {nn : Nat} {m₀ : Str → Option Value} {news : List (Addr × Obj)} (stored : List Str) (P : Nat → Prop)
    (hh : A.handled = none) (hl : (l, W.listOf vs.toArray nn) ∈ news)
    (F : Fr h₀ env.locals s.heap m₀) (N : News h₀ env.locals s.heap news) (hp : P 0)
    (turn : ∀ i v (u : Str → Option Value) h tk I oI, vs[i]? = some v → P i → (∀ p ∈ news, p.1 ≠ I) →
      Fr h₀ env.locals h (fun y => if stored.contains y then u y else m₀ y) → News h₀ env.locals h ((I, oI) :: news) →
      ∀ R : Flow → Shared → Prop, (∀ fl z, SEnd h₀ env.locals I oI stored m₀ news (P (i + 1)) { s with heap := h, toks := tk } Q fl z → R fl z) → wpAny (model prog w) A (assign target env v) (fun _ s₃ => wpAny (model prog w) A (execs body env) R E s₃) E { s with heap := h, toks := tk })
    (done : ∀ (u : Str → Option Value) h tk, P vs.length → Fr h₀ env.locals h (fun y => if stored.contains y then u y else m₀ y) → News h₀ env.locals h news → Q .next { s with heap := h, toks := tk }) :
    wpAny (model prog w) A (pyIter (.ref l)) (fun it s₂ => TurnsAt prog w A h₀ env target body Q E it s₂) E s := by
  have hol : s.heap.get? l = some (W.listOf vs.toArray nn) := (N _ hl).1
  have hls : s.heap.IsList l vs.toArray := ⟨_, hol, rfl, nn, rfl⟩
  have hne : l ≠ s.heap.objs.size := Nat.ne_of_lt (Heap.lt_size hol)
  refine wpAny_pyIter_list hls ?_
  have W0 := Walks.list (prog := prog) (w := w) hh s.heap.objs.size l hne vs.toArray
  have hlen : vs.toArray.size = vs.length := by simp
  rw [hlen] at W0
  have W := KTurns.ofWalks (target := target) W0 (fun i v s Q E st q => letGo_listiter st.1 q)
  have eqm : ∀ {m₁ : Str → Option Value}, (∀ y, stored.contains y = false → m₁ y = m₀ y) → (fun y => if stored.contains y then m₁ y else m₀ y) = m₁ := by
    intro m₁ hJ
    funext y
    cases h2 : stored.contains y with
    | true => simp
    | false => simp only [Bool.false_eq_true, if_false]; exact (hJ y h2).symm
  let J : Nat → (Str → Option Value) → List (Addr × Obj) → Prop := fun i m₁ nx => P i ∧ nx = news ∧ ∀ y, stored.contains y = false → m₁ y = m₀ y
  refine ⟨_, _, _, vs.length, _, _, _, m₀, news, J, rfl, W, ?_, ?_, ?_, ⟨⟨_, Heap.get?_push_size _ rfl, rfl, rfl⟩, hls.at fun o e => Heap.get?_push_of_some _ e⟩, F.push _, (fun p hp => ⟨Heap.get?_push_of_some _ (N p hp).1, (N p hp).2⟩), ⟨hp, rfl, fun _ _ => rfl⟩, ?_, ?_⟩
  · intro hm
    rcases List.mem_cons.mp hm with e | hm
    · exact absurd F.ns.lt (e ▸ Nat.lt_irrefl _)
    · exact (N _ hl).2.1 ((List.mem_singleton.mp hm).symm)
  · intro b hb
    rw [List.mem_singleton.mp hb]
    exact next_is_new F
  · intro p hp hI
    exact absurd (Heap.lt_size (N p hp).1) ((List.mem_singleton.mp hI) ▸ Nat.lt_irrefl _)
  · rintro i v m₁ nx hh' tk' own hin hPv ⟨hP₁, rfl, hJ⟩ hoff hown hget hall hst' F₁ N₁
    have hPv' : vs[i]? = some v := by simpa using hPv
    obtain ⟨⟨oI, hoI, _⟩, _⟩ := id hst'
    have hio : (s.heap.objs.size, oI) ∈ own := hall _ (.head _) (next_is_new F) _ hoI
    have htwo := own_two hown hoI hl N₁
    rw [← eqm hJ] at F₁
    refine wpAny_mono (turn i v m₁ hh' tk' s.heap.objs.size oI hPv' hP₁ (fun p hp q => hoff p hp (List.mem_singleton.mpr q)) F₁ (news_one hio N₁) _ (fun _ _ z => z)) (fun _ s₃ p₃ => wpAny_mono p₃ (fun f s₂ p => ?_) fun _ _ e => e) fun _ _ e => e
    have fin : (∃ h' tk m', s₂ = { s with heap := h', toks := tk } ∧ Fr h₀ env.locals h' m' ∧ News h₀ env.locals h' ((s.heap.objs.size, oI) :: nx) ∧ (∀ y, stored.contains y = false → m' y = m₀ y) ∧ P (i + 1)) →
        LoopStepU h₀ env.locals [s.heap.objs.size] own (J (i + 1)) { s with heap := hh', toks := tk' } .next s₂ := by
      rintro ⟨h', tk, m', e, F', N', hm', hP'⟩
      refine ⟨rfl, h', tk, m', nx, e, F', fun p hp => ?_, hoff, hP', rfl, hm'⟩
      rcases List.mem_append.mp hp with h1 | h1
      · rcases htwo p h1 with rfl | rfl
        · exact N' _ (.head _)
        · exact N' _ (.tail _ hl)
      · exact N' _ (.tail _ h1)
    cases f with
    | ret v => exact .ret p
    | brk => exact .brk p
    | next => exact .next (fin p)
    | cont => exact .cont (fin p)
  · rintro h' tk m' nx F' N' _ ⟨hP₁, rfl, hJ⟩
    exact done m' h' tk hP₁ (by rw [eqm hJ]; exact F') N'
/-- what the frame holds: names with values of the state, names forgotten, the rest as it stood -/
def frV (vals : List (Str × (σ → Value))) (stored : List Str) (m₀ : Str → Option Value) (p : σ × (Str → Option Value)) (y : Str) : Option Value :=
  match vals.lookup y with
  | some f => some (f p.1)
  | none => if stored.contains y then p.2 y else m₀ y
theorem frV_start {vals : List (Str × (σ → Value))} {stored : List Str} {m₀ : Str → Option Value} {st : σ} (hv : ∀ p ∈ vals, m₀ p.1 = some (p.2 st)) (y : Str) : m₀ y = frV vals stored m₀ (st, m₀) y := by
  unfold frV
  split
  · rename_i f hf
    obtain ⟨l1, l2, e, _⟩ := List.lookup_eq_some_iff.mp hf
    exact hv (y, f) (by rw [e]; simp)
  · split <;> rfl
theorem frV_end {vals : List (Str × (σ → Value))} {stored : List Str} {m₀ m' : Str → Option Value} {st : σ} (hv : ∀ p ∈ vals, m' p.1 = some (p.2 st)) (hr : ∀ y, y ≠ x → stored.contains y = false → m' y = m₀ y) (y : Str) (hy : y ≠ x) : m' y = frV vals stored m₀ (st, m') y := by
  unfold frV
  split
  · rename_i f hf
    obtain ⟨l1, l2, e, _⟩ := List.lookup_eq_some_iff.mp hf
    exact hv (y, f) (by rw [e]; simp)
  · split
    · rfl
    · rename_i h; exact hr y hy (by simpa using h)
def VEnd (h₀ : Heap) (L I : Addr) (oI : Obj) (x : Str) (vals : List (Str × (σ → Value))) (stored : List Str) (m₀ : Str → Option Value) (P : σ → List (Addr × Obj) → Prop) (s₁ : Shared) (Q : Flow → Shared → Prop) : Flow → Shared → Prop :=
  FEnd h₀ L I oI x (frV vals stored m₀) (fun p nx => P p.1 nx) s₁ Q
theorem VEnd.next {L I : Addr} {oI : Obj} {vals : List (Str × (σ → Value))} {stored : List Str} {m₀ : Str → Option Value} {P : σ → List (Addr × Obj) → Prop} {s₁ : Shared} {h' : Heap} {tk : Nat} {m' : Str → Option Value} {nx : List (Addr × Obj)} (st : σ)
    (F : Fr h₀ L h' m') (N : News h₀ L h' ((I, oI) :: nx)) (ho : ∀ p ∈ nx, p.1 ≠ I) (hv : ∀ p ∈ vals, m' p.1 = some (p.2 st)) (hr : ∀ y, y ≠ x → stored.contains y = false → m' y = m₀ y) (hP : P st nx) :
    VEnd h₀ L I oI x vals stored m₀ P s₁ Q .next { s₁ with heap := h', toks := tk } := FEnd.next (st, m') F N ho (fun y hy => frV_end hv hr y hy) hP
theorem VEnd.cont {L I : Addr} {oI : Obj} {vals : List (Str × (σ → Value))} {stored : List Str} {m₀ : Str → Option Value} {P : σ → List (Addr × Obj) → Prop} {s₁ : Shared} {h' : Heap} {tk : Nat} {m' : Str → Option Value} {nx : List (Addr × Obj)} (st : σ)
    (F : Fr h₀ L h' m') (N : News h₀ L h' ((I, oI) :: nx)) (ho : ∀ p ∈ nx, p.1 ≠ I) (hv : ∀ p ∈ vals, m' p.1 = some (p.2 st)) (hr : ∀ y, y ≠ x → stored.contains y = false → m' y = m₀ y) (hP : P st nx) :
    VEnd h₀ L I oI x vals stored m₀ P s₁ Q .cont { s₁ with heap := h', toks := tk } := FEnd.cont (st, m') F N ho (fun y hy => frV_end hv hr y hy) hP
theorem VEnd.brk {L I : Addr} {oI : Obj} {vals : List (Str × (σ → Value))} {stored : List Str} {m₀ : Str → Option Value} {P : σ → List (Addr × Obj) → Prop} {s₁ s₂ : Shared} (h : Q .next s₂) : VEnd h₀ L I oI x vals stored m₀ P s₁ Q .brk s₂ := h
theorem VEnd.ret {L I : Addr} {oI : Obj} {vals : List (Str × (σ → Value))} {stored : List Str} {m₀ : Str → Option Value} {P : σ → List (Addr × Obj) → Prop} {s₁ s₂ : Shared} {v : Value} (h : Q (.ret v) s₂) : VEnd h₀ L I oI x vals stored m₀ P s₁ Q (.ret v) s₂ := h
theorem list_V {l : Addr} {vs : List Value} {nn : Nat} {m₀ : Str → Option Value} {news : List (Addr × Obj)} (vals : List (Str × (σ → Value))) (stored : List Str) (P : Nat → σ → List (Addr × Obj) → Prop)
    (hh : A.handled = none) (hl : (l, W.listOf vs.toArray nn) ∈ news) (hP : ∀ i st nx, P i st nx → (l, W.listOf vs.toArray nn) ∈ nx)
    (F : Fr h₀ env.locals s.heap m₀) (N : News h₀ env.locals s.heap news) (st₀ : σ) (hv : ∀ p ∈ vals, m₀ p.1 = some (p.2 st₀)) (hp : P 0 st₀ news)
    (turn : ∀ i v st (u : Str → Option Value) nx h tk I oI, vs[i]? = some v → P i st nx → (∀ p ∈ nx, p.1 ≠ I) →
      Fr h₀ env.locals h (fun y => if y = x then some v else match vals.lookup y with | some f => some (f st) | none => if stored.contains y then u y else m₀ y) → News h₀ env.locals h ((I, oI) :: nx) →
      ∀ R : Flow → Shared → Prop, (∀ fl z, VEnd h₀ env.locals I oI x vals stored m₀ (P (i + 1)) { s with heap := h, toks := tk } Q fl z → R fl z) → wpAny (model prog w) A (execs body env) R E { s with heap := h, toks := tk })
    (done : ∀ (u : Option Value) st (v : Str → Option Value) nx h tk, P vs.length st nx → Fr h₀ env.locals h (fun y => if y = x then u else match vals.lookup y with | some f => some (f st) | none => if stored.contains y then v y else m₀ y) → News h₀ env.locals h nx → Q .next { s with heap := h, toks := tk }) :
    wpAny (model prog w) A (pyIter (.ref l)) (fun it s₂ => LoopAtV prog w A h₀ env x body Q E it s₂) E s :=
  list_F (frV vals stored m₀) (fun i p nx => P i p.1 nx) hh hl (fun i st nx h => hP i st.1 nx h) F N (st₀, m₀) (fun y _ => frV_start hv y) hp
    (fun i v st nx h tk I oI hi hP ho F' N' => turn i v st.1 st.2 nx h tk I oI hi hP ho F' N' _ fun _ _ z => z) fun u st nx h tk hP F' N' => done u st.1 st.2 nx h tk hP F' N'
theorem range_V {r : Addr} {b₀ : Int} {t₀ u₀ v₀ : Tok} {n : Nat} {m₀ : Str → Option Value} {news : List (Addr × Obj)} (vals : List (Str × (σ → Value))) (stored : List Str) (P : Nat → σ → List (Addr × Obj) → Prop)
    (hh : A.handled = none) (hr : IsRange s.heap r 0 b₀ 1 t₀ u₀ v₀) (hsmall : Builtin.Range.small 0 b₀ 1 = true) (hn : Builtin.Range.rangeSize 0 b₀ 1 = (n : Int))
    (F : Fr h₀ env.locals s.heap m₀) (N : News h₀ env.locals s.heap news) (st₀ : σ) (hv : ∀ p ∈ vals, m₀ p.1 = some (p.2 st₀)) (hp : P 0 st₀ news)
    (turn : ∀ i t st (u : Str → Option Value) nx h tk I oI, oI.cls = .type "range_iterator" → i < n → P i st nx → (∀ p ∈ nx, p.1 ≠ I) →
      Fr h₀ env.locals h (fun y => if y = x then some (.int (i : Nat) t) else match vals.lookup y with | some f => some (f st) | none => if stored.contains y then u y else m₀ y) → News h₀ env.locals h ((I, oI) :: nx) →
      ∀ R : Flow → Shared → Prop, (∀ fl z, VEnd h₀ env.locals I oI x vals stored m₀ (P (i + 1)) { s with heap := h, toks := tk } Q fl z → R fl z) → wpAny (model prog w) A (execs body env) R E { s with heap := h, toks := tk })
    (done : ∀ (u : Option Value) st (v : Str → Option Value) nx h tk, P n st nx → Fr h₀ env.locals h (fun y => if y = x then u else match vals.lookup y with | some f => some (f st) | none => if stored.contains y then v y else m₀ y) → News h₀ env.locals h nx → Q .next { s with heap := h, toks := tk }) :
    wpAny (model prog w) A (pyIter (.ref r)) (fun it s₂ => LoopAtV prog w A h₀ env x body Q E it s₂) E s :=
  range_F (frV vals stored m₀) (fun i p nx => P i p.1 nx) hh hr hsmall hn F N (st₀, m₀) (fun y _ => frV_start hv y) hp
    (fun i t st nx h tk I oI hc hi hP ho F' N' => turn i t st.1 st.2 nx h tk I oI hc hi hP ho F' N' _ fun _ _ z => z) fun u st nx h tk hP F' N' => done u st.1 st.2 nx h tk hP F' N'
end
end Mine
end

/-! ## Fs -/
theorem Mine.reset_Fs : True := by
  w_top off
  first | walk1 | trivial
section
open PySem PySem.W PyProof.Rows PySem.Calls
set_option Elab.async false
set_option maxRecDepth 100000
set_option maxHeartbeats 1000000
namespace Mine
/-- where flop_pins stands, in plain words -/
structure FS where
  d : Int
  r : Int
  l : Int
  c : Int
  cells : List PCell
/-- either, in plain words -/
def eitherP (x y c : Int) (cells : List PCell) : Int × Int × List PCell :=
  if x = 0 then (y, c, cells) else (c, c + 1, cells ++ [⟨false, c, [if y < x then y else x, if y > x then y else x]⟩])
inductive Wt | non | one | zero deriving DecidableEq
def WtIs (v : Value) : Wt → Prop
  | .non => v = .none
  | .one => ∃ t, v = .int 1 t
  | .zero => ∃ t, v = .int 0 t
inductive WtsAre : List Value → List Wt → Prop
  | nil : WtsAre [] []
  | cons {v b vs bs} : WtIs v b → WtsAre vs bs → WtsAre (v :: vs) (b :: bs)
theorem WtsAre.length {vs bs} (h : WtsAre vs bs) : vs.length = bs.length := by induction h <;> simp_all
theorem WtsAre.at {vs bs} (h : WtsAre vs bs) : ∀ {i : Nat} {b : Wt}, bs[i]? = some b → ∃ v, vs[i]? = some v ∧ WtIs v b := by
  induction h with
  | nil => intro i b e; simp at e
  | cons h1 _ ih =>
    intro i b e
    cases i with
    | zero => simp at e; subst e; exact ⟨_, rfl, h1⟩
    | succ i => exact ih (by simpa using e)
def fstep (q : Int) (s : FS) (p : Int × Wt) : FS :=
  match p.2 with
  | .non => ⟨s.c, s.r, s.l, s.c + 1, s.cells ++ [⟨true, s.c, [p.1, s.d, q]⟩]⟩
  | .one => ⟨s.d, (eitherP s.r p.1 s.c s.cells).1, s.l, (eitherP s.r p.1 s.c s.cells).2.1, (eitherP s.r p.1 s.c s.cells).2.2⟩
  | .zero => ⟨s.d, s.r, (eitherP s.l p.1 s.c s.cells).1, (eitherP s.l p.1 s.c s.cells).2.1, (eitherP s.l p.1 s.c s.cells).2.2⟩
/-- what makes a turn's gates new ones -/
structure FOk (an : List Int) (q : Int) (i : Nat) (s : FS) : Prop where
  d2 : 2 ≤ s.d
  dc : s.d < s.c
  qc : q < s.c
  dq : s.d ≠ q
  r2 : s.r = 0 ∨ 2 ≤ s.r
  l2 : s.l = 0 ∨ 2 ≤ s.l
  rc : s.r < s.c
  lc : s.l < s.c
  cl : s.cells.length ≤ i
  ac : ∀ a ∈ an, 2 ≤ a ∧ a < s.c ∧ a ≠ q
  ad : ∀ a ∈ an.drop i, a ≠ s.d ∧ a ≠ s.r ∧ a ≠ s.l
section
variable {an : List Int} {q : Int} {i : Nat} {s : FS}
theorem drop_here (hi : i < an.length) : an[i] ∈ an.drop i := by rw [List.drop_eq_getElem_cons hi]; exact .head _
theorem drop_later {a : Int} (h : a ∈ an.drop (i + 1)) : a ∈ an.drop i := by
  rw [← List.drop_drop] at h
  exact List.mem_of_mem_drop h
theorem drop_ne (hn : an.Nodup) (hi : i < an.length) {a : Int} (h : a ∈ an.drop (i + 1)) : a ≠ an[i] := by
  have h1 : (an.drop i).Nodup := hn.sublist (List.drop_sublist _ _)
  rw [List.drop_eq_getElem_cons hi] at h1
  exact fun e => (List.nodup_cons.mp h1).1 (e ▸ h)
theorem FOk.step (hF : FOk an q i s) (hn : an.Nodup) (hi : i < an.length) (wt : Wt) : FOk an q (i + 1) (fstep q s (an[i], wt)) := by
  obtain ⟨d2, dc, qc, dq, r2, l2, rc, lc, cl, ac, ad⟩ := hF
  have hx := ac _ (List.getElem_mem hi)
  have later : ∀ a ∈ an.drop (i + 1), a ≠ s.d ∧ a ≠ s.r ∧ a ≠ s.l ∧ a ≠ an[i] ∧ a < s.c := fun a ha =>
    ⟨(ad a (drop_later ha)).1, (ad a (drop_later ha)).2.1, (ad a (drop_later ha)).2.2, drop_ne hn hi ha, (ac a (List.mem_of_mem_drop ha)).2.1⟩
  cases wt with
  | non =>
    refine ⟨?_, ?_, ?_, ?_, r2, l2, ?_, ?_, ?_, fun a ha => ?_, fun a ha => ?_⟩ <;> dsimp only [fstep]
    · omega
    · omega
    · omega
    · omega
    · omega
    · omega
    · simp; omega
    · have := ac a ha; omega
    · have := later a ha; omega
  | one =>
    by_cases h : s.r = 0
    · refine ⟨?_, ?_, ?_, ?_, ?_, l2, ?_, ?_, ?_, fun a ha => ?_, fun a ha => ?_⟩ <;> simp only [fstep, eitherP, if_pos h]
      all_goals first | omega | (have := ac a ha; omega) | (have := later a ha; omega)
    · refine ⟨?_, ?_, ?_, ?_, ?_, l2, ?_, ?_, ?_, fun a ha => ?_, fun a ha => ?_⟩ <;> simp only [fstep, eitherP, if_neg h, List.length_append, List.length_cons, List.length_nil]
      all_goals first | omega | (have := ac a ha; omega) | (have := later a ha; omega)
  | zero =>
    by_cases h : s.l = 0
    · refine ⟨?_, ?_, ?_, ?_, r2, ?_, ?_, ?_, ?_, fun a ha => ?_, fun a ha => ?_⟩ <;> simp only [fstep, eitherP, if_pos h]
      all_goals first | omega | (have := ac a ha; omega) | (have := later a ha; omega)
    · refine ⟨?_, ?_, ?_, ?_, r2, ?_, ?_, ?_, ?_, fun a ha => ?_, fun a ha => ?_⟩ <;> simp only [fstep, eitherP, if_neg h, List.length_append, List.length_cons, List.length_nil]
      all_goals first | omega | (have := ac a ha; omega) | (have := later a ha; omega)
theorem fold_step {wn : List Wt} {s₀ : FS} (hi : i < an.length) (hw : i < wn.length) : ((an.zip wn).take (i + 1)).foldl (fstep q) s₀ = fstep q (((an.zip wn).take i).foldl (fstep q) s₀) (an[i], wn[i]) := by
  have h3 : i < (an.zip wn).length := by simp; omega
  rw [List.take_add_one, List.getElem?_eq_getElem h3]
  simp
end
theorem CellAt.subT {rest rest' : List (Addr × Obj)} {pc : PCell} {v : Value} (h : CellAt rest pc v) (hs : ∀ p ∈ rest, p.2.cls = .type "tuple" → p ∈ rest') : CellAt rest' pc v :=
  let ⟨ca, ia, t1, t2, vs, e, h1, h2, h3⟩ := h
  ⟨ca, ia, t1, t2, vs, e, hs _ h1 rfl, hs _ h2 rfl, h3⟩
theorem CellsAre.subT {rest rest' : List (Addr × Obj)} {pcs : List PCell} {vs : List Value} (h : CellsAre rest pcs vs) (hs : ∀ p ∈ rest, p.2.cls = .type "tuple" → p ∈ rest') : CellsAre rest' pcs vs := by
  induction h with
  | nil => exact .nil
  | cons h1 _ ih => exact .cons (h1.subT hs) ih
theorem NetOk.sub {w : World} {n : NA} {rest rest' : List (Addr × Obj)} (H : NetOk w n rest) (k : ∀ p ∈ rest, p.1 = n.xn ∨ p.1 = n.xg ∨ p.1 = n.dg ∨ p.1 = n.op → p ∈ rest') (hs : ∀ p ∈ rest', p ∈ rest) : NetOk w n rest' where
  xn := k _ H.xn (.inl rfl)
  xg := k _ H.xg (.inr (.inl rfl))
  dg := k _ H.dg (.inr (.inr (.inl rfl)))
  op := k _ H.op (.inr (.inr (.inr rfl)))
  oo := H.oo
  ls := H.ls
  lm := H.lm
  ne1 := H.ne1
  ne2 := H.ne2
  ne3 := H.ne3
  d1 := fun q hq => H.d1 q (hs q hq)
  d2 := fun q hq => H.d2 q (hs q hq)
  d3 := fun q hq => H.d3 q (hs q hq)
/-- a turn's end: the loop's own iterator taken out of the ledger again -/
theorem net_turn {w : World} {n : NA} {rest rest2 : List (Addr × Obj)} {c2 : Int} {tc2 : Tok} {nn2 : Nat} {om2 : Obj} {xs2 : Keys} {cells : List PCell} {h₀ h2 : Heap} {L I : Addr} {oI : Obj} {us2 : List Value}
    (hcI : oI.cls = .type "range_iterator") (OK : NetOk w n rest) (hI1 : @Ne Nat n.dn I) (hI2 : @Ne Nat n.lc I) (hI3 : @Ne Nat n.ma I) (hoff : ∀ p ∈ rest, p.1 ≠ I)
    (N2 : News h₀ L h2 (netLed w n c2 tc2 us2 nn2 om2 rest2)) (OK2 : NetOk w n rest2) (hsub : ∀ p ∈ (I, oI) :: rest, p ∈ rest2) (hC : CellsAre rest2 cells us2) (M2 : IsMade thePr w rest2 om2 xs2) :
    ∃ rest3, News h₀ L h2 ((I, oI) :: netLed w n c2 tc2 us2 nn2 om2 rest3) ∧ NetOk w n rest3 ∧ (∀ p ∈ netLed w n c2 tc2 us2 nn2 om2 rest3, p.1 ≠ I) ∧ (∀ p ∈ rest, p ∈ rest3) ∧ CellsAre rest3 cells us2 ∧ IsMade thePr w rest3 om2 xs2 := by
  have hIn : (I, oI) ∈ netLed w n c2 tc2 us2 nn2 om2 rest2 := .tail _ (.tail _ (.tail _ (hsub _ (.head _))))
  have tup : ∀ p ∈ rest2, p.2.cls = .type "tuple" → p ∈ rest2.filter fun p => decide (p.1 ≠ I) := fun p hp hcl => by
    refine List.mem_filter.mpr ⟨hp, ?_⟩
    simp only [decide_eq_true_eq]
    intro e
    have h1 := (N2 p (.tail _ (.tail _ (.tail _ hp)))).1
    have h2 := (N2 _ hIn).1
    rw [e, h2] at h1
    rw [← Option.some.inj h1, hcI] at hcl
    injection hcl with hcl
    exact absurd hcl (by decide)
  refine ⟨rest2.filter fun p => decide (p.1 ≠ I), ?_, ?_, ?_, ?_, hC.subT tup, M2.sub tup⟩
  · refine newsSub N2 fun p hp => ?_
    simp only [netLed, List.mem_cons] at hp ⊢
    rcases hp with rfl | rfl | rfl | rfl | hp
    · exact .inr (.inr (.inr (hsub _ (.head _))))
    · exact .inl rfl
    · exact .inr (.inl rfl)
    · exact .inr (.inr (.inl rfl))
    · exact .inr (.inr (.inr (List.mem_filter.mp hp).1))
  · refine OK2.sub (fun p hp e => List.mem_filter.mpr ⟨hp, ?_⟩) fun p hp => (List.mem_filter.mp hp).1
    simp only [decide_eq_true_eq]
    rcases e with e | e | e | e <;> rw [e]
    · exact hoff _ OK.xn
    · exact hoff _ OK.xg
    · exact hoff _ OK.dg
    · exact hoff _ OK.op
  · intro p hp
    simp only [netLed, List.mem_cons] at hp
    rcases hp with rfl | rfl | rfl | hp
    · exact hI1
    · exact hI2
    · exact hI3
    · simpa using (List.mem_filter.mp hp).2
  · intro p hp
    refine List.mem_filter.mpr ⟨hsub p (.tail _ hp), ?_⟩
    simpa using hoff p hp
theorem sub_rot3 {α : Type} {i a b c : α} {l : List α} : ∀ p ∈ a :: b :: c :: i :: l, p ∈ i :: a :: b :: c :: l := by
  repeat' (first | with_reducible exact subRfl | exact subNil | refine subCons ?_ ?_ | refine subTail ?_ | with_reducible exact mem_head | refine List.mem_cons_of_mem _ ?_)
end Mine
end

/-! ## Ci -/
theorem Mine.reset_Ci : True := by
  w_top off
  first | walk1 | trivial
section
open PySem PySem.W PyProof.Rows PySem.Calls PyProof.Rows.LCg
set_option Elab.async false
set_option maxRecDepth 100000
set_option maxHeartbeats 1000000
namespace Mine
section
variable {prog : Program} {w : World} {A : Around} {s : Shared} {h₀ : Heap} {L : Addr} {m : Str → Option Value} {env : Env}
theorem comp_end_mono {s₁ s₂ : Shared} {I C D : Addr} {oI oC oD : Obj} {S : List (Addr × Obj) → Prop} {r1 r2 : Value → List (Addr × Obj) → Prop} {y : Value} (h : CompEnd h₀ L m s₁ I oI C oC D oD S r1 y s₂) (hr : ∀ y nx, r1 y nx → r2 y nx) : CompEnd h₀ L m s₁ I oI C oC D oD S r2 y s₂ :=
  let ⟨h', tk, nx, e, F, N, o, hS, r⟩ := h
  ⟨h', tk, nx, e, F, N, o, hS, hr _ _ r⟩
/-- a comprehension's turns by an invariant -/
theorem comp_ind {elt : Expr} {x : Str} {scope : Scope} {cl : List (Str × Addr)} {S : List (Addr × Obj) → Prop} {P : Nat → Value → Prop} {Fin : List Value → List (Addr × Obj) → Prop} {news : List (Addr × Obj)} (n : Nat) (Inv : Nat → List Value → List (Addr × Obj) → Prop)
    (h0 : Inv 0 [] news) (fin : ∀ ys nx, Inv n ys nx → Fin ys nx)
    (step : ∀ i ys nx, i < n → Inv i ys nx → ∀ v I oI C oC D m₂ h tk (E' : Value → Shared → Prop), P i v → NsObj oC m₂ → m₂ x = some v → Fr h₀ L h m → News h₀ L h ((I, oI) :: (C, oC) :: (D, lst ys) :: nx) → Off3 I C D nx → ((@Ne Nat I C) ∧ (@Ne Nat I D) ∧ (@Ne Nat C D)) →
      wpAny (model prog w) A (eval elt (compEnvC scope cl C env)) (CompEnd h₀ L m { s with heap := h, toks := tk } I oI C oC D (lst ys) S (fun y news' => Inv (i + 1) (ys ++ [y]) news')) E' { s with heap := h, toks := tk }) :
    CompRest prog w A h₀ L m env elt x scope cl s S P Fin n 0 [] news := by
  have all : ∀ k i ys nx, k + i = n → Inv i ys nx → CompRest prog w A h₀ L m env elt x scope cl s S P Fin k i ys nx := by
    intro k
    induction k with
    | zero => intro i ys nx e h; obtain rfl : i = n := by omega
              exact CompRest.zero (fin _ _ h)
    | succ k ih =>
      intro i ys nx e h
      refine CompRest.succ fun v I oI C oC D m₂ h' tk E' hP hN hx F N o ne => ?_
      exact wpAny_mono (step i ys nx (by omega) h v I oI C oC D m₂ h' tk E' hP hN hx F N o ne) (fun y s₂ q => comp_end_mono q fun y nx q => ih (i + 1) _ _ (by omega) q) fun _ _ e => e
  exact all n 0 [] news (by omega) h0
end
end Mine
end

/-! ## Ct -/
theorem Mine.reset_Ct : True := by
  w_top off
  first | walk1 | trivial
section
open PySem PySem.W PyProof.Rows PySem.Calls PyProof.Rows.LCg
set_option Elab.async false
set_option maxRecDepth 100000
set_option maxHeartbeats 1000000
namespace Mine
abbrev tupObj (vs : List Value) : Obj := { cls := .type "tuple", data := .seq vs.toArray }
section
variable {prog : Program} {w : World} {A : Around} {E : Value → Shared → Prop} {s : Shared} {h₀ : Heap} {L : Addr} {m : Str → Option Value} {env : Env}
theorem tup_st {ax I : Addr} {its : List Value} : ∀ i (h h' : Heap) (o : Obj) (nw : List (Addr × Obj)), (h.IsTupleIter I ax i ∧ h.IsTuple ax its.toArray) → h.get? I = some o → h'.get? I = some o → (∀ b o, h₀.get? b = some o → h'.get? b = some o) → News h₀ L h' nw → (ax, tupObj its) ∈ nw → (h'.IsTupleIter I ax i ∧ h'.IsTuple ax its.toArray) :=
  fun i h h' o nw st e e' k N S => ⟨by obtain ⟨o', q, r⟩ := st.1; rw [e] at q; cases q; exact ⟨o, e', r⟩, ⟨_, (N _ S).1, rfl, _, rfl⟩⟩
/-- the source of a comprehension over a tuple of the ledger -/
def CompSrcU (prog : Program) (w : World) (A : Around) (h₀ : Heap) (L : Addr) (m : Str → Option Value) (env : Env) (elt : Expr) (x : Str) (scope : Scope) (cl : List (Str × Addr)) (y : Str) (Q : Flow → Shared → Prop) (xv : Value) (s₁ : Shared) : Prop :=
  ∃ ax its news, xv = .ref ax ∧ A.handled = none ∧ Fr h₀ L s₁.heap m ∧ News h₀ L s₁.heap news ∧ (ax, tupObj its) ∈ news ∧ its.length ≤ sizeLine ∧
    ∀ s₂ : Shared, (∃ h, s₂ = { s₁ with heap := h }) → CompRest prog w A h₀ L m env elt x scope cl s₂ (fun nw => (ax, tupObj its) ∈ nw) (fun i v => its.toArray[i]? = some v) (FinA h₀ L m s₂ y Q) its.length 0 [] news
theorem CompSrcU.intro {elt : Expr} {x y : Str} {scope : Scope} {cl : List (Str × Addr)} {Q : Flow → Shared → Prop} {ax : Addr} {its : List Value} {news : List (Addr × Obj)} {s₁ : Shared}
    (hh : A.handled = none) (F : Fr h₀ L s₁.heap m) (N : News h₀ L s₁.heap news) (hm : (ax, tupObj its) ∈ news) (hsz : its.length ≤ 1000)
    (h : ∀ g, CompRest prog w A h₀ L m env elt x scope cl { s₁ with heap := g } (fun nw => (ax, tupObj its) ∈ nw) (fun i v => its.toArray[i]? = some v) (FinA h₀ L m { s₁ with heap := g } y Q) its.length 0 [] news) :
    CompSrcU prog w A h₀ L m env elt x scope cl y Q (.ref ax) s₁ := ⟨ax, its, news, rfl, hh, F, N, hm, by rw [sizeLine_eq]; omega, fun _ ⟨g, e⟩ => e ▸ h g⟩
theorem Assign_Comp_tup {elt iter : Expr} {x y : Str} {px py : Pos} {scope : Scope} {cl : List (Str × Addr)} {pos spos : Pos} {Q : Flow → Shared → Prop} (F₀ : Fr h₀ L s.heap m) (hLe : env.locals = L)
    (hsw : swapsWith (.ListComp elt [⟨.Name x px, iter, [], 0⟩] scope pos) (some (.Name y py)) spos.line env = pure true)
    (hclos : closureFor scope env = pure cl) (hcell : ∀ z ∈ scope.names, z.2 ≠ .cell) (hkind : scope.kind = .function)
    (hnames : ∀ z ∈ scope.names, z.2 = .local → scope.names.lookup z.1 = some .local) (hx : scope.names.lookup x = some .local)
    (hy : env.kindOf y = some .local) (hp : (env.scope.kind == .class || (env.scope.kind == .module && env.locals != env.globals)) = false)
    (h : wpAny (model prog w) A (eval iter env) (CompSrcU prog w A h₀ L m env elt x scope cl y Q) E s)
    (hs : ∀ x, foldedSetIterable iter env x = pure x := by intro _; rfl) :
    wpAny (model prog w) A (exec (.Assign [.Name y py] (.ListComp elt [⟨.Name x px, iter, [], 0⟩] scope pos) spos) env) Q E s := by
  subst hLe
  rw [exec_Assign_Name_used _ _ _ _ hsw]
  refine wpAny_bind (wpAny_standAt (wpAny_bind ?_))
  show wpAny _ A (do let _ ← comprehension (.ListComp elt [⟨.Name x px, iter, [], 0⟩] scope pos) scope env _ (newList []) false (eval iter env) (some (assign (.Name y py) env))) _ _ s
  refine wpAny_bind (wpAny_mono (wpAny_comprehension_free (use := some (assign (.Name y py) env)) (Q := fun _ s' => Q .next s') rfl hs hclos hkind hnames
    (wpAny_mono h (fun xv s₁ h₁ => ?_) fun _ _ e => e)) (fun _ s' hq => wpAny_pure (wpAny_pure hq)) fun _ _ e => e)
  obtain ⟨ax, its, news, rfl, hh, F, N, S, hsz, R⟩ := h₁
  have hl : s₁.heap.IsTuple ax its.toArray := ⟨_, (N _ S).1, rfl, _, rfl⟩
  have hlt : ax < s₁.heap.objs.size := by obtain ⟨_, e, _⟩ := hl; exact Heap.lt_size e
  refine wpAny_pyIter_tuple hl ?_
  have up : ∀ b o, s₁.heap.get? b = some o → (s₁.heap.push { cls := .type "tuple_iterator", data := .fields #[.ref ax, .int 0 0] }).get? b = some o := fun b o e => Heap.get?_push_of_some _ e
  have W := Walks.tuple (prog := prog) (w := w) (A := A) hh s₁.heap.objs.size ax (Nat.ne_of_lt hlt) its.toArray
  have hlen : its.toArray.size = its.length := by simp
  rw [hlen] at W
  refine block_U W hsz (fun i h st => by obtain ⟨o, e, _⟩ := st.1; exact ⟨o, e⟩) tup_st hcell hkind hx ⟨⟨_, Heap.get?_push_size _ rfl, rfl, rfl⟩, hl.push _⟩ (fun b hb => ?_)
    (F.keeps up) (N.grown up) (Nat.ne_of_lt F.ns.lt) (next_is_new F) (fun p hp => Nat.ne_of_lt (Heap.lt_size (N p hp).1)) S (R _ ⟨_, rfl⟩) ?_
  · show b < (s₁.heap.push _).objs.size
    rw [Heap.size_push]
    rcases List.mem_cons.mp hb with rfl | hb
    · exact Nat.lt_succ_self _
    · rw [List.mem_singleton.mp hb]; exact Nat.lt_succ_of_lt hlt
  · intro D C h' tk m' ys news' F' N' o1 hn hC₀ hD₀ hCL hDL hCD offC fin
    show wpAny _ A (assign (.Name y py) env (.ref D)) _ _ _
    refine wpAny_assign_Name (wpAny_storeName_local hy F'.ns (fun h₂ hn₂ hs₂ => ?_) hp)
    have hL₀ : h₀.get? env.locals = none := Heap.get?_none_of_le F'.above
    have F₂ : Fr h₀ env.locals h₂ (fun z => if z = y then some (.ref D) else m z) := ⟨hn₂, fun b o e => hs₂.extBut b o (fun q => by rw [q, hL₀] at e; cases e) (F'.keep b o e), F'.above⟩
    refine ⟨m', hn.sameBut hs₂ hCL, fun h'' hs'' => fin D h'' _ (F₂.change hs'' hCL hC₀) (fun p hp => ?_) o1⟩
    have z : h₂.get? p.1 = some p.2 := hs₂.extBut _ _ (N' p hp).2.1 (N' p hp).1
    refine ⟨hs''.extBut _ _ ?_ z, (N' p hp).2⟩
    rcases List.mem_cons.mp hp with rfl | hp
    · exact Ne.symm hCD
    · exact offC p hp
end
end Mine
end

/-! ## Pl -/
theorem Mine.reset_Pl : True := by
  w_top off
  first | walk1 | trivial
section
open PySem PySem.W PyProof.Rows PySem.Calls
set_option Elab.async false
set_option maxRecDepth 100000
set_option maxHeartbeats 1000000
namespace Mine
/-- what a net bears, reckoned -/
noncomputable def evB (cells : List PCell) (kn : Int → Option Int) : Nat → Int → Option Int
  | 0, net => match kn net with
    | some v => if v = 0 ∨ v = 1 then some v else none
    | none => none
  | k + 1, net => match kn net with
    | some v => if v = 0 ∨ v = 1 then some v else none
    | none => match cells.find? (fun c => decide (c.out = net)) with
      | some ⟨false, _, [x, y]⟩ => match evB cells kn k x, evB cells kn k y with
        | some va, some vb => some (if va < vb then vb else va)
        | _, _ => none
      | some ⟨true, _, [x, y, z]⟩ => match evB cells kn k x, evB cells kn k y, evB cells kn k z with
        | some vs, some va, some vb => some (if vs = 0 then va else vb)
        | _, _, _ => none
      | _ => none
def anP (ka : Nat) : List Int := (List.range (ka + 1)).map fun (j : Nat) => 2 + (j : Int)
def knP (ka line i : Nat) (net : Int) : Option Int :=
  if net = 0 then some 0 else if net = 1 then some 1 else if net = (ka : Int) + 3 then some ((line % 2 : Nat) : Int) else if net = (ka : Int) + 4 then some ((line / 2 % 2 : Nat) : Int)
  else if 2 ≤ net ∧ net < (i : Int) + 2 then some ((line / 2 ^ net.toNat % 2 : Nat) : Int) else none
def stP (ka : Nat) (wn : List Wt) : FS := ((anP ka).zip wn).foldl (fstep ((ka : Int) + 4)) ⟨(ka : Int) + 3, 0, 0, (ka : Int) + 5, []⟩
/-- what the controls give that act -/
noncomputable def actP (line : Nat) : Nat → List Wt → List Wt
  | _, [] => []
  | i, w :: wn => if line / 2 ^ (i + 2) % 2 = 1 then w :: actP line (i + 1) wn else actP line (i + 1) wn
noncomputable def okP (ka : Nat) (wn : List Wt) (line : Nat) : Bool :=
  decide (1 < (actP line 0 wn).length) ||
  (evB (stP ka wn).cells (knP ka line (ka + 1)) 3 (stP ka wn).r == some (if actP line 0 wn = [.one] then 1 else 0) &&
   evB (stP ka wn).cells (knP ka line (ka + 1)) 3 (stP ka wn).l == some (if actP line 0 wn = [.zero] then 1 else 0) &&
   evB (stP ka wn).cells (knP ka line (ka + 1)) 3 (stP ka wn).d == some (if actP line 0 wn = [.non] then ((line / 2 % 2 : Nat) : Int) else ((line % 2 : Nat) : Int)))
def wts : List Wt := [.non, .one, .zero]
theorem mem_wts (a : Wt) : a ∈ wts := by cases a <;> simp [wts]
noncomputable def ok0 : Bool := wts.all fun a => (List.range 8).all fun line => okP 0 [a] line
noncomputable def ok1 : Bool := wts.all fun a => wts.all fun b => (List.range 16).all fun line => okP 1 [a, b] line
noncomputable def ok2 (a : Wt) : Bool := wts.all fun b => wts.all fun c => (List.range 32).all fun line => okP 2 [a, b, c] line
theorem ok0_t : ok0 = true := by decide +kernel
theorem ok1_t : ok1 = true := by decide +kernel
theorem ok2_n : ok2 .non = true := by decide +kernel
theorem ok2_o : ok2 .one = true := by decide +kernel
theorem ok2_z : ok2 .zero = true := by decide +kernel
theorem okP_all {ka : Nat} {wn : List Wt} {line : Nat} (hk : ka ≤ 2) (hw : wn.length = ka + 1) (hl : line < 2 ^ (ka + 3)) : okP ka wn line = true := by
  obtain rfl | rfl | rfl : ka = 0 ∨ ka = 1 ∨ ka = 2 := by omega
  · match wn, hw with
    | [a], _ =>
      have h := ok0_t
      unfold ok0 at h
      exact List.all_eq_true.mp (List.all_eq_true.mp h a (mem_wts a)) line (List.mem_range.mpr hl)
  · match wn, hw with
    | [a, b], _ =>
      have h := ok1_t
      unfold ok1 at h
      exact List.all_eq_true.mp (List.all_eq_true.mp (List.all_eq_true.mp h a (mem_wts a)) b (mem_wts b)) line (List.mem_range.mpr hl)
  · match wn, hw with
    | [a, b, c], _ =>
      have h : ok2 a = true := by
        cases a
        · exact ok2_n
        · exact ok2_o
        · exact ok2_z
      unfold ok2 at h
      exact List.all_eq_true.mp (List.all_eq_true.mp (List.all_eq_true.mp h b (mem_wts b)) c (mem_wts c)) line (List.mem_range.mpr hl)
theorem actP_snoc (line : Nat) : ∀ (wn : List Wt) (i : Nat) (w : Wt), actP line i (wn ++ [w]) = if line / 2 ^ (i + wn.length + 2) % 2 = 1 then actP line i wn ++ [w] else actP line i wn := by
  intro wn
  induction wn with
  | nil => intro i w; simp only [List.nil_append, actP, List.length_nil, Nat.add_zero]
  | cons a wn ih =>
    intro i w
    have e : i + 1 + wn.length + 2 = i + (a :: wn).length + 2 := by simp; omega
    simp only [List.cons_append, actP, ih, e]
    split <;> split <;> simp
theorem actP_take {line : Nat} {wn : List Wt} {i : Nat} (hi : i < wn.length) : actP line 0 (wn.take (i + 1)) = if line / 2 ^ (i + 2) % 2 = 1 then actP line 0 (wn.take i) ++ [wn[i]] else actP line 0 (wn.take i) := by
  rw [List.take_succ_eq_append_getElem hi, actP_snoc]
  have : (wn.take i).length = i := by simp; omega
  rw [this, Nat.zero_add]
end Mine
end

section
open PySem PySem.W PyProof.Rows PySem.Calls PySem.W.X Mine
local macro_rules | `(tactic| k_all) => `(tactic| assumption)
local macro_rules | `(tactic| k_all) => `(tactic| exact allLt_ne (by assumption))
local macro_rules | `(tactic| units_room) => `(tactic| ((try dsimp only [ktrTop]); simp only [units_under_make, units_in1, units_deeper, Around.mark_units, cLine]; omega))
local macro_rules | `(tactic| k_units) => `(tactic| ((try dsimp only [ktrTop]); simp only [units_under_make, units_in1, units_deeper, Around.mark_units, cLine]; omega))
local macro_rules | `(tactic| k_room) => `(tactic| ((try simp only [depth_under_make, depth_under_kw, depth_in1, depth_deeper, recursionLimit]); (try dsimp only [ktrTop]); omega))
local macro_rules | `(tactic| ktr_room) => `(tactic| ((try simp only [depth_under_make, depth_under_kw, depth_in1, depth_deeper, recursionLimit]); (try dsimp only [ktrTop]); omega))
local macro_rules | `(tactic| k_ne) => `(tactic| (refine neN ?_; (try dsimp only); first | assumption | exact Ne.symm (by assumption) | exact Nat.ne_of_lt (by assumption) | exact Nat.ne_of_gt (by assumption) | exact nL0 ‹_› | exact nG0 ‹_› | exact nL1 ‹_› | exact nG1 ‹_› | exact nLe1 ‹_› | exact nGe1 ‹_› | exact nL2 ‹_› | exact nG2 ‹_› | exact nLe2 ‹_› | exact nGe2 ‹_› | exact nL3 ‹_› | exact nG3 ‹_› | exact nLe3 ‹_› | exact nGe3 ‹_› | exact nL4 ‹_› | exact nG4 ‹_› | exact nLe4 ‹_› | exact nGe4 ‹_› | exact nL5 ‹_› | exact nG5 ‹_› | exact nLe5 ‹_› | exact nGe5 ‹_› | exact nL6 ‹_› | exact nG6 ‹_› | exact nLe6 ‹_› | exact nGe6 ‹_› | exact nL7 ‹_› | exact nG7 ‹_› | exact nLe7 ‹_› | exact nGe7 ‹_› | exact nL8 ‹_› | exact nG8 ‹_› | exact nLe8 ‹_› | exact nGe8 ‹_› | exact nL9 ‹_› | exact nG9 ‹_› | exact nLe9 ‹_› | exact nGe9 ‹_› | exact nL10 ‹_› | exact nG10 ‹_› | exact nLe10 ‹_› | exact nGe10 ‹_› | omega))
section
local macro_rules | `(tactic| k_mem) => `(tactic| first | with_reducible assumption | assumption | exact mem_head | (refine' List.mem_cons_of_mem _ ?_; k_mem))

/-! ## Ta -/
theorem Mine.reset_Ta : True := by
  w_top off
  first | walk1 | trivial
section
open PySem PySem.W PyProof.Rows PySem.Calls PySem.W.X
set_option Elab.async false
set_option maxRecDepth 100000
set_option maxHeartbeats 1000000
set_option rowWalk.seconds 0
set_option pp.deepTerms false
set_option pp.deepTerms.threshold 6
set_option pp.maxSteps 3000
namespace Mine
set_option linter.unusedVariables false
local macro_rules | `(tactic| walk_at "exec For") => `(tactic| (k_here; (with_reducible show wpAny _ _ (exec (Stmt.For (PySem.Expr.Name _ _) _ _ _ _) _) _ _ _); (rename Fr _ _ _ _ => lF'); (with_unfolding_all refine' For_invVF lF' ?k1 ?k2 ?_; (case k1 => exact rfl); (case k2 => exact rfl); k_whole)))
local macro_rules | `(tactic| walk_at "pyIter ref") => `(tactic| ((with_reducible show wpAny _ _ (pyIter (Value.ref _)) (fun it s₂ => LoopAtV _ _ _ _ _ _ _ _ _ it s₂) _ _); refine Hold.out ?_))
local macro_rules | `(tactic| walk_at "call builtin:list.append") => `(tactic| (k_here; k_dflt (refine' appendL ?F ?N ?U ?z ?_; (case F => k_asm); (case N => k_asm); (case U => k_upd); (case z => omega)); (intro h' F' N'; (try dsimp only [List.nil_append, List.cons_append] at N'))))
local macro_rules | `(tactic| walk_at "subscriptTail Name Slice ref ref") => `(tactic| (k_here; (with_reducible show wpAny _ _ (subscriptTail _ (PySem.Expr.Slice _ _ none _) (Value.ref _) (Value.ref _)) _ _ _); k_dflt (refine' kmk_slice_ints ?F ?N ?l ?p ?q ?i ?m ?c ?_ ?s ?t ?z; (case F => k_asm); (case N => k_asm); (case l => first | exact News.isList (by k_asm) (by k_mem) | exact Fr.lst (by k_asm) (by assumption)); (case p => kmk_part); (case q => kmk_part); (case i => assumption); (case m => exact kmk_upto (by assumption) (by decide)); (case c => kmk_len); (case s => with_unfolding_all rfl); (case t => kmk_pure); (case z => (rw [sizeLine_eq, List.size_toArray]; omega))); intro D' ws' h' F' N' l1 hI' hC' hL'))
theorem sub_skip2 {α : Type} {a b c : α} {l : List α} : ∀ p ∈ a :: l, p ∈ a :: b :: c :: l := fun p hp => by
  rcases List.mem_cons.mp hp with rfl | hp
  · exact .head _
  · exact .tail _ (.tail _ (.tail _ hp))
theorem ints_snoc {vs : List Value} {ns : List Int} (h : IntsAre vs ns) (k : Int) (t : Tok) : IntsAre (vs ++ [.int k t]) (ns ++ [k]) := by
  induction h with
  | nil => exact .cons _ _ .nil
  | cons _ _ _ ih => exact .cons _ _ ih
theorem tacks_ok (w : World) (mean : ExcName → Option Value) (mg mb : Str → Option Value) (dp un : Nat)
   (gd : Option (List Code)) (cn : Str) (cs : Scope) (a : Addr) (ccd : Value) (cl : List (Str × Addr)) (outer : List Env) (A₀ : Around) (base h₀ : Heap) (L : Addr) (m : Str → Option Value) (s : Shared) (Q E : Value → Shared → Prop)
   (D : Addr) (us : List Value) (ns : List Int) (news : List (Addr × Obj))
   (B : Below A₀ base outer h₀) (F : Fr h₀ L s.heap m) (X : (Mine.hd.heap_1 w.params).In h₀) (N : News h₀ L s.heap news) (T : Top Mine.view LL mean mg mb h₀) (hk : cs.kind = .function)
   (hI : IntsAre us ns) (hD : h₀.IsList D us.toArray) (hlen : us.length ≤ 63) (hd: dp ≤ 400) (hu : un ≤ 4000)
   (hret : ∀ r us' ns' n h' tk', IntsAre us' ns' → us'.length ≤ 60 → Fr h₀ L h' m → News h₀ L h' ((r, W.listOf us'.toArray n) :: news) → (∀ p ∈ news, p.1 ≠ r) → Q (.ref r) { s with heap := h', toks := tk' }) :
   wpAny (model PySem.Challenge.rw_pq0452_01.row.prog w) (ktrTop dp un gd cn cs L a ccd cl outer) (call (.ref 229) [.ref D]) Q E s := by
  revert X; k_fill; intro X
  refine wpAny_call ?_
  k_dflt ktr_enter
  (rename Fr h₀ _ _ _ => FG)
  have hDg := Fr.lst FG hD
  k_steps
  refine Hold.mk ?_
  rename_i l' _ l1 _ lF' N0 D' ws' _ F1 N1 l2 hI' hC' _
  have hws := hI'.length
  have hln := hI.length
  have hDl : @Ne Nat D' l' := neN (Nat.ne_of_gt (l2 _ mem_head))
  have hD1 : ∀ p ∈ news, p.1 ≠ D' := fun p hp => Nat.ne_of_lt (l2 p (.tail _ hp))
  have hl1 : ∀ p ∈ news, p.1 ≠ l' := fun p hp => Nat.ne_of_lt (l1 p hp)
  refine list_V (σ := Unit) [] [Str.ofString "left", Str.ofString "hop"] (fun i _ nx => ∃ us' ns' n, nx = (D', W.listOf ws'.toArray 0) :: (l', W.listOf us'.toArray n) :: news ∧ IntsAre us' ns' ∧ us'.length ≤ 9 * i) rfl mem_head (by rintro i st nx ⟨us', ns', n, rfl, -⟩; exact mem_head) F1 N1 () (fun _ h => nomatch h) ⟨[], [], _, rfl, .nil, Nat.zero_le _⟩ ?_ ?_
  · rintro i v st u nx h tk I oI hvi ⟨us', ns', n, rfl, hus, hul⟩ hoff F' N' R1 hR1
    have hi30 : i < 30 := by
      have h1 := List.getElem?_eq_some_iff.mp hvi |>.1
      rw [hws, hC'] at h1
      have : Int.toNat 30 = 30 := rfl
      omega
    obtain ⟨k, t, rfl⟩ : ∃ k t, v = .int k t := by
      obtain ⟨hlt, he⟩ := List.getElem?_eq_some_iff.mp hvi
      have hlt' : i < (List.take (Int.toNat 30) ns).length := by rw [← hws]; exact hlt
      obtain ⟨t, ht⟩ := hI'.get i _ (List.getElem?_eq_getElem hlt')
      rw [hvi] at ht
      exact ⟨_, _, Option.some.inj ht⟩
    have h1 := neN (hoff _ mem_head)
    have h2 := neN (hoff _ (.tail _ mem_head))
    have h3 := fun p hp => hoff p (.tail _ (.tail _ hp))
    dsimp only at h1 h2
    clear F1 N1 lF' N0
    (show wpAny _ _ _ _ _ _)
    k_steps
    all_goals (
      refine Hold.mk ?_
      rename_i F2 N2 _
      refine range_V (σ := Int × Tok) (n := 9) [(Str.ofString "left", fun p => Value.int p.1 p.2)] [Str.ofString "left"] (fun j st nx => ∃ us2 ns2 n2, nx = (I, oI) :: (D', W.listOf ws'.toArray 0) :: (l', W.listOf us2.toArray n2) :: news ∧ IntsAre us2 ns2 ∧ us2.length ≤ 9 * i + j) rfl (by assumption) (by decide) (by decide) F2 N2 (_, _) (List.forall_mem_cons.mpr ⟨rfl, fun _ h => nomatch h⟩) ⟨us', ns', _, rfl, hus, hul⟩ ?_ ?_
      · rintro j t' ⟨lv, lt⟩ u' nx h' tk' I' oI' _ hj ⟨us2, ns2, n2, rfl, hus2, hul2⟩ hoff' F3 N3 R2 hR2
        have g1 := neN (hoff' _ mem_head)
        have g2 := neN (hoff' _ (.tail _ mem_head))
        have g3 := neN (hoff' _ (.tail _ (.tail _ mem_head)))
        have g4 := fun p hp => hoff' p (.tail _ (.tail _ (.tail _ hp)))
        dsimp only at g1 g2 g3 F3
        clear F2 N2
        (show wpAny _ _ _ _ _ _)
        k_steps
        · refine hR2 _ _ ?_
          refine VEnd.brk (Q := _) ?_
          (show wpAny _ _ _ _ _ _)
          k_steps
          refine hR1 _ _ ?_
          refine VEnd.next (st := ()) (by k_asm) (newsTail (by k_asm)) (List.forall_mem_cons.mpr ⟨h1, List.forall_mem_cons.mpr ⟨h2, h3⟩⟩) (fun _ h => nomatch h) (by (intro z k1 k2; (have k4 := beq_eq_false_iff_ne.mpr k1); (simp only [List.contains_cons, List.contains_nil, Bool.or_false, Bool.or_eq_false_iff] at k2); (have k3 := k2); (simp only [beq_eq_false_iff_ne, ne_eq] at k1 k2); (simp [k1, k2, k3, k4, List.lookup_cons]))) ⟨_, _, _, rfl, ints_snoc hus2 _ _, ?_⟩
          simp only [List.length_append, List.length_cons, List.length_nil]; omega
        · refine hR2 _ _ ?_
          refine VEnd.next (st := (_, _)) (by k_asm) (by k_asm) (List.forall_mem_cons.mpr ⟨g1, List.forall_mem_cons.mpr ⟨g2, List.forall_mem_cons.mpr ⟨g3, g4⟩⟩⟩) (List.forall_mem_cons.mpr ⟨rfl, fun _ h => nomatch h⟩) (by (intro z k1 k2; (have k4 := beq_eq_false_iff_ne.mpr k1); (simp only [List.contains_cons, List.contains_nil, Bool.or_false, Bool.or_eq_false_iff] at k2); (have k3 := k2); (simp only [beq_eq_false_iff_ne, ne_eq] at k1 k2); (simp [k1, k2, k3, k4, List.lookup_cons]))) ⟨_, _, _, rfl, ints_snoc hus2 _ _, ?_⟩
          simp only [List.length_append, List.length_cons, List.length_nil]; omega
      · rintro u' ⟨lv, lt⟩ v' nx h' tk' ⟨us2, ns2, n2, rfl, hus2, hul2⟩ F3 N3
        dsimp only at F3
        clear F2 N2
        (show wpAny _ _ _ _ _ _)
        k_steps
        refine hR1 _ _ ?_
        refine VEnd.next (st := ()) (by k_asm) (by k_asm) (List.forall_mem_cons.mpr ⟨h1, List.forall_mem_cons.mpr ⟨h2, h3⟩⟩) (fun _ h => nomatch h) (by (intro z k1 k2; (have k4 := beq_eq_false_iff_ne.mpr k1); (simp only [List.contains_cons, List.contains_nil, Bool.or_false, Bool.or_eq_false_iff] at k2); (have k3 := k2); (simp only [beq_eq_false_iff_ne, ne_eq] at k1 k2); (simp [k1, k2, k3, k4, List.lookup_cons]))) ⟨_, _, _, rfl, hus2, ?_⟩
        omega)
  · rintro u st v nx h tk ⟨us', ns', n, rfl, hus, hul⟩ F' N'
    dsimp only at F'
    clear F1 N1 lF' N0
    have h90 : us'.length ≤ 1000 := by
      rw [hws, hC'] at hul
      have : Int.toNat 30 = 30 := rfl
      omega
    (show wpAny _ _ _ _ _ _)
    k_steps
    rename_i Dz wz hz Fz Nz lz hIz hCz hLz kF kN Tc kX
    refine hret _ _ _ _ _ _ hIz ?_ kF (newsSub kN sub_skip2) (fun p hp => Nat.ne_of_lt (lz p (.tail _ (.tail _ hp))))
    rw [hIz.length, hCz]
    exact Nat.min_le_left _ _
end Mine
end

/-! ## Tk -/
theorem Mine.reset_Tk : True := by
  w_top off
  first | walk1 | trivial
section
open PySem PySem.W PyProof.Rows PySem.Calls PySem.W.X
set_option Elab.async false
set_option maxRecDepth 100000
set_option maxHeartbeats 1000000
set_option rowWalk.seconds 0
set_option pp.deepTerms false
set_option pp.deepTerms.threshold 6
set_option pp.maxSteps 3000
namespace Mine
local macro_rules | `(tactic| walk_at "call builtin:list.pop") => `(tactic| (k_here; k_dflt (refine' pop0 ?F ?N ?U ?z ?_; (case F => k_asm); (case N => k_asm); (case U => k_upd); (case z => k_asm)); (intro h' F' N'; (try dsimp only [List.nil_append, List.cons_append] at N'))))
theorem tack_ok (w : World) (mean : ExcName → Option Value) (mg mb : Str → Option Value)
   (dp un : Nat) (gd : Option (List Code)) (cn : Str) (cs : Scope) (a : Addr) (ccd : Value) (cl : List (Str × Addr)) (outer : List Env) (A₀ : Around) (base h₀ : Heap) (L : Addr) (m : Str → Option Value) (s : Shared) (Q E : Value → Shared → Prop)
   (D : Addr) (us : List Value) (ns : List Int) (nn : Nat) (rest : List (Addr × Obj)) (most : Int) (mt : Tok)
   (B : Below A₀ base outer h₀) (F : Fr h₀ L s.heap m) (X : (Mine.hd.heap_1 w.params).In h₀) (N : News h₀ L s.heap ((D, listOf us.toArray nn) :: rest)) (T : Top Mine.view LL mean mg mb h₀) (hk : cs.kind = .function)
   (hoff : ∀ p ∈ rest, p.1 ≠ D) (hI : IntsAre us ns) (hlen : us.length ≤ 1000) (hpos : 0 < most) (hmost : most ≤ 100) (hd: dp ≤ 400) (hu : un ≤ 4000)
   (hret : ∀ k t us' ns' nn' h' tk', 0 ≤ k → k < most → IntsAre us' ns' → us'.length ≤ us.length → Fr h₀ L h' m → News h₀ L h' ((D, listOf us'.toArray nn') :: rest) → Q (.int k t) { s with heap := h', toks := tk' }) :
   wpAny (model PySem.Challenge.rw_pq0452_01.row.prog w) (ktrTop dp un gd cn cs L a ccd cl outer) (call (.ref 236) [.ref D, .int most mt]) Q E s := by
  revert X; k_fill; intro X
  cases hI
  · refine wpAny_call ?_
    k_dflt ktr_enter
    k_steps
    refine' hret _ _ [] [] _ _ _ (by omega) hpos .nil (Nat.le_refl _) (by k_asm) (newsTail ?nt)
    (case nt => k_asm)
  · refine wpAny_call ?_
    k_dflt ktr_enter
    k_steps
    · simp_all
    · refine' hret _ _ _ _ _ _ _ (Int.fmod_nonneg_of_pos _ hpos) (Int.fmod_lt_of_pos _ hpos) (by assumption) (Nat.le_succ _) (by k_asm) (newsTail ?nt)
      (case nt => k_asm)
end Mine
end

/-! ## Cn -/
theorem Mine.reset_Cn : True := by
  w_top off
  first | walk1 | trivial
section
open PySem PySem.W PyProof.Rows PySem.Calls PySem.W.X
set_option Elab.async false
set_option maxRecDepth 100000
set_option maxHeartbeats 1000000
set_option rowWalk.seconds 0
set_option pp.deepTerms false
set_option pp.deepTerms.threshold 6
set_option pp.maxSteps 3000
namespace Mine
local macro_rules | `(tactic| walk_at "compareOp NotIn int ref") => `(tactic| (k_here; k_dflt (refine kdg_notin (knd := PySem.intKind _ _) (by k_asm) (by k_mem) (by k_asm) (by k_asm) (intKind_is _ _ _ _) _ (by assumption) ?_)))
theorem mul3 {prog : Program} {w : World} {A : Around} {E : Value → Shared → Prop} {s : Shared} {h₀ : Heap} {L l : Addr} {m : Str → Option Value} {news : List (Addr × Obj)} {k : Nat} {u : Tok} {Q : Value → Shared → Prop}
    (F : Fr h₀ L s.heap m) (N : News h₀ L s.heap news) (hm : (l, W.listOf #[.none] k) ∈ news)
    (h : ∀ r h', Fr h₀ L h' m → News h₀ L h' ((r, W.listOf [.none, .none, .none].toArray 0) :: news) → (∀ p ∈ news, p.1 < r) → Q (.ref r) { s with heap := h' }) :
    wpAny (model prog w) A (binaryOp .Mult (.ref l) (.int 3 u)) Q E s :=
  mul_list F N (N _ hm).1 (by decide) (by decide) (by decide) fun h' F' N' => h _ h' F' N' fun p hp => Heap.lt_size (N p hp).1
local macro_rules | `(tactic| walk_at "binaryOp Mult ref int") => `(tactic| (k_here; k_dflt (refine' mul3 ?F ?N ?m ?_; (case F => k_asm); (case N => k_asm); (case m => k_mem)); intro r' h' F' N' l1; (try k_lt l1)))
theorem cb_none (w : World) (mean : ExcName → Option Value) (mg mb : Str → Option Value)
   (gd : Option (List Code)) (cn : Str) (cs : Scope) (a : Addr) (ccd : Value) (cl : List (Str × Addr)) (A₀ : Around) (base h₀ : Heap) (L : Addr) (m : Str → Option Value) (s : Shared) (Q E : Value → Shared → Prop)
   (d : Addr) (od : Obj) (kvs : List (Int × Value)) (news : List (Addr × Obj)) (k : Int) (kt t3 : Tok)
   (B : Below A₀ base [] h₀) (F : Fr h₀ L s.heap m) (X : (Mine.hd.heap_1 w.params).In h₀) (N : News h₀ L s.heap news) (T : Top Mine.view LL mean mg mb h₀) (hk : cs.kind = .function)
   (hm : (d, od) ∈ news) (hD : od.IsDictOf (intKind PySem.Challenge.rw_pq0452_01.row.prog w) kvs) (hlo : (d == sysModules) = false) (hv : (valueAt kvs k).isSome = false)
   (hret : ∀ r h' tk' n, Fr h₀ L h' m → News h₀ L h' ((r, W.listOf [.none, .none, .none].toArray n) :: news) → (∀ p ∈ news, p.1 ≠ r) → Q (.ref r) { s with heap := h', toks := tk' }) :
   wpAny (model PySem.Challenge.rw_pq0452_01.row.prog w) (ktrTop 302 7 gd cn cs L a ccd cl []) (call (.ref 61) [.ref d, .int k kt, .int 3 t3]) Q E s := by
  revert X; k_fill; intro X
  refine wpAny_call ?_
  k_dflt ktr_enter
  k_steps
  rename_i l1 _ _ _ _
  refine' hret _ _ _ _ (by k_asm) (newsSub ?nn sub_skip1) (allLt_ne l1.2)
  (case nn => k_asm)
end Mine
end

/-! ## Cb -/
theorem Mine.reset_Cb : True := by
  w_top off
  first | walk1 | trivial
section
open PySem PySem.W PyProof.Rows PySem.Calls PySem.W.X
set_option Elab.async false
set_option maxRecDepth 100000
set_option maxHeartbeats 1000000
set_option rowWalk.seconds 0
set_option pp.deepTerms false
set_option pp.deepTerms.threshold 6
set_option pp.maxSteps 3000
namespace Mine
local macro_rules | `(tactic| walk_at "compareOp NotIn int ref") => `(tactic| (k_here; k_dflt (refine kdg_notin (knd := PySem.intKind _ _) (by k_asm) (by k_mem) (by k_asm) (by k_asm) (intKind_is _ _ _ _) _ (by assumption) ?_)))
local macro_rules | `(tactic| walk_at "subscriptTail") => `(tactic| (k_here; (with_reducible show wpAny _ _ (subscriptTail _ _ (Value.ref _) (Value.int _ _)) _ _ _); k_dflt (refine kda_item (knd := PySem.intKind _ _) (by k_asm) (by k_mem) (by k_asm) (intKind_is _ _ _ _) (by assumption) ?_)))
local macro_rules | `(tactic| walk_at "subscriptTail") => `(tactic| (k_here; (with_reducible show wpAny _ _ (subscriptTail _ _ (Value.ref _) (Value.int (Nat.cast _) _)) _ _ _); k_dflt (refine' itemInts ?N ?m ?I ?i ?b ?_; (case N => k_asm); (case m => k_mem); (case I => assumption); (case i => omega); (case b => omega)); intro t'))
local macro_rules | `(tactic| walk_at "pyIter ref") => `(tactic| ((with_reducible show wpAny _ _ (pyIter (Value.ref _)) (fun it s₂ => LoopAtV _ _ _ _ _ _ _ _ _ it s₂) _ _); refine Hold.out ?_))
local macro_rules | `(tactic| walk_at "exec Raise some none") => `(tactic| (refine Hold.out ?_))
local macro_rules | `(tactic| walk_at "call builtin:list.append") => `(tactic| (k_here; k_dflt (refine' appendL ?F ?N ?U ?z ?_; (case F => k_asm); (case N => k_asm); (case U => k_upd); (case z => omega)); (intro h' F' N'; (try dsimp only [List.nil_append, List.cons_append] at N'))))

inductive BV | non | num (i : Int) | bad deriving DecidableEq
def ValIs : Value → BV → Prop
  | v, .non => v = .none
  | v, .num i => ∃ t, v = .int i t
  | v, .bad => ∃ t, v = .str (Str.ofString "refused") t
inductive ValsAre : List Value → List BV → Prop
  | nil : ValsAre [] []
  | cons {v b vs bs} : ValIs v b → ValsAre vs bs → ValsAre (v :: vs) (b :: bs)
theorem ValsAre.length {vs bs} (h : ValsAre vs bs) : vs.length = bs.length := by induction h <;> simp_all
theorem ValsAre.snoc {vs bs v b} (h : ValsAre vs bs) (hv : ValIs v b) : ValsAre (vs ++ [v]) (bs ++ [b]) := by
  induction h with
  | nil => exact .cons hv .nil
  | cons h1 _ ih => exact .cons h1 ih
/-- what control_bits tells of one bit -/
def cbit (v m : Int) : BV := if m = 0 then .non else if m = 1 ∧ v < 2 then .num v else .bad
def cbits (vn mn : List Int) : List BV := List.zipWith cbit vn mn
theorem cbits_take {vn mn : List Int} {i : Nat} (h1 : i < vn.length) (h2 : i < mn.length) : (cbits vn mn).take (i + 1) = (cbits vn mn).take i ++ [cbit (vn.getD i 0) (mn.getD i 0)] := by
  have h3 : i < (cbits vn mn).length := by simp [cbits]; omega
  rw [List.take_add_one, List.getElem?_eq_getElem h3]
  simp [cbits, List.getD, h1, h2]

theorem keepS {α : Type} {x y : Str} {stored : List Str} {v u w : α} (h1 : y ≠ x) (h2 : stored.contains y = false) : (if y = x then v else if stored.contains y = true then u else w) = w := by
  rw [if_neg h1, h2]; rfl
/-- what the caller has of an exception that control_bits raised -/
structure Raised (h₀ base h' : Heap) (L : Addr) (m : Str → Option Value) (news : List (Addr × Obj)) (env : Env) (e dx d : Addr) (h1 h2 h3 : Int) (t1 t2 t3 t4 : Tok) : Prop where
  F : Fr h₀ L h' m
  N : News h₀ L h' news
  FF : h'.FunFrames base [env]
  noted : Noted h₀ h' e (.ref 52) (.ref d) (some dx)
  dict : h'.get? dx = some (excDict h1 h2 h3 t1 t2 t3 t4)
  e0 : h₀.get? e = none
  d0 : h₀.get? dx = none
  eL : e ≠ L
  dL : dx ≠ L
  de : dx ≠ e
  en : ∀ p ∈ news, p.1 ≠ e

theorem memKeep {h₀ h : Heap} {news : List (Addr × Obj)} (D : Mem h₀ h [] news) : ∀ b o, h₀.get? b = some o → h.get? b = some o := fun b o e => D.keep b o e (by simp [away])
theorem raised_of {h₀ base g hs h' h1 h'' : Heap} {L L' : Addr} {m m' : Str → Option Value} {news news' : List (Addr × Obj)} {env : Env} {e dx bb d : Addr} {o2 o4 : Obj} {e1 e2 e3 : Int} {t1 t2 t3 t4 : Tok} {env' : Env}
    (N : News h₀ L hs news) (FG : Fr h₀ L g m) (F' : Fr g L' h' m') (N' : News g L' h' news') (hsub : ∀ p ∈ news, p ∈ news')
    (D : Mem h' h1 [] [(dx, excDict e1 e2 e3 t1 t2 t3 t4), (bb, o2), (e, excObj dx d), (d, o4)])
    (P : Passed [L', L] [e] h1 h'') (hn : Noted h₀ h'' e (.ref 52) (.ref d) (some dx)) (FF : h''.FunFrames base [env', env]) : Raised h₀ base h'' L m news env e dx d e1 e2 e3 t1 t2 t3 t4 := by
  have hk := memKeep D
  have he := (D.nw (e, excObj dx d) (by simp)).2
  have hdx := D.nw (dx, excDict e1 e2 e3 t1 t2 t3 t4) (by simp)
  obtain ⟨oL, es, ep, hL, rL⟩ := FG.ns
  obtain ⟨oL', es', ep', hL', rL'⟩ := F'.ns
  have hLh : h'.get? L = some oL := F'.keep _ _ hL
  have g1 : ∀ b o, h'.get? b = some o → b ≠ e := fun b o q z => by rw [z, he] at q; cases q
  have g2 : ∀ b o, h'.get? b = some o → b ≠ dx := fun b o q z => by rw [z, hdx.2] at q; cases q
  have hde : dx ≠ e := by
    have h := D.ord
    simp only [List.map] at h
    exact (Nat.ne_of_lt ((List.pairwise_cons.mp h).1 e (by simp))).symm
  have k0 : ∀ b o, h₀.get? b = some o → h''.get? b = some o := fun b o q => by
    have q1 := FG.keep _ _ q
    have q2 := F'.keep _ _ q1
    refine P.same b o (hk _ _ q2) (by simp [g1 b o q2]) ?_
    have h3 : b ≠ L' := Nat.ne_of_lt (Nat.lt_of_lt_of_le (Heap.lt_size q1) F'.above)
    have h4 : b ≠ L := Nat.ne_of_lt (Nat.lt_of_lt_of_le (Heap.lt_size q) FG.above)
    simp [h3, h4]
  have nO : ∀ b, h'.get? b = none → h₀.get? b = none := fun b q => by
    cases z : h₀.get? b with
    | none => rfl
    | some o => have := F'.keep _ _ (FG.keep _ _ z); rw [q] at this; cases this
  refine ⟨⟨?_, k0, FG.above⟩, ?_, FF.2.2, hn, ?_, nO _ he, nO _ hdx.2, (g1 _ _ hLh).symm, (g2 _ _ hLh).symm, hde, ?_⟩
  · obtain ⟨sl, hs⟩ := P.slots L oL (hk _ _ hLh) (by simp [g1 _ _ hLh])
    exact ⟨_, es, ep, hs, rL⟩
  · intro p hp
    have q := N' p (hsub p hp)
    refine ⟨P.same _ _ (hk _ _ q.1) (by simp [g1 _ _ q.1]) ?_, (N p hp).2.1, (N p hp).2.2⟩
    have h3 := q.2.1
    have h4 := (N p hp).2.1
    simp [h3, h4]
  · refine P.same _ _ hdx.1 (by simp [hde]) ?_
    have h3 := (g2 _ _ hL').symm
    have h4 := (g2 _ _ hLh).symm
    simp [h3, h4]
  · exact fun p hp => g1 _ _ (N' p (hsub p hp)).1

theorem cb_some (w : World) (mean : ExcName → Option Value) (mg mb : Str → Option Value)
   (gd : Option (List Code)) (cn : Str) (cs : Scope) (a : Addr) (ccd : Value) (cl : List (Str × Addr)) (A₀ : Around) (base h₀ : Heap) (L : Addr) (m : Str → Option Value) (s : Shared) (Q E : Value → Shared → Prop)
   (d tp va ma : Addr) (od : Obj) (kvs : List (Int × Value)) (news : List (Addr × Obj)) (k : Int) (kt tz : Tok) (vs ms : List Value) (vn mn : List Int) (nv nm : Nat) (sz : Nat)
   (B : Below A₀ base [] h₀) (F : Fr h₀ L s.heap m) (X : (Mine.hd.heap_1 w.params).In h₀) (N : News h₀ L s.heap news) (T : Top Mine.view LL mean mg mb h₀) (hk : cs.kind = .function)
   (hm : (d, od) ∈ news) (hD : od.IsDictOf (intKind PySem.Challenge.rw_pq0452_01.row.prog w) kvs) (hlo : (d == sysModules) = false) (hv : valueAt kvs k = some (.ref tp)) 
   (ht : (tp, tupleObj [.ref va, .ref ma]) ∈ news) (hva : (va, W.listOf vs.toArray nv) ∈ news) (hma : (ma, W.listOf ms.toArray nm) ∈ news) (hvi : IntsAre vs vn) (hmi : IntsAre ms mn)
   (hl1 : vn.length = sz) (hl2 : mn.length = sz) (hsz : sz ≤ 100)
   (hret : ∀ r h' tk' fs n, (∀ b ∈ cbits vn mn, b ≠ .bad) → ValsAre fs (cbits vn mn) → Fr h₀ L h' m → News h₀ L h' ((r, W.listOf fs.toArray n) :: news) → (∀ p ∈ news, p.1 ≠ r) → Q (.ref r) { s with heap := h', toks := tk' })
   (hraise : ∀ e dx d' h1 h2 h3 t1 t2 t3 t4 h' tk', (∃ b ∈ cbits vn mn, b = .bad) → Raised h₀ base h' L m news (envX cn cs L a ccd cl) e dx d' h1 h2 h3 t1 t2 t3 t4 → E (.ref e) { s with heap := h', toks := tk' }) :
   wpAny (model PySem.Challenge.rw_pq0452_01.row.prog w) (ktrTop 302 7 gd cn cs L a ccd cl []) (call (.ref 61) [.ref d, .int k kt, .int sz tz]) Q E s := by
  revert X; k_fill; intro X
  have hvs : (valueAt kvs k).isSome = true := by rw [hv]; rfl
  refine wpAny_call ?_
  k_dflt ktr_enter
  k_steps
  refine Hold.mk ?_
  rename_i g' L' hh0 FG' B' X' T' _ _ _ _ _ l' _ hlt _ _ _ _ _ _ _ _ _ hF hN _
  refine range_S (n := sz) [] (fun i nx => ∃ fs n, nx = (_, W.listOf fs.toArray n) :: news ∧ ValsAre fs ((cbits vn mn).take i) ∧ ∀ b ∈ (cbits vn mn).take i, b ≠ .bad) rfl (by assumption) (rangeSm (by omega)) (rangeSz sz) hF hN ⟨[], _, rfl, .nil, fun _ h => nomatch h⟩ ?_ ?_
  · rintro i t u nx h' tk' I oI hi ⟨fs, n, rfl, hfs, hgood⟩ hoff F' N'
    have hfl := hfs.length
    rw [List.length_take] at hfl
    have hi1 : i < vn.length := by omega
    have hi2 : i < mn.length := by omega
    have hfI := neN (hoff _ mem_head)
    dsimp only at hfI
    have hnl := fun p hp => Nat.ne_of_lt (hlt p hp)
    have htk := cbits_take hi1 hi2
    clear hF hN
    (show wpAny _ _ _ _ _ _)
    k_steps
    · refine TEnd.next (by k_asm) (by k_asm) (List.forall_mem_cons.mpr ⟨hfI, fun p hp => hoff p (.tail _ hp)⟩) (fun y h1 h2 => keepS h1 h2) ⟨_, _, rfl, ?_, ?_⟩
      · rw [htk]; refine hfs.snoc ?_; simp_all [cbit]; rfl
      · rw [htk]; intro b hb; rcases List.mem_append.mp hb with hb | hb
        · exact hgood b hb
        · rw [List.mem_singleton.mp hb]; simp_all [cbit]
    · refine TEnd.next (by k_asm) (by k_asm) (List.forall_mem_cons.mpr ⟨hfI, fun p hp => hoff p (.tail _ hp)⟩) (fun y h1 h2 => keepS h1 h2) ⟨_, _, rfl, ?_, ?_⟩
      · rw [htk]; refine hfs.snoc ?_; simp_all [cbit]; exact ⟨_, rfl⟩
      · rw [htk]; intro b hb; rcases List.mem_append.mp hb with hb | hb
        · exact hgood b hb
        · rw [List.mem_singleton.mp hb]; simp_all [cbit]
    all_goals (
      refine Hold.mk ?_
      rw [arm_exec_Raise]
      simp only [evalOpt, Option.map]
      refine wpAny_bind (wpAny_standAt (raise_made (K := Mine.hd.heap_1 w.params) (C := 52) rfl (by k_is) (by k_is) ?_))
      refine wpAny_bind (wpAny_mono ?_ (fun v s₁ h₁ => wpAny_bind (wpAny_standAt (wpAny_pure h₁))) fun _ _ x => x)
      k_steps
      refine exc_make w _ _ _ _ _ _ _ (X'.keeps (Fr.keep (by assumption))) ?_
      intro xa xb xc xd o2 o4 h1 h2 h3 t1 t2 t3 t4 xh xk D
      have hkp := memKeep D
      have hxe := (D.nw (xc, excObj xa xd) (by simp)).1
      refine ⟨xc, some xa, .ref xd, _, _, _, _, _, rfl, ?_, hxe, ?_⟩
      · exact X'.keeps fun b o q => hkp b o (F'.keep b o q)
      · refine leave_first (b₀ := h₀) (base := base) ?_ rfl ((pushX B' F' rfl rfl).frames.of_keeps fun b o hb _ => ⟨o, hkp b o hb, rfl⟩) rfl hxe fun h'' P hn FF => ?_
        · obtain ⟨oL, _, _, hL, _⟩ := FG'.ns
          exact Nat.le_of_lt (Nat.lt_of_le_of_lt FG'.above (Heap.lt_size (hkp _ _ (F'.keep _ _ hL))))
        · refine hraise _ _ _ _ _ _ _ _ _ _ _ _ ⟨cbit (vn.getD i 0) (mn.getD i 0), ?_, ?_⟩ (raised_of N FG' F' N' (fun p hp => .tail _ (.tail _ hp)) D P hn FF)
          · exact List.mem_of_mem_take (i := i + 1) (by rw [htk]; simp)
          · simp_all [cbit])
  · rintro u nx h' tk' ⟨fs, n, rfl, hfs, hgood⟩ F' N'
    have hlen : (cbits vn mn).length = sz := by simp [cbits]; omega
    rw [List.take_of_length_le (by omega)] at hfs hgood
    clear hF hN
    (show wpAny _ _ _ _ _ _)
    k_steps
    refine' hret _ _ _ _ _ hgood hfs (by k_asm) ?nn (fun p hp => Nat.ne_of_lt (hlt p hp))
    (case nn => k_asm)
end Mine
end

/-! ## Lx -/
theorem Mine.reset_Lx : True := by
  w_top off
  first | walk1 | trivial
section
open PySem PySem.W PyProof.Rows PySem.Calls PySem.W.X
set_option Elab.async false
set_option maxRecDepth 100000
set_option maxHeartbeats 1000000
set_option rowWalk.seconds 0
set_option pp.deepTerms false
set_option pp.deepTerms.threshold 6
set_option pp.maxSteps 3000
namespace Mine
set_option linter.unusedVariables false
theorem dict_empty {prog : Program} {w : World} {K K' : Type} [DecidableEq K] [DecidableEq K'] {knd : KeyKind prog w K} {knd' : KeyKind prog w K'} {o : Obj} (h : o.IsDictOf knd []) : o.IsDictOf knd' [] := by
  obtain ⟨es, ep, hc, hd, hk, hp, hn⟩ := h
  have he : es.toList = [] := List.length_eq_zero_iff.mp hp.length
  refine ⟨es, ep, hc, hd, fun e h => ?_, he ▸ .nil, List.nodup_nil⟩
  have h' := Array.mem_toList_iff.mpr h
  rw [he] at h'
  exact nomatch h'
theorem valueAt_new {kvs : List (Int × Value)} {k : Int} (v : Value) (h : valueAt kvs k = none) : valueAt (stored kvs k v) k = some v := by
  rw [stored_absent h]
  unfold valueAt at h ⊢
  rw [List.find?_append]
  have : (List.find? (fun kv => decide (kv.1 = k)) kvs) = none := by simpa using h
  rw [this]; simp
theorem valueAt_old {kvs : List (Int × Value)} {k k' : Int} (v : Value) (h : valueAt kvs k = none) (hn : k' ≠ k) : valueAt (stored kvs k v) k' = valueAt kvs k' := by
  rw [stored_absent h]
  unfold valueAt
  rw [List.find?_append]
  have : (List.find? (fun kv => decide (kv.1 = k')) [(k, v)]) = none := by simp; exact fun e => hn e.symm
  rw [this]; simp
/-- what the two dicts bear at a key -/
def KeyAt (news : List (Addr × Obj)) (kvR kvD : List (Int × Value)) (k : Int) : Prop :=
  ∃ tp va ma ba vs ms bs vn mn nv nm nb, valueAt kvR k = some (.ref tp) ∧ valueAt kvD k = some (.ref ba) ∧ (tp, tupleObj [.ref va, .ref ma]) ∈ news ∧ (va, W.listOf vs.toArray nv) ∈ news ∧ (ma, W.listOf ms.toArray nm) ∈ news ∧ (ba, W.listOf bs.toArray nb) ∈ news ∧
    IntsAre vs vn ∧ IntsAre ms mn ∧ ValsAre bs (cbits vn mn) ∧ vn.length = mn.length ∧ vn.length ≤ 4
theorem KeyAt.mono {news news' : List (Addr × Obj)} {kvR kvD kvR' kvD' : List (Int × Value)} {k : Int} (h : KeyAt news kvR kvD k) (hs : ∀ p ∈ news, p ∈ news') (h1 : valueAt kvR' k = valueAt kvR k) (h2 : valueAt kvD' k = valueAt kvD k) : KeyAt news' kvR' kvD' k := by
  obtain ⟨tp, va, ma, ba, vs, ms, bs, vn, mn, nv, nm, nb, e1, e2, m1, m2, m3, m4, r⟩ := h
  exact ⟨tp, va, ma, ba, vs, ms, bs, vn, mn, nv, nm, nb, h1.trans e1, h2.trans e2, hs _ m1, hs _ m2, hs _ m3, hs _ m4, r⟩
/-- where the two dicts stand before key i -/
structure KeysOk (prog : Program) (w : World) (ext : List (Addr × Obj)) (oR oD : Obj) (kvR kvD : List (Int × Value)) (i : Nat) : Prop where
  R : oR.IsDictOf (intKind prog w) kvR
  D : oD.IsDictOf (intKind prog w) kvD
  lR : kvR.length ≤ i
  lD : kvD.length ≤ i
  at' : ∀ k : Nat, k < i → KeyAt ext kvR kvD k
  no : ∀ k : Nat, i ≤ k → valueAt kvR k = none ∧ valueAt kvD k = none
  tb : ∀ p ∈ ext, p.2.cls ≠ .type "traceback"
abbrev vMenu : List Int := [0, 1, 0, 1, 5, 1, 0]
abbrev mMenu : List Int := [1, 1, 0, 0, 1, 8, 1]
abbrev bMenu : List BV := [.num 0, .num 1, .non, .non, .bad, .bad, .num 0]
theorem menu_cbit (j : Nat) (h : j < 7) : cbit (vMenu.getD j 0) (mMenu.getD j 0) = bMenu.getD j .non := by
  rcases j with _ | _ | _ | _ | _ | _ | _ | j <;> first | rfl | omega
theorem ints_at {vs : List Value} {ns : List Int} (h : IntsAre vs ns) {j : Nat} (hj : j < ns.length) : ∃ t, vs[j]? = some (.int (ns.getD j 0) t) := by
  obtain ⟨t, ht⟩ := h.get j ns[j] (by simp [hj])
  exact ⟨t, by rw [ht]; simp [List.getD, hj]⟩
theorem ValsAre.at {vs bs} (h : ValsAre vs bs) : ∀ {i : Nat}, i < bs.length → ∃ v, vs[i]? = some v ∧ ValIs v (bs.getD i .non) := by
  induction h with
  | nil => intro i e; exact absurd e (Nat.not_lt_zero _)
  | cons h1 _ ih =>
    intro i e
    cases i with
    | zero => exact ⟨_, rfl, h1⟩
    | succ i => exact ih (Nat.lt_of_succ_lt_succ e)
theorem itemVals {prog : Program} {w : World} {A : Around} {E : Value → Shared → Prop} {s : Shared} {h₀ : Heap} {L D : Addr} {news : List (Addr × Obj)} {n : Nat} {value slice : PySem.Expr} {vs : List Value} {bs : List BV} {i : Nat} {u : Tok} {Q : Value → Shared → Prop} (N : News h₀ L s.heap news) (hm : (D, W.listOf vs.toArray n) ∈ news) (hI : ValsAre vs bs) (hi : i < bs.length) (hb : bs.length ≤ 1000)
    (h : ∀ v, ValIs v (bs.getD i .non) → Q v s)
    (hs : subscripted slice false (.ref D) (.int (i : Nat) u) = operate [.ref D, .int (i : Nat) u] (getItem (.ref D) (.int (i : Nat) u)) := by with_unfolding_all rfl) :
    wpAny (model prog w) A (subscriptTail value slice (.ref D) (.int (i : Nat) u)) Q E s := by
  have hl : s.heap.IsList D vs.toArray := ⟨_, (N _ hm).1, rfl, n, rfl⟩
  obtain ⟨v, hv, hvi⟩ := hI.at hi
  exact tail_any hl.typeIs slot_list_getitem.lookup (wpAny_getItem_list hl (by omega) (by omega) (x := v) (by simpa using hv) (h v hvi)) hs
theorem vals_snoc {vs : List Value} {vn mn : List Int} {v : Value} {j : Nat} (h : ValsAre vs (cbits vn mn)) (hl : vn.length = mn.length) (hj : j < 7) (hv : ValIs v (bMenu.getD j .non)) : ValsAre (vs ++ [v]) (cbits (vn ++ [vMenu.getD j 0]) (mn ++ [mMenu.getD j 0])) := by
  have e : cbits (vn ++ [vMenu.getD j 0]) (mn ++ [mMenu.getD j 0]) = cbits vn mn ++ [cbit (vMenu.getD j 0) (mMenu.getD j 0)] := by
    unfold cbits
    rw [List.zipWith_append hl]
    rfl
  rw [e, menu_cbit j hj]
  exact h.snoc hv
theorem KeysOk.step {prog : Program} {w : World} {ext ext2 : List (Addr × Obj)} {oR oD oR2 oD2 : Obj} {kvR kvD : List (Int × Value)} {i : Nat} (KO : KeysOk prog w ext oR oD kvR kvD i) {tp ba va ma : Addr} {vs ms bs : List Value} {vn mn : List Int} {nv nm nb : Nat}
    (hR : oR2.IsDictOf (intKind prog w) (stored kvR (i : Nat) (.ref tp))) (hD : oD2.IsDictOf (intKind prog w) (stored kvD (i : Nat) (.ref ba))) (hs : ∀ p ∈ ext, p ∈ ext2) (htb : ∀ p ∈ ext2, p.2.cls ≠ .type "traceback")
    (m1 : (tp, tupleObj [.ref va, .ref ma]) ∈ ext2) (m2 : (va, W.listOf vs.toArray nv) ∈ ext2) (m3 : (ma, W.listOf ms.toArray nm) ∈ ext2) (m4 : (ba, W.listOf bs.toArray nb) ∈ ext2)
    (h1 : IntsAre vs vn) (h2 : IntsAre ms mn) (h3 : ValsAre bs (cbits vn mn)) (h4 : vn.length = mn.length) (h5 : vn.length ≤ 4) : KeysOk prog w ext2 oR2 oD2 (stored kvR (i : Nat) (.ref tp)) (stored kvD (i : Nat) (.ref ba)) (i + 1) := by
  have hno := KO.no i (Nat.le_refl _)
  refine ⟨hR, hD, Nat.le_trans (stored_length_le _ _ _) (Nat.succ_le_succ KO.lR), Nat.le_trans (stored_length_le _ _ _) (Nat.succ_le_succ KO.lD), fun k hk => ?_, fun k hk => ?_, htb⟩
  · rcases Nat.lt_or_eq_of_le (Nat.le_of_lt_succ hk) with h | h
    · exact (KO.at' k h).mono hs (valueAt_old _ hno.1 (by omega)) (valueAt_old _ hno.2 (by omega))
    · subst h
      exact ⟨tp, va, ma, ba, vs, ms, bs, vn, mn, nv, nm, nb, valueAt_new _ hno.1, valueAt_new _ hno.2, m1, m2, m3, m4, h1, h2, h3, h4, h5⟩
  · have h1 := KO.no k (by omega)
    exact ⟨(valueAt_old _ hno.1 (by omega)).trans h1.1, (valueAt_old _ hno.2 (by omega)).trans h1.2⟩
end Mine
end

/-! ## Cl -/
theorem Mine.reset_Cl : True := by
  w_top off
  first | walk1 | trivial
section
open PySem PySem.W PyProof.Rows PySem.Calls PySem.W.X
set_option Elab.async false
set_option maxRecDepth 100000
set_option maxHeartbeats 1000000
set_option rowWalk.seconds 0
set_option pp.deepTerms false
set_option pp.deepTerms.threshold 6
set_option pp.maxSteps 3000
namespace Mine
set_option linter.unusedVariables false
theorem cb_some_law (w : World) (mean : ExcName → Option Value) (mg mb : Str → Option Value)
   (cn : Str) (cs : Scope) (a : Addr) (ccd : Value) (cl : List (Str × Addr)) (A₀ : Around) (base h₀ : Heap) (L : Addr) (m : Str → Option Value) (s : Shared) (Q E : Value → Shared → Prop)
   (d tp va ma : Addr) (od : Obj) (kvs : List (Int × Value)) (news : List (Addr × Obj)) (k : Int) (kt tz : Tok) (vs ms : List Value) (vn mn : List Int) (nv nm : Nat) (sz : Nat)
   (B : Below A₀ base [] h₀) (F : Fr h₀ L s.heap m) (X : (Mine.hd.heap_1 w.params).In h₀) (N : News h₀ L s.heap news) (T : Top Mine.view LL mean mg mb h₀) (hk : cs.kind = .function)
   (hm : (d, od) ∈ news) (hD : od.IsDictOf (intKind PySem.Challenge.rw_pq0452_01.row.prog w) kvs) (hlo : (d == sysModules) = false) (hv : valueAt kvs k = some (.ref tp)) 
   (ht : (tp, tupleObj [.ref va, .ref ma]) ∈ news) (hva : (va, W.listOf vs.toArray nv) ∈ news) (hma : (ma, W.listOf ms.toArray nm) ∈ news) (hvi : IntsAre vs vn) (hmi : IntsAre ms mn)
   (hl1 : vn.length = sz) (hl2 : mn.length = sz) (hsz : sz ≤ 100)
   (hret : ∀ r h' tk' fs n, (∀ b ∈ cbits vn mn, b ≠ .bad) → ValsAre fs (cbits vn mn) → Fr h₀ L h' m → News h₀ L h' ((r, W.listOf fs.toArray n) :: news) → (∀ p ∈ news, p.1 ≠ r) → Q (.ref r) { s with heap := h', toks := tk' })
   (hraise : ∀ e dx d' h1 h2 h3 t1 t2 t3 t4 h' tk', (∃ b ∈ cbits vn mn, b = .bad) → Raised h₀ base h' L m news (envX cn cs L a ccd cl) e dx d' h1 h2 h3 t1 t2 t3 t4 → E (.ref e) { s with heap := h', toks := tk' }) :
   wpAny (model PySem.Challenge.rw_pq0452_01.row.prog w) (callerA.deeper (envX cn cs L a ccd cl)) (call (.ref 61) [.ref d, .int k kt, .int sz tz]) Q E s :=
  cb_some w mean mg mb (some []) cn cs a ccd cl A₀ base h₀ L m s Q E d tp va ma od kvs news k kt tz vs ms vn mn nv nm sz B F X N T hk hm hD hlo hv ht hva hma hvi hmi hl1 hl2 hsz hret hraise
theorem cb_none_law (w : World) (mean : ExcName → Option Value) (mg mb : Str → Option Value)
   (cn : Str) (cs : Scope) (a : Addr) (ccd : Value) (cl : List (Str × Addr)) (A₀ : Around) (base h₀ : Heap) (L : Addr) (m : Str → Option Value) (s : Shared) (Q E : Value → Shared → Prop)
   (d : Addr) (od : Obj) (kvs : List (Int × Value)) (news : List (Addr × Obj)) (k : Int) (kt t3 : Tok)
   (B : Below A₀ base [] h₀) (F : Fr h₀ L s.heap m) (X : (Mine.hd.heap_1 w.params).In h₀) (N : News h₀ L s.heap news) (T : Top Mine.view LL mean mg mb h₀) (hk : cs.kind = .function)
   (hm : (d, od) ∈ news) (hD : od.IsDictOf (intKind PySem.Challenge.rw_pq0452_01.row.prog w) kvs) (hlo : (d == sysModules) = false) (hv : (valueAt kvs k).isSome = false)
   (hret : ∀ r h' tk' n, Fr h₀ L h' m → News h₀ L h' ((r, W.listOf [.none, .none, .none].toArray n) :: news) → (∀ p ∈ news, p.1 ≠ r) → Q (.ref r) { s with heap := h', toks := tk' }) :
   wpAny (model PySem.Challenge.rw_pq0452_01.row.prog w) (callerA.deeper (envX cn cs L a ccd cl)) (call (.ref 61) [.ref d, .int k kt, .int 3 t3]) Q E s :=
  cb_none w mean mg mb (some []) cn cs a ccd cl A₀ base h₀ L m s Q E d od kvs news k kt t3 B F X N T hk hm hD hlo hv hret
end Mine
end

/-! ## Ly -/
theorem Mine.reset_Ly : True := by
  w_top off
  first | walk1 | trivial
section
open PySem PySem.W PyProof.Rows PySem.Calls PySem.W.X
set_option Elab.async false
set_option maxRecDepth 100000
set_option maxHeartbeats 1000000
set_option rowWalk.seconds 0
set_option pp.deepTerms false
set_option pp.deepTerms.threshold 6
set_option pp.maxSteps 3000
namespace Mine
set_option linter.unusedVariables false
open PySem.SeqAt
section
variable {prog : Program} {w : World} {A : Around} {E : Value → Shared → Prop} {s : Shared} {h₀ : Heap} {L D D' : Addr} {news : List (Addr × Obj)} {n n' : Nat} {vs vs' : List Value} {B : List BV} {Q : Value → Shared → Prop}
theorem val_eq {v v' : Value} {b : BV} (h : ValIs v b) (h' : ValIs v' b) : EqAt A s v v' true := by
  cases b with
  | non => obtain rfl : v = .none := h; obtain rfl : v' = .none := h'; exact EqAt.same _
  | num i => obtain ⟨t, rfl⟩ := h; obtain ⟨t', rfl⟩ := h'; have := EqAt.int_int (A := A) (s := s) i t i t'; rwa [beq_self_eq_true] at this
  | bad => obtain ⟨t, rfl⟩ := h; obtain ⟨t', rfl⟩ := h'; have := EqAt.str_str (A := A) (s := s) (Str.ofString "refused") t (Str.ofString "refused") t'; rwa [beq_self_eq_true] at this
theorem ValsAre.get {vs : List Value} {B : List BV} (h : ValsAre vs B) {j : Nat} (hj : j < vs.length) : ValIs vs[j] (B.getD j .non) := by
  obtain ⟨v, hv, hi⟩ := h.at (i := j) (by rw [← h.length]; exact hj)
  rw [List.getElem?_eq_getElem hj] at hv
  exact (Option.some.inj hv) ▸ hi
theorem ne_vals (N : News h₀ L s.heap news) (hl : (D, W.listOf vs.toArray n) ∈ news) (hl' : (D', W.listOf vs'.toArray n') ∈ news) (h : ValsAre vs B) (h' : ValsAre vs' B) (hu : A.units < cLine) (hq : Q (.bool false) s) :
    wpAny (model prog w) A (compareOp .NotEq (.ref D) (.ref D')) Q E s := by
  have hs : vs.toArray.size = vs'.toArray.size := by simp [h.length, h'.length]
  refine RcNeAt.lists (e := fun _ => true) ⟨_, (N _ hl).1, rfl, n, rfl⟩ ⟨_, (N _ hl').1, rfl, n', rfl⟩ hs hu (fun j h1 h2 => ?_) prog w E Q ?_
  · have g1 : j < vs.length := by simpa using h1
    have g2 : j < vs'.length := by simpa using h2
    have := val_eq (A := A.in1) (s := s) (h.get g1) (h'.get g2)
    simpa using this
  · have e : (List.range vs.toArray.size).all (fun _ => true) = true := by simp [List.all_eq_true]
    rw [e]; exact hq
def isStr : Value → Bool
  | .str _ _ => true
  | _ => false
theorem val_ref {v : Value} {b : BV} {t : Tok} (h : ValIs v b) : EqAt A s v (.str (Str.ofString "refused") t) (isStr v) := by
  cases b with
  | non => obtain rfl : v = .none := h; exact EqAt.none_str _ _
  | num i => obtain ⟨t', rfl⟩ := h; exact EqAt.int_str _ _ _ _
  | bad => obtain ⟨t', rfl⟩ := h; have := EqAt.str_str (A := A) (s := s) (Str.ofString "refused") t' (Str.ofString "refused") t; rwa [beq_self_eq_true] at this
theorem ValsAre.mem {vs : List Value} {B : List BV} (h : ValsAre vs B) {v : Value} (hv : v ∈ vs) : ∃ b, ValIs v b := by
  induction h with
  | nil => exact nomatch hv
  | cons h1 _ ih =>
    rcases List.mem_cons.mp hv with rfl | hv
    · exact ⟨_, h1⟩
    · exact ih hv
theorem ValsAre.any_str {vs : List Value} {B : List BV} (h : ValsAre vs B) : vs.any isStr = true ↔ ∃ b ∈ B, b = .bad := by
  induction h with
  | nil => simp
  | @cons v b vs bs h1 _ ih =>
    have e : isStr v = true ↔ b = .bad := by
      cases b with
      | non => obtain rfl : v = .none := h1; simp [isStr]
      | num i => obtain ⟨t', rfl⟩ := h1; simp [isStr]
      | bad => obtain ⟨t', rfl⟩ := h1; simp [isStr]
    rw [List.any_cons, Bool.or_eq_true, e, ih]
    simp [eq_comm]
theorem in_vals {t : Tok} (N : News h₀ L s.heap news) (hl : (D, W.listOf vs.toArray n) ∈ news) (h : ValsAre vs B) (b : Bool) (hb : b = true ↔ ∃ x ∈ B, x = .bad) (hq : Q (.bool b) s) :
    wpAny (model prog w) A (compareOp .In (.str (Str.ofString "refused") t) (.ref D)) Q E s := by
  refine in_listAt isStr ⟨_, (N _ hl).1, rfl, n, rfl⟩ (fun y hy => ?_) ?_
  · obtain ⟨b, hb⟩ := h.mem (by simpa using hy)
    exact val_ref hb
  · have e : vs.toArray.any isStr = b := by
      have h1 := h.any_str
      rw [List.any_toArray]
      rw [Bool.eq_iff_iff, h1, hb]
    rw [e]; exact hq
theorem notin_vals {t : Tok} (N : News h₀ L s.heap news) (hl : (D, W.listOf vs.toArray n) ∈ news) (h : ValsAre vs B) (b : Bool) (hb : b = true ↔ ∃ x ∈ B, x = .bad) (hq : Q (.bool (!b)) s) :
    wpAny (model prog w) A (compareOp .NotIn (.str (Str.ofString "refused") t) (.ref D)) Q E s := by
  refine notIn_listAt isStr ⟨_, (N _ hl).1, rfl, n, rfl⟩ (fun y hy => ?_) ?_
  · obtain ⟨b, hb⟩ := h.mem (by simpa using hy)
    exact val_ref hb
  · have e : vs.toArray.any isStr = b := by
      have h1 := h.any_str
      rw [List.any_toArray]
      rw [Bool.eq_iff_iff, h1, hb]
    rw [e]; exact hq
end
end Mine
end

/-! ## Lz -/
theorem Mine.reset_Lz : True := by
  w_top off
  first | walk1 | trivial
section
open PySem PySem.W PyProof.Rows PySem.Calls PySem.W.X
set_option Elab.async false
set_option maxRecDepth 100000
set_option maxHeartbeats 1000000
set_option rowWalk.seconds 0
set_option pp.deepTerms false
set_option pp.deepTerms.threshold 6
set_option pp.maxSteps 3000
namespace Mine
set_option linter.unusedVariables false
def NoTb (o : Obj) : Prop := o.cls ≠ .type "traceback" ∨ ∀ vs, o.data ≠ .fields vs
section
variable {h₀ base h' h2 : Heap} {L : Addr} {m : Str → Option Value} {news : List (Addr × Obj)} {env : Env} {e dx d T : Addr} {e1 e2 e3 : Int} {t1 t2 t3 t4 : Tok}
theorem raised_keep (R : Raised h₀ base h' L m news env e dx d e1 e2 e3 t1 t2 t3 t4) (hc : ∀ p ∈ news, NoTb p.2) (hTb : h₀.objs.size ≤ T) {oT : Obj} {ts : Array Value} (hT : h'.get? T = some oT) (hdT : oT.data = .fields ts) (hcT : oT.cls = .type "traceback")
    (P : Passed [L] [e, T] h' h2) (hn : Noted h₀ h2 e (.ref 52) (.ref d) (some dx)) (FF : h2.FunFrames base [env]) : Raised h₀ base h2 L m news env e dx d e1 e2 e3 t1 t2 t3 t4 := by
  obtain ⟨F, N, _, _, hdx, h0e, h0d, heL, hdL, hde, hen⟩ := R
  obtain ⟨oL, es, ep, hL, hdat, rL⟩ := F.ns
  have hLT : L ≠ T := fun q => by rw [q, hT] at hL; cases hL; rw [hdT] at hdat; cases hdat
  have hdT' : dx ≠ T := fun q => by rw [q, hT] at hdx; cases hdx; exact absurd (show Value.type "dict" = Value.type "traceback" from hcT) (by decide)
  refine ⟨⟨?_, fun b o hb => ?_, F.above⟩, fun p hp => ?_, FF, hn, ?_, h0e, h0d, heL, hdL, hde, hen⟩
  · obtain ⟨sl, hs⟩ := P.slots L oL hL (by simp [Ne.symm heL, hLT])
    exact ⟨_, es, ep, hs, hdat, rL⟩
  · refine P.same b o (F.keep b o hb) ?_ ?_
    · have g1 : b ≠ e := fun q => by rw [q, h0e] at hb; cases hb
      have g2 : b ≠ T := Nat.ne_of_lt (Nat.lt_of_lt_of_le (Heap.lt_size hb) hTb)
      simp [g1, g2]
    · have g3 : b ≠ L := Nat.ne_of_lt (Nat.lt_of_lt_of_le (Heap.lt_size hb) F.above)
      simp [g3]
  · have q := N p hp
    refine ⟨P.same _ _ q.1 ?_ ?_, q.2⟩
    · have g1 := hen p hp
      have g2 : p.1 ≠ T := fun z => by
        have := q.1
        rw [z, hT] at this
        rcases hc p hp with g | g
        · exact g ((Option.some.inj this) ▸ hcT)
        · exact g ts ((Option.some.inj this) ▸ hdT)
      simp [g1, g2]
    · simp [q.2.1]
  · exact P.same _ _ hdx (by simp [hde, hdT']) (by simp [hdL])
theorem raised_flight {M : Model} {A : Around} {E : Value → Shared → Prop} {s : Shared} {Q : Unit → Shared → Prop} (R : Raised h₀ base s.heap L m news env e dx d e1 e2 e3 t1 t2 t3 t4) (hc : ∀ p ∈ news, NoTb p.2)
    (h : ∀ h2, Raised h₀ base h2 L m news env e dx d e1 e2 e3 t1 t2 t3 t4 → Q () { s with heap := h2 }) : wpAny M A (setFlight (.ref e) none) Q E s := by
  obtain ⟨T, oT, ts, x2, x3, x4, x5, sl, he, hTe, hTb, hT, hcT, hdT, h3⟩ := R.noted
  have hsz := (Array.getElem?_eq_some_iff.mp h3).1
  refine wpAny_setFlight_none he rfl rfl hT hdT hsz (h _ ?_)
  have other : ∀ b, b ≠ T → (s.heap.update T (Obj.mapFields (·.setIfInBounds 3 Value.none))).get? b = s.heap.get? b := fun b hb => Heap.get?_update_other _ _ (Ne.symm hb)
  have noRecord : ∀ b o, s.heap.get? b = some o → (∀ vs, o.data ≠ .fields vs) → b ≠ T := fun b o hb hnf q => by
    rw [q, hT] at hb; injection hb with hb; subst hb; exact hnf ts hdT
  refine raised_keep R hc hTb hT hdT hcT ⟨fun b o hb hbe _ => (other b fun q => hbe (by simp [q])).trans hb, fun b o hb hbe => ⟨o.slots, (other b fun q => hbe (by simp [q])).trans hb⟩⟩ ?_ ?_
  · refine ⟨T, _, _, x2, x3, x4, x5, sl, (other e (Ne.symm hTe)).trans he, hTe, hTb, Heap.get?_update_self _ hT (Obj.isFreed_of_fields (Obj.data_mapFields hdT _)), (Obj.cls_mapFields _ _).trans hcT, Obj.data_mapFields hdT _, ?_⟩
    simp [hsz]
  · exact R.FF.of_keeps fun b o hb hnf => ⟨o, (other b (noRecord b o hb hnf)).trans hb, rfl⟩
/-- the exception and its dict go onto the ledger -/
theorem raised_news (R : Raised h₀ base h' L m news env e dx d e1 e2 e3 t1 t2 t3 t4) : ∃ T x2 x3 x4 x5 sl, News h₀ L h' ((e, ⟨.ref 52, some dx, .fields #[.ref d, .ref T, x2, x3, x4, x5], sl⟩) :: (dx, excDict e1 e2 e3 t1 t2 t3 t4) :: news) := by
  obtain ⟨T, oT, ts, x2, x3, x4, x5, sl, he, _⟩ := R.noted
  refine ⟨T, x2, x3, x4, x5, sl, fun p hp => ?_⟩
  rcases List.mem_cons.mp hp with rfl | hp
  · exact ⟨he, R.eL, R.e0⟩
  · rcases List.mem_cons.mp hp with rfl | hp
    · exact ⟨R.dict, R.dL, R.d0⟩
    · exact R.N p hp
end
end Mine
end

/-! ## Nn -/
theorem Mine.reset_Nn : True := by
  w_top off
  first | walk1 | trivial
section
open PySem PySem.W PyProof.Rows PySem.Calls PySem.W.X
set_option Elab.async false
set_option maxRecDepth 100000
set_option maxHeartbeats 1000000
set_option rowWalk.seconds 0
set_option pp.deepTerms false
set_option pp.deepTerms.threshold 6
set_option pp.maxSteps 3000
namespace Mine
set_option linter.unusedVariables false
theorem new_net_ok (w : World) (mean : ExcName → Option Value) (mg mb : Str → Option Value)
   (dp un : Nat) (gd : Option (List Code)) (cn : Str) (nms : List (Str × NameKind)) (ig ic : Bool) (mr : List (Str × Const)) (a : Addr) (ccd : Value) (cl : List (Str × Addr)) (outer : List Env) (A₀ : Around) (base h₀ : Heap) (L : Addr) (m : Str → Option Value) (s : Shared) (Q E : Value → Shared → Prop)
   (dn xn li lo lc : Addr) (nm : Value) (c : Int) (tc t1 t2 t3 t4 t5 : Tok) (rest : List (Addr × Obj))
   (B : Below A₀ base outer h₀) (F : Fr h₀ L s.heap m) (X : (Mine.hd.heap_1 w.params).In h₀) (N : News h₀ L s.heap ((dn, netDict w nm c tc t1 t2 t3 t4 t5 li lo lc) :: rest)) (T : Top Mine.view LL mean mg mb h₀)
   (hxn : (xn, instObj 141 dn) ∈ rest) (hd1 : ∀ p ∈ rest, p.1 ≠ dn) (hdp : dp ≤ 500) (hun : un ≤ 5000)
   (hret : ∀ (t tc' : Tok) (h' : Heap) (tk' : Nat), Fr h₀ L h' m → News h₀ L h' ((dn, netDict w nm (c + 1) tc' t1 t2 t3 t4 t5 li lo lc) :: rest) → Q (.int c t) { s with heap := h', toks := tk' }) :
   wpAny (model PySem.Challenge.rw_pq0452_01.row.prog w) (ktrTop dp un gd cn { kind := .function, names := nms, isGenerator := ig, isCoroutine := ic, more := mr } L a ccd cl outer) (call (.ref 89) [.ref xn]) Q E s := by
  revert X; k_fill; intro X
  dsimp only [netDict, ent] at N
  k_steps
  rename_i kF kN Tc kX
  exact hret _ _ _ _ kF kN
end Mine
end

/-! ## Ai -/
theorem Mine.reset_Ai : True := by
  w_top off
  first | walk1 | trivial
section
open PySem PySem.W PyProof.Rows PySem.Calls PySem.W.X
set_option Elab.async false
set_option maxRecDepth 100000
set_option maxHeartbeats 1000000
set_option rowWalk.seconds 0
set_option pp.deepTerms false
set_option pp.deepTerms.threshold 6
set_option pp.maxSteps 3000
namespace Mine
set_option linter.unusedVariables false
local macro_rules | `(tactic| walk_at "eval ListComp") => `(tactic| (k_here; k_dflt (refine LCg.ListComp_U (F₀ := by k_asm) (by with_unfolding_all rfl) (by decide) (by rfl) (by decide) (by rfl) ?_)))
local macro_rules | `(tactic| walk_at "CompSrc") => `(tactic| (k_here; k_dflt (refine LCg.CompSrc.range (by rfl) (by k_asm) (by k_asm) (by assumption) (by first | decide | rfl) (by first | rfl | decide) (by first | size_fits | exact Nat.le_of_ble_eq_true rfl) ?_); intro g'; lcg_lit; refine Hold.out ?_))
local macro_rules | `(tactic| walk_at "call ref") => `(tactic| ((with_reducible show wpAny _ _ (call (Value.ref 89) _) _ _ _); refine Hold.out ?_))
theorem three_news {h₀ h : Heap} {L : Addr} {a b c d e f : Addr × Obj} {rest : List (Addr × Obj)} (N : News h₀ L h (a :: b :: c :: d :: e :: f :: rest)) : News h₀ L h (c :: e :: f :: rest) := newsSub N (by (repeat' (first | with_reducible exact subRfl | exact subNil | refine subCons ?_ ?_ | refine subTail ?_ | with_reducible exact mem_head | refine List.mem_cons_of_mem _ ?_)))
theorem to_head {h₀ h : Heap} {L : Addr} {a b c d e : Addr × Obj} {rest : List (Addr × Obj)} (N : News h₀ L h (a :: b :: c :: d :: e :: rest)) : News h₀ L h (e :: a :: b :: c :: d :: rest) := newsSub N (by (repeat' (first | with_reducible exact subRfl | exact subNil | refine subCons ?_ ?_ | refine subTail ?_ | with_reducible exact mem_head | refine List.mem_cons_of_mem _ ?_)))
theorem from_head {h₀ h : Heap} {L : Addr} {a b c d e : Addr × Obj} {rest : List (Addr × Obj)} (N : News h₀ L h (e :: a :: b :: c :: d :: rest)) : News h₀ L h (a :: b :: c :: d :: e :: rest) := newsSub N (by (repeat' (first | with_reducible exact subRfl | exact subNil | refine subCons ?_ ?_ | refine subTail ?_ | with_reducible exact mem_head | refine List.mem_cons_of_mem _ ?_)))
theorem off1_mem {D : Addr} : ∀ {l : List (Addr × Obj)}, LCg.Off1 D l → ∀ p ∈ l, p.1 ≠ D
  | [], _, _, hp => nomatch hp
  | q :: r, h, p, hp => by
    rcases List.mem_cons.mp hp with rfl | hp
    · exact h.1
    · exact off1_mem h.2 p hp
set_option maxHeartbeats 8000000 in
theorem add_input_ok (w : World) (mean : ExcName → Option Value) (mg mb : Str → Option Value)
   (dp un : Nat) (gd : Option (List Code)) (cn : Str) (cs : Scope) (a : Addr) (ccd : Value) (cl : List (Str × Addr)) (outer : List Env) (A₀ : Around) (base h₀ : Heap) (L : Addr) (m : Str → Option Value) (s : Shared) (Q E : Value → Shared → Prop)
   (dn xn li lo lc : Addr) (nm : Value) (c : Int) (tc t1 t2 t3 t4 t5 : Tok) (ls : List Value) (nl : Nat) (rest : List (Addr × Obj)) (x : Str) (tx tw : Tok) (wd : Nat)
   (B : Below A₀ base outer h₀) (F : Fr h₀ L s.heap m) (X : (Mine.hd.heap_1 w.params).In h₀) (N : News h₀ L s.heap ((dn, netDict w nm c tc t1 t2 t3 t4 t5 li lo lc) :: (li, W.listOf ls.toArray nl) :: rest)) (T : Top Mine.view LL mean mg mb h₀) (hk : cs.kind = .function)
   (hxn : (xn, instObj 141 dn) ∈ rest) (hd1 : ∀ p ∈ rest, p.1 ≠ dn) (hd2 : ∀ p ∈ rest, p.1 ≠ li) (hne : @Ne Nat dn li) (hls : ls.length ≤ 10) (hw1 : 1 ≤ wd) (hw3 : wd ≤ 3) (hdp : dp ≤ 400) (hun : un ≤ 4000)
   (hret : ∀ (rr : Addr) (as : List Value) (an : List Int) (na : Nat) (ls' : List Value) (nl' : Nat) (cw : Int) (tc' : Tok) (h' : Heap) (tk' : Nat), an = (List.range wd).map (fun (j : Nat) => c + (j : Int)) → cw = c + (wd : Int) → IntsAre as an → ls'.length ≤ ls.length + 1 → Fr h₀ L h' m → News h₀ L h' ((rr, W.listOf as.toArray na) :: (dn, netDict w nm cw tc' t1 t2 t3 t4 t5 li lo lc) :: (li, W.listOf ls'.toArray nl') :: rest) → @Ne Nat dn rr → @Ne Nat li rr → (∀ p ∈ rest, p.1 ≠ rr) → Q (.ref rr) { s with heap := h', toks := tk' }) :
   wpAny (model PySem.Challenge.rw_pq0452_01.row.prog w) (ktrTop dp un gd cn cs L a ccd cl outer) (call (.ref 101) [.ref xn, .str x tx, .int wd tw]) Q E s := by
  revert X; k_fill; intro X
  dsimp only [netDict, ent] at N
  obtain rfl | rfl | rfl : wd = 1 ∨ wd = 2 ∨ wd = 3 := by omega
  · refine wpAny_call ?_
    k_dflt ktr_enter
    k_steps
    refine Hold.mk ?_
    refine LCg.CompRest.succ ?_
    intro v0 I0 oI0 C0 oC0 D0 m0 h0 tk0 E0 hv0 hC0 hx0 F0 N0 off0 ne0
    obtain ⟨tv0, rfl⟩ := hv0
    simp only [LCg.Off3, and_true] at off0
    (show wpAny _ _ _ _ _ _)
    k_steps
    refine Hold.mk ?_
    k_dflt (refine new_net_ok w mean mg mb _ _ _ _ _ _ _ _ _ _ _ _ _ _ _ _ _ _ _ _ dn xn li lo lc nm (c) _ t1 t2 t3 t4 t5 _ (by k_asm) F0 (by k_asm) (to_head N0) (by k_asm) (by k_mem) (by (repeat' (first | assumption | (refine List.forall_mem_cons.mpr ⟨?_, ?_⟩) | k_ne | exact allLt_ne (by assumption)))) (by dsimp only [ktrTop, Around.deeper]; omega) (by dsimp only [ktrTop, Around.deeper]; omega) ?_)
    intro tn0 tc0 hh0 tkk0 Fx0 Nx0
    k_dflt (refine LCg.CompEnd.intro Fx0 (from_head Nx0) _ (fun p hp => hp) (by simp only [LCg.Off3, and_true]; exact off0) True.intro ?_)
    clear F0 N0 Fx0 Nx0 off0 hC0 hx0 ne0
    refine LCg.CompRest.zero ?_
    intro D9 h9 tk9 F9 N9 o9
    dsimp only [List.nil_append, List.cons_append, netDict, ent] at N9
    have o1 := o9
    simp only [LCg.Off1] at o1
    k_steps
    rename_i kF kN Tc kX
    rw [List.push_toArray] at kN
    k_dflt (refine hret _ _ [c] _ _ _ (c + 1) _ _ _ (by simp [List.range_succ] <;> omega) (by omega) (by (repeat' (first | exact IntsAre.nil | apply IntsAre.cons))) ?_ kF (three_news kN) o1.2.1 o1.2.2.1 (off1_mem o1.2.2.2))
    simp
  · refine wpAny_call ?_
    k_dflt ktr_enter
    k_steps
    refine Hold.mk ?_
    refine LCg.CompRest.succ ?_
    intro v0 I0 oI0 C0 oC0 D0 m0 h0 tk0 E0 hv0 hC0 hx0 F0 N0 off0 ne0
    obtain ⟨tv0, rfl⟩ := hv0
    simp only [LCg.Off3, and_true] at off0
    (show wpAny _ _ _ _ _ _)
    k_steps
    refine Hold.mk ?_
    k_dflt (refine new_net_ok w mean mg mb _ _ _ _ _ _ _ _ _ _ _ _ _ _ _ _ _ _ _ _ dn xn li lo lc nm (c) _ t1 t2 t3 t4 t5 _ (by k_asm) F0 (by k_asm) (to_head N0) (by k_asm) (by k_mem) (by (repeat' (first | assumption | (refine List.forall_mem_cons.mpr ⟨?_, ?_⟩) | k_ne | exact allLt_ne (by assumption)))) (by dsimp only [ktrTop, Around.deeper]; omega) (by dsimp only [ktrTop, Around.deeper]; omega) ?_)
    intro tn0 tc0 hh0 tkk0 Fx0 Nx0
    k_dflt (refine LCg.CompEnd.intro Fx0 (from_head Nx0) _ (fun p hp => hp) (by simp only [LCg.Off3, and_true]; exact off0) True.intro ?_)
    clear F0 N0 Fx0 Nx0 off0 hC0 hx0 ne0
    refine LCg.CompRest.succ ?_
    intro v1 I1 oI1 C1 oC1 D1 m1 h1 tk1 E1 hv1 hC1 hx1 F1 N1 off1 ne1
    obtain ⟨tv1, rfl⟩ := hv1
    simp only [LCg.Off3, and_true] at off1
    (show wpAny _ _ _ _ _ _)
    k_steps
    refine Hold.mk ?_
    k_dflt (refine new_net_ok w mean mg mb _ _ _ _ _ _ _ _ _ _ _ _ _ _ _ _ _ _ _ _ dn xn li lo lc nm (c + 1) _ t1 t2 t3 t4 t5 _ (by k_asm) F1 (by k_asm) (to_head N1) (by k_asm) (by k_mem) (by (repeat' (first | assumption | (refine List.forall_mem_cons.mpr ⟨?_, ?_⟩) | k_ne | exact allLt_ne (by assumption)))) (by dsimp only [ktrTop, Around.deeper]; omega) (by dsimp only [ktrTop, Around.deeper]; omega) ?_)
    intro tn1 tc1 hh1 tkk1 Fx1 Nx1
    k_dflt (refine LCg.CompEnd.intro Fx1 (from_head Nx1) _ (fun p hp => hp) (by simp only [LCg.Off3, and_true]; exact off1) True.intro ?_)
    clear F1 N1 Fx1 Nx1 off1 hC1 hx1 ne1
    refine LCg.CompRest.zero ?_
    intro D9 h9 tk9 F9 N9 o9
    dsimp only [List.nil_append, List.cons_append, netDict, ent] at N9
    have o1 := o9
    simp only [LCg.Off1] at o1
    k_steps
    rename_i kF kN Tc kX
    rw [List.push_toArray] at kN
    k_dflt (refine hret _ _ [c, c + 1] _ _ _ (c + 1 + 1) _ _ _ (by simp [List.range_succ] <;> omega) (by omega) (by (repeat' (first | exact IntsAre.nil | apply IntsAre.cons))) ?_ kF (three_news kN) o1.2.1 o1.2.2.1 (off1_mem o1.2.2.2))
    simp
  · refine wpAny_call ?_
    k_dflt ktr_enter
    k_steps
    refine Hold.mk ?_
    refine LCg.CompRest.succ ?_
    intro v0 I0 oI0 C0 oC0 D0 m0 h0 tk0 E0 hv0 hC0 hx0 F0 N0 off0 ne0
    obtain ⟨tv0, rfl⟩ := hv0
    simp only [LCg.Off3, and_true] at off0
    (show wpAny _ _ _ _ _ _)
    k_steps
    refine Hold.mk ?_
    k_dflt (refine new_net_ok w mean mg mb _ _ _ _ _ _ _ _ _ _ _ _ _ _ _ _ _ _ _ _ dn xn li lo lc nm (c) _ t1 t2 t3 t4 t5 _ (by k_asm) F0 (by k_asm) (to_head N0) (by k_asm) (by k_mem) (by (repeat' (first | assumption | (refine List.forall_mem_cons.mpr ⟨?_, ?_⟩) | k_ne | exact allLt_ne (by assumption)))) (by dsimp only [ktrTop, Around.deeper]; omega) (by dsimp only [ktrTop, Around.deeper]; omega) ?_)
    intro tn0 tc0 hh0 tkk0 Fx0 Nx0
    k_dflt (refine LCg.CompEnd.intro Fx0 (from_head Nx0) _ (fun p hp => hp) (by simp only [LCg.Off3, and_true]; exact off0) True.intro ?_)
    clear F0 N0 Fx0 Nx0 off0 hC0 hx0 ne0
    refine LCg.CompRest.succ ?_
    intro v1 I1 oI1 C1 oC1 D1 m1 h1 tk1 E1 hv1 hC1 hx1 F1 N1 off1 ne1
    obtain ⟨tv1, rfl⟩ := hv1
    simp only [LCg.Off3, and_true] at off1
    (show wpAny _ _ _ _ _ _)
    k_steps
    refine Hold.mk ?_
    k_dflt (refine new_net_ok w mean mg mb _ _ _ _ _ _ _ _ _ _ _ _ _ _ _ _ _ _ _ _ dn xn li lo lc nm (c + 1) _ t1 t2 t3 t4 t5 _ (by k_asm) F1 (by k_asm) (to_head N1) (by k_asm) (by k_mem) (by (repeat' (first | assumption | (refine List.forall_mem_cons.mpr ⟨?_, ?_⟩) | k_ne | exact allLt_ne (by assumption)))) (by dsimp only [ktrTop, Around.deeper]; omega) (by dsimp only [ktrTop, Around.deeper]; omega) ?_)
    intro tn1 tc1 hh1 tkk1 Fx1 Nx1
    k_dflt (refine LCg.CompEnd.intro Fx1 (from_head Nx1) _ (fun p hp => hp) (by simp only [LCg.Off3, and_true]; exact off1) True.intro ?_)
    clear F1 N1 Fx1 Nx1 off1 hC1 hx1 ne1
    refine LCg.CompRest.succ ?_
    intro v2 I2 oI2 C2 oC2 D2 m2 h2 tk2 E2 hv2 hC2 hx2 F2 N2 off2 ne2
    obtain ⟨tv2, rfl⟩ := hv2
    simp only [LCg.Off3, and_true] at off2
    (show wpAny _ _ _ _ _ _)
    k_steps
    refine Hold.mk ?_
    k_dflt (refine new_net_ok w mean mg mb _ _ _ _ _ _ _ _ _ _ _ _ _ _ _ _ _ _ _ _ dn xn li lo lc nm (c + 1 + 1) _ t1 t2 t3 t4 t5 _ (by k_asm) F2 (by k_asm) (to_head N2) (by k_asm) (by k_mem) (by (repeat' (first | assumption | (refine List.forall_mem_cons.mpr ⟨?_, ?_⟩) | k_ne | exact allLt_ne (by assumption)))) (by dsimp only [ktrTop, Around.deeper]; omega) (by dsimp only [ktrTop, Around.deeper]; omega) ?_)
    intro tn2 tc2 hh2 tkk2 Fx2 Nx2
    k_dflt (refine LCg.CompEnd.intro Fx2 (from_head Nx2) _ (fun p hp => hp) (by simp only [LCg.Off3, and_true]; exact off2) True.intro ?_)
    clear F2 N2 Fx2 Nx2 off2 hC2 hx2 ne2
    refine LCg.CompRest.zero ?_
    intro D9 h9 tk9 F9 N9 o9
    dsimp only [List.nil_append, List.cons_append, netDict, ent] at N9
    have o1 := o9
    simp only [LCg.Off1] at o1
    k_steps
    rename_i kF kN Tc kX
    rw [List.push_toArray] at kN
    k_dflt (refine hret _ _ [c, c + 1, c + 1 + 1] _ _ _ (c + 1 + 1 + 1) _ _ _ (by simp [List.range_succ] <;> omega) (by omega) (by (repeat' (first | exact IntsAre.nil | apply IntsAre.cons))) ?_ kF (three_news kN) o1.2.1 o1.2.2.1 (off1_mem o1.2.2.2))
    simp
end Mine
end

/-! ## Op -/
theorem Mine.reset_Op : True := by
  w_top off
  first | walk1 | trivial
section
open PySem PySem.W PyProof.Rows PySem.Calls PySem.W.X
set_option Elab.async false
set_option maxRecDepth 100000
set_option maxHeartbeats 1000000
set_option rowWalk.seconds 0
set_option pp.deepTerms false
set_option pp.deepTerms.threshold 6
set_option pp.maxSteps 3000
namespace Mine
local macro_rules | `(tactic| walk_at "getMethod ref") => `(tactic| (k_here; (with_reducible show wpAny _ _ (getMethod _ _ _) _ _ _); k_dflt (refine' kdg_method (knd := intKind _ _) ?N ?q ?d ?_; (case N => k_asm); (case q => k_mem); (case d => assumption))))
local macro_rules | `(tactic| walk_at "call builtin:dict.get") => `(tactic| (k_here; k_dflt (refine' kdg_get2 (knd := intKind _ _) ?N ?q ?d ?l (intKind_is _ _ _ _) none ?v ?_; (case N => k_asm); (case q => k_mem); (case d => assumption); (case l => assumption); (case v => rfl)); (try dsimp only [Option.getD])))
set_option linter.unusedVariables false
theorem opp_ok {w : World} {mean : ExcName → Option Value} {mg mb : Str → Option Value} {dp un : Nat}
   {gd : Option (List Code)} {cn : Str} {nms : List (Str × NameKind)} {ig ic : Bool} {a : Addr} {ccd : Value} {cl : List (Str × Addr)} {outer : List Env} {A₀ : Around} {base h₀ : Heap} {L : Addr} {m : Str → Option Value} {s : Shared} {Q E : Value → Shared → Prop}
   {xg dg op xn ma : Addr} {oo : Obj} {g1 g2 g3 : Tok} {led : List (Addr × Obj)} {x y : Int} {tx ty : Tok}
   (B : Below A₀ base outer h₀) (F : Fr h₀ L s.heap m) (X : (Mine.hd.heap_1 w.params).In h₀) (N : News h₀ L s.heap led) (T : Top Mine.view LL mean mg mb h₀)
   (hxg : (xg, instObj 218 dg) ∈ led) (hdg : (dg, gDict w g1 g2 g3 xn ma op) ∈ led) (hop : (op, oo) ∈ led) (hoo : oo.IsDictOf (intKind thePr w) []) (hls : (op == sysModules) = false)
   (hy : 2 ≤ y) (hdp : dp ≤ 500) (hun : un ≤ 5000)
   (H : ∀ h' tk', Fr h₀ L h' m → News h₀ L h' led → Q (.bool false) { s with heap := h', toks := tk' }) :
   wpAny (model PySem.Challenge.rw_pq0452_01.row.prog w) (ktrTop dp un gd cn { kind := .function, names := nms, isGenerator := ig, isCoroutine := ic } L a ccd cl outer) (call (.ref 173) [.ref xg, .int x tx, .int y ty]) Q E s := by
  revert X; k_fill; intro X
  dsimp only [ent, gDict] at hdg
  k_steps
  rename_i kF kN Tc kX
  have e : ((-1 : Int) == y) = false := by rw [beq_eq_false_iff_ne]; omega
  rw [e]
  exact H _ _ kF kN
end Mine
end

/-! ## Ac -/
theorem Mine.reset_Ac : True := by
  w_top off
  first | walk1 | trivial
section
open PySem PySem.W PyProof.Rows PySem.Calls PySem.W.X
set_option Elab.async false
set_option maxRecDepth 100000
set_option maxHeartbeats 1000000
set_option rowWalk.seconds 0
set_option pp.deepTerms false
set_option pp.deepTerms.threshold 6
set_option pp.maxSteps 3000
namespace Mine
local macro_rules | `(tactic| walk_at "call type:tuple") => `(tactic| (k_here; k_dflt (refine' call_tuple_tup (News.isTup ?N ?q) ?_; (case N => k_asm); (case q => k_mem))))
local macro_rules | `(tactic| walk_at "call builtin:list.append") => `(tactic| (k_here; k_dflt (refine' appendL ?F ?N ?U ?z ?_; (case F => k_asm); (case N => k_asm); (case U => k_upd); (case z => omega)); (intro h' F' N'; (try dsimp only [List.nil_append, List.cons_append] at N'))))
set_option linter.unusedVariables false
theorem cell_ok {w : World} {mean : ExcName → Option Value} {mg mb : Str → Option Value} {dp un : Nat}
   {gd : Option (List Code)} {cn : Str} {nms : List (Str × NameKind)} {ig ic : Bool} {a : Addr} {ccd : Value} {cl : List (Str × Addr)} {outer : List Env} {A₀ : Around} {base h₀ : Heap} {L : Addr} {m : Str → Option Value} {s : Shared} {Q E : Value → Shared → Prop}
   {dn xn li lo lc D2 : Addr} {nm : Value} {c : Int} {tc t1 t2 t3 t4 t5 : Tok} {us vs : List Value} {nn : Nat} (rest : List (Addr × Obj)) {kd : Str} {tk0 : Tok}
   (B : Below A₀ base outer h₀) (F : Fr h₀ L s.heap m) (X : (Mine.hd.heap_1 w.params).In h₀) (N : News h₀ L s.heap ((dn, netDict w nm c tc t1 t2 t3 t4 t5 li lo lc) :: (lc, W.listOf us.toArray nn) :: rest)) (T : Top Mine.view LL mean mg mb h₀)
   (hxn : (xn, instObj 141 dn) ∈ rest) (hD2 : (D2, tupleObj vs) ∈ rest) (hd1 : ∀ p ∈ rest, p.1 ≠ dn) (hd2 : ∀ p ∈ rest, p.1 ≠ lc) (hd3 : @Ne Nat dn lc) (hlen : us.length ≤ 100)
   (hdp : dp ≤ 450) (hun : un ≤ 4500)
   (H : ∀ D1 t6 t7 tc' nn' h' tk', (∀ p ∈ (dn, netDict w nm c tc t1 t2 t3 t4 t5 li lo lc) :: (lc, W.listOf us.toArray nn) :: rest, p.1 < D1) → Fr h₀ L h' m → News h₀ L h' ((D1, tupleObj [.str kd t6, .int c t7, .ref D2, .none]) :: (dn, netDict w nm (c + 1) tc' t1 t2 t3 t4 t5 li lo lc) :: (lc, W.listOf (us ++ [Value.ref D1]).toArray nn') :: rest) → Q (.int c t7) { s with heap := h', toks := tk' }) :
   wpAny (model PySem.Challenge.rw_pq0452_01.row.prog w) (ktrTop dp un gd cn { kind := .function, names := nms, isGenerator := ig, isCoroutine := ic } L a ccd cl outer) (call (.ref 116) [.ref xn, .str kd tk0, .ref D2]) Q E s := by
  revert X; k_fill; intro X
  have hd4 : @Ne Nat lc dn := fun e => hd3 e.symm
  dsimp only [netDict, ent, tupleObj] at N hD2
  k_steps
  rename_i kF kN Tc kX
  (rename _ ∧ _ ∧ AllLt _ rest => hA)
  exact H _ _ _ _ _ _ _ (List.forall_mem_cons.mpr ⟨hA.1, List.forall_mem_cons.mpr ⟨hA.2.1, tb_ltOf hA.2.2⟩⟩) kF kN
end Mine
end

/-! ## Gt -/
theorem Mine.reset_Gt : True := by
  w_top off
  first | walk1 | trivial
section
open PySem PySem.W PyProof.Rows PySem.Calls PySem.W.X
set_option Elab.async false
set_option maxRecDepth 100000
set_option maxHeartbeats 1000000
set_option rowWalk.seconds 0
set_option pp.deepTerms false
set_option pp.deepTerms.threshold 6
set_option pp.maxSteps 3000
namespace Mine
local macro_rules | `(tactic| walk_at "call type:tuple") => `(tactic| (k_here; k_dflt (refine' call_tuple_tup (News.isTup ?N ?q) ?_; (case N => k_asm); (case q => k_mem))))
local macro_rules | `(tactic| walk_at "call builtin:list.append") => `(tactic| (k_here; k_dflt (refine' appendL ?F ?N ?U ?z ?_; (case F => k_asm); (case N => k_asm); (case U => k_upd); (case z => omega)); (intro h' F' N'; (try dsimp only [List.nil_append, List.cons_append] at N'))))
local macro_rules | `(tactic| walk_at "call ref") => `(tactic| ((with_reducible show wpAny _ _ (call (Value.ref 116) _) _ _ _); refine Hold.out ?_))
local macro_rules | `(tactic| walk_at "call ref") => `(tactic| (k_here; (with_reducible show wpAny _ _ (call (Value.ref 173) _) _ _ _); k_dflt (refine' opp_ok ?B ?F ?X ?N ?T ?xg ?dg ?op ?oo ?ls ?y ?d ?u ?_; (case B => k_asm); (case F => k_asm); (case X => k_asm); (case N => k_asm); (case T => k_asm); (case xg => k_mem); (case dg => k_mem); (case op => k_mem); (case oo => assumption); (case ls => assumption); (case y => omega); (case d => (dsimp only [ktrTop, Around.deeper]; omega)); (case u => (dsimp only [ktrTop, Around.deeper]; omega))); intro h' tk' F' N'; (try k_sweep)))
local macro_rules | `(tactic| walk_at "compareOp NotIn ref ref") => `(tactic| (k_here; k_dflt (refine' notin_made ?u ?N ?q (IsMade.sub (by assumption) ?sb) ?lo ?ka ?tk (NoKey.ne (by assumption) ?ky) ?_; (case u => k_units); (case N => k_asm); (case q => k_mem); (case sb => (intro p hp hcl; k_mem)); (case lo => assumption); (case ka => k_mem); (case tk => first | exact items3 _ _ _ _ _ _ | exact items4 _ _ _ _ _ _ _ _); (case ky => (simp; try omega)))))
local macro_rules | `(tactic| walk_at "setItem ref ref") => `(tactic| (k_here; k_dflt (refine' set_made ?u ?F ?N ?U (IsMade.sub (by assumption) ?sb) ?ka ?tk ?z ?_; (case u => k_units); (case F => k_asm); (case N => k_asm); (case U => k_updF); (case sb => (intro p hp hcl; k_mem)); (case ka => k_mem); (case tk => first | exact items3 _ _ _ _ _ _ | exact items4 _ _ _ _ _ _ _ _); (case z => omega)); intro h' o' F' N' M'; (try dsimp only at N'); (try dsimp only at M')))
local macro_rules | `(tactic| walk_at "subscriptTail") => `(tactic| (k_here; (with_reducible show wpAny _ _ (subscriptTail _ _ (Value.ref _) (Value.ref _)) _ _ _); k_dflt (refine' item_made ?u ?N ?q ?M ?ka ?tk (atKey_stored _ _ (NoKey.ne (by assumption) ?ky)) ?_; (case u => k_units); (case N => k_asm); (case q => k_mem); (case M => assumption); (case ka => k_mem); (case tk => first | exact items3 _ _ _ _ _ _ | exact items4 _ _ _ _ _ _ _ _); (case ky => (simp; try omega))); (try dsimp only)))
local macro_rules | `(tactic| walk_at "exec Return some") => `(tactic| (exfalso; omega))
set_option linter.unusedVariables false
theorem to_net {h₀ h : Heap} {L : Addr} {a b c d e : Addr × Obj} {rest : List (Addr × Obj)} (N : News h₀ L h (a :: b :: c :: d :: e :: rest)) : News h₀ L h (c :: d :: a :: b :: e :: rest) := newsSub N (by (repeat' (first | with_reducible exact subRfl | exact subNil | refine subCons ?_ ?_ | refine subTail ?_ | with_reducible exact mem_head | refine List.mem_cons_of_mem _ ?_)))
theorem perm_net {a b c d e f : Addr × Obj} {rest : List (Addr × Obj)} : ∀ p ∈ a :: d :: e :: b :: c :: f :: rest, p.2.cls = .type "tuple" → p ∈ a :: b :: c :: d :: e :: f :: rest := fun p hp _ => (by (repeat' (first | with_reducible exact subRfl | exact subNil | refine subCons ?_ ?_ | refine subTail ?_ | with_reducible exact mem_head | refine List.mem_cons_of_mem _ ?_)) : ∀ p ∈ a :: d :: e :: b :: c :: f :: rest, p ∈ a :: b :: c :: d :: e :: f :: rest) p hp
theorem from_net {h₀ h : Heap} {L : Addr} {a b c d e f : Addr × Obj} {rest : List (Addr × Obj)} (N : News h₀ L h (a :: d :: e :: b :: c :: f :: rest)) : News h₀ L h (a :: b :: c :: d :: e :: f :: rest) := newsSub N (by (repeat' (first | with_reducible exact subRfl | exact subNil | refine subCons ?_ ?_ | refine subTail ?_ | with_reducible exact mem_head | refine List.mem_cons_of_mem _ ?_)))
theorem either0_ok (w : World) (mean : ExcName → Option Value) (mg mb : Str → Option Value) (dp un : Nat)
   (gd : Option (List Code)) (cn : Str) (nms : List (Str × NameKind)) (ig ic : Bool) (a : Addr) (ccd : Value) (cl : List (Str × Addr)) (outer : List Env) (A₀ : Around) (base h₀ : Heap) (L : Addr) (m : Str → Option Value) (s : Shared) (Q E : Value → Shared → Prop)
   (n : NA) (c : Int) (tc : Tok) (us : List Value) (nn : Nat) (om : Obj) (xs : Keys) (rest : List (Addr × Obj)) (y : Int) (tx ty : Tok)
   (OK : NetOk w n rest) (hlen : us.length ≤ 100) (hxs : xs.length ≤ 100) (hc : 2 ≤ c) (hdp : dp ≤ 400) (hun : un ≤ 4000)
   (M : IsMade thePr w rest om xs) (hy : 2 ≤ y)
   (B : Below A₀ base outer h₀) (F : Fr h₀ L s.heap m) (X : (Mine.hd.heap_1 w.params).In h₀) (N : News h₀ L s.heap (netLed w n c tc us nn om rest)) (T : Top Mine.view LL mean mg mb h₀)
   (H : ∀ h' tk' t, Fr h₀ L h' m → News h₀ L h' (netLed w n c tc us nn om rest) → Q (.int y t) { s with heap := h', toks := tk' }) :
   wpAny (model PySem.Challenge.rw_pq0452_01.row.prog w) (ktrTop dp un gd cn { kind := .function, names := nms, isGenerator := ig, isCoroutine := ic } L a ccd cl outer) (call (.ref 194) [.ref n.xg, .int 0 tx, .int y ty]) Q E s := by
  revert X; k_fill; intro X
  have OK2 := OK
  obtain ⟨hxn, hxg, hdg, hop, hoo, hls, hlm, hne1, hne2, hne3, hd1, hd2, hd3⟩ := OK2
  have H2 := H
  dsimp only [netLed, netDict, ent, tupleObj, gDict] at N hdg
  k_steps
  all_goals try (exfalso; omega)
  exact H _ _ _ (by k_asm) (by k_asm)
theorem either_ok (w : World) (mean : ExcName → Option Value) (mg mb : Str → Option Value) (dp un : Nat)
   (gd : Option (List Code)) (cn : Str) (nms : List (Str × NameKind)) (ig ic : Bool) (a : Addr) (ccd : Value) (cl : List (Str × Addr)) (outer : List Env) (A₀ : Around) (base h₀ : Heap) (L : Addr) (m : Str → Option Value) (s : Shared) (Q E : Value → Shared → Prop)
   (n : NA) (c : Int) (tc : Tok) (us : List Value) (nn : Nat) (om : Obj) (xs : Keys) (rest : List (Addr × Obj)) (x y : Int) (tx ty : Tok)
   (OK : NetOk w n rest) (hlen : us.length ≤ 100) (hxs : xs.length ≤ 100) (hc : 2 ≤ c) (hdp : dp ≤ 400) (hun : un ≤ 4000)
   (M : IsMade thePr w rest om xs) (hx : 2 ≤ x) (hy : 2 ≤ y) (hxy : x ≠ y) (hky : NoKey y xs)
   (B : Below A₀ base outer h₀) (F : Fr h₀ L s.heap m) (X : (Mine.hd.heap_1 w.params).In h₀) (N : News h₀ L s.heap (netLed w n c tc us nn om rest)) (T : Top Mine.view LL mean mg mb h₀)
   (H : NetTo w n rest us xs c ⟨false, c, [if y < x then y else x, if y > x then y else x]⟩ [.inl (Str.ofString "or"), .inr (if y < x then y else x), .inr (if y > x then y else x)] h₀ L m s Q) :
   wpAny (model PySem.Challenge.rw_pq0452_01.row.prog w) (ktrTop dp un gd cn { kind := .function, names := nms, isGenerator := ig, isCoroutine := ic } L a ccd cl outer) (call (.ref 194) [.ref n.xg, .int x tx, .int y ty]) Q E s := by
  revert X; k_fill; intro X
  have OK2 := OK
  obtain ⟨hxn, hxg, hdg, hop, hoo, hls, hlm, hne1, hne2, hne3, hd1, hd2, hd3⟩ := OK2
  have H2 := H
  dsimp only [netLed, netDict, ent, tupleObj, gDict] at N hdg
  k_steps
  all_goals try (exfalso; omega)
  refine Hold.mk ?_
  rename_i D3 _ lk _ _ D2 _ Fz Nz l2
  k_dflt (refine cell_ok _ (by k_asm) Fz (by k_asm) (to_net Nz) (by k_asm) (by k_mem) (.head _) (by (repeat' (first | assumption | (refine List.forall_mem_cons.mpr ⟨?_, ?_⟩) | k_ne))) (by (repeat' (first | assumption | (refine List.forall_mem_cons.mpr ⟨?_, ?_⟩) | k_ne))) hne1 hlen (by dsimp only [ktrTop, Around.deeper]; omega) (by dsimp only [ktrTop, Around.deeper]; omega) ?_)
  intro D1 t6 t7 tc2 nn2 h6 tk6 lD F6 N6
  k_lt lD
  clear Fz Nz
  dsimp only [netDict, ent, tupleObj] at N6
  (show wpAny _ _ _ _ _ _)
  k_steps
  rename_i kM _ _ _ _ kF kN Tc kX
  refine net_close (D1 := ?D1) H OK rfl (by k_asm) (from_net kN) (IsMade.sub (by assumption) perm_net) (.cons _ _ (.cons _ _ .nil)) ?l1 ?l2 ?l3
  all_goals (refine ⟨?_, ?_, ?_⟩ <;> omega)
set_option maxHeartbeats 4000000 in
theorem mux_ok (w : World) (mean : ExcName → Option Value) (mg mb : Str → Option Value) (dp un : Nat)
   (gd : Option (List Code)) (cn : Str) (nms : List (Str × NameKind)) (ig ic : Bool) (a : Addr) (ccd : Value) (cl : List (Str × Addr)) (outer : List Env) (A₀ : Around) (base h₀ : Heap) (L : Addr) (m : Str → Option Value) (s : Shared) (Q E : Value → Shared → Prop)
   (n : NA) (c : Int) (tc : Tok) (us : List Value) (nn : Nat) (om : Obj) (xs : Keys) (rest : List (Addr × Obj)) (x y z : Int) (tx ty tz : Tok)
   (OK : NetOk w n rest) (hlen : us.length ≤ 100) (hxs : xs.length ≤ 100) (hc : 2 ≤ c) (hdp : dp ≤ 400) (hun : un ≤ 4000)
   (M : IsMade thePr w rest om xs) (hx : 2 ≤ x) (hy : 2 ≤ y) (hz : 2 ≤ z) (hxy : x ≠ y) (hxz : x ≠ z) (hyz : y ≠ z) (hky : NoKey x xs)
   (B : Below A₀ base outer h₀) (F : Fr h₀ L s.heap m) (X : (Mine.hd.heap_1 w.params).In h₀) (N : News h₀ L s.heap (netLed w n c tc us nn om rest)) (T : Top Mine.view LL mean mg mb h₀)
   (H : NetTo w n rest us xs c ⟨true, c, [x, y, z]⟩ [.inl (Str.ofString "mux"), .inr x, .inr y, .inr z] h₀ L m s Q) :
   wpAny (model PySem.Challenge.rw_pq0452_01.row.prog w) (ktrTop dp un gd cn { kind := .function, names := nms, isGenerator := ig, isCoroutine := ic } L a ccd cl outer) (call (.ref 215) [.ref n.xg, .int x tx, .int y ty, .int z tz]) Q E s := by
  revert X; k_fill; intro X
  have OK2 := OK
  obtain ⟨hxn, hxg, hdg, hop, hoo, hls, hlm, hne1, hne2, hne3, hd1, hd2, hd3⟩ := OK2
  have H2 := H
  dsimp only [netLed, netDict, ent, tupleObj, gDict] at N hdg
  k_steps
  all_goals try (exfalso; omega)
  refine Hold.mk ?_
  rename_i D3 _ lk _ _ D2 _ Fz Nz l2
  k_dflt (refine cell_ok _ (by k_asm) Fz (by k_asm) (to_net Nz) (by k_asm) (by k_mem) (.head _) (by (repeat' (first | assumption | (refine List.forall_mem_cons.mpr ⟨?_, ?_⟩) | k_ne))) (by (repeat' (first | assumption | (refine List.forall_mem_cons.mpr ⟨?_, ?_⟩) | k_ne))) hne1 hlen (by dsimp only [ktrTop, Around.deeper]; omega) (by dsimp only [ktrTop, Around.deeper]; omega) ?_)
  intro D1 t6 t7 tc2 nn2 h6 tk6 lD F6 N6
  k_lt lD
  clear Fz Nz
  dsimp only [netDict, ent, tupleObj] at N6
  (show wpAny _ _ _ _ _ _)
  k_steps
  rename_i kM _ _ _ _ kF kN Tc kX
  refine net_close (D1 := ?D1) H OK rfl (by k_asm) (from_net kN) (IsMade.sub (by assumption) perm_net) (.cons _ _ (.cons _ _ (.cons _ _ .nil))) ?l1 ?l2 ?l3
  all_goals (refine ⟨?_, ?_, ?_⟩ <;> omega)
end Mine
end

/-! ## Fp -/
theorem Mine.reset_Fp : True := by
  w_top off
  first | walk1 | trivial
section
open PySem PySem.W PyProof.Rows PySem.Calls PySem.W.X
set_option Elab.async false
set_option maxRecDepth 100000
set_option maxHeartbeats 1000000
set_option rowWalk.seconds 0
set_option pp.deepTerms false
set_option pp.deepTerms.threshold 6
set_option pp.maxSteps 3000
namespace Mine
set_option linter.unusedVariables false
theorem itemAt {prog : Program} {w : World} {A : Around} {E : Value → Shared → Prop} {s : Shared} {h₀ : Heap} {L D : Addr} {news : List (Addr × Obj)} {n : Nat} {value slice : PySem.Expr} {vs : List Value} {k : Int} (j : Nat) {v : Value} {u : Tok} {Q : Value → Shared → Prop} (N : News h₀ L s.heap news) (hm : (D, W.listOf vs.toArray n) ∈ news) (hk : k = (j : Int)) (hj : vs[j]? = some v) (hb : j ≤ 1000)
    (h : Q v s) (hs : subscripted slice false (.ref D) (.int k u) = operate [.ref D, .int k u] (getItem (.ref D) (.int k u)) := by with_unfolding_all rfl) :
    wpAny (model prog w) A (subscriptTail value slice (.ref D) (.int k u)) Q E s := by
  have hl : s.heap.IsList D vs.toArray := ⟨_, (N _ hm).1, rfl, n, rfl⟩
  subst hk
  exact tail_any hl.typeIs slot_list_getitem.lookup (wpAny_getItem_list hl (by omega) (by omega) (x := v) (by simpa using hj) h) hs
theorem lenL {prog : Program} {w : World} {A : Around} {E : Value → Shared → Prop} {s : Shared} {h₀ : Heap} {L D : Addr} {news : List (Addr × Obj)} {nn k : Nat} {vs : List Value} {Q : Value → Shared → Prop} (N : News h₀ L s.heap news) (hm : (D, W.listOf vs.toArray nn) ∈ news) (hk : vs.length = k) (hb : k ≤ 1000)
    (h : Q (.int (k : Nat) (s.toks + 1)) { s with toks := s.toks + 1 + 1 }) : wpAny (model prog w) A (call (.builtin "len") [.ref D]) Q E s :=
  len_list (items := vs.toArray) ⟨_, (N _ hm).1, rfl, nn, rfl⟩ (by simp; omega) (by simpa [hk] using h)
local macro_rules | `(tactic| walk_at "call builtin:len") => `(tactic| (k_here; k_dflt (refine' lenL ?N ?q ?k ?b ?_; (case N => k_asm); (case q => k_mem); (case k => assumption); (case b => omega))))
local macro_rules | `(tactic| walk_at "pyIter ref") => `(tactic| ((with_reducible show wpAny _ _ (pyIter (Value.ref _)) (fun it s₂ => LoopAtV _ _ _ _ _ _ _ _ _ it s₂) _ _); refine Hold.out ?_))
local macro_rules | `(tactic| walk_at "call ref") => `(tactic| ((with_reducible show wpAny _ _ (call (Value.ref 215) [_, _, _, _]) _ _ _); refine Hold.out ?_))
local macro_rules | `(tactic| walk_at "call ref") => `(tactic| ((with_reducible show wpAny _ _ (call (Value.ref 194) [_, _, _]) _ _ _); refine Hold.out ?_))
local macro_rules | `(tactic| walk_at "subscriptTail") => `(tactic| (k_here; (with_reducible show wpAny _ _ (subscriptTail _ _ (Value.ref _) (Value.int (Nat.cast _) _)) _ _ _); k_dflt (refine' itemAt _ ?N ?m rfl ?j ?b ?_; (case N => k_asm); (case m => k_mem); (case j => assumption); (case b => omega))))
theorem flop_ok (w : World) (mean : ExcName → Option Value) (mg mb : Str → Option Value) (dp un : Nat)
   (gd : Option (List Code)) (cn : Str) (cs : Scope) (a : Addr) (ccd : Value) (cl : List (Str × Addr)) (outer : List Env) (A₀ : Around) (base h₀ : Heap) (L : Addr) (m : Str → Option Value) (s : Shared) (Q E : Value → Shared → Prop)
   (n : NA) (c : Int) (tc : Tok) (nn : Nat) (om : Obj) (rest : List (Addr × Obj)) (aa wa : Addr) (as ws : List Value) (an : List Int) (wn : List Wt) (na nw : Nat) (d q : Int) (td tq : Tok)
   (OK : NetOk w n rest) (hdp : dp ≤ 350) (hun : un ≤ 3000) (hk : cs.kind = .function)
   (M : IsMade thePr w rest om []) (haa : (aa, W.listOf as.toArray na) ∈ rest) (hwa : (wa, W.listOf ws.toArray nw) ∈ rest) (hI : IntsAre as an) (hW : WtsAre ws wn) (hl : wn.length = an.length) (hn3 : an.length ≤ 3)
   (hnd : an.Nodup) (ha2 : ∀ a ∈ an, 2 ≤ a ∧ a < c ∧ a ≠ d ∧ a ≠ q) (hd : 2 ≤ d ∧ d < c) (hq : 2 ≤ q ∧ q < c) (hdq : d ≠ q)
   (B : Below A₀ base outer h₀) (F : Fr h₀ L s.heap m) (X : (Mine.hd.heap_1 w.params).In h₀) (N : News h₀ L s.heap (netLed w n c tc [] nn om rest)) (T : Top Mine.view LL mean mg mb h₀)
   (H : ∀ t td tr tl tc' us' nn' om' rest' st h' tk', st = (an.zip wn).foldl (fstep q) ⟨d, 0, 0, c, []⟩ → Fr h₀ L h' m → News h₀ L h' ((t, tupleObj [.int st.d td, .int st.r tr, .int st.l tl]) :: netLed w n st.c tc' us' nn' om' rest') → (∀ p ∈ netLed w n st.c tc' us' nn' om' rest', p.1 < t) → NetOk w n rest' → (∀ p ∈ rest, p ∈ rest') → CellsAre rest' st.cells us' → Q (.ref t) { s with heap := h', toks := tk' }) :
   wpAny (model PySem.Challenge.rw_pq0452_01.row.prog w) (ktrTop dp un gd cn cs L a ccd cl outer) (call (.ref 68) [.ref n.xg, .ref aa, .ref wa, .int d td, .int q tq]) Q E s := by
  revert X; k_fill; intro X
  refine wpAny_call ?_
  k_dflt ktr_enter
  have hal : as.length = an.length := hI.length
  k_steps
  refine Hold.mk ?_
  rename_i hR F1 N1 hK
  have hws := hW.length
  refine range_V (σ := FS × Tok × Tok × Tok) (n := an.length) [(Str.ofString "d", fun p => Value.int p.1.d p.2.1), (Str.ofString "raised", fun p => Value.int p.1.r p.2.2.1), (Str.ofString "lowered", fun p => Value.int p.1.l p.2.2.2)] [Str.ofString "d", Str.ofString "raised", Str.ofString "lowered"]
    (fun i p nx => ∃ tc us nn om xs rest', nx = netLed w n p.1.c tc us nn om rest' ∧ NetOk w n rest' ∧ (∀ q ∈ rest, q ∈ rest') ∧ CellsAre rest' p.1.cells us ∧ IsMade thePr w rest' om xs ∧ xs.length ≤ i ∧ (∀ a ∈ an.drop i, NoKey a xs) ∧ p.1 = ((an.zip wn).take i).foldl (fstep q) ⟨d, 0, 0, c, []⟩ ∧ FOk an q i p.1)
    rfl hR (rangeSm (by omega)) (rangeSz _) F1 N1 (⟨d, 0, 0, c, []⟩, _, _, _) (List.forall_mem_cons.mpr ⟨rfl, List.forall_mem_cons.mpr ⟨rfl, List.forall_mem_cons.mpr ⟨rfl, fun _ h => nomatch h⟩⟩⟩) ⟨_, [], _, _, [], rest, rfl, OK, fun _ h => h, .nil, M, Nat.zero_le _, (fun _ _ _ h => nomatch h), rfl, ⟨hd.1, hd.2, hq.2, hdq, .inl rfl, .inl rfl, by dsimp only; omega, by dsimp only; omega, Nat.le_refl _, fun a ha => ⟨(ha2 a ha).1, (ha2 a ha).2.1, (ha2 a ha).2.2.2⟩, fun a ha => ?_⟩⟩ ?_ ?_
  · have := ha2 a (List.mem_of_mem_drop ha)
    exact ⟨this.2.2.1, by dsimp only; omega, by dsimp only; omega⟩
  · rintro i t ⟨⟨sd, sr, sl, sc, scl⟩, t1, t2, t3⟩ u nx h tk I oI hcI hi ⟨tc', us, nn', om', xs, rest', rfl, OK', hsub, hC, M', hxl, hNK, hst, hF⟩ hoff F' N' R1 hR1
    obtain ⟨ta, hta⟩ := hI.get i an[i] (by simp [hi])
    have hiw : i < wn.length := by omega
    obtain ⟨wv, hwv, hwi⟩ := hW.at (List.getElem?_eq_getElem hiw)
    have haa' := hsub _ haa
    have hwa' := hsub _ hwa
    have hdI := neN (hoff _ (.head _))
    have hlI := neN (hoff _ (.tail _ (.head _)))
    have hmI := neN (hoff _ (.tail _ (.tail _ (.head _))))
    dsimp only at hdI hlI hmI F'
    clear F1 N1
    have OK2 := OK'
    obtain ⟨hxn, hxg, hdg, hop, hoo, hls, hlm, hne1, hne2, hne3, hd1, hd2, hd3⟩ := OK2
    dsimp only [netLed, netDict, ent, tupleObj, gDict] at N' hdg
    have hF2 := hF.step hnd hi wn[i]
    have hst2 : fstep q ⟨sd, sr, sl, sc, scl⟩ (an[i], wn[i]) = ((an.zip wn).take (i + 1)).foldl (fstep q) ⟨d, 0, 0, c, []⟩ := by
      rw [fold_step hi hiw]; exact congrArg (fun z => fstep q z (an[i], wn[i])) hst
    have hlater : ∀ a ∈ an.drop (i + 1), NoKey a xs ∧ a ≠ an[i] ∧ a ≠ sd ∧ a ≠ sr ∧ a ≠ sl ∧ a ≠ q := fun a ha =>
      ⟨hNK a (drop_later ha), drop_ne hnd hi ha, (hF.ad a (drop_later ha)).1, (hF.ad a (drop_later ha)).2.1, (hF.ad a (drop_later ha)).2.2, (hF.ac a (List.mem_of_mem_drop ha)).2.2⟩
    have hhere := hF.ad _ (drop_here hi)
    have hac := hF.ac _ (List.getElem_mem hi)
    have hNh := hNK _ (drop_here hi)
    have hcl := hC.length
    obtain ⟨fd2, fdc, fqc, fdq, fr2, fl2, frc, flc, fcl, -, -⟩ := id hF
    dsimp only at fd2 fdc fqc fdq fr2 fl2 frc flc fcl hhere hcl hac
    have hwant := hwi
    have K1 : IsMade thePr w ((I, oI) :: rest') om' xs := M'.keep1 _
    have OK1 : NetOk w n ((I, oI) :: rest') := OK'.more _ (Ne.symm hdI) (Ne.symm hlI) (Ne.symm hmI)
    have hoffr : ∀ p ∈ rest', p.1 ≠ I := fun p hp => hoff p (.tail _ (.tail _ (.tail _ hp)))
    generalize hai : an[i] = act at *
    generalize hwt : wn[i] = wt at *
    have mark : True := trivial
    cases wt with
    | non =>
      have hwv' : ws[i]? = some .none := by rw [hwv]; exact congrArg some hwi
      clear hwv
      (show wpAny _ _ _ _ _ _)
      k_steps
      refine Hold.mk ?_
      k_dflt (refine' mux_ok w mean mg mb _ _ _ _ _ _ _ _ _ _ _ _ _ _ _ _ _ _ _ n sc tc' us nn' om' xs ((I, oI) :: rest') act sd q _ _ _ OK1 ?m1 ?m2 ?m3 ?m4 ?m5 K1 ?m6 ?m7 ?m8 ?m9 ?m10 ?m11 hNh ?m12 F' ?m13 (newsSub N' sub_rot3) ?m14 ?m15)
      (case m1 => omega)
      (case m2 => omega)
      (case m3 => omega)
      (case m4 => (dsimp only [ktrTop, Around.deeper]; omega))
      (case m5 => (dsimp only [ktrTop, Around.deeper]; omega))
      (case m6 => omega)
      (case m7 => omega)
      (case m8 => omega)
      (case m9 => omega)
      (case m10 => omega)
      (case m11 => omega)
      (case m12 => k_asm)
      (case m13 => k_asm)
      (case m14 => k_asm)
      intro tc2 t2' v2 om2 nn2 xs2 rest2 h2 tk2 F2 N2 OK2 hsub2 hcell M2 hlen2 hkeys
      obtain ⟨rest3, N3, OK3, off3, sub3, hC3, M3⟩ := net_turn hcI OK' hdI hlI hmI hoffr N2 OK2 hsub2 ((hC.sub fun p hp => hsub2 p (.tail _ hp)).snoc hcell) M2
      clear F' N'
      dsimp only [netLed, netDict, ent, tupleObj, gDict] at N3
      (show wpAny _ _ _ _ _ _)
      k_steps
      refine hR1 _ _ ?_
      refine VEnd.next (st := (⟨sc, sr, sl, sc + 1, scl ++ [⟨true, sc, [act, sd, q]⟩]⟩, t2', t2, t3)) (by k_asm) (by k_asm) off3 (List.forall_mem_cons.mpr ⟨rfl, List.forall_mem_cons.mpr ⟨rfl, List.forall_mem_cons.mpr ⟨rfl, fun _ h => nomatch h⟩⟩⟩) (by (intro z k1 k2; (have k4 := beq_eq_false_iff_ne.mpr k1); (simp only [List.contains_cons, List.contains_nil, Bool.or_false, Bool.or_eq_false_iff] at k2); (have k3 := k2); (simp only [beq_eq_false_iff_ne, ne_eq] at k1 k2); (simp [k1, k2, k3, k4, List.lookup_cons]))) ⟨tc2, us ++ [v2], nn2, om2, xs2, rest3, rfl, OK3, fun q hq => sub3 _ (hsub _ hq), hC3, M3, by omega, fun a ha x hx => ?_, ?_, ?_⟩
      · have hl := hlater a ha
        rcases hkeys x hx with ⟨y, hy, e⟩ | e
        · rw [e]; exact hl.1 y hy
        · rw [e]; simp only [List.mem_cons, reduceCtorEq, Sum.inr.injEq, List.not_mem_nil, or_false, false_or]; first | omega | (split <;> split <;> omega)
      · rw [← hst2]; first | rfl | (simp only [fstep, eitherP]; rw [if_neg hz])
      · first | exact hF2 | (have hF3 := hF2; simp only [fstep, eitherP] at hF3; rw [if_neg hz] at hF3; exact hF3)
    | one =>
      obtain ⟨tw, rfl⟩ := hwi
      by_cases hz : sr = 0
      · subst hz
        (show wpAny _ _ _ _ _ _)
        k_steps
        refine Hold.mk ?_
        k_dflt (refine' either0_ok w mean mg mb _ _ _ _ _ _ _ _ _ _ _ _ _ _ _ _ _ _ _ n sc tc' us nn' om' xs ((I, oI) :: rest') act _ _ OK1 ?ez1 ?ez2 ?ez3 ?ez4 ?ez5 K1 ?ez6 ?ez12 F' ?ez13 (newsSub N' sub_rot3) ?ez14 ?ez15)
        (case ez1 => omega)
        (case ez2 => omega)
        (case ez3 => omega)
        (case ez4 => (dsimp only [ktrTop, Around.deeper]; omega))
        (case ez5 => (dsimp only [ktrTop, Around.deeper]; omega))
        (case ez6 => omega)
        (case ez12 => k_asm)
        (case ez13 => k_asm)
        (case ez14 => k_asm)
        intro h2 tk2 t2' F2 N2
        obtain ⟨rest3, N3, OK3, off3, sub3, hC3, M3⟩ := net_turn hcI OK' hdI hlI hmI hoffr N2 OK1 (fun p hp => hp) (hC.sub fun p hp => .tail _ hp) K1
        clear F' N'
        dsimp only [netLed, netDict, ent, tupleObj, gDict] at N3
        (show wpAny _ _ _ _ _ _)
        k_steps
        refine hR1 _ _ ?_
        refine VEnd.next (st := (⟨sd, act, sl, sc, scl⟩, t1, t2', t3)) (by k_asm) (by k_asm) off3 (List.forall_mem_cons.mpr ⟨rfl, List.forall_mem_cons.mpr ⟨rfl, List.forall_mem_cons.mpr ⟨rfl, fun _ h => nomatch h⟩⟩⟩) (by (intro z k1 k2; (have k4 := beq_eq_false_iff_ne.mpr k1); (simp only [List.contains_cons, List.contains_nil, Bool.or_false, Bool.or_eq_false_iff] at k2); (have k3 := k2); (simp only [beq_eq_false_iff_ne, ne_eq] at k1 k2); (simp [k1, k2, k3, k4, List.lookup_cons]))) ⟨tc', us, nn', om', xs, rest3, rfl, OK3, fun q hq => sub3 _ (hsub _ hq), hC3, M3, by omega, fun a ha => (hlater a ha).1, ?_, ?_⟩
        · rw [← hst2]; rfl
        · exact hF2
      · (show wpAny _ _ _ _ _ _)
        k_steps
        refine Hold.mk ?_
        k_dflt (refine' either_ok w mean mg mb _ _ _ _ _ _ _ _ _ _ _ _ _ _ _ _ _ _ _ n sc tc' us nn' om' xs ((I, oI) :: rest') sr act _ _ OK1 ?e1 ?e2 ?e3 ?e4 ?e5 K1 ?e6 ?e7 ?e8 hNh ?e12 F' ?e13 (newsSub N' sub_rot3) ?e14 ?e15)
        (case e1 => omega)
        (case e2 => omega)
        (case e3 => omega)
        (case e4 => (dsimp only [ktrTop, Around.deeper]; omega))
        (case e5 => (dsimp only [ktrTop, Around.deeper]; omega))
        (case e6 => omega)
        (case e7 => omega)
        (case e8 => omega)
        (case e12 => k_asm)
        (case e13 => k_asm)
        (case e14 => k_asm)
        intro tc2 t2' v2 om2 nn2 xs2 rest2 h2 tk2 F2 N2 OK2 hsub2 hcell M2 hlen2 hkeys
        obtain ⟨rest3, N3, OK3, off3, sub3, hC3, M3⟩ := net_turn hcI OK' hdI hlI hmI hoffr N2 OK2 hsub2 ((hC.sub fun p hp => hsub2 p (.tail _ hp)).snoc hcell) M2
        clear F' N'
        dsimp only [netLed, netDict, ent, tupleObj, gDict] at N3
        (show wpAny _ _ _ _ _ _)
        k_steps
        refine hR1 _ _ ?_
        refine VEnd.next (st := (⟨sd, sc, sl, sc + 1, scl ++ [⟨false, sc, [if act < sr then act else sr, if act > sr then act else sr]⟩]⟩, t1, t2', t3)) (by k_asm) (by k_asm) off3 (List.forall_mem_cons.mpr ⟨rfl, List.forall_mem_cons.mpr ⟨rfl, List.forall_mem_cons.mpr ⟨rfl, fun _ h => nomatch h⟩⟩⟩) (by (intro z k1 k2; (have k4 := beq_eq_false_iff_ne.mpr k1); (simp only [List.contains_cons, List.contains_nil, Bool.or_false, Bool.or_eq_false_iff] at k2); (have k3 := k2); (simp only [beq_eq_false_iff_ne, ne_eq] at k1 k2); (simp [k1, k2, k3, k4, List.lookup_cons]))) ⟨tc2, us ++ [v2], nn2, om2, xs2, rest3, rfl, OK3, fun q hq => sub3 _ (hsub _ hq), hC3, M3, by omega, fun a ha x hx => ?_, ?_, ?_⟩
        · have hl := hlater a ha
          rcases hkeys x hx with ⟨y, hy, e⟩ | e
          · rw [e]; exact hl.1 y hy
          · rw [e]; simp only [List.mem_cons, reduceCtorEq, Sum.inr.injEq, List.not_mem_nil, or_false, false_or]; first | omega | (split <;> split <;> omega)
        · rw [← hst2]; first | rfl | (simp only [fstep, eitherP]; rw [if_neg hz])
        · first | exact hF2 | (have hF3 := hF2; simp only [fstep, eitherP] at hF3; rw [if_neg hz] at hF3; exact hF3)
    | zero =>
      obtain ⟨tw, rfl⟩ := hwi
      by_cases hz : sl = 0
      · subst hz
        (show wpAny _ _ _ _ _ _)
        k_steps
        refine Hold.mk ?_
        k_dflt (refine' either0_ok w mean mg mb _ _ _ _ _ _ _ _ _ _ _ _ _ _ _ _ _ _ _ n sc tc' us nn' om' xs ((I, oI) :: rest') act _ _ OK1 ?oz1 ?oz2 ?oz3 ?oz4 ?oz5 K1 ?oz6 ?oz12 F' ?oz13 (newsSub N' sub_rot3) ?oz14 ?oz15)
        (case oz1 => omega)
        (case oz2 => omega)
        (case oz3 => omega)
        (case oz4 => (dsimp only [ktrTop, Around.deeper]; omega))
        (case oz5 => (dsimp only [ktrTop, Around.deeper]; omega))
        (case oz6 => omega)
        (case oz12 => k_asm)
        (case oz13 => k_asm)
        (case oz14 => k_asm)
        intro h2 tk2 t2' F2 N2
        obtain ⟨rest3, N3, OK3, off3, sub3, hC3, M3⟩ := net_turn hcI OK' hdI hlI hmI hoffr N2 OK1 (fun p hp => hp) (hC.sub fun p hp => .tail _ hp) K1
        clear F' N'
        dsimp only [netLed, netDict, ent, tupleObj, gDict] at N3
        (show wpAny _ _ _ _ _ _)
        k_steps
        refine hR1 _ _ ?_
        refine VEnd.next (st := (⟨sd, sr, act, sc, scl⟩, t1, t2, t2')) (by k_asm) (by k_asm) off3 (List.forall_mem_cons.mpr ⟨rfl, List.forall_mem_cons.mpr ⟨rfl, List.forall_mem_cons.mpr ⟨rfl, fun _ h => nomatch h⟩⟩⟩) (by (intro z k1 k2; (have k4 := beq_eq_false_iff_ne.mpr k1); (simp only [List.contains_cons, List.contains_nil, Bool.or_false, Bool.or_eq_false_iff] at k2); (have k3 := k2); (simp only [beq_eq_false_iff_ne, ne_eq] at k1 k2); (simp [k1, k2, k3, k4, List.lookup_cons]))) ⟨tc', us, nn', om', xs, rest3, rfl, OK3, fun q hq => sub3 _ (hsub _ hq), hC3, M3, by omega, fun a ha => (hlater a ha).1, ?_, ?_⟩
        · rw [← hst2]; rfl
        · exact hF2
      · (show wpAny _ _ _ _ _ _)
        k_steps
        refine Hold.mk ?_
        k_dflt (refine' either_ok w mean mg mb _ _ _ _ _ _ _ _ _ _ _ _ _ _ _ _ _ _ _ n sc tc' us nn' om' xs ((I, oI) :: rest') sl act _ _ OK1 ?o1 ?o2 ?o3 ?o4 ?o5 K1 ?o6 ?o7 ?o8 hNh ?o12 F' ?o13 (newsSub N' sub_rot3) ?o14 ?o15)
        (case o1 => omega)
        (case o2 => omega)
        (case o3 => omega)
        (case o4 => (dsimp only [ktrTop, Around.deeper]; omega))
        (case o5 => (dsimp only [ktrTop, Around.deeper]; omega))
        (case o6 => omega)
        (case o7 => omega)
        (case o8 => omega)
        (case o12 => k_asm)
        (case o13 => k_asm)
        (case o14 => k_asm)
        intro tc2 t2' v2 om2 nn2 xs2 rest2 h2 tk2 F2 N2 OK2 hsub2 hcell M2 hlen2 hkeys
        obtain ⟨rest3, N3, OK3, off3, sub3, hC3, M3⟩ := net_turn hcI OK' hdI hlI hmI hoffr N2 OK2 hsub2 ((hC.sub fun p hp => hsub2 p (.tail _ hp)).snoc hcell) M2
        clear F' N'
        dsimp only [netLed, netDict, ent, tupleObj, gDict] at N3
        (show wpAny _ _ _ _ _ _)
        k_steps
        refine hR1 _ _ ?_
        refine VEnd.next (st := (⟨sd, sr, sc, sc + 1, scl ++ [⟨false, sc, [if act < sl then act else sl, if act > sl then act else sl]⟩]⟩, t1, t2, t2')) (by k_asm) (by k_asm) off3 (List.forall_mem_cons.mpr ⟨rfl, List.forall_mem_cons.mpr ⟨rfl, List.forall_mem_cons.mpr ⟨rfl, fun _ h => nomatch h⟩⟩⟩) (by (intro z k1 k2; (have k4 := beq_eq_false_iff_ne.mpr k1); (simp only [List.contains_cons, List.contains_nil, Bool.or_false, Bool.or_eq_false_iff] at k2); (have k3 := k2); (simp only [beq_eq_false_iff_ne, ne_eq] at k1 k2); (simp [k1, k2, k3, k4, List.lookup_cons]))) ⟨tc2, us ++ [v2], nn2, om2, xs2, rest3, rfl, OK3, fun q hq => sub3 _ (hsub _ hq), hC3, M3, by omega, fun a ha x hx => ?_, ?_, ?_⟩
        · have hl := hlater a ha
          rcases hkeys x hx with ⟨y, hy, e⟩ | e
          · rw [e]; exact hl.1 y hy
          · rw [e]; simp only [List.mem_cons, reduceCtorEq, Sum.inr.injEq, List.not_mem_nil, or_false, false_or]; first | omega | (split <;> split <;> omega)
        · rw [← hst2]; first | rfl | (simp only [fstep, eitherP]; rw [if_neg hz])
        · first | exact hF2 | (have hF3 := hF2; simp only [fstep, eitherP] at hF3; rw [if_neg hz] at hF3; exact hF3)
  · rintro u ⟨⟨sd, sr, sl, sc, scl⟩, t1, t2, t3⟩ v nx h tk ⟨tc', us, nn', om', xs, rest', rfl, OK', hsub, hC, M', hxl, hNK, hst, hF⟩ F' N'
    dsimp only at F'
    clear F1 N1
    dsimp only [netLed, netDict, ent, tupleObj, gDict] at N'
    (show wpAny _ _ _ _ _ _)
    k_steps
    rename_i l1 kF kN Tc kX
    rw [List.take_of_length_le (by simp; omega)] at hst
    refine H _ t1 t2 t3 tc' us nn' om' rest' ⟨sd, sr, sl, sc, scl⟩ _ _ hst kF kN ?_ OK' hsub hC
    intro p hp
    simp only [List.mem_cons] at hp
    rcases hp with rfl | rfl | rfl | hp
    · exact l1.1
    · exact l1.2.1
    · exact l1.2.2.1
    · exact tb_ltOf l1.2.2.2 p hp
end Mine
end

/-! ## Bt -/
theorem Mine.reset_Bt : True := by
  w_top off
  first | walk1 | trivial
section
open PySem PySem.W PyProof.Rows PySem.Calls PySem.W.X
set_option Elab.async false
set_option maxRecDepth 100000
set_option maxHeartbeats 1000000
set_option rowWalk.seconds 0
set_option pp.deepTerms false
set_option pp.deepTerms.threshold 6
set_option pp.maxSteps 3000
namespace Mine
set_option linter.unusedVariables false
/-- what a net bears, by the cells -/
inductive Ev (cells : List PCell) (kn : Int → Option Int) : Nat → Int → Int → Prop
  | known {k net v} : kn net = some v → v = 0 ∨ v = 1 → Ev cells kn k net v
  | gor {k net x y va vb pre post} : kn net = none → cells = pre ++ ⟨false, net, [x, y]⟩ :: post → (∀ c ∈ pre, c.out ≠ net) → Ev cells kn k x va → Ev cells kn k y vb → Ev cells kn (k + 1) net (if va < vb then vb else va)
  | gmux {k net x y z vs va vb pre post} : kn net = none → cells = pre ++ ⟨true, net, [x, y, z]⟩ :: post → (∀ c ∈ pre, c.out ≠ net) → Ev cells kn k x vs → Ev cells kn k y va → Ev cells kn k z vb → Ev cells kn (k + 1) net (if vs = 0 then va else vb)
theorem Ev.bit {cells : List PCell} {kn : Int → Option Int} {k : Nat} {net v : Int} (h : Ev cells kn k net v) : v = 0 ∨ v = 1 := by
  induction h with
  | known _ h => exact h
  | gor _ _ _ _ _ ha hb => split <;> assumption
  | gmux _ _ _ _ _ _ _ ha hb => split <;> assumption
def knOf (kvs : List (Int × Value)) (net : Int) : Option Int := match valueAt kvs net with
  | some (.int v _) => some v
  | _ => none
/-- what a call of _law_bit hands back -/
def BitC (w : World) (mean : ExcName → Option Value) (mg mb : Str → Option Value) (xn dn li lo lc ka : Addr) (nm : Value) (c : Int) (tc t1 t2 t3 t4 t5 : Tok) (us : List Value) (nn : Nat) (ko : Obj) (kvs : List (Int × Value)) (cells : List PCell) (k : Nat) : Prop :=
  ∀ (dp un : Nat) (gd : Option (List Code)) (cn : Str) (nms : List (Str × NameKind)) (ig ic : Bool) (mr : List (Str × Const)) (a : Addr) (ccd : Value) (cl : List (Str × Addr)) (outer : List Env) (A₀ : Around) (base h₀ : Heap) (L : Addr) (m : Str → Option Value) (s : Shared) (Q E : Value → Shared → Prop) (news : List (Addr × Obj)) (net v : Int) (tn : Tok),
   (xn, instObj 141 dn) ∈ news → (dn, netDict w nm c tc t1 t2 t3 t4 t5 li lo lc) ∈ news → (lc, W.listOf us.toArray nn) ∈ news → (ka, ko) ∈ news → CellsAre news cells us →
   dp + 5 * k ≤ 400 → un + 20 * k ≤ 4000 → Below A₀ base outer h₀ → Fr h₀ L s.heap m → (Mine.hd.heap_1 w.params).In h₀ → News h₀ L s.heap news → Top Mine.view LL mean mg mb h₀ →
   Ev cells (knOf kvs) k net v →
   (∀ t h' tk', Fr h₀ L h' m → News h₀ L h' news → Q (.int v t) { s with heap := h', toks := tk' }) →
   wpAny (model PySem.Challenge.rw_pq0452_01.row.prog w) (ktrTop dp un gd cn { kind := .function, names := nms, isGenerator := ig, isCoroutine := ic, more := mr } L a ccd cl outer) (call (.ref 241) [.ref xn, .int net tn, .ref ka]) Q E s
local macro_rules | `(tactic| walk_at "compareOp In int ref") => `(tactic| (k_here; k_dflt (refine kda_in (knd := PySem.intKind _ _) (by k_asm) (by k_mem) (by assumption) (by assumption) (intKind_is _ _ _ _) _ (by assumption) ?_)))
local macro_rules | `(tactic| walk_at "subscriptTail") => `(tactic| (k_here; (with_reducible show wpAny _ _ (subscriptTail _ _ (Value.ref _) (Value.int _ _)) _ _ _); k_dflt (refine kda_item (knd := PySem.intKind _ _) (by k_asm) (by k_mem) (by assumption) (intKind_is _ _ _ _) (by assumption) ?_)))
local macro_rules | `(tactic| walk_at "exec For Tuple Attribute cons nil") => `(tactic| (k_here; (rename Fr _ _ _ _ => lF'); (with_unfolding_all refine' For_turns lF' ?_; k_whole)))
local macro_rules | `(tactic| walk_at "pyIter ref") => `(tactic| ((with_reducible show wpAny _ _ (pyIter (Value.ref _)) (fun it s₂ => TurnsAt _ _ _ _ _ _ _ _ _ it s₂) _ _); refine Hold.out ?_))
local macro_rules | `(tactic| walk_at "exec Assign cons ListComp") => `(tactic| (k_here; k_dflt (refine Assign_Comp_tup (F₀ := by k_asm) (by rfl) (by with_unfolding_all rfl) (by with_unfolding_all rfl) (by decide) (by rfl) (by decide) (by rfl) (by rfl) (by rfl) ?_)))
local macro_rules | `(tactic| walk_at "CompSrcU") => `(tactic| (k_here; k_dflt (refine CompSrcU.intro (by rfl) (by k_asm) (by k_asm) (by k_mem) (by first | decide | (simp; done)) ?_); intro g'; refine Hold.out ?_))
theorem ints2 {vs : List Value} {x y : Int} (h : IntsAre vs [x, y]) : ∃ ta tb, vs = [.int x ta, .int y tb] := by
  cases h with
  | cons _ ta h => cases h with
    | cons _ tb h => cases h; exact ⟨_, _, rfl⟩
theorem ints3 {vs : List Value} {x y z : Int} (h : IntsAre vs [x, y, z]) : ∃ ta tb tc, vs = [.int x ta, .int y tb, .int z tc] := by
  cases h with
  | cons _ ta h => obtain ⟨_, _, rfl⟩ := ints2 h; exact ⟨_, _, _, rfl⟩
def Mark : Prop := True
local macro_rules | `(tactic| walk_at "call ref") => `(tactic| ((with_reducible show wpAny _ _ (call (Value.ref 241) [_, _, _]) _ _ _); (with_reducible rename Mark => mk'); refine Hold.out ?_))
local macro_rules | `(tactic| walk_at "subscriptTail") => `(tactic| (k_here; (with_reducible show wpAny _ _ (subscriptTail _ _ (Value.ref _) (Value.str _ _)) _ _ _); k_dflt (refine' kdt_tail (knd := PySem.strKind _ _) ?N ?q ?d (kdt_getItem (knd := PySem.strKind _ _) ?N2 ?q2 ?d2 (strKind_is _ _ _ _) ?v ?_); (case N => k_asm); (case N2 => k_asm); (case q => k_mem); (case q2 => k_mem); (case d => assumption); (case d2 => assumption); (case v => with_unfolding_all rfl))))
section
variable {h₀ : Heap} {L I : Addr} {oI : Obj} {stored : List Str} {m₀ m' : Str → Option Value} {news : List (Addr × Obj)} {P : Prop} {s₁ s₂ : Shared} {Q : Flow → Shared → Prop} {v : Value} {h' : Heap} {tk : Nat}
theorem SEnd.ret (h : Q (.ret v) s₂) : SEnd h₀ L I oI stored m₀ news P s₁ Q (.ret v) s₂ := h
theorem SEnd.next (F : Fr h₀ L h' m') (N : News h₀ L h' ((I, oI) :: news)) (hm : ∀ y, stored.contains y = false → m' y = m₀ y) (hP : P) : SEnd h₀ L I oI stored m₀ news P s₁ Q .next { s₁ with heap := h', toks := tk } := ⟨h', tk, m', rfl, F, N, hm, hP⟩
end
theorem maxIs {M a b : Int} (h : M = a ∨ M = b) (h2 : a ≤ M ∧ b ≤ M) : M = if a < b then b else a := by split <;> omega
theorem CellsAre.at {rest : List (Addr × Obj)} {pcs : List PCell} {vs : List Value} (h : CellsAre rest pcs vs) : ∀ {i : Nat} {v : Value}, vs[i]? = some v → ∃ pc, pcs[i]? = some pc ∧ CellAt rest pc v := by
  induction h with
  | nil => intro i v e; simp at e
  | cons h1 _ ih =>
    intro i v e
    cases i with
    | zero => simp at e; subst e; exact ⟨_, rfl, h1⟩
    | succ i => exact ih (by simpa using e)
theorem itemAtB {prog : Program} {w : World} {A : Around} {E : Value → Shared → Prop} {s : Shared} {h₀ : Heap} {L D : Addr} {news : List (Addr × Obj)} {n : Nat} {value slice : PySem.Expr} {vs : List Value} {k : Int} (j : Nat) {v : Value} {u : Tok} {Q : Value → Shared → Prop} (N : News h₀ L s.heap news) (hm : (D, W.listOf vs.toArray n) ∈ news) (hk : k = (j : Int)) (hj : vs[j]? = some v) (hb : j ≤ 1000)
    (h : Q v s) (hs : subscripted slice false (.ref D) (.int k u) = operate [.ref D, .int k u] (getItem (.ref D) (.int k u)) := by with_unfolding_all rfl) :
    wpAny (model prog w) A (subscriptTail value slice (.ref D) (.int k u)) Q E s := by
  have hl : s.heap.IsList D vs.toArray := ⟨_, (N _ hm).1, rfl, n, rfl⟩
  subst hk
  exact tail_any hl.typeIs slot_list_getitem.lookup (wpAny_getItem_list hl (by omega) (by omega) (x := v) (by simpa using hj) h) hs
set_option maxHeartbeats 8000000 in
theorem bit_step (w : World) (mean : ExcName → Option Value) (mg mb : Str → Option Value) (xn dn li lo lc ka : Addr) (nm : Value) (c : Int) (tc t1 t2 t3 t4 t5 : Tok) (us : List Value) (nn : Nat) (ko : Obj) (kvs : List (Int × Value)) (cells : List PCell) (k : Nat)
   (hko : ko.IsDictOf (intKind thePr w) kvs) (hlo : (ka == sysModules) = false) (hint : ∀ n v, valueAt kvs n = some v → ∃ i t, v = .int i t)
   (ih : ∀ j, j + 1 = k → BitC w mean mg mb xn dn li lo lc ka nm c tc t1 t2 t3 t4 t5 us nn ko kvs cells j) : BitC w mean mg mb xn dn li lo lc ka nm c tc t1 t2 t3 t4 t5 us nn ko kvs cells k := by
  intro dp un gd cn nms ig ic mr a ccd cl outer A₀ base h₀ L m s Q E news net v tn hxn hdn hlc hka hC hdp hun B F X N T hE H
  revert X; k_fill; intro X
  dsimp only [netDict, ent] at hdn
  have hC' := hC
  cases hE with
  | known hk hv =>
    obtain ⟨tv, hval⟩ : ∃ tv, valueAt kvs net = some (.int v tv) := by
      unfold knOf at hk
      split at hk
      · rename_i h; injection hk with hk; subst hk; exact ⟨_, h⟩
      · cases hk
    have hsome : (valueAt kvs net).isSome = true := by rw [hval]; rfl
    have H2 := H
    k_steps
    rename_i kF kN Tc kX
    exact H2 _ _ _ kF (newsSub kN fun p hp => .tail _ (.tail _ hp))
  | @gor k' _ x y va vb pre post hk hc hp ha hb =>
    have hval : valueAt kvs net = none := by
      cases h : valueAt kvs net with
      | none => rfl
      | some v => obtain ⟨i, t, rfl⟩ := hint _ _ h; simp [knOf, h] at hk
    have hsome : (valueAt kvs net).isSome = false := by rw [hval]; rfl
    have H2 := H
    k_steps
    refine Hold.mk ?_
    rename_i g' L' hh0 tk0 FG' lF' B' X' T' l1 o' o2' d1' d2' N1
    refine list_T [Str.ofString "kind", Str.ofString "out", Str.ofString "ins", Str.ofString "param"] (fun i => i ≤ pre.length) rfl (by k_mem) lF' N1 (Nat.zero_le _) ?_ ?_
    · intro i v u h tk I oI hvi hPi hoff F' N' R hR
      have hcl := hC.length
      obtain ⟨pc, hpc, hca⟩ := hC.at hvi
      obtain ⟨ca, ia, ct1, ct2, ivs, rfl, hcm, him, hii⟩ := hca
      have hfI := hoff
      clear lF' N1
      by_cases hlt : i < pre.length
      · have hne : pc.out ≠ net := by
          refine hp pc ?_
          rw [hc, List.getElem?_append_left hlt] at hpc
          exact List.mem_of_getElem? hpc
        generalize pc.out = oo at hne hcm
        (show wpAny _ _ _ _ _ _)
        clear ih
        k_steps
        all_goals try (exfalso; exact hne (by assumption))
        refine hR _ _ ?_
        refine SEnd.next (by k_asm) (by k_asm) ?_ (Nat.succ_le_of_lt hlt)
        intro z k2
        (simp only [List.contains_cons, List.contains_nil, Bool.or_false, Bool.or_eq_false_iff, beq_eq_false_iff_ne, ne_eq] at k2)
        simp [k2]
      · have hie : i = pre.length := by omega
        subst hie
        have hpe : pc = ⟨false, net, [x, y]⟩ := by
          rw [hc, List.getElem?_append_right (Nat.le_refl _)] at hpc
          simpa using hpc.symm
        subst hpe
        simp only [kName, Bool.false_eq_true, if_false] at hcm hii
        obtain ⟨ta, tb, rfl⟩ := ints2 hii
        (show wpAny _ _ _ _ _ _)
        k_steps
        all_goals try (exfalso; omega)
        have ihk := ih k' rfl
        have mark : Mark := trivial
        have hin : ∀ p ∈ news, p ∈ (I, oI) :: (L' + 1 + 1, o') :: (L' + 1, o2') :: news := fun p hp => .tail _ (.tail _ (.tail _ hp))
        refine Hold.mk ?_
        refine LCg.CompRest.succ ?_
        intro v1 I1 oI1 C1 oC1 D1 m1 h1 tk1 E1 hv1 hC1 hx1 F1 N1 off1 ne1
        obtain rfl : v1 = .int x ta := by simpa using hv1.symm
        (show wpAny _ _ _ _ _ _)
        k_steps
        refine Hold.mk ?_
        k_dflt (refine' ihk _ _ _ _ _ _ _ _ _ _ _ _ _ _ _ _ _ _ _ _ _ _ _ _ ?a1 ?a2 ?a3 ?a4 ?a5 ?a6 ?a7 ?a8 ?a9 ?a10 ?a11 ?a12 ?a13 ?a14)
        (case a9 => exact F1)
        (case a11 => exact N1)
        (case a8 => k_asm)
        (case a10 => k_asm)
        (case a12 => k_asm)
        (case a13 => exact ha)
        (case a1 => k_mem)
        (case a2 => k_mem)
        (case a3 => k_mem)
        (case a4 => k_mem)
        (case a5 => exact hC.sub fun p hp => .tail _ (.tail _ (.tail _ (hin p hp))))
        (case a6 => (dsimp only [ktrTop]; omega))
        (case a7 => (dsimp only [ktrTop]; omega))
        intro tv1 hh1 tkk1 Fx1 Nx1
        k_dflt (refine LCg.CompEnd.intro Fx1 Nx1 _ (fun p hp => hp) off1 (by k_mem) ?_)
        clear F1 N1 Fx1 Nx1 hC1 hx1 off1 ne1
        refine LCg.CompRest.succ ?_
        intro v2 I2 oI2 C2 oC2 D2 m2 h2 tk2 E2 hv2 hC2 hx2 F2 N2 off2 ne2
        obtain rfl : v2 = .int y tb := by simpa using hv2.symm
        (show wpAny _ _ _ _ _ _)
        k_steps
        refine Hold.mk ?_
        k_dflt (refine' ihk _ _ _ _ _ _ _ _ _ _ _ _ _ _ _ _ _ _ _ _ _ _ _ _ ?b1 ?b2 ?b3 ?b4 ?b5 ?b6 ?b7 ?b8 ?b9 ?b10 ?b11 ?b12 ?b13 ?b14)
        (case b9 => exact F2)
        (case b11 => exact N2)
        (case b8 => k_asm)
        (case b10 => k_asm)
        (case b12 => k_asm)
        (case b13 => exact hb)
        (case b1 => k_mem)
        (case b2 => k_mem)
        (case b3 => k_mem)
        (case b4 => k_mem)
        (case b5 => exact hC.sub fun p hp => .tail _ (.tail _ (.tail _ (hin p hp))))
        (case b6 => (dsimp only [ktrTop]; omega))
        (case b7 => (dsimp only [ktrTop]; omega))
        intro tv2 hh2 tkk2 Fx2 Nx2
        k_dflt (refine LCg.CompEnd.intro Fx2 Nx2 _ (fun p hp => hp) off2 (by k_mem) ?_)
        clear F2 N2 Fx2 Nx2 hC2 hx2 off2 ne2
        refine LCg.CompRest.zero ?_
        intro D3 h3 tk3 F3 N3 o3
        dsimp only [List.nil_append, List.cons_append] at N3
        have hva := ha.bit
        have hvb := hb.bit
        clear ihk ih
        (show wpAny _ _ _ _ _ _)
        k_steps
        rename_i aM bM _ _ _ _ _ _ _
        have hM := maxIs aM bM
        refine hR _ _ ?_
        refine SEnd.ret ?_
        dsimp only
        k_steps
        rename_i kF kN Tc kX
        rw [hM] at *
        exact H2 _ _ _ kF (newsSub kN fun p hp => .tail _ (.tail _ (.tail _ (.tail _ (.tail _ hp)))))
    · intro u h tk hPl F' N'
      exfalso
      have hcl := hC.length
      rw [← hcl, hc] at hPl
      simp only [List.length_append, List.length_cons] at hPl
      omega
  | @gmux k' _ x y z vs va vb pre post hk hc hp hs ha hb =>
    have hval : valueAt kvs net = none := by
      cases h : valueAt kvs net with
      | none => rfl
      | some v => obtain ⟨i, t, rfl⟩ := hint _ _ h; simp [knOf, h] at hk
    have hsome : (valueAt kvs net).isSome = false := by rw [hval]; rfl
    have H2 := H
    k_steps
    refine Hold.mk ?_
    rename_i g' L' hh0 tk0 FG' lF' B' X' T' l1 o' o2' d1' d2' N1
    refine list_T [Str.ofString "kind", Str.ofString "out", Str.ofString "ins", Str.ofString "param"] (fun i => i ≤ pre.length) rfl (by k_mem) lF' N1 (Nat.zero_le _) ?_ ?_
    · intro i v u h tk I oI hvi hPi hoff F' N' R hR
      have hcl := hC.length
      obtain ⟨pc, hpc, hca⟩ := hC.at hvi
      obtain ⟨ca, ia, ct1, ct2, ivs, rfl, hcm, him, hii⟩ := hca
      have hfI := hoff
      clear lF' N1
      by_cases hlt : i < pre.length
      · have hne : pc.out ≠ net := by
          refine hp pc ?_
          rw [hc, List.getElem?_append_left hlt] at hpc
          exact List.mem_of_getElem? hpc
        generalize pc.out = oo at hne hcm
        (show wpAny _ _ _ _ _ _)
        clear ih
        k_steps
        all_goals try (exfalso; exact hne (by assumption))
        refine hR _ _ ?_
        refine SEnd.next (by k_asm) (by k_asm) ?_ (Nat.succ_le_of_lt hlt)
        intro z k2
        (simp only [List.contains_cons, List.contains_nil, Bool.or_false, Bool.or_eq_false_iff, beq_eq_false_iff_ne, ne_eq] at k2)
        simp [k2]
      · have hie : i = pre.length := by omega
        subst hie
        have hpe : pc = ⟨true, net, [x, y, z]⟩ := by
          rw [hc, List.getElem?_append_right (Nat.le_refl _)] at hpc
          simpa using hpc.symm
        subst hpe
        simp only [kName, if_true] at hcm hii
        obtain ⟨ta, tb, tz, rfl⟩ := ints3 hii
        (show wpAny _ _ _ _ _ _)
        k_steps
        all_goals try (exfalso; omega)
        have ihk := ih k' rfl
        have mark : Mark := trivial
        have hin : ∀ p ∈ news, p ∈ (I, oI) :: (L' + 1 + 1, o') :: (L' + 1, o2') :: news := fun p hp => .tail _ (.tail _ (.tail _ hp))
        refine Hold.mk ?_
        refine LCg.CompRest.succ ?_
        intro v1 I1 oI1 C1 oC1 D1 m1 h1 tk1 E1 hv1 hC1 hx1 F1 N1 off1 ne1
        obtain rfl : v1 = .int x ta := by simpa using hv1.symm
        (show wpAny _ _ _ _ _ _)
        k_steps
        refine Hold.mk ?_
        k_dflt (refine' ihk _ _ _ _ _ _ _ _ _ _ _ _ _ _ _ _ _ _ _ _ _ _ _ _ ?f1 ?f2 ?f3 ?f4 ?f5 ?f6 ?f7 ?f8 ?f9 ?f10 ?f11 ?f12 ?f13 ?f14)
        (case f9 => exact F1)
        (case f11 => exact N1)
        (case f8 => k_asm)
        (case f10 => k_asm)
        (case f12 => k_asm)
        (case f13 => exact hs)
        (case f1 => k_mem)
        (case f2 => k_mem)
        (case f3 => k_mem)
        (case f4 => k_mem)
        (case f5 => exact hC.sub fun p hp => .tail _ (.tail _ (.tail _ (hin p hp))))
        (case f6 => (dsimp only [ktrTop]; omega))
        (case f7 => (dsimp only [ktrTop]; omega))
        intro tv1 hh1 tkk1 Fx1 Nx1
        k_dflt (refine LCg.CompEnd.intro Fx1 Nx1 _ (fun p hp => hp) off1 (by k_mem) ?_)
        clear F1 N1 Fx1 Nx1 hC1 hx1 off1 ne1
        refine LCg.CompRest.succ ?_
        intro v2 I2 oI2 C2 oC2 D2 m2 h2 tk2 E2 hv2 hC2 hx2 F2 N2 off2 ne2
        obtain rfl : v2 = .int y tb := by simpa using hv2.symm
        (show wpAny _ _ _ _ _ _)
        k_steps
        refine Hold.mk ?_
        k_dflt (refine' ihk _ _ _ _ _ _ _ _ _ _ _ _ _ _ _ _ _ _ _ _ _ _ _ _ ?d1 ?d2 ?d3 ?d4 ?d5 ?d6 ?d7 ?d8 ?d9 ?d10 ?d11 ?d12 ?d13 ?d14)
        (case d9 => exact F2)
        (case d11 => exact N2)
        (case d8 => k_asm)
        (case d10 => k_asm)
        (case d12 => k_asm)
        (case d13 => exact ha)
        (case d1 => k_mem)
        (case d2 => k_mem)
        (case d3 => k_mem)
        (case d4 => k_mem)
        (case d5 => exact hC.sub fun p hp => .tail _ (.tail _ (.tail _ (hin p hp))))
        (case d6 => (dsimp only [ktrTop]; omega))
        (case d7 => (dsimp only [ktrTop]; omega))
        intro tv2 hh2 tkk2 Fx2 Nx2
        k_dflt (refine LCg.CompEnd.intro Fx2 Nx2 _ (fun p hp => hp) off2 (by k_mem) ?_)
        clear F2 N2 Fx2 Nx2 hC2 hx2 off2 ne2
        refine LCg.CompRest.succ ?_
        intro v4 I4 oI4 C4 oC4 D4 m4 h4 tk4 E4 hv4 hC4 hx4 F4 N4 off4 ne4
        obtain rfl : v4 = .int z tz := by simpa using hv4.symm
        (show wpAny _ _ _ _ _ _)
        k_steps
        refine Hold.mk ?_
        k_dflt (refine' ihk _ _ _ _ _ _ _ _ _ _ _ _ _ _ _ _ _ _ _ _ _ _ _ _ ?c1 ?c2 ?c3 ?c4 ?c5 ?c6 ?c7 ?c8 ?c9 ?c10 ?c11 ?c12 ?c13 ?c14)
        (case c9 => exact F4)
        (case c11 => exact N4)
        (case c8 => k_asm)
        (case c10 => k_asm)
        (case c12 => k_asm)
        (case c13 => exact hb)
        (case c1 => k_mem)
        (case c2 => k_mem)
        (case c3 => k_mem)
        (case c4 => k_mem)
        (case c5 => exact hC.sub fun p hp => .tail _ (.tail _ (.tail _ (hin p hp))))
        (case c6 => (dsimp only [ktrTop]; omega))
        (case c7 => (dsimp only [ktrTop]; omega))
        intro tv4 hh4 tkk4 Fx4 Nx4
        k_dflt (refine LCg.CompEnd.intro Fx4 Nx4 _ (fun p hp => hp) off4 (by k_mem) ?_)
        clear F4 N4 Fx4 Nx4 hC4 hx4 off4 ne4
        refine LCg.CompRest.zero ?_
        intro D3 h3 tk3 F3 N3 o3
        dsimp only [List.nil_append, List.cons_append] at N3
        have hvs := hs.bit
        clear ihk ih
        rcases hvs with rfl | rfl
        all_goals (
          (show wpAny _ _ _ _ _ _)
          k_steps
          k_dflt (first | refine itemAtB 1 (by k_asm) (by k_mem) rfl rfl (by decide) ?_ | refine itemAtB 2 (by k_asm) (by k_mem) rfl rfl (by decide) ?_)
          (try dsimp only)
          refine hR _ _ ?_
          refine SEnd.ret ?_
          dsimp only
          k_steps
          rename_i kF kN Tc kX
          exact H2 _ _ _ kF (newsSub kN fun p hp => .tail _ (.tail _ (.tail _ (.tail _ hp)))))
    · intro u h tk hPl F' N'
      exfalso
      have hcl := hC.length
      rw [← hcl, hc] at hPl
      simp only [List.length_append, List.length_cons] at hPl
      omega
theorem bit_ok (w : World) (mean : ExcName → Option Value) (mg mb : Str → Option Value) (xn dn li lo lc ka : Addr) (nm : Value) (c : Int) (tc t1 t2 t3 t4 t5 : Tok) (us : List Value) (nn : Nat) (ko : Obj) (kvs : List (Int × Value)) (cells : List PCell)
   (hko : ko.IsDictOf (intKind thePr w) kvs) (hlo : (ka == sysModules) = false) (hint : ∀ n v, valueAt kvs n = some v → ∃ i t, v = .int i t) : ∀ k, BitC w mean mg mb xn dn li lo lc ka nm c tc t1 t2 t3 t4 t5 us nn ko kvs cells k := by
  intro k
  induction k with
  | zero => exact bit_step w mean mg mb xn dn li lo lc ka nm c tc t1 t2 t3 t4 t5 us nn ko kvs cells 0 hko hlo hint fun j h => absurd h (Nat.succ_ne_zero j)
  | succ k ih => exact bit_step w mean mg mb xn dn li lo lc ka nm c tc t1 t2 t3 t4 t5 us nn ko kvs cells (k + 1) hko hlo hint fun j h => (Nat.succ.inj h).symm ▸ ih
end Mine
end

/-! ## Pe -/
theorem Mine.reset_Pe : True := by
  w_top off
  first | walk1 | trivial
section
open PySem PySem.W PyProof.Rows PySem.Calls
set_option Elab.async false
set_option maxRecDepth 100000
set_option maxHeartbeats 1000000
namespace Mine
theorem find_split {cells : List PCell} {net : Int} {pc : PCell} (h : cells.find? (fun c => decide (c.out = net)) = some pc) : pc.out = net ∧ ∃ pre post, cells = pre ++ pc :: post ∧ ∀ c ∈ pre, c.out ≠ net := by
  obtain ⟨h1, pre, post, e, h2⟩ := List.find?_eq_some_iff_append.mp h
  exact ⟨by simpa using h1, pre, post, e, fun c hc => by simpa using h2 c hc⟩
theorem evB_ok {cells : List PCell} {kn : Int → Option Int} : ∀ (k : Nat) (net v : Int), evB cells kn k net = some v → Ev cells kn k net v := by
  intro k
  induction k with
  | zero =>
    intro net v h
    unfold evB at h
    split at h
    · rename_i u hu
      split at h
      · rename_i hb; injection h with h; subst h; exact .known hu hb
      · cases h
    · cases h
  | succ k ih =>
    intro net v h
    unfold evB at h
    split at h
    · rename_i u hu
      split at h
      · rename_i hb; injection h with h; subst h; exact .known hu hb
      · cases h
    · rename_i hu
      split at h
      · rename_i o x y hf
        obtain ⟨e1, pre, post, e2, e3⟩ := find_split hf
        dsimp only at e1
        subst e1
        split at h
        · rename_i va vb ha hb
          injection h with h
          rw [← h]
          exact .gor hu e2 e3 (ih _ _ ha) (ih _ _ hb)
        · cases h
      · rename_i o x y z hf
        obtain ⟨e1, pre, post, e2, e3⟩ := find_split hf
        dsimp only at e1
        subst e1
        split at h
        · rename_i vs va vb hs ha hb
          injection h with h
          rw [← h]
          exact .gmux hu e2 e3 (ih _ _ hs) (ih _ _ ha) (ih _ _ hb)
        · cases h
      · cases h
/-- the plain law -/
theorem plain {ka : Nat} {wn : List Wt} {line : Nat} (hk : ka ≤ 2) (hw : wn.length = ka + 1) (hl : line < 2 ^ (ka + 3)) (h1 : (actP line 0 wn).length ≤ 1) :
    Ev (stP ka wn).cells (knP ka line (ka + 1)) 3 (stP ka wn).r (if actP line 0 wn = [.one] then 1 else 0) ∧
    Ev (stP ka wn).cells (knP ka line (ka + 1)) 3 (stP ka wn).l (if actP line 0 wn = [.zero] then 1 else 0) ∧
    Ev (stP ka wn).cells (knP ka line (ka + 1)) 3 (stP ka wn).d (if actP line 0 wn = [.non] then ((line / 2 % 2 : Nat) : Int) else ((line % 2 : Nat) : Int)) := by
  have h := okP_all hk hw hl
  unfold okP at h
  rw [decide_eq_false (by omega), Bool.false_or, Bool.and_eq_true, Bool.and_eq_true] at h
  obtain ⟨⟨a, b⟩, c⟩ := h
  exact ⟨evB_ok _ _ _ (by simpa using a), evB_ok _ _ _ (by simpa using b), evB_ok _ _ _ (by simpa using c)⟩
end Mine
end

/-! ## Kn -/
theorem Mine.reset_Kn : True := by
  w_top off
  first | walk1 | trivial
section
open PySem PySem.W PyProof.Rows PySem.Calls
set_option Elab.async false
set_option maxRecDepth 100000
set_option maxHeartbeats 1000000
namespace Mine
/-- the dict of the known nets, at the turn i of the inner loop -/
def KnIs (ka line i : Nat) (kvs : List (Int × Value)) : Prop :=
  kvs.length ≤ 4 + i ∧ ∀ n, (knP ka line i n = none ∧ valueAt kvs n = none) ∨ ∃ v t, knP ka line i n = some v ∧ valueAt kvs n = some (.int v t)
theorem KnIs.int {ka line i : Nat} {kvs : List (Int × Value)} (h : KnIs ka line i kvs) : ∀ n v, valueAt kvs n = some v → ∃ i t, v = .int i t := by
  intro n v hv
  rcases h.2 n with ⟨_, h2⟩ | ⟨v', t, _, h2⟩
  · rw [h2] at hv; cases hv
  · rw [h2] at hv; injection hv with hv; exact ⟨_, _, hv.symm⟩
theorem KnIs.of {ka line i : Nat} {kvs : List (Int × Value)} (h : KnIs ka line i kvs) : knOf kvs = knP ka line i := by
  funext n
  unfold knOf
  rcases h.2 n with ⟨h1, h2⟩ | ⟨v', t, h1, h2⟩
  · rw [h1, h2]
  · rw [h1, h2]
theorem kn_start (ka line : Nat) (t1 t2 t3 t4 : Tok) : KnIs ka line 0 [(0, .int 0 t1), (1, .int 1 t2), ((ka : Int) + 3, .int ((line % 2 : Nat) : Int) t3), ((ka : Int) + 4, .int ((line / 2 % 2 : Nat) : Int) t4)] := by
  refine ⟨by simp, fun n => ?_⟩
  by_cases h0 : n = 0
  · exact .inr ⟨0, t1, by simp [knP, h0], by simp [valueAt, List.find?, h0]⟩
  by_cases h1 : n = 1
  · exact .inr ⟨1, t2, by simp [knP, h1], by simp [valueAt, List.find?, h1]⟩
  by_cases h2 : n = (ka : Int) + 3
  · refine .inr ⟨_, t3, by unfold knP; rw [if_neg h0, if_neg h1, if_pos h2], ?_⟩
    have a : ¬ (0 : Int) = n := by omega
    have b : ¬ (1 : Int) = n := by omega
    have c : (ka : Int) + 3 = n := by omega
    simp [valueAt, List.find?, a, b, c]
  by_cases h3 : n = (ka : Int) + 4
  · refine .inr ⟨_, t4, by unfold knP; rw [if_neg h0, if_neg h1, if_neg h2, if_pos h3], ?_⟩
    have a : ¬ (0 : Int) = n := by omega
    have b : ¬ (1 : Int) = n := by omega
    have c : ¬ (ka : Int) + 3 = n := by omega
    have d : (ka : Int) + 4 = n := by omega
    simp [valueAt, List.find?, a, b, c, d]
  · refine .inl ⟨by unfold knP; rw [if_neg h0, if_neg h1, if_neg h2, if_neg h3, if_neg (by omega)], ?_⟩
    have a : ¬ (0 : Int) = n := by omega
    have b : ¬ (1 : Int) = n := by omega
    have c : ¬ (ka : Int) + 3 = n := by omega
    have d : ¬ (ka : Int) + 4 = n := by omega
    simp [valueAt, List.find?, a, b, c, d]
theorem KnIs.set {ka line i : Nat} {kvs : List (Int × Value)} (h : KnIs ka line i kvs) (hi : i ≤ ka) (t : Tok) : KnIs ka line (i + 1) (stored kvs (2 + (i : Int)) (.int ((line / 2 ^ (i + 2) % 2 : Nat) : Int) t)) := by
  have hno : knP ka line i (2 + (i : Int)) = none := by
    unfold knP
    rw [if_neg (by omega), if_neg (by omega), if_neg (by omega), if_neg (by omega), if_neg (by omega)]
  have hva : valueAt kvs (2 + (i : Int)) = none := by
    rcases h.2 (2 + (i : Int)) with ⟨_, h2⟩ | ⟨v', t, h1, _⟩
    · exact h2
    · rw [hno] at h1; cases h1
  refine ⟨Nat.le_trans (stored_length_le _ _ _) (by have := h.1; omega), fun n => ?_⟩
  by_cases hn : n = 2 + (i : Int)
  · subst hn
    refine .inr ⟨_, t, ?_, valueAt_new _ hva⟩
    unfold knP
    rw [if_neg (by omega), if_neg (by omega), if_neg (by omega), if_neg (by omega), if_pos (by omega)]
    have : (2 + (i : Int)).toNat = i + 2 := by omega
    rw [this]
  · have e : knP ka line (i + 1) n = knP ka line i n := by
      unfold knP
      by_cases h5 : 2 ≤ n ∧ n < (i : Int) + 2
      · have h6 : 2 ≤ n ∧ n < ((i + 1 : Nat) : Int) + 2 := by omega
        rw [if_pos h5, if_pos h6]
      · have h6 : ¬ (2 ≤ n ∧ n < ((i + 1 : Nat) : Int) + 2) := by omega
        rw [if_neg h5, if_neg h6]
    rw [e, valueAt_old _ hva hn]
    exact h.2 n
theorem KnIs.at {ka line i : Nat} {kvs : List (Int × Value)} (h : KnIs ka line (i + 1) kvs) (hi : i ≤ ka) : ∃ t, valueAt kvs (2 + (i : Int)) = some (.int ((line / 2 ^ (i + 2) % 2 : Nat) : Int) t) := by
  have e : knP ka line (i + 1) (2 + (i : Int)) = some ((line / 2 ^ (i + 2) % 2 : Nat) : Int) := by
    unfold knP
    rw [if_neg (by omega), if_neg (by omega), if_neg (by omega), if_neg (by omega), if_pos (by omega)]
    have : (2 + (i : Int)).toNat = i + 2 := by omega
    rw [this]
  rcases h.2 (2 + (i : Int)) with ⟨h1, _⟩ | ⟨v', t, h1, h2⟩
  · rw [e] at h1; cases h1
  · rw [e] at h1; injection h1 with h1; subst h1; exact ⟨t, h2⟩
theorem KnIs.clk {ka line i : Nat} {kvs : List (Int × Value)} (h : KnIs ka line i kvs) : ∃ t, valueAt kvs ((ka : Int) + 3) = some (.int ((line % 2 : Nat) : Int) t) := by
  have e : knP ka line i ((ka : Int) + 3) = some ((line % 2 : Nat) : Int) := by
    unfold knP
    rw [if_neg (by omega), if_neg (by omega), if_pos rfl]
  rcases h.2 ((ka : Int) + 3) with ⟨h1, _⟩ | ⟨v', t, h1, h2⟩
  · rw [e] at h1; cases h1
  · rw [e] at h1; injection h1 with h1; subst h1; exact ⟨t, h2⟩
theorem KnIs.old {ka line i : Nat} {kvs : List (Int × Value)} (h : KnIs ka line i kvs) : ∃ t, valueAt kvs ((ka : Int) + 4) = some (.int ((line / 2 % 2 : Nat) : Int) t) := by
  have e : knP ka line i ((ka : Int) + 4) = some ((line / 2 % 2 : Nat) : Int) := by
    unfold knP
    rw [if_neg (by omega), if_neg (by omega), if_neg (by omega), if_pos rfl]
  rcases h.2 ((ka : Int) + 4) with ⟨h1, _⟩ | ⟨v', t, h1, h2⟩
  · rw [e] at h1; cases h1
  · rw [e] at h1; injection h1 with h1; subst h1; exact ⟨t, h2⟩
theorem anP_get {ka j : Nat} (h : j < ka + 1) : (anP ka)[j]? = some (2 + (j : Int)) := by
  unfold anP
  rw [List.getElem?_map, List.getElem?_range h]
  rfl
theorem actP_len (line : Nat) : ∀ (wn : List Wt) (i : Nat), (actP line i wn).length ≤ wn.length := by
  intro wn
  induction wn with
  | nil => intro i; exact Nat.le_refl _
  | cons a wn ih =>
    intro i
    simp only [actP]
    split
    · exact Nat.succ_le_succ (ih _)
    · exact Nat.le_succ_of_le (ih _)
theorem KnIs.step {prog : Program} {w : World} {o : Obj} {ka line i : Nat} {kvs : List (Int × Value)} {t : Tok} (h : KnIs ka line i kvs) (hi : i ≤ ka)
    (hd : o.IsDictOf (PySem.intKind prog w) (stored kvs (2 + (i : Int)) (.int ((line / 2 ^ (i + 2) % 2 : Nat) : Int) t))) : ∃ kvs', o.IsDictOf (PySem.intKind prog w) kvs' ∧ KnIs ka line (i + 1) kvs' :=
  ⟨_, hd, h.set hi t⟩
end Mine
end
end
section
local macro_rules | `(tactic| k_mem) => `(tactic| first | exact mem_head | with_reducible assumption | (refine List.mem_cons_of_mem _ ?_; first | exact mem_head | with_reducible assumption | (refine List.mem_cons_of_mem _ ?_; first | exact mem_head | with_reducible assumption | (refine List.mem_cons_of_mem _ ?_; first | exact mem_head | with_reducible assumption | (refine List.mem_cons_of_mem _ ?_; first | exact mem_head | with_reducible assumption | (refine List.mem_cons_of_mem _ ?_; first | exact mem_head | with_reducible assumption | (refine List.mem_cons_of_mem _ ?_; first | exact mem_head | with_reducible assumption | (refine List.mem_cons_of_mem _ ?_; first | exact mem_head | with_reducible assumption | (refine List.mem_cons_of_mem _ ?_; first | exact mem_head | with_reducible assumption | (refine List.mem_cons_of_mem _ ?_; first | exact mem_head | with_reducible assumption | (refine List.mem_cons_of_mem _ ?_; first | exact mem_head | with_reducible assumption | (refine List.mem_cons_of_mem _ ?_; first | exact mem_head | with_reducible assumption | (refine List.mem_cons_of_mem _ ?_; first | exact mem_head | with_reducible assumption | (refine List.mem_cons_of_mem _ ?_; first | exact mem_head | with_reducible assumption | (refine List.mem_cons_of_mem _ ?_; first | exact mem_head | with_reducible assumption | (refine List.mem_cons_of_mem _ ?_; first | exact mem_head | with_reducible assumption | (refine List.mem_cons_of_mem _ ?_; first | exact mem_head | with_reducible assumption | (refine List.mem_cons_of_mem _ ?_; first | exact mem_head | with_reducible assumption | (refine List.mem_cons_of_mem _ ?_; first | exact mem_head | with_reducible assumption | (refine List.mem_cons_of_mem _ ?_; first | exact mem_head | with_reducible assumption | (refine List.mem_cons_of_mem _ ?_; first | exact mem_head | with_reducible assumption | (refine List.mem_cons_of_mem _ ?_; first | exact mem_head | with_reducible assumption | (refine List.mem_cons_of_mem _ ?_; first | exact mem_head | with_reducible assumption)))))))))))))))))))))))

/-! ## Le -/
theorem Mine.reset_Le : True := by
  w_top off
  first | walk1 | trivial
section
open PySem PySem.W PyProof.Rows PySem.Calls PySem.W.X
set_option Elab.async false
set_option maxRecDepth 100000
set_option maxHeartbeats 1000000
set_option rowWalk.seconds 0
set_option pp.deepTerms false
set_option pp.deepTerms.threshold 6
set_option pp.maxSteps 3000
namespace Mine
set_option linter.unusedVariables false
open PySem.SeqAt
section
variable {prog : Program} {w : World} {A : Around} {E : Value → Shared → Prop} {s : Shared} {h₀ : Heap} {L D D' : Addr} {news : List (Addr × Obj)} {n n' : Nat} {vs : List Value} {v' : Value} {act : List Wt} {b : Wt} {Q : Value → Shared → Prop}
theorem wt_eq {v v' : Value} {a b : Wt} (h : WtIs v a) (h' : WtIs v' b) : EqAt A s v v' (decide (a = b)) := by
  cases a <;> cases b
  · obtain rfl : v = .none := h; obtain rfl : v' = .none := h'; exact EqAt.same _
  · obtain rfl : v = .none := h; obtain ⟨t, rfl⟩ := h'; exact EqAt.none_int _ _
  · obtain rfl : v = .none := h; obtain ⟨t, rfl⟩ := h'; exact EqAt.none_int _ _
  · obtain ⟨t, rfl⟩ := h; obtain rfl : v' = .none := h'; exact EqAt.int_none _ _
  · obtain ⟨t, rfl⟩ := h; obtain ⟨t', rfl⟩ := h'; have h3 := EqAt.int_int (A := A) (s := s) 1 t 1 t'; rwa [show ((1:Int) == 1) = decide (Wt.one = Wt.one) from rfl] at h3
  · obtain ⟨t, rfl⟩ := h; obtain ⟨t', rfl⟩ := h'; have h3 := EqAt.int_int (A := A) (s := s) 1 t 0 t'; rwa [show ((1:Int) == 0) = decide (Wt.one = Wt.zero) from rfl] at h3
  · obtain ⟨t, rfl⟩ := h; obtain rfl : v' = .none := h'; exact EqAt.int_none _ _
  · obtain ⟨t, rfl⟩ := h; obtain ⟨t', rfl⟩ := h'; have h3 := EqAt.int_int (A := A) (s := s) 0 t 1 t'; rwa [show ((0:Int) == 1) = decide (Wt.zero = Wt.one) from rfl] at h3
  · obtain ⟨t, rfl⟩ := h; obtain ⟨t', rfl⟩ := h'; have h3 := EqAt.int_int (A := A) (s := s) 0 t 0 t'; rwa [show ((0:Int) == 0) = decide (Wt.zero = Wt.zero) from rfl] at h3
theorem eq_one (k : Bool) (N : News h₀ L s.heap news) (hl : (D, W.listOf vs.toArray n) ∈ news) (hl' : (D', W.listOf #[v'] n') ∈ news) (hW : WtsAre vs act) (hv : WtIs v' b) (hu : A.units < cLine) (hk : decide (act = [b]) = k) (hq : Q (.bool k) s) :
    wpAny (model prog w) A (compareOp .Eq (.ref D) (.ref D')) Q E s := by
  subst hk
  have i1 : s.heap.IsList D vs.toArray := ⟨_, (N _ hl).1, rfl, n, rfl⟩
  have i2 : s.heap.IsList D' #[v'] := ⟨_, (N _ hl').1, rfl, n', rfl⟩
  by_cases h1 : act.length = 1
  · obtain ⟨a, ha⟩ := List.length_eq_one_iff.mp h1
    subst ha
    cases hW with
    | @cons v _ vs2 _ h2 h3 =>
      cases h3
      have i1' : s.heap.IsList D #[v] := i1
      have he : RcAt A s (.ref D) (.ref D') ((List.range (#[v] : Array Value).size).all fun _ => decide (a = b)) := RcAt.lists (A := A) (e := fun _ => decide (a = b)) i1' i2 rfl hu (fun j h3 h4 => by
        have hj : j = 0 := by simp at h3; omega
        subst hj
        exact wt_eq h2 hv)
      have e : ((List.range (#[v] : Array Value).size).all fun _ => decide (a = b)) = decide ([a] = [b]) := by
        have e2 : (#[v] : Array Value).size = 1 := rfl
        rw [e2]
        simp [List.range_succ]
      rw [e] at he
      exact PySem.EqBoolInt.of_rc he hq
  · have hsz : (vs.toArray.size != (#[v'] : Array Value).size) = true := by
      have := hW.length
      simp only [List.size_toArray, bne_iff_ne, ne_eq]
      show ¬ vs.length = 1
      omega
    refine PySem.EqBoolInt.of_rc (RcAt.lists_lengths i1 i2 hsz hu) ?_
    have e : decide (act = [b]) = false := decide_eq_false (fun h => h1 (by rw [h]; rfl))
    rw [← e]
    exact hq
end
end Mine
end

/-! ## Ln -/
theorem Mine.reset_Ln : True := by
  w_top off
  first | walk1 | trivial
section
open PySem PySem.W PyProof.Rows PySem.Calls PySem.W.X
set_option Elab.async false
set_option maxRecDepth 100000
set_option maxHeartbeats 1000000
set_option rowWalk.seconds 0
set_option pp.deepTerms false
set_option pp.deepTerms.threshold 6
set_option pp.maxSteps 3000
namespace Mine
set_option linter.unusedVariables false
def lawParts : List Stmt × Scope := match thePr.main.body.getLast? with
  | some (.FunctionDef _ _ body _ _ _ scope _ _ _) => (body, scope)
  | _ => ([], { kind := .function, names := [], isGenerator := false, isCoroutine := false })
local macro_rules | `(tactic| walk_at "exec For Name Call cons nil") => `(tactic| (k_here; (with_reducible show wpAny _ _ (exec (Stmt.For (PySem.Expr.Name _ _) _ _ _ _) _) _ _ _); (rename Fr _ _ _ _ => lF'); (with_unfolding_all refine' For_invVF lF' ?k1 ?k2 ?_; (case k1 => exact rfl); (case k2 => exact rfl); k_whole)))
local macro_rules | `(tactic| walk_at "pyIter ref") => `(tactic| ((with_reducible show wpAny _ _ (pyIter (Value.ref _)) (fun it s₂ => LoopAtV _ _ _ _ _ _ _ _ _ it s₂) _ _); refine Hold.out ?_))
local macro_rules | `(tactic| walk_at "call ref") => `(tactic| ((with_reducible show wpAny _ _ (call (Value.ref 241) _) _ _ _); refine Hold.out ?_))
local macro_rules | `(tactic| walk_at "call builtin:len") => `(tactic| (k_here; k_dflt (refine' lenL ?N ?q ?k ?b ?_; (case N => k_asm); (case q => k_mem); (case k => assumption); (case b => omega))))
local macro_rules | `(tactic| walk_at "callWith") => `(tactic| ((with_reducible show wpAny _ _ (callWith _ (Value.builtin _) (_ :: _) _ _) _ _ _); refine callWith_method1 ?_))
section
variable {prog : Program} {w : World} {A : Around} {E : Value → Shared → Prop} {s : Shared} {Q : Value → Shared → Prop}
theorem pow2 {a : Nat} {t u : Tok} (ha : a ≤ 1000) (h : Q (.int ((2 ^ (a + 2) : Nat) : Int) s.toks) { s with toks := s.toks + 1 }) : wpAny (model prog w) A (binaryOp .Pow (.int 2 t) (.int ((a : Int) + 2) u)) Q E s := by
  refine pow_int_small (by omega) (by omega) (by decide) ?_
  have e : ((a : Int) + 2).toNat = a + 2 := by omega
  have e2 : (2 : Int) ^ (a + 2) = ((2 ^ (a + 2) : Nat) : Int) := by simp
  rw [e, e2]
  exact h
theorem fdiv2 {a : Nat} {t u : Tok} (h : Q (.int ((a / 2 : Nat) : Int) s.toks) { s with toks := s.toks + 1 }) : wpAny (model prog w) A (binaryOp .FloorDiv (.int (a : Int) t) (.int 2 u)) Q E s := by
  refine floordiv_int (by decide) ?_
  rw [Int.fdiv_eq_ediv_of_nonneg _ (by decide)]
  exact h
theorem fdivP {a k : Nat} {t u : Tok} (hk : k ≤ 1000) (h : Q (.int ((a / 2 ^ k : Nat) : Int) s.toks) { s with toks := s.toks + 1 }) : wpAny (model prog w) A (binaryOp .FloorDiv (.int (a : Int) t) (.int ((2 ^ k : Nat) : Int) u)) Q E s := by
  have hp : 0 < 2 ^ k := Nat.pow_pos (by decide)
  refine floordiv_int (by omega) ?_ (.inl (PyProof.noPylong_of_log2 (by rw [Int.natAbs_natCast, Nat.log2_two_pow]; omega)))
  rw [Int.fdiv_eq_ediv_of_nonneg _ (by omega)]
  exact h
theorem fmod2 {a : Nat} {t u : Tok} (h : Q (.int ((a % 2 : Nat) : Int) s.toks) { s with toks := s.toks + 1 }) : wpAny (model prog w) A (binaryOp .Mod (.int (a : Int) t) (.int 2 u)) Q E s := by
  refine mod_int' (by decide) ?_
  rw [Int.fmod_eq_emod_of_nonneg _ (by decide)]
  exact h
end
local macro_rules | `(tactic| walk_at "binaryOp Pow int int") => `(tactic| (k_here; k_dflt (refine pow2 (by omega) ?_); refine Hold.out ?_))
theorem nod4 (ka : Nat) : ([0, 1, (ka : Int) + 3, (ka : Int) + 4] : List Int).Nodup := by
  simp only [List.nodup_cons, List.mem_cons, List.not_mem_nil, or_false, not_or, not_false_eq_true, List.nodup_nil, and_true]
  omega
local macro_rules | `(tactic| walk_at "eval Dict") => `(tactic| (k_here; k_dflt (refine' kdn_eval (knd := PySem.intKind _ _) ?F ?N ?b ?a ?l ?e ?n ?_; (case F => k_asm); (case N => k_asm); (case b => exact Top.nolimit (by k_asm)); (case a => rfl); (case l => rfl); (case e => exact List.cons_ne_nil _ _); (case n => exact Nat.le_of_ble_eq_true rfl)); intro d' h' o' F' N' l1 lo' hd'; (try k_lt l1)))
local macro_rules | `(tactic| walk_at "evalPairs") => `(tactic| first | refine pairTrees_cons_walk ?_ | refine pairTrees_nil_walk ?_)
local macro_rules | `(tactic| walk_at "binaryOp FloorDiv int int") => `(tactic| (k_here; first | ((with_reducible show wpAny _ _ (binaryOp _ _ (Value.int (Nat.cast _) _)) _ _ _); k_dflt (refine fdivP (by omega) ?_)) | k_dflt (refine fdiv2 ?_)))
local macro_rules | `(tactic| walk_at "binaryOp Mod int int") => `(tactic| (k_here; k_dflt (refine fmod2 ?_)))
local macro_rules | `(tactic| walk_at "KdnMade") => `(tactic| (refine Hold.out ?_))
local macro_rules | `(tactic| walk_at "call builtin:list.append") => `(tactic| (k_here; k_dflt (refine' appendL ?F ?N ?U ?z ?_; (case F => k_asm); (case N => k_asm); (case U => k_upd); (case z => omega)); (intro h' F' N'; (try dsimp only [List.nil_append, List.cons_append] at N'))))
local macro_rules | `(tactic| walk_at "getMethod ref") => `(tactic| (k_here; (with_reducible show wpAny _ _ (getMethod (Value.ref _) (PySem.Str.ofString "append") _) _ _ _); k_dflt (refine' listMethod_K ?N ?m PySem.F.slot_list_append PySem.F.type_list_append ?_; (case N => k_asm); (case m => k_mem))))
local macro_rules | `(tactic| walk_at "setItem ref int") => `(tactic| (k_here; k_dflt (refine' kda_set (knd := PySem.intKind _ _) ?F ?N ?U ?d (intKind_is _ _ _ _) ?z ?_; (case F => k_asm); (case N => k_asm); (case U => k_updF); (case d => assumption); (case z => (rw [PySem.sizeLine_eq]; omega))); intro h' o' F' N' hd'; (try dsimp only at N'); refine Hold.out ?_))
local macro_rules | `(tactic| walk_at "subscriptTail") => `(tactic| (k_here; (with_reducible show wpAny _ _ (subscriptTail (PySem.Expr.Name _ _) _ (Value.ref _) (Value.int _ _)) _ _ _); k_dflt (refine kda_item (knd := PySem.intKind _ _) (by k_asm) (by k_mem) (by assumption) (intKind_is _ _ _ _) (by assumption) ?_)))
local macro_rules | `(tactic| walk_at "subscriptTail") => `(tactic| (k_here; (with_reducible show wpAny _ _ (subscriptTail (PySem.Expr.Name _ _) _ (Value.ref _) (Value.int _ _)) _ _ _); k_dflt (refine' itemAtB _ ?N ?q rfl ?j ?b ?_; (case N => k_asm); (case q => k_mem); (case j => assumption); (case b => omega))))
local macro_rules | `(tactic| walk_at "compareOp Eq ref ref") => `(tactic| (k_here; k_dflt (first | (refine' eq_one (b := Wt.one) _ ?N ?a mem_head ?W ?v (Nat.le_of_ble_eq_true rfl) ?k ?_; (case N => k_asm); (case v => exact ⟨_, rfl⟩); (case W => assumption); (case a => k_mem); (case k => first | exact Eq.refl true | exact Eq.refl false)) | (refine' eq_one (b := Wt.zero) _ ?N ?a mem_head ?W ?v (Nat.le_of_ble_eq_true rfl) ?k ?_; (case N => k_asm); (case v => exact ⟨_, rfl⟩); (case W => assumption); (case a => k_mem); (case k => first | exact Eq.refl true | exact Eq.refl false)) | (refine' eq_one (b := Wt.non) _ ?N ?a mem_head ?W ?v (Nat.le_of_ble_eq_true rfl) ?k ?_; (case N => k_asm); (case v => exact rfl); (case W => assumption); (case a => k_mem); (case k => first | exact Eq.refl true | exact Eq.refl false)))))
theorem wts_snoc {vs : List Value} {bs : List Wt} {v : Value} {b : Wt} (h : WtsAre vs bs) (hv : WtIs v b) : WtsAre (vs ++ [v]) (bs ++ [b]) := by
  induction h with
  | nil => exact .cons hv .nil
  | cons h1 _ ih => exact .cons h1 ih
theorem made4 {prog : Program} {w : World} {s : Shared} {h₀ : Heap} {L d : Addr} {m : Str → Option Value} {news : List (Addr × Obj)} {g : Obj → List (Addr × Obj)} {o : Obj} {Q : Value → Shared → Prop} {ka line : Nat} {t1 t2 t3 t4 v1 v2 v3 v4 : Tok}
    (F : Fr h₀ L s.heap m) (N : News h₀ L s.heap news) (U : UpdF d o news g) (hd : o.IsDictOf (PySem.intKind prog w) [])
    (h : ∀ h' o' tk kvs, Fr h₀ L h' m → News h₀ L h' (g o') → o'.IsDictOf (PySem.intKind prog w) kvs → KnIs ka line 0 kvs → Q (.ref d) { s with heap := h', toks := tk }) :
    KdnMade prog w (PySem.intKind prog w) d Q [(.int 0 v1, .int 0 t1), (.int 1 v2, .int 1 t2), (.int ((ka : Int) + 3) v3, .int ((line % 2 : Nat) : Int) t3), (.int ((ka : Int) + 4) v4, .int ((line / 2 % 2 : Nat) : Int) t4)] s :=
  kdn_made_int F N U hd rfl (nod4 ka) fun h' o' F' N' hd' => h h' o' _ _ F' N' hd' (kn_start ka line t1 t2 t3 t4)
set_option maxHeartbeats 8000000 in
theorem lines_ok (w : World) (mean : ExcName → Option Value) (mg mb : Str → Option Value) (fa ww : Addr) (h₀ : Heap) (L : Addr) (mz : Str → Option Value) (s : Shared) (Q : Flow → Shared → Prop) (E : Value → Shared → Prop)
  (st : Stmt) (sc : Scope) (hst : lawParts.1[11]? = some st) (hsc : lawParts.2 = sc)
  (xn dn li lo lc aa wa : Addr) (nm : Value) (c : Int) (tc t1 t2 t3 t4 t5 : Tok) (us : List Value) (nn : Nat) (as ws : List Value) (na nw : Nat) (ka : Nat) (wn : List Wt) (tk tq td tr tl : Tok) (led : List (Addr × Obj))
  (K0 : Below callerA h₀ [] h₀)
  (F : Fr h₀ L s.heap (fun y => if y = Str.ofString "netlist" then some (.ref xn) else if y = Str.ofString "acts" then some (.ref aa) else if y = Str.ofString "wanted" then some (.ref wa) else if y = Str.ofString "clocked" then some (.int ((ka : Int) + 3) tk) else if y = Str.ofString "old" then some (.int ((ka : Int) + 4) tq)
     else if y = Str.ofString "d" then some (.int (stP ka wn).d td) else if y = Str.ofString "raised" then some (.int (stP ka wn).r tr) else if y = Str.ofString "lowered" then some (.int (stP ka wn).l tl) else mz y))
  (X : (Mine.hd.heap_1 w.params).In h₀) (N : News h₀ L s.heap led) (T : Top Mine.view LL mean mg mb h₀)
  (hxn : (xn, instObj 141 dn) ∈ led) (hdn : (dn, netDict w nm c tc t1 t2 t3 t4 t5 li lo lc) ∈ led) (hlc : (lc, W.listOf us.toArray nn) ∈ led) (haa : (aa, W.listOf as.toArray na) ∈ led) (hwa : (wa, W.listOf ws.toArray nw) ∈ led)
  (hC : CellsAre led (stP ka wn).cells us) (hI : IntsAre as (anP ka)) (hW : WtsAre ws wn) (hl : wn.length = ka + 1) (hka : ka ≤ 2)
  (hE : PassesOwn (model thePr w) (callerA.deeper (envOfC (Str.ofString "law") sc L fa (.ref ww))) (envOfC (Str.ofString "law") sc L fa (.ref ww)) E)
  (H : ∀ h' tk' m', Fr h₀ L h' m' → Q .next { s with heap := h', toks := tk' }) :
  wpAny (model PySem.Challenge.rw_pq0452_01.row.prog w) (callerA.deeper (envOfC (Str.ofString "law") sc L fa (.ref ww))) (exec st (envOfC (Str.ofString "law") sc L fa (.ref ww))) Q E s := by
  revert X; k_fill; intro X
  (conv at hst => lhs; whnf)
  (conv at hsc => lhs; whnf)
  injection hst with hst
  subst hst
  subst hsc
  have hal : as.length = ka + 1 := by rw [hI.length]; simp [anP]
  have hkaH : Hold (ka ≤ 2) := Hold.mk hka
  have hka9 : ka ≤ 100 := by omega
  clear hka
  generalize hS : stP ka wn = S at *
  k_steps
  refine Hold.mk ?_
  have hP : 2 ^ (ka + 1 + 2) ≤ 32 := Nat.pow_le_pow_right (n := 2) (i := ka + 1 + 2) (j := 5) (by decide) (by have := Hold.out hkaH; omega)
  generalize hPe : 2 ^ (ka + 1 + 2) = P at *
  k_steps
  refine Hold.mk ?_
  rename_i hR6 F6 N6 _
  (try (rename Fr h₀ L s.heap _ => Fx; clear Fx))
  try clear N
  refine range_V (σ := Unit) (n := P) [] [Str.ofString "known", Str.ofString "acting", Str.ofString "at"]
    (fun _ _ nx => nx = led) rfl hR6 (rangeSm (by omega)) (rangeSz _) F6 N6 () (fun _ h => nomatch h) rfl ?_ ?_
  · rintro line t ⟨⟩ u nx h tk0 I oI hcI hi rfl hoff F' N' R1 hR1
    (try dsimp only at F')
    try clear F6 N6 hR6
    (show wpAny _ _ _ _ _ _)
    k_steps
    refine Hold.mk ?_
    rename_i kd hd1 od Fd Nd lod hd0 l1d
    have hdI : @Ne Nat kd I := neN (Nat.ne_of_gt l1d.1)
    clear F' N'
    k_dflt (refine made4 Fd Nd (UpdF.head (List.forall_mem_cons.mpr ⟨neN hdI.symm, allLt_ne l1d.2⟩)) hd0 ?_)
    intro hh2 od2 tk1 kvs F2 N2 hd3 hK
    clear Fd Nd hd0
    dsimp only
    k_steps
    refine Hold.mk ?_
    rename_i hx3 tkx al hx2 l1a hx1 Fa Na hx0 tkx0 tx1 ux1 vx1 hR6 F6 N6 hg6
    have hAK : @Ne Nat al kd := neN (Nat.ne_of_gt l1a.1)
    have hAI : @Ne Nat al I := neN (Nat.ne_of_gt l1a.2.1)
    have hAn : ∀ p ∈ nx, p.1 ≠ al := allLt_ne l1a.2.2
    have hKn : ∀ p ∈ nx, p.1 ≠ kd := allLt_ne l1d.2
    have hKall : ∀ p ∈ (I, oI) :: nx, p.1 ≠ kd := List.forall_mem_cons.mpr ⟨hdI.symm, hKn⟩
    have hAall : ∀ p ∈ (kd, od2) :: (I, oI) :: nx, p.1 ≠ al := List.forall_mem_cons.mpr ⟨hAK.symm, List.forall_mem_cons.mpr ⟨hAI.symm, hAn⟩⟩
    clear Fa Na F2 N2 hg6
    refine range_V (σ := Unit) (n := ka + 1) [] []
      (fun i _ nx' => ∃ od3 kvs vs n, nx' = (al, W.listOf vs.toArray n) :: (kd, od3) :: (I, oI) :: nx ∧ od3.IsDictOf (PySem.intKind PySem.Challenge.rw_pq0452_01.row.prog w) kvs ∧ KnIs ka line i kvs ∧ WtsAre vs (actP line 0 (wn.take i)))
      rfl hR6 (rangeSm (by omega)) (rangeSz _) F6 N6 () (fun _ h => nomatch h) ⟨od2, kvs, [], _, rfl, hd3, hK, by rw [List.take_zero]; exact .nil⟩ ?_ ?_
    · clear hd3 hK F6 N6 hR6
      rintro j t' ⟨⟩ u' nx2 h3 tk3 I2 oI2 hcI2 hj ⟨od3, kvs3, vs, n, rfl, hd4, hK4, hW4⟩ hoff2 F' N' R2 hR2
      have g1 : @Ne Nat I2 al := (neN (hoff2 _ (.head _))).symm
      have g2 : @Ne Nat I2 kd := (neN (hoff2 _ (.tail _ (.head _)))).symm
      have g3 : @Ne Nat I2 I := (neN (hoff2 _ (.tail _ (.tail _ (.head _))))).symm
      have g4 : ∀ p ∈ nx, p.1 ≠ I2 := fun p hp => hoff2 p (.tail _ (.tail _ (.tail _ hp)))
      have hjk : j ≤ ka := by omega
      have hkl := hK4.1
      obtain ⟨ta, hta⟩ := hI.get j (2 + (j : Int)) (anP_get hj)
      have hjw : j < wn.length := by omega
      obtain ⟨wv, hwv, hwt⟩ := hW.at (i := j) (b := wn[j]) (List.getElem?_eq_getElem hjw)
      have hvl : vs.length ≤ 100 := by
        have e1 := hW4.length
        have e2 := actP_len line (wn.take j) 0
        have e3 : (wn.take j).length ≤ j := by rw [List.length_take]; exact Nat.min_le_left _ _
        omega
      (try dsimp only at F')
      (show wpAny _ _ _ _ _ _)
      k_steps
      refine Hold.mk ?_
      k_steps
      refine Hold.mk ?_
      rename_i h4 od4 F5 N5 hd5
      have hx := KnIs.step hK4 hjk hd5
      clear hd5 F' N' hd4 hK4 hkl
      obtain ⟨kvs4, hh⟩ := hx
      have hd6 := hh.1
      have hK5 := hh.2
      clear hh
      have hx2 := hK5.at hjk
      have hact := actP_take (line := line) hjw
      generalize line / 2 ^ (j + 2) % 2 = bt at hx2 hact
      obtain ⟨tq2, hval⟩ := hx2
      dsimp only
      k_steps
      · rename_i hb1 _ _ Fz Nz
        have hb2 : bt = 1 := by omega
        refine hR2 _ _ ?_
        refine VEnd.next (st := ()) Fz Nz (List.forall_mem_cons.mpr ⟨g1.symm, List.forall_mem_cons.mpr ⟨g2.symm, List.forall_mem_cons.mpr ⟨g3.symm, g4⟩⟩⟩) (fun _ h => nomatch h) (by (intro z k1 k2; (have k4 := beq_eq_false_iff_ne.mpr k1); (simp only [List.contains_cons, List.contains_nil, Bool.or_false, Bool.or_eq_false_iff] at k2); (have k3 := k2); (simp only [beq_eq_false_iff_ne, ne_eq] at k1 k2); (simp [k1, k2, k3, k4, List.lookup_cons]))) ⟨od4, kvs4, _, _, rfl, hd6, hK5, ?_⟩
        rw [hact, if_pos hb2]
        exact wts_snoc hW4 hwt
      · rename_i hb1
        have hb2 : ¬ bt = 1 := by intro h; apply hb1; rw [h]; rfl
        refine hR2 _ _ ?_
        refine VEnd.next (st := ()) F5 N5 (List.forall_mem_cons.mpr ⟨g1.symm, List.forall_mem_cons.mpr ⟨g2.symm, List.forall_mem_cons.mpr ⟨g3.symm, g4⟩⟩⟩) (fun _ h => nomatch h) (by (intro z k1 k2; (have k4 := beq_eq_false_iff_ne.mpr k1); (simp only [List.contains_cons, List.contains_nil, Bool.or_false, Bool.or_eq_false_iff] at k2); (have k3 := k2); (simp only [beq_eq_false_iff_ne, ne_eq] at k1 k2); (simp [k1, k2, k3, k4, List.lookup_cons]))) ⟨od4, kvs4, _, _, rfl, hd6, hK5, ?_⟩
        rw [hact, if_neg hb2]
        exact hW4
    · clear hd3 hK F6 N6 hR6
      rintro u2 ⟨⟩ v2 nx2 h5 tk5 ⟨od3, kvs3, vs, n, rfl, hd4, hK4, hW4⟩ F' N'
      have htk : wn.take (ka + 1) = wn := List.take_of_length_le (by omega)
      rw [htk] at hW4
      have hvl : vs.length ≤ 100 := by
        have e1 := hW4.length
        have e2 := actP_len line wn 0
        have e3 := Hold.out hkaH
        omega
      have hpl := plain (Hold.out hkaH) hl (line := line) (by rw [← hPe] at hi; exact hi)
      rw [← hK4.of, hS] at hpl
      generalize actP line 0 wn = act at hW4 hpl
      have hint := hK4.int
      have hclk := hK4.clk
      have hold := hK4.old
      have hxl : ∃ lv, vs.length = lv := ⟨_, rfl⟩
      obtain ⟨lv, hlv⟩ := hxl
      (try dsimp only at F')
      (show wpAny _ _ _ _ _ _)
      k_steps
      · refine hR1 _ _ ?_
        refine VEnd.cont (st := ()) F' (newsSub N' (fun p hp => .tail _ (.tail _ hp))) hoff (fun _ h => nomatch h) (by (intro z k1 k2; (have k4 := beq_eq_false_iff_ne.mpr k1); (simp only [List.contains_cons, List.contains_nil, Bool.or_false, Bool.or_eq_false_iff] at k2); (have k3 := k2); (simp only [beq_eq_false_iff_ne, ne_eq] at k1 k2); (simp [k1, k2, k3, k4, List.lookup_cons]))) rfl
      have h1 : act.length ≤ 1 := by have := hW4.length; omega
      have hev := hpl h1
      obtain ⟨ev1, ev2, ev3⟩ := hev
      have hC4 := CellsAre.sub hC (rest' := (al, W.listOf vs.toArray n) :: (kd, od3) :: (I, oI) :: nx) (fun p hp => .tail _ (.tail _ (.tail _ hp)))
      have hxn4 : (xn, instObj 141 dn) ∈ (al, W.listOf vs.toArray n) :: (kd, od3) :: (I, oI) :: nx := .tail _ (.tail _ (.tail _ hxn))
      have hdn4 : (dn, netDict w nm c tc t1 t2 t3 t4 t5 li lo lc) ∈ (al, W.listOf vs.toArray n) :: (kd, od3) :: (I, oI) :: nx := .tail _ (.tail _ (.tail _ hdn))
      have hlc4 : (lc, W.listOf us.toArray nn) ∈ (al, W.listOf vs.toArray n) :: (kd, od3) :: (I, oI) :: nx := .tail _ (.tail _ (.tail _ hlc))
      have hkd4 : (kd, od3) ∈ (al, W.listOf vs.toArray n) :: (kd, od3) :: (I, oI) :: nx := .tail _ (.head _)
      have hbit := bit_ok w mean mg mb xn dn li lo lc kd nm c tc t1 t2 t3 t4 t5 us nn od3 kvs3 S.cells hd4 lod hint 3
      obtain ⟨tO, hvO⟩ := hold
      obtain ⟨tC, hvC⟩ := hclk
      clear hpl
      refine Hold.mk ?_
      have hx4 : act = [] ∨ act = [.non] ∨ act = [.one] ∨ act = [.zero] := by
        match act, h1 with
        | [], _ => exact .inl rfl
        | [.non], _ => exact .inr (.inl rfl)
        | [.one], _ => exact .inr (.inr (.inl rfl))
        | [.zero], _ => exact .inr (.inr (.inr rfl))
      rcases hx4 with rfl | rfl | rfl | rfl
      all_goals (
        simp only [List.cons.injEq, reduceCtorEq, and_true, and_false, false_and, if_true, if_false, ↓reduceIte] at ev1 ev2 ev3
        k_dflt (refine hbit _ _ _ _ _ _ _ _ _ _ _ _ callerA _ _ _ _ _ _ _ ((al, W.listOf vs.toArray n) :: (kd, od3) :: (I, oI) :: nx) S.r _ _ hxn4 hdn4 hlc4 hkd4 hC4 (by (first | decide | (dsimp only [callerA]; decide))) (by (first | decide | (dsimp only [callerA]; decide))) K0 F' X N' T ev1 ?_)
        intro tb1 hb1 kb1 Fq Nq
        clear F' N'
        (show wpAny _ _ _ _ _ _)
        k_steps
        refine Hold.mk ?_
        (rename Fr _ _ _ _ => F8)
        (rename News _ _ _ _ => N8)
        (try clear Fq)
        (try clear Nq)
        k_dflt (refine hbit _ _ _ _ _ _ _ _ _ _ _ _ callerA _ _ _ _ _ _ _ ((al, W.listOf vs.toArray n) :: (kd, od3) :: (I, oI) :: nx) S.l _ _ hxn4 hdn4 hlc4 hkd4 hC4 (by (first | decide | (dsimp only [callerA]; decide))) (by (first | decide | (dsimp only [callerA]; decide))) K0 F8 X (newsSub N8 (fun p hp => .tail _ hp)) T ev2 ?_)
        intro tb2 hb2 kb2 Fq2 Nq2
        clear F8 N8
        (show wpAny _ _ _ _ _ _)
        k_steps
        refine Hold.mk ?_
        (rename Fr _ _ _ _ => F9)
        (rename News _ _ _ _ => N9)
        (try clear Fq2)
        (try clear Nq2)
        k_dflt (refine hbit _ _ _ _ _ _ _ _ _ _ _ _ callerA _ _ _ _ _ _ _ ((al, W.listOf vs.toArray n) :: (kd, od3) :: (I, oI) :: nx) S.d _ _ hxn4 hdn4 hlc4 hkd4 hC4 (by (first | decide | (dsimp only [callerA]; decide))) (by (first | decide | (dsimp only [callerA]; decide))) K0 F9 X (newsSub N9 (fun p hp => .tail _ hp)) T ev3 ?_)
        intro tb3 hb3 kb3 Fq3 Nq3
        clear F9 N9
        (show wpAny _ _ _ _ _ _)
        k_steps
        · rename_i hne
          exact absurd rfl hne
        · (rename Fr _ _ _ _ => F10)
          (rename News _ _ _ _ => N10)
          refine hR1 _ _ ?_
          refine VEnd.next (st := ()) F10 (newsSub N10 (fun p hp => .tail _ (.tail _ (.tail _ hp)))) hoff (fun _ h => nomatch h) (by (intro z k1 k2; (have k4 := beq_eq_false_iff_ne.mpr k1); (simp only [List.contains_cons, List.contains_nil, Bool.or_false, Bool.or_eq_false_iff] at k2); (have k3 := k2); (simp only [beq_eq_false_iff_ne, ne_eq] at k1 k2); (simp [k1, k2, k3, k4, List.lookup_cons]))) rfl)
  · rintro u ⟨⟩ v nx h tk rfl F' N'
    exact H _ _ _ F'
end Mine
end

/-! ## Lw -/
theorem Mine.reset_Lw : True := by
  w_top off
  first | walk1 | trivial
section
open PySem PySem.W PyProof.Rows PySem.Calls PySem.W.X
set_option Elab.async false
set_option maxRecDepth 100000
set_option maxHeartbeats 1000000
set_option rowWalk.seconds 0
set_option pp.deepTerms false
set_option pp.deepTerms.threshold 6
set_option pp.maxSteps 3000
namespace Mine
set_option linter.unusedVariables false
local macro_rules | `(tactic| walk_at "pyIter ref") => `(tactic| ((with_reducible show wpAny _ _ (pyIter (Value.ref _)) (fun it s₂ => LoopAtV _ _ _ _ _ _ _ _ _ it s₂) _ _); refine Hold.out ?_))
local macro_rules | `(tactic| walk_at "call ref") => `(tactic| ((with_reducible show wpAny _ _ (call (Value.ref 229) _) _ _ _); refine Hold.out ?_))
local macro_rules | `(tactic| walk_at "call ref") => `(tactic| ((with_reducible show wpAny _ _ (call (Value.ref 236) _) _ _ _); refine Hold.out ?_))
local macro_rules | `(tactic| walk_at "call ref") => `(tactic| ((with_reducible show wpAny _ _ (call (Value.ref 61) _) _ _ _); refine Hold.out ?_))
local macro_rules | `(tactic| walk_at "call ref") => `(tactic| ((with_reducible show wpAny _ _ (call (Value.ref 68) _) _ _ _); refine Hold.out ?_))
local macro_rules | `(tactic| walk_at "call ref") => `(tactic| ((with_reducible show wpAny _ _ (call (Value.ref 241) _) _ _ _); refine Hold.out ?_))
local macro_rules | `(tactic| walk_at "call builtin:list.append") => `(tactic| (k_here; k_dflt (refine' appendL ?F ?N ?U ?z ?_; (case F => k_asm); (case N => k_asm); (case U => k_upd); (case z => omega)); (intro h' F' N'; (try dsimp only [List.nil_append, List.cons_append] at N'))))
local macro_rules | `(tactic| walk_at "subscriptTail") => `(tactic| ((with_reducible show wpAny _ _ (subscriptTail (PySem.Expr.List _ _) _ (Value.ref _) (Value.int _ _)) _ _ _); refine Hold.out ?_))
local macro_rules | `(tactic| walk_at "getMethod ref") => `(tactic| (k_here; (with_reducible show wpAny _ _ (getMethod (Value.ref _) (PySem.Str.ofString "append") _) _ _ _); k_dflt (refine' listMethod_K ?N ?m PySem.F.slot_list_append PySem.F.type_list_append ?_; (case N => k_asm); (case m => k_mem))))
local macro_rules | `(tactic| walk_at "callWith") => `(tactic| ((with_reducible show wpAny _ _ (callWith _ (Value.builtin _) (_ :: _) _ _) _ _ _); refine callWith_method1 ?_))
local macro_rules | `(tactic| walk_at "setItem ref int") => `(tactic| (k_here; k_dflt (refine' kda_set (knd := PySem.intKind _ _) ?F ?N ?U ?d (intKind_is _ _ _ _) ?z ?_; (case F => k_asm); (case N => k_asm); (case U => k_updF); (case d => assumption); (case z => (rw [PySem.sizeLine_eq]; omega))); intro h' o' F' N' hd'; (try dsimp only at N')))
local macro_rules | `(tactic| walk_at "newTuple") => `(tactic| (k_here; k_dflt (refine' kup_newTuple ?F ?N ?_ ?z; (case F => k_asm); (case N => k_asm); (case z => kmk_size)); intro D' h' F' N' l1; (try k_lt l1); (try k_sweep)))
local macro_rules | `(tactic| walk_at "call builtin:len") => `(tactic| (k_here; k_dflt (refine' lenL ?N ?q ?k ?b ?_; (case N => k_asm); (case q => k_mem); (case k => assumption); (case b => omega))))
local macro_rules | `(tactic| walk_at "compareOp In int ref") => `(tactic| (k_here; k_dflt (refine kda_in (knd := PySem.intKind _ _) (by k_asm) (by k_mem) (by assumption) (by assumption) (intKind_is _ _ _ _) _ (by assumption) ?_)))
local macro_rules | `(tactic| walk_at "compareOp NotIn int ref") => `(tactic| (k_here; k_dflt (refine kdg_notin (knd := PySem.intKind _ _) (by k_asm) (by k_mem) (by assumption) (by assumption) (intKind_is _ _ _ _) _ (by assumption) ?_)))
local macro_rules | `(tactic| walk_at "subscriptTail") => `(tactic| (k_here; (with_reducible show wpAny _ _ (subscriptTail (PySem.Expr.Name _ _) _ (Value.ref _) (Value.int _ _)) _ _ _); k_dflt (refine kda_item (knd := PySem.intKind _ _) (by k_asm) (by k_mem) (by assumption) (intKind_is _ _ _ _) (by assumption) ?_)))
local macro_rules | `(tactic| walk_at "exec Try cons cons nil nil") => `(tactic| (refine wpAny_Try_except ?_))
local macro_rules | `(tactic| walk_at "exec Try") => `(tactic| (refine wpAny_Try_except ?_))
local macro_rules | `(tactic| walk_at "compareOp In str ref") => `(tactic| ((with_reducible show wpAny _ _ (compareOp _ (Value.str _ _) (Value.ref _)) _ _ _); refine Hold.out ?_))
local macro_rules | `(tactic| walk_at "compareOp NotIn str ref") => `(tactic| ((with_reducible show wpAny _ _ (compareOp _ (Value.str _ _) (Value.ref _)) _ _ _); refine Hold.out ?_))
local macro_rules | `(tactic| walk_at "compareOp NotEq ref ref") => `(tactic| ((with_reducible show wpAny _ _ (compareOp _ (Value.ref _) (Value.ref _)) _ _ _); refine Hold.out ?_))
local macro_rules | `(tactic| walk_at "getMethod ref") => `(tactic| (k_here; (with_reducible show wpAny _ _ (getMethod (Value.ref _) (Str.ofString "get") _) _ _ _); k_dflt (refine' kdg_method (knd := intKind _ _) ?N ?q ?d ?_; (case N => k_asm); (case q => k_mem); (case d => assumption))))
local macro_rules | `(tactic| walk_at "call builtin:dict.get") => `(tactic| (k_here; k_dflt (refine' kdg_get2 (knd := intKind _ _) ?N ?q ?d ?l (intKind_is _ _ _ _) _ ?v ?_; (case N => k_asm); (case q => k_mem); (case d => assumption); (case l => assumption); (case v => assumption)); (try dsimp only [Option.getD])))
local macro_rules | `(tactic| walk_at "binaryOp Mult ref int") => `(tactic| (k_here; k_dflt (refine' mul3 ?F ?N ?m ?_; (case F => k_asm); (case N => k_asm); (case m => k_mem)); intro r' h' F' N' l1; (try k_lt l1)))
local macro_rules | `(tactic| walk_at "call ref") => `(tactic| ((with_reducible show wpAny _ _ (call (Value.ref _) [Value.ref _, Value.str _ _, Value.int _ _]) _ _ _); refine Hold.out ?_))
theorem ints2' {vs : List Value} {x y : Int} (h : IntsAre vs [x, y]) : ∃ ta tb, vs = [.int x ta, .int y tb] := by
  cases h with
  | cons _ ta h => cases h with
    | cons _ tb h => cases h; exact ⟨_, _, rfl⟩
local macro_rules | `(tactic| walk_at "exec Assign cons ListComp") => `(tactic| (k_here; k_dflt (refine LCg.Assign_ListComp_U (F₀ := by k_asm) (by rfl) (by with_unfolding_all rfl) (by with_unfolding_all rfl) (by decide) (by rfl) (by decide) (by rfl) (by rfl) (by rfl) ?_)))
local macro_rules | `(tactic| walk_at "CompSrc") => `(tactic| (refine Hold.out ?_))
theorem wt_of {kq : Nat} {v : Value} (h : kq < 3) (hv : ValIs v (([.num 1, .num 0, .non] : List BV).getD kq .non)) : ∃ wt, WtIs v wt := by
  obtain rfl | rfl | rfl : kq = 0 ∨ kq = 1 ∨ kq = 2 := by omega
  · exact ⟨.one, hv⟩
  · exact ⟨.zero, hv⟩
  · exact ⟨.non, hv⟩
theorem permA {α : Type} {a1 a2 a3 a4 a5 a6 a7 r l : α} {t : List α} : ∀ p ∈ a1 :: a2 :: a3 :: a4 :: a5 :: a6 :: a7 :: r :: t, p ∈ r :: l :: a1 :: a2 :: a3 :: a4 :: a5 :: a6 :: a7 :: t := (by (repeat' (first | with_reducible exact subRfl | exact subNil | refine subCons ?_ ?_ | refine subTail ?_ | with_reducible exact mem_head | refine List.mem_cons_of_mem _ ?_)))
theorem permB {α : Type} {a1 a2 a3 a4 a5 a6 a7 r l : α} {t : List α} : ∀ p ∈ r :: l :: a1 :: a2 :: a3 :: a4 :: a5 :: a6 :: a7 :: t, p ∈ l :: a1 :: a2 :: a3 :: a4 :: a5 :: a6 :: a7 :: r :: t := (by (repeat' (first | with_reducible exact subRfl | exact subNil | refine subCons ?_ ?_ | refine subTail ?_ | with_reducible exact mem_head | refine List.mem_cons_of_mem _ ?_)))
theorem over8 {m : Str → Option Value} {n1 n2 n3 n4 n5 n6 n7 n8 : Str} {v1 v2 v3 v4 v5 v6 v7 v8 : Option Value} (e1 : m n1 = v1) (e2 : m n2 = v2) (e3 : m n3 = v3) (e4 : m n4 = v4) (e5 : m n5 = v5) (e6 : m n6 = v6) (e7 : m n7 = v7) (e8 : m n8 = v8) :
    m = fun y => if y = n1 then v1 else if y = n2 then v2 else if y = n3 then v3 else if y = n4 then v4 else if y = n5 then v5 else if y = n6 then v6 else if y = n7 then v7 else if y = n8 then v8 else m y := by
  funext y
  (repeat' split) <;> first | (rename_i h; subst h; assumption) | rfl
theorem fr8 {h₀ h : Heap} {L : Addr} {m : Str → Option Value} {n1 n2 n3 n4 n5 n6 n7 n8 : Str} {v1 v2 v3 v4 v5 v6 v7 v8 : Option Value} (F : Fr h₀ L h m) (e1 : m n1 = v1) (e2 : m n2 = v2) (e3 : m n3 = v3) (e4 : m n4 = v4) (e5 : m n5 = v5) (e6 : m n6 = v6) (e7 : m n7 = v7) (e8 : m n8 = v8) :
    Fr h₀ L h fun y => if y = n1 then v1 else if y = n2 then v2 else if y = n3 then v3 else if y = n4 then v4 else if y = n5 then v5 else if y = n6 then v6 else if y = n7 then v7 else if y = n8 then v8 else m y :=
  (over8 e1 e2 e3 e4 e5 e6 e7 e8) ▸ F
theorem cbitsLen {vn mn : List Int} {j : Nat} (h1 : vn.length = j) (h2 : mn.length = j) : (cbits vn mn).length = j := by simp [cbits]; omega
local macro_rules | `(tactic| k_qdec) => `(tactic| decide +kernel)
def Mark2 : Prop := True
local macro_rules | `(tactic| walk_at "exec For Name Call cons nil") => `(tactic| (with_reducible rename Mark2 => mk2'; refine Hold.out ?_))
set_option maxHeartbeats 40000000 in
theorem tt : PySem.Challenge.rw_pq0452_01.Holds := by
  refine Mine.hd ?_ 
  k_go0
  all_goals try k_fold
  k_steps
  refine Hold.mk ?_
  rename_i w s0 s1 mg mb G Y fa oo pm doc ho hg KX X V GL T BB TE TW _ _ M _ wc hcd ns hs hlay0 hL1 hr1 hl2 _ _ D us _ hL ra w1 r0 hI hr hcond _ K0 hD h1 tk1 F wo hwo N0 X0
  have hlen : us.length ≤ 63 := by have := hI.length; omega
  clear GL V X BB TE TW M
  k_dflt (refine' tacks_ok w _ mg mb _ _ _ _ _ _ _ _ _ callerA _ _ _ _ _ _ _ D us ns _ K0 F KX N0 T rfl hI hL hlen (by (first | decide | (dsimp only [callerA]; decide))) (by (first | decide | (dsimp only [callerA]; decide))) ?_)
  intro r bv bn n2 h2 tk2 hB hBl F2 N2 hr2
  clear F N0 X0
  (show wpAny _ _ _ _ _ _)
  k_steps
  refine Hold.mk ?_
  rename_i hcH oc Fc Nc hcell rd hh1 oR lr loR _ _ hR0 _ hh2 dd hh3 oD loD _ _ hD0 _ ld h4 F4 N4
  simp only [List.cons_append, List.nil_append, AllLt, and_true] at N4 ld lr
  have hr_rd : @LT.lt Nat _ r rd := lr _ (.head _)
  have hc_rd : @LT.lt Nat _ (s1.heap.objs.size + 1) rd := lr _ (.tail _ (.head _))
  have hc_r : @Ne Nat (s1.heap.objs.size + 1) r := hr2 _ (.head _)
  obtain ⟨hrd_dd, hr_dd, hc_dd⟩ := ld
  clear lr Fc Nc
  k_dflt (refine' tack_ok w _ mg mb _ _ _ _ _ _ _ _ _ callerA _ _ _ _ _ _ _ r bv bn n2 [(rd, oR), (dd, oD), (s1.heap.objs.size + 1, oc)] 4 _ K0 F4 KX (newsSub N4 (by (repeat' (first | with_reducible exact subRfl | exact subNil | refine subCons ?_ ?_ | refine subTail ?_ | with_reducible exact mem_head | refine List.mem_cons_of_mem _ ?_)))) T rfl (by (intro p hp; simp only [List.mem_cons, List.not_mem_nil, or_false] at hp; rcases hp with rfl | rfl | rfl <;> k_ne)) hB (Nat.le_trans hBl (by decide)) (by decide) (by decide) (by (first | decide | (dsimp only [callerA]; decide))) (by (first | decide | (dsimp only [callerA]; decide))) ?_)
  intro k0 t0 bv2 bn2 n3 h5 tk5 hk0 hk4 hB2 hBl2 F5 N5
  clear F4 N4
  obtain ⟨kn, rfl⟩ : ∃ kn : Nat, k0 = (kn : Int) := exNat hk0
  have hkn : Hold (kn ≤ 3) := Hold.mk (Nat.le_of_lt_succ (ltNat (m := 4) hk4))
  have hkn2 : kn ≤ 100 := le100 (Hold.out hkn)
  clear hk0 hk4
  (show wpAny _ _ _ _ _ _)
  k_steps
  refine Hold.mk ?_
  rename_i hR6 F6 N6 _
  try clear F5 N5
  refine range_V (σ := Unit) (n := kn) [] [Str.ofString "value", Str.ofString "marks", Str.ofString "bits", Str.ofString "bit", Str.ofString "sort"]
    (fun i _ nx => ∃ bv bn n ext oR oD kvR kvD, nx = (r, W.listOf bv.toArray n) :: (rd, oR) :: (dd, oD) :: (s1.heap.objs.size + 1, oc) :: ext ∧ IntsAre bv bn ∧ bv.length ≤ 60 ∧ KeysOk PySem.Challenge.rw_pq0452_01.row.prog w ext oR oD kvR kvD i ∧ (∀ p ∈ ext, p.1 ≠ r) ∧ (∀ p ∈ ext, p.1 ≠ rd) ∧ (∀ p ∈ ext, p.1 ≠ dd))
    rfl hR6 (rangeSm (le1000 hkn2)) (rangeSz _) F6 N6 () (fun _ h => nomatch h) ⟨bv2, bn2, _, [], oR, oD, [], [], rfl, hB2, Nat.le_trans hBl2 hBl, ⟨hR0, hD0, Nat.le_refl _, Nat.le_refl _, fun k h => absurd h (Nat.not_lt_zero k), fun _ _ => ⟨rfl, rfl⟩, (fun _ h => nomatch h)⟩, (fun _ h => nomatch h), (fun _ h => nomatch h), (fun _ h => nomatch h)⟩ ?_ ?_
  · rintro i t ⟨⟩ u nx h tk I oI hcI hi ⟨bv, bn, n, ext, oR', oD', kvR, kvD, rfl, hB, hBl, KO, e1, e2, e3⟩ hoff F' N' R1 hR1
    have hIr := neN (hoff _ (.head _))
    have hIR := neN (hoff _ (.tail _ (.head _)))
    have hID := neN (hoff _ (.tail _ (.tail _ (.head _))))
    have hIc := neN (hoff _ (.tail _ (.tail _ (.tail _ (.head _)))))
    have hIe : ∀ p ∈ ext, p.1 ≠ I := fun p hp => hoff p (.tail _ (.tail _ (.tail _ (.tail _ hp))))
    dsimp only at hIr hIR hID hIc F'
    clear F6 N6 hB2 hR0 hD0
    (show wpAny _ _ _ _ _ _)
    k_steps
    refine Hold.mk ?_
    rename_i va hh1 Fq Nq lva hh2 tq1 ma hh3 lma hh4 tq2 ba hh5 lba hh6 lF' N7
    k_dflt (refine' tack_ok w _ mg mb _ _ _ _ _ _ _ _ _ callerA _ _ _ _ _ _ _ r bv bn n ((ba, W.listOf #[] 0) :: (ma, W.listOf #[] 0) :: (va, W.listOf #[] 0) :: (I, oI) :: (rd, oR') :: (dd, oD') :: (s1.heap.objs.size + 1, oc) :: ext) 4 _ K0 lF' KX (newsSub N7 (by (repeat' (first | with_reducible exact subRfl | exact subNil | refine subCons ?_ ?_ | refine subTail ?_ | with_reducible exact mem_head | refine List.mem_cons_of_mem _ ?_)))) T rfl (by (repeat' (first | assumption | (refine List.forall_mem_cons.mpr ⟨?_, ?_⟩) | k_ne | exact allLt_ne (by assumption)))) hB (Nat.le_trans hBl (by decide)) (by decide) (by decide) (by (first | decide | (dsimp only [callerA]; decide))) (by (first | decide | (dsimp only [callerA]; decide))) ?_)
    intro k0 t0 bv3 bn3 n4 h6 tk6 hk0 hk4 hB3 hBl3 F8 N8
    clear lF' N7
    obtain ⟨kb, rfl⟩ : ∃ kb : Nat, k0 = (kb : Int) := exNat hk0
    have hkb : Hold (kb ≤ 3) := Hold.mk (Nat.le_of_lt_succ (ltNat (m := 4) hk4))
    have hkb2 : kb ≤ 100 := le100 (Hold.out hkb)
    clear hk0 hk4
    (show wpAny _ _ _ _ _ _)
    k_steps
    refine Hold.mk ?_
    rename_i hR9 F9 N9 _
    try clear F8 N8
    have hk1 : (1 : Int) + (kb : Int) = ((kb + 1 : Nat) : Int) := onePlus kb
    rw [hk1] at hR9
    have hkI := neN (Nat.ne_of_gt lva.1)
    have hkJ := neN (Nat.ne_of_gt lma.2.1)
    have hkK := neN (Nat.ne_of_gt lba.2.2.1)
    refine range_V (σ := Unit) (n := kb + 1) [] [Str.ofString "sort"]
      (fun j _ nx => ∃ bv bn n vs ms bs vn mn nv nm nb, nx = (r, W.listOf bv.toArray n) :: (ba, W.listOf bs.toArray nb) :: (ma, W.listOf ms.toArray nm) :: (va, W.listOf vs.toArray nv) :: (I, oI) :: (rd, oR') :: (dd, oD') :: (s1.heap.objs.size + 1, oc) :: ext ∧ IntsAre bv bn ∧ bv.length ≤ 60 ∧ IntsAre vs vn ∧ IntsAre ms mn ∧ ValsAre bs (cbits vn mn) ∧ vn.length = j ∧ mn.length = j)
      rfl hR9 (rangeSm (s1000 hkb2)) (rangeSz _) F9 N9 () (fun _ h => nomatch h) ⟨bv3, bn3, _, [], [], [], [], [], _, _, _, rfl, hB3, Nat.le_trans hBl3 hBl, .nil, .nil, .nil, rfl, rfl⟩ ?_ ?_
    · rintro j t' ⟨⟩ u' nx h tk I2 oI2 hcI2 hj ⟨bw, bwn, nw, vs, ms, bs, vn, mn, nv, nm, nb, rfl, hBw, hBwl, hvs, hms, hbs, hvl, hml⟩ hoff2 F' N' R2 hR2
      have g1 := neN (hoff2 _ (.head _))
      have g2 := neN (hoff2 _ (.tail _ (.head _)))
      have g3 := neN (hoff2 _ (.tail _ (.tail _ (.head _))))
      have g4 := neN (hoff2 _ (.tail _ (.tail _ (.tail _ (.head _)))))
      have g5 := neN (hoff2 _ (.tail _ (.tail _ (.tail _ (.tail _ (.head _))))))
      have g6 := neN (hoff2 _ (.tail _ (.tail _ (.tail _ (.tail _ (.tail _ (.head _)))))))
      have g7 := neN (hoff2 _ (.tail _ (.tail _ (.tail _ (.tail _ (.tail _ (.tail _ (.head _))))))))
      have g8 := neN (hoff2 _ (.tail _ (.tail _ (.tail _ (.tail _ (.tail _ (.tail _ (.tail _ (.head _)))))))))
      have g9 : ∀ p ∈ ext, p.1 ≠ I2 := fun p hp => hoff2 p (.tail _ (.tail _ (.tail _ (.tail _ (.tail _ (.tail _ (.tail _ (.tail _ hp))))))))
      dsimp only at g1 g2 g3 g4 g5 g6 g7 g8 F'
      have hl1 := hvs.length
      have hl2 := hms.length
      have hl3 := hbs.length
      have hl4 : (cbits vn mn).length = j := cbitsLen hvl hml
      have hj3 : j ≤ 100 := Nat.le_trans (Nat.le_of_lt_succ hj) hkb2
      clear F9 N9 hB3
      (show wpAny _ _ _ _ _ _)
      k_steps
      refine Hold.mk ?_
      k_dflt (refine' tack_ok w _ mg mb _ _ _ _ _ _ _ _ _ callerA _ _ _ _ _ _ _ r bw bwn nw ((I2, oI2) :: (ba, W.listOf bs.toArray nb) :: (ma, W.listOf ms.toArray nm) :: (va, W.listOf vs.toArray nv) :: (I, oI) :: (rd, oR') :: (dd, oD') :: (s1.heap.objs.size + 1, oc) :: ext) 7 _ K0 F' KX (newsSub N' (by (repeat' (first | with_reducible exact subRfl | exact subNil | refine subCons ?_ ?_ | refine subTail ?_ | with_reducible exact mem_head | refine List.mem_cons_of_mem _ ?_)))) T rfl (by (repeat' (first | assumption | (refine List.forall_mem_cons.mpr ⟨?_, ?_⟩) | k_ne | exact allLt_ne (by assumption)))) hBw (Nat.le_trans hBwl (by decide)) (by decide) (by decide) (by (first | decide | (dsimp only [callerA]; decide))) (by (first | decide | (dsimp only [callerA]; decide))) ?_)
      intro k1 t1 bx bxn n5 h7 tk7 hk10 hk17 hBx hBxl Fa Na
      clear F' N'
      obtain ⟨ks, rfl⟩ : ∃ ks : Nat, k1 = (ks : Int) := exNat hk10
      have hks : Hold (ks < 7) := Hold.mk (ltNat (m := 7) hk17)
      clear hk10 hk17
      (show wpAny _ _ _ _ _ _)
      k_steps
      refine Hold.mk ?_
      k_dflt (refine' itemInts (ns := vMenu) (by k_asm) (by k_mem) (by (repeat' (first | exact IntsAre.nil | apply IntsAre.cons))) (Hold.out hks) (by decide) ?_)
      intro tv1
      (try dsimp only)
      k_steps
      refine Hold.mk ?_
      k_dflt (refine' itemInts (ns := mMenu) (by k_asm) (by k_mem) (by (repeat' (first | exact IntsAre.nil | apply IntsAre.cons))) (Hold.out hks) (by decide) ?_)
      intro tv2
      (try dsimp only)
      k_steps
      refine Hold.mk ?_
      k_dflt (refine' itemVals (bs := bMenu) (by k_asm) (by k_mem) (by (repeat' (first | exact ValsAre.nil | exact ValsAre.cons ⟨_, rfl⟩ (by assumption) | refine ValsAre.cons (by first | exact rfl | exact ⟨_, rfl⟩) ?_))) (Hold.out hks) (by decide) ?_)
      intro v3 hv3
      (try dsimp only)
      k_steps
      (rename Fr _ _ _ _ => Fz)
      (rename News _ _ _ _ => Nz)
      refine hR2 _ _ ?_
      refine VEnd.next (st := ()) (nx := (r, W.listOf bx.toArray n5) :: (ba, W.listOf (bs ++ [v3]).toArray (nb + 1)) :: (ma, W.listOf (ms ++ [Value.int (mMenu.getD ks 0) tv2]).toArray (nm + 1)) :: (va, W.listOf (vs ++ [Value.int (vMenu.getD ks 0) tv1]).toArray (nv + 1)) :: (I, oI) :: (rd, oR') :: (dd, oD') :: (s1.heap.objs.size + 1, oc) :: ext) Fz (newsSub Nz (by (repeat' (first | with_reducible exact subRfl | exact subNil | refine subCons ?_ ?_ | refine subTail ?_ | with_reducible exact mem_head | refine List.mem_cons_of_mem _ ?_)))) (by (repeat' (first | assumption | (refine List.forall_mem_cons.mpr ⟨?_, ?_⟩) | k_ne | exact allLt_ne (by assumption)))) (fun _ h => nomatch h) (by (intro z k1 k2; (have k4 := beq_eq_false_iff_ne.mpr k1); (simp only [List.contains_cons, List.contains_nil, Bool.or_false, Bool.or_eq_false_iff] at k2); (have k3 := k2); (simp only [beq_eq_false_iff_ne, ne_eq] at k1 k2); (simp [k1, k2, k3, k4, List.lookup_cons]))) ⟨bx, bxn, n5, vs ++ [Value.int (vMenu.getD ks 0) tv1], ms ++ [Value.int (mMenu.getD ks 0) tv2], bs ++ [v3], vn ++ [vMenu.getD ks 0], mn ++ [mMenu.getD ks 0], nv + 1, nm + 1, nb + 1, rfl, hBx, Nat.le_trans hBxl hBwl, ints_snoc hvs _ _, ints_snoc hms _ _, vals_snoc hbs (by omega) (Hold.out hks) hv3, by simp [hvl], by simp [hml]⟩
    · rintro u' ⟨⟩ v' nx h tk ⟨bw, bwn, nw, vs, ms, bs, vn, mn, nv, nm, nb, rfl, hBw, hBwl, hvs, hms, hbs, hvl, hml⟩ F' N'
      (try dsimp only at F')
      clear F9 N9 hB3
      have hnR := (KO.no i (Nat.le_refl _)).1
      have hnD := (KO.no i (Nat.le_refl _)).2
      have hRd := KO.R
      have hDd := KO.D
      have hlR := KO.lR
      have hlD := KO.lD
      (show wpAny _ _ _ _ _ _)
      k_steps
      rename_i tp _ _ _ ltp _ oR2 _ _ hR2 _ oD2 Fz Nz hD2
      have hkb4 := Hold.out hkb
      refine hR1 _ _ ?_
      refine VEnd.next (st := ()) (nx := (r, W.listOf bw.toArray nw) :: (rd, oR2) :: (dd, oD2) :: (s1.heap.objs.size + 1, oc) :: (tp, tupleObj [.ref va, .ref ma]) :: (ba, W.listOf bs.toArray nb) :: (ma, W.listOf ms.toArray nm) :: (va, W.listOf vs.toArray nv) :: ext) Fz (newsSub Nz (by (repeat' (first | with_reducible exact subRfl | exact subNil | refine subCons ?_ ?_ | refine subTail ?_ | with_reducible exact mem_head | refine List.mem_cons_of_mem _ ?_)))) (by (repeat' (first | assumption | (refine List.forall_mem_cons.mpr ⟨?_, ?_⟩) | k_ne | exact allLt_ne (by assumption)))) (fun _ h => nomatch h) (by (intro z k1 k2; (have k4 := beq_eq_false_iff_ne.mpr k1); (simp only [List.contains_cons, List.contains_nil, Bool.or_false, Bool.or_eq_false_iff] at k2); (have k3 := k2); (simp only [beq_eq_false_iff_ne, ne_eq] at k1 k2); (simp [k1, k2, k3, k4, List.lookup_cons])))
        ⟨bw, bwn, nw, _, oR2, oD2, _, _, rfl, hBw, hBwl, KO.step hR2 hD2 (fun p hp => .tail _ (.tail _ (.tail _ (.tail _ hp)))) (List.forall_mem_cons.mpr ⟨by simp, List.forall_mem_cons.mpr ⟨by simp, List.forall_mem_cons.mpr ⟨by simp, List.forall_mem_cons.mpr ⟨by simp, KO.tb⟩⟩⟩⟩) (.head _) (.tail _ (.tail _ (.tail _ (.head _)))) (.tail _ (.tail _ (.head _))) (.tail _ (.head _)) hvs hms hbs (hvl.trans hml.symm) (by omega), ?_, ?_, ?_⟩
      all_goals (repeat' (first | assumption | (refine List.forall_mem_cons.mpr ⟨?_, ?_⟩) | k_ne | exact allLt_ne (by assumption)))
  · rintro u ⟨⟩ v nx h tk ⟨bv, bn, n, ext, oR', oD', kvR, kvD, rfl, hB, hBl, KO, e1, e2, e3⟩ F' N'
    clear F6 N6 hB2 hR0 hD0
    (show wpAny _ _ _ _ _ _)
    k_steps
    refine Hold.mk ?_
    rename_i hRb Fb Nb _
    try clear F' N'
    refine range_V (σ := Unit) (n := 5) [] [Str.ofString "size", Str.ofString "told", Str.ofString "error"]
      (fun _ _ nx => nx = (r, W.listOf bv.toArray n) :: (rd, oR') :: (dd, oD') :: (s1.heap.objs.size + 1, oc) :: ext)
      rfl hRb (by decide) (by decide) Fb Nb () (fun _ h => nomatch h) rfl ?_ ?_
    · rintro i t ⟨⟩ u nx h tk I oI hcI hi rfl hoff F' N' R1 hR1
      have hIr := neN (hoff _ (.head _))
      have hIR := neN (hoff _ (.tail _ (.head _)))
      have hID := neN (hoff _ (.tail _ (.tail _ (.head _))))
      have hIc := neN (hoff _ (.tail _ (.tail _ (.tail _ (.head _)))))
      have hIe : ∀ p ∈ ext, p.1 ≠ I := fun p hp => hoff p (.tail _ (.tail _ (.tail _ (.tail _ hp))))
      dsimp only at hIr hIR hID hIc F'
      clear Fb Nb
      have hRd := KO.R
      have hDd := KO.D
      by_cases hik : i < kn
      · obtain ⟨tp, va, ma, ba, vs, ms, bs, vn, mn, nv, nm, nb, ev1, ev2, m1, m2, m3, m4, hvs, hms, hbs, hvl, hv4⟩ := KO.at' i hik
        have eb1 : (valueAt kvR (i : Int)).isSome = true := by rw [ev1]; rfl
        have eb2 : (valueAt kvD (i : Int)).isSome = true := by rw [ev2]; rfl
        have hbl : bs.length = vn.length := hbs.length.trans (cbitsLen rfl hvl.symm)
        have hme : (cbits vn mn).length = vn.length := cbitsLen rfl hvl.symm
        (show wpAny _ _ _ _ _ _)
        k_steps
        refine Hold.mk ?_
        (rename Fr _ _ _ _ => Fc)
        (rename News _ _ _ _ => Nc)
        have hx5 : ∀ p ∈ ext, p ∈ (I, oI) :: (r, W.listOf bv.toArray n) :: (rd, oR') :: (dd, oD') :: (s1.heap.objs.size + 1, oc) :: ext := fun p hp => .tail _ (.tail _ (.tail _ (.tail _ (.tail _ hp))))
        k_dflt (refine cb_some_law w _ mg mb _ _ _ _ _ callerA _ _ _ _ _ _ _ rd tp va ma oR' kvR ((I, oI) :: (r, W.listOf bv.toArray n) :: (rd, oR') :: (dd, oD') :: (s1.heap.objs.size + 1, oc) :: ext) (i : Int) _ _ vs ms vn mn nv nm vn.length K0 Fc KX Nc T rfl (.tail _ (.tail _ (.head _))) hRd loR ev1 (hx5 _ m1) (hx5 _ m2) (hx5 _ m3) hvs hms rfl hvl.symm (by omega) ?_ ?_)
        · intro rr hh tkk fs nf hgood hfs Fd Nd hnew
          clear Fc Nc
          (show wpAny _ _ _ _ _ _)
          k_steps
          refine Hold.mk ?_
          k_dflt (refine in_vals (by k_asm) (.tail _ (hx5 _ m4)) hbs false (by simp only [Bool.false_eq_true, false_iff]; rintro ⟨x, hx, rfl⟩; exact hgood _ hx rfl) ?_)
          k_steps
          refine Hold.mk ?_
          k_dflt (refine ne_vals (by k_asm) (by k_mem) (.tail _ (.tail _ (.tail _ (hx5 _ m4)))) hfs hbs (Nat.le_of_ble_eq_true rfl) ?_)
          k_steps
          (rename Fr _ _ _ _ => Fz)
          (rename News _ _ _ _ => Nz)
          refine hR1 _ _ ?_
          exact VEnd.next (st := ()) Fz (newsSub Nz (by (repeat' (first | with_reducible exact subRfl | exact subNil | refine subCons ?_ ?_ | refine subTail ?_ | with_reducible exact mem_head | refine List.mem_cons_of_mem _ ?_)))) hoff (fun _ h => nomatch h) (by (intro z k1 k2; (have k4 := beq_eq_false_iff_ne.mpr k1); (simp only [List.contains_cons, List.contains_nil, Bool.or_false, Bool.or_eq_false_iff] at k2); (have k3 := k2); (simp only [beq_eq_false_iff_ne, ne_eq] at k1 k2); (simp [k1, k2, k3, k4, List.lookup_cons]))) rfl
        · intro ex dx d' hx1 hx2 hx3 tx1 tx2 tx3 tx4 hh tkk hbad RR
          clear Fc Nc
          have htb : ∀ p ∈ (I, oI) :: (r, W.listOf bv.toArray n) :: (rd, oR') :: (dd, oD') :: (s1.heap.objs.size + 1, oc) :: ext, NoTb p.2 := by
            obtain ⟨_, _, hcR, _⟩ := hRd
            obtain ⟨_, _, hcD, _⟩ := hDd
            exact List.forall_mem_cons.mpr ⟨.inl (by rw [hcI]; simp), List.forall_mem_cons.mpr ⟨.inl (by simp), List.forall_mem_cons.mpr ⟨.inl (by rw [hcR.1]; simp), List.forall_mem_cons.mpr ⟨.inl (by rw [hcD.1]; simp), List.forall_mem_cons.mpr ⟨.inr (by rw [hcell]; simp), fun p hp => .inl (KO.tb p hp)⟩⟩⟩⟩⟩
          have hsz0 : s1.heap.objs.size ≤ hh.objs.size := Nat.le_of_lt (Nat.lt_of_le_of_lt RR.F.above RR.F.ns.lt)
          k_dflt (refine note_next (b₀ := s1.heap) hsz0 rfl RR.FF rfl RR.noted (fun h2 T hTb hT P hn FF2 => ?_))
          obtain ⟨oT, ts, hgT, hdT, hcT⟩ := hT
          have R2 := raised_keep RR htb hTb hgT hdT hcT P hn FF2
          k_dflt (refine wpAny_handleBy_cons (codeAny_handlers_test ?_) (by intro q; cases q))
          have F2' := R2.F
          have N2' := R2.N
          (show wpAny _ _ _ _ _ _)
          k_steps
          obtain ⟨T2, oT2, ts2, x2, x3, x4, x5, sl2, he2, hr2'⟩ := id R2.noted
          k_dflt (refine (exm_one (K := Mine.hd.heap_1 w.params) (KX.keeps R2.F.keep) ((Looks.ld (part := none) he2).andThen .now) (by kts_exm)).here ?_)
          clear he2 hr2' F2' N2'
          (try dsimp only)
          k_dflt (refine codeAny_handlers_suite_as ?_)
          k_dflt (refine raised_flight R2 htb (fun h3 R3 => ?_))
          obtain ⟨T3, y2, y3, y4, y5, sl3, N3⟩ := raised_news R3
          have F3 := R3.F
          have en1 := R3.en
          (show wpAny _ _ _ _ _ _)
          k_steps
          (rename Fr _ _ _ _ => Fz)
          (rename News _ _ _ _ => Nz)
          k_dflt (refine attr_kind w _ _ _ _ _ ex dx T3 d' hx1 hx2 hx3 tx1 tx2 tx3 tx4 y2 y3 y4 y5 sl3 _ _ (KX.keeps Fz.keep) (by k_is) (by k_is) (Nz _ (.head _)).1 (Nz _ (.tail _ (.head _))).1 ?_)
          rw [show sAnc = Str.ofString "async_not_constant" from by decide +kernel]
          k_steps
          refine Hold.mk ?_
          k_dflt (refine notin_vals (by k_asm) (.tail _ (.tail _ (hx5 _ m4))) hbs true (by simp only [true_iff]; exact hbad) ?_)
          k_steps
          (rename Fr _ _ _ _ => Fy)
          (rename News _ _ _ _ => Ny)
          k_dflt (refine wpAny_nameGoes_keeps (by rfl) Fy.ns (by rfl) (fun hg vg hng hsg => ?_))
          have Fg := Fy.set hng hsg
          have Ng := Ny.set hsg
          clear Fy Ny
          (try dsimp only)
          (show wpAny _ _ _ _ _ _)
          k_steps
          refine hR1 _ _ ?_
          refine VEnd.next (st := ()) (oI := oI) (nx := (r, W.listOf bv.toArray n) :: (rd, oR') :: (dd, oD') :: (s1.heap.objs.size + 1, oc) :: ext) Fg (newsSub Ng (by (repeat' (first | with_reducible exact subRfl | exact subNil | refine subCons ?_ ?_ | refine subTail ?_ | with_reducible exact mem_head | refine List.mem_cons_of_mem _ ?_)))) hoff (fun _ h => nomatch h) ?_ rfl
          (intro z k1 k2; (have k4 := beq_eq_false_iff_ne.mpr k1); (simp only [List.contains_cons, List.contains_nil, Bool.or_false, Bool.or_eq_false_iff] at k2); (have k3 := k2); (simp only [beq_eq_false_iff_ne, ne_eq] at k1 k2); (simp [k1, k2, k3, k4, List.lookup_cons]))
      · have eb0 := KO.no i (Nat.le_of_not_lt hik)
        have ev1 := eb0.1
        have ev2 := eb0.2
        have eb1 : (valueAt kvR (i : Int)).isSome = false := by rw [ev1]; rfl
        have eb2 : (valueAt kvD (i : Int)).isSome = false := by rw [ev2]; rfl
        (show wpAny _ _ _ _ _ _)
        k_steps
        refine Hold.mk ?_
        (rename Fr _ _ _ _ => Fc)
        (rename News _ _ _ _ => Nc)
        k_dflt (refine cb_none_law w _ mg mb _ _ _ _ _ callerA _ _ _ _ _ _ _ rd oR' kvR ((I, oI) :: (r, W.listOf bv.toArray n) :: (rd, oR') :: (dd, oD') :: (s1.heap.objs.size + 1, oc) :: ext) (i : Int) _ _ K0 Fc KX Nc T rfl (.tail _ (.tail _ (.head _))) hRd loR eb1 ?_)
        intro rr hh tkk nf Fd Nd hnew
        clear Fc Nc
        (show wpAny _ _ _ _ _ _)
        k_steps
        refine Hold.mk ?_
        k_dflt (refine ne_vals (B := [.non, .non, .non]) (by k_asm) (by k_mem) (.head _) (by (repeat' (first | exact ValsAre.nil | exact ValsAre.cons ⟨_, rfl⟩ (by assumption) | refine ValsAre.cons (by first | exact rfl | exact ⟨_, rfl⟩) ?_))) (by (repeat' (first | exact ValsAre.nil | exact ValsAre.cons ⟨_, rfl⟩ (by assumption) | refine ValsAre.cons (by first | exact rfl | exact ⟨_, rfl⟩) ?_))) (Nat.le_of_ble_eq_true rfl) ?_)
        k_steps
        (rename Fr _ _ _ _ => Fz)
        (rename News _ _ _ _ => Nz)
        refine hR1 _ _ ?_
        exact VEnd.next (st := ()) Fz (newsSub Nz (by (repeat' (first | with_reducible exact subRfl | exact subNil | refine subCons ?_ ?_ | refine subTail ?_ | with_reducible exact mem_head | refine List.mem_cons_of_mem _ ?_)))) hoff (fun _ h => nomatch h) (by (intro z k1 k2; (have k4 := beq_eq_false_iff_ne.mpr k1); (simp only [List.contains_cons, List.contains_nil, Bool.or_false, Bool.or_eq_false_iff] at k2); (have k3 := k2); (simp only [beq_eq_false_iff_ne, ne_eq] at k1 k2); (simp [k1, k2, k3, k4, List.lookup_cons]))) rfl
    · rintro u2 ⟨⟩ v2 nx h tk rfl F' N'
      clear Fb Nb
      (show wpAny _ _ _ _ _ _)
      k_steps
      refine Hold.mk ?_
      rename_i xn dn _ _ _ _ _ _ _ _ _ _ _ _ _ _ _ _ _ _ li _ _ _ _ lo _ _ _ _ lc _ _ _ _ _ _ _ _ _ _ xg dg _ _ _ _ _ _ _ _ _ _ _ _ ma _ oM loM _ _ hiM _ _ _ op _ oOp loO _ _ hiO _ _ _ _ _ _ _ _ Fq Nq
      have hlt : ((@LT.lt Nat _ dn xn ∧ @LT.lt Nat _ r dn ∧ @LT.lt Nat _ rd dn ∧ @LT.lt Nat _ dd dn ∧ @LT.lt Nat _ (s1.heap.objs.size + 1) dn) ∧ (@LT.lt Nat _ xn li ∧ @LT.lt Nat _ li lo ∧ @LT.lt Nat _ lo lc ∧ @LT.lt Nat _ lc dg ∧ @LT.lt Nat _ dg xg ∧ @LT.lt Nat _ xg ma ∧ @LT.lt Nat _ ma op)) := by
        refine ⟨⟨?_, ?_, ?_, ?_, ?_⟩, ?_, ?_, ?_, ?_, ?_, ?_, ?_⟩ <;> first | assumption | omega
      have hdnE : ∀ p ∈ ext, p.1 < dn := by
        (rename _ ∧ _ ∧ _ ∧ _ ∧ AllLt dn ext => hA)
        exact tb_ltOf hA.2.2.2.2
      obtain ⟨⟨q1, q2, q3, q4, q5⟩, q6, q7, q8, q9, q10, q11, q12⟩ := hlt
      obtain ⟨nm, tc, t1, t2, t3, t4, t5, g1, g2, g3, Nq2⟩ : ∃ nm tc t1 t2 t3 t4 t5 g1 g2 g3, News s1.heap s1.heap.objs.size _ ((op, oOp) :: (ma, oM) :: (xg, instObj 218 dg) :: (dg, gDict w g1 g2 g3 xn ma op) :: (lc, W.listOf (([] : List Value).toArray) 0) :: (lo, W.listOf (([] : List Value).toArray) 0) :: (li, W.listOf (([] : List Value).toArray) 0) :: (xn, instObj 141 dn) :: (dn, netDict w nm 2 tc t1 t2 t3 t4 t5 li lo lc) :: (r, W.listOf bv.toArray n) :: (rd, oR') :: (dd, oD') :: (s1.heap.objs.size + 1, oc) :: ext) := ⟨_, _, _, _, _, _, _, _, _, _, Nq⟩
      clear Nq
      have hEx : ∀ a : Nat, @LE.le Nat _ dn a → ∀ p ∈ ext, p.1 ≠ a := fun a ha p hp => Nat.ne_of_lt (Nat.lt_of_lt_of_le (hdnE p hp) ha)
      have hEdn : ∀ p ∈ ext, p.1 ≠ dn := hEx dn (Nat.le_refl _)
      have hEli : ∀ p ∈ ext, p.1 ≠ li := hEx li (by omega)
      have hElc : ∀ p ∈ ext, p.1 ≠ lc := hEx lc (by omega)
      have hEma : ∀ p ∈ ext, p.1 ≠ ma := hEx ma (by omega)
      k_dflt (refine' tack_ok w _ mg mb _ _ _ _ _ _ _ _ _ callerA _ _ _ _ _ _ _ r bv bn n ((op, oOp) :: (ma, oM) :: (xg, instObj 218 dg) :: (dg, gDict w g1 g2 g3 xn ma op) :: (lc, W.listOf (([] : List Value).toArray) 0) :: (lo, W.listOf (([] : List Value).toArray) 0) :: (li, W.listOf (([] : List Value).toArray) 0) :: (xn, instObj 141 dn) :: (dn, netDict w nm 2 tc t1 t2 t3 t4 t5 li lo lc) :: (rd, oR') :: (dd, oD') :: (s1.heap.objs.size + 1, oc) :: ext) 3 _ K0 Fq KX (newsSub Nq2 (by (repeat' (first | with_reducible exact subRfl | exact subNil | refine subCons ?_ ?_ | refine subTail ?_ | with_reducible exact mem_head | refine List.mem_cons_of_mem _ ?_)))) T rfl (by (repeat' (first | assumption | (refine List.forall_mem_cons.mpr ⟨?_, ?_⟩) | k_ne | exact allLt_ne (by assumption)))) hB (Nat.le_trans hBl (by decide)) (by decide) (by decide) (by (first | decide | (dsimp only [callerA]; decide))) (by (first | decide | (dsimp only [callerA]; decide))) ?_)
      intro k0 t0 bv3 bn3 n4 h6 tk6 hk0 hk4 hB3 hBl3 Fu Nu
      clear Fq Nq2
      obtain ⟨ka, rfl⟩ : ∃ ka : Nat, k0 = (ka : Int) := exNat hk0
      have hka : Hold (ka ≤ 2) := Hold.mk (Nat.le_of_lt_succ (ltNat (m := 3) hk4))
      have hka2 : ka ≤ 100 := le100 (Nat.le_succ_of_le (Hold.out hka))
      clear hk0 hk4
      (show wpAny _ _ _ _ _ _)
      k_steps
      refine Hold.mk ?_
      have hk1 : (1 : Int) + (ka : Int) = ((ka + 1 : Nat) : Int) := onePlus ka
      rw [hk1]
      k_dflt (refine add_input_ok w _ mg mb _ _ _ _ _ _ _ _ _ callerA _ _ _ _ _ _ _ dn xn li lo lc nm 2 tc t1 t2 t3 t4 t5 [] 0 ((r, W.listOf bv3.toArray n4) :: (op, oOp) :: (ma, oM) :: (xg, instObj 218 dg) :: (dg, gDict w g1 g2 g3 xn ma op) :: (lc, W.listOf (([] : List Value).toArray) 0) :: (lo, W.listOf (([] : List Value).toArray) 0) :: (xn, instObj 141 dn) :: (rd, oR') :: (dd, oD') :: (s1.heap.objs.size + 1, oc) :: ext) _ _ _ (ka + 1) K0 Fu KX (newsSub Nu (by (repeat' (first | with_reducible exact subRfl | exact subNil | refine subCons ?_ ?_ | refine subTail ?_ | with_reducible exact mem_head | refine List.mem_cons_of_mem _ ?_)))) T rfl (.tail _ (.tail _ (.tail _ (.tail _ (.tail _ (.tail _ (.tail _ (.head _)))))))) (by (repeat' (first | assumption | (refine List.forall_mem_cons.mpr ⟨?_, ?_⟩) | k_ne | exact allLt_ne (by assumption)))) (by (repeat' (first | assumption | (refine List.forall_mem_cons.mpr ⟨?_, ?_⟩) | k_ne | exact allLt_ne (by assumption)))) (by refine neN ?_; omega) (by decide) (by omega) (by have := Hold.out hka; omega) (by (first | decide | (dsimp only [callerA]; decide))) (by (first | decide | (dsimp only [callerA]; decide))) ?_)
      intro aa as an na ls1 nl1 cw tc2 h7 tk7 han hcw hIa hls1 F7 N7 ea1 ea2 ea3
      clear Fu Nu
      (show wpAny _ _ _ _ _ _)
      k_steps
      refine Hold.mk ?_
      (rename Fr _ _ _ _ => F7')
      (rename News _ _ _ _ => N7')
      have hraa : @Ne Nat r aa := neN (ea3 _ (.head _))
      k_dflt (refine add_input_ok w _ mg mb _ _ _ _ _ _ _ _ _ callerA _ _ _ _ _ _ _ dn xn li lo lc nm cw tc2 t1 t2 t3 t4 t5 ls1 nl1 ((aa, W.listOf as.toArray na) :: (r, W.listOf bv3.toArray n4) :: (op, oOp) :: (ma, oM) :: (xg, instObj 218 dg) :: (dg, gDict w g1 g2 g3 xn ma op) :: (lc, W.listOf (([] : List Value).toArray) 0) :: (lo, W.listOf (([] : List Value).toArray) 0) :: (xn, instObj 141 dn) :: (rd, oR') :: (dd, oD') :: (s1.heap.objs.size + 1, oc) :: ext) _ _ _ 2 K0 F7' KX (newsSub N7' (by (repeat' (first | with_reducible exact subRfl | exact subNil | refine subCons ?_ ?_ | refine subTail ?_ | with_reducible exact mem_head | refine List.mem_cons_of_mem _ ?_)))) T rfl (.tail _ (.tail _ (.tail _ (.tail _ (.tail _ (.tail _ (.tail _ (.tail _ (.head _))))))))) (by (repeat' (first | assumption | (refine List.forall_mem_cons.mpr ⟨?_, ?_⟩) | k_ne | exact allLt_ne (by assumption)))) (by (repeat' (first | assumption | (refine List.forall_mem_cons.mpr ⟨?_, ?_⟩) | k_ne | exact allLt_ne (by assumption)))) (by refine neN ?_; omega) (by simp at hls1; omega) (by decide) (by decide) (by (first | decide | (dsimp only [callerA]; decide))) (by (first | decide | (dsimp only [callerA]; decide))) ?_)
      intro bb bs2 bn2 nb ls2 nl2 cw2 tc3 h8 tk8 hbn hcw2 hIb hls2 F8 N8 eb1 eb2 eb3
      clear F7' N7'
      obtain ⟨tb1, tb2, rfl⟩ : ∃ u1 u2, bs2 = [Value.int cw u1, Value.int (cw + 1) u2] := by
        rw [hbn] at hIb
        simp [List.range_succ] at hIb
        exact ints2' hIb
      (show wpAny _ _ _ _ _ _)
      k_steps
      refine Hold.mk ?_
      (rename Fr _ _ _ _ => Fk)
      (rename News _ _ _ _ => Nk)
      have hlas : as.length = an.length := hIa.length
      have hlan : an.length = ka + 1 := by rw [han]; simp
      have hrbb : @Ne Nat r bb := neN (eb3 _ (.tail _ (.head _)))
      have hbase : ∀ p ∈ (bb, W.listOf ([Value.int cw tb1, Value.int (cw + 1) tb2] : List Value).toArray nb) :: (dn, netDict w nm cw2 tc3 t1 t2 t3 t4 t5 li lo lc) :: (li, W.listOf ls2.toArray nl2) :: (aa, W.listOf as.toArray na) :: (op, oOp) :: (ma, oM) :: (xg, instObj 218 dg) :: (dg, gDict w g1 g2 g3 xn ma op) :: (lc, W.listOf (([] : List Value).toArray) 0) :: (lo, W.listOf (([] : List Value).toArray) 0) :: (xn, instObj 141 dn) :: (rd, oR') :: (dd, oD') :: (s1.heap.objs.size + 1, oc) :: ext, p.1 ≠ r := by (repeat' (first | assumption | (refine List.forall_mem_cons.mpr ⟨?_, ?_⟩) | k_ne | exact allLt_ne (by assumption)))
      k_dflt (refine LCg.CompSrc.ledger rfl Fk Nk (.tail _ (.tail _ (.tail _ (.head _)))) (by rw [List.size_toArray, PySem.sizeLine_eq]; omega) ?_)
      intro gg
      k_dflt (refine comp_ind as.toArray.size (fun i ys nx => ∃ (bv4 : List Value) (bn4 : List Int) (n5 : Nat) (wn : List Wt), nx = (bb, W.listOf ([Value.int cw tb1, Value.int (cw + 1) tb2] : List Value).toArray nb) :: (dn, netDict w nm cw2 tc3 t1 t2 t3 t4 t5 li lo lc) :: (li, W.listOf ls2.toArray nl2) :: (aa, W.listOf as.toArray na) :: (r, W.listOf bv4.toArray n5) :: (op, oOp) :: (ma, oM) :: (xg, instObj 218 dg) :: (dg, gDict w g1 g2 g3 xn ma op) :: (lc, W.listOf (([] : List Value).toArray) 0) :: (lo, W.listOf (([] : List Value).toArray) 0) :: (xn, instObj 141 dn) :: (rd, oR') :: (dd, oD') :: (s1.heap.objs.size + 1, oc) :: ext ∧ IntsAre bv4 bn4 ∧ bv4.length ≤ 60 ∧ WtsAre ys wn ∧ wn.length = i) ⟨bv3, bn3, n4, [], rfl, hB3, Nat.le_trans hBl3 hBl, .nil, rfl⟩ ?_ ?_)
      rotate_left
      · rintro i ys nx hi ⟨bv4, bn4, n5, wn, rfl, hB4, hBl4, hW, hwl⟩ v I oI C oC D1 m2 h tk E' hv hNs hmx F9 N9 off9 ne9
        simp only [LCg.Off3, and_true] at off9
        clear Fk Nk
        (show wpAny _ _ _ _ _ _)
        k_steps
        refine Hold.mk ?_
        rename_i lm hm Fm Nm lmf cEm
        obtain ⟨vs3, hvs3, Nm2⟩ : ∃ vs3 : List Value, ValsAre vs3 [.num 1, .num 0, .non] ∧ News s1.heap s1.heap.objs.size _ ((lm, W.listOf vs3.toArray 0) :: (I, oI) :: (C, oC) :: (D1, LCg.lst ys) :: (bb, W.listOf ([Value.int cw tb1, Value.int (cw + 1) tb2] : List Value).toArray nb) :: (dn, netDict w nm cw2 tc3 t1 t2 t3 t4 t5 li lo lc) :: (li, W.listOf ls2.toArray nl2) :: (aa, W.listOf as.toArray na) :: (r, W.listOf bv4.toArray n5) :: (op, oOp) :: (ma, oM) :: (xg, instObj 218 dg) :: (dg, gDict w g1 g2 g3 xn ma op) :: (lc, W.listOf (([] : List Value).toArray) 0) :: (lo, W.listOf (([] : List Value).toArray) 0) :: (xn, instObj 141 dn) :: (rd, oR') :: (dd, oD') :: (s1.heap.objs.size + 1, oc) :: ext) := ⟨_, by (repeat' (first | exact ValsAre.nil | exact ValsAre.cons ⟨_, rfl⟩ (by assumption) | refine ValsAre.cons (by first | exact rfl | exact ⟨_, rfl⟩) ?_)), Nm⟩
        clear Nm
        k_dflt (refine' tack_ok w _ mg mb _ _ _ _ _ _ _ _ _ callerA _ _ _ _ _ _ _ r bv4 bn4 n5 ((lm, W.listOf vs3.toArray 0) :: (I, oI) :: (C, oC) :: (D1, LCg.lst ys) :: (bb, W.listOf ([Value.int cw tb1, Value.int (cw + 1) tb2] : List Value).toArray nb) :: (dn, netDict w nm cw2 tc3 t1 t2 t3 t4 t5 li lo lc) :: (li, W.listOf ls2.toArray nl2) :: (aa, W.listOf as.toArray na) :: (op, oOp) :: (ma, oM) :: (xg, instObj 218 dg) :: (dg, gDict w g1 g2 g3 xn ma op) :: (lc, W.listOf (([] : List Value).toArray) 0) :: (lo, W.listOf (([] : List Value).toArray) 0) :: (xn, instObj 141 dn) :: (rd, oR') :: (dd, oD') :: (s1.heap.objs.size + 1, oc) :: ext) 3 _ K0 Fm KX (newsSub Nm2 permB) T rfl (List.forall_mem_cons.mpr ⟨neN (Nat.ne_of_gt lmf.2.2.2.2.2.2.2.1), List.forall_mem_cons.mpr ⟨neN (Ne.symm off9.2.2.2.2.1.1), List.forall_mem_cons.mpr ⟨neN (Ne.symm off9.2.2.2.2.1.2.1), List.forall_mem_cons.mpr ⟨neN (Ne.symm off9.2.2.2.2.1.2.2), hbase⟩⟩⟩⟩) hB4 (Nat.le_trans hBl4 (by decide)) (by decide) (by decide) (by (first | decide | (dsimp only [callerA]; decide))) (by (first | decide | (dsimp only [callerA]; decide))) ?_)
        intro k2 t2' bv5 bn5 n6 h9 tk9 hk20 hk23 hB5 hBl5 Fo No
        clear Fm Nm2
        obtain ⟨kq, rfl⟩ : ∃ kq : Nat, k2 = (kq : Int) := exNat hk20
        have hkq : kq < 3 := ltNat (m := 3) hk23
        k_dflt (show wpAny _ _ (subscriptTail _ _ _ _) _ _ _)
        k_dflt (refine itemVals No (.tail _ (.head _)) hvs3 hkq (by decide) ?_)
        intro v3 hv3
        k_dflt (show LCg.CompEnd _ _ _ _ _ _ _ _ _ _ _ _ _ _)
        k_dflt (refine LCg.CompEnd.intro Fo No ((bb, W.listOf ([Value.int cw tb1, Value.int (cw + 1) tb2] : List Value).toArray nb) :: (dn, netDict w nm cw2 tc3 t1 t2 t3 t4 t5 li lo lc) :: (li, W.listOf ls2.toArray nl2) :: (aa, W.listOf as.toArray na) :: (r, W.listOf bv5.toArray n6) :: (op, oOp) :: (ma, oM) :: (xg, instObj 218 dg) :: (dg, gDict w g1 g2 g3 xn ma op) :: (lc, W.listOf (([] : List Value).toArray) 0) :: (lo, W.listOf (([] : List Value).toArray) 0) :: (xn, instObj 141 dn) :: (rd, oR') :: (dd, oD') :: (s1.heap.objs.size + 1, oc) :: ext) permA (by simp only [LCg.Off3, and_true]; exact off9) (.inr ⟨_, .tail _ (.tail _ (.tail _ (.head _))), rfl, _, rfl⟩) ?_)
        obtain ⟨wt, hwt⟩ := wt_of hkq hv3
        exact ⟨bv5, bn5, n6, wn ++ [wt], rfl, hB5, Nat.le_trans hBl5 hBl4, wts_snoc hW hwt, by simp [hwl]⟩
      · rintro ys nx ⟨bv4, bn4, n5, wn, rfl, hB4, hBl4, hW, hwl⟩
        intro D2 h9 tk9 F9 N9 o9
        clear Fk Nk
        simp only [LCg.Off1] at o9
        (show wpAny _ _ _ _ _ _)
        k_steps
        refine Hold.mk ?_
        (rename Fr _ _ _ _ => Fk)
        (rename News _ _ _ _ => Nk)
        have hwlen := hW.length
        have hasz : as.toArray.size = as.length := by simp
        have hwan : wn.length = an.length := hwl.trans (hasz.trans hlas)
        have OK : NetOk w ⟨dn, xn, li, lo, lc, ma, xg, dg, op, nm, t1, t2, t3, t4, t5, g1, g2, g3, oOp⟩ ((D2, W.listOf ys.toArray ys.length) :: (bb, W.listOf ([Value.int cw tb1, Value.int (cw + 1) tb2] : List Value).toArray nb) :: (li, W.listOf ls2.toArray nl2) :: (aa, W.listOf as.toArray na) :: (r, W.listOf bv4.toArray n5) :: (op, oOp) :: (xg, instObj 218 dg) :: (dg, gDict w g1 g2 g3 xn ma op) :: (lo, W.listOf (([] : List Value).toArray) 0) :: (xn, instObj 141 dn) :: (rd, oR') :: (dd, oD') :: (s1.heap.objs.size + 1, oc) :: ext) := by
          refine ⟨by k_mem, by k_mem, by k_mem, by k_mem, hiO, loO, loM, by k_ne, by k_ne, by k_ne, ?_, ?_, ?_⟩
          · exact List.forall_mem_cons.mpr ⟨neN (Ne.symm (o9.2.1)), List.forall_mem_cons.mpr ⟨neN (Ne.symm (eb1)), List.forall_mem_cons.mpr ⟨by k_ne, List.forall_mem_cons.mpr ⟨neN (Ne.symm (ea1)), List.forall_mem_cons.mpr ⟨by k_ne, List.forall_mem_cons.mpr ⟨by k_ne, List.forall_mem_cons.mpr ⟨by k_ne, List.forall_mem_cons.mpr ⟨by k_ne, List.forall_mem_cons.mpr ⟨by k_ne, List.forall_mem_cons.mpr ⟨by k_ne, List.forall_mem_cons.mpr ⟨by k_ne, List.forall_mem_cons.mpr ⟨by k_ne, List.forall_mem_cons.mpr ⟨by k_ne, hEdn⟩⟩⟩⟩⟩⟩⟩⟩⟩⟩⟩⟩⟩
          · exact List.forall_mem_cons.mpr ⟨neN (Ne.symm (o9.2.2.2.2.2.2.2.2.2.1)), List.forall_mem_cons.mpr ⟨neN (Ne.symm (eb3 _ (.tail _ (.tail _ (.tail _ (.tail _ (.tail _ (.tail _ (.head _))))))))), List.forall_mem_cons.mpr ⟨by k_ne, List.forall_mem_cons.mpr ⟨neN (Ne.symm (ea3 _ (.tail _ (.tail _ (.tail _ (.tail _ (.tail _ (.head _)))))))), List.forall_mem_cons.mpr ⟨by k_ne, List.forall_mem_cons.mpr ⟨by k_ne, List.forall_mem_cons.mpr ⟨by k_ne, List.forall_mem_cons.mpr ⟨by k_ne, List.forall_mem_cons.mpr ⟨by k_ne, List.forall_mem_cons.mpr ⟨by k_ne, List.forall_mem_cons.mpr ⟨by k_ne, List.forall_mem_cons.mpr ⟨by k_ne, List.forall_mem_cons.mpr ⟨by k_ne, hElc⟩⟩⟩⟩⟩⟩⟩⟩⟩⟩⟩⟩⟩
          · exact List.forall_mem_cons.mpr ⟨neN (Ne.symm (o9.2.2.2.2.2.2.1)), List.forall_mem_cons.mpr ⟨neN (Ne.symm (eb3 _ (.tail _ (.tail _ (.tail _ (.head _)))))), List.forall_mem_cons.mpr ⟨by k_ne, List.forall_mem_cons.mpr ⟨neN (Ne.symm (ea3 _ (.tail _ (.tail _ (.head _))))), List.forall_mem_cons.mpr ⟨by k_ne, List.forall_mem_cons.mpr ⟨by k_ne, List.forall_mem_cons.mpr ⟨by k_ne, List.forall_mem_cons.mpr ⟨by k_ne, List.forall_mem_cons.mpr ⟨by k_ne, List.forall_mem_cons.mpr ⟨by k_ne, List.forall_mem_cons.mpr ⟨by k_ne, List.forall_mem_cons.mpr ⟨by k_ne, List.forall_mem_cons.mpr ⟨by k_ne, hEma⟩⟩⟩⟩⟩⟩⟩⟩⟩⟩⟩⟩⟩
        k_dflt (refine flop_ok w _ mg mb _ _ _ _ _ _ _ _ _ callerA _ _ _ _ _ _ _ ⟨dn, xn, li, lo, lc, ma, xg, dg, op, nm, t1, t2, t3, t4, t5, g1, g2, g3, oOp⟩ cw2 tc3 0 oM _ aa D2 as ys an wn na ys.length cw (cw + 1) _ _ OK (by (first | decide | (dsimp only [callerA]; decide))) (by (first | decide | (dsimp only [callerA]; decide))) rfl (IsMade.ofEmpty hiM) (by k_mem) (by k_mem) hIa hW hwan (by have := Hold.out hka; omega) ?_ ?_ (by omega) (by omega) (by omega) K0 Fk KX (newsSub Nk (by (repeat' (first | with_reducible exact subRfl | exact subNil | refine subCons ?_ ?_ | refine subTail ?_ | with_reducible exact mem_head | refine List.mem_cons_of_mem _ ?_)))) T ?_)
        · have h3 := Hold.out hka
          rw [han]
          obtain h4 | h4 | h4 : ka = 0 ∨ ka = 1 ∨ ka = 2 := le2 h3
          all_goals (rw [h4]; decide)
        · intro a ha
          rw [han] at ha
          obtain ⟨j, hj, rfl⟩ := List.mem_map.mp ha
          have hj2 := List.mem_range.mp hj
          omega
        intro tt td tr tl tc9 us9 nn9 om9 rest9 st h10 tk10 hst Fv Nv hltv OKv hsub9 hC9
        clear Fk Nk
        have hal : as.length = ka + 1 := hlas.trans hlan
        have mark2 : Mark2 := trivial
        dsimp only [netLed, netDict, ent, tupleObj] at Nv
        (show wpAny _ _ _ _ _ _)
        k_steps
        refine Hold.mk ?_
        (rename Fr _ _ _ _ => F10)
        (rename News _ _ _ _ => N10)
        have hcw3 : cw = (ka : Int) + 3 := cwE hcw
        have hcw4 : cw + 1 = (ka : Int) + 4 := cwE1 hcw3
        have hcw5 : cw2 = (ka : Int) + 5 := cwE2 hcw3 hcw2
        have hst2 : st = stP ka wn := by
          rw [hst, hcw4, hcw5, hcw3, han]
          rfl
        have hIa2 : IntsAre as (anP ka) := by rw [han] at hIa; exact hIa
        have hx1 := hsub9 (xn, instObj 141 dn) (by k_mem)
        have hx2 := hsub9 (aa, W.listOf as.toArray na) (by k_mem)
        have hx3 := hsub9 (D2, W.listOf ys.toArray ys.length) (by k_mem)
        have hC10 : CellsAre rest9 (stP ka wn).cells us9 := by rw [← hst2]; exact hC9
        have hwl3 : wn.length = ka + 1 := hwan.trans hlan
        k_dflt (refine lines_ok w _ mg mb _ _ _ _ _ _ _ _ _ _ (by rfl) (by rfl) xn dn li lo lc aa D2 nm st.c tc9 t1 t2 t3 t4 t5 us9 nn9 as ys na ys.length ka wn tb1 tb2 td tr tl _ K0 (fr8 F10 (by rfl) (by rfl) (by rfl) (by rw [← hcw3]; rfl) (by rw [← hcw4]; rfl) (by rw [← hst2]; rfl) (by rw [← hst2]; rfl) (by rw [← hst2]; rfl)) KX N10 T (.tail _ (.tail _ (.tail _ (.tail _ hx1)))) (.tail _ (.head _)) (.tail _ (.tail _ (.head _))) (.tail _ (.tail _ (.tail _ (.tail _ hx2)))) (.tail _ (.tail _ (.tail _ (.tail _ hx3)))) (hC10.sub (fun p hp => .tail _ (.tail _ (.tail _ (.tail _ hp))))) hIa2 hW hwl3 (Hold.out hka) (by passes_own) ?_)
        intro h12 tk12 m12 F12
        clear F10 N10
        (show wpAny _ _ _ _ _ _)
        k_steps
end Mine
end
end
end

theorem PySem.Challenge.cw_pq0452_01_holds : PySem.Challenge.rw_pq0452_01.Holds := by
  exact Mine.tt
