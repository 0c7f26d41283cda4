import PyProof.Rows.All
import Wide.All
import OpenK.AllK
import Wide.FinOn
import Lean
import PySem.Challenge.RW_og0143_01
open PySem PySem.W PySem.Spec PySem.Calls PyProof.Rows
set_option Elab.async false
set_option linter.unusedVariables false
set_option maxRecDepth 100000
set_option maxHeartbeats 8000000
namespace Mine
open_top hd for PySem.Challenge.rw_og0143_01
/-- what every contract asks of the frame that calls -/
abbrev Cx (w : World) (A₀ : Around) (base h₀ : Heap) (outer : List Env) (L : Addr) (s : Shared) (m : Str → Option Value) (news : List (Addr × Obj)) (mean : ExcName → Option Value) (mg mb : Str → Option Value) (cs : Scope) (dp r : Nat) : Prop :=
  Below A₀ base outer h₀ ∧ Fr h₀ L s.heap m ∧ (hd.heap_39 w.params).In h₀ ∧ News h₀ L s.heap news ∧ Top hd.view_39 (looseW hd.view_39 [Str.ofString "PaperError"]) mean mg mb h₀ ∧ cs.kind = .function ∧ dp + r < recursionLimit
theorem memOf {α : Type} {a : α} {l : List α} (h : a ∈ l) : List.Mem a l := h
end Mine
namespace Mine
section
variable {prog : Program} {w : World} {A : Around} {E : Value → Shared → Prop} {s : Shared} {env : Env} {h₀ : Heap} {x : Str} {body : List Stmt} {Q : Flow → Shared → Prop}
/-- a for over range(n), by any invariant over the turn's number, the frame and the ledger -/
theorem forRange {b : Int} {t : Tok} {n : Nat} {m₀ : Str → Option Value} {news : List (Addr × Obj)} (J : Nat → (Str → Option Value) → List (Addr × Obj) → Prop)
    (hh : A.handled = none) (hb : b = (n : Int)) (hn : n < 1000000) (F : Fr h₀ env.locals s.heap m₀) (N : News h₀ env.locals s.heap news) (hj : J 0 m₀ news)
    (turn : ∀ i t m₁ nx h tk own, i < n → TbOff own nx → J i m₁ nx → Fr h₀ env.locals h (fun y => if y = x then some (.int (i : Int) t) else m₁ y) → News h₀ env.locals h (nx ++ own) →
      wpAny (model prog w) A (execs body env) (TbPost h₀ env.locals (J (i + 1)) own { s with heap := h, toks := tk } Q) E { s with heap := h, toks := tk })
    (done : ∀ m₁ nx h tk, J n m₁ nx → Fr h₀ env.locals h m₁ → News h₀ env.locals h nx → Q .next { s with heap := h, toks := tk }) :
    wpAny (model prog w) A (call (.type "range") [.int b t]) (fun xv s₁ => wpAny (model prog w) A (pyIter xv) (fun it s₂ => LoopAtV prog w A h₀ env x body Q E it s₂) E s₁) E s := by
  subst hb
  refine range1_rows F N fun h' tk t₁ u₁ v₁ hr F' N' _ => ?_
  refine tbr_invG (s := { s with heap := h', toks := tk }) (n := n) J hh hr (small_one (by decide) (by decide) (by omega) (by omega)) (by rw [rangeSize_nat]; omega) F' N' hj ?_ ?_
  · intro i k t m₁ nx h tk own hk hoff hJ F₁ N₁
    have hb := mem_rangeKs (List.mem_of_getElem? hk)
    have hi : i < n := by
      have := (List.getElem?_eq_some_iff.mp hk).1
      rwa [rangeKs_length] at this
    have e : k = (i : Int) := by
      have h2 : (rangeKs 0 n)[i]? = some (0 + (i : Int)) := by simp [rangeKs, hi]
      rw [h2] at hk
      have := Option.some.inj hk
      omega
    subst e
    exact turn i t m₁ nx h tk own hi hoff hJ F₁ N₁
  · intro m₁ nx h tk hJ F₁ N₁
    exact done m₁ nx h tk hJ F₁ N₁

def JStr (x y : Str) (m₀ : Str → Option Value) (news : List (Addr × Obj)) (v : Str) (m' : Str → Option Value) (nx : List (Addr × Obj)) : Prop :=
  nx = news ∧ (∃ ty, m' y = some (.str v ty)) ∧ ∀ z, z ≠ x → z ≠ y → m' z = m₀ z
theorem forRangeStr {b : Int} {t ty : Tok} {n : Nat} {m₀ : Str → Option Value} {news : List (Addr × Obj)} (y : Str) (T : Nat → Str)
    (hh : A.handled = none) (hb : b = (n : Int)) (hn : n < 1000000) (F : Fr h₀ env.locals s.heap m₀) (N : News h₀ env.locals s.heap news) (hy : m₀ y = some (.str (T 0) ty)) (hxy : y ≠ x)
    (turn : ∀ i t ty h tk own, i < n → TbOff own news → Fr h₀ env.locals h (fun z => if z = x then some (.int (i : Int) t) else if z = y then some (.str (T i) ty) else m₀ z) → News h₀ env.locals h (news ++ own) →
      wpAny (model prog w) A (execs body env) (TbPost h₀ env.locals (JStr x y m₀ news (T (i + 1))) own { s with heap := h, toks := tk } Q) E { s with heap := h, toks := tk })
    (done : ∀ (u : Option Value) ty h tk, Fr h₀ env.locals h (fun z => if z = x then u else if z = y then some (.str (T n) ty) else m₀ z) → News h₀ env.locals h news → Q .next { s with heap := h, toks := tk }) :
    wpAny (model prog w) A (call (.type "range") [.int b t]) (fun xv s₁ => wpAny (model prog w) A (pyIter xv) (fun it s₂ => LoopAtV prog w A h₀ env x body Q E it s₂) E s₁) E s := by
  have key : ∀ (m₁ : Str → Option Value) (i : Nat) (u : Option Value), (∃ ty, m₁ y = some (.str (T i) ty)) → (∀ z, z ≠ x → z ≠ y → m₁ z = m₀ z) → ∃ ty, (fun z => if z = x then u else m₁ z) = fun z => if z = x then u else if z = y then some (.str (T i) ty) else m₀ z := by
    rintro m₁ i u ⟨ty, h1⟩ h2
    refine ⟨ty, funext fun z => ?_⟩
    by_cases e : z = x
    · simp [e]
    · simp only [if_neg e]
      by_cases e2 : z = y
      · subst e2; simp [h1]
      · simp only [if_neg e2]; exact h2 z e e2
  refine forRange (fun i m nx => JStr x y m₀ news (T i) m nx) hh hb hn F N ⟨rfl, ⟨ty, hy⟩, fun _ _ _ => rfl⟩ ?_ ?_
  · rintro i t m₁ nx h tk own hi hoff ⟨rfl, h1, h2⟩ F₁ N₁
    obtain ⟨ty, e⟩ := key m₁ i (some (.int (i : Int) t)) h1 h2
    rw [e] at F₁
    exact turn i t ty h tk own hi hoff F₁ N₁
  · rintro m₁ nx h tk ⟨rfl, h1, h2⟩ F₁ N₁
    obtain ⟨ty, e⟩ := key m₁ n (m₁ x) h1 h2
    have e' : m₁ = fun z => if z = x then m₁ x else m₁ z := by
      funext z
      by_cases q : z = x
      · simp [q]
      · simp [q]
    rw [e', e] at F₁
    exact done (m₁ x) ty h tk F₁ N₁
theorem strEnd {L : Addr} {y : Str} {m₀ m' : Str → Option Value} {news own : List (Addr × Obj)} {v : Str} {s₁ : Shared} {h' : Heap} {tk : Nat} {ty : Tok}
    (F : Fr h₀ L h' m') (N : News h₀ L h' (news ++ own)) (hoff : TbOff own news) (hv : m' y = some (.str v ty)) (hm : ∀ z, z ≠ x → z ≠ y → m' z = m₀ z) :
    TbEnd h₀ L (JStr x y m₀ news v) own s₁ { s₁ with heap := h', toks := tk } :=
  ⟨h', tk, m', _, news, rfl, F, N, fun _ h => List.mem_append_left _ h, fun _ h => List.mem_append_right _ h, hoff, rfl, ⟨ty, hv⟩, hm⟩
end
section
variable {prog : Program} {w : World} {A : Around} {E : Value → Shared → Prop} {s : Shared} {h₀ : Heap} {L : Addr} {news : List (Addr × Obj)} {Q : Value → Shared → Prop}
/-- len of a made list of known length -/
theorem lenMade {r : Addr} {vs : List Value} {c n : Nat} (N : News h₀ L s.heap news) (hm : (r, W.listOf vs.toArray c) ∈ news) (hn : vs.length = n) (hf : n < 1000000)
    (h : Q (.int (n : Int) (s.toks + 1)) { s with toks := s.toks + 1 + 1 }) : wpAny (model prog w) A (call (.builtin "len") [.ref r]) Q E s :=
  len_list (News.isList N hm) (by simp only [List.size_toArray]; omega) (by simp only [List.size_toArray, hn]; exact h)
/-- an item of a made list at a place in bounds -/
theorem itemMade {value slice : PySem.Expr} {r : Addr} {vs : List Value} {c : Nat} {k : Int} {u : Tok} {v : Value} (N : News h₀ L s.heap news) (hm : (r, W.listOf vs.toArray c) ∈ news)
    (h0 : 0 ≤ k) (hx : vs[k.toNat]? = some v) (hf : k < 1000000) (h : Q v s)
    (hs : subscripted slice false (.ref r) (.int k u) = operate [.ref r, .int k u] (getItem (.ref r) (.int k u)) := by with_unfolding_all rfl) (hg : ∀ z, letTemporaryGo value (.ref r) z = pure () := by intro _; with_unfolding_all rfl) :
    wpAny (model prog w) A (subscriptTail value slice (.ref r) (.int k u)) Q E s :=
  item_list (News.isList N hm) h0 (by omega) (by simpa using hx) h hs hg
end
end Mine
namespace Mine
theorem strEnd2 {h₀ : Heap} {x : Str} {L : Addr} {y : Str} {m₀ m' : Str → Option Value} {news own : List (Addr × Obj)} {v v' : Str} {s₁ : Shared} {h' : Heap} {tk : Nat} {ty : Tok}
    (F : Fr h₀ L h' m') (N : News h₀ L h' (news ++ own)) (hoff : TbOff own news) (hv : m' y = some (.str v' ty)) (e : v' = v) (hm : ∀ z, z ≠ x → z ≠ y → m' z = m₀ z) :
    TbEnd h₀ L (JStr x y m₀ news v) own s₁ { s₁ with heap := h', toks := tk } := strEnd F N hoff (e ▸ hv) hm
end Mine
namespace Mine
section
variable {prog : Program} {w : World} {A : Around} {E : Value → Shared → Prop} {s : Shared} {env : Env} {h₀ : Heap} {x : Str} {body : List Stmt} {Q : Flow → Shared → Prop}
def JCut (x y : Str) (m₀ : Str → Option Value) (news : List (Addr × Obj)) (b : Addr) (ns : List Int) (v : Int) (m' : Str → Option Value) (nx : List (Addr × Obj)) : Prop :=
  (∃ us c, nx = (b, W.listOf (List.toArray us) c) :: news ∧ IntsAre us ns) ∧ (∃ ty, m' y = some (.int v ty)) ∧ ∀ z, z ≠ x → z ≠ y → m' z = m₀ z
theorem forRangeCut {k : Int} {t ty : Tok} {n : Nat} {m₀ : Str → Option Value} {news : List (Addr × Obj)} {b : Addr} {us₀ : List Value} {c₀ : Nat} (y : Str) (M : Nat → List Int) (V : Nat → Int)
    (hh : A.handled = none) (hb : k = (n : Int)) (hn : n < 1000000) (F : Fr h₀ env.locals s.heap m₀) (N : News h₀ env.locals s.heap ((b, W.listOf us₀.toArray c₀) :: news)) (hI : IntsAre us₀ (M 0)) (hne : ∀ p ∈ news, p.1 ≠ b) (hy : m₀ y = some (.int (V 0) ty))
    (turn : ∀ i t ty us c h tk own, i < n → TbOff own news → (∀ p ∈ own, p.1 ≠ b) → (∀ p ∈ news ++ own, p.1 ≠ b) → IntsAre us (M i) → Fr h₀ env.locals h (fun z => if z = x then some (.int (i : Int) t) else if z = y then some (.int (V i) ty) else m₀ z) →
      News h₀ env.locals h ((b, W.listOf us.toArray c) :: (news ++ own)) →
      wpAny (model prog w) A (execs body env) (TbPost h₀ env.locals (JCut x y m₀ news b (M (i + 1)) (V (i + 1))) own { s with heap := h, toks := tk } Q) E { s with heap := h, toks := tk })
    (done : ∀ (u : Option Value) ty us c h tk, IntsAre us (M n) → Fr h₀ env.locals h (fun z => if z = x then u else if z = y then some (.int (V n) ty) else m₀ z) → News h₀ env.locals h ((b, W.listOf us.toArray c) :: news) → Q .next { s with heap := h, toks := tk }) :
    wpAny (model prog w) A (call (.type "range") [.int k t]) (fun xv s₁ => wpAny (model prog w) A (pyIter xv) (fun it s₂ => LoopAtV prog w A h₀ env x body Q E it s₂) E s₁) E s := by
  have key : ∀ (m₁ : Str → Option Value) (i : Nat) (u : Option Value), (∃ ty, m₁ y = some (.int (V i) ty)) → (∀ z, z ≠ x → z ≠ y → m₁ z = m₀ z) → ∃ ty, (fun z => if z = x then u else m₁ z) = fun z => if z = x then u else if z = y then some (.int (V i) ty) else m₀ z := by
    rintro m₁ i u ⟨ty, h1⟩ h2
    refine ⟨ty, funext fun z => ?_⟩
    by_cases e : z = x
    · simp [e]
    · simp only [if_neg e]
      by_cases e2 : z = y
      · subst e2; simp [h1]
      · simp only [if_neg e2]; exact h2 z e e2
  refine forRange (fun i m nx => JCut x y m₀ news b (M i) (V i) m nx) hh hb hn F N ⟨⟨us₀, c₀, rfl, hI⟩, ⟨ty, hy⟩, fun _ _ _ => rfl⟩ ?_ ?_
  · rintro i t m₁ nx h tk own hi hoff ⟨⟨us, c, rfl, hu⟩, h1, h2⟩ F₁ N₁
    obtain ⟨ty, e⟩ := key m₁ i (some (.int (i : Int) t)) h1 h2
    rw [e] at F₁
    have o1 : TbOff own news := fun p hp q hq => hoff p hp q (.tail _ hq)
    have o2 : ∀ p ∈ own, p.1 ≠ b := fun p hp => hoff p hp _ (.head _)
    exact turn i t ty us c h tk own hi o1 o2 (fun p hp => (List.mem_append.mp hp).elim (hne p) (o2 p)) hu F₁ N₁
  · rintro m₁ nx h tk ⟨⟨us, c, rfl, hu⟩, h1, h2⟩ F₁ N₁
    obtain ⟨ty, e⟩ := key m₁ n (m₁ x) h1 h2
    have e' : m₁ = fun z => if z = x then m₁ x else m₁ z := by
      funext z
      by_cases q : z = x
      · simp [q]
      · simp [q]
    rw [e', e] at F₁
    exact done (m₁ x) ty us c h tk hu F₁ N₁
theorem cutEnd {L : Addr} {y : Str} {m₀ m' : Str → Option Value} {news own : List (Addr × Obj)} {b : Addr} {us : List Value} {c : Nat} {ns ns' : List Int} {v v' : Int} {s₁ : Shared} {h' : Heap} {tk : Nat} {ty : Tok}
    (F : Fr h₀ L h' m') (N : News h₀ L h' ((b, W.listOf us.toArray c) :: (news ++ own))) (o1 : TbOff own news) (o2 : ∀ p ∈ own, p.1 ≠ b) (hu : IntsAre us ns') (en : ns' = ns) (hv : m' y = some (.int v' ty)) (ev : v' = v) (hm : ∀ z, z ≠ x → z ≠ y → m' z = m₀ z) :
    TbEnd h₀ L (JCut x y m₀ news b ns v) own s₁ { s₁ with heap := h', toks := tk } :=
  ⟨h', tk, m', _, (b, W.listOf us.toArray c) :: news, rfl, F, N, fun p hp => (List.mem_cons.mp hp).elim (fun e => e ▸ .head _) fun hp => .tail _ (List.mem_append_left _ hp), fun p hp => .tail _ (List.mem_append_right _ hp),
    fun p hp q hq => (List.mem_cons.mp hq).elim (fun e => e ▸ o2 p hp) fun hq => o1 p hp q hq, ⟨us, c, rfl, en ▸ hu⟩, ⟨ty, ev ▸ hv⟩, hm⟩
end
section
variable {prog : Program} {w : World} {A : Around} {E : Value → Shared → Prop} {s : Shared} {x y : Str} {t u : Tok} {b : Bool} {Q : Value → Shared → Prop}
theorem ne_str_by (e : (x != y) = b) (h : Q (.bool b) s) : wpAny (model prog w) A (compareOp .NotEq (.str x t) (.str y u)) Q E s := ne_str (by rw [e]; exact h)
theorem eq_str_by (e : (x == y) = b) (h : Q (.bool b) s) : wpAny (model prog w) A (compareOp .Eq (.str x t) (.str y u)) Q E s := eq_str (by rw [e]; exact h)
end
end Mine
namespace Mine
theorem cutEndPush {h₀ : Heap} {x : Str} {L : Addr} {y : Str} {m₀ m' : Str → Option Value} {news own : List (Addr × Obj)} {b : Addr} {us : List Value} {c : Nat} {ns ns' : List Int} {k v v' : Int} {tk' : Tok} {s₁ : Shared} {h' : Heap} {tk : Nat} {ty : Tok}
    (F : Fr h₀ L h' m') (N : News h₀ L h' ((b, W.listOf (us.toArray.push (.int k tk')) c) :: (news ++ own))) (o1 : TbOff own news) (o2 : ∀ p ∈ own, p.1 ≠ b) (hu : IntsAre us ns') (en : ns' ++ [k] = ns) (hv : m' y = some (.int v' ty)) (ev : v' = v) (hm : ∀ z, z ≠ x → z ≠ y → m' z = m₀ z) :
    TbEnd h₀ L (JCut x y m₀ news b ns v) own s₁ { s₁ with heap := h', toks := tk } :=
  cutEnd F (by rw [List.push_toArray] at N; exact N) o1 o2 (IntsAre.append hu (.cons _ _ .nil)) en hv ev hm
end Mine
namespace Mine
section
variable {prog : Program} {w : World} {A : Around} {E : Value → Shared → Prop} {s : Shared} {env : Env} {h₀ : Heap} {x : Str} {body : List Stmt} {Q : Flow → Shared → Prop}
def JOne (x y : Str) (stored : List Str) (m₀ : Str → Option Value) (K : Int → List (Addr × Obj) → Prop) (m' : Str → Option Value) (nx : List (Addr × Obj)) : Prop :=
  ∃ xv, K xv nx ∧ (∃ ty, m' y = some (.int xv ty)) ∧ ∀ z, z ≠ x → z ≠ y → stored.contains z = false → m' z = m₀ z
theorem forRangeOne {b : Int} {t ty : Tok} {n : Nat} {m₀ : Str → Option Value} {news : List (Addr × Obj)} {x₀ : Int} (y : Str) (stored : List Str) (K : Nat → Int → List (Addr × Obj) → Prop)
    (hh : A.handled = none) (hb : b = (n : Int)) (hn : n < 1000000) (F : Fr h₀ env.locals s.heap m₀) (N : News h₀ env.locals s.heap news) (hy : m₀ y = some (.int x₀ ty)) (k0 : K 0 x₀ news)
    (turn : ∀ i t xv ty (u : Str → Option Value) nx h tk own, i < n → TbOff own nx → K i xv nx → Fr h₀ env.locals h (fun z => if z = x then some (.int (i : Int) t) else if z = y then some (.int xv ty) else if stored.contains z then u z else m₀ z) →
      News h₀ env.locals h (nx ++ own) →
      wpAny (model prog w) A (execs body env) (TbPost h₀ env.locals (JOne x y stored m₀ (K (i + 1))) own { s with heap := h, toks := tk } Q) E { s with heap := h, toks := tk })
    (done : ∀ (u0 : Option Value) (u : Str → Option Value) xv ty nx h tk, K n xv nx → Fr h₀ env.locals h (fun z => if z = x then u0 else if z = y then some (.int xv ty) else if stored.contains z then u z else m₀ z) → News h₀ env.locals h nx → Q .next { s with heap := h, toks := tk }) :
    wpAny (model prog w) A (call (.type "range") [.int b t]) (fun xv s₁ => wpAny (model prog w) A (pyIter xv) (fun it s₂ => LoopAtV prog w A h₀ env x body Q E it s₂) E s₁) E s := by
  have key : ∀ (m₁ : Str → Option Value) (xv : Int) (u : Option Value), (∃ ty, m₁ y = some (.int xv ty)) → (∀ z, z ≠ x → z ≠ y → stored.contains z = false → m₁ z = m₀ z) →
      ∃ ty, (fun z => if z = x then u else m₁ z) = fun z => if z = x then u else if z = y then some (.int xv ty) else if stored.contains z then m₁ z else m₀ z := by
    rintro m₁ xv u ⟨ty, h1⟩ h2
    refine ⟨ty, funext fun z => ?_⟩
    by_cases e : z = x
    · simp [e]
    · simp only [if_neg e]
      by_cases e2 : z = y
      · subst e2; simp [h1]
      · simp only [if_neg e2]
        cases e3 : stored.contains z with
        | true => simp
        | false => simp only [Bool.false_eq_true, if_false]; exact h2 z e e2 e3
  refine forRange (fun i m nx => JOne x y stored m₀ (K i) m nx) hh hb hn F N ⟨x₀, k0, ⟨ty, hy⟩, fun _ _ _ _ => rfl⟩ ?_ ?_
  · rintro i t m₁ nx h tk own hi hoff ⟨xv, hk, h1, h2⟩ F₁ N₁
    obtain ⟨ty, e⟩ := key m₁ xv (some (.int (i : Int) t)) h1 h2
    rw [e] at F₁
    exact turn i t xv ty m₁ nx h tk own hi hoff hk F₁ N₁
  · rintro m₁ nx h tk ⟨xv, hk, h1, h2⟩ F₁ N₁
    obtain ⟨ty, e⟩ := key m₁ xv (m₁ x) h1 h2
    have e' : m₁ = fun z => if z = x then m₁ x else m₁ z := by
      funext z
      by_cases q : z = x
      · simp [q]
      · simp [q]
    have F₂ := F₁
    rw [e', e] at F₂
    exact done (m₁ x) m₁ xv ty nx h tk hk F₂ N₁
theorem oneEnd {L : Addr} {y : Str} {stored : List Str} {m₀ m' : Str → Option Value} {K : Int → List (Addr × Obj) → Prop} {own all nx : List (Addr × Obj)} {xv : Int} {s₁ : Shared} {h' : Heap} {tk : Nat} {ty : Tok}
    (F : Fr h₀ L h' m') (N : News h₀ L h' all) (sub : ∀ p ∈ nx, p ∈ all) (sub2 : ∀ p ∈ own, p ∈ all) (off : TbOff own nx) (k : K xv nx) (hv : m' y = some (.int xv ty)) (hm : ∀ z, z ≠ x → z ≠ y → stored.contains z = false → m' z = m₀ z) :
    TbEnd h₀ L (JOne x y stored m₀ K) own s₁ { s₁ with heap := h', toks := tk } := ⟨h', tk, m', all, nx, rfl, F, N, sub, sub2, off, xv, k, ⟨ty, hv⟩, hm⟩
end
end Mine
local macro_rules | `(tactic| k_room) => `(tactic| ((try simp only [depth_under_make, depth_under_kw, depth_in1, depth_deeper, depth_caller]); (try dsimp only [ktrTop]); simp only [recursionLimit] at *; omega))
local macro_rules | `(tactic| k_mem) => `(tactic| (refine Mine.memOf ?_; ktn_app; first | (refine List.mem_append.mpr (Or.inl ?_); k_mem) | (refine List.mem_append.mpr (Or.inr ?_); k_mem)))
local macro_rules | `(tactic| k_mem) => `(tactic| (refine Mine.memOf ?_; ktr_member))
local macro_rules | `(tactic| walk_at "MY dec") => `(tactic| first | assumption | exact ⟨_, _, _, _, _, by k_mem, by k_mem⟩)
local macro_rules | `(tactic| walk_at "MY lt") => `(tactic| first | assumption | exact allLt_of (by assumption) | exact And.right (by assumption) | exact And.right (And.right (by assumption)))
local macro_rules | `(tactic| walk_at "MY ctx") => `(tactic| (refine ⟨?_, ?_, ?_, ?_, ?_, ?_, ?_⟩; k_asm; k_asm; k_asm; k_asm; k_asm; exact rfl; k_room))
local macro_rules | `(tactic| walk_at "MY kind") => `(tactic| ((rename PySem.Scope.kind _ = _ => hk9); (rename PySem.Scope => cs9); obtain ⟨csk, csn, csg, csc, csm⟩ := cs9; dsimp only at hk9; subst hk9))
section
namespace Mine
/-- the dict of a Decimal of places 0 -/
abbrev decObj (P : Params) (i : Int) (k1 k2 k3 k4 : Tok) : Obj := dictOf [⟨PyData.keyHash P "top", .str "top" k1, .int i k2⟩, ⟨PyData.keyHash P "places", .str "places" k3, .int 0 k4⟩] 2
/-- a Decimal of places 0 stands on the ledger -/
def DecIn (P : Params) (news : List (Addr × Obj)) (a : Addr) (i : Int) : Prop :=
  ∃ d k1 k2 k3 k4, (a, instObj 143 d) ∈ news ∧ (d, decObj P i k1 k2 k3 k4) ∈ news
abbrev DecRet (P : Params) (h₀ : Heap) (L : Addr) (m : Str → Option Value) (news : List (Addr × Obj)) (s : Shared) (Q : Value → Shared → Prop) (v : Int) : Prop :=
  ∀ x d k1 k2 k3 k4 h' tk', Fr h₀ L h' m → News h₀ L h' ((x, instObj 143 d) :: (d, decObj P v k1 k2 k3 k4) :: news) → AllLt d news → @LT.lt Nat _ d x → Q (.ref x) { s with heap := h', toks := tk' }
theorem news_drop3 {h₀ h : Heap} {L : Addr} {a b c : Addr × Obj} {r : List (Addr × Obj)} (N : News h₀ L h (a :: b :: c :: r)) : News h₀ L h (a :: b :: r) := fun p hp => N p (by
  rcases List.mem_cons.mp hp with rfl | hp
  · exact .head _
  · rcases List.mem_cons.mp hp with rfl | hp
    · exact .tail _ (.head _)
    · exact .tail _ (.tail _ (.tail _ hp)))

theorem news_drop34 {h₀ h : Heap} {L : Addr} {a b c d : Addr × Obj} {r : List (Addr × Obj)} (N : News h₀ L h (a :: b :: c :: d :: r)) : News h₀ L h (a :: b :: r) := news_drop3 (news_drop3 N)
theorem news_drop8 {h₀ h : Heap} {L : Addr} {a b c d e f g i : Addr × Obj} {r : List (Addr × Obj)} (N : News h₀ L h (a :: b :: c :: d :: e :: f :: g :: i :: r)) : News h₀ L h r :=
  fun p hp => N p (.tail _ (.tail _ (.tail _ (.tail _ (.tail _ (.tail _ (.tail _ (.tail _ hp))))))))
section
variable {prog : Program} {w : World} {A : Around} {E : Value → Shared → Prop} {s : Shared} {h₀ : Heap} {L : Addr} {m : Str → Option Value} {news : List (Addr × Obj)} {Q : Value → Shared → Prop}
theorem max00 {t u : Tok} (hh : A.handled = none) (F : Fr h₀ L s.heap m) (N : News h₀ L s.heap news)
    (h : ∀ h' tk, Fr h₀ L h' m → News h₀ L h' news → Q (.int 0 t) { s with heap := h', toks := tk }) :
    wpAny (model prog w) A (call (.builtin "max") [.int 0 t, .int 0 u]) Q E s :=
  max_two_N hh F N fun h' tk F' N' => by simpa using h h' tk F' N'
theorem sub00 {t u : Tok} (h : Q (.int 0 s.toks) { s with toks := s.toks + 1 }) : wpAny (model prog w) A (binaryOp .Sub (.int 0 t) (.int 0 u)) Q E s := sub_int h
theorem add00 {t u : Tok} (h : Q (.int 0 s.toks) { s with toks := s.toks + 1 }) : wpAny (model prog w) A (binaryOp .Add (.int 0 t) (.int 0 u)) Q E s := PyProof.Rows.add_int h
theorem pow10 {t u : Tok} (h : Q (.int 1 s.toks) { s with toks := s.toks + 1 }) : wpAny (model prog w) A (binaryOp .Pow (.int 10 t) (.int 0 u)) Q E s :=
  pow_int_small (by decide) (by decide) (by decide) h
theorem mulx1 {x : Int} {t u : Tok} (h : Q (.int x s.toks) { s with toks := s.toks + 1 }) : wpAny (model prog w) A (binaryOp .Mult (.int x t) (.int 1 u)) Q E s :=
  PyProof.Rows.mul_int (by rw [Int.mul_one]; exact h) (IntMulOk.of_right (PySem.intBits_le_64 (by decide) (by decide)))
end

local macro_rules | `(tactic| walk_at "exec While BoolOp") => `(tactic| (k_here; k_dflt (refine whl_start 1 ?_)))

section
variable {w : World} {mean : ExcName → Option Value} {mg mb : Str → Option Value} {dp un : Nat} {gd : Option (List Code)} {cn : Str} {cs : Scope} {a : Addr} {ccd : Value} {cl : List (Str × Addr)} {outer : List Env} {A₀ : Around} {base h₀ : Heap} {L : Addr} {m : Str → Option Value} {news : List (Addr × Obj)} {s : Shared} {Q E : Value → Shared → Prop}
theorem decNew {v : Int} {t u : Tok} :
    Cx w A₀ base h₀ outer L s m news mean mg mb cs dp 2 →
    DecRet w.params h₀ L m news s Q v →
    wpAny (model PySem.Challenge.rw_og0143_01.row.prog w) (ktrTop dp un gd cn cs L a ccd cl outer) (call (.ref 143) [.int v t, .int 0 u]) Q E s := by
  w_top off
  delta Cx
  k_fill
  rintro ⟨B, F, X, N, T, hk, hdp⟩ ret
  walk_at "MY kind"
  k_steps
  exact ret _ _ _ _ _ _ _ _ (by assumption) (by assumption) (by walk_at "MY lt") (by assumption)
end
end Mine
end
local macro_rules | `(tactic| walk_at "call ref") => `(tactic| (k_here; (with_reducible show wpAny _ _ (call (Value.ref 143) [Value.int _ _, Value.int 0 _]) _ _ _); k_dflt (refine' Mine.decNew ?k1 ?_; (case k1 => walk_at "MY ctx"); k_whole); intro x' d' k1' k2' k3' k4' h' tk' F' N' l1 l2; (try simp only [AllLt, and_true] at l1); (try k_lt2 l2); (try k_sweep)))
section
namespace Mine
local macro_rules | `(tactic| walk_at "call builtin:max") => `(tactic| (k_here; (with_reducible show wpAny _ _ (call (Value.builtin _) [Value.int 0 _, Value.int 0 _]) _ _ _); refine' max00 ?hh ?F ?N ?_; (case hh => with_unfolding_all rfl); (case F => k_asm); (case N => k_asm); intro h' tk' F' N'; (try k_sweep)))
local macro_rules | `(tactic| walk_at "binaryOp Sub int int") => `(tactic| (k_here; with_reducible refine sub00 ?_))
local macro_rules | `(tactic| walk_at "binaryOp Add int int") => `(tactic| (k_here; with_reducible refine add00 ?_))
local macro_rules | `(tactic| walk_at "binaryOp Pow int int") => `(tactic| (k_here; with_reducible refine pow10 ?_))
local macro_rules | `(tactic| walk_at "binaryOp Mult int int") => `(tactic| (k_here; with_reducible refine mulx1 ?_))
section
variable {w : World} {mean : ExcName → Option Value} {mg mb : Str → Option Value} {dp un : Nat} {gd : Option (List Code)} {cn : Str} {cs : Scope} {a : Addr} {ccd : Value} {cl : List (Str × Addr)} {outer : List Env} {A₀ : Around} {base h₀ : Heap} {L : Addr} {m : Str → Option Value} {news : List (Addr × Obj)} {s : Shared} {Q E : Value → Shared → Prop}
theorem oneScale {p q : Addr} {x y : Int} :
    Cx w A₀ base h₀ outer L s m news mean mg mb cs dp 5 →
    DecIn w.params news p x → DecIn w.params news q y →
    (∀ r t u v h' tk', Fr h₀ L h' m → News h₀ L h' ((r, { cls := .type "tuple", data := .seq #[.int x t, .int y u, .int 0 v] }) :: news) → AllLt r news → Q (.ref r) { s with heap := h', toks := tk' }) →
    wpAny (model PySem.Challenge.rw_og0143_01.row.prog w) (ktrTop dp un gd cn cs L a ccd cl outer) (call (.ref 175) [.ref p, .ref q]) Q E s := by
  w_top off
  k_fill
  rintro ⟨B, F, X, N, T, hk, hdp⟩ hp hq ret
  walk_at "MY kind"
  obtain ⟨dp1, _, _, _, _, hp1, hp2⟩ := hp
  obtain ⟨dq1, _, _, _, _, hq1, hq2⟩ := hq
  k_steps
  exact ret _ _ _ _ _ _ (by assumption) (by assumption) (by walk_at "MY lt")
local macro_rules | `(tactic| walk_at "call ref") => `(tactic| (k_here; (with_reducible show wpAny _ _ (call (Value.ref 175) [Value.ref _, Value.ref _]) _ _ _); k_dflt (refine' oneScale ?k1 ?k8 ?k9 ?_; (case k1 => walk_at "MY ctx"); (case k8 => walk_at "MY dec"); (case k9 => walk_at "MY dec"); k_whole); intro r' t' u' v' h' tk' F' N' l1; (try simp only [AllLt, and_true] at l1); (try k_sweep)))
theorem decMinus {p q : Addr} {x y : Int} :
    Cx w A₀ base h₀ outer L s m news mean mg mb cs dp 8 →
    DecIn w.params news p x → DecIn w.params news q y → DecRet w.params h₀ L m news s Q (x - y) →
    wpAny (model PySem.Challenge.rw_og0143_01.row.prog w) (ktrTop dp un gd cn cs L a ccd cl outer) (call (.ref 77) [.ref p, .ref q]) Q E s := by
  w_top off
  k_fill
  rintro ⟨B, F, X, N, T, hk, hdp⟩ hp hq ret
  walk_at "MY kind"
  k_steps
  exact ret _ _ _ _ _ _ _ _ (by assumption) (news_drop3 (by assumption)) (by walk_at "MY lt") (by assumption)
theorem decTimes {p : Addr} {x n : Int} {t : Tok} :
    Cx w A₀ base h₀ outer L s m news mean mg mb cs dp 5 →
    DecIn w.params news p x → 0 ≤ n → n ≤ 1000 → DecRet w.params h₀ L m news s Q (x * n) →
    wpAny (model PySem.Challenge.rw_og0143_01.row.prog w) (ktrTop dp un gd cn cs L a ccd cl outer) (call (.ref 84) [.ref p, .int n t]) Q E s := by
  w_top off
  k_fill
  rintro ⟨B, F, X, N, T, hk, hdp⟩ hp h1 h2 ret
  walk_at "MY kind"
  obtain ⟨dp1, _, _, _, _, hp1, hp2⟩ := hp
  k_steps
  exact ret _ _ _ _ _ _ _ _ (by assumption) (news_drop34 (by assumption)) (by walk_at "MY lt") (by assumption)
theorem decCompared {p q : Addr} {x y : Int} :
    Cx w A₀ base h₀ outer L s m news mean mg mb cs dp 8 →
    DecIn w.params news p x → DecIn w.params news q y →
    (∀ v t h' tk', (0 < v ↔ y < x) → Fr h₀ L h' m → News h₀ L h' news → Q (.int v t) { s with heap := h', toks := tk' }) →
    wpAny (model PySem.Challenge.rw_og0143_01.row.prog w) (ktrTop dp un gd cn cs L a ccd cl outer) (call (.ref 98) [.ref p, .ref q]) Q E s := by
  w_top off
  k_fill
  rintro ⟨B, F, X, N, T, hk, hdp⟩ hp hq ret
  walk_at "MY kind"
  k_steps
  all_goals (refine ret _ _ _ _ ?_ (by assumption) (fun p hp => (by assumption : News _ _ _ (_ :: _)) p (.tail _ hp)))
  all_goals first | omega | (simp_all; omega)
theorem absolute {p : Addr} {x : Int} :
    Cx w A₀ base h₀ outer L s m news mean mg mb cs dp 8 →
    DecIn w.params news p x → 0 ≤ x →
    (∀ h' tk', Fr h₀ L h' m → News h₀ L h' news → Q (.ref p) { s with heap := h', toks := tk' }) →
    wpAny (model PySem.Challenge.rw_og0143_01.row.prog w) (ktrTop dp un gd cn cs L a ccd cl outer) (call (.ref 182) [.ref p]) Q E s := by
  w_top off
  k_fill
  rintro ⟨B, F, X, N, T, hk, hdp⟩ hp h0 ret
  walk_at "MY kind"
  obtain ⟨dp1, _, _, _, _, hp1, hp2⟩ := hp
  k_steps
  exact ret _ _ (by assumption) (by assumption)
local macro_rules | `(tactic| walk_at "call ref") => `(tactic| (k_here; (with_reducible show wpAny _ _ (call (Value.ref 77) [Value.ref _, Value.ref _]) _ _ _); k_dflt (refine' decMinus ?k1 ?k8 ?k9 ?_; (case k1 => walk_at "MY ctx"); (case k8 => walk_at "MY dec"); (case k9 => walk_at "MY dec"); k_whole); intro x' d' k1' k2' k3' k4' h' tk' F' N' l1 l2; (try simp only [AllLt, and_true] at l1); (try k_lt2 l2); (try k_sweep)))
local macro_rules | `(tactic| walk_at "call ref") => `(tactic| (k_here; (with_reducible show wpAny _ _ (call (Value.ref 84) [Value.ref _, Value.int _ _]) _ _ _); k_dflt (refine' decTimes ?k1 ?k8 ?k9 ?k10 ?_; (case k1 => walk_at "MY ctx"); (case k8 => walk_at "MY dec"); (case k9 => first | assumption | decide); (case k10 => first | assumption | decide); k_whole); intro x' d' k1' k2' k3' k4' h' tk' F' N' l1 l2; (try simp only [AllLt, and_true] at l1); (try k_lt2 l2); (try k_sweep)))
local macro_rules | `(tactic| walk_at "call ref") => `(tactic| (k_here; (with_reducible show wpAny _ _ (call (Value.ref 98) [Value.ref _, Value.ref _]) _ _ _); k_dflt (refine' decCompared ?k1 ?k8 ?k9 ?_; (case k1 => walk_at "MY ctx"); (case k8 => walk_at "MY dec"); (case k9 => walk_at "MY dec"); k_whole); intro v' t' h' tk' hv' F' N'; (try k_sweep)))
local macro_rules | `(tactic| walk_at "call ref") => `(tactic| (k_here; (with_reducible show wpAny _ _ (call (Value.ref 182) [Value.ref _]) _ _ _); k_dflt (refine' absolute ?k1 ?k8 ?k9 ?_; (case k1 => walk_at "MY ctx"); (case k8 => walk_at "MY dec"); (case k9 => assumption); k_whole); intro h' tk' F' N'; (try k_sweep)))
structure GD where
  t : Str
  x : Int
  w : Int
  s : Int
/-- a Glyph stands on the ledger -/
def GlIn (P : Params) (news : List (Addr × Obj)) (a : Addr) (g : GD) : Prop :=
  ∃ d ax ay aw as k1 k2 k3 k4 k5 k6, (a, instObj 206 d) ∈ news ∧
    (d, dictOf [⟨PyData.keyHash P "text", .str "text" k1, .str g.t k2⟩, ⟨PyData.keyHash P "x", .str "x" k3, .ref ax⟩, ⟨PyData.keyHash P "y", .str "y" k4, .ref ay⟩,
      ⟨PyData.keyHash P "width", .str "width" k5, .ref aw⟩, ⟨PyData.keyHash P "size", .str "size" k6, .ref as⟩] 5) ∈ news ∧
    DecIn P news ax g.x ∧ DecIn P news aw g.w ∧ DecIn P news as g.s
def apart (g1 g2 : GD) (tn : Int) : Bool := decide (g1.s * tn < (g2.x - g1.x - g1.w) * 10)
theorem apart_end {R : Value → Shared → Prop} {g1 g2 : GD} {tn v : Int} {s : Shared} (h : 0 < v ↔ g1.s * tn < (g2.x - g1.x - g1.w) * 10) (k : R (.bool (apart g1 g2 tn)) s) : R (.bool (decide (0 < v))) s := by
  rw [show decide (0 < v) = apart g1 g2 tn from decide_eq_decide.mpr h]; exact k
theorem isApart {p q : Addr} {g1 g2 : GD} {tn : Int} {tk : Tok} :
    Cx w A₀ base h₀ outer L s m news mean mg mb cs dp 20 →
    GlIn w.params news p g1 → GlIn w.params news q g2 → 0 ≤ g1.s → 0 ≤ tn → tn ≤ 1000 →
    (∀ h' tk', Fr h₀ L h' m → News h₀ L h' news → Q (.bool (apart g1 g2 tn)) { s with heap := h', toks := tk' }) →
    wpAny (model PySem.Challenge.rw_og0143_01.row.prog w) (ktrTop dp un gd cn cs L a ccd cl outer) (call (.ref 217) [.ref p, .ref q, .int tn tk]) Q E s := by
  w_top off
  k_fill
  rintro ⟨B, F, X, N, T, hk, hdp⟩ hp hq hs0 ht0 ht1 ret
  walk_at "MY kind"
  obtain ⟨d1, ax1, ay1, aw1, as1, _, _, _, _, _, _, hp1, hp2, ⟨dx1, _, _, _, _, hx1, hx1'⟩, ⟨dw1, _, _, _, _, hw1, hw1'⟩, ⟨ds1, _, _, _, _, hs1, hs1'⟩⟩ := hp
  obtain ⟨d2, ax2, ay2, aw2, as2, _, _, _, _, _, _, hq1, hq2, ⟨dx2, _, _, _, _, hx2, hx2'⟩, _, _⟩ := hq
  k_steps
  exact apart_end (by assumption) (ret _ _ (by assumption) (news_drop8 (by assumption)))
end
end Mine
end
section
local macro_rules | `(tactic| walk_at "MY to range") => `(tactic| repeat ((fail_if_success (with_reducible show wpAny _ _ (call (Value.type "range") _) _ _ _)); (first | (k_unfold; (try dsimp only)) | (k_end; wrow_close) | walk1 | (dsimp only; walk1) | (leave1; walk_say "STEP leave1"; try dsimp only) | fail "no step")))
local macro_rules | `(tactic| walk_at "call builtin:len") => `(tactic| (k_here; (with_reducible show wpAny _ _ (call (Value.builtin "len") [Value.ref _]) _ _ _); k_dflt (refine' Mine.lenMade ?k1 ?k2 ?k3 ?k4 ?_; (case k1 => k_asm); (case k2 => k_mem); (case k3 => first | (simp only [List.length_map]; first | assumption | rfl) | rfl); (case k4 => omega); k_whole)))
local macro_rules | `(tactic| walk_at "subscriptTail") => `(tactic| (k_here; (with_reducible show wpAny _ _ (subscriptTail _ _ (Value.ref _) (Value.int _ _)) _ _ _); k_dflt (refine' Mine.itemMade ?k1 ?k2 ?k3 ?k4 ?k5 ?_; (case k1 => k_asm); (case k2 => k_mem); (case k4 => assumption); (case k3 => omega); (case k5 => omega); k_whole)))
local macro_rules | `(tactic| walk_at "subscriptTail") => `(tactic| (k_here; (with_reducible show wpAny _ _ (subscriptTail _ _ (Value.str _ _) (Value.int _ _)) _ _ _); k_dflt (refine' item_str ?k1 ?k2 ?k3 ?_; (case k1 => decide); (case k2 => omega); (case k3 => omega); k_whole); intro _))
section
namespace Mine


def spc : Str := Str.ofString " "
/-- the text made of the first k parts, with a blank ahead of each part that bl marks -/
def glue (bl : Nat → Bool) (ts : Nat → Str) : Nat → Str
  | 0 => Str.ofString ""
  | k + 1 => (if bl k then glue bl ts k ++ spc else glue bl ts k) ++ ts k
def gAt (gs : List GD) (k : Nat) : GD := gs.getD k ⟨Str.ofString "", 0, 0, 0⟩
def endsB (t : Str) : Bool := PySem.Txt.item t (-1) == spc
def startsB (t : Str) : Bool := PySem.Txt.item t 0 == spc
def made (gs : List GD) (tn : Int) (k : Nat) : Bool := decide (0 < k) && (!endsB (gAt gs (k - 1)).t && (!startsB (gAt gs k).t && apart (gAt gs (k - 1)) (gAt gs k) tn))
def rowText (gs : List GD) (tn : Int) : Str := glue (made gs tn) (fun k => (gAt gs k).t) gs.length
theorem len_append (a b : Str) : (a ++ b).length = a.length + b.length := by
  show (a.cps ++ b.cps).size = _
  rw [Array.size_append]; rfl
theorem glue_len (bl : Nat → Bool) (ts : Nat → Str) : ∀ k, (∀ i, i < k → 1 ≤ (ts i).length ∧ (ts i).length ≤ 2) → k ≤ (glue bl ts k).length ∧ (glue bl ts k).length ≤ 3 * k
  | 0, _ => ⟨Nat.zero_le _, Nat.le_of_eq (show (Str.ofString "").length = 0 by decide +kernel)⟩
  | k + 1, h => by
    have ih := glue_len bl ts k fun i hi => h i (Nat.lt_succ_of_lt hi)
    have h1 := h k (Nat.lt_succ_self k)
    have h2 : spc.length = 1 := by decide +kernel
    unfold glue
    split <;> simp only [len_append] <;> omega
theorem item_last (a b : Str) (h : 1 ≤ b.length) : PySem.Txt.item (a ++ b) (-1) = PySem.Txt.item b (-1) := by
  have hc : ∀ x : Str, 1 ≤ x.length → PySem.Txt.charAt x (-1) = x.cps[x.length - 1]? := by
    intro x hx
    unfold PySem.Txt.charAt seqIndex?
    have h1 : ((-1 : Int) < 0) := by decide
    have h2 : (0 : Int) ≤ -1 + (x.length : Int) := by omega
    have h3 : (-1 + (x.length : Int)) < (x.length : Int) := by omega
    have h4 : (-1 + (x.length : Int)).toNat = x.length - 1 := by omega
    simp only [if_pos h1, decide_eq_true h2, decide_eq_true h3, Bool.and_self, if_true, h4, Option.bind_some]
  have hl := len_append a b
  unfold PySem.Txt.item
  rw [hc _ (by omega), hc _ h]
  have e : (a ++ b).cps[(a ++ b).length - 1]? = b.cps[b.length - 1]? := by
    show (a.cps ++ b.cps)[(a ++ b).length - 1]? = _
    rw [hl, Array.getElem?_append_right (by show a.cps.size ≤ _; show a.length ≤ _; omega)]
    congr 1
    show a.length + b.length - 1 - a.length = _
    omega
  rw [e]
theorem glue_last (bl : Nat → Bool) (ts : Nat → Str) {i : Nat} (h0 : 0 < i) (h : 1 ≤ (ts (i - 1)).length) : PySem.Txt.item (glue bl ts i) (-1) = PySem.Txt.item (ts (i - 1)) (-1) := by
  obtain ⟨k, rfl⟩ : ∃ k, i = k + 1 := ⟨i - 1, by omega⟩
  exact item_last _ _ h
theorem glue_yes {bl : Nat → Bool} {ts : Nat → Str} {i : Nat} (h : bl i = true) : glue bl ts i ++ Str.ofString " " ++ ts i = glue bl ts (i + 1) := by
  show _ = (if bl i then glue bl ts i ++ spc else glue bl ts i) ++ ts i
  rw [if_pos h]; rfl
theorem glue_no {bl : Nat → Bool} {ts : Nat → Str} {i : Nat} (h : bl i = false) : glue bl ts i ++ ts i = glue bl ts (i + 1) := by
  show _ = (if bl i then glue bl ts i ++ spc else glue bl ts i) ++ ts i
  rw [if_neg (by rw [h]; decide)]
theorem ends_of {t : Str} {b : Bool} (h : (PySem.Txt.item t (-1) != Str.ofString " ") = b) : endsB t = !b := by
  rw [← h]; unfold endsB spc bne; rw [Bool.not_not]
theorem starts_of {t : Str} {b : Bool} (h : (PySem.Txt.item t 0 != Str.ofString " ") = b) : startsB t = !b := by
  rw [← h]; unfold startsB spc bne; rw [Bool.not_not]
theorem made_yes {gs : List GD} {tn : Int} {i : Nat} {x : Str} (h0 : 0 < i) (hl : PySem.Txt.item x (-1) = PySem.Txt.item (gAt gs (i - 1)).t (-1)) (a : (PySem.Txt.item x (-1) != Str.ofString " ") = true)
    (b : (PySem.Txt.item (gAt gs i).t 0 != Str.ofString " ") = true) (c : apart (gAt gs (i - 1)) (gAt gs i) tn = true) : made gs tn i = true := by
  rw [hl] at a
  unfold made
  rw [ends_of a, starts_of b, c, decide_eq_true h0]; rfl
theorem made_no1 {gs : List GD} {tn : Int} {i : Nat} {x : Str} (hl : PySem.Txt.item x (-1) = PySem.Txt.item (gAt gs (i - 1)).t (-1)) (a : (PySem.Txt.item x (-1) != Str.ofString " ") = false) : made gs tn i = false := by
  rw [hl] at a
  unfold made
  rw [ends_of a]; simp
theorem made_no2 {gs : List GD} {tn : Int} {i : Nat} (b : (PySem.Txt.item (gAt gs i).t 0 != Str.ofString " ") = false) : made gs tn i = false := by
  unfold made
  rw [starts_of b]; simp
theorem made_no3 {gs : List GD} {tn : Int} {i : Nat} (c : apart (gAt gs (i - 1)) (gAt gs i) tn = false) : made gs tn i = false := by
  unfold made
  rw [c]; simp
theorem GlIn.mono {P : Params} {news news' : List (Addr × Obj)} {a : Addr} {g : GD} (h : GlIn P news a g) (s : ∀ p ∈ news, p ∈ news') : GlIn P news' a g := by
  have dl : ∀ {a i}, DecIn P news a i → DecIn P news' a i := fun ⟨d, k1, k2, k3, k4, x, y⟩ => ⟨d, k1, k2, k3, k4, s _ x, s _ y⟩
  obtain ⟨d, ax, ay, aw, as, k1, k2, k3, k4, k5, k6, h1, h2, h3, h4, h5⟩ := h
  exact ⟨d, ax, ay, aw, as, k1, k2, k3, k4, k5, k6, s _ h1, s _ h2, dl h3, dl h4, dl h5⟩
theorem GlIn.left {P : Params} {news tl : List (Addr × Obj)} {a : Addr} {g : GD} (h : GlIn P news a g) : GlIn P (news ++ tl) a g := h.mono fun _ hp => List.mem_append_left _ hp
def Good (gs : List GD) : Prop := ∀ k, k < gs.length → 1 ≤ (gAt gs k).t.length ∧ (gAt gs k).t.length ≤ 2 ∧ 0 ≤ (gAt gs k).s
def RowIn (P : Params) (news : List (Addr × Obj)) (r : Addr) (gs : List GD) : Prop :=
  ∃ (as : List Addr) (c : Nat), (r, W.listOf (as.map Value.ref).toArray c) ∈ news ∧ as.length = gs.length ∧ ∀ k, k < gs.length → GlIn P news (as.getD k 0) (gAt gs k)
local macro_rules | `(tactic| walk_at "call ref") => `(tactic| (k_here; (with_reducible show wpAny _ _ (call (Value.ref 217) [Value.ref _, Value.ref _, Value.int _ _]) _ _ _); k_dflt (refine' isApart ?k1 ?k8 ?k9 ?k10 ?k11 ?k12 ?_; (case k1 => walk_at "MY ctx"); (case k8 => first | assumption | exact GlIn.left (by assumption)); (case k9 => first | assumption | exact GlIn.left (by assumption)); (case k10 => first | assumption | exact hsp.2.2 | omega); (case k11 => assumption); (case k12 => assumption); k_whole); intro h' tk' F' N'; (try k_sweep)))
section
variable {w : World} {mean : ExcName → Option Value} {mg mb : Str → Option Value} {dp un : Nat} {gd : Option (List Code)} {cn : Str} {cs : Scope} {a : Addr} {ccd : Value} {cl : List (Str × Addr)} {outer : List Env} {A₀ : Around} {base h₀ : Heap} {L : Addr} {m : Str → Option Value} {news : List (Addr × Obj)} {s : Shared} {Q E : Value → Shared → Prop}
theorem textOfRow {r : Addr} {gs : List GD} {tn : Int} {tk : Tok} :
    Cx w A₀ base h₀ outer L s m news mean mg mb cs dp 30 →
    RowIn w.params news r gs → Good gs → gs.length ≤ 7 → 0 ≤ tn → tn ≤ 1000 →
    (∀ t h' tk', Fr h₀ L h' m → News h₀ L h' news → Q (.str (rowText gs tn) t) { s with heap := h', toks := tk' }) →
    wpAny (model PySem.Challenge.rw_og0143_01.row.prog w) (ktrTop dp un gd cn cs L a ccd cl outer) (call (.ref 224) [.ref r, .int tn tk]) Q E s := by
  w_top off
  k_fill
  rintro ⟨B, F, X, N, T, hk, hdp⟩ hr hg h7 ht0 ht1 ret
  walk_at "MY kind"
  obtain ⟨as, c, hr1, hlen, hgl⟩ := hr
  walk_at "MY to range"
  rename Fr _ _ _ _ => lF9
  rename News _ _ _ _ => lN9
  refine forRangeStr (y := Str.ofString "text") (fun i => glue (made gs tn) (fun k => (gAt gs k).t) i) (by rfl) (by rfl) (by omega) lF9 lN9 (by rfl) (by decide) (fun i t ty h tk own hi hoff F' N' => ?_) (fun u ty h tk F' N' => ?_)
  · clear lF9 lN9
    have hq := hgl i hi
    obtain ⟨q, hqe⟩ : ∃ q, as.getD i 0 = q := ⟨_, rfl⟩
    rw [hqe] at hq
    have hxq : (as.map Value.ref)[(i : Int).toNat]? = some (.ref q) := by
      have h1 : i < as.length := by omega
      rw [List.getD_eq_getElem?_getD, List.getElem?_eq_getElem h1] at hqe
      simp only [Option.getD_some] at hqe
      simp [h1, hqe]
    have hlT := glue_len (made gs tn) (fun k => (gAt gs k).t) i fun k hk => ⟨(hg k (by omega)).1, (hg k (by omega)).2.1⟩
    have hlq := hg i hi
    obtain ⟨d2, ax2, ay2, aw2, as2, _, _, _, _, _, _, hq1, hq2, _⟩ := id hq
    rcases Nat.eq_zero_or_pos i with rfl | h0
    · k_steps
      refine strEnd2 (by assumption) (by assumption) hoff rfl ?_ (by (intro z h1 h2; simp only [if_neg h1, if_neg h2]))
      simp [glue, made]
    · have hp := hgl (i - 1) (by omega)
      obtain ⟨p, hpe⟩ : ∃ p, as.getD (i - 1) 0 = p := ⟨_, rfl⟩
      rw [hpe] at hp
      have hxp : (as.map Value.ref)[((i : Int) - 1).toNat]? = some (.ref p) := by
        have h1 : i - 1 < as.length := by omega
        rw [List.getD_eq_getElem?_getD, List.getElem?_eq_getElem h1] at hpe
        simp only [Option.getD_some] at hpe
        have h2 : ((i : Int) - 1).toNat = i - 1 := by omega
        simp [h2, h1, hpe]
      have hsp := hg (i - 1) (by omega)
      have hl := glue_last (made gs tn) (fun k => (gAt gs k).t) h0 hsp.1
      k_steps
      all_goals refine strEnd2 (by assumption) (by assumption) hoff rfl ?_ (by (intro z h1 h2; simp only [if_neg h1, if_neg h2]))
      all_goals first
        | exact glue_yes (made_yes h0 hl (by assumption) (by assumption) (by assumption))
        | exact glue_no (made_no1 hl (by assumption))
        | exact glue_no (made_no2 (by assumption))
        | exact glue_no (made_no3 (by assumption))
  · k_steps
    exact ret _ _ _ (by assumption) (by assumption)
end
end Mine
end
namespace Mine
theorem str_ext {a b : Str} (h : a.cps.toList = b.cps.toList) : a = b := by
  cases a; cases b; simp only [Str.mk.injEq]; exact Array.toList_inj.mp h
theorem toList_append (a b : Str) : (a ++ b).cps.toList = a.cps.toList ++ b.cps.toList := by
  show (a.cps ++ b.cps).toList = _
  rw [Array.toList_append]
theorem len_toList (a : Str) : a.cps.toList.length = a.length := by
  show a.cps.toList.length = a.cps.size
  rw [Array.length_toList]
theorem str_assoc (a b c : Str) : a ++ b ++ c = a ++ (b ++ c) := str_ext (by simp only [toList_append, List.append_assoc])
theorem slice_val {x : Str} {i j : Nat} (h1 : i ≤ j) (h2 : j ≤ x.length) : (PySem.Txt.slice x (some (i : Int)) (some (j : Int))).cps.toList = (x.cps.toList.drop i).take (j - i) := by
  have h := slice_closesL (x := x) (i := (i : Int)) (j := (j : Int)) (by omega) (by omega) (by omega)
  rw [beq_iff_eq.mp h]
  have e1 : ((i : Int)).toNat = i := by omega
  have e2 : ((j : Int) - (i : Int)).toNat = j - i := by omega
  rw [e1, e2]
theorem slice_mid (a b r : Str) {i j : Int} (hi : i = (a.length : Int)) (hj : j = (a.length : Int) + (b.length : Int)) : PySem.Txt.slice (a ++ b ++ r) (some i) (some j) = b := by
  have hj' : j = ((a.length + b.length : Nat) : Int) := by omega
  subst hi
  subst hj'
  refine str_ext ?_
  rw [slice_val (by omega) (by simp only [len_append]; omega)]
  rw [toList_append, toList_append, List.append_assoc, ← len_toList a, List.drop_left, ← len_toList b, Nat.add_sub_cancel_left, List.take_left]
theorem glue_more (bl : Nat → Bool) (ts : Nat → Str) (i : Nat) : ∀ d, ∃ r, glue bl ts (i + d) = glue bl ts i ++ r
  | 0 => ⟨Str.empty, str_ext (by rw [toList_append]; simp [Str.empty])⟩
  | d + 1 => by
    obtain ⟨r, h⟩ := glue_more bl ts i d
    refine ⟨(if bl (i + d) then r ++ spc else r) ++ ts (i + d), ?_⟩
    show (if bl (i + d) then glue bl ts (i + d) ++ spc else glue bl ts (i + d)) ++ ts (i + d) = _
    rw [h]
    split <;> simp only [str_assoc]
theorem glue_rest (bl : Nat → Bool) (ts : Nat → Str) {i n : Nat} (h : i < n) : ∃ r, glue bl ts n = (if bl i then glue bl ts i ++ spc else glue bl ts i) ++ ts i ++ r := by
  obtain ⟨r, e⟩ := glue_more bl ts (i + 1) (n - (i + 1))
  rw [show i + 1 + (n - (i + 1)) = n by omega] at e
  exact ⟨r, e⟩
theorem spc_list : spc.cps.toList = [32] := by decide +kernel
theorem spc_len : spc.length = 1 := by decide +kernel
section
variable {bl : Nat → Bool} {ts : Nat → Str} {i n : Nat}
theorem cut_no (h : i < n) (hb : bl i = false) : (PySem.Txt.slice (glue bl ts n) (some ((glue bl ts i).length : Int)) (some (((glue bl ts i).length : Int) + ((ts i).length : Int))) != ts i) = false := by
  obtain ⟨r, e⟩ := glue_rest bl ts h
  rw [hb] at e
  simp only [Bool.false_eq_true, if_false] at e
  rw [e, slice_mid _ _ _ rfl rfl]
  simp
theorem cut_blank (h : i < n) (hb : bl i = true) : (PySem.Txt.slice (glue bl ts n) (some ((glue bl ts i).length : Int)) (some (((glue bl ts i).length : Int) + 1)) != Str.ofString " ") = false := by
  obtain ⟨r, e⟩ := glue_rest bl ts h
  rw [hb] at e
  simp only [if_true] at e
  rw [e, str_assoc _ (ts i) r, slice_mid _ _ _ rfl (by rw [spc_len]; rfl)]
  show (spc != spc) = false
  simp
theorem cut_yes (h : i < n) (hb : bl i = true) : (PySem.Txt.slice (glue bl ts n) (some (((glue bl ts i).length : Int) + 1)) (some (((glue bl ts i).length : Int) + 1 + ((ts i).length : Int))) != ts i) = false := by
  obtain ⟨r, e⟩ := glue_rest bl ts h
  rw [hb] at e
  simp only [if_true] at e
  rw [e, slice_mid _ _ _ (by rw [len_append, spc_len]; omega) (by rw [len_append, spc_len]; omega)]
  simp
theorem startsB_cons {t : Str} {r : List Nat} (h : t.cps.toList = 32 :: r) : startsB t = true := by
  unfold startsB
  rw [beq_iff_eq]
  have hl : t.length = r.length + 1 := by rw [← len_toList, h]; rfl
  have hc : PySem.Txt.charAt t 0 = some 32 := by
    unfold PySem.Txt.charAt seqIndex?
    have h1 : ¬ ((0 : Int) < 0) := by decide
    have h3 : ((0 : Int)) < (t.length : Int) := by omega
    simp only [if_neg h1, decide_eq_true (Int.le_refl 0), decide_eq_true h3, Bool.and_self, if_true, Option.bind_some]
    show t.cps[0]? = some 32
    rw [← Array.getElem?_toList, h]; rfl
  unfold PySem.Txt.item
  rw [hc]
  exact str_ext (by rw [spc_list]; rfl)
theorem cut_other (h : i < n) (hb : bl i = true) (h1 : 1 ≤ (ts i).length) (hs : startsB (ts i) = false) :
    (PySem.Txt.slice (glue bl ts n) (some ((glue bl ts i).length : Int)) (some (((glue bl ts i).length : Int) + ((ts i).length : Int))) != ts i) = true := by
  obtain ⟨r, e⟩ := glue_rest bl ts h
  rw [hb] at e
  simp only [if_true] at e
  rw [bne_iff_ne]
  intro q
  have hv := slice_val (x := glue bl ts n) (i := (glue bl ts i).length) (j := (glue bl ts i).length + (ts i).length) (by omega) (by rw [e]; simp only [len_append]; omega)
  rw [show (((glue bl ts i).length + (ts i).length : Nat) : Int) = ((glue bl ts i).length : Int) + ((ts i).length : Int) by omega, q, Nat.add_sub_cancel_left] at hv
  rw [e, str_assoc, str_assoc, toList_append, ← len_toList (glue bl ts i), List.drop_left, toList_append, spc_list] at hv
  obtain ⟨k, hk⟩ : ∃ k, (ts i).length = k + 1 := ⟨(ts i).length - 1, by omega⟩
  rw [hk] at hv
  have := startsB_cons (t := ts i) hv
  rw [this] at hs
  cases hs
end
/-- the places with a made blank -/
def marks (bl : Nat → Bool) : Nat → List Int
  | 0 => []
  | k + 1 => if bl k then marks bl k ++ [(k : Int)] else marks bl k
theorem marks_len (bl : Nat → Bool) : ∀ k, (marks bl k).length ≤ k
  | 0 => Nat.le_refl _
  | k + 1 => by
    have := marks_len bl k
    unfold marks
    split <;> simp <;> omega
theorem mem_marks {bl : Nat → Bool} {x : Int} : ∀ {n}, x ∈ marks bl n ↔ ∃ k, k < n ∧ bl k = true ∧ x = (k : Int)
  | 0 => by simp [marks]
  | n + 1 => by
    have ih := mem_marks (bl := bl) (x := x) (n := n)
    unfold marks
    constructor
    · intro h
      by_cases hb : bl n = true
      · rw [if_pos hb, List.mem_append, List.mem_singleton, ih] at h
        rcases h with ⟨k, a, b, c⟩ | h
        · exact ⟨k, Nat.lt_succ_of_lt a, b, c⟩
        · exact ⟨n, Nat.lt_succ_self n, hb, h⟩
      · rw [if_neg hb, ih] at h
        obtain ⟨k, a, b, c⟩ := h
        exact ⟨k, Nat.lt_succ_of_lt a, b, c⟩
    · rintro ⟨k, a, b, c⟩
      rcases Nat.lt_succ_iff_lt_or_eq.mp a with a | rfl
      · have := ih.mpr ⟨k, a, b, c⟩
        split
        · exact List.mem_append_left _ this
        · exact this
      · rw [if_pos b]
        exact List.mem_append_right _ (by rw [c]; exact List.mem_singleton.mpr rfl)
theorem marks_no {bl : Nat → Bool} {i : Nat} (h : bl i = false) : marks bl (i + 1) = marks bl i := by
  show (if bl i then _ else _) = _
  rw [h]; rfl
theorem marks_yes {bl : Nat → Bool} {i : Nat} (h : bl i = true) : marks bl (i + 1) = marks bl i ++ [(i : Int)] := by
  show (if bl i then _ else _) = _
  rw [h]; rfl
theorem glen_no {bl : Nat → Bool} {ts : Nat → Str} {i : Nat} (h : bl i = false) : ((glue bl ts (i + 1)).length : Int) = ((glue bl ts i).length : Int) + ((ts i).length : Int) := by
  rw [← glue_no h, len_append]; omega
theorem glen_yes {bl : Nat → Bool} {ts : Nat → Str} {i : Nat} (h : bl i = true) : ((glue bl ts (i + 1)).length : Int) = ((glue bl ts i).length : Int) + 1 + ((ts i).length : Int) := by
  rw [← glue_yes h, len_append, len_append]
  have : (Str.ofString " ").length = 1 := spc_len
  omega
end Mine
local macro_rules | `(tactic| k_all) => `(tactic| assumption)
local macro_rules | `(tactic| walk_at "compareOp Eq str str") => `(tactic| (k_here; refine Mine.eq_str_by (by assumption) ?_))
section
namespace Mine

local macro_rules | `(tactic| walk_at "subscriptTail") => `(tactic| (k_here; (with_reducible show wpAny _ _ (subscriptTail _ (Expr.Slice (some _) (some _) none _) (Value.str _ _) (Value.ref _)) _ _ _); (with_reducible rename Fr _ _ _ _ => F9); (with_reducible rename News _ _ _ _ => N9); (refine slice_strN_ss (hsz := ?hsz) (s := ⟨_, _, _, _, _⟩) F9 N9 ?_); (case hsz => (rw [PySem.sizeLine_eq]; omega)); clear F9 N9; intro h' t' k' F' N'))
local macro_rules | `(tactic| walk_at "compareOp NotEq str str") => `(tactic| (k_here; refine ne_str_by (by assumption) ?_))

def PartsIn (news : List (Addr × Obj)) (p : Addr) (ts : Nat → Str) (n : Nat) : Prop :=
  ∃ (vs : List Value) (c : Nat), (p, W.listOf vs.toArray c) ∈ news ∧ vs.length = n ∧ ∀ k, k < n → ∃ t, vs[k]? = some (.str (ts k) t)
def CutOk (bl : Nat → Bool) (ts : Nat → Str) (n : Nat) : Prop :=
  ∀ k, k < n → 1 ≤ (ts k).length ∧ (ts k).length ≤ 2 ∧ (bl k = true → 0 < k ∧ endsB (ts (k - 1)) = false ∧ startsB (ts k) = false)
section
variable {w : World} {mean : ExcName → Option Value} {mg mb : Str → Option Value} {dp un : Nat} {gd : Option (List Code)} {cn : Str} {cs : Scope} {a : Addr} {ccd : Value} {cl : List (Str × Addr)} {outer : List Env} {A₀ : Around} {base h₀ : Heap} {L : Addr} {m : Str → Option Value} {news : List (Addr × Obj)} {s : Shared} {Q E : Value → Shared → Prop}
theorem lawCut {p : Addr} {bl : Nat → Bool} {ts : Nat → Str} {n : Nat} {t : Tok} :
    Cx w A₀ base h₀ outer L s m news mean mg mb cs dp 30 →
    PartsIn news p ts n → CutOk bl ts n → n ≤ 7 →
    (∀ b us c h' tk', Fr h₀ L h' m → News h₀ L h' ((b, W.listOf us.toArray c) :: news) → AllLt b news → IntsAre us (marks bl n) → Q (.ref b) { s with heap := h', toks := tk' }) →
    wpAny (model PySem.Challenge.rw_og0143_01.row.prog w) (ktrTop dp un gd cn cs L a ccd cl outer) (call (.ref 239) [.str (glue bl ts n) t, .ref p]) Q E s := by
  w_top off
  k_fill
  rintro ⟨B, F, X, N, T, hk, hdp⟩ hp hc h7 ret
  walk_at "MY kind"
  obtain ⟨vs, c, hp1, hlen, hts⟩ := hp
  subst hlen
  walk_at "MY to range"
  rename Fr _ _ _ _ => lF9
  rename News _ _ _ _ => lN9
  have hX := (glue_len bl ts vs.length fun k hk => ⟨(hc k hk).1, (hc k hk).2.1⟩).2
  refine forRangeCut (y := Str.ofString "at") (us₀ := []) (fun i => marks bl i) (fun i => ((glue bl ts i).length : Int)) (by rfl) (by rfl) (by omega) lF9 lN9 .nil (fun p hp => Nat.ne_of_lt ((by assumption : ∀ p ∈ news, @LT.lt Nat _ p.1 _) p hp)) (by rfl) (fun i t ty us c h tk own hi o1 o2 hne hu F' N' => ?_) (fun u ty us c h tk hu F' N' => ?_)
  · clear lF9 lN9
    have hci := hc i hi
    obtain ⟨ti, hti⟩ := hts i hi
    have hxi : vs[(i : Int).toNat]? = some (.str (ts i) ti) := by simpa using hti
    have hul : us.length ≤ 7 := by
      have h1 := IntsAre.length hu
      have h2 := marks_len bl i
      omega
    by_cases hb : bl i = true
    · obtain ⟨h0, he, hs⟩ := hci.2.2 hb
      obtain ⟨tp, htp⟩ := hts (i - 1) (by omega)
      have hxp : vs[((i : Int) - 1).toNat]? = some (.str (ts (i - 1)) tp) := by
        have e : ((i : Int) - 1).toNat = i - 1 := by omega
        rw [e]; exact htp
      have hlp := hc (i - 1) (by omega)
      have f0 := cut_other hi hb hci.1 hs
      have f1 := cut_blank (ts := ts) hi hb
      have f2 := cut_yes (ts := ts) hi hb
      have f3 : (PySem.Txt.item (ts (i - 1)) (-1) == Str.ofString " ") = false := he
      have f4 : (PySem.Txt.item (ts i) 0 == Str.ofString " ") = false := hs
      k_steps
      all_goals first
        | (exfalso; omega)
        | exact cutEndPush (by assumption) (by assumption) o1 o2 hu (marks_yes hb).symm rfl (glen_yes hb).symm (by (intro z h1 h2; simp only [if_neg h1, if_neg h2]))
    · have hb : bl i = false := by simpa using hb
      have f0 := cut_no (ts := ts) hi hb
      k_steps
      all_goals exact cutEnd (by assumption) (by assumption) o1 o2 hu (marks_no hb).symm rfl (glen_no hb).symm (by (intro z h1 h2; simp only [if_neg h1, if_neg h2]))
  · clear lF9 lN9
    k_steps
    all_goals first
      | exact ret _ _ _ _ _ (by assumption) (by assumption) (allLt_of (by assumption)) hu
      | exact absurd rfl (by assumption)
end
end Mine
end
section
namespace Mine

theorem updMine {d : Addr} {o o' : Obj} : ∀ {l : List (Addr × Obj)} {g : Obj → List (Addr × Obj)}, UpdF d o l g → Upd d o o' l (g o')
  | _, _, .head h => .head h
  | _, _, .tail h r => .tail h (updMine r)

local macro_rules | `(tactic| k_upd) => `(tactic| exact updMine (by assumption))
local macro_rules | `(tactic| k_mem) => `(tactic| with_reducible assumption)
local macro_rules | `(tactic| k_mem) => `(tactic| ((rename (∀ _ : Obj, _ ∈ _) => hc9); exact hc9 _))
local macro_rules | `(tactic| walk_at "binaryOp Mult int int") => `(tactic| (k_here; refine PyProof.Rows.mul_int ?_ (IntMulOk.of_right (PySem.intBits_le_64 (by omega) (by omega)))))
section
variable {w : World} {mean : ExcName → Option Value} {mg mb : Str → Option Value} {dp un : Nat} {gd : Option (List Code)} {cn : Str} {cs : Scope} {a : Addr} {ccd : Value} {cl : List (Str × Addr)} {outer : List Env} {A₀ : Around} {base h₀ : Heap} {L : Addr} {m : Str → Option Value} {news : List (Addr × Obj)} {s : Shared} {Q E : Value → Shared → Prop}
theorem lawDraw {tp ce : Addr} {ws : List Value} {c cc : Nat} {ns : List Int} {at0 lim : Int} {ta t : Tok} {g : Obj → List (Addr × Obj)} :
    Cx w A₀ base h₀ outer L s m news mean mg mb cs dp 10 →
    UpdF tp (W.listOf #[.ref ce, .int at0 ta] c) news g → (tp, W.listOf #[.ref ce, .int at0 ta] c) ∈ news → (ce, W.listOf ws.toArray cc) ∈ news → (∀ o', (ce, W.listOf ws.toArray cc) ∈ g o') → IntsAre ws ns → 0 < ns.length → ns.length ≤ 63 → 0 ≤ at0 → at0 ≤ 100 → 0 < lim →
    (∀ r t ta' c' h' tk', 0 ≤ r → r < lim → Fr h₀ L h' m → News h₀ L h' (g (W.listOf #[.ref ce, .int (at0 + 1) ta'] c')) → Q (.int r t) { s with heap := h', toks := tk' }) →
    wpAny (model PySem.Challenge.rw_og0143_01.row.prog w) (ktrTop dp un gd cn cs L a ccd cl outer) (call (.ref 231) [.ref tp, .int lim t]) Q E s := by
  w_top off
  k_fill
  rintro ⟨B, F, X, N, T, hk, hdp⟩ U hm hc1 hc2 hI hn0 hn1 ha0 ha1 hl ret
  walk_at "MY kind"
  have hwl : ws.length = ns.length := IntsAre.length hI
  have hw0 : (ws.length : Int) ≠ 0 := by omega
  have hl0 : lim ≠ 0 := by omega
  have hf0 : 0 ≤ Int.fmod at0 (ws.length : Int) := Int.fmod_nonneg_of_pos _ (by omega)
  have hf1 : Int.fmod at0 (ws.length : Int) < (ws.length : Int) := Int.fmod_lt_of_pos _ (by omega)
  have hf2 : (Int.fmod at0 (ws.length : Int)).toNat < ws.length := by omega
  obtain ⟨tv, hv⟩ := hI.get (Int.fmod at0 (ws.length : Int)).toNat (ns[(Int.fmod at0 (ws.length : Int)).toNat]'(by omega)) (List.getElem?_eq_getElem _)
  generalize ns[(Int.fmod at0 (ws.length : Int)).toNat]'(by omega) = v at hv
  have hx0 : [Value.ref ce, Value.int at0 ta][(0 : Int).toNat]? = some (.ref ce) := rfl
  have hx1 : [Value.ref ce, Value.int at0 ta][(1 : Int).toNat]? = some (.int at0 ta) := rfl
  k_steps
  exact ret _ _ _ _ _ _ (Int.fmod_nonneg_of_pos _ hl) (Int.fmod_lt_of_pos _ hl) (by assumption) (by assumption)
end
end Mine
end
end
namespace Mine
/-- what the building loop holds of its glyphs and of x -/
def GsOk (gs : List GD) (xv : Int) : Prop :=
  (∀ k, k < gs.length → 1 ≤ (gAt gs k).t.length ∧ (gAt gs k).t.length ≤ 2 ∧ 5 ≤ (gAt gs k).s) ∧
  (∀ k, k + 1 < gs.length → (gAt gs (k + 1)).x - (gAt gs k).x - (gAt gs k).w ≤ 40) ∧
  (0 < gs.length → xv - (gAt gs (gs.length - 1)).x - (gAt gs (gs.length - 1)).w ≤ 40)
theorem gAt_old {gs : List GD} {g : GD} {k : Nat} (h : k < gs.length) : gAt (gs ++ [g]) k = gAt gs k := by
  unfold gAt
  rw [List.getD_eq_getElem?_getD, List.getD_eq_getElem?_getD, List.getElem?_append_left h]
theorem gAt_new {gs : List GD} {g : GD} : gAt (gs ++ [g]) gs.length = g := by
  unfold gAt
  rw [List.getD_eq_getElem?_getD, List.getElem?_append_right (Nat.le_refl _)]
  simp
theorem gsOk_nil (xv : Int) : GsOk [] xv := ⟨fun _ h => absurd h (Nat.not_lt_zero _), fun _ h => absurd h (Nat.not_lt_zero _), fun h => absurd h (Nat.not_lt_zero _)⟩
theorem gsOk_more {gs : List GD} {T : Str} {xv wd sz xv' : Int} (h : GsOk gs xv) (h1 : 1 ≤ T.length) (h2 : T.length ≤ 2) (h3 : 5 ≤ sz) (h4 : xv' - xv - wd ≤ 40) : GsOk (gs ++ [⟨T, xv, wd, sz⟩]) xv' := by
  obtain ⟨a, b, c⟩ := h
  have hl : (gs ++ [(⟨T, xv, wd, sz⟩ : GD)]).length = gs.length + 1 := by simp
  refine ⟨fun k hk => ?_, fun k hk => ?_, fun _ => ?_⟩
  · rw [hl] at hk
    rcases Nat.lt_succ_iff_lt_or_eq.mp hk with hk | rfl
    · rw [gAt_old hk]; exact a k hk
    · rw [gAt_new]; exact ⟨h1, h2, h3⟩
  · rw [hl] at hk
    rcases Nat.lt_succ_iff_lt_or_eq.mp hk with hk | hk
    · rw [gAt_old hk, gAt_old (by omega)]; exact b k hk
    · have e : k = gs.length - 1 := by omega
      rw [hk, gAt_new, gAt_old (by omega), e]
      exact c (by omega)
  · rw [hl, Nat.add_sub_cancel, gAt_new]; exact h4
theorem gsOk_good {gs : List GD} {xv : Int} (h : GsOk gs xv) : Good gs := fun k hk => by
  have := h.1 k hk
  exact ⟨this.1, this.2.1, by omega⟩
theorem cutOk_made {gs : List GD} {tn : Int} (h : Good gs) : CutOk (made gs tn) (fun k => (gAt gs k).t) gs.length := fun k hk => by
  refine ⟨(h k hk).1, (h k hk).2.1, fun hm => ?_⟩
  unfold made at hm
  simp only [Bool.and_eq_true, decide_eq_true_eq, Bool.not_eq_true'] at hm
  exact ⟨hm.1, hm.2.1, hm.2.2.1⟩
theorem apart_down {g1 g2 : GD} {t : Int} (h : 0 ≤ g1.s) (k : apart g1 g2 (t + 1) = true) : apart g1 g2 t = true := by
  unfold apart at k ⊢
  simp only [decide_eq_true_eq] at k ⊢
  rw [Int.mul_add, Int.mul_one] at k
  omega
theorem made_down {gs : List GD} {t : Int} {k : Nat} (h : Good gs) (hk : k < gs.length) (m : made gs (t + 1) k = true) : made gs t k = true := by
  unfold made at m ⊢
  simp only [Bool.and_eq_true, decide_eq_true_eq] at m ⊢
  exact ⟨m.1, m.2.1, m.2.2.1, apart_down (h (k - 1) (by omega)).2.2 m.2.2.2⟩
theorem marks_down {gs : List GD} {t : Int} (h : Good gs) {x : Int} (hx : x ∈ marks (made gs (t + 1)) gs.length) : x ∈ marks (made gs t) gs.length := by
  obtain ⟨k, a, b, c⟩ := mem_marks.mp hx
  exact mem_marks.mpr ⟨k, a, made_down h a b, c⟩
theorem made_far {gs : List GD} {xv : Int} (h : GsOk gs xv) {k : Nat} (hk : k < gs.length) : made gs 1000 k = false := by
  by_cases h0 : 0 < k
  · refine made_no3 ?_
    have h1 := (h.1 (k - 1) (by omega)).2.2
    have h2 := h.2.1 (k - 1) (by omega)
    rw [show k - 1 + 1 = k by omega] at h2
    unfold apart
    rw [decide_eq_false_iff_not]
    omega
  · unfold made
    rw [decide_eq_false h0]; rfl
theorem glue_eq {bl bl' : Nat → Bool} {ts : Nat → Str} : ∀ {n : Nat}, (∀ k, k < n → bl k = bl' k) → glue bl ts n = glue bl' ts n
  | 0, _ => rfl
  | n + 1, h => by
    show (if bl n then glue bl ts n ++ spc else glue bl ts n) ++ ts n = (if bl' n then glue bl' ts n ++ spc else glue bl' ts n) ++ ts n
    rw [glue_eq fun k hk => h k (Nat.lt_succ_of_lt hk), h n (Nat.lt_succ_self n)]
theorem empty_append (a : Str) : Str.ofString "" ++ a = a := str_ext (by
  rw [toList_append]
  have : (Str.ofString "").cps.toList = [] := by decide +kernel
  rw [this]; rfl)
theorem append_empty (a : Str) : a ++ Str.ofString "" = a := str_ext (by
  rw [toList_append]
  have : (Str.ofString "").cps.toList = [] := by decide +kernel
  rw [this, List.append_nil])
theorem join_app (ts : List Str) (t : Str) : Str.join (Str.ofString "") (ts ++ [t]) = Str.join (Str.ofString "") ts ++ t := by
  induction ts with
  | nil => exact (empty_append t).symm
  | cons a r ih =>
    cases r with
    | nil =>
      show a ++ Str.ofString "" ++ t = a ++ t
      rw [append_empty]
    | cons b r =>
      show a ++ Str.ofString "" ++ Str.join (Str.ofString "") (b :: r ++ [t]) = a ++ Str.ofString "" ++ Str.join (Str.ofString "") (b :: r) ++ t
      rw [ih, str_assoc (a ++ Str.ofString "")]
theorem glue_join (ts : Nat → Str) : ∀ n, glue (fun _ => false) ts n = PySem.Txt.join (Str.ofString "") ((List.range n).map ts)
  | 0 => rfl
  | n + 1 => by
    have ih := glue_join ts n
    unfold PySem.Txt.join at ih ⊢
    rw [StrLaws.glued_eq_join] at ih ⊢
    rw [List.range_succ, List.map_append, List.map_cons, List.map_nil, join_app, ← ih]
    rfl
theorem far_text {gs : List GD} {xv : Int} (h : GsOk gs xv) : glue (made gs 1000) (fun k => (gAt gs k).t) gs.length = PySem.Txt.join (Str.ofString "") ((List.range gs.length).map fun k => (gAt gs k).t) := by
  rw [← glue_join]
  exact glue_eq fun k hk => made_far h hk
end Mine
namespace Mine
theorem strsAre_from {vs : List Value} : ∀ {ts : Nat → Str} {n : Nat}, vs.length = n → (∀ k, k < n → ∃ t, vs[k]? = some (.str (ts k) t)) → StrsAre vs ((List.range n).map ts) := by
  induction vs with
  | nil => intro ts n h _; subst h; exact .nil
  | cons v r ih =>
    intro ts n h hk
    subst h
    obtain ⟨t, e⟩ := hk 0 (Nat.succ_pos _)
    have e' : v = .str (ts 0) t := Option.some.inj e
    subst e'
    have := ih (ts := fun k => ts (k + 1)) rfl fun k hk' => hk (k + 1) (Nat.succ_lt_succ hk')
    rw [List.length_cons, List.range_succ_eq_map, List.map_cons, List.map_map]
    exact .cons _ _ this
theorem sum_le_two {ts : Nat → Str} : ∀ {n : Nat}, (∀ k, k < n → (ts k).length ≤ 2) → (((List.range n).map ts).map (·.length)).sum ≤ 2 * n
  | 0, _ => Nat.le_refl _
  | n + 1, h => by
    have ih := sum_le_two (n := n) fun k hk => h k (Nat.lt_succ_of_lt hk)
    have := h n (Nat.lt_succ_self n)
    rw [List.range_succ]
    simp only [List.map_append, List.map_cons, List.map_nil, List.sum_append, List.sum_cons, List.sum_nil]
    omega
theorem RowIn.mono {P : Params} {news news' : List (Addr × Obj)} {r : Addr} {gs : List GD} (h : RowIn P news r gs) (s : ∀ p ∈ news, p ∈ news') : RowIn P news' r gs := by
  obtain ⟨as, c, h1, h2, h3⟩ := h
  exact ⟨as, c, s _ h1, h2, fun k hk => (h3 k hk).mono s⟩
theorem PartsIn.mono {news news' : List (Addr × Obj)} {p : Addr} {ts : Nat → Str} {n : Nat} (h : PartsIn news p ts n) (s : ∀ p ∈ news, p ∈ news') : PartsIn news' p ts n := by
  obtain ⟨vs, c, h1, h2, h3⟩ := h
  exact ⟨vs, c, s _ h1, h2, h3⟩
end Mine
namespace Mine
section
variable {prog : Program} {w : World} {A : Around} {h₀ : Heap} {L : Addr} {m : Str → Option Value} {env : Env} {ct elt : PySem.Expr} {x : Str} {scope : Scope} {cl : List (Str × Addr)} {s : Shared} {S : List (Addr × Obj) → Prop} {P : Nat → Value → Prop} {Fin : List Value → List (Addr × Obj) → Prop} {news : List (Addr × Obj)}
def NoEnd (h₀ : Heap) (L : Addr) (m : Str → Option Value) (s : Shared) (all : List (Addr × Obj)) (b : Bool) (s' : Shared) : Prop :=
  b = false ∧ ∃ h' tk', s' = { s with heap := h', toks := tk' } ∧ Fr h₀ L h' m ∧ News h₀ L h' all
theorem noEnd {all : List (Addr × Obj)} {h' : Heap} {tk' : Nat} (F : Fr h₀ L h' m) (N : News h₀ L h' all) : NoEnd h₀ L m s all false { s with heap := h', toks := tk' } := ⟨rfl, h', tk', rfl, F, N⟩
/-- a filter that takes nothing -/
theorem restNone {n : Nat} (hS : S news)
    (turn : ∀ i v I oI C oC D m₂ h tk (E' : Value → Shared → Prop), i < n → P i v → LCg.NsObj oC m₂ → m₂ x = some v → Fr h₀ L h m → News h₀ L h ((I, oI) :: (C, oC) :: (D, LCg.lst []) :: news) → LCg.Off3 I C D news → ((@Ne Nat I C) ∧ (@Ne Nat I D) ∧ (@Ne Nat C D)) →
      wpAny (model prog w) A (isTrue ct (compEnvC scope cl C env) (eval ct (compEnvC scope cl C env))) (NoEnd h₀ L m { s with heap := h, toks := tk } ((I, oI) :: (C, oC) :: (D, LCg.lst []) :: news)) E' { s with heap := h, toks := tk })
    (fin : Fin [] news) : LCt.CompRestT prog w A h₀ L m env ct elt x scope cl s S P Fin n 0 [] news := by
  have key : ∀ (j i : Nat), i + j = n → LCt.CompRestT prog w A h₀ L m env ct elt x scope cl s S P Fin j i [] news := by
    intro j
    induction j with
    | zero => intro i _; exact LCt.CompRestT.zero fin
    | succ j ih =>
      intro i hi
      refine LCt.CompRestT.succ ?_
      intro v I oI C oC D m₂ h tk E' hv hC hx F N off ne
      refine wpAny_mono (turn i v I oI C oC D m₂ h tk E' (by omega) hv hC hx F N off ne) (fun b s₂ hq => ?_) fun _ _ e => e
      obtain ⟨rfl, h', tk', e, F', N'⟩ := hq
      simp only [Bool.false_eq_true, if_false]
      exact ⟨h', tk', news, e, F', N', off, hS, ih (i + 1) (by omega)⟩
  exact key n 0 (Nat.zero_add n)
end
section
variable {prog : Program} {w : World} {A : Around} {E : Value → Shared → Prop} {s : Shared} {h₀ : Heap} {L : Addr} {news : List (Addr × Obj)} {Q : Value → Shared → Prop}
/-- an int that a made list of ints holds is not 'not in' it -/
theorem notinNo {b : Addr} {us : List Value} {c : Nat} {ns : List Int} {k : Int} {t : Tok} (N : News h₀ L s.heap news) (hm : (b, W.listOf us.toArray c) ∈ news) (hi : IntsAre us ns) (hk : k ∈ ns) (h : Q (.bool false) s) :
    wpAny (model prog w) A (compareOp .NotIn (.int k t) (.ref b)) Q E s := by
  refine notin_list_ints (News.isList N hm) hi ?_
  have : ns.any (· == k) = true := List.any_eq_true.mpr ⟨k, hk, by simp⟩
  rw [this]; exact h
theorem isNone_ref {a : Addr} (h : Q (.bool false) s) : wpAny (model prog w) A (compareOp .Is (.ref a) .none) Q E s := by
  exact wpAny_pure h
end
end Mine
namespace Mine
def CellsPost (h₀ : Heap) (L : Addr) (m : Str → Option Value) (news : List (Addr × Obj)) (s : Shared) (v : Value) (s' : Shared) : Prop :=
  ∃ D ws cc ns h' tk, v = .ref D ∧ s' = { s with heap := h', toks := tk } ∧ Fr h₀ L h' m ∧ News h₀ L h' ((D, W.listOf (List.toArray ws) cc) :: news) ∧ AllLt D news ∧ IntsAre ws ns ∧ 0 < ns.length ∧ ns.length ≤ 63
theorem cellsCut {M : Model} {A : Around} {t : Sem Value} {Q E : Value → Shared → Prop} {s : Shared} {h₀ : Heap} {L : Addr} {m : Str → Option Value} {news : List (Addr × Obj)} (FF : Fr h₀ L s.heap m) (NN : News h₀ L s.heap news)
    (h : wpAny M A t (CellsPost h₀ L m news s) E s)
    (k : ∀ D ws cc ns h' tk, Fr h₀ L h' m → News h₀ L h' ((D, W.listOf (List.toArray ws) cc) :: news) → AllLt D news → IntsAre ws ns → 0 < ns.length → ns.length ≤ 63 → Q (.ref D) { s with heap := h', toks := tk }) : wpAny M A t Q E s :=
  wpAny_mono h (fun _ _ q => by
    obtain ⟨D, ws, cc, ns, h', tk, rfl, rfl, F', N', l, i, a, b⟩ := q
    exact k D ws cc ns h' tk F' N' l i a b) fun _ _ x => x
theorem cellsEnd {h₀ h' : Heap} {L D : Addr} {m : Str → Option Value} {news all : List (Addr × Obj)} {s : Shared} {ws : List Value} {cc : Nat} {ns : List Int} {tk : Nat} (F : Fr h₀ L h' m) (N : News h₀ L h' all) (sub : ∀ p ∈ (D, W.listOf (List.toArray ws) cc) :: news, p ∈ all) (l : AllLt D news) (i : IntsAre ws ns) (a : 0 < ns.length) (b : ns.length ≤ 63) :
    CellsPost h₀ L m news s (.ref D) { s with heap := h', toks := tk } := ⟨D, ws, cc, ns, h', tk, rfl, rfl, F, fun p hp => N p (sub p hp), l, i, a, b⟩
end Mine
namespace Mine
theorem cellsEnd1 {h₀ h' : Heap} {L D D1 el : Addr} {m : Str → Option Value} {w : Obj} {s : Shared} {ws : List Value} {c c1 : Nat} {ns : List Int} {tk : Nat} (F : Fr h₀ L h' m) (N : News h₀ L h' [(D, W.listOf (List.toArray ws) c), (D1, W.listOf (List.toArray ws) c1), (el, w)]) (l : @LT.lt Nat _ D1 D ∧ @LT.lt Nat _ el D) (i : IntsAre ws ns) (a : 0 < ns.length) (b : ns.length ≤ 63) :
    CellsPost h₀ L m [(el, w)] s (.ref D) { s with heap := h', toks := tk } :=
  cellsEnd F N (fun p hp => (List.mem_cons.mp hp).elim (fun e => e ▸ .head _) fun hp => .tail _ (.tail _ hp)) ⟨l.2, trivial⟩ i a b
theorem cellsEnd2 {h₀ h' : Heap} {L D el : Addr} {m : Str → Option Value} {w : Obj} {s : Shared} {c : Nat} {x y : Addr × Obj} {t : Tok} {tk : Nat} (F : Fr h₀ L h' m) (N : News h₀ L h' [(D, W.listOf #[.int 0 t] c), x, y, (el, w)]) (l : @LT.lt Nat _ x.1 D ∧ @LT.lt Nat _ y.1 D ∧ @LT.lt Nat _ el D) :
    CellsPost h₀ L m [(el, w)] s (.ref D) { s with heap := h', toks := tk } :=
  cellsEnd (ws := [.int 0 t]) (cc := c) (ns := [0]) F N (fun p hp => (List.mem_cons.mp hp).elim (fun e => e ▸ .head _) fun hp => .tail _ (.tail _ (.tail _ hp))) ⟨l.2.2, trivial⟩ (.cons 0 t .nil) (by decide) (by decide)
end Mine
namespace Mine
abbrev tapeObj (ce : Addr) (v : Int) (ta : Tok) (tc : Nat) : Obj := W.listOf #[.ref ce, .int v ta] tc
abbrev glyObj (P : Params) (T : Str) (ax ay aw as : Addr) (k1 k2 k3 k4 k5 k6 : Tok) : Obj :=
  dictOf [⟨PyData.keyHash P "text", .str "text" k1, .str T k2⟩, ⟨PyData.keyHash P "x", .str "x" k3, .ref ax⟩, ⟨PyData.keyHash P "y", .str "y" k4, .ref ay⟩,
      ⟨PyData.keyHash P "width", .str "width" k5, .ref aw⟩, ⟨PyData.keyHash P "size", .str "size" k6, .ref as⟩] 5
/-- the ledger of the building loop after i turns -/
def Kb (P : Params) (pa ro tp ce el : Addr) (ws : List Value) (cc : Nat) (w0 : Obj) (i : Nat) (xv : Int) (nx : List (Addr × Obj)) : Prop :=
  ∃ (pv : List Value) (pc : Nat) (as : List Addr) (rc : Nat) (ta : Tok) (tc : Nat) (gl : List (Addr × Obj)) (gs : List GD),
    nx = (pa, W.listOf pv.toArray pc) :: (ro, W.listOf (as.map Value.ref).toArray rc) :: (tp, tapeObj ce (1 + 4 * (i : Int)) ta tc) :: (ce, W.listOf ws.toArray cc) :: (el, w0) :: gl ∧
    gs.length = i ∧ as.length = i ∧ pv.length = i ∧ (∀ k, k < i → ∃ t, pv[k]? = some (.str (gAt gs k).t t)) ∧ (∀ k, k < i → GlIn P gl (as.getD k 0) (gAt gs k)) ∧ GsOk gs xv ∧
    (∀ p ∈ gl, p.1 ≠ pa ∧ p.1 ≠ ro ∧ p.1 ≠ tp ∧ p.1 ≠ el)
section
variable {prog : Program} {w : World} {A : Around} {E : Value → Shared → Prop} {s : Shared} {env : Env} {h₀ : Heap} {x : Str} {body : List Stmt} {Q : Flow → Shared → Prop}
theorem forBuild (P : Params) (y : Str) (stored : List Str) {b : Int} {t ty : Tok} {n : Nat} {m₀ : Str → Option Value} {pa ro tp ce el : Addr} {ws : List Value} {cc : Nat} {w0 : Obj} {ta : Tok} {tc pc rc : Nat}
    (hh : A.handled = none) (hb : b = (n : Int)) (hn : n < 1000000) (F : Fr h₀ env.locals s.heap m₀)
    (N : News h₀ env.locals s.heap [(pa, W.listOf #[] pc), (ro, W.listOf #[] rc), (tp, tapeObj ce (0 + 1) ta tc), (ce, W.listOf ws.toArray cc), (el, w0)]) (hy : m₀ y = some (.int 0 ty))
    (turn : ∀ i t xv ty (u : Str → Option Value) (pv : List Value) (pc : Nat) (as : List Addr) (rc : Nat) (ta : Tok) (tc : Nat) (gl : List (Addr × Obj)) (gs : List GD) h tk own, i < n → (∀ p ∈ own, p.1 ≠ pa ∧ p.1 ≠ ro ∧ p.1 ≠ tp ∧ p.1 ≠ ce ∧ p.1 ≠ el) → TbOff own gl →
      gs.length = i → as.length = i → pv.length = i → (∀ k, k < i → ∃ t, pv[k]? = some (.str (gAt gs k).t t)) → (∀ k, k < i → GlIn P gl (as.getD k 0) (gAt gs k)) → GsOk gs xv → (∀ p ∈ gl, p.1 ≠ pa ∧ p.1 ≠ ro ∧ p.1 ≠ tp ∧ p.1 ≠ el) →
      (∀ p ∈ gl ++ own, p.1 ≠ pa) → (∀ p ∈ gl ++ own, p.1 ≠ ro) → (∀ p ∈ gl ++ own, p.1 ≠ tp) →
      Fr h₀ env.locals h (fun z => if z = x then some (.int (i : Int) t) else if z = y then some (.int xv ty) else if stored.contains z then u z else m₀ z) →
      News h₀ env.locals h ((pa, W.listOf pv.toArray pc) :: (ro, W.listOf (as.map Value.ref).toArray rc) :: (tp, tapeObj ce (1 + 4 * (i : Int)) ta tc) :: (ce, W.listOf ws.toArray cc) :: (el, w0) :: (gl ++ own)) →
      wpAny (model prog w) A (execs body env) (TbPost h₀ env.locals (JOne x y stored m₀ (Kb P pa ro tp ce el ws cc w0 (i + 1))) own { s with heap := h, toks := tk } Q) E { s with heap := h, toks := tk })
    (done : ∀ (u0 : Option Value) (u : Str → Option Value) xv ty nx h tk, Kb P pa ro tp ce el ws cc w0 n xv nx → Fr h₀ env.locals h (fun z => if z = x then u0 else if z = y then some (.int xv ty) else if stored.contains z then u z else m₀ z) → News h₀ env.locals h nx → Q .next { s with heap := h, toks := tk }) :
    wpAny (model prog w) A (call (.type "range") [.int b t]) (fun xv s₁ => wpAny (model prog w) A (pyIter xv) (fun it s₂ => LoopAtV prog w A h₀ env x body Q E it s₂) E s₁) E s := by
  refine forRangeOne y stored (Kb P pa ro tp ce el ws cc w0) hh hb hn F N hy ⟨[], pc, [], rc, ta, tc, [], [], rfl, rfl, rfl, rfl, fun _ h => absurd h (Nat.not_lt_zero _), fun _ h => absurd h (Nat.not_lt_zero _), gsOk_nil _, fun _ h => nomatch h⟩ ?_ done
  rintro i t xv ty u nx h tk own hi hoff ⟨pv, pc, as, rc, ta, tc, gl, gs, rfl, e1, e2, e3, e4, e5, e6, e7⟩ F₁ N₁
  have o5 : ∀ p ∈ own, p.1 ≠ pa ∧ p.1 ≠ ro ∧ p.1 ≠ tp ∧ p.1 ≠ ce ∧ p.1 ≠ el := fun p hp =>
    ⟨hoff p hp _ (.head _), hoff p hp _ (.tail _ (.head _)), hoff p hp _ (.tail _ (.tail _ (.head _))), hoff p hp _ (.tail _ (.tail _ (.tail _ (.head _)))), hoff p hp _ (.tail _ (.tail _ (.tail _ (.tail _ (.head _)))))⟩
  refine turn i t xv ty u pv pc as rc ta tc gl gs h tk own hi o5 (fun p hp q hq => hoff p hp q (.tail _ (.tail _ (.tail _ (.tail _ (.tail _ hq)))))) e1 e2 e3 e4 e5 e6 e7 ?_ ?_ ?_ F₁ N₁
  · exact fun p hp => (List.mem_append.mp hp).elim (fun h => (e7 p h).1) fun h => (o5 p h).1
  · exact fun p hp => (List.mem_append.mp hp).elim (fun h => (e7 p h).2.1) fun h => (o5 p h).2.1
  · exact fun p hp => (List.mem_append.mp hp).elim (fun h => (e7 p h).2.2.1) fun h => (o5 p h).2.2.1
end
theorem allLt_mem {d : Addr} : ∀ {l : List (Addr × Obj)}, AllLt d l → ∀ p ∈ l, @LT.lt Nat _ p.1 d
  | [], _, _, hp => (nomatch hp)
  | q :: r, h, p, hp => by
    rcases List.mem_cons.mp hp with rfl | hp
    · exact h.1
    · exact allLt_mem h.2 p hp
theorem getD_old {as : List Addr} {a : Addr} {k : Nat} (h : k < as.length) : (as ++ [a]).getD k 0 = as.getD k 0 := by
  rw [List.getD_eq_getElem?_getD, List.getD_eq_getElem?_getD, List.getElem?_append_left h]
theorem getD_new {as : List Addr} {a : Addr} : (as ++ [a]).getD as.length 0 = a := by
  rw [List.getD_eq_getElem?_getD, List.getElem?_append_right (Nat.le_refl _)]
  simp
theorem be_sub {α : Type} {new gl own : List α} {a b c d e : α} : ∀ p ∈ a :: b :: c :: d :: e :: (new ++ gl), p ∈ new ++ (a :: b :: c :: d :: e :: (gl ++ own)) := by
  intro p hp
  simp only [List.mem_cons, List.mem_append] at hp ⊢
  rcases hp with h | h | h | h | h | h | h <;> simp [h]
theorem be_own {α : Type} {new gl own : List α} {a b c d e : α} : ∀ p ∈ own, p ∈ new ++ (a :: b :: c :: d :: e :: (gl ++ own)) := by
  intro p hp
  simp only [List.mem_cons, List.mem_append]
  simp [hp]
theorem be_off {new gl own : List (Addr × Obj)} {pa ro tp ce el d1 : Addr} {a b c d e : Obj} (o5 : ∀ p ∈ own, p.1 ≠ pa ∧ p.1 ≠ ro ∧ p.1 ≠ tp ∧ p.1 ≠ ce ∧ p.1 ≠ el) (o6 : TbOff own gl) (hlt : ∀ p ∈ own, @LT.lt Nat _ p.1 d1) (hnew : ∀ p ∈ new, @LE.le Nat _ d1 p.1) :
    TbOff own ((pa, a) :: (ro, b) :: (tp, c) :: (ce, d) :: (el, e) :: (new ++ gl)) := by
  intro p hp q hq
  have hp5 := o5 p hp
  simp only [List.mem_cons, List.mem_append] at hq
  rcases hq with h | h | h | h | h | h | h
  · rw [h]; exact hp5.1
  · rw [h]; exact hp5.2.1
  · rw [h]; exact hp5.2.2.1
  · rw [h]; exact hp5.2.2.2.1
  · rw [h]; exact hp5.2.2.2.2
  · exact Nat.ne_of_lt (Nat.lt_of_lt_of_le (hlt p hp) (hnew q h))
  · exact o6 p hp q h
theorem be_new {gx gd x1 d1 x2 d2 x3 d3 x4 d4 : Addr} {o1 o2 o3 o4 o5 o6 o7 o8 o9 o10 : Obj} (ch : @LT.lt Nat _ d1 x1 ∧ @LT.lt Nat _ x1 d2 ∧ @LT.lt Nat _ d2 x2 ∧ @LT.lt Nat _ x2 d3 ∧ @LT.lt Nat _ d3 x3 ∧ @LT.lt Nat _ x3 d4 ∧ @LT.lt Nat _ d4 x4 ∧ @LT.lt Nat _ x4 gd ∧ @LT.lt Nat _ gd gx) :
    ∀ p ∈ [(gx, o1), (gd, o2), (x4, o3), (d4, o4), (x3, o5), (d3, o6), (x2, o7), (d2, o8), (x1, o9), (d1, o10)], @LE.le Nat _ d1 p.1 := by
  obtain ⟨c1, c2, c3, c4, c5, c6, c7, c8, c9⟩ := ch
  have e1 := Nat.le_of_lt c1
  have e2 := Nat.le_trans e1 (Nat.le_of_lt c2)
  have e3 := Nat.le_trans e2 (Nat.le_of_lt c3)
  have e4 := Nat.le_trans e3 (Nat.le_of_lt c4)
  have e5 := Nat.le_trans e4 (Nat.le_of_lt c5)
  have e6 := Nat.le_trans e5 (Nat.le_of_lt c6)
  have e7 := Nat.le_trans e6 (Nat.le_of_lt c7)
  have e8 := Nat.le_trans e7 (Nat.le_of_lt c8)
  have e9 := Nat.le_trans e8 (Nat.le_of_lt c9)
  exact List.forall_mem_cons.mpr ⟨e9, List.forall_mem_cons.mpr ⟨e8, List.forall_mem_cons.mpr ⟨e7, List.forall_mem_cons.mpr ⟨e6, List.forall_mem_cons.mpr ⟨e5, List.forall_mem_cons.mpr ⟨e4, List.forall_mem_cons.mpr ⟨e3, List.forall_mem_cons.mpr ⟨e2, List.forall_mem_cons.mpr ⟨e1, List.forall_mem_cons.mpr ⟨Nat.le_refl _, List.forall_mem_nil _⟩⟩⟩⟩⟩⟩⟩⟩⟩⟩
theorem buildEnd {P : Params} {h₀ : Heap} {L : Addr} {x y : Str} {stored : List Str} {m₀ m' : Str → Option Value} {own gl : List (Addr × Obj)} {s₁ : Shared} {h' : Heap} {tk : Nat} {ty : Tok}
    {pa ro tp ce el : Addr} {ws : List Value} {cc : Nat} {w0 : Obj} {i : Nat} {xv wd sz xv' v : Int} {T : Str} {tt : Tok} {pv : List Value} {as : List Addr} {gs : List GD} {pc rc tc : Nat} {ta : Tok}
    {gx gd x1 d1 x2 d2 x3 d3 x4 d4 : Addr} {k1 k2 k3 k4 k5 k6 a1 a2 a3 a4 b1 b2 b3 b4 c1 c2 c3 c4 e1 e2 e3 e4 : Tok} {yv : Int}
    (F : Fr h₀ L h' m')
    (N : News h₀ L h' ((gx, instObj 206 gd) :: (gd, glyObj P T x1 x2 x3 x4 k1 k2 k3 k4 k5 k6) :: (x4, instObj 143 d4) :: (d4, decObj P sz a1 a2 a3 a4) :: (x3, instObj 143 d3) :: (d3, decObj P wd b1 b2 b3 b4) :: (x2, instObj 143 d2) :: (d2, decObj P yv c1 c2 c3 c4) :: (x1, instObj 143 d1) :: (d1, decObj P xv e1 e2 e3 e4) ::
      (pa, W.listOf (pv.toArray.push (.str T tt)) pc) :: (ro, W.listOf ((as.map Value.ref).toArray.push (.ref gx)) rc) :: (tp, tapeObj ce v ta tc) :: (ce, W.listOf ws.toArray cc) :: (el, w0) :: (gl ++ own)))
    (o5 : ∀ p ∈ own, p.1 ≠ pa ∧ p.1 ≠ ro ∧ p.1 ≠ tp ∧ p.1 ≠ ce ∧ p.1 ≠ el) (o6 : TbOff own gl)
    (g1 : gs.length = i) (g2 : as.length = i) (g3 : pv.length = i) (g4 : ∀ k, k < i → ∃ t, pv[k]? = some (.str (gAt gs k).t t)) (g5 : ∀ k, k < i → GlIn P gl (as.getD k 0) (gAt gs k)) (g6 : GsOk gs xv) (g7 : ∀ p ∈ gl, p.1 ≠ pa ∧ p.1 ≠ ro ∧ p.1 ≠ tp ∧ p.1 ≠ el)
    (hlt : AllLt d1 (gl ++ own)) (q1 : @LT.lt Nat _ pa d1) (q2 : @LT.lt Nat _ ro d1) (q3 : @LT.lt Nat _ tp d1) (q4 : @LT.lt Nat _ el d1)
    (ch : @LT.lt Nat _ d1 x1 ∧ @LT.lt Nat _ x1 d2 ∧ @LT.lt Nat _ d2 x2 ∧ @LT.lt Nat _ x2 d3 ∧ @LT.lt Nat _ d3 x3 ∧ @LT.lt Nat _ x3 d4 ∧ @LT.lt Nat _ d4 x4 ∧ @LT.lt Nat _ x4 gd ∧ @LT.lt Nat _ gd gx)
    (hT1 : 1 ≤ T.length) (hT2 : T.length ≤ 2) (hsz : 5 ≤ sz) (hgap : xv' - xv - wd ≤ 40) (hv : v = 1 + 4 * ((i + 1 : Nat) : Int)) (hy : m' y = some (.int xv' ty)) (hm : ∀ z, z ≠ x → z ≠ y → stored.contains z = false → m' z = m₀ z) :
    TbEnd h₀ L (JOne x y stored m₀ (Kb P pa ro tp ce el ws cc w0 (i + 1))) own s₁ { s₁ with heap := h', toks := tk } := by
  subst hv
  rw [List.push_toArray, List.push_toArray] at N
  have eas : as.map Value.ref ++ [Value.ref gx] = (as ++ [gx]).map Value.ref := by simp
  rw [eas] at N
  have hnew : ∀ p ∈ [(gx, instObj 206 gd), (gd, glyObj P T x1 x2 x3 x4 k1 k2 k3 k4 k5 k6), (x4, instObj 143 d4), (d4, decObj P sz a1 a2 a3 a4), (x3, instObj 143 d3), (d3, decObj P wd b1 b2 b3 b4), (x2, instObj 143 d2), (d2, decObj P yv c1 c2 c3 c4), (x1, instObj 143 d1), (d1, decObj P xv e1 e2 e3 e4)], @LE.le Nat _ d1 p.1 := be_new ch
  generalize hnw : [(gx, instObj 206 gd), (gd, glyObj P T x1 x2 x3 x4 k1 k2 k3 k4 k5 k6), (x4, instObj 143 d4), (d4, decObj P sz a1 a2 a3 a4), (x3, instObj 143 d3), (d3, decObj P wd b1 b2 b3 b4), (x2, instObj 143 d2), (d2, decObj P yv c1 c2 c3 c4), (x1, instObj 143 d1), (d1, decObj P xv e1 e2 e3 e4)] = new at hnew
  have N' : News h₀ L h' (new ++ ((pa, W.listOf (pv ++ [Value.str T tt]).toArray pc) :: (ro, W.listOf ((as ++ [gx]).map Value.ref).toArray rc) :: (tp, tapeObj ce (1 + 4 * ((i + 1 : Nat) : Int)) ta tc) :: (ce, W.listOf ws.toArray cc) :: (el, w0) :: (gl ++ own))) := by
    rw [← hnw]; exact N
  have mnew : ∀ p ∈ new, p ∈ new ++ gl := fun p hp => List.mem_append_left _ hp
  refine oneEnd F N' (nx := (pa, W.listOf (pv ++ [Value.str T tt]).toArray pc) :: (ro, W.listOf ((as ++ [gx]).map Value.ref).toArray rc) :: (tp, tapeObj ce (1 + 4 * ((i + 1 : Nat) : Int)) ta tc) :: (ce, W.listOf ws.toArray cc) :: (el, w0) :: (new ++ gl)) ?_ ?_ ?_
    ⟨pv ++ [Value.str T tt], pc, as ++ [gx], rc, ta, tc, new ++ gl, gs ++ [⟨T, xv, wd, sz⟩], rfl, by simp [g1], by simp [g2], by simp [g3], ?_, ?_, gsOk_more g6 hT1 hT2 hsz hgap, ?_⟩ hy hm
  · exact be_sub
  · exact be_own
  · exact be_off o5 o6 (fun p hp => allLt_mem hlt p (List.mem_append_right _ hp)) hnew
  · intro k hk
    rcases Nat.lt_succ_iff_lt_or_eq.mp hk with hk | rfl
    · obtain ⟨t, e⟩ := g4 k hk
      refine ⟨t, ?_⟩
      rw [gAt_old (by omega), List.getElem?_append_left (by omega), e]
    · refine ⟨tt, ?_⟩
      rw [show k = gs.length from g1.symm, gAt_new, List.getElem?_append_right (by omega)]
      simp [g1, g3]
  · intro k hk
    rcases Nat.lt_succ_iff_lt_or_eq.mp hk with hk | rfl
    · rw [gAt_old (by omega), getD_old (by omega)]
      exact (g5 k hk).mono fun p hp => List.mem_append_right _ hp
    · have h1 : (as ++ [gx]).getD k 0 = gx := by rw [← g2]; exact getD_new
      have h2 : gAt (gs ++ [(⟨T, xv, wd, sz⟩ : GD)]) k = ⟨T, xv, wd, sz⟩ := by rw [← g1]; exact gAt_new
      rw [h1, h2]
      subst hnw
      refine ⟨gd, x1, x2, x3, x4, k1, k2, k3, k4, k5, k6, mnew _ (.head _), mnew _ (.tail _ (.head _)), ⟨d1, e1, e2, e3, e4, mnew _ (.tail _ (.tail _ (.tail _ (.tail _ (.tail _ (.tail _ (.tail _ (.tail _ (.head _))))))))), mnew _ (.tail _ (.tail _ (.tail _ (.tail _ (.tail _ (.tail _ (.tail _ (.tail _ (.tail _ (.head _))))))))))⟩,
        ⟨d3, b1, b2, b3, b4, mnew _ (.tail _ (.tail _ (.tail _ (.tail _ (.head _))))), mnew _ (.tail _ (.tail _ (.tail _ (.tail _ (.tail _ (.head _))))))⟩, ⟨d4, a1, a2, a3, a4, mnew _ (.tail _ (.tail _ (.head _))), mnew _ (.tail _ (.tail _ (.tail _ (.head _))))⟩⟩
  · intro p hp
    rcases List.mem_append.mp hp with hp | hp
    · have h2 := hnew p hp
      refine ⟨?_, ?_, ?_, ?_⟩ <;> intro e <;> rw [e] at h2 <;> exact absurd h2 (Nat.not_le.mpr (by assumption))
    · exact g7 p hp
end Mine
namespace Mine
theorem notStored3 {z a b c : Str} (h : [a, b, c].contains z = false) : z ≠ a ∧ z ≠ b ∧ z ≠ c := by
  simp only [List.contains_cons, List.contains_nil, Bool.or_false, Bool.or_eq_false_iff, beq_eq_false_iff_ne, ne_eq] at h
  exact h
theorem notStored1 {z a : Str} (h : [a].contains z = false) : z ≠ a := by
  simp only [List.contains_cons, List.contains_nil, Bool.or_false, beq_eq_false_iff_ne, ne_eq] at h
  exact h
end Mine
namespace Mine
abbrev tsOf (gs : List GD) : Nat → Str := fun k => (gAt gs k).t
/-- the ledger of the loop over the shares after i turns -/
def Kt (P : Params) (pa ro el : Addr) (gs : List GD) (i : Nat) (xv : Int) (nx : List (Addr × Obj)) : Prop :=
  ∃ (o : Obj) (L2 : List (Addr × Obj)), nx = (el, o) :: L2 ∧ (∀ p ∈ L2, p.1 ≠ el) ∧ RowIn P L2 ro gs ∧ PartsIn L2 pa (tsOf gs) gs.length ∧
    ((i = 0 ∧ o.data = .cell (some .none)) ∨ (∃ j, i = j + 1 ∧ ∃ (b : Addr) (us : List Value) (c : Nat), (b, W.listOf us.toArray c) ∈ L2 ∧ o.data = .cell (some (.ref b)) ∧ IntsAre us (marks (made gs (j : Int)) gs.length)))
section
variable {prog : Program} {w : World} {A : Around} {E : Value → Shared → Prop} {s : Shared} {env : Env} {h₀ : Heap} {x : Str} {body : List Stmt} {Q : Flow → Shared → Prop}
theorem forTenths (P : Params) (y : Str) (stored : List Str) {b : Int} {t ty : Tok} {n : Nat} {m₀ : Str → Option Value} {pa ro el : Addr} {pv : List Value} {as : List Addr} {pc rc : Nat} {o₀ : Obj} {gs : List GD} {xv₀ : Int} {p3 p4 : Addr × Obj} {gl : List (Addr × Obj)}
    (hh : A.handled = none) (hb : b = (n : Int)) (hn : n < 1000000) (F : Fr h₀ env.locals s.heap m₀)
    (N : News h₀ env.locals s.heap ((pa, W.listOf pv.toArray pc) :: (ro, W.listOf (as.map Value.ref).toArray rc) :: p3 :: p4 :: (el, o₀) :: gl)) (hy : m₀ y = some (.int xv₀ ty))
    (hd : o₀.data = .cell (some .none)) (npa : pa ≠ el) (nro : ro ≠ el) (ngl : ∀ p ∈ gl, p.1 ≠ el)
    (g2 : as.length = gs.length) (g3 : pv.length = gs.length) (g4 : ∀ k, k < gs.length → ∃ t, pv[k]? = some (.str (gAt gs k).t t)) (g5 : ∀ k, k < gs.length → GlIn P gl (as.getD k 0) (gAt gs k))
    (turn : ∀ i t xv ty (u : Str → Option Value) (o : Obj) (L2 : List (Addr × Obj)) h tk own, i < n → TbOff own L2 → (∀ p ∈ own, p.1 ≠ el) → (∀ p ∈ L2, p.1 ≠ el) → (∀ p ∈ L2 ++ own, p.1 ≠ el) → RowIn P L2 ro gs → PartsIn L2 pa (tsOf gs) gs.length →
      RowIn P ((el, o) :: (L2 ++ own)) ro gs → PartsIn ((el, o) :: (L2 ++ own)) pa (tsOf gs) gs.length →
      ((i = 0 ∧ o.data = .cell (some .none)) ∨ (∃ j, i = j + 1 ∧ ∃ (b : Addr) (us : List Value) (c : Nat), (b, W.listOf us.toArray c) ∈ L2 ∧ o.data = .cell (some (.ref b)) ∧ IntsAre us (marks (made gs (j : Int)) gs.length))) →
      Fr h₀ env.locals h (fun z => if z = x then some (.int (i : Int) t) else if z = y then some (.int xv ty) else if stored.contains z then u z else m₀ z) →
      News h₀ env.locals h ((el, o) :: (L2 ++ own)) →
      wpAny (model prog w) A (execs body env) (TbPost h₀ env.locals (JOne x y stored m₀ (Kt P pa ro el gs (i + 1))) own { s with heap := h, toks := tk } Q) E { s with heap := h, toks := tk })
    (done : ∀ (u0 : Option Value) (u : Str → Option Value) xv ty nx h tk, RowIn P nx ro gs → PartsIn nx pa (tsOf gs) gs.length → Fr h₀ env.locals h (fun z => if z = x then u0 else if z = y then some (.int xv ty) else if stored.contains z then u z else m₀ z) → News h₀ env.locals h nx → Q .next { s with heap := h, toks := tk }) :
    wpAny (model prog w) A (call (.type "range") [.int b t]) (fun xv s₁ => wpAny (model prog w) A (pyIter xv) (fun it s₂ => LoopAtV prog w A h₀ env x body Q E it s₂) E s₁) E s := by
  have N' : News h₀ env.locals s.heap ((el, o₀) :: (pa, W.listOf pv.toArray pc) :: (ro, W.listOf (as.map Value.ref).toArray rc) :: gl) := fun p hp => N p (by
    simp only [List.mem_cons] at hp ⊢
    rcases hp with h | h | h | h <;> simp [h])
  refine forRangeOne y stored (Kt P pa ro el gs) hh hb hn F N' hy ⟨o₀, _, rfl, ?_, ⟨as, rc, .tail _ (.head _), g2, fun k hk => (g5 k hk).mono fun p hp => .tail _ (.tail _ hp)⟩, ⟨pv, pc, .head _, g3, g4⟩, .inl ⟨rfl, hd⟩⟩ ?_ ?_
  · intro p hp
    rcases List.mem_cons.mp hp with rfl | hp
    · exact npa
    · rcases List.mem_cons.mp hp with rfl | hp
      · exact nro
      · exact ngl p hp
  · rintro i t xv ty u nx h tk own hi hoff ⟨o, L2, rfl, e1, e2, e3, e4⟩ F₁ N₁
    have o1 : ∀ p ∈ own, p.1 ≠ el := fun p hp => hoff p hp _ (.head _)
    have sb : ∀ p ∈ L2, p ∈ (el, o) :: (L2 ++ own) := fun p hp => .tail _ (List.mem_append_left _ hp)
    exact turn i t xv ty u o L2 h tk own hi (fun p hp q hq => hoff p hp q (.tail _ hq)) o1 e1 (fun p hp => (List.mem_append.mp hp).elim (e1 p) (o1 p)) e2 e3 (e2.mono sb) (e3.mono sb) e4 F₁ N₁
  · rintro u0 u xv ty nx h tk ⟨o, L2, rfl, e1, e2, e3, e4⟩ F₁ N₁
    exact done u0 u xv ty _ h tk (e2.mono fun p hp => .tail _ hp) (e3.mono fun p hp => .tail _ hp) F₁ N₁
end
theorem tenthEnd {P : Params} {h₀ : Heap} {L : Addr} {x y : Str} {stored : List Str} {m₀ m' : Str → Option Value} {own all L2 : List (Addr × Obj)} {s₁ : Shared} {h' : Heap} {tk : Nat} {ty : Tok}
    {pa ro el b : Addr} {o o' : Obj} {us : List Value} {c : Nat} {i : Nat} {gs : List GD} {xv : Int}
    (F : Fr h₀ L h' m') (N : News h₀ L h' all) (sub : ∀ p ∈ (b, W.listOf us.toArray c) :: (el, o') :: (L2 ++ own), p ∈ all) (hlt : AllLt b ((el, o) :: (L2 ++ own))) (off : TbOff own L2) (o1 : ∀ p ∈ own, p.1 ≠ el) (e1 : ∀ p ∈ L2, p.1 ≠ el)
    (e2 : RowIn P L2 ro gs) (e3 : PartsIn L2 pa (tsOf gs) gs.length) (hd : o'.data = .cell (some (.ref b))) (hu : IntsAre us (marks (made gs (i : Int)) gs.length)) (hy : m' y = some (.int xv ty)) (hm : ∀ z, z ≠ x → z ≠ y → stored.contains z = false → m' z = m₀ z) :
    TbEnd h₀ L (JOne x y stored m₀ (Kt P pa ro el gs (i + 1))) own s₁ { s₁ with heap := h', toks := tk } := by
  have hbl := allLt_mem hlt
  have hbel : @LT.lt Nat _ el b := hbl _ (.head _)
  refine oneEnd F N (nx := (el, o') :: (b, W.listOf us.toArray c) :: L2) ?_ ?_ ?_ ⟨o', _, rfl, ?_, e2.mono fun p hp => .tail _ hp, e3.mono fun p hp => .tail _ hp, .inr ⟨i, rfl, b, us, c, .head _, hd, hu⟩⟩ hy hm
  · intro p hp
    refine sub p ?_
    simp only [List.mem_cons, List.mem_append] at hp ⊢
    rcases hp with h | h | h <;> simp [h]
  · exact fun p hp => sub p (.tail _ (.tail _ (List.mem_append_right _ hp)))
  · intro p hp q hq
    rcases List.mem_cons.mp hq with rfl | hq
    · exact o1 p hp
    · rcases List.mem_cons.mp hq with rfl | hq
      · exact Nat.ne_of_lt (hbl p (.tail _ (List.mem_append_right _ hp)))
      · exact off p hp q hq
  · intro p hp
    rcases List.mem_cons.mp hp with rfl | hp
    · exact Nat.ne_of_gt hbel
    · exact e1 p hp
end Mine
namespace Mine
theorem far_beq {gs : List GD} {xv : Int} (h : GsOk gs xv) : (rowText gs 1000 == PySem.Txt.join (Str.ofString "") ((List.range gs.length).map (tsOf gs))) = true := by
  rw [beq_iff_eq]
  exact far_text h
section
variable {prog : Program} {w : World} {A : Around} {E : Value → Shared → Prop} {s : Shared} {h₀ : Heap} {L : Addr} {news : List (Addr × Obj)} {Q : Value → Shared → Prop}
theorem joinMade {x : Str} {t : Tok} {p : Addr} {ts : Nat → Str} {n : Nat} (N : News h₀ L s.heap news) (hP : PartsIn news p ts n) (hx : x.length ≤ 64) (h2 : ∀ k, k < n → (ts k).length ≤ 2) (hn : n ≤ 7)
    (h : ∀ t' k, Q (.str (PySem.Txt.join x ((List.range n).map ts)) t') { s with toks := k }) : wpAny (model prog w) A (call (.builtin "str.join") [.str x t, .ref p]) Q E s := by
  obtain ⟨vs, c, h1, hl, h3⟩ := hP
  refine join_listC (News.isList N h1) (strsAre_from hl h3) hx ?_ h
  have := sum_le_two (ts := ts) (n := n) h2
  simp only [List.length_map, List.length_range] at this ⊢
  omega
end
end Mine
section
local macro_rules | `(tactic| k_all) => `(tactic| assumption)
local macro_rules | `(tactic| walk_at "compareOp Eq str str") => `(tactic| (k_here; refine Mine.eq_str_by (by assumption) ?_))
namespace Mine
section
variable {w : World} {A : Around} {E : Value → Shared → Prop} {s : Shared} {h₀ : Heap} {L : Addr} {m : Str → Option Value} {Q : Value → Shared → Prop}
theorem textsItem {value slice : PySem.Expr} {r : Int} {u : Tok} : Fr h₀ L s.heap m → (hd.heap_39 w.params).In h₀ → 0 ≤ r → r < 6 → (∀ T t, 1 ≤ T.length → T.length ≤ 2 → Q (.str T t) s) →
    subscripted slice false (.ref 232) (.int r u) = operate [.ref 232, .int r u] (getItem (.ref 232) (.int r u)) →
    wpAny (model PySem.Challenge.rw_og0143_01.row.prog w) A (subscriptTail value slice (.ref 232) (.int r u)) Q E s := by
  k_fill
  intro F X h0 h1 h hs
  have h6 : r = 0 ∨ r = 1 ∨ r = 2 ∨ r = 3 ∨ r = 4 ∨ r = 5 := by omega
  rcases h6 with rfl | rfl | rfl | rfl | rfl | rfl
  all_goals (k_dflt (refine' topTup_K ?F ?X ?l ?a ?b ?c ?d ?_ hs; (case F => k_asm); (case X => k_asm); (case l => k_is); (case a => decide); (case b => decide); (case c => rfl); (case d => rfl)))
  all_goals exact h _ _ (by decide +kernel) (by decide +kernel)
end

local macro_rules | `(tactic| walk_at "eval ListComp") => `(tactic| (k_here; k_dflt (refine LCt.ListComp_T (F₀ := by k_asm) (by with_unfolding_all rfl) (by decide) (by rfl) (by decide) (by rfl) ?_)))

local macro_rules | `(tactic| walk_at "call builtin:str.join") => `(tactic| (k_here; (with_reducible show wpAny _ _ (call (Value.builtin _) [Value.str _ _, Value.ref _]) _ _ _); k_dflt (refine' joinMade ?k1 ?k2 ?k3 ?k4 ?k5 ?_; (case k1 => k_asm); (case k2 => assumption); (case k3 => decide +kernel); (case k4 => exact fun k hk => ((by assumption : Good _) k hk).2.1); (case k5 => assumption); k_whole); intro t' k'))
local macro_rules | `(tactic| walk_at "compareOp NotIn int ref") => `(tactic| (k_here; k_dflt (refine' notinNo ?k1 ?k2 ?k3 ?k4 ?_; (case k1 => k_asm); (case k2 => k_mem); (case k3 => assumption); (case k4 => assumption); k_whole)))

local macro_rules | `(tactic| walk_at "MY find") => `(tactic| first | tbn_find | exact allLt_of (by assumption))
local macro_rules | `(tactic| k_room) => `(tactic| exact Nat.le_of_ble_eq_true rfl)
local macro_rules | `(tactic| walk_at "call ref") => `(tactic| (k_here; (with_reducible show wpAny _ _ (call (Value.ref 231) [Value.ref _, Value.int _ _]) _ _ _); k_dflt (refine' lawDraw ?k1 ?k8 ?k9 ?k10 ?k11 ?k12 ?k13 ?k14 ?k15 ?k16 ?k17 ?_; (case k1 => walk_at "MY ctx"); (case k8 => k_updF); (case k9 => k_mem); (case k10 => k_mem); (case k11 => intro _; k_mem); (case k12 => assumption); (case k13 => omega); (case k14 => omega); (case k15 => omega); (case k16 => omega); (case k17 => decide); k_whole); intro r' t' ta' c' h' tk' hr0 hr1 F' N'; (try dsimp only at N'); (try k_sweep)))
local macro_rules | `(tactic| walk_at "subscriptTail") => `(tactic| (k_here; (with_reducible show wpAny _ _ (subscriptTail _ _ (Value.ref 232) (Value.int _ _)) _ _ _); k_dflt (refine' textsItem ?k1 ?k2 ?k3 ?k4 ?_ ?k5; (case k1 => k_asm); (case k2 => k_asm); (case k3 => assumption); (case k4 => assumption); (case k5 => with_unfolding_all rfl); k_whole); intro T' t' hT1' hT2'))
local macro_rules | `(tactic| walk_at "call ref") => `(tactic| (k_here; (with_reducible show wpAny _ _ (call (Value.ref 224) [Value.ref _, Value.int _ _]) _ _ _); k_dflt (refine' textOfRow ?k1 ?k8 ?k9 ?k10 ?k11 ?k12 ?_; (case k1 => walk_at "MY ctx"); (case k8 => assumption); (case k9 => assumption); (case k10 => assumption); (case k11 => omega); (case k12 => omega); k_whole); intro t' h' tk' F' N'; (try k_sweep)))
local macro_rules | `(tactic| walk_at "call ref") => `(tactic| (k_here; (with_reducible show wpAny _ _ (call (Value.ref 239) [Value.str _ _, Value.ref _]) _ _ _); k_dflt (refine' lawCut ?k1 ?k8 ?k9 ?k10 ?_; (case k1 => walk_at "MY ctx"); (case k8 => assumption); (case k9 => exact cutOk_made (by assumption)); (case k10 => assumption); k_whole); intro b' us' c' h' tk' F' N' l1 hu'; (try simp only [AllLt, and_true] at l1); (try k_sweep)))

theorem law : PySem.Challenge.rw_og0143_01.Holds := hd (by
  w_strict (
    k_go0
    (all_goals try k_fold)
    repeat ((fail_if_success (with_reducible show wpAny _ _ (eval (PySem.Expr.BoolOp _ _ _) _) _ _ _)); (first | (k_unfold; (try dsimp only)) | (k_end; wrow_close) | walk1 | (dsimp only; walk1) | fail "no step"))
    rename Fr _ _ _ _ => F9
    rename News _ _ _ _ => N9
    refine cellsCut F9 N9 ?_ ?_
    · k_steps
      all_goals first
        | exact cellsEnd1 (by assumption) (by assumption) (by assumption) (by assumption) (by assumption) (by omega)
        | exact cellsEnd2 (by assumption) (by assumption) (by assumption)
    · intro D ws cc ns h' tk F' N' l1 hI hn0 hn1
      clear F9 N9
      simp only [AllLt, and_true] at l1
      repeat ((fail_if_success (with_reducible show wpAny _ _ (call (Value.type "range") _) _ _ _)); (first | (k_unfold; (try dsimp only)) | (k_end; wrow_close) | walk1 | (dsimp only; walk1) | (leave1; walk_say "STEP leave1"; try dsimp only) | fail "no step"))
      rename Fr _ _ _ _ => F9
      rename News _ _ _ _ => N9
      rename PySem.World => w9
      rename_i r9 t9 ta9 c9 h9 tk9 hr0 hr1
      refine forBuild w9.params (Str.ofString "x") [Str.ofString "text", Str.ofString "width", Str.ofString "size"] (n := (1 + r9).toNat) (by rfl) (by omega) (by omega) F9 N9 (by rfl) (fun i t xv ty u pv pc as rc ta tc gl gs h tk own hi o5 o6 g1 g2 g3 g4 g5 g6 g7 ne1 ne2 ne3 F' N' => ?_) (fun u0 u xv ty nx h tk hK F' N' => ?_)
      · clear F9 N9
        have hi7 : i < 7 := by omega
        have hpl : pv.length < 7 := by omega
        have hal : (as.map Value.ref).length < 7 := by rw [List.length_map]; omega
        k_steps
        refine buildEnd (by assumption) (by assumption) o5 o6 g1 g2 g3 g4 g5 g6 g7 (by walk_at "MY find") (by first | assumption | omega) (by first | assumption | omega) (by first | assumption | omega) (by first | assumption | omega) (by refine ⟨?_, ?_, ?_, ?_, ?_, ?_, ?_, ?_, ?_⟩ <;> first | assumption | omega) (by assumption) (by assumption) ?hsz ?hgap ?hvv rfl ?_
        case hsz => omega
        case hgap => omega
        case hvv => omega
        intro z z1 z2 z3
        obtain ⟨z4, z5, z6⟩ := notStored3 z3
        simp only [if_neg z1, if_neg z2, if_neg z4, if_neg z5, if_neg z6, z3, Bool.false_eq_true, if_false]
      · obtain ⟨pv, pc, as, rc, ta, tc, gl, gs, rfl, g1, g2, g3, g4, g5, g6, g7⟩ := hK
        clear F9 N9
        have ngl : ∀ p ∈ gl, p.1 ≠ _ := fun p hp => (g7 p hp).2.2.2
        rw [← g1] at g2 g3 g4 g5
        have hgl7 : gs.length ≤ 7 := by omega
        have hgl1 : 1 ≤ gs.length := by omega
        have hgood := gsOk_good g6
        clear g7 g1
        repeat ((fail_if_success (with_reducible show wpAny _ _ (call (Value.type "range") _) _ _ _)); (first | (k_unfold; (try dsimp only)) | (k_end; wrow_close) | walk1 | (dsimp only; walk1) | (leave1; walk_say "STEP leave1"; try dsimp only) | fail "no step"))
        rename Fr _ _ _ _ => F9
        rename News _ _ _ _ => N9
        refine forTenths w9.params (Str.ofString "x") [Str.ofString "blanks"] (n := 9) (gs := gs) (by rfl) (by rfl) (by decide) F9 N9 (by rfl) (by assumption) (neN (by omega)) (neN (by omega)) ngl g2 g3 g4 g5 (fun i t xv ty u o L2 h tk own hi f1 f2 f3 f4 f5 f6 hR hP hdis F' N' => ?_) (fun u0 u xv ty nx h tk hR hP F' N' => ?_)
        · clear F9 N9
          rcases hdis with ⟨rfl, hod⟩ | ⟨j, rfl, b0, us0, c0, hb0, hod, hu0⟩
          · k_steps
            refine tenthEnd (o := o) (by assumption) (by assumption) (fun p hp => hp) (by assumption) f1 f2 f3 f5 f6 (by assumption) (by assumption) rfl ?_
            intro z z1 z2 z3
            have z4 := notStored1 z3
            simp only [if_neg z1, if_neg z2, if_neg z4, z3, Bool.false_eq_true, if_false]
          · repeat ((fail_if_success (with_reducible show LCt.CompSrcT _ _ _ _ _ _ _ _ _ _ _ _ _ _ _)); (first | (k_unfold; (try dsimp only)) | walk1 | (dsimp only; walk1) | fail "no step"))
            rename Fr _ _ _ _ => F9
            rename News _ _ _ _ => N9
            rename IntsAre _ _ => hu1
            have e1 : ((j + 1 : Nat) : Int) = (j : Int) + 1 := by omega
            have hul := IntsAre.length hu1
            have hml := marks_len (made gs ((j + 1 : Nat) : Int)) gs.length
            refine LCt.CompSrcT.ledger (by rfl) F9 N9 (.head _) (by rw [List.size_toArray, PySem.sizeLine_eq]; omega) ?_
            intro g9
            refine restNone (.inr ⟨_, .head _, rfl, _, rfl⟩) (fun i9 v I oI C oC D m₂ h tk E' hvi hv hC hx F' N' off ne => ?_) ?_
            · clear F9 N9
              obtain ⟨k, t9, e9, hk⟩ := IntsAre.at hu1 i9 v (by simpa using hv)
              subst e9
              have hk2 := List.mem_of_getElem? hk
              rw [e1] at hk2
              have hkm := marks_down hgood hk2
              k_steps
              exact noEnd (by assumption) (by assumption)
            · clear F9 N9
              k_steps
              refine tenthEnd (o := o) (by assumption) (by assumption) (fun p hp => .tail _ (.tail _ hp)) (by assumption) f1 f2 f3 f5 f6 (by assumption) hu1 rfl ?_
              intro z z1 z2 z3
              have z4 := notStored1 z3
              simp only [if_neg z1, if_neg z2, if_neg z4, z3, Bool.false_eq_true, if_false]
        · clear F9 N9
          have hfar := far_beq g6
          k_steps
          done))
end Mine
end
theorem PySem.Challenge.cw_og0143_01_holds : PySem.Challenge.rw_og0143_01.Holds := by
  exact Mine.law
