import PyProof.Rows.All
import Wide.All
import OpenK.AllK
import Wide.FinOn
import PySem.Challenge.RW_sz0004_01
open PySem PySem.Spec PySem.Calls PySem.W PyProof.Rows
set_option Elab.async false
namespace Mine
/-- the power's word: what is found so far, times the base to what is left -/
def PowOk (n K r x e : Int) : Prop := 0 ≤ e ∧ 0 ≤ r ∧ r < n ∧ 0 ≤ x ∧ x < n ∧ (r * x ^ e.toNat) % n = K

theorem powOk_b {n K r x e : Int} (h : PowOk n K r x e) : 0 ≤ e ∧ 0 ≤ r ∧ r < n ∧ 0 ≤ x ∧ x < n := ⟨h.1, h.2.1, h.2.2.1, h.2.2.2.1, h.2.2.2.2.1⟩
theorem mod_mul_pow (r x n : Int) (k : Nat) : ((r % n) * (x % n) ^ k) % n = (r * x ^ k) % n := by
  have h : ∀ k : Nat, ((x % n) ^ k) % n = (x ^ k) % n := by
    intro k
    induction k with
    | zero => simp
    | succ k ih => rw [Int.pow_succ, Int.pow_succ, Int.mul_emod, ih, Int.emod_emod, ← Int.mul_emod]
  rw [Int.mul_emod, Int.emod_emod, h, ← Int.mul_emod]

theorem powOk_start {n x e : Int} (hn : 2 ≤ n) (hx : 0 ≤ x) (hx' : x < n) (he : 0 ≤ e) : PowOk n (x ^ e.toNat % n) ((1 : Int).fmod n) x e := by
  have h1 : (1 : Int).fmod n = 1 := by rw [Int.fmod_eq_emod_of_nonneg _ (by omega), Int.emod_eq_of_lt (by omega) (by omega)]
  rw [h1]
  exact ⟨he, by omega, by omega, hx, hx', by rw [Int.one_mul]⟩
theorem powOk_end {n K r x e : Int} (h : PowOk n K r x e) (he : ¬ 0 < e) : r = K := by
  obtain ⟨h0, h1, h2, h3, h4, h5⟩ := h
  have : e = 0 := by omega
  subst this
  rw [← h5]
  simp
  rw [Int.emod_eq_of_lt h1 h2]
theorem powOk_odd {n K r x e : Int} (h : PowOk n K r x e) (he : 0 < e) (h1 : e.fmod 2 = 1) : PowOk n K ((r * x).fmod n) ((x * x).fmod n) (e.fdiv 2) := by
  obtain ⟨_, hr, hr', hx, hx', hK⟩ := h
  have hn : 0 ≤ n := by omega
  rw [Int.fmod_eq_emod_of_nonneg _ (by omega)] at h1
  rw [Int.fmod_eq_emod_of_nonneg _ hn, Int.fmod_eq_emod_of_nonneg _ hn, Int.fdiv_eq_ediv_of_nonneg _ (by omega)]
  refine ⟨by omega, Int.emod_nonneg _ (by omega), Int.emod_lt_of_pos _ (by omega), Int.emod_nonneg _ (by omega), Int.emod_lt_of_pos _ (by omega), ?_⟩
  rw [mod_mul_pow, ← hK]
  have e2 : e.toNat = (e / 2).toNat + (e / 2).toNat + 1 := by omega
  rw [e2, Int.pow_succ, Int.pow_add, Int.mul_pow]
  congr 1
  ac_rfl
theorem powOk_even {n K r x e : Int} (h : PowOk n K r x e) (he : 0 < e) (h1 : ¬ e.fmod 2 = 1) : PowOk n K r ((x * x).fmod n) (e.fdiv 2) := by
  obtain ⟨_, hr, hr', hx, hx', hK⟩ := h
  have hn : 0 ≤ n := by omega
  rw [Int.fmod_eq_emod_of_nonneg _ (by omega)] at h1
  rw [Int.fmod_eq_emod_of_nonneg _ hn, Int.fdiv_eq_ediv_of_nonneg _ (by omega)]
  refine ⟨by omega, hr, hr', Int.emod_nonneg _ (by omega), Int.emod_lt_of_pos _ (by omega), ?_⟩
  have e0 := mod_mul_pow r (x * x) n (e / 2).toNat
  rw [Int.emod_eq_of_lt hr hr'] at e0
  rw [e0, ← hK]
  have e2 : e.toNat = (e / 2).toNat + (e / 2).toNat := by omega
  rw [e2, Int.pow_add, Int.mul_pow]
end Mine
namespace Mine
/-- the list that `_law_powers` gives back: all powers until 1 is met or there are as many as the modulus -/
def PowsOk (n x : Int) (ns : List Int) : Prop := ∃ j : Nat, 1 ≤ j ∧ (j : Int) ≤ n ∧ ns = (List.range j).map (fun i => x ^ (i + 1) % n) ∧ (∀ i, i + 1 < j → x ^ (i + 1) % n ≠ 1) ∧ (x ^ j % n = 1 ∨ (j : Int) = n)
/-- the same while it is built -/
def PowsOn (n x : Int) (found : List Int) (due : Int) : Prop := 1 ≤ found.length ∧ (found.length : Int) ≤ n ∧ found = (List.range found.length).map (fun i => x ^ (i + 1) % n) ∧ (∀ i, i + 1 < found.length → x ^ (i + 1) % n ≠ 1) ∧ due = x ^ found.length % n
theorem powsOn_start {n x : Int} (hn : 2 ≤ n) (hx : 0 ≤ x) (hx' : x < n) : PowsOn n x [x] x := by
  have h : x % n = x := Int.emod_eq_of_lt hx hx'
  refine ⟨Nat.le_refl 1, ?_, ?_, ?_, ?_⟩
  · simp only [List.length_cons, List.length_nil]; omega
  · simp only [List.length_cons, List.length_nil, Nat.zero_add]
    show [x] = [x ^ (0 + 1) % n]
    rw [show (0 + 1 : Nat) = 1 from rfl, Int.pow_succ, Int.pow_zero, Int.one_mul, h]
  · intro i hi
    simp only [List.length_cons, List.length_nil] at hi
    omega
  · simp only [List.length_cons, List.length_nil, Nat.zero_add, Int.pow_succ, Int.pow_zero, Int.one_mul]
    exact h.symm
/-- what the walk asks of it -/
theorem powsOn_b {n x : Int} {found : List Int} {due : Int} (h : PowsOn n x found due) (hn : 2 ≤ n) : 1 ≤ found.length ∧ (found.length : Int) ≤ n ∧ 0 ≤ due ∧ due < n ∧ x ^ ((found.length : Int)).toNat % n = due ∧ found.getD (-1 + (found.length : Int)).toNat 0 = due := by
  obtain ⟨h1, h2, h3, h4, h5⟩ := h
  refine ⟨h1, h2, ?_, ?_, ?_, ?_⟩
  · rw [h5]; exact Int.emod_nonneg _ (by omega)
  · rw [h5]; exact Int.emod_lt_of_pos _ (by omega)
  · rw [h5, Int.toNat_natCast]
  · rw [h5]
    generalize hl : found.length = l at *
    obtain ⟨j, rfl⟩ : ∃ j, l = j + 1 := ⟨l - 1, by omega⟩
    have e : (-1 + ((j + 1 : Nat) : Int)).toNat = j := by omega
    rw [h3, e]
    simp
theorem powsOn_turn {n x : Int} {found : List Int} {due v w : Int} (h : PowsOn n x found due) (hlt : (found.length : Int) < n) (h1 : due ≠ 1) (hv : v = due * x % n) (hw : w = due * x % n) (hn : 2 ≤ n) : PowsOn n x (found ++ [v]) w := by
  obtain ⟨a1, a2, a3, a4, a5⟩ := h
  have e : due * x % n = x ^ (found.length + 1) % n := by
    rw [a5, Int.pow_succ, Int.mul_emod, Int.emod_emod, ← Int.mul_emod]
  refine ⟨by simp, by simp only [List.length_append, List.length_cons, List.length_nil]; omega, ?_, ?_, ?_⟩
  · simp only [List.length_append, List.length_cons, List.length_nil, Nat.zero_add]
    rw [List.range_succ, List.map_append, ← a3]
    simp only [List.map_cons, List.map_nil]
    rw [hv, e]
  · intro i hi
    simp only [List.length_append, List.length_cons, List.length_nil, Nat.zero_add] at hi
    by_cases hc : i + 1 < found.length
    · exact a4 i hc
    · have : i + 1 = found.length := by omega
      rw [this, ← a5]
      exact h1
  · simp only [List.length_append, List.length_cons, List.length_nil, Nat.zero_add]
    rw [hw, e]
theorem powsOn_end {n x : Int} {found : List Int} {due : Int} (h : PowsOn n x found due) (he : due = 1 ∨ ¬ (found.length : Int) < n) : PowsOk n x found := by
  obtain ⟨a1, a2, a3, a4, a5⟩ := h
  refine ⟨found.length, a1, a2, a3, a4, ?_⟩
  rcases he with he | he
  · exact .inl (a5 ▸ he)
  · exact .inr (by omega)
end Mine
namespace Mine
def primes : List Int := [2, 3, 5, 7, 11, 13, 17, 19]
def Prime1 (n : Int) : Prop := n ∈ primes
def upTo (n : Int) : List Int := (List.range (n - 1).toNat).map fun (i : Nat) => 1 + (i : Int)
theorem mem_upTo {n x : Int} (hx : 1 ≤ x) (hx' : x < n) : x ∈ upTo n := List.mem_map.mpr ⟨(x - 1).toNat, List.mem_range.mpr (by omega), by omega⟩
theorem powList_facts : ∀ n ∈ primes, ∀ x ∈ upTo n, ∀ j ∈ List.range (n.toNat + 1), 1 ≤ j → ((List.range (j - 1)).all fun i => x ^ (i + 1) % n ≠ 1) = true → (x ^ j % n = 1 ∨ (j : Int) = n) →
    ((List.range j).map (fun i => x ^ (i + 1) % n)).getD (-1 + (j : Int)).toNat 0 = 1 ∧ (n - 1).fmod j = 0 ∧ (((List.range j).map (fun i => x ^ (i + 1) % n)).all fun a => ((List.range j).map (fun i => x ^ (i + 1) % n)).count a == 1) = true := by decide +kernel
theorem pows_facts {n x : Int} {ns : List Int} (hp : Prime1 n) (hx : 1 ≤ x) (hx' : x < n) (h : PowsOk n x ns) : ns ≠ [] ∧ 1 ≤ ns.length ∧ (ns.length : Int) ≤ n ∧ ns.getD (-1 + (ns.length : Int)).toNat 0 = 1 ∧ (n - 1).fmod ns.length = 0 ∧ (ns.filter (fun one => (ns.count one : Int) != 1)).map (fun one => one) = [] := by
  obtain ⟨j, h1, h2, h3, h4, h5⟩ := h
  have hl : ns.length = j := by rw [h3]; simp
  have f := powList_facts n hp x (mem_upTo hx hx') j (List.mem_range.mpr (by omega)) h1 (by
    rw [List.all_eq_true]
    intro i hi
    exact decide_eq_true (h4 i (by have := List.mem_range.mp hi; omega))) h5
  rw [← h3] at f
  refine ⟨fun e => ?_, by omega, by omega, ?_, ?_, ?_⟩
  · rw [e] at hl; simp at hl; omega
  · rw [hl]; exact f.1
  · rw [hl]; exact f.2.1
  · rw [List.map_id', List.filter_eq_nil_iff]
    intro a ha
    have := beq_iff_eq.mp (List.all_eq_true.mp f.2.2 a ha)
    simp [this]
def rk (n : Int) : List Int := (List.range (n - 1).toNat).map fun (i : Nat) => 1 + (i : Int)
theorem field_one : ∀ n ∈ primes, ∀ x ∈ upTo n, x ^ (n - 1).toNat % n = 1 ∧ x * (x ^ (n - 1 - 1).toNat % n) % n = 1 ∧ x ^ (n - 1 + 1).toNat % n = x := by decide +kernel
theorem field_two : ∀ n ∈ primes, ∀ x ∈ upTo n, ∀ y ∈ upTo n, ((x + y) % n) ^ (n - 1 + 1).toNat % n = (x ^ (n - 1 + 1).toNat % n + y ^ (n - 1 + 1).toNat % n) % n := by decide +kernel
theorem field_sq : ∀ n ∈ primes, n - 1 = 1 ∨ ∀ x ∈ upTo n, (((upTo n).map (fun v => v * v % n)).any fun z => z == x) = true ∧ x ^ ((n - 1).fdiv 2).toNat % n = 1 ∨ (((upTo n).map (fun v => v * v % n)).any fun z => z == x) = false ∧ x ^ ((n - 1).fdiv 2).toNat % n = n - 1 := by decide +kernel
theorem field_hv : ∀ n ∈ primes, n - 1 = 1 ∨ (((((upTo n).filter (fun v => v ^ ((n - 1).fdiv 2).toNat % n == 1)).map (fun v => v)).length : Int) = (n - 1).fdiv 2 ∧
  (((((upTo n).filter (fun v => v ^ ((n - 1).fdiv 2).toNat % n == 1)).map (fun v => v)).filter (fun v => (((upTo n).map (fun v => v * v % n)).count v : Int) != 2)).map (fun v => v)) = []) := by decide +kernel
theorem sq_no {b : Bool} {z n : Int} (g : b = true ∧ z = 1 ∨ b = false ∧ z = n - 1) (hb : b = true) (hz : z ≠ 1) : False := by
  rcases g with ⟨_, q⟩ | ⟨p, _⟩
  · exact hz q
  · rw [hb] at p; cases p
theorem sq_no' {b : Bool} {z n : Int} (g : b = true ∧ z = 1 ∨ b = false ∧ z = n - 1) (hb : b = false) (hz : z ≠ n - 1) : False := by
  rcases g with ⟨p, _⟩ | ⟨_, q⟩
  · rw [hb] at p; cases p
  · exact hz q
theorem field_n2 : ∀ n ∈ primes, n - 1 = 1 → (upTo n).map (fun v => v * v % n) = [1] := by decide +kernel
def ns18 : List Int := (List.range 18).map fun (i : Nat) => 2 + (i : Int)
theorem mem18 {v : Int} (h0 : 0 ≤ v) (h1 : v < 18) : 2 + v ∈ ns18 := List.mem_map.mpr ⟨v.toNat, List.mem_range.mpr (by omega), by omega⟩
def from2 (n : Int) : List Int := (List.range (n - 2).toNat).map fun (i : Nat) => 2 + (i : Int)
theorem wilson_ok : ∀ n ∈ ns18, (((upTo n).foldl (fun a v => a * v % n) 1 == n - 1) != decide (((from2 n).filter (fun d => n.fmod d == 0)).map (fun d => d) = [])) = false := by decide +kernel
theorem sum_odd : ∀ n ∈ ns18, n.fmod 2 = 1 → ((upTo n).foldl (fun a v => (a + v) % n) 0 != 0) = false := by decide +kernel
theorem sum_even : ∀ n ∈ ns18, n.fmod 2 ≠ 1 → ((upTo n).foldl (fun a v => (a + v) % n) 0 != n.fdiv 2) = false := by decide +kernel
theorem prime_ok : ∀ n ∈ ns18, ((from2 n).filter (fun d => n.fmod d == 0)).map (fun d => d) = [] → Prime1 n := by
  show ∀ n ∈ ns18, ((from2 n).filter (fun d => n.fmod d == 0)).map (fun d => d) = [] → n ∈ primes
  decide +kernel
theorem cube_ok {n x : Int} (hn : 2 ≤ n) : (x ^ (3 : Int).toNat % n != (x * x * x).fmod n) = false := by
  rw [Int.fmod_eq_emod_of_nonneg _ (by omega), show (3 : Int).toNat = 3 from rfl, show x ^ 3 = x * x * x by rw [Int.pow_succ, Int.pow_succ, Int.pow_succ, Int.pow_zero, Int.one_mul]]
  simp
theorem zero_ok {n x : Int} (hn : 2 ≤ n) : (x ^ (0 : Int).toNat % n != 1) = false := by
  rw [show (0 : Int).toNat = 0 from rfl, Int.pow_zero, Int.emod_eq_of_lt (by omega) (by omega)]
  rfl
theorem neg_of {b : Bool} (h : b = false) : ¬ b = true := by rw [h]; exact Bool.false_ne_true
end Mine
namespace Mine
theorem ne_below {news : List (Addr × Obj)} {a d : Nat} (h : ∀ p : Addr × Obj, p ∈ news → @LT.lt Nat _ p.1 a) (had : a ≤ d) : ∀ p ∈ news, p.1 ≠ d := fun p hp => Nat.ne_of_lt (Nat.lt_of_lt_of_le (h p hp) had)
theorem ne_all {news : List (Addr × Obj)} {a d : Nat} (h : AllLt a news) (had : a ≤ d) : ∀ p ∈ news, p.1 ≠ d := ne_below (fun p hp => ktn_ltOf h p hp) had
theorem led4 {h₀ h : Heap} {L : Addr} {big : List (Addr × Obj)} {a b : Addr × Obj} {t dx C : Addr} {es : List DictEntry} {k : Nat} (N : News h₀ L h big) (ha : a ∈ big) (hb : b ∈ big) (hc : (t, instObj C dx) ∈ big) (hd : (dx, dictOf es k) ∈ big) : News h₀ L h (a :: b :: [(t, instObj C dx), (dx, dictOf es k)]) := by
  intro p hp
  simp only [List.mem_cons, List.not_mem_nil, or_false] at hp
  rcases hp with rfl | rfl | rfl | rfl
  · exact N _ ha
  · exact N _ hb
  · exact N _ hc
  · exact N _ hd
theorem led5 {h₀ h : Heap} {L : Addr} {big : List (Addr × Obj)} {a b : Addr × Obj} {t dx C c : Addr} {o : Obj} {v : Option Value} {es : List DictEntry} {k : Nat} (N : News h₀ L h big) (_hv : o.data = .cell v) (ha : a ∈ big) (hb : b ∈ big) (hc : (t, instObj C dx) ∈ big) (hd : (dx, dictOf es k) ∈ big) (he : (c, o) ∈ big) : News h₀ L h (a :: b :: [(t, instObj C dx), (dx, dictOf es k), (c, o)]) := by
  intro p hp
  simp only [List.mem_cons, List.not_mem_nil, or_false] at hp
  rcases hp with rfl | rfl | rfl | rfl | rfl
  · exact N _ ha
  · exact N _ hb
  · exact N _ hc
  · exact N _ hd
  · exact N _ he
/-- the end of a turn of a while that turns one list of ints and one int -/
def LIEnd (h₀ : Heap) (L : Addr) (s : Shared) (y1 y2 : Str) (l : Addr) (news : List (Addr × Obj)) (m₀ : Str → Option Value) (P : List Int → Int → Prop) (μ : List Int → Int → Nat) (ns : List Int) (i : Int) (s₂ : Shared) : Prop :=
  ∃ (vs' : List Value) (ns' : List Int) (c' : Nat) (i' : Int) (ti' : Tok) (h' : Heap) (tk : Nat) (m' : Str → Option Value), s₂ = { s with heap := h', toks := tk } ∧ Fr h₀ L h' m' ∧ News h₀ L h' ((l, listOf vs'.toArray c') :: news) ∧ IntsAre vs' ns' ∧ m' y1 = some (.ref l) ∧ m' y2 = some (.int i' ti') ∧ (∀ z, z ≠ y1 → z ≠ y2 → m' z = m₀ z) ∧ P ns' i' ∧ μ ns' i' < μ ns i
def LIPost (h₀ : Heap) (L : Addr) (s : Shared) (y1 y2 : Str) (l : Addr) (news : List (Addr × Obj)) (m₀ : Str → Option Value) (P : List Int → Int → Prop) (μ : List Int → Int → Nat) (Q : Flow → Shared → Prop) (ns : List Int) (i : Int) (f : Flow) (s₂ : Shared) : Prop :=
  match f with
  | .ret v => Q (.ret v) s₂
  | .brk => Q .next s₂
  | _ => LIEnd h₀ L s y1 y2 l news m₀ P μ ns i s₂
section
variable {prog : Program} {w : World} {A : Around} {E : Value → Shared → Prop} {Q : Flow → Shared → Prop} {s : Shared} {env : Env} {h₀ : Heap} {L : Addr}
theorem li_end {m₀ m' : Str → Option Value} {l : Addr} {news news' : List (Addr × Obj)} {vs' : List Value} {ns ns' : List Int} {c' : Nat} {i i' : Int} {ti' : Tok} {y1 y2 : Str} {P : List Int → Int → Prop} {μ : List Int → Int → Nat} {h' : Heap} {tk : Nat}
    (F : Fr h₀ L h' m') (N : News h₀ L h' news') (hn : (l, listOf vs'.toArray c') ∈ news') (hs : ∀ p ∈ news, p ∈ news') (hI : IntsAre vs' ns') (h1 : m' y1 = some (.ref l)) (h2 : m' y2 = some (.int i' ti')) (hr : ∀ z, z ≠ y1 → z ≠ y2 → m' z = m₀ z) (hP : P ns' i') (hμ : μ ns' i' < μ ns i) :
    LIEnd h₀ L s y1 y2 l news m₀ P μ ns i { s with heap := h', toks := tk } := by
  refine ⟨vs', ns', c', i', ti', h', tk, m', rfl, F, ?_, hI, h1, h2, hr, hP, hμ⟩
  intro p hp
  rcases List.mem_cons.mp hp with rfl | hp
  · exact N _ hn
  · exact N _ (hs p hp)
theorem while_LI {test : PySem.Expr} {body : List Stmt} {pos : Pos} {m₀ : Str → Option Value} {l : Addr} {news : List (Addr × Obj)} {vs : List Value} {ns : List Int} {c : Nat} {i : Int} {ti : Tok} (y1 y2 : Str) (P : List Int → Int → Prop) (μ : List Int → Int → Nat)
    (F : Fr h₀ L s.heap m₀) (N : News h₀ L s.heap ((l, listOf vs.toArray c) :: news)) (hI : IntsAre vs ns) (h1 : m₀ y1 = some (.ref l)) (h2 : m₀ y2 = some (.int i ti)) (hP : P ns i)
    (turn : ∀ vs ns c i ti h tk, IntsAre vs ns → P ns i → Fr h₀ L h (fun z => if z = y1 then some (.ref l) else if z = y2 then some (.int i ti) else m₀ z) → News h₀ L h ((l, listOf vs.toArray c) :: news) → KstMark →
      wpAny (model prog w) A (isTrue test env (eval test env)) (fun b s₂ =>
        if b = true then wpAny (model prog w) A (execs body env) (LIPost h₀ L s y1 y2 l news m₀ P μ Q ns i) E s₂ else Q .next s₂) E { s with heap := h, toks := tk })
    (hE : PassesOwn (model prog w) A env E := by passes_own) :
    wpAny (model prog w) A (exec (.While test body [] pos) env) Q E s := by
  refine ksw_while (σ := List Value × List Int × Nat × Int × Tok) (fun c => (l, listOf c.1.toArray c.2.2.1) :: news) (fun c => [(y1, .ref l), (y2, .int c.2.2.2.1 c.2.2.2.2)]) (fun c => IntsAre c.1 c.2.1) [] (fun c => P c.2.1 c.2.2.2.1) (fun c => μ c.2.1 c.2.2.2.1) (vs, ns, c, i, ti) F N hI ?_ hP ?_ hE
  · intro p hp
    rcases List.mem_cons.mp hp with rfl | hp
    · exact h1
    · obtain rfl := List.mem_singleton.mp hp
      exact h2
  · rintro ⟨vs, ns, c, i, ti⟩ u h tk hf hp F' N'
    have e : kstB (fun z => if ([] : List Str).contains z then u z else m₀ z) [(y1, Value.ref l), (y2, Value.int i ti)] = (fun z => if z = y1 then some (.ref l) else if z = y2 then some (.int i ti) else m₀ z) := by
      funext z; simp [kstB]
    refine wpAny_mono (turn vs ns c i ti h tk hf hp (by rw [← e]; exact F') N' kstMark) (fun b s₂ hq => ?_) fun _ _ x => x
    cases b with
    | false => exact hq
    | true =>
      simp only [if_true] at hq ⊢
      refine wpAny_mono hq (fun f s₃ hr => ?_) fun _ _ x => x
      have conv : LIEnd h₀ L s y1 y2 l news m₀ P μ ns i s₃ → KswEnd (σ := List Value × List Int × Nat × Int × Tok) h₀ L s (fun c => (l, listOf c.1.toArray c.2.2.1) :: news) (fun c => [(y1, .ref l), (y2, .int c.2.2.2.1 c.2.2.2.2)]) (fun c => IntsAre c.1 c.2.1) [] m₀ (fun c => P c.2.1 c.2.2.2.1) (fun c => μ c.2.1 c.2.2.2.1) (vs, ns, c, i, ti) s₃ := by
        rintro ⟨vs', ns', c', i', ti', h', tk', m', rfl, F9, N9, hI9, h19, h29, hr9, hP9, hμ9⟩
        refine ksw_end (vs', ns', c', i', ti') F9 N9 (fun p hp => hp) hI9 ?_ ?_ hP9 hμ9
        · intro p hp
          rcases List.mem_cons.mp hp with rfl | hp
          · exact h19
          · obtain rfl := List.mem_singleton.mp hp
            exact h29
        · intro z hz _
          exact hr9 z (hz _ (.head _)) (hz _ (.tail _ (.head _)))
      cases f with
      | ret v => exact hr
      | brk => exact hr
      | next => exact conv hr
      | cont => exact conv hr
end
end Mine
namespace Mine
open LCg LCt
/-- an element of a comprehension over ints: an int, nothing else made -/
def CEl (h₀ : Heap) (L : Addr) (m : Str → Option Value) (s₁ : Shared) (led : List (Addr × Obj)) (p : Bool) (r : Int) (y : Value) (s₂ : Shared) : Prop :=
  p = true ∧ ∃ t h' tk, y = .int r t ∧ s₂ = { s₁ with heap := h', toks := tk } ∧ Fr h₀ L h' m ∧ News h₀ L h' led
/-- an item that the test leaves out -/
def CNo (h₀ : Heap) (L : Addr) (m : Str → Option Value) (s₁ : Shared) (led : List (Addr × Obj)) (p : Bool) (s₂ : Shared) : Prop :=
  p = false ∧ ∃ h' tk, s₂ = { s₁ with heap := h', toks := tk } ∧ Fr h₀ L h' m ∧ News h₀ L h' led
theorem cel {h₀ : Heap} {L : Addr} {m : Str → Option Value} {s₁ : Shared} {led : List (Addr × Obj)} {p : Bool} {r r' : Int} {t : Tok} {h' : Heap} {tk : Nat} (hp : p = true) (hr : r' = r) (F : Fr h₀ L h' m) (N : News h₀ L h' led) : CEl h₀ L m s₁ led p r (.int r' t) { s₁ with heap := h', toks := tk } := ⟨hp, t, h', tk, by rw [hr], rfl, F, N⟩
theorem cno {h₀ : Heap} {L : Addr} {m : Str → Option Value} {s₁ : Shared} {led : List (Addr × Obj)} {p : Bool} {h' : Heap} {tk : Nat} (hp : p = false) (F : Fr h₀ L h' m) (N : News h₀ L h' led) : CNo h₀ L m s₁ led p { s₁ with heap := h', toks := tk } := ⟨hp, h', tk, rfl, F, N⟩
section
variable {prog : Program} {w : World} {A : Around} {E : Value → Shared → Prop} {s₁ : Shared} {h₀ : Heap} {L : Addr} {m : Str → Option Value} {env : Env} {ct elt : PySem.Expr} {x : Str} {scope : Scope} {cl : List (Str × Addr)} {Fin : Shared → List Value → List (Addr × Obj) → Prop} {news : List (Addr × Obj)}
theorem restT {s : Shared} {S : List (Addr × Obj) → Prop} {P : Nat → Value → Prop} {Fin : List Value → List (Addr × Obj) → Prop} {n : Nat} {ks : List Int} (p : Int → Bool) (g : Int → Int) (hks : ks.length = n) (hS : S news) (hP : ∀ i v, i < n → P i v → ∃ k t, ks[i]? = some k ∧ v = .int k t)
    (turn : ∀ k t I oI C oC D m₂ ys h tk (E' : Value → Shared → Prop), k ∈ ks → NsObj oC m₂ → m₂ x = some (.int k t) → Fr h₀ L h m → News h₀ L h ((I, oI) :: (C, oC) :: (D, lst ys) :: news) → Off3 I C D news → ((@Ne Nat I C) ∧ (@Ne Nat I D) ∧ (@Ne Nat C D)) →
      wpAny (model prog w) A (isTrue ct (compEnvC scope cl C env) (eval ct (compEnvC scope cl C env))) (fun b s' => if b = true then wpAny (model prog w) A (eval elt (compEnvC scope cl C env)) (CEl h₀ L m { s with heap := h, toks := tk } ((I, oI) :: (C, oC) :: (D, lst ys) :: news) (p k) (g k)) E' s'
        else CNo h₀ L m { s with heap := h, toks := tk } ((I, oI) :: (C, oC) :: (D, lst ys) :: news) (p k) s') E' { s with heap := h, toks := tk })
    (fin : ∀ ys, IntsAre ys ((ks.filter p).map g) → ys.length ≤ n → Fin ys news) : CompRestT prog w A h₀ L m env ct elt x scope cl s S P Fin n 0 [] news := by
  have key : ∀ (j i : Nat) (ys : List Value), i + j = n → IntsAre ys (((ks.take i).filter p).map g) → CompRestT prog w A h₀ L m env ct elt x scope cl s S P Fin j i ys news := by
    intro j
    induction j with
    | zero =>
      intro i ys hi hy
      have e : i = ks.length := by omega
      subst e
      rw [List.take_length] at hy
      refine CompRestT.zero (fin ys hy ?_)
      rw [hy.length, List.length_map]
      exact Nat.le_trans (List.length_filter_le _ _) (by omega)
    | succ j ih =>
      intro i ys hi hy
      refine CompRestT.succ ?_
      intro v I oI C oC D m₂ h tk E' hv hC hx F N off ne
      obtain ⟨k, t, hk, hv'⟩ := hP i v (by omega) hv
      rw [hv'] at hx
      have hs : ks.take (i + 1) = ks.take i ++ [k] := by rw [List.take_add_one, hk]; rfl
      refine wpAny_mono (turn k t I oI C oC D m₂ ys h tk E' (List.mem_of_getElem? hk) hC hx F N off ne) (fun b s₂ hq => ?_) fun _ _ e => e
      cases b with
      | true =>
        simp only [if_true] at hq ⊢
        refine wpAny_mono hq (fun y s₃ hr => ?_) fun _ _ e => e
        obtain ⟨hp, t', h', tk', rfl, rfl, F', N'⟩ := hr
        refine CompEnd.intro F' N' news (fun _ hp => hp) off hS (ih (i + 1) _ (by omega) ?_)
        rw [hs, List.filter_append, List.map_append, List.filter_cons_of_pos hp, List.filter_nil]
        exact IntsAre.append hy (.cons (g k) t' .nil)
      | false =>
        simp only [Bool.false_eq_true, if_false] at hq ⊢
        obtain ⟨hp, h', tk', rfl, F', N'⟩ := hq
        refine CompEnd.intro F' N' news (fun _ hp => hp) off hS (ih (i + 1) _ (by omega) ?_)
        rw [hs, List.filter_append, List.map_append, List.filter_cons_of_neg (by rw [hp]; exact Bool.false_ne_true), List.filter_nil]
        simpa using hy
  exact key n 0 [] (by omega) (by simp only [List.take_zero, List.filter_nil, List.map_nil]; exact .nil)
theorem restU {s : Shared} {S : List (Addr × Obj) → Prop} {P : Nat → Value → Prop} {Fin : List Value → List (Addr × Obj) → Prop} {n : Nat} {ks : List Int} (g : Int → Int) (hks : ks.length = n) (hS : S news) (hP : ∀ i v, i < n → P i v → ∃ k t, ks[i]? = some k ∧ v = .int k t)
    (turn : ∀ k t I oI C oC D m₂ ys h tk (E' : Value → Shared → Prop), k ∈ ks → NsObj oC m₂ → m₂ x = some (.int k t) → Fr h₀ L h m → News h₀ L h ((I, oI) :: (C, oC) :: (D, lst ys) :: news) → Off3 I C D news → ((@Ne Nat I C) ∧ (@Ne Nat I D) ∧ (@Ne Nat C D)) →
      wpAny (model prog w) A (eval elt (compEnvC scope cl C env)) (CEl h₀ L m { s with heap := h, toks := tk } ((I, oI) :: (C, oC) :: (D, lst ys) :: news) true (g k)) E' { s with heap := h, toks := tk })
    (fin : ∀ ys, IntsAre ys (ks.map g) → ys.length = n → Fin ys news) : CompRest prog w A h₀ L m env elt x scope cl s S P Fin n 0 [] news := by
  have key : ∀ (j i : Nat) (ys : List Value), i + j = n → IntsAre ys ((ks.take i).map g) → CompRest prog w A h₀ L m env elt x scope cl s S P Fin j i ys news := by
    intro j
    induction j with
    | zero =>
      intro i ys hi hy
      have e : i = ks.length := by omega
      subst e
      rw [List.take_length] at hy
      refine CompRest.zero (fin ys hy ?_)
      rw [hy.length, List.length_map]; omega
    | succ j ih =>
      intro i ys hi hy
      refine CompRest.succ ?_
      intro v I oI C oC D m₂ h tk E' hv hC hx F N off ne
      obtain ⟨k, t, hk, hv'⟩ := hP i v (by omega) hv
      rw [hv'] at hx
      have hs : ks.take (i + 1) = ks.take i ++ [k] := by rw [List.take_add_one, hk]; rfl
      refine wpAny_mono (turn k t I oI C oC D m₂ ys h tk E' (List.mem_of_getElem? hk) hC hx F N off ne) (fun y s₃ hr => ?_) fun _ _ e => e
      obtain ⟨-, t', h', tk', rfl, rfl, F', N'⟩ := hr
      refine CompEnd.intro F' N' news (fun _ hp => hp) off hS (ih (i + 1) _ (by omega) ?_)
      rw [hs, List.map_append]
      exact IntsAre.append hy (.cons (g k) t' .nil)
  exact key n 0 [] (by omega) (by simp only [List.take_zero, List.map_nil]; exact .nil)

theorem src_filter_list (p : List Int → Int → Bool) (g : Int → Int) {ax : Addr} {vs : List Value} {ns : List Int} {c : Nat} (hh : A.handled = none) (F : Fr h₀ L s₁.heap m) (N : News h₀ L s₁.heap news) (hm : (ax, listOf vs.toArray c) ∈ news) (hi : IntsAre vs ns) (hsz : ns.length ≤ 1000000)
    (turn : ∀ k t I oI C oC D m₂ ys h tk (E' : Value → Shared → Prop), k ∈ ns → NsObj oC m₂ → m₂ x = some (.int k t) → Fr h₀ L h m → News h₀ L h ((I, oI) :: (C, oC) :: (D, lst ys) :: news) → Off3 I C D news → ((@Ne Nat I C) ∧ (@Ne Nat I D) ∧ (@Ne Nat C D)) →
      wpAny (model prog w) A (isTrue ct (compEnvC scope cl C env) (eval ct (compEnvC scope cl C env))) (fun b s' => if b = true then wpAny (model prog w) A (eval elt (compEnvC scope cl C env)) (CEl h₀ L m { s₁ with heap := h, toks := tk } ((I, oI) :: (C, oC) :: (D, lst ys) :: news) (p ns k) (g k)) E' s'
        else CNo h₀ L m { s₁ with heap := h, toks := tk } ((I, oI) :: (C, oC) :: (D, lst ys) :: news) (p ns k) s') E' { s₁ with heap := h, toks := tk })
    (fin : ∀ g' ys, IntsAre ys ((ns.filter (p ns)).map g) → ys.length ≤ ns.length → Fin { s₁ with heap := g' } ys news) : CompSrcT prog w A h₀ L m env ct elt x scope cl Fin (.ref ax) s₁ :=
  CompSrcT.ledger hh F N hm (by rw [List.size_toArray, hi.length, PySem.sizeLine_eq]; omega) fun g' =>
    restT (ks := ns) (p ns) g (by rw [List.size_toArray]; exact hi.length.symm) (.inr ⟨_, hm, rfl, _, rfl⟩) (fun i v _ hv => by
      obtain ⟨k, t, e, hk⟩ := IntsAre.at hi i v (by simpa using hv)
      exact ⟨k, t, hk, e⟩) turn (fun ys hy hl => fin g' ys hy (by rw [List.size_toArray, hi.length] at hl; exact hl))
theorem src_map_list (g : Int → Int) {ax : Addr} {vs : List Value} {ns : List Int} {c : Nat} (hh : A.handled = none) (F : Fr h₀ L s₁.heap m) (N : News h₀ L s₁.heap news) (hm : (ax, listOf vs.toArray c) ∈ news) (hi : IntsAre vs ns) (hsz : ns.length ≤ 1000000)
    (turn : ∀ k t I oI C oC D m₂ ys h tk (E' : Value → Shared → Prop), k ∈ ns → NsObj oC m₂ → m₂ x = some (.int k t) → Fr h₀ L h m → News h₀ L h ((I, oI) :: (C, oC) :: (D, lst ys) :: news) → Off3 I C D news → ((@Ne Nat I C) ∧ (@Ne Nat I D) ∧ (@Ne Nat C D)) →
      wpAny (model prog w) A (eval elt (compEnvC scope cl C env)) (CEl h₀ L m { s₁ with heap := h, toks := tk } ((I, oI) :: (C, oC) :: (D, lst ys) :: news) true (g k)) E' { s₁ with heap := h, toks := tk })
    (fin : ∀ g' ys, IntsAre ys (ns.map g) → ys.length = ns.length → Fin { s₁ with heap := g' } ys news) : CompSrc prog w A h₀ L m env elt x scope cl Fin (.ref ax) s₁ :=
  CompSrc.ledger hh F N hm (by rw [List.size_toArray, hi.length, PySem.sizeLine_eq]; omega) fun g' =>
    restU (ks := ns) g (by rw [List.size_toArray]; exact hi.length.symm) (.inr ⟨_, hm, rfl, _, rfl⟩) (fun i v _ hv => by
      obtain ⟨k, t, e, hk⟩ := IntsAre.at hi i v (by simpa using hv)
      exact ⟨k, t, hk, e⟩) turn (fun ys hy hl => fin g' ys hy (by rw [List.size_toArray, hi.length] at hl; exact hl))
theorem src_filter_range (p : Int → Bool) (g : Int → Int) {r : Addr} {a b : Int} {t u v : Tok} (hh : A.handled = none) (F : Fr h₀ L s₁.heap m) (N : News h₀ L s₁.heap news) (hr : IsRange s₁.heap r a b 1 t u v) (ha : -1000 ≤ a) (ha' : a ≤ 1000) (hb : -1000 ≤ b) (hb' : b ≤ 1000)
    (turn : ∀ k t I oI C oC D m₂ ys h tk (E' : Value → Shared → Prop), a ≤ k → k < b → NsObj oC m₂ → m₂ x = some (.int k t) → Fr h₀ L h m → News h₀ L h ((I, oI) :: (C, oC) :: (D, lst ys) :: news) → Off3 I C D news → ((@Ne Nat I C) ∧ (@Ne Nat I D) ∧ (@Ne Nat C D)) →
      wpAny (model prog w) A (isTrue ct (compEnvC scope cl C env) (eval ct (compEnvC scope cl C env))) (fun b s' => if b = true then wpAny (model prog w) A (eval elt (compEnvC scope cl C env)) (CEl h₀ L m { s₁ with heap := h, toks := tk } ((I, oI) :: (C, oC) :: (D, lst ys) :: news) (p k) (g k)) E' s'
        else CNo h₀ L m { s₁ with heap := h, toks := tk } ((I, oI) :: (C, oC) :: (D, lst ys) :: news) (p k) s') E' { s₁ with heap := h, toks := tk })
    (fin : ∀ g' ys, IntsAre ys (((rangeKs a (b - a).toNat).filter p).map g) → ys.length ≤ (b - a).toNat → Fin { s₁ with heap := g' } ys news) : CompSrcT prog w A h₀ L m env ct elt x scope cl Fin (.ref r) s₁ :=
  CompSrcT.range hh F N hr (small_one (by omega) (by omega) (by omega) (by omega)) (rangeSize_nat a b) (by rw [PySem.sizeLine_eq]; omega) fun g' =>
    restT (ks := rangeKs a (b - a).toNat) p g (rangeKs_length _ _) trivial (fun i v hi hv => by
      obtain ⟨t, e⟩ := hv
      exact ⟨a + (i : Int), t, by simp [rangeKs, hi], e⟩)
      (fun k t I oI C oC D m₂ ys h tk E' hk => turn k t I oI C oC D m₂ ys h tk E' (mem_rangeKs hk).1 (by have := (mem_rangeKs hk); omega)) (fin g')
theorem src_prime {r : Addr} {a b : Int} {t u v : Tok} (hh : A.handled = none) (F : Fr h₀ L s₁.heap m) (N : News h₀ L s₁.heap news) (hr : IsRange s₁.heap r a b 1 t u v) (ha : -1000 ≤ a) (ha' : a ≤ 1000) (hb : -1000 ≤ b) (hb' : b ≤ 1000)
    (turn : ∀ k t I oI C oC D m₂ ys h tk (E' : Value → Shared → Prop), a ≤ k → k < b → NsObj oC m₂ → m₂ x = some (.int k t) → Fr h₀ L h m → News h₀ L h ((I, oI) :: (C, oC) :: (D, lst ys) :: news) → Off3 I C D news → ((@Ne Nat I C) ∧ (@Ne Nat I D) ∧ (@Ne Nat C D)) →
      wpAny (model prog w) A (isTrue ct (compEnvC scope cl C env) (eval ct (compEnvC scope cl C env))) (fun q s' => if q = true then wpAny (model prog w) A (eval elt (compEnvC scope cl C env)) (CEl h₀ L m { s₁ with heap := h, toks := tk } ((I, oI) :: (C, oC) :: (D, lst ys) :: news) (b.fmod k == 0) k) E' s'
        else CNo h₀ L m { s₁ with heap := h, toks := tk } ((I, oI) :: (C, oC) :: (D, lst ys) :: news) (b.fmod k == 0) s') E' { s₁ with heap := h, toks := tk })
    (fin : ∀ g' ys, IntsAre ys (((rangeKs a (b - a).toNat).filter (fun d => b.fmod d == 0)).map (fun d => d)) → ys.length ≤ (b - a).toNat → Fin { s₁ with heap := g' } ys news) : CompSrcT prog w A h₀ L m env ct elt x scope cl Fin (.ref r) s₁ :=
  src_filter_range (fun d => b.fmod d == 0) (fun d => d) hh F N hr ha ha' hb hb' turn fin
theorem src_map_range (g : Int → Int) {r : Addr} {a b : Int} {t u v : Tok} (hh : A.handled = none) (F : Fr h₀ L s₁.heap m) (N : News h₀ L s₁.heap news) (hr : IsRange s₁.heap r a b 1 t u v) (ha : -1000 ≤ a) (ha' : a ≤ 1000) (hb : -1000 ≤ b) (hb' : b ≤ 1000)
    (turn : ∀ k t I oI C oC D m₂ ys h tk (E' : Value → Shared → Prop), a ≤ k → k < b → NsObj oC m₂ → m₂ x = some (.int k t) → Fr h₀ L h m → News h₀ L h ((I, oI) :: (C, oC) :: (D, lst ys) :: news) → Off3 I C D news → ((@Ne Nat I C) ∧ (@Ne Nat I D) ∧ (@Ne Nat C D)) →
      wpAny (model prog w) A (eval elt (compEnvC scope cl C env)) (CEl h₀ L m { s₁ with heap := h, toks := tk } ((I, oI) :: (C, oC) :: (D, lst ys) :: news) true (g k)) E' { s₁ with heap := h, toks := tk })
    (fin : ∀ g' ys, IntsAre ys ((rangeKs a (b - a).toNat).map g) → ys.length = (b - a).toNat → Fin { s₁ with heap := g' } ys news) : CompSrc prog w A h₀ L m env elt x scope cl Fin (.ref r) s₁ :=
  CompSrc.range hh F N hr (small_one (by omega) (by omega) (by omega) (by omega)) (rangeSize_nat a b) (by rw [PySem.sizeLine_eq]; omega) fun g' =>
    restU (ks := rangeKs a (b - a).toNat) g (rangeKs_length _ _) trivial (fun i v hi hv => by
      obtain ⟨t, e⟩ := hv
      exact ⟨a + (i : Int), t, by simp [rangeKs, hi], e⟩)
      (fun k t I oI C oC D m₂ ys h tk E' hk => turn k t I oI C oC D m₂ ys h tk E' (mem_rangeKs hk).1 (by have := (mem_rangeKs hk); omega)) (fin g')
theorem len_le {us : List Value} {ns : List Int} (h : IntsAre us ns) (g : ns.length ≤ 1000000) : us.length ≤ 1000000 := by rw [h.length]; exact g
theorem len_led {news : List (Addr × Obj)} {l : Addr} {us : List Value} {ns : List Int} {c : Nat} {s : Shared} {Q : Value → Shared → Prop} (N : News h₀ L s.heap news) (hm : (l, listOf us.toArray c) ∈ news) (hi : IntsAre us ns) (hfit : us.length ≤ 1000000)
    (h : Q (.int (ns.length : Int) (s.toks + 1)) { s with toks := s.toks + 1 + 1 }) : wpAny (model prog w) A (call (.builtin "len") [.ref l]) Q E s :=
  kst_len N hm hi.length (by have := hi.length; omega) h
theorem rk_filter_len {n : Int} {p : Int → Bool} {g : Int → Int} (hn' : n ≤ 19) : (((rangeKs 1 (n - 1).toNat).filter p).map g).length ≤ 1000000 := by
  rw [List.length_map]
  have h := List.length_filter_le p (rangeKs 1 (n - 1).toNat)
  rw [rangeKs_length] at h
  omega
theorem off1_ne {D : Addr} : ∀ {l : List (Addr × Obj)}, Off1 D l → ∀ p ∈ l, p.1 ≠ D
  | [], _, _, h => nomatch h
  | _ :: _, x, p, h => by
    rcases List.mem_cons.mp h with rfl | h
    · exact x.1
    · exact off1_ne x.2 p h
theorem off3_ne {I C D : Addr} {l : List (Addr × Obj)} (x : Off3 I C D l) : (∀ p ∈ l, p.1 ≠ I) ∧ (∀ p ∈ l, p.1 ≠ C) ∧ (∀ p ∈ l, p.1 ≠ D) := ⟨fun p h => (x.mem p h).1, fun p h => (x.mem p h).2.1, fun p h => (x.mem p h).2.2⟩
end
end Mine
name_quick tw10393373362075817826 for PySem.W.S.findZ by PySem.W.S.findZ_eq
name_quick tw7249307268997179994 for PySem.W.S.findZ by PySem.W.S.findZ_eq
name_quick tw14376050681354390291 for PySem.W.S.findZ by PySem.W.S.findZ_eq
name_quick tw6907747680420023104 for PySem.W.S.findZ by PySem.W.S.findZ_eq
name_quick tw12299960069397203266 for PySem.W.S.findZ by PySem.W.S.findZ_eq
name_quick tw8075568018651887793 for PySem.W.S.findZ by PySem.W.S.findZ_eq
name_quick tw14979626087600564940 for PySem.W.S.findZ by PySem.W.S.findZ_eq
name_quick tw3969697427715858261 for PySem.W.S.findZ by PySem.W.S.findZ_eq
namespace Mine
set_option maxRecDepth 100000 in
set_option maxHeartbeats 8000000 in
open_top hd for PySem.Challenge.rw_sz0004_01
local macro_rules | `(tactic| k_all) => `(tactic| ((fail_if_success (refine List.forall_mem_cons.mpr ⟨?_, ?_⟩)); first
  | assumption
  | (rename LCg.Off1 _ _ => hz9; first | exact off1_ne hz9 | (clear hz9; k_all))
  | (rename And _ _ => hz9; obtain ⟨hz8, hz9⟩ := hz9; k_all)
  | (rename AllLt _ _ => hz9; first | exact ne_all hz9 (by omega) | (clear hz9; k_all))
  | (rename (∀ p : Addr × Obj, p ∈ _ → @LT.lt Nat _ p.1 _) => hz9; first | exact ne_below hz9 (by omega) | (clear hz9; k_all))))
local macro_rules | `(tactic| k_mem) => `(tactic| assumption)
local macro_rules | `(tactic| walk_at "ite") => `(tactic| (k_here; first | (refine ite_pos (by (simp only [bne_iff_ne, ne_eq, beq_iff_eq, decide_eq_true_eq]; omega)) ?_) | (refine ite_neg (by (simp only [bne_iff_ne, ne_eq, beq_iff_eq, decide_eq_true_eq]; omega)) ?_)))
local macro_rules | `(tactic| walk_at "LIPost") => `(tactic| (dsimp only [LIPost]))
local macro_rules | `(tactic| walk_at "LIEnd") => `(tactic| k_extra "mine LIEnd")
local macro_rules | `(tactic| walk_at "ite") => `(tactic| (k_here; k_extra "mine ite"))
local macro_rules | `(tactic| walk_at "exec While Compare cons nil") => `(tactic| k_extra "mine While")
local macro_rules | `(tactic| walk_at "exec While BoolOp cons nil") => `(tactic| k_extra "mine While")
section
local macro_rules | `(tactic| units_room) => `(tactic| ((simp only [units_under_make, units_in1, units_deeper, Around.mark_units, units_caller]); (try dsimp only [ktrTop]); omega))
local macro_rules | `(tactic| k_room) => `(tactic| ((simp only [depth_under_make, depth_under_kw, depth_in1, depth_deeper, depth_caller]); (try dsimp only [ktrTop]); omega))
set_option maxRecDepth 100000 in
set_option maxHeartbeats 8000000 in
theorem type_of {w : World} {loose : List Str} {mean : ExcName → Option Value} {mg mb : Str → Option Value} {dp un : Nat} {gd : Option (List Code)} {cn : Str} {cs : Scope} {a : Addr} {ccd : Value} {cl : List (Str × Addr)} {outer : List Env} {A₀ : Around} {base h₀ : Heap} {L : Addr} {m : Str → Option Value} {news : List (Addr × Obj)} {s : Shared} {Q E : Value → Shared → Prop}
    (B : Below A₀ base outer h₀) (F : Fr h₀ L s.heap m) (X : (Mine.hd.heap_39 w.params).In h₀) (N : News h₀ L s.heap news) (T : Top Mine.hd.view_39 loose mean mg mb h₀) (hk : cs.kind = .function) (hd : dp + 12 < recursionLimit) (hu : un + 196 < cLine)
    {n : Int} {ts tn : Tok} (hn : 2 ≤ n) (hn' : n ≤ 19)
    (ret : ∀ {t dx : Addr} {es : List DictEntry} {k : Nat} {tk1 tk2 : Tok} {h' : Heap} {tk' : Nat}, getL "kind" es = some (some (.str "mod" tk1)) → getL "modulus" es = some (some (.int n tk2)) → (∀ p : Addr × Obj, p ∈ news → @LT.lt Nat _ p.1 dx) → @LT.lt Nat _ dx t → Fr h₀ L h' m → News h₀ L h' ((t, instObj 259 dx) :: (dx, dictOf es k) :: news) → Q (.ref t) { s with heap := h', toks := tk' }) :
    wpAny (model PySem.Challenge.rw_sz0004_01.row.toRowW.prog w) (ktrTop dp un gd cn cs L a ccd cl outer) (call (.ref 270) [.str "ring" ts, .int n tn]) Q E s := by
  w_top off
  revert X; k_fill; intro X
  refine wpAny_call ?_
  k_dflt cell_enter
  k_with_none
  k_steps
  all_goals (refine' ret ?g1 ?g2 ?o1 ?o2 ?hF ?hN; (case hF => k_asm); (case hN => (rename News _ _ _ _ => lN'; refine' cb_drop lN' ?hS; refine' List.forall_mem_cons.mpr ⟨?a, ?b⟩; (case a => k_memK); refine' List.forall_mem_cons.mpr ⟨?c, ?d⟩; (case c => k_memK); (intro p9 h9; kst_mem))); (case g1 => k_get); (case g2 => k_get); (case o1 => assumption); (case o2 => omega))

local macro_rules | `(tactic| walk_at "getAttr ref") => `(tactic| (k_here; k_dflt (refine' get_own ?k1 ?k2 ?k3 ?k4 ?k5 ?k6 ?k7 ?k8 ?k9 ?_; (case k1 => k_asm); (case k2 => k_asm); (case k3 => k_inst); (case k4 => k_is); (case k5 => k_is); (case k6 => k_is); (case k7 => k_is); (case k8 => assumption); (case k9 => k_handed); k_whole)))
set_option maxRecDepth 100000 in
set_option maxHeartbeats 8000000 in
theorem by_mul {w : World} {loose : List Str} {mean : ExcName → Option Value} {mg mb : Str → Option Value} {dp un : Nat} {gd : Option (List Code)} {cn : Str} {cs : Scope} {a : Addr} {ccd : Value} {cl : List (Str × Addr)} {outer : List Env} {A₀ : Around} {base h₀ : Heap} {L : Addr} {m : Str → Option Value} {news : List (Addr × Obj)} {s : Shared} {Q E : Value → Shared → Prop}
    (B : Below A₀ base outer h₀) (F : Fr h₀ L s.heap m) (X : (Mine.hd.heap_39 w.params).In h₀) (N : News h₀ L s.heap news) (T : Top Mine.hd.view_39 loose mean mg mb h₀) (hk : cs.kind = .function) (hd : dp + 8 < recursionLimit) (hu : un + 164 < cLine)
    {t dx : Addr} {es : List DictEntry} {k : Nat} {n : Int} {tk1 tk2 : Tok} (hi : (t, instObj 259 dx) ∈ news) (hdt : (dx, dictOf es k) ∈ news) (hkind : getL "kind" es = some (some (.str "mod" tk1))) (hmod : getL "modulus" es = some (some (.int n tk2))) (hn : 2 ≤ n) (hn' : n ≤ 19) {x y : Int} {ts tx ty : Tok} (hx : 0 ≤ x) (hx' : x < n) (hy : 0 ≤ y) (hy' : y < n)
    (ret : ∀ (t : Tok) (h' : Heap) (tk' : Nat), 0 ≤ (x * y % n) → (x * y % n) < n → Fr h₀ L h' m → News h₀ L h' news → Q (.int (x * y % n) t) { s with heap := h', toks := tk' }) :
    wpAny (model PySem.Challenge.rw_sz0004_01.row.toRowW.prog w) (ktrTop dp un gd cn cs L a ccd cl outer) (call (.ref 284) [.ref t, .str "*" ts, .int x tx, .int y ty]) Q E s := by
  w_top off
  revert X; k_fill; intro X
  have ret : CbRet h₀ L m news s Q (fun t => .int (x * y % n) t) := fun t h' tk' F' N' => ret t h' tk' (Int.emod_nonneg _ (by omega)) (Int.emod_lt_of_pos _ (by omega)) F' N'
  dsimp only [CbRet] at ret
  refine wpAny_call ?_
  k_dflt cell_enter
  k_steps
  all_goals (refine' cb_retI (Q := Q) ret ?e1 ?e2 ?e3; (case e2 => with_reducible assumption); (case e3 => first | with_reducible assumption | (rename News _ _ _ _ => lN'; refine' cb_drop lN' ?cbS; (case cbS => (intro p9 h9; kst_mem)))); (case e1 => exact Int.fmod_eq_emod_of_nonneg _ (by omega)))

set_option maxRecDepth 100000 in
set_option maxHeartbeats 8000000 in
theorem by_add {w : World} {loose : List Str} {mean : ExcName → Option Value} {mg mb : Str → Option Value} {dp un : Nat} {gd : Option (List Code)} {cn : Str} {cs : Scope} {a : Addr} {ccd : Value} {cl : List (Str × Addr)} {outer : List Env} {A₀ : Around} {base h₀ : Heap} {L : Addr} {m : Str → Option Value} {news : List (Addr × Obj)} {s : Shared} {Q E : Value → Shared → Prop}
    (B : Below A₀ base outer h₀) (F : Fr h₀ L s.heap m) (X : (Mine.hd.heap_39 w.params).In h₀) (N : News h₀ L s.heap news) (T : Top Mine.hd.view_39 loose mean mg mb h₀) (hk : cs.kind = .function) (hd : dp + 8 < recursionLimit) (hu : un + 164 < cLine)
    {t dx : Addr} {es : List DictEntry} {k : Nat} {n : Int} {tk1 tk2 : Tok} (hi : (t, instObj 259 dx) ∈ news) (hdt : (dx, dictOf es k) ∈ news) (hkind : getL "kind" es = some (some (.str "mod" tk1))) (hmod : getL "modulus" es = some (some (.int n tk2))) (hn : 2 ≤ n) (hn' : n ≤ 19) {x y : Int} {ts tx ty : Tok} (hx : 0 ≤ x) (hx' : x < n) (hy : 0 ≤ y) (hy' : y < n)
    (ret : ∀ (t : Tok) (h' : Heap) (tk' : Nat), 0 ≤ ((x + y) % n) → ((x + y) % n) < n → Fr h₀ L h' m → News h₀ L h' news → Q (.int ((x + y) % n) t) { s with heap := h', toks := tk' }) :
    wpAny (model PySem.Challenge.rw_sz0004_01.row.toRowW.prog w) (ktrTop dp un gd cn cs L a ccd cl outer) (call (.ref 284) [.ref t, .str "+" ts, .int x tx, .int y ty]) Q E s := by
  w_top off
  revert X; k_fill; intro X
  have ret : CbRet h₀ L m news s Q (fun t => .int ((x + y) % n) t) := fun t h' tk' F' N' => ret t h' tk' (Int.emod_nonneg _ (by omega)) (Int.emod_lt_of_pos _ (by omega)) F' N'
  dsimp only [CbRet] at ret
  refine wpAny_call ?_
  k_dflt cell_enter
  k_steps
  all_goals (refine' cb_retI (Q := Q) ret ?e1 ?e2 ?e3; (case e2 => with_reducible assumption); (case e3 => first | with_reducible assumption | (rename News _ _ _ _ => lN'; refine' cb_drop lN' ?cbS; (case cbS => (intro p9 h9; kst_mem)))); (case e1 => exact Int.fmod_eq_emod_of_nonneg _ (by omega)))

set_option maxRecDepth 100000 in
set_option maxHeartbeats 8000000 in
theorem by_sub {w : World} {loose : List Str} {mean : ExcName → Option Value} {mg mb : Str → Option Value} {dp un : Nat} {gd : Option (List Code)} {cn : Str} {cs : Scope} {a : Addr} {ccd : Value} {cl : List (Str × Addr)} {outer : List Env} {A₀ : Around} {base h₀ : Heap} {L : Addr} {m : Str → Option Value} {news : List (Addr × Obj)} {s : Shared} {Q E : Value → Shared → Prop}
    (B : Below A₀ base outer h₀) (F : Fr h₀ L s.heap m) (X : (Mine.hd.heap_39 w.params).In h₀) (N : News h₀ L s.heap news) (T : Top Mine.hd.view_39 loose mean mg mb h₀) (hk : cs.kind = .function) (hd : dp + 8 < recursionLimit) (hu : un + 164 < cLine)
    {t dx : Addr} {es : List DictEntry} {k : Nat} {n : Int} {tk1 tk2 : Tok} (hi : (t, instObj 259 dx) ∈ news) (hdt : (dx, dictOf es k) ∈ news) (hkind : getL "kind" es = some (some (.str "mod" tk1))) (hmod : getL "modulus" es = some (some (.int n tk2))) (hn : 2 ≤ n) (hn' : n ≤ 19) {x y : Int} {ts tx ty : Tok} (hx : 0 ≤ x) (hx' : x < n) (hy : 0 ≤ y) (hy' : y < n)
    (ret : ∀ (t : Tok) (h' : Heap) (tk' : Nat), 0 ≤ ((x - y) % n) → ((x - y) % n) < n → Fr h₀ L h' m → News h₀ L h' news → Q (.int ((x - y) % n) t) { s with heap := h', toks := tk' }) :
    wpAny (model PySem.Challenge.rw_sz0004_01.row.toRowW.prog w) (ktrTop dp un gd cn cs L a ccd cl outer) (call (.ref 284) [.ref t, .str "-" ts, .int x tx, .int y ty]) Q E s := by
  w_top off
  revert X; k_fill; intro X
  have ret : CbRet h₀ L m news s Q (fun t => .int ((x - y) % n) t) := fun t h' tk' F' N' => ret t h' tk' (Int.emod_nonneg _ (by omega)) (Int.emod_lt_of_pos _ (by omega)) F' N'
  dsimp only [CbRet] at ret
  refine wpAny_call ?_
  k_dflt cell_enter
  k_steps
  all_goals (refine' cb_retI (Q := Q) ret ?e1 ?e2 ?e3; (case e2 => with_reducible assumption); (case e3 => first | with_reducible assumption | (rename News _ _ _ _ => lN'; refine' cb_drop lN' ?cbS; (case cbS => (intro p9 h9; kst_mem)))); (case e1 => exact Int.fmod_eq_emod_of_nonneg _ (by omega)))

set_option maxRecDepth 100000 in
set_option maxHeartbeats 8000000 in
theorem by_pow {w : World} {loose : List Str} {mean : ExcName → Option Value} {mg mb : Str → Option Value} {dp un : Nat} {gd : Option (List Code)} {cn : Str} {cs : Scope} {a : Addr} {ccd : Value} {cl : List (Str × Addr)} {outer : List Env} {A₀ : Around} {base h₀ : Heap} {L : Addr} {m : Str → Option Value} {news : List (Addr × Obj)} {s : Shared} {Q E : Value → Shared → Prop}
    (B : Below A₀ base outer h₀) (F : Fr h₀ L s.heap m) (X : (Mine.hd.heap_39 w.params).In h₀) (N : News h₀ L s.heap news) (T : Top Mine.hd.view_39 loose mean mg mb h₀) (hk : cs.kind = .function) (hd : dp + 8 < recursionLimit) (hu : un + 164 < cLine)
    {t dx : Addr} {es : List DictEntry} {k : Nat} {n : Int} {tk1 tk2 : Tok} (hi : (t, instObj 259 dx) ∈ news) (hdt : (dx, dictOf es k) ∈ news) (hkind : getL "kind" es = some (some (.str "mod" tk1))) (hmod : getL "modulus" es = some (some (.int n tk2))) (hn : 2 ≤ n) (hn' : n ≤ 19) {x y : Int} {ts tx ty : Tok} (hx : 0 ≤ x) (hx' : x < n) (hy : 0 ≤ y) (hy' : y < 1000)
    (ret : ∀ (t : Tok) (h' : Heap) (tk' : Nat), 0 ≤ (x ^ y.toNat % n) → (x ^ y.toNat % n) < n → Fr h₀ L h' m → News h₀ L h' news → Q (.int (x ^ y.toNat % n) t) { s with heap := h', toks := tk' }) :
    wpAny (model PySem.Challenge.rw_sz0004_01.row.toRowW.prog w) (ktrTop dp un gd cn cs L a ccd cl outer) (call (.ref 284) [.ref t, .str "**" ts, .int x tx, .int y ty]) Q E s := by
  w_top off
  revert X; k_fill; intro X
  have ret : CbRet h₀ L m news s Q (fun t => .int (x ^ y.toNat % n) t) := fun t h' tk' F' N' => ret t h' tk' (Int.emod_nonneg _ (by omega)) (Int.emod_lt_of_pos _ (by omega)) F' N'
  have hst := powOk_start hn hx hx' hy
  generalize hK : x ^ y.toNat % n = K at hst ret
  dsimp only [CbRet] at ret
  refine wpAny_call ?_
  k_dflt cell_enter
  k_with_none
  k_with "mine While" => (
    (rename Fr _ _ _ _ => lF'); (rename News _ _ _ _ => lN');
    (with_unfolding_all refine' ksw_while (σ := Int × Tok × Int × Tok × Int × Tok) (fun _ => _) (fun c => [(Str.ofString "result", .int c.1 c.2.1), (Str.ofString "x", .int c.2.2.1 c.2.2.2.1), (Str.ofString "n", .int c.2.2.2.2.1 c.2.2.2.2.2)]) (fun _ => True) [] (fun c => PowOk n K c.1 c.2.2.1 c.2.2.2.2.1) (fun c => c.2.2.2.2.1.toNat) (_, _, _, _, _, _) lF' lN' trivial ?kk ?kp ?_);
    (case kk => kst_all); (case kp => exact hst); clear lF' lN'; rintro ⟨r9, t1, x9, t2, e9, t3⟩ u9 h9 tk9 - hP9 F9 N9; dsimp only [kstB] at F9; dsimp only at hP9; k_fold; obtain ⟨b1, b2, b3, b4, b5⟩ := powOk_b hP9)
  k_with "state" => (simp only [beq_iff_eq, beq_eq_false_iff_ne, decide_eq_true_eq] at *; first | exact powOk_odd (by assumption) (by assumption) (by assumption) | exact powOk_even (by assumption) (by assumption) (by assumption))
  k_with "measure" => ((try simp only [decide_eq_true_eq] at *); rw [Int.fdiv_eq_ediv_of_nonneg _ (by omega)]; omega)
  k_steps
  all_goals (refine' cb_retI (Q := Q) ret ?e1 ?e2 ?e3; (case e2 => with_reducible assumption); (case e3 => first | with_reducible assumption | (rename News _ _ _ _ => lN'; refine' cb_drop lN' ?cbS; (case cbS => (intro p9 h9; kst_mem)))); (case e1 => ((try simp only [decide_eq_false_iff_not] at *); exact powOk_end hP9 (by assumption))))

local macro_rules | `(tactic| walk_at "call ref") => `(tactic| (k_here; (with_reducible show wpAny _ _ (call (Value.ref 284) [Value.ref _, Value.str (Str.ofString "*") _, Value.int _ _, Value.int _ _]) _ _ _); k_dflt (refine' by_mul ?k1 ?k2 ?k3 ?k4 ?k5 ?kK ?kd ?ku ?t1 ?t2 ?t3 ?t4 ?n1 ?n2 ?x1 ?x2 ?x3 ?x4 ?_; (case k1 => k_asm); (case k2 => k_asm); (case k3 => k_asm); (case k4 => k_asm); (case k5 => k_asm); (case kK => first | exact rfl | assumption); (case kd => k_room); (case ku => units_room); (case t1 => k_mem); (case t2 => k_mem); (case t3 => first | assumption | k_get); (case t4 => first | assumption | k_get); (case n1 => omega); (case n2 => omega); (case x1 => omega); (case x2 => omega); (case x3 => omega); (case x4 => omega); intro t9 h9 tk9 b9 c9 F9 N9; (try dsimp only); (try k_fold))))
local macro_rules | `(tactic| walk_at "call ref") => `(tactic| (k_here; (with_reducible show wpAny _ _ (call (Value.ref 284) [Value.ref _, Value.str (Str.ofString "+") _, Value.int _ _, Value.int _ _]) _ _ _); k_dflt (refine' by_add ?k1 ?k2 ?k3 ?k4 ?k5 ?kK ?kd ?ku ?t1 ?t2 ?t3 ?t4 ?n1 ?n2 ?x1 ?x2 ?x3 ?x4 ?_; (case k1 => k_asm); (case k2 => k_asm); (case k3 => k_asm); (case k4 => k_asm); (case k5 => k_asm); (case kK => first | exact rfl | assumption); (case kd => k_room); (case ku => units_room); (case t1 => k_mem); (case t2 => k_mem); (case t3 => first | assumption | k_get); (case t4 => first | assumption | k_get); (case n1 => omega); (case n2 => omega); (case x1 => omega); (case x2 => omega); (case x3 => omega); (case x4 => omega); intro t9 h9 tk9 b9 c9 F9 N9; (try dsimp only); (try k_fold))))
local macro_rules | `(tactic| walk_at "call ref") => `(tactic| (k_here; (with_reducible show wpAny _ _ (call (Value.ref 284) [Value.ref _, Value.str (Str.ofString "**") _, Value.int _ _, Value.int _ _]) _ _ _); k_dflt (refine' by_pow ?k1 ?k2 ?k3 ?k4 ?k5 ?kK ?kd ?ku ?t1 ?t2 ?t3 ?t4 ?n1 ?n2 ?x1 ?x2 ?x3 ?x4 ?_; (case k1 => k_asm); (case k2 => k_asm); (case k3 => k_asm); (case k4 => k_asm); (case k5 => k_asm); (case kK => first | exact rfl | assumption); (case kd => k_room); (case ku => units_room); (case t1 => k_mem); (case t2 => k_mem); (case t3 => first | assumption | k_get); (case t4 => first | assumption | k_get); (case n1 => omega); (case n2 => omega); (case x1 => omega); (case x2 => omega); (case x3 => omega); (case x4 => omega); intro t9 h9 tk9 b9 c9 F9 N9; (try dsimp only); (try k_fold))))
set_option maxRecDepth 100000 in
set_option maxHeartbeats 8000000 in
theorem all_mul {w : World} {loose : List Str} {mean : ExcName → Option Value} {mg mb : Str → Option Value} {dp un : Nat} {gd : Option (List Code)} {cn : Str} {cs : Scope} {a : Addr} {ccd : Value} {cl : List (Str × Addr)} {outer : List Env} {A₀ : Around} {base h₀ : Heap} {L : Addr} {m : Str → Option Value} {news : List (Addr × Obj)} {s : Shared} {Q E : Value → Shared → Prop}
    (B : Below A₀ base outer h₀) (F : Fr h₀ L s.heap m) (X : (Mine.hd.heap_39 w.params).In h₀) (N : News h₀ L s.heap news) (T : Top Mine.hd.view_39 loose mean mg mb h₀) (hk : cs.kind = .function) (hd : dp + 16 < recursionLimit) (hu : un + 228 < cLine)
    {t dx : Addr} {es : List DictEntry} {k : Nat} {n : Int} {tk1 tk2 : Tok} (hi : (t, instObj 259 dx) ∈ news) (hdt : (dx, dictOf es k) ∈ news) (hkind : getL "kind" es = some (some (.str "mod" tk1))) (hmod : getL "modulus" es = some (some (.int n tk2))) (hn : 2 ≤ n) (hn' : n ≤ 19) {ts tx : Tok}
    (ret : CbRet h₀ L m news s Q (fun t => .int ((rangeKs 1 (n - 1).toNat).foldl (fun a v => a * v % n) 1) t)) :
    wpAny (model PySem.Challenge.rw_sz0004_01.row.toRowW.prog w) (ktrTop dp un gd cn cs L a ccd cl outer) (call (.ref 291) [.ref t, .str "*" ts, .int 1 tx]) Q E s := by
  w_top off
  revert X; k_fill; intro X
  dsimp only [CbRet] at ret
  refine wpAny_call ?_
  k_dflt cell_enter
  k_with_none
  k_with "pyIter ref" => k_state (fun pre b => b = pre.foldl (fun a v => a * v % n) 1 ∧ 0 ≤ b ∧ b < n) "begun"
  k_steps
  all_goals (refine' cb_retI (Q := Q) ret ?e1 ?e2 ?e3; (case e2 => with_reducible assumption); (case e3 => first | with_reducible assumption | (rename News _ _ _ _ => lN'; refine' cb_drop lN' ?cbS; (case cbS => (intro p9 h9; kst_mem)))); (case e1 => assumption))

set_option maxRecDepth 100000 in
set_option maxHeartbeats 8000000 in
theorem all_add {w : World} {loose : List Str} {mean : ExcName → Option Value} {mg mb : Str → Option Value} {dp un : Nat} {gd : Option (List Code)} {cn : Str} {cs : Scope} {a : Addr} {ccd : Value} {cl : List (Str × Addr)} {outer : List Env} {A₀ : Around} {base h₀ : Heap} {L : Addr} {m : Str → Option Value} {news : List (Addr × Obj)} {s : Shared} {Q E : Value → Shared → Prop}
    (B : Below A₀ base outer h₀) (F : Fr h₀ L s.heap m) (X : (Mine.hd.heap_39 w.params).In h₀) (N : News h₀ L s.heap news) (T : Top Mine.hd.view_39 loose mean mg mb h₀) (hk : cs.kind = .function) (hd : dp + 16 < recursionLimit) (hu : un + 228 < cLine)
    {t dx : Addr} {es : List DictEntry} {k : Nat} {n : Int} {tk1 tk2 : Tok} (hi : (t, instObj 259 dx) ∈ news) (hdt : (dx, dictOf es k) ∈ news) (hkind : getL "kind" es = some (some (.str "mod" tk1))) (hmod : getL "modulus" es = some (some (.int n tk2))) (hn : 2 ≤ n) (hn' : n ≤ 19) {ts tx : Tok}
    (ret : CbRet h₀ L m news s Q (fun t => .int ((rangeKs 1 (n - 1).toNat).foldl (fun a v => (a + v) % n) 0) t)) :
    wpAny (model PySem.Challenge.rw_sz0004_01.row.toRowW.prog w) (ktrTop dp un gd cn cs L a ccd cl outer) (call (.ref 291) [.ref t, .str "+" ts, .int 0 tx]) Q E s := by
  w_top off
  revert X; k_fill; intro X
  dsimp only [CbRet] at ret
  refine wpAny_call ?_
  k_dflt cell_enter
  k_with_none
  k_with "pyIter ref" => k_state (fun pre b => b = pre.foldl (fun a v => (a + v) % n) 0 ∧ 0 ≤ b ∧ b < n) "begun"
  k_steps
  all_goals (refine' cb_retI (Q := Q) ret ?e1 ?e2 ?e3; (case e2 => with_reducible assumption); (case e3 => first | with_reducible assumption | (rename News _ _ _ _ => lN'; refine' cb_drop lN' ?cbS; (case cbS => (intro p9 h9; kst_mem)))); (case e1 => assumption))

set_option maxRecDepth 100000 in
set_option maxHeartbeats 8000000 in
theorem powers_of {w : World} {loose : List Str} {mean : ExcName → Option Value} {mg mb : Str → Option Value} {dp un : Nat} {gd : Option (List Code)} {cn : Str} {cs : Scope} {a : Addr} {ccd : Value} {cl : List (Str × Addr)} {outer : List Env} {A₀ : Around} {base h₀ : Heap} {L : Addr} {m : Str → Option Value} {news : List (Addr × Obj)} {s : Shared} {Q E : Value → Shared → Prop}
    (B : Below A₀ base outer h₀) (F : Fr h₀ L s.heap m) (X : (Mine.hd.heap_39 w.params).In h₀) (N : News h₀ L s.heap news) (T : Top Mine.hd.view_39 loose mean mg mb h₀) (hk : cs.kind = .function) (hd : dp + 16 < recursionLimit) (hu : un + 228 < cLine)
    {t dx : Addr} {es : List DictEntry} {k : Nat} {n : Int} {tk1 tk2 : Tok} (hi : (t, instObj 259 dx) ∈ news) (hdt : (dx, dictOf es k) ∈ news) (hkind : getL "kind" es = some (some (.str "mod" tk1))) (hmod : getL "modulus" es = some (some (.int n tk2))) (hn : 2 ≤ n) (hn' : n ≤ 19) {x : Int} {tx : Tok} (hx : 0 ≤ x) (hx' : x < n)
    (ret : ∀ (ns : List Int) (l : Addr) (vs : List Value) (c : Nat) (h' : Heap) (tk' : Nat), PowsOk n x ns → IntsAre vs ns → (∀ p ∈ news, p.1 < l) → Fr h₀ L h' m → News h₀ L h' ((l, listOf vs.toArray c) :: news) → Q (.ref l) { s with heap := h', toks := tk' }) :
    wpAny (model PySem.Challenge.rw_sz0004_01.row.toRowW.prog w) (ktrTop dp un gd cn cs L a ccd cl outer) (call (.ref 298) [.ref t, .int x tx]) Q E s := by
  w_top off
  revert X; k_fill; intro X
  refine wpAny_call ?_
  k_dflt cell_enter
  k_with_none
  k_with "mine While" => (
    (rename Fr _ _ _ _ => lF'); (rename News _ _ _ _ => lN');
    (with_unfolding_all refine' while_LI (Str.ofString "found") (Str.ofString "due") (PowsOn n x) (fun found _ => (n - found.length).toNat) lF' (fun p hp => lN' p (List.mem_cons_of_mem _ hp)) ?kI ?k1 ?k2 ?kp ?_);
    (case kI => exact .cons _ _ .nil); (case k1 => with_unfolding_all rfl); (case k2 => with_unfolding_all rfl); (case kp => exact powsOn_start hn hx hx'); clear lF' lN'; intro vs9 ns9 c9 i9 ti9 h9 tk9 hI9 hP9 F9 N9 hM9; k_fold; obtain ⟨b1, b2, b3, b4, b5, b6⟩ := powsOn_b hP9 hn)
  k_with "mine LIEnd" => (
    (rename News _ _ _ _ => lN'); (simp only [List.push_toArray] at lN');
    (with_unfolding_all refine' li_end ?kF lN' ?k1 ?k2 ?k3 ?k4 ?k5 ?k6 ?k7 ?k8);
    (case kF => assumption); (case k1 => exact List.Mem.head _); (case k2 => exact fun p hp => List.mem_cons_of_mem _ hp); (case k3 => exact IntsAre.append (by assumption) (.cons _ _ .nil)); (case k4 => with_unfolding_all rfl); (case k5 => with_unfolding_all rfl); (case k6 => intro z z1 z2; simp [z1, z2]);
    (case k7 => exact powsOn_turn hP9 (by assumption) (by omega) (by rw [b6]) (by rw [Int.fmod_eq_emod_of_nonneg _ (by omega)]) hn); (case k8 => (simp only [List.length_append, List.length_cons, List.length_nil]; omega)))
  k_steps
  all_goals (refine ret _ _ _ _ _ _ (powsOn_end hP9 (by omega)) hI9 ?_ (by k_asm) (by k_asm); assumption)

local macro_rules | `(tactic| walk_at "call builtin:len") => `(tactic| (k_here; (with_reducible show wpAny _ _ (call (Value.builtin "len") [Value.ref _]) _ _ _); k_dflt (refine' len_led ?k1 ?k2 ?k3 ?k4 ?_; (case k1 => k_asm); (case k2 => k_mem); (case k3 => assumption); (case k4 => first | omega | (refine' len_le ?h1 ?h2; (case h1 => assumption); (case h2 => omega))); k_whole)))
local macro_rules | `(tactic| walk_at "eval ListComp") => `(tactic| (k_here; (with_reducible show wpAny _ _ (eval (Expr.ListComp _ [⟨_, _, [], _⟩] _ _) _) _ _ _); k_dflt (refine LCg.ListComp_U (F₀ := by k_asm) (by with_unfolding_all rfl) (by decide) (by rfl) (by decide) (by rfl) ?_); k_dflt lcg_toSrc))
local macro_rules | `(tactic| walk_at "eval ListComp") => `(tactic| (k_here; lct_look; k_dflt (refine LCt.ListComp_T (F₀ := by k_asm) (by with_unfolding_all rfl) (by decide) (by rfl) (by decide) (by rfl) ?_); k_dflt lct_toSrc))
local macro_rules | `(tactic| walk_at "exec Assign cons ListComp") => `(tactic| (k_here; (with_reducible show wpAny _ _ (exec (Stmt.Assign _ (Expr.ListComp _ [⟨_, _, [], _⟩] _ _) _) _) _ _ _); k_dflt (refine LCg.Assign_ListComp_U (F₀ := by k_asm) (by rfl) (by with_unfolding_all rfl) (by with_unfolding_all rfl) (by decide) (by rfl) (by decide) (by rfl) (by rfl) (by rfl) ?_); k_dflt lcg_toSrc))
local macro_rules | `(tactic| walk_at "exec Assign cons ListComp") => `(tactic| (k_here; lct_look; k_dflt (refine LCt.Assign_ListComp_T (F₀ := by k_asm) (by rfl) (by with_unfolding_all rfl) (by with_unfolding_all rfl) (by decide) (by rfl) (by decide) (by rfl) (by rfl) (by rfl) ?_); k_dflt lct_toSrc))
local macro_rules | `(tactic| walk_at "CompSrcT") => `(tactic| (k_here; k_extra "mine CompSrcT"))
local macro_rules | `(tactic| walk_at "CompSrc") => `(tactic| (k_here; k_extra "mine CompSrc"))
local macro_rules | `(tactic| walk_at "CEl") => `(tactic| (k_dflt (refine' cel ?a ?b ?c ?d; (case c => k_asm); (case d => k_asm); (case b => first | rfl | assumption | k_extra "mine cel"); (case a => first | rfl | assumption | ((simp only [bne_iff_ne, ne_eq, beq_iff_eq, decide_eq_true_eq]); first | assumption | omega) | k_extra "mine cel"))))
local macro_rules | `(tactic| walk_at "CNo") => `(tactic| (k_dflt (refine' cno ?a ?c ?d; (case c => k_asm); (case d => k_asm); (case a => first | rfl | assumption | ((simp only [bne_eq_false_iff_eq, beq_eq_false_iff_ne, ne_eq, decide_eq_false_iff_not]); first | assumption | omega) | k_extra "mine cel"))))
local macro_rules | `(tactic| walk_at "call ref") => `(tactic| (k_here; (with_reducible show wpAny _ _ (call (Value.ref 298) [Value.ref _, Value.int _ _]) _ _ _); k_dflt (refine' powers_of ?k1 ?k2 ?k3 ?k4 ?k5 ?kK ?kd ?ku ?t1 ?t2 ?t3 ?t4 ?n1 ?n2 ?x1 ?x2 ?_; (case k1 => k_asm); (case k2 => k_asm); (case k3 => k_asm); (case k4 => k_asm); (case k5 => k_asm); (case kK => first | exact rfl | assumption); (case kd => k_room); (case ku => units_room); (case t1 => k_mem); (case t2 => k_mem); (case t3 => first | assumption | k_get); (case t4 => first | assumption | k_get); (case n1 => omega); (case n2 => omega); (case x1 => omega); (case x2 => omega); intro ns9 l9 vs9 c9 h9 tk9 hP9 hI9 hlt9 F9 N9; (try k_lt hlt9); (try k_extra "mine powers"); (try dsimp only); (try k_fold))))
set_option maxRecDepth 100000 in
set_option maxHeartbeats 8000000 in
theorem field_of {w : World} {loose : List Str} {mean : ExcName → Option Value} {mg mb : Str → Option Value} {dp un : Nat} {gd : Option (List Code)} {cn : Str} {cs : Scope} {a : Addr} {ccd : Value} {cl : List (Str × Addr)} {outer : List Env} {A₀ : Around} {base h₀ : Heap} {L : Addr} {m : Str → Option Value} {news : List (Addr × Obj)} {s : Shared} {Q E : Value → Shared → Prop}
    (B : Below A₀ base outer h₀) (F : Fr h₀ L s.heap m) (X : (Mine.hd.heap_39 w.params).In h₀) (N : News h₀ L s.heap news) (T : Top Mine.hd.view_39 loose mean mg mb h₀) (hk : cs.kind = .function) (hd : dp + 24 < recursionLimit) (hu : un + 292 < cLine)
    {t dx : Addr} {es : List DictEntry} {k : Nat} {n : Int} {tk1 tk2 : Tok} (hi : (t, instObj 259 dx) ∈ news) (hdt : (dx, dictOf es k) ∈ news) (hkind : getL "kind" es = some (some (.str "mod" tk1))) (hmod : getL "modulus" es = some (some (.int n tk2))) (hn : 2 ≤ n) (hn' : n ≤ 19) {x y : Int} {tx ty : Tok} (hx : 1 ≤ x) (hx' : x < n) (hy : 1 ≤ y) (hy' : y < n) (hp : Prime1 n)
    (ret : CbRet h₀ L m news s Q (fun t => .bool true)) :
    wpAny (model PySem.Challenge.rw_sz0004_01.row.toRowW.prog w) (ktrTop dp un gd cn cs L a ccd cl outer) (call (.ref 303) [.ref t, .int x tx, .int y ty]) Q E s := by
  w_top off
  revert X; k_fill; intro X
  dsimp only [CbRet] at ret
  refine wpAny_call ?_
  k_dflt (refine' code_defC ?k1 ?k2 ?k3 ?k4 ?k5 ?kA ?kF ?kK ?k6 ?k7 ?k8 ?k9 ?kB ?kD ?_ ?c2 ?c3 ?c4; (case kA => exact rfl); (case kF => exact rfl); (case kK => assumption); (case k1 => k_asm); (case k2 => k_asm); (case k3 => k_asm); (case k4 => k_asm); (case k5 => k_asm); (case k6 => k_is); (case k7 => k_is); (case k8 => k_room); (case k9 => exact BindsTo.of_eq rfl); (case kB => exact rfl); (case kD => decide +kernel); (case c2 => exact rfl); (case c3 => exact rfl); (case c4 => exact rfl); k_whole; intro g' L' h' tk' cells' FG' F' N' Y' B' X' T' l1; k_cells Y'; (try simp only [List.cons_append, List.nil_append] at N'); (try dsimp only); (try k_lift B'); (try k_fold))
  have hx0 := mem_upTo hx hx'
  have hy0 := mem_upTo hy hy'
  obtain ⟨f1, f2, f3⟩ := field_one n hp x hx0
  obtain ⟨-, -, f4⟩ := field_one n hp y hy0
  have fd : 0 ≤ (n - 1).fdiv 2 ∧ (n - 1).fdiv 2 < 1000 := by rw [Int.fdiv_eq_ediv_of_nonneg _ (by omega)]; omega
  obtain ⟨fd1, fd2⟩ := fd
  have g1 : n - 1 = 1 → (rangeKs 1 (n - 1).toNat).map (fun v => v * v % n) = [1] := field_n2 n hp
  have g2 := fun h : n - 1 ≠ 1 => (field_sq n hp).resolve_left h x hx0
  have g3 := fun h : n - 1 ≠ 1 => (field_hv n hp).resolve_left h
  have f5 := field_two n hp x hx0 y hy0
  k_with_none
  k_with "mine powers" => obtain ⟨e1, e2, e3, e4, e5, e6⟩ := pows_facts hp hx hx' (by assumption)
  k_with "mine ite" => (first | (refine ite_neg (by simp only [decide_eq_true_eq]; exact e1) ?_) | (refine ite_neg (by rw [e6]; decide) ?_))
  k_with "mine CompSrcT" => (first
    | (refine' src_filter_list (x := Str.ofString "one") (fun ns one => (ns.count one : Int) != 1) (fun one => one) (by with_unfolding_all rfl) ?F ?N ?m ?i ?z (fun k9 t9 I9 o9 C9 p9 D9 m9 ys9 h9 tk9 E9 hk9 hC9 hx9 F9 N9 off9 ne9 => ?_) (fun g9 ys9 hI9 hl9 => ?_); (case F => k_asm); (case N => k_asm); (case m => k_mem); (case i => assumption); (case z => omega); (try simp only [LCg.Off3, and_true] at off9); (try k_fold))
    | (refine' src_filter_range (x := Str.ofString "value") (fun v => v ^ ((n - 1).fdiv 2).toNat % n == 1) (fun v => v) (by with_unfolding_all rfl) ?F ?N ?m ?a ?b ?c ?d (fun k9 t9 I9 o9 C9 p9 D9 m9 ys9 h9 tk9 E9 lo9 hi9 hC9 hx9 F9 N9 off9 ne9 => ?_) (fun g9 ys9 hI9 hl9 => ?_); (case F => k_asm); (case N => k_asm); (case m => assumption); (case a => omega); (case b => omega); (case c => omega); (case d => omega); (try simp only [LCg.Off3, and_true] at off9); (try k_fold))
    | (refine' src_filter_list (x := Str.ofString "value") (fun _ v => (((rangeKs 1 (n - 1).toNat).map (fun v => v * v % n)).count v : Int) != 2) (fun v => v) (by with_unfolding_all rfl) ?F ?N ?m ?i ?z (fun k9 t9 I9 o9 C9 p9 D9 m9 ys9 h9 tk9 E9 hk9 hC9 hx9 F9 N9 off9 ne9 => ?_) (fun g9 ys9 hI9 hl9 => ?_); (case F => k_asm); (case N => k_asm); (case m => k_mem); (case i => assumption); (case z => exact rk_filter_len hn'); (try simp only [LCg.Off3, and_true] at off9); (try k_fold)))
  k_with "mine CompSrc" => (refine' src_map_range (x := Str.ofString "value") (fun v => v * v % n) (by with_unfolding_all rfl) ?F ?N ?m ?a ?b ?c ?d (fun k9 t9 I9 o9 C9 p9 D9 m9 ys9 h9 tk9 E9 lo9 hi9 hC9 hx9 F9 N9 off9 ne9 => ?_) (fun g9 ys9 hI9 hl9 => ?_); (case F => k_asm); (case N => k_asm); (case m => assumption); (case a => omega); (case b => omega); (case c => omega); (case d => omega); (try simp only [LCg.Off3, and_true] at off9); (try k_fold))
  k_steps
  all_goals (refine' cb_retB (Q := Q) ret ?e1 ?e2 ?e3; (case e2 => with_reducible assumption); (case e3 => first | with_reducible assumption | (rename News _ _ _ _ => lN'; refine' cb_drop lN' ?cbS; (case cbS => (intro p9 h9; kst_mem)))); (case e1 => first
    | exact decide_eq_true (g1 (by assumption))
    | exact decide_eq_true (g3 (by assumption)).2
    | exact beq_iff_eq.mpr (g3 (by assumption)).1
    | exact (sq_no (g2 (by assumption)) (by assumption) (by assumption)).elim
    | exact (sq_no' (g2 (by assumption)) (by assumption) (by assumption)).elim))

set_option maxRecDepth 100000 in
set_option maxHeartbeats 8000000 in
theorem melt_of {w : World} {loose : List Str} {mean : ExcName → Option Value} {mg mb : Str → Option Value} {dp un : Nat} {gd : Option (List Code)} {cn : Str} {cs : Scope} {a : Addr} {ccd : Value} {cl : List (Str × Addr)} {outer : List Env} {A₀ : Around} {base h₀ : Heap} {L : Addr} {m : Str → Option Value} {news : List (Addr × Obj)} {s : Shared} {Q E : Value → Shared → Prop}
    (B : Below A₀ base outer h₀) (F : Fr h₀ L s.heap m) (X : (Mine.hd.heap_39 w.params).In h₀) (T : Top Mine.hd.view_39 loose mean mg mb h₀) (hk : cs.kind = .function) (hd : dp + 8 < recursionLimit) (hu : un + 164 < cLine)
    {pan l : Addr} {vs : List Value} {ns : List Int} {k many : Int} {tk1 tm : Tok} {c1 c2 : Nat} (N : News h₀ L s.heap ((pan, listOf [Value.ref l, Value.int k tk1].toArray c1) :: (l, listOf vs.toArray c2) :: news)) (hI : IntsAre vs ns) (hlen : ns.length ≤ 100) (hk0 : 0 ≤ k) (hk1 : k ≤ 100) (hm : 1 ≤ many) (hm1 : many ≤ 100) (hpl : @Ne Nat l pan) (hoff : ∀ p : Addr × Obj, p ∈ news → @Ne Nat p.1 pan)
    (ret : ∀ (v : Int) (t t1 : Tok) (c : Nat) (h' : Heap) (tk' : Nat), 0 ≤ v → v < many → Fr h₀ L h' m → News h₀ L h' ((pan, listOf [Value.ref l, Value.int (k + 1) t1].toArray c) :: (l, listOf vs.toArray c2) :: news) → Q (.int v t) { s with heap := h', toks := tk' }) :
    wpAny (model PySem.Challenge.rw_sz0004_01.row.toRowW.prog w) (ktrTop dp un gd cn cs L a ccd cl outer) (call (.ref 277) [.ref pan, .int many tm]) Q E s := by
  w_top off
  revert X; k_fill; intro X
  refine wpAny_call ?_
  k_dflt cell_enter
  k_with_none
  k_steps
  all_goals exact ret _ _ _ _ _ _ (Int.fmod_nonneg_of_pos _ (by omega)) (Int.fmod_lt_of_pos _ (by omega)) (by k_asm) (by k_asm)

end
local macro_rules | `(tactic| walk_at "call builtin:len") => `(tactic| (k_here; (with_reducible show wpAny _ _ (call (Value.builtin "len") [Value.ref _]) _ _ _); k_dflt (refine' len_led ?k1 ?k2 ?k3 ?k4 ?_; (case k1 => k_asm); (case k2 => k_mem); (case k3 => assumption); (case k4 => first | omega | (refine' len_le ?h1 ?h2; (case h1 => assumption); (case h2 => omega))); k_whole)))
local macro_rules | `(tactic| walk_at "eval ListComp") => `(tactic| (k_here; (with_reducible show wpAny _ _ (eval (Expr.ListComp _ [⟨_, _, [], _⟩] _ _) _) _ _ _); k_dflt (refine LCg.ListComp_U (F₀ := by k_asm) (by with_unfolding_all rfl) (by decide) (by rfl) (by decide) (by rfl) ?_); k_dflt lcg_toSrc))
local macro_rules | `(tactic| walk_at "eval ListComp") => `(tactic| (k_here; lct_look; k_dflt (refine LCt.ListComp_T (F₀ := by k_asm) (by with_unfolding_all rfl) (by decide) (by rfl) (by decide) (by rfl) ?_); k_dflt lct_toSrc))
local macro_rules | `(tactic| walk_at "exec Assign cons ListComp") => `(tactic| (k_here; (with_reducible show wpAny _ _ (exec (Stmt.Assign _ (Expr.ListComp _ [⟨_, _, [], _⟩] _ _) _) _) _ _ _); k_dflt (refine LCg.Assign_ListComp_U (F₀ := by k_asm) (by rfl) (by with_unfolding_all rfl) (by with_unfolding_all rfl) (by decide) (by rfl) (by decide) (by rfl) (by rfl) (by rfl) ?_); k_dflt lcg_toSrc))
local macro_rules | `(tactic| walk_at "exec Assign cons ListComp") => `(tactic| (k_here; lct_look; k_dflt (refine LCt.Assign_ListComp_T (F₀ := by k_asm) (by rfl) (by with_unfolding_all rfl) (by with_unfolding_all rfl) (by decide) (by rfl) (by decide) (by rfl) (by rfl) (by rfl) ?_); k_dflt lct_toSrc))
local macro_rules | `(tactic| walk_at "CompSrcT") => `(tactic| (k_here; k_extra "mine CompSrcT"))
local macro_rules | `(tactic| walk_at "CompSrc") => `(tactic| (k_here; k_extra "mine CompSrc"))
local macro_rules | `(tactic| walk_at "CEl") => `(tactic| (k_dflt (refine' cel ?a ?b ?c ?d; (case c => k_asm); (case d => k_asm); (case b => first | rfl | assumption | k_extra "mine cel"); (case a => first | rfl | assumption | ((simp only [bne_iff_ne, ne_eq, beq_iff_eq, decide_eq_true_eq]); first | assumption | omega) | k_extra "mine cel"))))
local macro_rules | `(tactic| walk_at "CNo") => `(tactic| (k_dflt (refine' cno ?a ?c ?d; (case c => k_asm); (case d => k_asm); (case a => first | rfl | assumption | ((simp only [bne_eq_false_iff_eq, beq_eq_false_iff_ne, ne_eq, decide_eq_false_iff_not]); first | assumption | omega) | k_extra "mine cel"))))
local macro_rules | `(tactic| walk_at "call ref") => `(tactic| (k_here; (with_reducible show wpAny _ _ (call (Value.ref 284) [Value.ref _, Value.str (Str.ofString "*") _, Value.int _ _, Value.int _ _]) _ _ _); k_dflt (refine' by_mul ?k1 ?k2 ?k3 ?k4 ?k5 ?kK ?kd ?ku ?t1 ?t2 ?t3 ?t4 ?n1 ?n2 ?x1 ?x2 ?x3 ?x4 ?_; (case k1 => k_asm); (case k2 => k_asm); (case k3 => k_asm); (case k4 => k_asm); (case k5 => k_asm); (case kK => first | exact rfl | assumption); (case kd => k_room); (case ku => units_room); (case t1 => k_mem); (case t2 => k_mem); (case t3 => first | assumption | k_get); (case t4 => first | assumption | k_get); (case n1 => omega); (case n2 => omega); (case x1 => omega); (case x2 => omega); (case x3 => omega); (case x4 => omega); intro t9 h9 tk9 b9 c9 F9 N9; (try dsimp only); (try k_fold))))
local macro_rules | `(tactic| walk_at "call ref") => `(tactic| (k_here; (with_reducible show wpAny _ _ (call (Value.ref 284) [Value.ref _, Value.str (Str.ofString "+") _, Value.int _ _, Value.int _ _]) _ _ _); k_dflt (refine' by_add ?k1 ?k2 ?k3 ?k4 ?k5 ?kK ?kd ?ku ?t1 ?t2 ?t3 ?t4 ?n1 ?n2 ?x1 ?x2 ?x3 ?x4 ?_; (case k1 => k_asm); (case k2 => k_asm); (case k3 => k_asm); (case k4 => k_asm); (case k5 => k_asm); (case kK => first | exact rfl | assumption); (case kd => k_room); (case ku => units_room); (case t1 => k_mem); (case t2 => k_mem); (case t3 => first | assumption | k_get); (case t4 => first | assumption | k_get); (case n1 => omega); (case n2 => omega); (case x1 => omega); (case x2 => omega); (case x3 => omega); (case x4 => omega); intro t9 h9 tk9 b9 c9 F9 N9; (try dsimp only); (try k_fold))))
local macro_rules | `(tactic| walk_at "call ref") => `(tactic| (k_here; (with_reducible show wpAny _ _ (call (Value.ref 284) [Value.ref _, Value.str (Str.ofString "**") _, Value.int _ _, Value.int _ _]) _ _ _); k_dflt (refine' by_pow ?k1 ?k2 ?k3 ?k4 ?k5 ?kK ?kd ?ku ?t1 ?t2 ?t3 ?t4 ?n1 ?n2 ?x1 ?x2 ?x3 ?x4 ?_; (case k1 => k_asm); (case k2 => k_asm); (case k3 => k_asm); (case k4 => k_asm); (case k5 => k_asm); (case kK => first | exact rfl | assumption); (case kd => k_room); (case ku => units_room); (case t1 => k_mem); (case t2 => k_mem); (case t3 => first | assumption | k_get); (case t4 => first | assumption | k_get); (case n1 => omega); (case n2 => omega); (case x1 => omega); (case x2 => omega); (case x3 => omega); (case x4 => omega); intro t9 h9 tk9 b9 c9 F9 N9; (try dsimp only); (try k_fold))))
local macro_rules | `(tactic| walk_at "call ref") => `(tactic| (k_here; (with_reducible show wpAny _ _ (call (Value.ref 291) [Value.ref _, Value.str (Str.ofString "*") _, Value.int _ _]) _ _ _); k_dflt (refine' all_mul ?k1 ?k2 ?k3 ?k4 ?k5 ?kK ?kd ?ku ?t1 ?t2 ?t3 ?t4 ?n1 ?n2 ?_; (case k1 => k_asm); (case k2 => k_asm); (case k3 => k_asm); (case k4 => k_asm); (case k5 => k_asm); (case kK => first | exact rfl | assumption); (case kd => k_room); (case ku => units_room); (case t1 => k_mem); (case t2 => k_mem); (case t3 => first | assumption | k_get); (case t4 => first | assumption | k_get); (case n1 => omega); (case n2 => omega); intro t9 h9 tk9 F9 N9; (try dsimp only); (try k_fold))))
local macro_rules | `(tactic| walk_at "call ref") => `(tactic| (k_here; (with_reducible show wpAny _ _ (call (Value.ref 291) [Value.ref _, Value.str (Str.ofString "+") _, Value.int _ _]) _ _ _); k_dflt (refine' all_add ?k1 ?k2 ?k3 ?k4 ?k5 ?kK ?kd ?ku ?t1 ?t2 ?t3 ?t4 ?n1 ?n2 ?_; (case k1 => k_asm); (case k2 => k_asm); (case k3 => k_asm); (case k4 => k_asm); (case k5 => k_asm); (case kK => first | exact rfl | assumption); (case kd => k_room); (case ku => units_room); (case t1 => k_mem); (case t2 => k_mem); (case t3 => first | assumption | k_get); (case t4 => first | assumption | k_get); (case n1 => omega); (case n2 => omega); intro t9 h9 tk9 F9 N9; (try dsimp only); (try k_fold))))
local macro_rules | `(tactic| walk_at "call ref") => `(tactic| (k_here; (with_reducible show wpAny _ _ (call (Value.ref 303) [Value.ref _, Value.int _ _, Value.int _ _]) _ _ _); k_dflt (refine' field_of ?k1 ?k2 ?k3 ?k4 ?k5 ?kK ?kd ?ku ?t1 ?t2 ?t3 ?t4 ?n1 ?n2 ?x1 ?x2 ?x3 ?x4 ?hp ?_; (case k1 => k_asm); (case k2 => k_asm); (case k3 => k_asm); (case k4 => k_asm); (case k5 => k_asm); (case kK => first | exact rfl | assumption); (case kd => k_room); (case ku => units_room); (case t1 => k_mem); (case t2 => k_mem); (case t3 => first | assumption | k_get); (case t4 => first | assumption | k_get); (case n1 => omega); (case n2 => omega); (case x1 => omega); (case x2 => omega); (case x3 => omega); (case x4 => omega); (case hp => k_extra "mine prime"); intro t9 h9 tk9 F9 N9; (try dsimp only); (try k_fold))))
local macro_rules | `(tactic| walk_at "call ref") => `(tactic| (k_here; (with_reducible show wpAny _ _ (call (Value.ref 270) [Value.str _ _, Value.int _ _]) _ _ _); k_dflt (refine' type_of ?k1 ?k2 ?k3 ?k4 ?k5 ?kK ?kd ?ku ?n1 ?n2 ?_; (case k1 => k_asm); (case k2 => k_asm); (case k3 => k_asm); (case k4 => k_asm); (case k5 => k_asm); (case kK => first | exact rfl | assumption); (case kd => k_room); (case ku => units_room); (case n1 => omega); (case n2 => omega); intro t9 d9 es9 k9 q1 q2 h9 tk9 g1 g2 l1 l2 F9 N9; (try k_lt l1); (try k_lt2 l2); (try dsimp only); (try k_fold))))
local macro_rules | `(tactic| walk_at "call ref") => `(tactic| (k_here; (with_reducible show wpAny _ _ (call (Value.ref 277) [Value.ref _, Value.int _ _]) _ _ _); k_dflt (refine' melt_of ?k1 ?k2 ?k3 ?k5 ?kK ?kd ?ku ?kN ?i ?len ?z0 ?z1 ?m0 ?m1 ?pl ?off ?_; (case k1 => k_asm); (case k2 => k_asm); (case k3 => k_asm); (case k5 => k_asm); (case kK => exact rfl); (case kd => k_room); (case ku => units_room); (case kN => first | with_reducible assumption | k_extra "mine led"); (case i => assumption); (case len => omega); (case z0 => omega); (case z1 => omega); (case m0 => omega); (case m1 => omega); (case pl => omega); (case off => k_all); intro v9 t9 q1 c9 h9 tk9 b9 d9 F9 N9; (try dsimp only); (try k_fold))))
set_option maxRecDepth 100000 in
set_option maxHeartbeats 8000000 in
theorem law01 : PySem.Challenge.rw_sz0004_01.Holds := by
  w_top off
  refine Mine.hd ?_
  k_go0
  (all_goals try k_fold)
  k_with_none
  k_with "mine ite" => (k_dflt first
    | (refine ite_neg (neg_of (wilson_ok _ (mem18 (by assumption) (by assumption)))) ?_)
    | (refine ite_neg (neg_of (sum_odd _ (mem18 (by assumption) (by assumption)) (by assumption))) ?_)
    | (refine ite_neg (neg_of (sum_even _ (mem18 (by assumption) (by assumption)) (by assumption))) ?_)
    | (refine ite_neg (neg_of (cube_ok (by omega))) ?_)
    | (refine ite_neg (neg_of (zero_ok (by omega))) ?_))
  k_with "mine prime" => with_unfolding_all exact prime_ok _ (mem18 (by assumption) (by assumption)) (of_decide_eq_true (by with_unfolding_all assumption))
  k_with "mine led" => (rename News _ _ _ _ => lN'; exact led5 (C := 259) lN' (by assumption) (by k_memK) (by k_memK) (by k_memK) (by k_memK) (by k_memK))
  k_with "mine CompSrcT" => (refine' src_prime ?yh ?yF ?yN ?ym ?ya ?yb ?yc ?yd (fun k9 t9 I9 o9 C9 p9 D9 m9 ys9 h9 tk9 E9 lo9 hi9 hC9 hx9 F9 N9 off9 ne9 => ?_) (fun g9 ys9 hI9 hl9 => ?_); (case yh => with_unfolding_all rfl); (case yF => k_asm); (case yN => k_asm); (case ym => assumption); (case ya => omega); (case yb => omega); (case yc => omega); (case yd => omega); (try simp only [LCg.Off3, and_true] at off9); (try k_fold))
  k_steps
end Mine
set_option maxRecDepth 100000 in
set_option maxHeartbeats 8000000 in
theorem PySem.Challenge.cw_sz0004_01_holds : PySem.Challenge.rw_sz0004_01.Holds := by
  exact Mine.law01
