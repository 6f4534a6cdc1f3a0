import PyProof.Rows.All
import Wide.All
import OpenK.AllK
import Wide.FinOn
import PySem.Challenge.RW_sz0004_02
open PySem PySem.Spec PySem.Calls PySem.W PyProof.Rows
set_option Elab.async false
namespace Mine
/-- the power's word: what is found so far, times the base to what is left -/
def PowOk (n K r x e : Int) : Prop := 0 ≤ e ∧ 0 ≤ r ∧ r < n ∧ 0 ≤ x ∧ x < n ∧ (r * x ^ e.toNat) % n = K

theorem powOk_b {n K r x e : Int} (h : PowOk n K r x e) : 0 ≤ e ∧ 0 ≤ r ∧ r < n ∧ 0 ≤ x ∧ x < n := ⟨h.1, h.2.1, h.2.2.1, h.2.2.2.1, h.2.2.2.2.1⟩
theorem mod_mul_pow (r x n : Int) (k : Nat) : ((r % n) * (x % n) ^ k) % n = (r * x ^ k) % n := by
  have h : ∀ k : Nat, ((x % n) ^ k) % n = (x ^ k) % n := by
    intro k
    induction k with
    | zero => simp
    | succ k ih => rw [Int.pow_succ, Int.pow_succ, Int.mul_emod, ih, Int.emod_emod, ← Int.mul_emod]
  rw [Int.mul_emod, Int.emod_emod, h, ← Int.mul_emod]

theorem powOk_start {n x e : Int} (hn : 2 ≤ n) (hx : 0 ≤ x) (hx' : x < n) (he : 0 ≤ e) : PowOk n (x ^ e.toNat % n) ((1 : Int).fmod n) x e := by
  have h1 : (1 : Int).fmod n = 1 := by rw [Int.fmod_eq_emod_of_nonneg _ (by omega), Int.emod_eq_of_lt (by omega) (by omega)]
  rw [h1]
  exact ⟨he, by omega, by omega, hx, hx', by rw [Int.one_mul]⟩
theorem powOk_end {n K r x e : Int} (h : PowOk n K r x e) (he : ¬ 0 < e) : r = K := by
  obtain ⟨h0, h1, h2, h3, h4, h5⟩ := h
  have : e = 0 := by omega
  subst this
  rw [← h5]
  simp
  rw [Int.emod_eq_of_lt h1 h2]
theorem powOk_odd {n K r x e : Int} (h : PowOk n K r x e) (he : 0 < e) (h1 : e.fmod 2 = 1) : PowOk n K ((r * x).fmod n) ((x * x).fmod n) (e.fdiv 2) := by
  obtain ⟨_, hr, hr', hx, hx', hK⟩ := h
  have hn : 0 ≤ n := by omega
  rw [Int.fmod_eq_emod_of_nonneg _ (by omega)] at h1
  rw [Int.fmod_eq_emod_of_nonneg _ hn, Int.fmod_eq_emod_of_nonneg _ hn, Int.fdiv_eq_ediv_of_nonneg _ (by omega)]
  refine ⟨by omega, Int.emod_nonneg _ (by omega), Int.emod_lt_of_pos _ (by omega), Int.emod_nonneg _ (by omega), Int.emod_lt_of_pos _ (by omega), ?_⟩
  rw [mod_mul_pow, ← hK]
  have e2 : e.toNat = (e / 2).toNat + (e / 2).toNat + 1 := by omega
  rw [e2, Int.pow_succ, Int.pow_add, Int.mul_pow]
  congr 1
  ac_rfl
theorem powOk_even {n K r x e : Int} (h : PowOk n K r x e) (he : 0 < e) (h1 : ¬ e.fmod 2 = 1) : PowOk n K r ((x * x).fmod n) (e.fdiv 2) := by
  obtain ⟨_, hr, hr', hx, hx', hK⟩ := h
  have hn : 0 ≤ n := by omega
  rw [Int.fmod_eq_emod_of_nonneg _ (by omega)] at h1
  rw [Int.fmod_eq_emod_of_nonneg _ hn, Int.fdiv_eq_ediv_of_nonneg _ (by omega)]
  refine ⟨by omega, hr, hr', Int.emod_nonneg _ (by omega), Int.emod_lt_of_pos _ (by omega), ?_⟩
  have e0 := mod_mul_pow r (x * x) n (e / 2).toNat
  rw [Int.emod_eq_of_lt hr hr'] at e0
  rw [e0, ← hK]
  have e2 : e.toNat = (e / 2).toNat + (e / 2).toNat := by omega
  rw [e2, Int.pow_add, Int.mul_pow]
end Mine
namespace Mine
theorem ne_below {news : List (Addr × Obj)} {a d : Nat} (h : ∀ p : Addr × Obj, p ∈ news → @LT.lt Nat _ p.1 a) (had : a ≤ d) : ∀ p ∈ news, p.1 ≠ d := fun p hp => Nat.ne_of_lt (Nat.lt_of_lt_of_le (h p hp) had)
theorem ne_all {news : List (Addr × Obj)} {a d : Nat} (h : AllLt a news) (had : a ≤ d) : ∀ p ∈ news, p.1 ≠ d := ne_below (fun p hp => ktn_ltOf h p hp) had
theorem led4 {h₀ h : Heap} {L : Addr} {big : List (Addr × Obj)} {a b : Addr × Obj} {t dx C : Addr} {es : List DictEntry} {k : Nat} (N : News h₀ L h big) (ha : a ∈ big) (hb : b ∈ big) (hc : (t, instObj C dx) ∈ big) (hd : (dx, dictOf es k) ∈ big) : News h₀ L h (a :: b :: [(t, instObj C dx), (dx, dictOf es k)]) := by
  intro p hp
  simp only [List.mem_cons, List.not_mem_nil, or_false] at hp
  rcases hp with rfl | rfl | rfl | rfl
  · exact N _ ha
  · exact N _ hb
  · exact N _ hc
  · exact N _ hd
theorem led5 {h₀ h : Heap} {L : Addr} {big : List (Addr × Obj)} {a b : Addr × Obj} {t dx C c : Addr} {o : Obj} {v : Option Value} {es : List DictEntry} {k : Nat} (N : News h₀ L h big) (_hv : o.data = .cell v) (ha : a ∈ big) (hb : b ∈ big) (hc : (t, instObj C dx) ∈ big) (hd : (dx, dictOf es k) ∈ big) (he : (c, o) ∈ big) : News h₀ L h (a :: b :: [(t, instObj C dx), (dx, dictOf es k), (c, o)]) := by
  intro p hp
  simp only [List.mem_cons, List.not_mem_nil, or_false] at hp
  rcases hp with rfl | rfl | rfl | rfl | rfl
  · exact N _ ha
  · exact N _ hb
  · exact N _ hc
  · exact N _ hd
  · exact N _ he
/-- the end of a turn of a while that turns one list of ints and one int -/
def LIEnd (h₀ : Heap) (L : Addr) (s : Shared) (y1 y2 : Str) (l : Addr) (news : List (Addr × Obj)) (m₀ : Str → Option Value) (P : List Int → Int → Prop) (μ : List Int → Int → Nat) (ns : List Int) (i : Int) (s₂ : Shared) : Prop :=
  ∃ (vs' : List Value) (ns' : List Int) (c' : Nat) (i' : Int) (ti' : Tok) (h' : Heap) (tk : Nat) (m' : Str → Option Value), s₂ = { s with heap := h', toks := tk } ∧ Fr h₀ L h' m' ∧ News h₀ L h' ((l, listOf vs'.toArray c') :: news) ∧ IntsAre vs' ns' ∧ m' y1 = some (.ref l) ∧ m' y2 = some (.int i' ti') ∧ (∀ z, z ≠ y1 → z ≠ y2 → m' z = m₀ z) ∧ P ns' i' ∧ μ ns' i' < μ ns i
def LIPost (h₀ : Heap) (L : Addr) (s : Shared) (y1 y2 : Str) (l : Addr) (news : List (Addr × Obj)) (m₀ : Str → Option Value) (P : List Int → Int → Prop) (μ : List Int → Int → Nat) (Q : Flow → Shared → Prop) (ns : List Int) (i : Int) (f : Flow) (s₂ : Shared) : Prop :=
  match f with
  | .ret v => Q (.ret v) s₂
  | .brk => Q .next s₂
  | _ => LIEnd h₀ L s y1 y2 l news m₀ P μ ns i s₂
section
variable {prog : Program} {w : World} {A : Around} {E : Value → Shared → Prop} {Q : Flow → Shared → Prop} {s : Shared} {env : Env} {h₀ : Heap} {L : Addr}
theorem li_end {m₀ m' : Str → Option Value} {l : Addr} {news news' : List (Addr × Obj)} {vs' : List Value} {ns ns' : List Int} {c' : Nat} {i i' : Int} {ti' : Tok} {y1 y2 : Str} {P : List Int → Int → Prop} {μ : List Int → Int → Nat} {h' : Heap} {tk : Nat}
    (F : Fr h₀ L h' m') (N : News h₀ L h' news') (hn : (l, listOf vs'.toArray c') ∈ news') (hs : ∀ p ∈ news, p ∈ news') (hI : IntsAre vs' ns') (h1 : m' y1 = some (.ref l)) (h2 : m' y2 = some (.int i' ti')) (hr : ∀ z, z ≠ y1 → z ≠ y2 → m' z = m₀ z) (hP : P ns' i') (hμ : μ ns' i' < μ ns i) :
    LIEnd h₀ L s y1 y2 l news m₀ P μ ns i { s with heap := h', toks := tk } := by
  refine ⟨vs', ns', c', i', ti', h', tk, m', rfl, F, ?_, hI, h1, h2, hr, hP, hμ⟩
  intro p hp
  rcases List.mem_cons.mp hp with rfl | hp
  · exact N _ hn
  · exact N _ (hs p hp)
theorem while_LI {test : PySem.Expr} {body : List Stmt} {pos : Pos} {m₀ : Str → Option Value} {l : Addr} {news : List (Addr × Obj)} {vs : List Value} {ns : List Int} {c : Nat} {i : Int} {ti : Tok} (y1 y2 : Str) (P : List Int → Int → Prop) (μ : List Int → Int → Nat)
    (F : Fr h₀ L s.heap m₀) (N : News h₀ L s.heap ((l, listOf vs.toArray c) :: news)) (hI : IntsAre vs ns) (h1 : m₀ y1 = some (.ref l)) (h2 : m₀ y2 = some (.int i ti)) (hP : P ns i)
    (turn : ∀ vs ns c i ti h tk, IntsAre vs ns → P ns i → Fr h₀ L h (fun z => if z = y1 then some (.ref l) else if z = y2 then some (.int i ti) else m₀ z) → News h₀ L h ((l, listOf vs.toArray c) :: news) → KstMark →
      wpAny (model prog w) A (isTrue test env (eval test env)) (fun b s₂ =>
        if b = true then wpAny (model prog w) A (execs body env) (LIPost h₀ L s y1 y2 l news m₀ P μ Q ns i) E s₂ else Q .next s₂) E { s with heap := h, toks := tk })
    (hE : PassesOwn (model prog w) A env E := by passes_own) :
    wpAny (model prog w) A (exec (.While test body [] pos) env) Q E s := by
  refine ksw_while (σ := List Value × List Int × Nat × Int × Tok) (fun c => (l, listOf c.1.toArray c.2.2.1) :: news) (fun c => [(y1, .ref l), (y2, .int c.2.2.2.1 c.2.2.2.2)]) (fun c => IntsAre c.1 c.2.1) [] (fun c => P c.2.1 c.2.2.2.1) (fun c => μ c.2.1 c.2.2.2.1) (vs, ns, c, i, ti) F N hI ?_ hP ?_ hE
  · intro p hp
    rcases List.mem_cons.mp hp with rfl | hp
    · exact h1
    · obtain rfl := List.mem_singleton.mp hp
      exact h2
  · rintro ⟨vs, ns, c, i, ti⟩ u h tk hf hp F' N'
    have e : kstB (fun z => if ([] : List Str).contains z then u z else m₀ z) [(y1, Value.ref l), (y2, Value.int i ti)] = (fun z => if z = y1 then some (.ref l) else if z = y2 then some (.int i ti) else m₀ z) := by
      funext z; simp [kstB]
    refine wpAny_mono (turn vs ns c i ti h tk hf hp (by rw [← e]; exact F') N' kstMark) (fun b s₂ hq => ?_) fun _ _ x => x
    cases b with
    | false => exact hq
    | true =>
      simp only [if_true] at hq ⊢
      refine wpAny_mono hq (fun f s₃ hr => ?_) fun _ _ x => x
      have conv : LIEnd h₀ L s y1 y2 l news m₀ P μ ns i s₃ → KswEnd (σ := List Value × List Int × Nat × Int × Tok) h₀ L s (fun c => (l, listOf c.1.toArray c.2.2.1) :: news) (fun c => [(y1, .ref l), (y2, .int c.2.2.2.1 c.2.2.2.2)]) (fun c => IntsAre c.1 c.2.1) [] m₀ (fun c => P c.2.1 c.2.2.2.1) (fun c => μ c.2.1 c.2.2.2.1) (vs, ns, c, i, ti) s₃ := by
        rintro ⟨vs', ns', c', i', ti', h', tk', m', rfl, F9, N9, hI9, h19, h29, hr9, hP9, hμ9⟩
        refine ksw_end (vs', ns', c', i', ti') F9 N9 (fun p hp => hp) hI9 ?_ ?_ hP9 hμ9
        · intro p hp
          rcases List.mem_cons.mp hp with rfl | hp
          · exact h19
          · obtain rfl := List.mem_singleton.mp hp
            exact h29
        · intro z hz _
          exact hr9 z (hz _ (.head _)) (hz _ (.tail _ (.head _)))
      cases f with
      | ret v => exact hr
      | brk => exact hr
      | next => exact conv hr
      | cont => exact conv hr
end
end Mine
namespace Mine
open LCg LCt
/-- an element of a comprehension over ints: an int, nothing else made -/
def CEl (h₀ : Heap) (L : Addr) (m : Str → Option Value) (s₁ : Shared) (led : List (Addr × Obj)) (p : Bool) (r : Int) (y : Value) (s₂ : Shared) : Prop :=
  p = true ∧ ∃ t h' tk, y = .int r t ∧ s₂ = { s₁ with heap := h', toks := tk } ∧ Fr h₀ L h' m ∧ News h₀ L h' led
/-- an item that the test leaves out -/
def CNo (h₀ : Heap) (L : Addr) (m : Str → Option Value) (s₁ : Shared) (led : List (Addr × Obj)) (p : Bool) (s₂ : Shared) : Prop :=
  p = false ∧ ∃ h' tk, s₂ = { s₁ with heap := h', toks := tk } ∧ Fr h₀ L h' m ∧ News h₀ L h' led
theorem cel {h₀ : Heap} {L : Addr} {m : Str → Option Value} {s₁ : Shared} {led : List (Addr × Obj)} {p : Bool} {r r' : Int} {t : Tok} {h' : Heap} {tk : Nat} (hp : p = true) (hr : r' = r) (F : Fr h₀ L h' m) (N : News h₀ L h' led) : CEl h₀ L m s₁ led p r (.int r' t) { s₁ with heap := h', toks := tk } := ⟨hp, t, h', tk, by rw [hr], rfl, F, N⟩
theorem cno {h₀ : Heap} {L : Addr} {m : Str → Option Value} {s₁ : Shared} {led : List (Addr × Obj)} {p : Bool} {h' : Heap} {tk : Nat} (hp : p = false) (F : Fr h₀ L h' m) (N : News h₀ L h' led) : CNo h₀ L m s₁ led p { s₁ with heap := h', toks := tk } := ⟨hp, h', tk, rfl, F, N⟩
section
variable {prog : Program} {w : World} {A : Around} {E : Value → Shared → Prop} {s₁ : Shared} {h₀ : Heap} {L : Addr} {m : Str → Option Value} {env : Env} {ct elt : PySem.Expr} {x : Str} {scope : Scope} {cl : List (Str × Addr)} {Fin : Shared → List Value → List (Addr × Obj) → Prop} {news : List (Addr × Obj)}
theorem restT {s : Shared} {S : List (Addr × Obj) → Prop} {P : Nat → Value → Prop} {Fin : List Value → List (Addr × Obj) → Prop} {n : Nat} {ks : List Int} (p : Int → Bool) (g : Int → Int) (hks : ks.length = n) (hS : S news) (hP : ∀ i v, i < n → P i v → ∃ k t, ks[i]? = some k ∧ v = .int k t)
    (turn : ∀ k t I oI C oC D m₂ ys h tk (E' : Value → Shared → Prop), k ∈ ks → NsObj oC m₂ → m₂ x = some (.int k t) → Fr h₀ L h m → News h₀ L h ((I, oI) :: (C, oC) :: (D, lst ys) :: news) → Off3 I C D news → ((@Ne Nat I C) ∧ (@Ne Nat I D) ∧ (@Ne Nat C D)) →
      wpAny (model prog w) A (isTrue ct (compEnvC scope cl C env) (eval ct (compEnvC scope cl C env))) (fun b s' => if b = true then wpAny (model prog w) A (eval elt (compEnvC scope cl C env)) (CEl h₀ L m { s with heap := h, toks := tk } ((I, oI) :: (C, oC) :: (D, lst ys) :: news) (p k) (g k)) E' s'
        else CNo h₀ L m { s with heap := h, toks := tk } ((I, oI) :: (C, oC) :: (D, lst ys) :: news) (p k) s') E' { s with heap := h, toks := tk })
    (fin : ∀ ys, IntsAre ys ((ks.filter p).map g) → ys.length ≤ n → Fin ys news) : CompRestT prog w A h₀ L m env ct elt x scope cl s S P Fin n 0 [] news := by
  have key : ∀ (j i : Nat) (ys : List Value), i + j = n → IntsAre ys (((ks.take i).filter p).map g) → CompRestT prog w A h₀ L m env ct elt x scope cl s S P Fin j i ys news := by
    intro j
    induction j with
    | zero =>
      intro i ys hi hy
      have e : i = ks.length := by omega
      subst e
      rw [List.take_length] at hy
      refine CompRestT.zero (fin ys hy ?_)
      rw [hy.length, List.length_map]
      exact Nat.le_trans (List.length_filter_le _ _) (by omega)
    | succ j ih =>
      intro i ys hi hy
      refine CompRestT.succ ?_
      intro v I oI C oC D m₂ h tk E' hv hC hx F N off ne
      obtain ⟨k, t, hk, hv'⟩ := hP i v (by omega) hv
      rw [hv'] at hx
      have hs : ks.take (i + 1) = ks.take i ++ [k] := by rw [List.take_add_one, hk]; rfl
      refine wpAny_mono (turn k t I oI C oC D m₂ ys h tk E' (List.mem_of_getElem? hk) hC hx F N off ne) (fun b s₂ hq => ?_) fun _ _ e => e
      cases b with
      | true =>
        simp only [if_true] at hq ⊢
        refine wpAny_mono hq (fun y s₃ hr => ?_) fun _ _ e => e
        obtain ⟨hp, t', h', tk', rfl, rfl, F', N'⟩ := hr
        refine CompEnd.intro F' N' news (fun _ hp => hp) off hS (ih (i + 1) _ (by omega) ?_)
        rw [hs, List.filter_append, List.map_append, List.filter_cons_of_pos hp, List.filter_nil]
        exact IntsAre.append hy (.cons (g k) t' .nil)
      | false =>
        simp only [Bool.false_eq_true, if_false] at hq ⊢
        obtain ⟨hp, h', tk', rfl, F', N'⟩ := hq
        refine CompEnd.intro F' N' news (fun _ hp => hp) off hS (ih (i + 1) _ (by omega) ?_)
        rw [hs, List.filter_append, List.map_append, List.filter_cons_of_neg (by rw [hp]; exact Bool.false_ne_true), List.filter_nil]
        simpa using hy
  exact key n 0 [] (by omega) (by simp only [List.take_zero, List.filter_nil, List.map_nil]; exact .nil)
theorem restU {s : Shared} {S : List (Addr × Obj) → Prop} {P : Nat → Value → Prop} {Fin : List Value → List (Addr × Obj) → Prop} {n : Nat} {ks : List Int} (g : Int → Int) (hks : ks.length = n) (hS : S news) (hP : ∀ i v, i < n → P i v → ∃ k t, ks[i]? = some k ∧ v = .int k t)
    (turn : ∀ k t I oI C oC D m₂ ys h tk (E' : Value → Shared → Prop), k ∈ ks → NsObj oC m₂ → m₂ x = some (.int k t) → Fr h₀ L h m → News h₀ L h ((I, oI) :: (C, oC) :: (D, lst ys) :: news) → Off3 I C D news → ((@Ne Nat I C) ∧ (@Ne Nat I D) ∧ (@Ne Nat C D)) →
      wpAny (model prog w) A (eval elt (compEnvC scope cl C env)) (CEl h₀ L m { s with heap := h, toks := tk } ((I, oI) :: (C, oC) :: (D, lst ys) :: news) true (g k)) E' { s with heap := h, toks := tk })
    (fin : ∀ ys, IntsAre ys (ks.map g) → ys.length = n → Fin ys news) : CompRest prog w A h₀ L m env elt x scope cl s S P Fin n 0 [] news := by
  have key : ∀ (j i : Nat) (ys : List Value), i + j = n → IntsAre ys ((ks.take i).map g) → CompRest prog w A h₀ L m env elt x scope cl s S P Fin j i ys news := by
    intro j
    induction j with
    | zero =>
      intro i ys hi hy
      have e : i = ks.length := by omega
      subst e
      rw [List.take_length] at hy
      refine CompRest.zero (fin ys hy ?_)
      rw [hy.length, List.length_map]; omega
    | succ j ih =>
      intro i ys hi hy
      refine CompRest.succ ?_
      intro v I oI C oC D m₂ h tk E' hv hC hx F N off ne
      obtain ⟨k, t, hk, hv'⟩ := hP i v (by omega) hv
      rw [hv'] at hx
      have hs : ks.take (i + 1) = ks.take i ++ [k] := by rw [List.take_add_one, hk]; rfl
      refine wpAny_mono (turn k t I oI C oC D m₂ ys h tk E' (List.mem_of_getElem? hk) hC hx F N off ne) (fun y s₃ hr => ?_) fun _ _ e => e
      obtain ⟨-, t', h', tk', rfl, rfl, F', N'⟩ := hr
      refine CompEnd.intro F' N' news (fun _ hp => hp) off hS (ih (i + 1) _ (by omega) ?_)
      rw [hs, List.map_append]
      exact IntsAre.append hy (.cons (g k) t' .nil)
  exact key n 0 [] (by omega) (by simp only [List.take_zero, List.map_nil]; exact .nil)

theorem src_filter_list (p : List Int → Int → Bool) (g : Int → Int) {ax : Addr} {vs : List Value} {ns : List Int} {c : Nat} (hh : A.handled = none) (F : Fr h₀ L s₁.heap m) (N : News h₀ L s₁.heap news) (hm : (ax, listOf vs.toArray c) ∈ news) (hi : IntsAre vs ns) (hsz : ns.length ≤ 1000000)
    (turn : ∀ k t I oI C oC D m₂ ys h tk (E' : Value → Shared → Prop), k ∈ ns → NsObj oC m₂ → m₂ x = some (.int k t) → Fr h₀ L h m → News h₀ L h ((I, oI) :: (C, oC) :: (D, lst ys) :: news) → Off3 I C D news → ((@Ne Nat I C) ∧ (@Ne Nat I D) ∧ (@Ne Nat C D)) →
      wpAny (model prog w) A (isTrue ct (compEnvC scope cl C env) (eval ct (compEnvC scope cl C env))) (fun b s' => if b = true then wpAny (model prog w) A (eval elt (compEnvC scope cl C env)) (CEl h₀ L m { s₁ with heap := h, toks := tk } ((I, oI) :: (C, oC) :: (D, lst ys) :: news) (p ns k) (g k)) E' s'
        else CNo h₀ L m { s₁ with heap := h, toks := tk } ((I, oI) :: (C, oC) :: (D, lst ys) :: news) (p ns k) s') E' { s₁ with heap := h, toks := tk })
    (fin : ∀ g' ys, IntsAre ys ((ns.filter (p ns)).map g) → ys.length ≤ ns.length → Fin { s₁ with heap := g' } ys news) : CompSrcT prog w A h₀ L m env ct elt x scope cl Fin (.ref ax) s₁ :=
  CompSrcT.ledger hh F N hm (by rw [List.size_toArray, hi.length, PySem.sizeLine_eq]; omega) fun g' =>
    restT (ks := ns) (p ns) g (by rw [List.size_toArray]; exact hi.length.symm) (.inr ⟨_, hm, rfl, _, rfl⟩) (fun i v _ hv => by
      obtain ⟨k, t, e, hk⟩ := IntsAre.at hi i v (by simpa using hv)
      exact ⟨k, t, hk, e⟩) turn (fun ys hy hl => fin g' ys hy (by rw [List.size_toArray, hi.length] at hl; exact hl))
theorem src_map_list (g : Int → Int) {ax : Addr} {vs : List Value} {ns : List Int} {c : Nat} (hh : A.handled = none) (F : Fr h₀ L s₁.heap m) (N : News h₀ L s₁.heap news) (hm : (ax, listOf vs.toArray c) ∈ news) (hi : IntsAre vs ns) (hsz : ns.length ≤ 1000000)
    (turn : ∀ k t I oI C oC D m₂ ys h tk (E' : Value → Shared → Prop), k ∈ ns → NsObj oC m₂ → m₂ x = some (.int k t) → Fr h₀ L h m → News h₀ L h ((I, oI) :: (C, oC) :: (D, lst ys) :: news) → Off3 I C D news → ((@Ne Nat I C) ∧ (@Ne Nat I D) ∧ (@Ne Nat C D)) →
      wpAny (model prog w) A (eval elt (compEnvC scope cl C env)) (CEl h₀ L m { s₁ with heap := h, toks := tk } ((I, oI) :: (C, oC) :: (D, lst ys) :: news) true (g k)) E' { s₁ with heap := h, toks := tk })
    (fin : ∀ g' ys, IntsAre ys (ns.map g) → ys.length = ns.length → Fin { s₁ with heap := g' } ys news) : CompSrc prog w A h₀ L m env elt x scope cl Fin (.ref ax) s₁ :=
  CompSrc.ledger hh F N hm (by rw [List.size_toArray, hi.length, PySem.sizeLine_eq]; omega) fun g' =>
    restU (ks := ns) g (by rw [List.size_toArray]; exact hi.length.symm) (.inr ⟨_, hm, rfl, _, rfl⟩) (fun i v _ hv => by
      obtain ⟨k, t, e, hk⟩ := IntsAre.at hi i v (by simpa using hv)
      exact ⟨k, t, hk, e⟩) turn (fun ys hy hl => fin g' ys hy (by rw [List.size_toArray, hi.length] at hl; exact hl))
theorem src_filter_range (p : Int → Bool) (g : Int → Int) {r : Addr} {a b : Int} {t u v : Tok} (hh : A.handled = none) (F : Fr h₀ L s₁.heap m) (N : News h₀ L s₁.heap news) (hr : IsRange s₁.heap r a b 1 t u v) (ha : -1000 ≤ a) (ha' : a ≤ 1000) (hb : -1000 ≤ b) (hb' : b ≤ 1000)
    (turn : ∀ k t I oI C oC D m₂ ys h tk (E' : Value → Shared → Prop), a ≤ k → k < b → NsObj oC m₂ → m₂ x = some (.int k t) → Fr h₀ L h m → News h₀ L h ((I, oI) :: (C, oC) :: (D, lst ys) :: news) → Off3 I C D news → ((@Ne Nat I C) ∧ (@Ne Nat I D) ∧ (@Ne Nat C D)) →
      wpAny (model prog w) A (isTrue ct (compEnvC scope cl C env) (eval ct (compEnvC scope cl C env))) (fun b s' => if b = true then wpAny (model prog w) A (eval elt (compEnvC scope cl C env)) (CEl h₀ L m { s₁ with heap := h, toks := tk } ((I, oI) :: (C, oC) :: (D, lst ys) :: news) (p k) (g k)) E' s'
        else CNo h₀ L m { s₁ with heap := h, toks := tk } ((I, oI) :: (C, oC) :: (D, lst ys) :: news) (p k) s') E' { s₁ with heap := h, toks := tk })
    (fin : ∀ g' ys, IntsAre ys (((rangeKs a (b - a).toNat).filter p).map g) → ys.length ≤ (b - a).toNat → Fin { s₁ with heap := g' } ys news) : CompSrcT prog w A h₀ L m env ct elt x scope cl Fin (.ref r) s₁ :=
  CompSrcT.range hh F N hr (small_one (by omega) (by omega) (by omega) (by omega)) (rangeSize_nat a b) (by rw [PySem.sizeLine_eq]; omega) fun g' =>
    restT (ks := rangeKs a (b - a).toNat) p g (rangeKs_length _ _) trivial (fun i v hi hv => by
      obtain ⟨t, e⟩ := hv
      exact ⟨a + (i : Int), t, by simp [rangeKs, hi], e⟩)
      (fun k t I oI C oC D m₂ ys h tk E' hk => turn k t I oI C oC D m₂ ys h tk E' (mem_rangeKs hk).1 (by have := (mem_rangeKs hk); omega)) (fin g')
theorem src_prime {r : Addr} {a b : Int} {t u v : Tok} (hh : A.handled = none) (F : Fr h₀ L s₁.heap m) (N : News h₀ L s₁.heap news) (hr : IsRange s₁.heap r a b 1 t u v) (ha : -1000 ≤ a) (ha' : a ≤ 1000) (hb : -1000 ≤ b) (hb' : b ≤ 1000)
    (turn : ∀ k t I oI C oC D m₂ ys h tk (E' : Value → Shared → Prop), a ≤ k → k < b → NsObj oC m₂ → m₂ x = some (.int k t) → Fr h₀ L h m → News h₀ L h ((I, oI) :: (C, oC) :: (D, lst ys) :: news) → Off3 I C D news → ((@Ne Nat I C) ∧ (@Ne Nat I D) ∧ (@Ne Nat C D)) →
      wpAny (model prog w) A (isTrue ct (compEnvC scope cl C env) (eval ct (compEnvC scope cl C env))) (fun q s' => if q = true then wpAny (model prog w) A (eval elt (compEnvC scope cl C env)) (CEl h₀ L m { s₁ with heap := h, toks := tk } ((I, oI) :: (C, oC) :: (D, lst ys) :: news) (b.fmod k == 0) k) E' s'
        else CNo h₀ L m { s₁ with heap := h, toks := tk } ((I, oI) :: (C, oC) :: (D, lst ys) :: news) (b.fmod k == 0) s') E' { s₁ with heap := h, toks := tk })
    (fin : ∀ g' ys, IntsAre ys (((rangeKs a (b - a).toNat).filter (fun d => b.fmod d == 0)).map (fun d => d)) → ys.length ≤ (b - a).toNat → Fin { s₁ with heap := g' } ys news) : CompSrcT prog w A h₀ L m env ct elt x scope cl Fin (.ref r) s₁ :=
  src_filter_range (fun d => b.fmod d == 0) (fun d => d) hh F N hr ha ha' hb hb' turn fin
theorem src_map_range (g : Int → Int) {r : Addr} {a b : Int} {t u v : Tok} (hh : A.handled = none) (F : Fr h₀ L s₁.heap m) (N : News h₀ L s₁.heap news) (hr : IsRange s₁.heap r a b 1 t u v) (ha : -1000 ≤ a) (ha' : a ≤ 1000) (hb : -1000 ≤ b) (hb' : b ≤ 1000)
    (turn : ∀ k t I oI C oC D m₂ ys h tk (E' : Value → Shared → Prop), a ≤ k → k < b → NsObj oC m₂ → m₂ x = some (.int k t) → Fr h₀ L h m → News h₀ L h ((I, oI) :: (C, oC) :: (D, lst ys) :: news) → Off3 I C D news → ((@Ne Nat I C) ∧ (@Ne Nat I D) ∧ (@Ne Nat C D)) →
      wpAny (model prog w) A (eval elt (compEnvC scope cl C env)) (CEl h₀ L m { s₁ with heap := h, toks := tk } ((I, oI) :: (C, oC) :: (D, lst ys) :: news) true (g k)) E' { s₁ with heap := h, toks := tk })
    (fin : ∀ g' ys, IntsAre ys ((rangeKs a (b - a).toNat).map g) → ys.length = (b - a).toNat → Fin { s₁ with heap := g' } ys news) : CompSrc prog w A h₀ L m env elt x scope cl Fin (.ref r) s₁ :=
  CompSrc.range hh F N hr (small_one (by omega) (by omega) (by omega) (by omega)) (rangeSize_nat a b) (by rw [PySem.sizeLine_eq]; omega) fun g' =>
    restU (ks := rangeKs a (b - a).toNat) g (rangeKs_length _ _) trivial (fun i v hi hv => by
      obtain ⟨t, e⟩ := hv
      exact ⟨a + (i : Int), t, by simp [rangeKs, hi], e⟩)
      (fun k t I oI C oC D m₂ ys h tk E' hk => turn k t I oI C oC D m₂ ys h tk E' (mem_rangeKs hk).1 (by have := (mem_rangeKs hk); omega)) (fin g')
theorem len_le {us : List Value} {ns : List Int} (h : IntsAre us ns) (g : ns.length ≤ 1000000) : us.length ≤ 1000000 := by rw [h.length]; exact g
theorem len_led {news : List (Addr × Obj)} {l : Addr} {us : List Value} {ns : List Int} {c : Nat} {s : Shared} {Q : Value → Shared → Prop} (N : News h₀ L s.heap news) (hm : (l, listOf us.toArray c) ∈ news) (hi : IntsAre us ns) (hfit : us.length ≤ 1000000)
    (h : Q (.int (ns.length : Int) (s.toks + 1)) { s with toks := s.toks + 1 + 1 }) : wpAny (model prog w) A (call (.builtin "len") [.ref l]) Q E s :=
  kst_len N hm hi.length (by have := hi.length; omega) h
theorem rk_filter_len {n : Int} {p : Int → Bool} {g : Int → Int} (hn' : n ≤ 19) : (((rangeKs 1 (n - 1).toNat).filter p).map g).length ≤ 1000000 := by
  rw [List.length_map]
  have h := List.length_filter_le p (rangeKs 1 (n - 1).toNat)
  rw [rangeKs_length] at h
  omega
theorem off1_ne {D : Addr} : ∀ {l : List (Addr × Obj)}, Off1 D l → ∀ p ∈ l, p.1 ≠ D
  | [], _, _, h => nomatch h
  | _ :: _, x, p, h => by
    rcases List.mem_cons.mp h with rfl | h
    · exact x.1
    · exact off1_ne x.2 p h
theorem off3_ne {I C D : Addr} {l : List (Addr × Obj)} (x : Off3 I C D l) : (∀ p ∈ l, p.1 ≠ I) ∧ (∀ p ∈ l, p.1 ≠ C) ∧ (∀ p ∈ l, p.1 ≠ D) := ⟨fun p h => (x.mem p h).1, fun p h => (x.mem p h).2.1, fun p h => (x.mem p h).2.2⟩
end
end Mine
namespace Mine
/-- the end of a turn of a for that turns one list of ints in place -/
def FLEnd (h₀ : Heap) (L : Addr) (x : Str) (stored : List Str) (l : Addr) (news own : List (Addr × Obj)) (m₀ : Str → Option Value) (P : List Int → List Int → Prop) (pre : List Int) (s₁ s₂ : Shared) : Prop :=
  ∃ (vs' : List Value) (ns' : List Int) (c' : Nat) (h' : Heap) (tk : Nat) (m' : Str → Option Value), s₂ = { s₁ with heap := h', toks := tk } ∧ Fr h₀ L h' m' ∧ News h₀ L h' ((l, listOf vs'.toArray c') :: (news ++ own)) ∧ IntsAre vs' ns' ∧ (∀ z, z ≠ x → stored.contains z = false → m' z = m₀ z) ∧ P pre ns'
def FLPost (h₀ : Heap) (L : Addr) (x : Str) (stored : List Str) (l : Addr) (news own : List (Addr × Obj)) (m₀ : Str → Option Value) (P : List Int → List Int → Prop) (pre : List Int) (s₁ : Shared) (Q : Flow → Shared → Prop) (f : Flow) (s₂ : Shared) : Prop :=
  match f with
  | .ret v => Q (.ret v) s₂
  | .brk => Q .next s₂
  | _ => FLEnd h₀ L x stored l news own m₀ P pre s₁ s₂
section
variable {prog : Program} {w : World} {A : Around} {E : Value → Shared → Prop} {Q : Flow → Shared → Prop} {s : Shared} {env : Env} {h₀ : Heap} {x : Str} {body : List Stmt}
theorem fl_end {L l : Addr} {stored : List Str} {news own : List (Addr × Obj)} {m₀ m' : Str → Option Value} {P : List Int → List Int → Prop} {pre : List Int} {s₁ : Shared} {vs' : List Value} {ns' : List Int} {c' : Nat} {h' : Heap} {tk : Nat}
    (F : Fr h₀ L h' m') (N : News h₀ L h' ((l, listOf vs'.toArray c') :: (news ++ own))) (hI : IntsAre vs' ns') (hr : ∀ z, z ≠ x → stored.contains z = false → m' z = m₀ z) (hP : P pre ns') :
    FLEnd h₀ L x stored l news own m₀ P pre s₁ { s₁ with heap := h', toks := tk } := ⟨vs', ns', c', h', tk, m', rfl, F, N, hI, hr, hP⟩
theorem for_L {r : Addr} {a₀ b₀ : Int} {t₀ u₀ v₀ : Tok} {m₀ : Str → Option Value} {l : Addr} {news : List (Addr × Obj)} {vs : List Value} {ns : List Int} {c : Nat} (stored : List Str) (P : List Int → List Int → Prop)
    (hh : A.handled = none) (hr : IsRange s.heap r a₀ b₀ 1 t₀ u₀ v₀) (ha : -1000 ≤ a₀) (ha' : a₀ ≤ 1000) (hb : -1000 ≤ b₀) (hb' : b₀ ≤ 1000) (F : Fr h₀ env.locals s.heap m₀) (N : News h₀ env.locals s.heap ((l, listOf vs.toArray c) :: news)) (hI : IntsAre vs ns) (hnl : ∀ p ∈ news, p.1 ≠ l) (hP : P [] ns)
    (turn : ∀ vs ns c pre k t (u : Str → Option Value) h tk own, k = a₀ + (pre.length : Int) → k < b₀ → (∀ p ∈ news ++ own, p.1 ≠ l) → IntsAre vs ns → P pre ns →
      Fr h₀ env.locals h (fun y => if y = x then some (.int k t) else if stored.contains y then u y else m₀ y) → News h₀ env.locals h ((l, listOf vs.toArray c) :: (news ++ own)) → KstMark →
      wpAny (model prog w) A (execs body env) (FLPost h₀ env.locals x stored l news own m₀ P (pre ++ [k]) { s with heap := h, toks := tk } Q) E { s with heap := h, toks := tk })
    (done : ∀ vs ns c (u : Str → Option Value) h tk, IntsAre vs ns → P (rangeKs a₀ (b₀ - a₀).toNat) ns → Fr h₀ env.locals h (fun y => if y = x then u y else if stored.contains y then u y else m₀ y) → News h₀ env.locals h ((l, listOf vs.toArray c) :: news) → KstMark → Q .next { s with heap := h, toks := tk }) :
    wpAny (model prog w) A (pyIter (.ref r)) (fun it s₂ => LoopAtV prog w A h₀ env x body Q E it s₂) E s := by
  refine kst_range (σ := List Value × List Int × Nat) (fun c => (l, listOf c.1.toArray c.2.2) :: news) (fun _ => []) (fun c => IntsAre c.1 c.2.1) stored (fun pre c => P pre c.2.1) (vs, ns, c) hh hr (small_one (by omega) (by omega) (by omega) (by omega)) (rangeSize_nat a₀ b₀) F N hI (fun (p : Str × Value) (h : p ∈ ([] : List (Str × Value))) => by cases h) hP ?_ ?_
  · rintro ⟨vs, ns, c⟩ pre k t u h tk own hk hlt hoff hf hp F' N'
    have off' : ∀ p ∈ news ++ own, p.1 ≠ l := by
      intro p hp
      rcases List.mem_append.mp hp with hp | hp
      · exact hnl p hp
      · exact hoff p hp l (.head _)
    refine wpAny_mono (turn vs ns c pre k t u h tk own hk (by omega) off' hf hp F' N' kstMark) (fun f s₂ q => ?_) fun _ _ e => e
    have conv : FLEnd h₀ env.locals x stored l news own m₀ P (pre ++ [k]) { s with heap := h, toks := tk } s₂ → InvEndN h₀ env.locals (KstS (σ := List Value × List Int × Nat) (fun c => (l, listOf c.1.toArray c.2.2) :: news) (fun _ => []) (fun c => IntsAre c.1 c.2.1) x stored m₀ (fun pre c => P pre c.2.1) (pre ++ [k])) own (l :: news.map (·.1)) { s with heap := h, toks := tk } s₂ := by
      rintro ⟨vs', ns', c', h', tk', m', rfl, F9, N9, hI9, hr9, hP9⟩
      refine InvEndN.intro F9 N9 ⟨(vs', ns', c'), rfl, hI9, (fun (p : Str × Value) (h : p ∈ ([] : List (Str × Value))) => by cases h), fun z hz _ hs => hr9 z hz hs, hP9⟩ (by simp) (fun p hp => ?_) (fun p hp => ?_)
      · rcases List.mem_cons.mp hp with rfl | hp
        · exact .head _
        · exact .tail _ (List.mem_append_left _ hp)
      · exact .tail _ (List.mem_append_right _ hp)
    cases f with
    | ret v => exact q
    | brk => exact q
    | next => exact conv q
    | cont => exact conv q
  · rintro ⟨vs, ns, c⟩ u h tk hf hp F' N'
    exact done vs ns c u h tk hf hp F' N' kstMark
end
theorem news_keep {h₀ h : Heap} {L : Addr} {big news : List (Addr × Obj)} {a : Addr × Obj} (N : News h₀ L h big) (ha : a ∈ big) (hs : ∀ p ∈ news, p ∈ big) : News h₀ L h (a :: news) := by
  intro p hp
  rcases List.mem_cons.mp hp with rfl | hp
  · exact N _ ha
  · exact N _ (hs p hp)
theorem two_keep {h₀ h : Heap} {L : Addr} {big news : List (Addr × Obj)} {a b : Addr × Obj} (N : News h₀ L h big) (ha : a ∈ big) (hb : b ∈ big) (hs : ∀ p ∈ news, p ∈ big) : News h₀ L h (a :: b :: news) := news_keep N ha fun p hp => by
  rcases List.mem_cons.mp hp with rfl | hp
  · exact hb
  · exact hs p hp
def IsMax (a b W : Int) : Prop := W = if b > a then b else a
theorem IsMax.le {a b W N : Int} (h : IsMax a b W) (ha : a ≤ N) (hb : b ≤ N) : W ≤ N := by
  unfold IsMax at h; split at h <;> omega
theorem IsMax.nat {a b : Nat} {W : Int} (h : IsMax a b W) : W.toNat = max a b := by
  unfold IsMax at h; split at h <;> omega
section
variable {prog : Program} {w : World} {A : Around} {E : Value → Shared → Prop} {s : Shared} {h₀ : Heap} {L : Addr} {m : Str → Option Value} {news : List (Addr × Obj)}
theorem max_nice {a b : Int} {t u : Tok} {Q : Value → Shared → Prop} (hh : A.handled = none) (F : Fr h₀ L s.heap m) (N : News h₀ L s.heap news)
    (h : ∀ W tk' h' tk, IsMax a b W → a ≤ W → b ≤ W → Fr h₀ L h' m → News h₀ L h' news → Q (.int W tk') { s with heap := h', toks := tk }) :
    wpAny (model prog w) A (call (.builtin "max") [.int a t, .int b u]) Q E s :=
  max_two_N hh F N fun h' tk F' N' => h _ _ h' tk rfl (by split <;> omega) (by split <;> omega) F' N'
theorem min3_nice {a b c : Int} {t u x : Tok} {Q : Value → Shared → Prop} (hh : A.handled = none) (F : Fr h₀ L s.heap m) (N : News h₀ L s.heap news)
    (h : ∀ W tk' h' tk, W = (if b < a then (if c < b then c else b) else (if c < a then c else a)) → Fr h₀ L h' m → News h₀ L h' news → Q (.int W tk') { s with heap := h', toks := tk }) :
    wpAny (model prog w) A (call (.builtin "min") [.int a t, .int b u, .int c x]) Q E s := by
  refine min_three_ints hh fun h' tk hk => ?_
  have key := fun tok => h _ tok h' tk rfl (F.grownK hk) (N.grown hk)
  split <;> split <;> simp_all
end
end Mine
namespace Mine
/-- the end of a turn of a while that binds a name to another list of ints -/
def LREnd (h₀ : Heap) (L : Addr) (s : Shared) (y1 : Str) (news : List (Addr × Obj)) (m₀ : Str → Option Value) (P : List Int → Prop) (ns : List Int) (s₂ : Shared) : Prop :=
  ∃ (l' : Addr) (vs' : List Value) (ns' : List Int) (c' : Nat) (h' : Heap) (tk : Nat) (m' : Str → Option Value), s₂ = { s with heap := h', toks := tk } ∧ Fr h₀ L h' m' ∧ News h₀ L h' ((l', listOf vs'.toArray c') :: news) ∧ IntsAre vs' ns' ∧ m' y1 = some (.ref l') ∧ (∀ z, z ≠ y1 → m' z = m₀ z) ∧ P ns' ∧ ns'.length < ns.length
def LRPost (h₀ : Heap) (L : Addr) (s : Shared) (y1 : Str) (news : List (Addr × Obj)) (m₀ : Str → Option Value) (P : List Int → Prop) (Q : Flow → Shared → Prop) (ns : List Int) (f : Flow) (s₂ : Shared) : Prop :=
  match f with
  | .ret v => Q (.ret v) s₂
  | .brk => Q .next s₂
  | _ => LREnd h₀ L s y1 news m₀ P ns s₂
section
variable {prog : Program} {w : World} {A : Around} {E : Value → Shared → Prop} {Q : Flow → Shared → Prop} {s : Shared} {env : Env} {h₀ : Heap} {L : Addr}
theorem lr_end {m₀ m' : Str → Option Value} {l' : Addr} {news : List (Addr × Obj)} {vs' : List Value} {ns ns' : List Int} {c' : Nat} {y1 : Str} {P : List Int → Prop} {h' : Heap} {tk : Nat}
    (F : Fr h₀ L h' m') (N : News h₀ L h' ((l', listOf vs'.toArray c') :: news)) (hI : IntsAre vs' ns') (h1 : m' y1 = some (.ref l')) (hr : ∀ z, z ≠ y1 → m' z = m₀ z) (hP : P ns') (hμ : ns'.length < ns.length) :
    LREnd h₀ L s y1 news m₀ P ns { s with heap := h', toks := tk } := ⟨l', vs', ns', c', h', tk, m', rfl, F, N, hI, h1, hr, hP, hμ⟩
theorem while_R {test : PySem.Expr} {body : List Stmt} {pos : Pos} {m₀ : Str → Option Value} {l : Addr} {news : List (Addr × Obj)} {vs : List Value} {ns : List Int} {c : Nat} (y1 : Str) (P : List Int → Prop)
    (F : Fr h₀ L s.heap m₀) (N : News h₀ L s.heap ((l, listOf vs.toArray c) :: news)) (hI : IntsAre vs ns) (h1 : m₀ y1 = some (.ref l)) (hP : P ns)
    (turn : ∀ l vs ns c h tk, IntsAre vs ns → P ns → Fr h₀ L h (fun z => if z = y1 then some (.ref l) else m₀ z) → News h₀ L h ((l, listOf vs.toArray c) :: news) → KstMark →
      wpAny (model prog w) A (isTrue test env (eval test env)) (fun b s₂ =>
        if b = true then wpAny (model prog w) A (execs body env) (LRPost h₀ L s y1 news m₀ P Q ns) E s₂ else Q .next s₂) E { s with heap := h, toks := tk })
    (hE : PassesOwn (model prog w) A env E := by passes_own) :
    wpAny (model prog w) A (exec (.While test body [] pos) env) Q E s := by
  refine ksw_while (σ := Addr × List Value × List Int × Nat) (fun c => (c.1, listOf c.2.1.toArray c.2.2.2) :: news) (fun c => [(y1, .ref c.1)]) (fun c => IntsAre c.2.1 c.2.2.1) [] (fun c => P c.2.2.1) (fun c => c.2.2.1.length) (l, vs, ns, c) F N hI ?_ hP ?_ hE
  · intro p hp
    obtain rfl := List.mem_singleton.mp hp
    exact h1
  · rintro ⟨l, vs, ns, c⟩ u h tk hf hp F' N'
    have e : kstB (fun z => if ([] : List Str).contains z then u z else m₀ z) [(y1, Value.ref l)] = (fun z => if z = y1 then some (.ref l) else m₀ z) := by
      funext z; simp [kstB]
    refine wpAny_mono (turn l vs ns c h tk hf hp (by rw [← e]; exact F') N' kstMark) (fun b s₂ hq => ?_) fun _ _ x => x
    cases b with
    | false => exact hq
    | true =>
      simp only [if_true] at hq ⊢
      refine wpAny_mono hq (fun f s₃ hr => ?_) fun _ _ x => x
      have conv : LREnd h₀ L s y1 news m₀ P ns s₃ → KswEnd (σ := Addr × List Value × List Int × Nat) h₀ L s (fun c => (c.1, listOf c.2.1.toArray c.2.2.2) :: news) (fun c => [(y1, .ref c.1)]) (fun c => IntsAre c.2.1 c.2.2.1) [] m₀ (fun c => P c.2.2.1) (fun c => c.2.2.1.length) (l, vs, ns, c) s₃ := by
        rintro ⟨l', vs', ns', c', h', tk', m', rfl, F9, N9, hI9, h19, hr9, hP9, hμ9⟩
        refine ksw_end (l', vs', ns', c') F9 N9 (fun p hp => hp) hI9 ?_ ?_ hP9 hμ9
        · intro p hp
          obtain rfl := List.mem_singleton.mp hp
          exact h19
        · intro z hz _
          exact hr9 z (hz _ (.head _))
      cases f with
      | ret v => exact hr
      | brk => exact hr
      | next => exact conv hr
      | cont => exact conv hr
end
/-- the end of a turn of a for over a list that appends to one list and turns one int -/
def FAEnd (h₀ : Heap) (L : Addr) (x y : Str) (l : Addr) (news own : List (Addr × Obj)) (m₀ : Str → Option Value) (P : List Int → List Int → Int → Prop) (pre : List Int) (s₁ s₂ : Shared) : Prop :=
  ∃ (vs' : List Value) (ns' : List Int) (c' : Nat) (i' : Int) (ti' : Tok) (h' : Heap) (tk : Nat) (m' : Str → Option Value), s₂ = { s₁ with heap := h', toks := tk } ∧ Fr h₀ L h' m' ∧ News h₀ L h' ((l, listOf vs'.toArray c') :: (news ++ own)) ∧ IntsAre vs' ns' ∧ m' y = some (.int i' ti') ∧ (∀ z, z ≠ x → z ≠ y → m' z = m₀ z) ∧ P pre ns' i'
def FAPost (h₀ : Heap) (L : Addr) (x y : Str) (l : Addr) (news own : List (Addr × Obj)) (m₀ : Str → Option Value) (P : List Int → List Int → Int → Prop) (pre : List Int) (s₁ : Shared) (Q : Flow → Shared → Prop) (f : Flow) (s₂ : Shared) : Prop :=
  match f with
  | .ret v => Q (.ret v) s₂
  | .brk => Q .next s₂
  | _ => FAEnd h₀ L x y l news own m₀ P pre s₁ s₂
section
variable {prog : Program} {w : World} {A : Around} {E : Value → Shared → Prop} {Q : Flow → Shared → Prop} {s : Shared} {env : Env} {h₀ : Heap} {x : Str} {body : List Stmt}
theorem fa_end {L l : Addr} {y : Str} {news own : List (Addr × Obj)} {m₀ m' : Str → Option Value} {P : List Int → List Int → Int → Prop} {pre : List Int} {s₁ : Shared} {vs' : List Value} {ns' : List Int} {c' : Nat} {i' : Int} {ti' : Tok} {h' : Heap} {tk : Nat}
    (F : Fr h₀ L h' m') (N : News h₀ L h' ((l, listOf vs'.toArray c') :: (news ++ own))) (hI : IntsAre vs' ns') (h1 : m' y = some (.int i' ti')) (hr : ∀ z, z ≠ x → z ≠ y → m' z = m₀ z) (hP : P pre ns' i') :
    FAEnd h₀ L x y l news own m₀ P pre s₁ { s₁ with heap := h', toks := tk } := ⟨vs', ns', c', i', ti', h', tk, m', rfl, F, N, hI, h1, hr, hP⟩
theorem for_A {r : Addr} {ws : List Value} {ks : List Int} {cw : Nat} {m₀ : Str → Option Value} {l : Addr} {news : List (Addr × Obj)} {vs : List Value} {ns : List Int} {c : Nat} {i : Int} {ti : Tok} (y : Str) (P : List Int → List Int → Int → Prop)
    (hh : A.handled = none) (hr : (r, listOf ws.toArray cw) ∈ news) (hK : IntsAre ws ks) (F : Fr h₀ env.locals s.heap m₀) (N : News h₀ env.locals s.heap ((l, listOf vs.toArray c) :: news)) (hI : IntsAre vs ns) (hnl : ∀ p ∈ news, p.1 ≠ l) (h1 : m₀ y = some (.int i ti)) (hP : P [] ns i)
    (turn : ∀ vs ns c i ti pre k t h tk own, k ∈ ks → pre.length < ks.length → (∀ p ∈ news ++ own, p.1 ≠ l) → IntsAre vs ns → P pre ns i →
      Fr h₀ env.locals h (fun z => if z = x then some (.int k t) else if z = y then some (.int i ti) else m₀ z) → News h₀ env.locals h ((l, listOf vs.toArray c) :: (news ++ own)) → KstMark →
      wpAny (model prog w) A (execs body env) (FAPost h₀ env.locals x y l news own m₀ P (pre ++ [k]) { s with heap := h, toks := tk } Q) E { s with heap := h, toks := tk })
    (done : ∀ vs ns c i ti (u : Str → Option Value) h tk, IntsAre vs ns → P ks ns i → Fr h₀ env.locals h (fun z => if z = x then u z else if z = y then some (.int i ti) else m₀ z) → News h₀ env.locals h ((l, listOf vs.toArray c) :: news) → KstMark → Q .next { s with heap := h, toks := tk }) :
    wpAny (model prog w) A (pyIter (.ref r)) (fun it s₂ => LoopAtV prog w A h₀ env x body Q E it s₂) E s := by
  have bend : ∀ (u : Str → Option Value) (i : Int) (ti : Tok), kstB (fun z => if ([] : List Str).contains z then u z else m₀ z) [(y, Value.int i ti)] = (fun z => if z = y then some (.int i ti) else m₀ z) := by
    intro u i ti; funext z; simp [kstB]
  refine kst_listL (σ := List Value × List Int × Nat × Int × Tok) (fun c => (l, listOf c.1.toArray c.2.2.1) :: news) (fun c => [(y, .int c.2.2.2.1 c.2.2.2.2)]) (fun c => IntsAre c.1 c.2.1) [] (fun pre c => P pre c.2.1 c.2.2.2.1) (vs, ns, c, i, ti) hh (fun _ => .tail _ hr) hK F N hI ?_ hP ?_ ?_
  · intro p hp
    obtain rfl := List.mem_singleton.mp hp
    exact h1
  · rintro ⟨vs, ns, c, i, ti⟩ pre post k t u h tk own hks hmem hoff hf hp F' N'
    have off' : ∀ p ∈ news ++ own, p.1 ≠ l := by
      intro p hp
      rcases List.mem_append.mp hp with hp | hp
      · exact hnl p hp
      · exact hoff p hp l (.head _)
    have F'' : Fr h₀ env.locals h (fun z => if z = x then some (.int k t) else if z = y then some (.int i ti) else m₀ z) := by
      have e := bend u i ti
      have e2 : (fun z => if z = x then some (Value.int k t) else kstB (fun z => if ([] : List Str).contains z then u z else m₀ z) [(y, Value.int i ti)] z) = (fun z => if z = x then some (.int k t) else if z = y then some (.int i ti) else m₀ z) := by
        funext z; rw [e]
      rw [← e2]; exact F'
    refine wpAny_mono (turn vs ns c i ti pre k t h tk own hmem (by rw [hks]; simp) off' hf hp F'' N' kstMark) (fun f s₂ q => ?_) fun _ _ e => e
    have conv : FAEnd h₀ env.locals x y l news own m₀ P (pre ++ [k]) { s with heap := h, toks := tk } s₂ → InvEndN h₀ env.locals (KstS (σ := List Value × List Int × Nat × Int × Tok) (fun c => (l, listOf c.1.toArray c.2.2.1) :: news) (fun c => [(y, .int c.2.2.2.1 c.2.2.2.2)]) (fun c => IntsAre c.1 c.2.1) x [] m₀ (fun pre c => P pre c.2.1 c.2.2.2.1) (pre ++ [k])) own (l :: news.map (·.1)) { s with heap := h, toks := tk } s₂ := by
      rintro ⟨vs', ns', c', i', ti', h', tk', m', rfl, F9, N9, hI9, h19, hr9, hP9⟩
      refine InvEndN.intro F9 N9 ⟨(vs', ns', c', i', ti'), rfl, hI9, (fun (p : Str × Value) hp => ?_), fun z hz hz2 _ => hr9 z hz (hz2 _ (.head _)), hP9⟩ (by simp) (fun p hp => ?_) (fun p hp => ?_)
      · obtain rfl := List.mem_singleton.mp hp
        exact h19
      · rcases List.mem_cons.mp hp with rfl | hp
        · exact .head _
        · exact .tail _ (List.mem_append_left _ hp)
      · exact .tail _ (List.mem_append_right _ hp)
    cases f with
    | ret v => exact q
    | brk => exact q
    | next => exact conv q
    | cont => exact conv q
  · rintro ⟨vs, ns, c, i, ti⟩ u h tk hf hp F' N'
    refine done vs ns c i ti u h tk hf hp ?_ N' kstMark
    have e2 : (fun z => if z = x then u z else kstB (fun z => if ([] : List Str).contains z then u z else m₀ z) [(y, Value.int i ti)] z) = (fun z => if z = x then u z else if z = y then some (.int i ti) else m₀ z) := by
      funext z; rw [bend u i ti]
    rw [← e2]; exact F'
end
end Mine
namespace Mine
theorem getD_in {l : List Int} {i : Nat} (h : i < l.length) : l.getD i 0 ∈ l := by
  rw [List.getD_eq_getElem?_getD, List.getElem?_eq_getElem h]; exact List.getElem_mem h
theorem getD_out {l : List Int} {i : Nat} (h : l.length ≤ i) : l.getD i 0 = 0 := by
  rw [List.getD_eq_getElem?_getD, List.getElem?_eq_none h]; rfl
/-- all parts of a polynomial lie from nought to the modulus -/
def InP (p : Int) (l : List Int) : Prop := ∀ v ∈ l, 0 ≤ v ∧ v < p
theorem InP.getD {p : Int} {l : List Int} (h : InP p l) (hp : 0 < p) (i : Nat) : 0 ≤ l.getD i 0 ∧ l.getD i 0 < p := by
  by_cases hi : i < l.length
  · exact h _ (getD_in hi)
  · rw [getD_out (by omega)]; omega
theorem mod_id {p v : Int} (h0 : 0 ≤ v) (h1 : v < p) : v % p = v := Int.emod_eq_of_lt h0 h1
def val (x : Int) : List Int → Int
  | [] => 0
  | c :: cs => c + x * val x cs
def stepH (p x : Int) (a c : Int) : Int := (a * x % p + c) % p
def hor (p x : Int) (l : List Int) : Int := l.reverse.foldl (stepH p x) 0
theorem fold_turn {α : Type} {f : α → Int → α} {a b : α} {pre : List Int} {k : Int} (h : b = pre.foldl f a) : f b k = (pre ++ [k]).foldl f a := by rw [List.foldl_append, List.foldl_cons, List.foldl_nil, h]
theorem hor_nil {p x : Int} : hor p x [] = 0 := rfl
theorem hor_cons {p x c : Int} {cs : List Int} : hor p x (c :: cs) = (hor p x cs * x % p + c) % p := by
  simp only [hor, List.reverse_cons, List.foldl_append, List.foldl_cons, List.foldl_nil, stepH]
theorem hor_val {p x : Int} : ∀ l : List Int, hor p x l = val x l % p
  | [] => by rw [hor_nil, val, Int.zero_emod]
  | c :: cs => by
    rw [hor_cons, hor_val cs, val, Int.emod_add_emod, ← Int.emod_add_emod (val x cs % p * x), Int.mul_emod, Int.emod_emod_of_dvd _ (Int.dvd_refl p), ← Int.mul_emod, Int.emod_add_emod]
    congr 1
    rw [Int.mul_comm, Int.add_comm]
theorem hor_in {p x : Int} (hp : 0 < p) (l : List Int) : 0 ≤ hor p x l ∧ hor p x l < p := by
  rw [hor_val]
  exact ⟨Int.emod_nonneg _ (by omega), Int.emod_lt_of_pos _ hp⟩
/-- the quotient by a first power -/
def quo (p x : Int) : List Int → List Int
  | [] => []
  | _ :: cs => hor p x cs :: quo p x cs
def stepQ (p x : Int) (s : List Int × Int) (c : Int) : List Int × Int := (s.1 ++ [s.2], stepH p x s.2 c)
theorem quo_fold {p x : Int} : ∀ l : List Int, l.reverse.foldl (stepQ p x) ([], 0) = ((quo p x l).reverse, hor p x l)
  | [] => rfl
  | c :: cs => by
    rw [List.reverse_cons, List.foldl_append, quo_fold cs]
    simp only [List.foldl_cons, List.foldl_nil, stepQ, quo, List.reverse_cons, hor_cons, stepH]
theorem quo_length {p x : Int} : ∀ l : List Int, (quo p x l).length = l.length
  | [] => rfl
  | _ :: cs => by rw [quo, List.length_cons, List.length_cons, quo_length cs]
theorem quo_in {p x : Int} (hp : 0 < p) : ∀ l : List Int, InP p (quo p x l)
  | [] => fun _ h => nomatch h
  | _ :: cs => fun v h => by
    rw [quo] at h
    rcases List.mem_cons.mp h with rfl | h
    · exact hor_in hp cs
    · exact quo_in hp cs v h
theorem hor_drop {p x : Int} (hp : 0 < p) : ∀ (l : List Int) (k : Nat), hor p x (l.drop k) = (hor p x (l.drop (k + 1)) * x % p + l.getD k 0) % p
  | [], k => by simp [hor_nil]
  | c :: cs, 0 => by simp only [List.drop_zero, List.drop_succ_cons, hor_cons, List.getD_cons_zero]
  | c :: cs, k + 1 => by simp only [List.drop_succ_cons, List.getD_cons_succ]; exact hor_drop hp cs k
theorem quo_get {p x : Int} : ∀ (l : List Int) (k : Nat), (quo p x l).getD k 0 = hor p x (l.drop (k + 1))
  | [], k => by simp [quo, hor_nil]
  | c :: cs, 0 => by simp [quo]
  | c :: cs, k + 1 => by simp only [quo, List.getD_cons_succ, List.drop_succ_cons]; exact quo_get cs k
/-- trailing noughts cut off -/
def cutP : List Int → List Int
  | [] => []
  | c :: cs => if cutP cs = [] ∧ c = 0 then [] else c :: cutP cs
theorem cut_zero : ∀ l : List Int, (∀ k, l.getD k 0 = 0) → cutP l = []
  | [], _ => rfl
  | c :: cs, h => by
    have h0 : c = 0 := by simpa using h 0
    rw [cutP, if_pos ⟨cut_zero cs fun k => by simpa using h (k + 1), h0⟩]
theorem cut_ext : ∀ l l' : List Int, (∀ k, l.getD k 0 = l'.getD k 0) → cutP l = cutP l'
  | [], l', h => by rw [cut_zero l' fun k => by rw [← h k]; simp]; rfl
  | c :: cs, [], h => by rw [cut_zero (c :: cs) fun k => by rw [h k]; simp]; rfl
  | c :: cs, c' :: cs', h => by
    have h0 : c = c' := by simpa using h 0
    rw [cutP, cutP, cut_ext cs cs' fun k => by simpa using h (k + 1), h0]
theorem cut_get : ∀ (l : List Int) (k : Nat), (cutP l).getD k 0 = l.getD k 0
  | [], k => rfl
  | c :: cs, k => by
    rw [cutP]
    split
    · rename_i h
      have ih := fun k => cut_get cs k
      rw [h.1] at ih
      cases k with
      | zero => simp [h.2]
      | succ k => have := ih k; simp only [List.getD_nil] at this; simpa using this
    · cases k with
      | zero => simp
      | succ k => simpa using cut_get cs k
theorem cut_dropLast {l : List Int} (h : l.getD (l.length - 1) 0 = 0) : cutP l.dropLast = cutP l := by
  refine cut_ext _ _ fun k => ?_
  rw [List.getD_eq_getElem?_getD, List.getD_eq_getElem?_getD, List.getElem?_dropLast]
  split
  · rfl
  · rename_i hk
    rw [← List.getD_eq_getElem?_getD]
    by_cases e : k = l.length - 1
    · rw [e, h]; rfl
    · rw [getD_out (by omega)]; rfl
theorem cut_self : ∀ l : List Int, (l ≠ [] → l.getD (l.length - 1) 0 ≠ 0) → cutP l = l
  | [], _ => rfl
  | [c], h => by
    have := h (by simp)
    rw [cutP, if_neg (by simpa [cutP] using this)]; rfl
  | c :: d :: cs, h => by
    have ih := cut_self (d :: cs) (fun _ => by simpa using h (by simp))
    rw [cutP, ih, if_neg (by simp)]
theorem cut_in {p : Int} : ∀ l : List Int, InP p l → InP p (cutP l)
  | [], h => h
  | c :: cs, h => by
    have ih := cut_in cs fun v hv => h v (List.mem_cons_of_mem _ hv)
    rw [cutP]
    split
    · exact fun v hv => nomatch hv
    · intro v hv
      rcases List.mem_cons.mp hv with rfl | hv
      · exact h _ (.head _)
      · exact ih v hv
theorem cut_length : ∀ l : List Int, (cutP l).length ≤ l.length
  | [] => Nat.le_refl _
  | c :: cs => by
    rw [cutP]
    split
    · exact Nat.zero_le _
    · simpa using cut_length cs
theorem cut_last : ∀ l : List Int, cutP l ≠ [] → (cutP l).getD ((cutP l).length - 1) 0 ≠ 0
  | [], h => absurd rfl h
  | c :: cs, h => by
    rw [cutP] at h ⊢
    split at h
    · exact absurd rfl h
    · rename_i hn
      rw [if_neg hn]
      by_cases e : cutP cs = []
      · rw [e]; simpa [e] using hn
      · have ih := cut_last cs e
        rcases hc : cutP cs with _ | ⟨d, ds⟩
        · exact absurd hc e
        · rw [hc] at ih; simpa using ih
theorem cut_val {x : Int} : ∀ l : List Int, val x (cutP l) = val x l
  | [] => rfl
  | c :: cs => by
    rw [cutP]
    have ih := cut_val (x := x) cs
    split
    · rename_i h
      rw [h.1] at ih
      rw [val, val, ← ih, h.2]; simp [val]
    · rw [val, val, ih]
theorem cut_hor {p x : Int} (l : List Int) : hor p x (cutP l) = hor p x l := by rw [hor_val, hor_val, cut_val]
end Mine
namespace Mine
/-- alike by the modulus -/
def Cg (p a b : Int) : Prop := ∃ k, a = b + p * k
theorem Cg.rfl' {p a : Int} : Cg p a a := ⟨0, by grind⟩
theorem Cg.symm {p a b : Int} (h : Cg p a b) : Cg p b a := by obtain ⟨k, h⟩ := h; exact ⟨-k, by grind⟩
theorem Cg.trans {p a b c : Int} (h : Cg p a b) (g : Cg p b c) : Cg p a c := by obtain ⟨k, h⟩ := h; obtain ⟨j, g⟩ := g; exact ⟨k + j, by grind⟩
theorem Cg.add {p a b c d : Int} (h : Cg p a b) (g : Cg p c d) : Cg p (a + c) (b + d) := by obtain ⟨k, h⟩ := h; obtain ⟨j, g⟩ := g; exact ⟨k + j, by grind⟩
theorem Cg.sub {p a b c d : Int} (h : Cg p a b) (g : Cg p c d) : Cg p (a - c) (b - d) := by obtain ⟨k, h⟩ := h; obtain ⟨j, g⟩ := g; exact ⟨k - j, by grind⟩
theorem Cg.mul {p a b c d : Int} (h : Cg p a b) (g : Cg p c d) : Cg p (a * c) (b * d) := by obtain ⟨k, h⟩ := h; obtain ⟨j, g⟩ := g; exact ⟨b * j + k * d + p * k * j, by grind⟩
theorem Cg.mod {p a : Int} : Cg p (a % p) a := ⟨-(a / p), by have := Int.mul_ediv_add_emod a p; grind⟩
theorem Cg.trans' {p a b c : Int} (h : Cg p a b) (e : a = c) : Cg p c b := e ▸ h
theorem Cg.eq {p a b : Int} (h : Cg p a b) : a % p = b % p := by obtain ⟨k, rfl⟩ := h; exact Int.add_mul_emod_self_left b p k
theorem Cg.of {p a b : Int} (h : a % p = b % p) : Cg p a b := Cg.mod.symm.trans (h ▸ Cg.mod)
theorem Cg.fin {p a b : Int} (h : Cg p a b) (ha : 0 ≤ a ∧ a < p) (hb : 0 ≤ b ∧ b < p) : a = b := by
  have := h.eq
  rwa [mod_id ha.1 ha.2, mod_id hb.1 hb.2] at this
theorem getD_set {f : List Int} {i k : Nat} {w : Int} (h : i < f.length) : (f.set i w).getD k 0 = if k = i then w else f.getD k 0 := by
  rw [List.getD_eq_getElem?_getD, List.getD_eq_getElem?_getD, List.getElem?_set]
  by_cases e : i = k
  · rw [if_pos e, if_pos e.symm, if_pos (e ▸ h)]; rfl
  · rw [if_neg e, if_neg (Ne.symm e)]
theorem val_set {x w : Int} : ∀ (f : List Int) (i : Nat), i < f.length → val x (f.set i w) = val x f + x ^ i * (w - f.getD i 0)
  | [], _, h => by simp at h
  | c :: cs, 0, _ => by simp only [List.set_cons_zero, val, List.getD_cons_zero, Int.pow_zero]; grind
  | c :: cs, i + 1, h => by
    have ih := val_set (x := x) (w := w) cs i (by simpa using h)
    simp only [List.set_cons_succ, val, List.getD_cons_succ, Int.pow_succ, ih]; grind
def addAt (p : Int) (f : List Int) (i v : Int) : List Int := f.set i.toNat ((f.getD i.toNat 0 + v % p) % p)
theorem addAt_length {p i v : Int} {f : List Int} : (addAt p f i v).length = f.length := by simp [addAt]
theorem addAt_in {p i v : Int} {f : List Int} (hp : 0 < p) (h : InP p f) : InP p (addAt p f i v) := by
  intro z hz
  rcases List.mem_or_eq_of_mem_set hz with hz | rfl
  · exact h z hz
  · exact ⟨Int.emod_nonneg _ (by omega), Int.emod_lt_of_pos _ hp⟩
theorem addAt_val {p x v : Int} {f : List Int} {i : Int} (hi : i.toNat < f.length) : Cg p (val x (addAt p f i v)) (val x f + x ^ i.toNat * v) := by
  rw [addAt, val_set _ _ hi]
  have e : Cg p ((f.getD i.toNat 0 + v % p) % p) (f.getD i.toNat 0 + v) := Cg.mod.trans (Cg.rfl'.add Cg.mod)
  obtain ⟨k, e⟩ := e
  exact ⟨x ^ i.toNat * k, by rw [e]; grind⟩
theorem addAt_get {p v : Int} {f : List Int} {i : Int} (hi : i.toNat < f.length) (k : Nat) : Cg p ((addAt p f i v).getD k 0) (f.getD k 0 + if k = i.toNat then v else 0) := by
  rw [addAt, getD_set hi]
  by_cases e : k = i.toNat
  · rw [if_pos e, if_pos e, e]; exact Cg.mod.trans (Cg.rfl'.add Cg.mod)
  · rw [if_neg e, if_neg e]; exact ⟨0, by grind⟩
def rowStep (p a i : Int) (other : List Int) (f : List Int) (j : Int) : List Int := addAt p f (i + j) (a * other.getD j.toNat 0)
def rowP (p a i : Int) (other f : List Int) : List Int := (rangeKs 0 other.length).foldl (rowStep p a i other) f
def prodStep (p : Int) (one other : List Int) (f : List Int) (i : Int) : List Int := rowP p (one.getD i.toNat 0) i other f
def prodP (p : Int) (one other : List Int) : List Int := (rangeKs 0 one.length).foldl (prodStep p one other) (List.replicate (one.length + other.length) 0)
theorem rangeKs_zero_succ (n : Nat) : rangeKs 0 (n + 1) = rangeKs 0 n ++ [(n : Int)] := by
  simp [rangeKs, List.range_succ]
theorem val_take {x : Int} : ∀ (l : List Int) (n : Nat), n < l.length → val x (l.take (n + 1)) = val x (l.take n) + x ^ n * l.getD n 0
  | [], _, h => by simp at h
  | c :: cs, 0, _ => by simp [val]
  | c :: cs, n + 1, h => by
    have ih := val_take (x := x) cs n (by simpa using h)
    simp only [List.take_succ_cons, val, List.getD_cons_succ, ih, Int.pow_succ]; grind
theorem foldl_length {g : List Int → Int → List Int} (h : ∀ f i, (g f i).length = f.length) : ∀ (l : List Int) (f : List Int), (l.foldl g f).length = f.length
  | [], _ => rfl
  | i :: l, f => by rw [List.foldl_cons, foldl_length h l, h]
theorem foldl_in {p : Int} {g : List Int → Int → List Int} (h : ∀ f i, InP p f → InP p (g f i)) : ∀ (l : List Int) (f : List Int), InP p f → InP p (l.foldl g f)
  | [], _, hf => hf
  | i :: l, f, hf => by rw [List.foldl_cons]; exact foldl_in h l _ (h f i hf)
theorem rowStep_length {p a i j : Int} {other f : List Int} : (rowStep p a i other f j).length = f.length := addAt_length
theorem rowP_length {p a i : Int} {other f : List Int} : (rowP p a i other f).length = f.length := foldl_length (fun _ _ => addAt_length) _ _
theorem rowP_in {p a i : Int} {other f : List Int} (hp : 0 < p) (h : InP p f) : InP p (rowP p a i other f) := foldl_in (fun _ _ h => addAt_in hp h) _ _ h
theorem replicate_in {p : Int} (hp : 0 < p) (n : Nat) : InP p (List.replicate n 0) := fun v hv => by rw [List.eq_of_mem_replicate hv]; omega
theorem prodStep_length {p i : Int} {one other f : List Int} : (prodStep p one other f i).length = f.length := rowP_length
theorem prodP_length {p : Int} {one other : List Int} : (prodP p one other).length = one.length + other.length := by
  rw [prodP, foldl_length (fun _ _ => prodStep_length), List.length_replicate]
theorem prodP_in {p : Int} {one other : List Int} (hp : 0 < p) : InP p (prodP p one other) := foldl_in (fun _ _ h => rowP_in hp h) _ _ (replicate_in hp _)
theorem prod_pre {n : Int} {one other f pre : List Int} (hn : 0 < n) (h : f = pre.foldl (prodStep n one other) (List.replicate (one.length + other.length) 0)) : f.length = one.length + other.length ∧ InP n f := by
  rw [h]
  exact ⟨by rw [foldl_length (fun _ _ => prodStep_length), List.length_replicate], foldl_in (fun _ _ h => rowP_in hn h) _ _ (replicate_in hn _)⟩
theorem row_pre {n a i : Int} {other f g pre : List Int} (hn : 0 < n) (hg : InP n g) (h : f = pre.foldl (rowStep n a i other) g) : f.length = g.length ∧ InP n f := by
  rw [h]
  exact ⟨foldl_length (fun _ _ => addAt_length) _ _, foldl_in (fun _ _ h => addAt_in hn h) _ _ hg⟩
theorem prod_turn {n k : Int} {one other f g pre z : List Int} (h : f = pre.foldl (prodStep n one other) z) (hg : g = (rangeKs 0 ((other.length : Int) - 0).toNat).foldl (rowStep n (one.getD k.toNat 0) k other) f) : g = (pre ++ [k]).foldl (prodStep n one other) z := by
  rw [hg, show ((other.length : Int) - 0).toNat = other.length by omega, List.foldl_append, List.foldl_cons, List.foldl_nil, ← h]
  rfl
theorem rep_flat {α : Type} {f : List Int → α → List Int} {k a : Nat} (h : k = a) : (List.replicate k [(0 : Int)]).flatten = ([] : List α).foldl f (List.replicate a 0) := by
  subst h
  rw [List.foldl_nil]
  induction k with
  | zero => rfl
  | succ k ih => rw [List.replicate_succ, List.flatten_cons, ih, List.replicate_succ]; rfl
theorem prod_end {n : Int} {one other f : List Int} (h : f = (rangeKs 0 ((one.length : Int) - 0).toNat).foldl (prodStep n one other) (List.replicate (one.length + other.length) 0)) : f = prodP n one other := by
  rw [h, show ((one.length : Int) - 0).toNat = one.length by omega]; rfl
theorem pad_get {k : Nat} {l : List Int} {i : Nat} : (l ++ (List.replicate k [(0 : Int)]).flatten).getD i 0 = l.getD i 0 := by
  by_cases h : i < l.length
  · rw [List.getD_eq_getElem?_getD, List.getD_eq_getElem?_getD, List.getElem?_append_left h]
  · rw [getD_out (l := l) (by omega)]
    by_cases h2 : i < (l ++ (List.replicate k [(0 : Int)]).flatten).length
    · have hm := getD_in h2
      rw [List.getD_eq_getElem?_getD, List.getElem?_append_right (by omega), ← List.getD_eq_getElem?_getD]
      by_cases h3 : i - l.length < (List.replicate k [(0 : Int)]).flatten.length
      · obtain ⟨z, hz, hv⟩ := List.mem_flatten.mp (getD_in h3)
        rw [List.eq_of_mem_replicate hz] at hv
        simpa using hv
      · exact getD_out (by omega)
    · exact getD_out (by omega)
theorem pad_in {n : Int} {k : Nat} {l : List Int} {i : Nat} (h : ∀ i, 0 ≤ l.getD i 0 ∧ l.getD i 0 < n) : 0 ≤ (l ++ (List.replicate k [(0 : Int)]).flatten).getD i 0 ∧ (l ++ (List.replicate k [(0 : Int)]).flatten).getD i 0 < n := by
  rw [pad_get]; exact h i
theorem rep_len (k : Nat) : (List.replicate k [(0 : Int)]).flatten.length = k := by
  induction k with
  | zero => rfl
  | succ k ih => rw [List.replicate_succ, List.flatten_cons, List.length_append, ih]; simp; omega
theorem idx_pad {l : List Int} {k W : Int} (h : k < W) : k < ((l ++ (List.replicate (W - l.length).toNat [(0 : Int)]).flatten).length : Int) := by
  rw [List.length_append, rep_len]; omega
theorem row_val {p a i x : Int} {other f : List Int} (hi : 0 ≤ i) (hl : i.toNat + other.length ≤ f.length) : Cg p (val x (rowP p a i other f)) (val x f + x ^ i.toNat * (a * val x other)) := by
  have key : ∀ n, n ≤ other.length → Cg p (val x ((rangeKs 0 n).foldl (rowStep p a i other) f)) (val x f + x ^ i.toNat * (a * val x (other.take n))) := by
    intro n
    induction n with
    | zero => intro _; exact ⟨0, by simp [rangeKs, val]⟩
    | succ n ih =>
      intro hn
      rw [rangeKs_zero_succ, List.foldl_append, List.foldl_cons, List.foldl_nil]
      have hlen : ((rangeKs 0 n).foldl (rowStep p a i other) f).length = f.length := foldl_length (fun _ _ => addAt_length) _ _
      refine (addAt_val (by rw [hlen]; omega)).trans ?_
      obtain ⟨k, e⟩ := ih (by omega)
      rw [e, val_take _ _ (by omega), show (i + (n : Int)).toNat = i.toNat + n by omega, Int.pow_add, show ((n : Int)).toNat = n by omega]
      exact ⟨k, by grind⟩
  have := key other.length (Nat.le_refl _)
  rwa [List.take_length] at this
theorem val_replicate {x : Int} : ∀ n, val x (List.replicate n 0) = 0
  | 0 => rfl
  | n + 1 => by rw [List.replicate_succ, val, val_replicate n]; simp
theorem prod_val {p x : Int} (one other : List Int) : Cg p (val x (prodP p one other)) (val x one * val x other) := by
  have key : ∀ n, n ≤ one.length → Cg p (val x ((rangeKs 0 n).foldl (prodStep p one other) (List.replicate (one.length + other.length) 0))) (val x (one.take n) * val x other) := by
    intro n
    induction n with
    | zero => intro _; exact ⟨0, by simp [rangeKs, val, val_replicate]⟩
    | succ n ih =>
      intro hn
      rw [rangeKs_zero_succ, List.foldl_append, List.foldl_cons, List.foldl_nil]
      have hlen : ((rangeKs 0 n).foldl (prodStep p one other) (List.replicate (one.length + other.length) 0)).length = one.length + other.length := by rw [foldl_length (fun _ _ => prodStep_length), List.length_replicate]
      refine (row_val (by omega) (by rw [hlen]; omega)).trans ?_
      obtain ⟨k, e⟩ := ih (by omega)
      rw [e, val_take _ _ (by omega), show ((n : Int)).toNat = n by omega]
      exact ⟨k, by grind⟩
  have := key one.length (Nat.le_refl _)
  rwa [List.take_length] at this
theorem hor_prod {p x : Int} (one other : List Int) : hor p x (prodP p one other) = hor p x one * hor p x other % p := by
  rw [hor_val, hor_val, hor_val]
  exact ((prod_val one other).trans (Cg.mod.symm.mul Cg.mod.symm)).eq
/-- the sum of two -/
def sumP (p : Int) (one other : List Int) : List Int := (rangeKs 0 (max one.length other.length)).map fun i => (one.getD i.toNat 0 + other.getD i.toNat 0) % p
theorem sum_get {p : Int} {one other : List Int} (k : Nat) : (sumP p one other).getD k 0 = (one.getD k 0 + other.getD k 0) % p := by
  by_cases h : k < max one.length other.length
  · rw [List.getD_eq_getElem?_getD, sumP, List.getElem?_map]
    simp [rangeKs, h]
  · rw [getD_out (by simp [sumP, rangeKs]; omega), getD_out (l := one) (by omega), getD_out (l := other) (by omega)]; simp
theorem sum_in {p : Int} {one other : List Int} (hp : 0 < p) : InP p (sumP p one other) := by
  intro v hv
  obtain ⟨i, _, rfl⟩ := List.mem_map.mp hv
  exact ⟨Int.emod_nonneg _ (by omega), Int.emod_lt_of_pos _ hp⟩
theorem sum_length {p : Int} {one other : List Int} : (sumP p one other).length = max one.length other.length := by simp [sumP, rangeKs]
def addL : List Int → List Int → List Int
  | [], b => b
  | a, [] => a
  | a :: as, b :: bs => (a + b) :: addL as bs
theorem addL_get : ∀ (a b : List Int) (k : Nat), (addL a b).getD k 0 = a.getD k 0 + b.getD k 0
  | [], b, k => by simp [addL]
  | a :: as, [], k => by simp [addL]
  | a :: as, b :: bs, 0 => by simp [addL]
  | a :: as, b :: bs, k + 1 => by simpa [addL] using addL_get as bs k
theorem addL_val {x : Int} : ∀ (a b : List Int), val x (addL a b) = val x a + val x b
  | [], b => by simp [addL, val]
  | a :: as, [] => by simp [addL, val]
  | a :: as, b :: bs => by simp only [addL, val, addL_val as bs]; grind
theorem val_ext {p x : Int} : ∀ a b : List Int, (∀ k, Cg p (a.getD k 0) (b.getD k 0)) → Cg p (val x a) (val x b)
  | [], [], _ => Cg.rfl'
  | [], b :: bs, h => by
    have ih := val_ext (x := x) [] bs fun k => by simpa using h (k + 1)
    have h0 : Cg p 0 b := by simpa using h 0
    exact (h0.add (Cg.rfl'.mul ih)).trans' (by simp [val])
  | a :: as, [], h => by
    have ih := val_ext (x := x) as [] fun k => by simpa using h (k + 1)
    have h0 : Cg p a 0 := by simpa using h 0
    have e : val x [] = 0 + x * val x [] := by simp [val]
    rw [e]
    exact h0.add (Cg.rfl'.mul ih)
  | a :: as, b :: bs, h => by
    have ih := val_ext (x := x) as bs fun k => by simpa using h (k + 1)
    have h0 : Cg p a b := by simpa using h 0
    exact h0.add (Cg.rfl'.mul ih)
theorem hor_sum {p x : Int} (one other : List Int) : hor p x (sumP p one other) = (hor p x one + hor p x other) % p := by
  rw [hor_val, hor_val, hor_val]
  refine ((val_ext (sumP p one other) (addL one other) fun k => ?_).trans ?_).eq
  · rw [sum_get, addL_get]; exact Cg.mod
  · rw [addL_val]; exact Cg.mod.symm.add Cg.mod.symm
end Mine
namespace Mine
def primes2 : List Int := [3, 5, 7, 11, 13]
def zeroTo (n : Int) : List Int := (List.range n.toNat).map fun (i : Nat) => (i : Int)
theorem mem_zeroTo {n x : Int} (hx : 0 ≤ x) (hx' : x < n) : x ∈ zeroTo n := List.mem_map.mpr ⟨x.toNat, List.mem_range.mpr (by omega), by omega⟩
theorem no_zero : ∀ p ∈ primes2, ∀ a ∈ zeroTo p, ∀ b ∈ zeroTo p, a * b % p = 0 → a = 0 ∨ b = 0 := by decide +kernel
theorem p_pos : ∀ p ∈ primes2, 3 ≤ p ∧ p ≤ 13 := by decide
theorem prime_zero {p a b : Int} (hp : p ∈ primes2) (h : Cg p (a * b) 0) : Cg p a 0 ∨ Cg p b 0 := by
  have h0 := p_pos p hp
  have e : (a % p) * (b % p) % p = 0 := by
    have := ((Cg.mod (p := p) (a := a)).mul (Cg.mod (p := p) (a := b)) |>.trans h).eq
    simpa using this
  rcases no_zero p hp _ (mem_zeroTo (Int.emod_nonneg a (by omega)) (Int.emod_lt_of_pos a (by omega))) _ (mem_zeroTo (Int.emod_nonneg b (by omega)) (Int.emod_lt_of_pos b (by omega))) e with h | h
  · exact .inl (Cg.of (by simpa using h))
  · exact .inr (Cg.of (by simpa using h))
/-- the quotient, not reduced -/
def quoI (r : Int) : List Int → List Int
  | [] => []
  | [_] => []
  | _ :: c :: cs => val r (c :: cs) :: quoI r (c :: cs)
theorem quoI_val {r y : Int} : ∀ l : List Int, val y l - val r l = (y - r) * val y (quoI r l)
  | [] => by simp [val, quoI]
  | [c] => by simp [val, quoI]
  | a :: c :: cs => by
    have ih := quoI_val (r := r) (y := y) (c :: cs)
    have e1 : val y (a :: c :: cs) = a + y * val y (c :: cs) := rfl
    have e2 : val r (a :: c :: cs) = a + r * val r (c :: cs) := rfl
    have e3 : val y (quoI r (a :: c :: cs)) = val r (c :: cs) + y * val y (quoI r (c :: cs)) := rfl
    rw [e1, e2, e3]
    have e : val y (c :: cs) = val r (c :: cs) + (y - r) * val y (quoI r (c :: cs)) := by grind
    rw [e]; grind
theorem quoI_length {r : Int} : ∀ l : List Int, (quoI r l).length = l.length - 1
  | [] => rfl
  | [_] => rfl
  | _ :: c :: cs => by rw [quoI, List.length_cons, quoI_length (c :: cs)]; simp
theorem quoI_lead {r : Int} : ∀ l : List Int, 2 ≤ l.length → (quoI r l).getD ((quoI r l).length - 1) 0 = l.getD (l.length - 1) 0
  | [], h => by simp at h
  | [_], h => by simp at h
  | [_, c], _ => by simp [quoI, val]
  | _ :: c :: d :: cs, _ => by
    have ih := quoI_lead (r := r) (c :: d :: cs) (by simp)
    have e := quoI_length (r := r) (c :: d :: cs)
    rw [quoI]
    rcases hq : quoI r (c :: d :: cs) with _ | ⟨z, zs⟩
    · rw [hq] at e; simp at e
    · rw [hq] at ih; simpa using ih
theorem filter_one {α : Type} {r : α} (P Q : α → Bool) : ∀ l : List α, l.Nodup → (∀ x ∈ l, P x = true → x = r ∨ Q x = true) → (l.filter P).length ≤ 1 + (l.filter Q).length
  | [], _, _ => by simp
  | a :: l, hn, h => by
    rw [List.nodup_cons] at hn
    have ih := filter_one P Q l hn.2 fun x hx => h x (List.mem_cons_of_mem _ hx)
    rw [List.filter_cons, List.filter_cons]
    by_cases hP : P a = true
    · by_cases hQ : Q a = true
      · simp only [hP, hQ, if_true, List.length_cons]; omega
      · rw [if_pos hP, if_neg hQ, List.length_cons]
        rcases h a (.head _) hP with rfl | h'
        · have le : (l.filter P).length ≤ (l.filter Q).length := by
            have e : l.filter P = (l.filter P).filter Q := by
              rw [List.filter_filter]
              refine List.filter_congr fun x hx => ?_
              by_cases hx' : P x = true
              · rcases h x (List.mem_cons_of_mem _ hx) hx' with rfl | g
                · exact absurd hx hn.1
                · simp [hx', g]
              · simp [hx']
            rw [e, List.filter_filter]
            have : (l.filter fun a => Q a && P a) = (l.filter Q).filter P := by rw [List.filter_filter]; exact List.filter_congr fun x _ => Bool.and_comm _ _
            rw [this]
            exact List.length_filter_le _ _
          omega
        · exact absurd h' hQ
    · rw [if_neg hP]
      by_cases hQ : Q a = true
      · rw [if_pos hQ, List.length_cons]; omega
      · rw [if_neg hQ]; exact ih
theorem range_nodup (a : Int) (n : Nat) : (rangeKs a n).Nodup := by
  rw [rangeKs, List.Nodup, List.pairwise_map]
  exact (List.nodup_range (n := n)).imp fun h e => h (by omega)
/-- the roots -/
def rootsP (p : Int) (l : List Int) : List Int := (rangeKs 0 p.toNat).filter fun x => hor p x l == 0
theorem mem_roots {p x : Int} {l : List Int} (hp : 0 < p) : x ∈ rootsP p l ↔ (0 ≤ x ∧ x < p) ∧ Cg p (val x l) 0 := by
  rw [rootsP, List.mem_filter, beq_iff_eq, hor_val]
  constructor
  · rintro ⟨h1, h2⟩
    have := mem_rangeKs h1
    exact ⟨⟨by omega, by omega⟩, Cg.of (by simpa using h2)⟩
  · rintro ⟨h1, h2⟩
    exact ⟨List.mem_map.mpr ⟨x.toNat, List.mem_range.mpr (by omega), by omega⟩, by simpa using h2.eq⟩
theorem root_split {p r y : Int} {l : List Int} (hp : p ∈ primes2) (hr : r ∈ rootsP p l) (hy : y ∈ rootsP p l) : y = r ∨ y ∈ rootsP p (quoI r l) := by
  have h0 := p_pos p hp
  have h1 := (mem_roots (by omega)).mp hr
  have h2 := (mem_roots (by omega)).mp hy
  have e := quoI_val (r := r) (y := y) l
  have h3 : Cg p ((y - r) * val y (quoI r l)) 0 := by
    rw [← e]
    exact (h2.2.sub h1.2)
  rcases prime_zero hp h3 with h | h
  · left
    have := h.eq
    obtain ⟨k, hk⟩ := h
    have hk0 : k = 0 := by
      rcases Int.lt_trichotomy k 0 with h | h | h
      · have : p * k ≤ p * (-1) := Int.mul_le_mul_of_nonneg_left (by omega) (by omega)
        omega
      · exact h
      · have : p * 1 ≤ p * k := Int.mul_le_mul_of_nonneg_left (by omega) (by omega)
        omega
    rw [hk0] at hk
    omega
  · exact .inr ((mem_roots (by omega)).mpr ⟨h2.1, h⟩)
theorem roots_count {p : Int} (hp : p ∈ primes2) : ∀ (n : Nat) (l : List Int), l.length = n + 1 → ¬ Cg p (l.getD (l.length - 1) 0) 0 → (rootsP p l).length ≤ n := by
  have h0 := p_pos p hp
  intro n
  induction n with
  | zero =>
    intro l hl hlead
    rcases l with _ | ⟨c, _ | ⟨d, l⟩⟩
    · simp at hl
    · have e : rootsP p [c] = [] := by
        rw [List.eq_nil_iff_forall_not_mem]
        intro x hx
        have := ((mem_roots (by omega)).mp hx).2
        simp only [val, Int.mul_zero, Int.add_zero] at this
        exact hlead (by simpa using this)
      rw [e]; simp
    · simp at hl
  | succ n ih =>
    intro l hl hlead
    rcases hr : rootsP p l with _ | ⟨r, rs⟩
    · simp
    · rw [← hr]
      have hrm : r ∈ rootsP p l := by rw [hr]; exact .head _
      have h1 := ih (quoI r l) (by rw [quoI_length]; omega) (by rw [quoI_lead l (by omega)]; exact hlead)
      have h2 := filter_one (r := r) (fun x => hor p x l == 0) (fun x => hor p x (quoI r l) == 0) (rangeKs 0 p.toNat) (range_nodup _ _) fun x hx hP => by
        have hxm : x ∈ rootsP p l := List.mem_filter.mpr ⟨hx, hP⟩
        rcases root_split hp hrm hxm with h | h
        · exact .inl h
        · exact .inr (List.mem_filter.mp h).2
      have h3 : (rootsP p l).length ≤ 1 + (rootsP p (quoI r l)).length := h2
      omega
/-- the quotient that the program makes is alike -/
theorem quo_alike {p r y : Int} (l : List Int) : Cg p (val y (quo p r l)) (val y (quoI r l)) := by
  refine val_ext _ _ fun k => ?_
  have key : ∀ (l : List Int) (k : Nat), (quoI r l).getD k 0 = val r (l.drop (k + 1)) := by
    intro l
    induction l with
    | nil => intro k; simp [quoI, val]
    | cons a l ih =>
      intro k
      rcases l with _ | ⟨c, cs⟩
      · simp [quoI, val]
      · rw [quoI]
        cases k with
        | zero => simp
        | succ k => simpa using ih k
  rw [quo_get, key, hor_val]
  exact Cg.mod
theorem roots_quo {p r : Int} (l : List Int) : rootsP p (quo p r l) = rootsP p (quoI r l) := by
  refine List.filter_congr fun x _ => ?_
  rw [hor_val, hor_val, (quo_alike l).eq]
/-- no more roots than the degree -/
theorem roots_few {p : Int} {l : List Int} (hp : p ∈ primes2) (hl : InP p l) (h : cutP l ≠ []) : (rootsP p (cutP l)).length ≤ (cutP l).length - 1 := by
  have h0 := p_pos p hp
  have hlen : 0 < (cutP l).length := List.length_pos_iff.mpr h
  refine roots_count hp _ _ (by omega) fun hc => cut_last l h ?_
  have hb := (cut_in l hl).getD (by omega) ((cutP l).length - 1)
  exact hc.fin hb (by omega)
/-- all other roots are the quotient's -/
theorem roots_others {p r : Int} {l : List Int} (hp : p ∈ primes2) (hr : r ∈ rootsP p l) : (rootsP p l).filter (fun one => one != r && !((rootsP p (quo p r l)).any fun z => z == one)) = [] := by
  rw [List.filter_eq_nil_iff]
  intro y hy
  rw [roots_quo]
  rcases root_split hp hr hy with rfl | h
  · simp
  · have : (rootsP p (quoI r l)).any (fun z => z == y) = true := List.any_eq_true.mpr ⟨y, h, by simp⟩
    simp [this]
theorem root_rest {p r : Int} {l : List Int} (hr : r ∈ rootsP p l) : hor p r l = 0 := by simpa using (List.mem_filter.mp hr).2
end Mine
namespace Mine
theorem row_first {p a i m : Int} {f : List Int} (hi : 0 ≤ i) (hl : i.toNat + 2 ≤ f.length) (k : Nat) : Cg p ((rowP p a i [m, 1] f).getD k 0) (f.getD k 0 + (if k = i.toNat then a * m else 0) + (if k = i.toNat + 1 then a else 0)) := by
  have e : rowP p a i [m, 1] f = addAt p (addAt p f (i + 0) (a * m)) (i + 1) (a * 1) := rfl
  rw [e]
  refine (addAt_get (by rw [addAt_length]; omega) k).trans ?_
  have h1 := addAt_get (p := p) (v := a * m) (f := f) (i := i + 0) (by rw [Int.add_zero]; omega) k
  rw [Int.add_zero, Int.mul_one, show (i + 1).toNat = i.toNat + 1 by omega]
  rw [Int.add_zero] at h1
  exact h1.add Cg.rfl'
theorem prod_first {p m : Int} (q : List Int) (k : Nat) : Cg p ((prodP p q [m, 1]).getD k 0) (q.getD k 0 * m + if k = 0 then 0 else q.getD (k - 1) 0) := by
  have key : ∀ n, n ≤ q.length → Cg p (((rangeKs 0 n).foldl (prodStep p q [m, 1]) (List.replicate (q.length + [m, 1].length) 0)).getD k 0) ((if k < n then q.getD k 0 * m else 0) + if 1 ≤ k ∧ k - 1 < n then q.getD (k - 1) 0 else 0) := by
    intro n
    induction n with
    | zero =>
      intro _
      refine ⟨0, ?_⟩
      have : (List.replicate (q.length + [m, 1].length) (0 : Int)).getD k 0 = 0 := by
        by_cases h : k < (List.replicate (q.length + [m, 1].length) (0 : Int)).length
        · exact List.eq_of_mem_replicate (getD_in h)
        · exact getD_out (by omega)
      simp only [rangeKs, List.range_zero, List.map_nil, List.foldl_nil, this]
      simp
    | succ n ih =>
      intro hn
      rw [rangeKs_zero_succ, List.foldl_append, List.foldl_cons, List.foldl_nil]
      have hlen : ((rangeKs 0 n).foldl (prodStep p q [m, 1]) (List.replicate (q.length + [m, 1].length) 0)).length = q.length + 2 := by rw [foldl_length (fun _ _ => prodStep_length), List.length_replicate]; rfl
      refine (row_first (by omega) (by rw [hlen]; omega) k).trans ?_
      obtain ⟨j, e⟩ := ih (by omega)
      rw [e, show ((n : Int)).toNat = n by omega]
      refine ⟨j, ?_⟩
      by_cases h1 : k = n
      · subst h1
        rw [if_neg (Nat.lt_irrefl k), if_pos (show k < k + 1 by omega), if_pos rfl, if_neg (show ¬ k = k + 1 by omega)]
        by_cases h2 : 1 ≤ k
        · rw [if_pos ⟨h2, show k - 1 < k by omega⟩, if_pos ⟨h2, show k - 1 < k + 1 by omega⟩]; grind
        · rw [if_neg (by omega), if_neg (by omega)]; grind
      · by_cases h2 : k = n + 1
        · subst h2
          rw [if_neg (by omega), if_neg (by omega), if_neg (by omega), if_pos rfl, if_neg (by omega), if_pos (by omega), show n + 1 - 1 = n by omega]; grind
        · rw [if_neg h1, if_neg h2]
          by_cases h3 : k < n
          · rw [if_pos h3, if_pos (show k < n + 1 by omega)]
            by_cases h4 : 1 ≤ k
            · rw [if_pos ⟨h4, show k - 1 < n by omega⟩, if_pos ⟨h4, show k - 1 < n + 1 by omega⟩]; grind
            · rw [if_neg (by omega), if_neg (by omega)]; grind
          · rw [if_neg h3, if_neg (by omega), if_neg (by omega), if_neg (by omega)]; grind
  refine (key q.length (Nat.le_refl _)).trans ⟨0, ?_⟩
  by_cases h1 : k < q.length
  · rw [if_pos h1]
    by_cases h2 : k = 0
    · rw [if_pos h2, if_neg (show ¬ (1 ≤ k ∧ k - 1 < q.length) by omega)]; grind
    · rw [if_neg h2, if_pos (show 1 ≤ k ∧ k - 1 < q.length by omega)]; grind
  · rw [if_neg h1, getD_out (l := q) (i := k) (by omega)]
    by_cases h2 : k = 0
    · rw [if_pos h2, if_neg (show ¬ (1 ≤ k ∧ k - 1 < q.length) by omega)]; grind
    · rw [if_neg h2]
      by_cases h3 : k - 1 < q.length
      · rw [if_pos ⟨by omega, h3⟩]; grind
      · rw [if_neg (show ¬ (1 ≤ k ∧ k - 1 < q.length) by omega), getD_out (l := q) (i := k - 1) (by omega)]; grind
/-- quotient times first power, and what is left: the polynomial -/
theorem again_cut {p x : Int} {l : List Int} (hp : 0 < p) (hl : InP p l) : cutP (sumP p (prodP p (quo p x l) [(0 - x) % p, 1]) [hor p x l]) = cutP l := by
  refine cut_ext _ _ fun k => ?_
  have hc : Cg p ((sumP p (prodP p (quo p x l) [(0 - x) % p, 1]) [hor p x l]).getD k 0) (l.getD k 0) := by
    rw [sum_get]
    refine Cg.mod.trans ?_
    have h1 := prod_first (p := p) (m := (0 - x) % p) (quo p x l) k
    rw [quo_get] at h1
    have h2 : Cg p (hor p x (l.drop k)) (hor p x (l.drop (k + 1)) * x + l.getD k 0) := by
      rw [hor_drop hp l k]
      exact Cg.mod.trans (Cg.mod.add Cg.rfl')
    have h3 : Cg p (hor p x (l.drop (k + 1)) * ((0 - x) % p)) (hor p x (l.drop (k + 1)) * (0 - x)) := Cg.rfl'.mul Cg.mod
    obtain ⟨j1, h1⟩ := h1
    obtain ⟨j2, h2⟩ := h2
    obtain ⟨j3, h3⟩ := h3
    cases k with
    | zero =>
      rw [if_pos rfl] at h1
      rw [h1, h3]
      simp only [List.drop_zero] at h2
      refine ⟨j1 + j2 + j3, ?_⟩
      rw [List.getD_cons_zero, h2]; grind
    | succ k =>
      rw [if_neg (by omega), show k + 1 - 1 = k by omega, quo_get, h2] at h1
      rw [h1, h3]
      refine ⟨j1 + j2 + j3, ?_⟩
      rw [List.getD_cons_succ, List.getD_nil]; grind
  exact hc.fin ((sum_in hp).getD hp k) (hl.getD hp k)
/-- by powers -/
def powStep (p x : Int) (l : List Int) (a i : Int) : Int := (a + l.getD i.toNat 0 * (x ^ i.toNat % p) % p) % p
theorem powers_hor {p x : Int} (l : List Int) : (rangeKs 0 l.length).foldl (powStep p x l) 0 = hor p x l := by
  have key : ∀ n, n ≤ l.length → Cg p ((rangeKs 0 n).foldl (powStep p x l) 0) (val x (l.take n)) := by
    intro n
    induction n with
    | zero => intro _; exact Cg.rfl'
    | succ n ih =>
      intro hn
      rw [rangeKs_zero_succ, List.foldl_append, List.foldl_cons, List.foldl_nil, powStep, show ((n : Int)).toNat = n by omega, val_take _ _ (by omega), Int.mul_comm (x ^ n)]
      exact Cg.mod.trans ((ih (by omega)).add (Cg.mod.trans (Cg.rfl'.mul Cg.mod)))
  have h := key l.length (Nat.le_refl _)
  rw [List.take_length] at h
  rw [hor_val]
  rcases hn : l.length with _ | n
  · have : l = [] := List.length_eq_zero_iff.mp hn
    subst this; simp [rangeKs, val]
  · rw [hn] at h
    rw [← h.eq]
    rw [rangeKs_zero_succ, List.foldl_append, List.foldl_cons, List.foldl_nil, powStep, Int.emod_emod_of_dvd _ (Int.dvd_refl p)]
theorem powers_end {p x b : Int} {l : List Int} (h : b = (rangeKs 0 ((l.length : Int) - 0).toNat).foldl (powStep p x l) 0) : b = hor p x l := by
  rw [h, show ((l.length : Int) - 0).toNat = l.length by omega, powers_hor]
/-- the sum of parts times powers -/
theorem sum_val {x : Int} (l : List Int) : ((rangeKs 0 l.length).map fun i => l.getD i.toNat 0 * x ^ i.toNat).sum = val x l := by
  have key : ∀ n, n ≤ l.length → ((rangeKs 0 n).map fun i => l.getD i.toNat 0 * x ^ i.toNat).sum = val x (l.take n) := by
    intro n
    induction n with
    | zero => intro _; rfl
    | succ n ih =>
      intro hn
      rw [rangeKs_zero_succ, List.map_append, List.sum_append, ih (by omega), List.map_cons, List.map_nil, List.sum_cons, List.sum_nil, val_take _ _ (by omega), show ((n : Int)).toNat = n by omega]
      grind
  have h := key l.length (Nat.le_refl _)
  rwa [List.take_length] at h
/-- through one, two, three places -/
def partP (p v b : Int) (row : List Int) : List Int := row.map fun part => part * (v * (b ^ (p - 2).toNat % p) % p) % p
def through1 (p v0 : Int) : List Int := sumP p [0] (partP p v0 1 [1])
def through2 (p v0 v1 : Int) : List Int :=
  sumP p (sumP p [0, 0] (partP p v0 (1 * ((0 - 1) % p) % p) (prodP p [1] [(0 - 1) % p, 1]))) (partP p v1 (1 * ((1 - 0) % p) % p) (prodP p [1] [(0 - 0) % p, 1]))
def through3 (p v0 v1 v2 : Int) : List Int :=
  sumP p (sumP p (sumP p [0, 0, 0]
    (partP p v0 (1 * ((0 - 1) % p) % p * ((0 - 2) % p) % p) (prodP p (prodP p [1] [(0 - 1) % p, 1]) [(0 - 2) % p, 1])))
    (partP p v1 (1 * ((1 - 0) % p) % p * ((1 - 2) % p) % p) (prodP p (prodP p [1] [(0 - 0) % p, 1]) [(0 - 2) % p, 1])))
    (partP p v2 (1 * ((2 - 0) % p) % p * ((2 - 1) % p) % p) (prodP p (prodP p [1] [(0 - 0) % p, 1]) [(0 - 1) % p, 1]))
theorem through1_cut : ∀ p ∈ primes2, ∀ c0 ∈ zeroTo p, cutP (through1 p (hor p 0 [c0])) = cutP [c0] := by decide +kernel
theorem through2_cut : ∀ p ∈ primes2, ∀ c0 ∈ zeroTo p, ∀ c1 ∈ zeroTo p, cutP (through2 p (hor p 0 [c0, c1]) (hor p 1 [c0, c1])) = cutP [c0, c1] := by decide +kernel
theorem part_get {p v b : Int} : ∀ (row : List Int) (k : Nat), Cg p ((partP p v b row).getD k 0) (row.getD k 0 * (v * b ^ (p - 2).toNat))
  | [], k => ⟨0, by simp [partP]⟩
  | r :: rs, 0 => by
    show Cg p (r * (v * (b ^ (p - 2).toNat % p) % p) % p) _
    exact Cg.mod.trans (Cg.rfl'.mul (Cg.mod.trans (Cg.rfl'.mul Cg.mod)))
  | r :: rs, k + 1 => by
    have ih := part_get (p := p) (v := v) (b := b) rs k
    simpa [partP] using ih
def R0 (p : Int) : List Int := prodP p (prodP p [1] [(0 - 1) % p, 1]) [(0 - 2) % p, 1]
def R1 (p : Int) : List Int := prodP p (prodP p [1] [(0 - 0) % p, 1]) [(0 - 2) % p, 1]
def R2 (p : Int) : List Int := prodP p (prodP p [1] [(0 - 0) % p, 1]) [(0 - 1) % p, 1]
def B0 (p : Int) : Int := 1 * ((0 - 1) % p) % p * ((0 - 2) % p) % p
def B1 (p : Int) : Int := 1 * ((1 - 0) % p) % p * ((1 - 2) % p) % p
def B2 (p : Int) : Int := 1 * ((2 - 0) % p) % p * ((2 - 1) % p) % p
def one3 (k j : Nat) : Int := if k = j then 1 else 0
theorem table3 : ∀ p ∈ primes2, ∀ k ∈ List.range 5, ((R0 p).getD k 0 * B0 p ^ (p - 2).toNat + (R1 p).getD k 0 * B1 p ^ (p - 2).toNat + (R2 p).getD k 0 * B2 p ^ (p - 2).toNat) % p = one3 k 0 % p ∧
    ((R1 p).getD k 0 * B1 p ^ (p - 2).toNat + (R2 p).getD k 0 * B2 p ^ (p - 2).toNat * 2) % p = one3 k 1 % p ∧ ((R1 p).getD k 0 * B1 p ^ (p - 2).toNat + (R2 p).getD k 0 * B2 p ^ (p - 2).toNat * 4) % p = one3 k 2 % p := by decide +kernel
theorem through3_cut {p c0 c1 c2 : Int} (hp : p ∈ primes2) (h : InP p [c0, c1, c2]) : cutP (through3 p (hor p 0 [c0, c1, c2]) (hor p 1 [c0, c1, c2]) (hor p 2 [c0, c1, c2])) = cutP [c0, c1, c2] := by
  have hp0 := p_pos p hp
  refine cut_ext _ _ fun k => ?_
  by_cases hk : k < 5
  · refine Cg.fin ?_ ((sum_in (by omega)).getD (by omega) k) (h.getD (by omega) k)
    have e : through3 p (hor p 0 [c0, c1, c2]) (hor p 1 [c0, c1, c2]) (hor p 2 [c0, c1, c2]) = sumP p (sumP p (sumP p [0, 0, 0] (partP p (hor p 0 [c0, c1, c2]) (B0 p) (R0 p))) (partP p (hor p 1 [c0, c1, c2]) (B1 p) (R1 p))) (partP p (hor p 2 [c0, c1, c2]) (B2 p) (R2 p)) := rfl
    rw [e, sum_get, sum_get, sum_get]
    have z : ([0, 0, 0] : List Int).getD k 0 = 0 := by
      rcases k with _ | _ | _ | k <;> rfl
    rw [z]
    have g0 : Cg p (hor p 0 [c0, c1, c2]) c0 := by rw [hor_val]; simpa [val] using Cg.mod
    have g1 : Cg p (hor p 1 [c0, c1, c2]) (c0 + c1 + c2) := by rw [hor_val]; refine Cg.mod.trans ⟨0, ?_⟩; simp only [val]; grind
    have g2 : Cg p (hor p 2 [c0, c1, c2]) (c0 + 2 * c1 + 4 * c2) := by rw [hor_val]; refine Cg.mod.trans ⟨0, ?_⟩; simp only [val]; grind
    have q0 := part_get (p := p) (v := hor p 0 [c0, c1, c2]) (b := B0 p) (R0 p) k
    have q1 := part_get (p := p) (v := hor p 1 [c0, c1, c2]) (b := B1 p) (R1 p) k
    have q2 := part_get (p := p) (v := hor p 2 [c0, c1, c2]) (b := B2 p) (R2 p) k
    obtain ⟨t0, t1, t2⟩ := table3 p hp k (List.mem_range.mpr hk)
    have t0 := Cg.of t0
    have t1 := Cg.of t1
    have t2 := Cg.of t2
    refine (Cg.mod.trans ((Cg.mod.trans ((Cg.mod.trans (Cg.rfl'.add q0)).add q1)).add q2)).trans ?_
    generalize (R0 p).getD k 0 = r0 at *
    generalize (R1 p).getD k 0 = r1 at *
    generalize (R2 p).getD k 0 = r2 at *
    generalize B0 p ^ (p - 2).toNat = b0 at *
    generalize B1 p ^ (p - 2).toNat = b1 at *
    generalize B2 p ^ (p - 2).toNat = b2 at *
    have hc : ([c0, c1, c2] : List Int).getD k 0 = c0 * one3 k 0 + c1 * one3 k 1 + c2 * one3 k 2 := by
      rcases k with _ | _ | _ | k <;> simp [one3]
    rw [hc]
    generalize hor p 0 [c0, c1, c2] = v0 at *
    generalize hor p 1 [c0, c1, c2] = v1 at *
    generalize hor p 2 [c0, c1, c2] = v2 at *
    clear hc z e q0 q1 q2
    generalize one3 k 0 = d0 at *
    generalize one3 k 1 = d1 at *
    generalize one3 k 2 = d2 at *
    obtain ⟨j0, rfl⟩ := g0
    obtain ⟨j1, rfl⟩ := g1
    obtain ⟨j2, rfl⟩ := g2
    obtain ⟨m0, t0⟩ := t0
    obtain ⟨m1, t1⟩ := t1
    obtain ⟨m2, t2⟩ := t2
    refine ⟨r0 * b0 * j0 + r1 * b1 * j1 + r2 * b2 * j2 + c0 * m0 + c1 * m1 + c2 * m2, ?_⟩
    have u0 : r0 * b0 = d0 + p * m0 - r1 * b1 - r2 * b2 := by omega
    have u1 : r1 * b1 = d1 + p * m1 - r2 * b2 * 2 := by omega
    have u2 : r2 * b2 * 2 = d2 + p * m2 - d1 - p * m1 := by omega
    grind
  · rw [getD_out (by simp only [through3, sum_length, partP, List.length_map, prodP_length, List.length_cons, List.length_nil]; omega), getD_out (by simp only [List.length_cons, List.length_nil]; omega)]
end Mine
namespace Mine
theorem idx_fit {k W : Int} (h : k < W) (h2 : W ≤ 20) : k < 2 ^ 63 := by omega
theorem neg_of_ne {l : List Int} (h : decide (l = []) = false) : -(l.length : Int) ≤ -1 := by
  have := of_decide_eq_false h
  have : 0 < l.length := List.length_pos_iff.mpr this
  omega
theorem cut_ints {l f : List Int} {ys : List Value} (h : IntsAre ys f) (b : cutP f = cutP l) (g : f ≠ [] → f.getD (f.length - 1) 0 ≠ 0) : IntsAre ys (cutP l) := by
  rw [← b, cut_self f g]; exact h
theorem cut_turn {n : Int} {l f : List Int} (b : cutP f = cutP l) (g : InP n f) (d : f.length ≤ 20) (h : f.getD (-1 + (f.length : Int)).toNat 0 = 0) : cutP (List.take (f.length - 1) f) = cutP l ∧ InP n (List.take (f.length - 1) f) ∧ (List.take (f.length - 1) f).length ≤ 20 := by
  rw [show (-1 + (f.length : Int)).toNat = f.length - 1 by omega] at h
  rw [← List.dropLast_eq_take]
  refine ⟨by rw [cut_dropLast h, b], fun v hv => g v (List.dropLast_subset _ hv), ?_⟩
  rw [List.length_dropLast]; omega
theorem cut_less {f : List Int} (h : decide (f = []) = false) : (List.take (f.length - 1) f).length < f.length := by
  have := of_decide_eq_false h
  have : 0 < f.length := List.length_pos_iff.mpr this
  rw [List.length_take]; omega
theorem cut_stop1 {f : List Int} (h : decide (f = []) = true) : f ≠ [] → f.getD (f.length - 1) 0 ≠ 0 := fun h' => absurd (of_decide_eq_true h) h'
theorem cut_stop2 {f : List Int} (h : f.getD (-1 + (f.length : Int)).toNat 0 ≠ 0) : f ≠ [] → f.getD (f.length - 1) 0 ≠ 0 := by
  rw [show (-1 + (f.length : Int)).toNat = f.length - 1 by omega] at h
  exact fun _ => h
theorem part_turn {n x k : Int} {pre f : List Int} {i : Int} (h : (f, i) = pre.foldl (stepQ n x) ([], 0)) : (f ++ [i], (i * x % n + k) % n) = (pre ++ [k]).foldl (stepQ n x) ([], 0) := by
  rw [List.foldl_append, ← h]; rfl
theorem part_b {n x : Int} {pre f : List Int} {i : Int} (hn : 0 < n) (h : (f, i) = pre.foldl (stepQ n x) ([], 0)) : 0 ≤ i ∧ i < n := by
  have e := quo_fold (p := n) (x := x) pre.reverse
  rw [List.reverse_reverse, ← h] at e
  have e2 : i = hor n x pre.reverse := congrArg Prod.snd e
  rw [e2]; exact hor_in hn _
theorem part_len {n x : Int} {pre f : List Int} {i : Int} (h : (f, i) = pre.foldl (stepQ n x) ([], 0)) : f.length = pre.length := by
  have e := quo_fold (p := n) (x := x) pre.reverse
  rw [List.reverse_reverse, ← h] at e
  have e2 : f = (quo n x pre.reverse).reverse := congrArg Prod.fst e
  rw [e2, List.length_reverse, quo_length, List.length_reverse]
theorem part_end {n x : Int} {l f : List Int} {i : Int} (h : (f, i) = l.reverse.foldl (stepQ n x) ([], 0)) : f.reverse = quo n x l ∧ i = hor n x l := by
  rw [quo_fold] at h
  have e1 : f = (quo n x l).reverse := congrArg Prod.fst h
  exact ⟨by rw [e1, List.reverse_reverse], congrArg Prod.snd h⟩
theorem fit_arr {vs : List Value} {ns : List Int} (h : IntsAre vs ns) (d : ns.length ≤ 20) : vs.toArray.size ≤ sizeLine := by
  rw [List.size_toArray, h.length, PySem.sizeLine_eq]; omega
theorem part_rev {vs : List Value} {f q : List Int} (h : IntsAre vs f) (e : f = q) : IntsAre vs q := e ▸ h
theorem roots_ints {n : Int} {l : List Int} {ys : List Value} (h : IntsAre ys (((rangeKs 0 (n - 0).toNat).filter (fun x => hor n x l == 0)).map fun x => x)) : IntsAre ys (rootsP n l) := by
  rw [Int.sub_zero, List.map_id'] at h; exact h
theorem sum_ints {p : Int} {one other : List Int} {W : Int} {ys : List Value} (m : IsMax one.length other.length W) (h : IntsAre ys ((rangeKs 0 (W - 0).toNat).map fun i => (one.getD i.toNat 0 + other.getD i.toNat 0) % p)) : IntsAre ys (sumP p one other) := by
  rw [Int.sub_zero, m.nat] at h
  exact h
theorem roots_len {n : Int} {l : List Int} (h : n ≤ 13) : (rootsP n l).length ≤ 13 := by
  refine Nat.le_trans (List.length_filter_le _ _) ?_
  rw [rangeKs_length]; omega
theorem take_two {ws : List Value} {R : List Int} (h : IntsAre ws (List.take 2 R)) : ws = [] ∨ (∃ a t, ws = [.int a t] ∧ a ∈ R) ∨ (∃ a t b u, ws = [.int a t, .int b u] ∧ a ∈ R ∧ b ∈ R) := by
  rcases R with _ | ⟨a, _ | ⟨b, R⟩⟩
  · cases h; exact .inl rfl
  · simp only [List.take_succ_cons, List.take_nil] at h
    cases h with | cons _ t h => cases h; exact .inr (.inl ⟨a, t, rfl, .head _⟩)
  · simp only [List.take_succ_cons, List.take_zero] at h
    cases h with | cons _ t h => cases h with | cons _ u h => cases h; exact .inr (.inr ⟨a, t, b, u, rfl, .head _, .tail _ (.head _)⟩)
theorem bne_zero {v : Int} (h : v = 0) : (v != 0) = false := by rw [h]; rfl
theorem not_nil {l : List Int} (h : l = []) : (!decide (l = [])) = false := by rw [h]; rfl
theorem roots_fewI {p : Int} {l : List Int} (hp : p ∈ primes2) (hl : InP p l) (h : decide (cutP l = []) = false) : ((rootsP p (cutP l)).length : Int) ≤ ((cutP l).length : Int) - 1 := by
  have h0 := of_decide_eq_false h
  have h1 := roots_few hp hl h0
  have h2 : 0 < (cutP l).length := List.length_pos_iff.mpr h0
  omega
theorem others_in {k r : Int} {l : List Int} (h : (l.any fun x => x == k) = true) : (k != r && !(l.any fun z => z == k)) = false := by rw [h]; simp
theorem others_eq {k r : Int} {b : Bool} (h : k = r) : (k != r && b) = false := by rw [h]; simp
theorem others_el {k r : Int} {l : List Int} (h : k ≠ r) (g : (l.any fun x => x == k) = false) : (k != r && !(l.any fun z => z == k)) = true := by rw [g]; simpa using h
section
variable {prog : Program} {w : World} {A : Around} {s₁ : Shared} {h₀ : Heap} {L : Addr} {m : Str → Option Value} {env : Env} {ct elt : PySem.Expr} {x : Str} {scope : Scope} {cl : List (Str × Addr)} {Fin : Shared → List Value → List (Addr × Obj) → Prop} {news : List (Addr × Obj)}
open LCg LCt
theorem src_others {n r : Int} {P : List Int} {ov : List Value} (_hO : IntsAre ov (rootsP n (quo n r P))) {ax : Addr} {vs : List Value} {ns : List Int} {c : Nat} (hh : A.handled = none) (F : Fr h₀ L s₁.heap m) (N : News h₀ L s₁.heap news) (hm : (ax, listOf vs.toArray c) ∈ news) (hi : IntsAre vs ns) (hsz : ns.length ≤ 1000000)
    (turn : ∀ k t I oI C oC D m₂ ys h tk (E' : Value → Shared → Prop), k ∈ ns → NsObj oC m₂ → m₂ x = some (.int k t) → Fr h₀ L h m → News h₀ L h ((I, oI) :: (C, oC) :: (D, lst ys) :: news) → Off3 I C D news → ((@Ne Nat I C) ∧ (@Ne Nat I D) ∧ (@Ne Nat C D)) →
      wpAny (model prog w) A (isTrue ct (compEnvC scope cl C env) (eval ct (compEnvC scope cl C env))) (fun b s' => if b = true then wpAny (model prog w) A (eval elt (compEnvC scope cl C env)) (CEl h₀ L m { s₁ with heap := h, toks := tk } ((I, oI) :: (C, oC) :: (D, lst ys) :: news) (k != r && !((rootsP n (quo n r P)).any fun z => z == k)) k) E' s'
        else CNo h₀ L m { s₁ with heap := h, toks := tk } ((I, oI) :: (C, oC) :: (D, lst ys) :: news) (k != r && !((rootsP n (quo n r P)).any fun z => z == k)) s') E' { s₁ with heap := h, toks := tk })
    (fin : ∀ g' ys, IntsAre ys (ns.filter (fun k => k != r && !((rootsP n (quo n r P)).any fun z => z == k))) → ys.length ≤ ns.length → Fin { s₁ with heap := g' } ys news) : CompSrcT prog w A h₀ L m env ct elt x scope cl Fin (.ref ax) s₁ :=
  src_filter_list (fun _ k => k != r && !((rootsP n (quo n r P)).any fun z => z == k)) (fun k => k) hh F N hm hi hsz turn fun g' ys hy hl => fin g' ys (by rw [List.map_id'] at hy; exact hy) hl
end
end Mine
namespace Mine
/-- the end of a turn of a for over a list that binds a name to another list of ints and turns an int -/
def FREnd (h₀ : Heap) (L : Addr) (x y1 y2 : Str) (I : Addr) (oI : Obj) (news : List (Addr × Obj)) (m₀ : Str → Option Value) (P : List Int → List Int → Int → Prop) (pre : List Int) (s₁ s₂ : Shared) : Prop :=
  ∃ (l' : Addr) (vs' : List Value) (ns' : List Int) (c' : Nat) (i' : Int) (ti' : Tok) (h' : Heap) (tk : Nat) (m' : Str → Option Value), s₂ = { s₁ with heap := h', toks := tk } ∧ Fr h₀ L h' m' ∧ News h₀ L h' ((I, oI) :: (l', listOf vs'.toArray c') :: news) ∧ @Ne Nat l' I ∧ IntsAre vs' ns' ∧ m' y1 = some (.ref l') ∧ m' y2 = some (.int i' ti') ∧ (∀ z, z ≠ x → z ≠ y1 → z ≠ y2 → m' z = m₀ z) ∧ P pre ns' i'
def FRPost (h₀ : Heap) (L : Addr) (x y1 y2 : Str) (I : Addr) (oI : Obj) (news : List (Addr × Obj)) (m₀ : Str → Option Value) (P : List Int → List Int → Int → Prop) (pre : List Int) (s₁ : Shared) (Q : Flow → Shared → Prop) (f : Flow) (s₂ : Shared) : Prop :=
  match f with
  | .ret v => Q (.ret v) s₂
  | .brk => Q .next s₂
  | _ => FREnd h₀ L x y1 y2 I oI news m₀ P pre s₁ s₂
/-- the same over a range, without an int, with a captured name -/
def FSEnd (h₀ : Heap) (L : Addr) (x y1 : Str) (stored : List Str) (I : Addr) (oI : Obj) (cc : Addr) (news : List (Addr × Obj)) (m₀ : Str → Option Value) (P : List Int → List Int → Prop) (pre : List Int) (s₁ s₂ : Shared) : Prop :=
  ∃ (l' : Addr) (vs' : List Value) (ns' : List Int) (c' : Nat) (oc : Obj) (vc : Option Value) (h' : Heap) (tk : Nat) (m' : Str → Option Value), s₂ = { s₁ with heap := h', toks := tk } ∧ Fr h₀ L h' m' ∧ News h₀ L h' ((I, oI) :: (l', listOf vs'.toArray c') :: (cc, oc) :: news) ∧ @Ne Nat l' I ∧ (∀ p : Addr × Obj, p ∈ news → @Ne Nat p.1 l') ∧ oc.data = .cell vc ∧ IntsAre vs' ns' ∧ m' y1 = some (.ref l') ∧ (∀ z, z ≠ x → z ≠ y1 → stored.contains z = false → m' z = m₀ z) ∧ P pre ns'
def FSPost (h₀ : Heap) (L : Addr) (x y1 : Str) (stored : List Str) (I : Addr) (oI : Obj) (cc : Addr) (news : List (Addr × Obj)) (m₀ : Str → Option Value) (P : List Int → List Int → Prop) (pre : List Int) (s₁ : Shared) (Q : Flow → Shared → Prop) (f : Flow) (s₂ : Shared) : Prop :=
  match f with
  | .ret v => Q (.ret v) s₂
  | .brk => Q .next s₂
  | _ => FSEnd h₀ L x y1 stored I oI cc news m₀ P pre s₁ s₂
theorem three_keep {h₀ h : Heap} {L : Addr} {big news : List (Addr × Obj)} {a b c : Addr × Obj} (N : News h₀ L h big) (ha : a ∈ big) (hb : b ∈ big) (hc : c ∈ big) (hs : ∀ p ∈ news, p ∈ big) : News h₀ L h (a :: b :: c :: news) := news_keep N ha fun p hp => by
  rcases List.mem_cons.mp hp with rfl | hp
  · exact hb
  rcases List.mem_cons.mp hp with rfl | hp
  · exact hc
  · exact hs p hp
theorem drop1 {h₀ : Heap} {L : Addr} {h : Heap} {a : Addr × Obj} {r : List (Addr × Obj)} (N : News h₀ L h (a :: r)) : News h₀ L h r := fun p hp => N p (.tail _ hp)
theorem drop2 {h₀ : Heap} {L : Addr} {h : Heap} {a b : Addr × Obj} {r : List (Addr × Obj)} (N : News h₀ L h (a :: b :: r)) : News h₀ L h (a :: r) := fun p hp => N p (by
  rcases List.mem_cons.mp hp with rfl | hp
  · exact .head _
  · exact .tail _ (.tail _ hp))
theorem ne_cell {h₀ : Heap} {L a c : Addr} {h : Heap} {big : List (Addr × Obj)} {its : Array Value} {n : Nat} {o : Obj} {v : Option Value} (N : News h₀ L h big) (ha : (a, listOf its n) ∈ big) (hc : (c, o) ∈ big) (hd : o.data = .cell v) : @Ne Nat a c := by
  intro e
  have h1 := (N _ ha).1
  have h2 := (N _ hc).1
  have e : a = c := e
  subst e
  rw [h1] at h2
  cases h2
  cases hd
section
variable {prog : Program} {w : World} {A : Around} {E : Value → Shared → Prop} {Q : Flow → Shared → Prop} {s : Shared} {env : Env} {h₀ : Heap} {x : Str} {body : List Stmt}
theorem fr_end {L l' I : Addr} {oI : Obj} {y1 y2 : Str} {news : List (Addr × Obj)} {m₀ m' : Str → Option Value} {P : List Int → List Int → Int → Prop} {pre : List Int} {s₁ : Shared} {vs' : List Value} {ns' : List Int} {c' : Nat} {i' : Int} {ti' : Tok} {h' : Heap} {tk : Nat}
    (F : Fr h₀ L h' m') (N : News h₀ L h' ((I, oI) :: (l', listOf vs'.toArray c') :: news)) (hl : @Ne Nat l' I) (hI : IntsAre vs' ns') (h1 : m' y1 = some (.ref l')) (h2 : m' y2 = some (.int i' ti')) (hr : ∀ z, z ≠ x → z ≠ y1 → z ≠ y2 → m' z = m₀ z) (hP : P pre ns' i') :
    FREnd h₀ L x y1 y2 I oI news m₀ P pre s₁ { s₁ with heap := h', toks := tk } := ⟨l', vs', ns', c', i', ti', h', tk, m', rfl, F, N, hl, hI, h1, h2, hr, hP⟩
theorem fs_end {L l' I cc : Addr} {oI oc : Obj} {vc : Option Value} {y1 : Str} {stored : List Str} {news : List (Addr × Obj)} {m₀ m' : Str → Option Value} {P : List Int → List Int → Prop} {pre : List Int} {s₁ : Shared} {vs' : List Value} {ns' : List Int} {c' : Nat} {h' : Heap} {tk : Nat}
    (F : Fr h₀ L h' m') (N : News h₀ L h' ((I, oI) :: (l', listOf vs'.toArray c') :: (cc, oc) :: news)) (hl : @Ne Nat l' I) (hq : ∀ p : Addr × Obj, p ∈ news → @Ne Nat p.1 l') (hd : oc.data = .cell vc) (hI : IntsAre vs' ns') (h1 : m' y1 = some (.ref l')) (hr : ∀ z, z ≠ x → z ≠ y1 → stored.contains z = false → m' z = m₀ z) (hP : P pre ns') :
    FSEnd h₀ L x y1 stored I oI cc news m₀ P pre s₁ { s₁ with heap := h', toks := tk } := ⟨l', vs', ns', c', oc, vc, h', tk, m', rfl, F, N, hl, hq, hd, hI, h1, hr, hP⟩
theorem for_R {r : Addr} {ws : List Value} {ks : List Int} {cw : Nat} {m₀ : Str → Option Value} {l : Addr} {news : List (Addr × Obj)} {vs : List Value} {ns : List Int} {c : Nat} {i : Int} {ti : Tok} (y1 y2 : Str) (P : List Int → List Int → Int → Prop)
    (hh : A.handled = none) (hr : (r, listOf ws.toArray cw) ∈ news) (hK : IntsAre ws ks) (F : Fr h₀ env.locals s.heap m₀) (N : News h₀ env.locals s.heap ((l, listOf vs.toArray c) :: news)) (hI : IntsAre vs ns) (h1 : m₀ y1 = some (.ref l)) (h2 : m₀ y2 = some (.int i ti)) (hP : P [] ns i)
    (turn : ∀ l vs ns c i ti pre k t h tk I oI, k ∈ ks → pre.length < ks.length → @Ne Nat l I → (∀ p : Addr × Obj, p ∈ news → @Ne Nat p.1 I) → IntsAre vs ns → P pre ns i →
      Fr h₀ env.locals h (fun z => if z = x then some (.int k t) else if z = y1 then some (.ref l) else if z = y2 then some (.int i ti) else m₀ z) → News h₀ env.locals h ((I, oI) :: (l, listOf vs.toArray c) :: news) → KstMark →
      wpAny (model prog w) A (execs body env) (FRPost h₀ env.locals x y1 y2 I oI news m₀ P (pre ++ [k]) { s with heap := h, toks := tk } Q) E { s with heap := h, toks := tk })
    (done : ∀ l vs ns c i ti (u : Str → Option Value) h tk, IntsAre vs ns → P ks ns i → Fr h₀ env.locals h (fun z => if z = x then u z else if z = y1 then some (.ref l) else if z = y2 then some (.int i ti) else m₀ z) → News h₀ env.locals h ((l, listOf vs.toArray c) :: news) → KstMark → Q .next { s with heap := h, toks := tk }) :
    wpAny (model prog w) A (pyIter (.ref r)) (fun it s₂ => LoopAtV prog w A h₀ env x body Q E it s₂) E s := by
  have hol : s.heap.get? r = some (listOf ws.toArray cw) := (N _ (.tail _ hr)).1
  have hls : s.heap.IsList r ws.toArray := ⟨_, hol, rfl, cw, rfl⟩
  have hne : r ≠ s.heap.objs.size := Nat.ne_of_lt (Heap.lt_size hol)
  refine wpAny_pyIter_list hls ?_
  have W := Walks.list (prog := prog) (w := w) hh s.heap.objs.size r hne ws.toArray
  have hlen : ws.toArray.size = ks.length := by simp [hK.length]
  rw [hlen] at W
  refine ⟨_, _, _, ks.length, _, _, m₀, (l, listOf vs.toArray c) :: news, (fun j m nx => ∃ (l : Addr) (vs : List Value) (ns : List Int) (c : Nat) (i : Int) (ti : Tok), nx = (l, listOf vs.toArray c) :: news ∧ IntsAre vs ns ∧ m y1 = some (.ref l) ∧ m y2 = some (.int i ti) ∧ (∀ z, z ≠ x → z ≠ y1 → z ≠ y2 → m z = m₀ z) ∧ P (ks.take j) ns i), rfl, W, ?_, ?_, ?_, ⟨⟨_, Heap.get?_push_size _ rfl, rfl, rfl⟩, hls.at fun o e => Heap.get?_push_of_some _ e⟩, F.push _, (fun p hp => ⟨Heap.get?_push_of_some _ (N p hp).1, (N p hp).2⟩), ⟨l, vs, ns, c, i, ti, rfl, hI, h1, h2, fun _ _ _ _ => rfl, by simpa using hP⟩, ?_, ?_⟩
  · intro hm
    rcases List.mem_cons.mp hm with e | hm
    · exact absurd F.ns.lt (e ▸ Nat.lt_irrefl _)
    · exact (N _ (.tail _ hr)).2.1 ((List.mem_singleton.mp hm).symm)
  · intro b hb
    rw [List.mem_singleton.mp hb]
    exact next_is_new F
  · intro p hp hI
    exact absurd (Heap.lt_size (N p hp).1) ((List.mem_singleton.mp hI) ▸ Nat.lt_irrefl _)
  · rintro j v m₁ news₁ s₁ own ⟨hh', tk', rfl⟩ hin hPv ⟨l, vs, ns, c, i, ti, rfl, hI, h1, h2, h3, hP⟩ hoff hown hget hall hst F₁ N₁
    obtain ⟨⟨oI, hoI, _⟩, _⟩ := id hst
    have hmI : (s.heap.objs.size, oI) ∈ own := hall _ (.head _) (next_is_new F) oI hoI
    have hlt' : j < ks.length := hin
    obtain ⟨t, hx⟩ := hK.get j ks[j] (by simp [hlt'])
    have hv : v = .int ks[j] t := by
      have hP' : ws[j]? = some v := by simpa using hPv
      rw [hx] at hP'; exact (Option.some.inj hP').symm
    subst hv
    have hs : ks.take (j + 1) = ks.take j ++ [ks[j]] := by rw [List.take_add_one, List.getElem?_eq_getElem hlt']; rfl
    have hk : (ks.take j).length < ks.length := by rw [List.length_take]; omega
    have F₂ : Fr h₀ env.locals hh' (fun z => if z = x then some (.int ks[j] t) else if z = y1 then some (.ref l) else if z = y2 then some (.int i ti) else m₀ z) := by
      have e : (fun z => if z = x then some (Value.int ks[j] t) else if z = y1 then some (.ref l) else if z = y2 then some (.int i ti) else m₀ z) = fun y => if y = x then some (Value.int ks[j] t) else m₁ y := by
        funext z
        by_cases e1 : z = x
        · simp [e1]
        · simp only [if_neg e1]
          by_cases e2 : z = y1
          · simp only [if_pos e2]; rw [e2, h1]
          · simp only [if_neg e2]
            by_cases e3 : z = y2
            · simp only [if_pos e3]; rw [e3, h2]
            · simp only [if_neg e3]; exact (h3 z e1 e2 e3).symm
      rw [e]; exact F₁
    have N₂ : News h₀ env.locals hh' ((s.heap.objs.size, oI) :: (l, listOf vs.toArray c) :: news) := fun p hp => N₁ p (by
      rcases List.mem_cons.mp hp with rfl | hp
      · exact List.mem_append.mpr (.inl hmI)
      · exact List.mem_append.mpr (.inr hp))
    have hlo : hh'.get? r = some (listOf ws.toArray cw) := (N₂ _ (.tail _ (.tail _ hr))).1
    refine wpAny_mono (turn l vs ns c i ti (ks.take j) ks[j] t hh' tk' s.heap.objs.size oI (List.getElem_mem hlt') hk (fun e => hoff _ (.head _) (List.mem_singleton.mpr e)) (fun p hp e => hoff p (.tail _ hp) (List.mem_singleton.mpr e)) hI hP F₂ N₂ kstMark) (fun f s₂ q => ?_) fun _ _ e => e
    rw [← hs] at q
    have fin : FREnd h₀ env.locals x y1 y2 s.heap.objs.size oI news m₀ P (ks.take (j + 1)) { s with heap := hh', toks := tk' } s₂ → LoopStepU h₀ env.locals [s.heap.objs.size] own (fun m nx => ∃ (l : Addr) (vs : List Value) (ns : List Int) (c : Nat) (i : Int) (ti : Tok), nx = (l, listOf vs.toArray c) :: news ∧ IntsAre vs ns ∧ m y1 = some (.ref l) ∧ m y2 = some (.int i ti) ∧ (∀ z, z ≠ x → z ≠ y1 → z ≠ y2 → m z = m₀ z) ∧ P (ks.take (j + 1)) ns i) { s with heap := hh', toks := tk' } .next s₂ := by
      rintro ⟨l', vs', ns', c', i', ti', h', tk, m', rfl, F', N', hl', hI', h1', h2', h3', hP'⟩
      refine ⟨rfl, h', tk, m', (l', listOf vs'.toArray c') :: news, rfl, F', fun p hp => ?_, fun p hp hm => ?_, l', vs', ns', c', i', ti', rfl, hI', h1', h2', h3', hP'⟩
      · rcases List.mem_append.mp hp with hp | hp
        · have hg := hget p hp
          rcases List.mem_cons.mp (hown p hp) with h | h
          · have e : p = (s.heap.objs.size, oI) := by
              have hg' : hh'.get? p.1 = some p.2 := hg
              rw [h, hoI] at hg'
              exact Prod.ext h (Option.some.inj hg').symm
            rw [e]; exact N' _ (.head _)
          · have h := List.mem_singleton.mp h
            have e : p = (r, listOf ws.toArray cw) := by
              have hg' : hh'.get? p.1 = some p.2 := hg
              rw [h, hlo] at hg'
              exact Prod.ext h (Option.some.inj hg').symm
            rw [e]; exact N' _ (.tail _ (.tail _ hr))
        · exact N' p (.tail _ hp)
      · rcases List.mem_cons.mp hp with rfl | hp
        · exact hl' (List.mem_singleton.mp hm)
        · exact hoff p (.tail _ hp) hm
    cases f with
    | ret v => exact .ret q
    | brk => exact .brk q
    | next => exact .next (fin q)
    | cont => exact .cont (fin q)
  · rintro h' tk m' news' F' N' _ ⟨l, vs, ns, c, i, ti, rfl, hI, h1, h2, h3, hP⟩
    rw [List.take_length] at hP
    refine done l vs ns c i ti m' h' tk hI hP ?_ N' kstMark
    have e : (fun z => if z = x then m' z else if z = y1 then some (.ref l) else if z = y2 then some (.int i ti) else m₀ z) = m' := by
      funext z
      by_cases e1 : z = x
      · simp [e1]
      · simp only [if_neg e1]
        by_cases e2 : z = y1
        · simp only [if_pos e2]; rw [e2, h1]
        · simp only [if_neg e2]
          by_cases e3 : z = y2
          · simp only [if_pos e3]; rw [e3, h2]
          · simp only [if_neg e3]; exact (h3 z e1 e2 e3).symm
    rw [e]; exact F'
theorem for_S {r : Addr} {a₀ b₀ : Int} {t₀ u₀ v₀ : Tok} {m₀ : Str → Option Value} {l : Addr} {news : List (Addr × Obj)} {vs : List Value} {ns : List Int} {c : Nat} {cc : Addr} {oc : Obj} {vc : Option Value} (y1 : Str) (stored : List Str) (P : List Int → List Int → Prop)
    (hh : A.handled = none) (hr : IsRange s.heap r a₀ b₀ 1 t₀ u₀ v₀) (ha : -1000 ≤ a₀) (ha' : a₀ ≤ 1000) (hb : -1000 ≤ b₀) (hb' : b₀ ≤ 1000) (F : Fr h₀ env.locals s.heap m₀) (N : News h₀ env.locals s.heap ((l, listOf vs.toArray c) :: (cc, oc) :: news)) (hq : ∀ p : Addr × Obj, p ∈ news → @Ne Nat p.1 l) (hd : oc.data = .cell vc) (hI : IntsAre vs ns) (h1 : m₀ y1 = some (.ref l)) (hP : P [] ns)
    (turn : ∀ l vs ns c oc vc pre k t (u : Str → Option Value) h tk I oI, k = a₀ + (pre.length : Int) → k < b₀ → @Ne Nat l I → @Ne Nat l cc → @Ne Nat cc I → (∀ p : Addr × Obj, p ∈ news → @Ne Nat p.1 I) → (∀ p : Addr × Obj, p ∈ news → @Ne Nat p.1 l) → oc.data = .cell vc → IntsAre vs ns → P pre ns →
      Fr h₀ env.locals h (fun z => if z = x then some (.int k t) else if z = y1 then some (.ref l) else if stored.contains z then u z else m₀ z) → News h₀ env.locals h ((I, oI) :: (l, listOf vs.toArray c) :: (cc, oc) :: news) → KstMark →
      wpAny (model prog w) A (execs body env) (FSPost h₀ env.locals x y1 stored I oI cc news m₀ P (pre ++ [k]) { s with heap := h, toks := tk } Q) E { s with heap := h, toks := tk })
    (done : ∀ l vs ns c oc vc (u : Str → Option Value) h tk, (∀ p : Addr × Obj, p ∈ news → @Ne Nat p.1 l) → oc.data = .cell vc → IntsAre vs ns → P (rangeKs a₀ (b₀ - a₀).toNat) ns → Fr h₀ env.locals h (fun z => if z = x then u z else if z = y1 then some (.ref l) else if stored.contains z then u z else m₀ z) → News h₀ env.locals h ((l, listOf vs.toArray c) :: (cc, oc) :: news) → KstMark → Q .next { s with heap := h, toks := tk }) :
    wpAny (model prog w) A (pyIter (.ref r)) (fun it s₂ => LoopAtV prog w A h₀ env x body Q E it s₂) E s := by
  refine wpAny_pyIter_range hr (small_one (by omega) (by omega) (by omega) (by omega)) ?_
  generalize hn' : (b₀ - a₀).toNat = n at done
  have hn : Builtin.Range.rangeSize a₀ b₀ 1 = (n : Int) := by rw [← hn']; exact rangeSize_nat a₀ b₀
  have W : Walks prog w A s.heap.objs.size [s.heap.objs.size] [s.heap.objs.size] n (fun i v => i < n ∧ ∃ t, v = .int (a₀ + i * 1) t)
      (fun i h => IsRangeIter h s.heap.objs.size (a₀ + (i : Nat) * 1) ((n : Int) - (i : Nat)) 1) := (Walks.range hh _ a₀ 1 n).bound
  refine ⟨_, _, _, n, _, _, m₀, (l, listOf vs.toArray c) :: (cc, oc) :: news, (fun j m nx => ∃ (l : Addr) (vs : List Value) (ns : List Int) (c : Nat) (oc : Obj) (vc : Option Value), nx = (l, listOf vs.toArray c) :: (cc, oc) :: news ∧ (∀ p : Addr × Obj, p ∈ news → @Ne Nat p.1 l) ∧ oc.data = .cell vc ∧ IntsAre vs ns ∧ m y1 = some (.ref l) ∧ (∀ z, z ≠ x → z ≠ y1 → stored.contains z = false → m z = m₀ z) ∧ P ((rangeKs a₀ n).take j) ns), rfl, W, ?_, ?_, ?_, (by show IsRangeIter _ _ _ _ _; rw [hn]; simpa using Heap.get?_push_size _ rfl), F.push _, (fun p hp => ⟨Heap.get?_push_of_some _ (N p hp).1, (N p hp).2⟩), ⟨l, vs, ns, c, oc, vc, rfl, hq, hd, hI, h1, fun _ _ _ _ => rfl, by simpa using hP⟩, ?_, ?_⟩
  · intro hm
    exact absurd F.ns.lt ((List.mem_singleton.mp hm) ▸ Nat.lt_irrefl _)
  · intro b hb
    rw [List.mem_singleton.mp hb]
    exact next_is_new F
  · intro p hp hI
    exact absurd (Heap.lt_size (N p hp).1) ((List.mem_singleton.mp hI) ▸ Nat.lt_irrefl _)
  · rintro j v m₁ news₁ s₁ own ⟨hh', tk', rfl⟩ hj ⟨_, t, rfl⟩ ⟨l, vs, ns, c, oc, vc, rfl, hq, hd, hI, h1, h3, hP⟩ hoff hown hget hall hst F₁ N₁
    obtain ⟨oI, hoI⟩ : ∃ o, hh'.get? s.heap.objs.size = some o := ⟨_, hst⟩
    have e1 : a₀ + (j : Int) * 1 = a₀ + (j : Int) := by omega
    rw [e1] at F₁
    have hmI := hall _ (.head _) (next_is_new F) oI hoI
    have hk' : (rangeKs a₀ n)[j]? = some (a₀ + (j : Int)) := by simp [rangeKs, hj]
    have hs : (rangeKs a₀ n).take (j + 1) = (rangeKs a₀ n).take j ++ [a₀ + (j : Int)] := by simp [List.take_add_one, hk']
    have hlen : ((rangeKs a₀ n).take j).length = j := by rw [List.length_take, rangeKs_length]; omega
    have F₂ : Fr h₀ env.locals hh' (fun z => if z = x then some (.int (a₀ + (j : Int)) t) else if z = y1 then some (.ref l) else if stored.contains z then m₁ z else m₀ z) := by
      have e : (fun z => if z = x then some (Value.int (a₀ + (j : Int)) t) else if z = y1 then some (.ref l) else if stored.contains z then m₁ z else m₀ z) = fun y => if y = x then some (Value.int (a₀ + (j : Int)) t) else m₁ y := by
        funext z
        by_cases e1 : z = x
        · simp [e1]
        · simp only [if_neg e1]
          by_cases e2 : z = y1
          · simp only [if_pos e2]; rw [e2, h1]
          · simp only [if_neg e2]
            cases e3 : stored.contains z with
            | true => simp
            | false => simp only [Bool.false_eq_true, if_false]; exact (h3 z e1 e2 e3).symm
      rw [e]; exact F₁
    refine wpAny_mono (turn l vs ns c oc vc ((rangeKs a₀ n).take j) (a₀ + (j : Int)) t m₁ hh' tk' s.heap.objs.size oI (by rw [hlen]) (by omega) (fun e => hoff _ (.head _) (List.mem_singleton.mpr e)) (ne_cell N₁ (List.mem_append_right _ (.head _)) (List.mem_append_right _ (.tail _ (.head _))) hd) (fun e => hoff _ (.tail _ (.head _)) (List.mem_singleton.mpr e)) (fun p hp e => hoff p (.tail _ (.tail _ hp)) (List.mem_singleton.mpr e)) hq hd hI hP F₂ (fun p hp => N₁ p (by
      rcases List.mem_cons.mp hp with rfl | hp
      · exact List.mem_append.mpr (.inl hmI)
      · exact List.mem_append.mpr (.inr hp))) kstMark) (fun f s₂ q => ?_) fun _ _ e => e
    rw [← hs] at q
    have fin : FSEnd h₀ env.locals x y1 stored s.heap.objs.size oI cc news m₀ P ((rangeKs a₀ n).take (j + 1)) { s with heap := hh', toks := tk' } s₂ → LoopStepU h₀ env.locals [s.heap.objs.size] own (fun m nx => ∃ (l : Addr) (vs : List Value) (ns : List Int) (c : Nat) (oc : Obj) (vc : Option Value), nx = (l, listOf vs.toArray c) :: (cc, oc) :: news ∧ (∀ p : Addr × Obj, p ∈ news → @Ne Nat p.1 l) ∧ oc.data = .cell vc ∧ IntsAre vs ns ∧ m y1 = some (.ref l) ∧ (∀ z, z ≠ x → z ≠ y1 → stored.contains z = false → m z = m₀ z) ∧ P ((rangeKs a₀ n).take (j + 1)) ns) { s with heap := hh', toks := tk' } .next s₂ := by
      rintro ⟨l', vs', ns', c', oc', vc', h', tk, m', rfl, F', N', hl', hq', hd', hI', h1', h3', hP'⟩
      refine ⟨rfl, h', tk, m', (l', listOf vs'.toArray c') :: (cc, oc') :: news, rfl, F', fun p hp => ?_, fun p hp hm => ?_, l', vs', ns', c', oc', vc', rfl, hq', hd', hI', h1', h3', hP'⟩
      · rcases List.mem_append.mp hp with hp | hp
        · have hg : hh'.get? p.1 = some p.2 := hget p hp
          have h := List.mem_singleton.mp (hown p hp)
          rw [h, hoI] at hg
          have e : p = (s.heap.objs.size, oI) := Prod.ext h (Option.some.inj hg).symm
          rw [e]; exact N' _ (.head _)
        · exact N' p (.tail _ hp)
      · rcases List.mem_cons.mp hp with rfl | hp
        · exact hl' (List.mem_singleton.mp hm)
        rcases List.mem_cons.mp hp with rfl | hp
        · exact hoff _ (.tail _ (.head _)) hm
        · exact hoff p (.tail _ (.tail _ hp)) hm
    cases f with
    | ret v => exact .ret q
    | brk => exact .brk q
    | next => exact .next (fin q)
    | cont => exact .cont (fin q)
  · rintro h' tk m' news' F' N' _ ⟨l, vs, ns, c, oc, vc, rfl, hq, hd, hI, h1, h3, hP⟩
    have hl : (rangeKs a₀ n).take n = rangeKs a₀ n := List.take_of_length_le (Nat.le_of_eq (rangeKs_length _ _))
    rw [hl] at hP
    refine done l vs ns c oc vc m' h' tk hq hd hI hP ?_ N' kstMark
    have e : (fun z => if z = x then m' z else if z = y1 then some (.ref l) else if stored.contains z then m' z else m₀ z) = m' := by
      funext z
      by_cases e1 : z = x
      · simp [e1]
      · simp only [if_neg e1]
        by_cases e2 : z = y1
        · simp only [if_pos e2]; rw [e2, h1]
        · simp only [if_neg e2]
          cases e3 : stored.contains z with
          | true => simp
          | false => simp only [Bool.false_eq_true, if_false]; exact (h3 z e1 e2 e3).symm
    rw [e]; exact F'
end
/-- the end of a turn of a for whose target is a captured name -/
def FCEnd (h₀ : Heap) (L : Addr) (stored : List Str) (c1 c2 : Addr) (tl : List (Addr × Obj)) (m₀ : Str → Option Value) (s₁ s₂ : Shared) : Prop :=
  ∃ (o1 o2 : Obj) (v1 v2 : Option Value) (h' : Heap) (tk : Nat) (m' : Str → Option Value), s₂ = { s₁ with heap := h', toks := tk } ∧ Fr h₀ L h' m' ∧ News h₀ L h' ((c2, o2) :: (c1, o1) :: tl) ∧ o1.data = .cell v1 ∧ o2.data = .cell v2 ∧ ∀ z, stored.contains z = false → m' z = m₀ z
def FCPost (h₀ : Heap) (L : Addr) (stored : List Str) (c1 c2 : Addr) (tl : List (Addr × Obj)) (m₀ : Str → Option Value) (s₁ : Shared) (Q : Flow → Shared → Prop) (f : Flow) (s₂ : Shared) : Prop :=
  match f with
  | .ret v => Q (.ret v) s₂
  | .brk => Q .next s₂
  | _ => FCEnd h₀ L stored c1 c2 tl m₀ s₁ s₂
section
variable {prog : Program} {w : World} {A : Around} {E : Value → Shared → Prop} {Q : Flow → Shared → Prop} {s : Shared} {env : Env} {h₀ : Heap} {target : PySem.Expr} {body : List Stmt}
theorem fc_end {L c1 c2 : Addr} {stored : List Str} {tl : List (Addr × Obj)} {m₀ m' : Str → Option Value} {s₁ : Shared} {o1 o2 : Obj} {v1 v2 : Option Value} {h' : Heap} {tk : Nat}
    (F : Fr h₀ L h' m') (N : News h₀ L h' ((c2, o2) :: (c1, o1) :: tl)) (d1 : o1.data = .cell v1) (d2 : o2.data = .cell v2) (hr : ∀ z, stored.contains z = false → m' z = m₀ z) :
    FCEnd h₀ L stored c1 c2 tl m₀ s₁ { s₁ with heap := h', toks := tk } := ⟨o1, o2, v1, v2, h', tk, m', rfl, F, N, d1, d2, hr⟩
theorem for_C {r c1 c2 : Addr} {ws : List Value} {ks : List Int} {cw : Nat} {m₀ : Str → Option Value} {rest : List (Addr × Obj)} {o1 o2 : Obj} {v1 v2 : Option Value} (stored : List Str)
    (hh : A.handled = none) (hr : (r, listOf ws.toArray cw) ∈ rest) (hK : IntsAre ws ks) (F : Fr h₀ env.locals s.heap m₀) (N : News h₀ env.locals s.heap ((c2, o2) :: (c1, o1) :: rest)) (d1 : o1.data = .cell v1) (d2 : o2.data = .cell v2)
    (hc1 : ∀ p : Addr × Obj, p ∈ rest → @Ne Nat p.1 c1) (hc2 : ∀ p : Addr × Obj, p ∈ rest → @Ne Nat p.1 c2)
    (turn : ∀ k t o1 o2 v1 v2 (u : Str → Option Value) h tk own, k ∈ ks → o1.data = .cell v1 → o2.data = .cell v2 → (∀ p : Addr × Obj, p ∈ rest ++ own → @Ne Nat p.1 c1) → (∀ p : Addr × Obj, p ∈ rest ++ own → @Ne Nat p.1 c2) →
      Fr h₀ env.locals h (fun z => if stored.contains z then u z else m₀ z) → News h₀ env.locals h ((c2, o2) :: (c1, o1) :: (rest ++ own)) → KstMark →
      wpAny (model prog w) A (assign target env (.int k t)) (fun _ s₂ => wpAny (model prog w) A (execs body env) (FCPost h₀ env.locals stored c1 c2 (rest ++ own) m₀ { s with heap := h, toks := tk } Q) E s₂) E { s with heap := h, toks := tk })
    (done : ∀ o1 o2 v1 v2 (u : Str → Option Value) h tk, o1.data = .cell v1 → o2.data = .cell v2 → Fr h₀ env.locals h (fun z => if stored.contains z then u z else m₀ z) → News h₀ env.locals h ((c2, o2) :: (c1, o1) :: rest) → KstMark → Q .next { s with heap := h, toks := tk }) :
    wpAny (model prog w) A (pyIter (.ref r)) (fun it s₂ => UnrAt prog w A h₀ env target body Q E it s₂) E s := by
  have hol : s.heap.get? r = some (listOf ws.toArray cw) := (N _ (.tail _ (.tail _ hr))).1
  have hls : s.heap.IsList r ws.toArray := ⟨_, hol, rfl, cw, rfl⟩
  have l1 : c1 < s.heap.objs.size := Heap.lt_size (N _ (.tail _ (.head _))).1
  have l2 : c2 < s.heap.objs.size := Heap.lt_size (N _ (.head _)).1
  refine Iter_list_unr hh hls F N (N _ (.tail _ (.tail _ hr))).2.1 ?_
  have hm : ∀ {u : Str → Option Value} {m' : Str → Option Value}, (∀ z, stored.contains z = false → m' z = m₀ z) → (fun z => if stored.contains z then m' z else m₀ z) = m' := by
    intro u m' h3
    funext z
    cases e3 : stored.contains z with
    | true => simp
    | false => simp only [Bool.false_eq_true, if_false]; exact (h3 z e3).symm
  have key : ∀ (k i : Nat) (m₁ : Str → Option Value) (o1 o2 : Obj) (v1 v2 : Option Value), i + k = ws.toArray.size → o1.data = .cell v1 → o2.data = .cell v2 → (∀ z, stored.contains z = false → m₁ z = m₀ z) →
      Unr prog w A E h₀ env target body Q (fun i v => ws.toArray[i]? = some v) [s.heap.objs.size, r] { s with heap := s.heap.push { cls := .type "list_iterator", data := .fields #[.ref r, .int 0 0] } } k i m₁ ((c2, o2) :: (c1, o1) :: rest) := by
    intro k
    induction k with
    | zero =>
      intro i m₁ o1 o2 v1 v2 _ d1 d2 hr'
      refine Unr.zero fun h' tk F' N' => ?_
      exact done o1 o2 v1 v2 m₁ h' tk d1 d2 (by rw [hm (u := m₁) hr']; exact F') N' kstMark
    | succ k ih =>
      intro i m₁ o1 o2 v1 v2 hi d1 d2 hr'
      refine Unr.succ fun v h₁ tk₁ own hv hown F₁ N₁ => ?_
      obtain ⟨kk, t, e, hk⟩ := IntsAre.at hK i v (by simpa using hv)
      subst e
      have o_1 : ∀ p : Addr × Obj, p ∈ rest ++ own → @Ne Nat p.1 c1 := fun p hp => by
        rcases List.mem_append.mp hp with hp | hp
        · exact hc1 p hp
        · rcases List.mem_cons.mp (hown p hp) with h | h
          · exact fun e => absurd l1 (by rw [← e, h]; exact Nat.lt_irrefl _)
          · rw [List.mem_singleton.mp h]; exact hc1 _ hr
      have o_2 : ∀ p : Addr × Obj, p ∈ rest ++ own → @Ne Nat p.1 c2 := fun p hp => by
        rcases List.mem_append.mp hp with hp | hp
        · exact hc2 p hp
        · rcases List.mem_cons.mp (hown p hp) with h | h
          · exact fun e => absurd l2 (by rw [← e, h]; exact Nat.lt_irrefl _)
          · rw [List.mem_singleton.mp h]; exact hc2 _ hr
      refine wpAny_mono (turn kk t o1 o2 v1 v2 m₁ h₁ tk₁ own (List.mem_of_getElem? hk) d1 d2 o_1 o_2 (by rw [hm (u := m₁) hr']; exact F₁) (fun p hp => N₁ p (by
        rcases List.mem_cons.mp hp with rfl | hp
        · exact List.mem_append_right _ (.head _)
        rcases List.mem_cons.mp hp with rfl | hp
        · exact List.mem_append_right _ (.tail _ (.head _))
        rcases List.mem_append.mp hp with hp | hp
        · exact List.mem_append_right _ (.tail _ (.tail _ hp))
        · exact List.mem_append_left _ hp)) kstMark) (fun _ s₂ q => wpAny_mono q (fun f s₃ q => ?_) fun _ _ e => e) fun _ _ e => e
      have fin : FCEnd h₀ env.locals stored c1 c2 (rest ++ own) m₀ { s with heap := h₁, toks := tk₁ } s₃ → LoopStep2 h₀ env.locals own ((c2, o2) :: (c1, o1) :: rest) (Unr prog w A E h₀ env target body Q (fun i v => ws.toArray[i]? = some v) [s.heap.objs.size, r] { s with heap := s.heap.push { cls := .type "list_iterator", data := .fields #[.ref r, .int 0 0] } } k (i + 1)) { s with heap := h₁, toks := tk₁ } .next s₃ := by
        rintro ⟨o1', o2', v1', v2', h', tk, m', rfl, F', N', d1', d2', hr''⟩
        refine LoopStep2.intro (news₂ := (c2, o2') :: (c1, o1') :: rest) F' (fun p hp => N' p ?_) rfl (ih (i + 1) m' o1' o2' v1' v2' (by omega) d1' d2' hr'')
        rcases List.mem_append.mp hp with hp | hp
        · exact .tail _ (.tail _ (List.mem_append_right _ hp))
        rcases List.mem_cons.mp hp with rfl | hp
        · exact .head _
        rcases List.mem_cons.mp hp with rfl | hp
        · exact .tail _ (.head _)
        · exact .tail _ (.tail _ (List.mem_append_left _ hp))
      cases f with
      | ret v => exact .ret q
      | brk => exact .brk q
      | next => exact .next (fin q)
      | cont => exact .cont (fin q)
  exact key _ 0 m₀ o1 o2 v1 v2 (by omega) d1 d2 fun _ _ => rfl
theorem for_C4 {r c1 c2 l2 l3 l4 : Addr} {ws : List Value} {ks : List Int} {cw n2 n3 n4 : Nat} {i2 i3 i4 : Array Value} {m₀ : Str → Option Value} {base : List (Addr × Obj)} {o1 o2 : Obj} {v1 v2 : Option Value} (stored : List Str)
    (hh : A.handled = none) (hK : IntsAre ws ks) (F : Fr h₀ env.locals s.heap m₀) (N : News h₀ env.locals s.heap ((r, listOf ws.toArray cw) :: (l2, listOf i2 n2) :: (l3, listOf i3 n3) :: (l4, listOf i4 n4) :: (c2, o2) :: (c1, o1) :: base)) (d1 : o1.data = .cell v1) (d2 : o2.data = .cell v2)
    (hc1 : ∀ p : Addr × Obj, p ∈ base → @Ne Nat p.1 c1) (hc2 : ∀ p : Addr × Obj, p ∈ base → @Ne Nat p.1 c2)
    (turn : ∀ k t o1 o2 v1 v2 (u : Str → Option Value) h tk own, k ∈ ks → o1.data = .cell v1 → o2.data = .cell v2 → (∀ p : Addr × Obj, p ∈ (r, listOf ws.toArray cw) :: (l2, listOf i2 n2) :: (l3, listOf i3 n3) :: (l4, listOf i4 n4) :: (base ++ own) → @Ne Nat p.1 c1) → (∀ p : Addr × Obj, p ∈ (r, listOf ws.toArray cw) :: (l2, listOf i2 n2) :: (l3, listOf i3 n3) :: (l4, listOf i4 n4) :: (base ++ own) → @Ne Nat p.1 c2) →
      Fr h₀ env.locals h (fun z => if stored.contains z then u z else m₀ z) → News h₀ env.locals h ((c2, o2) :: (c1, o1) :: (r, listOf ws.toArray cw) :: (l2, listOf i2 n2) :: (l3, listOf i3 n3) :: (l4, listOf i4 n4) :: (base ++ own)) → KstMark →
      wpAny (model prog w) A (assign target env (.int k t)) (fun _ s₂ => wpAny (model prog w) A (execs body env) (FCPost h₀ env.locals stored c1 c2 ((r, listOf ws.toArray cw) :: (l2, listOf i2 n2) :: (l3, listOf i3 n3) :: (l4, listOf i4 n4) :: (base ++ own)) m₀ { s with heap := h, toks := tk } Q) E s₂) E { s with heap := h, toks := tk })
    (done : ∀ o1 o2 v1 v2 (u : Str → Option Value) h tk, o1.data = .cell v1 → o2.data = .cell v2 → Fr h₀ env.locals h (fun z => if stored.contains z then u z else m₀ z) → News h₀ env.locals h ((c2, o2) :: (c1, o1) :: (r, listOf ws.toArray cw) :: (l2, listOf i2 n2) :: (l3, listOf i3 n3) :: (l4, listOf i4 n4) :: base) → KstMark → Q .next { s with heap := h, toks := tk }) :
    wpAny (model prog w) A (pyIter (.ref r)) (fun it s₂ => UnrAt prog w A h₀ env target body Q E it s₂) E s := by
  have m1 : (c1, o1) ∈ (r, listOf ws.toArray cw) :: (l2, listOf i2 n2) :: (l3, listOf i3 n3) :: (l4, listOf i4 n4) :: (c2, o2) :: (c1, o1) :: base := .tail _ (.tail _ (.tail _ (.tail _ (.tail _ (.head _)))))
  have m2 : (c2, o2) ∈ (r, listOf ws.toArray cw) :: (l2, listOf i2 n2) :: (l3, listOf i3 n3) :: (l4, listOf i4 n4) :: (c2, o2) :: (c1, o1) :: base := .tail _ (.tail _ (.tail _ (.tail _ (.head _))))
  have all : ∀ {c : Addr} {o : Obj} {v : Option Value}, (c, o) ∈ (r, listOf ws.toArray cw) :: (l2, listOf i2 n2) :: (l3, listOf i3 n3) :: (l4, listOf i4 n4) :: (c2, o2) :: (c1, o1) :: base → o.data = .cell v → (∀ p : Addr × Obj, p ∈ base → @Ne Nat p.1 c) →
      ∀ p : Addr × Obj, p ∈ (r, listOf ws.toArray cw) :: (l2, listOf i2 n2) :: (l3, listOf i3 n3) :: (l4, listOf i4 n4) :: base → @Ne Nat p.1 c := by
    intro c o v hm hd hb
    refine List.forall_mem_cons.mpr ⟨ne_cell N (.head _) hm hd, List.forall_mem_cons.mpr ⟨ne_cell N (.tail _ (.head _)) hm hd, List.forall_mem_cons.mpr ⟨ne_cell N (.tail _ (.tail _ (.head _))) hm hd, List.forall_mem_cons.mpr ⟨ne_cell N (.tail _ (.tail _ (.tail _ (.head _)))) hm hd, hb⟩⟩⟩⟩
  refine for_C (rest := (r, listOf ws.toArray cw) :: (l2, listOf i2 n2) :: (l3, listOf i3 n3) :: (l4, listOf i4 n4) :: base) stored hh (.head _) hK F (fun p hp => N p ?_) d1 d2 (all m1 d1 hc1) (all m2 d2 hc2) turn done
  simp only [List.mem_cons] at hp ⊢
  grind
end
end Mine
namespace Mine
/-- one more place for the row and the divisor -/
def stepT (n a : Int) (s : List Int × Int) (o : Int) : List Int × Int := if o = a then s else (prodP n s.1 [(0 - o) % n, 1], s.2 * ((a - o) % n) % n)
def stepF (n : Int) (places values f : List Int) (i : Int) : List Int :=
  sumP n f (partP n (values.getD i.toNat 0) (places.foldl (stepT n (places.getD i.toNat 0)) ([1], 1)).2 (places.foldl (stepT n (places.getD i.toNat 0)) ([1], 1)).1)
/-- the polynomial through the places -/
def throughP (n : Int) (places values : List Int) : List Int := (rangeKs 0 places.length).foldl (stepF n places values) (List.replicate places.length 0)
theorem turn_eq {n a k i : Int} {pre f : List Int} (h : (f, i) = pre.foldl (stepT n a) ([1], 1)) (e : k = a) : (f, i) = (pre ++ [k]).foldl (stepT n a) ([1], 1) := by
  rw [List.foldl_append, ← h, List.foldl_cons, List.foldl_nil, stepT, if_pos e]
theorem turn_ne {n a k i : Int} {pre f : List Int} (h : (f, i) = pre.foldl (stepT n a) ([1], 1)) (e : k ≠ a) : (prodP n f [(0 - k) % n, 1], i * ((a - k) % n) % n) = (pre ++ [k]).foldl (stepT n a) ([1], 1) := by
  rw [List.foldl_append, ← h, List.foldl_cons, List.foldl_nil, stepT, if_neg e]
theorem rowT_inv {n a : Int} (hn : 2 ≤ n) : ∀ (pre : List Int) (s : List Int × Int), InP n s.1 → 0 ≤ s.2 → s.2 < n → (pre.foldl (stepT n a) s).1.length ≤ s.1.length + 2 * pre.length ∧ InP n (pre.foldl (stepT n a) s).1 ∧ 0 ≤ (pre.foldl (stepT n a) s).2 ∧ (pre.foldl (stepT n a) s).2 < n
  | [], s, h, h0, h1 => ⟨by simp, h, h0, h1⟩
  | o :: pre, s, h, h0, h1 => by
    rw [List.foldl_cons, List.length_cons]
    by_cases e : o = a
    · rw [stepT, if_pos e]
      obtain ⟨b1, b2, b3, b4⟩ := rowT_inv hn pre s h h0 h1
      exact ⟨by omega, b2, b3, b4⟩
    · rw [stepT, if_neg e]
      obtain ⟨b1, b2, b3, b4⟩ := rowT_inv (a := a) hn pre (prodP n s.1 [(0 - o) % n, 1], s.2 * ((a - o) % n) % n) (prodP_in (by omega)) (Int.emod_nonneg _ (by omega)) (Int.emod_lt_of_pos _ (by omega))
      refine ⟨?_, b2, b3, b4⟩
      rw [prodP_length] at b1
      simp only [List.length_cons, List.length_nil] at b1
      omega
theorem in_one {n : Int} (hn : 2 ≤ n) : InP n [1] := fun v hv => by rw [List.mem_singleton.mp hv]; omega
theorem in_two {n v : Int} (hn : 2 ≤ n) (h0 : 0 ≤ v) (h1 : v < n) : InP n [v, 1] := fun z hz => by
  rcases List.mem_cons.mp hz with rfl | hz
  · exact ⟨h0, h1⟩
  · rw [List.mem_singleton.mp hz]; omega
theorem in_mod {n v : Int} (h0 : 0 ≤ v) (h1 : v < n) : InP n [v] := fun z hz => by rw [List.mem_singleton.mp hz]; exact ⟨h0, h1⟩
theorem rowT_pre {n a i : Int} {pre f : List Int} (hn : 2 ≤ n) (h : (f, i) = pre.foldl (stepT n a) ([1], 1)) : f.length ≤ 1 + 2 * pre.length ∧ InP n f ∧ 0 ≤ i ∧ i < n := by
  have := rowT_inv (a := a) hn pre ([1], 1) (in_one hn) (by decide) (by omega)
  rw [← h] at this
  exact this
theorem row_20 {f pre ns : List Int} (h : f.length ≤ 1 + 2 * pre.length) (g : pre.length ≤ ns.length) (l : ns.length ≤ 3) : f.length ≤ 20 := by omega
theorem part_in {n v b : Int} {row : List Int} (hn : 0 < n) : InP n (partP n v b row) := by
  intro z hz
  obtain ⟨i, _, rfl⟩ := List.mem_map.mp hz
  exact ⟨Int.emod_nonneg _ (by omega), Int.emod_lt_of_pos _ hn⟩
theorem part_map {n v b : Int} {row : List Int} : (row.map fun part => part * (v * (b ^ (n - 2).toNat % n) % n) % n) = partP n v b row := rfl
theorem part_20 {n v b : Int} {row : List Int} (h : row.length ≤ 20) : (partP n v b row).length ≤ 20 := by rw [partP, List.length_map]; exact h
theorem stepF_inv {n : Int} {places values : List Int} (hn : 2 ≤ n) (hl : places.length ≤ 3) : ∀ (pre f : List Int), InP n f → f.length ≤ 7 → InP n (pre.foldl (stepF n places values) f) ∧ (pre.foldl (stepF n places values) f).length ≤ 7
  | [], f, h, g => ⟨h, g⟩
  | i :: pre, f, h, g => by
    rw [List.foldl_cons]
    refine stepF_inv hn hl pre _ (sum_in (by omega)) ?_
    have := (rowT_inv (n := n) (a := places.getD i.toNat 0) hn places ([1], 1) (in_one hn) (by decide) (by omega)).1
    rw [stepF, sum_length, partP, List.length_map]
    simp only [List.length_cons, List.length_nil] at this
    omega
theorem stepF_pre {n : Int} {places values pre f : List Int} (hn : 2 ≤ n) (hl : places.length ≤ 3) (h : f = pre.foldl (stepF n places values) (List.replicate places.length 0)) : InP n f ∧ f.length ≤ 20 := by
  have := stepF_inv (n := n) (values := values) hn hl pre (List.replicate places.length 0) (replicate_in (by omega) _) (by rw [List.length_replicate]; omega)
  rw [h]
  exact ⟨this.1, by omega⟩
theorem through_turn {n k below : Int} {places values pre f row z : List Int} (hf : f = pre.foldl (stepF n places values) z) (hb : (row, below) = places.foldl (stepT n (places.getD k.toNat 0)) ([1], 1)) :
    sumP n f (row.map fun part => part * (values.getD k.toNat 0 * (below ^ (n - 2).toNat % n) % n) % n) = (pre ++ [k]).foldl (stepF n places values) z := by
  rw [List.foldl_append, List.foldl_cons, List.foldl_nil, ← hf, stepF, ← hb, part_map]
theorem through_end {n : Int} {places values f : List Int} (h : f = (rangeKs 0 ((places.length : Int) - 0).toNat).foldl (stepF n places values) (List.replicate places.length 0)) : f = throughP n places values := by
  rw [h, show ((places.length : Int) - 0).toNat = places.length by omega]; rfl
theorem range3 : rangeKs 0 0 = [] ∧ rangeKs 0 1 = [0] ∧ rangeKs 0 2 = [0, 1] ∧ rangeKs 0 3 = [0, 1, 2] := by decide
theorem thr1 {p : Int} (v0 : Int) : [0].foldl (stepF p [0] [v0]) (List.replicate 1 0) = through1 p v0 := by
  simp [stepF, stepT, through1]
theorem thr2 {p : Int} (v0 v1 : Int) : [0, 1].foldl (stepF p [0, 1] [v0, v1]) (List.replicate 2 0) = through2 p v0 v1 := by
  simp [stepF, stepT, through2, List.replicate]
theorem thr3 {p : Int} (v0 v1 v2 : Int) : [0, 1, 2].foldl (stepF p [0, 1, 2] [v0, v1, v2]) (List.replicate 3 0) = through3 p v0 v1 v2 := by
  simp [stepF, stepT, through3, List.replicate]
/-- through its own values at as many places as it has parts leads just that polynomial -/
theorem through_cut {p : Int} (hp : p ∈ primes2) : ∀ (l : List Int), InP p l → l.length ≤ 3 → cutP (throughP p (rangeKs 0 l.length) ((rangeKs 0 l.length).map fun x => hor p x l)) = cutP l
  | [], _, _ => rfl
  | [c0], h, _ => by
    have e : throughP p (rangeKs 0 1) ((rangeKs 0 1).map fun x => hor p x [c0]) = through1 p (hor p 0 [c0]) := by
      rw [range3.2.1]; simp only [throughP, List.length_cons, List.length_nil, Nat.zero_add, range3.2.1, List.map_cons, List.map_nil]; exact thr1 _
    exact (congrArg cutP e).trans (through1_cut p hp c0 (mem_zeroTo (h c0 (.head _)).1 (h c0 (.head _)).2))
  | [c0, c1], h, _ => by
    have e : throughP p (rangeKs 0 2) ((rangeKs 0 2).map fun x => hor p x [c0, c1]) = through2 p (hor p 0 [c0, c1]) (hor p 1 [c0, c1]) := by
      rw [range3.2.2.1]; simp only [throughP, List.length_cons, List.length_nil, Nat.zero_add, Nat.reduceAdd, range3.2.2.1, List.map_cons, List.map_nil]; exact thr2 _ _
    exact (congrArg cutP e).trans (through2_cut p hp c0 (mem_zeroTo (h c0 (.head _)).1 (h c0 (.head _)).2) c1 (mem_zeroTo (h c1 (.tail _ (.head _))).1 (h c1 (.tail _ (.head _))).2))
  | [c0, c1, c2], h, _ => by
    have e : throughP p (rangeKs 0 3) ((rangeKs 0 3).map fun x => hor p x [c0, c1, c2]) = through3 p (hor p 0 [c0, c1, c2]) (hor p 1 [c0, c1, c2]) (hor p 2 [c0, c1, c2]) := by
      rw [range3.2.2.2]; simp only [throughP, List.length_cons, List.length_nil, Nat.zero_add, Nat.reduceAdd, range3.2.2.2, List.map_cons, List.map_nil]; exact thr3 _ _ _
    exact (congrArg cutP e).trans (through3_cut hp h)
  | _ :: _ :: _ :: _ :: _, _, h => by simp at h
end Mine
namespace Mine
theorem ladle_no {l : Addr} {vs : List Value} {ns : List Int} {k : Int} {t : Tok} {c1 c2 : Nat} (hI : IntsAre vs ns) (e : listOf vs.toArray c2 = listOf [Value.ref l, Value.int k t].toArray c1) : False := by
  have h : vs = [Value.ref l, Value.int k t] := by
    have := congrArg Obj.data e
    have this : vs = [Value.ref l, Value.int k t] ∧ c2 = c1 := by simpa [PySem.W.listOf] using this
    exact this.1
  subst h
  cases hI
open LCg LCt
/-- a drawn element of a comprehension -/
def DEl (h₀ : Heap) (L : Addr) (m : Str → Option Value) (s₁ : Shared) (I : Addr) (oI : Obj) (C : Addr) (oC : Obj) (D : Addr) (oD : Obj) (g : Obj → List (Addr × Obj)) (l : Addr) (n k : Int) (y : Value) (s₂ : Shared) : Prop :=
  ∃ r t t1 c h' tk, y = .int r t ∧ 0 ≤ r ∧ r < n ∧ s₂ = { s₁ with heap := h', toks := tk } ∧ Fr h₀ L h' m ∧ News h₀ L h' ((I, oI) :: (C, oC) :: (D, oD) :: g (listOf [Value.ref l, Value.int (k + 1) t1].toArray c))
theorem del {h₀ : Heap} {L : Addr} {m : Str → Option Value} {s₁ : Shared} {I C D : Addr} {oI oC oD : Obj} {g : Obj → List (Addr × Obj)} {l : Addr} {n k k' r : Int} {t t1 : Tok} {c : Nat} {h' : Heap} {tk : Nat} (h0 : 0 ≤ r) (h1 : r < n) (F : Fr h₀ L h' m) (e : k' = k + 1)
    (N : News h₀ L h' ((I, oI) :: (C, oC) :: (D, oD) :: g (listOf [Value.ref l, Value.int k' t1].toArray c))) : DEl h₀ L m s₁ I oI C oC D oD g l n k (.int r t) { s₁ with heap := h', toks := tk } := ⟨r, t, t1, c, h', tk, rfl, h0, h1, rfl, F, e ▸ N⟩
section
variable {prog : Program} {w : World} {A : Around} {E : Value → Shared → Prop} {s₁ : Shared} {h₀ : Heap} {L : Addr} {m : Str → Option Value} {env : Env} {elt : PySem.Expr} {x : Str} {scope : Scope} {cl : List (Str × Addr)} {Fin : Shared → List Value → List (Addr × Obj) → Prop} {news : List (Addr × Obj)}
theorem off3_g {I C D : Addr} {pre post : List (Addr × Obj)} {d : Addr} {o o' : Obj} (h : Off3 I C D (pre ++ (d, o) :: post)) : Off3 I C D (pre ++ (d, o') :: post) := Off3.of fun p hp => by
  rcases List.mem_append.mp hp with hp | hp
  · exact h.mem p (List.mem_append_left _ hp)
  rcases List.mem_cons.mp hp with rfl | hp
  · exact h.mem (d, o) (List.mem_append_right _ (.head _))
  · exact h.mem p (List.mem_append_right _ (.tail _ hp))
theorem updF_again {d : Addr} {o o' : Obj} : ∀ {l : List (Addr × Obj)} {g : Obj → List (Addr × Obj)}, UpdF d o l g → UpdF d o' (g o') g
  | _, _, .head h => .head h
  | _, _, .tail h r => .tail h (updF_again r)
theorem updF_mem {d : Addr} {o : Obj} : ∀ {l : List (Addr × Obj)} {g : Obj → List (Addr × Obj)}, UpdF d o l g → (d, o) ∈ l
  | _, _, .head _ => .head _
  | _, _, .tail _ r => .tail _ (updF_mem r)
theorem updF_off {d I C D : Addr} {o oI oC oD : Obj} {l : List (Addr × Obj)} {g : Obj → List (Addr × Obj)} (U : UpdF d o l g) (h : Off3 I C D l) : UpdF d o ((I, oI) :: (C, oC) :: (D, oD) :: l) (fun o => (I, oI) :: (C, oC) :: (D, oD) :: g o) :=
  have h := h.mem _ (updF_mem U)
  .tail (Ne.symm h.1) (.tail (Ne.symm h.2.1) (.tail (Ne.symm h.2.2) U))
theorem src_draw {pan l : Addr} {k : Int} {tk1 : Tok} {c1 : Nat} {g : Obj → List (Addr × Obj)} (n : Int) {r : Addr} {a b : Int} {t u v : Tok} (hh : A.handled = none) (F : Fr h₀ L s₁.heap m) (N : News h₀ L s₁.heap news) (_hm : (pan, listOf [Value.ref l, Value.int k tk1].toArray c1) ∈ news) (U : UpdF pan (listOf [Value.ref l, Value.int k tk1].toArray c1) news g) (hr : IsRange s₁.heap r a b 1 t u v) (ha : -1000 ≤ a) (ha' : a ≤ 1000) (hb : -1000 ≤ b) (hb' : b ≤ 1000) (h5 : b - a ≤ 5) (hk0 : 0 ≤ k) (hk1 : k ≤ 50)
    (turn : ∀ (j : Nat) k' t I oI C oC D m₂ ys h tk (E' : Value → Shared → Prop) t' c', j < (b - a).toNat → 0 ≤ k' → k' ≤ 100 → NsObj oC m₂ → m₂ x = some (.int (a + (j : Int)) t) → Fr h₀ L h m → News h₀ L h ((I, oI) :: (C, oC) :: (D, lst ys) :: g (listOf [Value.ref l, Value.int k' t'].toArray c')) → Off3 I C D (g (listOf [Value.ref l, Value.int k' t'].toArray c')) → UpdF pan (listOf [Value.ref l, Value.int k' t'].toArray c') ((I, oI) :: (C, oC) :: (D, lst ys) :: g (listOf [Value.ref l, Value.int k' t'].toArray c')) (fun o => (I, oI) :: (C, oC) :: (D, lst ys) :: g o) → ((@Ne Nat I C) ∧ (@Ne Nat I D) ∧ (@Ne Nat C D)) →
      wpAny (model prog w) A (eval elt (compEnvC scope cl C env)) (DEl h₀ L m { s₁ with heap := h, toks := tk } I oI C oC D (lst ys) g l n k') E' { s₁ with heap := h, toks := tk })
    (fin : ∀ g' ys zs k' t' c', IntsAre ys zs → zs.length ≤ 5 → InP n zs → 0 ≤ k' → k' ≤ k + 5 → Fin { s₁ with heap := g' } ys (g (listOf [Value.ref l, Value.int k' t'].toArray c'))) : CompSrc prog w A h₀ L m env elt x scope cl Fin (.ref r) s₁ := by
  obtain ⟨pre, post, e, hg, h1, h2⟩ := U.split
  refine CompSrc.range hh F N hr (small_one (by omega) (by omega) (by omega) (by omega)) (rangeSize_nat a b) (by rw [PySem.sizeLine_eq]; omega) fun g' => ?_
  have key : ∀ (j i : Nat) (ys : List Value) (zs : List Int) k' t' c', i + j = (b - a).toNat → k' = k + (i : Int) → IntsAre ys zs → zs.length = i → InP n zs → CompRest prog w A h₀ L m env elt x scope cl { s₁ with heap := g' } (fun _ => True) (fun i v => ∃ t, v = .int (a + (i : Int)) t) (fun ys news => Fin { s₁ with heap := g' } ys news) j i ys (g (listOf [Value.ref l, Value.int k' t'].toArray c')) := by
    intro j
    induction j with
    | zero =>
      intro i ys zs k' t' c' hi hk hy hz hp
      exact CompRest.zero (fin g' ys zs k' t' c' hy (by omega) hp (by omega) (by omega))
    | succ j ih =>
      intro i ys zs k' t' c' hi hk hy hz hp
      refine CompRest.succ ?_
      rintro v I oI C oC D m₂ h tk E' ⟨tv, rfl⟩ hC hx F N off ne
      refine wpAny_mono (turn i k' tv I oI C oC D m₂ ys h tk E' t' c' (by omega) (by omega) (by omega) hC hx F N off (updF_off (updF_again U) off) ne) (fun y s₃ hr => ?_) fun _ _ e => e
      obtain ⟨r, t, t1, c, h', tk', rfl, b0, b1, rfl, F', N'⟩ := hr
      refine CompEnd.intro F' N' _ (fun _ hp => hp) ?_ trivial (ih (i + 1) _ (zs ++ [r]) (k' + 1) t1 c (by omega) (by omega) (IntsAre.append hy (.cons r t .nil)) (by rw [List.length_append, hz]; rfl) ?_)
      · rw [hg] at off ⊢; exact off3_g off
      · intro z hz
        rcases List.mem_append.mp hz with hz | hz
        · exact hp z hz
        · rw [List.mem_singleton.mp hz]; exact ⟨b0, b1⟩
  have e0 : news = g (listOf [Value.ref l, Value.int k tk1].toArray c1) := by rw [e, hg]
  rw [e0]
  exact key _ 0 [] [] k tk1 c1 (by omega) (by omega) .nil rfl (fun _ h => nomatch h)
end
end Mine
namespace Mine
theorem len_take14 {l : List Int} : (List.take 14 l).length ≤ 100 := by rw [List.length_take]; omega
theorem in_primes {k : Int} (h0 : 0 ≤ k) (h1 : k < 5) : [3, 5, 7, 11, 13].getD k.toNat 0 ∈ primes2 := by
  have h : k = 0 ∨ k = 1 ∨ k = 2 ∨ k = 3 ∨ k = 4 := by omega
  rcases h with rfl | rfl | rfl | rfl | rfl <;> decide
theorem le5_20 {l : List Int} (h : l.length ≤ 5) : l.length ≤ 20 := by omega
theorem gen_prime {P : Int → Prop} {k : Int} (h0 : 0 ≤ k) (h1 : k < 5) (h : ∀ p, p ∈ primes2 → 1 ≤ p → 2 ≤ p → p ≤ 13 → p ≤ 100 → 3 ≤ p → P p) : P ([3, 5, 7, 11, 13].getD k.toNat 0) :=
  have g := in_primes h0 h1
  have b := p_pos _ g
  h _ g (by omega) (by omega) b.2 (by omega) b.1
theorem mulOk_getD {n b : Int} {l : List Int} {i : Nat} (h : InP n l) (h1 : 1 ≤ n) (h2 : n ≤ 13) : IntMulOk (l.getD i 0) b := by
  have g := h.getD (by omega) i
  exact PySem.IntMulOk.of_left (PySem.intBits_le_64 (by omega) (by omega))
theorem bne_no {a b : Int} (h : a = b) : ¬ ((a != b) = true) := by rw [h]; simp
theorem sum_no {n x : Int} {l : List Int} (h1 : 1 ≤ n) : hor n x l = (List.map (fun i => l.getD i.toNat 0 * x ^ i.toNat) (rangeKs 0 l.length)).sum.fmod n := by
  rw [sum_val, hor_val, Int.fmod_eq_emod_of_nonneg _ (by omega)]
theorem cut_no {l l' : List Int} (h : l = l') : ¬ ((!decide (l = l')) = true) := by rw [h]; simp
theorem len_prod5 {n : Int} {a b : List Int} (h : a.length ≤ 5) (g : b.length ≤ 5) : (prodP n a b).length ≤ 20 := by rw [prodP_length]; omega
theorem len_sum5 {n : Int} {a b : List Int} (h : a.length ≤ 5) (g : b.length ≤ 5) : (sumP n a b).length ≤ 20 := by rw [sum_length]; omega
theorem len_quo5 {n x : Int} {a : List Int} (h : a.length ≤ 5) : (quo n x a).length ≤ 20 := by rw [quo_length]; omega
theorem len_again1 {n x a b : Int} {l : List Int} (h : l.length ≤ 5) : (prodP n (quo n x l) [a, b]).length ≤ 20 := by rw [prodP_length, quo_length]; simp only [List.length_cons, List.length_nil]; omega
theorem len_again2 {n x a b c : Int} {l : List Int} (h : l.length ≤ 5) : (sumP n (prodP n (quo n x l) [a, b]) [c]).length ≤ 20 := by rw [sum_length, prodP_length, quo_length]; simp only [List.length_cons, List.length_nil]; omega
theorem in_take {n : Int} {k : Nat} {l : List Int} (h : InP n l) : InP n (List.take k l) := fun v hv => h v (List.mem_of_mem_take hv)
theorem len_take5 {k : Nat} {l : List Int} (h : l.length ≤ 5) : (List.take k l).length ≤ 20 := by rw [List.length_take]; omega
theorem in_vals {n : Int} {l c : List Int} (h : 1 ≤ n) : InP n (l.map fun p => hor n p c) := fun v hv => by
  obtain ⟨p, _, rfl⟩ := List.mem_map.mp hv
  exact hor_in (by omega) c
theorem len_vals {n : Int} {l c : List Int} (h : l.length ≤ 20) : (l.map fun p => hor n p c).length ≤ 20 := by rw [List.length_map]; exact h
theorem fin_ok {n : Int} {l pl : List Int} {z : Nat} (hp : n ∈ primes2) (hl : InP n l) (h1 : z = min l.length 3) (h2 : pl = rangeKs 0 z) : cutP (throughP n pl (pl.map fun p => hor n p (List.take ((pl.length : Int)).toNat l))) = cutP (List.take ((pl.length : Int)).toNat l) := by
  have e : ((pl.length : Int)).toNat = z := by rw [h2, rangeKs_length]; omega
  rw [e]
  have e2 : (List.take z l).length = z := by rw [List.length_take]; omega
  have := through_cut hp (List.take z l) (in_take hl) (by omega)
  rw [e2] at this
  rw [h2]; exact this
theorem refl_of {vs : List Value} {X : List Int} (_h : IntsAre vs X) : decide (X = X) = true := decide_eq_true rfl
theorem pos_of {n : Int} (h : 1 ≤ n) : 0 < n := by omega
theorem idx_fit5 {k : Int} {l : List Int} (h : k < (l.length : Int)) (g : l.length ≤ 5) : k < 2 ^ 63 := by omega
section
open LCg
variable {prog : Program} {w : World} {A : Around} {E : Value → Shared → Prop} {s₁ : Shared} {h₀ : Heap} {L : Addr} {m : Str → Option Value} {env : Env} {elt : PySem.Expr} {x : Str} {scope : Scope} {cl : List (Str × Addr)} {Fin : Shared → List Value → List (Addr × Obj) → Prop} {news : List (Addr × Obj)}
theorem src_powers {zs : List Int} (v : Int) {r : Addr} {t u z : Tok} (hh : A.handled = none) (F : Fr h₀ L s₁.heap m) (N : News h₀ L s₁.heap news) (hr : IsRange s₁.heap r 0 (zs.length : Int) 1 t u z) (h5 : zs.length ≤ 5)
    (turn : ∀ k t I oI C oC D m₂ ys h tk (E' : Value → Shared → Prop), 0 ≤ k → k < (zs.length : Int) → NsObj oC m₂ → m₂ x = some (.int k t) → Fr h₀ L h m → News h₀ L h ((I, oI) :: (C, oC) :: (D, lst ys) :: news) → Off3 I C D news → ((@Ne Nat I C) ∧ (@Ne Nat I D) ∧ (@Ne Nat C D)) →
      wpAny (model prog w) A (eval elt (compEnvC scope cl C env)) (CEl h₀ L m { s₁ with heap := h, toks := tk } ((I, oI) :: (C, oC) :: (D, lst ys) :: news) true (zs.getD k.toNat 0 * v ^ k.toNat)) E' { s₁ with heap := h, toks := tk })
    (fin : ∀ g' ys, IntsAre ys ((rangeKs 0 zs.length).map fun i => zs.getD i.toNat 0 * v ^ i.toNat) → ys.length ≤ 5 → Fin { s₁ with heap := g' } ys news) : CompSrc prog w A h₀ L m env elt x scope cl Fin (.ref r) s₁ :=
  src_map_range (fun i => zs.getD i.toNat 0 * v ^ i.toNat) hh F N hr (by omega) (by omega) (by omega) (by omega) turn fun g' ys hy hl => fin g' ys (by rw [show ((zs.length : Int) - 0).toNat = zs.length by omega] at hy; exact hy) (by omega)
theorem src_vals {C : List Int} {cv : List Value} (n : Int) (_iC : IntsAre cv C) {ax : Addr} {vs : List Value} {ns : List Int} {c : Nat} (hh : A.handled = none) (F : Fr h₀ L s₁.heap m) (N : News h₀ L s₁.heap news) (hm : (ax, listOf vs.toArray c) ∈ news) (hi : IntsAre vs ns) (hsz : ns.length ≤ 20)
    (turn : ∀ k t I oI oC' oC D m₂ ys h tk (E' : Value → Shared → Prop), k ∈ ns → NsObj oC m₂ → m₂ x = some (.int k t) → Fr h₀ L h m → News h₀ L h ((I, oI) :: (oC', oC) :: (D, lst ys) :: news) → Off3 I oC' D news → ((@Ne Nat I oC') ∧ (@Ne Nat I D) ∧ (@Ne Nat oC' D)) →
      wpAny (model prog w) A (eval elt (compEnvC scope cl oC' env)) (CEl h₀ L m { s₁ with heap := h, toks := tk } ((I, oI) :: (oC', oC) :: (D, lst ys) :: news) true (hor n k C)) E' { s₁ with heap := h, toks := tk })
    (fin : ∀ g' ys, IntsAre ys (ns.map fun p => hor n p C) → ys.length = ns.length → Fin { s₁ with heap := g' } ys news) : CompSrc prog w A h₀ L m env elt x scope cl Fin (.ref ax) s₁ :=
  src_map_list (fun p => hor n p C) hh F N hm hi (by omega) turn fin
theorem min3_len {s : Shared} {l : List Int} {n : Int} {t u x : Tok} {Q : Value → Shared → Prop} (hh : A.handled = none) (F : Fr h₀ L s.heap m) (N : News h₀ L s.heap news) (hn3 : 3 ≤ n)
    (h : ∀ (z : Nat) tk' h' tk, z = min l.length 3 → z ≤ 3 → Fr h₀ L h' m → News h₀ L h' news → Q (.int (z : Int) tk') { s with heap := h', toks := tk }) :
    wpAny (model prog w) A (call (.builtin "min") [.int (l.length : Int) t, .int n u, .int 3 x]) Q E s :=
  min3_nice hh F N fun W tk' h' tk e F' N' => by
    have e2 : W = ((min l.length 3 : Nat) : Int) := by
      rw [e]
      split <;> split <;> omega
    rw [e2]
    exact h _ tk' h' tk rfl (Nat.min_le_right _ _) F' N'
theorem list_range3 {s : Shared} {r : Addr} {m' : Nat} {t u x : Tok} {Q : Value → Shared → Prop} {n : Int} (hh : A.handled = none) (F : Fr h₀ L s.heap m) (N : News h₀ L s.heap news) (hr : IsRange s.heap r 0 (m' : Int) 1 t u x) (h3 : m' ≤ 3) (hn3 : 3 ≤ n)
    (h : ∀ (pl : List Int) D us c h' tk, pl = rangeKs 0 m' → pl.length = m' → pl.length ≤ 3 → pl.length ≤ 20 → InP n pl → Fr h₀ L h' m → News h₀ L h' ((D, listOf (List.toArray us) c) :: news) → (∀ p ∈ news, p.1 < D) → IntsAre us pl → Q (.ref D) { s with heap := h', toks := tk }) :
    wpAny (model prog w) A (call (.type "list") [.ref r]) Q E s :=
  kll_range hh F N hr (small_one (by omega) (by omega) (by omega) (by omega)) (by rw [rangeSize_nat]; congr 1) (n := m') (by omega) fun D us c h' tk F' N' hlt hI =>
    h _ D us c h' tk rfl (rangeKs_length _ _) (by rw [rangeKs_length]; exact h3) (by rw [rangeKs_length]; omega) (fun v hv => by have := mem_rangeKs hv; omega) F' N' hlt hI
end
end Mine
name_quick tw5062333883121581049 for PySem.W.S.findZ by PySem.W.S.findZ_eq
name_quick tw8075568018651887793 for PySem.W.S.findZ by PySem.W.S.findZ_eq
name_quick tw1662865533458754262 for PySem.W.S.findZ by PySem.W.S.findZ_eq
name_quick tw14979626087600564940 for PySem.W.S.findZ by PySem.W.S.findZ_eq
name_quick tw2752993767334096225 for PySem.W.S.findZ by PySem.W.S.findZ_eq
name_quick tw16751136340355185061 for PySem.W.S.findZ by PySem.W.S.findZ_eq
name_quick tw6907747680420023104 for PySem.W.S.findZ by PySem.W.S.findZ_eq
name_quick tw17706762159258044697 for PySem.W.S.findZ by PySem.W.S.findZ_eq
name_quick tw12299960069397203266 for PySem.W.S.findZ by PySem.W.S.findZ_eq
name_quick tw17804436615005485693 for PySem.W.S.findZ by PySem.W.S.findZ_eq
name_quick tw14224011070414065920 for PySem.W.S.findZ by PySem.W.S.findZ_eq
name_quick tw3657741979558153257 for PySem.W.S.findZ by PySem.W.S.findZ_eq
name_quick tw16296994325663420285 for PySem.W.S.findZ by PySem.W.S.findZ_eq
name_quick tw15883128290750243503 for PySem.W.S.findZ by PySem.W.S.findZ_eq
name_quick tw6957269047217186779 for PySem.W.S.findZ by PySem.W.S.findZ_eq
name_quick tw18101931140130867144 for PySem.W.S.findZ by PySem.W.S.findZ_eq
name_quick tw11502282260701905712 for PySem.W.S.findZ by PySem.W.S.findZ_eq
name_quick tw10887116778572429059 for PySem.W.S.findZ by PySem.W.S.findZ_eq
name_quick tw4319705520415482375 for PySem.W.S.findZ by PySem.W.S.findZ_eq
name_quick tw1574873078441994576 for PySem.W.S.findZ by PySem.W.S.findZ_eq
name_quick tw14821650378409806113 for PySem.W.S.findZ by PySem.W.S.findZ_eq
name_quick tw16487347958798203451 for PySem.W.S.findZ by PySem.W.S.findZ_eq
name_quick tw9501820088010722379 for PySem.W.S.findZ by PySem.W.S.findZ_eq
name_quick tw17975652961387846372 for PySem.W.S.findZ by PySem.W.S.findZ_eq
name_quick tw721709456127091705 for PySem.W.S.findZ by PySem.W.S.findZ_eq
name_quick tw3820604794100220378 for PySem.W.S.findZ by PySem.W.S.findZ_eq
name_quick tw16846860572762119324 for PySem.W.S.findZ by PySem.W.S.findZ_eq
name_quick tw1617757218408452269 for PySem.W.S.findZ by PySem.W.S.findZ_eq
name_quick tw16548257151911338427 for PySem.W.S.findZ by PySem.W.S.findZ_eq
name_quick tw13912434898499826684 for PySem.W.S.findZ by PySem.W.S.findZ_eq
name_quick tw11636919720809706868 for PySem.W.S.findZ by PySem.W.S.findZ_eq
name_quick tw1377046205977697930 for PySem.W.S.findZ by PySem.W.S.findZ_eq
name_quick tw12635813782599140982 for PySem.W.S.findZ by PySem.W.S.findZ_eq
name_quick tw1355338860687761863 for PySem.W.S.findZ by PySem.W.S.findZ_eq
name_quick tw9285146279643344392 for PySem.W.S.findZ by PySem.W.S.findZ_eq
name_quick tw9458956999447867950 for PySem.W.S.findZ by PySem.W.S.findZ_eq
name_quick tw3560238982266916124 for PySem.W.S.findZ by PySem.W.S.findZ_eq
name_quick tw6019396324639902685 for PySem.W.S.findZ by PySem.W.S.findZ_eq
name_quick tw5076957145309523181 for PySem.W.S.findZ by PySem.W.S.findZ_eq
name_quick tw1962928258387122110 for PySem.W.S.findZ by PySem.W.S.findZ_eq
namespace Mine
set_option maxRecDepth 100000 in
set_option maxHeartbeats 8000000 in
open_top hd for PySem.Challenge.rw_sz0004_02
local macro_rules | `(tactic| k_all) => `(tactic| ((fail_if_success (refine List.forall_mem_cons.mpr ⟨?_, ?_⟩)); first
  | assumption
  | (rename LCg.Off1 _ _ => hz9; first | exact off1_ne hz9 | (clear hz9; k_all))
  | (rename And _ _ => hz9; obtain ⟨hz8, hz9⟩ := hz9; k_all)
  | (rename AllLt _ _ => hz9; first | exact ne_all hz9 (by omega) | (clear hz9; k_all))
  | (rename (∀ p : Addr × Obj, p ∈ _ → @LT.lt Nat _ p.1 _) => hz9; first | exact ne_below hz9 (by omega) | (clear hz9; k_all))))
local macro_rules | `(tactic| k_mem) => `(tactic| assumption)
local macro_rules | `(tactic| walk_at "ite") => `(tactic| (k_here; first | (refine ite_pos (by (simp only [bne_iff_ne, ne_eq, beq_iff_eq, decide_eq_true_eq]; omega)) ?_) | (refine ite_neg (by (simp only [bne_iff_ne, ne_eq, beq_iff_eq, decide_eq_true_eq]; omega)) ?_)))
local macro_rules | `(tactic| walk_at "LIPost") => `(tactic| (dsimp only [LIPost]))
local macro_rules | `(tactic| walk_at "LIEnd") => `(tactic| k_extra "mine LIEnd")
local macro_rules | `(tactic| walk_at "ite") => `(tactic| (k_here; k_extra "mine ite"))
local macro_rules | `(tactic| walk_at "exec While Compare cons nil") => `(tactic| k_extra "mine While")
local macro_rules | `(tactic| walk_at "exec While BoolOp cons nil") => `(tactic| k_extra "mine While")
section
local macro_rules | `(tactic| units_room) => `(tactic| ((simp only [units_under_make, units_in1, units_deeper, Around.mark_units, units_caller]); (try dsimp only [ktrTop]); omega))
local macro_rules | `(tactic| k_room) => `(tactic| ((simp only [depth_under_make, depth_under_kw, depth_in1, depth_deeper, depth_caller]); (try dsimp only [ktrTop]); omega))
section
set_option maxRecDepth 100000 in
set_option maxHeartbeats 8000000 in
theorem type_of {w : World} {loose : List Str} {mean : ExcName → Option Value} {mg mb : Str → Option Value} {dp un : Nat} {gd : Option (List Code)} {cn : Str} {cs : Scope} {a : Addr} {ccd : Value} {cl : List (Str × Addr)} {outer : List Env} {A₀ : Around} {base h₀ : Heap} {L : Addr} {m : Str → Option Value} {news : List (Addr × Obj)} {s : Shared} {Q E : Value → Shared → Prop}
    (B : Below A₀ base outer h₀) (F : Fr h₀ L s.heap m) (X : (Mine.hd.heap_39 w.params).In h₀) (N : News h₀ L s.heap news) (T : Top Mine.hd.view_39 loose mean mg mb h₀) (hk : cs.kind = .function) (hd : dp + 12 < recursionLimit) (hu : un + 196 < cLine)
    {n : Int} {ts tn : Tok} (hn : 2 ≤ n) (hn' : n ≤ 13)
    (ret : ∀ {t dx : Addr} {es : List DictEntry} {k : Nat} {tk1 tk2 : Tok} {h' : Heap} {tk' : Nat}, getL "kind" es = some (some (.str "mod" tk1)) → getL "modulus" es = some (some (.int n tk2)) → (∀ p : Addr × Obj, p ∈ news → @LT.lt Nat _ p.1 dx) → @LT.lt Nat _ dx t → Fr h₀ L h' m → News h₀ L h' ((t, instObj 259 dx) :: (dx, dictOf es k) :: news) → Q (.ref t) { s with heap := h', toks := tk' }) :
    wpAny (model PySem.Challenge.rw_sz0004_02.row.toRowW.prog w) (ktrTop dp un gd cn cs L a ccd cl outer) (call (.ref 270) [.str "ring" ts, .int n tn]) Q E s := by
  w_top off
  revert X; k_fill; intro X
  refine wpAny_call ?_
  k_dflt cell_enter
  k_with_none
  k_steps
  all_goals (refine' ret ?g1 ?g2 ?o1 ?o2 ?hF ?hN; (case hF => k_asm); (case hN => (rename News _ _ _ _ => lN'; refine' cb_drop lN' ?hS; refine' List.forall_mem_cons.mpr ⟨?a, ?b⟩; (case a => k_memK); refine' List.forall_mem_cons.mpr ⟨?c, ?d⟩; (case c => k_memK); (intro p9 h9; kst_mem))); (case g1 => k_get); (case g2 => k_get); (case o1 => assumption); (case o2 => omega))

end
local macro_rules | `(tactic| walk_at "getAttr ref") => `(tactic| (k_here; k_dflt (refine' get_own ?k1 ?k2 ?k3 ?k4 ?k5 ?k6 ?k7 ?k8 ?k9 ?_; (case k1 => k_asm); (case k2 => k_asm); (case k3 => k_inst); (case k4 => k_is); (case k5 => k_is); (case k6 => k_is); (case k7 => k_is); (case k8 => assumption); (case k9 => k_handed); k_whole)))
section
set_option maxRecDepth 100000 in
set_option maxHeartbeats 8000000 in
theorem by_mul {w : World} {loose : List Str} {mean : ExcName → Option Value} {mg mb : Str → Option Value} {dp un : Nat} {gd : Option (List Code)} {cn : Str} {cs : Scope} {a : Addr} {ccd : Value} {cl : List (Str × Addr)} {outer : List Env} {A₀ : Around} {base h₀ : Heap} {L : Addr} {m : Str → Option Value} {news : List (Addr × Obj)} {s : Shared} {Q E : Value → Shared → Prop}
    (B : Below A₀ base outer h₀) (F : Fr h₀ L s.heap m) (X : (Mine.hd.heap_39 w.params).In h₀) (N : News h₀ L s.heap news) (T : Top Mine.hd.view_39 loose mean mg mb h₀) (hk : cs.kind = .function) (hd : dp + 8 < recursionLimit) (hu : un + 164 < cLine)
    {t dx : Addr} {es : List DictEntry} {k : Nat} {n : Int} {tk1 tk2 : Tok} (hi : (t, instObj 259 dx) ∈ news) (hdt : (dx, dictOf es k) ∈ news) (hkind : getL "kind" es = some (some (.str "mod" tk1))) (hmod : getL "modulus" es = some (some (.int n tk2))) (hn : 2 ≤ n) (hn' : n ≤ 13) {x y : Int} {ts tx ty : Tok} (hx : 0 ≤ x) (hx' : x < n) (hy : 0 ≤ y) (hy' : y < n)
    (ret : ∀ (t : Tok) (h' : Heap) (tk' : Nat), 0 ≤ (x * y % n) → (x * y % n) < n → Fr h₀ L h' m → News h₀ L h' news → Q (.int (x * y % n) t) { s with heap := h', toks := tk' }) :
    wpAny (model PySem.Challenge.rw_sz0004_02.row.toRowW.prog w) (ktrTop dp un gd cn cs L a ccd cl outer) (call (.ref 286) [.ref t, .str "*" ts, .int x tx, .int y ty]) Q E s := by
  w_top off
  revert X; k_fill; intro X
  have ret : CbRet h₀ L m news s Q (fun t => .int (x * y % n) t) := fun t h' tk' F' N' => ret t h' tk' (Int.emod_nonneg _ (by omega)) (Int.emod_lt_of_pos _ (by omega)) F' N'
  dsimp only [CbRet] at ret
  refine wpAny_call ?_
  k_dflt cell_enter
  k_steps
  all_goals (refine' cb_retI (Q := Q) ret ?e1 ?e2 ?e3; (case e2 => with_reducible assumption); (case e3 => first | with_reducible assumption | (rename News _ _ _ _ => lN'; refine' cb_drop lN' ?cbS; (case cbS => (intro p9 h9; kst_mem)))); (case e1 => exact Int.fmod_eq_emod_of_nonneg _ (by omega)))

set_option maxRecDepth 100000 in
set_option maxHeartbeats 8000000 in
theorem by_add {w : World} {loose : List Str} {mean : ExcName → Option Value} {mg mb : Str → Option Value} {dp un : Nat} {gd : Option (List Code)} {cn : Str} {cs : Scope} {a : Addr} {ccd : Value} {cl : List (Str × Addr)} {outer : List Env} {A₀ : Around} {base h₀ : Heap} {L : Addr} {m : Str → Option Value} {news : List (Addr × Obj)} {s : Shared} {Q E : Value → Shared → Prop}
    (B : Below A₀ base outer h₀) (F : Fr h₀ L s.heap m) (X : (Mine.hd.heap_39 w.params).In h₀) (N : News h₀ L s.heap news) (T : Top Mine.hd.view_39 loose mean mg mb h₀) (hk : cs.kind = .function) (hd : dp + 8 < recursionLimit) (hu : un + 164 < cLine)
    {t dx : Addr} {es : List DictEntry} {k : Nat} {n : Int} {tk1 tk2 : Tok} (hi : (t, instObj 259 dx) ∈ news) (hdt : (dx, dictOf es k) ∈ news) (hkind : getL "kind" es = some (some (.str "mod" tk1))) (hmod : getL "modulus" es = some (some (.int n tk2))) (hn : 2 ≤ n) (hn' : n ≤ 13) {x y : Int} {ts tx ty : Tok} (hx : 0 ≤ x) (hx' : x < n) (hy : 0 ≤ y) (hy' : y < n)
    (ret : ∀ (t : Tok) (h' : Heap) (tk' : Nat), 0 ≤ ((x + y) % n) → ((x + y) % n) < n → Fr h₀ L h' m → News h₀ L h' news → Q (.int ((x + y) % n) t) { s with heap := h', toks := tk' }) :
    wpAny (model PySem.Challenge.rw_sz0004_02.row.toRowW.prog w) (ktrTop dp un gd cn cs L a ccd cl outer) (call (.ref 286) [.ref t, .str "+" ts, .int x tx, .int y ty]) Q E s := by
  w_top off
  revert X; k_fill; intro X
  have ret : CbRet h₀ L m news s Q (fun t => .int ((x + y) % n) t) := fun t h' tk' F' N' => ret t h' tk' (Int.emod_nonneg _ (by omega)) (Int.emod_lt_of_pos _ (by omega)) F' N'
  dsimp only [CbRet] at ret
  refine wpAny_call ?_
  k_dflt cell_enter
  k_steps
  all_goals (refine' cb_retI (Q := Q) ret ?e1 ?e2 ?e3; (case e2 => with_reducible assumption); (case e3 => first | with_reducible assumption | (rename News _ _ _ _ => lN'; refine' cb_drop lN' ?cbS; (case cbS => (intro p9 h9; kst_mem)))); (case e1 => exact Int.fmod_eq_emod_of_nonneg _ (by omega)))

set_option maxRecDepth 100000 in
set_option maxHeartbeats 8000000 in
theorem by_sub {w : World} {loose : List Str} {mean : ExcName → Option Value} {mg mb : Str → Option Value} {dp un : Nat} {gd : Option (List Code)} {cn : Str} {cs : Scope} {a : Addr} {ccd : Value} {cl : List (Str × Addr)} {outer : List Env} {A₀ : Around} {base h₀ : Heap} {L : Addr} {m : Str → Option Value} {news : List (Addr × Obj)} {s : Shared} {Q E : Value → Shared → Prop}
    (B : Below A₀ base outer h₀) (F : Fr h₀ L s.heap m) (X : (Mine.hd.heap_39 w.params).In h₀) (N : News h₀ L s.heap news) (T : Top Mine.hd.view_39 loose mean mg mb h₀) (hk : cs.kind = .function) (hd : dp + 8 < recursionLimit) (hu : un + 164 < cLine)
    {t dx : Addr} {es : List DictEntry} {k : Nat} {n : Int} {tk1 tk2 : Tok} (hi : (t, instObj 259 dx) ∈ news) (hdt : (dx, dictOf es k) ∈ news) (hkind : getL "kind" es = some (some (.str "mod" tk1))) (hmod : getL "modulus" es = some (some (.int n tk2))) (hn : 2 ≤ n) (hn' : n ≤ 13) {x y : Int} {ts tx ty : Tok} (hx : 0 ≤ x) (hx' : x < n) (hy : 0 ≤ y) (hy' : y < n)
    (ret : ∀ (t : Tok) (h' : Heap) (tk' : Nat), 0 ≤ ((x - y) % n) → ((x - y) % n) < n → Fr h₀ L h' m → News h₀ L h' news → Q (.int ((x - y) % n) t) { s with heap := h', toks := tk' }) :
    wpAny (model PySem.Challenge.rw_sz0004_02.row.toRowW.prog w) (ktrTop dp un gd cn cs L a ccd cl outer) (call (.ref 286) [.ref t, .str "-" ts, .int x tx, .int y ty]) Q E s := by
  w_top off
  revert X; k_fill; intro X
  have ret : CbRet h₀ L m news s Q (fun t => .int ((x - y) % n) t) := fun t h' tk' F' N' => ret t h' tk' (Int.emod_nonneg _ (by omega)) (Int.emod_lt_of_pos _ (by omega)) F' N'
  dsimp only [CbRet] at ret
  refine wpAny_call ?_
  k_dflt cell_enter
  k_steps
  all_goals (refine' cb_retI (Q := Q) ret ?e1 ?e2 ?e3; (case e2 => with_reducible assumption); (case e3 => first | with_reducible assumption | (rename News _ _ _ _ => lN'; refine' cb_drop lN' ?cbS; (case cbS => (intro p9 h9; kst_mem)))); (case e1 => exact Int.fmod_eq_emod_of_nonneg _ (by omega)))

end
section
local macro_rules | `(tactic| walk_at "mine pad") => `(tactic| fail)
set_option maxRecDepth 100000 in
set_option maxHeartbeats 8000000 in
theorem by_pow {w : World} {loose : List Str} {mean : ExcName → Option Value} {mg mb : Str → Option Value} {dp un : Nat} {gd : Option (List Code)} {cn : Str} {cs : Scope} {a : Addr} {ccd : Value} {cl : List (Str × Addr)} {outer : List Env} {A₀ : Around} {base h₀ : Heap} {L : Addr} {m : Str → Option Value} {news : List (Addr × Obj)} {s : Shared} {Q E : Value → Shared → Prop}
    (B : Below A₀ base outer h₀) (F : Fr h₀ L s.heap m) (X : (Mine.hd.heap_39 w.params).In h₀) (N : News h₀ L s.heap news) (T : Top Mine.hd.view_39 loose mean mg mb h₀) (hk : cs.kind = .function) (hd : dp + 8 < recursionLimit) (hu : un + 164 < cLine)
    {t dx : Addr} {es : List DictEntry} {k : Nat} {n : Int} {tk1 tk2 : Tok} (hi : (t, instObj 259 dx) ∈ news) (hdt : (dx, dictOf es k) ∈ news) (hkind : getL "kind" es = some (some (.str "mod" tk1))) (hmod : getL "modulus" es = some (some (.int n tk2))) (hn : 2 ≤ n) (hn' : n ≤ 13) {x y : Int} {ts tx ty : Tok} (hx : 0 ≤ x) (hx' : x < n) (hy : 0 ≤ y) (hy' : y < 1000)
    (ret : ∀ (t : Tok) (h' : Heap) (tk' : Nat), 0 ≤ (x ^ y.toNat % n) → (x ^ y.toNat % n) < n → Fr h₀ L h' m → News h₀ L h' news → Q (.int (x ^ y.toNat % n) t) { s with heap := h', toks := tk' }) :
    wpAny (model PySem.Challenge.rw_sz0004_02.row.toRowW.prog w) (ktrTop dp un gd cn cs L a ccd cl outer) (call (.ref 286) [.ref t, .str "**" ts, .int x tx, .int y ty]) Q E s := by
  w_top off
  revert X; k_fill; intro X
  have ret : CbRet h₀ L m news s Q (fun t => .int (x ^ y.toNat % n) t) := fun t h' tk' F' N' => ret t h' tk' (Int.emod_nonneg _ (by omega)) (Int.emod_lt_of_pos _ (by omega)) F' N'
  have hst := powOk_start hn hx hx' hy
  generalize hK : x ^ y.toNat % n = K at hst ret
  dsimp only [CbRet] at ret
  refine wpAny_call ?_
  k_dflt cell_enter
  k_with_none
  k_with "mine While" => (
    (rename Fr _ _ _ _ => lF'); (rename News _ _ _ _ => lN');
    (with_unfolding_all refine' ksw_while (σ := Int × Tok × Int × Tok × Int × Tok) (fun _ => _) (fun c => [(Str.ofString "result", .int c.1 c.2.1), (Str.ofString "x", .int c.2.2.1 c.2.2.2.1), (Str.ofString "n", .int c.2.2.2.2.1 c.2.2.2.2.2)]) (fun _ => True) [] (fun c => PowOk n K c.1 c.2.2.1 c.2.2.2.2.1) (fun c => c.2.2.2.2.1.toNat) (_, _, _, _, _, _) lF' lN' trivial ?kk ?kp ?_);
    (case kk => kst_all); (case kp => exact hst); clear lF' lN'; rintro ⟨r9, t1, x9, t2, e9, t3⟩ u9 h9 tk9 - hP9 F9 N9; dsimp only [kstB] at F9; dsimp only at hP9; k_fold; obtain ⟨b1, b2, b3, b4, b5⟩ := powOk_b hP9)
  k_with "state" => (simp only [beq_iff_eq, beq_eq_false_iff_ne, decide_eq_true_eq] at *; first | exact powOk_odd (by assumption) (by assumption) (by assumption) | exact powOk_even (by assumption) (by assumption) (by assumption))
  k_with "measure" => ((try simp only [decide_eq_true_eq] at *); rw [Int.fdiv_eq_ediv_of_nonneg _ (by omega)]; omega)
  k_steps
  all_goals (refine' cb_retI (Q := Q) ret ?e1 ?e2 ?e3; (case e2 => with_reducible assumption); (case e3 => first | with_reducible assumption | (rename News _ _ _ _ => lN'; refine' cb_drop lN' ?cbS; (case cbS => (intro p9 h9; kst_mem)))); (case e1 => ((try simp only [decide_eq_false_iff_not] at *); exact powOk_end hP9 (by assumption))))

end
section
local macro_rules | `(tactic| k_mem) => `(tactic| ((repeat (first | with_reducible refine List.mem_append_left _ ?_ | with_reducible refine List.mem_cons_of_mem _ ?_)); with_reducible assumption))
local macro_rules | `(tactic| walk_at "call ref") => `(tactic| (k_here; (with_reducible show wpAny _ _ (call (Value.ref 286) [Value.ref _, Value.str (Str.ofString "*") _, Value.int _ _, Value.int _ _]) _ _ _); k_dflt (refine' by_mul ?k1 ?k2 ?k3 ?k4 ?k5 ?kK ?kd ?ku ?t1 ?t2 ?t3 ?t4 ?n1 ?n2 ?x1 ?x2 ?x3 ?x4 ?_; (case k1 => k_asm); (case k2 => k_asm); (case k3 => k_asm); (case k4 => k_asm); (case k5 => k_asm); (case kK => first | exact rfl | assumption); (case kd => k_room); (case ku => units_room); (case t1 => k_mem); (case t2 => k_mem); (case t3 => first | assumption | k_get); (case t4 => first | assumption | k_get); (case n1 => omega); (case n2 => omega); (case x1 => first | omega | k_extra "mine bnd"); (case x2 => first | omega | k_extra "mine bnd"); (case x3 => first | omega | k_extra "mine bnd"); (case x4 => first | omega | k_extra "mine bnd"); intro t9 h9 tk9 b9 c9 F9 N9; (try dsimp only); (try k_fold))))
local macro_rules | `(tactic| walk_at "call ref") => `(tactic| (k_here; (with_reducible show wpAny _ _ (call (Value.ref 286) [Value.ref _, Value.str (Str.ofString "+") _, Value.int _ _, Value.int _ _]) _ _ _); k_dflt (refine' by_add ?k1 ?k2 ?k3 ?k4 ?k5 ?kK ?kd ?ku ?t1 ?t2 ?t3 ?t4 ?n1 ?n2 ?x1 ?x2 ?x3 ?x4 ?_; (case k1 => k_asm); (case k2 => k_asm); (case k3 => k_asm); (case k4 => k_asm); (case k5 => k_asm); (case kK => first | exact rfl | assumption); (case kd => k_room); (case ku => units_room); (case t1 => k_mem); (case t2 => k_mem); (case t3 => first | assumption | k_get); (case t4 => first | assumption | k_get); (case n1 => omega); (case n2 => omega); (case x1 => first | omega | k_extra "mine bnd"); (case x2 => first | omega | k_extra "mine bnd"); (case x3 => first | omega | k_extra "mine bnd"); (case x4 => first | omega | k_extra "mine bnd"); intro t9 h9 tk9 b9 c9 F9 N9; (try dsimp only); (try k_fold))))
local macro_rules | `(tactic| walk_at "call ref") => `(tactic| (k_here; (with_reducible show wpAny _ _ (call (Value.ref 286) [Value.ref _, Value.str (Str.ofString "-") _, Value.int _ _, Value.int _ _]) _ _ _); k_dflt (refine' by_sub ?k1 ?k2 ?k3 ?k4 ?k5 ?kK ?kd ?ku ?t1 ?t2 ?t3 ?t4 ?n1 ?n2 ?x1 ?x2 ?x3 ?x4 ?_; (case k1 => k_asm); (case k2 => k_asm); (case k3 => k_asm); (case k4 => k_asm); (case k5 => k_asm); (case kK => first | exact rfl | assumption); (case kd => k_room); (case ku => units_room); (case t1 => k_mem); (case t2 => k_mem); (case t3 => first | assumption | k_get); (case t4 => first | assumption | k_get); (case n1 => omega); (case n2 => omega); (case x1 => first | omega | k_extra "mine bnd"); (case x2 => first | omega | k_extra "mine bnd"); (case x3 => first | omega | k_extra "mine bnd"); (case x4 => first | omega | k_extra "mine bnd"); intro t9 h9 tk9 b9 c9 F9 N9; (try dsimp only); (try k_fold))))
local macro_rules | `(tactic| walk_at "call ref") => `(tactic| (k_here; (with_reducible show wpAny _ _ (call (Value.ref 286) [Value.ref _, Value.str (Str.ofString "**") _, Value.int _ _, Value.int _ _]) _ _ _); k_dflt (refine' by_pow ?k1 ?k2 ?k3 ?k4 ?k5 ?kK ?kd ?ku ?t1 ?t2 ?t3 ?t4 ?n1 ?n2 ?x1 ?x2 ?x3 ?x4 ?_; (case k1 => k_asm); (case k2 => k_asm); (case k3 => k_asm); (case k4 => k_asm); (case k5 => k_asm); (case kK => first | exact rfl | assumption); (case kd => k_room); (case ku => units_room); (case t1 => k_mem); (case t2 => k_mem); (case t3 => first | assumption | k_get); (case t4 => first | assumption | k_get); (case n1 => omega); (case n2 => omega); (case x1 => first | omega | k_extra "mine bnd"); (case x2 => first | omega | k_extra "mine bnd"); (case x3 => first | omega | k_extra "mine bnd"); (case x4 => first | omega | k_extra "mine bnd"); intro t9 h9 tk9 b9 c9 F9 N9; (try dsimp only); (try k_fold))))
set_option maxRecDepth 100000 in
set_option maxHeartbeats 8000000 in
theorem at_of {w : World} {loose : List Str} {mean : ExcName → Option Value} {mg mb : Str → Option Value} {dp un : Nat} {gd : Option (List Code)} {cn : Str} {cs : Scope} {a : Addr} {ccd : Value} {cl : List (Str × Addr)} {outer : List Env} {A₀ : Around} {base h₀ : Heap} {L : Addr} {m : Str → Option Value} {news : List (Addr × Obj)} {s : Shared} {Q E : Value → Shared → Prop}
    (B : Below A₀ base outer h₀) (F : Fr h₀ L s.heap m) (X : (Mine.hd.heap_39 w.params).In h₀) (N : News h₀ L s.heap news) (T : Top Mine.hd.view_39 loose mean mg mb h₀) (hk : cs.kind = .function) (hd : dp + 16 < recursionLimit) (hu : un + 228 < cLine)
    {t dx : Addr} {es : List DictEntry} {k : Nat} {n : Int} {tk1 tk2 : Tok} (hi : (t, instObj 259 dx) ∈ news) (hdt : (dx, dictOf es k) ∈ news) (hkind : getL "kind" es = some (some (.str "mod" tk1))) (hmod : getL "modulus" es = some (some (.int n tk2))) (hn : 2 ≤ n) (hn' : n ≤ 13) {l : Addr} {vs : List Value} {ns : List Int} {c : Nat} (hl : (l, listOf vs.toArray c) ∈ news) (hI : IntsAre vs ns) (hin : InP n ns) (hlen : ns.length ≤ 20) {x : Int} {tx : Tok} (hx : 0 ≤ x) (hx' : x < n)
    (ret : ∀ (t : Tok) (h' : Heap) (tk' : Nat), 0 ≤ (hor n x ns) → (hor n x ns) < n → Fr h₀ L h' m → News h₀ L h' news → Q (.int (hor n x ns) t) { s with heap := h', toks := tk' }) :
    wpAny (model PySem.Challenge.rw_sz0004_02.row.toRowW.prog w) (ktrTop dp un gd cn cs L a ccd cl outer) (call (.ref 293) [.ref t, .ref l, .int x tx]) Q E s := by
  w_top off
  revert X; k_fill; intro X
  have ret : CbRet h₀ L m news s Q (fun t => .int (hor n x ns) t) := fun t h' tk' F' N' => ret t h' tk' (hor_in (by omega) ns).1 (hor_in (by omega) ns).2 F' N'
  dsimp only [CbRet] at ret
  refine wpAny_call ?_
  k_dflt cell_enter
  k_with_none
  k_with "mine bnd" => first | exact (hin _ (List.mem_reverse.mp (by assumption))).1 | exact (hin _ (List.mem_reverse.mp (by assumption))).2
  k_with "state" => with_unfolding_all exact ⟨fold_turn (f := stepH n x) (by assumption), by assumption, by assumption⟩
  k_with "pyIter ref" => k_state (fun pre b => b = pre.foldl (stepH n x) 0 ∧ 0 ≤ b ∧ b < n) "found"
  k_steps
  all_goals (refine' cb_retI (Q := Q) ret ?e1 ?e2 ?e3; (case e2 => with_reducible assumption); (case e3 => first | with_reducible assumption | (rename News _ _ _ _ => lN'; refine' cb_drop lN' ?cbS; (case cbS => (intro p9 h9; kst_mem)))); (case e1 => assumption))

end
section
local macro_rules | `(tactic| k_mem) => `(tactic| ((repeat (first | with_reducible refine List.mem_append_left _ ?_ | with_reducible refine List.mem_cons_of_mem _ ?_)); with_reducible assumption))
local macro_rules | `(tactic| walk_at "call builtin:len") => `(tactic| (k_here; (with_reducible show wpAny _ _ (call (Value.builtin "len") [Value.ref _]) _ _ _); k_dflt (refine' len_led ?k1 ?k2 ?k3 ?k4 ?_; (case k1 => k_asm); (case k2 => k_mem); (case k3 => assumption); (case k4 => first | omega | (refine' len_le ?h1 ?h2; (case h1 => assumption); (case h2 => omega))); k_whole)))
local macro_rules | `(tactic| walk_at "call ref") => `(tactic| (k_here; (with_reducible show wpAny _ _ (call (Value.ref 286) [Value.ref _, Value.str (Str.ofString "*") _, Value.int _ _, Value.int _ _]) _ _ _); k_dflt (refine' by_mul ?k1 ?k2 ?k3 ?k4 ?k5 ?kK ?kd ?ku ?t1 ?t2 ?t3 ?t4 ?n1 ?n2 ?x1 ?x2 ?x3 ?x4 ?_; (case k1 => k_asm); (case k2 => k_asm); (case k3 => k_asm); (case k4 => k_asm); (case k5 => k_asm); (case kK => first | exact rfl | assumption); (case kd => k_room); (case ku => units_room); (case t1 => k_mem); (case t2 => k_mem); (case t3 => first | assumption | k_get); (case t4 => first | assumption | k_get); (case n1 => omega); (case n2 => omega); (case x1 => first | omega | k_extra "mine bnd"); (case x2 => first | omega | k_extra "mine bnd"); (case x3 => first | omega | k_extra "mine bnd"); (case x4 => first | omega | k_extra "mine bnd"); intro t9 h9 tk9 b9 c9 F9 N9; (try dsimp only); (try k_fold))))
local macro_rules | `(tactic| walk_at "call ref") => `(tactic| (k_here; (with_reducible show wpAny _ _ (call (Value.ref 286) [Value.ref _, Value.str (Str.ofString "+") _, Value.int _ _, Value.int _ _]) _ _ _); k_dflt (refine' by_add ?k1 ?k2 ?k3 ?k4 ?k5 ?kK ?kd ?ku ?t1 ?t2 ?t3 ?t4 ?n1 ?n2 ?x1 ?x2 ?x3 ?x4 ?_; (case k1 => k_asm); (case k2 => k_asm); (case k3 => k_asm); (case k4 => k_asm); (case k5 => k_asm); (case kK => first | exact rfl | assumption); (case kd => k_room); (case ku => units_room); (case t1 => k_mem); (case t2 => k_mem); (case t3 => first | assumption | k_get); (case t4 => first | assumption | k_get); (case n1 => omega); (case n2 => omega); (case x1 => first | omega | k_extra "mine bnd"); (case x2 => first | omega | k_extra "mine bnd"); (case x3 => first | omega | k_extra "mine bnd"); (case x4 => first | omega | k_extra "mine bnd"); intro t9 h9 tk9 b9 c9 F9 N9; (try dsimp only); (try k_fold))))
local macro_rules | `(tactic| walk_at "call ref") => `(tactic| (k_here; (with_reducible show wpAny _ _ (call (Value.ref 286) [Value.ref _, Value.str (Str.ofString "-") _, Value.int _ _, Value.int _ _]) _ _ _); k_dflt (refine' by_sub ?k1 ?k2 ?k3 ?k4 ?k5 ?kK ?kd ?ku ?t1 ?t2 ?t3 ?t4 ?n1 ?n2 ?x1 ?x2 ?x3 ?x4 ?_; (case k1 => k_asm); (case k2 => k_asm); (case k3 => k_asm); (case k4 => k_asm); (case k5 => k_asm); (case kK => first | exact rfl | assumption); (case kd => k_room); (case ku => units_room); (case t1 => k_mem); (case t2 => k_mem); (case t3 => first | assumption | k_get); (case t4 => first | assumption | k_get); (case n1 => omega); (case n2 => omega); (case x1 => first | omega | k_extra "mine bnd"); (case x2 => first | omega | k_extra "mine bnd"); (case x3 => first | omega | k_extra "mine bnd"); (case x4 => first | omega | k_extra "mine bnd"); intro t9 h9 tk9 b9 c9 F9 N9; (try dsimp only); (try k_fold))))
local macro_rules | `(tactic| walk_at "call ref") => `(tactic| (k_here; (with_reducible show wpAny _ _ (call (Value.ref 286) [Value.ref _, Value.str (Str.ofString "**") _, Value.int _ _, Value.int _ _]) _ _ _); k_dflt (refine' by_pow ?k1 ?k2 ?k3 ?k4 ?k5 ?kK ?kd ?ku ?t1 ?t2 ?t3 ?t4 ?n1 ?n2 ?x1 ?x2 ?x3 ?x4 ?_; (case k1 => k_asm); (case k2 => k_asm); (case k3 => k_asm); (case k4 => k_asm); (case k5 => k_asm); (case kK => first | exact rfl | assumption); (case kd => k_room); (case ku => units_room); (case t1 => k_mem); (case t2 => k_mem); (case t3 => first | assumption | k_get); (case t4 => first | assumption | k_get); (case n1 => omega); (case n2 => omega); (case x1 => first | omega | k_extra "mine bnd"); (case x2 => first | omega | k_extra "mine bnd"); (case x3 => first | omega | k_extra "mine bnd"); (case x4 => first | omega | k_extra "mine bnd"); intro t9 h9 tk9 b9 c9 F9 N9; (try dsimp only); (try k_fold))))
set_option maxRecDepth 100000 in
set_option maxHeartbeats 8000000 in
theorem byp_of {w : World} {loose : List Str} {mean : ExcName → Option Value} {mg mb : Str → Option Value} {dp un : Nat} {gd : Option (List Code)} {cn : Str} {cs : Scope} {a : Addr} {ccd : Value} {cl : List (Str × Addr)} {outer : List Env} {A₀ : Around} {base h₀ : Heap} {L : Addr} {m : Str → Option Value} {news : List (Addr × Obj)} {s : Shared} {Q E : Value → Shared → Prop}
    (B : Below A₀ base outer h₀) (F : Fr h₀ L s.heap m) (X : (Mine.hd.heap_39 w.params).In h₀) (N : News h₀ L s.heap news) (T : Top Mine.hd.view_39 loose mean mg mb h₀) (hk : cs.kind = .function) (hd : dp + 16 < recursionLimit) (hu : un + 228 < cLine)
    {t dx : Addr} {es : List DictEntry} {k : Nat} {n : Int} {tk1 tk2 : Tok} (hi : (t, instObj 259 dx) ∈ news) (hdt : (dx, dictOf es k) ∈ news) (hkind : getL "kind" es = some (some (.str "mod" tk1))) (hmod : getL "modulus" es = some (some (.int n tk2))) (hn : 2 ≤ n) (hn' : n ≤ 13) {l : Addr} {vs : List Value} {ns : List Int} {c : Nat} (hl : (l, listOf vs.toArray c) ∈ news) (hI : IntsAre vs ns) (hin : InP n ns) (hlen : ns.length ≤ 20) {x : Int} {tx : Tok} (hx : 0 ≤ x) (hx' : x < n)
    (ret : ∀ (t : Tok) (h' : Heap) (tk' : Nat), 0 ≤ (hor n x ns) → (hor n x ns) < n → Fr h₀ L h' m → News h₀ L h' news → Q (.int (hor n x ns) t) { s with heap := h', toks := tk' }) :
    wpAny (model PySem.Challenge.rw_sz0004_02.row.toRowW.prog w) (ktrTop dp un gd cn cs L a ccd cl outer) (call (.ref 300) [.ref t, .ref l, .int x tx]) Q E s := by
  w_top off
  revert X; k_fill; intro X
  have ret : CbRet h₀ L m news s Q (fun t => .int (hor n x ns) t) := fun t h' tk' F' N' => ret t h' tk' (hor_in (by omega) ns).1 (hor_in (by omega) ns).2 F' N'
  have hg := hin.getD (by omega)
  dsimp only [CbRet] at ret
  refine wpAny_call ?_
  k_dflt cell_enter
  k_with_none
  k_with "mine bnd" => first | exact (hg _).1 | exact (hg _).2
  k_with "state" => with_unfolding_all exact ⟨fold_turn (f := powStep n x ns) (by assumption), by assumption, by assumption⟩
  k_with "pyIter ref" => k_state (fun pre b => b = pre.foldl (powStep n x ns) 0 ∧ 0 ≤ b ∧ b < n) "found"
  k_steps
  all_goals (refine' cb_retI (Q := Q) ret ?e1 ?e2 ?e3; (case e2 => with_reducible assumption); (case e3 => first | with_reducible assumption | (rename News _ _ _ _ => lN'; refine' cb_drop lN' ?cbS; (case cbS => (intro p9 h9; kst_mem)))); (case e1 => exact powers_end (by assumption)))

end
section
local macro_rules | `(tactic| k_mem) => `(tactic| ((repeat (first | with_reducible refine List.mem_append_left _ ?_ | with_reducible refine List.mem_cons_of_mem _ ?_)); with_reducible assumption))
local macro_rules | `(tactic| walk_at "call builtin:len") => `(tactic| (k_here; (with_reducible show wpAny _ _ (call (Value.builtin "len") [Value.ref _]) _ _ _); k_dflt (refine' len_led ?k1 ?k2 ?k3 ?k4 ?_; (case k1 => k_asm); (case k2 => k_mem); (case k3 => assumption); (case k4 => first | omega | (refine' len_le ?h1 ?h2; (case h1 => assumption); (case h2 => omega))); k_whole)))
local macro_rules | `(tactic| walk_at "setItem ref int") => `(tactic| (k_here; (with_reducible show wpAny _ _ (setItem (Value.ref _) (Value.int _ _) (Value.int _ _)) _ _ _); k_dflt (refine' ksa_set ?k1 ?k2 (Upd.head ?k3) ?k4 ?k5 ?k6 ?k7 ?_; (case k1 => k_asm); (case k2 => k_asm); (case k3 => assumption); (case k4 => with_reducible assumption); (case k5 => omega); (case k6 => omega); (case k7 => omega); k_whole); intro h' F' N' hi' hl' hs'))
local macro_rules | `(tactic| walk_at "FLPost") => `(tactic| (dsimp only [FLPost]))
local macro_rules | `(tactic| walk_at "FLEnd") => `(tactic| k_extra "mine FLEnd")
local macro_rules | `(tactic| walk_at "pyIter ref") => `(tactic| (k_here; k_extra "mine pyIter"))
local macro_rules | `(tactic| walk_at "call ref") => `(tactic| (k_here; (with_reducible show wpAny _ _ (call (Value.ref 286) [Value.ref _, Value.str (Str.ofString "*") _, Value.int _ _, Value.int _ _]) _ _ _); k_dflt (refine' by_mul ?k1 ?k2 ?k3 ?k4 ?k5 ?kK ?kd ?ku ?t1 ?t2 ?t3 ?t4 ?n1 ?n2 ?x1 ?x2 ?x3 ?x4 ?_; (case k1 => k_asm); (case k2 => k_asm); (case k3 => k_asm); (case k4 => k_asm); (case k5 => k_asm); (case kK => first | exact rfl | assumption); (case kd => k_room); (case ku => units_room); (case t1 => k_mem); (case t2 => k_mem); (case t3 => first | assumption | k_get); (case t4 => first | assumption | k_get); (case n1 => omega); (case n2 => omega); (case x1 => first | omega | k_extra "mine bnd"); (case x2 => first | omega | k_extra "mine bnd"); (case x3 => first | omega | k_extra "mine bnd"); (case x4 => first | omega | k_extra "mine bnd"); intro t9 h9 tk9 b9 c9 F9 N9; (try dsimp only); (try k_fold))))
local macro_rules | `(tactic| walk_at "call ref") => `(tactic| (k_here; (with_reducible show wpAny _ _ (call (Value.ref 286) [Value.ref _, Value.str (Str.ofString "+") _, Value.int _ _, Value.int _ _]) _ _ _); k_dflt (refine' by_add ?k1 ?k2 ?k3 ?k4 ?k5 ?kK ?kd ?ku ?t1 ?t2 ?t3 ?t4 ?n1 ?n2 ?x1 ?x2 ?x3 ?x4 ?_; (case k1 => k_asm); (case k2 => k_asm); (case k3 => k_asm); (case k4 => k_asm); (case k5 => k_asm); (case kK => first | exact rfl | assumption); (case kd => k_room); (case ku => units_room); (case t1 => k_mem); (case t2 => k_mem); (case t3 => first | assumption | k_get); (case t4 => first | assumption | k_get); (case n1 => omega); (case n2 => omega); (case x1 => first | omega | k_extra "mine bnd"); (case x2 => first | omega | k_extra "mine bnd"); (case x3 => first | omega | k_extra "mine bnd"); (case x4 => first | omega | k_extra "mine bnd"); intro t9 h9 tk9 b9 c9 F9 N9; (try dsimp only); (try k_fold))))
local macro_rules | `(tactic| walk_at "call ref") => `(tactic| (k_here; (with_reducible show wpAny _ _ (call (Value.ref 286) [Value.ref _, Value.str (Str.ofString "-") _, Value.int _ _, Value.int _ _]) _ _ _); k_dflt (refine' by_sub ?k1 ?k2 ?k3 ?k4 ?k5 ?kK ?kd ?ku ?t1 ?t2 ?t3 ?t4 ?n1 ?n2 ?x1 ?x2 ?x3 ?x4 ?_; (case k1 => k_asm); (case k2 => k_asm); (case k3 => k_asm); (case k4 => k_asm); (case k5 => k_asm); (case kK => first | exact rfl | assumption); (case kd => k_room); (case ku => units_room); (case t1 => k_mem); (case t2 => k_mem); (case t3 => first | assumption | k_get); (case t4 => first | assumption | k_get); (case n1 => omega); (case n2 => omega); (case x1 => first | omega | k_extra "mine bnd"); (case x2 => first | omega | k_extra "mine bnd"); (case x3 => first | omega | k_extra "mine bnd"); (case x4 => first | omega | k_extra "mine bnd"); intro t9 h9 tk9 b9 c9 F9 N9; (try dsimp only); (try k_fold))))
local macro_rules | `(tactic| walk_at "call ref") => `(tactic| (k_here; (with_reducible show wpAny _ _ (call (Value.ref 286) [Value.ref _, Value.str (Str.ofString "**") _, Value.int _ _, Value.int _ _]) _ _ _); k_dflt (refine' by_pow ?k1 ?k2 ?k3 ?k4 ?k5 ?kK ?kd ?ku ?t1 ?t2 ?t3 ?t4 ?n1 ?n2 ?x1 ?x2 ?x3 ?x4 ?_; (case k1 => k_asm); (case k2 => k_asm); (case k3 => k_asm); (case k4 => k_asm); (case k5 => k_asm); (case kK => first | exact rfl | assumption); (case kd => k_room); (case ku => units_room); (case t1 => k_mem); (case t2 => k_mem); (case t3 => first | assumption | k_get); (case t4 => first | assumption | k_get); (case n1 => omega); (case n2 => omega); (case x1 => first | omega | k_extra "mine bnd"); (case x2 => first | omega | k_extra "mine bnd"); (case x3 => first | omega | k_extra "mine bnd"); (case x4 => first | omega | k_extra "mine bnd"); intro t9 h9 tk9 b9 c9 F9 N9; (try dsimp only); (try k_fold))))
set_option maxRecDepth 100000 in
set_option maxHeartbeats 8000000 in
theorem prod_of {w : World} {loose : List Str} {mean : ExcName → Option Value} {mg mb : Str → Option Value} {dp un : Nat} {gd : Option (List Code)} {cn : Str} {cs : Scope} {a : Addr} {ccd : Value} {cl : List (Str × Addr)} {outer : List Env} {A₀ : Around} {base h₀ : Heap} {L : Addr} {m : Str → Option Value} {news : List (Addr × Obj)} {s : Shared} {Q E : Value → Shared → Prop}
    (B : Below A₀ base outer h₀) (F : Fr h₀ L s.heap m) (X : (Mine.hd.heap_39 w.params).In h₀) (N : News h₀ L s.heap news) (T : Top Mine.hd.view_39 loose mean mg mb h₀) (hk : cs.kind = .function) (hd : dp + 16 < recursionLimit) (hu : un + 228 < cLine)
    {t dx : Addr} {es : List DictEntry} {k : Nat} {n : Int} {tk1 tk2 : Tok} (hi : (t, instObj 259 dx) ∈ news) (hdt : (dx, dictOf es k) ∈ news) (hkind : getL "kind" es = some (some (.str "mod" tk1))) (hmod : getL "modulus" es = some (some (.int n tk2))) (hn : 2 ≤ n) (hn' : n ≤ 13) {l : Addr} {vs : List Value} {ns : List Int} {c : Nat} (hl : (l, listOf vs.toArray c) ∈ news) (hI : IntsAre vs ns) (hin : InP n ns) (hlen : ns.length ≤ 20) {l2 : Addr} {vs2 : List Value} {ns2 : List Int} {c2 : Nat} (hl2 : (l2, listOf vs2.toArray c2) ∈ news) (hI2 : IntsAre vs2 ns2) (hin2 : InP n ns2) (hlen2 : ns2.length ≤ 20)
    (ret : ∀ (ms : List Int) (l : Addr) (vs : List Value) (c : Nat) (h' : Heap) (tk' : Nat), ms = prodP n ns ns2 → InP n ms → ms.length = ns.length + ns2.length → IntsAre vs ms → (∀ p ∈ news, @Ne Nat p.1 l) → Fr h₀ L h' m → News h₀ L h' ((l, listOf vs.toArray c) :: news) → Q (.ref l) { s with heap := h', toks := tk' }) :
    wpAny (model PySem.Challenge.rw_sz0004_02.row.toRowW.prog w) (ktrTop dp un gd cn cs L a ccd cl outer) (call (.ref 307) [.ref t, .ref l, .ref l2]) Q E s := by
  w_top off
  revert X; k_fill; intro X
  have hg := hin.getD (by omega)
  have hg2 := hin2.getD (by omega)
  refine wpAny_call ?_
  k_dflt cell_enter
  k_with_none
  k_with "mine bnd" => first | exact (hg _).1 | exact (hg _).2 | exact (hg2 _).1 | exact (hg2 _).2 | exact (hg3 _).1 | exact (hg3 _).2
  k_with "mine pyIter" => focus (first
    | ((rename Fr _ _ _ _ => lF'); (rename News _ _ _ _ => lN'); (with_unfolding_all refine' for_L (x := Str.ofString "at") [Str.ofString "place"] (fun pre f => f = pre.foldl (prodStep n ns ns2) (List.replicate (ns.length + ns2.length) 0)) ?zh ?zr ?z1 ?z2 ?z3 ?z4 lF' lN' ?zI ?zn ?zP ?_ ?_); (case zh => with_unfolding_all rfl); (case zr => assumption); (case z1 => omega); (case z2 => omega); (case z3 => omega); (case z4 => omega); (case zI => assumption); (case zn => k_all); (case zP => exact rep_flat (by omega)); clear lF' lN';
        (all_goals first | (intro vA nA cA pA kA tA uA hA tkA oA hkA hkA2 offA hIA hPA FA NA mkA; (try k_fold); obtain ⟨bA, gA⟩ := prod_pre (n := n) (by omega) hPA) | (intro vA nA cA uA hA tkA hIA hPA FA NA mkA; (try k_fold))))
    | ((rename Fr _ _ _ _ => lF'); (rename News _ _ _ _ => lN'); (with_unfolding_all refine' for_L (x := Str.ofString "place") [] (fun pre f => f = pre.foldl (rowStep n (ns.getD kA.toNat 0) kA ns2) nA) ?zh ?zr ?z1 ?z2 ?z3 ?z4 lF' lN' ?zI ?zn ?zP ?_ ?_); (case zh => with_unfolding_all rfl); (case zr => assumption); (case z1 => omega); (case z2 => omega); (case z3 => omega); (case z4 => omega); (case zI => assumption); (case zn => assumption); (case zP => with_unfolding_all rfl); clear lF' lN';
        (all_goals first | (intro vB nB cB pB kB tB uB hB tkB oB hkB hkB2 offB hIB hPB FB NB mkB; (try k_fold); obtain ⟨bB, gB⟩ := row_pre (by omega) gA hPB; have hg3 := gB.getD (by omega)) | (intro vB nB cB uB hB tkB hIB hPB FB NB mkB; (try k_fold)))))
  k_with "mine FLEnd" => (
    (rename News _ _ _ _ => lN'); (with_unfolding_all refine' fl_end ?kF lN' ?kI ?kr ?kP); (case kF => assumption); (case kI => assumption);
    (case kr => (intro z z1 z2; first | (simp [z1]; done) | (have z3 : z ≠ Str.ofString "place" := (fun e => by rw [e] at z2; exact absurd z2 (by decide)); simp [z1, z3])));
    (case kP => first | exact fold_turn hPB | exact prod_turn hPA hPB))
  k_steps
  all_goals (refine' ret _ _ _ cA _ _ (prod_end hPA) ?zi ?zl ?zI ?zq ?zF ?zN; (case zI => assumption); (case zF => with_reducible assumption); (case zi => exact (prod_pre (by omega) hPA).2); (case zl => exact (prod_pre (n := n) (by omega) hPA).1); (case zq => (rename _ ∧ AllLt _ _ => lQ; exact fun p hp => Nat.ne_of_lt (ktn_ltOf lQ.2 p hp))); (case zN => (rename News _ _ _ _ => lN'; refine' cb_drop lN' ?cbS; (case cbS => (refine List.forall_mem_cons.mpr ⟨.head _, ?_⟩; intro p9 h9; exact .tail _ (.tail _ h9))))))

end
section
local macro_rules | `(tactic| k_mem) => `(tactic| ((repeat (first | with_reducible refine List.mem_append_left _ ?_ | with_reducible refine List.mem_cons_of_mem _ ?_)); with_reducible assumption))
local macro_rules | `(tactic| walk_at "call builtin:len") => `(tactic| (k_here; (with_reducible show wpAny _ _ (call (Value.builtin "len") [Value.ref _]) _ _ _); k_dflt (refine' len_led ?k1 ?k2 ?k3 ?k4 ?_; (case k1 => k_asm); (case k2 => k_mem); (case k3 => assumption); (case k4 => first | omega | (refine' len_le ?h1 ?h2; (case h1 => assumption); (case h2 => omega))); k_whole)))
local macro_rules | `(tactic| walk_at "eval ListComp") => `(tactic| (k_here; (with_reducible show wpAny _ _ (eval (Expr.ListComp _ [⟨_, _, [], _⟩] _ _) _) _ _ _); k_dflt (refine LCg.ListComp_U (F₀ := by k_asm) (by with_unfolding_all rfl) (by decide) (by rfl) (by decide) (by rfl) ?_); k_dflt lcg_toSrc))
local macro_rules | `(tactic| walk_at "eval ListComp") => `(tactic| (k_here; lct_look; k_dflt (refine LCt.ListComp_T (F₀ := by k_asm) (by with_unfolding_all rfl) (by decide) (by rfl) (by decide) (by rfl) ?_); k_dflt lct_toSrc))
local macro_rules | `(tactic| walk_at "exec Assign cons ListComp") => `(tactic| (k_here; (with_reducible show wpAny _ _ (exec (Stmt.Assign _ (Expr.ListComp _ [⟨_, _, [], _⟩] _ _) _) _) _ _ _); k_dflt (refine LCg.Assign_ListComp_U (F₀ := by k_asm) (by rfl) (by with_unfolding_all rfl) (by with_unfolding_all rfl) (by decide) (by rfl) (by decide) (by rfl) (by rfl) (by rfl) ?_); k_dflt lcg_toSrc))
local macro_rules | `(tactic| walk_at "exec Assign cons ListComp") => `(tactic| (k_here; lct_look; k_dflt (refine LCt.Assign_ListComp_T (F₀ := by k_asm) (by rfl) (by with_unfolding_all rfl) (by with_unfolding_all rfl) (by decide) (by rfl) (by decide) (by rfl) (by rfl) (by rfl) ?_); k_dflt lct_toSrc))
local macro_rules | `(tactic| walk_at "CompSrcT") => `(tactic| (k_here; k_extra "mine CompSrcT"))
local macro_rules | `(tactic| walk_at "CompSrc") => `(tactic| (k_here; k_extra "mine CompSrc"))
local macro_rules | `(tactic| walk_at "CEl") => `(tactic| (k_dflt (refine' cel ?a ?b ?c ?d; (case c => k_asm); (case d => k_asm); (case b => first | rfl | assumption | k_extra "mine cel"); (case a => first | rfl | assumption | ((simp only [bne_iff_ne, ne_eq, beq_iff_eq, decide_eq_true_eq]); first | assumption | omega) | k_extra "mine cel"))))
local macro_rules | `(tactic| walk_at "CNo") => `(tactic| (k_dflt (refine' cno ?a ?c ?d; (case c => k_asm); (case d => k_asm); (case a => first | rfl | assumption | ((simp only [bne_eq_false_iff_eq, beq_eq_false_iff_ne, ne_eq, decide_eq_false_iff_not]); first | assumption | omega) | k_extra "mine cel"))))
local macro_rules | `(tactic| walk_at "call builtin:max") => `(tactic| (k_here; (with_reducible show wpAny _ _ (call (Value.builtin _) [Value.int _ _, Value.int _ _]) _ _ _); k_dflt (refine' max_nice ?k0 ?k1 ?k2 ?_; (case k0 => with_unfolding_all rfl); (case k1 => k_asm); (case k2 => k_asm); k_whole); intro W9 t9 h9 tk9 m9 d9 e9 F9 N9; (have f9 := m9.le (N := 20) (by omega) (by omega))))
local macro_rules | `(tactic| walk_at "subscriptTail Name Name ref int") => `(tactic| (k_here; (with_reducible show wpAny _ _ (subscriptTail _ _ (Value.ref _) (Value.int _ _)) _ _ _); k_dflt (refine' ksa_sub ?k1 ?k2 ?k3 ?k4 ?k5 ?k6 ?_ ?k7; (case k1 => k_asm); (case k2 => k_memK); (case k3 => with_reducible assumption); (case k4 => first | assumption | omega); (case k5 => k_extra "mine idx"); (case k6 => first | exact idx_fit (by assumption) (by assumption) | k_extra "mine fit" | omega); (case k7 => with_unfolding_all rfl); k_whole); intro _))
local macro_rules | `(tactic| walk_at "call ref") => `(tactic| (k_here; (with_reducible show wpAny _ _ (call (Value.ref 286) [Value.ref _, Value.str (Str.ofString "*") _, Value.int _ _, Value.int _ _]) _ _ _); k_dflt (refine' by_mul ?k1 ?k2 ?k3 ?k4 ?k5 ?kK ?kd ?ku ?t1 ?t2 ?t3 ?t4 ?n1 ?n2 ?x1 ?x2 ?x3 ?x4 ?_; (case k1 => k_asm); (case k2 => k_asm); (case k3 => k_asm); (case k4 => k_asm); (case k5 => k_asm); (case kK => first | exact rfl | assumption); (case kd => k_room); (case ku => units_room); (case t1 => k_mem); (case t2 => k_mem); (case t3 => first | assumption | k_get); (case t4 => first | assumption | k_get); (case n1 => omega); (case n2 => omega); (case x1 => first | omega | k_extra "mine bnd"); (case x2 => first | omega | k_extra "mine bnd"); (case x3 => first | omega | k_extra "mine bnd"); (case x4 => first | omega | k_extra "mine bnd"); intro t9 h9 tk9 b9 c9 F9 N9; (try dsimp only); (try k_fold))))
local macro_rules | `(tactic| walk_at "call ref") => `(tactic| (k_here; (with_reducible show wpAny _ _ (call (Value.ref 286) [Value.ref _, Value.str (Str.ofString "+") _, Value.int _ _, Value.int _ _]) _ _ _); k_dflt (refine' by_add ?k1 ?k2 ?k3 ?k4 ?k5 ?kK ?kd ?ku ?t1 ?t2 ?t3 ?t4 ?n1 ?n2 ?x1 ?x2 ?x3 ?x4 ?_; (case k1 => k_asm); (case k2 => k_asm); (case k3 => k_asm); (case k4 => k_asm); (case k5 => k_asm); (case kK => first | exact rfl | assumption); (case kd => k_room); (case ku => units_room); (case t1 => k_mem); (case t2 => k_mem); (case t3 => first | assumption | k_get); (case t4 => first | assumption | k_get); (case n1 => omega); (case n2 => omega); (case x1 => first | omega | k_extra "mine bnd"); (case x2 => first | omega | k_extra "mine bnd"); (case x3 => first | omega | k_extra "mine bnd"); (case x4 => first | omega | k_extra "mine bnd"); intro t9 h9 tk9 b9 c9 F9 N9; (try dsimp only); (try k_fold))))
local macro_rules | `(tactic| walk_at "call ref") => `(tactic| (k_here; (with_reducible show wpAny _ _ (call (Value.ref 286) [Value.ref _, Value.str (Str.ofString "-") _, Value.int _ _, Value.int _ _]) _ _ _); k_dflt (refine' by_sub ?k1 ?k2 ?k3 ?k4 ?k5 ?kK ?kd ?ku ?t1 ?t2 ?t3 ?t4 ?n1 ?n2 ?x1 ?x2 ?x3 ?x4 ?_; (case k1 => k_asm); (case k2 => k_asm); (case k3 => k_asm); (case k4 => k_asm); (case k5 => k_asm); (case kK => first | exact rfl | assumption); (case kd => k_room); (case ku => units_room); (case t1 => k_mem); (case t2 => k_mem); (case t3 => first | assumption | k_get); (case t4 => first | assumption | k_get); (case n1 => omega); (case n2 => omega); (case x1 => first | omega | k_extra "mine bnd"); (case x2 => first | omega | k_extra "mine bnd"); (case x3 => first | omega | k_extra "mine bnd"); (case x4 => first | omega | k_extra "mine bnd"); intro t9 h9 tk9 b9 c9 F9 N9; (try dsimp only); (try k_fold))))
local macro_rules | `(tactic| walk_at "call ref") => `(tactic| (k_here; (with_reducible show wpAny _ _ (call (Value.ref 286) [Value.ref _, Value.str (Str.ofString "**") _, Value.int _ _, Value.int _ _]) _ _ _); k_dflt (refine' by_pow ?k1 ?k2 ?k3 ?k4 ?k5 ?kK ?kd ?ku ?t1 ?t2 ?t3 ?t4 ?n1 ?n2 ?x1 ?x2 ?x3 ?x4 ?_; (case k1 => k_asm); (case k2 => k_asm); (case k3 => k_asm); (case k4 => k_asm); (case k5 => k_asm); (case kK => first | exact rfl | assumption); (case kd => k_room); (case ku => units_room); (case t1 => k_mem); (case t2 => k_mem); (case t3 => first | assumption | k_get); (case t4 => first | assumption | k_get); (case n1 => omega); (case n2 => omega); (case x1 => first | omega | k_extra "mine bnd"); (case x2 => first | omega | k_extra "mine bnd"); (case x3 => first | omega | k_extra "mine bnd"); (case x4 => first | omega | k_extra "mine bnd"); intro t9 h9 tk9 b9 c9 F9 N9; (try dsimp only); (try k_fold))))
set_option maxRecDepth 100000 in
set_option maxHeartbeats 8000000 in
theorem sum_of {w : World} {loose : List Str} {mean : ExcName → Option Value} {mg mb : Str → Option Value} {dp un : Nat} {gd : Option (List Code)} {cn : Str} {cs : Scope} {a : Addr} {ccd : Value} {cl : List (Str × Addr)} {outer : List Env} {A₀ : Around} {base h₀ : Heap} {L : Addr} {m : Str → Option Value} {news : List (Addr × Obj)} {s : Shared} {Q E : Value → Shared → Prop}
    (B : Below A₀ base outer h₀) (F : Fr h₀ L s.heap m) (X : (Mine.hd.heap_39 w.params).In h₀) (N : News h₀ L s.heap news) (T : Top Mine.hd.view_39 loose mean mg mb h₀) (hk : cs.kind = .function) (hd : dp + 16 < recursionLimit) (hu : un + 228 < cLine)
    {t dx : Addr} {es : List DictEntry} {k : Nat} {n : Int} {tk1 tk2 : Tok} (hi : (t, instObj 259 dx) ∈ news) (hdt : (dx, dictOf es k) ∈ news) (hkind : getL "kind" es = some (some (.str "mod" tk1))) (hmod : getL "modulus" es = some (some (.int n tk2))) (hn : 2 ≤ n) (hn' : n ≤ 13) {l : Addr} {vs : List Value} {ns : List Int} {c : Nat} (hl : (l, listOf vs.toArray c) ∈ news) (hI : IntsAre vs ns) (hin : InP n ns) (hlen : ns.length ≤ 20) {l2 : Addr} {vs2 : List Value} {ns2 : List Int} {c2 : Nat} (hl2 : (l2, listOf vs2.toArray c2) ∈ news) (hI2 : IntsAre vs2 ns2) (hin2 : InP n ns2) (hlen2 : ns2.length ≤ 20)
    (ret : ∀ (ms : List Int) (l : Addr) (vs : List Value) (c : Nat) (h' : Heap) (tk' : Nat), ms = sumP n ns ns2 → InP n ms → ms.length = max ns.length ns2.length → IntsAre vs ms → (∀ p ∈ news, @Ne Nat p.1 l) → Fr h₀ L h' m → News h₀ L h' ((l, listOf vs.toArray c) :: news) → Q (.ref l) { s with heap := h', toks := tk' }) :
    wpAny (model PySem.Challenge.rw_sz0004_02.row.toRowW.prog w) (ktrTop dp un gd cn cs L a ccd cl outer) (call (.ref 312) [.ref t, .ref l, .ref l2]) Q E s := by
  w_top off
  revert X; k_fill; intro X
  have hg := hin.getD (by omega)
  have hg2 := hin2.getD (by omega)
  refine wpAny_call ?_
  k_dflt (refine' code_defC ?k1 ?k2 ?k3 ?k4 ?k5 ?kA ?kF ?kK ?k6 ?k7 ?k8 ?k9 ?kB ?kD ?_ ?c2 ?c3 ?c4; (case kA => exact rfl); (case kF => exact rfl); (case kK => assumption); (case k1 => k_asm); (case k2 => k_asm); (case k3 => k_asm); (case k4 => k_asm); (case k5 => k_asm); (case k6 => k_is); (case k7 => k_is); (case k8 => k_room); (case k9 => exact BindsTo.of_eq rfl); (case kB => exact rfl); (case kD => decide +kernel); (case c2 => exact rfl); (case c3 => exact rfl); (case c4 => exact rfl); k_whole; intro g' L' h' tk' cells' FG' F' N' Y' B' X' T' l1; k_cells Y'; (try simp only [List.cons_append, List.nil_append] at N'); (try dsimp only); (try k_lift B'); (try k_fold))
  k_with_none
  k_with "mine bnd" => first | exact (pad_in hg).1 | exact (pad_in hg).2 | exact (pad_in hg2).1 | exact (pad_in hg2).2
  k_with "mine cel" => (rw [pad_get, pad_get])
  k_with "mine CompSrc" => (refine' src_map_range (fun i => (ns.getD i.toNat 0 + ns2.getD i.toNat 0) % n) ?yh ?yF ?yN ?ym ?ya ?yb ?yc ?yd (fun k9 t9 I9 o9 C9 p9 D9 m9 ys9 h9 tk9 E9 lo9 hi9 hC9 hx9 F9 N9 off9 ne9 => ?_) (fun g9 ys9 hI9 hl9 => ?_); (case yh => with_unfolding_all rfl); (case yF => k_asm); (case yN => k_asm); (case ym => assumption); (case ya => omega); (case yb => omega); (case yc => omega); (case yd => omega); (try simp only [LCg.Off3, and_true] at off9); (try k_fold))
  k_with "mine idx" => exact idx_pad (by assumption)
  k_steps
  all_goals (refine' ret _ _ _ (ys9.length) _ _ rfl (sum_in (by omega)) sum_length (sum_ints ?zm hI9) ?zq ?zF ?zN; (case zm => assumption); (case zF => with_reducible assumption); (case zq => k_all); (case zN => (rename News _ _ _ _ => lN'; exact news_keep lN' (by with_unfolding_all exact List.Mem.head _) (by (intro p9 h9; (repeat (first | exact h9 | refine List.mem_cons_of_mem _ ?_)))))))

end
section
local macro_rules | `(tactic| k_mem) => `(tactic| ((repeat (first | with_reducible refine List.mem_append_left _ ?_ | with_reducible refine List.mem_cons_of_mem _ ?_)); with_reducible assumption))
local macro_rules | `(tactic| walk_at "call builtin:len") => `(tactic| (k_here; (with_reducible show wpAny _ _ (call (Value.builtin "len") [Value.ref _]) _ _ _); k_dflt (refine' len_led ?k1 ?k2 ?k3 ?k4 ?_; (case k1 => k_asm); (case k2 => k_mem); (case k3 => assumption); (case k4 => first | omega | (refine' len_le ?h1 ?h2; (case h1 => assumption); (case h2 => omega))); k_whole)))
local macro_rules | `(tactic| walk_at "setItem ref int") => `(tactic| (k_here; (with_reducible show wpAny _ _ (setItem (Value.ref _) (Value.int _ _) (Value.int _ _)) _ _ _); k_dflt (refine' ksa_set ?k1 ?k2 (Upd.head ?k3) ?k4 ?k5 ?k6 ?k7 ?_; (case k1 => k_asm); (case k2 => k_asm); (case k3 => assumption); (case k4 => with_reducible assumption); (case k5 => omega); (case k6 => omega); (case k7 => omega); k_whole); intro h' F' N' hi' hl' hs'))
local macro_rules | `(tactic| walk_at "FLPost") => `(tactic| (dsimp only [FLPost]))
local macro_rules | `(tactic| walk_at "FLEnd") => `(tactic| k_extra "mine FLEnd")
local macro_rules | `(tactic| walk_at "pyIter ref") => `(tactic| (k_here; k_extra "mine pyIter"))
local macro_rules | `(tactic| walk_at "call builtin:list.append cons nil") => `(tactic| (k_here; (with_reducible show wpAny _ _ (call (Value.builtin _) [Value.ref _, _]) _ _ _); k_dflt (refine' append_K ?k1 ?k2 (Upd.head ?k3) ?_ ?z; (case k1 => k_asm); (case k2 => k_asm); (case k3 => assumption); (case z => exact fit_arr (by assumption) (by assumption)); k_whole); intro h' F' N'; (try simp only [List.push_toArray] at N')))
local macro_rules | `(tactic| walk_at "exec For Name Subscript cons nil") => `(tactic| (k_here; (rename Fr _ _ _ _ => lF'); (with_unfolding_all refine' For_invVF lF' ?k1 ?k2 ?_; (case k1 => exact rfl); (case k2 => exact rfl); k_whole)))
local macro_rules | `(tactic| walk_at "subscriptTail Name UnaryOp ref int") => `(tactic| ((with_reducible show wpAny _ _ (subscriptTail _ _ (Value.ref _) (Value.int _ _)) _ _ _); (with_unfolding_all refine' item_list_ints_neg ?k1 ?k2 ?k3 ?k4 ?k5 ?_; (case k1 => is_list); (case k2 => l_ints); (case k3 => decide); (case k4 => exact neg_of_ne (by assumption)); (case k5 => decide); k_whole); intro _))
local macro_rules | `(tactic| walk_at "LRPost") => `(tactic| (dsimp only [LRPost]))
local macro_rules | `(tactic| walk_at "LREnd") => `(tactic| k_extra "mine FLEnd")
local macro_rules | `(tactic| walk_at "FAPost") => `(tactic| (dsimp only [FAPost]))
local macro_rules | `(tactic| walk_at "FAEnd") => `(tactic| k_extra "mine FLEnd")
set_option maxRecDepth 100000 in
set_option maxHeartbeats 8000000 in
theorem cut_of {w : World} {loose : List Str} {mean : ExcName → Option Value} {mg mb : Str → Option Value} {dp un : Nat} {gd : Option (List Code)} {cn : Str} {cs : Scope} {a : Addr} {ccd : Value} {cl : List (Str × Addr)} {outer : List Env} {A₀ : Around} {base h₀ : Heap} {L : Addr} {m : Str → Option Value} {news : List (Addr × Obj)} {s : Shared} {Q E : Value → Shared → Prop}
    (B : Below A₀ base outer h₀) (F : Fr h₀ L s.heap m) (X : (Mine.hd.heap_39 w.params).In h₀) (N : News h₀ L s.heap news) (T : Top Mine.hd.view_39 loose mean mg mb h₀) (hk : cs.kind = .function) (hd : dp + 16 < recursionLimit) (hu : un + 228 < cLine)
    {t dx : Addr} {es : List DictEntry} {k : Nat} {n : Int} {tk1 tk2 : Tok} (hi : (t, instObj 259 dx) ∈ news) (hdt : (dx, dictOf es k) ∈ news) (hkind : getL "kind" es = some (some (.str "mod" tk1))) (hmod : getL "modulus" es = some (some (.int n tk2))) (hn : 2 ≤ n) (hn' : n ≤ 13) {l : Addr} {vs : List Value} {ns : List Int} {c : Nat} (hl : (l, listOf vs.toArray c) ∈ news) (hI : IntsAre vs ns) (hin : InP n ns) (hlen : ns.length ≤ 20)
    (ret : ∀ (l : Addr) (vs : List Value) (c : Nat) (h' : Heap) (tk' : Nat), IntsAre vs (cutP ns) → Fr h₀ L h' m → News h₀ L h' ((l, listOf vs.toArray c) :: news) → Q (.ref l) { s with heap := h', toks := tk' }) :
    wpAny (model PySem.Challenge.rw_sz0004_02.row.toRowW.prog w) (ktrTop dp un gd cn cs L a ccd cl outer) (call (.ref 319) [.ref t, .ref l]) Q E s := by
  w_top off
  revert X; k_fill; intro X
  refine wpAny_call ?_
  k_dflt cell_enter
  k_with_none
  k_with "mine While" => (
    (rename Fr _ _ _ _ => lF'); (rename News _ _ _ _ => lN');
    (with_unfolding_all refine' while_R (Str.ofString "parts") (fun f => cutP f = cutP ns ∧ InP n f ∧ f.length ≤ 20) lF' (news_keep lN' hl (fun p hp => hp)) hI ?z1 ⟨rfl, hin, hlen⟩ ?_);
    (case z1 => with_unfolding_all rfl); clear lF' lN'; intro lA vA nA cA hA tkA hIA hPA FA NA mkA; k_fold; obtain ⟨bA, gA, dA⟩ := hPA)
  k_with "mine FLEnd" => (
    (rename News _ _ _ _ => lN'); (with_unfolding_all refine' lr_end ?kF (news_keep lN' (List.Mem.head _) ?kS) ?kI ?k1 ?kr ?kP ?km); (case kF => assumption); (case kI => assumption); (case kS => (intro p9 h9; (repeat (first | exact h9 | refine List.mem_cons_of_mem _ ?_)))); (case k1 => with_unfolding_all rfl); (case kr => (intro z z1; simp [z1])); (case kP => exact cut_turn bA gA dA (by assumption)); (case km => exact cut_less (by assumption)))
  k_steps
  all_goals (refine' ret _ _ cA _ _ (cut_ints hIA bA ?zc) ?zF ?zN; (case zc => first | exact cut_stop1 (by assumption) | exact cut_stop2 (by assumption)); (case zF => with_reducible assumption); (case zN => (rename News _ _ _ _ => lN'; first | exact lN' | exact news_keep lN' (by (repeat (first | exact List.Mem.head _ | refine List.mem_cons_of_mem _ ?_))) (by (intro p9 h9; (repeat (first | exact h9 | refine List.mem_cons_of_mem _ ?_)))))))

end
section
local macro_rules | `(tactic| k_mem) => `(tactic| ((repeat (first | with_reducible refine List.mem_append_left _ ?_ | with_reducible refine List.mem_cons_of_mem _ ?_)); with_reducible assumption))
local macro_rules | `(tactic| walk_at "call builtin:len") => `(tactic| (k_here; (with_reducible show wpAny _ _ (call (Value.builtin "len") [Value.ref _]) _ _ _); k_dflt (refine' len_led ?k1 ?k2 ?k3 ?k4 ?_; (case k1 => k_asm); (case k2 => k_mem); (case k3 => assumption); (case k4 => first | omega | (refine' len_le ?h1 ?h2; (case h1 => assumption); (case h2 => omega))); k_whole)))
local macro_rules | `(tactic| walk_at "setItem ref int") => `(tactic| (k_here; (with_reducible show wpAny _ _ (setItem (Value.ref _) (Value.int _ _) (Value.int _ _)) _ _ _); k_dflt (refine' ksa_set ?k1 ?k2 (Upd.head ?k3) ?k4 ?k5 ?k6 ?k7 ?_; (case k1 => k_asm); (case k2 => k_asm); (case k3 => assumption); (case k4 => with_reducible assumption); (case k5 => omega); (case k6 => omega); (case k7 => omega); k_whole); intro h' F' N' hi' hl' hs'))
local macro_rules | `(tactic| walk_at "FLPost") => `(tactic| (dsimp only [FLPost]))
local macro_rules | `(tactic| walk_at "FLEnd") => `(tactic| k_extra "mine FLEnd")
local macro_rules | `(tactic| walk_at "pyIter ref") => `(tactic| (k_here; k_extra "mine pyIter"))
local macro_rules | `(tactic| walk_at "call builtin:list.append cons nil") => `(tactic| (k_here; (with_reducible show wpAny _ _ (call (Value.builtin _) [Value.ref _, _]) _ _ _); k_dflt (refine' append_K ?k1 ?k2 (Upd.head ?k3) ?_ ?z; (case k1 => k_asm); (case k2 => k_asm); (case k3 => assumption); (case z => exact fit_arr (by assumption) (by assumption)); k_whole); intro h' F' N'; (try simp only [List.push_toArray] at N')))
local macro_rules | `(tactic| walk_at "exec For Name Subscript cons nil") => `(tactic| (k_here; (rename Fr _ _ _ _ => lF'); (with_unfolding_all refine' For_invVF lF' ?k1 ?k2 ?_; (case k1 => exact rfl); (case k2 => exact rfl); k_whole)))
local macro_rules | `(tactic| walk_at "subscriptTail Name UnaryOp ref int") => `(tactic| ((with_reducible show wpAny _ _ (subscriptTail _ _ (Value.ref _) (Value.int _ _)) _ _ _); (with_unfolding_all refine' item_list_ints_neg ?k1 ?k2 ?k3 ?k4 ?k5 ?_; (case k1 => is_list); (case k2 => l_ints); (case k3 => decide); (case k4 => exact neg_of_ne (by assumption)); (case k5 => decide); k_whole); intro _))
local macro_rules | `(tactic| walk_at "LRPost") => `(tactic| (dsimp only [LRPost]))
local macro_rules | `(tactic| walk_at "LREnd") => `(tactic| k_extra "mine FLEnd")
local macro_rules | `(tactic| walk_at "FAPost") => `(tactic| (dsimp only [FAPost]))
local macro_rules | `(tactic| walk_at "FAEnd") => `(tactic| k_extra "mine FLEnd")
local macro_rules | `(tactic| walk_at "call ref") => `(tactic| (k_here; (with_reducible show wpAny _ _ (call (Value.ref 286) [Value.ref _, Value.str (Str.ofString "*") _, Value.int _ _, Value.int _ _]) _ _ _); k_dflt (refine' by_mul ?k1 ?k2 ?k3 ?k4 ?k5 ?kK ?kd ?ku ?t1 ?t2 ?t3 ?t4 ?n1 ?n2 ?x1 ?x2 ?x3 ?x4 ?_; (case k1 => k_asm); (case k2 => k_asm); (case k3 => k_asm); (case k4 => k_asm); (case k5 => k_asm); (case kK => first | exact rfl | assumption); (case kd => k_room); (case ku => units_room); (case t1 => k_mem); (case t2 => k_mem); (case t3 => first | assumption | k_get); (case t4 => first | assumption | k_get); (case n1 => omega); (case n2 => omega); (case x1 => first | omega | k_extra "mine bnd"); (case x2 => first | omega | k_extra "mine bnd"); (case x3 => first | omega | k_extra "mine bnd"); (case x4 => first | omega | k_extra "mine bnd"); intro t9 h9 tk9 b9 c9 F9 N9; (try dsimp only); (try k_fold))))
local macro_rules | `(tactic| walk_at "call ref") => `(tactic| (k_here; (with_reducible show wpAny _ _ (call (Value.ref 286) [Value.ref _, Value.str (Str.ofString "+") _, Value.int _ _, Value.int _ _]) _ _ _); k_dflt (refine' by_add ?k1 ?k2 ?k3 ?k4 ?k5 ?kK ?kd ?ku ?t1 ?t2 ?t3 ?t4 ?n1 ?n2 ?x1 ?x2 ?x3 ?x4 ?_; (case k1 => k_asm); (case k2 => k_asm); (case k3 => k_asm); (case k4 => k_asm); (case k5 => k_asm); (case kK => first | exact rfl | assumption); (case kd => k_room); (case ku => units_room); (case t1 => k_mem); (case t2 => k_mem); (case t3 => first | assumption | k_get); (case t4 => first | assumption | k_get); (case n1 => omega); (case n2 => omega); (case x1 => first | omega | k_extra "mine bnd"); (case x2 => first | omega | k_extra "mine bnd"); (case x3 => first | omega | k_extra "mine bnd"); (case x4 => first | omega | k_extra "mine bnd"); intro t9 h9 tk9 b9 c9 F9 N9; (try dsimp only); (try k_fold))))
local macro_rules | `(tactic| walk_at "call ref") => `(tactic| (k_here; (with_reducible show wpAny _ _ (call (Value.ref 286) [Value.ref _, Value.str (Str.ofString "-") _, Value.int _ _, Value.int _ _]) _ _ _); k_dflt (refine' by_sub ?k1 ?k2 ?k3 ?k4 ?k5 ?kK ?kd ?ku ?t1 ?t2 ?t3 ?t4 ?n1 ?n2 ?x1 ?x2 ?x3 ?x4 ?_; (case k1 => k_asm); (case k2 => k_asm); (case k3 => k_asm); (case k4 => k_asm); (case k5 => k_asm); (case kK => first | exact rfl | assumption); (case kd => k_room); (case ku => units_room); (case t1 => k_mem); (case t2 => k_mem); (case t3 => first | assumption | k_get); (case t4 => first | assumption | k_get); (case n1 => omega); (case n2 => omega); (case x1 => first | omega | k_extra "mine bnd"); (case x2 => first | omega | k_extra "mine bnd"); (case x3 => first | omega | k_extra "mine bnd"); (case x4 => first | omega | k_extra "mine bnd"); intro t9 h9 tk9 b9 c9 F9 N9; (try dsimp only); (try k_fold))))
local macro_rules | `(tactic| walk_at "call ref") => `(tactic| (k_here; (with_reducible show wpAny _ _ (call (Value.ref 286) [Value.ref _, Value.str (Str.ofString "**") _, Value.int _ _, Value.int _ _]) _ _ _); k_dflt (refine' by_pow ?k1 ?k2 ?k3 ?k4 ?k5 ?kK ?kd ?ku ?t1 ?t2 ?t3 ?t4 ?n1 ?n2 ?x1 ?x2 ?x3 ?x4 ?_; (case k1 => k_asm); (case k2 => k_asm); (case k3 => k_asm); (case k4 => k_asm); (case k5 => k_asm); (case kK => first | exact rfl | assumption); (case kd => k_room); (case ku => units_room); (case t1 => k_mem); (case t2 => k_mem); (case t3 => first | assumption | k_get); (case t4 => first | assumption | k_get); (case n1 => omega); (case n2 => omega); (case x1 => first | omega | k_extra "mine bnd"); (case x2 => first | omega | k_extra "mine bnd"); (case x3 => first | omega | k_extra "mine bnd"); (case x4 => first | omega | k_extra "mine bnd"); intro t9 h9 tk9 b9 c9 F9 N9; (try dsimp only); (try k_fold))))
set_option maxRecDepth 100000 in
set_option maxHeartbeats 8000000 in
theorem parted_of {w : World} {loose : List Str} {mean : ExcName → Option Value} {mg mb : Str → Option Value} {dp un : Nat} {gd : Option (List Code)} {cn : Str} {cs : Scope} {a : Addr} {ccd : Value} {cl : List (Str × Addr)} {outer : List Env} {A₀ : Around} {base h₀ : Heap} {L : Addr} {m : Str → Option Value} {news : List (Addr × Obj)} {s : Shared} {Q E : Value → Shared → Prop}
    (B : Below A₀ base outer h₀) (F : Fr h₀ L s.heap m) (X : (Mine.hd.heap_39 w.params).In h₀) (N : News h₀ L s.heap news) (T : Top Mine.hd.view_39 loose mean mg mb h₀) (hk : cs.kind = .function) (hd : dp + 16 < recursionLimit) (hu : un + 228 < cLine)
    {t dx : Addr} {es : List DictEntry} {k : Nat} {n : Int} {tk1 tk2 : Tok} (hi : (t, instObj 259 dx) ∈ news) (hdt : (dx, dictOf es k) ∈ news) (hkind : getL "kind" es = some (some (.str "mod" tk1))) (hmod : getL "modulus" es = some (some (.int n tk2))) (hn : 2 ≤ n) (hn' : n ≤ 13) {l : Addr} {vs : List Value} {ns : List Int} {c : Nat} (hl : (l, listOf vs.toArray c) ∈ news) (hI : IntsAre vs ns) (hin : InP n ns) (hlen : ns.length ≤ 20) {x : Int} {tx : Tok} (hx : 0 ≤ x) (hx' : x < n)
    (ret : ∀ (tp l : Addr) (vs : List Value) (c : Nat) (t : Tok) (h' : Heap) (tk' : Nat), IntsAre vs (quo n x ns) → (∀ p ∈ news, @Ne Nat p.1 tp) → (∀ p ∈ news, @Ne Nat p.1 l) → @Ne Nat l tp → 0 ≤ hor n x ns → hor n x ns < n → Fr h₀ L h' m → News h₀ L h' ((tp, { cls := .type "tuple", data := .seq #[.ref l, .int (hor n x ns) t] }) :: (l, listOf vs.toArray c) :: news) → Q (.ref tp) { s with heap := h', toks := tk' }) :
    wpAny (model PySem.Challenge.rw_sz0004_02.row.toRowW.prog w) (ktrTop dp un gd cn cs L a ccd cl outer) (call (.ref 326) [.ref t, .ref l, .int x tx]) Q E s := by
  w_top off
  revert X; k_fill; intro X
  refine wpAny_call ?_
  k_dflt cell_enter
  k_with_none
  k_with "mine bnd" => first | exact (hin _ (List.mem_reverse.mp hkA)).1 | exact (hin _ (List.mem_reverse.mp hkA)).2 | exact (part_b (by omega) hPA).1 | exact (part_b (by omega) hPA).2
  k_with "mine pyIter" => focus (
    (rename Fr _ _ _ _ => lF'); (rename News _ _ _ _ => lN'); (with_unfolding_all refine' for_A (x := Str.ofString "part") (vs := []) (ns := []) (Str.ofString "rest") (fun pre f i => (f, i) = pre.foldl (stepQ n x) ([], 0)) ?zh ?zr ?zK ?zF ?zN ?zI ?zn ?z1 ?zP ?_ ?_);
    (case zh => with_unfolding_all rfl); (case zF => exact lF'); (case zN => (refine' two_keep (news := news) lN' ?za ?zb ?zs; (case zb => exact List.Mem.head _); (case za => exact .tail _ (.tail _ (.head _))); (case zs => (intro p9 h9; (repeat (first | exact h9 | refine List.mem_cons_of_mem _ ?_)))))); (case zr => exact List.Mem.head _); (case zI => exact .nil); (case zP => exact rfl); (case zK => assumption); (case z1 => with_unfolding_all rfl); (case zn => k_all); clear lF' lN';
    (all_goals first | (intro vA nA cA iA jA pA kA tA hA tkA oA hkA hkB offA hIA hPA FA NA mkA; (try k_fold); have dA : nA.length ≤ 20 := by (have dB := part_len hPA; rw [List.length_reverse] at hkB; omega)) | (intro vA nA cA iA jA uA hA tkA hIA hPA FA NA mkA; (try k_fold); have dA : nA.length ≤ 20 := by (have dB := part_len hPA; rw [List.length_reverse] at dB; omega))))
  k_with "mine FLEnd" => (
    (rename News _ _ _ _ => lN'); (with_unfolding_all refine' fa_end ?kF lN' ?kI ?k1 ?kr ?kP); (case kF => assumption); (case kI => exact IntsAre.append (by assumption) (.cons _ _ .nil)); (case k1 => with_unfolding_all rfl);
    (case kr => (intro z z1 z2; simp [z1, z2]));
    (case kP => exact part_turn hPA))
  k_steps
  all_goals (obtain ⟨qe, qi⟩ := part_end hPA; subst qi; (rename IntsAre _ (List.reverse nA) => iQ); refine' ret _ _ _ 0 _ _ _ (part_rev iQ qe) ?zt ?zl ?zn (hor_in (by omega) ns).1 (hor_in (by omega) ns).2 ?zF ?zN; (case zF => with_reducible assumption); (case zN => (rename News _ _ _ _ => lN'; refine' two_keep lN' ?za ?zb ?zs; (case za => exact List.Mem.head _); (case zb => exact .tail _ (.head _)); (case zs => (intro p9 h9; (repeat (first | exact h9 | refine List.mem_cons_of_mem _ ?_)))))); (case zt => k_all); (case zl => k_all); (case zn => omega))

end
section
local macro_rules | `(tactic| k_mem) => `(tactic| ((repeat (first | with_reducible refine List.mem_append_left _ ?_ | with_reducible refine List.mem_cons_of_mem _ ?_)); with_reducible assumption))
local macro_rules | `(tactic| walk_at "call builtin:len") => `(tactic| (k_here; (with_reducible show wpAny _ _ (call (Value.builtin "len") [Value.ref _]) _ _ _); k_dflt (refine' len_led ?k1 ?k2 ?k3 ?k4 ?_; (case k1 => k_asm); (case k2 => k_mem); (case k3 => assumption); (case k4 => first | omega | (refine' len_le ?h1 ?h2; (case h1 => assumption); (case h2 => omega))); k_whole)))
local macro_rules | `(tactic| walk_at "eval ListComp") => `(tactic| (k_here; (with_reducible show wpAny _ _ (eval (Expr.ListComp _ [⟨_, _, [], _⟩] _ _) _) _ _ _); k_dflt (refine LCg.ListComp_U (F₀ := by k_asm) (by with_unfolding_all rfl) (by decide) (by rfl) (by decide) (by rfl) ?_); k_dflt lcg_toSrc))
local macro_rules | `(tactic| walk_at "eval ListComp") => `(tactic| (k_here; lct_look; k_dflt (refine LCt.ListComp_T (F₀ := by k_asm) (by with_unfolding_all rfl) (by decide) (by rfl) (by decide) (by rfl) ?_); k_dflt lct_toSrc))
local macro_rules | `(tactic| walk_at "exec Assign cons ListComp") => `(tactic| (k_here; (with_reducible show wpAny _ _ (exec (Stmt.Assign _ (Expr.ListComp _ [⟨_, _, [], _⟩] _ _) _) _) _ _ _); k_dflt (refine LCg.Assign_ListComp_U (F₀ := by k_asm) (by rfl) (by with_unfolding_all rfl) (by with_unfolding_all rfl) (by decide) (by rfl) (by decide) (by rfl) (by rfl) (by rfl) ?_); k_dflt lcg_toSrc))
local macro_rules | `(tactic| walk_at "exec Assign cons ListComp") => `(tactic| (k_here; lct_look; k_dflt (refine LCt.Assign_ListComp_T (F₀ := by k_asm) (by rfl) (by with_unfolding_all rfl) (by with_unfolding_all rfl) (by decide) (by rfl) (by decide) (by rfl) (by rfl) (by rfl) ?_); k_dflt lct_toSrc))
local macro_rules | `(tactic| walk_at "CompSrcT") => `(tactic| (k_here; k_extra "mine CompSrcT"))
local macro_rules | `(tactic| walk_at "CompSrc") => `(tactic| (k_here; k_extra "mine CompSrc"))
local macro_rules | `(tactic| walk_at "CEl") => `(tactic| (k_dflt (refine' cel ?a ?b ?c ?d; (case c => k_asm); (case d => k_asm); (case b => first | rfl | assumption | k_extra "mine cel"); (case a => first | rfl | assumption | ((simp only [bne_iff_ne, ne_eq, beq_iff_eq, decide_eq_true_eq]); first | assumption | omega) | k_extra "mine cel"))))
local macro_rules | `(tactic| walk_at "CNo") => `(tactic| (k_dflt (refine' cno ?a ?c ?d; (case c => k_asm); (case d => k_asm); (case a => first | rfl | assumption | ((simp only [bne_eq_false_iff_eq, beq_eq_false_iff_ne, ne_eq, decide_eq_false_iff_not]); first | assumption | omega) | k_extra "mine cel"))))
local macro_rules | `(tactic| walk_at "call ref cons nil") => `(tactic| (k_here; (with_reducible show wpAny _ _ (call (Value.ref 293) [Value.ref _, Value.ref _, Value.int _ _]) _ _ _); k_dflt (refine' at_of ?k1 ?k2 ?k3 ?k4 ?k5 ?kK ?kd ?ku ?t1 ?t2 ?t3 ?t4 ?n1 ?n2 ?l1 ?l2 ?l3 ?l4 ?x1 ?x2 ?_; (case k1 => k_asm); (case k2 => k_asm); (case k3 => k_asm); (case k4 => k_asm); (case k5 => k_asm); (case kK => first | exact rfl | assumption); (case kd => k_room); (case ku => units_room); (case t1 => k_mem); (case t2 => k_mem); (case t3 => first | assumption | k_get); (case t4 => first | assumption | k_get); (case n1 => first | with_reducible assumption | omega); (case n2 => first | with_reducible assumption | omega); (case l1 => first | k_mem | k_memK); (case l2 => with_reducible assumption); (case l3 => first | assumption | k_extra "mine inp"); (case l4 => first | assumption | k_extra "mine len" | omega); (case x1 => first | with_reducible assumption | k_extra "mine bnd" | omega); (case x2 => first | with_reducible assumption | k_extra "mine bnd" | omega); intro t9 h9 tk9 b9 c9 F9 N9; (try dsimp only); (try k_fold))))
set_option maxRecDepth 100000 in
set_option maxHeartbeats 8000000 in
theorem roots_of {w : World} {loose : List Str} {mean : ExcName → Option Value} {mg mb : Str → Option Value} {dp un : Nat} {gd : Option (List Code)} {cn : Str} {cs : Scope} {a : Addr} {ccd : Value} {cl : List (Str × Addr)} {outer : List Env} {A₀ : Around} {base h₀ : Heap} {L : Addr} {m : Str → Option Value} {news : List (Addr × Obj)} {s : Shared} {Q E : Value → Shared → Prop}
    (B : Below A₀ base outer h₀) (F : Fr h₀ L s.heap m) (X : (Mine.hd.heap_39 w.params).In h₀) (N : News h₀ L s.heap news) (T : Top Mine.hd.view_39 loose mean mg mb h₀) (hk : cs.kind = .function) (hd : dp + 24 < recursionLimit) (hu : un + 292 < cLine)
    {t dx : Addr} {es : List DictEntry} {k : Nat} {n : Int} {tk1 tk2 : Tok} (hi : (t, instObj 259 dx) ∈ news) (hdt : (dx, dictOf es k) ∈ news) (hkind : getL "kind" es = some (some (.str "mod" tk1))) (hmod : getL "modulus" es = some (some (.int n tk2))) (hn : 2 ≤ n) (hn' : n ≤ 13) {l : Addr} {vs : List Value} {ns : List Int} {c : Nat} (hl : (l, listOf vs.toArray c) ∈ news) (hI : IntsAre vs ns) (hin : InP n ns) (hlen : ns.length ≤ 20)
    (ret : ∀ (l : Addr) (vs : List Value) (c : Nat) (h' : Heap) (tk' : Nat), IntsAre vs (rootsP n ns) → (∀ p ∈ news, @Ne Nat p.1 l) → Fr h₀ L h' m → News h₀ L h' ((l, listOf vs.toArray c) :: news) → Q (.ref l) { s with heap := h', toks := tk' }) :
    wpAny (model PySem.Challenge.rw_sz0004_02.row.toRowW.prog w) (ktrTop dp un gd cn cs L a ccd cl outer) (call (.ref 331) [.ref t, .ref l]) Q E s := by
  w_top off
  revert X; k_fill; intro X
  refine wpAny_call ?_
  k_dflt (refine' code_defC ?k1 ?k2 ?k3 ?k4 ?k5 ?kA ?kF ?kK ?k6 ?k7 ?k8 ?k9 ?kB ?kD ?_ ?c2 ?c3 ?c4; (case kA => exact rfl); (case kF => exact rfl); (case kK => assumption); (case k1 => k_asm); (case k2 => k_asm); (case k3 => k_asm); (case k4 => k_asm); (case k5 => k_asm); (case k6 => k_is); (case k7 => k_is); (case k8 => k_room); (case k9 => exact BindsTo.of_eq rfl); (case kB => exact rfl); (case kD => decide +kernel); (case c2 => exact rfl); (case c3 => exact rfl); (case c4 => exact rfl); k_whole; intro g' L' h' tk' cells' FG' F' N' Y' B' X' T' l1; k_cells Y'; (try simp only [List.cons_append, List.nil_append] at N'); (try dsimp only); (try k_lift B'); (try k_fold))
  k_with_none
  k_with "mine CompSrcT" => (refine' src_filter_range (fun x => hor n x ns == 0) (fun x => x) ?yh ?yF ?yN ?ym ?ya ?yb ?yc ?yd (fun k9 t9 I9 o9 C9 p9 D9 m9 ys9 h9 tk9 E9 lo9 hi9 hC9 hx9 F9 N9 off9 ne9 => ?_) (fun g9 ys9 hI9 hl9 => ?_); (case yh => with_unfolding_all rfl); (case yF => k_asm); (case yN => k_asm); (case ym => assumption); (case ya => omega); (case yb => omega); (case yc => omega); (case yd => omega); (try simp only [LCg.Off3, and_true] at off9); (try k_fold))
  k_steps
  all_goals (refine' ret _ _ (ys9.length) _ _ (roots_ints hI9) ?zq ?zF ?zN; (case zF => with_reducible assumption); (case zq => k_all); (case zN => (rename News _ _ _ _ => lN'; exact news_keep lN' (by with_unfolding_all exact List.Mem.head _) (by (intro p9 h9; (repeat (first | exact h9 | refine List.mem_cons_of_mem _ ?_)))))))

end
section
local macro_rules | `(tactic| k_mem) => `(tactic| ((repeat (first | with_reducible refine List.mem_append_left _ ?_ | with_reducible refine List.mem_cons_of_mem _ ?_)); with_reducible assumption))
local macro_rules | `(tactic| walk_at "call builtin:len") => `(tactic| (k_here; (with_reducible show wpAny _ _ (call (Value.builtin "len") [Value.ref _]) _ _ _); k_dflt (refine' len_led ?k1 ?k2 ?k3 ?k4 ?_; (case k1 => k_asm); (case k2 => k_mem); (case k3 => assumption); (case k4 => first | omega | (refine' len_le ?h1 ?h2; (case h1 => assumption); (case h2 => omega))); k_whole)))
local macro_rules | `(tactic| walk_at "eval ListComp") => `(tactic| (k_here; (with_reducible show wpAny _ _ (eval (Expr.ListComp _ [⟨_, _, [], _⟩] _ _) _) _ _ _); k_dflt (refine LCg.ListComp_U (F₀ := by k_asm) (by with_unfolding_all rfl) (by decide) (by rfl) (by decide) (by rfl) ?_); k_dflt lcg_toSrc))
local macro_rules | `(tactic| walk_at "eval ListComp") => `(tactic| (k_here; lct_look; k_dflt (refine LCt.ListComp_T (F₀ := by k_asm) (by with_unfolding_all rfl) (by decide) (by rfl) (by decide) (by rfl) ?_); k_dflt lct_toSrc))
local macro_rules | `(tactic| walk_at "exec Assign cons ListComp") => `(tactic| (k_here; (with_reducible show wpAny _ _ (exec (Stmt.Assign _ (Expr.ListComp _ [⟨_, _, [], _⟩] _ _) _) _) _ _ _); k_dflt (refine LCg.Assign_ListComp_U (F₀ := by k_asm) (by rfl) (by with_unfolding_all rfl) (by with_unfolding_all rfl) (by decide) (by rfl) (by decide) (by rfl) (by rfl) (by rfl) ?_); k_dflt lcg_toSrc))
local macro_rules | `(tactic| walk_at "exec Assign cons ListComp") => `(tactic| (k_here; lct_look; k_dflt (refine LCt.Assign_ListComp_T (F₀ := by k_asm) (by rfl) (by with_unfolding_all rfl) (by with_unfolding_all rfl) (by decide) (by rfl) (by decide) (by rfl) (by rfl) (by rfl) ?_); k_dflt lct_toSrc))
local macro_rules | `(tactic| walk_at "CompSrcT") => `(tactic| (k_here; k_extra "mine CompSrcT"))
local macro_rules | `(tactic| walk_at "CompSrc") => `(tactic| (k_here; k_extra "mine CompSrc"))
local macro_rules | `(tactic| walk_at "CEl") => `(tactic| (k_dflt (refine' cel ?a ?b ?c ?d; (case c => k_asm); (case d => k_asm); (case b => first | rfl | assumption | k_extra "mine cel"); (case a => first | rfl | assumption | ((simp only [bne_iff_ne, ne_eq, beq_iff_eq, decide_eq_true_eq]); first | assumption | omega) | k_extra "mine cel"))))
local macro_rules | `(tactic| walk_at "CNo") => `(tactic| (k_dflt (refine' cno ?a ?c ?d; (case c => k_asm); (case d => k_asm); (case a => first | rfl | assumption | ((simp only [bne_eq_false_iff_eq, beq_eq_false_iff_ne, ne_eq, decide_eq_false_iff_not]); first | assumption | omega) | k_extra "mine cel"))))
local macro_rules | `(tactic| walk_at "exec For Name Subscript cons nil") => `(tactic| (k_here; (rename Fr _ _ _ _ => lF'); (with_unfolding_all refine' For_unrF lF' ?_ ?ks); (case ks => (intro _; with_unfolding_all rfl))))
local macro_rules | `(tactic| walk_at "pyIter ref") => `(tactic| (k_here; k_extra "mine pyIter"))
local macro_rules | `(tactic| walk_at "FCPost") => `(tactic| (dsimp only [FCPost]))
local macro_rules | `(tactic| walk_at "FCEnd") => `(tactic| k_extra "mine FLEnd")
local macro_rules | `(tactic| walk_at "call ref cons nil") => `(tactic| (k_here; (with_reducible show wpAny _ _ (call (Value.ref 293) [Value.ref _, Value.ref _, Value.int _ _]) _ _ _); k_dflt (refine' at_of ?k1 ?k2 ?k3 ?k4 ?k5 ?kK ?kd ?ku ?t1 ?t2 ?t3 ?t4 ?n1 ?n2 ?l1 ?l2 ?l3 ?l4 ?x1 ?x2 ?_; (case k1 => k_asm); (case k2 => k_asm); (case k3 => k_asm); (case k4 => k_asm); (case k5 => k_asm); (case kK => first | exact rfl | assumption); (case kd => k_room); (case ku => units_room); (case t1 => k_mem); (case t2 => k_mem); (case t3 => first | assumption | k_get); (case t4 => first | assumption | k_get); (case n1 => first | with_reducible assumption | omega); (case n2 => first | with_reducible assumption | omega); (case l1 => first | k_mem | k_memK); (case l2 => with_reducible assumption); (case l3 => first | assumption | k_extra "mine inp"); (case l4 => first | assumption | k_extra "mine len" | omega); (case x1 => first | with_reducible assumption | k_extra "mine bnd" | omega); (case x2 => first | with_reducible assumption | k_extra "mine bnd" | omega); intro t9 h9 tk9 b9 c9 F9 N9; (try dsimp only); (try k_fold))))
local macro_rules | `(tactic| walk_at "call ref cons nil") => `(tactic| (k_here; (with_reducible show wpAny _ _ (call (Value.ref 331) [Value.ref _, Value.ref _]) _ _ _); k_dflt (refine' roots_of ?k1 ?k2 ?k3 ?k4 ?k5 ?kK ?kd ?ku ?t1 ?t2 ?t3 ?t4 ?n1 ?n2 ?l1 ?l2 ?l3 ?l4 ?_; (case k1 => k_asm); (case k2 => k_asm); (case k3 => k_asm); (case k4 => k_asm); (case k5 => k_asm); (case kK => first | exact rfl | assumption); (case kd => k_room); (case ku => units_room); (case t1 => k_mem); (case t2 => k_mem); (case t3 => first | assumption | k_get); (case t4 => first | assumption | k_get); (case n1 => first | with_reducible assumption | omega); (case n2 => first | with_reducible assumption | omega); (case l1 => first | k_mem | k_memK); (case l2 => with_reducible assumption); (case l3 => first | assumption | k_extra "mine inp"); (case l4 => first | assumption | k_extra "mine len" | omega); intro l9 vs9 c9 h9 tk9 i9 e9 F9 N9; (try simp only [List.forall_mem_cons] at e9); (try dsimp only); (try k_fold))))
local macro_rules | `(tactic| walk_at "call ref cons nil") => `(tactic| (k_here; (with_reducible show wpAny _ _ (call (Value.ref 319) [Value.ref _, Value.ref _]) _ _ _); k_dflt (refine' cut_of ?k1 ?k2 ?k3 ?k4 ?k5 ?kK ?kd ?ku ?t1 ?t2 ?t3 ?t4 ?n1 ?n2 ?l1 ?l2 ?l3 ?l4 ?_; (case k1 => k_asm); (case k2 => k_asm); (case k3 => k_asm); (case k4 => k_asm); (case k5 => k_asm); (case kK => first | exact rfl | assumption); (case kd => k_room); (case ku => units_room); (case t1 => k_mem); (case t2 => k_mem); (case t3 => first | assumption | k_get); (case t4 => first | assumption | k_get); (case n1 => first | with_reducible assumption | omega); (case n2 => first | with_reducible assumption | omega); (case l1 => first | k_mem | k_memK); (case l2 => with_reducible assumption); (case l3 => first | assumption | k_extra "mine inp"); (case l4 => first | assumption | k_extra "mine len" | omega); intro l9 vs9 c9 h9 tk9 i9 F9 N9; (try k_extra "mine cutted"); (try dsimp only); (try k_fold))))
local macro_rules | `(tactic| walk_at "call ref cons nil") => `(tactic| (k_here; (with_reducible show wpAny _ _ (call (Value.ref 326) [Value.ref _, Value.ref _, Value.int _ _]) _ _ _); k_dflt (refine' parted_of ?k1 ?k2 ?k3 ?k4 ?k5 ?kK ?kd ?ku ?t1 ?t2 ?t3 ?t4 ?n1 ?n2 ?l1 ?l2 ?l3 ?l4 ?x1 ?x2 ?_; (case k1 => k_asm); (case k2 => k_asm); (case k3 => k_asm); (case k4 => k_asm); (case k5 => k_asm); (case kK => first | exact rfl | assumption); (case kd => k_room); (case ku => units_room); (case t1 => k_mem); (case t2 => k_mem); (case t3 => first | assumption | k_get); (case t4 => first | assumption | k_get); (case n1 => first | with_reducible assumption | omega); (case n2 => first | with_reducible assumption | omega); (case l1 => first | k_mem | k_memK); (case l2 => with_reducible assumption); (case l3 => first | assumption | k_extra "mine inp"); (case l4 => first | assumption | k_extra "mine len" | omega); (case x1 => first | with_reducible assumption | k_extra "mine bnd" | omega); (case x2 => first | with_reducible assumption | k_extra "mine bnd" | omega); intro p9 l9 vs9 c9 t9 h9 tk9 i9 e9 f9 g9 b9 d9 F9 N9; (try simp only [List.forall_mem_cons] at e9 f9); (try dsimp only); (try k_fold))))
set_option maxRecDepth 100000 in
set_option maxHeartbeats 8000000 in
theorem right_of {w : World} {loose : List Str} {mean : ExcName → Option Value} {mg mb : Str → Option Value} {dp un : Nat} {gd : Option (List Code)} {cn : Str} {cs : Scope} {a : Addr} {ccd : Value} {cl : List (Str × Addr)} {outer : List Env} {A₀ : Around} {base h₀ : Heap} {L : Addr} {m : Str → Option Value} {news : List (Addr × Obj)} {s : Shared} {Q E : Value → Shared → Prop}
    (B : Below A₀ base outer h₀) (F : Fr h₀ L s.heap m) (X : (Mine.hd.heap_39 w.params).In h₀) (N : News h₀ L s.heap news) (T : Top Mine.hd.view_39 loose mean mg mb h₀) (hk : cs.kind = .function) (hd : dp + 32 < recursionLimit) (hu : un + 356 < cLine)
    {t dx : Addr} {es : List DictEntry} {k : Nat} {n : Int} {tk1 tk2 : Tok} (hi : (t, instObj 259 dx) ∈ news) (hdt : (dx, dictOf es k) ∈ news) (hkind : getL "kind" es = some (some (.str "mod" tk1))) (hmod : getL "modulus" es = some (some (.int n tk2))) (hn : 2 ≤ n) (hn' : n ≤ 13) {l : Addr} {vs : List Value} {ns : List Int} {c : Nat} (hl : (l, listOf vs.toArray c) ∈ news) (hI : IntsAre vs ns) (hin : InP n ns) (hlen : ns.length ≤ 20) (hp : n ∈ primes2)
    (ret : CbRet h₀ L m news s Q (fun t => .bool true)) :
    wpAny (model PySem.Challenge.rw_sz0004_02.row.toRowW.prog w) (ktrTop dp un gd cn cs L a ccd cl outer) (call (.ref 336) [.ref t, .ref l]) Q E s := by
  w_top off
  revert X; k_fill; intro X
  dsimp only [CbRet] at ret
  refine wpAny_call ?_
  k_dflt (refine' code_defC ?k1 ?k2 ?k3 ?k4 ?k5 ?kA ?kF ?kK ?k6 ?k7 ?k8 ?k9 ?kB ?kD ?_ ?c2 ?c3 ?c4; (case kA => exact rfl); (case kF => exact rfl); (case kK => assumption); (case k1 => k_asm); (case k2 => k_asm); (case k3 => k_asm); (case k4 => k_asm); (case k5 => k_asm); (case k6 => k_is); (case k7 => k_is); (case k8 => k_room); (case k9 => exact BindsTo.of_eq rfl); (case kB => exact rfl); (case kD => decide +kernel); (case c2 => exact rfl); (case c3 => exact rfl); (case c4 => exact rfl); k_whole; intro g' L' h' tk' cells' FG' F' N' Y' B' X' T' l1; k_cells Y'; (try simp only [List.cons_append, List.nil_append] at N'); (try dsimp only); (try k_lift B'); (try k_fold))
  k_with_none
  have hin2 := cut_in ns hin
  have hlen2 : (cutP ns).length ≤ 20 := Nat.le_trans (cut_length ns) hlen
  have hR := roots_len (l := cutP ns) hn'
  have hRf := fun h => roots_fewI hp hin h
  k_with "mine inp" => exact quo_in (by omega) _
  k_with "mine pyIter" => focus (
    (rename Fr _ _ _ _ => lF'); (rename News _ _ _ _ => lN'); (rename IntsAre _ (List.take 2 _) => iT);
    (with_unfolding_all refine' for_C4 [Str.ofString "quotient", Str.ofString "rest"] ?zh iT lF' lN' ?d1 ?d2 ?zc1 ?zc2 ?_ ?_); (case zh => with_unfolding_all rfl); (case d1 => k_asm); (case d2 => k_asm); (case zc1 => k_all); (case zc2 => k_all); clear lF' lN' iT;
    (all_goals first | (intro rA tA oA o2A vA v2A uA hA tkA ownA mA dA d2A offA off2A FA NA mkA; have mA := List.mem_of_mem_take mA; have gA := ((mem_roots (by omega)).mp mA).1; obtain ⟨gA1, gA2⟩ := gA; have hA := root_rest mA; have oA := roots_others hp mA; simp only [List.forall_mem_cons] at offA off2A; obtain ⟨_, _, _, _, offA⟩ := offA; obtain ⟨_, _, _, _, off2A⟩ := off2A; (try k_fold)) | (intro oA o2A vA v2A uA hA tkA dA d2A FA NA mkA; (try k_fold))))
  k_with "mine FLEnd" => (
    (rename News _ _ _ _ => lN'); (with_unfolding_all refine' fc_end ?kF (two_keep lN' ?za ?zb ?zs) ?d1 ?d2 ?kr); (case kF => k_asm); (case za => k_memK); (case zb => k_memK); (case zs => (intro p9 h9; (repeat (first | exact h9 | refine List.mem_cons_of_mem _ ?_)))); (case d1 => k_asm); (case d2 => k_asm);
    (case kr => (intro z z2; have z3 : z ≠ Str.ofString "quotient" := (fun e => by rw [e] at z2; exact absurd z2 (by decide)); have z4 : z ≠ Str.ofString "rest" := (fun e => by rw [e] at z2; exact absurd z2 (by decide)); simp [z3, z4])))
  k_with "mine ite" => (k_dflt first
    | (refine ite_neg (by (have hq := hRf (by assumption)); (try simp only [decide_eq_true_eq]); omega) ?_)
    | (refine ite_neg (neg_of (bne_zero (by assumption))) ?_)
    | (refine ite_neg (neg_of (not_nil (by assumption))) ?_))
  k_with "mine CompSrcT" => ((rename IntsAre _ (rootsP n (quo n _ _)) => iO); refine' src_others iO ?yh ?yF ?yN ?ym ?yi ?yz (fun k9 t9 I9 o9 C9 p9 D9 m9 ys9 h9 tk9 E9 hk9 hC9 hx9 F9 N9 off9 ne9 => ?_) (fun g9 ys9 hI9 hl9 => ?_); (case yh => with_unfolding_all rfl); (case yF => k_asm); (case yN => k_asm); (case ym => k_dflt k_memK); (case yi => assumption); (case yz => omega); (try simp only [LCg.Off3, and_true] at off9); (try k_fold))
  k_with "mine len" => (rw [quo_length]; assumption)
  k_with "mine cel" => first | exact others_in (by assumption) | exact others_eq (by assumption) | exact others_el (by assumption) (by assumption)
  k_steps
  all_goals (refine' cb_retB (Q := Q) ret rfl ?e2 ?e3; (case e2 => with_reducible assumption); (case e3 => first | with_reducible assumption | (rename News _ _ _ _ => lN'; refine' cb_drop lN' ?cbS; (case cbS => (intro p9 h9; (repeat (first | exact h9 | refine List.mem_cons_of_mem _ ?_)))))))

end
section
local macro_rules | `(tactic| k_mem) => `(tactic| ((repeat (first | with_reducible refine List.mem_append_left _ ?_ | with_reducible refine List.mem_cons_of_mem _ ?_)); with_reducible assumption))
local macro_rules | `(tactic| walk_at "call builtin:len") => `(tactic| (k_here; (with_reducible show wpAny _ _ (call (Value.builtin "len") [Value.ref _]) _ _ _); k_dflt (refine' len_led ?k1 ?k2 ?k3 ?k4 ?_; (case k1 => k_asm); (case k2 => k_mem); (case k3 => assumption); (case k4 => first | omega | (refine' len_le ?h1 ?h2; (case h1 => assumption); (case h2 => omega))); k_whole)))
local macro_rules | `(tactic| walk_at "eval ListComp") => `(tactic| (k_here; (with_reducible show wpAny _ _ (eval (Expr.ListComp _ [⟨_, _, [], _⟩] _ _) _) _ _ _); k_dflt (refine LCg.ListComp_U (F₀ := by k_asm) (by with_unfolding_all rfl) (by decide) (by rfl) (by decide) (by rfl) ?_); k_dflt lcg_toSrc))
local macro_rules | `(tactic| walk_at "eval ListComp") => `(tactic| (k_here; lct_look; k_dflt (refine LCt.ListComp_T (F₀ := by k_asm) (by with_unfolding_all rfl) (by decide) (by rfl) (by decide) (by rfl) ?_); k_dflt lct_toSrc))
local macro_rules | `(tactic| walk_at "exec Assign cons ListComp") => `(tactic| (k_here; (with_reducible show wpAny _ _ (exec (Stmt.Assign _ (Expr.ListComp _ [⟨_, _, [], _⟩] _ _) _) _) _ _ _); k_dflt (refine LCg.Assign_ListComp_U (F₀ := by k_asm) (by rfl) (by with_unfolding_all rfl) (by with_unfolding_all rfl) (by decide) (by rfl) (by decide) (by rfl) (by rfl) (by rfl) ?_); k_dflt lcg_toSrc))
local macro_rules | `(tactic| walk_at "exec Assign cons ListComp") => `(tactic| (k_here; lct_look; k_dflt (refine LCt.Assign_ListComp_T (F₀ := by k_asm) (by rfl) (by with_unfolding_all rfl) (by with_unfolding_all rfl) (by decide) (by rfl) (by decide) (by rfl) (by rfl) (by rfl) ?_); k_dflt lct_toSrc))
local macro_rules | `(tactic| walk_at "CompSrcT") => `(tactic| (k_here; k_extra "mine CompSrcT"))
local macro_rules | `(tactic| walk_at "CompSrc") => `(tactic| (k_here; k_extra "mine CompSrc"))
local macro_rules | `(tactic| walk_at "CEl") => `(tactic| (k_dflt (refine' cel ?a ?b ?c ?d; (case c => k_asm); (case d => k_asm); (case b => first | rfl | assumption | k_extra "mine cel"); (case a => first | rfl | assumption | ((simp only [bne_iff_ne, ne_eq, beq_iff_eq, decide_eq_true_eq]); first | assumption | omega) | k_extra "mine cel"))))
local macro_rules | `(tactic| walk_at "CNo") => `(tactic| (k_dflt (refine' cno ?a ?c ?d; (case c => k_asm); (case d => k_asm); (case a => first | rfl | assumption | ((simp only [bne_eq_false_iff_eq, beq_eq_false_iff_ne, ne_eq, decide_eq_false_iff_not]); first | assumption | omega) | k_extra "mine cel"))))
local macro_rules | `(tactic| walk_at "call builtin:max") => `(tactic| (k_here; (with_reducible show wpAny _ _ (call (Value.builtin _) [Value.int _ _, Value.int _ _]) _ _ _); k_dflt (refine' max_nice ?k0 ?k1 ?k2 ?_; (case k0 => with_unfolding_all rfl); (case k1 => k_asm); (case k2 => k_asm); k_whole); intro W9 t9 h9 tk9 m9 d9 e9 F9 N9; (have f9 := m9.le (N := 20) (by omega) (by omega))))
local macro_rules | `(tactic| walk_at "subscriptTail Name Name ref int") => `(tactic| (k_here; (with_reducible show wpAny _ _ (subscriptTail _ _ (Value.ref _) (Value.int _ _)) _ _ _); k_dflt (refine' ksa_sub ?k1 ?k2 ?k3 ?k4 ?k5 ?k6 ?_ ?k7; (case k1 => k_asm); (case k2 => k_memK); (case k3 => with_reducible assumption); (case k4 => first | assumption | omega); (case k5 => k_extra "mine idx"); (case k6 => first | exact idx_fit (by assumption) (by assumption) | k_extra "mine fit" | omega); (case k7 => with_unfolding_all rfl); k_whole); intro _))
local macro_rules | `(tactic| walk_at "exec For Name Name cons nil") => `(tactic| (k_here; (rename Fr _ _ _ _ => lF'); (with_unfolding_all refine' For_invVF lF' ?k1 ?k2 ?_; (case k1 => exact rfl); (case k2 => exact rfl); k_whole)))
local macro_rules | `(tactic| walk_at "pyIter ref") => `(tactic| (k_here; k_extra "mine pyIter"))
local macro_rules | `(tactic| walk_at "FRPost") => `(tactic| (dsimp only [FRPost]))
local macro_rules | `(tactic| walk_at "FREnd") => `(tactic| k_extra "mine FREnd")
local macro_rules | `(tactic| walk_at "FSPost") => `(tactic| (dsimp only [FSPost]))
local macro_rules | `(tactic| walk_at "FSEnd") => `(tactic| k_extra "mine FSEnd")
local macro_rules | `(tactic| walk_at "call ref cons nil") => `(tactic| (k_here; (with_reducible show wpAny _ _ (call (Value.ref 286) [Value.ref _, Value.str (Str.ofString "*") _, Value.int _ _, Value.int _ _]) _ _ _); k_dflt (refine' by_mul ?k1 ?k2 ?k3 ?k4 ?k5 ?kK ?kd ?ku ?t1 ?t2 ?t3 ?t4 ?n1 ?n2 ?x1 ?x2 ?x3 ?x4 ?_; (case k1 => k_asm); (case k2 => k_asm); (case k3 => k_asm); (case k4 => k_asm); (case k5 => k_asm); (case kK => first | exact rfl | assumption); (case kd => k_room); (case ku => units_room); (case t1 => k_mem); (case t2 => k_mem); (case t3 => first | assumption | k_get); (case t4 => first | assumption | k_get); (case n1 => first | with_reducible assumption | omega); (case n2 => first | with_reducible assumption | omega); (case x1 => first | with_reducible assumption | k_extra "mine bnd" | omega); (case x2 => first | with_reducible assumption | k_extra "mine bnd" | omega); (case x3 => first | with_reducible assumption | k_extra "mine bnd" | omega); (case x4 => first | with_reducible assumption | k_extra "mine bnd" | omega); intro t9 h9 tk9 b9 c9 F9 N9; (try dsimp only); (try k_fold))))
local macro_rules | `(tactic| walk_at "call ref cons nil") => `(tactic| (k_here; (with_reducible show wpAny _ _ (call (Value.ref 286) [Value.ref _, Value.str (Str.ofString "-") _, Value.int _ _, Value.int _ _]) _ _ _); k_dflt (refine' by_sub ?k1 ?k2 ?k3 ?k4 ?k5 ?kK ?kd ?ku ?t1 ?t2 ?t3 ?t4 ?n1 ?n2 ?x1 ?x2 ?x3 ?x4 ?_; (case k1 => k_asm); (case k2 => k_asm); (case k3 => k_asm); (case k4 => k_asm); (case k5 => k_asm); (case kK => first | exact rfl | assumption); (case kd => k_room); (case ku => units_room); (case t1 => k_mem); (case t2 => k_mem); (case t3 => first | assumption | k_get); (case t4 => first | assumption | k_get); (case n1 => first | with_reducible assumption | omega); (case n2 => first | with_reducible assumption | omega); (case x1 => first | with_reducible assumption | k_extra "mine bnd" | omega); (case x2 => first | with_reducible assumption | k_extra "mine bnd" | omega); (case x3 => first | with_reducible assumption | k_extra "mine bnd" | omega); (case x4 => first | with_reducible assumption | k_extra "mine bnd" | omega); intro t9 h9 tk9 b9 c9 F9 N9; (try dsimp only); (try k_fold))))
local macro_rules | `(tactic| walk_at "call ref cons nil") => `(tactic| (k_here; (with_reducible show wpAny _ _ (call (Value.ref 286) [Value.ref _, Value.str (Str.ofString "**") _, Value.int _ _, Value.int _ _]) _ _ _); k_dflt (refine' by_pow ?k1 ?k2 ?k3 ?k4 ?k5 ?kK ?kd ?ku ?t1 ?t2 ?t3 ?t4 ?n1 ?n2 ?x1 ?x2 ?x3 ?x4 ?_; (case k1 => k_asm); (case k2 => k_asm); (case k3 => k_asm); (case k4 => k_asm); (case k5 => k_asm); (case kK => first | exact rfl | assumption); (case kd => k_room); (case ku => units_room); (case t1 => k_mem); (case t2 => k_mem); (case t3 => first | assumption | k_get); (case t4 => first | assumption | k_get); (case n1 => first | with_reducible assumption | omega); (case n2 => first | with_reducible assumption | omega); (case x1 => first | with_reducible assumption | k_extra "mine bnd" | omega); (case x2 => first | with_reducible assumption | k_extra "mine bnd" | omega); (case x3 => first | with_reducible assumption | k_extra "mine bnd" | omega); (case x4 => first | with_reducible assumption | k_extra "mine bnd" | omega); intro t9 h9 tk9 b9 c9 F9 N9; (try dsimp only); (try k_fold))))
local macro_rules | `(tactic| walk_at "call ref cons nil") => `(tactic| (k_here; (with_reducible show wpAny _ _ (call (Value.ref 307) [Value.ref _, Value.ref _, Value.ref _]) _ _ _); k_dflt (refine' prod_of ?k1 ?k2 ?k3 ?k4 ?k5 ?kK ?kd ?ku ?t1 ?t2 ?t3 ?t4 ?n1 ?n2 ?l1 ?l2 ?l3 ?l4 ?m1 ?m2 ?m3 ?m4 ?_; (case k1 => k_asm); (case k2 => k_asm); (case k3 => k_asm); (case k4 => k_asm); (case k5 => k_asm); (case kK => first | exact rfl | assumption); (case kd => k_room); (case ku => units_room); (case t1 => k_mem); (case t2 => k_mem); (case t3 => first | assumption | k_get); (case t4 => first | assumption | k_get); (case n1 => first | with_reducible assumption | omega); (case n2 => first | with_reducible assumption | omega); (case l1 => first | k_mem | k_memK); (case l2 => with_reducible assumption); (case l3 => first | assumption | k_extra "mine inp"); (case l4 => first | assumption | k_extra "mine len" | omega); (case m1 => first | k_mem | k_memK); (case m2 => first | with_reducible assumption | exact .cons _ _ (.cons _ _ .nil) | exact .cons _ _ .nil); (case m3 => first | with_reducible assumption | k_extra "mine inp"); (case m4 => first | with_reducible assumption | exact Nat.le_of_ble_eq_true rfl | k_extra "mine len" | omega); intro ms9 l9 vs9 c9 h9 tk9 q9 j9 d9 i9 e9 F9 N9; subst q9; (try simp only [List.forall_mem_cons] at e9); (try dsimp only); (try k_fold))))
local macro_rules | `(tactic| walk_at "call ref cons nil") => `(tactic| (k_here; (with_reducible show wpAny _ _ (call (Value.ref 312) [Value.ref _, Value.ref _, Value.ref _]) _ _ _); k_dflt (refine' sum_of ?k1 ?k2 ?k3 ?k4 ?k5 ?kK ?kd ?ku ?t1 ?t2 ?t3 ?t4 ?n1 ?n2 ?l1 ?l2 ?l3 ?l4 ?m1 ?m2 ?m3 ?m4 ?_; (case k1 => k_asm); (case k2 => k_asm); (case k3 => k_asm); (case k4 => k_asm); (case k5 => k_asm); (case kK => first | exact rfl | assumption); (case kd => k_room); (case ku => units_room); (case t1 => k_mem); (case t2 => k_mem); (case t3 => first | assumption | k_get); (case t4 => first | assumption | k_get); (case n1 => first | with_reducible assumption | omega); (case n2 => first | with_reducible assumption | omega); (case l1 => first | k_mem | k_memK); (case l2 => with_reducible assumption); (case l3 => first | assumption | k_extra "mine inp"); (case l4 => first | assumption | k_extra "mine len" | omega); (case m1 => first | k_mem | k_memK); (case m2 => first | with_reducible assumption | exact .cons _ _ (.cons _ _ .nil) | exact .cons _ _ .nil); (case m3 => first | with_reducible assumption | k_extra "mine inp"); (case m4 => first | with_reducible assumption | exact Nat.le_of_ble_eq_true rfl | k_extra "mine len" | omega); intro ms9 l9 vs9 c9 h9 tk9 q9 j9 d9 i9 e9 F9 N9; subst q9; (try simp only [List.forall_mem_cons] at e9); (try dsimp only); (try k_fold))))
set_option maxRecDepth 100000 in
set_option maxHeartbeats 8000000 in
theorem through_of {w : World} {loose : List Str} {mean : ExcName → Option Value} {mg mb : Str → Option Value} {dp un : Nat} {gd : Option (List Code)} {cn : Str} {cs : Scope} {a : Addr} {ccd : Value} {cl : List (Str × Addr)} {outer : List Env} {A₀ : Around} {base h₀ : Heap} {L : Addr} {m : Str → Option Value} {news : List (Addr × Obj)} {s : Shared} {Q E : Value → Shared → Prop}
    (B : Below A₀ base outer h₀) (F : Fr h₀ L s.heap m) (X : (Mine.hd.heap_39 w.params).In h₀) (N : News h₀ L s.heap news) (T : Top Mine.hd.view_39 loose mean mg mb h₀) (hk : cs.kind = .function) (hd : dp + 32 < recursionLimit) (hu : un + 356 < cLine)
    {t dx : Addr} {es : List DictEntry} {k : Nat} {n : Int} {tk1 tk2 : Tok} (hi : (t, instObj 259 dx) ∈ news) (hdt : (dx, dictOf es k) ∈ news) (hkind : getL "kind" es = some (some (.str "mod" tk1))) (hmod : getL "modulus" es = some (some (.int n tk2))) (hn : 2 ≤ n) (hn' : n ≤ 13) {l : Addr} {vs : List Value} {ns : List Int} {c : Nat} (hl : (l, listOf vs.toArray c) ∈ news) (hI : IntsAre vs ns) (hin : InP n ns) (hlen : ns.length ≤ 20) {l2 : Addr} {vs2 : List Value} {ns2 : List Int} {c2 : Nat} (hl2 : (l2, listOf vs2.toArray c2) ∈ news) (hI2 : IntsAre vs2 ns2) (hin2 : InP n ns2) (hlen2 : ns2.length ≤ 20) (h3 : ns.length ≤ 3) (h2 : ns2.length = ns.length)
    (ret : ∀ (ms : List Int) (l : Addr) (vs : List Value) (c : Nat) (h' : Heap) (tk' : Nat), ms = throughP n ns ns2 → InP n ms → ms.length ≤ 20 → IntsAre vs ms → (∀ p ∈ news, @Ne Nat p.1 l) → Fr h₀ L h' m → News h₀ L h' ((l, listOf vs.toArray c) :: news) → Q (.ref l) { s with heap := h', toks := tk' }) :
    wpAny (model PySem.Challenge.rw_sz0004_02.row.toRowW.prog w) (ktrTop dp un gd cn cs L a ccd cl outer) (call (.ref 341) [.ref t, .ref l, .ref l2]) Q E s := by
  w_top off
  revert X; k_fill; intro X
  have hg := hin.getD (by omega)
  have hg2 := hin2.getD (by omega)
  refine wpAny_call ?_
  k_dflt (refine' code_defC ?k1 ?k2 ?k3 ?k4 ?k5 ?kA ?kF ?kK ?k6 ?k7 ?k8 ?k9 ?kB ?kD ?_ ?c2 ?c3 ?c4; (case kA => exact rfl); (case kF => exact rfl); (case kK => assumption); (case k1 => k_asm); (case k2 => k_asm); (case k3 => k_asm); (case k4 => k_asm); (case k5 => k_asm); (case k6 => k_is); (case k7 => k_is); (case k8 => k_room); (case k9 => exact BindsTo.of_eq rfl); (case kB => exact rfl); (case kD => decide +kernel); (case c2 => exact rfl); (case c3 => exact rfl); (case c4 => exact rfl); k_whole; intro g' L' h' tk' cells' FG' F' N' Y' B' X' T' l1; k_cells Y'; (try simp only [List.cons_append, List.nil_append] at N'); (try dsimp only); (try k_lift B'); (try k_fold))
  k_with_none
  k_with "mine bnd" => first | exact (hg _).1 | exact (hg _).2 | exact (hg2 _).1 | exact (hg2 _).2 | exact (hin _ (by assumption)).1 | exact (hin _ (by assumption)).2 | exact (gB _ (by assumption)).1 | exact (gB _ (by assumption)).2
  k_with "mine idx" => first | assumption | (rw [h2]; assumption)
  k_with "mine inp" => first | exact in_two hn (by assumption) (by assumption) | exact part_in (by omega)
  k_with "mine len" => first | exact row_20 zB (Nat.le_of_lt hkB2) h3 | exact row_20 zB (Nat.le_refl _) h3 | exact part_20 (row_20 zB (Nat.le_refl _) h3)
  k_with "mine CompSrc" => (refine' src_map_list (fun part => part * (ns2.getD kA.toNat 0 * (iB ^ (n - 2).toNat % n) % n) % n) ?yh ?yF ?yN ?ym ?yi ?yz (fun k9 t9 I9 o9 C9 p9 D9 m9 ys9 h9 tk9 E9 hk9 hC9 hx9 F9 N9 off9 ne9 => ?_) (fun g9 ys9 hI9 hl9 => ?_); (case yh => with_unfolding_all rfl); (case yF => k_asm); (case yN => k_asm); (case ym => k_dflt k_memK); (case yi => assumption); (case yz => have zq := row_20 zB (Nat.le_refl _) h3; omega); (try simp only [LCg.Off3, and_true] at off9); (try k_fold))
  k_with "mine pyIter" => focus (first
    | ((rename Fr _ _ _ _ => lF'); (rename News _ _ _ _ => lN'); (with_unfolding_all refine' for_S (x := Str.ofString "at") (Str.ofString "found") [Str.ofString "row", Str.ofString "below", Str.ofString "other"] (fun pre f => f = pre.foldl (stepF n ns ns2) (List.replicate ns.length 0)) ?zh ?zr ?z1 ?z2 ?z3 ?z4 lF' (drop2 lN') ?zq ?zd ?zI ?zm ?zP ?_ ?_); (case zh => with_unfolding_all rfl); (case zr => assumption); (case z1 => omega); (case z2 => omega); (case z3 => omega); (case z4 => omega); (case zq => k_all); (case zd => k_asm); (case zI => assumption); (case zm => with_unfolding_all rfl); (case zP => exact rep_flat (by omega)); clear lF' lN';
        (all_goals first | (intro lA vA nA cA ocA vcA pA kA tA uA hA tkA IA oIA hkA hkA2 neA necA necIA offA qA dA hIA hPA FA NA mkA; (try k_fold); obtain ⟨gA, zA⟩ := stepF_pre hn h3 hPA) | (intro lA vA nA cA ocA vcA uA hA tkA qA dA hIA hPA FA NA mkA; (try k_fold); obtain ⟨gA, zA⟩ := stepF_pre hn h3 hPA)))
    | ((rename Fr _ _ _ _ => lF'); (rename News _ _ _ _ => lN'); (with_unfolding_all refine' for_R (x := Str.ofString "other") (vs := [_]) (ns := [1]) (Str.ofString "row") (Str.ofString "below") (fun pre f i => (f, i) = pre.foldl (stepT n (ns.getD kA.toNat 0)) ([1], 1)) ?zh ?zr hI lF' (drop1 lN') ?zI ?zm ?zk ?zP ?_ ?_); (case zh => with_unfolding_all rfl); (case zr => first | k_mem | k_memK); (case zI => exact .cons _ _ .nil); (case zm => with_unfolding_all rfl); (case zk => with_unfolding_all rfl); (case zP => exact rfl); clear lF' lN';
        (all_goals first | (intro lB vB nB cB iB tiB pB kB tB hB tkB IB oIB hkB hkB2 neB offB hIB hPB FB NB mkB; (try k_fold); obtain ⟨zB, gB, bB, dB⟩ := rowT_pre hn hPB) | (intro lB vB nB cB iB tiB uB hB tkB hIB hPB FB NB mkB; (try k_fold); have neB := ne_cell NB (.head _) (.tail _ (.tail _ (.tail _ (.head _)))) dA; obtain ⟨zB, gB, bB, dB⟩ := rowT_pre hn hPB))))
  k_with "mine FREnd" => (
    (rename News _ _ _ _ => lN'); (with_unfolding_all refine' fr_end ?kF ?kN ?kl ?kI ?k1 ?kn ?kr ?kP); (case kF => k_asm); (case k1 => with_unfolding_all rfl); (case kN => refine' two_keep lN' ?za ?zb ?zs; (case za => k_memK); (case zb => k_memK); (case zs => (intro p9 h9; (repeat (first | exact h9 | refine List.mem_cons_of_mem _ ?_))))); (case kl => first | assumption | (refine Ne.symm ?_; k_ne)); (case kI => assumption); (case kn => with_unfolding_all rfl); (case kr => (intro z z1 z2 z3; simp [z1, z2, z3])); (case kP => first | exact turn_eq hPB (by assumption) | exact turn_ne hPB (by assumption)))
  k_with "mine FSEnd" => (
    (rename News _ _ _ _ => lN'); (with_unfolding_all refine' fs_end ?kF ?kN ?kl ?kq ?kd ?kI ?k1 ?kr ?kP); (case kF => k_asm); (case k1 => with_unfolding_all rfl); (case kN => refine' three_keep lN' ?za ?zb ?zc ?zs; (case za => k_memK); (case zb => k_memK); (case zc => k_memK); (case zs => (intro p9 h9; (repeat (first | exact h9 | refine List.mem_cons_of_mem _ ?_))))); (case kq => k_all); (case kl => first | assumption | (refine Ne.symm ?_; k_ne)); (case kd => k_asm); (case kI => assumption); (case kr => (intro z z1 z2 z3; have y1 : z ≠ Str.ofString "row" := (fun e => by rw [e] at z3; exact absurd z3 (by decide)); have y2 : z ≠ Str.ofString "below" := (fun e => by rw [e] at z3; exact absurd z3 (by decide)); have y3 : z ≠ Str.ofString "other" := (fun e => by rw [e] at z3; exact absurd z3 (by decide)); simp [z1, z2, z3, y1, y2, y3])); (case kP => exact through_turn hPA hPB))
  k_steps
  all_goals (refine' ret _ _ _ cA _ _ (through_end hPA) gA zA hIA (fun p hp => qA p (.tail _ hp)) ?zF ?zN; (case zF => with_reducible assumption); (case zN => (rename News _ _ _ _ => lN'; exact news_keep lN' (by with_unfolding_all exact List.Mem.head _) (by (intro p9 h9; (repeat (first | exact h9 | refine List.mem_cons_of_mem _ ?_)))))))

end
section
local macro_rules | `(tactic| walk_at "mine pad") => `(tactic| fail)
local macro_rules | `(tactic| walk_at "mine pad") => `(tactic| fail)
local macro_rules | `(tactic| walk_at "call builtin:len") => `(tactic| (k_here; (with_reducible show wpAny _ _ (call (Value.builtin "len") [Value.ref _]) _ _ _); k_dflt (refine' len_led ?k1 ?k2 ?k3 ?k4 ?_; (case k1 => k_asm); (case k2 => k_mem); (case k3 => assumption); (case k4 => first | omega | (refine' len_le ?h1 ?h2; (case h1 => assumption); (case h2 => omega))); k_whole)))
local macro_rules | `(tactic| walk_at "eval ListComp") => `(tactic| (k_here; (with_reducible show wpAny _ _ (eval (Expr.ListComp _ [⟨_, _, [], _⟩] _ _) _) _ _ _); k_dflt (refine LCg.ListComp_U (F₀ := by k_asm) (by with_unfolding_all rfl) (by decide) (by rfl) (by decide) (by rfl) ?_); k_dflt lcg_toSrc))
local macro_rules | `(tactic| walk_at "eval ListComp") => `(tactic| (k_here; lct_look; k_dflt (refine LCt.ListComp_T (F₀ := by k_asm) (by with_unfolding_all rfl) (by decide) (by rfl) (by decide) (by rfl) ?_); k_dflt lct_toSrc))
local macro_rules | `(tactic| walk_at "exec Assign cons ListComp") => `(tactic| (k_here; (with_reducible show wpAny _ _ (exec (Stmt.Assign _ (Expr.ListComp _ [⟨_, _, [], _⟩] _ _) _) _) _ _ _); k_dflt (refine LCg.Assign_ListComp_U (F₀ := by k_asm) (by rfl) (by with_unfolding_all rfl) (by with_unfolding_all rfl) (by decide) (by rfl) (by decide) (by rfl) (by rfl) (by rfl) ?_); k_dflt lcg_toSrc))
local macro_rules | `(tactic| walk_at "exec Assign cons ListComp") => `(tactic| (k_here; lct_look; k_dflt (refine LCt.Assign_ListComp_T (F₀ := by k_asm) (by rfl) (by with_unfolding_all rfl) (by with_unfolding_all rfl) (by decide) (by rfl) (by decide) (by rfl) (by rfl) (by rfl) ?_); k_dflt lct_toSrc))
local macro_rules | `(tactic| walk_at "CompSrcT") => `(tactic| (k_here; k_extra "mine CompSrcT"))
local macro_rules | `(tactic| walk_at "CompSrc") => `(tactic| (k_here; k_extra "mine CompSrc"))
local macro_rules | `(tactic| walk_at "CEl") => `(tactic| (k_dflt (refine' cel ?a ?b ?c ?d; (case c => k_asm); (case d => k_asm); (case b => first | rfl | assumption | k_extra "mine cel"); (case a => first | rfl | assumption | ((simp only [bne_iff_ne, ne_eq, beq_iff_eq, decide_eq_true_eq]); first | assumption | omega) | k_extra "mine cel"))))
local macro_rules | `(tactic| walk_at "CNo") => `(tactic| (k_dflt (refine' cno ?a ?c ?d; (case c => k_asm); (case d => k_asm); (case a => first | rfl | assumption | ((simp only [bne_eq_false_iff_eq, beq_eq_false_iff_ne, ne_eq, decide_eq_false_iff_not]); first | assumption | omega) | k_extra "mine cel"))))
set_option maxRecDepth 100000 in
set_option maxHeartbeats 8000000 in
theorem melt_of {w : World} {loose : List Str} {mean : ExcName → Option Value} {mg mb : Str → Option Value} {dp un : Nat} {gd : Option (List Code)} {cn : Str} {cs : Scope} {a : Addr} {ccd : Value} {cl : List (Str × Addr)} {outer : List Env} {A₀ : Around} {base h₀ : Heap} {L : Addr} {m : Str → Option Value} {news : List (Addr × Obj)} {s : Shared} {Q E : Value → Shared → Prop}
    (B : Below A₀ base outer h₀) (F : Fr h₀ L s.heap m) (X : (Mine.hd.heap_39 w.params).In h₀) (T : Top Mine.hd.view_39 loose mean mg mb h₀) (hk : cs.kind = .function) (hd : dp + 8 < recursionLimit) (hu : un + 164 < cLine)
    {pan l : Addr} {vs : List Value} {ns : List Int} {k many : Int} {tk1 tm : Tok} {c1 c2 : Nat} (N : News h₀ L s.heap ((pan, listOf [Value.ref l, Value.int k tk1].toArray c1) :: (l, listOf vs.toArray c2) :: news)) (hI : IntsAre vs ns) (hlen : ns.length ≤ 100) (hk0 : 0 ≤ k) (hk1 : k ≤ 100) (hm : 1 ≤ many) (hm1 : many ≤ 100) (hpl : @Ne Nat l pan) (hoff : ∀ p : Addr × Obj, p ∈ news → @Ne Nat p.1 pan)
    (ret : ∀ (v : Int) (t t1 : Tok) (c : Nat) (h' : Heap) (tk' : Nat), 0 ≤ v → v < many → Fr h₀ L h' m → News h₀ L h' ((pan, listOf [Value.ref l, Value.int (k + 1) t1].toArray c) :: (l, listOf vs.toArray c2) :: news) → Q (.int v t) { s with heap := h', toks := tk' }) :
    wpAny (model PySem.Challenge.rw_sz0004_02.row.toRowW.prog w) (ktrTop dp un gd cn cs L a ccd cl outer) (call (.ref 279) [.ref pan, .int many tm]) Q E s := by
  w_top off
  revert X; k_fill; intro X
  refine wpAny_call ?_
  k_dflt cell_enter
  k_with_none
  k_steps
  all_goals exact ret _ _ _ _ _ _ (Int.fmod_nonneg_of_pos _ (by omega)) (Int.fmod_lt_of_pos _ (by omega)) (by k_asm) (by k_asm)

set_option maxRecDepth 100000 in
set_option maxHeartbeats 8000000 in
theorem ladle_of {w : World} {loose : List Str} {mean : ExcName → Option Value} {mg mb : Str → Option Value} {dp un : Nat} {gd : Option (List Code)} {cn : Str} {cs : Scope} {a : Addr} {ccd : Value} {cl : List (Str × Addr)} {outer : List Env} {A₀ : Around} {base h₀ : Heap} {L : Addr} {m : Str → Option Value} {news : List (Addr × Obj)} {s : Shared} {Q E : Value → Shared → Prop}
    (B : Below A₀ base outer h₀) (F : Fr h₀ L s.heap m) (X : (Mine.hd.heap_39 w.params).In h₀) (N : News h₀ L s.heap news) (T : Top Mine.hd.view_39 loose mean mg mb h₀) (hk : cs.kind = .function) (hd : dp + 8 < recursionLimit) (hu : un + 164 < cLine)
    {pan l : Addr} {vs : List Value} {ns : List Int} {k many : Int} {tk1 tm : Tok} {c1 c2 : Nat} {g : Obj → List (Addr × Obj)} (U : UpdF pan (listOf [Value.ref l, Value.int k tk1].toArray c1) news g) (hl : (l, listOf vs.toArray c2) ∈ news) (hI : IntsAre vs ns) (hlen : ns.length ≤ 100) (hk0 : 0 ≤ k) (hk1 : k ≤ 100) (hm : 1 ≤ many) (hm1 : many ≤ 100)
    (ret : ∀ (v : Int) (t t1 : Tok) (c : Nat) (h' : Heap) (tk' : Nat), 0 ≤ v → v < many → Fr h₀ L h' m → News h₀ L h' (g (listOf [Value.ref l, Value.int (k + 1) t1].toArray c)) → Q (.int v t) { s with heap := h', toks := tk' }) :
    wpAny (model PySem.Challenge.rw_sz0004_02.row.toRowW.prog w) (ktrTop dp un gd cn cs L a ccd cl outer) (call (.ref 279) [.ref pan, .int many tm]) Q E s := by
  obtain ⟨pre, post, e, hg, h1, h2⟩ := U.split
  subst e
  have hpl : @Ne Nat l pan := by
    rcases List.mem_append.mp hl with h | h
    · exact h1 _ h
    rcases List.mem_cons.mp h with h | h
    · exact (ladle_no hI (Prod.mk.inj h).2).elim
    · exact h2 _ h
  refine melt_of (news := pre ++ post) (tk1 := tk1) (c1 := c1) (c2 := c2) B F X T hk hd hu (fun p hp => N p ?_) hI hlen hk0 hk1 hm hm1 hpl (fun p hp => ?_) fun v t t1 c h' tk' a b F' N' => ret v t t1 c h' tk' a b F' fun p hp => N' p ?_
  · rcases List.mem_cons.mp hp with rfl | hp
    · exact List.mem_append_right _ (.head _)
    rcases List.mem_cons.mp hp with rfl | hp
    · exact hl
    rcases List.mem_append.mp hp with hp | hp
    · exact List.mem_append_left _ hp
    · exact List.mem_append_right _ (.tail _ hp)
  · rcases List.mem_append.mp hp with hp | hp
    · exact h1 _ hp
    · exact h2 _ hp
  · rw [hg] at hp
    rcases List.mem_append.mp hp with hp | hp
    · exact .tail _ (.tail _ (List.mem_append_left _ hp))
    rcases List.mem_cons.mp hp with rfl | hp
    · exact .head _
    · exact .tail _ (.tail _ (List.mem_append_right _ hp))

end
end
section
local macro_rules | `(tactic| walk_at "getAttr ref") => `(tactic| (k_here; k_dflt (refine' get_own ?k1 ?k2 ?k3 ?k4 ?k5 ?k6 ?k7 ?k8 ?k9 ?_; (case k1 => k_asm); (case k2 => k_asm); (case k3 => k_inst); (case k4 => k_is); (case k5 => k_is); (case k6 => k_is); (case k7 => k_is); (case k8 => assumption); (case k9 => k_handed); k_whole)))
local macro_rules | `(tactic| k_mem) => `(tactic| ((repeat (first | with_reducible refine List.mem_append_left _ ?_ | with_reducible refine List.mem_cons_of_mem _ ?_)); with_reducible assumption))
local macro_rules | `(tactic| walk_at "call builtin:len") => `(tactic| (k_here; (with_reducible show wpAny _ _ (call (Value.builtin "len") [Value.ref _]) _ _ _); k_dflt (refine' len_led ?k1 ?k2 ?k3 ?k4 ?_; (case k1 => k_asm); (case k2 => k_mem); (case k3 => assumption); (case k4 => first | omega | (refine' len_le ?h1 ?h2; (case h1 => assumption); (case h2 => omega))); k_whole)))
local macro_rules | `(tactic| walk_at "eval ListComp") => `(tactic| (k_here; (with_reducible show wpAny _ _ (eval (Expr.ListComp _ [⟨_, _, [], _⟩] _ _) _) _ _ _); k_dflt (refine LCg.ListComp_U (F₀ := by k_asm) (by with_unfolding_all rfl) (by decide) (by rfl) (by decide) (by rfl) ?_); k_dflt lcg_toSrc))
local macro_rules | `(tactic| walk_at "eval ListComp") => `(tactic| (k_here; lct_look; k_dflt (refine LCt.ListComp_T (F₀ := by k_asm) (by with_unfolding_all rfl) (by decide) (by rfl) (by decide) (by rfl) ?_); k_dflt lct_toSrc))
local macro_rules | `(tactic| walk_at "exec Assign cons ListComp") => `(tactic| (k_here; (with_reducible show wpAny _ _ (exec (Stmt.Assign _ (Expr.ListComp _ [⟨_, _, [], _⟩] _ _) _) _) _ _ _); k_dflt (refine LCg.Assign_ListComp_U (F₀ := by k_asm) (by rfl) (by with_unfolding_all rfl) (by with_unfolding_all rfl) (by decide) (by rfl) (by decide) (by rfl) (by rfl) (by rfl) ?_); k_dflt lcg_toSrc))
local macro_rules | `(tactic| walk_at "exec Assign cons ListComp") => `(tactic| (k_here; lct_look; k_dflt (refine LCt.Assign_ListComp_T (F₀ := by k_asm) (by rfl) (by with_unfolding_all rfl) (by with_unfolding_all rfl) (by decide) (by rfl) (by decide) (by rfl) (by rfl) (by rfl) ?_); k_dflt lct_toSrc))
local macro_rules | `(tactic| walk_at "CompSrcT") => `(tactic| (k_here; k_extra "mine CompSrcT"))
local macro_rules | `(tactic| walk_at "CompSrc") => `(tactic| (k_here; k_extra "mine CompSrc"))
local macro_rules | `(tactic| walk_at "CEl") => `(tactic| (k_dflt (refine' cel ?a ?b ?c ?d; (case c => k_asm); (case d => k_asm); (case b => first | rfl | assumption | k_extra "mine cel"); (case a => first | rfl | assumption | ((simp only [bne_iff_ne, ne_eq, beq_iff_eq, decide_eq_true_eq]); first | assumption | omega) | k_extra "mine cel"))))
local macro_rules | `(tactic| walk_at "CNo") => `(tactic| (k_dflt (refine' cno ?a ?c ?d; (case c => k_asm); (case d => k_asm); (case a => first | rfl | assumption | ((simp only [bne_eq_false_iff_eq, beq_eq_false_iff_ne, ne_eq, decide_eq_false_iff_not]); first | assumption | omega) | k_extra "mine cel"))))
local macro_rules | `(tactic| walk_at "call builtin:max") => `(tactic| (k_here; (with_reducible show wpAny _ _ (call (Value.builtin _) [Value.int _ _, Value.int _ _]) _ _ _); k_dflt (refine' max_nice ?k0 ?k1 ?k2 ?_; (case k0 => with_unfolding_all rfl); (case k1 => k_asm); (case k2 => k_asm); k_whole); intro W9 t9 h9 tk9 m9 d9 e9 F9 N9; (have f9 := m9.le (N := 20) (by omega) (by omega))))
local macro_rules | `(tactic| walk_at "subscriptTail Name Name ref int") => `(tactic| (k_here; (with_reducible show wpAny _ _ (subscriptTail _ _ (Value.ref _) (Value.int _ _)) _ _ _); k_dflt (refine' ksa_sub ?k1 ?k2 ?k3 ?k4 ?k5 ?k6 ?_ ?k7; (case k1 => k_asm); (case k2 => k_memK); (case k3 => with_reducible assumption); (case k4 => first | assumption | omega); (case k5 => k_extra "mine idx"); (case k6 => first | exact idx_fit (by assumption) (by assumption) | k_extra "mine fit" | omega); (case k7 => with_unfolding_all rfl); k_whole); intro _))
local macro_rules | `(tactic| walk_at "call ref cons nil") => `(tactic| (k_here; (with_reducible show wpAny _ _ (call (Value.ref 286) [Value.ref _, Value.str (Str.ofString "*") _, Value.int _ _, Value.int _ _]) _ _ _); k_dflt (refine' by_mul ?k1 ?k2 ?k3 ?k4 ?k5 ?kK ?kd ?ku ?t1 ?t2 ?t3 ?t4 ?n1 ?n2 ?x1 ?x2 ?x3 ?x4 ?_; (case k1 => k_asm); (case k2 => k_asm); (case k3 => k_asm); (case k4 => k_asm); (case k5 => k_asm); (case kK => first | exact rfl | assumption); (case kd => k_room); (case ku => units_room); (case t1 => k_mem); (case t2 => k_mem); (case t3 => first | assumption | k_get); (case t4 => first | assumption | k_get); (case n1 => first | with_reducible assumption | omega); (case n2 => first | with_reducible assumption | omega); (case x1 => first | with_reducible assumption | k_extra "mine bnd" | omega); (case x2 => first | with_reducible assumption | k_extra "mine bnd" | omega); (case x3 => first | with_reducible assumption | k_extra "mine bnd" | omega); (case x4 => first | with_reducible assumption | k_extra "mine bnd" | omega); intro t9 h9 tk9 b9 c9 F9 N9; (try dsimp only); (try k_fold))))
local macro_rules | `(tactic| walk_at "call ref cons nil") => `(tactic| (k_here; (with_reducible show wpAny _ _ (call (Value.ref 286) [Value.ref _, Value.str (Str.ofString "+") _, Value.int _ _, Value.int _ _]) _ _ _); k_dflt (refine' by_add ?k1 ?k2 ?k3 ?k4 ?k5 ?kK ?kd ?ku ?t1 ?t2 ?t3 ?t4 ?n1 ?n2 ?x1 ?x2 ?x3 ?x4 ?_; (case k1 => k_asm); (case k2 => k_asm); (case k3 => k_asm); (case k4 => k_asm); (case k5 => k_asm); (case kK => first | exact rfl | assumption); (case kd => k_room); (case ku => units_room); (case t1 => k_mem); (case t2 => k_mem); (case t3 => first | assumption | k_get); (case t4 => first | assumption | k_get); (case n1 => first | with_reducible assumption | omega); (case n2 => first | with_reducible assumption | omega); (case x1 => first | with_reducible assumption | k_extra "mine bnd" | omega); (case x2 => first | with_reducible assumption | k_extra "mine bnd" | omega); (case x3 => first | with_reducible assumption | k_extra "mine bnd" | omega); (case x4 => first | with_reducible assumption | k_extra "mine bnd" | omega); intro t9 h9 tk9 b9 c9 F9 N9; (try dsimp only); (try k_fold))))
local macro_rules | `(tactic| walk_at "call ref cons nil") => `(tactic| (k_here; (with_reducible show wpAny _ _ (call (Value.ref 286) [Value.ref _, Value.str (Str.ofString "-") _, Value.int _ _, Value.int _ _]) _ _ _); k_dflt (refine' by_sub ?k1 ?k2 ?k3 ?k4 ?k5 ?kK ?kd ?ku ?t1 ?t2 ?t3 ?t4 ?n1 ?n2 ?x1 ?x2 ?x3 ?x4 ?_; (case k1 => k_asm); (case k2 => k_asm); (case k3 => k_asm); (case k4 => k_asm); (case k5 => k_asm); (case kK => first | exact rfl | assumption); (case kd => k_room); (case ku => units_room); (case t1 => k_mem); (case t2 => k_mem); (case t3 => first | assumption | k_get); (case t4 => first | assumption | k_get); (case n1 => first | with_reducible assumption | omega); (case n2 => first | with_reducible assumption | omega); (case x1 => first | with_reducible assumption | k_extra "mine bnd" | omega); (case x2 => first | with_reducible assumption | k_extra "mine bnd" | omega); (case x3 => first | with_reducible assumption | k_extra "mine bnd" | omega); (case x4 => first | with_reducible assumption | k_extra "mine bnd" | omega); intro t9 h9 tk9 b9 c9 F9 N9; (try dsimp only); (try k_fold))))
local macro_rules | `(tactic| walk_at "call ref cons nil") => `(tactic| (k_here; (with_reducible show wpAny _ _ (call (Value.ref 307) [Value.ref _, Value.ref _, Value.ref _]) _ _ _); k_dflt (refine' prod_of ?k1 ?k2 ?k3 ?k4 ?k5 ?kK ?kd ?ku ?t1 ?t2 ?t3 ?t4 ?n1 ?n2 ?l1 ?l2 ?l3 ?l4 ?m1 ?m2 ?m3 ?m4 ?_; (case k1 => k_asm); (case k2 => k_asm); (case k3 => k_asm); (case k4 => k_asm); (case k5 => k_asm); (case kK => first | exact rfl | assumption); (case kd => k_room); (case ku => units_room); (case t1 => k_mem); (case t2 => k_mem); (case t3 => first | assumption | k_get); (case t4 => first | assumption | k_get); (case n1 => first | with_reducible assumption | omega); (case n2 => first | with_reducible assumption | omega); (case l1 => first | k_mem | k_memK); (case l2 => with_reducible assumption); (case l3 => first | assumption | k_extra "mine inp"); (case l4 => first | assumption | k_extra "mine len" | omega); (case m1 => first | k_mem | k_memK); (case m2 => first | with_reducible assumption | exact .cons _ _ (.cons _ _ .nil) | exact .cons _ _ .nil); (case m3 => first | with_reducible assumption | k_extra "mine inp"); (case m4 => first | with_reducible assumption | exact Nat.le_of_ble_eq_true rfl | k_extra "mine len" | omega); intro ms9 l9 vs9 c9 h9 tk9 q9 j9 d9 i9 e9 F9 N9; subst q9; (try simp only [List.forall_mem_cons] at e9); (try dsimp only); (try k_fold))))
local macro_rules | `(tactic| walk_at "call ref cons nil") => `(tactic| (k_here; (with_reducible show wpAny _ _ (call (Value.ref 312) [Value.ref _, Value.ref _, Value.ref _]) _ _ _); k_dflt (refine' sum_of ?k1 ?k2 ?k3 ?k4 ?k5 ?kK ?kd ?ku ?t1 ?t2 ?t3 ?t4 ?n1 ?n2 ?l1 ?l2 ?l3 ?l4 ?m1 ?m2 ?m3 ?m4 ?_; (case k1 => k_asm); (case k2 => k_asm); (case k3 => k_asm); (case k4 => k_asm); (case k5 => k_asm); (case kK => first | exact rfl | assumption); (case kd => k_room); (case ku => units_room); (case t1 => k_mem); (case t2 => k_mem); (case t3 => first | assumption | k_get); (case t4 => first | assumption | k_get); (case n1 => first | with_reducible assumption | omega); (case n2 => first | with_reducible assumption | omega); (case l1 => first | k_mem | k_memK); (case l2 => with_reducible assumption); (case l3 => first | assumption | k_extra "mine inp"); (case l4 => first | assumption | k_extra "mine len" | omega); (case m1 => first | k_mem | k_memK); (case m2 => first | with_reducible assumption | exact .cons _ _ (.cons _ _ .nil) | exact .cons _ _ .nil); (case m3 => first | with_reducible assumption | k_extra "mine inp"); (case m4 => first | with_reducible assumption | exact Nat.le_of_ble_eq_true rfl | k_extra "mine len" | omega); intro ms9 l9 vs9 c9 h9 tk9 q9 j9 d9 i9 e9 F9 N9; subst q9; (try simp only [List.forall_mem_cons] at e9); (try dsimp only); (try k_fold))))
local macro_rules | `(tactic| walk_at "call ref cons nil") => `(tactic| (k_here; (with_reducible show wpAny _ _ (call (Value.ref 293) [Value.ref _, Value.ref _, Value.int _ _]) _ _ _); k_dflt (refine' at_of ?k1 ?k2 ?k3 ?k4 ?k5 ?kK ?kd ?ku ?t1 ?t2 ?t3 ?t4 ?n1 ?n2 ?l1 ?l2 ?l3 ?l4 ?x1 ?x2 ?_; (case k1 => k_asm); (case k2 => k_asm); (case k3 => k_asm); (case k4 => k_asm); (case k5 => k_asm); (case kK => first | exact rfl | assumption); (case kd => k_room); (case ku => units_room); (case t1 => k_mem); (case t2 => k_mem); (case t3 => first | assumption | k_get); (case t4 => first | assumption | k_get); (case n1 => first | with_reducible assumption | omega); (case n2 => first | with_reducible assumption | omega); (case l1 => first | k_mem | k_memK); (case l2 => with_reducible assumption); (case l3 => first | assumption | k_extra "mine inp"); (case l4 => first | assumption | k_extra "mine len" | omega); (case x1 => first | with_reducible assumption | k_extra "mine bnd" | omega); (case x2 => first | with_reducible assumption | k_extra "mine bnd" | omega); intro t9 h9 tk9 b9 c9 F9 N9; (try dsimp only); (try k_fold))))
local macro_rules | `(tactic| walk_at "call ref cons nil") => `(tactic| (k_here; (with_reducible show wpAny _ _ (call (Value.ref 319) [Value.ref _, Value.ref _]) _ _ _); k_dflt (refine' cut_of ?k1 ?k2 ?k3 ?k4 ?k5 ?kK ?kd ?ku ?t1 ?t2 ?t3 ?t4 ?n1 ?n2 ?l1 ?l2 ?l3 ?l4 ?_; (case k1 => k_asm); (case k2 => k_asm); (case k3 => k_asm); (case k4 => k_asm); (case k5 => k_asm); (case kK => first | exact rfl | assumption); (case kd => k_room); (case ku => units_room); (case t1 => k_mem); (case t2 => k_mem); (case t3 => first | assumption | k_get); (case t4 => first | assumption | k_get); (case n1 => first | with_reducible assumption | omega); (case n2 => first | with_reducible assumption | omega); (case l1 => first | k_mem | k_memK); (case l2 => with_reducible assumption); (case l3 => first | assumption | k_extra "mine inp"); (case l4 => first | assumption | k_extra "mine len" | omega); intro l9 vs9 c9 h9 tk9 i9 F9 N9; (try k_extra "mine cutted"); (try dsimp only); (try k_fold))))
local macro_rules | `(tactic| walk_at "call ref cons nil") => `(tactic| (k_here; (with_reducible show wpAny _ _ (call (Value.ref 326) [Value.ref _, Value.ref _, Value.int _ _]) _ _ _); k_dflt (refine' parted_of ?k1 ?k2 ?k3 ?k4 ?k5 ?kK ?kd ?ku ?t1 ?t2 ?t3 ?t4 ?n1 ?n2 ?l1 ?l2 ?l3 ?l4 ?x1 ?x2 ?_; (case k1 => k_asm); (case k2 => k_asm); (case k3 => k_asm); (case k4 => k_asm); (case k5 => k_asm); (case kK => first | exact rfl | assumption); (case kd => k_room); (case ku => units_room); (case t1 => k_mem); (case t2 => k_mem); (case t3 => first | assumption | k_get); (case t4 => first | assumption | k_get); (case n1 => first | with_reducible assumption | omega); (case n2 => first | with_reducible assumption | omega); (case l1 => first | k_mem | k_memK); (case l2 => with_reducible assumption); (case l3 => first | assumption | k_extra "mine inp"); (case l4 => first | assumption | k_extra "mine len" | omega); (case x1 => first | with_reducible assumption | k_extra "mine bnd" | omega); (case x2 => first | with_reducible assumption | k_extra "mine bnd" | omega); intro p9 l9 vs9 c9 t9 h9 tk9 i9 e9 f9 g9 b9 d9 F9 N9; (try simp only [List.forall_mem_cons] at e9 f9); (try dsimp only); (try k_fold))))
local macro_rules | `(tactic| walk_at "call builtin:min cons nil") => `(tactic| (k_here; (with_reducible show wpAny _ _ (call (Value.builtin _) [Value.int _ _, Value.int _ _, Value.int _ _]) _ _ _); k_extra "mine min"))
local macro_rules | `(tactic| walk_at "call type:list cons nil") => `(tactic| (k_here; (with_reducible show wpAny _ _ (call (Value.type _) [Value.ref _]) _ _ _); k_extra "mine list"))
local macro_rules | `(tactic| walk_at "binaryOp Mult int int") => `(tactic| (k_here; refine mul_int ?_ (mulOk_getD (by assumption) (by assumption) (by assumption))))
local macro_rules | `(tactic| walk_at "DEl") => `(tactic| (k_dflt (refine' del ?a ?b ?c ?e ?d; (case a => assumption); (case b => assumption); (case c => k_asm); (case d => k_asm); (case e => rfl))))
local macro_rules | `(tactic| walk_at "call ref cons nil") => `(tactic| (k_here; (with_reducible show wpAny _ _ (call (Value.ref 270) [Value.str _ _, Value.int _ _]) _ _ _); k_extra "mine prime"; k_dflt (refine' type_of ?k1 ?k2 ?k3 ?k4 ?k5 ?kK ?kd ?ku ?n1 ?n2 ?_; (case k1 => k_asm); (case k2 => k_asm); (case k3 => k_asm); (case k4 => k_asm); (case k5 => k_asm); (case kK => first | exact rfl | assumption); (case kd => k_room); (case ku => units_room); (case n1 => first | with_reducible assumption | omega); (case n2 => first | with_reducible assumption | omega); intro t9 d9 es9 k9 q1 q2 h9 tk9 g1 g2 l1 l2 F9 N9; (try k_lt l1); (try k_lt2 l2); (try dsimp only); (try k_fold))))
local macro_rules | `(tactic| walk_at "call ref cons nil") => `(tactic| (k_here; (with_reducible show wpAny _ _ (call (Value.ref 279) [Value.ref _, Value.int _ _]) _ _ _); k_dflt (refine' ladle_of ?k1 ?k2 ?k3 ?k4 ?k5 ?kK ?kd ?ku ?U ?hl ?i ?len ?z0 ?z1 ?m0 ?m1 ?_; (case k1 => k_asm); (case k2 => k_asm); (case k3 => k_asm); (case k4 => k_asm); (case k5 => k_asm); (case kK => first | exact rfl | assumption); (case kd => k_room); (case ku => units_room); (case U => first | with_reducible assumption | k_updF); (case hl => first | k_mem | k_memK); (case i => with_reducible assumption); (case len => first | with_reducible assumption | k_extra "mine len"); (case z0 => first | with_reducible assumption | omega); (case z1 => first | with_reducible assumption | omega); (case m0 => first | with_reducible assumption | omega); (case m1 => first | with_reducible assumption | omega); intro v9 t9 q1 c9 h9 tk9 b9 d9 F9 N9; k_extra "mine drawn"; (try dsimp only at N9); (try dsimp only); (try k_fold))))
local macro_rules | `(tactic| walk_at "call ref cons nil") => `(tactic| (k_here; (with_reducible show wpAny _ _ (call (Value.ref 300) [Value.ref _, Value.ref _, Value.int _ _]) _ _ _); k_dflt (refine' byp_of ?k1 ?k2 ?k3 ?k4 ?k5 ?kK ?kd ?ku ?t1 ?t2 ?t3 ?t4 ?n1 ?n2 ?l1 ?l2 ?l3 ?l4 ?x1 ?x2 ?_; (case k1 => k_asm); (case k2 => k_asm); (case k3 => k_asm); (case k4 => k_asm); (case k5 => k_asm); (case kK => first | exact rfl | assumption); (case kd => k_room); (case ku => units_room); (case t1 => k_mem); (case t2 => k_mem); (case t3 => first | assumption | k_get); (case t4 => first | assumption | k_get); (case n1 => first | with_reducible assumption | omega); (case n2 => first | with_reducible assumption | omega); (case l1 => first | k_mem | k_memK); (case l2 => with_reducible assumption); (case l3 => first | assumption | k_extra "mine inp"); (case l4 => first | assumption | k_extra "mine len" | omega); (case x1 => first | with_reducible assumption | k_extra "mine bnd" | omega); (case x2 => first | with_reducible assumption | k_extra "mine bnd" | omega); intro t9 h9 tk9 b9 c9 F9 N9; (try dsimp only); (try k_fold))))
local macro_rules | `(tactic| walk_at "call ref cons nil") => `(tactic| (k_here; (with_reducible show wpAny _ _ (call (Value.ref 336) [Value.ref _, Value.ref _]) _ _ _); k_dflt (refine' right_of ?k1 ?k2 ?k3 ?k4 ?k5 ?kK ?kd ?ku ?t1 ?t2 ?t3 ?t4 ?n1 ?n2 ?l1 ?l2 ?l3 ?l4 ?hp ?_; (case k1 => k_asm); (case k2 => k_asm); (case k3 => k_asm); (case k4 => k_asm); (case k5 => k_asm); (case kK => first | exact rfl | assumption); (case kd => k_room); (case ku => units_room); (case t1 => k_mem); (case t2 => k_mem); (case t3 => first | assumption | k_get); (case t4 => first | assumption | k_get); (case n1 => first | with_reducible assumption | omega); (case n2 => first | with_reducible assumption | omega); (case l1 => first | k_mem | k_memK); (case l2 => with_reducible assumption); (case l3 => first | assumption | k_extra "mine inp"); (case l4 => first | assumption | k_extra "mine len" | omega); (case hp => with_reducible assumption); intro t9 h9 tk9 F9 N9; (try dsimp only); (try k_fold))))
local macro_rules | `(tactic| walk_at "call ref cons nil") => `(tactic| (k_here; (with_reducible show wpAny _ _ (call (Value.ref 341) [Value.ref _, Value.ref _, Value.ref _]) _ _ _); k_dflt (refine' through_of ?k1 ?k2 ?k3 ?k4 ?k5 ?kK ?kd ?ku ?t1 ?t2 ?t3 ?t4 ?n1 ?n2 ?l1 ?l2 ?l3 ?l4 ?m1 ?m2 ?m3 ?m4 ?h3 ?h2 ?_; (case k1 => k_asm); (case k2 => k_asm); (case k3 => k_asm); (case k4 => k_asm); (case k5 => k_asm); (case kK => first | exact rfl | assumption); (case kd => k_room); (case ku => units_room); (case t1 => k_mem); (case t2 => k_mem); (case t3 => first | assumption | k_get); (case t4 => first | assumption | k_get); (case n1 => first | with_reducible assumption | omega); (case n2 => first | with_reducible assumption | omega); (case l1 => first | k_mem | k_memK); (case l2 => with_reducible assumption); (case l3 => first | assumption | k_extra "mine inp"); (case l4 => first | assumption | k_extra "mine len" | omega); (case m1 => first | k_mem | k_memK); (case m2 => first | with_reducible assumption | exact .cons _ _ (.cons _ _ .nil) | exact .cons _ _ .nil); (case m3 => first | with_reducible assumption | k_extra "mine inp"); (case m4 => first | with_reducible assumption | exact Nat.le_of_ble_eq_true rfl | k_extra "mine len" | omega); (case h3 => k_extra "mine h3"); (case h2 => k_extra "mine h2"); intro ms9 l9 vs9 c9 h9 tk9 q9 j9 d9 i9 e9 F9 N9; subst q9; (try simp only [List.forall_mem_cons] at e9); (try dsimp only); (try k_fold))))
set_option maxRecDepth 100000 in
set_option maxHeartbeats 8000000 in
theorem law02 : PySem.Challenge.rw_sz0004_02.Holds := by
  w_top off
  refine Mine.hd ?_
  k_go0
  (all_goals try k_fold)
  k_with_none
  k_with "mine len" => first | exact le5_20 (by assumption) | exact len_prod5 (by assumption) (by assumption) | exact len_sum5 (by assumption) (by assumption) | exact len_quo5 (by assumption) | exact len_again1 (by assumption) | exact len_again2 (by assumption) | exact len_take5 (by assumption) | exact len_vals pl20 | exact len_take14
  k_with "mine inp" => first | exact in_take (by assumption) | exact in_vals hn1 | exact in_two hn (by assumption) (by assumption) | exact in_mod (by assumption) (by assumption) | exact quo_in (by omega) _
  k_with "mine ite" => (k_dflt first
    | (refine ite_neg (bne_no (sum_no hn1)) ?_)
    | (refine ite_neg (bne_no rfl) ?_)
    | (refine ite_neg (bne_no (hor_prod _ _)) ?_)
    | (refine ite_neg (bne_no (hor_sum _ _)) ?_)
    | (refine ite_neg (cut_no (again_cut (pos_of hn1) (by assumption))) ?_))
  k_with "mine prime" => (refine gen_prime (P := fun p => wpAny _ _ (call (Value.ref 270) [_, Value.int p _]) _ _ _) (by assumption) (by assumption) ?_; intro n hp hn1 hn hn' hn100 hn3; (try dsimp only))
  k_with "mine drawn" => rename Int => vX
  k_with "mine list" => (k_dflt (refine' list_range3 ?k0 ?k1 ?k2 ?k3 ?k4 ?k5 ?_; (case k0 => with_unfolding_all rfl); (case k1 => k_asm); (case k2 => k_asm); (case k3 => assumption); (case k4 => assumption); (case k5 => exact hn3); k_whole); intro pl DP usP cP hP tkP pl1 pl2 pl3 pl20 plIn FP NP lP pI; (try k_lt lP); (try dsimp only); (try k_fold))
  k_with "mine min" => ((rename News _ _ _ _ => lN'); (iterate 13 (replace lN' := drop1 lN')); (iterate 8 ((rename And (@Ne Nat _ _) _ => hq9); clear hq9)); k_dflt (with_unfolding_all refine' min3_len ?k0 ?k1 lN' ?k3 ?_; (case k0 => with_unfolding_all rfl); (case k1 => k_asm); (case k3 => assumption); k_whole); intro mz tz hz tkz hz1 hz3 FZ NZ; (try dsimp only))
  k_with "mine fit" => exact idx_fit5 (by assumption) (by assumption)
  k_with "mine idx" => assumption
  k_with "mine bnd" => first | exact (plIn _ (by assumption)).1 | exact (plIn _ (by assumption)).2
  k_with "mine h3" => exact pl3
  k_with "mine cutted" => ((rename IntsAre _ (cutP (throughP _ _ _)) => iE); rw [fin_ok hp (by assumption) hz1 pl1] at iE; have hfin := refl_of iE)
  k_with "mine h2" => exact List.length_map _
  k_with "mine CompSrc" => (first
    | ((rename IntsAre _ (List.take (Int.toNat _) _) => iC); refine' src_vals n iC ?yh ?yF ?yN ?ym ?yi ?yz (fun k9 t9 I9 o9 C9 p9 D9 m9 ys9 h9 tk9 E9 hk9 hC9 hx9 F9 N9 off9 ne9 => ?_) (fun g9 ys9 hI9 hl9 => ?_); (case yh => with_unfolding_all rfl); (case yF => k_asm); (case yN => k_asm); (case ym => k_dflt k_memK); (case yi => exact pI); (case yz => exact pl20); (try simp only [LCg.Off3, and_true] at off9); (try k_fold))
    | (refine' src_powers vX ?yh ?yF ?yN ?yr ?ya (fun k9 t9 I9 o9 C9 p9 D9 m9 ys9 h9 tk9 E9 lo9 hi9 hC9 hx9 F9 N9 off9 ne9 => ?_) (fun g9 ys9 hI9 hl9 => ?_); (case yh => with_unfolding_all rfl); (case yF => k_asm); (case yN => k_asm); (case yr => assumption); (case ya => assumption); (try simp only [LCg.Off3, and_true] at off9); (try k_fold))
    | (refine' src_draw n ?yh ?yF ?yN ?ym ?yU ?yr ?ya ?yb ?yc ?yd ?y5 ?y6 ?y7 (fun j9 k9 t9 I9 o9 C9 p9 D9 m9 ys9 h9 tk9 E9 u9 c9 hj9 hk9 hk8 hC9 hx9 F9 N9 off9 U9 ne9 => ?_) (fun g9 ys9 zs9 k9 t9 c9 hI9 hl9 hp9 hk9 hk8 => ?_); (case yh => with_unfolding_all rfl); (case yF => k_asm); (case yN => k_asm); (case ym => k_dflt k_memK); (case yU => k_updF); (case yr => assumption); (case ya => omega); (case yb => omega); (case yc => omega); (case yd => omega); (case y5 => omega); (case y6 => first | with_reducible assumption | omega); (case y7 => omega); (try dsimp only at N9 U9); (try simp only [LCg.Off3, and_true] at off9); (try k_fold)))
  k_steps
end
end Mine
set_option maxRecDepth 100000 in
set_option maxHeartbeats 8000000 in
theorem PySem.Challenge.cw_sz0004_02_holds : PySem.Challenge.rw_sz0004_02.Holds := by
  exact Mine.law02
