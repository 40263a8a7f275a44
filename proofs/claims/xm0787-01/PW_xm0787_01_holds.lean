import PyProof.Rows.All
import Wide.All
import OpenK.AllK
import Wide.FinOn
import Lean
import PySem.Challenge.RW_xm0787_01
open PySem PySem.W PyProof.Rows PySem.Calls
set_option Elab.async false
namespace Mine
def PlankPost (h₀ : Heap) (L : Addr) (m : Str → Option Value) (f : Obj → List (Addr × Obj)) (s : Shared) (k : Int) (v : Value) (s' : Shared) : Prop :=
  ∃ (r : Int) (t : Tok) (a : Int) (ta : Tok) (b : Int) (tb : Tok) (n : Nat) (h : Heap) (tk : Nat), v = .int r t ∧ s' = { s with heap := h, toks := tk } ∧ (0 ≤ r ∧ r < k) ∧ (0 ≤ a ∧ 0 ≤ b ∧ b < 65286) ∧
    Fr h₀ L h m ∧ News h₀ L h (f (listOf [.int a ta, .int b tb].toArray n))

theorem plank_cut {M : Model} {A : Around} {E : Value → Shared → Prop} {Q : Value → Shared → Prop} {s : Shared} {h₀ : Heap} {L d g : Addr} {m : Str → Option Value} {news : List (Addr × Obj)} {f : Obj → List (Addr × Obj)}
    {a b : Int} {ta tb : Tok} {n : Nat} {k : Int} {t : Tok}
    (F0 : Fr h₀ L s.heap m) (N0 : News h₀ L s.heap news) (U0 : UpdF d (listOf [.int a ta, .int b tb].toArray n) news f) (hk0 : 0 < k) (ha0 : 0 ≤ a ∧ 0 ≤ b ∧ b < 65286)
    (hc : wpAny M A (call (.ref g) [.ref d, .int k t]) (fun v s' => PlankPost h₀ L m f s k v s') E s)
    (nxt : ∀ (r : Int) (t : Tok) (a : Int) (ta : Tok) (b : Int) (tb : Tok) (n : Nat) (h : Heap) (tk : Nat), (0 ≤ r ∧ r < k) → (0 ≤ a ∧ 0 ≤ b ∧ b < 65286) →
      Fr h₀ L h m → News h₀ L h (f (listOf [.int a ta, .int b tb].toArray n)) → Q (.int r t) { s with heap := h, toks := tk }) : wpAny M A (call (.ref g) [.ref d, .int k t]) Q E s := by
  refine wpAny_mono hc (fun v s₂ hq => ?_) fun _ _ h => h
  obtain ⟨r, t, a, ta, b, tb, n, h, tk, rfl, rfl, hr, hab, F, N⟩ := hq
  exact nxt r t a ta b tb n h tk hr hab F N

def PierPost (h₀ : Heap) (L : Addr) (m : Str → Option Value) (news : List (Addr × Obj)) (s : Shared) (v : Value) (s' : Shared) : Prop :=
  ∃ (D : Addr) (a : Int) (ta : Tok) (b : Int) (tb : Tok) (n : Nat) (h : Heap) (tk : Nat), v = .ref D ∧ s' = { s with heap := h, toks := tk } ∧ (0 ≤ a ∧ 0 ≤ b ∧ b < 65286) ∧
    Fr h₀ L h m ∧ News h₀ L h ((D, listOf [.int a ta, .int b tb].toArray n) :: news) ∧ (∀ p ∈ news, p.1 < D)

theorem pier_cut {M : Model} {A : Around} {E : Value → Shared → Prop} {Q : Value → Shared → Prop} {s : Shared} {h₀ : Heap} {L : Addr} {m : Str → Option Value} {news : List (Addr × Obj)} {c : Sem Value}
    (F0 : Fr h₀ L s.heap m) (N0 : News h₀ L s.heap news)
    (hc : wpAny M A c (fun v s' => PierPost h₀ L m news s v s') E s)
    (nxt : ∀ (D : Addr) (a : Int) (ta : Tok) (b : Int) (tb : Tok) (n : Nat) (h : Heap) (tk : Nat), (0 ≤ a ∧ 0 ≤ b ∧ b < 65286) →
      Fr h₀ L h m → News h₀ L h ((D, listOf [.int a ta, .int b tb].toArray n) :: news) → (∀ p ∈ news, p.1 < D) → Q (.ref D) { s with heap := h, toks := tk }) : wpAny M A c Q E s := by
  refine wpAny_mono hc (fun v s₂ hq => ?_) fun _ _ h => h
  obtain ⟨D, a, ta, b, tb, n, h, tk, rfl, rfl, hab, F, N, hl⟩ := hq
  exact nxt D a ta b tb n h tk hab F N hl


theorem pb_hi (y : Int) : 0 ≤ y.fmod 65173 + 113 ∧ y.fmod 65173 + 113 < 65286 := by
  have h1 := Int.fmod_nonneg_of_pos y (show (0 : Int) < 65173 by decide)
  have h2 := Int.fmod_lt_of_pos y (show (0 : Int) < 65173 by decide)
  omega
theorem lc_hi (y : Int) : 0 ≤ y.fmod 65173 ∧ y.fmod 65173 < 65286 := by
  have h1 := Int.fmod_nonneg_of_pos y (show (0 : Int) < 65173 by decide)
  have h2 := Int.fmod_lt_of_pos y (show (0 : Int) < 65173 by decide)
  omega

/-- what a turn of the first loop leaves -/
def Turn1 (h₀ : Heap) (L D l p c1 c2 : Addr) (oD o1 o2 : Obj) (m₀ : Str → Option Value) (own : List (Addr × Obj)) (ns : List Int) (s : Shared) (f : Flow) (s₂ : Shared) : Prop :=
  (f = .next ∨ f = .cont) ∧ ∃ (a : Int) (ta : Tok) (b : Int) (tb : Tok) (n : Nat) (vs : List Value) (x : Int) (cnt : Nat) (st : Int) (ts : Tok) (m' : Str → Option Value) (h : Heap) (tk : Nat),
    s₂ = { s with heap := h, toks := tk } ∧ Fr h₀ L h m' ∧ News h₀ L h ([(D, oD), (l, listOf vs.toArray cnt), (p, listOf [.int a ta, .int b tb].toArray n), (c1, o1), (c2, o2)] ++ own) ∧
    IntsAre vs (ns ++ [x]) ∧ (0 ≤ x ∧ x < 8) ∧ (0 ≤ a ∧ 0 ≤ b ∧ b < 65286) ∧ (0 ≤ st ∧ st ≤ 19 + 8 * (ns.length + 1 : Int)) ∧ m' (Str.ofString "step") = some (.int st ts) ∧ ∀ z, z ≠ Str.ofString "turn" → z ≠ Str.ofString "step" → m' z = m₀ z

structure C1 where
  a : Int
  ta : Tok
  b : Int
  tb : Tok
  n : Nat
  vs : List Value
  ns : List Int
  cnt : Nat
  st : Int
  ts : Tok

theorem loop1 {prog : Program} {w : World} {A : Around} {E : Value → Shared → Prop} {s : Shared} {env : Env} {h₀ : Heap} {body : List Stmt} {Q : Flow → Shared → Prop}
    {r D l p c1 c2 : Addr} {oD o1 o2 : Obj} {b₀ : Int} {t₀ u₀ v₀ : Tok} {m₀ : Str → Option Value} {a b st : Int} {ta tb ts : Tok} {n : Nat}
    (F : Fr h₀ env.locals s.heap m₀) (N : News h₀ env.locals s.heap [(D, oD), (l, listOf #[] 0), (p, listOf [.int a ta, .int b tb].toArray n), (c1, o1), (c2, o2)])
    (hr : IsRange s.heap r 0 b₀ 1 t₀ u₀ v₀) (hh : A.handled = none) (hb : 0 ≤ b₀ ∧ b₀ < 13) 
    (hst : m₀ (Str.ofString "step") = some (.int st ts)) (hs : 0 ≤ st ∧ st ≤ 19) (hab : 0 ≤ a ∧ 0 ≤ b ∧ b < 65286)
    (turn : KstMark → ∀ (k : Int) (t : Tok) (a : Int) (ta : Tok) (b : Int) (tb : Tok) (n : Nat) (vs : List Value) (ns : List Int) (cnt : Nat) (st : Int) (ts : Tok) (u : Str → Option Value) (h : Heap) (tk : Nat) (own : List (Addr × Obj)),
      OwnOff own [D, l, p, c1, c2] → IntsAre vs ns → ns.length < 12 → (0 ≤ a ∧ 0 ≤ b ∧ b < 65286) → (0 ≤ st ∧ st ≤ 19 + 8 * (ns.length : Int)) →
      Fr h₀ env.locals h (fun y => if y = Str.ofString "turn" then some (.int k t) else if y = Str.ofString "step" then some (.int st ts) else m₀ y) →
      News h₀ env.locals h ([(D, oD), (l, listOf vs.toArray cnt), (p, listOf [.int a ta, .int b tb].toArray n), (c1, o1), (c2, o2)] ++ own) →
      wpAny (model prog w) A (execs body env) (Turn1 h₀ env.locals D l p c1 c2 oD o1 o2 m₀ own ns { s with heap := h, toks := tk }) E { s with heap := h, toks := tk })
    (done : KstMark → ∀ (a : Int) (ta : Tok) (b : Int) (tb : Tok) (n : Nat) (vs : List Value) (ns : List Int) (cnt : Nat) (st : Int) (ts : Tok) (u : Str → Option Value) (h : Heap) (tk : Nat),
      IntsAre vs ns → ns.length < 13 → (∀ x ∈ ns, 0 ≤ x ∧ x < 8) →
      Fr h₀ env.locals h (fun y => if y = Str.ofString "turn" then u y else if y = Str.ofString "step" then some (.int st ts) else m₀ y) →
      News h₀ env.locals h [(D, oD), (l, listOf vs.toArray cnt), (p, listOf [.int a ta, .int b tb].toArray n), (c1, o1), (c2, o2)] → Q .next { s with heap := h, toks := tk }) :
    wpAny (model prog w) A (pyIter (.ref r)) (fun it s₂ => LoopAtV prog w A h₀ env (Str.ofString "turn") body Q E it s₂) E s := by
  have hk : Builtin.Range.rangeSize 0 b₀ 1 = ((b₀.toNat : Nat) : Int) := by
    have e : b₀ = ((b₀.toNat : Nat) : Int) := by omega
    rw [e]
    exact rangeSize_nat _ _
  have fe : ∀ (x : Option Value) (u : Str → Option Value) (c : C1) (m₁ : Str → Option Value), (m₁ = fun y => if y = Str.ofString "turn" then x else kstB (fun z => if ([] : List Str).contains z then u z else m₀ z) [(Str.ofString "step", Value.int c.st c.ts)] y) →
      m₁ = fun y => if y = Str.ofString "turn" then x else if y = Str.ofString "step" then some (.int c.st c.ts) else m₀ y := by
    rintro x u c m₁ rfl
    rfl
  refine kst_range (σ := C1) (fun c => [(D, oD), (l, listOf c.vs.toArray c.cnt), (p, listOf [.int c.a c.ta, .int c.b c.tb].toArray c.n), (c1, o1), (c2, o2)]) (fun c => [(Str.ofString "step", Value.int c.st c.ts)]) (fun c => IntsAre c.vs c.ns) []
    (fun pre c => c.ns.length = pre.length ∧ (∀ x ∈ c.ns, 0 ≤ x ∧ x < 8) ∧ (0 ≤ c.a ∧ 0 ≤ c.b ∧ c.b < 65286) ∧ (0 ≤ c.st ∧ c.st ≤ 19 + 8 * (c.ns.length : Int)))
    ⟨a, ta, b, tb, n, [], [], 0, st, ts⟩ hh hr (small_one (by omega) (by omega) (by omega) (by omega)) hk F N .nil ?_ ?_ ?_ ?_
  · intro q hq
    rw [List.mem_singleton.mp hq]
    exact hst
  · refine ⟨rfl, fun x hx => (nomatch hx), hab, hs.1, ?_⟩
    have := hs.2
    show st ≤ 19 + 8 * ((([] : List Int).length : Nat) : Int)
    simp only [List.length_nil]
    omega
  · intro c pre k t u h tk own ek hlt hoff hi hP F₁ N₁
    obtain ⟨h1, h2, h3, h4⟩ := hP
    refine wpAny_mono (turn kstMark k t c.a c.ta c.b c.tb c.n c.vs c.ns c.cnt c.st c.ts u h tk own hoff hi (by omega) h3 h4 F₁ N₁) (fun f s₂ hT => ?_) fun _ _ e => e
    obtain ⟨hf, a, ta, b, tb, n, vs, x, cnt, st, ts, m', h', tk', rfl, F', N', hi', hx, hab', hst', hm, hz⟩ := hT
    have fin : InvEndN h₀ env.locals (KstS (fun c : C1 => [(D, oD), (l, listOf c.vs.toArray c.cnt), (p, listOf [.int c.a c.ta, .int c.b c.tb].toArray c.n), (c1, o1), (c2, o2)]) (fun c => [(Str.ofString "step", Value.int c.st c.ts)]) (fun c => IntsAre c.vs c.ns) (Str.ofString "turn") [] m₀
        (fun pre c => c.ns.length = pre.length ∧ (∀ x ∈ c.ns, 0 ≤ x ∧ x < 8) ∧ (0 ≤ c.a ∧ 0 ≤ c.b ∧ c.b < 65286) ∧ (0 ≤ c.st ∧ c.st ≤ 19 + 8 * (c.ns.length : Int))) (pre ++ [k])) own ([D, l, p, c1, c2]) { s with heap := h, toks := tk } { s with heap := h', toks := tk' } := by
      refine kst_end (s₁ := { s with heap := h, toks := tk }) (⟨a, ta, b, tb, n, vs, c.ns ++ [x], cnt, st, ts⟩ : C1) F' N' (fun p hp => List.mem_append.mpr (.inl hp)) (fun p hp => List.mem_append.mpr (.inr hp)) rfl hi' ?_ ?_ ⟨?_, ?_, hab', hst'.1, ?_⟩
      · intro q hq
        rw [List.mem_singleton.mp hq]
        exact hm
      · intro z hz1 hz2 _
        exact hz z hz1 (hz2 _ (List.mem_singleton.mpr rfl))
      · simp only [List.length_append, List.length_singleton, h1]
      · intro y hy
        rcases List.mem_append.mp hy with hy | hy
        · exact h2 y hy
        · rw [List.mem_singleton.mp hy]; exact hx
      · have := hst'.2
        simp only [List.length_append, List.length_singleton]
        omega
    rcases hf with rfl | rfl
    · exact fin
    · exact fin
  · intro c u h tk hi hP F₁ N₁
    obtain ⟨h1, h2, h3, h4⟩ := hP
    rw [rangeKs_length] at h1
    exact done kstMark c.a c.ta c.b c.tb c.n c.vs c.ns c.cnt c.st c.ts u h tk hi (by omega) h2 F₁ N₁

def datOf (p : Int × Int) : Dat := .tuple [.int p.1, .int p.2]
def TupObj (o : Obj) : Prop := ∃ its n, o = { cls := .type "tuple", data := .seq its n }

def step2 (a x : Int) (ls : List Int) (ds : List (Int × Int)) : List Int × List (Int × Int) :=
  if ls.filter (fun n => ((n + 7).fmod 8 == x)) = [] then (ls, ds)
  else (ls.filter (fun n => decide ((ls.filter (fun n => ((n + 7).fmod 8 == x))).getD 0 0 < n)), ds ++ [(a, (ls.filter (fun n => ((n + 7).fmod 8 == x))).getD 0 0)])
def run2 : Nat → List Int → List Int → List (Int × Int) → List (Int × Int)
  | _, [], _, ds => ds
  | a, x :: xs, ls, ds => run2 (a + 1) xs (step2 a x ls ds).1 (step2 a x ls ds).2
theorem step2_len1 (a x : Int) (ls : List Int) (ds : List (Int × Int)) : (step2 a x ls ds).1.length ≤ ls.length := by
  unfold step2
  split
  · exact Nat.le_refl _
  · exact List.length_filter_le _ _
theorem step2_len2 (a x : Int) (ls : List Int) (ds : List (Int × Int)) : (step2 a x ls ds).2.length ≤ ds.length + 1 := by
  unfold step2
  split
  · exact Nat.le_succ _
  · simp

/-- a comprehension's test, a comprehension's element -/
def TestEnd (h₀ : Heap) (L : Addr) (m : Str → Option Value) (s : Shared) (news : List (Addr × Obj)) (b : Bool) (ok : Bool) (s' : Shared) : Prop :=
  ok = b ∧ ∃ h' tk', s' = { s with heap := h', toks := tk' } ∧ Fr h₀ L h' m ∧ News h₀ L h' news
def EltEnd (h₀ : Heap) (L : Addr) (m : Str → Option Value) (s : Shared) (news : List (Addr × Obj)) (v : Value) (y : Value) (s' : Shared) : Prop :=
  y = v ∧ ∃ h' tk', s' = { s with heap := h', toks := tk' } ∧ Fr h₀ L h' m ∧ News h₀ L h' news

section
open LCt LCg
variable {prog : Program} {w : World} {A : Around} {s : Shared} {h₀ : Heap} {L : Addr} {m : Str → Option Value} {env : Env}
theorem rest_filter {ct elt : Expr} {x : Str} {scope : Scope} {cl : List (Str × Addr)} {S : List (Addr × Obj) → Prop} {Fin : List Value → List (Addr × Obj) → Prop} {news : List (Addr × Obj)} {vs : List Value} {ns : List Int} (p : Int → Bool)
    (hi : IntsAre vs ns) (hS : S news)
    (test : ∀ (n : Int) (t : Tok) (I : Addr) (oI : Obj) (C : Addr) (oC : Obj) (D : Addr) (ys : List Value) (m₂ : Str → Option Value) (h : Heap) (tk : Nat) (E' : Value → Shared → Prop), NsObj oC m₂ → m₂ x = some (.int n t) → Fr h₀ L h m → News h₀ L h ((I, oI) :: (C, oC) :: (D, lst ys) :: news) → Off3 I C D news → ((@Ne Nat I C) ∧ (@Ne Nat I D) ∧ (@Ne Nat C D)) →
      wpAny (model prog w) A (isTrue ct (compEnvC scope cl C env) (eval ct (compEnvC scope cl C env))) (fun ok s' => TestEnd h₀ L m { s with heap := h, toks := tk } ((I, oI) :: (C, oC) :: (D, lst ys) :: news) (p n) ok s') E' { s with heap := h, toks := tk })
    (eltW : ∀ (n : Int) (t : Tok) (I : Addr) (oI : Obj) (C : Addr) (oC : Obj) (D : Addr) (ys : List Value) (m₂ : Str → Option Value) (h : Heap) (tk : Nat) (E' : Value → Shared → Prop), NsObj oC m₂ → m₂ x = some (.int n t) → Fr h₀ L h m → News h₀ L h ((I, oI) :: (C, oC) :: (D, lst ys) :: news) → Off3 I C D news → ((@Ne Nat I C) ∧ (@Ne Nat I D) ∧ (@Ne Nat C D)) →
      wpAny (model prog w) A (eval elt (compEnvC scope cl C env)) (fun y s' => EltEnd h₀ L m { s with heap := h, toks := tk } ((I, oI) :: (C, oC) :: (D, lst ys) :: news) (.int n t) y s') E' { s with heap := h, toks := tk })
    (fin : ∀ us, IntsAre us (ns.filter p) → Fin us news) :
    CompRestT prog w A h₀ L m env ct elt x scope cl s S (fun i v => vs.toArray[i]? = some v) Fin vs.toArray.size 0 [] news := by
  have snoc : ∀ {us : List Value} {ms : List Int} (n : Int) (t : Tok), IntsAre us ms → IntsAre (us ++ [.int n t]) (ms ++ [n]) := by
    intro us ms n t h
    induction h with
    | nil => exact .cons n t .nil
    | cons a b _ ih => exact .cons a b ih
  have go : ∀ k i ys, i + k = ns.length → IntsAre ys ((ns.take i).filter p) → CompRestT prog w A h₀ L m env ct elt x scope cl s S (fun i v => vs.toArray[i]? = some v) Fin k i ys news := by
    intro k
    induction k with
    | zero =>
      intro i ys hk hy
      have e : ns.take i = ns := List.take_of_length_le (by omega)
      rw [e] at hy
      exact CompRestT.zero (fin _ hy)
    | succ k ih =>
      intro i ys hk hy
      refine CompRestT.succ fun v I oI C oC D m₂ h tk E' hv hC hx F N off ne => ?_
      have hlt : i < ns.length := by omega
      obtain ⟨t, ht⟩ := hi.get i ns[i] (List.getElem?_eq_getElem hlt)
      have hv' : v = .int ns[i] t := by
        have hv2 : vs[i]? = some v := by simpa using hv
        rw [ht] at hv2
        exact (Option.some.inj hv2).symm
      subst hv'
      have hs : ns.take (i + 1) = ns.take i ++ [ns[i]] := by rw [List.take_add_one, List.getElem?_eq_getElem hlt]; rfl
      refine wpAny_mono (test ns[i] t I oI C oC D ys m₂ h tk E' hC hx F N off ne) (fun ok s' hT => ?_) fun _ _ e => e
      obtain ⟨rfl, h₁, tk₁, rfl, F₁, N₁⟩ := hT
      cases hp : p ns[i] with
      | true =>
        simp only [if_true]
        refine wpAny_mono (eltW ns[i] t I oI C oC D ys m₂ h₁ tk₁ E' hC hx F₁ N₁ off ne) (fun y s'' hE => ?_) fun _ _ e => e
        obtain ⟨rfl, h₂, tk₂, rfl, F₂, N₂⟩ := hE
        refine ⟨h₂, tk₂, news, rfl, F₂, N₂, off, hS, ih (i + 1) _ (by omega) ?_⟩
        rw [hs, List.filter_append]
        have e : [ns[i]].filter p = [ns[i]] := by simp [hp]
        rw [e]
        exact snoc _ _ hy
      | false =>
        simp only [Bool.false_eq_true, if_false]
        refine ⟨h₁, tk₁, news, rfl, F₁, N₁, off, hS, ih (i + 1) _ (by omega) ?_⟩
        rw [hs, List.filter_append]
        have e : [ns[i]].filter p = [] := by simp [hp]
        rw [e, List.append_nil]
        exact hy
  have hsz : vs.toArray.size = ns.length := by rw [List.size_toArray, hi.length]
  rw [hsz]
  exact go ns.length 0 [] (by omega) .nil
end

/-- marks: the number asked, the ints found -/
structure NumIs (x : Int) : Prop where mk ::
structure SomeIs (ms : List Int) : Prop where mk ::

theorem rest_filter1 {prog : Program} {w : World} {A : Around} {s : Shared} {h₀ : Heap} {L : Addr} {m : Str → Option Value} {env : Env} {ct elt : Expr} {x : Str} {scope : Scope} {cl : List (Str × Addr)} {S : List (Addr × Obj) → Prop} {Fin : List Value → List (Addr × Obj) → Prop} {news : List (Addr × Obj)} {vs : List Value} {ns : List Int} {q : Int} (mk0 : NumIs q)
    (hi : IntsAre vs ns) (hS : S news)
    (test : ∀ (n : Int) (t : Tok) (I : Addr) (oI : Obj) (C : Addr) (oC : Obj) (D : Addr) (ys : List Value) (m₂ : Str → Option Value) (h : Heap) (tk : Nat) (E' : Value → Shared → Prop), LCg.NsObj oC m₂ → m₂ x = some (.int n t) → Fr h₀ L h m → News h₀ L h ((I, oI) :: (C, oC) :: (D, LCg.lst ys) :: news) → LCg.Off3 I C D news → ((@Ne Nat I C) ∧ (@Ne Nat I D) ∧ (@Ne Nat C D)) →
      wpAny (model prog w) A (isTrue ct (compEnvC scope cl C env) (eval ct (compEnvC scope cl C env))) (fun ok s' => TestEnd h₀ L m { s with heap := h, toks := tk } ((I, oI) :: (C, oC) :: (D, LCg.lst ys) :: news) ((n + 7).fmod 8 == q) ok s') E' { s with heap := h, toks := tk })
    (eltW : ∀ (n : Int) (t : Tok) (I : Addr) (oI : Obj) (C : Addr) (oC : Obj) (D : Addr) (ys : List Value) (m₂ : Str → Option Value) (h : Heap) (tk : Nat) (E' : Value → Shared → Prop), LCg.NsObj oC m₂ → m₂ x = some (.int n t) → Fr h₀ L h m → News h₀ L h ((I, oI) :: (C, oC) :: (D, LCg.lst ys) :: news) → LCg.Off3 I C D news → ((@Ne Nat I C) ∧ (@Ne Nat I D) ∧ (@Ne Nat C D)) →
      wpAny (model prog w) A (eval elt (compEnvC scope cl C env)) (fun y s' => EltEnd h₀ L m { s with heap := h, toks := tk } ((I, oI) :: (C, oC) :: (D, LCg.lst ys) :: news) (.int n t) y s') E' { s with heap := h, toks := tk })
    (fin : ∀ us ms, ms = ns.filter (fun n => ((n + 7).fmod 8 == q)) → SomeIs ms → IntsAre us ms → Fin us news) :
    LCt.CompRestT prog w A h₀ L m env ct elt x scope cl s S (fun i v => vs.toArray[i]? = some v) Fin vs.toArray.size 0 [] news :=
  rest_filter (fun n => ((n + 7).fmod 8 == q)) hi hS test eltW fun us h => fin us _ rfl SomeIs.mk h
theorem rest_filter2 {prog : Program} {w : World} {A : Around} {s : Shared} {h₀ : Heap} {L : Addr} {m : Str → Option Value} {env : Env} {ct elt : Expr} {x : Str} {scope : Scope} {cl : List (Str × Addr)} {S : List (Addr × Obj) → Prop} {Fin : List Value → List (Addr × Obj) → Prop} {news : List (Addr × Obj)} {vs : List Value} {ns : List Int} {q : List Int} (mk0 : SomeIs q)
    (hi : IntsAre vs ns) (hS : S news)
    (test : ∀ (n : Int) (t : Tok) (I : Addr) (oI : Obj) (C : Addr) (oC : Obj) (D : Addr) (ys : List Value) (m₂ : Str → Option Value) (h : Heap) (tk : Nat) (E' : Value → Shared → Prop), LCg.NsObj oC m₂ → m₂ x = some (.int n t) → Fr h₀ L h m → News h₀ L h ((I, oI) :: (C, oC) :: (D, LCg.lst ys) :: news) → LCg.Off3 I C D news → ((@Ne Nat I C) ∧ (@Ne Nat I D) ∧ (@Ne Nat C D)) →
      wpAny (model prog w) A (isTrue ct (compEnvC scope cl C env) (eval ct (compEnvC scope cl C env))) (fun ok s' => TestEnd h₀ L m { s with heap := h, toks := tk } ((I, oI) :: (C, oC) :: (D, LCg.lst ys) :: news) (decide (q.getD 0 0 < n)) ok s') E' { s with heap := h, toks := tk })
    (eltW : ∀ (n : Int) (t : Tok) (I : Addr) (oI : Obj) (C : Addr) (oC : Obj) (D : Addr) (ys : List Value) (m₂ : Str → Option Value) (h : Heap) (tk : Nat) (E' : Value → Shared → Prop), LCg.NsObj oC m₂ → m₂ x = some (.int n t) → Fr h₀ L h m → News h₀ L h ((I, oI) :: (C, oC) :: (D, LCg.lst ys) :: news) → LCg.Off3 I C D news → ((@Ne Nat I C) ∧ (@Ne Nat I D) ∧ (@Ne Nat C D)) →
      wpAny (model prog w) A (eval elt (compEnvC scope cl C env)) (fun y s' => EltEnd h₀ L m { s with heap := h, toks := tk } ((I, oI) :: (C, oC) :: (D, LCg.lst ys) :: news) (.int n t) y s') E' { s with heap := h, toks := tk })
    (fin : ∀ us ms, ms = ns.filter (fun n => decide (q.getD 0 0 < n)) → True → IntsAre us ms → Fin us news) :
    LCt.CompRestT prog w A h₀ L m env ct elt x scope cl s S (fun i v => vs.toArray[i]? = some v) Fin vs.toArray.size 0 [] news :=
  rest_filter (fun n => decide (q.getD 0 0 < n)) hi hS test eltW fun us h => fin us _ rfl trivial h

/-- addresses apart -/
def Apart2 (I lf du nb c1 c2 : Nat) : Prop := (I + 1 ≠ lf ∧ I ≠ lf ∧ I + 1 ≠ du ∧ I ≠ du ∧ I + 1 ≠ nb ∧ I ≠ nb ∧ I + 1 ≠ c1 ∧ I ≠ c1 ∧ I + 1 ≠ c2 ∧ I ≠ c2) ∧
  (lf ≠ du ∧ lf ≠ nb ∧ lf ≠ c1 ∧ lf ≠ c2 ∧ du ≠ nb ∧ du ≠ c1 ∧ du ≠ c2 ∧ nb ≠ c1 ∧ nb ≠ c2 ∧ c1 ≠ c2)

def Turn2 (h₀ : Heap) (L I du nb c1 c2 : Addr) (e1 e2 : Obj) (onb : Obj) (m₀ : Str → Option Value) (a x : Int) (ls : List Int) (ds : List (Int × Int)) (s : Shared) (f : Flow) (s₂ : Shared) : Prop :=
  (f = .next ∨ f = .cont) ∧ ∃ (lf : Addr) (lv : List Value) (ls' : List Int) (lc : Nat) (dv : List Value) (ds' : List (Int × Int)) (dc : Nat) (o1 o2 : Obj) (x1 x2 : Option Value) (tl : List (Addr × Obj)) (m' : Str → Option Value) (h : Heap) (tk : Nat),
    s₂ = { s with heap := h, toks := tk } ∧ Fr h₀ L h m' ∧ News h₀ L h ((I + 1, e1) :: (I, e2) :: (lf, listOf lv.toArray lc) :: (du, listOf dv.toArray dc) :: (nb, onb) :: (c1, o1) :: (c2, o2) :: tl) ∧
    IntsAre lv ls' ∧ DatAll tl dv (ds'.map datOf) ∧ (∀ p ∈ tl, TupObj p.2) ∧ o1.data = .cell x1 ∧ o2.data = .cell x2 ∧ (@Ne Nat lf du ∧ @Ne Nat lf nb) ∧ (ls', ds') = step2 a x ls ds ∧
    m' (Str.ofString "left") = some (.ref lf) ∧ ∀ z, z ≠ Str.ofString "at" → z ≠ Str.ofString "left" → m' z = m₀ z

section
variable {prog : Program} {w : World} {A : Around} {E : Value → Shared → Prop} {s : Shared} {env : Env} {h₀ : Heap} {body : List Stmt} {Q : Flow → Shared → Prop}

theorem apart_obj {h : Heap} {L : Addr} {news : List (Addr × Obj)} {a b : Addr} {o o' : Obj} (N : News h₀ L h news) (ha : (a, o) ∈ news) (hb : (b, o') ∈ news) (hne : o ≠ o') : a ≠ b := by
  rintro rfl
  have h1 := (N _ ha).1
  have h2 := (N _ hb).1
  rw [h1] at h2
  exact hne (Option.some.inj h2)

theorem rest2 {elts : List Expr} {k : Nat} {pos : Pos} {I du nb c1 c2 : Addr} {vs : List Value} {cnt : Nat} {m₀ : Str → Option Value} {TOT : List (Int × Int)}
    (hc : (@LT.lt Nat _ c1 I) ∧ (@LT.lt Nat _ c2 I)) (hdn : (@Ne Nat du nb) ∧ (@Ne Nat c1 c2)) 
    (turn : KstMark → ∀ (a : Nat) (x : Int) (_ : NumIs x) (ls : List Int) (ds : List (Int × Int)) (lf : Addr) (lv : List Value) (lc : Nat) (dv : List Value) (dc : Nat) (o1 o2 e1 e2 : Obj) (x1 x2 : Option Value) (tl : List (Addr × Obj)) (T : Addr) (t tx : Tok) (u : Str → Option Value) (h : Heap) (tk : Nat),
      (0 ≤ x ∧ x < 8) → ls.length < 15 → dv.length < 13 → IntsAre lv ls → DatAll tl dv (ds.map datOf) → (∀ p ∈ tl, TupObj p.2) → o1.data = .cell x1 → o2.data = .cell x2 → OwnOff tl [I + 1, I, lf, du, nb, c1, c2] → Apart2 I lf du nb c1 c2 → IsTup h T #[.int a t, .int x tx] →
      Fr h₀ env.locals h (fun y => if y = Str.ofString "at" then u y else if y = Str.ofString "left" then some (.ref lf) else m₀ y) →
      News h₀ env.locals h ((I + 1, e1) :: (I, e2) :: (lf, listOf lv.toArray lc) :: (du, listOf dv.toArray dc) :: (nb, listOf vs.toArray cnt) :: (c1, o1) :: (c2, o2) :: tl) →
      wpAny (model prog w) A (assign (.Tuple elts k pos) env (.ref T)) (fun _ s₂ => wpAny (model prog w) A (execs body env) (Turn2 h₀ env.locals I du nb c1 c2 e1 e2 (listOf vs.toArray cnt) m₀ a x ls ds { s with heap := h, toks := tk }) E s₂) E { s with heap := h, toks := tk })
    (done : ∀ (lf : Addr) (lv : List Value) (lc : Nat) (dv : List Value) (dc : Nat) (o1 o2 : Obj) (tl : List (Addr × Obj)) (u : Str → Option Value) (h : Heap) (tk : Nat),
      DatAll tl dv (TOT.map datOf) → (∀ p ∈ tl, TupObj p.2) →
      Fr h₀ env.locals h (fun y => if y = Str.ofString "at" then u y else if y = Str.ofString "left" then some (.ref lf) else m₀ y) →
      News h₀ env.locals h ((lf, listOf lv.toArray lc) :: (du, listOf dv.toArray dc) :: (nb, listOf vs.toArray cnt) :: (c1, o1) :: (c2, o2) :: tl) → Q .next { s with heap := h, toks := tk }) :
    ∀ (vs' : List Value) (ns' : List Int) (a : Nat) (ls : List Int) (ds : List (Int × Int)) (lf : Addr) (lv : List Value) (lc : Nat) (dv : List Value) (dc : Nat) (o1 o2 : Obj) (x1 x2 : Option Value) (tl : List (Addr × Obj)) (m : Str → Option Value),
      IntsAre vs' ns' → (∀ x ∈ ns', 0 ≤ x ∧ x < 8) → ls.length < 15 → ds.length + ns'.length < 13 → run2 a ns' ls ds = TOT → IntsAre lv ls → DatAll tl dv (ds.map datOf) → (∀ p ∈ tl, TupObj p.2) → o1.data = .cell x1 → o2.data = .cell x2 → (@Ne Nat lf du ∧ @Ne Nat lf nb) →
      m (Str.ofString "left") = some (.ref lf) → (∀ z, z ≠ Str.ofString "at" → z ≠ Str.ofString "left" → m z = m₀ z) →
      ItemsRest prog w A E h₀ env (.Tuple elts k pos) body Q s [(I + 1, "enumerate"), (I, "list_iterator")] [(nb, listOf vs.toArray cnt)] (enumItems a vs') m ((lf, listOf lv.toArray lc) :: (du, listOf dv.toArray dc) :: (nb, listOf vs.toArray cnt) :: (c1, o1) :: (c2, o2) :: tl) := by
  have frm : ∀ (lf : Addr) (m : Str → Option Value) (h : Heap), m (Str.ofString "left") = some (.ref lf) → (∀ z, z ≠ Str.ofString "at" → z ≠ Str.ofString "left" → m z = m₀ z) → Fr h₀ env.locals h m →
      Fr h₀ env.locals h (fun y => if y = Str.ofString "at" then m y else if y = Str.ofString "left" then some (.ref lf) else m₀ y) := by
    intro lf m h h1 h2 F
    have e : (fun y => if y = Str.ofString "at" then m y else if y = Str.ofString "left" then some (.ref lf) else m₀ y) = m := by
      funext y
      by_cases ha : y = Str.ofString "at"
      · rw [if_pos ha]
      · rw [if_neg ha]
        by_cases hl : y = Str.ofString "left"
        · rw [if_pos hl, hl, h1]
        · rw [if_neg hl, h2 y ha hl]
    rw [e]
    exact F
  intro vs'
  induction vs' with
  | nil =>
    intro ns' a ls ds lf lv lc dv dc o1 o2 x1 x2 tl m hi hx h15 hd hT hl hD hO d1 d2 hne hm hz
    cases hi
    refine ItemsRest.zero fun h tk F N => ?_
    have e : ds = TOT := hT
    subst e
    exact done lf lv lc dv dc o1 o2 tl m h tk hD hO (frm lf m h hm hz F) N
  | cons v r ih =>
    intro ns' a ls ds lf lv lc dv dc o1 o2 x1 x2 tl m hi hx h15 hd hT hl hD hO d1 d2 hne hm hz
    cases hi with
    | @cons x tx _ ns'' hi =>
    refine ItemsRest.pair fun T t h tk hTup F => ?_
    refine AllObj.cons fun e1 c1' => AllObj.cons fun e2 c2' => AllObj.nil ?_
    intro N
    replace c1' : e1.cls = .type "enumerate" := c1'
    replace c2' : e2.cls = .type "list_iterator" := c2'
    have hdl : dv.length = ds.length := by rw [hD.length, List.length_map]
    have N₁ : News h₀ env.locals h ((I + 1, e1) :: (I, e2) :: (lf, listOf lv.toArray lc) :: (du, listOf dv.toArray dc) :: (nb, listOf vs.toArray cnt) :: (c1, o1) :: (c2, o2) :: tl) := N
    have e1L : ∀ its n, e1 ≠ listOf its n := fun its n e => by rw [e] at c1'; exact absurd c1' (by show ¬ Value.type "list" = Value.type "enumerate"; decide)
    have e2L : ∀ its n, e2 ≠ listOf its n := fun its n e => by rw [e] at c2'; exact absurd c2' (by show ¬ Value.type "list" = Value.type "list_iterator"; decide)
    have cL : ∀ (o : Obj) x, o.data = .cell x → ∀ its n, o ≠ listOf its n := fun o x d its n e => by rw [e] at d; cases d
    have tL : ∀ (o : Obj), TupObj o → ∀ its n, o ≠ listOf its n := by
      rintro o ⟨its, n, rfl⟩ its' n' e
      have := congrArg Obj.cls e
      exact absurd this (by show ¬ Value.type "tuple" = Value.type "list"; decide)
    have i0 : ((I + 1, e1) : Addr × Obj) ∈ ((I + 1, e1) :: (I, e2) :: (lf, listOf lv.toArray lc) :: (du, listOf dv.toArray dc) :: (nb, listOf vs.toArray cnt) :: (c1, o1) :: (c2, o2) :: tl) := by simp
    have i1 : ((I, e2) : Addr × Obj) ∈ ((I + 1, e1) :: (I, e2) :: (lf, listOf lv.toArray lc) :: (du, listOf dv.toArray dc) :: (nb, listOf vs.toArray cnt) :: (c1, o1) :: (c2, o2) :: tl) := by simp
    have i2 : ((lf, listOf lv.toArray lc) : Addr × Obj) ∈ ((I + 1, e1) :: (I, e2) :: (lf, listOf lv.toArray lc) :: (du, listOf dv.toArray dc) :: (nb, listOf vs.toArray cnt) :: (c1, o1) :: (c2, o2) :: tl) := by simp
    have i3 : ((du, listOf dv.toArray dc) : Addr × Obj) ∈ ((I + 1, e1) :: (I, e2) :: (lf, listOf lv.toArray lc) :: (du, listOf dv.toArray dc) :: (nb, listOf vs.toArray cnt) :: (c1, o1) :: (c2, o2) :: tl) := by simp
    have i4 : ((nb, listOf vs.toArray cnt) : Addr × Obj) ∈ ((I + 1, e1) :: (I, e2) :: (lf, listOf lv.toArray lc) :: (du, listOf dv.toArray dc) :: (nb, listOf vs.toArray cnt) :: (c1, o1) :: (c2, o2) :: tl) := by simp
    have i5 : ((c1, o1) : Addr × Obj) ∈ ((I + 1, e1) :: (I, e2) :: (lf, listOf lv.toArray lc) :: (du, listOf dv.toArray dc) :: (nb, listOf vs.toArray cnt) :: (c1, o1) :: (c2, o2) :: tl) := by simp
    have i6 : ((c2, o2) : Addr × Obj) ∈ ((I + 1, e1) :: (I, e2) :: (lf, listOf lv.toArray lc) :: (du, listOf dv.toArray dc) :: (nb, listOf vs.toArray cnt) :: (c1, o1) :: (c2, o2) :: tl) := by simp
    have it : ∀ p ∈ tl, p ∈ ((I + 1, e1) :: (I, e2) :: (lf, listOf lv.toArray lc) :: (du, listOf dv.toArray dc) :: (nb, listOf vs.toArray cnt) :: (c1, o1) :: (c2, o2) :: tl) := fun p hp => by simp [hp]
    have hc1 : I ≠ c1 ∧ I + 1 ≠ c1 := ⟨Nat.ne_of_gt hc.1, Nat.ne_of_gt (Nat.lt_succ_of_lt hc.1)⟩
    have hc2 : I ≠ c2 ∧ I + 1 ≠ c2 := ⟨Nat.ne_of_gt hc.2, Nat.ne_of_gt (Nat.lt_succ_of_lt hc.2)⟩
    have ap : Apart2 I lf du nb c1 c2 := ⟨⟨apart_obj N₁ i0 i2 (e1L _ _), apart_obj N₁ i1 i2 (e2L _ _), apart_obj N₁ i0 i3 (e1L _ _), apart_obj N₁ i1 i3 (e2L _ _), apart_obj N₁ i0 i4 (e1L _ _), apart_obj N₁ i1 i4 (e2L _ _), hc1.2, hc1.1, hc2.2, hc2.1⟩,
      ⟨hne.1, hne.2, apart_obj N₁ i2 i5 (cL _ _ d1 _ _).symm, apart_obj N₁ i2 i6 (cL _ _ d2 _ _).symm, hdn.1, apart_obj N₁ i3 i5 (cL _ _ d1 _ _).symm, apart_obj N₁ i3 i6 (cL _ _ d2 _ _).symm, apart_obj N₁ i4 i5 (cL _ _ d1 _ _).symm, apart_obj N₁ i4 i6 (cL _ _ d2 _ _).symm, hdn.2⟩⟩
    have off : OwnOff tl [I + 1, I, lf, du, nb, c1, c2] := by
      rintro ⟨b, o⟩ hp c hcm
      have ht := hO _ hp
      have tE : ∀ (e : Obj) (n : String), e.cls = .type n → n ≠ "tuple" → o ≠ e := by
        rintro e n hn hnt rfl
        obtain ⟨its, k, rfl⟩ := ht
        exact hnt (Value.type.inj hn).symm
      have tC : ∀ (e : Obj) x, e.data = .cell x → o ≠ e := by
        rintro e x hd rfl
        obtain ⟨its, k, rfl⟩ := ht
        cases hd
      simp only [List.mem_cons, List.not_mem_nil, or_false] at hcm
      rcases hcm with rfl | rfl | rfl | rfl | rfl | rfl | rfl
      · exact apart_obj N₁ (it _ hp) i0 (tE _ _ c1' (by decide))
      · exact apart_obj N₁ (it _ hp) i1 (tE _ _ c2' (by decide))
      · exact apart_obj N₁ (it _ hp) i2 (tL _ ht _ _)
      · exact apart_obj N₁ (it _ hp) i3 (tL _ ht _ _)
      · exact apart_obj N₁ (it _ hp) i4 (tL _ ht _ _)
      · exact apart_obj N₁ (it _ hp) i5 (tC _ _ d1)
      · exact apart_obj N₁ (it _ hp) i6 (tC _ _ d2)
    have hx0 := hx x (List.mem_cons_self ..)
    refine wpAny_mono (turn kstMark a x NumIs.mk ls ds lf lv lc dv dc o1 o2 e1 e2 x1 x2 tl T t tx m h tk hx0 h15 (by simp only [List.length_cons] at hd; omega) hl hD hO d1 d2 off ap hTup (frm lf m h hm hz F) N₁) (fun _ s₂ h₂ => wpAny_mono h₂ (fun f s₃ p => ?_) fun _ _ e => e) fun _ _ e => e
    obtain ⟨hf, lf', lv', ls', lc', dv', ds', dc', o1', o2', x1', x2', tl', m', h', tk', rfl, F', N', hl', hD', hO', d1', d2', hne', hst, hm', hz'⟩ := p
    have hls : ls' = (step2 a x ls ds).1 := congrArg Prod.fst hst
    have hds : ds' = (step2 a x ls ds).2 := congrArg Prod.snd hst
    have q1 := step2_len1 a x ls ds
    have q2 := step2_len2 a x ls ds
    have rest := ih ns'' (a + 1) ls' ds' lf' lv' lc' dv' dc' o1' o2' x1' x2' tl' m' hi (fun y hy => hx y (List.mem_cons_of_mem _ hy)) (by rw [hls]; omega) (by rw [hds]; simp only [List.length_cons] at hd; omega) (by rw [hls, hds]; exact hT) hl' hD' hO' d1' d2' hne' hm' hz'
    have fin : UnrEndW h₀ env.locals { s with heap := h, toks := tk } [(I + 1, e1), (I, e2)] (fun m' n' => SubL [(nb, listOf vs.toArray cnt)] n' ∧ ItemsRest prog w A E h₀ env (.Tuple elts k pos) body Q s [(I + 1, "enumerate"), (I, "list_iterator")] [(nb, listOf vs.toArray cnt)] (enumItems (a + 1) r) m' n') { s with heap := h', toks := tk' } := by
      refine ⟨h', tk', m', _, rfl, F', N', ?_, ⟨by simp, trivial⟩, rest⟩
      have j0 : ((I + 1, e1) : Addr × Obj) ∈ ((I + 1, e1) :: (I, e2) :: (lf', listOf lv'.toArray lc') :: (du, listOf dv'.toArray dc') :: (nb, listOf vs.toArray cnt) :: (c1, o1') :: (c2, o2') :: tl') := by simp
      have j1 : ((I, e2) : Addr × Obj) ∈ ((I + 1, e1) :: (I, e2) :: (lf', listOf lv'.toArray lc') :: (du, listOf dv'.toArray dc') :: (nb, listOf vs.toArray cnt) :: (c1, o1') :: (c2, o2') :: tl') := by simp
      have key : ∀ p ∈ ((lf', listOf lv'.toArray lc') :: (du, listOf dv'.toArray dc') :: (nb, listOf vs.toArray cnt) :: (c1, o1') :: (c2, o2') :: tl' : List (Addr × Obj)), p.1 ≠ I + 1 ∧ p.1 ≠ I := by
        intro p hp
        have hp' : p ∈ ((I + 1, e1) :: (I, e2) :: (lf', listOf lv'.toArray lc') :: (du, listOf dv'.toArray dc') :: (nb, listOf vs.toArray cnt) :: (c1, o1') :: (c2, o2') :: tl') := List.mem_cons_of_mem _ (List.mem_cons_of_mem _ hp)
        have byL : (∃ its n, p.2 = listOf its n) → p.1 ≠ I + 1 ∧ p.1 ≠ I := by
          rintro ⟨its, n, e⟩
          exact ⟨apart_obj (o := p.2) N' hp' j0 (by rw [e]; exact (e1L _ _).symm), apart_obj (o := p.2) N' hp' j1 (by rw [e]; exact (e2L _ _).symm)⟩
        simp only [List.mem_cons] at hp
        rcases hp with rfl | rfl | rfl | rfl | rfl | hp
        · exact byL ⟨_, _, rfl⟩
        · exact byL ⟨_, _, rfl⟩
        · exact byL ⟨_, _, rfl⟩
        · exact ⟨Ne.symm hc1.2, Ne.symm hc1.1⟩
        · exact ⟨Ne.symm hc2.2, Ne.symm hc2.1⟩
        · have ht := hO' _ hp
          have tE : ∀ (e : Obj) (n : String), e.cls = .type n → n ≠ "tuple" → p.2 ≠ e := by
            intro e n hn hnt hpe
            obtain ⟨its, k, e9⟩ := ht
            rw [hpe] at e9
            rw [e9] at hn
            exact hnt (Value.type.inj hn).symm
          exact ⟨apart_obj (o := p.2) N' hp' j0 (tE _ _ c1' (by decide)), apart_obj (o := p.2) N' hp' j1 (tE _ _ c2' (by decide))⟩
      intro p hp q hq
      simp only [List.mem_cons, List.not_mem_nil, or_false] at hq
      rcases hq with rfl | rfl
      · exact (key p hp).1
      · exact (key p hp).2
    rcases hf with rfl | rfl
    · exact fin
    · exact fin
end

theorem loop2 {prog : Program} {w : World} {A : Around} {E : Value → Shared → Prop} {s : Shared} {env : Env} {h₀ : Heap} {body : List Stmt} {Q : Flow → Shared → Prop}
    {elts : List Expr} {k : Nat} {pos : Pos} {D1 du lf D2 nb p c1 c2 : Addr} {oD1 oD2 op o1 o2 : Obj} {lv vs : List Value} {ls ns : List Int} {lc cnt : Nat} {x1 x2 : Option Value} {m₀ : Str → Option Value}
    (F : Fr h₀ env.locals s.heap m₀) (N : News h₀ env.locals s.heap [(D1, oD1), (du, listOf #[] 0), (lf, listOf lv.toArray lc), (D2, oD2), (nb, listOf vs.toArray cnt), (p, op), (c1, o1), (c2, o2)])
    (hh : A.handled = none) (hi : IntsAre vs ns) (hl : IntsAre lv ls) (d1 : o1.data = .cell x1) (d2 : o2.data = .cell x2) (hleft : m₀ (Str.ofString "left") = some (.ref lf))
    (hne : (@Ne Nat lf du ∧ @Ne Nat lf nb) ∧ (@Ne Nat du nb ∧ @Ne Nat c1 c2)) (hx : ∀ x ∈ ns, 0 ≤ x ∧ x < 8) (h15 : ls.length < 15) (hlen : ns.length < 13)
    (turn : KstMark → ∀ (I : Addr) (a : Nat) (x : Int) (_ : NumIs x) (ls : List Int) (ds : List (Int × Int)) (lf : Addr) (lv : List Value) (lc : Nat) (dv : List Value) (dc : Nat) (o1 o2 e1 e2 : Obj) (x1 x2 : Option Value) (tl : List (Addr × Obj)) (T : Addr) (t tx : Tok) (u : Str → Option Value) (h : Heap) (tk : Nat),
      (0 ≤ x ∧ x < 8) → ls.length < 15 → dv.length < 13 → IntsAre lv ls → DatAll tl dv (ds.map datOf) → (∀ p ∈ tl, TupObj p.2) → o1.data = .cell x1 → o2.data = .cell x2 → OwnOff tl [I + 1, I, lf, du, nb, c1, c2] → Apart2 I lf du nb c1 c2 → IsTup h T #[.int a t, .int x tx] →
      Fr h₀ env.locals h (fun y => if y = Str.ofString "at" then u y else if y = Str.ofString "left" then some (.ref lf) else m₀ y) →
      News h₀ env.locals h ((I + 1, e1) :: (I, e2) :: (lf, listOf lv.toArray lc) :: (du, listOf dv.toArray dc) :: (nb, listOf vs.toArray cnt) :: (c1, o1) :: (c2, o2) :: tl) →
      wpAny (model prog w) A (assign (.Tuple elts k pos) env (.ref T)) (fun _ s₂ => wpAny (model prog w) A (execs body env) (Turn2 h₀ env.locals I du nb c1 c2 e1 e2 (listOf vs.toArray cnt) m₀ a x ls ds { s with heap := h, toks := tk }) E s₂) E { s with heap := h, toks := tk })
    (done : KstMark → ∀ (lf : Addr) (lv : List Value) (lc : Nat) (dv : List Value) (dc : Nat) (o1 o2 : Obj) (tl : List (Addr × Obj)) (u : Str → Option Value) (h : Heap) (tk : Nat),
      DatAll tl dv ((run2 0 ns ls []).map datOf) → (∀ p ∈ tl, TupObj p.2) →
      Fr h₀ env.locals h (fun y => if y = Str.ofString "at" then u y else if y = Str.ofString "left" then some (.ref lf) else m₀ y) →
      News h₀ env.locals h ((lf, listOf lv.toArray lc) :: (du, listOf dv.toArray dc) :: (nb, listOf vs.toArray cnt) :: (c1, o1) :: (c2, o2) :: tl) → Q .next { s with heap := h, toks := tk }) :
    wpAny (model prog w) A (call (.type "enumerate") [.ref nb]) (fun xv s₁ => wpAny (model prog w) A (pyIter xv) (fun it s₂ => TurnsAt prog w A h₀ env (.Tuple elts k pos) body Q E it s₂) E s₁) E s := by
  have N' : News h₀ env.locals s.heap ((lf, listOf lv.toArray lc) :: (du, listOf #[] 0) :: (nb, listOf vs.toArray cnt) :: (c1, o1) :: (c2, o2) :: []) := by
    intro q hq
    refine N q ?_
    simp only [List.mem_cons, List.not_mem_nil, or_false] at hq ⊢
    rcases hq with h | h | h | h | h <;> simp [h]
  refine ktu_enum (lo := listOf vs.toArray cnt) hh F N' (by simp) rfl rfl rfl fun I hI => ?_
  refine rest2 (du := du) (nb := nb) (c1 := c1) (c2 := c2) (TOT := run2 0 ns ls []) ⟨hI (c1, o1) (by simp), hI (c2, o2) (by simp)⟩ hne.2 (fun mk => turn mk I) (done kstMark) vs ns 0 ls [] lf lv lc [] 0 o1 o2 x1 x2 [] m₀ hi hx h15 (by simpa using hlen) rfl hl .nil (fun _ h => nomatch h) d1 d2 hne.1 hleft fun _ _ _ => rfl

theorem menu_b (k : Nat) : 0 ≤ ([0, 0, 0, 1, 2, 5, 7, 0] : List Int).getD k 0 ∧ ([0, 0, 0, 1, 2, 5, 7, 0] : List Int).getD k 0 ≤ 7 := by
  match k with
  | 0 | 1 | 2 | 3 | 4 | 5 | 6 | 7 => decide
  | k + 8 => exact ⟨Int.le_refl 0, (by decide : (0 : Int) ≤ 7)⟩

theorem st_b {st : Int} {n k : Nat} (h : 0 ≤ st ∧ st ≤ 19 + 8 * (n : Int)) : 0 ≤ st + ([0, 0, 0, 1, 2, 5, 7, 0] : List Int).getD k 0 + 1 ∧ st + ([0, 0, 0, 1, 2, 5, 7, 0] : List Int).getD k 0 + 1 ≤ 19 + 8 * ((n : Int) + 1) := by
  have := menu_b k
  omega
theorem ints_snoc : ∀ {us : List Value} {ms : List Int} (n : Int) (t : Tok), IntsAre us ms → IntsAre (us ++ [.int n t]) (ms ++ [n])
  | _, _, n, t, .nil => .cons n t .nil
  | _, _, n, t, .cons a b h => .cons a b (ints_snoc n t h)

theorem turn1_end {h₀ : Heap} {L D l p c1 c2 : Addr} {oD o1 o2 : Obj} {m₀ m' : Str → Option Value} {own news' : List (Addr × Obj)} {vs : List Value} {ns : List Int} {s : Shared} {h' : Heap} {tk' : Nat} {x : Int} {t : Tok} {cnt : Nat} {a b st : Int} {ta tb ts : Tok} {n : Nat}
    (F' : Fr h₀ L h' m') (N' : News h₀ L h' news') (hi : IntsAre vs ns) (i1 : (D, oD) ∈ news') (i2 : (l, listOf (vs.toArray.push (.int x t)) cnt) ∈ news') (i3 : (p, listOf [.int a ta, .int b tb].toArray n) ∈ news') (i4 : (c1, o1) ∈ news') (i5 : (c2, o2) ∈ news')
    (io : ∀ q ∈ own, q ∈ news') (hm : m' (Str.ofString "step") = some (.int st ts)) (hx : 0 ≤ x ∧ x < 8) (hab : 0 ≤ a ∧ 0 ≤ b ∧ b < 65286) (hst : 0 ≤ st ∧ st ≤ 19 + 8 * (ns.length + 1 : Int)) (hz : ∀ z, z ≠ Str.ofString "turn" → z ≠ Str.ofString "step" → m' z = m₀ z) :
    Turn1 h₀ L D l p c1 c2 oD o1 o2 m₀ own ns s .next { s with heap := h', toks := tk' } := by
  refine ⟨.inl rfl, a, ta, b, tb, n, vs ++ [.int x t], x, cnt, st, ts, m', h', tk', rfl, F', ?_, ints_snoc x t hi, hx, hab, hst, hm, hz⟩
  have e : (vs ++ [Value.int x t]).toArray = vs.toArray.push (.int x t) := by simp
  rw [e]
  intro q hq
  refine N' q ?_
  rcases List.mem_append.mp hq with hq | hq
  · simp only [List.mem_cons, List.not_mem_nil, or_false] at hq
    rcases hq with rfl | rfl | rfl | rfl | rfl
    · exact i1
    · exact i2
    · exact i3
    · exact i4
    · exact i5
  · exact io q hq

theorem some_sub {prog : Program} {w : World} {A : Around} {E : Value → Shared → Prop} {s : Shared} {h₀ : Heap} {L D : Addr} {news : List (Addr × Obj)} {vs : List Value} {q : List Int} {n : Nat} {u : Tok} {value slice : PySem.Expr} {Q : Value → Shared → Prop} (mk0 : SomeIs q)
    (N : News h₀ L s.heap news) (hm : (D, listOf vs.toArray n) ∈ news) (hi : IntsAre vs q) (hne : decide (q = []) = false) (h : ∀ t, Q (.int (q.getD 0 0) t) s)
    (hs : subscripted slice false (.ref D) (.int 0 u) = operate [.ref D, .int 0 u] (getItem (.ref D) (.int 0 u)) := by with_unfolding_all rfl) :
    wpAny (model prog w) A (subscriptTail value slice (.ref D) (.int 0 u)) Q E s := by
  have h0 : q ≠ [] := by simpa using hne
  have h1 : 0 < q.length := List.length_pos_iff.mpr h0
  exact ksa_sub N hm hi (Int.le_refl 0) (by omega) (by decide) h hs

theorem turn2_same {h₀ : Heap} {L I du nb c1 c2 : Addr} {e1 e2 onb : Obj} {m₀ m' : Str → Option Value} {a x : Int} {ls : List Int} {ds : List (Int × Int)} {s : Shared} {h' : Heap} {tk' : Nat} {news' : List (Addr × Obj)}
    {lf : Addr} {lv : List Value} {lc : Nat} {dv : List Value} {dc : Nat} {o1 o2 : Obj} {x1 x2 : Option Value} {tl : List (Addr × Obj)} {ms : List Int}
    (hms : ms = ls.filter (fun n => ((n + 7).fmod 8 == x))) (hd : decide (ms = []) = true)
    (F' : Fr h₀ L h' m') (N' : News h₀ L h' news') (hm : m' (Str.ofString "left") = some (.ref lf)) (i0 : (I + 1, e1) ∈ news') (i1 : (I, e2) ∈ news') (i2 : (lf, listOf lv.toArray lc) ∈ news') (i3 : (du, listOf dv.toArray dc) ∈ news') (i4 : (nb, onb) ∈ news') (i5 : (c1, o1) ∈ news') (i6 : (c2, o2) ∈ news') (it : ∀ q ∈ tl, q ∈ news')
    (hl : IntsAre lv ls) (hD : DatAll tl dv (ds.map datOf)) (hO : ∀ p ∈ tl, TupObj p.2) (d1 : o1.data = .cell x1) (d2 : o2.data = .cell x2) (hne : @Ne Nat lf du ∧ @Ne Nat lf nb)
    (hz : ∀ z, z ≠ Str.ofString "at" → z ≠ Str.ofString "left" → m' z = m₀ z) :
    Turn2 h₀ L I du nb c1 c2 e1 e2 onb m₀ a x ls ds s .next { s with heap := h', toks := tk' } := by
  refine ⟨.inl rfl, lf, lv, ls, lc, dv, ds, dc, o1, o2, x1, x2, tl, m', h', tk', rfl, F', ?_, hl, hD, hO, d1, d2, hne, ?_, hm, hz⟩
  · intro q hq
    refine N' q ?_
    simp only [List.mem_cons] at hq
    rcases hq with rfl | rfl | rfl | rfl | rfl | rfl | rfl | hq
    · exact i0
    · exact i1
    · exact i2
    · exact i3
    · exact i4
    · exact i5
    · exact i6
    · exact it q hq
  · have h0 : ls.filter (fun n => ((n + 7).fmod 8 == x)) = [] := by rw [← hms]; simpa using hd
    unfold step2
    rw [if_pos h0]

theorem turn2_new {h₀ : Heap} {L I du nb c1 c2 T : Addr} {e1 e2 onb : Obj} {m₀ m' : Str → Option Value} {a x : Int} {ls : List Int} {ds : List (Int × Int)} {s : Shared} {h' : Heap} {tk' : Nat} {news' : List (Addr × Obj)}
    {lf : Addr} {lv : List Value} {lc : Nat} {dv : List Value} {dc k : Nat} {o1 o2 : Obj} {x1 x2 : Option Value} {tl : List (Addr × Obj)} {ms ls' : List Int} {ta tb : Tok}
    (hms : ms = ls.filter (fun n => ((n + 7).fmod 8 == x))) (hd : decide (ms = []) = false) (hls : ls' = ls.filter (fun n => decide (ms.getD 0 0 < n)))
    (F' : Fr h₀ L h' m') (N' : News h₀ L h' news') (hm : m' (Str.ofString "left") = some (.ref lf)) (i0 : (I + 1, e1) ∈ news') (i1 : (I, e2) ∈ news') (i2 : (lf, listOf lv.toArray lc) ∈ news') (i3 : (du, listOf (dv.toArray.push (.ref T)) dc) ∈ news') (i4 : (nb, onb) ∈ news') (i5 : (c1, o1) ∈ news') (i6 : (c2, o2) ∈ news') 
    (iT : (T, ({ cls := .type "tuple", data := .seq [.int a ta, .int (ms.getD 0 0) tb].toArray k } : Obj)) ∈ news') (it : ∀ q ∈ tl, q ∈ news')
    (hl : IntsAre lv ls') (hD : DatAll tl dv (ds.map datOf)) (hO : ∀ p ∈ tl, TupObj p.2) (d1 : o1.data = .cell x1) (d2 : o2.data = .cell x2) (hne : @Ne Nat lf du ∧ @Ne Nat lf nb)
    (hz : ∀ z, z ≠ Str.ofString "at" → z ≠ Str.ofString "left" → m' z = m₀ z) :
    Turn2 h₀ L I du nb c1 c2 e1 e2 onb m₀ a x ls ds s .next { s with heap := h', toks := tk' } := by
  refine ⟨.inl rfl, lf, lv, ls', lc, dv ++ [.ref T], ds ++ [(a, ms.getD 0 0)], dc, o1, o2, x1, x2, (T, ({ cls := .type "tuple", data := .seq [.int a ta, .int (ms.getD 0 0) tb].toArray k } : Obj)) :: tl, m', h', tk', rfl, F', ?_, hl, ?_, ?_, d1, d2, hne, ?_, hm, hz⟩
  · have e : (dv ++ [Value.ref T]).toArray = dv.toArray.push (.ref T) := by simp
    rw [e]
    intro q hq
    refine N' q ?_
    simp only [List.mem_cons] at hq
    rcases hq with rfl | rfl | rfl | rfl | rfl | rfl | rfl | rfl | hq
    · exact i0
    · exact i1
    · exact i2
    · exact i3
    · exact i4
    · exact i5
    · exact i6
    · exact iT
    · exact it q hq
  · rw [List.map_append]
    refine DatAll.append (DatAll.mono (fun p hp => List.mem_cons_of_mem _ hp) hD) (DatAll.one ?_)
    exact DatIn.tuple (List.mem_cons_self ..) (.cons (.int _ _) (.cons (.int _ _) .nil))
  · intro p hp
    rcases List.mem_cons.mp hp with rfl | hp
    · exact ⟨_, _, rfl⟩
    · exact hO p hp
  · have h0 : ¬ ls.filter (fun n => ((n + 7).fmod 8 == x)) = [] := by rw [← hms]; simpa using hd
    unfold step2
    rw [if_neg h0, ← hms, hls]

def step3 (a x idx lim : Int) (fs : List (Int × Int)) : Int × List (Int × Int) :=
  if idx + (x - idx + 1).fmod 8 < lim then (idx + (x - idx + 1).fmod 8 + 1, fs ++ [(a, idx + (x - idx + 1).fmod 8)]) else (idx, fs)
def run3 : Nat → List Int → Int → Int → List (Int × Int) → Int × List (Int × Int)
  | _, [], idx, _, fs => (idx, fs)
  | a, x :: xs, idx, lim, fs => run3 (a + 1) xs (step3 a x idx lim fs).1 lim (step3 a x idx lim fs).2
theorem run3_snoc (x lim : Int) : ∀ (xs : List Int) (a : Nat) (idx : Int) (fs : List (Int × Int)),
    run3 a (xs ++ [x]) idx lim fs = step3 ((a + xs.length : Nat) : Int) x (run3 a xs idx lim fs).1 lim (run3 a xs idx lim fs).2
  | [], a, idx, fs => rfl
  | y :: ys, a, idx, fs => by
    show run3 (a + 1) (ys ++ [x]) _ lim _ = _
    rw [run3_snoc x lim ys (a + 1)]
    have e : a + 1 + ys.length = a + (y :: ys).length := by simp only [List.length_cons]; omega
    rw [e]
    rfl
theorem step3_len (a x idx lim : Int) (fs : List (Int × Int)) : (step3 a x idx lim fs).2.length ≤ fs.length + 1 := by
  unfold step3
  split
  · simp
  · exact Nat.le_succ _

structure C3 where
  fv : List Value
  fs : List (Int × Int)
  fc : Nat
  idx : Int
  ti : Tok

def Turn3 (h₀ : Heap) (L fd du nb : Addr) (odu onb : Obj) (tl tl' own : List (Addr × Obj)) (m₀ : Str → Option Value) (k x idx lim : Int) (fs : List (Int × Int)) (s : Shared) (f : Flow) (s₂ : Shared) : Prop :=
  (f = .next ∨ f = .cont) ∧ ∃ (fv : List Value) (fs' : List (Int × Int)) (fc : Nat) (idx' : Int) (ti : Tok) (add : List (Addr × Obj)) (m' : Str → Option Value) (h : Heap) (tk : Nat),
    s₂ = { s with heap := h, toks := tk } ∧ Fr h₀ L h m' ∧ News h₀ L h ((fd, listOf fv.toArray fc) :: (du, odu) :: (nb, onb) :: (add ++ (tl ++ (tl' ++ own)))) ∧ DatAll (add ++ tl') fv (fs'.map datOf) ∧ (∀ p ∈ add, TupObj p.2) ∧
    (∀ q ∈ add, (@LT.lt Nat _ fd q.1 ∧ @LT.lt Nat _ du q.1 ∧ @LT.lt Nat _ nb q.1) ∧ AllLt q.1 (tl ++ (tl' ++ own))) ∧ (idx', fs') = step3 k x idx lim fs ∧
    m' (Str.ofString "index") = some (.int idx' ti) ∧ ∀ z, z ≠ Str.ofString "at" → z ≠ Str.ofString "index" → z ≠ Str.ofString "skipped" → m' z = m₀ z

theorem tup_off {h₀ h : Heap} {L b : Addr} {news : List (Addr × Obj)} {its : Array Value} {n : Nat} (N : News h₀ L h news) (hb : (b, listOf its n) ∈ news) : ∀ p ∈ news, TupObj p.2 → p.1 ≠ b := by
  rintro ⟨a, o⟩ hp ⟨its', n', rfl⟩
  refine apart_obj N hp hb fun e => ?_
  have := congrArg Obj.cls e
  exact absurd this (by show ¬ Value.type "tuple" = Value.type "list"; decide)

theorem loop3 {prog : Program} {w : World} {A : Around} {E : Value → Shared → Prop} {s : Shared} {env : Env} {h₀ : Heap} {body : List Stmt} {Q : Flow → Shared → Prop}
    {r D3 fd lf du nb c1 c2 : Addr} {oD3 olf o1 o2 : Obj} {dv vs : List Value} {ns : List Int} {dc cnt : Nat} {t₀ u₀ v₀ : Tok} {tl : List (Addr × Obj)} {m₀ : Str → Option Value} {idx0 f mn : Int} {ti tf tm : Tok}
    (F : Fr h₀ env.locals s.heap m₀) (N : News h₀ env.locals s.heap ((D3, oD3) :: (fd, listOf #[] 0) :: (lf, olf) :: (du, listOf dv.toArray dc) :: (nb, listOf vs.toArray cnt) :: (c1, o1) :: (c2, o2) :: tl))
    (hr : IsRange s.heap r 0 (ns.length : Int) 1 t₀ u₀ v₀) (hh : A.handled = none) (hi : IntsAre vs ns) (hlen : ns.length < 13) (hO : ∀ p ∈ tl, TupObj p.2)
    (hix : m₀ (Str.ofString "index") = some (.int idx0 ti)) (hf : m₀ (Str.ofString "first") = some (.int f tf)) (hmn : m₀ (Str.ofString "many") = some (.int mn tm))
    (hne : (@Ne Nat fd du ∧ @Ne Nat fd nb) ∧ @Ne Nat du nb)
    (turn : KstMark → ∀ (k : Int) (t : Tok) (idx : Int) (ti : Tok) (fs : List (Int × Int)) (fv : List Value) (fc : Nat) (u : Str → Option Value) (h : Heap) (tk : Nat) (tl' own : List (Addr × Obj)),
      (0 ≤ k ∧ k < (ns.length : Int)) → fv.length < 13 → DatAll tl' fv (fs.map datOf) → OwnOff (tl ++ (tl' ++ own)) [fd, du, nb] →
      Fr h₀ env.locals h (fun y => if y = Str.ofString "at" then some (.int k t) else if y = Str.ofString "index" then some (.int idx ti) else if y = Str.ofString "skipped" then u y else m₀ y) →
      News h₀ env.locals h ((fd, listOf fv.toArray fc) :: (du, listOf dv.toArray dc) :: (nb, listOf vs.toArray cnt) :: (tl ++ (tl' ++ own))) →
      wpAny (model prog w) A (execs body env) (Turn3 h₀ env.locals fd du nb (listOf dv.toArray dc) (listOf vs.toArray cnt) tl tl' own m₀ k (ns.getD k.toNat 0) idx (f + mn) fs { s with heap := h, toks := tk }) E { s with heap := h, toks := tk })
    (done : KstMark → ∀ (idx : Int) (ti : Tok) (fs : List (Int × Int)) (fv : List Value) (fc : Nat) (u : Str → Option Value) (h : Heap) (tk : Nat) (tl' : List (Addr × Obj)),
      fs = (run3 0 ns idx0 (f + mn) []).2 → fv.length < 13 → DatAll tl' fv (fs.map datOf) → (∀ p ∈ tl', TupObj p.2) →
      Fr h₀ env.locals h (fun y => if y = Str.ofString "at" then u y else if y = Str.ofString "index" then some (.int idx ti) else if y = Str.ofString "skipped" then u y else m₀ y) →
      News h₀ env.locals h ((fd, listOf fv.toArray fc) :: (du, listOf dv.toArray dc) :: (nb, listOf vs.toArray cnt) :: (tl ++ tl')) → Q .next { s with heap := h, toks := tk }) :
    wpAny (model prog w) A (pyIter (.ref r)) (fun it s₂ => LoopAtV prog w A h₀ env (Str.ofString "at") body Q E it s₂) E s := by
  refine kd_range (σ := C3) (n := ns.length) (fun c => [(fd, listOf c.fv.toArray c.fc)]) ((du, listOf dv.toArray dc) :: (nb, listOf vs.toArray cnt) :: tl) (fun c => [(Str.ofString "index", Value.int c.idx c.ti)])
    (fun l c => ∃ tl', l = ((du, listOf dv.toArray dc) :: (nb, listOf vs.toArray cnt) :: tl) ++ tl' ∧ DatAll tl' c.fv (c.fs.map datOf) ∧ ∀ p ∈ tl', TupObj p.2) [Str.ofString "skipped"]
    (fun pre c => (c.idx, c.fs) = run3 0 (ns.take pre.length) idx0 (f + mn) [] ∧ c.fs.length ≤ pre.length) (fd :: du :: nb :: tl.map (·.1)) ⟨[], [], 0, idx0, ti⟩ hh hr
    (small_one (by omega) (by omega) (by omega) (by omega)) (rangeSize_nat _ _) F N ?_ (fun _ => rfl) ?_ ?_ ?_ ?_ ?_
  · intro p hp
    simp only [List.append_nil, List.mem_cons, List.cons_append, List.nil_append, List.not_mem_nil, or_false] at hp ⊢
    rcases hp with h | h | h | h <;> simp [h]
  · exact ⟨[], rfl, .nil, fun _ h => nomatch h⟩
  · intro q hq
    rw [List.mem_singleton.mp hq]
    exact hix
  · exact ⟨rfl, Nat.le_refl _⟩
  · intro c tl₁ pre k t u h tk own ek hlt sep off hF hP F₁ N₁
    obtain ⟨tl', he, hD, hT⟩ := hF
    have he' : tl₁ = tl' := List.append_cancel_left he
    subst he'
    obtain ⟨h1, h2⟩ := hP
    have hk : k = (pre.length : Int) := by omega
    have N₂ : News h₀ env.locals h ((fd, listOf c.fv.toArray c.fc) :: (du, listOf dv.toArray dc) :: (nb, listOf vs.toArray cnt) :: (tl ++ (tl₁ ++ own))) := by simpa using N₁
    have ad : ∀ b ∈ [fd, du, nb], b ∈ (fd :: du :: nb :: tl.map (·.1)) := fun b hb => by
      simp only [List.mem_cons, List.not_mem_nil, or_false] at hb ⊢
      rcases hb with h | h | h <;> simp [h]
    have ob : ∀ b ∈ [fd, du, nb], ∃ its n, (b, listOf its n) ∈ ((fd, listOf c.fv.toArray c.fc) :: (du, listOf dv.toArray dc) :: (nb, listOf vs.toArray cnt) :: (tl ++ (tl₁ ++ own))) := by
      intro b hb
      simp only [List.mem_cons, List.not_mem_nil, or_false] at hb
      rcases hb with rfl | rfl | rfl
      · exact ⟨c.fv.toArray, c.fc, by simp⟩
      · exact ⟨dv.toArray, dc, by simp⟩
      · exact ⟨vs.toArray, cnt, by simp⟩
    have off₂ : OwnOff (tl ++ (tl₁ ++ own)) [fd, du, nb] := by
      intro p hp b hb
      rcases List.mem_append.mp hp with hp' | hp'
      · obtain ⟨its, n, hm⟩ := ob b hb
        exact tup_off N₂ hm p (by simp [hp']) (hO p hp')
      · exact off p hp' b (ad b hb)
    have hfv : c.fv.length = c.fs.length := by rw [hD.length, List.length_map]
    refine wpAny_mono (turn kstMark k t c.idx c.ti c.fs c.fv c.fc (fun y => if y = Str.ofString "skipped" then u y else none) h tk tl₁ own ⟨by omega, by omega⟩ (by omega) hD off₂ ?_ N₂) (fun f' s₂ hT3 => ?_) fun _ _ e => e
    · have e : (fun y => if y = Str.ofString "at" then some (.int k t) else if y = Str.ofString "index" then some (.int c.idx c.ti) else if y = Str.ofString "skipped" then (if y = Str.ofString "skipped" then u y else none) else m₀ y) =
          (fun y => if y = Str.ofString "at" then some (.int k t) else kstB (fun z => if ([Str.ofString "skipped"] : List Str).contains z then u z else m₀ z) [(Str.ofString "index", Value.int c.idx c.ti)] y) := by
        funext y
        show _ = (if y = Str.ofString "at" then some (.int k t) else if y = Str.ofString "index" then some (.int c.idx c.ti) else if ([Str.ofString "skipped"] : List Str).contains y then u y else m₀ y)
        by_cases a1 : y = Str.ofString "at"
        · simp only [if_pos a1]
        · simp only [if_neg a1]
          by_cases a2 : y = Str.ofString "index"
          · simp only [if_pos a2]
          · simp only [if_neg a2]
            by_cases a3 : y = Str.ofString "skipped"
            · simp [a3]
            · simp [a3]
      rw [e]
      exact F₁
    · obtain ⟨hfl, fv', fs', fc', idx', ti', add, m', h', tk', rfl, F', N', hD', hTa, hfr, hst, hm, hz⟩ := hT3
      have hst' : (idx', fs') = run3 0 (ns.take (pre ++ [k]).length) idx0 (f + mn) [] := by
        have hlt' : pre.length < ns.length := hlt
        have e1 : ns.take (pre ++ [k]).length = ns.take pre.length ++ [ns.getD k.toNat 0] := by
          have hk2 : k.toNat = pre.length := by omega
          rw [List.length_append, List.length_singleton, List.take_add_one, List.getElem?_eq_getElem hlt', hk2]
          simp [List.getD, List.getElem?_eq_getElem hlt']
        rw [e1, run3_snoc, ← h1]
        have e2 : ((0 + (ns.take pre.length).length : Nat) : Int) = k := by
          rw [List.length_take]
          omega
        rw [e2]
        exact hst
      have fin : InvEndG h₀ env.locals (KdS (fun c : C3 => [(fd, listOf c.fv.toArray c.fc)]) ((du, listOf dv.toArray dc) :: (nb, listOf vs.toArray cnt) :: tl) (fun c => [(Str.ofString "index", Value.int c.idx c.ti)])
          (fun l c => ∃ tl', l = ((du, listOf dv.toArray dc) :: (nb, listOf vs.toArray cnt) :: tl) ++ tl' ∧ DatAll tl' c.fv (c.fs.map datOf) ∧ ∀ p ∈ tl', TupObj p.2) (Str.ofString "at") [Str.ofString "skipped"] m₀
          (fun pre c => (c.idx, c.fs) = run3 0 (ns.take pre.length) idx0 (f + mn) [] ∧ c.fs.length ≤ pre.length) (fd :: du :: nb :: tl.map (·.1)) (pre ++ [k])) own { s with heap := h, toks := tk } { s with heap := h', toks := tk' } := by
        refine kd_end (s₁ := { s with heap := h, toks := tk }) (⟨fv', fs', fc', idx', ti'⟩ : C3) add sep F' N' ?_ ?_ rfl ?_ ?_ ?_ ?_ ?_ ?_
        · intro p hp
          simp only [List.mem_append, List.mem_cons, List.not_mem_nil, or_false] at hp ⊢
          rcases hp with h | ((h | h | h) | h | h) <;> simp [h]
        · intro p hp
          simp [hp]
        · intro q hq b hb
          obtain ⟨⟨q1, q2, q3⟩, q4⟩ := hfr q hq
          simp only [List.mem_cons] at hb
          rcases hb with rfl | rfl | rfl | hb
          · exact Nat.ne_of_lt q1
          · exact Nat.ne_of_lt q2
          · exact Nat.ne_of_lt q3
          · obtain ⟨p, hp, rfl⟩ := List.mem_map.mp hb
            exact Nat.ne_of_lt (kst_ltOf q4 p (by simp [hp]))
        · intro q hq p hp
          exact Nat.ne_of_lt (kst_ltOf (hfr q hq).2 p (by simp [hp]))
        · intro q hq
          rw [List.mem_singleton.mp hq]
          exact hm
        · intro z hz1 hz2 hz3
          refine hz z hz1 (hz2 _ (List.mem_singleton.mpr rfl)) fun e => ?_
          rw [e] at hz3
          simp at hz3
        · refine ⟨add ++ tl₁, rfl, hD', fun p hp => ?_⟩
          rcases List.mem_append.mp hp with hp | hp
          · exact hTa p hp
          · exact hT p hp
        · refine ⟨hst', ?_⟩
          have e : fs' = (step3 k (ns.getD k.toNat 0) c.idx (f + mn) c.fs).2 := congrArg Prod.snd hst
          have := step3_len k (ns.getD k.toNat 0) c.idx (f + mn) c.fs
          show fs'.length ≤ (pre ++ [k]).length
          rw [e, List.length_append, List.length_singleton]
          omega
      rcases hfl with rfl | rfl
      · exact fin
      · exact fin
  · intro c tl₁ u h tk off hF hP F₁ N₁
    obtain ⟨tl', he, hD, hT⟩ := hF
    have he' : tl₁ = tl' := List.append_cancel_left he
    subst he'
    obtain ⟨h1, h2⟩ := hP
    rw [rangeKs_length, List.take_length] at h1
    rw [rangeKs_length] at h2
    have hfv : c.fv.length = c.fs.length := by rw [hD.length, List.length_map]
    refine done kstMark c.idx c.ti c.fs c.fv c.fc u h tk tl₁ (congrArg Prod.snd h1) (by omega) hD hT ?_ (by simpa using N₁)
    have e : (fun y => if y = Str.ofString "at" then u y else if y = Str.ofString "index" then some (.int c.idx c.ti) else if y = Str.ofString "skipped" then u y else m₀ y) =
        (fun y => if y = Str.ofString "at" then u y else kstB (fun z => if ([Str.ofString "skipped"] : List Str).contains z then u z else m₀ z) [(Str.ofString "index", Value.int c.idx c.ti)] y) := by
      funext y
      show _ = (if y = Str.ofString "at" then u y else if y = Str.ofString "index" then some (.int c.idx c.ti) else if ([Str.ofString "skipped"] : List Str).contains y then u y else m₀ y)
      by_cases a1 : y = Str.ofString "at"
      · simp only [if_pos a1]
      · simp only [if_neg a1]
        by_cases a2 : y = Str.ofString "index"
        · simp only [if_pos a2]
        · simp only [if_neg a2]
          by_cases a3 : y = Str.ofString "skipped"
          · simp [a3]
          · simp [a3]
    rw [e]
    exact F₁

theorem turn3_same {h₀ : Heap} {L fd du nb : Addr} {odu onb : Obj} {tl tl' own : List (Addr × Obj)} {m₀ m' : Str → Option Value} {k x idx lim : Int} {fs : List (Int × Int)} {s : Shared} {h' : Heap} {tk' : Nat} {news' : List (Addr × Obj)} {fv : List Value} {fc : Nat} {ti : Tok}
    (hc : ¬ idx + (x - idx + 1).fmod 8 < lim) (F' : Fr h₀ L h' m') (N' : News h₀ L h' news') (i0 : (fd, listOf fv.toArray fc) ∈ news') (i1 : (du, odu) ∈ news') (i2 : (nb, onb) ∈ news') (it : ∀ p ∈ tl ++ (tl' ++ own), p ∈ news')
    (hD : DatAll tl' fv (fs.map datOf)) (hm : m' (Str.ofString "index") = some (.int idx ti)) (hz : ∀ z, z ≠ Str.ofString "at" → z ≠ Str.ofString "index" → z ≠ Str.ofString "skipped" → m' z = m₀ z) :
    Turn3 h₀ L fd du nb odu onb tl tl' own m₀ k x idx lim fs s .next { s with heap := h', toks := tk' } := by
  refine ⟨.inl rfl, fv, fs, fc, idx, ti, [], m', h', tk', rfl, F', ?_, by simpa using hD, (fun _ h => nomatch h), (fun _ h => nomatch h), ?_, hm, hz⟩
  · intro q hq
    simp only [List.nil_append, List.mem_cons] at hq
    refine N' q ?_
    rcases hq with rfl | rfl | rfl | hq
    · exact i0
    · exact i1
    · exact i2
    · exact it q hq
  · unfold step3
    rw [if_neg hc]

theorem turn3_new {h₀ : Heap} {L fd du nb T : Addr} {odu onb : Obj} {tl tl' own : List (Addr × Obj)} {m₀ m' : Str → Option Value} {k x idx lim : Int} {fs : List (Int × Int)} {s : Shared} {h' : Heap} {tk' : Nat} {news' : List (Addr × Obj)} {fv : List Value} {fc n : Nat} {ti ta tb : Tok}
    (hc : idx + (x - idx + 1).fmod 8 < lim) (F' : Fr h₀ L h' m') (N' : News h₀ L h' news') (i0 : (fd, listOf (fv.toArray.push (.ref T)) fc) ∈ news') (i1 : (du, odu) ∈ news') (i2 : (nb, onb) ∈ news')
    (iT : (T, ({ cls := .type "tuple", data := .seq [.int k ta, .int (idx + (x - idx + 1).fmod 8) tb].toArray n } : Obj)) ∈ news') (it : ∀ p ∈ tl ++ (tl' ++ own), p ∈ news')
    (hT : @LT.lt Nat _ fd T ∧ @LT.lt Nat _ du T ∧ @LT.lt Nat _ nb T ∧ AllLt T (tl ++ (tl' ++ own)))
    (hD : DatAll tl' fv (fs.map datOf)) (hm : m' (Str.ofString "index") = some (.int (idx + (x - idx + 1).fmod 8 + 1) ti)) (hz : ∀ z, z ≠ Str.ofString "at" → z ≠ Str.ofString "index" → z ≠ Str.ofString "skipped" → m' z = m₀ z) :
    Turn3 h₀ L fd du nb odu onb tl tl' own m₀ k x idx lim fs s .next { s with heap := h', toks := tk' } := by
  refine ⟨.inl rfl, fv ++ [.ref T], fs ++ [(k, idx + (x - idx + 1).fmod 8)], fc, idx + (x - idx + 1).fmod 8 + 1, ti, [(T, ({ cls := .type "tuple", data := .seq [.int k ta, .int (idx + (x - idx + 1).fmod 8) tb].toArray n } : Obj))], m', h', tk', rfl, F', ?_, ?_, ?_, ?_, ?_, hm, hz⟩
  · have e : (fv ++ [Value.ref T]).toArray = fv.toArray.push (.ref T) := by simp
    rw [e]
    intro q hq
    simp only [List.cons_append, List.nil_append, List.mem_cons] at hq
    refine N' q ?_
    rcases hq with rfl | rfl | rfl | rfl | hq
    · exact i0
    · exact i1
    · exact i2
    · exact iT
    · exact it q hq
  · rw [List.map_append]
    refine DatAll.append (DatAll.mono (fun p hp => List.mem_append_right _ hp) hD) (DatAll.one ?_)
    exact DatIn.tuple (List.mem_append_left _ (List.mem_singleton.mpr rfl)) (.cons (.int _ _) (.cons (.int _ _) .nil))
  · intro p hp
    rw [List.mem_singleton.mp hp]
    exact ⟨_, _, rfl⟩
  · intro p hp
    rw [List.mem_singleton.mp hp]
    exact ⟨⟨hT.1, hT.2.1, hT.2.2.1⟩, hT.2.2.2⟩
  · unfold step3
    rw [if_pos hc]

theorem rk_zero (a : Int) : rangeKs a 0 = [] := rfl
theorem rk_succ (a : Int) (n : Nat) : rangeKs a (n + 1) = a :: rangeKs (a + 1) n := by
  unfold rangeKs
  rw [List.range_succ_eq_map, List.map_cons, List.map_map]
  congr 1
  · simp
  · apply List.map_congr_left
    intro i _
    show a + ((i + 1 : Nat) : Int) = a + 1 + (i : Int)
    omega
theorem fm8 (y : Int) : y.fmod 8 = y % 8 := Int.fmod_eq_emod_of_nonneg y (by decide)

theorem first_hit {x : Int} (hx : 0 ≤ x ∧ x < 8) : ∀ (n : Nat) (idx : Int),
    ((x - idx + 1).fmod 8 < (n : Int) → ∃ t, (rangeKs idx n).filter (fun k => ((k + 7).fmod 8 == x)) = (idx + (x - idx + 1).fmod 8) :: t) ∧
    ((n : Int) ≤ (x - idx + 1).fmod 8 → (rangeKs idx n).filter (fun k => ((k + 7).fmod 8 == x)) = [])
  | 0, idx => by
    refine ⟨fun h => ?_, fun _ => rfl⟩
    have := Int.fmod_nonneg_of_pos (x - idx + 1) (show (0 : Int) < 8 by decide)
    omega
  | n + 1, idx => by
    have ih := first_hit hx n (idx + 1)
    rw [rk_succ, List.filter_cons]
    simp only [fm8] at ih ⊢
    by_cases h : (idx + 7) % 8 = x
    · have h0 : (x - idx + 1) % 8 = 0 := by omega
      rw [h0]
      refine ⟨fun _ => ?_, fun hn => ?_⟩
      · simp only [h, beq_self_eq_true, if_true, Int.add_zero]
        exact ⟨_, rfl⟩
      · omega
    · have h1 : (x - (idx + 1) + 1) % 8 = (x - idx + 1) % 8 - 1 := by omega
      have h2 : ((idx + 7) % 8 == x) = false := by simpa using h
      rw [h1] at ih
      simp only [h2, Bool.false_eq_true, if_false]
      refine ⟨fun hn => ?_, fun hn => ih.2 (by omega)⟩
      obtain ⟨t, ht⟩ := ih.1 (by omega)
      refine ⟨t, ?_⟩
      rw [ht]
      congr 1
      omega

theorem rk_ge : ∀ (n : Nat) (a k : Int), k ∈ rangeKs a n → a ≤ k
  | 0, a, k, h => nomatch h
  | n + 1, a, k, h => by
    rw [rk_succ] at h
    rcases List.mem_cons.mp h with rfl | h
    · exact Int.le_refl _
    · have := rk_ge n (a + 1) k h
      omega

theorem cut_rk (y : Int) : ∀ (n : Nat) (idx : Int), idx ≤ y + 1 → (rangeKs idx n).filter (fun k => decide (y < k)) = rangeKs (y + 1) (idx + n - (y + 1)).toNat
  | 0, idx, h => by
    have e : (idx + ((0 : Nat) : Int) - (y + 1)).toNat = 0 := by omega
    rw [e]
    rfl
  | n + 1, idx, h => by
    by_cases hy : y < idx
    · have e : idx = y + 1 := by omega
      have e2 : (idx + ((n + 1 : Nat) : Int) - (y + 1)).toNat = n + 1 := by omega
      rw [e2, ← e]
      refine List.filter_eq_self.mpr fun k hk => ?_
      have := rk_ge _ _ _ hk
      exact decide_eq_true (by omega)
    · rw [rk_succ, List.filter_cons]
      have hd : decide (y < idx) = false := decide_eq_false hy
      simp only [hd, Bool.false_eq_true, if_false]
      rw [cut_rk y n (idx + 1) (by omega)]
      congr 2
      omega

/-- the plain law: both readings give the same pairs -/
theorem plain : ∀ (ns : List Int) (a : Nat) (idx lim : Int) (fs : List (Int × Int)), (∀ x ∈ ns, 0 ≤ x ∧ x < 8) →
    (run3 a ns idx lim fs).2 = run2 a ns (rangeKs idx (lim - idx).toNat) fs
  | [], _, _, _, _, _ => rfl
  | x :: xs, a, idx, lim, fs, h => by
    have hx := h x (List.mem_cons_self ..)
    have hr := fun y hy => h y (List.mem_cons_of_mem _ hy)
    show (run3 (a + 1) xs (step3 a x idx lim fs).1 lim (step3 a x idx lim fs).2).2 = run2 (a + 1) xs (step2 a x (rangeKs idx (lim - idx).toNat) fs).1 (step2 a x (rangeKs idx (lim - idx).toNat) fs).2
    rw [plain xs (a + 1) _ lim _ hr]
    have f := first_hit hx (lim - idx).toNat idx
    have sk0 := Int.fmod_nonneg_of_pos (x - idx + 1) (show (0 : Int) < 8 by decide)
    by_cases hc : idx + (x - idx + 1).fmod 8 < lim
    · obtain ⟨t, ht⟩ := f.1 (by omega)
      have e3 : step3 a x idx lim fs = (idx + (x - idx + 1).fmod 8 + 1, fs ++ [((a : Int), idx + (x - idx + 1).fmod 8)]) := by
        unfold step3
        rw [if_pos hc]
      have e2 : step2 a x (rangeKs idx (lim - idx).toNat) fs = (rangeKs (idx + (x - idx + 1).fmod 8 + 1) (lim - (idx + (x - idx + 1).fmod 8 + 1)).toNat, fs ++ [((a : Int), idx + (x - idx + 1).fmod 8)]) := by
        unfold step2
        rw [ht, if_neg (by simp)]
        have e : ((idx + (x - idx + 1).fmod 8) :: t).getD 0 0 = idx + (x - idx + 1).fmod 8 := rfl
        rw [e, cut_rk _ _ _ (by omega)]
        have e4 : (idx + (((lim - idx).toNat : Nat) : Int) - (idx + (x - idx + 1).fmod 8 + 1)).toNat = (lim - (idx + (x - idx + 1).fmod 8 + 1)).toNat := by omega
        rw [e4]
      rw [e3, e2]
    · have ht := f.2 (by omega)
      have e3 : step3 a x idx lim fs = (idx, fs) := by
        unfold step3
        rw [if_neg hc]
      have e2 : step2 a x (rangeKs idx (lim - idx).toNat) fs = (rangeKs idx (lim - idx).toNat, fs) := by
        unfold step2
        rw [ht, if_pos rfl]
      rw [e3, e2]

section
open LCg
variable {prog : Program} {w : World} {A : Around} {s : Shared} {h₀ : Heap} {L : Addr} {m : Str → Option Value} {env : Env}
theorem rest_same {elt : Expr} {x : Str} {scope : Scope} {cl : List (Str × Addr)} {S : List (Addr × Obj) → Prop} {Fin : List Value → List (Addr × Obj) → Prop} {news L9 : List (Addr × Obj)} {vs : List Value} {ds : List (Int × Int)}
    (hD : DatAll L9 vs (ds.map datOf)) (sub : ∀ p ∈ L9, p ∈ news) (hS : S news)
    (eltW : ∀ (T : Addr) (its : Array Value) (I : Addr) (oI : Obj) (C : Addr) (oC : Obj) (D : Addr) (ys : List Value) (m₂ : Str → Option Value) (h : Heap) (tk : Nat) (E' : Value → Shared → Prop), NsObj oC m₂ → m₂ x = some (.ref T) → IsTup h T its → Fr h₀ L h m → News h₀ L h ((I, oI) :: (C, oC) :: (D, lst ys) :: news) → Off3 I C D news → ((@Ne Nat I C) ∧ (@Ne Nat I D) ∧ (@Ne Nat C D)) →
      wpAny (model prog w) A (eval elt (compEnvC scope cl C env)) (fun y s' => EltEnd h₀ L m { s with heap := h, toks := tk } ((I, oI) :: (C, oC) :: (D, lst ys) :: news) (.ref T) y s') E' { s with heap := h, toks := tk })
    (fin : Fin vs news) :
    CompRest prog w A h₀ L m env elt x scope cl s S (fun i v => vs.toArray[i]? = some v) Fin vs.toArray.size 0 [] news := by
  have go : ∀ k i, i + k = vs.length → CompRest prog w A h₀ L m env elt x scope cl s S (fun i v => vs.toArray[i]? = some v) Fin k i (vs.take i) news := by
    intro k
    induction k with
    | zero =>
      intro i hk
      have e : vs.take i = vs := List.take_of_length_le (by omega)
      rw [e]
      exact CompRest.zero fin
    | succ k ih =>
      intro i hk
      refine CompRest.succ fun v I oI C oC D m₂ h tk E' hv hC hx F N off ne => ?_
      have hlt : i < vs.length := by omega
      have hv2 : vs[i]? = some v := by simpa using hv
      have hv3 : vs[i] = v := by rw [List.getElem?_eq_getElem hlt] at hv2; exact Option.some.inj hv2
      have hlen : (ds.map datOf).length = vs.length := hD.length.symm
      obtain ⟨v', hv', hin⟩ := hD.get (k := i) (by omega)
      rw [hv2] at hv'
      cases hv'
      rw [List.getElem_map] at hin
      obtain ⟨T, its, n, rfl, hm⟩ : ∃ T its n, v = .ref T ∧ (T, ({ cls := .type "tuple", data := .seq its n } : Obj)) ∈ L9 := by
        unfold datOf at hin
        cases hin with
        | tuple hm _ => exact ⟨_, _, _, rfl, hm⟩
      have ht : IsTup h T its := ⟨_, (N _ (List.mem_cons_of_mem _ (List.mem_cons_of_mem _ (List.mem_cons_of_mem _ (sub _ hm))))).1, rfl, n, rfl⟩
      have hs : vs.take (i + 1) = vs.take i ++ [.ref T] := by rw [List.take_add_one, List.getElem?_eq_getElem hlt, hv3]; rfl
      refine wpAny_mono (eltW T its I oI C oC D (vs.take i) m₂ h tk E' hC hx ht F N off ne) (fun y s' hE => ?_) fun _ _ e => e
      obtain ⟨rfl, h₁, tk₁, rfl, F₁, N₁⟩ := hE
      refine ⟨h₁, tk₁, news, rfl, F₁, N₁, off, hS, ?_⟩
      have r := ih (i + 1) (by omega)
      rw [hs] at r
      exact r
  have hsz : vs.toArray.size = vs.length := List.size_toArray ..
  rw [hsz]
  exact go vs.length 0 (by omega)
end

theorem fin_eq {prog : Program} {w : World} {A : Around} {E : Value → Shared → Prop} {s : Shared} {h₀ : Heap} {L a b : Addr} {news n₁ n₂ : List (Addr × Obj)} {xs ys : List Value} {ka kb : Nat} {ds es : List (Int × Int)} {Q : Value → Shared → Prop}
    (N : News h₀ L s.heap news) (ma : (a, listOf xs.toArray ka) ∈ news) (Da : DatAll n₁ xs (ds.map datOf)) (sa : ∀ p ∈ n₁, p ∈ news)
    (mb : (b, listOf ys.toArray kb) ∈ news) (Db : DatAll n₂ ys (es.map datOf)) (sb : ∀ p ∈ n₂, p ∈ news) (he : ds = es)
    (hu : A.units + 64 < cLine) (h : Q (.bool true) s) : wpAny (model prog w) A (compareOp .Eq (.ref a) (.ref b)) Q E s := by
  have ok : ∀ l : List (Int × Int), ∀ d ∈ l.map datOf, kqdOk 8 d = true := by
    intro l d hd
    obtain ⟨x, _, rfl⟩ := List.mem_map.mp hd
    rfl
  refine kqd_eq N ma rfl rfl Da sa mb rfl rfl Db sb (ok _) (ok _) hu ?_
  subst he
  have e : ∀ (i : Decidable (ds.map datOf = ds.map datOf)), @decide _ i = true := fun i => @decide_eq_true _ i rfl
  rw [e]
  exact h
end Mine

open Mine
local macro_rules | `(tactic| walk_at "call ref") => `(tactic| (
    k_here
    (with_reducible show wpAny _ _ (call (Value.ref _) [Value.ref _, Value.int _ _]) _ _ _)
    k_dflt (refine' plank_cut ?F ?N ?U ?hk ?ha ?hc ?_)
    (case F => k_asm)
    (case N => k_asm)
    (case U => k_dflt k_updF)
    (case hk => decide)
    (case ha => first | omega)
    (case hc =>
      refine wpAny_call ?_
      k_dflt k_enter
      k_dflt k_steps
      all_goals (k_dflt (
        (rename Fr _ _ _ _ => kF9); (rename News _ _ _ _ => kN9);
        (refine ⟨_, _, _, _, _, _, _, _, _, rfl, rfl, ⟨Int.fmod_nonneg_of_pos _ (by decide), Int.fmod_lt_of_pos _ (by decide)⟩, ?_, kF9, kN9⟩);
        first
        | exact ⟨Int.fdiv_nonneg (by omega) (by decide), by omega, by omega⟩
        | exact ⟨by omega, (lc_hi _).1, (lc_hi _).2⟩)))
    intro r' t' a' ta' b' tb' n' h' tk' hr' hab' F' N'
    (try dsimp only [List.cons_append, List.nil_append] at N')
    (try k_fold)))
local macro_rules | `(tactic| walk_at "call ref") => `(tactic| (
    k_here
    (with_reducible show wpAny _ _ (call (Value.ref _) [Value.ref _]) _ _ _)
    k_dflt (refine' pier_cut ?F ?N ?hc ?_)
    (case F => k_asm)
    (case N => k_asm)
    (case hc =>
      refine wpAny_call ?_
      k_dflt k_enter
      k_dflt k_steps
      all_goals (k_dflt (
        (rename Fr _ _ _ _ => kF9); (rename News _ _ _ _ => kN9);
        (refine ⟨_, _, _, _, _, _, _, _, rfl, rfl, ⟨by omega, (pb_hi _).1, (pb_hi _).2⟩, kF9, kN9, ?_⟩);
        (refine List.forall_mem_cons.mpr ⟨?_, List.forall_mem_cons.mpr ⟨?_, List.forall_mem_nil _⟩⟩) <;> (refine ltN ?_; (try dsimp only); omega))))
    intro D' a' ta' b' tb' n' h' tk' hab' F' N' l1
    (try k_lt l1)
    (try k_sweep)))
local macro_rules | `(tactic| walk_at "pyIter ref") => `(tactic| (
    (with_reducible show wpAny _ _ (pyIter (Value.ref _)) (fun it s₂ => LoopAtV _ _ _ _ _ _ _ _ _ it s₂) _ _)
    k_here
    (rename Fr _ _ _ _ => lF9); (rename News _ _ _ _ => lN9); (rename IsRange _ _ _ _ _ _ _ _ => rg9)
    (with_unfolding_all refine' loop1 lF9 lN9 rg9 rfl (by omega) rfl (by omega) (by assumption) ?_ ?_)
    (all_goals (try clear lF9 lN9))
    intro mk9 k9 t9 a9 ta9 b9 tb9 n9 vs9 ns9 cnt9 st9 ts9 u9 h9 tk9 own9 hoff9 hi9 hlen9 hab9 hst9 F9 N9
    (simp only [List.cons_append, List.nil_append] at N9)
    (try k_fold)
    rotate_left
    intro mk9 a9 ta9 b9 tb9 n9 vs9 ns9 cnt9 st9 ts9 u9 h9 tk9 hi9 hlen9 hall9 F9 N9
    rotate_left))

local macro_rules | `(tactic| walk_at "exec For Tuple Call cons nil") => `(tactic| (
    k_here
    (rename Fr _ _ _ _ => lF9)
    (with_unfolding_all refine' For_turns lF9 ?_)
    k_whole))
local macro_rules | `(tactic| walk_at "call type:enumerate") => `(tactic| (
    k_here
    (rename Fr _ _ _ _ => lF9); (rename News _ _ _ _ => lN9)
    ((with_unfolding_all refine' loop2 lF9 lN9 rfl (by assumption) (by assumption) (by assumption) (by assumption) rfl ⟨⟨by (try dsimp only); omega, by (try dsimp only); omega⟩, ⟨by (try dsimp only); omega, by (try dsimp only); omega⟩⟩ (by assumption) (by (simp only [rangeKs_length]; omega)) (by assumption) ?_ ?_))
    (all_goals (try clear lF9 lN9))
    intro mk9 I9 a9 x9 nm9 ls9 ds9 lf9 lv9 lc9 dv9 dc9 o19 o29 e19 e29 x19 x29 tl9 T9 t9 tx9 u9 h9 tk9 hx9 h159 hdv9 hl9 hD9 hO9 d19 d29 off9 ap9 hTup9 F9 N9
    (unfold Apart2 at ap9)
    (try k_fold)
    rotate_left
    intro mk9 lf9 lv9 lc9 dv9 dc9 o19 o29 tl9 u9 h9 tk9 hD9 hO9 F9 N9
    rotate_left))
local macro_rules | `(tactic| walk_at "CompSrcT") => `(tactic| (
    k_here
    (rename Fr _ _ _ _ => lF9); (rename News _ _ _ _ => lN9)
    k_dflt (refine' LCt.CompSrcT.ledger (by rfl) lF9 lN9 ?m9 ?s9 ?_)
    (case m9 => k_dflt k_mem)
    (case s9 => (rw [List.size_toArray, IntsAre.length (by assumption), PySem.sizeLine_eq]; omega))
    intro g9
    (first
      | ((rename SomeIs _ => sm9); k_dflt (refine' rest_filter2 sm9 ?hi ?hS ?test ?elt ?_))
      | ((rename NumIs _ => nm9); k_dflt (refine' rest_filter1 nm9 ?hi ?hS ?test ?elt ?_)))
    (case hi => k_asm)
    (case hS => k_dflt (exact Or.inr ⟨_, by k_mem, rfl, _, rfl⟩))
    (case test =>
      intro n9 t9 I9 oI9 C9 oC9 D9 ys9 m29 h9 tk9 E9 hC9 hx9 F9 N9 off9 ne9
      (simp only [LCg.Off3, and_true] at off9)
      (try k_fold)
      k_dflt k_steps
      all_goals (k_dflt ((rename Fr _ _ _ _ => f8); (rename News _ _ _ _ => n8); (refine ⟨?_, _, _, rfl, f8, n8⟩); (first | rfl))))
    (case elt =>
      intro n9 t9 I9 oI9 C9 oC9 D9 ys9 m29 h9 tk9 E9 hC9 hx9 F9 N9 off9 ne9
      (simp only [LCg.Off3, and_true] at off9)
      (try k_fold)
      k_dflt k_steps
      all_goals (k_dflt ((rename Fr _ _ _ _ => f8); (rename News _ _ _ _ => n8); exact ⟨rfl, _, _, rfl, f8, n8⟩)))
    intro us9 ms9 hms9 sm9 hus9
    (try clear lF9 lN9)))
local macro_rules | `(tactic| walk_at "pyIter ref") => `(tactic| (
    (with_reducible show wpAny _ _ (pyIter (Value.ref _)) (fun it s₂ => LoopAtV _ _ _ _ _ (Str.ofString "at") _ _ _ it s₂) _ _)
    k_here
    (rename Fr _ _ _ _ => lF9)
    (rename News _ _ _ _ => lN9)
    (rename IsRange _ _ _ _ _ _ _ _ => rg9)
    ((with_unfolding_all refine' loop3 lF9 lN9 rg9 rfl (by assumption) (by assumption) (by assumption) rfl rfl rfl ⟨⟨by (try dsimp only); omega, by (try dsimp only); omega⟩, by (try dsimp only); omega⟩ ?_ ?_))
    (all_goals (try clear lF9 lN9))
    intro mk9 k9 t9 idx9 ti9 fs9 fv9 fc9 u9 h9 tk9 tl9 own9 hk9 hfv9 hD9 off9 F9 N9
    (try k_fold)
    rotate_left
    intro mk9 idx9 ti9 fs9 fv9 fc9 u9 h9 tk9 tl9 hfs9 hfv9 hD9 hO9 F9 N9
    rotate_left))
local macro_rules | `(tactic| walk_at "Turn3") => `(tactic| (
    (rename Fr _ _ _ _ => f8)
    (rename News _ _ _ _ => n8)
    k_dflt ((refine' turn3_same ?a1 f8 n8 ?i0 (by k_mem) (by k_mem) (fun q hq => by k_ownIn) ?a4 ?hm ?hz))
    (case i0 => k_dflt k_mem)
    (case hm => with_unfolding_all rfl)
    (case a1 => k_dflt assumption)
    (case a4 => k_dflt assumption)
    (case hz => k_dflt (intro z h1 h2 h3; simp only [if_neg h1, if_neg h2, if_neg h3]))))
local macro_rules | `(tactic| walk_at "Turn3") => `(tactic| (
    (rename Fr _ _ _ _ => f8)
    (rename News _ _ _ _ => n8)
    k_dflt ((refine' turn3_new ?a1 f8 n8 ?i0 (by k_mem) (by k_mem) ?iT (fun q hq => by k_ownIn) ?a2 ?a4 ?hm ?hz))
    (case i0 => k_dflt k_mem)
    (case hm => with_unfolding_all rfl)
    (case iT => k_dflt k_mem)
    (case a1 => k_dflt assumption)
    (case a4 => k_dflt assumption)
    (case a2 => k_dflt assumption)
    (case hz => k_dflt (intro z h1 h2 h3; simp only [if_neg h1, if_neg h2, if_neg h3]))))
local macro_rules | `(tactic| walk_at "subscriptTail") => `(tactic| (
    k_here
    (with_reducible show wpAny _ _ (subscriptTail _ _ (Value.ref _) (Value.int 0 _)) _ _ _)
    (rename SomeIs _ => sm9)
    k_dflt (refine' some_sub sm9 ?N ?m ?hi ?hne ?_ ?hs)
    (case N => k_asm)
    (case m => k_dflt k_mem)
    (case hi => k_asm)
    (case hne => k_asm)
    (case hs => with_unfolding_all rfl)
    intro t9))
local macro_rules | `(tactic| walk_at "Turn1") => `(tactic| (
    (rename Fr _ _ _ _ => f8)
    (rename News _ _ _ _ => n8)
    k_dflt (refine' turn1_end f8 n8 (by assumption) (by k_mem) ?i2 ?i3 (by k_mem) (by k_mem) (fun q hq => by k_ownIn) ?hm ?hx ?hab ?hst ?hz)
    (case i2 => k_dflt k_mem)
    (case i3 => k_dflt k_mem)
    (case hm => with_unfolding_all rfl)
    (case hx => k_dflt (first | exact ⟨Int.fmod_nonneg_of_pos _ (by decide), Int.fmod_lt_of_pos _ (by decide)⟩ | omega))
    (case hab => k_dflt omega)
    (case hst => k_dflt (exact st_b (by assumption)))
    (case hz => k_dflt (intro z h1 h2; simp only [if_neg h1, if_neg h2]))))
local macro_rules | `(tactic| walk_at "Turn2") => `(tactic| (
    (rename Fr _ _ _ _ => f8)
    (rename News _ _ _ _ => n8)
    k_dflt ((refine' turn2_same ?a1 ?a2 f8 n8 ?hm (by k_mem) (by k_mem) ?i2 ?i3 (by k_mem) (by k_mem) (by k_mem) ?it ?a3 ?a4 ?a5 ?a6 ?a7 ?a8 ?hz))
    (case hm => with_unfolding_all rfl)
    (case i2 => k_dflt k_mem)
    (case i3 => k_dflt k_mem)
    (case a3 => k_dflt assumption)
    (case a1 => k_dflt assumption)
    (case a2 => k_dflt (first | assumption | simpa using (by assumption)))
    (case a4 => k_dflt assumption)
    (case it => k_dflt (intro q hq; k_ownIn))
    (case a5 => k_dflt assumption)
    (case a6 => k_dflt assumption)
    (case a7 => k_dflt assumption)
    (case a8 => k_dflt (first | (constructor <;> (refine neN ?_; (try dsimp only); omega))))
    (case hz => k_dflt (intro z h1 h2; simp only [if_neg h1, if_neg h2]))))
local macro_rules | `(tactic| walk_at "Turn2") => `(tactic| (
    (rename Fr _ _ _ _ => f8)
    (rename News _ _ _ _ => n8)
    k_dflt ((refine' turn2_new ?a1 ?a2 ?a0 f8 n8 ?hm (by k_mem) (by k_mem) ?i2 ?i3 (by k_mem) (by k_mem) (by k_mem) ?iT ?it ?a3 ?a4 ?a5 ?a6 ?a7 ?a8 ?hz))
    (case hm => with_unfolding_all rfl)
    (case i2 => k_dflt k_mem)
    (case i3 => k_dflt k_mem)
    (case a3 => k_dflt assumption)
    (case a1 => k_dflt assumption)
    (case a2 => k_dflt (first | assumption | simpa using (by assumption)))
    (case a4 => k_dflt assumption)
    (case it => k_dflt (intro q hq; k_ownIn))
    (case a5 => k_dflt assumption)
    (case a6 => k_dflt assumption)
    (case a7 => k_dflt assumption)
    (case a8 => k_dflt (first | (constructor <;> (refine neN ?_; (try dsimp only); omega))))
    (case iT => k_dflt k_mem)
    (case a0 => k_dflt assumption)
    (case hz => k_dflt (intro z h1 h2; simp only [if_neg h1, if_neg h2]))))
local macro_rules | `(tactic| walk_at "eval ListComp") => `(tactic| (
    k_here
    (with_reducible show wpAny _ _ (eval (Expr.ListComp _ [⟨_, Expr.Call (Expr.Name (Str.ofString "in_turn") _) _ _ _, [], _⟩] _ _) _) _ _ _)
    k_dflt ((refine LCg.ListComp_U (F₀ := by k_asm) (by with_unfolding_all rfl) (by decide) (by rfl) (by decide) (by rfl) ?_))
    (try k_fold)))
local macro_rules | `(tactic| walk_at "CompSrc") => `(tactic| (
    k_here
    (rename Fr _ _ _ _ => lF9)
    (rename News _ _ _ _ => lN9)
    k_dflt ((refine' LCg.CompSrc.ledger (by rfl) lF9 lN9 ?m9 ?s9 ?_))
    (case m9 => k_dflt (first | k_mem))
    (case s9 => k_dflt (first | (rw [List.size_toArray, PySem.sizeLine_eq]; omega)))
    intro g9
    k_dflt ((refine' rest_same ?hD ?sub ?hS ?elt ?_))
    (case hD => k_asm)
    (case sub => k_dflt (kqd_sub))
    (case hS => k_dflt (exact Or.inr ⟨_, by k_mem, rfl, _, rfl⟩))
    (case elt =>
      intro T9 its9 I9 oI9 C9 oC9 D9 ys9 m29 h9 tk9 E9 hC9 hx9 hT9 F9 N9 off9 ne9
      (simp only [LCg.Off3, and_true] at off9)
      (try k_fold)
      k_dflt k_steps
      all_goals (k_dflt ((rename Fr _ _ _ _ => f8); (rename News _ _ _ _ => n8); exact ⟨rfl, _, _, rfl, f8, n8⟩)))
    (try clear lF9 lN9)))
local macro_rules | `(tactic| walk_at "compareOp Eq ref ref") => `(tactic| (
    k_here
    k_dflt ((refine' fin_eq ?N ?ma ?Da ?sa ?mb ?Db ?sb ?he ?hu ?_))
    (case N => k_asm)
    (case ma => k_dflt (k_mem))
    (case mb => k_dflt (k_mem))
    (case Da => k_asm)
    (case Db => k_asm)
    (case sa => k_dflt (kqd_sub))
    (case sb => k_dflt (kqd_sub))
    (case he => k_dflt (first | exact Eq.trans (by assumption) (plain _ _ _ _ _ (by assumption))))
    (case hu => k_dflt (ke_room))))

set_option maxRecDepth 100000 in
set_option maxHeartbeats 8000000 in
theorem PySem.Challenge.cw_xm0787_01_holds : PySem.Challenge.rw_xm0787_01.Holds := by
  open_k
